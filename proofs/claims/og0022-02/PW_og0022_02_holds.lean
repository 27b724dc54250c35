import PyProof.Rows.All
import Wide.All
import OpenK.AllK
import Wide.FinOn
import Lean
import PySem.Challenge.RW_og0022_02
set_option Elab.async false
set_option bootstrap.genMatcherCode false
set_option genCtorIdx false
set_option backward.match.sparseCases false
set_option maxRecDepth 100000
set_option linter.all false
set_option maxHeartbeats 1000000
set_option genSizeOf false
set_option genInjectivity false
namespace Mine
open Nat.Internal.Linear (Expr Context ExprCnstr)
noncomputable abbrev xZ(x:Nat):Nat × Nat:=
 bif Nat.beq (x % 64) 3 then(x / 64 / 64 % 64 ^ (x / 64 % 64),x / 64 / 64 / 64 ^ (x / 64 % 64))else(x % 64-24,x / 64)
noncomputable abbrev pv(f:Nat):Nat→Expr × Nat:=
 Nat.rec (fun x=>(.num 0,x)) (fun _ g x=>
  bif Nat.beq (x % 64) 0 then(.add (g (x / 64)).1 (g (g (x / 64)).2).1,(g (g (x / 64)).2).2)
  else bif Nat.beq (x % 64) 1 then(.mulL (xZ (x / 64)).1 (g (xZ (x / 64)).2).1,(g (xZ (x / 64)).2).2)
  else bif Nat.beq (x % 64) 2 then(.mulR (g (x / 64)).1 (xZ (g (x / 64)).2).1,(xZ (g (x / 64)).2).2)
  else bif Nat.ble (x % 64) 3 then(.num (xZ x).1,(xZ x).2)
  else bif Nat.ble (x % 64) 23 then(.var (x % 64-4),x / 64)
  else(.num (xZ x).1,(xZ x).2)) f
noncomputable abbrev CA(n:Nat):Nat→List (Nat × Expr × Expr):=
 Nat.rec (fun _=>[]) (fun _ g x=>
  (x % 64,(pv 20 (x / 64)).1,(pv 20 (pv 20 (x / 64)).2).1)::g (pv 20 (pv 20 (x / 64)).2).2) n
noncomputable abbrev uR(ρ:Context)(p q:Expr)(l:List (Nat × Expr × Expr)):Prop:=
 List.rec (p.denote ρ≤q.denote ρ) (fun x _ P=>x.2.1.denote ρ≤x.2.2.denote ρ→P) l
noncomputable abbrev Cx(p:Expr)(l:List (Nat × Expr × Expr)):Expr:=List.rec p (fun x _ e=>.add (.mulL x.1 x.2.2) e) l
noncomputable abbrev CE(q:Expr)(l:List (Nat × Expr × Expr)):Expr:=List.rec q (fun x _ e=>.add (.mulL x.1 x.2.1) e) l
noncomputable abbrev A6(k:Nat)(p q:Expr)(r:List (Nat × Expr × Expr)):Bool:=
 Nat.ble 1 k&&(ExprCnstr.mk false (Cx (.mulL k p) r) (CE (.add (.mulL k q) (.num (k-1))) r)).toNormPoly.isValid
theorem vy{ρ:Context}{p q:Expr}(r:List (Nat × Expr × Expr)):∀{x y:Expr},(Cx x r).denote ρ≤(CE y r).denote ρ→(x.denote ρ≤y.denote ρ→p.denote ρ≤q.denote ρ)→uR ρ p q r:=by
 induction r with
 |nil=>exact fun h k=>k h
 |cons z r ih=>exact fun h k hab=>ih (Nat.le_of_add_le_add_left (Nat.le_trans h (Nat.add_le_add_right (Nat.mul_le_mul_left z.1 hab) _))) k
theorem li(ρ:Context)(k:Nat)(p q:Expr)(r:List (Nat × Expr × Expr))(h:A6 k p q r=true):uR ρ p q r:=by
 have h:=Bool.and_eq_true_iff.mp h
 refine vy r (of_eq_true (ExprCnstr.eq_true_of_isValid ρ _ h.2)) fun e=>Nat.le_of_lt_succ (Nat.lt_of_mul_lt_mul_left (a:=k) (Nat.lt_of_le_of_lt e ?_))
 show k*q.denote ρ+(k-1)<k*q.denote ρ+k
 exact Nat.add_lt_add_left (Nat.sub_lt (Nat.le_of_ble_eq_true h.1) Nat.zero_lt_one) _
noncomputable abbrev oV(ρ:Context)(n x:Nat):Prop:=
 A6 (x % 64) (pv 20 (x / 64)).1 (pv 20 (pv 20 (x / 64)).2).1 (CA n (pv 20 (pv 20 (x / 64)).2).2)=true→uR ρ (pv 20 (x / 64)).1 (pv 20 (pv 20 (x / 64)).2).1 (CA n (pv 20 (pv 20 (x / 64)).2).2)
theorem bI{a:Nat}(n x:Nat):oV (.leaf a) n x:=li _ _ _ _ _
theorem aP{a b:Nat}(n x:Nat):oV (.branch 1 (.leaf a) (.leaf b)) n x:=li _ _ _ _ _
theorem bw{a b c:Nat}(n x:Nat):oV (.branch 1 (.leaf a) (.branch 2 (.leaf b) (.leaf c))) n x:=li _ _ _ _ _
theorem dW{a b c d:Nat}(n x:Nat):oV (.branch 1 (.leaf a) (.branch 2 (.leaf b) (.branch 3 (.leaf c) (.leaf d)))) n x:=li _ _ _ _ _
theorem mC{a b c d e:Nat}(n x:Nat):oV (.branch 1 (.leaf a) (.branch 2 (.leaf b) (.branch 3 (.leaf c) (.branch 4 (.leaf d) (.leaf e))))) n x:=li _ _ _ _ _
theorem zO{a b c d e f:Nat}(n x:Nat):oV (.branch 1 (.leaf a) (.branch 2 (.leaf b) (.branch 3 (.leaf c) (.branch 4 (.leaf d) (.branch 5 (.leaf e) (.leaf f)))))) n x:=li _ _ _ _ _
theorem Cv{a b c d e f g:Nat}(n x:Nat):oV (.branch 1 (.leaf a) (.branch 2 (.leaf b) (.branch 3 (.leaf c) (.branch 4 (.leaf d) (.branch 5 (.leaf e) (.branch 6 (.leaf f) (.leaf g))))))) n x:=li _ _ _ _ _
theorem Dc{a b c d e f g i:Nat}(n x:Nat):oV (.branch 1 (.leaf a) (.branch 2 (.leaf b) (.branch 3 (.leaf c) (.branch 4 (.leaf d) (.branch 5 (.leaf e) (.branch 6 (.leaf f) (.branch 7 (.leaf g) (.leaf i)))))))) n x:=li _ _ _ _ _
theorem cB{A B:Prop}{Q:Prop}(h:A∧B)(f:A→B→Q):Q:=f h.1 h.2
theorem o6{A B C:Prop}{Q:Prop}(h:A∧B∧C)(f:A→B→C→Q):Q:=f h.1 h.2.1 h.2.2
theorem gC{A B C D:Prop}{Q:Prop}(h:A∧B∧C∧D)(f:A→B→C→D→Q):Q:=f h.1 h.2.1 h.2.2.1 h.2.2.2
theorem Bs{A B C D E:Prop}{Q:Prop}(h:A∧B∧C∧D∧E)(f:A→B→C→D→E→Q):Q:=f h.1 h.2.1 h.2.2.1 h.2.2.2.1 h.2.2.2.2
theorem aT{α:Type}{A B:α→Prop}{Q:Prop}(h:∃x,A x∧B x)(f:∀x,A x→B x→Q):Q:=h.elim fun x0 w=>f x0 w.1 w.2
theorem jv{α:Type}{A B C:α→Prop}{Q:Prop}(h:∃x,A x∧B x∧C x)(f:∀x,A x→B x→C x→Q):Q:=h.elim fun x0 w=>f x0 w.1 w.2.1 w.2.2
theorem z8{α:Type}{A B C D:α→Prop}{Q:Prop}(h:∃x,A x∧B x∧C x∧D x)(f:∀x,A x→B x→C x→D x→Q):Q:=h.elim fun x0 w=>f x0 w.1 w.2.1 w.2.2.1 w.2.2.2
theorem ym{α β:Type}{A:α→β→Prop}{Q:Prop}(h:∃x y,A x y)(f:∀x y,A x y→Q):Q:=h.elim fun x0 w=>w.elim fun x1 w=>f x0 x1 w
theorem eB{α β:Type}{A B:α→β→Prop}{Q:Prop}(h:∃x y,A x y∧B x y)(f:∀x y,A x y→B x y→Q):Q:=h.elim fun x0 w=>w.elim fun x1 w=>f x0 x1 w.1 w.2
theorem hU{α β:Type}{A B C:α→β→Prop}{Q:Prop}(h:∃x y,A x y∧B x y∧C x y)(f:∀x y,A x y→B x y→C x y→Q):Q:=h.elim fun x0 w=>w.elim fun x1 w=>f x0 x1 w.1 w.2.1 w.2.2
theorem f8{α β:Type}{A B C D:α→β→Prop}{Q:Prop}(h:∃x y,A x y∧B x y∧C x y∧D x y)(f:∀x y,A x y→B x y→C x y→D x y→Q):Q:=h.elim fun x0 w=>w.elim fun x1 w=>f x0 x1 w.1 w.2.1 w.2.2.1 w.2.2.2
theorem s7{α β:Type}{A B C D E:α→β→Prop}{Q:Prop}(h:∃x y,A x y∧B x y∧C x y∧D x y∧E x y)(f:∀x y,A x y→B x y→C x y→D x y→E x y→Q):Q:=h.elim fun x0 w=>w.elim fun x1 w=>f x0 x1 w.1 w.2.1 w.2.2.1 w.2.2.2.1 w.2.2.2.2
theorem Cm{α β:Type}{A B C D E F:α→β→Prop}{Q:Prop}(h:∃x y,A x y∧B x y∧C x y∧D x y∧E x y∧F x y)(f:∀x y,A x y→B x y→C x y→D x y→E x y→F x y→Q):Q:=h.elim fun x0 w=>w.elim fun x1 w=>f x0 x1 w.1 w.2.1 w.2.2.1 w.2.2.2.1 w.2.2.2.2.1 w.2.2.2.2.2
theorem CX{α β γ:Type}{A:α→β→γ→Prop}{Q:Prop}(h:∃x y z,A x y z)(f:∀x y z,A x y z→Q):Q:=h.elim fun x0 w=>w.elim fun x1 w=>w.elim fun x2 w=>f x0 x1 x2 w
theorem kT{α β γ:Type}{A B:α→β→γ→Prop}{Q:Prop}(h:∃x y z,A x y z∧B x y z)(f:∀x y z,A x y z→B x y z→Q):Q:=h.elim fun x0 w=>w.elim fun x1 w=>w.elim fun x2 w=>f x0 x1 x2 w.1 w.2
theorem Ad{α β γ:Type}{A B C:α→β→γ→Prop}{Q:Prop}(h:∃x y z,A x y z∧B x y z∧C x y z)(f:∀x y z,A x y z→B x y z→C x y z→Q):Q:=h.elim fun x0 w=>w.elim fun x1 w=>w.elim fun x2 w=>f x0 x1 x2 w.1 w.2.1 w.2.2
theorem yq{α β γ:Type}{A B C D:α→β→γ→Prop}{Q:Prop}(h:∃x y z,A x y z∧B x y z∧C x y z∧D x y z)(f:∀x y z,A x y z→B x y z→C x y z→D x y z→Q):Q:=h.elim fun x0 w=>w.elim fun x1 w=>w.elim fun x2 w=>f x0 x1 x2 w.1 w.2.1 w.2.2.1 w.2.2.2
theorem zW{α β γ:Type}{A B C D E:α→β→γ→Prop}{Q:Prop}(h:∃x y z,A x y z∧B x y z∧C x y z∧D x y z∧E x y z)(f:∀x y z,A x y z→B x y z→C x y z→D x y z→E x y z→Q):Q:=h.elim fun x0 w=>w.elim fun x1 w=>w.elim fun x2 w=>f x0 x1 x2 w.1 w.2.1 w.2.2.1 w.2.2.2.1 w.2.2.2.2
theorem ya{α β γ δ:Type}{A B C D E F G:α→β→γ→δ→Prop}{Q:Prop}(h:∃x y z u,A x y z u∧B x y z u∧C x y z u∧D x y z u∧E x y z u∧F x y z u∧G x y z u)(f:∀x y z u,A x y z u→B x y z u→C x y z u→D x y z u→E x y z u→F x y z u→G x y z u→Q):Q:=h.elim fun x0 w=>w.elim fun x1 w=>w.elim fun x2 w=>w.elim fun x3 w=>f x0 x1 x2 x3 w.1 w.2.1 w.2.2.1 w.2.2.2.1 w.2.2.2.2.1 w.2.2.2.2.2.1 w.2.2.2.2.2.2
theorem CI{α β γ δ:Type}{A B C D E F G H:α→β→γ→δ→Prop}{Q:Prop}(h:∃x y z u,A x y z u∧B x y z u∧C x y z u∧D x y z u∧E x y z u∧F x y z u∧G x y z u∧H x y z u)(f:∀x y z u,A x y z u→B x y z u→C x y z u→D x y z u→E x y z u→F x y z u→G x y z u→H x y z u→Q):Q:=h.elim fun x0 w=>w.elim fun x1 w=>w.elim fun x2 w=>w.elim fun x3 w=>f x0 x1 x2 x3 w.1 w.2.1 w.2.2.1 w.2.2.2.1 w.2.2.2.2.1 w.2.2.2.2.2.1 w.2.2.2.2.2.2.1 w.2.2.2.2.2.2.2
theorem CT{α β γ δ ε:Type}{A:α→β→γ→δ→ε→Prop}{Q:Prop}(h:∃x y z u v,A x y z u v)(f:∀x y z u v,A x y z u v→Q):Q:=h.elim fun x0 w=>w.elim fun x1 w=>w.elim fun x2 w=>w.elim fun x3 w=>w.elim fun x4 w=>f x0 x1 x2 x3 x4 w
theorem De{α β γ δ ε:Type}{A B C D E:α→β→γ→δ→ε→Prop}{Q:Prop}(h:∃x y z u v,A x y z u v∧B x y z u v∧C x y z u v∧D x y z u v∧E x y z u v)(f:∀x y z u v,A x y z u v→B x y z u v→C x y z u v→D x y z u v→E x y z u v→Q):Q:=h.elim fun x0 w=>w.elim fun x1 w=>w.elim fun x2 w=>w.elim fun x3 w=>w.elim fun x4 w=>f x0 x1 x2 x3 x4 w.1 w.2.1 w.2.2.1 w.2.2.2.1 w.2.2.2.2
theorem CP{α β γ δ ε:Type}{A B C D E F G:α→β→γ→δ→ε→Prop}{Q:Prop}(h:∃x y z u v,A x y z u v∧B x y z u v∧C x y z u v∧D x y z u v∧E x y z u v∧F x y z u v∧G x y z u v)(f:∀x y z u v,A x y z u v→B x y z u v→C x y z u v→D x y z u v→E x y z u v→F x y z u v→G x y z u v→Q):Q:=h.elim fun x0 w=>w.elim fun x1 w=>w.elim fun x2 w=>w.elim fun x3 w=>w.elim fun x4 w=>f x0 x1 x2 x3 x4 w.1 w.2.1 w.2.2.1 w.2.2.2.1 w.2.2.2.2.1 w.2.2.2.2.2.1 w.2.2.2.2.2.2
theorem fz{A B C:Prop}(a1:A)(b1:B)(c1:C):A∧B∧C:=⟨a1,b1,c1⟩
theorem p6{A B C D:Prop}(a1:A)(b1:B)(c1:C)(d1:D):A∧B∧C∧D:=⟨a1,b1,c1,d1⟩
theorem v3{A B C D E:Prop}(a1:A)(b1:B)(c1:C)(d1:D)(e1:E):A∧B∧C∧D∧E:=⟨a1,b1,c1,d1,e1⟩
theorem bi{α:Type}{A B:α→Prop}(x:α)(a1:A x)(b1:B x):∃x,A x∧B x:=⟨x,a1,b1⟩
theorem iK{α:Type}{A B C:α→Prop}(x:α)(a1:A x)(b1:B x)(c1:C x):∃x,A x∧B x∧C x:=⟨x,a1,b1,c1⟩
theorem Cs{α:Type}{A B C D:α→Prop}(x:α)(a1:A x)(b1:B x)(c1:C x)(d1:D x):∃x,A x∧B x∧C x∧D x:=⟨x,a1,b1,c1,d1⟩
theorem rA{α β:Type}{A:α→β→Prop}(x:α)(y:β)(a1:A x y):∃x y,A x y:=⟨x,y,a1⟩
theorem dA{α β:Type}{A B:α→β→Prop}(x:α)(y:β)(a1:A x y)(b1:B x y):∃x y,A x y∧B x y:=⟨x,y,a1,b1⟩
theorem gc{α β:Type}{A B C:α→β→Prop}(x:α)(y:β)(a1:A x y)(b1:B x y)(c1:C x y):∃x y,A x y∧B x y∧C x y:=⟨x,y,a1,b1,c1⟩
theorem gi{α β:Type}{A B C D:α→β→Prop}(x:α)(y:β)(a1:A x y)(b1:B x y)(c1:C x y)(d1:D x y):∃x y,A x y∧B x y∧C x y∧D x y:=⟨x,y,a1,b1,c1,d1⟩
theorem jT{α β:Type}{A B C D E:α→β→Prop}(x:α)(y:β)(a1:A x y)(b1:B x y)(c1:C x y)(d1:D x y)(e1:E x y):∃x y,A x y∧B x y∧C x y∧D x y∧E x y:=⟨x,y,a1,b1,c1,d1,e1⟩
theorem Bm{α β:Type}{A B C D E F:α→β→Prop}(x:α)(y:β)(a1:A x y)(b1:B x y)(c1:C x y)(d1:D x y)(e1:E x y)(f1:F x y):∃x y,A x y∧B x y∧C x y∧D x y∧E x y∧F x y:=⟨x,y,a1,b1,c1,d1,e1,f1⟩
theorem vX{α β γ:Type}{A:α→β→γ→Prop}(x:α)(y:β)(z:γ)(a1:A x y z):∃x y z,A x y z:=⟨x,y,z,a1⟩
theorem yn{α β γ:Type}{A B:α→β→γ→Prop}(x:α)(y:β)(z:γ)(a1:A x y z)(b1:B x y z):∃x y z,A x y z∧B x y z:=⟨x,y,z,a1,b1⟩
theorem vZ{α β γ:Type}{A B C:α→β→γ→Prop}(x:α)(y:β)(z:γ)(a1:A x y z)(b1:B x y z)(c1:C x y z):∃x y z,A x y z∧B x y z∧C x y z:=⟨x,y,z,a1,b1,c1⟩
theorem wS{α β γ:Type}{A B C D:α→β→γ→Prop}(x:α)(y:β)(z:γ)(a1:A x y z)(b1:B x y z)(c1:C x y z)(d1:D x y z):∃x y z,A x y z∧B x y z∧C x y z∧D x y z:=⟨x,y,z,a1,b1,c1,d1⟩
theorem qF{α β γ:Type}{A B C D E:α→β→γ→Prop}(x:α)(y:β)(z:γ)(a1:A x y z)(b1:B x y z)(c1:C x y z)(d1:D x y z)(e1:E x y z):∃x y z,A x y z∧B x y z∧C x y z∧D x y z∧E x y z:=⟨x,y,z,a1,b1,c1,d1,e1⟩
theorem CU{α β γ:Type}{A B C D E F:α→β→γ→Prop}(x:α)(y:β)(z:γ)(a1:A x y z)(b1:B x y z)(c1:C x y z)(d1:D x y z)(e1:E x y z)(f1:F x y z):∃x y z,A x y z∧B x y z∧C x y z∧D x y z∧E x y z∧F x y z:=⟨x,y,z,a1,b1,c1,d1,e1,f1⟩
theorem yd{α β γ δ:Type}{A B C D E F G:α→β→γ→δ→Prop}(x:α)(y:β)(z:γ)(u:δ)(a1:A x y z u)(b1:B x y z u)(c1:C x y z u)(d1:D x y z u)(e1:E x y z u)(f1:F x y z u)(g1:G x y z u):∃x y z u,A x y z u∧B x y z u∧C x y z u∧D x y z u∧E x y z u∧F x y z u∧G x y z u:=⟨x,y,z,u,a1,b1,c1,d1,e1,f1,g1⟩
theorem Cy{α β γ δ:Type}{A B C D E F G H:α→β→γ→δ→Prop}(x:α)(y:β)(z:γ)(u:δ)(a1:A x y z u)(b1:B x y z u)(c1:C x y z u)(d1:D x y z u)(e1:E x y z u)(f1:F x y z u)(g1:G x y z u)(h1:H x y z u):∃x y z u,A x y z u∧B x y z u∧C x y z u∧D x y z u∧E x y z u∧F x y z u∧G x y z u∧H x y z u:=⟨x,y,z,u,a1,b1,c1,d1,e1,f1,g1,h1⟩
theorem Dk{α β γ δ ε:Type}{A:α→β→γ→δ→ε→Prop}(x:α)(y:β)(z:γ)(u:δ)(v:ε)(a1:A x y z u v):∃x y z u v,A x y z u v:=⟨x,y,z,u,v,a1⟩
theorem CO{α β γ δ ε:Type}{A B C D E:α→β→γ→δ→ε→Prop}(x:α)(y:β)(z:γ)(u:δ)(v:ε)(a1:A x y z u v)(b1:B x y z u v)(c1:C x y z u v)(d1:D x y z u v)(e1:E x y z u v):∃x y z u v,A x y z u v∧B x y z u v∧C x y z u v∧D x y z u v∧E x y z u v:=⟨x,y,z,u,v,a1,b1,c1,d1,e1⟩
theorem CZ{α β γ δ ε:Type}{A B C D E F G:α→β→γ→δ→ε→Prop}(x:α)(y:β)(z:γ)(u:δ)(v:ε)(a1:A x y z u v)(b1:B x y z u v)(c1:C x y z u v)(d1:D x y z u v)(e1:E x y z u v)(f1:F x y z u v)(g1:G x y z u v):∃x y z u v,A x y z u v∧B x y z u v∧C x y z u v∧D x y z u v∧E x y z u v∧F x y z u v∧G x y z u v:=⟨x,y,z,u,v,a1,b1,c1,d1,e1,f1,g1⟩
theorem sx(n k:Nat)(h:k≤n):∃g,n=g+k:=⟨n-k,(Nat.sub_add_cancel h).symm⟩
end Mine
namespace Mine
open PySem PySem.W PyProof.Rows
section
variable {α β γ:Type}{C:Prop}
theorem bE(h:false=true):C:=Bool.noConfusion h
theorem nE{a:α}(h:none=some a):C:=nomatch h
theorem nR{a:α}(h:some a=none):C:=nomatch h
@[elab_as_elim] theorem oE{a b:α}{M:α→Prop}(h:some a=some b)(k:M a):M b:=Option.some.inj h▸k
@[elab_as_elim] theorem oR{a b:α}{M:α→Prop}(h:some a=some b)(k:M b):M a:=Option.some.inj h▸k
@[elab_as_elim] theorem eE{a b:α}{M:α→Prop}(h:a=b)(k:M a):M b:=h▸k
@[elab_as_elim] theorem eR{a b:α}{M:α→Prop}(h:a=b)(k:M b):M a:=h▸k
@[elab_as_elim] theorem zM{n d:Nat}{M:Nat→Prop}(h:d<n+1)(h0:M 0)(hs:∀e,e<n→M (e+1)):M d:=by
 induction d using Nat.casesOn with
 |zero=>exact h0
 |succ e=>exact hs e (Nat.lt_of_succ_lt_succ h)
@[elab_as_elim] theorem CS{d:Nat}{M:Nat→Prop}(h:d<6)(h0:M 0)(h1:M 1)(h2:M 2)(h3:M 3)(h4:M 4)(h5:M 5):M d:=zM h h0 fun _ h=>zM h h1 fun _ h=>zM h h2 fun _ h=>zM h h3 fun _ h=>zM h h4 fun _ h=>zM h h5 fun _ h=>absurd h (Nat.not_lt_zero _)
@[elab_as_elim] theorem zV{M:α→Prop}{x a b:α}(m:x∈[a,b])(h1:M a)(h2:M b):M x:=(List.mem_cons.mp m).elim (fun q=>q▸h1) fun m=>List.mem_singleton.mp m▸h2
@[elab_as_elim] theorem AG{M:α→Prop}{x a b c d e:α}(m:x∈[a,b,c,d,e])(h1:M a)(h2:M b)(h3:M c)(h4:M d)(h5:M e):M x:=(List.mem_cons.mp m).elim (fun q=>q▸h1) fun m=>(List.mem_cons.mp m).elim (fun q=>q▸h2) fun m=>(List.mem_cons.mp m).elim (fun q=>q▸h3) fun m=>zV m h4 h5
@[elab_as_elim] theorem iE{c:Prop}[Decidable c]{x y:α}{M:α→Prop}(h1:c→M x)(h2:¬c→M y):M (if c then x else y):=(Decidable.em c).elim (fun h=>(if_pos h).symm▸h1 h) fun h=>(if_neg h).symm▸h2 h
@[elab_as_elim] theorem qE{a c:α}{b d:β}{M:α→β→Prop}(h:(a,b)=(c,d))(k:M a b):M c d:=by injection h with z1 z2;subst z1 z2;exact k
@[elab_as_elim] theorem qR{a c:α}{b d:β}{M:α→β→Prop}(h:(a,b)=(c,d))(k:M c d):M a b:=by injection h with z1 z2;subst z1 z2;exact k
@[elab_as_elim] theorem pE{a c:α}{b d:β}{M:α→β→Prop}(h:some (a,b)=some (c,d))(k:M a b):M c d:=by injection h with z1;injection z1 with z2 z3;subst z2 z3;exact k
@[elab_as_elim] theorem pR{a c:α}{b d:β}{M:α→β→Prop}(h:some (a,b)=some (c,d))(k:M c d):M a b:=by injection h with z1;injection z1 with z2 z3;subst z2 z3;exact k
@[elab_as_elim] theorem tE{a c:α}{b d:β}{x y:γ}{M:α→β→γ→Prop}(h:some (a,b,x)=some (c,d,y))(k:M a b x):M c d y:=by cases h;exact k
end
inductive V where
 |none|bool (b:Bool)|int (i:Int)|str (s:Str)|ki (i:Int)|ks (s:Str)
 |tup (id:Option Nat) (l:List V)
 |lst (l:List V)
 |inst (C:Nat) (fs:List (Nat × V))
 |dct (es:List (Str × V))
 |dcti (es:List (Int × V))
 |loc (n:Nat)
@[reducible] noncomputable def V.ctorIdx(x:V):Nat:=@V.casesOn (fun _=>Nat) x 0 (fun _=>1) (fun _=>2) (fun _=>3) (fun _=>4) (fun _=>5) (fun _ _=>6) (fun _=>7) (fun _ _=>8) (fun _=>9) (fun _=>10) (fun _=>11)
inductive Cell where
 |list (l:List V)|dict (es:List (Str × V))|gone
@[reducible] noncomputable def Cell.ctorIdx(x:Cell):Nat:=@Cell.casesOn (fun _=>Nat) x (fun _=>0) (fun _=>1) 2
structure Store where
 cells:List Cell
 nid:Nat
inductive Slot where
 |v (d:V)|own (l:List V)|ownd (es:List (Str × V))|ownk (es:List (Int × V))|owni (C:Nat) (fs:List (Nat × V))
@[reducible] noncomputable def Slot.ctorIdx(x:Slot):Nat:=@Slot.casesOn (fun _=>Nat) x (fun _=>0) (fun _=>1) (fun _=>2) (fun _=>3) (fun _ _=>4)
noncomputable abbrev ay:=Nat→Option Slot
noncomputable def ay.set(ρ:ay)(i:Nat)(sl:Slot):ay:=fun j=>if j=i then some sl else ρ j
noncomputable def ay.nil:ay:=fun _=>Option.none
set_option genCtorIdx true in
inductive Blt where
 |len|sorted|str|int|max|min
mutual
inductive E where
 |none|bool (b:Bool)|int (i:Int)|str (s:Str)
 |var (x:Nat)|glob (x:Nat)
 |attr (e:E) (a:Nat)
 |item (e i:E)
 |sfrom (e lo:E)|sto (e hi:E)
 |bin (op:Operator) (l r:E)
 |neg (e:E)
 |cmp (op:CmpOp) (l r:E)
 |nin (e:E) (x:Nat)
 |stray (told due worth one:Nat)
 |bop (op:BoolOp) (es:Es)
 |not (e:E)
 |ite (t b o:E)
 |isi (e:E) (cs:List Nat)
 |call (f:Nat) (args:Es)
 |new (C:Nat) (args:Es)
 |blt (b:Blt) (args:Es)
 |listof (it:It)|dictof (it:It)
 |meth (o:E) (m:Nat) (args:Es)
 |list (es:Es)|listm (es:Es)
 |tup (es:Es)|tupi (es:Es)
 |comp (elt:E) (tg:List Nat) (it:It) (fv:List Nat)
 |compif (elt:E) (tg:List Nat) (it:It) (c:E) (fv:List Nat)
inductive Es where
 |nil|cons (e:E) (r:Es)
inductive It where
 |val (e:E)|range (e:E)|enum (e:E)|zip (a b:E)
end
inductive Ghost where
 |freeze (x:Nat)|freezeLoc (x:Nat)
mutual
inductive S where
 |assign (x:Nat) (e:E)
 |assignOwn (x:Nat)
 |assignOwnd (x:Nat)
 |assignOwnk (x:Nat)
 |assign2 (x y:Nat) (e1 e2:E)
 |unpack2 (x y:Nat) (e:E)
 |setAttr (x a:Nat) (e:E)
 |setAttrD (x a:Nat)
 |setItem (o i e:E)
 |aug (x:Nat) (op:Operator) (e:E)
 |ite (t:E) (b o:Ss)
 |while (t:E) (b:Ss)
 |for (tg:List Nat) (it:It) (b:Ss)
 |ret (e:E)
 |append (o e:E)
 |extend (o e:E)
 |nodeInit (x a:Nat) (e:E)
 |expr (e:E)
 |g (g:Ghost) (s:S)
inductive Ss where
 |nil|cons (s:S) (r:Ss)
end
structure Calls where
 fn:Nat→List V→Store→Option (V × Store)
 new:Nat→List V→Store→Option (V × Store)
structure Tab where
 nm:Nat→Str
 gname:Nat→Str
 gval:Nat→Option V
 mth:Nat→Nat→Option Nat
 fld:Nat→Nat→Bool
 cls:Nat→Bool
noncomputable def bq:Nat:=1000000
noncomputable def cX(σ:Store):V→Option (List V)
 |.lst l=>some l
 |.loc n=>match σ.cells[n]? with
  |some (.list l)=>some l
  |_=>Option.none
 |_=>Option.none
noncomputable def dT(σ:Store):V→Option (List (Str × V))
 |.dct es=>some es
 |.loc n=>match σ.cells[n]? with
  |some (.dict es)=>some es
  |_=>Option.none
 |_=>Option.none
noncomputable def nT(s:Str):List V:=s.cps.toList.map fun c=>V.str ⟨#[c]⟩
noncomputable def gH(σ:Store):V→Option (List V)
 |.lst l=>some l
 |.tup _ l=>some l
 |.dct es=>some (es.map fun p=>V.ks p.1)
 |.str s=>if s.cps.toList.all (· <128)then some (nT s)else Option.none
 |_=>Option.none
noncomputable def sY:V→Option Int
 |.int i=>some i
 |_=>Option.none
noncomputable def wj:V→Option Bool
 |.bool i=>some i
 |_=>Option.none
noncomputable def kr:V→Option (List V)
 |.lst l=>some l
 |_=>Option.none
noncomputable def BT(σ:Store)(a b:V):Option V:=match a with
 |.int i=>(match b with
  |.int j=>some (.int (i+j))
  |_=>Option.none)
 |.str x=>(match b with
  |.str y=>if x.length+y.length≤bq then some (.str (x++y))else Option.none
  |_=>Option.none)
 |a=>(cX σ a).bind fun x=>(cX σ b).bind fun y=>if x.length+y.length≤bq then some (.lst (x++y))else Option.none
noncomputable def pM{α:Type}(f:Int→Int→Option α)(a b:V):Option α:=(sY a).bind fun i=>(sY b).bind fun j=>f i j
noncomputable def Bk(a b:V):Option V:=(sY b).bind fun j=>match a with
  |.int i=>if j.natAbs<2 ^ 64 then some (.int (i*j))else Option.none
  |.str a=>if j=1∧a.length≤1000 then some (.str a)else Option.none
  |.lst l=>if 0≤j∧j≤1000∧l.length≤1000 then some (.lst (List.replicate j.toNat l).flatten)else Option.none
  |_=>Option.none
noncomputable def gA(σ:Store)(op:Operator)(a b:V):Option V:=match op with
 |.Add=>BT σ a b
 |.Sub=>pM (fun i j=>some (.int (i-j))) a b
 |.Mult=>Bk a b
 |.Mod=>pM (fun i j=>if 0<j then some (.int (i % j))else Option.none) a b
 |.FloorDiv=>pM (fun i j=>if 0<j∧j<1073741824 then some (.int (i / j))else Option.none) a b
 |.Pow=>pM (fun i j=>if i=10∧j=18 then some (.int (10 ^ 18))else Option.none) a b
 |_=>Option.none
noncomputable def bJ(a b:V):Option Bool:=match a with
 |.int i=>(match b with
  |.int j=>some (i==j)
  |.str _=>some false
  |_=>Option.none)
 |.str x=>(match b with
  |.int _=>some false
  |.str y=>some (x==y)
  |_=>Option.none)
 |_=>Option.none
noncomputable def dZ:List V→List V→Option Bool
 |[],m=>some m.isEmpty
 |a::r,m=>match m with
  |[]=>some false
  |b::q=>(bJ a b).bind fun x=>(dZ r q).bind fun y=>some (x&&y)
noncomputable def zP(a b:V):Option Bool:=match a with
 |.none=>(match b with
  |.none=>some true
  |_=>Option.none)
 |.bool x=>(match b with
  |.bool y=>some (x==y)
  |.tup _ _=>some false
  |_=>Option.none)
 |.tup _ l=>(match b with
  |.tup _ m=>dZ l m
  |_=>Option.none)
 |.lst l=>(match b with
  |.lst m=>if l.isEmpty||m.isEmpty then some (l.isEmpty&&m.isEmpty)else Option.none
  |_=>Option.none)
 |a=>bJ a b
noncomputable def Db(a b:V):Option Bool:=match b with
 |.none=>(match a with
  |.none=>some true
  |.bool _=>some false
  |.tup _ _=>some false
  |.inst _ _=>some false
  |.int _=>some false
  |_=>Option.none)
 |.bool y=>(match a with
  |.none=>some false
  |.bool x=>some (x==y)
  |.tup _ _=>some false
  |.inst _ _=>some false
  |.int _=>some false
  |_=>Option.none)
 |_=>Option.none
noncomputable def Az(a b:V):Option Bool:=Db a b
noncomputable def Ag(σ:Store)(a b:V):Option Bool:=match a with
 |.str s=>(match b with
  |.tup _ l=>(match l with
   |[.str a,.str b]=>some (s==a||s==b)
   |_=>Option.none)
  |.str t=>some (!(Builtin.Str.occurrences t s 0 t.length 1).isEmpty)
  |d=>(dT σ d).bind fun es=>some (es.any fun p=>p.1==s))
 |_=>Option.none
noncomputable def fo(x:V):List V→Option Bool
 |[]=>some false
 |y::r=>match x with
  |.tup _ l=>(match y with
   |.tup _ m=>(dZ m l).bind fun a=>(fo x r).bind fun b=>some (a||b)
   |_=>Option.none)
  |_=>Option.none
noncomputable def gn(σ:Store)(op:CmpOp)(a b:V):Option Bool:=match op with
 |.Eq=>zP a b
 |.NotEq=>(zP a b).map (!·)
 |.Is=>Az a b
 |.IsNot=>(Az a b).map (!·)
 |.In=>Ag σ a b
 |.NotIn=>(Ag σ a b).map (!·)
 |.Lt=>pM (fun i j=>some (decide (i<j))) a b
 |.Gt=>pM (fun i j=>some (decide (i>j))) a b
 |.GtE=>pM (fun i j=>some (decide (i≥j))) a b
 |_=>Option.none
noncomputable def cY(es:List (Str × V))(k:Str):Option V:=(es.find? fun p=>p.1=k).map (·.2)
noncomputable def bn(es:List (Str × V))(k:Str)(v:V):List (Str × V):=
 if es.any (fun p=>p.1=k)then es.map (fun p=>if p.1=k then(p.1,v)else p)else es++[(k,v)]
noncomputable def ye(es:List (Int × V))(k:Int):Option V:=(es.find? fun p=>p.1=k).map (·.2)
noncomputable def wR(es:List (Int × V))(k:Int)(v:V):List (Int × V):=
 if es.any (fun p=>p.1=k)then es.map (fun p=>if p.1=k then(p.1,v)else p)else es++[(k,v)]
noncomputable def cr(l:List V)(i:Int):Option V:=if 0≤i then(if i<2 ^ 63 then l[i.toNat]? else Option.none)else if i= -1 then l.getLast? else Option.none
noncomputable def fj(σ:Store)(o i:V):Option V:=match o with
 |.lst l=>(match i with
  |.int i=>cr l i
  |_=>Option.none)
 |.tup _ l=>(match i with
  |.int i=>cr l i
  |_=>Option.none)
 |.str s=>(match i with
  |.int i=>if 0≤i∧i<2 ^ 63 then(s.cps.toList[i.toNat]?).map fun c=>V.str ⟨#[c]⟩else Option.none
  |_=>Option.none)
 |.dcti es=>(match i with
  |.ki k=>ye es k
  |_=>Option.none)
 |o=>(match i with
  |.int i=>(cX σ o).bind fun l=>cr l i
  |.str k=>(dT σ o).bind fun es=>cY es k
  |.ks k=>(dT σ o).bind fun es=>cY es k
  |_=>Option.none)
noncomputable def fI(o i:V):Option V:=(kr o).bind fun l=>(sY i).bind fun i=>if 0≤i∧i<2 ^ 63∧l.length≤bq then some (.lst (l.drop i.toNat))else Option.none
noncomputable def nQ(o i:V):Option V:=(kr o).bind fun l=>(sY i).bind fun i=>if 0≤i∧i<2 ^ 63∧l.length≤bq then some (.lst (l.take i.toNat))else Option.none
noncomputable def oQ(T:Tab):V→Nat→Option V
 |.inst C fs,a=>if T.fld C a then fs.lookup a else Option.none
 |_,_=>Option.none
noncomputable def y9(σ:Store):V→Option Nat
 |.lst l=>some l.length
 |.str s=>some s.length
 |.loc n=>match σ.cells[n]? with
  |some (.list l)=>some l.length
  |_=>Option.none
 |_=>Option.none
noncomputable def Store.push(σ:Store)(c:Cell):Store:=⟨σ.cells++[c],σ.nid⟩
noncomputable def Store.put(σ:Store)(n:Nat)(c:Cell):Store:=⟨σ.cells.set n c,σ.nid⟩
noncomputable def AT:V→Option (List V)
 |.tup _ l=>some l
 |_=>Option.none
noncomputable def cP(tg:List Nat)(d:V)(ρ:ay):Option ay:=match tg with
 |[]=>Option.none
 |x::r=>match r with
  |[]=>some (ρ.set x (.v d))
  |y::q=>(AT d).bind fun l=>match q with
   |[]=>(match l with
    |[a,b]=>some ((ρ.set x (.v a)).set y (.v b))
    |_=>Option.none)
   |z::w=>(match w with
    |[]=>(match l with
     |[a,b,c]=>some (((ρ.set x (.v a)).set y (.v b)).set z (.v c))
     |_=>Option.none)
    |_=>Option.none)
noncomputable def compLoop(f:V→Store→Option (List V × Store)):List V→Store→Option (List V × Store)
 |[],σ=>some ([],σ)
 |x::r,σ=>(f x σ).bind fun(ys,σ1)=>(compLoop f r σ1).bind fun(zs,σ2)=>some (ys++zs,σ2)
noncomputable def bo(ρ:ay)(fv:List Nat):ay:=fun j=>if fv.contains j then(match ρ j with|some (.v d)=>some (.v d)|_=>Option.none)else Option.none
noncomputable def iT:List Int→List Int:=fun l=>l.mergeSort (fun a b=>decide (a≤b))
noncomputable def pP(b:Blt)(vs:List V)(σ:Store):Option (V × Store):=match vs with
 |[]=>Option.none
 |d::r=>match r with
  |[]=>(match b with
   |.len=>(y9 σ d).bind fun n=>if n≤bq then some (.int n,σ)else Option.none
   |.str=>(match d with
    |.int i=>if i.natAbs<10 ^ 60 then some (.str (Str.ofString (toString i)),σ)else Option.none
    |_=>Option.none)
   |.int=>(match d with
    |.int i=>some (.int i,σ)
    |.bool b=>some (.int (if b then 1 else 0),σ)
    |_=>Option.none)
   |.sorted=>(match d with
    |.dcti es=>if es.length<64 then some (.lst ((iT (es.map (·.1))).map V.ki),σ)else Option.none
    |_=>Option.none)
   |_=>Option.none)
  |e::q=>(match q with
   |[]=>(match d with
    |.int i=>(match e with
     |.int j=>(match b with
      |.max=>some (.int (if j>i then j else i),σ)
      |.min=>some (.int (if j<i then j else i),σ)
      |_=>Option.none)
     |_=>Option.none)
    |_=>Option.none)
   |_=>Option.none)
noncomputable def gk:Nat→List V→List V
 |_,[]=>[]
 |n,x::r=>.tup Option.none [.int n,x]::gk (n+1) r
noncomputable def cI:List V→List V→List V
 |x::r,y::q=>.tup Option.none [x,y]::cI r q
 |_,_=>[]
noncomputable def dk:List V→Option (List (Str × V))
 |[]=>some []
 |.tup _ [.str k,v]::r=>(dk r).map fun l=>(k,v)::l
 |_=>Option.none
noncomputable def itm:V→Bool
 |.str _=>true
 |.int _=>true
 |.lst _=>true
 |_=>false
noncomputable def eW:V→Bool
 |.tup (some _) l=>l.all itm
 |_=>false
noncomputable def zU:V→Option Nat
 |.tup i _=>i
 |_=>Option.none
noncomputable def i7(ts ds:List V):Bool:=ts.all eW&&ds.all eW&&ts.all (fun d=>ds.any fun e=>zU d==zU e)&&decide (ts.length≤bq)&&decide (ds.length≤bq)
noncomputable def iQ:Option Slot→Option V
 |some (.v d)=>some d
 |_=>Option.none
theorem iI{o:Option Slot}{d:V}(h:iQ o=some d):o=some (.v d):=by
 cases o with
 |none=>exact nE h
 |some s=>cases s with
  |v d=>exact oE h rfl
  |_=>exact nE h
section
variable (T:Tab)(c:Calls)
noncomputable def yu:Option Cell→Option (List (Str × V))
 |some (.dict es)=>some es
 |_=>Option.none
noncomputable def vq:V→Option Str
 |.str s=>some s
 |_=>Option.none
theorem oH{o:Option Cell}{es:List (Str × V)}(h:yu o=some es):o=some (.dict es):=by
 induction o using Option.casesOn with
 |none=>exact nE h
 |some c=>induction c using Cell.casesOn with
  |dict es=>exact oE h rfl
  |list _=>exact nE h
  |gone=>exact nE h
theorem kZ{o:V}{s:Str}(h:vq o=some s):o=.str s:=by
 induction o using V.casesOn with
 |str s=>exact oE h rfl
 |_=>exact nE h
noncomputable def tJ(d:V)(m:Nat)(vs:List V)(σ0 σ:Store):Option (V × Store):=match d with
 |.inst C fs=>if(fs.lookup m).isNone then(T.mth C m).bind fun f=>c.fn f (.inst C fs::vs) σ else Option.none
 |.str s=>if T.nm m=("rfind":Str)then(match vs with
   |[.str t]=>some (.int (Txt.rfind s t),σ)
   |_=>Option.none)else Option.none
 |.loc n=>if T.nm m=("get":Str)then(yu σ0.cells[n]?).bind fun _=>(yu σ.cells[n]?).bind fun es=>match vs with
   |[a,dv]=>(vq a).bind fun k=>some ((cY es k).getD dv,σ)
   |_=>Option.none else Option.none
 |_=>Option.none
inductive OwnV where
 |l (x:Nat) (l:List V)|d (x:Nat) (es:List (Str × V))|k (x:Nat) (es:List (Int × V))|no
noncomputable def mI(x:Nat)(o:Option Slot):OwnV:=match o with
 |Option.none=>.no
 |some s=>match s with|.own l=>.l x l|.ownd es=>.d x es|.ownk es=>.k x es|_=>.no
noncomputable def eJ(ρ:ay):E→OwnV
 |.var x=>mI x (ρ x)
 |_=>.no
noncomputable def OwnV.Is(ρ:ay)(o:E):OwnV→Prop
 |.l x m=>o=.var x∧ρ x=some (.own m)|.d x es=>o=.var x∧ρ x=some (.ownd es)|.k x es=>o=.var x∧ρ x=some (.ownk es)|.no=>True
theorem we{x:Nat}{r:Option Slot}:∀{w:OwnV},mI x r=w→match w with|.l y l=>y=x∧r=some (.own l)|.d y es=>y=x∧r=some (.ownd es)|.k y es=>y=x∧r=some (.ownk es)|.no=>True:=by
 induction r using Option.casesOn with
 |none=>exact fun e=>e▸trivial
 |some s=>induction s using Slot.casesOn<;>exact fun e=>e▸(by first|exact trivial|exact⟨rfl,rfl⟩)
theorem jJ(ρ:ay)(o:E):(eJ ρ o).Is ρ o:=by
 induction o using E.casesOn with
 |var x=>
  have:=we (x:=x) (r:=ρ x) rfl
  show(mI x (ρ x)).Is ρ (.var x)
  cases h:mI x (ρ x)with
  |no=>trivial
  |_=>rw[h]at this;obtain⟨e,z⟩:=this;subst e;exact⟨rfl,z⟩
 |_=>trivial
noncomputable def uX:Option Cell→Option (List V)
 |some (.list l)=>some l
 |_=>Option.none
noncomputable def qU:V→Option Nat
 |.loc n=>some n
 |_=>Option.none
theorem m8{o:Option Cell}{l:List V}(h:uX o=some l):o=some (.list l):=by
 induction o using Option.casesOn with
 |none=>exact nE h
 |some c=>induction c using Cell.casesOn with
  |list l=>exact oE h rfl
  |dict _=>exact nE h
  |gone=>exact nE h
theorem kO{o:V}{n:Nat}(h:qU o=some n):o=.loc n:=by
 induction o using V.casesOn with
 |loc n=>exact oE h rfl
 |_=>exact nE h
mutual
noncomputable def ak:E→ay→Store→Option (V × Store)
 |.none,_,σ=>some (.none,σ)
 |.bool b,_,σ=>some (.bool b,σ)
 |.int i,_,σ=>some (.int i,σ)
 |.str s,_,σ=>some (.str s,σ)
 |.var x,ρ,σ=>match ρ x with
  |some (.v d)=>some (d,σ)
  |_=>Option.none
 |.glob x,_,σ=>(T.gval x).map fun d=>(d,σ)
 |.attr e a,ρ,σ=>(ak e ρ σ).bind fun(d,σ)=>(oQ T d a).map fun r=>(r,σ)
 |.item e i,ρ,σ=>(ak e ρ σ).bind fun(d,σ)=>(ak i ρ σ).bind fun(j,σ)=>(fj σ d j).map fun r=>(r,σ)
 |.sfrom e i,ρ,σ=>(ak e ρ σ).bind fun(d,σ)=>(ak i ρ σ).bind fun(j,σ)=>(fI d j).map fun r=>(r,σ)
 |.sto e i,ρ,σ=>(ak e ρ σ).bind fun(d,σ)=>(ak i ρ σ).bind fun(j,σ)=>(nQ d j).map fun r=>(r,σ)
 |.bin op l r,ρ,σ=>(ak l ρ σ).bind fun(a,σ)=>(ak r ρ σ).bind fun(b,σ)=>(gA σ op a b).map fun d=>(d,σ)
 |.neg e,ρ,σ=>(ak e ρ σ).bind fun(d,σ)=>(sY d).bind fun i=>some (.int (-i),σ)
 |.cmp op l r,ρ,σ=>(ak l ρ σ).bind fun(a,σ)=>(ak r ρ σ).bind fun(b,σ)=>(gn σ op a b).map fun d=>(.bool d,σ)
 |.nin e x,ρ,σ=>(ak e ρ σ).bind fun(a,σ)=>match a,ρ x with
  |.tup i m,some (.own l)=>(fo (.tup i m) l).map fun b=>(.bool (!b),σ)
  |_,_=>Option.none
 |.stray l x _ _,ρ,σ=>((iQ (ρ l)).bind kr).bind fun ts=>((iQ (ρ x)).bind kr).bind fun ds=>if i7 ts ds then some (.bool false,σ)else Option.none
 |.bop op es,ρ,σ=>xY op es ρ σ
 |.not e,ρ,σ=>(ak e ρ σ).bind fun(d,σ)=>(wj d).bind fun b=>some (.bool (!b),σ)
 |.ite t b o,ρ,σ=>(ak t ρ σ).bind fun(d,σ)=>(wj d).bind fun c=>match c with
  |true=>ak b ρ σ
  |false=>ak o ρ σ
 |.isi e cs,ρ,σ=>(ak e ρ σ).bind fun(d,σ)=>match d with
  |.inst C _=>if T.cls C&&cs.all T.cls&&decide (cs.length<20)then some (.bool (cs.contains C),σ)else Option.none
  |_=>Option.none
 |.call f args,ρ,σ=>(b8 args ρ σ).bind fun(vs,σ)=>c.fn f vs σ
 |.new C args,ρ,σ=>(b8 args ρ σ).bind fun(vs,σ)=>c.new C vs σ
 |.listof it,ρ,σ=>(match it with
  |.val e=>(ak e ρ σ).bind fun(d,σ)=>(kr d).bind fun l=>if l.length≤bq then some (.lst l,σ)else Option.none
  |.zip a b=>(ak a ρ σ).bind fun(d,σ)=>(ak b ρ σ).bind fun(f,σ)=>(kr d).bind fun l=>(kr f).bind fun m=>if l.length≤bq then some (.lst (cI l m),σ)else Option.none
  |_=>Option.none)
 |.dictof it,ρ,σ=>(match it with
  |.zip a b=>(ak a ρ σ).bind fun(d,σ)=>(ak b ρ σ).bind fun(f,σ)=>(kr d).bind fun l=>(kr f).bind fun m=>(dk (cI l m)).bind fun es=>if l.length≤bq then some (.loc σ.cells.length,σ.push (.dict (es.foldl (fun acc p=>bn acc p.1 p.2) [])))else Option.none
  |_=>Option.none)
 |.blt b args,ρ,σ=>(b8 args ρ σ).bind fun(vs,σ)=>pP b vs σ
 |.meth o m args,ρ,σ=>(ak o ρ σ).bind fun(d,σ0)=>(b8 args ρ σ0).bind fun(vs,σ)=>tJ T c d m vs σ0 σ
 |.list es,ρ,σ=>(b8 es ρ σ).bind fun(vs,σ)=>if vs.length≤100 then some (.lst vs,σ)else Option.none
 |.listm es,ρ,σ=>(b8 es ρ σ).bind fun(vs,σ)=>if vs.length≤100 then some (.loc σ.cells.length,σ.push (.list vs))else Option.none
 |.tup es,ρ,σ=>(b8 es ρ σ).bind fun(vs,σ)=>if vs.length≤100 then some (.tup Option.none vs,σ)else Option.none
 |.tupi es,ρ,σ=>(b8 es ρ σ).bind fun(vs,σ)=>if vs.length≤100 then some (.tup (some σ.nid) vs,⟨σ.cells,σ.nid+1⟩)else Option.none
 |.comp elt tg it fv,ρ,σ=>(cH it ρ σ).bind fun(l,σ)=>if bq<l.length then Option.none else
   (compLoop (fun x σ=>(cP tg x (bo ρ fv)).bind fun ρ'=>(ak elt ρ' σ).bind fun(d,σ)=>some ([d],σ)) l σ).bind fun(r,σ)=>some (.lst r,σ)
 |.compif elt tg it cnd fv,ρ,σ=>(cH it ρ σ).bind fun(l,σ)=>if bq<l.length then Option.none else
   (compLoop (fun x σ=>(cP tg x (bo ρ fv)).bind fun ρ'=>(ak cnd ρ' σ).bind fun(t,σ)=>(wj t).bind fun c=>match c with
    |true=>(ak elt ρ' σ).bind fun(d,σ)=>some ([d],σ)
    |false=>some ([],σ)) l σ).bind fun(r,σ)=>some (.lst r,σ)
noncomputable def b8:Es→ay→Store→Option (List V × Store)
 |.nil,_,σ=>some ([],σ)
 |.cons e r,ρ,σ=>(ak e ρ σ).bind fun(d,σ)=>(b8 r ρ σ).bind fun(ds,σ)=>some (d::ds,σ)
noncomputable def xY:BoolOp→Es→ay→Store→Option (V × Store)
 |_,.nil,_,_=>Option.none
 |op,.cons e r,ρ,σ=>(ak e ρ σ).bind fun(d,σ)=>(match r with
  |.nil=>some (d,σ)
  |r=>(wj d).bind fun c=>match op with
   |.And=>(match c with
    |true=>xY .And r ρ σ
    |false=>some (.bool false,σ))
   |.Or=>(match c with
    |true=>some (.bool true,σ)
    |false=>xY .Or r ρ σ))
noncomputable def cH:It→ay→Store→Option (List V × Store)
 |.val e,ρ,σ=>(ak e ρ σ).bind fun(d,σ)=>(gH σ d).map fun l=>(l,σ)
 |.range e,ρ,σ=>(ak e ρ σ).bind fun(d,σ)=>(sY d).bind fun n=>if-1000000≤n∧n≤1000000 then some ((List.range n.toNat).map fun(i:Nat)=>V.int (i:Int),σ)else Option.none
 |.enum e,ρ,σ=>(ak e ρ σ).bind fun(d,σ)=>(kr d).bind fun l=>if l.length≤bq then some (gk 0 l,σ)else Option.none
 |.zip a b,ρ,σ=>(ak a ρ σ).bind fun(d,σ)=>(ak b ρ σ).bind fun(f,σ)=>(kr d).bind fun l=>(kr f).bind fun m=>some (cI l m,σ)
end
inductive Fl where
 |next|ret (d:V)
noncomputable def aZ(f:V→ay→Store→Option (Fl × ay × Store)):List V→ay→Store→Option (Fl × ay × Store)
 |[],ρ,σ=>some (.next,ρ,σ)
 |x::r,ρ,σ=>(f x ρ σ).bind fun(fl,ρ,σ)=>match fl with
  |.next=>aZ f r ρ σ
  |.ret d=>some (.ret d,ρ,σ)
noncomputable def cu(t:ay→Store→Option (V × Store))(b:ay→Store→Option (Fl × ay × Store)):Nat→ay→Store→Option (Fl × ay × Store)
 |0,_,_=>Option.none
 |n+1,ρ,σ=>(t ρ σ).bind fun(d,σ)=>(wj d).bind fun c=>match c with
  |true=>(b ρ σ).bind fun(fl,ρ,σ)=>(match fl with
   |.next=>cu t b n ρ σ
   |.ret d=>some (.ret d,ρ,σ))
  |false=>some (.next,ρ,σ)
noncomputable def ff(g:Ghost)(ρ:ay)(σ:Store):Option (ay × Store):=match g with
 |.freeze x=>(match ρ x with
  |some (.own l)=>some (ρ.set x (.v (.lst l)),σ)
  |some (.ownd es)=>some (ρ.set x (.v (.dct es)),σ)
  |some (.ownk es)=>some (ρ.set x (.v (.dcti es)),σ)
  |some (.owni C fs)=>some (ρ.set x (.v (.inst C fs)),σ)
  |_=>Option.none)
 |.freezeLoc x=>((iQ (ρ x)).bind qU).bind fun n=>(σ.cells[n]?).bind fun c=>match c with
  |.list l=>some (ρ.set x (.v (.lst l)),σ.put n .gone)
  |.dict es=>some (ρ.set x (.v (.dct es)),σ.put n .gone)
  |.gone=>Option.none
noncomputable def ip(σ:Store)(o i d:V):Option Store:=match o,i with
 |.loc n,.int i=>(match σ.cells[n]? with
  |some (.list l)=>if 0≤i∧i.toNat<l.length∧i<2 ^ 63 then some (σ.put n (.list (l.set i.toNat d)))else Option.none
  |_=>Option.none)
 |.loc n,.str k=>(match σ.cells[n]? with
  |some (.dict es)=>if es.length≤bq then some (σ.put n (.dict (bn es k d)))else Option.none
  |_=>Option.none)
 |_,_=>Option.none
noncomputable def g7(σ0 σ:Store)(o d:V):Option Store:=(qU o).bind fun n=>(uX σ0.cells[n]?).bind fun _=>(uX σ.cells[n]?).bind fun l=>
 if l.length≤bq then some (σ.put n (.list (l++[d])))else Option.none
mutual
noncomputable def bA(wf:Nat):S→ay→Store→Option (Fl × ay × Store)
 |.assign x e,ρ,σ=>(ak T c e ρ σ).bind fun(d,σ)=>some (.next,ρ.set x (.v d),σ)
 |.assignOwn x,ρ,σ=>some (.next,ρ.set x (.own []),σ)
 |.assignOwnd x,ρ,σ=>some (.next,ρ.set x (.ownd []),σ)
 |.assignOwnk x,ρ,σ=>some (.next,ρ.set x (.ownk []),σ)
 |.assign2 x y e1 e2,ρ,σ=>(ak T c e1 ρ σ).bind fun(d1,σ)=>(ak T c e2 ρ σ).bind fun(d2,σ)=>some (.next,(ρ.set x (.v d1)).set y (.v d2),σ)
 |.unpack2 x y e,ρ,σ=>(ak T c e ρ σ).bind fun(d,σ)=>match d with
  |.tup _ [a,b]=>some (.next,(ρ.set x (.v a)).set y (.v b),σ)
  |_=>Option.none
 |.setAttr x a e,ρ,σ=>(ak T c e ρ σ).bind fun(d,σ)=>match ρ x with
  |some (.owni C fs)=>if(fs.lookup a).isNone∧fs.length≤100∧T.fld C a then some (.next,ρ.set x (.owni C (fs++[(a,d)])),σ)else Option.none
  |_=>Option.none
 |.setAttrD x a,ρ,σ=>match ρ x with
  |some (.owni C fs)=>if(fs.lookup a).isNone∧fs.length≤100∧T.fld C a then some (.next,ρ.set x (.owni C (fs++[(a,.loc σ.cells.length)])),σ.push (.dict []))else Option.none
  |_=>Option.none
 |.setItem o i e,ρ,σ=>(ak T c e ρ σ).bind fun(d,σ)=>match eJ ρ o with
  |.d x es=>(ak T c i ρ σ).bind fun(k,σ)=>(vq k).bind fun k=>if es.length≤bq then some (.next,ρ.set x (.ownd (bn es k d)),σ)else Option.none
  |.k x es=>(ak T c i ρ σ).bind fun(k,σ)=>(sY k).bind fun k=>if es.length≤bq then some (.next,ρ.set x (.ownk (wR es k d)),σ)else Option.none
  |_=>(ak T c o ρ σ).bind fun(ov,σ)=>(ak T c i ρ σ).bind fun(k,σ)=>(ip σ ov k d).map fun σ=>(.next,ρ,σ)
 |.aug x op e,ρ,σ=>match op,ρ x with
  |.Add,some (.v (.int i))=>(ak T c e ρ σ).bind fun(b,σ)=>match b with
   |.int j=>some (.next,ρ.set x (.v (.int (i+j))),σ)
   |_=>Option.none
  |_,_=>Option.none
 |.ite t b o,ρ,σ=>(ak T c t ρ σ).bind fun(d,σ)=>(wj d).bind fun c=>match c with
  |true=>au wf b ρ σ
  |false=>au wf o ρ σ
 |.while t b,ρ,σ=>cu (ak T c t) (au wf b) wf ρ σ
 |.for tg it b,ρ,σ=>(cH T c it ρ σ).bind fun(l,σ)=>aZ (fun x ρ σ=>(cP tg x ρ).bind fun ρ=>au wf b ρ σ) l ρ σ
 |.ret e,ρ,σ=>(ak T c e ρ σ).bind fun(d,σ)=>some (.ret d,ρ,σ)
 |.append o e,ρ,σ=>match eJ ρ o with
  |.l x l=>(ak T c e ρ σ).bind fun(d,σ)=>if l.length≤bq then some (.next,ρ.set x (.own (l++[d])),σ)else Option.none
  |_=>(ak T c o ρ σ).bind fun(ov,σ0)=>(ak T c e ρ σ0).bind fun(d,σ)=>(g7 σ0 σ ov d).map fun σ=>(.next,ρ,σ)
 |.extend o e,ρ,σ=>match eJ ρ o with
  |.l x l=>(ak T c e ρ σ).bind fun(d,σ)=>(kr d).bind fun m=>if l.length+m.length≤bq then some (.next,ρ.set x (.own (l++m)),σ)else Option.none
  |_=>Option.none
 |.nodeInit x a e,ρ,σ=>(ak T c e ρ σ).bind fun(d,σ)=>match ρ x with
  |some (.owni C [])=>if T.fld C a then some (.next,ρ.set x (.owni C [(a,d)]),σ)else Option.none
  |_=>Option.none
 |.expr e,ρ,σ=>(ak T c e ρ σ).bind fun(d,σ)=>match d with
  |.none=>some (.next,ρ,σ)
  |_=>Option.none
 |.g gh s,ρ,σ=>(ff gh ρ σ).bind fun(ρ,σ)=>bA wf s ρ σ
noncomputable def au(wf:Nat):Ss→ay→Store→Option (Fl × ay × Store)
 |.nil,ρ,σ=>some (.next,ρ,σ)
 |.cons s r,ρ,σ=>(bA wf s ρ σ).bind fun(fl,ρ,σ)=>match fl with
  |.next=>au wf r ρ σ
  |.ret d=>some (.ret d,ρ,σ)
end
end
structure Fn where
 params:List Nat
 body:Ss
structure Prg extends Tab where
 fns:Nat→Option Fn
 inits:Nat→Option (Option Nat)
noncomputable def aq:List Nat→List V→ay
 |x::r,d::ds=>(aq r ds).set x (.v d)
 |_,_=>ay.nil
noncomputable def qo(P:Prg)(c:Calls)(wf:Nat)(f:Nat)(vs:List V)(σ:Store):Option (V × Store):=
 (P.fns f).bind fun fi=>if fi.params.length=vs.length then(au P.toTab c wf fi.body (aq fi.params vs) σ).bind fun(fl,_,σ)=>match fl with
  |.ret d=>some (d,σ)
  |.next=>some (.none,σ)else Option.none
noncomputable def i3(o:Option Slot):Option (Nat × List (Nat × V)):=o.bind fun o=>match o with
 |.owni C fs=>some (C,fs)
 |.v (.inst C fs)=>some (C,fs)
 |_=>Option.none
theorem nZ{o:Option Slot}{a:Nat × List (Nat × V)}(h:i3 o=some a):o=some (.owni a.1 a.2)∨o=some (.v (.inst a.1 a.2)):=by
 induction o using Option.casesOn with
 |none=>exact nE h
 |some o=>induction o using Slot.casesOn with
  |owni C fs=>exact oE h (.inl rfl)
  |v d=>induction d using V.casesOn with
   |inst C fs=>exact oE h (.inr rfl)
   |_=>exact nE h
  |_=>exact nE h
noncomputable def jP(P:Prg)(c:Calls)(wf:Nat)(C:Nat)(vs:List V)(σ:Store):Option (V × Store):=
 match P.inits C with
 |Option.none=>Option.none
 |some Option.none=>if vs.isEmpty then some (.inst C [],σ)else Option.none
 |some (some f)=>(P.fns f).bind fun fi=>match fi.params with
  |x::ps=>if ps.length=vs.length then(au P.toTab c wf fi.body ((aq ps vs).set x (.owni C [])) σ).bind fun(fl,ρ,σ)=>match fl with
   |.next=>(i3 (ρ x)).bind fun a=>some (.inst a.1 a.2,σ)
   |_=>Option.none else Option.none
  |[]=>Option.none
noncomputable def ac(P:Prg):Nat→Calls
 |0=>⟨fun _ _ _=>Option.none,fun _ _ _=>Option.none⟩
 |n+1=>⟨qo P (ac P n) n,jP P (ac P n) n⟩
end Mine
namespace Mine
open PySem
noncomputable def C3:List String:=["self","place","name","kind","value","args","items","pattern","many","cons","arity","is_newtype","siblings","found","other","type_name","tag","number","binds","behind","branches","tree","con","patterns","is_lost","plain","is_worked","column","put","losing","wild","turn","known","falls","fresh","lines","first","columns","looked","is_held","projected","forced","line","keys","key","branch","others","is_whole","rest","fields","next","kept","told","field","is_bang","inner","inside","stricts","scheme","at","rfind","isdigit","avoided","numbers","avoid","names","base","get","cell_one","k","script","size_one","mixed_one","source_one","digit_one","top_one","things_one","way","deep_one","kind_one","labels","own_one","con_one","fields_one","inner_one","field_one","found_one","pattern_one","worth_one","pairs_one","told_one","asked_one","rest_one","tree_one","known_one","key_one","switch_one","label","part_one","number_one","rows_one","values_one","cons_one","tag_one","pair_one","kinds_one","columns_one","place_one","lines_one","row_one","maker","due_asked","told_asked","due_one","one"]
noncomputable def rN:List Str:=C3.map Str.ofString
noncomputable def nm(i:Nat):Str:=(rN[i]?).getD ⟨Array.replicate (i+1) 1⟩
noncomputable def C6:List (Nat × String):=[(1,"NIL"),(2,"CONS"),(3,"UNIT"),(4,"BUILT_IN"),(5,"_law_kinds"),(6,"_law_never"),(19,"rows_of"),(43,"Node"),(72,"PVar"),(99,"PWild"),(126,"PLit"),(153,"PCon"),(180,"PTuple"),(207,"PList"),(234,"PAs"),(261,"PLazy"),(288,"PBang"),(298,"tuple_name"),(305,"is_tuple_name"),(312,"listed"),(319,"lettered"),(326,"spread"),(362,"Constructors"),(383,"Leaf"),(397,"Nothing"),(418,"Switch"),(439,"Force"),(460,"Project"),(471,"is_idle"),(507,"Line"),(518,"key_of"),(566,"Decider"),(587,"ConInfo"),(598,"base_of"),(631,"Fresh"),(654,"_law_pool"),(661,"_law_take"),(668,"_law_one"),(673,"_law_pattern"),(680,"_law_row_pattern"),(685,"_law_value"),(692,"_law_all_fit"),(699,"_law_fit"),(706,"_law_walked"),(713,"_law_branch"),(720,"_law_rows_due"),(725,"law")]
noncomputable def fx(i:Nat):Str:=Str.ofString ((C6.lookup i).getD "")
noncomputable def CV:Ss:=(.cons (.nodeInit 0 1 (.var 1)) (.cons (.setAttr 0 2 (.var 2)) .nil))
noncomputable def Df:Ss:=(.cons (.nodeInit 0 1 (.var 1)) .nil)
noncomputable def BQ:Ss:=(.cons (.nodeInit 0 1 (.var 1)) (.cons (.setAttr 0 3 (.var 3)) (.cons (.setAttr 0 4 (.var 4)) .nil)))
noncomputable def Bz:Ss:=(.cons (.nodeInit 0 1 (.var 1)) (.cons (.setAttr 0 2 (.var 2)) (.cons (.setAttr 0 5 (.var 5)) .nil)))
noncomputable def BI:Ss:=(.cons (.nodeInit 0 1 (.var 1)) (.cons (.setAttr 0 6 (.var 6)) .nil))
noncomputable def BZ:Ss:=(.cons (.nodeInit 0 1 (.var 1)) (.cons (.setAttr 0 6 (.var 6)) .nil))
noncomputable def B6:Ss:=(.cons (.nodeInit 0 1 (.var 1)) (.cons (.setAttr 0 2 (.var 2)) (.cons (.setAttr 0 7 (.var 7)) .nil)))
noncomputable def BV:Ss:=(.cons (.nodeInit 0 1 (.var 1)) (.cons (.setAttr 0 7 (.var 7)) .nil))
noncomputable def BO:Ss:=(.cons (.nodeInit 0 1 (.var 1)) (.cons (.setAttr 0 7 (.var 7)) .nil))
noncomputable def z7:Ss:=(.cons (.ret (.ite (.cmp .Eq (.var 8) (.int 0)) (.glob 3) (.bin .Add (.bin .Add (.str "(") (.bin .Mult (.str ",") (.bin .Sub (.var 8) (.int 1)))) (.str ")")))) .nil)
noncomputable def B1:Ss:=(.cons (.ret (.bop .And (.cons (.cmp .Gt (.blt .len (.cons (.var 2) .nil)) (.int 2)) (.cons (.cmp .Eq (.item (.var 2) (.int 0)) (.str "(")) (.cons (.cmp .Eq (.item (.var 2) (.int 1)) (.str ",")) .nil))))) .nil)
noncomputable def Av:Ss:=(.cons (.ret (.ite (.cmp .Eq (.var 6) (.list .nil)) (.new 153 (.cons (.glob 1) (.cons (.list .nil) (.cons .none .nil)))) (.new 153 (.cons (.glob 2) (.cons (.list (.cons (.item (.var 6) (.int 0)) (.cons (.new 207 (.cons (.sfrom (.var 6) (.int 1)) (.cons .none .nil))) .nil))) (.cons .none .nil)))))) .nil)
noncomputable def tG:Ss:=(.cons (.ite (.isi (.var 7) [180]) (.cons (.ret (.new 153 (.cons (.call 298 (.cons (.blt .len (.cons (.attr (.var 7) 6) .nil)) .nil)) (.cons (.attr (.var 7) 6) (.cons .none .nil))))) .nil) .nil) (.cons (.ite (.isi (.var 7) [207]) (.cons (.ret (.call 312 (.cons (.attr (.var 7) 6) .nil))) .nil) .nil) (.cons (.ite (.bop .And (.cons (.isi (.var 7) [126]) (.cons (.cmp .Eq (.attr (.var 7) 3) (.str "text")) .nil))) (.cons (.ret (.call 319 (.cons (.attr (.var 7) 4) .nil))) .nil) .nil) (.cons (.ret (.var 7)) .nil))))
noncomputable def BL:Ss:=(.cons (.setAttr 0 9 (.var 9)) .nil)
noncomputable def BC:Ss:=(.cons (.ite (.cmp .In (.var 2) (.attr (.var 0) 9)) (.cons (.ret (.attr (.item (.attr (.var 0) 9) (.var 2)) 10)) .nil) .nil) (.cons (.ret (.ite (.call 305 (.cons (.var 2) .nil)) (.bin .Sub (.blt .len (.cons (.var 2) .nil)) (.int 1)) (.item (.glob 4) (.var 2)))) .nil))
noncomputable def BP:Ss:=(.cons (.ret (.bop .And (.cons (.cmp .In (.var 2) (.attr (.var 0) 9)) (.cons (.attr (.item (.attr (.var 0) 9) (.var 2)) 11) .nil)))) .nil)
noncomputable def Ab:Ss:=(.cons (.ite (.cmp .NotIn (.var 2) (.attr (.var 0) 9)) (.cons (.ret (.ite (.cmp .In (.var 2) (.tup (.cons (.glob 1) (.cons (.glob 2) .nil)))) (.list (.cons (.glob 1) (.cons (.glob 2) .nil))) (.list (.cons (.var 2) .nil)))) .nil) .nil) (.cons (.assignOwnk 13) (.cons (.for [14] (.val (.attr (.var 0) 9)) (.cons (.ite (.cmp .Eq (.attr (.item (.attr (.var 0) 9) (.var 14)) 15) (.attr (.item (.attr (.var 0) 9) (.var 2)) 15)) (.cons (.setItem (.var 13) (.attr (.item (.attr (.var 0) 9) (.var 14)) 16) (.var 14)) .nil) .nil) .nil)) (.cons (.g (.freeze 13) (.ret (.comp (.item (.var 13) (.var 16)) [16] (.val (.blt .sorted (.cons (.var 13) .nil))) [13]))) .nil))))
noncomputable def BA:Ss:=(.cons (.setAttr 0 17 (.var 17)) (.cons (.setAttr 0 18 (.var 18)) (.cons (.setAttr 0 19 (.var 19)) .nil)))
noncomputable def B8:Ss:=(.cons (.setAttr 0 2 (.var 2)) (.cons (.setAttr 0 20 (.var 20)) (.cons (.setAttr 0 14 (.var 14)) .nil)))
noncomputable def BK:Ss:=(.cons (.setAttr 0 2 (.var 2)) (.cons (.setAttr 0 21 (.var 21)) .nil))
noncomputable def BG:Ss:=(.cons (.setAttr 0 2 (.var 2)) (.cons (.setAttr 0 22 (.var 22)) (.cons (.setAttr 0 4 (.var 4)) (.cons (.setAttr 0 21 (.var 21)) .nil))))
noncomputable def Bj:Ss:=(.cons (.while (.isi (.var 7) [234]) (.cons (.assign 7 (.attr (.var 7) 7)) .nil)) (.cons (.ret (.isi (.var 7) [99,72,261])) .nil))
noncomputable def BW:Ss:=(.cons (.setAttr 0 17 (.var 17)) (.cons (.setAttr 0 23 (.var 23)) (.cons (.setAttr 0 18 (.var 18)) (.cons (.setAttr 0 24 (.var 24)) .nil))))
noncomputable def Ar:Ss:=(.cons (.assign2 7 18 (.call 326 (.cons (.item (.attr (.var 0) 23) (.var 1)) .nil)) (.attr (.var 0) 18)) (.cons (.while (.bop .Or (.cons (.isi (.var 7) [72,234,261]) (.cons (.bop .And (.cons (.var 26) (.cons (.isi (.var 7) [288]) .nil))) .nil))) (.cons (.ite (.isi (.var 7) [288]) (.cons (.assign 7 (.attr (.var 7) 7)) .nil) (.cons (.ite (.isi (.var 7) [261]) (.cons (.assign2 18 7 (.bin .Add (.var 18) (.list (.cons (.tup (.cons (.attr (.var 7) 7) (.cons (.var 27) .nil))) .nil))) (.new 99 (.cons .none .nil))) .nil) (.cons (.assign 18 (.bin .Add (.var 18) (.list (.cons (.tup (.cons (.attr (.var 7) 2) (.cons (.var 27) .nil))) .nil)))) (.cons (.assign 7 (.ite (.isi (.var 7) [234]) (.attr (.var 7) 7) (.new 99 (.cons .none .nil)))) .nil))) .nil)) (.cons (.assign 7 (.call 326 (.cons (.var 7) .nil))) .nil))) (.cons (.assign 23 (.bin .Add (.bin .Add (.sto (.attr (.var 0) 23) (.var 1)) (.list (.cons (.var 7) .nil))) (.sfrom (.attr (.var 0) 23) (.bin .Add (.var 1) (.int 1))))) (.cons (.ret (.new 507 (.cons (.attr (.var 0) 17) (.cons (.var 23) (.cons (.var 18) (.cons (.attr (.var 0) 24) .nil)))))) .nil))))
noncomputable def z6:Ss:=(.cons (.ret (.new 507 (.cons (.attr (.var 0) 17) (.cons (.bin .Add (.bin .Add (.sto (.attr (.var 0) 23) (.var 1)) (.var 23)) (.sfrom (.attr (.var 0) 23) (.bin .Add (.var 1) (.int 1)))) (.cons (.attr (.var 0) 18) (.cons (.attr (.var 0) 24) .nil)))))) .nil)
noncomputable def zb:Ss:=(.cons (.ite (.cmp .Eq (.compif (.var 7) [7] (.val (.sto (.attr (.var 0) 23) (.var 1))) (.not (.call 471 (.cons (.var 7) .nil))) []) (.list .nil)) (.cons (.ret (.list .nil)) .nil) .nil) (.cons (.assign 30 (.comp (.new 99 (.cons .none .nil)) [31] (.range (.bin .Sub (.bin .Sub (.bin .Add (.var 8) (.blt .len (.cons (.attr (.var 0) 23) .nil))) (.var 1)) (.int 1))) [])) (.cons (.ret (.list (.cons (.new 507 (.cons (.attr (.var 0) 17) (.cons (.bin .Add (.sto (.attr (.var 0) 23) (.var 1)) (.var 30)) (.cons (.list .nil) (.cons (.bool true) .nil))))) .nil))) .nil)))
noncomputable def BD:Ss:=(.cons (.ite (.isi (.var 7) [153]) (.cons (.ret (.tup (.cons (.str "con") (.cons (.attr (.var 7) 2) .nil)))) .nil) .nil) (.cons (.ret (.ite (.isi (.var 7) [126]) (.tup (.cons (.str "lit") (.cons (.attr (.var 7) 3) (.cons (.attr (.var 7) 4) .nil)))) .none)) .nil))
noncomputable def Ca:Ss:=(.cons (.setAttr 0 32 (.var 32)) (.cons (.setAttr 0 33 (.var 33)) (.cons (.setAttr 0 34 (.var 34)) .nil)))
noncomputable def wZ:Ss:=(.cons (.ite (.cmp .Eq (.var 35) (.list .nil)) (.cons (.ret (.new 397 .nil)) .nil) .nil) (.cons (.assign 36 (.item (.var 35) (.int 0))) (.cons (.for [1] (.range (.blt .len (.cons (.var 37) .nil))) (.cons (.assign 36 (.meth (.var 36) 25 (.cons (.var 1) (.cons (.item (.var 37) (.var 1)) (.cons (.bool false) .nil))))) (.cons (.assign 7 (.item (.attr (.var 36) 23) (.var 1))) (.cons (.ite (.not (.isi (.var 7) [99])) (.cons (.ret (.meth (.var 0) 38 (.cons (.var 1) (.cons (.var 37) (.cons (.bin .Add (.list (.cons (.var 36) .nil)) (.sfrom (.var 35) (.int 1))) .nil))))) .nil) .nil) .nil)))) (.cons (.ite (.attr (.var 36) 24) (.cons (.ret (.meth (.var 0) 21 (.cons (.var 37) (.cons (.sfrom (.var 35) (.int 1)) .nil)))) .nil) .nil) (.cons (.assign 19 (.ite (.item (.attr (.var 0) 33) (.attr (.var 36) 17)) (.meth (.var 0) 21 (.cons (.var 37) (.cons (.sfrom (.var 35) (.int 1)) .nil))) .none)) (.cons (.ret (.new 383 (.cons (.attr (.var 36) 17) (.cons (.attr (.var 36) 18) (.cons (.var 19) .nil))))) .nil))))))
noncomputable def wg:Ss:=(.cons (.assign 7 (.item (.attr (.item (.var 35) (.int 0)) 23) (.var 1))) (.cons (.ite (.meth (.var 0) 39 (.cons (.var 7) .nil)) (.cons (.ret (.meth (.var 0) 40 (.cons (.var 1) (.cons (.var 37) (.cons (.var 35) .nil))))) .nil) .nil) (.cons (.ite (.isi (.var 7) [288]) (.cons (.assign 41 (.meth (.item (.var 35) (.int 0)) 28 (.cons (.var 1) (.cons (.list (.cons (.attr (.var 7) 7) .nil)) .nil)))) (.cons (.ret (.new 439 (.cons (.item (.var 37) (.var 1)) (.cons (.meth (.var 0) 21 (.cons (.var 37) (.cons (.bin .Add (.list (.cons (.var 41) .nil)) (.sfrom (.var 35) (.int 1))) .nil))) .nil)))) .nil)) .nil) (.cons (.assign 25 (.comp (.meth (.var 42) 25 (.cons (.var 1) (.cons (.item (.var 37) (.var 1)) (.cons (.bool true) .nil)))) [42] (.val (.var 35)) [37,1])) (.cons (.assignOwn 43) (.cons (.for [42] (.val (.var 25)) (.cons (.assign 44 (.call 518 (.cons (.item (.attr (.var 42) 23) (.var 1)) .nil))) (.cons (.ite (.bop .And (.cons (.cmp .IsNot (.var 44) .none) (.cons (.nin (.var 44) 43) .nil))) (.cons (.append (.var 43) (.var 44)) .nil) .nil) .nil))) (.cons (.g (.freeze 43) (.assign 20 (.comp (.meth (.var 0) 45 (.cons (.var 44) (.cons (.var 1) (.cons (.var 37) (.cons (.var 25) .nil))))) [44] (.val (.var 43)) [37,1,25,0]))) (.cons (.assignOwn 46) (.cons (.for [42] (.val (.var 25)) (.cons (.extend (.var 46) (.ite (.cmp .Is (.call 518 (.cons (.item (.attr (.var 42) 23) (.var 1)) .nil)) .none) (.list (.cons (.meth (.var 42) 28 (.cons (.var 1) (.cons (.list .nil) .nil))) .nil)) (.meth (.var 42) 29 (.cons (.var 1) (.cons (.int 0) .nil))))) .nil)) (.cons (.assign 47 (.bop .And (.cons (.cmp .Eq (.item (.item (.var 43) (.int 0)) (.int 0)) (.str "con")) (.cons (.cmp .Eq (.blt .len (.cons (.var 43) .nil)) (.blt .len (.cons (.meth (.attr (.var 0) 32) 12 (.cons (.item (.item (.var 43) (.int 0)) (.int 1)) .nil)) .nil))) .nil)))) (.cons (.assign 48 (.bin .Add (.sto (.var 37) (.var 1)) (.sfrom (.var 37) (.bin .Add (.var 1) (.int 1))))) (.cons (.g (.freeze 46) (.ret (.new 418 (.cons (.item (.var 37) (.var 1)) (.cons (.var 20) (.cons (.ite (.var 47) .none (.meth (.var 0) 21 (.cons (.var 48) (.cons (.var 46) .nil)))) .nil)))))) .nil))))))))))))
noncomputable def y5:Ss:=(.cons (.ite (.isi (.var 7) [288]) (.cons (.assign 7 (.call 326 (.cons (.attr (.var 7) 7) .nil))) .nil) .nil) (.cons (.ret (.bop .And (.cons (.isi (.var 7) [153]) (.cons (.meth (.attr (.var 0) 32) 11 (.cons (.attr (.var 7) 2) .nil)) .nil)))) .nil))
noncomputable def Ae:Ss:=(.cons (.assign 8 (.ite (.cmp .Eq (.item (.var 44) (.int 0)) (.str "con")) (.meth (.attr (.var 0) 32) 10 (.cons (.item (.var 44) (.int 1)) .nil)) (.int 0))) (.cons (.assign 49 (.comp (.meth (.attr (.var 0) 34) 50 (.cons (.str "field") .nil)) [31] (.range (.var 8)) [0])) (.cons (.assignOwn 51) (.cons (.for [42] (.val (.var 35)) (.cons (.assign 7 (.item (.attr (.var 42) 23) (.var 1))) (.cons (.assign 52 (.call 518 (.cons (.var 7) .nil))) (.cons (.ite (.cmp .Is (.var 52) .none) (.cons (.append (.var 51) (.meth (.var 42) 28 (.cons (.var 1) (.cons (.comp (.new 99 (.cons .none .nil)) [53] (.val (.var 49)) []) .nil)))) .nil) (.cons (.ite (.cmp .Eq (.var 52) (.var 44)) (.cons (.append (.var 51) (.meth (.var 42) 28 (.cons (.var 1) (.cons (.ite (.cmp .Eq (.item (.var 44) (.int 0)) (.str "con")) (.listof (.val (.attr (.var 7) 5))) (.list .nil)) .nil)))) .nil) (.cons (.extend (.var 51) (.meth (.var 42) 29 (.cons (.var 1) (.cons (.var 8) .nil)))) .nil)) .nil)) .nil)))) (.cons (.g (.freeze 51) (.ret (.tup (.cons (.var 44) (.cons (.var 49) (.cons (.meth (.var 0) 21 (.cons (.bin .Add (.bin .Add (.sto (.var 37) (.var 1)) (.var 49)) (.sfrom (.var 37) (.bin .Add (.var 1) (.int 1)))) (.cons (.var 51) .nil))) .nil)))))) .nil)))))
noncomputable def AP:Ss:=(.cons (.assign 36 (.item (.attr (.item (.var 35) (.int 0)) 23) (.var 1))) (.cons (.assign 22 (.ite (.isi (.var 36) [288]) (.attr (.call 326 (.cons (.attr (.var 36) 7) .nil)) 2) (.attr (.var 36) 2))) (.cons (.assign 2 (.meth (.attr (.var 0) 34) 50 (.cons (.str "held") .nil))) (.cons (.assignOwn 13) (.cons (.for [42] (.val (.var 35)) (.cons (.assign 25 (.meth (.var 42) 25 (.cons (.var 1) (.cons (.item (.var 37) (.var 1)) (.cons (.bool false) .nil))))) (.cons (.assign 7 (.item (.attr (.var 25) 23) (.var 1))) (.cons (.assign 54 (.isi (.var 7) [288])) (.cons (.ite (.var 54) (.cons (.assign 25 (.meth (.meth (.var 25) 28 (.cons (.var 1) (.cons (.list (.cons (.attr (.var 7) 7) .nil)) .nil))) 25 (.cons (.var 1) (.cons (.item (.var 37) (.var 1)) (.cons (.bool true) .nil))))) (.cons (.assign 7 (.item (.attr (.var 25) 23) (.var 1))) .nil)) .nil) (.cons (.assign 55 (.ite (.isi (.var 7) [153]) (.item (.attr (.var 7) 5) (.int 0)) (.new 99 (.cons .none .nil)))) (.cons (.append (.var 13) (.meth (.var 25) 28 (.cons (.var 1) (.cons (.list (.cons (.ite (.var 54) (.new 288 (.cons (.var 55) (.cons .none .nil))) (.var 55)) .nil)) .nil)))) .nil))))))) (.cons (.g (.freeze 13) (.assign 56 (.meth (.var 0) 21 (.cons (.bin .Add (.bin .Add (.sto (.var 37) (.var 1)) (.list (.cons (.var 2) .nil))) (.sfrom (.var 37) (.bin .Add (.var 1) (.int 1)))) (.cons (.var 13) .nil))))) (.cons (.ret (.new 460 (.cons (.var 2) (.cons (.var 22) (.cons (.item (.var 37) (.var 1)) (.cons (.var 56) .nil)))))) .nil)))))))
noncomputable def BX:Ss:=(.cons (.setAttr 0 2 (.var 2)) (.cons (.setAttr 0 16 (.var 16)) (.cons (.setAttr 0 10 (.var 10)) (.cons (.setAttr 0 57 (.var 57)) (.cons (.setAttr 0 15 (.var 15)) (.cons (.setAttr 0 58 (.var 58)) (.cons (.setAttr 0 12 (.var 12)) (.cons (.setAttr 0 11 (.var 11)) .nil))))))))
noncomputable def BH:Ss:=(.cons (.assign 59 (.meth (.var 2) 60 (.cons (.str ".") .nil))) (.cons (.ret (.ite (.bop .And (.cons (.cmp .Gt (.var 59) (.int 0)) (.cons (.meth (.sfrom (.var 2) (.bin .Add (.var 59) (.int 1))) 61 .nil) .nil))) (.sto (.var 2) (.var 59)) (.var 2))) .nil))
noncomputable def AU:Ss:=(.cons (.setAttrD 0 62) (.cons (.setAttrD 0 63) (.cons (.g (.freeze 0) (.expr (.meth (.var 0) 64 (.cons (.var 62) .nil)))) .nil)))
noncomputable def Aw:Ss:=(.cons (.for [2] (.val (.var 65)) (.cons (.setItem (.attr (.var 0) 62) (.var 2) (.bool true)) .nil)) .nil)
noncomputable def zT:Ss:=(.cons (.assign 52 (.call 598 (.cons (.var 66) .nil))) (.cons (.assign 17 (.bin .Add (.meth (.attr (.var 0) 63) 67 (.cons (.var 52) (.cons (.int 0) .nil))) (.int 1))) (.cons (.while (.cmp .In (.bin .Add (.bin .Add (.var 52) (.str ".")) (.blt .str (.cons (.var 17) .nil))) (.attr (.var 0) 62)) (.cons (.aug 17 .Add (.int 1)) .nil)) (.cons (.setItem (.attr (.var 0) 63) (.var 52) (.var 17)) (.cons (.ret (.bin .Add (.bin .Add (.var 52) (.str ".")) (.blt .str (.cons (.var 17) .nil)))) .nil)))))
noncomputable def xo:Ss:=(.cons (.assign 68 (.int 0)) (.cons (.ite (.cmp .Lt (.var 69) (.blt .len (.cons (.var 70) .nil))) (.cons (.assign 68 (.item (.var 70) (.var 69))) .nil) .nil) (.cons (.assign 71 (.blt .max (.cons (.blt .int (.cons (.var 68) .nil)) (.cons (.blt .int (.cons (.bin .Sub (.neg (.int 1)) (.var 68)) .nil)) .nil)))) (.cons (.assign 72 (.bin .Mod (.blt .int (.cons (.bin .Mult (.bin .Add (.bin .Add (.bin .Add (.bin .Mod (.blt .int (.cons (.var 71) .nil)) (.int 2147483629)) (.bin .Mult (.bin .Mult (.int 7919) (.var 69)) (.var 69))) (.bin .Mult (.int 31) (.var 69))) (.int 17)) (.int 48271)) .nil)) (.int 2147483647))) (.cons (.ret (.listm (.cons (.bin .Mult (.var 71) (.blt .int (.cons (.cmp .GtE (.var 71) (.bin .Pow (.int 10) (.int 18))) .nil))) (.cons (.var 72) .nil)))) .nil)))))
noncomputable def zC:Ss:=(.cons (.ite (.cmp .Gt (.item (.var 73) (.int 0)) (.int 0)) (.cons (.assign 74 (.bin .Mod (.blt .int (.cons (.item (.var 73) (.int 0)) .nil)) (.var 75))) (.cons (.setItem (.var 73) (.int 0) (.bin .FloorDiv (.item (.var 73) (.int 0)) (.var 75))) (.cons (.ret (.var 74)) .nil))) .nil) (.cons (.setItem (.var 73) (.int 1) (.bin .Mod (.blt .int (.cons (.bin .Add (.bin .Mult (.item (.var 73) (.int 1)) (.int 39373)) (.int 7)) .nil)) (.int 2147483647))) (.cons (.ret (.bin .Mod (.blt .int (.cons (.bin .FloorDiv (.bin .Mod (.blt .int (.cons (.bin .Mult (.item (.var 73) (.int 1)) (.item (.var 73) (.int 1))) .nil)) (.int 2147483629)) (.int 32)) .nil)) (.var 75))) .nil)))
noncomputable def wF:Ss:=(.cons (.ret (.item (.var 76) (.call 661 (.cons (.var 73) (.cons (.blt .len (.cons (.var 76) .nil)) .nil))))) .nil)
noncomputable def ng:Ss:=(.cons (.assign 77 (.ite (.cmp .Gt (.var 78) (.int 0)) (.call 661 (.cons (.var 73) (.cons (.int 9) .nil))) (.call 661 (.cons (.var 73) (.cons (.int 3) .nil))))) (.cons (.ite (.cmp .Eq (.var 77) (.int 0)) (.cons (.ret (.new 99 (.cons .none .nil))) .nil) .nil) (.cons (.ite (.bop .Or (.cons (.cmp .Eq (.var 77) (.int 1)) (.cons (.bop .And (.cons (.cmp .Eq (.var 77) (.int 2)) (.cons (.cmp .NotEq (.var 79) (.str "I")) .nil))) .nil))) (.cons (.append (.var 80) (.bin .Add (.str "v.") (.blt .str (.cons (.bin .Add (.blt .len (.cons (.var 80) .nil)) (.int 1)) .nil)))) (.cons (.ret (.new 72 (.cons (.item (.var 80) (.neg (.int 1))) (.cons .none .nil)))) .nil)) .nil) (.cons (.ite (.cmp .Eq (.var 77) (.int 3)) (.cons (.ret (.new 261 (.cons (.call 673 (.cons (.var 73) (.cons (.var 79) (.cons (.bin .Sub (.var 78) (.int 1)) (.cons (.var 80) .nil))))) (.cons .none .nil)))) .nil) .nil) (.cons (.ite (.cmp .Eq (.var 77) (.int 4)) (.cons (.append (.var 80) (.bin .Add (.str "v.") (.blt .str (.cons (.bin .Add (.blt .len (.cons (.var 80) .nil)) (.int 1)) .nil)))) (.cons (.assign 81 (.item (.var 80) (.neg (.int 1)))) (.cons (.ret (.new 234 (.cons (.var 81) (.cons (.call 673 (.cons (.var 73) (.cons (.var 79) (.cons (.bin .Sub (.var 78) (.int 1)) (.cons (.var 80) .nil))))) (.cons .none .nil))))) .nil))) .nil) (.cons (.ite (.bop .And (.cons (.cmp .Eq (.var 77) (.int 5)) (.cons (.cmp .NotEq (.var 79) (.str "N")) .nil))) (.cons (.ret (.new 288 (.cons (.call 673 (.cons (.var 73) (.cons (.var 79) (.cons (.bin .Sub (.var 78) (.int 1)) (.cons (.var 80) .nil))))) (.cons .none .nil)))) .nil) .nil) (.cons (.ite (.cmp .Eq (.var 79) (.str "I")) (.cons (.ret (.new 126 (.cons (.str "int") (.cons (.call 661 (.cons (.var 73) (.cons (.int 2) .nil))) (.cons .none .nil))))) .nil) .nil) (.cons (.ite (.bop .And (.cons (.cmp .Eq (.var 79) (.str "L")) (.cons (.cmp .Eq (.var 77) (.int 6)) .nil))) (.cons (.ret (.new 207 (.cons (.comp (.call 673 (.cons (.var 73) (.cons (.str "I") (.cons (.int 0) (.cons (.var 80) .nil))))) [31] (.range (.call 661 (.cons (.var 73) (.cons (.int 3) .nil)))) [80,73]) (.cons .none .nil)))) .nil) .nil) (.cons (.unpack2 82 83 (.call 668 (.cons (.var 73) (.cons (.item (.glob 5) (.var 79)) .nil)))) (.cons (.assign 84 (.comp (.call 673 (.cons (.var 73) (.cons (.var 85) (.cons (.bin .Sub (.var 78) (.int 1)) (.cons (.var 80) .nil))))) [85] (.val (.var 83)) [78,80,73])) (.cons (.ret (.ite (.bop .And (.cons (.cmp .Eq (.var 79) (.str "P")) (.cons (.cmp .Eq (.var 77) (.int 6)) .nil))) (.new 180 (.cons (.var 84) (.cons .none .nil))) (.new 153 (.cons (.var 82) (.cons (.var 84) (.cons .none .nil)))))) .nil)))))))))))
noncomputable def xG:Ss:=(.cons (.ite (.bop .And (.cons (.cmp .Eq (.var 79) (.str "N")) (.cons (.cmp .Gt (.call 661 (.cons (.var 73) (.cons (.int 3) .nil))) (.int 0)) .nil))) (.cons (.assign 86 (.new 153 (.cons (.str "M.N") (.cons (.list (.cons (.call 673 (.cons (.var 73) (.cons (.str "T") (.cons (.var 78) (.cons (.var 80) .nil))))) .nil)) (.cons .none .nil))))) (.cons (.ret (.ite (.cmp .Eq (.call 661 (.cons (.var 73) (.cons (.int 2) .nil))) (.int 0)) (.new 288 (.cons (.var 86) (.cons .none .nil))) (.var 86))) .nil)) .nil) (.cons (.ret (.call 673 (.cons (.var 73) (.cons (.var 79) (.cons (.var 78) (.cons (.var 80) .nil)))))) .nil))
noncomputable def uG:Ss:=(.cons (.ite (.bop .And (.cons (.cmp .NotEq (.var 79) (.str "N")) (.cons (.cmp .Eq (.call 661 (.cons (.var 73) (.cons (.int 5) .nil))) (.int 0)) .nil))) (.cons (.ret (.glob 6)) .nil) .nil) (.cons (.ite (.cmp .Eq (.var 79) (.str "I")) (.cons (.ret (.tupi (.cons (.call 661 (.cons (.var 73) (.cons (.int 2) .nil))) (.cons (.list .nil) .nil)))) .nil) .nil) (.cons (.unpack2 82 83 (.call 668 (.cons (.var 73) (.cons (.item (.glob 5) (.var 79)) .nil)))) (.cons (.ite (.bop .And (.cons (.cmp .Eq (.var 78) (.int 0)) (.cons (.cmp .In (.var 79) (.str "TL")) .nil))) (.cons (.unpack2 82 83 (.item (.item (.glob 5) (.var 79)) (.int 0))) .nil) .nil) (.cons (.ret (.tupi (.cons (.var 82) (.cons (.comp (.call 685 (.cons (.var 73) (.cons (.var 85) (.cons (.blt .max (.cons (.int 0) (.cons (.bin .Sub (.var 78) (.int 1)) .nil))) .nil)))) [85] (.val (.var 83)) [78,73]) .nil)))) .nil)))))
noncomputable def wQ:Ss:=(.cons (.for [87,88] (.val (.var 89)) (.cons (.assign 90 (.call 699 (.cons (.var 87) (.cons (.var 88) (.cons (.var 91) .nil))))) (.cons (.ite (.cmp .IsNot (.var 90) (.bool true)) (.cons (.ret (.var 90)) .nil) .nil) .nil))) (.cons (.ret (.bool true)) .nil))
noncomputable def yL:Ss:=(.cons (.while (.isi (.var 87) [234]) (.cons (.assign 87 (.attr (.var 87) 7)) .nil)) (.cons (.ite (.isi (.var 87) [72,99,261]) (.cons (.ret (.bool true)) .nil) .nil) (.cons (.ite (.bop .And (.cons (.isi (.var 87) [288]) (.cons (.isi (.attr (.var 87) 7) [153]) (.cons (.cmp .Eq (.attr (.attr (.var 87) 7) 2) (.str "M.N")) .nil)))) (.cons (.ret (.call 699 (.cons (.new 288 (.cons (.item (.attr (.attr (.var 87) 7) 5) (.int 0)) (.cons .none .nil))) (.cons (.item (.item (.var 88) (.int 1)) (.int 0)) (.cons (.var 91) .nil))))) .nil) .nil) (.cons (.ite (.bop .And (.cons (.isi (.var 87) [153]) (.cons (.cmp .Eq (.attr (.var 87) 2) (.str "M.N")) .nil))) (.cons (.ret (.call 699 (.cons (.item (.attr (.var 87) 5) (.int 0)) (.cons (.item (.item (.var 88) (.int 1)) (.int 0)) (.cons (.var 91) .nil))))) .nil) .nil) (.cons (.append (.var 91) (.var 88)) (.cons (.ite (.cmp .Eq (.var 88) (.glob 6)) (.cons (.ret (.glob 6)) .nil) .nil) (.cons (.ite (.isi (.var 87) [288]) (.cons (.ret (.call 699 (.cons (.attr (.var 87) 7) (.cons (.var 88) (.cons (.var 91) .nil))))) .nil) .nil) (.cons (.ite (.isi (.var 87) [126]) (.cons (.ret (.cmp .Eq (.attr (.var 87) 4) (.item (.var 88) (.int 0)))) .nil) .nil) (.cons (.ite (.isi (.var 87) [180]) (.cons (.ret (.call 692 (.cons (.listof (.zip (.attr (.var 87) 6) (.item (.var 88) (.int 1)))) (.cons (.var 91) .nil)))) .nil) .nil) (.cons (.ite (.isi (.var 87) [153]) (.cons (.ret (.bop .And (.cons (.cmp .Eq (.attr (.var 87) 2) (.item (.var 88) (.int 0))) (.cons (.call 692 (.cons (.listof (.zip (.attr (.var 87) 5) (.item (.var 88) (.int 1)))) (.cons (.var 91) .nil))) .nil)))) .nil) .nil) (.cons (.ite (.bop .Or (.cons (.cmp .Eq (.attr (.var 87) 6) (.list .nil)) (.cons (.cmp .Eq (.item (.var 88) (.int 0)) (.str "[]")) .nil))) (.cons (.ret (.bop .And (.cons (.cmp .Eq (.attr (.var 87) 6) (.list .nil)) (.cons (.cmp .Eq (.item (.var 88) (.int 0)) (.str "[]")) .nil)))) .nil) .nil) (.cons (.assign 92 (.new 207 (.cons (.sfrom (.attr (.var 87) 6) (.int 1)) (.cons .none .nil)))) (.cons (.ret (.call 692 (.cons (.list (.cons (.tup (.cons (.item (.attr (.var 87) 6) (.int 0)) (.cons (.item (.item (.var 88) (.int 1)) (.int 0)) .nil))) (.cons (.tup (.cons (.var 92) (.cons (.item (.item (.var 88) (.int 1)) (.int 1)) .nil))) .nil))) (.cons (.var 91) .nil)))) .nil)))))))))))))
noncomputable def zD:Ss:=(.cons (.while (.not (.isi (.var 93) [383,397])) (.cons (.ite (.isi (.var 93) [460]) (.cons (.setItem (.var 94) (.attr (.var 93) 2) (.item (.item (.item (.var 94) (.attr (.var 93) 4)) (.int 1)) (.int 0))) (.cons (.assign 93 (.attr (.var 93) 21)) .nil)) (.cons (.assign 88 (.item (.var 94) (.attr (.var 93) 2))) (.cons (.append (.var 91) (.var 88)) (.cons (.ite (.cmp .Eq (.var 88) (.glob 6)) (.cons (.ret (.glob 6)) .nil) .nil) (.cons (.ite (.isi (.var 93) [439]) (.cons (.assign 93 (.attr (.var 93) 21)) .nil) (.cons (.assign 93 (.call 713 (.cons (.var 93) (.cons (.var 88) (.cons (.var 94) .nil))))) .nil)) .nil))))) .nil)) (.cons (.ret (.ite (.isi (.var 93) [383]) (.attr (.var 93) 17) .none)) .nil))
noncomputable def zF:Ss:=(.cons (.for [95,80,84] (.val (.attr (.var 96) 20)) (.cons (.ite (.cmp .Eq (.item (.var 95) (.neg (.int 1))) (.item (.var 88) (.int 0))) (.cons (.for [97,98] (.zip (.var 80) (.item (.var 88) (.int 1))) (.cons (.setItem (.var 94) (.var 97) (.var 98)) .nil)) (.cons (.ret (.var 84)) .nil)) .nil) .nil)) (.cons (.ret (.attr (.var 96) 14)) .nil))
noncomputable def wl:Ss:=(.cons (.for [99] (.range (.blt .len (.cons (.var 100) .nil))) (.cons (.assign 90 (.call 692 (.cons (.listof (.zip (.item (.var 100) (.var 99)) (.var 101))) (.cons (.var 91) .nil)))) (.cons (.ite (.cmp .Is (.var 90) (.bool true)) (.cons (.ret (.var 99)) .nil) .nil) (.cons (.ite (.cmp .Eq (.var 90) (.glob 6)) (.cons (.ret (.var 90)) .nil) .nil) .nil)))) (.cons (.ret .none) .nil))
noncomputable def Ba:Ss:=(.cons (.assignOwnd 102) (.cons (.for [79] (.val (.tup (.cons (.str "T") (.cons (.str "N") .nil)))) (.cons (.for [103,104] (.enum (.item (.glob 5) (.var 79))) (.cons (.assign 90 (.new 587 (.cons (.item (.var 104) (.int 0)) (.cons (.var 103) (.cons (.blt .len (.cons (.item (.var 104) (.int 1)) .nil)) (.cons (.list .nil) (.cons (.var 79) (.cons .none (.cons (.blt .len (.cons (.item (.glob 5) (.var 79)) .nil)) (.cons (.cmp .Eq (.var 79) (.str "N")) .nil)))))))))) (.cons (.setItem (.var 102) (.item (.var 104) (.int 0)) (.var 90)) .nil))) .nil)) (.cons (.g (.freeze 102) (.for [69] (.range (.blt .max (.cons (.int 1) (.cons (.blt .min (.cons (.blt .len (.cons (.var 70) .nil)) (.cons (.int 2) .nil))) .nil)))) (.cons (.assign2 73 80 (.call 654 (.cons (.var 70) (.cons (.var 69) .nil))) (.listm .nil)) (.cons (.assign 105 (.comp (.call 668 (.cons (.var 73) (.cons (.str "NTNPLI") .nil))) [31] (.range (.bin .Add (.int 1) (.call 661 (.cons (.var 73) (.cons (.int 2) .nil))))) [73])) (.cons (.assignOwn 100) (.cons (.for [99] (.range (.bin .Add (.int 1) (.call 661 (.cons (.var 73) (.cons (.int 3) .nil))))) (.cons (.append (.var 100) (.comp (.call 680 (.cons (.var 73) (.cons (.var 79) (.cons (.int 1) (.cons (.var 80) .nil))))) [79] (.val (.var 105)) [80,73])) .nil)) (.cons (.g (.freeze 100) (.assign 106 (.comp (.bin .Add (.str "s") (.blt .str (.cons (.var 107) .nil))) [107] (.range (.blt .len (.cons (.var 105) .nil))) []))) (.cons (.assign 108 (.comp (.new 507 (.cons (.var 99) (.cons (.listof (.val (.var 109))) (.cons (.list .nil) (.cons (.bool false) .nil))))) [99,109] (.enum (.var 100)) [])) (.cons (.assign 110 (.new 566 (.cons (.new 362 (.cons (.var 102) .nil)) (.cons (.bin .Mult (.list (.cons (.bool false) .nil)) (.blt .len (.cons (.var 100) .nil))) (.cons (.new 631 (.cons (.bin .Add (.var 80) (.var 106)) .nil)) .nil))))) (.cons (.assign 93 (.meth (.var 110) 21 (.cons (.var 106) (.cons (.var 108) .nil)))) (.cons (.for [31] (.range (.int 2)) (.cons (.assign 101 (.comp (.call 685 (.cons (.var 73) (.cons (.var 79) (.cons (.int 2) .nil)))) [79] (.val (.var 105)) [73])) (.cons (.assign2 111 112 (.listm .nil) (.listm .nil)) (.cons (.assign 113 (.call 720 (.cons (.var 100) (.cons (.var 101) (.cons (.var 111) .nil))))) (.cons (.assign 86 (.call 706 (.cons (.var 93) (.cons (.dictof (.zip (.var 106) (.var 101))) (.cons (.var 112) .nil))))) (.cons (.ite (.bop .Or (.cons (.cmp .NotEq (.var 86) (.var 113)) (.cons (.cmp .NotEq (.cmp .Is (.var 86) .none) (.cmp .Is (.var 113) .none)) .nil))) (.cons (.ret (.bool false)) .nil) .nil) (.cons (.g (.freezeLoc 112) (.g (.freezeLoc 111) (.ite (.stray 112 111 88 114) (.cons (.ret (.bool false)) .nil) .nil))) .nil))))))) .nil))))))))))) (.cons (.ret (.bool true)) .nil))))
noncomputable def xm:List (Nat × Fn):=[(62,⟨[0,2,1],CV⟩),(89,⟨[0,1],Df⟩),(116,⟨[0,3,4,1],BQ⟩),(143,⟨[0,2,5,1],Bz⟩),(170,⟨[0,6,1],BI⟩),(197,⟨[0,6,1],BZ⟩),(224,⟨[0,2,7,1],B6⟩),(251,⟨[0,7,1],BV⟩),(278,⟨[0,7,1],BO⟩),(298,⟨[8],z7⟩),(305,⟨[2],B1⟩),(312,⟨[6],Av⟩),(326,⟨[7],tG⟩),(340,⟨[0,9],BL⟩),(347,⟨[0,2],BC⟩),(354,⟨[0,2],BP⟩),(359,⟨[0,2],Ab⟩),(380,⟨[0,17,18,19],BA⟩),(415,⟨[0,2,20,14],B8⟩),(436,⟨[0,2,21],BK⟩),(457,⟨[0,2,22,4,21],BG⟩),(471,⟨[7],Bj⟩),(485,⟨[0,17,23,18,24],BW⟩),(492,⟨[0,1,27,26],Ar⟩),(499,⟨[0,1,23],z6⟩),(504,⟨[0,1,8],zb⟩),(518,⟨[7],BD⟩),(532,⟨[0,32,33,34],Ca⟩),(539,⟨[0,37,35],wZ⟩),(544,⟨[0,1,37,35],wg⟩),(551,⟨[0,7],y5⟩),(556,⟨[0,44,1,37,35],Ae⟩),(563,⟨[0,1,37,35],AP⟩),(584,⟨[0,2,16,10,57,15,58,12,11],BX⟩),(598,⟨[2],BH⟩),(614,⟨[0,62],AU⟩),(621,⟨[0,65],Aw⟩),(628,⟨[0,66],zT⟩),(654,⟨[70,69],xo⟩),(661,⟨[73,75],zC⟩),(668,⟨[73,76],wF⟩),(673,⟨[73,79,78,80],ng⟩),(680,⟨[73,79,78,80],xG⟩),(685,⟨[73,79,78],uG⟩),(692,⟨[89,91],wQ⟩),(699,⟨[87,88,91],yL⟩),(706,⟨[93,94,91],zD⟩),(713,⟨[96,88,94],zF⟩),(720,⟨[100,101,91],wl⟩),(725,⟨[70],Ba⟩)]
noncomputable def zQ:List (Nat × Option Nat):=[(72,some 62),(99,some 89),(126,some 116),(153,some 143),(180,some 170),(207,some 197),(234,some 224),(261,some 251),(288,some 278),(362,some 340),(383,some 380),(397,none),(418,some 415),(439,some 436),(460,some 457),(507,some 485),(566,some 532),(587,some 584),(631,some 614)]
noncomputable def Cr:List ((Nat × Nat) × Nat):=[((362,10),347),((362,11),354),((362,12),359),((507,25),492),((507,28),499),((507,29),504),((566,21),539),((566,38),544),((566,39),551),((566,45),556),((566,40),563),((631,64),621),((631,50),628)]
noncomputable def Bf:List (Nat × List Nat):=[(72,[1,2]),(99,[1]),(126,[1,3,4]),(153,[1,2,5]),(180,[1,6]),(207,[1,6]),(234,[1,2,7]),(261,[1,7]),(288,[1,7]),(362,[9]),(383,[17,18,19]),(397,[]),(418,[2,20,14]),(439,[2,21]),(460,[2,22,4,21]),(507,[17,23,18,24]),(566,[32,33,34]),(587,[2,16,10,57,15,58,12,11]),(631,[62,63])]
noncomputable def c7(a b:String):V:=.tup none [.str a,.str b]
noncomputable def Da:List (Nat × V):=[(1,.str "[]"),(2,.str ":"),(3,.str "()"),(4,.dct [("[]",.int 0),(":",.int 2),("()",.int 0)]),
 (5,.dct [("T",.lst [c7 "M.A" "",c7 "M.B" "TI"]),("N",.lst [c7 "M.N" "T"]),("P",.lst [c7 "(,)" "TI"]),("L",.lst [c7 "[]" "",c7 ":" "IL"])]),
 (6,.tup (some 0) [.str "never"])]
noncomputable def BS:Tab:=⟨nm,fx,fun x=>Da.lookup x,fun c m=>Cr.lookup (c,m),fun c a=>(Bf.lookup c).any fun l=>l.contains a,fun c=>[72,99,126,153,180,207,234,261,288,383,397,418,439,460].contains c⟩
noncomputable def af:Prg:=⟨BS,fun a=>xm.lookup a,fun c=>zQ.lookup c⟩
end Mine
set_option genInjectivity true
namespace Mine
open PySem PySem.W PyProof.Rows
noncomputable def dS(g h:Heap):Prop:=∀a o,g.get? a=some o→h.get? a=some o
theorem dS.refl(g:Heap):dS g g:=fun _ _ e=>e
theorem dS.trans{a b c:Heap}(x:dS a b)(y:dS b c):dS a c:=fun _ _ e=>y _ _ (x _ _ e)
structure VW where
 g:Heap
 ml:Nat→Option Addr
 mi:Nat→Option Addr
structure VW.Le(X Y:VW):Prop where
 g:dS X.g Y.g
 ml:∀n a,X.ml n=some a→Y.ml n=some a
 mi:∀n a,X.mi n=some a→Y.mi n=some a
theorem VW.Le.refl(X:VW):X.Le X:=⟨.refl _,fun _ _ e=>e,fun _ _ e=>e⟩
theorem VW.Le.trans{a b c:VW}(x:a.Le b)(y:b.Le c):a.Le c:=⟨x.g.trans y.g,fun _ _ e=>y.ml _ _ (x.ml _ _ e),fun _ _ e=>y.mi _ _ (x.mi _ _ e)⟩
structure Cfg where
 prog:Program
 w:World
 K:Frag
 X0:VW
 os:OsState
noncomputable abbrev sk(G:Cfg):=PySem.strKind G.prog G.w
noncomputable abbrev ik(G:Cfg):=PySem.intKind G.prog G.w
noncomputable def rz:List DictEntry→List Nat→Prop
 |[],[]=>True
 |e::es,i::is=>(∃hs t v,e=⟨hs,.str (nm i) t,v⟩)∧rz es is
 |[],_::_=>False
 |_::_,[]=>False
inductive Rp (G:Cfg)(X:VW):Value→V→Prop
 |none:Rp G X .none .none
 |bool (b:Bool):Rp G X (.bool b) (.bool b)
 |int (i:Int) (t:Tok) (h:0<t):Rp G X (.int i t) (.int i)
 |str (s:Str) (t:Tok) (h:0<t):Rp G X (.str s t) (.str s)
 |ki (i:Int) (t:Tok):Rp G X (.int i t) (.ki i)
 |ks (s:Str) (t:Tok):Rp G X (.str s t) (.ks s)
 |tup {a:Addr} {id:Option Nat} {vs:Array Value} {l:List V} (ht:IsTup X.g a vs) (hn:vs.toList.length=l.length) (hl:∀(i:Nat)(v:Value)(d:V),vs.toList[i]? =some v→l[i]? =some d→Rp G X v d) (hi:∀k,id=some k→X.mi k=some a):Rp G X (.ref a) (.tup id l)
 |lst {a:Addr} {vs:Array Value} {n:Nat} {l:List V} (ht:X.g.get? a=some (listOf vs n)) (hn:vs.toList.length=l.length) (hl:∀(i:Nat)(v:Value)(d:V),vs.toList[i]? =some v→l[i]? =some d→Rp G X v d):Rp G X (.ref a) (.lst l)
 |inst {x dx C:Addr} {es:List DictEntry} {n:Nat} {fs:List (Nat × V)} (h1:X.g.get? x=some (instObj C dx)) (h2:X.g.get? dx=some (dictOf es n)) (hk:rz es (fs.map (·.1))) (hn:(es.map (·.val)).length=(fs.map (·.2)).length) (hl:∀(i:Nat)(v:Value)(d:V),(es.map (·.val))[i]? =some v→(fs.map (·.2))[i]? =some d→Rp G X v d):Rp G X (.ref x) (.inst C fs)
 |dct {a:Addr} {kvs:List (Str × Value)} {es:List (Str × V)} (hd:X.g.DictOf (sk G) a kvs) (hm:(a==sysModules)=false) (hk:kvs.map (·.1)=es.map (·.1)) (hn:(kvs.map (·.2)).length=(es.map (·.2)).length) (hl:∀(i:Nat)(v:Value)(d:V),(kvs.map (·.2))[i]? =some v→(es.map (·.2))[i]? =some d→Rp G X v d):Rp G X (.ref a) (.dct es)
 |dcti {a:Addr} {kvs:List (Int × Value)} {es:List (Int × V)} (hd:X.g.DictOf (ik G) a kvs) (hm:(a==sysModules)=false) (hk:kvs.map (·.1)=es.map (·.1)) (hn:(kvs.map (·.2)).length=(es.map (·.2)).length) (hl:∀(i:Nat)(v:Value)(d:V),(kvs.map (·.2))[i]? =some v→(es.map (·.2))[i]? =some d→Rp G X v d):Rp G X (.ref a) (.dcti es)
 |loc {a:Addr} {n:Nat} (h:X.ml n=some a):Rp G X (.ref a) (.loc n)
structure RpL(G:Cfg)(X:VW)(vs:List Value)(l:List V):Prop where
 n:vs.length=l.length
 r:∀(i:Nat)(v:Value)(d:V),vs[i]? =some v→l[i]? =some d→Rp G X v d
structure RpF(G:Cfg)(X:VW)(es:List DictEntry)(fs:List (Nat × V)):Prop where
 k:rz es (fs.map (·.1))
 v:RpL G X (es.map (·.val)) (fs.map (·.2))
structure RpK{K:Type}(G:Cfg)(X:VW)(kvs:List (K × Value))(es:List (K × V)):Prop where
 k:kvs.map (·.1)=es.map (·.1)
 v:RpL G X (kvs.map (·.2)) (es.map (·.2))
theorem IsTup.up{g g':Heap}(k:dS g g'){a:Addr}{vs:Array Value}(x:IsTup g a vs):IsTup g' a vs:=aT x fun o ho r=>bi o (k _ _ ho) r
theorem DictOf.up{prog:Program}{w:World}{K:Type}[DecidableEq K]{knd:PySem.KeyKind prog w K}{g g':Heap}{a:Addr}(k:∀o,g.get? a=some o→g'.get? a=some o){kvs:List (K × Value)}(x:g.DictOf knd a kvs):g'.DictOf knd a kvs:=
 kT x fun o es ep ho r=>yn o es ep (k _ ho) r
section
variable {G:Cfg}{X Y:VW}
theorem Rp.up(le:X.Le Y){v:Value}{d:V}(h:Rp G X v d):Rp G Y v d:=by
 induction h with
 |none=>exact .none
 |bool b=>exact .bool b
 |int i t h=>exact .int i t h
 |str i t h=>exact .str i t h
 |ki i t=>exact .ki i t
 |ks i t=>exact .ks i t
 |tup ht hn _ hi ih=>exact .tup (IsTup.up le.g ht) hn ih fun k e=>le.mi _ _ (hi k e)
 |lst ht hn _ ih=>exact .lst (le.g _ _ ht) hn ih
 |inst h1 h2 hk hn _ ih=>exact .inst (le.g _ _ h1) (le.g _ _ h2) hk hn ih
 |dct hd hm hk hn _ ih=>exact .dct (DictOf.up (le.g _) hd) hm hk hn ih
 |dcti hd hm hk hn _ ih=>exact .dcti (DictOf.up (le.g _) hd) hm hk hn ih
 |loc h=>exact .loc (le.ml _ _ h)
theorem RpL.up(le:X.Le Y){v:List Value}{d:List V}(h:RpL G X v d):RpL G Y v d:=⟨h.n,fun i v d a b=>(h.r i v d a b).up le⟩
theorem RpF.up(le:X.Le Y){v:List DictEntry}{d:List (Nat × V)}(h:RpF G X v d):RpF G Y v d:=⟨h.k,h.v.up le⟩
theorem RpK.up{K:Type}(le:X.Le Y){v:List (K × Value)}{d:List (K × V)}(h:RpK G X v d):RpK G Y v d:=⟨h.k,h.v.up le⟩
theorem Rp.tup'{a:Addr}{id:Option Nat}{vs:Array Value}{l:List V}(ht:IsTup X.g a vs)(h:RpL G X vs.toList l)(hi:∀k,id=some k→X.mi k=some a):Rp G X (.ref a) (.tup id l):=.tup ht h.n h.r hi
theorem Rp.lst'{a:Addr}{vs:Array Value}{n:Nat}{l:List V}(ht:X.g.get? a=some (listOf vs n))(h:RpL G X vs.toList l):Rp G X (.ref a) (.lst l):=.lst ht h.n h.r
theorem Rp.inst'{x dx C:Addr}{es:List DictEntry}{n:Nat}{fs:List (Nat × V)}(h1:X.g.get? x=some (instObj C dx))(h2:X.g.get? dx=some (dictOf es n))(h:RpF G X es fs):Rp G X (.ref x) (.inst C fs):=.inst h1 h2 h.k h.v.n h.v.r
variable {v:Value}
noncomputable def CW(G:Cfg)(X:VW):V→(Value→Prop)→Prop
 |.none,M=>M .none
 |.bool b,M=>M (.bool b)
 |.int i,M=>∀t,M (.int i t)
 |.str s,M=>∀t,M (.str s t)
 |.ki i,M=>∀t,M (.int i t)
 |.ks s,M=>∀t,M (.str s t)
 |.tup id l,M=>∀a vs,IsTup X.g a vs→RpL G X vs.toList l→(∀k,id=some k→X.mi k=some a)→M (.ref a)
 |.lst l,M=>∀a vs n,X.g.get? a=some (listOf vs n)→RpL G X vs.toList l→M (.ref a)
 |.inst C fs,M=>∀x dx es n,X.g.get? x=some (instObj C dx)→X.g.get? dx=some (dictOf es n)→RpF G X es fs→M (.ref x)
 |.dct es,M=>∀a kvs,X.g.DictOf (sk G) a kvs→(a==sysModules)=false→RpK G X kvs es→M (.ref a)
 |.dcti es,M=>∀a kvs,X.g.DictOf (ik G) a kvs→(a==sysModules)=false→RpK G X kvs es→M (.ref a)
 |.loc n,M=>∀a,X.ml n=some a→M (.ref a)
@[elab_as_elim] theorem Rp.on{M:Value→Prop}{d:V}(h:Rp G X v d)(k:CW G X d M):M v:=by
 cases h with
 |none=>exact k
 |bool b=>exact k
 |int i t _=>exact k t
 |str s t _=>exact k t
 |ki i t=>exact k t
 |ks s t=>exact k t
 |tup h1 h2 h3 h4=>exact k _ _ h1 ⟨h2,h3⟩ h4
 |lst h1 h2 h3=>exact k _ _ _ h1 ⟨h2,h3⟩
 |inst h1 h2 h3 h4 h5=>exact k _ _ _ _ h1 h2 ⟨h3,h4,h5⟩
 |dct h1 h2 h3 h4 h5=>exact k _ _ h1 h2 ⟨h3,h4,h5⟩
 |dcti h1 h2 h3 h4 h5=>exact k _ _ h1 h2 ⟨h3,h4,h5⟩
 |loc h=>exact k _ h
noncomputable def Cf:V→Bool
 |.int _=>true|.str _=>true|_=>false
noncomputable def uh:Value→Tok
 |.int _ t=>t|.str _ t=>t|_=>0
theorem Rp.pos{d:V}(h:Rp G X v d):Cf d=true→0<uh v:=by
 cases h with
 |int i t p=>exact fun _=>p
 |str s t p=>exact fun _=>p
 |_=>exact fun e=>bE e
@[elab_as_elim] theorem Rp.onp{M:Value→Prop}{s:Str}(h:Rp G X v (.str s))(k:∀t,0<t→M (.str s t)):M v:=
 h.on (M:=fun v=>0<uh v→M v) (fun t p=>k t p) (h.pos rfl)
@[elab_as_elim] theorem Rp.onpi{M:Value→Prop}{s:Int}(h:Rp G X v (.int s))(k:∀t,0<t→M (.int s t)):M v:=
 h.on (M:=fun v=>0<uh v→M v) (fun t p=>k t p) (h.pos rfl)
theorem RpL.nil:RpL G X [] []:=⟨rfl,fun _ _ _ e=>by exact nE e⟩
theorem RpL.cons{v:Value}{d:V}{vs:List Value}{ds:List V}(h:Rp G X v d)(r:RpL G X vs ds):RpL G X (v::vs) (d::ds):=
 ⟨congrArg Nat.succ r.n,fun i=>match i with
  |0=>fun _ _ a b=>by refine oE a ?_;refine oE b ?_;exact h
  |i+1=>r.r i⟩
theorem RpL.uncons{v:Value}{d:V}{vs:List Value}{ds:List V}(r:RpL G X (v::vs) (d::ds)):Rp G X v d∧RpL G X vs ds:=⟨r.r 0 _ _ rfl rfl,Nat.succ.inj r.n,fun i=>r.r (i+1)⟩
theorem RpL.get{vs:List Value}{l:List V}(r:RpL G X vs l){i:Nat}{d:V}(e:l[i]? =some d){C:Prop}(k:∀u,vs[i]? =some u→Rp G X u d→C):C:=by
 have h:i<vs.length:=by refine eR r.n ?_;exact(List.getElem?_eq_some_iff.mp e).1
 exact k _ (List.getElem?_eq_getElem h) (r.r i _ _ (List.getElem?_eq_getElem h) e)
@[elab_as_elim] theorem RpL.con{M:List Value→Prop}{vs:List Value}{d:V}{ds:List V}(h:RpL G X vs (d::ds))(k:∀u us,Rp G X u d→RpL G X us ds→M (u::us)):M vs:=by
 induction vs using List.casesOn with
 |nil=>injection h.n
 |cons u us=>exact k u us h.uncons.1 h.uncons.2
theorem RpL.nil_inv{vs:List Value}(h:RpL G X vs []):vs=[]:=List.eq_nil_of_length_eq_zero h.n
@[elab_as_elim] theorem RpL.one{M:List Value→Prop}{vs:List Value}{d:V}(h:RpL G X vs [d])(k:∀v,Rp G X v d→M [v]):M vs:=
 h.con fun u us a b=>(b.nil_inv▸k u a:M (u::us))
@[elab_as_elim] theorem RpL.two{M:List Value→Prop}{vs:List Value}{d e:V}(h:RpL G X vs [d,e])(k:∀v u,Rp G X v d→Rp G X u e→M [v,u]):M vs:=
 h.con fun u us a b=>b.one (M:=fun us=>M (u::us)) fun v c=>k u v a c
theorem RpL.append:∀{vs:List Value}{l:List V}{us:List Value}{m:List V},RpL G X vs l→RpL G X us m→RpL G X (vs++us) (l++m)
 |[],[],_,_,_,y=>y
 |_::_,_::_,_,_,x,y=>.cons x.uncons.1 (x.uncons.2.append y)
 |[],_::_,_,_,x,_=>nomatch x.n
 |_::_,[],_,_,x,_=>nomatch x.n
theorem RpL.take(n:Nat){vs:List Value}{l:List V}(r:RpL G X vs l):RpL G X (vs.take n) (l.take n):=
 ⟨by rw[List.length_take,List.length_take,r.n],fun i v d a b=>by
  rw[List.getElem?_take]at a b
  split at a
  ·rename_i h;rw[if_pos h]at b;exact r.r i v d a b
  ·exact nE a⟩
theorem RpL.drop(n:Nat){vs:List Value}{l:List V}(r:RpL G X vs l):RpL G X (vs.drop n) (l.drop n):=
 ⟨by rw[List.length_drop,List.length_drop,r.n],fun i v d a b=>by rw[List.getElem?_drop]at a b;exact r.r _ v d a b⟩
theorem RpL.set(n:Nat){u:Value}{x:V}{vs:List Value}{l:List V}(r:RpL G X vs l)(z:Rp G X u x):RpL G X (vs.set n u) (l.set n x):=
 ⟨by rw[List.length_set,List.length_set,r.n],fun i v d a b=>by
  rw[List.getElem?_set]at a b
  split at a
  ·rename_i h;rw[if_pos h]at b
   split at a
   ·rw[if_pos (by refine eE r.n ?_;assumption)]at b;refine oE a ?_;refine oE b ?_;exact z
   ·exact nE a
  ·rename_i h;replace b:=(if_neg h)▸b;exact r.r i v d a b⟩
theorem RpL.rep{vs:List Value}{l:List V}(r:RpL G X vs l):∀k:Nat,RpL G X (List.replicate k vs).flatten (List.replicate k l).flatten
 |0=>.nil
 |k+1=>by refine List.replicate_succ▸List.replicate_succ▸List.flatten_cons▸List.flatten_cons▸?_;exact r.append (r.rep k)
theorem RpK.len{K:Type}{v:List (K × Value)}{d:List (K × V)}(h:RpK G X v d):v.length=d.length:=by
 have:=congrArg List.length h.k;rwa [List.length_map,List.length_map]at this
theorem RpK.at{K:Type}[DecidableEq K](k:K){v:List (K × Value)}{d:List (K × V)}(h:RpK G X v d):(∃u x,valueAt v k=some u∧(d.find? fun p=>p.1=k).map (·.2)=some x∧Rp G X u x)∨(valueAt v k=Option.none∧(d.find? fun p=>p.1=k).map (·.2)=Option.none):=by
 induction v generalizing d with
 |nil=>induction d using List.casesOn with
  |nil=>exact .inr ⟨rfl,rfl⟩
  |cons _ _=>exact nomatch h.k
 |cons a v ih=>induction d using List.casesOn with
  |nil=>exact nomatch h.k
  |cons b d=>
   have e1:a.1=b.1:=(List.cons.inj h.k).1
   have ih:=ih ⟨(List.cons.inj h.k).2,h.v.uncons.2⟩
   unfold valueAt at ih ⊢
   refine eR (List.find?_cons) ?_;refine eR (List.find?_cons) ?_;refine eR e1 ?_
   by_cases q:b.1=k
   ·refine eR (decide_eq_true q) ?_;exact .inl (gc a.2 b.2 rfl rfl h.v.uncons.1)
   ·refine eR (decide_eq_false q) ?_;exact ih
noncomputable def Aa{K α:Type}[DecidableEq K](es:List (K × α))(k:K)(v:α):List (K × α):=if es.any (fun p=>p.1=k)then es.map (fun p=>if p.1=k then(p.1,v)else p)else es++[(k,v)]
theorem mo{K α β:Type}[DecidableEq K](k:K):∀{v:List (K × α)}{d:List (K × β)},v.map (·.1)=d.map (·.1)→(v.any fun p=>decide (p.1=k))=d.any fun p=>decide (p.1=k)
 |[],[],_=>rfl
 |(k1,_)::v,(k2,_)::d,h=>by
  refine cB (List.cons.inj h) fun e1 e2=>?_
  rw[List.any_cons,List.any_cons,mo k e2,(show k1=k2 from e1)]
 |[],_::_,h=>nomatch h
 |_::_,[],h=>nomatch h
theorem RpK.mapput{K:Type}[DecidableEq K]{k:K}{u:Value}{x:V}(z:Rp G X u x):∀{v:List (K × Value)}{d:List (K × V)},RpK G X v d→
  RpK G X (v.map fun kv=>if kv.1=k then(kv.1,u)else kv) (d.map fun p=>if p.1=k then(p.1,x)else p)
 |[],[],h=>h
 |(k1,v1)::v,(k2,d1)::d,h=>by
  refine cB (List.cons.inj h.k) fun e1 e2=>?_
  have e1:k1=k2:=e1
  subst e1
  obtain⟨i1,i2⟩:=RpK.mapput z (v:=v) (d:=d) ⟨e2,h.v.uncons.2⟩
  refine eR List.map_cons ?_;refine eR List.map_cons ?_
  by_cases q:k1=k
  ·refine eR (if_pos q) ?_;refine eR (if_pos q) ?_;exact⟨congrArg (k1::·) i1,.cons z i2⟩
  ·refine eR (if_neg q) ?_;refine eR (if_neg q) ?_;exact⟨congrArg (k1::·) i1,.cons h.v.uncons.1 i2⟩
 |[],_::_,h=>nomatch h.k
 |_::_,[],h=>nomatch h.k
theorem RpK.stored{K:Type}[DecidableEq K]{k:K}{u:Value}{x:V}(z:Rp G X u x){v:List (K × Value)}{d:List (K × V)}(h:RpK G X v d):RpK G X (PySem.stored v k u) (Aa d k x):=by
 unfold PySem.stored Aa
 refine eR (mo k h.k) ?_
 split
 ·exact h.mapput z
 ·exact⟨by refine eR List.map_append ?_;refine eR List.map_append ?_;refine eR h.k ?_;rfl,by refine eR List.map_append ?_;refine eR List.map_append ?_;exact h.v.append (.cons z .nil)⟩
end
end Mine
namespace Mine
open PySem PySem.W PyProof.Rows
noncomputable def jD:Obj:={cls:=.none,data:=.freed}
noncomputable def CK(n:Nat)(f:Addr→Option Obj):Heap:=⟨(Array.ofFn fun i:Fin n=>(f i.val).getD jD),{}⟩
theorem rg(h:Heap)(a:Addr):h.get? a=(h.objs[a]?).bind fun o=>if o.isFreed=true then none else some o:=by
 unfold Heap.get?
 generalize h.objs[a]? =o
 induction o using Option.casesOn with
 |none=>rfl
 |some o=>obtain⟨c,d,dt,sl⟩:=o;induction dt using Data.casesOn<;>rfl
theorem xQ{n:Nat}{f:Addr→Option Obj}(hf:∀a o,f a=some o→o.isFreed=false)(a:Addr):(CK n f).get? a=if a<n then f a else none:=by
 refine(rg _ a).trans ?_
 refine eR (Array.getElem?_ofFn (f:=fun i:Fin n=>(f i.val).getD jD)) ?_
 by_cases q:a<n
 ·refine eR (dif_pos q) ?_;refine eR (if_pos q) ?_
  cases e:f a with
  |none=>rfl
  |some o=>exact if_neg (hf a o e▸Bool.false_ne_true)
 ·refine eR (dif_neg q) ?_;exact(if_neg q).symm
theorem mK{h:Heap}{a:Addr}{o:Obj}(e:h.get? a=some o):o.isFreed=false:=by
 have e:=(rg h a).symm.trans e
 cases q:h.objs[a]? with
 |none=>rw[q]at e;exact nE e
 |some x=>
  rw[q]at e
  by_cases z:x.isFreed=true
  ·exact nE ((if_pos z).symm.trans e)
  ·have e:=(if_neg z).symm.trans e;injection e with e;exact e▸Bool.not_eq_true _▸z
noncomputable def VW.add(X:VW)(h:Heap)(p:Addr→Bool):VW:=⟨CK h.objs.size fun a=>if(X.g.get? a).isSome||p a then h.get? a else none,X.ml,X.mi⟩
theorem i6{X:VW}{h:Heap}{p:Addr→Bool}(a:Addr):(X.add h p).g.get? a=if(X.g.get? a).isSome||p a then h.get? a else none:=by
 refine(xQ (fun a o e=>?_) a).trans ?_
 ·split at e
  ·exact mK e
  ·exact nE e
 ·split
  ·rfl
  ·rename_i q
   split
   ·cases e:h.get? a with
    |none=>rfl
    |some o=>exact absurd (Heap.lt_size e) q
   ·rfl
theorem j8{X:VW}{h:Heap}{p:Addr→Bool}(sub:dS X.g h):X.Le (X.add h p):=⟨fun a o e=>by rw[i6,e];exact sub a o e,fun _ _ e=>e,fun _ _ e=>e⟩
theorem dY{X:VW}{h:Heap}{p:Addr→Bool}{a:Addr}{o:Obj}(hp:p a=true)(e:h.get? a=some o):(X.add h p).g.get? a=some o:=by
 rw[i6,hp,Bool.or_true];exact e
theorem cg{X:VW}{h:Heap}{p:Addr→Bool}{a:Addr}(e:X.g.get? a=none)(hp:p a=false):(X.add h p).g.get? a=none:=by rw[i6,e,hp];rfl
theorem mn{X:VW}{h:Heap}{p:Addr→Bool}:dS (X.add h p).g h:=fun a o e=>by
 rw[i6]at e
 split at e
 ·exact e
 ·exact nE e
theorem bp{h:Heap}{a:Addr}(ha:h.objs.size≤a):h.get? a=none:=by
 cases q:h.get? a with
 |none=>rfl
 |some o=>exact absurd (Heap.lt_size q) (Nat.not_lt.mpr ha)
theorem bR(h:Heap):h.get? h.objs.size=none:=bp (Nat.le_refl _)
theorem dS.none{g h:Heap}(k:dS g h){a:Addr}(e:h.get? a=Option.none):g.get? a=Option.none:=by
 cases q:g.get? a with
 |none=>rfl
 |some o=>rw[k a o q]at e;exact nR e
theorem bc(h:Heap)(o:Obj):dS h (h.push o):=fun _ _ e=>Heap.get?_push_of_some _ e
inductive Tg where
 |st (n:Nat)|fr|cl (x:Nat)|sl (x:Nat)|tm (k:Nat)|raw
@[reducible] noncomputable def Tg.ctorIdx(x:Tg):Nat:=@Tg.casesOn (fun _=>Nat) x (fun _=>0) 1 (fun _=>2) (fun _=>3) (fun _=>4) 5
inductive Ch where
 |raw (o:Obj)|list (l:List V)|dict (es:List (Str × V))|dcti (es:List (Int × V))|flds (fs:List (Nat × V))|ns (m:Str→Option Value)|cell (v:Option Value)
@[reducible] noncomputable def Ch.ctorIdx(x:Ch):Nat:=@Ch.casesOn (fun _=>Nat) x (fun _=>0) (fun _=>1) (fun _=>2) (fun _=>3) (fun _=>4) (fun _=>5) (fun _=>6)
structure Ow where
 t:Tg
 c:Ch
abbrev OM:=Addr→Option Ow
noncomputable def ou(O:OM)(a:Addr)(w:Option Ow):OM:=fun b=>if b=a then w else O b
theorem bK{O:OM}{a:Addr}{w:Option Ow}:ou O a w a=w:=if_pos rfl
theorem dq{O:OM}{a b:Addr}{w:Option Ow}(h:b≠a):ou O a w b=O b:=if_neg h
noncomputable def cQ(G:Cfg)(X:VW)(h:Heap)(a:Addr):Ch→Prop
 |.raw o=>h.get? a=some o
 |.list l=>∃vs n,h.get? a=some (listOf vs n)∧RpL G X vs.toList l
 |.dict es=>∃kvs,h.DictOf (sk G) a kvs∧RpK G X kvs es
 |.dcti es=>∃kvs,h.DictOf (ik G) a kvs∧RpK G X kvs es
 |.flds fs=>∃es n,h.get? a=some (dictOf es n)∧RpF G X es fs
 |.ns m=>h.Ns a m
 |.cell v=>h.IsCell a v
noncomputable def Cell.ch:Cell→Ch
 |.list l=>.list l
 |.dict es=>.dict es
 |.gone=>.raw jD
section
variable {G:Cfg}{X Y:VW}{h h':Heap}{a:Addr}{c:Ch}
theorem cQ.keep(le:X.Le Y)(k:∀o,h.get? a=some o→h'.get? a=some o)(C:cQ G X h a c):cQ G Y h' a c:=by
 induction c using Ch.casesOn with
 |raw o=>exact k _ C
 |list l=>refine eB C fun vs n e r=>?_;exact dA vs n (k _ e) (r.up le)
 |dict es=>refine aT C fun kvs e r=>?_;exact bi kvs (DictOf.up k e) (r.up le)
 |dcti es=>refine aT C fun kvs e r=>?_;exact bi kvs (DictOf.up k e) (r.up le)
 |flds fs=>refine eB C fun vs n e r=>?_;exact dA vs n (k _ e) (r.up le)
 |ns m=>refine kT C fun o es ep e r=>?_;exact yn o es ep (k _ e) r
 |cell v=>refine aT C fun o e r=>?_;exact bi o (k _ e) r
theorem cQ.al(C:cQ G X h a c):∃o,h.get? a=some o:=by
 induction c using Ch.casesOn with
 |raw o=>exact⟨o,C⟩
 |list l=>refine eB C fun vs n e r=>?_;exact⟨_,e⟩
 |dict es=>refine aT C fun kvs y1 r=>?_;refine kT y1 fun o _ _ e _=>?_;exact⟨o,e⟩
 |dcti es=>refine aT C fun kvs y1 r=>?_;refine kT y1 fun o _ _ e _=>?_;exact⟨o,e⟩
 |flds fs=>refine eB C fun vs n e r=>?_;exact⟨_,e⟩
 |ns m=>refine kT C fun o es ep e r=>?_;exact⟨o,e⟩
 |cell v=>refine aT C fun o e r=>?_;exact⟨o,e⟩
end
structure Inv(G:Cfg)(X:VW)(O:OM)(σ:Store)(s:Shared):Prop where
 sub:dS X.g s.heap
 x0:G.X0.Le X
 own:∀a w,O a=some w→X.g.get? a=none∧cQ G X s.heap a w.c
 st:∀n c,σ.cells[n]? =some c→c≠.gone→∃a,X.ml n=some a∧O a=some ⟨.st n,c.ch⟩
 ml:∀n a,X.ml n=some a→n<σ.cells.length
 mi:∀k a,X.mi k=some a→k<σ.nid∧∃o,X.g.get? a=some o
 idi:∀k k' a,X.mi k=some a→X.mi k'=some a→k=k'
 gens:s.gens= #[]
 os:s.os=G.os
 tk:0<s.toks
structure Frm where
 env:Env
 cs:List Nat
 X:VW
 O:OM
 kind:env.scope.kind=.function
 glob:env.globals=mainGlobals
 blt:env.builtins=builtinsNs
noncomputable def Sl(G:Cfg)(X:VW)(O:OM)(x:Nat)(v:Value):Slot→Prop
 |.v d=>Rp G X v d
 |.own l=>∃a,v=.ref a∧O a=some ⟨.sl x,.list l⟩
 |.ownd es=>∃a,v=.ref a∧O a=some ⟨.sl x,.dict es⟩
 |.ownk es=>∃a,v=.ref a∧O a=some ⟨.sl x,.dcti es⟩
 |.owni C fs=>∃a dx,v=.ref a∧O a=some ⟨.sl x,.raw (instObj C dx)⟩∧O dx=some ⟨.sl x,.flds fs⟩
noncomputable def cN(F:Frm)(O:OM)(x:Nat)(v:Value):Prop:=
 (F.env.kindOf (nm x)=some .local∧∃m,O F.env.locals=some ⟨.fr,.ns m⟩∧m (nm x)=some v)∨(x∈F.cs∧∃c,F.env.cells.lookup (nm x)=some c∧O c=some ⟨.cl x,.cell (some v)⟩)
structure Far(F:Frm)(O:OM)(x:Nat)(v:Value):Prop where
 k:F.env.kindOf (nm x)=some .cell∨F.env.kindOf (nm x)=some .free
 c:∃c o,F.env.cells.lookup (nm x)=some c∧O c=some ⟨.raw,.raw o⟩∧o.data=.cell (some v)
structure Loc(G:Cfg)(F:Frm)(X:VW)(O:OM)(ρ:ay):Prop where
 ns:∃m,O F.env.locals=some ⟨.fr,.ns m⟩
 cl:∀x∈F.cs,∃c v,F.env.cells.lookup (nm x)=some c∧O c=some ⟨.cl x,.cell v⟩∧F.env.kindOf (nm x)=some .cell
 v:∀x sl,ρ x=some sl→∃v,Sl G X O x v sl∧(cN F O x v∨(∃d,sl=.v d)∧Far F O x v)
inductive Tmp where
 |up (P:VW→Prop)|raw (N:List Addr) (g:Heap)|nmv (x:Nat) (v:Value)
noncomputable def fP:List Tmp→Nat
 |[]=>0
 |.raw _ _::r=>fP r+1
 |.up _::r=>fP r
 |.nmv _ _::r=>fP r
noncomputable def CY(F:Frm)(X:VW)(O:OM)(k:Nat):Tmp→Prop
 |.up P=>∀Y,X.Le Y→P Y
 |.raw N g=>∀b∈N,∃o,g.get? b=some o∧O b=some ⟨.tm k,.raw o⟩
 |.nmv x v=>cN F O x v
noncomputable def Tm(F:Frm)(X:VW)(O:OM):List Tmp→Prop
 |[]=>True
 |t::r=>CY F X O (fP r) t∧Tm F X O r
abbrev val(G:Cfg)(v:Value)(d:V):Tmp:=.up fun X=>Rp G X v d
structure Stw(G:Cfg)(F:Frm)(ρ:ay)(ts:List Tmp)(σ:Store)(s:Shared)(X:VW)(O:OM):Prop where
 le:F.X.Le X
 kp:∀a o,F.O a=some ⟨.raw,.raw o⟩→O a=some ⟨.raw,.raw o⟩
 inv:Inv G X O σ s
 loc:Loc G F X O ρ
 tm:Tm F X O ts
noncomputable def St(G:Cfg)(F:Frm)(ρ:ay)(ts:List Tmp)(σ:Store)(s:Shared):Prop:=∃X O,Stw G F ρ ts σ s X O
theorem St.on{G:Cfg}{F:Frm}{ρ:ay}{ts:List Tmp}{σ:Store}{s:Shared}(S:St G F ρ ts σ s){C:Prop}(k:∀X O,Stw G F ρ ts σ s X O→C):C:=ym S fun X O W=>k X O W
noncomputable def Tg.isH:Tg→Bool|.fr=>true|.cl _=>true|_=>false
noncomputable def Tg.isT:Tg→Bool|.fr=>true|.cl _=>true|.tm _=>true|_=>false
noncomputable def Tg.isF:Tg→Bool|.st _=>false|.tm _=>false|_=>true
section
variable {G:Cfg}{F:Frm}{ρ:ay}{ts:List Tmp}{σ:Store}{s:Shared}{X Y:VW}{O O':OM}
theorem Sl.up{x:Nat}{v:Value}{sl:Slot}(le:X.Le Y)(k:∀a c,O a=some ⟨.sl x,c⟩→O' a=some ⟨.sl x,c⟩)(h:Sl G X O x v sl):Sl G Y O' x v sl:=by
 induction sl using Slot.casesOn with
 |v d=>exact Rp.up le h
 |owni C fs=>refine hU h fun a dx e o1 o2=>?_;exact gc a dx e (k _ _ o1) (k _ _ o2)
 |_=>refine aT h fun a e o=>?_;exact bi a e (k _ _ o)
theorem Tg.hf{t:Tg}(h:t.isH=true):t.isF=true:=by induction t using Tg.casesOn<;>first|rfl|exact bE h
theorem Tg.ht{t:Tg}(h:t.isH=true):t.isT=true:=by induction t using Tg.casesOn<;>first|rfl|exact bE h
theorem cN.up{x:Nat}{v:Value}(k:∀a w,O a=some w→w.t.isH=true→O' a=some w)(h:cN F O x v):cN F O' x v:=by
 rcases h with⟨h1,m,h2,h3⟩|⟨h1,c,h2,h3⟩
 ·exact .inl ⟨h1,m,k _ _ h2 rfl,h3⟩
 ·exact .inr ⟨h1,c,h2,k _ _ h3 rfl⟩
theorem Far.up{x:Nat}{v:Value}(k:∀a w,O a=some w→w.t.isF=true→O' a=some w)(h:Far F O x v):Far F O' x v:=
 hU h.c fun c o h2 h3 h4=>⟨h.k,c,o,h2,k _ _ h3 rfl,h4⟩
theorem Loc.up(L:Loc G F X O ρ)(le:X.Le Y)(k:∀a w,O a=some w→w.t.isF=true→O' a=some w):Loc G F Y O' ρ:=
 ⟨Exists.elim L.ns fun m e=>⟨m,k _ _ e rfl⟩,fun x hx=>hU (L.cl x hx) fun c v e1 e2 e3=>(gc c v e1 (k _ _ e2 rfl) e3),
  fun x sl e=>aT (L.v x sl e) fun v a b=>(bi v (a.up le fun _ _ e=>k _ _ e rfl) (b.imp (cN.up fun a w e f=>k a w e (Tg.hf f)) fun z=>⟨z.1,z.2.up k⟩))⟩
theorem Tm.up(le:X.Le Y)(k:∀a w,O a=some w→w.t.isT=true→O' a=some w){ts:List Tmp}(h:Tm F X O ts):Tm F Y O' ts:=by
 induction ts with
 |nil=>trivial
 |cons t r ih=>
  refine⟨?_,ih h.2⟩
  induction t using Tmp.casesOn with
  |up P=>exact fun Z l=>h.1 Z (le.trans l)
  |raw N g=>exact fun b m=>aT (h.1 b m) fun o e w=>bi o e (k _ _ w rfl)
  |nmv x v=>exact cN.up (fun a w e f=>k a w e (Tg.ht f)) h.1
noncomputable def wi:List Tmp→Bool
 |[]=>true
 |.nmv _ _::_=>false
 |.up _::r=>wi r
 |.raw _ _::r=>wi r
theorem Tm.pl(le:X.Le Y)(k:∀a n c,O a=some ⟨.tm n,c⟩→O' a=some ⟨.tm n,c⟩){ts:List Tmp}(hp:wi ts=true)(h:Tm F X O ts):Tm F Y O' ts:=by
 induction ts with
 |nil=>trivial
 |cons t r ih=>
  induction t using Tmp.casesOn with
  |up P=>exact⟨fun Z l=>h.1 Z (le.trans l),ih hp h.2⟩
  |raw N g=>exact⟨fun b m=>aT (h.1 b m) fun o e w=>(bi o e (k _ _ _ w)),ih hp h.2⟩
  |nmv x v=>exact bE hp
theorem St.sub{ts':List Tmp}(S:St G F ρ ts σ s)(h:∀X O,Tm F X O ts→Tm F X O ts'):St G F ρ ts' σ s:=let⟨X,O,a,b,c,d,e⟩:=S;⟨X,O,a,b,c,d,h X O e⟩
theorem St.pop{t:Tmp}(S:St G F ρ (t::ts) σ s):St G F ρ ts σ s:=S.sub fun _ _ h=>h.2
theorem St.pop2{t:Tmp}{P:VW→Prop}(S:St G F ρ (t:: .up P::ts) σ s):St G F ρ (t::ts) σ s:=S.sub fun _ _ h=>⟨h.1,h.2.2⟩
theorem St.add{P:VW→Prop}(S:St G F ρ ts σ s)(h:∀X O,Tm F X O ts→P X):St G F ρ (.up P::ts) σ s:=
 S.sub fun X O t=>⟨fun Y le=>h Y O (t.up le fun _ _ e _=>e),t⟩
theorem St.v(S:St G F ρ ts σ s){v:Value}{d:V}(h:∀X,Rp G X v d):St G F ρ (val G v d::ts) σ s:=S.add fun X _ _=>h X
theorem Inv.alloc(I:Inv G X O σ s){h':Heap}{tk:Tok}(k:dS s.heap h')(ht:0<tk)(p:Addr→Bool)(hp:∀a,p a=true→s.heap.get? a=none)
  (ho:∀a w,O a=some w→O' a=some w) (hn:∀a w,O' a=some w→O a=none→s.heap.get? a=none∧p a=false∧cQ G (X.add h' p) h' a w.c):
  Inv G (X.add h' p) O' σ {s with heap:=h',toks:=tk}∧X.Le (X.add h' p):=by
 have le:X.Le (X.add h' p):=j8 (I.sub.trans k)
 refine⟨⟨mn,I.x0.trans le,fun a w e=>?_,fun n c e1 e2=>?_,I.ml,fun j a e=>?_,I.idi,I.gens,I.os,ht⟩,le⟩
 ·cases q:O a with
  |none=>refine o6 (hn a w e q) fun z1 z2 z3=>?_;exact⟨cg (I.sub.none z1) z2,z3⟩
  |some u=>
   rw[ho a u q]at e;refine oE e ?_
   refine cB (I.own a _ q) fun z1 z2=>?_
   refine⟨cg z1 ?_,z2.keep le (k a)⟩
   cases y:p a with
   |false=>rfl
   |true=>obtain⟨o,z⟩:=z2.al;rw[hp a y]at z;exact nE z
 ·refine aT (I.st n c e1 e2) fun a m1 m2=>?_;exact bi a m1 (ho _ _ m2)
 ·obtain⟨z1,o,z2⟩:=I.mi j a e;exact⟨z1,o,le.g _ _ z2⟩
theorem Stw.alloc(S:Stw G F ρ ts σ s X O){h':Heap}{tk:Tok}(k:dS s.heap h')(ht:0<tk)(p:Addr→Bool)(hp:∀a,p a=true→s.heap.get? a=none)
  (ho:∀a w,O a=some w→O' a=some w) (hn:∀a w,O' a=some w→O a=none→s.heap.get? a=none∧p a=false∧cQ G (X.add h' p) h' a w.c):
  Stw G F ρ ts σ {s with heap:=h',toks:=tk} (X.add h' p) O'∧X.Le (X.add h' p):=
 cB (S.inv.alloc k ht p hp ho hn) fun I le=>
 ⟨⟨S.le.trans le,fun a o e=>ho _ _ (S.kp a o e),I,S.loc.up le fun a w e _=>ho a w e,S.tm.up le fun a w e _=>ho a w e⟩,le⟩
theorem St.alloc(S:St G F ρ ts σ s){h':Heap}{tk:Tok}(k:dS s.heap h')(ht:0<tk)(p:Addr→Bool)(hp:∀a,p a=true→s.heap.get? a=none){Q:VW→Prop}
  (r:∀Y O,Tm F Y O ts→(∀a o,p a=true→h'.get? a=some o→Y.g.get? a=some o)→Q Y):St G F ρ (.up Q::ts) σ {s with heap:=h',toks:=tk}:=by
 refine S.on fun X O S=>?_
 have⟨S',le⟩:=S.alloc k ht p hp (O':=O) (fun _ _ e=>e) fun a w e q=>by rw[e]at q;exact nR q
 exact⟨_,O,S'.le,S'.kp,S'.inv,S'.loc,fun Y l=>r Y O (S'.tm.up l fun _ _ e _=>e) fun a o e1 e2=>l.g _ _ (dY e1 e2),S'.tm⟩
theorem St.grow(S:St G F ρ ts σ s){h':Heap}{tk:Tok}(k:dS s.heap h')(ht:0<tk):St G F ρ ts σ {s with heap:=h',toks:=tk}:=
 (S.alloc k ht (fun _=>false) (fun _ e=>nomatch e) (Q:=fun _=>True) fun _ _ _ _=>trivial).pop
theorem St.tok(S:St G F ρ ts σ s){tk:Tok}(ht:0<tk):St G F ρ ts σ {s with toks:=tk}:=S.grow (.refl _) ht
theorem St.gens(S:St G F ρ ts σ s):s.gens= #[]:=ym S fun _ _ S=>S.inv.gens
theorem St.tk(S:St G F ρ ts σ s):0<s.toks:=ym S fun _ _ S=>S.inv.tk
theorem St.x0(S:St G F ρ ts σ s):dS G.X0.g s.heap:=ym S fun _ _ S=>S.inv.x0.g.trans S.inv.sub
theorem Inv.updC(I:Inv G X O σ s){a:Addr}{t:Tg}{c c':Ch}(ha:O a=some ⟨t,c⟩){h':Heap}{tk:Tok}(ht:0<tk)(k1:dS X.g h')(k2:∀b w,b≠a→O b=some w→cQ G X s.heap b w.c→cQ G X h' b w.c)(hc:cQ G X h' a c'){σ':Store}
  (e1:σ'.nid=σ.nid) (e2:σ'.cells.length=σ.cells.length) (hs:∀n y,σ'.cells[n]? =some y→y≠.gone→(t=.st n∧y.ch=c'∧X.ml n=some a)∨(t≠.st n∧σ.cells[n]? =some y)):Inv G X (ou O a (some ⟨t,c'⟩)) σ' {s with heap:=h',toks:=tk}:=by
 have na:=(I.own a _ ha).1
 refine⟨k1,I.x0,fun b w e=>?_,fun n y z1 z2=>?_,fun n b e=>by refine eR e2 ?_;exact I.ml n b e,fun j b e=>by refine eR e1 ?_;exact I.mi j b e,I.idi,I.gens,I.os,ht⟩
 ·by_cases q:b=a
  ·clear I c ha ht k1 k2 σ' e1 e2 hs;subst q;rw[bK]at e;refine oE e ?_;exact⟨na,hc⟩
  ·rw[dq q]at e;exact⟨(I.own b w e).1,k2 b w q e (I.own b w e).2⟩
 ·rcases hs n y z1 z2 with⟨q1,q2,q3⟩|⟨q1,q2⟩
  ·exact bi a q3 (by rw[bK,q1,q2])
  ·refine aT (I.st n y q2 z2) fun b m1 m2=>?_
   exact⟨b,m1,by refine eR (dq fun q=>q1 (by rw[q,ha]at m2;injection m2 with z1;injection z1)) ?_;exact m2⟩
theorem Inv.upd(I:Inv G X O σ s){a:Addr}{t:Tg}{c c':Ch}(ha:O a=some ⟨t,c⟩){h':Heap}{tk:Tok}(ht:0<tk)(k:∀b o,b≠a→s.heap.get? b=some o→h'.get? b=some o)(hc:cQ G X h' a c'){σ':Store}
  (e1:σ'.nid=σ.nid) (e2:σ'.cells.length=σ.cells.length) (hs:∀n y,σ'.cells[n]? =some y→y≠.gone→(t=.st n∧y.ch=c'∧X.ml n=some a)∨(t≠.st n∧σ.cells[n]? =some y)):Inv G X (ou O a (some ⟨t,c'⟩)) σ' {s with heap:=h',toks:=tk}:=
 I.updC ha ht (fun b o e=>k b o (fun q=>by rw[q,(I.own a _ ha).1]at e;exact nE e) (I.sub b o e)) (fun b w n _ z=>z.keep (.refl _) fun o=>k b o n) hc e1 e2 hs
theorem Inv.freeze(I:Inv G X O σ s)(p:Addr→Bool){σ':Store}(e1:σ'.nid=σ.nid)(e2:σ'.cells.length=σ.cells.length)(hs:∀n y,σ'.cells[n]? =some y→y≠.gone→σ.cells[n]? =some y∧∀a,X.ml n=some a→p a=false):
  Inv G (X.add s.heap p) (fun a=>if p a then none else O a) σ' s∧X.Le (X.add s.heap p):=by
 have le:X.Le (X.add s.heap p):=j8 I.sub
 refine⟨⟨mn,I.x0.trans le,fun a w e=>?_,fun n y z1 z2=>?_,fun n b e=>by refine eR e2 ?_;exact I.ml n b e,fun j b e=>by refine eR e1 ?_;obtain⟨z1,o,z2⟩:=I.mi j b e;exact⟨z1,o,le.g _ _ z2⟩,I.idi,I.gens,I.os,I.tk⟩,le⟩
 ·have e:(if p a then none else O a)=some w:=e
  cases q:p a with
  |true=>rw[q]at e;exact nE e
  |false=>rw[q]at e;exact⟨cg (I.own a w e).1 q,(I.own a w e).2.keep le fun _ e=>e⟩
 ·refine cB (hs n y z1 z2) fun q1 q2=>?_
  refine aT (I.st n y q1 z2) fun a m1 m2=>?_
  exact bi a m1 (by show(if p a then none else O a)=_;rw[q2 a m1];exact m2)
end
end Mine
namespace Mine
open PySem PySem.W PyProof.Rows
structure Room(n:Nat)(A:Around):Prop where
 h:A.handled=none
 d:A.depth+2*n+2<recursionLimit
 u:A.units+8*n+40<cLine
abbrev bC{α:Type}(G:Cfg)(A:Around)(t:Sem α)(Q:α→Shared→Prop)(s:Shared):Prop:=wpAny (model G.prog G.w) A t Q (fun _ _=>False) s
noncomputable def Ex(G:Cfg)(F:Frm)(n:Nat)(t:Sem Value)(ρ:ay)(σ:Store)(d:V)(σ':Store):Prop:=
 ∀A ts s,Room n A→St G F ρ ts σ s→bC G A t (fun v s'=>St G F ρ (val G v d::ts) σ' s') s
theorem ad{α:Type}{G:Cfg}{A:Around}{t:Sem α}{Q Q':α→Shared→Prop}{s:Shared}(h:bC G A t Q s)(k:∀a s,Q a s→Q' a s):bC G A t Q' s:=wpAny_mono h k fun _ _ x=>x
theorem fA{α β:Type}{G:Cfg}{A:Around}{m:Sem α}{f:α→Sem β}{Q:β→Shared→Prop}{s:Shared}(h:bC G A m (fun a s'=>bC G A (f a) Q s') s):bC G A (m>>= f) Q s:=wpAny_bind h
theorem bt{α:Type}{M:Model}{A:Around}{t:Sem α}{Q:α→Shared→Prop}{E:Value→Shared→Prop}{s:Shared}(h:wpAny M A t Q (fun _ _=>False) s):wpAny M A t Q E s:=wpAny_mono h (fun _ _ x=>x) fun _ _ x=>x.elim
theorem eA{α:Type}{G:Cfg}{A:Around}{t:Sem α}{Q:α→Shared→Prop}{s:Shared}(ht:0<s.toks)(h:bC G A t (fun a s'=>0<s'.toks→Q a s') s):bC G A t Q s:=
 wpAny_with_toks (n:=1) ht (wpAny_mono h (fun _ _ x y=>x y) fun _ _ x=>x.elim)
noncomputable def b6(F:Frm)(x:Nat):Prop:=F.env.kindOf (nm x)=some .local∨x∈F.cs
noncomputable def pC(G:Cfg)(X:VW):Flow→Fl→Prop
 |.next,.next=>True
 |.ret v,.ret d=>Rp G X v d
 |_,_=>False
noncomputable def iy(G:Cfg)(F:Frm)(n:Nat)(t:Sem Flow)(ρ:ay)(σ:Store)(fl:Fl)(ρ':ay)(σ':Store):Prop:=
 ∀A ts s,Room n A→wi ts=true→St G F ρ ts σ s→bC G A t (fun f s'=>St G F ρ' (.up (fun X=>pC G X f fl)::ts) σ' s') s
section
variable {G:Cfg}{F:Frm}{ρ:ay}{ts:List Tmp}{σ:Store}{s:Shared}{X Y:VW}{O O':OM}{A:Around}{x:Nat}{v:Value}
theorem cN.one(L:Loc G F X O ρ){u:Value}(a:cN F O x v)(b:cN F O x u):v=u:=by
 rcases a with⟨k,m,o,e⟩|⟨k,c,l,o⟩<;>rcases b with⟨k',m',o',e'⟩|⟨k',c',l',o'⟩
 ·replace o':=o▸o';cases o';rw[e]at e';exact Option.some.inj e'
 ·obtain⟨_,_,_,_,z⟩:=L.cl x k';rw[k]at z;exact absurd z (by decide)
 ·obtain⟨_,_,_,_,z⟩:=L.cl x k;rw[k']at z;exact absurd z (by decide)
 ·rw[l]at l';injection l' with z1;subst z1;replace o':=o▸o';cases o';rfl
theorem Stw.load(W:Stw G F ρ ts σ s X O){sl:Slot}(h:ρ x=some sl)(hd:(nm x==("__classdict__":Str))=false){Q:Value→Shared→Prop}(q:∀v,Sl G X O x v sl→(cN F O x v∨(∃d,sl=.v d)∧Far F O x v)→Q v s):bC G A (loadName F.env (nm x)) Q s:=by
 have own:=fun a w e=>(W.inv.own a w e).2
 refine aT (W.loc.v x sl h) fun v hs hv=>?_
 have fin:=q v hs hv
 rcases hv with(⟨k,m,o,e⟩|⟨k,c,l,o⟩)|⟨_,k,c,o,l,oo,dd⟩
 ·exact wpAny_loadName_local F.kind k (own _ _ o) e fin
 ·refine hU (W.loc.cl x k) fun _ _ _ _ z=>?_
  exact wpAny_loadName_cell F.kind z l (own _ _ o) fin
 ·have ic:s.heap.IsCell c (some v):=bi o (own _ _ oo) dd
  rcases k with k|k
  ·exact wpAny_loadName_cell F.kind k l ic fin
  ·exact wpAny_loadName_free F.kind k l ic fin hd
theorem qI(S:St G F ρ ts σ s){d:V}(h:ρ x=some (.v d))(hd:(nm x==("__classdict__":Str))=false){Q:Value→Shared→Prop}(q:∀v,St G F ρ (val G v d::ts) σ s→Q v s):bC G A (loadName F.env (nm x)) Q s:=by
 refine S.on fun X O W=>?_
 exact W.load h hd fun v r _=>q v ⟨X,O,W.le,W.kp,W.inv,W.loc,fun Y le=>Rp.up le r,W.tm⟩
theorem tZ(S:St G F ρ ts σ s){sl:Slot}(h:ρ x=some sl)(hn:∀d,sl≠.v d)(hd:(nm x==("__classdict__":Str))=false){Q:Value→Shared→Prop}(q:∀v,St G F ρ (.nmv x v::ts) σ s→Q v s):bC G A (loadName F.env (nm x)) Q s:=by
 refine S.on fun X O W=>?_
 exact W.load h hd fun v r k=>q v ⟨X,O,W.le,W.kp,W.inv,W.loc,k.elim id fun⟨⟨d,e⟩,_⟩=>absurd e (hn d),W.tm⟩
theorem Stw.slot{sl:Slot}(W:Stw G F ρ ts σ s X O)(H:cN F O x v)(h:ρ x=some sl)(hn:∀d,sl≠.v d):Sl G X O x v sl:=by
 refine aT (W.loc.v x sl h) fun u hs hv=>?_
 rcases hv with hv|⟨⟨d,e⟩,_⟩
 ·refine eR (H.one W.loc hv) ?_;exact hs
 ·exact absurd e (hn d)
theorem Loc.set{sl:Slot}(L:Loc G F X O ρ)(le:X.Le Y)(ns:∃m,O' F.env.locals=some ⟨.fr,.ns m⟩)(cl:∀x∈F.cs,∃c v,F.env.cells.lookup (nm x)=some c∧O' c=some ⟨.cl x,.cell v⟩∧F.env.kindOf (nm x)=some .cell)
  (hS:∀y a c,y≠x→O a=some ⟨.sl y,c⟩→O' a=some ⟨.sl y,c⟩) (hH:∀y u,y≠x→cN F O y u→cN F O' y u) (hR:∀a o,O a=some ⟨.raw,.raw o⟩→O' a=some ⟨.raw,.raw o⟩) (hs:Sl G Y O' x v sl) (hv:cN F O' x v∨(∃d,sl=.v d)∧Far F O' x v):Loc G F Y O' (ρ.set x sl):=by
 refine⟨ns,cl,fun y sl' e=>?_⟩
 by_cases q:y=x
 ·clear L le ns cl hS hH hR;subst q
  have e:(if y=y then some sl else ρ y)=some sl':=e
  rw[if_pos rfl]at e;refine oE e ?_;exact bi v hs hv
 ·have e:(if y=x then some sl else ρ y)=some sl':=e
  rw[if_neg q]at e
  refine aT (L.v y sl' e) fun u a b=>?_
  exact bi u (a.up le (hS y · · q)) (b.imp (hH y u q) fun⟨z1,z2,c,o,z3,z4,z5⟩=>⟨z1,z2,c,o,z3,hR _ _ z4,z5⟩)
theorem Stw.chgC(W:Stw G F ρ ts σ s X O){a:Addr}{c c':Ch}{sl:Slot}(ha:O a=some ⟨.sl x,c⟩){h':Heap}{tk:Tok}(ht:0<tk)(k1:dS X.g h')(k2:∀b w,b≠a→O b=some w→cQ G X s.heap b w.c→cQ G X h' b w.c)(hc:cQ G X h' a c')(H:cN F O x v)(hs:Sl G X (ou O a (some ⟨.sl x,c'⟩)) x v sl):
  Stw G F (ρ.set x sl) ts σ {s with heap:=h',toks:=tk} X (ou O a (some ⟨.sl x,c'⟩)):=by
 have ne:∀b w,O b=some w→w.t≠.sl x→ou O a (some ⟨.sl x,c'⟩) b=some w:=fun b w e n=>(dq fun q=>n (by replace e:=ha▸q▸e;refine oE e ?_;rfl)).trans e
 have nt:∀b w,O b=some w→w.t.isT=true→ou O a (some ⟨.sl x,c'⟩) b=some w:=fun b w e n=>ne b w e fun q=>by rw[q]at n;exact bE n
 have nh:∀b w,O b=some w→w.t.isH=true→ou O a (some ⟨.sl x,c'⟩) b=some w:=fun b w e n=>nt b w e (Tg.ht n)
 exact⟨W.le,fun b o e=>ne _ _ (W.kp b o e) fun q=>(nomatch q),W.inv.updC ha ht k1 k2 hc rfl rfl fun n y e _=>.inr ⟨fun q=>(nomatch q),e⟩,
  W.loc.set (.refl X) (Exists.elim W.loc.ns fun m e=>⟨m,nh _ _ e rfl⟩) (fun y hy=>hU (W.loc.cl y hy) fun c u e1 e2 e3=>gc c u e1 (nh _ _ e2 rfl) e3) (fun y b c q e=>ne _ _ e fun z=>q (by injection z)) (fun y u _=>cN.up nh) (fun b o e=>ne _ _ e fun q=>(nomatch q)) hs (.inl (H.up nh)),W.tm.up (.refl X) nt⟩
theorem Stw.chg(W:Stw G F ρ ts σ s X O){a:Addr}{c c':Ch}{sl:Slot}(ha:O a=some ⟨.sl x,c⟩){h':Heap}{tk:Tok}(ht:0<tk)(k:∀b o,b≠a→s.heap.get? b=some o→h'.get? b=some o)(hc:cQ G X h' a c')(H:cN F O x v)(hs:Sl G X (ou O a (some ⟨.sl x,c'⟩)) x v sl):
  Stw G F (ρ.set x sl) ts σ {s with heap:=h',toks:=tk} X (ou O a (some ⟨.sl x,c'⟩)):=
 W.chgC ha ht (fun b o e=>k b o (fun q=>by rw[q,(W.inv.own a _ ha).1]at e;exact nE e) (W.inv.sub b o e)) (fun b w n _ z=>z.keep (.refl _) fun o=>k b o n) hc H hs
theorem Stw.store(hn:∀i j,nm i=nm j→i=j)(W:Stw G F ρ ts σ s X O)(hp:wi ts=true)(hx:b6 F x){sl:Slot}(hs:Sl G X O x v sl):bC G A (storeName F.env (nm x) v) (fun _ s'=>St G F (ρ.set x sl) ts σ s') s:=by
 refine Exists.elim W.loc.ns fun m oL=>?_
 have own:=fun a w e=>(W.inv.own a w e).2
 have key:∀{a:Addr}{t:Tg}{c c':Ch}{h':Heap}{tk:Tok},O a=some ⟨t,c⟩→t.isH=true→0<tk→(∀b o,b≠a→s.heap.get? b=some o→h'.get? b=some o)→cQ G X h' a c'→(∃m,ou O a (some ⟨t,c'⟩) F.env.locals=some ⟨.fr,.ns m⟩)→
   (∀x∈F.cs,∃c v,F.env.cells.lookup (nm x)=some c∧ou O a (some ⟨t,c'⟩) c=some ⟨.cl x,.cell v⟩∧F.env.kindOf (nm x)=some .cell)→(∀y u,y≠x→cN F O y u→cN F (ou O a (some ⟨t,c'⟩)) y u)→cN F (ou O a (some ⟨t,c'⟩)) x v→
   St G F (ρ.set x sl) ts σ {s with heap:=h',toks:=tk}:=fun{a t c c' h' tk} ha ht htk k hc ns cl hH hv=>by
  have ne:∀b w,O b=some w→w.t.isH=false→ou O a (some ⟨t,c'⟩) b=some w:=fun b w e n=>(dq fun q=>by rw[q,ha]at e;injection e with z1;subst z1;rw[ht]at n;injection n).trans e
  exact⟨X,ou O a (some ⟨t,c'⟩),W.le,fun b o e=>ne _ _ (W.kp b o e) rfl,W.inv.upd ha htk k hc rfl rfl fun n y e _=>.inr ⟨fun q=>(by rw[q]at ht;exact bE ht),e⟩,
   W.loc.set (.refl X) ns cl (fun y b c _ e=>ne _ _ e rfl) hH (fun b o e=>ne _ _ e rfl) (hs.up (.refl X) fun b c e=>ne _ _ e rfl) (.inl hv),W.tm.pl (.refl X) (fun b n c e=>ne _ _ e rfl) hp⟩
 rcases hx with hx|hx
 ·refine wpAny_storeName_local hx (own _ _ oL) (fun h' hn' hs'=>?_) (by refine eR F.kind ?_;rfl)
  refine key (c':=.ns fun y=>if y=nm x then some v else m y) oL rfl (Nat.succ_pos _) (fun b o n e=>hs'.extBut b o n e) hn' ⟨_,bK⟩ (fun y hy=>?_) (fun y u q h=>?_) (.inl ⟨hx,_,bK,if_pos rfl⟩)
  ·refine hU (W.loc.cl y hy) fun c u e1 e2 e3=>?_
   exact gc c u e1 ((dq fun z=>by rw[z,oL]at e2;exact nomatch e2).trans e2) e3
  ·rcases h with⟨k,m',o,e⟩|⟨k,c,l,o⟩
   ·replace o:=oL▸o;cases o
    exact .inl ⟨k,_,bK,(if_neg fun z=>q (hn _ _ z)).trans e⟩
   ·exact .inr ⟨k,c,l,(dq fun z=>by rw[z,oL]at o;exact nomatch o).trans o⟩
 ·refine hU (W.loc.cl x hx) fun c u0 l1 oc kc=>?_
  refine wpAny_storeName_cell F.kind kc l1 (own _ _ oc) (fun h' ic' hs'=>?_)
  refine key (c':=.cell (some v)) (tk:=s.toks) oc rfl W.inv.tk (fun b o n e=>hs'.extBut b o n e) ic' ⟨m,(dq fun z=>by rw[z,oc]at oL;exact nomatch oL).trans oL⟩ (fun y hy=>?_) (fun y u q h=>?_) (.inr ⟨hx,c,l1,bK⟩)
  ·refine hU (W.loc.cl y hy) fun c' u e1 e2 e3=>?_
   clear hn W hp sl hs m oL own key hx l1 kc h' ic' hs' hy;by_cases z:c'=c
   ·subst z;replace e2:=oc▸e2;cases e2;exact gc c' _ e1 bK e3
   ·exact gc c' u e1 ((dq z).trans e2) e3
  ·rcases h with⟨k,m',o,e⟩|⟨k,c',l,o⟩
   ·exact .inl ⟨k,m',(dq fun z=>by rw[z,oc]at o;exact nomatch o).trans o,e⟩
   ·exact .inr ⟨k,c',l,(dq fun z=>by replace o:=oc▸z▸o;clear hn W hp sl hs m oL own key hx c l1 oc kc h' ic' hs' k c' l z;cases o;exact q rfl).trans o⟩
theorem dR(hn:∀i j,nm i=nm j→i=j){P:VW→Prop}{d:V}(S:St G F ρ (.up P::ts) σ s)(hp:wi ts=true)(hx:b6 F x)(r:∀X,P X→Rp G X v d):bC G A (storeName F.env (nm x) v) (fun _ s'=>St G F (ρ.set x (.v d)) ts σ s') s:=
 ym S fun _ _ W=>Stw.store hn ⟨W.le,W.kp,W.inv,W.loc,W.tm.2⟩ hp hx (sl:=.v d) (r _ (W.tm.1 _ (.refl _)))
theorem iq(hn:∀i j,nm i=nm j→i=j)(S:St G F ρ ts σ s)(hp:wi ts=true)(hx:b6 F x){a:Addr}{c:Ch}{sl:Slot}{h':Heap}{tk:Tok}(k:dS s.heap h')(ht:0<tk)(ha:s.heap.get? a=none)(hc:∀X,cQ G X h' a c)(hs:∀X O,O a=some ⟨.sl x,c⟩→Sl G X O x (.ref a) sl):
  bC G A (storeName F.env (nm x) (.ref a)) (fun _ s'=>St G F (ρ.set x sl) ts σ s') {s with heap:=h',toks:=tk}:=by
 refine S.on fun X O W=>?_
 have oa:O a=none:=by
  cases q:O a with
  |none=>rfl
  |some w=>refine Exists.elim ((W.inv.own a w q).2.al) fun o e=>?_;rw[ha]at e;exact nE e
 have⟨W',_⟩:=W.alloc (O':=ou O a (some ⟨.sl x,c⟩)) k ht (fun _=>false) (fun _ e=>nomatch e) (fun b w e=>(dq fun q=>by rw[q,oa]at e;exact nE e).trans e) fun b w e q=>by
  clear hn S hp hx sl tk k ht hs W oa;by_cases z:b=a
  ·subst z;rw[bK]at e;refine oE e ?_;exact fz ha rfl (hc _)
  ·rw[dq z,q]at e;exact nE e
 exact W'.store hn hp hx (hs _ _ bK)
end
end Mine
namespace Mine
open PySem PySem.W PyProof.Rows
section
variable {G:Cfg}{F:Frm}{ρ:ay}{ts:List Tmp}{σ:Store}{s:Shared}{X Y:VW}{O O':OM}{A:Around}{x:Nat}{v:Value}
theorem qT{l:List Cell}{k n:Nat}{c y:Cell}(e:(l.set k c)[n]? =some y):(n=k∧y=c)∨(n≠k∧l[n]? =some y):=by
 rw[List.getElem?_set]at e
 split at e
 ·rename_i q
  split at e
  ·refine oR e ?_;exact .inl ⟨q.symm,rfl⟩
  ·exact nE e
 ·rename_i q;exact .inr ⟨fun z=>q z.symm,e⟩
@[elab_as_elim] theorem Stw.cell{M:Value→Prop}(W:Stw G F ρ ts σ s X O){n:Nat}{c:Cell}(r:Rp G X v (.loc n))(hc:σ.cells[n]? =some c)(hg:c≠.gone)(k:∀a,X.ml n=some a→O a=some ⟨.st n,c.ch⟩→cQ G X s.heap a c.ch→M (.ref a)):M v:=
 r.on fun a e=>aT (W.inv.st n c hc hg) fun b e1 e2=>
  have q:a=b:=Option.some.inj (e.symm.trans e1)
  k a e (q▸e2) (q▸(W.inv.own b _ e2).2)
theorem Stw.put(W:Stw G F ρ ts σ s X O){n:Nat}{a:Addr}{c c':Cell}(hm:X.ml n=some a)(ha:O a=some ⟨.st n,c.ch⟩){h':Heap}{tk:Tok}(ht:0<tk)(k:∀b o,b≠a→s.heap.get? b=some o→h'.get? b=some o)(hc:cQ G X h' a c'.ch):St G F ρ ts (σ.put n c') {s with heap:=h',toks:=tk}:=by
 have ne:∀b w,O b=some w→(∀j,w.t≠.st j)→ou O a (some ⟨.st n,c'.ch⟩) b=some w:=fun b w e z=>(dq fun q=>by rw[q,ha]at e;injection e with z1;subst z1;exact z _ rfl).trans e
 refine⟨X,_,W.le,fun b o e=>ne _ _ (W.kp b o e) fun _ q=>(nomatch q),W.inv.upd ha ht k hc rfl List.length_set fun j y e _=>?_,W.loc.up (.refl X) fun b w e q=>ne b w e fun j z=>(by rw[z]at q;exact bE q),W.tm.up (.refl X) fun b w e q=>ne b w e fun j z=>(by rw[z]at q;exact bE q)⟩
 clear W c ha h' tk ht k hc ne;rcases qT e with⟨rfl,rfl⟩|⟨q,e⟩
 ·exact .inl ⟨rfl,rfl,hm⟩
 ·exact .inr ⟨fun z=>q (by injection z with z1;subst z1;rfl),e⟩
theorem St.newcell(S:St G F ρ ts σ s)(c:Cell){a:Addr}{h':Heap}{tk:Tok}(k:dS s.heap h')(ht:0<tk)(ha:s.heap.get? a=none)(hc:∀Y O,Tm F Y O ts→cQ G Y h' a c.ch):St G F ρ (val G (.ref a) (.loc σ.cells.length)::ts) (σ.push c) {s with heap:=h',toks:=tk}:=by
 refine S.on fun X O W=>?_
 have I:=W.inv
 have oa:O a=none:=by
  cases q:O a with
  |none=>rfl
  |some w=>refine Exists.elim ((I.own a w q).2.al) fun o e=>?_;rw[ha]at e;exact nE e
 have ne:∀b w,O b=some w→ou O a (some ⟨.st σ.cells.length,c.ch⟩) b=some w:=fun b w e=>(dq fun q=>by rw[q,oa]at e;exact nE e).trans e
 let Y:VW:=⟨X.g,fun j=>if j=σ.cells.length then some a else X.ml j,X.mi⟩
 have le:X.Le Y:=⟨.refl _,fun j b e=>(if_neg (Nat.ne_of_lt (I.ml j b e))).trans e,fun _ _ e=>e⟩
 have tm:Tm F Y (ou O a (some ⟨.st σ.cells.length,c.ch⟩)) ts:=W.tm.up le fun b w e _=>ne b w e
 refine⟨Y,_,W.le.trans le,fun b o e=>ne _ _ (W.kp b o e),⟨I.sub.trans k,I.x0.trans le,fun b w e=>?_,fun j y e1 e2=>?_,fun j b e=>?_,I.mi,I.idi,I.gens,I.os,ht⟩,W.loc.up le fun b w e _=>ne b w e,fun Z l=>.loc (l.ml _ _ (if_pos rfl)),tm⟩
 ·by_cases q:b=a
  ·clear S k ht W oa ne le;subst q;rw[bK]at e;refine oE e ?_;exact⟨I.sub.none ha,hc _ _ tm⟩
  ·rw[dq q]at e;exact⟨(I.own b w e).1,(I.own b w e).2.keep le (k b)⟩
 ·have e1:(σ.cells++[c])[j]? =some y:=e1
  rw[List.getElem?_append]at e1
  split at e1
  ·rename_i q
   refine aT (I.st j y e1 e2) fun b z1 z2=>?_
   exact bi b (le.ml _ _ z1) (ne _ _ z2)
  ·rename_i q
   have hj0:j-σ.cells.length=0:=Nat.lt_one_iff.mp (show j-σ.cells.length<[c].length from(List.getElem?_eq_some_iff.mp e1).1)
   rw[hj0]at e1;refine oE e1 ?_
   obtain rfl:j=σ.cells.length:=Nat.le_antisymm (Nat.sub_eq_zero_iff_le.mp hj0) (Nat.not_lt.mp q)
   exact bi a (if_pos rfl) bK
 ·show j<(σ.cells++[c]).length
  refine eR List.length_append ?_
  have e:(if j=σ.cells.length then some a else X.ml j)=some b:=e
  split at e
  ·rename_i q;refine eR q ?_;exact Nat.lt_succ_self _
  ·exact Nat.lt_succ_of_lt (I.ml j b e)
theorem St.newid(S:St G F ρ ts σ s){a:Addr}{vs:Array Value}{l:List V}{h':Heap}{tk:Tok}(k:dS s.heap h')(ht:0<tk)(ha:s.heap.get? a=none)(g:IsTup h' a vs)(r:∀Y O,Tm F Y O ts→RpL G Y vs.toList l):St G F ρ (val G (.ref a) (.tup (some σ.nid) l)::ts) ⟨σ.cells,σ.nid+1⟩ {s with heap:=h',toks:=tk}:=by
 refine S.on fun X O W=>?_
 have⟨W1,o7⟩:=W.alloc k ht (fun b=>b==a) (fun b e=>by refine eR (beq_iff_eq.mp e) ?_;exact ha) (O':=O) (fun _ _ e=>e) fun b w e q=>by rw[e]at q;exact nR q
 have I:=W1.inv
 refine aT g fun o g gr=>?_
 have ga:(X.add h' fun b=>b==a).g.get? a=some o:=dY (beq_self_eq_true _) g
 let Y:VW:=⟨(X.add h' fun b=>b==a).g,X.ml,fun j=>if j=σ.nid then some a else X.mi j⟩
 have le:(X.add h' fun b=>b==a).Le Y:=⟨.refl _,fun _ _ e=>e,fun j b e=>(if_neg (Nat.ne_of_lt (W.inv.mi j b e).1)).trans e⟩
 have old:∀j b,X.mi j=some b→b≠a:=fun j b e q=>by
  obtain⟨o,z⟩:=(W.inv.mi j b e).2
  have:=W.inv.sub _ _ z;rw[q,ha]at this;exact nE this
 have mi:∀j b,Y.mi j=some b→(j=σ.nid∧b=a)∨X.mi j=some b:=fun j b e=>by
  have e:(if j=σ.nid then some a else X.mi j)=some b:=e
  split at e
  ·refine oR e ?_;exact .inl ⟨‹_›,rfl⟩
  ·exact .inr e
 have tm:Tm F Y O ts:=W1.tm.up le fun _ _ e _=>e
 refine⟨Y,O,W1.le.trans le,W1.kp,⟨I.sub,I.x0.trans le,fun b w e=>⟨(I.own b w e).1,(I.own b w e).2.keep le fun _ e=>e⟩,I.st,I.ml,fun j b e=>?_,fun j j' b e1 e2=>?_,I.gens,I.os,I.tk⟩,W1.loc.up le fun _ _ e _=>e,fun Z l=>Rp.tup' (bi o (l.g _ _ ga) gr) ((r Y O tm).up l) fun j e=>by refine oE e ?_;exact l.mi _ _ (if_pos rfl),tm⟩
 ·clear S l k ht ha r W W1 o7 g gr le old tm;rcases mi j b e with⟨rfl,rfl⟩|z
  ·exact⟨Nat.lt_succ_self _,o,ga⟩
  ·refine cB (I.mi j b z) fun z1 z2=>?_;exact⟨Nat.lt_succ_of_lt z1,z2⟩
 ·rcases mi j b e1 with⟨x1,x2⟩|z1<;>rcases mi j' b e2 with⟨y1,y2⟩|z2
  ·rw[x1,y1]
  ·exact absurd x2 (old _ _ z2)
  ·exact absurd y2 (old _ _ z1)
  ·exact I.idi j j' b z1 z2
noncomputable def ur(x:Nat):Option Ow→Bool
 |some ⟨.sl y,_⟩=>y==x
 |_=>false
theorem wU{w:Ow}(h:w.t≠.sl x):ur x (some w)=false:=by
 obtain⟨t,c⟩:=w
 induction t using Tg.casesOn with
 |sl y=>exact beq_eq_false_iff_ne.mpr fun q=>h (by rw[q])
 |_=>rfl
theorem Stw.frz(W:Stw G F ρ ts σ s X O){sl:Slot}{d:V}(hx:ρ x=some sl)(hn:∀d,sl≠.v d)(hs:∀Y v,X.Le Y→(∀a c o,O a=some ⟨.sl x,c⟩→s.heap.get? a=some o→Y.g.get? a=some o)→Sl G X O x v sl→Rp G Y v d):St G F (ρ.set x (.v d)) ts σ s:=by
 refine aT (W.loc.v x sl hx) fun v sv hv=>?_
 have hv:cN F O x v:=hv.elim id fun⟨⟨d,e⟩,_⟩=>absurd e (hn d)
 have⟨I,le⟩:=W.inv.freeze (fun a=>ur x (O a)) (σ':=σ) rfl rfl fun j y e1 e2=>⟨e1,fun a e=>by
  refine aT (W.inv.st j y e1 e2) fun b z1 z2=>?_
  rw[e]at z1;refine oR z1 ?_;refine eR z2 ?_;rfl⟩
 have ne:∀b w,O b=some w→w.t≠.sl x→(fun a=>if ur x (O a)then none else O a) b=some w:=fun b w e z=>by
  show(if ur x (O b)then none else O b)=_
  refine eR e ?_;refine eR (wU z) ?_;rfl
 have nh:∀b w,O b=some w→w.t.isT=true→(fun a=>if ur x (O a)then none else O a) b=some w:=fun b w e z=>ne b w e fun q=>by rw[q]at z;exact bE z
 have hh:=fun b w e (z:w.t.isH=true)=>nh b w e (Tg.ht z)
 exact⟨_,_,W.le.trans le,fun a o e=>ne _ _ (W.kp a o e) fun q=>(nomatch q),I,W.loc.set le (Exists.elim W.loc.ns fun m e=>⟨m,nh _ _ e rfl⟩) (fun y hy=>hU (W.loc.cl y hy) fun c u e1 e2 e3=>gc c u e1 (nh _ _ e2 rfl) e3) (fun y b c q e=>ne _ _ e fun z=>q (by injection z)) (fun y u _=>cN.up hh)
  (fun b o e=>ne _ _ e fun q=>(nomatch q)) (hs _ v le (fun a c o e1 e2=>dY (by refine eR e1 ?_;exact beq_self_eq_true _) e2) sv) (.inl (hv.up hh)),W.tm.up le nh⟩
theorem Stw.frzLoc(W:Stw G F ρ ts σ s X O){n:Nat}{c:Cell}{d:V}(hx:ρ x=some (.v (.loc n)))(hc:σ.cells[n]? =some c)(hg:c≠.gone)(hd:∀a Y,X.Le Y→O a=some ⟨.st n,c.ch⟩→(∀o,s.heap.get? a=some o→Y.g.get? a=some o)→cQ G X s.heap a c.ch→Rp G Y (.ref a) d):St G F (ρ.set x (.v d)) ts (σ.put n .gone) s:=by
 refine aT (W.loc.v x _ hx) fun v sv hv=>?_
 revert hv
 refine W.cell (show Rp G X v (.loc n)from sv) hc hg fun a hm oa ck hv=>?_
 have⟨I,le⟩:=W.inv.freeze (fun b=>b==a) (σ':=σ.put n .gone) rfl List.length_set fun j y e1 e2=>by
  rcases qT e1 with⟨_,q⟩|⟨q,e⟩
  ·exact absurd q e2
  ·refine⟨e,fun b z=>beq_eq_false_iff_ne.mpr fun w=>?_⟩
   refine aT (W.inv.st j y e e2) fun b' z1 z2=>?_
   rw[z]at z1;injection z1 with z1;subst z1
   rw[w,oa]at z2;exact q (Tg.st.inj (congrArg Ow.t (Option.some.inj z2))).symm
 have ne:∀b w,O b=some w→(∀j,w.t≠.st j)→(fun b=>if(b==a)then none else O b) b=some w:=fun b w e z=>by
  show(if(b==a)=true then none else O b)=_
  refine eR (if_neg fun q=>by rw[beq_iff_eq.mp q,oa]at e;injection e with z1;subst z1;exact z _ rfl) ?_;exact e
 have nf:=fun b w e (z:w.t.isF=true)=>ne b w e fun j q=>by rw[q]at z;exact bE z
 have hh:=fun b w e (z:w.t.isH=true)=>nf b w e (Tg.hf z)
 exact⟨_,_,W.le.trans le,fun b o e=>nf _ _ (W.kp b o e) rfl,I,W.loc.set le (Exists.elim W.loc.ns fun m e=>⟨m,nf _ _ e rfl⟩) (fun y hy=>hU (W.loc.cl y hy) fun c u e1 e2 e3=>gc c u e1 (nf _ _ e2 rfl) e3) (fun y b c _ e=>nf _ _ e rfl) (fun y u _=>cN.up hh)
  (fun b o e=>nf _ _ e rfl) (hd a _ le oa (fun o e=>dY (beq_self_eq_true _) e) ck) (hv.imp (cN.up hh) fun z=>⟨⟨d,rfl⟩,z.2.up nf⟩),W.tm.up le fun b w e z=>ne b w e fun j q=>by rw[q]at z;exact bE z⟩
theorem kh{g:Ghost}{ρ':ay}{σ':Store}(h:ff g ρ σ=some (ρ',σ'))(S:St G F ρ ts σ s)(sm:(G.X0.g.get? sysModules).isSome):St G F ρ' ts σ' s:=by
 refine S.on fun X O W=>?_
 have nm:∀a w,O a=some w→(a==sysModules)=false:=fun a w e=>beq_eq_false_iff_ne.mpr fun q=>by
  obtain⟨o,z⟩:=Option.isSome_iff_exists.mp sm
  have:=W.inv.x0.g _ _ z
  rw[←q,(W.inv.own a w e).1]at this;exact nE this
 have own:=fun{a w} e=>(W.inv.own a w e).2
 unfold ff at h
 induction g using Ghost.casesOn with
 |freeze x=>
  dsimp only at h
  cases hx:ρ x with
  |none=>replace h:=hx▸h;exact nE h
  |some sl=>
   rw[hx]at h
   induction sl using Slot.casesOn with
   |v d=>exact nE h
   |own l=>
    refine pE h ?_
    refine W.frz hx (fun d z=>nomatch z) fun Y v le k w9=>aT w9 fun a e o=>?_
    refine eB (own o) fun vs n g r=>?_
    refine eR e ?_;exact Rp.lst' (k a _ _ o g) (r.up le)
   |ownd es=>
    refine pE h ?_
    refine W.frz hx (fun d z=>nomatch z) fun Y v le k w9=>aT w9 fun a e o=>?_
    refine aT (own o) fun kvs g r=>?_
    refine eR e ?_;exact .dct (DictOf.up (k a _ · o) g) (nm a _ o) r.k (r.v.up le).n (r.v.up le).r
   |ownk es=>
    refine pE h ?_
    refine W.frz hx (fun d z=>nomatch z) fun Y v le k w9=>aT w9 fun a e o=>?_
    refine aT (own o) fun kvs g r=>?_
    refine eR e ?_;exact .dcti (DictOf.up (k a _ · o) g) (nm a _ o) r.k (r.v.up le).n (r.v.up le).r
   |owni C fs=>
    refine pE h ?_
    refine W.frz hx (fun d z=>nomatch z) fun Y v le k w9=>hU w9 fun a dx e o1 o2=>?_
    refine eB (own o2) fun es n g r=>?_
    refine eR e ?_;exact Rp.inst' (k a _ _ o1 (own o1)) (k dx _ _ o2 g) (r.up le)
 |freezeLoc x=>
  refine Exists.elim (Option.bind_eq_some_iff.mp h) fun n w9=>cB w9 fun en h=>Exists.elim (Option.bind_eq_some_iff.mp h) fun c w9=>cB w9 fun hc h=>Exists.elim (Option.bind_eq_some_iff.mp en) fun v w9=>cB w9 fun hv en=>?_
  have hx:=kO en▸iI hv
  clear en hv v w9 own
  induction c using Cell.casesOn with
  |list l=>exact pE h (W.frzLoc hx hc (fun z=>nomatch z) fun a Y le oa k w9=>eB w9 fun vs m g r=>Rp.lst' (k _ g) (r.up le))
  |dict es=>exact pE h (W.frzLoc hx hc (fun z=>nomatch z) fun a Y le oa k w9=>aT w9 fun kvs g r=>.dct (DictOf.up k g) (nm a _ oa) r.k (r.v.up le).n (r.v.up le).r)
  |gone=>exact nE h
end
end Mine
namespace Mine
open PySem PySem.W PyProof.Rows
noncomputable def dG:PySem.Expr→List PySem.Expr
 |.BoolOp _ l _=>l
 |.BinOp a _ b _=>[a,b]
 |.UnaryOp _ a _=>[a]
 |.IfExp a b c _=>[a,b,c]
 |.ListComp e [⟨t,i,ifs,_⟩] _ _=>e::t::i::ifs
 |.Compare a _ l _=>a::l
 |.Call f l _ _=>f::l
 |.Attribute a _ _=>[a]
 |.Subscript a b _=>[a,b]
 |.List l _=>l
 |.Tuple l _ _=>l
 |.Slice a b _ _=>a.toList++b.toList
 |_=>[]
noncomputable def zm:PySem.Expr:=.List [] default
noncomputable def kd(i:Nat)(x:PySem.Expr):PySem.Expr:=(dG x).getD i zm
noncomputable def kn:PySem.Expr→Nat
 |.Constant _ k _=>k
 |.Tuple _ k _=>k
 |_=>0
noncomputable def yw:PySem.Expr→Scope
 |.ListComp _ _ sc _=>sc
 |_=>default
noncomputable def m9:Blt→Str
 |.len=>"len"|.sorted=>"sorted"|.str=>"str"|.int=>"int"|.max=>"max"|.min=>"min"
noncomputable def vR(g:Nat→Str):List Nat→List PySem.Expr→List PySem.Expr
 |[],_=>[]
 |x::r,l=>.Name (g x) (l.headD zm).pos::vR g r l.tail
noncomputable def eP(g:Nat→Str)(tg:List Nat)(y:PySem.Expr):PySem.Expr:=match tg with
 |[x]=>.Name (g x) y.pos
 |l=>.Tuple (vR g l (dG y)) (kn y) y.pos
mutual
noncomputable def bD:E→PySem.Expr→PySem.Expr
 |.none,x=>.Constant .none (kn x) x.pos
 |.bool b,x=>.Constant (.bool b) (kn x) x.pos
 |.int i,x=>.Constant (.int i) (kn x) x.pos
 |.str s,x=>.Constant (.str s) (kn x) x.pos
 |.var i,x=>.Name (nm i) x.pos
 |.glob i,x=>.Name (fx i) x.pos
 |.attr e a,x=>.Attribute (bD e (kd 0 x)) (nm a) x.pos
 |.item e i,x=>.Subscript (bD e (kd 0 x)) (bD i (kd 1 x)) x.pos
 |.sfrom e l,x=>.Subscript (bD e (kd 0 x)) (.Slice (some (bD l (kd 0 (kd 1 x)))) none none (kd 1 x).pos) x.pos
 |.sto e l,x=>.Subscript (bD e (kd 0 x)) (.Slice none (some (bD l (kd 0 (kd 1 x)))) none (kd 1 x).pos) x.pos
 |.bin op l r,x=>.BinOp (bD l (kd 0 x)) op (bD r (kd 1 x)) x.pos
 |.neg e,x=>.UnaryOp .USub (bD e (kd 0 x)) x.pos
 |.cmp op l r,x=>.Compare (bD l (kd 0 x)) [op] [bD r (kd 1 x)] x.pos
 |.nin e i,x=>.Compare (bD e (kd 0 x)) [.NotIn] [.Name (nm i) (kd 1 x).pos] x.pos
 |.stray l d wo one,x=>let c:=kd 3 (kd 0 x);.Compare (.ListComp (.Name (nm wo) (kd 0 (kd 0 x)).pos) [⟨.Name (nm wo) (kd 1 (kd 0 x)).pos,.Name (nm l) (kd 2 (kd 0 x)).pos,
   [.Compare (.ListComp (.Constant (.int 1) (kn (kd 0 (kd 0 c))) (kd 0 (kd 0 c)).pos) [⟨.Name (nm one) (kd 1 (kd 0 c)).pos,.Name (nm d) (kd 2 (kd 0 c)).pos,[.Compare (.Name (nm one) (kd 0 (kd 3 (kd 0 c))).pos) [.Is] [.Name (nm wo) (kd 1 (kd 3 (kd 0 c))).pos] (kd 3 (kd 0 c)).pos],0⟩]
    {kind:=.function,names:=[((".0":Str),.local),(nm one,.local),(nm wo,.free)],isGenerator:=false,isCoroutine:=false} (kd 0 c).pos) [.Eq] [.List [] (kd 1 c).pos] c.pos],0⟩]
    {kind:=.function,names:=[((".0":Str),.local),(nm wo,.cell),(nm d,.free)],isGenerator:=false,isCoroutine:=false} (kd 0 x).pos) [.NotEq] [.List [] (kd 1 x).pos] x.pos
 |.bop op es,x=>.BoolOp op (f7 es (dG x)) x.pos
 |.not e,x=>.UnaryOp .Not (bD e (kd 0 x)) x.pos
 |.ite t b o,x=>.IfExp (bD t (kd 0 x)) (bD b (kd 1 x)) (bD o (kd 2 x)) x.pos
 |.isi e cs,x=>.Call (.Name ("isinstance":Str) (kd 0 x).pos) [bD e (kd 1 x),eP fx cs (kd 2 x)] [] x.pos
 |.call f as,x=>.Call (.Name (fx f) (kd 0 x).pos) (f7 as (dG x).tail) [] x.pos
 |.new f as,x=>.Call (.Name (fx f) (kd 0 x).pos) (f7 as (dG x).tail) [] x.pos
 |.blt b as,x=>.Call (.Name (m9 b) (kd 0 x).pos) (f7 as (dG x).tail) [] x.pos
 |.listof it,x=>.Call (.Name ("list":Str) (kd 0 x).pos) [jh it (kd 1 x)] [] x.pos
 |.dictof it,x=>.Call (.Name ("dict":Str) (kd 0 x).pos) [jh it (kd 1 x)] [] x.pos
 |.meth o m as,x=>.Call (.Attribute (bD o (kd 0 (kd 0 x))) (nm m) (kd 0 x).pos) (f7 as (dG x).tail) [] x.pos
 |.list es,x=>.List (f7 es (dG x)) x.pos
 |.listm es,x=>.List (f7 es (dG x)) x.pos
 |.tup es,x=>.Tuple (f7 es (dG x)) (kn x) x.pos
 |.tupi es,x=>.Tuple (f7 es (dG x)) (kn x) x.pos
 |.comp e tg it _,x=>.ListComp (bD e (kd 0 x)) [⟨eP nm tg (kd 1 x),jh it (kd 2 x),[],0⟩] (yw x) x.pos
 |.compif e tg it c _,x=>.ListComp (bD e (kd 0 x)) [⟨eP nm tg (kd 1 x),jh it (kd 2 x),[bD c (kd 3 x)],0⟩] (yw x) x.pos
noncomputable def f7:Es→List PySem.Expr→List PySem.Expr
 |.nil,_=>[]
 |.cons e r,l=>bD e (l.headD zm)::f7 r l.tail
noncomputable def jh:It→PySem.Expr→PySem.Expr
 |.val e,x=>bD e x
 |.range e,x=>.Call (.Name ("range":Str) (kd 0 x).pos) [bD e (kd 1 x)] [] x.pos
 |.enum e,x=>.Call (.Name ("enumerate":Str) (kd 0 x).pos) [bD e (kd 1 x)] [] x.pos
 |.zip a b,x=>.Call (.Name ("zip":Str) (kd 0 x).pos) [bD a (kd 1 x),bD b (kd 2 x)] [] x.pos
end
noncomputable def se(st:PySem.Stmt):PySem.Expr:=match st with
 |.Expr v _=>v
 |.Assign _ v _=>v
 |.AugAssign _ _ v _=>v
 |.Return (some v) _=>v
 |.If t _ _ _=>t
 |.While t _ _ _=>t
 |.For _ i _ _ _=>i
 |_=>zm
noncomputable def sg(st:PySem.Stmt):PySem.Expr:=match st with
 |.Assign [t] _ _=>t
 |.AugAssign t _ _ _=>t
 |.For t _ _ _ _=>t
 |_=>zm
noncomputable def sb(st:PySem.Stmt):List PySem.Stmt × List PySem.Stmt:=match st with
 |.If _ b o _=>(b,o)
 |.While _ b _ _=>(b,[])
 |.For _ _ b _ _=>(b,[])
 |_=>([],[])
mutual
noncomputable def Bn:S→PySem.Stmt→PySem.Stmt
 |.assign x e,st=>.Assign [.Name (nm x) (sg st).pos] (bD e (se st)) st.pos
 |.assignOwn x,st=>.Assign [.Name (nm x) (sg st).pos] (.List [] (se st).pos) st.pos
 |.assignOwnd x,st=>.Assign [.Name (nm x) (sg st).pos] (.Dict [] [] (se st).pos) st.pos
 |.assignOwnk x,st=>.Assign [.Name (nm x) (sg st).pos] (.Dict [] [] (se st).pos) st.pos
 |.assign2 x y a b,st=>.Assign [.Tuple [.Name (nm x) (kd 0 (sg st)).pos,.Name (nm y) (kd 1 (sg st)).pos] (kn (sg st)) (sg st).pos] (.Tuple [bD a (kd 0 (se st)),bD b (kd 1 (se st))] (kn (se st)) (se st).pos) st.pos
 |.unpack2 x y e,st=>.Assign [.Tuple [.Name (nm x) (kd 0 (sg st)).pos,.Name (nm y) (kd 1 (sg st)).pos] (kn (sg st)) (sg st).pos] (bD e (se st)) st.pos
 |.setAttr x a e,st=>.Assign [.Attribute (.Name (nm x) (kd 0 (sg st)).pos) (nm a) (sg st).pos] (bD e (se st)) st.pos
 |.setAttrD x a,st=>.Assign [.Attribute (.Name (nm x) (kd 0 (sg st)).pos) (nm a) (sg st).pos] (.Dict [] [] (se st).pos) st.pos
 |.setItem o i e,st=>.Assign [.Subscript (bD o (kd 0 (sg st))) (bD i (kd 1 (sg st))) (sg st).pos] (bD e (se st)) st.pos
 |.aug x op e,st=>.AugAssign (.Name (nm x) (sg st).pos) op (bD e (se st)) st.pos
 |.ite t b o,st=>.If (bD t (se st)) (iu b (sb st).1) (iu o (sb st).2) st.pos
 |.while t b,st=>.While (bD t (se st)) (iu b (sb st).1) [] st.pos
 |.for tg it b,st=>.For (eP nm tg (sg st)) (jh it (se st)) (iu b (sb st).1) [] st.pos
 |.ret e,st=>.Return (some (bD e (se st))) st.pos
 |.append o e,st=>.Expr (.Call (.Attribute (bD o (kd 0 (kd 0 (se st)))) ("append":Str) (kd 0 (se st)).pos) [bD e (kd 1 (se st))] [] (se st).pos) st.pos
 |.extend o e,st=>.Expr (.Call (.Attribute (bD o (kd 0 (kd 0 (se st)))) ("extend":Str) (kd 0 (se st)).pos) [bD e (kd 1 (se st))] [] (se st).pos) st.pos
 |.nodeInit x _ e,st=>.Expr (.Call (.Attribute (.Name ("Node":Str) (kd 0 (kd 0 (se st))).pos) ("__init__":Str) (kd 0 (se st)).pos) [.Name (nm x) (kd 1 (se st)).pos,bD e (kd 2 (se st))] [] (se st).pos) st.pos
 |.expr e,st=>.Expr (bD e (se st)) st.pos
 |.g _ s,st=>Bn s st
noncomputable def iu:Ss→List PySem.Stmt→List PySem.Stmt
 |.nil,_=>[]
 |.cons s r,l=>Bn s (l.headD (.Pass default))::iu r l.tail
end
abbrev bf:=List (Str × NameKind)
noncomputable def bu(κ:bf)(x:Str):Bool:=x !=("__debug__":Str)&&match κ.lookup x with
 |some .local|some .cell|some .free=>true
 |_=>false
noncomputable def aX(κ:bf)(x:Str):Bool:=x !=("__debug__":Str)&&κ.lookup x==some .globalImplicit
noncomputable def wO(κ:bf)(sc:Scope)(tg fv:List Nat):Bool:=
 sc.kind== .function&&sc.names.all (fun x=>x.2== .local||x.2== .free||x.2== .globalImplicit)&&
 sc.names.all (fun x=>sc.names.lookup x.1==some x.2)&&
 tg.all (fun i=>sc.names.lookup (nm i)==some .local)&&fv.all (fun i=>sc.names.lookup (nm i)==some .free)&&
 sc.names.all (fun x=>x.2 != .free||(x.1 !=("__classdict__":Str)&&(κ.lookup x.1==some .cell||κ.lookup x.1==some .free)))
noncomputable def vY:E→Bool
 |.call _ .nil=>false|.new _ .nil=>false|.blt _ .nil=>false|.meth _ _ _=>true|_=>true
noncomputable def ux:Es→Nat
 |.nil=>0
 |.cons _ r=>ux r+1
noncomputable def wp:It→List Nat→Bool
 |.val _,_=>true
 |.range _,_=>true
 |.enum _,tg=>decide (2≤tg.length)
 |.zip _ _,tg=>decide (2≤tg.length)
mutual
noncomputable def dD(κ:bf):E→PySem.Expr→Bool
 |.none,_=>true
 |.bool _,_=>true
 |.int _,_=>true
 |.str _,_=>true
 |.var i,_=>bu κ (nm i)
 |.glob i,_=>aX κ (fx i)
 |.attr e _,x=>vY e&&dD κ e (kd 0 x)
 |.item e i,x=>dD κ e (kd 0 x)&&dD κ i (kd 1 x)
 |.sfrom e l,x=>dD κ e (kd 0 x)&&dD κ l (kd 0 (kd 1 x))
 |.sto e l,x=>dD κ e (kd 0 x)&&dD κ l (kd 0 (kd 1 x))
 |.bin _ l r,x=>dD κ l (kd 0 x)&&dD κ r (kd 1 x)
 |.neg e,x=>dD κ e (kd 0 x)
 |.cmp _ l r,x=>dD κ l (kd 0 x)&&dD κ r (kd 1 x)
 |.nin e i,x=>dD κ e (kd 0 x)&&bu κ (nm i)
 |.stray l d wo one,_=>bu κ (nm l)&&bu κ (nm d)&&one !=wo&&d !=wo&&κ.lookup (nm d)==some .cell
 |.bop _ es,x=>iY κ es (dG x)
 |.not e,x=>dD κ e (kd 0 x)
 |.ite t b o,x=>dD κ t (kd 0 x)&&dD κ b (kd 1 x)&&dD κ o (kd 2 x)
 |.isi e cs,x=>aX κ ("isinstance":Str)&&dD κ e (kd 1 x)&&cs.all fun i=>aX κ (fx i)
 |.call f as,x=>fx f !=("":Str)&&aX κ (fx f)&&iY κ as (dG x).tail
 |.new f as,x=>aX κ (fx f)&&iY κ as (dG x).tail
 |.blt b as,x=>aX κ (m9 b)&&iY κ as (dG x).tail
 |.listof it,x=>aX κ ("list":Str)&&rL κ it (kd 1 x)
 |.dictof it,x=>aX κ ("dict":Str)&&rL κ it (kd 1 x)
 |.meth o _ as,x=>(kd 0 x).pos.endLine==x.pos.line&&vY o&&decide (ux as<20)&&dD κ o (kd 0 (kd 0 x))&&iY κ as (dG x).tail
 |.list es,x=>iY κ es (dG x)
 |.listm es,x=>iY κ es (dG x)
 |.tup es,x=>iY κ es (dG x)
 |.tupi es,x=>iY κ es (dG x)
 |.comp e tg it fv,x=>wO κ (yw x) tg fv&&wp it tg&&rL κ it (kd 2 x)&&dD (yw x).names e (kd 0 x)
 |.compif e tg it c fv,x=>wO κ (yw x) tg fv&&wp it tg&&rL κ it (kd 2 x)&&dD (yw x).names e (kd 0 x)&&dD (yw x).names c (kd 3 x)
noncomputable def iY(κ:bf):Es→List PySem.Expr→Bool
 |.nil,_=>true
 |.cons e r,l=>dD κ e (l.headD zm)&&iY κ r l.tail
noncomputable def rL(κ:bf):It→PySem.Expr→Bool
 |.val e,x=>dD κ e x
 |.range e,x=>aX κ ("range":Str)&&dD κ e (kd 1 x)
 |.enum e,x=>aX κ ("enumerate":Str)&&dD κ e (kd 1 x)
 |.zip a b,x=>aX κ ("zip":Str)&&dD κ a (kd 1 x)&&dD κ b (kd 2 x)
end
noncomputable def Dh:E→Bool
 |.tup _=>false|.tupi _=>false|.comp _ _ _ _=>false|.compif _ _ _ _ _=>false|_=>true
noncomputable def C8:E→Bool
 |.call _ _=>true|.new _ _=>true|.blt _ _=>true|.meth _ _ _=>true|_=>false
mutual
noncomputable def Bu(κ:bf):S→PySem.Stmt→Bool
 |.assign x e,st=>bu κ (nm x)&&dD κ e (se st)
 |.assignOwn x,_=>bu κ (nm x)
 |.assignOwnd x,_=>bu κ (nm x)
 |.assignOwnk x,_=>bu κ (nm x)
 |.assign2 x y a b,st=>x !=y&&bu κ (nm x)&&bu κ (nm y)&& !([bD a (kd 0 (se st)),bD b (kd 1 (se st))].all (constantsAlone 8))&&dD κ a (kd 0 (se st))&&dD κ b (kd 1 (se st))
 |.unpack2 x y e,st=>x !=y&&bu κ (nm x)&&bu κ (nm y)&&Dh e&&dD κ e (se st)
 |.setAttr x _ e,st=>bu κ (nm x)&&dD κ e (se st)
 |.setAttrD x _,_=>bu κ (nm x)
 |.setItem o i e,st=>dD κ o (kd 0 (sg st))&&dD κ i (kd 1 (sg st))&&dD κ e (se st)
 |.aug x _ e,st=>bu κ (nm x)&&dD κ e (se st)
 |.ite t b o,st=>dD κ t (se st)&&io κ b (sb st).1&&io κ o (sb st).2
 |.while t b,st=>dD κ t (se st)&&io κ b (sb st).1
 |.for tg it b,st=>tg.all (fun i=>bu κ (nm i))&&wp it tg&&rL κ it (se st)&&io κ b (sb st).1
 |.ret e,st=>dD κ e (se st)
 |.append o e,st=>(kd 0 (se st)).pos.endLine==(se st).pos.line&&vY o&&dD κ o (kd 0 (kd 0 (se st)))&&dD κ e (kd 1 (se st))
 |.extend o e,st=>(kd 0 (se st)).pos.endLine==(se st).pos.line&&vY o&&dD κ o (kd 0 (kd 0 (se st)))&&dD κ e (kd 1 (se st))
 |.nodeInit x a e,st=>aX κ ("Node":Str)&&(kd 0 (se st)).pos.endLine==(se st).pos.line&&bu κ (nm x)&&nm a==("place":Str)&&dD κ e (kd 2 (se st))
 |.expr e,st=>C8 e&&dD κ e (se st)
 |.g _ s,st=>Bu κ s st
noncomputable def io(κ:bf):Ss→List PySem.Stmt→Bool
 |.nil,_=>true
 |.cons s r,l=>Bu κ s (l.headD (.Pass default))&&io κ r l.tail
end
end Mine
namespace Mine
open PySem PySem.W PyProof.Rows
theorem ae{a b:Bool}(h:(a&&b)=true):a=true∧b=true:=by rwa [Bool.and_eq_true]at h
noncomputable def Gl(G:Cfg)(x:Str)(v:Value):Prop:=∃m,G.X0.g.Ns mainGlobals m∧m x=some v
noncomputable def Bl(G:Cfg)(x:Str)(v:Value):Prop:=∃mg mb,G.X0.g.Ns mainGlobals mg∧G.X0.g.Ns builtinsNs mb∧mg x=none∧mb x=some v
noncomputable def ny:List (Str × Value):=[("len",.builtin "len"),("sorted",.builtin "sorted"),("str",.type "str"),("int",.type "int"),("max",.builtin "max"),("min",.builtin "min"),
   ("list",.type "list"),("dict",.type "dict"),("range",.type "range"),("enumerate",.type "enumerate"),("zip",.type "zip"),("isinstance",.builtin "isinstance")]
structure Stat(G:Cfg):Prop where
 nm:∀i j,nm i=nm j→i=j
 cd:∀i,(Mine.nm i==("__classdict__":Str))=false
 kin:G.K.In G.X0.g
 nolimit:G.X0.g.NoLimit
 sm:(G.X0.g.get? sysModules).isSome
 fnG:∀f fi,af.fns f=some fi→fx f≠""→Gl G (fx f) (.ref f)
 clsG:∀C i,af.inits C=some i→Gl G (fx C) (.ref C)
 valG:∀x d,af.gval x=some d→∃v,Gl G (fx x) v∧Rp G G.X0 v d
 node:Gl G "Node" (.ref 43)
 blt:∀x v,(x,v)∈ny→Bl G x v
 nb:NoneBooked G.X0.g
structure FOk(κ:bf)(env:Env):Prop where
 g:∀y,κ.lookup y=some .globalImplicit→env.kindOf y=some .globalImplicit
 c:∀y,κ.lookup y=some .cell∨κ.lookup y=some .free→(env.kindOf y=some .cell∨env.kindOf y=some .free)∧(env.cells.lookup y).isSome
 l:∀y,κ.lookup y=some .local→env.kindOf y=some .local
theorem lU{κ:bf}{x:Str}(h:bu κ x=true):(x==("__debug__":Str))=false:=beq_eq_false_iff_ne.mpr (bne_iff_ne.mp (ae h).1)
section
variable {G:Cfg}{F:Frm}{n:Nat}{κ:bf}{ρ ρ':ay}{ts:List Tmp}{σ σ' σ1 σ2:Store}{s:Shared}{A:Around}
theorem Ns.x0{a:Addr}{m}(h:G.X0.g.Ns a m)(S:St G F ρ ts σ s):s.heap.Ns a m:=h.keeps S.x0
theorem fW(K:FOk κ F.env)(S:St G F ρ ts σ s){x:Str}{v:Value}{p:Pos}{Q:Value→Shared→Prop}(h:aX κ x=true)(hg:Gl G x v)(q:Q v s):bC G A (eval (.Name x p) F.env) Q s:=by
 refine aT hg fun mg h1 h2=>?_
 exact Calls.Name_function_global F.kind (K.g _ (beq_iff_eq.mp (ae h).2)) (Calls.loadGlobal_global (by refine eR F.glob ?_;exact Ns.x0 h1 S) h2 q) (beq_eq_false_iff_ne.mpr (bne_iff_ne.mp (ae h).1))
theorem xK(K:FOk κ F.env)(Sg:Stat G)(S:St G F ρ ts σ s){x:Str}{v:Value}{p:Pos}{Q:Value→Shared→Prop}(h:aX κ x=true)(hx:(x,v)∈ny)(q:Q v s):bC G A (eval (.Name x p) F.env) Q s:=by
 refine f8 (Sg.blt x v hx) fun mg mb h1 h2 h3 h4=>?_
 exact Calls.Name_function_global F.kind (K.g _ (beq_iff_eq.mp (ae h).2)) (Calls.loadGlobal_builtin (by refine eR F.glob ?_;exact Ns.x0 h1 S) h3 (by refine eR F.blt ?_;exact Ns.x0 h2 S) h4 q) (beq_eq_false_iff_ne.mpr (bne_iff_ne.mp (ae h).1))
theorem xy{k p}:Ex G F n (eval (.Constant .none k p) F.env) ρ σ .none σ:=fun _ _ _ _ S=>wpAny_Constant_none (S.v fun _=>.none)
theorem xC{b k p}:Ex G F n (eval (.Constant (.bool b) k p) F.env) ρ σ (.bool b) σ:=fun _ _ _ _ S=>wpAny_Constant_bool (S.v fun _=>.bool b)
theorem tt{i k p}:Ex G F n (eval (.Constant (.int i) k p) F.env) ρ σ (.int i) σ:=fun _ _ _ _ S=>wpAny_Constant_int ((S.tok (Nat.succ_pos _)).v fun _=>.int _ _ S.tk)
theorem y4{i k p}:Ex G F n (eval (.Constant (.str i) k p) F.env) ρ σ (.str i) σ:=fun _ _ _ _ S=>wpAny_Constant_str ((S.tok (Nat.succ_pos _)).v fun _=>.str _ _ S.tk)
theorem jS(Sg:Stat G){x:Nat}{d:V}{p:Pos}(h:ρ x=some (.v d))(hd:bu κ (nm x)=true):Ex G F n (eval (.Name (nm x) p) F.env) ρ σ d σ:=
 fun _ _ _ _ S=>wpAny_Name (qI S h (Sg.cd x) fun _ r=>r) (lU hd)
theorem xH(Sg:Stat G)(K:FOk κ F.env){i:Nat}{d:V}{p:Pos}(hg:aX κ (fx i)=true)(h:af.gval i=some d):Ex G F n (eval (.Name (fx i) p) F.env) ρ σ d σ:=by
 intro A ts s R ⟨X,O,W⟩
 refine aT (Sg.valG i d h) fun v e1 e2=>?_
 exact fW K (rA X O W) hg e1 ⟨X,O,W.le,W.kp,W.inv,W.loc,fun Y le=>e2.up (W.inv.x0.trans le),W.tm⟩
theorem aO{h:Heap}{a:Addr}{vs:Array Value}{m:Nat}(e:h.get? a=some (listOf vs m)):h.IsList a vs:=⟨_,e,rfl,m,rfl⟩
abbrev vals(G:Cfg)(vs:List Value)(l:List V):Tmp:=.up fun X=>RpL G X vs l
@[elab_as_elim] theorem Stw.list{M:Value→Prop}{X:VW}{O:OM}(W:Stw G F ρ ts σ s X O){d:V}{l:List V}{v:Value}(h:cX σ d=some l)(r:Rp G X v d)(k:∀a vs m,s.heap.get? a=some (listOf vs m)→RpL G X vs.toList l→M (.ref a)):M v:=by
 induction d using V.casesOn with
 |lst l'=>injection h with z1;subst z1;exact r.on fun a vs m e2 e3=>k a vs m (W.inv.sub _ _ e2) e3
 |loc n=>
  have h:(match σ.cells[n]? with
   |some (.list l)=>some l
   |_=>Option.none)=some l:=h
  cases q:σ.cells[n]? with
  |none=>rw[q]at h;exact nE h
  |some c=>
   replace h:=q▸h
   induction c using Cell.casesOn with
   |list l'=>injection h with z1;subst z1;exact W.cell r q (fun z=>nomatch z) fun a _ _ w9=>eB w9 fun vs m e1 e2=>k a vs m e1 e2
   |_=>exact nE h
 |_=>exact nE h
theorem Stw.nm{X:VW}{O:OM}(Sg:Stat G)(W:Stw G F ρ ts σ s X O){a:Addr}{w:Ow}(e:O a=some w):(a==sysModules)=false:=beq_eq_false_iff_ne.mpr fun z=>by
 refine Exists.elim (Option.isSome_iff_exists.mp Sg.sm) fun o y=>?_
 have:=W.inv.x0.g _ _ y
 replace this:=((W.inv.own a _ e).1)▸z▸this;exact nE this
@[elab_as_elim] theorem Stw.dict{M:Value→Prop}{X:VW}{O:OM}(Sg:Stat G)(W:Stw G F ρ ts σ s X O){d:V}{es:List (Str × V)}{v:Value}(h:dT σ d=some es)(r:Rp G X v d)(k:∀a kvs,(a==sysModules)=false→s.heap.DictOf (sk G) a kvs→RpK G X kvs es→M (.ref a)):M v:=by
 induction d using V.casesOn with
 |dct l'=>injection h with z1;subst z1;exact r.on fun a kvs e2 e3 e4=>k a kvs e3 (DictOf.up (W.inv.sub _) e2) e4
 |loc n=>
  have h:(match σ.cells[n]? with
   |some (.dict l)=>some l
   |_=>Option.none)=some es:=h
  cases q:σ.cells[n]? with
  |none=>rw[q]at h;exact nE h
  |some c=>
   replace h:=q▸h
   induction c using Cell.casesOn with
   |dict l'=>injection h with z1;subst z1;exact W.cell r q (fun z=>nomatch z) fun a _ oa w9=>aT w9 fun kvs e1 e2=>k a kvs (W.nm Sg oa) e1 e2
   |_=>exact nE h
 |_=>exact nE h
theorem St.newlist(S:St G F ρ ts σ s){vs:Array Value}{l:List V}(r:∀X O,Tm F X O ts→RpL G X vs.toList l){tk:Tok}(ht:0<tk):St G F ρ (val G (.ref s.heap.objs.size) (.lst l)::ts) σ {s with heap:=s.heap.push {cls:=.type "list",data:=.seq vs},toks:=tk}:=
 S.alloc (bc _ _) ht (fun a=>a==s.heap.objs.size) (fun a e=>by refine eR (beq_iff_eq.mp e) ?_;exact bR _) fun Y O t g=>Rp.lst' (n:=0) (g _ _ (beq_self_eq_true _) (Heap.get?_push_size _ rfl)) (r Y O t)
theorem St.newtup(S:St G F ρ ts σ s){vs:Array Value}{l:List V}(r:∀X O,Tm F X O ts→RpL G X vs.toList l){tk:Tok}(ht:0<tk):St G F ρ (val G (.ref s.heap.objs.size) (.tup none l)::ts) σ {s with heap:=s.heap.push {cls:=.type "tuple",data:=.seq vs},toks:=tk}:=
 S.alloc (bc _ _) ht (fun a=>a==s.heap.objs.size) (fun a e=>by refine eR (beq_iff_eq.mp e) ?_;exact bR _) fun Y O t g=>Rp.tup' ⟨_,g _ _ (beq_self_eq_true _) (Heap.get?_push_size _ rfl),rfl,0,rfl⟩ (r Y O t) fun _ e=>nomatch e
end
end Mine
namespace Mine
open PySem PySem.W PyProof.Rows
structure OkX(y:PySem.Expr):Prop where
 star:∀r env,starEach (y::r) env=(false,eval y env)::starEach r env
 mark:∀op,behindInMarks op y=false
 fold:∀env v,foldedSetIterable y env v=pure v
 sub:∀o i,subscripted y false o i=operate [o,i] (getItem o i)
theorem bx(e:E)(x:PySem.Expr):OkX (bD e x):=by induction e using E.casesOn<;>exact⟨fun _ _=>rfl,fun _=>rfl,fun _ _=>rfl,fun _ _=>rfl⟩
theorem eL{e:E}(h:vY e=true)(x:PySem.Expr)(n:Str)(env:Env)(t:Sem Value):attributeBase (bD e x) n env t=t:=by
 induction e using E.casesOn with
 |call f as=>induction as using Es.casesOn with
  |nil=>exact bE h
  |cons _ _=>rfl
 |new f as=>induction as using Es.casesOn with
  |nil=>exact bE h
  |cons _ _=>rfl
 |blt f as=>induction as using Es.casesOn with
  |nil=>exact bE h
  |cons _ _=>rfl
 |_=>rfl
theorem nr{v:V}{i:Int}(h:sY v=some i):v=.int i:=by
 induction v using V.casesOn with
 |int _=>exact oE h rfl
 |_=>exact nE h
theorem jQ{v:V}{i:Bool}(h:wj v=some i):v=.bool i:=by
 induction v using V.casesOn with
 |bool _=>exact oE h rfl
 |_=>exact nE h
theorem gJ{v:V}{i:List V}(h:kr v=some i):v=.lst i:=by
 induction v using V.casesOn with
 |lst _=>exact oE h rfl
 |_=>exact nE h
theorem rR{v:V}{l:List V}(h:AT v=some l):∃i,v=.tup i l:=by
 induction v using V.casesOn with
 |tup i _=>exact⟨i,oE h rfl⟩
 |_=>exact nE h
theorem ob{α β:Type}{o:Option α}{f:α→Option β}{r:β}{C:Prop}(h:o.bind f=some r)(k:∀a,o=some a→f a=some r→C):C:=by
 induction o using Option.casesOn with
 |none=>exact nE h
 |some a=>exact k a rfl h
theorem ca{α β γ:Type}{o:Option (α × β)}{f:α × β→Option γ}{r:γ}{C:Prop}(h:o.bind f=some r)(k:∀a b,o=some (a,b)→f (a,b)=some r→C):C:=by
 induction o using Option.casesOn with
 |none=>exact nE h
 |some a=>exact k a.1 a.2 rfl h
theorem pI{α β:Type}{o:Option α}{f:α→β}{r:β}{C:Prop}(h:o.map f=some r)(k:∀a,o=some a→f a=r→C):C:=by
 induction o using Option.casesOn with
 |none=>exact nE h
 |some a=>exact k a rfl (Option.some.inj h)
theorem bv{α:Type}{p:Prop}[Decidable p]{a:Option α}{r:α}{C:Prop}(h:(if p then a else none)=some r)(k:p→a=some r→C):C:=by
 by_cases q:p
 ·rw[if_pos q]at h;exact k q h
 ·rw[if_neg q]at h;exact nE h
@[elab_as_elim] theorem ma{α:Type}{M:V→Prop}{v:V}{f:Int→Option α}{r:α}(h:(sY v).bind f=some r)(k:∀i,f i=some r→M (.int i)):M v:=ob h fun i e h=>nr e▸k i h
@[elab_as_elim] theorem Bw{α:Type}{M:V→Prop}{v:V}{f:Bool→Option α}{r:α}(h:(wj v).bind f=some r)(k:∀i,f i=some r→M (.bool i)):M v:=ob h fun i e h=>jQ e▸k i h
@[elab_as_elim] theorem v7{α:Type}{M:V→Prop}{v:V}{f:List V→Option α}{r:α}(h:(kr v).bind f=some r)(k:∀i,f i=some r→M (.lst i)):M v:=ob h fun i e h=>gJ e▸k i h
section
variable {G:Cfg}{F:Frm}{n:Nat}{κ:bf}{ρ ρ':ay}{ts:List Tmp}{σ σ' σ1 σ2:Store}{s:Shared}{A:Around}{X:VW}{O:OM}
theorem sQ{v:Value}{d:V}(r:Rp G X v d):handedIn v=true:=r.on (by clear v r;induction d using V.casesOn<;>first|exact rfl|exact fun _=>rfl|exact fun _ _=>rfl|exact fun _ _ _ _ _=>rfl|exact fun _ _ _ _ _ _ _=>rfl)
theorem gW(hn:∀i j,nm i=nm j→i=j){a:Nat}:∀{es:List DictEntry}{fs:List (Nat × V)},RpF G X es fs→(∀d,fs.lookup a=some d→∃v,getL (nm a) es=some (some v)∧Rp G X v d)∧(fs.lookup a=none→es.find? (·.key.isStr (nm a))=none∧getL (nm a) es=some none):=by
 intro es
 induction es with
 |nil=>intro fs r;induction fs using List.casesOn with
  |nil=>exact⟨fun _ e=>(nomatch e),fun _=>⟨rfl,rfl⟩⟩
  |cons _ _=>exact r.k.elim
 |cons e es ih=>intro fs r;induction fs using List.casesOn with
  |nil=>exact r.k.elim
  |cons f fs=>
   obtain⟨i,x⟩:=f
   refine cB (show(∃hs t v,e=⟨hs,.str (nm i) t,v⟩)∧rz es (fs.map fun p:Nat × V=>p.1)from r.k) fun y0 rk=>?_;refine CX y0 fun hs t v z3=>?_;subst z3
   obtain⟨rv,rr⟩:=r.v.uncons
   have ih:=ih (fs:=fs) ⟨rk,rr⟩
   refine eR List.lookup_cons ?_
   unfold getL at ih ⊢
   refine(List.find?_cons)▸List.any_cons▸?_
   clear rk r y0 rr;by_cases q:a=i
   ·subst q
    have z:Value.isStr (.str (nm a) t) (nm a)=true:=beq_self_eq_true _
    rw[beq_self_eq_true]
    refine eR z ?_
    exact⟨fun d e=>by refine oE e ?_;exact(bi v rfl rv),fun e=>by exact nR e⟩
   ·have z:Value.isStr (.str (nm i) t) (nm a)=false:=beq_eq_false_iff_ne.mpr fun z=>q (hn _ _ z.symm)
    refine eR (beq_eq_false_iff_ne.mpr q) ?_
    refine eR z ?_
    exact ih
theorem RpK.hit{K:Type}[DecidableEq K]{k:K}{v:List (K × Value)}{es:List (K × V)}{d:V}(h:RpK G X v es)(e:(es.find? fun p=>p.1=k).map (·.2)=some d){C:Prop}(c:∀u,valueAt v k=some u→Rp G X u d→C):C:=by
 rcases h.at k with⟨u,x,z1,z2,ru⟩|⟨_,z⟩
 ·exact c u z1 (Option.some.inj (z2.symm.trans e)▸ru)
 ·replace z:=e▸z;exact nR z
structure ClsOk(G:Cfg):Prop where
 get:∀C a,af.fld C a=true→plainGet G.K C (nm a)=true∧hasDictIn G.K C=true∧findIn G.K (.ref C) (nm a)=some none
theorem St.kin(Sg:Stat G)(S:St G F ρ ts σ s):G.K.In s.heap:=fun a o e=>S.x0 _ _ (Sg.kin a o e)
theorem St.one{v:Value}{d:V}(S:St G F ρ (val G v d::ts) σ s){C:Prop}(k:∀X O,Stw G F ρ ts σ s X O→Rp G X v d→C):C:=S.on fun X O W=>k X O ⟨W.le,W.kp,W.inv,W.loc,W.tm.2⟩ (W.tm.1 X (.refl X))
theorem St.two{v u:Value}{d e:V}(S:St G F ρ (val G u e::val G v d::ts) σ s){C:Prop}(k:∀X O,Stw G F ρ ts σ s X O→Rp G X v d→Rp G X u e→C):C:=S.on fun X O W=>k X O ⟨W.le,W.kp,W.inv,W.loc,W.tm.2.2⟩ (W.tm.2.1 X (.refl X)) (W.tm.1 X (.refl X))
theorem Stw.res(W:Stw G F ρ ts σ s X O){v:Value}{d:V}(r:Rp G X v d):St G F ρ (val G v d::ts) σ s:=⟨X,O,W.le,W.kp,W.inv,W.loc,fun _ l=>r.up l,W.tm⟩
theorem Stw.st(W:Stw G F ρ ts σ s X O):St G F ρ ts σ s:=rA X O W
theorem xc(Sg:Stat G)(hc:ClsOk G){e:E}{x:PySem.Expr}{d r:V}{a:Nat}{p:Pos}(hb:vY e=true)(h1:Ex G F n (eval (bD e x) F.env) ρ σ d σ')(h:oQ af.toTab d a=some r):Ex G F n (eval (.Attribute (bD e x) (nm a) p) F.env) ρ σ r σ':=by
 intro A ts s R S
 have eq:eval (.Attribute (bD e x) (nm a) p) F.env=(do
  let o←attributeBase (bD e x) (nm a) F.env (eval (bD e x) F.env)
  standAt p.atName
  let r←holding [o] (getAttr o (nm a) true)
  letTemporaryGo (bD e x) o r
  pure r):=rfl
 rw[eq,eL hb]
 refine fA (ad (h1 A ts s R S) fun v s1 S1=>wpAny_bind (wpAny_standAt (wpAny_bind (wpAny_holding (ad (Q:=fun v s'=>St G F ρ (val G v r::ts) σ' s') ?_ fun u s2 S2=>wpAny_bind (wpAny_letTemporaryGo (wpAny_pure S2)))))))
 refine S1.one fun X O W rd=>?_
 clear p hb s R S eq S1;induction d using V.casesOn with
 |inst C fs=>
  have h:(if af.fld C a then fs.lookup a else none)=some r:=h
  split at h
  ·rename_i q
   refine rd.on fun y dx es m h1 h2 h3=>?_
   refine aT ((gW Sg.nm h3).1 _ h) fun u hu ru=>?_
   refine o6 (hc.get C a q) fun c1 c2 c3=>?_
   exact get_value (W.st.kin Sg) (show InstAt s1.heap y (instObj C dx) C (some (dictOf es m))from⟨W.inv.sub _ _ h1,rfl,rfl,W.inv.sub _ _ h2⟩) (plainGet_of c1).1 (findObj_own c2 c3 rfl hu) (sQ ru) ((W.res ru).tok (Nat.succ_pos _))
  ·exact nE h
 |_=>exact nE h
theorem gm{k:Nat}{i:Int}(h0:0≤i)(h:i.toNat<k):seqIndex? i k=some i.toNat:=by
 unfold seqIndex?
 rw[if_neg (Int.not_lt.mpr h0),if_pos]
 refine eR (decide_eq_true h0) ?_;refine eR (decide_eq_true (Int.toNat_of_nonneg h0▸Int.ofNat_lt.mpr h)) ?_;rfl
theorem Ao{k:Nat}(h:0<k): -1+(k:Int)=((k-1:Nat):Int):=(Int.add_comm _ _).trans (Int.ofNat_sub h).symm
theorem oq{k:Nat}(h:0<k):seqIndex? (-1) k=some (k-1):=by
 unfold seqIndex?
 rw[if_pos (show(-1:Int)<0 by decide),Ao h,if_pos]
 ·rfl
 ·refine eR (decide_eq_true (Int.natCast_nonneg _)) ?_;refine eR (decide_eq_true (Int.ofNat_lt.mpr (Nat.sub_lt h Nat.one_pos))) ?_;rfl
theorem jl{l:List V}{i:Int}{d:V}(h:cr l i=some d){C:Prop}(k1:0≤i→i<2 ^ 63→l[i.toNat]? =some d→C)(k2:i= -1→l[l.length-1]? =some d→0<l.length→C):C:=by
 unfold cr at h
 by_cases h0:0≤i
 ·rw[if_pos h0]at h
  by_cases h1:i<2 ^ 63
  ·rw[if_pos h1]at h;exact k1 h0 h1 h
  ·rw[if_neg h1]at h;exact nE h
 ·rw[if_neg h0]at h
  by_cases h1:i= -1
  ·replace h:=(List.getLast?_eq_getElem?)▸(if_pos h1)▸h
   exact k2 h1 h (by clear i C k1 k2 h0 h1;induction l using List.casesOn with|nil=>exact nE h|cons _ _=>exact Nat.succ_pos _)
  ·rw[if_neg h1]at h;exact nE h
theorem xV{M:V→V→Prop}{o i d:V}(h:fj σ o i=some d)(kl:∀o l j,cX σ o=some l→cr l j=some d→M o (.int j))(kt:∀id l j,cr l j=some d→M (.tup id l) (.int j))
  (ks:∀x j c,0≤j∧j<2 ^ 63→x.cps.toList[j.toNat]? =some c→d=.str ⟨#[c]⟩→M (.str x) (.int j)) (kd:∀o k es i,dT σ o=some es→cY es k=some d→i=.str k∨i=.ks k→M o i) (ki:∀es k,ye es k=some d→M (.dcti es) (.ki k)):M o i:=by
 have gen:∀o,(match i with
  |.int i=>(cX σ o).bind fun l=>cr l i
  |.str k=>(dT σ o).bind fun es=>cY es k
  |.ks k=>(dT σ o).bind fun es=>cY es k
  |_=>Option.none)=some d→M o i:=fun o h=>by
  induction i using V.casesOn with
  |int j=>refine aT (Option.bind_eq_some_iff.mp h) fun l q1 q2=>?_;exact kl _ _ _ q1 q2
  |str k=>obtain⟨l,q1,q2⟩:=Option.bind_eq_some_iff.mp h;exact kd _ _ _ _ q1 q2 (.inl rfl)
  |ks k=>obtain⟨l,q1,q2⟩:=Option.bind_eq_some_iff.mp h;exact kd _ _ _ _ q1 q2 (.inr rfl)
  |_=>exact nE h
 induction o using V.casesOn with
 |lst l=>clear kt ks kd ki gen;induction i using V.casesOn with
  |int j=>exact kl _ _ _ rfl h
  |_=>exact nE h
 |tup id l=>clear kl ks kd ki gen;induction i using V.casesOn with
  |int j=>exact kt _ _ _ h
  |_=>cases h
 |str x=>clear kl kt kd ki gen;induction i using V.casesOn with
  |int j=>
   have h:(if 0≤j∧j<2 ^ 63 then(x.cps.toList[j.toNat]?).map fun c=>V.str ⟨#[c]⟩else none)=some d:=h
   split at h
   ·rename_i q
    refine aT (Option.map_eq_some_iff.mp h) fun c hc e=>?_
    exact ks _ _ c q hc e.symm
   ·injection h
  |_=>exact nE h
 |dcti es=>clear kl kt ks kd gen;induction i using V.casesOn with
  |ki k=>exact ki _ _ h
  |_=>cases h
 |_=>exact gen _ h
theorem xP(Sg:Stat G){o i d:V}{vo vi:Value}{e1 e2:PySem.Expr}(hs:OkX e2)(h:fj σ o i=some d)(S:St G F ρ (val G vi i::val G vo o::ts) σ s):bC G A (subscriptTail e1 e2 vo vi) (fun v s'=>St G F ρ (val G v d::ts) σ s') s:=by
 refine S.two fun X O W ro ri=>xV (M:=fun o i=>Rp G X vo o→Rp G X vi i→bC G A (subscriptTail e1 e2 vo vi) (fun v s'=>St G F ρ (val G v d::ts) σ s') s) h ?_ ?_ ?_ ?_ ?_ ro ri
 ·refine fun o l j el h ro ri=>W.list el ro fun a vs m g r=>ri.on fun t=>tail_any (aO g).typeIs slot_list_getitem.lookup ?_ (hs.sub _ _)
  have e:vs.size=l.length:=Array.length_toList▸r.n
  refine jl h (fun h0 h1 h2=>r.get h2 fun u hu ru=>wpAny_getItem_list (aO g) h0 h1 (Array.getElem?_toList▸hu) (W.res ru)) fun e0 h2 h3=>r.get h2 fun u hu ru=>?_
  subst e0
  exact wpAny_getItem_list_neg (aO g) (by decide) (by refine eR e ?_;exact Int.neg_le_neg (Int.ofNat_le.mpr h3)) (by decide) (by refine eE (Array.getElem?_toList) ?_;refine eR e ?_;refine eR (Ao h3) ?_;exact hu) (W.res ru)
 ·refine fun id l j h ro ri=>ro.on fun a vs h1 h2 _=>ri.on fun t=>?_
  have k:=IsTup.up W.inv.sub h1
  have e:vs.size=l.length:=Array.length_toList▸h2.n
  refine tail_any k.typeIs PySem.F.slot_tuple_getitem.lookup ?_ (hs.sub _ _)
  refine jl h (fun h0 z1 z2=>h2.get z2 fun u hu ru=>PyProof.Rows.getItem_tuple k (by lia) z1 (gm (k:=vs.size) h0 (e▸(List.getElem?_eq_some_iff.mp z2).1)) (Array.getElem?_toList▸hu) (W.res ru)) fun e0 z2 z3=>h2.get z2 fun u hu ru=>?_
  clear Sg e1 e2 hs S h ro ri h1 h2 z2;subst e0
  exact PyProof.Rows.getItem_tuple k (by decide) (by decide) (oq (k:=vs.size) (e▸z3)) (by refine eE (Array.getElem?_toList) ?_;refine eR e ?_;exact hu) (W.res ru)
 ·intro x j c q hc e ro ri
  subst e
  refine ro.on fun t=>ri.on fun u=>tail_any (typeIs_str s x t) PySem.F.slot_str_getitem.lookup (P.getItem_str (c:=c) (by simp only [Bool.or_eq_false_iff,decide_eq_false_iff_not];lia) ?_ ((W.st.tok (Nat.succ_pos _)).v fun _=>.str _ _ W.inv.tk)) (hs.sub _ _)
  refine eR (gm (k:=x.length) q.1 (by have:=(List.getElem?_eq_some_iff.mp hc).1;rwa [Array.length_toList]at this)) ?_
  show x.cps[j.toNat]? =some c
  refine eE (Array.getElem?_toList) ?_;exact hc
 ·refine fun o k es i el h hi ro ri=>W.dict Sg el ro fun a kvs hm hd hk=>?_
  obtain⟨t,rfl⟩:∃t,vi=.str k t:=by
   rcases hi with rfl|rfl
   ·exact ri.on fun t=>⟨t,rfl⟩
   ·exact ri.on fun t=>⟨t,rfl⟩
  refine tail_any hd.typeIs slot_dict_getitem.lookup ?_ (hs.sub _ _)
  exact hk.hit h fun u z1 ru=>wpAny_getItem_of (strKind_is _ _ k t) hd.mapOf z1 ((W.res ru).tok (Nat.succ_pos _))
 ·refine fun es k h ro ri=>ro.on fun a kvs hd hm hk=>ri.on fun t=>?_
  have hd:=DictOf.up (W.inv.sub _) hd
  exact tail_any hd.typeIs slot_dict_getitem.lookup (hk.hit h fun u z1 ru=>wpAny_getItem_of (intKind_is _ _ k t) hd.mapOf z1 ((W.res ru).tok (Nat.succ_pos _))) (hs.sub _ _)
theorem xu(Sg:Stat G){e1 e2:PySem.Expr}{a b d:V}{p:Pos}(hs:OkX e2)(h1:Ex G F n (eval e1 F.env) ρ σ a σ1)(h2:Ex G F n (eval e2 F.env) ρ σ1 b σ2)(h:fj σ2 a b=some d):Ex G F n (eval (.Subscript e1 e2 p) F.env) ρ σ d σ2:=
 fun A ts s R S=>Subscript_ (ad (h1 A ts s R S) fun _ s1 S1=>ad (h2 A _ s1 R S1) fun _ _ S2=>xP Sg hs h S2)
theorem m4{vo vl vu:Value}{l r:List V}{lo hi:Option Int}{e1:PySem.Expr}{lw up:Option PySem.Expr}{sp:Pos}(W:Stw G F ρ ts σ s X O)(ro:Rp G X vo (.lst l))(pl:IsPart vl lo)(pu:IsPart vu hi)
  (hr:∀(X:VW)(vs:Array Value),RpL G X vs.toList l→RpL G X (slicePick vs lo hi none).toList r) (hl:l.length≤bq):
  bC G A (subscriptTail e1 (.Slice lw up none sp) vo (.ref s.heap.objs.size)) (fun v s'=>St G F ρ (val G v (.lst r)::ts) σ s') {s with heap:=s.heap.push {cls:=.type "slice",data:=.fields #[vl,vu,.none]}}:=by
 refine ro.on fun a vs m h1 h2=>?_
 have S':St G F ρ (vals G vs.toList l::ts) σ s:=⟨X,O,W.le,W.kp,W.inv,W.loc,fun _ l=>h2.up l,W.tm⟩
 have S':=S'.grow (bc s.heap {cls:=.type "slice",data:=.fields #[vl,vu,.none]}) W.inv.tk
 have k:Heap.IsList (s.heap.push {cls:=.type "slice",data:=.fields #[vl,vu,.none]}) a vs:=aO (bc _ _ _ _ (W.inv.sub _ _ h1))
 refine tail_any (s:={s with heap:=s.heap.push {cls:=.type "slice",data:=.fields #[vl,vu,.none]}}) k.typeIs slot_list_getitem.lookup (ops:=[.ref s.heap.objs.size,.ref a])
  (wpAny_getItem_list_slice (s:={s with heap:=s.heap.push {cls:=.type "slice",data:=.fields #[vl,vu,.none]}}) k (Heap.IsSliceOf.new ..) pl pu .none (by simp) ?_ (by refine eE Array.length_toList ?_;refine eR h2.n ?_;exact Nat.le_trans hl (by decide))) rfl
 exact(S'.newlist (vs:=slicePick vs lo hi none) (fun Y _ t=>hr Y vs (t.1 Y (.refl Y))) W.inv.tk).pop2
theorem u3{M:V→V→V→Prop}{a b d:V}(h:fI a b=some d)(k:∀l (i:Nat),l.length≤bq→M (.lst l) (.int i) (.lst (l.drop i))):M a b d:=by
 unfold fI at h
 refine v7 h fun l h=>ma h fun i h=>bv h fun q h=>?_
 refine oE h ?_
 refine Exists.elim (Int.eq_ofNat_of_zero_le q.1) fun j z1=>?_;clear h;subst z1
 exact k l j q.2.2
theorem yC{M:V→V→V→Prop}{a b d:V}(h:nQ a b=some d)(k:∀l (i:Nat),l.length≤bq→M (.lst l) (.int i) (.lst (l.take i))):M a b d:=by
 unfold nQ at h
 refine v7 h fun l h=>ma h fun i h=>bv h fun q h=>?_
 refine oE h ?_
 refine Exists.elim (Int.eq_ofNat_of_zero_le q.1) fun j z1=>?_;clear h;subst z1
 exact k l j q.2.2
theorem tI{e1 e2:PySem.Expr}{a b d:V}{p sp:Pos}(h1:Ex G F n (eval e1 F.env) ρ σ a σ1)(h2:Ex G F n (eval e2 F.env) ρ σ1 b σ2)(h:fI a b=some d):Ex G F n (eval (.Subscript e1 (.Slice (some e2) none none sp) p) F.env) ρ σ d σ2:=
 fun A ts s R S=>Subscript_ (ad (h1 A ts s R S) fun va s1 S1=>wpAny_Slice (wpAny_evalPart_some (ad (h2 A _ s1 R S1) fun vb s2 S2=>wpAny_evalPart_none (wpAny_evalPart_none (S2.two fun X O W ro ri=>
  u3 (M:=fun a b d=>Rp G X va a→Rp G X vb b→bC G A (subscriptTail e1 (.Slice (some e2) none none sp) va (.ref s2.heap.objs.size)) (fun v s'=>St G F ρ (val G v d::ts) σ2 s') {s2 with heap:=s2.heap.push {cls:=.type "slice",data:=.fields #[vb,.none,.none]}}) h
   (fun l k q ro ri=>ri.on fun t=>m4 W ro (.int k t) .none (fun X vs r=>by rw[slicePick_from'];exact r.drop k) q) ro ri)))))
theorem zc{e1 e2:PySem.Expr}{a b d:V}{p sp:Pos}(h1:Ex G F n (eval e1 F.env) ρ σ a σ1)(h2:Ex G F n (eval e2 F.env) ρ σ1 b σ2)(h:nQ a b=some d):Ex G F n (eval (.Subscript e1 (.Slice none (some e2) none sp) p) F.env) ρ σ d σ2:=
 fun A ts s R S=>Subscript_ (ad (h1 A ts s R S) fun va s1 S1=>wpAny_Slice (wpAny_evalPart_none (wpAny_evalPart_some (ad (h2 A _ s1 R S1) fun vb s2 S2=>wpAny_evalPart_none (S2.two fun X O W ro ri=>
  yC (M:=fun a b d=>Rp G X va a→Rp G X vb b→bC G A (subscriptTail e1 (.Slice none (some e2) none sp) va (.ref s2.heap.objs.size)) (fun v s'=>St G F ρ (val G v d::ts) σ2 s') {s2 with heap:=s2.heap.push {cls:=.type "slice",data:=.fields #[.none,vb,.none]}}) h
   (fun l k q ro ri=>ri.on fun t=>m4 W ro .none (.int k t) (fun X vs r=>by rw[slicePick_upto'];exact r.take k) q) ro ri)))))
end
end Mine
namespace Mine
open PySem PySem.W PyProof.Rows
theorem xa{i:Int}{k:Nat}(h:i.natAbs<2 ^ k):Builtin.Int.intBits i≤k:=by
 unfold Builtin.Int.intBits
 split
 ·exact Nat.zero_le _
 ·rcases Nat.eq_zero_or_pos i.natAbs with h0|hp
  ·rename_i q;exact absurd (by simpa using Int.natAbs_eq_zero.mp h0) q
  ·exact Nat.succ_le_of_lt ((Nat.log2_lt (Nat.ne_of_gt hp)).mpr h)
theorem sE(vs:Array Value)(k:Nat)(acc:Array Value):(List.replicate k vs).foldl (fun x y=>x++y) acc=acc++(List.replicate k vs.toList).flatten.toArray:=by
 induction k generalizing acc with
 |zero=>simp
 |succ k ih=>
  rw[List.replicate_succ,List.foldl_cons,ih,List.replicate_succ,List.flatten_cons]
  apply Array.toList_inj.mp;simp
theorem zl{M:Operator→V→V→V→Prop}{σ:Store}{op:Operator}{a b d:V}(h:gA σ op a b=some d)(k1:∀i j,M .Add (.int i) (.int j) (.int (i+j)))(k2:∀x y,x.length+y.length≤bq→M .Add (.str x) (.str y) (.str (x++y)))
  (k3:∀a b x y,cX σ a=some x→cX σ b=some y→x.length+y.length≤bq→M .Add a b (.lst (x++y))) (k4:∀i j,M .Sub (.int i) (.int j) (.int (i-j))) (k5:∀i j,j.natAbs<2 ^ 64→M .Mult (.int i) (.int j) (.int (i*j))) (k6:∀x,x.length≤1000→M .Mult (.str x) (.int 1) (.str x))
  (k7:∀l j,0≤j∧j≤1000∧l.length≤1000→M .Mult (.lst l) (.int j) (.lst (List.replicate j.toNat l).flatten)) (k8:∀i j,0<j→M .Mod (.int i) (.int j) (.int (i % j))) (k9:∀i j,0<j∧j<1073741824→M .FloorDiv (.int i) (.int j) (.int (i / j))) (k10:M .Pow (.int 10) (.int 18) (.int (10 ^ 18))):M op a b d:=by
 have gen:∀a,((cX σ a).bind fun x=>(cX σ b).bind fun y=>if x.length+y.length≤bq then some (V.lst (x++y))else none)=some d→M .Add a b d:=fun a h=>ob h fun x e1 h=>ob h fun y e2 h=>bv h fun q h=>by
  refine oE h ?_;exact k3 _ _ _ _ e1 e2 q
 induction op using Operator.casesOn with
 |Add=>
  have h:=h
  induction a using V.casesOn with
  |int i=>clear k2 k3 k4 k5 k6 k7 k8 k9 k10 gen;induction b using V.casesOn with
   |int j=>refine oE h ?_;exact k1 i j
   |_=>exact nE h
  |str x=>clear k1 k3 k4 k5 k6 k7 k8 k9 k10 gen;induction b using V.casesOn with
   |str y=>
    have h:=h
    refine bv h fun q h=>?_;refine oE h ?_;exact k2 x y q
   |_=>exact nE h
  |_=>exact gen _ h
 |Sub=>exact ma h fun i h=>ma h fun j h=>by refine oE h ?_;exact k4 i j
 |Mod=>exact ma h fun i h=>ma h fun j h=>bv h fun q h=>by clear k1 k2 k3 k4 k5 k6 k7 k9 k10 gen;injection h with z1;subst z1;exact k8 i j q
 |FloorDiv=>exact ma h fun i h=>ma h fun j h=>bv h fun q h=>by refine oE h ?_;exact k9 i j q
 |Pow=>exact ma h fun i h=>ma h fun j h=>bv h fun q h=>by refine oE h ?_;obtain⟨rfl,rfl⟩:=q;exact k10
 |Mult=>
  have h:=h
  unfold Bk at h
  refine ma h fun j h=>?_
  induction a using V.casesOn with
  |int i=>refine bv h fun q h=>?_;refine oE h ?_;exact k5 i j q
  |str x=>refine bv h fun q h=>?_;refine oE h ?_;obtain⟨rfl,q⟩:=q;exact k6 x q
  |lst l=>refine bv h fun q h=>?_;refine oE h ?_;exact k7 l j q
  |_=>exact nE h
 |_=>exact nE h
section
variable {G:Cfg}{F:Frm}{n:Nat}{κ:bf}{ρ ρ':ay}{ts:List Tmp}{σ σ' σ1 σ2:Store}{s:Shared}{A:Around}{X:VW}{O:OM}
abbrev kB(G:Cfg)(F:Frm)(ρ:ay)(ts:List Tmp)(σ:Store)(d:V):Value→Shared→Prop:=fun v s=>St G F ρ (val G v d::ts) σ s
theorem Stw.newl(W:Stw G F ρ ts σ s X O){vs:Array Value}{l:List V}(r:RpL G X vs.toList l){tk:Tok}(ht:0<tk):St G F ρ (val G (.ref s.heap.objs.size) (.lst l)::ts) σ {s with heap:=s.heap.push {cls:=.type "list",data:=.seq vs},toks:=tk}:=
 (St.newlist (ts:=vals G vs.toList l::ts) ⟨X,O,W.le,W.kp,W.inv,W.loc,fun _ l=>r.up l,W.tm⟩ (fun Y _ t=>t.1 Y (.refl Y)) ht).pop2
theorem ty(W:Stw G F ρ ts σ s X O){x y:Str}{t u:Tok}(p1:0<t)(p2:0<u)(q:x.length+y.length≤bq):
  (if x.length==0 then Made.val (.str y u)else if y.length==0 then Made.val (.str x t)else Made.str (x++y)).post (kB G F ρ ts σ (.str (x++y))) s:=by
 have e0:∀z:Str,(z.length==0)=true→z.cps= #[]:=fun z h=>Array.eq_empty_of_size_eq_zero (beq_iff_eq.mp h)
 split
 ·rename_i h
  have:x++y=y:=by
   show(⟨x.cps++y.cps⟩:Str)=y
   rw[e0 x h,Array.empty_append]
  exact W.res (by refine eR this ?_;exact .str _ _ p2)
 ·split
  ·rename_i h
   have:x++y=x:=by
    show(⟨x.cps++y.cps⟩:Str)=x
    rw[e0 y h,Array.append_empty]
   exact W.res (by refine eR this ?_;exact .str _ _ p1)
  ·exact⟨by rw[strLen_append];exact Nat.le_trans q (by decide),(W.st.tok (Nat.succ_pos _)).v fun _=>.str _ _ W.inv.tk⟩
theorem yt{op:Operator}{a b d:V}{va vb:Value}(h:gA σ op a b=some d)(S:St G F ρ (val G vb b::val G va a::ts) σ s):bC G A (binaryOp op va vb) (kB G F ρ ts σ d) s:=by
 refine S.two fun X O W ro ri=>zl (M:=fun op a b d=>Rp G X va a→Rp G X vb b→bC G A (binaryOp op va vb) (kB G F ρ ts σ d) s) h ?_ ?_ ?_ ?_ ?_ ?_ ?_ ?_ ?_ ?_ ro ri
 ·exact fun i j ra rb=>ra.on fun t=>rb.on fun u=>PyProof.Rows.add_int ((W.st.tok (Nat.succ_pos _)).v fun _=>.int _ _ W.inv.tk)
 ·exact fun x y q ra rb=>ra.onp fun t p1=>rb.onp fun u p2=>P.add_str (ty W p1 p2 q)
 ·refine fun a b x y e1 e2 q ra rb=>W.list e1 ra fun a vs m ha rx=>W.list e2 rb fun b ws k hb ry=>?_
  refine concat_meets (bi _ ha rfl) (bi _ hb rfl) noFill_list_add seq_list_add PySem.F.slot_list_add PySem.F.entry_list_add (PySem.F.args_list_add_2 _ _)
   (list_addW a b vs ws m k none none #[] #[] (by refine eE Array.length_toList ?_;refine eE Array.length_toList ?_;refine eR rx.n ?_;refine eR ry.n ?_;exact Nat.le_trans q (by decide))) (fz ha hb ?_)
  exact W.newl (vs:=vs++ws) (by refine eR Array.toList_append ?_;exact rx.append ry) W.inv.tk
 ·exact fun i j ra rb=>ra.on fun t=>rb.on fun u=>PyProof.Rows.sub_int ((W.st.tok (Nat.succ_pos _)).v fun _=>.int _ _ W.inv.tk)
 ·exact fun i j q ra rb=>ra.on fun t=>rb.on fun u=>PyProof.Rows.mul_int ((W.st.tok (Nat.succ_pos _)).v fun _=>.int _ _ W.inv.tk) (IntMulOk.of_right (xa (k:=64) q))
 ·refine fun x hx ra rb=>ra.onp fun t p1=>rb.on fun u=>P.mul_str (by decide) (fun h q=>nomatch q) (fun h q=>nomatch q) ?_
  refine eR (if_neg (by decide)) ?_;refine eR (if_pos (show((1:Int)==1||x.length==0)=true from rfl)) ?_
  exact W.res (.str _ _ p1)
 ·refine fun l j q ra rb=>ra.on fun a vs m g rx=>rb.on fun u=>?_
  obtain⟨q1,q2,q3⟩:=q
  have ha:=W.inv.sub _ _ g
  have hs:vs.size=l.length:=Array.length_toList▸rx.n
  have hm:vs.size*j.toNat≤1000*1000:=Nat.mul_le_mul (hs▸q3) (Int.toNat_le.mpr q2)
  refine wpAny_binaryOp_repeat_ref (T:="list") (U:="int") (by decide) ⟨_,ha,rfl⟩ (fun s'=>typeIs_int s' j u) noFill_list_mul PySem.F.fills_int_mul PySem.F.slot_int_rmul repeat_list PySem.F.slot_int_index.lookup
   (call_meets PySem.F.slot_int_rmul (typeIs_int s j u) PySem.F.entry_int_rmul (PySem.F.args_int_rmul_2 _ _) (int___rmul___int_list j u a vs m)
    (p6 ha rfl ⟨_,ha,rfl⟩ (call_meets PySem.F.slot_list_mul ⟨_,ha,rfl⟩ PySem.F.entry_list_mul (PySem.F.args_list_mul_2 _ _)
     (AutoListH.list___mul___list_int_3 a vs m j u (by simp[Builtin.List.listFitsIndex];lia) (by lia) (by simp[Builtin.List.listTooLong,sizeLine];lia))
     ⟨ha,?_⟩)))
  refine W.newl ?_ W.inv.tk
  rw[sE,Array.empty_append]
  split
  ·rename_i e
   have:vs= #[]:=by simpa using e
   clear op b d va vb h S O W ro ri ra rb a m g rx u q1 q2 q3 ha hm e;subst this
   have hx:l=[]:=List.eq_nil_of_length_eq_zero hs.symm
   subst hx
   have:(List.replicate j.toNat ([]:List V)).flatten=[]:=by simp
   refine eR this ?_;simpa using RpL.nil
  ·exact rx.rep _
 ·refine fun i j q ra rb=>ra.on fun t=>rb.on fun u=>PyProof.Rows.mod_int' (Int.ne_of_gt q) ?_
  refine eR (Int.fmod_eq_emod_of_nonneg _ (Int.le_of_lt q)) ?_;exact(W.st.tok (Nat.succ_pos _)).v fun _=>.int _ _ W.inv.tk
 ·refine fun i j q ra rb=>ra.on fun t=>rb.on fun u=>PyProof.Rows.floordiv_int (Int.ne_of_gt q.1) ?_ (.inl (PyProof.noPylong_small (by lia)))
  refine eR (Int.fdiv_eq_ediv_of_nonneg _ (Int.le_of_lt q.1)) ?_;exact(W.st.tok (Nat.succ_pos _)).v fun _=>.int _ _ W.inv.tk
 ·exact fun ra rb=>ra.on fun t=>rb.on fun u=>PyProof.Rows.pow_int_small (by decide) (by decide) (by decide) ((W.st.tok (Nat.succ_pos _)).v fun _=>.int _ _ W.inv.tk)
end
end Mine
namespace Mine
open PySem PySem.W PyProof.Rows
theorem d9{M:V→V→Bool→Prop}{a b:V}{k:Bool}(h:bJ a b=some k)(k1:∀i j,M (.int i) (.int j) (i==j))(k2:∀i s,M (.int i) (.str s) false)(k3:∀s i,M (.str s) (.int i) false)(k4:∀s t,M (.str s) (.str t) (s==t)):M a b k:=by
 induction a using V.casesOn with
 |int i=>induction b using V.casesOn with
  |int j=>refine oE h ?_;exact k1 i j
  |str s=>refine oE h ?_;exact k2 i s
  |_=>exact nE h
 |str s=>induction b using V.casesOn with
  |int j=>refine oE h ?_;exact k3 s j
  |str t=>refine oE h ?_;exact k4 s t
  |_=>exact nE h
 |_=>exact nE h
theorem Bh{M:V→V→Bool→Prop}{a b:V}{k:Bool}(h:zP a b=some k)(k0:M .none .none true)(k1:∀x y,M (.bool x) (.bool y) (x==y))(k2:∀x i l,M (.bool x) (.tup i l) false)(k3:∀i l j m r,dZ l m=some r→M (.tup i l) (.tup j m) r)
  (k4:∀l m,(l.length=0∨m.length=0)→M (.lst l) (.lst m) (l.isEmpty&&m.isEmpty)) (k5:∀a b r,bJ a b=some r→M a b r):M a b k:=by
 induction a using V.casesOn with
 |none=>induction b using V.casesOn with
  |none=>refine oE h ?_;exact k0
  |_=>exact nE h
 |bool x=>induction b using V.casesOn with
  |bool y=>refine oE h ?_;exact k1 x y
  |tup i l=>refine oE h ?_;exact k2 x i l
  |_=>exact nE h
 |tup i l=>induction b using V.casesOn with
  |tup j m=>exact k3 i l j m k h
  |_=>exact nE h
 |lst l=>induction b using V.casesOn with
  |lst m=>
   have h:(if l.isEmpty||m.isEmpty then some (l.isEmpty&&m.isEmpty)else Option.none)=some k:=h
   refine bv h fun q h=>?_
   injection h with z1;clear k0 k1 k2 k3 k5 h;subst z1
   refine k4 l m ?_
   induction l using List.casesOn with
   |nil=>exact .inl rfl
   |cons _ _=>induction m using List.casesOn with
    |nil=>exact .inr rfl
    |cons _ _=>exact bE q
  |_=>exact nE h
 |_=>exact k5 _ _ _ h
theorem Be{M:V→V→Bool→Prop}{a b:V}{k:Bool}(h:Az a b=some k)(k0:M .none .none true)(k1:∀x,M (.bool x) .none false)(k2:∀i l,M (.tup i l) .none false)(k3:∀C f,M (.inst C f) .none false)(k4:∀i,M (.int i) .none false)
  (k5:∀y,M .none (.bool y) false) (k6:∀x y,M (.bool x) (.bool y) (x==y)) (k7:∀i l y,M (.tup i l) (.bool y) false) (k8:∀C f y,M (.inst C f) (.bool y) false) (k9:∀i y,M (.int i) (.bool y) false):M a b k:=by
 induction b using V.casesOn with
 |none=>induction a using V.casesOn with
  |none=>refine oE h ?_;exact k0
  |bool x=>refine oE h ?_;exact k1 x
  |tup i l=>refine oE h ?_;exact k2 i l
  |inst C f=>refine oE h ?_;exact k3 C f
  |int i=>refine oE h ?_;exact k4 i
  |_=>exact nE h
 |bool y=>induction a using V.casesOn with
  |none=>injection h with z1;subst z1;exact k5 y
  |bool x=>refine oE h ?_;exact k6 x y
  |tup i l=>refine oE h ?_;exact k7 i l y
  |inst C f=>refine oE h ?_;exact k8 C f y
  |int i=>refine oE h ?_;exact k9 i y
  |_=>exact nE h
 |_=>injection h
theorem Au{M:V→V→Bool→Prop}{σ:Store}{a b:V}{k:Bool}(h:Ag σ a b=some k)(k1:∀x i a b,M (.str x) (.tup i [.str a,.str b]) (x==a||x==b))(k2:∀x t,M (.str x) (.str t) (!(Builtin.Str.occurrences t x 0 t.length 1).isEmpty))
  (k3:∀x d es,dT σ d=some es→M (.str x) d (es.any fun p=>p.1==x)):M a b k:=by
 have gen:∀x d,((dT σ d).bind fun es=>some (es.any fun p=>p.1==x))=some k→M (.str x) d k:=fun x d h=>ob h fun es e h=>by refine oE h ?_;exact k3 _ _ _ e
 induction a using V.casesOn with
 |str x=>induction b using V.casesOn with
  |tup i l=>
   cases l with
   |nil=>exact nE h
   |cons c l=>
    induction c using V.casesOn with
    |str a=>cases l with
     |nil=>exact nE h
     |cons c l=>induction c using V.casesOn with
      |str b=>induction l using List.casesOn with
       |nil=>refine oE h ?_;exact k1 x i a b
       |cons _ _=>exact nE h
      |_=>exact nE h
    |_=>exact nE h
  |str t=>clear k1 k3 gen;cases h;exact k2 x t
  |_=>exact gen _ _ h
 |_=>cases h
section
variable {G:Cfg}{F:Frm}{n:Nat}{κ:bf}{ρ ρ':ay}{ts:List Tmp}{σ σ' σ1 σ2:Store}{s:Shared}{A:Around}{X:VW}{O:OM}
theorem xr{a b:V}{u v:Value}{k:Bool}(h:bJ a b=some k)(ra:Rp G X u a)(rb:Rp G X v b):SeqAt.EqAt A s u v k:=
 d9 (M:=fun a b k=>Rp G X u a→Rp G X v b→SeqAt.EqAt A s u v k) h (fun i j ra rb=>ra.on fun t=>rb.on fun q=>.int_int _ _ _ _) (fun i j ra rb=>ra.on fun t=>rb.on fun q=>.int_str _ _ _ _)
  (fun i j ra rb=>ra.on fun t=>rb.on fun q=>.str_int _ _ _ _) (fun i j ra rb=>ra.on fun t=>rb.on fun q=>.str_str _ _ _ _) ra rb
theorem oM{l m:List V}{vs us:List Value}{k:Bool}(h:dZ l m=some k)(rl:RpL G X vs l)(rm:RpL G X us m):
  ∃e:Nat→Bool,(∀j (h1:j<vs.length)(h2:j<us.length),SeqAt.EqAt A s vs[j] us[j] (e j))∧((List.range (min vs.length us.length)).all e&&vs.length==us.length)=k:=by
 induction l generalizing m vs us k with
 |nil=>
  refine eR rl.nil_inv ?_
  refine oE h ?_
  refine bi (fun _=>true) (fun j h1=>absurd h1 (Nat.not_lt_zero _)) ?_
  refine eR rm.n ?_;clear vs us k h rl rm;induction m using List.casesOn<;>simp
 |cons a r ih=>
  induction m using List.casesOn with
  |nil=>
   refine eR rm.nil_inv ?_;refine oE h ?_
   refine bi (fun _=>true) (fun j _ h1=>absurd h1 (Nat.not_lt_zero _)) ?_
   refine eR rl.n ?_;simp
  |cons b q=>
   refine ob h fun x e1 h=>ob h fun y e2 h=>?_
   refine oE h ?_
   refine rl.con (M:=fun vs=>∃e:Nat→Bool,(∀j (h1:j<vs.length)(h2:j<us.length),SeqAt.EqAt A s vs[j] us[j] (e j))∧((List.range (min vs.length us.length)).all e&&vs.length==us.length)=(x&&y)) fun v vs ra rr=>?_
   refine rm.con (M:=fun us=>∃e:Nat→Bool,(∀j (h1:j<(v::vs).length)(h2:j<us.length),SeqAt.EqAt A s (v::vs)[j] us[j] (e j))∧((List.range (min (v::vs).length us.length)).all e&&(v::vs).length==us.length)=(x&&y)) fun u us rb rq=>?_
   refine aT (ih e2 rr rq) fun e h1 h2=>?_
   refine bi (fun j=>j.casesOn x e) (fun j h3 h4=>?_) ?_
   ·induction j using Nat.casesOn with
    |zero=>exact xr e1 ra rb
    |succ j=>exact h1 j (Nat.lt_of_succ_lt_succ h3) (Nat.lt_of_succ_lt_succ h4)
   ·rw[List.length_cons,List.length_cons,Nat.add_min_add_right,List.range_succ_eq_map,List.all_cons,List.all_map,←h2]
    have:((fun j=>j.casesOn x e:Nat→Bool) ∘ Nat.succ)=e:=rfl
    refine eR this ?_;refine eR (show(vs.length+1==us.length+1)=(vs.length==us.length) by rw[Bool.eq_iff_iff,beq_iff_eq,beq_iff_eq];exact Nat.succ_inj) ?_
    exact Bool.and_assoc _ _ _
structure Rc(A:Around)(s:Shared)(va vb:Value)(r:Bool):Prop where
 e:SeqAt.RcAt A s va vb r
 n:SeqAt.RcNeAt A s va vb (!r)
theorem Room.un(R:Room n A):A.units<cLine:=Nat.lt_of_le_of_lt (Nat.le_trans (Nat.le_add_right _ (8*n)) (Nat.le_add_right _ 40)) R.u
theorem yk{a b:V}{r:Bool}{va vb:Value}(h:zP a b=some r)(hu:A.units<cLine)(sub:dS X.g s.heap)(ra:Rp G X va a)(rb:Rp G X vb b):Rc A s va vb r:=by
 refine Bh (M:=fun a b r=>Rp G X va a→Rp G X vb b→Rc A s va vb r) h ?_ ?_ ?_ ?_ ?_ ?_ ra rb
 ·exact fun ra rb=>ra.on (rb.on ⟨fun _ _ _ _ h=>EqNone.eq_none_none h,SeqAt.RcNeAt.none_none⟩)
 ·exact fun x y ra rb=>ra.on (rb.on ⟨fun _ _ _ _ h=>eq_bool h,SeqAt.RcNeAt.bool_bool _ _⟩)
 ·exact fun x i l ra rb=>ra.on (rb.on fun p us t2 l2 _=>⟨SeqAt.RcAt.bool_tuple _ (IsTup.up sub t2) hu,SeqAt.RcNeAt.bool_tuple _ (IsTup.up sub t2) hu⟩)
 ·refine fun i l j m r h ra rb=>ra.on fun p vs t1 l1 _=>rb.on fun q us t2 l2 _=>?_
  refine aT (oM (A:=A.in1) (s:=s) h l1 l2) fun e h1 h2=>?_
  have h1:∀j (a:j<vs.size)(b:j<us.size),SeqAt.EqAt A.in1 s vs[j] us[j] (e j):=h1
  exact(show((List.range (min vs.size us.size)).all e&&vs.size==us.size)=r from h2)▸⟨SeqAt.RcAt.tuples (IsTup.up sub t1) (IsTup.up sub t2) hu h1,SeqAt.RcNeAt.tuples (IsTup.up sub t1) (IsTup.up sub t2) hu h1⟩
 ·refine fun l m h ra rb=>ra.on fun p vs i t1 l1=>rb.on fun q us j t2 l2=>?_
  have k1:=aO (sub _ _ t1)
  have k2:=aO (sub _ _ t2)
  have n1:vs.size=l.length:=l1.n
  have n2:us.size=m.length:=l2.n
  clear sub ra rb i t1 l1 t2 l2;induction l using List.casesOn with
  |nil=>induction m using List.casesOn with
   |nil=>
    have q:∀j,j<vs.size→j<us.size→SeqAt.EqAt A.in1 s vs[j]! us[j]! true:=fun j a=>absurd (n1▸a) (Nat.not_lt_zero _)
    have e:(List.range vs.size).all (fun _=>true)=true:=by refine eR n1 ?_;rfl
    have x1:=SeqAt.RcAt.lists (A:=A) (e:=fun _=>true) k1 k2 (n1.trans n2.symm) hu (fun j a=>absurd (n1▸a) (Nat.not_lt_zero _))
    have x2:=SeqAt.RcNeAt.lists (A:=A) (e:=fun _=>true) k1 k2 (n1.trans n2.symm) hu (fun j a=>absurd (n1▸a) (Nat.not_lt_zero _))
    rw[n1]at x1 x2
    exact⟨x1,x2⟩
   |cons _ _=>exact⟨SeqAt.RcAt.lists_lengths k1 k2 (by rw[n1,n2];rfl) hu,SeqAt.RcNeAt.lists_lengths k1 k2 (by rw[n1,n2];rfl) hu⟩
  |cons _ _=>induction m using List.casesOn with
   |nil=>exact⟨SeqAt.RcAt.lists_lengths k1 k2 (by rw[n1,n2];rfl) hu,SeqAt.RcNeAt.lists_lengths k1 k2 (by rw[n1,n2];rfl) hu⟩
   |cons _ _=>exact h.elim (fun z=>nomatch z) fun z=>nomatch z
 ·refine fun a b r h ra rb=>d9 (M:=fun a b k=>Rp G X va a→Rp G X vb b→Rc A s va vb k) h ?_ ?_ ?_ ?_ ra rb
  ·exact fun i j ra rb=>ra.on fun t=>rb.on fun q=>⟨fun _ _ _ _ h=>PyProof.Rows.eq_int h,SeqAt.RcNeAt.int_int _ _ _ _⟩
  ·exact fun i j ra rb=>ra.on fun t=>rb.on fun q=>⟨fun _ _ _ _ h=>EqMixed.eq_int_str h,SeqAt.RcNeAt.int_str _ _ _ _⟩
  ·exact fun i j ra rb=>ra.on fun t=>rb.on fun q=>⟨fun _ _ _ _ h=>EqMixed.eq_str_int h,SeqAt.RcNeAt.str_int _ _ _ _⟩
  ·exact fun i j ra rb=>ra.on fun t=>rb.on fun q=>⟨fun _ _ _ _ h=>PyProof.Rows.eq_str h,SeqAt.RcNeAt.str_str _ _ _ _⟩
theorem yo{a b:V}{r:Bool}{va vb:Value}(h:Az a b=some r)(ra:Rp G X va a)(rb:Rp G X vb b):plainIs va vb=true∧(va==vb)=r:=by
 refine Be (M:=fun a b r=>Rp G X va a→Rp G X vb b→plainIs va vb=true∧(va==vb)=r) h ?_ ?_ ?_ ?_ ?_ ?_ ?_ ?_ ?_ ?_ ra rb
 ·exact fun ra rb=>ra.on (rb.on ⟨rfl,rfl⟩)
 ·exact fun x ra rb=>ra.on (rb.on ⟨rfl,rfl⟩)
 ·exact fun i l ra rb=>ra.on fun _ _ _ _ _=>rb.on ⟨rfl,rfl⟩
 ·exact fun C f ra rb=>ra.on fun _ _ _ _ _ _ _=>rb.on ⟨rfl,rfl⟩
 ·exact fun i ra rb=>ra.on fun _=>rb.on ⟨rfl,rfl⟩
 ·exact fun y ra rb=>ra.on (rb.on ⟨rfl,rfl⟩)
 ·exact fun x y ra rb=>ra.on (rb.on ⟨rfl,by clear r h ra rb;induction x using Bool.casesOn<;>induction y using Bool.casesOn<;>rfl⟩)
 ·exact fun i l y ra rb=>ra.on fun _ _ _ _ _=>rb.on ⟨rfl,rfl⟩
 ·exact fun C f y ra rb=>ra.on fun _ _ _ _ _ _ _=>rb.on ⟨rfl,rfl⟩
 ·exact fun i y ra rb=>ra.on fun _=>rb.on ⟨rfl,rfl⟩
theorem RpK.anyk{K:Type}[DecidableEq K][BEq K][LawfulBEq K]{k:K}{v:List (K × Value)}{es:List (K × V)}(h:RpK G X v es):(valueAt v k).isSome=es.any fun p=>p.1==k:=by
 have e:(es.any fun p=>p.1==k)=v.any fun p=>decide (p.1=k):=by
  refine eR (mo k h.k) ?_;congr 1;funext p;rw[Bool.eq_iff_iff,beq_iff_eq,decide_eq_true_iff]
 refine eR e ?_
 unfold valueAt
 rw[Option.isSome_map,Bool.eq_iff_iff,List.find?_isSome,List.any_eq_true]
structure Ri(G:Cfg)(F:Frm)(A:Around)(ρ:ay)(ts:List Tmp)(σ:Store)(s:Shared)(va vb:Value)(r:Bool):Prop where
 e:bC G A (compareOp .In va vb) (kB G F ρ ts σ (.bool r)) s
 n:bC G A (compareOp .NotIn va vb) (kB G F ρ ts σ (.bool (!r))) s
theorem qS(p q:Str):(p==q)=(q==p):=by rw[Bool.eq_iff_iff,beq_iff_eq,beq_iff_eq];exact eq_comm
theorem Stw.bool(W:Stw G F ρ ts σ s X O)(r:Bool):kB G F ρ ts σ (.bool r) (.bool r) s:=W.res (.bool r)
theorem yg(Sg:Stat G){a b:V}{r:Bool}{va vb:Value}(h:Ag σ a b=some r)(W:Stw G F ρ ts σ s X O)(ra:Rp G X va a)(rb:Rp G X vb b):Ri G F A ρ ts σ s va vb r:=by
 refine Au (M:=fun a b r=>Rp G X va a→Rp G X vb b→Ri G F A ρ ts σ s va vb r) h ?_ ?_ ?_ ra rb
 ·refine fun x i a b ra rb=>ra.on fun t=>rb.on fun p vs h1 h2 _=>?_
  have k:=IsTup.up W.inv.sub h1
  have q:(∀y,y∈vs→SeqAt.EqAt A.in1 s y (.str x t) (y.isStr x))∧(vs.any fun y=>y.isStr x)=(x==a||x==b):=by
   have:(∀y,y∈vs.toList→SeqAt.EqAt A.in1 s y (.str x t) (y.isStr x))∧(vs.toList.any fun y=>y.isStr x)=(x==a||x==b):=
    h2.two (M:=fun l=>(∀y,y∈l→SeqAt.EqAt A.in1 s y (.str x t) (y.isStr x))∧(l.any fun y=>y.isStr x)=(x==a||x==b)) fun v u r1 r2=>r1.on fun t1=>r2.on fun t2=>
     ⟨fun y hy=>(List.mem_cons.mp hy).elim (fun e=>e▸SeqAt.EqAt.str_str _ _ _ _) fun hy=>(List.mem_cons.mp hy).elim (fun e=>e▸SeqAt.EqAt.str_str _ _ _ _) fun z=>absurd z List.not_mem_nil,
      by rw[List.any_cons,List.any_cons,List.any_nil,Bool.or_false,qS x a,qS x b];rfl⟩
   exact⟨fun y hy=>this.1 y (Array.mem_toList_iff.mpr hy),Array.any_toList.symm.trans this.2⟩
  exact⟨SeqAt.in_tupleAt _ k q.1 (by refine eR q.2 ?_;exact W.bool _),SeqAt.notIn_tupleAt _ k q.1 (by refine eR q.2 ?_;exact W.bool _)⟩
 ·exact fun x t ra rb=>ra.on fun _=>rb.on fun _=>⟨P.in_str (W.bool _),P.notIn_str (W.bool _)⟩
 ·refine fun x d es e ra rb=>ra.on fun t=>W.dict Sg e rb fun a kvs hn hd hk=>?_
  have q:=hk.anyk (k:=x)
  exact⟨wpAny_in_of (strKind_is _ _ x t) hn hd.mapOf (by refine eR q ?_;exact(W.bool _).tok (Nat.succ_pos _)),wpAny_notIn_of (strKind_is _ _ x t) hn hd.mapOf (by refine eR q ?_;exact(W.bool _).tok (Nat.succ_pos _))⟩
theorem um(Sg:Stat G){op:CmpOp}{a b:V}{r:Bool}{va vb:Value}(h:gn σ op a b=some r)(R:Room n A)(S:St G F ρ (val G vb b::val G va a::ts) σ s):bC G A (compareOp op va vb) (kB G F ρ ts σ (.bool r)) s:=by
 refine S.two fun X O W ra rb=>?_
 have B:=W.bool
 induction op using CmpOp.casesOn with
 |Eq=>exact(yk h R.un W.inv.sub ra rb).e _ _ _ _ (B _)
 |NotEq=>exact pI h fun r' h e=>e▸(yk h R.un W.inv.sub ra rb).n _ _ _ _ (B _)
 |Is=>exact cB (yo h ra rb) fun h1 h2=>wpAny_is_plain h1 (h2▸B _)
 |IsNot=>exact pI h fun r' h e=>cB (yo h ra rb) fun h1 h2=>wpAny_isNot_plain h1 (e▸h2▸B _)
 |In=>exact(yg Sg h W ra rb).e
 |NotIn=>exact pI h fun r' h e=>e▸(yg Sg h W ra rb).n
 |Lt=>exact ma (M:=fun a=>Rp G X va a→_) h (fun i h ra=>ma (M:=fun b=>Rp G X vb b→_) h (fun j h rb=>by refine oE h ?_;exact ra.on fun _=>rb.on fun _=>PyProof.Rows.lt_int (B _)) rb) ra
 |Gt=>exact ma (M:=fun a=>Rp G X va a→_) h (fun i h ra=>ma (M:=fun b=>Rp G X vb b→_) h (fun j h rb=>by refine oE h ?_;exact ra.on fun _=>rb.on fun _=>PyProof.Rows.gt_int (B _)) rb) ra
 |GtE=>exact ma (M:=fun a=>Rp G X va a→_) h (fun i h ra=>ma (M:=fun b=>Rp G X vb b→_) h (fun j h rb=>by refine oE h ?_;exact ra.on fun _=>rb.on fun _=>PyProof.Rows.ge_int (B _)) rb) ra
 |_=>injection h
end
end Mine
namespace Mine
open PySem PySem.W PyProof.Rows
section
variable {G:Cfg}{F:Frm}{n:Nat}{κ:bf}{ρ ρ':ay}{ts:List Tmp}{σ σ' σ1 σ2:Store}{s:Shared}{A:Around}{X:VW}{O:OM}
noncomputable def q8(G:Cfg)(F:Frm)(n:Nat)(es:List PySem.Expr)(ρ:ay)(σ:Store)(ds:List V)(σ':Store):Prop:=
 ∀A ts s pos,Room n A→St G F ρ ts σ s→bC G A (spliced (backTo pos (starEach es F.env))) (fun vs s'=>St G F ρ (vals G vs ds::ts) σ' s') s
theorem eX:q8 G F n [] ρ σ [] σ:=fun _ _ _ _ _ S=>spliced_none (S.add fun _ _ _=>.nil)
theorem dr{e:PySem.Expr}{r:List PySem.Expr}{d:V}{ds:List V}(ho:OkX e)(h1:Ex G F n (eval e F.env) ρ σ d σ1)(h2:q8 G F n r ρ σ1 ds σ2):q8 G F n (e::r) ρ σ (d::ds) σ2:=
 fun A ts s pos R S=>spliced_more (ad (h1 A ts s R S) fun v s1 S1=>ad (h2 A _ s1 pos R S1) fun vs s2 S2=>S2.sub fun X O t=>⟨fun Y le=>.cons (t.2.1 Y le) (t.1 Y le),t.2.2⟩) (ho.star r F.env)
theorem St.len{vs:List Value}{l:List V}(S:St G F ρ (vals G vs l::ts) σ s):vs.length=l.length:=S.on fun X O W=>(W.tm.1 X (.refl X)).n
theorem mM{es:List PySem.Expr}{ds:List V}{p:Pos}(h:q8 G F n es ρ σ ds σ')(hl:ds.length≤100):Ex G F n (eval (.List es p) F.env) ρ σ (.lst ds) σ':=
 fun A ts s R S=>List_ (ad (h A ts s p R S) fun vs s1 S1=>wpAny_newList (S1.newlist (vs:=vs.toArray) (fun X O t=>t.1 X (.refl X)) S1.tk).pop2 (by refine eR S1.len ?_;exact Nat.le_trans hl (by decide)))
theorem vH{es:List PySem.Expr}{ds:List V}{k:Nat}{p:Pos}(h:q8 G F n es ρ σ ds σ')(hl:ds.length≤100):Ex G F n (eval (.Tuple es k p) F.env) ρ σ (.tup none ds) σ':=
 fun A ts s R S=>Tuple_ (ad (h A ts s p R S) fun vs s1 S1=>wpAny_newTuple (S1.newtup (vs:=vs.toArray) (fun X O t=>t.1 X (.refl X)) S1.tk).pop2 (by refine eR S1.len ?_;exact Nat.le_trans hl (by decide)))
theorem uL{es:List PySem.Expr}{ds:List V}{p:Pos}(h:q8 G F n es ρ σ ds σ')(hl:ds.length≤100):Ex G F n (eval (.List es p) F.env) ρ σ (.loc σ'.cells.length) (σ'.push (.list ds)):=
 fun A ts s R S=>List_ (ad (h A ts s p R S) fun vs s1 S1=>wpAny_newList (S1.newcell (.list ds) (bc _ _) S1.tk (bR _) fun Y O t=>dA vs.toArray 0 (Heap.get?_push_size _ rfl) (t.1 Y (.refl Y))).pop2 (by refine eR S1.len ?_;exact Nat.le_trans hl (by decide)))
theorem xz{es:List PySem.Expr}{ds:List V}{k:Nat}{p:Pos}(h:q8 G F n es ρ σ ds σ')(hl:ds.length≤100):Ex G F n (eval (.Tuple es k p) F.env) ρ σ (.tup (some σ'.nid) ds) ⟨σ'.cells,σ'.nid+1⟩:=
 fun A ts s R S=>Tuple_ (ad (h A ts s p R S) fun vs s1 S1=>wpAny_newTuple (S1.newid (bc _ _) S1.tk (bR _) ⟨_,Heap.get?_push_size _ rfl,rfl,0,rfl⟩ fun Y O t=>t.1 Y (.refl Y)).pop2 (by refine eR S1.len ?_;exact Nat.le_trans hl (by decide)))
noncomputable def Bo(G:Cfg)(F:Frm)(n:Nat)(x:PySem.Expr)(ρ:ay)(σ:Store)(b:Bool)(σ':Store):Prop:=
 ∀A ts s,Room n A→St G F ρ ts σ s→bC G A (isTrue x F.env (eval x F.env)) (fun c s'=>c=b∧St G F ρ ts σ' s') s
structure ExB(G:Cfg)(F:Frm)(n:Nat)(x:PySem.Expr)(ρ:ay)(σ:Store)(d:V)(σ':Store):Prop where
 v:Ex G F n (eval x F.env) ρ σ d σ'
 t:∀b,d=.bool b→Bo G F n x ρ σ b σ'
theorem St.tru{v:Value}{b:Bool}(S:St G F ρ (val G v (.bool b)::ts) σ s){Q:Bool→Shared→Prop}(q:St G F ρ ts σ s→Q b s):bC G A (truthy v) Q s:=
 S.one fun X O W r=>r.on (wpAny_truthy_bool (q W.st))
theorem iJ{x:PySem.Expr}{d:V}(h:Ex G F n (eval x F.env) ρ σ d σ')(ht:∀(env:Env)(jj:Sem Value),isTrue x env jj=(do let v←jj;standAt x.pos;holding [v] (truthy v))):ExB G F n x ρ σ d σ':=
 ⟨h,fun b e A ts s R S=>isTrue_plain (ad (h A ts s R S) fun v s1 S1=>(e▸S1:St G F ρ (val G v (.bool b)::ts) σ' s1).tru fun S=>⟨rfl,S⟩) (ht F.env _)⟩
theorem wG{x:PySem.Expr}{b:Bool}{p:Pos}(h:ExB G F n x ρ σ (.bool b) σ'):ExB G F n (.UnaryOp .Not x p) ρ σ (.bool (!b)) σ':=
 ⟨fun A ts s R S=>UnaryOp_ (ad (h.v A ts s R S) fun v s1 S1=>not_of (S1.tru fun S=>S.v fun _=>.bool _)),
  fun c e A ts s R S=>isTrue_not (ad (h.t b rfl A ts s R S) fun c' s1 w9=>cB w9 fun e1 S1=>⟨by injection e with z1;subst z1;rw[e1],S1⟩)⟩
theorem wN{x:PySem.Expr}{i:Int}{p:Pos}(h:Ex G F n (eval x F.env) ρ σ (.int i) σ'):ExB G F n (.UnaryOp .USub x p) ρ σ (.int (-i)) σ':=
 iJ (fun A ts s R S=>UnaryOp_ (ad (h A ts s R S) fun v s1 S1=>S1.one fun X O W r=>r.on fun t=>PyProof.Rows.neg_int ((W.st.tok (Nat.succ_pos _)).v fun _=>.int _ _ W.inv.tk))) fun _ _=>rfl
theorem xX{t b o:PySem.Expr}{c:Bool}{d:V}{p:Pos}(h1:Bo G F n t ρ σ c σ1)(h2:match c with|true=>ExB G F n b ρ σ1 d σ2|false=>ExB G F n o ρ σ1 d σ2):ExB G F n (.IfExp t b o p) ρ σ d σ2:=
 ⟨fun A ts s R S=>IfExp_ (ad (h1 A ts s R S) fun v s1 ⟨e,S1⟩=>by subst e;induction v using Bool.casesOn<;>exact h2.v A ts s1 R S1),
  fun k e A ts s R S=>isTrue_IfExp (ad (h1 A ts s R S) fun v s1 w9=>cB w9 fun e1 S1=>by clear p s S w9;subst e1;induction v using Bool.casesOn<;>exact h2.t k e A ts s1 R S1)⟩
theorem xq{op:Operator}{l r:PySem.Expr}{a b d:V}{p:Pos}(h1:Ex G F n (eval l F.env) ρ σ a σ1)(h2:Ex G F n (eval r F.env) ρ σ1 b σ2)(h:gA σ2 op a b=some d):ExB G F n (.BinOp l op r p) ρ σ d σ2:=
 iJ (fun A ts s R S=>wpAny_BinOp (ad (h1 A ts s R S) fun va s1 S1=>ad (h2 A _ s1 R S1) fun vb s2 S2=>yt h S2)) fun _ _=>rfl
theorem mA(Sg:Stat G){op:CmpOp}{l r:PySem.Expr}{a b:V}{c:Bool}{p:Pos}(ho:OkX r)(h1:Ex G F n (eval l F.env) ρ σ a σ1)(h2:Ex G F n (eval r F.env) ρ σ1 b σ2)(h:gn σ2 op a b=some c):ExB G F n (.Compare l [op] [r] p) ρ σ (.bool c) σ2:=
 ⟨fun A ts s R S=>wpAny_Compare1 (ad (h1 A ts s R S) fun va s1 S1=>ad (h2 A _ s1 R S1) fun vb s2 S2=>um Sg h R S2) (ho.mark op),
  fun k e A ts s R S=>wpAny_isTrue_Compare1 (ad (h1 A ts s R S) fun va s1 S1=>ad (h2 A _ s1 R S1) fun vb s2 S2=>ad (um Sg h R S2) fun v s3 S3=>S3.tru fun S=>⟨by injection e,S⟩) (ho.mark op)⟩
theorem wH{op:BoolOp}{x:PySem.Expr}{d:V}{p:Pos}(h:ExB G F n x ρ σ d σ'):ExB G F n (.BoolOp op [x] p) ρ σ d σ':=by
 refine⟨fun A ts s R S=>BoolOp_one (h.v A ts s R S),fun b e A ts s R S=>?_⟩
 induction op using BoolOp.casesOn with
 |And=>exact isTrue_and (ad (h.t b e A ts s R S) fun c s1 ⟨e,S1⟩=>by subst e;induction c using Bool.casesOn;exact⟨rfl,S1⟩;exact isTrue_and_nil ⟨rfl,S1⟩)
 |Or=>exact isTrue_or (ad (h.t b e A ts s R S) fun c s1 ⟨e,S1⟩=>by subst e;induction c using Bool.casesOn;exact isTrue_or_nil ⟨rfl,S1⟩;exact⟨rfl,S1⟩)
theorem n0{x y:PySem.Expr}{r:List PySem.Expr}{p:Pos}{op:BoolOp}{b:Bool}(hb:b=match op with|.And=>false|.Or=>true)(h:ExB G F n x ρ σ (.bool b) σ1):ExB G F n (.BoolOp op (x::y::r) p) ρ σ (.bool b) σ1:=by
 subst hb
 induction op using BoolOp.casesOn with
 |And=>exact⟨fun A ts s R S=>BoolOp_and (ad (h.v A ts s R S) fun v s1 S1=>S1.one fun X O W r=>r.on (wpAny_truthy_bool (W.res (.bool _)))),fun k e A ts s R S=>isTrue_and (ad (h.t _ rfl A ts s R S) fun c s1 w9=>cB w9 fun e1 S1=>by subst e1;injection e with z1;subst z1;exact⟨rfl,S1⟩)⟩
 |Or=>exact⟨fun A ts s R S=>BoolOp_or (ad (h.v A ts s R S) fun v s1 S1=>S1.one fun X O W r=>r.on (wpAny_truthy_bool (W.res (.bool _)))),fun k e A ts s R S=>isTrue_or (ad (h.t _ rfl A ts s R S) fun c s1 w9=>cB w9 fun e1 S1=>by subst e1;injection e with z1;subst z1;exact⟨rfl,S1⟩)⟩
theorem vV{x y:PySem.Expr}{r:List PySem.Expr}{p:Pos}{op:BoolOp}{b:Bool}{d:V}(hb:b=match op with|.And=>true|.Or=>false)(h:ExB G F n x ρ σ (.bool b) σ1)(h2:ExB G F n (.BoolOp op (y::r) p) ρ σ1 d σ2):ExB G F n (.BoolOp op (x::y::r) p) ρ σ d σ2:=by
 subst hb
 induction op using BoolOp.casesOn with
 |And=>exact⟨fun A ts s R S=>BoolOp_and (ad (h.v A ts s R S) fun v s1 S1=>S1.one fun X O W r=>r.on (wpAny_truthy_bool (h2.v A ts s1 R W.st))),fun k e A ts s R S=>isTrue_and (ad (h.t _ rfl A ts s R S) fun c s1 w9=>cB w9 fun e1 S1=>by subst e1;exact h2.t k e A ts s1 R S1)⟩
 |Or=>exact⟨fun A ts s R S=>BoolOp_or (ad (h.v A ts s R S) fun v s1 S1=>S1.one fun X O W r=>r.on (wpAny_truthy_bool (h2.v A ts s1 R W.st))),fun k e A ts s R S=>isTrue_or (ad (h.t _ rfl A ts s R S) fun c s1 w9=>cB w9 fun e1 S1=>by subst e1;exact h2.t k e A ts s1 R S1)⟩
theorem Rp.int_one{i j:Int}{t:Tok}(h:Rp G X (.int i t) (.int j)):i=j:=
 h.on (M:=fun v=>v=.int i t→i=j) (fun _ e=>(Value.int.inj e).1.symm) rfl
theorem Rp.str_one{i j:Str}{t:Tok}(h:Rp G X (.str i t) (.str j)):i=j:=
 h.on (M:=fun v=>v=.str i t→i=j) (fun _ e=>(Value.str.inj e).1.symm) rfl
theorem Rp.int_str{i:Int}{j:Str}{t:Tok}(h:Rp G X (.int i t) (.str j)):False:=
 h.on (M:=fun v=>v=.int i t→False) (fun _ e=>nomatch e) rfl
theorem Rp.str_int{i:Int}{j:Str}{t:Tok}(h:Rp G X (.str j t) (.int i)):False:=
 h.on (M:=fun v=>v=.str j t→False) (fun _ e=>nomatch e) rfl
theorem rX{v:Value}{a b:V}{k:Bool}(ra:Rp G X v a)(rb:Rp G X v b)(h:bJ a b=some k):k=true:=
 d9 (M:=fun a b k=>Rp G X v a→Rp G X v b→k=true) h (fun i j ra=>ra.on fun t rb=>by refine eR rb.int_one ?_;exact beq_self_eq_true _) (fun i j ra=>ra.on fun t rb=>rb.int_str.elim) (fun i j ra=>ra.on fun t rb=>rb.str_int.elim) (fun i j ra=>ra.on fun t rb=>by refine eR rb.str_one ?_;exact beq_self_eq_true _) ra rb
theorem tA{vs:List Value}{a b:List V}{k:Bool}(ra:RpL G X vs a)(rb:RpL G X vs b)(h:dZ a b=some k):k=true:=by
 induction a generalizing vs b k with
 |nil=>cases ra.nil_inv;induction b using List.casesOn with
  |nil=>refine oE h ?_;rfl
  |cons _ _=>exact nomatch rb.n
 |cons x a ih=>induction b using List.casesOn with
  |nil=>cases rb.nil_inv;exact nomatch ra.n
  |cons y b=>
   refine ob h fun p e1 h=>ob h fun q e2 h=>ra.con (M:=fun vs=>RpL G X vs (y::b)→k=true) (fun u us r1 r2 rb=>?_) rb
   refine oE h ?_
   refine eR (rX r1 rb.uncons.1 e1) ?_;refine eR (ih r2 rb.uncons.2 e2) ?_;rfl
theorem vn{v:Value}{a b c:V}{k k':Bool}(ra:Rp G X v a)(rb:Rp G X v b)(h:bJ a c=some k)(h':bJ b c=some k'):k=k':=by
 refine d9 (M:=fun a c k=>∀k' b,Rp G X v a→Rp G X v b→bJ b c=some k'→k=k') h ?_ ?_ ?_ ?_ k' b ra rb h'
 ·exact fun i j k' b ra rb h'=>d9 (M:=fun b c k'=>∀i j,Rp G X v (.int i)→Rp G X v b→c=.int j→(i==j)=k') h' (fun i' j' i j ra=>ra.on fun t rb e=>by injection e with z1;subst z1;rw[rb.int_one]) (fun _ _ i j ra rb e=>nomatch e) (fun _ _ i j ra=>ra.on fun t rb=>rb.int_str.elim) (fun _ _ i j ra rb e=>nomatch e) i j ra rb rfl
 ·exact fun i j k' b ra rb h'=>d9 (M:=fun b c k'=>∀i j,Rp G X v (.int i)→Rp G X v b→c=.str j→false=k') h' (fun i' j' i j ra rb e=>nomatch e) (fun _ _ i j ra rb e=>rfl) (fun _ _ i j ra rb e=>rfl) (fun _ _ i j ra=>ra.on fun t rb=>rb.int_str.elim) i j ra rb rfl
 ·exact fun i j k' b ra rb h'=>d9 (M:=fun b c k'=>∀i j,Rp G X v (.str i)→Rp G X v b→c=.int j→false=k') h' (fun _ _ i j ra=>ra.on fun t rb=>rb.str_int.elim) (fun _ _ i j ra rb e=>rfl) (fun _ _ i j ra rb e=>rfl) (fun _ _ i j ra rb e=>nomatch e) i j ra rb rfl
 ·exact fun i j k' b ra rb h'=>d9 (M:=fun b c k'=>∀i j,Rp G X v (.str i)→Rp G X v b→c=.str j→(i==j)=k') h' (fun _ _ i j ra rb e=>nomatch e) (fun _ _ i j ra=>ra.on fun t rb=>rb.str_int.elim) (fun _ _ i j ra rb e=>nomatch e) (fun i' j' i j ra=>ra.on fun t rb e=>by injection e with z1;subst z1;rw[rb.str_one]) i j ra rb rfl
theorem wM{vs:List Value}{a b c:List V}{k k':Bool}(ra:RpL G X vs a)(rb:RpL G X vs b)(h:dZ a c=some k)(h':dZ b c=some k'):k=k':=by
 induction a generalizing vs b c k k' with
 |nil=>cases ra.nil_inv;induction b using List.casesOn with
  |nil=>rw[h]at h';exact Option.some.inj h'
  |cons _ _=>exact nomatch rb.n
 |cons x a ih=>induction b using List.casesOn with
  |nil=>cases rb.nil_inv;exact nomatch ra.n
  |cons y b=>induction c using List.casesOn with
   |nil=>refine oE h ?_;refine oE h' ?_;rfl
   |cons z c=>
    refine ob h fun p e1 h=>ob h fun q e2 h=>ob h' fun p' e3 h'=>ob h' fun q' e4 h'=>ra.con (M:=fun vs=>RpL G X vs (y::b)→k=k') (fun u us r1 r2 rb=>?_) rb
    refine oE h ?_;refine oE h' ?_
    rw[vn r1 rb.uncons.1 e1 e3,ih r2 rb.uncons.2 e2 e4]
theorem pN{i:Option Nat}{l:List V}{y:V}{r:List V}{b:Bool}(h:fo (.tup i l) (y::r)=some b){C:Prop}(k:∀j m c b',y=.tup j m→dZ m l=some c→fo (.tup i l) r=some b'→b=(c||b')→C):C:=by
 induction y using V.casesOn with
 |tup j m=>exact ob h fun c e1 h=>ob h fun b' e2 h=>by injection h with z1;subst z1;exact k j m c b' rfl e1 e2 rfl
 |_=>exact nE h
open Classical in
theorem y8{i:Option Nat}{l L:List V}{b:Bool}{v:Value}{a:Addr}{vs:Array Value}(h:fo (.tup i l) L=some b)(R:Room n A)(W:Stw G F ρ ts σ s X O)(rv:Rp G X v (.tup i l))(hl:s.heap.IsList a vs)(rl:RpL G X vs.toList L):
  bC G A (compareOp .NotIn v (.ref a)) (kB G F ρ ts σ (.bool (!b))) s:=by
 refine rv.on fun x us tx rx _=>?_
 have sub:=W.inv.sub
 let e:Value→Bool:=fun y=>decide (∃j m,Rp G X y (.tup j m)∧dZ m l=some true)
 have he:∀y j m c,Rp G X y (.tup j m)→dZ m l=some c→e y=c:=by
  intro y j m c r q
  cases c with
  |true=>exact decide_eq_true ⟨j,m,r,q⟩
  |false=>
   refine decide_eq_false fun⟨j',m',r',q'⟩=>?_
   revert r'
   refine r.on fun p ws t1 r1 _ r'=>?_
   cases r' with
   |tup t2 n2 r2 _=>
    obtain⟨o,g1,_,k,d1⟩:=t1
    obtain⟨o',g2,_,k',d2⟩:=t2
    rw[g1]at g2;cases g2
    rw[d1]at d2;cases d2
    exact Bool.noConfusion (wM r1 ⟨n2,r2⟩ q q')
 have key:∀{L:List V}{vs:List Value}{b:Bool},RpL G X vs L→fo (.tup i l) L=some b→(∀y∈vs,SeqAt.EqAt A.in1 s y (.ref x) (e y))∧vs.any e=b:=by
  intro L
  induction L with
  |nil=>intro vs b r h;cases r.nil_inv;refine oE h ?_;exact⟨fun _ z=>(nomatch z),rfl⟩
  |cons d L ih=>
   intro vs b r h
   refine pN h fun j m c b' e1 e2 e3 e4=>?_
   subst e1 e4
   refine r.con fun u vs r1 r2=>?_
   obtain⟨i1,i2⟩:=ih r2 e3
   refine⟨fun y hy=>(List.mem_cons.mp hy).elim (fun q=>?_) (i1 y),by rw[List.any_cons,he _ _ _ _ r1 e2,i2]⟩
   subst q
   rw[he _ _ _ _ r1 e2]
   refine r1.on fun p ws t1 q1 _=>?_
   by_cases hp:p=x
   ·subst hp
    obtain⟨o,g1,_,k1,d1⟩:=t1
    obtain⟨o',g2,_,k2,d2⟩:=tx
    rw[g1]at g2;cases g2
    rw[d1]at d2;cases d2
    rw[tA q1 rx e2]
    exact SeqAt.EqAt.same _
   ·refine SeqAt.EqAt.of_refs hp ?_
    obtain⟨f,h1,h2⟩:=oM (A:=A.in1.in1) (s:=s) e2 q1 rx
    have h1:∀j (a:j<ws.size)(b:j<us.size),SeqAt.EqAt A.in1.in1 s ws[j] us[j] (f j):=h1
    have h2:((List.range (min ws.size us.size)).all f&&ws.size==us.size)=c:=h2
    exact h2▸SeqAt.RcAt.tuples (IsTup.up sub t1) (IsTup.up sub tx) (Nat.lt_of_le_of_lt (Nat.add_le_add_left (Nat.le_add_left 1 (8*n+39)) _) R.u) h1
 obtain⟨k1,k2⟩:=key rl h
 exact SeqAt.notIn_listAt (prog:=G.prog) (w:=G.w) (A:=A) (s:=s) (x:=.ref x) (Q:=kB G F ρ ts σ (.bool (!b))) (E:=fun _ _=>False) e hl (fun y hy=>k1 y (Array.mem_toList_iff.mpr hy)) (by rw[←Array.any_toList,k2];exact W.bool _)
end
end Mine
namespace Mine
open PySem PySem.W PyProof.Rows
structure KMeth(G:Cfg)(C m f:Nat):Prop where
 a:findIn G.K (.ref C) "__getattribute__"=some (some (.builtin "object.__getattribute__"))
 b:findIn G.K (.ref C) "__getattr__"=some none
 c:findIn G.K (.ref C) (nm m)=some (some (.ref f))
 d:typeIn G.K (.ref f)=some (.type "function")
 e:keepIn G.K (.ref f)=true
structure KCls(G:Cfg)(C:Nat):Prop where
 a:plainGet G.K C "__class__"=true
 b:hasDictIn G.K C=true
 c:findIn G.K (.ref C) "__class__"=some (some (.builtin "object.__class__"))
 d:mroIn G.K C (.type "object")=some true
 e:(af.inits C).isSome
structure KFacts(G:Cfg):Prop where
 meth:∀C m f,af.mth C m=some f→KMeth G C m f
 k1:specialIn G.K (.builtin "object.__class__") "__get__"=some (some (.builtin "getset_descriptor.__get__"))
 k2:takesIn G.K (.builtin "object.__class__")=some true
 cls:∀C,af.cls C=true→KCls G C
 isa:∀C D,af.cls C=true→af.cls D=true→kitOne G.K (.ref C) (.ref D)=some (D==C)
 keepF:∀f fi,af.fns f=some fi→keepIn G.K (.ref f)=true
 keepC:∀C i,af.inits C=some i→keepIn G.K (.ref C)=true
noncomputable def iC(G:Cfg)(n:Nat)(f:Value)(vs:List V)(σ:Store)(d:V)(σ':Store):Prop:=
 ∀F ρ A ts s us,Room n A→St G F ρ (vals G us vs::ts) σ s→bC G A (call f us) (kB G F ρ ts σ' d) s
structure CallsOk(G:Cfg)(n:Nat)(c:Calls):Prop where
 fn:∀f vs σ d σ',c.fn f vs σ=some (d,σ')→(∃fi,af.fns f=some fi)∧iC G n (.ref f) vs σ d σ'
 new:∀C vs σ d σ',c.new C vs σ=some (d,σ')→(∃i,af.inits C=some i)∧iC G n (.ref C) vs σ d σ'
abbrev j0(xs:List PySem.Expr):Prop:=∀x∈xs,OkX x
theorem g9(es:Es):∀l,j0 (f7 es l):=by
 induction es using Es.rec (motive_1:=fun _=>True) (motive_3:=fun _=>True)with
 |nil=>exact fun l x h=>nomatch h
 |cons e r _ ih=>exact fun l x h=>(List.mem_cons.mp h).elim (fun q=>q▸bx e _) (ih l.tail x)
 |_=>trivial
theorem fB(env:Env)(pos:Pos){xs:List PySem.Expr}(h:j0 xs):((backTo pos (starEach xs env)).any (·.1))=false:=by
 induction xs with
 |nil=>rfl
 |cons x r ih=>rw[(h x List.mem_cons_self).star];exact ih fun y hy=>h y (List.mem_cons_of_mem _ hy)
theorem kP(env:Env)(pos:Pos){xs:List PySem.Expr}(h:j0 xs):((backTo pos (starEach xs env)).all (!·.1))=true:=by
 have:=fB env pos h
 rw[List.any_eq_not_all_not,Bool.not_eq_false']at this;exact this
theorem jZ{G:Cfg}{f:Value}(h:keeperOf f=pure Keeper.machine):∀h',G.K.In h'→∃k,(k=Keeper.frame∨k=Keeper.machine∨k=Keeper.boundFrame)∧Looks (model G.prog G.w) h' (keeperOf f) k:=
 fun _ _=>bi .machine (.inr (.inl rfl)) (Looks.of_pure h)
noncomputable def tF:Blt→Value
 |.len=>.builtin "len"|.sorted=>.builtin "sorted"|.str=>.type "str"|.int=>.type "int"|.max=>.builtin "max"|.min=>.builtin "min"
theorem qW:∀b:Blt,(m9 b,tF b)∈ny
 |.len=>List.mem_of_getElem? (i:=0) rfl
 |.sorted=>List.mem_of_getElem? (i:=1) rfl
 |.str=>List.mem_of_getElem? (i:=2) rfl
 |.int=>List.mem_of_getElem? (i:=3) rfl
 |.max=>List.mem_of_getElem? (i:=4) rfl
 |.min=>List.mem_of_getElem? (i:=5) rfl
theorem nJ{G:Cfg}(b:Blt):∀h',G.K.In h'→∃k,(k=Keeper.frame∨k=Keeper.machine∨k=Keeper.boundFrame)∧Looks (model G.prog G.w) h' (keeperOf (tF b)) k:=by induction b using Blt.casesOn<;>exact jZ rfl
section
variable {G:Cfg}{F:Frm}{n:Nat}{κ:bf}{ρ ρ':ay}{ts:List Tmp}{σ σ' σ1 σ2:Store}{s:Shared}{A:Around}{X:VW}{O:OM}
theorem cq(Sg:Stat G){f:Value}{first:List Value}{xs:List PySem.Expr}{ds:List V}{pos:Pos}{Q:Value→Shared→Prop}(R:Room n A)(S:St G F ρ ts σ s)
  (hk:∀h,G.K.In h→∃k,(k=Keeper.frame∨k=Keeper.machine∨k=Keeper.boundFrame)∧Looks (model G.prog G.w) h (keeperOf f) k) (ho:j0 xs) (h0:xs=[]→ds=[]∧σ1=σ) (hx:q8 G F n xs ρ σ ds σ1)
  (q:∀vs s',St G F ρ (vals G vs ds::ts) σ1 s'→bC G A (call f (first++vs)) Q s'):bC G A (callWith pos f first (backTo pos (starEach xs F.env)) []) Q s:=by
 refine callWith_of (P:=G.K.In) (by refine eR (fB F.env pos ho) ?_;rfl) hk ?_
 have key:=hx A ts s pos R S
 induction xs using List.casesOn with
 |nil=>
  obtain⟨e1,e2⟩:=h0 rfl
  clear R hk ho h0 hx key;subst e1 e2
  exact evalArgs_nil3 ⟨S.kin Sg,q [] s (S.add fun _ _ _=>.nil)⟩
 |cons x r=>
  rw[(ho x List.mem_cons_self).star]at key ⊢
  exact Calls.evalArgs_plain (ad key fun vs s' S'=>⟨S'.kin Sg,q vs s' S'⟩)
theorem kJ(Sg:Stat G){f:Value}{xs:List PySem.Expr}{ds:List V}{d:V}{pos:Pos}(R:Room n A)(S:St G F ρ ts σ s)(hk:keepIn G.K f=true)(ho:j0 xs)(h0:xs=[]→ds=[]∧σ1=σ)(hx:q8 G F n xs ρ σ ds σ1)(hc:iC G n f ds σ1 d σ2):
  bC G A (callWith pos f [] (backTo pos (starEach xs F.env)) []) (kB G F ρ ts σ2 d) s:=
 cq Sg R S (keeps_K hk) ho h0 hx fun vs s' S'=>hc F ρ A ts s' _ R S'
theorem xt{c:Calls}(Sg:Stat G)(K:FOk κ F.env)(Kf:KFacts G)(cok:CallsOk G n c){f:Nat}{xs:List PySem.Expr}{p pos:Pos}{ds:List V}{d:V}(hg:aX κ (fx f)=true)(hne:fx f≠("":Str))(ho:j0 xs)(h0:xs=[]→ds=[]∧σ1=σ)
  (hx:q8 G F n xs ρ σ ds σ1) (h:c.fn f ds σ1=some (d,σ2)):Ex G F n (eval (.Call (.Name (fx f) p) xs [] pos) F.env) ρ σ d σ2:=fun A ts s R S=>
 let⟨⟨fi,hfi⟩,hc⟩:=cok.fn f ds σ1 d σ2 h
 wpAny_Call_NameR (fW K S hg (Sg.fnG f fi hfi hne) (kJ Sg R S (Kf.keepF f fi hfi) ho h0 hx hc))
theorem zL{c:Calls}(Sg:Stat G)(K:FOk κ F.env)(Kf:KFacts G)(cok:CallsOk G n c){f:Nat}{xs:List PySem.Expr}{p pos:Pos}{ds:List V}{d:V}(hg:aX κ (fx f)=true)(ho:j0 xs)(h0:xs=[]→ds=[]∧σ1=σ)
  (hx:q8 G F n xs ρ σ ds σ1) (h:c.new f ds σ1=some (d,σ2)):Ex G F n (eval (.Call (.Name (fx f) p) xs [] pos) F.env) ρ σ d σ2:=fun A ts s R S=>
 let⟨⟨fi,hfi⟩,hc⟩:=cok.new f ds σ1 d σ2 h
 wpAny_Call_NameR (fW K S hg (Sg.clsG f fi hfi) (kJ Sg R S (Kf.keepC f fi hfi) ho h0 hx hc))
theorem lH{ox:PySem.Expr}{name:Str}{apos pos:Pos}{xs:List PySem.Expr}(hb:∀t,attributeBase ox name F.env t=t)(hl:(apos.endLine==pos.line)=true)(ho:j0 xs)(hn:xs.length<20):
  eval (.Call (.Attribute ox name apos) xs [] pos) F.env=(do
   let ov←eval ox F.env
   standAt apos.atName
   let(f,first)←holding [ov] (getMethod ov name (do return (←importBound ox F.env).getD true))
   callWith pos f first (backTo pos (starEach xs F.env)) []):=by
 rw[arm_eval_Call,hb]
 have hm:methodCallForm (xs.length+([]:List Keyword).length) (backTo pos (starEach xs F.env)) (backToKw pos (keywordEach [] F.env))=true:=by
  unfold methodCallForm
  refine eR (kP F.env pos ho) ?_
  have e:backToKw pos (keywordEach [] F.env)=[]:=rfl
  refine eR e ?_
  exact decide_eq_true (Nat.lt_trans hn (by decide))
 have hp:∀few,methodCallPos few ox F.env apos pos=pure pos:=fun few=>by unfold methodCallPos;rw[hl,Bool.or_true];rfl
 unfold methodCall calleeOf
 rw[hm,hp]
 rfl
theorem w5{c:Calls}(Sg:Stat G)(Kf:KFacts G)(cok:CallsOk G n c){o:E}{ox:PySem.Expr}{m f C:Nat}{fs:List (Nat × V)}{xs:List PySem.Expr}{apos pos:Pos}{ds:List V}{d:V}(hb:vY o=true)(hl:(apos.endLine==pos.line)=true)(ho:j0 xs)(hn:xs.length<20)
  (h1:Ex G F n (eval (bD o ox) F.env) ρ σ (.inst C fs) σ1) (h0:xs=[]→ds=[]∧σ2=σ1) (hx:q8 G F n xs ρ σ1 ds σ2) (hf:fs.lookup m=none) (hm:af.mth C m=some f) (h:c.fn f (.inst C fs::ds) σ2=some (d,σ')):
  Ex G F n (eval (.Call (.Attribute (bD o ox) (nm m) apos) xs [] pos) F.env) ρ σ d σ':=by
 intro A ts s R S
 refine eR (lH (eL hb _ _ _) hl ho hn) ?_
 refine fA (ad (h1 A ts s R S) fun v s1 S1=>S1.one fun X O W r=>?_)
 have key:bC G A (callWith pos (.ref f) [v] (backTo pos (starEach xs F.env)) []) (kB G F ρ ts σ' d) s1:=
  cq Sg R S1 (keeps_K (Kf.meth C m f hm).e) ho h0 hx fun vs s' S'=>ad ((cok.fn f _ _ _ _ h).2 F ρ A ts s' _ R (S'.sub fun X O t=>⟨fun Y le=>.cons (t.2.1 Y le) (t.1 Y le),t.2.2⟩)) fun _ _ q=>q
 revert key
 refine r.on fun x dx es k g1 g2 rf key=>?_
 have q:=Kf.meth C m f hm
 exact wpAny_bind (wpAny_standAt (wpAny_bind (wpAny_holding (method_fn (W.st.kin Sg) (show InstAt s1.heap x (instObj C dx) C (some (dictOf es k))from⟨W.inv.sub _ _ g1,rfl,rfl,W.inv.sub _ _ g2⟩) q.a q.b q.c q.d (by show(getL _ es).map _=_;refine eR (((gW Sg.nm rf).2 hf).2) ?_;rfl) key))))
theorem gj(K:FOk κ F.env)(Sg:Stat G){x:Str}{f:Value}{p pos:Pos}{xs:List PySem.Expr}{Q:Value→Shared→Prop}(S:St G F ρ ts σ s)(hg:aX κ x=true)(hx:(x,f)∈ny)(h:bC G A (callWith pos f [] (backTo pos (starEach xs F.env)) []) Q s):bC G A (eval (.Call (.Name x p) xs [] pos) F.env) Q s:=
 wpAny_Call_NameR (xK K Sg S hg hx h)
theorem Gl.cls(Sg:Stat G)(Kf:KFacts G){C:Nat}(h:af.cls C=true):Gl G (fx C) (.ref C):=
 Exists.elim (Option.isSome_iff_exists.mp (Kf.cls C h).e) fun i hi=>
 Sg.clsG C i hi
theorem uc(K:FOk κ F.env)(Sg:Stat G)(Kf:KFacts G)(S:St G F ρ ts σ s){pos:Pos}{cl:List Nat}:∀{l:List PySem.Expr}{Q:List Value→Shared→Prop},(cl.all fun i=>aX κ (fx i))=true→cl.all af.cls=true→Q (cl.map Value.ref) s→bC G A (spliced (backTo pos (starEach (vR fx cl l) F.env))) Q s:=by
 induction cl with
 |nil=>exact fun _ _ q=>spliced_none q
 |cons C r ih=>
  intro l Q h hc q
  rw[List.all_cons]at h hc
  exact spliced_more (fW K S (ae h).1 (Gl.cls Sg Kf (ae hc).1) (ih (ae h).2 (ae hc).2 q))
theorem sN(Kf:KFacts G){D:Nat}(hD:af.cls D=true){cl:List Nat}(h:cl.all af.cls=true):kitAny G.K (.ref D) (cl.map Value.ref)=some (cl.contains D):=by
 induction cl with
 |nil=>rfl
 |cons C r ih=>
  replace h:=List.all_cons▸h
  show(match kitOne G.K (.ref D) (.ref C)with|some true=>some true|some false=>kitAny G.K (.ref D) (r.map Value.ref)|none=>none)=_
  rw[Kf.isa D C hD (ae h).1,List.contains_cons]
  by_cases q:C=D
  ·clear Kf hD ih h;subst q;rw[beq_self_eq_true];rfl
  ·rw[beq_eq_false_iff_ne.mpr q,beq_eq_false_iff_ne.mpr (Ne.symm q),Bool.false_or];exact(ih (ae h).2)
theorem qy(Kf:KFacts G){D:Nat}(hD:af.cls D=true){x:Addr}{ox od:Obj}:KitX G.K (.ref x) (.ref D) (fun h=>InstAt h x ox D (some od)):=
 let q:=Kf.cls D hD
 kitx_own q.a q.b q.c Kf.k1 Kf.k2 q.d
theorem ww(g:Nat→Str)(tg:List Nat)(y:PySem.Expr):OkX (eP g tg y):=by
 induction tg using List.casesOn with
 |nil=>exact⟨fun _ _=>rfl,fun _=>rfl,fun _ _=>rfl,fun _ _=>rfl⟩
 |cons a r=>induction r using List.casesOn<;>exact⟨fun _ _=>rfl,fun _=>rfl,fun _ _=>rfl,fun _ _=>rfl⟩
theorem yN(K:FOk κ F.env)(Sg:Stat G)(Kf:KFacts G){e:PySem.Expr}{y:PySem.Expr}{p pos:Pos}{D:Nat}{fs:List (Nat × V)}{cl:List Nat}(hg:aX κ ("isinstance":Str)=true)(ho:OkX e)(h1:Ex G F n (eval e F.env) ρ σ (.inst D fs) σ1)
  (hD:af.cls D=true) (hc:cl.all af.cls=true) (hl:cl.length<20) (hy:(cl.all fun i=>aX κ (fx i))=true):Ex G F n (eval (.Call (.Name ("isinstance":Str) p) [e,eP fx cl y] [] pos) F.env) ρ σ (.bool (cl.contains D)) σ1:=by
 intro A ts s R S
 refine gj K Sg S hg (f:=.builtin "isinstance") (List.mem_of_getElem? (i:=11) rfl) ?_
 have oy:=ww fx cl y
 refine callWith_of (P:=G.K.In) (by refine eR (fB (xs:=[e,eP fx cl y]) F.env pos fun x hx=>(List.mem_cons.mp hx).elim (fun q=>q▸ho) fun hx=>List.mem_singleton.mp hx▸oy) ?_;rfl) (jZ rfl) ?_
 rw[ho.star,oy.star]
 refine Calls.evalArgs_plain (Calls.spliced_cons (ad (h1 A ts s R S) fun v s1 S1=>S1.one fun X O W r=>r.on fun x dx es k g1 g2 rf=>Calls.spliced_cons ?_))
 have S1:=W.st
 have tup:∀kk q l,bC G A (eval (.Tuple (vR fx cl l) kk q) F.env) (fun v s=>bC G A (spliced (backTo pos (starEach [] F.env))) (fun vs s=>G.K.In s.heap∧bC G A (call (.builtin "isinstance") ([]++ .ref x::v::vs)) (kB G F ρ ts σ1 (.bool (cl.contains D))) s) s) s1:=fun kk q l=>
  Tuple_ (k:=kk) (uc K Sg Kf S1 hy hc (wpAny_newTuple (Calls.spliced_nil (by
   have S2:=S1.grow (h':=s1.heap.push {cls:=.type "tuple",data:=.seq (cl.map Value.ref).toArray}) (bc _ _) S1.tk
   have I:InstAt (s1.heap.push {cls:=.type "tuple",data:=.seq (cl.map Value.ref).toArray}) x (instObj D dx) D (some (dictOf es k)):=⟨bc _ _ _ _ (W.inv.sub _ _ g1),rfl,rfl,bc _ _ _ _ (W.inv.sub _ _ g2)⟩
   exact⟨S2.kin Sg,eA (s:={s1 with heap:=s1.heap.push {cls:=.type "tuple",data:=.seq (cl.map Value.ref).toArray}}) S1.tk (kia_tup (qy Kf hD) (S2.kin Sg) I (Heap.get?_push_size _ rfl) (sN Kf hD hc) (fun e=>nomatch e) fun tk ht=>(S2.tok ht).v fun _=>.bool _)⟩))
   (by rw[List.length_map];exact Nat.le_trans (Nat.le_of_lt hl) (by decide))))
 clear p hg ho h1 hl s R S oy rf;induction cl using List.casesOn with
 |nil=>exact tup (kn y) y.pos (dG y)
 |cons C r=>induction r using List.casesOn with
  |nil=>
   have hC:=(ae (hc)).1
   refine fW K S1 (ae (show(aX κ (fx C)&&true)=true from hy)).1 (Gl.cls Sg Kf hC) (Calls.spliced_nil ⟨S1.kin Sg,?_⟩)
   refine eA S1.tk (kia_one (qy Kf hD) (S1.kin Sg) (show InstAt s1.heap x (instObj D dx) D (some (dictOf es k))from⟨W.inv.sub _ _ g1,rfl,rfl,W.inv.sub _ _ g2⟩) (Kf.isa D C hD hC) (fun e=>nomatch e) fun tk ht=>?_)
   have:[C].contains D=(C==D):=(Bool.or_false _).trans (Bool.eq_iff_iff.mpr (by rw[beq_iff_eq,beq_iff_eq];exact eq_comm))
   refine this▸?_
   exact(S1.tok ht).v fun _=>.bool _
  |cons _ _=>exact tup (kn y) y.pos (dG y)
theorem zd{M:V→Nat→Prop}{x:V}{k:Nat}(h:y9 σ x=some k)(k1:∀x l,cX σ x=some l→M x l.length)(k2:∀s,M (.str s) s.length):M x k:=by
 induction x using V.casesOn with
 |lst l=>refine oE h ?_;exact k1 _ _ rfl
 |str s=>refine oE h ?_;exact k2 s
 |loc m=>
  have h:(match σ.cells[m]? with
   |some (.list l)=>some l.length
   |_=>Option.none)=some k:=h
  cases q:σ.cells[m]? with
  |none=>rw[q]at h;exact nE h
  |some c=>
   replace h:=q▸h
   induction c using Cell.casesOn with
   |list l=>refine oE h ?_;exact k1 _ _ (by unfold cX;dsimp only;rw[q])
   |_=>exact nE h
 |_=>exact nE h
theorem ud{M:Blt→List V→V→Store→Prop}{b:Blt}{vs:List V}{d:V}(h:pP b vs σ=some (d,σ'))(k1:∀x k,y9 σ x=some k→k≤bq→M .len [x] (.int k) σ)(k2:∀i,i.natAbs<10 ^ 60→M .str [.int i] (.str (Str.ofString (toString i))) σ)
  (k3:∀i,M .int [.int i] (.int i) σ) (k4:∀b:Bool,M .int [.bool b] (.int (if b then 1 else 0)) σ) (k5:∀es,es.length<64→M .sorted [.dcti es] (.lst ((iT (es.map (·.1))).map V.ki)) σ)
  (k6:∀i j,M .max [.int i,.int j] (.int (if j>i then j else i)) σ) (k7:∀i j,M .min [.int i,.int j] (.int (if j<i then j else i)) σ):M b vs d σ':=by
 induction vs using List.casesOn with
 |nil=>exact nE h
 |cons x r=>induction r using List.casesOn with
  |nil=>induction b using Blt.casesOn with
   |len=>exact ob (h) fun k e h=>bv h fun q h=>by refine pE h ?_;exact k1 x k e q
   |str=>induction x using V.casesOn with
    |int i=>exact bv (h) fun q h=>by refine pE h ?_;exact k2 i q
    |_=>exact nE h
   |int=>induction x using V.casesOn with
    |int i=>refine pE h ?_;exact k3 i
    |bool b=>refine pE h ?_;exact k4 b
    |_=>exact nE h
   |sorted=>induction x using V.casesOn with
    |dcti es=>exact bv (show(if es.length<64 then some (V.lst ((iT (es.map (·.1))).map V.ki),σ)else none)=some (d,σ')from h) fun q h=>by cases h;exact k5 es q
    |_=>exact nE h
   |_=>injection h
  |cons y q=>induction q using List.casesOn with
   |nil=>induction x using V.casesOn with
    |int i=>induction y using V.casesOn with
     |int j=>induction b using Blt.casesOn with
      |max=>refine pE h ?_;exact k6 i j
      |min=>refine pE h ?_;exact k7 i j
      |_=>exact nE h
     |_=>exact nE h
    |_=>cases h
   |cons _ _=>cases h
theorem pV{i:Int}(h:i.natAbs<10 ^ 60):i.natAbs.log2<1920:=by
 rcases Nat.eq_zero_or_pos i.natAbs with h0|hp
 ·refine eR h0 ?_;decide
 ·exact Nat.lt_trans ((Nat.log2_lt (Nat.ne_of_gt hp)).mpr (Nat.lt_of_lt_of_le h (show 10 ^ 60≤2 ^ 200 by decide))) (by decide)
theorem lD{k:Nat}(h:k≤bq):(k:Int)<2 ^ 63:=Int.lt_of_le_of_lt (Int.ofNat_le.mpr h) (by decide)
theorem St.onel{us:List Value}{l:List V}(S:St G F ρ (vals G us l::ts) σ s){C:Prop}(k:∀X O,Stw G F ρ ts σ s X O→RpL G X us l→C):C:=S.on fun X O W=>k X O ⟨W.le,W.kp,W.inv,W.loc,W.tm.2⟩ (W.tm.1 X (.refl X))
theorem yy{b:Blt}{us:List Value}{vs:List V}{d:V}(hb:b≠.sorted)(h:pP b vs σ=some (d,σ'))(R:Room n A)(S:St G F ρ (vals G us vs::ts) σ s):bC G A (call (tF b) us) (kB G F ρ ts σ' d) s:=by
 refine S.onel fun X O W r=>ud (M:=fun b vs d σ'=>b≠.sorted→RpL G X us vs→bC G A (call (tF b) us) (kB G F ρ ts σ' d) s) h ?_ ?_ ?_ ?_ ?_ ?_ ?_ hb r
 ·intro x k hk q _ r
  refine r.one fun v rv=>zd (M:=fun x k=>k≤bq→Rp G X v x→bC G A (call (tF .len) [v]) (kB G F ρ ts σ (.int k)) s) hk ?_ ?_ q rv
  ·refine fun x l e q rv=>W.list e rv fun a vs m g rl=>?_
   rw[←(show vs.size=l.length from Array.length_toList▸rl.n)]at q ⊢
   exact Calls.call_len_list (aO g) (lD q) ((W.st.tok (Nat.succ_pos _)).v fun _=>.int _ _ (Nat.succ_pos _))
  ·exact fun z q rv=>rv.on fun t=>PySem.P.len_str (fun y=>absurd (lD q) (Int.not_lt.mpr y)) ((W.st.tok (Nat.succ_pos _)).v fun _=>.int _ _ (Nat.succ_pos _))
 ·exact fun i q _ r=>r.one fun v rv=>rv.on fun t=>PySem.P.str_of_int (pV q) ((W.st.tok (Nat.succ_pos _)).v fun _=>.str _ _ W.inv.tk)
 ·exact fun i _ r=>r.one fun v rv=>rv.onpi fun t p=>call_int_int (W.res (.int _ _ p))
 ·exact fun i _ r=>r.one fun v rv=>rv.on (call_int_bool ((W.st.tok (Nat.succ_pos _)).v fun _=>.int _ _ W.inv.tk))
 ·exact fun es _ h=>absurd rfl h
 ·exact fun i j _ r=>r.two fun v u rv ru=>rv.onpi fun t p=>ru.onpi fun t' p'=>eA W.inv.tk (max_two_ints R.h fun h' tk hk ht=>(W.st.grow hk ht).v fun _=>by split;exact .int _ _ p';exact .int _ _ p)
 ·exact fun i j _ r=>r.two fun v u rv ru=>rv.onpi fun t p=>ru.onpi fun t' p'=>eA W.inv.tk (min_two_ints R.h fun h' tk hk ht=>(W.st.grow hk ht).v fun _=>by split;exact .int _ _ p';exact .int _ _ p)
theorem yT(K:FOk κ F.env)(Sg:Stat G){b:Blt}{xs:List PySem.Expr}{p pos:Pos}{ds:List V}{d:V}(hg:aX κ (m9 b)=true)(ho:j0 xs)(h0:xs=[]→ds=[]∧σ1=σ)(hx:q8 G F n xs ρ σ ds σ1)(hs:b≠.sorted)(h:pP b ds σ1=some (d,σ2)):Ex G F n (eval (.Call (.Name (m9 b) p) xs [] pos) F.env) ρ σ d σ2:=
 fun A ts s R S=>gj K Sg S hg (qW b) (cq Sg R S (nJ b) ho h0 hx fun vs s' S'=>yy hs h R S')
theorem uo{o:E}{ox x:PySem.Expr}{apos pos:Pos}{a t:Str}(hb:vY o=true)(hl:(apos.endLine==pos.line)=true)(ho:OkX x)(h1:Ex G F n (eval (bD o ox) F.env) ρ σ (.str a) σ1)(h2:Ex G F n (eval x F.env) ρ σ1 (.str t) σ2):
  Ex G F n (eval (.Call (.Attribute (bD o ox) ("rfind":Str) apos) [x] [] pos) F.env) ρ σ (.int (Txt.rfind a t)) σ2:=fun A ts s R S=>
 Call_method1 (eL hb _ _ _ _) (ho.star [] F.env) hl (ad (h1 A ts s R S) fun v s1 S1=>S1.one fun X O W r=>r.on fun u=>PySem.SB.rfind (ad (h2 A ts s1 R W.st) fun v s2 S2=>S2.one fun X O W r=>r.on fun u'=>dA t u' rfl ((W.st.tok (Nat.succ_pos _)).v fun _=>.int _ _ W.inv.tk)))
theorem yQ(Sg:Stat G){o:E}{ox x y:PySem.Expr}{apos pos:Pos}{m:Nat}{k:Str}{dv:V}{es es':List (Str × V)}(hb:vY o=true)(hl:(apos.endLine==pos.line)=true)(ho:OkX x)(ho':OkX y)(h1:Ex G F n (eval (bD o ox) F.env) ρ σ (.loc m) σ1)
  (he1:σ1.cells[m]? =some (.dict es')) (h2:Ex G F n (eval x F.env) ρ σ1 (.str k) σ2) (h3:Ex G F n (eval y F.env) ρ σ2 dv σ') (he:σ'.cells[m]? =some (.dict es)):
  Ex G F n (eval (.Call (.Attribute (bD o ox) ("get":Str) apos) [x,y] [] pos) F.env) ρ σ ((cY es k).getD dv) σ':=by
 intro A ts s R S
 have hst:backTo pos (starEach [x,y] F.env)=[(false,eval x F.env),(false,eval y F.env)]:=by rw[ho.star,ho'.star];rfl
 refine wpAny_Call_method2_late (eL hb _ _ _ _) hl hst (ad (h1 A ts s R S) fun v s1 S1=>S1.on fun X O W=>?_)
 have r0:Rp G X v (.loc m):=W.tm.1 X (.refl X)
 obtain⟨a,rfl⟩:∃a,v=.ref a:=r0.on fun a _=>⟨a,rfl⟩
 obtain⟨oa,⟨kvs,hd,hk⟩⟩:O a=some ⟨.st m,.dict es'⟩∧cQ G X s1.heap a (.dict es'):=by
  have:=W.cell (M:=fun v=>∀a,v=.ref a→O a=some ⟨.st m,.dict es'⟩∧cQ G X s1.heap a (.dict es')) r0 he1 (fun z=>nomatch z) fun a _ o c b e=>by injection e with z1;subst z1;exact⟨o,c⟩
  exact this a rfl
 have hn:=W.nm Sg oa
 refine Bm ("dict") ("dict.get") PySem.F.plainAttrs_dict PySem.F.slot_dict_get PySem.F.type_dict_get hd.typeIs hd.mapOf.noDict ?_
 refine wpAny_dict_get2 (knd:=PySem.strKind G.prog G.w) hn (ad (h2 A _ s1 R S1) fun v s2 S2=>ad (h3 A _ s2 R S2) fun u s3 S3=>S3.on fun X O W=>?_)
 have rl:Rp G X (.ref a) (.loc m):=W.tm.2.2.1 X (.refl X)
 clear Sg ox y apos pos es' hb hl ho ho' h1 he1 h2 h3 A s R S hst S1 r0 oa kvs hd hk hn s2 S2 S3;obtain⟨t,rfl⟩:∃t,v=.str k t:=(show Rp G X v (.str k)from W.tm.2.1 X (.refl X)).on fun t=>⟨t,rfl⟩
 have:∀b,Value.ref a=.ref b→O b=some ⟨.st m,.dict es⟩∧cQ G X s3.heap b (.dict es):=W.cell (M:=fun v=>∀b,v=.ref b→O b=some ⟨.st m,.dict es⟩∧cQ G X s3.heap b (.dict es)) rl he (fun z=>nomatch z) fun a _ o c b e=>by injection e with z1;subst z1;exact⟨o,c⟩
 refine cB (this a rfl) fun _ y1=>?_;refine aT y1 fun kvs' hd' hk'=>?_
 have W':Stw G F ρ ts σ' s3 X O:=⟨W.le,W.kp,W.inv,W.loc,W.tm.2.2.2⟩
 refine gc k _ (strKind_is _ _ k t) hd'.mapOf (St.tok (W'.res ?_) (Nat.succ_pos _))
 unfold cY
 rcases hk'.at k with⟨w,x,z1,z2,ru⟩|⟨z1,z2⟩
 ·refine eR z1 ?_;refine eR z2 ?_;exact ru
 ·refine eR z1 ?_;refine eR z2 ?_;exact W.tm.1 X (.refl X)
end
end Mine
namespace Mine
open PySem PySem.W PyProof.Rows
section
variable {G:Cfg}{F:Frm}{n:Nat}{κ:bf}{ρ ρ':ay}{ts:List Tmp}{σ σ' σ1 σ2:Store}{s:Shared}{A:Around}{X Y:VW}{O O':OM}{N fp:List Addr}{hg h':Heap}{tk:Tok}{p:Addr→Bool}{v:Value}{d:V}
theorem Tm.low{k:Nat}(le:X.Le Y)(hk:∀a w,O a=some w→w.t≠.tm k→O' a=some w)(hl:fP ts≤k)(h:Tm F X O ts):Tm F Y O' ts:=by
 induction ts with
 |nil=>trivial
 |cons t r ih=>induction t using Tmp.casesOn with
  |up P=>exact⟨fun Z l=>h.1 Z (le.trans l),ih hl h.2⟩
  |raw N g=>exact⟨fun b m=>aT (h.1 b m) fun o e w=>(bi o e (hk _ _ w fun q=>by clear le hk ih h b m e w;injection q with z1;subst z1;exact absurd hl (Nat.not_succ_le_self _))),ih (Nat.le_of_succ_le hl) h.2⟩
  |nmv x v=>exact⟨cN.up (fun a w e f=>hk a w e fun q=>by rw[q]at f;exact bE f) h.1,ih hl h.2⟩
theorem Stw.turn(W:Stw G F ρ (.raw N hg::ts) σ s X O){r:OM}(ht:0<tk)(kp:∀b o,b∉N→s.heap.get? b=some o→h'.get? b=some o)(hp:∀a,p a=true→(if a∈N then r a else O a)=none)
  (hr:∀b∈N,∀w,r b=some w→∃o,h'.get? b=some o∧w=⟨.tm (fP ts),.raw o⟩):Stw G F ρ ts σ {s with heap:=h',toks:=tk} (X.add h' p) (fun b=>if b∈N then r b else O b)∧X.Le (X.add h' p):=by
 have I:=W.inv
 have tg:∀b∈N,∃o,O b=some ⟨.tm (fP ts),.raw o⟩:=fun b m=>aT (W.tm.1 b m) fun o _ w=>⟨o,w⟩
 have gX:∀b∈N,X.g.get? b=none:=fun b m=>Exists.elim (tg b m) fun o w=>(I.own b _ w).1
 have le:X.Le (X.add h' p):=j8 fun a o e=>kp a o (fun m=>by rw[gX a m]at e;exact nE e) (I.sub a o e)
 have ne:∀a w,O a=some w→w.t≠.tm (fP ts)→(fun b=>if b∈N then r b else O b) a=some w:=fun a w e n=>(if_neg fun m=>by obtain⟨o,w'⟩:=tg a m;rw[e]at w';clear W r ht kp hp hr I tg gX le a e m;injection w' with z1;subst z1;exact n rfl).trans e
 have pn:∀a w,(if a∈N then r a else O a)=some w→p a=false:=fun a w e=>by
  cases q:p a with
  |false=>rfl
  |true=>rw[hp a q]at e;exact nE e
 refine⟨⟨W.le.trans le,fun a o e=>ne _ _ (W.kp a o e) fun q=>(nomatch q),⟨mn,I.x0.trans le,fun a w e=>?_,fun n c e1 e2=>?_,I.ml,fun j a e=>?_,I.idi,I.gens,I.os,ht⟩,W.loc.up le (fun a w e f=>ne a w e fun q=>by rw[q]at f;exact bE f),Tm.low le ne (Nat.le_refl _) W.tm.2⟩,le⟩
 ·have e:(if a∈N then r a else O a)=some w:=e
  have pa:=pn a w e
  by_cases m:a∈N
  ·rw[if_pos m]at e
   refine aT (hr a m w e) fun o g q=>?_
   clear W ht kp hp hr I tg le ne pn e;subst q
   exact⟨cg (gX a m) pa,g⟩
  ·rw[if_neg m]at e
   exact⟨cg (I.own a w e).1 pa,(I.own a w e).2.keep le fun o=>kp a o m⟩
 ·refine aT (I.st n c e1 e2) fun a m1 m2=>?_
  exact bi a m1 (ne _ _ m2 fun q=>nomatch q)
 ·obtain⟨z1,o,z2⟩:=I.mi j a e;exact⟨z1,o,le.g _ _ z2⟩
theorem St.drop(S:St G F ρ (.raw N hg::ts) σ s)(ht:0<tk)(kp:∀b o,b∉N→s.heap.get? b=some o→h'.get? b=some o):St G F ρ ts σ {s with heap:=h',toks:=tk}:=
 S.on fun X O W=>rA _ _ ((W.turn (r:=fun _=>none) ht kp (p:=fun _=>false) (fun _ e=>nomatch e) fun _ _ _ e=>nomatch e).1)
theorem mV{r:List Tmp}(W:Stw G F ρ ts σ s X fun b=>if b∈N then(s.heap.get? b).map fun o=>⟨.tm (fP ts),.raw o⟩else O b)(lv:∀b∈N,∃o,s.heap.get? b=some o):Stw G F ρ (.raw N s.heap::ts) σ s X fun b=>if b∈N then(s.heap.get? b).map fun o=>⟨.tm (fP ts),.raw o⟩else O b:=
 ⟨W.le,W.kp,W.inv,W.loc,fun b m=>Exists.elim (lv b m) fun o e=>(bi o e ((if_pos m).trans (by rw[e];rfl))),W.tm⟩
theorem i9{b:Addr}{w:Ow}{k:Nat}(e:(h'.get? b).map (fun o=>(⟨.tm k,.raw o⟩:Ow))=some w):∃o,h'.get? b=some o∧w=⟨.tm k,.raw o⟩:=
 aT (Option.map_eq_some_iff.mp e) fun o a b=>bi o a b.symm
theorem St.turnQ{Q:VW→Prop}(S:St G F ρ (.raw N hg::ts) σ s)(ht:0<tk)(kp:∀b o,b∉N→s.heap.get? b=some o→h'.get? b=some o)(hp:∀a,p a=true→s.heap.get? a=none)(lv:∀b∈N,∃o,h'.get? b=some o)
  (r:∀X O,Tm F X O ts→dS X.g h'→∀Y,(X.add h' p).Le Y→Q Y):St G F ρ (.up Q:: .raw N h'::ts) σ {s with heap:=h',toks:=tk}:=
 S.on fun X O W=>by
  have ow:∀a w,O a=some w→∃o,s.heap.get? a=some o:=fun a w e=>(W.inv.own a w e).2.al
  have⟨W',le⟩:=W.turn (r:=fun b=>(h'.get? b).map fun o=>⟨.tm (fP ts),.raw o⟩) ht kp (p:=p) (fun a q=>by
   by_cases m:a∈N
   ·refine aT (W.tm.1 a m) fun _ _ w=>?_
    refine Exists.elim (ow a _ w) fun o e=>?_
    rw[hp a q]at e;exact nE e
   ·refine eR (if_neg m) ?_
    cases z:O a with
    |none=>rfl
    |some w=>obtain⟨o,e⟩:=ow a _ z;rw[hp a q]at e;exact nE e) fun b m w e=>i9 e
  have W2:=mV (r:=[]) (N:=N) (O:=O) W' lv
  exact⟨_,_,W2.le,W2.kp,W2.inv,W2.loc,r X O W.tm.2 fun a o e=>kp a o (fun m=>by refine aT (W.tm.1 a m) fun _ _ w=>?_;rw[(W.inv.own a _ w).1]at e;exact nE e) (W.inv.sub a o e),W2.tm⟩
theorem St.turn(S:St G F ρ (.raw N hg::ts) σ s)(ht:0<tk)(kp:∀b o,b∉N→s.heap.get? b=some o→h'.get? b=some o)(hp:∀a,p a=true→s.heap.get? a=none)(lv:∀b∈N,∃o,h'.get? b=some o)
  (r:∀X O,Tm F X O ts→dS X.g h'→Rp G (X.add h' p) v d):St G F ρ (val G v d:: .raw N h'::ts) σ {s with heap:=h',toks:=tk}:=S.turnQ ht kp hp lv fun X O t l Y le=>(r X O t l).up le
theorem St.raws(S:St G F ρ ts σ s)(k:dS s.heap h')(ht:0<tk)(hN:∀b∈N,s.heap.get? b=none)(lv:∀b∈N,∃o,h'.get? b=some o):St G F ρ (.raw N h'::ts) σ {s with heap:=h',toks:=tk}:=
 S.on fun X O W=>by
  have oN:∀b∈N,O b=none:=fun b m=>by
   cases q:O b with
   |none=>rfl
   |some w=>obtain⟨o,e⟩:=(W.inv.own b w q).2.al;rw[hN b m]at e;exact nE e
  have⟨W',le⟩:=W.alloc (O':=fun b=>if b∈N then(h'.get? b).map fun o=>⟨.tm (fP ts),.raw o⟩else O b) k ht (fun _=>false) (fun _ e=>nomatch e) (fun a w e=>(if_neg fun m=>by rw[oN a m]at e;exact nE e).trans e) fun a w e q=>by
   by_cases m:a∈N
   ·have e:(if a∈N then _ else O a)=some w:=e
    rw[if_pos m]at e
    refine aT (i9 e) fun o g z=>?_
    clear S k ht lv W oN q e;subst z
    exact fz (hN a m) rfl g
   ·have e:(if a∈N then _ else O a)=some w:=e
    rw[if_neg m,q]at e;exact nE e
  exact rA _ _ (mV (r:=[]) (N:=N) (O:=O) W' lv)
abbrev s0(fp N:List Addr)(g:Heap)(X:VW):Prop:=∀b∈fp,b∉N→∃o,g.get? b=some o∧X.g.get? b=some o
structure Trn(G:Cfg)(A:Around)(tgt:PySem.Expr)(I:Addr)(N fp:List Addr)(l:List V)(P:VW→Prop)(Q0:Nat→Heap→Prop):Prop where
 frame:∀i h h',Q0 i h→(∀b∈fp,∀o,h.get? b=some o→h'.get? b=some o)→Q0 i h'
 live:∀i h,Q0 i h→∀b∈N,∃o,h.get? b=some o
 item:∀i d (s:Shared)(Q:Value→Shared→Prop),l[i]? =some d→Q0 i s.heap→0<s.toks→
  (∀v h' tk (p:Addr→Bool),Q0 (i+1) h'→0<tk→(∀b o,b∉N→s.heap.get? b=some o→h'.get? b=some o)→(∀a,p a=true→s.heap.get? a=none)→(∀X,P X→dS X.g h'→Rp G (X.add h' p) v d)→Q v {s with heap:=h',toks:=tk})→
  bC G A (pyNext (.ref I)) (fun r s1=>∃v,r=some v∧bC G A (letOwnedTupleGo tgt (.ref I) v) (fun _ s2=>Q v s2) s1) s
 done:∀(s:Shared)(Q:Option Value→Shared→Prop),Q0 l.length s.heap→0<s.toks→
  (∀h' tk,0<tk→(∀b o,b∉N→s.heap.get? b=some o→h'.get? b=some o)→Q none {s with heap:=h',toks:=tk})→bC G A (pyNext (.ref I)) Q s
 self:∀i (s:Shared)(Q:Value→Shared→Prop),Q0 i s.heap→Q (.ref I) s→bC G A (pyIter (.ref I)) Q s
inductive ItOk (G:Cfg)(F:Frm)(A:Around)(tgt:PySem.Expr)(ρ:ay)(ts:List Tmp)(σ:Store)(l:List V):Value→Shared→Prop
 |mk {I:Addr} {N fp:List Addr} {P:VW→Prop} {Q0:Nat→Heap→Prop} {hg:Heap} {s:Shared} (T:Trn G A tgt I N fp l P Q0) (q0:Q0 0 hg) (S:St G F ρ (.raw N hg:: .up (fun X=>P X∧s0 fp N hg X)::ts) σ s):ItOk G F A tgt ρ ts σ l (.ref I) s
theorem Trn.at{tgt:PySem.Expr}{I:Addr}{l:List V}{P:VW→Prop}{Q0:Nat→Heap→Prop}(T:Trn G A tgt I N fp l P Q0){i:Nat}{M:List Addr}(hM:∀b∈N,b∈M)(q0:Q0 i hg)(S:St G F ρ (.raw M hg:: .up (fun X=>P X∧s0 fp N hg X)::ts) σ s):Q0 i s.heap:=
 S.on fun X O W=>T.frame i hg s.heap q0 fun b m o e=>by
  by_cases z:b∈N
  ·refine aT (W.tm.1 b (hM b z)) fun o' e' w=>?_
   rw[e]at e';refine oR e' ?_;exact(W.inv.own b _ w).2
  ·refine aT ((W.tm.2.1 X (.refl X)).2 b m z) fun o' e' w=>?_
   rw[e]at e';refine oR e' ?_;exact W.inv.sub _ _ w
theorem St.turn2{P:VW→Prop}{M:List Addr}(hM:∀b∈fp,b∉N→b∉M)(S:St G F ρ (.raw M hg:: .up (fun X=>P X∧s0 fp N hg X)::ts) σ s)(ht:0<tk)(kp:∀b o,b∉M→s.heap.get? b=some o→h'.get? b=some o)(hp:∀a,p a=true→s.heap.get? a=none)(lv:∀b∈M,∃o,h'.get? b=some o)
  (r:∀X,P X→dS X.g h'→Rp G (X.add h' p) v d):St G F ρ (val G v d:: .raw M h':: .up (fun X=>P X∧s0 fp N h' X)::ts) σ {s with heap:=h',toks:=tk}:=by
 refine St.turn (ts:=.up (fun X=>P X∧s0 fp N h' X)::ts) (hg:=hg) ?_ ht kp hp lv fun X O t=>r X (t.1 X (.refl X)).1
 refine S.on fun X O W=>⟨X,O,W.le,W.kp,W.inv,W.loc,W.tm.1,fun Y le=>⟨(W.tm.2.1 Y le).1,fun b m z=>?_⟩,W.tm.2.2⟩
 refine aT ((W.tm.2.1 X (.refl X)).2 b m z) fun o _ w=>?_
 exact bi o (kp b o (hM b m z) (W.inv.sub _ _ w)) (le.g _ _ w)
theorem ql{M:List Nat→V→ay→Prop}{tg:List Nat}{ρ1:ay}(h:cP tg d ρ=some ρ1)(k1:∀x d,M [x] d (ρ.set x (.v d)))(k2:∀x y i a b,M [x,y] (.tup i [a,b]) ((ρ.set x (.v a)).set y (.v b)))
  (k3:∀x y z i a b c,M [x,y,z] (.tup i [a,b,c]) (((ρ.set x (.v a)).set y (.v b)).set z (.v c))):M tg d ρ1:=by
 induction tg using List.casesOn with
 |nil=>exact nE h
 |cons x r=>induction r using List.casesOn with
  |nil=>refine oE h ?_;exact k1 x d
  |cons y q=>
   refine ob (h) fun l e h=>?_
   refine Exists.elim (rR e) fun i z1=>?_;clear k1 e;subst z1
   induction q using List.casesOn with
   |nil=>cases l with
    |nil=>exact nE h
    |cons a l=>cases l with
     |nil=>exact nE h
     |cons b l=>induction l using List.casesOn with
      |nil=>refine oE h ?_;exact k2 x y i a b
      |cons _ _=>exact nE h
   |cons z w=>induction w using List.casesOn with
    |nil=>induction l using List.casesOn with
     |nil=>exact nE h
     |cons a l=>cases l with
      |nil=>exact nE h
      |cons b l=>induction l using List.casesOn with
       |nil=>exact nE h
       |cons c l=>induction l using List.casesOn with
        |nil=>refine oE h ?_;exact k3 x y z i a b c
        |cons _ _=>exact nE h
    |cons _ _=>exact nE h
theorem lY(hn:∀i j,nm i=nm j→i=j){tg:List Nat}{y:PySem.Expr}{ρ1:ay}(R:Room n A)(hx:∀x∈tg,b6 F x)(hb:cP tg d ρ=some ρ1)(S:St G F ρ (val G v d::ts) σ s)(hp:wi ts=true):bC G A (assign (eP nm tg y) F.env v) (fun _ s'=>St G F ρ1 ts σ s') s:=by
 refine ql (M:=fun tg d ρ1=>(∀x∈tg,b6 F x)→St G F ρ (val G v d::ts) σ s→bC G A (assign (eP nm tg y) F.env v) (fun _ s'=>St G F ρ1 ts σ s') s) hb ?_ ?_ ?_ hx S
 ·exact fun x d hx S=>wpAny_assign_Name (dR hn S hp (hx x List.mem_cons_self) fun X r=>r)
 ·refine fun x y i a b hx S=>S.one fun X O W r=>r.on fun T vs ht rl _=>?_
  refine rl.two (M:=fun us=>vs.toList=us→bC G A (assign (eP nm [x,y] _) F.env (.ref T)) _ s) (fun va vb ra rb ev=>?_) rfl
  refine wpAny_assign_Tuple R.h (items:=vs) (IsTup.up W.inv.sub ht) (by refine eE Array.length_toList ?_;refine eR ev ?_;rfl) rfl fun h' hx'=>?_
  refine eR ev ?_
  have S':=St.grow (ts:=val G va a::val G vb b::ts) ⟨X,O,W.le,W.kp,W.inv,W.loc,fun Y le=>ra.up le,fun Y le=>rb.up le,W.tm⟩ (h':=h') (fun a o e=>hx' a o (Nat.ne_of_lt (Heap.lt_size e)) e) W.inv.tk
  refine wpAny_assignInOrder_more (wpAny_assign_Name (ad (dR hn S' hp (hx x List.mem_cons_self) fun X r=>r) fun _ s1 S1=>?_))
  exact wpAny_assignInOrder_more (wpAny_assign_Name (ad (dR hn S1 hp (hx y (List.mem_cons_of_mem _ List.mem_cons_self)) fun X r=>r) fun _ s2 S2=>wpAny_assignInOrder_none S2))
 ·refine fun x y z i a b c hx S=>S.one fun X O W r=>r.on fun T vs ht rl _=>?_
  refine rl.con (M:=fun us=>vs.toList=us→bC G A (assign (eP nm [x,y,z] _) F.env (.ref T)) _ s) (fun va us ra rl ev=>?_) rfl
  revert ev
  refine rl.two (M:=fun us=>vs.toList=va::us→bC G A (assign (eP nm [x,y,z] _) F.env (.ref T)) _ s) (fun vb vc rb rc ev=>?_)
  refine wpAny_assign_Tuple R.h (items:=vs) (IsTup.up W.inv.sub ht) (by refine eE Array.length_toList ?_;refine eR ev ?_;rfl) rfl fun h' hx'=>?_
  refine eR ev ?_
  have S':=St.grow (ts:=val G va a::val G vb b::val G vc c::ts) ⟨X,O,W.le,W.kp,W.inv,W.loc,fun Y le=>ra.up le,fun Y le=>rb.up le,fun Y le=>rc.up le,W.tm⟩ (h':=h') (fun a o e=>hx' a o (Nat.ne_of_lt (Heap.lt_size e)) e) W.inv.tk
  refine wpAny_assignInOrder_more (wpAny_assign_Name (ad (dR hn S' hp (hx x List.mem_cons_self) fun X r=>r) fun _ s1 S1=>?_))
  refine wpAny_assignInOrder_more (wpAny_assign_Name (ad (dR hn S1 hp (hx y (List.mem_cons_of_mem _ List.mem_cons_self)) fun X r=>r) fun _ s2 S2=>?_))
  exact wpAny_assignInOrder_more (wpAny_assign_Name (ad (dR hn S2 hp (hx z (List.mem_cons_of_mem _ (List.mem_cons_of_mem _ List.mem_cons_self))) fun X r=>r) fun _ s3 S3=>wpAny_assignInOrder_none S3))
theorem l7{f:V→ay→Store→Option (Fl × ay × Store)}{x:V}{r:List V}{q:Fl × ay × Store}(h:aZ f (x::r) ρ σ=some q){C:Prop}(k1:∀ρ1 σ1,f x ρ σ=some (.next,ρ1,σ1)→aZ f r ρ1 σ1=some q→C)(k2:∀d ρ1 σ1,f x ρ σ=some (.ret d,ρ1,σ1)→q=(.ret d,ρ1,σ1)→C):C:=by
 have h:(f x ρ σ).bind (fun(fl,ρ,σ)=>match fl with
  |.next=>aZ f r ρ σ
  |.ret d=>some (.ret d,ρ,σ))=some q:=h
 refine ob h fun y e h=>?_
 obtain⟨fl1,ρ1,σ1⟩:=y
 induction fl1 using Fl.casesOn with
 |next=>exact k1 _ _ e h
 |ret d=>exact k2 d ρ1 σ1 e (Option.some.inj h).symm
noncomputable def mY(G:Cfg)(F:Frm)(n:Nat)(iter tgt:PySem.Expr)(ρ:ay)(σ:Store)(l:List V)(σ':Store):Prop:=
 ∀A ts s,Room n A→St G F ρ ts σ s→bC G A (eval iter F.env) (fun xv s1=>bC G A (pyIter xv) (fun it s2=>ItOk G F A tgt ρ ts σ' l it s2) s1) s
noncomputable def te(G:Cfg)(F:Frm)(n:Nat)(tg:List Nat)(body:List PySem.Stmt)(f:V→ay→Store→Option (Fl × ay × Store)):Prop:=
 ∀d ρ σ fl ρ' σ',f d ρ σ=some (fl,ρ',σ')→∃ρ1,cP tg d ρ=some ρ1∧iy G F n (execs body F.env) ρ1 σ fl ρ' σ'
inductive LoopI (G:Cfg)(F:Frm)(N fp:List Addr)(l:List V)(P:VW→Prop)(Q0:Nat→Heap→Prop)(f:V→ay→Store→Option (Fl × ay × Store))(ts:List Tmp)(q:Fl × ay × Store)(k:Nat)(s:Shared):Prop
 |mk (i:Nat) (hg:Heap) (ρ:ay) (σ:Store) (k:k=l.length+1-i) (le:i≤l.length) (q0:Q0 i hg) (S:St G F ρ (.raw N hg:: .up (fun X=>P X∧s0 fp N hg X)::ts) σ s) (h:aZ f (l.drop i) ρ σ=some q)
theorem wJ(hn:∀i j,nm i=nm j→i=j){tg:List Nat}{y:PySem.Expr}{body:List PySem.Stmt}{l:List V}{it:Value}{fl:Fl}{f:V→ay→Store→Option (Fl × ay × Store)}(R:Room n A)(hx:∀x∈tg,b6 F x)(hb:te G F n tg body f)(hp:wi ts=true)
  (h:aZ f l ρ σ=some (fl,ρ',σ')) (hi:ItOk G F A (eP nm tg y) ρ ts σ l it s) {RR:Result→Shared→Prop} (hR:∀fl' s',St G F ρ' (.up (fun X=>pC G X fl' fl)::ts) σ' s'→RR (.ok fl') s'):codeAny (model G.prog G.w) A (.forLoop (eP nm tg y) it body [] F.env) RR s:=by
 obtain⟨T,q0,S⟩:=hi
 rename_i I N fp P Q0 hg
 refine codeAny_forLoop_any (fun k s'=>LoopI G F N fp l P Q0 f ts (fl,ρ',σ') k s') ?_ (l.length+1) ⟨0,hg,ρ,σ,rfl,Nat.zero_le _,q0,S,h⟩
 rintro k s' ⟨i,hg,ρ1,σ1,rfl,hi,q1,S1,hr⟩
 refine bt ?_
 have q1:=T.at (fun _ m=>m) q1 S1
 by_cases hlt:i<l.length
 ·have e:l[i]? =some l[i]:=List.getElem?_eq_getElem hlt
  replace hr:=(List.drop_eq_getElem_cons hlt)▸hr
  let J:Flow→Shared→Prop:=fun g s4=>match g with
      |.next|.cont=>∃m,m<l.length+1-i∧LoopI G F N fp l P Q0 f ts (fl,ρ',σ') m s4
      |.brk=>RR (.ok .next) s4
      |.ret v=>RR (.ok (.ret v)) s4
  refine ad (T.item i l[i] s' (fun v s2=>wpAny (model G.prog G.w) A (assign (eP nm tg y) F.env v) (fun _ s3=>wpAny (model G.prog G.w) A (execs body F.env) J (fun _ _=>False) s3) (fun _ _=>False) s2) e q1 S1.tk fun v h2 tk2 p q2 ht2 kp2 hp2 hr2=>?_) fun r s2 w9=>aT w9 fun v er hv=>?_
  ·have S2:=St.turn2 (M:=N) (fun _ _ z=>z) S1 ht2 kp2 hp2 (T.live _ _ q2) hr2
   have fin:∀fl1 ρ2 σ2 ρ3,cP tg l[i] ρ1=some ρ3→iy G F n (execs body F.env) ρ3 σ1 fl1 ρ2 σ2→(∀g s4,St G F ρ2 (.up (fun X=>pC G X g fl1):: .raw N h2:: .up (fun X=>P X∧s0 fp N h2 X)::ts) σ2 s4→J g s4)→
     bC G A (assign (eP nm tg y) F.env v) (fun _ s3=>bC G A (execs body F.env) J s3) {s' with heap:=h2,toks:=tk2}:=fun fl1 ρ2 σ2 ρ3 eb xb k=>
    ad (lY hn R hx eb S2 hp) fun _ s3 S3=>ad (xb A (.raw N h2:: .up (fun X=>P X∧s0 fp N h2 X)::ts) s3 R hp S3) k
   refine l7 hr (fun ρ2 σ2 ef hr=>?_) fun d ρ2 σ2 ef hr=>?_
   ·refine aT (hb _ _ _ _ _ _ ef) fun ρ3 eb xb=>?_
    refine fin _ _ _ _ eb xb fun g s4 S4=>S4.on fun X O W=>?_
    have fk:=W.tm.1 X (.refl X)
    clear hn tg y body R hx hb hp h hR I T q0 S s' hi S1 q1 e v tk2 p ht2 kp2 hp2 hr2 S2 fin ef ρ3 eb xb O W;induction g using Flow.casesOn with
    |next=>exact bi (l.length+1-(i+1)) (Nat.sub_lt_sub_left (Nat.lt_succ_of_lt hlt) (Nat.lt_succ_self i)) ⟨i+1,h2,ρ2,σ2,rfl,hlt,q2,S4.pop,hr⟩
    |_=>exact fk.elim
   ·refine aT (hb _ _ _ _ _ _ ef) fun ρ3 eb xb=>?_
    refine fin _ _ _ _ eb xb fun g s4 S4=>S4.on fun X O W=>?_
    clear hn tg y body R hx hb hp h I T q0 S s' hi S1 q1 e tk2 p q2 ht2 kp2 hp2 hr2 S2 fin ef ρ3 eb xb;cases hr
    induction g using Flow.casesOn with
    |ret v=>exact hR _ _ (S4.sub fun X O t=>⟨t.1,t.2.2.2⟩)
    |_=>exact(W.tm.1 X (.refl X)).elim
  ·clear hn R hx hb hp h hR T q0 S s' ρ1 σ1 hi S1 q1 hlt e hr w9;subst er
   exact bt (ad hv fun _ s3 h3=>bt (ad h3 fun _ s4 h4=>bt (ad h4 fun g s5 h5=>by induction g using Flow.casesOn<;>exact h5)))
 ·clear hn R hx hb hp h q0 S;obtain rfl:i=l.length:=Nat.le_antisymm hi (Nat.not_lt.mp hlt)
  rw[List.drop_length]at hr
  cases hr
  exact T.done s' _ q1 S1.tk fun h2 tk2 ht2 kp2=>wpAny_execs_nil (hR _ _ ((S1.drop ht2 kp2).sub fun X O t=>⟨fun _ _=>trivial,t.2⟩))
theorem yA(hn:∀i j,nm i=nm j→i=j){tg:List Nat}{y iter:PySem.Expr}{body:List PySem.Stmt}{p:Pos}{l:List V}{fl:Fl}{f:V→ay→Store→Option (Fl × ay × Store)}(ho:OkX iter)(hx:∀x∈tg,b6 F x)
  (hi:mY G F n iter (eP nm tg y) ρ σ l σ1) (hb:te G F n tg body f) (h:aZ f l ρ σ1=some (fl,ρ',σ')):iy G F n (exec (.For (eP nm tg y) iter body [] p) F.env) ρ σ fl ρ' σ':=
 fun A ts s R hp S=>wpAny_For (ad (hi A ts s R S) fun xv s1 h1=>ad h1 fun it s2 I=>wJ hn R hx hb hp h I fun fl' s' S'=>S') (ho.fold F.env)
end
end Mine
namespace Mine
open PySem PySem.W PyProof.Rows
section
variable {G:Cfg}{F:Frm}{n:Nat}{κ:bf}{ρ ρ':ay}{ts:List Tmp}{σ σ' σ1 σ2:Store}{s:Shared}{A:Around}{X Y:VW}{O O':OM}{N fp:List Addr}{hg h':Heap}{tk:Tok}{p:Addr→Bool}{v:Value}{d:V}
 {tgt:PySem.Expr} {I:Addr} {l:List V} {Q0:Nat→Heap→Prop} {P:VW→Prop}
theorem Trn.ofItem{wr:List Addr}{Pk Pk':Nat→Value→Prop}{k:Nat}(W:Walks G.prog G.w A I fp wr k Pk Q0)(hk:k=l.length)(hi:∀i (s:Shared)(Q:Option Value→Shared→Prop),i<k→Q0 i s.heap→0<s.toks→
   (∀v h' tk,Pk' i v→Q0 (i+1) h'→(∀b o,b∉wr→s.heap.get? b=some o→h'.get? b=some o)→Q (some v) {s with heap:=h',toks:=tk})→bC G A (pyNext (.ref I)) Q s)
  (hP:∀X,P X→∀i v d,Pk' i v→l[i]? =some d→Rp G X v d) (hl:∀i h,Q0 i h→∀b∈wr,∃o,h.get? b=some o)
  (hgo:∀i v (s:Shared)(Q:Unit→Shared→Prop),Q0 i s.heap→Q () s→bC G A (letOwnedTupleGo tgt (.ref I) v) Q s):Trn G A tgt I wr fp l P Q0 where
 frame:=W.frame
 live:=hl
 item:=fun i d s Q e st ht hq=>eA ht (hi i s _ (by refine eR hk ?_;exact(List.getElem?_eq_some_iff.mp e).1) st ht fun v h' tk p st' kp ht'=>
  (bi v rfl (hgo _ v _ _ st' (hq v h' tk (fun _=>false) st' ht' kp (fun _ z=>Bool.noConfusion z) fun X px sub=>(hP X px i v d p e).up (j8 sub)))))
 done:=fun s Q st ht hq=>eA ht (W.done s _ _ (by refine eR hk ?_;exact st) fun h' tk kp ht'=>hq h' tk ht' kp)
 self:=fun i s Q st q=>W.self i s _ _ st q
theorem Trn.ofWalks{wr:List Addr}{Pk:Nat→Value→Prop}{k:Nat}(W:Walks G.prog G.w A I fp wr k Pk Q0)(hk:k=l.length)(hP:∀X,P X→∀i v d,Pk i v→l[i]? =some d→Rp G X v d)(hl:∀i h,Q0 i h→∀b∈wr,∃o,h.get? b=some o)
  (hgo:∀i v (s:Shared)(Q:Unit→Shared→Prop),Q0 i s.heap→Q () s→bC G A (letOwnedTupleGo tgt (.ref I) v) Q s):Trn G A tgt I wr fp l P Q0:=.ofItem W hk (fun i s Q hi st _ q=>W.item i s Q _ hi st q) hP hl hgo
theorem Trn.ofT{wr:List Addr}{Pt Pt':Nat→Array Value→Prop}{Mid:Nat→Addr→Heap→Prop}{es:List PySem.Expr}{kk:Nat}{pos:Pos}{k:Nat}(W:WalksT G.prog G.w A I fp wr k Pt Q0 Mid)(hk:k=l.length)(hi:∀i (s:Shared)(Q:Option Value→Shared→Prop),i<k→Q0 i s.heap→0<s.toks→
   (∀T vals h' tk,Pt' i vals→s.heap.objs.size≤T→h'.IsTuple T vals→Mid i T h'→(∀b o,b∉wr→s.heap.get? b=some o→h'.get? b=some o)→Q (some (.ref T)) {s with heap:=h',toks:=tk})→bC G A (pyNext (.ref I)) Q s)
  (hP:∀X,P X→∀i vals d,Pt' i vals→l[i]? =some d→∃ds,d=.tup none ds∧RpL G X vals.toList ds) {M:List Addr} (hM:∀b∈wr,b∈M) (hl:∀i h,Q0 i h→∀b∈M,∃o,h.get? b=some o):Trn G A (.Tuple es kk pos) I M fp l P Q0 where
 frame:=W.frame
 live:=hl
 item:=fun i d s Q e st ht hq=>by
  refine eA ht (hi i s _ (by refine eR hk ?_;exact(List.getElem?_eq_some_iff.mp e).1) st ht fun T vals h' tk p hT tup md kp ht'=>?_)
  refine bi (.ref T) rfl (W.go es kk pos i T _ _ _ md fun h2 st' kp2=>?_)
  refine hq (.ref T) h2 tk (fun a=>a==T) st' ht' (fun b o nb eb=>kp2 b o (fun z=>nb (hM b z)) (kp b o (fun z=>nb (hM b z)) eb)) (fun a z=>by refine eR (beq_iff_eq.mp z) ?_;exact bp hT) fun X px sub=>?_
  clear es kk pos hk hi M hM hl Q st ht hq hT kp ht' st';refine aT (hP X px i vals d p e) fun ds z1 rl=>?_;subst z1
  refine aT tup fun o ho r=>?_
  exact Rp.tup' (bi o (dY (beq_self_eq_true _) (kp2 T o (W.apart i T h' md) ho)) r) (rl.up (j8 sub)) fun _ e=>nomatch e
 done:=fun s Q st ht hq=>eA ht (W.done s _ _ (by refine eR hk ?_;exact st) fun h' tk kp ht'=>hq h' tk ht' fun b o nb=>kp b o fun z=>nb (hM b z))
 self:=fun i s Q st q=>W.self i s _ _ st q
set_option backward.match.sparseCases true in
theorem fD{o:Obj}{T:String}{vs:Array Value}{Q:Unit→Shared→Prop}(ho:s.heap.get? I=some o)(hc:o.cls=.type T)(hd:o.data=.fields vs)
  (hT:["enumerate","zip","dict_itemiterator","dict_reverseitemiterator","odict_iterator","itertools.zip_longest","itertools.pairwise"].contains T=false) (q:Q () s):bC G A (letOwnedTupleGo tgt (.ref I) v) Q s:=by
 have key:∀a,bC G A (do
   let o←load I
   match o.cls,o.data with
   |.type n,.fields vs=>
    if["enumerate","zip","dict_itemiterator","dict_reverseitemiterator","odict_iterator","itertools.zip_longest","itertools.pairwise"].contains n&&vs[0]? ==some (rawInt a)then
     rule "for.unpacks-the-owned-tuple"
     updateField I 0 .none
   |_,_=>pure ()) Q s:=fun a=>by
  refine wpAny_bind (wpAny_load ho ?_)
  refine eR hc ?_;refine eR hd ?_
  dsimp only
  refine eR hT ?_
  exact wpAny_pure q
 cases tgt<;>first|exact wpAny_pure q|(cases v<;>first|exact wpAny_pure q|exact key _)
theorem RpL.at{vs:Array Value}{l:List V}(r:RpL G X vs.toList l){i:Nat}(e:vs[i]? =some v)(e':l[i]? =some d):Rp G X v d:=r.r i v d (by refine eR (Array.getElem?_toList) ?_;exact e) e'
theorem RpL.sz{vs:Array Value}{l:List V}(r:RpL G X vs.toList l):vs.size=l.length:=r.n
theorem eO{b I:Addr}{h:Heap}{o:Obj}(e:h.get? I=some o)(m:b∈[I]):∃o,h.get? b=some o:=⟨o,by refine eR (List.mem_singleton.mp m) ?_;exact e⟩
theorem jw(S:St G F ρ ts σ s){o:Obj}(hf:o.isFreed=false)(T:Trn G A tgt s.heap.objs.size [s.heap.objs.size] fp l P Q0)(q0:Q0 0 (s.heap.push o))(hP:∀X O,Tm F X O ts→∀Y,X.Le Y→P Y)(hfp:∀X O,Tm F X O ts→∀b∈fp,b=s.heap.objs.size∨∃o,X.g.get? b=some o):
  ItOk G F A tgt ρ ts σ l (.ref s.heap.objs.size) {s with heap:=s.heap.push o}:=by
 refine .mk T q0 (St.raws (ts:=.up (fun X=>P X∧s0 fp [s.heap.objs.size] (s.heap.push o) X)::ts) ?_ (bc _ _) S.tk (fun b m=>by refine eR (List.mem_singleton.mp m) ?_;exact bR _) fun b m=>eO (Heap.get?_push_size _ hf) m)
 refine S.on fun X O W=>⟨X,O,W.le,W.kp,W.inv,W.loc,fun Y le=>⟨hP X O W.tm Y le,fun b m z=>?_⟩,W.tm⟩
 rcases hfp X O W.tm b m with e|⟨o',e⟩
 ·exact absurd (List.mem_singleton.mpr e) z
 ·exact bi o' (bc _ _ _ _ (W.inv.sub _ _ e)) (le.g _ _ e)
theorem ph{a I b:Addr}{o:Obj}(e:X.g.get? a=some o)(m:b∈[I,a]):b=I∨∃o,X.g.get? b=some o:=
 (List.mem_cons.mp m).imp id fun m=>⟨o,by refine eR (List.mem_singleton.mp m) ?_;exact e⟩
theorem Stw.put1{P:VW→Prop}(W:Stw G F ρ ts σ s X O)(h:∀Y,X.Le Y→P Y):St G F ρ (.up P::ts) σ s:=⟨X,O,W.le,W.kp,W.inv,W.loc,h,W.tm⟩
theorem ItOk.pop{P:VW→Prop}{it:Value}(h:ItOk G F A tgt ρ (.up P::ts) σ l it s):ItOk G F A tgt ρ ts σ l it s:=by
 obtain⟨T,q,S⟩:=h
 exact .mk T q (S.sub fun X O t=>fz t.1 t.2.1 t.2.2.2)
theorem jN{x:PySem.Expr}(h:Ex G F n (eval x F.env) ρ σ (.lst l) σ'):mY G F n x tgt ρ σ l σ':=
 fun A ts s R S=>ad (h A ts s R S) fun v s1 S1=>S1.one fun X O W r=>r.on fun a vs k g r=>by
  have g1:=W.inv.sub _ _ g
  have S2:=W.put1 (P:=fun X=>RpL G X vs.toList l∧X.g.get? a=some (listOf vs k)) fun Y le=>⟨r.up le,le.g _ _ g⟩
  exact wpAny_pyIter_list (aO g1) (jw (P:=fun X=>RpL G X vs.toList l) S2 rfl (Trn.ofWalks (Walks.list R.h _ a (show a≠s1.heap.objs.size from Nat.ne_of_lt (Heap.lt_size g1)) vs) r.sz (fun X r i v d p e=>r.at p e) (fun i h ⟨⟨o,e,c,d⟩,_⟩ b m=>eO e m) fun i v s Q ⟨⟨o,e,c,d⟩,_⟩ q=>fD e c d (by decide) q)
   ⟨(iK _ (Heap.get?_push_size _ rfl) rfl rfl),(aO g1).push _⟩ (fun X O t Y le=>(t.1 Y le).1) fun X O t b m=>ph (t.1 X (.refl X)).2 m).pop
theorem rV{x:PySem.Expr}{i:Option Nat}(h:Ex G F n (eval x F.env) ρ σ (.tup i l) σ'):mY G F n x tgt ρ σ l σ':=
 fun A ts s R S=>ad (h A ts s R S) fun v s1 S1=>S1.one fun X O W r=>r.on fun a vs ht r _=>by
  have h1:Heap.IsTuple s1.heap a vs:=IsTup.up W.inv.sub ht
  refine aT (id ht) fun o g _=>?_
  have S2:=W.put1 (P:=fun X=>RpL G X vs.toList l∧X.g.get? a=some o) fun Y le=>⟨r.up le,le.g _ _ g⟩
  exact wpAny_pyIter_tuple h1 (jw (P:=fun X=>RpL G X vs.toList l) S2 rfl (Trn.ofWalks (Walks.tuple R.h _ a (show a≠s1.heap.objs.size from Nat.ne_of_lt (Heap.lt_size (W.inv.sub _ _ g))) vs) r.sz (fun X r i v d p e=>r.at p e) (fun i h ⟨⟨o,e,c,d⟩,_⟩ b m=>eO e m) fun i v s Q ⟨⟨o,e,c,d⟩,_⟩ q=>fD e c d (by decide) q)
   ⟨(iK _ (Heap.get?_push_size _ rfl) rfl rfl),h1.push _⟩ (fun X O t Y le=>(t.1 Y le).1) fun X O t b m=>ph (t.1 X (.refl X)).2 m).pop
theorem t9{x:PySem.Expr}{es:List (Str × V)}(h:Ex G F n (eval x F.env) ρ σ (.dct es) σ'):mY G F n x tgt ρ σ (es.map fun p=>V.ks p.1) σ':=
 fun A ts s R S=>ad (h A ts s R S) fun v s1 S1=>S1.one fun X O W r=>r.on fun a kvs hd nn hk=>by
  obtain⟨ep,hat⟩:=(DictOf.up (W.inv.sub _) hd).dictAt
  refine kT (id hd) fun o _ _ g _=>?_
  have S2:=W.put1 (P:=fun X=>X.g.get? a=some o) fun Y le=>le.g _ _ g
  refine wpAny_pyIter_dict nn hat (jw (P:=fun X=>True) S2 rfl (Trn.ofWalks (Walks.dictKeys R.h _ a (show a≠s1.heap.objs.size from Nat.ne_of_lt (Heap.lt_size (W.inv.sub _ _ g))) kvs ep) (by rw[List.length_map];exact hk.len) (fun X _ i v x p e=>?_) (fun i h ⟨⟨o,e,c,d⟩,_⟩ b m=>eO e m) fun i v s Q ⟨⟨o,e,c,d⟩,_⟩ q=>fD e c d (by decide) q)
   ⟨(iK _ (Heap.get?_push_size _ rfl) rfl rfl),hat.push _⟩ (fun X O t Y le=>trivial) fun X O t b m=>ph (t.1 X (.refl X)) m).pop
  obtain⟨k,y,h1,h2⟩:=p
  have e1:(kvs.map (·.1))[i]? =some k:=by refine eR (List.getElem?_map) ?_;refine eR h1 ?_;rfl
  rw[hk.k,List.getElem?_map]at e1
  refine aT (Option.map_eq_some_iff.mp e1) fun z z1 z2=>?_
  rw[List.getElem?_map,z1]at e
  obtain rfl:V.ks z.1=x:=Option.some.inj e
  refine eR z2 ?_
  induction v using Value.casesOn<;>first|exact absurd h2 Bool.false_ne_true|skip
  rename_i w t
  refine eR (show w=k from beq_iff_eq.mp h2) ?_
  exact .ks _ _
theorem wD{x:PySem.Expr}{t:Str}(ha:t.cps.toList.all (· <128)=true)(h:Ex G F n (eval x F.env) ρ σ (.str t) σ'):mY G F n x tgt ρ σ (nT t) σ':=
 fun A ts s R S=>ad (h A ts s R S) fun v s1 S1=>S1.one fun X O W r=>r.on fun u=>
  wpAny_pyIter_ascii (by refine eE Array.all_toList ?_;exact ha) (jw (P:=fun X=>True) W.st rfl (Trn.ofItem (Pk':=fun i v=>∃c u,t.cps[i]? =some c∧0<u∧v=.str ⟨#[c]⟩ u) (Walks.strAscii R.h _ t u) (by unfold nT;rw[List.length_map,Array.length_toList]) (fun i s Q hi st ht q=>wpAny_pyNext_ascii_item st (Array.getElem?_eq_getElem hi) fun h' st' hs=>q _ h' _ (gc _ _ (Array.getElem?_eq_getElem hi) ht rfl) st' fun b o nb e=>hs.extBut b o (fun z=>nb (List.mem_singleton.mpr z)) e) (fun X _ i v d p e=>by
   refine hU p fun c u h1 hu z4=>?_;subst z4
   unfold nT at e
   rw[List.getElem?_map,Array.getElem?_toList,h1]at e
   refine oE e ?_
   exact .str _ _ hu) (fun i h ⟨o,e,c,d⟩ b m=>eO e m) fun i v s Q ⟨o,e,c,d⟩ q=>fD e c d (by decide) q)
   (iK _ (Heap.get?_push_size _ rfl) rfl rfl) (fun X O t Y le=>trivial) fun X O t b m=>.inl (List.mem_singleton.mp m))
theorem lX(Sg:Stat G){e:PySem.Expr}{pos:Pos}{f:Value}{Q:Value→Shared→Prop}(R:Room n A)(S:St G F ρ ts σ s)(hk:keeperOf f=pure Keeper.machine)(ho:OkX e)(h:Ex G F n (eval e F.env) ρ σ d σ')
  (q:∀v s',St G F ρ (val G v d::ts) σ' s'→bC G A (call f [v]) Q s'):bC G A (callWith pos f [] (backTo pos (starEach [e] F.env)) []) Q s:=
 cq Sg R S (jZ hk) (fun x m=>List.mem_singleton.mp m▸ho) (fun z=>nomatch z) (dr ho h eX) fun vs s' S'=>S'.onel fun X O W r=>r.one fun v rv=>q v s' (W.res rv)
theorem sU(K:FOk κ F.env)(Sg:Stat G){e:PySem.Expr}{p pos:Pos}{k:Int}(hg:aX κ ("range":Str)=true)(ho:OkX e)(h:Ex G F n (eval e F.env) ρ σ (.int k) σ')(hk: -1000000≤k∧k≤1000000):
  mY G F n (.Call (.Name ("range":Str) p) [e] [] pos) tgt ρ σ ((List.range k.toNat).map fun(i:Nat)=>V.int (i:Int)) σ':=by
 intro A ts s R S
 refine gj K Sg S hg (f:=.type "range") (List.mem_of_getElem? (i:=8) rfl) (lX Sg R S rfl ho h fun v s1 S1=>S1.one fun X O W r=>r.on fun t=>call_range_1 ?_)
 have S2:=W.st.grow (h':=s1.heap.push {cls:=.type "range",data:=.fields #[.int 0 s1.toks,.int k t,.int 1 (s1.toks+1)]}) (tk:=s1.toks+1+1) (bc _ _) (Nat.succ_pos _)
 have hsz:Builtin.Range.rangeSize 0 k 1=((k.toNat:Nat):Int):=by
  rw[rangeSize_one]
  split<;>lia
 refine wpAny_pyIter_range (s:={s1 with heap:=s1.heap.push {cls:=.type "range",data:=.fields #[.int 0 s1.toks,.int k t,.int 1 (s1.toks+1)]},toks:=s1.toks+1+1}) (Heap.get?_push_size _ rfl) ?_ ?_
 ·exact small_one (by decide) (by decide) (by lia) (by lia)
 ·refine jw (P:=fun _=>True) S2 rfl (Trn.ofItem (Pk':=fun i v=>∃t,0<t∧v=.int (0+(i:Int)) t) (LCg.range_walks R.h 0 k.toNat) (by rw[List.length_map,List.length_range]) (fun i s Q hi st ht q=>wpAny_pyNext_range_item st (by lia) fun h' st' hs=>q _ h' _ (bi _ ht (by rw[Int.mul_one])) (by
    refine(show(0:Int)+((i+1:Nat):Int)*1=0+(i:Int)*1+1 by lia)▸(show((k.toNat:Nat):Int)-((i+1:Nat):Int)=(k.toNat:Int)-(i:Int)-1 by lia)▸?_;exact st') fun b o nb e=>hs.extBut b o (fun z=>nb (List.mem_singleton.mpr z)) e) (fun X _ i v d p e=>by
   refine aT p fun t ht z2=>?_;subst z2
   replace e:=(List.getElem?_map)▸e
   refine aT (Option.map_eq_some_iff.mp e) fun j hj z2=>?_;subst z2
   clear K Sg pos hg ho h hk A ts s R S v s1 S1 O W r S2 hsz p e;obtain⟨hlt,hj⟩:=List.getElem?_eq_some_iff.mp hj
   rw[List.getElem_range]at hj
   subst hj
   rw[Int.zero_add]
   exact .int _ _ ht) (fun i h e b m=>eO e m) fun i v s Q e q=>fD e rfl rfl (by decide) q) ?_ (fun X O t Y le=>trivial) fun X O t b m=>.inl (List.mem_singleton.mp m)
  show IsRangeIter _ _ _ _ _
  refine eR hsz ?_
  have:=Heap.get?_push_size (s1.heap.push {cls:=.type "range",data:=.fields #[.int 0 s1.toks,.int k t,.int 1 (s1.toks+1)]}) (o:={cls:=.type "range_iterator",data:=.fields #[rawInt 0,rawInt ((k.toNat:Nat):Int),rawInt 1]}) rfl
  simpa using this
theorem rF{l:List V}{k i:Nat}(h:(gk k l)[i]? =some d):∃x,l[i]? =some x∧d=.tup none [.int ((k+i:Nat):Int),x]:=by
 induction l generalizing k i with
 |nil=>exact nE h
 |cons x r ih=>induction i using Nat.casesOn with
  |zero=>refine oE h ?_;exact bi x rfl rfl
  |succ i=>
   refine aT (ih (k:=k+1) (i:=i) h) fun y h1 h2=>?_
   exact bi y h1 (by rw[h2,Nat.succ_add];rfl)
theorem sI(l:List V)(k:Nat):(gk k l).length=l.length:=by
 induction l generalizing k with
 |nil=>rfl
 |cons x r ih=>exact congrArg Nat.succ (ih _)
theorem nH{l m:List V}{i:Nat}(h:(cI l m)[i]? =some d):∃x y,l[i]? =some x∧m[i]? =some y∧d=.tup none [x,y]:=by
 induction l generalizing m i with
 |nil=>exact nE h
 |cons x r ih=>induction m using List.casesOn with
  |nil=>exact nE h
  |cons y q=>induction i using Nat.casesOn with
   |zero=>refine oE h ?_;exact gc x y rfl rfl rfl
   |succ i=>exact ih h
theorem oD(l m:List V):(cI l m).length=min l.length m.length:=by
 induction l generalizing m with
 |nil=>exact(Nat.zero_min _).symm
 |cons x r ih=>induction m using List.casesOn with
  |nil=>exact(Nat.min_zero _).symm
  |cons y q=>exact(congrArg Nat.succ (ih q)).trans (Nat.succ_min_succ _ _).symm
theorem tb(K:FOk κ F.env)(Sg:Stat G){e:PySem.Expr}{p pos:Pos}{ks:List PySem.Expr}{kk:Nat}{tp:Pos}(hg:aX κ ("enumerate":Str)=true)(ho:OkX e)(h:Ex G F n (eval e F.env) ρ σ (.lst l) σ'):
  mY G F n (.Call (.Name ("enumerate":Str) p) [e] [] pos) (.Tuple ks kk tp) ρ σ (gk 0 l) σ':=by
 intro A ts s R S
 refine gj K Sg S hg (f:=.type "enumerate") (List.mem_of_getElem? (i:=9) rfl) (lX Sg R S rfl ho h fun v s1 S1=>S1.one fun X O W r=>r.on fun a vs k g r=>?_)
 have g1:=W.inv.sub _ _ g
 have hlt:=Heap.lt_size g1
 refine call_enumerate_list (aO g1) fun h' e1 e2 e3 kp=>?_
 refine wpAny_pyIter_enum (s:={s1 with heap:=h'}) e1 ?_
 refine jv (id e2) fun o2 g2 c2 d2=>?_
 have T:Trn G A (.Tuple ks kk tp) (s1.heap.objs.size+1) [s1.heap.objs.size+1,s1.heap.objs.size] [s1.heap.objs.size+1,s1.heap.objs.size,a] (gk 0 l) (fun X=>RpL G X vs.toList l) _:=
  Trn.ofT (Pt':=fun i vals=>∃t x,0<t∧vs[i]? =some x∧vals= #[.int i t,x]) (WalksT.enumerate R.h _ _ a (Nat.succ_ne_self _) (Nat.ne_of_lt (Nat.lt_succ_of_lt hlt)) (Nat.ne_of_lt hlt) vs) (by rw[sI];exact r.sz) (fun i s Q hi st ht q=>by
   refine o6 st fun y0 hit hl=>?_;refine Exists.elim y0 fun old he=>?_
   have l1:=Heap.lt_size he
   have l2:s1.heap.objs.size<s.heap.objs.size:=aT hit fun _ x _=>Heap.lt_size x
   exact wpAny_pyNext_enum_item he hit hl (Array.getElem?_eq_getElem hi) (Nat.succ_ne_self _) fun h' ho hit' hT hsz hk=>q s.heap.objs.size _ h' _ (gc _ _ ht (Array.getElem?_eq_getElem hi) rfl) (Nat.le_refl _) ⟨_,hT,rfl,_,rfl⟩
    (v3 ⟨_,ho⟩ hit' (hl.at fun o x=>hk a o (Nat.ne_of_lt (Nat.lt_succ_of_lt hlt)) (Nat.ne_of_lt hlt) x) (Nat.ne_of_gt l1) (Nat.ne_of_gt l2)) fun b o hb x=>hk b o (fun z=>hb (z▸List.mem_cons_self)) (fun z=>hb (z▸List.mem_cons_of_mem _ List.mem_cons_self)) x) (fun X r i vals d p e=>by
   refine hU p fun t x ht hx z4=>?_;subst z4
   refine aT (rF e) fun y hy z2=>?_;subst z2
   refine bi _ rfl (.cons ?_ (.cons (r.at hx hy) .nil))
   rw[Nat.zero_add];exact .int _ _ ht) (fun b m=>m) (fun i h z b m=>zV m (z.1.elim fun _ y=>⟨_,y⟩) (z.2.1.elim fun _ y=>⟨_,y.1⟩))
 refine .mk T ⟨⟨_,e1⟩,e2,aO (kp _ _ g1)⟩ (St.raws (W.put1 fun Y le=>⟨r.up le,fun b m z=>?_⟩) kp W.inv.tk (fun b m=>bp ?_) (T.live 0 h' ⟨⟨_,e1⟩,e2,aO (kp _ _ g1)⟩))
 ·rcases List.mem_cons.mp m with q|m
  ·exact absurd (q▸List.mem_cons_self) z
  ·rcases List.mem_cons.mp m with q|m
   ·exact absurd (q▸List.mem_cons_of_mem _ List.mem_cons_self) z
   ·refine eR (List.mem_singleton.mp m) ?_;exact bi _ (kp _ _ g1) (le.g _ _ g)
 ·rcases List.mem_cons.mp m with q|m
  ·refine eR q ?_;exact Nat.le_succ _
  ·refine eR (List.mem_singleton.mp m) ?_;exact Nat.le_refl _
theorem lO{N a b:Nat}(h1:a<N)(h2:b<N):ZipApart (N+4) (N+2) (N+3) N (N+1) a b:=by
 constructor<;>(intro z;have z:=z;lia)
theorem xi(K:FOk κ F.env)(Sg:Stat G){e f:PySem.Expr}{p pos:Pos}{m:List V}{ks:List PySem.Expr}{kk:Nat}{tp:Pos}(hg:aX κ ("zip":Str)=true)(ho:OkX e)(ho':OkX f)(h:Ex G F n (eval e F.env) ρ σ (.lst l) σ1)(h':Ex G F n (eval f F.env) ρ σ1 (.lst m) σ2):
  mY G F n (.Call (.Name ("zip":Str) p) [e,f] [] pos) (.Tuple ks kk tp) ρ σ (cI l m) σ2:=by
 intro A ts s R S
 refine gj K Sg S hg (f:=.type "zip") (List.mem_of_getElem? (i:=10) rfl) (cq Sg R S (jZ rfl) (fun x m=>(List.mem_cons.mp m).elim (fun q=>q▸ho) fun m=>List.mem_singleton.mp m▸ho') (fun z=>nomatch z) (dr ho h (dr ho' h' eX)) fun us s1 S1=>S1.onel fun X O W r=>r.two fun v u rv ru=>rv.on fun a vs k g r=>ru.on fun b ws j g' r'=>?_)
 have ga:=W.inv.sub _ _ g
 have gb:=W.inv.sub _ _ g'
 refine call_zip_2 (aO ga) (aO gb) fun h2 e1 e2 e3 e4 e5 e6 kp=>wpAny_pyIter_zip (s:={s1 with heap:=h2}) e1 ?_
 have D:=lO (Heap.lt_size ga) (Heap.lt_size gb)
 have T:Trn G A (.Tuple ks kk tp) (s1.heap.objs.size+4) [s1.heap.objs.size+4,s1.heap.objs.size+2,s1.heap.objs.size+3,s1.heap.objs.size,s1.heap.objs.size+1] [s1.heap.objs.size+4,s1.heap.objs.size+2,s1.heap.objs.size+3,s1.heap.objs.size,s1.heap.objs.size+1,a,b] (cI l m) (fun X=>RpL G X vs.toList l∧RpL G X ws.toList m) _:=
  Trn.ofT (WalksT.zip2 R.h _ _ _ _ _ a b D vs ws) (by rw[oD,←r.sz,←r'.sz]) (fun i s Q hi st _ q=>(WalksT.zip2 R.h _ _ _ _ _ a b D vs ws).item i s Q _ hi st q) (fun X r i vals d p e=>by
   refine hU p fun x y hx hy z4=>?_;subst z4
   refine hU (nH e) fun a b ha hb z4=>?_;subst z4
   exact bi _ rfl (.cons (r.1.at hx ha) (.cons (r.2.at hy hb) .nil))) (fun b m=>by
   rcases List.mem_cons.mp m with q|m
   ·exact q▸List.mem_cons_self
   ·exact List.mem_cons_of_mem _ (List.mem_cons_of_mem _ m)) (fun i h z c m=>AG m ⟨_,z.1⟩ ⟨_,z.2.1⟩ (z.2.2.1.elim fun _ y=>y.elim fun _ y=>⟨_,y⟩) (z.2.2.2.1.elim fun _ y=>⟨_,y.1⟩) (z.2.2.2.2.1.elim fun _ y=>⟨_,y.1⟩))
 refine .mk T ⟨e1,e2,⟨_,_,e3⟩,e4,e5,aO (kp _ _ ga),aO (kp _ _ gb)⟩ (St.raws (W.put1 fun Y le=>⟨⟨r.up le,r'.up le⟩,fun c m z=>?_⟩) kp W.inv.tk (fun c m=>bp ?_) (T.live 0 h2 ⟨e1,e2,⟨_,_,e3⟩,e4,e5,aO (kp _ _ ga),aO (kp _ _ gb)⟩))
 ·have m:c∈[s1.heap.objs.size+4,s1.heap.objs.size+2,s1.heap.objs.size+3,s1.heap.objs.size,s1.heap.objs.size+1]++[a,b]:=m
  rcases List.mem_append.mp m with m|m
  ·exact absurd m z
  ·rcases List.mem_cons.mp m with q|m
   ·refine eR q ?_;exact bi _ (kp _ _ ga) (le.g _ _ g)
   ·refine eR (List.mem_singleton.mp m) ?_;exact bi _ (kp _ _ gb) (le.g _ _ g')
 ·exact AG m (Nat.le_add_right _ _) (Nat.le_add_right _ _) (Nat.le_add_right _ _) (Nat.le_refl _) (Nat.le_add_right _ _)
end
end Mine
namespace Mine
open PySem PySem.W PyProof.Rows
noncomputable def Cc(o:Option Obj)(w:Ow):Option Ow:=match w.t with
 |.st _=>some w
 |_=>o.map fun o=>⟨.raw,.raw o⟩
noncomputable def dO(O:OM)(h:Heap):OM:=fun a=>(O a).bind (Cc (h.get? a))
noncomputable def f6(w:Option Ow):Bool:=match w with
 |some ⟨.st _,_⟩=>true
 |_=>false
noncomputable def jy(O O':OM):OM:=fun a=>if f6 (O' a)then O' a else if f6 (O a)then none else O a
theorem vW{w:Ow}(h:f6 (some w)=true):∃n,w.t=.st n:=by
 obtain⟨t,c⟩:=w
 induction t using Tg.casesOn with
 |st n=>exact⟨n,rfl⟩
 |_=>exact bE h
section
variable {G:Cfg}{F F':Frm}{n:Nat}{κ:bf}{ρ ρ':ay}{ts ts':List Tmp}{σ σ' σ1 σ2:Store}{s s':Shared}{A:Around}{X X' Y:VW}{O O':OM}{h h':Heap}{tk:Tok}{v:Value}{d:V}{a:Addr}{w:Ow}
theorem wB{k:Nat}{c:Ch}(e:O a=some ⟨.st k,c⟩):dO O h a=some ⟨.st k,c⟩:=by unfold dO;refine eR e ?_;rfl
theorem jg{o:Obj}(e:O a=some w)(g:h.get? a=some o)(q:f6 (some w)=false):dO O h a=some ⟨.raw,.raw o⟩:=by
 unfold dO;refine eR e ?_;refine eR g ?_
 clear e g;obtain⟨t,c⟩:=w
 induction t using Tg.casesOn with
 |st _=>injection q
 |_=>rfl
theorem nu(e:dO O h a=some w){C:Prop}(k1:∀n c,O a=some ⟨.st n,c⟩→w=⟨.st n,c⟩→C)(k2:∀w' o,O a=some w'→f6 (some w')=false→h.get? a=some o→w=⟨.raw,.raw o⟩→C):C:=by
 refine ob e fun u e1 e2=>?_
 obtain⟨t,c⟩:=u
 induction t using Tg.casesOn with
 |st n=>clear e k2;injection e2 with z1;subst z1;exact k1 n c e1 rfl
 |_=>exact pI e2 fun o g q=>k2 _ o e1 rfl g q.symm
theorem qb{w':Ow}(e:O' a=some w')(hw:f6 (some w')=false∧w'.t≠.raw)(k:∀w o,O a=some w→h.get? a=some o∧f6 (some w)=false→O' a=some ⟨.raw,.raw o⟩)(l:∀w,O a=some w→∃o,h.get? a=some o):jy O O' a=none:=by
 unfold jy
 refine eR e ?_;refine eR (if_neg (by rw[hw.1];exact Bool.false_ne_true)) ?_
 cases q:O a with
 |none=>exact if_neg Bool.false_ne_true
 |some w=>
  by_cases st:f6 (some w)=true
  ·exact if_pos st
  ·obtain⟨o,g⟩:=l w q
   have:=k w o q ⟨g,Bool.eq_false_iff.mpr st⟩
   rw[e]at this;clear e k l q st g;injection this with z1;subst z1;exact absurd rfl hw.2
theorem Stw.enter(I:Inv G X O σ s)(e1:F'.X=X)(e2:F'.O=dO O s.heap){E:OM}(hE:∀a w,E a=some w→O a=none∧X.g.get? a=none∧cQ G X s.heap a w.c∧f6 (some w)=false)
  (L:Loc G F' X (fun a=>(E a).or (dO O s.heap a)) ρ') (T:Tm F' X (fun a=>(E a).or (dO O s.heap a)) ts'):Stw G F' ρ' ts' σ s X (fun a=>(E a).or (dO O s.heap a)):=by
 have nE:∀a w,O a=some w→E a=none:=fun a w e=>by
  cases q:E a with
  |none=>rfl
  |some u=>have:=(hE a u q).1;rw[e]at this;exact nR this
 have en:∀a w,O a=some w→(E a).or (dO O s.heap a)=dO O s.heap a:=fun a w e=>by refine eR (nE a w e) ?_;rfl
 refine⟨e1▸.refl _,fun a o e=>?_,⟨I.sub,I.x0,fun a w e=>?_,fun n c z1 z2=>?_,I.ml,I.mi,I.idi,I.gens,I.os,I.tk⟩,L,T⟩
 ·replace e:=e2▸e
  refine nu e (fun _ _ q _=>(en a _ q).trans e) fun _ _ q _ _ _=>(en a _ q).trans e
 ·cases q:E a with
  |some u=>
   have e:(E a).or (dO O s.heap a)=some w:=e
   rw[q]at e;refine oE e ?_
   refine gC (hE a _ q) fun _ z2 z3 _=>?_
   exact⟨z2,z3⟩
  |none=>
   have e:(E a).or (dO O s.heap a)=some w:=e
   rw[q]at e
   refine nu e (fun n c z1 z2=>?_) fun w' o z1 _ z2 z3=>?_
   ·refine eR z2 ?_;exact I.own a _ z1
   ·refine eR z3 ?_;exact⟨(I.own a _ z1).1,z2⟩
 ·refine aT (I.st n c z1 z2) fun a m1 m2=>?_
  exact bi a m1 ((en a _ m2).trans (wB m2))
theorem Stw.leave(W:Stw G F ρ ts σ s X O)(e1:F'.X=X)(e2:F'.O=dO O s.heap){P:VW→Prop}(W':Stw G F' ρ' (.up P::ts') σ' s' X' O')(D:List Addr)(ht:0<tk)(kp:∀b o,b∉D→s'.heap.get? b=some o→h'.get? b=some o)
  (hD:∀b∈D,∃w,O' b=some w∧w.t.isT=true):Stw G F ρ (.up P::ts) σ' {s' with heap:=h',toks:=tk} X' (jy O O'):=by
 have I:=W.inv
 have I':=W'.inv
 have le:X.Le X':=e1▸W'.le
 have rw':∀a w,O a=some w→f6 (some w)=false→∃o,s.heap.get? a=some o∧O' a=some ⟨.raw,.raw o⟩:=fun a w e q=>
  Exists.elim ((I.own a w e).2.al) fun o g=>
  ⟨o,g,W'.kp a o (by refine eR e2 ?_;exact jg e g q)⟩
 have keep:∀a w,O a=some w→f6 (some w)=false→jy O O' a=some w:=fun a w e q=>by
  refine aT (rw' a w e q) fun o g z=>?_
  unfold jy
  rw[z,if_neg (by exact Bool.false_ne_true),e,if_neg (by refine eR q ?_;exact Bool.false_ne_true)]
 have nD:∀a w,O' a=some w→w.t.isT=false→a∉D:=fun a w e q m=>by
  refine aT (hD a m) fun u z1 z2=>?_
  rw[e]at z1;injection z1 with z1;subst z1;rw[q]at z2;exact bE z2
 have sub:dS X'.g h':=fun a o e=>kp a o (fun m=>by refine aT (hD a m) fun u z1 _=>?_;rw[(I'.own a u z1).1]at e;exact nE e) (I'.sub a o e)
 refine⟨W.le.trans le,fun a o e=>keep a _ (W.kp a o e) rfl,⟨sub,I'.x0,fun a w e=>?_,fun n c z1 z2=>?_,I'.ml,I'.mi,I'.idi,I'.gens,I'.os,ht⟩,W.loc.up le fun a w e f=>keep a w e ?_,W'.tm.1,W.tm.up le fun a w e f=>keep a w e ?_⟩
 ·unfold jy at e
  by_cases q:f6 (O' a)=true
  ·replace e:=(if_pos q)▸e
   rw[e]at q
   refine Exists.elim (vW q) fun n hn=>?_
   refine cB (I'.own a w e) fun z1 z2=>?_
   exact⟨z1,z2.keep (.refl _) fun o=>kp a o (nD a w e (by refine eR hn ?_;rfl))⟩
  ·rw[if_neg q]at e
   by_cases q':f6 (O a)=true
   ·rw[if_pos q']at e;exact nE e
   ·replace e:=(if_neg q')▸e
    rw[e]at q'
    refine aT (rw' a w e (Bool.eq_false_iff.mpr q')) fun o g z=>?_
    refine cB (I'.own a _ z) fun z1 z2=>?_
    refine⟨z1,(I.own a w e).2.keep le fun o' e'=>?_⟩
    rw[g]at e';refine oE e' ?_
    exact kp a o (nD a _ z rfl) z2
 ·refine aT (I'.st n c z1 z2) fun a m1 m2=>?_
  refine bi a m1 ?_
  unfold jy
  refine eR m2 ?_;rfl
 ·obtain⟨t,c⟩:=w
  cases t<;>first|rfl|injection f
 ·obtain⟨t,c⟩:=w
  cases t<;>first|rfl|exact bE f
theorem Stw.rawAdd(W:Stw G F ρ ts σ s X O){N:List Addr}(hN:∀b∈N,O b=none∧X.g.get? b=none∧∃o,s.heap.get? b=some o):St G F ρ (.raw N s.heap::ts) σ s:=by
 have I:=W.inv
 have ne:∀a w,O a=some w→(if a∈N then(s.heap.get? a).map (fun o=>(⟨.tm (fP ts),.raw o⟩:Ow))else O a)=some w:=fun a w e=>(if_neg fun m=>by rw[(hN a m).1]at e;exact nE e).trans e
 refine⟨X,fun b=>if b∈N then(s.heap.get? b).map fun o=>⟨.tm (fP ts),.raw o⟩else O b,mV (r:=[]) ⟨W.le,fun a o e=>ne _ _ (W.kp a o e),⟨I.sub,I.x0,fun a w e=>?_,fun n c z1 z2=>aT (I.st n c z1 z2) fun a m1 m2=>(bi a m1 (ne _ _ m2)),I.ml,I.mi,I.idi,I.gens,I.os,I.tk⟩,W.loc.up (.refl X) fun a w e _=>ne a w e,W.tm.up (.refl X) fun a w e _=>ne a w e⟩ fun b m=>(hN b m).2.2⟩
 by_cases m:a∈N
 ·have e:(if a∈N then(s.heap.get? a).map (fun o=>(⟨.tm (fP ts),.raw o⟩:Ow))else O a)=some w:=e
  rw[if_pos m]at e
  refine aT (i9 e) fun o g z2=>?_;subst z2
  exact⟨(hN a m).2.1,g⟩
 ·have e:(if a∈N then(s.heap.get? a).map (fun o=>(⟨.tm (fP ts),.raw o⟩:Ow))else O a)=some w:=e
  rw[if_neg m]at e
  exact I.own a w e
noncomputable def fO(env:Env):List (Str × NameKind)→List (Str × Addr)→List (Str × Addr)
 |[],acc=>acc
 |x::r,acc=>fO env r (if x.2== .free then(x.1,(env.cells.lookup x.1).getD 0)::acc else acc)
theorem qG{sc:Scope}{env:Env}(h:∀x∈sc.names,x.2=.free→(env.cells.lookup x.1).isSome):closureFor sc env=pure (fO env sc.names []):=by
 have key:∀(l:List (Str × NameKind))(acc:List (Str × Addr)),(∀x∈l,x.2=.free→(env.cells.lookup x.1).isSome)→
   (forIn l acc fun x (cs:List (Str × Addr))=>if x.2== .free then(do let a←cellOf env x.1;pure (ForInStep.yield ((x.1,a)::cs)))else(pure (ForInStep.yield cs):Sem _))=pure (fO env l acc):=by
  intro l
  induction l with
  |nil=>intro acc _;rfl
  |cons x r ih=>
   intro acc hx
   rw[List.forIn_cons]
   unfold fO
   have ih:=fun acc=>ih acc fun z hz=>hx z (List.mem_cons_of_mem _ hz)
   by_cases q:x.2=.free
   ·refine Exists.elim (Option.isSome_iff_exists.mp (hx x List.mem_cons_self q)) fun a ha=>?_
    have hc:cellOf env x.1=pure a:=by unfold cellOf;rw[ha]
    rw[q,beq_self_eq_true,if_pos rfl,if_pos rfl,hc,ha,pure_bind,pure_bind]
    exact ih _
   ·rw[beq_eq_false_iff_ne.mpr q,if_neg Bool.false_ne_true,if_neg Bool.false_ne_true,pure_bind]
    exact ih _
 unfold closureFor
 have:=key sc.names [] h
 simp only [←this,bind_pure]
theorem jx{env:Env}{y:Str}{l:List (Str × NameKind)}{acc:List (Str × Addr)}(h:∀a,acc.lookup y=some a→a=(env.cells.lookup y).getD 0)(h':(y,NameKind.free)∈l∨(acc.lookup y).isSome):(fO env l acc).lookup y=some ((env.cells.lookup y).getD 0):=by
 induction l generalizing acc with
 |nil=>
  obtain⟨a,e⟩:=Option.isSome_iff_exists.mp (h'.resolve_left (fun z=>nomatch z))
  exact e.trans (by rw[h a e])
 |cons x r ih=>
  unfold fO
  have h1:(y,NameKind.free)∈x::r→x=(y,.free)∨(y,NameKind.free)∈r:=fun m=>(List.mem_cons.mp m).imp Eq.symm id
  by_cases q:x.2=.free
  ·rw[q,beq_self_eq_true,if_pos rfl]
   by_cases e:y=x.1
   ·exact ih (fun a ea=>by rw[e,List.lookup_cons,beq_self_eq_true]at ea;refine oE ea ?_;rw[e]) (.inr (by rw[e,List.lookup_cons,beq_self_eq_true];rfl))
   ·have e':(y==x.1)=false:=beq_eq_false_iff_ne.mpr e
    refine ih (fun a ea=>h a (by rw[List.lookup_cons,e']at ea;exact ea)) ?_
    exact h'.elim (fun m=>(h1 m).elim (fun z=>absurd (by rw[z]) e) .inl) fun m=>.inr (by refine eR List.lookup_cons ?_;refine eR e' ?_;exact m)
  ·refine eR (beq_eq_false_iff_ne.mpr q) ?_;refine eR (if_neg Bool.false_ne_true) ?_
   exact ih h (h'.elim (fun m=>(h1 m).elim (fun z=>absurd (by rw[z]) q) .inl) .inr)
theorem iM{env:Env}{x:Str}(l:List (Str × NameKind)):(l.map fun(n,k)=>if(k==NameKind.free&&env.scope.kind== .function&&env.kindOf n==some .cell)then(n,NameKind.cell)else(n,k)).lookup x=
  (l.lookup x).map fun k=>if(k==NameKind.free&&env.scope.kind== .function&&env.kindOf x==some .cell)then NameKind.cell else k:=by
 induction l with
 |nil=>rfl
 |cons y r ih=>
  obtain⟨n,k⟩:=y
  refine eR List.map_cons ?_;refine eR (List.lookup_cons (k:=n)) ?_
  dsimp only
  by_cases e:x=n
  ·subst e
   rw[beq_self_eq_true]
   by_cases c:(k==NameKind.free&&env.scope.kind== .function&&env.kindOf x==some .cell)=true
   ·rw[if_pos c,List.lookup_cons,beq_self_eq_true];exact congrArg some (if_pos c).symm
   ·rw[if_neg c,List.lookup_cons,beq_self_eq_true];exact congrArg some (if_neg c).symm
  ·have e':(x==n)=false:=beq_eq_false_iff_ne.mpr e
   refine eR e' ?_;refine eE ih ?_
   by_cases c:(k==NameKind.free&&env.scope.kind== .function&&env.kindOf n==some .cell)=true
   ·rw[if_pos c,List.lookup_cons,e']
   ·rw[if_neg c,List.lookup_cons,e']
theorem bN{α:Type}{y:Str}{k:α}{l:List (Str × α)}(h:l.lookup y=some k):(y,k)∈l:=by
 induction l with
 |nil=>exact nE h
 |cons x l ih=>
  rw[List.lookup_cons]at h
  by_cases e:y=x.1
  ·rw[e,beq_self_eq_true]at h;refine oE h ?_;refine eR e ?_;exact List.mem_cons_self
  ·rw[beq_eq_false_iff_ne.mpr e]at h;exact List.mem_cons_of_mem _ (ih h)
structure ScOk(κ:bf)(sc:Scope)(tg fv:List Nat):Prop where
 fn:sc.kind=.function
 kinds:∀x∈sc.names,x.2=.local∨x.2=.free∨x.2=.globalImplicit
 self:∀x∈sc.names,sc.names.lookup x.1=some x.2
 tg:∀i∈tg,sc.names.lookup (nm i)=some .local
 fv:∀i∈fv,sc.names.lookup (nm i)=some .free
 free:∀x∈sc.names,x.2=.free→κ.lookup x.1=some .cell∨κ.lookup x.1=some .free
theorem Bi{a b:Bool}(h:(a||b)=true):a=true∨b=true:=by rwa [Bool.or_eq_true]at h
theorem qO{sc:Scope}{tg fv:List Nat}(h:wO κ sc tg fv=true):ScOk κ sc tg fv:=by
 unfold wO at h
 refine cB (ae h) fun h h6=>?_
 refine cB (ae h) fun h h5=>?_
 refine cB (ae h) fun h h4=>?_
 refine cB (ae h) fun h h3=>?_
 refine cB (ae h) fun h1 h2=>?_
 exact⟨beq_iff_eq.mp h1,fun x m=>(Bi (List.all_eq_true.mp h2 x m)).elim (fun z=>(Bi z).imp beq_iff_eq.mp fun z=>.inl (beq_iff_eq.mp z)) fun z=>.inr (.inr (beq_iff_eq.mp z)),fun x m=>beq_iff_eq.mp (List.all_eq_true.mp h3 x m),
  fun i m=>beq_iff_eq.mp (List.all_eq_true.mp h4 i m),fun i m=>beq_iff_eq.mp (List.all_eq_true.mp h5 i m),fun x m e=>(Bi (ae ((Bi (List.all_eq_true.mp h6 x m)).resolve_left fun z=>bne_iff_ne.mp z e)).2).imp beq_iff_eq.mp beq_iff_eq.mp⟩
variable {sc:Scope}{tg fv:List Nat}{env:Env}{C:Addr}
theorem iA(y:Str):(compEnvC sc (fO env sc.names []) C env).kindOf y=(sc.names.lookup y).map fun k=>if(k==NameKind.free&&env.scope.kind== .function&&env.kindOf y==some .cell)then NameKind.cell else k:=iM sc.names
theorem jk{y:Str}(h:sc.names.lookup y=some .local):(compEnvC sc (fO env sc.names []) C env).kindOf y=some .local:=by rw[iA,h];rfl
theorem lQ{y:Str}(h:sc.names.lookup y=some .free):(compEnvC sc (fO env sc.names []) C env).kindOf y=some .cell∨(compEnvC sc (fO env sc.names []) C env).kindOf y=some .free:=by
 rw[iA,h,Option.map_some]
 split
 ·exact .inl rfl
 ·exact .inr rfl
theorem oK(s:ScOk κ sc tg fv)(K:FOk κ env):FOk sc.names (compEnvC sc (fO env sc.names []) C env):=by
 have nocell:∀y,sc.names.lookup y≠some .cell:=fun y h=>by rcases s.kinds _ (bN h)with e|e|e<;>injection e
 refine⟨fun y h=>by rw[iA,h];rfl,fun y h=>?_,fun y h=>jk h⟩
 have h:=h.resolve_left (nocell y)
 refine⟨lQ h,?_⟩
 show((fO env sc.names []).lookup y).isSome
 refine eR (jx (acc:=[]) (fun a e=>nomatch e) (.inl (bN h))) ?_;rfl
theorem xw(s:ScOk κ sc tg fv)(K:FOk κ env):closureFor sc env=pure (fO env sc.names []):=
 qG fun x m e=>(K.c x.1 (s.free x m e)).2
end
end Mine
namespace Mine
open PySem PySem.W PyProof.Rows
noncomputable def jt(ifs:List PySem.Expr)(env:Env):Sem Bool:=forIn ifs true fun c r=>if r=true then do let ok←isTrue c env (eval c env);pure (ForInStep.yield ok)else pure (ForInStep.yield r)
theorem p9{prog:Program}{w:World}{A:Around}{elt target iter:PySem.Expr}{ifs:List PySem.Expr}{scope:Scope}{pos:Pos}{it acc:Value}{env:Env}{R:Result→Shared→Prop}{s:Shared}(I:Nat→Shared→Prop)
  (turn:∀n s,I n s→wpAny (model prog w) A (pyNext it) (fun r s1=>match r with
   |none=>R (.ok .next) s1
   |some v=>wpAny (model prog w) A (letOwnedTupleGo target it v) (fun _ s2=>wpAny (model prog w) A (assign target env v) (fun _ s3=>
     wpAny (model prog w) A (jt ifs env) (fun ok s4=>
      if ok=true then wpAny (model prog w) A (eval elt env) (fun x s5=>
       wpAny (model prog w) A (call (.builtin "list.append") [acc,x]) (fun _ s6=>∃m,m<n∧I m s6) (fun _ _=>False) s5) (fun _ _=>False) s4
      else∃m,m<n∧I m s4) (fun _ _=>False) s3) (fun _ _=>False) s2) (fun _ _=>False) s1) (fun _ _=>False) s)
  (n:Nat) (h:I n s):codeAny (model prog w) A (.compLoop (.ListComp elt [⟨target,iter,ifs,0⟩] scope pos) 0 it acc env) R s:=by
 refine codeAny_loop rfl I (fun n s hI=>?_) n h
 show wpAny _ A ((compTurn (.ListComp elt [⟨target,iter,ifs,0⟩] scope pos) 0 it acc env).onRaise (fun x=>do noteFrame x env;theTreesLotGoes x)) _ _ s
 refine wpAny_noted ?_
 rw[compTurn_list]
 refine wpAny_bind (wpAny_standAt (wpAny_bind (wpAny_mono (turn n s hI) (fun r s1 h1=>?_) fun _ _ e=>e.elim)))
 induction r using Option.casesOn with
 |none=>exact wpAny_pure h1
 |some v=>
  refine wpAny_bind (wpAny_mono h1 (fun _ s2 h2=>?_) fun _ _ e=>e.elim)
  refine wpAny_bind (wpAny_mono h2 (fun _ s3 h3=>?_) fun _ _ e=>e.elim)
  refine wpAny_bind (wpAny_mono h3 (fun ok s4 h4=>?_) fun _ _ e=>e.elim)
  induction ok using Bool.casesOn with
  |false=>exact wpAny_pure ⟨rfl,h4⟩
  |true=>
   refine wpAny_bind (wpAny_bind (wpAny_mono h4 (fun x s5 h5=>?_) fun _ _ e=>e.elim))
   exact wpAny_bind (wpAny_mono h5 (fun _ s6 h6=>wpAny_pure (wpAny_pure ⟨rfl,h6⟩)) fun _ _ e=>e.elim)
theorem jo{ρ:ay}{fv:List Nat}{x:Nat}{sl:Slot}(h:bo ρ fv x=some sl){C:Prop}(k:x∈fv→∀d,ρ x=some (.v d)→sl=.v d→C):C:=by
 by_cases q:fv.contains x=true
 ·have h:=(if_pos q).symm.trans h
  cases e:ρ x with
  |none=>rw[e]at h;exact nE h
  |some u=>rw[e]at h;induction u using Slot.casesOn with
   |v d=>injection h with z1;exact k (by simpa using q) d e z1.symm
   |_=>exact nE h
 ·exact nE ((if_neg q).symm.trans h)
theorem oC{tg:List Nat}{d:V}{ρ ρ1:ay}(h:cP tg d ρ=some ρ1){x:Nat}(hx:x∉tg):ρ1 x=ρ x:=by
 have st:∀(ρ:ay) i sl,x≠i→ρ.set i sl x=ρ x:=fun ρ i sl n=>if_neg n
 refine ql (M:=fun tg d ρ1=>x∉tg→ρ1 x=ρ x) h (fun i d hx=>st _ _ _ fun z=>hx (z▸List.mem_cons_self)) (fun i j _ a b hx=>?_) (fun i j k _ a b c hx=>?_) hx
 ·rw[List.mem_cons,List.mem_singleton,not_or]at hx
  rw[st _ _ _ hx.2,st _ _ _ hx.1]
 ·rw[List.mem_cons,List.mem_cons,List.mem_singleton,not_or,not_or]at hx
  rw[st _ _ _ hx.2.2,st _ _ _ hx.2.1,st _ _ _ hx.1]
theorem kA{σ:Store}{f:V→Store→Option (List V × Store)}{x:V}{r:List V}{q:List V × Store}(h:compLoop f (x::r) σ=some q){C:Prop}(k:∀ys σ1 zs σ2,f x σ=some (ys,σ1)→compLoop f r σ1=some (zs,σ2)→q=(ys++zs,σ2)→C):C:=by
 have h:=h
 exact ca h fun ys σ1 e1 h=>ca h fun zs σ2 e2 h=>k ys σ1 zs σ2 e1 e2 (Option.some.inj h).symm
noncomputable def cF(F:Frm)(sc:Scope)(hk:sc.kind=.function)(C:Addr)(X:VW)(O:OM):Frm:=⟨compEnvC sc (fO F.env sc.names []) C F.env,[],X,O,hk,F.glob,F.blt⟩
section
variable {G:Cfg}{F F':Frm}{n:Nat}{κ:bf}{ρ ρ':ay}{ts ts':List Tmp}{σ σ' σ1 σ2:Store}{s s':Shared}{A:Around}{X X' Y:VW}{O O':OM}{h h':Heap}{tk:Tok}{v:Value}{d:V}{sc:Scope}{tg fv:List Nat}
theorem St.subρ(S:St G F ρ ts σ s)(h:∀x sl,ρ' x=some sl→ρ x=some sl):St G F ρ' ts σ s:=
 S.on fun X O W=>⟨X,O,W.le,W.kp,W.inv,⟨W.loc.ns,W.loc.cl,fun x sl e=>W.loc.v x sl (h x sl e)⟩,W.tm⟩
structure CNew(env:Env)(cs fv:List Nat)(F:Frm)(h h':Heap)(M:List Addr)(E0:OM):Prop where
 e:∀a w,E0 a=some w→h.get? a=none∧a∉M∧f6 (some w)=false∧∀G Y,cQ G Y h' a w.c
 ns:∃m,E0 env.locals=some ⟨.fr,.ns m⟩
 cl:∀x∈cs,∃c v,env.cells.lookup (nm x)=some c∧E0 c=some ⟨.cl x,.cell v⟩∧env.kindOf (nm x)=some .cell
 fr:∀x∈fv,(env.kindOf (nm x)=some .cell∨env.kindOf (nm x)=some .free)∧(∀c,F.env.cells.lookup (nm x)=some c→env.cells.lookup (nm x)=some c)∧(F.env.kindOf (nm x)=some .cell∨F.env.kindOf (nm x)=some .free)
theorem qf{env:Env}{cs:List Nat}(hk:env.scope.kind=.function)(hg':env.globals=mainGlobals)(hb:env.builtins=builtinsNs){N M:List Addr}{hg:Heap}{P:VW→Prop}{E0:OM}(S:St G F ρ (.raw N hg:: .up P::ts) σ s)(hM:∀b∈N,b∈M)(ht:0<tk)(k:dS s.heap h')(hf:∀b∈M,b∉N→s.heap.get? b=none)(hl:∀b∈M,∃o,h'.get? b=some o)(Nw:CNew env cs fv F s.heap h' M E0)
  {Z:Prop} (z:∀X O,Stw G F ρ ts σ {s with heap:=h',toks:=tk} X O→St G ⟨env,cs,X,dO O h',hk,hg',hb⟩ (bo ρ fv) [.raw M h',.up P] σ {s with heap:=h',toks:=tk}→Z):Z:=by
 refine S.on fun X O W=>?_
 have lvN:∀b∈N,∃o,O b=some ⟨.tm (fP ts),.raw o⟩:=fun b m=>aT (W.tm.1 b m) fun o _ w=>⟨o,w⟩
 have nf:∀b,s.heap.get? b=none→X.g.get? b=none∧O b=none:=fun b m=>⟨W.inv.sub.none m,by
  cases e:O b with
  |none=>rfl
  |some w=>obtain⟨o,e'⟩:=(W.inv.own b w e).2.al;rw[m]at e';exact nE e'⟩
 have nM:∀b∈M,X.g.get? b=none∧(if b∈N then none else O b)=none:=fun b m=>by
  by_cases q:b∈N
  ·refine Exists.elim (lvN b q) fun o w=>?_;exact⟨(W.inv.own b _ w).1,if_pos q⟩
  ·refine eR (if_neg q) ?_;exact nf b (hf b m q)
 have nE:∀a w,E0 a=some w→X.g.get? a=none∧(if a∈N then none else O a)=none:=fun a w e=>by
  have⟨x,y⟩:=nf a (Nw.e a w e).1
  exact⟨x,by split;rfl;exact y⟩
 have⟨W1,le⟩:=W.turn (r:=fun _=>none) (p:=fun _=>false) ht (fun b o _=>k b o) (fun _ e=>nomatch e) fun _ _ _ e=>nomatch e
 let E:OM:=fun b=>(E0 b).or (if b∈M then(h'.get? b).map fun o=>⟨.tm 0,.raw o⟩else none)
 have up:∀a w,E0 a=some w→(fun a=>(E a).or (dO (fun b=>if b∈N then none else O b) h' a)) a=some w:=fun a w e=>by
  show Option.or (Option.or _ _) _=_
  refine eR e ?_;rfl
 refine z _ _ ⟨W1.le,W1.kp,W1.inv,W1.loc,W1.tm.2⟩ ⟨_,_,Stw.enter W1.inv (F':=⟨env,cs,_,_,hk,hg',hb⟩) rfl rfl (E:=E) (fun a w e=>?_) ⟨Exists.elim Nw.ns fun m e=>⟨m,up _ _ e⟩,fun x m=>hU (Nw.cl x m) fun c v e1 e2 e3=>(gc c v e1 (up _ _ e2) e3),fun x sl e=>?_⟩ (fz (fun b m=>?_) (fun Y l=>W1.tm.1 Y l) trivial)⟩
 ·have e:(E0 a).or (if a∈M then(h'.get? a).map fun o=>(⟨.tm 0,.raw o⟩:Ow)else none)=some w:=e
  cases q:E0 a with
  |some u=>
   replace e:=q▸e;cases e
   have r:=Nw.e a w q
   have y:=nE a w q
   exact⟨y.2,cg y.1 rfl,r.2.2.2 _ _,r.2.2.1⟩
  |none=>
   rw[q,Option.none_or]at e
   by_cases q':a∈M
   ·rw[if_pos q']at e
    refine aT (i9 e) fun o g z2=>?_;subst z2
    exact⟨(nM a q').2,cg (nM a q').1 rfl,g,rfl⟩
   ·rw[if_neg q']at e;exact nomatch e
 ·refine jo e fun hx d e1 e2=>?_
  clear hg S hM ht k hf hl W lvN nf le up e;subst e2
  refine aT (W1.loc.v x _ e1) fun v sv hv=>?_
  refine o6 (Nw.fr x hx) fun fk fc hk'=>?_
  have out:∃c o,F.env.cells.lookup (nm x)=some c∧(∃w,(if c∈N then none else O c)=some w∧f6 (some w)=false)∧h'.get? c=some o∧o.data=.cell (some v):=by
   rcases hv with(⟨k1,_⟩|⟨_,c,l1,oc⟩)|⟨_,_,c,o,l1,oc,dd⟩
   ·rcases hk' with z|z<;>rw[k1]at z<;>exact absurd z (by decide)
   ·refine aT ((W1.inv.own c _ oc).2) fun o g dd=>?_;exact gi c o l1 ⟨_,oc,rfl⟩ g dd
   ·exact gi c o l1 ⟨_,oc,rfl⟩ ((W1.inv.own c _ oc).2) dd
  refine f8 out fun c o l1 y3 g dd=>?_;refine aT y3 fun w oc q=>?_
  refine bi v sv (.inr ⟨⟨d,rfl⟩,fk,c,o,fc c l1,?_,dd⟩)
  have n2:c∉M:=fun m=>by rw[(nM c m).2]at oc;exact nomatch oc
  have n1:E0 c=none:=by
   cases y:E0 c with
   |none=>rfl
   |some u=>rw[(nE c u y).2]at oc;exact nomatch oc
  show Option.or (Option.or (E0 c) (if c∈M then _ else none)) _=_
  refine eR n1 ?_;refine eR (if_neg n2) ?_
  exact jg (O:=fun b=>if b∈N then none else O b) oc g q
 ·obtain⟨o,g⟩:=hl b m
  refine bi o g ?_
  have n1:E0 b=none:=by
   cases y:E0 b with
   |none=>rfl
   |some u=>exact absurd m (Nw.e b u y).2.1
  show Option.or (Option.or (E0 b) (if b∈M then _ else none)) _=_
  refine eR n1 ?_;refine eR (if_pos m) ?_;refine eR g ?_;rfl
noncomputable def jr(G:Cfg)(n:Nat)(F:Frm)(elt:PySem.Expr)(ifs:List PySem.Expr)(tg:List Nat)(ρ:ay)(f:V→Store→Option (List V × Store)):Prop:=
 ∀x σ r σ',f x σ=some (r,σ')→∃ρ1,cP tg x ρ=some ρ1∧∀A ts s,Room n A→St G F ρ1 ts σ s→
  bC G A (jt ifs F.env) (fun ok s3=>if ok=true then∃d σ3,r=[d]∧St G F ρ1 ts σ3 s3∧Ex G F n (eval elt F.env) ρ1 σ3 d σ' else r=[]∧St G F ρ1 ts σ' s3) s
inductive CompI (G:Cfg)(F:Frm)(ρ:ay)(N M fp:List Addr)(D:Addr)(l:List V)(P:VW→Prop)(Q0:Nat→Heap→Prop)(f:V→Store→Option (List V × Store))(r:List V)(σ2:Store)(k:Nat)(s:Shared):Prop
 |mk (i:Nat) (hg:Heap) (σ:Store) (ys:List Value) (c:Nat) (acc rest:List V) (k:k=l.length+1-i) (le:i≤l.length) (q0:Q0 i hg) (S:St G F ρ [.raw M hg,.up (fun X=>P X∧s0 fp N hg X),vals G ys acc] σ s) (hD:hg.get? D=some (listOf ys.toArray c)) (hy:ys.length≤i)
   (h:compLoop f (l.drop i) σ=some (rest,σ2)) (e:r=acc++rest)
theorem sT(hn:∀i j,nm i=nm j→i=j){y iter elt:PySem.Expr}{ifs:List PySem.Expr}{pos:Pos}{D I:Addr}{N fp:List Addr}{l r:List V}{P:VW→Prop}{Q0:Nat→Heap→Prop}{f:V→Store→Option (List V × Store)}{RR:Result→Shared→Prop}
  (R:Room n A) (hx:∀x∈tg,b6 F x) (ht:∀x∈tg,ρ x=none) (he:jr G n F elt ifs tg ρ f) (hlim:l.length≤bq) (T:Trn G A (eP nm tg y) I N fp l P Q0) (hDN:D∉N) (hDf:D∉fp) (h:CompI G F ρ N (D::N) fp D l P Q0 f r σ2 (l.length+1) s)
  (hR:∀s',St G F ρ [val G (.ref D) (.lst r)] σ2 s'→RR (.ok .next) s'):codeAny (model G.prog G.w) A (.compLoop (.ListComp elt [⟨eP nm tg y,iter,ifs,0⟩] sc pos) 0 (.ref I) (.ref D) F.env) RR s:=by
 refine p9 (CompI G F ρ N (D::N) fp D l P Q0 f r σ2) ?_ (l.length+1) h
 rintro k s' ⟨i,hg,σ1,ys,c,acc,rest,rfl,hi,q1,S1,hD1,hys,hr,hacc⟩
 have hf:∀b∈fp,b∉N→b∉D::N:=fun b m z q=>(List.mem_cons.mp q).elim (fun e=>hDf (e▸m)) z
 have q1:=T.at (fun b m=>List.mem_cons_of_mem _ m) q1 S1
 have hD1:s'.heap.get? D=some (listOf ys.toArray c):=S1.on fun X O W=>aT (W.tm.1 D List.mem_cons_self) fun o e w=>by rw[hD1]at e;refine oR e ?_;exact(W.inv.own D _ w).2
 by_cases hlt:i<l.length
 ·have e:l[i]? =some l[i]:=List.getElem?_eq_getElem hlt
  rw[List.drop_eq_getElem_cons hlt]at hr
  refine kA hr fun zs σ3 rest' σ4 ef hr3 er=>?_
  injection er with z1 z2;subst z1 z2
  refine aT (he _ _ _ _ ef) fun ρ1 eb xb=>?_
  have back:∀j sl,ρ j=some sl→ρ1 j=some sl:=fun j sl z=>by
   refine eR (oC eb fun q=>by rw[ht j q]at z;exact nE z) ?_;exact z
  let J:Value→Shared→Prop:=fun v s2=>bC G A (assign (eP nm tg y) F.env v) (fun _ s3=>bC G A (jt ifs F.env) (fun ok s4=>
      if ok=true then bC G A (eval elt F.env) (fun x s5=>bC G A (call (.builtin "list.append") [.ref D,x]) (fun _ s6=>∃m,m<l.length+1-i∧CompI G F ρ N (D::N) fp D l P Q0 f r σ2 m s6) s5) s4
      else∃m,m<l.length+1-i∧CompI G F ρ N (D::N) fp D l P Q0 f r σ2 m s4) s3) s2
  have dec:l.length+1-(i+1)<l.length+1-i:=Nat.sub_lt_sub_left (Nat.lt_succ_of_lt hlt) (Nat.lt_succ_self i)
  refine ad (T.item i l[i] s' J e q1 S1.tk fun v h2 tk2 p q2 ht2 kp2 hp2 hr2=>?_) fun r s2 w9=>aT w9 fun v er hv=>?_
  ·have hD2:=kp2 D _ hDN hD1
   have S2:=St.turn2 (M:=D::N) hf S1 ht2 (fun b o z=>kp2 b o fun q=>z (List.mem_cons_of_mem _ q)) hp2 (fun b m=>(List.mem_cons.mp m).elim (fun q=>⟨_,q▸hD2⟩) (T.live _ _ q2 b)) hr2
   refine ad (lY hn R hx eb S2 rfl) fun _ s3 S3=>ad (xb A _ s3 R S3) fun ok s4 hok=>?_
   clear hn iter ifs pos RR hx ht he hDN h hR s' σ1 S1 q1 hD1 ef hr eb xb J kp2 hp2 hr2 S2 s3 S3;induction ok using Bool.casesOn with
   |false=>
    rw[if_neg Bool.false_ne_true]at hok ⊢
    obtain⟨z1,S4⟩:=hok
    subst z1
    exact⟨_,dec,i+1,h2,σ3,ys,c,acc,rest',rfl,hlt,q2,S4.subρ back,hD2,Nat.le_succ_of_le hys,hr3,hacc⟩
   |true=>
    rw[if_pos rfl]at hok ⊢
    refine hU hok fun d σ5 z1 S4 xe=>?_
    subst z1
    refine ad (xe A _ s4 R S4) fun x s5 S5=>?_
    refine append_at (its:=ys.toArray) (n:=c) (show s5.heap.get? D=some (listOf ys.toArray c)from S5.on fun X O W=>aT (W.tm.2.1 D List.mem_cons_self) fun o e w=>by rw[hD2]at e;refine oR e ?_;exact(W.inv.own D _ w).2) (fun h6 hs6 hD6=>?_) (by refine eR List.size_toArray ?_;exact Nat.le_trans hys (Nat.le_trans (Nat.le_of_lt hlt) (Nat.le_trans hlim (by decide))))
    have S6:St G F ρ1 (.raw (D::N) h2:: .up (fun X=>P X∧s0 fp N h2 X)::vals G (ys++[x]) (acc++[d])::[]) σ3 s5:=S5.sub fun X O t=>p6 t.2.1 t.2.2.1 (fun Y le=>(t.2.2.2.1 Y le).append (.cons (t.1 Y le) .nil)) trivial
    have kp6:∀b o,b≠D→s5.heap.get? b=some o→h6.get? b=some o:=fun b o e=>hs6.extBut b o e
    have lv6:∀b∈D::N,∃o,h6.get? b=some o:=fun b m=>by
     by_cases q:b=D
     ·exact⟨_,q▸hD6⟩
     ·obtain⟨o,e,w⟩:=S6.on fun X O W=>(aT (W.tm.1 b m) fun o e w=>(bi o e ((W.inv.own b _ w).2)):∃o,h2.get? b=some o∧s5.heap.get? b=some o)
      exact⟨o,kp6 b o q w⟩
    have S7:=St.turn2 (M:=D::N) (p:=fun _=>false) (v:=.none) (d:=.none) hf S6 S6.tk (fun b o z=>kp6 b o fun q=>z (q▸List.mem_cons_self)) (fun _ e=>nomatch e) lv6 fun _ _ _=>.none
    refine⟨_,dec,i+1,h6,σ3,ys++[x],c+1,acc++[d],rest',rfl,hlt,(show Q0 (i+1) h6 from T.frame _ _ _ (T.at (fun b m=>List.mem_cons_of_mem _ m) q2 S6) fun b m o=>kp6 b o fun q=>hDf (q▸m)),S7.pop.subρ back,?_,?_,hr3,by refine eR hacc ?_;exact(List.append_assoc ..).symm⟩
    ·refine eR hD6 ?_;simp[PySem.W.listOf]
    ·refine eR List.length_append ?_;exact Nat.succ_le_succ hys
  ·clear hn iter pos R hx ht he hlim T hDN hDf h hR s' σ1 acc hi S1 hys hf q1 hD1 hlt e zs σ3 rest' ef hacc hr hr3 ρ1 eb xb back dec w9;subst er
   exact hv
 ·obtain rfl:i=l.length:=Nat.le_antisymm hi (Nat.not_lt.mp hlt)
  replace hr:=List.drop_length▸hr
  clear hn iter pos R hx ht he hlim hDf h hf hi hys hlt;injection hr with z1;injection z1 with z2 z3;subst z2 z3
  rw[List.append_nil]at hacc
  subst hacc
  refine T.done s' _ q1 S1.tk fun h2 tk2 ht2 kp2=>hR _ (S1.on fun X O W=>?_)
  have⟨W',le⟩:=W.turn (r:=fun _=>none) (p:=fun a=>a==D) ht2 (h':=h2) (fun b o z=>kp2 b o fun q=>z (List.mem_cons_of_mem _ q)) (fun a q=>if_pos (beq_iff_eq.mp q▸List.mem_cons_self)) fun _ _ _ e=>nomatch e
  exact⟨_,_,W'.le,W'.kp,W'.inv,W'.loc,fun Y l=>Rp.lst' (vs:=ys.toArray) (l.g _ _ (dY (beq_self_eq_true _) (kp2 D _ hDN hD1))) (W'.tm.2.1 Y l),trivial⟩
theorem qZ(Sg:Stat G){elt y iter:PySem.Expr}{ifs:List PySem.Expr}{pos:Pos}{l r:List V}{f:V→Store→Option (List V × Store)}{env:Env}{cs:List Nat}(hk:env.scope.kind=.function)(hg':env.globals=mainGlobals)(hb:env.builtins=builtinsNs){I:Addr}{N fp:List Addr}{P:VW→Prop}{Q0:Nat→Heap→Prop}{hg h4:Heap}{E0:OM}
  (he:∀X O ts s,Stw G F ρ ts σ1 s X O→jr G n ⟨env,cs,X,dO O s.heap,hk,hg',hb⟩ elt ifs tg (bo ρ fv) f) (hx:∀x∈tg,x∉fv∧(env.kindOf (nm x)=some .local∨x∈cs)) (hlim:l.length≤bq) (T:Trn G A (eP nm tg y) I N fp l P Q0) (q0:Q0 0 hg) (S:St G F ρ (.raw N hg:: .up (fun X=>P X∧s0 fp N hg X)::ts) σ1 s) (h:compLoop f l σ1=some (r,σ2)) (R:Room n A)
  (up4:dS s.heap h4) (ht:0<tk) (hD4:h4.get? s.heap.objs.size=some (listOf ([]:List Value).toArray 0)) (Nw:CNew env cs fv F s.heap h4 (s.heap.objs.size::N) E0) {use:Option (Value→Sem Unit)} {Q:Value→Shared→Prop}
  (k:∀hC s',s'.heap.get? env.locals=hC.get? env.locals→(∃m,s'.heap.Ns env.locals m)→St G F ρ (val G (.ref s.heap.objs.size) (.lst r):: .raw [env.locals] hC::ts) σ2 s'→compPost (model G.prog G.w) A (fun _ _=>False) use Q (.ref s.heap.objs.size) env.locals (.ok .next) s'):
  codeAny (model G.prog G.w) A (.compStart (.ListComp elt [⟨eP nm tg y,iter,ifs,0⟩] sc pos) 0 (.ref I) (.ref s.heap.objs.size) env) (compPost (model G.prog G.w) A (fun _ _=>False) use Q (.ref s.heap.objs.size) env.locals) {s with heap:=h4,toks:=tk}:=by
 have fresh2:∀a,s.heap.objs.size≤a→s.heap.get? a=none:=fun a ha=>bp ha
 have inN:∀b∈N,∃o,s.heap.get? b=some o:=S.on fun X O W b m=>aT (W.tm.1 b m) fun o _ w=>⟨o,(W.inv.own b _ w).2⟩
 have inF:∀b∈fp,∃o,s.heap.get? b=some o:=fun b m=>by
  by_cases q:b∈N
  ·exact inN b q
  ·exact S.on fun X O W=>aT ((W.tm.2.1 X (.refl X)).2 b m q) fun o _ w=>⟨o,W.inv.sub _ _ w⟩
 have no:∀{L:List Addr},(∀b∈L,∃o,s.heap.get? b=some o)→s.heap.objs.size∉L:=fun h m=>by obtain⟨o,e⟩:=h _ m;rw[fresh2 _ (Nat.le_refl _)]at e;exact nE e
 have q4:Q0 0 h4:=T.frame _ _ _ (T.at (fun _ m=>m) q0 S) fun b m o e=>up4 b o e
 refine qf hk hg' hb (M:=s.heap.objs.size::N) S (fun b m=>List.mem_cons_of_mem _ m) ht up4 (fun b m z=>?_) (fun b m=>?_) Nw fun X O W Si=>?_
 ·exact(List.mem_cons.mp m).elim (fun q=>fresh2 _ (Nat.le_of_eq q.symm)) fun m=>absurd m z
 ·exact(List.mem_cons.mp m).elim (fun q=>⟨_,q▸hD4⟩) fun m=>Exists.elim (inN b m) fun o e=>⟨o,up4 _ _ e⟩
 ·have loop:=sT (F:=⟨env,cs,X,dO O h4,hk,hg',hb⟩) (ρ:=bo ρ fv) (iter:=iter) (pos:=pos) (y:=y) (sc:=sc) (RR:=compPost (model G.prog G.w) A (fun _ _=>False) use Q (.ref s.heap.objs.size) env.locals) Sg.nm R (fun x m=>(hx x m).2)
   (fun x m=>by
    cases e:bo ρ fv x with
    |none=>rfl
    |some sl=>exact jo e fun hf _ _ _=>absurd hf (hx x m).1) (he _ _ _ _ W) hlim T (no inN) (no inF)
   ⟨0,h4,σ1,[],0,[],r,rfl,Nat.zero_le _,q4,Si.sub fun X O t=>⟨t.1,fun Y le=>⟨(t.2.1 Y le).1,fun b m z=>aT ((t.2.1 Y le).2 b m z) fun o e w=>⟨o,by
    refine aT (S.on fun X O W=>(let⟨o,a,w⟩:=(W.tm.2.1 X (.refl X)).2 b m z;(bi o a (W.inv.sub _ _ w)):∃o,hg.get? b=some o∧s.heap.get? b=some o)) fun o2 a b'=>?_
    rw[e]at a;refine oR a ?_;exact up4 _ _ b',w⟩⟩,fun _ _=>.nil,trivial⟩,hD4,Nat.le_refl _,h,rfl⟩ fun s' S'=>?_
  ·exact codeAny_compStart_list loop (bt (T.self 0 _ _ q4 loop))
  ·refine S'.on fun X' O' W'=>?_
   refine Exists.elim W'.loc.ns fun m e=>?_
   refine cB (W'.inv.own _ _ e) fun z1 z2=>?_
   have z3:s'.heap.Ns env.locals m:=z2
   refine k s'.heap s' rfl ⟨m,z3⟩ ((Stw.rawAdd (N:=[env.locals]) (W.leave (tk:=s'.toks) (h':=s'.heap) rfl rfl W' [] W'.inv.tk (fun _ _ _ e=>e) fun _ m=>nomatch m) fun b mb=>?_).sub fun X O t=>fz t.2.1 t.1 t.2.2)
   refine eR (List.mem_singleton.mp mb) ?_
   refine fz (qb e ⟨rfl,fun z=>nomatch z⟩ (fun w o q g=>W'.kp _ o (jg q g.1 g.2)) fun w q=>(W.inv.own _ w q).2.al) z1 (kT z3 fun o _ _ g _=>⟨o,g⟩)
theorem lF(Sg:Stat G)(K:FOk κ F.env){elt y iter:PySem.Expr}{ifs:List PySem.Expr}{pos:Pos}{l r:List V}{f:V→Store→Option (List V × Store)}(Sc:ScOk κ sc tg fv)
  (he:∀C X O O' ts s,Stw G F ρ ts σ1 s X O→jr G n (cF F sc Sc.fn C X O') elt ifs tg (bo ρ fv) f) (hlim:l.length≤bq) (ho:OkX iter) (hi:mY G F n iter (eP nm tg y) ρ σ l σ1) (h:compLoop f l σ1=some (r,σ2)) (R:Room n A) (S:St G F ρ ts σ s) {cpos:Pos} {use:Option (Value→Sem Unit)} {Q:Value→Shared→Prop}
  (k:∀D C hC s',s'.heap.get? C=hC.get? C→(∃m,s'.heap.Ns C m)→St G F ρ (val G (.ref D) (.lst r):: .raw [C] hC::ts) σ2 s'→compPost (model G.prog G.w) A (fun _ _=>False) use Q (.ref D) C (.ok .next) s'):
  bC G A (comprehension (.ListComp elt [⟨eP nm tg y,iter,ifs,0⟩] sc pos) sc F.env cpos (newList []) false (eval iter F.env) use) Q s:=by
 refine wpAny_comprehension_free (g:=⟨eP nm tg y,iter,ifs,0⟩) (gs:=[]) rfl (ho.fold F.env) (xw Sc K) Sc.fn (fun x m e=>by rw[Sc.self x m,e]) ?_
 refine ad (hi A ts s R S) fun xv s1 h1=>ad h1 fun it s2 I=>?_
 obtain⟨T,q0,S2⟩:=I
 refine wpAny_newList (wpAny_newFunctionEnv (fun x m=>by rcases Sc.kinds x m with e|e|e<;>refine eR e ?_<;>decide) (fun _ m=>(List.not_mem_nil m).elim) (fun h4 hns4 hsb4=>?_) Sc.fn)
 dsimp only at hns4 hsb4 ⊢
 have up3:=bc s2.heap {cls:=.type "list",dict:=none,data:=.seq ([]:List Value).toArray}
 have hCs:(s2.heap.push {cls:=.type "list",dict:=none,data:=.seq ([]:List Value).toArray}).objs.size=s2.heap.objs.size+1:=Heap.size_push ..
 rw[hCs]at hns4 hsb4 ⊢
 have up4:dS s2.heap h4:=fun a o e=>hsb4.extBut a o (Nat.ne_of_lt (Nat.lt_succ_of_lt (Heap.lt_size e))) (bc _ _ _ _ (up3 _ _ e))
 have hns:h4.Ns (s2.heap.objs.size+1) (fun _=>none):=hns4
 refine qZ (E0:=fun a=>if a=s2.heap.objs.size+1 then some ⟨.fr,.ns fun _=>none⟩else none) (tk:=s2.toks+([]:List (Str × Value)).length) Sg (cs:=[]) (env:=compEnvC sc (fO F.env sc.names []) (s2.heap.objs.size+1) F.env) Sc.fn F.glob F.blt (fun X O ts s W=>he _ X O _ ts s W) (fun x m=>⟨fun z=>?_,.inl (jk (Sc.tg x m))⟩) hlim T q0 S2 h R up4 S2.tk (show h4.get? s2.heap.objs.size=some (listOf ([]:List Value).toArray 0)from hsb4.extBut _ _ (Nat.ne_of_lt (Nat.lt_succ_self _)) (bc _ _ _ _ (Heap.get?_push_size _ rfl))) ⟨fun a w e=>bv e fun q e=>?_,⟨_,if_pos rfl⟩,fun x m=>(nomatch m),fun x m=>(fz (lQ (Sc.fv x m)) (fun c l1=>?_) ((K.c _ (Sc.free _ (bN (Sc.fv x m)) rfl)).1))⟩ fun hC s'=>k _ _ hC s'
 ·have:=Sc.tg x m;rw[Sc.fv x z]at this;exact absurd this (by decide)
 ·refine oE e ?_;subst q
  have n1:=bp (h:=s2.heap) (Nat.le_succ s2.heap.objs.size)
  refine p6 n1 (fun m=>(List.mem_cons.mp m).elim (fun q=>absurd q (Nat.succ_ne_self _)) fun m=>?_) rfl (fun _ _=>hns)
  obtain⟨o,e⟩:=S2.on fun X O W=>(aT (W.tm.1 _ m) fun o _ w=>⟨o,(W.inv.own _ _ w).2⟩:∃o,s2.heap.get? (s2.heap.objs.size+1)=some o)
  rw[n1]at e;exact nE e
 ·show(fO F.env sc.names []).lookup _=_
  refine eR (jx (acc:=[]) (fun a e=>nomatch e) (.inl (bN (Sc.fv x m)))) ?_;refine eR l1 ?_;rfl
theorem qV(Sg:Stat G)(K:FOk κ F.env){elt y iter:PySem.Expr}{ifs:List PySem.Expr}{pos:Pos}{l r:List V}{f:V→Store→Option (List V × Store)}(Sc:ScOk κ sc tg fv)
  (he:∀C X O O' ts s,Stw G F ρ ts σ1 s X O→jr G n (cF F sc Sc.fn C X O') elt ifs tg (bo ρ fv) f) (hlim:l.length≤bq) (ho:OkX iter) (hi:mY G F n iter (eP nm tg y) ρ σ l σ1) (h:compLoop f l σ1=some (r,σ2)):Ex G F n (eval (.ListComp elt [⟨eP nm tg y,iter,ifs,0⟩] sc pos) F.env) ρ σ (.lst r) σ2:=by
 intro A ts s R S
 rw[eval_ListComp]
 exact lF Sg K Sc he hlim ho hi h R S fun D C hC s' _ ⟨m,ns⟩ S'=>bi m ns (fun h' hs=>(S'.sub fun X O t=>⟨t.2.1,t.1,t.2.2⟩:St G F ρ (.raw [C] hC::val G (.ref D) (.lst r)::ts) σ2 s').drop S'.tk fun b o nb e=>hs.extBut b o (fun q=>nb (List.mem_singleton.mpr q)) e)
end
end Mine
namespace Mine
open PySem PySem.W PyProof.Rows
noncomputable def kI(G:Cfg)(F:Frm)(n:Nat)(t:Sem Flow)(ρ:ay)(σ:Store)(ρ':ay)(σ':Store):Prop:=
 ∀A ts s,Room n A→St G F ρ ts σ s→bC G A t (fun f s'=>f=.next∧St G F ρ' ts σ' s') s
structure ExV(G:Cfg)(F:Frm)(n:Nat)(x:PySem.Expr)(ρ:ay)(σ:Store)(d:V)(σ':Store):Prop extends ExB G F n x ρ σ d σ' where
 asg:∀y py p,b6 F y→iy G F n (exec (.Assign [.Name (nm y) py] x p) F.env) ρ σ .next (ρ.set y (.v d)) σ'
section
variable {G:Cfg}{F:Frm}{n:Nat}{κ:bf}{ρ ρ' ρ1:ay}{ts:List Tmp}{σ σ' σ1 σ2 σ3:Store}{s s':Shared}{A:Around}{X:VW}{O:OM}{d:V}{sc:Scope}{tg fv:List Nat}{fl:Fl}
theorem St.nx(S:St G F ρ ts σ s):St G F ρ (.up (fun X=>pC G X .next .next)::ts) σ s:=S.add fun _ _ _=>trivial
theorem kI.toS{t:Sem Flow}(h:kI G F n t ρ σ ρ' σ'):iy G F n t ρ σ .next ρ' σ':=fun A ts s R _ S=>ad (h A ts s R S) fun f s' w9=>cB w9 fun e S'=>by clear t h A s R S w9;subst e;exact S'.nx
theorem n5(Sg:Stat G){x:PySem.Expr}{y:Nat}{py p:Pos}(h:Ex G F n (eval x F.env) ρ σ d σ')(hs:swapsWith x (some (.Name (nm y) py)) p.line F.env=pure false)(hy:b6 F y):iy G F n (exec (.Assign [.Name (nm y) py] x p) F.env) ρ σ .next (ρ.set y (.v d)) σ':=
 fun A ts s R hp S=>wpAny_Assign_Name (ad (h A ts s R S) fun v s1 S1=>ad (dR Sg.nm S1 hp hy fun X r=>r) fun _ s2 S2=>S2.nx) hs
theorem ExV.of(Sg:Stat G){x:PySem.Expr}(h:ExB G F n x ρ σ d σ')(hs:∀y (py:Pos)(l:Nat),swapsWith x (some (.Name y py)) l F.env=pure false):ExV G F n x ρ σ d σ':=⟨h,fun y py p hy=>n5 Sg h.v (hs _ _ _) hy⟩
theorem oj(Sg:Stat G)(K:FOk κ F.env){elt y iter:PySem.Expr}{ifs:List PySem.Expr}{pos:Pos}{l r:List V}{f:V→Store→Option (List V × Store)}(Sc:ScOk κ sc tg fv)
  (he:∀C X O O' ts s,Stw G F ρ ts σ1 s X O→jr G n (cF F sc Sc.fn C X O') elt ifs tg (bo ρ fv) f) (hlim:l.length≤bq) (ho:OkX iter) (hi:mY G F n iter (eP nm tg y) ρ σ l σ1) (h:compLoop f l σ1=some (r,σ2)):ExV G F n (.ListComp elt [⟨eP nm tg y,iter,ifs,0⟩] sc pos) ρ σ (.lst r) σ2:=by
 have hv:=qV Sg K (pos:=pos) Sc he hlim ho hi h
 refine⟨⟨hv,fun b e=>(nomatch e)⟩,fun z py p hz=>?_⟩
 obtain⟨b,hb⟩:∃b,swapsWith (.ListComp elt [⟨eP nm tg y,iter,ifs,0⟩] sc pos) (some (.Name (nm z) py)) p.line F.env=pure b:=⟨_,rfl⟩
 induction b using Bool.casesOn with
 |false=>exact n5 Sg hv hb hz
 |true=>
  intro A ts s R hp S
  refine(exec_Assign_Name_used _ _ _ _ hb)▸?_
  refine wpAny_bind (wpAny_standAt (wpAny_bind ?_))
  refine wpAny_bind (ad (lF (use:=some (assign (.Name (nm z) py) F.env)) (Q:=fun _ s'=>St G F (ρ.set z (.v (.lst r))) ts σ2 s') Sg K Sc he hlim ho hi h R S fun D C hC s' eC ⟨m,ns⟩ S'=>?_) fun _ s' hq=>wpAny_pure (wpAny_pure hq.nx))
  refine wpAny_assign_Name (ad (dR Sg.nm S' hp hz fun X r=>r) fun _ s2 S2=>bi m ?_ (fun h' hs=>S2.drop S2.tk fun b o nb e=>hs.extBut b o (fun q=>nb (List.mem_singleton.mpr q)) e))
  refine kT ns fun o es ep g r=>?_
  exact S2.on fun X O W=>aT (W.tm.1 C List.mem_cons_self) fun o' e w=>⟨o,es,ep,by
   rw[eC,e]at g;refine oE g ?_;exact(W.inv.own C _ w).2,r⟩
theorem wT:iy G F n (execs [] F.env) ρ σ .next ρ σ:=fun A ts s R _ S=>wpAny_execs_nil S.nx
theorem St.next{f:Flow}(S:St G F ρ (.up (fun X=>pC G X f .next)::ts) σ s){C:Prop}(k:f=.next→St G F ρ ts σ s→C):C:=S.on fun X O W=>by
 have:=W.tm.1 X (.refl X)
 clear O W;induction f using Flow.casesOn with
 |next=>exact k rfl S.pop
 |_=>exact this.elim
theorem St.rets{f:Flow}{d:V}(S:St G F ρ (.up (fun X=>pC G X f (.ret d))::ts) σ s){C:Prop}(k:∀v,f=.ret v→St G F ρ (val G v d::ts) σ s→C):C:=S.on fun X O W=>by
 have:=W.tm.1 X (.refl X)
 clear O W;induction f using Flow.casesOn with
 |ret v=>exact k v rfl S
 |_=>exact this.elim
theorem tD{st:PySem.Stmt}{r:List PySem.Stmt}(h1:iy G F n (exec st F.env) ρ σ .next ρ1 σ1)(h2:iy G F n (execs r F.env) ρ1 σ1 fl ρ' σ'):iy G F n (execs (st::r) F.env) ρ σ fl ρ' σ':=
 fun A ts s R hp S=>wpAny_execs_cons (ad (h1 A ts s R hp S) fun f s1 S1=>S1.next fun e S2=>by clear st h1 s S S1;subst e;exact h2 A ts s1 R hp S2)
theorem td{st:PySem.Stmt}{r:List PySem.Stmt}(h1:kI G F n (exec st F.env) ρ σ ρ1 σ1)(h2:kI G F n (execs r F.env) ρ1 σ1 ρ' σ'):kI G F n (execs (st::r) F.env) ρ σ ρ' σ':=
 fun A ts s R S=>wpAny_execs_cons (ad (h1 A ts s R S) fun f s1 w9=>cB w9 fun e S1=>by clear st h1 s S w9;subst e;exact h2 A ts s1 R S1)
theorem wn:kI G F n (execs [] F.env) ρ σ ρ σ:=fun A ts s R S=>wpAny_execs_nil ⟨rfl,S⟩
theorem tN{st:PySem.Stmt}{r:List PySem.Stmt}(h1:iy G F n (exec st F.env) ρ σ (.ret d) ρ1 σ1):iy G F n (execs (st::r) F.env) ρ σ (.ret d) ρ1 σ1:=
 fun A ts s R hp S=>wpAny_execs_cons (ad (h1 A ts s R hp S) fun f s1 S1=>S1.rets fun v e S2=>by clear st h1 s R hp S S1;subst e;exact S2)
theorem xf{x:PySem.Expr}{p:Pos}(h:Ex G F n (eval x F.env) ρ σ d σ'):iy G F n (exec (.Return (some x) p) F.env) ρ σ (.ret d) ρ σ':=
 fun A ts s R hp S=>wpAny_Return_some (ad (h A ts s R S) fun v s1 S1=>S1)
theorem y7{t:PySem.Expr}{b o:List PySem.Stmt}{p:Pos}{c:Bool}(h1:Bo G F n t ρ σ c σ1)(h2:iy G F n (execs (if c then b else o) F.env) ρ σ1 fl ρ' σ'):iy G F n (exec (.If t b o p) F.env) ρ σ fl ρ' σ':=
 fun A ts s R hp S=>wpAny_If (ad (h1 A ts s R S) fun v s1 w9=>cB w9 fun e S1=>by
  clear t p h1 s S w9;subst e
  induction v using Bool.casesOn<;>exact(h2 A ts s1 R hp S1))
theorem vf{x:PySem.Expr}{p:Pos}(h:Ex G F n (eval x F.env) ρ σ d σ')(hs:swapsWith x none p.line F.env=pure false):kI G F n (exec (.Expr x p) F.env) ρ σ ρ σ':=
 fun A ts s R S=>wpAny_Expr_any (ad (h A ts s R S) fun v s1 S1=>⟨rfl,S1.pop⟩) (by unfold interactive;refine eR F.kind ?_;rfl) hs
theorem u8{ft:ay→Store→Option (V × Store)}{fb:ay→Store→Option (Fl × ay × Store)}{k:Nat}{q:Fl × ay × Store}(h:cu ft fb k ρ σ=some q){C:Prop}
  (k1:∀m σ1 ρ2 σ2,m<k→ft ρ σ=some (.bool true,σ1)→fb ρ σ1=some (.next,ρ2,σ2)→cu ft fb m ρ2 σ2=some q→C) (k2:∀σ1 d ρ2 σ2,ft ρ σ=some (.bool true,σ1)→fb ρ σ1=some (.ret d,ρ2,σ2)→q=(.ret d,ρ2,σ2)→C) (k3:∀σ1,ft ρ σ=some (.bool false,σ1)→q=(.next,ρ,σ1)→C):C:=by
 induction k using Nat.casesOn with
 |zero=>exact nE h
 |succ k=>
  refine ca (h) fun d σ2 e1 h=>Bw (M:=fun d=>ft ρ σ=some (d,σ2)→C) h (fun b h e1=>?_) e1
  induction b using Bool.casesOn with
  |true=>
   refine ob h fun r e2 h=>?_
   obtain⟨fl2,ρ2,σ3⟩:=r
   induction fl2 using Fl.casesOn with
   |next=>exact k1 _ _ _ _ (Nat.lt_succ_self k) e1 e2 h
   |ret d=>exact k2 _ _ _ _ e1 e2 (Option.some.inj h).symm
  |false=>exact k3 _ e1 (Option.some.inj h).symm
theorem sP{t:PySem.Expr}{b:List PySem.Stmt}{p:Pos}{wf:Nat}{ft:ay→Store→Option (V × Store)}{fb:ay→Store→Option (Fl × ay × Store)}
  (ht:∀ρ σ d σ',ft ρ σ=some (.bool d,σ')→Bo G F n t ρ σ d σ') (hb:∀ρ σ fl ρ' σ',fb ρ σ=some (fl,ρ',σ')→iy G F n (execs b F.env) ρ σ fl ρ' σ') (h:cu ft fb wf ρ σ=some (fl,ρ',σ')):iy G F n (exec (.While t b [] p) F.env) ρ σ fl ρ' σ':=by
 refine fun A ts s R hp S=>wpAny_While (codeAny_whileLoop (fun k s'=>∃ρ1 σ1,cu ft fb k ρ1 σ1=some (fl,ρ',σ')∧St G F ρ1 ts σ1 s') (fun k s1 w9=>eB w9 fun ρ1 σ1 hk S1=>bt (u8 hk ?_ ?_ ?_)) wf (dA ρ σ h S))
 ·refine fun m σ2 ρ2 σ3 hm e1 e2 hk=>ad (ht _ _ _ _ e1 A ts s1 R S1) fun c s2 w9=>cB w9 fun ec S2=>?_
  refine eR ec ?_;refine eR (if_pos rfl) ?_
  exact bt (ad (hb _ _ _ _ _ e2 A ts s2 R hp S2) fun f s3 S3=>S3.next fun e S4=>by clear t b p wf ht hb h s R hp S S1 σ2 e1 e2 c s2 w9 ec S2 S3;subst e;exact⟨m,hm,ρ2,σ3,hk,S4⟩)
 ·refine fun σ2 d ρ2 σ3 e1 e2 hk=>ad (ht _ _ _ _ e1 A ts s1 R S1) fun c s2 w9=>cB w9 fun ec S2=>?_
  refine eR ec ?_;refine eR (if_pos rfl) ?_
  cases hk
  exact bt (ad (hb _ _ _ _ _ e2 A ts s2 R hp S2) fun f s3 S3=>S3.rets fun v e S4=>by clear n ρ σ t b p wf ht hb s R hp S s1 σ1 S1 e1 ec S2 h w9 hk e2 S3;subst e;exact S4)
 ·refine fun σ2 e1 hk=>ad (ht _ _ _ _ e1 A ts s1 R S1) fun c s2 w9=>cB w9 fun ec S2=>?_
  refine eR ec ?_;refine eR (if_neg Bool.false_ne_true) ?_
  clear t b p wf ht hb h s R hp S S1 e1 c w9 ec;cases hk
  exact wpAny_execs_nil S2.nx
theorem rQ{g:Ghost}{t:Sem Flow}(Sg:Stat G)(h:ff g ρ σ=some (ρ1,σ1))(h2:iy G F n t ρ1 σ1 fl ρ' σ'):iy G F n t ρ σ fl ρ' σ':=fun A ts s R hp S=>h2 A ts s R hp (kh h S Sg.sm)
theorem sj{g:Ghost}{t:Sem Flow}(Sg:Stat G)(h:ff g ρ σ=some (ρ1,σ1))(h2:kI G F n t ρ1 σ1 ρ' σ'):kI G F n t ρ σ ρ' σ':=fun A ts s R S=>h2 A ts s R (kh h S Sg.sm)
theorem wE(Sg:Stat G){x:Nat}{e:PySem.Expr}{p q:Pos}{i j:Int}(hx:b6 F x)(h1:ρ x=some (.v (.int i)))(h2:Ex G F n (eval e F.env) ρ σ (.int j) σ'):iy G F n (exec (.AugAssign (.Name (nm x) p) .Add e q) F.env) ρ σ .next (ρ.set x (.v (.int (i+j)))) σ':=
 fun A ts s R hp S=>wpAny_AugAssign_Name (qI S h1 (Sg.cd x) fun v S0=>ad (h2 A _ s R S0) fun u s1 S1=>S1.two fun X O W r r1=>r.on fun t=>r1.on fun t'=>
  PyProof.Rows.iadd_int (ad (dR Sg.nm ((W.st.tok (Nat.succ_pos _)).v (d:=.int (i+j)) fun _=>.int _ _ W.inv.tk) hp hx fun X r=>r) fun _ s2 S2=>S2.nx))
theorem lh{env:Env}{t:PySem.Expr}{ks:List PySem.Expr}{k:Nat}{tp:Pos}{l:Nat}:swapsWithSole [.Tuple ks k tp] t l env=pure false:=by induction t using Expr.casesOn<;>rfl
theorem vk{x y:Nat}{a b:Slot}(h:x≠y):(ρ.set x a).set y b=(ρ.set y b).set x a:=by
 funext j
 show(if j=y then some b else if j=x then some a else ρ j)=(if j=x then some a else if j=y then some b else ρ j)
 by_cases h1:j=y
 ·subst h1;rw[if_pos rfl,if_neg (Ne.symm h),if_pos rfl]
 ·rw[if_neg h1,if_neg h1]
theorem jF(Sg:Stat G){x y:Nat}{k:Nat}{p1 p2 tp p:Pos}{e:PySem.Expr}{i:Option Nat}{a b:V}(hx:b6 F x)(hy:b6 F y)(h:Ex G F n (eval e F.env) ρ σ (.tup i [a,b]) σ')(hw:swappedStores [.Tuple [.Name (nm x) p1,.Name (nm y) p2] k tp] e F.env=pure none):
  iy G F n (exec (.Assign [.Tuple [.Name (nm x) p1,.Name (nm y) p2] k tp] e p) F.env) ρ σ .next ((ρ.set x (.v a)).set y (.v b)) σ':=
 fun A ts s R hp S=>PyProof.Rows.Assign_Tuple (ad (h A ts s R S) fun v s1 S1=>ad (lY (tg:=[x,y]) (y:=.Tuple [.Name (nm x) p1,.Name (nm y) p2] k tp) Sg.nm R (fun z m=>(List.mem_cons.mp m).elim (fun q=>q▸hx) fun m=>List.mem_singleton.mp m▸hy) rfl S1 hp) fun _ s2 S2=>S2.nx) lh hw
theorem C0{α β:Type}{f:α→Option β}{x y:α}{N:List β}(e:List.filterMap f [x,y]=N){c d:Bool}{a b:β}(h1:f x=if c=true then some a else none)(h2:f y=if d=true then some b else none):(if c=true then[a]else[])++(if d=true then[b]else[])=N:=by
 subst e;rw[List.filterMap_cons,List.filterMap_cons,List.filterMap_nil,h1,h2];induction c using Bool.casesOn<;>induction d using Bool.casesOn<;>rfl
theorem nv{env:Env}{a b:Str}{p1 p2 tp:Pos}{k k':Nat}{vp:Pos}{v1 v2:PySem.Expr}(hc:[v1,v2].all (constantsAlone 8)=false):
  swappedStores [.Tuple [.Name a p1,.Name b p2] k tp] (.Tuple [v1,v2] k' vp) env=pure none∨swappedStores [.Tuple [.Name a p1,.Name b p2] k tp] (.Tuple [v1,v2] k' vp) env=pure (some [a,b]):=by
 unfold swappedStores
 dsimp only
 by_cases hbk:env.blockKind=.function
 ·have e1:(!(([PySem.Expr.Name a p1,.Name b p2]:List PySem.Expr).length==2||([PySem.Expr.Name a p1,.Name b p2]:List PySem.Expr).length==3)||([v1,v2]:List PySem.Expr).length !=([PySem.Expr.Name a p1,.Name b p2]:List PySem.Expr).length||env.blockKind != .function)=false:=by refine eR hbk ?_;rfl
  refine eR (if_neg (by rw[e1];decide)) ?_
  refine iE (fun _=>.inl rfl) fun _=>?_
  refine iE (fun _=>.inl rfl) fun hnm=>?_
  refine iE (fun _=>.inl rfl) fun _=>?_
  refine eR (if_neg (by rw[hc];decide)) ?_
  generalize hN:List.filterMap _ ([PySem.Expr.Name a p1,.Name b p2]:List PySem.Expr)=N at hnm ⊢
  have hN:=C0 hN (a:=a) (b:=b) rfl rfl
  generalize (env.kindOf a==some NameKind.local&&_)=f1 at hN
  generalize (env.kindOf b==some NameKind.local&&_)=f2 at hN
  induction f1 using Bool.casesOn<;>induction f2 using Bool.casesOn<;>subst hN<;>first|(right;rfl)|(exact absurd rfl hnm)
 ·have e1:(!(([PySem.Expr.Name a p1,.Name b p2]:List PySem.Expr).length==2||([PySem.Expr.Name a p1,.Name b p2]:List PySem.Expr).length==3)||([v1,v2]:List PySem.Expr).length !=([PySem.Expr.Name a p1,.Name b p2]:List PySem.Expr).length||env.blockKind != .function)=true:=by
   have:(env.blockKind != .function)=true:=bne_iff_ne.mpr hbk
   rw[this,Bool.or_true]
  refine .inl ?_
  rw[if_pos e1]
theorem oX(Sg:Stat G){x y:Nat}{k k':Nat}{p1 p2 tp vp p:Pos}{v1 v2:PySem.Expr}{d1 d2:V}(hne:x≠y)(hx:b6 F x)(hy:b6 F y)(ho:OkX v1)(ho':OkX v2)(hc:[v1,v2].all (constantsAlone 8)=false)
  (h1:Ex G F n (eval v1 F.env) ρ σ d1 σ1) (h2:Ex G F n (eval v2 F.env) ρ σ1 d2 σ2):
  iy G F n (exec (.Assign [.Tuple [.Name (nm x) p1,.Name (nm y) p2] k tp] (.Tuple [v1,v2] k' vp) p) F.env) ρ σ .next ((ρ.set x (.v d1)).set y (.v d2)) σ2:=by
 have hv:Ex G F n (eval (.Tuple [v1,v2] k' vp) F.env) ρ σ (.tup none [d1,d2]) σ2:=vH (dr ho h1 (dr ho' h2 eX)) (by show 2≤100;decide)
 rcases nv (env:=F.env) (p1:=p1) (p2:=p2) (tp:=tp) (k:=k) (k':=k') (vp:=vp) (a:=nm x) (b:=nm y) hc with hw|hw
 ·exact jF Sg hx hy hv hw
 ·refine fun A ts s R hp S=>PyProof.Rows.Assign_Tuple_swapped (ad (hv A ts s R S) fun v s1 S1=>S1.one fun X O W r=>r.on fun T vals ht rl _=>?_) lh hw
  refine rl.two (M:=fun us=>vals.toList=us→bC G A _ _ s1) (fun va vb ra rb ev=>?_) rfl
  have hsz:([nm x,nm y]:List Str).length=vals.size:=by refine eE Array.length_toList ?_;refine eR ev ?_;rfl
  refine eR hsz ?_
  refine wpAny_unpackItems_tuple R.h (IsTup.up W.inv.sub ht) fun h' hx'=>?_
  refine eR ev ?_
  have S':=St.grow (ts:=val G vb d2::val G va d1::ts) ⟨X,O,W.le,W.kp,W.inv,W.loc,fun Y le=>rb.up le,fun Y le=>ra.up le,W.tm⟩ (h':=h') (fun a o e=>hx' a o (Nat.ne_of_lt (Heap.lt_size e)) e) W.inv.tk
  refine wpAny_assignInOrder_more (PyProof.Rows.bindName_ (ad (dR Sg.nm S' hp hy fun X r=>r) fun _ s1 S1=>?_))
  refine wpAny_assignInOrder_more (PyProof.Rows.bindName_ (ad (dR Sg.nm S1 hp hx fun X r=>r) fun _ s2 S2=>wpAny_assignInOrder_none ?_))
  rw[←vk hne]at S2
  exact S2.nx
end
end Mine
namespace Mine
open PySem PySem.W PyProof.Rows
theorem oh{name:Str}{hsh:Int}{key v:Value}{es:List DictEntry}(h:es.find? (·.key.isStr name)=none):putL name hsh key v es=es++[⟨hsh,key,v⟩]:=by
 induction es with
 |nil=>rfl
 |cons e r ih=>
  rw[List.find?_cons]at h
  cases q:e.key.isStr name with
  |true=>rw[q]at h;exact nR h
  |false=>
   rw[q]at h
   show(if e.key.isStr name then _ else e::putL name hsh key v r)=_
   refine eR q ?_;refine eR (if_neg Bool.false_ne_true) ?_;refine eR (ih h) ?_;rfl
noncomputable def iB:Heap:=⟨#[],{}⟩
theorem ek(a:Addr):iB.get? a=none:=bp (Nat.zero_le _)
structure KSet1(G:Cfg)(C a:Nat):Prop where
 k1:findIn G.K (.ref C) "__setattr__"=some (some (.builtin "object.__setattr__"))
 k2:plainOver G.K C=true
 k3:takerIn G.K C (nm a)=some none
 k4:hasDictIn G.K C=true
structure KSet(G:Cfg):Prop where
 set:∀C a,af.fld C a=true→KSet1 G C a
theorem j4{G:Cfg}(Ks:KSet G){A:Around}{s:Shared}{x dx C L:Addr}{m:Str→Option Value}{es:List DictEntry}{k a:Nat}{v:Value}{Q:Unit→Shared→Prop}(X:G.K.In s.heap)(gx:s.heap.get? x=some (instObj C dx))(gd:s.heap.get? dx=some (dictOf es k))(hL:s.heap.Ns L m)(hne:dx≠L)
  (hf:af.fld C a=true) (hl:es.find? (·.key.isStr (nm a))=none) (hg:getL (nm a) es=some none) (hz:es.length<900)
  (q:∀h' k' hsh tk,h'.Ns L m→h'.get? dx=some (dictOf (es++[⟨hsh,.str (nm a) tk,v⟩]) k')→(∀b o,b≠L→b≠dx→s.heap.get? b=some o→h'.get? b=some o)→Q () {s with heap:=h',toks:=s.toks+2}):
  bC G A (setAttr (.ref x) (nm a) v) Q s:=by
 have ks:=Ks.set C a hf
 let post:List (Addr × Obj):=(List.range s.heap.objs.size).filterMap fun b=>if b=L∨b=dx then none else(s.heap.get? b).map fun o=>(b,o)
 have mem:∀b o,b≠L→b≠dx→s.heap.get? b=some o→(b,o)∈post:=fun b o n1 n2 e=>
  List.mem_filterMap.mpr ⟨b,List.mem_range.mpr (Heap.lt_size e),by refine eR (if_neg fun z=>z.elim n1 n2) ?_;refine eR e ?_;rfl⟩
 have out:∀p∈post,s.heap.get? p.1=some p.2∧p.1≠L∧p.1≠dx:=fun p hp=>by
  refine aT (List.mem_filterMap.mp hp) fun b _ hb=>?_
  clear G Ks A x C m es k a v Q X gx gd hL hne hf hl hg hz q ks post mem hp;split at hb
  ·exact nE hb
  ·rename_i nn
   refine aT (Option.map_eq_some_iff.mp hb) fun o ho z2=>?_;subst z2
   exact fz ho (fun z=>nn (.inl z)) (fun z=>nn (.inr z))
 have N:News iB L s.heap ([]++(dx,dictOf es k)::post):=fun p hp=>by
  rcases List.mem_cons.mp hp with rfl|hp
  ·exact⟨gd,hne,ek _⟩
  ·exact⟨(out p hp).1,(out p hp).2.1,ek _⟩
 have I:InstAt s.heap x (instObj C dx) C (some (dictOf es k)):=⟨gx,rfl,rfl,gd⟩
 refine set_plain X I ks.k1 (osa_dict (s:={s with toks:=s.toks+1}) (pre:=[]) (post:=post) (show PyProof.Rows.Fr iB L s.heap m from⟨hL,fun b o e=>(by rw[ek]at e;exact nE e),Nat.zero_le _⟩) N X I rfl ks.k2 ks.k3 ks.k4 (by rw[lookIn_dict,hg];rfl) (fun _ h=>(List.not_mem_nil h).elim) (fun p hp=>(out p hp).2.2) (putName_dict ..) rfl ?_ fun h' F' N'=>?_)
 ·refine eR (oh hl) ?_;refine eR List.length_append ?_;exact Nat.le_trans (Nat.succ_le_of_lt hz) (by decide)
 ·have z:=(N' (dx,_) List.mem_cons_self).1
  rw[oh hl]at z
  exact q h' _ _ _ F'.ns z fun b o n1 n2 e=>(N' (b,o) (List.mem_cons_of_mem _ (mem b o n1 n2 e))).1
theorem hW{env:Env}{v o i:PySem.Expr}{p:Pos}{l:Nat}:swapsWith v (some (.Subscript o i p)) l env=pure false:=by induction v using Expr.casesOn<;>rfl
theorem kM{env:Env}{v o:PySem.Expr}{a:Str}{p:Pos}{l:Nat}:swapsWith v (some (.Attribute o a p)) l env=pure false:=by induction v using Expr.casesOn<;>rfl
theorem pA{prog:Program}{w:World}{A:Around}{E:Value→Shared→Prop}{s:Shared}{l:Addr}{vs:Array Value}{n:Nat}{k:Int}{t:Tok}{v:Value}{Q:Unit→Shared→Prop}(g:s.heap.get? l=some (PySem.W.listOf vs n))
  (h0:0≤k) (hfit:k<2 ^ 63) (hn:k<vs.size) (hQ:∀h' n',h'.get? l=some (PySem.W.listOf (vs.setIfInBounds k.toNat v) n')→Heap.SameBut l s.heap h'→Q () {s with heap:=h'}):
  wpAny (model prog w) A (setItem (.ref l) (.int k t) v) Q E s:=by
 have hl:s.heap.IsList l vs:=aO g
 unfold setItem
 try with_reducible refine wpAny_holding ?_
 first|refine wpAny_bind (wpAny_pure ?_)|skip
 refine wpAny_bind (wpAny_sequenceKey hl.typeIs (by decide) ?_)
 refine wpAny_bind (wpAny_callSpecial?_slot (name:=Str.ofString "__setitem__") hl.typeIs slot_list_setitem
  (wpAny_call_entry slot_list_setitem hl.typeIs entry_list_setitem ?_ (args_list_setitem _ _ _)))
 show wpAny _ _ (Builtin.List.listSubscript? (.int k t)>>= _) _ _ s
 refine wpAny_bind (wpAny_listSubscript_int (fitsIndex_of h0 hfit) ?_)
 clear hfit
 obtain⟨j,rfl⟩:=Int.eq_ofNat_of_zero_le h0
 have hj:j<vs.size:=by lia
 have hx':vs[j]? =some vs[j]:=Array.getElem?_eq_getElem hj
 refine wpAny_bind (wpAny_bind (wpAny_seqItemAt g rfl (wpAny_pure ?_)))
 refine eR hx' ?_
 show wpAny _ _ (setSeqItemAt l j v>>= _) _ _ s
 obtain⟨n',hfin⟩:∃n',(s.heap.update l (Obj.mapSeq (·.setIfInBounds j v))).get? l=some (PySem.W.listOf (vs.setIfInBounds j v) n'):=⟨_,PyProof.Rows.get?_update_seq (c:="list") g _⟩
 refine wpAny_bind (wpAny_setSeqItemAt g rfl ?_)
 first
  |exact wpAny_bind (wpAny_pure (wpAny_pure (fz .none rfl (wpAny_pure (hQ _ n' hfin (Heap.SameBut.update ..))))))
  |exact wpAny_pure ⟨.none,rfl,wpAny_pure (hQ _ n' hfin (Heap.SameBut.update ..))⟩
theorem ub{M:V→Store→Prop}{σ σ':Store}{k:Nat}{key d:V}(h:ip σ (.loc k) key d=some σ')(k1:∀i l,σ.cells[k]? =some (.list l)→0≤i∧i.toNat<l.length∧i<2 ^ 63→M (.int i) (σ.put k (.list (l.set i.toNat d))))
  (k2:∀kk es,σ.cells[k]? =some (.dict es)→es.length≤bq→M (.str kk) (σ.put k (.dict (bn es kk d)))):M key σ':=by
 induction key using V.casesOn with
 |int i=>
  have h:(match σ.cells[k]? with
   |some (.list l)=>if 0≤i∧i.toNat<l.length∧i<2 ^ 63 then some (σ.put k (.list (l.set i.toNat d)))else none
   |_=>none)=some σ':=h
  cases e:σ.cells[k]? with
  |none=>replace h:=e▸h;exact nE h
  |some c=>rw[e]at h;induction c using Cell.casesOn with
   |list l=>exact bv h fun q h=>by refine oE h ?_;exact k1 i l e q
   |_=>exact nE h
 |str kk=>
  have h:(match σ.cells[k]? with
   |some (.dict es)=>if es.length≤bq then some (σ.put k (.dict (bn es kk d)))else none
   |_=>none)=some σ':=h
  cases e:σ.cells[k]? with
  |none=>replace h:=e▸h;exact nE h
  |some c=>rw[e]at h;induction c using Cell.casesOn with
   |dict l=>exact bv h fun q h=>by refine oE h ?_;exact k2 kk l e q
   |_=>exact nE h
 |_=>exact nE h
section
variable {G:Cfg}{F:Frm}{n:Nat}{κ:bf}{ρ ρ' ρ1:ay}{ts:List Tmp}{σ σ' σ1 σ2 σ3:Store}{s s':Shared}{A:Around}{X:VW}{O:OM}{d:V}{x:Nat}{v:Value}
theorem Stw.pop{t:Tmp}(W:Stw G F ρ (t::ts) σ s X O):Stw G F ρ ts σ s X O:=⟨W.le,W.kp,W.inv,W.loc,W.tm.2⟩
theorem Stw.own1(W:Stw G F ρ (.nmv x v::ts) σ s X O){sl:Slot}(h:ρ x=some sl)(hn:∀d,sl≠.v d):Sl G X O x v sl:=W.slot W.tm.1 h hn
theorem dN(Sg:Stat G)(S:St G F ρ ts σ s){p:Pos}{sl:Slot}(h:ρ x=some sl)(hn:∀d,sl≠.v d)(hd:bu κ (nm x)=true){Q:Value→Shared→Prop}(q:∀v,St G F ρ (.nmv x v::ts) σ s→Q v s):bC G A (eval (.Name (nm x) p) F.env) Q s:=wpAny_Name (tZ S h hn (Sg.cd x) q) (lU hd)
theorem qB:interactive F.env=false:=by unfold interactive;refine eR F.kind ?_;rfl
theorem yZ{e:PySem.Expr}(ho:OkX e)(pos:Pos):((backTo pos (starEach [e] F.env)).all (fun x=> !x.1)&&(backToKw pos (keywordEach [] F.env)).all (fun x=>x.1.isSome)
   &&decide (([e]:List PySem.Expr).length+([]:List Keyword).length+(if([]:List Keyword).isEmpty then 0 else 1)<30))=true:=by
 refine eR (kP (xs:=[e]) F.env pos fun x m=>List.mem_singleton.mp m▸ho) ?_;rfl
theorem tP{e:PySem.Expr}(ho:OkX e)(pos:Pos):backTo pos (starEach [e] F.env)=[(false,eval e F.env)]:=by rw[ho.star];rfl
theorem eI{k:Nat}(h:k≤bq):k≤sizeLine:=Nat.le_trans h (by decide)
theorem wX(Sg:Stat G){py lp p:Pos}(hx:b6 F x):iy G F n (exec (.Assign [.Name (nm x) py] (.List [] lp) p) F.env) ρ σ .next (ρ.set x (.own [])) σ:=
 fun A ts s R hp S=>wpAny_Assign_Name (List_ (spliced_none (wpAny_newList (ad (iq (c:=.list []) (sl:=.own []) Sg.nm S hp hx (bc _ _) S.tk (bR _) (fun X=>dA (#[]) 0 (Heap.get?_push_size _ rfl) .nil) fun X O e=>bi _ rfl e) fun _ s2 S2=>S2.nx))))
theorem tR(Sg:Stat G){py lp p:Pos}(hx:b6 F x):iy G F n (exec (.Assign [.Name (nm x) py] (.Dict [] [] lp) p) F.env) ρ σ .next (ρ.set x (.ownd [])) σ:=
 fun A ts s R hp S=>wpAny_Assign_Name (wpAny_Dict_empty (ad (iq (c:=.dict []) (sl:=.ownd []) Sg.nm S hp hx (bc _ _) S.tk (bR _) (fun X=>⟨[],Heap.DictOf.new s.heap,rfl,.nil⟩) fun X O e=>bi _ rfl e) fun _ s2 S2=>S2.nx))
theorem uM(Sg:Stat G){py lp p:Pos}(hx:b6 F x):iy G F n (exec (.Assign [.Name (nm x) py] (.Dict [] [] lp) p) F.env) ρ σ .next (ρ.set x (.ownk [])) σ:=
 fun A ts s R hp S=>wpAny_Assign_Name (wpAny_Dict_empty (ad (iq (c:=.dcti []) (sl:=.ownk []) Sg.nm S hp hx (bc _ _) S.tk (bR _) (fun X=>⟨[],Heap.DictOf.new s.heap,rfl,.nil⟩) fun X O e=>bi _ rfl e) fun _ s2 S2=>S2.nx))
theorem jq(Sg:Stat G){e:PySem.Expr}{np ap cp p:Pos}{l:List V}(hl:(ap.endLine==cp.line)=true)(ho:OkX e)(hd:bu κ (nm x)=true)(h1:ρ x=some (.own l))(h2:Ex G F n (eval e F.env) ρ σ d σ')(hlen:l.length≤bq):
  kI G F n (exec (.Expr (.Call (.Attribute (.Name (nm x) np) ("append":Str) ap) [e] [] cp) p) F.env) ρ σ (ρ.set x (.own (l++[d]))) σ':=by
 refine fun A ts s R S=>wpAny_Expr_any (wpAny_Call_append rfl (yZ ho cp) hl (tP ho cp) (dN Sg S h1 (fun d z=>nomatch z) hd fun v S0=>S0.on fun X O W=>?_)) qB
 refine aT (W.own1 h1 (fun d z=>nomatch z)) fun a z1 oa=>?_;subst z1
 refine eB ((W.inv.own a _ oa).2) fun vs k g r=>?_
 refine gc a vs rfl ⟨_,k,g,rfl,rfl,rfl⟩ (ad (h2 A _ s R S0) fun u s1 S1=>S1.one fun X O W r1=>?_)
 refine aT (W.own1 h1 (fun d z=>nomatch z)) fun a' e' oa=>?_
 injection e' with z1;subst z1
 refine eB ((W.inv.own a _ oa).2) fun vs' k' g' r'=>?_
 exact append_at (its:=vs') (n:=k') g' (fun h6 hs6 hD6=>⟨rfl,_,_,W.pop.chg (c':=.list (l++[d])) (tk:=s1.toks) oa W.inv.tk (fun b o nb eb=>hs6.extBut b o nb eb) (dA (vs'.push u) (k'+1) hD6 (by rw[Array.toList_push];exact r'.append (.cons r1 .nil))) W.tm.1 (bi a rfl bK)⟩) (eI (r'.sz▸hlen))
theorem jH(Sg:Stat G){e:PySem.Expr}{np ap cp p:Pos}{l l':List V}(hl:(ap.endLine==cp.line)=true)(ho:OkX e)(hd:bu κ (nm x)=true)(h1:ρ x=some (.own l))(h2:Ex G F n (eval e F.env) ρ σ (.lst l') σ')(hlen:l.length+l'.length≤bq):
  kI G F n (exec (.Expr (.Call (.Attribute (.Name (nm x) np) ("extend":Str) ap) [e] [] cp) p) F.env) ρ σ (ρ.set x (.own (l++l'))) σ':=by
 refine fun A ts s R S=>wpAny_Expr_any (wpAny_Call_method (T:="list") (id:="list.extend") rfl (yZ ho cp) hl PySem.F.plainAttrs_list PySem.F.slot_list_extend PySem.F.type_list_extend (dN Sg S h1 (fun d z=>nomatch z) hd fun v S0=>S0.on fun X O W=>?_)) qB
 refine aT (W.own1 h1 (fun d z=>nomatch z)) fun a z1 oa=>?_;subst z1
 refine eB ((W.inv.own a _ oa).2) fun vs k g r=>?_
 refine⟨(bi _ g rfl),fun b e=>by injection e with z1;subst z1;exact(bi _ g rfl),?_⟩
 refine callWith_of (P:=G.K.In) (by refine eR (tP ho cp) ?_;rfl) (jZ rfl) ?_
 rw[ho.star]
 refine Calls.evalArgs_plain (Calls.spliced_cons (ad (h2 A _ s R S0) fun u s1 S1=>Calls.spliced_nil ⟨S1.kin Sg,S1.one fun X O W r1=>r1.on fun b us j gb rb=>?_⟩))
 refine aT (W.own1 h1 (fun d z=>nomatch z)) fun a' e' oa=>?_
 injection e' with z1;subst z1
 refine eB ((W.inv.own a _ oa).2) fun vs' k' g' r'=>?_
 have gb:=W.inv.sub _ _ gb
 have sz:vs'.size+us.size≤bq:=by refine eR r'.sz ?_;refine eR rb.sz ?_;exact hlen
 have sz0:bq≤sizeLine:=by decide
 refine call_meets PySem.F.slot_list_extend (bi _ g' rfl) PySem.F.entry_list_extend (PySem.F.args_list_extend_2 _ _) (AutoSeq1.list_extend_list_list_0 a vs' k' b us j (by simp only [Builtin.List.listTooLong];simp;lia) (dW 2 5891020990515007745 rfl sz sz0) (dW 2 118177743579318174889558017 rfl sz sz0)) (fz g' gb ?_)
 refine Exists.elim (show∃k2,(s1.heap.update a (Obj.mapSeq fun x=>x++us)).get? a=some (listOf (vs'++us) k2)from⟨_,PyProof.Rows.get?_update_seq (c:="list") g' fun x=>x++us⟩) fun k2 hD6=>?_
 exact⟨rfl,_,_,W.pop.chg (c':=.list (l++l')) (tk:=s1.toks) oa W.inv.tk (fun c o nc ec=>(Heap.get?_update_other _ _ (Ne.symm nc)).trans ec) (dA (vs'++us) k2 hD6 (by rw[Array.toList_append];exact r'.append rb)) W.tm.1 (bi a rfl bK)⟩
theorem jG(Sg:Stat G){o:E}{ox e:PySem.Expr}{ap cp p:Pos}{k:Nat}{l l0:List V}(hb:vY o=true)(hl:(ap.endLine==cp.line)=true)(ho:OkX e)(h1:Ex G F n (eval (bD o ox) F.env) ρ σ (.loc k) σ1)(h0:σ1.cells[k]? =some (.list l0))
  (h2:Ex G F n (eval e F.env) ρ σ1 d σ2) (h3:σ2.cells[k]? =some (.list l)) (hlen:l.length≤bq):
  kI G F n (exec (.Expr (.Call (.Attribute (bD o ox) ("append":Str) ap) [e] [] cp) p) F.env) ρ σ ρ (σ2.put k (.list (l++[d]))):=by
 refine fun A ts s R S=>wpAny_Expr_any (wpAny_Call_append (eL hb _ _ _ _) (yZ ho cp) hl (tP ho cp) (ad (h1 A ts s R S) fun v s1 S1=>S1.on fun X O W=>?_)) qB
 have key:=ad (h2 A _ s1 R S1) fun u s2 S2=>S2
 revert key
 refine W.cell (W.tm.1 X (.refl X)) h0 (fun z=>nomatch z) fun a hm oa ⟨vs,j,g,r⟩ key=>?_
 refine gc a vs rfl ⟨_,j,g,rfl,rfl,rfl⟩ (ad key fun u s2 S2=>S2.on fun X O W=>?_)
 have r1:=W.tm.1 X (.refl X)
 refine W.cell (M:=fun v=>v=.ref a→_) (W.tm.2.1 X (.refl X)) h3 (fun z=>nomatch z) (fun a' hm oa ⟨vs',j',g',r'⟩ e'=>?_) rfl
 refine eE e' ?_
 exact append_at (its:=vs') (n:=j') g' (fun h6 hs6 hD6=>⟨rfl,W.pop.pop.put (c':=.list (l++[d])) (tk:=s2.toks) hm oa W.inv.tk (fun b o nb eb=>hs6.extBut b o nb eb) (dA (vs'.push u) (j'+1) hD6 (by rw[Array.toList_push];exact r'.append (.cons r1 .nil)))⟩) (eI (r'.sz▸hlen))
theorem oW(Sg:Stat G){o i e:PySem.Expr}{q p:Pos}{key:V}{k:Nat}(h1:Ex G F n (eval e F.env) ρ σ d σ1)(h2:Ex G F n (eval o F.env) ρ σ1 (.loc k) σ2)(h3:Ex G F n (eval i F.env) ρ σ2 key σ3)(h:ip σ3 (.loc k) key d=some σ'):kI G F n (exec (.Assign [.Subscript o i q] e p) F.env) ρ σ ρ σ':=by
 refine fun A ts s R S=>wpAny_Assign_Subscript (ad (h1 A ts s R S) fun v s1 S1=>ad (h2 A _ s1 R S1) fun ov s2 S2=>ad (h3 A _ s2 R S2) fun iv s3 S3=>S3.on fun X O W=>?_) hW
 have rv:=W.tm.2.2.1 X (.refl X)
 have ro:=W.tm.2.1 X (.refl X)
 refine ub (M:=fun key σ'=>Rp G X iv key→bC G A (setItem ov iv v) (fun _ s'=>Flow.next=.next∧St G F ρ ts σ' s') s3) h (fun i l e0 q ri=>?_) (fun kk es e0 q ri=>?_) (W.tm.1 X (.refl X))
 ·refine ri.on fun t=>W.cell ro e0 (fun z=>nomatch z) fun a hm oa w9=>eB w9 fun vs j g r=>?_
  exact pA g q.1 q.2.2 (Int.toNat_of_nonneg q.1▸Int.ofNat_lt.mpr (show i.toNat<vs.size from r.sz▸q.2.1)) fun h' n' g' sb=>
   ⟨rfl,W.pop.pop.pop.put (c':=.list (l.set i.toNat d)) (tk:=s3.toks) hm oa W.inv.tk (fun b o nb eb=>sb.extBut b o nb eb) (dA _ n' g' (by rw[Array.toList_setIfInBounds];exact r.set _ rv))⟩
 ·refine ri.on fun t=>W.cell ro e0 (fun z=>nomatch z) fun a hm oa w9=>aT w9 fun kvs hd hk=>?_
  exact wpAny_setItem_pairs (knd:=PySem.strKind G.prog G.w) (strKind_is _ _ kk t) hd (fun h' hd' sb=>⟨rfl,W.pop.pop.pop.put (c':=.dict (bn es kk d)) (tk:=s3.toks+1) hm oa (Nat.succ_pos _) (fun b o nb eb=>sb.extBut b o nb eb) (bi _ hd' (hk.stored rv))⟩) (by refine eR hk.len ?_;exact eI q)
theorem mH(Sg:Stat G){i e:PySem.Expr}{np q p:Pos}{kk:Str}{es:List (Str × V)}(hd0:bu κ (nm x)=true)(h1:Ex G F n (eval e F.env) ρ σ d σ1)(hx:ρ x=some (.ownd es))(h3:Ex G F n (eval i F.env) ρ σ1 (.str kk) σ2)(hlen:es.length≤bq):
  kI G F n (exec (.Assign [.Subscript (.Name (nm x) np) i q] e p) F.env) ρ σ (ρ.set x (.ownd (bn es kk d))) σ2:=by
 refine fun A ts s R S=>wpAny_Assign_Subscript (ad (h1 A ts s R S) fun v s1 S1=>dN Sg S1 hx (fun d z=>nomatch z) hd0 fun ov S1=>ad (h3 A _ s1 R S1) fun iv s2 S2=>S2.one fun X O W r=>r.on fun t=>?_) hW
 clear Sg i e np q p hd0 h1 h3 s R S S1 iv S2 r;refine aT (W.own1 hx (fun d z=>nomatch z)) fun a z1 oa=>?_;subst z1
 refine aT ((W.inv.own a _ oa).2) fun kvs hd hk=>?_
 exact wpAny_setItem_pairs (knd:=PySem.strKind G.prog G.w) (strKind_is _ _ kk t) hd (fun h' hd' sb=>⟨rfl,_,_,W.pop.pop.chg (c':=.dict (bn es kk d)) (tk:=s2.toks+1) oa (Nat.succ_pos _) (fun b o nb eb=>sb.extBut b o nb eb) (bi _ hd' (hk.stored (W.tm.2.1 X (.refl X)))) W.tm.1 (bi a rfl bK)⟩) (by refine eR hk.len ?_;exact eI hlen)
theorem mG(Sg:Stat G){i e:PySem.Expr}{np q p:Pos}{kk:Int}{es:List (Int × V)}(hd0:bu κ (nm x)=true)(h1:Ex G F n (eval e F.env) ρ σ d σ1)(hx:ρ x=some (.ownk es))(h3:Ex G F n (eval i F.env) ρ σ1 (.int kk) σ2)(hlen:es.length≤bq):
  kI G F n (exec (.Assign [.Subscript (.Name (nm x) np) i q] e p) F.env) ρ σ (ρ.set x (.ownk (wR es kk d))) σ2:=by
 refine fun A ts s R S=>wpAny_Assign_Subscript (ad (h1 A ts s R S) fun v s1 S1=>dN Sg S1 hx (fun d z=>nomatch z) hd0 fun ov S1=>ad (h3 A _ s1 R S1) fun iv s2 S2=>S2.one fun X O W r=>r.on fun t=>?_) hW
 clear Sg i e np q p hd0 h1 h3 s R S S1 iv S2 r;refine aT (W.own1 hx (fun d z=>nomatch z)) fun a z1 oa=>?_;subst z1
 refine aT ((W.inv.own a _ oa).2) fun kvs hd hk=>?_
 exact wpAny_setItem_pairs (knd:=PySem.intKind G.prog G.w) (intKind_is _ _ kk t) hd (fun h' hd' sb=>⟨rfl,_,_,W.pop.pop.chg (c':=.dcti (wR es kk d)) (tk:=s2.toks+1) oa (Nat.succ_pos _) (fun b o nb eb=>sb.extBut b o nb eb) (bi _ hd' (hk.stored (W.tm.2.1 X (.refl X)))) W.tm.1 (bi a rfl bK)⟩) (by refine eR hk.len ?_;exact eI hlen)
theorem RpF.len{es:List DictEntry}{fs:List (Nat × V)}(r:RpF G X es fs):es.length=fs.length:=by
 have:=r.v.n;rwa [List.length_map,List.length_map]at this
theorem kN{hs:Int}{t:Tok}{a:Nat}{v:Value}:∀{es:List DictEntry}{is:List Nat},rz es is→rz (es++[⟨hs,.str (nm a) t,v⟩]) (is++[a])
 |[],[],_=>⟨(vX hs t v rfl),trivial⟩
 |_::_,_::_,h=>⟨h.1,kN h.2⟩
 |[],_::_,h=>h.elim
 |_::_,[],h=>h.elim
theorem RpF.snoc{es:List DictEntry}{fs:List (Nat × V)}(r:RpF G X es fs){hs:Int}{t:Tok}{a:Nat}(z:Rp G X v d):RpF G X (es++[⟨hs,.str (nm a) t,v⟩]) (fs++[(a,d)]):=
 ⟨by refine eR List.map_append ?_;exact kN r.k,by refine eR List.map_append ?_;refine eR List.map_append ?_;exact r.v.append (.cons z .nil)⟩
theorem sO(Sg:Stat G)(Ks:KSet G){a C:Nat}{fs:List (Nat × V)}{u:Value}(W:Stw G F ρ (.nmv x v::val G u d::ts) σ s X O)(hx:ρ x=some (.owni C fs))(hfs:fs.lookup a=none)(hlen:fs.length≤100)(hf:af.fld C a=true):
  bC G A (setAttr v (nm a) u) (fun _ s'=>St G F (ρ.set x (.owni C (fs++[(a,d)]))) ts σ s') s:=by
 refine hU (W.own1 hx (fun d z=>nomatch z)) fun y dx z2 oa ob=>?_;subst z2
 have own:=fun a w e=>(W.inv.own a w e).2
 refine eB (own dx _ ob) fun es k g2 rf=>?_
 refine Exists.elim W.loc.ns fun m oL=>?_
 refine cB ((gW Sg.nm rf).2 hfs) fun z1 z2=>?_
 refine j4 Ks (W.st.kin Sg) (own y _ oa) g2 (own _ _ oL) (fun q=>by rw[q,oL]at ob;exact nomatch ob) hf z1 z2 (by refine eR rf.len ?_;exact Nat.lt_of_le_of_lt hlen (by decide)) fun h' k' hsh tk hns hdx kp=>?_
 have kX:dS X.g h':=fun b o e=>kp b o (fun q=>by rw[q,(W.inv.own _ _ oL).1]at e;exact nE e) (fun q=>by rw[q,(W.inv.own _ _ ob).1]at e;exact nE e) (W.inv.sub b o e)
 have ne:dx≠y:=fun q=>by rw[q,oa]at ob;exact nomatch ob
 refine⟨_,_,W.pop.pop.chgC (c':=.flds (fs++[(a,d)])) (tk:=s.toks+2) ob (Nat.succ_pos _) kX (fun b w n e z=>?_) (dA _ k' hdx (rf.snoc (W.tm.2.1 X (.refl X)))) W.tm.1 (gc y dx rfl ((dq (Ne.symm ne)).trans oa) bK)⟩
 by_cases q:b=F.env.locals
 ·clear ρ ts σ s A d x Sg Ks a C fs u hx hfs hlen hf y dx oa ob W own es k g2 rf z1 z2 k' hsh tk hdx kp kX ne n z;subst q;rw[oL]at e;refine oE e ?_;exact hns
 ·exact z.keep (.refl _) fun o=>kp b o q n
theorem iR(Sg:Stat G)(Ks:KSet G){a C:Nat}{fs:List (Nat × V)}{e:PySem.Expr}{np ap p:Pos}(hd0:bu κ (nm x)=true)(h1:Ex G F n (eval e F.env) ρ σ d σ')(hx:ρ x=some (.owni C fs))(hfs:fs.lookup a=none)(hlen:fs.length≤100)(hf:af.fld C a=true):
  kI G F n (exec (.Assign [.Attribute (.Name (nm x) np) (nm a) ap] e p) F.env) ρ σ (ρ.set x (.owni C (fs++[(a,d)]))) σ':=
 fun A ts s R S=>plainObj_wpAny_Assign_Attribute (ad (h1 A ts s R S) fun v s1 S1=>dN Sg S1 hx (fun d z=>nomatch z) hd0 fun ov S1=>S1.on fun X O W=>ad (sO Sg Ks W hx hfs hlen hf) fun _ s2 S2=>⟨rfl,S2⟩) kM
theorem tH{p:Pos}:Ex G F n (eval (.Dict [] [] p) F.env) ρ σ (.loc σ.cells.length) (σ.push (.dict [])):=
 fun A ts s R S=>wpAny_Dict_empty (S.newcell (.dict []) (bc _ _) S.tk (bR _) fun Y O t=>⟨[],Heap.DictOf.new s.heap,rfl,.nil⟩)
end
end Mine
namespace Mine
open PySem PySem.W PyProof.Rows
theorem jY{y:Str}{names:List (Str × NameKind)}{k:Nat}{acc:List (Str × Addr)}(h:(y,NameKind.cell)∈names∨(acc.lookup y).isSome):((cellsFrom k names acc).lookup y).isSome:=by
 induction names generalizing k acc with
 |nil=>exact h.resolve_left (fun z=>nomatch z)
 |cons z r ih=>
  obtain⟨z,kd⟩:=z
  unfold cellsFrom
  split
  ·rename_i q
   refine ih ?_
   by_cases e:y=z
   ·refine eR e ?_;exact .inr (by rw[List.lookup_cons,beq_self_eq_true];rfl)
   ·exact h.elim (fun h=>(List.mem_cons.mp h).elim (fun h=>by injection h with z1;clear ih q h;subst z1;exact absurd rfl e) .inl) fun h=>.inr (by refine eR List.lookup_cons ?_;refine eR (beq_eq_false_iff_ne.mpr e) ?_;exact h)
  ·rename_i q
   exact ih (h.elim (fun h=>(List.mem_cons.mp h).elim (fun h=>by injection h with z1 z2;clear ih k h;subst z1 z2;exact absurd rfl q) .inl) .inr)
section
variable {k:Str→Option NameKind}{y:Str}{v:Value}
theorem oe{b:List (Str × Value)}{m:Str→Option Value}(h:y∉b.map (·.1)):bindL k b m y=m y:=by
 induction b generalizing m with
 |nil=>rfl
 |cons p r ih=>
  obtain⟨n,v⟩:=p
  unfold bindL
  rw[List.map_cons,List.mem_cons,not_or]at h
  refine eR (ih h.2) ?_
  split
  ·exact if_neg h.1
  ·rfl
theorem sR(hk:k y=some .local){b:List (Str × Value)}{m:Str→Option Value}(hn:(b.map (·.1)).Nodup)(h:(y,v)∈b):bindL k b m y=some v:=by
 induction b generalizing m with
 |nil=>cases h
 |cons p r ih=>
  obtain⟨n,u⟩:=p
  unfold bindL
  rw[List.map_cons,List.nodup_cons]at hn
  rcases List.mem_cons.mp h with h|h
  ·injection h with z1 z2;clear ih h;subst z1 z2
   refine eR (oe hn.1) ?_;refine eR (if_pos hk) ?_
   exact if_pos rfl
  ·exact ih hn.2 h
theorem oB{b:List (Str × Value)}{m:Str→Option Value}(h:y∉b.map (·.1)):bindC k b m y=m y:=by
 induction b generalizing m with
 |nil=>rfl
 |cons p r ih=>
  obtain⟨n,v⟩:=p
  unfold bindC
  rw[List.map_cons,List.mem_cons,not_or]at h
  refine eR (ih h.2) ?_
  split
  ·rfl
  ·exact if_neg h.1
theorem sC(hk:k y≠some .local){b:List (Str × Value)}{m:Str→Option Value}(hn:(b.map (·.1)).Nodup)(h:(y,v)∈b):bindC k b m y=some v:=by
 induction b generalizing m with
 |nil=>cases h
 |cons p r ih=>
  obtain⟨n,u⟩:=p
  unfold bindC
  rw[List.map_cons,List.nodup_cons]at hn
  rcases List.mem_cons.mp h with h|h
  ·injection h with z1 z2;clear ih h;subst z1 z2
   refine eR (oB hn.1) ?_;refine eR (if_neg hk) ?_
   exact if_pos rfl
  ·exact ih hn.2 h
theorem mN{b:List (Str × Value)}(hn:(b.map (·.1)).Nodup)(h:(y,v)∈b):b.reverse.lookup y=some v:=by
 have key:∀(c:List (Str × Value)),(c.map (·.1)).Nodup→(y,v)∈c→c.lookup y=some v:=by
  intro c
  induction c with
  |nil=>intro _ h;cases h
  |cons p r ih=>
   intro hn h
   rw[List.map_cons,List.nodup_cons]at hn
   refine eR List.lookup_cons ?_
   rcases List.mem_cons.mp h with h|h
   ·refine qE h ?_;rw[beq_self_eq_true]
   ·have:(y==p.1)=false:=beq_eq_false_iff_ne.mpr fun q=>hn.1 (by refine eE q ?_;exact List.mem_map_of_mem (f:=(·.1)) h)
    refine eR this ?_;exact ih hn.2 h
 exact key _ (by refine eR List.map_reverse ?_;exact List.pairwise_reverse.mpr (hn.imp fun h=>Ne.symm h)) (List.mem_reverse.mpr h)
end
theorem mP{α β:Type}{l:List α}{m:List β}(h:l.length=m.length):(l.zip m).map (·.1)=l:=List.map_fst_zip (Nat.le_of_eq h)
theorem pH{x:Nat}{v:Value}{xs:List Nat}{vs:List Value}(h:(x,v)∈xs.zip vs):(nm x,v)∈(xs.map nm).zip vs:=by
 refine eR List.zip_map_left ?_;exact List.mem_map_of_mem (f:=Prod.map nm id) h
set_option backward.match.sparseCases true in
theorem pY{prog:Program}{w:World}{A:Around}{s:Shared}{R:Result→Shared→Prop}{a:Addr}{o:Obj}{fd:FuncData}{body:List PySem.Stmt}{vals:List Value}{binds:List (Str × Value)}(ht:0<s.toks)
  (hroom:A.depth<recursionLimit) (ho:s.heap.get? a=some o) (hdata:o.data=.func fd) (hlim:s.heap.NoLimit) (hcd:s.heap.CodeRec fd.code fd.qualname)
  (hbody:fd.body=.stmts body) (hbind:bindArgs fd ⟨vals,[]⟩=pure binds) (hclo:fd.closure=[])
  (hkind:∀x∈binds,fd.scope.names.lookup x.1=some .local∨(fd.scope.names.lookup x.1=some .cell∧((cellsFrom (s.heap.objs.size+1) fd.scope.names []).lookup x.1).isSome=true))
  (h:∀s1,0<s1.toks→InCallC s (callEnvC fd s.heap.objs.size a).locals (bindL (callEnvC fd s.heap.objs.size a).kindOf binds fun _=>none) (callEnvC fd s.heap.objs.size a).cells
    (bindC (callEnvC fd s.heap.objs.size a).kindOf binds fun _=>none) s1→
   wpAny (model prog w) (A.deeper (callEnvC fd s.heap.objs.size a)) (execs body (callEnvC fd s.heap.objs.size a)) (fun f s'=>R (.ok (.ret (match f with|.ret v=>v|_=>.none))) s') (fun _ _=>False) s1)
  (hco:fd.scope.isCoroutine=false) (hgen:fd.scope.isGenerator=false) (hk:fd.scope.kind=.function):codeAny (model prog w) A (.call (.ref a) ⟨vals,[]⟩) R s:=by
 refine codeAny_call_function hroom ho hdata hco hgen hbody hcd ?_
 refine hbind▸hclo▸?_
 refine wpAny_pure (wpAny_with_toks (n:=1) ht (wpAny_newFunctionEnv_cells hk hkind fun env he s' x=>?_))
 subst he
 exact fun htk=>⟨hlim.keeps x.toInCall.keep,codeAny_func (bt (h s' htk x))⟩
structure FnOk(G:Cfg)(f:Nat)(xs cs:List Nat)(sc:Scope)(body:List PySem.Stmt):Prop where
 ex:∃name qual params dV kV doc pm an cdv ct oc od osl,G.K.lookup f=some ⟨oc,od,.func (fnOf name qual params body sc dV kV doc pm an cdv ct),osl⟩∧codeIn G.K cdv qual=true∧
  (∀(s:Shared)(vals:List Value),G.K.In s.heap→vals.length=xs.length→BindsTo s (fnOf name qual params body sc dV kV doc pm an cdv ct) ⟨vals,[]⟩ ((xs.map nm).zip vals))∧
  (cs≠[]→∀vals:List Value,vals.length=xs.length→bindArgs (fnOf name qual params body sc dV kV doc pm an cdv ct) ⟨vals,[]⟩=pure ((xs.map nm).zip vals))
 co:sc.isCoroutine=false
 gen:sc.isGenerator=false
 kind:sc.kind=.function
 nodup:(xs.map nm).Nodup
 ps:∀x∈xs,sc.names.lookup (nm x)=some .local∨x∈cs
 cell:∀i∈cs,sc.names.lookup (nm i)=some .cell
 cells:∀y,sc.names.lookup y=some .cell→∃i∈cs,y=nm i
 nofree:∀y,sc.names.lookup y≠some .free
 nocell:cs=[]→∀x∈sc.names,x.2≠.cell
theorem mj{l:List (Str × Addr)}{y z:Str}{c:Addr}(ap:l.Pairwise fun x y=>x.2≠y.2)(h:(y,c)∈l)(h':(z,c)∈l):y=z:=by
 induction l with
 |nil=>cases h
 |cons p r ih=>
  rw[List.pairwise_cons]at ap
  rcases List.mem_cons.mp h with e|h<;>rcases List.mem_cons.mp h' with e'|h'
  ·rw[←e]at e';refine qE e' ?_;rfl
  ·exact absurd (by rw[←e]) (ap.1 _ h')
  ·exact absurd (by rw[←e']) (ap.1 _ h)
  ·exact ih ap.2 h h'
noncomputable def eD(E0:OM)(env:Env)(cs:List Nat)(L:Addr)(m cm:Str→Option Value):OM:=fun a=>if a=L then some ⟨.fr,.ns m⟩else match cs.find? (fun i=>env.cells.lookup (nm i)==some a)with
 |some i=>some ⟨.cl i,.cell (cm (nm i))⟩
 |none=>E0 a
section
variable {G:Cfg}{F:Frm}{n:Nat}{ρ ρ':ay}{ts:List Tmp}{σ σ':Store}{s s1:Shared}{A:Around}{X:VW}{O:OM}{cs xs:List Nat}{vs:List Value}{env:Env}{E0:OM}{m cm:Str→Option Value}{h1:Heap}{tk:Tok}
structure NewT(G:Cfg)(X:VW)(O:OM)(s:Shared)(E0:OM):Prop where
 o:∀a w,E0 a=some w→O a=none∧X.g.get? a=none∧f6 (some w)=false
 l:∀a w,E0 a=some w→∃o,s.heap.get? a=some o
 c:∀a w Y h',E0 a=some w→X.Le Y→dS s.heap h'→cQ G Y h' a w.c
structure ArgT(G:Cfg)(X:VW)(E0:OM)(xs:List Nat)(vs:List Value)(ρ':ay):Prop where
 n:vs.length=xs.length
 r:∀x sl,ρ' x=some sl→∃v,(x,v)∈xs.zip vs∧∀Y O',X.Le Y→(∀a w,E0 a=some w→O' a=some w)→Sl G Y O' x v sl
theorem iP(hn:∀i j,nm i=nm j→i=j)(I:Inv G X O σ s)(N:NewT G X O s E0)(k:dS s.heap h1)(ht:0<tk)(hk:env.scope.kind=.function)(hg:env.globals=mainGlobals)(hb:env.builtins=builtinsNs)(ns:h1.Ns env.locals m)(fr:s.heap.objs.size≤env.locals)
  (cell:∀y c,env.cells.lookup y=some c→h1.IsCell c (cm y)∧env.locals<c) (apart:env.cells.Pairwise fun x y=>x.2≠y.2) (some:∀i∈cs,(env.cells.lookup (nm i)).isSome∧env.kindOf (nm i)=some .cell) (ar:ArgT G X E0 xs vs ρ')
  (hp:∀x v,(x,v)∈xs.zip vs→(env.kindOf (nm x)=Option.some .local∧m (nm x)=Option.some v)∨(x∈cs∧cm (nm x)=Option.some v))
  {Z:Prop} (z:∀(F':Frm) X1 O',F'.env=env→F'.cs=cs→F'.X=X1→F'.O=dO O h1→(∀{F ρ ts},Stw G F ρ ts σ s X O→Stw G F ρ ts σ {s with heap:=h1,toks:=tk} X1 O)→Stw G F' ρ' [] σ {s with heap:=h1,toks:=tk} X1 O'→(∀x v,(x,v)∈xs.zip vs→env.kindOf (nm x)=Option.some .local→cN F' O' x v)→Z):Z:=by
 have nq:∀a w,O a=Option.some w→O a=none→s.heap.get? a=none∧false=false∧cQ G (X.add h1 fun _=>false) h1 a w.c:=fun a w e q=>by rw[e]at q;exact nR q
 have⟨W1,le⟩:=I.alloc (O':=O) k ht (fun _=>false) (fun _ e=>nomatch e) (fun _ _ e=>e) nq
 have newO:∀a,s.heap.objs.size≤a→O a=none∧X.g.get? a=none:=fun a ha=>by
  have e:=bp ha
  refine⟨?_,I.sub.none e⟩
  cases q:O a with
  |none=>rfl
  |some w=>refine Exists.elim ((I.own a w q).2.al) fun o g=>?_;rw[e]at g;exact nE g
 have EL:eD E0 env cs env.locals m cm env.locals=Option.some ⟨.fr,.ns m⟩:=if_pos rfl
 have EC:∀i∈cs,∀c,env.cells.lookup (nm i)=Option.some c→eD E0 env cs env.locals m cm c=Option.some ⟨.cl i,.cell (cm (nm i))⟩:=fun i hi c hc=>by
  unfold eD
  refine eR (if_neg (Nat.ne_of_gt (cell _ c hc).2)) ?_
  cases q:cs.find? (fun i=>env.cells.lookup (nm i)==Option.some c)with
  |none=>
   have:=List.find?_eq_none.mp q i hi
   rw[hc]at this;exact absurd (beq_self_eq_true _) this
  |some j=>
   have h1:=List.find?_some q
   rw[beq_iff_eq]at h1
   rw[hn _ _ (mj apart (bN h1) (bN hc))]
 have EE:∀a w,E0 a=Option.some w→eD E0 env cs env.locals m cm a=Option.some w:=fun a w e=>by
  refine Exists.elim (N.l a w e) fun o g=>?_
  have hlt:=Nat.lt_of_lt_of_le (Heap.lt_size g) fr
  unfold eD
  refine eR (if_neg (Nat.ne_of_lt hlt)) ?_
  cases q:cs.find? (fun i=>env.cells.lookup (nm i)==Option.some a)with
  |none=>exact e
  |some j=>
   have h1:=List.find?_some q
   rw[beq_iff_eq]at h1
   exact absurd hlt (Nat.not_lt.mpr (Nat.le_of_lt (cell _ a h1).2))
 have up:∀a w,eD E0 env cs env.locals m cm a=Option.some w→(fun a=>(eD E0 env cs env.locals m cm a).or (dO O h1 a)) a=Option.some w:=fun a w e=>by
  show Option.or _ _=_
  refine eR e ?_;rfl
 let F':Frm:=⟨env,cs,X.add h1 fun _=>false,dO O h1,hk,hg,hb⟩
 have hold:∀x v,(x,v)∈xs.zip vs→cN F' (fun a=>(eD E0 env cs env.locals m cm a).or (dO O h1 a)) x v:=fun x v hx=>by
  rcases hp x v hx with⟨k1,k2⟩|⟨k1,k2⟩
  ·exact .inl ⟨k1,m,up _ _ EL,k2⟩
  ·obtain⟨c,hc⟩:=Option.isSome_iff_exists.mp (some x k1).1
   exact .inr ⟨k1,c,hc,by refine eE k2 ?_;exact up _ _ (EC x k1 c hc)⟩
 refine z F' _ _ rfl rfl rfl rfl (fun W=>(W.alloc (O':=O) k ht (fun _=>false) (fun _ e=>nomatch e) (fun _ _ e=>e) nq).1) (Stw.enter W1 (F':=F') rfl rfl (E:=eD E0 env cs env.locals m cm) (fun a w e=>?_) ⟨⟨m,up _ _ EL⟩,fun x hx=>?_,fun x sl e=>?_⟩ trivial) fun x v hx _=>hold x v hx
 ·unfold eD at e
  by_cases q:a=env.locals
  ·rw[if_pos q]at e;refine oE e ?_;subst q
   exact p6 ((newO _ fr).1) (cg (newO _ fr).2 rfl) ns rfl
  ·replace e:=(if_neg q)▸e
   cases q:cs.find? (fun i=>env.cells.lookup (nm i)==Option.some a)with
   |none=>
    replace e:=q▸e
    refine o6 (N.o a w e) fun z1 z2 z3=>?_
    exact p6 z1 (cg z2 rfl) (N.c a w _ h1 e le k) z3
   |some j=>
    rw[q]at e;refine oE e ?_
    have h1:=List.find?_some q
    rw[beq_iff_eq]at h1
    refine cB (cell _ a h1) fun z1 z2=>?_
    have:=newO a (Nat.le_trans fr (Nat.le_of_lt z2))
    exact p6 this.1 (cg this.2 rfl) z1 rfl
 ·refine Exists.elim (Option.isSome_iff_exists.mp (some x hx).1) fun c hc=>?_
  exact gc c _ hc (up _ _ (EC x hx c hc)) ((some x hx).2)
 ·refine aT (ar.r x sl e) fun v hx hs=>?_
  exact bi v (hs _ _ le fun a w e=>up a w (EE a w e)) (.inl (hold x v hx))
set_option backward.match.sparseCases true in
theorem gq(Sg:Stat G){f:Nat}{sc:Scope}{body:List PySem.Stmt}(Fo:FnOk G f xs cs sc body)(hd:A.depth<recursionLimit)(I:Inv G X O σ s)(N:NewT G X O s E0)(ar:ArgT G X E0 xs vs ρ'){R:Result→Shared→Prop}
  (K:∀(F':Frm) s1 X1 O',F'.env.scope=sc→F'.cs=cs→FOk sc.names F'.env→F'.X=X1→F'.O=dO O s1.heap→(∀{F ρ ts},Stw G F ρ ts σ s X O→Stw G F ρ ts σ s1 X1 O)→Stw G F' ρ' [] σ s1 X1 O'→(∀x v,(x,v)∈xs.zip vs→sc.names.lookup (nm x)=some .local→cN F' O' x v)→
   bC G (A.deeper F'.env) (execs body F'.env) (fun f s'=>R (.ok (.ret (match f with|.ret v=>v|_=>.none))) s') s1):codeAny (model G.prog G.w) A (.call (.ref f) ⟨vs,[]⟩) R s:=by
 obtain⟨name,qual,params,dV,kV,doc,pm,an,cdv,ct,oc,od,osl,hK,hcd,hb,hbc⟩:=Fo.ex
 have ht:=I.tk
 have x0:=I.x0.g.trans I.sub
 have XX:G.K.In s.heap:=fun a o e=>x0 _ _ (Sg.kin a o e)
 have hlim:s.heap.NoLimit:=Sg.nolimit.keeps fun a o e=>x0 a o e
 have hlen:=ar.n
 have zf:((xs.map nm).zip vs).map (·.1)=xs.map nm:=mP (by rw[List.length_map,hlen])
 have hnd:(((xs.map nm).zip vs).map (·.1)).Nodup:=by refine eR zf ?_;exact Fo.nodup
 have kOk:∀(env:Env),env.scope=sc→(∀i∈cs,(env.cells.lookup (nm i)).isSome)→FOk sc.names env:=fun env e hc=>by
  have kd:∀y,env.kindOf y=sc.names.lookup y:=fun y=>by show env.scope.names.lookup y=_;rw[e]
  refine⟨fun y h=>by rw[kd];exact h,fun y h=>?_,fun y h=>by rw[kd];exact h⟩
  rcases h with h|h
  ·refine aT (Fo.cells y h) fun i hi z2=>?_;subst z2;exact⟨.inl (by rw[kd];exact h),hc i hi⟩
  ·exact absurd h (Fo.nofree y)
 have psn:∀x∈(xs.map nm).zip vs,∃i∈xs,nm i=x.1:=fun x hx=>by
  have:x.1∈((xs.map nm).zip vs).map (·.1):=List.mem_map_of_mem hx
  rw[zf]at this
  exact aT (List.mem_map.mp this) fun i hi e=>bi i hi e
 by_cases hcs:cs=[]
 ·refine codeAny_call_def (fd:=fnOf name qual params body sc dV kV doc pm an cdv ct) (body:=body) (binds:=(xs.map nm).zip vs) hd (XX _ _ hK) rfl hlim (codeRec_of XX hcd) rfl (hb s vs XX hlen) (Fo.nocell hcs) (fun x hx=>?_) (fun h1 ns1 kp1=>bt ?_) Fo.co Fo.gen Fo.kind
  ·obtain⟨i,hi,e⟩:=psn x hx
   refine eE e ?_
   exact(Fo.ps i hi).resolve_right fun z=>by rw[hcs]at z;exact nomatch z
  ·refine iP (cs:=cs) (cm:=fun _=>none) (tk:=s.toks+((xs.map nm).zip vs).length) (env:=callEnv (fnOf name qual params body sc dV kV doc pm an cdv ct) s.heap.objs.size f) Sg.nm I N kp1 (Nat.lt_of_lt_of_le ht (Nat.le_add_right _ _)) Fo.kind rfl rfl ns1 (Nat.le_refl _) (fun y c e=>(nomatch e)) .nil (fun i hi=>by rw[hcs]at hi;exact nomatch hi) ar (fun x v hx=>.inl ⟨(Fo.ps x (List.of_mem_zip hx).1).resolve_right (fun z=>by replace z:=hcs▸z;exact nomatch z),mN hnd (pH hx)⟩)
    fun F' X1 O' e1 e2 e3 e4 W1 W2 hl=>?_
   have:=K F' _ X1 O' (by refine eR e1 ?_;rfl) e2 (by refine eR e1 ?_;exact kOk _ rfl fun i hi=>by rw[hcs]at hi;exact nomatch hi) e3 e4 W1 W2 fun x v hx h=>hl x v hx h
   replace this:=e1▸this;exact this
 ·have cellSome:∀i∈cs,((cellsFrom (s.heap.objs.size+1) sc.names []).lookup (nm i)).isSome:=fun i hi=>jY (.inl (bN (Fo.cell i hi)))
  refine pY (fd:=fnOf name qual params body sc dV kV doc pm an cdv ct) (body:=body) (binds:=(xs.map nm).zip vs) ht hd (XX _ _ hK) rfl hlim (codeRec_of XX hcd) rfl (hbc hcs vs hlen) rfl (fun x hx=>?_) (fun s1 ht1 ic=>?_) Fo.co Fo.gen Fo.kind
  ·refine aT (psn x hx) fun i hi e=>?_
   refine eE e ?_
   exact(Fo.ps i hi).imp id fun z=>⟨Fo.cell i z,cellSome i z⟩
  ·obtain⟨⟨h',tk,e1⟩,ns1,kp1,fr1⟩:=ic.toInCall
   have kd:∀y,(callEnvC (fnOf name qual params body sc dV kV doc pm an cdv ct) s.heap.objs.size f).kindOf y=sc.names.lookup y:=fun _=>rfl
   have nl:∀x,x∈cs→(callEnvC (fnOf name qual params body sc dV kV doc pm an cdv ct) s.heap.objs.size f).kindOf (nm x)≠some .local:=fun x hx z=>by
    rw[kd,Fo.cell x hx]at z;exact absurd z (by decide)
   subst e1
   refine iP (cs:=cs) (tk:=tk) (env:=callEnvC (fnOf name qual params body sc dV kV doc pm an cdv ct) s.heap.objs.size f) Sg.nm I N kp1 ht1 Fo.kind rfl rfl ns1 fr1 (fun y c e=>⟨ic.cell y c e,ic.above y c (bN e)⟩) ic.apart (fun i hi=>⟨cellSome i hi,Fo.cell i hi⟩) ar (fun x v hx=>(Fo.ps x (List.of_mem_zip hx).1).imp (fun z=>⟨z,sR (by rw[kd];exact z) hnd (pH hx)⟩) fun z=>⟨z,sC (nl x z) hnd (pH hx)⟩)
    fun F' X1 O' e1 e2 e3 e4 W1 W2 hl=>?_
   have:=K F' _ X1 O' (by refine eR e1 ?_;rfl) e2 (by refine eR e1 ?_;exact kOk _ rfl cellSome) e3 e4 W1 W2 fun x v hx h=>hl x v hx h
   rw[e1]at this;exact this
end
end Mine
namespace Mine
open PySem PySem.W PyProof.Rows
structure Spec(G:Cfg)(n:Nat):Prop where
 sorted:∀{F:Frm}{ρ:ay}{ts:List Tmp}{σ σ':Store}{s:Shared}{A:Around}{us:List Value}{vs:List V}{d:V},pP .sorted vs σ=some (d,σ')→Room n A→St G F ρ (vals G us vs::ts) σ s→bC G A (call (.builtin "sorted") us) (kB G F ρ ts σ' d) s
 listval:∀{F:Frm}{κ:bf}{ρ:ay}{σ σ':Store}{l:List V}{e:PySem.Expr}{p pos:Pos},FOk κ F.env→aX κ ("list":Str)=true→OkX e→Ex G F n (eval e F.env) ρ σ (.lst l) σ'→l.length≤bq→Ex G F n (eval (.Call (.Name ("list":Str) p) [e] [] pos) F.env) ρ σ (.lst l) σ'
 listzip:∀{F:Frm}{κ:bf}{ρ:ay}{σ σ1 σ2:Store}{l m:List V}{e f:PySem.Expr}{p q q' pos:Pos},FOk κ F.env→aX κ ("list":Str)=true→aX κ ("zip":Str)=true→OkX e→OkX f→Ex G F n (eval e F.env) ρ σ (.lst l) σ1→Ex G F n (eval f F.env) ρ σ1 (.lst m) σ2→l.length≤bq→
  Ex G F n (eval (.Call (.Name ("list":Str) p) [.Call (.Name ("zip":Str) q) [e,f] [] q'] [] pos) F.env) ρ σ (.lst (cI l m)) σ2
 dictzip:∀{F:Frm}{κ:bf}{ρ:ay}{σ σ1 σ2:Store}{l m:List V}{es:List (Str × V)}{e f:PySem.Expr}{p q q' pos:Pos},FOk κ F.env→aX κ ("dict":Str)=true→aX κ ("zip":Str)=true→OkX e→OkX f→Ex G F n (eval e F.env) ρ σ (.lst l) σ1→Ex G F n (eval f F.env) ρ σ1 (.lst m) σ2→dk (cI l m)=some es→l.length≤bq→
  Ex G F n (eval (.Call (.Name ("dict":Str) p) [.Call (.Name ("zip":Str) q) [e,f] [] q'] [] pos) F.env) ρ σ (.loc σ2.cells.length) (σ2.push (.dict (es.foldl (fun acc p=>bn acc p.1 p.2) [])))
 stray:∀{F:Frm}{κ:bf}{ρ:ay}{σ:Store}{l d wo one:Nat}{x:PySem.Expr}{tl dl:List V},FOk κ F.env→dD κ (.stray l d wo one) x=true→ρ l=some (.v (.lst tl))→ρ d=some (.v (.lst dl))→i7 tl dl=true→ExB G F n (bD (.stray l d wo one) x) ρ σ (.bool false) σ
structure Zt(G:Cfg)(n:Nat)(c:Calls):Prop where
 S:Stat G
 C:ClsOk G
 F:KFacts G
 c:CallsOk G n c
 sp:Spec G n
section
variable (G:Cfg)(n:Nat)(c:Calls)
noncomputable def ME(e:E):Prop:=∀(κ:bf)(F:Frm)(x:PySem.Expr)(ρ:ay)(σ:Store)(d:V)(σ':Store),FOk κ F.env→dD κ e x=true→ak af.toTab c e ρ σ=some (d,σ')→ExV G F n (bD e x) ρ σ d σ'
noncomputable def rZ:Es→Prop
 |.nil=>True
 |.cons e r=>ME G n c e∧rZ r
noncomputable def zr:It→Prop
 |.val e=>ME G n c e
 |.range e=>ME G n c e
 |.enum e=>ME G n c e
 |.zip a b=>ME G n c a∧ME G n c b
end
section
variable {G:Cfg}{n:Nat}{c:Calls}{F:Frm}{κ:bf}{ρ ρ':ay}{σ σ' σ1 σ2:Store}{d:V}{x:PySem.Expr}
theorem fS{es:Es}(M:rZ G n c es)(K:FOk κ F.env){l:List PySem.Expr}(ok:iY κ es l=true){ds:List V}(h:b8 af.toTab c es ρ σ=some (ds,σ')):q8 G F n (f7 es l) ρ σ ds σ':=by
 induction es using Es.rec (motive_1:=fun _=>True) (motive_3:=fun _=>True) generalizing l σ ds σ' with
 |nil=>refine pE h ?_;exact eX
 |cons e r _ ih=>
  exact ca (h) fun d σ1 e1 h=>ca h fun ds' σ2 e2 h=>by
   refine pE h ?_
   exact dr (bx e _) (M.1 _ _ _ _ _ _ _ K (ae ok).1 e1).v (ih M.2 (ae ok).2 e2)
 |_=>trivial
theorem yz{es:Es}(M:rZ G n c es)(K:FOk κ F.env){l:List PySem.Expr}(ok:iY κ es l=true){op:BoolOp}{p:Pos}(h:xY af.toTab c op es ρ σ=some (d,σ')):ExB G F n (.BoolOp op (f7 es l) p) ρ σ d σ':=by
 induction es using Es.rec (motive_1:=fun _=>True) (motive_3:=fun _=>True) generalizing l σ with
 |nil=>exact nE h
 |cons e r _ ih=>
  induction r using Es.casesOn with
  |nil=>exact ca (h) fun d' σ1 e1 h=>by refine pE h ?_;exact wH (M.1 _ _ _ _ _ _ _ K (ae ok).1 e1).toExB
  |cons e' r'=>
   refine ca (h) fun d' σ1 e1 h=>?_
   refine Bw (M:=fun d'=>ExB G F n (bD e (l.headD zm)) ρ σ d' σ1→ExB G F n (.BoolOp op (f7 (.cons e (.cons e' r')) l) p) ρ σ d σ') h (fun b h B=>?_) (M.1 _ _ _ _ _ _ _ K (ae ok).1 e1).toExB
   induction op using BoolOp.casesOn with
   |And=>cases b with
    |true=>exact vV rfl B (ih M.2 (ae ok).2 h)
    |false=>refine pE h ?_;exact n0 rfl B
   |Or=>cases b with
    |true=>refine pE h ?_;exact n0 rfl B
    |false=>exact vV rfl B (ih M.2 (ae ok).2 h)
 |_=>trivial
theorem jE{as:Es}{l:List PySem.Expr}{ds:List V}(hm:b8 af.toTab c as ρ σ=some (ds,σ1))(h:f7 as l=[]):ds=[]∧σ1=σ:=by
 induction as using Es.casesOn with
 |nil=>refine pE hm ?_;exact⟨rfl,rfl⟩
 |cons _ _=>injection h
theorem zK(as:Es):∀l,(f7 as l).length=ux as:=by
 induction as using Es.rec (motive_1:=fun _=>True) (motive_3:=fun _=>True)with
 |nil=>exact fun l=>rfl
 |cons e r _ ih=>exact fun l=>congrArg Nat.succ (ih l.tail)
 |_=>trivial
theorem tM{M:V→List V→Prop}{l:List V}(h:gH σ d=some l)(k1:M (.lst l) l)(k2:∀i,M (.tup i l) l)(k3:∀es,M (.dct es) (es.map fun p=>V.ks p.1))(k4:∀s:Str,s.cps.toList.all (· <128)=true→M (.str s) (nT s)):M d l:=by
 induction d using V.casesOn with
 |lst l'=>refine oR h ?_;exact k1
 |tup i l'=>refine oR h ?_;exact k2 i
 |dct es=>refine oE h ?_;exact k3 es
 |str s=>exact bv (h) fun q h=>by refine oE h ?_;exact k4 s q
 |_=>exact nE h
theorem pF(it:It)(x:PySem.Expr):OkX (jh it x):=by
 induction it using It.casesOn with
 |val e=>exact bx e x
 |_=>exact⟨fun _ _=>rfl,fun _=>rfl,fun _ _=>rfl,fun _ _=>rfl⟩
theorem pd(Z:Zt G n c){it:It}(M:zr G n c it)(K:FOk κ F.env)(ok:rL κ it x=true){tg:List Nat}{y:PySem.Expr}(ht:wp it tg=true){l:List V}(h:cH af.toTab c it ρ σ=some (l,σ')):mY G F n (jh it x) (eP nm tg y) ρ σ l σ':=by
 have two:∀{tg:List Nat},2≤tg.length→eP nm tg y=.Tuple (vR nm tg (dG y)) (kn y) y.pos:=fun{tg} h=>by
  induction tg using List.casesOn with
  |nil=>exact absurd h (by decide)
  |cons a r=>induction r using List.casesOn with
   |nil=>exact absurd (show 2≤1 from h) (by decide)
   |cons _ _=>rfl
 induction it using It.casesOn with
 |val e=>
  exact ca (h) fun d σ1 e1 h=>pI h fun l' e2 h=>by
   cases h
   exact tM (M:=fun d l=>Ex G F n (eval (bD e x) F.env) ρ σ d σ'→mY G F n (bD e x) (eP nm tg y) ρ σ l σ') e2 jN (fun i=>rV) (fun es=>t9) (fun s ha=>wD ha) (M _ _ _ _ _ _ _ K ok e1).v
 |range e=>
  exact ca (h) fun d σ1 e1 h=>ma (M:=fun d=>Ex G F n (eval (bD e (kd 1 x)) F.env) ρ σ d σ1→mY G F n (jh (.range e) x) (eP nm tg y) ρ σ l σ') h (fun k h E=>bv h fun q h=>by
   refine pE h ?_;exact sU K Z.S (ae ok).1 (bx e _) E q) (M _ _ _ _ _ _ _ K (ae ok).2 e1).v
 |enum e=>
  exact ca (h) fun d σ1 e1 h=>v7 (M:=fun d=>Ex G F n (eval (bD e (kd 1 x)) F.env) ρ σ d σ1→mY G F n (jh (.enum e) x) (eP nm tg y) ρ σ l σ') h (fun k h E=>bv h fun q h=>by
   refine pE h ?_;refine eR (two (of_decide_eq_true ht)) ?_;exact tb K Z.S (ae ok).1 (bx e _) E) (M _ _ _ _ _ _ _ K (ae ok).2 e1).v
 |zip a b=>
  exact ca (h) fun d σ1 e1 h=>ca h fun d' σ2 e2 h=>v7 (M:=fun d=>Ex G F n (eval (bD a (kd 1 x)) F.env) ρ σ d σ1→mY G F n (jh (.zip a b) x) (eP nm tg y) ρ σ l σ') h (fun k h E=>v7 (M:=fun d'=>Ex G F n (eval (bD b (kd 2 x)) F.env) ρ σ1 d' σ2→mY G F n (jh (.zip a b) x) (eP nm tg y) ρ σ l σ') h (fun k' h E'=>by
   refine pE h ?_;refine eR (two (of_decide_eq_true ht)) ?_;exact xi K Z.S (ae (ae ok).1).1 (bx a _) (bx b _) E E') (M.2 _ _ _ _ _ _ _ K (ae ok).2 e2).v) (M.1 _ _ _ _ _ _ _ K (ae (ae ok).1).2 e1).v
theorem o3(Z:Zt G n c){y:PySem.Expr}(h:ExB G F n y ρ σ d σ')(hs:∀z (py:Pos)(l:Nat),swapsWith y (some (.Name z py)) l F.env=pure false):ExV G F n y ρ σ d σ':=ExV.of Z.S h hs
theorem dX(Z:Zt G n c){y:PySem.Expr}(h:Ex G F n (eval y F.env) ρ σ d σ')(ht:∀(env:Env)(jj:Sem Value),isTrue y env jj=(do let v←jj;standAt y.pos;holding [v] (truthy v)))(hs:∀z (py:Pos)(l:Nat),swapsWith y (some (.Name z py)) l F.env=pure false):ExV G F n y ρ σ d σ':=ExV.of Z.S (iJ h ht) hs
variable (Z:Zt G n c)
include Z
theorem yx:ME G n c .none:=fun κ F x ρ σ d σ' K ok h=>by refine pE h ?_;exact dX Z xy (fun _ _=>rfl) fun _ _ _=>rfl
theorem yS(b:Bool):ME G n c (.bool b):=fun κ F x ρ σ d σ' K ok h=>by refine pE h ?_;exact dX Z xC (fun _ _=>rfl) fun _ _ _=>rfl
theorem A8(i:Int):ME G n c (.int i):=fun κ F x ρ σ d σ' K ok h=>by refine pE h ?_;exact dX Z tt (fun _ _=>rfl) fun _ _ _=>rfl
theorem AR(i:Str):ME G n c (.str i):=fun κ F x ρ σ d σ' K ok h=>by refine pE h ?_;exact dX Z y4 (fun _ _=>rfl) fun _ _ _=>rfl
theorem zS(i:Nat):ME G n c (.var i):=fun κ F x ρ σ d σ' K ok h=>by
 have h:(match ρ i with
  |some (.v d)=>some (d,σ)
  |_=>none)=some (d,σ'):=h
 cases e:ρ i with
 |none=>rw[e]at h;exact nE h
 |some sl=>replace h:=e▸h;induction sl using Slot.casesOn with
  |v d=>refine pE h ?_;exact dX Z (jS Z.S e ok) (fun _ _=>rfl) fun _ _ _=>rfl
  |_=>exact nE h
theorem zG(i:Nat):ME G n c (.glob i):=fun κ F x ρ σ d σ' K ok h=>pI (h) fun r e h=>by refine qE h ?_;exact dX Z (xH Z.S K ok e) (fun _ _=>rfl) fun _ _ _=>rfl
theorem yH(e:E)(a:Nat)(M:ME G n c e):ME G n c (.attr e a):=fun κ F x ρ σ d σ' K ok h=>ca (h) fun r σ1 e1 h=>pI h fun u e2 h=>by
 refine qE h ?_;exact dX Z (xc Z.S Z.C (ae ok).1 (M _ _ _ _ _ _ _ K (ae ok).2 e1).v e2) (fun _ _=>rfl) fun _ _ _=>rfl
theorem zz(a b:E)(M:ME G n c a)(M':ME G n c b):ME G n c (.item a b):=fun κ F x ρ σ d σ' K ok h=>ca (h) fun r σ1 e1 h=>ca h fun r' σ2 e2 h=>pI h fun u e3 h=>by
 refine qE h ?_;exact dX Z (xu Z.S (bx b _) (M _ _ _ _ _ _ _ K (ae ok).1 e1).v (M' _ _ _ _ _ _ _ K (ae ok).2 e2).v e3) (fun _ _=>rfl) fun _ _ _=>rfl
theorem wI(a b:E)(M:ME G n c a)(M':ME G n c b):ME G n c (.sfrom a b):=fun κ F x ρ σ d σ' K ok h=>ca (h) fun r σ1 e1 h=>ca h fun r' σ2 e2 h=>pI h fun u e3 h=>by
 refine qE h ?_;exact dX Z (tI (M _ _ _ _ _ _ _ K (ae ok).1 e1).v (M' _ _ _ _ _ _ _ K (ae ok).2 e2).v e3) (fun _ _=>rfl) fun _ _ _=>rfl
theorem As(a b:E)(M:ME G n c a)(M':ME G n c b):ME G n c (.sto a b):=fun κ F x ρ σ d σ' K ok h=>ca (h) fun r σ1 e1 h=>ca h fun r' σ2 e2 h=>pI h fun u e3 h=>by
 refine qE h ?_;exact dX Z (zc (M _ _ _ _ _ _ _ K (ae ok).1 e1).v (M' _ _ _ _ _ _ _ K (ae ok).2 e2).v e3) (fun _ _=>rfl) fun _ _ _=>rfl
theorem An(op:Operator)(a b:E)(M:ME G n c a)(M':ME G n c b):ME G n c (.bin op a b):=fun κ F x ρ σ d σ' K ok h=>ca (h) fun r σ1 e1 h=>ca h fun r' σ2 e2 h=>pI h fun u e3 h=>by
 refine qE h ?_;exact o3 Z (xq (M _ _ _ _ _ _ _ K (ae ok).1 e1).v (M' _ _ _ _ _ _ _ K (ae ok).2 e2).v e3) fun _ _ _=>rfl
theorem Ax(a:E)(M:ME G n c a):ME G n c (.neg a):=fun κ F x ρ σ d σ' K ok h=>ca (h) fun r σ1 e1 h=>ma (M:=fun r=>ak af.toTab c a ρ σ=some (r,σ1)→ExV G F n (bD (.neg a) x) ρ σ d σ') h (fun i h e1=>by
 refine pE h ?_;exact o3 Z (wN (M _ _ _ _ _ _ _ K ok e1).v) fun _ _ _=>rfl) e1
theorem AM(op:CmpOp)(a b:E)(M:ME G n c a)(M':ME G n c b):ME G n c (.cmp op a b):=fun κ F x ρ σ d σ' K ok h=>ca (h) fun r σ1 e1 h=>ca h fun r' σ2 e2 h=>pI h fun u e3 h=>by
 refine qE h ?_;exact o3 Z (mA Z.S (bx b _) (M _ _ _ _ _ _ _ K (ae ok).1 e1).v (M' _ _ _ _ _ _ _ K (ae ok).2 e2).v e3) fun _ _ _=>rfl
theorem Af(op:BoolOp)(es:Es)(M:rZ G n c es):ME G n c (.bop op es):=fun κ F x ρ σ d σ' K ok h=>o3 Z (yz M K ok h) fun _ _ _=>rfl
theorem Ah(a:E)(M:ME G n c a):ME G n c (.not a):=fun κ F x ρ σ d σ' K ok h=>ca (h) fun r σ1 e1 h=>Bw (M:=fun r=>ak af.toTab c a ρ σ=some (r,σ1)→ExV G F n (bD (.not a) x) ρ σ d σ') h (fun i h e1=>by
 refine pE h ?_;exact o3 Z (wG (M _ _ _ _ _ _ _ K ok e1).toExB) fun _ _ _=>rfl) e1
theorem Bb(t a b:E)(M0:ME G n c t)(M:ME G n c a)(M':ME G n c b):ME G n c (.ite t a b):=fun κ F x ρ σ d σ' K ok h=>ca (h) fun r σ1 e1 h=>Bw (M:=fun r=>ak af.toTab c t ρ σ=some (r,σ1)→ExV G F n (bD (.ite t a b) x) ρ σ d σ') h (fun i h e1=>
 o3 Z (xX ((M0 _ _ _ _ _ _ _ K (ae (ae ok).1).1 e1).t i rfl) (by induction i using Bool.casesOn;exact(M' _ _ _ _ _ _ _ K (ae ok).2 h).toExB;exact(M _ _ _ _ _ _ _ K (ae (ae ok).1).2 h).toExB)) fun _ _ _=>rfl) e1
theorem Aq(a:E)(cl:List Nat)(M:ME G n c a):ME G n c (.isi a cl):=fun κ F x ρ σ d σ' K ok h=>ca (h) fun r σ1 e1 h=>by
 induction r using V.casesOn with
 |inst C fs=>
  exact bv (h) fun q h=>by
   refine pE h ?_
   exact dX Z (yN K Z.S Z.F (ae (ae ok).1).1 (bx a _) (M _ _ _ _ _ _ _ K (ae (ae ok).1).2 e1).v (ae (ae q).1).1 (ae (ae q).1).2 (of_decide_eq_true (ae q).2) (ae ok).2) (fun _ _=>rfl) fun _ _ _=>rfl
 |_=>exact nE h
theorem yD(f:Nat)(es:Es)(M:rZ G n c es):ME G n c (.call f es):=fun κ F x ρ σ d σ' K ok h=>ca (h) fun r σ1 e1 h=>
 dX Z (xt Z.S K Z.F Z.c (ae (ae ok).1).2 (bne_iff_ne.mp (ae (ae ok).1).1) (g9 es _) (jE e1) (fS M K (ae ok).2 e1) h) (fun _ _=>rfl) fun _ _ _=>rfl
theorem A7(f:Nat)(es:Es)(M:rZ G n c es):ME G n c (.new f es):=fun κ F x ρ σ d σ' K ok h=>ca (h) fun r σ1 e1 h=>
 dX Z (zL Z.S K Z.F Z.c (ae ok).1 (g9 es _) (jE e1) (fS M K (ae ok).2 e1) h) (fun _ _=>rfl) fun _ _ _=>rfl
theorem zp(es:Es)(M:rZ G n c es):ME G n c (.list es):=fun κ F x ρ σ d σ' K ok h=>ca (h) fun r σ1 e1 h=>bv h fun q h=>by
 refine pE h ?_;exact dX Z (mM (fS M K ok e1) q) (fun _ _=>rfl) fun _ _ _=>rfl
theorem wC(es:Es)(M:rZ G n c es):ME G n c (.listm es):=fun κ F x ρ σ d σ' K ok h=>ca (h) fun r σ1 e1 h=>bv h fun q h=>by
 refine pE h ?_;exact dX Z (uL (fS M K ok e1) q) (fun _ _=>rfl) fun _ _ _=>rfl
theorem AZ(es:Es)(M:rZ G n c es):ME G n c (.tup es):=fun κ F x ρ σ d σ' K ok h=>ca (h) fun r σ1 e1 h=>bv h fun q h=>by
 refine pE h ?_;exact dX Z (vH (fS M K ok e1) q) (fun _ _=>rfl) fun _ _ _=>rfl
theorem zJ(es:Es)(M:rZ G n c es):ME G n c (.tupi es):=fun κ F x ρ σ d σ' K ok h=>ca (h) fun r σ1 e1 h=>bv h fun q h=>by
 refine pE h ?_;exact dX Z (xz (fS M K ok e1) q) (fun _ _=>rfl) fun _ _ _=>rfl
end
end Mine
namespace Mine
open PySem PySem.W PyProof.Rows
section
variable {G:Cfg}{n:Nat}{c:Calls}{F:Frm}{κ:bf}{ρ ρ':ay}{σ σ' σ1 σ2:Store}{d:V}{x:PySem.Expr}{A:Around}{s:Shared}{ts:List Tmp}
theorem ot{as:Es}(h:b8 af.toTab c as ρ σ=some ([d],σ')){C:Prop}(k:∀e,as=.cons e .nil→ak af.toTab c e ρ σ=some (d,σ')→C):C:=by
 induction as using Es.casesOn with
 |nil=>cases h
 |cons e r=>
  refine ca (h) fun a σ1 e1 h=>?_
  induction r using Es.casesOn with
  |nil=>cases h;exact k e rfl e1
  |cons e' r'=>exact ca h fun ds σ2 e2 h=>by clear e1 k;cases h;exact ca (e2) fun _ _ _ e2=>ca e2 fun _ _ _ e2=>by cases e2
theorem vS{as:Es}{d':V}(h:b8 af.toTab c as ρ σ=some ([d,d'],σ')){C:Prop}(k:∀e f σ1,as=.cons e (.cons f .nil)→ak af.toTab c e ρ σ=some (d,σ1)→ak af.toTab c f ρ σ1=some (d',σ')→C):C:=by
 induction as using Es.casesOn with
 |nil=>cases h
 |cons e r=>
  refine ca (h) fun a σ1 e1 h=>ca h fun ds σ2 e2 h=>?_
  cases h
  exact ot e2 fun f e3 e4=>k e f σ1 (by rw[e3]) e1 e4
theorem wW{M:V→List V→V→Store→Prop}{m:Nat}{vs:List V}{σ0:Store}{r:V}(h:tJ af.toTab c d m vs σ0 σ=some (r,σ'))(k1:∀C fs f,fs.lookup m=none→af.mth C m=some f→c.fn f (.inst C fs::vs) σ=some (r,σ')→M (.inst C fs) vs r σ')
  (k2:∀s t,nm m=("rfind":Str)→M (.str s) [.str t] (.int (Txt.rfind s t)) σ) (k3:∀j es es' k dv,nm m=("get":Str)→σ0.cells[j]? =some (.dict es')→σ.cells[j]? =some (.dict es)→M (.loc j) [.str k,dv] ((cY es k).getD dv) σ):M d vs r σ':=by
 induction d using V.casesOn with
 |inst C fs=>exact bv (h) fun q h=>ob h fun f e h=>k1 C fs f (Option.isNone_iff_eq_none.mp q) e h
 |str s=>
  exact bv (h) fun q h=>by
   clear k1 k3;induction vs using List.casesOn with
   |nil=>exact nE h
   |cons v vs=>induction vs using List.casesOn with
    |nil=>induction v using V.casesOn with
     |str t=>refine pE h ?_;exact k2 s t q
     |_=>exact nE h
    |cons _ _=>induction v using V.casesOn<;>exact nE h
 |loc j=>
  exact bv h fun q h=>ob h fun es' e1 h=>ob h fun es e2 h=>by
   clear k1 k2;induction vs using List.casesOn with
   |nil=>exact nE h
   |cons a vs=>induction vs using List.casesOn with
    |nil=>exact nE h
    |cons dv vs=>induction vs using List.casesOn with
     |cons _ _=>exact nE h
     |nil=>exact ob h fun k e3 h=>pE h (by rw[kZ e3];exact k3 j _ _ _ _ q (oH e1) (oH e2))
 |_=>exact nE h
theorem mR{e:PySem.Expr}{env:Env}{Q:Bool→Shared→Prop}(h:bC G A (isTrue e env (eval e env)) Q s):bC G A (jt [e] env) Q s:=by
 unfold jt
 rw[List.forIn_cons,if_pos rfl]
 exact fA (fA (ad h fun ok s q=>wpAny_pure (wpAny_pure q)))
variable (Z:Zt G n c)
include Z
theorem qL{e:PySem.Expr}{i:Nat}{j:Option Nat}{m l:List V}{b:Bool}{np:Pos}(hd:bu κ (nm i)=true)(hx:ρ i=some (.own l))(hb:fo (.tup j m) l=some b)(h1:Ex G F n (eval e F.env) ρ σ (.tup j m) σ')(R:Room n A)(S:St G F ρ ts σ s):
  bC G A (eval e F.env) (fun va s1=>bC G A (eval (.Name (nm i) np) F.env) (fun vb s2=>bC G A (compareOp .NotIn va vb) (kB G F ρ ts σ' (.bool (!b))) s2) s1) s:=
 ad (h1 A ts s R S) fun va s1 S1=>dN Z.S S1 hx (fun d z=>nomatch z) hd fun vb S2=>S2.on fun X O W=>by
  clear Z e np hd h1 S S1 S2;refine aT (W.own1 hx (fun d z=>nomatch z)) fun a z1 oa=>?_;subst z1
  refine eB ((W.inv.own a _ oa).2) fun vs k g rl=>?_
  exact y8 hb R W.pop.pop (W.tm.2.1 X (.refl X)) (aO g) rl
theorem AF(e:E)(i:Nat)(M:ME G n c e):ME G n c (.nin e i):=fun κ F x ρ σ d σ' K ok h=>ca (h) fun r σ1 e1 h=>by
 induction r using V.casesOn with
 |tup j m=>
  have h:(match V.tup j m,ρ i with
   |.tup i m,some (.own l)=>(fo (.tup i m) l).map fun b=>(V.bool (!b),σ1)
   |_,_=>none)=some (d,σ'):=h
  cases hx:ρ i with
  |none=>rw[hx]at h;exact nE h
  |some sl=>
   replace h:=hx▸h
   induction sl using Slot.casesOn with
   |own l=>
    refine pI h fun b hb h=>?_
    refine qE h ?_
    have h1:=(M _ _ _ _ _ _ _ K (ae ok).1 e1).v
    exact o3 Z ⟨fun A ts s R S=>wpAny_Compare1 (qL Z (ae ok).2 hx hb h1 R S) rfl,fun k e A ts s R S=>wpAny_isTrue_Compare1 (ad (qL Z (ae ok).2 hx hb h1 R S) fun va s1 h=>ad h fun vb s2 h=>ad h fun v s3 S3=>S3.tru fun S=>⟨by injection e,S⟩) rfl⟩ fun _ _ _=>rfl
   |_=>exact nE h
 |_=>exact nE h
theorem w3(l dd wo one:Nat):ME G n c (.stray l dd wo one):=fun κ F x ρ σ d σ' K ok h=>
 ob (show((iQ (ρ l)).bind kr).bind _=some (d,σ')from h) fun ts ea h=>ob h fun ds eb h=>ob ea fun va ha ea=>ob eb fun vb hb eb=>bv h fun q h=>pE h
  (o3 Z (Z.sp.stray K ok (gJ ea▸iI ha) (gJ eb▸iI hb) q) fun _ _ _=>rfl)
theorem AW(b:Blt)(es:Es)(M:rZ G n c es):ME G n c (.blt b es):=fun κ F x ρ σ d σ' K ok h=>ca (h) fun r σ1 e1 h=>by
 have E:=fS M K (ae ok).2 e1
 refine dX Z ?_ (fun _ _=>rfl) fun _ _ _=>rfl
 by_cases q:b=.sorted
 ·subst q
  exact fun A ts s R S=>gj K Z.S S (ae ok).1 (qW .sorted) (cq Z.S R S (nJ .sorted) (g9 es _) (jE e1) E fun vs s' S'=>Z.sp.sorted h R S')
 ·exact yT K Z.S (ae ok).1 (g9 es _) (jE e1) E q h
theorem uU(it:It)(M:zr G n c it):ME G n c (.listof it):=fun κ F x ρ σ d σ' K ok h=>by
 induction it using It.casesOn with
 |val e=>
  exact ca (h) fun r σ1 e1 h=>v7 (M:=fun r=>Ex G F n (eval (bD e (kd 1 x)) F.env) ρ σ r σ1→ExV G F n (bD (.listof (.val e)) x) ρ σ d σ') h (fun l h E=>bv h fun q h=>by
   refine pE h ?_;exact dX Z (Z.sp.listval K (ae ok).1 (bx e _) E q) (fun _ _=>rfl) fun _ _ _=>rfl) (M _ _ _ _ _ _ _ K (ae ok).2 e1).v
 |zip a b=>
  have o:=ae (ae (ae ok).2).1
  exact ca (h) fun r σ1 e1 h=>ca h fun r' σ2 e2 h=>v7 (M:=fun r=>Ex G F n (eval (bD a (kd 1 (kd 1 x))) F.env) ρ σ r σ1→ExV G F n (bD (.listof (.zip a b)) x) ρ σ d σ') h (fun l h E=>v7 (M:=fun r=>Ex G F n (eval (bD b (kd 2 (kd 1 x))) F.env) ρ σ1 r σ2→ExV G F n (bD (.listof (.zip a b)) x) ρ σ d σ') h (fun l' h E'=>bv h fun q h=>by
   refine pE h ?_;exact dX Z (Z.sp.listzip K (ae ok).1 o.1 (bx a _) (bx b _) E E' q) (fun _ _=>rfl) fun _ _ _=>rfl) (M.2 _ _ _ _ _ _ _ K (ae (ae ok).2).2 e2).v) (M.1 _ _ _ _ _ _ _ K o.2 e1).v
 |_=>exact nE h
theorem tS(it:It)(M:zr G n c it):ME G n c (.dictof it):=fun κ F x ρ σ d σ' K ok h=>by
 induction it using It.casesOn with
 |zip a b=>
  have o:=ae (ae (ae ok).2).1
  exact ca (h) fun r σ1 e1 h=>ca h fun r' σ2 e2 h=>v7 (M:=fun r=>Ex G F n (eval (bD a (kd 1 (kd 1 x))) F.env) ρ σ r σ1→ExV G F n (bD (.dictof (.zip a b)) x) ρ σ d σ') h (fun l h E=>v7 (M:=fun r=>Ex G F n (eval (bD b (kd 2 (kd 1 x))) F.env) ρ σ1 r σ2→ExV G F n (bD (.dictof (.zip a b)) x) ρ σ d σ') h (fun l' h E'=>ob h fun es ep h=>bv h fun q h=>by
   refine pE h ?_;exact dX Z (Z.sp.dictzip K (ae ok).1 o.1 (bx a _) (bx b _) E E' ep q) (fun _ _=>rfl) fun _ _ _=>rfl) (M.2 _ _ _ _ _ _ _ K (ae (ae ok).2).2 e2).v) (M.1 _ _ _ _ _ _ _ K o.2 e1).v
 |_=>exact nE h
theorem yM(o:E)(m:Nat)(as:Es)(M:ME G n c o)(Ms:rZ G n c as):ME G n c (.meth o m as):=fun κ F x ρ σ d σ' K ok h=>ca (h) fun r σ0 e1 h=>ca h fun vs σ1 e2 h=>by
 have k5:=(ae ok).2
 have k4:=(ae (ae ok).1).2
 have k2:=(ae (ae (ae (ae ok).1).1).1).2
 have k1:=(ae (ae (ae (ae ok).1).1).1).1
 refine dX Z ?_ (fun _ _=>rfl) fun _ _ _=>rfl
 refine wW (M:=fun r vs d σ'=>Ex G F n (eval (bD o (kd 0 (kd 0 x))) F.env) ρ σ r σ0→b8 af.toTab c as ρ σ0=some (vs,σ1)→Ex G F n (eval (bD (.meth o m as) x) F.env) ρ σ d σ') h ?_ ?_ ?_ (M _ _ _ _ _ _ _ K k4 e1).v e2
 ·exact fun C fs f hf hm hc E e2=>w5 Z.S Z.F Z.c k2 k1 (g9 as _) (by rw[zK];exact(of_decide_eq_true (ae (ae (ae ok).1).1).2)) E (jE e2) (fS Ms K k5 e2) hf hm hc
 ·intro u t hn E e2
  refine ot e2 fun e ea e3=>?_
  clear Z M ok e1 h k4 e2;subst ea
  show Ex G F n (eval (.Call (.Attribute _ (nm m) _) [bD e _] [] _) F.env) ρ σ _ _
  refine eR hn ?_
  exact uo k2 k1 (bx e _) E (Ms.1 _ _ _ _ _ _ _ K (ae k5).1 e3).v
 ·intro j es es' k dv hn h1 h2 E e2
  refine vS e2 fun e f σ3 ea e3 e4=>?_
  clear M ok e1 h k4 e2;subst ea
  show Ex G F n (eval (.Call (.Attribute _ (nm m) _) [bD e _,bD f _] [] _) F.env) ρ σ _ _
  refine eR hn ?_
  exact yQ Z.S k2 k1 (bx e _) (bx f _) E h1 (Ms.1 _ _ _ _ _ _ _ K (ae k5).1 e3).v (Ms.2.1 _ _ _ _ _ _ _ K (ae (ae k5).2).1 e4).v h2
theorem zo(e:E)(tg:List Nat)(it:It)(fv:List Nat)(M:ME G n c e)(Mi:zr G n c it):ME G n c (.comp e tg it fv):=fun κ F x ρ σ d σ' K ok h=>ca (h) fun l σ1 e1 h=>by
 have k2:=(ae (ae (ae ok).1).1).2
 have Sc:=qO (ae (ae (ae ok).1).1).1
 by_cases hl:bq<l.length
 ·have h:(if bq<l.length then none else _)=some (d,σ'):=h
  rw[if_pos hl]at h;exact nE h
 ·have h:(if bq<l.length then none else _)=some (d,σ'):=h
  rw[if_neg hl]at h
  refine ca h fun r σ2 e2 h=>?_
  refine pE h ?_
  refine oj Z.S K Sc ?_ (Nat.not_lt.mp hl) (pF it _) (pd Z Mi K ((ae (ae ok).1).2) k2 e1) e2
  refine fun C X _ O _ _ _ y σ r σ' h=>ob h fun ρ1 e3 h=>ca h fun d σ3 e4 h=>?_
  refine pE h ?_
  exact⟨ρ1,e3,fun A ts s R S=>wpAny_pure (by refine eR (if_pos rfl) ?_;exact gc d σ rfl S ((M _ (cF F _ Sc.fn C X O) _ _ _ _ _ (oK Sc K) (ae ok).2 e4).v))⟩
theorem tv(e:E)(tg:List Nat)(it:It)(cd:E)(fv:List Nat)(M:ME G n c e)(Mi:zr G n c it)(Mc:ME G n c cd):ME G n c (.compif e tg it cd fv):=fun κ F x ρ σ d σ' K ok h=>ca (h) fun l σ1 e1 h=>by
 have k4:=(ae (ae ok).1).2
 have k2:=(ae (ae (ae (ae ok).1).1).1).2
 have Sc:=qO (ae (ae (ae (ae ok).1).1).1).1
 by_cases hl:bq<l.length
 ·have h:(if bq<l.length then none else _)=some (d,σ'):=h
  rw[if_pos hl]at h;exact nE h
 ·have h:(if bq<l.length then none else _)=some (d,σ'):=h
  rw[if_neg hl]at h
  refine ca h fun r σ2 e2 h=>?_
  refine pE h ?_
  refine oj Z.S K Sc ?_ (Nat.not_lt.mp hl) (pF it _) (pd Z Mi K ((ae (ae (ae ok).1).1).2) k2 e1) e2
  refine fun C X _ O _ _ _ y σ r σ' h=>ob h fun ρ1 e3 h=>ca h fun t σ3 e4 h=>?_
  have KK:=oK (C:=C) Sc K
  refine⟨ρ1,e3,fun A ts s R S=>mR (ob h fun b eb h=>ad (((Mc _ (cF F _ Sc.fn C X O) _ _ _ _ _ KK (ae ok).2 e4).t) b (jQ eb) A ts s R S) fun ok s' w9=>cB w9 fun eo S'=>?_)⟩
  clear Z Mi Mc K e1 k2 hl e2 e3 e4 A s R S eb w9;subst eo
  induction ok using Bool.casesOn with
  |true=>
   refine ca h fun d σ4 e5 h=>?_
   ·refine pE h ?_
    refine eR (if_pos rfl) ?_
    exact gc d σ3 rfl S' ((M _ (cF F _ Sc.fn C X O) _ _ _ _ _ KK k4 e5).v)
  |false=>
   refine pE h ?_
   refine eR (if_neg Bool.false_ne_true) ?_
   exact⟨rfl,S'⟩
theorem dB(e:E):ME G n c e:=by
 refine E.rec (motive_1:=ME G n c) (motive_2:=rZ G n c) (motive_3:=zr G n c) ?_ ?_ ?_ ?_ ?_ ?_ ?_ ?_ ?_ ?_ ?_ ?_ ?_ ?_ ?_ ?_ ?_ ?_ ?_ ?_ ?_ ?_ ?_ ?_ ?_ ?_ ?_ ?_ ?_ ?_ ?_ ?_ ?_ ?_ ?_ ?_ ?_ e
 ·exact yx Z
 ·exact yS Z
 ·exact A8 Z
 ·exact AR Z
 ·exact zS Z
 ·exact zG Z
 ·exact yH Z
 ·exact zz Z
 ·exact wI Z
 ·exact As Z
 ·exact An Z
 ·exact Ax Z
 ·exact AM Z
 ·exact AF Z
 ·exact w3 Z
 ·exact Af Z
 ·exact Ah Z
 ·exact Bb Z
 ·exact Aq Z
 ·exact yD Z
 ·exact A7 Z
 ·exact AW Z
 ·exact uU Z
 ·exact tS Z
 ·exact yM Z
 ·exact zp Z
 ·exact wC Z
 ·exact AZ Z
 ·exact zJ Z
 ·exact zo Z
 ·exact tv Z
 ·trivial
 ·exact fun _ _ a b=>⟨a,b⟩
 ·exact fun _ a=>a
 ·exact fun _ a=>a
 ·exact fun _ a=>a
 ·exact fun _ _ a b=>⟨a,b⟩
theorem AD(it:It):zr G n c it:=by
 induction it using It.casesOn with
 |zip a b=>exact⟨dB Z a,dB Z b⟩
 |_ e=>exact dB Z e
end
end Mine
namespace Mine
open PySem PySem.W PyProof.Rows
structure KNew(G:Cfg):Prop where
 make:∀C i,af.inits C=some i→makesIn G.K C=true
 init1:∀C f,af.inits C=some (some f)→findIn G.K (.ref C) "__init__"=some (some (.ref f))
 init2:∀C f,af.inits C=some (some f)→typeIn G.K (.ref f)=some (.type "function")
 noinit:∀C,af.inits C=some none→findIn G.K (.ref C) "__init__"=some (some (.builtin "object.__init__"))
 n1:specialIn G.K (.ref 43) "__getattribute__"=some (some (.builtin "type.__getattribute__"))
 n2:readsIn G.K 43 (.type "type")=true
 n3:findCls G.K (.ref 43) (.type "type") "__init__"=some (.val (.ref 33))
 n4:keepIn G.K (.ref 33)=true
 nodeFn:∃sc p1 p2 p3 p4,FnOk G 33 [0,1] [] sc [.Assign [.Attribute (.Name (nm 0) p1) (nm 1) p2] (.Name (nm 1) p3) p4]
 d0:(nm 0==("__debug__":Str))=false
 d1:(nm 1==("__debug__":Str))=false
 pl:nm 1=("place":Str)
structure Ev(κ:bf)(F:Frm):Prop where
 k:FOk κ F.env
 s:∀x,bu κ (nm x)=true→b6 F x
section
variable {G:Cfg}{n:Nat}{c:Calls}{F:Frm}{κ:bf}{ρ ρ':ay}{σ σ' σ1 σ2:Store}{d:V}{A:Around}{s:Shared}{ts:List Tmp}{wf:Nat}{fl:Fl}{q:Fl × ay × Store}
theorem po{ov k d:V}(h:ip σ ov k d=some σ'){C:Prop}(z:∀j,ov=.loc j→C):C:=by
 induction ov using V.casesOn with
 |loc j=>exact z j rfl
 |_=>exact nE h
theorem p8{o i e:E}(h:bA af.toTab c wf (.setItem o i e) ρ σ=some q){C:Prop}
  (k1:∀x es d σ1 k σ2,o=.var x→ρ x=some (.ownd es)→ak af.toTab c e ρ σ=some (d,σ1)→ak af.toTab c i ρ σ1=some (.str k,σ2)→es.length≤bq→q=(.next,ρ.set x (.ownd (bn es k d)),σ2)→C)
  (k2:∀x es d σ1 k σ2,o=.var x→ρ x=some (.ownk es)→ak af.toTab c e ρ σ=some (d,σ1)→ak af.toTab c i ρ σ1=some (.int k,σ2)→es.length≤bq→q=(.next,ρ.set x (.ownk (wR es k d)),σ2)→C)
  (k3:∀d σ1 j σ2 k σ3 σ4,ak af.toTab c e ρ σ=some (d,σ1)→ak af.toTab c o ρ σ1=some (.loc j,σ2)→ak af.toTab c i ρ σ2=some (k,σ3)→ip σ3 (.loc j) k d=some σ4→q=(.next,ρ,σ4)→C):C:=by
 refine ca (h) fun d σ1 e1 h=>?_
 have gen:((ak af.toTab c o ρ σ1).bind fun(ov,σ)=>(ak af.toTab c i ρ σ).bind fun(k,σ)=>(ip σ ov k d).map fun σ=>(Fl.next,ρ,σ))=some q→C:=fun h=>ca h fun ov σ2 e2 h=>ca h fun k σ3 e3 h=>pI h fun σ4 e4 hq=>po e4 fun j ej=>by
  clear k1 k2 h;subst ej;exact k3 d σ1 j σ2 k σ3 σ4 e1 e2 e3 e4 hq.symm
 have z:=jJ ρ o
 dsimp only at h
 generalize eJ ρ o=w at h z
 induction w using OwnV.casesOn with
 |d x es=>exact ca h fun k σ2 e2 h=>ob h fun s e3 h=>bv h fun hl h=>k1 x es d σ1 s σ2 z.1 z.2 e1 (kZ e3▸e2) hl (Option.some.inj h).symm
 |k x es=>exact ca h fun k σ2 e2 h=>ob h fun s e3 h=>bv h fun hl h=>k2 x es d σ1 s σ2 z.1 z.2 e1 (nr e3▸e2) hl (Option.some.inj h).symm
 |_=>exact gen h
theorem sF{o e:E}(h:bA af.toTab c wf (.append o e) ρ σ=some q){C:Prop}
  (k1:∀x l d σ1,o=.var x→ρ x=some (.own l)→ak af.toTab c e ρ σ=some (d,σ1)→l.length≤bq→q=(.next,ρ.set x (.own (l++[d])),σ1)→C)
  (k2:∀j σ1 d σ2 l0 l,ak af.toTab c o ρ σ=some (.loc j,σ1)→ak af.toTab c e ρ σ1=some (d,σ2)→σ1.cells[j]? =some (.list l0)→σ2.cells[j]? =some (.list l)→l.length≤bq→q=(.next,ρ,σ2.put j (.list (l++[d])))→C):C:=by
 have gen:((ak af.toTab c o ρ σ).bind fun(ov,σ0)=>(ak af.toTab c e ρ σ0).bind fun(d,σ)=>(g7 σ0 σ ov d).map fun σ=>(Fl.next,ρ,σ))=some q→C:=fun h=>ca h fun ov σ1 e1 h=>ca h fun d σ2 e2 h=>pI h fun σ3 e3 hq=>ob e3 fun n e4 e3=>ob e3 fun l0 c1 e3=>ob e3 fun l c2 e3=>bv e3 fun hl e3=>
  k2 n σ1 d σ2 l0 l (kO e4▸e1) e2 (m8 c1) (m8 c2) hl (by rw[←hq,←Option.some.inj e3])
 have z:=jJ ρ o
 replace h:(match eJ ρ o with
  |.l x l=>(ak af.toTab c e ρ σ).bind fun(d,σ)=>if l.length≤bq then some (Fl.next,ρ.set x (.own (l++[d])),σ)else Option.none
  |_=>(ak af.toTab c o ρ σ).bind fun(ov,σ0)=>(ak af.toTab c e ρ σ0).bind fun(d,σ)=>(g7 σ0 σ ov d).map fun σ=>(Fl.next,ρ,σ))=some q:=h
 generalize eJ ρ o=w at h z
 induction w using OwnV.casesOn with
 |l x l=>exact ca h fun d σ1 e1 h=>bv h fun hl h=>k1 x l d σ1 z.1 z.2 e1 hl (Option.some.inj h).symm
 |_=>exact gen h
theorem rh{x:Nat}{f:Nat→List (Nat × V)→Option (Fl × ay × Store)}(h:(match ρ x with
  |some (.owni C fs)=>f C fs
  |_=>none)=some q){Z:Prop}(k:∀C fs,ρ x=some (.owni C fs)→f C fs=some q→Z):Z:=by
 cases e:ρ x with
 |none=>replace h:=e▸h;exact nE h
 |some sl=>replace h:=e▸h;induction sl using Slot.casesOn with
  |owni C fs=>exact k C fs e h
  |_=>exact nE h
noncomputable def q9:S→Bool
 |.setAttr _ _ _=>true|.setAttrD _ _=>true|.setItem _ _ _=>true|.append _ _=>true|.extend _ _=>true|.nodeInit _ _ _=>true|.expr _=>true|.g _ s=>q9 s|_=>false
noncomputable def gt:Ss→Bool
 |.nil=>true
 |.cons s r=>q9 s&&gt r
noncomputable def ia(G:Cfg)(n:Nat):Prop:=∀{F:Frm}{κ:bf}{ρ:ay}{σ σ':Store}{x C:Nat}{e:PySem.Expr}{cp np ap kp p:Pos}{d:V},FOk κ F.env→aX κ ("Node":Str)=true→bu κ (nm x)=true→(ap.endLine==kp.line)=true→OkX e→Ex G F n (eval e F.env) ρ σ d σ'→ρ x=some (.owni C [])→af.fld C 1=true→
 kI G F n (exec (.Expr (.Call (.Attribute (.Name ("Node":Str) cp) ("__init__":Str) ap) [.Name (nm x) np,e] [] kp) p) F.env) ρ σ (ρ.set x (.owni C [(1,d)])) σ'
noncomputable def MM(G:Cfg)(n:Nat)(c:Calls)(wf:Nat)(s:S):Prop:=q9 s=true→∀(κ:bf)(F:Frm)(st:PySem.Stmt)(ρ:ay)(σ:Store)(fl:Fl)(ρ':ay)(σ':Store),FOk κ F.env→Bu κ s st=true→bA af.toTab c wf s ρ σ=some (fl,ρ',σ')→fl=.next∧kI G F n (exec (Bn s st) F.env) ρ σ ρ' σ'
variable (Z:Zt G n c)(Ks:KSet G)
include Z Ks
theorem ss(x a:Nat)(e:E):MM G n c wf (.setAttr x a e):=fun _ κ F st ρ σ fl ρ' σ' K ok h=>ca (h) fun d σ1 e1 h=>rh h fun C fs hx h=>bv h fun q h=>by
 refine tE h ?_
 exact⟨rfl,iR Z.S Ks (ae ok).1 (dB Z e _ _ _ _ _ _ _ K (ae ok).2 e1).v hx (Option.isNone_iff_eq_none.mp q.1) q.2.1 q.2.2⟩
theorem qc(x a:Nat):MM G n c wf (.setAttrD x a):=fun _ κ F st ρ σ fl ρ' σ' K ok h=>rh (ρ:=ρ) (x:=x) (f:=fun C fs=>if(fs.lookup a).isNone∧fs.length≤100∧af.fld C a then some (.next,ρ.set x (.owni C (fs++[(a,V.loc σ.cells.length)])),σ.push (.dict []))else none) h fun C fs hx h=>bv h fun q h=>by
 refine tE h ?_
 exact⟨rfl,iR Z.S Ks ok tH hx (Option.isNone_iff_eq_none.mp q.1) q.2.1 q.2.2⟩
theorem sH(o i e:E):MM G n c wf (.setItem o i e):=fun _ κ F st ρ σ fl ρ' σ' K ok h=>by
 have ke:=(ae ok).2
 have ki:=(ae (ae ok).1).2
 have ko:=(ae (ae ok).1).1
 refine p8 h ?_ ?_ ?_
 ·intro x es d σ1 k σ2 eo hx e1 e2 hl hq
  subst eo
  cases hq
  exact⟨rfl,mH Z.S ko (dB Z e _ _ _ _ _ _ _ K ke e1).v hx (dB Z i _ _ _ _ _ _ _ K ki e2).v hl⟩
 ·intro x es d σ1 k σ2 eo hx e1 e2 hl hq
  subst eo
  cases hq
  exact⟨rfl,mG Z.S ko (dB Z e _ _ _ _ _ _ _ K ke e1).v hx (dB Z i _ _ _ _ _ _ _ K ki e2).v hl⟩
 ·intro d σ1 j σ2 k σ3 σ4 e1 e2 e3 e4 hq
  clear ok h;cases hq
  exact⟨rfl,oW Z.S (dB Z e _ _ _ _ _ _ _ K ke e1).v (dB Z o _ _ _ _ _ _ _ K ko e2).v (dB Z i _ _ _ _ _ _ _ K ki e3).v e4⟩
theorem u6(o e:E):MM G n c wf (.append o e):=fun _ κ F st ρ σ fl ρ' σ' K ok h=>by
 have ke:=(ae ok).2
 have ko:=(ae (ae ok).1).2
 have kl:=(ae (ae (ae ok).1).1).1
 refine sF h ?_ ?_
 ·intro x l d σ1 eo hx e1 hl hq
  clear ok h;subst eo
  cases hq
  exact⟨rfl,jq Z.S kl (bx e _) ko hx (dB Z e _ _ _ _ _ _ _ K ke e1).v hl⟩
 ·intro j σ1 d σ2 l0 l e1 e2 c1 c2 hl hq
  clear h;cases hq
  exact⟨rfl,jG Z.S ((ae (ae (ae ok).1).1).2) kl (bx e _) (dB Z o _ _ _ _ _ _ _ K ko e1).v c1 (dB Z e _ _ _ _ _ _ _ K ke e2).v c2 hl⟩
theorem s9(o e:E):MM G n c wf (.extend o e):=fun _ κ F st ρ σ fl ρ' σ' K ok h=>by
 have ke:=(ae ok).2
 have kl:=(ae (ae (ae ok).1).1).1
 have z:=jJ ρ o
 replace h:(match eJ ρ o with
  |.l x l=>(ak af.toTab c e ρ σ).bind fun(d,σ)=>(kr d).bind fun m=>if l.length+m.length≤bq then some (Fl.next,ρ.set x (.own (l++m)),σ)else Option.none
  |_=>Option.none)=some (fl,ρ',σ'):=h
 generalize eJ ρ o=w at h z
 induction w using OwnV.casesOn with
 |l x l=>
  obtain⟨eo,hx⟩:=z
  subst eo
  refine ca h fun d σ1 e1 h=>ob h fun m em h=>bv h fun hl h=>tE h ?_
  exact⟨rfl,jH Z.S kl (bx e _) ((ae (ae ok).1).2) hx (dB Z e _ _ _ _ _ _ _ K ke (gJ em▸e1)).v hl⟩
 |_=>exact nE h
theorem yP(e:E):MM G n c wf (.expr e):=fun _ κ F st ρ σ fl ρ' σ' K ok h=>ca (h) fun d σ1 e1 h=>by
 induction d using V.casesOn with
 |none=>
  refine tE h ?_
  refine⟨rfl,vf ((dB Z e _ _ _ _ _ _ _ K (ae ok).2 e1).v) ?_⟩
  have:=(ae ok).1
  clear Z κ K ok σ1 e1 h;induction e using E.casesOn<;>first|exact(rfl:(Pure.pure false:Sem Bool)=Pure.pure false)|exact bE this
 |_=>exact nE h
theorem C7(g:Ghost)(t:S)(M:MM G n c wf t):MM G n c wf (.g g t):=fun hb κ F st ρ σ fl ρ' σ' K ok h=>ca (h) fun ρ1 σ1 e1 h=>
 cB (M hb κ F st ρ1 σ1 fl ρ' σ' K ok h) fun a b=>
 ⟨a,sj Z.S e1 b⟩
theorem zj(No:ia G n)(hp:∀a,nm a=("place":Str)→a=1)(x a:Nat)(e:E):MM G n c wf (.nodeInit x a e):=fun _ κ F st ρ σ fl ρ' σ' K ok h=>ca (h) fun d σ1 e1 h=>by
 have ke:=(ae ok).2
 have ka:=hp a (beq_iff_eq.mp (ae (ae ok).1).2)
 have kx:=(ae (ae (ae ok).1).1).2
 have kl:=(ae (ae (ae (ae ok).1).1).1).2
 have kg:=(ae (ae (ae (ae ok).1).1).1).1
 have h:(match ρ x with
  |some (.owni C [])=>if af.fld C a then some (Fl.next,ρ.set x (.owni C [(a,d)]),σ1)else none
  |_=>none)=some (fl,ρ',σ'):=h
 cases hx:ρ x with
 |none=>rw[hx]at h;exact nE h
 |some sl=>
  replace h:=hx▸h
  induction sl using Slot.casesOn with
  |owni C fs=>
   induction fs using List.casesOn with
   |nil=>
    refine bv (h) fun q h=>?_
    refine tE h ?_
    clear hp ok h;subst ka
    exact⟨rfl,No K kg kx kl (bx e _) (dB Z e _ _ _ _ _ _ _ K ke e1).v hx q⟩
   |cons _ _=>exact nE h
  |_=>exact nE h
end
end Mine
namespace Mine
open PySem PySem.W PyProof.Rows
section
variable {G:Cfg}{n:Nat}{c:Calls}{F:Frm}{κ:bf}{ρ ρ':ay}{σ σ' σ1 σ2:Store}{d:V}{A:Around}{s:Shared}{ts:List Tmp}{wf:Nat}{fl:Fl}{q:Fl × ay × Store}
noncomputable def MS(G:Cfg)(n:Nat)(c:Calls)(wf:Nat)(s:S):Prop:=∀(κ:bf)(F:Frm)(st:PySem.Stmt)(ρ:ay)(σ:Store)(fl:Fl)(ρ':ay)(σ':Store),Ev κ F→Bu κ s st=true→bA af.toTab c wf s ρ σ=some (fl,ρ',σ')→iy G F n (exec (Bn s st) F.env) ρ σ fl ρ' σ'
noncomputable def x8(G:Cfg)(n:Nat)(c:Calls)(wf:Nat)(b:Ss):Prop:=∀(κ:bf)(F:Frm)(l:List PySem.Stmt)(ρ:ay)(σ:Store)(fl:Fl)(ρ':ay)(σ':Store),Ev κ F→io κ b l=true→au af.toTab c wf b ρ σ=some (fl,ρ',σ')→iy G F n (execs (iu b l) F.env) ρ σ fl ρ' σ'
theorem MM.ms{t:S}(M:MM G n c wf t)(hb:q9 t=true):MS G n c wf t:=fun κ F st ρ σ fl ρ' σ' K ok h=>by
 refine cB (M hb κ F st ρ σ fl ρ' σ' K.k ok h) fun a b=>?_
 clear M hb κ K ok h;subst a;exact b.toS
variable (Z:Zt G n c)
include Z
theorem tQ(x:Nat)(e:E):MS G n c wf (.assign x e):=fun κ F st ρ σ fl ρ' σ' K ok h=>ca (h) fun d σ1 e1 h=>by
 refine tE h ?_;exact(dB Z e _ _ _ _ _ _ _ K.k (ae ok).2 e1).asg x _ _ (K.s x (ae ok).1)
theorem AH(x:Nat):MS G n c wf (.assignOwn x):=fun κ F st ρ σ fl ρ' σ' K ok h=>by refine tE h ?_;exact wX Z.S (K.s x ok)
theorem ze(x:Nat):MS G n c wf (.assignOwnd x):=fun κ F st ρ σ fl ρ' σ' K ok h=>by refine tE h ?_;exact tR Z.S (K.s x ok)
theorem yK(x:Nat):MS G n c wf (.assignOwnk x):=fun κ F st ρ σ fl ρ' σ' K ok h=>by refine tE h ?_;exact uM Z.S (K.s x ok)
theorem rT(x y:Nat)(a b:E):MS G n c wf (.assign2 x y a b):=fun κ F st ρ σ fl ρ' σ' K ok h=>ca (h) fun d1 σ1 e1 h=>ca h fun d2 σ2 e2 h=>by
 refine tE h ?_
 refine cB (ae ok) fun ok k6=>?_
 obtain⟨ok,k5⟩:=ae ok
 refine cB (ae ok) fun ok k4=>?_
 refine cB (ae ok) fun ok k3=>?_
 refine cB (ae ok) fun k1 k2=>?_
 exact oX Z.S (bne_iff_ne.mp k1) (K.s x k2) (K.s y k3) (bx a _) (bx b _) (by rwa [Bool.not_eq_true']at k4) (dB Z a _ _ _ _ _ _ _ K.k k5 e1).v (dB Z b _ _ _ _ _ _ _ K.k k6 e2).v
theorem sL(x y:Nat)(e:E):MS G n c wf (.unpack2 x y e):=fun κ F st ρ σ fl ρ' σ' K ok h=>ca (h) fun d1 σ1 e1 h=>by
 refine cB (ae ok) fun ok k5=>?_
 refine cB (ae ok) fun ok k4=>?_
 refine cB (ae ok) fun ok k3=>?_
 refine cB (ae ok) fun k1 k2=>?_
 induction d1 using V.casesOn with
 |tup i l=>induction l using List.casesOn with
  |nil=>exact nE h
  |cons a l=>induction l using List.casesOn with
   |nil=>exact nE h
   |cons b l=>induction l using List.casesOn with
    |nil=>
     refine tE h ?_
     refine jF Z.S (K.s x k2) (K.s y k3) ((dB Z e _ _ _ _ _ _ _ K.k k5 e1).v) ?_
     clear Z K σ1 k5 ok k3 k1 k2 i a b e1 h;induction e using E.casesOn<;>first|exact(rfl:(Pure.pure Option.none:Sem (Option (List Str)))=Pure.pure Option.none)|exact bE k4
    |cons _ _=>exact nE h
 |_=>exact nE h
theorem AI(x:Nat)(op:Operator)(e:E):MS G n c wf (.aug x op e):=fun κ F st ρ σ fl ρ' σ' K ok h=>by
 induction op using Operator.casesOn with
 |Add=>
  have h:(match Operator.Add,ρ x with
   |.Add,some (.v (.int i))=>(ak af.toTab c e ρ σ).bind fun(b,σ)=>match b with
    |.int j=>some (Fl.next,ρ.set x (.v (.int (i+j))),σ)
    |_=>none
   |_,_=>none)=some (fl,ρ',σ'):=h
  cases hx:ρ x with
  |none=>rw[hx]at h;exact nE h
  |some sl=>
   replace h:=hx▸h
   induction sl using Slot.casesOn with
   |v d=>induction d using V.casesOn with
    |int i=>
     refine ca h fun b σ1 e1 h=>?_
     induction b using V.casesOn with
     |int j=>refine tE h ?_;exact wE Z.S (K.s x (ae ok).1) hx ((dB Z e _ _ _ _ _ _ _ K.k (ae ok).2 e1).v)
     |_=>exact nE h
    |_=>exact nE h
   |_=>exact nE h
 |_=>exact nE h
theorem AJ(t:E)(b o:Ss)(M:x8 G n c wf b)(M':x8 G n c wf o):MS G n c wf (.ite t b o):=fun κ F st ρ σ fl ρ' σ' K ok h=>ca (h) fun d σ1 e1 h=>ob h fun cc ec h=>
 y7 ((dB Z t _ _ _ _ _ _ _ K.k (ae (ae ok).1).1 e1).t cc (jQ ec)) (by
  clear Z e1 ec;induction cc using Bool.casesOn with
  |true=>exact M _ _ _ _ _ _ _ _ K (ae (ae ok).1).2 h
  |false=>exact M' _ _ _ _ _ _ _ _ K (ae ok).2 h)
theorem wm(t:E)(b:Ss)(M:x8 G n c wf b):MS G n c wf (.while t b):=fun κ F st ρ σ fl ρ' σ' K ok h=>
 sP (fun ρ σ d σ' h=>(dB Z t _ _ _ _ _ _ _ K.k (ae ok).1 h).t d rfl) (fun ρ σ fl ρ' σ' h=>M _ _ _ _ _ _ _ _ K (ae ok).2 h) h
theorem A4(tg:List Nat)(it:It)(b:Ss)(M:x8 G n c wf b):MS G n c wf (.for tg it b):=fun κ F st ρ σ fl ρ' σ' K ok h=>ca (h) fun l σ1 e1 h=>by
 have k4:=(ae ok).2
 have k3:=(ae (ae ok).1).2
 have k2:=(ae (ae (ae ok).1).1).2
 exact yA Z.S.nm (pF it _) (fun x m=>K.s x (List.all_eq_true.mp ((ae (ae (ae ok).1).1).1) x m)) (pd Z (AD Z it) K.k k3 k2 e1) (fun d ρ σ fl ρ' σ' h=>ob h fun ρ1 e2 h=>bi ρ1 e2 (M _ _ _ _ _ _ _ _ K k4 h)) h
theorem Ai(e:E):MS G n c wf (.ret e):=fun κ F st ρ σ fl ρ' σ' K ok h=>ca (h) fun d σ1 e1 h=>by
 refine tE h ?_;exact xf (dB Z e _ _ _ _ _ _ _ K.k ok e1).v
theorem C5(g:Ghost)(t:S)(M:MS G n c wf t):MS G n c wf (.g g t):=fun κ F st ρ σ fl ρ' σ' K ok h=>ca (h) fun ρ1 σ1 e1 h=>rQ Z.S e1 (M _ _ _ _ _ _ _ _ K ok h)
theorem zn(t:S)(r:Ss)(M:MS G n c wf t)(M':x8 G n c wf r):x8 G n c wf (.cons t r):=fun κ F l ρ σ fl ρ' σ' K ok h=>ob (h) fun u e1 h=>by
 obtain⟨fl1,ρ1,σ1⟩:=u
 have X:=M _ _ _ _ _ _ _ _ K (ae ok).1 e1
 clear M e1;induction fl1 using Fl.casesOn with
 |next=>exact tD X (M' _ _ _ _ _ _ _ _ K (ae ok).2 h)
 |ret d=>refine tE h ?_;exact tN X
theorem zI(t:S)(r:Ss)(M:MM G n c wf t)(M':gt r=true→∀(κ:bf)(F:Frm)(l:List PySem.Stmt)(ρ:ay)(σ:Store)(fl:Fl)(ρ':ay)(σ':Store),FOk κ F.env→io κ r l=true→au af.toTab c wf r ρ σ=some (fl,ρ',σ')→fl=.next∧kI G F n (execs (iu r l) F.env) ρ σ ρ' σ'):
  gt (.cons t r)=true→∀(κ:bf)(F:Frm)(l:List PySem.Stmt)(ρ:ay)(σ:Store)(fl:Fl)(ρ':ay)(σ':Store),FOk κ F.env→io κ (.cons t r) l=true→au af.toTab c wf (.cons t r) ρ σ=some (fl,ρ',σ')→fl=.next∧kI G F n (execs (iu (.cons t r) l) F.env) ρ σ ρ' σ':=
 fun hb κ F l ρ σ fl ρ' σ' K ok h=>ob (h) fun u e1 h=>by
 obtain⟨fl1,ρ1,σ1⟩:=u
 refine cB (M (ae hb).1 _ _ _ _ _ _ _ _ K (ae ok).1 e1) fun a b=>?_
 clear M e1;subst a
 obtain⟨a',b'⟩:=M' (ae hb).2 _ _ _ _ _ _ _ _ K (ae ok).2 h
 exact⟨a',td b b'⟩
variable (Ks:KSet G)(No:ia G n)(hp:∀a,nm a=("place":Str)→a=1)
include Ks No hp
theorem fG(t:S):MM G n c wf t:=by
 induction t using S.rec (motive_2:=fun _=>True)with
 |setAttr x a e=>exact ss Z Ks x a e
 |setAttrD x a=>exact qc Z Ks x a
 |setItem o i e=>exact sH Z Ks o i e
 |append o e=>exact u6 Z Ks o e
 |extend o e=>exact s9 Z Ks o e
 |nodeInit x a e=>exact zj Z Ks No hp x a e
 |expr e=>exact yP Z Ks e
 |g g t ih=>exact C7 Z Ks g t ih
 |nil=>trivial
 |cons _ _ _ _=>trivial
 |_=>exact fun hb=>nomatch hb
theorem Ay(b:Ss):gt b=true→∀(κ:bf)(F:Frm)(l:List PySem.Stmt)(ρ:ay)(σ:Store)(fl:Fl)(ρ':ay)(σ':Store),FOk κ F.env→io κ b l=true→au af.toTab c wf b ρ σ=some (fl,ρ',σ')→fl=.next∧kI G F n (execs (iu b l) F.env) ρ σ ρ' σ':=by
 induction b using Ss.rec (motive_1:=fun _=>True)with
 |nil=>intro _ κ F l ρ σ fl ρ' σ' K ok h;refine tE h ?_;exact⟨rfl,wn⟩
 |cons t r _ ih=>exact zI Z t r (fG Z Ks No hp t) ih
 |_=>trivial
theorem yb(b:Ss):x8 G n c wf b:=by
 refine Ss.rec (motive_1:=MS G n c wf) (motive_2:=x8 G n c wf) ?_ ?_ ?_ ?_ ?_ ?_ ?_ ?_ ?_ ?_ ?_ ?_ ?_ ?_ ?_ ?_ ?_ ?_ ?_ ?_ ?_ b
 ·exact tQ Z
 ·exact AH Z
 ·exact ze Z
 ·exact yK Z
 ·exact rT Z
 ·exact sL Z
 ·exact fun x a e=>(fG Z Ks No hp _).ms rfl
 ·exact fun x a=>(fG Z Ks No hp _).ms rfl
 ·exact fun o i e=>(fG Z Ks No hp _).ms rfl
 ·exact AI Z
 ·exact AJ Z
 ·exact wm Z
 ·exact A4 Z
 ·exact Ai Z
 ·exact fun o e=>(fG Z Ks No hp _).ms rfl
 ·exact fun o e=>(fG Z Ks No hp _).ms rfl
 ·exact fun x a e=>(fG Z Ks No hp _).ms rfl
 ·exact fun e=>(fG Z Ks No hp _).ms rfl
 ·exact C5 Z
 ·exact fun κ F l ρ σ fl ρ' σ' K ok h=>by refine tE h ?_;exact wT
 ·exact zn Z
end
end Mine
namespace Mine
open PySem PySem.W PyProof.Rows
structure FnAll(G:Cfg):Prop where
 fn:∀f fi,af.fns f=some fi→∃cs sc l,FnOk G f fi.params cs sc (iu fi.body l)∧io sc.names fi.body l=true
 init:∀C f,af.inits C=some (some f)→∃fi x ps sc l,af.fns f=some fi∧fi.params=x::ps∧FnOk G f (x::ps) [] sc (iu fi.body l)∧io sc.names fi.body l=true∧gt fi.body=true
section
variable {G:Cfg}{n:Nat}{c:Calls}{F:Frm}{κ:bf}{ρ ρ':ay}{σ σ' σ1 σ2:Store}{d:V}{A:Around}{s:Shared}{ts:List Tmp}{wf:Nat}{X:VW}{O:OM}
theorem Room.sub{A:Around}(R:Room (n+1) A)(env:Env):Room n (A.deeper env):=⟨R.h,by have:=R.d;rw[depth_deeper];exact bw 1 9130201002775998631349038930288617799481819137 rfl this,by have:=R.u;rw[units_deeper];exact bw 1 153259003881926814266964135065368188797905146466009089 rfl this⟩
theorem yh(hn:∀i j,nm i=nm j→i=j){f:Nat}{xs cs:List Nat}{sc:Scope}{body:List PySem.Stmt}(Fo:FnOk G f xs cs sc body)(hs:F.env.scope=sc)(hc:F.cs=cs)(K:FOk sc.names F.env):Ev sc.names F:=by
 refine⟨K,fun x h=>?_⟩
 have h:=(ae h).2
 cases e:sc.names.lookup (nm x)with
 |none=>rw[e]at h;exact bE h
 |some k=>
  rw[e]at h
  induction k using NameKind.casesOn with
  |«local»=>exact .inl (K.l _ e)
  |cell=>refine aT (Fo.cells _ e) fun i hi q=>?_;exact .inr (by refine eR hc ?_;refine eR (hn _ _ q) ?_;exact hi)
  |free=>exact absurd e (Fo.nofree _)
  |_=>exact bE h
theorem gy{xs:List Nat}{ds:List V}{us:List Value}(r:RpL G X us ds){x:Nat}{sl:Slot}(e:aq xs ds x=some sl):∃v,(x,v)∈xs.zip us∧∀Y O',X.Le Y→Sl G Y O' x v sl:=by
 induction xs generalizing ds us with
 |nil=>exact nomatch ds<;>exact nE e
 |cons y xs ih=>induction ds using List.casesOn with
  |nil=>exact nE e
  |cons d ds=>
   refine r.con (M:=fun us=>∃v,(x,v)∈(y::xs).zip us∧∀Y O',X.Le Y→Sl G Y O' x v sl) fun u us r1 r2=>?_
   have e:(if x=y then some (.v d)else aq xs ds x)=some sl:=e
   by_cases q:x=y
   ·rw[if_pos q]at e;refine oE e ?_;exact⟨u,by refine eR q ?_;exact List.mem_cons_self,fun Y O' le=>r1.up le⟩
   ·rw[if_neg q]at e
    refine aT (ih r2 e) fun v h1 h2=>?_
    exact bi v (List.mem_cons_of_mem _ h1) h2
theorem qP:NewT G X O s fun _=>none:=⟨fun _ _ e=>(nomatch e),fun _ _ e=>(nomatch e),fun _ _ _ _ e=>(nomatch e)⟩
variable (Z:Zt G n c)
include Z
variable (Ks:KSet G)(No:ia G n)(hp:∀a,nm a=("place":Str)→a=1)(Fa:FnAll G)
include Ks No hp Fa
theorem AQ{f:Nat}{vs:List V}(h:qo af c wf f vs σ=some (d,σ')):(∃fi,af.fns f=some fi)∧iC G (n+1) (.ref f) vs σ d σ':=by
 refine ob (h) fun fi e h=>bv h fun hl h=>ob h fun u eb h=>?_
 obtain⟨fl,ρ',σ1⟩:=u
 refine kT (Fa.fn f fi e) fun cs sc l Fo ok=>?_
 refine⟨⟨fi,e⟩,fun F ρ A ts s us R S=>S.onel fun X O W r=>?_⟩
 have hd:A.depth<recursionLimit:=by have:=R.d;exact bw 1 27366387894078877993299286966273 rfl this
 refine wpAny_call (gq (ρ':=aq fi.params vs) Z.S Fo hd W.inv qP ⟨r.n.trans hl.symm,fun x sl e=>aT (gy r e) fun v a b=>(bi v a (fun Y O' le _=>b Y O' le))⟩ fun F' s1 X1 O' e1 e2 K e3 e4 W1 W2 _=>?_)
 refine ad (yb Z Ks No hp fi.body _ F' l _ _ _ _ _ (yh Z.S.nm Fo e1 e2 K) ok eb (A.deeper F'.env) [] s1 (R.sub _) rfl (rA X1 O' W2)) fun fw s2 S2=>S2.on fun X2 O2 W3=>?_
 have fk:=W3.tm.1 X2 (.refl X2)
 have S4:St G F ρ (.up (fun X=>pC G X fw fl)::ts) σ1 s2:=rA _ _ ((W1 W).leave (tk:=s2.toks) (h':=s2.heap) e3 e4 W3 [] W3.inv.tk (fun _ _ _ e=>e) fun _ m=>nomatch m)
 clear Z Ks No hp Fa e hl eb cs l Fo ok A s R S X O W r hd s1 X1 e1 e2 K e3 e4 W1 W2 S2 O2 W3;induction fl using Fl.casesOn with
 |next=>
  refine pE h ?_
  induction fw using Flow.casesOn with
  |next=>exact(S4.pop).v fun _=>.none
  |_=>exact fk.elim
 |ret d'=>
  refine pE h ?_
  induction fw using Flow.casesOn with
  |ret v=>exact S4
  |_=>exact fk.elim
end
end Mine
namespace Mine
open PySem PySem.W PyProof.Rows
section
variable {G:Cfg}{n:Nat}{c:Calls}{F:Frm}{κ:bf}{ρ ρ':ay}{σ σ' σ1 σ2:Store}{d:V}{A:Around}{s:Shared}{ts:List Tmp}{wf:Nat}{X:VW}{O:OM}
theorem rG(Sg:Stat G)(Ks:KSet G)(Kn:KNew G){A:Around}{x dx C k:Nat}{es:List DictEntry}{v:Value}{Q:Value→Shared→Prop}(hd:A.depth<recursionLimit)(X:G.K.In s.heap)(hlim:s.heap.NoLimit)(gx:s.heap.get? x=some (instObj C dx))(gd:s.heap.get? dx=some (dictOf es k))
  (hf:af.fld C 1=true) (hl1:es.find? (·.key.isStr (nm 1))=none) (hl:getL (nm 1) es=some none) (hz:es.length<900)
  (q:∀h' k' hsh tk tk',h'.get? dx=some (dictOf (es++[⟨hsh,.str (nm 1) tk,v⟩]) k')→(∀b o,b≠dx→s.heap.get? b=some o→h'.get? b=some o)→0<tk'→Q .none {s with heap:=h',toks:=tk'}):
  bC G A (call (.ref 33) [.ref x,v]) Q s:=by
 refine CT Kn.nodeFn fun sc p1 p2 p3 p4 Fo=>?_
 obtain⟨name,qual,params,dV,kV,doc,pm,an,cdv,ct,oc,od,osl,hK,hcd,hb,hbc⟩:=Fo.ex
 have loc:∀i∈[0,1],sc.names.lookup (nm i)=some .local:=fun i hi=>(Fo.ps i hi).resolve_right fun z=>nomatch z
 refine wpAny_call (codeAny_call_def (fd:=fnOf name qual params _ sc dV kV doc pm an cdv ct) (binds:=([0,1].map nm).zip [.ref x,v]) hd (X _ _ hK) rfl hlim (codeRec_of X hcd) rfl (hb s _ X rfl) (Fo.nocell rfl) (fun y hy=>?_) (fun h1 ns1 kp1=>bt ?_) Fo.co Fo.gen Fo.kind)
 ·have:y.1∈(([0,1].map nm).zip [Value.ref x,v]).map (·.1):=List.mem_map_of_mem hy
  rw[mP (by rfl)]at this
  refine aT (List.mem_map.mp this) fun i hi e=>?_
  refine eE e ?_;exact loc i hi
 ·have hnd:(((([0,1].map nm).zip [Value.ref x,v])).map (·.1)).Nodup:=by rw[mP (by rfl)];exact Fo.nodup
  have b0:(([0,1].map nm).zip [Value.ref x,v]).reverse.lookup (nm 0)=some (.ref x):=mN hnd List.mem_cons_self
  have b1:(([0,1].map nm).zip [Value.ref x,v]).reverse.lookup (nm 1)=some v:=mN hnd (List.mem_cons_of_mem _ List.mem_cons_self)
  have hlt:∀a o,s.heap.get? a=some o→a≠s.heap.objs.size:=fun a o e=>Nat.ne_of_lt (Heap.lt_size e)
  refine wpAny_execs_cons (plainObj_wpAny_Assign_Attribute (wpAny_Name (wpAny_loadName_local Fo.kind (loc 1 (List.mem_cons_of_mem _ List.mem_cons_self)) ns1 b1 ?_) Kn.d1) kM)
  refine wpAny_Name (wpAny_loadName_local Fo.kind (loc 0 List.mem_cons_self) ns1 b0 ?_) Kn.d0
  refine j4 Ks (s:={s with heap:=h1,toks:=s.toks+(([0,1].map nm).zip [Value.ref x,v]).length}) (L:=s.heap.objs.size) (fun a o e=>kp1 a o (X a o e)) (kp1 _ _ gx) (kp1 _ _ gd) ns1 (hlt _ _ gd) hf hl1 hl hz fun h' k' hsh tk hns hdx kp=>wpAny_execs_nil ?_
  exact q h' k' hsh tk _ hdx (fun b o nb eb=>kp b o (hlt b o eb) nb (kp1 b o eb)) (Nat.succ_pos _)
theorem mq(Sg:Stat G)(Ks:KSet G)(Kn:KNew G):ia G n:=by
 intro F κ ρ σ σ' x C e cp np ap kp p d K hg hd0 hl ho h1 hx hf A ts s R S
 have oks:j0 [.Name (nm x) np,e]:=fun y m=>(List.mem_cons.mp m).elim (fun q=>q▸⟨fun _ _=>rfl,fun _=>rfl,fun _ _=>rfl,fun _ _=>rfl⟩) fun m=>List.mem_singleton.mp m▸ho
 refine wpAny_Expr_any ?_ qB
 refine eR (lH (fun _=>rfl) hl oks (by show 2<20;decide)) ?_
 refine fA (fW K S hg Sg.node ?_)
 refine wpAny_bind (wpAny_standAt (wpAny_bind (wpAny_holding (method_cls (S.kin Sg) Kn.n1 (cls_value (S.kin Sg) Kn.n2 Kn.n3 rfl ?_)))))
 have S0:=S.tok (tk:=s.toks+1) (Nat.succ_pos _)
 refine callWith_of (P:=G.K.In) (by refine eR (fB F.env kp oks) ?_;rfl) (keeps_K Kn.n4) ?_
 have hst:starEach [.Name (nm x) np,e] F.env=[(false,eval (.Name (nm x) np) F.env),(false,eval e F.env)]:=by
  show(false,eval (.Name (nm x) np) F.env)::starEach [e] F.env=_
  rw[ho.star];rfl
 refine hst▸?_
 refine Calls.evalArgs_plain (Calls.spliced_cons (dN Sg S0 hx (fun d z=>nomatch z) hd0 fun ov S1=>Calls.spliced_cons (ad (h1 A _ _ R S1) fun u s1 S2=>Calls.spliced_nil ⟨S2.kin Sg,S2.one fun X O W r1=>?_⟩)))
 clear κ σ cp np ap p K hg hd0 hl ho h1 s S oks S0 hst S1 S2;refine hU (W.own1 hx (fun d z=>nomatch z)) fun y dx z2 oa ob=>?_;subst z2
 refine eB ((W.inv.own dx _ ob).2) fun es k g2 rf=>?_
 refine cB ((gW Sg.nm (a:=1) rf).2 rfl) fun z1 z2=>?_
 have hes:es=[]:=List.eq_nil_of_length_eq_zero rf.len
 subst hes
 have ne:dx≠y:=fun q=>by rw[q,oa]at ob;exact nomatch ob
 refine rG Sg Ks Kn (A:=A) (by have:=R.d;exact bw 1 6681158795985508117487304705 rfl this) (W.st.kin Sg) (Sg.nolimit.keeps fun a o e=>W.st.x0 a o e) ((W.inv.own y _ oa).2) g2 hf z1 z2 (by decide) fun h' k' hsh tk tk' hdx kp ht'=>?_
 exact⟨rfl,_,_,W.pop.chg (c':=.flds [(1,d)]) (tk:=tk') ob ht' kp (dA _ k' hdx (rf.snoc r1:RpF G X ([]++[_]) ([]++[(1,d)]))) W.tm.1 (gc y dx rfl ((dq (Ne.symm ne)).trans oa) bK)⟩
end
end Mine
namespace Mine
open PySem PySem.W PyProof.Rows
theorem nV(h:Heap)(C:Addr):dS h ((h.push emptyDict).push (instObj C h.objs.size))∧((h.push emptyDict).push (instObj C h.objs.size)).get? (h.objs.size+1)=some (instObj C h.objs.size)∧((h.push emptyDict).push (instObj C h.objs.size)).get? h.objs.size=some (dictOf [] 0)∧h.get? h.objs.size=none∧h.get? (h.objs.size+1)=none:=by
 refine v3 ((bc _ _).trans (bc _ _)) (by heap_get) ?_ (bp (Nat.le_refl _)) (bp (Nat.le_succ _))
 have:((h.push emptyDict).push (instObj C h.objs.size)).get? h.objs.size=some emptyDict:=by heap_get
 exact this
section
variable {G:Cfg}{n:Nat}{c:Calls}{F:Frm}{κ:bf}{ρ ρ':ay}{σ σ' σ1 σ2:Store}{d:V}{A:Around}{s:Shared}{ts:List Tmp}{wf:Nat}{X:VW}{O:OM}
theorem Room.mk'{A:Around}(R:Room (n+1) A)(C:Addr)(vals:List Value)(env:Env):Room n ((A.under (.builtin "type.__call__" ⟨.ref C::vals,[]⟩)).deeper env):=
 ⟨R.h,by have:=R.d;rw[depth_deeper,depth_under_make];exact bw 1 37397303307370490394005663458462178599311385821185 rfl this,by have:=R.u;rw[units_deeper,units_under_make];exact bw 1 627748879900372231237485097227748101316219572558627864577 rfl this⟩
theorem uq(Sg:Stat G)(Kn:KNew G){C:Nat}(hi:af.inits C=some none):iC G (n+1) (.ref C) [] σ (.inst C []) σ:=by
 intro F ρ A ts s us R S0
 have S:=S0.pop
 obtain rfl:us=[]:=S0.onel fun X O W r=>r.nil_inv
 clear R S0;obtain⟨hh,g,d,t,os⟩:=s
 have X:G.K.In hh:=S.kin Sg
 refine Bs (nV hh C) fun k gx gd n1 n2=>?_
 have Y:=makes_of (M:=model G.prog G.w) X (Kn.make C _ hi)
 refine wpAny_call (make_core Y (looks_findIn X (Kn.noinit C hi)) (fun self=>Looks.of_pure (oi_bind self)) (.inr ⟨rfl,rfl⟩) ?_)
 have t2:Looks (model G.prog G.w) ((hh.push emptyDict).push (instObj C hh.objs.size)) (isInstance (.ref (hh.objs.size+1)) (.type "object")) true:=(show Looks (model G.prog G.w) ((hh.push emptyDict).push (instObj C hh.objs.size)) (typeOf (.ref (hh.objs.size+1))) (.ref C)from(Looks.ld gx).andThen .now).andThen (Y.top.keeps k)
 refine codeAny_call_builtin oi_plain entry_oi (@check_slot (model G.prog G.w) _ _ _ "object.__init__" "object" "__init__" (.ref (hh.objs.size+1)) [] [] _ oi_kind oi_split t2 (oi_args (.ref (hh.objs.size+1))) ?_)
 rw[oi_run]
 refine wpAny_pure (And.intro rfl ?_)
 exact S.alloc (h':=(hh.push emptyDict).push (instObj C hh.objs.size)) (tk:=t) k S.tk (fun a=>a==hh.objs.size||a==hh.objs.size+1) (fun a q=>(Bi q).elim (fun q=>beq_iff_eq.mp q▸n1) fun q=>beq_iff_eq.mp q▸n2)
  fun Y O t g=>Rp.inst' (g _ _ (by rw[beq_self_eq_true,Bool.or_true]) gx) (g _ _ (by rw[beq_self_eq_true,Bool.true_or]) gd) ⟨trivial,.nil⟩
theorem uy{x:Nat}{v:Value}{C:Nat}{fs:List (Nat × V)}(hl:F.env.kindOf (nm x)=some .local)(S:St G F ρ [.nmv x v] σ s)(h:ρ x=some (.v (.inst C fs))):St G F ρ [val G v (.inst C fs)] σ s:=S.on fun X O W=>by
 refine aT (W.loc.v x _ h) fun u hs hv=>?_
 clear S h;obtain rfl:=cN.one W.loc (show cN F O x u from hv.elim id fun z=>by rcases z.2.k with k|k<;>rw[hl]at k<;>exact absurd k (by decide)) W.tm.1
 exact⟨X,O,W.le,W.kp,W.inv,W.loc,fun Y le=>Rp.up le hs,trivial⟩
noncomputable def uz(x C:Nat)(N:Nat):OM:=fun a=>if a=N+1 then some ⟨.sl x,.raw (instObj C N)⟩else if a=N then some ⟨.sl x,.flds []⟩else none
theorem ij{x C N:Nat}{a:Addr}{w:Ow}(e:uz x C N a=some w){Z:Prop}(k1:a=N+1→w=⟨.sl x,.raw (instObj C N)⟩→Z)(k2:a=N→w=⟨.sl x,.flds []⟩→Z):Z:=by
 unfold uz at e
 by_cases q:a=N+1
 ·rw[if_pos q]at e;exact k1 q (Option.some.inj e).symm
 ·rw[if_neg q]at e;exact bv e fun q e=>k2 q (Option.some.inj e).symm
variable (Z:Zt G n c)(Kn:KNew G)
include Z Kn
variable (Ks:KSet G)(hp:∀a,nm a=("place":Str)→a=1)(Fa:FnAll G)
include Ks hp Fa
theorem yF{C:Nat}{vs:List V}(h:jP af c wf C vs σ=some (d,σ')):(∃i,af.inits C=some i)∧iC G (n+1) (.ref C) vs σ d σ':=by
 have No:ia G n:=mq Z.S Ks Kn
 unfold jP at h
 cases e:af.inits C with
 |none=>replace h:=e▸h;exact nE h
 |some i=>
  refine⟨⟨i,rfl⟩,?_⟩
  rw[e]at h
  induction i using Option.casesOn with
  |none=>
   refine bv (h) fun q h=>?_
   refine pE h ?_
   induction vs using List.casesOn with
   |nil=>exact uq Z.S Kn e
   |cons _ _=>exact bE q
  |some f=>
   refine De (Fa.init C f e) fun fi x ps sc l ef ep Fo ok hb=>?_
   dsimp only at h
   rw[ef,Option.bind_some,ep]at h
   refine bv h fun hl h=>ob h fun u eb h=>?_
   obtain⟨fl,ρ2,σ1⟩:=u
   intro F ρ A ts s us R S0
   refine S0.onel fun X O W r=>?_
   obtain⟨hh,g,dd,t,os⟩:=s
   have X0:G.K.In hh:=S0.pop.kin Z.S
   refine Bs (nV hh C) fun k gx gd n1 n2=>?_
   have Y:=makes_of (M:=model G.prog G.w) X0 (Kn.make C _ e)
   have hd:(A.under (.builtin "type.__call__" ⟨.ref C::us,[]⟩)).depth<recursionLimit:=by have:=R.d;rw[depth_under_make];exact bw 1 112092724814147084260553879767220225 rfl this
   refine wpAny_call (make_core Y (looks_findIn X0 (Kn.init1 C f e)) (fun self=>bind_fn X0 self (Kn.init2 C f e)) (.inl rfl) ?_)
   have⟨W0,le⟩:=W.alloc (h':=(hh.push emptyDict).push (instObj C hh.objs.size)) (tk:=t) (O':=O) k W.inv.tk (fun _=>false) (fun _ e=>nomatch e) (fun _ _ e=>e) fun a w e q=>by rw[e]at q;exact nR q
   have nO:∀a,hh.get? a=none→O a=none∧(X.add ((hh.push emptyDict).push (instObj C hh.objs.size)) fun _=>false).g.get? a=none:=fun a e=>by
    refine⟨?_,cg (W.inv.sub.none e) rfl⟩
    cases q:O a with
    |none=>rfl
    |some w=>refine Exists.elim ((W.inv.own a w q).2.al) fun o z=>?_;rw[show hh.get? a=some o from z]at e;exact nR e
   have hloc:sc.names.lookup (nm x)=some .local:=(Fo.ps x List.mem_cons_self).resolve_right fun z=>nomatch z
   refine gq (E0:=uz x C hh.objs.size) (ρ':=(aq ps vs).set x (.owni C [])) (vs:=.ref (hh.objs.size+1)::us) Z.S Fo hd W0.inv ⟨fun a w e=>?_,fun a w e=>?_,fun a w Y h' e le hh'=>?_⟩ ⟨congrArg Nat.succ (r.n.trans hl.symm),fun y sl e=>?_⟩ fun F' s1 X1 O' e1 e2 K e3 e4 W1 W2 hold=>?_
   ·refine ij e (fun q ew=>?_) fun q ew=>?_
    ·subst q ew;exact fz ((nO _ n2).1) ((nO _ n2).2) rfl
    ·subst q ew;exact fz ((nO _ n1).1) ((nO _ n1).2) rfl
   ·exact ij e (fun q _=>⟨_,by refine eR q ?_;exact gx⟩) fun q _=>⟨_,by refine eR q ?_;exact gd⟩
   ·refine ij e (fun q ew=>?_) fun q ew=>?_
    ·clear Z Kn Ks Fa No sc l ef ep Fo ok hb hl fl ρ2 σ1 eb h F ρ A ts us R O r S0 W X0 k gd n1 n2 hd W0 nO hloc e le;subst q ew;exact hh' _ _ gx
    ·clear Z Kn Ks Fa No sc l ef ep Fo ok hb hl fl ρ2 σ1 eb h F ρ A ts us R O r S0 W X0 k gx n1 n2 hd W0 nO hloc e le;subst q ew;exact⟨[],0,hh' _ _ gd,trivial,.nil⟩
   ·have e:(if y=x then some (.owni C [])else aq ps vs y)=some sl:=e
    clear Z Kn Ks Fa No sc l ef ep Fo ok hb hl fl ρ2 σ1 eb h F ρ A ts R O g dd t os S0 W X0 k gx gd n1 n2 hd W0 nO hloc;by_cases q:y=x
    ·replace e:=(if_pos q)▸e;refine oE e ?_;subst q
     exact⟨_,List.mem_cons_self,fun Y O' le hE=>(gc _ hh.objs.size rfl (hE _ _ (if_pos rfl)) (hE _ _ ((if_neg (Nat.ne_of_lt (Nat.lt_succ_self _))).trans (if_pos rfl))))⟩
    ·rw[if_neg q]at e
     refine aT (gy r e) fun v a b=>?_
     exact bi v (List.mem_cons_of_mem _ a) (fun Y O' le' _=>b Y O' (le.trans le'))
   ·have kl:F'.env.kindOf (nm x)=some .local:=by show F'.env.scope.names.lookup _=_;refine eR e1 ?_;exact hloc
    refine cB (Ay Z Ks No hp fi.body hb _ F' l _ _ _ _ _ K ok eb) fun efl M=>?_
    clear Kn Ks hp Fa No ef ep Fo ok hb hl eb r S0 W X0 k gx gd n1 n2 Y hd nO e1 e2 K;subst efl
    refine ad (M _ [.nmv x (.ref (hh.objs.size+1))] s1 (R.mk' C us F'.env) ⟨X1,O',W2.le,W2.kp,W2.inv,W2.loc,hold x _ List.mem_cons_self hloc,trivial⟩) fun fw s2 w9=>cB w9 fun ew S2=>?_
    subst ew
    refine⟨rfl,?_⟩
    have fin:∀{ρ3 fs C'},ρ3 x=some (.v (.inst C' fs))→St G F' ρ3 [.nmv x (.ref (hh.objs.size+1))] σ1 s2→kB G F ρ ts σ1 (.inst C' fs) (.ref (hh.objs.size+1)) s2:=fun q S3=>(uy kl S3 q).on fun X2 O2 W3=>
     (rA _ _ ((W1 W0).leave (tk:=s2.toks) (h':=s2.heap) e3 e4 W3 [] W3.inv.tk (fun _ _ _ e=>e) fun _ m=>nomatch m))
    refine ob (show(i3 (ρ2 x)).bind _=some (d,σ')from h) fun a ea h=>pE h ?_
    rcases nZ ea with hx|hx
    ·exact fin (if_pos rfl) (kh (g:=.freeze x) (ρ':=ρ2.set x (.v (.inst a.1 a.2))) (σ':=σ1) (by unfold ff;dsimp only;rw[hx]) S2 Z.S.sm)
    ·exact fin hx S2
end
structure All(G:Cfg):Prop where
 S:Stat G
 C:ClsOk G
 F:KFacts G
 ks:KSet G
 kn:KNew G
 fa:FnAll G
 sp:∀n,Spec G n
 hp:∀a,nm a=("place":Str)→a=1
theorem vd{G:Cfg}(Z:All G)(n:Nat):CallsOk G n (ac af n):=by
 induction n with
 |zero=>exact⟨fun _ _ _ _ _ h=>(nomatch h),fun _ _ _ _ _ h=>(nomatch h)⟩
 |succ n ih=>
  have z:Zt G n (ac af n):=⟨Z.S,Z.C,Z.F,ih,Z.sp n⟩
  exact⟨fun _ _ _ _ _ h=>AQ z Z.ks (mq Z.S Z.ks Z.kn) Z.hp Z.fa h,fun _ _ _ _ _ h=>yF z Z.kn Z.ks Z.hp Z.fa h⟩
end Mine
namespace Mine
open PySem PySem.W PyProof.Rows
section
variable {G:Cfg}{F:Frm}{n:Nat}{κ:bf}{ρ:ay}{σ σ':Store}{l:List V}
theorem pD(Sg:Stat G){e:PySem.Expr}{p pos:Pos}(K:FOk κ F.env)(hg:aX κ ("list":Str)=true)(ho:OkX e)(h:Ex G F n (eval e F.env) ρ σ (.lst l) σ')(hl:l.length≤bq):Ex G F n (eval (.Call (.Name ("list":Str) p) [e] [] pos) F.env) ρ σ (.lst l) σ':=
 fun A ts s R S=>gj K Sg S hg (f:=.type "list") (List.mem_of_getElem? (i:=6) rfl) (lX Sg R S rfl ho h fun v s1 S1=>S1.one fun X O W r=>r.on fun a vs k g r=>by
  have S2:St G F ρ (vals G vs.toList l::ts) σ' s1:=W.put1 fun Y le=>r.up le
  refine call_list_seq a (.inl rfl) (W.inv.sub _ _ g) rfl rfl (fun h' c' kp hD=>?_) (eI (r.sz▸hl))
  exact(S2.alloc kp S2.tk (fun b=>b==s1.heap.objs.size) (fun b e=>by refine eR (beq_iff_eq.mp e) ?_;exact bR _) fun Y O t gg=>Rp.lst' (gg _ _ (beq_self_eq_true _) hD) (t.1 Y (.refl Y))).pop2)
end
end Mine
namespace Mine
open PySem PySem.W PyProof.Rows
theorem r8:rN.Nodup:=by decide+kernel
theorem lE:rN.all (fun s=>s.cps[0]? !=some 1)=true:=by decide+kernel
theorem lT{α:Type}:∀{l:List α},l.Nodup→∀{i j:Nat}(hi:i<l.length)(hj:j<l.length),l[i]=l[j]→i=j
 |[],_,_,_,hi,_,_=>absurd hi (Nat.not_lt_zero _)
 |a::r,h,0,0,_,_,_=>rfl
 |a::r,h,0,j+1,_,hj,e=>absurd (List.getElem_mem (l:=r) (by simpa using hj)) (by
   have:=(List.nodup_cons.mp h).1
   simp only [List.getElem_cons_zero,List.getElem_cons_succ]at e
   rwa [←e])
 |a::r,h,i+1,0,hi,_,e=>absurd (List.getElem_mem (l:=r) (by simpa using hi)) (by
   have:=(List.nodup_cons.mp h).1
   simp only [List.getElem_cons_zero,List.getElem_cons_succ]at e
   rwa [e])
 |a::r,h,i+1,j+1,hi,hj,e=>by
   have:=lT (List.nodup_cons.mp h).2 (i:=i) (j:=j) (by simpa using hi) (by simpa using hj) (by simpa using e)
   rw[this]
theorem ul(i j:Nat)(h:nm i=nm j):i=j:=by
 unfold nm at h
 by_cases hi:i<rN.length
 ·by_cases hj:j<rN.length
  ·rw[List.getElem?_eq_getElem hi,List.getElem?_eq_getElem hj]at h
   exact lT r8 hi hj (by simpa using h)
  ·rw[List.getElem?_eq_getElem hi,List.getElem?_eq_none (Nat.le_of_not_lt hj)]at h
   have h:rN[i]=⟨Array.replicate (j+1) 1⟩:=h
   have:=List.all_eq_true.mp lE _ (List.getElem_mem hi)
   replace this:=h▸this
   simp at this
 ·by_cases hj:j<rN.length
  ·rw[List.getElem?_eq_none (Nat.le_of_not_lt hi),List.getElem?_eq_getElem hj]at h
   have h:(⟨Array.replicate (i+1) 1⟩:Str)=rN[j]:=h
   have:=List.all_eq_true.mp lE _ (List.getElem_mem hj)
   rw[←h]at this
   simp at this
  ·rw[List.getElem?_eq_none (Nat.le_of_not_lt hi),List.getElem?_eq_none (Nat.le_of_not_lt hj)]at h
   have h:(⟨Array.replicate (i+1) 1⟩:Str)=⟨Array.replicate (j+1) 1⟩:=h
   have:(Array.replicate (i+1) (1:Nat)).size=(Array.replicate (j+1) (1:Nat)).size:=by
    have:=congrArg (fun s=>s.cps.size) h
    simpa using this
   simpa using this
theorem At(i:Nat):(nm i==("__classdict__":Str))=false:=by
 unfold nm
 by_cases hi:i<rN.length
 ·refine eR (List.getElem?_eq_getElem hi) ?_
  have h:rN.all (fun s=> !(s==("__classdict__":Str)))=true:=by decide+kernel
  have:=List.all_eq_true.mp h _ (List.getElem_mem hi)
  simpa using this
 ·refine eR (List.getElem?_eq_none (Nat.le_of_not_lt hi)) ?_
  rw[beq_eq_false_iff_ne]
  intro e
  have e:(⟨Array.replicate (i+1) 1⟩:Str)=("__classdict__":Str):=e
  have:=congrArg (fun s=>s.cps[0]?) e
  have h2:("__classdict__":Str).cps[0]? =some 95:=by decide+kernel
  simp only [h2]at this
  simp at this
theorem ju{n:Str}:∀{names:List Str}{vals:List Value},vals.length=names.length→n∈names→((names.zip vals).lookup n).isNone=false
 |[],_,_,h=>nomatch h
 |y::r,[],e,_=>by injection e
 |y::r,v::q,e,h=>by
  refine eR List.zip_cons_cons ?_;refine eR List.lookup_cons ?_
  by_cases z:n=y
  ·clear e h;subst z;rw[beq_self_eq_true];rfl
  ·refine eR (beq_eq_false_iff_ne.mpr z) ?_
   exact ju (by simpa using e) (by rcases List.mem_cons.mp h with h|h;exact absurd h z;exact h)
theorem nY{α β:Type}{f g:α→Option β}:∀{l:List α},(∀x∈l,f x=g x)→l.filterMap f=l.filterMap g
 |[],_=>rfl
 |x::r,h=>by rw[List.filterMap_cons,List.filterMap_cons,h x List.mem_cons_self,nY fun y hy=>h y (List.mem_cons_of_mem _ hy)]
theorem jR:∀{names:List Str}{vals:List Value},vals.length=names.length→names.Nodup→names.filterMap (fun n=>((names.zip vals).lookup n).map (n,·))=names.zip vals
 |[],_,_,_=>rfl
 |y::r,[],e,_=>by injection e
 |y::r,v::q,e,h=>by
  obtain⟨h1,h2⟩:=List.nodup_cons.mp h
  rw[List.zip_cons_cons,List.filterMap_cons,List.lookup_cons,beq_self_eq_true]
  show(y,v)::_=_
  congr 1
  refine Eq.trans (nY fun n hn=>?_) (jR (vals:=q) (by simpa using e) h2)
  rw[List.lookup_cons,beq_eq_false_iff_ne.mpr (fun z=>h1 (by refine eE z ?_;exact hn))]
theorem t6{names pos:List Str}{vals:List Value}(e:vals.length=names.length)(h:∀n∈pos,n∈names):(pos.filter fun n=>((names.zip vals).lookup n).isNone)=[]:=by
 rw[List.filter_eq_nil_iff]
 intro n hn
 refine eR (ju e (h n hn)) ?_;decide
theorem lN{sl:List (Str × Value)}:∀{l:List (Str × Value)},(∀x∈l,(sl.lookup x.1).isNone=false)→
  (forIn (m:=Sem) l sl fun x r=>if(r.lookup x.1).isNone=true then pure (ForInStep.yield (r++[(x.1,x.2)]))else pure (ForInStep.yield r))=pure sl
 |[],_=>List.forIn_nil
 |x::r,h=>by
  rw[List.forIn_cons,h x List.mem_cons_self]
  rw[if_neg (by decide),pure_bind]
  exact lN fun y hy=>h y (List.mem_cons_of_mem _ hy)
theorem uO{fd:FuncData}{names:List Str}{vals:List Value}{args:List Arg}{kd:List (Option PySem.Expr)}{ds:List PySem.Expr}(hp:fd.params=⟨[],args,none,[],kd,none,ds⟩)(hn:args.map (·.arg)=names)(hd:names.Nodup)(hl:vals.length=names.length):
  bindArgs fd ⟨vals,[]⟩=seqItems? fd.defaults>>= fun _=>pure (names.zip vals):=by
 unfold bindArgs
 generalize fd.params=p at hp ⊢
 subst hp hn
 refine(pure_bind _ _).trans (congrArg (Bind.bind _) (funext fun o=>?_))
 refine(if_neg fun e=>Nat.lt_irrefl _ (hl▸of_decide_eq_true (Bool.and_eq_true_iff.mp e).1)).trans ((if_neg (ne_true_of_eq_false (congrArg (fun l=> !List.isEmpty l) (t6 hl fun n hn=>List.mem_of_mem_take hn)))).trans ?_)
 refine(congrArg (fun z=>z>>= _) (lN fun x hx=>ju hl (List.mem_of_mem_drop (List.of_mem_zip hx).1))).trans ((pure_bind _ _).trans ((pure_bind _ _).trans ((if_neg fun e=>bE e).trans ?_)))
 exact(congrArg (fun l=>(pure (List.filterMap _ l):Sem (List (Str × Value)))) (List.append_nil _)).trans (congrArg (fun l=>(pure l:Sem (List (Str × Value)))) (jR hl hd))
theorem cx{α β:Type}[BEq α][LawfulBEq α]{y:α}{k:β}:∀{l:List (α × β)},l.lookup y=some k→(y,k)∈l
 |[],h=>by exact nE h
 |(z,j)::r,h=>by
  rw[List.lookup_cons]at h
  by_cases e:y=z
  ·subst e;rw[beq_self_eq_true]at h;refine oR h ?_;exact List.mem_cons_self
  ·rw[beq_eq_false_iff_ne.mpr e]at h;exact List.mem_cons_of_mem _ (cx h)
noncomputable def xd:List Nat:=[72,99,126,153,180,207,234,261,288,383,397,418,439,460]
noncomputable def mf(K:Frag):Bool:=Bf.all fun p=>hasDictIn K p.1&&plainOver K p.1&&decide (findIn K (.ref p.1) "__setattr__"=some (some (.builtin "object.__setattr__")))&&
 p.2.all fun a=>plainGet K p.1 (nm a)&&decide (findIn K (.ref p.1) (nm a)=some none)&&decide (takerIn K p.1 (nm a)=some none)
noncomputable def uk(K:Frag):Bool:=Cr.all fun p=>decide (findIn K (.ref p.1.1) "__getattribute__"=some (some (.builtin "object.__getattribute__")))&&decide (findIn K (.ref p.1.1) "__getattr__"=some none)&&
 decide (findIn K (.ref p.1.1) (nm p.1.2)=some (some (.ref p.2)))&&decide (typeIn K (.ref p.2)=some (.type "function"))&&keepIn K (.ref p.2)
noncomputable def vK(K:Frag):Bool:=xd.all fun C=>plainGet K C "__class__"&&hasDictIn K C&&decide (findIn K (.ref C) "__class__"=some (some (.builtin "object.__class__")))&&decide (mroIn K C (.type "object")=some true)&&(zQ.lookup C).isSome&&
 xd.all fun D=>decide (kitOne K (.ref C) (.ref D)=some (D==C))
noncomputable def x9(K:Frag):Bool:=xm.all fun p=>keepIn K (.ref p.1)
noncomputable def vC(K:Frag):Bool:=zQ.all fun p=>keepIn K (.ref p.1)&&makesIn K p.1&&(match p.2 with
 |some f=>decide (findIn K (.ref p.1) "__init__"=some (some (.ref f)))&&decide (typeIn K (.ref f)=some (.type "function"))
 |none=>decide (findIn K (.ref p.1) "__init__"=some (some (.builtin "object.__init__"))))
noncomputable def pS(K:Frag):Bool:=decide (specialIn K (.builtin "object.__class__") "__get__"=some (some (.builtin "getset_descriptor.__get__")))&&decide (takesIn K (.builtin "object.__class__")=some true)&&
 decide (specialIn K (.ref 43) "__getattribute__"=some (some (.builtin "type.__getattribute__")))&&readsIn K 43 (.type "type")&&(match findCls K (.ref 43) (.type "type") "__init__" with|some (.val (.ref a))=>a==33|_=>false)&&keepIn K (.ref 33)
section
variable {G:Cfg}
theorem wu{C a:Nat}(h:af.fld C a=true):∃l,(C,l)∈Bf∧a∈l:=by
 have h:((Bf.lookup C).any fun l=>l.contains a)=true:=h
 cases e:Bf.lookup C with
 |none=>rw[e]at h;exact bE h
 |some l=>rw[e]at h;exact bi l (cx e) (by simpa using h)
theorem vh(h:mf G.K=true){C a:Nat}(hf:af.fld C a=true):(plainGet G.K C (nm a)=true∧hasDictIn G.K C=true∧findIn G.K (.ref C) (nm a)=some none)∧KSet1 G C a:=by
 refine aT (wu hf) fun l h1 h2=>?_
 have q:=ae (List.all_eq_true.mp h _ h1)
 have r:=ae (List.all_eq_true.mp q.2 _ h2)
 have q1:=ae q.1
 exact⟨⟨(ae r.1).1,(ae q1.1).1,of_decide_eq_true (ae r.1).2⟩,of_decide_eq_true q1.2,(ae q1.1).2,of_decide_eq_true r.2,(ae q1.1).1⟩
theorem uY(h:mf G.K=true):ClsOk G:=⟨fun _ _ hf=>(vh h hf).1⟩
theorem xB(h:mf G.K=true):KSet G:=⟨fun _ _ hf=>(vh h hf).2⟩
theorem mT{C:Nat}(e:af.cls C=true):C∈xd:=by
 simpa using(show xd.contains C=true from e)
theorem rJ(h1:uk G.K=true)(h2:vK G.K=true)(h3:x9 G.K=true)(h4:vC G.K=true)(h5:pS G.K=true):KFacts G:=by
 have s:=ae (ae (ae (ae h5).1).1).1
 refine⟨fun C m f e=>?_,of_decide_eq_true (ae s.1).1,of_decide_eq_true (ae s.1).2,fun C e=>?_,fun C D e1 e2=>?_,fun f fi e=>?_,fun C i e=>?_⟩
 ·have r:=ae (List.all_eq_true.mp h1 _ (cx (e)))
  have r1:=ae r.1
  have r2:=ae r1.1
  exact⟨of_decide_eq_true (ae r2.1).1,of_decide_eq_true (ae r2.1).2,of_decide_eq_true r2.2,of_decide_eq_true r1.2,r.2⟩
 ·have r:=ae (List.all_eq_true.mp h2 _ (mT e))
  have r0:=ae r.1
  have r1:=ae r0.1
  have r2:=ae r1.1
  exact⟨(ae r2.1).1,(ae r2.1).2,of_decide_eq_true r2.2,of_decide_eq_true r1.2,r0.2⟩
 ·exact of_decide_eq_true (List.all_eq_true.mp (ae (List.all_eq_true.mp h2 _ (mT e1))).2 _ (mT e2))
 ·exact List.all_eq_true.mp h3 _ (cx (e))
 ·exact(ae (ae (List.all_eq_true.mp h4 _ (cx (e)))).1).1
end
end Mine
namespace Mine
open PySem PySem.W PyProof.Rows
noncomputable def kF(names:List (Str × NameKind)):List Nat:=names.filterMap fun x=>if x.2== .cell then some (rN.findIdx (· ==x.1))else none
noncomputable def AL(K:Frag)(nc:Bool):Value→Bool
 |.none=>true
 |.ref T=>nc&&(match(K.lookup T).map Obj.data with|some (.seq _ _)=>true|_=>false)
 |_=>false
noncomputable def iZ(K:Frag)(f:Nat):Obj:=(K.lookup f).getD default
noncomputable def sX(o:Obj):FuncData:=match o.data with|.func fd=>fd|_=>default
noncomputable def Bx(fd:FuncData):List PySem.Stmt:=match fd.body with|.stmts b=>b|_=>[]
noncomputable def Bv(fd:FuncData)(b:List PySem.Stmt):FuncData:=fnOf fd.name fd.qualname ⟨[],fd.params.args,none,[],fd.params.kw_defaults,none,fd.params.defaults⟩ b fd.scope fd.defaults fd.kwdefaults fd.doc fd.pyModule fd.annotations fd.code fd.closureTuple
noncomputable def B2(o:Obj)(b:Ss):Obj:=⟨o.cls,o.dict,.func (Bv (sX o) (iu b (Bx (sX o)))),o.slots⟩
noncomputable def vz(K:Frag)(xs:List Nat)(b:Ss)(fd:FuncData):Bool:=
  codeIn K fd.code fd.qualname&&decide (fd.params.args.map (·.arg)=xs.map nm)&&decide ((xs.map nm).Nodup)&&
  (!fd.scope.isCoroutine&& !fd.scope.isGenerator&&decide (fd.scope.kind=.function))&&
  xs.all (fun x=>decide (fd.scope.names.lookup (nm x)=some .local)||(kF fd.scope.names).contains x)&&(kF fd.scope.names).all (fun i=>decide (fd.scope.names.lookup (nm i)=some .cell))&&
  fd.scope.names.all (fun x=>x.2 != .cell||(kF fd.scope.names).any fun i=>nm i==x.1)&&fd.scope.names.all (fun x=>x.2 != .free)&&
  AL K (kF fd.scope.names).isEmpty fd.defaults&&io fd.scope.names b (Bx fd)
theorem m6:seqItems? .none=pure none:=by rfl
section
variable {G:Cfg}
theorem rt{f:Nat}{xs:List Nat}{b:Ss}{fd:FuncData}{l:List PySem.Stmt}{oc:Value}{od:Option Addr}{osl:Array (Option Value)}(e:G.K.lookup f=some ⟨oc,od,.func (Bv fd l),osl⟩)(h:vz G.K xs b fd=true):FnOk G f xs (kF fd.scope.names) fd.scope l:=by
 have h11:=(ae (ae h).1).2
 have a:=ae (ae (ae h).1).1
 have a9:=ae a.1
 have a8:=ae a9.1
 have a7:=ae a8.1
 have a6:=ae a7.1
 have a5:=ae a6.1
 have a4:=ae a5.1
 have hd:=of_decide_eq_true a5.2
 have k6:=ae (ae a6.2).1
 have eb:∀vals:List Value,vals.length=xs.length→bindArgs (Bv fd l) ⟨vals,[]⟩=seqItems? fd.defaults>>= fun _=>pure ((xs.map nm).zip vals):=fun vals hl=>uO (fd:=Bv fd l) rfl (of_decide_eq_true a4.2) hd (by rw[hl,List.length_map])
 have dn:fd.defaults=.none∨∃T,fd.defaults=.ref T∧(kF fd.scope.names).isEmpty=true∧∃o it n,G.K.lookup T=some o∧o.data=.seq it n:=by
  cases q:fd.defaults with
  |none=>exact .inl rfl
  |ref T=>
   rw[q]at h11
   have r:=ae (h11)
   refine .inr (iK T rfl r.1 ?_)
   cases z:G.K.lookup T with
   |none=>rw[z]at r;exact absurd r.2 Bool.false_ne_true
   |some o=>
    rw[z]at r
    have r2:(match some o.data with|some (.seq _ _)=>true|_=>false)=true:=r.2
    cases y:o.data with
    |seq it n=>exact yn o it n rfl y
    |_=>rw[y]at r2;exact absurd r2 Bool.false_ne_true
  |_=>rw[q]at h11;exact absurd h11 Bool.false_ne_true
 refine⟨⟨_,_,_,_,_,_,_,_,_,_,oc,od,osl,e,a4.1,fun s vals X hl=>?_,fun hc vals hl=>?_⟩,Bool.not_eq_true' _ |>.mp k6.1,Bool.not_eq_true' _ |>.mp k6.2,of_decide_eq_true (ae a6.2).2,hd,fun x hx=>?_,fun i hi=>of_decide_eq_true (List.all_eq_true.mp a8.2 i hi),fun y hy=>?_,fun y hy=>?_,fun hc x hx e=>?_⟩
 ·rcases dn with q|⟨T,q,_,o,it,n,z,y⟩
  ·exact BindsTo.of_eq ((eb vals hl).trans (by rw[q,m6,pure_bind]))
  ·exact BindsTo.of_defaults q (X _ _ z) y (eb vals hl) rfl
 ·rcases dn with q|⟨T,q,c,_⟩
  ·exact(eb vals hl).trans (by rw[q,m6,pure_bind])
  ·exact absurd (List.isEmpty_iff.mp c) hc
 ·rcases Bool.or_eq_true_iff.mp (List.all_eq_true.mp a7.2 x hx)with z|z
  ·exact .inl (of_decide_eq_true z)
  ·exact .inr (List.contains_iff_mem.mp z)
 ·rcases Bool.or_eq_true_iff.mp (List.all_eq_true.mp a9.2 _ (cx hy))with z|z
  ·exact absurd z Bool.false_ne_true
  ·refine aT (List.any_eq_true.mp z) fun i hi e=>?_
   exact bi i hi ((beq_iff_eq.mp e).symm)
 ·exact absurd (List.all_eq_true.mp a.2 _ (cx hy)) Bool.false_ne_true
 ·have:=List.all_eq_true.mp a9.2 _ hx
  rw[hc,e]at this
  exact absurd this Bool.false_ne_true
noncomputable def nX(K:Frag):Bool:=xm.all fun p=>vz K p.2.params p.2.body (sX (iZ K p.1))
noncomputable abbrev uB(K:Frag):Prop:=(xm.map fun p=>K.lookup p.1)=xm.map fun p=>some (B2 (iZ K p.1) p.2.body)
noncomputable def tB(K:Frag):Bool:=zQ.all fun p=>match p.2 with
 |none=>true
 |some f=>(match xm.lookup f with
  |some fi=> !fi.params.isEmpty&&gt fi.body&&(kF (sX (iZ K f)).scope.names).isEmpty
  |none=>false)
theorem vN(h0:uB G.K)(h1:nX G.K=true)(h2:tB G.K=true):FnAll G:=by
 have one:∀f fi,af.fns f=some fi→FnOk G f fi.params (kF (sX (iZ G.K f)).scope.names) (sX (iZ G.K f)).scope (iu fi.body (Bx (sX (iZ G.K f))))∧io (sX (iZ G.K f)).scope.names fi.body (Bx (sX (iZ G.K f)))=true:=fun f fi e=>by
  have m:=cx (e)
  have c:=List.all_eq_true.mp h1 _ m
  exact⟨rt (List.map_inj_left.mp h0 _ m) c,(ae c).2⟩
 refine⟨fun f fi e=>(vX _ _ _ (one f fi e)),fun C f e=>?_⟩
 have h:(match xm.lookup f with
  |some fi=> !fi.params.isEmpty&&gt fi.body&&(kF (sX (iZ G.K f)).scope.names).isEmpty
  |none=>false)=true:=List.all_eq_true.mp h2 _ (cx (e))
 cases ef:xm.lookup f with
 |none=>replace h:=ef▸h;exact bE h
 |some fi=>
  rw[ef]at h
  have q:=ae h
  have o:=one f fi ef
  rw[List.isEmpty_iff.mp q.2]at o
  cases ep:fi.params with
  |nil=>replace q:=ep▸q;exact absurd q.1 Bool.false_ne_true
  |cons x ps=>rw[ep]at o;exact CO fi x ps _ _ ef ep o.1 o.2 ((ae q.1).2)
noncomputable def By:Ss:=.cons (.setAttr 0 1 (.var 1)) .nil
noncomputable def qk(K:Frag):Bool:=vz K [0,1] By (sX (iZ K 33))&&(kF (sX (iZ K 33)).scope.names).isEmpty
theorem zX(o:Option CFound)(h:(match o with|some (.val (.ref a))=>a==33|_=>false)=true):o=some (.val (.ref 33)):=by
 induction o using Option.casesOn with
 |none=>exact bE h
 |some f=>induction f using CFound.casesOn with
  |val v=>induction v using Value.casesOn with
   |ref a=>exact congrArg (fun a=>some (CFound.val (.ref a))) (beq_iff_eq.mp h)
   |_=>exact bE h
  |_=>exact bE h
theorem wc(h4:vC G.K=true)(h5:pS G.K=true)(h0:G.K.lookup 33=some (B2 (iZ G.K 33) By))(h6:qk G.K=true):KNew G:=by
 have s:=ae h5
 have s5:=ae s.1
 have s4:=ae s5.1
 have inn:∀C i,af.inits C=some i→(C,i)∈zQ:=fun C i e=>cx (e)
 have F:=rt h0 (ae h6).1
 rw[List.isEmpty_iff.mp (ae h6).2]at F
 refine⟨fun C i e=>(ae (ae (List.all_eq_true.mp h4 _ (inn C i e))).1).2,fun C f e=>?_,fun C f e=>?_,fun C e=>of_decide_eq_true (ae (List.all_eq_true.mp h4 _ (inn C _ e))).2,of_decide_eq_true (ae s4.1).2,s4.2,?_,s.2,(Dk _ _ _ _ _ F),by decide+kernel,by decide+kernel,by decide+kernel⟩
 ·exact of_decide_eq_true (ae (ae (List.all_eq_true.mp h4 _ (inn C _ e))).2).1
 ·exact of_decide_eq_true (ae (ae (List.all_eq_true.mp h4 _ (inn C _ e))).2).2
 ·have s5:=s5.2
  exact zX _ s5
end
end Mine
namespace Mine
open PySem PySem.W PyProof.Rows
noncomputable def sZ(K:Frag)(a:Addr)(x:Str):Option (Option Value):=match(K.lookup a).map Obj.data with
 |some (.dict es _)=>some (nsFind es x)
 |_=>none
theorem eu{K:Frag}{h:Heap}{a:Addr}{m:Str→Option Value}{x:Str}{v:Option Value}(X:K.In h)(N:h.Ns a m)(e:sZ K a x=some v):m x=v:=by
 refine yq N fun o es ep g d _ f=>?_
 unfold sZ at e
 cases q:K.lookup a with
 |none=>rw[q]at e;exact nE e
 |some o'=>
  have:=X _ _ q
  rw[g]at this;injection this with z1;subst z1
  rw[q]at e
  dsimp only [Option.map]at e
  rw[d]at e
  refine oE e ?_
  exact(f x).symm
noncomputable def nP(f:Value→Option V):List Value→Option (List V)
 |[]=>some []
 |v::r=>(f v).bind fun d=>(nP f r).bind fun l=>some (d::l)
noncomputable def CQ(g:List Value→Option (List V))(o:Obj):Option V:=match o.data with
 |.seq vs _=>(g vs.toList).bind fun l=>if o.cls=.type "tuple" then some (.tup none l)else if o.cls=.type "list"∧o.dict=none∧o.slots= #[]then some (.lst l)else none
 |_=>none
noncomputable def rd(K:Frag):Nat→Value→Option V
 |0,_=>none
 |n+1,v=>match v with
  |.int i t=>if 0<t then some (.int i)else none
  |.str s t=>if 0<t then some (.str s)else none
  |.ref a=>(K.lookup a).bind (CQ (nP (rd K n)))
  |_=>none
section
variable {G:Cfg}{X:VW}{K:Frag}
theorem gM{f:Value→Option V}(h:∀v d,f v=some d→Rp G X v d):∀{vs:List Value}{l:List V},nP f vs=some l→RpL G X vs l
 |[],_,e=>by refine oE e ?_;exact .nil
 |v::r,_,e=>ob e fun d e1 e=>ob e fun l e2 e=>by refine oE e ?_;exact .cons (h v d e1) (gM h e2)
theorem qn(XX:K.In X.g):∀(n:Nat)(v:Value)(d:V),rd K n v=some d→Rp G X v d
 |0,_,_,e=>by exact nE e
 |n+1,v,d,e=>by
  induction v using Value.casesOn with
  |int i t=>exact bv (e) fun q e=>by refine oE e ?_;exact .int _ _ q
  |str s t=>exact bv (e) fun q e=>by refine oE e ?_;exact .str _ _ q
  |ref a=>
   refine ob (e) fun o eo e=>?_
   obtain⟨cls,dict,data,slots⟩:=o
   induction data using Data.casesOn with
   |seq vs c=>
    refine ob (e) fun l el e=>?_
    have r:=gM (G:=G) (X:=X) (qn XX n) el
    dsimp only at e
    by_cases q:cls=.type "tuple"
    ·rw[if_pos q]at e;refine oE e ?_
     exact .tup' ⟨_,XX _ _ eo,q,c,rfl⟩ r fun k z=>nomatch z
    ·replace e:=(if_neg q)▸e
     refine bv e fun q e=>?_
     obtain⟨rfl,rfl,rfl⟩:=q
     refine oE e ?_
     exact .lst' (XX _ _ eo) r
   |_=>exact nE e
  |_=>injection e
noncomputable def wV:Value→Option Str
 |.str s _=>some s
 |_=>none
theorem qm{k:Str}{v:Value}(e:wV v=some k):Value.isStrOf k v=true:=by
 induction v using Value.casesOn with
 |str s t=>refine oR e ?_;exact beq_self_eq_true _
 |_=>exact nE e
theorem n9:∀{es:List DictEntry}{ks:List Str},es.map (fun e=>wV e.key)=ks.map some→Pairs (sk G) es (ks.zip (es.map (·.val)))
 |[],[],_=>.nil
 |e::es,k::ks,h=>.cons (qm (List.cons.inj h).1) rfl (n9 (List.cons.inj h).2)
 |[],_::_,h=>nomatch h
 |_::_,[],h=>nomatch h
theorem wA{es:List DictEntry}{ks:List Str}(h:es.map (fun e=>wV e.key)=ks.map some)(g:es.map (·.hash)=ks.map (hashStr G.w)):∀e∈es,∃k,(sk G).is k e.key=true∧e.hash=(sk G).hash k:=fun e m=>by
 refine Exists.elim (List.mem_iff_getElem?.mp m) fun i hi=>?_
 have a:=congrArg (fun l=>l[i]?) h
 have b:=congrArg (fun l=>l[i]?) g
 rw[List.getElem?_map,List.getElem?_map,hi]at a b
 cases q:ks[i]? with
 |none=>rw[q]at a;exact nR a
 |some k=>
  rw[q]at a b
  exact bi k (qm (Option.some.inj a)) (Option.some.inj b)
theorem o0{α β:Type}:∀{l:List α}{m:List β},l.length=m.length→(l.zip m).map (·.1)=l∧(l.zip m).map (·.2)=m
 |[],[],_=>⟨rfl,rfl⟩
 |a::l,b::m,h=>cB (o0 (Nat.succ.inj h)) fun x y=>⟨congrArg (a::·) x,congrArg (b::·) y⟩
 |[],_::_,h=>nomatch h
 |_::_,[],h=>nomatch h
noncomputable def uH(o:Obj):Array DictEntry:=match o.data with|.dict es _=>es|_=>#[]
noncomputable def CR(o:Obj):Nat:=match o.data with|.dict _ n=>n|_=>0
noncomputable def CC(o:Obj):Array Value:=match o.data with|.seq es _=>es|_=>#[]
noncomputable def Cd(o:Obj):Nat:=match o.data with|.seq _ n=>n|_=>0
structure DctK(w:World)(K:Frag)(a:Addr)(es:List (Str × V)):Prop where
 e1:K.lookup a=some ⟨.type "dict",none,.dict (uH (iZ K a)) (CR (iZ K a)),#[]⟩
 e2:(uH (iZ K a)).toList.map (fun e=>wV e.key)=(es.map (·.1)).map some
 e3:(uH (iZ K a)).toList.map (·.hash)=(es.map (·.1)).map (hashStr w)
 e4:nP (rd K 4) ((uH (iZ K a)).toList.map (·.val))=some (es.map (·.2))
 nd:(es.map (·.1)).Nodup
 ns:(a==sysModules)=false
theorem DctK.ok{a:Addr}{es:List (Str × V)}(D:DctK G.w K a es)(XX:K.In X.g):Rp G X (.ref a) (.dct es):=by
 obtain⟨e1,e2,e3,e4,nd,ns⟩:=D
 generalize uH (iZ K a)=ens at e1 e2 e3 e4
 have r:=gM (G:=G) (X:=X) (qn XX 4) e4
 have l1:=congrArg List.length e2
 rw[List.length_map,List.length_map]at l1
 refine cB (o0 (l:=es.map (·.1)) (m:=ens.toList.map (·.val)) (l1.symm.trans (List.length_map _).symm)) fun z1 z2=>?_
 refine .dct (kvs:=(es.map (·.1)).zip (ens.toList.map (·.val))) (CU _ ens _ (XX _ _ e1) ⟨rfl,rfl,rfl⟩ rfl (fun e m=>wA e2 e3 e (Array.mem_toList_iff.mpr m)) (n9 e2) (by rw[z1];exact nd)) ns z1 (by refine eR z2 ?_;exact r.n) ?_
 refine eR z2 ?_;exact r.r
end
noncomputable def aK(K:Frag)(x:Str):Addr:=match sZ K mainGlobals x with
 |some (some (.ref a))=>a
 |_=>0
noncomputable def BF:List Nat:=((xm.map (·.1)).filter fun f=>fx f !="")++zQ.map (·.1)
noncomputable def yR:List (Nat × String):=[(1,"[]"),(2,":"),(3,"()")]
noncomputable def d4:List (Str × V):=[("[]",.int 0),(":",.int 2),("()",.int 0)]
noncomputable def d5:List (Str × V):=[("T",.lst [c7 "M.A" "",c7 "M.B" "TI"]),("N",.lst [c7 "M.N" "T"]),("P",.lst [c7 "(,)" "TI"]),("L",.lst [c7 "[]" "",c7 ":" "IL"])]
structure KAll(w:World)(K:Frag):Prop where
 c1:mf K=true
 c2:uk K=true
 c3:vK K=true
 c4:x9 K=true
 c5:vC K=true
 c6:pS K=true
 t0:uB K
 t1:nX K=true
 t2:tB K=true
 t3:K.lookup 33=some (B2 (iZ K 33) By)
 t4:qk K=true
 gl:(BF.map fun f=>sZ K mainGlobals (fx f))=BF.map fun f=>some (some (.ref f))
 nd:sZ K mainGlobals "Node"=some (some (.ref 43))
 b1:(ny.map fun p=>sZ K mainGlobals p.1)=ny.map fun _=>some none
 b2:(ny.map fun p=>sZ K builtinsNs p.1)=ny.map fun p=>some (some p.2)
 sm:(K.lookup sysModules).isSome=true
 nb:sZ K cStatics sharingNotToldKey=some none
 vs:(yR.map fun p=>(sZ K mainGlobals (fx p.1)).map fun v=>v.map (rd K 1))=yR.map fun p=>some (some (some (.str p.2)))
 v4:sZ K mainGlobals "BUILT_IN"=some (some (.ref (aK K "BUILT_IN")))
 v5:sZ K mainGlobals "_law_kinds"=some (some (.ref (aK K "_law_kinds")))
 v6:sZ K mainGlobals "_law_never"=some (some (.ref (aK K "_law_never")))
 k4:DctK w K (aK K "BUILT_IN") d4
 k5:DctK w K (aK K "_law_kinds") d5
 k6:K.lookup (aK K "_law_never")=some (iZ K (aK K "_law_never"))∧(iZ K (aK K "_law_never")).cls=.type "tuple"∧(iZ K (aK K "_law_never")).data=.seq (CC (iZ K (aK K "_law_never"))) (Cd (iZ K (aK K "_law_never")))∧nP (rd K 1) (CC (iZ K (aK K "_law_never"))).toList=some [.str "never"]
noncomputable def gN(h:Heap)(a6:Addr):VW:=⟨h,fun _=>none,fun k=>if k=0 then some a6 else none⟩
section
variable {prog:Program}{w:World}{K:Frag}{s:Shared}{mg mb:Str→Option Value}
theorem qz(Z:KAll w K)(XX:K.In s.heap)(hl:s.heap.NoLimit)(g1:s.heap.Ns mainGlobals mg)(g2:s.heap.Ns builtinsNs mb)(g3:∃mc,s.heap.Ns cStatics mc):Stat ⟨prog,w,K,gN s.heap (aK K "_law_never"),s.os⟩:=by
 have gl:∀f∈BF,mg (fx f)=some (.ref f):=fun f m=>eu XX g1 (List.map_inj_left.mp Z.gl f m)
 refine⟨ul,At,XX,hl,?_,fun f fi e hf=>(bi mg g1 (gl f ?_)),fun C i e=>(bi mg g1 (gl C ?_)),fun x d e=>?_,(bi mg g1 (eu XX g1 Z.nd)),fun x v m=>(gi mg mb g1 g2 (eu XX g1 (List.map_inj_left.mp Z.b1 _ m)) (eu XX g2 (List.map_inj_left.mp Z.b2 _ m))),Exists.elim g3 fun mc e=>(bi mc e (eu XX e Z.nb))⟩
 ·obtain⟨o,e⟩:=Option.isSome_iff_exists.mp Z.sm
  exact Option.isSome_iff_exists.mpr ⟨o,XX _ _ e⟩
 ·exact List.mem_append_left _ (List.mem_filter.mpr ⟨List.mem_map.mpr ⟨_,cx (e),rfl⟩,bne_iff_ne.mpr hf⟩)
 ·exact List.mem_append_right _ (List.mem_map.mpr ⟨_,cx (e),rfl⟩)
 ·have str:∀p∈yR,∃v,Gl ⟨prog,w,K,gN s.heap (aK K "_law_never"),s.os⟩ (fx p.1) v∧Rp ⟨prog,w,K,gN s.heap (aK K "_law_never"),s.os⟩ (gN s.heap (aK K "_law_never")) v (.str p.2):=fun p m=>by
   have e:=List.map_inj_left.mp Z.vs p m
   refine aT (Option.map_eq_some_iff.mp e) fun a e1 e=>?_
   refine aT (Option.map_eq_some_iff.mp e) fun v e2 e=>?_
   subst e2
   exact bi v ⟨mg,g1,eu XX g1 e1⟩ (qn XX 1 _ _ (Option.some.inj e))
  have m:=cx (e)
  rcases List.mem_cons.mp m with q|m
  ·refine qR q ?_;exact str (1,"[]") List.mem_cons_self
  rcases List.mem_cons.mp m with q|m
  ·refine qR q ?_;exact str (2,":") (List.mem_cons_of_mem _ List.mem_cons_self)
  rcases List.mem_cons.mp m with q|m
  ·refine qR q ?_;exact str (3,"()") (List.mem_cons_of_mem _ (List.mem_cons_of_mem _ List.mem_cons_self))
  rcases List.mem_cons.mp m with q|m
  ·refine qR q ?_;exact bi _ ⟨mg,g1,eu XX g1 Z.v4⟩ (Z.k4.ok (G:=⟨prog,w,K,gN s.heap (aK K "_law_never"),s.os⟩) (X:=gN s.heap (aK K "_law_never")) XX)
  rcases List.mem_cons.mp m with q|m
  ·refine qR q ?_;exact⟨_,⟨mg,g1,eu XX g1 Z.v5⟩,Z.k5.ok (G:=⟨prog,w,K,gN s.heap (aK K "_law_never"),s.os⟩) (X:=gN s.heap (aK K "_law_never")) XX⟩
  refine qR (List.mem_singleton.mp m) ?_
  refine gC Z.k6 fun e1 e2 e3 e4=>?_
  exact⟨_,⟨mg,g1,eu XX g1 Z.v6⟩,.tup' ⟨_,XX _ _ e1,e2,_,e3⟩ (gM (qn XX 1) e4) fun k z=>by refine oE z ?_;rfl⟩
theorem zA(Z:KAll w K)(XX:K.In s.heap)(hl:s.heap.NoLimit)(g1:s.heap.Ns mainGlobals mg)(g2:s.heap.Ns builtinsNs mb)(g3:∃mc,s.heap.Ns cStatics mc)(sp:∀n,Spec ⟨prog,w,K,gN s.heap (aK K "_law_never"),s.os⟩ n):All ⟨prog,w,K,gN s.heap (aK K "_law_never"),s.os⟩:=
 ⟨qz Z XX hl g1 g2 g3,uY Z.c1,rJ Z.c2 Z.c3 Z.c4 Z.c5 Z.c6,xB Z.c1,wc Z.c5 Z.c6 Z.t3 Z.t4,vN Z.t0 Z.t1 Z.t2,sp,fun a h=>ul a 1 h⟩
end
section
variable {G:Cfg}{n:Nat}{σ σ':Store}{d:V}{A:Around}{s:Shared}{wf:Nat}{X:VW}{c:Calls}
theorem yE(Z:Zt G n c)(Ks:KSet G)(No:ia G n)(hp:∀a,nm a=("place":Str)→a=1)(Fa:FnAll G){f:Nat}{vs:List V}{us:List Value}(h:qo af c wf f vs σ=some (d,σ'))(I:Inv G G.X0 (fun _=>none) σ s)(r:RpL G G.X0 us vs)(R:Room (n+1) A):
  bC G A (call (.ref f) us) (fun v s'=>∃X',Rp G X' v d∧dS G.X0.g s'.heap∧s'.os=G.os∧s'.gens= #[]) s:=by
 refine ob (h) fun fi e h=>bv h fun hl h=>ob h fun u eb h=>?_
 obtain⟨fl,ρ',σ1⟩:=u
 refine kT (Fa.fn f fi e) fun cs sc l Fo ok=>?_
 have hd:A.depth<recursionLimit:=by have:=R.d;exact bw 1 27366387894078877993299286966273 rfl this
 refine wpAny_call (gq (ρ':=aq fi.params vs) Z.S Fo hd I qP ⟨r.n.trans hl.symm,fun x sl e=>aT (gy r e) fun v a b=>(bi v a (fun Y O' le _=>b Y O' le))⟩ fun F' s1 X1 O' e1 e2 K e3 e4 _ W2 _=>?_)
 refine ad (yb Z Ks No hp fi.body _ F' l _ _ _ _ _ (yh Z.S.nm Fo e1 e2 K) ok eb (A.deeper F'.env) [] s1 (R.sub _) rfl (rA X1 O' W2)) fun fw s2 S2=>S2.on fun X2 O2 W3=>?_
 have fk:=W3.tm.1 X2 (.refl X2)
 have J:=W3.inv
 have fin:∀{v},Rp G X2 v d→∃X',Rp G X' v d∧dS G.X0.g s2.heap∧s2.os=G.os∧s2.gens= #[]:=fun r=>Cs X2 r (J.x0.g.trans J.sub) J.os J.gens
 clear Z Ks No hp Fa I r R e hl eb cs l Fo ok hd e1 e2 K e3 e4 W2 S2 O2 W3 J;induction fl using Fl.casesOn with
 |next=>
  injection h with z1;injection z1 with z2 z3;subst z2 z3
  induction fw using Flow.casesOn with
  |next=>exact fin .none
  |_=>exact fk.elim
 |ret d'=>
  injection h with z1;injection z1 with z2 z3;subst z2 z3
  induction fw using Flow.casesOn with
  |ret v=>exact fin fk
  |_=>exact fk.elim
end
end Mine
namespace Mine
open PySem PySem.W PyProof.Rows
theorem pZ:typeLookup (.type "zip") "__len__"=pure none:=by rw[typeLookup_type,builtinLookup_eq_fast];kernel_rfl
theorem ni:typeLookup (.type "zip") "__length_hint__"=pure none:=by rw[typeLookup_type,builtinLookup_eq_fast];kernel_rfl
abbrev mz(h:Heap)(N T:Nat)(b:Bool):Prop:=
 h.get? (N+4)=some {cls:=.type "zip",dict:=none,data:=.fields #[rawInt T,.bool b,.bool false,.ref (N+2),.ref (N+3)],slots:=#[]}
structure ZSt(N l1 l2:Nat)(xs ys:Array Value)(i:Nat)(h:Heap):Prop where
 lt:l1<N∧l2<N
 ez:(IsZip h (N+4) (N+2) (N+3) .none∧∃a b,IsPair h (N+3) a b)∨∃T bb o,mz h N T bb∧h.get? T=some o∧N+5<T
 ti:IsPair h (N+2) (.ref N) (.ref (N+1))
 h1:h.IsListIter N l1 i
 h2:h.IsListIter (N+1) l2 i
 e1:h.IsList l1 xs
 e2:h.IsList l2 ys
 sz:N+5<h.objs.size
noncomputable def Kp(N:Nat)(h h':Heap):Prop:=∀b o,b<N∨N+5≤b→h.get? b=some o→h'.get? b=some o
section
variable {prog:Program}{w:World}{A:Around}{E:Value→Shared→Prop}{s:Shared}{N l1 l2:Nat}{xs ys:Array Value}{i:Nat}{h h':Heap}
theorem zq{a b:Nat}(h:a<N∧b<N):ZipApart (N+4) (N+2) (N+3) N (N+1) a b:=lO h.1 h.2
theorem ZSt.upd(V:ZSt N l1 l2 xs ys i h)(k:∀b o,b≠N+5→h.get? b=some o→h'.get? b=some o)(hs:N+5<h'.objs.size):ZSt N l1 l2 xs ys i h':=by
 have lt:=V.lt
 exact⟨V.lt,V.ez.imp (fun z=>⟨k _ _ (by lia) z.1,ym z.2 fun a b e=>(rA a b (k _ _ (by lia) e))⟩) fun w9=>Ad w9 fun T bb o z1 z2 z3=>(vZ T bb o (k _ _ (by lia) z1) (k _ _ (by lia) z2) z3),k _ _ (by lia) V.ti,V.h1.at fun o=>k _ o (by lia),V.h2.at fun o=>k _ o (by lia),V.e1.at fun o=>k _ o (by lia),V.e2.at fun o=>k _ o (by lia),hs⟩
theorem nK{a:Addr}{Q:Option Obj→Shared→Prop}(h:Q (s.heap.get? a) s):wpAny (model prog w) A (loadIfAlive a) Q E s:=by
 intro Γ hΓ pos
 rw[show(loadIfAlive a:Sem (Option Obj))=Sem.loadIfAlive a .pure from rfl];simpa using h
theorem pB{T:Addr}{b:Bool}{oT:Obj}{Q:Bool→Shared→Prop}(hz:mz s.heap N T b)(hT:s.heap.get? T=some oT)
  (q:∀h',mz h' N T true→(∀c o,c≠N+4→s.heap.get? c=some o→h'.get? c=some o)→h'.objs.size=s.heap.objs.size→Q false {s with heap:=h'}):
  wpAny (model prog w) A (Builtin.SmallTypes.ownedTupleIsFree (.ref (N+4))) Q E s:=by
 unfold Builtin.SmallTypes.ownedTupleIsFree
 refine wpAny_bind (wpAny_field hz rfl (x:=rawInt T) rfl ?_)
 show wpAny _ _ (loadIfAlive T>>= _) _ _ _
 refine wpAny_bind (nK ?_)
 refine eR hT ?_
 refine wpAny_bind (wpAny_field hz rfl (x:=.bool b) rfl ?_)
 induction b using Bool.casesOn with
 |true=>exact wpAny_pure (q _ hz (fun _ _ _ e=>e) rfl)
 |false=>
  exact wpAny_bind (wpAny_setField_rec hz (by simp) fun h' hz' hs'=>wpAny_pure (q h' hz' (fun c o n e=>hs'.extBut c o n e) hs'.1))
theorem l6{T:Addr}{bb:Bool}{oT:Obj}{Q:Option Value→Shared→Prop}(hh:A.handled=none)(V:ZSt N l1 l2 xs ys i s.heap)(hz:mz s.heap N T bb)(hT:s.heap.get? T=some oT)(hN:N+5<T)
  (qi:∀x y h',xs[i]? =some x→ys[i]? =some y→ZSt N l1 l2 xs ys (i+1) h'→IsPair h' s.heap.objs.size x y→Kp N s.heap h'→Q (some (.ref s.heap.objs.size)) {s with heap:=h'})
  (qe:∀h',(xs[i]? =none∨ys[i]? =none)→Kp N s.heap h'→Q none {s with heap:=h'}):wpAny (model prog w) A (pyNext (.ref (N+4))) Q E s:=by
 have hTy:s.TypeIs (.ref (N+4)) "zip":=bi _ hz rfl
 have lt:=V.lt
 have stop:∀h' e,(xs[i]? =none∨ys[i]? =none)→Kp N s.heap h'→(∃o,h'.get? e=some o∧o.cls=.type "StopIteration")→wpAny (model prog w) A (isInstance (.ref e) (.type "StopIteration")>>= fun b=>if b=true then pure none else throw (.ref e)) Q E {s with heap:=h'}:=fun h' e he hk ⟨o,ho,hc⟩=>
  wpAny_bind (wpAny_isInstance (T:="StopIteration") (b:=true) (bi o ho hc) isSubtype_stop (wpAny_pure (qe _ he hk)))
 unfold pyNext
 refine wpAny_bind (wpAny_attempt (wpAny_callSpecial?_slot (name:=Str.ofString "__next__") hTy F.slot_zip_next (wpAny_call_entry F.slot_zip_next hTy F.entry_zip_next ?_ (F.args_zip_next_1 _))))
 show wpAny _ _ (field (.ref (N+4)) 2>>= _) _ _ _
 refine wpAny_bind (wpAny_field hz rfl (x:=.bool false) rfl ?_)
 refine wpAny_bind (wpAny_field hz rfl (x:=.ref (N+2)) rfl ?_)
 refine wpAny_bind (wpAny_seqItems V.ti rfl ?_)
 refine wpAny_bind (pB hz hT fun h₁ hz₁ hk₁ hs₁=>?_)
 have k:∀b o,b≠N+4→s.heap.get? b=some o→h₁.get? b=some o:=hk₁
 rw[if_neg Bool.false_ne_true]
 dsimp only
 rw[List.forIn_toArray,List.forIn_cons]
 refine wpAny_bind (wpAny_bind (wpAny_bind (wpAny_holding ?_)))
 have j1:h₁.IsListIter N l1 i:=V.h1.at fun o=>k _ o (by lia)
 have m1:h₁.IsList l1 xs:=V.e1.at fun o=>k _ o (by lia)
 have m2:h₁.IsList l2 ys:=V.e2.at fun o=>k _ o (by lia)
 cases hx:xs[i]? with
 |none=>exact wpAny_bind (wpAny_nextOf_list_end hh j1 m1 hx fun h₂ e hs₂ he=>stop _ _ (.inl hx) (fun b o nb q=>hs₂ _ _ (by lia) (k b o (by lia) q)) he)
 |some x=>
  refine wpAny_bind (wpAny_nextOf_list_item j1 m1 hx fun h₂ h1₂ hs₂=>wpAny_pure (wpAny_pure ?_))
  refine wpAny_bind (wpAny_bind (wpAny_holding ?_))
  show wpAny _ _ (Builtin.SmallTypes.nextOf (.ref (N+1))>>= _) _ _ _
  have g:∀b o,b≠N→h₁.get? b=some o→h₂.get? b=some o:=fun b o n=>hs₂.extBut b o n
  have j2':h₂.IsListIter (N+1) l2 i:=(show h₁.IsListIter (N+1) l2 i from V.h2.at fun o=>k _ o (by lia)).at fun o=>g _ o (by lia)
  have m2':h₂.IsList l2 ys:=m2.at fun o=>g _ o (by lia)
  cases hy:ys[i]? with
  |none=>exact wpAny_bind (wpAny_nextOf_list_end hh j2' m2' hy fun h₃ e hs₃ he=>stop _ _ (.inr hy) (fun b o nb q=>hs₃ _ _ (by lia) (g b o (by lia) (k b o (by lia) q))) he)
  |some y=>
   refine wpAny_bind (wpAny_nextOf_list_item j2' m2' hy fun h₃ h2₃ hs₃=>wpAny_pure (wpAny_pure (wpAny_pure ?_)))
   show wpAny _ _ (newTuple [x,y]>>= _) _ _ _
   refine wpAny_bind (wpAny_newTuple (wpAny_pure (bi _ rfl (wpAny_pure ?_))))
   have f:∀b o,b≠N+1→h₂.get? b=some o→(h₃.push {cls:=.type "tuple",data:=.seq #[x,y]}).get? b=some o:=fun b o n e=>Heap.get?_push_of_some _ (hs₃.extBut b o n e)
   have t:∀b o,b≠N+4→b≠N→b≠N+1→s.heap.get? b=some o→(h₃.push {cls:=.type "tuple",data:=.seq #[x,y]}).get? b=some o:=fun b o n1 n2 n3 e=>f b o n3 (g b o n2 (k b o n1 e))
   have hsz:h₃.objs.size=s.heap.objs.size:=by rw[hs₃.1,hs₂.1,hs₁]
   have r:=qi x y (h₃.push {cls:=.type "tuple",data:=.seq #[x,y]}) hx hy ⟨lt,.inr (vZ T true oT (f _ _ (by lia) (g _ _ (by lia) hz₁)) (t _ _ (by lia) (by lia) (by lia) hT) hN),t _ _ (by lia) (by lia) (by lia) V.ti,h1₂.at fun o=>f _ o (by lia),h2₃.at fun o e=>Heap.get?_push_of_some _ e,V.e1.at fun o=>t _ o (by lia) (by lia) (by lia),V.e2.at fun o=>t _ o (by lia) (by lia) (by lia),by rw[Heap.size_push,hsz];have:=V.sz;exact aP 1 6682054125955963874966503425 rfl this⟩
    (by refine eE hsz ?_;exact Heap.get?_push_size _ rfl) fun b o nb e=>t b o (by lia) (by lia) (by lia) e
   rw[←hsz]at r
   exact r
theorem ZSt.next(hh:A.handled=none)(V:ZSt N l1 l2 xs ys i s.heap){Q:Option Value→Shared→Prop}
  (qi:∀x y h' T,xs[i]? =some x→ys[i]? =some y→ZSt N l1 l2 xs ys (i+1) h'→IsPair h' T x y→N+5<T→Kp N s.heap h'→Q (some (.ref T)) {s with heap:=h'})
  (qe:∀h',(xs[i]? =none∨ys[i]? =none)→Kp N s.heap h'→Q none {s with heap:=h'}):wpAny (model prog w) A (pyNext (.ref (N+4))) Q E s:=by
 rcases V.ez with⟨hz,a,b,hTO⟩|⟨T,bb,o,hz,hT,hN⟩
 ·have D:=zq V.lt
  have lt:=V.lt
  have kp:∀{h':Heap},(∀c o,c≠N+4→c≠N+3→c≠N→c≠N+1→s.heap.get? c=some o→h'.get? c=some o)→Kp N s.heap h':=fun k b o n=>k b o (by lia) (by lia) (by lia) (by lia)
  cases hx:xs[i]? with
  |none=>exact wpAny_pyNext_zip_end hh D hz V.ti hTO V.h1 V.h2 V.e1 V.e2 (.inl hx) fun h' hk=>qe h' (.inl hx) (kp hk)
  |some x=>cases hy:ys[i]? with
   |none=>exact wpAny_pyNext_zip_end hh D hz V.ti hTO V.h1 V.h2 V.e1 V.e2 (.inr hy) fun h' hk=>qe h' (.inr hy) (kp hk)
   |some y=>
    refine wpAny_pyNext_zip_item D hz V.ti hTO V.h1 V.h2 V.e1 V.e2 hx hy fun h' a1 a2 a3 a4 a5 a6 hk=>?_
    have sz:=V.sz
    refine qi x y h' _ hx hy ⟨lt,.inr (vZ _ _ _ a1 a5 sz),hk _ _ (by lia) (by lia) (by lia) (by lia) V.ti,a3,a4,V.e1.at fun o=>hk _ o (by lia) (by lia) (by lia) (by lia),V.e2.at fun o=>hk _ o (by lia) (by lia) (by lia) (by lia),?_⟩ a5 sz (kp hk)
    have:=Heap.lt_size a5
    exact bw 2 1749833218566447599422101085224961 rfl sz this
 ·have sz:=V.sz
  exact l6 hh V hz hT hN (fun x y h' hx hy V' P k=>qi x y h' _ hx hy V' P sz k) qe
end
end Mine
namespace Mine
open PySem PySem.W PyProof.Rows
structure LAcc(N:Nat)(xs ys:Array Value)(i:Nat)(acc:Array Value)(h:Heap):Prop where
 s:∃c,h.get? (N+5)=some (listOf acc c)
 n:acc.size=i
 x:i≤xs.size
 y:i≤ys.size
 r:∀(j:Nat)(v:Value),acc[j]? =some v→∃(T:Addr)(x y:Value),v=.ref T∧xs[j]? =some x∧ys[j]? =some y∧IsPair h T x y∧N+5<T
noncomputable def Kb(N:Nat)(h h':Heap):Prop:=∀b o,b<N→h.get? b=some o→h'.get? b=some o
section
variable {prog:Program}{w:World}{A:Around}{E:Value→Shared→Prop}{R:Result→Shared→Prop}{s:Shared}{N l1 l2:Nat}{xs ys acc:Array Value}{i:Nat}{h h' h0:Heap}
theorem LAcc.keep(L:LAcc N xs ys i acc h)(k:∀b o,N+5≤b→h.get? b=some o→h'.get? b=some o):LAcc N xs ys i acc h':=
 ⟨Exists.elim L.s fun c e=>⟨c,k _ _ (Nat.le_refl _) e⟩,L.n,L.x,L.y,fun j v e=>zW (L.r j v e) fun T x y a b c d f=>(qF T x y a b c (k _ _ (Nat.le_of_lt f) d) f)⟩
theorem LAcc.push{T:Addr}{x y:Value}(L:LAcc N xs ys i acc h)(hx:xs[i]? =some x)(hy:ys[i]? =some y)(P:IsPair h T x y)(hT:N+5<T):LAcc N xs ys (i+1) (acc.push (.ref T)) (h.update (N+5) (Obj.mapSeq (·.push (.ref T)))):=by
 refine Exists.elim L.s fun c hc=>?_
 have up:∀b o,b≠N+5→h.get? b=some o→(h.update (N+5) (Obj.mapSeq (·.push (.ref T)))).get? b=some o:=fun b o n e=>(Heap.get?_update_other _ _ (Ne.symm n)).trans e
 refine⟨⟨_,Heap.get?_update_self _ hc rfl⟩,(Array.size_push _).trans (congrArg (· +1) L.n),(Array.getElem?_eq_some_iff.mp hx).1,(Array.getElem?_eq_some_iff.mp hy).1,fun j v e=>?_⟩
 rw[Array.getElem?_push]at e
 by_cases q:j=acc.size
 ·rw[if_pos q]at e;refine oE e ?_;refine eR q ?_;refine eR L.n ?_
  exact qF T x y rfl hx hy (up _ _ (Nat.ne_of_gt hT) P) hT
 ·rw[if_neg q]at e
  refine zW (L.r j v e) fun T' x' y' a b c d f=>?_
  exact qF T' x' y' a b c (up _ _ (Nat.ne_of_gt f) d) f
theorem uP(hh:A.handled=none)(hn:xs.size≤sizeLine)(res:Value)(k:Nat):∀{i:Nat}{hp:Heap}{g d t o}{acc:Array Value},xs.size≤i+k→ZSt N l1 l2 xs ys i hp→LAcc N xs ys i acc hp→Kb N h0 hp→
  (∀i acc h',LAcc N xs ys i acc h'→(xs[i]? =none∨ys[i]? =none)→Kb N h0 h'→R (.ok (.ret res)) ⟨h',g,d,t,o⟩)→codeAny (model prog w) A (.builtin "list.extend.loop" ⟨[.ref (N+5),.ref (N+4),res],[]⟩) R ⟨hp,g,d,t,o⟩:=by
 induction k with
 |zero=>
  intro i hp g d t o acc hk V L K q
  refine codeAny_builtin F.entry_extend_loop ?_
  refine(Around.under_plainId F.plain_extend_loop _)▸?_
  exact wpAny_bind (V.next (A:=A.in1) hh (fun x y h' T hx=>absurd (Array.getElem?_eq_some_iff.mp hx).1 (Nat.not_lt.mpr hk)) fun h' e kp=>wpAny_pure (q i acc h' (L.keep fun b o n=>kp b o (.inr n)) e fun b o n e=>kp b o (.inl n) (K b o n e)))
 |succ k ih=>
  intro i hp g d t o acc hk V L K q
  refine codeAny_builtin F.entry_extend_loop ?_
  refine eR (Around.under_plainId F.plain_extend_loop _) ?_
  refine wpAny_bind (V.next (A:=A.in1) hh (fun x y h' T hx hy V' P hT kp=>?_) fun h' e kp=>wpAny_pure (q i acc h' (L.keep fun b o n=>kp b o (.inr n)) e fun b o n e=>kp b o (.inl n) (K b o n e)))
  have L1:=L.keep (h':=h') fun b o n=>kp b o (.inr n)
  refine Exists.elim L1.s fun c hc=>?_
  have up:∀b o,b≠N+5→h'.get? b=some o→(h'.update (N+5) (Obj.mapSeq (·.push (.ref T)))).get? b=some o:=fun b o n e=>(Heap.get?_update_other _ _ (Ne.symm n)).trans e
  have lx:=L.x
  have ln:=L.n
  exact wpAny_bind (wpAny_updateSeq hc rfl (wpAny_pure ⟨plainId_quiet F.plain_extend_loop _,ih (i:=i+1) (bw 1 7584126337226910445076737 rfl hk) (V'.upd up (by rw[Heap.size_update];exact V'.sz)) (L1.push hx hy P hT) (fun b o n e=>up b o (Nat.ne_of_lt (Nat.lt_of_lt_of_le n (Nat.le_add_right _ _))) (kp b o (.inl n) (K b o n e))) q⟩) (by refine eR ln ?_;exact bw 2 1706516235440385 rfl hn lx) (by show(acc.push _).size≤_;rw[Array.size_push,ln];have:=(Array.getElem?_eq_some_iff.mp hx).1;exact bw 2 28630591490865647337473 rfl hn lx))
theorem ky{Q:Value→Shared→Prop}{hp:Heap}{g d t o}(hh:A.handled=none)(hn:xs.size≤sizeLine)(hs:hp.objs.size=N+5)(lt:l1<N∧l2<N)(hz:IsZip hp (N+4) (N+2) (N+3) .none)(ti:IsPair hp (N+2) (.ref N) (.ref (N+1)))(to':IsPair hp (N+3) .none .none)
  (h1:hp.IsListIter N l1 0) (h2:hp.IsListIter (N+1) l2 0) (e1:hp.IsList l1 xs) (e2:hp.IsList l2 ys) (K:Kb N h0 hp)
  (q:∀i acc h',LAcc N xs ys i acc h'→(xs[i]? =none∨ys[i]? =none)→Kb N h0 h'→Q (.ref (N+5)) ⟨h',g,d,t,o⟩):wpAny (model prog w) A (call (.type "list") [.ref (N+4)]) Q E ⟨hp,g,d,t,o⟩:=by
 refine callType_codes (Q₁:=fun obj s₁=>obj=.ref (N+5)∧s₁=⟨hp.push (listOf #[] 0),g,d,t,o⟩) PySem.F.called_list (PySem.F.typeCall_list_1 _) PySem.F.entry_list_init (code_list_new _ ⟨congrArg Value.ref hs,rfl⟩) fun obj s₁ h₁=>?_
 obtain⟨rfl,rfl⟩:=h₁
 have hS:(hp.push (listOf #[] 0)).get? (N+5)=some (listOf #[] 0):=hs▸Heap.get?_push_size _ rfl
 refine⟨⟨_,hS,rfl⟩,PySem.F.args_list_init_2 _ _,?_⟩
 show wpAny _ _ (do let old←Builtin.List.listItems (.ref (N+5));Builtin.List.listUpdate (.ref (N+5)) (fun _=>#[]);letGo old.toList.reverse;Builtin.List.listExtendWith (.ref (N+5)) (.ref (N+4)) .none) _ _ _
 refine wpAny_bind ?_
 unfold Builtin.List.listItems
 refine wpAny_bind (wpAny_seqItems hS rfl (wpAny_pure ?_))
 show wpAny _ _ (updateSeq (N+5) (fun _=>#[])>>= fun _=>letGo (#[]:Array Value).toList.reverse>>= fun _=>Builtin.List.listExtendWith (.ref (N+5)) (.ref (N+4)) .none) _ _ _
 refine wpAny_bind (wpAny_updateSeq hS rfl ?_)
 have oth:∀{h:Heap}{f:Array Value→Array Value}(b:Addr)(ob:Obj),b≠N+5→h.get? b=some ob→(h.update (N+5) (Obj.mapSeq f)).get? b=some ob:=fun b ob n e=>(Heap.get?_update_other _ _ (Ne.symm n)).trans e
 have n4:N+4≠N+5:=by lia
 refine wpAny_bind (wpAny_letGo ?_)
 unfold Builtin.List.listExtendWith
 have hz2:IsZip ((hp.push (listOf #[] 0)).update (N+5) (Obj.mapSeq fun _=>#[])) (N+4) (N+2) (N+3) .none:=oth _ _ n4 (show IsZip (hp.push (listOf #[] 0)) (N+4) (N+2) (N+3) .none from Heap.get?_push_of_some _ hz)
 refine wpAny_bind (wpAny_typeOf (T:="zip") (bi _ hz2 rfl) ?_)
 have e1':Builtin.List.listSameRef (.ref (N+5)) (.ref (N+4))=false:=by simp[Builtin.List.listSameRef]
 have e2':(Value.type "zip"==Value.type "list")=false:=by decide
 have e3':(Value.type "zip"==Value.type "tuple")=false:=by decide
 simp only [e1',e2',e3',Bool.or_false,Bool.false_eq_true,if_false]
 refine wpAny_bind (wpAny_pyIter_zip hz2 ?_)
 refine wpAny_bind (wpAny_holding ?_)
 unfold Builtin.List.listLengthHint
 refine wpAny_bind (wpAny_specialOf (T:="zip") ⟨_,hz2,rfl⟩ pZ ?_)
 refine wpAny_bind (wpAny_specialOf (T:="zip") ⟨_,hz2,rfl⟩ ni ?_)
 refine wpAny_pure ?_
 refine wpAny_bind (wpAny_rule ?_)
 refine wpAny_bind ?_
 have hS1:=Heap.get?_update_self (Obj.mapSeq fun _=>(#[]:Array Value)) hS rfl
 refine wpAny_bind (wpAny_updateSeq hS1 rfl ?_)
 have hS2:=Heap.get?_update_self (Obj.mapSeq (·.push Value.none)) hS1 rfl
 refine wpAny_updateSeq (hz:=by seq_fits) hS2 rfl ?_
 have up:∀b ob,b≠N+5→hp.get? b=some ob→((((hp.push (listOf #[] 0)).update (N+5) (Obj.mapSeq fun _=>(#[]:Array Value))).update (N+5) (Obj.mapSeq (·.push Value.none))).update (N+5) (Obj.mapSeq (·.pop))).get? b=some ob:=fun b ob n e=>oth b ob n (oth b ob n (oth b ob n (Heap.get?_push_of_some _ e)))
 have lt2:=lt
 refine wpAny_pure ⟨plainId_quiet F.plain_extend_loop _,uP (A:=A.in1) (h0:=h0) hh hn .none xs.size (bI 0 73400577 rfl)
  ⟨lt,.inl ⟨up _ _ n4 hz,_,_,up _ _ (by lia) to'⟩,up _ _ (by lia) ti,h1.at fun o=>up _ o (by lia),h2.at fun o=>up _ o (by lia),e1.at fun o=>up _ o (by lia),e2.at fun o=>up _ o (by lia),by rw[Heap.size_update,Heap.size_update,Heap.size_update,Heap.size_push,hs];exact Nat.lt_succ_self _⟩
  ⟨⟨_,(Heap.get?_update_self (Obj.mapSeq (·.pop)) hS2 rfl)⟩,rfl,Nat.zero_le _,Nat.zero_le _,fun j v e=>by have e:(#[]:Array Value)[j]? =some v:=e;rw[Array.getElem?_empty]at e;exact nE e⟩ (fun b ob n e=>up b ob (Nat.ne_of_lt (Nat.lt_of_lt_of_le n (Nat.le_add_right _ _))) (K b ob n e)) fun i acc h' L e K'=>?_⟩
 exact⟨rfl,q i acc h' L e K'⟩
end
end Mine
namespace Mine
open PySem PySem.W PyProof.Rows
theorem ib:typeLookup (.type "zip") "__getattr__"=pure none:=by rw[typeLookup_type,builtinLookup_eq_fast];kernel_rfl
theorem kG:typeLookup (.type "zip") "keys"=pure none:=by rw[typeLookup_type,builtinLookup_eq_fast];kernel_rfl
theorem mW:entryFor table "zip.__getattribute__"=some Builtin.«object.__getattribute__»:=
 entryFor_alias (id':="object.__getattribute__") (by kernel_rfl) (by decide+kernel) (by decide+kernel) (by kernel_rfl)
theorem vM(a:Addr)(vs:Array Value)(u:Tok):
  Meets (Builtin.«object.__getattribute__» ⟨[.ref a,.str "keys" u],[]⟩) (fun A R s=>s.heap.get? a=some {cls:=.type "zip",dict:=none,data:=.fields vs,slots:=#[]}∧raisesAttr (.ref a) "keys" A R s):=
 Meets.of_wp fun prog w A R s hs=>by
  obtain⟨hp,g,d,tk,os⟩:=s
  refine cB hs fun hx hs=>?_
  have hT:(⟨hp,g,d,tk,os⟩:Shared).TypeIs (.ref a) "zip":=bi _ hx rfl
  have hmiss:=kG
  unfold Builtin.«object.__getattribute__»
  repeat (any_goals (first|assumption|wp_step))
  exact wpAny_raiseAttrError hs.1 hs.2 (attrMsg_fits (by decide+kernel) (by size_fits))
theorem nW{prog:Program}{w:World}{A:Around}{E:Value→Shared→Prop}{hp:Heap}{g d tk os}{a:Addr}{vs:Array Value}{Q:Option Value→Shared→Prop}
  (hx:hp.get? a=some {cls:=.type "zip",dict:=none,data:=.fields vs,slots:=#[]}) (hA:A.handled=none)
  (h:∀h' tk',dS hp h'→Q none ⟨h',g,d,tk',os⟩):wpAny (model prog w) A (getAttr? (.ref a) "keys") Q E ⟨hp,g,d,tk,os⟩:=by
 have hT:∀tk',(⟨hp,g,d,tk',os⟩:Shared).TypeIs (.ref a) "zip":=fun _=>bi _ hx rfl
 have f1:=sub_AttributeError
 have f3:=F.slot_zip_getattribute.lookup
 have f4:=F.slot_zip_getattribute.bind (.ref a)
 have f5:=ib
 unfold getAttr? getAttrBy? getAttrBy
 repeat (any_goals (first|assumption|exact hT _|((with_reducible show wpAny _ _ (call (Value.builtin "zip.__getattribute__") _ _) _ _ _);refine call_meets F.slot_zip_getattribute (hT _) mW (F.args_zip_getattribute_2 _ _) (vM a vs _) (fz hx hA (fun h' tk' e hx'=>?_)))|wp_step))
 refine ym hx'.there fun t' u' he=>?_
 unfold getattributeRaised
 repeat (any_goals (first|assumption|wp_step))
 exact h _ _ fun b ob e=>hx'.keeps b ob e
theorem d8:entryFor table "dict.update.loop"=some Builtin.«dict.update.loop»:=entryFor_of_fast (by kernel_rfl)
theorem ce:plainId "dict.update.loop"=true:=by decide+kernel
structure Sd(G:Cfg)(X:VW)(xs ys:Array Value)(l m:List V)(i:Nat)(es:List (Str × V)):Prop where
 x:RpL G X xs.toList l
 y:RpL G X ys.toList m
 p:dk (cI (l.drop i) (m.drop i))=some es
theorem kL{l m:List V}{i:Nat}:(cI (l.drop i) (m.drop i)=[]∧(l[i]? =none∨m[i]? =none))∨∃a b,l[i]? =some a∧m[i]? =some b∧cI (l.drop i) (m.drop i)=.tup none [a,b]::cI (l.drop (i+1)) (m.drop (i+1)):=by
 by_cases h:i<l.length
 ·refine eR (List.drop_eq_getElem_cons h) ?_
  by_cases g:i<m.length
  ·refine eR (List.drop_eq_getElem_cons g) ?_
   exact .inr (gc _ _ (List.getElem?_eq_getElem h) (List.getElem?_eq_getElem g) rfl)
  ·refine eR (List.drop_eq_nil_of_le (Nat.not_lt.mp g)) ?_
   exact .inl ⟨rfl,.inr (List.getElem?_eq_none (Nat.not_lt.mp g))⟩
 ·refine eR (List.drop_eq_nil_of_le (Nat.not_lt.mp h)) ?_
  exact .inl ⟨rfl,.inl (List.getElem?_eq_none (Nat.not_lt.mp h))⟩
section
variable {G:Cfg}{X:VW}{A:Around}{E:Value→Shared→Prop}{R:Result→Shared→Prop}{N l1 l2:Nat}{xs ys:Array Value}{l m:List V}{i:Nat}{h0:Heap}{es:List (Str × V)}
theorem Sd.end(D:Sd G X xs ys l m i []):xs[i]? =none∨ys[i]? =none:=by
 have p:=D.p
 have hx:=D.x.n
 have hy:=D.y.n
 rw[Array.length_toList]at hx hy
 rcases kL (l:=l) (m:=m) (i:=i)with⟨_,z⟩|⟨a,b,_,_,z⟩
 ·rcases z with z|z
  ·exact .inl (Array.getElem?_eq_none (by have:=List.getElem?_eq_none_iff.mp z;exact bw 2 1433838391939329 rfl (Nat.le_of_eq hx) this))
  ·exact .inr (Array.getElem?_eq_none (by have:=List.getElem?_eq_none_iff.mp z;exact bw 2 1433838391939329 rfl (Nat.le_of_eq hy) this))
 ·replace p:=z▸p
  clear D hx hy z;induction a using V.casesOn with
  |str k=>
   refine aT (Option.map_eq_some_iff.mp (p)) fun q _ e=>?_
   injection e
  |_=>exact nE p
theorem Sd.cons{k:Str}{v:V}(D:Sd G X xs ys l m i ((k,v)::es)):∃t y,xs[i]? =some (.str k t)∧ys[i]? =some y∧Rp G X y v∧Sd G X xs ys l m (i+1) es:=by
 have p:=D.p
 rcases kL (l:=l) (m:=m) (i:=i)with⟨z,_⟩|⟨a,b,ha,hb,z⟩
 ·rw[z]at p;exact nomatch p
 ·replace p:=z▸p
  clear z;induction a using V.casesOn with
  |str k'=>
   refine aT (Option.map_eq_some_iff.mp (p)) fun q e1 e=>?_
   cases e
   refine D.x.get ha fun x hx rx=>D.y.get hb fun y hy ry=>rx.on (M:=fun x=>xs.toList[i]? =some x→_) (fun t hx=>?_) hx
   rw[Array.getElem?_toList]at hx hy
   exact⟨t,y,hx,hy,ry,D.x,D.y,e1⟩
  |_=>exact nE p
theorem sD(kd:List (Str × V))(k:Str)(v:V):(bn kd k v).length≤kd.length+1:=by
 unfold bn;split
 ·rw[List.length_map];exact Nat.le_succ _
 ·refine eR List.length_append ?_;exact Nat.le_refl _
theorem rK(hh:A.handled=none)(res:Value):∀{es:List (Str × V)}{i:Nat}{hp:Heap}{g d t o}{kvs:List (Str × Value)}{ds:List (Str × V)}{j:Int}{u:Tok},Sd G X xs ys l m i es→ds.length+es.length≤1000000→ZSt N l1 l2 xs ys i hp→hp.DictOf (sk G) (N+5) kvs→RpK G X kvs ds→Kb N h0 hp→
  (∀h' t' kvs',h'.DictOf (sk G) (N+5) kvs'→RpK G X kvs' (es.foldl (fun acc p=>bn acc p.1 p.2) ds)→Kb N h0 h'→R (.ok (.ret res)) ⟨h',g,d,t',o⟩)→codeAny (model G.prog G.w) A (.builtin "dict.update.loop" ⟨[.ref (N+5),.ref (N+4),.int j u,res],[]⟩) R ⟨hp,g,d,t,o⟩:=by
 intro es
 induction es with
 |nil=>
  intro i hp g d t o kvs ds j u D hl V hd hk K q
  refine codeAny_builtin d8 ?_
  refine(Around.under_plainId ce _)▸?_
  refine wpAny_bind (V.next (A:=A.in1) hh (fun x y h' T hx hy=>?_) fun h' e kp=>?_)
  ·rcases D.end with e|e
   ·rw[hx]at e;exact nR e
   ·rw[hy]at e;exact nR e
  ·exact wpAny_pure (q h' t kvs (DictOf.up (fun o=>kp _ o (.inr (Nat.le_refl _))) hd) hk fun b o n e=>kp b o (.inl n) (K b o n e))
 |cons p es ih=>
  intro i hp g d t o kvs ds j u D hl V hd hk K q
  obtain⟨kk,vv⟩:=p
  refine f8 D.cons fun tk yv ex ey ry D'=>?_
  refine codeAny_builtin d8 ?_
  refine(Around.under_plainId ce _)▸?_
  refine wpAny_bind (V.next (A:=A.in1) hh (fun x y h' T hx hy V' P hT kp=>?_) fun h' e kp=>?_)
  ·rw[hx]at ex;injection ex with z1;subst z1
   replace ey:=hy▸ey;clear hh V D hy hx;cases ey
   refine wpAny_bind (wpAny_holding (wpAny_bind (wpAny_tryCatch ?_)))
   unfold Builtin.Dict.pairItems
   refine wpAny_bind (wpAny_typeOf (T:="tuple") (bi _ P rfl) ?_)
   refine eR (if_pos (by decide)) ?_
   refine wpAny_bind (wpAny_seqItems P rfl (wpAny_pure ?_))
   have hl':ds.length+(es.length+1)≤1000000:=hl
   refine wpAny_holding (wpAny_dictSet_pairs (knd:=sk G) (hsz:=by refine eR hk.len ?_;exact Nat.le_trans (Nat.le_trans (Nat.le_add_right _ _) hl) (by decide)) (strKind_is _ _ kk tk) (DictOf.up (fun o=>kp _ o (.inr (Nat.le_refl _))) hd) fun h'' hd' sb=>wpAny_pure ⟨plainId_quiet ce _,?_⟩)
   have up:∀b o,b≠N+5→h'.get? b=some o→h''.get? b=some o:=fun b o n e=>(sb.2 b n).trans e
   have sz:=V'.sz
   exact ih (ds:=bn ds kk vv) D' (bw 2 2292161194051382922088135089693018621175731077121 rfl hl' (sD ds kk vv)) (V'.upd up (by refine eR sb.1 ?_;exact sz)) hd' (hk.stored ry) (fun b o n e=>up b o (Nat.ne_of_lt (Nat.lt_of_lt_of_le n (Nat.le_add_right _ _))) (kp b o (.inl n) (K b o n e))) q
  ·rcases e with e|e
   ·rw[ex]at e;exact nR e
   ·rw[ey]at e;exact nR e
theorem kE{Q:Value→Shared→Prop}{hp:Heap}{g d t o}(hh:A.handled=none)(D:Sd G X xs ys l m 0 es)(hn:es.length≤1000000)(hs:hp.objs.size=N+5)(lt:l1<N∧l2<N)(hz:IsZip hp (N+4) (N+2) (N+3) .none)(ti:IsPair hp (N+2) (.ref N) (.ref (N+1)))(to':IsPair hp (N+3) .none .none)
  (h1:hp.IsListIter N l1 0) (h2:hp.IsListIter (N+1) l2 0) (e1:hp.IsList l1 xs) (e2:hp.IsList l2 ys) (K:Kb N h0 hp)
  (q:∀h' t' kvs,h'.DictOf (sk G) (N+5) kvs→RpK G X kvs (es.foldl (fun acc p=>bn acc p.1 p.2) [])→Kb N h0 h'→Q (.ref (N+5)) ⟨h',g,d,t',o⟩):wpAny (model G.prog G.w) A (call (.type "dict") [.ref (N+4)]) Q E ⟨hp,g,d,t,o⟩:=by
 refine callType_codes (Q₁:=fun obj s₁=>obj=.ref (N+5)∧s₁=⟨hp.push {cls:=.type "dict",data:=.dict #[]},g,d,t,o⟩) F.kt_called_dict (F.kt_typeCall_dict_1 _) F.entry_dict_init (kt_code_dict_new _ ⟨congrArg Value.ref hs,rfl⟩) fun obj s₁ h₁=>?_
 obtain⟨rfl,rfl⟩:=h₁
 have hnew:(hp.push {cls:=.type "dict",data:=.dict #[]}).DictOf (sk G) (N+5) []:=hs▸Heap.DictOf.new hp
 have up:∀b ob,hp.get? b=some ob→(hp.push {cls:=.type "dict",data:=.dict #[]}).get? b=some ob:=fun b ob e=>Heap.get?_push_of_some _ e
 have hz1:=up _ _ hz
 refine fz hnew.typeIs (F.args_dict_init_2 _ _) ?_
 unfold Builtin.«dict.__init__»
 refine wpAny_bind ?_
 unfold Builtin.Dict.selfAndRest
 refine wpAny_bind (wpAny_notOrdered_dict hnew.typeIs ?_)
 refine wpAny_pure ?_
 show wpAny _ _ (Builtin.Dict.updateFrom "dict.__init__" (N+5) (.ref (N+4)) [] .none) _ _ _
 unfold Builtin.Dict.updateFrom
 refine wpAny_bind (wpAny_typeOf (T:="zip") (bi _ hz1 rfl) ?_)
 refine eR (if_pos (by decide)) ?_
 refine wpAny_bind (nW hz1 hh fun h' t' k=>?_)
 have k':dS hp h':=fun b ob e=>k b ob (up b ob e)
 show wpAny _ _ (rule "dict.__init__.from-pairs">>= fun _=>pyIter (.ref (N+4))>>= fun it=>again (.builtin "dict.update.loop" ⟨[.ref (N+5),it,rawInt 0,.none],[]⟩)) _ _ _
 refine wpAny_bind (wpAny_rule (wpAny_bind (wpAny_pyIter_zip (k' _ _ hz) (wpAny_pure ⟨plainId_quiet ce _,?_⟩))))
 refine rK (A:=A.in1) (h0:=h0) (ds:=[]) (kvs:=[]) hh .none D ((Nat.zero_add _).symm▸hn) ⟨lt,.inl ⟨k' _ _ hz,_,_,k' _ _ to'⟩,k' _ _ ti,h1.at fun o=>k' _ o,h2.at fun o=>k' _ o,e1.at fun o=>k' _ o,e2.at fun o=>k' _ o,(show N+5<h'.objs.size from kT hnew fun _ _ _ e _=>Heap.lt_size (k _ _ e))⟩ (DictOf.up (k _) hnew) ⟨rfl,.nil⟩ (fun b ob n e=>k' b ob (K b ob n e)) fun h'' t'' kvs a b c=>?_
 exact⟨rfl,q h'' t'' kvs a b c⟩
end
end Mine
namespace Mine
open PySem PySem.W PyProof.Rows
section
variable {G:Cfg}{F:Frm}{n:Nat}{κ:bf}{ρ:ay}{ts:List Tmp}{σ σ1 σ2:Store}{l m:List V}{s:Shared}{A:Around}{e f:PySem.Expr}{es:List (Str × V)}
theorem nj{g:Value}{pos:Pos}{Q:Value→Shared→Prop}(hk:keeperOf g=pure Keeper.machine)(ho:OkX e)(h:bC G A (eval e F.env) (fun v s'=>G.K.In s'.heap∧bC G A (call g [v]) Q s') s):
  bC G A (callWith pos g [] (backTo pos (starEach [e] F.env)) []) Q s:=by
 refine callWith_of (P:=G.K.In) (by refine eR (fB F.env pos (xs:=[e]) fun x m=>List.mem_singleton.mp m▸ho) ?_;rfl) (jZ hk) ?_
 have key:bC G A (spliced (backTo pos (starEach [e] F.env))) (fun vs s'=>G.K.In s'.heap∧bC G A (call g ([]++vs)) Q s') s:=spliced_more (ad h fun v s' q=>spliced_none q) (ho.star [] F.env)
 rw[ho.star]at key ⊢
 exact Calls.evalArgs_plain key
structure ZNew(hp h:Heap)(a b:Addr):Prop where
 sz:h.objs.size=hp.objs.size+5
 lt:a<hp.objs.size∧b<hp.objs.size
 z:IsZip h (hp.objs.size+4) (hp.objs.size+2) (hp.objs.size+3) .none
 ti:IsPair h (hp.objs.size+2) (.ref hp.objs.size) (.ref (hp.objs.size+1))
 to':IsPair h (hp.objs.size+3) .none .none
 h1:h.IsListIter hp.objs.size a 0
 h2:h.IsListIter (hp.objs.size+1) b 0
 k:dS hp h
theorem nz(K:FOk κ F.env)(Sg:Stat G){p q:Pos}{Q:Value→Shared→Prop}(hg:aX κ ("zip":Str)=true)(ho:OkX e)(ho':OkX f)(h:Ex G F n (eval e F.env) ρ σ (.lst l) σ1)(h':Ex G F n (eval f F.env) ρ σ1 (.lst m) σ2)(R:Room n A)(S:St G F ρ ts σ s)
  (k:∀X O hp g d t o a b vs ws c c' h2,Stw G F ρ ts σ2 ⟨hp,g,d,t,o⟩ X O→X.g.get? a=some (listOf vs c)→X.g.get? b=some (listOf ws c')→RpL G X vs.toList l→RpL G X ws.toList m→ZNew hp h2 a b→Q (.ref (hp.objs.size+4)) ⟨h2,g,d,t,o⟩):
  bC G A (eval (.Call (.Name ("zip":Str) p) [e,f] [] q) F.env) Q s:=by
 refine gj K Sg S hg (f:=.type "zip") (List.mem_of_getElem? (i:=10) rfl) (cq Sg R S (jZ rfl) (fun x m=>(List.mem_cons.mp m).elim (fun q=>q▸ho) fun m=>List.mem_singleton.mp m▸ho') (fun z=>nomatch z) (dr ho h (dr ho' h' eX)) fun us s1 S1=>S1.onel fun X O W r=>r.two fun v u rv ru=>rv.on fun a vs c g r=>ru.on fun b ws c' g' r'=>?_)
 have ga:=W.inv.sub _ _ g
 have gb:=W.inv.sub _ _ g'
 clear K Sg p q hg ho ho' h h' R S S1 v u rv ru;obtain⟨hp,gg,d,t,o⟩:=s1
 exact call_zip_2 (aO ga) (aO gb) fun h2 e1 e2 e3 e4 e5 e6 kp=>k X O hp gg d t o a b vs ws c c' h2 W g g' r r' ⟨e6,⟨Heap.lt_size ga,Heap.lt_size gb⟩,e1,e2,e3,e4,e5,kp⟩
theorem LAcc.rp{X Y:VW}{N i:Nat}{xs ys acc:Array Value}{h:Heap}(L:LAcc N xs ys i acc h)(he:xs[i]? =none∨ys[i]? =none)(r:RpL G X xs.toList l)(r':RpL G X ys.toList m)(le:X.Le Y)(hY:∀b o,N+5≤b→h.get? b=some o→Y.g.get? b=some o):RpL G Y acc.toList (cI l m):=by
 have a:=r.n
 have b:=r'.n
 have c:=L.x
 have d:=L.y
 rw[Array.length_toList]at a b
 refine⟨?_,fun j v dd ev ed=>?_⟩
 ·rw[Array.length_toList,L.n,oD]
  rcases he with he|he<;>have:=Array.getElem?_eq_none_iff.mp he<;>lia
 ·replace ev:=(Array.getElem?_toList)▸ev
  refine zW (L.r j v ev) fun T x y z3 hx hy P hT=>?_;subst z3
  refine hU (nH ed) fun x' y' h1 h2 z4=>?_;subst z4
  exact .tup' (vs:=#[x,y]) ⟨_,hY _ _ (Nat.le_of_lt hT) P,rfl,_,rfl⟩ (.cons ((r.r j x x' (by refine eR (Array.getElem?_toList) ?_;exact hx) h1).up le) (.cons ((r'.r j y y' (by refine eR (Array.getElem?_toList) ?_;exact hy) h2).up le) .nil)) fun k z=>nomatch z
theorem pb(K:FOk κ F.env)(Sg:Stat G){p q q' pos:Pos}(hg:aX κ ("list":Str)=true)(hg2:aX κ ("zip":Str)=true)(ho:OkX e)(ho':OkX f)(hoc:OkX (.Call (.Name ("zip":Str) q) [e,f] [] q'))(h:Ex G F n (eval e F.env) ρ σ (.lst l) σ1)(h':Ex G F n (eval f F.env) ρ σ1 (.lst m) σ2)(hl:l.length≤bq):
  Ex G F n (eval (.Call (.Name ("list":Str) p) [.Call (.Name ("zip":Str) q) [e,f] [] q'] [] pos) F.env) ρ σ (.lst (cI l m)) σ2:=fun A ts s R S=>
 gj K Sg S hg (f:=.type "list") (List.mem_of_getElem? (i:=6) rfl) (nj rfl hoc (nz K Sg hg2 ho ho' h h' R S fun X O hp g d t o a b vs ws c c' h2 W ga gb r r' Z=>by
  have S2:=W.st.grow (h':=h2) (tk:=t) Z.k W.inv.tk
  refine⟨S2.kin Sg,ky (h0:=hp) R.h (by refine eE Array.length_toList ?_;refine eR r.n ?_;exact Nat.le_trans hl (by decide)) Z.sz Z.lt Z.z Z.ti Z.to' Z.h1 Z.h2 (aO (Z.k _ _ (W.inv.sub _ _ ga))) (aO (Z.k _ _ (W.inv.sub _ _ gb))) (fun b o _ e=>Z.k b o e) fun i acc h3 L he kb=>?_⟩
  have k3:dS hp h3:=fun b o e=>kb b o (Heap.lt_size e) e
  refine Exists.elim L.s fun cc hS=>?_
  have⟨W3,le⟩:=W.alloc (h':=h3) (tk:=t) (O':=O) k3 W.inv.tk (fun b=>decide (hp.objs.size+5≤b)) (fun b e=>bp (Nat.le_trans (Nat.le_add_right _ _) (of_decide_eq_true e))) (fun _ _ e=>e) fun a w e q=>by rw[e]at q;exact nR q
  have new:∀b o,hp.objs.size+5≤b→h3.get? b=some o→(X.add h3 fun b=>decide (hp.objs.size+5≤b)).g.get? b=some o:=fun b o n e=>dY (decide_eq_true n) e
  exact W3.res (.lst' (new _ _ (Nat.le_refl _) hS) (L.rp he r r' le new))))
theorem lM:∀{l m:List V}{es:List (Str × V)},dk (cI l m)=some es→es.length≤l.length
 |[],_,_,e=>by refine oE e ?_;exact Nat.le_refl _
 |_::_,[],_,e=>by refine oE e ?_;exact Nat.zero_le _
 |x::l,y::m,es,e=>by
  induction x using V.casesOn with
  |str k=>
   refine aT (Option.map_eq_some_iff.mp (e)) fun q h z2=>?_;subst z2
   exact Nat.succ_le_succ (lM h)
  |_=>exact nE e
theorem pL(K:FOk κ F.env)(Sg:Stat G){p q q' pos:Pos}(hg:aX κ ("dict":Str)=true)(hg2:aX κ ("zip":Str)=true)(ho:OkX e)(ho':OkX f)(hoc:OkX (.Call (.Name ("zip":Str) q) [e,f] [] q'))(h:Ex G F n (eval e F.env) ρ σ (.lst l) σ1)(h':Ex G F n (eval f F.env) ρ σ1 (.lst m) σ2)(hp:dk (cI l m)=some es)(hl:l.length≤bq):
  Ex G F n (eval (.Call (.Name ("dict":Str) p) [.Call (.Name ("zip":Str) q) [e,f] [] q'] [] pos) F.env) ρ σ (.loc σ2.cells.length) (σ2.push (.dict (es.foldl (fun acc p=>bn acc p.1 p.2) []))):=fun A ts s R S=>
 gj K Sg S hg (f:=.type "dict") (List.mem_of_getElem? (i:=7) rfl) (nj rfl hoc (nz K Sg hg2 ho ho' h h' R S fun X O hh g d t o a b vs ws c c' h2 W ga gb r r' Z=>by
  have S2:=W.st.grow (h':=h2) (tk:=t) Z.k W.inv.tk
  refine⟨S2.kin Sg,eA (s:=⟨h2,g,d,t,o⟩) W.inv.tk (kE (h0:=hh) R.h ⟨r,r',hp⟩ (Nat.le_trans (lM hp) hl) Z.sz Z.lt Z.z Z.ti Z.to' Z.h1 Z.h2 (aO (Z.k _ _ (W.inv.sub _ _ ga))) (aO (Z.k _ _ (W.inv.sub _ _ gb))) (fun b o _ e=>Z.k b o e) fun h3 t' kvs hd rk kb ht=>?_)⟩
  exact(St.newcell (W.put1 (P:=fun Y=>RpK G Y kvs (es.foldl (fun acc p=>bn acc p.1 p.2) [])) fun Y le=>rk.up le) (.dict (es.foldl (fun acc p=>bn acc p.1 p.2) [])) (fun b o e=>kb b o (Heap.lt_size e) e) ht (bp (Nat.le_add_right _ _)) fun Y O' t=>bi kvs hd (t.1 Y (.refl Y))).pop2))
end
end Mine
namespace Mine
open PySem PySem.W PyProof.Rows
theorem qD:∀{vs:List Value}{ns:List Int},vs.length=ns.length→(∀(j:Nat)(v:Value),vs[j]? =some v→∃k t,ns[j]? =some k∧v=.int k t)→IntsAre vs ns
 |[],[],_,_=>.nil
 |v::vs,n::ns,e,h=>by
  refine eB (h 0 v rfl) fun k t h1 z3=>?_;subst z3
  refine oR h1 ?_
  exact .cons _ _ (qD (Nat.succ.inj e) fun j v e=>h (j+1) v e)
 |[],_::_,e,_=>nomatch e
 |_::_,[],e,_=>nomatch e
theorem xh{G:Cfg}{X:VW}{vs:List Value}{ns:List Int}(h:IntsAre vs ns):RpL G X vs (ns.map V.ki):=by
 induction h with
 |nil=>exact .nil
 |cons n t _ ih=>exact .cons (.ki _ _) ih
theorem tX{l m:List Int}(p:m.Perm l)(s:m.Pairwise (· ≤·)):m=iT l:=by
 have e:(iT l).Pairwise (· ≤·):=(List.pairwise_mergeSort (le:=fun a b:Int=>decide (a≤b)) (fun a b c h1 h2=>decide_eq_true (Int.le_trans (of_decide_eq_true h1) (of_decide_eq_true h2))) (fun a b=>by rcases Int.le_total a b with h|h<;>simp[h]) l).imp fun h=>of_decide_eq_true h
 exact List.Perm.eq_of_pairwise (fun a b _ _ h1 h2=>Int.le_antisymm h1 h2) s e (p.trans (List.mergeSort_perm l _).symm)
section
variable {G:Cfg}{F:Frm}{n:Nat}{ρ:ay}{ts:List Tmp}{σ σ':Store}{s:Shared}{A:Around}{us:List Value}{vs:List V}{d:V}
theorem oP{prog:Program}{w:World}{E:Value→Shared→Prop}{a:Addr}{kvs:List (Int × Value)}{Q:Value→Shared→Prop}(hh:A.handled=none)(lo:(a==sysModules)=false)(hd:s.heap.DictOf (PySem.intKind prog w) a kvs)(h64:kvs.length<64)
  (q:∀(h':Heap)(t:Nat)(vs':Array Value)(e:Addr × Nat),dS s.heap h'→s.heap.get? e.1=none→h'.get? e.1=some (listOf vs' e.2)→IntsAre vs'.toList (iT (kvs.map (·.1)))→Q (.ref e.1) {s with heap:=h',toks:=t}):wpAny (model prog w) A (call (.builtin "sorted") [.ref a]) Q E s:=by
 refine Exists.elim hd.dictAt fun ep hat=>?_
 refine Calls.call_function_entry kind_sorted plain_sorted entry_sorted (args_sorted1 _) ?_
 unfold Builtin.«sorted»
 refine wpAny_bind (m:=checkCount "sorted" 1 1 _) (wpAny_pure ?_)
 refine wpAny_bind (kdu_collect (A:=A.in1) (kdl_dict (knd:=PySem.intKind prog w) (kvs:=kvs) (ep:=ep) lo) hh hat (kdl_size (Nat.le_trans (Nat.le_of_lt h64) (by decide))) fun h' tk acc hk hacc=>?_)
 have hl:acc.toList.length=kvs.length:=by refine eR Array.length_toList ?_;exact hacc.1
 have hI:IntsAre acc.toList (kvs.map (·.1)):=qD (by rw[hl,List.length_map]) fun j v e=>by
  refine eB (hacc.2 j v (by refine eE (Array.getElem?_toList) ?_;exact e)) fun k x h1 h2=>?_
  refine⟨k,?_⟩
  clear E a Q hh lo hd h64 q ep hat h' tk acc hk hacc hl e;induction v using Value.casesOn with
  |int i t=>exact⟨t,by refine eR (List.getElem?_map) ?_;refine eR h1 ?_;rfl,by rw[show i=k from beq_iff_eq.mp h2]⟩
  |_=>exact absurd h2 Bool.false_ne_true
 refine wpAny_bind (wpAny_newList ?_ (by refine eR hl ?_;exact kdl_size (Nat.le_trans (Nat.le_of_lt h64) (by decide))))
 have hoL:(h'.push (seqObj "list" acc.toList.toArray 0)).get? h'.objs.size=some (seqObj "list" acc.toList.toArray 0):=Heap.get?_push_size _ rfl
 refine wpAny_bind (wpAny_holding (wpAny_call_entry slot_list_sort (bi _ hoL rfl) entry_list_sort (list_sort_tree hoL hI (by refine eR hl ?_;exact h64) fun out ns' a1 a2 a3=>bi _ rfl ?_) (args_list_sort _)))
 obtain⟨e,he⟩:=sortedHeap_at (out:=out) hoL
 refine wpAny_pure (bi _ rfl (q _ tk out (h'.objs.size,e) (fun b o g=>?_) ?_ he (tX a2 a3▸a1)))
 ·have l:=Heap.lt_size (hk b o g)
  refine eR (sortedHeap_old (Nat.ne_of_lt l) (by rw[Heap.size_push];exact Nat.lt_succ_of_lt l)) ?_
  exact Heap.get?_push_of_some _ (hk b o g)
 ·cases g:s.heap.get? h'.objs.size with
  |none=>rfl
  |some o=>exact absurd (Heap.lt_size (hk _ _ g)) (Nat.lt_irrefl _)
theorem r6(h:pP .sorted vs σ=some (d,σ'))(R:Room n A)(S:St G F ρ (vals G us vs::ts) σ s):bC G A (call (.builtin "sorted") us) (kB G F ρ ts σ' d) s:=by
 refine S.onel fun X O W r=>ud (b:=.sorted) (M:=fun b vs d σ'=>b=.sorted→RpL G X us vs→bC G A (call (.builtin "sorted") us) (kB G F ρ ts σ' d) s) h (fun _ _ _ _ e=>nomatch e) (fun _ _ e=>nomatch e) (fun _ e=>nomatch e) (fun _ e=>nomatch e) (fun es he _ r=>?_) (fun _ _ e=>nomatch e) (fun _ _ e=>nomatch e) rfl r
 refine r.one fun v rv=>rv.on fun a kvs hd lo rk=>?_
 refine eA W.inv.tk (oP R.h lo (DictOf.up (W.inv.sub _) hd) (by refine eR rk.len ?_;exact he) fun h' t vs' e k ne g I ht=>?_)
 have⟨W3,le⟩:=W.alloc (h':=h') (tk:=t) (O':=O) k ht (fun b=>b==e.1) (fun b q=>beq_iff_eq.mp q▸ne) (fun _ _ e=>e) fun a w e q=>by rw[e]at q;exact nR q
 rw[rk.k]at I
 exact W3.res (.lst' (dY (beq_self_eq_true _) g) (xh I))
end
end Mine
namespace Mine
open PySem PySem.W PyProof.Rows
theorem uu{y:Str}(h:rN.all (fun s=> !(s==y))=true)(h2:y.cps[0]?≠some 1)(i:Nat):(nm i==y)=false:=by
 unfold nm
 by_cases hi:i<rN.length
 ·refine eR (List.getElem?_eq_getElem hi) ?_
  have:=List.all_eq_true.mp h _ (List.getElem_mem hi)
  rwa [Bool.not_eq_true']at this
 ·rw[List.getElem?_eq_none (Nat.le_of_not_lt hi),beq_eq_false_iff_ne]
  intro e
  have:=congrArg (fun s=>s.cps[0]?) (show(⟨Array.replicate (i+1) 1⟩:Str)=y from e)
  rw[Array.getElem?_replicate,if_pos (Nat.succ_pos _)]at this
  exact h2 this.symm
theorem mB(i:Nat):(nm i==(".0":Str))=false:=uu (by decide+kernel) (by decide+kernel) i
noncomputable abbrev pT(wo d:Nat):Scope:={kind:=.function,names:=[((".0":Str),.local),(nm wo,.cell),(nm d,.free)],isGenerator:=false,isCoroutine:=false}
section
variable {G:Cfg}{F:Frm}{n:Nat}{κ:bf}{ρ:ay}{ts:List Tmp}{σ σ1 σ2:Store}{s:Shared}{A:Around}{wo d:Nat}
theorem Bc{α:Type}{p:Prop}[Decidable p]{a b:Option α}{c:α}{Z:Prop}(h:(if p then a else b)=some c)(k:p→a=some c→Z)(k':¬p→b=some c→Z):Z:=by
 split at h
 ·exact k (by assumption) h
 ·exact k' (by assumption) h
theorem nC{M:Model}{E:Value→Shared→Prop}{env:Env}{g:Addr}{cl:List (Str × Addr)}{q:Str}{Q:Env→Shared→Prop}(sc:Scope)(x y:Str)(hs:sc.names=[((".0":Str),.local),(x,.cell),(y,.free)])
  (h:Q {scope:=sc,locals:=s.heap.objs.size,globals:=g,cells:=(x,(s.heap.push {cls:=.type "dict",data:=.dict #[]}).objs.size)::cl,qual:=q,func:=none,code:=env.code,frame:=env.frame,builtins:=env.builtins} {s with heap:=(s.heap.push {cls:=.type "dict",data:=.dict #[]}).push {cls:=.type "cell",data:=.cell none}}):
  wpAny M A (newFunctionEnv sc g cl [] q none .none (some env)) Q E s:=by
 unfold newFunctionEnv
 refine wpAny_bind (wpAny_alloc ?_)
 refine eR hs ?_
 simp only [List.forIn_cons,List.forIn_nil]
 refine wpAny_bind (wpAny_bind (wpAny_pure (wpAny_bind (wpAny_bind (wpAny_alloc (wpAny_pure (wpAny_bind (wpAny_pure (wpAny_pure ?_)))))))))
 exact wpAny_bind (wpAny_pure (wpAny_pure h))
theorem BN:(pT wo d).names.lookup (".0":Str)=some .local:=by rw[List.lookup_cons,beq_self_eq_true]
theorem zY:(pT wo d).names.lookup (nm wo)=some .cell:=by rw[List.lookup_cons,mB,List.lookup_cons,beq_self_eq_true]
theorem zE(h:nm wo≠nm d):(pT wo d).names.lookup (nm d)=some .free:=by rw[List.lookup_cons,mB,List.lookup_cons,beq_eq_false_iff_ne.mpr (Ne.symm h),List.lookup_cons,beq_self_eq_true]
theorem qr{y:Str}{k:NameKind}(h:(pT wo d).names.lookup y=some k):(y=".0"∧k=.local)∨(y=nm wo∧k=.cell)∨(y=nm d∧k=.free):=by
 rcases List.mem_cons.mp (bN h)with q|m
 ·refine qE q ?_;exact .inl ⟨rfl,rfl⟩
 ·rcases List.mem_cons.mp m with q|m
  ·refine qE q ?_;exact .inr (.inl ⟨rfl,rfl⟩)
  ·refine qE (List.mem_singleton.mp m) ?_;exact .inr (.inr ⟨rfl,rfl⟩)
theorem sr(Sg:Stat G)(K:FOk κ F.env){elt y iter:PySem.Expr}{ifs:List PySem.Expr}{pos:Pos}{l r:List V}{f:V→Store→Option (List V × Store)}(hd:κ.lookup (nm d)=some .cell)(hne:wo≠d)
  (he:∀(env:Env) hk hg' hb X O O' ts s,Stw G F ρ ts σ1 s X O→FOk (pT wo d).names env→jr G n ⟨env,[wo],X,O',hk,hg',hb⟩ elt ifs [wo] (bo ρ [d]) f) (hlim:l.length≤bq) (ho:OkX iter) (hi:mY G F n iter (eP nm [wo] y) ρ σ l σ1) (h:compLoop f l σ1=some (r,σ2)):
  Ex G F n (eval (.ListComp elt [⟨eP nm [wo] y,iter,ifs,0⟩] (pT wo d) pos) F.env) ρ σ (.lst r) σ2:=by
 intro A ts s R S
 have nw:nm wo≠nm d:=fun z=>hne (Sg.nm _ _ z)
 refine cB (K.c _ (.inl hd)) fun kd cd=>?_
 rw[eval_ListComp]
 refine wpAny_comprehension_free (g:=⟨eP nm [wo] y,iter,ifs,0⟩) (gs:=[]) rfl (ho.fold F.env) (qG (sc:=pT wo d) fun x m e=>?_) rfl (fun x m e=>?_) ?_
 ·rcases List.mem_cons.mp m with q|m
  ·rw[q]at e;injection e
  ·rcases List.mem_cons.mp m with q|m
   ·rw[q]at e;injection e
   ·refine eR (List.mem_singleton.mp m) ?_;exact cd
 ·rcases List.mem_cons.mp m with q|m
  ·refine eR q ?_;exact BN
  ·rcases List.mem_cons.mp m with q|m
   ·rw[q]at e;injection e
   ·rw[List.mem_singleton.mp m]at e;injection e
 refine ad (hi A ts s R S) fun xv s1 h1=>ad h1 fun it s2 I=>?_
 obtain⟨T,q0,S2⟩:=I
 refine wpAny_newList (nC (pT wo d) (nm wo) (nm d) rfl ?_)
 have e3:(s2.heap.push {cls:=.type "list",dict:=none,data:=.seq ([]:List Value).toArray}).objs.size=s2.heap.objs.size+1:=Heap.size_push ..
 have e4:((s2.heap.push {cls:=.type "list",dict:=none,data:=.seq ([]:List Value).toArray}).push {cls:=.type "dict",data:=.dict #[]}).objs.size=s2.heap.objs.size+2:=(Heap.size_push ..).trans (congrArg (· +1) e3)
 have hD:=bc (s2.heap.push {cls:=.type "list",dict:=none,data:=.seq ([]:List Value).toArray}) {cls:=.type "dict",data:=.dict #[]}
 have hC:=Heap.Ns.new (s2.heap.push {cls:=.type "list",dict:=none,data:=.seq ([]:List Value).toArray}) (.type "dict")
 have hQ:=bc ((s2.heap.push {cls:=.type "list",dict:=none,data:=.seq ([]:List Value).toArray}).push {cls:=.type "dict",data:=.dict #[]}) {cls:=.type "cell",data:=.cell none}
 have hX:=Heap.get?_push_size ((s2.heap.push {cls:=.type "list",dict:=none,data:=.seq ([]:List Value).toArray}).push {cls:=.type "dict",data:=.dict #[]}) (o:={cls:=.type "cell",data:=.cell none}) rfl
 dsimp only
 rw[e3]at hC
 rw[e4]at hX
 refine eR e3 ?_;refine eR e4 ?_
 have nE:∀k,s2.heap.objs.size<k→s2.heap.get? k=none∧k∉s2.heap.objs.size::_:=fun k hk=>⟨bp (Nat.le_of_lt hk),fun m=>(List.mem_cons.mp m).elim (fun q=>absurd hk (by refine eR q ?_;exact Nat.lt_irrefl _)) fun m=>by
  obtain⟨o,e⟩:=S2.on fun X O W=>(aT (W.tm.1 _ m) fun o _ w=>⟨o,(W.inv.own _ _ w).2⟩:∃o,s2.heap.get? k=some o)
  rw[bp (Nat.le_of_lt hk)]at e;exact nE e⟩
 let env:Env:=compEnvC (pT wo d) ((nm wo,s2.heap.objs.size+2)::fO F.env (pT wo d).names []) (s2.heap.objs.size+1) F.env
 have kn:∀y,env.kindOf y=((pT wo d).names.lookup y).map fun k=>if(k==NameKind.free&&F.env.scope.kind== .function&&F.env.kindOf y==some .cell)then NameKind.cell else k:=fun y=>iM (pT wo d).names
 have c1:env.cells.lookup (nm wo)=some (s2.heap.objs.size+2):=by show List.lookup _ (_::_)=_;rw[List.lookup_cons,beq_self_eq_true]
 have c2:env.cells.lookup (nm d)=some ((F.env.cells.lookup (nm d)).getD 0):=by
  show List.lookup _ (_::_)=_
  refine eR List.lookup_cons ?_;refine eR (beq_eq_false_iff_ne.mpr (Ne.symm nw)) ?_
  exact jx (acc:=[]) (fun a e=>nomatch e) (.inl (bN (zE nw)))
 have k1:env.kindOf (nm wo)=some .cell:=by rw[kn,zY];rfl
 have k2:env.kindOf (nm d)=some .cell∨env.kindOf (nm d)=some .free:=by
  rw[kn,zE nw,Option.map_some]
  split
  ·exact .inl rfl
  ·exact .inr rfl
 have KK:FOk (pT wo d).names env:=by
  refine⟨fun y h=>?_,fun y h=>?_,fun y h=>?_⟩
  ·rcases qr h with⟨_,z⟩|⟨_,z⟩|⟨_,z⟩<;>injection z
  ·rcases h with h|h<;>rcases qr h with⟨_,z⟩|⟨e,z⟩|⟨e,z⟩<;>first|(injection z;done)|(subst e;exact⟨.inl k1,by refine eR c1 ?_;rfl⟩)|(subst e;exact⟨k2,by refine eR c2 ?_;rfl⟩)
  ·rw[kn,h];rfl
 refine qZ (E0:=fun a=>if a=s2.heap.objs.size+1 then some ⟨.fr,.ns fun _=>none⟩else if a=s2.heap.objs.size+2 then some ⟨.cl wo,.cell none⟩else none) (tk:=s2.toks) Sg (cs:=[wo]) (env:=env) (tg:=[wo]) (fv:=[d]) rfl F.glob F.blt (fun X O ts s W=>he env _ _ _ X O _ ts s W KK) (fun x m=>⟨fun z=>hne ((List.mem_singleton.mp m).symm.trans (List.mem_singleton.mp z)),.inr m⟩) hlim T q0 S2 h R
  ((bc _ _).trans (hD.trans hQ)) S2.tk (hQ _ _ (hD _ _ (Heap.get?_push_size _ rfl))) ⟨fun a w e=>Bc e (fun q e=>?_) fun _ e=>bv e fun q e=>?_,⟨_,if_pos rfl⟩,fun x m=>?_,fun x m=>?_⟩ fun hC s' _ ⟨m,ns⟩ S'=>bi m ns (fun h' hs=>(S'.sub fun X O t=>⟨t.2.1,t.1,t.2.2⟩:St G F ρ (.raw [env.locals] hC::val G (.ref _) (.lst r)::ts) σ2 s').drop S'.tk fun b o nb e=>hs.extBut b o (fun q=>nb (List.mem_singleton.mpr q)) e)
 ·refine oE e ?_;subst q
  have r:=nE _ (Nat.lt_succ_self _)
  exact p6 r.1 r.2 rfl (fun _ _=>hC.keeps hQ)
 ·refine oE e ?_;subst q
  have r:=nE (s2.heap.objs.size+2) (Nat.lt_succ_of_lt (Nat.lt_succ_self _))
  exact p6 r.1 r.2 rfl (fun _ _=>⟨_,hX,rfl⟩)
 ·refine eR (List.mem_singleton.mp m) ?_
  exact gc _ _ c1 ((if_neg (Nat.succ_ne_self _)).trans (if_pos rfl)) k1
 ·refine eR (List.mem_singleton.mp m) ?_
  exact⟨k2,fun c e=>by refine eR c2 ?_;refine eR e ?_;rfl,kd⟩
end
end Mine
namespace Mine
open PySem PySem.W PyProof.Rows
set_option backward.match.sparseCases true
theorem uf:entryFor table "proto.is"=some Builtin.«proto.is»:=entryFor_of_fast (by kernel_rfl)
noncomputable def pi:Value × Value→Option Bool × Unit→Sem (ForInStep (Option Bool × Unit)):=fun(p,q) _=>do
 match←runValue (.builtin "proto.is" ⟨[p,q],[]⟩)with
 |.bool true=>
  let w:=(←ask).params
  if !(joinedAsOfOld w p q)then pure (.done (some false,()))
  else if !(←emptiesJoinedAsOfOld w p q)then pure (.done (some false,()))else pure (.yield (none,()))
 |_=>pure (.done (some false,()))
section
variable {G:Cfg}{X Y:VW}{α β:Type}
def BU(G:Cfg)(X:VW)(t:Sem α)(r:α):Prop:=∀A s,dS X.g s.heap→NoneBooked s.heap→∀(Q:α→Shared→Prop) E,Q r s→wpAny (model G.prog G.w) A t Q E s
def Dt(G:Cfg)(X:VW)(t:Sem α):Prop:=∃r,BU G X t r
theorem Dt.pure(a:α):Dt G X (Pure.pure a):=⟨a,fun _ _ _ _ _ _ q=>wpAny_pure q⟩
theorem Dt.bind{t:Sem α}{f:α→Sem β}(h:Dt G X t)(k:∀a,Dt G X (f a)):Dt G X (t>>= f):=
 Exists.elim h fun a h=>Exists.elim (k a) fun b h'=>⟨b,fun A s l n Q E q=>wpAny_bind (h A s l n _ E (h' A s l n Q E q))⟩
theorem Dt.ite{p:Prop}[Decidable p]{a b:Sem α}(h:p→Dt G X a)(k:¬p→Dt G X b):Dt G X (if p then a else b):=by
 split
 ·exact h (by assumption)
 ·exact k (by assumption)
theorem Dt.rule(x:String):Dt G X (rule x):=⟨(),fun _ _ _ _ _ _ q=>wpAny_rule q⟩
theorem Dt.ask:Dt G X ask:=⟨_,fun _ _ _ _ _ _ q=>wpAny_askSetting q⟩
theorem Dt.told{t:Tok}{f:Bool→Sem α}(h:Dt G X (f false)):Dt G X (sharingNotTold t>>= f):=
 Exists.elim h fun a h=>⟨a,fun A s l n Q E q=>wpAny_bind (wpAny_sharingNotTold_none n (h A s l n Q E q))⟩
theorem Dt.load{a:Addr}{o:Obj}{f:Obj→Sem α}(e:X.g.get? a=some o)(h:Dt G X (f o)):Dt G X (load a>>= f):=
 let⟨b,h⟩:=h;⟨b,fun A s l n Q E q=>wpAny_bind (wpAny_load (l _ _ e) (h A s l n Q E q))⟩
theorem Dt.hold{vs:List Value}{t:Sem α}(h:Dt G X t):Dt G X (holding vs t):=Exists.elim h fun a h=>⟨a,fun A s l n Q E q=>wpAny_holding (h A s l n Q E q)⟩
theorem Dt.rv{p q:Value}(h:Dt G X (isSame p q)):Dt G X (runValue (.builtin "proto.is" ⟨[p,q],[]⟩)):=
 Exists.elim h fun b h=>⟨.bool b,fun A s l n Q E q=>wpAny_runValue (codeAny_builtin uf (wpAny_bind (h _ s l n _ _ (wpAny_pure q))))⟩
theorem Dt.created(e:Bool){t u:Tok}(ht:0<t)(hu:0<u):Dt G X (isSame.created e t u):=by
 unfold isSame.created
 refine .ite (fun h=>absurd h ?_) fun _=>.ite (fun _=>.pure _) fun _=>.ite (fun _=>.pure _) fun _=>.told ?_
 ·refine eR (beq_eq_false_iff_ne.mpr (Nat.pos_iff_ne_zero.mp ht)) ?_;refine eR (beq_eq_false_iff_ne.mpr (Nat.pos_iff_ne_zero.mp hu)) ?_;exact Bool.false_ne_true
 refine .ite (fun h=>absurd h Bool.false_ne_true) fun _=>.told (.ite (fun h=>absurd h Bool.false_ne_true) fun _=>.bind (.rule _) fun _=>.bind .ask fun _=>.pure _)
inductive Itm (X:VW):Value→Prop
 |str (s:Str) {t:Tok} (h:0<t):Itm X (.str s t)
 |int (i:Int) {t:Tok} (h:0<t):Itm X (.int i t)
 |lst {a:Addr} {vs:Array Value} {n:Nat} (h:X.g.get? a=some (listOf vs n)):Itm X (.ref a)
theorem Itm.same{p q:Value}(h:Itm X p)(k:Itm X q):Dt G X (isSame p q)∧∀w,Dt G X (emptiesJoinedAsOfOld w p q):=by
 cases h with
 |str s ht=>cases k with
  |str s hu=>exact⟨.created _ ht hu,fun _=>.pure _⟩
  |_=>exact⟨.pure _,fun _=>.pure _⟩
 |int i ht=>cases k with
  |int j hu=>exact⟨.ite (fun _=>.ite (fun h=>absurd h (by
    refine eR (beq_eq_false_iff_ne.mpr (Nat.pos_iff_ne_zero.mp ht)) ?_;refine eR (beq_eq_false_iff_ne.mpr (Nat.pos_iff_ne_zero.mp hu)) ?_;exact Bool.false_ne_true)) fun _=>.bind (.rule _) fun _=>.pure _) fun _=>.created _ ht hu,fun _=>.pure _⟩
  |_=>exact⟨.pure _,fun _=>.pure _⟩
 |lst g=>cases k with
  |lst g'=>exact⟨.ite (fun _=>.pure _) fun _=>.load g (.load g' (.pure _)),fun _=>.ite (fun _=>.pure _) fun _=>.load g (.load g' (.pure _))⟩
  |_=>exact⟨.pure _,fun _=>.pure _⟩
theorem Dt.step{p q:Value}{i:Option Bool × Unit}(h:Itm X p)(k:Itm X q):Dt G X (pi (p,q) i):=by
 refine .bind (.rv (h.same k).1) fun v=>?_
 induction v using Value.casesOn with
 |bool b=>induction b using Bool.casesOn with
  |true=>exact .bind .ask fun w=>.ite (fun _=>.pure _) fun _=>.bind ((h.same k).2 _) fun b=>.ite (fun _=>.pure _) fun _=>.pure _
  |false=>exact .pure _
 |_=>exact .pure _
theorem Dt.all:∀{zs:List (Value × Value)}{i:Option Bool × Unit},(∀z∈zs,Itm X z.1∧Itm X z.2)→Dt G X (forIn zs i pi)
 |[],i,_=>by refine eR List.forIn_nil ?_;exact .pure _
 |(p,q)::zs,i,h=>by
  rw[List.forIn_cons]
  refine .bind (.step (h _ List.mem_cons_self).1 (h _ List.mem_cons_self).2) fun r=>?_
  induction r using ForInStep.casesOn with
  |done b=>exact .pure _
  |yield b=>exact .all fun z m=>h z (List.mem_cons_of_mem _ m)
theorem Dt.tup{a b:Addr}{xs ys:Array Value}(h:IsTup X.g a xs)(k:IsTup X.g b ys)(hx:∀v∈xs.toList,Itm X v)(hy:∀v∈ys.toList,Itm X v):Dt G X (isSame (.ref a) (.ref b)):=by
 obtain⟨⟨c1,d1,t1,s1⟩,g1,q1,n1,e1⟩:=h
 obtain⟨⟨c2,d2,t2,s2⟩,g2,q2,n2,e2⟩:=k
 subst q1;subst q2;subst e1;subst e2
 refine .ite (fun _=>.pure _) fun _=>.load g1 (.load g2 ?_)
 refine .ite (fun _=>.bind (.rule _) fun _=>.pure _) fun _=>.bind .ask fun w=>.ite (fun _=>.pure _) fun _=>.ite (fun _=>.pure _) fun _=>.bind (.hold ?_) fun b=>.ite (fun _=>.bind (.rule _) fun _=>.pure _) fun _=>.pure _
 have e:sameItems xs ys=(if xs.size !=ys.size then Pure.pure false else forIn (xs.toList.zip ys.toList) (none,()) pi>>= fun r=>match r.1 with|some b=>Pure.pure b|none=>Pure.pure true):=by
  unfold sameItems
  congr 1
  congr 1
  congr 1
  funext z
  obtain⟨_|b,_⟩:=z<;>rfl
 refine eR e ?_
 refine .ite (fun _=>.pure _) fun _=>.bind (.all fun z m=>⟨hx _ (List.of_mem_zip m).1,hy _ (List.of_mem_zip m).2⟩) fun r=>?_
 obtain⟨_|b,_⟩:=r
 ·exact .pure _
 ·exact .pure _
structure Wv(X:VW)(d:V)(a:Addr):Prop where
 k:∃k,zU d=some k∧X.mi k=some a
 t:∃vs,IsTup X.g a vs∧∀v∈vs.toList,Itm X v
theorem RpL.itm{vs:List Value}{l:List V}(r:RpL G X vs l)(h:∀c∈l,∀v,Rp G X v c→Itm X v):∀v∈vs,Itm X v:=fun v m=>by
 obtain⟨i,hi,e⟩:=List.mem_iff_getElem.mp m
 have hl:i<l.length:=r.n▸hi
 exact h _ (List.getElem_mem hl) v (r.r i v l[i] (by rw[List.getElem?_eq_getElem hi,e]) (List.getElem?_eq_getElem hl))
theorem yW{c:V}(h:itm c=true)(v:Value)(r:Rp G X v c):Itm X v:=by
 induction c using V.casesOn with
 |str s=>exact r.onp fun t h=>.str s h
 |int s=>exact r.onpi fun t h=>.int s h
 |lst l=>exact r.on fun a vs n g _=>.lst g
 |_=>exact bE h
theorem qQ{d:V}{v:Value}(h:eW d=true)(r:Rp G X v d):∃a,v=.ref a∧Wv X d a:=by
 induction d using V.casesOn with
 |tup i l=>induction i using Option.casesOn with
  |none=>exact bE h
  |some k=>exact r.on fun a vs h1 h2 h3=>⟨a,rfl,(bi k rfl (h3 k rfl)),vs,h1,h2.itm fun c m=>yW (List.all_eq_true.mp h c m)⟩
 |_=>exact bE h
def Sm(G:Cfg)(X:VW)(w x:V):Prop:=∃a b,Wv X x a∧Wv X w b∧BU G X (isSame (.ref a) (.ref b)) true
open Classical in
noncomputable def sV(G:Cfg)(X:VW)(w x:V):List V:=if Sm G X w x then[.int 1]else[]
open Classical in
noncomputable def wy(G:Cfg)(X:VW)(ds:List V)(w x:V)(σ:Store):Option (List V × Store):=if x∈ds then some (sV G X w x,σ)else none
theorem nL{ds:List V}{w:V}{σ:Store}:∀{l:List V},(∀x∈l,x∈ds)→compLoop (wy G X ds w) l σ=some (l.flatMap (sV G X w),σ)
 |[],_=>rfl
 |x::l,h=>by
  show(wy G X ds w x σ).bind (fun(ys,σ1)=>(compLoop (wy G X ds w) l σ1).bind fun(zs,σ2)=>some (ys++zs,σ2))=_
  refine eR (show wy G X ds w x σ=some (sV G X w x,σ)from if_pos (h x List.mem_cons_self)) ?_
  show(compLoop (wy G X ds w) l σ).bind _=_
  refine eR (nL fun y m=>h y (List.mem_cons_of_mem _ m)) ?_
  rfl
theorem Wv.fn{d e:V}{a b:Addr}(h:Wv X d a)(k:Wv X e b)(le:X.Le Y)(q:zU d=zU e):a=b:=by
 refine aT h.k fun i e1 m1=>?_
 refine aT k.k fun j e2 m2=>?_
 rw[e1,e2]at q;clear d e h k le e1 e2;injection q with z1;subst z1
 rw[m1]at m2;exact Option.some.inj m2
theorem Wv.up{d:V}{a b:Addr}(h:Wv X d a)(k:Wv Y d b)(le:X.Le Y):b=a:=by
 refine aT h.k fun i e1 m1=>?_
 refine aT k.k fun j e2 m2=>?_
 rw[e1]at e2;injection e2 with z1;subst z1
 rw[le.mi _ _ m1]at m2;exact(Option.some.inj m2).symm
theorem zv{w x:V}{u v:Value}{a b:Addr}(hx:Wv X x a)(hw:Wv X w b):∃r:Bool,BU G X (isSame (.ref a) (.ref b)) r∧(if r=true then sV G X w x=[.int 1]else sV G X w x=[]):=by
 refine aT hx.t fun vs t1 i1=>?_
 refine aT hw.t fun us t2 i2=>?_
 refine Exists.elim (Dt.tup t1 t2 i1 i2 (G:=G)) fun r D=>?_
 by_cases q:Sm G X w x
 ·refine hU q fun a' b' h1 h2 D'=>?_
  rw[h1.fn hx (.refl X) rfl,h2.fn hw (.refl X) rfl]at D'
  exact bi true D' (if_pos ⟨a,b,hx,hw,D'⟩:sV G X w x=_)
 ·induction r using Bool.casesOn with
  |true=>exact absurd (gc a b hx hw D) q
  |false=>exact bi false D (if_neg q:sV G X w x=_)
end
set_option backward.match.sparseCases false
end Mine
namespace Mine
open PySem PySem.W PyProof.Rows
section
variable {G:Cfg}{F:Frm}{n:Nat}{κ:bf}{ρ:ay}{ts:List Tmp}{σ:Store}{s:Shared}{A:Around}{l d wo one:Nat}{X:VW}
theorem p7(i:Nat):(nm i !=("__debug__":Str))=true:=by
 show(!(nm i==("__debug__":Str)))=true
 refine eR (uu (by decide+kernel) (by decide+kernel) i) ?_;rfl
theorem j9{x:Str}{p:Pos}:OkX (.Name x p):=⟨fun _ _=>rfl,fun _=>rfl,fun _ _=>rfl,fun _ _=>rfl⟩
noncomputable abbrev za(wo one:Nat):Scope:={kind:=.function,names:=[((".0":Str),.local),(nm one,.local),(nm wo,.free)],isGenerator:=false,isCoroutine:=false}
theorem zu(h:nm one≠nm wo):(za wo one).names.lookup (nm one)=some .local:=by rw[List.lookup_cons,mB,List.lookup_cons,beq_self_eq_true]
theorem zg(h:nm one≠nm wo):(za wo one).names.lookup (nm wo)=some .free:=by rw[List.lookup_cons,mB,List.lookup_cons,beq_eq_false_iff_ne.mpr (Ne.symm h),List.lookup_cons,beq_self_eq_true]
theorem yX(h:nm one≠nm wo):ScOk (pT wo d).names (za wo one) [one] [wo]:=by
 have mem:∀x∈(za wo one).names,x=((".0":Str),.local)∨x=(nm one,.local)∨x=(nm wo,.free):=fun x m=>(List.mem_cons.mp m).imp id fun m=>(List.mem_cons.mp m).imp id List.mem_singleton.mp
 refine⟨rfl,fun x m=>?_,fun x m=>?_,fun i m=>by refine eR (List.mem_singleton.mp m) ?_;exact zu h,fun i m=>by refine eR (List.mem_singleton.mp m) ?_;exact zg h,fun x m e=>?_⟩
 ·rcases mem x m with rfl|rfl|rfl
  ·exact .inl rfl
  ·exact .inl rfl
  ·exact .inr (.inl rfl)
 ·rcases mem x m with rfl|rfl|rfl
  ·rw[List.lookup_cons,beq_self_eq_true]
  ·exact zu h
  ·exact zg h
 ·rcases mem x m with rfl|rfl|rfl
  ·injection e
  ·injection e
  ·exact .inl zY
theorem oA{x:Nat}{d:V}(h:ρ x=some (.v d)):bo ρ [x] x=some (.v d):=by
 unfold bo
 rw[if_pos (by rw[List.contains_cons,beq_self_eq_true];rfl),h]
theorem vL{x y:Nat}{sl:Slot}(h:x≠y):ρ.set y sl x=ρ x:=if_neg h
theorem vQ{x:Nat}{sl:Slot}:ρ.set x sl x=some sl:=if_pos rfl
open Classical in
noncomputable def nI(tl:List V)(w:V)(σ:Store):Option (List V × Store):=if w∈tl then some ([],σ)else none
theorem kQ{tl:List V}{σ:Store}:∀{l:List V},(∀x∈l,x∈tl)→compLoop (nI tl) l σ=some ([],σ)
 |[],_=>rfl
 |x::l,h=>by
  show(nI tl x σ).bind (fun(ys,σ1)=>(compLoop (nI tl) l σ1).bind fun(zs,σ2)=>some (ys++zs,σ2))=_
  refine eR (show nI tl x σ=some ([],σ)from if_pos (h x List.mem_cons_self)) ?_
  show(compLoop (nI tl) l σ).bind _=_
  refine eR (kQ fun y m=>h y (List.mem_cons_of_mem _ m)) ?_
  rfl
theorem RpL.mem{vs:List Value}{l:List V}(r:RpL G X vs l){c:V}(m:c∈l):∃v,Rp G X v c:=by
 obtain⟨i,hi,e⟩:=List.mem_iff_getElem.mp m
 have hv:i<vs.length:=r.n▸hi
 exact⟨vs[i],r.r i _ c (List.getElem?_eq_getElem hv) (by rw[List.getElem?_eq_getElem hi,e])⟩
theorem Rp.mem{v:Value}{l:List V}(r:Rp G X v (.lst l)){c:V}(m:c∈l):∃v,Rp G X v c:=r.on fun _ _ _ _ r=>r.mem m
theorem wv{ds r:List V}{w x:V}{σ σ':Store}(h:wy G X ds w x σ=some (r,σ')):x∈ds∧r=sV G X w x∧σ'=σ:=by
 unfold wy at h
 split at h
 ·refine pR h ?_;exact fz (by assumption) rfl rfl
 ·exact nE h
theorem uI{tl r:List V}{w:V}{σ σ':Store}(h:nI tl w σ=some (r,σ')):w∈tl∧r=[]∧σ'=σ:=by
 unfold nI at h
 split at h
 ·refine pR h ?_;exact fz (by assumption) rfl rfl
 ·exact nE h
theorem zy(Sg:Stat G){F0:Frm}{w:V}{dl:List V}(hn:one≠wo)(hf:∀x∈dl,∃a,Wv F0.X x a)(hw:∃a,Wv F0.X w a)(vl:∀x∈dl,eW x=true)(vw:eW w=true)(hρ:ρ wo=some (.v w)){ck:Nat}{p1 p2 p3 p4:Pos}{C:Addr}{X':VW}{O':OM}(le':F0.X.Le X'):
  jr G n (cF F0 (za wo one) rfl C X' O') (.Constant (.int 1) ck p1) [.Compare (.Name (nm one) p2) [.Is] [.Name (nm wo) p3] p4] [one] (bo ρ [wo]) (wy G F0.X dl w):=by
 intro x σ r σ' h
 refine o6 (wv h) fun hx z1 z2=>?_;subst z1;subst z2
 refine bi _ rfl (fun A ts s R S=>mR ?_)
 have nn:nm one≠nm wo:=fun z=>hn (Sg.nm _ _ z)
 have v1:bu (za wo one).names (nm one)=true:=by unfold bu;rw[p7,zu nn];rfl
 have v2:bu (za wo one).names (nm wo)=true:=by unfold bu;rw[p7,zg nn];rfl
 refine wpAny_isTrue_Compare1 (ad (jS Sg vQ v1 A ts s R S) fun va s1 S1=>ad (jS Sg ((vL (Ne.symm hn)).trans (oA hρ)) v2 A _ s1 R S1) fun vb s2 S2=>?_) (j9.mark _)
 refine S2.two fun X1 O1 W ra rb=>?_
 refine aT (qQ (vl x hx) ra) fun a ea wa=>?_
 refine aT (qQ vw rb) fun b eb wb=>?_
 clear hn vl vw hρ p2 p3 p4 h s R S nn v1 v2 s1 S1 S2 ra rb;subst ea;subst eb
 obtain⟨a0,wa0⟩:=hf x hx
 obtain⟨b0,wb0⟩:=hw
 have rH:F0.X.Le X1:=le'.trans W.le
 refine(wa0.up wa rH)▸(wb0.up wb rH)▸?_
 refine aT (zv (G:=G) (u:=.none) (v:=.none) wa0 wb0) fun b D q=>?_
 refine wpAny_bind (D A s2 (rH.g.trans W.inv.sub) (show NoneBooked s2.heap from aT Sg.nb fun mc e z=>⟨mc,Ns.x0 e W.st,z⟩) _ _ (wpAny_pure (wpAny_truthy_bool ?_)))
 induction b using Bool.casesOn with
 |true=>exact(if_pos rfl).mpr (gc _ _ ((if_pos rfl).mp q) W.st tt)
 |false=>exact(if_neg Bool.false_ne_true).mpr ⟨(if_neg Bool.false_ne_true).mp q,W.st⟩
theorem u4(Sg:Stat G){x:PySem.Expr}{tl dl:List V}(K:FOk κ F.env)(ok:dD κ (.stray l d wo one) x=true)(h1:ρ l=some (.v (.lst tl)))(h2:ρ d=some (.v (.lst dl)))(q:i7 tl dl=true):ExB G F n (bD (.stray l d wo one) x) ρ σ (.bool false) σ:=by
 have hd:κ.lookup (nm d)=some .cell:=beq_iff_eq.mp (ae ok).2
 have hdw:d≠wo:=bne_iff_ne.mp (ae (ae ok).1).2
 have how:one≠wo:=bne_iff_ne.mp (ae (ae (ae ok).1).1).2
 have hl:bu κ (nm l)=true:=(ae (ae (ae (ae ok).1).1).1).1
 have q5:=of_decide_eq_true (ae q).2
 have q3:=List.all_eq_true.mp (ae (ae (ae q).1).1).2
 have q2:=List.all_eq_true.mp (ae (ae (ae (ae q).1).1).1).2
 have q1:=List.all_eq_true.mp (ae (ae (ae (ae q).1).1).1).1
 refine mA Sg (σ1:=σ) (σ2:=σ) (a:=.lst []) (b:=.lst []) ⟨fun _ _=>rfl,fun _=>rfl,fun _ _=>rfl,fun _ _=>rfl⟩ ?_ (mM eX (Nat.zero_le _)) rfl
 refine sr Sg K (l:=tl) (f:=nI tl) (y:=kd 1 (kd 0 x)) hd (Ne.symm hdw) ?_ (of_decide_eq_true (ae (ae q).1).2) j9 (jN (jS Sg h1 hl)) (kQ fun _ m=>m)
 intro env hk hg' hb X O O' ts s W K0 w σ r σ' h
 refine o6 (uI h) fun hw z1 z2=>?_;subst z1;clear K q hd hl h;subst z2
 refine bi _ rfl (fun A ts s R S=>mR ?_)
 refine aT (List.any_eq_true.mp (q3 w hw)) fun e me hv=>?_
 have rd:∀y∈dl,∃a,Wv X y a:=fun y m=>aT (W.loc.v d _ h2) fun v z _=>Exists.elim (Rp.mem z m) fun u r=>aT (qQ (q2 y m) r) fun a _ r=>⟨a,r⟩
 have rw':∃a,Wv X w a:=aT (W.loc.v l _ h1) fun v z _=>Exists.elim (Rp.mem z hw) fun u r=>let⟨a,_,r⟩:=qQ (q1 w hw) r;⟨a,r⟩
 have nn:nm one≠nm wo:=fun z=>how (Sg.nm _ _ z)
 have nd:nm wo≠nm d:=fun z=>hdw (Sg.nm _ _ z).symm
 have vd':bu (pT wo d).names (nm d)=true:=by unfold bu;rw[p7,zE nd];rfl
 have ne:(dl.flatMap (sV G X w)).isEmpty=false:=by
  refine Exists.elim (rd e me) fun a wa=>?_
  obtain⟨b,wb⟩:=rw'
  have ab:a=b:=wa.fn wb (.refl X) (beq_iff_eq.mp hv).symm
  have:sV G X w e=[.int 1]:=if_pos (gc a b wa wb (ab▸fun A s _ _ Q E z=>wpAny_isSame_ref_self z))
  exact Bool.eq_false_iff.mpr fun z=>by
   have:=List.mem_flatMap.mpr (bi e me (this▸List.mem_singleton.mpr rfl))
   rw[List.isEmpty_iff.mp z]at this;exact nomatch this
 have E:=mA Sg (op:=.Eq) (σ1:=σ') (σ2:=σ') (c:=false) (p:=(kd 3 (kd 0 x)).pos) (r:=.List [] (kd 1 (kd 3 (kd 0 x))).pos) (ρ:=(bo ρ [d]).set wo (.v w)) (F:=⟨env,[wo],X,O',hk,hg',hb⟩) (n:=n) ⟨fun _ _=>rfl,fun _=>rfl,fun _ _=>rfl,fun _ _=>rfl⟩
  (qV Sg K0 (yX nn) (y:=kd 1 (kd 0 (kd 3 (kd 0 x)))) (ifs:=[.Compare (.Name (nm one) (kd 0 (kd 3 (kd 0 (kd 3 (kd 0 x))))).pos) [.Is] [.Name (nm wo) (kd 1 (kd 3 (kd 0 (kd 3 (kd 0 x))))).pos] (kd 3 (kd 0 (kd 3 (kd 0 x)))).pos])
   (pos:=(kd 0 (kd 3 (kd 0 x))).pos) (f:=wy G X dl w) (fun C X' O1 O1' ts s W'=>zy Sg how rd rw' q2 (q1 w hw) vQ (ck:=kn (kd 0 (kd 0 (kd 3 (kd 0 x))))) (p1:=(kd 0 (kd 0 (kd 3 (kd 0 x)))).pos) W'.le) q5 j9 (iter:=.Name (nm d) (kd 2 (kd 0 (kd 3 (kd 0 x)))).pos)
   (jN (jS Sg ((vL hdw).trans (oA h2)) vd')) (nL fun _ m=>m))
  (mM eX (Nat.zero_le _)) (show(if(dl.flatMap (sV G X w)).isEmpty||[].isEmpty then some ((dl.flatMap (sV G X w)).isEmpty&&[].isEmpty)else none)=some false by refine eR ne ?_;rfl)
 exact ad (E.t false rfl A ts s R S) fun ok s' w9=>cB w9 fun eo S'=>by subst eo;exact(if_neg Bool.false_ne_true).mpr ⟨rfl,S'⟩
end
end Mine
namespace Mine
open PySem
set_option genCtorIdx true in
inductive Con where|A|B|N|Pr|Nil|Cons
 deriving DecidableEq
set_option genCtorIdx true in
inductive Ki where|T|N|P|L|I
 deriving DecidableEq
noncomputable def Con.ki:Con→Ki|.A=>.T|.B=>.T|.N=>.N|.Pr=>.P|.Nil=>.L|.Cons=>.L
noncomputable def Con.ar:Con→Nat|.A=>0|.B=>2|.N=>1|.Pr=>2|.Nil=>0|.Cons=>2
noncomputable def Con.f1:Con→Ki|.A=>.I|.B=>.T|.N=>.T|.Pr=>.T|.Nil=>.I|.Cons=>.I
noncomputable def Con.f2:Con→Ki|.A=>.I|.B=>.I|.N=>.I|.Pr=>.I|.Nil=>.I|.Cons=>.L
inductive Pt where
 |wild|var (s:Str)|lit (i:Int)|con (c:Con) (p q:Pt)|tup (p q:Pt)|lnil|lcons (x r:Pt)|as (s:Str) (p:Pt)|lazy (p:Pt)|bang (p:Pt)
@[reducible] noncomputable def Pt.ctorIdx(x:Pt):Nat:=@Pt.casesOn (fun _=>Nat) x 0 (fun _=>1) (fun _=>2) (fun _ _ _=>3) (fun _ _=>4) 5 (fun _ _=>6) (fun _ _=>7) (fun _=>8) (fun _=>9)
inductive Wo where
 |never|int (id:Nat) (i:Int)|con (id:Nat) (c:Con) (a b:Wo)
@[reducible] noncomputable def Wo.ctorIdx(x:Wo):Nat:=@Wo.casesOn (fun _=>Nat) x 0 (fun _ _=>1) (fun _ _ _ _=>2)
set_option genCtorIdx true in
inductive R where|yes|no|nev
 deriving DecidableEq
noncomputable abbrev jI:=R × List Wo
noncomputable def ask(w:Wo)(k:jI):jI:=match w with|.never=>(.nev,[.never])|.int i j=>(k.1,.int i j::k.2)|.con i c a b=>(k.1,.con i c a b::k.2)
noncomputable def sq(x y:jI):jI:=match x.1 with|.yes=>(y.1,x.2++y.2)|.no=>(.no,x.2)|.nev=>(.nev,x.2)
noncomputable def Wo.a0:Wo→Wo|.con _ _ a _=>a|w=>w
noncomputable def pre(b:Bool)(w:Wo)(k:jI):jI:=match b with|true=>ask w k|false=>k
noncomputable def fit:Pt→Bool→Wo→jI
 |.wild,b,w=>pre b w (.yes,[])
 |.var _,b,w=>pre b w (.yes,[])
 |.lazy _,b,w=>pre b w (.yes,[])
 |.as _ p,b,w=>pre b w (fit p false w)
 |.bang p,b,w=>pre b w (fit p true w)
 |.lit i,b,w=>pre b w (ask w (match w with|.int _ j=>(if i=j then .yes else .no,[])|_=>(.no,[])))
 |.con c p q,b,w=>if c=.N then fit p b w.a0 else pre b w (ask w (match w with
  |.con _ d x y=>if c=d then sq (fit p false x) (fit q false y)else(.no,[])
  |_=>(.no,[])))
 |.tup p q,b,w=>pre b w (ask w (match w with
  |.con _ _ x y=>sq (fit p false x) (fit q false y)
  |_=>(.no,[])))
 |.lnil,b,w=>pre b w (ask w (match w with
  |.con _ d _ _=>(if d=.Nil then .yes else .no,[])
  |_=>(.no,[])))
 |.lcons p r,b,w=>pre b w (ask w (match w with
  |.con _ d x y=>if d=.Cons then sq (fit p false x) (fit r false y)else(.no,[])
  |_=>(.no,[])))
noncomputable def Pt.isL:Pt→Prop|.lnil=>True|.lcons _ _=>True|_=>False
noncomputable def Pt.isN:Pt→Prop|.con c _ _=>c=.N|_=>False
noncomputable def cZ:Ki→Pt→Prop
 |_,.wild=>True
 |_,.var _=>True
 |k,.lit _=>k=.I
 |k,.con c p q=>c.ki=k∧cZ c.f1 p∧cZ c.f2 q∧(c.ar=0→p=.wild)∧(c.ar<2→q=.wild)
 |k,.tup p q=>k=.P∧cZ .T p∧cZ .I q
 |k,.lnil=>k=.L
 |k,.lcons x r=>k=.L∧cZ .I x∧r.isL∧cZ .L r
 |k,.as _ p=>cZ k p
 |k,.lazy p=>cZ k p
 |k,.bang p=>cZ k p∧(k=.N→p.isN)
noncomputable def hV:Ki→Wo→Prop
 |k,.never=>k≠.N
 |k,.int _ _=>k=.I
 |k,.con _ c a b=>c.ki=k∧(0<c.ar→hV c.f1 a)∧(c.ar=2→hV c.f2 b)
noncomputable def aL(b:Bool):Pt→Pt
 |.wild=>.wild
 |.var _=>.wild
 |.lazy _=>.wild
 |.as _ p=>aL b p
 |.tup p q=>.con .Pr p q
 |.lnil=>.con .Nil .wild .wild
 |.lcons x r=>.con .Cons x r
 |.bang p=>match b with|true=>aL true p|false=>.bang p
 |.lit i=>.lit i
 |.con c p q=>.con c p q
noncomputable def sz:Pt→Nat
 |.wild=>0|.var _=>1|.lit _=>1|.con _ p q=>1+sz p+sz q|.tup p q=>1+sz p+sz q|.lnil=>1|.lcons x r=>1+sz x+sz r
 |.as _ p=>1+sz p|.lazy p=>1+sz p|.bang p=>1+sz p
noncomputable def cG:Pt→Bool
 |.as _ p=>cG p
 |.wild=>true|.var _=>true|.lazy _=>true
 |.lit _=>false|.con _ _ _=>false|.tup _ _=>false|.lnil=>false|.lcons _ _=>false|.bang _=>false
theorem oz(b:Bool):∀p,sz (aL b p)≤sz p:=by
 intro p
 induction p generalizing b with
 |as s p ih=>exact Nat.le_trans (ih b) (Nat.le_add_left _ _)
 |bang p ih=>induction b using Bool.casesOn with
  |true=>exact Nat.le_trans (ih true) (Nat.le_add_left _ _)
  |false=>exact Nat.le_refl _
 |lit=>exact Nat.le_refl _
 |con=>exact Nat.le_refl _
 |tup=>exact Nat.le_refl _
 |lcons=>exact Nat.le_refl _
 |lnil=>exact Nat.le_refl _
 |_=>exact Nat.zero_le _
theorem fC(b:Bool):∀{k p},cZ k p→cZ k (aL b p):=by
 intro k p
 induction p generalizing b with
 |as s p ih=>exact ih b
 |bang p ih=>induction b using Bool.casesOn with
  |true=>exact fun h=>ih true h.1
  |false=>exact id
 |tup p q=>intro h;exact v3 h.1.symm h.2.1 h.2.2 (by simp[Con.ar]) (by simp[Con.ar])
 |lnil=>intro h;exact v3 h.symm trivial trivial (fun _=>rfl) (fun _=>rfl)
 |lcons x r=>intro h;exact v3 h.1.symm h.2.1 h.2.2.2 (by simp[Con.ar]) (by simp[Con.ar])
 |lazy p=>exact fun _=>trivial
 |var s=>exact fun _=>trivial
 |_=>exact id
theorem tq{p:Pt}(h:cG p=true)(w:Wo):fit p false w=(.yes,[]):=by
 induction p with
 |as s p ih=>exact ih h
 |wild=>rfl
 |var s=>rfl
 |lazy p=>rfl
 |_=>exact bE h
theorem eG{w:Wo}(h:w≠.never)(k:jI):ask w k=(k.1,w::k.2):=by
 induction w using Wo.casesOn with
 |never=>exact absurd rfl h
 |int=>rfl
 |con=>rfl
theorem yi{w:Wo}(h:hV .P w):w=.never∨∃i a b,w=.con i .Pr a b∧hV .T a∧hV .I b:=by
 induction w using Wo.casesOn with
 |never=>exact .inl rfl
 |int=>injection h
 |con i c a b=>refine o6 h fun h1 h2 h3=>?_;clear h;induction c using Con.casesOn<;>first|(cases h1;done)|exact .inr ⟨i,a,b,rfl,h2 (Nat.succ_pos _),h3 rfl⟩
theorem uj{w:Wo}(h:hV .L w):w=.never∨(∃i a b,w=.con i .Nil a b)∨∃i a b,w=.con i .Cons a b∧hV .I a∧hV .L b:=by
 induction w using Wo.casesOn with
 |never=>exact .inl rfl
 |int=>injection h
 |con i c a b=>
  refine o6 h fun h1 h2 h3=>?_
  clear h;induction c using Con.casesOn<;>first|(cases h1;done)|exact .inr (.inl ⟨i,a,b,rfl⟩)|exact .inr (.inr ⟨i,a,b,rfl,h2 (Nat.succ_pos _),h3 rfl⟩)
theorem vO{w:Wo}(h:hV .N w):∃i a b,w=.con i .N a b∧hV .T a:=by
 induction w using Wo.casesOn with
 |never=>exact absurd rfl h
 |int=>injection h
 |con i c a b=>refine o6 h fun h1 h2 h3=>?_;clear h h3;induction c using Con.casesOn<;>first|(cases h1;done)|exact⟨i,a,b,rfl,h2 (Nat.succ_pos _)⟩
theorem AY{w:Wo}(h:hV .I w):w=.never∨∃i j,w=.int i j:=by
 induction w using Wo.casesOn with
 |never=>exact .inl rfl
 |int i j=>exact .inr (rA i j rfl)
 |con i c a b=>obtain⟨h1,h2,h3⟩:=h;exact nomatch c<;>cases h1
theorem eH{k:Ki}{w:Wo}:∀{p},cZ k p→hV k w→fit (aL false p) false w=fit p false w:=by
 intro p
 induction p with
 |as s p ih=>exact fun h hw=>ih h hw
 |tup p q=>
  intro h hw;obtain⟨rfl,h⟩:=h
  rcases yi hw with rfl|⟨i,a,b,rfl,_⟩<;>rfl
 |lnil=>
  intro h hw;subst h
  rcases uj hw with rfl|⟨i,a,b,rfl⟩|⟨i,a,b,rfl,_⟩<;>rfl
 |lcons x r=>
  intro h hw;obtain⟨rfl,h⟩:=h
  rcases uj hw with rfl|⟨i,a,b,rfl⟩|⟨i,a,b,rfl,_⟩<;>rfl
 |_=>exact fun _ _=>rfl
theorem hO{k:Ki}{w:Wo}{p:Pt}(h:cZ k p)(hk:k≠.N):fit p true w=ask w (fit p false w):=by
 induction p using Pt.casesOn with
 |con c p q=>
  refine cB h fun h1 _=>?_
  have:c≠.N:=fun e=>hk (by refine eE h1 ?_;refine eR e ?_;rfl)
  rw[show fit (.con c p q) true w=_ from if_neg this,show fit (.con c p q) false w=_ from if_neg this];rfl
 |_=>rfl
noncomputable def Le{α:Type}(E:List Wo)(x y:α × List Wo):Prop:=x.1=y.1∧∀a∈x.2,a∈E∨a∈y.2
theorem Le.refl{α:Type}{E:List Wo}{x:α × List Wo}:Le E x x:=⟨rfl,fun _ h=>.inr h⟩
theorem Le.of_eq{α:Type}{E:List Wo}{x y:α × List Wo}(h:x=y):Le E x y:=h▸.refl
theorem Le.trans{α:Type}{E:List Wo}{x y z:α × List Wo}(h:Le E x y)(g:Le E y z):Le E x z:=
 ⟨h.1.trans g.1,fun a m=>(h.2 a m).elim .inl fun m=>g.2 a m⟩
theorem uA{E:List Wo}{x x' y y':jI}(h:Le E x x')(g:Le E y y'):Le E (sq x y) (sq x' y'):=by
 obtain⟨r,a⟩:=x;obtain⟨r',a'⟩:=x'
 obtain⟨h1,h2⟩:=h
 subst h1
 induction r using R.casesOn with
 |yes=>exact⟨g.1,fun b m=>(List.mem_append.mp m).elim (fun m=>(h2 b m).imp id fun m=>List.mem_append_left _ m) fun m=>(g.2 b m).imp id fun m=>List.mem_append_right _ m⟩
 |no=>exact⟨rfl,h2⟩
 |nev=>exact⟨rfl,h2⟩
theorem n6(x y z:jI):sq (sq x y) z=sq x (sq y z):=by
 obtain⟨r,a⟩:=x;obtain⟨r',b⟩:=y;obtain⟨r'',c⟩:=z
 induction r using R.casesOn<;>induction r' using R.casesOn<;>simp[sq]
theorem pp(y:jI):sq (.yes,[]) y=y:=rfl
theorem c9(x:jI):sq x (.yes,[])=x:=by obtain⟨r,a⟩:=x;induction r using R.casesOn<;>simp[sq]
theorem dK{k:Ki}{w:Wo}{p:Pt}:cZ k p→hV k w→k≠.N→w≠.never→Le [] (fit (aL true p) false w) (fit p false w):=by
 induction p with
 |as s p ih=>exact fun h hw hk hn=>ih h hw hk hn
 |bang p ih=>
  intro h hw hk hn
  refine(ih h.1 hw hk hn).trans ?_
  show Le [] _ (fit p true w)
  rw[hO h.1 hk,eG hn]
  exact⟨rfl,fun a m=>.inr (List.mem_cons_of_mem _ m)⟩
 |tup p q=>exact fun h hw _ _=>.of_eq (eH (p:=.tup p q) h hw)
 |lnil=>exact fun h hw _ _=>.of_eq (eH (p:=.lnil) h hw)
 |lcons x r=>exact fun h hw _ _=>.of_eq (eH (p:=.lcons x r) h hw)
 |_=>exact fun _ _ _ _=>.refl
noncomputable def aA:List Pt→List Wo→jI
 |p::ps,w::ws=>sq (fit p false w) (aA ps ws)
 |[],_=>(.yes,[])
 |_::_,[]=>(.yes,[])
theorem dg:∀(p1:List Pt){p2:List Pt}(w1:List Wo){w2:List Wo},p1.length=w1.length→aA (p1++p2) (w1++w2)=sq (aA p1 w1) (aA p2 w2)
 |[],_,[],_,_=>(pp _).symm
 |p::ps,_,w::ws,_,h=>by
  show sq _ (aA (ps++_) (ws++_))=sq (sq _ (aA ps ws)) _
  rw[dg ps ws (Nat.succ.inj h),n6]
 |[],_,_::_,_,h=>absurd h (by simp)
 |_::_,_,[],_,h=>absurd h (by simp)
theorem bZ:∀(ps:List Pt)(ws:List Wo),ps.all cG=true→aA ps ws=(.yes,[])
 |[],_,_=>rfl
 |_::_,[],_=>rfl
 |p::ps,w::ws,h=>by
  rw[List.all_cons,Bool.and_eq_true]at h
  show sq _ _=_
  rw[tq h.1,bZ ps ws h.2];rfl
theorem j5(n:Nat):(List.replicate n Pt.wild).all cG=true:=by
 rw[List.all_eq_true];intro x hx;refine eR (List.eq_of_mem_replicate hx) ?_;rfl
structure Ln where
 num:Nat
 ps:List Pt
 binds:List V
 lost:Bool
inductive Rs where|num (n:Nat)|none|nev
noncomputable def lo(l:Ln)(ws:List Wo):jI:=((match(aA l.ps ws).1 with|.yes=>(match l.lost with|true=>.no|false=>.yes)|.no=>.no|.nev=>.nev),(aA l.ps ws).2)
noncomputable def dh:List Ln→List Wo→Rs × List Wo
 |[],_=>(.none,[])
 |l::r,ws=>match(lo l ws).1 with
  |.nev=>(.nev,(lo l ws).2)
  |.yes=>(.num l.num,(lo l ws).2)
  |.no=>((dh r ws).1,(lo l ws).2++(dh r ws).2)
theorem uJ{E:List Wo}{l l':Ln}{ws ws':List Wo}(h:l'.lost=l.lost)(g:Le E (aA l'.ps ws') (aA l.ps ws)):Le E (lo l' ws') (lo l ws):=by
 refine⟨?_,g.2⟩
 show(match(aA l'.ps ws').1 with|.yes=>_|.no=>_|.nev=>_)=_
 refine eR g.1 ?_;refine eR h ?_;rfl
noncomputable def Sp(E:List Wo)(ws' ws:List Wo)(l:Ln)(ls:List Ln):Prop:=
 (∃l',ls=[l']∧l'.num=l.num∧Le E (lo l' ws') (lo l ws))∨(ls=[]∧(lo l ws).1=.no)
theorem iX{E:List Wo}{l l':Ln}{r r':List Ln}{ws ws':List Wo}(hn:l'.num=l.num)(h:Le E (lo l' ws') (lo l ws))(g:Le E (dh r' ws') (dh r ws)):Le E (dh (l'::r') ws') (dh (l::r) ws):=by
 refine cB h fun h1 h2=>?_
 rw[dh,dh,h1,hn]
 cases (lo l ws).1 with
 |yes=>exact⟨rfl,h2⟩
 |nev=>exact⟨rfl,h2⟩
 |no=>exact⟨g.1,fun b m=>(List.mem_append.mp m).elim (fun m=>(h2 b m).imp id fun m=>List.mem_append_left _ m) fun m=>(g.2 b m).imp id fun m=>List.mem_append_right _ m⟩
theorem oS{E:List Wo}{l:Ln}{r r':List Ln}{ws ws':List Wo}(hn:(lo l ws).1=.no)(g:Le E (dh r' ws') (dh r ws)):Le E (dh r' ws') (dh (l::r) ws):=by
 refine⟨?_,fun b m=>(g.2 b m).imp id fun m=>?_⟩
 ·show _=(dh (l::r) ws).1
  rw[dh,hn];exact g.1
 ·rw[dh,hn];exact List.mem_append_right _ m
end Mine
namespace Mine
open PySem
set_option genCtorIdx true in
inductive Ky where|con (c:Con)|lit (i:Int)
 deriving DecidableEq
noncomputable def bG:Pt→Option Ky
 |.con c _ _=>some (.con c)|.lit i=>some (.lit i)
 |.wild=>none|.var _=>none|.tup _ _=>none|.lnil=>none|.lcons _ _=>none|.as _ _=>none|.lazy _=>none|.bang _=>none
noncomputable def Ky.many:Ky→Nat|.con c=>c.ar|.lit _=>0
noncomputable def cz:Pt→List Pt
 |.con c p q=>[p,q].take c.ar
 |.lit i=>[]|.wild=>[]|.var _=>[]|.tup _ _=>[]|.lnil=>[]|.lcons _ _=>[]|.as _ _=>[]|.lazy _=>[]|.bang _=>[]
noncomputable def Wo.args:Wo→List Wo|.con _ c a b=>[a,b].take c.ar|.never=>[]|.int _ _=>[]
noncomputable def tC:Wo→Option Ky|.con _ c _ _=>some (.con c)|.int _ i=>some (.lit i)|.never=>none
noncomputable def bQ:List Ki→List Pt→Prop|[],[]=>True|k::ks,p::ps=>cZ k p∧bQ ks ps|_::_,[]=>False|[],_::_=>False
noncomputable def cE:List Ki→List Wo→Prop|[],[]=>True|k::ks,p::ps=>hV k p∧cE ks ps|_::_,[]=>False|[],_::_=>False
noncomputable def be(ps:List Pt)(i:Nat):Pt:=ps.getD i .wild
noncomputable def fy(ws:List Wo)(i:Nat):Wo:=ws.getD i .never
noncomputable def gY(ks:List Ki)(i:Nat):Ki:=ks.getD i .I
noncomputable def ax{α:Type}(i:Nat)(qs ps:List α):List α:=ps.take i++qs++ps.drop (i+1)
theorem aC:∀{ks ps},bQ ks ps→ps.length=ks.length
 |[],[],_=>rfl
 |_::_,_::_,h=>congrArg Nat.succ (aC h.2)
 |[],_::_,h=>h.elim
 |_::_,[],h=>h.elim
theorem dz:∀{ks ps},cE ks ps→ps.length=ks.length
 |[],[],_=>rfl
 |_::_,_::_,h=>congrArg Nat.succ (dz h.2)
 |[],_::_,h=>h.elim
 |_::_,[],h=>h.elim
theorem gS:∀{k1 p1 k2 p2},bQ k1 p1→bQ k2 p2→bQ (k1++k2) (p1++p2)
 |[],[],_,_,_,g=>g
 |_::_,_::_,_,_,h,g=>⟨h.1,gS h.2 g⟩
 |[],_::_,_,_,h,_=>h.elim
 |_::_,[],_,_,h,_=>h.elim
theorem jU:∀{k1 p1 k2 p2},cE k1 p1→cE k2 p2→cE (k1++k2) (p1++p2)
 |[],[],_,_,_,g=>g
 |_::_,_::_,_,_,h,g=>⟨h.1,jU h.2 g⟩
 |[],_::_,_,_,h,_=>h.elim
 |_::_,[],_,_,h,_=>h.elim
theorem aS:∀{ks ps}(i:Nat),bQ ks ps→i<ks.length→bQ (ks.take i) (ps.take i)∧cZ (gY ks i) (be ps i)∧bQ (ks.drop (i+1)) (ps.drop (i+1))∧ps=ps.take i++be ps i::ps.drop (i+1)
 |k::ks,p::ps,0,h,_=>p6 trivial h.1 h.2 rfl
 |k::ks,p::ps,i+1,h,l=>by
  refine gC (aS (ks:=ks) (ps:=ps) i h.2 (Nat.lt_of_succ_lt_succ l)) fun a b c d=>?_
  exact p6 ⟨h.1,a⟩ b c (congrArg (p::·) d)
 |[],_,_,_,l=>absurd l (Nat.not_lt_zero _)
 |_::_,[],_,h,_=>h.elim
theorem b9:∀{ks ps}(i:Nat),cE ks ps→i<ks.length→cE (ks.take i) (ps.take i)∧hV (gY ks i) (fy ps i)∧cE (ks.drop (i+1)) (ps.drop (i+1))∧ps=ps.take i++fy ps i::ps.drop (i+1)
 |k::ks,p::ps,0,h,_=>p6 trivial h.1 h.2 rfl
 |k::ks,p::ps,i+1,h,l=>by
  refine gC (b9 (ks:=ks) (ps:=ps) i h.2 (Nat.lt_of_succ_lt_succ l)) fun a b c d=>?_
  exact p6 ⟨h.1,a⟩ b c (congrArg (p::·) d)
 |[],_,_,_,l=>absurd l (Nat.not_lt_zero _)
 |_::_,[],_,h,_=>h.elim
theorem fE{ks js:List Ki}{ps qs:List Pt}{i:Nat}(h:bQ ks ps)(hi:i<ks.length)(g:bQ js qs):bQ (ax i js ks) (ax i qs ps):=by
 refine gC (aS i h hi) fun a _ c _=>?_
 exact gS (gS a g) c
theorem jO{ks js:List Ki}{ps qs:List Wo}{i:Nat}(h:cE ks ps)(hi:i<ks.length)(g:cE js qs):cE (ax i js ks) (ax i qs ps):=by
 refine gC (b9 i h hi) fun a _ c _=>?_
 exact jU (jU a g) c
theorem iH:∀(ks:List Ki),bQ ks (List.replicate ks.length .wild)
 |[]=>trivial
 |_::ks=>⟨trivial,iH ks⟩
theorem dU{ks:List Ki}{ps qs:List Pt}{ws vs:List Wo}{i:Nat}(h:bQ ks ps)(g:cE ks ws)(hi:i<ks.length)(e:qs.length=vs.length):
  aA (ax i qs ps) (ax i vs ws)=sq (aA (ps.take i) (ws.take i)) (sq (aA qs vs) (aA (ps.drop (i+1)) (ws.drop (i+1)))):=by
 refine gC (aS i h hi) fun a _ _ _=>?_
 refine gC (b9 i g hi) fun b _ _ _=>?_
 have e1:=(aC a).trans (dz b).symm
 unfold ax
 rw[dg _ _ (by rw[List.length_append,List.length_append,e1,e]),dg _ _ e1,n6]
theorem rB{ks:List Ki}{ps:List Pt}{i:Nat}(h:bQ ks ps)(hi:i<ks.length):ax i [be ps i] ps=ps:=by
 refine gC (aS i h hi) fun _ _ _ e=>?_
 unfold ax;rw[List.append_assoc];exact e.symm
theorem iz{ks:List Ki}{ps:List Wo}{i:Nat}(h:cE ks ps)(hi:i<ks.length):ax i [fy ps i] ps=ps:=by
 refine gC (b9 i h hi) fun _ _ _ e=>?_
 unfold ax;rw[List.append_assoc];exact e.symm
theorem eM{ks:List Ki}{ps:List Pt}{ws:List Wo}{i:Nat}(h:bQ ks ps)(g:cE ks ws)(hi:i<ks.length):
  aA ps ws=sq (aA (ps.take i) (ws.take i)) (sq (fit (be ps i) false (fy ws i)) (aA (ps.drop (i+1)) (ws.drop (i+1)))):=by
 have:=dU (qs:=[be ps i]) (vs:=[fy ws i]) h g hi rfl
 rw[rB h hi,iz g hi]at this
 refine eR this ?_
 show sq _ (sq (sq _ (.yes,[])) _)=_
 rw[c9]
theorem bU:∀p:Pt,aL true p=.wild∨(∃i,aL true p=.lit i)∨∃c a b,aL true p=.con c a b
 |.wild=>.inl rfl|.var _=>.inl rfl|.lazy _=>.inl rfl
 |.lit i=>.inr (.inl ⟨i,rfl⟩)
 |.con c a b=>.inr (.inr (vX c a b rfl))
 |.tup a b=>.inr (.inr (vX _ a b rfl))
 |.lnil=>.inr (.inr (vX _ _ _ rfl))
 |.lcons a b=>.inr (.inr (vX _ a b rfl))
 |.as _ p=>bU p
 |.bang p=>bU p
theorem bL:∀p:Pt,aL false p=.wild∨(∃i,aL false p=.lit i)∨(∃c a b,aL false p=.con c a b)∨∃q,aL false p=.bang q
 |.wild=>.inl rfl|.var _=>.inl rfl|.lazy _=>.inl rfl
 |.lit i=>.inr (.inl ⟨i,rfl⟩)
 |.con c a b=>.inr (.inr (.inl (vX c a b rfl)))
 |.tup a b=>.inr (.inr (.inl (vX _ a b rfl)))
 |.lnil=>.inr (.inr (.inl (vX _ _ _ rfl)))
 |.lcons a b=>.inr (.inr (.inl (vX _ a b rfl)))
 |.as _ p=>bL p
 |.bang p=>.inr (.inr (.inr ⟨p,rfl⟩))
section
variable {k:Ki}{w:Wo}{p:Pt}
theorem nF(hp:cZ k p)(hw:hV k w)(hk:k≠.N)(hn:w≠.never)(h:bG (aL true p)=none):aL true p=.wild∧Le [] (.yes,[]) (fit p false w):=by
 rcases bU p with e|⟨i,e⟩|⟨c,a,b,e⟩
 ·refine⟨e,?_⟩
  have:=dK hp hw hk hn
  replace this:=e▸this;exact this
 ·rw[e]at h;injection h
 ·rw[e]at h;injection h
theorem ta{key:Ky}(hp:cZ k p)(hw:hV k w)(hk:k≠.N)(hn:w≠.never)(h:bG (aL true p)=some key)(hkw:tC w=some key):
  Le [] (aA (cz (aL true p)) w.args) (fit p false w)∧(cz (aL true p)).length=w.args.length:=by
 have L:=dK hp hw hk hn
 have hp':=fC true hp
 rcases bU p with e|⟨i,e⟩|⟨c,a,b,e⟩
 ·rw[e]at h;exact nE h
 ·rw[e]at h L;injection h with z1;subst z1
  cases w with
  |never=>exact nE hkw
  |con=>cases hkw
  |int id j=>
   clear k hp hk hp' hw hn;cases hkw
   refine eR e ?_
   refine⟨Le.trans ⟨?_,fun _ m=>absurd m (List.not_mem_nil)⟩ L,rfl⟩
   show R.yes=(if i=i then R.yes else R.no);rw[if_pos rfl]
 ·rw[e]at h L hp';injection h with z1;subst z1
  cases w with
  |never=>exact nE hkw
  |int=>cases hkw
  |con id d x y=>
   cases hkw
   refine eR e ?_
   have hc:c≠.N:=fun e=>hk (by refine eE hp'.1 ?_;refine eR e ?_;rfl)
   have q:fit (.con c a b) false (.con id c x y)=((sq (fit a false x) (fit b false y)).1,.con id c x y::(sq (fit a false x) (fit b false y)).2):=by
    rw[show fit (.con c a b) false (.con id c x y)=_ from if_neg hc]
    show ask (.con id c x y) (if c=c then sq (fit a false x) (fit b false y)else(.no,[]))=_
    rw[if_pos rfl];rfl
   replace L:=q▸L
   refine Bs hp' fun h1 h2 h3 h4 h5=>?_
   refine⟨Le.trans ?_ L,?_⟩
   ·have:aA (cz (.con c a b)) (Wo.args (.con id c x y))=sq (fit a false x) (fit b false y):=by
     clear k p hp hk hp' e hw hn q L h1 h2 h3;induction c using Con.casesOn with
     |A=>refine eR (h4 rfl) ?_;refine eR (h5 (Nat.succ_pos _)) ?_;rfl
     |Nil=>refine eR (h4 rfl) ?_;refine eR (h5 (Nat.succ_pos _)) ?_;rfl
     |N=>exact absurd rfl hc
     |B=>show sq _ (sq _ (.yes,[]))=_;rw[c9]
     |Pr=>show sq _ (sq _ (.yes,[]))=_;rw[c9]
     |Cons=>show sq _ (sq _ (.yes,[]))=_;rw[c9]
    refine eR this ?_
    exact⟨rfl,fun a m=>.inr (List.mem_cons_of_mem _ m)⟩
   ·show([a,b].take c.ar).length=([x,y].take c.ar).length
    refine eR List.length_take ?_;refine eR List.length_take ?_;rfl
theorem lR{key key':Ky}(hp:cZ k p)(hw:hV k w)(hk:k≠.N)(hn:w≠.never)(h:bG (aL true p)=some key')(hkw:tC w=some key)(hne:key'≠key):
  (fit p false w).1=.no:=by
 have hp':=fC true hp
 rw[←(dK hp hw hk hn).1]
 clear hp hw hn;rcases bU p with e|⟨i,e⟩|⟨c,a,b,e⟩
 ·rw[e]at h;exact nE h
 ·rw[e]at h ⊢;injection h with z1;subst z1
  induction w using Wo.casesOn with
  |never=>exact nE hkw
  |con=>rfl
  |int id j=>
   injection hkw with z1;subst z1
   have:¬i=j:=fun e=>hne (e▸rfl)
   show(if i=j then R.yes else .no)=_
   rw[if_neg this]
 ·rw[e]at h hp' ⊢;injection h with z1;subst z1
  have hc:c≠.N:=fun e=>hk (by refine eE hp'.1 ?_;refine eR e ?_;rfl)
  induction w using Wo.casesOn with
  |never=>exact nE hkw
  |int=>
   rw[show fit (.con c a b) false (.int _ _)=_ from if_neg hc];rfl
  |con id d x y=>
   injection hkw with z1;subst z1
   have:¬c=d:=fun e=>hne (e▸rfl)
   rw[show fit (.con c a b) false (.con id d x y)=_ from if_neg hc]
   show(ask _ (if c=d then _ else _)).1=_
   rw[if_neg this];rfl
end
structure PlainTo(b:Bool)(i:Nat)(l l':Ln):Prop where
 num:l'.num=l.num
 lost:l'.lost=l.lost
 ps:l'.ps=ax i [aL b (be l.ps i)] l.ps
noncomputable def cC(i many:Nat)(l:Ln):List Ln:=match(l.ps.take i).all cG with
 |true=>[]
 |false=>[⟨l.num,l.ps.take i++List.replicate (many+l.ps.length-i-1) .wild,[],true⟩]
noncomputable def br(l:Ln)(ps:List Pt):Ln:=⟨l.num,ps,l.binds,l.lost⟩
noncomputable def cw(key:Ky)(i:Nat)(l:Ln):List Ln:=match bG (be l.ps i)with
 |none=>[br l (ax i (List.replicate key.many .wild) l.ps)]
 |some k=>if k=key then[br l (ax i (cz (be l.ps i)) l.ps)]else cC i key.many l
noncomputable def bM(i:Nat)(l:Ln):List Ln:=match bG (be l.ps i)with
 |none=>[br l (ax i [] l.ps)]
 |some _=>cC i 0 l
theorem fL{α:Type}{i:Nat}{qs ps:List α}(h:i<ps.length):(ax i qs ps).take i=ps.take i:=by
 unfold ax
 rw[List.append_assoc,List.take_append_of_le_length (by refine eR List.length_take ?_;lia),List.take_take,Nat.min_self]
theorem oi{α:Type}{i:Nat}{q:α}{ps:List α}(h:i<ps.length):(ax i [q] ps).drop (i+1)=ps.drop (i+1):=by
 have e:(ps.take i++[q]).length=i+1:=by refine eR List.length_append ?_;refine eR List.length_take ?_;simp only [List.length_cons,List.length_nil];lia
 unfold ax
 refine eR (List.drop_append_of_le_length (Nat.le_of_eq e.symm)) ?_;refine eR (List.drop_eq_nil_of_le (Nat.le_of_eq e)) ?_;rfl
theorem gu{i:Nat}{q:Pt}{ps:List Pt}(h:i<ps.length):be (ax i [q] ps) i=q:=by
 have e:(ps.take i).length=i:=by refine eR List.length_take ?_;lia
 unfold be ax
 rw[List.append_assoc,List.getD_eq_getElem?_getD,List.getElem?_append_right (Nat.le_of_eq e),e,Nat.sub_self];rfl
theorem gZ{α:Type}{i:Nat}{qs ps:List α}(h:i<ps.length):(ax i qs ps).length+1=ps.length+qs.length:=by
 unfold ax;simp only [List.length_append,List.length_take,List.length_drop];lia
section
variable {ks:List Ki}{ws:List Wo}{i:Nat}{l l':Ln}{key:Ky}
theorem qK{vs:List Wo}{m:Nat}(hl:bQ ks l.ps)(hw:cE ks ws)(hi:i<ks.length)(P:PlainTo true i l l')(hm:vs.length=m)(h:(fit (be l.ps i) false (fy ws i)).1=.no):
  Sp [] (ax i vs ws) ws l (cC i m l'):=by
 have hi':i<l.ps.length:=by refine eR (aC hl) ?_;exact hi
 have hw':i<ws.length:=by refine eR (dz hw) ?_;exact hi
 have et:l'.ps.take i=l.ps.take i:=by rw[P.ps,fL hi']
 have ea:=eM hl hw hi
 have no:∀y,sq (fit (be l.ps i) false (fy ws i)) y=(.no,(fit (be l.ps i) false (fy ws i)).2):=fun y=>by unfold sq;rw[h]
 rw[no]at ea
 unfold cC
 cases hid:(l'.ps.take i).all cG with
 |true=>
  refine .inr ⟨rfl,?_⟩
  replace hid:=et▸hid
  rw[bZ _ _ hid]at ea
  unfold lo;refine eR ea ?_;rfl
 |false=>
  refine .inl (iK _ rfl P.num ?_)
  have el:(l.ps.take i).length=(ws.take i).length:=by rw[List.length_take,List.length_take,aC hl,dz hw]
  have e2:aA (l'.ps.take i++List.replicate (m+l'.ps.length-i-1) Pt.wild) (ax i vs ws)=aA (l.ps.take i) (ws.take i):=by
   refine eR et ?_
   unfold ax
   rw[List.append_assoc,dg _ _ el,bZ _ _ (j5 _),c9]
  unfold lo
  refine eR ea ?_
  dsimp only
  refine eR e2 ?_
  generalize aA (l.ps.take i) (ws.take i)=x
  obtain⟨r,a⟩:=x
  induction r using R.casesOn with
  |yes=>exact⟨rfl,fun b hb=>.inr (List.mem_append_left _ hb)⟩
  |no=>exact .refl
  |nev=>exact .refl
theorem mU{qs:List Pt}{vs:List Wo}(hl:bQ ks l.ps)(hw:cE ks ws)(hi:i<ks.length)(P:PlainTo true i l l')(hm:qs.length=vs.length)(h:Le [] (aA qs vs) (fit (be l.ps i) false (fy ws i))):
  Sp [] (ax i vs ws) ws l [br l' (ax i qs l'.ps)]:=by
 have hi':i<l.ps.length:=by refine eR (aC hl) ?_;exact hi
 refine .inl (iK _ rfl P.num (uJ P.lost ?_))
 show Le [] (aA (ax i qs l'.ps) _) _
 have et:l'.ps.take i=l.ps.take i:=by rw[P.ps,fL hi']
 have ed:l'.ps.drop (i+1)=l.ps.drop (i+1):=by rw[P.ps,oi hi']
 have e:ax i qs l'.ps=ax i qs l.ps:=by unfold ax;rw[et,ed]
 refine eR e ?_;refine eR (dU hl hw hi hm) ?_;refine eR (eM hl hw hi) ?_
 exact uA .refl (uA h .refl)
theorem xM(hl:bQ ks l.ps)(hw:cE ks ws)(hi:i<ks.length)(P:PlainTo true i l l')(hk:gY ks i≠.N)(hn:fy ws i≠.never)(hkw:tC (fy ws i)=some key):
  Sp [] (ax i (fy ws i).args ws) ws l (cw key i l'):=by
 have hi':i<l.ps.length:=by refine eR (aC hl) ?_;exact hi
 have ea:be l'.ps i=aL true (be l.ps i):=by rw[P.ps,gu hi']
 refine gC (aS i hl hi) fun _ hp _ _=>?_
 refine gC (b9 i hw hi) fun _ hv _ _=>?_
 have hmany:(fy ws i).args.length=key.many:=by
  cases hw:fy ws i with
  |never=>exact absurd hw hn
  |int=>rw[hw]at hkw;refine oE hkw ?_;rfl
  |con id c a b=>rw[hw]at hkw;clear hl hi P hk hn hi' ea hp hv hw;injection hkw with z1;subst z1;induction c using Con.casesOn<;>rfl
 unfold cw
 refine ea▸?_
 cases hkey:bG (aL true (be l.ps i))with
 |none=>
  refine cB (nF hp hv hk hn hkey) fun _ h=>?_
  refine mU hl hw hi P (by refine eR List.length_replicate ?_;exact hmany.symm) ?_
  refine eR (bZ _ _ (j5 _)) ?_;exact h
 |some k'=>
  dsimp only
  split
  ·rename_i e;clear hi' ea hmany;subst e
   obtain⟨h,e⟩:=ta hp hv hk hn hkey hkw
   exact mU hl hw hi P e h
  ·rename_i e
   exact qK hl hw hi P hmany (lR hp hv hk hn hkey hkw e)
theorem uw(hl:bQ ks l.ps)(hw:cE ks ws)(hi:i<ks.length)(P:PlainTo true i l l')(hk:gY ks i≠.N)(hn:fy ws i≠.never)(hkw:tC (fy ws i)=some key)(hne:bG (be l'.ps i)≠some key):
  Sp [] (ax i [] ws) ws l (bM i l'):=by
 have hi':i<l.ps.length:=by refine eR (aC hl) ?_;exact hi
 have ea:be l'.ps i=aL true (be l.ps i):=by rw[P.ps,gu hi']
 refine gC (aS i hl hi) fun _ hp _ _=>?_
 refine gC (b9 i hw hi) fun _ hv _ _=>?_
 unfold bM
 rw[ea]at hne ⊢
 cases hkey:bG (aL true (be l.ps i))with
 |none=>
  refine cB (nF hp hv hk hn hkey) fun _ h=>?_
  exact mU hl hw hi P rfl h
 |some k'=>
  rw[hkey]at hne
  exact qK hl hw hi P rfl (lR hp hv hk hn hkey hkw fun e=>hne (e▸rfl))
end
end Mine
namespace Mine
open PySem
noncomputable def Con.str:Con→Str|.A=>"M.A"|.B=>"M.B"|.N=>"M.N"|.Pr=>"(,)"|.Nil=>"[]"|.Cons=>":"
noncomputable def bB:V:=.tup (some 0) [.str "never"]
noncomputable def aG:Wo→V
 |.never=>bB
 |.int id i=>.tup (some id) [.int i,.lst []]
 |.con id c a b=>.tup (some id) [.str c.str,.lst ([aG a,aG b].take c.ar)]
noncomputable def gO:Rs→V|.num n=>.int n|.none=>.none|.nev=>bB
noncomputable def dp:List Str→List V→List (Str × V)→List (Str × V)
 |n::ns,v::vs,kd=>dp ns vs (bn kd n v)
 |[],_,kd=>kd
 |_::_,[],kd=>kd
noncomputable def gV:List V→V→V→Option (List V × V)
 |[],_,o=>some ([],o)
 |b::r,h,o=>match b with
  |.tup _ [.tup _ ks,.lst ls,t]=>(match cr ks (-1)with
   |some k=>(match bJ k h with
    |some true=>some (ls,t)
    |some false=>gV r h o
    |none=>none)
   |none=>none)
  |_=>none
inductive Walk:Nat→V→List (Str × V)→V→List V→Prop
 |leaf {h n b o kd}:Walk h (.inst 383 [(17,n),(18,b),(19,o)]) kd n []
 |nothing {h kd}:Walk h (.inst 397 []) kd .none []
 |proj {h nm cc x t kd i c y ys r a}:cY kd x=some (.tup i [c,.lst (y::ys)])→Walk h t (bn kd nm y) r a→Walk (h+1) (.inst 460 [(2,.str nm),(22,cc),(4,.str x),(21,t)]) kd r a
 |forceN {h nm t kd}:cY kd nm=some bB→Walk (h+1) (.inst 439 [(2,.str nm),(21,t)]) kd bB [bB]
 |force {h nm t kd i c xs r a}:cY kd nm=some (.tup i [c,.lst xs])→(bJ c (.str "never")).isSome=true→Walk h t kd r a→Walk (h+1) (.inst 439 [(2,.str nm),(21,t)]) kd r (.tup i [c,.lst xs]::a)
 |switchN {h nm bs o kd}:cY kd nm=some bB→Walk (h+1) (.inst 418 [(2,.str nm),(20,.lst bs),(14,o)]) kd bB [bB]
 |switch {h nm bs o kd i c xs ns t r a}:cY kd nm=some (.tup i [c,.lst xs])→(bJ c (.str "never")).isSome=true→xs.length≤2→gV bs c o=some (ns.map V.str,t)→Walk h t (dp ns xs kd) r a→
   Walk (h+1) (.inst 418 [(2,.str nm),(20,.lst bs),(14,o)]) kd r (.tup i [c,.lst xs]::a)
theorem Walk.up{h t kd r a}(w:Walk h t kd r a):Walk (h+1) t kd r a:=by
 induction w with
 |leaf=>exact .leaf
 |nothing=>exact .nothing
 |proj g _ ih=>exact .proj g ih
 |forceN g=>exact .forceN g
 |force g x _ ih=>exact .force g x ih
 |switchN g=>exact .switchN g
 |switch g x y p _ ih=>exact .switch g x y p ih
theorem Walk.mono{h t kd r a}(w:Walk h t kd r a):∀{j},h≤j→Walk j t kd r a:=by
 intro j l
 induction l with
 |refl=>exact w
 |step _ ih=>exact ih.up
theorem ix(kd:List (Str × V))(n m:Str)(v:V):cY (bn kd n v) m=if m=n then some v else cY kd m:=by
 unfold cY bn
 by_cases h:kd.any (fun p=>decide (p.1=n))=true
 ·refine eR (if_pos h) ?_
  induction kd with
  |nil=>exact bE h
  |cons p r ih=>
   refine eR List.map_cons ?_;refine eR (List.find?_cons) ?_;refine eR (List.find?_cons) ?_
   by_cases hp:p.1=n
   ·refine eR (if_pos hp) ?_
    by_cases hm:m=n
    ·refine eR (if_pos hm) ?_;clear ih h;subst hm;simp[hp]
    ·refine eR (if_neg hm) ?_
     have:¬p.1=m:=fun e=>hm (e.symm.trans hp)
     simp only [this,decide_false]
     clear ih h
     congr 1
     induction r with
     |nil=>rfl
     |cons q t ih2=>
      refine eR List.map_cons ?_;refine eR (List.find?_cons) ?_;refine eR (List.find?_cons) ?_
      by_cases hq:q.1=n
      ·refine eR (if_pos hq) ?_
       have:¬q.1=m:=fun e=>hm (e.symm.trans hq)
       simp only [this,decide_false];exact ih2
      ·refine eR (if_neg hq) ?_
       by_cases hqm:q.1=m
       ·simp only [hqm,decide_true]
       ·simp only [hqm,decide_false];exact ih2
   ·refine eR (if_neg hp) ?_
    have hr:r.any (fun p=>decide (p.1=n))=true:=by
     rw[List.any_cons]at h;simpa [hp]using h
    by_cases hpm:p.1=m
    ·have:¬m=n:=fun e=>hp (hpm.trans e)
     simp only [hpm,decide_true,if_neg this]
    ·simp only [hpm,decide_false];exact ih hr
 ·refine eR (if_neg h) ?_;refine eR (List.find?_append) ?_
  by_cases hm:m=n
  ·refine eR (if_pos hm) ?_;subst hm
   have:kd.find? (fun p=>decide (p.1=m))=none:=by
    rw[List.find?_eq_none]
    intro x hx hc
    exact h (List.any_eq_true.mpr (bi x hx hc))
   refine eR this ?_;simp
  ·refine eR (if_neg hm) ?_
   have:([(n,v)]:List (Str × V)).find? (fun p=>decide (p.1=m))=none:=by
    refine eR (List.find?_cons) ?_
    have:¬n=m:=fun e=>hm e.symm
    simp[this]
   refine eR this ?_;simp
noncomputable def cS(kd:List (Str × V)):List Str→List Wo→Prop
 |c::cs,w::ws=>cY kd c=some (aG w)∧cS kd cs ws
 |[],_=>True
 |_::_,[]=>False
theorem iD{kd}:∀{c1 w1 c2 w2},c1.length=w1.length→(cS kd (c1++c2) (w1++w2)↔cS kd c1 w1∧cS kd c2 w2)
 |[],[],_,_,_=>⟨fun h=>⟨trivial,h⟩,fun h=>h.2⟩
 |_::_,_::_,c2,w2,e=>by
  have:=iD (kd:=kd) (c2:=c2) (w2:=w2) (Nat.succ.inj e)
  exact⟨fun h=>⟨⟨h.1,(this.mp h.2).1⟩,(this.mp h.2).2⟩,fun h=>⟨h.1.1,this.mpr ⟨h.1.2,h.2⟩⟩⟩
 |[],_::_,_,_,e=>absurd e (by simp)
 |_::_,[],_,_,e=>absurd e (by simp)
theorem gp{kd n v}:∀{cs ws},n∉cs→cS kd cs ws→cS (bn kd n v) cs ws
 |[],_,_,_=>trivial
 |_::_,[],_,h=>h.elim
 |c::cs,w::ws,hn,h=>by
  refine⟨?_,gp (fun m=>hn (List.mem_cons_of_mem _ m)) h.2⟩
  rw[ix,if_neg (fun e=>hn (by refine eR e ?_;exact List.mem_cons_self ..))];exact h.1
theorem fH{cs ws}:∀{ns vs kd},(∀n∈ns,n∉cs)→cS kd cs ws→cS (dp ns vs kd) cs ws
 |[],_,_,_,h=>h
 |_::_,[],_,_,h=>h
 |n::ns,v::vs,kd,hn,h=>fH (ns:=ns) (vs:=vs) (fun m hm=>hn m (List.mem_cons_of_mem _ hm)) (gp (hn n (List.mem_cons_self ..)) h)
theorem ir:∀{ns:List Str}{ws:List Wo}{kd},ns.Nodup→ns.length=ws.length→cS (dp ns (ws.map aG) kd) ns ws
 |[],_,_,_,_=>trivial
 |_::_,[],_,_,e=>absurd e (by simp)
 |n::ns,w::ws,kd,nd,e=>by
  have nd':=List.nodup_cons.mp nd
  refine⟨?_,ir nd'.2 (Nat.succ.inj e)⟩
  have:=fH (cs:=[n]) (ws:=[w]) (ns:=ns) (vs:=ws.map aG) (kd:=bn kd n (aG w)) (fun m hm=>by simp only [List.mem_singleton];exact fun e=>nd'.1 (e▸hm)) ⟨by rw[ix,if_pos rfl],trivial⟩
  exact this.1
theorem jp{kd}:∀{cs ws}(i:Nat),cS kd cs ws→cS kd (cs.take i) (ws.take i)
 |_,_,0,_=>trivial
 |[],_,_+1,_=>trivial
 |_::_,[],_+1,h=>h.elim
 |_::_,_::_,i+1,h=>⟨h.1,jp i h.2⟩
theorem jW{kd}:∀{cs ws}(i:Nat),cS kd cs ws→cS kd (cs.drop i) (ws.drop i)
 |_,_,0,h=>h
 |[],_,_+1,_=>by refine eR List.drop_nil ?_;trivial
 |_::_,[],_+1,h=>h.elim
 |_::_,_::_,i+1,h=>jW i h.2
noncomputable def sn(cs:List Str)(i:Nat):Str:=cs.getD i ⟨#[]⟩
theorem gU{kd}:∀{cs ws}(i:Nat),cS kd cs ws→i<cs.length→cY kd (sn cs i)=some (aG (fy ws i))
 |[],_,_,_,l=>absurd l (Nat.not_lt_zero _)
 |_::_,[],_,h,_=>h.elim
 |_::_,_::_,0,h,_=>h.1
 |_::_,_::_,i+1,h,l=>gU (cs:=_) i h.2 (Nat.lt_of_succ_lt_succ l)
theorem hZ{kd':List (Str × V)}{cs ns:List Str}{ws vs:List Wo}{i:Nat}(h:cS kd' cs ws)(g:cS kd' ns vs)(e:cs.length=ws.length)(e':ns.length=vs.length):cS kd' (ax i ns cs) (ax i vs ws):=by
 unfold ax
 have e1:(cs.take i).length=(ws.take i).length:=by rw[List.length_take,List.length_take,e]
 rw[iD (by rw[List.length_append,List.length_append,e1,e']),iD e1]
 exact⟨⟨jp i h,g⟩,jW _ h⟩
noncomputable def db(h:Nat)(t:V)(cols:List Str)(ks:List Ki)(lines:List Ln):Prop:=
 ∀kd ws,cE ks ws→cS kd cols ws→∃r a,Walk h t kd (gO r) (a.map aG)∧Le [] (r,a) (dh lines ws)
theorem db.mono{h j t cols ks ls}(g:db h t cols ks ls)(l:h≤j):db j t cols ks ls:=fun kd ws a b=>by
 refine eB (g kd ws a b) fun r x w e=>?_
 exact dA r x (w.mono l) e
theorem lW{h cols ks}:db h (.inst 397 []) cols ks []:=fun kd ws _ _=>dA .none ([]) .nothing .refl
theorem rE{h cols ks l r b o}(hl:l.ps.all cG=true)(hn:l.lost=false):db h (.inst 383 [(17,.int (l.num:Nat)),(18,b),(19,o)]) cols ks (l::r):=fun kd ws _ _=>by
 refine dA (.num l.num) ([]) .leaf ?_
 have e:lo l ws=(.yes,[]):=by unfold lo;rw[bZ _ _ hl,hn]
 rw[dh,e];exact .refl
theorem rS{h t cols ks l r}(hl:l.ps.all cG=true)(hn:l.lost=true)(g:db h t cols ks r):db h t cols ks (l::r):=fun kd ws a b=>by
 refine eB (g kd ws a b) fun x y w e=>?_
 refine dA x y w ?_
 have e':lo l ws=(.no,[]):=by unfold lo;rw[bZ _ _ hl,hn]
 rw[dh,e'];exact e
theorem h9{h t cols ks l l' r}(hn:l'.num=l.num)(hl:l'.lost=l.lost)(he:∀ws,cE ks ws→aA l'.ps ws=aA l.ps ws)(g:db h t cols ks (l'::r)):db h t cols ks (l::r):=fun kd ws a b=>by
 refine eB (g kd ws a b) fun x y w e=>?_
 refine dA x y w ?_
 have e':lo l' ws=lo l ws:=by unfold lo;rw[he ws a,hl]
 rw[dh,e',hn]at e
 rw[dh];exact e
noncomputable def pz(p:Pt):Prop:=∀w,∃k,fit p false w=ask w k
theorem vJ{c p q}(h:c≠.N):pz (.con c p q):=fun w=>⟨_,(if_neg h:fit (.con c p q) false w=_)⟩
theorem tW{i}:pz (.lit i):=fun w=>⟨_,rfl⟩
theorem rY{k p}(h:cZ k p)(hk:k≠.N):pz (.bang p):=fun w=>⟨_,(hO h hk:fit p true w=_)⟩
section
variable {ks:List Ki}{l:Ln}{i:Nat}{ws:List Wo}
theorem kj(hl:bQ ks l.ps)(hw:cE ks ws)(hi:i<ks.length)(hid:(l.ps.take i).all cG=true):
  aA l.ps ws=sq (fit (be l.ps i) false (fy ws i)) (aA (l.ps.drop (i+1)) (ws.drop (i+1))):=by
 rw[eM hl hw hi,bZ _ _ hid,pp]
theorem jL{r:List Ln}(hl:bQ ks l.ps)(hw:cE ks ws)(hi:i<ks.length)(hid:(l.ps.take i).all cG=true)(ha:pz (be l.ps i))(hn:fy ws i=.never):dh (l::r) ws=(.nev,[.never]):=by
 refine Exists.elim (ha (fy ws i)) fun k e=>?_
 have:lo l ws=(.nev,[.never]):=by unfold lo;refine eR (kj hl hw hi hid) ?_;refine eR e ?_;refine eR hn ?_;rfl
 rw[dh,this]
theorem oG{r:List Ln}(hl:bQ ks l.ps)(hw:cE ks ws)(hi:i<ks.length)(hid:(l.ps.take i).all cG=true)(ha:pz (be l.ps i))(hn:fy ws i≠.never):fy ws i∈(dh (l::r) ws).2:=by
 refine Exists.elim (ha (fy ws i)) fun k e=>?_
 rw[eG hn]at e
 have:fy ws i∈(lo l ws).2:=by
  unfold lo;refine eR (kj hl hw hi hid) ?_;refine eR e ?_
  clear hl hw hi hid ha hn e;obtain⟨r,a⟩:=k
  induction r using R.casesOn
  ·exact List.mem_append_left _ (List.mem_cons_self ..)
  ·exact List.mem_cons_self ..
  ·exact List.mem_cons_self ..
 rw[dh]
 cases (lo l ws).1
 ·exact this
 ·exact List.mem_append_left _ this
 ·exact this
end
theorem lZ{α:Type}{w:Wo}{r:α}{a:List Wo}{y:α × List Wo}(h:Le [] (r,a) y)(m:w∈y.2):Le [] (r,w::a) y:=
 ⟨h.1,fun b hb=>(List.mem_cons.mp hb).elim (fun e=>.inr (e▸m)) fun hb=>h.2 b hb⟩
theorem s8{w:Wo}(h:w≠.never):∃i c xs,aG w=.tup i [c,.lst xs]∧(bJ c (.str "never")).isSome=true:=by
 induction w using Wo.casesOn with
 |never=>exact absurd rfl h
 |int i j=>exact yn _ _ _ rfl rfl
 |con i c a b=>exact yn _ _ _ rfl rfl
theorem lL(w:Wo):w=.never∨w≠.never:=by
 induction w using Wo.casesOn with
 |never=>exact .inl rfl
 |int=>exact .inr (fun e=>by injection e)
 |con=>exact .inr (fun e=>by injection e)
theorem pe{h:Nat}{t:V}{cols:List Str}{ks:List Ki}{i:Nat}{l l':Ln}{r:List Ln}{q:Pt}(hc:cols.length=ks.length)(hl:bQ ks l.ps)(hi:i<ks.length)(hk:gY ks i≠.N)
  (hid:(l.ps.take i).all cG=true) (hq:be l.ps i=.bang q) (e1:l'.num=l.num) (e2:l'.lost=l.lost) (e3:l'.ps=ax i [q] l.ps) (g:db h t cols ks (l'::r)):
  db (h+1) (.inst 439 [(2,.str (sn cols i)),(21,t)]) cols ks (l::r):=fun kd ws a b=>by
 refine gC (aS i hl hi) fun _ hp _ _=>?_
 have ha:pz (be l.ps i):=by rw[hq]at hp ⊢;exact rY hp.1 hk
 have hat:=gU i b (by refine eR hc ?_;exact hi)
 rcases lL (fy ws i)with hn|hn
 ·rw[hn]at hat
  exact dA .nev ([.never]) (.forceN hat) (by rw[jL hl a hi hid ha hn];exact .refl)
 ·refine eB (g kd ws a b) fun x y w e=>?_
  refine kT (s8 hn) fun i' c xs ee ha'=>?_
  refine dA x (fy ws i::y) ?_ (lZ (e.trans ?_) (oG hl a hi hid ha hn))
  ·rw[ee]at hat
   refine eR List.map_cons ?_;refine eR ee ?_
   exact .force hat ha' w
  ·refine iX e1 (uJ e2 ?_) .refl
   have hpf:=dU (qs:=[q]) (vs:=[fy ws i]) hl a hi rfl
   rw[iz a hi,bZ _ _ hid,pp]at hpf
   refine eR e3 ?_;refine eR hpf ?_;refine eR (kj hl a hi hid) ?_
   refine uA ?_ .refl
   show Le [] (sq _ (.yes,[])) _
   rw[c9,hq]
   rw[hq]at hp
   show Le [] _ (fit q true (fy ws i))
   rw[hO hp.1 hk,eG hn]
   exact⟨rfl,fun _ m=>.inr (List.mem_cons_of_mem _ m)⟩
end Mine
namespace Mine
open PySem
noncomputable def bP:Ky→V|.con c=>.tup none [.str "con",.str c.str]|.lit i=>.tup none [.str "lit",.str "int",.int i]
noncomputable def sW:Ky→V|.con c=>.str c.str|.lit i=>.int i
noncomputable def Ky.kinds:Ky→List Ki|.con c=>[c.f1,c.f2].take c.ar|.lit _=>[]
noncomputable def Ky.fits(k:Ki):Ky→Prop|.con c=>c.ki=k|.lit _=>k=.I
noncomputable abbrev Br:=Ky × List Str × V
noncomputable def p5(b:Br):V:=.tup none [bP b.1,.lst (b.2.1.map V.str),b.2.2]
noncomputable def vT:List Con:=[.A,.B,.N,.Pr,.Nil,.Cons]
theorem Con.mem(c:Con):c∈vT:=by induction c using Con.casesOn<;>exact List.mem_of_elem_eq_true rfl
theorem xk:(vT.all fun c=>vT.all fun d=>decide (c=d)|| !(c.str==d.str))=true:=by decide+kernel
theorem gz{c d:Con}(h:c≠d):(c.str==d.str)=false:=by
 have:=List.all_eq_true.mp (List.all_eq_true.mp xk c c.mem) d d.mem
 rw[decide_eq_false h,Bool.false_or]at this
 exact Bool.not_eq_true' _▸this
theorem gv(c:Con):(c.str==c.str)=true:=beq_self_eq_true _
theorem wx{key key':Ky}:∃k,cr (match key with|.con c=>[.str "con",.str c.str]|.lit i=>[.str "lit",.str "int",.int i]) (-1)=some k∧bJ k (sW key')=some (decide (key=key')):=by
 induction key using Ky.casesOn with
 |con c=>
  refine bi _ rfl ?_
  induction key' using Ky.casesOn with
  |con d=>
   show some (c.str==d.str)=_
   by_cases e:c=d
   ·subst e;rw[gv];simp
   ·refine eR (gz e) ?_
    have:¬Ky.con c=Ky.con d:=fun h=>e (by injection h)
    simp[this]
  |lit j=>exact congrArg some (decide_eq_false fun h:Ky.con c=Ky.lit j=>nomatch h).symm
 |lit i=>
  refine bi _ rfl ?_
  induction key' using Ky.casesOn with
  |con d=>exact congrArg some (decide_eq_false fun h:Ky.lit i=Ky.con d=>nomatch h).symm
  |lit j=>
   show some (i==j)=_
   by_cases e:i=j
   ·subst e;simp
   ·have:¬Ky.lit i=Ky.lit j:=fun h=>e (by injection h)
    simp[this,e]
theorem iw(b:Br)(r:List V)(key:Ky)(o:V):gV (p5 b::r) (sW key) o=match decide (b.1=key)with|true=>some (b.2.1.map V.str,b.2.2)|false=>gV r (sW key) o:=by
 obtain⟨k,ls,t⟩:=b
 refine aT (wx (key:=k) (key':=key)) fun x e1 e2=>?_
 have e:∀kl,bP k=.tup none kl→cr kl (-1)=some x→gV (p5 (k,ls,t)::r) (sW key) o=match decide (k=key)with|true=>some (ls.map V.str,t)|false=>gV r (sW key) o:=fun kl q q'=>by
  have:gV (.tup none [.tup none kl,.lst (ls.map V.str),t]::r) (sW key) o=(match cr kl (-1)with|some k=>(match bJ k (sW key)with|some true=>some (ls.map V.str,t)|some false=>gV r (sW key) o|none=>none)|none=>none):=rfl
  unfold p5;dsimp only;refine eR q ?_;refine eR this ?_;refine eR q' ?_;dsimp only;refine eR e2 ?_;cases decide (k=key)<;>rfl
 clear e2;induction k using Ky.casesOn with
 |con c=>exact e _ rfl e1
 |lit i=>exact e _ rfl e1
theorem lI{key:Ky}{o:V}:∀{bl:List Br},(∃b∈bl,b.1=key)→∃b∈bl,b.1=key∧gV (bl.map p5) (sW key) o=some (b.2.1.map V.str,b.2.2)
 |[],h=>by refine aT h fun _ m _=>?_;cases m
 |b::r,h=>by
  by_cases e:b.1=key
  ·exact iK b (List.mem_cons_self ..) e (by rw[List.map_cons,iw];simp[e])
  ·refine aT h fun b' m e'=>?_
   clear h;rcases List.mem_cons.mp m with rfl|m
   ·exact absurd e' e
   ·refine jv (lI (bl:=r) (o:=o) (bi b' m e')) fun x mx ex px=>?_
    exact iK x (List.mem_cons_of_mem _ mx) ex (by rw[List.map_cons,iw];simp only [e,decide_false];exact px)
theorem lu{key:Ky}{o:V}:∀{bl:List Br},(∀b∈bl,b.1≠key)→gV (bl.map p5) (sW key) o=some (([]:List Str).map V.str,o)
 |[],h=>rfl
 |b::r,h=>by
  rw[List.map_cons,iw]
  simp only [h b (List.mem_cons_self ..),decide_false]
  exact lu fun x m=>h x (List.mem_cons_of_mem _ m)
theorem r5{k:Ki}{w:Wo}(hn:w≠.never)(hw:hV k w):∃key,tC w=some key∧key.fits k∧cE key.kinds w.args∧w.args.length=key.many∧∃id,aG w=.tup (some id) [sW key,.lst (w.args.map aG)]:=by
 induction w using Wo.casesOn with
 |never=>exact absurd rfl hn
 |int id j=>exact⟨_,rfl,hw,trivial,rfl,id,rfl⟩
 |con id c a b=>
  refine⟨_,rfl,hw.1,?_,?_,id,?_⟩
  ·obtain⟨h1,h2,h3⟩:=hw
   clear k hn h1;induction c using Con.casesOn with
   |A=>trivial
   |Nil=>trivial
   |N=>exact⟨h2 (Nat.succ_pos _),trivial⟩
   |B=>exact fz (h2 (Nat.succ_pos _)) (h3 rfl) trivial
   |Pr=>exact fz (h2 (Nat.succ_pos _)) (h3 rfl) trivial
   |Cons=>exact fz (h2 (Nat.succ_pos _)) (h3 rfl) trivial
  ·clear k hn hw;induction c using Con.casesOn<;>rfl
  ·clear k hn hw;induction c using Con.casesOn<;>rfl
theorem m7(key:Ky):(bJ (sW key) (.str "never")).isSome=true:=by induction key using Ky.casesOn<;>rfl
theorem nG(w:Wo):w.args.length≤2:=by
 induction w using Wo.casesOn with
 |con i c a b=>show([a,b].take c.ar).length≤2;refine eR List.length_take ?_;exact Nat.min_le_right _ _
 |_=>exact Nat.zero_le _
theorem vD{k:Ki}{p:Pt}{key:Ky}(h:cZ k p)(e:bG p=some key):key.fits k:=by
 induction p using Pt.casesOn<;>cases e
 ·exact h
 ·exact h.1
noncomputable def f9(R:Ln→Ln→Prop):List Ln→List Ln→Prop
 |[],[]=>True
 |l::r,l'::r'=>R l l'∧f9 R r r'
 |[],_::_=>False
 |_::_,[]=>False
theorem f9.imp{R R':Ln→Ln→Prop}(h:∀l l',R l l'→R' l l'):∀{a b},f9 R a b→f9 R' a b
 |[],[],_=>trivial
 |_::_,_::_,g=>⟨h _ _ g.1,f9.imp h g.2⟩
 |[],_::_,g=>g.elim
 |_::_,[],g=>g.elim
theorem f9.len{R:Ln→Ln→Prop}:∀{a b},f9 R a b→b.length=a.length
 |[],[],_=>rfl
 |_::_,_::_,g=>congrArg Nat.succ (f9.len g.2)
 |[],_::_,g=>g.elim
 |_::_,[],g=>g.elim
theorem ja{E:List Wo}{ws ws':List Wo}{f:Ln→List Ln}{R:Ln→Ln→Prop}{P P':Ln→Prop}(h:∀l l',R l l'→P l→P' l'→Sp E ws' ws l (f l')):
  ∀{a b:List Ln},f9 R a b→(∀l∈a,P l)→(∀l∈b,P' l)→Le E (dh (b.flatMap f) ws') (dh a ws)
 |[],[],_,_,_=>.refl
 |l::r,l'::r',g,p,p'=>by
  have ih:=ja h g.2 (fun x m=>p x (List.mem_cons_of_mem _ m)) (fun x m=>p' x (List.mem_cons_of_mem _ m))
  refine eR List.flatMap_cons ?_
  rcases h _ _ g.1 (p _ (List.mem_cons_self ..)) (p' _ (List.mem_cons_self ..))with⟨l'',e,hn,hl⟩|⟨e,hn⟩
  ·refine eR e ?_;exact iX hn hl ih
  ·refine eR e ?_;exact oS hn ih
 |[],_::_,g,_,_=>g.elim
 |_::_,[],g,_,_=>g.elim
section
variable {h:Nat}{cols:List Str}{ks:List Ki}{i:Nat}
theorem oO{ls ls':List Ln}{l:Ln}{r:List Ln}{bl:List Br}{o:V}(hls:ls=l::r)(hc:cols.length=ks.length)(hl:∀l∈ls,bQ ks l.ps)(hi:i<ks.length)(hk:gY ks i≠.N)
  (hid:(l.ps.take i).all cG=true) (ha:pz (be l.ps i)) (hp:f9 (PlainTo true i) ls ls')
  (hb:∀b∈bl,b.2.1.Nodup∧(∀n∈b.2.1,n∉cols)∧b.2.1.length=b.1.many∧db h b.2.2 (ax i b.2.1 cols) (ax i b.1.kinds ks) (ls'.flatMap (cw b.1 i)))
  (hkeys:∀l∈ls',∀k,bG (be l.ps i)=some k→∃b∈bl,b.1=k)
  (ho:(∀key:Ky,key.fits (gY ks i)→∃b∈bl,b.1=key)∨db h o (ax i [] cols) (ax i [] ks) (ls'.flatMap (bM i))):
  db (h+1) (.inst 418 [(2,.str (sn cols i)),(20,.lst (bl.map p5)),(14,o)]) cols ks ls:=fun kd ws a b=>by
 have hat:=gU i b (by refine eR hc ?_;exact hi)
 have hcw:cols.length=ws.length:=by rw[hc,dz a]
 rcases lL (fy ws i)with hn|hn
 ·rw[hn]at hat
  exact dA .nev ([.never]) (.switchN hat) (by rw[hls,jL (hl l (by rw[hls];exact List.mem_cons_self ..)) a hi hid ha hn];exact .refl)
 ·refine gC (b9 i a hi) fun _ hw _ _=>?_
  obtain⟨key,e1,e2,e3,e4,id,e5⟩:=r5 hn hw
  have mem:fy ws i∈(dh ls ws).2:=by refine eR hls ?_;exact oG (hl l (by refine eR hls ?_;exact List.mem_cons_self ..)) a hi hid ha hn
  rw[e5]at hat
  by_cases hx:∃b∈bl,b.1=key
  ·refine jv (lI (o:=o) hx) fun x mx ex px=>?_
   refine gC (hb x mx) fun n1 n2 n3 g=>?_
   rw[ex]at n3 g
   obtain⟨r',y,w,e⟩:=g (dp x.2.1 ((fy ws i).args.map aG) kd) (ax i (fy ws i).args ws) (jO a hi e3)
    (hZ (fH n2 b) (ir n1 (n3.trans e4.symm)) hcw (n3.trans e4.symm))
   refine dA r' (fy ws i::y) ?_ (lZ (e.trans ?_) mem)
   ·refine eR List.map_cons ?_;refine eR e5 ?_;exact .switch hat (m7 key) (by rw[List.length_map];exact nG _) px w
   ·exact ja (P':=fun _=>True) (fun l l' P hl _=>xM hl a hi P hk hn e1) hp hl (fun _ _=>trivial)
  ·have hx':∀b∈bl,b.1≠key:=fun b m e=>hx (bi b m e)
   rcases ho with ho|g
   ·exact absurd (ho key e2) hx
   ·refine eB (g kd (ax i [] ws) (jO a hi trivial) (hZ (vs:=[]) b trivial hcw rfl)) fun r' y w e=>?_
    refine dA r' (fy ws i::y) ?_ (lZ (e.trans ?_) mem)
    ·refine eR List.map_cons ?_;refine eR e5 ?_;exact .switch hat (m7 key) (by rw[List.length_map];exact nG _) (lu hx') w
    ·exact ja (P':=fun l'=>bG (be l'.ps i)≠some key) (fun l l' P hl hne=>uw hl a hi P hk hn e1 hne) hp hl
      (fun l' m e=>by refine aT (hkeys l' m _ e) fun b mb eb=>?_;exact hx' b mb eb)
noncomputable def v8:Pt→Pt
 |.con _ a _=>a
 |.bang q=>(match q with
  |.con _ a _=>.bang a
  |_=>.wild)
 |_=>.wild
noncomputable def dC(p:Pt):Pt:=v8 (aL false p)
theorem dF{p:Pt}(h:cZ .N p):aL false p=.wild∨(∃a b,aL false p=.con .N a b∧cZ .T a)∨∃a b,aL false p=.bang (.con .N a b)∧cZ .T a:=by
 have h':=fC false h
 rcases bL p with e|⟨i,e⟩|⟨c,a,b,e⟩|⟨q,e⟩
 ·exact .inl e
 ·rw[e]at h';injection h'
 ·rw[e]at h'
  obtain⟨h1,h2,_⟩:=h'
  induction c using Con.casesOn<;>first|(cases h1;done)|exact .inr (.inl ⟨a,b,e,h2⟩)
 ·rw[e]at h'
  obtain⟨h1,h2⟩:=h'
  have:=h2 rfl
  clear h h2;induction q using Pt.casesOn<;>first|exact this.elim|skip
  rename_i c a b
  subst this
  exact .inr (.inr ⟨a,b,e,h1.2.1⟩)
theorem wt{p:Pt}(h:cZ .N p):cZ .T (dC p):=by
 unfold dC
 rcases dF h with e|⟨a,b,e,g⟩|⟨a,b,e,g⟩
 ·refine eR e ?_;trivial
 ·refine eR e ?_;exact g
 ·refine eR e ?_;exact⟨g,fun e=>by injection e⟩
theorem t5{p:Pt}{w:Wo}(h:cZ .N p)(hw:hV .N w):fit (dC p) false w.a0=fit p false w:=by
 refine eE (eH h hw) ?_
 unfold dC
 rcases dF h with e|⟨a,b,e,g⟩|⟨a,b,e,g⟩
 ·refine eR e ?_;rfl
 ·refine eR e ?_;exact(if_pos rfl:fit (.con .N a b) false w=_).symm
 ·refine eR e ?_
  exact(if_pos rfl:fit (.con .N a b) true w=_).symm
theorem sG{ls ls':List Ln}{t:V}{nm:Str}{cc:V}(hc:cols.length=ks.length)(hl:∀l∈ls,bQ ks l.ps)(hi:i<ks.length)(hk:gY ks i=.N)(hnm:nm∉cols)
  (hp:f9 (fun l l'=>l'.num=l.num∧l'.lost=l.lost∧l'.ps=ax i [dC (be l.ps i)] l.ps) ls ls')
  (g:db h t (ax i [nm] cols) (ax i [.T] ks) ls'):
  db (h+1) (.inst 460 [(2,.str nm),(22,cc),(4,.str (sn cols i)),(21,t)]) cols ks ls:=fun kd ws a b=>by
 have hat:=gU i b (by refine eR hc ?_;exact hi)
 have hcw:cols.length=ws.length:=by rw[hc,dz a]
 refine gC (b9 i a hi) fun _ hw _ _=>?_
 replace hw:=hk▸hw
 refine kT (vO hw) fun id v u ew hv=>?_
 have e0:(fy ws i).a0=v:=by refine eR ew ?_;rfl
 have kn:cS (bn kd nm (aG v)) (ax i [nm] cols) (ax i [v] ws):=
  hZ (vs:=[v]) (gp hnm b) ⟨by rw[ix,if_pos rfl],trivial⟩ hcw rfl
 refine eB (g _ _ (jO (js:=[.T]) (qs:=[v]) a hi ⟨hv,trivial⟩) kn) fun r' y w e=>?_
 refine dA r' y ?_ (e.trans ?_)
 ·rw[ew]at hat
  exact .proj hat w
 ·have:=ja (E:=[]) (ws:=ws) (ws':=ax i [v] ws) (f:=fun l=>[l]) (P:=fun l=>bQ ks l.ps) (P':=fun _=>True) (fun l l' P ok _=>.inl ⟨l',rfl,P.1,uJ P.2.1 (.of_eq (by
   refine gC (aS i ok hi) fun _ hp _ _=>?_
   rw[hk]at hp
   refine eR P.2.2 ?_;refine eR (dU ok a hi rfl) ?_;refine eR (eM ok a hi) ?_
   show sq _ (sq (sq _ (.yes,[])) _)=_
   rw[c9,←e0,t5 hp hw]))⟩) hp hl (fun _ _=>trivial)
  rwa [List.flatMap_singleton']at this
end
end Mine
namespace Mine
open PySem
section
variable {T:Tab}{c:Calls}{wf:Nat}{ρ ρ1 ρ2:ay}{σ σ1 σ2 σ3:Store}{R:Option (Fl × ay × Store)}
theorem aa{x:Nat}{d:V}(h:ρ x=some (.v d)):ak T c (.var x) ρ σ=some (d,σ):=by show(match ρ x with|some (.v d)=>some (d,σ)|_=>none)=_;rw[h]
theorem aw{e:E}{a C:Nat}{fs:List (Nat × V)}{d:V}(h:ak T c e ρ σ=some (.inst C fs,σ1))(g:oQ T (.inst C fs) a=some d):ak T c (.attr e a) ρ σ=some (d,σ1):=by
 show(ak T c e ρ σ).bind _=_;refine eR h ?_;show(oQ T (.inst C fs) a).map _=_;refine eR g ?_;rfl
theorem aH{e i:E}{o k d:V}(h:ak T c e ρ σ=some (o,σ1))(h':ak T c i ρ σ1=some (k,σ2))(g:fj σ2 o k=some d):ak T c (.item e i) ρ σ=some (d,σ2):=by
 show(ak T c e ρ σ).bind _=_;refine eR h ?_;show(ak T c i ρ σ1).bind _=_;refine eR h' ?_;show(fj σ2 o k).map _=_;refine eR g ?_;rfl
theorem gE{e i:E}{o k d:V}(h:ak T c e ρ σ=some (o,σ1))(h':ak T c i ρ σ1=some (k,σ2))(g:fI o k=some d):ak T c (.sfrom e i) ρ σ=some (d,σ2):=by
 show(ak T c e ρ σ).bind _=_;refine eR h ?_;show(ak T c i ρ σ1).bind _=_;refine eR h' ?_;show(fI o k).map _=_;refine eR g ?_;rfl
theorem qN{e i:E}{o k d:V}(h:ak T c e ρ σ=some (o,σ1))(h':ak T c i ρ σ1=some (k,σ2))(g:nQ o k=some d):ak T c (.sto e i) ρ σ=some (d,σ2):=by
 show(ak T c e ρ σ).bind _=_;refine eR h ?_;show(ak T c i ρ σ1).bind _=_;refine eR h' ?_;show(nQ o k).map _=_;refine eR g ?_;rfl
theorem bh{op:Operator}{e i:E}{o k d:V}(h:ak T c e ρ σ=some (o,σ1))(h':ak T c i ρ σ1=some (k,σ2))(g:gA σ2 op o k=some d):ak T c (.bin op e i) ρ σ=some (d,σ2):=by
 show(ak T c e ρ σ).bind _=_;refine eR h ?_;show(ak T c i ρ σ1).bind _=_;refine eR h' ?_;show(gA σ2 op o k).map _=_;refine eR g ?_;rfl
theorem aQ{op:CmpOp}{e i:E}{o k:V}{b:Bool}(h:ak T c e ρ σ=some (o,σ1))(h':ak T c i ρ σ1=some (k,σ2))(g:gn σ2 op o k=some b):ak T c (.cmp op e i) ρ σ=some (.bool b,σ2):=by
 show(ak T c e ρ σ).bind _=_;refine eR h ?_;show(ak T c i ρ σ1).bind _=_;refine eR h' ?_;show(gn σ2 op o k).map _=_;refine eR g ?_;rfl
theorem cA{t b o:E}{d:V × Store}(h:ak T c t ρ σ=some (.bool true,σ1))(k:ak T c b ρ σ1=some d):ak T c (.ite t b o) ρ σ=some d:=by
 show(ak T c t ρ σ).bind _=_;refine eR h ?_;exact k
theorem bT{t b o:E}{d:V × Store}(h:ak T c t ρ σ=some (.bool false,σ1))(k:ak T c o ρ σ1=some d):ak T c (.ite t b o) ρ σ=some d:=by
 show(ak T c t ρ σ).bind _=_;refine eR h ?_;exact k
theorem aJ{f:Nat}{as:Es}{vs:List V}{d:V × Store}(h:b8 T c as ρ σ=some (vs,σ1))(g:c.fn f vs σ1=some d):ak T c (.call f as) ρ σ=some d:=by
 show(b8 T c as ρ σ).bind _=_;refine eR h ?_;exact g
theorem bz{f:Nat}{as:Es}{vs:List V}{d:V × Store}(h:b8 T c as ρ σ=some (vs,σ1))(g:c.new f vs σ1=some d):ak T c (.new f as) ρ σ=some d:=by
 show(b8 T c as ρ σ).bind _=_;refine eR h ?_;exact g
theorem bm{o:E}{m f C:Nat}{fs:List (Nat × V)}{as:Es}{vs:List V}{d:V × Store}(h0:ak T c o ρ σ=some (.inst C fs,σ1))(h:b8 T c as ρ σ1=some (vs,σ2))(e:(fs.lookup m).isNone=true)(hm:T.mth C m=some f)
  (g:c.fn f (.inst C fs::vs) σ2=some d):ak T c (.meth o m as) ρ σ=some d:=by
 show(ak T c o ρ σ).bind _=_;refine eR h0 ?_;show(b8 T c as ρ σ1).bind _=_;refine eR h ?_
 show(if(fs.lookup m).isNone=true then(T.mth C m).bind _ else _)=_
 refine eR (if_pos e) ?_;refine eR hm ?_;exact g
theorem bH{b:Blt}{as:Es}{vs:List V}{d:V × Store}(h:b8 T c as ρ σ=some (vs,σ1))(g:pP b vs σ1=some d):ak T c (.blt b as) ρ σ=some d:=by
 show(b8 T c as ρ σ).bind _=_;refine eR h ?_;exact g
theorem b5{e:E}{r:Es}{d:V}{ds:List V}(h:ak T c e ρ σ=some (d,σ1))(h':b8 T c r ρ σ1=some (ds,σ2)):b8 T c (.cons e r) ρ σ=some (d::ds,σ2):=by
 show(ak T c e ρ σ).bind _=_;refine eR h ?_;show(b8 T c r ρ σ1).bind _=_;refine eR h' ?_;rfl
theorem az{e:E}{d:V}(h:ak T c e ρ σ=some (d,σ1)):b8 T c (.cons e .nil) ρ σ=some ([d],σ1):=b5 h rfl
theorem aB{e f:E}{d d2:V}(h:ak T c e ρ σ=some (d,σ1))(h2:ak T c f ρ σ1=some (d2,σ2)):b8 T c (.cons e (.cons f .nil)) ρ σ=some ([d,d2],σ2):=b5 h (az h2)
theorem aF{e f g:E}{d d2 d3:V}(h:ak T c e ρ σ=some (d,σ1))(h2:ak T c f ρ σ1=some (d2,σ2))(h3:ak T c g ρ σ2=some (d3,σ3)):b8 T c (.cons e (.cons f (.cons g .nil))) ρ σ=some ([d,d2,d3],σ3):=b5 h (aB h2 h3)
theorem cD{as:Es}{vs:List V}(h:b8 T c as ρ σ=some (vs,σ1))(l:vs.length≤100):ak T c (.list as) ρ σ=some (.lst vs,σ1):=by
 show(b8 T c as ρ σ).bind _=_;refine eR h ?_;exact if_pos l
theorem kR{as:Es}{vs:List V}(h:b8 T c as ρ σ=some (vs,σ1))(l:vs.length≤100):ak T c (.tup as) ρ σ=some (.tup none vs,σ1):=by
 show(b8 T c as ρ σ).bind _=_;refine eR h ?_;exact if_pos l
theorem gf{e:E}{b:Bool}(h:ak T c e ρ σ=some (.bool b,σ1)):ak T c (.not e) ρ σ=some (.bool (!b),σ1):=by
 show(ak T c e ρ σ).bind _=_;refine eR h ?_;rfl
theorem bY{op:BoolOp}{e:E}{d:V × Store}(h:ak T c e ρ σ=some d):ak T c (.bop op (.cons e .nil)) ρ σ=some d:=by
 show(ak T c e ρ σ).bind _=_;refine eR h ?_;rfl
theorem jV{e:E}{e':E}{r:Es}(h:ak T c e ρ σ=some (.bool true,σ1)):ak T c (.bop .Or (.cons e (.cons e' r))) ρ σ=some (.bool true,σ1):=by
 show(ak T c e ρ σ).bind _=_;refine eR h ?_;rfl
theorem il{e:E}{e':E}{r:Es}{d:V × Store}(h:ak T c e ρ σ=some (.bool false,σ1))(k:ak T c (.bop .Or (.cons e' r)) ρ σ1=some d):ak T c (.bop .Or (.cons e (.cons e' r))) ρ σ=some d:=by
 show(ak T c e ρ σ).bind _=_;refine eR h ?_;exact k
theorem ba{e:E}{e':E}{r:Es}(h:ak T c e ρ σ=some (.bool false,σ1)):ak T c (.bop .And (.cons e (.cons e' r))) ρ σ=some (.bool false,σ1):=by
 show(ak T c e ρ σ).bind _=_;refine eR h ?_;rfl
theorem aU{e:E}{e':E}{r:Es}{d:V × Store}(h:ak T c e ρ σ=some (.bool true,σ1))(k:ak T c (.bop .And (.cons e' r)) ρ σ1=some d):ak T c (.bop .And (.cons e (.cons e' r))) ρ σ=some d:=by
 show(ak T c e ρ σ).bind _=_;refine eR h ?_;exact k
theorem cM{elt:E}{tg fv:List Nat}{it:It}{l r:List V}(h:cH T c it ρ σ=some (l,σ1))(hl:l.length≤bq)
  (k:compLoop (fun x σ=>(cP tg x (bo ρ fv)).bind fun ρ'=>(ak T c elt ρ' σ).bind fun(d,σ)=>some ([d],σ)) l σ1=some (r,σ2)):ak T c (.comp elt tg it fv) ρ σ=some (.lst r,σ2):=by
 show(cH T c it ρ σ).bind _=_;refine eR h ?_;show(if bq<l.length then _ else _)=_;refine eR (if_neg (Nat.not_lt.mpr hl)) ?_;refine eR k ?_;rfl
theorem c8{e:E}{d:V}{l:List V}(h:ak T c e ρ σ=some (d,σ1))(g:gH σ1 d=some l):cH T c (.val e) ρ σ=some (l,σ1):=by
 show(ak T c e ρ σ).bind _=_;refine eR h ?_;show(gH σ1 d).map _=_;refine eR g ?_;rfl
theorem de{e:E}{n:Nat}(h:ak T c e ρ σ=some (.int n,σ1))(g:n≤1000000):cH T c (.range e) ρ σ=some ((List.range n).map fun(i:Nat)=>V.int (i:Int),σ1):=by
 show(ak T c e ρ σ).bind _=_;refine eR h ?_;show(if(-1000000:Int)≤n∧(n:Int)≤1000000 then _ else _)=_;refine eR (if_pos ⟨by lia,by lia⟩) ?_;rfl
theorem bg{s:S}{r:Ss}(h:bA T c wf s ρ σ=some (.next,ρ1,σ1))(k:au T c wf r ρ1 σ1=R):au T c wf (.cons s r) ρ σ=R:=by
 show(bA T c wf s ρ σ).bind _=_;refine eR h ?_;exact k
theorem g5{s:S}{r:Ss}{d:V}(h:bA T c wf s ρ σ=some (.ret d,ρ1,σ1)):au T c wf (.cons s r) ρ σ=some (.ret d,ρ1,σ1):=by
 show(bA T c wf s ρ σ).bind _=_;refine eR h ?_;rfl
theorem aN{e:E}{r:Ss}{d:V}(h:ak T c e ρ σ=some (d,σ1)):au T c wf (.cons (.ret e) r) ρ σ=some (.ret d,ρ,σ1):=g5 (by show(ak T c e ρ σ).bind _=_;refine eR h ?_;rfl)
theorem ag{x:Nat}{e:E}{r:Ss}{d:V}(h:ak T c e ρ σ=some (d,σ1))(k:au T c wf r (ρ.set x (.v d)) σ1=R):au T c wf (.cons (.assign x e) r) ρ σ=R:=bg (by show(ak T c e ρ σ).bind _=_;refine eR h ?_;rfl) k
theorem fU{x y:Nat}{e f:E}{r:Ss}{d d2:V}(h:ak T c e ρ σ=some (d,σ1))(h2:ak T c f ρ σ1=some (d2,σ2))(k:au T c wf r ((ρ.set x (.v d)).set y (.v d2)) σ2=R):au T c wf (.cons (.assign2 x y e f) r) ρ σ=R:=
 bg (by show(ak T c e ρ σ).bind _=_;refine eR h ?_;show(ak T c f ρ σ1).bind _=_;refine eR h2 ?_;rfl) k
theorem eN{x y:Nat}{e:E}{r:Ss}{i:Option Nat}{a b:V}(h:ak T c e ρ σ=some (.tup i [a,b],σ1))(k:au T c wf r ((ρ.set x (.v a)).set y (.v b)) σ1=R):au T c wf (.cons (.unpack2 x y e) r) ρ σ=R:=bg (by show(ak T c e ρ σ).bind _=_;refine eR h ?_;rfl) k
theorem cT{t:E}{b o r:Ss}(h:ak T c t ρ σ=some (.bool true,σ1))(k:au T c wf b ρ σ1=some (.next,ρ1,σ2))(k2:au T c wf r ρ1 σ2=R):au T c wf (.cons (.ite t b o) r) ρ σ=R:=bg (by show(ak T c t ρ σ).bind _=_;refine eR h ?_;exact k) k2
theorem cU{t:E}{b o r:Ss}(h:ak T c t ρ σ=some (.bool false,σ1))(k:au T c wf o ρ σ1=some (.next,ρ1,σ2))(k2:au T c wf r ρ1 σ2=R):au T c wf (.cons (.ite t b o) r) ρ σ=R:=bg (by show(ak T c t ρ σ).bind _=_;refine eR h ?_;exact k) k2
theorem ao{t:E}{b r:Ss}(h:ak T c t ρ σ=some (.bool false,σ1))(k2:au T c wf r ρ σ1=R):au T c wf (.cons (.ite t b .nil) r) ρ σ=R:=cU h rfl k2
theorem aD{t:E}{b o r:Ss}{d:V}(h:ak T c t ρ σ=some (.bool true,σ1))(k:au T c wf b ρ σ1=some (.ret d,ρ1,σ2)):au T c wf (.cons (.ite t b o) r) ρ σ=some (.ret d,ρ1,σ2):=g5 (by show(ak T c t ρ σ).bind _=_;refine eR h ?_;exact k)
theorem n7{t:E}{b o r:Ss}{d:V}(h:ak T c t ρ σ=some (.bool false,σ1))(k:au T c wf o ρ σ1=some (.ret d,ρ1,σ2)):au T c wf (.cons (.ite t b o) r) ρ σ=some (.ret d,ρ1,σ2):=g5 (by show(ak T c t ρ σ).bind _=_;refine eR h ?_;exact k)
theorem gI{t:E}{b r:Ss}(h:cu (ak T c t) (au T c wf b) wf ρ σ=some (.next,ρ1,σ1))(k:au T c wf r ρ1 σ1=R):au T c wf (.cons (.while t b) r) ρ σ=R:=bg (by exact h) k
theorem sS{t:E}{b r:Ss}{d:V}(h:cu (ak T c t) (au T c wf b) wf ρ σ=some (.ret d,ρ1,σ1)):au T c wf (.cons (.while t b) r) ρ σ=some (.ret d,ρ1,σ1):=g5 (by exact h)
noncomputable abbrev fq(T:Tab)(c:Calls)(wf:Nat)(tg:List Nat)(b:Ss):V→ay→Store→Option (Fl × ay × Store):=fun x ρ σ=>(cP tg x ρ).bind fun ρ=>au T c wf b ρ σ
theorem eg{tg:List Nat}{it:It}{b r:Ss}{l:List V}(h:cH T c it ρ σ=some (l,σ1))(h2:aZ (fq T c wf tg b) l ρ σ1=some (.next,ρ1,σ2))(k:au T c wf r ρ1 σ2=R):au T c wf (.cons (.for tg it b) r) ρ σ=R:=
 bg (by show(cH T c it ρ σ).bind _=_;refine eR h ?_;exact h2) k
theorem gR{tg:List Nat}{it:It}{b r:Ss}{l:List V}{d:V}(h:cH T c it ρ σ=some (l,σ1))(h2:aZ (fq T c wf tg b) l ρ σ1=some (.ret d,ρ1,σ2)):au T c wf (.cons (.for tg it b) r) ρ σ=some (.ret d,ρ1,σ2):=
 g5 (by show(cH T c it ρ σ).bind _=_;refine eR h ?_;exact h2)
theorem eV{t:ay→Store→Option (V × Store)}{b:ay→Store→Option (Fl × ay × Store)}{n:Nat}(h:t ρ σ=some (.bool true,σ1))(k:b ρ σ1=some (.next,ρ2,σ2))(k2:cu t b n ρ2 σ2=R):cu t b (n+1) ρ σ=R:=by
 show(t ρ σ).bind _=_;refine eR h ?_;show(b ρ σ1).bind _=_;refine eR k ?_;exact k2
theorem yc{t:ay→Store→Option (V × Store)}{b:ay→Store→Option (Fl × ay × Store)}{n:Nat}{d:V}(h:t ρ σ=some (.bool true,σ1))(k:b ρ σ1=some (.ret d,ρ2,σ2)):cu t b (n+1) ρ σ=some (.ret d,ρ2,σ2):=by
 show(t ρ σ).bind _=_;refine eR h ?_;show(b ρ σ1).bind _=_;refine eR k ?_;rfl
theorem bV{t:ay→Store→Option (V × Store)}{b:ay→Store→Option (Fl × ay × Store)}{n:Nat}(h:t ρ σ=some (.bool false,σ1)):cu t b (n+1) ρ σ=some (.next,ρ,σ1):=by
 show(t ρ σ).bind _=_;refine eR h ?_;rfl
theorem cj{f:V→ay→Store→Option (Fl × ay × Store)}{x:V}{r:List V}(h:f x ρ σ=some (.next,ρ1,σ1))(k:aZ f r ρ1 σ1=R):aZ f (x::r) ρ σ=R:=by
 show(f x ρ σ).bind _=_;refine eR h ?_;exact k
theorem kU{f:V→ay→Store→Option (Fl × ay × Store)}{x:V}{r:List V}{d:V}(h:f x ρ σ=some (.ret d,ρ1,σ1)):aZ f (x::r) ρ σ=some (.ret d,ρ1,σ1):=by
 show(f x ρ σ).bind _=_;refine eR h ?_;rfl
theorem cJ{f:V→Store→Option (List V × Store)}{x:V}{r ys zs:List V}(h:f x σ=some (ys,σ1))(k:compLoop f r σ1=some (zs,σ2)):compLoop f (x::r) σ=some (ys++zs,σ2):=by
 show(f x σ).bind _=_;refine eR h ?_;show(compLoop f r σ1).bind _=_;refine eR k ?_;rfl
end
noncomputable abbrev so(n f:Nat)(vs:List V)(σ:Store):Option (V × Store):=(ac af n).new f vs σ
theorem aI{n f:Nat}{fi:Fn}{vs:List V}{σ σ':Store}{d:V}{ρ':ay}(hf:af.fns f=some fi)(hl:fi.params.length=vs.length)(h:au af.toTab (ac af n) n fi.body (aq fi.params vs) σ=some (.ret d,ρ',σ')):
  (ac af (n+1)).fn f vs σ=some (d,σ'):=by
 show(af.fns f).bind _=_
 refine eR hf ?_;show(if _ then _ else _)=_
 refine eR (if_pos hl) ?_;refine eR h ?_;rfl
theorem x6{n f:Nat}{fi:Fn}{vs:List V}{σ σ':Store}{ρ':ay}(hf:af.fns f=some fi)(hl:fi.params.length=vs.length)(h:au af.toTab (ac af n) n fi.body (aq fi.params vs) σ=some (.next,ρ',σ')):
  (ac af (n+1)).fn f vs σ=some (.none,σ'):=by
 show(af.fns f).bind _=_
 refine eR hf ?_;show(if _ then _ else _)=_
 refine eR (if_pos hl) ?_;refine eR h ?_;rfl
noncomputable def eT:Pt→V × List V
 |.wild=>(.inst 99 [(1,.none)],[])
 |.var s=>(.inst 72 [(1,.none),(2,.str s)],[])
 |.lit i=>(.inst 126 [(1,.none),(3,.str "int"),(4,.int i)],[])
 |.con c p q=>(.inst 153 [(1,.none),(2,.str c.str),(5,.lst ([(eT p).1,(eT q).1].take c.ar))],[])
 |.tup p q=>(.inst 180 [(1,.none),(6,.lst [(eT p).1,(eT q).1])],[])
 |.lnil=>(.inst 207 [(1,.none),(6,.lst [])],[])
 |.lcons x r=>(.inst 207 [(1,.none),(6,.lst ((eT x).1::(eT r).2))],(eT x).1::(eT r).2)
 |.as s p=>(.inst 234 [(1,.none),(2,.str s),(7,(eT p).1)],[])
 |.lazy p=>(.inst 261 [(1,.none),(7,(eT p).1)],[])
 |.bang p=>(.inst 288 [(1,.none),(7,(eT p).1)],[])
noncomputable def aM(p:Pt):V:=(eT p).1
theorem lb:∀p:Pt,(eT p).2.length≤sz p:=by
 intro p
 induction p with
 |lcons x r _ ih=>exact bw 1 447353270744052416513 rfl ih
 |_=>exact Nat.zero_le _
theorem mv{p:Pt}(h:p.isL):aM p=.inst 207 [(1,.none),(6,.lst (eT p).2)]:=by
 induction p using Pt.casesOn<;>first|exact h.elim|rfl
noncomputable def cy:Pt→Pt
 |.tup p q=>.con .Pr p q
 |.lnil=>.con .Nil .wild .wild
 |.lcons x r=>.con .Cons x r
 |.wild=>.wild|.var s=>.var s|.lit i=>.lit i|.con c p q=>.con c p q|.as s p=>.as s p|.lazy p=>.lazy p|.bang p=>.bang p
section
variable {n:Nat}{σ:Store}
theorem fR:so (n+1) 99 [.none] σ=some (aM .wild,σ):=rfl
theorem wq(s:Str):so (n+1) 72 [.str s,.none] σ=some (aM (.var s),σ):=rfl
theorem gF(p:Pt):so (n+1) 288 [aM p,.none] σ=some (aM (.bang p),σ):=rfl
theorem jf(nm args:V):so (n+1) 153 [nm,args,.none] σ=some (.inst 153 [(1,.none),(2,nm),(5,args)],σ):=rfl
theorem mr(args:V):so (n+1) 207 [args,.none] σ=some (.inst 207 [(1,.none),(6,args)],σ):=rfl
noncomputable def aR(l:Ln):V:=.inst 507 [(17,.int (l.num:Nat)),(23,.lst (l.ps.map aM)),(18,.lst l.binds),(24,.bool l.lost)]
theorem gT(m:Nat)(ps bs:List V)(b:Bool):so (n+1) 507 [.int (m:Nat),.lst ps,.lst bs,.bool b] σ=some (.inst 507 [(17,.int (m:Nat)),(23,.lst ps),(18,.lst bs),(24,.bool b)],σ):=rfl
end
end Mine
namespace Mine
open PySem
theorem xR:(("(":Str)++(",":Str)++(")":Str))=("(,)":Str):=by decide+kernel
theorem qa:(("int":Str)==("text":Str))=false:=by decide+kernel
theorem mJ:("(":Str).length=1∧(",":Str).length=1∧(")":Str).length=1:=by decide+kernel
theorem zt:(("(":Str)++(",":Str)).length=2:=by decide+kernel
theorem gG{σ:Store}{a b:Str}(h:a.length+b.length≤bq):gA σ .Add (.str a) (.str b)=some (.str (a++b)):=by
 exact if_pos h
theorem d7{σ:Store}{a b:List V}(h:a.length+b.length≤bq):gA σ .Add (.lst a) (.lst b)=some (.lst (a++b)):=by
 exact if_pos h
theorem eK{l:List V}{i:Nat}(h:i<2 ^ 63)(g:l.length≤bq):fI (.lst l) (.int (i:Nat))=some (.lst (l.drop i)):=by
 unfold fI;rw[show kr (.lst l)=some l from rfl,Option.bind_some,show sY (.int (i:Nat))=some (i:Int)from rfl,Option.bind_some,if_pos (fz (by lia) (by lia) g)];rfl
theorem je{l:List V}{i:Nat}(h:i<2 ^ 63)(g:l.length≤bq):nQ (.lst l) (.int (i:Nat))=some (.lst (l.take i)):=by
 unfold nQ;rw[show kr (.lst l)=some l from rfl,Option.bind_some,show sY (.int (i:Nat))=some (i:Int)from rfl,Option.bind_some,if_pos (fz (by lia) (by lia) g)];rfl
theorem dP{σ:Store}{l:List V}{i:Nat}{d:V}(h:i<2 ^ 63)(g:l[i]? =some d):fj σ (.lst l) (.int (i:Nat))=some d:=by
 unfold fj;dsimp only;unfold cr
 refine eR (if_pos (Int.natCast_nonneg i)) ?_;refine eR (if_pos (by lia)) ?_;exact g
section
variable {n:Nat}{σ:Store}
noncomputable def eU:Str:=","
theorem kw:(ac af (n+1)).fn 298 [.int 2] σ=some (.str Con.Pr.str,σ):=by
 have a:gA σ .Mult (.str ",") (.int 1)=some (.str eU):=(if_pos ⟨rfl,by refine eR (show(Str.ofString ",").length=1 from mJ.2.1) ?_;decide⟩:(if(1:Int)=1∧(Str.ofString ",").length≤1000 then some (V.str eU)else none)=_)
 have b:gA σ .Add (.str "(") (.str eU)=some (.str (("(":Str)++eU)):=gG (by refine eR mJ.1 ?_;refine eR (show eU.length=1 from mJ.2.1) ?_;decide)
 have c:gA σ .Add (.str (("(":Str)++eU)) (.str ")")=some (.str (("(":Str)++eU++(")":Str))):=gG (by rw[show(("(":Str)++eU).length=2 from zt,mJ.2.2];decide)
 have e:(("(":Str)++eU++(")":Str))=Con.Pr.str:=xR
 rw[e]at c
 exact aI (fi:=⟨[8],z7⟩) (ρ':=_) rfl rfl (aN (bT (aQ (o:=.int 2) (aa rfl) rfl rfl) (bh (k:=.str ")") (bh (o:=.str "(") rfl (bh (o:=.str ",") (k:=.int 1) rfl rfl a) b) rfl c)))
theorem kz:(ac af (n+2)).fn 312 [.lst []] σ=some (aM (.con .Nil .wild .wild),σ):=rfl
theorem km{x:V}{r:List V}(h:r.length<bq):(ac af (n+2)).fn 312 [.lst (x::r)] σ=some (.inst 153 [(1,.none),(2,.str Con.Cons.str),(5,.lst [x,.inst 207 [(1,.none),(6,.lst r)]])],σ):=by
 refine aI (fi:=⟨[6],Av⟩) (ρ':=_) rfl rfl (aN (bT (aQ (o:=.lst (x::r)) (k:=.lst []) (aa rfl) rfl rfl) (bz (aF (d:=.str Con.Cons.str) (d3:=.none) rfl (cD (aB (aH (o:=.lst (x::r)) (aa rfl) rfl rfl)
  (bz (aB (d2:=.none) (gE (o:=.lst (x::r)) (k:=.int 1) (d:=.lst r) (aa rfl) rfl ?_) rfl) (mr _))) (by show 2≤100;decide)) rfl) (jf _ _))))
 exact eK (i:=1) (by decide) h
theorem dc{k:Ki}{p:Pt}(hk:cZ k p)(h:sz p≤1000):(ac af (n+3)).fn 326 [aM p] σ=some (aM (cy p),σ):=by
 induction p using Pt.casesOn with
 |tup p q=>
  exact aI (fi:=⟨[7],tG⟩) (ρ':=_) rfl rfl (aD (ρ1:=_) rfl (aN (bz (aF (d2:=.lst [aM p,aM q]) (d3:=.none) (aJ (vs:=[.int 2]) (az (bH (vs:=[.lst [aM p,aM q]]) rfl rfl)) kw) rfl rfl) (jf _ _))))
 |lnil=>exact aI (fi:=⟨[7],tG⟩) (ρ':=_) rfl rfl (ao rfl (aD (ρ1:=_) rfl (aN (aJ (vs:=[.lst []]) rfl kz))))
 |lcons x r=>
  refine aI (fi:=⟨[7],tG⟩) (ρ':=_) rfl rfl (ao rfl (aD (ρ1:=_) rfl (aN (aJ (vs:=[.lst (aM x::(eT r).2)]) rfl ?_))))
  have hl:=lb r
  have:sz r<1000:=by have:1+sz x+sz r≤1000:=h;exact aP 1 79230697657164576642839148249089 rfl this
  refine eR (km (by show _<1000000;exact aP 2 20769853669947919299020574973021667329 rfl hl this)) ?_;refine eE (mv hk.2.2.1) ?_;rfl
 |lit i=>
  refine aI (fi:=⟨[7],tG⟩) (ρ':=_) rfl rfl (ao rfl (ao rfl (ao (aU rfl (bY (aQ (o:=.str "int") (k:=.str "text") rfl rfl ?_))) (aN rfl))))
  show some (("int":Str)==("text":Str))=_
  rw[qa]
 |wild=>rfl
 |var s=>rfl
 |con c p q=>rfl
 |as s p=>rfl
 |lazy p=>rfl
 |bang p=>rfl
end
end Mine
namespace Mine
open PySem
theorem o7{a:V}:[a].length≤100:=Nat.le_add_left 1 99
theorem rH{a b:V}:[a,b].length≤100:=Nat.le_add_left 2 98
theorem gD{α β:Type}(f:α→β)(i:Nat)(qs ps:List α):(ax i qs ps).map f=ax i (qs.map f) (ps.map f):=by
 unfold ax;rw[List.map_append,List.map_append,List.map_take,List.map_drop]
section
variable {T:Tab}{c:Calls}{wf:Nat}{ρ ρ1 ρ2:ay}{σ σ1 σ2 σ3:Store}
theorem gQ{A B P:E}{l m:List V}{i:Nat}(hA:ak T c A ρ σ=some (.lst l,σ))(hB:ak T c B ρ σ=some (.lst m,σ))(hp:ak T c P ρ σ=some (.int (i:Nat),σ))(hl:l.length≤5000)(hm:m.length≤5000)(hi:i<1000000):
  ak T c (.bin .Add (.bin .Add (.sto A P) B) (.sfrom A (.bin .Add P (.int 1)))) ρ σ=some (.lst (ax i m l),σ):=by
 have h1:l.length≤1000000:=bI 1 23612057306397470635340033 rfl hl
 refine bh (bh (qN hA hp (je (by lia) h1)) hB (d7 ?_)) (gE hA (bh (d:=.int ((i+1:Nat):Int)) hp rfl rfl) (eK (by lia) h1)) (d7 ?_)
 ·refine eR List.length_take ?_;show _≤1000000;lia
 ·refine eR List.length_append ?_;refine eR List.length_take ?_;refine eR List.length_drop ?_;show _≤1000000;lia
theorem Bg{A P:E}{l:List V}{i:Nat}(hA:ak T c A ρ σ=some (.lst l,σ))(hp:ak T c P ρ σ=some (.int (i:Nat),σ))(hl:l.length≤5000)(hi:i<1000000):
  ak T c (.bin .Add (.sto A P) (.sfrom A (.bin .Add P (.int 1)))) ρ σ=some (.lst (ax i [] l),σ):=by
 have h1:l.length≤1000000:=bI 1 23612057306397470635340033 rfl hl
 refine(bh (qN hA hp (je (by lia) h1)) (gE hA (bh (d:=.int ((i+1:Nat):Int)) hp rfl rfl) (eK (by lia) h1)) (d7 ?_)).trans ?_
 ·refine eR List.length_take ?_;refine eR List.length_drop ?_;show _≤1000000;lia
 ·unfold ax;rw[List.append_nil]
end
noncomputable def bS(ps:List Pt):Nat:=(ps.map sz).sum
theorem g6(a b:List Pt):bS (a++b)=bS a+bS b:=by unfold bS;rw[List.map_append,List.sum_append]
theorem bk(a:Pt)(b:List Pt):bS (a::b)=sz a+bS b:=by unfold bS;rw[List.map_cons,List.sum_cons]
theorem hJ(n:Nat):bS (List.replicate n .wild)=0:=by
 induction n with
 |zero=>rfl
 |succ n ih=>rw[List.replicate_succ,bk,ih];rfl
theorem bW{ps:List Pt}{i:Nat}(h:i<ps.length):bS ps=bS (ps.take i)+sz (be ps i)+bS (ps.drop (i+1)):=by
 have e:ps=ps.take i++be ps i::ps.drop (i+1):=by
  unfold be;refine eR (List.getD_eq_getElem?_getD) ?_;refine eR (List.getElem?_eq_getElem h) ?_
  show ps=ps.take i++ps[i]::ps.drop (i+1)
  rw[List.getElem_cons_drop,List.take_append_drop]
 have:=congrArg bS e
 rw[g6,bk]at this;exact Nat.le_antisymm (dW 1 2143960148961127477281025 rfl (Nat.le_of_eq this)) (dW 1 2144323390166772766212097 rfl (Nat.le_of_eq this.symm))
theorem d6{ps qs:List Pt}{i:Nat}:bS (ax i qs ps)=bS (ps.take i)+bS qs+bS (ps.drop (i+1)):=by
 unfold ax;rw[g6,g6]
structure Fits(l:Ln):Prop where
 len:l.ps.length≤1000
 size:l.binds.length+bS l.ps≤60
theorem Fits.at_le{l:Ln}(h:Fits l)(i:Nat):sz (be l.ps i)≤60:=by
 by_cases hi:i<l.ps.length
 ·have:=bW hi;have:=h.size;lia
 ·have:be l.ps i=.wild:=by unfold be;refine eR (List.getD_eq_getElem?_getD) ?_;refine eR (List.getElem?_eq_none (Nat.not_lt.mp hi)) ?_;rfl
  refine eR this ?_;exact Nat.zero_le _
theorem dy{σ:Store}{ps:List Pt}{i:Nat}(h:i<ps.length)(hp:ps.length≤1000):fj σ (.lst (ps.map aM)) (.int (i:Nat))=some (aM (be ps i)):=by
 refine dP (by lia) ?_
 refine eR (List.getElem?_map) ?_
 unfold be;refine eR (List.getD_eq_getElem?_getD) ?_;refine eR (List.getElem?_eq_getElem h) ?_;rfl
section
variable {n:Nat}{σ:Store}
noncomputable abbrev Cp:E:=.bop .Or (.cons (.isi (.var 7) [72,234,261]) (.cons (.bop .And (.cons (.var 26) (.cons (.isi (.var 7) [288]) .nil))) .nil))
noncomputable abbrev Cq:Ss:=.cons (.ite (.isi (.var 7) [288]) (.cons (.assign 7 (.attr (.var 7) 7)) .nil) (.cons (.ite (.isi (.var 7) [261]) (.cons (.assign2 18 7 (.bin .Add (.var 18) (.list (.cons (.tup (.cons (.attr (.var 7) 7) (.cons (.var 27) .nil))) .nil))) (.new 99 (.cons .none .nil))) .nil) (.cons (.assign 18 (.bin .Add (.var 18) (.list (.cons (.tup (.cons (.attr (.var 7) 2) (.cons (.var 27) .nil))) .nil)))) (.cons (.assign 7 (.ite (.isi (.var 7) [234]) (.attr (.var 7) 7) (.new 99 (.cons .none .nil)))) .nil))) .nil)) (.cons (.assign 7 (.call 326 (.cons (.var 7) .nil))) .nil)
theorem b7{b:Bool}{p:Pt}{ρ:ay}{f:Nat}(h7:ρ 7=some (.v (aM p)))(h26:ρ 26=some (.v (.bool b)))(h:(ak af.toTab (ac af (n+4)) (.isi (.var 7) [72,234,261]) ρ σ)=some (.bool false,σ))
  (h':b=true→(ak af.toTab (ac af (n+4)) (.isi (.var 7) [288]) ρ σ)=some (.bool false,σ)):cu (ak af.toTab (ac af (n+4)) Cp) (au af.toTab (ac af (n+4)) (n+4) Cq) (f+1) ρ σ=some (.next,ρ,σ):=by
 refine bV (il h (bY ?_))
 induction b using Bool.casesOn with
 |false=>exact ba (aa h26)
 |true=>exact aU (aa h26) (bY (h' rfl))
theorem ah{T:Tab}{c:Calls}{ρ:ay}{x C:Nat}{fs:List (Nat × V)}{cs:List Nat}{b:Bool}(h:ρ x=some (.v (.inst C fs)))(g:(T.cls C&&cs.all T.cls&&decide (cs.length<20))=true)(e:cs.contains C=b):ak T c (.isi (.var x) cs) ρ σ=some (.bool b,σ):=by
 show(match ρ x with|some (.v d)=>some (d,σ)|_=>none).bind _=_
 refine eR h ?_
 show(if(T.cls C&&cs.all T.cls&&decide (cs.length<20))=true then _ else _)=_
 rw[if_pos g,e]
theorem pc{k:Ki}{b:Bool}{cv:V}:∀{p:Pt}{f:Nat}{ρ:ay}{bs:List V},cZ k p→ρ 7=some (.v (aM (cy p)))→ρ 18=some (.v (.lst bs))→ρ 26=some (.v (.bool b))→ρ 27=some (.v cv)→sz p<f→bs.length+sz p≤1000→
  ∃ρ' bs',cu (ak af.toTab (ac af (n+4)) Cp) (au af.toTab (ac af (n+4)) (n+4) Cq) f ρ σ=some (.next,ρ',σ)∧ρ' 7=some (.v (aM (aL b p)))∧ρ' 18=some (.v (.lst bs'))∧(∀j,j≠7→j≠18→ρ' j=ρ j)∧bs'.length+sz (aL b p)≤bs.length+sz p:=by
 intro p
 induction p with
 |as s p ih=>
  intro f ρ bs ok h7 h18 h26 h27 hf hb
  refine Exists.elim (sx f 1 (aP 1 19315541952065 rfl hf)) fun f z1=>?_;subst z1
  have hs:sz (.as s p)=1+sz p:=rfl
  refine s7 (ih (f:=f) (ρ:=((ρ.set 18 (.v (.lst (bs++[.tup none [.str s,cv]])))).set 7 (.v (aM p))).set 7 (.v (aM (cy p)))) (bs:=bs++[.tup none [.str s,cv]]) ok rfl rfl h26 h27 (bw 2 480804312143385959358238310401 rfl hf (Nat.le_of_eq hs.symm)) (by refine eR List.length_append ?_;simp only [List.length_cons,List.length_nil];exact bw 2 33125691286705140382124382147608323293185 rfl hb (Nat.le_of_eq hs.symm))) fun ρ' bs' e a7 a18 aj al=>?_
  refine jT ρ' bs' (eV (jV (ah h7 rfl rfl)) (cU (ah h7 rfl rfl) (cU (ah h7 rfl rfl) (ag (bh (aa h18) (cD (az (kR (aB (aw (aa h7) rfl) (aa h27)) rH)) o7) (d7 ?_)) (ag (cA (ah h7 rfl rfl) (aw (aa h7) rfl)) rfl)) rfl) (ag (aJ (az (aa rfl)) (dc ok (bw 2 1969374459682399378477388917125377 rfl hb (Nat.le_of_eq hs.symm)))) rfl)) e) a7 a18 ?_ ?_
  ·exact aP 1 79230697952830211947044878434305 rfl hb
  ·intro j j1 j2;refine eR (aj j j1 j2) ?_;simp only [ay.set,if_neg j1,if_neg j2]
  ·refine Nat.le_trans al ?_
   refine eR List.length_append ?_;refine eR hs ?_;simp only [List.length_cons,List.length_nil];exact aP 0 6214985083746516993 rfl
 |var s=>
  intro f ρ bs ok h7 h18 h26 h27 hf hb
  have hs:sz (.var s)=1:=rfl
  obtain⟨f,rfl⟩:∃g,f=g+1+1:=⟨f-2,by lia⟩
  refine jT (((ρ.set 18 (.v (.lst (bs++[.tup none [.str s,cv]])))).set 7 (.v (aM .wild))).set 7 (.v (aM .wild))) (bs++[.tup none [.str s,cv]]) (eV (jV (ah h7 rfl rfl)) (cU (ah h7 rfl rfl) (cU (ah h7 rfl rfl) (ag (bh (aa h18) (cD (az (kR (aB (aw (aa h7) rfl) (aa h27)) rH)) o7) (d7 ?_)) (ag (bT (ah h7 rfl rfl) (bz (az rfl) fR)) rfl)) rfl) (ag (aJ (az (aa rfl)) (dc (k:=k) (p:=.wild) trivial (Nat.zero_le _))) rfl)) (by exact b7 (p:=.wild) rfl h26 (ah rfl rfl rfl) (fun _=>ah rfl rfl rfl))) rfl rfl ?_ ?_
  ·exact aP 1 79230697952830211947044878434305 rfl hb
  ·intro j j1 j2;simp only [ay.set,if_neg j1,if_neg j2]
  ·refine eR List.length_append ?_;refine eR hs ?_;exact bI 0 7054492794093569 rfl
 |lazy p _=>
  intro f ρ bs ok h7 h18 h26 h27 hf hb
  have hs:sz (.lazy p)=1+sz p:=rfl
  obtain⟨f,rfl⟩:∃g,f=g+1+1:=⟨f-2,by lia⟩
  refine jT (((ρ.set 18 (.v (.lst (bs++[.tup none [aM p,cv]])))).set 7 (.v (aM .wild))).set 7 (.v (aM .wild))) (bs++[.tup none [aM p,cv]]) (eV (jV (ah h7 rfl rfl)) (cU (ah h7 rfl rfl) (cT (ah h7 rfl rfl) (fU (bh (aa h18) (cD (az (kR (aB (aw (aa h7) rfl) (aa h27)) rH)) o7) (d7 ?_)) (bz (az rfl) fR) rfl) rfl) (ag (aJ (az (aa rfl)) (dc (k:=k) (p:=.wild) trivial (Nat.zero_le _))) rfl)) (by exact b7 (p:=.wild) rfl h26 (ah rfl rfl rfl) (fun _=>ah rfl rfl rfl))) rfl rfl ?_ ?_
  ·exact aP 1 79230697952830211947044878434305 rfl hb
  ·intro j j1 j2;simp only [ay.set,if_neg j1,if_neg j2]
  ·refine eR List.length_append ?_;refine eR hs ?_;exact aP 0 6214985104147611649 rfl
 |bang p ih=>
  intro f ρ bs ok h7 h18 h26 h27 hf hb
  refine Exists.elim (sx f 1 (aP 1 19315541952065 rfl hf)) fun f z1=>?_;subst z1
  have hs:sz (.bang p)=1+sz p:=rfl
  induction b using Bool.casesOn with
  |false=>exact jT ρ bs (b7 h7 h26 (ah h7 rfl rfl) (fun h=>by exact bE h)) h7 h18 (fun _ _ _=>rfl) (Nat.le_refl _)
  |true=>
   refine s7 (ih (f:=f) (ρ:=(ρ.set 7 (.v (aM p))).set 7 (.v (aM (cy p)))) (bs:=bs) ok.1 rfl h18 h26 h27 (bw 2 480804312143385959358238310401 rfl hf (Nat.le_of_eq hs.symm)) (bw 2 8087326974293247163604585485255852033 rfl hb (Nat.le_of_eq hs.symm))) fun ρ' bs' e a7 a18 aj al=>?_
   refine jT ρ' bs' (eV (il (ah h7 rfl rfl) (bY (aU (aa h26) (bY (ah h7 rfl rfl))))) (cT (ah h7 rfl rfl) (ag (aw (aa h7) rfl) rfl) (ag (aJ (az (aa rfl)) (dc ok.1 (bw 2 1969374459682399378477388917125377 rfl hb (Nat.le_of_eq hs.symm)))) rfl)) e) a7 a18 ?_ ?_
   ·intro j j1 j2;refine eR (aj j j1 j2) ?_;simp only [ay.set,if_neg j1]
   ·exact Nat.le_trans al (aP 0 1517330342625281 rfl)
 |wild=>
  intro f ρ bs ok h7 h18 h26 h27 hf hb
  obtain⟨f,rfl⟩:=sx f 1 (aP 1 19315541952065 rfl hf)
  exact jT ρ bs (b7 h7 h26 (ah h7 rfl rfl) (fun _=>ah h7 rfl rfl)) h7 h18 (fun _ _ _=>rfl) (Nat.le_refl _)
 |lit i=>
  intro f ρ bs ok h7 h18 h26 h27 hf hb
  obtain⟨f,rfl⟩:=sx f 1 (aP 1 19315541952065 rfl hf)
  exact jT ρ bs (b7 h7 h26 (ah h7 rfl rfl) (fun _=>ah h7 rfl rfl)) h7 h18 (fun _ _ _=>rfl) (Nat.le_refl _)
 |con c p q _ _=>
  intro f ρ bs ok h7 h18 h26 h27 hf hb
  obtain⟨f,rfl⟩:=sx f 1 (aP 1 19315541952065 rfl hf)
  exact jT ρ bs (b7 h7 h26 (ah h7 rfl rfl) (fun _=>ah h7 rfl rfl)) h7 h18 (fun _ _ _=>rfl) (Nat.le_refl _)
 |tup p q _ _=>
  intro f ρ bs ok h7 h18 h26 h27 hf hb
  obtain⟨f,rfl⟩:=sx f 1 (aP 1 19315541952065 rfl hf)
  exact jT ρ bs (b7 h7 h26 (ah h7 rfl rfl) (fun _=>ah h7 rfl rfl)) h7 h18 (fun _ _ _=>rfl) (Nat.le_refl _)
 |lnil=>
  intro f ρ bs ok h7 h18 h26 h27 hf hb
  obtain⟨f,rfl⟩:=sx f 1 (aP 1 19315541952065 rfl hf)
  exact jT ρ bs (b7 h7 h26 (ah h7 rfl rfl) (fun _=>ah h7 rfl rfl)) h7 h18 (fun _ _ _=>rfl) (Nat.le_refl _)
 |lcons p q _ _=>
  intro f ρ bs ok h7 h18 h26 h27 hf hb
  obtain⟨f,rfl⟩:=sx f 1 (aP 1 19315541952065 rfl hf)
  exact jT ρ bs (b7 h7 h26 (ah h7 rfl rfl) (fun _=>ah h7 rfl rfl)) h7 h18 (fun _ _ _=>rfl) (Nat.le_refl _)
theorem gL{k:Ki}{l:Ln}{i:Nat}{col:V}{b:Bool}(F:Fits l)(hi:i<l.ps.length)(ok:cZ k (be l.ps i))(hn:60≤n):
  ∃l',(ac af (n+5)).fn 492 [aR l,.int (i:Nat),col,.bool b] σ=some (aR l',σ)∧PlainTo b i l l'∧Fits l':=by
 have h0:=bW hi
 have hsz:=F.size
 have hlen:=F.len
 obtain⟨ρ',bs',e,a7,a18,aj,al⟩:=pc (n:=n) (σ:=σ) (cv:=col) (b:=b) (p:=be l.ps i) (f:=n+4) (bs:=l.binds)
  (ρ:=((aq [0,1,27,26] [aR l,.int (i:Nat),col,.bool b]).set 7 (.v (aM (cy (be l.ps i))))).set 18 (.v (.lst l.binds))) ok rfl rfl rfl rfl (zO 3 85658251977183611777502564669327357269338505236 rfl hn (Nat.le_of_eq h0.symm) hsz) (mC 2 5105629655804397979039484974412395200513 rfl (Nat.le_of_eq h0.symm) hsz)
 have a0:ρ' 0=some (.v (aR l)):=by refine eR (aj 0 (by decide) (by decide)) ?_;rfl
 have a1:ρ' 1=some (.v (.int (i:Nat))):=by refine eR (aj 1 (by decide) (by decide)) ?_;rfl
 refine iK ⟨l.num,ax i [aL b (be l.ps i)] l.ps,bs',l.lost⟩ ?_ ⟨rfl,rfl,rfl⟩ ⟨?_,?_⟩
 ·refine aI (fi:=⟨[0,1,27,26],Ar⟩) (ρ':=_) rfl rfl (fU (d:=aM (cy (be l.ps i))) (d2:=.lst l.binds) (aJ (az (aH (aw (d:=.lst (l.ps.map aM)) (aa rfl) rfl) (aa rfl) (dy hi hlen))) (dc ok (mC 2 1246491540910213445904225199783948545 rfl (Nat.le_of_eq h0.symm) hsz))) (aw (aa rfl) rfl)
   (gI e (ag (gQ (l:=l.ps.map aM) (m:=[aM (aL b (be l.ps i))]) (aw (aa a0) rfl) (cD (az (aa a7)) o7) (aa a1) (by rw[List.length_map];exact bI 1 73789337311424788836609 rfl hlen) (by simp) (aP 2 20769852080536871459564772062572855297 rfl hi hlen)) (aN (bz (vs:=[.int (l.num:Nat),.lst (ax i [aM (aL b (be l.ps i))] (l.ps.map aM)),.lst bs',.bool l.lost]) (b5 (aw (aa a0) rfl) (aF (aa rfl) (aa a18) (aw (aa a0) rfl))) ?_)))))
  refine(gT _ _ _ _).trans ?_;unfold aR;rw[gD];rfl
 ·have:=gZ (qs:=[aL b (be l.ps i)]) hi
  simp only [List.length_cons,List.length_nil]at this
  exact aP 2 8138347879343342672334748408885505 rfl hlen (Nat.le_of_eq this)
 ·refine eR d6 ?_;show bs'.length+(_+(sz (aL b (be l.ps i))+0)+_)≤_;exact Cv 3 3276656396637391993203217666275075570118311114161077201420289 rfl (Nat.le_of_eq h0.symm) hsz al
theorem fJ{l:Ln}{i:Nat}{qs:List Pt}(hl:l.ps.length≤1000)(hi:i<l.ps.length)(hq:qs.length≤1000):
  (ac af (n+2)).fn 499 [aR l,.int (i:Nat),.lst (qs.map aM)] σ=some (aR (br l (ax i qs l.ps)),σ):=by
 refine aI (fi:=⟨[0,1,23],z6⟩) (ρ':=_) rfl rfl (aN (bz (vs:=[.int (l.num:Nat),.lst (ax i (qs.map aM) (l.ps.map aM)),.lst l.binds,.bool l.lost]) (b5 (aw (aa rfl) rfl) (aF (gQ (l:=l.ps.map aM) (m:=qs.map aM) (aw (aa rfl) rfl) (aa rfl) (aa rfl) (by rw[List.length_map];exact bI 1 73789337311424788836609 rfl hl) (by rw[List.length_map];exact bI 1 73789337311424788836609 rfl hq) (aP 2 7166667837564290462543400330657546241 rfl hl hi)) (aw (aa rfl) rfl) (aw (aa rfl) rfl))) ?_))
 refine(gT _ _ _ _).trans ?_;unfold aR br;rw[gD]
end
end Mine
namespace Mine
open PySem PySem.W
noncomputable def zN(nm:Str)(tag ar:Int)(tn:Str)(sib:Int)(nt:Bool):V:=.inst 587 [(2,.str nm),(16,.int tag),(10,.int ar),(57,.lst []),(15,.str tn),(58,.none),(12,.int sib),(11,.bool nt)]
noncomputable def fg:V:=.dct [("M.A",zN "M.A" 0 0 "T" 2 false),("M.B",zN "M.B" 1 2 "T" 2 false),("M.N",zN "M.N" 0 1 "N" 1 true)]
noncomputable def b4:V:=.inst 362 [(9,fg)]
section
variable {n:Nat}{σ:Store}
theorem vG(c:Con):(ac af (n+2)).fn 347 [b4,.str c.str] σ=some (.int (c.ar:Nat),σ):=by induction c using Con.casesOn<;>kernel_rfl
theorem jn(c:Con):(ac af (n+2)).fn 354 [b4,.str c.str] σ=some (.bool (decide (c=.N)),σ):=by induction c using Con.casesOn<;>kernel_rfl
theorem kD:(ac af (n+2)).fn 598 [.str "field"] σ=some (.str "field",σ):=by kernel_rfl
theorem mD:(ac af (n+2)).fn 598 [.str "held"] σ=some (.str "held",σ):=by kernel_rfl
theorem yU:iT [0,1]=[0,1]:=List.mergeSort_of_pairwise (by decide)
theorem v0{T:Tab}{c:Calls}{wf:Nat}{ρ ρ1:ay}{σ σ1:Store}{gh:Ghost}{s:S}{y:Option (Fl × ay × Store)}(h:ff gh ρ σ=some (ρ1,σ1))(k:bA T c wf s ρ1 σ1=y):bA T c wf (.g gh s) ρ σ=y:=by
 show(ff gh ρ σ).bind _=_;refine eR h ?_;exact k
theorem uE{T:Tab}{c:Calls}{wf:Nat}{ρ:ay}{σ σ1:Store}{e:E}{d:V}(h:ak T c e ρ σ=some (d,σ1)):bA T c wf (.ret e) ρ σ=some (.ret d,ρ,σ1):=by
 show(ak T c e ρ σ).bind _=_;refine eR h ?_;rfl
noncomputable def Ci(c:Con):ay:=(aq [0,2] [b4,.str c.str]).set 13 (.ownk [])
noncomputable def Cw(c:Con):ay:=((Ci c).set 14 (.v (.ks "M.A"))).set 13 (.ownk [(0,.ks "M.A")])
noncomputable def CJ(c:Con):ay:=((Cw c).set 14 (.v (.ks "M.B"))).set 13 (.ownk [(0,.ks "M.A"),(1,.ks "M.B")])
noncomputable def B9(c:Con):ay:=(CJ c).set 14 (.v (.ks "M.N"))
noncomputable def CL(c:Con):ay:=(B9 c).set 13 (.v (.dcti [(0,.ks "M.A"),(1,.ks "M.B")]))
theorem lg(c:Con)(hc:c=.A∨c=.B):(ac af (n+2)).fn 359 [b4,.str c.str] σ=some (.lst [.ks "M.A",.ks "M.B"],σ):=by
 refine aI (fi:=⟨[0,2],Ab⟩) (ρ':=CL c) rfl rfl (ao (σ1:=σ) ?_ (bg (ρ1:=Ci c) (σ1:=σ) rfl (eg (l:=[.ks "M.A",.ks "M.B",.ks "M.N"]) (ρ1:=B9 c) (σ1:=σ) (σ2:=σ) ?_
  (cj (ρ1:=Cw c) (σ1:=σ) ?_ (cj (ρ1:=CJ c) (σ1:=σ) ?_ (cj (ρ1:=B9 c) (σ1:=σ) ?_ rfl)))
  (g5 (v0 (ρ1:=CL c) (σ1:=σ) rfl (uE ?_))))))
 ·rcases hc with rfl|rfl<;>kernel_rfl
 ·kernel_rfl
 ·rcases hc with rfl|rfl<;>kernel_rfl
 ·rcases hc with rfl|rfl<;>kernel_rfl
 ·rcases hc with rfl|rfl<;>kernel_rfl
 ·refine cM (σ1:=σ) (l:=[.ki 0,.ki 1]) (c8 (d:=.lst [.ki 0,.ki 1]) (bH (vs:=[.dcti [(0,.ks "M.A"),(1,.ks "M.B")]]) rfl ?_) rfl) (by decide) (by kernel_rfl)
  show(if 2<64 then some (V.lst ((iT [0,1]).map V.ki),σ)else none)=_
  refine eR yU ?_;rfl
theorem ll(c:Con)(hc:c=.Nil∨c=.Cons):(ac af (n+2)).fn 359 [b4,.str c.str] σ=some (.lst [.str "[]",.str ":"],σ):=by
 rcases hc with rfl|rfl<;>kernel_rfl
theorem sf:(ac af (n+2)).fn 359 [b4,.str Con.Pr.str] σ=some (.lst [.str "(,)"],σ):=by kernel_rfl
end
end Mine
namespace Mine
open PySem PySem.W
noncomputable def bF(b:Str)(k:Nat):Str:=b++(".":Str)++Str.ofString (toString (k:Int))
noncomputable def o5(s:Str):Option Nat:=s.cps.toList.head?
theorem eZ(a b:Str):(a++b).cps.toList=a.cps.toList++b.cps.toList:=by
 exact Array.toList_append
theorem wP(a b:Str):(a++b).length=a.length+b.length:=by
 exact Array.size_append
theorem mX{a b:String}(h:Str.ofString a=Str.ofString b):a=b:=by
 rw[Str.ofString_eq_toList,Str.ofString_eq_toList]at h
 have h:=congrArg (fun s:Str=>s.cps.toList) h
 dsimp only at h
 have:a.toList=b.toList:=by
  generalize a.toList=l at h
  generalize b.toList=m at h
  induction l generalizing m with
  |nil=>induction m using List.casesOn with
   |nil=>rfl
   |cons=>injection h
  |cons x l ih=>induction m using List.casesOn with
   |nil=>injection h
   |cons y m=>
    replace h:=List.map_cons▸List.map_cons▸h
    have h1:=(List.cons.inj h).1
    rw[(ih _ (List.cons.inj h).2),Char.toNat_inj.mp h1]
 exact String.toList_inj.mp this
theorem wh{a b:Str}(h:a.cps.toList=b.cps.toList):a=b:=by
 obtain⟨a⟩:=a;obtain⟨b⟩:=b;exact congrArg Str.mk (Array.toList_inj.mp h)
theorem ie{b:Str}{i j:Nat}(h:bF b i=bF b j):i=j:=by
 have h:=congrArg (fun s:Str=>s.cps.toList) h
 unfold bF at h
 rw[eZ,eZ (b++_)]at h
 have:=mX (wh (List.append_cancel_left h))
 exact Nat.repr_inj.mp this
theorem g4(k:Nat):o5 (bF "field" k)=some 102:=by
 unfold o5 bF;rw[eZ,eZ]
 refine eR (show("field":Str).cps.toList=[102,105,101,108,100] by decide+kernel) ?_;rfl
theorem jb(k:Nat):o5 (bF "held" k)=some 104:=by
 unfold o5 bF;rw[eZ,eZ]
 refine eR (show("held":Str).cps.toList=[104,101,108,100] by decide+kernel) ?_;rfl
theorem xU:¬("field":Str)="held":=by decide+kernel
theorem xl:¬("held":Str)="field":=by decide+kernel
theorem qA{k:Nat}(h:k<10 ^ 60):(Str.ofString (toString (k:Int))).length≤61:=by
 rw[ofString_length]
 exact int_text_length_le10 (a:=(k:Int)) (k:=60) (by decide) (by simpa using h)
inductive Nums:List (Str × V)→Nat→Nat→Prop
 |e:Nums [] 0 0
 |f (i:Nat):Nums [("field",.int (i:Nat))] i 0
 |h (j:Nat):Nums [("held",.int (j:Nat))] 0 j
 |fh (i j:Nat):Nums [("field",.int (i:Nat)),(("held":Str),V.int (j:Nat))] i j
 |hf (i j:Nat):Nums [("held",.int (j:Nat)),(("field":Str),V.int (i:Nat))] i j
noncomputable def eY(s:Str):Prop:=o5 s=some 118∨o5 s=some 115
structure Fr(a b:Nat)(σ:Store)(cf ch:Nat):Prop where
 av:∃es,σ.cells[a]? =some (.dict es)∧∀p∈es,eY p.1
 nums:∃es,σ.cells[b]? =some (.dict es)∧Nums es cf ch
 ne:a≠b
structure Same(b:Nat)(σ σ':Store):Prop where
 nid:σ'.nid=σ.nid
 len:σ'.cells.length=σ.cells.length
 get:∀j,j≠b→σ'.cells[j]? =σ.cells[j]?
theorem Same.refl(b:Nat)(σ:Store):Same b σ σ:=⟨rfl,rfl,fun _ _=>rfl⟩
theorem Same.trans{b:Nat}{σ σ1 σ2:Store}(h:Same b σ σ1)(g:Same b σ1 σ2):Same b σ σ2:=
 ⟨g.nid.trans h.nid,g.len.trans h.len,fun j e=>(g.get j e).trans (h.get j e)⟩
theorem cn(b:Nat)(σ:Store)(c:Cell):Same b σ (σ.put b c):=
 ⟨rfl,List.length_set,fun j e=>by show(σ.cells.set b c)[j]? =_;rw[List.getElem?_set_ne (Ne.symm e)]⟩
theorem cW{b:Nat}{σ:Store}{c:Cell}{d:Cell}(h:σ.cells[b]? =some d):(σ.put b c).cells[b]? =some c:=by
 show(σ.cells.set b c)[b]? =_
 have:b<σ.cells.length:=by
  rcases Nat.lt_or_ge b σ.cells.length with l|l
  ·exact l
  ·rw[List.getElem?_eq_none l]at h;exact nE h
 rw[List.getElem?_set_self this]
noncomputable def bO(a b:Nat):V:=.inst 631 [(62,.loc a),(63,.loc b)]
section
variable {T:Tab}{c:Calls}{wf:Nat}{ρ:ay}{σ σ1 σ2 σ3:Store}
theorem Ac{o:E}{as:Es}{m b:Nat}{k:Str}{dv:V}{es:List (Str × V)}(h0:ak T c o ρ σ=some (.loc b,σ))(h:b8 T c as ρ σ=some ([.str k,dv],σ))(hm:T.nm m=("get":Str))(hc:σ.cells[b]? =some (.dict es)):
  ak T c (.meth o m as) ρ σ=some ((cY es k).getD dv,σ):=by
 show(ak T c o ρ σ).bind _=_;refine eR h0 ?_;show(b8 T c as ρ σ).bind _=_;refine eR h ?_
 refine(if_pos hm:tJ T c (.loc b) m [.str k,dv] σ σ=_).trans ?_
 rw[hc];rfl
theorem kW{o e i:E}{a b:Nat}{k:Str}{d:V}{es:List (Str × V)}(hd:ak T c e ρ σ=some (d,σ1))(ho:ak T c (.attr o a) ρ σ1=some (.loc b,σ2))(hi:ak T c i ρ σ2=some (.str k,σ3))(hc:σ3.cells[b]? =some (.dict es))(hl:es.length≤bq):
  bA T c wf (.setItem (.attr o a) i e) ρ σ=some (.next,ρ,σ3.put b (.dict (bn es k d))):=by
 show(ak T c e ρ σ).bind _=_;refine eR hd ?_;show(ak T c (.attr o a) ρ σ1).bind _=_;refine eR ho ?_;show(ak T c i ρ σ2).bind _=_;refine eR hi ?_
 show((match σ3.cells[b]? with
  |some (.dict es)=>if es.length≤bq then some (σ3.put b (.dict (bn es k d)))else none
  |_=>none):Option Store).map _=_
 refine eR hc ?_;dsimp only;refine eR (if_pos hl) ?_;rfl
end
theorem zw:af.toTab.nm 67=("get":Str):=by kernel_rfl
section
variable {n:Nat}{σ:Store}
theorem qM{a b:Nat}{base:Str}{k:Nat}{av nums:List (Str × V)}(hb:(ac af (n+2)).fn 598 [.str base] σ=some (.str base,σ))(ha:σ.cells[a]? =some (.dict av))(hbn:σ.cells[b]? =some (.dict nums))(hl:nums.length≤2)
  (hg:(cY nums base).getD (.int 0)=.int (k:Nat)) (hk:k+1<10 ^ 60) (hav:∀p∈av,¬p.1=bF base (k+1)) (hlen:base.length≤10):
  (ac af (n+3)).fn 628 [bO a b,.str base] σ=some (.str (bF base (k+1)),σ.put b (.dict (bn nums base (.int ((k+1:Nat):Int))))):=by
 have e1:∀{ρ:ay}{σ:Store},ρ 52=some (.v (.str base))→ρ 17=some (.v (.int ((k+1:Nat):Int)))→
   ak af.toTab (ac af (n+2)) (.bin .Add (.bin .Add (.var 52) (.str ".")) (.blt .str (.cons (.var 17) .nil))) ρ σ=some (.str (bF base (k+1)),σ):=fun{ρ σ} h1 h2=>by
  have l1:(".":Str).length=1:=by decide+kernel
  refine bh (bh (aa h1) (k:=.str ".") rfl (gG ?_)) (bH (az (aa h2)) ?_) (gG ?_)
  ·rw[l1];show _≤1000000;exact bI 1 160856829963732984807425 rfl hlen
  ·show(if((k+1:Nat):Int).natAbs<10 ^ 60 then _ else _)=_
   rw[if_pos (by rw[Int.natAbs_natCast];exact hk)]
  ·rw[wP,l1];show _≤1000000;exact aP 2 1267260561880981292979560748057362433 rfl hlen (qA hk)
 have e0:((k:Nat):Int)+1=((k+1:Nat):Int):=rfl
 refine aI (fi:=⟨[0,66],zT⟩) (ρ':=((aq [0,66] [bO a b,.str base]).set 52 (.v (.str base))).set 17 (.v (.int ((k+1:Nat):Int)))) rfl rfl
  (ag (aJ (az (aa rfl)) hb) (ag (bh (o:=.int (k:Nat)) (k:=.int 1) ?_ rfl rfl) (gI (bV (aQ (b:=false) (e1 rfl rfl) (aw (d:=.loc a) (aa rfl) rfl) ?_)) (bg (kW (aa rfl) (aw (aa rfl) rfl) (aa rfl) hbn (Nat.le_trans hl (by decide))) (aN (e1 rfl rfl))))))
 ·refine eE hg ?_
  exact Ac (aw (aa rfl) rfl) (aB (aa rfl) rfl) zw hbn
 ·show(dT σ (.loc a)).bind (fun es=>some (es.any fun p=>p.1==bF base (k+1)))=_
  unfold dT;dsimp only;refine eR ha ?_
  refine congrArg some ?_
  rw[List.any_eq_false]
  intro p hp
  rw[beq_iff_eq];exact hav p hp
theorem rI{a b cf ch:Nat}(F:Fr a b σ cf ch)(h:cf+1<10 ^ 60):
  ∃σ',(ac af (n+3)).fn 628 [bO a b,.str "field"] σ=some (.str (bF "field" (cf+1)),σ')∧Fr a b σ' (cf+1) ch∧Same b σ σ':=by
 obtain⟨⟨av,ha,hav⟩,⟨nums,hb,hN⟩,ne⟩:=F
 have hg:(cY nums "field").getD (.int 0)=.int (cf:Nat):=by
  clear a b h ne av ha hav hb;cases hN<;>simp[cY,List.find?,xl]
 have hl:nums.length≤2:=by clear a b h ne av ha hav hb hg;cases hN<;>simp
 refine iK _ (qM kD ha hb hl hg h (fun p hp e=>?_) (by decide+kernel)) ⟨⟨av,?_,hav⟩,⟨_,cW hb,?_⟩,ne⟩ (cn b σ _)
 ·have:=hav p hp
  rw[e]at this
  unfold eY at this
  rw[g4]at this;rcases this with h|h<;>cases h
 ·rw[(cn b σ _).get a ne];exact ha
 ·clear a b ne av ha hav hb hg hl;cases hN with
  |e=>exact .f _
  |f i=>
    have:bn [(("field":Str),V.int (cf:Nat))] "field" (V.int ((cf+1:Nat):Int))=[(("field":Str),V.int ((cf+1:Nat):Int))]:=by simp[bn]
    refine eR this ?_;exact .f _
  |h j=>
    have:bn [(("held":Str),V.int (ch:Nat))] "field" (V.int ((0+1:Nat):Int))=[(("held":Str),V.int (ch:Nat)),(("field":Str),V.int ((0+1:Nat):Int))]:=by simp[bn,xl]
    refine eR this ?_;exact .hf _ _
  |fh i j=>
    have:bn [(("field":Str),V.int (cf:Nat)),(("held":Str),V.int (ch:Nat))] "field" (V.int ((cf+1:Nat):Int))=[(("field":Str),V.int ((cf+1:Nat):Int)),(("held":Str),V.int (ch:Nat))]:=by simp[bn,xl]
    refine eR this ?_;exact .fh _ _
  |hf i j=>
    have:bn [(("held":Str),V.int (ch:Nat)),(("field":Str),V.int (cf:Nat))] "field" (V.int ((cf+1:Nat):Int))=[(("held":Str),V.int (ch:Nat)),(("field":Str),V.int ((cf+1:Nat):Int))]:=by simp[bn,xl]
    refine eR this ?_;exact .hf _ _
theorem sA{a b cf ch:Nat}(F:Fr a b σ cf ch)(h:ch+1<10 ^ 60):
  ∃σ',(ac af (n+3)).fn 628 [bO a b,.str "held"] σ=some (.str (bF "held" (ch+1)),σ')∧Fr a b σ' cf (ch+1)∧Same b σ σ':=by
 obtain⟨⟨av,ha,hav⟩,⟨nums,hb,hN⟩,ne⟩:=F
 have hg:(cY nums "held").getD (.int 0)=.int (ch:Nat):=by
  clear a b h ne av ha hav hb;cases hN<;>simp[cY,List.find?,xU]
 have hl:nums.length≤2:=by clear a b h ne av ha hav hb hg;cases hN<;>simp
 refine iK _ (qM mD ha hb hl hg h (fun p hp e=>?_) (by decide+kernel)) ⟨⟨av,?_,hav⟩,⟨_,cW hb,?_⟩,ne⟩ (cn b σ _)
 ·have:=hav p hp
  rw[e]at this
  unfold eY at this
  rw[jb]at this;rcases this with h|h<;>cases h
 ·rw[(cn b σ _).get a ne];exact ha
 ·clear a b ne av ha hav hb hg hl;cases hN with
  |e=>exact .h _
  |h i=>
    have:bn [(("held":Str),V.int (ch:Nat))] "held" (V.int ((ch+1:Nat):Int))=[(("held":Str),V.int ((ch+1:Nat):Int))]:=by simp[bn]
    refine eR this ?_;exact .h _
  |f j=>
    have:bn [(("field":Str),V.int (cf:Nat))] "held" (V.int ((0+1:Nat):Int))=[(("field":Str),V.int (cf:Nat)),(("held":Str),V.int ((0+1:Nat):Int))]:=by simp[bn,xU]
    refine eR this ?_;exact .fh _ _
  |hf i j=>
    have:bn [(("held":Str),V.int (ch:Nat)),(("field":Str),V.int (cf:Nat))] "held" (V.int ((ch+1:Nat):Int))=[(("held":Str),V.int ((ch+1:Nat):Int)),(("field":Str),V.int (cf:Nat))]:=by simp[bn,xU]
    refine eR this ?_;exact .hf _ _
  |fh i j=>
    have:bn [(("field":Str),V.int (cf:Nat)),(("held":Str),V.int (ch:Nat))] "held" (V.int ((ch+1:Nat):Int))=[(("field":Str),V.int (cf:Nat)),(("held":Str),V.int ((ch+1:Nat):Int))]:=by simp[bn,xU]
    refine eR this ?_;exact .fh _ _
end
end Mine
namespace Mine
open PySem PySem.W
noncomputable def fQ:Option Ky→V|some k=>bP k|none=>.none
noncomputable def xS:Pt→Bool
 |.con c _ _=>decide (c=.N)
 |.bang q=>(match cy q with
  |.con c _ _=>decide (c=.N)
  |_=>false)
 |_=>false
noncomputable def bX(m a b:Nat):V:=.inst 566 [(32,b4),(33,.lst (List.replicate m (.bool false))),(34,bO a b)]
section
variable {T:Tab}{c:Calls}{wf:Nat}{ρ:ay}{σ σ1 σ2 σ3:Store}
theorem vU{elt cnd:E}{tg fv:List Nat}{it:It}{l r:List V}(h:cH T c it ρ σ=some (l,σ1))(hl:l.length≤bq)
  (k:compLoop (fun x σ=>(cP tg x (bo ρ fv)).bind fun ρ'=>(ak T c cnd ρ' σ).bind fun(t,σ)=>(wj t).bind fun cc=>match cc with
    |true=>(ak T c elt ρ' σ).bind fun(d,σ)=>some ([d],σ)
    |false=>some ([],σ)) l σ1=some (r,σ2)):ak T c (.compif elt tg it cnd fv) ρ σ=some (.lst r,σ2):=by
 show(cH T c it ρ σ).bind _=_;refine eR h ?_;show(if bq<l.length then _ else _)=_;refine eR (if_neg (Nat.not_lt.mpr hl)) ?_
 exact congrArg (fun y=>Option.bind y fun x=>some (V.lst x.1,x.2)) k
theorem iL{α:Type}{f:V→Store→Option (List V × Store)}{e:α→V}{g:α→List V}:∀{l:List α},(∀x∈l,f (e x) σ=some (g x,σ))→compLoop f (l.map e) σ=some (l.flatMap g,σ)
 |[],_=>rfl
 |x::r,h=>by
  refine eR List.map_cons ?_;refine eR List.flatMap_cons ?_
  exact cJ (h x (List.mem_cons_self ..)) (iL fun y m=>h y (List.mem_cons_of_mem _ m))
end
section
variable {n:Nat}{σ:Store}
theorem pq(p:Pt):(ac af (n+1)).fn 518 [aM p] σ=some (fQ (bG p),σ):=by induction p using Pt.casesOn<;>rfl
theorem rP:∀{p:Pt}{f:Nat}{ρ:ay},ρ 7=some (.v (aM p))→sz p<f→∃ρ' q,cu (ak af.toTab (ac af n) (.isi (.var 7) [234])) (au af.toTab (ac af n) n (.cons (.assign 7 (.attr (.var 7) 7)) .nil)) f ρ σ=some (.next,ρ',σ)∧
  ρ' 7=some (.v (aM q))∧(∀b,(match q with|.wild=>true|.var _=>true|.lazy _=>true|_=>false)=b→cG p=b)∧ak af.toTab (ac af n) (.isi (.var 7) [99,72,261]) ρ' σ=some (.bool (cG p),σ):=by
 intro p
 induction p with
 |as s p ih=>
  intro f ρ h7 hf
  refine Exists.elim (sx f 1 (aP 1 19315541952065 rfl hf)) fun f z1=>?_;subst z1
  have hs:sz (.as s p)=1+sz p:=rfl
  refine f8 (ih (f:=f) (ρ:=ρ.set 7 (.v (aM p))) rfl (bw 2 480804312143385959358238310401 rfl hf (Nat.le_of_eq hs.symm))) fun ρ' q e a7 ai am=>?_
  exact gi ρ' q (eV (ah h7 rfl rfl) (ag (aw (aa h7) rfl) rfl) e) a7 ai am
 |wild=>intro f ρ h7 hf;obtain⟨f,rfl⟩:=sx f 1 (aP 1 19315541952065 rfl hf);exact gi ρ _ (bV (ah h7 rfl rfl)) h7 (fun b h=>h) (ah h7 rfl rfl)
 |var s=>intro f ρ h7 hf;obtain⟨f,rfl⟩:=sx f 1 (aP 1 19315541952065 rfl hf);exact gi ρ _ (bV (ah h7 rfl rfl)) h7 (fun b h=>h) (ah h7 rfl rfl)
 |lazy s=>intro f ρ h7 hf;obtain⟨f,rfl⟩:=sx f 1 (aP 1 19315541952065 rfl hf);exact gi ρ _ (bV (ah h7 rfl rfl)) h7 (fun b h=>h) (ah h7 rfl rfl)
 |lit s=>intro f ρ h7 hf;obtain⟨f,rfl⟩:=sx f 1 (aP 1 19315541952065 rfl hf);exact gi ρ _ (bV (ah h7 rfl rfl)) h7 (fun b h=>h) (ah h7 rfl rfl)
 |con c p q=>intro f ρ h7 hf;obtain⟨f,rfl⟩:=sx f 1 (aP 1 19315541952065 rfl hf);exact gi ρ _ (bV (ah h7 rfl rfl)) h7 (fun b h=>h) (ah h7 rfl rfl)
 |tup p q=>intro f ρ h7 hf;obtain⟨f,rfl⟩:=sx f 1 (aP 1 19315541952065 rfl hf);exact gi ρ _ (bV (ah h7 rfl rfl)) h7 (fun b h=>h) (ah h7 rfl rfl)
 |lnil=>intro f ρ h7 hf;obtain⟨f,rfl⟩:=sx f 1 (aP 1 19315541952065 rfl hf);exact gi ρ _ (bV (ah h7 rfl rfl)) h7 (fun b h=>h) (ah h7 rfl rfl)
 |lcons p q=>intro f ρ h7 hf;obtain⟨f,rfl⟩:=sx f 1 (aP 1 19315541952065 rfl hf);exact gi ρ _ (bV (ah h7 rfl rfl)) h7 (fun b h=>h) (ah h7 rfl rfl)
 |bang p=>intro f ρ h7 hf;obtain⟨f,rfl⟩:=sx f 1 (aP 1 19315541952065 rfl hf);exact⟨ρ,_,bV (ah h7 rfl rfl),h7,fun b h=>h,ah h7 rfl rfl⟩
theorem xA{p:Pt}(h:sz p<n):(ac af (n+1)).fn 471 [aM p] σ=some (.bool (cG p),σ):=by
 refine f8 (rP (n:=n) (σ:=σ) (p:=p) (f:=n) (ρ:=aq [7] [aM p]) rfl h) fun ρ' q e a7 ai am=>?_
 exact aI (fi:=⟨[7],Bj⟩) (ρ':=ρ') rfl rfl (gI e (aN am))
theorem y6{ps:List Pt}{p:Pt}(h:p∈ps):sz p≤bS ps:=by
 induction ps with
 |nil=>cases h
 |cons q r ih=>
  rw[bk]
  rcases List.mem_cons.mp h with rfl|h
  ·exact aP 0 84934913 rfl
  ·have:=ih h;exact bw 1 26664332689665 rfl this
theorem kf{l:List V}{b:Bool}(h:l.isEmpty=b):gn σ .Eq (.lst l) (.lst [])=some b:=by
 induction l using List.casesOn with
 |nil=>subst h;rfl
 |cons x r=>subst h;rfl
theorem eS:∀(ps:List Pt),((ps.flatMap fun p=>if cG p then([]:List V)else[aM p])).isEmpty=ps.all cG
 |[]=>rfl
 |p::r=>by
  refine eR List.flatMap_cons ?_;refine eR List.all_cons ?_
  cases h:cG p with
  |true=>simp only [if_true,List.nil_append,Bool.true_and];exact eS r
  |false=>rfl
theorem lK{l:Ln}{i m:Nat}(F:Fits l)(hi:i<l.ps.length)(hm:m≤10)(hn:60<n):
  (ac af (n+2)).fn 504 [aR l,.int (i:Nat),.int (m:Nat)] σ=some (.lst ((cC i m l).map aR),σ):=by
 have hlen:=F.len
 have hsz:=F.size
 have e1:ak af.toTab (ac af (n+1)) (.sto (.attr (.var 0) 23) (.var 1)) (aq [0,1,8] [aR l,.int (i:Nat),.int (m:Nat)]) σ=some (.lst ((l.ps.take i).map aM),σ):=by
  refine eR List.map_take ?_
  exact qN (aw (aa rfl) rfl) (aa rfl) (je (by lia) (by rw[List.length_map];exact bI 1 4722517587942594942349569 rfl hlen))
 have e2:ak af.toTab (ac af (n+1)) (.compif (.var 7) [7] (.val (.sto (.attr (.var 0) 23) (.var 1))) (.not (.call 471 (.cons (.var 7) .nil))) []) (aq [0,1,8] [aR l,.int (i:Nat),.int (m:Nat)]) σ=some (.lst ((l.ps.take i).flatMap fun p=>if cG p then([]:List V)else[aM p]),σ):=by
  refine vU (c8 e1 rfl) (by rw[List.length_map,List.length_take];show _≤1000000;lia) (iL fun p hp=>?_)
  have hc:ak af.toTab (ac af (n+1)) (.not (.call 471 (.cons (.var 7) .nil))) ((bo (aq [0,1,8] [aR l,.int (i:Nat),.int (m:Nat)]) []).set 7 (.v (aM p))) σ=some (.bool (!cG p),σ):=
   gf (aJ (az (aa rfl)) (xA (dW 3 600851299712504150197238748225634320385 rfl hn hsz (y6 (List.mem_of_mem_take hp)))))
  show(ak _ _ _ _ _).bind _=_
  refine hc▸?_
  cases cG p<;>rfl
 unfold cC
 cases hid:(l.ps.take i).all cG with
 |true=>exact aI (fi:=⟨[0,1,8],zb⟩) (ρ':=_) rfl rfl (aD (aQ e2 (k:=.lst []) rfl (kf ((eS _).trans hid))) (aN rfl))
 |false=>
  have e3:ak af.toTab (ac af (n+1)) (.bin .Sub (.bin .Sub (.bin .Add (.var 8) (.blt .len (.cons (.attr (.var 0) 23) .nil))) (.var 1)) (.int 1)) (aq [0,1,8] [aR l,.int (i:Nat),.int (m:Nat)]) σ=some (.int ((m+l.ps.length-i-1:Nat):Int),σ):=by
   refine(bh (bh (bh (aa rfl) (bH (vs:=[.lst (l.ps.map aM)]) (az (aw (aa rfl) rfl)) (d:=(.int (l.ps.length:Nat),σ)) ?_) rfl) (aa rfl) rfl) (k:=.int 1) rfl rfl).trans ?_
   ·show(if(l.ps.map aM).length≤bq then some (V.int ((l.ps.map aM).length:Nat),σ)else none)=_
    rw[List.length_map,if_pos (by exact bI 1 4722517587942594942349569 rfl hlen)]
   ·have:((m:Nat):Int)+((l.ps.length:Nat):Int)-((i:Nat):Int)-1=((m+l.ps.length-i-1:Nat):Int):=by lia
    rw[←this]
  have e4:ak af.toTab (ac af (n+1)) (.comp (.new 99 (.cons .none .nil)) [31] (.range (.bin .Sub (.bin .Sub (.bin .Add (.var 8) (.blt .len (.cons (.attr (.var 0) 23) .nil))) (.var 1)) (.int 1))) []) (aq [0,1,8] [aR l,.int (i:Nat),.int (m:Nat)]) σ
    =some (.lst (List.replicate (m+l.ps.length-i-1) (aM .wild)),σ):=by
   refine cM (de e3 (by lia)) ?_ ?_
   ·rw[List.length_map,List.length_range];show _≤1000000;lia
   ·refine(iL (σ:=σ) (e:=fun(i:Nat)=>V.int (i:Int)) (g:=fun _=>[aM .wild]) (l:=List.range (m+l.ps.length-i-1)) (fun x _=>rfl)).trans (congrArg (fun y=>some (y,σ)) ?_)
    generalize m+l.ps.length-i-1=k
    induction k with
    |zero=>rfl
    |succ k ih=>refine eR List.range_succ ?_;refine eR List.flatMap_append ?_;refine eR ih ?_;refine eR List.replicate_succ' ?_;rfl
  have e5:ak af.toTab (ac af (n+1)) (.bin .Add (.sto (.attr (.var 0) 23) (.var 1)) (.var 30)) ((aq [0,1,8] [aR l,.int (i:Nat),.int (m:Nat)]).set 30 (.v (.lst (List.replicate (m+l.ps.length-i-1) (aM .wild))))) σ
    =some (.lst ((l.ps.take i).map aM++List.replicate (m+l.ps.length-i-1) (aM .wild)),σ):=by
   refine bh (o:=.lst ((l.ps.take i).map aM)) (σ1:=σ) ?_ (aa rfl) (d7 ?_)
   ·refine eR List.map_take ?_;exact qN (aw (aa rfl) rfl) (aa rfl) (je (by lia) (by rw[List.length_map];show _≤1000000;exact bI 1 4722517587942594942349569 rfl hlen))
   ·rw[List.length_map,List.length_take,List.length_replicate];show _≤1000000;lia
  have e6:([⟨l.num,l.ps.take i++List.replicate (m+l.ps.length-i-1) .wild,[],true⟩]:List Ln).map aR=[.inst 507 [(17,.int (l.num:Nat)),(23,.lst ((l.ps.take i).map aM++List.replicate (m+l.ps.length-i-1) (aM .wild))),(18,.lst []),(24,.bool true)]]:=by
   rw[List.map_cons];unfold aR;rw[List.map_append,List.map_replicate];rfl
  dsimp only
  rw[e6]
  exact aI (fi:=⟨[0,1,8],zb⟩) (ρ':=_) rfl rfl (ao (aQ e2 (k:=.lst []) rfl (kf ((eS _).trans hid))) (ag e4 (aN (cD (az (bz (b5 (aw (aa rfl) rfl) (aF e5 rfl rfl)) (gT _ _ _ _))) o7))))
theorem w6{k:Ki}{m a b:Nat}{p:Pt}(hp:cZ k p)(hs:sz p≤1000):(ac af (n+4)).fn 551 [bX m a b,aM p] σ=some (.bool (xS p),σ):=by
 induction p using Pt.casesOn with
 |bang q=>
  have hq:sz q≤1000:=by have:1+sz q≤1000:=hs;exact bI 1 4722517594681302663573761 rfl this
  refine aI (fi:=⟨[0,7],y5⟩) (ρ':=((aq [0,7] [bX m a b,aM (.bang q)]).set 7 (.v (aM (cy q))))) rfl rfl (cT rfl (ag (aJ (vs:=[aM q]) rfl (dc hp.1 hq)) rfl) (aN ?_))
  have hh:xS (.bang q)=(match cy q with|.con c _ _=>decide (c=.N)|_=>false):=rfl
  refine hh▸?_
  cases hsp:cy q with
  |con c x y=>exact aU (ah (C:=153) (fs:=[(1,.none),(2,.str c.str),(5,.lst ([aM x,aM y].take c.ar))]) rfl rfl rfl) (bY (bm (aw (aa rfl) rfl) (az (d:=.str c.str) (aw (C:=153) (fs:=[(1,.none),(2,.str c.str),(5,.lst ([aM x,aM y].take c.ar))]) (aa rfl) rfl)) rfl rfl (jn c)))
  |_=>exact ba rfl
 |con c x y=>exact aI (fi:=⟨[0,7],y5⟩) (ρ':=_) rfl rfl (ao rfl (aN (aU rfl (bY (bm (aw (aa rfl) rfl) (az (d:=.str c.str) rfl) rfl rfl (jn c))))))
 |_=>rfl
end
end Mine
namespace Mine
open PySem PySem.W
noncomputable def mu:List Ln→Nat
 |[]=>0
 |l::r=>(1+bS l.ps)+mu r
theorem uT(a b:List Ln):mu (a++b)=mu a+mu b:=by
 induction a with
 |nil=>exact(Nat.zero_add _).symm
 |cons l r ih=>show _+mu (r++b)=_+mu r+mu b;refine eR ih ?_;exact Nat.le_antisymm (bw 0 117588770097888268726304769 rfl) (bw 0 117568359928492218355023873 rfl)
noncomputable def vj(cf ch:Nat)(c:Str):Prop:=(o5 c≠some 102∧o5 c≠some 104)∨(∃k,k≤cf∧c=bF "field" k)∨∃k,k≤ch∧c=bF "held" k
theorem vj.mono{cf ch cf' ch':Nat}{c:Str}(h:vj cf ch c)(a:cf≤cf')(b:ch≤ch'):vj cf' ch' c:=by
 rcases h with h|⟨k,l,e⟩|⟨k,l,e⟩
 ·exact .inl h
 ·exact .inr (.inl ⟨k,Nat.le_trans l a,e⟩)
 ·exact .inr (.inr ⟨k,Nat.le_trans l b,e⟩)
theorem sy{cf ch k:Nat}{c:Str}(h:vj cf ch c)(hk:cf<k):bF "field" k≠c:=by
 intro e
 rcases h with h|⟨j,l,e'⟩|⟨j,l,e'⟩
 ·rw[←e,g4]at h;exact h.1 rfl
 ·have:=ie (e.trans e');exact Nat.not_succ_le_zero _ (bw 3 1837079068890183802127937 rfl hk l (Nat.le_of_eq this))
 ·have:=congrArg o5 (e.trans e');rw[g4,jb]at this;exact absurd this (by decide)
theorem uD{cf ch k:Nat}{c:Str}(h:vj cf ch c)(hk:ch<k):bF "held" k≠c:=by
 intro e
 rcases h with h|⟨j,l,e'⟩|⟨j,l,e'⟩
 ·rw[←e,jb]at h;exact h.2 rfl
 ·have:=congrArg o5 (e.trans e');rw[g4,jb]at this;exact absurd this (by decide)
 ·have:=ie (e.trans e');exact Nat.not_succ_le_zero _ (bw 3 1837079068890183802127937 rfl hk l (Nat.le_of_eq this))
structure LnOk(ks:List Ki)(m:Nat)(l:Ln):Prop where
 ok:bQ ks l.ps
 size:l.binds.length+bS l.ps≤60
 num:l.num<m
theorem LnOk.fits{ks:List Ki}{m:Nat}{l:Ln}(h:LnOk ks m l)(hk:ks.length≤1000):Fits l:=⟨by refine eR (aC h.ok) ?_;exact hk,h.size⟩
structure Pre(m a b M:Nat)(cols:List Str)(ks:List Ki)(lines:List Ln)(σ:Store)(cf ch:Nat):Prop where
 hc:cols.length=ks.length
 nd:cols.Nodup
 old:∀c∈cols,vj cf ch c
 len:cols.length+2*M≤1000
 few:lines.length≤10
 ok:∀l∈lines,LnOk ks m l
 fr:Fr a b σ cf ch
 bound:cf+ch+40 ^ M<10 ^ 60
noncomputable def AS(a b M:Nat)(cols:List Str)(ks:List Ki)(lines:List Ln)(σ:Store)(cf ch:Nat)(r:Option (V × Store)):Prop:=
 ∃t σ' cf' ch',r=some (t,σ')∧db M t cols ks lines∧Fr a b σ' cf' ch'∧cf≤cf'∧ch≤ch'∧cf'+ch'≤cf+ch+40 ^ M∧Same b σ σ'
noncomputable def aV(cols:List Str):V:=.lst (cols.map V.str)
noncomputable def aE(ls:List Ln):V:=.lst (ls.map aR)
noncomputable def ig(m a b M:Nat):Prop:=∀n cols ks lines σ cf ch,4*M+80≤n→mu lines≤M→Pre m a b M cols ks lines σ cf ch→AS a b M cols ks lines σ cf ch ((ac af n).fn 539 [bX m a b,aV cols,aE lines] σ)
theorem fT{ks js:List Ki}{i:Nat}(h:i<ks.length):(ax i js ks).length+1=ks.length+js.length:=gZ h
section
variable {ks:List Ki}{m i:Nat}{l l':Ln}{key:Ky}
theorem hG{b:Bool}(h:LnOk ks m l)(hi:i<ks.length)(P:PlainTo b i l l')(F:Fits l'):LnOk ks m l':=by
 refine gC (aS i h.ok hi) fun _ hp _ _=>?_
 refine⟨?_,F.size,by refine eR P.num ?_;exact h.num⟩
 refine eR P.ps ?_
 have e:ax i [gY ks i] ks=ks:=by
  have:ks=ks.take i++gY ks i::ks.drop (i+1):=by
   unfold gY;refine eR (List.getD_eq_getElem?_getD) ?_;refine eR (List.getElem?_eq_getElem hi) ?_
   show ks=ks.take i++ks[i]::ks.drop (i+1)
   rw[List.getElem_cons_drop,List.take_append_drop]
  unfold ax;rw[List.append_assoc];exact this.symm
 have:=fE (js:=[gY ks i]) (qs:=[aL b (be l.ps i)]) h.ok hi ⟨fC b hp,trivial⟩
 rwa [e]at this
theorem ly{b:Bool}(h:i<l.ps.length)(P:PlainTo b i l l'):bS l'.ps≤bS l.ps:=by
 refine eR P.ps ?_;refine eR d6 ?_;refine eR (bW h) ?_
 have:bS [aL b (be l.ps i)]=sz (aL b (be l.ps i)):=by rw[bk];rfl
 refine eR this ?_
 have:=oz b (be l.ps i)
 exact dW 1 2139312848471967761694721 rfl this
theorem iG(key:Ky):key.kinds.length=key.many:=by
 induction key using Ky.casesOn with
 |lit=>rfl
 |con c=>induction c using Con.casesOn<;>rfl
theorem qC{js:List Ki}(h:LnOk ks m l)(hi:i<ks.length):∀x∈cC i js.length l,LnOk (ax i js ks) m x:=by
 intro x hx
 unfold cC at hx
 split at hx
 ·cases hx
 ·rw[List.mem_singleton]at hx
  subst hx
  refine gC (aS i h.ok hi) fun a _ _ _=>?_
  have hl:=aC h.ok
  refine⟨?_,?_,h.num⟩
  ·show bQ (ax i js ks) (l.ps.take i++List.replicate (js.length+l.ps.length-i-1) .wild)
   unfold ax
   rw[List.append_assoc]
   refine gS a ?_
   have:js.length+l.ps.length-i-1=(js++ks.drop (i+1)).length:=by refine eR List.length_append ?_;refine eR List.length_drop ?_;refine eR hl ?_;lia
   refine eR this ?_;exact iH _
  ·show 0+bS (l.ps.take i++List.replicate _ .wild)≤60
   rw[g6,hJ]
   have:=bW (ps:=l.ps) (i:=i) (by refine eR hl ?_;exact hi)
   have:=h.size;lia
theorem qv{k:Nat}(h:LnOk ks m l)(hi:i<ks.length):mu (cC i k l)≤1+bS l.ps:=by
 unfold cC
 split
 ·exact Nat.zero_le _
 ·show(1+bS (l.ps.take i++List.replicate _ .wild))+0≤_
  rw[g6,hJ]
  have:=bW (ps:=l.ps) (i:=i) (by refine eR (aC h.ok) ?_;exact hi)
  exact dW 1 25915114153732608061992742420481 rfl (Nat.le_of_eq this.symm)
theorem mh{js:List Ki}{qs:List Pt}(h:LnOk ks m l)(hi:i<ks.length)(hq:bQ js qs)(hs:bS qs≤sz (be l.ps i)):LnOk (ax i js ks) m (br l (ax i qs l.ps)):=by
 refine⟨fE h.ok hi hq,?_,h.num⟩
 show l.binds.length+bS (ax i qs l.ps)≤60
 refine eR d6 ?_
 have:=bW (ps:=l.ps) (i:=i) (by refine eR (aC h.ok) ?_;exact hi)
 have:=h.size;lia
theorem i8{qs:List Pt}(h:LnOk ks m l)(hi:i<ks.length)(hs:bS qs≤sz (be l.ps i)):mu [br l (ax i qs l.ps)]+sz (be l.ps i)≤1+bS l.ps+bS qs:=by
 show(1+bS (ax i qs l.ps))+0+_≤_
 refine eR d6 ?_
 have:=bW (ps:=l.ps) (i:=i) (by refine eR (aC h.ok) ?_;exact hi)
 exact mC 1 2820861068100309897463671923835098238025729 rfl (Nat.le_of_eq this.symm)
theorem qh{k:Ki}{p:Pt}(h:cZ k p)(hk:bG p=some key):bQ key.kinds (cz p)∧bS (cz p)+1≤sz p:=by
 induction p using Pt.casesOn<;>cases hk
 ·exact⟨trivial,Nat.le_refl _⟩
 ·rename_i c p q
  refine Bs h fun h1 h2 h3 h4 h5=>?_
  have hs:sz (.con c p q)=1+sz p+sz q:=rfl
  clear k h h1 h4 h5;cases c with
  |A=>exact⟨trivial,by rw[hs];show 0+1≤_;exact aP 0 348311782977 rfl⟩
  |Nil=>exact⟨trivial,by rw[hs];show 0+1≤_;exact aP 0 348311782977 rfl⟩
  |N=>exact⟨⟨h2,trivial⟩,by rw[hs];show(sz p+0)+1≤_;exact aP 0 5843702018737176577 rfl⟩
  |B=>exact⟨⟨h2,h3,trivial⟩,by rw[hs];show(sz p+(sz q+0))+1≤_;exact aP 0 23935803468748550045697 rfl⟩
  |Pr=>exact⟨⟨h2,h3,trivial⟩,by rw[hs];show(sz p+(sz q+0))+1≤_;exact aP 0 23935803468748550045697 rfl⟩
  |Cons=>exact⟨⟨h2,h3,trivial⟩,by rw[hs];show(sz p+(sz q+0))+1≤_;exact aP 0 23935803468748550045697 rfl⟩
theorem l9(h:LnOk ks m l)(hi:i<ks.length):(∀x∈cw key i l,LnOk (ax i key.kinds ks) m x)∧mu (cw key i l)≤1+bS l.ps∧(cw key i l).length≤1:=by
 refine gC (aS i h.ok hi) fun _ hp _ _=>?_
 unfold cw
 split
 ·have hw:bQ key.kinds (List.replicate key.many .wild):=by rw[←iG];exact iH _
  have hz:bS (List.replicate key.many Pt.wild)≤sz (be l.ps i):=by rw[hJ];exact Nat.zero_le _
  refine fz (fun x hx=>by rw[List.mem_singleton]at hx;subst hx;exact mh h hi hw hz) ?_ (Nat.le_refl _)
  have:=i8 h hi hz;rw[hJ]at this;exact bw 1 7279011426215937439957249 rfl this
 ·rename_i k' hk
  split
  ·rename_i e;subst e
   refine cB (qh hp hk) fun h1 h2=>?_
   refine fz (fun x hx=>by rw[List.mem_singleton]at hx;subst hx;exact mh h hi h1 (aP 1 23712514724097 rfl h2)) ?_ (Nat.le_refl _)
   have:=i8 (qs:=cz (be l.ps i)) h hi (aP 1 23712514724097 rfl h2);exact dW 2 1974445040152492493511346457149697 rfl h2 this
  ·rw[←iG]
   exact⟨qC h hi,qv h hi,by unfold cC;split<;>simp⟩
theorem su{k':Ky}(h:LnOk ks m l)(hi:i<ks.length)(hid:(l.ps.take i).all cG=true)(hk:bG (be l.ps i)=some k'):mu (cw key i l)≤bS l.ps:=by
 refine gC (aS i h.ok hi) fun _ hp _ _=>?_
 unfold cw
 refine eR hk ?_;dsimp only
 split
 ·rename_i e;subst e
  refine cB (qh hp hk) fun h1 h2=>?_
  have:=i8 (qs:=cz (be l.ps i)) h hi (aP 1 23712514724097 rfl h2);exact dW 2 482042246130979612673668567297 rfl h2 this
 ·unfold cC;refine eR hid ?_;exact Nat.zero_le _
theorem jC(h:LnOk ks m l)(hi:i<ks.length):(∀x∈bM i l,LnOk (ax i [] ks) m x)∧mu (bM i l)≤1+bS l.ps∧(bM i l).length≤1:=by
 unfold bM
 split
 ·refine fz (fun x hx=>by rw[List.mem_singleton]at hx;subst hx;exact mh (js:=[]) h hi trivial (Nat.zero_le _)) ?_ (Nat.le_refl _)
  have:=i8 (qs:=[]) h hi (Nat.zero_le _)
  have e:bS []=0:=rfl
  exact dW 2 1910162964507148451999591432449 rfl this (Nat.le_of_eq e)
 ·exact fz (qC (js:=[]) h hi) (qv h hi) (by unfold cC;split<;>simp)
theorem pK{k':Ky}(hid:(l.ps.take i).all cG=true)(hk:bG (be l.ps i)=some k'):mu (bM i l)=0:=by
 unfold bM;refine eR hk ?_;dsimp only
 unfold cC;refine eR hid ?_;rfl
end
theorem i5{ks js:List Ki}{m:Nat}{f:Ln→List Ln}(h:∀l,LnOk ks m l→(∀x∈f l,LnOk js m x)∧mu (f l)≤1+bS l.ps∧(f l).length≤1):
  ∀{ls:List Ln},(∀l∈ls,LnOk ks m l)→(∀x∈ls.flatMap f,LnOk js m x)∧mu (ls.flatMap f)≤mu ls∧(ls.flatMap f).length≤ls.length
 |[],_=>fz (fun _ h=>(by cases h)) (Nat.le_refl _) (Nat.le_refl _)
 |l::r,hl=>by
  refine o6 (i5 h (ls:=r) fun x m=>hl x (List.mem_cons_of_mem _ m)) fun a b c=>?_
  refine o6 (h l (hl l (List.mem_cons_self ..))) fun a' b' c'=>?_
  refine eR List.flatMap_cons ?_
  refine⟨fun x hx=>(List.mem_append.mp hx).elim (a' x) (a x),?_,?_⟩
  ·rw[uT];exact dW 2 506318690238200084349077176321 rfl b b'
  ·refine eR List.length_append ?_;refine eR List.length_cons ?_;exact bw 2 118355572398313507667969 rfl c c'
theorem lV{ks js:List Ki}{m:Nat}{f:Ln→List Ln}(h:∀l,LnOk ks m l→(∀x∈f l,LnOk js m x)∧mu (f l)≤1+bS l.ps∧(f l).length≤1)
  {l:Ln} {r:List Ln} (hl:∀x∈l::r,LnOk ks m x) (h':mu (f l)≤bS l.ps):mu ((l::r).flatMap f)+1≤mu (l::r):=by
 refine o6 (i5 h (ls:=r) fun x m=>hl x (List.mem_cons_of_mem _ m)) fun a b c=>?_
 rw[List.flatMap_cons,uT]
 exact dW 2 560808012969559002137930760193 rfl h' b
end Mine
namespace Mine
open PySem PySem.W
theorem fY:(("con":Str)==("con":Str))=true:=by decide+kernel
theorem fV:(("lit":Str)==("con":Str))=false:=by decide+kernel
theorem sB:(("con":Str)==("lit":Str))=false:=by decide+kernel
theorem rW:(("lit":Str)==("lit":Str))=true:=by decide+kernel
theorem r9:(("int":Str)==("int":Str))=true:=by decide+kernel
noncomputable def ku:Ky→List V|.con c=>[.str "con",.str c.str]|.lit i=>[.str "lit",.str "int",.int i]
theorem dE(k:Ky):bP k=.tup none (ku k):=by induction k using Ky.casesOn<;>rfl
theorem qX(k k':Ky):dZ (ku k) (ku k')=some (decide (k=k')):=by
 induction k using Ky.casesOn with
 |con c=>induction k' using Ky.casesOn with
  |con d=>
   show some ((("con":Str)=="con")&&((c.str==d.str)&&true))=_
   refine eR fY ?_
   by_cases e:c=d
   ·subst e;rw[gv];simp
   ·refine eR (gz e) ?_
    have:¬Ky.con c=Ky.con d:=fun h=>e (by injection h)
    simp[this]
  |lit j=>
   show some ((("con":Str)=="lit")&&((c.str=="int")&&false))=_
   refine eR sB ?_;simp
 |lit i=>induction k' using Ky.casesOn with
  |con d=>
   show some ((("lit":Str)=="con")&&((("int":Str)==d.str)&&false))=_
   refine eR fV ?_;simp
  |lit j=>
   show some ((("lit":Str)=="lit")&&((("int":Str)=="int")&&((i==j)&&true)))=_
   refine eR rW ?_;refine eR r9 ?_
   by_cases e:i=j
   ·subst e;simp
   ·have:¬Ky.lit i=Ky.lit j:=fun h=>e (by injection h)
    simp[this,e]
theorem qH{σ:Store}(k k':Ky):gn σ .Eq (bP k) (bP k')=some (decide (k=k')):=by
 rw[dE,dE];exact qX k k'
theorem pJ{σ:Store}(k:Option Ky):gn σ .Is (fQ k) .none=some k.isNone:=by
 induction k using Option.casesOn with
 |none=>rfl
 |some k=>induction k using Ky.casesOn<;>rfl
section
variable {T:Tab}{c:Calls}{wf:Nat}{ρ:ay}{σ σ1 σ2 σ3:Store}
theorem dJ{x:Nat}{e:E}{d:V}{l:List V}(hx:ρ x=some (.own l))(h:ak T c e ρ σ=some (d,σ1))(hl:l.length≤bq):bA T c wf (.append (.var x) e) ρ σ=some (.next,ρ.set x (.own (l++[d])),σ1):=by
 show(match mI x (ρ x)with
  |.l x l=>(ak T c e ρ σ).bind fun(d,σ)=>if l.length≤bq then some (Fl.next,ρ.set x (.own (l++[d])),σ)else Option.none
  |_=>(ak T c (.var x) ρ σ).bind fun(ov,σ0)=>(ak T c e ρ σ0).bind fun(d,σ)=>(g7 σ0 σ ov d).map fun σ=>(Fl.next,ρ,σ))=_
 refine eR hx ?_;show(ak T c e ρ σ).bind _=_
 refine eR h ?_;exact if_pos hl
theorem tc{x:Nat}{e:E}{l m:List V}(hx:ρ x=some (.own l))(h:ak T c e ρ σ=some (.lst m,σ1))(hl:l.length+m.length≤bq):bA T c wf (.extend (.var x) e) ρ σ=some (.next,ρ.set x (.own (l++m)),σ1):=by
 show(match mI x (ρ x)with
  |.l x l=>(ak T c e ρ σ).bind fun(d,σ)=>(kr d).bind fun m=>if l.length+m.length≤bq then some (Fl.next,ρ.set x (.own (l++m)),σ)else Option.none
  |_=>Option.none)=_
 refine eR hx ?_;show(ak T c e ρ σ).bind _=_
 refine eR h ?_;exact if_pos hl
end
noncomputable def names(cf k:Nat):List Str:=(List.range' (cf+1) k).map (bF "field")
theorem sJ(cf k:Nat):(names cf k).length=k:=by unfold names;rw[List.length_map,List.length_range']
theorem iS(cf k:Nat):(names cf k).Nodup:=by
 unfold names
 refine List.Pairwise.map _ (fun a b h e=>h (ie e)) (List.nodup_range')
theorem lq{cf k:Nat}{s:Str}(h:s∈names cf k):∃j,cf<j∧j≤cf+k∧s=bF "field" j:=by
 unfold names at h
 refine aT (List.mem_map.mp h) fun j hj e=>?_
 rw[List.mem_range'_1]at hj
 exact iK j (aP 1 97126460315418625 rfl hj.1) (bw 1 1931816833429626862960897 rfl hj.2) e.symm
section
variable {n:Nat}{m a b:Nat}
noncomputable def yl:E:=.meth (.attr (.var 0) 34) 50 (.cons (.str "field") .nil)
theorem iW{ρ:ay}{ch:Nat}(h0:ρ 0=some (.v (bX m a b))):∀{l:List V}{cf:Nat}{σ:Store},Fr a b σ cf ch→cf+l.length<10 ^ 60→
  ∃σ',compLoop (fun x σ=>(cP [31] x (bo ρ [0])).bind fun ρ'=>(ak af.toTab (ac af (n+3)) yl ρ' σ).bind fun(d,σ)=>some ([d],σ)) l σ=some ((names cf l.length).map V.str,σ')∧Fr a b σ' (cf+l.length) ch∧Same b σ σ'
 |[],cf,σ,F,_=>iK σ rfl F (Same.refl b σ)
 |x::r,cf,σ,F,hb=>by
  have hlen:(x::r).length=r.length+1:=rfl
  refine jv (rI (n:=n) F (by rw[hlen]at hb;lia)) fun σ1 e1 F1 S1=>?_
  refine jv (iW h0 (l:=r) F1 (by rw[hlen]at hb;lia)) fun σ2 e2 F2 S2=>?_
  have k0:((bo ρ [0]).set 31 (.v x)) 0=some (.v (bX m a b)):=by
   show(match ρ 0 with|some (.v d)=>some (Slot.v d)|_=>none)=_
   rw[h0]
  refine⟨σ2,?_,by refine eR hlen ?_;have:cf+(r.length+1)=cf+1+r.length:=Nat.le_antisymm (aP 0 6216093412605575169 rfl) (aP 0 28913127205693816833 rfl);refine eR this ?_;exact F2,S1.trans S2⟩
  have:(names cf (x::r).length).map V.str=[V.str (bF "field" (cf+1))]++(names (cf+1) r.length).map V.str:=by
   unfold names;refine eR hlen ?_;refine eR List.range'_succ ?_;rfl
  refine eR this ?_
  refine cJ ?_ e2
  show(ak _ _ _ _ _).bind _=_
  have:ak af.toTab (ac af (n+3)) yl ((bo ρ [0]).set 31 (.v x)) σ=some (.str (bF "field" (cf+1)),σ1):=
   bm (C:=631) (fs:=[(62,.loc a),(63,.loc b)]) (aw (aa k0) rfl) (az (d:=.str "field") rfl) rfl rfl e1
  refine eR this ?_;rfl
noncomputable def Cz:Ss:=.cons (.assign 7 (.item (.attr (.var 42) 23) (.var 1))) (.cons (.assign 52 (.call 518 (.cons (.var 7) .nil))) (.cons (.ite (.cmp .Is (.var 52) .none) (.cons (.append (.var 51) (.meth (.var 42) 28 (.cons (.var 1) (.cons (.comp (.new 99 (.cons .none .nil)) [53] (.val (.var 49)) []) .nil)))) .nil) (.cons (.ite (.cmp .Eq (.var 52) (.var 44)) (.cons (.append (.var 51) (.meth (.var 42) 28 (.cons (.var 1) (.cons (.ite (.cmp .Eq (.item (.var 44) (.int 0)) (.str "con")) (.listof (.val (.attr (.var 7) 5))) (.list .nil)) .nil)))) .nil) (.cons (.extend (.var 51) (.meth (.var 42) 29 (.cons (.var 1) (.cons (.var 8) .nil)))) .nil)) .nil)) .nil))
theorem t7{T:Tab}{c:Calls}{ρ:ay}{σ σ1:Store}{e:E}{l:List V}(h:ak T c e ρ σ=some (.lst l,σ1))(hl:l.length≤bq):ak T c (.listof (.val e)) ρ σ=some (.lst l,σ1):=by
 show(ak T c e ρ σ).bind _=_;refine eR h ?_;exact if_pos hl
theorem lj{T:Tab}{c:Calls}{wf:Nat}{ρ:ay}{σ σ1:Store}{x:Nat}{e:E}{l m:List V}(hx:ρ x=some (.own l))(h:ak T c e ρ σ=some (.lst m,σ1))(hl:l.length≤1000)(hm:m.length≤1000):bA T c wf (.extend (.var x) e) ρ σ=some (.next,ρ.set x (.own (l++m)),σ1):=
 tc hx h (by exact aP 2 1329270533167028725924080890130512232449 rfl hl hm)
theorem kY{T:Tab}{c:Calls}{σ:Store}{x:Nat}{ρ:ay}(hc:∀σ,c.new 99 [.none] σ=some (aM .wild,σ)):∀{vs:List V},compLoop (fun d σ=>(cP [x] d ρ).bind fun ρ'=>(ak T c (.new 99 (.cons .none .nil)) ρ' σ).bind fun(d,σ)=>some ([d],σ)) vs σ=some ((List.replicate vs.length Pt.wild).map aM,σ)
 |[]=>rfl
 |v::r=>cJ (ys:=[aM .wild]) (by
   show(ak T c (.new 99 (.cons .none .nil)) (ρ.set x (.v v)) σ).bind _=_
   refine eR (show ak T c (.new 99 (.cons .none .nil)) (ρ.set x (.v v)) σ=some (aM .wild,σ)from bz (az rfl) (hc σ)) ?_;rfl) (kY hc)
theorem oZ{ks:List Ki}{l:Ln}{i:Nat}{key:Ky}{fields:List Str}{ρ:ay}{σ:Store}{acc:List V}(hn:60<n)(L:LnOk ks m l)(hk:ks.length≤1000)(hi:i<ks.length)(hf:fields.length=key.many)
  (h42:ρ 42=some (.v (aR l))) (h1:ρ 1=some (.v (.int (i:Nat)))) (h8:ρ 8=some (.v (.int (key.many:Nat)))) (h44:ρ 44=some (.v (bP key))) (h49:ρ 49=some (.v (.lst (fields.map V.str)))) (h51:ρ 51=some (.own acc)) (ha:acc.length≤100):
  au af.toTab (ac af (n+5)) (n+5) Cz ρ σ=some (.next,((ρ.set 7 (.v (aM (be l.ps i)))).set 52 (.v (fQ (bG (be l.ps i))))).set 51 (.own (acc++(cw key i l).map aR)),σ):=by
 have hl:=aC L.ok
 have hil:i<l.ps.length:=by refine eR hl ?_;exact hi
 have hlen:l.ps.length≤1000:=by refine eR hl ?_;exact hk
 have F:=L.fits hk
 have hmany:key.many≤2:=by clear ρ σ L h42 h1 h8 h44 h49 h51 F;induction key using Ky.casesOn with
  |con c=>induction c using Con.casesOn<;>decide
  |lit=>exact Nat.zero_le _
 have hacc:acc.length≤bq:=Nat.le_trans ha (by decide)
 refine ag (aH (aw (d:=.lst (l.ps.map aM)) (aa h42) rfl) (aa h1) (dy hil hlen)) (ag (aJ (az (aa rfl)) (pq _)) ?_)
 unfold cw
 cases hkey:bG (be l.ps i)with
 |none=>
  refine cT (aQ (o:=fQ none) (k:=.none) (aa rfl) rfl (pJ none)) (bg (dJ (d:=aR (br l (ax i (List.replicate key.many .wild) l.ps))) h51 (bm (C:=507) (fs:=[(17,.int (l.num:Nat)),(23,.lst (l.ps.map aM)),(18,.lst l.binds),(24,.bool l.lost)]) (aa h42)
   (aB (aa h1) (cM (c8 (d:=.lst (fields.map V.str)) (aa h49) rfl) (by rw[List.length_map,hf];exact Nat.le_trans hmany (by decide)) (kY fun σ=>fR))) rfl rfl ?_) hacc) rfl) rfl
  rw[List.length_map,hf]
  exact fJ hlen hil (by refine eR List.length_replicate ?_;exact bI 1 7336027077751041 rfl hmany)
 |some k'=>
  dsimp only
  refine cU (aQ (o:=fQ (some k')) (k:=.none) (aa rfl) rfl (pJ (some k'))) ?_ rfl
  by_cases hkk:k'=key
  ·subst hkk
   refine eR (if_pos rfl) ?_
   refine cT (aQ (o:=fQ (some k')) (k:=bP k') (aa rfl) (aa h44) ((qH k' k').trans (by simp))) (bg (dJ (d:=aR (br l (ax i (cz (be l.ps i)) l.ps))) h51 (bm (C:=507) (fs:=[(17,.int (l.num:Nat)),(23,.lst (l.ps.map aM)),(18,.lst l.binds),(24,.bool l.lost)]) (aa h42)
    (aB (d2:=.lst ((cz (be l.ps i)).map aM)) (aa h1) ?_) rfl rfl (fJ hlen hil ?_)) hacc) rfl) rfl
   ·cases hp:be l.ps i with
    |con c p q=>
     rw[hp]at hkey;clear L h42 h1 h49 h51 F h8 hp;injection hkey with z1;subst z1
     refine cA (aQ (o:=.str "con") (k:=.str "con") (aH (o:=.tup none (ku (.con c))) (k:=.int 0) (aa h44) rfl rfl) rfl (congrArg some fY)) (t7 (aw (C:=153) (fs:=[(1,.none),(2,.str c.str),(5,.lst ([aM p,aM q].take c.ar))]) (aa rfl) ?_) ?_)
     ·show some (V.lst ([aM p,aM q].take c.ar))=_
      unfold cz;refine eR List.map_take ?_;rfl
     ·unfold cz;rw[List.length_map,List.length_take];exact Nat.le_trans (Nat.min_le_right _ 2) (by decide)
    |lit j=>
     rw[hp]at hkey;clear ks l i fields acc hn L hk hi h42 h1 h49 h51 ha hl hil hlen F hacc hf h8 hmany hp;injection hkey with z1;subst z1
     exact bT (aQ (o:=.str "lit") (k:=.str "con") (aH (o:=.tup none (ku (.lit j))) (k:=.int 0) (aa h44) rfl rfl) rfl (congrArg some fV)) rfl
    |_=>replace hkey:=hp▸hkey;exact nE hkey
   ·cases hp:be l.ps i with
    |con c p q=>unfold cz;rw[List.length_take];exact Nat.le_trans (Nat.min_le_right _ 2) (by decide)
    |_=>exact Nat.zero_le _
  ·rw[if_neg hkk]
   refine cU (aQ (o:=fQ (some k')) (k:=bP key) (aa rfl) (aa h44) ((qH k' key).trans (by simp[hkk]))) (bg (lj (m:=(cC i key.many l).map aR) h51 (bm (C:=507) (fs:=[(17,.int (l.num:Nat)),(23,.lst (l.ps.map aM)),(18,.lst l.binds),(24,.bool l.lost)]) (aa h42)
    (aB (aa h1) (aa h8)) rfl rfl (lK F hil (bI 1 27984797953 rfl hmany) (bI 1 5453469317061456519217033277 rfl hn))) (bI 1 115329041360317067521 rfl ha) ?_) rfl) rfl
   rw[List.length_map];unfold cC;split
   ·exact Nat.zero_le _
   ·show 1≤1000;decide
theorem iV{ks:List Ki}{i:Nat}{key:Ky}{fields:List Str}{σ:Store}(hn:60<n)(hk:ks.length≤1000)(hi:i<ks.length)(hf:fields.length=key.many):
  ∀{ls:List Ln}{ρ:ay}{acc:List V},(∀l∈ls,LnOk ks m l)→ρ 1=some (.v (.int (i:Nat)))→ρ 8=some (.v (.int (key.many:Nat)))→ρ 44=some (.v (bP key))→ρ 49=some (.v (.lst (fields.map V.str)))→ρ 51=some (.own acc)→acc.length+ls.length≤100→
  ∃ρ',aZ (fq af.toTab (ac af (n+5)) (n+5) [42] Cz) (ls.map aR) ρ σ=some (.next,ρ',σ)∧ρ' 51=some (.own (acc++(ls.flatMap (cw key i)).map aR))∧∀j,j≠42→j≠7→j≠52→j≠51→ρ' j=ρ j
 |[],ρ,acc,_,_,_,_,_,h51,_=>iK ρ rfl (by rw[List.flatMap_nil,List.map_nil,List.append_nil];exact h51) (fun _ _ _ _ _=>rfl)
 |l::r,ρ,acc,hl,h1,h8,h44,h49,h51,ha=>by
  have L:=hl l (List.mem_cons_self ..)
  have t:=oZ (n:=n) (m:=m) (ρ:=ρ.set 42 (.v (aR l))) (σ:=σ) hn L hk hi hf rfl h1 h8 h44 h49 h51 (aP 1 472387772202030870311169 rfl ha)
  obtain⟨ρ',e,a51,aj⟩:=iV hn hk hi hf (ls:=r) (ρ:=(((ρ.set 42 (.v (aR l))).set 7 (.v (aM (be l.ps i)))).set 52 (.v (fQ (bG (be l.ps i))))).set 51 (.own (acc++(cw key i l).map aR))) (fun x m=>hl x (List.mem_cons_of_mem _ m)) h1 h8 h44 h49 rfl
   (by have:=(l9 (key:=key) L hi).2.2;rw[List.length_append,List.length_map];exact dW 3 35793084739150966002740166986572941867313266689 rfl ha (Nat.le_of_eq (show(l::r).length=r.length+1 from rfl).symm) this)
  refine iK ρ' (cj t e) ?_ (fun j j42 j7 j52 j51=>?_)
  ·rw[a51,List.flatMap_cons,List.map_append,List.append_assoc]
  ·refine eR (aj j j42 j7 j52 j51) ?_;simp only [ay.set,if_neg j42,if_neg j7,if_neg j52,if_neg j51]
end
end Mine
namespace Mine
open PySem PySem.W
theorem eQ{ρ:ay}{σ:Store}{x:Nat}{l:List V}(h:ρ x=some (.own l)):ff (.freeze x) ρ σ=some (ρ.set x (.v (.lst l)),σ):=by
 show(match ρ x with
  |some (.own l)=>some (ρ.set x (.v (.lst l)),σ)
  |some (.ownd es)=>some (ρ.set x (.v (.dct es)),σ)
  |some (.ownk es)=>some (ρ.set x (.v (.dcti es)),σ)
  |some (.owni C fs)=>some (ρ.set x (.v (.inst C fs)),σ)
  |_=>none)=_
 rw[h]
theorem ii{cols ns:List Str}{i:Nat}(h:cols.Nodup)(g:ns.Nodup)(d:∀n∈ns,n∉cols):(ax i ns cols).Nodup:=by
 unfold ax
 have hs:(cols.take i++cols.drop (i+1)).Sublist cols:=by
  have:(cols.take i++cols.drop (i+1)).Sublist (cols.take i++cols.drop i):=by
   refine List.Sublist.append (List.Sublist.refl _) ?_
   have e:cols.drop (i+1)=(cols.drop i).drop 1:=by rw[List.drop_drop]
   refine eR e ?_;exact List.drop_sublist _ _
  rwa [List.take_append_drop]at this
 have hn:=List.Nodup.sublist hs h
 rw[List.nodup_append]at hn ⊢
 refine o6 hn fun h1 h2 h3=>?_
 refine fz ?_ h2 ?_
 ·rw[List.nodup_append]
  exact⟨h1,g,fun x hx y hy e=>d y hy (e▸List.mem_of_mem_take hx)⟩
 ·intro x hx y hy e
  rcases List.mem_append.mp hx with hx|hx
  ·exact h3 x hx y hy e
  ·exact d x hx (e▸List.mem_of_mem_drop hy)
theorem mF{α:Type}{cols ns:List α}{i:Nat}{x:α}(h:x∈ax i ns cols):x∈cols∨x∈ns:=by
 unfold ax at h
 rcases List.mem_append.mp h with h|h
 ·rcases List.mem_append.mp h with h|h
  ·exact .inl (List.mem_of_mem_take h)
  ·exact .inr h
 ·exact .inl (List.mem_of_mem_drop h)
theorem xD(key:Ky):key.many≤2:=by induction key using Ky.casesOn with
 |con c=>induction c using Con.casesOn<;>decide
 |lit=>exact Nat.zero_le _
section
variable {n m a b M:Nat}{cols:List Str}{ks:List Ki}{i:Nat}{key:Ky}{ls:List Ln}{σ:Store}{cf ch:Nat}
theorem rM(TO:ig m a b M)(hn:4*M+80≤n)(hc:cols.length=ks.length)(nd:cols.Nodup)(old:∀c∈cols,vj cf ch c)(len:cols.length+2*(M+1)≤1000)(hi:i<ks.length)
  (few:ls.length≤10) (ok:∀l∈ls,LnOk ks m l) (hmu:mu (ls.flatMap (cw key i))≤M) (F:Fr a b σ cf ch) (hb:cf+ch+2+40 ^ M<10 ^ 60):
  ∃fields t σ' cf' ch',(ac af (n+1)).fn 556 [bX m a b,bP key,.int (i:Nat),aV cols,aE ls] σ=some (p5 (key,fields,t),σ')∧fields.Nodup∧(∀x∈fields,x∉cols)∧fields.length=key.many∧
   db M t (ax i fields cols) (ax i key.kinds ks) (ls.flatMap (cw key i))∧Fr a b σ' cf' ch'∧cf≤cf'∧ch≤ch'∧cf'+ch'≤cf+ch+2+40 ^ M∧Same b σ σ':=by
 refine Exists.elim (sx n 5 (aP 1 18981736548984529635152 rfl hn)) fun j z1=>?_;subst z1
 have hk:ks.length≤1000:=bw 2 20769853671193396307797389961901650177 rfl (Nat.le_of_eq hc.symm) len
 have hm:=xD key
 have hp:0<40 ^ M:=Nat.pow_pos (by decide)
 have e8:ak af.toTab (ac af (j+5)) (.ite (.cmp .Eq (.item (.var 44) (.int 0)) (.str "con")) (.meth (.attr (.var 0) 32) 10 (.cons (.item (.var 44) (.int 1)) .nil)) (.int 0)) (aq [0,44,1,37,35] [bX m a b,bP key,.int (i:Nat),aV cols,aE ls]) σ=some (.int (key.many:Nat),σ):=by
  clear M ks cf ch TO hc nd old len hi few ok hmu F hb hn hk hm hp;induction key using Ky.casesOn with
  |con c=>exact cA (aQ (o:=.str "con") (k:=.str "con") rfl rfl (congrArg some fY)) (bm (C:=362) (fs:=[(9,fg)]) (aw (aa rfl) rfl) (az (d:=.str c.str) rfl) rfl rfl (vG c))
  |lit j=>exact bT (aQ (o:=.str "lit") (k:=.str "con") rfl rfl (congrArg some fV)) rfl
 have lr:((List.range key.many).map fun(i:Nat)=>V.int (i:Int)).length=key.many:=by rw[List.length_map,List.length_range]
 obtain⟨σ1,e49,F1,S1⟩:=iW (n:=j+2) (m:=m) (a:=a) (b:=b) (ch:=ch)
  (ρ:=(aq [0,44,1,37,35] [bX m a b,bP key,.int (i:Nat),aV cols,aE ls]).set 8 (.v (.int (key.many:Nat)))) rfl (l:=(List.range key.many).map fun(i:Nat)=>V.int (i:Int)) (cf:=cf) F (by refine eR lr ?_;lia)
 rw[lr]at e49 F1
 have hf:=sJ cf key.many
 obtain⟨ρ2,e2,a51,aj⟩:=iV (n:=j) (m:=m) (ks:=ks) (i:=i) (key:=key) (fields:=names cf key.many) (σ:=σ1) (by lia) hk hi hf (ls:=ls)
  (ρ:=((((aq [0,44,1,37,35] [bX m a b,bP key,.int (i:Nat),aV cols,aE ls]).set 8 (.v (.int (key.many:Nat)))).set 49 (.v (.lst ((names cf key.many).map V.str)))).set 51 (.own []))) (acc:=[]) ok rfl rfl rfl rfl rfl (by exact bI 1 39271677099794071553 rfl few)
 rw[List.nil_append]at a51
 have flat:=i5 (js:=ax i key.kinds ks) (fun l (L:LnOk ks m l)=>l9 (key:=key) L hi) ok
 have dj:∀x∈names cf key.many,x∉cols:=fun x hx hm=>by
  refine jv (lq hx) fun k k1 k2 e=>?_
  exact sy (old x hm) k1 e.symm
 have lk:=fT (js:=key.kinds) hi
 have lc:=gZ (qs:=names cf key.many) (i:=i) (ps:=cols) (bw 2 30183485294485944156161 rfl (Nat.le_of_eq hc.symm) hi)
 rw[iG]at lk
 rw[hf]at lc
 have P:Pre m a b M (ax i (names cf key.many) cols) (ax i key.kinds ks) (ls.flatMap (cw key i)) σ1 (cf+key.many) ch:=
  {hc:=Nat.le_antisymm (mC 3 168102596451308717921578218718253313 rfl (Nat.le_of_eq hc) (Nat.le_of_eq lk.symm) (Nat.le_of_eq lc)) (mC 3 520852921112995739159438408135495937 rfl (Nat.le_of_eq hc.symm) (Nat.le_of_eq lk) (Nat.le_of_eq lc.symm)),nd:=ii nd (iS _ _) dj,
   old:=fun c hc=>(mF hc).elim (fun h=>(old c h).mono (aP 0 84934913 rfl) (Nat.le_refl _)) (fun h=>by refine jv (lq h) fun k k1 k2 e=>?_;exact .inr (.inl (bi k k2 e))),
   len:=dW 3 695762352549628169753475096149936018469805199751217692673 rfl len hm (Nat.le_of_eq lc),few:=Nat.le_trans flat.2.2 few,ok:=flat.1,fr:=F1,bound:=by lia}
 refine ya (TO (j+5) _ _ _ _ _ _ (aP 1 10132249419637458928070713762618493683896321 rfl hn) hmu P) fun t σ2 cf' ch' et G F2 hcf hch hsum S2=>?_
 refine⟨names cf key.many,t,σ2,cf',ch',?_,iS _ _,dj,hf,G,F2,bw 1 22406844666113 rfl hcf,hch,zO 2 180894616678746938536723173738413826396930049 rfl hm hsum,S1.trans S2⟩
 have a0:ρ2 0=some (.v (bX m a b)):=by refine eR (aj 0 (by decide) (by decide) (by decide) (by decide)) ?_;rfl
 have a1:ρ2 1=some (.v (.int (i:Nat))):=by refine eR (aj 1 (by decide) (by decide) (by decide) (by decide)) ?_;rfl
 have a37:ρ2 37=some (.v (aV cols)):=by refine eR (aj 37 (by decide) (by decide) (by decide) (by decide)) ?_;rfl
 have a44:ρ2 44=some (.v (bP key)):=by refine eR (aj 44 (by decide) (by decide) (by decide) (by decide)) ?_;rfl
 have a49:ρ2 49=some (.v (.lst ((names cf key.many).map V.str))):=by refine eR (aj 49 (by decide) (by decide) (by decide) (by decide)) ?_;rfl
 have es:ak af.toTab (ac af (j+5)) (.bin .Add (.bin .Add (.sto (.var 37) (.var 1)) (.var 49)) (.sfrom (.var 37) (.bin .Add (.var 1) (.int 1)))) (ρ2.set 51 (.v (aE (ls.flatMap (cw key i))))) σ1=some (aV (ax i (names cf key.many) cols),σ1):=by
  unfold aV;rw[gD]
  exact gQ (l:=cols.map V.str) (m:=(names cf key.many).map V.str) (aa (x:=37) a37) (aa (x:=49) a49) (aa (x:=1) a1) (by rw[List.length_map];exact aP 1 5070765056141468797540027329163521 rfl len) (by rw[List.length_map];exact aP 2 23908603027250249216257 rfl hm (Nat.le_of_eq hf)) (aP 2 20769852080536871459564772062572855297 rfl hi hk)
 have em:=bm (ρ:=ρ2.set 51 (.v (aE (ls.flatMap (cw key i))))) (T:=af.toTab) (c:=ac af (j+5)) (m:=21) (C:=566) (fs:=[(32,b4),(33,.lst (List.replicate m (.bool false))),(34,bO a b)]) (aa (x:=0) a0) (aB es (aa (x:=51) rfl)) rfl rfl et
 have er:=kR (ρ:=ρ2.set 51 (.v (aE (ls.flatMap (cw key i))))) (aF (aa (x:=44) a44) (aa (x:=49) a49) em) (by show 3≤100;decide)
 exact aI (fi:=⟨[0,44,1,37,35],Ae⟩) (ρ':=_) rfl rfl (ag e8 (ag (cM (de (n:=key.many) (aa rfl) (bI 1 30048314966009721089 rfl hm)) (by refine eR lr ?_;exact Nat.le_trans hm (by decide)) e49) (bg (ρ1:=_) (σ1:=σ1) rfl
  (eg (c8 (d:=aE ls) (l:=ls.map aR) (aa rfl) rfl) e2 (g5 (v0 (eQ a51) (uE er)))))))
end
end Mine
namespace Mine
open PySem PySem.W
theorem cL{T:Tab}{c:Calls}{ρ:ay}{σ:Store}{cols:List Str}{i:Nat}(h37:ρ 37=some (.v (aV cols)))(h1:ρ 1=some (.v (.int (i:Nat))))(hi:i<cols.length)(hc:cols.length≤1000):
  ak T c (.item (.var 37) (.var 1)) ρ σ=some (.str (sn cols i),σ):=by
 refine aH (o:=aV cols) (aa h37) (aa h1) (dP (by lia) ?_)
 refine eR (List.getElem?_map) ?_
 unfold sn;refine eR (List.getD_eq_getElem?_getD) ?_;refine eR (List.getElem?_eq_getElem hi) ?_;rfl
theorem ci{ρ:ay}{fv:List Nat}{j:Nat}{d:V}(h:ρ j=some (.v d))(hj:fv.contains j=true):bo ρ fv j=some (.v d):=by
 unfold bo;rw[if_pos hj,h]
theorem yr{T:Tab}{c:Calls}{ρ:ay}{σ σ1:Store}{e:E}{x:Nat}{i:Option Nat}{m l:List V}{b:Bool}(h:ak T c e ρ σ=some (.tup i m,σ1))(hx:ρ x=some (.own l))(g:fo (.tup i m) l=some b):ak T c (.nin e x) ρ σ=some (.bool (!b),σ1):=by
 show(ak T c e ρ σ).bind _=_;refine eR h ?_
 show(match V.tup i m,ρ x with
  |.tup i m,some (.own l)=>(fo (.tup i m) l).map fun b=>(V.bool (!b),σ1)
  |_,_=>none)=_
 refine eR hx ?_;dsimp only;refine eR g ?_;rfl
theorem rj(k:Ky):∀ks:List Ky,fo (bP k) (ks.map bP)=some (decide (k∈ks))
 |[]=>congrArg some (decide_eq_false List.not_mem_nil).symm
 |x::r=>by
  refine eR List.map_cons ?_;refine eR (dE k) ?_;refine eR (dE x) ?_
  show((dZ (ku x) (ku k)).bind fun a=>(fo (.tup none (ku k)) (r.map bP)).bind fun b=>some (a||b))=_
  rw[qX,←dE k,rj k r]
  show some _=_
  congr 1
  by_cases e:x=k
  ·subst e;simp
  ·have:¬k=x:=fun h=>e h.symm
   simp[e,this]
noncomputable def fu(ks:List Ky)(p:Pt):List Ky:=match bG p with|none=>ks|some k=>if k∈ks then ks else ks++[k]
noncomputable def dL(i:Nat):List Ln→List Ky→List Ky
 |[],acc=>acc
 |l::r,acc=>dL i r (fu acc (be l.ps i))
theorem o8{ks:List Ky}{p:Pt}(h:ks.Nodup):(fu ks p).Nodup:=by
 unfold fu
 split
 ·exact h
 ·split
  ·exact h
  ·rename_i k _ hk
   rw[List.nodup_append]
   refine⟨h,List.nodup_cons.mpr ⟨List.not_mem_nil,List.nodup_nil⟩,fun x hx y hy e=>?_⟩
   rw[List.mem_singleton]at hy;subst hy;subst e;exact hk hx
theorem uv{ks:List Ky}{p:Pt}{k:Ky}:k∈fu ks p↔k∈ks∨bG p=some k:=by
 unfold fu
 cases bG p with
 |none=>simp
 |some j=>
  dsimp only
  split
  ·rename_i h
   exact⟨.inl,fun e=>e.elim id fun e=>by refine oE e ?_;exact h⟩
  ·rw[List.mem_append,List.mem_singleton]
   exact⟨fun e=>e.imp id fun e=>by rw[e],fun e=>e.imp id fun e=>by refine oE e ?_;rfl⟩
theorem mZ{ks:List Ky}{p:Pt}:(fu ks p).length≤ks.length+1:=by
 unfold fu
 split
 ·exact bI 0 420479233 rfl
 ·split
  ·exact bI 0 420479233 rfl
  ·refine eR List.length_append ?_;exact Nat.le_refl _
theorem uC{ks:List Ky}{p:Pt}:∃t,fu ks p=ks++t:=by
 unfold fu
 split
 ·exact⟨[],(List.append_nil _).symm⟩
 ·split
  ·exact⟨[],(List.append_nil _).symm⟩
  ·exact⟨_,rfl⟩
theorem fK{i:Nat}:∀{ls:List Ln}{acc:List Ky},acc.Nodup→(dL i ls acc).Nodup∧(∀k,k∈dL i ls acc↔k∈acc∨∃l∈ls,bG (be l.ps i)=some k)∧(dL i ls acc).length≤acc.length+ls.length∧∃t,dL i ls acc=acc++t
 |[],acc,h=>⟨h,fun k=>⟨.inl,fun e=>e.elim id fun w9=>aT w9 fun _ m _=>by cases m⟩,Nat.le_refl _,[],(List.append_nil _).symm⟩
 |l::r,acc,h=>by
  obtain⟨a,b,c,t,d⟩:=fK (i:=i) (ls:=r) (acc:=fu acc (be l.ps i)) (o8 h)
  obtain⟨u,hu⟩:=uC (ks:=acc) (p:=be l.ps i)
  refine⟨a,fun k=>?_,?_,u++t,?_⟩
  ·show k∈dL i r _↔_
   rw[b k,uv]
   constructor
   ·rintro((h|h)|⟨x,m,e⟩)
    ·exact .inl h
    ·exact .inr ⟨l,List.mem_cons_self ..,h⟩
    ·exact .inr (bi x (List.mem_cons_of_mem _ m) e)
   ·rintro(h|⟨x,m,e⟩)
    ·exact .inl (.inl h)
    ·clear h a b c t d u hu;rcases List.mem_cons.mp m with rfl|m
     ·exact .inl (.inr e)
     ·exact .inr (bi x m e)
  ·have:=mZ (ks:=acc) (p:=be l.ps i)
   refine eR List.length_cons ?_;exact dW 2 1986895883846379590007456530689 rfl c this
  ·show dL i r _=_;rw[d,hu,List.append_assoc]
section
variable {n m a b M:Nat}{cols:List Str}{ks:List Ki}{i:Nat}{σ:Store}
theorem t8{ρ:ay}(hn:60≤n)(hc:cols.length=ks.length)(hk:ks.length≤1000)(hi:i<ks.length)(h37:ρ 37=some (.v (aV cols)))(h1:ρ 1=some (.v (.int (i:Nat)))):∀{ls:List Ln},(∀l∈ls,LnOk ks m l)→
  ∃ls',compLoop (fun x σ=>(cP [42] x (bo ρ [37,1])).bind fun ρ'=>(ak af.toTab (ac af (n+5)) (.meth (.var 42) 25 (.cons (.var 1) (.cons (.item (.var 37) (.var 1)) (.cons (.bool true) .nil)))) ρ' σ).bind fun(d,σ)=>some ([d],σ)) (ls.map aR) σ=some (ls'.map aR,σ)∧
   f9 (fun l l'=>PlainTo true i l l'∧LnOk ks m l'∧bS l'.ps≤bS l.ps) ls ls'
 |[],_=>bi ([]) rfl trivial
 |l::r,hl=>by
  refine aT (t8 hn hc hk hi h37 h1 (ls:=r) fun x m=>hl x (List.mem_cons_of_mem _ m)) fun r' e h=>?_
  have L:=hl l (List.mem_cons_self ..)
  have hil:i<l.ps.length:=by refine eR (aC L.ok) ?_;exact hi
  refine jv (gL (n:=n) (σ:=σ) (col:=.str (sn cols i)) (b:=true) (L.fits hk) hil (aS i L.ok hi).2.1 hn) fun l' e' P F=>?_
  refine bi (l'::r') ?_ ⟨⟨P,hG L hi P F,ly hil P⟩,h⟩
  refine cJ (ys:=[aR l']) ?_ e
  have k1:=ci (fv:=[37,1]) h1 rfl
  have k37:=ci (fv:=[37,1]) h37 rfl
  have:ak af.toTab (ac af (n+5)) (.meth (.var 42) 25 (.cons (.var 1) (.cons (.item (.var 37) (.var 1)) (.cons (.bool true) .nil)))) ((bo ρ [37,1]).set 42 (.v (aR l))) σ=some (aR l',σ):=
   bm (C:=507) (fs:=[(17,.int (l.num:Nat)),(23,.lst (l.ps.map aM)),(18,.lst l.binds),(24,.bool l.lost)]) (aa rfl) (aF (aa k1) (cL k37 k1 (bw 2 30183485294485944156161 rfl (Nat.le_of_eq hc.symm) hi) (aP 2 302241126781598891592134913 rfl (Nat.le_of_eq hc) hk)) (d3:=.bool true) rfl) rfl rfl e'
  show(ak _ _ _ _ _).bind _=_
  refine eR this ?_;rfl
theorem qu{R:Ln→Ln→Prop}(h:∀l l',R l l'→bS l'.ps≤bS l.ps):∀{ls ls'},f9 R ls ls'→mu ls'≤mu ls
 |[],[],_=>Nat.le_refl _
 |l::r,l'::r',g=>by
  have:=h _ _ g.1
  have:=qu h g.2
  show(1+bS l'.ps)+mu r'≤(1+bS l.ps)+mu r;lia
 |[],_::_,g=>g.elim
 |_::_,[],g=>g.elim
theorem jK{R:Ln→Ln→Prop}{Q:Ln→Prop}(h:∀l l',R l l'→Q l'):∀{ls ls'},f9 R ls ls'→∀l∈ls',Q l
 |[],[],_=>fun _ m=>by cases m
 |l::r,l'::r',g=>fun x hx=>by
  rcases List.mem_cons.mp hx with rfl|hx
  ·exact h _ _ g.1
  ·exact jK h g.2 x hx
 |[],_::_,g=>g.elim
 |_::_,[],g=>g.elim
noncomputable def Bq:Ss:=.cons (.assign 44 (.call 518 (.cons (.item (.attr (.var 42) 23) (.var 1)) .nil))) (.cons (.ite (.bop .And (.cons (.cmp .IsNot (.var 44) .none) (.cons (.nin (.var 44) 43) .nil))) (.cons (.append (.var 43) (.var 44)) .nil) .nil) .nil)
theorem iF{σ:Store}(k:Option Ky):gn σ .IsNot (fQ k) .none=some k.isSome:=by
 induction k using Option.casesOn with
 |none=>rfl
 |some k=>induction k using Ky.casesOn<;>rfl
theorem lC(hk:ks.length≤1000)(hi:i<ks.length):∀{ls:List Ln}{ρ:ay}{acc:List Ky},(∀l∈ls,LnOk ks m l)→ρ 1=some (.v (.int (i:Nat)))→ρ 43=some (.own (acc.map bP))→acc.length+ls.length≤100→
  ∃ρ',aZ (fq af.toTab (ac af (n+1)) (n+1) [42] Bq) (ls.map aR) ρ σ=some (.next,ρ',σ)∧ρ' 43=some (.own ((dL i ls acc).map bP))∧∀j,j≠42→j≠44→j≠43→ρ' j=ρ j
 |[],ρ,acc,_,_,h43,_=>iK ρ rfl h43 (fun _ _ _ _=>rfl)
 |l::r,ρ,acc,hl,h1,h43,ha=>by
  have hlen:(l::r).length=r.length+1:=rfl
  have L:=hl l (List.mem_cons_self ..)
  have hil:i<l.ps.length:=by refine eR (aC L.ok) ?_;exact hi
  have ea:∀{ρ:ay},ρ 42=some (.v (aR l))→ρ 1=some (.v (.int (i:Nat)))→ak af.toTab (ac af (n+1)) (.call 518 (.cons (.item (.attr (.var 42) 23) (.var 1)) .nil)) ρ σ=some (fQ (bG (be l.ps i)),σ):=fun h42 h1=>
   aJ (az (aH (aw (d:=.lst (l.ps.map aM)) (aa h42) rfl) (aa h1) (dy hil (by refine eR (aC L.ok) ?_;exact hk)))) (pq _)
  have step:∃ρ1,au af.toTab (ac af (n+1)) (n+1) Bq (ρ.set 42 (.v (aR l))) σ=some (.next,ρ1,σ)∧ρ1 43=some (.own ((fu acc (be l.ps i)).map bP))∧∀j,j≠42→j≠44→j≠43→ρ1 j=ρ j:=by
   cases hkey:bG (be l.ps i)with
   |none=>
    refine⟨(ρ.set 42 (.v (aR l))).set 44 (.v (fQ none)),ag (by refine eE hkey ?_;exact ea rfl h1) (ao (ba (aQ (o:=fQ none) (k:=.none) (aa rfl) rfl (iF none))) rfl),?_,fun j a b c=>by simp only [ay.set,if_neg a,if_neg b]⟩
    unfold fu;refine eR hkey ?_;exact h43
   |some k=>
    have hin:=rj k acc
    by_cases hm:k∈acc
    ·refine iK ((ρ.set 42 (.v (aR l))).set 44 (.v (fQ (some k)))) (ag (by rw[←hkey];exact ea rfl h1) (ao (aU (aQ (o:=fQ (some k)) (k:=.none) (aa rfl) rfl (iF (some k))) (bY (yr (i:=none) (m:=ku k) (l:=acc.map bP) (b:=true) (aa (by rw[←dE];rfl)) h43 (by rw[←dE,hin];simp[hm])))) rfl)) ?_ (fun j a b c=>by simp only [ay.set,if_neg a,if_neg b])
     unfold fu;refine eR hkey ?_;dsimp only;refine eR (if_pos hm) ?_;exact h43
    ·refine iK (((ρ.set 42 (.v (aR l))).set 44 (.v (fQ (some k)))).set 43 (.own (acc.map bP++[bP k]))) (ag (by rw[←hkey];exact ea rfl h1) (cT (aU (aQ (o:=fQ (some k)) (k:=.none) (aa rfl) rfl (iF (some k))) (bY (yr (i:=none) (m:=ku k) (l:=acc.map bP) (b:=false) (aa (by rw[←dE];rfl)) h43 (by rw[←dE,hin];simp[hm])))) (bg (dJ (d:=bP k) (l:=acc.map bP) h43 (aa rfl) (by rw[List.length_map];show _≤1000000;exact aP 1 1934900314939528347865067777 rfl ha)) rfl) rfl)) ?_ (fun j a b c=>by simp only [ay.set,if_neg a,if_neg b,if_neg c])
     unfold fu;refine eR hkey ?_;dsimp only;refine eR (if_neg hm) ?_;refine eR List.map_append ?_;rfl
  refine jv step fun ρ1 e1 b43 bj=>?_
  refine jv (lC hk hi (ls:=r) (ρ:=ρ1) (acc:=fu acc (be l.ps i)) (fun x m=>hl x (List.mem_cons_of_mem _ m)) (by refine eR (bj 1 (by decide) (by decide) (by decide)) ?_;exact h1) b43 (by have:=mZ (ks:=acc) (p:=be l.ps i);exact dW 3 35815018661807703765881890053589062541928316929 rfl ha (Nat.le_of_eq hlen.symm) this)) fun ρ' e a43 aj=>?_
  exact iK ρ' (cj e1 e) a43 (fun j a b c=>by rw[aj j a b c,bj j a b c])
noncomputable def B4:Ss:=.cons (.extend (.var 46) (.ite (.cmp .Is (.call 518 (.cons (.item (.attr (.var 42) 23) (.var 1)) .nil)) .none) (.list (.cons (.meth (.var 42) 28 (.cons (.var 1) (.cons (.list .nil) .nil))) .nil)) (.meth (.var 42) 29 (.cons (.var 1) (.cons (.int 0) .nil))))) .nil
theorem iO(hn:60<n)(hk:ks.length≤1000)(hi:i<ks.length):∀{ls:List Ln}{ρ:ay}{acc:List V},(∀l∈ls,LnOk ks m l)→ρ 1=some (.v (.int (i:Nat)))→ρ 46=some (.own acc)→acc.length+ls.length≤100→
  ∃ρ',aZ (fq af.toTab (ac af (n+2)) (n+2) [42] B4) (ls.map aR) ρ σ=some (.next,ρ',σ)∧ρ' 46=some (.own (acc++(ls.flatMap (bM i)).map aR))∧∀j,j≠42→j≠46→ρ' j=ρ j
 |[],ρ,acc,_,_,h46,_=>iK ρ rfl (by rw[List.flatMap_nil,List.map_nil,List.append_nil];exact h46) (fun _ _ _=>rfl)
 |l::r,ρ,acc,hl,h1,h46,ha=>by
  have hlen:(l::r).length=r.length+1:=rfl
  have L:=hl l (List.mem_cons_self ..)
  have hil:i<l.ps.length:=by refine eR (aC L.ok) ?_;exact hi
  have hlk:l.ps.length≤1000:=by refine eR (aC L.ok) ?_;exact hk
  have ea:ak af.toTab (ac af (n+2)) (.call 518 (.cons (.item (.attr (.var 42) 23) (.var 1)) .nil)) (ρ.set 42 (.v (aR l))) σ=some (fQ (bG (be l.ps i)),σ):=
   aJ (az (aH (aw (d:=.lst (l.ps.map aM)) (aa rfl) rfl) (aa (x:=1) h1) (dy hil hlk))) (pq _)
  have o1:(bM i l).length≤1:=(jC L hi).2.2
  have eb:ak af.toTab (ac af (n+2)) (.ite (.cmp .Is (.call 518 (.cons (.item (.attr (.var 42) 23) (.var 1)) .nil)) .none) (.list (.cons (.meth (.var 42) 28 (.cons (.var 1) (.cons (.list .nil) .nil))) .nil)) (.meth (.var 42) 29 (.cons (.var 1) (.cons (.int 0) .nil)))) (ρ.set 42 (.v (aR l))) σ=some (.lst ((bM i l).map aR),σ):=by
   have ec:=aQ (op:=.Is) (i:=.none) (k:=.none) ea rfl (pJ (bG (be l.ps i)))
   unfold bM
   cases hkey:bG (be l.ps i)with
   |none=>
    replace ec:=hkey▸ec
    exact cA ec (cD (az (d:=aR (br l (ax i [] l.ps))) (bm (C:=507) (fs:=[(17,.int (l.num:Nat)),(23,.lst (l.ps.map aM)),(18,.lst l.binds),(24,.bool l.lost)]) (aa rfl) (aB (d2:=.lst []) (aa (x:=1) h1) rfl) rfl rfl (fJ (qs:=[]) hlk hil (Nat.zero_le _)))) o7)
   |some k=>
    rw[hkey]at ec
    exact bT ec (bm (C:=507) (fs:=[(17,.int (l.num:Nat)),(23,.lst (l.ps.map aM)),(18,.lst l.binds),(24,.bool l.lost)]) (aa rfl) (aB (d2:=.int (0:Nat)) (aa (x:=1) h1) rfl) rfl rfl (lK (L.fits hk) hil (Nat.zero_le _) hn))
  refine jv (iO hn hk hi (ls:=r) (ρ:=(ρ.set 42 (.v (aR l))).set 46 (.own (acc++(bM i l).map aR))) (acc:=acc++(bM i l).map aR) (fun x m=>hl x (List.mem_cons_of_mem _ m)) h1 rfl (by rw[List.length_append,List.length_map];exact dW 3 35793084739150966002740166986572941867313266689 rfl ha (Nat.le_of_eq hlen.symm) o1)) fun ρ' e a46 aj=>?_
  refine iK ρ' (cj (bg (lj (x:=46) (m:=(bM i l).map aR) h46 eb (aP 1 472387772202045969805569 rfl ha) (by rw[List.length_map];exact bI 1 7054552101040385 rfl o1)) rfl) e) ?_ (fun j a b=>?_)
  ·rw[a46,List.flatMap_cons,List.map_append,List.append_assoc]
  ·refine eR (aj j a b) ?_;simp only [ay.set,if_neg a,if_neg b]
end
end Mine
namespace Mine
open PySem PySem.W
section
variable {n m a b M:Nat}{cols:List Str}{ks:List Ki}{i:Nat}
theorem ge(TO:ig m a b M)(hn:4*M+80≤n)(hc:cols.length=ks.length)(nd:cols.Nodup)(len:cols.length+2*(M+1)≤1000)(hi:i<ks.length){ls:List Ln}
  (few:ls.length≤10) (ok:∀l∈ls,LnOk ks m l) (hmu:∀key,mu (ls.flatMap (cw key i))≤M) {ρ:ay} (h0:ρ 0=some (.v (bX m a b))) (h37:ρ 37=some (.v (aV cols))) (h1:ρ 1=some (.v (.int (i:Nat)))) (h25:ρ 25=some (.v (aE ls))):
  ∀{keys:List Ky}{cf ch:Nat}{σ:Store},Fr a b σ cf ch→(∀c∈cols,vj cf ch c)→cf+ch+keys.length*(2+40 ^ M)<10 ^ 60→
  ∃(bl:List Br)(σ':Store)(cf' ch':Nat),compLoop (fun x σ=>(cP [44] x (bo ρ [37,1,25,0])).bind fun ρ'=>(ak af.toTab (ac af (n+1)) (.meth (.var 0) 45 (.cons (.var 44) (.cons (.var 1) (.cons (.var 37) (.cons (.var 25) .nil))))) ρ' σ).bind fun(d,σ)=>some ([d],σ)) (keys.map bP) σ=some (bl.map p5,σ')∧
   bl.map (·.1)=keys∧(∀b∈bl,b.2.1.Nodup∧(∀n∈b.2.1,n∉cols)∧b.2.1.length=b.1.many∧db M b.2.2 (ax i b.2.1 cols) (ax i b.1.kinds ks) (ls.flatMap (cw b.1 i)))∧
   Fr a b σ' cf' ch'∧cf≤cf'∧ch≤ch'∧cf'+ch'≤cf+ch+keys.length*(2+40 ^ M)∧Same b σ σ'
 |[],cf,ch,σ,F,_,_=>Cy ([]) σ cf ch rfl rfl (fun _ h=>by exact nomatch h) F (Nat.le_refl _) (Nat.le_refl _) (Nat.le_add_right _ _) (Same.refl b σ)
 |key::r,cf,ch,σ,F,old,hb=>by
  have hx:(key::r).length*(2+40 ^ M)=r.length*(2+40 ^ M)+(2+40 ^ M):=Nat.succ_mul _ _
  rw[hx]at hb ⊢
  obtain⟨fields,t,σ1,cf1,ch1,e1,n1,n2,n3,g,F1,a1,a2,a3,S1⟩:=rM (n:=n) (key:=key) TO hn hc nd old len hi few ok (hmu key) F (by lia)
  refine CI (ge TO hn hc nd len hi few ok hmu h0 h37 h1 h25 (keys:=r) F1 (fun c h=>(old c h).mono a1 a2) (by lia)) fun bl σ2 cf2 ch2 e2 q1 q2 F2 b1 b2 b3 S2=>?_
  refine Cy ((key,fields,t)::bl) σ2 cf2 ch2 ?_ (by rw[List.map_cons,q1]) (fun x hx=>?_) F2 (bw 2 1433838391939329 rfl a1 b1) (bw 2 1433838391939329 rfl a2 b2) (Dc 2 51311015728867124490453385480743932904369294569318785499137 rfl a3 b3) (S1.trans S2)
  ·refine cJ (ys:=[p5 (key,fields,t)]) ?_ e2
   have k0:=ci (fv:=[37,1,25,0]) h0 rfl
   have k1:=ci (fv:=[37,1,25,0]) h1 rfl
   have k37:=ci (fv:=[37,1,25,0]) h37 rfl
   have k25:=ci (fv:=[37,1,25,0]) h25 rfl
   have em:ak af.toTab (ac af (n+1)) (.meth (.var 0) 45 (.cons (.var 44) (.cons (.var 1) (.cons (.var 37) (.cons (.var 25) .nil))))) ((bo ρ [37,1,25,0]).set 44 (.v (bP key))) σ=some (p5 (key,fields,t),σ1):=
    bm (C:=566) (fs:=[(32,b4),(33,.lst (List.replicate m (.bool false))),(34,bO a b)]) (aa k0) (b5 (aa (d:=bP key) rfl) (aF (aa k1) (aa k37) (aa k25))) rfl rfl e1
   show(ak _ _ _ _ _).bind _=_
   refine eR em ?_;rfl
  ·rcases List.mem_cons.mp hx with rfl|hx
   ·exact p6 n1 n2 n3 g
   ·exact q2 x hx
theorem o9(q:Pt):aL false (aL false q)=aL false q:=by
 rcases bL q with e|⟨i,e⟩|⟨c,x,y,e⟩|⟨p,e⟩<;>refine eR e ?_<;>rfl
theorem rU{k:Ki}{p:Pt}(h:cZ k p):cZ k (cy p):=by
 induction p using Pt.casesOn with
 |tup p q=>exact v3 h.1.symm h.2.1 h.2.2 (by simp[Con.ar]) (by simp[Con.ar])
 |lnil=>exact v3 (Eq.symm h) trivial trivial (fun _=>rfl) (fun _=>rfl)
 |lcons x r=>exact v3 h.1.symm h.2.1 h.2.2.2 (by simp[Con.ar]) (by simp[Con.ar])
 |_=>exact h
theorem uK{k:Ki}{p:Pt}(ok:cZ k p)(hp:aL false p=p)(hw:p≠.wild):xS p=decide (k=.N):=by
 by_cases hk:k=.N
 ·subst hk
  rcases dF ok with e|⟨x,y,e,_⟩|⟨x,y,e,_⟩
  ·exact absurd (hp.symm.trans e) hw
  ·rw[←hp,e];rfl
  ·rw[←hp,e];rfl
 ·simp only [hk,decide_false]
  clear hp hw;induction p using Pt.casesOn with
  |con c x y=>
   have:c≠.N:=fun e=>hk (by refine eE ok.1 ?_;refine eR e ?_;rfl)
   exact decide_eq_false this
  |bang q=>
   show(match cy q with|.con c _ _=>decide (c=.N)|_=>false)=false
   have hq:=rU ok.1
   cases hsp:cy q with
   |con c x y=>
    rw[hsp]at hq
    have:c≠.N:=fun e=>hk (by refine eE hq.1 ?_;refine eR e ?_;rfl)
    simp[this]
   |_=>rfl
  |_=>rfl
noncomputable def CF:Ss:=.cons (.assign 25 (.meth (.var 42) 25 (.cons (.var 1) (.cons (.item (.var 37) (.var 1)) (.cons (.bool false) .nil))))) (.cons (.assign 7 (.item (.attr (.var 25) 23) (.var 1))) (.cons (.assign 54 (.isi (.var 7) [288])) (.cons (.ite (.var 54) (.cons (.assign 25 (.meth (.meth (.var 25) 28 (.cons (.var 1) (.cons (.list (.cons (.attr (.var 7) 7) .nil)) .nil))) 25 (.cons (.var 1) (.cons (.item (.var 37) (.var 1)) (.cons (.bool true) .nil))))) (.cons (.assign 7 (.item (.attr (.var 25) 23) (.var 1))) .nil)) .nil) (.cons (.assign 55 (.ite (.isi (.var 7) [153]) (.item (.attr (.var 7) 5) (.int 0)) (.new 99 (.cons .none .nil)))) (.cons (.append (.var 13) (.meth (.var 25) 28 (.cons (.var 1) (.cons (.list (.cons (.ite (.var 54) (.new 288 (.cons (.var 55) (.cons .none .nil))) (.var 55)) .nil)) .nil)))) .nil)))))
structure ProjTo(i:Nat)(l l':Ln):Prop where
 num:l'.num=l.num
 lost:l'.lost=l.lost
 ps:l'.ps=ax i [dC (be l.ps i)] l.ps
theorem mm{α:Type}{i:Nat}{q:α}{ps qs:List α}(h:i<ps.length):ax i qs (ax i [q] ps)=ax i qs ps:=by
 have e1:(ax i [q] ps).take i=ps.take i:=fL h
 have e2:(ax i [q] ps).drop (i+1)=ps.drop (i+1):=oi h
 unfold ax at e1 e2 ⊢
 rw[e1,e2]
theorem l5{l l':Ln}{q:Pt}(hi:i<l.ps.length)(hs:l.binds.length+bS l.ps≤60)(hq:sz q≤sz (be l.ps i)):l.binds.length+bS (ax i [q] l.ps)≤60:=by
 refine eR d6 ?_
 have:=bW hi
 have:bS [q]=sz q:=by rw[bk];rfl
 lia
theorem wk{σ:Store}{ρ:ay}{l:Ln}{acc:List V}(hn:60≤n)(hc:cols.length=ks.length)(hk:ks.length≤1000)(hi:i<ks.length)(hN:gY ks i=.N)(L:LnOk ks m l)(h42:ρ 42=some (.v (aR l)))(h37:ρ 37=some (.v (aV cols)))(h1:ρ 1=some (.v (.int (i:Nat))))
  (h13:ρ 13=some (.own acc)) (ha:acc.length≤100):∃ρ' l',au af.toTab (ac af (n+5)) (n+5) CF ρ σ=some (.next,ρ',σ)∧ρ' 13=some (.own (acc++[aR l']))∧(∀j,j≠25→j≠7→j≠54→j≠55→j≠13→ρ' j=ρ j)∧ProjTo i l l'∧LnOk (ax i [.T] ks) m l':=by
 have hil:i<l.ps.length:=by refine eR (aC L.ok) ?_;exact hi
 have hlk:l.ps.length≤1000:=by refine eR (aC L.ok) ?_;exact hk
 have hicol:i<cols.length:=bw 2 30183485294485944156161 rfl (Nat.le_of_eq hc.symm) hi
 have hacc:acc.length≤bq:=Nat.le_trans ha (by decide)
 refine gC (aS i L.ok hi) fun _ hp _ _=>?_
 refine jv (gL (n:=n) (σ:=σ) (col:=.str (sn cols i)) (b:=false) (L.fits hk) hil hp hn) fun l1 e1 P1 F1=>?_
 have L1:=hG L hi P1 F1
 have hil1:i<l1.ps.length:=by refine eR (aC L1.ok) ?_;exact hi
 have hlk1:l1.ps.length≤1000:=by refine eR (aC L1.ok) ?_;exact hk
 have at1:be l1.ps i=aL false (be l.ps i):=by rw[P1.ps,gu hil]
 have m1:∀{ρ:ay},ρ 42=some (.v (aR l))→ρ 37=some (.v (aV cols))→ρ 1=some (.v (.int (i:Nat)))→ak af.toTab (ac af (n+5)) (.meth (.var 42) 25 (.cons (.var 1) (.cons (.item (.var 37) (.var 1)) (.cons (.bool false) .nil)))) ρ σ=some (aR l1,σ):=fun h42 h37 h1=>
  bm (C:=507) (fs:=[(17,.int (l.num:Nat)),(23,.lst (l.ps.map aM)),(18,.lst l.binds),(24,.bool l.lost)]) (aa h42) (aF (aa h1) (cL h37 h1 hicol (aP 2 302241126781598891592134913 rfl (Nat.le_of_eq hc) hk)) (d3:=.bool false) rfl) rfl rfl e1
 have it:∀{ρ:ay}{k:Ln},k.ps.length=l1.ps.length→ρ 25=some (.v (aR k))→ρ 1=some (.v (.int (i:Nat)))→ak af.toTab (ac af (n+5)) (.item (.attr (.var 25) 23) (.var 1)) ρ σ=some (aM (be k.ps i),σ):=fun{ρ k} hk h25 h1=>
  aH (aw (d:=.lst (k.ps.map aM)) (aa h25) rfl) (aa h1) (dy (bw 2 24055822334480687054849 rfl hil1 (Nat.le_of_eq hk.symm)) (aP 2 97928866713667737322270977 rfl hlk1 (Nat.le_of_eq hk)))
 have hok:cZ .N (be l.ps i):=by rw[hN]at hp;exact hp
 have hT:cZ .T (dC (be l.ps i)):=wt hok
 have fin:∀{k:Ln}{q:Pt},k.num=l.num→k.lost=l.lost→k.binds.length+bS k.ps≤60→k.ps=ax i [be k.ps i] l.ps→i<k.ps.length→q=dC (be l.ps i)→sz q≤sz (be k.ps i)→ProjTo i l (br k (ax i [q] k.ps))∧LnOk (ax i [.T] ks) m (br k (ax i [q] k.ps)):=fun{k q} a1 a2 a3 a4 a5 a6 a7=>by
  subst a6
  have e:ax i [dC (be l.ps i)] k.ps=ax i [dC (be l.ps i)] l.ps:=by rw[a4,mm hil]
  refine⟨⟨a1,a2,e⟩,⟨?_,l5 (l':=k) a5 a3 a7,by show k.num<m;refine eR a1 ?_;exact L.num⟩⟩
  show bQ _ (ax i _ k.ps)
  refine eR e ?_;exact fE (js:=[.T]) L.ok hi ⟨hT,trivial⟩
 have p1:l1.ps=ax i [be l1.ps i] l.ps:=by refine eR at1 ?_;exact P1.ps
 rcases dF hok with e|⟨x,y,e,_⟩|⟨x,y,e,_⟩
 ·
  have hpj:dC (be l.ps i)=.wild:=congrArg v8 e
  refine cB (fin (k:=l1) (q:=.wild) P1.num P1.lost L1.size p1 hil1 hpj.symm (Nat.zero_le _)) fun f1 f2=>?_
  have em:=fJ (n:=n+3) (σ:=σ) (l:=l1) (i:=i) (qs:=[.wild]) hlk1 hil1 (by show 1≤1000;decide)
  refine jT _ (br l1 (ax i [.wild] l1.ps)) (ag (m1 h42 h37 h1) (ag (it (k:=l1) rfl rfl h1) (ag (d:=.bool false) (σ1:=σ) ?_ (ao (aa rfl) (ag (d:=aM .wild) (bT (σ1:=σ) ?_ (bz (az rfl) fR))
   (bg (dJ h13 (bm (C:=507) (fs:=[(17,.int (l1.num:Nat)),(23,.lst (l1.ps.map aM)),(18,.lst l1.binds),(24,.bool l1.lost)]) (aa rfl) (aB (d2:=.lst [aM .wild]) (aa (x:=1) h1) (cD (az (bT (aa rfl) (aa rfl))) o7)) rfl rfl em) hacc) rfl)))))) rfl (fun j a b c d e=>?_) f1 f2
  ·refine eR at1 ?_;refine eR e ?_;exact ah rfl rfl rfl
  ·refine eR at1 ?_;refine eR e ?_;exact ah rfl rfl rfl
  ·simp only [ay.set,if_neg a,if_neg b,if_neg c,if_neg d,if_neg e]
 ·
  have hpj:dC (be l.ps i)=x:=congrArg v8 e
  obtain⟨f1,f2⟩:=fin (k:=l1) (q:=x) P1.num P1.lost L1.size p1 hil1 hpj.symm (by refine eR at1 ?_;refine eR e ?_;exact aP 0 348311781633 rfl)
  have em:=fJ (n:=n+3) (σ:=σ) (l:=l1) (i:=i) (qs:=[x]) hlk1 hil1 (by show 1≤1000;decide)
  refine jT _ (br l1 (ax i [x] l1.ps)) (ag (m1 h42 h37 h1) (ag (it (k:=l1) rfl rfl h1) (ag (d:=.bool false) (σ1:=σ) ?_ (ao (aa rfl) (ag (d:=aM x) (σ1:=σ) (cA (σ1:=σ) ?_ ?_)
   (bg (dJ h13 (bm (C:=507) (fs:=[(17,.int (l1.num:Nat)),(23,.lst (l1.ps.map aM)),(18,.lst l1.binds),(24,.bool l1.lost)]) (aa rfl) (aB (d2:=.lst [aM x]) (aa (x:=1) h1) (cD (az (bT (aa rfl) (aa rfl))) o7)) rfl rfl em) hacc) rfl)))))) rfl (fun j a b c d e=>?_) f1 f2
  ·refine eR at1 ?_;refine eR e ?_;exact ah rfl rfl rfl
  ·refine eR at1 ?_;refine eR e ?_;exact ah rfl rfl rfl
  ·refine eR at1 ?_;refine eR e ?_;rfl
  ·simp only [ay.set,if_neg a,if_neg b,if_neg c,if_neg d,if_neg e]
 ·
  have hpj:dC (be l.ps i)=.bang x:=congrArg v8 e
  have en:=fJ (n:=n+3) (σ:=σ) (l:=l1) (i:=i) (qs:=[.con .N x y]) hlk1 hil1 (by show 1≤1000;decide)
  have L2:LnOk ks m (br l1 (ax i [.con .N x y] l1.ps)):=by
   have hok1:=fE (js:=[gY ks i]) (qs:=[.con .N x y]) L1.ok hi ⟨by
    have:=fC false hp;rw[e]at this;exact this.1,trivial⟩
   have e':ax i [gY ks i] ks=ks:=by
    have:ks=ks.take i++gY ks i::ks.drop (i+1):=by
     unfold gY;refine eR (List.getD_eq_getElem?_getD) ?_;refine eR (List.getElem?_eq_getElem hi) ?_
     show ks=ks.take i++ks[i]::ks.drop (i+1)
     rw[List.getElem_cons_drop,List.take_append_drop]
    unfold ax;rw[List.append_assoc];exact this.symm
   rw[e']at hok1
   refine⟨hok1,l5 (l':=l1) hil1 L1.size ?_,L1.num⟩
   refine eR at1 ?_;refine eR e ?_;exact bI 0 73662721 rfl
  have hil2:i<(br l1 (ax i [.con .N x y] l1.ps)).ps.length:=by refine eR (aC L2.ok) ?_;exact hi
  have at2:be (br l1 (ax i [.con .N x y] l1.ps)).ps i=.con .N x y:=gu hil1
  refine jv (gL (n:=n) (σ:=σ) (col:=.str (sn cols i)) (b:=true) (L2.fits hk) hil2 (aS i L2.ok hi).2.1 hn) fun l3 e3 P3 F3=>?_
  have L3:=hG L2 hi P3 F3
  have hil3:i<l3.ps.length:=by refine eR (aC L3.ok) ?_;exact hi
  have hlk3:l3.ps.length≤1000:=by refine eR (aC L3.ok) ?_;exact hk
  have at3:be l3.ps i=.con .N x y:=by refine eR P3.ps ?_;refine eR (gu hil2) ?_;refine eR at2 ?_;rfl
  have p3:l3.ps=ax i [be l3.ps i] l.ps:=by
   refine eR at3 ?_;refine eR P3.ps ?_;refine eR at2 ?_
   show ax i [aL true (.con .N x y)] (ax i [.con .N x y] l1.ps)=_
   refine eR (mm hil1) ?_;refine eR p1 ?_;refine eR (mm hil) ?_;rfl
  refine cB (fin (k:=l3) (q:=.bang x) (P3.num.trans P1.num) (P3.lost.trans P1.lost) L3.size p3 hil3 hpj.symm (by refine eR at3 ?_;exact aP 0 1426685057667073 rfl)) fun f1 f2=>?_
  have em:=fJ (n:=n+3) (σ:=σ) (l:=l3) (i:=i) (qs:=[.bang x]) hlk3 hil3 (by show 1≤1000;decide)
  have e54:∀{ρ:ay},ρ 7=some (.v (aM (be l1.ps i)))→ak af.toTab (ac af (n+5)) (.isi (.var 7) [288]) ρ σ=some (.bool true,σ):=fun h=>by rw[at1,e]at h;exact ah h rfl rfl
  have e77:∀{ρ:ay},ρ 7=some (.v (aM (be l1.ps i)))→ak af.toTab (ac af (n+5)) (.attr (.var 7) 7) ρ σ=some (aM (.con .N x y),σ):=fun h=>by rw[at1,e]at h;exact aw (aa h) rfl
  have e153:∀{ρ:ay},ρ 7=some (.v (aM (be l3.ps i)))→ak af.toTab (ac af (n+5)) (.isi (.var 7) [153]) ρ σ=some (.bool true,σ):=fun h=>by replace h:=at3▸h;exact ah h rfl rfl
  have e75:∀{ρ:ay},ρ 7=some (.v (aM (be l3.ps i)))→ak af.toTab (ac af (n+5)) (.item (.attr (.var 7) 5) (.int 0)) ρ σ=some (aM x,σ):=fun h=>by rw[at3]at h;exact aH (o:=.lst [aM x]) (k:=.int 0) (aw (aa h) rfl) rfl rfl
  have ea:∀{ρ:ay},ρ 25=some (.v (aR l1))→ρ 7=some (.v (aM (be l1.ps i)))→ρ 1=some (.v (.int (i:Nat)))→ak af.toTab (ac af (n+5)) (.meth (.var 25) 28 (.cons (.var 1) (.cons (.list (.cons (.attr (.var 7) 7) .nil)) .nil))) ρ σ=some (aR (br l1 (ax i [.con .N x y] l1.ps)),σ):=fun h25 h7 h1=>
   bm (C:=507) (fs:=[(17,.int (l1.num:Nat)),(23,.lst (l1.ps.map aM)),(18,.lst l1.binds),(24,.bool l1.lost)]) (aa h25) (aB (d2:=.lst [aM (.con .N x y)]) (aa h1) (cD (az (e77 h7)) o7)) rfl rfl en
  have eb:∀{ρ:ay},ρ 25=some (.v (aR l1))→ρ 7=some (.v (aM (be l1.ps i)))→ρ 1=some (.v (.int (i:Nat)))→ρ 37=some (.v (aV cols))→ak af.toTab (ac af (n+5)) (.meth (.meth (.var 25) 28 (.cons (.var 1) (.cons (.list (.cons (.attr (.var 7) 7) .nil)) .nil))) 25 (.cons (.var 1) (.cons (.item (.var 37) (.var 1)) (.cons (.bool true) .nil)))) ρ σ=some (aR l3,σ):=fun h25 h7 h1 h37=>
   bm (ea h25 h7 h1) (aF (d3:=.bool true) (aa h1) (cL h37 h1 hicol (aP 2 302241126781598891592134913 rfl (Nat.le_of_eq hc) hk)) rfl) rfl rfl e3
  have ec:∀{ρ:ay},ρ 25=some (.v (aR l3))→ρ 54=some (.v (.bool true))→ρ 1=some (.v (.int (i:Nat)))→ρ 55=some (.v (aM x))→ak af.toTab (ac af (n+5)) (.meth (.var 25) 28 (.cons (.var 1) (.cons (.list (.cons (.ite (.var 54) (.new 288 (.cons (.var 55) (.cons .none .nil))) (.var 55)) .nil)) .nil))) ρ σ=some (aR (br l3 (ax i [.bang x] l3.ps)),σ):=fun h25 h54 h1 h55=>
   bm (C:=507) (fs:=[(17,.int (l3.num:Nat)),(23,.lst (l3.ps.map aM)),(18,.lst l3.binds),(24,.bool l3.lost)]) (aa h25) (aB (d2:=.lst [aM (.bang x)]) (aa h1) (cD (az (cA (aa h54) (bz (aB (d2:=.none) (aa h55) rfl) (gF x)))) o7)) rfl rfl em
  refine jT _ (br l3 (ax i [.bang x] l3.ps)) (ag (m1 h42 h37 h1) (ag (it (k:=l1) rfl rfl h1) (ag (e54 rfl) (cT (aa rfl) (ag (eb rfl rfl h1 h37) (ag (it (k:=l3) (by rw[aC L3.ok,aC L1.ok]) rfl h1) rfl)) (ag (d:=aM x) (cA (e153 rfl) (e75 rfl)) (bg (dJ h13 (ec rfl rfl h1 rfl) hacc) rfl)))))) rfl (fun j a b c d e=>?_) f1 f2
  simp only [ay.set,if_neg a,if_neg b,if_neg c,if_neg d,if_neg e]
end
end Mine
namespace Mine
open PySem PySem.W
theorem qw{p:Pt}(h:cZ .N p):sz (dC p)≤sz p∧(aL false p≠.wild→sz (dC p)+1≤sz p):=by
 have hs:=oz false p
 unfold dC
 rcases dF h with e|⟨x,y,e,_⟩|⟨x,y,e,_⟩
 ·refine eR e ?_;exact⟨Nat.zero_le _,fun h=>absurd rfl h⟩
 ·rw[e]at hs ⊢
  have:1+sz x+sz y≤sz p:=hs
  exact⟨by show sz x≤_;exact bw 1 91780152580919553 rfl this,fun _=>by show sz x+1≤_;exact bw 1 375931504971452006401 rfl this⟩
 ·rw[e]at hs ⊢
  have:1+(1+sz x+sz y)≤sz p:=hs
  exact⟨by exact bw 1 1539815444468251185221633 rfl this,fun _=>by exact bw 1 6307084060541956876870615041 rfl this⟩
section
variable {n m a b M:Nat}{cols:List Str}{ks:List Ki}{i:Nat}
theorem qp{σ:Store}(hn:60≤n)(hc:cols.length=ks.length)(hk:ks.length≤1000)(hi:i<ks.length)(hN:gY ks i=.N):∀{ls:List Ln}{ρ:ay}{acc:List V},(∀l∈ls,LnOk ks m l)→ρ 37=some (.v (aV cols))→ρ 1=some (.v (.int (i:Nat)))→ρ 13=some (.own acc)→acc.length+ls.length≤100→
  ∃ρ' ls',aZ (fq af.toTab (ac af (n+5)) (n+5) [42] CF) (ls.map aR) ρ σ=some (.next,ρ',σ)∧ρ' 13=some (.own (acc++ls'.map aR))∧(∀j,j≠42→j≠25→j≠7→j≠54→j≠55→j≠13→ρ' j=ρ j)∧
   f9 (fun l l'=>ProjTo i l l'∧LnOk (ax i [.T] ks) m l') ls ls'
 |[],ρ,acc,_,_,_,h13,_=>gi ρ ([]) rfl (by rw[List.map_nil,List.append_nil];exact h13) (fun _ _ _ _ _ _ _=>rfl) trivial
 |l::r,ρ,acc,hl,h37,h1,h13,ha=>by
  refine s7 (wk (n:=n) (m:=m) (σ:=σ) (ρ:=ρ.set 42 (.v (aR l))) hn hc hk hi hN (hl l (List.mem_cons_self ..)) rfl h37 h1 h13 (aP 1 472387772202030870311169 rfl ha)) fun ρ1 l' e1 b13 bj P L'=>?_
  obtain⟨ρ2,ls',e2,a13,aj,A⟩:=qp hn hc hk hi hN (ls:=r) (ρ:=ρ1) (acc:=acc++[aR l']) (fun x m=>hl x (List.mem_cons_of_mem _ m)) (by rw[bj 37 (by decide) (by decide) (by decide) (by decide) (by decide)];exact h37) (by rw[bj 1 (by decide) (by decide) (by decide) (by decide) (by decide)];exact h1) b13
   (by rw[List.length_append];simp only [List.length_cons,List.length_nil];exact bw 2 34800518490088788119145021881892962566145 rfl ha (Nat.le_of_eq (show(l::r).length=r.length+1 from rfl).symm))
  refine⟨ρ2,l'::ls',cj e1 e2,?_,fun j q1 q2 q3 q4 q5 q6=>?_,⟨P,L'⟩,A⟩
  ·rw[a13,List.append_assoc];rfl
  ·refine eR (aj j q1 q2 q3 q4 q5 q6) ?_;refine eR (bj j q2 q3 q4 q5 q6) ?_;simp only [ay.set,if_neg q1]
theorem wY{ls ls':List Ln}(hi:i<ks.length)(hN:gY ks i=.N)(ok:∀l∈ls,LnOk ks m l)(h:f9 (fun l l'=>ProjTo i l l'∧LnOk (ax i [.T] ks) m l') ls ls'):mu ls'≤mu ls:=by
 induction ls generalizing ls' with
 |nil=>induction ls' using List.casesOn with
  |nil=>exact Nat.le_refl _
  |cons=>exact h.elim
 |cons l r ih=>induction ls' using List.casesOn with
  |nil=>exact h.elim
  |cons l' r'=>
   have:=ih (fun x m=>ok x (List.mem_cons_of_mem _ m)) h.2
   have L:=ok l (List.mem_cons_self ..)
   refine gC (aS i L.ok hi) fun _ hp _ _=>?_
   rw[hN]at hp
   have h1:=(qw hp).1
   have h2:=bW (ps:=l.ps) (i:=i) (by refine eR (aC L.ok) ?_;exact hi)
   show(1+bS l'.ps)+mu r'≤(1+bS l.ps)+mu r
   rw[h.1.1.ps,d6,bk]
   have:bS []=0:=rfl
   lia
theorem jX{T:Tab}{c:Calls}{ρ:ay}{σ:Store}{l:Ln}{r:List Ln}(h35:ρ 35=some (.v (aE (l::r))))(h1:ρ 1=some (.v (.int (i:Nat))))(hi:i<l.ps.length)(hk:l.ps.length≤1000):
  ak T c (.item (.var 35) (.int 0)) ρ σ=some (aR l,σ):=aH (o:=aE (l::r)) (k:=.int (0:Nat)) (aa h35) rfl rfl
theorem mO(TO:ig m a b M){l:Ln}{r:List Ln}{cf ch:Nat}{σ:Store}(hn:4*M+80≤n)(hc:cols.length=ks.length)(nd:cols.Nodup)(old:∀c∈cols,vj cf ch c)(len:cols.length+2*(M+1)≤1000)(hi:i<ks.length)
  (few:(l::r).length≤10) (ok:∀x∈l::r,LnOk ks m x) (hmu:mu (l::r)≤M+1) (hN:gY ks i=.N) (hp:aL false (be l.ps i)=be l.ps i) (hw:be l.ps i≠.wild) (F:Fr a b σ cf ch) (hb:cf+ch+1+40 ^ M<10 ^ 60):
  ∃t σ' cf' ch',(ac af (n+1)).fn 563 [bX m a b,.int (i:Nat),aV cols,aE (l::r)] σ=some (t,σ')∧db (M+1) t cols ks (l::r)∧Fr a b σ' cf' ch'∧cf≤cf'∧ch≤ch'∧cf'+ch'≤cf+ch+1+40 ^ M∧Same b σ σ':=by
 refine Exists.elim (sx n 5 (aP 1 18981736548984529635152 rfl hn)) fun j z1=>?_;subst z1
 have hk:ks.length≤1000:=bw 2 20769853671193396307797389961901650177 rfl (Nat.le_of_eq hc.symm) len
 have hpos:0<40 ^ M:=Nat.pow_pos (by decide)
 have L:=ok l (List.mem_cons_self ..)
 have hil:i<l.ps.length:=by refine eR (aC L.ok) ?_;exact hi
 have hlk:l.ps.length≤1000:=by refine eR (aC L.ok) ?_;exact hk
 refine gC (aS i L.ok hi) fun _ hpi _ _=>?_
 replace hpi:=hN▸hpi
 have e36:ak af.toTab (ac af (j+5)) (.item (.attr (.item (.var 35) (.int 0)) 23) (.var 1)) (aq [0,1,37,35] [bX m a b,.int (i:Nat),aV cols,aE (l::r)]) σ=some (aM (be l.ps i),σ):=
  aH (aw (d:=.lst (l.ps.map aM)) (jX rfl rfl hil hlk) rfl) (aa (x:=1) rfl) (dy hil hlk)
 have e22:ak af.toTab (ac af (j+5)) (.ite (.isi (.var 36) [288]) (.attr (.call 326 (.cons (.attr (.var 36) 7) .nil)) 2) (.attr (.var 36) 2)) ((aq [0,1,37,35] [bX m a b,.int (i:Nat),aV cols,aE (l::r)]).set 36 (.v (aM (be l.ps i)))) σ=some (.str Con.N.str,σ):=by
  have hsz:=(L.fits hk).at_le i
  rcases dF hpi with e|⟨x,y,e,_⟩|⟨x,y,e,_⟩
  ·exact absurd (hp.symm.trans e) hw
  ·rw[hp]at e;refine eR e ?_;exact bT (ah rfl rfl rfl) (aw (aa rfl) rfl)
  ·rw[hp]at e;rw[e]at hpi hsz ⊢
   have hsz':sz (.con .N x y)≤1000:=by have:1+sz (.con .N x y)≤60:=hsz;exact bI 1 283419313807541324493057 rfl this
   exact cA (ah rfl rfl rfl) (aw (C:=153) (fs:=[(1,.none),(2,.str Con.N.str),(5,.lst [aM x])]) (aJ (az (aw (aa rfl) rfl)) (dc hpi.1 hsz')) rfl)
 refine jv (sA (n:=j+2) F (by lia)) fun σ1 e2 F1 S1=>?_
 obtain⟨ρ2,ls',e3,a13,aj,A⟩:=qp (n:=j) (m:=m) (σ:=σ1) (aP 1 2302568851011256615681804734661 rfl hn) hc hk hi hN (ls:=l::r)
  (ρ:=((((aq [0,1,37,35] [bX m a b,.int (i:Nat),aV cols,aE (l::r)]).set 36 (.v (aM (be l.ps i)))).set 22 (.v (.str Con.N.str))).set 2 (.v (.str (bF "held" (ch+1))))).set 13 (.own [])) (acc:=[]) ok rfl rfl rfl (by exact bI 1 39271677099794071553 rfl few)
 rw[List.nil_append]at a13
 have hmu':mu ls'≤M:=by
  clear a b TO σ nd old F L e36 e22 σ1 e2 F1 S1 ρ2 e3 a13 aj;induction ls' using List.casesOn with
  |nil=>exact A.elim
  |cons l' r'=>
   have h1:=wY hi hN (fun x m=>ok x (List.mem_cons_of_mem _ m)) A.2
   have h2:=(qw hpi).2 (by refine eR hp ?_;exact hw)
   have h3:=bW (ps:=l.ps) (i:=i) hil
   show(1+bS l'.ps)+mu r'≤M
   have h4:(1+bS l.ps)+mu r≤M+1:=hmu
   rw[A.1.1.ps,d6,bk]
   have:bS []=0:=rfl
   lia
 have dj:∀x∈[bF "held" (ch+1)],x∉cols:=fun x hx hm=>by
  rw[List.mem_singleton]at hx
  exact uD (old x hm) (Nat.lt_succ_self _) hx.symm
 have lk:=fT (js:=[.T]) hi
 have lc:=gZ (qs:=[bF "held" (ch+1)]) (i:=i) (ps:=cols) (bw 2 30183485294485944156161 rfl (Nat.le_of_eq hc.symm) hi)
 simp only [List.length_cons,List.length_nil]at lk lc
 have P:Pre m a b M (ax i [bF "held" (ch+1)] cols) (ax i [.T] ks) ls' σ1 cf (ch+1):=
  {hc:=Nat.le_antisymm (dW 3 521178782831676996967896743766413569 rfl (Nat.le_of_eq hc) (Nat.le_of_eq lk.symm) (Nat.le_of_eq lc)) (dW 3 520854267991838761883386282351284481 rfl (Nat.le_of_eq hc.symm) (Nat.le_of_eq lk) (Nat.le_of_eq lc.symm)),nd:=ii nd (List.nodup_cons.mpr ⟨List.not_mem_nil,List.nodup_nil⟩) dj,
   old:=fun c hc=>(mF hc).elim (fun h=>(old c h).mono (Nat.le_refl _) (bI 0 420479233 rfl)) (fun h=>by rw[List.mem_singleton]at h;exact .inr (.inr ⟨ch+1,Nat.le_refl _,h⟩)),
   len:=bw 2 9388722288615792578165602553282832765343932837281793 rfl len (Nat.le_of_eq lc),few:=by refine eR A.len ?_;exact few,ok:=jK (fun l l' h=>h.2) A,fr:=F1,bound:=by lia}
 refine ya (TO (j+5) _ _ _ _ _ _ (aP 1 10132249419637458928070713762618493683896321 rfl hn) hmu' P) fun t σ2 cf' ch' et G F2 hcf hch hsum S2=>?_
 refine yd (.inst 460 [(2,.str (bF "held" (ch+1))),(22,.str Con.N.str),(4,.str (sn cols i)),(21,t)]) σ2 cf' ch' ?_ (sG hc (fun x hx=>(ok x hx).ok) hi hN (dj _ (List.mem_singleton.mpr rfl)) (A.imp fun l l' h=>⟨h.1.num,h.1.lost,h.1.ps⟩) G) F2 hcf (by lia) (mC 1 713940848472251127475300371159338729473 rfl hsum) (S1.trans S2)
 have a0:ρ2 0=some (.v (bX m a b)):=by refine eR (aj 0 (by decide) (by decide) (by decide) (by decide) (by decide) (by decide)) ?_;rfl
 have a1:ρ2 1=some (.v (.int (i:Nat))):=by refine eR (aj 1 (by decide) (by decide) (by decide) (by decide) (by decide) (by decide)) ?_;rfl
 have a2:ρ2 2=some (.v (.str (bF "held" (ch+1)))):=by refine eR (aj 2 (by decide) (by decide) (by decide) (by decide) (by decide) (by decide)) ?_;rfl
 have a22:ρ2 22=some (.v (.str Con.N.str)):=by refine eR (aj 22 (by decide) (by decide) (by decide) (by decide) (by decide) (by decide)) ?_;rfl
 have a37:ρ2 37=some (.v (aV cols)):=by refine eR (aj 37 (by decide) (by decide) (by decide) (by decide) (by decide) (by decide)) ?_;rfl
 have es:ak af.toTab (ac af (j+5)) (.bin .Add (.bin .Add (.sto (.var 37) (.var 1)) (.list (.cons (.var 2) .nil))) (.sfrom (.var 37) (.bin .Add (.var 1) (.int 1)))) (ρ2.set 13 (.v (aE ls'))) σ1=some (aV (ax i [bF "held" (ch+1)] cols),σ1):=by
  unfold aV;rw[gD]
  exact gQ (l:=cols.map V.str) (m:=[.str (bF "held" (ch+1))]) (aa (x:=37) a37) (cD (az (aa (x:=2) a2)) o7) (aa (x:=1) a1) (by rw[List.length_map];exact aP 1 5070765056141468797540027329163521 rfl len) (by show 1≤5000;decide) (aP 2 20769852080536871459564772062572855297 rfl hi hk)
 have em:=bm (ρ:=ρ2.set 13 (.v (aE ls'))) (T:=af.toTab) (c:=ac af (j+5)) (m:=21) (C:=566) (fs:=[(32,b4),(33,.lst (List.replicate m (.bool false))),(34,bO a b)]) (aa (x:=0) a0) (aB es (aa (x:=13) rfl)) rfl rfl et
 have e56:bA af.toTab (ac af (j+5)) (j+5) (.assign 56 (.meth (.var 0) 21 (.cons (.bin .Add (.bin .Add (.sto (.var 37) (.var 1)) (.list (.cons (.var 2) .nil))) (.sfrom (.var 37) (.bin .Add (.var 1) (.int 1)))) (.cons (.var 13) .nil)))) (ρ2.set 13 (.v (aE ls'))) σ1=some (.next,(ρ2.set 13 (.v (aE ls'))).set 56 (.v t),σ2):=by
  show(ak _ _ _ _ _).bind _=_;exact em▸rfl
 have h2:ak af.toTab (ac af (j+5)) (.meth (.attr (.var 0) 34) 50 (.cons (.str "held") .nil)) (((aq [0,1,37,35] [bX m a b,.int (i:Nat),aV cols,aE (l::r)]).set 36 (.v (aM (be l.ps i)))).set 22 (.v (.str Con.N.str))) σ=some (.str (bF "held" (ch+1)),σ1):=
  bm (C:=631) (fs:=[(62,.loc a),(63,.loc b)]) (aw (aa rfl) rfl) (az (d:=.str "held") rfl) rfl rfl e2
 exact aI (fi:=⟨[0,1,37,35],AP⟩) (ρ':=_) rfl rfl (ag e36 (ag e22 (ag h2 (bg (ρ1:=_) (σ1:=σ1) rfl
  (eg (c8 (d:=aE (l::r)) (l:=(l::r).map aR) (aa rfl) rfl) e3 (bg (v0 (eQ a13) e56) (aN (bz (b5 (aa (x:=2) a2) (aF (aa (x:=22) a22) (cL (cols:=cols) a37 a1 (bw 2 30183485294485944156161 rfl (Nat.le_of_eq hc.symm) hi) (aP 1 79230704002210449961578394038529 rfl len)) (aa (x:=56) rfl))) rfl))))))))
end
end Mine
namespace Mine
open PySem PySem.W
theorem pw{α:Type}{l:List α}{a b:α}(nd:l.Nodup)(h:∀x∈l,x=a∨x=b)(e:l.length=2):a∈l∧b∈l:=by
 match l,e with
 |[x,y],_=>
  have hx:=h x (List.mem_cons_self ..)
  have hne:x≠y:=fun e=>(List.nodup_cons.mp nd).1 (e▸List.mem_cons_self ..)
  clear l e nd;rcases hx with rfl|rfl<;>rcases(h y (List.mem_cons_of_mem _ (List.mem_cons_self ..)))with rfl|rfl
  ·exact absurd rfl hne
  ·exact⟨List.mem_cons_self ..,List.mem_cons_of_mem _ (List.mem_cons_self ..)⟩
  ·exact⟨List.mem_cons_of_mem _ (List.mem_cons_self ..),List.mem_cons_self ..⟩
  ·exact absurd rfl hne
noncomputable def og:Con→Nat|.A=>2|.B=>2|.N=>1|.Pr=>1|.Nil=>2|.Cons=>2
theorem jj{k:Ki}{c:Con}{t:List Ky}(hk:k≠.N)(nd:(Ky.con c::t).Nodup)(hf:∀x∈Ky.con c::t,Ky.fits k x)(e:(Ky.con c::t).length=og c):∀key:Ky,key.fits k→key∈Ky.con c::t:=by
 have hc:=hf _ (List.mem_cons_self ..)
 intro key hkey
 induction key using Ky.casesOn with
 |lit j=>
  have:k=.I:=hkey
  rw[this]at hc;exact nomatch c<;>cases hc
 |con d=>
  have hd:d.ki=k:=hkey
  have two:∀a b:Con,(∀x:Con,x.ki=k→x=a∨x=b)→og c=2→Ky.con a∈Ky.con c::t∧Ky.con b∈Ky.con c::t:=fun a b h h2=>by
   refine pw nd (fun x hx=>?_) (e.trans h2)
   have:=hf x hx
   clear t hk nd hf e d hkey hd h2 hx;induction x using Ky.casesOn with
   |lit j=>
    rw[(show k=.I from this)]at hc;induction c using Con.casesOn<;>injection hc
   |con x=>exact(h x this).imp (congrArg _) (congrArg _)
  clear nd hf e hkey;subst hc
  induction c using Con.casesOn with
  |A=>
    have:=two .A .B (fun x h=>by induction x using Con.casesOn<;>first|exact .inl rfl|exact .inr rfl|cases h) rfl
    induction d using Con.casesOn<;>first|exact this.1|exact this.2|cases hd
  |B=>
    have:=two .A .B (fun x h=>by induction x using Con.casesOn<;>first|exact .inl rfl|exact .inr rfl|injection h) rfl
    induction d using Con.casesOn<;>first|exact this.1|exact this.2|injection hd
  |N=>exact absurd rfl hk
  |Pr=>induction d using Con.casesOn<;>first|exact List.mem_cons_self .. |injection hd
  |Nil=>
    have:=two .Nil .Cons (fun x h=>by induction x using Con.casesOn<;>first|exact .inl rfl|exact .inr rfl|cases h) rfl
    induction d using Con.casesOn<;>first|exact this.1|exact this.2|cases hd
  |Cons=>
    have:=two .Nil .Cons (fun x h=>by induction x using Con.casesOn<;>first|exact .inl rfl|exact .inr rfl|injection h) rfl
    induction d using Con.casesOn<;>first|exact this.1|exact this.2|injection hd
section
variable {n m a b M:Nat}{cols:List Str}{ks:List Ki}{i:Nat}
theorem wK(c:Con)(hc:c≠.N){σ:Store}:∃l,(ac af (n+2)).fn 359 [b4,.str c.str] σ=some (.lst l,σ)∧l.length=og c:=by
 induction c using Con.casesOn with
 |A=>exact bi _ (lg .A (.inl rfl)) rfl
 |B=>exact bi _ (lg .B (.inr rfl)) rfl
 |N=>exact absurd rfl hc
 |Pr=>exact bi _ sf rfl
 |Nil=>exact bi _ (ll .Nil (.inl rfl)) rfl
 |Cons=>exact bi _ (ll .Cons (.inr rfl)) rfl
noncomputable def Cb:E:=.bop .And (.cons (.cmp .Eq (.item (.item (.var 43) (.int 0)) (.int 0)) (.str "con")) (.cons (.cmp .Eq (.blt .len (.cons (.var 43) .nil)) (.blt .len (.cons (.meth (.attr (.var 0) 32) 12 (.cons (.item (.item (.var 43) (.int 0)) (.int 1)) .nil)) .nil))) .nil))
theorem vr{ρ:ay}{σ:Store}{k:Ki}{k0:Ky}{t:List Ky}(h0:ρ 0=some (.v (bX m a b)))(h43:ρ 43=some (.v (.lst ((k0::t).map bP))))(hl:(k0::t).length≤100)(hk:k≠.N)(nd:(k0::t).Nodup)(hf:∀x∈k0::t,Ky.fits k x):
  ∃w,ak af.toTab (ac af (n+2)) Cb ρ σ=some (.bool w,σ)∧(w=true→∀key:Ky,key.fits k→key∈k0::t):=by
 have i0:ak af.toTab (ac af (n+2)) (.item (.var 43) (.int 0)) ρ σ=some (bP k0,σ):=aH (o:=.lst ((k0::t).map bP)) (k:=.int (0:Nat)) (aa h43) rfl rfl
 have el:ak af.toTab (ac af (n+2)) (.blt .len (.cons (.var 43) .nil)) ρ σ=some (.int ((k0::t).length:Nat),σ):=by
  refine bH (vs:=[.lst ((k0::t).map bP)]) (az (aa h43)) ?_
  show(if((k0::t).map bP).length≤bq then some (V.int (((k0::t).map bP).length:Nat),σ)else none)=_
  rw[List.length_map,if_pos (show(k0::t).length≤bq from Nat.le_trans hl (by decide))]
 induction k0 using Ky.casesOn with
 |lit j=>exact bi false (ba (aQ (o:=.str "lit") (k:=.str "con") (aH (k:=.int (0:Nat)) i0 rfl rfl) rfl (congrArg some fV))) (fun h=>by exact bE h)
 |con c=>
  have hc:c≠.N:=fun e=>hk (by have:c.ki=k:=hf _ (List.mem_cons_self ..);refine eE this ?_;refine eR e ?_;rfl)
  refine aT (wK (n:=n) c hc (σ:=σ)) fun l es el'=>?_
  refine bi (decide ((Ky.con c::t).length=og c)) (aU (aQ (o:=.str "con") (k:=.str "con") (aH (k:=.int (0:Nat)) i0 rfl rfl) rfl (congrArg some fY)) (bY (aQ (k:=.int (og c:Nat)) el (bH (vs:=[.lst l]) (az (bm (C:=362) (fs:=[(9,fg)]) (aw (aa h0) rfl) (az (aH (d:=.str c.str) (k:=.int (1:Nat)) i0 rfl rfl)) rfl rfl es)) ?_) ?_))) (fun h=>jj hk nd hf (of_decide_eq_true h))
  ·show(if l.length≤bq then some (V.int (l.length:Nat),σ)else none)=_
   rw[el',if_pos (by clear ρ σ k h0 hk h43 nd hf i0 el hc es;induction c using Con.casesOn<;>decide)]
  ·show some ((((Ky.con c::t).length:Nat):Int)==((og c:Nat):Int))=_
   congr 1
   by_cases e:(Ky.con c::t).length=og c
   ·refine eR e ?_;simp
   ·have:¬(((Ky.con c::t).length:Nat):Int)=((og c:Nat):Int):=fun h=>e (by lia)
    refine eR (decide_eq_false e) ?_
    exact beq_eq_false_iff_ne.mpr this
theorem g0(M:Nat):10*(2+40 ^ M)+40 ^ M≤40 ^ (M+1)∧1+40 ^ M≤40 ^ (M+1):=by
 have:0<40 ^ M:=Nat.pow_pos (by decide)
 rw[Nat.pow_succ];lia
theorem iN{bl:List Br}{keys:List Ky}{k:Ky}(e:bl.map (·.1)=keys):k∈keys↔∃b∈bl,b.1=k:=by
 rw[←e,List.mem_map]
theorem sM(TO:ig m a b M){l:Ln}{r:List Ln}{cf ch:Nat}{σ:Store}(hn:4*M+80≤n)(hc:cols.length=ks.length)(nd:cols.Nodup)(old:∀c∈cols,vj cf ch c)(len:cols.length+2*(M+1)≤1000)(hi:i<ks.length)
  (few:(l::r).length≤10) (ok:∀x∈l::r,LnOk ks m x) (hmu:mu (l::r)≤M+1) (hN:gY ks i≠.N) (hid:(l.ps.take i).all cG=true) {k0:Ky} (hkey:bG (be l.ps i)=some k0) (F:Fr a b σ cf ch) (hb:cf+ch+40 ^ (M+1)<10 ^ 60)
  {ρ:ay} (h0:ρ 0=some (.v (bX m a b))) (h37:ρ 37=some (.v (aV cols))) (h1:ρ 1=some (.v (.int (i:Nat)))) (h35:ρ 35=some (.v (aE (l::r)))):
  ∃t σ' cf' ch' ρ',au af.toTab (ac af (n+1)) (n+1)
   (.cons (.assign 25 (.comp (.meth (.var 42) 25 (.cons (.var 1) (.cons (.item (.var 37) (.var 1)) (.cons (.bool true) .nil)))) [42] (.val (.var 35)) [37,1])) (.cons (.assignOwn 43) (.cons (.for [42] (.val (.var 25)) Bq) (.cons (.g (.freeze 43) (.assign 20 (.comp (.meth (.var 0) 45 (.cons (.var 44) (.cons (.var 1) (.cons (.var 37) (.cons (.var 25) .nil))))) [44] (.val (.var 43)) [37,1,25,0])))
    (.cons (.assignOwn 46) (.cons (.for [42] (.val (.var 25)) B4) (.cons (.assign 47 Cb) (.cons (.assign 48 (.bin .Add (.sto (.var 37) (.var 1)) (.sfrom (.var 37) (.bin .Add (.var 1) (.int 1))))) (.cons (.g (.freeze 46) (.ret (.new 418 (.cons (.item (.var 37) (.var 1)) (.cons (.var 20) (.cons (.ite (.var 47) .none (.meth (.var 0) 21 (.cons (.var 48) (.cons (.var 46) .nil)))) .nil)))))) .nil))))))))) ρ σ=some (.ret t,ρ',σ')∧
   db (M+1) t cols ks (l::r)∧Fr a b σ' cf' ch'∧cf≤cf'∧ch≤ch'∧cf'+ch'≤cf+ch+40 ^ (M+1)∧Same b σ σ':=by
 refine Exists.elim (sx n 4 (aP 1 18981736548984529635092 rfl hn)) fun j z1=>?_;subst z1
 have hk:ks.length≤1000:=bw 2 20769853671193396307797389961901650177 rfl (Nat.le_of_eq hc.symm) len
 refine cB (g0 M) fun pf _=>?_
 have L:=ok l (List.mem_cons_self ..)
 have hil:i<l.ps.length:=by refine eR (aC L.ok) ?_;exact hi
 have fewv:(l::r).length≤100:=bI 1 9587811791941889 rfl few
 have hlim:((l::r).map aR).length≤bq:=by rw[List.length_map];exact Nat.le_trans few (by decide)
 refine aT (t8 (n:=j) (m:=m) (σ:=σ) (aP 1 2223340688496992278100071944403 rfl hn) hc hk hi h37 h1 ok) fun ls' e25 A=>?_
 have lenA:ls'.length=(l::r).length:=A.len
 have okA:∀x∈ls',LnOk ks m x:=jK (fun _ _ h=>h.2.1) A
 have muA:mu ls'≤mu (l::r):=qu (fun _ _ h=>h.2.2) A
 obtain⟨l',r',rfl⟩:∃l' r',ls'=l'::r':=by clear a b cols TO cf ch σ hc nd old len hi few ok hmu hN hid k0 hkey F hb ρ h0 h37 h1 h35 j hn hk pf L hil fewv hlim e25 lenA okA muA;induction ls' using List.casesOn with
  |nil=>exact A.elim
  |cons l' r'=>exact rA l' r' rfl
 have A0:=A.1
 have hkey':bG (be l'.ps i)=some k0:=by
  refine eR A0.1.ps ?_;refine eR (gu hil) ?_
  cases hp:be l.ps i with
  |con c x y=>rw[hp]at hkey;exact hkey
  |lit j=>rw[hp]at hkey;exact hkey
  |_=>rw[hp]at hkey;exact nE hkey
 have hid':(l'.ps.take i).all cG=true:=by refine eR A0.1.ps ?_;refine eR (fL hil) ?_;exact hid
 have hmuS:∀key,mu ((l'::r').flatMap (cw key i))≤M:=fun key=>by
  have:=lV (js:=ax i key.kinds ks) (f:=cw key i) (fun l L=>l9 L hi) okA (su (okA l' (List.mem_cons_self ..)) hi hid' hkey');exact dW 3 9150359609494126105234526465 rfl hmu muA this
 have hmuO:mu ((l'::r').flatMap (bM i))≤M:=by
  have:=lV (js:=ax i [] ks) (f:=bM i) (fun l L=>jC L hi) okA (by refine eR (pK hid' hkey') ?_;exact Nat.zero_le _);exact dW 3 9150359609494126105234526465 rfl hmu muA this
 refine jv (lC (n:=j+4) (m:=m) (σ:=σ) hk hi (ls:=l'::r') (ρ:=(ρ.set 25 (.v (aE (l'::r')))).set 43 (.own [])) (acc:=[]) okA h1 rfl (by refine eR lenA ?_;exact bI 1 39271677099794071553 rfl few)) fun ρ2 e2 b43 bj=>?_
 refine gC (fK (i:=i) (ls:=l'::r') (acc:=[]) List.nodup_nil) fun knd kmem klen _=>?_
 have kfirst:∃t,dL i (l'::r') []=k0::t:=by
  show∃t,dL i r' (fu [] (be l'.ps i))=_
  have:fu [] (be l'.ps i)=[k0]:=by unfold fu;refine eR hkey' ?_;rfl
  refine eR this ?_
  obtain⟨_,_,_,t,e⟩:=fK (i:=i) (ls:=r') (acc:=[k0]) (List.nodup_cons.mpr ⟨List.not_mem_nil,List.nodup_nil⟩)
  exact⟨t,e⟩
 generalize dL i (l'::r') []=keys at b43 knd kmem klen kfirst
 rw[lenA]at klen
 have klen:keys.length≤10:=by have:([]:List Ky).length=0:=rfl;exact bw 3 7281968776272899345883393 rfl few klen (Nat.le_of_eq this)
 have b0:ρ2 0=some (.v (bX m a b)):=by refine eR (bj 0 (by decide) (by decide) (by decide)) ?_;exact h0
 have b1:ρ2 1=some (.v (.int (i:Nat))):=by refine eR (bj 1 (by decide) (by decide) (by decide)) ?_;exact h1
 have b37:ρ2 37=some (.v (aV cols)):=by refine eR (bj 37 (by decide) (by decide) (by decide)) ?_;exact h37
 have b25:ρ2 25=some (.v (aE (l'::r'))):=by refine eR (bj 25 (by decide) (by decide) (by decide)) ?_;rfl
 have kmul:keys.length*(2+40 ^ M)≤10*(2+40 ^ M):=Nat.mul_le_mul_right _ klen
 refine CI (ge (n:=j+4) (m:=m) (ls:=l'::r') TO hn hc nd len hi (by refine eR lenA ?_;exact few) okA hmuS (ρ:=ρ2.set 43 (.v (.lst (keys.map bP)))) b0 b37 b1 b25 (keys:=keys) F old (by lia)) fun bl σ3 cf3 ch3 e20 q1 q2 F3 c1 c2 c3 S3=>?_
 refine jv (iO (n:=j+3) (m:=m) (σ:=σ3) (aP 1 37301466972502754800275405795372576806 rfl hn) hk hi (ls:=l'::r') (ρ:=((ρ2.set 43 (.v (.lst (keys.map bP)))).set 20 (.v (.lst (bl.map p5)))).set 46 (.own [])) (acc:=[]) okA b1 rfl (by refine eR lenA ?_;exact bI 1 39271677099794071553 rfl few)) fun ρ4 e4 d46 dj=>?_
 rw[List.nil_append]at d46
 have d0:ρ4 0=some (.v (bX m a b)):=by refine eR (dj 0 (by decide) (by decide)) ?_;exact b0
 have d1:ρ4 1=some (.v (.int (i:Nat))):=by refine eR (dj 1 (by decide) (by decide)) ?_;exact b1
 have d37:ρ4 37=some (.v (aV cols)):=by refine eR (dj 37 (by decide) (by decide)) ?_;exact b37
 have d43:ρ4 43=some (.v (.lst (keys.map bP))):=by refine eR (dj 43 (by decide) (by decide)) ?_;rfl
 have d20:ρ4 20=some (.v (.lst (bl.map p5))):=by refine eR (dj 20 (by decide) (by decide)) ?_;rfl
 obtain⟨t0,kt⟩:=kfirst
 have fitsK:∀x∈keys,Ky.fits (gY ks i) x:=fun x hx=>by
  rcases(kmem x).mp hx with h|⟨y,my,ey⟩
  ·cases h
  ·exact vD (aS i (okA y my).ok hi).2.1 ey
 rw[kt]at d43 knd fitsK
 refine aT (vr (n:=j+3) (m:=m) (a:=a) (b:=b) (σ:=σ3) (ρ:=ρ4) d0 d43 (by refine eE kt ?_;exact bI 1 9587811791941889 rfl klen) hN knd fitsK) fun w ew hw=>?_
 rw[←kt]at hw
 have flatO:=i5 (js:=ax i [] ks) (fun l (L:LnOk ks m l)=>jC L hi) okA
 have lk:=fT (js:=[]) hi
 have lc:=gZ (qs:=[]) (i:=i) (ps:=cols) (bw 2 30183485294485944156161 rfl (Nat.le_of_eq hc.symm) hi)
 simp only [List.length_nil]at lk lc
 have e48:ak af.toTab (ac af (j+5)) (.bin .Add (.sto (.var 37) (.var 1)) (.sfrom (.var 37) (.bin .Add (.var 1) (.int 1)))) (ρ4.set 47 (.v (.bool w))) σ3=some (aV (ax i [] cols),σ3):=by
  unfold aV;rw[gD]
  exact Bg (l:=cols.map V.str) (aa (x:=37) d37) (aa (x:=1) d1) (by rw[List.length_map];exact aP 1 5070765056141468797540027329163521 rfl len) (aP 2 20769852080536871459564772062572855297 rfl hi hk)
 have hprefix:∀{o:V}{σ4:Store},ak af.toTab (ac af (j+5)) (.ite (.var 47) .none (.meth (.var 0) 21 (.cons (.var 48) (.cons (.var 46) .nil)))) (((ρ4.set 47 (.v (.bool w))).set 48 (.v (aV (ax i [] cols)))).set 46 (.v (aE ((l'::r').flatMap (bM i))))) σ3=some (o,σ4)→
   ∃ρ',au af.toTab (ac af (j+5)) (j+5)
   (.cons (.assign 25 (.comp (.meth (.var 42) 25 (.cons (.var 1) (.cons (.item (.var 37) (.var 1)) (.cons (.bool true) .nil)))) [42] (.val (.var 35)) [37,1])) (.cons (.assignOwn 43) (.cons (.for [42] (.val (.var 25)) Bq) (.cons (.g (.freeze 43) (.assign 20 (.comp (.meth (.var 0) 45 (.cons (.var 44) (.cons (.var 1) (.cons (.var 37) (.cons (.var 25) .nil))))) [44] (.val (.var 43)) [37,1,25,0])))
    (.cons (.assignOwn 46) (.cons (.for [42] (.val (.var 25)) B4) (.cons (.assign 47 Cb) (.cons (.assign 48 (.bin .Add (.sto (.var 37) (.var 1)) (.sfrom (.var 37) (.bin .Add (.var 1) (.int 1))))) (.cons (.g (.freeze 46) (.ret (.new 418 (.cons (.item (.var 37) (.var 1)) (.cons (.var 20) (.cons (.ite (.var 47) .none (.meth (.var 0) 21 (.cons (.var 48) (.cons (.var 46) .nil)))) .nil)))))) .nil))))))))) ρ σ=some (.ret (.inst 418 [(2,.str (sn cols i)),(20,.lst (bl.map p5)),(14,o)]),ρ',σ4):=fun{o σ4} ho=>by
  have e20':bA af.toTab (ac af (j+5)) (j+5) (.assign 20 (.comp (.meth (.var 0) 45 (.cons (.var 44) (.cons (.var 1) (.cons (.var 37) (.cons (.var 25) .nil))))) [44] (.val (.var 43)) [37,1,25,0])) (ρ2.set 43 (.v (.lst (keys.map bP)))) σ=some (.next,(ρ2.set 43 (.v (.lst (keys.map bP)))).set 20 (.v (.lst (bl.map p5))),σ3):=by
   have:=cM (T:=af.toTab) (c:=ac af (j+5)) (tg:=[44]) (fv:=[37,1,25,0]) (it:=.val (.var 43)) (c8 (d:=.lst (keys.map bP)) (aa (ρ:=ρ2.set 43 (.v (.lst (keys.map bP)))) (σ:=σ) (x:=43) rfl) rfl) (by rw[List.length_map];exact Nat.le_trans klen (by decide)) e20
   show(ak _ _ _ _ _).bind _=_;refine eR this ?_;rfl
  exact⟨_,ag (cM (c8 (d:=aE (l::r)) (l:=(l::r).map aR) (aa h35) rfl) hlim e25) (bg (ρ1:=_) (σ1:=σ) rfl (eg (c8 (d:=aE (l'::r')) (l:=(l'::r').map aR) (aa (x:=25) rfl) rfl) e2 (bg (v0 (eQ b43) e20') (bg (ρ1:=_) (σ1:=σ3) rfl
   (eg (c8 (d:=aE (l'::r')) (l:=(l'::r').map aR) (aa (x:=25) b25) rfl) e4 (ag ew (ag e48 (g5 (v0 (eQ (x:=46) d46) (uE (bz (aF (cL (cols:=cols) d37 d1 (bw 2 30183485294485944156161 rfl (Nat.le_of_eq hc.symm) hi) (aP 1 79230704002210449961578394038529 rfl len)) (aa (x:=20) d20) ho) rfl)))))))))))⟩
 have hsw:∀{o:V},((∀key:Ky,key.fits (gY ks i)→∃b∈bl,b.1=key)∨db M o (ax i [] cols) (ax i [] ks) ((l'::r').flatMap (bM i)))→db (M+1) (.inst 418 [(2,.str (sn cols i)),(20,.lst (bl.map p5)),(14,o)]) cols ks (l::r):=fun ho=>by
  refine oO rfl hc (fun x hx=>(ok x hx).ok) hi hN hid ?_ (A.imp fun _ _ h=>h.1) q2 (fun x hx k hk=>(iN q1).mp ((kmem k).mpr (.inr (bi x hx hk)))) ho
  cases hp:be l.ps i with
  |con c x y=>
   refine vJ fun e=>hN ?_
   have:=(aS i L.ok hi).2.1
   rw[hp]at this;refine eE this.1 ?_;refine eR e ?_;rfl
  |lit j=>exact tW
  |_=>replace hkey:=hp▸hkey;exact nE hkey
 clear hN hid F h0 h37 h1 h35 L e25 A okA A0 hkey' hid' hmuS ρ2 e2 bj b43 kmem b0 b1 b37 b25 e20 q2 e4 d46 dj d1 d37 d20 t0 knd d43 kt fitsK ew e48;induction w using Bool.casesOn with
 |true=>
  obtain⟨ρ',e⟩:=hprefix (o:=.none) (cA (aa (x:=47) rfl) rfl)
  exact⟨_,σ3,cf3,ch3,ρ',e,hsw (.inl fun key hkey=>(iN q1).mp (hw rfl key hkey)),F3,c1,c2,Cv 3 4061873302976982714521186711108822590612259785117970617090049 rfl pf kmul c3,S3⟩
 |false=>
  have P:Pre m a b M (ax i [] cols) (ax i [] ks) ((l'::r').flatMap (bM i)) σ3 cf3 ch3:=
   {hc:=Nat.le_antisymm (dW 3 500409595397537686435760359940051201 rfl (Nat.le_of_eq hc) (Nat.le_of_eq lk.symm) (Nat.le_of_eq lc)) (dW 3 520854188763671525252565819162120449 rfl (Nat.le_of_eq hc.symm) (Nat.le_of_eq lk) (Nat.le_of_eq lc.symm)),nd:=ii nd List.nodup_nil (fun _ h=>by exact nomatch h),old:=fun c hc=>(mF hc).elim (fun h=>(old c h).mono c1 c2) (fun h=>by cases h),
    len:=bw 2 9014577869459081431105459236107464312312014106279937 rfl len (Nat.le_of_eq lc),few:=Nat.le_trans flatO.2.2 (by refine eR lenA ?_;exact few),ok:=flatO.1,fr:=F3,bound:=by lia}
  refine ya (TO (j+5) _ _ _ _ _ _ (aP 1 9783800275910417941484218164608363035365377 rfl hn) hmuO P) fun t σ4 cf' ch' et G F4 g1 g2 g3 S4=>?_
  obtain⟨ρ',e⟩:=hprefix (o:=t) (bT (aa (x:=47) rfl) (bm (m:=21) (C:=566) (fs:=[(32,b4),(33,.lst (List.replicate m (.bool false))),(34,bO a b)]) (aa (x:=0) d0) (aB (aa (x:=48) rfl) (aa (x:=46) rfl)) rfl rfl et))
  exact CZ _ σ4 cf' ch' ρ' e (hsw (.inr G)) F4 (bw 2 1433838391939329 rfl c1 g1) (bw 2 1433838391939329 rfl c2 g2) (by lia) (S3.trans S4)
end
end Mine
namespace Mine
open PySem PySem.W
section
variable {n m a b M:Nat}{cols:List Str}{ks:List Ki}{i:Nat}
theorem ug{T:Tab}{c:Calls}{ρ:ay}{σ:Store}{l:Ln}{r:List Ln}(h35:ρ 35=some (.v (aE (l::r))))(few:(l::r).length≤10):ak T c (.sfrom (.var 35) (.int 1)) ρ σ=some (aE r,σ):=
 gE (k:=.int (1:Nat)) (aa h35) rfl (eK (i:=1) (by decide) (by rw[List.length_map];exact Nat.le_trans few (by decide)))
theorem q7{T:Tab}{c:Calls}{ρ:ay}{σ:Store}{x:Nat}{l l':Ln}{r:List Ln}(h35:ρ 35=some (.v (aE (l::r))))(hx:ρ x=some (.v (aR l')))(few:(l::r).length≤10):ak T c (.bin .Add (.list (.cons (.var x) .nil)) (.sfrom (.var 35) (.int 1))) ρ σ=some (aE (l'::r),σ):=
 bh (cD (az (aa hx)) o7) (ug h35 few) (d7 (by rw[List.length_map];have:r.length+1≤10:=few;exact bI 1 665230322930522167652225025 rfl this))
theorem sd(TO:ig m a b M){l:Ln}{r:List Ln}{cf ch:Nat}{σ:Store}(hn:4*M+81≤n)(hc:cols.length=ks.length)(nd:cols.Nodup)(old:∀c∈cols,vj cf ch c)(len:cols.length+2*(M+1)≤1000)(hi:i<ks.length)
  (few:(l::r).length≤10) (ok:∀x∈l::r,LnOk ks m x) (hmu:mu (l::r)≤M+1) (hid:(l.ps.take i).all cG=true) (hp:aL false (be l.ps i)=be l.ps i) (hw:be l.ps i≠.wild) (F:Fr a b σ cf ch) (hb:cf+ch+40 ^ (M+1)<10 ^ 60):
  ∃t σ' cf' ch',(ac af (n+1)).fn 544 [bX m a b,.int (i:Nat),aV cols,aE (l::r)] σ=some (t,σ')∧db (M+1) t cols ks (l::r)∧Fr a b σ' cf' ch'∧cf≤cf'∧ch≤ch'∧cf'+ch'≤cf+ch+40 ^ (M+1)∧Same b σ σ':=by
 refine Exists.elim (sx n 5 (aP 1 18982889470489136482130 rfl hn)) fun j z1=>?_;subst z1
 have hk:ks.length≤1000:=bw 2 20769853671193396307797389961901650177 rfl (Nat.le_of_eq hc.symm) len
 refine cB (g0 M) fun pf pf1=>?_
 have L:=ok l (List.mem_cons_self ..)
 have hil:i<l.ps.length:=by refine eR (aC L.ok) ?_;exact hi
 have hlk:l.ps.length≤1000:=by refine eR (aC L.ok) ?_;exact hk
 refine gC (aS i L.ok hi) fun _ hpi _ _=>?_
 have hh:=uK hpi hp hw
 have e7:ak af.toTab (ac af (j+5)) (.item (.attr (.item (.var 35) (.int 0)) 23) (.var 1)) (aq [0,1,37,35] [bX m a b,.int (i:Nat),aV cols,aE (l::r)]) σ=some (aM (be l.ps i),σ):=
  aH (aw (d:=.lst (l.ps.map aM)) (jX rfl rfl hil hlk) rfl) (aa (x:=1) rfl) (dy hil hlk)
 have eh:ak af.toTab (ac af (j+5)) (.meth (.var 0) 39 (.cons (.var 7) .nil)) ((aq [0,1,37,35] [bX m a b,.int (i:Nat),aV cols,aE (l::r)]).set 7 (.v (aM (be l.ps i)))) σ=some (.bool (xS (be l.ps i)),σ):=
  bm (C:=566) (fs:=[(32,b4),(33,.lst (List.replicate m (.bool false))),(34,bO a b)]) (aa rfl) (az (aa rfl)) rfl rfl (w6 (n:=j+1) hpi (bI 1 69194166777533706497 rfl ((L.fits hk).at_le i)))
 by_cases hN:gY ks i=.N
 ·replace eh:=(decide_eq_true hN)▸hh▸eh
  refine ya (mO (n:=j+4) TO (aP 1 10132249440406646362209950489764184162570241 rfl hn) hc nd old len hi few ok hmu hN hp hw F (by lia)) fun t σ' cf' ch' e G F' q1 q2 q3 S=>?_
  refine yd t σ' cf' ch' ?_ G F' q1 q2 (zO 2 3514097906596409794629286719869649793832733568679947 rfl pf q3) S
  exact aI (fi:=⟨[0,1,37,35],wg⟩) (ρ':=_) rfl rfl (ag e7 (aD eh (aN (bm (m:=40) (C:=566) (fs:=[(32,b4),(33,.lst (List.replicate m (.bool false))),(34,bO a b)]) (aa rfl) (aF (d:=.int (i:Nat)) (d2:=aV cols) (d3:=aE (l::r)) (aa rfl) (aa rfl) (aa rfl)) rfl rfl e))))
 ·replace eh:=(decide_eq_false hN)▸hh▸eh
  have sw:∀{k0:Ky},bG (be l.ps i)=some k0→ak af.toTab (ac af (j+5)) (.isi (.var 7) [288]) ((aq [0,1,37,35] [bX m a b,.int (i:Nat),aV cols,aE (l::r)]).set 7 (.v (aM (be l.ps i)))) σ=some (.bool false,σ)→
    ∃t σ' cf' ch',(ac af (j+5+1)).fn 544 [bX m a b,.int (i:Nat),aV cols,aE (l::r)] σ=some (t,σ')∧db (M+1) t cols ks (l::r)∧Fr a b σ' cf' ch'∧cf≤cf'∧ch≤ch'∧cf'+ch'≤cf+ch+40 ^ (M+1)∧Same b σ σ':=fun{k0} hkey hbang=>by
   refine CP (sM (n:=j+4) (m:=m) TO (aP 1 10132249440406646362209950489764184162570241 rfl hn) hc nd old len hi few ok hmu hN hid hkey F hb (ρ:=(aq [0,1,37,35] [bX m a b,.int (i:Nat),aV cols,aE (l::r)]).set 7 (.v (aM (be l.ps i)))) rfl rfl rfl rfl) fun t σ' cf' ch' ρ' e G F' q1 q2 q3 S=>?_
   exact yd t σ' cf' ch' (aI (fi:=⟨[0,1,37,35],wg⟩) (ρ':=ρ') rfl rfl (ag e7 (ao eh (ao hbang e)))) G F' q1 q2 q3 S
  rcases bL (be l.ps i)with e|⟨v,e⟩|⟨c,x,y,e⟩|⟨q,e⟩
  ·exact absurd (hp.symm.trans e) hw
  ·exact sw (k0:=.lit v) (by refine eE hp ?_;refine eR e ?_;rfl) (by refine eE hp ?_;refine eR e ?_;exact ah rfl rfl rfl)
  ·exact sw (k0:=.con c) (by refine eE hp ?_;refine eR e ?_;rfl) (by refine eE hp ?_;refine eR e ?_;exact ah rfl rfl rfl)
  ·have hq:be l.ps i=.bang q:=hp.symm.trans e
   have hokq:cZ (gY ks i) q:=by rw[hq]at hpi;exact hpi.1
   have hszq:sz q+1=sz (be l.ps i):=by refine eR hq ?_;exact Nat.le_antisymm (bI 0 301728022529 rfl) (bI 0 1722283036673 rfl)
   have hL:LnOk ks m (br l (ax i [q] l.ps)):=by
    have h1:=fE (js:=[gY ks i]) (qs:=[q]) L.ok hi ⟨hokq,trivial⟩
    have e':ax i [gY ks i] ks=ks:=by
     have:ks=ks.take i++gY ks i::ks.drop (i+1):=by
      unfold gY;refine eR (List.getD_eq_getElem?_getD) ?_;refine eR (List.getElem?_eq_getElem hi) ?_
      show ks=ks.take i++ks[i]::ks.drop (i+1)
      rw[List.getElem_cons_drop,List.take_append_drop]
     unfold ax;rw[List.append_assoc];exact this.symm
    rw[e']at h1
    exact⟨h1,l5 (l':=l) hil L.size (aP 1 23712514724097 rfl (Nat.le_of_eq hszq)),L.num⟩
   have hm:mu (br l (ax i [q] l.ps)::r)≤M:=by
    have h1:(1+bS l.ps)+mu r≤M+1:=hmu
    show(1+bS (ax i [q] l.ps))+mu r≤M
    rw[d6,bk]
    have:=bW hil
    have:bS []=0:=rfl
    lia
   have P:Pre m a b M cols ks (br l (ax i [q] l.ps)::r) σ cf ch:=
    {hc:=hc,nd:=nd,old:=old,len:=aP 1 1329270634877149196462592417719006806017 rfl len,few:=few,ok:=fun x hx=>(List.mem_cons.mp hx).elim (fun e=>e▸hL) (fun h=>ok x (List.mem_cons_of_mem _ h)),fr:=F,bound:=by lia}
   refine ya (TO (j+5) _ _ _ _ _ _ (aP 1 10132249440406646362210024276740479000776705 rfl hn) hm P) fun t σ' cf' ch' et G F' q1 q2 q3 S=>?_
   refine yd _ σ' cf' ch' ?_ (pe hc L.ok hi hN hid hq (l':=br l (ax i [q] l.ps)) rfl rfl rfl G) F' q1 q2 (zO 2 832219209749439276023750124074035342634145562635 rfl pf q3) S
   have ep:=fJ (n:=j+3) (σ:=σ) (l:=l) (i:=i) (qs:=[q]) hlk hil (by show 1≤1000;decide)
   have e41:ak af.toTab (ac af (j+5)) (.meth (.item (.var 35) (.int 0)) 28 (.cons (.var 1) (.cons (.list (.cons (.attr (.var 7) 7) .nil)) .nil))) ((aq [0,1,37,35] [bX m a b,.int (i:Nat),aV cols,aE (l::r)]).set 7 (.v (aM (be l.ps i)))) σ=some (aR (br l (ax i [q] l.ps)),σ):=by
    refine hq▸?_
    exact bm (C:=507) (fs:=[(17,.int (l.num:Nat)),(23,.lst (l.ps.map aM)),(18,.lst l.binds),(24,.bool l.lost)]) (jX (i:=i) rfl rfl hil hlk) (aB (d2:=.lst [aM q]) (aa (x:=1) rfl) (cD (az (aw (aa rfl) rfl)) o7)) rfl rfl ep
   have e288:ak af.toTab (ac af (j+5)) (.isi (.var 7) [288]) ((aq [0,1,37,35] [bX m a b,.int (i:Nat),aV cols,aE (l::r)]).set 7 (.v (aM (be l.ps i)))) σ=some (.bool true,σ):=by refine eR hq ?_;exact ah rfl rfl rfl
   have em:=bm (ρ:=(((aq [0,1,37,35] [bX m a b,.int (i:Nat),aV cols,aE (l::r)]).set 7 (.v (aM (be l.ps i)))).set 41 (.v (aR (br l (ax i [q] l.ps)))))) (T:=af.toTab) (c:=ac af (j+5)) (m:=21) (C:=566) (fs:=[(32,b4),(33,.lst (List.replicate m (.bool false))),(34,bO a b)])
    (aa (x:=0) rfl) (aB (aa (x:=37) rfl) (q7 (x:=41) (l:=l) (l':=br l (ax i [q] l.ps)) rfl rfl few)) rfl rfl et
   exact aI (fi:=⟨[0,1,37,35],wg⟩) (ρ':=_) rfl rfl (ag e7 (ao eh (aD e288 (ag e41 (aN (bz (aB (cL (cols:=cols) rfl rfl (bw 2 30183485294485944156161 rfl (Nat.le_of_eq hc.symm) hi) (aP 1 79230704002210449961578394038529 rfl len)) em) rfl))))))
structure Eqv(ks:List Ki)(m:Nat)(l l':Ln):Prop where
 num:l'.num=l.num
 lost:l'.lost=l.lost
 ok:LnOk ks m l'
 sz:bS l'.ps≤bS l.ps
 fit:∀ws,cE ks ws→aA l'.ps ws=aA l.ps ws
noncomputable def BE:Ss:=.cons (.assign 36 (.meth (.var 36) 25 (.cons (.var 1) (.cons (.item (.var 37) (.var 1)) (.cons (.bool false) .nil))))) (.cons (.assign 7 (.item (.attr (.var 36) 23) (.var 1))) (.cons (.ite (.not (.isi (.var 7) [99])) (.cons (.ret (.meth (.var 0) 38 (.cons (.var 1) (.cons (.var 37) (.cons (.bin .Add (.list (.cons (.var 36) .nil)) (.sfrom (.var 35) (.int 1))) .nil))))) .nil) .nil) .nil))
theorem zR{σ:Store}{l0:Ln}{r:List Ln}(hn:60≤n)(hc:cols.length=ks.length)(hk:ks.length≤1000)(few:(l0::r).length≤10):∀(k:Nat){i:Nat}{ρ:ay}{l:Ln},i+k=cols.length→ρ 0=some (.v (bX m a b))→ρ 37=some (.v (aV cols))→ρ 35=some (.v (aE (l0::r)))→ρ 36=some (.v (aR l))→LnOk ks m l→(l.ps.take i).all cG=true→
  (∃ρ' l',aZ (fq af.toTab (ac af (n+5)) (n+5) [1] BE) ((List.range' i k).map fun(i:Nat)=>V.int (i:Int)) ρ σ=some (.next,ρ',σ)∧ρ' 36=some (.v (aR l'))∧(∀j,j≠1→j≠36→j≠7→ρ' j=ρ j)∧l'.ps.all cG=true∧Eqv ks m l l')∨
  (∃p l',p<cols.length∧Eqv ks m l l'∧(l'.ps.take p).all cG=true∧aL false (be l'.ps p)=be l'.ps p∧be l'.ps p≠.wild∧
   ∀t σ',(ac af (n+5)).fn 544 [bX m a b,.int (p:Nat),aV cols,aE (l'::r)] σ=some (t,σ')→∃ρ',aZ (fq af.toTab (ac af (n+5)) (n+5) [1] BE) ((List.range' i k).map fun(i:Nat)=>V.int (i:Int)) ρ σ=some (.ret t,ρ',σ'))
 |0,i,ρ,l,hik,h0,h37,h35,h36,L,hid=>by
  refine .inl (jT ρ l rfl h36 (fun _ _ _ _=>rfl) ?_ ⟨rfl,rfl,L,Nat.le_refl _,fun _ _=>rfl⟩)
  rwa [List.take_of_length_le (by refine eR (aC L.ok) ?_;exact bw 2 27760214566620123393 rfl (Nat.le_of_eq hc.symm) (Nat.le_of_eq hik.symm))]at hid
 |k+1,i,ρ,l,hik,h0,h37,h35,h36,L,hid=>by
  have hi:i<ks.length:=dW 2 123645726232965817747914753 rfl (Nat.le_of_eq hc) (Nat.le_of_eq hik)
  have hil:i<l.ps.length:=by refine eR (aC L.ok) ?_;exact hi
  refine gC (aS i L.ok hi) fun _ hpi _ _=>?_
  refine jv (gL (n:=n) (σ:=σ) (col:=.str (sn cols i)) (b:=false) (L.fits hk) hil hpi hn) fun l1 e1 P1 F1=>?_
  have L1:=hG L hi P1 F1
  have hil1:i<l1.ps.length:=by refine eR (aC L1.ok) ?_;exact hi
  have at1:be l1.ps i=aL false (be l.ps i):=by rw[P1.ps,gu hil]
  have tk1:l1.ps.take i=l.ps.take i:=by rw[P1.ps,fL hil]
  have E1:Eqv ks m l l1:=⟨P1.num,P1.lost,L1,ly hil P1,fun ws hw=>by
   have:=dU (qs:=[aL false (be l.ps i)]) (vs:=[fy ws i]) L.ok hw hi rfl
   rw[iz hw hi]at this
   refine eR P1.ps ?_;refine eR this ?_;refine eR (eM L.ok hw hi) ?_
   show sq _ (sq (sq _ (.yes,[])) _)=_
   rw[c9,eH hpi (b9 i hw hi).2.1]⟩
  have m1:ak af.toTab (ac af (n+5)) (.meth (.var 36) 25 (.cons (.var 1) (.cons (.item (.var 37) (.var 1)) (.cons (.bool false) .nil)))) (ρ.set 1 (.v (.int (i:Nat)))) σ=some (aR l1,σ):=
   bm (C:=507) (fs:=[(17,.int (l.num:Nat)),(23,.lst (l.ps.map aM)),(18,.lst l.binds),(24,.bool l.lost)]) (aa (x:=36) h36) (aF (aa (x:=1) rfl) (by exact cL (cols:=cols) h37 rfl (bw 1 397866023073769340929 rfl (Nat.le_of_eq hik)) (aP 2 302241126781598891592134913 rfl (Nat.le_of_eq hc) hk)) (d3:=.bool false) rfl) rfl rfl e1
  have m2:ak af.toTab (ac af (n+5)) (.item (.attr (.var 36) 23) (.var 1)) ((ρ.set 1 (.v (.int (i:Nat)))).set 36 (.v (aR l1))) σ=some (aM (be l1.ps i),σ):=
   aH (aw (d:=.lst (l1.ps.map aM)) (aa (x:=36) rfl) rfl) (aa (x:=1) rfl) (dy hil1 (by refine eR (aC L1.ok) ?_;exact hk))
  refine eR List.range'_succ ?_;refine eR List.map_cons ?_
  by_cases hw:be l1.ps i=.wild
  ·have hid1:(l1.ps.take (i+1)).all cG=true:=by
    refine eR List.take_succ ?_;refine eR List.all_append ?_;refine eR tk1 ?_;refine eR hid ?_;refine eR (List.getElem?_eq_getElem hil1) ?_
    have:l1.ps[i]=.wild:=by
     have:=hw;unfold be at this;rw[List.getD_eq_getElem?_getD,List.getElem?_eq_getElem hil1]at this;exact this
    refine eR this ?_;rfl
   have t:fq af.toTab (ac af (n+5)) (n+5) [1] BE (.int (i:Nat)) ρ σ=some (.next,((ρ.set 1 (.v (.int (i:Nat)))).set 36 (.v (aR l1))).set 7 (.v (aM (be l1.ps i))),σ):=
    ag m1 (ag m2 (ao (by refine eR hw ?_;exact gf (b:=true) (ah rfl rfl rfl)) rfl))
   rcases zR hn hc hk few k (i:=i+1) (ρ:=((ρ.set 1 (.v (.int (i:Nat)))).set 36 (.v (aR l1))).set 7 (.v (aM (be l1.ps i)))) (l:=l1) (Nat.le_antisymm (bw 1 1931816898437569273921537 rfl (Nat.le_of_eq hik)) (bw 1 7584126337226910445076737 rfl (Nat.le_of_eq hik.symm))) h0 h37 h35 rfl L1 hid1 with⟨ρ',l',e,a36,aj,hid',E⟩|⟨p,l',hp,E,x1,x2,x3,x4⟩
   ·exact .inl (jT ρ' l' (cj t e) a36 (fun j j1 j2 j3=>by rw[aj j j1 j2 j3];simp only [ay.set,if_neg j1,if_neg j2,if_neg j3]) hid' ⟨E.num.trans E1.num,E.lost.trans E1.lost,E.ok,Nat.le_trans E.sz E1.sz,fun ws h=>(E.fit ws h).trans (E1.fit ws h)⟩)
   ·refine .inr ⟨p,l',hp,⟨E.num.trans E1.num,E.lost.trans E1.lost,E.ok,Nat.le_trans E.sz E1.sz,fun ws h=>(E.fit ws h).trans (E1.fit ws h)⟩,x1,x2,x3,fun t' σ' ht=>?_⟩
    refine Exists.elim (x4 t' σ' ht) fun ρ' e=>?_
    exact⟨ρ',cj t e⟩
  ·refine .inr (Bm i l1 (bw 1 397866023073769340929 rfl (Nat.le_of_eq hik)) E1 (by rw[tk1];exact hid) (by rw[at1];exact o9 _) hw (fun t σ' ht=>⟨_,kU (ag m1 (ag m2 (aD (σ1:=σ) ?_ (aN (bm (m:=38) (C:=566) (fs:=[(32,b4),(33,.lst (List.replicate m (.bool false))),(34,bO a b)]) (aa (x:=0) h0) (aF (aa (x:=1) rfl) (aa (x:=37) h37) (q7 (x:=36) (l:=l0) (l':=l1) h35 rfl few)) rfl rfl ht)))))⟩))
   refine gf (b:=false) ?_
   rcases bL (be l.ps i)with e|⟨v,e⟩|⟨c,x,y,e⟩|⟨q,e⟩
   ·exact absurd (at1.trans e) hw
   ·refine eR at1 ?_;refine eR e ?_;exact ah rfl rfl rfl
   ·refine eR at1 ?_;refine eR e ?_;exact ah rfl rfl rfl
   ·refine eR at1 ?_;refine eR e ?_;exact ah rfl rfl rfl
theorem xT(hm:m≤1000):∀M,ig m a b M:=by
 have nilc:∀{n M cols ks σ cf ch},Fr a b σ cf ch→AS a b M cols ks [] σ cf ch ((ac af (n+2)).fn 539 [bX m a b,aV cols,aE []] σ):=fun{n M cols ks σ cf ch} F=>
  (yd (.inst 397 []) σ cf ch rfl lW F (Nat.le_refl _) (Nat.le_refl _) (Nat.le_add_right _ _) (Same.refl _ _))
 intro M
 induction M with
 |zero=>
  intro n cols ks lines σ cf ch hn hmu P
  induction lines using List.casesOn with
  |nil=>obtain⟨j,rfl⟩:=sx n 2 (bI 1 1131399663077032 rfl hn);exact nilc P.fr
  |cons l r=>have:(1+bS l.ps)+mu r≤0:=hmu;lia
 |succ M TO=>
  intro n cols ks lines σ cf ch hn hmu P
  induction lines using List.casesOn with
  |nil=>obtain⟨j,rfl⟩:=sx n 2 (aP 1 77749193258452205135218346 rfl hn);exact nilc P.fr
  |cons l r=>
   obtain⟨j,rfl⟩:=sx n 6 (aP 1 77749193258452205135218574 rfl hn)
   obtain⟨hc,nd,old,len,few,ok,F,hb⟩:=P
   have hk:ks.length≤1000:=bw 2 20769853671193396307797389961901650177 rfl (Nat.le_of_eq hc.symm) len
   have L:=ok l (List.mem_cons_self ..)
   have hmu1:=hmu
   have hmr:mu r≤M:=bw 1 1850440168900162507009 rfl hmu1
   have fewr:r.length≤10:=by have:r.length+1≤10:=few;exact bI 1 151255863664897 rfl this
   have en:ak af.toTab (ac af (j+5)) (.cmp .Eq (.var 35) (.list .nil)) (aq [0,37,35] [bX m a b,aV cols,aE (l::r)]) σ=some (.bool false,σ):=
    aQ (o:=aE (l::r)) (k:=.lst []) (aa rfl) rfl rfl
   have e36:ak af.toTab (ac af (j+5)) (.item (.var 35) (.int 0)) (aq [0,37,35] [bX m a b,aV cols,aE (l::r)]) σ=some (aR l,σ):=aH (o:=aE (l::r)) (k:=.int (0:Nat)) (aa rfl) rfl rfl
   have el:ak af.toTab (ac af (j+5)) (.blt .len (.cons (.var 37) .nil)) ((aq [0,37,35] [bX m a b,aV cols,aE (l::r)]).set 36 (.v (aR l))) σ=some (.int (cols.length:Nat),σ):=by
    refine bH (vs:=[aV cols]) (az (aa rfl)) ?_
    show(if(cols.map V.str).length≤bq then some (V.int ((cols.map V.str).length:Nat),σ)else none)=_
    rw[List.length_map,if_pos (by exact aP 1 324528963593054003042573157523271937 rfl len)]
   have er:=de (T:=af.toTab) (c:=ac af (j+5)) el (aP 1 324528963593054003042573157523271937 rfl len)
   replace er:=List.range_eq_range'▸er
   rcases zR (n:=j) (m:=m) (a:=a) (b:=b) (cols:=cols) (ks:=ks) (σ:=σ) (l0:=l) (r:=r) (aP 1 9755840567401983036800497219539149 rfl hn) hc hk few cols.length (i:=0) (ρ:=(aq [0,37,35] [bX m a b,aV cols,aE (l::r)]).set 36 (.v (aR l))) (l:=l) (Nat.le_antisymm (bI 0 68255745 rfl) (bI 0 73400577 rfl)) rfl rfl rfl rfl L rfl with⟨ρ',l',e,a36,aj,hid,E⟩|⟨p,l',hp,E,x1,x2,x3,x4⟩
   ·have a0:ρ' 0=some (.v (bX m a b)):=by refine eR (aj 0 (by decide) (by decide) (by decide)) ?_;rfl
    have a37:ρ' 37=some (.v (aV cols)):=by refine eR (aj 37 (by decide) (by decide) (by decide)) ?_;rfl
    have a35:ρ' 35=some (.v (aE (l::r))):=by refine eR (aj 35 (by decide) (by decide) (by decide)) ?_;rfl
    have e24:ak af.toTab (ac af (j+5)) (.attr (.var 36) 24) ρ' σ=some (.bool l'.lost,σ):=aw (aa a36) rfl
    cases hlost:l'.lost with
    |true=>
     rw[hlost]at e24
     have P':Pre m a b M cols ks r σ cf ch:={hc:=hc,nd:=nd,old:=old,len:=aP 1 1329270634877149196462592417719006806017 rfl len,few:=fewr,ok:=fun x hx=>ok x (List.mem_cons_of_mem _ hx),fr:=F,bound:=by have:=(g0 M).2;lia}
     refine ya (TO (j+5) _ _ _ _ _ _ (aP 1 42928941315547684801030511720588464150067286017 rfl hn) hmr P') fun t σ' cf' ch' et G F' q1 q2 q3 S=>?_
     refine yd t σ' cf' ch' ?_ (h9 E.num E.lost E.fit (rS hid hlost (G.mono (Nat.le_succ M)))) F' q1 q2 (by have:=(g0 M).2;exact zO 2 44355009362062857831312686293260902350849 rfl q3 this) S
     exact aI (fi:=⟨[0,37,35],wZ⟩) (ρ':=ρ') rfl rfl (ao en (ag e36 (eg er e (aD e24 (aN (bm (m:=21) (C:=566) (fs:=[(32,b4),(33,.lst (List.replicate m (.bool false))),(34,bO a b)]) (aa a0) (aB (aa a37) (ug a35 few)) rfl rfl et))))))
    |false=>
     rw[hlost]at e24
     refine yd (.inst 383 [(17,.int (l'.num:Nat)),(18,.lst l'.binds),(19,.none)]) σ cf ch ?_ (h9 E.num E.lost E.fit (rE hid hlost)) F (Nat.le_refl _) (Nat.le_refl _) (Nat.le_add_right _ _) (Same.refl _ _)
     have ef:ak af.toTab (ac af (j+5)) (.item (.attr (.var 0) 33) (.attr (.var 36) 17)) ρ' σ=some (.bool false,σ):=by
      refine aH (o:=.lst (List.replicate m (.bool false))) (k:=.int (l'.num:Nat)) (aw (aa a0) rfl) (aw (aa a36) rfl) (dP ?_ ?_)
      ·have:=E.ok.num;lia
      ·rw[List.getElem?_replicate,if_pos E.ok.num]
     exact aI (fi:=⟨[0,37,35],wZ⟩) (ρ':=_) rfl rfl (ao en (ag e36 (eg er e (ao e24 (ag (bT ef rfl) (aN (bz (aF (aw (aa (x:=36) a36) rfl) (aw (aa (x:=36) a36) rfl) (aa rfl)) rfl)))))))
   ·have ok':∀x∈l'::r,LnOk ks m x:=fun x hx=>(List.mem_cons.mp hx).elim (fun e=>e▸E.ok) (fun h=>ok x (List.mem_cons_of_mem _ h))
    have hmu':mu (l'::r)≤M+1:=by
     have:=E.sz
     exact dW 2 9388124479312572432576741093646008321 rfl hmu1 this
    refine ya (sd (n:=j+4) (i:=p) (l:=l') (r:=r) TO (aP 1 42928941315547684801030511646801492253275590657 rfl hn) hc nd old (aP 1 5444692520456803108710778543063568994287617 rfl len) (bw 2 30183485294485944156161 rfl (Nat.le_of_eq hc) hp) few ok' hmu' x1 x2 x3 F hb) fun t σ' cf' ch' e G F' q1 q2 q3 S=>?_
    refine Exists.elim (x4 t σ' e) fun ρ' e'=>?_
    exact yd t σ' cf' ch' (aI (fi:=⟨[0,37,35],wZ⟩) (ρ':=ρ') rfl rfl (ao en (ag e36 (g5 (by show(cH _ _ _ _ _).bind _=_;rw[er];exact e'))))) (h9 E.num E.lost E.fit G) F' q1 q2 q3 S
end
end Mine
namespace Mine
open PySem PySem.W
noncomputable def du(σ:Store)(p:Nat):Prop:=∃x y:Int,σ.cells[p]? =some (.list [.int x,.int y])∧0≤x∧0≤y∧y<2147483647
structure SameN(P:Nat→Prop)(σ σ':Store):Prop where
 len:σ'.cells.length=σ.cells.length
 get:∀j,¬P j→σ'.cells[j]? =σ.cells[j]?
theorem SameN.refl(P:Nat→Prop)(σ:Store):SameN P σ σ:=⟨rfl,fun _ _=>rfl⟩
theorem SameN.trans{P:Nat→Prop}{σ σ1 σ2:Store}(h:SameN P σ σ1)(g:SameN P σ1 σ2):SameN P σ σ2:=⟨g.len.trans h.len,fun j e=>(g.get j e).trans (h.get j e)⟩
theorem SameN.imp{P Q:Nat→Prop}{σ σ':Store}(h:SameN P σ σ')(g:∀j,P j→Q j):SameN Q σ σ':=⟨h.len,fun j e=>h.get j fun e'=>e (g j e')⟩
theorem Same.weak{b:Nat}{σ σ':Store}(h:Same b σ σ'):SameN (· =b) σ σ':=⟨h.len,fun j e=>h.get j e⟩
theorem cO(b:Nat)(σ:Store)(c:Cell):SameN (· =b) σ (σ.put b c):=(cn b σ c).weak
section
variable {T:Tab}{c:Calls}{wf:Nat}{ρ:ay}{σ σ1 σ2 σ3:Store}
theorem gK{p:Nat}{l:List V}{i:Int}{d:V}(h:σ.cells[p]? =some (.list l))(g:cr l i=some d):fj σ (.loc p) (.int i)=some d:=by
 show(match σ.cells[p]? with|some (.list l)=>some l|_=>none).bind (fun l=>cr l i)=_
 refine eR h ?_;exact g
theorem nN{x p:Nat}{i e:E}{l:List V}{k:Int}{d:V}(hd:ak T c e ρ σ=some (d,σ1))(hx:ρ x=some (.v (.loc p)))(hi:ak T c i ρ σ1=some (.int k,σ2))(hc:σ2.cells[p]? =some (.list l))(hk:0≤k∧k.toNat<l.length∧k<2 ^ 63):
  bA T c wf (.setItem (.var x) i e) ρ σ=some (.next,ρ,σ2.put p (.list (l.set k.toNat d))):=by
 show(ak T c e ρ σ).bind _=_
 refine eR hd ?_;refine eR (show eJ ρ (.var x)=.no from congrArg (mI x) hx) ?_
 show(ak T c (.var x) ρ σ1).bind _=_
 refine eR (show ak T c (.var x) ρ σ1=some (.loc p,σ1)from aa hx) ?_
 show(ak T c i ρ σ1).bind _=_
 refine eR hi ?_
 show((match σ2.cells[p]? with
  |some (.list l)=>if 0≤k∧k.toNat<l.length∧k<2 ^ 63 then some (σ2.put p (.list (l.set k.toNat d)))else none
  |_=>none):Option Store).map _=_
 refine eR hc ?_;dsimp only;refine eR (if_pos hk) ?_;rfl
theorem lA{x p:Nat}{i e:E}{es:List (Str × V)}{k:Str}{d:V}(hd:ak T c e ρ σ=some (d,σ1))(hx:ρ x=some (.v (.loc p)))(hi:ak T c i ρ σ1=some (.str k,σ2))(hc:σ2.cells[p]? =some (.dict es))(hk:es.length≤bq):
  bA T c wf (.setItem (.var x) i e) ρ σ=some (.next,ρ,σ2.put p (.dict (bn es k d))):=by
 show(ak T c e ρ σ).bind _=_
 refine eR hd ?_;refine eR (show eJ ρ (.var x)=.no from congrArg (mI x) hx) ?_
 show(ak T c (.var x) ρ σ1).bind _=_
 refine eR (show ak T c (.var x) ρ σ1=some (.loc p,σ1)from aa hx) ?_
 show(ak T c i ρ σ1).bind _=_
 refine eR hi ?_
 show((match σ2.cells[p]? with
  |some (.dict es)=>if es.length≤bq then some (σ2.put p (.dict (bn es k d)))else none
  |_=>none):Option Store).map _=_
 refine eR hc ?_;dsimp only;refine eR (if_pos hk) ?_;rfl
theorem jA{x p:Nat}{e:E}{l l':List V}{d:V}(hx:ρ x=some (.v (.loc p)))(hd:ak T c e ρ σ=some (d,σ1))(h0:σ.cells[p]? =some (.list l'))(hc:σ1.cells[p]? =some (.list l))(hl:l.length≤bq):
  bA T c wf (.append (.var x) e) ρ σ=some (.next,ρ,σ1.put p (.list (l++[d]))):=by
 show(match eJ ρ (.var x)with
  |.l x l=>(ak T c e ρ σ).bind fun(d,σ)=>if l.length≤bq then some (Fl.next,ρ.set x (.own (l++[d])),σ)else Option.none
  |_=>(ak T c (.var x) ρ σ).bind fun(ov,σ0)=>(ak T c e ρ σ0).bind fun(d,σ)=>(g7 σ0 σ ov d).map fun σ=>(Fl.next,ρ,σ))=_
 refine eR (show eJ ρ (.var x)=.no from congrArg (mI x) hx) ?_
 show(ak T c (.var x) ρ σ).bind _=_
 refine(show ak T c (.var x) ρ σ=some (.loc p,σ)from aa hx)▸?_
 show(ak T c e ρ σ).bind _=_
 refine eR hd ?_
 show(((uX σ.cells[p]?).bind fun _=>(uX σ1.cells[p]?).bind fun l=>if l.length≤bq then some (σ1.put p (.list (l++[d])))else Option.none):Option Store).map _=_
 refine eR h0 ?_;refine eR hc ?_
 show((if l.length≤bq then some (σ1.put p (.list (l++[d])))else Option.none):Option Store).map _=_
 refine eR (if_pos hl) ?_;rfl
theorem fX{x y:Int}(h:0<y):gA σ .Mod (.int x) (.int y)=some (.int (x % y)):=by show(if 0<y then some (V.int (x % y))else none)=_;rw[if_pos h]
theorem qg{x y:Int}(h:0<y)(g:y<1073741824):gA σ .FloorDiv (.int x) (.int y)=some (.int (x / y)):=by show(if 0<y∧y<1073741824 then some (V.int (x / y))else none)=_;rw[if_pos ⟨h,g⟩]
theorem e9{x y:Int}(g:y.natAbs<2 ^ 64):gA σ .Mult (.int x) (.int y)=some (.int (x*y)):=by
 unfold gA;dsimp only
 exact if_pos g
theorem yf{e:E}{i:Int}(h:ak T c e ρ σ=some (.int i,σ1)):ak T c (.neg e) ρ σ=some (.int (-i),σ1):=by
 show(ak T c e ρ σ).bind _=_;refine eR h ?_;rfl
end
section
variable {n:Nat}{σ:Store}
theorem qt{p:Nat}{top:Int}(h:du σ p)(ht:0<top)(ht':top<1073741824):
  ∃(d:Nat)(σ':Store),(ac af (n+1)).fn 661 [.loc p,.int top] σ=some (.int (d:Int),σ')∧(d:Int)<top∧du σ' p∧Same p σ σ':=by
 refine f8 h fun x y hc hx hy hy'=>?_
 have i0:∀{ρ:ay},ρ 73=some (.v (.loc p))→ak af.toTab (ac af n) (.item (.var 73) (.int 0)) ρ σ=some (.int x,σ):=fun h=>aH (k:=.int 0) (aa h) rfl (gK hc rfl)
 have i1:∀{ρ:ay},ρ 73=some (.v (.loc p))→ak af.toTab (ac af n) (.item (.var 73) (.int 1)) ρ σ=some (.int y,σ):=fun h=>aH (k:=.int 1) (aa h) rfl (gK hc rfl)
 by_cases hpos:0<x
 ·have hm:=Int.emod_nonneg x (Int.ne_of_gt ht)
  have hm2:=Int.emod_lt_of_pos x ht
  have eq:((x % top).toNat:Int)=x % top:=Int.toNat_of_nonneg hm
  refine gi ((x % top).toNat) (σ.put p (.list [.int (x / top),.int y])) ?_ (by rw[eq];exact hm2) ⟨x / top,y,cW hc,Int.ediv_nonneg hx (Int.le_of_lt ht),hy,hy'⟩ (cn p σ _)
  refine eR eq ?_
  refine aI (fi:=⟨[73,75],zC⟩) (ρ':=_) rfl rfl (aD (aQ (k:=.int 0) (i0 rfl) rfl (congrArg some (decide_eq_true hpos))) (ag (bh (o:=.int x) (k:=.int top) (bH (az (i0 rfl)) rfl) (aa rfl) (fX ht))
   (bg (nN (i:=.int 0) (k:=0) (l:=[.int x,.int y]) (bh (i0 rfl) (aa rfl) (qg ht ht')) rfl rfl hc (fz (by decide) (by show 0<2;decide) (by decide))) (aN (aa rfl)))))
 ·have hy1:y.natAbs<2 ^ 64:=by lia
  have hz:=Int.emod_nonneg (y*39373+7) (show(2147483647:Int)≠0 by decide)
  have hz':=Int.emod_lt_of_pos (y*39373+7) (show(0:Int)<2147483647 by decide)
  let z:=(y*39373+7) % 2147483647
  have hzz:z=(y*39373+7) % 2147483647:=rfl
  have hz1:z.natAbs<2 ^ 64:=by lia
  have hc':(σ.put p (.list [.int x,.int z])).cells[p]? =some (.list [.int x,.int z]):=cW hc
  have i1':∀{ρ:ay},ρ 73=some (.v (.loc p))→ak af.toTab (ac af n) (.item (.var 73) (.int 1)) ρ (σ.put p (.list [.int x,.int z]))=some (.int z,σ.put p (.list [.int x,.int z])):=fun h=>aH (k:=.int 1) (aa h) rfl (gK hc' rfl)
  let r:=(z*z % 2147483629) / 32 % top
  have hr:=Int.emod_nonneg ((z*z % 2147483629) / 32) (Int.ne_of_gt ht)
  have eq:(r.toNat:Int)=r:=Int.toNat_of_nonneg hr
  refine⟨r.toNat,σ.put p (.list [.int x,.int z]),?_,by rw[eq];exact(Int.emod_lt_of_pos ((z*z % 2147483629) / 32) ht),(gi x z hc' hx (by lia) (by lia)),cn p σ _⟩
  refine eR eq ?_
  refine aI (fi:=⟨[73,75],zC⟩) (ρ':=_) rfl rfl (ao (aQ (k:=.int 0) (i0 rfl) rfl (congrArg some (decide_eq_false hpos))) (bg (nN (i:=.int 1) (k:=1) (l:=[.int x,.int y]) (d:=.int z)
   (bh (o:=.int (y*39373+7)) (k:=.int 2147483647) (bH (vs:=[.int (y*39373+7)]) (az (bh (o:=.int (y*39373)) (k:=.int 7) (bh (k:=.int 39373) (i1 rfl) rfl (e9 (by decide))) rfl rfl)) rfl) rfl (fX (by decide))) rfl rfl hc (fz (by decide) (by show 1<2;decide) (by decide)))
   (aN (bh (o:=.int ((z*z % 2147483629) / 32)) (k:=.int top) (bH (vs:=[.int ((z*z % 2147483629) / 32)]) (az (bh (o:=.int (z*z % 2147483629)) (k:=.int 32) (bh (o:=.int (z*z)) (k:=.int 2147483629) (bH (vs:=[.int (z*z)]) (az (bh (i1' rfl) (i1' rfl) (e9 hz1))) rfl) rfl (fX (by decide))) rfl (qg (by decide) (by decide)))) rfl) (aa rfl) (fX ht)))))
end
end Mine
namespace Mine
open PySem PySem.W
noncomputable def di:Ki→Str|.T=>"T"|.N=>"N"|.P=>"P"|.L=>"L"|.I=>"I"
noncomputable def da:Con→Str|.A=>""|.B=>"TI"|.N=>"T"|.Pr=>"TI"|.Nil=>""|.Cons=>"IL"
noncomputable def cK(c:Con):List Ki:=[c.f1,c.f2].take c.ar
noncomputable def mS(c:Con):V:=.tup none [.str c.str,.str (da c)]
noncomputable def cV:Ki→List Con|.T=>[.A,.B]|.N=>[.N]|.P=>[.Pr]|.L=>[.Nil,.Cons]|.I=>[]
noncomputable def AE:List Ki:=[.T,.N,.P,.L,.I]
theorem Ki.mem(c:Ki):c∈AE:=by induction c using Ki.casesOn<;>exact List.mem_of_elem_eq_true rfl
theorem z9(k:Ki):(di k==("I":Str))=decide (k=.I):=
 eq_of_beq (List.all_eq_true.mp (show(AE.all fun k=>(di k==("I":Str))==decide (k=.I))=true by decide+kernel) k k.mem)
theorem Am(k:Ki):(di k==("N":Str))=decide (k=.N):=
 eq_of_beq (List.all_eq_true.mp (show(AE.all fun k=>(di k==("N":Str))==decide (k=.N))=true by decide+kernel) k k.mem)
theorem CH(k:Ki):(di k==("L":Str))=decide (k=.L):=
 eq_of_beq (List.all_eq_true.mp (show(AE.all fun k=>(di k==("L":Str))==decide (k=.L))=true by decide+kernel) k k.mem)
theorem Cl(k:Ki):(di k==("P":Str))=decide (k=.P):=
 eq_of_beq (List.all_eq_true.mp (show(AE.all fun k=>(di k==("P":Str))==decide (k=.P))=true by decide+kernel) k k.mem)
theorem iU(c:Con){σ:Store}:gH σ (.str (da c))=some ((cK c).map fun k=>V.str (di k)):=by induction c using Con.casesOn<;>kernel_rfl
theorem i4(k:Ki)(hk:k≠.I){c:Calls}{ρ:ay}{σ:Store}{x:Nat}(h:ρ x=some (.v (.str (di k)))):ak af.toTab c (.item (.glob 5) (.var x)) ρ σ=some (.lst ((cV k).map mS),σ):=by
 refine aH (o:=.dct [("T",.lst [c7 "M.A" "",c7 "M.B" "TI"]),("N",.lst [c7 "M.N" "T"]),("P",.lst [c7 "(,)" "TI"]),("L",.lst [c7 "[]" "",c7 ":" "IL"])]) rfl (aa h) ?_
 clear c ρ x h;induction k using Ki.casesOn<;>first|exact absurd rfl hk|kernel_rfl
theorem oU{k:Ki}{c:Con}(h:c∈cV k):c.ki=k:=by
 induction k using Ki.casesOn<;>(simp only [cV,List.mem_cons,List.not_mem_nil,or_false]at h)<;>(try rcases h with rfl|rfl)<;>(try subst h)<;>first|rfl|contradiction
noncomputable def zH(σ:Store)(q k:Nat):Prop:=∃l,σ.cells[q]? =some (.list l)∧(∀x∈l,∃s,x=V.str s∧o5 s=some 118)∧l.length≤k
structure PG(s q:Nat)(σ:Store)(k:Nat):Prop where
 pool:du σ s
 lab:zH σ q k
 ne:s≠q
theorem PG.mono{s q k k':Nat}{σ:Store}(h:PG s q σ k)(l:k≤k'):PG s q σ k':=⟨h.pool,by refine jv h.lab fun l0 a b c=>?_;exact(iK l0 a b (Nat.le_trans c l)),h.ne⟩
noncomputable abbrev ve(s q:Nat):Nat→Prop:=fun j=>j=s∨j=q
section
variable {n s q k:Nat}{σ:Store}
theorem dm{top:Nat}(h:PG s q σ k)(ht:0<top)(ht':top<1000):
  ∃(d:Nat)(σ':Store),(ac af (n+1)).fn 661 [.loc s,.int (top:Int)] σ=some (.int (d:Int),σ')∧d<top∧PG s q σ' k∧SameN (ve s q) σ σ':=by
 refine f8 (qt (n:=n) h.pool (top:=(top:Int)) (by lia) (by lia)) fun d σ' e hd P S=>?_
 refine gi d σ' e (by lia) ⟨P,?_,h.ne⟩ (S.weak.imp fun j e=>.inl e)
 refine aT h.lab fun l a b=>?_
 exact bi l (by rw[S.get q (Ne.symm h.ne)];exact a) b
theorem yG{l:List V}(h:PG s q σ k)(hl:0<l.length)(hl':l.length<1000):∃(d:Nat)(σ':Store)(v:V),(ac af (n+2)).fn 668 [.loc s,.lst l] σ=some (v,σ')∧l[d]? =some v∧PG s q σ' k∧SameN (ve s q) σ σ':=by
 refine f8 (dm (n:=n) h hl hl') fun d σ' e hd P S=>?_
 have hv:l[d]? =some l[d]:=List.getElem?_eq_getElem hd
 refine wS d σ' (l[d]) ?_ hv P S
 refine aI (fi:=⟨[73,76],wF⟩) (ρ':=_) rfl rfl (aN (aH (o:=.lst l) (k:=.int (d:Int)) (aa rfl) (aJ (vs:=[.loc s,.int (l.length:Int)]) (aB (aa rfl) (bH (vs:=[.lst l]) (az (aa rfl)) ?_)) e) (dP (by lia) hv)))
 show(if l.length≤bq then some (V.int (l.length:Nat),σ)else none)=_
 rw[if_pos (by exact bI 1 19343433593129714360398131457 rfl hl')]
theorem xx{l:List V}{c:Calls}{T:Tab}{ρ:ay}{x:Nat}(hx:ρ x=some (.v (.loc q)))(hc:σ.cells[q]? =some (.list l))(hl:l.length≤10000):ak T c (.blt .len (.cons (.var x) .nil)) ρ σ=some (.int (l.length:Nat),σ):=by
 refine bH (vs:=[.loc q]) (az (aa hx)) ?_
 show((match σ.cells[q]? with|some (.list l)=>some l.length|_=>none):Option Nat).bind _=_
 refine eR hc ?_;show(if l.length≤bq then some (V.int (l.length:Nat),σ)else none)=_
 rw[if_pos (by exact bI 1 47223889720745696703820033 rfl hl)]
noncomputable def lP(k:Nat):Str:=("v.":Str)++Str.ofString (toString ((k:Nat):Int))
theorem Cg(k:Nat):o5 (lP k)=some 118:=by
 unfold o5 lP;rw[eZ]
 refine eR (show("v.":Str).cps.toList=[118,46] by decide+kernel) ?_;rfl
theorem ji{wf:Nat}{c:Calls}{ρ:ay}(h:PG s q σ k)(hk:k≤1000)(h80:ρ 80=some (.v (.loc q))):
  ∃σ' nm,bA af.toTab c wf (.append (.var 80) (.bin .Add (.str "v.") (.blt .str (.cons (.bin .Add (.blt .len (.cons (.var 80) .nil)) (.int 1)) .nil)))) ρ σ=some (.next,ρ,σ')∧PG s q σ' (k+1)∧SameN (ve s q) σ σ'∧
   ∀(c:Calls)(ρ:ay),ρ 80=some (.v (.loc q))→ak af.toTab c (.item (.var 80) (.neg (.int 1))) ρ σ'=some (.str nm,σ'):=by
 refine jv h.lab fun l hc hl hn=>?_
 have l1:("v.":Str).length=2:=by decide+kernel
 have l2:=qA (k:=l.length+1) (by lia)
 refine gi (σ.put q (.list (l++[.str (lP (l.length+1))]))) (lP (l.length+1)) (jA (d:=.str (lP (l.length+1))) h80 ?_ hc hc (by show _≤1000000;exact aP 2 401116638059183000127563378945 rfl hk hn)) ⟨?_,?_,h.ne⟩ ((cO q σ _).imp fun j e=>.inr e) (fun c ρ h80=>?_)
 ·refine bh (o:=.str "v.") (k:=.str (Str.ofString (toString ((l.length+1:Nat):Int)))) rfl (bH (vs:=[.int ((l.length+1:Nat):Int)]) (az (bh (k:=.int 1) (xx h80 hc (aP 2 6267447469674734282622120193 rfl hk hn)) rfl rfl)) ?_) (gG ?_)
  ·show(if((l.length+1:Nat):Int).natAbs<10 ^ 60 then some (V.str (Str.ofString (toString ((l.length+1:Nat):Int))),σ)else none)=_
   rw[if_pos (by rw[Int.natAbs_natCast];lia)]
  ·refine eR l1 ?_;exact bI 1 1180228294867776505784672257 rfl l2
 ·refine eB h.pool fun x y a b=>?_
  exact dA x y (by rw[(cn q σ _).get s h.ne];exact a) b
 ·refine iK _ (cW hc) (fun x hx=>(List.mem_append.mp hx).elim (hl x) (fun e=>by rw[List.mem_singleton]at e;exact⟨_,e,Cg _⟩)) ?_
  refine eR List.length_append ?_;simp only [List.length_cons,List.length_nil];exact aP 1 91204013862961153 rfl hn
 ·refine aH (o:=.loc q) (k:=.int (-1)) (aa h80) (yf rfl) (gK (cW hc) ?_)
  show(l++[V.str (lP (l.length+1))]).getLast? =_
  refine eR (List.getLast?_append) ?_;rfl
theorem aY{T:Tab}{c:Calls}{ρ:ay}{x d e:Nat}{b:Bool}(h:ρ x=some (.v (.int (d:Int))))(g:decide (d=e)=b):ak T c (.cmp .Eq (.var x) (.int (e:Int))) ρ σ=some (.bool b,σ):=by
 refine aQ (o:=.int (d:Int)) (k:=.int (e:Int)) (aa h) rfl ?_
 show some (((d:Nat):Int)==((e:Nat):Int))=_
 congr 1
 by_cases hde:d=e
 ·subst hde;refine eE g ?_;simp
 ·refine eE g ?_;refine eR (decide_eq_false hde) ?_;exact beq_eq_false_iff_ne.mpr fun h=>hde (by lia)
theorem df{T:Tab}{c:Calls}{ρ:ay}{x:Nat}{a e:Str}{b:Bool}(h:ρ x=some (.v (.str a)))(g:(a==e)=b):ak T c (.cmp .Eq (.var x) (.str e)) ρ σ=some (.bool b,σ):=
 aQ (o:=.str a) (k:=.str e) (aa h) rfl (congrArg some g)
theorem g8{T:Tab}{c:Calls}{ρ:ay}{x:Nat}{a e:Str}{b:Bool}(h:ρ x=some (.v (.str a)))(g:(a==e)=b):ak T c (.cmp .NotEq (.var x) (.str e)) ρ σ=some (.bool (!b),σ):=
 aQ (o:=.str a) (k:=.str e) (aa h) rfl (congrArg (fun b=>some (!b)) g)
theorem w4(i:Int):(ac af (n+1)).new 126 [.str "int",.int i,.none] σ=some (aM (.lit i),σ):=rfl
theorem u1(p:Pt):(ac af (n+1)).new 261 [aM p,.none] σ=some (aM (.lazy p),σ):=rfl
theorem zB(nm:Str)(p:Pt):(ac af (n+1)).new 234 [.str nm,aM p,.none] σ=some (aM (.as nm p),σ):=rfl
theorem yV(a b:Pt):(ac af (n+1)).new 180 [.lst [aM a,aM b],.none] σ=some (aM (.tup a b),σ):=rfl
noncomputable def tl:Ss→Ss|.cons _ r=>r|.nil=>.nil
noncomputable def u9(s q:Nat)(σ:Store)(k:Nat)(ki:Ki)(b:Nat)(R:Option (Fl × ay × Store)):Prop:=∃p σ' ρ',R=some (.ret (aM p),ρ',σ')∧cZ ki p∧sz p≤b∧PG s q σ' (k+b)∧SameN (ve s q) σ σ'
noncomputable def Bt(s q:Nat)(σ:Store)(k:Nat)(ki:Ki)(b:Nat)(R:Option (V × Store)):Prop:=∃p σ',R=some (aM p,σ')∧cZ ki p∧sz p≤b∧PG s q σ' (k+b)∧SameN (ve s q) σ σ'
theorem oJ{ki:Ki}{d b:Nat}{ρ:ay}(h:PG s q σ k)(hk:k≤900)(hb:1≤b)(h77:ρ 77=some (.v (.int (d:Int))))(h79:ρ 79=some (.v (.str (di ki))))(h80:ρ 80=some (.v (.loc q)))
  (K:d≠0→d≠1→(d=2→ki=.I)→u9 s q σ k ki b (au af.toTab (ac af (n+1)) (n+1) (tl (tl (tl ng))) ρ σ)):u9 s q σ k ki b (au af.toTab (ac af (n+1)) (n+1) (tl ng) ρ σ):=by
 by_cases h0:d=0
 ·exact qF .wild σ ρ (aD (aY (e:=0) h77 (decide_eq_true h0)) (aN (bz (az rfl) fR))) trivial (Nat.zero_le _) (h.mono (Nat.le_add_right _ _)) (SameN.refl _ _)
 ·have hor:ak af.toTab (ac af (n+1)) (.bop .Or (.cons (.cmp .Eq (.var 77) (.int 1)) (.cons (.bop .And (.cons (.cmp .Eq (.var 77) (.int 2)) (.cons (.cmp .NotEq (.var 79) (.str "I")) .nil))) .nil))) ρ σ=some (.bool (decide (d=1)||(decide (d=2)&& !decide (ki=.I))),σ):=by
   by_cases h1:d=1
   ·refine eR (decide_eq_true h1) ?_;exact jV (aY (e:=1) h77 (decide_eq_true h1))
   ·refine eR (decide_eq_false h1) ?_
    refine il (aY (e:=1) h77 (decide_eq_false h1)) (bY ?_)
    by_cases h2:d=2
    ·refine eR (decide_eq_true h2) ?_;exact aU (aY (e:=2) h77 (decide_eq_true h2)) (bY (g8 h79 (z9 ki)))
    ·refine eR (decide_eq_false h2) ?_;exact ba (aY (e:=2) h77 (decide_eq_false h2))
  cases hv:(decide (d=1)||(decide (d=2)&& !decide (ki=.I)))with
  |true=>
   replace hor:=hv▸hor
   refine f8 (ji (wf:=n+1) (c:=ac af (n+1)) h (bI 1 1037666245045794648321 rfl hk) h80) fun σ' nm e P S hnm=>?_
   exact qF (.var nm) σ' ρ (ao (aY (e:=0) h77 (decide_eq_false h0)) (aD hor (bg e (aN (bz (aB (d2:=.none) (hnm _ ρ h80) rfl) (wq nm)))))) trivial hb (P.mono (aP 1 97113612910608385 rfl hb)) S
  |false=>
   rw[hv]at hor
   have h1:d≠1:=fun e=>by rw[decide_eq_true e]at hv;injection hv
   have h2:d=2→ki=.I:=fun e=>by
    by_cases hki:ki=.I
    ·exact hki
    ·rw[decide_eq_true e,decide_eq_false hki]at hv;simp at hv
   refine kT (K h0 h1 h2) fun p σ' ρ' e r=>?_
   exact yn p σ' ρ' (ao (aY (e:=0) h77 (decide_eq_false h0)) (ao hor e)) r
theorem re{b:Nat}{ρ:ay}(h:PG s q σ k)(hb:1≤b)(h73:ρ 73=some (.v (.loc s)))(h79:ρ 79=some (.v (.str (di .I)))):u9 s q σ k .I b (au af.toTab (ac af (n+2)) (n+2) (tl (tl (tl (tl (tl (tl ng)))))) ρ σ):=by
 refine f8 (dm (n:=n+1) (top:=2) h (by decide) (by decide)) fun d σ1 e1 hd P1 S1=>?_
 exact qF (.lit d) σ1 ρ (aD (df h79 ((z9 .I).trans rfl)) (aN (bz (aF (d:=.str "int") (d3:=.none) rfl (aJ (vs:=[.loc s,.int ((2:Nat):Int)]) (aB (aa h73) rfl) e1) rfl) (w4 d)))) rfl hb (P1.mono (aP 0 84934913 rfl)) S1
theorem B7{ki:Ki}(h:PG s q σ k)(hk:k≤900):Bt s q σ k ki 1 ((ac af (n+3)).fn 673 [.loc s,.str (di ki),.int 0,.loc q] σ):=by
 refine f8 (dm (n:=n+1) (top:=3) h (by decide) (by decide)) fun d σ1 e1 hd P1 S1=>?_
 have way:ak af.toTab (ac af (n+2)) (.ite (.cmp .Gt (.var 78) (.int 0)) (.call 661 (.cons (.var 73) (.cons (.int 9) .nil))) (.call 661 (.cons (.var 73) (.cons (.int 3) .nil)))) (aq [73,79,78,80] [.loc s,.str (di ki),.int 0,.loc q]) σ=some (.int (d:Int),σ1):=
  bT (aQ (o:=.int 0) (k:=.int 0) rfl rfl rfl) (aJ (vs:=[.loc s,.int ((3:Nat):Int)]) rfl e1)
 obtain⟨p,σ',ρ',e,r1,r2,r3,r4⟩:u9 s q σ1 k ki 1 (au af.toTab (ac af (n+2)) (n+2) (tl ng) ((aq [73,79,78,80] [.loc s,.str (di ki),.int 0,.loc q]).set 77 (.v (.int (d:Int)))) σ1):=by
  refine oJ (n:=n+1) P1 hk (Nat.le_refl _) rfl rfl rfl fun h0 h1 h2=>?_
  have hI:ki=.I:=h2 (by lia)
  have hd2:d=2:=by lia
  clear h hk e1 hd S1 way h0 h1 h2;subst hI;subst hd2
  refine kT (re (n:=n) (b:=1) (ρ:=(aq [73,79,78,80] [.loc s,.str (di .I),.int 0,.loc q]).set 77 (.v (.int ((2:Nat):Int)))) P1 (Nat.le_refl _) rfl rfl) fun p σ' ρ' e r=>?_
  exact yn p σ' ρ' (ao (aY (d:=2) (e:=3) rfl rfl) (ao (aY (d:=2) (e:=4) rfl rfl) (ao (ba (aY (d:=2) (e:=5) rfl rfl)) e))) r
 exact jT p σ' (aI (fi:=⟨[73,79,78,80],ng⟩) (ρ':=ρ') rfl rfl (ag way e)) r1 r2 r3 (S1.trans r4)
end
end Mine
namespace Mine
open PySem PySem.W
noncomputable def w7:List Pt→Pt|[]=>.lnil|p::r=>.lcons p (w7 r)
theorem lf:∀ps:List Pt,(eT (w7 ps)).2=ps.map aM
 |[]=>rfl
 |p::r=>by show aM p::(eT (w7 r)).2=_;refine eR (lf r) ?_;rfl
theorem qq:∀ps:List Pt,(w7 ps).isL|[]=>trivial|_::_=>trivial
theorem x5(ps:List Pt):aM (w7 ps)=.inst 207 [(1,.none),(6,.lst (ps.map aM))]:=by rw[mv (qq ps),lf]
theorem u7:∀{ps:List Pt},(∀p∈ps,cZ .I p)→cZ .L (w7 ps)
 |[],_=>rfl
 |p::r,h=>p6 rfl (h p (List.mem_cons_self ..)) (qq r) (u7 fun x m=>h x (List.mem_cons_of_mem _ m))
theorem ue:∀ps:List Pt,sz (w7 ps)=1+ps.length+bS ps
 |[]=>rfl
 |p::r=>by show 1+sz p+sz (w7 r)=_;rw[ue r,bk,List.length_cons];exact Nat.le_antisymm (bw 0 1967424776887319006475548136570881 rfl) (bw 0 1969374437246285185648237801111553 rfl)
noncomputable def Bp(c:Con):List Pt→Pt|[]=>.con c .wild .wild|[p]=>.con c p .wild|p::q::_=>.con c p q
theorem xE{c:Con}{ps:List Pt}(h:bQ (cK c) ps):aM (Bp c ps)=.inst 153 [(1,.none),(2,.str c.str),(5,.lst (ps.map aM))]∧cZ c.ki (Bp c ps)∧sz (Bp c ps)=1+bS ps:=by
 have hl:=aC h
 match ps,h,hl with
 |[],h,hl=>clear h;induction c using Con.casesOn<;>first|(injection hl;done)|exact⟨rfl,(v3 rfl trivial trivial (fun _=>rfl) (fun _=>rfl)),rfl⟩
 |[p],h,hl=>induction c using Con.casesOn<;>first|(cases hl;done)|exact⟨rfl,⟨rfl,h.1,trivial,fun e=>(by injection e),fun _=>rfl⟩,rfl⟩
 |[p,q],h,hl=>induction c using Con.casesOn<;>first|(cases hl;done)|exact⟨rfl,⟨rfl,h.1,h.2.1,fun e=>(by cases e),fun e=>absurd e (by decide)⟩,Nat.add_assoc 1 (sz p) (sz q)⟩
 |_::_::_::_,h,hl=>exact nomatch c<;>cases hl
noncomputable def bd:Ki→Nat|.L=>5|.T=>3|.N=>3|.P=>3|.I=>3
theorem Dd(ki:Ki):3≤bd ki:=by induction ki using Ki.casesOn<;>decide
section
variable {n s q k:Nat}{σ:Store}
theorem uV{ki:Ki}{e:Es}{ρ:ay}(h:PG s q σ k)(hk:k≤900)(he:b8 af.toTab (ac af (n+3)) e ρ σ=some ([.loc s,.str (di ki),.int 0,.loc q],σ)):
  ∃p σ',ak af.toTab (ac af (n+3)) (.call 673 e) ρ σ=some (aM p,σ')∧cZ ki p∧sz p≤1∧PG s q σ' (k+1)∧SameN (ve s q) σ σ':=by
 refine eB (B7 (n:=n) (ki:=ki) h hk) fun p σ' e1 r=>?_
 exact dA p σ' (aJ he e1) r
theorem lz{ρ:ay}(h73:ρ 73=some (.v (.loc s)))(h80:ρ 80=some (.v (.loc q)))(h78:ρ 78=some (.v (.int 1))):∀{ks:List Ki}{k:Nat}{σ:Store},PG s q σ k→k+ks.length≤900→
  ∃ps σ',compLoop (fun x σ=>(cP [85] x (bo ρ [78,80,73])).bind fun ρ'=>(ak af.toTab (ac af (n+3)) (.call 673 (.cons (.var 73) (.cons (.var 85) (.cons (.bin .Sub (.var 78) (.int 1)) (.cons (.var 80) .nil))))) ρ' σ).bind fun(d,σ)=>some ([d],σ)) (ks.map fun k=>V.str (di k)) σ=some (ps.map aM,σ')∧
   bQ ks ps∧bS ps≤ks.length∧PG s q σ' (k+ks.length)∧SameN (ve s q) σ σ'
 |[],k,σ,h,_=>jT ([]) σ rfl trivial (Nat.le_refl _) h (SameN.refl _ _)
 |ki::ks,k,σ,h,hk=>by
  have hlen:(ki::ks).length=ks.length+1:=rfl
  have k73:=ci (fv:=[78,80,73]) h73 rfl
  have k80:=ci (fv:=[78,80,73]) h80 rfl
  have k78:=ci (fv:=[78,80,73]) h78 rfl
  refine s7 (uV (n:=n) (ki:=ki) (e:=.cons (.var 73) (.cons (.var 85) (.cons (.bin .Sub (.var 78) (.int 1)) (.cons (.var 80) .nil)))) (ρ:=(bo ρ [78,80,73]).set 85 (.v (.str (di ki)))) h (aP 1 4250280958497760463040769 rfl hk) (b5 (aa k73) (aF (aa (x:=85) rfl) (bh (op:=.Sub) (o:=.int 1) (k:=.int 1) (d:=.int 0) (aa k78) rfl rfl) (aa k80)))) fun p σ1 e1 o1 z1 P1 S1=>?_
  refine s7 (lz h73 h80 h78 (ks:=ks) P1 (bw 2 34800518553471318130556717136709491359745 rfl hk (Nat.le_of_eq hlen.symm))) fun ps σ2 e2 o2 z2 P2 S2=>?_
  refine jT (p::ps) σ2 (cJ (ys:=[aM p]) ?_ e2) ⟨o1,o2⟩ (by rw[bk];exact dW 3 8762714927599788393630023681 rfl (Nat.le_of_eq hlen.symm) z1 z2) ((show k+(ki::ks).length=k+1+ks.length by rw[hlen];exact Nat.le_antisymm (aP 0 6216093412605575169 rfl) (aP 0 28913127205693816833 rfl))▸P2) (S1.trans S2)
  show(ak _ _ _ _ _).bind _=_
  refine eR e1 ?_;rfl
theorem lJ{ρ:ay}(h73:ρ 73=some (.v (.loc s)))(h80:ρ 80=some (.v (.loc q))):∀{l:List V}{k:Nat}{σ:Store},PG s q σ k→k+l.length≤900→
  ∃ps σ',compLoop (fun x σ=>(cP [31] x (bo ρ [80,73])).bind fun ρ'=>(ak af.toTab (ac af (n+3)) (.call 673 (.cons (.var 73) (.cons (.str "I") (.cons (.int 0) (.cons (.var 80) .nil))))) ρ' σ).bind fun(d,σ)=>some ([d],σ)) l σ=some (ps.map aM,σ')∧
   (∀p∈ps,cZ .I p)∧bS ps≤l.length∧ps.length=l.length∧PG s q σ' (k+l.length)∧SameN (ve s q) σ σ'
 |[],k,σ,h,_=>Bm ([]) σ rfl (fun _ h=>(by cases h)) (Nat.le_refl _) rfl h (SameN.refl _ _)
 |x::l,k,σ,h,hk=>by
  have hlen:(x::l).length=l.length+1:=rfl
  have k73:=ci (fv:=[80,73]) h73 rfl
  have k80:=ci (fv:=[80,73]) h80 rfl
  refine s7 (uV (n:=n) (ki:=.I) (e:=.cons (.var 73) (.cons (.str "I") (.cons (.int 0) (.cons (.var 80) .nil)))) (ρ:=(bo ρ [80,73]).set 31 (.v x)) h (aP 1 4250280958497760463040769 rfl hk) (b5 (aa k73) (aF (d:=.str (di .I)) (d2:=.int 0) rfl rfl (aa k80)))) fun p σ1 e1 o1 z1 P1 S1=>?_
  refine Cm (lJ h73 h80 (l:=l) P1 (bw 2 34800518553471318130556717136709491359745 rfl hk (Nat.le_of_eq hlen.symm))) fun ps σ2 e2 o2 z2 l2 P2 S2=>?_
  refine Bm (p::ps) σ2 (cJ (ys:=[aM p]) ?_ e2) (fun y hy=>(List.mem_cons.mp hy).elim (fun e=>e▸o1) (o2 y)) (by rw[bk];exact dW 3 8762714927599788393630023681 rfl (Nat.le_of_eq hlen.symm) z1 z2) (by rw[List.length_cons,l2];rfl) ((show k+(x::l).length=k+1+l.length by rw[hlen];exact Nat.le_antisymm (aP 0 6216093412605575169 rfl) (aP 0 28913127205693816833 rfl))▸P2) (S1.trans S2)
  show(ak _ _ _ _ _).bind _=_
  refine eR e1 ?_;rfl
noncomputable abbrev Bd(s:Nat)(ki:Ki)(q:Nat):ay:=aq [73,79,78,80] [.loc s,.str (di ki),.int 1,.loc q]
noncomputable abbrev kH(s:Nat)(ki:Ki)(q d:Nat):ay:=(Bd s ki q).set 77 (.v (.int (d:Int)))
theorem rC{ki:Ki}(h:ki≠.I):0<(cV ki).length∧(cV ki).length<1000:=by induction ki using Ki.casesOn<;>first|exact absurd rfl h|decide
theorem BM{c:Con}(h:c.ki=.P):c=.Pr:=by induction c using Con.casesOn<;>first|rfl|exact nomatch h
theorem Ak{a b:Ki}{ps:List Pt}(o:bQ [a,b] ps):∃x y,ps=[x,y]∧cZ a x∧cZ b y:=by
 induction ps using List.casesOn with
 |nil=>exact o.elim
 |cons x l=>induction l using List.casesOn with
  |nil=>exact o.2.elim
  |cons y l=>induction l using List.casesOn with
   |nil=>exact⟨x,y,rfl,o.1,o.2.1⟩
   |cons=>exact o.2.2.elim
theorem AO{ki:Ki}(h:PG s q σ k)(hk:k≤800):Bt s q σ k ki (bd ki) ((ac af (n+6)).fn 673 [.loc s,.str (di ki),.int 1,.loc q] σ):=by
 have hb:=Dd ki
 refine f8 (dm (n:=n+4) (top:=9) h (by decide) (by decide)) fun d σ1 e1 hd P1 S1=>?_
 have way:ak af.toTab (ac af (n+5)) (.ite (.cmp .Gt (.var 78) (.int 0)) (.call 661 (.cons (.var 73) (.cons (.int 9) .nil))) (.call 661 (.cons (.var 73) (.cons (.int 3) .nil)))) (Bd s ki q) σ=some (.int (d:Int),σ1):=
  cA (aQ (o:=.int 1) (k:=.int 0) rfl rfl rfl) (aJ (vs:=[.loc s,.int ((9:Nat):Int)]) rfl e1)
 have inner:∀{σ:Store}{k:Nat},PG s q σ k→k≤900→∀{ρ:ay},ρ 73=some (.v (.loc s))→ρ 79=some (.v (.str (di ki)))→ρ 78=some (.v (.int 1))→ρ 80=some (.v (.loc q))→
   ∃p σ',ak af.toTab (ac af (n+5)) (.call 673 (.cons (.var 73) (.cons (.var 79) (.cons (.bin .Sub (.var 78) (.int 1)) (.cons (.var 80) .nil))))) ρ σ=some (aM p,σ')∧cZ ki p∧sz p≤1∧PG s q σ' (k+1)∧SameN (ve s q) σ σ':=fun{σ k} h hk {ρ} h73 h79 h78 h80=>
  uV (n:=n+2) (ki:=ki) h hk (b5 (aa h73) (aF (aa h79) (bh (op:=.Sub) (o:=.int 1) (k:=.int 1) (d:=.int 0) (aa h78) rfl rfl) (aa h80)))
 obtain⟨p,σ',ρ',e,r1,r2,r3,r4⟩:u9 s q σ1 k ki (bd ki) (au af.toTab (ac af (n+5)) (n+5) (tl ng) (kH s ki q d) σ1):=by
  refine oJ (n:=n+4) P1 (bI 1 922374094583432229121 rfl hk) (bI 1 4748232259 rfl hb) rfl rfl rfl fun h0 h1 h2=>?_
  refine s7 (inner P1 (bI 1 922374094583432229121 rfl hk) (ρ:=kH s ki q d) rfl rfl rfl rfl) fun p0 σ2 e2 o2 z2 P2 S2=>?_
  by_cases h3:d=3
  ·exact qF (.lazy p0) σ2 _ (aD (aY (e:=3) rfl (decide_eq_true h3)) (aN (bz (aB (d2:=.none) e2 rfl) (u1 p0)))) o2 (by show 1+sz p0≤_;exact aP 2 28895963482030182403 rfl hb z2) (P2.mono (aP 1 97676562864029699 rfl hb)) S2
  by_cases h4:d=4
  ·refine f8 (ji (wf:=n+5) (c:=ac af (n+5)) (ρ:=kH s ki q d) P1 (bI 1 922374094585109950721 rfl hk) rfl) fun σ3 nm e3 P3 S3 hnm=>?_
   refine s7 (inner P3 (bI 1 3778044291413738415996929 rfl hk) (ρ:=(kH s ki q d).set 81 (.v (.str nm))) rfl rfl rfl rfl) fun p1 σ4 e4 o4 z4 P4 S4=>?_
   exact qF (.as nm p1) σ4 _ (ao (aY (e:=3) rfl (decide_eq_false h3)) (aD (aY (e:=4) rfl (decide_eq_true h4)) (bg e3 (ag (hnm _ _ rfl) (aN (bz (aF (d3:=.none) (aa rfl) e4 rfl) (zB nm p1))))))) o4 (by show 1+sz p1≤_;exact aP 2 28895963482030182403 rfl hb z4) (P4.mono (aP 1 400101215889928486915 rfl hb)) (S3.trans S4)
  have hand:ak af.toTab (ac af (n+5)) (.bop .And (.cons (.cmp .Eq (.var 77) (.int 5)) (.cons (.cmp .NotEq (.var 79) (.str "N")) .nil))) (kH s ki q d) σ1=some (.bool (decide (d=5)&& !decide (ki=.N)),σ1):=by
   by_cases h5:d=5
   ·refine eR (decide_eq_true h5) ?_;exact aU (aY (e:=5) rfl (decide_eq_true h5)) (bY (g8 rfl (Am ki)))
   ·refine eR (decide_eq_false h5) ?_;exact ba (aY (e:=5) rfl (decide_eq_false h5))
  cases h5:(decide (d=5)&& !decide (ki=.N))with
  |true=>
   rw[h5]at hand
   have hN:ki≠.N:=fun e=>by rw[decide_eq_true e]at h5;simp at h5
   exact qF (.bang p0) σ2 _ (ao (aY (e:=3) rfl (decide_eq_false h3)) (ao (aY (e:=4) rfl (decide_eq_false h4)) (aD hand (aN (bz (aB (d2:=.none) e2 rfl) (gF p0)))))) ⟨o2,fun e=>absurd e hN⟩ (by show 1+sz p0≤_;exact aP 2 28895963482030182403 rfl hb z2) (P2.mono (aP 1 97676562864029699 rfl hb)) S2
  |false=>
   replace hand:=h5▸hand
   by_cases hI:ki=.I
   ·clear h e1 S1 way inner h2 σ2 e2 o2 P2 S2 h5;subst hI
    refine kT (re (n:=n+3) (b:=bd .I) (ρ:=(aq [73,79,78,80] [.loc s,.str (di .I),.int 1,.loc q]).set 77 (.v (.int (d:Int)))) P1 (by decide) rfl rfl) fun p σ' ρ' e r=>?_
    exact yn p σ' ρ' (ao (aY (e:=3) rfl (decide_eq_false h3)) (ao (aY (e:=4) rfl (decide_eq_false h4)) (ao hand e))) r
   have skI:ak af.toTab (ac af (n+5)) (.cmp .Eq (.var 79) (.str "I")) (kH s ki q d) σ1=some (.bool false,σ1):=df rfl ((z9 ki).trans (decide_eq_false hI))
   have hLq:ak af.toTab (ac af (n+5)) (.bop .And (.cons (.cmp .Eq (.var 79) (.str "L")) (.cons (.cmp .Eq (.var 77) (.int 6)) .nil))) (kH s ki q d) σ1=some (.bool (decide (ki=.L)&&decide (d=6)),σ1):=by
    by_cases hL:ki=.L
    ·refine eR (decide_eq_true hL) ?_;exact aU (df rfl ((CH ki).trans (decide_eq_true hL))) (bY (aY (e:=6) rfl rfl))
    ·refine eR (decide_eq_false hL) ?_;exact ba (df rfl ((CH ki).trans (decide_eq_false hL)))
   cases hL6:(decide (ki=.L)&&decide (d=6))with
   |true=>
    replace hLq:=hL6▸hLq
    have hL:ki=.L:=by by_cases hL:ki=.L;exact hL;rw[decide_eq_false hL]at hL6;exact bE hL6
    clear h e1 S1 way inner h2 σ2 e2 o2 P2 S2 h5 hI hL6;subst hL
    refine f8 (dm (n:=n+4) (top:=3) P1 (by decide) (by decide)) fun d3 σ3 e3 hd3 P3 S3=>?_
    have lr:((List.range d3).map fun(i:Nat)=>V.int (i:Int)).length=d3:=by rw[List.length_map,List.length_range]
    refine Cm (lJ (n:=n+2) (ρ:=(aq [73,79,78,80] [.loc s,.str (di .L),.int 1,.loc q]).set 77 (.v (.int (d:Int)))) rfl rfl (l:=(List.range d3).map fun(i:Nat)=>V.int (i:Int)) P3 (by refine eR lr ?_;exact aP 2 8889162172733773290230655801901057 rfl hk hd3)) fun ps σ4 e4 o4 z4 l4 P4 S4=>?_
    rw[lr]at z4 l4 P4
    refine qF (w7 ps) σ4 _ (ao (aY (e:=3) rfl (decide_eq_false h3)) (ao (aY (e:=4) rfl (decide_eq_false h4)) (ao hand (ao skI (aD hLq (aN (bz (aB (d2:=.none) (cM (de (n:=d3) (aJ (vs:=[.loc s,.int ((3:Nat):Int)]) rfl e3) (bI 1 129353181429121997091073 rfl hd3)) (by rw[lr];show _≤1000000;exact bI 1 129353181429121997091073 rfl hd3) e4) rfl) (by rw[x5];exact mr _)))))))) (u7 o4) (by rw[ue,l4];show _≤5;exact aP 2 78889153239803387535687681 rfl hd3 z4) (P4.mono (by show _≤k+5;exact aP 1 2021161475963557789697 rfl hd3)) (S3.trans S4)
   |false=>
    rw[hL6]at hLq
    have lc:((cV ki).map mS).length=(cV ki).length:=List.length_map _
    have lc2:=rC hI
    refine yq (yG (n:=n+3) (l:=(cV ki).map mS) P1 (by refine eR lc ?_;exact lc2.1) (by refine eR lc ?_;exact lc2.2)) fun d3 σ3 v e3 hv P3 S3=>?_
    rw[List.getElem?_map]at hv
    refine aT (Option.map_eq_some_iff.mp hv) fun c hc z2=>?_;subst z2
    have hck:=oU (show c∈cV ki from List.mem_of_getElem? hc)
    have fl:(cK c).length≤2:=by unfold cK;refine eR List.length_take ?_;exact Nat.min_le_right _ 2
    refine s7 (lz (n:=n+2) (ρ:=((kH s ki q d).set 82 (.v (.str c.str))).set 83 (.v (.str (da c)))) rfl rfl rfl (ks:=cK c) P3 (aP 2 2066145046424704926611844382721 rfl hk fl)) fun ps σ4 e4 o4 z4 P4 S4=>?_
    refine o6 (xE o4) fun m1 m2 m3=>?_
    rw[hck]at m2
    have eC:ak af.toTab (ac af (n+5)) (.comp (.call 673 (.cons (.var 73) (.cons (.var 85) (.cons (.bin .Sub (.var 78) (.int 1)) (.cons (.var 80) .nil))))) [85] (.val (.var 83)) [78,80,73]) (((kH s ki q d).set 82 (.v (.str c.str))).set 83 (.v (.str (da c)))) σ3=some (.lst (ps.map aM),σ4):=
     cM (c8 (aa rfl) (iU c)) (by rw[List.length_map];exact Nat.le_trans fl (by decide)) e4
    have hPq:∀{ρ:ay},ρ 79=some (.v (.str (di ki)))→ρ 77=some (.v (.int (d:Int)))→ak af.toTab (ac af (n+5)) (.bop .And (.cons (.cmp .Eq (.var 79) (.str "P")) (.cons (.cmp .Eq (.var 77) (.int 6)) .nil))) ρ σ4=some (.bool (decide (ki=.P)&&decide (d=6)),σ4):=fun h79 h77=>by
     by_cases hP:ki=.P
     ·refine eR (decide_eq_true hP) ?_;exact aU (df h79 ((Cl ki).trans (decide_eq_true hP))) (bY (aY (e:=6) h77 rfl))
     ·refine eR (decide_eq_false hP) ?_;exact ba (df h79 ((Cl ki).trans (decide_eq_false hP)))
    have fin:∀{E:E}{pt:Pt},ak af.toTab (ac af (n+5)) E ((((kH s ki q d).set 82 (.v (.str c.str))).set 83 (.v (.str (da c)))).set 84 (.v (.lst (ps.map aM)))) σ4=some (aM pt,σ4)→True:=fun _=>trivial
    cases hP6:(decide (ki=.P)&&decide (d=6))with
    |true=>
     have hP:ki=.P:=by by_cases hP:ki=.P;exact hP;rw[decide_eq_false hP]at hP6;exact bE hP6
     have hcP:c=.Pr:=BM (hck.trans hP)
     subst hcP
     obtain⟨x,y,rfl,ox,oy⟩:=Ak (a:=.T) (b:=.I) o4
     refine qF (.tup x y) σ4 _ (ao (aY (e:=3) rfl (decide_eq_false h3)) (ao (aY (e:=4) rfl (decide_eq_false h4)) (ao hand (ao skI (ao hLq (eN (aJ (aB (aa rfl) (i4 ki hI rfl)) e3) (ag eC (aN (cA ((hPq rfl rfl).trans (by rw[hP6])) (bz (aB (d2:=.none) (aa rfl) rfl) (yV x y))))))))))) ⟨hP,ox,oy⟩ ?_ (P4.mono (bw 2 123154037896026921385987 rfl hb fl)) (S3.trans S4)
     rw[bk,bk]at z4
     have h0:bS ([]:List Pt)=0:=rfl
     have h1:(cK Con.Pr).length=2:=rfl
     exact mC 3 148005818432432839903575046820724737 rfl hb fl z4
    |false=>
     refine qF (Bp c ps) σ4 _ (ao (aY (e:=3) rfl (decide_eq_false h3)) (ao (aY (e:=4) rfl (decide_eq_false h4)) (ao hand (ao skI (ao hLq (eN (aJ (aB (aa rfl) (i4 ki hI rfl)) e3) (ag eC (aN (bT ((hPq rfl rfl).trans (by rw[hP6])) (bz (aF (d3:=.none) (aa rfl) (aa rfl) rfl) (by rw[m1];exact jf _ _))))))))))) m2 (by rw[m3];exact bw 3 1832382066680549809950721 rfl hb fl z4) (P4.mono (bw 2 123154037896026921385987 rfl hb fl)) (S3.trans S4)
 exact jT p σ' (aI (fi:=⟨[73,79,78,80],ng⟩) (ρ':=ρ') rfl rfl (ag way e)) r1 r2 r3 (S1.trans r4)
theorem xF{ki:Ki}(h:PG s q σ k)(hk:k≤700):Bt s q σ k ki 5 ((ac af (n+7)).fn 680 [.loc s,.str (di ki),.int 1,.loc q] σ):=by
 have plain:∀{σ1:Store}{t:E},ak af.toTab (ac af (n+6)) (.bop .And (.cons (.cmp .Eq (.var 79) (.str "N")) (.cons (.cmp .Gt (.call 661 (.cons (.var 73) (.cons (.int 3) .nil))) (.int 0)) .nil))) (aq [73,79,78,80] [.loc s,.str (di ki),.int 1,.loc q]) σ=some (.bool false,σ1)→PG s q σ1 k→SameN (ve s q) σ σ1→
   Bt s q σ k ki 5 ((ac af (n+7)).fn 680 [.loc s,.str (di ki),.int 1,.loc q] σ):=fun{σ1 t} hf P1 S1=>by
  refine s7 (AO (n:=n) (ki:=ki) P1 (bI 1 807081944121069809921 rfl hk)) fun p σ2 e2 o2 z2 P2 S2=>?_
  have hb:bd ki≤5:=by clear h σ1 t hf P1 S1 σ2 e2 o2 P2 S2;induction ki using Ki.casesOn<;>decide
  exact jT p σ2 (aI (fi:=⟨[73,79,78,80],xG⟩) (ρ':=_) rfl rfl (ao hf (aN (aJ (b5 (d:=.loc s) (aa rfl) (aF (d:=.str (di ki)) (d2:=.int 1) (d3:=.loc q) (aa rfl) (aa rfl) (aa rfl))) e2)))) o2 (aP 2 8184838712840449 rfl z2 hb) (P2.mono (aP 1 523831326866161665 rfl hb)) (S1.trans S2)
 by_cases hN:ki=.N
 ·subst hN
  refine f8 (dm (n:=n+5) (top:=3) h (by decide) (by decide)) fun d σ1 e1 hd P1 S1=>?_
  have hand:ak af.toTab (ac af (n+6)) (.bop .And (.cons (.cmp .Eq (.var 79) (.str "N")) (.cons (.cmp .Gt (.call 661 (.cons (.var 73) (.cons (.int 3) .nil))) (.int 0)) .nil))) (aq [73,79,78,80] [.loc s,.str (di .N),.int 1,.loc q]) σ=some (.bool (decide (((d:Nat):Int)>0)),σ1):=
   aU (df rfl ((Am .N).trans rfl)) (bY (aQ (k:=.int 0) (aJ (vs:=[.loc s,.int ((3:Nat):Int)]) rfl e1) rfl rfl))
  by_cases hd0:((d:Nat):Int)>0
  ·replace hand:=(decide_eq_true hd0)▸hand
   refine s7 (AO (n:=n) (ki:=.T) P1 (bI 1 807081944121069809921 rfl hk)) fun p σ2 e2 o2 z2 P2 S2=>?_
   refine f8 (dm (n:=n+5) (top:=2) P2 (by decide) (by decide)) fun d3 σ3 e3 hd3 P3 S3=>?_
   have hz:sz p≤3:=z2
   have okc:cZ .N (.con .N p .wild):=v3 rfl o2 trivial (fun e=>(by injection e)) (fun _=>rfl)
   have e86:ak af.toTab (ac af (n+6)) (.new 153 (.cons (.str "M.N") (.cons (.list (.cons (.call 673 (.cons (.var 73) (.cons (.str "T") (.cons (.var 78) (.cons (.var 80) .nil))))) .nil)) (.cons .none .nil)))) (aq [73,79,78,80] [.loc s,.str (di .N),.int 1,.loc q]) σ1=some (aM (.con .N p .wild),σ2):=
    bz (aF (d:=.str "M.N") (d3:=.none) rfl (cD (az (aJ (b5 (d:=.loc s) (aa rfl) (aF (d:=.str (di .T)) (d2:=.int 1) (d3:=.loc q) rfl (aa rfl) (aa rfl))) e2)) o7) rfl) (jf _ _)
   have et:=aY (T:=af.toTab) (c:=ac af (n+6)) (σ:=σ3) (ρ:=(ay.nil).set 0 (.v (.int (d3:Int)))) (x:=0) (d:=d3) (e:=0) rfl rfl
   have ec:∀{ρ:ay},ρ 73=some (.v (.loc s))→ak af.toTab (ac af (n+6)) (.cmp .Eq (.call 661 (.cons (.var 73) (.cons (.int 2) .nil))) (.int 0)) ρ σ2=some (.bool (decide (d3=0)),σ3):=fun h73=>by
    refine aQ (o:=.int (d3:Int)) (k:=.int 0) (aJ (vs:=[.loc s,.int ((2:Nat):Int)]) (aB (aa h73) rfl) e3) rfl ?_
    show some (((d3:Nat):Int)==0)=_
    congr 1
    by_cases hde:d3=0
    ·clear h hk plain d σ1 e1 hd P1 S1 hd0 hand p σ2 e2 o2 z2 P2 S2 σ3 e3 hd3 P3 S3 hz okc e86 et h73;subst hde;rfl
    ·refine eR (decide_eq_false hde) ?_;exact beq_eq_false_iff_ne.mpr fun h=>hde (by lia)
   by_cases h3:d3=0
   ·exact jT (.bang (.con .N p .wild)) σ3 (aI (fi:=⟨[73,79,78,80],xG⟩) (ρ':=_) rfl rfl (aD hand (ag e86 (aN (cA ((ec rfl).trans (by rw[decide_eq_true h3])) (bz (aB (d2:=.none) (aa rfl) rfl) (gF _))))))) ⟨okc,fun _=>rfl⟩ (by show 1+(1+sz p+0)≤5;exact bI 1 1996886329006730874881 rfl hz) (P3.mono (by show k+3≤_;exact bI 0 1997166886913 rfl)) ((S1.trans S2).trans S3)
   ·exact jT (.con .N p .wild) σ3 (aI (fi:=⟨[73,79,78,80],xG⟩) (ρ':=_) rfl rfl (aD hand (ag e86 (aN (bT ((ec rfl).trans (by rw[decide_eq_false h3])) (aa rfl)))))) okc (by show 1+sz p+0≤5;exact bI 1 487521076417658881 rfl hz) (P3.mono (by show k+3≤_;exact bI 0 1997166886913 rfl)) ((S1.trans S2).trans S3)
  ·replace hand:=(decide_eq_false hd0)▸hand
   exact plain (t:=.none) hand P1 S1
 ·exact plain (t:=.none) (ba (df rfl ((Am ki).trans (decide_eq_false hN)))) h (SameN.refl _ _)
end
end Mine
namespace Mine
open PySem PySem.W
theorem vP{T:Tab}{c:Calls}{ρ:ay}{σ σ1:Store}{as:Es}{vs:List V}(h:b8 T c as ρ σ=some (vs,σ1))(l:vs.length≤100):ak T c (.tupi as) ρ σ=some (.tup (some σ1.nid) vs,⟨σ1.cells,σ1.nid+1⟩):=by
 show(b8 T c as ρ σ).bind _=_;refine eR h ?_;exact if_pos l
theorem AB(k:Ki){σ:Store}:Ag σ (.str (di k)) (.str "TL")=some (decide (k=.T∨k=.L)):=by induction k using Ki.casesOn<;>kernel_rfl
noncomputable def kC:Ki→Con|.L=>.Nil|.T=>.A|.N=>.N|.P=>.Pr|.I=>.A
theorem vg{k:Ki}(hk:k≠.I):∃r,(cV k).map mS=mS (kC k)::r:=by induction k using Ki.casesOn<;>first|exact absurd rfl hk|exact⟨_,rfl⟩
noncomputable abbrev yp(s:Nat):Nat→Prop:=fun j=>j=s
theorem SameN.nid{P:Nat→Prop}{σ σ':Store}(h:SameN P σ σ')(i:Nat):SameN P σ ⟨σ'.cells,i⟩:=⟨h.len,h.get⟩
section
variable {s:Nat}
theorem mE{n:Nat}{σ:Store}{top:Nat}(h:du σ s)(ht:0<top)(ht':top<1000):
  ∃(d:Nat)(σ':Store),(ac af (n+1)).fn 661 [.loc s,.int (top:Int)] σ=some (.int (d:Int),σ')∧d<top∧du σ' s∧SameN (yp s) σ σ':=by
 refine f8 (qt (n:=n) h (top:=(top:Int)) (by lia) (by lia)) fun d σ' e hd P S=>?_
 exact gi d σ' e (by lia) P S.weak
theorem yJ{n:Nat}{σ:Store}{l:List V}(h:du σ s)(hl:0<l.length)(hl':l.length<1000):∃(d:Nat)(σ':Store)(v:V),(ac af (n+2)).fn 668 [.loc s,.lst l] σ=some (v,σ')∧l[d]? =some v∧du σ' s∧SameN (yp s) σ σ':=by
 refine f8 (mE (n:=n) h hl hl') fun d σ' e hd P S=>?_
 have hv:l[d]? =some l[d]:=List.getElem?_eq_getElem hd
 refine wS d σ' (l[d]) ?_ hv P S
 refine aI (fi:=⟨[73,76],wF⟩) (ρ':=_) rfl rfl (aN (aH (o:=.lst l) (k:=.int (d:Int)) (aa rfl) (aJ (vs:=[.loc s,.int (l.length:Int)]) (aB (aa rfl) (bH (vs:=[.lst l]) (az (aa rfl)) ?_)) e) (dP (by lia) hv)))
 show(if l.length≤bq then some (V.int (l.length:Nat),σ)else none)=_
 rw[if_pos (by exact bI 1 19343433593129714360398131457 rfl hl')]
noncomputable def fm(s N d:Nat)(ki:Ki):Prop:=∀n σ,N≤n→du σ s→∃w σ',(ac af n).fn 685 [.loc s,.str (di ki),.int (d:Int)] σ=some (aG w,σ')∧hV ki w∧du σ' s∧SameN (yp s) σ σ'
noncomputable def BY(id:Nat)(c:Con):List Wo→Wo|[]=>.con id c .never .never|[a]=>.con id c a .never|a::b::_=>.con id c a b
theorem wz{id:Nat}{c:Con}{ws:List Wo}(h:cE (cK c) ws):aG (BY id c ws)=.tup (some id) [.str c.str,.lst (ws.map aG)]∧hV c.ki (BY id c ws):=by
 have hl:=dz h
 match ws,h,hl with
 |[],h,hl=>clear h;induction c using Con.casesOn<;>first|(cases hl;done)|exact⟨rfl,rfl,fun e=>absurd e (by decide),fun e=>absurd e (by decide)⟩
 |[p],h,hl=>induction c using Con.casesOn<;>first|(cases hl;done)|exact p6 rfl rfl (fun _=>h.1) (fun e=>absurd e (by decide))
 |[p,q],h,hl=>induction c using Con.casesOn<;>first|(cases hl;done)|exact⟨rfl,rfl,fun _=>h.1,fun _=>h.2.1⟩
 |_::_::_::_,h,hl=>exact nomatch c<;>cases hl
theorem lG{N n d:Nat}{ρ:ay}(hn:N≤n)(h73:ρ 73=some (.v (.loc s)))(h78:ρ 78=some (.v (.int (d:Int)))):∀{ks:List Ki}{σ:Store},(∀k∈ks,fm s N (d-1) k)→du σ s→
  ∃ws σ',compLoop (fun x σ=>(cP [85] x (bo ρ [78,73])).bind fun ρ'=>(ak af.toTab (ac af n) (.call 685 (.cons (.var 73) (.cons (.var 85) (.cons (.blt .max (.cons (.int 0) (.cons (.bin .Sub (.var 78) (.int 1)) .nil))) .nil)))) ρ' σ).bind fun(d,σ)=>some ([d],σ)) (ks.map fun k=>V.str (di k)) σ=some (ws.map aG,σ')∧
   cE ks ws∧du σ' s∧SameN (yp s) σ σ'
 |[],σ,_,h=>gi ([]) σ rfl trivial h (SameN.refl _ _)
 |ki::ks,σ,hv,h=>by
  have k73:=ci (fv:=[78,73]) h73 rfl
  have k78:=ci (fv:=[78,73]) h78 rfl
  refine f8 (hv ki (List.mem_cons_self ..) n σ hn h) fun w σ1 e1 o1 P1 S1=>?_
  refine f8 (lG hn h73 h78 (ks:=ks) (fun k m=>hv k (List.mem_cons_of_mem _ m)) P1) fun ws σ2 e2 o2 P2 S2=>?_
  refine gi (w::ws) σ2 (cJ (ys:=[aG w]) ?_ e2) ⟨o1,o2⟩ P2 (S1.trans S2)
  have em:ak af.toTab (ac af n) (.blt .max (.cons (.int 0) (.cons (.bin .Sub (.var 78) (.int 1)) .nil))) ((bo ρ [78,73]).set 85 (.v (.str (di ki)))) σ=some (.int ((d-1:Nat):Int),σ):=by
   refine bH (vs:=[.int 0,.int ((d:Int)-1)]) (aB rfl (bh (op:=.Sub) (k:=.int 1) (aa k78) rfl rfl)) ?_
   show some (V.int (if(d:Int)-1>0 then(d:Int)-1 else 0),σ)=_
   congr 3
   split<;>lia
  show(ak _ _ _ _ _).bind _=_
  have:ak af.toTab (ac af n) (.call 685 (.cons (.var 73) (.cons (.var 85) (.cons (.blt .max (.cons (.int 0) (.cons (.bin .Sub (.var 78) (.int 1)) .nil))) .nil)))) ((bo ρ [78,73]).set 85 (.v (.str (di ki)))) σ=some (aG w,σ1):=
   aJ (aF (aa k73) (aa (x:=85) rfl) em) e1
  refine eR this ?_;rfl
theorem dQ{N d:Nat}{ki:Ki}(hN:5≤N)(hd:d≤100)(hf:∀c∈cV ki,(d=0→ki=.T∨ki=.L→c=kC ki)→∀k∈cK c,fm s N (d-1) k):fm s (N+1) d ki:=by
 intro n σ hn h
 refine Exists.elim (sx n 6 (aP 2 5063453430622996353 rfl hN hn)) fun j z1=>?_;subst z1
 have nev:∃b σ1,ak af.toTab (ac af (j+5)) (.bop .And (.cons (.cmp .NotEq (.var 79) (.str "N")) (.cons (.cmp .Eq (.call 661 (.cons (.var 73) (.cons (.int 5) .nil))) (.int 0)) .nil))) (aq [73,79,78] [.loc s,.str (di ki),.int (d:Int)]) σ=some (.bool b,σ1)∧(b=true→ki≠.N)∧du σ1 s∧SameN (yp s) σ σ1:=by
  by_cases hk:ki=.N
  ·exact gi false σ (ba (g8 (b:=true) rfl ((Am ki).trans (decide_eq_true hk)))) (fun e=>by injection e) h (SameN.refl _ _)
  ·refine f8 (mE (n:=j+4) (top:=5) h (by decide) (by decide)) fun d1 σ1 e1 h1 P1 S1=>?_
   exact gi _ σ1 (aU (g8 (b:=false) rfl ((Am ki).trans (decide_eq_false hk))) (bY (aQ (o:=.int (d1:Int)) (k:=.int 0) (aJ (vs:=[.loc s,.int ((5:Nat):Int)]) (aB (aa rfl) rfl) e1) rfl rfl))) (fun _=>hk) P1 S1
 obtain⟨b,σ1,e1,hb,P1,S1⟩:=nev
 induction b using Bool.casesOn with
 |true=>exact gi .never σ1 (aI (fi:=⟨[73,79,78],uG⟩) (ρ':=_) rfl rfl (aD e1 (aN rfl))) (hb rfl) P1 S1
 |false=>
  by_cases hI:ki=.I
  ·clear hf h hb;subst hI
   refine f8 (mE (n:=j+4) (top:=2) P1 (by decide) (by decide)) fun d2 σ2 e2 h2 P2 S2=>?_
   exact gi (.int σ2.nid d2) ⟨σ2.cells,σ2.nid+1⟩ (aI (fi:=⟨[73,79,78],uG⟩) (ρ':=_) rfl rfl (ao e1 (aD (df rfl ((z9 .I).trans rfl)) (aN (vP (vs:=[.int (d2:Int),.lst []]) (aB (aJ (vs:=[.loc s,.int ((2:Nat):Int)]) (aB (aa rfl) rfl) e2) rfl) rH))))) rfl P2 ((S1.trans S2).nid _)
  ·have lc:((cV ki).map mS).length=(cV ki).length:=List.length_map _
   have lc2:0<(cV ki).length∧(cV ki).length<1000:=by clear hf σ h σ1 P1 S1 e1 hb;induction ki using Ki.casesOn<;>first|exact absurd rfl hI|decide
   refine yq (yJ (n:=j+3) (l:=(cV ki).map mS) P1 (by refine eR lc ?_;exact lc2.1) (by refine eR lc ?_;exact lc2.2)) fun d3 σ3 v e3 hv P3 S3=>?_
   rw[List.getElem?_map]at hv
   refine aT (Option.map_eq_some_iff.mp hv) fun c hc z2=>?_;subst z2
   have hcm:c∈cV ki:=List.mem_of_getElem? hc
   have fin:∀(c:Con),c∈cV ki→(d=0→ki=.T∨ki=.L→c=kC ki)→∃w σ',au af.toTab (ac af (j+5)) (j+5) (.cons (.ret (.tupi (.cons (.var 82) (.cons (.comp (.call 685 (.cons (.var 73) (.cons (.var 85) (.cons (.blt .max (.cons (.int 0) (.cons (.bin .Sub (.var 78) (.int 1)) .nil))) .nil)))) [85] (.val (.var 83)) [78,73]) .nil)))) .nil)
     (((((aq [73,79,78] [.loc s,.str (di ki),.int (d:Int)])).set 82 (.v (.str c.str))).set 83 (.v (.str (da c))))) σ3=some (.ret (aG w),(((aq [73,79,78] [.loc s,.str (di ki),.int (d:Int)])).set 82 (.v (.str c.str))).set 83 (.v (.str (da c))),σ')∧hV ki w∧du σ' s∧SameN (yp s) σ σ':=fun c hcm hc0=>by
    have fl:(cK c).length≤2:=by unfold cK;refine eR List.length_take ?_;exact Nat.min_le_right _ 2
    refine f8 (lG (N:=N) (n:=j+5) (d:=d) (ρ:=(((aq [73,79,78] [.loc s,.str (di ki),.int (d:Int)])).set 82 (.v (.str c.str))).set 83 (.v (.str (da c)))) (aP 1 2219380950836345831681 rfl hn) rfl rfl (ks:=cK c) (hf c hcm hc0) P3) fun ws σ4 e4 o4 P4 S4=>?_
    refine cB (wz (id:=σ4.nid) o4) fun m1 m2=>?_
    rw[oU hcm]at m2
    refine gi (BY σ4.nid c ws) ⟨σ4.cells,σ4.nid+1⟩ (aN ?_) m2 P4 (((S1.trans S3).trans S4).nid _)
    refine eR m1 ?_
    exact vP (vs:=[.str c.str,.lst (ws.map aG)]) (aB (aa rfl) (cM (c8 (aa rfl) (iU c)) (by rw[List.length_map];exact Nat.le_trans fl (by decide)) e4)) rH
   have hand:ak af.toTab (ac af (j+5)) (.bop .And (.cons (.cmp .Eq (.var 78) (.int 0)) (.cons (.cmp .In (.var 79) (.str "TL")) .nil))) (((aq [73,79,78] [.loc s,.str (di ki),.int (d:Int)]).set 82 (.v (.str c.str))).set 83 (.v (.str (da c)))) σ3=some (.bool (decide (d=0)&&decide (ki=.T∨ki=.L)),σ3):=by
    by_cases h0:d=0
    ·rw[decide_eq_true h0];exact aU (aY (e:=0) rfl (decide_eq_true h0)) (bY (aQ (k:=.str "TL") (aa rfl) rfl (AB ki (σ:=σ3))))
    ·rw[decide_eq_false h0];exact ba (aY (e:=0) rfl (decide_eq_false h0))
   have skI:∀{ρ:ay},ρ 79=some (.v (.str (di ki)))→ak af.toTab (ac af (j+5)) (.cmp .Eq (.var 79) (.str "I")) ρ σ1=some (.bool false,σ1):=fun h=>df h ((z9 ki).trans (decide_eq_false hI))
   have un:ak af.toTab (ac af (j+5)) (.call 668 (.cons (.var 73) (.cons (.item (.glob 5) (.var 79)) .nil))) (aq [73,79,78] [.loc s,.str (di ki),.int (d:Int)]) σ1=some (mS c,σ3):=aJ (aB (aa rfl) (i4 ki hI rfl)) e3
   cases hw:(decide (d=0)&&decide (ki=.T∨ki=.L))with
   |true=>
    rw[hw]at hand
    refine Exists.elim (vg hI) fun r hr=>?_
    have hfm:kC ki∈cV ki:=by clear N d hN hd hf σ h j hn σ1 P1 S1 e1 hb lc lc2 d3 σ3 P3 S3 c hc e3 hv hcm fin hand skI un hw r hr;induction ki using Ki.casesOn<;>first|exact absurd rfl hI|exact List.mem_cons_self ..
    refine f8 (fin (kC ki) hfm (fun _ _=>rfl)) fun w σ' e q1 q2 q3=>?_
    refine gi w σ' ?_ q1 q2 q3
    have un2:ak af.toTab (ac af (j+5)) (.item (.item (.glob 5) (.var 79)) (.int 0)) (((aq [73,79,78] [.loc s,.str (di ki),.int (d:Int)]).set 82 (.v (.str c.str))).set 83 (.v (.str (da c)))) σ3=some (mS (kC ki),σ3):=
     aH (k:=.int (0:Nat)) (i4 ki hI rfl) rfl (by refine eR hr ?_;rfl)
    have eqρ:((((aq [73,79,78] [.loc s,.str (di ki),.int (d:Int)]).set 82 (.v (.str c.str))).set 83 (.v (.str (da c)))).set 82 (.v (.str (kC ki).str))).set 83 (.v (.str (da (kC ki))))=((aq [73,79,78] [.loc s,.str (di ki),.int (d:Int)]).set 82 (.v (.str (kC ki).str))).set 83 (.v (.str (da (kC ki)))):=by
     funext x;unfold ay.set;split
     ·rfl
     ·split<;>rfl
    exact aI (fi:=⟨[73,79,78],uG⟩) (ρ':=_) rfl rfl (ao e1 (ao (skI rfl) (eN un (cT hand (eN un2 rfl) (by refine eR eqρ ?_;exact e)))))
   |false=>
    replace hand:=hw▸hand
    refine f8 (fin c hcm (fun h0 h1=>by rw[decide_eq_true h0,decide_eq_true h1]at hw;injection hw)) fun w σ' e q1 q2 q3=>?_
    exact gi w σ' (aI (fi:=⟨[73,79,78],uG⟩) (ρ':=_) rfl rfl (ao e1 (ao (skI rfl) (eN un (ao hand e))))) q1 q2 q3
theorem fm.mono{N M d:Nat}{ki:Ki}(h:fm s N d ki)(l:N≤M):fm s M d ki:=fun n σ hn=>h n σ (Nat.le_trans l hn)
theorem uQ(d:Nat)(hd:d≤100):fm s 6 d .I:=dQ (N:=5) (by decide) hd fun c hc=>by exact nomatch hc
theorem qd:fm s 6 0 .T:=dQ (N:=5) (by decide) (by decide) fun c _ h k hk=>by rw[h rfl (.inl rfl)]at hk;exact nomatch hk
theorem pW:fm s 6 0 .L:=dQ (N:=5) (by decide) (by decide) fun c _ h k hk=>by rw[h rfl (.inr rfl)]at hk;exact nomatch hk
theorem kq{c:Con}{k:Ki}(h:k∈cK c):(k=.T∧c≠.Cons)∨k=.I∨(k=.L∧c=.Cons):=by
 induction c using Con.casesOn<;>(simp only [cK,Con.f1,Con.f2,Con.ar,List.take,List.mem_cons,List.not_mem_nil,or_false]at h)<;>(try contradiction)<;>(try rcases h with rfl|rfl)<;>(try subst h)<;>simp
theorem AA(ki:Ki):fm s 7 0 ki:=by
 induction ki using Ki.casesOn with
 |I=>exact(uQ 0 (by decide)).mono (by decide)
 |T=>exact qd.mono (by decide)
 |L=>exact pW.mono (by decide)
 |N=>exact dQ (N:=6) (by decide) (by decide) fun c hc _ k hk=>(kq hk).elim (fun h=>h.1▸qd) fun h=>h.elim (fun h=>h▸uQ 0 (by decide)) fun h=>h.1▸pW
 |P=>exact dQ (N:=6) (by decide) (by decide) fun c hc _ k hk=>(kq hk).elim (fun h=>h.1▸qd) fun h=>h.elim (fun h=>h▸uQ 0 (by decide)) fun h=>h.1▸pW
theorem AX(ki:Ki):fm s 8 1 ki:=dQ (N:=7) (by decide) (by decide) fun c hc _ k hk=>AA k
theorem AK(ki:Ki):fm s 9 2 ki:=dQ (N:=8) (by decide) (by decide) fun c hc _ k hk=>AX k
end
end Mine
namespace Mine
open PySem PySem.W
structure App(q:Nat)(l:List V)(σ σ':Store):Prop where
 same:SameN (yp q) σ σ'
 app:∀acc,σ.cells[q]? =some (.list acc)→σ'.cells[q]? =some (.list (acc++l))
theorem App.refl(q:Nat)(σ:Store):App q [] σ σ:=⟨SameN.refl _ _,fun acc h=>by rw[List.append_nil];exact h⟩
theorem App.trans{q:Nat}{l m:List V}{σ σ1 σ2:Store}(h:App q l σ σ1)(g:App q m σ1 σ2):App q (l++m) σ σ2:=
 ⟨h.same.trans g.same,fun acc e=>by rw[←List.append_assoc];exact g.app _ (h.app acc e)⟩
noncomputable def eF(q:Nat)(σ:Store)(m:Nat):Prop:=∃acc,σ.cells[q]? =some (.list acc)∧acc.length+m≤100000
theorem eF.mono{q m k:Nat}{σ:Store}(h:eF q σ m)(l:k≤m):eF q σ k:=by refine aT h fun acc a b=>?_;exact bi acc a (bw 2 32451870822839379618906885226436509697 rfl l b)
theorem eF.app{q m k:Nat}{l:List V}{σ σ':Store}(h:eF q σ m)(g:App q l σ σ')(hl:l.length+k≤m):eF q σ' k:=by
 refine aT h fun acc a b=>?_;exact⟨_,g.app acc a,by refine eR List.length_append ?_;exact dW 2 544452046419643193864914395793201992104411137 rfl hl b⟩
noncomputable def fM:R→V|.yes=>.bool true|.no=>.bool false|.nev=>bB
noncomputable def yI(b:Bool)(p:Pt):V:=match b with|true=>aM (.bang p)|false=>aM p
noncomputable def n8(b:Bool):Nat:=match b with|true=>1|false=>0
theorem qx(w:Wo)(k:jI):(ask w k).2.length≤k.2.length+1:=by induction w using Wo.casesOn<;>simp[ask]
theorem fZ(b:Bool)(w:Wo)(k:jI):(pre b w k).2.length≤k.2.length+n8 b:=by
 induction b using Bool.casesOn with
 |true=>exact qx w k
 |false=>exact Nat.le_refl _
theorem l8(x y:jI):(sq x y).2.length≤x.2.length+y.2.length:=by
 obtain⟨r,a⟩:=x;induction r using R.casesOn
 ·show(a++y.2).length≤_;refine eR List.length_append ?_;exact Nat.le_refl _
 ·exact Nat.le_add_right _ _
 ·exact Nat.le_add_right _ _
theorem jM{b:Bool}{w:Wo}{k:jI}{m j:Nat}(h:k.2.length≤m)(hj:m+1≤j):(pre b w (ask w k)).2.length≤j+n8 b:=by
 have:=fZ b w (ask w k);have:=qx w k;lia
theorem qY:∀(p:Pt)(b:Bool)(w:Wo),(fit p b w).2.length≤2*sz p+n8 b:=by
 have h0:n8 false=0:=rfl
 have h1:n8 true=1:=rfl
 intro p
 induction p with
 |wild=>exact fun b w=>Nat.le_trans (fZ b w (.yes,[])) (by exact bI 0 300648857601 rfl)
 |var s=>exact fun b w=>Nat.le_trans (fZ b w (.yes,[])) (by exact bI 0 302796341249 rfl)
 |lazy p _=>exact fun b w=>Nat.le_trans (fZ b w (.yes,[])) (by exact aP 0 4708796673173848065 rfl)
 |«as» s p ih=>exact fun b w=>Nat.le_trans (fZ b w (fit p false w)) (by have:=ih false w;exact dW 2 9437653653075156642630481277296590849 rfl (Nat.le_of_eq h0) this)
 |bang p ih=>exact fun b w=>Nat.le_trans (fZ b w (fit p true w)) (by have:=ih true w;exact dW 2 9437653653075458874085384934590267393 rfl (Nat.le_of_eq h1) this)
 |lit i=>exact fun b w=>jM (m:=0) (by induction w using Wo.casesOn<;>exact Nat.le_refl _) (by show 0+1≤2*1;decide)
 |con c p q ih1 ih2=>
  intro b w
  show(if c=.N then fit p b w.a0 else _:jI).2.length≤2*(1+sz p+sz q)+n8 b
  split
  ·have:=ih1 b w.a0;exact dW 1 35922563421767711613112788713729 rfl this
  ·refine jM (m:=2*sz p+2*sz q) ?_ (aP 0 401576144976375247667879739393 rfl)
   induction w using Wo.casesOn with
   |con _ d x y=>
    dsimp only
    split
    ·exact Nat.le_trans (l8 _ _) (by have:=ih1 false x;have:=ih2 false y;lia)
    ·exact Nat.zero_le _
   |_=>exact Nat.zero_le _
 |tup p q ih1 ih2=>
  intro b w
  refine jM (m:=2*sz p+2*sz q) ?_ (by exact aP 0 401576144976375247667879739393 rfl)
  induction w using Wo.casesOn with
  |con _ d x y=>exact Nat.le_trans (l8 _ _) (by have:=ih1 false x;have:=ih2 false y;lia)
  |_=>exact Nat.zero_le _
 |lnil=>exact fun b w=>jM (m:=0) (by induction w using Wo.casesOn<;>exact Nat.le_refl _) (by show 0+1≤2*1;decide)
 |lcons p q ih1 ih2=>
  intro b w
  refine jM (m:=2*sz p+2*sz q) ?_ (by show _≤2*(1+sz p+sz q);exact aP 0 401576144976375247667879739393 rfl)
  induction w using Wo.casesOn with
  |con _ d x y=>
   dsimp only
   split
   ·exact Nat.le_trans (l8 _ _) (by have:=ih1 false x;have:=ih2 false y;lia)
   ·exact Nat.zero_le _
  |_=>exact Nat.zero_le _
theorem kS:(("never":Str)==("never":Str))=true:=by decide+kernel
noncomputable def yj:Wo→Bool|.never=>true|.int _ _=>false|.con _ _ _ _=>false
theorem oF{σ:Store}(w:Wo):gn σ .Eq (aG w) bB=some (yj w):=by
 induction w using Wo.casesOn with
 |never=>
  show some ((("never":Str)=="never")&&true)=_
  refine eR kS ?_;rfl
 |int id i=>rfl
 |con id c a b=>
  show some ((c.str==("never":Str))&&false)=_
  rw[Bool.and_false];rfl
theorem f0(c:Con):(c.str==("M.N":Str))=decide (c=.N):=
 eq_of_beq (List.all_eq_true.mp (show(vT.all fun c=>(c.str==("M.N":Str))==decide (c=.N))=true by decide+kernel) c c.mem)
theorem fN(c:Con):(c.str==("[]":Str))=decide (c=.Nil):=
 eq_of_beq (List.all_eq_true.mp (show(vT.all fun c=>(c.str==("[]":Str))==decide (c=.Nil))=true by decide+kernel) c c.mem)
section
variable {T:Tab}{c:Calls}{wf:Nat}{ρ:ay}{σ σ1 σ2 σ3:Store}
theorem dI{e:E}{C:Nat}{fs:List (Nat × V)}{cs:List Nat}{b:Bool}(h:ak T c e ρ σ=some (.inst C fs,σ1))(g:(T.cls C&&cs.all T.cls&&decide (cs.length<20))=true)(hb:cs.contains C=b):ak T c (.isi e cs) ρ σ=some (.bool b,σ1):=by
 show(ak T c e ρ σ).bind _=_
 refine eR h ?_
 show(if(T.cls C&&cs.all T.cls&&decide (cs.length<20))=true then _ else _)=_
 rw[if_pos g,hb]
theorem vE{a b:E}{l m:List V}(ha:ak T c a ρ σ=some (.lst l,σ1))(hb:ak T c b ρ σ1=some (.lst m,σ2))(hl:l.length≤bq):ak T c (.listof (.zip a b)) ρ σ=some (.lst (cI l m),σ2):=by
 show(ak T c a ρ σ).bind _=_;refine eR ha ?_;show(ak T c b ρ σ1).bind _=_;refine eR hb ?_;exact if_pos hl
end
noncomputable abbrev Ap:E:=.isi (.var 87) [234]
noncomputable abbrev BJ:Ss:=.cons (.assign 87 (.attr (.var 87) 7)) .nil
noncomputable def B0:Ss:=tl yL
noncomputable def B3:Ss:=tl (tl (tl B0))
noncomputable def B5:Ss:=tl (tl B3)
noncomputable def tw(p:Pt)(b:Bool)(w:Wo)(n q:Nat)(σ:Store)(o:jI)(R:Option (Fl × ay × Store)):Prop:=∃ρ2 σ',R=some (.ret (fM o.1),ρ2,σ')∧App q (o.2.map aG) σ σ'
noncomputable def dH(p:Pt)(b:Bool):Prop:=∀(w:Wo)(k:Ki)(n q:Nat)(σ:Store)(ρ:ay)(f:Nat),cZ k p→hV k w→(b=true→k=.N→p.isN)→6*sz p+10+3*n8 b≤n→sz p<f→eF q σ (2*sz p+2+2*n8 b)→
 ρ 87=some (.v (yI b p))→ρ 88=some (.v (aG w))→ρ 91=some (.v (.loc q))→∃ρ1,cu (ak af.toTab (ac af n) Ap) (au af.toTab (ac af n) n BJ) f ρ σ=some (.next,ρ1,σ)∧tw p b w n q σ (fit p b w) (au af.toTab (ac af n) n B0 ρ1 σ)
noncomputable def xj(p:Pt)(b:Bool):Prop:=∀(w:Wo)(k:Ki)(n q:Nat)(σ:Store),cZ k p→hV k w→(b=true→k=.N→p.isN)→6*sz p+11+3*n8 b≤n→eF q σ (2*sz p+2+2*n8 b)→
 ∃σ',(ac af n).fn 699 [yI b p,aG w,.loc q] σ=some (fM (fit p b w).1,σ')∧App q ((fit p b w).2.map aG) σ σ'
theorem aW{p:Pt}{b:Bool}(h:dH p b):xj p b:=fun w k n q σ ok okw hN hn hL=>by
 refine Exists.elim (sx n 1 (bw 1 1239254051836645114922571 rfl hn)) fun m z1=>?_;subst z1
 obtain⟨ρ1,e1,ρ2,σ',e2,A⟩:=h w k m q σ (aq [87,88,91] [yI b p,aG w,.loc q]) m ok okw hN (bw 1 8743902907810818111380130690664882038374401 rfl hn) (bw 1 127161325059832290293424576544774 rfl hn) hL rfl rfl rfl
 exact bi σ' (aI (fi:=⟨[87,88,91],yL⟩) (ρ':=ρ2) rfl rfl (gI e1 e2)) A
section
variable {n q:Nat}{σ:Store}{ρ:ay}{w:Wo}
theorem ol{p:Pt}{b:Bool}{k:jI}{R:Option (Fl × ay × Store)}(h88:ρ 88=some (.v (aG w)))(h91:ρ 91=some (.v (.loc q)))(hL:eF q σ 1)(hR:au af.toTab (ac af n) n B3 ρ σ=R)
  (K:w≠.never→∀σ1,App q [aG w] σ σ1→∃ρ2 σ',au af.toTab (ac af n) n B5 ρ σ1=some (.ret (fM k.1),ρ2,σ')∧App q (k.2.map aG) σ1 σ'):tw p b w n q σ (ask w k) R:=by
 refine aT hL fun acc hc hl=>?_
 have A1:App q [aG w] σ (σ.put q (.list (acc++[aG w]))):=⟨cO q σ _,fun acc' h=>by replace h:=hc▸h;cases h;exact cW hc⟩
 have ap:bA af.toTab (ac af n) n (.append (.var 91) (.var 88)) ρ σ=some (.next,ρ,σ.put q (.list (acc++[aG w]))):=jA h91 (aa h88) hc hc (by exact bI 1 1934282234094157230752274592001 rfl hl)
 have ec:ak af.toTab (ac af n) (.cmp .Eq (.var 88) (.glob 6)) ρ (σ.put q (.list (acc++[aG w])))=some (.bool (yj w),σ.put q (.list (acc++[aG w]))):=
  aQ (k:=bB) (aa h88) rfl (oF w)
 clear h88 h91 hL hc hl;subst hR
 induction w using Wo.casesOn with
 |never=>exact dA ρ _ (bg ap (aD ec (aN rfl))) A1
 |int id i=>
  refine eB (K (fun e=>by injection e) _ A1) fun ρ2 σ' e A=>?_
  exact dA ρ2 σ' (bg ap (ao ec e)) (A1.trans A)
 |con id c a b=>
  refine eB (K (fun e=>by injection e) _ A1) fun ρ2 σ' e A=>?_
  exact dA ρ2 σ' (bg ap (ao ec e)) (A1.trans A)
end
end Mine
namespace Mine
open PySem PySem.W
noncomputable def Dj:Ss:=.cons (.assign 90 (.call 699 (.cons (.var 87) (.cons (.var 88) (.cons (.var 91) .nil))))) (.cons (.ite (.cmp .IsNot (.var 90) (.bool true)) (.cons (.ret (.var 90)) .nil) .nil) .nil)
noncomputable def Cu:R→Fl|.yes=>.next|.no=>.ret (.bool false)|.nev=>.ret bB
theorem pU{σ:Store}(r:R):gn σ .IsNot (fM r) (.bool true)=some (match r with|.yes=>false|.no=>true|.nev=>true):=by induction r using R.casesOn<;>rfl
section
variable {n q:Nat}
theorem om:∀{ks:List Ki}{ps:List Pt}{ws:List Wo}{ρ:ay}{σ:Store},bQ ks ps→cE ks ws→(∀p∈ps,xj p false)→(∀p∈ps,6*sz p+11≤n)→eF q σ (2*bS ps+2)→ρ 91=some (.v (.loc q))→
  ∃ρ' σ',aZ (fq af.toTab (ac af n) n [87,88] Dj) (cI (ps.map aM) (ws.map aG)) ρ σ=some (Cu (aA ps ws).1,ρ',σ')∧App q ((aA ps ws).2.map aG) σ σ'
 |[],[],[],ρ,σ,_,_,_,_,_,_=>dA ρ σ rfl (App.refl q σ)
 |k::ks,p::ps,w::ws,ρ,σ,op,ow,hf,hn,hL,h91=>by
  have hsz:bS (p::ps)=sz p+bS ps:=bk p ps
  have h0:n8 false=0:=rfl
  refine aT (hf p (List.mem_cons_self ..) w k n q σ op.1 ow.1 (fun e=>by exact bE e) (hn p (List.mem_cons_self ..)) (hL.mono (dW 2 131096567219322983658976390560827838824449 rfl (Nat.le_of_eq hsz.symm) (Nat.le_of_eq h0)))) fun σ1 e1 A1=>?_
  have ec:ak af.toTab (ac af n) (.call 699 (.cons (.var 87) (.cons (.var 88) (.cons (.var 91) .nil)))) ((ρ.set 87 (.v (aM p))).set 88 (.v (aG w))) σ=some (fM (fit p false w).1,σ1):=
   aJ (aF (aa (x:=87) rfl) (aa (x:=88) rfl) (aa (x:=91) h91)) e1
  have ei:=aQ (op:=.IsNot) (T:=af.toTab) (c:=ac af n) (σ:=σ1) (ρ:=((ρ.set 87 (.v (aM p))).set 88 (.v (aG w))).set 90 (.v (fM (fit p false w).1))) (e:=.var 90) (i:=.bool true) (k:=.bool true) (aa rfl) rfl (pU (fit p false w).1)
  show∃ρ' σ',aZ _ (.tup none [aM p,aG w]::cI (ps.map aM) (ws.map aG)) ρ σ=some (Cu (sq (fit p false w) (aA ps ws)).1,ρ',σ')∧App q ((sq (fit p false w) (aA ps ws)).2.map aG) σ σ'
  cases hr:(fit p false w).1 with
  |yes=>
   rw[hr]at ei
   refine eB (om (ks:=ks) (ps:=ps) (ws:=ws) (ρ:=((ρ.set 87 (.v (aM p))).set 88 (.v (aG w))).set 90 (.v (fM .yes))) op.2 ow.2 (fun x m=>hf x (List.mem_cons_of_mem _ m)) (fun x m=>hn x (List.mem_cons_of_mem _ m)) (hL.app A1 (by rw[List.length_map];exact mC 3 47444590123571926952178266289581718921719471685633 rfl (Nat.le_of_eq hsz.symm) (Nat.le_of_eq h0) (qY p false w))) h91) fun ρ' σ2 e2 A2=>?_
   have hs:sq (fit p false w) (aA ps ws)=((aA ps ws).1,(fit p false w).2++(aA ps ws).2):=by unfold sq;rw[hr]
   refine eR hs ?_
   refine dA ρ' σ2 (cj (ρ1:=((ρ.set 87 (.v (aM p))).set 88 (.v (aG w))).set 90 (.v (fM .yes))) (σ1:=σ1) ?_ e2) (by rw[List.map_append];exact A1.trans A2)
   rw[hr]at ec
   exact ag ec (ao ei rfl)
  |no=>
   rw[hr]at ei ec
   have hs:sq (fit p false w) (aA ps ws)=(.no,(fit p false w).2):=by unfold sq;rw[hr]
   refine eR hs ?_
   exact dA _ σ1 (kU (ag ec (aD ei (aN (aa rfl))))) A1
  |nev=>
   rw[hr]at ei ec
   have hs:sq (fit p false w) (aA ps ws)=(.nev,(fit p false w).2):=by unfold sq;rw[hr]
   refine eR hs ?_
   exact dA _ σ1 (kU (ag ec (aD ei (aN (aa rfl))))) A1
 |[],[],_::_,_,_,_,ow,_,_,_,_=>ow.elim
 |[],_::_,_,_,_,op,_,_,_,_,_=>op.elim
 |_::_,[],_,_,_,op,_,_,_,_,_=>op.elim
 |_::_,_::_,[],_,_,_,ow,_,_,_,_=>ow.elim
theorem mL{ks:List Ki}{ps:List Pt}{ws:List Wo}{σ:Store}(op:bQ ks ps)(ow:cE ks ws)(hf:∀p∈ps,xj p false)(hn:∀p∈ps,6*sz p+11≤n)(hL:eF q σ (2*bS ps+2)):
  ∃σ',(ac af (n+1)).fn 692 [.lst (cI (ps.map aM) (ws.map aG)),.loc q] σ=some (fM (aA ps ws).1,σ')∧App q ((aA ps ws).2.map aG) σ σ':=by
 refine eB (om (n:=n) (ρ:=aq [89,91] [.lst (cI (ps.map aM) (ws.map aG)),.loc q]) op ow hf hn hL rfl) fun ρ' σ' e A=>?_
 refine bi σ' ?_ A
 cases hr:(aA ps ws).1 with
 |yes=>rw[hr]at e;exact aI (fi:=⟨[89,91],wQ⟩) (ρ':=ρ') rfl rfl (eg (c8 (d:=.lst (cI (ps.map aM) (ws.map aG))) (aa rfl) rfl) e (aN rfl))
 |no=>rw[hr]at e;exact aI (fi:=⟨[89,91],wQ⟩) (ρ':=ρ') rfl rfl (gR (c8 (d:=.lst (cI (ps.map aM) (ws.map aG))) (aa rfl) rfl) e)
 |nev=>rw[hr]at e;exact aI (fi:=⟨[89,91],wQ⟩) (ρ':=ρ') rfl rfl (gR (c8 (d:=.lst (cI (ps.map aM) (ws.map aG))) (aa rfl) rfl) e)
end
theorem mQ{T:Tab}{c:Calls}{ρ:ay}{σ:Store}{w:Wo}{x y:Wo}{i:Nat}{d:Con}(hw:w=.con i d x y)(h88:ρ 88=some (.v (aG w)))(hd:0<d.ar):ak T c (.item (.item (.var 88) (.int 1)) (.int 0)) ρ σ=some (aG x,σ):=by
 subst hw
 refine aH (o:=.lst ([aG x,aG y].take d.ar)) (k:=.int (0:Nat)) (aH (o:=aG (.con i d x y)) (k:=.int (1:Nat)) (aa h88) rfl rfl) rfl ?_
 clear T c ρ i h88;induction d using Con.casesOn<;>first|(exact absurd hd (by decide))|rfl
theorem xW{T:Tab}{c:Calls}{ρ:ay}{σ:Store}{w:Wo}{x y:Wo}{i:Nat}{d:Con}(hw:w=.con i d x y)(h88:ρ 88=some (.v (aG w)))(hd:d.ar=2):ak T c (.item (.item (.var 88) (.int 1)) (.int 1)) ρ σ=some (aG y,σ):=by
 subst hw
 refine aH (o:=.lst ([aG x,aG y].take d.ar)) (k:=.int (1:Nat)) (aH (o:=aG (.con i d x y)) (k:=.int (1:Nat)) (aa h88) rfl rfl) rfl ?_
 refine eR hd ?_;rfl
section
variable {n q:Nat}{σ:Store}{ρ:ay}{w:Wo}{k:Ki}
theorem tO{p:Pt}(hF:xj p false)(hT:∀x y,p=.con .N x y→xj x true)(ok:cZ k p)(okw:hV k w)(hN:k=.N→p.isN)(hn:6*sz p+13≤n)(hL:eF q σ (2*sz p+4))(h87:ρ 87=some (.v (aM (.bang p))))(h88:ρ 88=some (.v (aG w)))(h91:ρ 91=some (.v (.loc q))):
  tw p true w n q σ (fit p true w) (au af.toTab (ac af n) n B0 ρ σ):=by
 refine Exists.elim (sx n 1 (aP 1 82496221067101773 rfl hn)) fun j z1=>?_;subst z1
 have z0:n8 false=0:=rfl
 have z1:n8 true=1:=rfl
 have hp7:ak af.toTab (ac af (j+1)) (.attr (.var 87) 7) ρ σ=some (aM p,σ):=aw (aa h87) rfl
 have s1:ak af.toTab (ac af (j+1)) (.isi (.var 87) [72,99,261]) ρ σ=some (.bool false,σ):=ah h87 rfl rfl
 have s3:ak af.toTab (ac af (j+1)) (.bop .And (.cons (.isi (.var 87) [153]) (.cons (.cmp .Eq (.attr (.var 87) 2) (.str "M.N")) .nil))) ρ σ=some (.bool false,σ):=ba (ah h87 rfl rfl)
 have rest:ak af.toTab (ac af (j+1)) (.bop .And (.cons (.isi (.var 87) [288]) (.cons (.isi (.attr (.var 87) 7) [153]) (.cons (.cmp .Eq (.attr (.attr (.var 87) 7) 2) (.str "M.N")) .nil)))) ρ σ=some (.bool false,σ)→k≠.N→
   tw p true w (j+1) q σ (fit p true w) (au af.toTab (ac af (j+1)) (j+1) B0 ρ σ):=fun s2 hk=>by
  refine(hO ok hk)▸?_
  refine ol (p:=p) (b:=true) h88 h91 (hL.mono (bI 0 1928876787265 rfl)) (ao s1 (ao s2 (ao s3 rfl))).symm fun hw σ1 A1=>?_
  refine aT (hF w k (j+1) q σ1 ok okw (fun e=>by exact bE e) (bw 2 536978598789173442929129483242327458122563585 rfl hn (Nat.le_of_eq z0)) (hL.app A1 (by exact aP 1 500095456235963739701811235971502081 rfl (Nat.le_of_eq z0)))) fun σ' e A=>?_
  exact dA ρ σ' (aD (ah h87 rfl rfl) (aN (aJ (aF (aw (d:=aM p) (aa h87) rfl) (aa h88) (aa h91)) e))) A
 have nk:(k=.N→False)→k≠.N:=id
 induction p using Pt.casesOn with
 |con c x y=>
  by_cases hc:c=.N
  ·clear s3 nk hF hN rest;subst hc
   have hk:k=.N:=ok.1.symm
   subst hk
   refine kT (vO okw) fun i v u z3 hv=>?_;subst z3
   have hsz:sz (.con .N x y)=1+sz x+sz y:=rfl
   refine aT (hT x y rfl v .T (j+1) q σ ok.2.1 hv (fun _ e=>by injection e) (mC 3 698923101225751453882331422004502332659554794307301146625 rfl (Nat.le_of_eq z1) hn (Nat.le_of_eq hsz.symm)) (hL.mono (dW 2 136267520034325423009945418504000916242563073 rfl (Nat.le_of_eq z1) (Nat.le_of_eq hsz.symm)))) fun σ' e A=>?_
   have hfit:fit (.con .N x y) true (.con i .N v u)=fit x true v:=if_pos rfl
   refine eR hfit ?_
   refine dA ρ σ' (ao s1 (aD (aU (ah h87 rfl rfl) (aU (dI hp7 rfl rfl) (bY (aQ (o:=.str Con.N.str) (k:=.str "M.N") (aw hp7 rfl) rfl (congrArg some (f0 .N)))))) (aN (aJ (aF (d:=aM (.bang x)) (bz (aB (d:=aM x) (d2:=.none) (aH (o:=.lst [aM x]) (k:=.int (0:Nat)) (aw hp7 rfl) rfl rfl) rfl) (gF x)) (mQ rfl h88 (by decide)) (aa h91)) e)))) A
  ·exact rest (aU (ah h87 rfl rfl) (aU (dI hp7 rfl rfl) (bY (aQ (o:=.str c.str) (k:=.str "M.N") (aw hp7 rfl) rfl (congrArg some ((f0 c).trans (decide_eq_false hc))))))) (fun e=>hc (by have:=hN e;exact this))
 |wild=>exact rest (aU (ah h87 rfl rfl) (ba (dI hp7 rfl rfl))) (fun e=>hN e)
 |var s=>exact rest (aU (ah h87 rfl rfl) (ba (dI hp7 rfl rfl))) (fun e=>hN e)
 |lit s=>exact rest (aU (ah h87 rfl rfl) (ba (dI hp7 rfl rfl))) (fun e=>hN e)
 |tup s t=>exact rest (aU (ah h87 rfl rfl) (ba (dI hp7 rfl rfl))) (fun e=>hN e)
 |lnil=>exact rest (aU (ah h87 rfl rfl) (ba (dI hp7 rfl rfl))) (fun e=>hN e)
 |lcons s t=>exact rest (aU (ah h87 rfl rfl) (ba (dI hp7 rfl rfl))) (fun e=>hN e)
 |«as» s t=>exact rest (aU (ah h87 rfl rfl) (ba (dI hp7 rfl rfl))) (fun e=>hN e)
 |lazy s=>exact rest (aU (ah h87 rfl rfl) (ba (dI hp7 rfl rfl))) (fun e=>hN e)
 |bang s=>exact rest (aU (ah h87 rfl rfl) (ba (dI hp7 rfl rfl))) (fun e=>hN e)
theorem cb{p:Pt}(hF:xj p false)(hT:∀x y,p=.con .N x y→xj x true):dH p true:=fun w k n q σ ρ f ok okw hN hn hf hL h87 h88 h91=>by
 have z1:n8 true=1:=rfl
 refine Exists.elim (sx f 1 (aP 1 19315541952065 rfl hf)) fun f z1=>?_;clear hf;subst z1
 exact bi ρ (bV (ah h87 rfl rfl)) (tO hF hT ok okw (hN rfl) (bw 2 8495597078058953778144269404831485953 rfl hn (Nat.le_of_eq z1.symm)) (hL.mono (aP 1 27336296526229072104166301110273 rfl (Nat.le_of_eq z1.symm))) h87 h88 h91)
theorem th{p:Pt}(ha:∀(ρ:ay){n:Nat}{σ:Store},ρ 87=some (.v (aM p))→ak af.toTab (ac af n) (.isi (.var 87) [72,99,261]) ρ σ=some (.bool true,σ))(hs:∀(ρ:ay){n:Nat}{σ:Store},ρ 87=some (.v (aM p))→ak af.toTab (ac af n) Ap ρ σ=some (.bool false,σ))(hfit:∀w,fit p false w=(.yes,[])):dH p false:=
 fun w k n q σ ρ f ok okw hN hn hf hL h87 h88 h91=>by
  refine Exists.elim (sx f 1 (aP 1 19315541952065 rfl hf)) fun f z1=>?_;clear k ok okw hN hn hf hL h88 h91;subst z1
  rw[hfit]
  exact⟨ρ,bV (hs ρ h87),ρ,σ,aD (ha ρ h87) (aN rfl),App.refl q σ⟩
theorem ui{p:Pt}(ok:cZ k p)(h88:ρ 88=some (.v (aG w)))(h91:ρ 91=some (.v (.loc q)))(hL:eF q σ 1){o:jI}(hs1:ak af.toTab (ac af n) (.isi (.var 87) [72,99,261]) ρ σ=some (.bool false,σ))(hs2:ak af.toTab (ac af n) (.isi (.var 87) [288]) ρ σ=some (.bool false,σ))
  (hs3:ak af.toTab (ac af n) (.bop .And (.cons (.isi (.var 87) [153]) (.cons (.cmp .Eq (.attr (.var 87) 2) (.str "M.N")) .nil))) ρ σ=some (.bool false,σ))
  (K:w≠.never→∀σ1,App q [aG w] σ σ1→∃ρ2 σ',au af.toTab (ac af n) n (tl B5) ρ σ1=some (.ret (fM o.1),ρ2,σ')∧App q (o.2.map aG) σ1 σ') (h87:∀σ,ak af.toTab (ac af n) (.isi (.var 87) [288]) ρ σ=some (.bool false,σ)):
  tw p false w n q σ (ask w o) (au af.toTab (ac af n) n B0 ρ σ):=by
 refine ol (p:=p) (b:=false) h88 h91 hL (ao hs1 (ao (ba hs2) (ao hs3 rfl))).symm fun hw σ1 A1=>?_
 refine eB (K hw σ1 A1) fun ρ2 σ' e A=>?_
 exact dA ρ2 σ' (ao (h87 σ1) e) A
noncomputable def AV(c:Con)(p q:Pt)(w:Wo):jI:=match w with
 |.con _ d x y=>if c=d then sq (fit p false x) (fit q false y)else(.no,[])
 |_=>(.no,[])
theorem pk{c:Con}{p q:Pt}{w:Wo}(hc:c≠.N):fit (.con c p q) false w=ask w (AV c p q w):=if_neg hc
theorem xn{k:Ki}{c:Con}{x y:Pt}(hc:c≠.N)(ok:cZ k (.con c x y)):bQ (cK c) ([x,y].take c.ar):=by
 obtain⟨_,h2,h3,_⟩:=ok
 induction c using Con.casesOn<;>first|exact absurd rfl hc|trivial|exact⟨h2,h3,trivial⟩
theorem tj{k:Ki}{c:Con}{i:Nat}{a b:Wo}(hc:c≠.N)(ok:hV k (.con i c a b)):cE (cK c) ([a,b].take c.ar):=by
 obtain⟨_,h2,h3⟩:=ok
 induction c using Con.casesOn<;>first|exact absurd rfl hc|trivial|exact⟨h2 (by decide),h3 rfl,trivial⟩
theorem tU{c:Con}{x y:Pt}(hc:c≠.N):bS ([x,y].take c.ar)≤sz x+sz y:=by
 induction c using Con.casesOn<;>first|exact absurd rfl hc|exact Nat.zero_le _|exact Nat.le_refl _
theorem oY{c:Con}{x y p:Pt}{P:Pt→Prop}(hp:p∈[x,y].take c.ar)(h1:P x)(h2:P y):P p:=by
 have:=List.mem_of_mem_take hp
 rcases List.mem_cons.mp this with h|h
 ·exact h▸h1
 ·exact List.mem_singleton.mp h▸h2
theorem vx{k:Ki}{c:Con}{x y:Pt}{a b:Wo}(hc:c≠.N)(ok:cZ k (.con c x y)):aA ([x,y].take c.ar) ([a,b].take c.ar)=sq (fit x false a) (fit y false b):=by
 obtain⟨_,_,_,h4,h5⟩:=ok
 induction c using Con.casesOn with
 |A=>rw[h4 rfl,h5 (Nat.succ_pos _)];rfl
 |Nil=>rw[h4 rfl,h5 (Nat.succ_pos _)];rfl
 |N=>exact absurd rfl hc
 |B=>show sq _ (sq _ (.yes,[]))=_;rw[c9]
 |Pr=>show sq _ (sq _ (.yes,[]))=_;rw[c9]
 |Cons=>show sq _ (sq _ (.yes,[]))=_;rw[c9]
theorem tY:∀p:Pt,dH p false∧dH p true:=by
 intro p
 have z0:n8 false=0:=rfl
 have z1:n8 true=1:=rfl
 induction p with
 |wild=>
   have hb:dH .wild false:=th (fun ρ n σ h=>ah h rfl rfl) (fun ρ n σ h=>ah h rfl rfl) (fun _=>rfl)
   exact⟨hb,cb (aW hb) (fun x y e=>by injection e)⟩
 |var s=>
   have hb:dH (.var s) false:=th (fun ρ n σ h=>ah h rfl rfl) (fun ρ n σ h=>ah h rfl rfl) (fun _=>rfl)
   exact⟨hb,cb (aW hb) (fun x y e=>by injection e)⟩
 |lazy s _=>
   have hb:dH (.lazy s) false:=th (fun ρ n σ h=>ah h rfl rfl) (fun ρ n σ h=>ah h rfl rfl) (fun _=>rfl)
   exact⟨hb,cb (aW hb) (fun x y e=>by injection e)⟩
 |«as» s p ih=>
  have hb:dH (.as s p) false:=fun w k n q σ ρ f ok okw hN hn hf hL h87 h88 h91=>by
   have hsz:sz (.as s p)=1+sz p:=rfl
   refine Exists.elim (sx f 1 (aP 1 19315541952065 rfl hf)) fun f z1=>?_;subst z1
   refine aT (ih.1 w k n q σ (ρ.set 87 (.v (aM p))) f ok okw (fun e=>by exact bE e) (dW 2 645673508917795312158820150713665740239947431937 rfl hn (Nat.le_of_eq hsz.symm)) (bw 2 1986901347174869073611205132289 rfl (Nat.le_of_eq hsz.symm) hf) (hL.mono (bw 1 2114599741931356684094920832751905878048769 rfl (Nat.le_of_eq hsz.symm))) rfl h88 h91) fun ρ1 e1 r=>?_
   exact bi ρ1 (eV (ah h87 rfl rfl) (ag (aw (aa h87) rfl) rfl) e1) r
  exact⟨hb,cb (aW hb) (fun x y e=>by injection e)⟩
 |bang p ih=>
  have hb:dH (.bang p) false:=fun w k n q σ ρ f ok okw hN hn hf hL h87 h88 h91=>by
   have hsz:sz (.bang p)=1+sz p:=rfl
   exact ih.2 w k n q σ ρ f ok.1 okw (fun _=>ok.2) (mC 3 169259436322791881741742872554183310607768203921981441 rfl (Nat.le_of_eq z1) hn (Nat.le_of_eq hsz.symm)) (bw 2 117383864914747532092129281 rfl hf (Nat.le_of_eq hsz.symm)) (hL.mono (dW 2 554329636422366316085918990440450176873002172417 rfl (Nat.le_of_eq z1) (Nat.le_of_eq hsz.symm))) h87 h88 h91
  exact⟨hb,cb (aW hb) (fun x y e=>by injection e)⟩
 |lit i=>
  have hb:dH (.lit i) false:=fun w k n q σ ρ f ok okw hN hn hf hL h87 h88 h91=>by
   obtain⟨f,rfl⟩:=sx f 1 (aP 1 19315541952065 rfl hf)
   have hk:k=.I:=ok
   subst hk
   refine bi ρ (bV (ah h87 rfl rfl)) (ui (p:=.lit i) ok h88 h91 (hL.mono (aP 0 6233378011278739009 rfl)) (ah h87 rfl rfl) (ah h87 rfl rfl) (ba (ah h87 rfl rfl)) (fun hw σ1 A1=>?_) (fun σ=>ah h87 rfl rfl))
   rcases AY okw with rfl|⟨id,j,rfl⟩
   ·exact absurd rfl hw
   ·refine dA ρ σ1 ?_ (App.refl q σ1)
    refine eR (show fM (if i=j then R.yes else R.no)=.bool (decide (i=j)) by by_cases e:i=j<;>simp[e,fM]) ?_
    refine aD (ah h87 rfl rfl) (aN (aQ (o:=.int i) (k:=.int j) (b:=decide (i=j)) (aw (aa h87) rfl) (aH (i:=.int 0) (o:=aG (.int id j)) (k:=.int (0:Nat)) (aa h88) rfl rfl) ?_))
    show some (i==j)=_
    clear z0 z1 n q σ ρ hn hL h87 h91 f hf ok hN σ1 id h88 okw hw A1;by_cases e:i=j
    ·subst e;simp
    ·refine eR (decide_eq_false e) ?_;exact congrArg some (beq_eq_false_iff_ne.mpr e)
  exact⟨hb,cb (aW hb) (fun x y e=>by injection e)⟩
 |con c x y ihx ihy=>
  have hb:dH (.con c x y) false:=fun w k n q σ ρ f ok okw hN hn hf hL h87 h88 h91=>by
   obtain⟨f,rfl⟩:=sx f 1 (aP 1 19315541952065 rfl hf)
   have hsz:sz (.con c x y)=1+sz x+sz y:=rfl
   refine Exists.elim (sx n 2 (bw 1 1239254033822246605440645 rfl hn)) fun j z1=>?_;subst z1
   refine bi ρ (bV (ah h87 rfl rfl)) ?_
   by_cases hc:c=.N
   ·clear ihy hN;subst hc
    have hk:k=.N:=ok.1.symm
    subst hk
    refine kT (vO okw) fun i v u z3 hv=>?_;subst z3
    refine aT (aW ihx.1 v .T (j+2) q σ ok.2.1 hv (fun e=>by exact bE e) (mC 2 163793253244823433441108185505725623186676107014011856617473 rfl (Nat.le_of_eq hsz.symm) hn) (hL.mono (dW 1 8721121282190443102509714822019041618987057153 rfl (Nat.le_of_eq hsz.symm)))) fun σ' e A=>?_
    have hfit:fit (.con .N x y) false (.con i .N v u)=fit x false v:=if_pos rfl
    refine eR hfit ?_
    exact dA ρ σ' (ao (ah h87 rfl rfl) (ao (ba (ah h87 rfl rfl)) (aD (aU (ah h87 rfl rfl) (bY (aQ (o:=.str Con.N.str) (k:=.str "M.N") (aw (aa h87) rfl) rfl (congrArg some (f0 .N))))) (aN (aJ (aF (d:=aM x) (aH (o:=.lst [aM x]) (k:=.int (0:Nat)) (aw (aa h87) rfl) rfl rfl) (mQ rfl h88 (by decide)) (aa h91)) e))))) A
   ·refine eR (pk hc) ?_
    refine ui (p:=.con c x y) ok h88 h91 (hL.mono (aP 0 6233378011278739009 rfl)) (ah h87 rfl rfl) (ah h87 rfl rfl) (aU (ah h87 rfl rfl) (bY (aQ (o:=.str c.str) (k:=.str "M.N") (aw (aa h87) rfl) rfl (congrArg some ((f0 c).trans (decide_eq_false hc)))))) (fun hw σ1 A1=>?_) (fun σ=>ah h87 rfl rfl)
    have hL1:=hL.app (k:=2*sz (.con c x y)+1) A1 (by exact aP 0 428354475232763251174483791873 rfl)
    induction w using Wo.casesOn with
    |never=>exact absurd rfl hw
    |int id i=>have h1:k=.I:=okw;have h2:c.ki=k:=ok.1;replace h2:=h1▸h2;clear hN hL hw A1 h1;induction c using Con.casesOn<;>injection h2
    |con id d a b=>
     have hcmp:ak af.toTab (ac af (j+2)) (.cmp .Eq (.attr (.var 87) 2) (.item (.var 88) (.int 0))) ρ σ1=some (.bool (c.str==d.str),σ1):=
      aQ (o:=.str c.str) (k:=.str d.str) (aw (aa h87) rfl) (aH (o:=aG (.con id d a b)) (k:=.int (0:Nat)) (aa h88) rfl rfl) rfl
     unfold AV;dsimp only
     by_cases hcd:c=d
     ·subst hcd
      rw[if_pos rfl]
      rw[gv]at hcmp
      have opl:=xn hc ok
      have owl:=tj hc okw
      have hz:=tU (x:=x) (y:=y) hc
      refine aT (mL (n:=j+1) (q:=q) (σ:=σ1) opl owl (fun p hp=>oY (P:=fun p=>xj p false) hp (aW ihx.1) (aW ihy.1)) (fun p hp=>oY (P:=fun p=>6*sz p+11≤j+1) hp (mC 2 9756996951456968033016965376729837356875251535319041 rfl (Nat.le_of_eq hsz.symm) hn) (mC 2 9756996951456968033016965338648674039014432532074497 rfl (Nat.le_of_eq hsz.symm) hn)) (hL1.mono (dW 2 38622132397228879830093018909139976851457 rfl (Nat.le_of_eq hsz.symm) hz))) fun σ' e A=>?_
      have hall:=vx (a:=a) (b:=b) hc ok
      rw[hall]at e A
      rw[List.map_take,List.map_take]at e
      exact⟨ρ,σ',ao (ah h87 rfl rfl) (ao (ah h87 rfl rfl) (aD (ah h87 rfl rfl) (aN (aU hcmp (bY (aJ (aB (vE (l:=[aM x,aM y].take c.ar) (m:=[aG a,aG b].take c.ar) (aw (aa h87) rfl) (aH (o:=aG (.con id c a b)) (k:=.int (1:Nat)) (aa h88) rfl rfl) (by refine eR List.length_take ?_;exact Nat.le_trans (Nat.min_le_right _ 2) (by decide))) (aa h91)) e)))))),A⟩
     ·refine eR (if_neg hcd) ?_
      rw[gz hcd]at hcmp
      exact dA ρ σ1 (ao (ah h87 rfl rfl) (ao (ah h87 rfl rfl) (aD (ah h87 rfl rfl) (aN (ba hcmp))))) (App.refl q σ1)
  exact⟨hb,cb (aW hb) (fun x' y' e=>by clear z0 ihy hb;injection e with z1 z2;subst z1 z2;exact aW ihx.2)⟩
 |tup x y ihx ihy=>
  have hb:dH (.tup x y) false:=fun w k n q σ ρ f ok okw hN hn hf hL h87 h88 h91=>by
   obtain⟨f,rfl⟩:=sx f 1 (aP 1 19315541952065 rfl hf)
   have hsz:sz (.tup x y)=1+sz x+sz y:=rfl
   refine Exists.elim (sx n 2 (bw 1 1239254033822246605440645 rfl hn)) fun j z1=>?_;subst z1
   obtain⟨rfl,ox,oy⟩:=ok
   refine bi ρ (bV (ah h87 rfl rfl)) (ui (k:=.P) (p:=.tup x y) ⟨rfl,ox,oy⟩ h88 h91 (hL.mono (aP 0 6233378011278739009 rfl)) (ah h87 rfl rfl) (ah h87 rfl rfl) (ba (ah h87 rfl rfl)) (fun hw σ1 A1=>?_) (fun σ=>ah h87 rfl rfl))
   have hL1:=hL.app (k:=2*sz (.tup x y)+1) A1 (by exact aP 0 428354475232763251174483791873 rfl)
   clear hL hN A1;rcases yi okw with rfl|⟨i,a,b,rfl,ha,hb⟩
   ·exact absurd rfl hw
   obtain⟨σ',e,A⟩:=mL (ks:=[.T,.I]) (ps:=[x,y]) (ws:=[a,b]) (n:=j+1) (q:=q) (σ:=σ1) (fz ox oy trivial) (fz ha hb trivial)
    (fun p hp=>by rcases List.mem_cons.mp hp with rfl|h;exact aW ihx.1;refine(List.mem_singleton.mp h)▸?_;exact aW ihy.1)
    (fun p hp=>by rcases List.mem_cons.mp hp with rfl|h;exact mC 2 9756996951456968033016965376729837356875251535319041 rfl (Nat.le_of_eq hsz.symm) hn;rw[List.mem_singleton.mp h];exact mC 2 9756996951456968033016965338648674039014432532074497 rfl (Nat.le_of_eq hsz.symm) hn) (hL1.mono (by rw[bk,bk];have:bS []=0:=rfl;exact dW 2 537320070894310478453804258156278357386858497 rfl (Nat.le_of_eq hsz.symm) (Nat.le_of_eq this)))
   have hall:aA [x,y] [a,b]=sq (fit x false a) (fit y false b):=by show sq _ (sq _ (.yes,[]))=_;rw[c9]
   rw[hall]at e A
   exact dA ρ σ' (ao (ah h87 rfl rfl) (aD (ah h87 rfl rfl) (aN (aJ (aB (vE (l:=[aM x,aM y]) (m:=[aG a,aG b]) (aw (aa h87) rfl) (aH (o:=aG (.con i .Pr a b)) (k:=.int (1:Nat)) (aa h88) rfl rfl) (by show 2≤bq;decide)) (aa h91)) e)))) A
  exact⟨hb,cb (aW hb) (fun x y e=>by injection e)⟩
 |lnil=>
  have hb:dH .lnil false:=fun w k n q σ ρ f ok okw hN hn hf hL h87 h88 h91=>by
   obtain⟨f,rfl⟩:=sx f 1 (aP 1 19315541952065 rfl hf)
   have hk:k=.L:=ok
   subst hk
   refine bi ρ (bV (ah h87 rfl rfl)) (ui (p:=.lnil) ok h88 h91 (hL.mono (aP 0 6233378011278739009 rfl)) (ah h87 rfl rfl) (ah h87 rfl rfl) (ba (ah h87 rfl rfl)) (fun hw σ1 A1=>?_) (fun σ=>ah h87 rfl rfl))
   clear σ hL h91 ok hN A1;induction w using Wo.casesOn with
   |never=>exact absurd rfl hw
   |int id i=>injection okw
   |con id d a b=>
    have e1:ak af.toTab (ac af n) (.cmp .Eq (.attr (.var 87) 6) (.list .nil)) ρ σ1=some (.bool true,σ1):=aQ (o:=.lst []) (k:=.lst []) (aw (aa h87) rfl) rfl rfl
    have e2:ak af.toTab (ac af n) (.cmp .Eq (.item (.var 88) (.int 0)) (.str "[]")) ρ σ1=some (.bool (decide (d=.Nil)),σ1):=
     aQ (o:=.str d.str) (k:=.str "[]") (aH (o:=aG (.con id d a b)) (k:=.int (0:Nat)) (aa h88) rfl rfl) rfl (congrArg some (fN d))
    refine dA ρ σ1 ((ao (ah h87 rfl rfl) (ao (ah h87 rfl rfl) (ao (ah h87 rfl rfl) (aD (jV e1) (aN (aU e1 (bY e2))))))).trans ?_) (App.refl q σ1)
    dsimp only
    by_cases hd:d=.Nil
    ·refine eR (if_pos hd) ?_;refine eR (decide_eq_true hd) ?_;rfl
    ·refine eR (if_neg hd) ?_;refine eR (decide_eq_false hd) ?_;rfl
  exact⟨hb,cb (aW hb) (fun x y e=>by injection e)⟩
 |lcons x r ihx ihr=>
  have hb:dH (.lcons x r) false:=fun w k n q σ ρ f ok okw hN hn hf hL h87 h88 h91=>by
   clear hN;obtain⟨f,rfl⟩:=sx f 1 (aP 1 19315541952065 rfl hf)
   have hsz:sz (.lcons x r)=1+sz x+sz r:=rfl
   refine Exists.elim (sx n 2 (bw 1 1239254033822246605440645 rfl hn)) fun j z1=>?_;subst z1
   refine gC ok fun z0 ox hr or'=>?_;subst z0
   refine bi ρ (bV (ah h87 rfl rfl)) (ui (k:=.L) (p:=.lcons x r) ⟨rfl,ox,hr,or'⟩ h88 h91 (hL.mono (aP 0 6233378011278739009 rfl)) (ah h87 rfl rfl) (ah h87 rfl rfl) (ba (ah h87 rfl rfl)) (fun hw σ1 A1=>?_) (fun σ=>ah h87 rfl rfl))
   have hL1:=hL.app (k:=2*sz (.lcons x r)+1) A1 (by exact aP 0 428354475232763251174483791873 rfl)
   have e6:∀{ρ:ay}{σ:Store},ρ 87=some (.v (aM (.lcons x r)))→ak af.toTab (ac af (j+2)) (.attr (.var 87) 6) ρ σ=some (.lst (aM x::(eT r).2),σ):=fun h=>aw (aa h) rfl
   have e1:ak af.toTab (ac af (j+2)) (.cmp .Eq (.attr (.var 87) 6) (.list .nil)) ρ σ1=some (.bool false,σ1):=aQ (k:=.lst []) (e6 h87) rfl rfl
   have pre3:∀{R},au af.toTab (ac af (j+2)) (j+2) (tl (tl (tl (tl B5)))) ρ σ1=R→au af.toTab (ac af (j+2)) (j+2) (tl B5) ρ σ1=R:=fun h=>ao (ah h87 rfl rfl) (ao (ah h87 rfl rfl) (ao (ah h87 rfl rfl) h))
   rcases uj okw with rfl|⟨i,a,b,rfl⟩|⟨i,a,b,rfl,ha,hb⟩
   ·exact absurd rfl hw
   ·have e2:ak af.toTab (ac af (j+2)) (.cmp .Eq (.item (.var 88) (.int 0)) (.str "[]")) ρ σ1=some (.bool true,σ1):=
     aQ (o:=.str Con.Nil.str) (k:=.str "[]") (aH (o:=aG (.con i .Nil a b)) (k:=.int (0:Nat)) (aa h88) rfl rfl) rfl (congrArg some (fN .Nil))
    exact dA ρ σ1 (pre3 (aD (il e1 (bY e2)) (aN (ba e1)))) (App.refl q σ1)
   ·have e2:ak af.toTab (ac af (j+2)) (.cmp .Eq (.item (.var 88) (.int 0)) (.str "[]")) ρ σ1=some (.bool false,σ1):=
     aQ (o:=.str Con.Cons.str) (k:=.str "[]") (aH (o:=aG (.con i .Cons a b)) (k:=.int (0:Nat)) (aa h88) rfl rfl) rfl (congrArg some (fN .Cons))
    obtain⟨σ',e,A⟩:=mL (ks:=[.I,.L]) (ps:=[x,r]) (ws:=[a,b]) (n:=j+1) (q:=q) (σ:=σ1) (fz ox or' trivial) (fz ha hb trivial)
     (fun p hp=>by rcases List.mem_cons.mp hp with rfl|h;exact aW ihx.1;refine eR (List.mem_singleton.mp h) ?_;exact aW ihr.1)
     (fun p hp=>by rcases List.mem_cons.mp hp with rfl|h;exact mC 2 9756996951456968033016965376729837356875251535319041 rfl (Nat.le_of_eq hsz.symm) hn;refine eR (List.mem_singleton.mp h) ?_;exact mC 2 9756996951456968033016965338648674039014432532074497 rfl (Nat.le_of_eq hsz.symm) hn) (hL1.mono (by rw[bk,bk];have:bS []=0:=rfl;exact dW 2 537320070894310478453804258156278357386858497 rfl (Nat.le_of_eq hsz.symm) (Nat.le_of_eq this)))
    have hall:aA [x,r] [a,b]=sq (fit x false a) (fit r false b):=by show sq _ (sq _ (.yes,[]))=_;rw[c9]
    rw[hall]at e A
    have hszr:sz r≤100000:=by refine aT hL fun _ _ h=>?_;exact mC 2 37414459739720611144815736740347308013003192300687077634 rfl (Nat.le_of_eq hsz.symm) h
    have e92:ak af.toTab (ac af (j+2)) (.new 207 (.cons (.sfrom (.attr (.var 87) 6) (.int 1)) (.cons .none .nil))) ρ σ1=some (aM r,σ1):=by
     rw[mv hr]
     exact bz (aB (d2:=.none) (gE (k:=.int (1:Nat)) (e6 h87) rfl (eK (i:=1) (by decide) (by show(eT r).2.length+1≤1000000;exact aP 2 507060481586639626473869392023404545 rfl (lb r) hszr))) rfl) (mr _)
    have el:∀{ρ:ay},ρ 87=some (.v (aM (.lcons x r)))→ρ 88=some (.v (aG (.con i .Cons a b)))→ρ 92=some (.v (aM r))→ak af.toTab (ac af (j+2)) (.list (.cons (.tup (.cons (.item (.attr (.var 87) 6) (.int 0)) (.cons (.item (.item (.var 88) (.int 1)) (.int 0)) .nil))) (.cons (.tup (.cons (.var 92) (.cons (.item (.item (.var 88) (.int 1)) (.int 1)) .nil))) .nil))) ρ σ1=some (.lst [.tup none [aM x,aG a],.tup none [aM r,aG b]],σ1):=fun h87 h88 h92=>
     cD (aB (kR (aB (aH (k:=.int (0:Nat)) (e6 h87) rfl rfl) (mQ rfl h88 (by decide))) rH) (kR (aB (aa h92) (xW rfl h88 rfl)) rH)) rH
    exact dA _ σ' (pre3 (ao (il e1 (bY e2)) (ag e92 (aN (aJ (aB (el (ρ:=ρ.set 92 (.v (aM r))) h87 h88 rfl) (aa (x:=91) h91)) e))))) A
  exact⟨hb,cb (aW hb) (fun x y e=>by injection e)⟩
end
end Mine
namespace Mine
open PySem PySem.W
theorem zx(p:Pt):xj p false:=aW (tY p).1
noncomputable def fF(r:List Pt):V:=.lst (r.map aM)
noncomputable def fe(rs:List (List Pt)):V:=.lst (rs.map fF)
noncomputable def cR:Nat→List (List Pt)→List Ln
 |_,[]=>[]
 |i,r::rs=>⟨i,r,[],false⟩::cR (i+1) rs
noncomputable def jB(rs:List (List Pt)):Nat:=(rs.map fun r=>2*bS r+2).sum
theorem gB(r:List Pt)(rs:List (List Pt)):jB (r::rs)=2*bS r+2+jB rs:=by unfold jB;rw[List.map_cons,List.sum_cons]
theorem gw:∀(ps:List Pt)(ws:List Wo),(aA ps ws).2.length≤2*bS ps
 |[],_=>Nat.zero_le _
 |_::_,[]=>Nat.zero_le _
 |p::ps,w::ws=>by
  have a:=qY p false w
  have b:=gw ps ws
  have z:n8 false=0:=rfl
  rw[bk]
  show(sq (fit p false w) (aA ps ws)).2.length≤_
  exact zO 4 2205122218323961681179628977170961052920409755905 rfl (l8 (fit p false w) (aA ps ws)) a b (Nat.le_of_eq z)
noncomputable def Dg:Rs→Fl|.num n=>.ret (.int (n:Nat))|.nev=>.ret bB|.none=>.next
noncomputable abbrev C4:Ss:=.cons (.assign 90 (.call 692 (.cons (.listof (.zip (.item (.var 100) (.var 99)) (.var 101))) (.cons (.var 91) .nil)))) (.cons (.ite (.cmp .Is (.var 90) (.bool true)) (.cons (.ret (.var 99)) .nil) .nil) (.cons (.ite (.cmp .Eq (.var 90) (.glob 6)) (.cons (.ret (.var 90)) .nil) .nil) .nil))
theorem xg{σ:Store}(r:R):gn σ .Is (fM r) (.bool true)=some (match r with|.yes=>true|.no=>false|.nev=>false):=by induction r using R.casesOn<;>rfl
theorem vA{σ:Store}(r:R):gn σ .Eq (fM r) bB=some (match r with|.yes=>false|.no=>false|.nev=>true):=by
 induction r using R.casesOn with
 |yes=>rfl
 |no=>rfl
 |nev=>
  show some ((("never":Str)=="never")&&true)=_
  refine eR kS ?_;rfl
section
variable {n q:Nat}
theorem nS{ks:List Ki}{ws:List Wo}{rows:List (List Pt)}(ow:cE ks ws)(hk:rows.length≤1000):∀{rs pr:List (List Pt)}{i:Nat}{ρ:ay}{σ:Store},rows=pr++rs→pr.length=i→(∀r∈rs,bQ ks r∧r.length≤1000∧∀p∈r,6*sz p+11≤n)→eF q σ (jB rs)→
  ρ 100=some (.v (fe rows))→ρ 101=some (.v (.lst (ws.map aG)))→ρ 91=some (.v (.loc q))→
  ∃ρ' σ',aZ (fq af.toTab (ac af (n+1)) (n+1) [99] C4) ((List.range' i rs.length).map fun(i:Nat)=>V.int (i:Int)) ρ σ=some (Dg (dh (cR i rs) ws).1,ρ',σ')∧App q ((dh (cR i rs) ws).2.map aG) σ σ'
 |[],pr,i,ρ,σ,_,_,_,_,_,_,_=>dA ρ σ rfl (App.refl q σ)
 |r::rs,pr,i,ρ,σ,hr,hi,ho,hL,h100,h101,h91=>by
  refine o6 (ho r (List.mem_cons_self ..)) fun op hlen hf=>?_
  have hN:=gB r rs
  have hil:i<1000:=by have:=congrArg List.length hr;rw[List.length_append,List.length_cons]at this;exact dW 3 1878954284166367512666238188313930407100417 rfl hk (Nat.le_of_eq hi.symm) (Nat.le_of_eq this.symm)
  have hat:(rows.map fF)[i]? =some (fF r):=by
   rw[hr,List.map_append,List.getElem?_append_right (by rw[List.length_map];exact aP 1 5436100865 rfl (Nat.le_of_eq hi)),List.length_map,hi,Nat.sub_self];rfl
  refine aT (mL (n:=n) (q:=q) (σ:=σ) op ow (fun p _=>zx p) hf (hL.mono (bw 1 6313635902017642283519184897 rfl (Nat.le_of_eq hN.symm)))) fun σ1 e1 A1=>?_
  have hl:=gw r ws
  have ec:∀{ρ:ay},ρ 100=some (.v (fe rows))→ρ 101=some (.v (.lst (ws.map aG)))→ρ 91=some (.v (.loc q))→ρ 99=some (.v (.int (i:Int)))→
    ak af.toTab (ac af (n+1)) (.call 692 (.cons (.listof (.zip (.item (.var 100) (.var 99)) (.var 101))) (.cons (.var 91) .nil))) ρ σ=some (fM (aA r ws).1,σ1):=fun h100 h101 h91 h99=>
   aJ (aB (vE (l:=r.map aM) (m:=ws.map aG) (aH (o:=fe rows) (k:=.int (i:Nat)) (aa h100) (aa h99) (dP (by lia) hat)) (aa h101) (by rw[List.length_map];exact bI 1 4722517587942594942349569 rfl hlen)) (aa h91)) e1
  let ρ1:=(ρ.set 99 (.v (.int (i:Int)))).set 90 (.v (fM (aA r ws).1))
  have ei:=aQ (op:=.Is) (T:=af.toTab) (c:=ac af (n+1)) (σ:=σ1) (ρ:=ρ1) (e:=.var 90) (i:=.bool true) (k:=.bool true) (aa rfl) rfl (xg (aA r ws).1)
  have en:=aQ (op:=.Eq) (T:=af.toTab) (c:=ac af (n+1)) (σ:=σ1) (ρ:=ρ1) (e:=.var 90) (i:=.glob 6) (k:=bB) (aa rfl) rfl (vA (aA r ws).1)
  have hlo:∀a,(aA r ws).1=a→lo ⟨i,r,[],false⟩ ws=(a,(aA r ws).2):=fun a e=>by unfold lo;dsimp only;refine eR e ?_;clear op hlen hf hil hat e1 e;induction a using R.casesOn<;>rfl
  show∃ρ' σ',aZ _ (V.int (i:Int)::(List.range' (i+1) rs.length).map _) ρ σ=_∧_
  cases hR:(aA r ws).1 with
  |yes=>
   rw[hR]at ei
   have hrun:dh (cR i (r::rs)) ws=(.num i,(aA r ws).2):=by show dh (_::_) ws=_;rw[dh,hlo _ hR]
   rw[hrun]
   exact⟨ρ1,σ1,kU (ag (ec h100 h101 h91 rfl) (aD ei (aN (aa rfl)))),A1⟩
  |nev=>
   rw[hR]at ei en
   have hrun:dh (cR i (r::rs)) ws=(.nev,(aA r ws).2):=by show dh (_::_) ws=_;rw[dh,hlo _ hR]
   rw[hrun]
   exact⟨ρ1,σ1,kU (ag (ec h100 h101 h91 rfl) (ao ei (aD en (aN (aa (show ρ1 90=some (.v bB) by show some (Slot.v (fM _))=_;rw[hR];rfl)))))),A1⟩
  |no=>
   rw[hR]at ei en
   have hrun:dh (cR i (r::rs)) ws=((dh (cR (i+1) rs) ws).1,(aA r ws).2++(dh (cR (i+1) rs) ws).2):=by show dh (_::_) ws=_;rw[dh,hlo _ hR]
   rw[hrun]
   refine eB (nS ow hk (rs:=rs) (pr:=pr++[r]) (i:=i+1) (ρ:=ρ1) (σ:=σ1) (by rw[hr,List.append_assoc];rfl) (by rw[List.length_append,hi];rfl) (fun x m=>ho x (List.mem_cons_of_mem _ m)) (hL.app A1 (by rw[List.length_map];exact dW 2 2403549739137135027256836641538049 rfl (Nat.le_of_eq hN.symm) hl)) h100 h101 h91) fun ρ' σ2 e2 A2=>?_
   exact dA ρ' σ2 (cj (ag (ec h100 h101 h91 rfl) (ao ei (ao en rfl))) e2) (by rw[List.map_append];exact A1.trans A2)
theorem zi{ks:List Ki}{ws:List Wo}{rows:List (List Pt)}{σ:Store}(ow:cE ks ws)(hk:rows.length≤1000)(ho:∀r∈rows,bQ ks r∧r.length≤1000∧∀p∈r,6*sz p+11≤n)(hL:eF q σ (jB rows)):
  ∃σ',(ac af (n+2)).fn 720 [fe rows,.lst (ws.map aG),.loc q] σ=some (gO (dh (cR 0 rows) ws).1,σ')∧App q ((dh (cR 0 rows) ws).2.map aG) σ σ':=by
 refine eB (nS (n:=n) (q:=q) ow hk (rs:=rows) (pr:=[]) (i:=0) (ρ:=aq [100,101,91] [fe rows,.lst (ws.map aG),.loc q]) rfl rfl ho hL rfl rfl rfl) fun ρ' σ' e A=>?_
 have hit:cH af.toTab (ac af (n+1)) (.range (.blt .len (.cons (.var 100) .nil))) (aq [100,101,91] [fe rows,.lst (ws.map aG),.loc q]) σ=some ((List.range' 0 rows.length).map fun(i:Nat)=>V.int (i:Int),σ):=by
  refine eE List.range_eq_range' ?_
  refine de (bH (vs:=[fe rows]) (az (aa rfl)) ?_) (bI 1 4722517587942594942349569 rfl hk)
  show(if(rows.map fF).length≤bq then some (V.int ((rows.map fF).length:Nat),σ)else none)=_
  rw[List.length_map,if_pos (by exact bI 1 4722517587942594942349569 rfl hk)]
 refine bi σ' ?_ A
 cases hR:(dh (cR 0 rows) ws).1 with
 |none=>rw[hR]at e;exact aI (fi:=⟨[100,101,91],wl⟩) (ρ':=ρ') rfl rfl (eg hit e (aN rfl))
 |num k=>rw[hR]at e;exact aI (fi:=⟨[100,101,91],wl⟩) (ρ':=ρ') rfl rfl (gR hit e)
 |nev=>rw[hR]at e;exact aI (fi:=⟨[100,101,91],wl⟩) (ρ':=ρ') rfl rfl (gR hit e)
end
end Mine
namespace Mine
open PySem PySem.W
structure App2(p q:Nat)(l:List V)(σ σ':Store):Prop where
 same:SameN (ve p q) σ σ'
 app:∀acc,σ.cells[q]? =some (.list acc)→σ'.cells[q]? =some (.list (acc++l))
theorem App2.refl(p q:Nat)(σ:Store):App2 p q [] σ σ:=⟨SameN.refl _ _,fun acc h=>by rw[List.append_nil];exact h⟩
theorem App2.trans{p q:Nat}{l m:List V}{σ σ1 σ2:Store}(h:App2 p q l σ σ1)(g:App2 p q m σ1 σ2):App2 p q (l++m) σ σ2:=
 ⟨h.same.trans g.same,fun acc e=>by rw[←List.append_assoc];exact g.app _ (h.app acc e)⟩
theorem App2.of_same{p q:Nat}{σ σ':Store}(hpq:p≠q)(h:Same p σ σ'):App2 p q [] σ σ':=⟨h.weak.imp fun j e=>.inl e,fun acc e=>by rw[h.get q (Ne.symm hpq),List.append_nil];exact e⟩
theorem eF.app2{p q m k:Nat}{l:List V}{σ σ':Store}(h:eF q σ m)(g:App2 p q l σ σ')(hl:l.length+k≤m):eF q σ' k:=by
 refine aT h fun acc a b=>?_;exact⟨_,g.app acc a,by refine eR List.length_append ?_;exact dW 2 544452046419643193864914395793201992104411137 rfl hl b⟩
theorem gP(kd:List (Str × V))(k:Str)(v:V):(bn kd k v).length≤kd.length+1:=by
 unfold bn;split
 ·rw[List.length_map];exact bI 0 420479233 rfl
 ·refine eR List.length_append ?_;exact Nat.le_refl _
theorem im:∀(ns:List Str)(vs:List V)(kd:List (Str × V)),(dp ns vs kd).length≤kd.length+vs.length
 |[],vs,kd=>Nat.le_add_right _ _
 |_::_,[],kd=>Nat.le_add_right _ _
 |n::ns,v::vs,kd=>by
  have:=im ns vs (bn kd n v)
  have:=gP kd n v
  show(dp ns vs (bn kd n v)).length≤kd.length+(vs.length+1)
  lia
theorem tL{a b:V}{x:Bool}(h:bJ a b=some x):zP a b=some x:=by
 induction a using V.casesOn with
 |int i=>exact h
 |str t=>exact h
 |_=>exact nomatch h
theorem kK{σ:Store}{i:Option Nat}{c:V}{xs:List V}(h:(bJ c (.str "never")).isSome=true):gn σ .Eq (.tup i [c,.lst xs]) bB=some false:=by
 show(bJ c (.str "never")).bind (fun x=>(dZ [.lst xs] []).bind fun y=>some (x&&y))=_
 refine Exists.elim (Option.isSome_iff_exists.mp h) fun b e=>?_
 refine eR e ?_
 show some (b&&false)=_
 rw[Bool.and_false]
section
variable {n p q:Nat}
theorem AC{T:Tab}{c:Calls}{a b:E}{l m:List V}{ρ:ay}{σ σ1 σ2:Store}(h:ak T c a ρ σ=some (.lst l,σ1))(h':ak T c b ρ σ1=some (.lst m,σ2)):cH T c (.zip a b) ρ σ=some (cI l m,σ2):=by
 show(ak T c a ρ σ).bind _=_;refine eR h ?_;show(ak T c b ρ σ1).bind _=_;refine eR h' ?_;rfl
noncomputable abbrev Ce:Ss:=.cons (.setItem (.var 94) (.var 97) (.var 98)) .nil
theorem lB:∀{ns:List Str}{xs:List V}{kd:List (Str × V)}{ρ:ay}{σ:Store},σ.cells[p]? =some (.dict kd)→kd.length+xs.length≤100000→ρ 94=some (.v (.loc p))→
  ∃ρ' σ',aZ (fq af.toTab (ac af n) n [97,98] Ce) (cI (ns.map V.str) xs) ρ σ=some (.next,ρ',σ')∧Same p σ σ'∧σ'.cells[p]? =some (.dict (dp ns xs kd))∧∀j,j≠97→j≠98→ρ' j=ρ j
 |[],xs,kd,ρ,σ,hc,_,_=>gi ρ σ rfl (Same.refl _ _) hc (fun _ _ _=>rfl)
 |_::_,[],kd,ρ,σ,hc,_,_=>gi ρ σ rfl (Same.refl _ _) hc (fun _ _ _=>rfl)
 |m::ns,x::xs,kd,ρ,σ,hc,hl,h94=>by
  have h1:kd.length+(xs.length+1)≤100000:=hl
  refine f8 (lB (ns:=ns) (xs:=xs) (kd:=bn kd m x) (ρ:=(ρ.set 97 (.v (.str m))).set 98 (.v x)) (σ:=σ.put p (.dict (bn kd m x))) (cW hc) (bw 2 559609666944283223155972615797633275904933889 rfl h1 (gP kd m x)) h94) fun ρ' σ' e S c j=>?_
  refine gi ρ' σ' (cj (ρ1:=(ρ.set 97 (.v (.str m))).set 98 (.v x)) (σ1:=σ.put p (.dict (bn kd m x))) (bg (lA (d:=x) (k:=m) (aa rfl) h94 (aa rfl) hc (by show _≤1000000;exact aP 1 1934282232618417704855510462721 rfl hl)) rfl) e) ((cn p σ _).trans S) c (fun k k1 k2=>?_)
  refine eR (j k k1 k2) ?_;simp only [ay.set,if_neg k1,if_neg k2]
noncomputable abbrev BB:Ss:=.cons (.ite (.cmp .Eq (.item (.var 95) (.neg (.int 1))) (.item (.var 88) (.int 0))) (.cons (.for [97,98] (.zip (.var 80) (.item (.var 88) (.int 1))) (.cons (.setItem (.var 94) (.var 97) (.var 98)) .nil)) (.cons (.ret (.var 84)) .nil)) .nil) .nil
theorem u2{b c o:V}{bs:List V}{y:List V × V}(h:gV (b::bs) c o=some y):∃i1 i2 ks ls t,b=.tup i1 [.tup i2 ks,.lst ls,t]:=by
 induction b using V.casesOn with
 |tup i1 l=>induction l using List.casesOn with
  |nil=>exact nE h
  |cons x l=>induction x using V.casesOn with
   |tup i2 ks=>induction l using List.casesOn with
    |nil=>exact nE h
    |cons y l=>induction y using V.casesOn with
     |lst ls=>induction l using List.casesOn with
      |nil=>exact nE h
      |cons t l=>induction l using List.casesOn with
       |nil=>exact⟨_,_,_,_,_,rfl⟩
       |cons=>exact nE h
     |_=>exact nE h
   |_=>exact nE h
 |_=>exact nE h
theorem lm{c o t:V}{ns:List Str}{xs:List V}{i:Option Nat}{kd:List (Str × V)}:∀{bs:List V}{ρ:ay}{σ:Store},gV bs c o=some (ns.map V.str,t)→σ.cells[p]? =some (.dict kd)→kd.length+xs.length≤100000→
  ρ 88=some (.v (.tup i [c,.lst xs]))→ρ 94=some (.v (.loc p))→
  ∃fl ρ' σ',aZ (fq af.toTab (ac af n) n [95,80,84] BB) bs ρ σ=some (fl,ρ',σ')∧Same p σ σ'∧σ'.cells[p]? =some (.dict (dp ns xs kd))∧(fl=.ret t∨(fl=.next∧t=o∧ρ' 96=ρ 96))
 |[],ρ,σ,hp,hc,hl,h88,h94=>by
  have h1:([],o)=(ns.map V.str,t):=Option.some.inj hp
  injection h1 with h2 h3
  have:ns=[]:=List.map_eq_nil_iff.mp h2.symm
  clear c i hp hl h88 h94 h2;subst this
  exact wS .next ρ σ rfl (Same.refl _ _) hc (.inr ⟨rfl,h3.symm,rfl⟩)
 |b::bs,ρ,σ,hp,hc,hl,h88,h94=>by
  obtain⟨i1,i2,ks,ls,t',rfl⟩:=u2 hp
  have hp':(match cr ks (-1)with
   |some k=>(match bJ k c with
    |some true=>some (ls,t')
    |some false=>gV bs c o
    |none=>none)
   |none=>none)=some (ns.map V.str,t):=hp
  cases hk:cr ks (-1)with
  |none=>rw[hk]at hp';exact nE hp'
  |some k=>
   replace hp':=hk▸hp';dsimp only at hp'
   let ρ1:=((ρ.set 95 (.v (.tup i2 ks))).set 80 (.v (.lst ls))).set 84 (.v t')
   have ec:∀{x:Bool},bJ k c=some x→ak af.toTab (ac af n) (.cmp .Eq (.item (.var 95) (.neg (.int 1))) (.item (.var 88) (.int 0))) ρ1 σ=some (.bool x,σ):=fun{x} h=>
    aQ (o:=k) (k:=c) (aH (o:=.tup i2 ks) (k:=.int (-1)) (aa rfl) rfl hk) (aH (o:=.tup i [c,.lst xs]) (k:=.int (0:Nat)) (aa h88) rfl rfl) (tL h)
   cases ha:bJ k c with
   |none=>replace hp':=ha▸hp';exact nE hp'
   |some x=>
    rw[ha]at hp'
    induction x using Bool.casesOn with
    |true=>
     injection (show(ls,t')=(ns.map V.str,t)from Option.some.inj hp')with h2 h3
     clear hp hk hp';subst h2;subst h3
     refine f8 (lB (n:=n) (ns:=ns) (xs:=xs) (ρ:=ρ1) hc hl h94) fun ρ' σ' e S cc j=>?_
     have hit:=AC (T:=af.toTab) (c:=ac af n) (a:=.var 80) (b:=.item (.var 88) (.int 1)) (ρ:=ρ1) (σ:=σ) (l:=ns.map V.str) (m:=xs) (aa rfl) (aH (o:=.tup i [c,.lst xs]) (k:=.int (1:Nat)) (aa h88) rfl rfl)
     exact wS (.ret t') ρ' σ' (kU (aD (ec ha) (eg hit e (aN (aa (by rw[j 84 (by decide) (by decide)];rfl)))))) S cc (.inl rfl)
    |false=>
     refine yq (lm (bs:=bs) (ρ:=ρ1) (σ:=σ) (i:=i) hp' hc hl h88 h94) fun fl ρ' σ' e S cc r=>?_
     exact wS fl ρ' σ' (cj (ao (ec ha) rfl) e) S cc r
theorem pQ{c o t:V}{ns:List Str}{xs:List V}{i:Option Nat}{kd:List (Str × V)}{bs:List V}{nm:Str}{σ:Store}(hp:gV bs c o=some (ns.map V.str,t))(hc:σ.cells[p]? =some (.dict kd))(hl:kd.length+xs.length≤100000):
  ∃σ',(ac af (n+1)).fn 713 [.inst 418 [(2,.str nm),(20,.lst bs),(14,o)],.tup i [c,.lst xs],.loc p] σ=some (t,σ')∧Same p σ σ'∧σ'.cells[p]? =some (.dict (dp ns xs kd)):=by
 refine yq (lm (n:=n) (p:=p) (i:=i) (ρ:=aq [96,88,94] [.inst 418 [(2,.str nm),(20,.lst bs),(14,o)],.tup i [c,.lst xs],.loc p]) hp hc hl rfl rfl) fun fl ρ' σ' e S cc r=>?_
 have hit:cH af.toTab (ac af n) (.val (.attr (.var 96) 20)) (aq [96,88,94] [.inst 418 [(2,.str nm),(20,.lst bs),(14,o)],.tup i [c,.lst xs],.loc p]) σ=some (bs,σ):=c8 (d:=.lst bs) (aw (aa rfl) rfl) rfl
 refine iK σ' ?_ S cc
 clear ns kd hp hc hl S cc;rcases r with rfl|⟨rfl,rfl,h96⟩
 ·exact aI (fi:=⟨[96,88,94],zF⟩) (ρ':=ρ') rfl rfl (gR hit e)
 ·exact aI (fi:=⟨[96,88,94],zF⟩) (ρ':=ρ') rfl rfl (eg hit e (aN (aw (aa (h96.trans rfl)) rfl)))
noncomputable abbrev C2:E:=.not (.isi (.var 93) [383,397])
noncomputable abbrev C9:Ss:=.cons (.ite (.isi (.var 93) [460]) (.cons (.setItem (.var 94) (.attr (.var 93) 2) (.item (.item (.item (.var 94) (.attr (.var 93) 4)) (.int 1)) (.int 0))) (.cons (.assign 93 (.attr (.var 93) 21)) .nil)) (.cons (.assign 88 (.item (.var 94) (.attr (.var 93) 2))) (.cons (.append (.var 91) (.var 88)) (.cons (.ite (.cmp .Eq (.var 88) (.glob 6)) (.cons (.ret (.glob 6)) .nil) .nil) (.cons (.ite (.isi (.var 93) [439]) (.cons (.assign 93 (.attr (.var 93) 21)) .nil) (.cons (.assign 93 (.call 713 (.cons (.var 93) (.cons (.var 88) (.cons (.var 94) .nil))))) .nil)) .nil))))) .nil
noncomputable abbrev C1:E:=.ite (.isi (.var 93) [383]) (.attr (.var 93) 17) .none
theorem nA{σ:Store}{kd:List (Str × V)}{k:Str}{d:V}(hc:σ.cells[p]? =some (.dict kd))(h:cY kd k=some d):fj σ (.loc p) (.str k)=some d:=by
 show(match σ.cells[p]? with|some (.dict es)=>some es|_=>none).bind (fun es=>cY es k)=_
 refine eR hc ?_;exact h
theorem jc{σ:Store}{ρ:ay}{C:Nat}{fs:List (Nat × V)}{nm:Str}{d:V}{kd:List (Str × V)}(hpq:p≠q)(hf:oQ af.toTab (.inst C fs) 2=some (.str nm))(hd:cY kd nm=some d)(h93:ρ 93=some (.v (.inst C fs)))(h94:ρ 94=some (.v (.loc p)))(h91:ρ 91=some (.v (.loc q)))(hc:σ.cells[p]? =some (.dict kd))(hL:eF q σ 1):
  ∃σ1,ak af.toTab (ac af (n+1)) (.item (.var 94) (.attr (.var 93) 2)) ρ σ=some (d,σ)∧bA af.toTab (ac af (n+1)) (n+1) (.append (.var 91) (.var 88)) (ρ.set 88 (.v d)) σ=some (.next,ρ.set 88 (.v d),σ1)∧App2 p q [d] σ σ1∧σ1.cells[p]? =some (.dict kd):=by
 refine aT hL fun acc hq hl=>?_
 refine Cs (σ.put q (.list (acc++[d]))) (aH (o:=.loc p) (k:=.str nm) (aa h94) (aw (aa h93) hf) (nA hc hd)) (jA h91 (aa rfl) hq hq (by show _≤1000000;exact bI 1 1934282234094157230752274592001 rfl hl)) ⟨(cO q σ _).imp fun j e=>.inr e,fun acc' h=>by rw[hq]at h;cases h;exact cW hq⟩ ?_
 refine eR ((cO q σ _).get p hpq) ?_;exact hc
theorem vm{σ:Store}:gn σ .Eq bB bB=some true:=oF .never
theorem sa{h:Nat}{t:V}{kd:List (Str × V)}{r:V}{a:List V}(w:Walk h t kd r a):∀{ρ:ay}{σ:Store}{f:Nat},p≠q→h<f→ρ 93=some (.v t)→ρ 94=some (.v (.loc p))→ρ 91=some (.v (.loc q))→σ.cells[p]? =some (.dict kd)→kd.length+2*h≤50000→eF q σ h→
  ∃fl ρ' σ',cu (ak af.toTab (ac af (n+1)) C2) (au af.toTab (ac af (n+1)) (n+1) C9) f ρ σ=some (fl,ρ',σ')∧App2 p q a σ σ'∧(fl=.ret r∨(fl=.next∧ak af.toTab (ac af (n+1)) C1 ρ' σ'=some (r,σ'))):=by
 induction w with
 |leaf=>
  intro ρ σ f hpq hf h93 h94 h91 hc hl hL
  obtain⟨f,rfl⟩:=sx f 1 (aP 1 19315541952065 rfl hf)
  exact vZ .next ρ σ (bV (gf (ah h93 rfl rfl))) (App2.refl _ _ _) (.inr ⟨rfl,cA (ah h93 rfl rfl) (aw (aa h93) rfl)⟩)
 |nothing=>
  intro ρ σ f hpq hf h93 h94 h91 hc hl hL
  obtain⟨f,rfl⟩:=sx f 1 (aP 1 19315541952065 rfl hf)
  exact vZ .next ρ σ (bV (gf (ah h93 rfl rfl))) (App2.refl _ _ _) (.inr ⟨rfl,bT (ah h93 rfl rfl) rfl⟩)
 | @proj h nm cc x t kd i c y ys r a hd _ ih=>
  intro ρ σ f hpq hf h93 h94 h91 hc hl hL
  obtain⟨f,rfl⟩:=sx f 1 (aP 1 79204763216135746 rfl hf)
  have hdl:=gP kd nm y
  refine Ad (ih (ρ:=ρ.set 93 (.v t)) (σ:=σ.put p (.dict (bn kd nm y))) (f:=f) hpq (aP 1 7579427479529259547246593 rfl hf) rfl h94 h91 (cW hc) (bw 2 9388692253758770013552248251569274917073386115186689 rfl hl hdl) (hL.app2 (l:=[]) (App2.of_same hpq (cn p σ _)) (k:=h) (by exact bI 0 1722283032577 rfl))) fun fl ρ' σ' e A k=>?_
  refine vZ fl ρ' σ' (eV (gf (ah h93 rfl rfl)) (cT (ah h93 rfl rfl) (bg (lA (d:=y) (k:=nm) (aH (o:=.lst (y::ys)) (k:=.int (0:Nat)) (aH (o:=.tup i [c,.lst (y::ys)]) (k:=.int (1:Nat)) (aH (o:=.loc p) (k:=.str x) (aa h94) (aw (aa h93) rfl) (nA hc hd)) rfl rfl) rfl rfl) h94 (aw (aa h93) rfl) hc (by show _≤1000000;exact aP 1 16225943163458364528334824152572637441 rfl hl)) (ag (aw (aa h93) rfl) rfl)) rfl) e) ((App2.of_same hpq (cn p σ _)).trans A) k
 | @forceN h nm t kd hd=>
  intro ρ σ f hpq hf h93 h94 h91 hc hl hL
  obtain⟨f,rfl⟩:=sx f 1 (aP 1 79204763216135746 rfl hf)
  refine z8 (jc (n:=n) hpq rfl hd h93 h94 h91 hc (hL.mono (bI 0 420480577 rfl))) fun σ1 e1 e2 A _=>?_
  exact vZ _ _ σ1 (yc (gf (ah h93 rfl rfl)) (n7 (ah h93 rfl rfl) (ag e1 (bg e2 (aD (aQ (k:=bB) (aa rfl) rfl vm) (aN rfl)))))) A (.inl rfl)
 | @switchN h nm bs o kd hd=>
  intro ρ σ f hpq hf h93 h94 h91 hc hl hL
  refine Exists.elim (sx f 1 (aP 1 79204763216135746 rfl hf)) fun f z1=>?_;clear t r a hf hl;subst z1
  refine z8 (jc (n:=n) hpq rfl hd h93 h94 h91 hc (hL.mono (bI 0 420480577 rfl))) fun σ1 e1 e2 A _=>?_
  exact vZ _ _ σ1 (yc (gf (ah h93 rfl rfl)) (n7 (ah h93 rfl rfl) (ag e1 (bg e2 (aD (aQ (k:=bB) (aa rfl) rfl vm) (aN rfl)))))) A (.inl rfl)
 | @force h nm t kd i c xs r a hd ha _ ih=>
  intro ρ σ f hpq hf h93 h94 h91 hc hl hL
  obtain⟨f,rfl⟩:=sx f 1 (aP 1 79204763216135746 rfl hf)
  refine z8 (jc (n:=n) hpq rfl hd h93 h94 h91 hc (hL.mono (bI 0 420480577 rfl))) fun σ1 e1 e2 A c1=>?_
  refine Ad (ih (ρ:=(ρ.set 88 (.v (.tup i [c,.lst xs]))).set 93 (.v t)) (σ:=σ1) (f:=f) hpq (aP 1 7579427479529259547246593 rfl hf) rfl h94 h91 c1 (aP 1 4253533644641629510915813818367453834788865 rfl hl) (hL.app2 A (by exact bI 0 1722283036673 rfl))) fun fl ρ' σ' e A' k=>?_
  exact vZ fl ρ' σ' (eV (gf (ah h93 rfl rfl)) (cU (ah h93 rfl rfl) (ag e1 (bg e2 (ao (aQ (k:=bB) (aa rfl) rfl (kK ha)) (cT (ah h93 rfl rfl) (ag (aw (aa h93) rfl) rfl) rfl)))) rfl) e) (A.trans A') k
 | @switch h nm bs o kd i c xs ns t r a hd ha hx hp _ ih=>
  intro ρ σ f hpq hf h93 h94 h91 hc hl hL
  obtain⟨f,rfl⟩:=sx f 1 (aP 1 79204763216135746 rfl hf)
  refine z8 (jc (n:=n) hpq rfl hd h93 h94 h91 hc (hL.mono (bI 0 420480577 rfl))) fun σ1 e1 e2 A c1=>?_
  refine jv (pQ (n:=n) (nm:=nm) (i:=i) (xs:=xs) hp c1 (bw 2 272226153257388807252271534632394275029270529 rfl hx hl)) fun σ2 e3 S c2=>?_
  have A2:=A.trans (App2.of_same hpq S)
  refine Ad (ih (ρ:=(ρ.set 88 (.v (.tup i [c,.lst xs]))).set 93 (.v t)) (σ:=σ2) (f:=f) hpq (aP 1 7579427479529259547246593 rfl hf) rfl h94 h91 c2 (dW 3 599207260017284043527248927750982705366340093347168010241 rfl hx hl (im ns xs kd)) (hL.app2 A2 (by exact bI 0 1722283036673 rfl))) fun fl ρ' σ' e A' k=>?_
  exact vZ fl ρ' σ' (eV (gf (ah h93 rfl rfl)) (cU (ah h93 rfl rfl) (ag e1 (bg e2 (ao (aQ (k:=bB) (aa rfl) rfl (kK ha)) (cU (ah h93 rfl rfl) (ag (aJ (aF (aa h93) (aa rfl) (aa h94)) e3) rfl) rfl)))) rfl) e) (A2.trans A') k
theorem sh{h:Nat}{t:V}{kd:List (Str × V)}{r:V}{a:List V}{σ:Store}(w:Walk h t kd r a)(hn:h≤n)(hpq:p≠q)(hc:σ.cells[p]? =some (.dict kd))(hl:kd.length+2*h≤50000)(hL:eF q σ h):
  ∃σ',(ac af (n+2)).fn 706 [t,.loc p,.loc q] σ=some (r,σ')∧App2 p q a σ σ':=by
 refine Ad (sa (n:=n) w (ρ:=aq [93,94,91] [t,.loc p,.loc q]) (f:=n+1) hpq (aP 1 91204013862961153 rfl hn) rfl rfl rfl hc hl hL) fun fl ρ' σ' e A k=>?_
 refine bi σ' ?_ A
 rcases k with rfl|⟨rfl,k⟩
 ·exact aI (fi:=⟨[93,94,91],zD⟩) (ρ':=ρ') rfl rfl (sS e)
 ·exact aI (fi:=⟨[93,94,91],zD⟩) (ρ':=ρ') rfl rfl (gI e (aN k))
end
end Mine
namespace Mine
open PySem PySem.W
section
variable {T:Tab}{c:Calls}{wf n:Nat}{ρ ρ':ay}{σ σ1 σ2 σ':Store}{s q k:Nat}
theorem dw{j:Nat}{x d:Cell}(h:σ.cells[j]? =some d):(σ.push x).cells[j]? =some d:=by
 show(σ.cells++[x])[j]? =_
 rw[List.getElem?_append_left (List.getElem?_eq_some_iff.mp h).1,h]
theorem dM{x:Cell}:(σ.push x).cells[σ.cells.length]? =some x:=by
 show(σ.cells++[x])[_]? =_
 rw[List.getElem?_append_right (Nat.le_refl _),Nat.sub_self];rfl
theorem pg{j:Nat}{d:Cell}(h:σ.cells[j]? =some d):j<σ.cells.length:=(List.getElem?_eq_some_iff.mp h).1
theorem du.push(h:du σ s)(x:Cell):du (σ.push x) s:=eB h fun a b e r=>dA a b (dw e) r
theorem du.same{P:Nat→Prop}(h:du σ s)(S:SameN P σ σ')(hs:¬P s):du σ' s:=eB h fun a b e r=>dA a b ((S.get s hs).trans e) r
theorem du.lt(h:du σ s):s<σ.cells.length:=eB h fun _ _ e _=>pg e
theorem jd{es:Es}{vs:List V}(h:b8 T c es ρ σ=some (vs,σ1))(hl:vs.length≤100):ak T c (.listm es) ρ σ=some (.loc σ1.cells.length,σ1.push (.list vs)):=by
 show(b8 T c es ρ σ).bind _=_;refine eR h ?_;exact if_pos hl
theorem wL{C f x:Nat}{fi:Fn}{ps:List Nat}{vs:List V}{fs:List (Nat × V)}(hi:af.inits C=some (some f))(hf:af.fns f=some fi)(hp:fi.params=x::ps)(hl:ps.length=vs.length)(h:au af.toTab (ac af n) n fi.body ((aq ps vs).set x (.owni C [])) σ=some (.next,ρ',σ'))(hx:ρ' x=some (.v (.inst C fs))):
  (ac af (n+1)).new C vs σ=some (.inst C fs,σ'):=by
 show jP af (ac af n) n C vs σ=_
 unfold jP
 refine eR hi ?_;show(af.fns f).bind _=_
 rw[hf,Option.bind_some,hp];dsimp only
 rw[if_pos hl,h,Option.bind_some];show(i3 (ρ' x)).bind _=_
 rw[hx];rfl
theorem oI{x:Int}{k:Nat}(hk:k≤1)(h68:ρ 68=some (.v (.int x)))(h69:ρ 69=some (.v (.int (k:Int)))):
  ∃a b ρ',au af.toTab c wf (tl (tl xo)) ρ σ=some (.ret (.loc σ.cells.length),ρ',σ.push (.list [.int a,.int b]))∧0≤a∧0≤b∧b<2147483647:=by
 let z:Int:=if-1-x>x then-1-x else x
 have hz:0≤z:=by show(0:Int)≤if-1-x>x then-1-x else x;split<;>lia
 let m:Int:=(z % 2147483629+7919*k*k+31*k+17)*48271
 have b0:=Int.emod_nonneg m (show(2147483647:Int)≠0 by decide)
 have b1:=Int.emod_lt_of_pos m (show(0:Int)<2147483647 by decide)
 have e71:ak af.toTab c (.blt .max (.cons (.blt .int (.cons (.var 68) .nil)) (.cons (.blt .int (.cons (.bin .Sub (.neg (.int 1)) (.var 68)) .nil)) .nil))) ρ σ=some (.int z,σ):=
  bH (vs:=[.int x,.int (-1-x)]) (aB (bH (vs:=[.int x]) (az (aa h68)) rfl) (bH (vs:=[.int (-1-x)]) (az (bh (o:=.int (-1)) (yf rfl) (aa h68) rfl)) rfl)) rfl
 have k2:(k:Int).natAbs<2 ^ 64:=by lia
 refine wS (z*(if decide (z≥10 ^ 18)then 1 else 0)) (m % 2147483647) ((ρ.set 71 (.v (.int z))).set 72 (.v (.int (m % 2147483647)))) (ag e71 (ag (d:=.int (m % 2147483647)) (bh (o:=.int m) (k:=.int 2147483647) (bH (vs:=[.int m]) (az (bh (o:=.int (z % 2147483629+7919*k*k+31*k+17)) (k:=.int 48271)
  (bh (o:=.int (z % 2147483629+7919*k*k+31*k)) (k:=.int 17) (bh (o:=.int (z % 2147483629+7919*k*k)) (k:=.int (31*k)) (bh (o:=.int (z % 2147483629)) (k:=.int (7919*k*k)) (bh (o:=.int z) (k:=.int 2147483629) (bH (vs:=[.int z]) (az (aa rfl)) rfl) rfl (fX (by decide)))
   (bh (o:=.int (7919*k)) (bh (o:=.int 7919) rfl (aa h69) (e9 k2)) (aa h69) (e9 k2)) rfl) (bh (o:=.int 31) rfl (aa h69) (e9 k2)) rfl) rfl rfl) rfl (e9 (by decide)))) rfl) rfl (fX (by decide))) (aN (jd (vs:=[.int _,.int _]) (aB (bh (o:=.int z) (k:=.int (if decide (z≥10 ^ 18)then 1 else 0)) (aa rfl)
   (bH (vs:=[.bool (decide (z≥10 ^ 18))]) (az (aQ (o:=.int z) (k:=.int (10 ^ 18)) (aa rfl) rfl rfl)) rfl) (e9 (by split<;>decide))) (aa rfl)) rH)))) ?_ b0 b1
 split
 ·rw[Int.mul_one];exact hz
 ·rw[Int.mul_zero];exact Int.le_refl 0
theorem xI{is:List Int}{k:Nat}(hk:k≤1)(hl:is.length≤1000):
  ∃a b,(ac af (n+1)).fn 654 [.lst (is.map V.int),.int (k:Int)] σ=some (.loc σ.cells.length,σ.push (.list [.int a,.int b]))∧0≤a∧0≤b∧b<2147483647:=by
 let ρ0:ay:=(aq [70,69] [.lst (is.map V.int),.int (k:Int)]).set 68 (.v (.int 0))
 have el:ak af.toTab (ac af n) (.blt .len (.cons (.var 70) .nil)) ρ0 σ=some (.int (is.length:Nat),σ):=by
  refine bH (vs:=[.lst (is.map V.int)]) (az (aa rfl)) ?_
  show(if(is.map V.int).length≤bq then some (V.int ((is.map V.int).length:Nat),σ)else none)=_
  rw[List.length_map,if_pos (by show _≤1000000;exact bI 1 4722517587942594942349569 rfl hl)]
 have ec:ak af.toTab (ac af n) (.cmp .Lt (.var 69) (.blt .len (.cons (.var 70) .nil))) ρ0 σ=some (.bool (decide ((k:Int)<(is.length:Nat))),σ):=aQ (o:=.int k) (k:=.int (is.length:Nat)) (aa rfl) el rfl
 by_cases h:(k:Int)<(is.length:Nat)
 ·rw[decide_eq_true h]at ec
  have hk':k<is.length:=by lia
  refine kT (oI (c:=ac af n) (wf:=n) (σ:=σ) (x:=is[k]) (ρ:=ρ0.set 68 (.v (.int is[k]))) hk rfl rfl) fun a b ρ' e r=>?_
  exact⟨a,b,aI (fi:=⟨[70,69],xo⟩) (ρ':=ρ') rfl rfl (ag rfl (cT ec (ag (aH (o:=.lst (is.map V.int)) (k:=.int (k:Nat)) (aa rfl) (aa rfl) (dP (by lia) (by refine eR (List.getElem?_map) ?_;refine eR (List.getElem?_eq_getElem hk') ?_;rfl))) rfl) e)),r⟩
 ·replace ec:=(decide_eq_false h)▸ec
  refine kT (oI (c:=ac af n) (wf:=n) (σ:=σ) (x:=0) (ρ:=ρ0) hk rfl rfl) fun a b ρ' e r=>?_
  exact⟨a,b,aI (fi:=⟨[70,69],xo⟩) (ρ':=ρ') rfl rfl (ag rfl (ao ec e)),r⟩
theorem v9{d:Nat}(h:d<6):∃ki,fj σ (.str "NTNPLI") (.int (d:Int))=some (.str (di ki)):=by
 exact CS h ⟨.N,by kernel_rfl⟩ ⟨.T,by kernel_rfl⟩ ⟨.N,by kernel_rfl⟩ ⟨.P,by kernel_rfl⟩ ⟨.L,by kernel_rfl⟩ ⟨.I,by kernel_rfl⟩
theorem vI(h:PG s q σ k):∃ki σ',(ac af (n+2)).fn 668 [.loc s,.str "NTNPLI"] σ=some (.str (di ki),σ')∧PG s q σ' k:=by
 refine f8 (dm (n:=n) (top:=6) h (by decide) (by decide)) fun d σ' e hd P S=>?_
 obtain⟨ki,hk⟩:=v9 (σ:=σ') hd
 exact dA ki σ' (aI (fi:=⟨[73,76],wF⟩) (ρ':=_) rfl rfl (aN (aH (o:=.str "NTNPLI") (k:=.int (d:Int)) (aa rfl) (aJ (vs:=[.loc s,.int ((6:Nat):Int)]) (aB (aa rfl) (bH (vs:=[.str "NTNPLI"]) (az (aa rfl)) (by kernel_rfl))) e) hk))) P
noncomputable abbrev pO(ks:List Ki):V:=.lst (ks.map fun k=>V.str (di k))
noncomputable abbrev CB:E:=.call 668 (.cons (.var 73) (.cons (.str "NTNPLI") .nil))
noncomputable abbrev yB(T:Tab)(c:Calls)(ρ:ay)(elt:E)(tg fv:List Nat):V→Store→Option (List V × Store):=fun x σ=>(cP tg x (bo ρ fv)).bind fun ρ'=>(ak T c elt ρ' σ).bind fun(d,σ)=>some ([d],σ)
theorem pj{elt:E}{x fv:Nat}{d v:V}{fvs:List Nat}(h:ak T c elt ((bo ρ fvs).set x (.v v)) σ=some (d,σ1)):yB T c ρ elt [x] fvs v σ=some ([d],σ1):=by
 show(ak T c elt ((bo ρ fvs).set x (.v v)) σ).bind _=_;refine eR h ?_;rfl
theorem pG(h73:ρ 73=some (.v (.loc s))){l:List V}(h:PG s q σ k):∃(ks:List Ki)(σ':Store),compLoop (yB af.toTab (ac af (n+2)) ρ CB [31] [73]) l σ=some (ks.map fun k=>V.str (di k),σ')∧ks.length=l.length∧PG s q σ' k:=by
 induction l generalizing σ with
 |nil=>exact gc ([]) σ rfl rfl h
 |cons x l ih=>
  refine eB (vI (n:=n) h) fun ki σ1 e1 P1=>?_
  refine hU (ih P1) fun ks σ2 e2 l2 P2=>?_
  exact gc (ki::ks) σ2 (cJ (ys:=[_]) (pj (fv:=0) (aJ (vs:=[.loc s,.str "NTNPLI"]) (aB (aa (ci (fv:=[73]) h73 rfl)) rfl) e1)) e2) (congrArg Nat.succ l2) P2
noncomputable abbrev CD:E:=.call 680 (.cons (.var 73) (.cons (.var 79) (.cons (.int 1) (.cons (.var 80) .nil))))
theorem u5(h73:ρ 73=some (.v (.loc s)))(h80:ρ 80=some (.v (.loc q))){ks:List Ki}(h:PG s q σ k)(hk:k+5*ks.length≤700):
  ∃ps σ',compLoop (yB af.toTab (ac af (n+7)) ρ CD [79] [80,73]) (ks.map fun k=>V.str (di k)) σ=some (ps.map aM,σ')∧bQ ks ps∧bS ps≤5*ks.length∧PG s q σ' (k+5*ks.length):=by
 induction ks generalizing σ k with
 |nil=>exact gi ([]) σ rfl trivial (Nat.zero_le _) h
 |cons ki ks ih=>
  rw[List.length_cons]at hk ⊢
  refine s7 (xF (n:=n) (ki:=ki) h (aP 1 55462255247934607448023996313857 rfl hk)) fun p σ1 e1 o1 z1 P1 _=>?_
  refine f8 (ih P1 (aP 1 3811337159236536168573777343866169619120129 rfl hk)) fun ps σ2 e2 o2 z2 P2=>?_
  exact gi (p::ps) σ2 (cJ (ys:=[_]) (pj (fv:=0) (aJ (b5 (aa (ci (fv:=[80,73]) h73 rfl)) (aF (d2:=.int 1) (aa (x:=79) rfl) rfl (aa (ci (fv:=[80,73]) h80 rfl)))) e1)) e2) ⟨o1,o2⟩ (by rw[bk];exact bw 2 511290097062075965017345507329 rfl z1 z2) (P2.mono (aP 0 485083626167685589962326017 rfl))
noncomputable abbrev Cj:Ss:=.cons (.append (.var 100) (.comp CD [79] (.val (.var 105)) [80,73])) .nil
structure RowsOk(ks:List Ki)(rs:List (List Pt))(m:Nat):Prop where
 n:rs.length=m
 ok:∀r∈rs,bQ ks r∧bS r≤10
theorem r7{ks:List Ki}(hks:ks.length≤2){l:List V}{rs:List (List Pt)}(h73:ρ 73=some (.v (.loc s)))(h80:ρ 80=some (.v (.loc q)))(h105:ρ 105=some (.v (pO ks)))(h100:ρ 100=some (.own (rs.map fF)))(R:RowsOk ks rs (rs.length))(h:PG s q σ k)(hk:k+10*l.length≤700)(hl:rs.length+l.length≤100):
  ∃rs' ρ' σ',aZ (fq af.toTab (ac af (n+7)) wf [99] Cj) l ρ σ=some (.next,ρ',σ')∧ρ' 100=some (.own (rs'.map fF))∧RowsOk ks rs' (rs.length+l.length)∧PG s q σ' 700∧∀j,j≠99→j≠100→ρ' j=ρ j:=by
 induction l generalizing σ k ρ rs with
 |nil=>exact qF rs ρ σ rfl h100 R (h.mono (aP 1 13540588217846455689936384257 rfl hk)) (fun _ _ _=>rfl)
 |cons x l ih=>
  rw[List.length_cons]at hk hl ⊢
  refine f8 (u5 (n:=n) (ρ:=ρ.set 99 (.v x)) h73 h80 (ks:=ks) h (bw 2 243925578211932855234937128289844265165799425 rfl hks hk)) fun ps σ1 e1 o1 z1 P1=>?_
  have e100:=dJ (wf:=wf) (x:=100) (ρ:=ρ.set 99 (.v x)) h100 (cM (c8 (d:=pO ks) (aa (ρ:=ρ.set 99 (.v x)) (x:=105) (σ:=σ) h105) rfl) (by rw[List.length_map];exact Nat.le_trans hks (by decide)) e1) (by rw[List.length_map];exact aP 1 7925357739347163012155768320257 rfl hl)
  have R':RowsOk ks (rs++[ps]) ((rs++[ps]).length):=⟨rfl,fun r m=>(List.mem_append.mp m).elim (R.ok r) fun m=>by refine eR (List.mem_singleton.mp m) ?_;exact⟨o1,aP 2 6287324243694067969 rfl hks z1⟩⟩
  have ln:(rs++[ps]).length=rs.length+1:=by refine eR List.length_append ?_;rfl
  refine zW (ih (rs:=rs++[ps]) (ρ:=(ρ.set 99 (.v x)).set 100 (.own (rs.map fF++[fF ps]))) h73 h80 h105 (by refine eR List.map_append ?_;rfl) R' P1 (bw 2 4092392113586491289773270947738427862469766017974273 rfl hks hk) (bw 2 136623453727950441035563157000214136766465 rfl hl (Nat.le_of_eq ln))) fun rs' ρ' σ' e a b P j=>?_
  refine qF rs' ρ' σ' (cj (bg e100 rfl) e) a ⟨by rw[b.n];exact Nat.le_antisymm (bw 1 7584125208247938244165633 rfl (Nat.le_of_eq ln)) (bw 1 1931743058847052844777473 rfl (Nat.le_of_eq ln.symm)),b.ok⟩ P (fun i i1 i2=>(j i i1 i2).trans ?_)
  simp only [ay.set,if_neg i1,if_neg i2]
end
end Mine
namespace Mine
open PySem PySem.W
section
variable {T:Tab}{c:Calls}{wf n:Nat}{ρ ρ':ay}{σ σ1 σ2 σ':Store}{s q k:Nat}
structure ColOk(cols:List Str)(m:Nat):Prop where
 n:cols.length=m
 nd:cols.Nodup
 hd:∀c∈cols,o5 c=some 115
theorem CM:¬("s0":Str)="s1":=by decide+kernel
theorem xO{ks:List Ki}(h1:1≤ks.length)(h2:ks.length≤2)(h:ρ 105=some (.v (pO ks))):
  ∃cols,ak af.toTab (ac af n) (.comp (.bin .Add (.str "s") (.blt .str (.cons (.var 107) .nil))) [107] (.range (.blt .len (.cons (.var 105) .nil))) []) ρ σ=some (aV cols,σ)∧ColOk cols ks.length:=by
 have el:ak af.toTab (ac af n) (.blt .len (.cons (.var 105) .nil)) ρ σ=some (.int (ks.length:Nat),σ):=by
  refine bH (vs:=[pO ks]) (az (aa h)) ?_
  show(if(ks.map _).length≤bq then some (V.int ((ks.map _).length:Nat),σ)else none)=_
  rw[List.length_map,if_pos (Nat.le_trans h2 (by decide))]
 have it:=de el (Nat.le_trans h2 (by decide))
 have hs:o5 ("s0":Str)=some 115:=by decide+kernel
 have hs1:o5 ("s1":Str)=some 115:=by decide+kernel
 have k0:yB af.toTab (ac af n) ρ (.bin .Add (.str "s") (.blt .str (.cons (.var 107) .nil))) [107] [] (.int 0) σ=some ([.str "s0"],σ):=by kernel_rfl
 have k1:yB af.toTab (ac af n) ρ (.bin .Add (.str "s") (.blt .str (.cons (.var 107) .nil))) [107] [] (.int 1) σ=some ([.str "s1"],σ):=by kernel_rfl
 by_cases e:ks.length=1
 ·rw[e]at it ⊢
  exact⟨["s0"],cM it (by decide) (cJ k0 rfl),rfl,List.nodup_cons.mpr ⟨List.not_mem_nil,List.nodup_nil⟩,fun c m=>List.mem_singleton.mp m▸hs⟩
 ·have e:ks.length=2:=by lia
  rw[e]at it ⊢
  exact⟨["s0","s1"],cM it (by decide) (cJ k0 (cJ k1 rfl)),rfl,List.nodup_cons.mpr ⟨fun m=>CM (List.mem_singleton.mp m),List.nodup_cons.mpr ⟨List.not_mem_nil,List.nodup_nil⟩⟩,fun c m=>(List.mem_cons.mp m).elim (fun e=>e▸hs) fun m=>List.mem_singleton.mp m▸hs1⟩
theorem jm:∀{rs:List (List Pt)}{i:Nat},(∀r∈rs,r.length≤1000)→compLoop (yB af.toTab (ac af (n+1)) ρ (.new 507 (.cons (.var 99) (.cons (.listof (.val (.var 109))) (.cons (.list .nil) (.cons (.bool false) .nil))))) [99,109] []) (gk i (rs.map fF)) σ=some ((cR i rs).map aR,σ)
 |[],_,_=>rfl
 |r::rs,i,h=>by
  refine cJ (ys:=[aR ⟨i,r,[],false⟩]) ?_ (jm (i:=i+1) fun x m=>h x (List.mem_cons_of_mem _ m))
  have e:ak af.toTab (ac af (n+1)) (.new 507 (.cons (.var 99) (.cons (.listof (.val (.var 109))) (.cons (.list .nil) (.cons (.bool false) .nil))))) (((bo ρ []).set 99 (.v (.int (i:Nat)))).set 109 (.v (fF r))) σ=some (aR ⟨i,r,[],false⟩,σ):=by
   refine bz (b5 (d:=.int (i:Nat)) (aa rfl) (aF (d:=fF r) (d2:=.lst []) (d3:=.bool false) ?_ rfl rfl)) (gT i _ [] false)
   show(if(r.map aM).length≤bq then some (V.lst (r.map aM),σ)else none)=_
   refine eR (if_pos (by rw[List.length_map];exact Nat.le_trans (h r List.mem_cons_self) (by decide))) ?_;rfl
  show(ak af.toTab _ _ (((bo ρ []).set 99 (.v (.int (i:Nat)))).set 109 (.v (fF r))) σ).bind _=_
  refine eR e ?_;rfl
theorem yY{e:E}{l:List V}(h:ak T c e ρ σ=some (.lst l,σ1))(hl:l.length≤bq):cH T c (.enum e) ρ σ=some (gk 0 l,σ1):=by
 show(ak T c e ρ σ).bind _=_;refine eR h ?_;show(if l.length≤bq then some (gk 0 l,σ1)else none)=_;rw[if_pos hl]
theorem nU:∀{l:List V}{i:Nat},(gk i l).length=l.length
 |[],_=>rfl
 |_::_,_=>congrArg Nat.succ nU
theorem tz{rs:List (List Pt)}(h:∀r∈rs,r.length≤1000)(hl:rs.length≤1000)(h100:ρ 100=some (.v (fe rs))):ak af.toTab (ac af (n+1)) (.comp (.new 507 (.cons (.var 99) (.cons (.listof (.val (.var 109))) (.cons (.list .nil) (.cons (.bool false) .nil))))) [99,109] (.enum (.var 100)) []) ρ σ=some (aE (cR 0 rs),σ):=by
 have hl:(rs.map fF).length≤bq:=by rw[List.length_map];exact Nat.le_trans hl (by decide)
 exact cM (yY (l:=rs.map fF) (aa h100) hl) (by refine eR nU ?_;exact hl) (jm h)
noncomputable def Aj(x:V):Prop:=∃s,x=.str s∧eY s
theorem w8{es:List (Str × V)}{k:Str}{v:V}(h:∀p∈es,eY p.1)(hk:eY k):∀p∈bn es k v,eY p.1:=by
 unfold bn
 split
 ·intro p m
  refine aT (List.mem_map.mp m) fun x mx e=>?_
  split at e
  ·refine eE e ?_;exact h x mx
  ·refine eE e ?_;exact h x mx
 ·exact fun p m=>(List.mem_append.mp m).elim (h p) fun m=>by refine eR (List.mem_singleton.mp m) ?_;exact hk
noncomputable abbrev CN:Ss:=.cons (.setItem (.attr (.var 0) 62) (.var 2) (.bool true)) .nil
theorem pX{a b:Nat}{l:List V}{es:List (Str × V)}(hl:∀x∈l,Aj x)(h0:ρ 0=some (.v (bO a b)))(hc:σ.cells[a]? =some (.dict es))(he:∀p∈es,eY p.1)(hn:es.length+l.length≤1000):
  ∃ρ' σ' es',aZ (fq af.toTab c wf [2] CN) l ρ σ=some (.next,ρ',σ')∧σ'.cells[a]? =some (.dict es')∧(∀p∈es',eY p.1)∧SameN (yp a) σ σ':=by
 induction l generalizing ρ σ es with
 |nil=>exact wS ρ σ es rfl hc he (.refl _ _)
 |cons x l ih=>
  refine aT (hl x List.mem_cons_self) fun t z1 ht=>?_;subst z1
  have hd:=gP es t (.bool true)
  replace hn:=List.length_cons▸hn
  refine yq (ih (ρ:=ρ.set 2 (.v (.str t))) (σ:=σ.put a (.dict (bn es t (.bool true)))) (fun y m=>hl y (List.mem_cons_of_mem _ m)) h0 (cW hc) (w8 he ht) (bw 2 136623453799255787298401060896251221131265 rfl hn hd)) fun ρ' σ' es' e g1 g2 S=>?_
  exact wS ρ' σ' es' (cj (bg (kW (a:=62) (b:=a) (o:=.var 0) (ρ:=ρ.set 2 (.v (.str t))) rfl (aw (aa h0) rfl) (aa rfl) hc (by show _≤1000000;exact aP 1 79230704002185066846345323622657 rfl hn)) rfl) e) g1 g2 ((cO a σ _).trans S)
theorem uW{x a C:Nat}{fs:List (Nat × V)}(h:ρ x=some (.owni C fs))(g:(fs.lookup a).isNone∧fs.length≤100∧T.fld C a):bA T c wf (.setAttrD x a) ρ σ=some (.next,ρ.set x (.owni C (fs++[(a,V.loc σ.cells.length)])),σ.push (.dict [])):=by
 show(match ρ x with
  |some (.owni C fs)=>if(fs.lookup a).isNone∧fs.length≤100∧T.fld C a then some (Fl.next,ρ.set x (.owni C (fs++[(a,V.loc σ.cells.length)])),σ.push (.dict []))else none
  |_=>none)=_
 refine eR h ?_;exact if_pos g
theorem zh{e:E}(h:ak T c e ρ σ=some (.none,σ1)):bA T c wf (.expr e) ρ σ=some (.next,ρ,σ1):=by
 show(ak T c e ρ σ).bind _=_;refine eR h ?_;rfl
theorem si{l:List V}(hl:∀x∈l,Aj x)(hn:l.length≤1000):∃(σ':Store),(ac af (n+2)).new 631 [.lst l] σ=some (bO σ.cells.length (σ.cells.length+1),σ')∧Fr σ.cells.length (σ.cells.length+1) σ' 0 0∧∀(j:Nat)(d:Cell),σ.cells[j]? =some d→σ'.cells[j]? =some d:=by
 let L:=σ.cells.length
 let σ2:=(σ.push (.dict [])).push (.dict [])
 have l1:(σ.push (.dict [])).cells.length=L+1:=List.length_append
 have c0:σ2.cells[L]? =some (.dict []):=dw dM
 have c1:σ2.cells[L+1]? =some (.dict []):=by refine eE l1 ?_;exact dM
 refine yq (pX (c:=ac af n) (wf:=n) (ρ:=aq [0,65] [bO L (L+1),.lst l]) (b:=L+1) hl rfl c0 (fun _ m=>nomatch m) (by exact bI 1 4722517587994539400986625 rfl hn)) fun ρ' σ' es' e g1 g2 S=>?_
 have ef:(ac af (n+1)).fn 621 [bO L (L+1),.lst l] σ2=some (.none,σ'):=x6 (fi:=⟨[0,65],Aw⟩) (ρ':=ρ') rfl rfl (eg (c8 (d:=.lst l) (aa rfl) rfl) e rfl)
 refine iK σ' (wL (f:=614) (x:=0) (fi:=⟨[0,62],AU⟩) (ps:=[62]) (ρ':=((((aq [62] [.lst l]).set 0 (.owni 631 [])).set 0 (.owni 631 [(62,.loc L)])).set 0 (.owni 631 [(62,.loc L),(63,.loc (L+1))])).set 0 (.v (bO L (L+1)))) rfl rfl rfl rfl ?_ rfl) ⟨⟨es',g1,g2⟩,⟨[],(S.get _ (Nat.succ_ne_self L)).trans c1,.e⟩,(Nat.succ_ne_self L).symm⟩ (fun j d h=>(S.get j (Nat.ne_of_lt (pg h))).trans (dw (dw h)))
 have em:ak af.toTab (ac af (n+1)) (.meth (.var 0) 64 (.cons (.var 62) .nil)) (((((aq [62] [.lst l]).set 0 (.owni 631 [])).set 0 (.owni 631 [(62,.loc L)])).set 0 (.owni 631 [(62,.loc L),(63,.loc (L+1))])).set 0 (.v (bO L (L+1)))) σ2=some (.none,σ'):=
  bm (C:=631) (fs:=[(62,.loc L),(63,.loc (L+1))]) (aa rfl) (az (aa rfl)) rfl rfl ef
 refine bg (uW (C:=631) (fs:=[]) rfl (fz rfl (by decide) (by kernel_rfl))) (bg (ρ1:=(((aq [62] [.lst l]).set 0 (.owni 631 [])).set 0 (.owni 631 [(62,.loc L)])).set 0 (.owni 631 [(62,.loc L),(63,.loc (L+1))])) (σ1:=σ2) ((uW (C:=631) (fs:=[(62,.loc L)]) rfl (fz rfl (Nat.le_add_left 1 99) (by kernel_rfl))).trans ?_) (bg (v0 rfl ?_) rfl))
 ·exact l1▸rfl
 ·exact zh em
theorem nB(d:V):∀m:Nat,(List.replicate m [d]).flatten=List.replicate m d
 |0=>rfl
 |m+1=>congrArg (d::·) (nB d m)
theorem tf:∀{rs:List (List Pt)}{i:Nat},(∀r∈rs,bS r≤10)→mu (cR i rs)≤11*rs.length
 |[],_,_=>Nat.le_refl _
 |r::rs,i,h=>by
  have:=h r List.mem_cons_self
  have:=tf (i:=i+1) fun x m=>h x (List.mem_cons_of_mem _ m)
  show(1+bS r)+mu (cR (i+1) rs)≤11*(rs.length+1)
  lia
theorem qj:∀{rs:List (List Pt)}{i:Nat},(cR i rs).length=rs.length
 |[],_=>rfl
 |_::_,_=>congrArg Nat.succ qj
theorem vF{ks:List Ki}{m:Nat}:∀{rs:List (List Pt)}{i:Nat},(∀r∈rs,bQ ks r∧bS r≤10)→i+rs.length≤m→∀l∈cR i rs,LnOk ks m l
 |r::rs,i,h,hm,l,ml=>by
  replace hm:=List.length_cons▸hm
  rcases List.mem_cons.mp ml with rfl|ml
  ·have:=h r List.mem_cons_self
   exact⟨this.1,by exact bI 1 613623971569565697 rfl this.2,by exact bw 1 397866023073769340929 rfl hm⟩
  ·exact vF (i:=i+1) (fun x m=>h x (List.mem_cons_of_mem _ m)) (bw 1 1931816898437569273921537 rfl hm) l ml
noncomputable abbrev Ck:E:=.new 566 (.cons (.new 362 (.cons (.var 102) .nil)) (.cons (.bin .Mult (.list (.cons (.bool false) .nil)) (.blt .len (.cons (.var 100) .nil))) (.cons (.new 631 (.cons (.bin .Add (.var 80) (.var 106)) .nil)) .nil)))
theorem uS{cols:List Str}{rs:List (List Pt)}(P:PG s q σ k)(hk:k≤900)(C:ColOk cols m)(hm:m≤2)(hr:rs.length≤3)(h102:ρ 102=some (.v fg))(h100:ρ 100=some (.v (fe rs)))(h80:ρ 80=some (.v (.loc q)))(h106:ρ 106=some (.v (aV cols))):
  ∃(a b:Nat)(σ':Store),ak af.toTab (ac af (n+2)) Ck ρ σ=some (bX rs.length a b,σ')∧Fr a b σ' 0 0∧du σ' s∧s≠b:=by
 refine jv P.lab fun l hc hl hn=>?_
 have en:ak af.toTab (ac af (n+2)) (.bin .Add (.var 80) (.var 106)) ρ σ=some (.lst (l++cols.map V.str),σ):=by
  refine bh (aa h80) (aa h106) ?_
  show(cX σ (.loc q)).bind (fun x=>(some (cols.map V.str)).bind fun y=>if x.length+y.length≤bq then some (V.lst (x++y))else none)=_
  unfold cX;dsimp only;refine eR hc ?_
  exact if_pos (by rw[List.length_map,C.n];exact bw 3 515769694484025935047343405752244256769 rfl hk hm hn)
 refine jv (si (n:=n) (σ:=σ) (l:=l++cols.map V.str) (fun x m=>(List.mem_append.mp m).elim (fun m=>let⟨t,e,h⟩:=hl x m;⟨t,e,.inl h⟩) fun m=>let⟨t,mt,e⟩:=List.mem_map.mp m;⟨t,e.symm,.inr (C.hd t mt)⟩) (by rw[List.length_append,List.length_map,C.n];exact bw 3 125920335567389144298719768128798721 rfl hk hm hn)) fun σ' e F kp=>?_
 have e2:ak af.toTab (ac af (n+2)) (.bin .Mult (.list (.cons (.bool false) .nil)) (.blt .len (.cons (.var 100) .nil))) ρ σ=some (.lst (List.replicate rs.length (.bool false)),σ):=by
  refine bh (o:=.lst [.bool false]) (k:=.int (rs.length:Nat)) rfl (bH (vs:=[fe rs]) (az (aa h100)) ?_) ?_
  ·show(if(rs.map fF).length≤bq then some (V.int ((rs.map fF).length:Nat),σ)else none)=_
   rw[List.length_map,if_pos (Nat.le_trans hr (by decide))]
  ·show(if 0≤((rs.length:Nat):Int)∧((rs.length:Nat):Int)≤1000∧1≤1000 then some (V.lst (List.replicate rs.length [V.bool false]).flatten)else none)=_
   rw[if_pos ⟨by lia,by lia,by decide⟩,nB]
 refine eB P.pool fun x y px pr=>?_
 exact wS _ _ σ' (bz (aF (d:=b4) (bz (az (aa h102)) rfl) e2 (bz (az en) e)) rfl) F ⟨x,y,kp _ _ px,pr⟩ (fun z=>by have:=pg px;exact Nat.not_succ_le_zero _ (aP 2 20739905251560061765186 rfl (Nat.le_of_eq z.symm) this))
theorem rD{cols:List Str}{ks:List Ki}{rs:List (List Pt)}{a b:Nat}(hn:220≤n)(R:RowsOk ks rs rs.length)(hr:rs.length≤3)(C:ColOk cols ks.length)(hk:ks.length≤2)(F:Fr a b σ 0 0):
  ∃t σ',(ac af n).fn 539 [bX rs.length a b,aV cols,aE (cR 0 rs)] σ=some (t,σ')∧db 33 t cols ks (cR 0 rs)∧Same b σ σ':=by
 have P:Pre rs.length a b 33 cols ks (cR 0 rs) σ 0 0:=
  {hc:=C.n,nd:=C.nd,old:=fun c m=>.inl ⟨by refine eR (C.hd c m) ?_;decide,by refine eR (C.hd c m) ?_;decide⟩,len:=by refine eR C.n ?_;exact bI 1 7876999095377587530907649 rfl hk,few:=by refine eR qj ?_;exact bI 1 29058539777 rfl hr,ok:=vF R.ok (Nat.le_of_eq (Nat.zero_add _)),fr:=F,bound:=by decide}
 refine ya (xT (Nat.le_trans hr (by decide)) 33 n cols ks (cR 0 rs) σ 0 0 (bI 1 299111652642014634231 rfl hn) (Nat.le_trans (tf fun r m=>(R.ok r m).2) (bI 1 119034902360129 rfl hr)) P) fun t σ' _ _ e G _ _ _ _ S=>?_
 exact gc t σ' e G S
end
end Mine
namespace Mine
open PySem PySem.W
structure Sc(sc:V)(s:Nat)(ks:List Ki)(rs:List (List Pt))(cols:List Str)(t:V)(ρ:ay)(σ:Store):Prop where
 h70:ρ 70=some (.v sc)
 h102:ρ 102=some (.v fg)
 h73:ρ 73=some (.v (.loc s))
 h105:ρ 105=some (.v (pO ks))
 h100:ρ 100=some (.v (fe rs))
 h106:ρ 106=some (.v (aV cols))
 h93:ρ 93=some (.v t)
 pool:du σ s
structure Facts(ks:List Ki)(rs:List (List Pt))(cols:List Str)(t:V):Prop where
 k1:1≤ks.length
 k2:ks.length≤2
 R:RowsOk ks rs rs.length
 r3:rs.length≤3
 C:ColOk cols ks.length
 G:db 33 t cols ks (cR 0 rs)
section
variable {T:Tab}{c:Calls}{wf n:Nat}{ρ ρ':ay}{σ σ1 σ2 σ':Store}{s q k:Nat}{ks:List Ki}{rs:List (List Pt)}{cols:List Str}{t sc:V}
noncomputable abbrev Ct:E:=.call 685 (.cons (.var 73) (.cons (.var 79) (.cons (.int 2) .nil)))
theorem A9(hn:9≤n)(h73:ρ 73=some (.v (.loc s))){ks:List Ki}(h:du σ s):∃(ws:List Wo)(σ':Store),compLoop (yB af.toTab (ac af n) ρ Ct [79] [73]) (ks.map fun k=>V.str (di k)) σ=some (ws.map aG,σ')∧cE ks ws∧du σ' s:=by
 induction ks generalizing σ with
 |nil=>exact gc ([]) σ rfl trivial h
 |cons ki ks ih=>
  refine f8 (AK (s:=s) ki n σ hn h) fun w σ1 e1 o1 P1 _=>?_
  refine hU (ih P1) fun ws σ2 e2 o2 P2=>?_
  exact gc (w::ws) σ2 (cJ (ys:=[_]) (pj (fv:=0) (aJ (aF (d3:=.int 2) (aa (ci (fv:=[73]) h73 rfl)) (aa rfl) rfl) e1)) e2) ⟨o1,o2⟩ P2
theorem tK{a b:E}{l m:List V}{es:List (Str × V)}(ha:ak T c a ρ σ=some (.lst l,σ1))(hb:ak T c b ρ σ1=some (.lst m,σ2))(hp:dk (cI l m)=some es)(hl:l.length≤bq):
  ak T c (.dictof (.zip a b)) ρ σ=some (.loc σ2.cells.length,σ2.push (.dict (es.foldl (fun acc p=>bn acc p.1 p.2) []))):=by
 show(ak T c a ρ σ).bind _=_;refine eR ha ?_;show(ak T c b ρ σ1).bind _=_;refine eR hb ?_
 show(dk (cI l m)).bind _=_
 refine eR hp ?_;exact if_pos hl
theorem lS:∀{ns:List Str}{ws:List Wo}{kd:List (Str × V)},∃es,dk (cI (ns.map V.str) (ws.map aG))=some es∧es.foldl (fun acc p=>bn acc p.1 p.2) kd=dp ns (ws.map aG) kd
 |[],ws,kd=>bi ([]) rfl rfl
 |_::_,[],kd=>bi ([]) rfl rfl
 |n::ns,w::ws,kd=>by
  refine aT (lS (ns:=ns) (ws:=ws) (kd:=bn kd n (aG w))) fun es e1 e2=>?_
  exact⟨(n,aG w)::es,by show(dk (cI (ns.map V.str) (ws.map aG))).map _=_;refine eR e1 ?_;rfl,e2⟩
theorem xJ(r:Rs):zP (gO r) (gO r)=some true:=by
 induction r using Rs.casesOn with
 |none=>rfl
 |num n=>show some (((n:Nat):Int)==n)=_;rw[beq_self_eq_true]
 |nev=>exact vA (σ:=⟨[],0⟩) .nev
theorem vt(r:Rs):∃b,Az (gO r) .none=some b:=by induction r using Rs.casesOn<;>exact⟨_,rfl⟩
theorem xN(w:Wo):eW (aG w)=true:=by
 induction w using Wo.casesOn with
 |con i c a b=>rfl
 |int=>rfl
 |never=>rfl
theorem xp{l x:Nat}{a:List Wo}{d:List Wo}(h1:ρ l=some (.v (.lst (a.map aG))))(h2:ρ x=some (.v (.lst (d.map aG))))(h:∀w∈a,w∈d)(la:a.length≤bq)(ld:d.length≤bq){y z:Nat}:ak T c (.stray l x y z) ρ σ=some (.bool false,σ):=by
 show((iQ (ρ l)).bind kr).bind (fun ts=>((iQ (ρ x)).bind kr).bind fun ds=>if i7 ts ds then some (V.bool false,σ)else Option.none)=_
 refine eR h1 ?_;refine eR h2 ?_
 have q:∀l:List Wo,(l.map aG).all eW=true:=fun l=>List.all_eq_true.mpr fun x m=>aT (List.mem_map.mp m) fun w _ e=>e▸xN w
 refine if_pos ?_
 show(_&&_&&_&&decide (_≤bq)&&decide (_≤bq))=true
 rw[q,q,List.length_map,List.length_map,decide_eq_true la,decide_eq_true ld,Bool.true_and,Bool.true_and,Bool.and_true,Bool.and_true,List.all_eq_true]
 intro x m
 refine aT (List.mem_map.mp m) fun w mw z2=>?_;subst z2
 exact List.any_eq_true.mpr (bi _ (List.mem_map.mpr ⟨w,h w mw,rfl⟩) (beq_self_eq_true _))
theorem qJ:∀(i:Nat)(rs:List (List Pt))(ws:List Wo),(dh (cR i rs) ws).2.length≤jB rs
 |_,[],_=>Nat.zero_le _
 |i,r::rs,ws=>by
  have h:=gw r ws
  have ih:=qJ (i+1) rs ws
  have hN:=gB r rs
  have hlo:∀a,(aA r ws).1=a→lo ⟨i,r,[],false⟩ ws=(a,(aA r ws).2):=fun a e=>by unfold lo;dsimp only;refine eR e ?_;induction a using R.casesOn<;>rfl
  show(dh (_::_) ws).2.length≤_
  cases e:(aA r ws).1 with
  |yes=>rw[dh,hlo _ e];show(aA r ws).2.length≤_;exact dW 2 405311242231324298129170518273 rfl h (Nat.le_of_eq hN.symm)
  |nev=>rw[dh,hlo _ e];show(aA r ws).2.length≤_;exact dW 2 405311242231324298129170518273 rfl h (Nat.le_of_eq hN.symm)
  |no=>rw[dh,hlo _ e];show((aA r ws).2++(dh (cR (i+1) rs) ws).2).length≤_;rw[List.length_append];exact mC 3 521599776765741179869477107997269573633 rfl h ih (Nat.le_of_eq hN.symm)
theorem tr{h:Nat}{t:V}{kd:List (Str × V)}{r:V}{a:List V}(w:Walk h t kd r a):a.length≤h:=by
 induction w with
 |leaf=>exact Nat.zero_le _
 |nothing=>exact Nat.zero_le _
 |proj _ _ ih=>exact Nat.le_succ_of_le ih
 |forceN _=>exact Nat.succ_le_succ (Nat.zero_le _)
 |force _ _ _ ih=>exact Nat.succ_le_succ ih
 |switchN _=>exact Nat.succ_le_succ (Nat.zero_le _)
 |switch _ _ _ _ _ ih=>exact Nat.succ_le_succ ih
theorem m0{x p:Nat}{l:List V}(hx:ρ x=some (.v (.loc p)))(hc:σ.cells[p]? =some (.list l)):ff (.freezeLoc x) ρ σ=some (ρ.set x (.v (.lst l)),σ.put p .gone):=by
 show((iQ (ρ x)).bind qU).bind _=_;refine eR hx ?_;show(σ.cells[p]?).bind _=_;refine eR hc ?_;rfl
theorem yO{e:E}{b:Ss}(h:ak T c e ρ σ=some (.bool false,σ1)):bA T c wf (.ite e b .nil) ρ σ=some (.next,ρ,σ1):=by
 show(ak T c e ρ σ).bind _=_;refine eR h ?_;rfl
noncomputable abbrev Co:E:=.bop .Or (.cons (.cmp .NotEq (.var 86) (.var 113)) (.cons (.cmp .NotEq (.cmp .Is (.var 86) .none) (.cmp .Is (.var 113) .none)) .nil))
theorem or_false{r:Rs}(h1:ρ 86=some (.v (gO r)))(h2:ρ 113=some (.v (gO r))):ak T c Co ρ σ=some (.bool false,σ):=by
 refine Exists.elim (vt r) fun b hb=>?_
 exact il (aQ (aa h1) (aa h2) (congrArg (Option.map (!·)) (xJ r))) (bY (aQ (o:=.bool b) (k:=.bool b) (aQ (aa h1) rfl hb) (aQ (aa h2) rfl hb) (show some (!(b==b))=_ by rw[beq_self_eq_true];rfl)))
noncomputable abbrev BR:Ss:=.cons (.assign 101 (.comp Ct [79] (.val (.var 105)) [73])) (.cons (.assign2 111 112 (.listm .nil) (.listm .nil)) (.cons (.assign 113 (.call 720 (.cons (.var 100) (.cons (.var 101) (.cons (.var 111) .nil))))) (.cons (.assign 86 (.call 706 (.cons (.var 93) (.cons (.dictof (.zip (.var 106) (.var 101))) (.cons (.var 112) .nil)))))
 (.cons (.ite Co (.cons (.ret (.bool false)) .nil) .nil) (.cons (.g (.freezeLoc 112) (.g (.freezeLoc 111) (.ite (.stray 112 111 88 114) (.cons (.ret (.bool false)) .nil) .nil))) .nil)))))
theorem tV:∀{ps:List Pt}{p:Pt},p∈ps→sz p≤bS ps
 |q::ps,p,m=>by
  rw[bk]
  rcases List.mem_cons.mp m with rfl|m
  ·exact aP 0 84934913 rfl
  ·have:=tV m;exact bw 1 26664332689665 rfl this
theorem ua:∀{rs:List (List Pt)},(∀r∈rs,bS r≤10)→jB rs≤22*rs.length
 |[],_=>Nat.le_refl _
 |r::rs,h=>by
  have:=h r List.mem_cons_self
  have:=ua fun x m=>h x (List.mem_cons_of_mem _ m)
  rw[gB,List.length_cons];lia
theorem w0(hn:100≤n)(F:Facts ks rs cols t)(S:Sc sc s ks rs cols t ρ σ):∃ρ' σ',au af.toTab (ac af n) n BR ρ σ=some (.next,ρ',σ')∧Sc sc s ks rs cols t ρ' σ':=by
 refine Exists.elim (sx n 2 (bI 1 1132774052611762 rfl hn)) fun n z1=>?_;subst z1
 refine hU (A9 (n:=n+2) (bI 1 123076704616291561900110 rfl hn) S.h73 (ks:=ks) S.pool) fun ws σ1 e1 ow P1=>?_
 let L:=σ1.cells.length
 let σ2:=(σ1.push (.list [])).push (.list [])
 have l1:(σ1.push (.list [])).cells.length=L+1:=List.length_append
 have l2:σ2.cells.length=L+2:=List.length_append.trans (congrArg (· +1) l1)
 have c0:σ2.cells[L]? =some (.list []):=dw dM
 have c1:σ2.cells[L+1]? =some (.list []):=by refine eE l1 ?_;exact dM
 have lt:=P1.lt
 have rn:=ua fun r m=>(F.R.ok r m).2
 have r3:=F.r3
 have k2:=F.k2
 refine aT (zi (n:=n) (q:=L) (σ:=σ2) (rows:=rs) ow (bI 1 7617502054461697 rfl r3) (fun r m=>⟨(F.R.ok r m).1,by refine eR (aC (F.R.ok r m).1) ?_;exact bI 1 7336027077751041 rfl k2,fun p mp=>by have:=tV mp;have:=(F.R.ok r m).2;lia⟩) (bi ([]) c0 (by show 0+_≤_;exact aP 2 2145777358434624644822548447233 rfl rn r3))) fun σ3 e3 A3=>?_
 refine aT (lS (ns:=cols) (ws:=ws) (kd:=[])) fun es ep ef=>?_
 have lw:ws.length=ks.length:=dz ow
 have lc:=F.C.n
 refine hU (F.G (dp cols (ws.map aG) []) ws ow (ir F.C.nd (Nat.le_antisymm (bw 2 1706516235440385 rfl (Nat.le_of_eq lw.symm) (Nat.le_of_eq lc)) (bw 2 1433838391939329 rfl (Nat.le_of_eq lw) (Nat.le_of_eq lc.symm))))) fun r a W hr ha=>?_
 have l3:σ3.cells.length=L+2:=A3.same.len.trans l2
 have c4:(σ3.push (.dict (dp cols (ws.map aG) []))).cells[L+2]? =some (.dict (dp cols (ws.map aG) [])):=by refine eE l3 ?_;exact dM
 have c5:(σ3.push (.dict (dp cols (ws.map aG) []))).cells[L+1]? =some (.list []):=dw ((A3.same.get (L+1) (Nat.succ_ne_self L)).trans c1)
 have ld:=im cols (ws.map aG) []
 rw[List.length_map]at ld
 refine aT (sh (n:=n) (p:=L+2) (q:=L+1) W (by lia) (Nat.succ_ne_self _) c4 (by show _+66≤_;have:([]:List (Str × V)).length=0:=rfl;exact dW 4 34410431553161272168524568614726485314095562753 rfl k2 (Nat.le_of_eq lw) ld (Nat.le_of_eq this)) ⟨[],c5,by show 0+_≤_;exact(by decide)⟩) fun σ5 e5 A5=>?_
 have d1:σ5.cells[L+1]? =some (.list (a.map aG)):=A5.app [] c5
 have d0:σ5.cells[L]? =some (.list ((dh (cR 0 rs) ws).2.map aG)):=(A5.same.get L (fun z=>z.elim (fun z=>Nat.not_succ_le_zero _ (bI 1 19383187768898 rfl (Nat.le_of_eq z.symm))) fun z=>Nat.not_succ_le_zero _ (bI 1 19314468292161 rfl (Nat.le_of_eq z.symm)))).trans (show(σ3.push (.dict (dp cols (ws.map aG) []))).cells[L]? =some (.list ((dh (cR 0 rs) ws).2.map aG))from dw (A3.app [] c0))
 rw[show gO (dh (cR 0 rs) ws).1=gO r from congrArg gO hr.symm]at e3
 let ρ2:=((ρ.set 101 (.v (.lst (ws.map aG)))).set 111 (.v (.loc L))).set 112 (.v (.loc (L+1)))
 let ρ4:=(ρ2.set 113 (.v (gO r))).set 86 (.v (gO r))
 have ed:ak af.toTab (ac af (n+2)) (.dictof (.zip (.var 106) (.var 101))) (ρ2.set 113 (.v (gO r))) σ3=some (.loc (L+2),σ3.push (.dict (dp cols (ws.map aG) []))):=by
  have:=tK (T:=af.toTab) (c:=ac af (n+2)) (a:=.var 106) (b:=.var 101) (ρ:=ρ2.set 113 (.v (gO r))) (σ:=σ3) (l:=cols.map V.str) (m:=ws.map aG) (aa S.h106) (aa rfl) ep (by rw[List.length_map];exact aP 2 1530150593755424406647041 rfl k2 (Nat.le_of_eq lc))
  rw[ef,l3]at this;exact this
 have el:ak af.toTab (ac af (n+2)) (.listm .nil) (ρ.set 101 (.v (.lst (ws.map aG)))) (σ1.push (.list []))=some (.loc (L+1),σ2):=by refine eE l1 ?_;exact jd (vs:=[]) rfl (by decide)
 have hne:L+1≠L:=Nat.succ_ne_self L
 have lla:a.length≤bq:=by have:=tr W;rw[List.length_map]at this;exact bI 1 65788881608821977345 rfl this
 have lld:(dh (cR 0 rs) ws).2.length≤bq:=by have:=qJ 0 rs ws;exact bw 3 1642987953177060607928134183956737 rfl rn r3 this
 have P5:du σ5 s:=((((P1.push _).push _).same A3.same (by lia)).push _).same A5.same fun z=>z.elim (fun z=>Nat.not_succ_le_zero _ (aP 2 20813692227854899971651 rfl lt (Nat.le_of_eq z.symm))) fun z=>Nat.not_succ_le_zero _ (aP 2 20739905251560061765186 rfl lt (Nat.le_of_eq z.symm))
 refine dA ((ρ4.set 112 (.v (.lst (a.map aG)))).set 111 (.v (.lst ((dh (cR 0 rs) ws).2.map aG)))) ((σ5.put (L+1) .gone).put L .gone) ?_ ⟨S.h70,S.h102,S.h73,S.h105,S.h100,S.h106,S.h93,(P5.same (cO (L+1) _ _) (by lia)).same (cO L _ _) (by lia)⟩
 exact ag (cM (c8 (d:=pO ks) (aa S.h105) rfl) (by rw[List.length_map];exact Nat.le_trans k2 (by decide)) e1) (fU (jd (vs:=[]) rfl (by decide)) el (ag (aJ (aF (aa (ρ:=ρ2) S.h100) (aa (x:=101) rfl) (aa (x:=111) rfl)) e3) (ag (aJ (aF (aa (x:=93) S.h93) ed (aa (x:=112) rfl)) e5)
  (ao (or_false (r:=r) rfl rfl) (bg (v0 (m0 (ρ:=ρ4) rfl d1) (v0 (m0 (x:=111) rfl (((cO (L+1) σ5 .gone).get L hne.symm).trans d0)) (yO (xp (a:=a) rfl rfl (fun w m=>(ha w m).elim (fun z=>nomatch z) id) lla lld)))) rfl)))))
end
end Mine
namespace Mine
open PySem PySem.W
section
variable {T:Tab}{c:Calls}{wf n:Nat}{ρ ρ':ay}{σ σ1 σ2 σ':Store}{s q k:Nat}{ks:List Ki}{rs:List (List Pt)}{cols:List Str}{t sc:V}
theorem ut(hn:100≤n)(F:Facts ks rs cols t)(l:List V)(S:Sc sc s ks rs cols t ρ σ):∃ρ' σ',aZ (fq af.toTab (ac af n) n [31] BR) l ρ σ=some (.next,ρ',σ')∧Sc sc s ks rs cols t ρ' σ':=by
 induction l generalizing ρ σ with
 |nil=>exact dA ρ σ rfl S
 |cons x l ih=>
  refine eB (w0 hn F (ρ:=ρ.set 31 (.v x)) (σ:=σ) ⟨S.h70,S.h102,S.h73,S.h105,S.h100,S.h106,S.h93,S.pool⟩) fun ρ1 σ1 e1 S1=>?_
  refine eB (ih S1) fun ρ2 σ2 e2 S2=>?_
  exact dA ρ2 σ2 (cj e1 e2) S2
theorem tu{x:Nat}{e:E}{d:V}(h:ak T c e ρ σ=some (d,σ1)):bA T c wf (.assign x e) ρ σ=some (.next,ρ.set x (.v d),σ1):=by
 show(ak T c e ρ σ).bind _=_;refine eR h ?_;rfl
theorem jz{e:E}{d:Nat}(h:ak T c e ρ σ=some (.int (d:Int),σ1)):ak T c (.bin .Add (.int 1) e) ρ σ=some (.int ((d+1:Nat):Int),σ1):=by
 refine bh (o:=.int 1) rfl h ?_
 show some (V.int (1+(d:Int)))=_
 rw[Int.add_comm];rfl
noncomputable abbrev Cn:Ss:=.cons (.assign2 73 80 (.call 654 (.cons (.var 70) (.cons (.var 69) .nil))) (.listm .nil)) (.cons (.assign 105 (.comp CB [31] (.range (.bin .Add (.int 1) (.call 661 (.cons (.var 73) (.cons (.int 2) .nil))))) [73])) (.cons (.assignOwn 100) (.cons (.for [99] (.range (.bin .Add (.int 1) (.call 661 (.cons (.var 73) (.cons (.int 3) .nil))))) Cj)
 (.cons (.g (.freeze 100) (.assign 106 (.comp (.bin .Add (.str "s") (.blt .str (.cons (.var 107) .nil))) [107] (.range (.blt .len (.cons (.var 105) .nil))) []))) (.cons (.assign 108 (.comp (.new 507 (.cons (.var 99) (.cons (.listof (.val (.var 109))) (.cons (.list .nil) (.cons (.bool false) .nil))))) [99,109] (.enum (.var 100)) []))
 (.cons (.assign 110 Ck) (.cons (.assign 93 (.meth (.var 110) 21 (.cons (.var 106) (.cons (.var 108) .nil)))) (.cons (.for [31] (.range (.int 2)) BR) .nil))))))))
theorem xL{is:List Int}(hn:300≤n)(hl:is.length≤1000)(hk:k≤1)(h70:ρ 70=some (.v (.lst (is.map V.int))))(h102:ρ 102=some (.v fg))(h69:ρ 69=some (.v (.int (k:Int)))):
  ∃ρ' σ',au af.toTab (ac af n) n Cn ρ σ=some (.next,ρ',σ')∧ρ' 70=some (.v (.lst (is.map V.int)))∧ρ' 102=some (.v fg):=by
 refine Exists.elim (sx n 8 (bI 1 1146517947959336 rfl hn)) fun n z1=>?_;subst z1
 refine eB (xI (n:=n+7) (σ:=σ) hk hl) fun x y e73 b=>?_
 let L:=σ.cells.length
 let σ2:=(σ.push (.list [.int x,.int y])).push (.list [])
 have l1:(σ.push (.list [.int x,.int y])).cells.length=L+1:=List.length_append
 have P2:PG L (L+1) σ2 0:=⟨(dA x y (dw dM) b),⟨[],by refine eE l1 ?_;exact dM,(fun _ m=>nomatch m),Nat.le_refl _⟩,(Nat.succ_ne_self L).symm⟩
 have e80:ak af.toTab (ac af (n+8)) (.listm .nil) ρ (σ.push (.list [.int x,.int y]))=some (.loc (L+1),σ2):=by refine eE l1 ?_;exact jd (vs:=[]) rfl (by decide)
 let ρ2:=(ρ.set 73 (.v (.loc L))).set 80 (.v (.loc (L+1)))
 refine f8 (dm (n:=n+7) (top:=2) P2 (by decide) (by decide)) fun d3 σ3 e3 h3 P3 _=>?_
 have lr:∀m,((List.range m).map fun(i:Nat)=>V.int (i:Int)).length=m:=fun m=>by rw[List.length_map,List.length_range]
 have m3:=de (jz (T:=af.toTab) (c:=ac af (n+8)) (ρ:=ρ2) (aJ (vs:=[.loc L,.int ((2:Nat):Int)]) (aB (e:=.var 73) (f:=.int 2) rfl rfl) e3)) (bI 1 510487818019849633295253505 rfl h3)
 refine hU (pG (n:=n+6) (ρ:=ρ2) (s:=L) rfl (l:=(List.range (d3+1)).map fun(i:Nat)=>V.int (i:Int)) P3) fun ks σ4 e4 lk P4=>?_
 rw[lr]at lk
 refine f8 (dm (n:=n+7) (top:=3) P4 (by decide) (by decide)) fun d5 σ5 e5 h5 P5 _=>?_
 let ρ4:=(ρ2.set 105 (.v (pO ks))).set 100 (.own [])
 have m5:=de (jz (T:=af.toTab) (c:=ac af (n+8)) (ρ:=ρ4) (aJ (vs:=[.loc L,.int ((3:Nat):Int)]) (aB (e:=.var 73) (f:=.int 3) rfl rfl) e5)) (bI 1 529830631133683700090552321 rfl h5)
 refine zW (r7 (n:=n+1) (wf:=n+8) (ρ:=ρ4) (ks:=ks) (rs:=[]) (aP 2 118428169408356901298433 rfl h3 (Nat.le_of_eq lk)) (l:=(List.range (d5+1)).map fun(i:Nat)=>V.int (i:Int)) rfl rfl rfl rfl ⟨rfl,fun _ m=>nomatch m⟩ P5 (by rw[lr];exact bI 1 2170186308150473823535151546369 rfl h5) (by rw[lr];exact bI 1 529830631093120745835954177 rfl h5)) fun rs ρ6 σ6 e6 h100 R P6 j6=>?_
 rw[lr]at R
 have R:RowsOk ks rs (d5+1):=by refine eE (Nat.zero_add (d5+1)) ?_;exact R
 have Rn:=R.n
 let ρ7:=ρ6.set 100 (.v (fe rs))
 have a105:=j6 105 (by decide) (by decide)
 have a102:ρ6 102=some (.v fg):=(j6 102 (by decide) (by decide)).trans h102
 have a70:ρ6 70=some (.v (.lst (is.map V.int))):=(j6 70 (by decide) (by decide)).trans h70
 have a73:=j6 73 (by decide) (by decide)
 have a80:=j6 80 (by decide) (by decide)
 refine aT (xO (n:=n+8) (ρ:=ρ7) (σ:=σ6) (ks:=ks) (aP 1 19315541952065 rfl (Nat.le_of_eq lk.symm)) (aP 2 118428169408356901298433 rfl h3 (Nat.le_of_eq lk)) a105) fun cols e106 C=>?_
 let ρ8:=ρ7.set 106 (.v (aV cols))
 have e108:=tz (n:=n+7) (ρ:=ρ8) (σ:=σ6) (rs:=rs) (fun r m=>by refine eR (aC (R.ok r m).1) ?_;exact aP 2 31045234041384311522769514753 rfl h3 (Nat.le_of_eq lk)) (aP 2 31045234042537233027376361729 rfl h5 (Nat.le_of_eq Rn)) rfl
 let ρ9:=ρ8.set 108 (.v (aE (cR 0 rs)))
 refine yq (uS (n:=n+6) (ρ:=ρ9) P6 ((by decide)) C (aP 2 118428169408356901298433 rfl h3 (Nat.le_of_eq lk)) (aP 2 118428169412754947813633 rfl h5 (Nat.le_of_eq Rn)) a102 rfl a80 rfl) fun a b' σ7 e110 Ff P7 ne=>?_
 let ρ10:=ρ9.set 110 (.v (bX rs.length a b'))
 have R':RowsOk ks rs rs.length:=⟨rfl,R.ok⟩
 refine hU (rD (n:=n+8) (σ:=σ7) (by lia) R' (aP 2 118428169412754947813633 rfl h5 (Nat.le_of_eq Rn)) C (aP 2 118428169408356901298433 rfl h3 (Nat.le_of_eq lk)) Ff) fun t σ8 e93 G S8=>?_
 refine eB (ut (n:=n+8) (sc:=.lst (is.map V.int)) (s:=L) (bI 1 39691474648041828107433287888 rfl hn) (show Facts ks rs cols t from⟨aP 1 19315541952065 rfl (Nat.le_of_eq lk.symm),aP 2 118428169408356901298433 rfl h3 (Nat.le_of_eq lk),R',aP 2 118428169412754947813633 rfl h5 (Nat.le_of_eq Rn),C,G⟩) ((List.range 2).map fun(i:Nat)=>V.int (i:Int)) (ρ:=ρ10.set 93 (.v t)) (σ:=σ8) ⟨a70,a102,a73,a105,rfl,rfl,rfl,P7.same S8.weak ne⟩) fun ρ' σ' e31 S=>?_
 have k1:(List.range (d3+1)).length≤bq:=by refine eR List.length_range ?_;exact Nat.le_trans h3 (by decide)
 refine gc ρ' σ' ?_ S.h70 S.h102
 exact fU (aJ (aB (aa h70) (aa h69)) e73) e80 (ag (cM m3 (by rw[lr];exact Nat.le_trans h3 (by decide)) e4) (bg (ρ1:=ρ4) (σ1:=σ4) rfl (eg m5 e6 (bg (v0 (eQ h100) (tu e106)) (ag e108 (ag e110 (ag (bm (C:=566) (fs:=[(32,b4),(33,.lst (List.replicate rs.length (.bool false))),(34,bO a b')]) (aa (x:=110) (ρ:=ρ10) rfl) (aB (aa (x:=106) rfl) (aa (x:=108) rfl)) rfl rfl e93)
  (eg (de (n:=2) rfl (by decide)) e31 rfl))))))))
end
end Mine
namespace Mine
open PySem PySem.W
section
variable {T:Tab}{c:Calls}{wf n:Nat}{ρ ρ':ay}{σ σ1 σ2 σ':Store}
noncomputable abbrev Di:Ss:=.cons (.for [103,104] (.enum (.item (.glob 5) (.var 79))) (.cons (.assign 90 (.new 587 (.cons (.item (.var 104) (.int 0)) (.cons (.var 103) (.cons (.blt .len (.cons (.item (.var 104) (.int 1)) .nil)) (.cons (.list .nil) (.cons (.var 79) (.cons .none (.cons (.blt .len (.cons (.item (.glob 5) (.var 79)) .nil)) (.cons (.cmp .Eq (.var 79) (.str "N")) .nil)))))))))) (.cons (.setItem (.var 102) (.item (.var 104) (.int 0)) (.var 90)) .nil))) .nil
noncomputable def x7:List (Str × V):=[("M.A",zN "M.A" 0 0 "T" 2 false),("M.B",zN "M.B" 1 2 "T" 2 false),("M.N",zN "M.N" 0 1 "N" 1 true)]
noncomputable abbrev CG:S:=.for [79] (.val (.tup (.cons (.str "T") (.cons (.str "N") .nil)))) Di
theorem uF{sc:V}:(bA af.toTab (ac af (n+1)) (n+1) CG ((aq [70] [sc]).set 102 (.ownd [])) σ).map (fun x=>((match x.1 with|.next=>true|.ret _=>false),x.2.1 70,x.2.1 102,x.2.2))=some (true,some (.v sc),some (.ownd x7),σ):=by kernel_rfl
theorem wd{sc:V}:∃ρ',bA af.toTab (ac af (n+1)) (n+1) CG ((aq [70] [sc]).set 102 (.ownd [])) σ=some (.next,ρ',σ)∧ρ' 70=some (.v sc)∧ρ' 102=some (.ownd x7):=by
 obtain⟨⟨fl,ρ',σ'⟩,e,h⟩:=Option.map_eq_some_iff.mp (uF (n:=n) (σ:=σ) (sc:=sc))
 induction fl using Fl.casesOn with
 |ret d=>cases h
 |next=>
  injection h with _ h
  injection h with h1 h
  injection h with h2 h3
  rw[(show σ'=σ from h3)]at e
  exact iK ρ' e h1 h2
theorem rO{is:List Int}(hn:300≤n)(hl:is.length≤1000)(l:List Nat)(hk:∀k∈l,k≤1)(h70:ρ 70=some (.v (.lst (is.map V.int))))(h102:ρ 102=some (.v fg)):
  ∃ρ' σ',aZ (fq af.toTab (ac af n) n [69] Cn) (l.map fun(i:Nat)=>V.int (i:Int)) ρ σ=some (.next,ρ',σ'):=by
 induction l generalizing ρ σ with
 |nil=>exact rA ρ σ rfl
 |cons k l ih=>
  refine hU (xL (k:=k) (ρ:=ρ.set 69 (.v (.int (k:Int)))) (σ:=σ) hn hl (hk k List.mem_cons_self) h70 h102 rfl) fun ρ1 σ1 e1 a b=>?_
  obtain⟨ρ2,σ2,e2⟩:=ih (fun x m=>hk x (List.mem_cons_of_mem _ m)) a b
  exact rA ρ2 σ2 (cj e1 e2)
theorem zZ{x:Nat}{es:List (Str × V)}(hx:ρ x=some (.ownd es)):ff (.freeze x) ρ σ=some (ρ.set x (.v (.dct es)),σ):=by
 unfold ff;dsimp only;rw[hx]
theorem AN{tg:List Nat}{it:It}{b:Ss}{l:List V}(h:cH T c it ρ σ=some (l,σ1))(h2:aZ (fq T c wf tg b) l ρ σ1=some (.next,ρ',σ2)):bA T c wf (.for tg it b) ρ σ=some (.next,ρ',σ2):=by
 show(cH T c it ρ σ).bind _=_;refine eR h ?_;exact h2
theorem tT{is:List Int}(hl:is.length≤1000):∃σ',(ac af 301).fn 725 [.lst (is.map V.int)] σ=some (.bool true,σ'):=by
 refine jv (wd (n:=299) (σ:=σ) (sc:=.lst (is.map V.int))) fun ρ1 e1 a b=>?_
 let m:Nat:=if 2≤is.length then 2 else 1
 have em:ak af.toTab (ac af 300) (.blt .max (.cons (.int 1) (.cons (.blt .min (.cons (.blt .len (.cons (.var 70) .nil)) (.cons (.int 2) .nil))) .nil))) (ρ1.set 102 (.v fg)) σ=some (.int (m:Nat),σ):=by
  have el:ak af.toTab (ac af 300) (.blt .len (.cons (.var 70) .nil)) (ρ1.set 102 (.v fg)) σ=some (.int (is.length:Nat),σ):=by
   refine bH (vs:=[.lst (is.map V.int)]) (az (aa a)) ?_
   show(if(is.map V.int).length≤bq then some (V.int ((is.map V.int).length:Nat),σ)else none)=_
   rw[List.length_map,if_pos (Nat.le_trans hl (by decide))]
  refine bH (vs:=[.int 1,.int (if(2:Int)<(is.length:Nat)then 2 else(is.length:Nat))]) (aB rfl (bH (vs:=[.int (is.length:Nat),.int 2]) (aB el rfl) rfl)) ?_
  show some (V.int (if(if(2:Int)<(is.length:Nat)then(2:Int)else(is.length:Nat))>1 then(if(2:Int)<(is.length:Nat)then(2:Int)else(is.length:Nat))else 1),σ)=_
  have:(if(if(2:Int)<(is.length:Nat)then(2:Int)else(is.length:Nat))>1 then(if(2:Int)<(is.length:Nat)then(2:Int)else(is.length:Nat))else 1)=((if 2≤is.length then 2 else 1:Nat):Int):=by lia
  rw[this]
 have hm:m≤2:=by show(if 2≤is.length then 2 else 1)≤2;split<;>decide
 refine ym (rO (n:=300) (σ:=σ) (ρ:=ρ1.set 102 (.v fg)) (by decide) hl (List.range m) (fun k h=>by have:=List.mem_range.mp h;exact aP 2 6216093482399142145 rfl hm this) a rfl) fun ρ' σ' e2=>?_
 exact⟨σ',aI (fi:=⟨[70],Ba⟩) (ρ':=ρ') rfl rfl (bg rfl (bg e1 (bg (v0 (zZ b) (AN (de em (Nat.le_trans hm (by decide))) e2)) (aN rfl))))⟩
end
end Mine
namespace Mine
open PySem PySem.W PyProof.Rows
theorem uZ{G:Cfg}(Sg:Stat G)(n:Nat):Spec G n:=⟨fun h R S=>r6 h R S,fun K g o E l=>pD Sg K g o E l,fun K g g2 o o' E E' l=>pb K Sg g g2 o o' ⟨fun _ _=>rfl,fun _=>rfl,fun _ _=>rfl,fun _ _=>rfl⟩ E E' l,fun K g g2 o o' E E' p l=>pL K Sg g g2 o o' ⟨fun _ _=>rfl,fun _=>rfl,fun _ _=>rfl,fun _ _=>rfl⟩ E E' p l,fun K ok a b q=>u4 Sg K ok a b q⟩
theorem uN{G:Cfg}{X:VW}{R:WRecords}{cl:Str→Option Addr}{P:Params}{ord:List DictEntry→List DictEntry}:∀(ns:List Int)(s:Shared)(r:List Value × Shared),0<s.toks→layAllW R cl P ord (ofPys (ns.map PyData.int)) s=some r→RpL G X r.1 (ns.map V.int)∧0<r.2.toks
 |[],s,r,ht,e=>by
  have:layAllW R cl P ord (ofPys (List.map PyData.int [])) s=some ([],s):=by simp[ofPys,layAllW]
  rw[this]at e
  refine oE e ?_;exact⟨.nil,ht⟩
 |n::ns,s,r,ht,e=>by
  simp only [List.map_cons,ofPys,ofPy,layAllW,layW]at e
  cases q:layAllW R cl P ord (ofPys (List.map PyData.int ns)) {s with toks:=s.toks+1}with
  |none=>rw[q]at e;exact nE e
  |some r'=>
   rw[q]at e
   refine pE e ?_
   have z:=uN (G:=G) (X:=X) ns {s with toks:=s.toks+1} r' (Nat.succ_pos _) q
   exact⟨.cons (.int _ _ ht) z.1,z.2⟩
theorem sK{G:Cfg}{X:VW}{R:WRecords}{w:World}{s₀ s₁:Shared}{ns:List Int}{a:Addr}{as:List Addr}(L:Laid R w s₀ s₁ [ofPy (PyData.list (ns.map PyData.int))] [.ref a] as)(h:0<s₀.toks)(hX:X.g=s₁.heap):Rp G X (.ref a) (.lst (ns.map V.int))∧0<s₁.toks:=by
 refine aT L.laid fun ord _ e=>?_
 simp only [ofPy,layAllW,layW]at e
 clear as L;cases q:layAllW R (classAt s₀.heap) w.params ord (ofPys (List.map PyData.int ns)) s₀ with
 |none=>rw[q]at e;exact nE e
 |some r=>
  rw[q]at e
  refine cB (uN (G:=G) (X:=X) ns s₀ r h q) fun h1 h2=>?_
  simp only [Option.some.injEq,Prod.mk.injEq,List.cons.injEq,Value.ref.injEq]at e
  obtain⟨⟨ea,_⟩,es⟩:=e
  subst es ea
  exact⟨.lst' (n:=0) (by refine eR hX ?_;exact Heap.get?_push_size _ rfl) h1,h2⟩
theorem vB{prog:Program}{w:World}{K:Frag}{R:WRecords}{s₀ s₁:Shared}{mg mb:Str→Option Value}{ns:List Int}{fa a:Addr}{as:List Addr}{E:Value→Shared→Prop}(Z:KAll w K)(KX:K.In s₁.heap)(hl:s₁.heap.NoLimit)(g1:s₁.heap.Ns mainGlobals mg)(g2:s₁.heap.Ns builtinsNs mb)(g3:∃mc,s₁.heap.Ns cStatics mc)(hg:s₁.gens= #[])
  (hf:mg "law"=some (.ref fa)) (L:Laid R w s₀ s₁ [ofPy (PyData.list (ns.map PyData.int))] [.ref a] as) (ht:0<s₀.toks) (hn:ns.length≤1000) {Q:Value→Shared→Prop} (q:∀s',dS s₁.heap s'.heap→s'.os=s₁.os→s'.gens= #[]→Q (.bool true) s'):wpAny (model prog w) callerA (call (.ref fa) [.ref a]) Q E s₁:=by
 have S:=qz (prog:=prog) Z KX hl g1 g2 g3
 have Al:=zA (prog:=prog) Z KX hl g1 g2 g3 fun n=>uZ S n
 refine cB (sK (G:=⟨prog,w,K,gN s₁.heap (aK K "_law_never"),s₁.os⟩) (X:=gN s₁.heap (aK K "_law_never")) L ht rfl) fun r tk=>?_
 have e7:fa=725:=by
  have:=eu KX g1 (List.map_inj_left.mp Z.gl 725 (by decide+kernel))
  replace this:=hf▸(show fx 725="law" by rfl)▸this
  exact Value.ref.inj (Option.some.inj this)
 clear R mg mb as hl g1 g2 g3 hf L;subst e7
 obtain⟨σ',h⟩:=tT (σ:=⟨[],1⟩) hn
 have I:Inv ⟨prog,w,K,gN s₁.heap (aK K "_law_never"),s₁.os⟩ (gN s₁.heap (aK K "_law_never")) (fun _=>none) ⟨[],1⟩ s₁:=by
  refine⟨.refl _,.refl _,fun _ _ e=>(nomatch e),fun n c e=>(nomatch e),fun n a e=>(nomatch e),fun k a e=>?_,fun k k' a e e'=>?_,hg,rfl,tk⟩
  ·exact bv (show(if k=0 then some (aK K "_law_never")else none)=some a from e) fun q e=>by refine oE e ?_;subst q;exact⟨Nat.one_pos,_,KX _ _ Z.k6.1⟩
  ·exact bv (show(if k=0 then some (aK K "_law_never")else none)=some a from e) fun q _=>bv (show(if k'=0 then some (aK K "_law_never")else none)=some a from e') fun q' _=>q.trans q'.symm
 refine wpAny_mono (yE (n:=300) ⟨Al.S,Al.C,Al.F,vd Al 300,Al.sp 300⟩ Al.ks (mq Al.S Al.ks Al.kn) Al.hp Al.fa (show qo af (ac af 300) 300 725 [.lst (ns.map V.int)] ⟨[],1⟩=some (.bool true,σ')from h) I (.cons r .nil) ⟨rfl,by decide,by decide⟩) (fun v s' h=>?_) fun _ _ z=>z.elim
 refine z8 h fun X' r k e1 e2=>?_
 exact r.on (q s' k e1 e2)
end Mine
set_option backward.match.sparseCases true
set_option Elab.async true
set_option maxHeartbeats 0
open PySem PySem.W PyProof.Rows PySem.W.X PySem.W.ZRun Mine
namespace Mine.zk
theorem tw6118769928421409485:True:=trivial
theorem tw15012077542063561093:True:=trivial
theorem tw15867998150380219227:True:=trivial
theorem tw10693964005684913941:True:=trivial
theorem tw390842934778983257:True:=trivial
theorem tw17961600232539540650:True:=trivial
theorem tw14530941815382649705:True:=trivial
theorem tw8128444432869611195:True:=trivial
theorem tw8955195756491113367:True:=trivial
theorem tw11039495224318677932:True:=trivial
theorem tw8493977352767563185:True:=trivial
theorem tw5852686736451823077:True:=trivial
theorem tw9544743266749683468:True:=trivial
theorem tw7344950826246236531:True:=trivial
theorem tw4873396098608739910:True:=trivial
theorem tw4574876042334893588:True:=trivial
theorem tw9956762439172855570:True:=trivial
theorem tw17706072500867781891:True:=trivial
theorem tw9393234506783032765:True:=trivial
theorem tw7917698482728400979:True:=trivial
theorem tw2409998187885834558:True:=trivial
theorem tw1856178442393070355:True:=trivial
theorem tw14772272377307024715:True:=trivial
theorem tw10698401202541758568:True:=trivial
theorem tw9796688360432310854:True:=trivial
theorem tw12513097248371378648:True:=trivial
theorem tw12914604801944765207:True:=trivial
theorem tw2980922119288422005:True:=trivial
theorem tw1159514667643102523:True:=trivial
theorem tw7219235884906010430:True:=trivial
theorem tw17094034700373055732:True:=trivial
theorem tw5876860644540546925:True:=trivial
theorem tw4905530168939961062:True:=trivial
theorem tw16219985997658196503:True:=trivial
theorem tw10208997428805858550:True:=trivial
theorem tw685354937226494523:True:=trivial
theorem tw16523333049661957672:True:=trivial
theorem tw1137296183197912672:True:=trivial
theorem tw17637627753506970086:True:=trivial
theorem tw13057935026248791226:True:=trivial
theorem tw5320582643304730577:True:=trivial
theorem tw2376478830819495205:True:=trivial
theorem tw14028727072571753752:True:=trivial
theorem tw8894474905101163865:True:=trivial
theorem tw14710542786485499641:True:=trivial
theorem tw12524109334216051515:True:=trivial
theorem tw7510537760910609779:True:=trivial
theorem tw7055690106319243897:True:=trivial
theorem tw3349023260220869226:True:=trivial
theorem tw15559583814371875346:True:=trivial
theorem tw2950408377003559844:True:=trivial
theorem tw17966641618316548337:True:=trivial
theorem tw18063878640532370154:True:=trivial
theorem tw5311880834689316898:True:=trivial
theorem tw14193964814869746330:True:=trivial
theorem tw17837547436606434187:True:=trivial
theorem tw3517853940385637239:True:=trivial
theorem tw8991814179111379992:True:=trivial
theorem tw7510004765010153444:True:=trivial
theorem tw13208547793445578490:True:=trivial
theorem tw469140633362472736:True:=trivial
theorem tw1135003141733017813:True:=trivial
theorem tw15586728310976598605:True:=trivial
theorem tw11981692330858791625:True:=trivial
theorem tw1144740467566021957:True:=trivial
theorem tw2177604336861009583:True:=trivial
theorem tw2535034283179275037:True:=trivial
theorem tw388532998498604036:True:=trivial
theorem tw17021016174342957709:True:=trivial
theorem tw10640473074257907868:True:=trivial
theorem tw12563348550106280802:True:=trivial
theorem tw5788309031785919348:True:=trivial
theorem tw18041407078470626006:True:=trivial
theorem tw8436175896013242876:True:=trivial
theorem tw8738955698724221015:True:=trivial
theorem tw10631307712219924643:True:=trivial
theorem tw7576964743768439031:True:=trivial
theorem tw9620045522477130466:True:=trivial
theorem tw45248386306496588:True:=trivial
theorem tw6166789018317805688:True:=trivial
theorem tw5828588116328398685:True:=trivial
theorem tw2742089369403118115:True:=trivial
theorem tw10539461612547886665:True:=trivial
theorem tw2081959330316631832:True:=trivial
theorem tw12854145142797875348:True:=trivial
theorem tw7365119031559372904:True:=trivial
theorem tw329259823649597675:True:=trivial
theorem tw12786317816464989820:True:=trivial
theorem tw5092982472291224178:True:=trivial
theorem tw7102093381611899734:True:=trivial
theorem tw3503439634064510578:True:=trivial
theorem tw9055984254997451862:True:=trivial
theorem tw107061460502648796:True:=trivial
theorem tw8336108029788212153:True:=trivial
theorem tw18167482401191133674:True:=trivial
theorem tw13006859237792495:True:=trivial
theorem tw11221932804721401395:True:=trivial
theorem tw15079215156278055867:True:=trivial
theorem tw4391719433103771802:True:=trivial
theorem tw15217983574469408442:True:=trivial
theorem tw11719436026003123060:True:=trivial
theorem tw16503645913232833685:True:=trivial
theorem tw6838205370861248022:True:=trivial
theorem tw1818288363290574796:True:=trivial
theorem tw18375707761567531199:True:=trivial
theorem tw390269640755771093:True:=trivial
theorem tw9450322488868105587:True:=trivial
theorem tw6538576142486865213:True:=trivial
theorem tw6543720052610137035:True:=trivial
theorem tw5374722005135450173:True:=trivial
theorem tw18401252101750861320:True:=trivial
theorem tw5626915250675671486:True:=trivial
theorem tw14878784398463963933:True:=trivial
theorem tw7607218872082698997:True:=trivial
theorem tw8684777481765224852:True:=trivial
theorem tw4442183238223402672:True:=trivial
theorem tw17240034759295645666:True:=trivial
theorem tw5125940469465037026:True:=trivial
theorem tw16835962790758022513:True:=trivial
theorem tw12211392014570714456:True:=trivial
theorem tw7041913374493740016:True:=trivial
theorem tw6423716656893483788:True:=trivial
theorem tw10705470955939037301:True:=trivial
theorem tw12742382536798777818:True:=trivial
theorem tw14337587551286096923:True:=trivial
theorem tw11338165272504131324:True:=trivial
theorem tw6880005746148964919:True:=trivial
theorem tw15874733448045764366:True:=trivial
theorem tw14849558835157488757:True:=trivial
theorem tw6802222086795734796:True:=trivial
theorem tw16699394788675417587:True:=trivial
theorem tw13781835475485285026:True:=trivial
theorem tw5648426570461467761:True:=trivial
theorem tw11037440760625746122:True:=trivial
theorem tw7163243695366066652:True:=trivial
theorem tw14621589492342122056:True:=trivial
theorem tw14753720226867479086:True:=trivial
theorem tw6496992637240421886:True:=trivial
theorem tw14696740119421362868:True:=trivial
theorem tw17983911746526370946:True:=trivial
theorem tw7957637951310104283:True:=trivial
theorem tw10859449227505179850:True:=trivial
theorem tw1856516953431366326:True:=trivial
theorem tw3629835825104514922:True:=trivial
theorem tw12778709545715426385:True:=trivial
theorem tw2645684026601800058:True:=trivial
theorem tw16592189962587555702:True:=trivial
theorem tw4039006012043515519:True:=trivial
theorem tw18017568619150622648:True:=trivial
theorem tw10566755083760128886:True:=trivial
theorem tw1817469104128718373:True:=trivial
theorem tw10220386315225590626:True:=trivial
theorem tw17661393743318810083:True:=trivial
theorem tw15888819412680673908:True:=trivial
theorem tw9480451947254053982:True:=trivial
theorem tw18355696991399182677:True:=trivial
theorem tw662834425945470391:True:=trivial
theorem tw14220509832519026621:True:=trivial
theorem tw12369058431597625106:True:=trivial
theorem tw8392596746855890780:True:=trivial
theorem tw11796290133487069457:True:=trivial
theorem tw13624029683726139099:True:=trivial
theorem tw10389170969477250471:True:=trivial
theorem tw4170146331007270195:True:=trivial
theorem tw7466280388649872893:True:=trivial
theorem tw1202385466519429881:True:=trivial
theorem tw18059862708096827158:True:=trivial
theorem tw2333013417277324944:True:=trivial
theorem tw12947788864406418852:True:=trivial
theorem tw5716999572138339434:True:=trivial
theorem tw2962738766941197471:True:=trivial
theorem tw9210690690104325594:True:=trivial
theorem tw14759393844633727010:True:=trivial
theorem tw1191599190732171020:True:=trivial
theorem tw829464534086888407:True:=trivial
theorem tw14503922349498436062:True:=trivial
theorem tw13386999161526098728:True:=trivial
theorem tw8456169553786137614:True:=trivial
theorem tw17981424595257086904:True:=trivial
theorem tw9230344127734601898:True:=trivial
theorem tw14069542725942740923:True:=trivial
theorem tw465593038853163570:True:=trivial
theorem tw15375425500563463376:True:=trivial
theorem tw155744309080303814:True:=trivial
theorem tw7183631544423808204:True:=trivial
theorem tw6999603532222530953:True:=trivial
theorem tw8660667949737731024:True:=trivial
theorem tw7133498426454968935:True:=trivial
theorem tw5788045095658718294:True:=trivial
theorem tw1773657010055982755:True:=trivial
theorem tw13868149204945483843:True:=trivial
theorem tw5684616284486373220:True:=trivial
theorem tw247047193148010809:True:=trivial
theorem tw16470370386749960267:True:=trivial
theorem tw13925049305392335787:True:=trivial
theorem tw10797536355164273757:True:=trivial
theorem tw533494948763525716:True:=trivial
theorem tw2520910348504813118:True:=trivial
theorem tw17522734961532453512:True:=trivial
theorem tw2221219829769128136:True:=trivial
theorem tw16506715503180697903:True:=trivial
theorem tw2026819794042508281:True:=trivial
theorem tw4099912603084618352:True:=trivial
theorem tw10278466022465639260:True:=trivial
theorem tw13774745405549429984:True:=trivial
theorem tw15773214658903654877:True:=trivial
theorem tw8737992493726672102:True:=trivial
theorem tw10320926880745923039:True:=trivial
theorem tw18443180348311366224:True:=trivial
theorem tw10221361839323075608:True:=trivial
theorem tw6923840215922229684:True:=trivial
theorem tw14747947360189143984:True:=trivial
theorem tw11555522584981337538:True:=trivial
theorem tw6201033002169121944:True:=trivial
theorem tw5330603058951276241:True:=trivial
theorem tw12670179360167052800:True:=trivial
theorem tw7385261386710265813:True:=trivial
theorem tw3996878371989528186:True:=trivial
theorem tw16307929831910583785:True:=trivial
theorem tw13804170301485479237:True:=trivial
theorem tw766184992497115875:True:=trivial
theorem tw10134000261535232620:True:=trivial
theorem tw14678615267024030680:True:=trivial
theorem tw7878093974841353380:True:=trivial
theorem tw10989857116433397885:True:=trivial
theorem tw9807624507771033028:True:=trivial
theorem tw5137596948539924385:True:=trivial
theorem tw17770400870272636001:True:=trivial
theorem tw10117543298959939109:True:=trivial
theorem tw12147942788412912493:True:=trivial
theorem tw2696391638757284553:True:=trivial
theorem tw8982221919093389584:True:=trivial
theorem tw5384396542177861839:True:=trivial
theorem tw167856106085167080:True:=trivial
theorem tw315763434176978792:True:=trivial
theorem tw15346428592557873534:True:=trivial
theorem tw10859165021849041974:True:=trivial
theorem tw8897309056163902802:True:=trivial
theorem tw1706928203365810758:True:=trivial
theorem tw6875671289405873960:True:=trivial
theorem tw9807051781428586214:True:=trivial
theorem tw5005775915876361199:True:=trivial
theorem tw11837241619820481262:True:=trivial
theorem tw6668234738053398985:True:=trivial
theorem tw10437327908279656138:True:=trivial
theorem tw16650043489047773755:True:=trivial
theorem tw13986418913719394607:True:=trivial
theorem tw1545025512646101546:True:=trivial
theorem tw11381652496147227728:True:=trivial
theorem tw14781443280597298739:True:=trivial
theorem tw4788479280022678082:True:=trivial
theorem tw16938183693955202199:True:=trivial
theorem tw14400867894719118641:True:=trivial
theorem tw9860621644444873548:True:=trivial
theorem tw12688684804127745930:True:=trivial
theorem tw9110825012258220721:True:=trivial
theorem tw7625694818662577416:True:=trivial
theorem tw9448676065847744190:True:=trivial
theorem tw6958825779268590139:True:=trivial
theorem tw5694885391647492906:True:=trivial
theorem tw13766370709545939187:True:=trivial
theorem tw7474077699402481303:True:=trivial
theorem tw2054261489402000953:True:=trivial
theorem tw4264511735691824410:True:=trivial
theorem tw10098894008601135302:True:=trivial
theorem tw8535284079134812192:True:=trivial
theorem tw9923316241293855731:True:=trivial
theorem tw10110079247005149878:True:=trivial
theorem tw9343067910787880754:True:=trivial
theorem tw10693413257496568319:True:=trivial
theorem tw10758236903890601421:True:=trivial
theorem tw7429961282441326004:True:=trivial
theorem tw16176472392302716450:True:=trivial
theorem tw17096749964092550779:True:=trivial
theorem tw8827797092205869543:True:=trivial
theorem tw3458273070474915786:True:=trivial
theorem tw3682534589107672846:True:=trivial
theorem tw17462244873836952448:True:=trivial
theorem tw11735324075539164073:True:=trivial
theorem tw17234183450346154300:True:=trivial
theorem tw3363556357804784600:True:=trivial
theorem tw13311189219825486039:True:=trivial
theorem tw552342270673879547:True:=trivial
theorem tw14212587410927481813:True:=trivial
theorem tw12310311257851583045:True:=trivial
theorem tw12104479931935090248:True:=trivial
theorem tw15676323155010706521:True:=trivial
theorem tw4463042567425218459:True:=trivial
theorem tw6757122061179932999:True:=trivial
theorem tw7717821356170967449:True:=trivial
theorem tw7247872195832738863:True:=trivial
theorem tw10087042040617691095:True:=trivial
theorem tw13316237493087259589:True:=trivial
theorem tw7232081710288806754:True:=trivial
theorem tw14706909418945842158:True:=trivial
theorem tw8399333418167934595:True:=trivial
theorem tw11654151724446694715:True:=trivial
theorem tw1999628164434166048:True:=trivial
theorem tw4359084137676145456:True:=trivial
theorem tw12938428062074754634:True:=trivial
theorem tw5486191134008293844:True:=trivial
theorem tw3272480078145354530:True:=trivial
theorem tw12127381716343539416:True:=trivial
theorem tw14572168904587221539:True:=trivial
theorem tw5126134339122811162:True:=trivial
theorem tw17001912604325878478:True:=trivial
theorem tw8659523350905706740:True:=trivial
theorem tw4882379992937822778:True:=trivial
theorem tw13407420834297823854:True:=trivial
theorem tw5110879209533594553:True:=trivial
theorem tw879693884758605430:True:=trivial
theorem tw8028995589104356921:True:=trivial
theorem tw13120114542609570046:True:=trivial
theorem tw1195815905538530903:True:=trivial
theorem tw5908647603140419424:True:=trivial
theorem tw8792900337301442848:True:=trivial
theorem tw16302600127965589997:True:=trivial
theorem tw11496625799501702249:True:=trivial
theorem tw17961494071385995818:True:=trivial
theorem tw6539804310076412289:True:=trivial
theorem tw15049725566185010524:True:=trivial
theorem tw2934837816691152858:True:=trivial
theorem tw5989866200038434973:True:=trivial
theorem tw5664606596782345120:True:=trivial
theorem tw9815824051985268347:True:=trivial
theorem tw12861609375285270821:True:=trivial
theorem tw18116452510250837549:True:=trivial
theorem tw10198824647100323635:True:=trivial
theorem tw10538458236661860251:True:=trivial
theorem tw4814226657190562373:True:=trivial
theorem tw3200146507694101128:True:=trivial
theorem tw3369862637727362279:True:=trivial
theorem tw5048328933521726825:True:=trivial
theorem tw10585883871213635451:True:=trivial
theorem tw12266272714164750659:True:=trivial
theorem tw7357528834133395115:True:=trivial
theorem tw5395628948622145393:True:=trivial
theorem tw405058925928987067:True:=trivial
theorem tw7147532757154073549:True:=trivial
theorem tw11786018885704729492:True:=trivial
theorem tw5631707336492364488:True:=trivial
theorem tw9232501811828977546:True:=trivial
theorem tw15699003073576698014:True:=trivial
theorem tw5851331902965371514:True:=trivial
theorem tw5332708551806332268:True:=trivial
theorem tw15700978560140628537:True:=trivial
theorem tw8314567381617999518:True:=trivial
theorem tw9654621486729821891:True:=trivial
theorem tw6503452224530739540:True:=trivial
theorem tw12824263436216870629:True:=trivial
theorem tw5792566185927046751:True:=trivial
theorem tw10563340807323353380:True:=trivial
theorem tw3489199492355693807:True:=trivial
theorem tw15514347048948157670:True:=trivial
theorem tw4196701580260266325:True:=trivial
theorem tw1464994594211013401:True:=trivial
theorem tw9492908547748415428:True:=trivial
theorem tw13593703915001589808:True:=trivial
theorem tw5486254056977970191:True:=trivial
theorem tw2677288099498744911:True:=trivial
theorem tw950286470983360343:True:=trivial
theorem tw8610599292471202264:True:=trivial
theorem tw17439671351142694908:True:=trivial
theorem tw17417632150041568031:True:=trivial
theorem tw1529106540419866319:True:=trivial
theorem tw18075391627864576877:True:=trivial
theorem tw10834836617128696124:True:=trivial
theorem tw15494155161063398026:True:=trivial
theorem tw10743917163871329237:True:=trivial
theorem tw17738459989847513995:True:=trivial
theorem tw7682636464400447528:True:=trivial
theorem tw16421066906021879517:True:=trivial
theorem tw14779071696979583695:True:=trivial
theorem tw3196635329655047489:True:=trivial
theorem tw1670293833470027207:True:=trivial
theorem tw17237455313138355427:True:=trivial
theorem tw8138436872289376139:True:=trivial
theorem tw16587453893407337911:True:=trivial
theorem tw1570830541625904943:True:=trivial
theorem tw10757615604278661354:True:=trivial
theorem tw6074765159170854712:True:=trivial
theorem tw1273272797130675741:True:=trivial
theorem tw16910663142586628343:True:=trivial
theorem tw6439864888594175639:True:=trivial
theorem tw18332257151574301884:True:=trivial
theorem tw18017057784368825289:True:=trivial
theorem tw12507110943011030754:True:=trivial
theorem tw12740885221384413143:True:=trivial
theorem tw6255675968743851316:True:=trivial
theorem tw10345880491173349284:True:=trivial
theorem tw16309223969089850789:True:=trivial
theorem tw2996449666116762369:True:=trivial
theorem tw6442849343080060330:True:=trivial
theorem tw4708370444141856100:True:=trivial
theorem tw1821272562038433360:True:=trivial
theorem tw5888308765065083683:True:=trivial
theorem tw15242826301340950163:True:=trivial
theorem tw5787735101911330098:True:=trivial
theorem tw10554587794009018202:True:=trivial
theorem tw1781200238019560574:True:=trivial
theorem tw14267362018239399188:True:=trivial
theorem tw9272748316921426134:True:=trivial
theorem tw1879857485612510185:True:=trivial
theorem tw7332044888681465227:True:=trivial
theorem tw2980012571807387647:True:=trivial
theorem tw4933038137973407931:True:=trivial
theorem tw9858505988279495158:True:=trivial
theorem tw1160502891517265549:True:=trivial
theorem tw10176642078082657212:True:=trivial
theorem tw7975659191667403865:True:=trivial
theorem tw7555248234689824693:True:=trivial
theorem tw1783305798678190116:True:=trivial
theorem tw432330008798626537:True:=trivial
theorem tw16206256495707879553:True:=trivial
theorem tw13883304272555720284:True:=trivial
theorem tw8674897118740623255:True:=trivial
theorem tw16766986112164792780:True:=trivial
theorem tw17026649998935521034:True:=trivial
theorem tw16925131579551258015:True:=trivial
theorem tw3700576272407956937:True:=trivial
theorem tw13923438136125723582:True:=trivial
theorem tw16263037348227693712:True:=trivial
theorem tw14790903444945005493:True:=trivial
theorem tw18007937979496491108:True:=trivial
theorem tw12743995608505267737:True:=trivial
theorem tw559665873501631584:True:=trivial
theorem tw2586690523188951887:True:=trivial
theorem tw1149173839335938268:True:=trivial
theorem tw12344151005846095669:True:=trivial
theorem tw15616739755768060022:True:=trivial
theorem tw8968201488011958218:True:=trivial
theorem tw3792555968453343615:True:=trivial
theorem tw18350762800054158059:True:=trivial
theorem tw2747397293585121021:True:=trivial
theorem tw4056602872948896127:True:=trivial
theorem tw9107691470670812496:True:=trivial
theorem tw9020381570503048180:True:=trivial
theorem tw8654951046268806285:True:=trivial
theorem tw4233330544188382599:True:=trivial
theorem tw16242526741911709305:True:=trivial
theorem tw15615673022280524638:True:=trivial
end Mine.zk
theorem Mine.post_ok (l : List WData) : PySem.Challenge.rw_og0022_02.row.claim.post l (WData.bool true) l = true := by
  refine postW_of (X := true) rfl ?_ rfl
  show WTm.value _ (.eq .res (.lit (.bool true))) _ = _
  unfold WTm.value WTm.value
  exact congrArg (some <| WData.bool ·) (by simp [same])
theorem Mine.zk : PySem.Challenge.rw_og0022_02.Holds := by
  w_on; o_law; z_head; (case hw => w_witness2)
  k_fill
  intro w s₀ s₁ mg mb G y fa o pm cd doc dV kV ho hd hcd hD hmg hg args vals as L hpre hlay hrd hwl hlo
  z_open y L KX ZH ZN ZT
  refine Ground.open G ?_
  intro T B D TE TW
  wrow_args hpre hlay hrd hwl hlo
  rename_i hcond _
  refine vB ?_ KX T.nolimit T.g T.b (let ⟨mc, e, _⟩ := T.nodigits; ⟨mc, e⟩) hg hmg L (ZT ▸ (by decide : (0 : Nat) < 1194)) (by lia) fun s' k e1 e2 => ⟨.inl ⟨.bool true, _, _, rfl, fun _ => rfl, .bool true, Mine.post_ok _, fun _ => ⟨List.nodup_nil, fun _ m => nomatch m⟩⟩, .of_keep k, e1, .of_eq e2⟩
  constructor
  case k4 => constructor <;> first | kernel_rfl | decide +kernel
  case k5 => constructor <;> first | kernel_rfl | decide +kernel
  case k6 => refine ⟨?_, ?_, ?_, ?_⟩ <;> kernel_rfl
  all_goals kernel_rfl
theorem PySem.Challenge.cw_og0022_02_holds : PySem.Challenge.rw_og0022_02.Holds :=
  Mine.zk
