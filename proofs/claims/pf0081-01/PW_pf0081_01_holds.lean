import PyProof.Rows.All
import Wide.All
import OpenK.AllK
import Wide.FinOn
import Lean
import PySem.Challenge.RW_pf0081_01
set_option Elab.async false
set_option maxRecDepth 100000
set_option linter.unusedVariables false
set_option linter.unusedSimpArgs false
set_option tactic.hygienic false
set_option genInjectivity false
set_option genSizeOf false
namespace Internal
open PySem
section
universe u
variable {α β:Type u}
theorem nn {x:α} {p:Prop} (h:none=some x):p:=by cases h
theorem ff {p:Prop} (h:false=true):p:=by cases h
theorem s2 {a c:α} {b d:β} (h:some (a,b)=some (c,d)) {p:α→β→Prop} (k:p a b):p c d:=by cases h; exact k
theorem p2 {a c:α} {b d:β} (h:(a,b)=(c,d)) {p:α→β→Prop} (k:p a b):p c d:=by cases h; exact k
theorem s1 {a b:α} (h:some a=some b) {p:α→Prop} (k:p a):p b:=by cases h; exact k
end
theorem e0_2 {A B:Prop} {G:Prop} (h:A∧B) (f:A→B→G):G:=f h.1 h.2
theorem e1_1 {α:Sort _} {A:α→Prop} {G:Prop} (h:∃ x,A x) (f:∀ x,A x→G):G:=h.elim fun x h=>f x h
theorem e0_3 {A B C:Prop} {G:Prop} (h:A∧B∧C) (f:A→B→C→G):G:=f h.1 h.2.1 h.2.2
theorem e1_2 {α:Sort _} {A B:α→Prop} {G:Prop} (h:∃ x,A x∧B x) (f:∀ x,A x→B x→G):G:=h.elim fun x h=>f x h.1 h.2
theorem e2_1 {α β:Sort _} {A:α→β→Prop} {G:Prop} (h:∃ x y,A x y) (f:∀ x y,A x y→G):G:=h.elim fun x h=>h.elim fun y h=>f x y h
theorem e0_4 {A B C D:Prop} {G:Prop} (h:A∧B∧C∧D) (f:A→B→C→D→G):G:=f h.1 h.2.1 h.2.2.1 h.2.2.2
theorem e1_3 {α:Sort _} {A B C:α→Prop} {G:Prop} (h:∃ x,A x∧B x∧C x) (f:∀ x,A x→B x→C x→G):G:=h.elim fun x h=>f x h.1 h.2.1 h.2.2
theorem e2_2 {α β:Sort _} {A B:α→β→Prop} {G:Prop} (h:∃ x y,A x y∧B x y) (f:∀ x y,A x y→B x y→G):G:=h.elim fun x h=>h.elim fun y h=>f x y h.1 h.2
theorem e3_1 {α β γ:Sort _} {A:α→β→γ→Prop} {G:Prop} (h:∃ x y z,A x y z) (f:∀ x y z,A x y z→G):G:=h.elim fun x h=>h.elim fun y h=>h.elim fun z h=>f x y z h
theorem e0_5 {A B C D E:Prop} {G:Prop} (h:A∧B∧C∧D∧E) (f:A→B→C→D→E→G):G:=f h.1 h.2.1 h.2.2.1 h.2.2.2.1 h.2.2.2.2
theorem e1_4 {α:Sort _} {A B C D:α→Prop} {G:Prop} (h:∃ x,A x∧B x∧C x∧D x) (f:∀ x,A x→B x→C x→D x→G):G:=h.elim fun x h=>f x h.1 h.2.1 h.2.2.1 h.2.2.2
theorem e2_3 {α β:Sort _} {A B C:α→β→Prop} {G:Prop} (h:∃ x y,A x y∧B x y∧C x y) (f:∀ x y,A x y→B x y→C x y→G):G:=h.elim fun x h=>h.elim fun y h=>f x y h.1 h.2.1 h.2.2
theorem e3_2 {α β γ:Sort _} {A B:α→β→γ→Prop} {G:Prop} (h:∃ x y z,A x y z∧B x y z) (f:∀ x y z,A x y z→B x y z→G):G:=h.elim fun x h=>h.elim fun y h=>h.elim fun z h=>f x y z h.1 h.2
theorem e1_5 {α:Sort _} {A B C D E:α→Prop} {G:Prop} (h:∃ x,A x∧B x∧C x∧D x∧E x) (f:∀ x,A x→B x→C x→D x→E x→G):G:=h.elim fun x h=>f x h.1 h.2.1 h.2.2.1 h.2.2.2.1 h.2.2.2.2
theorem e2_4 {α β:Sort _} {A B C D:α→β→Prop} {G:Prop} (h:∃ x y,A x y∧B x y∧C x y∧D x y) (f:∀ x y,A x y→B x y→C x y→D x y→G):G:=h.elim fun x h=>h.elim fun y h=>f x y h.1 h.2.1 h.2.2.1 h.2.2.2
theorem e3_3 {α β γ:Sort _} {A B C:α→β→γ→Prop} {G:Prop} (h:∃ x y z,A x y z∧B x y z∧C x y z) (f:∀ x y z,A x y z→B x y z→C x y z→G):G:=h.elim fun x h=>h.elim fun y h=>h.elim fun z h=>f x y z h.1 h.2.1 h.2.2
theorem e4_2 {α β γ δ:Sort _} {A B:α→β→γ→δ→Prop} {G:Prop} (h:∃ x y z u,A x y z u∧B x y z u) (f:∀ x y z u,A x y z u→B x y z u→G):G:=h.elim fun x h=>h.elim fun y h=>h.elim fun z h=>h.elim fun u h=>f x y z u h.1 h.2
theorem e0_7 {A B C D E F H:Prop} {G:Prop} (h:A∧B∧C∧D∧E∧F∧H) (f:A→B→C→D→E→F→H→G):G:=f h.1 h.2.1 h.2.2.1 h.2.2.2.1 h.2.2.2.2.1 h.2.2.2.2.2.1 h.2.2.2.2.2.2
theorem e3_4 {α β γ:Sort _} {A B C D:α→β→γ→Prop} {G:Prop} (h:∃ x y z,A x y z∧B x y z∧C x y z∧D x y z) (f:∀ x y z,A x y z→B x y z→C x y z→D x y z→G):G:=h.elim fun x h=>h.elim fun y h=>h.elim fun z h=>f x y z h.1 h.2.1 h.2.2.1 h.2.2.2
theorem e4_3 {α β γ δ:Sort _} {A B C:α→β→γ→δ→Prop} {G:Prop} (h:∃ x y z u,A x y z u∧B x y z u∧C x y z u) (f:∀ x y z u,A x y z u→B x y z u→C x y z u→G):G:=h.elim fun x h=>h.elim fun y h=>h.elim fun z h=>h.elim fun u h=>f x y z u h.1 h.2.1 h.2.2
theorem e6_1 {α β γ δ ε ζ:Sort _} {A:α→β→γ→δ→ε→ζ→Prop} {G:Prop} (h:∃ x y z u v w,A x y z u v w) (f:∀ x y z u v w,A x y z u v w→G):G:=h.elim fun x h=>h.elim fun y h=>h.elim fun z h=>h.elim fun u h=>h.elim fun v h=>h.elim fun w h=>f x y z u v w h
theorem e2_6 {α β:Sort _} {A B C D E F:α→β→Prop} {G:Prop} (h:∃ x y,A x y∧B x y∧C x y∧D x y∧E x y∧F x y) (f:∀ x y,A x y→B x y→C x y→D x y→E x y→F x y→G):G:=h.elim fun x h=>h.elim fun y h=>f x y h.1 h.2.1 h.2.2.1 h.2.2.2.1 h.2.2.2.2.1 h.2.2.2.2.2
theorem e4_4 {α β γ δ:Sort _} {A B C D:α→β→γ→δ→Prop} {G:Prop} (h:∃ x y z u,A x y z u∧B x y z u∧C x y z u∧D x y z u) (f:∀ x y z u,A x y z u→B x y z u→C x y z u→D x y z u→G):G:=h.elim fun x h=>h.elim fun y h=>h.elim fun z h=>h.elim fun u h=>f x y z u h.1 h.2.1 h.2.2.1 h.2.2.2
theorem e4_5 {α β γ δ:Sort _} {A B C D E:α→β→γ→δ→Prop} {G:Prop} (h:∃ x y z u,A x y z u∧B x y z u∧C x y z u∧D x y z u∧E x y z u) (f:∀ x y z u,A x y z u→B x y z u→C x y z u→D x y z u→E x y z u→G):G:=h.elim fun x h=>h.elim fun y h=>h.elim fun z h=>h.elim fun u h=>f x y z u h.1 h.2.1 h.2.2.1 h.2.2.2.1 h.2.2.2.2
theorem le1 {a b c d:Nat} (h:a≤b) (k:c + b≤d + a):c≤d:=Nat.le_of_add_le_add_right (Nat.le_trans (Nat.add_le_add_left h c) k)
theorem bse {α β:Type u} {x:Option α} {f:α→Option β} {b:β} {G:Prop} (h:x.bind f=some b) (k:∀ a,x=some a→f a=some b→G):G:=by
  cases x with
  | none=>cases h
  | some a=>exact k a rfl h
theorem mse {α β:Type u} {x:Option α} {f:α→β} {b:β} {G:Prop} (h:x.map f=some b) (k:∀ a,x=some a→f a=b→G):G:=by
  cases x with
  | none=>cases h
  | some a=>injection h with h; exact k a rfl h
theorem wfe {p q:Bool} {G:Prop} (h:(p && q)=true) (k:p=true→q=true→G):G:=k (Bool.and_eq_true_iff.mp h).1 (Bool.and_eq_true_iff.mp h).2
theorem ar1 {W T N F:Nat} (hl:W + (0 + 1) + 2 * (N - F)≤1000) (hT:T≤2) (hF:F + 1≤N):W + T + 2 * (N - (F + (0 + 1)))≤1000:=by lia
theorem ar2 {W T N F u:Nat} (hm:3 * (N - F) + (W + (0 + 1)) < u + 1) (hT:T≤2) (hF:F + 1≤N):3 * (N - (F + (0 + 1))) + (W + T) < u:=by lia
theorem ar3 {p a d:Nat} (h:a≤p∧p≤a + d):p=a + (d - (d + a - p)):=by lia
theorem ar4 {u n m:Nat} (h:u + 10 * n < 9000) (q:m≤500):u + m < 9900:=Nat.lt_of_lt_of_le (Nat.lt_of_le_of_lt (Nat.add_le_add (Nat.le_add_right u (10 * n)) q) (Nat.add_lt_add_right h 500)) (Nat.le_of_ble_eq_true rfl)
theorem ar5 {u n m:Nat} (h:u + 10 * n < 9000) (q:m≤500):u + 1 + m < 9900:=by rw [Nat.add_assoc]; exact Nat.lt_of_lt_of_le (Nat.lt_of_le_of_lt (Nat.add_le_add (Nat.le_add_right u (10 * n)) (Nat.add_le_add_left q 1)) (Nat.add_lt_add_right h 501)) (Nat.le_of_ble_eq_true rfl)
theorem ar6 {c X Y p q P:Nat} (h1:X + 2≤c + p) (h2:Y + 2≤X + 2 + q) (p1:p≤P) (p2:q≤P):Y + 2≤c + 2 * P:=by
  rw [Nat.two_mul,← Nat.add_assoc]
  exact Nat.le_trans h2 (Nat.add_le_add (Nat.le_trans h1 (Nat.add_le_add_left p1 c)) p2)
theorem ar7 {n i:Nat} (h:i < n):((n:Int) - 1 + -1 * (i:Int)).toNat=n - 1 - i:=by lia
theorem ar8 {k B C j M:Nat} (hk:k + C≤M) (d3:20≤B) (d4:C=5 * B) (hj:j≤8):k + (B + 5) + j≤M:=by lia
inductive BI where
  | len | max | int | range | listM | listF | tuple | sorted | isinst | fset
inductive V where
  | none | bool (b:Bool) | int (i:Int) | str (n:Nat)
  | tup (vs:List V) | lst (vs:List V) | dct (ks:List Nat) (vs:List V) | dcti (ks:List Int) (vs:List V) | fset (is:List Int) | rng (n:Int)
  | loc (l:Nat) | inst (C l:Nat) | fn (a:Nat) | cls (a:Nat) | bi (b:BI) | lam (l:Nat)
inductive O where
  | list (vs:List V)
  | dict (kvs:List (Int × V))
  | obj (kvs:List (Nat × V))
  | code (b:Bool)
noncomputable abbrev S:=List O
noncomputable abbrev M:=List (Nat × V)
inductive X where
  | num (i:Int) (p:Nat) | st (n p:Nat) | tru (b:Bool) (p:Nat) | non (p:Nat)
  | loc (n p:Nat) | glob (n:Nat) (v:V) (p:Nat)
  | bin (op:Operator) (a b:X) (p:Nat) | neg (a:X) (p:Nat) | not (a:X) (p:Nat)
  | ite (t a b:X) (p:Nat) | bop (op:BoolOp) (xs:List X) (p:Nat)
  | cmp (op:CmpOp) (a b:X) (p:Nat)
  | call (f:X) (args:List X) (p:Nat) | mcall (o:X) (n:Nat) (args:List X) (ap p:Nat)
  | attr (o:X) (n p:Nat) | sub (o i:X) (p:Nat)
  | slc (o:X) (lo hi:Option (Int × Nat)) (sp p:Nat) | rev (o:X) (p1 p2 sp p:Nat)
  | tup (xs:List X) (k p:Nat) | lst (frz:Bool) (xs:List X) (p:Nat) | dct (frz:Bool) (ks vs:List X) (p:Nat)
  | comp (e:X) (t:List (Nat × Nat)) (tp:Option (Nat × Nat)) (it:X) (sc:Scope) (p:Nat)
  | lam (an ap:Nat) (pl pp gp sp:Nat) (sc:Scope) (p:Nat)
  | byt (p:Nat)
  | raw (e:PySem.Expr)
inductive Tg where
  | name (n p:Nat) | cel (n p:Nat) | tup (ns:List (Nat × Nat)) (k p:Nat) | attr (o:X) (n p:Nat) | sub (o i:X) (p:Nat)
inductive XS where
  | assign (t:Tg) (x:X) (p:Nat)
  | expr (x:X) (p:Nat)
  | ifs (t:X) (b o:List XS) (p:Pos)
  | ret (x:X) (p:Nat)
  | for_ (t:List (Nat × Nat)) (tp:Option (Nat × Nat)) (it:X) (b:List XS) (p:Pos)
  | whl (t:X) (b:List XS) (p:Pos)
  | rais (x:X) (p:Nat)
  | raw (s:Stmt)
noncomputable def digs:Nat→Nat→List Nat→List Nat
  | 0,_,acc=>acc
  | f + 1,n,acc=>match n with
    | 0=>acc
    | n=>digs f (n / 256) (n % 256 :: acc)
noncomputable def dec (n:Nat):Str:=⟨(digs 64 n []).toArray⟩
noncomputable def dpos (p:Nat):Pos:=⟨p / 90000,p / 300 % 300,p / 90000,p % 300⟩
noncomputable def nmE (t:Nat × Nat):PySem.Expr:=.Name (dec t.1) (dpos t.2)
noncomputable def tgE (t:List (Nat × Nat)):Option (Nat × Nat)→PySem.Expr
  | none=>match t with
    | [x]=>nmE x
    | _=>.Name (dec 0) (dpos 0)
  | some (k,p)=>.Tuple (t.map nmE) k (dpos p)
noncomputable def numE (c:Int × Nat):PySem.Expr:=.Constant (.int c.1) 0 (dpos c.2)
mutual
noncomputable def X.toE:X→PySem.Expr
  | .num i p=>.Constant (.int i) 0 (dpos p)
  | .st n p=>.Constant (.str (dec n)) 0 (dpos p)
  | .tru b p=>.Constant (.bool b) 0 (dpos p)
  | .non p=>.Constant .none 0 (dpos p)
  | .loc n p=>.Name (dec n) (dpos p)
  | .glob n _ p=>.Name (dec n) (dpos p)
  | .bin op a b p=>.BinOp a.toE op b.toE (dpos p)
  | .neg a p=>.UnaryOp .USub a.toE (dpos p)
  | .not a p=>.UnaryOp .Not a.toE (dpos p)
  | .ite t a b p=>.IfExp t.toE a.toE b.toE (dpos p)
  | .bop op xs p=>.BoolOp op (toEs xs) (dpos p)
  | .cmp op a b p=>.Compare a.toE [op] [b.toE] (dpos p)
  | .call f args p=>.Call f.toE (toEs args) [] (dpos p)
  | .mcall o n args ap p=>.Call (.Attribute o.toE (dec n) (dpos ap)) (toEs args) [] (dpos p)
  | .attr o n p=>.Attribute o.toE (dec n) (dpos p)
  | .sub o i p=>.Subscript o.toE i.toE (dpos p)
  | .slc o lo hi sp p=>.Subscript o.toE (.Slice (lo.map numE) (hi.map numE) none (dpos sp)) (dpos p)
  | .rev o p1 p2 sp p=>.Subscript o.toE (.Slice none none (some (.UnaryOp .USub (.Constant (.int 1) 0 (dpos p1)) (dpos p2))) (dpos sp)) (dpos p)
  | .tup xs k p=>.Tuple (toEs xs) k (dpos p)
  | .lst _ xs p=>.List (toEs xs) (dpos p)
  | .dct _ ks vs p=>.Dict (toEso ks) (toEs vs) (dpos p)
  | .comp e t tp it sc p=>.ListComp e.toE [⟨tgE t tp,it.toE,[],0⟩] sc (dpos p)
  | .lam an ap pl pp gp sp sc p=>.Lambda ⟨[],[⟨dec an,none,dpos ap⟩],none,[],[],none,[]⟩ (.Subscript (.Name (dec pl) (dpos pp)) (.Name (dec an) (dpos gp)) (dpos sp)) sc (dpos p)
  | .byt p=>.Constant (.bytes []) 0 (dpos p)
  | .raw e=>e
noncomputable def toEs:List X→List PySem.Expr
  | []=>[]
  | x :: r=>x.toE :: toEs r
noncomputable def toEso:List X→List (Option PySem.Expr)
  | []=>[]
  | x :: r=>some x.toE :: toEso r
end
noncomputable def Tg.toE:Tg→PySem.Expr
  | .name n p=>.Name (dec n) (dpos p)
  | .cel n p=>.Name (dec n) (dpos p)
  | .tup ns k p=>.Tuple (ns.map nmE) k (dpos p)
  | .attr o n p=>.Attribute o.toE (dec n) (dpos p)
  | .sub o i p=>.Subscript o.toE i.toE (dpos p)
mutual
noncomputable def XS.toS:XS→Stmt
  | .assign t x p=>.Assign [t.toE] x.toE (dpos p)
  | .expr x p=>.Expr x.toE (dpos p)
  | .ifs t b o p=>.If t.toE (toSs b) (toSs o) p
  | .ret x p=>.Return (some x.toE) (dpos p)
  | .for_ t tp it b p=>.For (tgE t tp) it.toE (toSs b) [] p
  | .whl t b p=>.While t.toE (toSs b) [] p
  | .rais x p=>.Raise (some x.toE) none (dpos p)
  | .raw s=>s
noncomputable def toSs:List XS→List Stmt
  | []=>[]
  | s :: r=>s.toS :: toSs r
end
noncomputable def look:M→Nat→Option V
  | [],_=>none
  | (k,v) :: r,n=>cond (k == n) (some v) (look r n)
noncomputable def put:M→Nat→V→M
  | [],n,v=>[(n,v)]
  | (k,w) :: r,n,v=>cond (k == n) ((k,v) :: r) ((k,w) :: put r n v)
theorem look_if {k n:Nat} {v:V} {r:M}:look ((k,v) :: r) n=if k=n then some v else look r n:=by
  show cond (k == n) _ _=_
  by_cases h:k=n
  · subst h; simp
  · rw [if_neg h,beq_false_of_ne h]; rfl
theorem put_if {k n:Nat} {v w:V} {r:M}:put ((k,w) :: r) n v=if k=n then (k,v) :: r else (k,w) :: put r n v:=by
  show cond (k == n) _ _=_
  by_cases h:k=n
  · subst h; simp
  · rw [if_neg h,beq_false_of_ne h]; rfl
noncomputable def lookI:List (Int × V)→Int→Option V
  | [],_=>none
  | (k,v) :: r,n=>if k=n then some v else lookI r n
noncomputable def putI:List (Int × V)→Int→V→List (Int × V)
  | [],n,v=>[(n,v)]
  | (k,w) :: r,n,v=>if k=n then (k,v) :: r else (k,w) :: putI r n v
mutual
noncomputable def veq:V→V→Bool
  | .none,.none=>true
  | .bool a,.bool b=>a == b
  | .int a,.int b=>a == b
  | .bool a,.int b=>(if a then 1 else 0) == b
  | .int a,.bool b=>a == (if b then 1 else 0)
  | .str a,.str b=>a == b
  | .tup a,.tup b=>veqs a b
  | .lst a,.lst b=>veqs a b
  | _,_=>false
noncomputable def veqs:List V→List V→Bool
  | [],[]=>true
  | a :: r,b :: q=>veq a b && veqs r q
  | _,_=>false
end
mutual
noncomputable def plain:V→Bool
  | .none | .bool _ | .int _ | .str _=>true
  | .tup vs=>plains vs
  | .lst vs=>plains vs
  | _=>false
noncomputable def plains:List V→Bool
  | []=>true
  | v :: r=>plain v && plains r
end
mutual
noncomputable def res (σ:S):V→Option V
  | .none=>some .none
  | .bool b=>some (.bool b)
  | .int i=>some (.int i)
  | .str n=>some (.str n)
  | .tup vs=>(ress σ vs).map .tup
  | .lst vs=>(ress σ vs).map .lst
  | .loc l=>match σ[l]? with
    | some (.list vs)=>if plains vs then some (.lst vs) else none
    | _=>none
  | _=>none
noncomputable def ress (σ:S):List V→Option (List V)
  | []=>some []
  | v :: r=>(res σ v).bind fun a=>(ress σ r).map (a :: ·)
end
mutual
noncomputable def dep:V→Nat
  | .tup vs=>deps vs + 1
  | .lst vs=>deps vs + 1
  | _=>0
noncomputable def deps:List V→Nat
  | []=>0
  | v :: r=>max (dep v) (deps r)
end
noncomputable def anyq (d:V):List V→Bool
  | []=>false
  | y :: r=>veq y d || anyq d r
noncomputable abbrev Rs:=Option (V × S)
noncomputable def eqv (a b:V) (σ:S):Option Bool:=(res σ a).bind fun x=>(res σ b).bind fun y=>if Nat.ble (dep x) 500 || Nat.ble (dep y) 500 then some (veq x y) else none
noncomputable def isIn (x:V) (ys:List V) (σ:S):Option Bool:=(res σ x).bind fun d=>(ress σ ys).bind fun ds=>if Nat.ble (dep d) 500 || Nat.ble (deps ds) 500 then some (anyq d ds) else none
noncomputable def sizeOk (n:Nat):Bool:=Nat.ble n 10000000
noncomputable def small (i:Int):Bool:=decide (-(2 ^ 62) < i) && decide (i < 2 ^ 62)
noncomputable def asInt:V→Option Int
  | .int i=>some i
  | _=>none
theorem asInt_eq {v:V} {i:Int} (h:asInt v=some i):v = .int i:=by
  cases v <;> first | exact nn h | exact congrArg V.int (Option.some.inj h)
noncomputable def addV (a b:V) (σ:S):Rs:=match a with
  | .int x=>(asInt b).bind fun y=>some (.int (x + y),σ)
  | .tup x=>(match b with | .tup y=>if sizeOk (x.length + y.length) then some (.tup (x++y),σ) else none | _=>none)
  | .lst x=>(match b with | .lst y=>if sizeOk (x.length + y.length) then some (.lst (x++y),σ) else none | _=>none)
  | _=>none
noncomputable def mulV (a b:V) (σ:S):Rs:=(asInt b).bind fun y=>match a with
  | .int x=>if small x || small y then some (.int (x * y),σ) else none
  | .lst [x]=>if decide (0≤y) && decide (y < 1000) then some (.loc σ.length,σ++[.list (List.replicate y.toNat x)]) else none
  | _=>none
noncomputable def intV (f:Int→Int→Option Int) (a b:V) (σ:S):Rs:=(asInt a).bind fun x=>(asInt b).bind fun y=>(f x y).map fun z=>(.int z,σ)
noncomputable def binop (op:Operator) (a b:V) (σ:S):Rs:=match op with
  | .Add=>addV a b σ
  | .Sub=>intV (fun x y=>some (x - y)) a b σ
  | .Mult=>mulV a b σ
  | .FloorDiv=>intV (fun x y=>if decide (0 < y) && small y then some (Int.fdiv x y) else none) a b σ
  | .Mod=>intV (fun x y=>if decide (0 < y) && small y then some (Int.fmod x y) else none) a b σ
  | .Pow=>intV (fun x y=>if decide (x=10) && decide (y=18) then some 1000000000000000000 else none) a b σ
  | _=>none
noncomputable def intC (f:Int→Int→Bool) (a b:V):Option Bool:=(asInt a).bind fun x=>(asInt b).map fun y=>f x y
noncomputable def isN:V→Option Bool
  | .none=>some true
  | .tup _ | .str _ | .int _ | .bool _=>some false
  | _=>none
noncomputable def isT:V→Option Bool
  | .bool x=>some x
  | .tup _=>some false
  | _=>none
noncomputable def isV (a b:V):Option Bool:=match b with
  | .none=>isN a
  | .bool c=>bif c then isT a else none
  | _=>none
noncomputable def dictAt (b:V) (σ:S):Option (List (Int × V)):=match b with
  | .loc l=>(match σ[l]? with | some (.dict kvs)=>some kvs | _=>none)
  | _=>none
theorem dictAt_eq {b:V} {σ:S} {kvs:List (Int × V)} (h:dictAt b σ=some kvs):∃ l,b = .loc l∧σ[l]? = some (.dict kvs):=by
  cases b with
  | loc l =>
    have h:(match σ[l]? with | some (.dict kvs)=>some kvs | _=>none)=some kvs:=h
    cases e:σ[l]? with
    | none=>rw [e] at h; exact nn h
    | some o =>
      rw [e] at h
      cases o with
      | dict _=>exact ⟨l,rfl,e.trans (congrArg (fun k=>some (O.dict k)) (Option.some.inj h))⟩
      | _=>exact nn h
  | _=>exact nn h
noncomputable def inV (a b:V) (σ:S):Option Bool:=match b with
  | .tup vs=>isIn a vs σ
  | .lst vs=>isIn a vs σ
  | .fset is=>(asInt a).map fun i=>is.contains i
  | .loc _=>(dictAt b σ).bind fun kvs=>(asInt a).map fun i=>(lookI kvs i).isSome
  | _=>none
noncomputable def cmpop (op:CmpOp) (a b:V) (σ:S):Option Bool:=match op with
  | .Eq=>eqv a b σ
  | .NotEq=>(eqv a b σ).map (!·)
  | .Lt=>intC (fun x y=>decide (x < y)) a b
  | .LtE=>intC (fun x y=>decide (x≤y)) a b
  | .Gt=>intC (fun x y=>decide (y < x)) a b
  | .GtE=>intC (fun x y=>decide (y≤x)) a b
  | .Is=>isV a b
  | .IsNot=>(match b with | .none=>(isN a).map (!·) | _=>none)
  | .In=>inV a b σ
  | .NotIn=>(dictAt b σ).bind fun kvs=>(asInt a).map fun i=>(lookI kvs i).isNone
noncomputable def getAt (vs:List V) (i:Int):Option V:=if small i then (if 0≤i then vs[i.toNat]? else if (-i).toNat≤vs.length then vs[vs.length - (-i).toNat]? else none) else none
noncomputable def itemL (vs:List V) (i:Int):Option V:=if decide (0≤i) && small i then vs[i.toNat]? else none
noncomputable def asStr:V→Option Nat
  | .str n=>some n
  | _=>none
theorem asStr_eq {v:V} {n:Nat} (h:asStr v=some n):v = .str n:=by
  cases v <;> first | exact nn h | exact congrArg V.str (Option.some.inj h)
noncomputable def itemO (o:Option O) (j:Int):Option V:=match o with
  | some (.list vs)=>itemL vs j
  | some (.dict kvs)=>lookI kvs j
  | _=>none
noncomputable def itemS (l:Nat) (j:Int) (σ:S):Rs:=(itemO σ[l]? j).map (·,σ)
noncomputable def getItem (o i:V) (σ:S):Rs:=match o with
  | .tup vs=>(asInt i).bind fun k=>(getAt vs k).map (·,σ)
  | .lst vs=>(asInt i).bind fun k=>(itemL vs k).map (·,σ)
  | .dct ks vs=>(asStr i).bind fun k=>(look (ks.zip vs) k).map (·,σ)
  | .loc l=>(asInt i).bind fun j=>itemS l j σ
  | _=>none
theorem gi_L {σ:S} {l:Nat} {j:Int} {vs:List V} (h:σ[l]? = some (.list vs)):getItem (.loc l) (.int j) σ=(itemL vs j).map (·,σ):=by
  show itemS l j σ=_
  unfold itemS; rw [h]; rfl
theorem gi_D {σ:S} {l:Nat} {j:Int} {kvs:List (Int × V)} (h:σ[l]? = some (.dict kvs)):getItem (.loc l) (.int j) σ=(lookI kvs j).map (·,σ):=by
  show itemS l j σ=_
  unfold itemS; rw [h]; rfl
noncomputable def setS (l:Nat) (j:Int) (v:V) (σ:S):Option S:=match σ[l]? with
  | some (.list vs)=>if decide (0≤j) && (small j && decide (j.toNat < vs.length)) then some (σ.set l (.list (vs.set j.toNat v))) else none
  | some (.dict kvs)=>if sizeOk kvs.length then some (σ.set l (.dict (putI kvs j v))) else none
  | _=>none
noncomputable def setItem (o i v:V) (σ:S):Option S:=match o with
  | .loc l=>(asInt i).bind fun j=>setS l j v σ
  | _=>none
theorem si_L {σ:S} {l:Nat} {j:Int} {v:V} {vs:List V} (h:σ[l]? = some (.list vs)):setItem (.loc l) (.int j) v σ=if decide (0≤j) && (small j && decide (j.toNat < vs.length)) then some (σ.set l (.list (vs.set j.toNat v))) else none:=by
  show setS l j v σ=_
  unfold setS; rw [h]
theorem si_D {σ:S} {l:Nat} {j:Int} {v:V} {kvs:List (Int × V)} (h:σ[l]? = some (.dict kvs)):setItem (.loc l) (.int j) v σ=if sizeOk kvs.length then some (σ.set l (.dict (putI kvs j v))) else none:=by
  show setS l j v σ=_
  unfold setS; rw [h]
structure Tab where
  init:Nat→Option Nat
  meth:Nat→Nat→Option Nat
  attr:Nat→Nat→Bool
noncomputable def getAttr (T:Tab) (o:V) (n:Nat) (σ:S):Rs:=match o with
  | .inst C l=>match σ[l]? with
    | some (.obj kvs)=>if T.attr C n then (look kvs n).map (·,σ) else none
    | _=>none
  | _=>none
noncomputable def setAttr (T:Tab) (o:V) (n:Nat) (v:V) (σ:S):Option S:=match o with
  | .inst C l=>match σ[l]? with
    | some (.obj kvs)=>if T.attr C n && Nat.ble kvs.length 900 then some (σ.set l (.obj (put kvs n v))) else none
    | _=>none
  | _=>none
noncomputable def cutV (o:V) (lo hi:Option (Int × Nat)) (σ:S):Rs:=match o,lo with
  | .tup vs,some (l,_)=>if decide (1≤l) && (decide (l≤(vs.length:Int)) && sizeOk vs.length) then (match hi with
    | none=>some (.tup (vs.drop l.toNat),σ)
    | some (h,_)=>if decide (l≤h) && decide (h≤(vs.length:Int)) then some (.tup ((vs.take h.toNat).drop l.toNat),σ) else none) else none
  | .tup vs,none=>(match hi with
    | none=>none
    | some (h,_)=>if decide (0≤h) && (decide (h < (vs.length:Int)) && sizeOk vs.length) then some (.tup (vs.take h.toNat),σ) else none)
  | _,_=>none
noncomputable def revV (o:V) (σ:S):Rs:=match o with
  | .lst vs=>if sizeOk vs.length then some (.lst vs.reverse,σ) else none
  | _=>none
noncomputable def items (o:V):Option (List V):=match o with
  | .tup vs=>some vs
  | .lst vs=>some vs
  | .rng n=>if decide (0≤n) && decide (n < 1000) then some ((List.range n.toNat).map fun i=>.int (i:Nat)) else none
  | _=>none
noncomputable def itemsC (o:V):Option (List V):=match o with
  | .tup vs=>if sizeOk vs.length then some vs else none
  | .lst vs=>if sizeOk vs.length then some vs else none
  | _=>none
noncomputable def insSorted (i:Int):List Int→List Int
  | []=>[i]
  | j :: r=>if i≤j then i :: j :: r else j :: insSorted i r
noncomputable def ints? : List V→Option (List Int)
  | []=>some []
  | .int i :: r=>(ints? r).map (i :: ·)
  | _ :: _=>none
noncomputable def isTup:V→Option Bool
  | .tup _=>some true
  | .bool _ | .int _ | .str _=>some false
  | _=>none
noncomputable def seqOf (σ:S):V→Option (List V)
  | .lst vs=>if sizeOk vs.length then some vs else none
  | .loc l=>(match σ[l]? with
    | some (.list vs)=>if sizeOk vs.length then some vs else none
    | _=>none)
  | _=>none
noncomputable def lenOk (n:Nat):Bool:=Nat.ble n 1000000000000000000
noncomputable def lenOf (σ:S):V→Option Nat
  | .tup vs=>if lenOk vs.length then some vs.length else none
  | .lst vs=>if lenOk vs.length then some vs.length else none
  | .loc l=>(match σ[l]? with
    | some (.list vs)=>if lenOk vs.length then some vs.length else none
    | some (.dict kvs)=>if lenOk kvs.length then some kvs.length else none
    | _=>none)
  | _=>none
noncomputable def builtin (b:BI) (args:List V) (σ:S):Rs:=match b,args with
  | .len,[a]=>(lenOf σ a).map fun (n:Nat)=>(V.int (n:Int),σ)
  | .max,[.int a,.int b]=>some (.int (if b > a then b else a),σ)
  | .int,[.int a]=>some (.int a,σ)
  | .int,[.bool a]=>some (.int (if a then 1 else 0),σ)
  | .range,[.int n]=>if decide (0≤n) && small n then some (.rng n,σ) else none
  | .listM,[a]=>(seqOf σ a).map fun vs=>(.loc σ.length,σ++[.list vs])
  | .listF,[a]=>(seqOf σ a).map fun vs=>(.lst vs,σ)
  | .tuple,[a]=>(seqOf σ a).map fun vs=>(.tup vs,σ)
  | .sorted,[a]=>(seqOf σ a).bind fun vs=>if Nat.blt vs.length 64 then (ints? vs).map fun is=>(.lst ((is.foldr insSorted []).map .int),σ) else none
  | .isinst,[v,.bi .tuple]=>(isTup v).map fun b=>(.bool b,σ)
  | .fset,[.dcti ks vs]=>if ks == [1,2] then some (.fset ks,σ) else none
  | _,_=>none
noncomputable def methS (l n:Nat) (args:List V) (σ:S):Rs:=match σ[l]? with
  | some (.list vs) =>
    if n=0x617070656e64 then (match args with | [v]=>if sizeOk vs.length then some (.none,σ.set l (.list (vs++[v]))) else none | _=>none)
    else if n=0x706f70 then (match args with | []=>(match vs.getLast? with | some v=>if sizeOk vs.length then some (v,σ.set l (.list vs.dropLast)) else none | none=>none) | _=>none)
    else if n=0x657874656e64 then (match args with | [.lst ws]=>if sizeOk (vs.length + ws.length) then some (.none,σ.set l (.list (vs++ws))) else none | _=>none)
    else none
  | some (.dict kvs) =>
    if n=0x676574 then (match args with | [.int k,d]=>some ((lookI kvs k).getD d,σ) | _=>none)
    else none
  | some (.obj _)=>none
  | some (.code _)=>none
  | none=>none
noncomputable abbrev Cl:=Nat→List V→S→Rs
noncomputable def callV (T:Tab) (C:Cl) (f:V) (args:List V) (σ:S):Rs:=match f with
  | .fn a=>C a args σ
  | .cls c=>(T.init c).bind fun i=>(C i (.inst c σ.length :: args) (σ++[.obj []])).bind fun r=>if (match r.1 with | .none=>true | _=>false) then some (.inst c σ.length,r.2) else none
  | .bi b=>builtin b args σ
  | .lam l=>match args,σ[l]? with
    | [.int k],some (.dict kvs)=>(lookI kvs k).map (·,σ)
    | _,_=>none
  | _=>none
noncomputable def methOk (T:Tab) (o:V) (n:Nat) (σ:S):Option (Option Nat):=match o with
  | .inst c l=>(T.meth c n).bind fun a=>match σ[l]? with
    | some (.obj kvs)=>if (look kvs n).isNone then some (some a) else none
    | _=>none
  | .loc l=>match σ[l]? with
    | some (.list _)=>if n=0x617070656e64 || n=0x706f70 || n=0x657874656e64 then some none else none
    | some (.dict _)=>if n=0x676574 then some none else none
    | _=>none
  | _=>none
noncomputable def methV (C:Cl) (o:V) (n:Nat) (a:Option Nat) (args:List V) (σ:S):Rs:=match o,a with
  | .inst _ _,some a=>C a (o :: args) σ
  | .loc l,none=>methS l n args σ
  | _,_=>none
noncomputable def truthy:V→Option Bool
  | .bool b=>some b
  | _=>none
noncomputable def bindT (t:List (Nat × Nat)) (tp:Option (Nat × Nat)) (v:V) (m:M):Option M:=match tp with
  | none=>match t with
    | [x]=>some (put m x.1 v)
    | _=>none
  | some _=>match v with
    | .tup vs=>if vs.length=t.length then some ((t.zip vs).foldl (fun m q=>put m q.1.1 q.2) m) else none
    | .lst vs=>if vs.length=t.length then some ((t.zip vs).foldl (fun m q=>put m q.1.1 q.2) m) else none
    | .loc _=>none
    | _=>none
noncomputable def bindS (t:List (Nat × Nat)) (tp:Option (Nat × Nat)) (v:V) (m:M) (σ:S):Option M:=match v,tp with
  | .loc l,some _=>match σ[l]? with
    | some (.list vs)=>if vs.length=t.length then some ((t.zip vs).foldl (fun m q=>put m q.1.1 q.2) m) else none
    | _=>none
  | v,tp=>bindT t tp v m
noncomputable def compL (f:V→S→Option (V × S)):List V→S→Option (List V × S)
  | [],σ=>some ([],σ)
  | v :: r,σ=>(f v σ).bind fun q=>(compL f r q.2).map fun z=>(q.1 :: z.1,z.2)
noncomputable def evk:List X→Option (List Nat)
  | []=>some []
  | .st n _ :: r=>(evk r).map (n :: ·)
  | _ :: _=>none
noncomputable def evki:List X→Option (List Int)
  | []=>some []
  | .num i _ :: r=>(evki r).map (i :: ·)
  | _ :: _=>none
mutual
noncomputable def ev (T:Tab) (C:Cl):X→M→S→Rs
  | .num i _,_,σ=>some (.int i,σ)
  | .st n _,_,σ=>some (.str n,σ)
  | .tru b _,_,σ=>some (.bool b,σ)
  | .non _,_,σ=>some (.none,σ)
  | .loc n _,m,σ=>(look m n).map (·,σ)
  | .glob _ v _,_,σ=>some (v,σ)
  | .bin op a b _,m,σ=>(ev T C a m σ).bind fun r=>(ev T C b m r.2).bind fun q=>binop op r.1 q.1 q.2
  | .neg a _,m,σ=>(ev T C a m σ).bind fun r=>match r.1 with | .int i=>some (.int (-i),r.2) | _=>none
  | .not a _,m,σ=>(ev T C a m σ).bind fun r=>(truthy r.1).map fun b=>(.bool (!b),r.2)
  | .ite t a b _,m,σ=>(evT T C t m σ).bind fun r=>match r.1 with | true=>ev T C a m r.2 | false=>ev T C b m r.2
  | .bop _ _ _,_,_=>none
  | .cmp op a b _,m,σ=>(ev T C a m σ).bind fun r=>(ev T C b m r.2).bind fun q=>(cmpop op r.1 q.1 q.2).map fun z=>(.bool z,q.2)
  | .call f args _,m,σ=>(ev T C f m σ).bind fun r=>(evs T C args m r.2).bind fun q=>callV T C r.1 q.1 q.2
  | .mcall o n args _ _,m,σ=>(ev T C o m σ).bind fun r=>(methOk T r.1 n r.2).bind fun a=>(evs T C args m r.2).bind fun q=>methV C r.1 n a q.1 q.2
  | .attr o n _,m,σ=>(ev T C o m σ).bind fun r=>getAttr T r.1 n r.2
  | .sub o i _,m,σ=>(ev T C o m σ).bind fun r=>(ev T C i m r.2).bind fun q=>getItem r.1 q.1 q.2
  | .slc o lo hi _ _,m,σ=>(ev T C o m σ).bind fun r=>cutV r.1 lo hi r.2
  | .rev o _ _ _ _,m,σ=>(ev T C o m σ).bind fun r=>revV r.1 r.2
  | .tup xs _ _,m,σ=>(evs T C xs m σ).map fun r=>(.tup r.1,r.2)
  | .lst frz xs _,m,σ=>(evs T C xs m σ).map fun r=>match frz with | true=>(.lst r.1,r.2) | false=>(.loc r.2.length,r.2++[.list r.1])
  | .dct frz ks vs _,m,σ=>(evs T C vs m σ).bind fun r=>match evk ks,evki ks with
    | some ks',_=>if frz && ks'.length=r.1.length then some (.dct ks' r.1,r.2) else if ks'.isEmpty && r.1.isEmpty then some (.loc r.2.length,r.2++[.dict []]) else none
    | none,some ks'=>if ks'.length=r.1.length then (match frz with | true=>some (.dcti ks' r.1,r.2) | false=>some (.loc r.2.length,r.2++[.dict (ks'.zip r.1)])) else none
    | none,none=>none
  | .comp e t tp it _ _,m,σ=>(ev T C it m σ).bind fun r=>(itemsC r.1).bind fun vs=>(compL (fun v σ=>(bindT t tp v m).bind fun m'=>ev T C e m' σ) vs r.2).map fun z=>(.lst z.1,z.2)
  | .lam _ _ pl _ _ _ _ _,m,σ=>(look m pl).bind fun v=>match v with | .loc l=>(match (σ[0]? : Option O) with | some (.code _)=>some (.lam l,σ.set 0 (.code true)) | _=>none) | _=>none
  | .byt _,_,_=>none
  | .raw _,_,_=>none
noncomputable def evs (T:Tab) (C:Cl):List X→M→S→Option (List V × S)
  | [],_,σ=>some ([],σ)
  | x :: r,m,σ=>(ev T C x m σ).bind fun a=>(evs T C r m a.2).map fun z=>(a.1 :: z.1,z.2)
noncomputable def evT (T:Tab) (C:Cl):X→M→S→Option (Bool × S)
  | .not a _,m,σ=>(evT T C a m σ).map fun r=>(!r.1,r.2)
  | .bop op xs _,m,σ=>evTs T C op xs m σ
  | .ite ..,_,_=>none
  | .cmp op a b _,m,σ=>(ev T C a m σ).bind fun r=>(ev T C b m r.2).bind fun q=>(cmpop op r.1 q.1 q.2).map fun z=>(z,q.2)
  | .tru b _,_,σ=>some (b,σ)
  | .loc n _,m,σ=>(look m n).bind fun v=>(truthy v).map fun b=>(b,σ)
  | .glob _ v _,_,σ=>(truthy v).map fun b=>(b,σ)
  | .call f args _,m,σ=>(ev T C f m σ).bind fun r=>(evs T C args m r.2).bind fun q=>(callV T C r.1 q.1 q.2).bind fun z=>(truthy z.1).map fun b=>(b,z.2)
  | .mcall o n args _ _,m,σ=>(ev T C o m σ).bind fun r=>(methOk T r.1 n r.2).bind fun a=>(evs T C args m r.2).bind fun q=>(methV C r.1 n a q.1 q.2).bind fun z=>(truthy z.1).map fun b=>(b,z.2)
  | .attr o n _,m,σ=>(ev T C o m σ).bind fun r=>(getAttr T r.1 n r.2).bind fun z=>(truthy z.1).map fun b=>(b,z.2)
  | .sub o i _,m,σ=>(ev T C o m σ).bind fun r=>(ev T C i m r.2).bind fun q=>(getItem r.1 q.1 q.2).bind fun z=>(truthy z.1).map fun b=>(b,z.2)
  | _,_,_=>none
noncomputable def evTs (T:Tab) (C:Cl):BoolOp→List X→M→S→Option (Bool × S)
  | .And,[],_,σ=>some (true,σ)
  | .Or,[],_,σ=>some (false,σ)
  | .And,x :: r,m,σ=>(evT T C x m σ).bind fun q=>match q.1 with | false=>some (false,q.2) | true=>evTs T C .And r m q.2
  | .Or,x :: r,m,σ=>(evT T C x m σ).bind fun q=>match q.1 with | true=>some (true,q.2) | false=>evTs T C .Or r m q.2
end
noncomputable abbrev Rx:=Option (Option V × M × S)
noncomputable def asgn (T:Tab) (C:Cl):Tg→V→M→S→Option (M × S)
  | .name n _,v,m,σ=>some (put m n v,σ)
  | .cel n _,v,m,σ=>if (look m n).isNone then some (put m n v,σ) else none
  | .tup ns k p,v,m,σ=>(bindS ns (some (k,p)) v m σ).map (·,σ)
  | .attr o n _,v,m,σ=>(ev T C o m σ).bind fun r=>(setAttr T r.1 n v r.2).map (m,·)
  | .sub o i _,v,m,σ=>(ev T C o m σ).bind fun r=>(ev T C i m r.2).bind fun q=>(setItem r.1 q.1 v q.2).map (m,·)
noncomputable def loopL (f:V→M→S→Rx):List V→M→S→Rx
  | [],m,σ=>some (none,m,σ)
  | v :: r,m,σ=>(f v m σ).bind fun q=>match q.1 with | some w=>some (some w,q.2) | none=>loopL f r q.2.1 q.2.2
noncomputable def loopI (f:V→M→S→Rx) (l:Nat):Nat→Nat→M→S→Rx
  | 0,_,_,_=>none
  | fu + 1,i,m,σ=>match σ[l]? with
    | some (.list vs)=>match vs[i]? with
      | none=>some (none,m,σ)
      | some v=>(f v m σ).bind fun q=>match q.1 with | some w=>some (some w,q.2) | none=>loopI f l fu (i + 1) q.2.1 q.2.2
    | _=>none
noncomputable def loopW (t:M→S→Option (Bool × S)) (f:M→S→Rx):Nat→M→S→Rx
  | 0,_,_=>none
  | fu + 1,m,σ=>(t m σ).bind fun b=>match b.1 with
    | false=>some (none,m,b.2)
    | true=>(f m b.2).bind fun q=>match q.1 with | some w=>some (some w,q.2) | none=>loopW t f fu q.2.1 q.2.2
noncomputable def fuel:Nat:=2000
mutual
noncomputable def ex (T:Tab) (C:Cl):XS→M→S→Rx
  | .assign t x _,m,σ=>(ev T C x m σ).bind fun r=>(asgn T C t r.1 m r.2).map fun z=>(none,z)
  | .expr x _,m,σ=>(ev T C x m σ).map fun r=>(none,m,r.2)
  | .ifs t b o _,m,σ=>(evT T C t m σ).bind fun r=>match r.1 with | true=>exs T C b m r.2 | false=>exs T C o m r.2
  | .ret x _,m,σ=>(ev T C x m σ).map fun r=>(some r.1,m,r.2)
  | .for_ t tp it b _,m,σ=>(ev T C it m σ).bind fun r=>match r.1 with
    | .loc l=>loopI (fun v m σ=>(bindS t tp v m σ).bind fun m'=>exs T C b m' σ) l fuel 0 m r.2
    | o=>(items o).bind fun vs=>loopL (fun v m σ=>(bindS t tp v m σ).bind fun m'=>exs T C b m' σ) vs m r.2
  | .whl t b _,m,σ=>loopW (fun m σ=>evT T C t m σ) (fun m σ=>exs T C b m σ) fuel m σ
  | .rais _ _,_,_=>none
  | .raw _,_,_=>none
noncomputable def exs (T:Tab) (C:Cl):List XS→M→S→Rx
  | [],m,σ=>some (none,m,σ)
  | s :: r,m,σ=>(ex T C s m σ).bind fun q=>match q.1 with | some w=>some (some w,q.2) | none=>exs T C r q.2.1 q.2.2
end
structure Fn where
  name:Nat
  params:List (Nat × Nat)
  dfl:List V
  body:List XS
noncomputable def binds (f:Fn) (args:List V):Option M :=
  if args.length≤f.params.length && f.params.length≤args.length + f.dfl.length then some ((f.params.map (·.1)).zip (args++f.dfl.drop (f.dfl.length + args.length - f.params.length))) else none
noncomputable def runF (T:Tab) (C:Cl) (f:Fn) (args:List V) (σ:S):Rs :=
  (binds f args).bind fun m=>(exs T C f.body m σ).map fun q=>(q.1.getD .none,q.2.2)
noncomputable def cf (T:Tab) (F:Nat→Option Fn):Nat→Cl
  | 0=>fun _ _ _=>none
  | n + 1=>fun a args σ=>(F a).bind fun f=>runF T (cf T F n) f args σ
end Internal
set_option genInjectivity false
set_option genSizeOf false
local macro_rules
  | `(tactic| simp only [EV,$xs,*])=>do
    let ys : Array (Lean.TSyntax `Lean.Parser.Tactic.simpLemma) ← ("kLoc_some e_num e_st e_tru e_non e_loc e_glob e_bin k_bin k_bin2 e_neg k_neg e_not k_not e_ite k_ite_t k_ite_f e_cmp k_cmp k_cmp2 k_cmp3 e_call k_call k_call2 e_mcall k_mc k_mc2 k_mc3 e_attr k_attr e_sub k_sub k_sub2 e_slc k_slc e_rev k_rev e_tup k_tup e_lst k_lst_t k_lst_f e_dct e_comp k_comp k_comp2 k_comp3 k_comp1 e_lam es_nil es_cons k_evs k_evs2 cl_nil cl_cons k_l1 k_l2 k_t t_not k_tn t_bop t_cmp k_tc k_tc2 k_tc3 t_loc t_call t_mcall t_attr t_sub t_tru ts_and0 ts_or0 ts_and ts_or k_and_t k_and_f k_or_t k_or_f x_assign k_as k_as2 x_expr k_ex x_ifs k_if_t k_if_f x_ret k_ret xs_nil xs_as xs_ex xs_rt xs_fo xs_wh x_if k_ifs_f k_ifs_t k_ifs_g k_seq_n k_seq_s k_for k_bd x_for k_it_lst k_it_tup k_it_rng k_it_loc lp_nil lp_cons k_lp_n k_lp_s x_whl a_name a_tup a_attr k_aa a_sub k_as3 k_as4 fin_n fin_s c_fn c_bi m_inst m_loc q_eq q_ne q_in_tup q_in_lst q_str q_int q_bool n_str2 n_str3 n_str4 n_str5 Option.bind_some Option.map_some Option.bind_none Option.map_none look_c put_c look_0 put_0 cond_true cond_false Bool.or_true Bool.or_false Bool.true_or Bool.false_or Nat.reduceBEq".splitOn " ").toArray.mapM fun n => `(Lean.Parser.Tactic.simpLemma| $(Lean.mkIdent n.toName):term)
    let zs:=ys++xs.getElems
    `(tactic| simp only [$[$zs],*])
namespace Internal
open PySem
noncomputable def F74:Fn:=⟨0x756e6465726c79696e675f6f66,[(0x776f726c64,1535423),(0x54,1537526)],[],
  [(.ret (.mcall (.loc 0x776f726c64 1623316) 0x626173655f6f66 [(.loc 0x54 1627526)] 1623324 1623327) 1621227)]⟩
noncomputable def F79:Fn:=⟨0x7a65726f5f76616c7565,[(0x776f726c64,1714520),(0x54,1716623)],[],
  [(.assign (.name 0x696e6e6572 1801209) (.call (.glob 0x756e6465726c79696e675f6f66 (.fn 74) 1803625) [(.loc 0x776f726c64 1807831),(.loc 0x54 1809934)] 1803635) 1801235),
   (.ifs (.cmp .Eq (.sub (.loc 0x696e6e6572 1892112) (.num 0 1893914) 1892115) (.st 0x626f6f6c 1895725) 1892125) [(.ret (.tru false 1984520) 1982420)] [] ⟨21,4,22,20⟩),
   (.ifs (.cmp .Eq (.sub (.loc 0x696e6e6572 2072112) (.num 0 2073914) 2072115) (.st 0x696e74 2075724) 2072124) [(.ret (.num 0 2164516) 2162416)] [] ⟨23,4,24,16⟩),
   (.ifs (.cmp .Eq (.sub (.loc 0x696e6e6572 2252112) (.num 0 2253914) 2252115) (.st 0x737472696e67 2255727) 2252127) [(.ret (.byt 2344518) 2342418)] [] ⟨25,4,26,18⟩),
   (.ifs (.cmp .Eq (.sub (.loc 0x696e6e6572 2432112) (.num 0 2433914) 2432115) (.st 0x6172726179 2435726) 2432126) [(.ret (.tup [(.st 0x6172726179 2524823),(.bin .Mult (.tup [(.call (.glob 0x7a65726f5f76616c7565 (.fn 79) 2527836) [(.loc 0x776f726c64 2531142),(.sub (.loc 0x696e6e6572 2533249) (.num 2 2535051) 2533252)] 2527853)] 0 2527555) (.sub (.loc 0x696e6e6572 2537463) (.num 1 2539265) 2537466) 2527566)] 0 2524567) 2522467)] [] ⟨27,4,28,67⟩),
   (.ifs (.cmp .Eq (.sub (.loc 0x696e6e6572 2612112) (.num 0 2613914) 2612115) (.st 0x737472756374 2615727) 2612127) [(.ret (.tup [(.st 0x737472756374 2704824),(.call (.glob 0x7475706c65 (.bi .tuple) 2707831) [(.comp (.call (.glob 0x7a65726f5f76616c7565 (.fn 79) 2709943) [(.loc 0x776f726c64 2713249),(.sub (.loc 0x726f77 2715354) (.num 1 2716556) 2715357)] 2709958) [(0x726f77,2718966)] none (.sub (.loc 0x696e6e6572 2721075) (.num 1 2722877) 2721078) ⟨.function,[(dec 0x2e30,.local),(dec 0x726f77,.local),(dec 0x7a65726f5f76616c7565,.globalImplicit),(dec 0x776f726c64,.free)],false,false,[]⟩ 2709679)] 2707880)] 0 2704581) 2702481)] [] ⟨29,4,30,81⟩),
   (.ret (.non 2793315) 2791215)]⟩
noncomputable def F89:Fn:=⟨0x726573756c745f7479706573,[(0x746f6c645f74797065,3245126)],[],
  [(.ret (.ite (.cmp .Eq (.sub (.loc 0x746f6c645f74797065 3339942) (.num 0 3342944) 3339945) (.st 0x7475706c65 3344756) 3339956) (.call (.glob 0x6c697374 (.bi .listF) 3333315) [(.sub (.loc 0x746f6c645f74797065 3334825) (.num 1 3337827) 3334828)] 3333329) (.lst true [(.loc 0x746f6c645f74797065 3348972)] 3348673) 3333373) 3331273)]⟩
noncomputable def F96:Fn:=⟨0x63616c6c65645f6f66,[(0x7374617465,3424219),(0x63616c6c6565,3426327)],[],
  [(.ifs (.cmp .Eq (.sub (.loc 0x63616c6c6565 3512113) (.num 0 3514215) 3512116) (.st 0x666e 3516024) 3512124) [(.ret (.loc 0x63616c6c6565 3604521) 3602421)] [] ⟨39,4,40,21⟩),
   (.assign (.name 0x6f706572616e64 3691211) (.mcall (.loc 0x7374617465 3694219) 0x76616c7565 [(.sub (.loc 0x63616c6c6565 3697832) (.num 1 3699934) 3697835)] 3694225 3694236) 3691236),
   (.ret (.ite (.cmp .Eq (.sub (.loc 0x63616c6c6565 3789939) (.num 0 3792041) 3789942) (.st 0x76616c7565 3793853) 3789953) (.tup [(.st 0x76616c7565 3783619),(.loc 0x6f706572616e64 3786328)] 0 3783329) (.tup [(.st 0x66616365 3798066),(.loc 0x6f706572616e64 3800475),(.sub (.loc 0x63616c6c6565 3803183) (.num 2 3805285) 3803186)] 0 3797787) 3783387) 3781287)]⟩
noncomputable def F101:Fn:=⟨0x63616c6c5f76616c756573,[(0x7374617465,3874821),(0x65,3876924)],[],
  [(.assign (.name 0x63616c6c6564 3961210) (.call (.glob 0x63616c6c65645f6f66 (.fn 96) 3963922) [(.loc 0x7374617465 3966928),(.sub (.loc 0x65 3969031) (.num 3 3969633) 3969034)] 3963935) 3961235),
   (.assign (.name 0x6f706572616e6473 4051212) (.call (.glob 0x7475706c65 (.bi .tuple) 4054520) [(.comp (.mcall (.loc 0x7374617465 4056627) 0x76616c7565 [(.loc 0x6f6e65 4060237)] 4056633 4056638) [(0x6f6e65,4062946)] none (.sub (.loc 0x65 4065051) (.num 4 4065653) 4065054) ⟨.function,[(dec 0x2e30,.local),(dec 0x6f6e65,.local),(dec 0x7374617465,.free)],false,false,[]⟩ 4056355)] 4054556) 4051256),
   (.assign (.name 0x726567697374657273 4141213) (.call (.glob 0x7475706c65 (.bi .tuple) 4144821) [(.comp (.mcall (.loc 0x7374617465 4146928) 0x6e65775f7265676973746572 [(.loc 0x746f6c64 4152646)] 4146941 4146947) [(0x746f6c64,4155656)] none (.call (.glob 0x726573756c745f7479706573 (.fn 89) 4158072) [(.sub (.loc 0x65 4161974) (.num 1 4162576) 4161977)] 4158078) ⟨.function,[(dec 0x2e30,.local),(dec 0x746f6c64,.local),(dec 0x7374617465,.free)],false,false,[]⟩ 4146679)] 4144880) 4141280),
   (.expr (.mcall (.loc 0x7374617465 4231209) 0x707574 [(.tup [(.st 0x63616c6c 4234521),(.loc 0x726567697374657273 4236932),(.loc 0x63616c6c6564 4240240),(.loc 0x6f706572616e6473 4242650)] 0 4234251)] 4231213 4231252) 4231252),
   (.ret (.comp (.tup [(.st 0x726567 4323918),(.loc 0x7265676973746572 4326028)] 0 4323629) [(0x7265676973746572,4330242)] none (.loc 0x726567697374657273 4333855) ⟨.function,[(dec 0x2e30,.local),(dec 0x7265676973746572,.local)],false,false,[]⟩ 4323356) 4321256)]⟩
noncomputable def F146:Fn:=⟨0x69735f696e5f6d656d6f7279,[(0x7374617465,9455122),(0x65,9457225)],[],
  [(.ifs (.cmp .Eq (.sub (.loc 0x65 9542108) (.num 0 9542710) 9542111) (.st 0x6c6f63616c 9544522) 9542122) [(.ret (.mcall (.loc 0x7374617465 9634520) 0x69735f626f786564 [(.sub (.loc 0x65 9639031) (.num 3 9639633) 9639034)] 9634529 9634535) 9632435)] [] ⟨106,4,107,35⟩),
   (.ifs (.cmp .Eq (.sub (.loc 0x65 9722108) (.num 0 9722710) 9722111) (.st 0x6669656c64 9724522) 9722122) [(.ret (.call (.glob 0x69735f696e5f6d656d6f7279 (.fn 146) 9814527) [(.loc 0x7374617465 9818433),(.sub (.loc 0x65 9820536) (.num 3 9821138) 9820539)] 9814540) 9812440)] [] ⟨108,4,109,40⟩),
   (.ifs (.cmp .Eq (.sub (.loc 0x65 9902108) (.num 0 9902710) 9902111) (.st 0x696e646578 9904522) 9902122) [(.assign (.name 0x6b696e64 9992412) (.call (.glob 0x626173655f6b696e64 (.fn 139) 9994524) [(.loc 0x7374617465 9997530),(.sub (.loc 0x65 9999633) (.num 3 10000235) 9999636)] 9994537) 9992437),
   (.ret (.bop .Or [(.cmp .Eq (.loc 0x6b696e64 10084519) (.st 0x736c696365 10086930) 10084530),(.bop .And [(.cmp .Eq (.loc 0x6b696e64 10090539) (.st 0x6172726179 10092950) 10090550),(.call (.glob 0x69735f696e5f6d656d6f7279 (.fn 146) 10096567) [(.loc 0x7374617465 10100473),(.sub (.loc 0x65 10102576) (.num 3 10103178) 10102579)] 10096580)] 10090580)] 10084581) 10082481)] [] ⟨110,4,112,81⟩),
   (.ret (.cmp .In (.sub (.loc 0x65 10173312) (.num 0 10173914) 10173315) (.tup [(.st 0x676c6f62616c 10176028),(.st 0x6465726566 10179037)] 0 10175738) 10173338) 10171238)]⟩
noncomputable def F153:Fn:=⟨0x676c6f62616c5f706f696e746572,[(0x65,10265720)],[],
  [(.ret (.tup [(.st 0x636f6e7374 10353619),(.tup [(.st 0x707472 10356627),(.sub (.loc 0x65 10358730) (.num 1 10359332) 10358733)] 0 10356334),(.tup [(.st 0x707472 10361142),(.sub (.loc 0x65 10363245) (.num 3 10363847) 10363248),(.tup [] 0 10365052)] 0 10360853)] 0 10353354) 10351254)]⟩
noncomputable def F160:Fn:=⟨0x7761795f746f,[(0x7374617465,10443316),(0x65,10445419)],[],
  [(.ifs (.cmp .Eq (.sub (.loc 0x65 10532108) (.num 0 10532710) 10532111) (.st 0x6c6f63616c 10534522) 10532122) [(.ret (.tup [(.mcall (.loc 0x7374617465 10624821) 0x706f696e7465725f6f66 [(.sub (.loc 0x65 10629934) (.num 3 10630536) 10629937)] 10624832 10624838),(.tup [] 0 10632042)] 0 10624543) 10622443)] [] ⟨117,4,118,43⟩),
   (.ifs (.cmp .Eq (.sub (.loc 0x65 10712108) (.num 0 10712710) 10712111) (.st 0x676c6f62616c 10714523) 10712123) [(.ret (.tup [(.call (.glob 0x676c6f62616c5f706f696e746572 (.fn 153) 10804830) [(.loc 0x65 10809332)] 10804833),(.tup [] 0 10810537)] 0 10804538) 10802438)] [] ⟨119,4,120,38⟩),
   (.ifs (.cmp .Eq (.sub (.loc 0x65 10892108) (.num 0 10892710) 10892111) (.st 0x6465726566 10894522) 10892122) [(.ret (.tup [(.mcall (.loc 0x7374617465 10984821) 0x6b657074 [(.mcall (.loc 0x7374617465 10988132) 0x76616c7565 [(.sub (.loc 0x65 10991740) (.num 3 10992342) 10991743)] 10988138 10988144),(.sub (.sub (.loc 0x65 10993847) (.num 3 10994449) 10993850) (.num 1 10995352) 10993853)] 10984826 10984854),(.tup [] 0 10996858)] 0 10984559) 10982459)] [] ⟨121,4,122,59⟩),
   (.ifs (.cmp .Eq (.sub (.loc 0x65 11072108) (.num 0 11072710) 11072111) (.st 0x6669656c64 11074522) 11072122) [(.assign (.tup [(0x626567696e,11162413),(0x7374657073,11164520)] 0 11162420) (.call (.glob 0x7761795f746f (.fn 160) 11166929) [(.loc 0x7374617465 11169035),(.sub (.loc 0x65 11171138) (.num 3 11171740) 11171141)] 11166942) 11162442),
   (.ret (.tup [(.loc 0x626567696e 11254821),(.bin .Add (.loc 0x7374657073 11256928) (.tup [(.tup [(.st 0x6669656c64 11259940),(.sub (.loc 0x65 11262643) (.num 4 11263245) 11262646),(.sub (.loc 0x65 11264449) (.num 1 11265051) 11264452)] 0 11259653)] 0 11259355) 11256955)] 0 11254556) 11252456)] [] ⟨123,4,125,56⟩),
   (.ifs (.cmp .Eq (.call (.glob 0x626173655f6b696e64 (.fn 139) 11342116) [(.loc 0x7374617465 11345122),(.sub (.loc 0x65 11347225) (.num 3 11347827) 11347228)] 11342129) (.st 0x736c696365 11349940) 11342140) [(.assign (.tup [(0x626567696e,11432413),(0x7374657073,11434520)] 0 11432420) (.tup [(.mcall (.loc 0x7374617465 11437229) 0x6b657074 [(.mcall (.loc 0x7374617465 11440540) 0x76616c7565 [(.sub (.loc 0x65 11444148) (.num 3 11444750) 11444151)] 11440546 11440552),(.sub (.sub (.loc 0x65 11446255) (.num 3 11446857) 11446258) (.num 1 11447760) 11446261)] 11437234 11437262),(.tup [] 0 11449266)] 0 11436967) 11432467)] [(.assign (.tup [(0x626567696e,11612413),(0x7374657073,11614520)] 0 11612420) (.call (.glob 0x7761795f746f (.fn 160) 11616929) [(.loc 0x7374617465 11619035),(.sub (.loc 0x65 11621138) (.num 3 11621740) 11621141)] 11616942) 11612442)] ⟨126,4,129,42⟩),
   (.ret (.tup [(.loc 0x626567696e 11703617),(.bin .Add (.loc 0x7374657073 11705724) (.tup [(.tup [(.st 0x656c656d 11708735),(.mcall (.loc 0x7374617465 11711142) 0x6b657074 [(.mcall (.loc 0x7374617465 11714453) 0x76616c7565 [(.sub (.loc 0x65 11718061) (.num 4 11718663) 11718064)] 11714459 11714465),(.sub (.sub (.loc 0x65 11720168) (.num 4 11720770) 11720171) (.num 1 11721673) 11720174)] 11711147 11711175),(.sub (.loc 0x65 11723178) (.num 1 11723780) 11723181)] 0 11708482)] 0 11708184) 11705784)] 0 11703385) 11701285)]⟩
noncomputable def F167:Fn:=⟨0x706f696e7465725f616c6f6e67,[(0x7374617465,11795423),(0x776179,11797528)],[],
  [(.assign (.tup [(0x706f696e746572,11881211),(0x7374657073,11883918)] 0 11881218) (.loc 0x776179 11886324) 11881224),
   (.for_ [(0x776f7264,11972412),(0x746f6c64,11974218),(0x72656163686564,11976027)] (some (0,11972427)) (.loc 0x7374657073 11979336) [(.assign (.name 0x706f696e746572 12062415) (.mcall (.loc 0x7374617465 12065423) 0x6672657368 [(.tup [(.st 0x707472 12069336),(.loc 0x72656163686564 12071445)] 0 12069046),(.tup [(.ite (.cmp .Eq (.loc 0x776f7264 12078967) (.st 0x6669656c64 12081378) 12078978) (.st 0x6669656c64707472 12074759) (.st 0x656c656d707472 12085293) 12074793),(.loc 0x706f696e746572 12088602),(.loc 0x746f6c64 12091308)] 0 12074509)] 12065429 12065510) 12062510)] ⟨133,4,134,110⟩),
   (.ret (.loc 0x706f696e746572 12153318) 12151218)]⟩
noncomputable def F174:Fn:=⟨0x616464726573735f6f66,[(0x7374617465,12244520),(0x65,12246623)],[],
  [(.ifs (.cmp .Eq (.sub (.loc 0x65 12332108) (.num 0 12332710) 12332111) (.st 0x6672657368 12334522) 12332122) [(.ret (.call (.glob 0x6e65775f7661726961626c65 (.fn 188) 12424527) [(.loc 0x7374617465 12428433),(.sub (.loc 0x65 12430536) (.num 3 12431138) 12430539)] 12424540) 12422440)] [] ⟨137,4,138,40⟩),
   (.assign (.name 0x776179 12511207) (.call (.glob 0x7761795f746f (.fn 160) 12513016) [(.loc 0x7374617465 12515122),(.loc 0x65 12517225)] 12513026) 12511226),
   (.ifs (.cmp .Eq (.sub (.loc 0x65 12602108) (.num 0 12602710) 12602111) (.st 0x6465726566 12604522) 12602122) [(.expr (.call (.glob 0x61736b5f706f696e746572 (.fn 181) 12692419) [(.loc 0x7374617465 12696025),(.sub (.loc 0x776179 12698130) (.num 0 12699332) 12698133),(.sub (.sub (.loc 0x65 12700536) (.num 3 12701138) 12700539) (.num 1 12702041) 12700542)] 12692443) 12692443)] [] ⟨140,4,141,43⟩),
   (.ret (.call (.glob 0x706f696e7465725f616c6f6e67 (.fn 167) 12783324) [(.loc 0x7374617465 12787530),(.loc 0x776179 12789635)] 12783336) 12781236)]⟩
noncomputable def F195:Fn:=⟨0x6c6f61645f706c616365,[(0x7374617465,13954520),(0x65,13956623)],[],
  [(.ifs (.cmp .Eq (.sub (.loc 0x65 14042108) (.num 0 14042710) 14042111) (.st 0x6c6f63616c 14044522) 14042122) [(.ret (.mcall (.loc 0x7374617465 14134520) 0x6c6f63616c5f76616c7565 [(.sub (.loc 0x65 14139934) (.num 3 14140536) 14139937)] 14134532 14134538) 14132438)] [] ⟨156,4,157,38⟩),
   (.ifs (.call (.glob 0x69735f696e5f6d656d6f7279 (.fn 146) 14222119) [(.loc 0x7374617465 14226025),(.loc 0x65 14228128)] 14222129) [(.ret (.mcall (.loc 0x7374617465 14314520) 0x6672657368 [(.sub (.loc 0x65 14318128) (.num 1 14318730) 14318131),(.tup [(.st 0x6c6f6164 14320240),(.call (.glob 0x706f696e7465725f616c6f6e67 (.fn 167) 14322655) [(.loc 0x7374617465 14326861),(.call (.glob 0x7761795f746f (.fn 160) 14328969) [(.loc 0x7374617465 14331075),(.loc 0x65 14333178)] 14328979)] 14322680)] 0 14319981)] 14314526 14314582) 14312482)] [] ⟨158,4,159,82⟩),
   (.ifs (.cmp .Eq (.sub (.loc 0x65 14402108) (.num 0 14402710) 14402111) (.st 0x6669656c64 14404522) 14402122) [(.ret (.mcall (.loc 0x7374617465 14494520) 0x6672657368 [(.sub (.loc 0x65 14498128) (.num 1 14498730) 14498131),(.tup [(.st 0x70617274 14500240),(.mcall (.loc 0x7374617465 14502647) 0x76616c7565 [(.sub (.loc 0x65 14506255) (.num 3 14506857) 14506258)] 14502653 14502659),(.sub (.loc 0x65 14508362) (.num 4 14508964) 14508365)] 0 14499966)] 14494526 14494567) 14492467)] [] ⟨160,4,161,67⟩),
   (.assign (.name 0x62617365 14581208) (.mcall (.loc 0x7374617465 14583316) 0x76616c7565 [(.sub (.loc 0x65 14586924) (.num 3 14587526) 14586927)] 14583322 14583328) 14581228),
   (.ret (.mcall (.loc 0x7374617465 14673316) 0x6672657368 [(.sub (.loc 0x65 14676924) (.num 1 14677526) 14676927),(.tup [(.st 0x656c656d 14679036),(.loc 0x62617365 14681442),(.mcall (.loc 0x7374617465 14683249) 0x76616c7565 [(.sub (.loc 0x65 14686857) (.num 4 14687459) 14686860)] 14683255 14683261)] 0 14678762)] 14673322 14673363) 14671263)]⟩
noncomputable def F206:Fn:=⟨0x76616c75655f6f66,[(0x7374617465,15213918),(0x65,15216021)],[],
  [(.assign (.name 0x6b696e64 15301208) (.sub (.loc 0x65 15303312) (.num 0 15303914) 15303315) 15301215),
   (.ifs (.cmp .In (.loc 0x6b696e64 15392111) (.tup [(.st 0x636f6e7374 15394823),(.st 0x6e696c 15397530),(.st 0x7a65726f 15399638),(.st 0x666e 15402044)] 0 15394545) 15392145) [(.ret (.call (.glob 0x636f6e7374616e745f6f66 (.fn 225) 15484526) [(.loc 0x7374617465 15488132),(.loc 0x65 15490235)] 15484536) 15482436)] [] ⟨171,4,172,36⟩),
   (.ifs (.cmp .Eq (.loc 0x6b696e64 15572111) (.st 0x6c6f63616c 15574522) 15572122) [(.ret (.mcall (.loc 0x7374617465 15664520) 0x6c6f63616c5f76616c7565 [(.sub (.loc 0x65 15669934) (.num 3 15670536) 15669937)] 15664532 15664538) 15662438)] [] ⟨173,4,174,38⟩),
   (.ifs (.cmp .In (.loc 0x6b696e64 15752111) (.glob 0x52454144 (.tup [.str 0x676c6f62616c,.str 0x6669656c64,.str 0x6465726566,.str 0x696e646578]) 15754519) 15752119) [(.ret (.call (.glob 0x6c6f61645f706c616365 (.fn 195) 15844525) [(.loc 0x7374617465 15847831),(.loc 0x65 15849934)] 15844535) 15842435)] [] ⟨175,4,176,35⟩),
   (.ifs (.cmp .In (.loc 0x6b696e64 15932111) (.tup [(.st 0x756e617279 15934823),(.st 0x62696e617279 15937533),(.st 0x6c617a79 15940541),(.st 0x636f6e76657274 15942952),(.st 0x66616365 15946260)] 0 15934561) 15932161) [(.ret (.call (.glob 0x776f726b65645f76616c7565 (.fn 237) 16024527) [(.loc 0x7374617465 16028433),(.loc 0x65 16030536)] 16024537) 16022437)] [] ⟨177,4,178,37⟩),
   (.ifs (.cmp .In (.loc 0x6b696e64 16112111) (.tup [(.st 0x61646472657373 16114825),(.st 0x6672657368 16118134)] 0 16114535) 16112135) [(.ret (.ite (.cmp .Eq (.loc 0x6b696e64 16211442) (.st 0x61646472657373 16213855) 16211455) (.mcall (.loc 0x7374617465 16204520) 0x61646472657373 [(.sub (.loc 0x65 16208730) (.num 3 16209332) 16208733)] 16204528 16204534) (.call (.glob 0x6e65775f7661726961626c65 (.fn 188) 16218373) [(.loc 0x7374617465 16222279),(.sub (.loc 0x65 16224382) (.num 3 16224984) 16224385)] 16218386) 16204586) 16202486)] [] ⟨179,4,180,86⟩),
   (.ifs (.cmp .In (.loc 0x6b696e64 16292111) (.tup [(.st 0x737472756374 16294824),(.st 0x726f77 16297831),(.st 0x7461626c65 16299940)] 0 16294541) 16292141) [(.ret (.call (.glob 0x6d6164655f76616c75655f6c6f7765725f6578707273 (.fn 263) 16384537) [(.loc 0x7374617465 16391443),(.loc 0x65 16393546)] 16384547) 16382447)] [] ⟨181,4,182,47⟩),
   (.ifs (.cmp .In (.loc 0x6b696e64 16472111) (.tup [(.st 0x6c69746572616c 16474825),(.st 0x6d6574686f64 16478135)] 0 16474536) 16472136) [(.ret (.call (.glob 0x66756e6374696f6e5f76616c7565 (.fn 230) 16564529) [(.loc 0x7374617465 16569035),(.loc 0x65 16571138)] 16564539) 16562439)] [] ⟨183,4,184,39⟩),
   (.ifs (.cmp .Eq (.loc 0x6b696e64 16652111) (.st 0x637574 16654520) 16652120) [(.ret (.call (.glob 0x6375745f76616c7565 (.fn 256) 16744524) [(.loc 0x7374617465 16747530),(.loc 0x65 16749633)] 16744534) 16742434)] [] ⟨185,4,186,34⟩),
   (.ifs (.cmp .In (.loc 0x6b696e64 16832111) (.glob 0x5041495253 (.tup [.str 0x617373657274,.str 0x6b6579,.str 0x72656365697665]) 16834520) 16832120) [(.ret (.sub (.call (.glob 0x61736b65645f76616c756573 (.fn 251) 16924527) [(.loc 0x7374617465 16928433),(.loc 0x65 16930536)] 16924537) (.num 0 16931439) 16924540) 16922440)] [] ⟨187,4,188,40⟩),
   (.ret (.sub (.call (.glob 0x76616c7565735f6f66 (.fn 213) 17013320) [(.loc 0x7374617465 17016326),(.loc 0x65 17018429)] 17013330) (.num 0 17019332) 17013333) 17011233)]⟩
noncomputable def F213:Fn:=⟨0x76616c7565735f6f66,[(0x7374617465,17104219),(0x65,17106322)],[],
  [(.ifs (.cmp .Eq (.sub (.loc 0x65 17192108) (.num 0 17192710) 17192111) (.st 0x63616c6c 17194521) 17192121) [(.ret (.call (.glob 0x63616c6c5f76616c756573 (.fn 101) 17284526) [(.loc 0x7374617465 17288132),(.loc 0x65 17290235)] 17284536) 17282436)] [] ⟨191,4,192,36⟩),
   (.ifs (.cmp .Eq (.sub (.loc 0x65 17372108) (.num 0 17372710) 17372111) (.st 0x6275696c74696e 17374524) 17372124) [(.ret (.call (.glob 0x6275696c74696e5f76616c756573 (.fn 106) 17464529) [(.loc 0x7374617465 17469035),(.loc 0x65 17471138)] 17464539) 17462439)] [] ⟨193,4,194,39⟩),
   (.ifs (.cmp .In (.sub (.loc 0x65 17552108) (.num 0 17552710) 17552111) (.glob 0x5041495253 (.tup [.str 0x617373657274,.str 0x6b6579,.str 0x72656365697665]) 17554520) 17552120) [(.ret (.call (.glob 0x61736b65645f76616c756573 (.fn 251) 17644527) [(.loc 0x7374617465 17648433),(.loc 0x65 17650536)] 17644537) 17642437)] [] ⟨195,4,196,37⟩),
   (.ifs (.cmp .Eq (.sub (.sub (.loc 0x65 17732108) (.num 1 17732710) 17732111) (.num 0 17733613) 17732114) (.st 0x7475706c65 17735425) 17732125) [(.rais (.call (.glob 0x4368616e4572726f72 (.cls 39) 17824223) [(.bin .Add (.st 0x6e6f2065787072657373696f6e206f66207365766572616c2076616c7565733a20 17827259) (.sub (.loc 0x65 17838663) (.num 0 17839265) 17838666) 17827266),(.sub (.loc 0x65 17840469) (.num 2 17841071) 17840472)] 17824273) 17822473)] [] ⟨197,4,198,73⟩),
   (.ret (.lst true [(.call (.glob 0x76616c75655f6f66 (.fn 206) 17913620) [(.loc 0x7374617465 17916326),(.loc 0x65 17918429)] 17913630)] 17913331) 17911231)]⟩
noncomputable def F218:Fn:=⟨0x6f706572616e64735f6f66,[(0x7374617465,18004821),(0x6573,18006925)],[],
  [(.ret (.comp (.mcall (.loc 0x7374617465 18093617) 0x76616c7565 [(.loc 0x65 18097225)] 18093623 18093626) [(0x65,18099332)] none (.loc 0x6573 18100838) ⟨.function,[(dec 0x2e30,.local),(dec 0x65,.local),(dec 0x7374617465,.free)],false,false,[]⟩ 18093339) 18091239)]⟩
noncomputable def F225:Fn:=⟨0x636f6e7374616e745f6f66,[(0x7374617465,18184821),(0x65,18186924)],[],
  [(.ifs (.cmp .Eq (.sub (.loc 0x65 18272108) (.num 0 18272710) 18272111) (.st 0x636f6e7374 18274522) 18272122) [(.ret (.tup [(.st 0x636f6e7374 18364823),(.sub (.loc 0x65 18367526) (.num 1 18368128) 18367529),(.sub (.loc 0x65 18369332) (.num 3 18369934) 18369335)] 0 18364536) 18362436)] [] ⟨203,4,204,36⟩),
   (.ifs (.cmp .Eq (.sub (.loc 0x65 18452108) (.num 0 18452710) 18452111) (.st 0x7a65726f 18454521) 18452121) [(.ret (.mcall (.loc 0x7374617465 18544520) 0x7a65726f5f6f706572616e64 [(.sub (.loc 0x65 18550235) (.num 1 18550837) 18550238)] 18544533 18544539) 18542439)] [] ⟨205,4,206,39⟩),
   (.ret (.tup [(.st 0x636f6e7374 18633619),(.sub (.loc 0x65 18636322) (.num 1 18636924) 18636325),(.ite (.cmp .Eq (.sub (.loc 0x65 18640536) (.num 0 18641138) 18640539) (.st 0x6e696c 18642948) 18640548) (.non 18638131) (.tup [(.st 0x66756e63 18646561),(.sub (.loc 0x65 18648964) (.num 3 18649566) 18648967),(.tup [] 0 18650771)] 0 18646272) 18638172)] 0 18633373) 18631273)]⟩
noncomputable def F237:Fn:=⟨0x776f726b65645f76616c7565,[(0x7374617465,19535122),(0x65,19537225)],[],
  [(.assign (.name 0x6b696e64 19621208) (.sub (.loc 0x65 19623312) (.num 0 19623914) 19623315) 19621215),
   (.ifs (.cmp .Eq (.loc 0x6b696e64 19712111) (.st 0x6c617a79 19714521) 19712121) [(.ret (.call (.glob 0x6c617a795f76616c7565 (.fn 244) 19804525) [(.loc 0x7374617465 19807831),(.loc 0x65 19809934)] 19804535) 19802435)] [] ⟨219,4,220,35⟩),
   (.ifs (.cmp .Eq (.loc 0x6b696e64 19892111) (.st 0x756e617279 19894522) 19892122) [(.ret (.mcall (.loc 0x7374617465 19984520) 0x6672657368 [(.sub (.loc 0x65 19988128) (.num 1 19988730) 19988131),(.tup [(.st 0x756e617279 19990241),(.sub (.loc 0x65 19992944) (.num 3 19993546) 19992947),(.mcall (.loc 0x7374617465 19994754) 0x76616c7565 [(.sub (.loc 0x65 19998362) (.num 4 19998964) 19998365)] 19994760 19994766),(.sub (.loc 0x65 20000469) (.num 1 20001071) 20000472)] 0 19989973)] 19984526 19984574) 19982474)] [] ⟨221,4,222,74⟩),
   (.ifs (.cmp .Eq (.loc 0x6b696e64 20072111) (.st 0x62696e617279 20074523) 20072123) [(.assign (.tup [(0x6f6e65,20162411),(0x6f74686572,20163918)] 0 20162418) (.call (.glob 0x6f706572616e64735f6f66 (.fn 218) 20166332) [(.loc 0x7374617465 20169938),(.tup [(.sub (.loc 0x65 20172342) (.num 4 20172944) 20172345),(.sub (.loc 0x65 20174148) (.num 5 20174750) 20174151)] 0 20172052)] 20166353) 20162453),
   (.ret (.mcall (.loc 0x7374617465 20254520) 0x6672657368 [(.sub (.loc 0x65 20258128) (.num 1 20258730) 20258131),(.tup [(.st 0x62696e617279 20260242),(.sub (.loc 0x65 20263245) (.num 3 20263847) 20263248),(.loc 0x6f6e65 20265053),(.loc 0x6f74686572 20266560),(.sub (.sub (.loc 0x65 20268663) (.num 4 20269265) 20268666) (.num 1 20270168) 20268669)] 0 20259970)] 20254526 20254571) 20252471)] [] ⟨223,4,225,71⟩),
   (.assign (.name 0x6f706572616e64 20341211) (.mcall (.loc 0x7374617465 20344219) 0x76616c7565 [(.sub (.loc 0x65 20347827) (.num 3 20348429) 20347830)] 20344225 20344231) 20341231),
   (.ifs (.cmp .Eq (.loc 0x6b696e64 20432111) (.st 0x636f6e76657274 20434524) 20432124) [(.ret (.mcall (.loc 0x7374617465 20524520) 0x6672657368 [(.sub (.loc 0x65 20528128) (.num 1 20528730) 20528131),(.tup [(.st 0x636f6e76657274 20530243),(.loc 0x6f706572616e64 20533552),(.sub (.sub (.loc 0x65 20536255) (.num 3 20536857) 20536258) (.num 1 20537760) 20536261),(.sub (.loc 0x65 20538964) (.num 1 20539566) 20538967)] 0 20529968)] 20524526 20524569) 20522469)] [] ⟨227,4,228,69⟩),
   (.ifs (.cmp .Eq (.sub (.call (.glob 0x756e6465726c79696e675f6f66 (.fn 74) 20612120) [(.attr (.loc 0x7374617465 20616326) 0x776f726c64 20616332),(.sub (.sub (.loc 0x65 20620235) (.num 3 20620837) 20620238) (.num 1 20621740) 20620241)] 20612142) (.num 0 20622944) 20612145) (.st 0x696e74657266616365 20624760) 20612160) [(.ret (.loc 0x6f706572616e64 20704522) 20702422)] [] ⟨229,4,230,22⟩),
   (.ret (.mcall (.loc 0x7374617465 20793316) 0x6672657368 [(.sub (.loc 0x65 20796924) (.num 1 20797526) 20796927),(.tup [(.st 0x66616365 20799036),(.loc 0x6f706572616e64 20801445),(.sub (.sub (.loc 0x65 20804148) (.num 3 20804750) 20804151) (.num 1 20805653) 20804154)] 0 20798755)] 20793322 20793356) 20791256)]⟩
noncomputable def F244:Fn:=⟨0x6c617a795f76616c7565,[(0x7374617465,20884520),(0x65,20886623)],[],
  [(.assign (.name 0x666f756e64 20971209) (.mcall (.loc 0x7374617465 20973617) 0x6e65775f7265676973746572 [(.sub (.loc 0x65 20979332) (.num 1 20979934) 20979335)] 20973630 20973636) 20971236),
   (.expr (.mcall (.loc 0x7374617465 21061209) 0x707574 [(.tup [(.st 0x6d6f7665 21064521),(.loc 0x666f756e64 21066928),(.mcall (.loc 0x7374617465 21069035) 0x76616c7565 [(.sub (.loc 0x65 21072643) (.num 4 21073245) 21072646)] 21069041 21069047)] 0 21064248)] 21061213 21061249) 21061249),
   (.assign (.tup [(0x61736b6564,21151209),(0x626568696e64,21153317)] 0 21151217) (.tup [(.mcall (.loc 0x7374617465 21156326) 0x6e65775f626c6f636b [] 21156336 21156338),(.mcall (.loc 0x7374617465 21162045) 0x6e65775f626c6f636b [] 21162055 21162057)] 0 21156058) 21151258),
   (.ifs (.cmp .Eq (.sub (.loc 0x65 21242108) (.num 3 21242710) 21242111) (.st 0x2626 21244519) 21242119) [(.expr (.mcall (.loc 0x7374617465 21332413) 0x636c6f7365 [(.tup [(.st 0x6272616e6368 21336329),(.tup [(.st 0x726567 21339637),(.loc 0x666f756e64 21341744)] 0 21339345),(.loc 0x61736b6564 21344152),(.loc 0x626568696e64 21346260)] 0 21336061)] 21332419 21332462) 21332462)] [(.expr (.mcall (.loc 0x7374617465 21512413) 0x636c6f7365 [(.tup [(.st 0x6272616e6368 21516329),(.tup [(.st 0x726567 21519637),(.loc 0x666f756e64 21521744)] 0 21519345),(.loc 0x626568696e64 21524153),(.loc 0x61736b6564 21526560)] 0 21516061)] 21512419 21512462) 21512462)] ⟨236,4,239,62⟩),
   (.assign (.attr (.loc 0x7374617465 21601209) 0x68657265 21601214) (.loc 0x61736b6564 21605122) 21601222),
   (.expr (.mcall (.loc 0x7374617465 21691209) 0x707574 [(.tup [(.st 0x6d6f7665 21694521),(.loc 0x666f756e64 21696928),(.mcall (.loc 0x7374617465 21699035) 0x76616c7565 [(.sub (.loc 0x65 21702643) (.num 5 21703245) 21702646)] 21699041 21699047)] 0 21694248)] 21691213 21691249) 21691249),
   (.expr (.mcall (.loc 0x7374617465 21781209) 0x676f [(.loc 0x626568696e64 21783919)] 21781212 21781220) 21781220),
   (.ret (.tup [(.st 0x726567 21873617),(.loc 0x666f756e64 21875724)] 0 21873325) 21871225)]⟩
noncomputable def F251:Fn:=⟨0x61736b65645f76616c756573,[(0x7374617465,21965122),(0x65,21967225)],[],
  [(.assign (.name 0x746f6c645f74797065 22051213) (.ite (.sub (.loc 0x65 22059031) (.neg (.num 1 22059934) 22059634) 22059035) (.sub (.sub (.sub (.loc 0x65 22054817) (.num 1 22055419) 22054820) (.num 1 22056322) 22054823) (.num 0 22057225) 22054826) (.sub (.loc 0x65 22062342) (.num 1 22062944) 22062345) 22054845) 22051245),
   (.ifs (.cmp .Eq (.sub (.loc 0x65 22142108) (.num 0 22142710) 22142111) (.st 0x6b6579 22144520) 22142120) [(.assign (.name 0x7061727473 22232413) (.bin .Add (.call (.glob 0x6f706572616e64735f6f66 (.fn 218) 22234827) [(.loc 0x7374617465 22238433),(.tup [(.sub (.loc 0x65 22240837) (.num 3 22241439) 22240840),(.sub (.loc 0x65 22242643) (.num 4 22243245) 22242646)] 0 22240547)] 22234848) (.lst true [(.loc 0x746f6c645f74797065 22245661)] 22245362) 22234862) 22232462),
   (.assign (.name 0x6f70 22322410) (.st 0x6d6170676574 22323921) 22322421)] [(.ifs (.cmp .Eq (.sub (.loc 0x65 22412710) (.num 0 22413312) 22412713) (.st 0x617373657274 22415125) 22412725) [(.assign (.name 0x7061727473 22502413) (.lst true [(.mcall (.loc 0x7374617465 22505122) 0x76616c7565 [(.sub (.loc 0x65 22508730) (.num 3 22509332) 22508733)] 22505128 22505134),(.sub (.loc 0x65 22510837) (.num 4 22511439) 22510840),(.sub (.sub (.loc 0x65 22512643) (.num 3 22513245) 22512646) (.num 1 22514148) 22512649)] 22504850) 22502450),
   (.assign (.name 0x6f70 22592410) (.st 0x617373657274 22593921) 22592421)] [(.assign (.name 0x7061727473 22772413) (.lst true [(.mcall (.loc 0x7374617465 22775122) 0x76616c7565 [(.sub (.loc 0x65 22778730) (.num 3 22779332) 22778733)] 22775128 22775134),(.loc 0x746f6c645f74797065 22780845)] 22774846) 22772446),
   (.assign (.name 0x6f70 22862410) (.st 0x72656376 22863919) 22862419)] ⟨249,4,254,19⟩)] ⟨246,4,254,19⟩),
   (.assign (.name 0x666f756e64 22951209) (.mcall (.loc 0x7374617465 22953617) 0x6e65775f7265676973746572 [(.loc 0x746f6c645f74797065 22959340)] 22953630 22953641) 22951241),
   (.assign (.name 0x7472757468 23041209) (.ite (.sub (.loc 0x65 23055653) (.neg (.num 1 23056556) 23056256) 23055657) (.mcall (.loc 0x7374617465 23043617) 0x6e65775f7265676973746572 [(.glob 0x424f4f4c5f6c6f7765725f6578707273 (.tup [.str 0x626f6f6c]) 23049347)] 23043630 23043648) (.non 23058967) 23043667) 23041267),
   (.expr (.mcall (.loc 0x7374617465 23131209) 0x707574 [(.bin .Add (.tup [(.loc 0x6f70 23134517),(.loc 0x666f756e64 23135724),(.loc 0x7472757468 23137831)] 0 23134232) (.call (.glob 0x7475706c65 (.bi .tuple) 23140540) [(.loc 0x7061727473 23142346)] 23140547) 23134247)] 23131213 23131248) 23131248),
   (.ret (.bin .Add (.lst true [(.tup [(.st 0x726567 23223918),(.loc 0x666f756e64 23226025)] 0 23223626)] 23223327) (.ite (.sub (.loc 0x65 23235352) (.neg (.num 1 23236255) 23235955) 23235356) (.lst true [(.tup [(.st 0x726567 23229938),(.loc 0x7472757468 23232045)] 0 23229646)] 23229347) (.lst true [] 23238664) 23229364) 23223365) 23221265)]⟩
noncomputable def F256:Fn:=⟨0x6375745f76616c7565,[(0x7374617465,23314219),(0x65,23316322)],[],
  [(.assign (.name 0x77686f6c655f74797065 23401214) (.call (.glob 0x756e6465726c79696e675f6f66 (.fn 74) 23405130) [(.attr (.loc 0x7374617465 23409336) 0x776f726c64 23409342),(.sub (.sub (.loc 0x65 23413245) (.num 3 23413847) 23413248) (.num 1 23414750) 23413251)] 23405152) 23401252),
   (.assign (.name 0x77686f6c65 23491209) (.ite (.cmp .Eq (.sub (.loc 0x77686f6c655f74797065 23500545) (.num 0 23503847) 23500548) (.st 0x6172726179 23505659) 23500559) (.mcall (.loc 0x7374617465 23493617) 0x61646472657373 [(.sub (.loc 0x65 23497827) (.num 3 23498429) 23497830)] 23493625 23493631) (.mcall (.loc 0x7374617465 23509570) 0x76616c7565 [(.sub (.loc 0x65 23513178) (.num 3 23513780) 23513181)] 23509576 23509582) 23493682) 23491282),
   (.assign (.name 0x626f756e6473 23581210) (.comp (.ite (.cmp .Is (.loc 0x6f6e65 23586625) (.non 23588733) 23586633) (.non 23584218) (.mcall (.loc 0x7374617465 23591744) 0x76616c7565 [(.loc 0x6f6e65 23595354)] 23591750 23591755) 23584255) [(0x6f6e65,23598063)] none (.tup [(.sub (.loc 0x65 23600469) (.num 4 23601071) 23600472),(.sub (.loc 0x65 23602275) (.num 5 23602877) 23602278),(.sub (.loc 0x65 23604081) (.num 6 23604683) 23604084)] 0 23600185) ⟨.function,[(dec 0x2e30,.local),(dec 0x6f6e65,.local),(dec 0x7374617465,.free)],false,false,[]⟩ 23583986) 23581286),
   (.ret (.mcall (.loc 0x7374617465 23673316) 0x6672657368 [(.sub (.loc 0x65 23676924) (.num 1 23677526) 23676927),(.tup [(.st 0x637574 23679035),(.loc 0x77686f6c65 23681142),(.sub (.loc 0x626f756e6473 23683250) (.num 0 23685352) 23683253),(.sub (.loc 0x626f756e6473 23686561) (.num 1 23688663) 23686564),(.sub (.loc 0x626f756e6473 23689872) (.num 2 23691974) 23689875),(.sub (.sub (.loc 0x65 23693178) (.num 3 23693780) 23693181) (.num 1 23694683) 23693184)] 0 23678785)] 23673322 23673386) 23671286)]⟩
noncomputable def F263:Fn:=⟨0x6d6164655f76616c7565,[(0x7374617465,23764520),(0x65,23766623)],[],
  [(.ifs (.cmp .Eq (.sub (.loc 0x65 23852108) (.num 0 23852710) 23852111) (.st 0x737472756374 23854523) 23852123) [(.ret (.mcall (.loc 0x7374617465 23944520) 0x6672657368 [(.sub (.loc 0x65 23948128) (.num 1 23948730) 23948131),(.tup [(.st 0x737472756374 23950242),(.call (.glob 0x7475706c65 (.bi .tuple) 23953249) [(.call (.glob 0x6f706572616e64735f6f66 (.fn 218) 23955061) [(.loc 0x7374617465 23958667),(.sub (.loc 0x65 23960770) (.num 3 23961372) 23960773)] 23955074)] 23953275)] 0 23949976)] 23944526 23944577) 23942477)] [] ⟨265,4,266,77⟩),
   (.ifs (.cmp .Eq (.sub (.loc 0x65 24032108) (.num 0 24032710) 24032111) (.st 0x7461626c65 24034522) 24032122) [(.ret (.call (.glob 0x7461626c655f76616c7565 (.fn 273) 24124526) [(.loc 0x7374617465 24128132),(.loc 0x65 24130235)] 24124536) 24122436)] [] ⟨267,4,268,36⟩),
   (.assign (.name 0x726f775f74797065 24211212) (.call (.glob 0x756e6465726c79696e675f6f66 (.fn 74) 24214528) [(.attr (.loc 0x7374617465 24218734) 0x776f726c64 24218740),(.sub (.loc 0x65 24222643) (.num 1 24223245) 24222646)] 24214547) 24211247),
   (.ifs (.cmp .Eq (.sub (.loc 0x726f775f74797065 24302115) (.num 0 24304817) 24302118) (.st 0x736c696365 24306629) 24302129) [(.ret (.call (.glob 0x736c6963655f76616c7565 (.fn 268) 24394526) [(.loc 0x7374617465 24398132),(.loc 0x65 24400235),(.sub (.loc 0x726f775f74797065 24401145) (.num 1 24403847) 24401148)] 24394549) 24392449)] [] ⟨270,4,271,49⟩),
   (.assign (.name 0x63656c6c73 24481209) (.bin .Mult (.lst true [(.mcall (.loc 0x7374617465 24483918) 0x7a65726f5f6f706572616e64 [(.sub (.loc 0x726f775f74797065 24489640) (.num 2 24492342) 24489643)] 24483931 24483944)] 24483645) (.sub (.loc 0x65 24494449) (.num 3 24495051) 24494452) 24483652) 24481252),
   (.for_ [(0x706c616365,24572413),(0x6f6e65,24574518)] (some (0,24572418)) (.sub (.loc 0x65 24576623) (.num 4 24577225) 24576626) [(.assign (.sub (.loc 0x63656c6c73 24662413) (.loc 0x706c616365 24664219) 24662420) (.mcall (.loc 0x7374617465 24666928) 0x76616c7565 [(.loc 0x6f6e65 24670538)] 24666934 24666939) 24662439)] ⟨273,4,274,39⟩),
   (.ret (.mcall (.loc 0x7374617465 24753316) 0x6672657368 [(.sub (.loc 0x65 24756924) (.num 1 24757526) 24756927),(.tup [(.st 0x6172726179 24759037),(.call (.glob 0x7475706c65 (.bi .tuple) 24761744) [(.loc 0x63656c6c73 24763550)] 24761751)] 0 24758752)] 24753322 24753353) 24751253)]⟩
noncomputable def F268:Fn:=⟨0x736c6963655f76616c7565,[(0x7374617465,24934821),(0x65,24936924),(0x63656c6c5f74797065,24937835)],[],
  [(.assign (.name 0x726f7773 25021208) (.comp (.tup [(.loc 0x706c616365 25023918),(.mcall (.loc 0x7374617465 25026025) 0x76616c7565 [(.loc 0x6f6e65 25029635)] 25026031 25026036)] 0 25023637) [(0x706c616365,25032647),(0x6f6e65,25034752)] (some (0,25032652)) (.sub (.loc 0x65 25036857) (.num 4 25037459) 25036860) ⟨.function,[(dec 0x2e30,.local),(dec 0x706c616365,.local),(dec 0x6f6e65,.local),(dec 0x7374617465,.free)],false,false,[]⟩ 25023361) 25021261),
   (.assign (.name 0x6d616e79 25111208) (.tup [(.st 0x636f6e7374 25113619),(.glob 0x494e545f6c6f7765725f6578707273 (.tup [.str 0x696e74,.str 0x696e74]) 25116336),(.sub (.loc 0x65 25121439) (.num 3 25122041) 25121442)] 0 25113343) 25111243),
   (.assign (.name 0x666f756e64 25201209) (.mcall (.loc 0x7374617465 25203617) 0x6672657368 [(.sub (.loc 0x65 25207225) (.num 1 25207827) 25207228),(.tup [(.st 0x6d616b65736c696365 25209342),(.sub (.loc 0x65 25213245) (.num 1 25213847) 25213248),(.loc 0x6d616e79 25215054),(.loc 0x6d616e79 25216860),(.mcall (.loc 0x7374617465 25218667) 0x6e6578745f73697465 [] 25218677 25218679)] 0 25209080)] 25203623 25203681) 25201281),
   (.for_ [(0x706c616365,25292413),(0x6f706572616e64,25294522)] (some (0,25292422)) (.loc 0x726f7773 25297830) [(.assign (.name 0x73706f74 25382412) (.mcall (.loc 0x7374617465 25384520) 0x6672657368 [(.tup [(.st 0x707472 25388433),(.loc 0x63656c6c5f74797065 25390544)] 0 25388145),(.tup [(.st 0x656c656d707472 25394457),(.loc 0x666f756e64 25397764),(.tup [(.st 0x636f6e7374 25400174),(.glob 0x494e545f6c6f7765725f6578707273 (.tup [.str 0x696e74,.str 0x696e74]) 25402891),(.loc 0x706c616365 25407998)] 0 25399899)] 0 25394200)] 25384526 25384601) 25382501),
   (.expr (.mcall (.loc 0x7374617465 25472413) 0x707574 [(.tup [(.st 0x73746f7265 25475726),(.loc 0x73706f74 25478432),(.loc 0x6f706572616e64 25480241)] 0 25475442)] 25472417 25472443) 25472443)] ⟨281,4,283,43⟩),
   (.ret (.loc 0x666f756e64 25563316) 25561216)]⟩
noncomputable def F287:Fn:=⟨0x5f5f696e69745f5f,[(0x73656c66,26465121),(0x6b6579,26466926),(0x726f7773,26468432),(0x706172616d73,26470240),(0x726573756c7473,26472649),(0x6361707475726564,26475359),(0x626f6479,26478365),(0x6c69746572616c73,26480175)],[],
  [(.assign (.attr (.loc 0x73656c66 26552412) 0x6b6579 26552416) (.loc 0x6b6579 26555722) 26552422),
   (.assign (.attr (.loc 0x73656c66 26642412) 0x6c6f63616c73 26642419) (.loc 0x726f7773 26646626) 26642426),
   (.assign (.attr (.loc 0x73656c66 26732412) 0x706172616d73 26732419) (.loc 0x706172616d73 26736628) 26732428),
   (.assign (.attr (.loc 0x73656c66 26822412) 0x726573756c7473 26822420) (.loc 0x726573756c7473 26826930) 26822430),
   (.assign (.attr (.loc 0x73656c66 26912412) 0x6361707475726564 26912421) (.loc 0x6361707475726564 26917232) 26912432),
   (.assign (.attr (.loc 0x73656c66 27002412) 0x626f6479 27002417) (.loc 0x626f6479 27006024) 27002424),
   (.assign (.attr (.loc 0x73656c66 27092412) 0x6c69746572616c73 27092421) (.loc 0x6c69746572616c73 27097232) 27092432)]⟩
noncomputable def F309:Fn:=⟨0x5f5f696e69745f5f,[(0x73656c66,27455121),(0x6b6579,27456926),(0x706172616d73,27458434),(0x726567697374657273,27460845),(0x626c6f636b73,27464153),(0x6361707475726564,27466563),(0x726573756c7473,27470174),(0x7265636f76657279,27473486)],[.int 0,.int 0,.none],
  [(.assign (.attr (.loc 0x73656c66 27542412) 0x6b6579 27542416) (.loc 0x6b6579 27545722) 27542422),
   (.assign (.attr (.loc 0x73656c66 27632412) 0x706172616d73 27632419) (.loc 0x706172616d73 27636628) 27632428),
   (.assign (.attr (.loc 0x73656c66 27722412) 0x726567697374657273 27722422) (.call (.glob 0x6c697374 (.bi .listM) 27727529) [(.loc 0x726567697374657273 27729039)] 27727540) 27722440),
   (.assign (.attr (.loc 0x73656c66 27812412) 0x626c6f636b73 27812419) (.loc 0x626c6f636b73 27816628) 27812428),
   (.assign (.attr (.loc 0x73656c66 27902412) 0x6361707475726564 27902421) (.loc 0x6361707475726564 27907232) 27902432),
   (.assign (.attr (.loc 0x73656c66 27992412) 0x726573756c7473 27992420) (.loc 0x726573756c7473 27996930) 27992430),
   (.assign (.attr (.loc 0x73656c66 28082412) 0x7265636f76657279 28082421) (.loc 0x7265636f76657279 28087232) 28082432)]⟩
noncomputable def F316:Fn:=⟨0x696e737472756374696f6e73,[(0x73656c66,28266325),(0x626c6f636b,28268132)],[],
  [(.ret (.sub (.sub (.attr (.loc 0x73656c66 28354519) 0x626c6f636b73 28354526) (.loc 0x626c6f636b 28358132) 28354533) (.num 0 28360235) 28354536) 28352436)]⟩
noncomputable def F323:Fn:=⟨0x7465726d696e61746f72,[(0x73656c66,28535723),(0x626c6f636b,28537530)],[],
  [(.ret (.sub (.sub (.attr (.loc 0x73656c66 28624519) 0x626c6f636b73 28624526) (.loc 0x626c6f636b 28628132) 28624533) (.num 1 28630235) 28624536) 28622436)]⟩
noncomputable def F342:Fn:=⟨0x6e6578745f626c6f636b73,[(0x7465726d696e61746f72,29074826)],[],
  [(.ifs (.cmp .Eq (.sub (.loc 0x7465726d696e61746f72 29162117) (.num 0 29165419) 29162120) (.st 0x6a756d70 29167230) 29162130) [(.ret (.lst true [(.sub (.loc 0x7465726d696e61746f72 29254826) (.num 1 29258128) 29254829)] 29254530) 29252430)] [] ⟨324,4,325,30⟩),
   (.ifs (.cmp .Eq (.sub (.loc 0x7465726d696e61746f72 29342117) (.num 0 29345419) 29342120) (.st 0x6272616e6368 29347232) 29342132) [(.ret (.ite (.cmp .Eq (.sub (.loc 0x7465726d696e61746f72 29440244) (.num 2 29443546) 29440247) (.sub (.loc 0x7465726d696e61746f72 29445361) (.num 3 29448663) 29445364) 29440264) (.lst true [(.sub (.loc 0x7465726d696e61746f72 29434826) (.num 2 29438128) 29434829)] 29434530) (.lst true [(.sub (.loc 0x7465726d696e61746f72 29451381) (.num 2 29454683) 29451384),(.sub (.loc 0x7465726d696e61746f72 29455896) (.num 3 29459198) 29455899)] 29451100) 29434600) 29432500)] [] ⟨326,4,327,100⟩),
   (.ret (.lst true [] 29523313) 29521213)]⟩
noncomputable def F349:Fn:=⟨0x626c6f636b735f72656163686564,[(0x636f6465,29615723)],[],
  [(.assign (.tup [(0x666f756e64,29701209),(0x77616974696e67,29703318),(0x6d6574,29706023)] 0 29701223) (.tup [(.lst false [] 29708129),(.ite (.cmp .Is (.attr (.loc 0x636f6465 29711442) 0x7265636f76657279 29711451) (.non 29716559) 29711459) (.lst false [(.num 0 29709633)] 29709334) (.lst true [(.attr (.loc 0x636f6465 29719870) 0x7265636f76657279 29719879),(.num 0 29724382)] 29719583) 29709383),(.dct false [] [] 29725587)] 0 29707888) 29701288),
   (.whl (.cmp .NotEq (.loc 0x77616974696e67 29793017) (.lst true [] 29796323) 29793023) [(.assign (.name 0x626c6f636b 29882413) (.mcall (.loc 0x77616974696e67 29884823) 0x706f70 [] 29884827 29884829) 29882429),
   (.ifs (.cmp .NotIn (.loc 0x626c6f636b 29973316) (.loc 0x6d6574 29977227) 29973327) [(.assign (.sub (.loc 0x6d6574 30063615) (.loc 0x626c6f636b 30064821) 30063622) (.tru true 30067529) 30063629),
   (.expr (.mcall (.loc 0x666f756e64 30153617) 0x617070656e64 [(.loc 0x626c6f636b 30157530)] 30153624 30153631) 30153631),
   (.expr (.mcall (.loc 0x77616974696e67 30243619) 0x657874656e64 [(.rev (.call (.glob 0x6e6578745f626c6f636b73 (.fn 342) 30248138) [(.mcall (.loc 0x636f6465 30251743) 0x7465726d696e61746f72 [(.loc 0x626c6f636b 30256560)] 30251754 30251761)] 30248162) 30259867 30259567 30258967 30248168)] 30243626 30243669) 30243669)] [] ⟨333,8,336,69⟩)] ⟨331,4,336,69⟩),
   (.ret (.loc 0x666f756e64 30333316) 30331216)]⟩
noncomputable def F356:Fn:=⟨0x6c65645f656c73657768657265,[(0x7465726d696e61746f72,30425428),(0x7475726e6564,30429036)],[],
  [(.ifs (.cmp .Eq (.sub (.loc 0x7465726d696e61746f72 30512117) (.num 0 30515419) 30512120) (.st 0x6a756d70 30517230) 30512130) [(.ret (.tup [(.st 0x6a756d70 30604822),(.call (.loc 0x7475726e6564 30607230) [(.sub (.loc 0x7465726d696e61746f72 30609341) (.num 1 30612643) 30609344)] 30607245)] 0 30604546) 30602446)] [] ⟨339,4,340,46⟩),
   (.ifs (.cmp .Eq (.sub (.loc 0x7465726d696e61746f72 30692117) (.num 0 30695419) 30692120) (.st 0x6272616e6368 30697232) 30692132) [(.ret (.tup [(.st 0x6272616e6368 30784824),(.sub (.loc 0x7465726d696e61746f72 30787836) (.num 1 30791138) 30787839),(.call (.loc 0x7475726e6564 30792347) [(.sub (.loc 0x7465726d696e61746f72 30794458) (.num 2 30797760) 30794461)] 30792362),(.call (.loc 0x7475726e6564 30799270) [(.sub (.loc 0x7465726d696e61746f72 30801381) (.num 3 30804683) 30801384)] 30799285)] 0 30784586) 30782486)] [] ⟨341,4,342,86⟩),
   (.ret (.loc 0x7465726d696e61746f72 30873321) 30871221)]⟩
noncomputable def F363:Fn:=⟨0x776974685f6b6570745f626c6f636b73,[(0x636f6465,30966325),(0x6b657074,30968131)],[],
  [(.assign (.cel 0x706c61636573 31051210) (.dct false [] [] 31053915) 31051215),
   (.for_ [(0x626c6f636b,31142413)] none (.loc 0x6b657074 31145121) [(.assign (.sub (.loc 0x706c61636573 31232414) (.loc 0x626c6f636b 31234520) 31232421) (.call (.glob 0x6c656e (.bi .len) 31237227) [(.loc 0x706c61636573 31238434)] 31237235) 31232435)] ⟨346,4,347,35⟩),
   (.assign (.name 0x626c6f636b73 31321210) (.lst false [] 31323915) 31321215),
   (.for_ [(0x626c6f636b,31412413)] none (.loc 0x6b657074 31415121) [(.assign (.tup [(0x736f6d65,31502412),(0x656e64,31504217)] 0 31502417) (.sub (.attr (.loc 0x636f6465 31506024) 0x626c6f636b73 31506031) (.loc 0x626c6f636b 31509637) 31506038) 31502438),
   (.expr (.mcall (.loc 0x626c6f636b73 31592414) 0x617070656e64 [(.lst true [(.call (.glob 0x6c697374 (.bi .listF) 31596927) [(.loc 0x736f6d65 31598432)] 31596933),(.call (.glob 0x6c65645f656c73657768657265 (.fn 356) 31600548) [(.loc 0x656e64 31604752),(.lam 0x676f616c 31608365 0x706c61636573 31610173 31612278 31610179 ⟨.function,[(dec 0x676f616c,.local),(dec 0x706c61636573,.free)],false,false,[]⟩ 31606279)] 31600580)] 31596681)] 31592421 31592482) 31592482)] ⟨349,4,351,82⟩),
   (.assign (.name 0x7265636f76657279 31681212) (.ite (.cmp .Is (.attr (.loc 0x636f6465 31686927) 0x7265636f76657279 31686936) (.non 31692044) 31686944) (.non 31684519) (.sub (.loc 0x706c61636573 31695056) (.attr (.loc 0x636f6465 31697161) 0x7265636f76657279 31697170) 31695071) 31684571) 31681271),
   (.ret (.call (.glob 0x436f6465 (.cls 331) 31773315) [(.attr (.loc 0x636f6465 31774820) 0x6b6579 31774824),(.attr (.loc 0x636f6465 31777830) 0x706172616d73 31777837),(.attr (.loc 0x636f6465 31781743) 0x726567697374657273 31781753),(.loc 0x626c6f636b73 31786561),(.attr (.loc 0x636f6465 31788967) 0x6361707475726564 31788976),(.attr (.loc 0x636f6465 31793482) 0x726573756c7473 31793490),(.loc 0x7265636f76657279 31797700)] 31773401) 31771301)]⟩
noncomputable def F377:Fn:=⟨0x5f5f696e69745f5f,[(0x73656c66,32135121),(0x776f726c64,32136928),(0x74797065645f666e,32139038),(0x626f786564,32142045),(0x6b6e6f776e,32144152)],[],
  [(.assign (.attr (.loc 0x73656c66 32222412) 0x776f726c64 32222418) (.loc 0x776f726c64 32226326) 32222426),
   (.assign (.attr (.loc 0x73656c66 32312412) 0x74797065645f666e 32312421) (.loc 0x74797065645f666e 32317232) 32312432),
   (.assign (.attr (.loc 0x73656c66 32402412) 0x626f786564 32402418) (.call (.glob 0x66726f7a656e736574 (.bi .fset) 32406330) [(.loc 0x626f786564 32409336)] 32406337) 32402437),
   (.assign (.attr (.loc 0x73656c66 32492412) 0x6b6e6f776e 32492418) (.loc 0x6b6e6f776e 32496326) 32492426),
   (.assign (.attr (.loc 0x73656c66 32582412) 0x68656c64 32582417) (.dct false [] [] 32586022) 32582422),
   (.assign (.attr (.loc 0x73656c66 32672412) 0x7369746573 32672418) (.num 0 32676322) 32672422),
   (.assign (.attr (.loc 0x73656c66 32762412) 0x6c6f6f7073 32762418) (.dct true [] [] 32766323) 32762423),
   (.assign (.attr (.loc 0x73656c66 32852412) 0x6861735f646566657273 32852423) (.tru false 32857831) 32852431),
   (.assign (.attr (.loc 0x73656c66 32942412) 0x73706f74 32942417) (.num 0 32946021) 32942421),
   (.assign (.attr (.loc 0x73656c66 33032412) 0x636f6465 33032417) (.call (.glob 0x436f6465 (.cls 331) 33036024) [(.attr (.loc 0x74797065645f666e 33037533) 0x6b6579 33037537),(.call (.glob 0x6c656e (.bi .len) 33041742) [(.attr (.loc 0x74797065645f666e 33042951) 0x706172616d73 33042958)] 33041759),(.lst true [] 33048363),(.lst false [] 33049567),(.call (.glob 0x6c656e (.bi .len) 33050772) [(.attr (.loc 0x74797065645f666e 33051981) 0x6361707475726564 33051990)] 33050791),(.call (.glob 0x6c656e (.bi .len) 33057996) [(.attr (.loc 0x74797065645f666e 33059205) 0x726573756c7473 33059213)] 33058014)] 33036115) 33032515),
   (.assign (.attr (.loc 0x73656c66 33122412) 0x68657265 33122417) (.mcall (.loc 0x73656c66 33126024) 0x6e65775f626c6f636b [] 33126034 33126036) 33122436)]⟩
noncomputable def F384:Fn:=⟨0x6e65775f7265676973746572,[(0x73656c66,33306325),(0x746f6c645f74797065,33308136)],[],
  [(.expr (.mcall (.attr (.attr (.loc 0x73656c66 33392412) 0x636f6465 33392417) 0x726567697374657273 33392427) 0x617070656e64 [(.loc 0x746f6c645f74797065 33400544)] 33392434 33392445) 33392445),
   (.ret (.bin .Sub (.call (.glob 0x6c656e (.bi .len) 33484518) [(.attr (.attr (.loc 0x73656c66 33485723) 0x636f6465 33485728) 0x726567697374657273 33485738)] 33484539) (.num 1 33492643) 33484543) 33482443)]⟩
noncomputable def F391:Fn:=⟨0x6e65775f626c6f636b,[(0x73656c66,33665422)],[],
  [(.expr (.mcall (.attr (.attr (.loc 0x73656c66 33752412) 0x636f6465 33752417) 0x626c6f636b73 33752424) 0x617070656e64 [(.lst false [(.lst false [] 33759935),(.non 33761141)] 33759642)] 33752431 33752443) 33752443),
   (.ret (.bin .Sub (.call (.glob 0x6c656e (.bi .len) 33844518) [(.attr (.attr (.loc 0x73656c66 33845723) 0x636f6465 33845728) 0x626c6f636b73 33845735)] 33844536) (.num 1 33851740) 33844540) 33842440)]⟩
noncomputable def F398:Fn:=⟨0x707574,[(0x73656c66,34023616),(0x696e737472756374696f6e,34025429)],[],
  [(.expr (.mcall (.mcall (.attr (.loc 0x73656c66 34112412) 0x636f6465 34112417) 0x696e737472756374696f6e73 [(.attr (.loc 0x73656c66 34119335) 0x68657265 34119340)] 34112430 34112441) 0x617070656e64 [(.loc 0x696e737472756374696f6e 34124760)] 34112448 34112461) 34112461)]⟩
noncomputable def F405:Fn:=⟨0x6672657368,[(0x73656c66,34294218),(0x746f6c645f74797065,34296029),(0x726f77,34299334)],[],
  [(.assign (.name 0x7265676973746572 34382416) (.mcall (.loc 0x73656c66 34385723) 0x6e65775f7265676973746572 [(.loc 0x746f6c645f74797065 34391146)] 34385736 34385747) 34382447),
   (.expr (.mcall (.loc 0x73656c66 34472412) 0x707574 [(.bin .Add (.bin .Add (.slc (.loc 0x726f77 34475120) none (some (1,34476623)) 34476323 34475124) (.tup [(.loc 0x7265676973746572 34478436)] 0 34478138) 34475138) (.slc (.loc 0x726f77 34482344) (some (1,34483546)) none 34483547 34482348) 34475148)] 34472416 34472449) 34472449),
   (.ret (.tup [(.st 0x726567 34564821),(.loc 0x7265676973746572 34566931)] 0 34564532) 34562432)]⟩
noncomputable def F412:Fn:=⟨0x636c6f7365,[(0x73656c66,34744218),(0x7465726d696e61746f72,34746030)],[],
  [(.assign (.sub (.sub (.attr (.attr (.loc 0x73656c66 34832412) 0x636f6465 34832417) 0x626c6f636b73 34832424) (.attr (.loc 0x73656c66 34837529) 0x68657265 34837534) 34832435) (.num 1 34840837) 34832438) (.loc 0x7465726d696e61746f72 34842351) 34832451)]⟩
noncomputable def F426:Fn:=⟨0x676f,[(0x73656c66,35373315),(0x626c6f636b,35375122)],[],
  [(.expr (.mcall (.loc 0x73656c66 35462412) 0x636c6f7365 [(.tup [(.st 0x6a756d70 35466026),(.loc 0x626c6f636b 35468433)] 0 35465734)] 35462418 35462435) 35462435),
   (.assign (.attr (.loc 0x73656c66 35552412) 0x68657265 35552417) (.loc 0x626c6f636b 35556025) 35552425)]⟩
noncomputable def F433:Fn:=⟨0x6e6578745f73697465,[(0x73656c66,35735422)],[],
  [(.assign (.attr (.loc 0x73656c66 35822412) 0x7369746573 35822418) (.bin .Add (.attr (.loc 0x73656c66 35826325) 0x7369746573 35826331) (.num 1 35830235) 35826335) 35822435),
   (.ret (.tup [(.attr (.attr (.loc 0x73656c66 35914820) 0x636f6465 35914825) 0x6b6579 35914829),(.attr (.loc 0x73656c66 35919335) 0x7369746573 35919341)] 0 35914542) 35912442)]⟩
noncomputable def F440:Fn:=⟨0x747970655f6f665f6c6f63616c,[(0x73656c66,36096626),(0x6c6f63616c,36098433)],[],
  [(.ret (.sub (.sub (.attr (.attr (.loc 0x73656c66 36184519) 0x74797065645f666e 36184528) 0x6c6f63616c73 36184535) (.loc 0x6c6f63616c 36190841) 36184542) (.num 1 36192944) 36184545) 36182445)]⟩
noncomputable def F447:Fn:=⟨0x69735f626f786564,[(0x73656c66,36365121),(0x6c6f63616c,36366928)],[],
  [(.ret (.cmp .In (.loc 0x6c6f63616c 36454520) (.attr (.loc 0x73656c66 36457228) 0x626f786564 36457234) 36454534) 36452434)]⟩
noncomputable def F454:Fn:=⟨0x74616b655f7265676973746572,[(0x73656c66,36636626),(0x6c6f63616c,36638433)],[],
  [(.assign (.name 0x746f6c645f74797065 36722417) (.mcall (.loc 0x73656c66 36726024) 0x747970655f6f665f6c6f63616c [(.loc 0x6c6f63616c 36731744)] 36726038 36726045) 36722445),
   (.assign (.sub (.attr (.loc 0x73656c66 36812412) 0x68656c64 36812417) (.loc 0x6c6f63616c 36815423) 36812424) (.mcall (.loc 0x73656c66 36818131) 0x6e65775f7265676973746572 [(.ite (.mcall (.loc 0x73656c66 36830171) 0x69735f626f786564 [(.loc 0x6c6f63616c 36834386)] 36830180 36830187) (.tup [(.st 0x707472 36823851),(.loc 0x746f6c645f74797065 36825962)] 0 36823563) (.loc 0x746f6c645f74797065 36838002) 36823602)] 36818144 36818203) 36812503),
   (.ret (.sub (.attr (.loc 0x73656c66 36904519) 0x68656c64 36904524) (.loc 0x6c6f63616c 36907530) 36904531) 36902431)]⟩
noncomputable def F468:Fn:=⟨0x706f696e7465725f6f66,[(0x73656c66,37355723),(0x6c6f63616c,37357530)],[],
  [(.ret (.tup [(.st 0x726567 37444821),(.sub (.attr (.loc 0x73656c66 37446927) 0x68656c64 37446932) (.loc 0x6c6f63616c 37449938) 37446939)] 0 37444540) 37442440)]⟩
noncomputable def F475:Fn:=⟨0x6c6f63616c5f76616c7565,[(0x73656c66,37626024),(0x6c6f63616c,37627831)],[],
  [(.ifs (.mcall (.loc 0x73656c66 37713315) 0x69735f626f786564 [(.loc 0x6c6f63616c 37717530)] 37713324 37713331) [(.ret (.mcall (.loc 0x73656c66 37805723) 0x6672657368 [(.mcall (.loc 0x73656c66 37809034) 0x747970655f6f665f6c6f63616c [(.loc 0x6c6f63616c 37814754)] 37809048 37809055),(.tup [(.st 0x6c6f6164 37817464),(.mcall (.loc 0x73656c66 37819870) 0x706f696e7465725f6f66 [(.loc 0x6c6f63616c 37824687)] 37819881 37819888)] 0 37817189)] 37805729 37805790) 37803690)] [] ⟨419,8,420,90⟩),
   (.ret (.tup [(.st 0x726567 37894821),(.sub (.attr (.loc 0x73656c66 37896927) 0x68656c64 37896932) (.loc 0x6c6f63616c 37899938) 37896939)] 0 37894540) 37892440)]⟩
noncomputable def F489:Fn:=⟨0x6b657074,[(0x73656c66,38343917),(0x6f706572616e64,38345726),(0x746f6c645f74797065,38348437)],[],
  [(.ret (.ite (.cmp .Eq (.sub (.loc 0x6f706572616e64 38437833) (.num 0 38440235) 38437836) (.st 0x636f6e7374 38442047) 38437847) (.loc 0x6f706572616e64 38434522) (.mcall (.loc 0x73656c66 38445957) 0x6672657368 [(.loc 0x746f6c645f74797065 38449273),(.tup [(.st 0x6d6f7665 38452882),(.loc 0x6f706572616e64 38455291)] 0 38452592)] 38445963 38445993) 38434593) 38432493)]⟩
noncomputable def F496:Fn:=⟨0x7a65726f5f6f706572616e64,[(0x73656c66,38616325),(0x746f6c645f74797065,38618136)],[],
  [(.ret (.tup [(.st 0x636f6e7374 38704823),(.loc 0x746f6c645f74797065 38707534),(.call (.glob 0x7a65726f5f76616c7565 (.fn 79) 38710846) [(.attr (.loc 0x73656c66 38714151) 0x776f726c64 38714157),(.loc 0x746f6c645f74797065 38717768)] 38710869)] 0 38704570) 38702470)]⟩
noncomputable def F503:Fn:=⟨0x76616c7565,[(0x73656c66,38884218),(0x65,38886021)],[],
  [(.ret (.call (.sub (.attr (.loc 0x73656c66 38974519) 0x6b6e6f776e 38974525) (.st 0x76616c7565 38977833) 38974534) [(.loc 0x73656c66 38980539),(.loc 0x65 38982342)] 38974543) 38972443)]⟩
noncomputable def F517:Fn:=⟨0x61646472657373,[(0x73656c66,39424820),(0x65,39426623)],[],
  [(.ret (.call (.sub (.attr (.loc 0x73656c66 39514519) 0x6b6e6f776e 39514525) (.st 0x61646472657373 39517835) 39514536) [(.loc 0x73656c66 39521141),(.loc 0x65 39522944)] 39514545) 39512445)]⟩
noncomputable def F531:Fn:=⟨0x66696e6973686564,[(0x73656c66,39965121)],[],
  [(.for_ [(0x626c6f636b,40053617)] none (.attr (.attr (.loc 0x73656c66 40056325) 0x636f6465 40056330) 0x626c6f636b73 40056337) [(.ifs (.cmp .Is (.sub (.loc 0x626c6f636b 40144520) (.num 1 40146322) 40144523) (.non 40148131) 40144531) [(.assign (.sub (.loc 0x626c6f636b 40234821) (.num 1 40236623) 40234824) (.tup [(.st 0x72657475726e 40238436),(.tup [] 0 40241440)] 0 40238141) 40234841)] [] ⟨446,12,447,41⟩)] ⟨445,8,447,41⟩),
   (.ret (.call (.glob 0x776974685f6b6570745f626c6f636b73 (.fn 363) 40324531) [(.attr (.loc 0x73656c66 40329636) 0x636f6465 40329641),(.call (.glob 0x736f72746564 (.bi .sorted) 40332949) [(.call (.glob 0x626c6f636b735f72656163686564 (.fn 349) 40335064) [(.attr (.loc 0x73656c66 40339569) 0x636f6465 40339574)] 40335075)] 40332976)] 40324577) 40322477)]⟩
noncomputable def F555:Fn:=⟨0x5f5f696e69745f5f,[(0x73656c66,40775121),(0x70617468,40776927),(0x7061636b616765,40778736),(0x756e6465726c79696e67,40781448),(0x6d6574686f6473,40785057)],[],
  [(.assign (.attr (.loc 0x73656c66 40862412) 0x70617468 40862417) (.loc 0x70617468 40866024) 40862424),
   (.assign (.attr (.loc 0x73656c66 40952412) 0x7061636b616765 40952420) (.loc 0x7061636b616765 40956930) 40952430),
   (.assign (.attr (.loc 0x73656c66 41042412) 0x756e6465726c79696e67 41042423) (.loc 0x756e6465726c79696e67 41047836) 41042436),
   (.assign (.attr (.loc 0x73656c66 41132412) 0x6d6574686f6473 41132420) (.loc 0x6d6574686f6473 41136930) 41132430)]⟩
noncomputable def F569:Fn:=⟨0x6b6e6f776e5f726f7773,[],[],
  [(.assign (.name 0x74657874 41311208) (.tup [(.st 0x66756e63 41313618),(.tup [] 0 41316022),(.tup [(.tup [(.st 0x737472696e67 41317834)] 0 41317536)] 0 41317238),(.tru false 41322045)] 0 41313346) 41311246),
   (.assign (.name 0x616464696e67 41401210) (.tup [(.st 0x66756e63 41404220),(.tup [(.tup [(.st 0x696e74 41407229),(.st 0x696e74 41409336)] 0 41406937)] 0 41406639),(.tup [] 0 41412343),(.tru false 41413550)] 0 41403951) 41401251),
   (.assign (.name 0x68656c64 41491208) (.tup [(.st 0x737472756374 41493620),(.tup [(.tup [(.st 0x7374617465 41497231),(.tup [(.st 0x696e74 41500239),(.st 0x696e74 41502346)] 0 41499947),(.tru false 41504754)] 0 41496955)] 0 41496657)] 0 41493358) 41491258),
   (.assign (.name 0x746f6c64 41581208) (.dct true [(.st 0x4572726f72 41583619)] [(.tup [(.tru false 41586627),(.loc 0x74657874 41588733),(.st 0x72756e74696d652e4572726f722e4572726f72 41590556)] 0 41586357)] 41583358) 41581258),
   (.assign (.name 0x6c6f636b73 41671209) (.dct true [(.st 0x4c6f636b 41673919),(.st 0x556e6c6f636b 41686563)] [(.tup [(.tru true 41676626),(.glob 0x504c41494e (.tup [.str 0x66756e63,.tup [],.tup [],.bool false]) 41678433),(.st 0x73796e632e4d757465782e4c6f636b 41680552)] 0 41676353),(.tup [(.tru true 41689870),(.glob 0x504c41494e (.tup [.str 0x66756e63,.tup [],.tup [],.bool false]) 41691677),(.st 0x73796e632e4d757465782e556e6c6f636b 41693798)] 0 41689599)] 41673700) 41671300),
   (.assign (.name 0x7761697473 41761209) (.dct true [(.st 0x416464 41763918),(.st 0x446f6e65 41777464),(.st 0x57616974 41791310)] [(.tup [(.tru true 41766325),(.loc 0x616464696e67 41768133),(.st 0x73796e632e5761697447726f75702e416464 41770555)] 0 41766056),(.tup [(.tru true 41780171),(.glob 0x504c41494e (.tup [.str 0x66756e63,.tup [],.tup [],.bool false]) 41781978),(.st 0x73796e632e5761697447726f75702e446f6e65 41784101)] 0 41779902),(.tup [(.tru true 41794017),(.glob 0x504c41494e (.tup [.str 0x66756e63,.tup [],.tup [],.bool false]) 41795824),(.st 0x73796e632e5761697447726f75702e57616974 41797947)] 0 41793748)] 41763749) 41761349),
   (.ret (.dct true [(.st 0x6572726f72 41853619),(.st 0x72756e74696d652e4572726f72 41874998),(.st 0x73796e632e4d75746578 41897269),(.st 0x73796e632e5761697447726f7570 41915032)] [(.call (.glob 0x4e616d6564526f77 (.cls 558) 41856329) [(.st 0x6572726f72 41859037),(.st 0 41861741),(.tup [(.st 0x696e74657266616365 41863255),(.tup [(.tup [(.st 0x4572726f72 41867766),(.loc 0x74657874 41870472)] 0 41867473)] 0 41867175)] 0 41862976),(.dct true [] [] 41873480)] 41856381),(.call (.glob 0x4e616d6564526f77 (.cls 558) 41880108) [(.st 0x72756e74696d652e4572726f72 41882824),(.st 0x72756e74696d65 41887935),(.tup [(.st 0x737472696e67 41891546)] 0 41891248),(.loc 0x746f6c64 41895154)] 41880155),(.call (.glob 0x4e616d6564526f77 (.cls 558) 41901479) [(.st 0x73796e632e4d75746578 41904192),(.st 0x73796e63 41908400),(.loc 0x68656c64 41910806),(.loc 0x6c6f636b73 41912613)] 41901514),(.call (.glob 0x4e616d6564526f77 (.cls 558) 41920442) [(.st 0x73796e632e5761697447726f7570 41923159),(.st 0x73796e63 41928567),(.loc 0x68656c64 41930973),(.loc 0x7761697473 41932780)] 41920481)] 41853582) 41851482)]⟩
noncomputable def F584:Fn:=⟨0x5f5f696e69745f5f,[(0x73656c66,42125121),(0x7061636b61676573,42126931)],[.none],
  [(.assign (.attr (.loc 0x73656c66 42212412) 0x7061636b61676573 42212421) (.loc 0x7061636b61676573 42217232) 42212432),
   (.assign (.attr (.loc 0x73656c66 42302412) 0x6e616d6564 42302418) (.call (.glob 0x6b6e6f776e5f726f7773 (.fn 569) 42306331) [] 42306333) 42302433),
   (.assign (.attr (.loc 0x73656c66 42392412) 0x676c6f62616c73 42392420) (.dct true [] [] 42396925) 42392425),
   (.assign (.attr (.loc 0x73656c66 42482412) 0x636f6e737473 42482419) (.dct true [] [] 42486624) 42482424),
   (.assign (.attr (.loc 0x73656c66 42572412) 0x66756e6373 42572418) (.dct true [] [] 42576323) 42572423),
   (.assign (.attr (.loc 0x73656c66 42662412) 0x626f64696573 42662419) (.dct true [] [] 42666624) 42662424),
   (.assign (.attr (.loc 0x73656c66 42752412) 0x66696c6573 42752418) (.dct true [] [] 42756323) 42752423),
   (.assign (.attr (.loc 0x73656c66 42842412) 0x73636f706573 42842419) (.dct true [] [] 42846624) 42842424),
   (.assign (.attr (.loc 0x73656c66 42932412) 0x6f72646572 42932418) (.lst true [] 42936323) 42932423),
   (.assign (.attr (.loc 0x73656c66 43022412) 0x737461727473 43022419) (.lst true [] 43026624) 43022424),
   (.assign (.attr (.loc 0x73656c66 43112412) 0x736574746c65 43112419) (.non 43116626) 43112426),
   (.assign (.attr (.loc 0x73656c66 43202412) 0x6c6174655f6b657973 43202422) (.lst true [] 43207527) 43202427),
   (.assign (.attr (.loc 0x73656c66 43292412) 0x69735f77686f6c65 43292421) (.tru true 43297228) 43292428)]⟩
noncomputable def F591:Fn:=⟨0x626173655f6f66,[(0x73656c66,43474820),(0x746f6c64,43476626)],[],
  [(.whl (.cmp .Eq (.sub (.loc 0x746f6c64 43564218) (.num 0 43565720) 43564221) (.st 0x6e616d6564 43567532) 43564232) [(.ifs (.cmp .NotIn (.sub (.loc 0x746f6c64 43654519) (.num 1 43656021) 43654522) (.attr (.loc 0x73656c66 43659034) 0x6e616d6564 43659040) 43654540) [(.rais (.call (.glob 0x4e616d654661756c74 (.cls 52) 43746631) [(.bin .Add (.st 0x7468657265206973206e6f207479706520 43749651) (.sub (.loc 0x746f6c64 43756258) (.num 1 43757760) 43756261) 43749661)] 43746662) 43744862)] [] ⟨485,12,486,62⟩),
   (.assign (.name 0x726f77 43833615) (.sub (.attr (.loc 0x73656c66 43835422) 0x6e616d6564 43835428) (.sub (.loc 0x746f6c64 43838733) (.num 1 43840235) 43838736) 43835437) 43833637),
   (.ifs (.cmp .Is (.attr (.loc 0x726f77 43924518) 0x756e6465726c79696e67 43924529) (.non 43929937) 43924537) [(.ifs (.cmp .Is (.attr (.loc 0x73656c66 44015723) 0x736574746c65 44015730) (.non 44020238) 44015738) [(.rais (.call (.glob 0x547970654661756c74 (.cls 64) 44107835) [(.bin .Add (.bin .Add (.st 0x746865207479706520 44110847) (.sub (.loc 0x746f6c64 44115054) (.num 1 44116556) 44115057) 44110857) (.st 0x20697320746f6c6420627920697473656c66 44118080) 44110880)] 44107881) 44106081)] [] ⟨489,16,490,81⟩),
   (.expr (.mcall (.loc 0x73656c66 44194820) 0x736574746c65 [(.sub (.loc 0x746f6c64 44198432) (.num 1 44199934) 44198435)] 44194827 44194836) 44194836)] [] ⟨488,12,491,36⟩),
   (.assign (.name 0x746f6c64 44283616) (.attr (.loc 0x726f77 44285722) 0x756e6465726c79696e67 44285733) 44283633)] ⟨484,8,492,33⟩),
   (.ret (.loc 0x746f6c64 44374519) 44372419)]⟩
noncomputable def F621:Fn:=⟨0x5f6c61775f706f6f6c,[(0x736372697074,45364220)],[],
  [(.assign (.name 0x7363726970745f63656c6c 45451215) (.ite (.cmp .Gt (.call (.glob 0x6c656e (.bi .len) 45459334) [(.loc 0x736372697074 45460541)] 45459342) (.num 0 45463546) 45459346) (.sub (.loc 0x736372697074 45455424) (.num 0 45457526) 45455427) (.num 0 45465653) 45455453) 45451253),
   (.assign (.name 0x6c61726765 45541209) (.call (.glob 0x6d6178 (.bi .max) 45543615) [(.call (.glob 0x696e74 (.bi .int) 45544819) [(.loc 0x7363726970745f63656c6c 45546031)] 45544832),(.call (.glob 0x696e74 (.bi .int) 45550237) [(.bin .Sub (.neg (.num 1 45551740) 45551440) (.loc 0x7363726970745f63656c6c 45552954) 45551454)] 45550255)] 45543656) 45541256),
   (.ret (.lst false [(.bin .Mult (.loc 0x6c61726765 45633617) (.call (.glob 0x696e74 (.bi .int) 45636023) [(.cmp .GtE (.loc 0x6c61726765 45637229) (.bin .Pow (.num 10 45639935) (.num 18 45641741) 45639941) 45637241)] 45636042) 45633642),(.bin .Mod (.call (.glob 0x696e74 (.bi .int) 45643247) [(.bin .Mult (.bin .Add (.bin .Mod (.loc 0x6c61726765 45644754) (.num 2147483629 45647167) 45644767) (.num 17 45651072) 45644772) (.num 48271 45652881) 45644481)] 45643282) (.num 2147483647 45655595) 45643295)] 45633396) 45631296)]⟩
noncomputable def F628:Fn:=⟨0x5f6c61775f74616b65,[(0x736f75726365,45724220),(0x746f70,45726625)],[],
  [(.ifs (.cmp .Gt (.sub (.loc 0x736f75726365 45812113) (.num 0 45814215) 45812116) (.num 0 45815720) 45812120) [(.assign (.name 0x6469676974 45902413) (.bin .Mod (.call (.glob 0x696e74 (.bi .int) 45904819) [(.sub (.loc 0x736f75726365 45906026) (.num 0 45908128) 45906029)] 45904830) (.loc 0x746f70 45909936) 45904836) 45902436),
   (.assign (.sub (.loc 0x736f75726365 45992414) (.num 0 45994516) 45992417) (.bin .FloorDiv (.sub (.loc 0x736f75726365 45996026) (.num 0 45998128) 45996029) (.loc 0x746f70 45999936) 45996036) 45992436),
   (.ret (.loc 0x6469676974 46084520) 46082420)] [] ⟨509,4,512,20⟩),
   (.assign (.sub (.loc 0x736f75726365 46171210) (.num 1 46173312) 46171213) (.bin .Mod (.call (.glob 0x696e74 (.bi .int) 46174819) [(.bin .Add (.bin .Mult (.sub (.loc 0x736f75726365 46176026) (.num 1 46178128) 46176029) (.num 39373 46179637) 46176037) (.num 7 46182041) 46176041)] 46174842) (.num 2147483647 46183555) 46174855) 46171255),
   (.ret (.bin .Mod (.bin .FloorDiv (.bin .Mod (.call (.glob 0x696e74 (.bi .int) 46263314) [(.bin .Mult (.sub (.loc 0x736f75726365 46264521) (.num 1 46266623) 46264524) (.sub (.loc 0x736f75726365 46268133) (.num 1 46270235) 46268136) 46264536)] 46263337) (.num 2147483629 46272050) 46263350) (.num 32 46276256) 46263356) (.loc 0x746f70 46277762) 46263362) 46261262)]⟩
noncomputable def F635:Fn:=⟨0x5f6c61775f6f6e65,[(0x736f75726365,46353919),(0x7468696e6773,46356327)],[],
  [(.ret (.sub (.loc 0x7468696e6773 46443317) (.call (.glob 0x5f6c61775f74616b65 (.fn 628) 46445427) [(.loc 0x736f75726365 46448434),(.call (.glob 0x6c656e (.bi .len) 46450839) [(.loc 0x7468696e6773 46452046)] 46450847)] 46445448) 46443349) 46441249)]⟩
noncomputable def F642:Fn:=⟨0x5f6c61775f6d61726b,[(0x736f75726365,46534220),(0x6b696e64,46536626)],[],
  [(.ret (.tup [(.st 0x63616c6c 46623618),(.loc 0x6b696e64 46626024),(.num 0 46627827),(.tup [(.st 0x666e 46629034),(.st 0x6d61696e2e6d61726b 46630847)] 0 46628748),(.tup [(.tup [(.st 0x636f6e7374 46635659),(.glob 0x5f6c61775f696e74 (.tup [.str 0x696e74,.str 0x696e74]) 46638369),(.num 0 46641372),(.call (.glob 0x5f6c61775f74616b65 (.fn 628) 46642283) [(.loc 0x736f75726365 46645290),(.num 90 46647694)] 46642295)] 0 46635396)] 0 46635098)] 0 46623399) 46621299)]⟩
noncomputable def F649:Fn:=⟨0x5f6c61775f6e756d626572,[(0x736f75726365,46714822),(0x64656570,46717228)],[],
  [(.assign (.name 0x776179 46801207) (.ite (.cmp .Gt (.loc 0x64656570 46810238) (.num 0 46812342) 46810242) (.call (.glob 0x5f6c61775f74616b65 (.fn 628) 46803019) [(.loc 0x736f75726365 46806026),(.num 7 46808429)] 46803030) (.call (.glob 0x5f6c61775f74616b65 (.fn 628) 46814457) [(.loc 0x736f75726365 46817464),(.num 3 46819867)] 46814468) 46803068) 46801268),
   (.ifs (.cmp .Eq (.loc 0x776179 46892110) (.num 0 46894215) 46892115) [(.ret (.call (.glob 0x5f6c61775f6d61726b (.fn 642) 46984524) [(.loc 0x736f75726365 46987531),(.glob 0x5f6c61775f696e74 (.tup [.str 0x696e74,.str 0x696e74]) 46989941)] 46984542) 46982442)] [] ⟨521,4,522,42⟩),
   (.ifs (.cmp .Eq (.loc 0x776179 47072110) (.num 1 47074215) 47072115) [(.ret (.tup [(.st 0x676c6f62616c 47164824),(.glob 0x5f6c61775f696e74 (.tup [.str 0x696e74,.str 0x696e74]) 47167834),(.num 0 47170837),(.st 0x6d61696e2e67 47171747)] 0 47164548) 47162448)] [] ⟨523,4,524,48⟩),
   (.ifs (.cmp .Eq (.loc 0x776179 47252110) (.num 2 47254215) 47252115) [(.ret (.tup [(.st 0x7a65726f 47344822),(.glob 0x5f6c61775f696e74 (.tup [.str 0x696e74,.str 0x696e74]) 47347232),(.num 0 47350235)] 0 47344536) 47342436)] [] ⟨525,4,526,36⟩),
   (.ifs (.cmp .Eq (.loc 0x776179 47432110) (.num 3 47434215) 47432115) [(.ret (.tup [(.st 0x636f6e76657274 47524825),(.glob 0x5f6c61775f696e74 (.tup [.str 0x696e74,.str 0x696e74]) 47528135),(.num 0 47531138),(.call (.glob 0x5f6c61775f6d61726b (.fn 642) 47532049) [(.loc 0x736f75726365 47535056),(.glob 0x5f6c61775f736d616c6c (.tup [.str 0x696e74,.str 0x696e7438]) 47537468)] 47532069)] 0 47524570) 47522470)] [] ⟨527,4,528,70⟩),
   (.ifs (.cmp .Eq (.loc 0x776179 47612110) (.num 4 47614215) 47612115) [(.ret (.tup [(.st 0x62696e617279 47704824),(.glob 0x5f6c61775f696e74 (.tup [.str 0x696e74,.str 0x696e74]) 47707834),(.num 0 47710837),(.call (.glob 0x5f6c61775f6f6e65 (.fn 635) 47711747) [(.loc 0x736f75726365 47714454),(.lst true [(.st 0x2b 47717160),(.st 0x2d 47718665)] 47716866)] 47711767),(.call (.glob 0x5f6c61775f6e756d626572 (.fn 649) 47720780) [(.loc 0x736f75726365 47724387),(.bin .Sub (.loc 0x64656570 47726793) (.num 1 47728897) 47726797)] 47720798),(.call (.glob 0x5f6c61775f6e756d626572 (.fn 649) 47730111) [(.loc 0x736f75726365 47733718),(.bin .Sub (.loc 0x64656570 47736124) (.num 1 47738228) 47736128)] 47730129)] 0 47704630) 47702530)] [] ⟨529,4,530,130⟩),
   (.ifs (.cmp .Eq (.loc 0x776179 47792110) (.num 5 47794215) 47792115) [(.ret (.tup [(.st 0x6465726566 47884823),(.glob 0x5f6c61775f696e74 (.tup [.str 0x696e74,.str 0x696e74]) 47887533),(.num 0 47890536),(.tup [(.st 0x61646472657373 47891748),(.tup [(.st 0x707472 47895356),(.glob 0x5f6c61775f696e74 (.tup [.str 0x696e74,.str 0x696e74]) 47897466)] 0 47895067),(.num 0 47900770),(.tup [(.st 0x6c6f63616c 47901980),(.glob 0x5f6c61775f696e74 (.tup [.str 0x696e74,.str 0x696e74]) 47904690),(.num 0 47907693),(.num 1 47908596)] 0 47901697)] 0 47891498)] 0 47884599) 47882499)] [] ⟨531,4,532,99⟩),
   (.ret (.tup [(.st 0x617373657274 47973620),(.glob 0x5f6c61775f696e74 (.tup [.str 0x696e74,.str 0x696e74]) 47976630),(.num 0 47979633),(.tup [(.st 0x66616365 47980842),(.glob 0x5f6c61775f616e79 (.tup [.str 0x696e74657266616365,.tup []]) 47983252),(.num 0 47986255),(.call (.glob 0x5f6c61775f6e756d626572 (.fn 649) 47987168) [(.loc 0x736f75726365 47990775),(.bin .Sub (.loc 0x64656570 47993181) (.num 1 47995285) 47993185)] 47987186)] 0 47980587),(.glob 0x5f6c61775f696e74 (.tup [.str 0x696e74,.str 0x696e74]) 47996797),(.tru false 47999804)] 0 47973405) 47971305)]⟩
noncomputable def F656:Fn:=⟨0x5f6c61775f626f756e64,[(0x736f75726365,48064521),(0x64656570,48066927)],[],
  [(.ret (.ite (.cmp .Eq (.call (.glob 0x5f6c61775f74616b65 (.fn 628) 48155728) [(.loc 0x736f75726365 48158735),(.num 3 48161138)] 48155739) (.num 0 48162944) 48155744) (.non 48153315) (.call (.glob 0x5f6c61775f6e756d626572 (.fn 649) 48165061) [(.loc 0x736f75726365 48168668),(.loc 0x64656570 48171074)] 48165075) 48153375) 48151275)]⟩
noncomputable def F663:Fn:=⟨0x5f6c61775f726f77,[(0x736f75726365,48243919),(0x64656570,48246325)],[],
  [(.assign (.name 0x776179 48331207) (.ite (.cmp .Gt (.loc 0x64656570 48340238) (.num 0 48342342) 48340242) (.call (.glob 0x5f6c61775f74616b65 (.fn 628) 48333019) [(.loc 0x736f75726365 48336026),(.num 5 48338429)] 48333030) (.call (.glob 0x5f6c61775f74616b65 (.fn 628) 48344457) [(.loc 0x736f75726365 48347464),(.num 2 48349867)] 48344468) 48333068) 48331268),
   (.ifs (.cmp .Eq (.loc 0x776179 48422110) (.num 0 48424215) 48422115) [(.ret (.tup [(.st 0x6c6f63616c 48514823),(.glob 0x5f6c61775f736c696365 (.tup [.str 0x736c696365,.tup [.str 0x696e74,.str 0x696e74]]) 48517535),(.num 0 48521138),(.num 0 48522041)] 0 48514542) 48512442)] [] ⟨538,4,539,42⟩),
   (.ifs (.cmp .Eq (.loc 0x776179 48602110) (.num 1 48604215) 48602115) [(.ret (.tup [(.st 0x6e696c 48694821),(.glob 0x5f6c61775f736c696365 (.tup [.str 0x736c696365,.tup [.str 0x696e74,.str 0x696e74]]) 48696933),(.num 0 48700536)] 0 48694537) 48692437)] [] ⟨540,4,541,37⟩),
   (.ifs (.cmp .Eq (.loc 0x776179 48782110) (.num 2 48784215) 48782115) [(.ret (.tup [(.st 0x726f77 48874821),(.glob 0x5f6c61775f736c696365 (.tup [.str 0x736c696365,.tup [.str 0x696e74,.str 0x696e74]]) 48876933),(.num 0 48880536),(.num 2 48881439),(.tup [(.tup [(.num 0 48882944),(.call (.glob 0x5f6c61775f6e756d626572 (.fn 649) 48883857) [(.loc 0x736f75726365 48887464),(.bin .Sub (.loc 0x64656570 48889870) (.num 1 48891974) 48889874)] 48883875)] 0 48882676),(.tup [(.num 1 48893780),(.call (.glob 0x5f6c61775f6e756d626572 (.fn 649) 48894693) [(.loc 0x736f75726365 48898300),(.bin .Sub (.loc 0x64656570 48900706) (.num 1 48902810) 48900710)] 48894711)] 0 48893512)] 0 48882413)] 0 48874614) 48872514)] [] ⟨542,4,543,114⟩),
   (.assign (.name 0x77686f6c65 48961209) (.ite (.cmp .Eq (.loc 0x776179 48972946) (.num 3 48975051) 48972951) (.tup [(.st 0x6c6f63616c 48963920),(.glob 0x5f6c61775f6172726179 (.tup [.str 0x6172726179,.int 3,.tup [.str 0x696e74,.str 0x696e74]]) 48966632),(.num 0 48970235),(.num 2 48971138)] 0 48963639) (.call (.glob 0x5f6c61775f726f77 (.fn 663) 48977165) [(.loc 0x736f75726365 48979872),(.bin .Sub (.loc 0x64656570 48982278) (.num 1 48984382) 48982282)] 48977183) 48963683) 48961283),
   (.ret (.tup [(.st 0x637574 49053617),(.glob 0x5f6c61775f736c696365 (.tup [.str 0x736c696365,.tup [.str 0x696e74,.str 0x696e74]]) 49055729),(.num 0 49059332),(.loc 0x77686f6c65 49060239),(.call (.glob 0x5f6c61775f626f756e64 (.fn 656) 49062351) [(.loc 0x736f75726365 49065658),(.bin .Sub (.loc 0x64656570 49068064) (.num 1 49070168) 49068068)] 49062369),(.call (.glob 0x5f6c61775f626f756e64 (.fn 656) 49071381) [(.loc 0x736f75726365 49074688),(.bin .Sub (.loc 0x64656570 49077094) (.num 1 49079198) 49077098)] 49071399),(.call (.glob 0x5f6c61775f626f756e64 (.fn 656) 49080411) [(.loc 0x736f75726365 49083718),(.num 0 49086121)] 49080422)] 0 49053423) 49051323)]⟩
noncomputable def F670:Fn:=⟨0x5f6c61775f7472757468,[(0x736f75726365,49144521),(0x64656570,49146927)],[],
  [(.assign (.name 0x776179 49231207) (.ite (.cmp .Gt (.loc 0x64656570 49240238) (.num 0 49242342) 49240242) (.call (.glob 0x5f6c61775f74616b65 (.fn 628) 49233019) [(.loc 0x736f75726365 49236026),(.num 5 49238429)] 49233030) (.call (.glob 0x5f6c61775f74616b65 (.fn 628) 49244457) [(.loc 0x736f75726365 49247464),(.num 2 49249867)] 49244468) 49233068) 49231268),
   (.ifs (.cmp .Eq (.loc 0x776179 49322110) (.num 0 49324215) 49322115) [(.ret (.call (.glob 0x5f6c61775f6d61726b (.fn 642) 49414524) [(.loc 0x736f75726365 49417531),(.glob 0x5f6c61775f626f6f6c (.tup [.str 0x626f6f6c]) 49419942)] 49414543) 49412443)] [] ⟨548,4,549,43⟩),
   (.ifs (.cmp .Eq (.loc 0x776179 49502110) (.num 1 49504215) 49502115) [(.ret (.tup [(.st 0x636f6e7374 49594823),(.glob 0x5f6c61775f626f6f6c (.tup [.str 0x626f6f6c]) 49597534),(.num 0 49600837),(.cmp .Eq (.call (.glob 0x5f6c61775f74616b65 (.fn 628) 49601748) [(.loc 0x736f75726365 49604755),(.num 2 49607158)] 49601759) (.num 0 49608964) 49601764)] 0 49594565) 49592465)] [] ⟨550,4,551,65⟩),
   (.ifs (.cmp .Eq (.loc 0x776179 49682110) (.num 2 49684215) 49682115) [(.ret (.tup [(.st 0x756e617279 49774823),(.glob 0x5f6c61775f626f6f6c (.tup [.str 0x626f6f6c]) 49777534),(.num 0 49780837),(.st 0x21 49781742),(.call (.glob 0x5f6c61775f7472757468 (.fn 670) 49783254) [(.loc 0x736f75726365 49786561),(.bin .Sub (.loc 0x64656570 49788967) (.num 1 49791071) 49788971)] 49783272)] 0 49774573) 49772473)] [] ⟨552,4,553,73⟩),
   (.ret (.tup [(.st 0x6c617a79 49863618),(.glob 0x5f6c61775f626f6f6c (.tup [.str 0x626f6f6c]) 49866029),(.num 0 49869332),(.call (.glob 0x5f6c61775f6f6e65 (.fn 635) 49870242) [(.loc 0x736f75726365 49872949),(.lst true [(.st 0x2626 49875656),(.st 0x7c7c 49877462)] 49875363)] 49870264),(.call (.glob 0x5f6c61775f7472757468 (.fn 670) 49879876) [(.loc 0x736f75726365 49883183),(.bin .Sub (.loc 0x64656570 49885589) (.num 1 49887693) 49885593)] 49879894),(.call (.glob 0x5f6c61775f7472757468 (.fn 670) 49888906) [(.loc 0x736f75726365 49892213),(.bin .Sub (.loc 0x64656570 49894619) (.num 1 49896723) 49894623)] 49888924)] 0 49863425) 49861325)]⟩
noncomputable def F677:Fn:=⟨0x5f6c61775f63616c6c6564,[(0x6d61726b73,49954821),(0x6e756d626572,49956929),(0x6b696e64,49959335)],[],
  [(.expr (.mcall (.loc 0x6d61726b73 50041209) 0x617070656e64 [(.loc 0x6e756d626572 50045123)] 50041216 50041224) 50041224),
   (.ret (.ite (.cmp .Eq (.loc 0x6b696e64 50139034) (.glob 0x5f6c61775f626f6f6c (.tup [.str 0x626f6f6c]) 50141447) 50139047) (.cmp .Eq (.bin .Mod (.loc 0x6e756d626572 50133317) (.num 2 50136021) 50133321) (.num 0 50137526) 50133326) (.tup [(.st 0x6d61726b 50146260),(.loc 0x6e756d626572 50148668)] 0 50145969) 50133369) 50131269)]⟩
noncomputable def F682:Fn:=⟨0x5f6c61775f6d616465,[(0x6d61726b73,50224219),(0x65,50226322)],[],
  [(.assign (.name 0x776f7264 50311208) (.sub (.loc 0x65 50313312) (.num 0 50313914) 50313315) 50311215),
   (.ifs (.cmp .Eq (.loc 0x776f7264 50402111) (.st 0x63616c6c 50404521) 50402121) [(.ret (.call (.glob 0x5f6c61775f63616c6c6564 (.fn 677) 50494526) [(.loc 0x6d61726b73 50498132),(.sub (.sub (.sub (.loc 0x65 50500235) (.num 4 50500837) 50500238) (.num 0 50501740) 50500241) (.num 3 50502643) 50500244),(.sub (.loc 0x65 50503847) (.num 1 50504449) 50503850)] 50494551) 50492451)] [] ⟨560,4,561,51⟩),
   (.ifs (.cmp .Eq (.loc 0x776f7264 50582111) (.st 0x636f6e7374 50584522) 50582122) [(.ret (.sub (.loc 0x65 50674516) (.num 3 50675118) 50674519) 50672419)] [] ⟨562,4,563,19⟩),
   (.ifs (.cmp .In (.loc 0x776f7264 50762111) (.lst true [(.st 0x7a65726f 50764822),(.st 0x6e696c 50767229)] 50764530) 50762130) [(.ret (.tup [(.st 0x746f6c64 50854822),(.ite (.cmp .Eq (.loc 0x776f7264 50858733) (.st 0x7a65726f 50861143) 50858743) (.num 0 50857225) (.non 50864753) 50857253)] 0 50854554) 50852454)] [] ⟨564,4,565,54⟩),
   (.ifs (.cmp .Eq (.loc 0x776f7264 50942111) (.st 0x6c6f63616c 50944522) 50942122) [(.ret (.tup [(.st 0x68656c64 51034822),(.sub (.loc 0x65 51037225) (.num 3 51037827) 51037228)] 0 51034529) 51032429)] [] ⟨566,4,567,29⟩),
   (.ifs (.cmp .Eq (.loc 0x776f7264 51122111) (.st 0x676c6f62616c 51124523) 51122123) [(.ret (.tup [(.st 0x6c6f6164 51214822),(.tup [(.st 0x746f6c64 51217531),(.tup [(.st 0x707472 51220239),(.sub (.loc 0x65 51222342) (.num 3 51222944) 51222345),(.tup [] 0 51224149)] 0 51219950)] 0 51217251)] 0 51214552) 51212452)] [] ⟨568,4,569,52⟩),
   (.ifs (.cmp .Eq (.loc 0x776f7264 51302111) (.st 0x6465726566 51304522) 51302122) [(.ret (.tup [(.st 0x6c6f6164 51394822),(.tup [(.st 0x68656c64 51397531),(.num 1 51399934)] 0 51397235)] 0 51394536) 51392436)] [] ⟨570,4,571,36⟩),
   (.ifs (.cmp .Eq (.loc 0x776f7264 51482111) (.st 0x756e617279 51484522) 51482122) [(.ret (.not (.call (.glob 0x5f6c61775f6d616465 (.fn 682) 51575728) [(.loc 0x6d61726b73 51578734),(.sub (.loc 0x65 51580837) (.num 4 51581439) 51580840)] 51575741) 51574541) 51572441)] [] ⟨572,4,573,41⟩),
   (.ifs (.cmp .Eq (.loc 0x776f7264 51662111) (.st 0x6c617a79 51664521) 51662121) [(.assign (.name 0x6669727374 51752413) (.call (.glob 0x5f6c61775f6d616465 (.fn 682) 51754825) [(.loc 0x6d61726b73 51757831),(.sub (.loc 0x65 51759934) (.num 4 51760536) 51759937)] 51754838) 51752438),
   (.ret (.ite (.cmp .Eq (.loc 0x6669727374 51852346) (.cmp .Eq (.sub (.loc 0x65 51855352) (.num 3 51855954) 51855355) (.st 0x2626 51857763) 51855363) 51852364) (.call (.glob 0x5f6c61775f6d616465 (.fn 682) 51844524) [(.loc 0x6d61726b73 51847530),(.sub (.loc 0x65 51849633) (.num 5 51850235) 51849636)] 51844537) (.loc 0x6669727374 51861075) 51844575) 51842475)] [] ⟨574,4,576,75⟩),
   (.ifs (.cmp .Eq (.loc 0x776f7264 51932111) (.st 0x62696e617279 51934523) 51932123) [(.assign (.name 0x6f6e65 52022411) (.call (.glob 0x5f6c61775f6d616465 (.fn 682) 52024223) [(.loc 0x6d61726b73 52027229),(.sub (.loc 0x65 52029332) (.num 4 52029934) 52029335)] 52024236) 52022436),
   (.ret (.tup [(.sub (.loc 0x65 52114817) (.num 3 52115419) 52114820),(.loc 0x6f6e65 52116625),(.call (.glob 0x5f6c61775f6d616465 (.fn 682) 52118136) [(.loc 0x6d61726b73 52121142),(.sub (.loc 0x65 52123245) (.num 5 52123847) 52123248)] 52118149),(.sub (.sub (.loc 0x65 52125352) (.num 4 52125954) 52125355) (.num 1 52126857) 52125358)] 0 52114559) 52112459)] [] ⟨577,4,579,59⟩),
   (.ifs (.cmp .Eq (.loc 0x776f7264 52202111) (.st 0x636f6e76657274 52204524) 52202124) [(.ret (.tup [(.st 0x636f6e76657274 52294825),(.call (.glob 0x5f6c61775f6d616465 (.fn 682) 52298136) [(.loc 0x6d61726b73 52301142),(.sub (.loc 0x65 52303245) (.num 3 52303847) 52303248)] 52298149),(.sub (.sub (.loc 0x65 52305352) (.num 3 52305954) 52305355) (.num 1 52306857) 52305358),(.sub (.loc 0x65 52308061) (.num 1 52308663) 52308064)] 0 52294565) 52292465)] [] ⟨580,4,581,65⟩),
   (.ifs (.cmp .Eq (.loc 0x776f7264 52382111) (.st 0x617373657274 52384523) 52382123) [(.ret (.tup [(.st 0x617373657274 52474824),(.tup [(.st 0x66616365 52478133),(.call (.glob 0x5f6c61775f6d616465 (.fn 682) 52480544) [(.loc 0x6d61726b73 52483550),(.sub (.sub (.loc 0x65 52485653) (.num 3 52486255) 52485656) (.num 3 52487158) 52485659)] 52480560),(.sub (.sub (.sub (.loc 0x65 52488663) (.num 3 52489265) 52488666) (.num 3 52490168) 52488669) (.num 1 52491071) 52488672)] 0 52477873),(.sub (.loc 0x65 52492576) (.num 4 52493178) 52492579),(.sub (.sub (.loc 0x65 52494382) (.num 3 52494984) 52494385) (.num 1 52495887) 52494388)] 0 52474589) 52472489)] [] ⟨582,4,583,89⟩),
   (.ifs (.cmp .Eq (.loc 0x776f7264 52562111) (.st 0x726f77 52564520) 52562120) [(.ret (.tup [(.st 0x726f77 52654821),(.call (.glob 0x7475706c65 (.bi .tuple) 52656928) [(.comp (.call (.glob 0x5f6c61775f6d616465 (.fn 682) 52659039) [(.loc 0x6d61726b73 52662045),(.loc 0x6f6e65 52664150)] 52659051) [(0x706c616365,52666861),(0x6f6e65,52668966)] (some (0,52666866)) (.sub (.loc 0x65 52671071) (.num 4 52671673) 52671074) ⟨.function,[(dec 0x2e30,.local),(dec 0x706c616365,.local),(dec 0x6f6e65,.local),(dec 0x5f6c61775f6d616465,.globalImplicit),(dec 0x6d61726b73,.free)],false,false,[]⟩ 52658775)] 52656976)] 0 52654577) 52652477)] [] ⟨584,4,585,77⟩),
   (.assign (.name 0x77686f6c65 52741209) (.call (.glob 0x5f6c61775f6d616465 (.fn 682) 52743621) [(.loc 0x6d61726b73 52746627),(.sub (.loc 0x65 52748730) (.num 3 52749332) 52748733)] 52743634) 52741234),
   (.assign (.name 0x626f756e6473 52831210) (.call (.glob 0x7475706c65 (.bi .tuple) 52833918) [(.comp (.ite (.cmp .Is (.loc 0x6f6e65 52838431) (.non 52840539) 52838439) (.non 52836024) (.call (.glob 0x5f6c61775f6d616465 (.fn 682) 52843554) [(.loc 0x6d61726b73 52846560),(.loc 0x6f6e65 52848665)] 52843566) 52836066) [(0x6f6e65,52851374)] none (.slc (.loc 0x65 52853479) (some (4,52854081)) (some (7,52854683)) 52854083 52853484) ⟨.function,[(dec 0x2e30,.local),(dec 0x6f6e65,.local),(dec 0x5f6c61775f6d616465,.globalImplicit),(dec 0x6d61726b73,.free)],false,false,[]⟩ 52835785)] 52833986) 52831286),
   (.ret (.tup [(.st 0x637574 52923617),(.loc 0x77686f6c65 52925724),(.loc 0x626f756e6473 52927832),(.sub (.sub (.loc 0x65 52930235) (.num 3 52930837) 52930238) (.num 1 52931740) 52930241)] 0 52923342) 52921242)]⟩
noncomputable def F689:Fn:=⟨0x5f6c61775f72656164,[(0x72756e,53014217),(0x6f706572616e64,53015726)],[],
  [(.ifs (.cmp .Is (.loc 0x6f706572616e64 53102114) (.non 53105422) 53102122) [(.ret (.non 53194519) 53192419)] [] ⟨590,4,591,19⟩),
   (.ifs (.cmp .Eq (.sub (.loc 0x6f706572616e64 53282114) (.num 0 53284516) 53282117) (.st 0x726567 53286326) 53282126) [(.ret (.mcall (.sub (.loc 0x72756e 53374518) (.st 0x63656c6c73 53375726) 53374527) 0x676574 [(.sub (.loc 0x6f706572616e64 53379639) (.num 1 53382041) 53379642),(.st 0x696c6c 53383249)] 53374531 53374550) 53372450)] [] ⟨592,4,593,50⟩),
   (.ret (.ite (.cmp .Eq (.sub (.loc 0x6f706572616e64 53467532) (.num 1 53469934) 53467535) (.glob 0x5f6c61775f626f6f6c (.tup [.str 0x626f6f6c]) 53471748) 53467548) (.sub (.loc 0x6f706572616e64 53463318) (.num 2 53465720) 53463321) (.tup [(.st 0x746f6c64 53476561),(.sub (.loc 0x6f706572616e64 53478970) (.num 2 53481372) 53478973)] 0 53476274) 53463374) 53461274)]⟩
noncomputable def F694:Fn:=⟨0x5f6c61775f646f6e65,[(0x72756e,53554217),(0x726f77,53555722)],[],
  [(.assign (.name 0x6f70 53641206) (.sub (.loc 0x726f77 53642712) (.num 0 53643914) 53642715) 53641215),
   (.ifs (.cmp .Eq (.loc 0x6f70 53732109) (.st 0x63616c6c 53733919) 53732119) [(.ret (.call (.glob 0x5f6c61775f63616c6c6564 (.fn 677) 53824526) [(.sub (.loc 0x72756e 53828130) (.st 0x6d61726b73 53829338) 53828139),(.sub (.sub (.sub (.loc 0x726f77 53832344) (.num 3 53833546) 53832347) (.num 0 53834449) 53832350) (.num 2 53835352) 53832353),(.sub (.sub (.loc 0x72756e 53836558) (.st 0x7479706573 53837766) 53836567) (.sub (.sub (.loc 0x726f77 53840471) (.num 1 53841673) 53840474) (.num 0 53842576) 53840477) 53836578)] 53824579) 53822479)] [] ⟨597,4,598,79⟩),
   (.ifs (.cmp .Eq (.loc 0x6f70 53912109) (.st 0x6d616b65736c696365 53913924) 53912124) [(.expr (.mcall (.sub (.loc 0x72756e 54002411) (.st 0x726f7773 54003618) 54002419) 0x617070656e64 [(.bin .Mult (.lst true [(.non 54008432)] 54008133) (.sub (.sub (.loc 0x726f77 54010839) (.num 3 54012041) 54010842) (.num 2 54012944) 54010845) 54008145)] 54002426 54002446) 54002446),
   (.ret (.tup [(.st 0x6d616465 54094822),(.bin .Sub (.call (.glob 0x6c656e (.bi .len) 54097227) [(.sub (.loc 0x72756e 54098431) (.st 0x726f7773 54099638) 54098439)] 54097240) (.num 1 54102944) 54097244)] 0 54094545) 54092445)] [] ⟨599,4,601,45⟩),
   (.ifs (.cmp .Eq (.loc 0x6f70 54182109) (.st 0x62696e617279 54183921) 54182121) [(.assign (.tup [(0x6f6e65,54272411),(0x6f74686572,54273918)] 0 54272418) (.tup [(.call (.glob 0x5f6c61775f72656164 (.fn 689) 54276631) [(.loc 0x72756e 54279635),(.sub (.loc 0x726f77 54281140) (.num 3 54282342) 54281143)] 54276644),(.call (.glob 0x5f6c61775f72656164 (.fn 689) 54283855) [(.loc 0x72756e 54286859),(.sub (.loc 0x726f77 54288364) (.num 4 54289566) 54288367)] 54283868)] 0 54276369) 54272469),
   (.ret (.ite (.bop .And [(.cmp .Eq (.sub (.loc 0x726f77 54367227) (.num 2 54368429) 54367230) (.st 0x3d3d 54370238) 54367238),(.cmp .Eq (.loc 0x6f74686572 54372948) (.tup [(.st 0x746f6c64 54375959),(.non 54378365)] 0 54375666) 54372966)] 54367266) (.tru false 54364520) (.tup [(.sub (.loc 0x726f77 54381976) (.num 2 54383178) 54381979),(.loc 0x6f6e65 54384384),(.loc 0x6f74686572 54385891),(.sub (.loc 0x726f77 54387996) (.num 5 54389198) 54387999)] 0 54381700) 54364600) 54362500)] [] ⟨602,4,604,100⟩),
   (.ifs (.cmp .Eq (.loc 0x6f70 54452109) (.st 0x656c656d707472 54453922) 54452122) [(.ret (.tup [(.st 0x73706f74 54544822),(.sub (.call (.glob 0x5f6c61775f72656164 (.fn 689) 54547233) [(.loc 0x72756e 54550237),(.sub (.loc 0x726f77 54551742) (.num 2 54552944) 54551745)] 54547246) (.num 1 54554148) 54547249),(.sub (.sub (.loc 0x726f77 54555354) (.num 3 54556556) 54555357) (.num 2 54557459) 54555360)] 0 54544561) 54542461)] [] ⟨605,4,606,61⟩),
   (.ifs (.cmp .Eq (.loc 0x6f70 54632109) (.st 0x637574 54633918) 54632118) [(.ret (.tup [(.st 0x637574 54724821),(.call (.glob 0x5f6c61775f73686f776e (.fn 701) 54726933) [(.loc 0x72756e 54730237),(.call (.glob 0x5f6c61775f72656164 (.fn 689) 54731748) [(.loc 0x72756e 54734752),(.sub (.loc 0x726f77 54736257) (.num 2 54737459) 54736260)] 54731761)] 54726962),(.call (.glob 0x7475706c65 (.bi .tuple) 54739269) [(.comp (.call (.glob 0x5f6c61775f72656164 (.fn 689) 54741380) [(.loc 0x72756e 54744384),(.loc 0x6f6e65 54745889)] 54741390) [(0x6f6e65,54748598)] none (.slc (.loc 0x726f77 54750705) (some (3,54751907)) (some (6,54752509)) 54751909 54750710) ⟨.function,[(dec 0x2e30,.local),(dec 0x6f6e65,.local),(dec 0x5f6c61775f72656164,.globalImplicit),(dec 0x72756e,.free)],false,false,[]⟩ 54741111)] 54739312),(.sub (.loc 0x726f77 54754317) (.num 6 54755519) 54754320)] 0 54724621) 54722521)] [] ⟨607,4,608,121⟩),
   (.assign (.name 0x736f6d65 54811208) (.call (.glob 0x5f6c61775f72656164 (.fn 689) 54813320) [(.loc 0x72756e 54816324),(.ite (.cmp .In (.loc 0x6f70 54820838) (.lst true [(.st 0x756e617279 54822950),(.st 0x617373657274 54825660)] 54822661) 54820861) (.sub (.loc 0x726f77 54817829) (.num 3 54819031) 54817832) (.sub (.loc 0x726f77 54830170) (.num 2 54831372) 54830173) 54817873)] 54813374) 54811274),
   (.ifs (.cmp .Eq (.loc 0x6f70 54902109) (.st 0x756e617279 54903920) 54902120) [(.ret (.not (.loc 0x736f6d65 54995723) 54994523) 54992423)] [] ⟨610,4,611,23⟩),
   (.ifs (.cmp .Eq (.loc 0x6f70 55082109) (.st 0x617373657274 55083921) 55082121) [(.ret (.tup [(.st 0x617373657274 55174824),(.loc 0x736f6d65 55177830),(.sub (.loc 0x726f77 55179635) (.num 4 55180837) 55179638),(.sub (.loc 0x726f77 55182043) (.num 5 55183245) 55182046)] 0 55174547) 55172447)] [] ⟨612,4,613,47⟩),
   (.ret (.sub (.dct true [(.st 0x6d6f7665 55263618),(.st 0x6c6f6164 55267832),(.st 0x636f6e76657274 55275059),(.st 0x66616365 55287096)] [(.loc 0x736f6d65 55266024),(.tup [(.st 0x6c6f6164 55270541),(.loc 0x736f6d65 55272947)] 0 55270248),(.bin .Add (.tup [(.st 0x636f6e76657274 55278671),(.loc 0x736f6d65 55281977)] 0 55278378) (.slc (.loc 0x726f77 55284384) (some (3,55285586)) none 55285587 55284388) 55278388),(.bin .Add (.tup [(.st 0x66616365 55289805),(.loc 0x736f6d65 55292211)] 0 55289512) (.slc (.loc 0x726f77 55294618) (some (3,55295820)) none 55295821 55294622) 55289522)] 55263423) (.loc 0x6f70 55297326) 55263427) 55261327)]⟩
noncomputable def F701:Fn:=⟨0x5f6c61775f73686f776e,[(0x72756e,55354518),(0x76616c7565,55356025)],[],
  [(.ret (.ite (.bop .And [(.call (.glob 0x6973696e7374616e6365 (.bi .isinst) 55455662) [(.loc 0x76616c7565 55458968),(.glob 0x7475706c65 (.bi .tuple) 55461075)] 55455676),(.cmp .Eq (.sub (.loc 0x76616c7565 55464386) (.num 0 55466188) 55464389) (.st 0x6d616465 55467999) 55464399)] 55455699) (.tup [(.st 0x726f77 55443617),(.call (.glob 0x7475706c65 (.bi .tuple) 55445724) [(.sub (.sub (.loc 0x72756e 55447528) (.st 0x726f7773 55448735) 55447536) (.sub (.loc 0x76616c7565 55451142) (.num 1 55452944) 55451145) 55447546)] 55445747)] 0 55443348) (.loc 0x76616c7565 55471610) 55443410) 55441310)]⟩
noncomputable def F706:Fn:=⟨0x5f6c61775f77616c6b6564,[(0x7374617465,55534821),(0x636f6465,55536927)],[],
  [(.assign (.cel 0x72756e 55621207) (.dct true [(.st 0x63656c6c73 55623318),(.st 0x6d61726b73 55641077),(.st 0x726f7773 55644989),(.st 0x7479706573 55648602)] [(.dct false [(.num 0 55626322),(.num 1 55631138),(.num 2 55635954)] [(.tup [(.st 0x68656c64 55627531),(.num 0 55629934)] 0 55627235),(.tup [(.st 0x68656c64 55632347),(.num 1 55634750)] 0 55632051),(.tup [(.st 0x68656c64 55637163),(.num 2 55639566)] 0 55636867)] 55626068),(.lst false [] 55643781),(.lst false [] 55647393),(.attr (.loc 0x636f6465 55651308) 0x726567697374657273 55651318)] 55623119) 55621319),
   (.assign (.name 0x68657265 55711208) (.num 0 55713312) 55711212),
   (.for_ [(0x7475726e,55802412)] none (.call (.glob 0x72616e6765 (.bi .range) 55804821) [(.num 90 55806624)] 55804825) [(.for_ [(0x726f77,55893615)] none (.mcall (.loc 0x636f6465 55895723) 0x696e737472756374696f6e73 [(.loc 0x68657265 55901141)] 55895736 55895742) [(.ifs (.cmp .Eq (.sub (.loc 0x726f77 55984518) (.num 0 55985720) 55984521) (.st 0x73746f7265 55987532) 55984532) [(.assign (.name 0x73706f74 56074820) (.call (.glob 0x5f6c61775f72656164 (.fn 689) 56076932) [(.loc 0x72756e 56079936),(.sub (.loc 0x726f77 56081441) (.num 1 56082643) 56081444)] 56076945) 56074845),
   (.assign (.sub (.sub (.sub (.loc 0x72756e 56164819) (.st 0x726f7773 56166026) 56164827) (.sub (.loc 0x73706f74 56168432) (.num 1 56169934) 56168435) 56164836) (.sub (.loc 0x73706f74 56171141) (.num 2 56172643) 56171144) 56164845) (.call (.glob 0x5f6c61775f72656164 (.fn 689) 56174457) [(.loc 0x72756e 56177461),(.sub (.loc 0x726f77 56178966) (.num 2 56180168) 56178969)] 56174470) 56164870)] [(.assign (.name 0x76616c7565 56344821) (.call (.glob 0x5f6c61775f646f6e65 (.fn 694) 56347233) [(.loc 0x72756e 56350237),(.loc 0x726f77 56351742)] 56347243) 56344843),
   (.assign (.sub (.sub (.loc 0x72756e 56434819) (.st 0x63656c6c73 56436027) 56434828) (.ite (.cmp .Eq (.sub (.loc 0x726f77 56442645) (.num 0 56443847) 56442648) (.st 0x63616c6c 56445658) 56442658) (.sub (.sub (.loc 0x726f77 56438732) (.num 1 56439934) 56438735) (.num 0 56440837) 56438738) (.sub (.loc 0x726f77 56449267) (.num 1 56450469) 56449270) 56438770) 56434871) (.loc 0x76616c7565 56452279) 56434879),
   (.ifs (.bop .And [(.cmp .Eq (.sub (.loc 0x726f77 56525722) (.num 0 56526924) 56525725) (.st 0x617373657274 56528737) 56525737),(.cmp .IsNot (.sub (.loc 0x726f77 56532645) (.num 2 56533847) 56532648) (.non 56536860) 56532660)] 56525760) [(.assign (.sub (.sub (.loc 0x72756e 56616023) (.st 0x63656c6c73 56617231) 56616032) (.sub (.loc 0x726f77 56619936) (.num 2 56621138) 56619939) 56616040) (.tup [(.st 0x7472757468 56623251),(.loc 0x76616c7565 56625958)] 0 56622959) 56616059)] [] ⟨628,16,629,59⟩)] ⟨622,12,629,59⟩)] ⟨621,8,629,59⟩),
   (.assign (.name 0x656e64 56702411) (.mcall (.loc 0x636f6465 56704218) 0x7465726d696e61746f72 [(.loc 0x68657265 56709034)] 56704229 56704235) 56702435),
   (.ifs (.cmp .Eq (.sub (.loc 0x656e64 56793314) (.num 0 56794516) 56793317) (.st 0x72657475726e 56796329) 56793329) [(.ret (.tup [(.comp (.call (.glob 0x5f6c61775f73686f776e (.fn 701) 56886331) [(.loc 0x72756e 56889635),(.call (.glob 0x5f6c61775f72656164 (.fn 689) 56891146) [(.loc 0x72756e 56894150),(.loc 0x6f6e65 56895655)] 56891156)] 56886357) [(0x6f6e65,56898665)] none (.sub (.loc 0x656e64 56900772) (.num 1 56901974) 56900775) ⟨.function,[(dec 0x2e30,.local),(dec 0x6f6e65,.local),(dec 0x5f6c61775f73686f776e,.globalImplicit),(dec 0x5f6c61775f72656164,.globalImplicit),(dec 0x72756e,.free)],false,false,[]⟩ 56886076),(.sub (.loc 0x72756e 56903481) (.st 0x6d61726b73 56904689) 56903490)] 0 56885791) 56883691)] [] ⟨631,8,632,91⟩),
   (.assign (.name 0x68657265 56972412) (.ite (.cmp .Eq (.sub (.loc 0x656e64 56977528) (.num 0 56978730) 56977531) (.st 0x6a756d70 56980541) 56977541) (.sub (.loc 0x656e64 56974518) (.num 1 56975720) 56974521) (.ite (.cmp .Is (.call (.glob 0x5f6c61775f72656164 (.fn 689) 56987166) [(.loc 0x72756e 56990170),(.sub (.loc 0x656e64 56991675) (.num 1 56992877) 56991678)] 56987179) (.tru true 56994987) 56987187) (.sub (.loc 0x656e64 56984150) (.num 2 56985352) 56984153) (.sub (.loc 0x656e64 56997996) (.num 3 56999198) 56997999) 56984199) 56974599) 56972499)] ⟨620,4,633,99⟩),
   (.ret (.non 57063315) 57061215)]⟩
noncomputable def F713:Fn:=⟨0x5f6c61775f69735f7269676874,[(0x65,57155419)],[],
  [(.assign (.name 0x726f7773 57241208) (.lst true [(.tup [(.st 0x73 57243916),(.glob 0x5f6c61775f736c696365 (.tup [.str 0x736c696365,.tup [.str 0x696e74,.str 0x696e74]]) 57245428)] 0 57243629),(.tup [(.st 0x76 57249635),(.glob 0x5f6c61775f696e74 (.tup [.str 0x696e74,.str 0x696e74]) 57251145)] 0 57249346),(.tup [(.st 0x72 57254752),(.glob 0x5f6c61775f6172726179 (.tup [.str 0x6172726179,.int 3,.tup [.str 0x696e74,.str 0x696e74]]) 57256264)] 0 57254465)] 57243366) 57241266),
   (.assign (.name 0x6b6e6f776e 57331209) (.dct true [(.st 0x76616c7565 57333920),(.st 0x76616c756573 57339640),(.st 0x61646472657373 57345962)] [(.glob 0x76616c75655f6f66 (.fn 206) 57336630),(.glob 0x76616c7565735f6f66 (.fn 213) 57342651),(.glob 0x616464726573735f6f66 (.fn 174) 57349274)] 57333675) 57331275),
   (.assign (.name 0x7374617465 57421209) (.call (.glob 0x4c6f7765725374617465 (.cls 534) 57423622) [(.call (.glob 0x576f726c64 (.cls 601) 57426928) [] 57426930),(.call (.glob 0x5479706564466e (.cls 290) 57429639) [(.st 0x6d61696e2e66 57432048),(.loc 0x726f7773 57435054),(.tup [] 0 57436858),(.tup [] 0 57438062),(.tup [] 0 57439266),(.tup [] 0 57440470),(.dct true [] [] 57441674)] 57429675),(.dct true [(.num 1 57443479),(.num 2 57446188)] [(.tru true 57444385),(.tru true 57447094)] 57443195),(.loc 0x6b6e6f776e 57449202)] 57423703) 57421303),
   (.for_ [(0x6c6f63616c,57512413)] none (.lst true [(.num 0 57515419),(.num 1 57516322),(.num 2 57517225)] 57515126) [(.expr (.mcall (.loc 0x7374617465 57602413) 0x74616b655f7265676973746572 [(.loc 0x6c6f63616c 57608433)] 57602427 57602434) 57602434)] ⟨639,4,640,34⟩),
   (.expr (.mcall (.loc 0x7374617465 57691209) 0x636c6f7365 [(.tup [(.st 0x72657475726e 57695125),(.call (.glob 0x7475706c65 (.bi .tuple) 57698132) [(.call (.glob 0x76616c7565735f6f66 (.fn 213) 57699942) [(.loc 0x7374617465 57702948),(.loc 0x65 57705051)] 57699952)] 57698153)] 0 57694854)] 57691215 57691255) 57691255),
   (.assign (.name 0x6d61726b73 57781209) (.lst false [] 57783614) 57781214),
   (.assign (.name 0x647565 57871207) (.lst false [(.call (.glob 0x5f6c61775f6d616465 (.fn 682) 57873320) [(.loc 0x6d61726b73 57876326),(.loc 0x65 57878429)] 57873330)] 57873031) 57871231),
   (.ifs (.bop .And [(.cmp .Eq (.sub (.loc 0x65 57962108) (.num 0 57962710) 57962111) (.st 0x617373657274 57964523) 57962123),(.sub (.loc 0x65 57968429) (.neg (.num 1 57969332) 57969032) 57968433)] 57962133) [(.expr (.mcall (.loc 0x647565 58052411) 0x617070656e64 [(.tup [(.st 0x7472757468 58056027),(.sub (.loc 0x647565 58058732) (.num 0 58059934) 58058735)] 0 58055736)] 58052418 58052437) 58052437)] [] ⟨644,4,645,37⟩),
   (.ret (.cmp .Eq (.call (.glob 0x5f6c61775f77616c6b6564 (.fn 706) 58143322) [(.loc 0x7374617465 58146928),(.mcall (.loc 0x7374617465 58149035) 0x66696e6973686564 [] 58149044 58149046)] 58143347) (.tup [(.loc 0x647565 58155655),(.loc 0x6d61726b73 58157162)] 0 58155363) 58143363) 58141263)]⟩
noncomputable def F718:Fn:=⟨0x6c6177,[(0x736372697074,58232414)],[],
  [(.assign (.name 0x736f75726365 58321210) (.call (.glob 0x5f6c61775f706f6f6c (.fn 621) 58323922) [(.loc 0x736372697074 58326929)] 58323930) 58321230),
   (.assign (.name 0x747275746873 58411210) (.comp (.tup [(.st 0x63616c6c 58414521),(.glob 0x5f6c61775f626f6f6c (.tup [.str 0x626f6f6c]) 58416932),(.num 0 58420235),(.tup [(.st 0x666e 58421442),(.st 0x6d61696e2e6d61726b 58423255)] 0 58421156),(.tup [(.tup [(.st 0x636f6e7374 58428067),(.glob 0x5f6c61775f696e74 (.tup [.str 0x696e74,.str 0x696e74]) 58430777),(.num 0 58433780),(.loc 0x6e756d626572 58434688)] 0 58427789)] 0 58427491)] 0 58414292) [(0x6e756d626572,58439203)] none (.lst true [(.num 1 58442509),(.num 2 58443412)] 58442213) ⟨.function,[(dec 0x2e30,.local),(dec 0x6e756d626572,.local),(dec 0x5f6c61775f626f6f6c,.globalImplicit),(dec 0x5f6c61775f696e74,.globalImplicit)],false,false,[]⟩ 58414014) 58411314),
   (.for_ [(0x776f7264,58502412)] none (.lst true [(.st 0x2626 58505121),(.st 0x7c7c 58506927)] 58504828) [(.ifs (.not (.call (.glob 0x5f6c61775f69735f7269676874 (.fn 713) 58594528) [(.tup [(.st 0x6c617a79 58599036),(.glob 0x5f6c61775f626f6f6c (.tup [.str 0x626f6f6c]) 58601447),(.num 0 58604750),(.loc 0x776f7264 58605656),(.sub (.loc 0x747275746873 58607464) (.num 0 58609566) 58607467),(.sub (.loc 0x747275746873 58610775) (.num 1 58612877) 58610778)] 0 58598779)] 58594580) 58593380) [(.ret (.tru false 58685724) 58683624)] [] ⟨651,8,652,24⟩),
   (.ifs (.not (.call (.glob 0x5f6c61775f69735f7269676874 (.fn 713) 58774528) [(.tup [(.st 0x6c617a79 58779036),(.glob 0x5f6c61775f626f6f6c (.tup [.str 0x626f6f6c]) 58781447),(.num 0 58784750),(.loc 0x776f7264 58785656),(.sub (.loc 0x747275746873 58787464) (.num 1 58789566) 58787467),(.sub (.loc 0x747275746873 58790775) (.num 0 58792877) 58790778)] 0 58778779)] 58774580) 58773380) [(.ret (.tru false 58865724) 58863624)] [] ⟨653,8,654,24⟩)] ⟨650,4,654,24⟩),
   (.assign (.name 0x61736b6564 58951209) (.tup [(.st 0x617373657274 58953921),(.tup [(.st 0x7475706c65 58957231),(.tup [(.glob 0x5f6c61775f696e74 (.tup [.str 0x696e74,.str 0x696e74]) 58960242),(.glob 0x5f6c61775f626f6f6c (.tup [.str 0x626f6f6c]) 58963253)] 0 58959954)] 0 58956955),(.num 0 58967158),(.tup [(.st 0x66616365 58968367),(.glob 0x5f6c61775f616e79 (.tup [.str 0x696e74657266616365,.tup []]) 58970777),(.num 0 58973780),(.call (.glob 0x5f6c61775f6e756d626572 (.fn 649) 58974693) [(.loc 0x736f75726365 58978300),(.num 2 58980703)] 58974704)] 0 58968105),(.glob 0x5f6c61775f696e74 (.tup [.str 0x696e74,.str 0x696e74]) 58982215),(.tru true 58985221)] 0 58953722) 58951322),
   (.for_ [(0x65,59042409)] none (.lst true [(.call (.glob 0x5f6c61775f6e756d626572 (.fn 649) 59044225) [(.loc 0x736f75726365 59047832),(.num 3 59050235)] 59044236),(.call (.glob 0x5f6c61775f726f77 (.fn 663) 59051446) [(.loc 0x736f75726365 59054153),(.num 3 59056556)] 59051457),(.call (.glob 0x5f6c61775f7472757468 (.fn 670) 59057769) [(.loc 0x736f75726365 59061076),(.num 3 59063479)] 59057780),(.loc 0x61736b6564 59064687)] 59043988) [(.ifs (.not (.call (.glob 0x5f6c61775f69735f7269676874 (.fn 713) 59134528) [(.loc 0x65 59138730)] 59134531) 59133331) [(.ret (.tru false 59225724) 59223624)] [] ⟨657,8,658,24⟩)] ⟨656,4,658,24⟩),
   (.ret (.tru true 59313315) 59311215)]⟩
noncomputable def lkN {α:Type}:List (Nat × α)→Nat→Option α
  | [],_=>none
  | (k,v) :: r,n=>cond (Nat.beq k n) (some v) (lkN r n)
noncomputable def lkM:List (Nat × Nat × Nat)→Nat→Nat→Option Nat
  | [],_,_=>none
  | (c,k,a) :: r,C,n=>cond (Nat.beq c C && Nat.beq k n) (some a) (lkM r C n)
noncomputable def lkA:List (Nat × Nat)→Nat→Nat→Bool
  | [],_,_=>false
  | (c,k) :: r,C,n=>(Nat.beq c C && Nat.beq k n) || lkA r C n
noncomputable def attrL:List (Nat × Nat):=[(290,0x626f6479),(290,0x6361707475726564),(290,0x6b6579),(290,0x6c69746572616c73),(290,0x6c6f63616c73),(290,0x706172616d73),(290,0x726573756c7473),(331,0x626c6f636b73),(331,0x6361707475726564),(331,0x6b6579),(331,0x706172616d73),(331,0x7265636f76657279),(331,0x726567697374657273),(331,0x726573756c7473),(534,0x626f786564),(534,0x636f6465),(534,0x6861735f646566657273),(534,0x68656c64),(534,0x68657265),(534,0x6b6e6f776e),(534,0x6c6f6f7073),(534,0x7369746573),(534,0x73706f74),(534,0x74797065645f666e),(534,0x776f726c64),(558,0x6d6574686f6473),(558,0x7061636b616765),(558,0x70617468),(558,0x756e6465726c79696e67),(601,0x626f64696573),(601,0x636f6e737473),(601,0x66696c6573),(601,0x66756e6373),(601,0x676c6f62616c73),(601,0x69735f77686f6c65),(601,0x6c6174655f6b657973),(601,0x6e616d6564),(601,0x6f72646572),(601,0x7061636b61676573),(601,0x73636f706573),(601,0x736574746c65),(601,0x737461727473)]
noncomputable def methL:List (Nat × Nat × Nat):=[(331,0x696e737472756374696f6e73,316),(331,0x7465726d696e61746f72,323),(331,0x726f77,328),(534,0x6e65775f7265676973746572,384),(534,0x6e65775f626c6f636b,391),(534,0x707574,398),(534,0x6672657368,405),(534,0x636c6f7365,412),(534,0x656e64,419),(534,0x676f,426),(534,0x6e6578745f73697465,433),(534,0x747970655f6f665f6c6f63616c,440),(534,0x69735f626f786564,447),(534,0x74616b655f7265676973746572,454),(534,0x626567696e5f6c6f63616c,461),(534,0x706f696e7465725f6f66,468),(534,0x6c6f63616c5f76616c7565,475),(534,0x7365745f6c6f63616c,482),(534,0x6b657074,489),(534,0x7a65726f5f6f706572616e64,496),(534,0x76616c7565,503),(534,0x76616c756573,510),(534,0x61646472657373,517),(534,0x626c6f636b,524),(534,0x66696e6973686564,531),(601,0x626173655f6f66,591),(601,0x736574746c6564,598)]
noncomputable def initL:List (Nat × Nat):=[(290,287),(331,309),(534,377),(558,555),(601,584)]
noncomputable def funL:List (Nat × Fn):=[(74,F74),(79,F79),(89,F89),(96,F96),(101,F101),(146,F146),(153,F153),(160,F160),(167,F167),(174,F174),(195,F195),(206,F206),(213,F213),(218,F218),(225,F225),(237,F237),(244,F244),(251,F251),(256,F256),(263,F263),(268,F268),(287,F287),(309,F309),(316,F316),(323,F323),(342,F342),(349,F349),(356,F356),(363,F363),(377,F377),(384,F384),(391,F391),(398,F398),(405,F405),(412,F412),(426,F426),(433,F433),(440,F440),(447,F447),(454,F454),(468,F468),(475,F475),(489,F489),(496,F496),(503,F503),(517,F517),(531,F531),(555,F555),(569,F569),(584,F584),(591,F591),(621,F621),(628,F628),(635,F635),(642,F642),(649,F649),(656,F656),(663,F663),(670,F670),(677,F677),(682,F682),(689,F689),(694,F694),(701,F701),(706,F706),(713,F713),(718,F718)]
noncomputable def FT:Nat→Option Fn:=lkN funL
noncomputable def TB:Tab:=⟨lkN initL,lkM methL,lkA attrL⟩
end Internal
namespace Internal.Pl
open PySem
variable {T:Tab} {C:Cl} {m:M} {σ:S} {p:Nat}
noncomputable def kLoc (o:Option V) (σ:S):Rs:=o.map (·,σ)
theorem kLoc_some {v:V}:kLoc (some v) σ=some (v,σ):=rfl
noncomputable def kBin2 (op:Operator) (v:V) (q:V × S):Rs:=binop op v q.1 q.2
noncomputable def kBin (T:Tab) (C:Cl) (op:Operator) (b:X) (m:M) (r:V × S):Rs:=(ev T C b m r.2).bind (kBin2 op r.1)
noncomputable def kNeg (r:V × S):Rs:=match r.1 with | .int i=>some (.int (-i),r.2) | _=>none
noncomputable def kNot (r:V × S):Rs:=(truthy r.1).map fun b=>(.bool (!b),r.2)
noncomputable def kIte (T:Tab) (C:Cl) (a b:X) (m:M) (r:Bool × S):Rs:=match r.1 with | true=>ev T C a m r.2 | false=>ev T C b m r.2
noncomputable def kCmp3 (σ:S) (z:Bool):V × S:=(.bool z,σ)
noncomputable def kCmp2 (op:CmpOp) (v:V) (q:V × S):Rs:=(cmpop op v q.1 q.2).map (kCmp3 q.2)
noncomputable def kCmp (T:Tab) (C:Cl) (op:CmpOp) (b:X) (m:M) (r:V × S):Rs:=(ev T C b m r.2).bind (kCmp2 op r.1)
noncomputable def kCall2 (T:Tab) (C:Cl) (f:V) (q:List V × S):Rs:=callV T C f q.1 q.2
noncomputable def kCall (T:Tab) (C:Cl) (args:List X) (m:M) (r:V × S):Rs:=(evs T C args m r.2).bind (kCall2 T C r.1)
noncomputable def kMc3 (C:Cl) (o:V) (n:Nat) (a:Option Nat) (q:List V × S):Rs:=methV C o n a q.1 q.2
noncomputable def kMc2 (T:Tab) (C:Cl) (o:V) (n:Nat) (args:List X) (m:M) (σ:S) (a:Option Nat):Rs:=(evs T C args m σ).bind (kMc3 C o n a)
noncomputable def kMc (T:Tab) (C:Cl) (n:Nat) (args:List X) (m:M) (r:V × S):Rs:=(methOk T r.1 n r.2).bind (kMc2 T C r.1 n args m r.2)
noncomputable def kAttr (T:Tab) (n:Nat) (r:V × S):Rs:=getAttr T r.1 n r.2
noncomputable def kSub2 (o:V) (q:V × S):Rs:=getItem o q.1 q.2
noncomputable def kSub (T:Tab) (C:Cl) (i:X) (m:M) (r:V × S):Rs:=(ev T C i m r.2).bind (kSub2 r.1)
noncomputable def kSlc (lo hi:Option (Int × Nat)) (r:V × S):Rs:=cutV r.1 lo hi r.2
noncomputable def kRev (r:V × S):Rs:=revV r.1 r.2
noncomputable def kTup (r:List V × S):V × S:=(.tup r.1,r.2)
noncomputable def kLst (frz:Bool) (r:List V × S):V × S:=match frz with | true=>(.lst r.1,r.2) | false=>(.loc r.2.length,r.2++[.list r.1])
noncomputable def kDct (frz:Bool) (ks:List X) (r:List V × S):Rs:=match evk ks,evki ks with
    | some ks',_=>if frz && ks'.length=r.1.length then some (.dct ks' r.1,r.2) else if ks'.isEmpty && r.1.isEmpty then some (.loc r.2.length,r.2++[.dict []]) else none
    | none,some ks'=>if ks'.length=r.1.length then (match frz with | true=>some (.dcti ks' r.1,r.2) | false=>some (.loc r.2.length,r.2++[.dict (ks'.zip r.1)])) else none
    | none,none=>none
noncomputable def kComp0 (T:Tab) (C:Cl) (e:X) (m:M) (σ:S):Option M→Rs
  | some m'=>ev T C e m' σ
  | none=>none
noncomputable def kCompF (T:Tab) (C:Cl) (e:X) (t:List (Nat × Nat)) (tp:Option (Nat × Nat)) (m:M) (v:V) (σ:S):Rs:=kComp0 T C e m σ (bindT t tp v m)
noncomputable def kComp3 (z:List V × S):V × S:=(.lst z.1,z.2)
noncomputable def kComp2 (T:Tab) (C:Cl) (e:X) (t:List (Nat × Nat)) (tp:Option (Nat × Nat)) (m:M) (σ:S) (vs:List V):Rs:=(compL (kCompF T C e t tp m) vs σ).map kComp3
noncomputable def kComp (T:Tab) (C:Cl) (e:X) (t:List (Nat × Nat)) (tp:Option (Nat × Nat)) (m:M) (r:V × S):Rs:=(itemsC r.1).bind (kComp2 T C e t tp m r.2)
noncomputable def kLam (σ:S) (v:V):Rs:=match v with | .loc l=>(match (σ[0]? : Option O) with | some (.code _)=>some (.lam l,σ.set 0 (.code true)) | _=>none) | _=>none
noncomputable def kEvs2 (v:V) (z:List V × S):List V × S:=(v :: z.1,z.2)
noncomputable def kEvs (T:Tab) (C:Cl) (r:List X) (m:M) (a:V × S):Option (List V × S):=(evs T C r m a.2).map (kEvs2 a.1)
theorem e_num {i:Int}:ev T C (.num i p) m σ=some (.int i,σ):=rfl
theorem e_st {n:Nat}:ev T C (.st n p) m σ=some (.str n,σ):=rfl
theorem e_tru {b:Bool}:ev T C (.tru b p) m σ=some (.bool b,σ):=rfl
theorem e_non:ev T C (.non p) m σ=some (.none,σ):=rfl
theorem e_loc {n:Nat}:ev T C (.loc n p) m σ=kLoc (look m n) σ:=rfl
theorem e_glob {n:Nat} {v:V}:ev T C (.glob n v p) m σ=some (v,σ):=rfl
theorem e_bin {op:Operator} {a b:X}:ev T C (.bin op a b p) m σ=(ev T C a m σ).bind (kBin T C op b m):=rfl
theorem k_bin {op:Operator} {b:X} {v:V}:kBin T C op b m (v,σ)=(ev T C b m σ).bind (kBin2 op v):=rfl
theorem k_bin2 {op:Operator} {v w:V}:kBin2 op v (w,σ)=binop op v w σ:=rfl
theorem e_neg {a:X}:ev T C (.neg a p) m σ=(ev T C a m σ).bind kNeg:=by
  show Option.bind _ _=Option.bind _ _
  congr 1
theorem k_neg {i:Int}:kNeg (.int i,σ)=some (.int (-i),σ):=rfl
theorem e_not {a:X}:ev T C (.not a p) m σ=(ev T C a m σ).bind kNot:=rfl
theorem k_not {b:Bool}:kNot (.bool b,σ)=some (.bool (!b),σ):=rfl
theorem e_ite {t a b:X}:ev T C (.ite t a b p) m σ=(evT T C t m σ).bind (kIte T C a b m):=by
  show Option.bind _ _=Option.bind _ _
  congr 1
theorem k_ite_t {a b:X}:kIte T C a b m (true,σ)=ev T C a m σ:=rfl
theorem k_ite_f {a b:X}:kIte T C a b m (false,σ)=ev T C b m σ:=rfl
theorem e_cmp {op:CmpOp} {a b:X}:ev T C (.cmp op a b p) m σ=(ev T C a m σ).bind (kCmp T C op b m):=rfl
theorem k_cmp {op:CmpOp} {b:X} {v:V}:kCmp T C op b m (v,σ)=(ev T C b m σ).bind (kCmp2 op v):=rfl
theorem k_cmp2 {op:CmpOp} {v w:V}:kCmp2 op v (w,σ)=(cmpop op v w σ).map (kCmp3 σ):=rfl
theorem k_cmp3 {z:Bool}:kCmp3 σ z=(.bool z,σ):=rfl
theorem e_call {f:X} {args:List X}:ev T C (.call f args p) m σ=(ev T C f m σ).bind (kCall T C args m):=rfl
theorem k_call {args:List X} {f:V}:kCall T C args m (f,σ)=(evs T C args m σ).bind (kCall2 T C f):=rfl
theorem k_call2 {vs:List V} {f:V}:kCall2 T C f (vs,σ)=callV T C f vs σ:=rfl
theorem e_mcall {o:X} {n:Nat} {args:List X} {ap:Nat}:ev T C (.mcall o n args ap p) m σ=(ev T C o m σ).bind (kMc T C n args m):=rfl
theorem k_mc {o:V} {n:Nat} {args:List X}:kMc T C n args m (o,σ)=(methOk T o n σ).bind (kMc2 T C o n args m σ):=rfl
theorem k_mc2 {o:V} {n:Nat} {args:List X} {a:Option Nat}:kMc2 T C o n args m σ a=(evs T C args m σ).bind (kMc3 C o n a):=rfl
theorem k_mc3 {o:V} {n:Nat} {vs:List V} {a:Option Nat}:kMc3 C o n a (vs,σ)=methV C o n a vs σ:=rfl
theorem e_attr {o:X} {n:Nat}:ev T C (.attr o n p) m σ=(ev T C o m σ).bind (kAttr T n):=rfl
theorem k_attr {o:V} {n:Nat}:kAttr T n (o,σ)=getAttr T o n σ:=rfl
theorem e_sub {o i:X}:ev T C (.sub o i p) m σ=(ev T C o m σ).bind (kSub T C i m):=rfl
theorem k_sub {o:V} {i:X}:kSub T C i m (o,σ)=(ev T C i m σ).bind (kSub2 o):=rfl
theorem k_sub2 {o i:V}:kSub2 o (i,σ)=getItem o i σ:=rfl
theorem e_slc {o:X} {lo hi:Option (Int × Nat)} {sp:Nat}:ev T C (.slc o lo hi sp p) m σ=(ev T C o m σ).bind (kSlc lo hi):=rfl
theorem k_slc {o:V} {lo hi:Option (Int × Nat)}:kSlc lo hi (o,σ)=cutV o lo hi σ:=rfl
theorem e_rev {o:X} {p1 p2 sp:Nat}:ev T C (.rev o p1 p2 sp p) m σ=(ev T C o m σ).bind kRev:=rfl
theorem k_rev {o:V}:kRev (o,σ)=revV o σ:=rfl
theorem e_tup {xs:List X} {k:Nat}:ev T C (.tup xs k p) m σ=(evs T C xs m σ).map kTup:=rfl
theorem k_tup {vs:List V}:kTup (vs,σ)=(.tup vs,σ):=rfl
theorem e_lst {xs:List X} {frz:Bool}:ev T C (.lst frz xs p) m σ=(evs T C xs m σ).map (kLst frz):=by
  induction frz using Bool.casesOn <;> rfl
theorem k_lst_t {vs:List V}:kLst true (vs,σ)=(.lst vs,σ):=rfl
theorem k_lst_f {vs:List V}:kLst false (vs,σ)=(.loc σ.length,σ++[.list vs]):=rfl
theorem e_dct {ks vs:List X} {frz:Bool}:ev T C (.dct frz ks vs p) m σ=(evs T C vs m σ).bind (kDct frz ks):=rfl
theorem e_comp {e:X} {t:List (Nat × Nat)} {tp:Option (Nat × Nat)} {it:X} {sc:Scope} :
    ev T C (.comp e t tp it sc p) m σ=(ev T C it m σ).bind (kComp T C e t tp m):=by
  show Option.bind _ _=Option.bind _ _
  congr 1
  funext r
  show Option.bind _ _=Option.bind _ _
  congr 1
  funext vs
  show Option.map _ _=Option.map _ _
  congr 2
  funext v s
  simp only [kCompF]
  cases bindT t tp v m <;> rfl
theorem k_comp {e:X} {t:List (Nat × Nat)} {tp:Option (Nat × Nat)} {o:V}:kComp T C e t tp m (o,σ)=(itemsC o).bind (kComp2 T C e t tp m σ):=rfl
theorem k_comp2 {e:X} {t:List (Nat × Nat)} {tp:Option (Nat × Nat)} {vs:List V}:kComp2 T C e t tp m σ vs=(compL (kCompF T C e t tp m) vs σ).map kComp3:=rfl
theorem k_comp3 {vs:List V}:kComp3 (vs,σ)=(.lst vs,σ):=rfl
theorem k_comp1 {e:X} {n q:Nat} {v:V}:kCompF T C e [(n,q)] none m v σ=ev T C e (put m n v) σ:=rfl
theorem e_lam {an ap pl pp gp sp:Nat} {sc:Scope}:ev T C (.lam an ap pl pp gp sp sc p) m σ=(look m pl).bind (kLam σ):=rfl
theorem es_nil:evs T C [] m σ=some ([],σ):=rfl
theorem es_cons {x:X} {r:List X}:evs T C (x :: r) m σ=(ev T C x m σ).bind (kEvs T C r m):=rfl
theorem k_evs {v:V} {r:List X}:kEvs T C r m (v,σ)=(evs T C r m σ).map (kEvs2 v):=rfl
theorem k_evs2 {v:V} {vs:List V}:kEvs2 v (vs,σ)=(v :: vs,σ):=rfl
noncomputable def kL2 (v:V) (z:List V × S):List V × S:=(v :: z.1,z.2)
noncomputable def kL1 (f:V→S→Rs) (r:List V) (q:V × S):Option (List V × S):=(compL f r q.2).map (kL2 q.1)
theorem cl_nil {f:V→S→Rs}:compL f [] σ=some ([],σ):=rfl
theorem cl_cons {f:V→S→Rs} {v:V} {r:List V}:compL f (v :: r) σ=(f v σ).bind (kL1 f r):=rfl
theorem k_l1 {f:V→S→Rs} {v:V} {r:List V}:kL1 f r (v,σ)=(compL f r σ).map (kL2 v):=rfl
theorem k_l2 {v:V} {vs:List V}:kL2 v (vs,σ)=(v :: vs,σ):=rfl
noncomputable def kT (r:V × S):Option (Bool × S):=(truthy r.1).map fun b=>(b,r.2)
noncomputable def kTn (r:Bool × S):Bool × S:=(!r.1,r.2)
noncomputable def kTc3 (σ:S) (z:Bool):Bool × S:=(z,σ)
noncomputable def kTc2 (op:CmpOp) (v:V) (q:V × S):Option (Bool × S):=(cmpop op v q.1 q.2).map (kTc3 q.2)
noncomputable def kTc (T:Tab) (C:Cl) (op:CmpOp) (b:X) (m:M) (r:V × S):Option (Bool × S):=(ev T C b m r.2).bind (kTc2 op r.1)
noncomputable def kAnd (T:Tab) (C:Cl) (xs:List X) (m:M) (r:Bool × S):Option (Bool × S):=match r.1 with | false=>some (false,r.2) | true=>evTs T C .And xs m r.2
noncomputable def kOr (T:Tab) (C:Cl) (xs:List X) (m:M) (r:Bool × S):Option (Bool × S):=match r.1 with | true=>some (true,r.2) | false=>evTs T C .Or xs m r.2
theorem k_t {b:Bool}:kT (.bool b,σ)=some (b,σ):=rfl
theorem t_not {a:X}:evT T C (.not a p) m σ=(evT T C a m σ).map kTn:=rfl
theorem k_tn {b:Bool}:kTn (b,σ)=(!b,σ):=rfl
theorem t_bop {op:BoolOp} {xs:List X}:evT T C (.bop op xs p) m σ=evTs T C op xs m σ:=rfl
theorem t_cmp {op:CmpOp} {a b:X}:evT T C (.cmp op a b p) m σ=(ev T C a m σ).bind (kTc T C op b m):=rfl
theorem k_tc {op:CmpOp} {b:X} {v:V}:kTc T C op b m (v,σ)=(ev T C b m σ).bind (kTc2 op v):=rfl
theorem k_tc2 {op:CmpOp} {v w:V}:kTc2 op v (w,σ)=(cmpop op v w σ).map (kTc3 σ):=rfl
theorem k_tc3 {z:Bool}:kTc3 σ z=(z,σ):=rfl
theorem t_loc {n:Nat}:evT T C (.loc n p) m σ=(ev T C (.loc n p) m σ).bind kT:=by
  show (look m n).bind _=(Option.map _ (look m n)).bind _
  cases look m n <;> rfl
theorem bind3 {α β γ:Type} {x:Option α} {f:α→Option β} {g:β→Option γ}:(x.bind f).bind g=x.bind (fun a=>(f a).bind g):=by induction x using Option.casesOn <;> rfl
theorem t_call {f:X} {args:List X}:evT T C (.call f args p) m σ=(ev T C (.call f args p) m σ).bind kT:=by
  show Option.bind _ _=(Option.bind _ _).bind _
  rw [bind3]; congr 1; funext r; rw [bind3]; rfl
theorem t_mcall {o:X} {n:Nat} {args:List X} {ap:Nat}:evT T C (.mcall o n args ap p) m σ=(ev T C (.mcall o n args ap p) m σ).bind kT:=by
  show Option.bind _ _=(Option.bind _ _).bind _
  rw [bind3]; congr 1; funext r; rw [bind3]; congr 1; funext a; rw [bind3]; rfl
theorem t_attr {o:X} {n:Nat}:evT T C (.attr o n p) m σ=(ev T C (.attr o n p) m σ).bind kT:=by
  show Option.bind _ _=(Option.bind _ _).bind _
  rw [bind3]; rfl
theorem t_sub {o i:X}:evT T C (.sub o i p) m σ=(ev T C (.sub o i p) m σ).bind kT:=by
  show Option.bind _ _=(Option.bind _ _).bind _
  rw [bind3]; congr 1; funext r; rw [bind3]; rfl
theorem t_tru {b:Bool}:evT T C (.tru b p) m σ=some (b,σ):=rfl
theorem ts_and0:evTs T C .And [] m σ=some (true,σ):=rfl
theorem ts_or0:evTs T C .Or [] m σ=some (false,σ):=rfl
theorem ts_and {x:X} {r:List X}:evTs T C .And (x :: r) m σ=(evT T C x m σ).bind (kAnd T C r m):=by
  show Option.bind _ _=Option.bind _ _
  congr 1
theorem ts_or {x:X} {r:List X}:evTs T C .Or (x :: r) m σ=(evT T C x m σ).bind (kOr T C r m):=by
  show Option.bind _ _=Option.bind _ _
  congr 1
theorem k_and_t {r:List X}:kAnd T C r m (true,σ)=evTs T C .And r m σ:=rfl
theorem k_and_f {r:List X}:kAnd T C r m (false,σ)=some (false,σ):=rfl
theorem k_or_t {r:List X}:kOr T C r m (true,σ)=some (true,σ):=rfl
theorem k_or_f {r:List X}:kOr T C r m (false,σ)=evTs T C .Or r m σ:=rfl
noncomputable def kAs2 (z:M × S):Option V × M × S:=(none,z)
noncomputable def kAs (T:Tab) (C:Cl) (t:Tg) (m:M) (r:V × S):Rx:=(asgn T C t r.1 m r.2).map kAs2
noncomputable def kEx (m:M) (r:V × S):Option V × M × S:=(none,m,r.2)
noncomputable def kIf (T:Tab) (C:Cl) (b o:List XS) (m:M) (r:Bool × S):Rx:=match r.1 with | true=>exs T C b m r.2 | false=>exs T C o m r.2
noncomputable def kRet (m:M) (r:V × S):Option V × M × S:=(some r.1,m,r.2)
noncomputable def kSeq (T:Tab) (C:Cl) (r:List XS) (x:Rx):Rx:=x.bind fun q=>match q.1 with | some w=>some (some w,q.2) | none=>exs T C r q.2.1 q.2.2
theorem x_assign {t:Tg} {x:X}:ex T C (.assign t x p) m σ=(ev T C x m σ).bind (kAs T C t m):=rfl
theorem k_as {t:Tg} {v:V}:kAs T C t m (v,σ)=(asgn T C t v m σ).map kAs2:=rfl
theorem k_as2 {z:M × S}:kAs2 z=(none,z):=rfl
theorem x_expr {x:X}:ex T C (.expr x p) m σ=(ev T C x m σ).map (kEx m):=rfl
theorem k_ex {v:V}:kEx m (v,σ)=(none,m,σ):=rfl
theorem x_ifs {t:X} {b o:List XS} {q:Pos}:ex T C (.ifs t b o q) m σ=(evT T C t m σ).bind (kIf T C b o m):=by
  show Option.bind _ _=Option.bind _ _
  congr 1
theorem k_if_t {b o:List XS}:kIf T C b o m (true,σ)=exs T C b m σ:=rfl
theorem k_if_f {b o:List XS}:kIf T C b o m (false,σ)=exs T C o m σ:=rfl
theorem x_ret {x:X}:ex T C (.ret x p) m σ=(ev T C x m σ).map (kRet m):=rfl
theorem k_ret {v:V}:kRet m (v,σ)=(some v,m,σ):=rfl
theorem xs_nil:exs T C [] m σ=some (none,m,σ):=rfl
theorem xs_cons {s:XS} {r:List XS}:exs T C (s :: r) m σ=kSeq T C r (ex T C s m σ):=by
  show Option.bind _ _=Option.bind _ _
  congr 1
noncomputable def kIfs (T:Tab) (C:Cl) (b o r:List XS) (m:M) (x:Option (Bool × S)):Rx:=kSeq T C r (x.bind (kIf T C b o m))
theorem x_if {t:X} {b o r:List XS} {q:Pos}:exs T C (.ifs t b o q :: r) m σ=kIfs T C b o r m (evT T C t m σ):=by rw [xs_cons,x_ifs]; rfl
theorem xs_as {t:Tg} {x:X} {r:List XS}:exs T C (.assign t x p :: r) m σ=kSeq T C r (ex T C (.assign t x p) m σ):=xs_cons
theorem xs_ex {x:X} {r:List XS}:exs T C (.expr x p :: r) m σ=kSeq T C r (ex T C (.expr x p) m σ):=xs_cons
theorem xs_rt {x:X} {r:List XS}:exs T C (.ret x p :: r) m σ=kSeq T C r (ex T C (.ret x p) m σ):=xs_cons
theorem xs_fo {t:List (Nat × Nat)} {tp:Option (Nat × Nat)} {it:X} {b:List XS} {q:Pos} {r:List XS}:exs T C (.for_ t tp it b q :: r) m σ=kSeq T C r (ex T C (.for_ t tp it b q) m σ):=xs_cons
theorem xs_wh {t:X} {b:List XS} {q:Pos} {r:List XS}:exs T C (.whl t b q :: r) m σ=kSeq T C r (ex T C (.whl t b q) m σ):=xs_cons
theorem k_ifs_f {b r:List XS}:kIfs T C b [] r m (some (false,σ))=exs T C r m σ:=(rfl)
theorem k_ifs_t {b o r:List XS}:kIfs T C b o r m (some (true,σ))=kSeq T C r (exs T C b m σ):=(rfl)
theorem k_ifs_g {s:XS} {b o r:List XS}:kIfs T C b (s :: o) r m (some (false,σ))=kSeq T C r (exs T C (s :: o) m σ):=(rfl)
theorem k_seq_n {r:List XS}:kSeq T C r (some (none,m,σ))=exs T C r m σ:=(rfl)
theorem k_seq_s {r:List XS} {v:V} {z:M × S}:kSeq T C r (some (some v,z))=some (some v,z):=rfl
noncomputable def kBd (T:Tab) (C:Cl) (b:List XS) (σ:S) (m:M):Rx:=exs T C b m σ
noncomputable def kFor (T:Tab) (C:Cl) (t:List (Nat × Nat)) (tp:Option (Nat × Nat)) (b:List XS) (v:V) (m:M) (σ:S):Rx:=(bindS t tp v m σ).bind (kBd T C b σ)
theorem k_for {t:List (Nat × Nat)} {tp:Option (Nat × Nat)} {b:List XS} {v:V}:kFor T C t tp b v m σ=(bindS t tp v m σ).bind (kBd T C b σ):=rfl
theorem k_bd {b:List XS}:kBd T C b σ m=exs T C b m σ:=rfl
noncomputable def kIt2 (f:V→M→S→Rx) (m:M) (σ:S) (vs:List V):Rx:=loopL f vs m σ
noncomputable def kIt (f:V→M→S→Rx) (m:M) (r:V × S):Rx:=match r.1 with
    | .loc l=>loopI f l fuel 0 m r.2
    | o=>(items o).bind (kIt2 f m r.2)
theorem x_for {t:List (Nat × Nat)} {tp:Option (Nat × Nat)} {it:X} {b:List XS} {q:Pos} :
    ex T C (.for_ t tp it b q) m σ=(ev T C it m σ).bind (kIt (kFor T C t tp b) m):=by
  show Option.bind _ _=Option.bind _ _
  congr 1
theorem k_it_lst {f:V→M→S→Rx} {vs:List V}:kIt f m (.lst vs,σ)=loopL f vs m σ:=rfl
theorem k_it_tup {f:V→M→S→Rx} {vs:List V}:kIt f m (.tup vs,σ)=loopL f vs m σ:=rfl
theorem k_it_rng {f:V→M→S→Rx} {n:Int}:kIt f m (.rng n,σ)=(items (.rng n)).bind (kIt2 f m σ):=rfl
theorem k_it_loc {f:V→M→S→Rx} {l:Nat}:kIt f m (.loc l,σ)=loopI f l fuel 0 m σ:=rfl
noncomputable def kLp (f:V→M→S→Rx) (r:List V) (x:Rx):Rx:=x.bind fun q=>match q.1 with | some w=>some (some w,q.2) | none=>loopL f r q.2.1 q.2.2
theorem lp_nil {f:V→M→S→Rx}:loopL f [] m σ=some (none,m,σ):=rfl
theorem lp_cons {f:V→M→S→Rx} {v:V} {r:List V}:loopL f (v :: r) m σ=kLp f r (f v m σ):=by
  show Option.bind _ _=Option.bind _ _
  congr 1
theorem k_lp_n {f:V→M→S→Rx} {r:List V}:kLp f r (some (none,m,σ))=loopL f r m σ:=(rfl)
theorem k_lp_s {f:V→M→S→Rx} {r:List V} {v:V} {z:M × S}:kLp f r (some (some v,z))=some (some v,z):=rfl
theorem x_whl {t:X} {b:List XS} {q:Pos}:ex T C (.whl t b q) m σ=loopW (fun m σ=>evT T C t m σ) (fun m σ=>exs T C b m σ) fuel m σ:=rfl
noncomputable def kAa (T:Tab) (n:Nat) (v:V) (m:M) (r:V × S):Option (M × S):=(setAttr T r.1 n v r.2).map (m,·)
noncomputable def kAs4 (o v:V) (m:M) (q:V × S):Option (M × S):=(setItem o q.1 v q.2).map (m,·)
noncomputable def kAs3 (T:Tab) (C:Cl) (i:X) (v:V) (m:M) (r:V × S):Option (M × S):=(ev T C i m r.2).bind (kAs4 r.1 v m)
theorem a_name {n:Nat} {v:V}:asgn T C (.name n p) v m σ=some (put m n v,σ):=rfl
theorem a_tup {ns:List (Nat × Nat)} {k:Nat} {v:V}:asgn T C (.tup ns k p) v m σ=(bindS ns (some (k,p)) v m σ).map (·,σ):=rfl
theorem a_attr {o:X} {n:Nat} {v:V}:asgn T C (.attr o n p) v m σ=(ev T C o m σ).bind (kAa T n v m):=rfl
theorem k_aa {o:V} {n:Nat} {v:V}:kAa T n v m (o,σ)=(setAttr T o n v σ).map (m,·):=rfl
theorem a_sub {o i:X} {v:V}:asgn T C (.sub o i p) v m σ=(ev T C o m σ).bind (kAs3 T C i v m):=rfl
theorem k_as3 {o:V} {i:X} {v:V}:kAs3 T C i v m (o,σ)=(ev T C i m σ).bind (kAs4 o v m):=rfl
theorem k_as4 {o i v:V}:kAs4 o v m (i,σ)=(setItem o i v σ).map (m,·):=rfl
noncomputable def fin (q:Option V × M × S):V × S:=(q.1.getD .none,q.2.2)
theorem fin_n:fin (none,m,σ)=(.none,σ):=rfl
theorem fin_s {v:V}:fin (some v,m,σ)=(v,σ):=rfl
theorem cf_run {n a:Nat} {args:List V} {f:Fn} {m:M} (hF:FT a=some f) (hb:binds f args=some m):cf TB FT (n + 1) a args σ=(exs TB (cf TB FT n) f.body m σ).map fin:=by
  show (FT a).bind _=_
  rw [hF]; show (binds f args).bind _=_
  rw [hb]; rfl
theorem c_fn {a:Nat} {args:List V}:callV T C (.fn a) args σ=C a args σ:=rfl
theorem c_bi {b:BI} {args:List V}:callV T C (.bi b) args σ=builtin b args σ:=rfl
theorem m_inst {c l n a:Nat} {args:List V}:methV C (.inst c l) n (some a) args σ=C a (.inst c l :: args) σ:=rfl
theorem m_loc {l n:Nat} {args:List V}:methV C (.loc l) n none args σ=methS l n args σ:=rfl
theorem q_eq {a b:V}:cmpop .Eq a b σ=eqv a b σ:=rfl
theorem q_ne {a b:V}:cmpop .NotEq a b σ=(eqv a b σ).map (!·):=rfl
theorem q_in_tup {a:V} {vs:List V}:cmpop .In a (.tup vs) σ=isIn a vs σ:=rfl
theorem q_in_lst {a:V} {vs:List V}:cmpop .In a (.lst vs) σ=isIn a vs σ:=rfl
theorem q_str {a b:Nat}:eqv (.str a) (.str b) σ=some (a == b):=rfl
theorem q_int {a b:Int}:eqv (.int a) (.int b) σ=some (a == b):=rfl
theorem q_bool {a b:Bool}:eqv (.bool a) (.bool b) σ=some (a == b):=rfl
theorem n_str2 {k a b:Nat}:isIn (.str k) [.str a,.str b] σ=some ((a == k) || ((b == k) || false)):=rfl
theorem n_str3 {k a b c:Nat}:isIn (.str k) [.str a,.str b,.str c] σ=some ((a == k) || ((b == k) || ((c == k) || false))):=rfl
theorem n_str4 {k a b c d:Nat}:isIn (.str k) [.str a,.str b,.str c,.str d] σ=some ((a == k) || ((b == k) || ((c == k) || ((d == k) || false)))):=rfl
theorem n_str5 {k a b c d e:Nat}:isIn (.str k) [.str a,.str b,.str c,.str d,.str e] σ=some ((a == k) || ((b == k) || ((c == k) || ((d == k) || ((e == k) || false))))):=rfl
theorem look_c {k n:Nat} {v:V} {r:M}:look ((k,v) :: r) n=cond (k == n) (some v) (look r n):=rfl
theorem look_0 {n:Nat}:look [] n=none:=rfl
theorem put_c {k n:Nat} {v w:V} {r:M}:put ((k,w) :: r) n v=cond (k == n) ((k,v) :: r) ((k,w) :: put r n v):=rfl
theorem put_0 {n:Nat} {v:V}:put [] n v = [(n,v)]:=rfl
end Internal.Pl
namespace Internal.Pl
open PySem
theorem cf_74 {n:Nat} {σ:S} {v0 v1:V}:cf TB FT (n + 1) 74 [v0,v1] σ=(exs TB (cf TB FT n) F74.body [(0x776f726c64,v0),(0x54,v1)] σ).map fin:=cf_run rfl rfl
theorem cf_79 {n:Nat} {σ:S} {v0 v1:V}:cf TB FT (n + 1) 79 [v0,v1] σ=(exs TB (cf TB FT n) F79.body [(0x776f726c64,v0),(0x54,v1)] σ).map fin:=cf_run rfl rfl
theorem cf_89 {n:Nat} {σ:S} {v0:V}:cf TB FT (n + 1) 89 [v0] σ=(exs TB (cf TB FT n) F89.body [(0x746f6c645f74797065,v0)] σ).map fin:=cf_run rfl rfl
theorem cf_96 {n:Nat} {σ:S} {v0 v1:V}:cf TB FT (n + 1) 96 [v0,v1] σ=(exs TB (cf TB FT n) F96.body [(0x7374617465,v0),(0x63616c6c6565,v1)] σ).map fin:=cf_run rfl rfl
theorem cf_101 {n:Nat} {σ:S} {v0 v1:V}:cf TB FT (n + 1) 101 [v0,v1] σ=(exs TB (cf TB FT n) F101.body [(0x7374617465,v0),(0x65,v1)] σ).map fin:=cf_run rfl rfl
theorem cf_146 {n:Nat} {σ:S} {v0 v1:V}:cf TB FT (n + 1) 146 [v0,v1] σ=(exs TB (cf TB FT n) F146.body [(0x7374617465,v0),(0x65,v1)] σ).map fin:=cf_run rfl rfl
theorem cf_153 {n:Nat} {σ:S} {v0:V}:cf TB FT (n + 1) 153 [v0] σ=(exs TB (cf TB FT n) F153.body [(0x65,v0)] σ).map fin:=cf_run rfl rfl
theorem cf_160 {n:Nat} {σ:S} {v0 v1:V}:cf TB FT (n + 1) 160 [v0,v1] σ=(exs TB (cf TB FT n) F160.body [(0x7374617465,v0),(0x65,v1)] σ).map fin:=cf_run rfl rfl
theorem cf_167 {n:Nat} {σ:S} {v0 v1:V}:cf TB FT (n + 1) 167 [v0,v1] σ=(exs TB (cf TB FT n) F167.body [(0x7374617465,v0),(0x776179,v1)] σ).map fin:=cf_run rfl rfl
theorem cf_174 {n:Nat} {σ:S} {v0 v1:V}:cf TB FT (n + 1) 174 [v0,v1] σ=(exs TB (cf TB FT n) F174.body [(0x7374617465,v0),(0x65,v1)] σ).map fin:=cf_run rfl rfl
theorem cf_195 {n:Nat} {σ:S} {v0 v1:V}:cf TB FT (n + 1) 195 [v0,v1] σ=(exs TB (cf TB FT n) F195.body [(0x7374617465,v0),(0x65,v1)] σ).map fin:=cf_run rfl rfl
theorem cf_206 {n:Nat} {σ:S} {v0 v1:V}:cf TB FT (n + 1) 206 [v0,v1] σ=(exs TB (cf TB FT n) F206.body [(0x7374617465,v0),(0x65,v1)] σ).map fin:=cf_run rfl rfl
theorem cf_213 {n:Nat} {σ:S} {v0 v1:V}:cf TB FT (n + 1) 213 [v0,v1] σ=(exs TB (cf TB FT n) F213.body [(0x7374617465,v0),(0x65,v1)] σ).map fin:=cf_run rfl rfl
theorem cf_218 {n:Nat} {σ:S} {v0 v1:V}:cf TB FT (n + 1) 218 [v0,v1] σ=(exs TB (cf TB FT n) F218.body [(0x7374617465,v0),(0x6573,v1)] σ).map fin:=cf_run rfl rfl
theorem cf_225 {n:Nat} {σ:S} {v0 v1:V}:cf TB FT (n + 1) 225 [v0,v1] σ=(exs TB (cf TB FT n) F225.body [(0x7374617465,v0),(0x65,v1)] σ).map fin:=cf_run rfl rfl
theorem cf_237 {n:Nat} {σ:S} {v0 v1:V}:cf TB FT (n + 1) 237 [v0,v1] σ=(exs TB (cf TB FT n) F237.body [(0x7374617465,v0),(0x65,v1)] σ).map fin:=cf_run rfl rfl
theorem cf_244 {n:Nat} {σ:S} {v0 v1:V}:cf TB FT (n + 1) 244 [v0,v1] σ=(exs TB (cf TB FT n) F244.body [(0x7374617465,v0),(0x65,v1)] σ).map fin:=cf_run rfl rfl
theorem cf_251 {n:Nat} {σ:S} {v0 v1:V}:cf TB FT (n + 1) 251 [v0,v1] σ=(exs TB (cf TB FT n) F251.body [(0x7374617465,v0),(0x65,v1)] σ).map fin:=cf_run rfl rfl
theorem cf_256 {n:Nat} {σ:S} {v0 v1:V}:cf TB FT (n + 1) 256 [v0,v1] σ=(exs TB (cf TB FT n) F256.body [(0x7374617465,v0),(0x65,v1)] σ).map fin:=cf_run rfl rfl
theorem cf_263 {n:Nat} {σ:S} {v0 v1:V}:cf TB FT (n + 1) 263 [v0,v1] σ=(exs TB (cf TB FT n) F263.body [(0x7374617465,v0),(0x65,v1)] σ).map fin:=cf_run rfl rfl
theorem cf_268 {n:Nat} {σ:S} {v0 v1 v2:V}:cf TB FT (n + 1) 268 [v0,v1,v2] σ=(exs TB (cf TB FT n) F268.body [(0x7374617465,v0),(0x65,v1),(0x63656c6c5f74797065,v2)] σ).map fin:=cf_run rfl rfl
theorem cf_287 {n:Nat} {σ:S} {v0 v1 v2 v3 v4 v5 v6 v7:V}:cf TB FT (n + 1) 287 [v0,v1,v2,v3,v4,v5,v6,v7] σ=(exs TB (cf TB FT n) F287.body [(0x73656c66,v0),(0x6b6579,v1),(0x726f7773,v2),(0x706172616d73,v3),(0x726573756c7473,v4),(0x6361707475726564,v5),(0x626f6479,v6),(0x6c69746572616c73,v7)] σ).map fin:=cf_run rfl rfl
theorem cf_309 {n:Nat} {σ:S} {v0 v1 v2 v3 v4 v5 v6 v7:V}:cf TB FT (n + 1) 309 [v0,v1,v2,v3,v4,v5,v6,v7] σ=(exs TB (cf TB FT n) F309.body [(0x73656c66,v0),(0x6b6579,v1),(0x706172616d73,v2),(0x726567697374657273,v3),(0x626c6f636b73,v4),(0x6361707475726564,v5),(0x726573756c7473,v6),(0x7265636f76657279,v7)] σ).map fin:=cf_run rfl rfl
theorem cf_309_1 {n:Nat} {σ:S} {v0 v1 v2 v3 v4 v5 v6:V}:cf TB FT (n + 1) 309 [v0,v1,v2,v3,v4,v5,v6] σ=(exs TB (cf TB FT n) F309.body [(0x73656c66,v0),(0x6b6579,v1),(0x706172616d73,v2),(0x726567697374657273,v3),(0x626c6f636b73,v4),(0x6361707475726564,v5),(0x726573756c7473,v6),(0x7265636f76657279,.none)] σ).map fin:=cf_run rfl rfl
theorem cf_316 {n:Nat} {σ:S} {v0 v1:V}:cf TB FT (n + 1) 316 [v0,v1] σ=(exs TB (cf TB FT n) F316.body [(0x73656c66,v0),(0x626c6f636b,v1)] σ).map fin:=cf_run rfl rfl
theorem cf_323 {n:Nat} {σ:S} {v0 v1:V}:cf TB FT (n + 1) 323 [v0,v1] σ=(exs TB (cf TB FT n) F323.body [(0x73656c66,v0),(0x626c6f636b,v1)] σ).map fin:=cf_run rfl rfl
theorem cf_342 {n:Nat} {σ:S} {v0:V}:cf TB FT (n + 1) 342 [v0] σ=(exs TB (cf TB FT n) F342.body [(0x7465726d696e61746f72,v0)] σ).map fin:=cf_run rfl rfl
theorem cf_349 {n:Nat} {σ:S} {v0:V}:cf TB FT (n + 1) 349 [v0] σ=(exs TB (cf TB FT n) F349.body [(0x636f6465,v0)] σ).map fin:=cf_run rfl rfl
theorem cf_356 {n:Nat} {σ:S} {v0 v1:V}:cf TB FT (n + 1) 356 [v0,v1] σ=(exs TB (cf TB FT n) F356.body [(0x7465726d696e61746f72,v0),(0x7475726e6564,v1)] σ).map fin:=cf_run rfl rfl
theorem cf_363 {n:Nat} {σ:S} {v0 v1:V}:cf TB FT (n + 1) 363 [v0,v1] σ=(exs TB (cf TB FT n) F363.body [(0x636f6465,v0),(0x6b657074,v1)] σ).map fin:=cf_run rfl rfl
theorem cf_377 {n:Nat} {σ:S} {v0 v1 v2 v3 v4:V}:cf TB FT (n + 1) 377 [v0,v1,v2,v3,v4] σ=(exs TB (cf TB FT n) F377.body [(0x73656c66,v0),(0x776f726c64,v1),(0x74797065645f666e,v2),(0x626f786564,v3),(0x6b6e6f776e,v4)] σ).map fin:=cf_run rfl rfl
theorem cf_384 {n:Nat} {σ:S} {v0 v1:V}:cf TB FT (n + 1) 384 [v0,v1] σ=(exs TB (cf TB FT n) F384.body [(0x73656c66,v0),(0x746f6c645f74797065,v1)] σ).map fin:=cf_run rfl rfl
theorem cf_391 {n:Nat} {σ:S} {v0:V}:cf TB FT (n + 1) 391 [v0] σ=(exs TB (cf TB FT n) F391.body [(0x73656c66,v0)] σ).map fin:=cf_run rfl rfl
theorem cf_398 {n:Nat} {σ:S} {v0 v1:V}:cf TB FT (n + 1) 398 [v0,v1] σ=(exs TB (cf TB FT n) F398.body [(0x73656c66,v0),(0x696e737472756374696f6e,v1)] σ).map fin:=cf_run rfl rfl
theorem cf_405 {n:Nat} {σ:S} {v0 v1 v2:V}:cf TB FT (n + 1) 405 [v0,v1,v2] σ=(exs TB (cf TB FT n) F405.body [(0x73656c66,v0),(0x746f6c645f74797065,v1),(0x726f77,v2)] σ).map fin:=cf_run rfl rfl
theorem cf_412 {n:Nat} {σ:S} {v0 v1:V}:cf TB FT (n + 1) 412 [v0,v1] σ=(exs TB (cf TB FT n) F412.body [(0x73656c66,v0),(0x7465726d696e61746f72,v1)] σ).map fin:=cf_run rfl rfl
theorem cf_426 {n:Nat} {σ:S} {v0 v1:V}:cf TB FT (n + 1) 426 [v0,v1] σ=(exs TB (cf TB FT n) F426.body [(0x73656c66,v0),(0x626c6f636b,v1)] σ).map fin:=cf_run rfl rfl
theorem cf_433 {n:Nat} {σ:S} {v0:V}:cf TB FT (n + 1) 433 [v0] σ=(exs TB (cf TB FT n) F433.body [(0x73656c66,v0)] σ).map fin:=cf_run rfl rfl
theorem cf_440 {n:Nat} {σ:S} {v0 v1:V}:cf TB FT (n + 1) 440 [v0,v1] σ=(exs TB (cf TB FT n) F440.body [(0x73656c66,v0),(0x6c6f63616c,v1)] σ).map fin:=cf_run rfl rfl
theorem cf_447 {n:Nat} {σ:S} {v0 v1:V}:cf TB FT (n + 1) 447 [v0,v1] σ=(exs TB (cf TB FT n) F447.body [(0x73656c66,v0),(0x6c6f63616c,v1)] σ).map fin:=cf_run rfl rfl
theorem cf_454 {n:Nat} {σ:S} {v0 v1:V}:cf TB FT (n + 1) 454 [v0,v1] σ=(exs TB (cf TB FT n) F454.body [(0x73656c66,v0),(0x6c6f63616c,v1)] σ).map fin:=cf_run rfl rfl
theorem cf_468 {n:Nat} {σ:S} {v0 v1:V}:cf TB FT (n + 1) 468 [v0,v1] σ=(exs TB (cf TB FT n) F468.body [(0x73656c66,v0),(0x6c6f63616c,v1)] σ).map fin:=cf_run rfl rfl
theorem cf_475 {n:Nat} {σ:S} {v0 v1:V}:cf TB FT (n + 1) 475 [v0,v1] σ=(exs TB (cf TB FT n) F475.body [(0x73656c66,v0),(0x6c6f63616c,v1)] σ).map fin:=cf_run rfl rfl
theorem cf_489 {n:Nat} {σ:S} {v0 v1 v2:V}:cf TB FT (n + 1) 489 [v0,v1,v2] σ=(exs TB (cf TB FT n) F489.body [(0x73656c66,v0),(0x6f706572616e64,v1),(0x746f6c645f74797065,v2)] σ).map fin:=cf_run rfl rfl
theorem cf_496 {n:Nat} {σ:S} {v0 v1:V}:cf TB FT (n + 1) 496 [v0,v1] σ=(exs TB (cf TB FT n) F496.body [(0x73656c66,v0),(0x746f6c645f74797065,v1)] σ).map fin:=cf_run rfl rfl
theorem cf_503 {n:Nat} {σ:S} {v0 v1:V}:cf TB FT (n + 1) 503 [v0,v1] σ=(exs TB (cf TB FT n) F503.body [(0x73656c66,v0),(0x65,v1)] σ).map fin:=cf_run rfl rfl
theorem cf_517 {n:Nat} {σ:S} {v0 v1:V}:cf TB FT (n + 1) 517 [v0,v1] σ=(exs TB (cf TB FT n) F517.body [(0x73656c66,v0),(0x65,v1)] σ).map fin:=cf_run rfl rfl
theorem cf_531 {n:Nat} {σ:S} {v0:V}:cf TB FT (n + 1) 531 [v0] σ=(exs TB (cf TB FT n) F531.body [(0x73656c66,v0)] σ).map fin:=cf_run rfl rfl
theorem cf_555 {n:Nat} {σ:S} {v0 v1 v2 v3 v4:V}:cf TB FT (n + 1) 555 [v0,v1,v2,v3,v4] σ=(exs TB (cf TB FT n) F555.body [(0x73656c66,v0),(0x70617468,v1),(0x7061636b616765,v2),(0x756e6465726c79696e67,v3),(0x6d6574686f6473,v4)] σ).map fin:=cf_run rfl rfl
theorem cf_569 {n:Nat} {σ:S}:cf TB FT (n + 1) 569 [] σ=(exs TB (cf TB FT n) F569.body [] σ).map fin:=cf_run rfl rfl
theorem cf_584_1 {n:Nat} {σ:S} {v0:V}:cf TB FT (n + 1) 584 [v0] σ=(exs TB (cf TB FT n) F584.body [(0x73656c66,v0),(0x7061636b61676573,.none)] σ).map fin:=cf_run rfl rfl
theorem cf_591 {n:Nat} {σ:S} {v0 v1:V}:cf TB FT (n + 1) 591 [v0,v1] σ=(exs TB (cf TB FT n) F591.body [(0x73656c66,v0),(0x746f6c64,v1)] σ).map fin:=cf_run rfl rfl
theorem cf_621 {n:Nat} {σ:S} {v0:V}:cf TB FT (n + 1) 621 [v0] σ=(exs TB (cf TB FT n) F621.body [(0x736372697074,v0)] σ).map fin:=cf_run rfl rfl
theorem cf_628 {n:Nat} {σ:S} {v0 v1:V}:cf TB FT (n + 1) 628 [v0,v1] σ=(exs TB (cf TB FT n) F628.body [(0x736f75726365,v0),(0x746f70,v1)] σ).map fin:=cf_run rfl rfl
theorem cf_635 {n:Nat} {σ:S} {v0 v1:V}:cf TB FT (n + 1) 635 [v0,v1] σ=(exs TB (cf TB FT n) F635.body [(0x736f75726365,v0),(0x7468696e6773,v1)] σ).map fin:=cf_run rfl rfl
theorem cf_642 {n:Nat} {σ:S} {v0 v1:V}:cf TB FT (n + 1) 642 [v0,v1] σ=(exs TB (cf TB FT n) F642.body [(0x736f75726365,v0),(0x6b696e64,v1)] σ).map fin:=cf_run rfl rfl
theorem cf_649 {n:Nat} {σ:S} {v0 v1:V}:cf TB FT (n + 1) 649 [v0,v1] σ=(exs TB (cf TB FT n) F649.body [(0x736f75726365,v0),(0x64656570,v1)] σ).map fin:=cf_run rfl rfl
theorem cf_656 {n:Nat} {σ:S} {v0 v1:V}:cf TB FT (n + 1) 656 [v0,v1] σ=(exs TB (cf TB FT n) F656.body [(0x736f75726365,v0),(0x64656570,v1)] σ).map fin:=cf_run rfl rfl
theorem cf_663 {n:Nat} {σ:S} {v0 v1:V}:cf TB FT (n + 1) 663 [v0,v1] σ=(exs TB (cf TB FT n) F663.body [(0x736f75726365,v0),(0x64656570,v1)] σ).map fin:=cf_run rfl rfl
theorem cf_670 {n:Nat} {σ:S} {v0 v1:V}:cf TB FT (n + 1) 670 [v0,v1] σ=(exs TB (cf TB FT n) F670.body [(0x736f75726365,v0),(0x64656570,v1)] σ).map fin:=cf_run rfl rfl
theorem cf_677 {n:Nat} {σ:S} {v0 v1 v2:V}:cf TB FT (n + 1) 677 [v0,v1,v2] σ=(exs TB (cf TB FT n) F677.body [(0x6d61726b73,v0),(0x6e756d626572,v1),(0x6b696e64,v2)] σ).map fin:=cf_run rfl rfl
theorem cf_682 {n:Nat} {σ:S} {v0 v1:V}:cf TB FT (n + 1) 682 [v0,v1] σ=(exs TB (cf TB FT n) F682.body [(0x6d61726b73,v0),(0x65,v1)] σ).map fin:=cf_run rfl rfl
theorem cf_689 {n:Nat} {σ:S} {v0 v1:V}:cf TB FT (n + 1) 689 [v0,v1] σ=(exs TB (cf TB FT n) F689.body [(0x72756e,v0),(0x6f706572616e64,v1)] σ).map fin:=cf_run rfl rfl
theorem cf_694 {n:Nat} {σ:S} {v0 v1:V}:cf TB FT (n + 1) 694 [v0,v1] σ=(exs TB (cf TB FT n) F694.body [(0x72756e,v0),(0x726f77,v1)] σ).map fin:=cf_run rfl rfl
theorem cf_701 {n:Nat} {σ:S} {v0 v1:V}:cf TB FT (n + 1) 701 [v0,v1] σ=(exs TB (cf TB FT n) F701.body [(0x72756e,v0),(0x76616c7565,v1)] σ).map fin:=cf_run rfl rfl
theorem cf_706 {n:Nat} {σ:S} {v0 v1:V}:cf TB FT (n + 1) 706 [v0,v1] σ=(exs TB (cf TB FT n) F706.body [(0x7374617465,v0),(0x636f6465,v1)] σ).map fin:=cf_run rfl rfl
theorem cf_713 {n:Nat} {σ:S} {v0:V}:cf TB FT (n + 1) 713 [v0] σ=(exs TB (cf TB FT n) F713.body [(0x65,v0)] σ).map fin:=cf_run rfl rfl
theorem cf_718 {n:Nat} {σ:S} {v0:V}:cf TB FT (n + 1) 718 [v0] σ=(exs TB (cf TB FT n) F718.body [(0x736372697074,v0)] σ).map fin:=cf_run rfl rfl
end Internal.Pl
namespace Internal.Pl
open PySem
noncomputable def T349_1:X:=(.cmp .NotEq (.loc 0x77616974696e67 29793017) (.lst true [] 29796323) 29793023)
noncomputable def B349_1:List XS:=[(.assign (.name 0x626c6f636b 29882413) (.mcall (.loc 0x77616974696e67 29884823) 0x706f70 [] 29884827 29884829) 29882429),
   (.ifs (.cmp .NotIn (.loc 0x626c6f636b 29973316) (.loc 0x6d6574 29977227) 29973327) [(.assign (.sub (.loc 0x6d6574 30063615) (.loc 0x626c6f636b 30064821) 30063622) (.tru true 30067529) 30063629),
   (.expr (.mcall (.loc 0x666f756e64 30153617) 0x617070656e64 [(.loc 0x626c6f636b 30157530)] 30153624 30153631) 30153631),
   (.expr (.mcall (.loc 0x77616974696e67 30243619) 0x657874656e64 [(.rev (.call (.glob 0x6e6578745f626c6f636b73 (.fn 342) 30248138) [(.mcall (.loc 0x636f6465 30251743) 0x7465726d696e61746f72 [(.loc 0x626c6f636b 30256560)] 30251754 30251761)] 30248162) 30259867 30259567 30258967 30248168)] 30243626 30243669) 30243669)] [] ⟨333,8,336,69⟩)]
theorem F349_eq:F349.body = [(.assign (.tup [(0x666f756e64,29701209),(0x77616974696e67,29703318),(0x6d6574,29706023)] 0 29701223) (.tup [(.lst false [] 29708129),(.ite (.cmp .Is (.attr (.loc 0x636f6465 29711442) 0x7265636f76657279 29711451) (.non 29716559) 29711459) (.lst false [(.num 0 29709633)] 29709334) (.lst true [(.attr (.loc 0x636f6465 29719870) 0x7265636f76657279 29719879),(.num 0 29724382)] 29719583) 29709383),(.dct false [] [] 29725587)] 0 29707888) 29701288),
   .whl T349_1 B349_1 ⟨331,4,336,69⟩,
   (.ret (.loc 0x666f756e64 30333316) 30331216)]:=rfl
noncomputable def B363_1:List XS:=[(.assign (.sub (.loc 0x706c61636573 31232414) (.loc 0x626c6f636b 31234520) 31232421) (.call (.glob 0x6c656e (.bi .len) 31237227) [(.loc 0x706c61636573 31238434)] 31237235) 31232435)]
noncomputable def B363_3:List XS:=[(.assign (.tup [(0x736f6d65,31502412),(0x656e64,31504217)] 0 31502417) (.sub (.attr (.loc 0x636f6465 31506024) 0x626c6f636b73 31506031) (.loc 0x626c6f636b 31509637) 31506038) 31502438),
   (.expr (.mcall (.loc 0x626c6f636b73 31592414) 0x617070656e64 [(.lst true [(.call (.glob 0x6c697374 (.bi .listF) 31596927) [(.loc 0x736f6d65 31598432)] 31596933),(.call (.glob 0x6c65645f656c73657768657265 (.fn 356) 31600548) [(.loc 0x656e64 31604752),(.lam 0x676f616c 31608365 0x706c61636573 31610173 31612278 31610179 ⟨.function,[(dec 0x676f616c,.local),(dec 0x706c61636573,.free)],false,false,[]⟩ 31606279)] 31600580)] 31596681)] 31592421 31592482) 31592482)]
theorem F363_eq:F363.body = [(.assign (.cel 0x706c61636573 31051210) (.dct false [] [] 31053915) 31051215),
   .for_ [(0x626c6f636b,31142413)] none (.loc 0x6b657074 31145121) B363_1 ⟨346,4,347,35⟩,
   (.assign (.name 0x626c6f636b73 31321210) (.lst false [] 31323915) 31321215),
   .for_ [(0x626c6f636b,31412413)] none (.loc 0x6b657074 31415121) B363_3 ⟨349,4,351,82⟩,
   (.assign (.name 0x7265636f76657279 31681212) (.ite (.cmp .Is (.attr (.loc 0x636f6465 31686927) 0x7265636f76657279 31686936) (.non 31692044) 31686944) (.non 31684519) (.sub (.loc 0x706c61636573 31695056) (.attr (.loc 0x636f6465 31697161) 0x7265636f76657279 31697170) 31695071) 31684571) 31681271),
   (.ret (.call (.glob 0x436f6465 (.cls 331) 31773315) [(.attr (.loc 0x636f6465 31774820) 0x6b6579 31774824),(.attr (.loc 0x636f6465 31777830) 0x706172616d73 31777837),(.attr (.loc 0x636f6465 31781743) 0x726567697374657273 31781753),(.loc 0x626c6f636b73 31786561),(.attr (.loc 0x636f6465 31788967) 0x6361707475726564 31788976),(.attr (.loc 0x636f6465 31793482) 0x726573756c7473 31793490),(.loc 0x7265636f76657279 31797700)] 31773401) 31771301)]:=rfl
noncomputable def B531_0:List XS:=[(.ifs (.cmp .Is (.sub (.loc 0x626c6f636b 40144520) (.num 1 40146322) 40144523) (.non 40148131) 40144531) [(.assign (.sub (.loc 0x626c6f636b 40234821) (.num 1 40236623) 40234824) (.tup [(.st 0x72657475726e 40238436),(.tup [] 0 40241440)] 0 40238141) 40234841)] [] ⟨446,12,447,41⟩)]
theorem F531_eq:F531.body = [.for_ [(0x626c6f636b,40053617)] none (.attr (.attr (.loc 0x73656c66 40056325) 0x636f6465 40056330) 0x626c6f636b73 40056337) B531_0 ⟨445,8,447,41⟩,
   (.ret (.call (.glob 0x776974685f6b6570745f626c6f636b73 (.fn 363) 40324531) [(.attr (.loc 0x73656c66 40329636) 0x636f6465 40329641),(.call (.glob 0x736f72746564 (.bi .sorted) 40332949) [(.call (.glob 0x626c6f636b735f72656163686564 (.fn 349) 40335064) [(.attr (.loc 0x73656c66 40339569) 0x636f6465 40339574)] 40335075)] 40332976)] 40324577) 40322477)]:=rfl
noncomputable def B706_i:List XS:=[(.ifs (.cmp .Eq (.sub (.loc 0x726f77 55984518) (.num 0 55985720) 55984521) (.st 0x73746f7265 55987532) 55984532) [(.assign (.name 0x73706f74 56074820) (.call (.glob 0x5f6c61775f72656164 (.fn 689) 56076932) [(.loc 0x72756e 56079936),(.sub (.loc 0x726f77 56081441) (.num 1 56082643) 56081444)] 56076945) 56074845),
   (.assign (.sub (.sub (.sub (.loc 0x72756e 56164819) (.st 0x726f7773 56166026) 56164827) (.sub (.loc 0x73706f74 56168432) (.num 1 56169934) 56168435) 56164836) (.sub (.loc 0x73706f74 56171141) (.num 2 56172643) 56171144) 56164845) (.call (.glob 0x5f6c61775f72656164 (.fn 689) 56174457) [(.loc 0x72756e 56177461),(.sub (.loc 0x726f77 56178966) (.num 2 56180168) 56178969)] 56174470) 56164870)] [(.assign (.name 0x76616c7565 56344821) (.call (.glob 0x5f6c61775f646f6e65 (.fn 694) 56347233) [(.loc 0x72756e 56350237),(.loc 0x726f77 56351742)] 56347243) 56344843),
   (.assign (.sub (.sub (.loc 0x72756e 56434819) (.st 0x63656c6c73 56436027) 56434828) (.ite (.cmp .Eq (.sub (.loc 0x726f77 56442645) (.num 0 56443847) 56442648) (.st 0x63616c6c 56445658) 56442658) (.sub (.sub (.loc 0x726f77 56438732) (.num 1 56439934) 56438735) (.num 0 56440837) 56438738) (.sub (.loc 0x726f77 56449267) (.num 1 56450469) 56449270) 56438770) 56434871) (.loc 0x76616c7565 56452279) 56434879),
   (.ifs (.bop .And [(.cmp .Eq (.sub (.loc 0x726f77 56525722) (.num 0 56526924) 56525725) (.st 0x617373657274 56528737) 56525737),(.cmp .IsNot (.sub (.loc 0x726f77 56532645) (.num 2 56533847) 56532648) (.non 56536860) 56532660)] 56525760) [(.assign (.sub (.sub (.loc 0x72756e 56616023) (.st 0x63656c6c73 56617231) 56616032) (.sub (.loc 0x726f77 56619936) (.num 2 56621138) 56619939) 56616040) (.tup [(.st 0x7472757468 56623251),(.loc 0x76616c7565 56625958)] 0 56622959) 56616059)] [] ⟨628,16,629,59⟩)] ⟨622,12,629,59⟩)]
noncomputable def B706_o:List XS:=[.for_ [(0x726f77,55893615)] none (.mcall (.loc 0x636f6465 55895723) 0x696e737472756374696f6e73 [(.loc 0x68657265 55901141)] 55895736 55895742) B706_i ⟨621,8,629,59⟩,
   (.assign (.name 0x656e64 56702411) (.mcall (.loc 0x636f6465 56704218) 0x7465726d696e61746f72 [(.loc 0x68657265 56709034)] 56704229 56704235) 56702435),
   (.ifs (.cmp .Eq (.sub (.loc 0x656e64 56793314) (.num 0 56794516) 56793317) (.st 0x72657475726e 56796329) 56793329) [(.ret (.tup [(.comp (.call (.glob 0x5f6c61775f73686f776e (.fn 701) 56886331) [(.loc 0x72756e 56889635),(.call (.glob 0x5f6c61775f72656164 (.fn 689) 56891146) [(.loc 0x72756e 56894150),(.loc 0x6f6e65 56895655)] 56891156)] 56886357) [(0x6f6e65,56898665)] none (.sub (.loc 0x656e64 56900772) (.num 1 56901974) 56900775) ⟨.function,[(dec 0x2e30,.local),(dec 0x6f6e65,.local),(dec 0x5f6c61775f73686f776e,.globalImplicit),(dec 0x5f6c61775f72656164,.globalImplicit),(dec 0x72756e,.free)],false,false,[]⟩ 56886076),(.sub (.loc 0x72756e 56903481) (.st 0x6d61726b73 56904689) 56903490)] 0 56885791) 56883691)] [] ⟨631,8,632,91⟩),
   (.assign (.name 0x68657265 56972412) (.ite (.cmp .Eq (.sub (.loc 0x656e64 56977528) (.num 0 56978730) 56977531) (.st 0x6a756d70 56980541) 56977541) (.sub (.loc 0x656e64 56974518) (.num 1 56975720) 56974521) (.ite (.cmp .Is (.call (.glob 0x5f6c61775f72656164 (.fn 689) 56987166) [(.loc 0x72756e 56990170),(.sub (.loc 0x656e64 56991675) (.num 1 56992877) 56991678)] 56987179) (.tru true 56994987) 56987187) (.sub (.loc 0x656e64 56984150) (.num 2 56985352) 56984153) (.sub (.loc 0x656e64 56997996) (.num 3 56999198) 56997999) 56984199) 56974599) 56972499)]
theorem F706_eq:F706.body = [(.assign (.cel 0x72756e 55621207) (.dct true [(.st 0x63656c6c73 55623318),(.st 0x6d61726b73 55641077),(.st 0x726f7773 55644989),(.st 0x7479706573 55648602)] [(.dct false [(.num 0 55626322),(.num 1 55631138),(.num 2 55635954)] [(.tup [(.st 0x68656c64 55627531),(.num 0 55629934)] 0 55627235),(.tup [(.st 0x68656c64 55632347),(.num 1 55634750)] 0 55632051),(.tup [(.st 0x68656c64 55637163),(.num 2 55639566)] 0 55636867)] 55626068),(.lst false [] 55643781),(.lst false [] 55647393),(.attr (.loc 0x636f6465 55651308) 0x726567697374657273 55651318)] 55623119) 55621319),
   (.assign (.name 0x68657265 55711208) (.num 0 55713312) 55711212),
   .for_ [(0x7475726e,55802412)] none (.call (.glob 0x72616e6765 (.bi .range) 55804821) [(.num 90 55806624)] 55804825) B706_o ⟨620,4,633,99⟩,
   (.ret (.non 57063315) 57061215)]:=rfl
end Internal.Pl
namespace Internal.Pl
open PySem
noncomputable abbrev Src (σ:S) (l:Nat) (a b:Int):Prop:=σ[l]? = some (.list [.int a,.int b])
theorem src_set {σ:S} {l:Nat} {o o':O} (h:σ[l]? = some o):(σ.set l o')[l]? = some o':=by
  have hl:l < σ.length:=by
    rcases Nat.lt_or_ge l σ.length with h' | h'
    · exact h'
    · rw [List.getElem?_eq_none h'] at h; exact nn h
  rw [List.getElem?_set_self hl]
theorem set_set {σ:S} {l:Nat} {o o':O}:(σ.set l o).set l o'=σ.set l o':=List.set_set ..
theorem g_item0 {σ:S} {l:Nat} {v w:V} (h:σ[l]? = some (.list [v,w])):getItem (.loc l) (.int 0) σ=some (v,σ):=(gi_L h).trans rfl
theorem g_item1 {σ:S} {l:Nat} {v w:V} (h:σ[l]? = some (.list [v,w])):getItem (.loc l) (.int 1) σ=some (w,σ):=(gi_L h).trans rfl
theorem s_item0 {σ:S} {l:Nat} {v w u:V} (h:σ[l]? = some (.list [v,w])):setItem (.loc l) (.int 0) u σ=some (σ.set l (.list [u,w])):=(si_L h).trans rfl
theorem s_item1 {σ:S} {l:Nat} {v w u:V} (h:σ[l]? = some (.list [v,w])):setItem (.loc l) (.int 1) u σ=some (σ.set l (.list [v,u])):=(si_L h).trans rfl
theorem b_int {i:Int} {σ:S}:builtin .int [.int i] σ=some (.int i,σ):=rfl
theorem o_mod {a b:Int} {σ:S} (h:0 < b) (hs:small b=true):binop .Mod (.int a) (.int b) σ=some (.int (Int.fmod a b),σ):=by
  show ((if decide (0 < b) && small b then some (Int.fmod a b) else none).map fun z=>(V.int z,σ))=_
  rw [hs,decide_eq_true h]; rfl
theorem o_div {a b:Int} {σ:S} (h:0 < b) (hs:small b=true):binop .FloorDiv (.int a) (.int b) σ=some (.int (Int.fdiv a b),σ):=by
  show ((if decide (0 < b) && small b then some (Int.fdiv a b) else none).map fun z=>(V.int z,σ))=_
  rw [hs,decide_eq_true h]; rfl
theorem o_mul {a b:Int} {σ:S} (hs:(small a || small b)=true):binop .Mult (.int a) (.int b) σ=some (.int (a * b),σ):=by
  show (if small a || small b then _ else _)=_
  rw [hs]; rfl
theorem o_add {a b:Int} {σ:S}:binop .Add (.int a) (.int b) σ=some (.int (a + b),σ):=rfl
theorem o_sub {a b:Int} {σ:S}:binop .Sub (.int a) (.int b) σ=some (.int (a - b),σ):=rfl
theorem q_gt {a b:Int} {σ:S}:cmpop .Gt (.int a) (.int b) σ=some (decide (b < a)):=rfl
theorem small_of {i:Int} (h : -(2 ^ 62) < i) (h':i < 2 ^ 62):small i=true:=by
  simp only [small,decide_eq_true h,decide_eq_true h',Bool.and_self]
theorem take_ok {σ:S} {l:Nat} {a b:Int} (h:Src σ l a b) {top:Int} (ht:0 < top) (ht':top < 1000) (n:Nat) :
    ∃ d a' b',0≤d∧d < top∧cf TB FT (n + 1) 628 [.loc l,.int top] σ=some (.int d,σ.set l (.list [.int a',.int b'])):=by
  have hs:small top=true:=small_of (Int.lt_trans (by decide) ht) (Int.lt_trans ht' (by decide))
  by_cases ha:0 < a
  · refine ⟨Int.fmod a top,Int.fdiv a top,b,Int.fmod_nonneg_of_pos a ht,Int.fmod_lt_of_pos a ht,?_⟩
    rw [cf_628]
    simp only [EV,F628,g_item0 h,g_item1 h,s_item0 h,b_int,o_mod ht hs,o_div ht hs,q_gt,decide_eq_true ha]
  · have h1:∀ x:Int,small (Int.fmod x 2147483647)=true:=fun x =>
      small_of (by have:=Int.fmod_nonneg_of_pos x (b:=2147483647) (by decide); exact Int.lt_of_lt_of_le (by decide) this) (by have:=Int.fmod_lt_of_pos x (b:=2147483647) (by decide); exact Int.lt_trans this (by decide))
    refine ⟨_,a,Int.fmod (b * 39373 + 7) 2147483647,Int.fmod_nonneg_of_pos (Int.fdiv (Int.fmod (Int.fmod (b * 39373 + 7) 2147483647 * Int.fmod (b * 39373 + 7) 2147483647) 2147483629) 32) ht,Int.fmod_lt_of_pos _ ht,?_⟩
    rw [cf_628]
    have hz:=src_set (o':=.list [.int a,.int (Int.fmod (b * 39373 + 7) 2147483647)]) h
    have s1:small 39373=true:=by decide
    simp only [EV,F628,g_item0 h,g_item1 h,s_item1 h,b_int,o_mod ht hs,o_mul,s1,o_add,o_mod (b:=2147483647) (by decide) (by decide),o_mod (b:=2147483629) (by decide) (by decide),o_div (b:=32) (by decide) (by decide),q_gt,decide_eq_false ha,g_item1 hz,h1]
noncomputable abbrev tInt:V:=.tup [.str 0x696e74,.str 0x696e74]
noncomputable abbrev tSmall:V:=.tup [.str 0x696e74,.str 0x696e7438]
noncomputable abbrev tBool:V:=.tup [.str 0x626f6f6c]
noncomputable abbrev tSlice:V:=.tup [.str 0x736c696365,tInt]
noncomputable abbrev tArr:V:=.tup [.str 0x6172726179,.int 3,tInt]
noncomputable abbrev tAny:V:=.tup [.str 0x696e74657266616365,.tup []]
noncomputable abbrev tPtr (t:V):V:=.tup [.str 0x707472,t]
noncomputable abbrev vMark (t:V) (k:Int):V:=.tup [.str 0x63616c6c,t,.int 0,.tup [.str 0x666e,.str 0x6d61696e2e6d61726b],.tup [.tup [.str 0x636f6e7374,tInt,.int 0,.int k]]]
inductive Num where
  | mark (k:Int) | glob | zero | conv (k:Int) | bin (plus:Bool) (a b:Num) | deref | asrt (a:Num)
noncomputable abbrev opS (b:Bool):Nat:=cond b 0x2b 0x2d
noncomputable def Num.toV:Num→V
  | .mark k=>vMark tInt k
  | .glob=>.tup [.str 0x676c6f62616c,tInt,.int 0,.str 0x6d61696e2e67]
  | .zero=>.tup [.str 0x7a65726f,tInt,.int 0]
  | .conv k=>.tup [.str 0x636f6e76657274,tInt,.int 0,vMark tSmall k]
  | .bin p a b=>.tup [.str 0x62696e617279,tInt,.int 0,.str (opS p),a.toV,b.toV]
  | .deref=>.tup [.str 0x6465726566,tInt,.int 0,.tup [.str 0x61646472657373,tPtr tInt,.int 0,.tup [.str 0x6c6f63616c,tInt,.int 0,.int 1]]]
  | .asrt a=>.tup [.str 0x617373657274,tInt,.int 0,.tup [.str 0x66616365,tAny,.int 0,a.toV],tInt,.bool false]
noncomputable def Num.h:Num→Nat
  | .bin _ a b=>max a.h b.h + 1
  | .asrt a=>a.h + 1
  | _=>1
noncomputable def numO:Option Num→V
  | none=>.none
  | some a=>a.toV
noncomputable def hO:Option Num→Nat
  | none=>0
  | some a=>a.h
inductive Row where
  | held | nil | row (a b:Num) | cut (w:Option Row) (lo hi mx:Option Num)
noncomputable def Row.toV:Row→V
  | .held=>.tup [.str 0x6c6f63616c,tSlice,.int 0,.int 0]
  | .nil=>.tup [.str 0x6e696c,tSlice,.int 0]
  | .row a b=>.tup [.str 0x726f77,tSlice,.int 0,.int 2,.tup [.tup [.int 0,a.toV],.tup [.int 1,b.toV]]]
  | .cut none lo hi mx=>.tup [.str 0x637574,tSlice,.int 0,.tup [.str 0x6c6f63616c,tArr,.int 0,.int 2],numO lo,numO hi,numO mx]
  | .cut (some w) lo hi mx=>.tup [.str 0x637574,tSlice,.int 0,w.toV,numO lo,numO hi,numO mx]
noncomputable def Row.h:Row→Nat
  | .row a b=>max a.h b.h + 1
  | .cut none lo hi mx=>max (hO lo) (max (hO hi) (hO mx)) + 1
  | .cut (some w) lo hi mx=>max w.h (max (hO lo) (max (hO hi) (hO mx))) + 1
  | _=>1
inductive Tru where
  | mark (k:Int) | const (b:Bool) | not (a:Tru) | lazy (isAnd:Bool) (a b:Tru)
noncomputable abbrev lzS (b:Bool):Nat:=cond b 0x2626 0x7c7c
noncomputable def Tru.toV:Tru→V
  | .mark k=>vMark tBool k
  | .const b=>.tup [.str 0x636f6e7374,tBool,.int 0,.bool b]
  | .not a=>.tup [.str 0x756e617279,tBool,.int 0,.str 0x21,a.toV]
  | .lazy c a b=>.tup [.str 0x6c617a79,tBool,.int 0,.str (lzS c),a.toV,b.toV]
noncomputable def Tru.h:Tru→Nat
  | .not a=>a.h + 1
  | .lazy _ a b=>max a.h b.h + 1
  | _=>1
noncomputable abbrev askV (a:Num):V:=.tup [.str 0x617373657274,.tup [.str 0x7475706c65,.tup [tInt,tBool]],.int 0,.tup [.str 0x66616365,tAny,.int 0,a.toV],tInt,.bool true]
theorem one_ok {σ:S} {l:Nat} {a b:Int} (h:Src σ l a b) (x y:V) (n:Nat) :
    ∃ (c:Bool) (a' b':Int),cf TB FT (n + 2) 635 [.loc l,.lst [x,y]] σ=some (cond c x y,σ.set l (.list [.int a',.int b'])):=by
  refine e3_3 (take_ok h (top:=2) (by decide) (by decide) n) fun d a' b' h1 h2 h3=>?_
  refine ⟨d == 0,a',b',?_⟩
  have hl:∀ σ:S,builtin .len [.lst [x,y]] σ=some (.int 2,σ):=fun _=>rfl
  rw [cf_635]
  have hd:d=0 ∨ d=1:=by lia
  rcases hd with rfl | rfl <;>
  · simp only [EV,F635,hl,h3]
    rfl
theorem mark_ok {σ:S} {l:Nat} {a b:Int} (h:Src σ l a b) (t:V) (n:Nat) :
    ∃ (k a' b':Int),cf TB FT (n + 2) 642 [.loc l,t] σ=some (vMark t k,σ.set l (.list [.int a',.int b'])):=by
  refine e3_3 (take_ok h (top:=90) (by decide) (by decide) n) fun d a' b' h1 h2 h3=>?_
  refine ⟨d,a',b',?_⟩
  rw [cf_642]
  simp only [EV,F642,h3]
theorem q_gtn {σ:S} {a b:Int}:cmpop .Gt (.int a) (.int b) σ=some (decide (b < a)):=rfl
theorem nsub {d:Nat}:((d + 1:Nat):Int) - 1=(d:Int):=by lia
theorem npos {d:Nat}:decide ((0:Int) < ((d + 1:Nat):Int))=true:=decide_eq_true (Int.natCast_pos.mpr (Nat.succ_pos _))
theorem nzer:decide ((0:Int) < ((0:Nat):Int))=false:=rfl
theorem gek {k c n:Nat} (h:c + k≤n):∃ m,n=m + k:=⟨n - k,(Nat.sub_add_cancel (Nat.le_trans (Nat.le_add_left ..) h)).symm⟩
theorem nk {e m c:Nat} (hn:2 * (e + 1) + c≤m + 4):2 * e + c≤m + 3:=by (apply le1;assumption;simp +arith only)
theorem dN {N:Nat} {p:Int→Prop} {d:Int} (h0:0≤d) (h1:d < N) (h:∀ k:Nat,k < N→p k):p d:=by
  refine e1_1 (Int.eq_ofNat_of_zero_le h0) ?_;rintro k rfl
  exact h k (Int.ofNat_lt.mp h1)
theorem dd2 {d:Int} (h0:0≤d) (h1:d < 2):d=0 ∨ d=1:=dN (N:=2) (p:=fun d=>d=0 ∨ d=1) h0 h1 (by decide)
theorem dd3 {d:Int} (h0:0≤d) (h1:d < 3):d=0 ∨ d=1 ∨ d=2:=dN (N:=3) (p:=fun d=>d=0 ∨ d=1 ∨ d=2) h0 h1 (by decide)
theorem dd5 {d:Int} (h0:0≤d) (h1:d < 5):d=0 ∨ d=1 ∨ d=2 ∨ d=3 ∨ d=4:=dN (N:=5) (p:=fun d=>d=0 ∨ d=1 ∨ d=2 ∨ d=3 ∨ d=4) h0 h1 (by decide)
theorem dd7 {d:Int} (h0:0≤d) (h1:d < 7):d=0 ∨ d=1 ∨ d=2 ∨ d=3 ∨ d=4 ∨ d=5 ∨ d=6:=dN (N:=7) (p:=fun d=>d=0 ∨ d=1 ∨ d=2 ∨ d=3 ∨ d=4 ∨ d=5 ∨ d=6) h0 h1 (by decide)
theorem num_ok:∀ (d n:Nat),2 * d + 4≤n→∀ {σ:S} {l:Nat} {a b:Int},Src σ l a b →
    ∃ (t:Num) (a' b':Int),t.h≤d + 1∧cf TB FT n 649 [.loc l,.int d] σ=some (t.toV,σ.set l (.list [.int a',.int b']))
  | 0,n,hn,σ,l,a,b,h=>by
    refine e1_1 (gek hn) ?_;rintro m rfl
    refine e3_3 (take_ok h (top:=3) (by decide) (by decide) (m + 2)) fun d a1 b1 h1 h2 h3=>?_
    have hd:d=0 ∨ d=1 ∨ d=2:=dd3 h1 h2
    rcases hd with rfl | rfl | rfl
    · refine e3_1 (mark_ok (src_set (o':=.list [.int a1,.int b1]) h) tInt (m + 1)) fun k a2 b2 hk=>?_
      refine ⟨.mark k,a2,b2,Nat.le_refl _,?_⟩
      rw [cf_649]
      simp only [EV,F649,q_gtn,nzer,h3,Int.reduceBEq,hk,set_set,Num.toV]
    · refine ⟨.glob,a1,b1,Nat.le_refl _,?_⟩
      rw [cf_649]
      simp only [EV,F649,q_gtn,nzer,h3,Int.reduceBEq,Num.toV]
    · refine ⟨.zero,a1,b1,Nat.le_refl _,?_⟩
      rw [cf_649]
      simp only [EV,F649,q_gtn,nzer,h3,Int.reduceBEq,Num.toV]
  | e + 1,n,hn,σ,l,a,b,h=>by
    refine e1_1 (gek hn) ?_;rintro m rfl
    refine e3_3 (take_ok h (top:=7) (by decide) (by decide) (m + 2)) fun d a1 b1 h1 h2 h3=>?_
    have hd:d=0 ∨ d=1 ∨ d=2 ∨ d=3 ∨ d=4 ∨ d=5 ∨ d=6:=dd7 h1 h2
    have hs:=src_set (o':=.list [.int a1,.int b1]) h
    rcases hd with rfl | rfl | rfl | rfl | rfl | rfl | rfl
    · refine e3_1 (mark_ok hs tInt (m + 1)) fun k a2 b2 hk=>?_
      refine ⟨.mark k,a2,b2,Nat.succ_le_succ (Nat.zero_le _),?_⟩
      rw [cf_649]
      simp only [EV,F649,q_gtn,npos,h3,Int.reduceBEq,hk,set_set,Num.toV]
    · refine ⟨.glob,a1,b1,Nat.succ_le_succ (Nat.zero_le _),?_⟩
      rw [cf_649]
      simp only [EV,F649,q_gtn,npos,h3,Int.reduceBEq,Num.toV]
    · refine ⟨.zero,a1,b1,Nat.succ_le_succ (Nat.zero_le _),?_⟩
      rw [cf_649]
      simp only [EV,F649,q_gtn,npos,h3,Int.reduceBEq,Num.toV]
    · refine e3_1 (mark_ok hs tSmall (m + 1)) fun k a2 b2 hk=>?_
      refine ⟨.conv k,a2,b2,Nat.succ_le_succ (Nat.zero_le _),?_⟩
      rw [cf_649]
      simp only [EV,F649,q_gtn,npos,h3,Int.reduceBEq,hk,set_set,Num.toV]
    · refine e3_1 (one_ok hs (.str 0x2b) (.str 0x2d) (m + 1)) fun c a2 b2 hk=>?_
      rw [set_set] at hk
      have hs2:=src_set (o':=.list [.int a2,.int b2]) h
      refine e3_2 (num_ok e (m + 3) (nk hn) hs2) fun t1 a3 b3 i1 i2=>?_
      rw [set_set] at i2
      have hs3:=src_set (o':=.list [.int a3,.int b3]) h
      refine e3_2 (num_ok e (m + 3) (nk hn) hs3) fun t2 a4 b4 j1 j2=>?_
      rw [set_set] at j2
      refine ⟨.bin c t1 t2,a4,b4,Nat.succ_le_succ (Nat.max_le.mpr ⟨i1,j1⟩),?_⟩
      have hc:cond c (V.str 0x2b) (V.str 0x2d) = .str (opS c):=by induction c using Bool.casesOn <;> rfl
      rw [cf_649]
      simp only [EV,F649,q_gtn,npos,h3,Int.reduceBEq,hk,set_set,Num.toV,o_sub,nsub,i2,j2,hc]
    · refine ⟨.deref,a1,b1,Nat.succ_le_succ (Nat.zero_le _),?_⟩
      rw [cf_649]
      simp only [EV,F649,q_gtn,npos,h3,Int.reduceBEq,Num.toV]
    · refine e3_2 (num_ok e (m + 3) (nk hn) hs) fun t1 a3 b3 i1 i2=>?_
      rw [set_set] at i2
      refine ⟨.asrt t1,a3,b3,Nat.succ_le_succ i1,?_⟩
      rw [cf_649]
      simp only [EV,F649,q_gtn,npos,h3,Int.reduceBEq,set_set,Num.toV,o_sub,nsub,i2]
end Internal.Pl
namespace Internal.Pl
open PySem
theorem bound_ok (d n:Nat) (hn:2 * d + 6≤n) {σ:S} {l:Nat} {a b:Int} (h:Src σ l a b) :
    ∃ (t:Option Num) (a' b':Int),hO t≤d + 1∧cf TB FT n 656 [.loc l,.int d] σ=some (numO t,σ.set l (.list [.int a',.int b'])):=by
  obtain ⟨m,rfl⟩:∃ m,n=m + 4:=⟨n - 4,by (refine (Nat.sub_add_cancel (le1 hn ?_)).symm;simp +arith only)⟩
  refine e3_3 (take_ok h (top:=3) (by decide) (by decide) (m + 2)) fun x a1 b1 h1 h2 h3=>?_
  have hs:=src_set (o':=.list [.int a1,.int b1]) h
  by_cases hx:x=0
  · subst hx
    refine ⟨none,a1,b1,Nat.zero_le _,?_⟩
    rw [cf_656]
    simp only [EV,F656,h3,Int.reduceBEq,numO]
  · refine e3_2 (num_ok d (m + 3) (by (apply le1;assumption;simp +arith only)) hs) fun t a2 b2 i1 i2=>?_
    rw [set_set] at i2
    refine ⟨some t,a2,b2,i1,?_⟩
    have hb:(x == 0)=false:=beq_false_of_ne hx
    rw [cf_656]
    simp only [EV,F656,h3,hb,numO,i2]
theorem row_ok:∀ (d n:Nat),2 * d + 8≤n→∀ {σ:S} {l:Nat} {a b:Int},Src σ l a b →
    ∃ (t:Row) (a' b':Int),t.h≤d + 1∧cf TB FT n 663 [.loc l,.int d] σ=some (t.toV,σ.set l (.list [.int a',.int b']))
  | 0,n,hn,σ,l,a,b,h=>by
    obtain ⟨m,rfl⟩:∃ m,n=m + 4:=⟨n - 4,by (refine (Nat.sub_add_cancel (le1 hn ?_)).symm;simp +arith only)⟩
    refine e3_3 (take_ok h (top:=2) (by decide) (by decide) (m + 2)) fun d a1 b1 h1 h2 h3=>?_
    have hd:d=0 ∨ d=1:=dd2 h1 h2
    rcases hd with rfl | rfl
    · refine ⟨.held,a1,b1,Nat.le_refl _,?_⟩
      rw [cf_663]
      simp only [EV,F663,q_gtn,nzer,h3,Int.reduceBEq,Row.toV]
    · refine ⟨.nil,a1,b1,Nat.le_refl _,?_⟩
      rw [cf_663]
      simp only [EV,F663,q_gtn,nzer,h3,Int.reduceBEq,Row.toV]
  | e + 1,n,hn,σ,l,a,b,h=>by
    obtain ⟨m,rfl⟩:∃ m,n=m + 4:=⟨n - 4,by (refine (Nat.sub_add_cancel (le1 hn ?_)).symm;simp +arith only)⟩
    refine e3_3 (take_ok h (top:=5) (by decide) (by decide) (m + 2)) fun d a1 b1 h1 h2 h3=>?_
    have hd:d=0 ∨ d=1 ∨ d=2 ∨ d=3 ∨ d=4:=dd5 h1 h2
    have hs:=src_set (o':=.list [.int a1,.int b1]) h
    have z0:(0:Int)=((0:Nat):Int):=rfl
    rcases hd with rfl | rfl | rfl | rfl | rfl
    · refine ⟨.held,a1,b1,Nat.succ_le_succ (Nat.zero_le _),?_⟩
      rw [cf_663]
      simp only [EV,F663,q_gtn,npos,h3,Int.reduceBEq,Row.toV]
    · refine ⟨.nil,a1,b1,Nat.succ_le_succ (Nat.zero_le _),?_⟩
      rw [cf_663]
      simp only [EV,F663,q_gtn,npos,h3,Int.reduceBEq,Row.toV]
    · refine e3_2 (num_ok e (m + 3) (by (apply le1;assumption;simp +arith only)) hs) fun t1 a3 b3 i1 i2=>?_
      rw [set_set] at i2
      have hs3:=src_set (o':=.list [.int a3,.int b3]) h
      refine e3_2 (num_ok e (m + 3) (by (refine le1 hn ?_;simp +arith only)) hs3) fun t2 a4 b4 j1 j2=>?_
      rw [set_set] at j2
      refine ⟨.row t1 t2,a4,b4,Nat.succ_le_succ (Nat.max_le.mpr ⟨i1,j1⟩),?_⟩
      rw [cf_663]
      simp only [EV,F663,q_gtn,npos,h3,Int.reduceBEq,set_set,Row.toV,o_sub,nsub,i2,j2]
    · refine e3_2 (bound_ok e (m + 3) (by (apply le1;assumption;simp +arith only)) hs) fun t1 a3 b3 i1 i2=>?_
      rw [set_set] at i2
      have hs3:=src_set (o':=.list [.int a3,.int b3]) h
      refine e3_2 (bound_ok e (m + 3) (by (refine le1 hn ?_;simp +arith only)) hs3) fun t2 a4 b4 j1 j2=>?_
      rw [set_set] at j2
      have hs4:=src_set (o':=.list [.int a4,.int b4]) h
      refine e3_2 (bound_ok 0 (m + 3) (by (refine le1 hn ?_;simp +arith only)) hs4) fun t3 a5 b5 k1 k2=>?_
      rw [set_set] at k2
      rw [← z0] at k2
      refine ⟨.cut none t1 t2 t3,a5,b5,Nat.succ_le_succ (Nat.max_le.mpr ⟨i1,Nat.max_le.mpr ⟨j1,Nat.le_trans k1 (Nat.le_add_left ..)⟩⟩),?_⟩
      rw [cf_663]
      simp only [EV,F663,q_gtn,npos,h3,Int.reduceBEq,set_set,Row.toV,o_sub,nsub,i2,j2,k2]
    · refine e3_2 (row_ok e (m + 3) (nk hn) hs) fun w a2 b2 u1 u2=>?_
      rw [set_set] at u2
      have hs2:=src_set (o':=.list [.int a2,.int b2]) h
      refine e3_2 (bound_ok e (m + 3) (by (refine le1 hn ?_;simp +arith only)) hs2) fun t1 a3 b3 i1 i2=>?_
      rw [set_set] at i2
      have hs3:=src_set (o':=.list [.int a3,.int b3]) h
      refine e3_2 (bound_ok e (m + 3) (by (refine le1 hn ?_;simp +arith only)) hs3) fun t2 a4 b4 j1 j2=>?_
      rw [set_set] at j2
      have hs4:=src_set (o':=.list [.int a4,.int b4]) h
      refine e3_2 (bound_ok 0 (m + 3) (by (refine le1 hn ?_;simp +arith only)) hs4) fun t3 a5 b5 k1 k2=>?_
      rw [set_set] at k2
      rw [← z0] at k2
      refine ⟨.cut (some w) t1 t2 t3,a5,b5,Nat.succ_le_succ (Nat.max_le.mpr ⟨u1,Nat.max_le.mpr ⟨i1,Nat.max_le.mpr ⟨j1,Nat.le_trans k1 (Nat.le_add_left ..)⟩⟩⟩),?_⟩
      rw [cf_663]
      simp only [EV,F663,q_gtn,npos,h3,Int.reduceBEq,set_set,Row.toV,o_sub,nsub,i2,j2,k2,u2]
theorem tru_ok:∀ (d n:Nat),2 * d + 8≤n→∀ {σ:S} {l:Nat} {a b:Int},Src σ l a b →
    ∃ (t:Tru) (a' b':Int),t.h≤d + 1∧cf TB FT n 670 [.loc l,.int d] σ=some (t.toV,σ.set l (.list [.int a',.int b']))
  | 0,n,hn,σ,l,a,b,h=>by
    obtain ⟨m,rfl⟩:∃ m,n=m + 4:=⟨n - 4,by (refine (Nat.sub_add_cancel (le1 hn ?_)).symm;simp +arith only)⟩
    refine e3_3 (take_ok h (top:=2) (by decide) (by decide) (m + 2)) fun d a1 b1 h1 h2 h3=>?_
    have hd:d=0 ∨ d=1:=dd2 h1 h2
    have hs:=src_set (o':=.list [.int a1,.int b1]) h
    rcases hd with rfl | rfl
    · refine e3_1 (mark_ok hs tBool (m + 1)) fun k a2 b2 hk=>?_
      rw [set_set] at hk
      refine ⟨.mark k,a2,b2,Nat.le_refl _,?_⟩
      rw [cf_670]
      simp only [EV,F670,q_gtn,nzer,h3,Int.reduceBEq,Tru.toV,hk]
    · refine e3_3 (take_ok hs (top:=2) (by decide) (by decide) (m + 2)) fun x a2 b2 i1 i2 i3=>?_
      rw [set_set] at i3
      refine ⟨.const (x == 0),a2,b2,Nat.le_refl _,?_⟩
      rw [cf_670]
      simp only [EV,F670,q_gtn,nzer,h3,Int.reduceBEq,Tru.toV,i3]
  | e + 1,n,hn,σ,l,a,b,h=>by
    obtain ⟨m,rfl⟩:∃ m,n=m + 4:=⟨n - 4,by (refine (Nat.sub_add_cancel (le1 hn ?_)).symm;simp +arith only)⟩
    refine e3_3 (take_ok h (top:=5) (by decide) (by decide) (m + 2)) fun d a1 b1 h1 h2 h3=>?_
    have hd:d=0 ∨ d=1 ∨ d=2 ∨ d=3 ∨ d=4:=dd5 h1 h2
    have hs:=src_set (o':=.list [.int a1,.int b1]) h
    rcases hd with rfl | rfl | rfl | hd
    · refine e3_1 (mark_ok hs tBool (m + 1)) fun k a2 b2 hk=>?_
      rw [set_set] at hk
      refine ⟨.mark k,a2,b2,Nat.succ_le_succ (Nat.zero_le _),?_⟩
      rw [cf_670]
      simp only [EV,F670,q_gtn,npos,h3,Int.reduceBEq,Tru.toV,hk]
    · refine e3_3 (take_ok hs (top:=2) (by decide) (by decide) (m + 2)) fun x a2 b2 i1 i2 i3=>?_
      rw [set_set] at i3
      refine ⟨.const (x == 0),a2,b2,Nat.succ_le_succ (Nat.zero_le _),?_⟩
      rw [cf_670]
      simp only [EV,F670,q_gtn,npos,h3,Int.reduceBEq,Tru.toV,i3]
    · refine e3_2 (tru_ok e (m + 3) (nk hn) hs) fun t1 a3 b3 i1 i2=>?_
      rw [set_set] at i2
      refine ⟨.not t1,a3,b3,Nat.succ_le_succ i1,?_⟩
      rw [cf_670]
      simp only [EV,F670,q_gtn,npos,h3,Int.reduceBEq,Tru.toV,o_sub,nsub,i2]
    · refine e3_1 (one_ok hs (.str 0x2626) (.str 0x7c7c) (m + 1)) fun c a2 b2 hk=>?_
      rw [set_set] at hk
      have hs2:=src_set (o':=.list [.int a2,.int b2]) h
      refine e3_2 (tru_ok e (m + 3) (nk hn) hs2) fun t1 a3 b3 i1 i2=>?_
      rw [set_set] at i2
      have hs3:=src_set (o':=.list [.int a3,.int b3]) h
      refine e3_2 (tru_ok e (m + 3) (nk hn) hs3) fun t2 a4 b4 j1 j2=>?_
      rw [set_set] at j2
      refine ⟨.lazy c t1 t2,a4,b4,Nat.succ_le_succ (Nat.max_le.mpr ⟨i1,j1⟩),?_⟩
      have hc:cond c (V.str 0x2626) (V.str 0x7c7c) = .str (lzS c):=by induction c using Bool.casesOn <;> rfl
      rw [cf_670]
      rcases hd with rfl | rfl <;>
      simp only [EV,F670,q_gtn,npos,h3,Int.reduceBEq,Tru.toV,o_sub,nsub,i2,j2,hk,hc]
theorem b_max {a b:Int} {σ:S}:builtin .max [.int a,.int b] σ=some (.int (if b > a then b else a),σ):=rfl
theorem b_intb {b:Bool} {σ:S}:builtin .int [.bool b] σ=some (.int (if b then 1 else 0),σ):=rfl
theorem q_ge {a b:Int} {σ:S}:cmpop .GtE (.int a) (.int b) σ=some (decide (b≤a)):=rfl
theorem o_pow {σ:S}:binop .Pow (.int 10) (.int 18) σ=some (.int 1000000000000000000,σ):=rfl
noncomputable def pL (i:Int):Int:=if (-1 - i) > i then (-1 - i) else i
noncomputable def pA (i:Int):Int:=pL i * (if decide (1000000000000000000≤pL i)=true then 1 else 0)
noncomputable def pB (i:Int):Int:=Int.fmod ((Int.fmod (pL i) 2147483629 + 17) * 48271) 2147483647
theorem pool_ok (is:List Int) (hl:is.length≤1000000000000000000) (n:Nat) {σ:S} :
    ∃ a b,cf TB FT (n + 1) 621 [.lst (is.map .int)] σ=some (.loc σ.length,σ++[.list [.int a,.int b]]):=by
  have hlen:∀ σ:S,builtin .len [.lst (is.map .int)] σ=some (.int (is.length:Nat),σ):=by
    intro σ
    show ((if lenOk (is.map V.int).length then some (is.map V.int).length else none):Option Nat).map _=_
    rw [List.length_map,show lenOk is.length=true from Nat.ble_eq_true_of_le (by assumption)]; rfl
  have s1:∀ c:Bool,small (if c=true then 1 else 0)=true:=by decide
  have s3:small 48271=true:=by decide
  induction is using List.casesOn with
  | nil =>
    refine ⟨pA 0,pB 0,?_⟩
    rw [cf_621]
    have hq:decide ((0:Int) < ((([]:List Int).length:Nat):Int))=false:=rfl
    simp only [EV,F621,pA,pB,pL,q_gt,hlen,hq,b_int,b_max,b_intb,o_sub,q_ge,o_pow,o_mul,s1,o_mod (b:=2147483647) (by decide) (by decide),o_mod (b:=2147483629) (by decide) (by decide),o_add,s3]
    rfl
  | cons i r =>
    refine ⟨pA i,pB i,?_⟩
    rw [cf_621]
    have hq:decide ((0:Int) < (((i :: r).length:Nat):Int))=true:=decide_eq_true (by simp only [List.length_cons]; exact Int.natCast_pos.mpr (Nat.succ_pos _))
    have hi:∀ σ:S,getItem (.lst ((i :: r).map .int)) (.int 0) σ=some (.int i,σ):=fun _=>rfl
    simp only [EV,F621,pA,pB,pL,q_gt,hlen,hq,hi,b_int,b_max,b_intb,o_sub,q_ge,o_pow,o_mul,s1,o_mod (b:=2147483647) (by decide) (by decide),o_mod (b:=2147483629) (by decide) (by decide),o_add,s3]
    rfl
end Internal.Pl
namespace Internal.Pl
open PySem
inductive Op where
  | reg (r:Nat) | cst (t v:V)
noncomputable def Op.toV:Op→V
  | .reg r=>.tup [.str 0x726567,.int (r:Nat)]
  | .cst t v=>.tup [.str 0x636f6e7374,t,v]
noncomputable def opO:Option Op→V
  | none=>.none
  | some o=>o.toV
inductive Ins where
  | mark (r:Nat) (k:Int) | load (r:Nat) (o:Op) | move (r:Nat) (o:Op) | conv (r:Nat) (o:Op) | face (r:Nat) (o:Op)
  | unary (r:Nat) (o:Op) | binary (r:Nat) (p:Bool) (a b:Op) | asrt (r:Nat) (t:Option Nat) (o:Op)
  | mksl (r:Nat) (site:Nat) | elem (r:Nat) (o:Op) (place:Int) | store (s o:Op) | cut (r:Nat) (w:Op) (lo hi mx:Option Op) (t:V)
noncomputable abbrev vMany:V:=.tup [.str 0x636f6e7374,tInt,.int 2]
noncomputable def natO:Option Nat→V
  | none=>.none
  | some n=>.int (n:Nat)
noncomputable def Ins.toV:Ins→V
  | .mark r k=>.tup [.str 0x63616c6c,.tup [.int (r:Nat)],.tup [.str 0x666e,.str 0x6d61696e2e6d61726b],.tup [.tup [.str 0x636f6e7374,tInt,.int k]]]
  | .load r o=>.tup [.str 0x6c6f6164,.int (r:Nat),o.toV]
  | .move r o=>.tup [.str 0x6d6f7665,.int (r:Nat),o.toV]
  | .conv r o=>.tup [.str 0x636f6e76657274,.int (r:Nat),o.toV,tSmall,tInt]
  | .face r o=>.tup [.str 0x66616365,.int (r:Nat),o.toV,tInt]
  | .unary r o=>.tup [.str 0x756e617279,.int (r:Nat),.str 0x21,o.toV,tBool]
  | .binary r p a b=>.tup [.str 0x62696e617279,.int (r:Nat),.str (opS p),a.toV,b.toV,tInt]
  | .asrt r t o=>.tup [.str 0x617373657274,.int (r:Nat),natO t,o.toV,tInt,tAny]
  | .mksl r s=>.tup [.str 0x6d616b65736c696365,.int (r:Nat),tSlice,vMany,vMany,.tup [.str 0x6d61696e2e66,.int (s:Nat)]]
  | .elem r o k=>.tup [.str 0x656c656d707472,.int (r:Nat),o.toV,.tup [.str 0x636f6e7374,tInt,.int k]]
  | .store s o=>.tup [.str 0x73746f7265,s.toV,o.toV]
  | .cut r w lo hi mx t=>.tup [.str 0x637574,.int (r:Nat),w.toV,opO lo,opO hi,opO mx,t]
inductive Term where
  | jump (b:Nat) | branch (o:Op) (a b:Nat) | ret (os:List Op)
noncomputable def Term.toV:Term→V
  | .jump b=>.tup [.str 0x6a756d70,.int (b:Nat)]
  | .branch o a b=>.tup [.str 0x6272616e6368,o.toV,.int (a:Nat),.int (b:Nat)]
  | .ret os=>.tup [.str 0x72657475726e,.tup (os.map Op.toV)]
noncomputable def termO:Option Term→V
  | none=>.none
  | some t=>t.toV
noncomputable abbrev Blk:=List Ins × Option Term
structure CS where
  regs:List V
  held:List (Int × V)
  blks:List Blk
  here:Nat
  sites:Nat
noncomputable abbrev vRows:V:=.lst [.tup [.str 0x73,tSlice],.tup [.str 0x76,tInt],.tup [.str 0x72,tArr]]
noncomputable abbrev vKnown:V:=.dct [0x76616c7565,0x76616c756573,0x61646472657373] [.fn 206,.fn 213,.fn 174]
noncomputable def wO (p:Nat):O:=.obj [(0x7061636b61676573,.none),(0x6e616d6564,.dct [0x6572726f72,0x72756e74696d652e4572726f72,0x73796e632e4d75746578,0x73796e632e5761697447726f7570] [.inst 558 (p+1),.inst 558 (p+2),.inst 558 (p+3),.inst 558 (p+4)]),(0x676c6f62616c73,.dct [] []),(0x636f6e737473,.dct [] []),(0x66756e6373,.dct [] []),(0x626f64696573,.dct [] []),(0x66696c6573,.dct [] []),(0x73636f706573,.dct [] []),(0x6f72646572,.lst []),(0x737461727473,.lst []),(0x736574746c65,.none),(0x6c6174655f6b657973,.lst []),(0x69735f77686f6c65,.bool true)]
noncomputable def n1O:O:=.obj [(0x70617468,.str 0x6572726f72),(0x7061636b616765,.str 0),(0x756e6465726c79696e67,.tup [.str 0x696e74657266616365,.tup [.tup [.str 0x4572726f72,.tup [.str 0x66756e63,.tup [],.tup [.tup [.str 0x737472696e67]],.bool false]]]]),(0x6d6574686f6473,.dct [] [])]
noncomputable def n2O:O:=.obj [(0x70617468,.str 0x72756e74696d652e4572726f72),(0x7061636b616765,.str 0x72756e74696d65),(0x756e6465726c79696e67,.tup [.str 0x737472696e67]),(0x6d6574686f6473,.dct [0x4572726f72] [.tup [.bool false,.tup [.str 0x66756e63,.tup [],.tup [.tup [.str 0x737472696e67]],.bool false],.str 0x72756e74696d652e4572726f722e4572726f72]])]
noncomputable def n3O:O:=.obj [(0x70617468,.str 0x73796e632e4d75746578),(0x7061636b616765,.str 0x73796e63),(0x756e6465726c79696e67,.tup [.str 0x737472756374,.tup [.tup [.str 0x7374617465,.tup [.str 0x696e74,.str 0x696e74],.bool false]]]),(0x6d6574686f6473,.dct [0x4c6f636b,0x556e6c6f636b] [.tup [.bool true,.tup [.str 0x66756e63,.tup [],.tup [],.bool false],.str 0x73796e632e4d757465782e4c6f636b],.tup [.bool true,.tup [.str 0x66756e63,.tup [],.tup [],.bool false],.str 0x73796e632e4d757465782e556e6c6f636b]])]
noncomputable def n4O:O:=.obj [(0x70617468,.str 0x73796e632e5761697447726f7570),(0x7061636b616765,.str 0x73796e63),(0x756e6465726c79696e67,.tup [.str 0x737472756374,.tup [.tup [.str 0x7374617465,.tup [.str 0x696e74,.str 0x696e74],.bool false]]]),(0x6d6574686f6473,.dct [0x416464,0x446f6e65,0x57616974] [.tup [.bool true,.tup [.str 0x66756e63,.tup [.tup [.str 0x696e74,.str 0x696e74]],.tup [],.bool false],.str 0x73796e632e5761697447726f75702e416464],.tup [.bool true,.tup [.str 0x66756e63,.tup [],.tup [],.bool false],.str 0x73796e632e5761697447726f75702e446f6e65],.tup [.bool true,.tup [.str 0x66756e63,.tup [],.tup [],.bool false],.str 0x73796e632e5761697447726f75702e57616974]])]
noncomputable def tfO:O:=.obj [(0x6b6579,.str 0x6d61696e2e66),(0x6c6f63616c73,vRows),(0x706172616d73,.tup []),(0x726573756c7473,.tup []),(0x6361707475726564,.tup []),(0x626f6479,.tup []),(0x6c69746572616c73,.dct [] [])]
noncomputable abbrev sK (p:Nat) (sites here:Int):M:=[(0x776f726c64,.inst 601 p),(0x74797065645f666e,.inst 290 (p+5)),(0x626f786564,.fset [1,2]),(0x6b6e6f776e,vKnown),(0x68656c64,.loc (p+7)),(0x7369746573,.int sites),(0x6c6f6f7073,.dct [] []),(0x6861735f646566657273,.bool false),(0x73706f74,.int 0),(0x636f6465,.inst 331 (p+9)),(0x68657265,.int here)]
noncomputable def sO (p:Nat) (sites here:Int):O:=.obj (sK p sites here)
noncomputable abbrev cK (r b:Nat):M:=[(0x6b6579,.str 0x6d61696e2e66),(0x706172616d73,.int 0),(0x726567697374657273,.loc r),(0x626c6f636b73,.loc b),(0x6361707475726564,.int 0),(0x726573756c7473,.int 0),(0x7265636f76657279,.none)]
noncomputable def cO (r b:Nat):O:=.obj (cK r b)
noncomputable def bl (p:Nat):Nat→List Blk→S
  | _,[]=>[]
  | i,b :: r=>.list (b.1.map Ins.toV) :: .list [.loc (p + 11 + 2 * i),termO b.2] :: bl p (i + 1) r
noncomputable def bLocs (p n:Nat):List V:=(List.range n).map fun i=>.loc (p + 12 + 2 * i)
noncomputable def fx (p:Nat) (cs:CS):S:=[wO p,n1O,n2O,n3O,n4O,tfO,sO p cs.sites cs.here,.dict cs.held,.list (bLocs p cs.blks.length),cO (p + 10) (p + 8),.list cs.regs]
noncomputable def st (P:S) (cs:CS):S:=P++(fx P.length cs++bl P.length 0 cs.blks)
theorem bl_len (p:Nat):∀ (i:Nat) (bs:List Blk),(bl p i bs).length=2 * bs.length
  | _,[]=>rfl
  | i,b :: r=>by simp only [bl,List.length_cons,bl_len p (i + 1) r]; simp +arith only
theorem bl_ins (p:Nat):∀ (i:Nat) (bs:List Blk) (k:Nat) (b:Blk),bs[k]? = some b→(bl p i bs)[2 * k]? = some (.list (b.1.map Ins.toV))
  | _,[],k,b,h=>by simp at h
  | i,c :: r,0,b,h=>by simp only [List.getElem?_cons_zero,Option.some.injEq] at h; subst h; rfl
  | i,c :: r,k + 1,b,h=>by
    have:2 * (k + 1)=2 * k + 1 + 1:=by simp +arith only
    rw [this]; exact bl_ins p (i + 1) r k b (by simpa using h)
theorem bl_pair (p:Nat):∀ (i:Nat) (bs:List Blk) (k:Nat) (b:Blk),bs[k]? = some b→(bl p i bs)[2 * k + 1]? = some (.list [.loc (p + 11 + 2 * (i + k)),termO b.2])
  | _,[],k,b,h=>by simp at h
  | i,c :: r,0,b,h=>by simp only [List.getElem?_cons_zero,Option.some.injEq] at h; subst h; rfl
  | i,c :: r,k + 1,b,h=>by
    have:2 * (k + 1) + 1=2 * k + 1 + 1 + 1:=by simp +arith only
    rw [this,show i + (k + 1)=(i + 1) + k by simp +arith only]; exact bl_pair p (i + 1) r k b (by simpa using h)
theorem bl_set_ins (p:Nat):∀ (i:Nat) (bs:List Blk) (k:Nat) (b:Blk) (is:List Ins),bs[k]? = some b→(bl p i bs).set (2 * k) (.list (is.map Ins.toV))=bl p i (bs.set k (is,b.2))
  | _,[],k,b,is,h=>by simp at h
  | i,c :: r,0,b,is,h=>by simp only [List.getElem?_cons_zero,Option.some.injEq] at h; subst h; rfl
  | i,c :: r,k + 1,b,is,h=>by
    have:2 * (k + 1)=2 * k + 1 + 1:=by simp +arith only
    rw [this]; simp only [bl,List.set_cons_succ]; rw [bl_set_ins p (i + 1) r k b is (by simpa using h)]
theorem bl_set_pair (p:Nat):∀ (i:Nat) (bs:List Blk) (k:Nat) (b:Blk) (t:Option Term),bs[k]? = some b→(bl p i bs).set (2 * k + 1) (.list [.loc (p + 11 + 2 * (i + k)),termO t])=bl p i (bs.set k (b.1,t))
  | _,[],k,b,is,h=>by simp at h
  | i,c :: r,0,b,is,h=>by simp only [List.getElem?_cons_zero,Option.some.injEq] at h; subst h; rfl
  | i,c :: r,k + 1,b,t,h=>by
    have:2 * (k + 1) + 1=2 * k + 1 + 1 + 1:=by simp +arith only
    rw [this,show i + (k + 1)=(i + 1) + k by simp +arith only]; simp only [bl,List.set_cons_succ]; rw [bl_set_pair p (i + 1) r k b t (by simpa using h)]
theorem bl_app (p:Nat):∀ (i:Nat) (bs:List Blk),bl p i (bs++[([],none)])=bl p i bs++[.list [],.list [.loc (p + 11 + 2 * (i + bs.length)),.none]]
  | i,[]=>by simp [bl,termO]
  | i,c :: r=>by
    simp only [List.cons_append,bl,bl_app p (i + 1) r,List.length_cons]
    rw [show i + 1 + r.length=i + (r.length + 1) by simp +arith only]
theorem pre_get {P L:S} {k:Nat}:(P++L)[P.length + k]? = L[k]?:=by
  rw [List.getElem?_append_right (by exact Nat.le_add_right _ _)]; congr 1; exact Nat.add_sub_cancel_left _ _
theorem pre_set {P L:S} {k:Nat} {o:O}:(P++L).set (P.length + k) o=P++L.set k o:=by
  rw [List.set_append_right _ _ (by exact Nat.le_add_right _ _)]; congr 2; exact Nat.add_sub_cancel_left _ _
theorem st_get {P:S} {cs:CS} {k:Nat} (h:k < 11):(st P cs)[P.length + k]? = (fx P.length cs)[k]?:=by
  rw [st,pre_get,List.getElem?_append_left (by exact h)]
theorem st_ins {P:S} {cs:CS} {k:Nat} {b:Blk} (h:cs.blks[k]? = some b):(st P cs)[P.length + 11 + 2 * k]? = some (.list (b.1.map Ins.toV)):=by
  rw [st,Nat.add_assoc,pre_get,List.getElem?_append_right (by show 11≤_; exact Nat.le_add_right _ _)]
  have:11 + 2 * k - (fx P.length cs).length=2 * k:=by show 11 + 2 * k - 11=_; exact Nat.add_sub_cancel_left _ _
  rw [this]; exact bl_ins _ _ _ _ _ h
theorem st_pair {P:S} {cs:CS} {k:Nat} {b:Blk} (h:cs.blks[k]? = some b):(st P cs)[P.length + 12 + 2 * k]? = some (.list [.loc (P.length + 11 + 2 * k),termO b.2]):=by
  rw [st,Nat.add_assoc,pre_get,List.getElem?_append_right (by show 11≤_; simp +arith only)]
  have:12 + 2 * k - (fx P.length cs).length=2 * k + 1:=by show 12 + 2 * k - 11=_; lia
  rw [this]; have:=bl_pair P.length 0 _ _ _ h; rw [Nat.zero_add] at this; exact this
theorem st_len {P:S} {cs:CS}:(st P cs).length=P.length + 11 + 2 * cs.blks.length:=by
  rw [st,List.length_append,List.length_append,bl_len]; show _ + (11 + _)=_; simp +arith only
theorem st_set {P:S} {cs cs':CS} {k:Nat} {o:O} (h:k < 11) (hb:cs'.blks=cs.blks) (hf:(fx P.length cs).set k o=fx P.length cs'):(st P cs).set (P.length + k) o=st P cs':=by
  rw [st,pre_set,List.set_append_left _ _ (by exact h),hf,st,hb]
theorem st_set_ins {P:S} {cs:CS} {k:Nat} {b:Blk} {is:List Ins} (h:cs.blks[k]? = some b) :
    (st P cs).set (P.length + 11 + 2 * k) (.list (is.map Ins.toV))=st P { cs with blks:=cs.blks.set k (is,b.2) }:=by
  rw [st,Nat.add_assoc,pre_set,List.set_append_right _ _ (by show 11≤_; exact Nat.le_add_right _ _)]
  have:11 + 2 * k - (fx P.length cs).length=2 * k:=by show 11 + 2 * k - 11=_; exact Nat.add_sub_cancel_left _ _
  rw [this,bl_set_ins _ _ _ _ _ _ h,st]
  simp only [fx,List.length_set]
theorem st_set_pair {P:S} {cs:CS} {k:Nat} {b:Blk} {t:Option Term} (h:cs.blks[k]? = some b) :
    (st P cs).set (P.length + 12 + 2 * k) (.list [.loc (P.length + 11 + 2 * k),termO t])=st P { cs with blks:=cs.blks.set k (b.1,t) }:=by
  rw [st,Nat.add_assoc,pre_set,List.set_append_right _ _ (by show 11≤_; simp +arith only)]
  have:12 + 2 * k - (fx P.length cs).length=2 * k + 1:=by show 12 + 2 * k - 11=_; lia
  have hz:=bl_set_pair P.length 0 cs.blks k b t h
  rw [Nat.zero_add] at hz
  rw [this,hz,st]
  simp only [fx,List.length_set]
theorem st_new {P:S} {cs:CS}:((st P cs++[O.list []])++[O.list [.loc (st P cs).length,.none]]).set (P.length + 8) (.list (bLocs P.length cs.blks.length++[.loc (st P cs++[O.list []]).length]))=st P { cs with blks:=cs.blks++[([],none)] }:=by
  have e1:(st P cs++[O.list []])++[O.list [.loc (st P cs).length,.none]] = P++(fx P.length cs++bl P.length 0 (cs.blks++[([],none)])):=by
    rw [bl_app,st_len,Nat.zero_add]
    simp only [st,List.append_assoc,List.cons_append,List.nil_append]
  rw [e1,pre_set,List.set_append_left _ _ (by show 8 < 11; decide)]
  rw [List.length_append,st_len,st]
  have:bLocs P.length cs.blks.length++[V.loc (P.length + 11 + 2 * cs.blks.length + [O.list []].length)] = bLocs P.length (cs.blks.length + 1):=by
    simp only [bLocs,List.range_succ,List.map_append,List.map_cons,List.map_nil,List.length_cons,List.length_nil]
    congr 2
    congr 1; simp +arith only
  rw [this]
  simp only [fx,List.length_append,List.length_cons,List.length_nil,List.set_cons_succ,List.set_cons_zero]
theorem ga {T:Tab} {c l n:Nat} {σ:S} {kvs:M} {v:V} (h:σ[l]? = some (.obj kvs)) (ha:T.attr c n=true) (hk:look kvs n=some v):getAttr T (.inst c l) n σ=some (v,σ):=by
  show (match σ[l]? with | some (.obj kvs)=>if T.attr c n then (look kvs n).map (·,σ) else none | _=>none)=_
  rw [h]; show (if T.attr c n=true then _ else _)=_
  rw [if_pos ha,hk]; rfl
theorem mo {T:Tab} {c l n a:Nat} {σ:S} {kvs:M} (h:σ[l]? = some (.obj kvs)) (hm:T.meth c n=some a) (hk:look kvs n=none):methOk T (.inst c l) n σ=some (some a):=by
  show (T.meth c n).bind _=_
  rw [hm]; show (match σ[l]? with | some (.obj kvs)=>if (look kvs n).isNone then some (some a) else none | _=>none)=_
  rw [h]; show (if (look kvs n).isNone=true then _ else _)=_
  rw [hk]; rfl
theorem mo_app {T:Tab} {l:Nat} {σ:S} {vs:List V} (h:σ[l]? = some (.list vs)):methOk T (.loc l) 0x617070656e64 σ=some none:=by
  unfold methOk
  simp only [h]; rfl
theorem ms_app {l:Nat} {σ:S} {vs:List V} {v:V} (h:σ[l]? = some (.list vs)) (hs:sizeOk vs.length=true):methS l 0x617070656e64 [v] σ=some (.none,σ.set l (.list (vs++[v]))):=by
  unfold methS
  rw [h]; show (if sizeOk vs.length=true then _ else _)=_
  rw [if_pos hs]
theorem sa {T:Tab} {c l n:Nat} {σ:S} {kvs:M} {v:V} (h:σ[l]? = some (.obj kvs)) (ha:T.attr c n=true) (hk:Nat.ble kvs.length 900=true):setAttr T (.inst c l) n v σ=some (σ.set l (.obj (put kvs n v))):=by
  show (match σ[l]? with | some (.obj kvs)=>if T.attr c n && Nat.ble kvs.length 900 then some (σ.set l (.obj (put kvs n v))) else none | _=>none)=_
  rw [h]; show (if (T.attr c n && Nat.ble kvs.length 900)=true then _ else _)=_
  rw [ha,hk]; rfl
theorem bl_len_loc {l:Nat} {σ:S} {vs:List V} (h:σ[l]? = some (.list vs)) (hs:sizeOk vs.length=true):builtin .len [.loc l] σ=some (.int (vs.length:Nat),σ):=by
  have:lenOk vs.length=true:=Nat.ble_eq_true_of_le (Nat.le_trans (Nat.le_of_ble_eq_true hs) (by decide))
  have e:lenOf σ (.loc l)=some vs.length:=by
    unfold lenOf; simp only [h]; rw [if_pos this]
  show (lenOf σ (.loc l)).map _=_
  rw [e]; rfl
theorem ga_world {P:S} {cs:CS}:getAttr TB (.inst 534 (P.length + 6)) 0x776f726c64 (st P cs)=some (.inst 601 P.length,st P cs):=ga (st_get (by decide)) rfl rfl
theorem ga_typed_fn {P:S} {cs:CS}:getAttr TB (.inst 534 (P.length + 6)) 0x74797065645f666e (st P cs)=some (.inst 290 (P.length+5),st P cs):=ga (st_get (by decide)) rfl rfl
theorem ga_boxed {P:S} {cs:CS}:getAttr TB (.inst 534 (P.length + 6)) 0x626f786564 (st P cs)=some (.fset [1,2],st P cs):=ga (st_get (by decide)) rfl rfl
theorem ga_known {P:S} {cs:CS}:getAttr TB (.inst 534 (P.length + 6)) 0x6b6e6f776e (st P cs)=some (vKnown,st P cs):=ga (st_get (by decide)) rfl rfl
theorem ga_held {P:S} {cs:CS}:getAttr TB (.inst 534 (P.length + 6)) 0x68656c64 (st P cs)=some (.loc (P.length+7),st P cs):=ga (st_get (by decide)) rfl rfl
theorem ga_sites {P:S} {cs:CS}:getAttr TB (.inst 534 (P.length + 6)) 0x7369746573 (st P cs)=some (.int (cs.sites:Nat),st P cs):=ga (st_get (by decide)) rfl rfl
theorem ga_code {P:S} {cs:CS}:getAttr TB (.inst 534 (P.length + 6)) 0x636f6465 (st P cs)=some (.inst 331 (P.length+9),st P cs):=ga (st_get (by decide)) rfl rfl
theorem ga_here {P:S} {cs:CS}:getAttr TB (.inst 534 (P.length + 6)) 0x68657265 (st P cs)=some (.int (cs.here:Nat),st P cs):=ga (st_get (by decide)) rfl rfl
theorem gc_key {P:S} {cs:CS}:getAttr TB (.inst 331 (P.length + 9)) 0x6b6579 (st P cs)=some (.str 0x6d61696e2e66,st P cs):=ga (st_get (by decide)) rfl rfl
theorem gc_registers {P:S} {cs:CS}:getAttr TB (.inst 331 (P.length + 9)) 0x726567697374657273 (st P cs)=some (.loc (P.length + 10),st P cs):=ga (st_get (by decide)) rfl rfl
theorem gc_blocks {P:S} {cs:CS}:getAttr TB (.inst 331 (P.length + 9)) 0x626c6f636b73 (st P cs)=some (.loc (P.length + 8),st P cs):=ga (st_get (by decide)) rfl rfl
theorem gt_locals {P:S} {cs:CS}:getAttr TB (.inst 290 (P.length + 5)) 0x6c6f63616c73 (st P cs)=some (vRows,st P cs):=ga (st_get (by decide)) rfl rfl
theorem mo_new_register {P:S} {cs:CS}:methOk TB (.inst 534 (P.length + 6)) 0x6e65775f7265676973746572 (st P cs)=some (some 384):=mo (st_get (by decide)) rfl rfl
theorem mo_new_block {P:S} {cs:CS}:methOk TB (.inst 534 (P.length + 6)) 0x6e65775f626c6f636b (st P cs)=some (some 391):=mo (st_get (by decide)) rfl rfl
theorem mo_put {P:S} {cs:CS}:methOk TB (.inst 534 (P.length + 6)) 0x707574 (st P cs)=some (some 398):=mo (st_get (by decide)) rfl rfl
theorem mo_fresh {P:S} {cs:CS}:methOk TB (.inst 534 (P.length + 6)) 0x6672657368 (st P cs)=some (some 405):=mo (st_get (by decide)) rfl rfl
theorem mo_close {P:S} {cs:CS}:methOk TB (.inst 534 (P.length + 6)) 0x636c6f7365 (st P cs)=some (some 412):=mo (st_get (by decide)) rfl rfl
theorem mo_go {P:S} {cs:CS}:methOk TB (.inst 534 (P.length + 6)) 0x676f (st P cs)=some (some 426):=mo (st_get (by decide)) rfl rfl
theorem mo_next_site {P:S} {cs:CS}:methOk TB (.inst 534 (P.length + 6)) 0x6e6578745f73697465 (st P cs)=some (some 433):=mo (st_get (by decide)) rfl rfl
theorem mo_type_of_local {P:S} {cs:CS}:methOk TB (.inst 534 (P.length + 6)) 0x747970655f6f665f6c6f63616c (st P cs)=some (some 440):=mo (st_get (by decide)) rfl rfl
theorem mo_is_boxed {P:S} {cs:CS}:methOk TB (.inst 534 (P.length + 6)) 0x69735f626f786564 (st P cs)=some (some 447):=mo (st_get (by decide)) rfl rfl
theorem mo_take_register {P:S} {cs:CS}:methOk TB (.inst 534 (P.length + 6)) 0x74616b655f7265676973746572 (st P cs)=some (some 454):=mo (st_get (by decide)) rfl rfl
theorem mo_pointer_of {P:S} {cs:CS}:methOk TB (.inst 534 (P.length + 6)) 0x706f696e7465725f6f66 (st P cs)=some (some 468):=mo (st_get (by decide)) rfl rfl
theorem mo_local_value {P:S} {cs:CS}:methOk TB (.inst 534 (P.length + 6)) 0x6c6f63616c5f76616c7565 (st P cs)=some (some 475):=mo (st_get (by decide)) rfl rfl
theorem mo_kept {P:S} {cs:CS}:methOk TB (.inst 534 (P.length + 6)) 0x6b657074 (st P cs)=some (some 489):=mo (st_get (by decide)) rfl rfl
theorem mo_zero_operand {P:S} {cs:CS}:methOk TB (.inst 534 (P.length + 6)) 0x7a65726f5f6f706572616e64 (st P cs)=some (some 496):=mo (st_get (by decide)) rfl rfl
theorem mo_value {P:S} {cs:CS}:methOk TB (.inst 534 (P.length + 6)) 0x76616c7565 (st P cs)=some (some 503):=mo (st_get (by decide)) rfl rfl
theorem mo_address {P:S} {cs:CS}:methOk TB (.inst 534 (P.length + 6)) 0x61646472657373 (st P cs)=some (some 517):=mo (st_get (by decide)) rfl rfl
theorem mo_finished {P:S} {cs:CS}:methOk TB (.inst 534 (P.length + 6)) 0x66696e6973686564 (st P cs)=some (some 531):=mo (st_get (by decide)) rfl rfl
theorem mw_base_of {P:S} {cs:CS}:methOk TB (.inst 601 P.length) 0x626173655f6f66 (st P cs)=some (some 591):=mo (st_get (k:=0) (by decide)) rfl rfl
theorem mc_instructions {P:S} {cs:CS}:methOk TB (.inst 331 (P.length + 9)) 0x696e737472756374696f6e73 (st P cs)=some (some 316):=mo (st_get (by decide)) rfl rfl
theorem mc_terminator {P:S} {cs:CS}:methOk TB (.inst 331 (P.length + 9)) 0x7465726d696e61746f72 (st P cs)=some (some 323):=mo (st_get (by decide)) rfl rfl
end Internal.Pl
namespace Internal.Pl
open PySem
noncomputable def CS.cur (cs:CS):Blk:=(cs.blks[cs.here]?).getD ([],none)
noncomputable def CS.reg (cs:CS) (t:V):CS:={ cs with regs:=cs.regs++[t] }
noncomputable def CS.ins (cs:CS) (i:Ins):CS:={ cs with blks:=cs.blks.set cs.here (cs.cur.1++[i],cs.cur.2) }
noncomputable def CS.cls (cs:CS) (t:Term):CS:={ cs with blks:=cs.blks.set cs.here (cs.cur.1,some t) }
noncomputable def CS.goto (cs:CS) (b:Nat):CS:={ cs with here:=b }
noncomputable def CS.blk (cs:CS):CS:={ cs with blks:=cs.blks++[([],none)] }
noncomputable def CS.site (cs:CS):CS:={ cs with sites:=cs.sites + 1 }
noncomputable def CS.frs (cs:CS) (t:V) (i:Nat→Ins):CS:=(cs.reg t).ins (i cs.regs.length)
structure Ok (k:Nat) (cs:CS):Prop where
  r:cs.regs.length≤k
  b:cs.blks.length≤k
  i:∀ x ∈ cs.blks,x.1.length≤k
  h:cs.here < cs.blks.length
  s:k≤1000000
  d:cs.held = [(0,.int 0),(1,.int 1),(2,.int 2)]
theorem Ok.cur {k:Nat} {cs:CS} (o:Ok k cs):cs.blks[cs.here]? = some cs.cur:=by
  rw [CS.cur,List.getElem?_eq_getElem o.h]; rfl
theorem Ok.mem {k:Nat} {cs:CS} (o:Ok k cs):cs.cur ∈ cs.blks:=List.mem_of_getElem? o.cur
theorem Ok.mono {k l:Nat} {cs:CS} (o:Ok k cs) (h:k≤l) (hl:l≤1000000):Ok l cs :=
  ⟨Nat.le_trans o.r h,Nat.le_trans o.b h,fun x m=>Nat.le_trans (o.i x m) h,o.h,hl,o.d⟩
theorem Ok.reg {k:Nat} {cs:CS} {t:V} (o:Ok k cs) (h:k + 1≤1000000):Ok (k + 1) (cs.reg t) :=
  ⟨by have:=o.r; simp only [CS.reg,List.length_append,List.length_cons,List.length_nil]; with_reducible exact Nat.succ_le_succ (by assumption),Nat.le_succ_of_le o.b,fun x m=>Nat.le_succ_of_le (o.i x m),o.h,h,o.d⟩
theorem Ok.site {k:Nat} {cs:CS} (o:Ok k cs):Ok k cs.site:=⟨o.r,o.b,o.i,o.h,o.s,o.d⟩
theorem Ok.ins {k:Nat} {cs:CS} {j:Ins} (o:Ok k cs) (h:k + 1≤1000000):Ok (k + 1) (cs.ins j):=by
  refine ⟨Nat.le_succ_of_le o.r,by have:=o.b; simp only [CS.ins,List.length_set]; with_reducible exact Nat.le_succ_of_le (by assumption),fun x m=>?_,by have:=o.h; simp only [CS.ins,List.length_set]; assumption,h,o.d⟩
  rcases List.mem_or_eq_of_mem_set m with m | rfl
  · exact Nat.le_succ_of_le (o.i x m)
  · have:=o.i _ o.mem
    simp only [List.length_append,List.length_cons,List.length_nil]; with_reducible exact Nat.succ_le_succ (by assumption)
theorem Ok.cls {k:Nat} {cs:CS} {t:Term} (o:Ok k cs):Ok k (cs.cls t):=by
  refine ⟨o.r,by have:=o.b; simp only [CS.cls,List.length_set]; assumption,fun x m=>?_,by have:=o.h; simp only [CS.cls,List.length_set]; assumption,o.s,o.d⟩
  rcases List.mem_or_eq_of_mem_set m with m | rfl
  · exact o.i x m
  · exact o.i cs.cur o.mem
theorem Ok.goto {k b:Nat} {cs:CS} (o:Ok k cs) (h:b < cs.blks.length):Ok k (cs.goto b):=⟨o.r,o.b,o.i,h,o.s,o.d⟩
theorem Ok.blk {k:Nat} {cs:CS} (o:Ok k cs) (h:k + 1≤1000000):Ok (k + 1) cs.blk:=by
  refine ⟨Nat.le_succ_of_le o.r,by have:=o.b; simp only [CS.blk,List.length_append,List.length_cons,List.length_nil]; with_reducible exact Nat.succ_le_succ (by assumption),fun x m=>?_,by have:=o.h; simp only [CS.blk,List.length_append,List.length_cons,List.length_nil]; (refine le1 this ?_;simp +arith only),h,o.d⟩
  simp only [CS.blk,List.mem_append,List.mem_singleton] at m
  rcases m with m | rfl
  · exact Nat.le_succ_of_le (o.i x m)
  · exact Nat.zero_le _
theorem Ok.frs {k:Nat} {cs:CS} {t:V} {j:Nat→Ins} (o:Ok k cs) (h:k + 2≤1000000):Ok (k + 2) (cs.frs t j):=(o.reg (by (apply le1 (b:=1000000);assumption;simp +arith only))).ins h
theorem sz {k:Nat} (h:k≤1000000):sizeOk k=true:=Nat.ble_eq_true_of_le (by (apply le1 (b:=1000000);assumption;simp +arith only))
theorem gi_list {σ:S} {l k:Nat} {vs:List V} {v:V} (h:σ[l]? = some (.list vs)) (hk:vs[k]? = some v) (hs:k≤1000000):getItem (.loc l) (.int (k:Nat)) σ=some (v,σ):=by
  have e:itemL vs (k:Nat)=some v:=by
    unfold itemL
    rw [decide_eq_true (Int.natCast_nonneg k),small_of (Int.lt_of_lt_of_le (by decide) (Int.natCast_nonneg _)) (Int.lt_of_le_of_lt (Int.ofNat_le.mpr hs) (by decide))]
    exact hk
  rw [gi_L h,e]; rfl
theorem bl_at {p n k:Nat} (h:k < n):(bLocs p n)[k]? = some (.loc (p + 12 + 2 * k)):=by
  simp only [bLocs,List.getElem?_map,List.getElem?_range h,Option.map_some]
theorem Ok.blkAt {k:Nat} {cs:CS} (o:Ok k cs) {P:S}:getItem (.loc (P.length + 8)) (.int (cs.here:Nat)) (st P cs)=some (.loc (P.length + 12 + 2 * cs.here),st P cs) :=
  gi_list (st_get (by decide)) (bl_at o.h) (by have:=o.h; have:=o.b; have:=o.s; exact Nat.le_trans (Nat.le_of_lt (by assumption)) (Nat.le_trans (by assumption) (by assumption)))
theorem Ok.p0 {k:Nat} {cs:CS} (o:Ok k cs) {P:S}:getItem (.loc (P.length + 12 + 2 * cs.here)) (.int 0) (st P cs)=some (.loc (P.length + 11 + 2 * cs.here),st P cs):=g_item0 (st_pair o.cur)
noncomputable abbrev sta (P:S):V:=.inst 534 (P.length + 6)
theorem sub1 {n:Nat}:((n + 1:Nat):Int) - 1=(n:Int):=by lia
theorem length_app1 {α} {l:List α} {a:α}:(l++[a]).length=l.length + 1:=by simp
theorem m_reg {k n:Nat} {cs:CS} (o:Ok k cs) (hk:k + 1≤1000000) {P:S} {t:V} :
    cf TB FT (n + 1) 384 [sta P,t] (st P cs)=some (.int (cs.regs.length:Nat),st P (cs.reg t)):=by
  have s1:(st P cs).set (P.length + 10) (.list (cs.regs++[t]))=st P (cs.reg t):=st_set (by decide) rfl rfl
  have s2:((cs.regs++[t]).length)≤1000000:=by have:=o.r; rw [length_app1]; exact Nat.le_trans (Nat.succ_le_succ this) hk
  rw [cf_384]
  simp only [EV,F384,ga_code,gc_registers,mo_app (st_get (P:=P) (cs:=cs) (k:=10) (by decide)),ms_app (st_get (P:=P) (cs:=cs) (k:=10) (by decide)) (sz (Nat.le_trans o.r o.s)),s1,bl_len_loc (st_get (P:=P) (cs:=cs.reg t) (k:=10) (by decide)) (sz s2),o_sub]
  simp only [CS.reg,length_app1,sub1]
theorem m_blk {k n:Nat} {cs:CS} (o:Ok k cs) (hk:k + 1≤1000000) {P:S} :
    cf TB FT (n + 1) 391 [sta P] (st P cs)=some (.int (cs.blks.length:Nat),st P cs.blk):=by
  have s0:((st P cs++[O.list []])++[O.list [.loc (st P cs).length,.none]])[P.length + 8]? = some (.list (bLocs P.length cs.blks.length)):=by
    rw [List.append_assoc,List.getElem?_append_left (by rw [st_len]; simp +arith only)]; exact st_get (by decide)
  have s1:((st P cs++[O.list []])++[O.list [.loc (st P cs).length,.none]]).set (P.length + 8) (.list (bLocs P.length cs.blks.length++[.loc (st P cs++[O.list []]).length]))=st P cs.blk:=st_new
  have l1:(bLocs P.length cs.blks.length).length=cs.blks.length:=by simp [bLocs]
  have l2:(bLocs P.length (cs.blks.length + 1)).length=cs.blks.length + 1:=by simp [bLocs]
  have s2:=st_get (P:=P) (cs:=cs.blk) (k:=8) (by decide)
  have s3:(fx P.length cs.blk)[8]? = some (.list (bLocs P.length (cs.blks.length + 1))):=by
    simp only [fx,CS.blk,length_app1]; rfl
  rw [s3] at s2
  have:=o.b; have:=o.s
  rw [cf_391]
  simp only [EV,F391,ga_code,gc_blocks,mo_app (st_get (P:=P) (cs:=cs) (k:=8) (by decide)),ms_app s0 (sz (by rw [l1]; with_reducible exact Nat.le_trans (by assumption) (by assumption))),s1,bl_len_loc s2 (sz (by rw [l2]; exact Nat.le_trans (Nat.succ_le_succ (by assumption)) hk)),o_sub,l2,sub1]
theorem m_put {k n:Nat} {cs:CS} (o:Ok k cs) {P:S} {j:Ins} {v:V} (hv:v=j.toV) :
    cf TB FT (n + 2) 398 [sta P,v] (st P cs)=some (.none,st P (cs.ins j)):=by
  have i1:=st_ins (P:=P) o.cur
  have hc:=o.i _ o.mem
  have hs:=o.s
  have s1:(st P cs).set (P.length + 11 + 2 * cs.here) (.list (cs.cur.1.map Ins.toV++[v]))=st P (cs.ins j):=by
    have:=st_set_ins (P:=P) (is:=cs.cur.1++[j]) o.cur
    rw [List.map_append] at this; rw [hv]; exact this
  rw [cf_398]
  simp only [EV,F398,ga_code,ga_here,mc_instructions,cf_316,F316,gc_blocks,o.blkAt,o.p0,mo_app i1,ms_app i1 (sz (by rw [List.length_map]; with_reducible exact Nat.le_trans (by assumption) (by assumption))),s1]
theorem cut_to1 {σ:S} {a b:V} {r:List V} {p:Nat} (hr:r.length≤20):cutV (.tup (a :: b :: r)) none (some (1,p)) σ=some (.tup [a],σ):=by
  show (if decide ((0:Int)≤1) && (decide ((1:Int) < ((a :: b :: r).length:Int)) && sizeOk (a :: b :: r).length) then _ else none)=_
  rw [decide_eq_true (show (0:Int)≤1 by decide),decide_eq_true (show (1:Int) < ((a :: b :: r).length:Int) by simp only [List.length_cons]; exact Int.ofNat_lt.mpr (Nat.succ_lt_succ (Nat.succ_pos _))),sz (show (a :: b :: r).length≤1000000 by simp only [List.length_cons]; (apply le1;assumption;simp +arith only))]; rfl
theorem cut_from1 {σ:S} {a b:V} {r:List V} {p:Nat} (hr:r.length≤20):cutV (.tup (a :: b :: r)) (some (1,p)) none σ=some (.tup (b :: r),σ):=by
  show (if decide ((1:Int)≤1) && (decide ((1:Int)≤((a :: b :: r).length:Int)) && sizeOk (a :: b :: r).length) then _ else none)=_
  rw [decide_eq_true (show (1:Int)≤1 by decide),decide_eq_true (show (1:Int)≤((a :: b :: r).length:Int) by simp only [List.length_cons]; exact Int.ofNat_le.mpr (Nat.succ_le_succ (Nat.zero_le _))),sz (show (a :: b :: r).length≤1000000 by simp only [List.length_cons]; (apply le1;assumption;simp +arith only))]; rfl
theorem o_addt {σ:S} {x y:List V} (h:(x.length + y.length)≤1000000):binop .Add (.tup x) (.tup y) σ=some (.tup (x++y),σ):=by
  show (if sizeOk (x.length + y.length) then _ else _)=_
  rw [sz h]; rfl
theorem m_fresh {k n:Nat} {cs:CS} (o:Ok k cs) (hk:k + 1≤1000000) {P:S} {t s a:V} {r:List V} (j:Nat→Ins) (hj:∀ g,(j g).toV = .tup (s :: .int (g:Nat) :: a :: r)) (hr:r.length≤20) :
    cf TB FT (n + 3) 405 [sta P,t,.tup (s :: a :: r)] (st P cs)=some ((Op.reg cs.regs.length).toV,st P (cs.frs t j)):=by
  have h1:∀ n,cf TB FT (n + 1) 384 [sta P,t] (st P cs)=some (.int (cs.regs.length:Nat),st P (cs.reg t)):=fun n=>m_reg o hk
  have h2:∀ n,cf TB FT (n + 2) 398 [sta P,.tup (s :: .int (cs.regs.length:Nat) :: a :: r)] (st P (cs.reg t))=some (.none,st P (cs.frs t j)):=fun n=>m_put (o.reg hk) (hj _).symm
  rw [cf_405]
  simp only [EV,F405,mo_new_register,h1,mo_put,cut_to1 hr,cut_from1 hr,o_addt (x:=[s]) (y:=[V.int (cs.regs.length:Nat)]) (by show 2≤1000000; decide),List.cons_append,List.nil_append,o_addt (x:=[s,.int (cs.regs.length:Nat)]) (y:=a :: r) (by simp only [List.length_cons,List.length_nil]; (apply le1;assumption;simp +arith only)),h2,Op.toV]
theorem m_close {k n:Nat} {cs:CS} (o:Ok k cs) {P:S} {t:Term} {v:V} (hv:v=t.toV) :
    cf TB FT (n + 1) 412 [sta P,v] (st P cs)=some (.none,st P (cs.cls t)):=by
  have s1:setItem (.loc (P.length + 12 + 2 * cs.here)) (.int 1) v (st P cs)=some (st P (cs.cls t)):=by
    rw [s_item1 (st_pair o.cur),hv]
    have:=st_set_pair (P:=P) (t:=some t) o.cur
    rw [show t.toV=termO (some t) from rfl,this]; rfl
  rw [cf_412]
  simp only [EV,F412,ga_code,ga_here,gc_blocks,o.blkAt,s1]
theorem st_goto {P:S} {cs:CS} {b:Nat}:(st P cs).set (P.length + 6) (.obj (put (sK P.length cs.sites cs.here) 0x68657265 (.int (b:Nat))))=st P (cs.goto b):=st_set (by decide) rfl rfl
theorem m_here {P:S} {cs:CS} {b:Nat}:setAttr TB (sta P) 0x68657265 (.int (b:Nat)) (st P cs)=some (st P (cs.goto b)):=by
  rw [sa (st_get (by decide)) rfl rfl]; exact congrArg some st_goto
theorem m_go {k n:Nat} {cs:CS} (o:Ok k cs) {P:S} {b:Nat} :
    cf TB FT (n + 2) 426 [sta P,.int (b:Nat)] (st P cs)=some (.none,st P ((cs.cls (.jump b)).goto b)):=by
  have h1:∀ n,cf TB FT (n + 1) 412 [sta P,.tup [.str 0x6a756d70,.int (b:Nat)]] (st P cs)=some (.none,st P (cs.cls (.jump b))):=fun n=>m_close o rfl
  rw [cf_426]
  simp only [EV,F426,mo_close,h1,m_here]
theorem m_site {n:Nat} {cs:CS} {P:S} :
    cf TB FT (n + 1) 433 [sta P] (st P cs)=some (.tup [.str 0x6d61696e2e66,.int ((cs.sites + 1:Nat):Int)],st P cs.site):=by
  have e:((cs.sites:Nat):Int) + 1=((cs.sites + 1:Nat):Int):=rfl
  have h1:setAttr TB (sta P) 0x7369746573 (.int ((cs.sites + 1:Nat):Int)) (st P cs)=some (st P cs.site):=by
    rw [sa (st_get (by decide)) rfl rfl]; exact congrArg some (st_set (by decide) rfl rfl)
  rw [cf_433]
  simp only [EV,F433,ga_sites,o_add,e,h1,ga_code,gc_key]
  rfl
theorem m_value {n:Nat} {cs:CS} {P:S} {e:V}:cf TB FT (n + 1) 503 [sta P,e] (st P cs)=(cf TB FT n 206 [sta P,e] (st P cs)):=by
  have h1:∀ σ:S,getItem vKnown (.str 0x76616c7565) σ=some (.fn 206,σ):=fun _=>rfl
  rw [cf_503]
  simp only [EV,F503,ga_known,h1]
  cases cf TB FT n 206 [sta P,e] (st P cs) <;> rfl
theorem m_address {n:Nat} {cs:CS} {P:S} {e:V}:cf TB FT (n + 1) 517 [sta P,e] (st P cs)=(cf TB FT n 174 [sta P,e] (st P cs)):=by
  have h1:∀ σ:S,getItem vKnown (.str 0x61646472657373) σ=some (.fn 174,σ):=fun _=>rfl
  rw [cf_517]
  simp only [EV,F517,ga_known,h1]
  cases cf TB FT n 174 [sta P,e] (st P cs) <;> rfl
theorem held_at {cs:CS} {k:Nat} (o:Ok k cs) {P:S} (i:Nat) (hi:i < 3):getItem (.loc (P.length + 7)) (.int (i:Nat)) (st P cs)=some (.int (i:Nat),st P cs):=by
  have h:(st P cs)[P.length + 7]? = some (.dict cs.held):=st_get (by decide)
  rw [gi_D h,o.d]
  have:i=0 ∨ i=1 ∨ i=2:=by lia
  rcases this with rfl | rfl | rfl <;> rfl
theorem m_pointer {cs:CS} {k n:Nat} (o:Ok k cs) {P:S} (i:Nat) (hi:i < 3):cf TB FT (n + 1) 468 [sta P,.int (i:Nat)] (st P cs)=some ((Op.reg i).toV,st P cs):=by
  rw [cf_468]
  simp only [EV,F468,ga_held,held_at o i hi,Op.toV]
theorem m_boxed {cs:CS} {n:Nat} {P:S} (i:Int):cf TB FT (n + 1) 447 [sta P,.int i] (st P cs)=some (.bool ([1,2].contains i),st P cs):=by
  have h:∀ σ,cmpop .In (.int i) (.fset [1,2]) σ=some ([1,2].contains i):=fun _=>rfl
  rw [cf_447]
  simp only [EV,F447,ga_boxed,h]
theorem m_local0 {cs:CS} {k n:Nat} (o:Ok k cs) {P:S}:cf TB FT (n + 2) 475 [sta P,.int 0] (st P cs)=some ((Op.reg 0).toV,st P cs):=by
  have h1:[1,2].contains (0:Int)=false:=rfl
  have h2:=held_at o (P:=P) 0 (by decide)
  rw [cf_475]
  simp only [EV,F475,mo_is_boxed,m_boxed,h1,ga_held,Op.toV]
  erw [h2]
  simp only [EV,if_true]
end Internal.Pl
namespace Internal.Pl
open PySem
section
variable {σ:S} {a b c d e f g:V} {r:List V}
theorem g_t0:getItem (.tup (a :: r)) (.int 0) σ=some (a,σ):=rfl
theorem g_t1:getItem (.tup (a :: b :: r)) (.int 1) σ=some (b,σ):=rfl
theorem g_t2:getItem (.tup (a :: b :: c :: r)) (.int 2) σ=some (c,σ):=rfl
theorem g_t3:getItem (.tup (a :: b :: c :: d :: r)) (.int 3) σ=some (d,σ):=rfl
theorem g_t4:getItem (.tup (a :: b :: c :: d :: e :: r)) (.int 4) σ=some (e,σ):=rfl
theorem g_t5:getItem (.tup (a :: b :: c :: d :: e :: f :: r)) (.int 5) σ=some (f,σ):=rfl
theorem g_t6:getItem (.tup (a :: b :: c :: d :: e :: f :: g :: r)) (.int 6) σ=some (g,σ):=rfl
theorem g_tm6:getItem (.tup [a,b,c,d,e,f]) (.int (-1)) σ=some (f,σ):=rfl
theorem g_l0:getItem (.lst (a :: r)) (.int 0) σ=some (a,σ):=rfl
theorem g_l1:getItem (.lst (a :: b :: r)) (.int 1) σ=some (b,σ):=rfl
theorem g_l2:getItem (.lst (a :: b :: c :: r)) (.int 2) σ=some (c,σ):=rfl
theorem ic_t1:itemsC (.tup [a])=some [a]:=rfl
theorem ic_l1:itemsC (.lst [a])=some [a]:=rfl
theorem ic_t2:itemsC (.tup [a,b])=some [a,b]:=rfl
theorem ic_l2:itemsC (.lst [a,b])=some [a,b]:=rfl
theorem ic_t3:itemsC (.tup [a,b,c])=some [a,b,c]:=rfl
theorem b_tup1:builtin .tuple [.lst [a]] σ=some (.tup [a],σ):=rfl
theorem b_tup3:builtin .tuple [.lst [a,b,c]] σ=some (.tup [a,b,c],σ):=rfl
end
theorem m_const {n:Nat} {σ:S} {s t v:V} {i:Int}:cf TB FT (n + 2) 206 [s,.tup [.str 0x636f6e7374,t,.int i,v]] σ=some (.tup [.str 0x636f6e7374,t,v],σ):=by
  rw [cf_206]
  simp only [EV,F206,g_t0,g_t1,g_t3,cf_225,F225]
theorem m_fn {n:Nat} {σ:S} {s a:V}:cf TB FT (n + 1) 96 [s,.tup [.str 0x666e,a]] σ=some (.tup [.str 0x666e,a],σ):=by
  rw [cf_96]
  simp only [EV,F96,g_t0]
theorem m_res {n:Nat} {σ:S} {s:Nat} {r:List V} (h:(s == 0x7475706c65)=false):cf TB FT (n + 1) 89 [.tup (.str s :: r)] σ=some (.lst [.tup (.str s :: r)],σ):=by
  rw [cf_89]
  simp only [EV,F89,g_t0,h]
theorem m_mark1 {k n s:Nat} {cs:CS} (o:Ok k cs) (hk:k + 2≤1000000) {P:S} {i:Int} {r:List V} (h:(s == 0x7475706c65)=false) :
    cf TB FT (n + 5) 101 [sta P,vMark (.tup (.str s :: r)) i] (st P cs)=some (.lst [(Op.reg cs.regs.length).toV],st P (cs.frs (.tup (.str s :: r)) (fun g=>.mark g i))):=by
  have h1:∀ n,cf TB FT (n + 2) 398 [sta P,.tup [.str 0x63616c6c,.tup [.int (cs.regs.length:Nat)],.tup [.str 0x666e,.str 0x6d61696e2e6d61726b],.tup [.tup [.str 0x636f6e7374,tInt,.int i]]]] (st P (cs.reg (.tup (.str s :: r))))=some (.none,st P (cs.frs (.tup (.str s :: r)) (fun g=>.mark g i))):=fun n=>m_put (o.reg (by (apply le1 (b:=1000000);assumption;simp +arith only))) rfl
  have h2:∀ n t,cf TB FT (n + 1) 384 [sta P,t] (st P cs)=some (.int (cs.regs.length:Nat),st P (cs.reg t)):=fun n t=>m_reg o (by (apply le1 (b:=1000000);assumption;simp +arith only))
  rw [cf_101]
  simp only [EV,F101,g_t0,g_t1,g_t3,g_t4,m_fn,mo_value,ic_t1,m_value,m_const,b_tup1,m_res h,ic_l1,mo_new_register,h2,mo_put,h1,Op.toV]
theorem m_markV {k n s:Nat} {cs:CS} (o:Ok k cs) (hk:k + 2≤1000000) {P:S} {i:Int} {r:List V} (h:(s == 0x7475706c65)=false) :
    cf TB FT (n + 6) 213 [sta P,vMark (.tup (.str s :: r)) i] (st P cs)=some (.lst [(Op.reg cs.regs.length).toV],st P (cs.frs (.tup (.str s :: r)) (fun g=>.mark g i))):=by
  have h1:∀ n,cf TB FT (n + 5) 101 [sta P,vMark (.tup (.str s :: r)) i] (st P cs)=some (.lst [(Op.reg cs.regs.length).toV],st P (cs.frs (.tup (.str s :: r)) (fun g=>.mark g i))):=fun n=>m_mark1 o hk h
  rw [cf_213]
  simp only [EV,F213,g_t0,h1]
theorem m_mark {k n s:Nat} {cs:CS} (o:Ok k cs) (hk:k + 2≤1000000) {P:S} {i:Int} {r:List V} (h:(s == 0x7475706c65)=false) :
    cf TB FT (n + 7) 206 [sta P,vMark (.tup (.str s :: r)) i] (st P cs)=some ((Op.reg cs.regs.length).toV,st P (cs.frs (.tup (.str s :: r)) (fun g=>.mark g i))):=by
  have h1:∀ n,cf TB FT (n + 6) 213 [sta P,vMark (.tup (.str s :: r)) i] (st P cs)=some (.lst [(Op.reg cs.regs.length).toV],st P (cs.frs (.tup (.str s :: r)) (fun g=>.mark g i))):=fun n=>m_markV o hk h
  rw [cf_206]
  simp only [EV,F206,g_t0,h1,g_l0]
theorem m_base {n:Nat} {σ:S} {w:V} {s:Nat} {r:List V} (h:(s == 0x6e616d6564)=false):cf TB FT (n + 1) 591 [w,.tup (.str s :: r)] σ=some (.tup (.str s :: r),σ):=by
  have e:∀ (t:M→S→Option (Bool × S)) f fu m σ,t m σ=some (false,σ)→loopW t f (fu + 1) m σ=some (none,m,σ):=by
    intro t f fu m σ h; show (t m σ).bind _=_; rw [h]; rfl
  rw [cf_591]
  simp only [EV,F591]
  rw [show fuel=1999 + 1 from rfl,e]
  · simp only [EV,if_true]
  · simp only [EV,g_t0,h]
theorem m_und {n:Nat} {P:S} {cs:CS} {s:Nat} {r:List V} (h:(s == 0x6e616d6564)=false):cf TB FT (n + 2) 74 [.inst 601 P.length,.tup (.str s :: r)] (st P cs)=some (.tup (.str s :: r),st P cs):=by
  rw [cf_74]
  simp only [EV,F74,mw_base_of,m_base h]
theorem m_zero {n:Nat} {P:S} {cs:CS}:cf TB FT (n + 4) 496 [sta P,tInt] (st P cs)=some (.tup [.str 0x636f6e7374,tInt,.int 0],st P cs):=by
  rw [cf_496]
  simp only [EV,F496,ga_world,cf_79,F79,m_und (s:=0x696e74) rfl,g_t0]
theorem m_kept {k n:Nat} {cs:CS} (o:Ok k cs) (hk:k + 1≤1000000) {P:S} {t:V} (g:Nat) :
    cf TB FT (n + 4) 489 [sta P,(Op.reg g).toV,t] (st P cs)=some ((Op.reg cs.regs.length).toV,st P (cs.frs t (fun x=>.move x (.reg g)))):=by
  have h1:∀ n,cf TB FT (n + 3) 405 [sta P,t,.tup [.str 0x6d6f7665,(Op.reg g).toV]] (st P cs)=some ((Op.reg cs.regs.length).toV,st P (cs.frs t (fun x=>.move x (.reg g)))):=fun n=>m_fresh o hk _ (fun _=>rfl) (by decide)
  simp only [Op.toV] at h1 ⊢
  rw [cf_489]
  simp only [EV,F489,g_t0,mo_fresh,h1]
theorem m_along0 {n:Nat} {σ:S} {s v:V}:cf TB FT (n + 1) 167 [s,.tup [v,.tup []]] σ=some (v,σ):=by
  have e:∀ (a b:Nat × Nat) (v w:V) (k p:Nat) (m:M) (σ:S),bindS [a,b] (some (k,p)) (.tup [v,w]) m σ=some (put (put m a.1 v) b.1 w):=fun _ _ _ _ _ _ _ _=>rfl
  rw [cf_167]
  simp only [EV,F167,e]
end Internal.Pl
namespace Internal.Pl
open PySem
noncomputable def Bd (h:Nat):Nat:=20 * 5 ^ h
theorem Bd_succ (h:Nat):Bd (h + 1)=5 * Bd h:=by simp only [Bd,Nat.pow_succ]; simp +arith only
theorem Bd_ge (h:Nat):20≤Bd h:=by have:0 < 5 ^ h:=Nat.pow_pos (by decide); simp only [Bd]; exact Nat.le_mul_of_pos_right _ this
theorem Bd_mono {h h':Nat} (e:h≤h'):Bd h≤Bd h':=Nat.mul_le_mul_left _ (Nat.pow_le_pow_right (by decide) e)
noncomputable abbrev vGlob:V:=.tup [.str 0x707472,.str 0x6d61696e2e67,.tup []]
noncomputable def Num.comp:Num→CS→Op × CS
  | .mark k,cs=>(.reg cs.regs.length,cs.frs tInt (fun g=>.mark g k))
  | .glob,cs=>(.reg cs.regs.length,cs.frs tInt (fun g=>.load g (.cst (tPtr tInt) vGlob)))
  | .zero,cs=>(.cst tInt (.int 0),cs)
  | .conv k,cs=>(.reg (cs.regs.length + 1),(cs.frs tSmall (fun g=>.mark g k)).frs tInt (fun g=>.conv g (.reg cs.regs.length)))
  | .bin p a b,cs=>(.reg (b.comp (a.comp cs).2).2.regs.length,(b.comp (a.comp cs).2).2.frs tInt (fun g=>.binary g p (a.comp cs).1 (b.comp (a.comp cs).2).1))
  | .deref,cs=>(.reg (cs.regs.length + 1),(cs.frs (tPtr tInt) (fun g=>.move g (.reg 1))).frs tInt (fun g=>.load g (.reg cs.regs.length)))
  | .asrt a,cs=>(.reg ((a.comp cs).2.regs.length + 1),((a.comp cs).2.frs tAny (fun g=>.face g (a.comp cs).1)).frs tInt (fun g=>.asrt g none (.reg (a.comp cs).2.regs.length)))
theorem frs_len {cs:CS} {t:V} {j:Nat→Ins}:(cs.frs t j).regs.length=cs.regs.length + 1:=by
  simp only [CS.frs,CS.ins,CS.reg,length_app1]
noncomputable def Cp (e:V) (K D:Nat) (f:CS→Op × CS):Prop:=∀ (n k:Nat) (cs:CS) (P:S),K≤n→Ok k cs→k + D≤1000000 →
  cf TB FT n 206 [sta P,e] (st P cs)=some ((f cs).1.toV,st P (f cs).2)∧Ok (k + D) (f cs).2
theorem c_mark (i:Int):Cp (vMark tInt i) 10 20 (fun cs=>(.reg cs.regs.length,cs.frs tInt (fun g=>.mark g i))):=by
  intro n k cs P hn o hk
  obtain ⟨m,rfl⟩:∃ m,n=m + 10:=⟨n - 10,by exact (Nat.sub_add_cancel (by assumption)).symm⟩
  have o2:=(o.frs (t:=tInt) (j:=fun g=>.mark g i) (by (apply le1 (b:=1000000);assumption;simp +arith only))).mono (l:=k + 20) (by simp +arith only) hk
  exact ⟨m_mark o (by (apply le1 (b:=1000000);assumption;simp +arith only)) rfl,o2⟩
theorem c_glob:Cp Num.glob.toV 10 20 Num.glob.comp:=by
  intro n k cs P hn o hk
  obtain ⟨m,rfl⟩:∃ m,n=m + 10:=⟨n - 10,by exact (Nat.sub_add_cancel (by assumption)).symm⟩
  refine ⟨?_,by simp only [Num.comp]; exact (o.frs (by (apply le1 (b:=1000000);assumption;simp +arith only))).mono (by simp +arith only) hk⟩
  have h1:∀ n,cf TB FT (n + 3) 405 [sta P,tInt,.tup [.str 0x6c6f6164,.tup [.str 0x636f6e7374,tPtr tInt,vGlob]]] (st P cs)=some ((Op.reg cs.regs.length).toV,st P (cs.frs tInt (fun g=>.load g (.cst (tPtr tInt) vGlob)))):=fun n=>m_fresh o (by (apply le1 (b:=1000000);assumption;simp +arith only)) _ (fun _=>rfl) (Nat.le_of_ble_eq_true rfl)
  rw [cf_206]
  simp only [EV,Num.toV,Num.comp,F206,g_t0,g_t1,g_t3,cf_195,F195,cf_146,F146,cf_160,F160,cf_153,F153,m_along0,mo_fresh,h1]
theorem c_zero:Cp Num.zero.toV 10 20 Num.zero.comp:=by
  intro n k cs P hn o hk
  obtain ⟨m,rfl⟩:∃ m,n=m + 10:=⟨n - 10,by exact (Nat.sub_add_cancel (by assumption)).symm⟩
  refine ⟨?_,by simp only [Num.comp]; exact o.mono (by exact Nat.le_add_right _ _) hk⟩
  rw [cf_206]
  simp only [EV,Num.toV,Num.comp,F206,g_t0,g_t1,g_t3,cf_225,F225,mo_zero_operand,m_zero,Op.toV]
theorem c_conv (i:Int):Cp (Num.conv i).toV 20 20 (Num.conv i).comp:=by
  intro n k cs P hn o hk
  obtain ⟨m,rfl⟩:∃ m,n=m + 20:=⟨n - 20,by exact (Nat.sub_add_cancel (by assumption)).symm⟩
  have o1:=o.frs (t:=tSmall) (j:=fun g=>.mark g i) (by (apply le1 (b:=1000000);assumption;simp +arith only))
  refine ⟨?_,by simp only [Num.comp]; exact (o1.frs (by (apply le1 (b:=1000000);assumption;simp +arith only))).mono (by simp +arith only) hk⟩
  have h0:∀ n,cf TB FT (n + 7) 206 [sta P,vMark tSmall i] (st P cs)=some ((Op.reg cs.regs.length).toV,st P (cs.frs tSmall (fun g=>.mark g i))):=fun n=>m_mark o (by (apply le1 (b:=1000000);assumption;simp +arith only)) rfl
  have h1:∀ n,cf TB FT (n + 3) 405 [sta P,tInt,.tup [.str 0x636f6e76657274,(Op.reg cs.regs.length).toV,tSmall,tInt]] (st P (cs.frs tSmall (fun g=>.mark g i)))=some ((Op.reg (cs.frs tSmall (fun g=>.mark g i)).regs.length).toV,st P ((cs.frs tSmall (fun g=>.mark g i)).frs tInt (fun g=>.conv g (.reg cs.regs.length)))):=fun n=>m_fresh o1 (by (apply le1 (b:=1000000);assumption;simp +arith only)) _ (fun _=>rfl) (Nat.le_of_ble_eq_true rfl)
  rw [cf_206]
  simp only [EV,Num.toV,Num.comp,F206,g_t0,g_t1,g_t3,cf_237,F237,mo_value,m_value,h0,mo_fresh,h1,frs_len]
theorem m_addr {k n:Nat} {cs:CS} (o:Ok k cs) {P:S} {t u:V} (i:Nat) (hi:i < 3) (x y:Int) (z:Int) (hz:z=(i:Int)):cf TB FT (n + 6) 206 [sta P,.tup [.str 0x61646472657373,t,.int x,.tup [.str 0x6c6f63616c,u,.int y,.int z]]] (st P cs)=some ((Op.reg i).toV,st P cs):=by
  subst hz
  have h2:∀ n,cf TB FT (n + 1) 468 [sta P,.int (i:Nat)] (st P cs)=some ((Op.reg i).toV,st P cs):=fun n=>m_pointer o i hi
  rw [cf_206]
  simp only [EV,F206,g_t0,g_t1,g_t3,cf_160,F160,m_along0,mo_address,m_address,cf_174,F174,mo_pointer_of,h2]
theorem c_deref:Cp Num.deref.toV 20 20 Num.deref.comp:=by
  intro n k cs P hn o hk
  obtain ⟨m,rfl⟩:∃ m,n=m + 20:=⟨n - 20,by exact (Nat.sub_add_cancel (by assumption)).symm⟩
  have o1:=o.frs (t:=tPtr tInt) (j:=fun g=>.move g (.reg 1)) (by (apply le1 (b:=1000000);assumption;simp +arith only))
  refine ⟨?_,by simp only [Num.comp]; exact (o1.frs (by (apply le1 (b:=1000000);assumption;simp +arith only))).mono (by simp +arith only) hk⟩
  have h0:∀ n,cf TB FT (n + 4) 489 [sta P,(Op.reg 1).toV,tPtr tInt] (st P cs)=some ((Op.reg cs.regs.length).toV,st P (cs.frs (tPtr tInt) (fun x=>.move x (.reg 1)))):=fun n=>m_kept o (by (apply le1 (b:=1000000);assumption;simp +arith only)) 1
  have h1:∀ n,cf TB FT (n + 3) 405 [sta P,tInt,.tup [.str 0x6c6f6164,(Op.reg cs.regs.length).toV]] (st P (cs.frs (tPtr tInt) (fun x=>.move x (.reg 1))))=some ((Op.reg (cs.frs (tPtr tInt) (fun x=>.move x (.reg 1))).regs.length).toV,st P ((cs.frs (tPtr tInt) (fun x=>.move x (.reg 1))).frs tInt (fun g=>.load g (.reg cs.regs.length)))):=fun n=>m_fresh o1 (by (apply le1 (b:=1000000);assumption;simp +arith only)) _ (fun _=>rfl) (Nat.le_of_ble_eq_true rfl)
  have h3:∀ n,cf TB FT (n + 6) 206 [sta P,.tup [.str 0x61646472657373,tPtr tInt,.int 0,.tup [.str 0x6c6f63616c,tInt,.int 0,.int 1]]] (st P cs)=some ((Op.reg 1).toV,st P cs):=fun n=>m_addr o 1 (by decide) 0 0 1 rfl
  rw [cf_206]
  simp only [EV,Num.toV,Num.comp,F206,g_t0,g_t1,g_t3,cf_195,F195,cf_146,F146,cf_160,F160,m_along0,mo_fresh,mo_value,m_value,h3,mo_kept,h0,h1,frs_len]
theorem c_bin (p:Bool) (a b:Num) (K D:Nat) (hD:20≤D) (ha:Cp a.toV K D a.comp) (hb:Cp b.toV K D b.comp):Cp (Num.bin p a b).toV (K + 8) (2 * D + 20) (Num.bin p a b).comp:=by
  intro n k cs P hn o hk
  obtain ⟨m,rfl⟩:∃ m,n=m + 8:=⟨n - 8,by (refine (Nat.sub_add_cancel (le1 hn ?_)).symm;simp +arith only)⟩
  refine e0_2 (ha (m + 4) k cs P (by (apply le1;assumption;simp +arith only)) o (by (apply le1 (b:=1000000);assumption;simp +arith only))) fun a1 oa=>?_
  refine e0_2 (hb (m + 4) (k + D) (a.comp cs).2 P (by (apply le1;assumption;simp +arith only)) oa (by (apply le1 (b:=1000000);assumption;simp +arith only))) fun b1 ob=>?_
  refine ⟨?_,by simp only [Num.comp]; exact (ob.frs (by (apply le1 (b:=1000000);assumption;simp +arith only))).mono (by simp +arith only) hk⟩
  have h1:∀ n,cf TB FT (n + 3) 405 [sta P,tInt,.tup [.str 0x62696e617279,.str (opS p),(a.comp cs).1.toV,(b.comp (a.comp cs).2).1.toV,tInt]] (st P (b.comp (a.comp cs).2).2)=some ((Op.reg (b.comp (a.comp cs).2).2.regs.length).toV,st P ((b.comp (a.comp cs).2).2.frs tInt (fun g=>.binary g p (a.comp cs).1 (b.comp (a.comp cs).2).1))):=fun n=>m_fresh ob (by (apply le1 (b:=1000000);assumption;simp +arith only)) _ (fun _=>rfl) (Nat.le_of_ble_eq_true rfl)
  have ea:getItem a.toV (.int 1) (st P (b.comp (a.comp cs).2).2)=some (tInt,st P (b.comp (a.comp cs).2).2):=by cases a <;> rfl
  have e2:∀ (a b:Nat × Nat) (v w:V) (k p:Nat) (m:M) (σ:S),bindS [a,b] (some (k,p)) (.lst [v,w]) m σ=some (put (put m a.1 v) b.1 w):=fun _ _ _ _ _ _ _ _=>rfl
  rw [cf_206]
  simp only [EV,Num.toV,Num.comp,F206,g_t0,g_t1,g_t3,g_t4,g_t5,cf_237,F237,cf_218,F218,ic_t2,mo_value,m_value,a1,b1,ea,e2,mo_fresh,h1]
theorem c_face (a:Num) (K D:Nat) (hD:20≤D) (ha:Cp a.toV K D a.comp):Cp (.tup [.str 0x66616365,tAny,.int 0,a.toV]) (K + 8) (D + 5) (fun cs=>(.reg (a.comp cs).2.regs.length,(a.comp cs).2.frs tAny (fun g=>.face g (a.comp cs).1))):=by
  intro n k cs P hn o hk
  obtain ⟨m,rfl⟩:∃ m,n=m + 8:=⟨n - 8,by (refine (Nat.sub_add_cancel (le1 hn ?_)).symm;simp +arith only)⟩
  refine e0_2 (ha (m + 5) k cs P (by (apply le1;assumption;simp +arith only)) o (by (apply le1 (b:=1000000);assumption;simp +arith only))) fun a1 oa=>?_
  refine ⟨?_,by simp only [Num.comp]; exact (oa.frs (by (apply le1 (b:=1000000);assumption;simp +arith only))).mono (by simp +arith only) hk⟩
  have h1:∀ n,cf TB FT (n + 3) 405 [sta P,tAny,.tup [.str 0x66616365,(a.comp cs).1.toV,tInt]] (st P (a.comp cs).2)=some ((Op.reg (a.comp cs).2.regs.length).toV,st P ((a.comp cs).2.frs tAny (fun g=>.face g (a.comp cs).1))):=fun n=>m_fresh oa (by (apply le1 (b:=1000000);assumption;simp +arith only)) _ (fun _=>rfl) (Nat.le_of_ble_eq_true rfl)
  have ea:getItem a.toV (.int 1) (st P (a.comp cs).2)=some (tInt,st P (a.comp cs).2):=by cases a <;> rfl
  rw [cf_206]
  simp only [EV,Num.toV,Num.comp,F206,g_t0,g_t1,g_t3,g_t4,g_t5,cf_237,F237,mo_value,m_value,a1,ea,ga_world,m_und (s:=0x696e74) rfl,mo_fresh,h1]
theorem c_asrt (a:Num) (K D:Nat) (hD:20≤D) (ha:Cp a.toV K D a.comp):Cp (Num.asrt a).toV (K + 12) (D + 20) (Num.asrt a).comp:=by
  intro n k cs P hn o hk
  obtain ⟨m,rfl⟩:∃ m,n=m + 12:=⟨n - 12,by (refine (Nat.sub_add_cancel (le1 hn ?_)).symm;simp +arith only)⟩
  refine e0_2 (c_face a K D hD ha (m + 9) k cs P (by (apply le1;assumption;simp +arith only)) o (by (apply le1 (b:=1000000);assumption;simp +arith only))) fun a1 oa=>?_
  refine ⟨?_,by simp only [Num.comp]; exact (oa.frs (by (apply le1 (b:=1000000);assumption;simp +arith only))).mono (by simp +arith only) hk⟩
  dsimp only at a1 oa
  revert a1 oa
  generalize hc:CS.frs (a.comp cs).2 tAny (fun g=>.face g (a.comp cs).1)=c1
  intro a1 oa
  have h1:∀ n,cf TB FT (n + 2) 398 [sta P,.tup [.str 0x617373657274,.int (c1.regs.length:Nat),.none,(Op.reg (a.comp cs).2.regs.length).toV,tInt,tAny]] (st P (c1.reg tInt))=some (.none,st P (c1.frs tInt (fun g=>.asrt g none (.reg (a.comp cs).2.regs.length)))):=fun n=>m_put (oa.reg (by (apply le1 (b:=1000000);assumption;simp +arith only))) rfl
  have h2:∀ n t,cf TB FT (n + 1) 384 [sta P,t] (st P c1)=some (.int (c1.regs.length:Nat),st P (c1.reg t)):=fun n t=>m_reg oa (by (apply le1 (b:=1000000);assumption;simp +arith only))
  have hl:(a.comp cs).2.regs.length + 1=c1.regs.length:=by rw [← hc,frs_len]
  have h3:∀ σ (x y z w u v:V),binop .Add (.tup [x,y,z]) (.tup [w,u,v]) σ=some (.tup [x,y,z,w,u,v],σ):=fun _ _ _ _ _ _ _=>rfl
  have h4:∀ σ (x:V),binop .Add (.lst [x]) (.lst []) σ=some (.lst [x],σ):=fun _ _=>rfl
  have h5:∀ σ (x y z:V),builtin .tuple [.lst [x,y,z]] σ=some (.tup [x,y,z],σ):=fun _ _ _ _=>rfl
  simp only [Num.comp]
  rw [cf_206,hc,hl]
  simp only [EV,Num.toV,F206,g_t0,g_t1,g_t3,g_t4,g_t5,g_tm6,cf_251,F251,mo_value,m_value,a1,mo_new_register,h2,h3,h4,h5,mo_put,h1,g_l0]
  rfl
theorem Cp.mono {e:V} {K D K' D':Nat} {f:CS→Op × CS} (h:Cp e K D f) (hK:K≤K') (hD:D≤D'):Cp e K' D' f:=fun n k cs P hn o hk =>
  have q:=h n k cs P (Nat.le_trans hK hn) o (Nat.le_trans (Nat.add_le_add_left hD k) hk)
  ⟨q.1,q.2.mono (Nat.add_le_add_left hD k) hk⟩
theorem kM {h H c d:Nat} (l:h≤H) (e:Nat.ble c d=true):12 * h + c≤12 * H + d:=Nat.add_le_add (Nat.mul_le_mul_left 12 l) (Nat.le_of_ble_eq_true e)
theorem kS {H c e d:Nat} (h:Nat.ble (c + e) (d + 12)=true):12 * H + c + e≤12 * (H + 1) + d:=by have:=Nat.le_of_ble_eq_true h; (apply le1;assumption;simp +arith only)
theorem b4 {H:Nat}:4 * Bd H + 20≤Bd (H + 1):=by rw [Bd_succ]; have:=Bd_ge H; (apply le1;assumption;simp +arith only)
theorem b2 {H:Nat}:2 * Bd H + 20≤Bd (H + 1):=Nat.le_trans (Nat.add_le_add_right (Nat.mul_le_mul_right _ (Nat.le_of_ble_eq_true rfl)) 20) b4
theorem b1 {H:Nat}:Bd H + 20≤Bd (H + 1):=Nat.le_trans (Nat.add_le_add_right (Nat.le_mul_of_pos_left _ (Nat.le_of_ble_eq_true rfl)) 20) b2
theorem nle {n m:Nat} (h:Nat.ble n m=true):n≤m:=Nat.le_of_ble_eq_true h
theorem num_c:∀ (e:Num),Cp e.toV (12 * e.h + 10) (Bd e.h) e.comp
  | .mark i=>(c_mark i).mono (nle rfl) (nle rfl)
  | .glob=>c_glob.mono (nle rfl) (nle rfl)
  | .zero=>c_zero.mono (nle rfl) (nle rfl)
  | .conv i=>(c_conv i).mono (nle rfl) (nle rfl)
  | .deref=>c_deref.mono (nle rfl) (nle rfl)
  | .bin p a b=>(c_bin p a b _ _ (Bd_ge (max a.h b.h)) ((num_c a).mono (kM (Nat.le_max_left ..) (d:=10) rfl) (Bd_mono (Nat.le_max_left ..))) ((num_c b).mono (kM (Nat.le_max_right ..) rfl) (Bd_mono (Nat.le_max_right ..)))).mono (kS rfl) b2
  | .asrt a=>(c_asrt a _ _ (Bd_ge a.h) (num_c a)).mono (kS rfl) b1
end Internal.Pl
namespace Internal.Pl
open PySem
noncomputable def numOC:Option Num→CS→Option Op × CS
  | none,cs=>(none,cs)
  | some a,cs=>(some (a.comp cs).1,(a.comp cs).2)
noncomputable def bndC (lo hi mx:Option Num) (cs:CS) (w:Op) (t:V):Op × CS :=
  (.reg (numOC mx (numOC hi (numOC lo cs).2).2).2.regs.length,
   (numOC mx (numOC hi (numOC lo cs).2).2).2.frs tSlice (fun g=>.cut g w (numOC lo cs).1 (numOC hi (numOC lo cs).2).1 (numOC mx (numOC hi (numOC lo cs).2).2).1 t))
noncomputable def rowC (a b:Num) (cs:CS):Op × CS :=
  (.reg (b.comp (a.comp cs).2).2.regs.length,
   ((((((b.comp (a.comp cs).2).2.site.frs tSlice (fun g=>.mksl g ((b.comp (a.comp cs).2).2.sites + 1))).frs (tPtr tInt) (fun g=>.elem g (.reg (b.comp (a.comp cs).2).2.regs.length) 0)).ins (.store (.reg ((b.comp (a.comp cs).2).2.regs.length + 1)) (a.comp cs).1)).frs (tPtr tInt) (fun g=>.elem g (.reg (b.comp (a.comp cs).2).2.regs.length) 1)).ins (.store (.reg ((b.comp (a.comp cs).2).2.regs.length + 2)) (b.comp (a.comp cs).2).1)))
noncomputable def Row.comp:Row→CS→Op × CS
  | .held,cs=>(.reg 0,cs)
  | .nil,cs=>(.cst tSlice .none,cs)
  | .row a b,cs=>rowC a b cs
  | .cut none lo hi mx,cs=>bndC lo hi mx cs (.reg 2) tArr
  | .cut (some w) lo hi mx,cs=>bndC lo hi mx (w.comp cs).2 (w.comp cs).1 tSlice
theorem k_ite_b {T:Tab} {C:Cl} {m:M} {σ:S} {a b:X} {z:Bool}:kIte T C a b m (z,σ)=cond z (ev T C a m σ) (ev T C b m σ):=by induction z using Bool.casesOn <;> rfl
theorem q_isO {x:Option Num} {σ:S}:cmpop .Is (numO x) .none σ=some x.isNone:=by
  induction x using Option.casesOn with
  | none=>rfl
  | some a=>cases a <;> rfl
theorem c_numO (x:Option Num) (K D:Nat) (h:∀ a,x=some a→Cp a.toV K D a.comp) (n k:Nat) (cs:CS) (P:S) (hn:K≤n) (o:Ok k cs) (hk:k + D≤1000000) :
    cond x.isNone (some (V.none,st P cs)) (cf TB FT n 206 [sta P,numO x] (st P cs))=some (opO (numOC x cs).1,st P (numOC x cs).2)∧Ok (k + D) (numOC x cs).2:=by
  induction x using Option.casesOn with
  | none=>exact ⟨rfl,o.mono (by exact Nat.le_add_right _ _) hk⟩
  | some a=>exact h a rfl n k cs P hn o hk
theorem c_cut (w:Option Row) (lo hi mx:Option Num) (K D:Nat) (hD:20≤D) (hK:20≤K) (hw:∀ a,w=some a→Cp a.toV K D a.comp)
    (h1:∀ a,lo=some a→Cp a.toV K D a.comp) (h2:∀ a,hi=some a→Cp a.toV K D a.comp) (h3:∀ a,mx=some a→Cp a.toV K D a.comp) :
    Cp (Row.cut w lo hi mx).toV (K + 10) (4 * D + 20) (Row.cut w lo hi mx).comp:=by
  intro n k cs P hn o hk
  obtain ⟨m,rfl⟩:∃ m,n=m + 10:=⟨n - 10,by (refine (Nat.sub_add_cancel (le1 hn ?_)).symm;simp +arith only)⟩
  have key:∀ (c0:CS) (wo:Op) (t:V),Ok (k + D) c0 →
      (cond lo.isNone (some (V.none,st P c0)) (cf TB FT (m + 7) 206 [sta P,numO lo] (st P c0))=some (opO (numOC lo c0).1,st P (numOC lo c0).2)) ∧
      (cond hi.isNone (some (V.none,st P (numOC lo c0).2)) (cf TB FT (m + 7) 206 [sta P,numO hi] (st P (numOC lo c0).2))=some (opO (numOC hi (numOC lo c0).2).1,st P (numOC hi (numOC lo c0).2).2)) ∧
      (cond mx.isNone (some (V.none,st P (numOC hi (numOC lo c0).2).2)) (cf TB FT (m + 7) 206 [sta P,numO mx] (st P (numOC hi (numOC lo c0).2).2))=some (opO (numOC mx (numOC hi (numOC lo c0).2).2).1,st P (numOC mx (numOC hi (numOC lo c0).2).2).2)) ∧
      (∀ n,cf TB FT (n + 3) 405 [sta P,tSlice,.tup [.str 0x637574,wo.toV,opO (numOC lo c0).1,opO (numOC hi (numOC lo c0).2).1,opO (numOC mx (numOC hi (numOC lo c0).2).2).1,t]] (st P (numOC mx (numOC hi (numOC lo c0).2).2).2)=some ((bndC lo hi mx c0 wo t).1.toV,st P (bndC lo hi mx c0 wo t).2)) ∧
      Ok (k + (4 * D + 20)) (bndC lo hi mx c0 wo t).2:=by
    intro c0 wo t o0
    have q1:=c_numO lo K D h1 (m + 7) (k + D) c0 P (by (apply le1;assumption;simp +arith only)) o0 (by (apply le1 (b:=1000000);assumption;simp +arith only))
    have q2:=c_numO hi K D h2 (m + 7) (k + D + D) _ P (by (apply le1;assumption;simp +arith only)) q1.2 (by (apply le1 (b:=1000000);assumption;simp +arith only))
    have q3:=c_numO mx K D h3 (m + 7) (k + D + D + D) _ P (by (apply le1;assumption;simp +arith only)) q2.2 (by (apply le1 (b:=1000000);assumption;simp +arith only))
    exact ⟨q1.1,q2.1,q3.1,fun n=>m_fresh q3.2 (by (apply le1 (b:=1000000);assumption;simp +arith only)) _ (fun _=>rfl) (Nat.le_of_ble_eq_true rfl),by simp only [bndC]; exact (q3.2.frs (by (apply le1 (b:=1000000);assumption;simp +arith only))).mono (by simp +arith only) hk⟩
  induction w using Option.casesOn with
  | none =>
    have e:=key cs (.reg 2) tArr (o.mono (by exact Nat.le_add_right _ _) (by (apply le1 (b:=1000000);assumption;simp +arith only)))
    refine ⟨?_,e.2.2.2.2⟩
    have hp:∀ n,cf TB FT (n + 1) 468 [sta P,.int 2] (st P cs)=some ((Op.reg 2).toV,st P cs):=fun n=>m_pointer o 2 (by decide)
    simp only [Row.comp]
    rw [cf_206]
    simp only [EV,Row.toV,F206,g_t0,g_t1,g_t3,g_t4,g_t5,g_t6,cf_256,F256,ga_world,m_und (s:=0x6172726179) rfl,k_ite_b,mo_address,m_address,cf_174,F174,cf_160,F160,mo_pointer_of,hp,m_along0,ic_t3,q_isO,mo_value,m_value,e.1,e.2.1,e.2.2.1,g_l0,g_l1,g_l2,mo_fresh,e.2.2.2.1]
  | some w =>
    refine e0_2 (hw w rfl (m + 7) k cs P (by (apply le1;assumption;simp +arith only)) o (by (apply le1 (b:=1000000);assumption;simp +arith only))) fun a0 b0=>?_
    have e:=key (w.comp cs).2 (w.comp cs).1 tSlice b0
    refine ⟨?_,e.2.2.2.2⟩
    have ew:∀ σ,getItem w.toV (.int 1) σ=some (tSlice,σ):=by
      intro σ
      cases w with
      | cut x=>induction x using Option.casesOn <;> rfl
      | _=>rfl
    simp only [Row.comp]
    rw [cf_206]
    simp only [EV,Row.toV,F206,g_t0,g_t1,g_t3,g_t4,g_t5,g_t6,cf_256,F256,ga_world,m_und (s:=0x736c696365) rfl,k_ite_b,ew,a0,ic_t3,q_isO,mo_value,m_value,e.1,e.2.1,e.2.2.1,g_l0,g_l1,g_l2,mo_fresh,e.2.2.2.1]
theorem k_compT2 {T:Tab} {C:Cl} {m:M} {σ:S} {e:X} {a b c d:Nat} {z:Nat × Nat} {v w:V}:kCompF T C e [(a,b),(c,d)] (some z) m (.tup [v,w]) σ=ev T C e (put (put m a v) c w) σ:=rfl
theorem bs_T2 {m:M} {σ:S} {a b c d:Nat} {z:Nat × Nat} {v w:V}:bindS [(a,b),(c,d)] (some z) (.tup [v,w]) m σ=some (put (put m a v) c w):=rfl
theorem site_regs {cs:CS}:cs.site.regs=cs.regs:=rfl
theorem ins_regs {cs:CS} {i:Ins}:(cs.ins i).regs=cs.regs:=rfl
theorem c_row (a b:Num) (K D:Nat) (hD:20≤D) (hK:10≤K) (ha:Cp a.toV K D a.comp) (hb:Cp b.toV K D b.comp):Cp (Row.row a b).toV (K + 10) (2 * D + 20) (Row.row a b).comp:=by
  intro n k cs P hn o hk
  obtain ⟨m,rfl⟩:∃ m,n=m + 10:=⟨n - 10,by (refine (Nat.sub_add_cancel (le1 hn ?_)).symm;simp +arith only)⟩
  refine e0_2 (ha (m + 6) k cs P (by (apply le1;assumption;simp +arith only)) o (by (apply le1 (b:=1000000);assumption;simp +arith only))) fun a1 oa=>?_
  refine e0_2 (hb (m + 6) (k + D) _ P (by (apply le1;assumption;simp +arith only)) oa (by (apply le1 (b:=1000000);assumption;simp +arith only))) fun b1 ob=>?_
  simp only [Row.comp,rowC]
  revert a1 b1 oa ob
  generalize (a.comp cs).1=oa1
  generalize (a.comp cs).2=ca
  generalize (b.comp ca).1=ob1
  generalize (b.comp ca).2=c
  intro a1 oa b1 oc
  have oc1:=oc.site
  generalize hc2:c.site.frs tSlice (fun g=>.mksl g (c.sites + 1))=c2
  generalize hc3:c2.frs (tPtr tInt) (fun g=>.elem g (.reg c.regs.length) 0)=c3
  generalize hc4:c3.ins (.store (.reg (c.regs.length + 1)) oa1)=c4
  generalize hc5:c4.frs (tPtr tInt) (fun g=>.elem g (.reg c.regs.length) 1)=c5
  generalize hc6:c5.ins (.store (.reg (c.regs.length + 2)) ob1)=c6
  have oc2:=oc1.frs (t:=tSlice) (j:=fun g=>.mksl g (c.sites + 1)) (by (apply le1 (b:=1000000);assumption;simp +arith only))
  rw [hc2] at oc2
  have oc3:=oc2.frs (t:=tPtr tInt) (j:=fun g=>.elem g (.reg c.regs.length) 0) (by (apply le1 (b:=1000000);assumption;simp +arith only))
  rw [hc3] at oc3
  have oc4:=oc3.ins (j:=.store (.reg (c.regs.length + 1)) oa1) (by (apply le1 (b:=1000000);assumption;simp +arith only))
  rw [hc4] at oc4
  have oc5:=oc4.frs (t:=tPtr tInt) (j:=fun g=>.elem g (.reg c.regs.length) 1) (by (apply le1 (b:=1000000);assumption;simp +arith only))
  rw [hc5] at oc5
  have oc6:=oc5.ins (j:=.store (.reg (c.regs.length + 2)) ob1) (by (apply le1 (b:=1000000);assumption;simp +arith only))
  rw [hc6] at oc6
  refine ⟨?_,oc6.mono (by simp +arith only) hk⟩
  have l1:c2.regs.length=c.regs.length + 1:=by rw [← hc2,frs_len,site_regs]
  have l2:c4.regs.length=c.regs.length + 2:=by rw [← hc4,ins_regs,← hc3,frs_len,l1]
  have h1:∀ n,cf TB FT (n + 3) 405 [sta P,tSlice,.tup [.str 0x6d616b65736c696365,tSlice,vMany,vMany,.tup [.str 0x6d61696e2e66,.int ((c.sites + 1:Nat):Int)]]] (st P c.site)=some ((Op.reg c.regs.length).toV,st P c2):=fun n=>by
    rw [← hc2]; exact m_fresh oc1 (by (apply le1 (b:=1000000);assumption;simp +arith only)) _ (fun _=>rfl) (Nat.le_of_ble_eq_true rfl)
  have h2:∀ n,cf TB FT (n + 3) 405 [sta P,tPtr tInt,.tup [.str 0x656c656d707472,(Op.reg c.regs.length).toV,.tup [.str 0x636f6e7374,tInt,.int 0]]] (st P c2)=some ((Op.reg (c.regs.length + 1)).toV,st P c3):=fun n=>by
    rw [← hc3,← l1]; exact m_fresh oc2 (by (apply le1 (b:=1000000);assumption;simp +arith only)) (fun g=>.elem g (.reg c.regs.length) 0) (fun _=>rfl) (Nat.le_of_ble_eq_true rfl)
  have h3:∀ n,cf TB FT (n + 2) 398 [sta P,.tup [.str 0x73746f7265,(Op.reg (c.regs.length + 1)).toV,oa1.toV]] (st P c3)=some (.none,st P c4):=fun n=>by
    rw [← hc4]; exact m_put oc3 rfl
  have h4:∀ n,cf TB FT (n + 3) 405 [sta P,tPtr tInt,.tup [.str 0x656c656d707472,(Op.reg c.regs.length).toV,.tup [.str 0x636f6e7374,tInt,.int 1]]] (st P c4)=some ((Op.reg (c.regs.length + 2)).toV,st P c5):=fun n=>by
    rw [← hc5,← l2]; exact m_fresh oc4 (by (apply le1 (b:=1000000);assumption;simp +arith only)) (fun g=>.elem g (.reg c.regs.length) 1) (fun _=>rfl) (Nat.le_of_ble_eq_true rfl)
  have h5:∀ n,cf TB FT (n + 2) 398 [sta P,.tup [.str 0x73746f7265,(Op.reg (c.regs.length + 2)).toV,ob1.toV]] (st P c5)=some (.none,st P c6):=fun n=>by
    rw [← hc6]; exact m_put oc5 rfl
  have h6:∀ n,cf TB FT (n + 1) 433 [sta P] (st P c)=some (.tup [.str 0x6d61696e2e66,.int ((c.sites + 1:Nat):Int)],st P c.site):=fun n=>m_site
  rw [cf_206]
  simp only [EV,Row.toV,F206,g_t0,g_t1,g_t3,g_t4,cf_263,F263,ga_world,m_und (s:=0x736c696365) rfl,cf_268,F268,ic_t2,k_compT2,mo_value,m_value,a1,b1,mo_next_site,h6,mo_fresh,h1,bs_T2,h2,mo_put,h3,h4,h5]
theorem hO_le {x:Option Num} {a:Num} {H:Nat} (h:x=some a) (l:hO x≤H):a.h≤H:=by subst h; exact l
theorem cut_c (w:Option Row) (lo hi mx:Option Num) (H:Nat) (hw:∀ a,w=some a→Cp a.toV (12 * H + 22) (Bd H) a.comp) (h1:hO lo≤H) (h2:hO hi≤H) (h3:hO mx≤H) :
    Cp (Row.cut w lo hi mx).toV (12 * (H + 1) + 22) (Bd (H + 1)) (Row.cut w lo hi mx).comp :=
  have hx:∀ a:Num,a.h≤H→Cp a.toV (12 * H + 22) (Bd H) a.comp:=fun a ha=>(num_c a).mono (kM ha rfl) (Bd_mono ha)
  (c_cut w lo hi mx _ _ (Bd_ge H) (Nat.le_trans (nle rfl) (Nat.le_add_left 22 _)) hw (fun a e=>hx a (hO_le e h1)) (fun a e=>hx a (hO_le e h2)) (fun a e=>hx a (hO_le e h3))).mono (kS rfl) b4
theorem row_c:∀ (e:Row),Cp e.toV (12 * e.h + 22) (Bd e.h) e.comp
  | .held=>fun n k cs P hn o hk=>by
    obtain ⟨m,rfl⟩:∃ m,n=m + 10:=⟨n - 10,by (refine (Nat.sub_add_cancel (le1 hn ?_)).symm;simp +arith only)⟩
    refine ⟨?_,o.mono (Nat.le_add_right ..) hk⟩
    have h1:∀ n,cf TB FT (n + 2) 475 [sta P,.int 0] (st P cs)=some ((Op.reg 0).toV,st P cs):=fun n=>m_local0 o
    rw [cf_206]
    simp only [EV,Row.comp,Row.toV,F206,g_t0,g_t1,g_t3,g_t4,mo_local_value,h1]
  | .nil=>fun n k cs P hn o hk=>by
    obtain ⟨m,rfl⟩:∃ m,n=m + 10:=⟨n - 10,by (refine (Nat.sub_add_cancel (le1 hn ?_)).symm;simp +arith only)⟩
    refine ⟨?_,o.mono (Nat.le_add_right ..) hk⟩
    rw [cf_206]
    simp only [EV,Row.comp,Row.toV,F206,g_t0,g_t1,g_t3,g_t4,cf_225,F225,Op.toV]
  | .row a b=>(c_row a b _ _ (Bd_ge (max a.h b.h)) (Nat.le_trans (nle rfl) (Nat.le_add_left 10 _)) ((num_c a).mono (kM (Nat.le_max_left ..) (d:=10) rfl) (Bd_mono (Nat.le_max_left ..))) ((num_c b).mono (kM (Nat.le_max_right ..) rfl) (Bd_mono (Nat.le_max_right ..)))).mono (kS rfl) b2
  | .cut none lo hi mx=>cut_c none lo hi mx (max (hO lo) (max (hO hi) (hO mx))) (fun a h=>by exact nn h) (Nat.le_max_left ..) (Nat.le_trans (Nat.le_max_left ..) (Nat.le_max_right ..)) (Nat.le_trans (Nat.le_max_right ..) (Nat.le_max_right ..))
  | .cut (some w) lo hi mx=>cut_c (some w) lo hi mx (max w.h (max (hO lo) (max (hO hi) (hO mx)))) (fun a h=>Option.some.inj h ▸ (row_c w).mono (kM (Nat.le_max_left ..) rfl) (Bd_mono (Nat.le_max_left ..))) (Nat.le_trans (Nat.le_max_left ..) (Nat.le_max_right ..)) (Nat.le_trans (Nat.le_trans (Nat.le_max_left ..) (Nat.le_max_right ..)) (Nat.le_max_right ..)) (Nat.le_trans (Nat.le_trans (Nat.le_max_right ..) (Nat.le_max_right ..)) (Nat.le_max_right ..))
end Internal.Pl
namespace Internal.Pl
open PySem
noncomputable def lazyA (c:Bool) (n q:Nat):Term:=.branch (.reg n) (cond c q (q + 1)) (cond c (q + 1) q)
noncomputable def lz1 (c:Bool) (n:Nat) (oa:Op) (c2:CS):CS:=(((c2.ins (.move n oa)).blk.blk).cls (lazyA c n c2.blks.length)).goto c2.blks.length
noncomputable def lz2 (n q:Nat) (ob:Op) (c7:CS):CS:=((c7.ins (.move n ob)).cls (.jump (q + 1))).goto (q + 1)
noncomputable def Tru.comp:Tru→CS→Op × CS
  | .mark k,cs=>(.reg cs.regs.length,cs.frs tBool (fun g=>.mark g k))
  | .const b,cs=>(.cst tBool (.bool b),cs)
  | .not a,cs=>(.reg (a.comp cs).2.regs.length,(a.comp cs).2.frs tBool (fun g=>.unary g (a.comp cs).1))
  | .lazy c a b,cs=>(.reg cs.regs.length,
      lz2 cs.regs.length (a.comp (cs.reg tBool)).2.blks.length (b.comp (lz1 c cs.regs.length (a.comp (cs.reg tBool)).1 (a.comp (cs.reg tBool)).2)).1
        (b.comp (lz1 c cs.regs.length (a.comp (cs.reg tBool)).1 (a.comp (cs.reg tBool)).2)).2)
theorem ins_bl {cs:CS} {i:Ins}:(cs.ins i).blks.length=cs.blks.length:=by simp only [CS.ins,List.length_set]
theorem cls_bl {cs:CS} {i:Term}:(cs.cls i).blks.length=cs.blks.length:=by simp only [CS.cls,List.length_set]
theorem frs_bl {cs:CS} {t:V} {i:Nat→Ins}:(cs.frs t i).blks.length=cs.blks.length:=by simp only [CS.frs,ins_bl,CS.reg]
theorem blk_bl {cs:CS}:cs.blk.blks.length=cs.blks.length + 1:=by simp only [CS.blk,length_app1]
theorem lz1_bl {c:Bool} {n:Nat} {oa:Op} {c2:CS}:(lz1 c n oa c2).blks.length=c2.blks.length + 2:=by
  simp only [lz1,CS.goto,cls_bl,blk_bl,ins_bl]
theorem lz2_bl {n q:Nat} {oa:Op} {c2:CS}:(lz2 n q oa c2).blks.length=c2.blks.length:=by
  simp only [lz2,CS.goto,cls_bl,ins_bl]
theorem tru_bl:∀ (t:Tru) (cs:CS),cs.blks.length≤(t.comp cs).2.blks.length
  | .mark k,cs=>by simp only [Tru.comp,frs_bl]; simp +arith only
  | .const b,cs=>Nat.le_refl _
  | .not a,cs=>by have:=tru_bl a cs; simp only [Tru.comp,frs_bl]; assumption
  | .lazy c a b,cs=>by
    have h1:=tru_bl a (cs.reg tBool)
    have h2:=tru_bl b (lz1 c cs.regs.length (a.comp (cs.reg tBool)).1 (a.comp (cs.reg tBool)).2)
    rw [lz1_bl] at h2
    simp only [Tru.comp,lz2_bl]
    have:(cs.reg tBool).blks.length=cs.blks.length:=rfl
    lia
theorem c_markB (i:Int):Cp (vMark tBool i) 10 20 (fun cs=>(.reg cs.regs.length,cs.frs tBool (fun g=>.mark g i))):=by
  intro n k cs P hn o hk
  obtain ⟨m,rfl⟩:∃ m,n=m + 10:=⟨n - 10,by exact (Nat.sub_add_cancel (by assumption)).symm⟩
  have o2:=(o.frs (t:=tBool) (j:=fun g=>.mark g i) (by (apply le1 (b:=1000000);assumption;simp +arith only))).mono (l:=k + 20) (by simp +arith only) hk
  exact ⟨m_mark o (by (apply le1 (b:=1000000);assumption;simp +arith only)) rfl,o2⟩
theorem c_not (a:Tru) (K D:Nat) (hD:20≤D) (ha:Cp a.toV K D a.comp):Cp (Tru.not a).toV (K + 8) (D + 20) (Tru.not a).comp:=by
  intro n k cs P hn o hk
  obtain ⟨m,rfl⟩:∃ m,n=m + 8:=⟨n - 8,by (refine (Nat.sub_add_cancel (le1 hn ?_)).symm;simp +arith only)⟩
  refine e0_2 (ha (m + 5) k cs P (by (apply le1;assumption;simp +arith only)) o (by (apply le1 (b:=1000000);assumption;simp +arith only))) fun a1 oa=>?_
  refine ⟨?_,by simp only [Tru.comp]; exact (oa.frs (by (apply le1 (b:=1000000);assumption;simp +arith only))).mono (by simp +arith only) hk⟩
  have h1:∀ n,cf TB FT (n + 3) 405 [sta P,tBool,.tup [.str 0x756e617279,.str 0x21,(a.comp cs).1.toV,tBool]] (st P (a.comp cs).2)=some ((Op.reg (a.comp cs).2.regs.length).toV,st P ((a.comp cs).2.frs tBool (fun g=>.unary g (a.comp cs).1))):=fun n=>m_fresh oa (by (apply le1 (b:=1000000);assumption;simp +arith only)) _ (fun _=>rfl) (Nat.le_of_ble_eq_true rfl)
  simp only [Tru.comp]
  rw [cf_206]
  simp only [EV,Tru.toV,F206,g_t0,g_t1,g_t3,g_t4,g_t5,cf_237,F237,mo_value,m_value,a1,mo_fresh,h1]
theorem c_lazy (c:Bool) (a b:Tru) (K D:Nat) (hD:20≤D) (ha:Cp a.toV K D a.comp) (hb:Cp b.toV K D b.comp):Cp (Tru.lazy c a b).toV (K + 8) (2 * D + 20) (Tru.lazy c a b).comp:=by
  intro n k cs P hn o hk
  obtain ⟨m,rfl⟩:∃ m,n=m + 8:=⟨n - 8,by (refine (Nat.sub_add_cancel (le1 hn ?_)).symm;simp +arith only)⟩
  have o1:=o.reg (t:=tBool) (by (apply le1 (b:=1000000);assumption;simp +arith only))
  refine e0_2 (ha (m + 4) (k + 1) _ P (by (apply le1;assumption;simp +arith only)) o1 (by (apply le1 (b:=1000000);assumption;simp +arith only))) fun a1 oa=>?_
  have g1:=tru_bl b (lz1 c cs.regs.length (a.comp (cs.reg tBool)).1 (a.comp (cs.reg tBool)).2)
  rw [lz1_bl] at g1
  simp only [Tru.comp]
  revert a1 oa g1
  generalize (a.comp (cs.reg tBool)).1=oa1
  generalize (a.comp (cs.reg tBool)).2=c2
  intro a1 oc2 g1
  have oc3:=oc2.ins (j:=.move cs.regs.length oa1) (by (apply le1 (b:=1000000);assumption;simp +arith only))
  have oc4:=(oc3.blk (by (apply le1 (b:=1000000);assumption;simp +arith only))).blk (by (apply le1 (b:=1000000);assumption;simp +arith only))
  have oc5:=oc4.cls (t:=lazyA c cs.regs.length c2.blks.length)
  have oc6:Ok (k + 1 + D + 1 + 1 + 1) (lz1 c cs.regs.length oa1 c2):=oc5.goto (by simp only [cls_bl,blk_bl,ins_bl]; simp +arith only)
  refine e0_2 (hb (m + 4) _ _ P (by (refine le1 hn ?_;simp +arith only)) oc6 (by (apply le1 (b:=1000000);assumption;simp +arith only))) fun b1 ob=>?_
  revert b1 ob g1
  generalize (b.comp (lz1 c cs.regs.length oa1 c2)).1=ob1
  generalize (b.comp (lz1 c cs.regs.length oa1 c2)).2=c7
  intro g1 b1 oc7
  have oc8:=oc7.ins (j:=.move cs.regs.length ob1) (by (apply le1 (b:=1000000);assumption;simp +arith only))
  have oc9:Ok _ (lz2 cs.regs.length c2.blks.length ob1 c7):=(oc8.cls (t:=.jump (c2.blks.length + 1))).goto (by simp only [cls_bl,ins_bl]; (apply le1;assumption;simp +arith only))
  refine ⟨?_,oc9.mono (by simp +arith only) hk⟩
  have h1:∀ n,cf TB FT (n + 1) 384 [sta P,tBool] (st P cs)=some (.int (cs.regs.length:Nat),st P (cs.reg tBool)):=fun n=>m_reg o (by (apply le1 (b:=1000000);assumption;simp +arith only))
  have h2:∀ n,cf TB FT (n + 2) 398 [sta P,.tup [.str 0x6d6f7665,.int (cs.regs.length:Nat),oa1.toV]] (st P c2)=some (.none,st P (c2.ins (.move cs.regs.length oa1))):=fun n=>m_put oc2 rfl
  have h3:∀ n,cf TB FT (n + 1) 391 [sta P] (st P (c2.ins (.move cs.regs.length oa1)))=some (.int (c2.blks.length:Nat),st P (c2.ins (.move cs.regs.length oa1)).blk):=fun n=>by
    have:=m_blk (n:=n) (P:=P) oc3 (by (apply le1 (b:=1000000);assumption;simp +arith only)); rw [ins_bl] at this; exact this
  have h4:∀ n,cf TB FT (n + 1) 391 [sta P] (st P (c2.ins (.move cs.regs.length oa1)).blk)=some (.int ((c2.blks.length + 1:Nat):Int),st P (c2.ins (.move cs.regs.length oa1)).blk.blk):=fun n=>by
    have:=m_blk (n:=n) (P:=P) (oc3.blk (by (apply le1 (b:=1000000);assumption;simp +arith only))) (by (apply le1 (b:=1000000);assumption;simp +arith only)); rw [blk_bl,ins_bl] at this; exact this
  have h5:∀ n,cf TB FT (n + 1) 412 [sta P,.tup [.str 0x6272616e6368,.tup [.str 0x726567,.int (cs.regs.length:Nat)],.int ((cond c c2.blks.length (c2.blks.length + 1):Nat):Int),.int ((cond c (c2.blks.length + 1) c2.blks.length:Nat):Int)]] (st P (c2.ins (.move cs.regs.length oa1)).blk.blk)=some (.none,st P ((c2.ins (.move cs.regs.length oa1)).blk.blk.cls (lazyA c cs.regs.length c2.blks.length))):=fun n=>m_close oc4 rfl
  have h6:setAttr TB (sta P) 0x68657265 (.int (c2.blks.length:Nat)) (st P ((c2.ins (.move cs.regs.length oa1)).blk.blk.cls (lazyA c cs.regs.length c2.blks.length)))=some (st P (lz1 c cs.regs.length oa1 c2)):=m_here
  have h7:∀ n,cf TB FT (n + 2) 398 [sta P,.tup [.str 0x6d6f7665,.int (cs.regs.length:Nat),ob1.toV]] (st P c7)=some (.none,st P (c7.ins (.move cs.regs.length ob1))):=fun n=>m_put oc7 rfl
  have h8:∀ n,cf TB FT (n + 2) 426 [sta P,.int ((c2.blks.length + 1:Nat):Int)] (st P (c7.ins (.move cs.regs.length ob1)))=some (.none,st P (lz2 cs.regs.length c2.blks.length ob1 c7)):=fun n=>m_go oc8
  rw [cf_206]
  induction c using Bool.casesOn <;>
  · simp only [cond_true,cond_false] at h5
    simp only [EV,Tru.toV,lzS,F206,g_t0,g_t1,g_t3,g_t4,g_t5,cf_237,F237,cf_244,F244,mo_new_register,h1,mo_value,m_value,a1,mo_put,h2,mo_new_block,h3,h4,bs_T2,mo_close,h5,h6,b1,h7,mo_go,h8]
    rfl
theorem tru_c:∀ (e:Tru),Cp e.toV (12 * e.h + 10) (Bd e.h) e.comp
  | .mark i=>(c_markB i).mono (nle rfl) (nle rfl)
  | .const b=>fun n k cs P hn o hk=>by
    obtain ⟨m,rfl⟩:∃ m,n=m + 2:=⟨n - 2,by (refine (Nat.sub_add_cancel (le1 hn ?_)).symm;simp +arith only)⟩
    exact ⟨m_const,o.mono (Nat.le_add_right ..) hk⟩
  | .not a=>(c_not a _ _ (Bd_ge a.h) (tru_c a)).mono (kS rfl) b1
  | .lazy c a b=>(c_lazy c a b _ _ (Bd_ge (max a.h b.h)) ((tru_c a).mono (kM (Nat.le_max_left ..) (d:=10) rfl) (Bd_mono (Nat.le_max_left ..))) ((tru_c b).mono (kM (Nat.le_max_right ..) rfl) (Bd_mono (Nat.le_max_right ..)))).mono (kS rfl) b2
end Internal.Pl
namespace Internal.Pl
open PySem
inductive Top where
  | num (a:Num) | row (a:Row) | tru (a:Tru) | ask (a:Num)
noncomputable def Top.toV:Top→V
  | .num a=>a.toV
  | .row a=>a.toV
  | .tru a=>a.toV
  | .ask a=>askV a
noncomputable def Top.h:Top→Nat
  | .num a=>a.h
  | .row a=>a.h
  | .tru a=>a.h
  | .ask a=>a.h + 1
noncomputable def askC (a:Num) (c1:CS) (f:Nat):List Op × CS:=([.reg c1.regs.length,.reg (c1.regs.length + 1)],((c1.reg tInt).reg tBool).ins (.asrt c1.regs.length (some (c1.regs.length + 1)) (.reg f)))
noncomputable def Top.comp:Top→CS→List Op × CS
  | .num a,cs=>([(a.comp cs).1],(a.comp cs).2)
  | .row a,cs=>([(a.comp cs).1],(a.comp cs).2)
  | .tru a,cs=>([(a.comp cs).1],(a.comp cs).2)
  | .ask a,cs=>askC a ((a.comp cs).2.frs tAny (fun g=>.face g (a.comp cs).1)) (a.comp cs).2.regs.length
theorem v_plain {k:Nat} {t:Nat} {u:List V} {r:List V} (h1:(k == 0x63616c6c)=false) (h2:(k == 0x6275696c74696e)=false) (h3:((0x617373657274 == k) || ((0x6b6579 == k) || (0x72656365697665 == k)))=false) (ht:(t == 0x7475706c65)=false)
    {n:Nat} {P:S} {cs:CS} {v:V} {σ:S} (h:cf TB FT n 206 [sta P,.tup (.str k :: .tup (.str t :: u) :: r)] (st P cs)=some (v,σ)) :
    cf TB FT (n + 1) 213 [sta P,.tup (.str k :: .tup (.str t :: u) :: r)] (st P cs)=some (.lst [v],σ):=by
  rw [cf_213]
  simp only [EV,F213,g_t0,g_t1,h1,h2,h3,ht,h]
theorem v_num (a:Num) (n k:Nat) (cs:CS) (P:S) (hn:12 * a.h + 30≤n) (o:Ok k cs) (hk:k + Bd a.h≤1000000) :
    cf TB FT n 213 [sta P,a.toV] (st P cs)=some (.lst [(a.comp cs).1.toV],st P (a.comp cs).2)∧Ok (k + Bd a.h) (a.comp cs).2:=by
  obtain ⟨m,rfl⟩:∃ m,n=m + 1:=⟨n - 1,by (refine (Nat.sub_add_cancel (le1 hn ?_)).symm;simp +arith only)⟩
  refine e0_2 (num_c a m k cs P (by (apply le1;assumption;simp +arith only)) o hk) fun x y=>?_
  refine ⟨?_,y⟩
  cases a with
  | mark i =>
    obtain ⟨q,rfl⟩:∃ q,m=q + 6:=⟨m - 6,by (refine (Nat.sub_add_cancel (le1 hn ?_)).symm;simp +arith only)⟩
    have:=Bd_ge (Num.mark i).h
    exact m_markV (n:=q + 1) o (by exact Nat.le_trans (Nat.add_le_add_left (Nat.le_trans (Nat.le_of_ble_eq_true rfl) this) k) hk) rfl
  | asrt a =>
    have e:(Num.asrt a).h=a.h + 1:=rfl
    rw [e] at hn hk
    have d3:=Bd_ge a.h
    have d4:=Bd_succ a.h
    obtain ⟨q,rfl⟩:∃ q,m=q + 12:=⟨m - 12,by (refine (Nat.sub_add_cancel (le1 hn ?_)).symm;simp +arith only)⟩
    refine e0_2 (c_face a _ (Bd a.h) d3 (num_c a) (q + 10) k cs P (by (apply le1;assumption;simp +arith only)) o (by exact ar8 (j:=0) hk d3 d4 (by decide))) fun a1 oa=>?_
    dsimp only at a1 oa
    revert a1 oa
    generalize hc:CS.frs (a.comp cs).2 tAny (fun g=>.face g (a.comp cs).1)=c1
    intro a1 oa
    have h1:∀ n,cf TB FT (n + 2) 398 [sta P,.tup [.str 0x617373657274,.int (c1.regs.length:Nat),.none,(Op.reg (a.comp cs).2.regs.length).toV,tInt,tAny]] (st P (c1.reg tInt))=some (.none,st P (c1.frs tInt (fun g=>.asrt g none (.reg (a.comp cs).2.regs.length)))):=fun n=>m_put (oa.reg (by exact ar8 (j:=1) hk d3 d4 (by decide))) rfl
    have h2:∀ n t,cf TB FT (n + 1) 384 [sta P,t] (st P c1)=some (.int (c1.regs.length:Nat),st P (c1.reg t)):=fun n t=>m_reg oa (by exact ar8 (j:=1) hk d3 d4 (by decide))
    have hl:(a.comp cs).2.regs.length + 1=c1.regs.length:=by rw [← hc,frs_len]
    have h3:∀ σ (x y z w u v:V),binop .Add (.tup [x,y,z]) (.tup [w,u,v]) σ=some (.tup [x,y,z,w,u,v],σ):=fun _ _ _ _ _ _ _=>rfl
    have h4:∀ σ (x:V),binop .Add (.lst [x]) (.lst []) σ=some (.lst [x],σ):=fun _ _=>rfl
    have h5:∀ σ (x y z:V),builtin .tuple [.lst [x,y,z]] σ=some (.tup [x,y,z],σ):=fun _ _ _ _=>rfl
    simp only [Num.comp]
    rw [cf_213,hc,hl]
    simp only [EV,Num.toV,F213,g_t0,g_t1,g_t3,g_t4,g_t5,g_tm6,cf_251,F251,mo_value,m_value,a1,mo_new_register,h2,h3,h4,h5,mo_put,h1,g_l0]
    rfl
  | _=>exact v_plain rfl rfl rfl rfl x
theorem v_row (a:Row) (n k:Nat) (cs:CS) (P:S) (hn:12 * a.h + 30≤n) (o:Ok k cs) (hk:k + Bd a.h≤1000000) :
    cf TB FT n 213 [sta P,a.toV] (st P cs)=some (.lst [(a.comp cs).1.toV],st P (a.comp cs).2)∧Ok (k + Bd a.h) (a.comp cs).2:=by
  obtain ⟨m,rfl⟩:∃ m,n=m + 1:=⟨n - 1,by (refine (Nat.sub_add_cancel (le1 hn ?_)).symm;simp +arith only)⟩
  refine e0_2 (row_c a m k cs P (by (apply le1;assumption;simp +arith only)) o hk) fun x y=>?_
  refine ⟨?_,y⟩
  cases a with
  | cut w=>induction w using Option.casesOn <;> exact v_plain rfl rfl rfl rfl x
  | _=>exact v_plain rfl rfl rfl rfl x
theorem v_tru (a:Tru) (n k:Nat) (cs:CS) (P:S) (hn:12 * a.h + 30≤n) (o:Ok k cs) (hk:k + Bd a.h≤1000000) :
    cf TB FT n 213 [sta P,a.toV] (st P cs)=some (.lst [(a.comp cs).1.toV],st P (a.comp cs).2)∧Ok (k + Bd a.h) (a.comp cs).2:=by
  obtain ⟨m,rfl⟩:∃ m,n=m + 1:=⟨n - 1,by (refine (Nat.sub_add_cancel (le1 hn ?_)).symm;simp +arith only)⟩
  refine e0_2 (tru_c a m k cs P (by (apply le1;assumption;simp +arith only)) o hk) fun x y=>?_
  refine ⟨?_,y⟩
  cases a with
  | mark i =>
    obtain ⟨q,rfl⟩:∃ q,m=q + 6:=⟨m - 6,by (refine (Nat.sub_add_cancel (le1 hn ?_)).symm;simp +arith only)⟩
    have:=Bd_ge (Tru.mark i).h
    exact m_markV (n:=q + 1) o (by exact Nat.le_trans (Nat.add_le_add_left (Nat.le_trans (Nat.le_of_ble_eq_true rfl) this) k) hk) rfl
  | _=>exact v_plain rfl rfl rfl rfl x
theorem v_ask (a:Num) (n k:Nat) (cs:CS) (P:S) (hn:12 * (a.h + 1) + 30≤n) (o:Ok k cs) (hk:k + Bd (a.h + 1)≤1000000) :
    cf TB FT n 213 [sta P,askV a] (st P cs)=some (.lst (((Top.ask a).comp cs).1.map Op.toV),st P ((Top.ask a).comp cs).2)∧Ok (k + Bd (a.h + 1)) ((Top.ask a).comp cs).2:=by
  have d3:=Bd_ge a.h
  have d4:=Bd_succ a.h
  obtain ⟨q,rfl⟩:∃ q,n=q + 12:=⟨n - 12,by (refine (Nat.sub_add_cancel (le1 hn ?_)).symm;simp +arith only)⟩
  refine e0_2 (c_face a _ (Bd a.h) d3 (num_c a) (q + 9) k cs P (by (apply le1;assumption;simp +arith only)) o (by exact ar8 (j:=0) hk d3 d4 (by decide))) fun a1 oa=>?_
  simp only [Top.comp]
  dsimp only at a1 oa
  revert a1 oa
  generalize CS.frs (a.comp cs).2 tAny (fun g=>.face g (a.comp cs).1)=c1
  generalize (a.comp cs).2.regs.length=f
  intro a1 oa
  have o1:=oa.reg (t:=tInt) (by exact ar8 (j:=1) hk d3 d4 (by decide))
  have o2:=o1.reg (t:=tBool) (by exact ar8 (j:=2) hk d3 d4 (by decide))
  have o3:=o2.ins (j:=.asrt c1.regs.length (some (c1.regs.length + 1)) (.reg f)) (by exact ar8 (j:=3) hk d3 d4 (by decide))
  refine ⟨?_,by simp only [askC]; exact o3.mono (by exact ar8 (j:=3) (Nat.le_refl _) d3 d4 (by decide)) hk⟩
  have h1:∀ n,cf TB FT (n + 2) 398 [sta P,.tup [.str 0x617373657274,.int (c1.regs.length:Nat),.int ((c1.regs.length + 1:Nat):Int),(Op.reg f).toV,tInt,tAny]] (st P ((c1.reg tInt).reg tBool))=some (.none,st P (((c1.reg tInt).reg tBool).ins (.asrt c1.regs.length (some (c1.regs.length + 1)) (.reg f)))):=fun n=>m_put o2 rfl
  have h2:∀ n,cf TB FT (n + 1) 384 [sta P,tInt] (st P c1)=some (.int (c1.regs.length:Nat),st P (c1.reg tInt)):=fun n=>m_reg oa (by exact ar8 (j:=1) hk d3 d4 (by decide))
  have h2':∀ n,cf TB FT (n + 1) 384 [sta P,tBool] (st P (c1.reg tInt))=some (.int ((c1.regs.length + 1:Nat):Int),st P ((c1.reg tInt).reg tBool)):=fun n=>by
    have:=m_reg (n:=n) (P:=P) (t:=tBool) o1 (by exact ar8 (j:=2) hk d3 d4 (by decide))
    rw [show (c1.reg tInt).regs.length=c1.regs.length + 1 from length_app1] at this
    exact this
  have h3:∀ σ (x y z w u v:V),binop .Add (.tup [x,y,z]) (.tup [w,u,v]) σ=some (.tup [x,y,z,w,u,v],σ):=fun _ _ _ _ _ _ _=>rfl
  have h4:∀ σ (x y:V),binop .Add (.lst [x]) (.lst [y]) σ=some (.lst [x,y],σ):=fun _ _ _=>rfl
  have h5:∀ σ (x y z:V),builtin .tuple [.lst [x,y,z]] σ=some (.tup [x,y,z],σ):=fun _ _ _ _=>rfl
  simp only [askC]
  rw [cf_213]
  simp only [EV,F213,g_t0,g_t1,g_t3,g_t4,g_t5,g_tm6,cf_251,F251,mo_value,m_value,a1,mo_new_register,h2,h2',h3,h4,h5,mo_put,h1,g_l0]
  rfl
theorem top_v (e:Top) (n k:Nat) (cs:CS) (P:S) (hn:12 * e.h + 30≤n) (o:Ok k cs) (hk:k + Bd e.h≤1000000) :
    cf TB FT n 213 [sta P,e.toV] (st P cs)=some (.lst ((e.comp cs).1.map Op.toV),st P (e.comp cs).2)∧Ok (k + Bd e.h) (e.comp cs).2:=by
  cases e with
  | num a=>exact v_num a n k cs P hn o hk
  | row a=>exact v_row a n k cs P hn o hk
  | tru a=>exact v_tru a n k cs P hn o hk
  | ask a=>exact v_ask a n k cs P hn o hk
end Internal.Pl
namespace Internal.Pl
open PySem
theorem at_290_body:TB.attr 290 0x626f6479=true:=rfl
theorem at_290_captured:TB.attr 290 0x6361707475726564=true:=rfl
theorem at_290_key:TB.attr 290 0x6b6579=true:=rfl
theorem at_290_literals:TB.attr 290 0x6c69746572616c73=true:=rfl
theorem at_290_locals:TB.attr 290 0x6c6f63616c73=true:=rfl
theorem at_290_params:TB.attr 290 0x706172616d73=true:=rfl
theorem at_290_results:TB.attr 290 0x726573756c7473=true:=rfl
theorem at_331_blocks:TB.attr 331 0x626c6f636b73=true:=rfl
theorem at_331_captured:TB.attr 331 0x6361707475726564=true:=rfl
theorem at_331_key:TB.attr 331 0x6b6579=true:=rfl
theorem at_331_params:TB.attr 331 0x706172616d73=true:=rfl
theorem at_331_recovery:TB.attr 331 0x7265636f76657279=true:=rfl
theorem at_331_registers:TB.attr 331 0x726567697374657273=true:=rfl
theorem at_331_results:TB.attr 331 0x726573756c7473=true:=rfl
theorem at_534_boxed:TB.attr 534 0x626f786564=true:=rfl
theorem at_534_code:TB.attr 534 0x636f6465=true:=rfl
theorem at_534_has_defers:TB.attr 534 0x6861735f646566657273=true:=rfl
theorem at_534_held:TB.attr 534 0x68656c64=true:=rfl
theorem at_534_here:TB.attr 534 0x68657265=true:=rfl
theorem at_534_known:TB.attr 534 0x6b6e6f776e=true:=rfl
theorem at_534_loops:TB.attr 534 0x6c6f6f7073=true:=rfl
theorem at_534_sites:TB.attr 534 0x7369746573=true:=rfl
theorem at_534_spot:TB.attr 534 0x73706f74=true:=rfl
theorem at_534_typed_fn:TB.attr 534 0x74797065645f666e=true:=rfl
theorem at_534_world:TB.attr 534 0x776f726c64=true:=rfl
theorem at_558_methods:TB.attr 558 0x6d6574686f6473=true:=rfl
theorem at_558_package:TB.attr 558 0x7061636b616765=true:=rfl
theorem at_558_path:TB.attr 558 0x70617468=true:=rfl
theorem at_558_underlying:TB.attr 558 0x756e6465726c79696e67=true:=rfl
theorem at_601_bodies:TB.attr 601 0x626f64696573=true:=rfl
theorem at_601_consts:TB.attr 601 0x636f6e737473=true:=rfl
theorem at_601_files:TB.attr 601 0x66696c6573=true:=rfl
theorem at_601_funcs:TB.attr 601 0x66756e6373=true:=rfl
theorem at_601_globals:TB.attr 601 0x676c6f62616c73=true:=rfl
theorem at_601_is_whole:TB.attr 601 0x69735f77686f6c65=true:=rfl
theorem at_601_late_keys:TB.attr 601 0x6c6174655f6b657973=true:=rfl
theorem at_601_named:TB.attr 601 0x6e616d6564=true:=rfl
theorem at_601_order:TB.attr 601 0x6f72646572=true:=rfl
theorem at_601_packages:TB.attr 601 0x7061636b61676573=true:=rfl
theorem at_601_scopes:TB.attr 601 0x73636f706573=true:=rfl
theorem at_601_settle:TB.attr 601 0x736574746c65=true:=rfl
theorem at_601_starts:TB.attr 601 0x737461727473=true:=rfl
noncomputable def kSa (at_:Bool) (l n:Nat) (v:V) (σ:S):Option O→Option S
  | some (.obj kvs)=>cond (at_ && Nat.ble kvs.length 900) (some (σ.set l (.obj (put kvs n v)))) none
  | _=>none
theorem sa_k {T:Tab} {c l n:Nat} {σ:S} {v:V}:setAttr T (.inst c l) n v σ=kSa (T.attr c n) l n v σ (σ[l]?):=by
  unfold setAttr kSa
  simp only
  cases σ[l]? with
  | none=>rfl
  | some o=>induction o using O.casesOn with
    | obj kvs=>simp only; cases T.attr c n <;> cases Nat.ble kvs.length 900 <;> rfl
    | _=>rfl
theorem k_sa {l n:Nat} {σ:S} {v:V} {kvs:M} (h:Nat.ble kvs.length 900=true):kSa true l n v σ (some (.obj kvs))=some (σ.set l (.obj (put kvs n v))):=by
  unfold kSa; simp only [h,Bool.and_true,cond_true]
theorem c_cls {T:Tab} {C:Cl} {c i:Nat} {args:List V} {σ σ':S} (h:T.init c=some i) (hc:C i (.inst c σ.length :: args) (σ++[.obj []])=some (.none,σ')):callV T C (.cls c) args σ=some (.inst c σ.length,σ'):=by
  show (T.init c).bind _=_
  rw [h]; show (C i (.inst c σ.length :: args) (σ++[.obj []])).bind _=_
  rw [hc]; rfl
theorem pre_get0 {P L:S}:(P++L)[P.length]? = L[0]?:=pre_get (k:=0)
theorem pre_set0 {P L:S} {o:O}:(P++L).set P.length o=P++L.set 0 o:=pre_set (k:=0)
theorem kd_0 {σ:S}:kDct true [] ([],σ)=some (.dct [] [],σ):=rfl
theorem kd_f {σ:S}:kDct false [] ([],σ)=some (.loc σ.length,σ++[.dict []]):=rfl
theorem kd_1 {σ:S} {a p:Nat} {v:V}:kDct true [.st a p] ([v],σ)=some (.dct [a] [v],σ):=rfl
theorem kd_2 {σ:S} {a p b q:Nat} {v w:V}:kDct true [.st a p,.st b q] ([v,w],σ)=some (.dct [a,b] [v,w],σ):=rfl
theorem kd_3 {σ:S} {a p b q c r:Nat} {v w x:V}:kDct true [.st a p,.st b q,.st c r] ([v,w,x],σ)=some (.dct [a,b,c] [v,w,x],σ):=rfl
theorem kd_4 {σ:S} {a p b q c r d s:Nat} {v w x y:V}:kDct true [.st a p,.st b q,.st c r,.st d s] ([v,w,x,y],σ)=some (.dct [a,b,c,d] [v,w,x,y],σ):=rfl
theorem kd_i {σ:S} {a b:Int} {p q:Nat} {v w:V}:kDct true [.num a p,.num b q] ([v,w],σ)=some (.dcti [a,b] [v,w],σ):=rfl
theorem mk_row {n:Nat} {σ:S} {a b c d:V}:callV TB (cf TB FT (n + 1)) (.cls 558) [a,b,c,d] σ=some (.inst 558 σ.length,σ++[.obj [(0x70617468,a),(0x7061636b616765,b),(0x756e6465726c79696e67,c),(0x6d6574686f6473,d)]]):=by
  refine c_cls (i:=555) rfl ?_
  rw [cf_555]
  simp only [EV,F555,sa_k,pre_get0,pre_set0,at_290_body,at_290_captured,at_290_key,at_290_literals,at_290_locals,at_290_params,at_290_results,at_331_blocks,at_331_captured,at_331_key,at_331_params,at_331_recovery,at_331_registers,at_331_results,at_534_boxed,at_534_code,at_534_has_defers,at_534_held,at_534_here,at_534_known,at_534_loops,at_534_sites,at_534_spot,at_534_typed_fn,at_534_world,at_558_methods,at_558_package,at_558_path,at_558_underlying,at_601_bodies,at_601_consts,at_601_files,at_601_funcs,at_601_globals,at_601_is_whole,at_601_late_keys,at_601_named,at_601_order,at_601_packages,at_601_scopes,at_601_settle,at_601_starts,List.getElem?_cons_zero,List.set_cons_zero,k_sa (kvs:=[]) rfl,k_sa (kvs:=[_]) rfl,k_sa (kvs:=[_,_]) rfl,k_sa (kvs:=[_,_,_]) rfl]
theorem len1 {P:S} {a:O}:(P++[a]).length=P.length + 1:=by simp
theorem len2 {P:S} {a b:O}:(P++[a,b]).length=P.length + 2:=by simp
theorem len3 {P:S} {a b c:O}:(P++[a,b,c]).length=P.length + 3:=by simp
theorem len4 {P:S} {a b c d:O}:(P++[a,b,c,d]).length=P.length + 4:=by simp
theorem len5 {P:S} {a b c d e:O}:(P++[a,b,c,d,e]).length=P.length + 5:=by simp
theorem len6 {P:S} {a b c d e f:O}:(P++[a,b,c,d,e,f]).length=P.length + 6:=by simp
theorem len7 {P:S} {a b c d e f g:O}:(P++[a,b,c,d,e,f,g]).length=P.length + 7:=by simp
theorem len8 {P:S} {a b c d e f g h:O}:(P++[a,b,c,d,e,f,g,h]).length=P.length + 8:=by simp
theorem len9 {P:S} {a b c d e f g h i:O}:(P++[a,b,c,d,e,f,g,h,i]).length=P.length + 9:=by simp
theorem app_app {P L M:S}:(P++L)++M=P++(L++M):=List.append_assoc ..
theorem mk_rows {n:Nat} {P:S} {o:O}:∃ v,v=V.dct [0x6572726f72,0x72756e74696d652e4572726f72,0x73796e632e4d75746578,0x73796e632e5761697447726f7570] [.inst 558 (P.length + 1),.inst 558 (P.length + 2),.inst 558 (P.length + 3),.inst 558 (P.length + 4)] ∧
    cf TB FT (n + 2) 569 [] (P++[o])=some (v,P++[o,n1O,n2O,n3O,n4O]):=by
  refine ⟨_,rfl,?_⟩
  rw [cf_569]
  simp only [EV,F569,kd_0,kd_1,kd_2,kd_3,kd_4,mk_row,app_app,List.cons_append,List.nil_append,len1,len2,len3,len4]
  rfl
theorem mk_world {n:Nat} {P:S}:callV TB (cf TB FT (n + 3)) (.cls 601) [] P=some (.inst 601 P.length,P++[wO P.length,n1O,n2O,n3O,n4O]):=by
  refine c_cls (i:=584) rfl ?_
  have h1:∀ n o,cf TB FT (n + 2) 569 [] (P++[o])=some (_,P++[o,n1O,n2O,n3O,n4O]):=fun n o=>by
    refine e1_2 (mk_rows (n:=n) (P:=P) (o:=o)) fun v hv h=>?_; rw [hv] at h; exact h
  rw [cf_584_1]
  simp only [EV,F584,kd_0,h1,sa_k,pre_get0,pre_set0,at_290_body,at_290_captured,at_290_key,at_290_literals,at_290_locals,at_290_params,at_290_results,at_331_blocks,at_331_captured,at_331_key,at_331_params,at_331_recovery,at_331_registers,at_331_results,at_534_boxed,at_534_code,at_534_has_defers,at_534_held,at_534_here,at_534_known,at_534_loops,at_534_sites,at_534_spot,at_534_typed_fn,at_534_world,at_558_methods,at_558_package,at_558_path,at_558_underlying,at_601_bodies,at_601_consts,at_601_files,at_601_funcs,at_601_globals,at_601_is_whole,at_601_late_keys,at_601_named,at_601_order,at_601_packages,at_601_scopes,at_601_settle,at_601_starts,List.getElem?_cons_zero,List.set_cons_zero,k_sa (kvs:=[]) rfl,k_sa (kvs:=[_]) rfl,k_sa (kvs:=[_,_]) rfl,k_sa (kvs:=[_,_,_]) rfl,k_sa (kvs:=[_,_,_,_]) rfl,k_sa (kvs:=[_,_,_,_,_]) rfl,k_sa (kvs:=[_,_,_,_,_,_]) rfl,k_sa (kvs:=[_,_,_,_,_,_,_]) rfl,k_sa (kvs:=[_,_,_,_,_,_,_,_]) rfl,k_sa (kvs:=[_,_,_,_,_,_,_,_,_]) rfl,k_sa (kvs:=[_,_,_,_,_,_,_,_,_,_]) rfl,k_sa (kvs:=[_,_,_,_,_,_,_,_,_,_,_]) rfl,k_sa (kvs:=[_,_,_,_,_,_,_,_,_,_,_,_]) rfl]
  rfl
theorem mk_tf {n:Nat} {σ:S}:callV TB (cf TB FT (n + 1)) (.cls 290) [.str 0x6d61696e2e66,vRows,.tup [],.tup [],.tup [],.tup [],.dct [] []] σ=some (.inst 290 σ.length,σ++[tfO]):=by
  refine c_cls (i:=287) rfl ?_
  rw [cf_287]
  simp only [EV,F287,sa_k,pre_get0,pre_set0,at_290_body,at_290_captured,at_290_key,at_290_literals,at_290_locals,at_290_params,at_290_results,at_331_blocks,at_331_captured,at_331_key,at_331_params,at_331_recovery,at_331_registers,at_331_results,at_534_boxed,at_534_code,at_534_has_defers,at_534_held,at_534_here,at_534_known,at_534_loops,at_534_sites,at_534_spot,at_534_typed_fn,at_534_world,at_558_methods,at_558_package,at_558_path,at_558_underlying,at_601_bodies,at_601_consts,at_601_files,at_601_funcs,at_601_globals,at_601_is_whole,at_601_late_keys,at_601_named,at_601_order,at_601_packages,at_601_scopes,at_601_settle,at_601_starts,List.getElem?_cons_zero,List.set_cons_zero,k_sa (kvs:=[]) rfl,k_sa (kvs:=[_]) rfl,k_sa (kvs:=[_,_]) rfl,k_sa (kvs:=[_,_,_]) rfl,k_sa (kvs:=[_,_,_,_]) rfl,k_sa (kvs:=[_,_,_,_,_]) rfl,k_sa (kvs:=[_,_,_,_,_,_]) rfl]
  rfl
theorem mk_code {n:Nat} {σ:S} {a b c d e:V} {rs:V} {ws:List V} (h:∀ L,seqOf (σ++L) rs=some ws):callV TB (cf TB FT (n + 1)) (.cls 331) [a,b,rs,c,d,e] σ=some (.inst 331 σ.length,σ++[.obj [(0x6b6579,a),(0x706172616d73,b),(0x726567697374657273,.loc (σ.length + 1)),(0x626c6f636b73,c),(0x6361707475726564,d),(0x726573756c7473,e),(0x7265636f76657279,.none)],.list ws]):=by
  refine c_cls (i:=309) rfl ?_
  have hb:∀ L,builtin .listM [rs] (σ++L)=some (.loc (σ++L).length,(σ++L)++[.list ws]):=fun L=>by
    show (seqOf (σ++L) rs).map _=_
    rw [h]; rfl
  rw [cf_309_1]
  simp only [EV,F309,sa_k,pre_get0,pre_set0,at_290_body,at_290_captured,at_290_key,at_290_literals,at_290_locals,at_290_params,at_290_results,at_331_blocks,at_331_captured,at_331_key,at_331_params,at_331_recovery,at_331_registers,at_331_results,at_534_boxed,at_534_code,at_534_has_defers,at_534_held,at_534_here,at_534_known,at_534_loops,at_534_sites,at_534_spot,at_534_typed_fn,at_534_world,at_558_methods,at_558_package,at_558_path,at_558_underlying,at_601_bodies,at_601_consts,at_601_files,at_601_funcs,at_601_globals,at_601_is_whole,at_601_late_keys,at_601_named,at_601_order,at_601_packages,at_601_scopes,at_601_settle,at_601_starts,List.getElem?_cons_zero,List.set_cons_zero,hb,app_app,List.cons_append,List.nil_append,len1,k_sa (kvs:=[]) rfl,k_sa (kvs:=[_]) rfl,k_sa (kvs:=[_,_]) rfl,k_sa (kvs:=[_,_,_]) rfl,k_sa (kvs:=[_,_,_,_]) rfl,k_sa (kvs:=[_,_,_,_,_]) rfl,k_sa (kvs:=[_,_,_,_,_,_]) rfl]
end Internal.Pl
namespace Internal.Pl
open PySem
noncomputable def kGa (at_:Bool) (n:Nat) (σ:S):Option O→Rs
  | some (.obj kvs)=>cond at_ (kLoc (look kvs n) σ) none
  | _=>none
theorem ga_k {T:Tab} {c l n:Nat} {σ:S}:getAttr T (.inst c l) n σ=kGa (T.attr c n) n σ (σ[l]?):=by
  unfold getAttr kGa
  simp only
  cases σ[l]? with
  | none=>rfl
  | some o=>induction o using O.casesOn with
    | obj kvs=>simp only; cases T.attr c n <;> rfl
    | _=>rfl
theorem k_ga {n:Nat} {σ:S} {kvs:M}:kGa true n σ (some (.obj kvs))=kLoc (look kvs n) σ:=rfl
noncomputable def kMo2 (a:Nat):Option V→Option (Option Nat)
  | none=>some (some a)
  | _=>none
noncomputable def kMo (n:Nat):Option Nat→Option O→Option (Option Nat)
  | some a,some (.obj kvs)=>kMo2 a (look kvs n)
  | _,_=>none
theorem mo_k {T:Tab} {c l n:Nat} {σ:S}:methOk T (.inst c l) n σ=kMo n (T.meth c n) (σ[l]?):=by
  unfold methOk kMo
  simp only
  cases T.meth c n with
  | none=>rfl
  | some a=>cases σ[l]? with
    | none=>rfl
    | some o=>induction o using O.casesOn with
      | obj kvs=>simp only [Option.bind_some]; cases look kvs n <;> rfl
      | _=>rfl
theorem k_mo {n a:Nat} {kvs:M}:kMo n (some a) (some (.obj kvs))=kMo2 a (look kvs n):=rfl
theorem k_mo2 {a:Nat}:kMo2 a none=some (some a):=rfl
theorem tm_391:TB.meth 534 0x6e65775f626c6f636b=some 391:=rfl
noncomputable def cs0:CS:=⟨[],[],[([],none)],0,0⟩
theorem bf {σ:S} {v w:V}:builtin .fset [.dcti [1,2] [v,w]] σ=some (.fset [1,2],σ):=rfl
theorem bl0 {σ:S}:builtin .len [.tup []] σ=some (.int 0,σ):=rfl
theorem mk_code0 {n:Nat} {P:S} {p:Nat} {h:S} (hp:p=(P++h).length) {a b c d e:V}:callV TB (cf TB FT (n + 1)) (.cls 331) [a,b,.lst [],c,d,e] (P++h)=some (.inst 331 p,P++(h++[.obj [(0x6b6579,a),(0x706172616d73,b),(0x726567697374657273,.loc (p + 1)),(0x626c6f636b73,c),(0x6361707475726564,d),(0x726573756c7473,e),(0x7265636f76657279,.none)],.list []])):=by
  subst hp
  rw [mk_code (ws:=[]) (fun _=>rfl),app_app]
theorem len11 {P:S} {a b c d e f g h i j k:O}:(P++[a,b,c,d,e,f,g,h,i,j,k]).length=P.length + 11:=by simp
theorem len12 {P:S} {a b c d e f g h i j k l:O}:(P++[a,b,c,d,e,f,g,h,i,j,k,l]).length=P.length + 12:=by simp
theorem mk_state {n:Nat} {P:S} {v w:V}:callV TB (cf TB FT (n + 2)) (.cls 534) [.inst 601 P.length,.inst 290 (P.length + 5),.dcti [1,2] [v,w],vKnown] (P++[wO P.length,n1O,n2O,n3O,n4O,tfO])=some (.inst 534 (P.length + 6),st P cs0):=by
  have hl:(P++[wO P.length,n1O,n2O,n3O,n4O,tfO]).length=P.length + 6:=len6
  have hc:∀ n (a0 a1 a2 a3 a4 a5 a6 a7 a8:O) a b c d e,callV TB (cf TB FT (n + 1)) (.cls 331) [a,b,.lst [],c,d,e] (P++[a0,a1,a2,a3,a4,a5,a6,a7,a8])=some (.inst 331 (P.length + 9),P++[a0,a1,a2,a3,a4,a5,a6,a7,a8,.obj [(0x6b6579,a),(0x706172616d73,b),(0x726567697374657273,.loc (P.length + 10)),(0x626c6f636b73,c),(0x6361707475726564,d),(0x726573756c7473,e),(0x7265636f76657279,.none)],.list []]):=fun n a0 a1 a2 a3 a4 a5 a6 a7 a8 a b c d e=>mk_code0 len9.symm
  have e8:∀ (a0 a1 a2 a3 a4 a5 a6 a7 a8:O) (r:S),(P++(a0 :: a1 :: a2 :: a3 :: a4 :: a5 :: a6 :: a7 :: a8 :: r))[P.length + 8]? = some a8:=fun _ _ _ _ _ _ _ _ _ _=>pre_get
  have ma:∀ (a0 a1 a2 a3 a4 a5 a6 a7:O) (vs:List V) (r:S),methOk TB (.loc (P.length + 8)) 0x617070656e64 (P++(a0 :: a1 :: a2 :: a3 :: a4 :: a5 :: a6 :: a7 :: .list vs :: r))=some none:=fun _ _ _ _ _ _ _ _ _ _=>mo_app (e8 ..)
  have mp:∀ (a0 a1 a2 a3 a4 a5 a6 a7:O) (r:S) v,methS (P.length + 8) 0x617070656e64 [v] (P++(a0 :: a1 :: a2 :: a3 :: a4 :: a5 :: a6 :: a7 :: .list [] :: r))=some (.none,P++(a0 :: a1 :: a2 :: a3 :: a4 :: a5 :: a6 :: a7 :: .list [v] :: r)):=fun _ _ _ _ _ _ _ _ _ _=>by
    rw [ms_app (e8 ..) rfl,pre_set]; rfl
  have me:∀ (a0 a1 a2 a3 a4 a5 a6 a7:O) (r:S) v,builtin .len [.loc (P.length + 8)] (P++(a0 :: a1 :: a2 :: a3 :: a4 :: a5 :: a6 :: a7 :: .list [v] :: r))=some (.int 1,P++(a0 :: a1 :: a2 :: a3 :: a4 :: a5 :: a6 :: a7 :: .list [v] :: r)):=fun _ _ _ _ _ _ _ _ _ _=>bl_len_loc (vs:=[_]) (e8 ..) rfl
  have:=c_cls (T:=TB) (C:=cf TB FT (n + 2)) (c:=534) (i:=377) (args:=[.inst 601 P.length,.inst 290 (P.length + 5),.dcti [1,2] [v,w],vKnown]) (σ:=P++[wO P.length,n1O,n2O,n3O,n4O,tfO]) (σ':=st P cs0) rfl ?_
  · rw [this,hl]
  rw [hl,app_app,cf_377]
  simp only [EV,F377,kd_0,kd_f,bf,bl0,hc,sa_k,ga_k,k_ga,mo_k,k_mo,k_mo2,tm_391,pre_get,pre_set,pre_get0,pre_set0,at_290_body,at_290_captured,at_290_key,at_290_literals,at_290_locals,at_290_params,at_290_results,at_331_blocks,at_331_captured,at_331_key,at_331_params,at_331_recovery,at_331_registers,at_331_results,at_534_boxed,at_534_code,at_534_has_defers,at_534_held,at_534_here,at_534_known,at_534_loops,at_534_sites,at_534_spot,at_534_typed_fn,at_534_world,at_558_methods,at_558_package,at_558_path,at_558_underlying,at_601_bodies,at_601_consts,at_601_files,at_601_funcs,at_601_globals,at_601_is_whole,at_601_late_keys,at_601_named,at_601_order,at_601_packages,at_601_scopes,at_601_settle,at_601_starts,List.getElem?_cons_zero,List.set_cons_zero,List.getElem?_cons_succ,List.set_cons_succ,app_app,List.cons_append,List.nil_append,len7,len8,len11,len12,tfO,cf_391,F391,ma,mp,me,o_sub,k_sa (kvs:=[]) rfl,k_sa (kvs:=[_]) rfl,k_sa (kvs:=[_,_]) rfl,k_sa (kvs:=[_,_,_]) rfl,k_sa (kvs:=[_,_,_,_]) rfl,k_sa (kvs:=[_,_,_,_,_]) rfl,k_sa (kvs:=[_,_,_,_,_,_]) rfl,k_sa (kvs:=[_,_,_,_,_,_,_]) rfl,k_sa (kvs:=[_,_,_,_,_,_,_,_]) rfl,k_sa (kvs:=[_,_,_,_,_,_,_,_,_]) rfl,k_sa (kvs:=[_,_,_,_,_,_,_,_,_,_]) rfl]
  rfl
end Internal.Pl
namespace Internal.Pl
open PySem
theorem m_reg0 {n:Nat} {cs:CS} (hk:cs.regs.length + 1≤1000000) {P:S} {t:V} :
    cf TB FT (n + 1) 384 [sta P,t] (st P cs)=some (.int (cs.regs.length:Nat),st P (cs.reg t)):=by
  have s1:(st P cs).set (P.length + 10) (.list (cs.regs++[t]))=st P (cs.reg t):=st_set (by decide) rfl rfl
  have s2:((cs.regs++[t]).length)≤1000000:=by rw [length_app1]; assumption
  rw [cf_384]
  simp only [EV,F384,ga_code,gc_registers,mo_app (st_get (P:=P) (cs:=cs) (k:=10) (by decide)),ms_app (st_get (P:=P) (cs:=cs) (k:=10) (by decide)) (sz (show cs.regs.length≤1000000 by (refine le1 hk ?_;simp +arith only))),s1,bl_len_loc (st_get (P:=P) (cs:=cs.reg t) (k:=10) (by decide)) (sz s2),o_sub]
  simp only [CS.reg,length_app1,sub1]
theorem m_type {n:Nat} {cs:CS} {P:S} {i:Int} {a t:V} (h:∀ σ,getItem vRows (.int i) σ=some (.tup [a,t],σ)):cf TB FT (n + 1) 440 [sta P,.int i] (st P cs)=some (t,st P cs):=by
  revert h
  have hx:=@gt_locals P cs
  revert hx
  generalize vRows=w
  intro hx h
  rw [cf_440]
  simp only [EV,F440,ga_typed_fn,hx,h,g_t1]
noncomputable def CS.hold (cs:CS) (i:Int) (v:V):CS:={ cs with held:=putI cs.held i v }
theorem m_take {n:Nat} {cs:CS} {P:S} {i:Int} {a t t':V} (h:∀ σ,getItem vRows (.int i) σ=some (.tup [a,t],σ)) (hk:cs.regs.length + 1≤1000000)
    (hh:sizeOk cs.held.length=true) (ht:t'=bif [1,2].contains i then .tup [.str 0x707472,t] else t) {w:V}
    (hw:∀ σ:S,σ[P.length + 7]? = some (.dict (putI cs.held i (.int (cs.regs.length:Nat))))→getItem (.loc (P.length + 7)) (.int i) σ=some (w,σ)) :
    cf TB FT (n + 2) 454 [sta P,.int i] (st P cs)=some (w,st P ((cs.reg t').hold i (.int (cs.regs.length:Nat)))):=by
  have h1:∀ n t,cf TB FT (n + 1) 384 [sta P,t] (st P cs)=some (.int (cs.regs.length:Nat),st P (cs.reg t)):=fun n t=>m_reg0 hk
  have h2:∀ n,cf TB FT (n + 1) 440 [sta P,.int i] (st P cs)=some (t,st P cs):=fun n=>m_type h
  have e1:(st P (cs.reg t'))[P.length + 7]? = some (.dict cs.held):=st_get (by decide)
  have e2:(st P (cs.reg t')).set (P.length + 7) (.dict (putI cs.held i (.int (cs.regs.length:Nat))))=st P ((cs.reg t').hold i (.int (cs.regs.length:Nat))):=st_set (by decide) rfl rfl
  have h3:setItem (.loc (P.length + 7)) (.int i) (.int (cs.regs.length:Nat)) (st P (cs.reg t'))=some (st P ((cs.reg t').hold i (.int (cs.regs.length:Nat)))):=by
    rw [si_D e1,if_pos hh,e2]
  have h4:getItem (.loc (P.length + 7)) (.int i) (st P ((cs.reg t').hold i (.int (cs.regs.length:Nat))))=some (w,st P ((cs.reg t').hold i (.int (cs.regs.length:Nat)))):=hw _ (st_get (by decide))
  cases hc:[1,2].contains i with
  | true =>
    rw [hc] at ht; simp only [cond_true] at ht; subst ht
    rw [cf_454]
    simp only [EV,F454,mo_type_of_local,h2,ga_held,mo_is_boxed,m_boxed,hc,mo_new_register,h1,h3,h4]
  | false =>
    rw [hc] at ht; simp only [cond_false] at ht; subst ht
    rw [cf_454]
    simp only [EV,F454,mo_type_of_local,h2,ga_held,mo_is_boxed,m_boxed,hc,mo_new_register,h1,h3,h4]
noncomputable def cs1:CS:=⟨[tSlice],[(0,.int 0)],[([],none)],0,0⟩
noncomputable def cs2:CS:=⟨[tSlice,tPtr tInt],[(0,.int 0),(1,.int 1)],[([],none)],0,0⟩
noncomputable def cs3:CS:=⟨[tSlice,tPtr tInt,tPtr tArr],[(0,.int 0),(1,.int 1),(2,.int 2)],[([],none)],0,0⟩
theorem ok3:Ok 10 cs3:=⟨by decide,by decide,fun x m=>by simp only [cs3,List.mem_singleton] at m; subst m; decide,by decide,by decide,rfl⟩
theorem gi_held {σ:S} {l:Nat} {kvs:List (Int × V)} {i:Int} {v:V} (h:σ[l]? = some (.dict kvs)) (hv:lookI kvs i=some v):getItem (.loc l) (.int i) σ=some (v,σ):=by
  rw [gi_D h,hv]; rfl
theorem m_take0 {n:Nat} {P:S}:cf TB FT (n + 2) 454 [sta P,.int 0] (st P cs0)=some (.int 0,st P cs1) :=
  m_take (a:=.str 0x73) (t:=tSlice) (t':=tSlice) (w:=.int 0) (fun _=>rfl) (by decide) rfl rfl (fun σ h=>gi_held h rfl)
theorem m_take1 {n:Nat} {P:S}:cf TB FT (n + 2) 454 [sta P,.int 1] (st P cs1)=some (.int 1,st P cs2) :=
  m_take (a:=.str 0x76) (t:=tInt) (t':=tPtr tInt) (w:=.int 1) (fun _=>rfl) (by decide) rfl rfl (fun σ h=>gi_held h rfl)
theorem m_take2 {n:Nat} {P:S}:cf TB FT (n + 2) 454 [sta P,.int 2] (st P cs2)=some (.int 2,st P cs3) :=
  m_take (a:=.str 0x72) (t:=tArr) (t':=tPtr tArr) (w:=.int 2) (fun _=>rfl) (by decide) rfl rfl (fun σ h=>gi_held h rfl)
noncomputable def Top.done (e:Top):CS:=(e.comp cs3).2.cls (.ret (e.comp cs3).1)
theorem comp_len (e:Top) (cs:CS):sizeOk ((e.comp cs).1.map Op.toV).length=true:=by cases e <;> rfl
theorem bn {n p:Nat} {v:V} {m:M} {σ:S}:bindS [(n,p)] none v m σ=some (put m n v):=by
  induction v using V.casesOn <;> rfl
theorem head713 (e:Top) (n:Nat) (P:S) (hn:12 * e.h + 33≤n) (hb:Bd e.h≤900000) :
    exs TB (cf TB FT n) (F713.body.take 5) [(0x65,e.toV)] P=some (none,[(0x65,e.toV),(0x726f7773,vRows),(0x6b6e6f776e,vKnown),(0x7374617465,sta P),(0x6c6f63616c,.int 2)],st P e.done)∧Ok (10 + Bd e.h) e.done:=by
  obtain ⟨m,rfl⟩:∃ m,n=m + 3:=⟨n - 3,by (refine (Nat.sub_add_cancel (le1 hn ?_)).symm;simp +arith only)⟩
  refine e0_2 (top_v e (m + 3) 10 cs3 P (by (apply le1;assumption;simp +arith only)) ok3 (by (refine le1 hb ?_;simp +arith only))) fun v1 v2=>?_
  refine ⟨?_,v2.cls⟩
  have hk3:∀ (a b c:Nat) (v w x:V) (p q r:Nat) (σ:S),kDct true [.st a p,.st b q,.st c r] ([v,w,x],σ)=some (.dct [a,b,c] [v,w,x],σ):=fun _ _ _ _ _ _ _ _ _ _=>rfl
  have hw:∀ n,callV TB (cf TB FT (n + 3)) (.cls 601) [] P=some (.inst 601 P.length,P++[wO P.length,n1O,n2O,n3O,n4O]):=fun n=>mk_world
  have ht:∀ n,callV TB (cf TB FT (n + 1)) (.cls 290) [.str 0x6d61696e2e66,vRows,.tup [],.tup [],.tup [],.tup [],.dct [] []] (P++[wO P.length,n1O,n2O,n3O,n4O])=some (.inst 290 (P.length + 5),P++[wO P.length,n1O,n2O,n3O,n4O,tfO]):=fun n=>by
    rw [mk_tf,len5,app_app]; rfl
  have hs:∀ n v w,callV TB (cf TB FT (n + 2)) (.cls 534) [.inst 601 P.length,.inst 290 (P.length + 5),.dcti [1,2] [v,w],vKnown] (P++[wO P.length,n1O,n2O,n3O,n4O,tfO])=some (sta P,st P cs0):=fun n v w=>mk_state
  have hc:∀ n,cf TB FT (n + 1) 412 [sta P,.tup [.str 0x72657475726e,.tup ((e.comp cs3).1.map Op.toV)]] (st P (e.comp cs3).2)=some (.none,st P e.done):=fun n=>m_close v2 rfl
  have hbt:∀ σ,builtin .tuple [.lst ((e.comp cs3).1.map Op.toV)] σ=some (.tup ((e.comp cs3).1.map Op.toV),σ):=fun σ=>by
    show ((if sizeOk ((e.comp cs3).1.map Op.toV).length then some ((e.comp cs3).1.map Op.toV) else none:Option (List V))).map _=_
    rw [comp_len]; rfl
  simp only [EV,F713,List.take_succ_cons,List.take_zero,kd_0,kd_i,hk3,hw,ht,hs,bn,mo_take_register,m_take0,m_take1,m_take2,v1,hbt,mo_close,hc]
end Internal.Pl
namespace Internal.Pl
open PySem
theorem ins_perm (i:Int):∀ l,(insSorted i l).Perm (i :: l)
  | []=>.refl _
  | j :: r=>by
    unfold insSorted
    split
    · exact .refl _
    · exact ((ins_perm i r).cons j).trans (.swap i j r)
theorem ins_mem {i x:Int} {l:List Int} (h:x ∈ insSorted i l):x=i ∨ x ∈ l:=by
  have:=(ins_perm i l).mem_iff.mp h
  simpa using this
theorem ins_sorted (i:Int):∀ l,l.Pairwise (· ≤ ·)→(insSorted i l).Pairwise (· ≤ ·)
  | [],_=>by unfold insSorted; exact .cons (by simp) .nil
  | j :: r,h=>by
    unfold insSorted
    have h1:∀ {x},x ∈ r→j≤x:=fun hx=>List.rel_of_pairwise_cons h hx
    have h2:=List.Pairwise.of_cons h
    split
    · rename_i hij
      refine .cons (fun x hx=>?_) h
      rcases List.mem_cons.mp hx with rfl | hx
      · exact hij
      · exact Int.le_trans hij (h1 hx)
    · refine .cons (fun x hx=>?_) (ins_sorted i r h2)
      rcases ins_mem hx with rfl | hx
      · exact Int.le_of_lt (Int.not_le.mp (by assumption))
      · exact h1 hx
theorem sort_perm:∀ l:List Int,(l.foldr insSorted []).Perm l
  | []=>.refl _
  | i :: r=>(ins_perm i _).trans ((sort_perm r).cons i)
theorem sort_sorted:∀ l:List Int,(l.foldr insSorted []).Pairwise (· ≤ ·)
  | []=>.nil
  | i :: r=>ins_sorted i _ (sort_sorted r)
theorem range_sorted (n:Nat):((List.range n).map (fun i:Nat=>(i:Int))).Pairwise (· ≤ ·):=by
  rw [List.pairwise_map]
  refine (List.pairwise_lt_range (n:=n)).imp fun h=>?_
  exact Int.ofNat_le.mpr (Nat.le_of_lt h)
theorem perm_range {F:List Nat} {n:Nat} (nd:F.Nodup) (h:∀ x,x ∈ F ↔ x < n):F.Perm (List.range n) :=
  (List.perm_ext_iff_of_nodup nd List.nodup_range).mpr fun x=>by rw [h,List.mem_range]
theorem sort_range {F:List Nat} {n:Nat} (nd:F.Nodup) (h:∀ x,x ∈ F ↔ x < n):(F.map (fun i:Nat=>(i:Int))).foldr insSorted [] = (List.range n).map (fun i:Nat=>(i:Int)):=by
  refine List.Perm.eq_of_pairwise (le:=(· ≤ ·)) (fun a b _ _ h1 h2=>Int.le_antisymm h1 h2) (sort_sorted _) (range_sorted n) ?_
  exact (sort_perm _).trans ((perm_range nd h).map _)
theorem ints_map:∀ l:List Int,ints? (l.map V.int)=some l
  | []=>rfl
  | i :: r=>by show (ints? (r.map V.int)).map (i :: ·)=_; rw [ints_map r]; rfl
noncomputable abbrev natV (F:List Nat):List V:=F.map fun (i:Nat)=>.int (i:Int)
theorem natV_eq (F:List Nat):natV F=(F.map (fun i:Nat=>(i:Int))).map V.int:=by simp only [natV,List.map_map]; rfl
theorem b_sorted {F:List Nat} {n l:Nat} {σ:S} (nd:F.Nodup) (h:∀ x,x ∈ F ↔ x < n) (hn:n < 64) (hl:σ[l]? = some (.list (natV F))) :
    builtin .sorted [.loc l] σ=some (.lst (natV (List.range n)),σ):=by
  have hlen:F.length=n:=by have:=(perm_range nd h).length_eq; rwa [List.length_range] at this
  have hs:seqOf σ (.loc l)=some (natV F):=by
    unfold seqOf; simp only [hl]
    rw [if_pos (sz (by simp only [natV,List.length_map]; rw [hlen]; exact Nat.le_trans (Nat.le_of_lt hn) (Nat.le_of_ble_eq_true rfl)))]
  show (seqOf σ (.loc l)).bind _=_
  rw [hs]
  show (if Nat.blt (natV F).length 64 then (ints? (natV F)).map _ else none)=_
  have:Nat.blt (natV F).length 64=true:=by rw [natV,List.length_map,hlen]; exact Nat.ble_eq_true_of_le hn
  rw [if_pos this,natV_eq,ints_map]
  show some (V.lst (((F.map (fun i:Nat=>(i:Int))).foldr insSorted []).map .int),σ)=_
  rw [sort_range nd h,natV_eq]
noncomputable def tgt:Term→List Nat
  | .jump b=>[b]
  | .branch _ a b=>if a=b then [a] else [a,b]
  | .ret _=>[]
structure Fsh (cs:CS):Prop where
  n0:0 < cs.blks.length
  n1:cs.blks.length < 64
  cl:∀ (b:Nat) (is:List Ins) (o:Option Term),cs.blks[b]? = some (is,o)→∃ t,o=some t∧∀ x ∈ tgt t,x < cs.blks.length
  pr:∀ b:Nat,0 < b→b < cs.blks.length→∃ (p:Nat) (is:List Ins) (t:Term),p < b∧cs.blks[p]? = some (is,some t)∧b ∈ tgt t
theorem Fsh.all {cs:CS} (f:Fsh cs) {F:List Nat} (h0:0 ∈ F) (hc:∀ p ∈ F,∀ (is:List Ins) (t:Term),cs.blks[p]? = some (is,some t)→∀ x ∈ tgt t,x ∈ F):∀ b,b < cs.blks.length→b ∈ F:=by
  intro b
  induction b using Nat.strongRecOn with
  | ind b ih =>
    intro hb
    rcases Nat.eq_zero_or_pos b with rfl | h
    · exact h0
    · refine e3_3 (f.pr b h hb) fun p is t hp h1 h2=>?_
      exact hc p (ih p hp (by exact Nat.lt_trans hp hb)) is t h1 b h2
end Internal.Pl
namespace Internal.Pl
open PySem
theorem get_app {σ X:S} {l:Nat} {o:O} (h:σ[l]? = some o):(σ++X)[l]? = some o:=by
  rw [List.getElem?_append_left (by
    rcases Nat.lt_or_ge l σ.length with h' | h'
    · exact h'
    · rw [List.getElem?_eq_none h'] at h; exact nn h)]
  exact h
theorem ga_app {T:Tab} {o v:V} {n:Nat} {σ X:S} (h:getAttr T o n σ=some (v,σ)):getAttr T o n (σ++X)=some (v,σ++X):=by
  induction o using V.casesOn with
  | inst C l =>
    unfold getAttr at h ⊢
    simp only at h ⊢
    cases hl:σ[l]? with
    | none=>rw [hl] at h; exact nn h
    | some ob =>
      rw [hl] at h; rw [get_app hl]
      induction ob using O.casesOn with
      | obj kvs =>
        simp only at h ⊢
        split at h
        · rename_i ha
          rw [if_pos ha]
          cases hk:look kvs n with
          | none=>rw [hk] at h; exact nn h
          | some w=>rw [hk] at h; simp only [Option.map_some,Option.some.injEq,Prod.mk.injEq,and_true] at h ⊢; exact h
        · exact nn h
      | _=>exact nn h
  | _=>exact nn h
theorem moA {T:Tab} {c l n:Nat} {r:Option Nat} {σ X:S} (h:methOk T (.inst c l) n σ=some r):methOk T (.inst c l) n (σ++X)=some r:=by
  unfold methOk at h ⊢
  simp only at h ⊢
  cases hm:T.meth c n with
  | none=>rw [hm] at h; exact nn h
  | some a =>
    rw [hm] at h
    simp only [Option.bind_some] at h ⊢
    cases hl:σ[l]? with
    | none=>rw [hl] at h; exact nn h
    | some ob=>rw [hl] at h; rw [get_app hl]; exact h
theorem gi_app {l:Nat} {i v:V} {σ X:S} (h:getItem (.loc l) i σ=some (v,σ)):getItem (.loc l) i (σ++X)=some (v,σ++X):=by
  refine bse h fun j hj h=>?_
  refine mse h fun v' hv e=>?_
  rw [asInt_eq hj]
  show (itemO (σ++X)[l]? j).map (·,σ++X)=_
  cases hl:σ[l]? with
  | none=>rw [hl] at hv; exact nn hv
  | some ob=>rw [get_app hl,← hl,hv,show v'=v from congrArg Prod.fst e]; rfl
noncomputable def sx (P X:S) (cs:CS):S:=st P cs++X
theorem sx_get {P X:S} {cs:CS} {l:Nat} {o:O} (h:(st P cs)[l]? = some o):(sx P X cs)[l]? = some o:=get_app h
theorem gax {T:Tab} {o v:V} {n:Nat} {P X:S} {cs:CS} (h:getAttr T o n (st P cs)=some (v,st P cs)):getAttr T o n (sx P X cs)=some (v,sx P X cs):=ga_app h
theorem mox {T:Tab} {c l n:Nat} {r:Option Nat} {P X:S} {cs:CS} (h:methOk T (.inst c l) n (st P cs)=some r):methOk T (.inst c l) n (sx P X cs)=some r:=moA h
theorem gix {l:Nat} {i v:V} {P X:S} {cs:CS} (h:getItem (.loc l) i (st P cs)=some (v,st P cs)):getItem (.loc l) i (sx P X cs)=some (v,sx P X cs):=gi_app h
theorem gi_blk {P X Y:S} {cs:CS} {b:Nat} (hb:b < cs.blks.length) (hs:cs.blks.length≤1000000):getItem (.loc (P.length + 8)) (.int (b:Nat)) (sx P X cs++Y)=some (.loc (P.length + 12 + 2 * b),sx P X cs++Y) :=
  gi_app (gix (gi_list (st_get (by decide)) (bl_at hb) (Nat.le_trans (Nat.le_of_lt hb) hs)))
theorem gi_p1 {P X Y:S} {cs:CS} {b:Nat} {k:Blk} (hb:cs.blks[b]? = some k):getItem (.loc (P.length + 12 + 2 * b)) (.int 1) (sx P X cs++Y)=some (termO k.2,sx P X cs++Y) :=
  gi_app (gix (g_item1 (st_pair hb)))
noncomputable abbrev cod (P:S):V:=.inst 331 (P.length + 9)
theorem ltk {cs:CS} {b:Nat} {k:Blk} (hb:cs.blks[b]? = some k):b < cs.blks.length:=by
  rcases Nat.lt_or_ge b cs.blks.length with h' | h'
  · exact h'
  · rw [List.getElem?_eq_none h'] at hb; exact nn hb
theorem m_term {n:Nat} {P X Y:S} {cs:CS} {b:Nat} {k:Blk} (hb:cs.blks[b]? = some k) (hs:cs.blks.length≤1000000) :
    cf TB FT (n + 1) 323 [cod P,.int (b:Nat)] (sx P X cs++Y)=some (termO k.2,sx P X cs++Y):=by
  rw [cf_323]
  simp only [EV,F323,ga_app (gax gc_blocks),gi_blk (ltk hb) hs,gi_p1 hb]
theorem m_next {n:Nat} {σ:S} (t:Term):cf TB FT (n + 1) 342 [t.toV] σ=some (.lst (natV (tgt t)),σ):=by
  rw [cf_342]
  cases t with
  | jump b=>simp only [EV,Term.toV,F342,g_t0,g_t1,tgt,natV,List.map_cons,List.map_nil]
  | branch o a b =>
    by_cases h:a=b
    · subst h
      have hb:((a:Int) == (a:Int))=true:=by simp
      simp only [EV,Term.toV,F342,g_t0,g_t1,g_t2,g_t3,tgt,natV,List.map_cons,List.map_nil,hb,if_true]
    · have hb:((a:Int) == (b:Int))=false:=beq_false_of_ne (fun e=>h (Int.ofNat_inj.mp e))
      simp only [EV,Term.toV,F342,g_t0,g_t1,g_t2,g_t3,tgt,natV,List.map_cons,List.map_nil,hb,if_neg h]
  | ret os=>simp only [EV,Term.toV,F342,g_t0,g_t1,tgt,natV,List.map_nil]
theorem look_put {m:M} {n k:Nat} {v:V}:look (put m n v) k=cond (n == k) (some v) (look m k):=by
  induction m with
  | nil=>rw [put_0,look_c,look_0]
  | cons a r ih =>
    obtain ⟨x,w⟩:=a
    rw [put_c]
    cases h:x == n with
    | true =>
      have:=eq_of_beq h; subst this
      rw [cond_true,look_c,look_c]
      cases x == k <;> rfl
    | false =>
      rw [cond_false,look_c,look_c,ih]
      cases h1:x == k with
      | true =>
        have:=eq_of_beq h1; subst this
        have:(n == x)=false:=by rw [beq_eq_false_iff_ne] at h ⊢; exact fun e=>h e.symm
        rw [this]; rfl
      | false=>rfl
noncomputable abbrev metD (F:List Nat):List (Int × V):=F.map fun (i:Nat)=>((i:Int),V.bool true)
noncomputable abbrev rX (F W:List Nat):S:=[.list (natV F),.list (natV W),.dict (metD F)]
theorem plains_nat:∀ W,plains (natV W)=true
  | []=>rfl
  | a :: r=>by show (plain (.int a) && plains (natV r))=true; rw [plains_nat r]; rfl
theorem lk_met {b:Nat}:∀ F:List Nat,(lookI (metD F) (b:Int)).isNone = !decide (b ∈ F)
  | []=>rfl
  | a :: r=>by
    show (if (a:Int)=(b:Int) then some (V.bool true) else lookI (metD r) (b:Int)).isNone=_
    by_cases h:a=b
    · subst h; simp
    · have h1:¬ ((a:Int)=(b:Int)):=fun e=>h (Int.ofNat_inj.mp e)
      rw [if_neg h1,lk_met r]
      have:(b ∈ a :: r) ↔ b ∈ r:=by simp [Ne.symm h]
      simp only [this]
theorem pt_met {b:Nat}:∀ F:List Nat,b ∉ F→putI (metD F) (b:Int) (.bool true)=metD (F++[b])
  | [],_=>rfl
  | a :: r,h=>by
    have h1 : ¬ ((a : Int) = (b : Int)) := fun e => h (by have : a = b := Int.ofNat_inj.mp e
                                                          subst this; exact List.mem_cons_self ..)
    show (if (a:Int)=(b:Int) then _ else ((a:Int),V.bool true) :: putI (metD r) (b:Int) (.bool true))=_
    rw [if_neg h1,pt_met r (fun e=>h (List.mem_cons_of_mem _ e))]; rfl
theorem ms_pop {l:Nat} {σ:S} {vs:List V} {v:V} (h:σ[l]? = some (.list (vs++[v]))) (hs:sizeOk (vs++[v]).length=true):methS l 0x706f70 [] σ=some (v,σ.set l (.list vs)):=by
  unfold methS
  rw [h]
  show (match (vs++[v]).getLast? with | some v'=>if sizeOk (vs++[v]).length then some (v',σ.set l (.list (vs++[v]).dropLast)) else none | none=>none)=_
  rw [List.getLast?_concat]; simp only [hs,if_true,List.dropLast_concat]
theorem mo_pop {T:Tab} {l:Nat} {σ:S} {vs:List V} (h:σ[l]? = some (.list vs)):methOk T (.loc l) 0x706f70 σ=some none:=by
  unfold methOk; simp only [h]; rfl
theorem mo_ext {T:Tab} {l:Nat} {σ:S} {vs:List V} (h:σ[l]? = some (.list vs)):methOk T (.loc l) 0x657874656e64 σ=some none:=by
  unfold methOk; simp only [h]; rfl
theorem ms_ext {l:Nat} {σ:S} {vs ws:List V} (h:σ[l]? = some (.list vs)) (hs:sizeOk (vs.length + ws.length)=true):methS l 0x657874656e64 [.lst ws] σ=some (.none,σ.set l (.list (vs++ws))):=by
  unfold methS; rw [h]; show (if sizeOk (vs.length + ws.length)=true then _ else _)=_; rw [if_pos hs]
theorem rx0 {Q:S} {F W:List Nat}:(Q++rX F W)[Q.length]? = some (.list (natV F)):=pre_get0
theorem rx1 {Q:S} {F W:List Nat}:(Q++rX F W)[Q.length + 1]? = some (.list (natV W)):=pre_get
theorem rx2 {Q:S} {F W:List Nat}:(Q++rX F W)[Q.length + 2]? = some (.dict (metD F)):=pre_get
theorem ne_w {Q:S} {F W:List Nat}:eqv (.loc (Q.length + 1)) (.lst []) (Q++rX F W)=some W.isEmpty:=by
  have h1:res (Q++rX F W) (.loc (Q.length + 1))=some (.lst (natV W)):=by
    unfold res; rw [rx1]; simp only [plains_nat,if_true]
  have h2:res (Q++rX F W) (.lst [])=some (.lst []):=rfl
  have hd:Nat.ble (dep (.lst [])) 500=true:=rfl
  rw [eqv,h1]
  simp only [Option.bind_some,h2,hd,Bool.or_true,if_true]
  induction W using List.casesOn <;> rfl
structure RM (m:M) (P:S) (q:Nat):Prop where
  code:look m 0x636f6465=some (cod P)
  found:look m 0x666f756e64=some (.loc q)
  wait:look m 0x77616974696e67=some (.loc (q + 1))
  met:look m 0x6d6574=some (.loc (q + 2))
theorem RM.put {m:M} {P:S} {q:Nat} (r:RM m P q) {v:V}:RM (put m 0x626c6f636b v) P q :=
  ⟨by rw [look_put]; exact r.code,by rw [look_put]; exact r.found,by rw [look_put]; exact r.wait,by rw [look_put]; exact r.met⟩
theorem q_nin {l:Nat} {i:Int} {σ:S} {kvs:List (Int × V)} (h:σ[l]? = some (.dict kvs)):cmpop .NotIn (.int i) (.loc l) σ=some (lookI kvs i).isNone:=by
  show (Option.bind (match σ[l]? with | some (.dict kvs)=>some kvs | _=>none) _)=_
  rw [h]; rfl
theorem si_dict {l:Nat} {i:Int} {σ:S} {v:V} {kvs:List (Int × V)} (h:σ[l]? = some (.dict kvs)) (hs:sizeOk kvs.length=true):setItem (.loc l) (.int i) v σ=some (σ.set l (.dict (putI kvs i v))):=by
  rw [si_D h,if_pos hs]
theorem b_rev {vs:List V} {σ:S} (h:sizeOk vs.length=true):revV (.lst vs) σ=some (.lst vs.reverse,σ):=by
  unfold revV; simp only [h,if_true]
theorem tgt_len (t:Term):(tgt t).length≤2:=by
  cases t with
  | branch o a b=>simp only [tgt]; split <;> simp
  | _=>simp [tgt]
theorem body_old {n:Nat} {P X:S} {cs:CS} {m:M} {F W:List Nat} {b:Nat} (r:RM m P (sx P X cs).length) (hW:W.length≤100000) (hb:b ∈ F) :
    exs TB (cf TB FT n) B349_1 m (sx P X cs++rX F (W++[b]))=some (none,put m 0x626c6f636b (.int (b:Nat)),sx P X cs++rX F W):=by
  have h1:methS ((sx P X cs).length + 1) 0x706f70 [] (sx P X cs++rX F (W++[b]))=some (.int (b:Nat),sx P X cs++rX F W):=by
    have e:natV (W++[b])=natV W++[.int (b:Nat)]:=by simp only [natV,List.map_append,List.map_cons,List.map_nil]
    rw [ms_pop (v:=.int (b:Nat)) (vs:=natV W) (by rw [rx1,e]) (sz (by simp only [natV,List.length_append,List.length_map,List.length_cons,List.length_nil]; (apply le1;assumption;simp +arith only))),pre_set]; rfl
  have h2:(lookI (metD F) (b:Int)).isNone=false:=by rw [lk_met]; simp [hb]
  simp only [EV,B349_1,r.wait,mo_pop rx1,h1,look_put,r.met,q_nin rx2,h2]
theorem body_new {n:Nat} {P X:S} {cs:CS} {m:M} {F W:List Nat} {b:Nat} {is:List Ins} {t:Term} (r:RM m P (sx P X cs).length) (hW:W.length≤100000) (hF:F.length≤100000) (hs:cs.blks.length≤1000000) (hb:b ∉ F) (hk:cs.blks[b]? = some (is,some t)) :
    exs TB (cf TB FT (n + 1)) B349_1 m (sx P X cs++rX F (W++[b]))=some (none,put m 0x626c6f636b (.int (b:Nat)),sx P X cs++rX (F++[b]) (W++(tgt t).reverse)):=by
  have h1:methS ((sx P X cs).length + 1) 0x706f70 [] (sx P X cs++rX F (W++[b]))=some (.int (b:Nat),sx P X cs++rX F W):=by
    have e:natV (W++[b])=natV W++[.int (b:Nat)]:=by simp only [natV,List.map_append,List.map_cons,List.map_nil]
    rw [ms_pop (v:=.int (b:Nat)) (vs:=natV W) (by rw [rx1,e]) (sz (by simp only [natV,List.length_append,List.length_map,List.length_cons,List.length_nil]; exact Nat.le_trans (Nat.add_le_add_right hW _) (Nat.le_of_ble_eq_true rfl))),pre_set]; rfl
  have h2:(lookI (metD F) (b:Int)).isNone=true:=by rw [lk_met]; simp [hb]
  have h3:setItem (.loc ((sx P X cs).length + 2)) (.int (b:Nat)) (.bool true) (sx P X cs++rX F W)=some (sx P X cs++[.list (natV F),.list (natV W),.dict (metD (F++[b]))]):=by
    rw [si_dict rx2 (sz (by simp only [metD,List.length_map]; exact Nat.le_trans hF (Nat.le_of_ble_eq_true rfl))),pt_met F hb,pre_set]; rfl
  have g1:(sx P X cs++[.list (natV F),.list (natV W),.dict (metD (F++[b]))])[(sx P X cs).length]? = some (.list (natV F)):=pre_get0
  have h4:methS (sx P X cs).length 0x617070656e64 [.int (b:Nat)] (sx P X cs++[.list (natV F),.list (natV W),.dict (metD (F++[b]))])=some (.none,sx P X cs++rX (F++[b]) W):=by
    rw [ms_app g1 (sz (by simp only [natV,List.length_map]; exact Nat.le_trans hF (Nat.le_of_ble_eq_true rfl))),pre_set0]
    have e:natV (F++[b])=natV F++[.int (b:Nat)]:=by simp only [natV,List.map_append,List.map_cons,List.map_nil]
    simp only [List.set_cons_zero,rX,e]
  have h5:∀ n Y,cf TB FT (n + 1) 323 [cod P,.int (b:Nat)] (sx P X cs++Y)=some (t.toV,sx P X cs++Y):=fun n Y=>m_term hk hs
  have h6:=tgt_len t
  have h7:methS ((sx P X cs).length + 1) 0x657874656e64 [.lst (natV (tgt t)).reverse] (sx P X cs++rX (F++[b]) W)=some (.none,sx P X cs++rX (F++[b]) (W++(tgt t).reverse)):=by
    have e:natV (W++(tgt t).reverse)=natV W++(natV (tgt t)).reverse:=by simp only [natV,List.map_append,List.map_reverse]
    rw [ms_ext rx1 (sz (by simp only [natV,List.length_reverse,List.length_map]; exact Nat.le_trans (Nat.add_le_add hW h6) (Nat.le_of_ble_eq_true rfl))),pre_set,← e]; rfl
  simp only [EV,B349_1,r.wait,mo_pop rx1,h1,look_put,r.met,r.found,r.code,q_nin rx2,h2,h3,mo_app g1,h4,mo_ext rx1,moA (mox mc_terminator),h5,m_next,b_rev (vs:=natV (tgt t)) (sz (by simp only [natV,List.length_map]; (apply le1;assumption;simp +arith only))),h7]
theorem loop349 {n:Nat} {P X:S} {cs:CS} (fs:Fsh cs) (f:Nat→M→S→Rx)
    (hf:f=fun fu m σ=>loopW (fun m σ=>evT TB (cf TB FT (n + 1)) T349_1 m σ) (fun m σ=>exs TB (cf TB FT (n + 1)) B349_1 m σ) fu m σ) :
    ∀ (fu:Nat) (m:M) (F W:List Nat),RM m P (sx P X cs).length→F.Nodup→(∀ x ∈ F,x < cs.blks.length)→(∀ x ∈ W,x < cs.blks.length)→W.length + 2 * (cs.blks.length - F.length)≤1000→3 * (cs.blks.length - F.length) + W.length < fu→(0 ∈ F ∨ 0 ∈ W) →
      (∀ p ∈ F,∀ (is:List Ins) (t:Term),cs.blks[p]? = some (is,some t)→∀ x ∈ tgt t,x ∈ F ∨ x ∈ W) →
      ∃ (m':M) (F':List Nat),f fu m (sx P X cs++rX F W)=some (none,m',sx P X cs++rX F' [])∧RM m' P (sx P X cs).length∧F'.Nodup∧(∀ x,x ∈ F' ↔ x < cs.blks.length)
  | 0,m,F,W,r,nd,hF,hW,hl,hm,h0,hc=>absurd hm (Nat.not_lt_zero _)
  | fu + 1,m,F,W,r,nd,hF,hW,hl,hm,h0,hc=>by
    have hn:=fs.n1
    have ht:evT TB (cf TB FT (n + 1)) T349_1 m (sx P X cs++rX F W)=some (!W.isEmpty,sx P X cs++rX F W):=by
      simp only [EV,T349_1,r.wait,ne_w]
    have hFl:F.length≤cs.blks.length:=by
      have:=List.Nodup.length_le_of_subset (l₂:=List.range cs.blks.length) nd fun x hx=>List.mem_range.mpr (hF x hx)
      rwa [List.length_range] at this
    rcases List.eq_nil_or_concat W with rfl | ⟨W,b,rfl⟩
    · refine ⟨m,F,?_,r,nd,fun x=>⟨hF x,fs.all (by simpa using h0) (fun p hp is t h x hx=>by simpa using hc p hp is t h x hx) x⟩⟩
      subst hf
      show (evT TB (cf TB FT (n + 1)) T349_1 m _).bind _=_
      rw [ht]; rfl
    · rw [List.concat_eq_append] at *
      have hbn:b < cs.blks.length:=hW b (by simp)
      rw [List.length_append,List.length_cons,List.length_nil] at hl hm
      by_cases hb:b ∈ F
      · refine e2_2 (loop349 fs f hf fu (put m 0x626c6f636b (.int (b:Nat))) F W r.put nd hF (fun x hx=>hW x (by simp [hx])) (by (apply le1 (b:=1000);assumption;simp +arith only)) (by (refine le1 hm ?_;simp +arith only))
          (by rcases h0 with h | h
              · exact .inl h
              · rcases List.mem_append.mp h with h | h
                · exact .inr h
                · rw [List.mem_singleton] at h; subst h; exact .inl hb)
          (fun p hp is t h x hx=>by
              rcases hc p hp is t h x hx with h | h
              · exact .inl h
              · rcases List.mem_append.mp h with h | h
                · exact .inr h
                · rw [List.mem_singleton] at h; subst h; exact .inl hb)) fun m' F' e r'=>?_
        refine ⟨m',F',?_,r'⟩
        rw [← e]; subst hf
        show (evT TB (cf TB FT (n + 1)) T349_1 m _).bind _=_
        rw [ht]
        have:(!(W++[b]).isEmpty)=true:=by induction W using List.casesOn <;> rfl
        rw [this]
        show (exs TB (cf TB FT (n + 1)) B349_1 m _).bind _=_
        rw [body_old r (by (apply le1 (b:=1000);assumption;simp +arith only)) hb]; rfl
      · have hz:=fs.cl b (cs.blks[b]).1 (cs.blks[b]).2 (List.getElem?_eq_getElem hbn)
        refine e1_2 hz ?_;clear hz;intro t h1 h2
        have hk:cs.blks[b]? = some ((cs.blks[b]).1,some t):=by rw [List.getElem?_eq_getElem hbn,← h1]
        have h6:=tgt_len t
        have hlt:F.length + 1≤cs.blks.length:=by
          have:=List.Nodup.length_le_of_subset (l₂:=List.range cs.blks.length) (List.nodup_cons.mpr ⟨hb,nd⟩) fun x hx=>List.mem_range.mpr (by
            rcases List.mem_cons.mp hx with rfl | hx
            · exact hbn
            · exact hF x hx)
          rw [List.length_range,List.length_cons] at this; exact this
        refine e2_2 (loop349 fs f hf fu (put m 0x626c6f636b (.int (b:Nat))) (F++[b]) (W++(tgt t).reverse) r.put
          (by rw [List.nodup_append]; exact ⟨nd,by simp,fun a ha c hc=>by rw [List.mem_singleton] at hc; subst hc; rintro rfl; exact hb ha⟩)
          (fun x hx=>by
            rcases List.mem_append.mp hx with h | h
            · exact hF x h
            · rw [List.mem_singleton] at h; subst h; exact hbn)
          (fun x hx=>by
            rcases List.mem_append.mp hx with h | h
            · exact hW x (by simp [h])
            · exact h2 x (List.mem_reverse.mp h))
          (by rw [List.length_append,List.length_append,List.length_reverse,List.length_cons,List.length_nil]; exact ar1 hl h6 hlt)
          (by rw [List.length_append,List.length_append,List.length_reverse,List.length_cons,List.length_nil]; exact ar2 hm h6 hlt)
          (by rcases h0 with h | h
              · exact .inl (by simp [h])
              · rcases List.mem_append.mp h with h | h
                · exact .inr (by simp [h])
                · rw [List.mem_singleton] at h; subst h; exact .inl (by simp))
          (fun p hp is' t' h x hx=>by
              rcases List.mem_append.mp hp with hp | hp
              · rcases hc p hp is' t' h x hx with h | h
                · exact .inl (by simp [h])
                · rcases List.mem_append.mp h with h | h
                  · exact .inr (by simp [h])
                  · rw [List.mem_singleton] at h; subst h; exact .inl (by simp)
              · rw [List.mem_singleton] at hp; subst hp
                rw [hk] at h
                have:t=t':=by simpa using (congrArg (fun o=>o.map (·.2)) h)
                subst this
                exact .inr (by simp [hx]))) fun m' F' e r'=>?_
        refine ⟨m',F',?_,r'⟩
        rw [← e]; subst hf
        show (evT TB (cf TB FT (n + 1)) T349_1 m _).bind _=_
        rw [ht]
        have:(!(W++[b]).isEmpty)=true:=by induction W using List.casesOn <;> rfl
        rw [this]
        show (exs TB (cf TB FT (n + 1)) B349_1 m _).bind _=_
        rw [body_new r (by (apply le1 (b:=1000);assumption;simp +arith only)) (Nat.le_trans hFl (Nat.le_trans (Nat.le_of_lt hn) (Nat.le_of_ble_eq_true rfl))) (by (refine le1 hn ?_;simp +arith only)) hb hk]; rfl
end Internal.Pl
namespace Internal.Pl
open PySem
theorem gc_recovery {P:S} {cs:CS}:getAttr TB (cod P) 0x7265636f76657279 (st P cs)=some (.none,st P cs):=ga (st_get (by decide)) rfl rfl
theorem gc_params {P:S} {cs:CS}:getAttr TB (cod P) 0x706172616d73 (st P cs)=some (.int 0,st P cs):=ga (st_get (by decide)) rfl rfl
theorem gc_captured {P:S} {cs:CS}:getAttr TB (cod P) 0x6361707475726564 (st P cs)=some (.int 0,st P cs):=ga (st_get (by decide)) rfl rfl
theorem gc_results {P:S} {cs:CS}:getAttr TB (cod P) 0x726573756c7473 (st P cs)=some (.int 0,st P cs):=ga (st_get (by decide)) rfl rfl
theorem q_isN {σ:S}:cmpop .Is .none .none σ=some true:=rfl
theorem m_reached {n:Nat} {P X:S} {cs:CS} (fs:Fsh cs) :
    ∃ F:List Nat,cf TB FT (n + 2) 349 [cod P] (sx P X cs)=some (.loc (sx P X cs).length,sx P X cs++rX F [])∧F.Nodup∧(∀ x,x ∈ F ↔ x < cs.blks.length):=by
  have hn:=fs.n1
  have h0:=fs.n0
  refine e2_4 (loop349 (n:=n) (P:=P) fs _ rfl fuel [(0x636f6465,cod P),(0x666f756e64,.loc (sx P X cs).length),(0x77616974696e67,.loc ((sx P X cs).length + 1)),(0x6d6574,.loc ((sx P X cs).length + 2))] [] [0] ⟨rfl,rfl,rfl,rfl⟩ .nil (by simp) (by simp; assumption) (by simp; exact Nat.le_trans (Nat.add_le_add_left (Nat.mul_le_mul_left 2 (Nat.le_of_lt hn)) 1) (Nat.le_of_ble_eq_true rfl)) (by simp [fuel]; exact Nat.lt_of_le_of_lt (Nat.add_le_add_right (Nat.mul_le_mul_left 3 (Nat.le_of_lt hn)) 1) (Nat.le_of_ble_eq_true rfl)) (by simp) (by simp)) fun m' F' e r nd hF=>?_
  refine ⟨F',?_,nd,hF⟩
  have e2:rX [] [0] = [O.list [],O.list [.int 0],O.dict []]:=rfl
  rw [e2] at e
  have e3:∀ (a b c:Nat × Nat) (v w u:V) (k p:Nat) (m:M) (σ:S),bindS [a,b,c] (some (k,p)) (.tup [v,w,u]) m σ=some (put (put (put m a.1 v) b.1 w) c.1 u):=fun _ _ _ _ _ _ _ _ _ _=>rfl
  rw [cf_349,F349_eq]
  simp only [EV,ga_app (gax gc_recovery),q_isN,kd_f,app_app,List.cons_append,List.nil_append,len1,len2,e3]
  rw [e]
  simp only [EV,r.found]
noncomputable abbrev plD (i:Nat):List (Int × V):=(List.range i).map fun (k:Nat)=>((k:Int),V.int (k:Int))
theorem plD_len {i:Nat}:(plD i).length=i:=by simp [plD]
theorem put_new:∀ (kvs:List (Int × V)) (i:Int) (v:V),(∀ q ∈ kvs,q.1≠i)→putI kvs i v=kvs++[(i,v)]
  | [],_,_,_=>rfl
  | (k,w) :: r,i,v,h=>by
    show (if k=i then _ else _)=_
    rw [if_neg (h (k,w) (List.mem_cons_self ..)),put_new r i v fun q hq=>h q (List.mem_cons_of_mem _ hq)]; rfl
theorem put_pl {i:Nat}:putI (plD i) (i:Int) (.int (i:Int))=plD (i + 1):=by
  rw [put_new]
  · simp only [plD,List.range_succ,List.map_append,List.map_cons,List.map_nil]
  · intro q hq
    refine e1_2 (List.mem_map.mp hq) ?_;rintro k hk rfl
    have:=List.mem_range.mp hk
    simp only; exact fun e=>Nat.ne_of_lt this (Int.ofNat_inj.mp e)
theorem lk_pl {k:Nat}:∀ i,k < i→lookI (plD i) (k:Int)=some (.int (k:Int)):=by
  have lk:∀ (l l':List (Int × V)) (x:Int),lookI l x=none→lookI (l++l') x=lookI l' x:=by
    intro l
    induction l with
    | nil=>intro _ _ _; rfl
    | cons a r ih =>
      intro l' x h
      obtain ⟨k,v⟩:=a
      simp only [lookI,List.cons_append] at h ⊢
      by_cases e:k=x
      · rw [if_pos e] at h; cases h
      · rw [if_neg e] at h ⊢; exact ih l' x h
  have lk2:∀ (l l':List (Int × V)) (x:Int) v,lookI l x=some v→lookI (l++l') x=some v:=by
    intro l
    induction l with
    | nil=>intro _ _ _ h; exact nn h
    | cons a r ih =>
      intro l' x v h
      obtain ⟨k,w⟩:=a
      simp only [lookI,List.cons_append] at h ⊢
      by_cases e:k=x
      · rw [if_pos e] at h ⊢; exact h
      · rw [if_neg e] at h ⊢; exact ih l' x v h
  have nn:∀ i,k ≥ i→lookI (plD i) (k:Int)=none:=by
    intro i
    induction i with
    | zero=>intro _; rfl
    | succ i ih =>
      intro h
      have e:plD (i + 1)=plD i++[((i:Int),V.int (i:Int))]:=by simp only [plD,List.range_succ,List.map_append,List.map_cons,List.map_nil]
      rw [e,lk _ _ _ (ih (by (apply le1;assumption;simp +arith only)))]
      show (if (i:Int)=(k:Int) then _ else _)=_
      rw [if_neg (by exact fun e=>Nat.ne_of_lt h (Int.ofNat_inj.mp e))]; rfl
  intro i
  induction i with
  | zero=>intro h; exact absurd h (Nat.not_lt_zero _)
  | succ i ih =>
    intro h
    have e:plD (i + 1)=plD i++[((i:Int),V.int (i:Int))]:=by simp only [plD,List.range_succ,List.map_append,List.map_cons,List.map_nil]
    rw [e]
    by_cases hk:k < i
    · exact lk2 _ _ _ _ (ih hk)
    · have:k=i:=by exact Nat.le_antisymm (Nat.le_of_lt_succ h) (Nat.le_of_not_lt hk)
      subst this
      rw [lk _ _ _ (nn k (by with_reducible exact Nat.le_of_lt_succ (by assumption)))]
      show (if (k:Int)=(k:Int) then _ else _)=_
      rw [if_pos rfl]
theorem bl_len_dict {l:Nat} {σ:S} {kvs:List (Int × V)} (h:σ[l]? = some (.dict kvs)) (hs:kvs.length≤1000000):builtin .len [.loc l] σ=some (.int (kvs.length:Nat),σ):=by
  have:lenOk kvs.length=true:=Nat.ble_eq_true_of_le (Nat.le_trans hs (by decide))
  have e:lenOf σ (.loc l)=some kvs.length:=by
    unfold lenOf; simp only [h]; rw [if_pos this]
  show (lenOf σ (.loc l)).map _=_
  rw [e]; rfl
theorem loop_nat {f:V→M→S→Rx} (I:Nat→M→S→Prop) (N:Nat) (h:∀ i m σ,i < N→I i m σ→∃ m' σ',f (.int (i:Nat)) m σ=some (none,m',σ')∧I (i + 1) m' σ') :
    ∀ (k i:Nat) (m:M) (σ:S),i + k=N→I i m σ→∃ m' σ',loopL f (natV (List.range' i k)) m σ=some (none,m',σ')∧I N m' σ'
  | 0, i, m, σ, e, hi => ⟨m, σ, rfl, by have : i = N := by exact e
                                        subst this; exact hi⟩
  | k + 1,i,m,σ,e,hi=>by
    refine e2_2 (h i m σ (by exact e ▸ Nat.lt_add_of_pos_right (Nat.succ_pos _)) hi) fun m1 σ1 h1 i1=>?_
    refine e2_2 (loop_nat I N h k (i + 1) m1 σ1 (by exact (Nat.add_right_comm i 1 k).trans e) i1) fun m2 σ2 h2 i2=>?_
    refine ⟨m2,σ2,?_,i2⟩
    show loopL f (.int (i:Nat) :: natV (List.range' (i + 1) k)) m σ=_
    rw [lp_cons,h1]
    simp only [Option.bind_some,k_lp_n,h2]
theorem loop_range {f:V→M→S→Rx} (I:Nat→M→S→Prop) (N:Nat) {m:M} {σ:S} (h0:I 0 m σ) (h:∀ i m σ,i < N→I i m σ→∃ m' σ',f (.int (i:Nat)) m σ=some (none,m',σ')∧I (i + 1) m' σ') :
    ∃ m' σ',loopL f (natV (List.range N)) m σ=some (none,m',σ')∧I N m' σ':=by
  rw [List.range_eq_range']
  exact loop_nat I N h N 0 m σ (by simp +arith only) h0
noncomputable abbrev nbV (b:Blk):V:=.lst [.lst (b.1.map Ins.toV),termO b.2]
noncomputable abbrev kX (F:List Nat) (i:Nat) (bs:List Blk):S:=[.list (natV F),.list [],.dict (metD F),.dict (plD i),.list (bs.map nbV)]
structure WM (m:M) (P:S) (q:Nat):Prop where
  code:look m 0x636f6465=some (cod P)
  pl:look m 0x706c61636573=some (.loc (q + 3))
theorem WM.put {m:M} {P:S} {q n:Nat} {v:V} (r:WM m P q) (h1:(n == 0x636f6465)=false) (h2:(n == 0x706c61636573)=false):WM (put m n v) P q :=
  ⟨by rw [look_put,h1]; exact r.code,by rw [look_put,h2]; exact r.pl⟩
theorem loop_pl {n:Nat} {Q:S} {P:S} {F:List Nat} {N:Nat} {m:M} (hN:N≤100000) (r:WM m P Q.length) :
    ∃ m',loopL (kFor TB (cf TB FT n) [(0x626c6f636b,31142413)] none B363_1) (natV (List.range N)) m (Q++[.list (natV F),.list [],.dict (metD F),.dict (plD 0)])=some (none,m',Q++[.list (natV F),.list [],.dict (metD F),.dict (plD N)])∧WM m' P Q.length∧(∀ x,x≠0x626c6f636b→look m' x=look m x):=by
  refine e2_3 (loop_range (f:=kFor TB (cf TB FT n) [(0x626c6f636b,31142413)] none B363_1) (m:=m) (σ:=Q++[.list (natV F),.list [],.dict (metD F),.dict (plD 0)]) (fun i m' σ=>σ=Q++[.list (natV F),.list [],.dict (metD F),.dict (plD i)]∧WM m' P Q.length∧(∀ x,x≠0x626c6f636b→look m' x=look m x)) N ⟨rfl,r,fun _ _=>rfl⟩ (by
    rintro i m1 σ1 hi ⟨rfl,r1,k1⟩
    have g3:(Q++[.list (natV F),.list [],.dict (metD F),.dict (plD i)])[Q.length + 3]? = some (.dict (plD i)):=pre_get
    have hl:=bl_len_dict g3 (by rw [plD_len]; exact Nat.le_trans (Nat.le_of_lt hi) (Nat.le_trans hN (Nat.le_of_ble_eq_true rfl)))
    rw [plD_len] at hl
    have hs:setItem (.loc (Q.length + 3)) (.int (i:Nat)) (.int (i:Nat)) (Q++[.list (natV F),.list [],.dict (metD F),.dict (plD i)])=some (Q++[.list (natV F),.list [],.dict (metD F),.dict (plD (i + 1))]):=by
      rw [si_dict g3 (sz (by rw [plD_len]; exact Nat.le_trans (Nat.le_of_lt hi) (Nat.le_trans hN (Nat.le_of_ble_eq_true rfl)))),put_pl,pre_set]; rfl
    refine ⟨_,_,?_,rfl,r1.put (n:=0x626c6f636b) (v:=.int (i:Nat)) rfl rfl,fun x hx=>by rw [look_put,beq_false_of_ne (Ne.symm hx)]; exact k1 x hx⟩
    simp only [EV,bn,B363_1,look_put,r1.pl,hl,hs])) ?_;rintro m' σ' h rfl h2
  exact ⟨m',h,h2⟩
noncomputable abbrev cK7 (a b:V) (r:Nat) (c d e g:V):M:=[(0x6b6579,a),(0x706172616d73,b),(0x726567697374657273,.loc r),(0x626c6f636b73,c),(0x6361707475726564,d),(0x726573756c7473,e),(0x7265636f76657279,g)]
theorem mk_code7 {n:Nat} {σ:S} {a b c d e g:V} {rs:V} {ws:List V} (h:∀ L,seqOf (σ++L) rs=some ws):callV TB (cf TB FT (n + 1)) (.cls 331) [a,b,rs,c,d,e,g] σ=some (.inst 331 σ.length,σ++[.obj (cK7 a b (σ.length + 1) c d e g),.list ws]):=by
  refine c_cls (i:=309) rfl ?_
  have hb:∀ L,builtin .listM [rs] (σ++L)=some (.loc (σ++L).length,(σ++L)++[.list ws]):=fun L=>by
    show (seqOf (σ++L) rs).map _=_
    rw [h]; rfl
  rw [cf_309]
  simp only [EV,F309,sa_k,pre_get0,pre_set0,at_290_body,at_290_captured,at_290_key,at_290_literals,at_290_locals,at_290_params,at_290_results,at_331_blocks,at_331_captured,at_331_key,at_331_params,at_331_recovery,at_331_registers,at_331_results,at_534_boxed,at_534_code,at_534_has_defers,at_534_held,at_534_here,at_534_known,at_534_loops,at_534_sites,at_534_spot,at_534_typed_fn,at_534_world,at_558_methods,at_558_package,at_558_path,at_558_underlying,at_601_bodies,at_601_consts,at_601_files,at_601_funcs,at_601_globals,at_601_is_whole,at_601_late_keys,at_601_named,at_601_order,at_601_packages,at_601_scopes,at_601_settle,at_601_starts,List.getElem?_cons_zero,List.set_cons_zero,hb,app_app,List.cons_append,List.nil_append,len1,k_sa (kvs:=[]) rfl,k_sa (kvs:=[_]) rfl,k_sa (kvs:=[_,_]) rfl,k_sa (kvs:=[_,_,_]) rfl,k_sa (kvs:=[_,_,_,_]) rfl,k_sa (kvs:=[_,_,_,_,_]) rfl,k_sa (kvs:=[_,_,_,_,_,_]) rfl,k_sa (kvs:=[_,_,_,_,_,_,_]) rfl,k_sa (kvs:=[_,_,_,_,_,_,_,_]) rfl,k_sa (kvs:=[_,_,_,_,_,_,_,_,_]) rfl,k_sa (kvs:=[_,_,_,_,_,_,_,_,_,_]) rfl,k_sa (kvs:=[_,_,_,_,_,_,_,_,_,_,_]) rfl]
theorem c_lam {T:Tab} {C:Cl} {l:Nat} {k:Int} {σ:S} {kvs:List (Int × V)} {v:V} (h:σ[l]? = some (.dict kvs)) (hv:lookI kvs k=some v):callV T C (.lam l) [.int k] σ=some (v,σ):=by
  unfold callV; simp only [h,hv]; rfl
theorem m_led {n l N:Nat} {σ:S} (t:Term) (h:σ[l]? = some (.dict (plD N))) (ht:∀ x ∈ tgt t,x < N):cf TB FT (n + 1) 356 [t.toV,.lam l] σ=some (t.toV,σ):=by
  rw [cf_356]
  cases t with
  | jump b =>
    have hb:∀ C,callV TB C (.lam l) [.int (b:Nat)] σ=some (.int (b:Nat),σ):=fun C=>c_lam h (lk_pl N (ht b (by simp [tgt])))
    simp only [EV,Term.toV,F356,g_t0,g_t1,hb]
  | branch o a b =>
    have ha:∀ C,callV TB C (.lam l) [.int (a:Nat)] σ=some (.int (a:Nat),σ):=fun C=>c_lam h (lk_pl N (ht a (by simp only [tgt]; split <;> simp)))
    have hb:∀ C,callV TB C (.lam l) [.int (b:Nat)] σ=some (.int (b:Nat),σ):=fun C=>c_lam h (lk_pl N (ht b (by simp only [tgt]; split <;> simp_all)))
    simp only [EV,Term.toV,F356,g_t0,g_t1,g_t2,g_t3,ha,hb]
  | ret os=>simp only [EV,Term.toV,F356,g_t0,g_t1]
structure Pe (P P1:S):Prop where
  len:P1.length=P.length
  c:∃ b,P1[0]? = some (.code b)
  r:∀ i,i≠0→P1[i]? = P[i]?
theorem Pe.pos {P P1:S} (e:Pe P P1):0 < P1.length:=by
  refine e1_1 e.c fun b h=>?_
  induction P1 using List.casesOn with
  | nil=>exact nn h
  | cons=>simp
theorem Pe.set {P P1:S} (e:Pe P P1):Pe P (P1.set 0 (.code true)) :=
  ⟨by rw [List.length_set]; exact e.len,⟨true,by rw [List.getElem?_set_self e.pos]⟩,fun i hi=>by rw [List.getElem?_set_ne (Ne.symm hi)]; exact e.r i hi⟩
theorem k_lam {l:Nat} {b:Bool} {σ:S} (h:σ[0]? = some (.code b)):kLam σ (.loc l)=some (.lam l,σ.set 0 (.code true)):=by
  unfold kLam; simp only [h]
theorem sx_len {P X:S} {cs:CS}:(sx P X cs).length=P.length + 11 + 2 * cs.blks.length + X.length:=by rw [sx,List.length_append,st_len]
theorem st_set0 {P X Y:S} {cs:CS} {o:O} (h:0 < P.length):(sx P X cs++Y).set 0 o=sx (P.set 0 o) X cs++Y:=by
  rw [List.set_append_left _ _ (by rw [sx_len]; simp +arith only),sx,List.set_append_left _ _ (by rw [st_len]; simp +arith only),sx,st,List.set_append_left _ _ h,st,List.length_set]
theorem st_get0 {P X Y:S} {cs:CS} {o:O} (h:P[0]? = some o):(sx P X cs++Y)[0]? = some o:=get_app (sx_get (get_app h))
structure WM2 (m:M) (P:S) (q:Nat):Prop extends WM m P q where
  bs:look m 0x626c6f636b73=some (.loc (q + 4))
theorem WM2.put {m:M} {P:S} {q n:Nat} {v:V} (r:WM2 m P q) (h1:(n == 0x636f6465)=false) (h2:(n == 0x706c61636573)=false) (h3:(n == 0x626c6f636b73)=false):WM2 (Internal.put m n v) P q :=
  ⟨r.toWM.put h1 h2,by rw [look_put,h3]; exact r.bs⟩
theorem cod_eq {P P1:S} (e:P1.length=P.length):cod P1=cod P:=by unfold cod; rw [e]
theorem bind_pair {σ:S} {l:Nat} {v w:V} {a b:Nat × Nat} {k p:Nat} {m:M} (h:σ[l]? = some (.list [v,w])):bindS [a,b] (some (k,p)) (.loc l) m σ=some (put (put m a.1 v) b.1 w):=by
  unfold bindS; simp only [h]; rfl
theorem b_listF {σ:S} {l:Nat} {vs:List V} (h:σ[l]? = some (.list vs)) (hs:sizeOk vs.length=true):builtin .listF [.loc l] σ=some (.lst vs,σ):=by
  have e:seqOf σ (.loc l)=some vs:=by unfold seqOf; simp only [h,hs,if_true]
  show (seqOf σ (.loc l)).map _=_
  rw [e]; rfl
theorem loop_kb {n:Nat} {P0 X:S} {cs:CS} {k:Nat} (o:Ok k cs) (fs:Fsh cs) {F:List Nat} {m:M} (hP:∃ b,P0[0]? = some (.code b)) (r:WM2 m P0 (sx P0 X cs).length) :
    ∃ m' P1,Pe P0 P1∧loopL (kFor TB (cf TB FT (n + 1)) [(0x626c6f636b,31412413)] none B363_3) (natV (List.range cs.blks.length)) m (sx P0 X cs++kX F cs.blks.length [])=some (none,m',sx P1 X cs++kX F cs.blks.length cs.blks)∧WM2 m' P0 (sx P0 X cs).length:=by
  refine e2_3 (loop_range (f:=kFor TB (cf TB FT (n + 1)) [(0x626c6f636b,31412413)] none B363_3) (m:=m) (σ:=sx P0 X cs++kX F cs.blks.length []) (fun i m' σ=>(∃ P1,Pe P0 P1∧σ=sx P1 X cs++kX F cs.blks.length (cs.blks.take i))∧WM2 m' P0 (sx P0 X cs).length) cs.blks.length ⟨⟨P0,⟨rfl,hP,fun _ _=>rfl⟩,by rw [List.take_zero]⟩,r⟩ (by
    rintro i m1 σ1 hi ⟨⟨P1,hp,rfl⟩,r1⟩
    refine e1_1 hp.c fun b hb=>?_
    have hk:cs.blks[i]? = some cs.blks[i]:=List.getElem?_eq_getElem hi
    generalize cs.blks[i] = bk at hk
    have hn:=fs.n1
    have hq:(sx P1 X cs).length=(sx P0 X cs).length:=by rw [sx_len,sx_len,hp.len]
    refine e1_2 (fs.cl i bk.1 bk.2 hk) fun t ht hx=>?_
    have c1:=r1.code
    rw [← cod_eq hp.len] at c1
    have c2:=r1.pl
    have c3:=r1.bs
    rw [← hq] at c2 c3
    have o1:=o.i bk (List.mem_of_getElem? hk)
    have o2:=o.s
    have z1:(sx P1 X cs++kX F cs.blks.length (cs.blks.take i)).set 0 (.code true)=sx (P1.set 0 (.code true)) X cs++kX F cs.blks.length (cs.blks.take i):=st_set0 hp.pos
    have lenq:(sx (P1.set 0 (.code true)) X cs).length=(sx P1 X cs).length:=by rw [sx_len,sx_len,List.length_set]
    have hpair:(sx P1 X cs++kX F cs.blks.length (cs.blks.take i))[P1.length + 12 + 2 * i]? = some (.list [.loc (P1.length + 11 + 2 * i),termO bk.2]):=get_app (sx_get (st_pair hk))
    have hins:(sx P1 X cs++kX F cs.blks.length (cs.blks.take i))[P1.length + 11 + 2 * i]? = some (.list (bk.1.map Ins.toV)):=get_app (sx_get (st_ins hk))
    have l1:=b_listF hins (sz (by rw [List.length_map]; with_reducible exact Nat.le_trans (by assumption) (by assumption)))
    have l2:=k_lam (l:=(sx P1 X cs).length + 3) (st_get0 (X:=X) (Y:=kX F cs.blks.length (cs.blks.take i)) (cs:=cs) hb)
    rw [z1] at l2
    have g3:(sx (P1.set 0 (.code true)) X cs++kX F cs.blks.length (cs.blks.take i))[(sx P1 X cs).length + 3]? = some (.dict (plD cs.blks.length)):=by rw [← lenq]; exact pre_get
    have l3:=m_led (n:=n) t g3 hx
    have g4:(sx P1 X cs++kX F cs.blks.length (cs.blks.take i))[(sx P1 X cs).length + 4]? = some (.list ((cs.blks.take i).map nbV)):=pre_get
    have g5:(sx (P1.set 0 (.code true)) X cs++kX F cs.blks.length (cs.blks.take i))[(sx P1 X cs).length + 4]? = some (.list ((cs.blks.take i).map nbV)):=by rw [← lenq]; exact pre_get
    have tk:cs.blks.take (i + 1)=cs.blks.take i++[bk]:=by rw [List.take_add_one,hk]; rfl
    have l5:methS ((sx P1 X cs).length + 4) 0x617070656e64 [.lst [.lst (bk.1.map Ins.toV),t.toV]] (sx (P1.set 0 (.code true)) X cs++kX F cs.blks.length (cs.blks.take i))=some (.none,sx (P1.set 0 (.code true)) X cs++kX F cs.blks.length (cs.blks.take (i + 1))):=by
      rw [ms_app g5 (sz (by rw [List.length_map,List.length_take]; exact Nat.le_trans (Nat.min_le_right _ _) (Nat.le_trans (Nat.le_of_lt hn) (Nat.le_of_ble_eq_true rfl)))),← lenq,pre_set,tk]
      simp only [kX,List.set_cons_succ,List.set_cons_zero,List.map_append,List.map_cons,List.map_nil,nbV,ht,termO]
    have l0:=gi_blk (X:=X) (Y:=kX F cs.blks.length (cs.blks.take i)) (P:=P1) (ltk hk) (by (refine le1 hn ?_;simp +arith only))
    refine ⟨_,_,?_,⟨_,hp.set,rfl⟩,((r1.put (n:=0x626c6f636b) (v:=.int (i:Nat)) rfl rfl rfl).put (n:=0x736f6d65) (v:=.loc (P1.length + 11 + 2 * i)) rfl rfl rfl).put (n:=0x656e64) (v:=t.toV) rfl rfl rfl⟩
    rw [ht] at hpair
    simp only [EV,bn,B363_3,look_put,c1,c2,c3,ga_app (gax gc_blocks),l0,bind_pair hpair,termO,mo_app g4,l1,l2,l3,l5])) ?_;rintro m' σ' h ⟨P1,hp,e1⟩ h2
  rw [List.take_length] at e1
  subst e1
  exact ⟨m',P1,hp,h,h2⟩
noncomputable abbrev fX (q N:Nat) (F:List Nat) (cs:CS):S:=[.list (natV F),.list [],.dict (metD F),.dict (plD N),.list (cs.blks.map nbV),.obj (cK7 (.str 0x6d61696e2e66) (.int 0) (q + 6) (.loc (q + 4)) (.int 0) (.int 0) .none),.list cs.regs]
theorem m_keptb {n:Nat} {P X:S} {cs:CS} {k:Nat} (o:Ok k cs) (fs:Fsh cs) {F:List Nat} (hP:∃ b,P[0]? = some (.code b)) :
    ∃ P1,Pe P P1∧cf TB FT (n + 2) 363 [cod P,.lst (natV (List.range cs.blks.length))] (sx P X cs++rX F [])=some (.inst 331 ((sx P X cs).length + 5),sx P1 X cs++fX (sx P X cs).length cs.blks.length F cs):=by
  have hn:=fs.n1
  refine e1_3 (loop_pl (n:=n + 1) (Q:=sx P X cs) (P:=P) (F:=F) (N:=cs.blks.length) (m:=[(0x636f6465,cod P),(0x6b657074,.lst (natV (List.range cs.blks.length))),(0x706c61636573,.loc ((sx P X cs).length + 3))]) (by (refine le1 hn ?_;simp +arith only)) ⟨rfl,rfl⟩) fun m1 e1 r1 k1=>?_
  refine e2_3 (loop_kb (n:=n) o fs (F:=F) (m:=put m1 0x626c6f636b73 (.loc ((sx P X cs).length + 4))) hP ⟨r1.put rfl rfl,by rw [look_put]; rfl⟩) fun m2 P1 hp e2 r2=>?_
  refine ⟨P1,hp,?_⟩
  have kk:look m1 0x6b657074=some (.lst (natV (List.range cs.blks.length))):=(k1 _ (by decide)).trans rfl
  have c2:=r2.code
  have c3:=r2.bs
  have hq:(sx P1 X cs).length=(sx P X cs).length:=by rw [sx_len,sx_len,hp.len]
  rw [← cod_eq hp.len] at c2
  have hs:∀ L,seqOf ((sx P1 X cs++kX F cs.blks.length cs.blks)++L) (.loc (P1.length + 10))=some cs.regs:=fun L=>by
    have:((sx P1 X cs++kX F cs.blks.length cs.blks)++L)[P1.length + 10]? = some (.list cs.regs):=get_app (get_app (sx_get (st_get (by decide))))
    unfold seqOf; simp only [this]
    rw [if_pos (sz (by have:=o.r; have:=o.s; with_reducible exact Nat.le_trans (by assumption) (by assumption)))]
  have hc:∀ n,callV TB (cf TB FT (n + 1)) (.cls 331) [.str 0x6d61696e2e66,.int 0,.loc (P1.length + 10),.loc ((sx P X cs).length + 4),.int 0,.int 0,.none] (sx P1 X cs++kX F cs.blks.length cs.blks)=some (.inst 331 ((sx P X cs).length + 5),sx P1 X cs++fX (sx P X cs).length cs.blks.length F cs):=fun n=>by
    rw [mk_code7 hs,len5,app_app,hq]; rfl
  have hlen:∀ a b c:O,(sx P X cs++[a,b,c]).length=(sx P X cs).length + 3:=fun _ _ _=>len3
  have hlen4:∀ a b c d:O,(sx P X cs++[a,b,c,d]).length=(sx P X cs).length + 4:=fun _ _ _ _=>len4
  have cel:∀ (v:V) (n p:Nat) (m:M) (σ:S),look m n=none→asgn TB (cf TB FT (n + 1)) (.cel n p) v m σ=some (put m n v,σ):=fun v n p m σ h=>by
    unfold asgn; simp only [h]; rfl
  rw [cf_363,F363_eq]
  simp only [EV,kd_f,app_app,List.cons_append,List.nil_append,hlen]
  unfold asgn
  simp only [EV,Option.isNone_none,if_true]
  have z0:(plD 0) = []:=rfl
  have z1:natV [] = []:=rfl
  rw [z0] at e1
  rw [z1,e1]
  have z2:kX F cs.blks.length [] = [.list (natV F),.list [],.dict (metD F),.dict (plD cs.blks.length),.list []]:=rfl
  rw [z2] at e2
  simp only [EV,kk,app_app,List.cons_append,List.nil_append,hlen4,look_put]
  rw [e2]
  simp only [EV,c2,c3,ga_app (gax gc_recovery),ga_app (gax gc_key),ga_app (gax gc_params),ga_app (gax gc_registers),ga_app (gax gc_captured),ga_app (gax gc_results),q_isN,look_put]
  rw [hc]
  simp only [EV,if_true]
theorem loop_none {n:Nat} {σ:S} {l:Nat} {vs:List V} (hl:σ[l]? = some (.list vs)) (hv:∀ v ∈ vs,∃ (x:Nat) (a t:V),v = .loc x∧σ[x]? = some (.list [a,t])∧cmpop .Is t .none σ=some false) :
    ∀ (fu i:Nat) (m:M),vs.length < fu + i→i≤vs.length→∃ m',loopI (kFor TB (cf TB FT n) [(0x626c6f636b,40053617)] none B531_0) l fu i m σ=some (none,m',σ)∧look m' 0x73656c66=look m 0x73656c66
  | 0,i,m,h,h1=>by exact absurd (Nat.lt_of_lt_of_le h (by rw [Nat.zero_add]; exact h1)) (Nat.lt_irrefl _)
  | fu + 1,i,m,h,h1=>by
    unfold loopI; simp only [hl]
    cases hi:vs[i]? with
    | none=>exact ⟨m,rfl,rfl⟩
    | some v =>
      refine e3_3 (hv v (List.mem_of_getElem? hi)) ?_;rintro x a t rfl h3 h2
      have e:kFor TB (cf TB FT n) [(0x626c6f636b,40053617)] none B531_0 (.loc x) m σ=some (none,put m 0x626c6f636b (.loc x),σ):=by
        simp only [EV,bn,B531_0,look_put,g_item1 h3,h2]
      obtain ⟨m',e',k'⟩:=loop_none hl hv fu (i + 1) (put m 0x626c6f636b (.loc x)) (by (refine le1 h ?_;simp +arith only)) (by
        rcases Nat.lt_or_ge i vs.length with h' | h'
        · exact h'
        · rw [List.getElem?_eq_none h'] at hi; exact nn hi)
      refine ⟨m',?_,by rw [k',look_put]; rfl⟩
      dsimp only
      rw [e]; exact e'
theorem term_not_none {t:Term} {σ:S}:cmpop .Is t.toV .none σ=some false:=by cases t <;> rfl
theorem m_finished {n:Nat} {P X:S} {cs:CS} {k:Nat} (o:Ok k cs) (fs:Fsh cs) (hP:∃ b,P[0]? = some (.code b)) :
    ∃ P1 F,Pe P P1∧cf TB FT (n + 3) 531 [sta P] (sx P X cs)=some (.inst 331 ((sx P X cs).length + 5),sx P1 X cs++fX (sx P X cs).length cs.blks.length F cs):=by
  have hn:=fs.n1
  refine e1_3 (m_reached (n:=n) (P:=P) (X:=X) fs) fun F e1 nd hF=>?_
  refine e1_2 (m_keptb (n:=n) (X:=X) o fs (F:=F) hP) fun P1 hp e2=>?_
  refine ⟨P1,F,hp,?_⟩
  have hl:(sx P X cs)[P.length + 8]? = some (.list (bLocs P.length cs.blks.length)):=sx_get (st_get (by decide))
  refine e1_2 (loop_none (n:=n + 2) (σ:=sx P X cs) (l:=P.length + 8) (vs:=bLocs P.length cs.blks.length) hl (fun v hv=>by
    refine e1_2 (List.mem_map.mp hv) ?_;rintro i hi rfl
    have hi':=List.mem_range.mp hi
    have hk:cs.blks[i]? = some cs.blks[i]:=List.getElem?_eq_getElem hi'
    refine e1_2 (fs.cl i cs.blks[i].1 cs.blks[i].2 hk) fun t ht _=>?_
    exact ⟨_,_,_,rfl,sx_get (st_pair hk),by rw [ht]; exact term_not_none⟩) fuel 0 [(0x73656c66,sta P)] (by simp only [bLocs,List.length_map,List.length_range,fuel]; (refine le1 hn ?_;simp +arith only)) (Nat.zero_le _)) fun m' e0 k0=>?_
  have ks:look m' 0x73656c66=some (sta P):=k0.trans rfl
  have hs:=b_sorted (σ:=sx P X cs++rX F []) nd hF hn (rx0 (W:=[]))
  rw [cf_531,F531_eq]
  simp only [EV,gax ga_code,gax gc_blocks]
  rw [e0]
  simp only [EV,ks,gax ga_code,e1,hs,e2]
end Internal.Pl
namespace Internal.Pl
open PySem
structure RS where
  cells:List (Int × V)
  marks:List Int
  rows:List (List V)
noncomputable abbrev vTold (v:V):V:=.tup [.str 0x746f6c64,v]
noncomputable abbrev vHeld (i:Int):V:=.tup [.str 0x68656c64,.int i]
noncomputable abbrev vLoad (v:V):V:=.tup [.str 0x6c6f6164,v]
noncomputable abbrev vMk (k:Int):V:=.tup [.str 0x6d61726b,.int k]
noncomputable abbrev vConv (v:V):V:=.tup [.str 0x636f6e76657274,v,tSmall,tInt]
noncomputable abbrev vFace (v:V):V:=.tup [.str 0x66616365,v,tInt]
noncomputable abbrev vBin (p:Bool) (a b:V):V:=.tup [.str (opS p),a,b,tInt]
noncomputable abbrev vAsrt (v:V):V:=.tup [.str 0x617373657274,v,tInt,tAny]
noncomputable abbrev vTruth (v:V):V:=.tup [.str 0x7472757468,v]
noncomputable abbrev vMade (n:Int):V:=.tup [.str 0x6d616465,.int n]
noncomputable abbrev vSpot (n k:Int):V:=.tup [.str 0x73706f74,.int n,.int k]
noncomputable abbrev vRow (vs:List V):V:=.tup [.str 0x726f77,.tup vs]
noncomputable abbrev vCut (w a b c t:V):V:=.tup [.str 0x637574,w,.tup [a,b,c],t]
noncomputable def rd (rs:RS):Op→Option V
  | .reg r=>lookI rs.cells (r:Int)
  | .cst t v=>bif plain t then some (cond (veq t tBool) v (vTold v)) else none
noncomputable def rdO (rs:RS):Option Op→Option V
  | none=>some .none
  | some o=>rd rs o
noncomputable def shown (rs:RS):V→Option V
  | .bool b=>some (.bool b)
  | .tup (.str s :: r)=>cond (s == 0x6d616465) (match r with
      | .int i :: _=>if 0≤i∧i < 1000 then (match rs.rows[i.toNat]? with
        | some l=>if l.length≤1000 then some (vRow l) else none
        | none=>none) else none
      | _=>none) (some (.tup (.str s :: r)))
  | _=>none
noncomputable def RS.put (rs:RS) (N r:Nat) (v:V):Option RS:=if r < N then some { rs with cells:=putI rs.cells (r:Int) v } else none
noncomputable def mkV (t:V) (k:Int):V:=cond (veq t tBool) (.bool (Int.fmod k 2 == 0)) (vMk k)
noncomputable def stM (ts:List V) (rs:RS) (r:Nat) (k:Int):Option V→Option RS
  | some t=>if plain t=true∧rs.marks.length < 1000 then RS.put { rs with marks:=rs.marks++[k] } ts.length r (mkV t k) else none
  | none=>none
noncomputable def stU (N:Nat) (rs:RS) (r:Nat):V→Option RS
  | .bool b=>rs.put N r (.bool !b)
  | _=>none
noncomputable def stE (N:Nat) (rs:RS) (r:Nat) (k:Int):V→Option RS
  | .tup (_ :: .int n :: _)=>rs.put N r (vSpot n k)
  | _=>none
noncomputable def stS (rs:RS) (v:V):V→Option RS
  | .tup (_ :: .int i :: .int j :: _)=>if 0≤i∧i < 1000∧0≤j∧j < 1000 then (match rs.rows[i.toNat]? with
    | some l=>if j.toNat < l.length then some { rs with rows:=rs.rows.set i.toNat (l.set j.toNat v) } else none
    | none=>none) else none
  | _=>none
noncomputable def stA (N:Nat) (rs:RS) (r:Nat) (t:Option Nat) (v:V):Option RS:=(rs.put N r (vAsrt v)).bind fun rs'=>match t with
  | none=>some rs'
  | some q=>rs'.put N q (vTruth (vAsrt v))
noncomputable def stepI (ts:List V) (rs:RS):Ins→Option RS
  | .mark r k=>stM ts rs r k ts[r]?
  | .load r o=>(rd rs o).bind fun v=>rs.put ts.length r (vLoad v)
  | .move r o=>(rd rs o).bind fun v=>rs.put ts.length r v
  | .conv r o=>(rd rs o).bind fun v=>rs.put ts.length r (vConv v)
  | .face r o=>(rd rs o).bind fun v=>rs.put ts.length r (vFace v)
  | .unary r o=>(rd rs o).bind fun v=>stU ts.length rs r v
  | .binary r p a b=>(rd rs a).bind fun v=>(rd rs b).bind fun w=>rs.put ts.length r (vBin p v w)
  | .asrt r t o=>(rd rs o).bind fun v=>stA ts.length rs r t v
  | .mksl r s=>if rs.rows.length < 1000 then RS.put { rs with rows:=rs.rows++[[.none,.none]] } ts.length r (vMade (rs.rows.length:Nat)) else none
  | .elem r o k=>(rd rs o).bind fun v=>stE ts.length rs r k v
  | .store s o=>(rd rs s).bind fun w=>(rd rs o).bind fun v=>stS rs v w
  | .cut r w lo hi mx t=>(rd rs w).bind fun v=>(shown rs v).bind fun x=>(rdO rs lo).bind fun a=>(rdO rs hi).bind fun b=>(rdO rs mx).bind fun c=>rs.put ts.length r (vCut x a b c t)
noncomputable def runI (ts:List V):List Ins→RS→Option RS
  | [],rs=>some rs
  | i :: r,rs=>(stepI ts rs i).bind (runI ts r)
structure Ck (N:Nat) (c:List (Int × V)):Prop where
  nd:(c.map (·.1)).Nodup
  lt:∀ q ∈ c,∃ r:Nat,r < N∧q.1=(r:Int)
theorem putI_keys {v:V} {k:Int}:∀ c:List (Int × V),(putI c k v).map (·.1)=c.map (·.1) ∨ ((putI c k v).map (·.1)=c.map (·.1)++[k]∧k ∉ c.map (·.1))
  | []=>.inr ⟨rfl,by simp⟩
  | (x,w) :: r=>by
    show ((if x=k then (x,v) :: r else (x,w) :: putI r k v).map (·.1))=_ ∨ _
    by_cases h:x=k
    · left; rw [if_pos h]; rfl
    · have e:putI ((x,w) :: r) k v=(x,w) :: putI r k v:=by show (if x=k then _ else _)=_; rw [if_neg h]
      rcases putI_keys r (v:=v) (k:=k) with h1 | ⟨h1,h2⟩
      · left; rw [if_neg h,List.map_cons,h1]; rfl
      · right; rw [e,List.map_cons,h1]
        refine ⟨rfl,?_⟩
        simp only [List.map_cons,List.mem_cons,not_or]
        exact ⟨Ne.symm h,h2⟩
theorem Ck.put {N r:Nat} {v:V} {c:List (Int × V)} (h:Ck N c) (hr:r < N):Ck N (putI c (r:Int) v):=by
  refine ⟨?_,fun q hq=>?_⟩
  · rcases putI_keys c (v:=v) (k:=(r:Int)) with h1 | ⟨h1,h2⟩
    · rw [h1]; exact h.nd
    · rw [h1,List.nodup_append]
      exact ⟨h.nd,by simp,fun a ha b hb=>by rw [List.mem_singleton] at hb; subst hb; rintro rfl; exact h2 ha⟩
  · have hk:q.1 ∈ (putI c (r:Int) v).map (·.1):=List.mem_map_of_mem hq
    have hc:q.1 ∈ c.map (·.1)→∃ r:Nat,r < N∧q.1=(r:Int):=fun hm=>by
      refine e1_2 (List.mem_map.mp hm) fun x hx e=>?_
      refine e1_2 (h.lt x hx) fun y h1 h2=>?_
      exact ⟨y,h1,e ▸ h2⟩
    rcases putI_keys c (v:=v) (k:=(r:Int)) with h1 | ⟨h1,h2⟩
    · rw [h1] at hk; exact hc hk
    · rw [h1] at hk
      rcases List.mem_append.mp hk with hk | hk
      · exact hc hk
      · rw [List.mem_singleton] at hk; exact ⟨r,hr,hk⟩
theorem Ck.len {N:Nat} {c:List (Int × V)} (h:Ck N c):c.length≤N:=by
  have:=List.Nodup.length_le_of_subset (l₂:=(List.range N).map fun i:Nat=>(i:Int)) h.nd fun x hx=>by
    refine e1_2 (List.mem_map.mp hx) ?_;rintro q hq rfl
    refine e1_2 (h.lt q hq) fun r h1 h2=>?_
    exact List.mem_map.mpr ⟨r,List.mem_range.mpr h1,h2.symm⟩
  simpa using this
theorem look_putI {k x:Int} {v:V}:∀ c:List (Int × V),lookI (putI c k v) x=if k=x then some v else lookI c x
  | []=>rfl
  | (y,w) :: r=>by
    show lookI (if y=k then (y,v) :: r else (y,w) :: putI r k v) x=if k=x then some v else (if y=x then some w else lookI r x)
    by_cases h:y=k
    · subst h; rw [if_pos rfl]
      show (if y=x then some v else lookI r x)=_
      by_cases h2:y=x
      · rw [if_pos h2,if_pos h2]
      · rw [if_neg h2,if_neg h2,if_neg h2]
    · rw [if_neg h]
      show (if y=x then some w else lookI (putI r k v) x)=_
      rw [look_putI r]
      by_cases h2:y=x
      · subst h2; rw [if_pos rfl,if_neg (Ne.symm h),if_pos rfl]
      · rw [if_neg h2,if_neg h2]
mutual
theorem res_plain {σ:S}:∀ v,plain v=true→res σ v=some v
  | .none,_=>rfl
  | .bool _,_=>rfl
  | .int _,_=>rfl
  | .str _,_=>rfl
  | .tup vs,h=>by
    show (ress σ vs).map V.tup=_
    rw [ress_plain vs h]; rfl
  | .lst vs,h=>by
    show (ress σ vs).map V.lst=_
    rw [ress_plain vs h]; rfl
  | .dct ..,h=>by exact ff h
  | .dcti ..,h=>by exact ff h
  | .fset _,h=>by exact ff h
  | .rng _,h=>by exact ff h
  | .loc _,h=>by exact ff h
  | .inst ..,h=>by exact ff h
  | .fn _,h=>by exact ff h
  | .cls _,h=>by exact ff h
  | .bi _,h=>by exact ff h
  | .lam _,h=>by exact ff h
theorem ress_plain {σ:S}:∀ vs,plains vs=true→ress σ vs=some vs
  | [],_=>rfl
  | v :: r,h=>by
    have h':(plain v && plains r)=true:=h
    rw [Bool.and_eq_true] at h'
    show (res σ v).bind (fun a=>(ress σ r).map (a :: ·))=_
    rw [res_plain v h'.1,ress_plain r h'.2]; rfl
end
mutual
theorem veq_self:∀ v,plain v=true→veq v v=true
  | .none,_=>rfl
  | .bool b,_=>beq_self_eq_true b
  | .int i,_=>beq_self_eq_true i
  | .str i,_=>beq_self_eq_true i
  | .tup vs,h=>veqs_self vs h
  | .lst vs,h=>veqs_self vs h
  | .dct ..,h=>by exact ff h
  | .dcti ..,h=>by exact ff h
  | .fset _,h=>by exact ff h
  | .rng _,h=>by exact ff h
  | .loc _,h=>by exact ff h
  | .inst ..,h=>by exact ff h
  | .fn _,h=>by exact ff h
  | .cls _,h=>by exact ff h
  | .bi _,h=>by exact ff h
  | .lam _,h=>by exact ff h
theorem veqs_self:∀ vs,plains vs=true→veqs vs vs=true
  | [],_=>rfl
  | v :: r,h=>by
    have h':(plain v && plains r)=true:=h
    rw [Bool.and_eq_true] at h'
    show (veq v v && veqs r r)=true
    rw [veq_self v h'.1,veqs_self r h'.2]; rfl
end
theorem q_eqB {t:V} {σ:S} (h:plain t=true):eqv t tBool σ=some (veq t tBool):=by
  rw [eqv,res_plain t h]
  have:res σ tBool=some tBool:=rfl
  simp only [Option.bind_some,this]
  rw [if_pos]; rw [Bool.or_eq_true]; exact .inr rfl
noncomputable abbrev rlocs (q n:Nat):List V:=(List.range n).map fun i=>.loc (q + 3 + i)
noncomputable def wk (Q:S) (rs:RS):S:=Q++(.dict rs.cells :: .list (rs.marks.map .int) :: .list (rlocs Q.length rs.rows.length) :: rs.rows.map .list)
noncomputable abbrev vRun (q t:Nat):V:=.dct [0x63656c6c73,0x6d61726b73,0x726f7773,0x7479706573] [.loc q,.loc (q + 1),.loc (q + 2),.loc t]
theorem wk0 {Q:S} {rs:RS}:(wk Q rs)[Q.length]? = some (.dict rs.cells):=pre_get0
theorem wk1 {Q:S} {rs:RS}:(wk Q rs)[Q.length + 1]? = some (.list (rs.marks.map .int)):=pre_get
theorem wk2 {Q:S} {rs:RS}:(wk Q rs)[Q.length + 2]? = some (.list (rlocs Q.length rs.rows.length)):=pre_get
theorem wk3 {Q:S} {rs:RS} {i:Nat} {l:List V} (h:rs.rows[i]? = some l):(wk Q rs)[Q.length + 3 + i]? = some (.list l):=by
  rw [wk,Nat.add_assoc,pre_get,Nat.add_comm 3 i]
  show (rs.rows.map O.list)[i]? = _
  rw [List.getElem?_map,h]; rfl
theorem wkQ {Q:S} {rs:RS} {l:Nat} {o:O} (h:Q[l]? = some o):(wk Q rs)[l]? = some o:=get_app h
theorem wk_cells {Q:S} {rs:RS} {c:List (Int × V)}:(wk Q rs).set Q.length (.dict c)=wk Q { rs with cells:=c }:=pre_set0
theorem wk_marks {Q:S} {rs:RS} {c:List Int}:(wk Q rs).set (Q.length + 1) (.list (c.map .int))=wk Q { rs with marks:=c }:=pre_set
theorem wk_row {Q:S} {rs:RS} {i:Nat} {l:List V}:(wk Q rs).set (Q.length + 3 + i) (.list l)=wk Q { rs with rows:=rs.rows.set i l }:=by
  rw [wk,Nat.add_assoc,pre_set,Nat.add_comm 3 i]
  show Q++(_ :: _ :: _ :: (rs.rows.map O.list).set i (.list l))=_
  rw [wk,← List.map_set,List.length_set]
theorem wk_len {Q:S} {rs:RS}:(wk Q rs).length=Q.length + 3 + rs.rows.length:=by
  simp only [wk,List.length_append,List.length_cons,List.length_map]; simp +arith only
theorem wk_new {Q:S} {rs:RS} {l:List V}:(wk Q rs++[O.list l]).set (Q.length + 2) (.list (rlocs Q.length rs.rows.length++[.loc (wk Q rs).length]))=wk Q { rs with rows:=rs.rows++[l] }:=by
  have e:wk Q rs++[O.list l] = Q++(.dict rs.cells :: .list (rs.marks.map .int) :: .list (rlocs Q.length rs.rows.length) :: (rs.rows++[l]).map .list):=by
    simp only [wk,List.append_assoc,List.cons_append,List.map_append,List.map_cons,List.map_nil]
  rw [e,pre_set,wk_len]
  simp only [wk,List.set_cons_succ,List.set_cons_zero,rlocs,List.length_append,List.length_cons,List.length_nil,List.range_succ,List.map_append,List.map_cons,List.map_nil]
end Internal.Pl
namespace Internal.Pl
open PySem
section
variable {n:Nat} {Q:S} {t:Nat} {rs rs':RS}
theorem q_isnone {σ:S}:cmpop .Is .none .none σ=some true:=rfl
theorem mo_get {T:Tab} {l:Nat} {σ:S} {kvs:List (Int × V)} (h:σ[l]? = some (.dict kvs)):methOk T (.loc l) 0x676574 σ=some none:=by
  unfold methOk; simp only [h]; rfl
theorem ms_get {l:Nat} {σ:S} {k:Int} {v w:V} {kvs:List (Int × V)} (h:σ[l]? = some (.dict kvs)) (hv:lookI kvs k=some w):methS l 0x676574 [.int k,v] σ=some (w,σ):=by
  unfold methS; rw [h]; show some ((lookI kvs k).getD v,σ)=_; rw [hv]; rfl
theorem m_read (o:Op) {v:V} (h:rd rs o=some v):cf TB FT (n + 1) 689 [vRun Q.length t,o.toV] (wk Q rs)=some (v,wk Q rs):=by
  rw [cf_689]
  cases o with
  | reg r =>
    have hi:cmpop .Is (.tup [.str 0x726567,.int (r:Nat)]) .none (wk Q rs)=some false:=rfl
    generalize hR:vRun Q.length t=R at *
    have hc:getItem R (.str 0x63656c6c73) (wk Q rs)=some (.loc Q.length,wk Q rs):=by rw [← hR]; rfl
    simp only [EV,Op.toV,F689,hi,g_t0,g_t1,hc,mo_get wk0,ms_get wk0 h]
  | cst ty x =>
    have hi:cmpop .Is (.tup [.str 0x636f6e7374,ty,x]) .none (wk Q rs)=some false:=rfl
    rw [rd] at h
    cases hp:plain ty with
    | false=>rw [hp] at h; exact nn h
    | true =>
      rw [hp,cond_true,Option.some.injEq] at h
      subst h
      cases hb:veq ty tBool <;> simp only [EV,Op.toV,F689,hi,g_t0,g_t1,g_t2,q_eqB hp,hb]
theorem m_readO (o:Option Op) {v:V} (h:rdO rs o=some v):cf TB FT (n + 1) 689 [vRun Q.length t,opO o] (wk Q rs)=some (v,wk Q rs):=by
  induction o using Option.casesOn with
  | some o=>exact m_read o h
  | none =>
    cases h
    rw [cf_689]
    simp only [EV,opO,F689,q_isnone]
theorem m_called {k:Int} {ty:V} (hp:plain ty=true) (hm:rs.marks.length < 1000):cf TB FT (n + 1) 677 [.loc (Q.length + 1),.int k,ty] (wk Q rs)=some (mkV ty k,wk Q { rs with marks:=rs.marks++[k] }):=by
  have h1:methS (Q.length + 1) 0x617070656e64 [.int k] (wk Q rs)=some (.none,wk Q { rs with marks:=rs.marks++[k] }):=by
    rw [ms_app wk1 (sz (by rw [List.length_map]; (refine le1 hm ?_;simp +arith only)))]
    have:rs.marks.map V.int++[V.int k] = (rs.marks++[k]).map V.int:=by simp
    rw [this,wk_marks]
  rw [cf_677]
  cases hb:veq ty tBool <;> simp only [EV,mkV,F677,mo_app wk1,h1,q_eqB hp,hb,o_mod (b:=2) (by decide) (by decide)]
theorem isi_t {vs:List V} {σ:S}:builtin .isinst [.tup vs,.bi .tuple] σ=some (.bool true,σ):=rfl
theorem isi_b {b:Bool} {σ:S}:builtin .isinst [.bool b,.bi .tuple] σ=some (.bool false,σ):=rfl
theorem gi_rl {σ:S} {l q m:Nat} {i:Int} (h:σ[l]? = some (.list (rlocs q m))) (h0:0≤i) (h1:i < 1000) (h2:i.toNat < m):getItem (.loc l) (.int i) σ=some (.loc (q + 3 + i.toNat),σ):=by
  have:i=((i.toNat:Nat):Int):=by exact (Int.toNat_of_nonneg h0).symm
  rw [this]
  refine gi_list h ?_ (by lia)
  simp only [rlocs,List.getElem?_map,List.getElem?_range (show ((i.toNat:Int)).toNat < m by exact h2),Option.map_some,Int.toNat_natCast,List.getElem?_range h2]
theorem b_tuple {σ:S} {l:Nat} {vs:List V} (h:σ[l]? = some (.list vs)) (hs:sizeOk vs.length=true):builtin .tuple [.loc l] σ=some (.tup vs,σ):=by
  have e:seqOf σ (.loc l)=some vs:=by unfold seqOf; simp only [h,hs,if_true]
  show (seqOf σ (.loc l)).map _=_
  rw [e]; rfl
theorem getE {α} {l:List α} {i:Nat} {x:α} (h:l[i]? = some x):i < l.length:=by
  rcases Nat.lt_or_ge i l.length with h' | h'
  · exact h'
  · rw [List.getElem?_eq_none h'] at h; exact nn h
set_option tactic.hygienic true in
theorem m_shown {v x:V} (h:shown rs v=some x):cf TB FT (n + 1) 701 [vRun Q.length t,v] (wk Q rs)=some (x,wk Q rs):=by
  generalize hR:vRun Q.length t=R at *
  have hc:getItem R (.str 0x726f7773) (wk Q rs)=some (.loc (Q.length + 2),wk Q rs):=by rw [← hR]; rfl
  rw [cf_701]
  unfold shown at h
  split at h
  · rw [Option.some.injEq] at h; subst h
    simp only [EV,F701,isi_b]
  · rename_i s r
    cases hs:s == 0x6d616465 with
    | false =>
      rw [hs,cond_false,Option.some.injEq] at h; subst h
      simp only [EV,F701,isi_t,g_t0,hs]
    | true =>
      rw [hs,cond_true] at h
      split at h
      · rename_i i r'
        split at h
        · rename_i hi
          split at h
          · rename_i l hl
            split at h
            · rename_i hll
              rw [Option.some.injEq] at h; subst h
              have e1:=gi_rl (wk2 (Q:=Q)) hi.1 hi.2 (getE hl)
              simp only [EV,F701,isi_t,g_t0,g_t1,hs,hc,e1,b_tuple (wk3 (Q:=Q) hl) (sz (by (apply le1 (b:=1000);assumption;simp +arith only)))]
            · exact nn h
          · exact nn h
        · exact nn h
      · exact nn h
  · exact nn h
end
end Internal.Pl
namespace Internal.Pl
open PySem
section
variable {n:Nat} {Q:S} {t:Nat} {rs rs':RS} {ts:List V}
theorem rp_some {N r:Nat} {v:V} (h:rs.put N r v=some rs'):r < N∧rs' = { rs with cells:=putI rs.cells (r:Int) v }:=by
  unfold RS.put at h
  split at h
  · rename_i hr; rw [Option.some.injEq] at h; exact ⟨hr,h.symm⟩
  · exact nn h
theorem m_cell {N r:Nat} {v:V} (hk:Ck N rs.cells) (hN:N≤1000000) (h:rs.put N r v=some rs'):setItem (.loc Q.length) (.int (r:Nat)) v (wk Q rs)=some (wk Q rs'):=by
  refine e0_2 (rp_some h) ?_;rintro hr rfl
  rw [si_dict wk0 (sz (Nat.le_trans hk.len hN)),wk_cells]
theorem ck_put {N r:Nat} {v:V} (hk:Ck N rs.cells) (h:rs.put N r v=some rs'):Ck N rs'.cells:=by
  refine e0_2 (rp_some h) ?_;rintro hr rfl
  exact hk.put hr
theorem cut36 {a b c d e f g:V} {σ:S} {p q:Nat}:cutV (.tup [a,b,c,d,e,f,g]) (some (3,p)) (some (6,q)) σ=some (.tup [d,e,f],σ):=rfl
theorem cut3_3 {a b c:V} {σ:S} {p:Nat}:cutV (.tup [a,b,c]) (some (3,p)) none σ=some (.tup [],σ):=rfl
theorem cut3_4 {a b c d:V} {σ:S} {p:Nat}:cutV (.tup [a,b,c,d]) (some (3,p)) none σ=some (.tup [d],σ):=rfl
theorem cut3_5 {a b c d e:V} {σ:S} {p:Nat}:cutV (.tup [a,b,c,d,e]) (some (3,p)) none σ=some (.tup [d,e],σ):=rfl
theorem add2_0 {a b:V} {σ:S}:binop .Add (.tup [a,b]) (.tup []) σ=some (.tup [a,b],σ):=rfl
theorem add2_1 {a b c:V} {σ:S}:binop .Add (.tup [a,b]) (.tup [c]) σ=some (.tup [a,b,c],σ):=rfl
theorem add2_2 {a b c d:V} {σ:S}:binop .Add (.tup [a,b]) (.tup [c,d]) σ=some (.tup [a,b,c,d],σ):=rfl
theorem gd_move {a b c d:V} {σ:S}:getItem (.dct [0x6d6f7665,0x6c6f6164,0x636f6e76657274,0x66616365] [a,b,c,d]) (.str 0x6d6f7665) σ=some (a,σ):=rfl
theorem gd_load {a b c d:V} {σ:S}:getItem (.dct [0x6d6f7665,0x6c6f6164,0x636f6e76657274,0x66616365] [a,b,c,d]) (.str 0x6c6f6164) σ=some (b,σ):=rfl
theorem gd_conv {a b c d:V} {σ:S}:getItem (.dct [0x6d6f7665,0x6c6f6164,0x636f6e76657274,0x66616365] [a,b,c,d]) (.str 0x636f6e76657274) σ=some (c,σ):=rfl
theorem gd_face {a b c d:V} {σ:S}:getItem (.dct [0x6d6f7665,0x6c6f6164,0x636f6e76657274,0x66616365] [a,b,c,d]) (.str 0x66616365) σ=some (d,σ):=rfl
theorem mul2 {σ:S}:binop .Mult (.lst [.none]) (.int 2) σ=some (.loc σ.length,σ++[.list [.none,.none]]):=rfl
theorem d_load {r:Nat} {o:Op} {v:V} (h:rd rs o=some v):cf TB FT (n + 2) 694 [vRun Q.length t,(Ins.load r o).toV] (wk Q rs)=some (vLoad v,wk Q rs):=by
  have h1:∀ n,cf TB FT (n + 1) 689 [vRun Q.length t,o.toV] (wk Q rs)=some (v,wk Q rs):=fun n=>m_read o h
  generalize vRun Q.length t=R at *
  rw [cf_694]
  simp only [EV,Ins.toV,F694,g_t0,g_t1,g_t2,g_t3,g_t4,g_t5,h1,cut3_3,add2_0,kd_4,gd_load]
theorem d_move {r:Nat} {o:Op} {v:V} (h:rd rs o=some v):cf TB FT (n + 2) 694 [vRun Q.length t,(Ins.move r o).toV] (wk Q rs)=some (v,wk Q rs):=by
  have h1:∀ n,cf TB FT (n + 1) 689 [vRun Q.length t,o.toV] (wk Q rs)=some (v,wk Q rs):=fun n=>m_read o h
  generalize vRun Q.length t=R at *
  rw [cf_694]
  simp only [EV,Ins.toV,F694,g_t0,g_t1,g_t2,g_t3,g_t4,g_t5,h1,cut3_3,add2_0,kd_4,gd_move]
theorem d_conv {r:Nat} {o:Op} {v:V} (h:rd rs o=some v):cf TB FT (n + 2) 694 [vRun Q.length t,(Ins.conv r o).toV] (wk Q rs)=some (vConv v,wk Q rs):=by
  have h1:∀ n,cf TB FT (n + 1) 689 [vRun Q.length t,o.toV] (wk Q rs)=some (v,wk Q rs):=fun n=>m_read o h
  generalize vRun Q.length t=R at *
  rw [cf_694]
  simp only [EV,Ins.toV,F694,g_t0,g_t1,g_t2,g_t3,g_t4,g_t5,h1,cut3_5,add2_2,kd_4,gd_conv]
theorem d_face {r:Nat} {o:Op} {v:V} (h:rd rs o=some v):cf TB FT (n + 2) 694 [vRun Q.length t,(Ins.face r o).toV] (wk Q rs)=some (vFace v,wk Q rs):=by
  have h1:∀ n,cf TB FT (n + 1) 689 [vRun Q.length t,o.toV] (wk Q rs)=some (v,wk Q rs):=fun n=>m_read o h
  generalize vRun Q.length t=R at *
  rw [cf_694]
  simp only [EV,Ins.toV,F694,g_t0,g_t1,g_t2,g_t3,g_t4,g_t5,h1,cut3_4,add2_1,kd_4,gd_face]
theorem d_unary {r:Nat} {o:Op} {b:Bool} (h:rd rs o=some (.bool b)):cf TB FT (n + 2) 694 [vRun Q.length t,(Ins.unary r o).toV] (wk Q rs)=some (.bool (!b),wk Q rs):=by
  have h1:∀ n,cf TB FT (n + 1) 689 [vRun Q.length t,o.toV] (wk Q rs)=some (.bool b,wk Q rs):=fun n=>m_read o h
  generalize vRun Q.length t=R at *
  rw [cf_694]
  simp only [EV,Ins.toV,F694,g_t0,g_t1,g_t2,g_t3,g_t4,g_t5,h1]
theorem d_asrt {r:Nat} {q:Option Nat} {o:Op} {v:V} (h:rd rs o=some v):cf TB FT (n + 2) 694 [vRun Q.length t,(Ins.asrt r q o).toV] (wk Q rs)=some (vAsrt v,wk Q rs):=by
  have h1:∀ n,cf TB FT (n + 1) 689 [vRun Q.length t,o.toV] (wk Q rs)=some (v,wk Q rs):=fun n=>m_read o h
  generalize vRun Q.length t=R at *
  rw [cf_694]
  simp only [EV,Ins.toV,F694,g_t0,g_t1,g_t2,g_t3,g_t4,g_t5,h1]
theorem d_binary {r:Nat} {p:Bool} {a b:Op} {v w:V} (ha:rd rs a=some v) (hb:rd rs b=some w):cf TB FT (n + 2) 694 [vRun Q.length t,(Ins.binary r p a b).toV] (wk Q rs)=some (vBin p v w,wk Q rs):=by
  have h1:∀ n,cf TB FT (n + 1) 689 [vRun Q.length t,a.toV] (wk Q rs)=some (v,wk Q rs):=fun n=>m_read a ha
  have h2:∀ n,cf TB FT (n + 1) 689 [vRun Q.length t,b.toV] (wk Q rs)=some (w,wk Q rs):=fun n=>m_read b hb
  generalize vRun Q.length t=R at *
  rw [cf_694]
  induction p using Bool.casesOn <;>
  simp only [EV,Ins.toV,opS,F694,g_t0,g_t1,g_t2,g_t3,g_t4,g_t5,h1,h2,bs_T2] <;> rfl
theorem d_elem {r:Nat} {o:Op} {k i:Int} {x:V} {l:List V} (h:rd rs o=some (.tup (x :: .int i :: l))):cf TB FT (n + 2) 694 [vRun Q.length t,(Ins.elem r o k).toV] (wk Q rs)=some (vSpot i k,wk Q rs):=by
  have h1:∀ n,cf TB FT (n + 1) 689 [vRun Q.length t,o.toV] (wk Q rs)=some (_,wk Q rs):=fun n=>m_read o h
  generalize vRun Q.length t=R at *
  rw [cf_694]
  simp only [EV,Ins.toV,F694,g_t0,g_t1,g_t2,g_t3,g_t4,g_t5,h1]
theorem d_cut {r:Nat} {w:Op} {lo hi mx:Option Op} {ty v x a b c:V} (hw:rd rs w=some v) (hx:shown rs v=some x) (ha:rdO rs lo=some a) (hb:rdO rs hi=some b) (hc:rdO rs mx=some c) :
    cf TB FT (n + 2) 694 [vRun Q.length t,(Ins.cut r w lo hi mx ty).toV] (wk Q rs)=some (vCut x a b c ty,wk Q rs):=by
  have h1:∀ n,cf TB FT (n + 1) 689 [vRun Q.length t,w.toV] (wk Q rs)=some (v,wk Q rs):=fun n=>m_read w hw
  have h2:∀ n,cf TB FT (n + 1) 701 [vRun Q.length t,v] (wk Q rs)=some (x,wk Q rs):=fun n=>m_shown hx
  have h3:∀ n,cf TB FT (n + 1) 689 [vRun Q.length t,opO lo] (wk Q rs)=some (a,wk Q rs):=fun n=>m_readO lo ha
  have h4:∀ n,cf TB FT (n + 1) 689 [vRun Q.length t,opO hi] (wk Q rs)=some (b,wk Q rs):=fun n=>m_readO hi hb
  have h5:∀ n,cf TB FT (n + 1) 689 [vRun Q.length t,opO mx] (wk Q rs)=some (c,wk Q rs):=fun n=>m_readO mx hc
  generalize vRun Q.length t=R at *
  rw [cf_694]
  simp only [EV,Ins.toV,F694,g_t0,g_t1,g_t2,g_t3,g_t4,g_t5,g_t6,h1,h2,h3,h4,h5,cut36,ic_t3,b_tup3]
theorem d_mark {r:Nat} {k:Int} {ty:V} (hq:Q[t]? = some (.list ts)) (hr:ts[r]? = some ty) (hts:ts.length≤1000000) (hp:plain ty=true) (hm:rs.marks.length < 1000):cf TB FT (n + 2) 694 [vRun Q.length t,(Ins.mark r k).toV] (wk Q rs)=some (mkV ty k,wk Q { rs with marks:=rs.marks++[k] }):=by
  have h1:∀ n,cf TB FT (n + 1) 677 [.loc (Q.length + 1),.int k,ty] (wk Q rs)=some (mkV ty k,wk Q { rs with marks:=rs.marks++[k] }):=fun n=>m_called hp hm
  have h2:getItem (.loc t) (.int (r:Nat)) (wk Q rs)=some (ty,wk Q rs):=gi_list (wkQ hq) hr (by have:=getE hr; exact Nat.le_trans (Nat.le_of_lt this) hts)
  have h3:getItem (vRun Q.length t) (.str 0x6d61726b73) (wk Q rs)=some (.loc (Q.length + 1),wk Q rs):=rfl
  have h4:getItem (vRun Q.length t) (.str 0x7479706573) (wk Q rs)=some (.loc t,wk Q rs):=rfl
  generalize vRun Q.length t=R at *
  rw [cf_694]
  simp only [EV,Ins.toV,F694,g_t0,g_t1,g_t2,g_t3,g_t4,g_t5,h1,h2,h3,h4]
theorem rl_len {q m:Nat}:(rlocs q m).length=m:=by simp [rlocs]
theorem d_mksl {r s:Nat} (hm:rs.rows.length < 1000):cf TB FT (n + 2) 694 [vRun Q.length t,(Ins.mksl r s).toV] (wk Q rs)=some (vMade (rs.rows.length:Nat),wk Q { rs with rows:=rs.rows++[[.none,.none]] }):=by
  have h3:∀ σ,getItem (vRun Q.length t) (.str 0x726f7773) σ=some (.loc (Q.length + 2),σ):=fun _=>rfl
  have h5:(wk Q rs++[O.list [.none,.none]])[Q.length + 2]? = some (.list (rlocs Q.length rs.rows.length)):=get_app wk2
  have h6:methS (Q.length + 2) 0x617070656e64 [.loc (wk Q rs).length] (wk Q rs++[O.list [.none,.none]])=some (.none,wk Q { rs with rows:=rs.rows++[[.none,.none]] }):=by
    rw [ms_app h5 (sz (by rw [rl_len]; (refine le1 hm ?_;simp +arith only))),wk_new]
  have h7:=bl_len_loc (wk2 (Q:=Q) (rs:={ rs with rows:=rs.rows++[[.none,.none]] })) (sz (by rw [rl_len,length_app1]; (refine le1 hm ?_;simp +arith only)))
  rw [rl_len] at h7
  simp only [length_app1] at h7
  generalize vRun Q.length t=R at *
  rw [cf_694]
  simp only [EV,Ins.toV,F694,g_t0,g_t1,g_t2,g_t3,g_t4,g_t5,h3,mul2,mo_app wk2,h6,h7,o_sub,sub1]
end
end Internal.Pl
namespace Internal.Pl
open PySem
section
variable {n:Nat} {Q:S} {t:Nat} {rs rs':RS} {ts:List V}
noncomputable def Kp (m m':M):Prop:=∀ x,x≠0x726f77→x≠0x76616c7565→x≠0x73706f74→look m' x=look m x
theorem Kp.put {m m':M} {y:Nat} {v:V} (h:Kp m m') (hy:y=0x726f77 ∨ y=0x76616c7565 ∨ y=0x73706f74):Kp m (Internal.put m' y v):=fun x h1 h2 h3=>by
  have:(y == x)=false:=by
    refine beq_false_of_ne ?_
    rcases hy with rfl | rfl | rfl
    · exact Ne.symm h1
    · exact Ne.symm h2
    · exact Ne.symm h3
  rw [look_put,this]; exact h x h1 h2 h3
theorem Kp.refl {m:M}:Kp m m:=fun _ _ _ _=>rfl
theorem Kp.trans {m m' m'':M} (h:Kp m m') (h':Kp m' m''):Kp m m'':=fun x h1 h2 h3=>(h' x h1 h2 h3).trans (h x h1 h2 h3)
theorem q_isnot_none {σ:S}:cmpop .IsNot .none .none σ=some false:=rfl
theorem q_isnot_int {i:Int} {σ:S}:cmpop .IsNot (.int i) .none σ=some true:=rfl
theorem b_plain {m:M} {r:Nat} {v:V} {k:Nat} {l:List V} {rs1:RS} (hk:(k == 0x73746f7265)=false) (hk2:(k == 0x63616c6c)=false) (hk3:(k == 0x617373657274)=false)
    (hm:look m 0x72756e=some (vRun Q.length t)) (hr:look m 0x726f77=some (.tup (.str k :: .int (r:Nat) :: l)))
    (hd:cf TB FT (n + 2) 694 [vRun Q.length t,.tup (.str k :: .int (r:Nat) :: l)] (wk Q rs)=some (v,wk Q rs1))
    (hc:setItem (.loc Q.length) (.int (r:Nat)) v (wk Q rs1)=some (wk Q rs')) :
    exs TB (cf TB FT (n + 2)) B706_i m (wk Q rs)=some (none,put m 0x76616c7565 v,wk Q rs'):=by
  have h3:∀ σ,getItem (vRun Q.length t) (.str 0x63656c6c73) σ=some (.loc Q.length,σ):=fun _=>rfl
  generalize vRun Q.length t=R at *
  simp only [EV,B706_i,look_put,hm,hr,g_t0,g_t1,hk,hk2,hk3,hd,h3,hc]
theorem b_mark {m:M} {r:Nat} {v:V} {l:List V} {rs1:RS}
    (hm:look m 0x72756e=some (vRun Q.length t)) (hr:look m 0x726f77=some (.tup (.str 0x63616c6c :: .tup [.int (r:Nat)] :: l)))
    (hd:cf TB FT (n + 2) 694 [vRun Q.length t,.tup (.str 0x63616c6c :: .tup [.int (r:Nat)] :: l)] (wk Q rs)=some (v,wk Q rs1))
    (hc:setItem (.loc Q.length) (.int (r:Nat)) v (wk Q rs1)=some (wk Q rs')) :
    exs TB (cf TB FT (n + 2)) B706_i m (wk Q rs)=some (none,put m 0x76616c7565 v,wk Q rs'):=by
  have h3:∀ σ,getItem (vRun Q.length t) (.str 0x63656c6c73) σ=some (.loc Q.length,σ):=fun _=>rfl
  generalize vRun Q.length t=R at *
  simp only [EV,B706_i,look_put,hm,hr,g_t0,g_t1,hd,h3,hc]
theorem b_asrt0 {m:M} {r:Nat} {v:V} {l:List V}
    (hm:look m 0x72756e=some (vRun Q.length t)) (hr:look m 0x726f77=some (.tup (.str 0x617373657274 :: .int (r:Nat) :: .none :: l)))
    (hd:cf TB FT (n + 2) 694 [vRun Q.length t,.tup (.str 0x617373657274 :: .int (r:Nat) :: .none :: l)] (wk Q rs)=some (v,wk Q rs))
    (hc:setItem (.loc Q.length) (.int (r:Nat)) v (wk Q rs)=some (wk Q rs')) :
    exs TB (cf TB FT (n + 2)) B706_i m (wk Q rs)=some (none,put m 0x76616c7565 v,wk Q rs'):=by
  have h3:∀ σ,getItem (vRun Q.length t) (.str 0x63656c6c73) σ=some (.loc Q.length,σ):=fun _=>rfl
  generalize vRun Q.length t=R at *
  simp only [EV,B706_i,look_put,hm,hr,g_t0,g_t1,g_t2,hd,h3,hc,q_isnot_none]
theorem b_asrt1 {m:M} {r q:Nat} {v:V} {l:List V} {rs1:RS}
    (hm:look m 0x72756e=some (vRun Q.length t)) (hr:look m 0x726f77=some (.tup (.str 0x617373657274 :: .int (r:Nat) :: .int (q:Nat) :: l)))
    (hd:cf TB FT (n + 2) 694 [vRun Q.length t,.tup (.str 0x617373657274 :: .int (r:Nat) :: .int (q:Nat) :: l)] (wk Q rs)=some (v,wk Q rs))
    (hc:setItem (.loc Q.length) (.int (r:Nat)) v (wk Q rs)=some (wk Q rs1)) (hc2:setItem (.loc Q.length) (.int (q:Nat)) (vTruth v) (wk Q rs1)=some (wk Q rs')) :
    exs TB (cf TB FT (n + 2)) B706_i m (wk Q rs)=some (none,put m 0x76616c7565 v,wk Q rs'):=by
  have h3:∀ σ,getItem (vRun Q.length t) (.str 0x63656c6c73) σ=some (.loc Q.length,σ):=fun _=>rfl
  generalize vRun Q.length t=R at *
  simp only [EV,B706_i,look_put,hm,hr,g_t0,g_t1,g_t2,hd,h3,hc,q_isnot_int,hc2]
theorem si_row {σ:S} {l:Nat} {vs:List V} {j:Int} {v:V} (h:σ[l]? = some (.list vs)) (h0:0≤j) (h1:j < 1000) (h2:j.toNat < vs.length):setItem (.loc l) (.int j) v σ=some (σ.set l (.list (vs.set j.toNat v))):=by
  rw [si_L h]
  simp only [decide_eq_true h0,decide_eq_true h2,small_of (show -(2 ^ 62) < j from Int.lt_of_lt_of_le (by decide) h0) (show j < 2 ^ 62 from Int.lt_trans h1 (by decide)),Bool.and_self,if_true]
set_option tactic.hygienic true in
theorem b_store {m:M} {s o:Op} {w v:V} (hw:rd rs s=some w) (hv:rd rs o=some v) (hs:stS rs v w=some rs')
    (hm:look m 0x72756e=some (vRun Q.length t)) (hr:look m 0x726f77=some (Ins.store s o).toV) :
    exs TB (cf TB FT (n + 1)) B706_i m (wk Q rs)=some (none,put m 0x73706f74 w,wk Q rs')∧rs'.cells=rs.cells:=by
  unfold stS at hs
  split at hs
  · rename_i a i j b
    split at hs
    · rename_i hi
      split at hs
      · rename_i l hl
        split at hs
        · rename_i hj
          rw [Option.some.injEq] at hs; subst hs
          refine ⟨?_,rfl⟩
          have h1:∀ n,cf TB FT (n + 1) 689 [vRun Q.length t,s.toV] (wk Q rs)=some (.tup (a :: .int i :: .int j :: b),wk Q rs):=fun n=>m_read s hw
          have h2:∀ n,cf TB FT (n + 1) 689 [vRun Q.length t,o.toV] (wk Q rs)=some (v,wk Q rs):=fun n=>m_read o hv
          have h3:∀ σ,getItem (vRun Q.length t) (.str 0x726f7773) σ=some (.loc (Q.length + 2),σ):=fun _=>rfl
          have h4:=gi_rl (wk2 (Q:=Q)) hi.1 hi.2.1 (getE hl)
          have h5:setItem (.loc (Q.length + 3 + i.toNat)) (.int j) v (wk Q rs)=some (wk Q { rs with rows:=rs.rows.set i.toNat (l.set j.toNat v) }):=by
            rw [si_row (wk3 hl) hi.2.2.1 hi.2.2.2 hj,wk_row]
          generalize vRun Q.length t=R at *
          simp only [Ins.toV] at hr
          simp only [EV,B706_i,look_put,hm,hr,g_t0,g_t1,g_t2,h1,h2,h3,h4,h5]
        · exact nn hs
      · exact nn hs
    · exact nn hs
  · exact nn hs
set_option maxHeartbeats 4000000 in
theorem m_row (i:Ins) {m:M} (hq:Q[t]? = some (.list ts)) (hts:ts.length≤1000000) (hk:Ck ts.length rs.cells) (h:stepI ts rs i=some rs')
    (hm:look m 0x72756e=some (vRun Q.length t)) (hr:look m 0x726f77=some i.toV) :
    ∃ m',exs TB (cf TB FT (n + 2)) B706_i m (wk Q rs)=some (none,m',wk Q rs')∧Kp m m'∧Ck ts.length rs'.cells:=by
  cases i with
  | mark r k =>
    simp only [stepI] at h
    cases ht:ts[r]? with
    | none=>rw [ht] at h; exact nn h
    | some ty =>
      rw [ht] at h; simp only [stM] at h
      split at h
      · rename_i hp
        exact ⟨_,b_mark hm hr (d_mark hq ht hts hp.1 hp.2) (m_cell (rs:={ rs with marks:=rs.marks++[k] }) hk hts h),Kp.refl.put (.inr (.inl rfl)),ck_put (rs:={ rs with marks:=rs.marks++[k] }) hk h⟩
      · exact nn h
  | load r o =>
    refine bse h fun v hv h=>?_
    exact ⟨_,b_plain (k:=0x6c6f6164) rfl rfl rfl hm hr (d_load hv) (m_cell hk hts h),Kp.refl.put (.inr (.inl rfl)),ck_put hk h⟩
  | move r o =>
    refine bse h fun v hv h=>?_
    exact ⟨_,b_plain (k:=0x6d6f7665) rfl rfl rfl hm hr (d_move hv) (m_cell hk hts h),Kp.refl.put (.inr (.inl rfl)),ck_put hk h⟩
  | conv r o =>
    refine bse h fun v hv h=>?_
    exact ⟨_,b_plain (k:=0x636f6e76657274) rfl rfl rfl hm hr (d_conv hv) (m_cell hk hts h),Kp.refl.put (.inr (.inl rfl)),ck_put hk h⟩
  | face r o =>
    refine bse h fun v hv h=>?_
    exact ⟨_,b_plain (k:=0x66616365) rfl rfl rfl hm hr (d_face hv) (m_cell hk hts h),Kp.refl.put (.inr (.inl rfl)),ck_put hk h⟩
  | unary r o =>
    refine bse h fun v hv h=>?_
    unfold stU at h
    split at h
    · exact ⟨_,b_plain (k:=0x756e617279) rfl rfl rfl hm hr (d_unary hv) (m_cell hk hts h),Kp.refl.put (.inr (.inl rfl)),ck_put hk h⟩
    · exact nn h
  | binary r p a b =>
    refine bse h fun v hv h=>?_
    refine bse h fun w hw h=>?_
    exact ⟨_,b_plain (k:=0x62696e617279) rfl rfl rfl hm hr (d_binary hv hw) (m_cell hk hts h),Kp.refl.put (.inr (.inl rfl)),ck_put hk h⟩
  | asrt r q o =>
    refine bse h fun v hv h=>?_
    unfold stA at h
    refine bse h fun rs1 h1 h=>?_
    induction q using Option.casesOn with
    | none =>
      simp only [Option.some.injEq] at h; subst h
      exact ⟨_,b_asrt0 hm hr (d_asrt (q:=none) hv) (m_cell hk hts h1),Kp.refl.put (.inr (.inl rfl)),ck_put hk h1⟩
    | some q =>
      exact ⟨_,b_asrt1 hm hr (d_asrt (q:=some q) hv) (m_cell hk hts h1) (m_cell (ck_put hk h1) hts h),Kp.refl.put (.inr (.inl rfl)),ck_put (ck_put hk h1) h⟩
  | mksl r s =>
    simp only [stepI] at h
    split at h
    · rename_i hp
      exact ⟨_,b_plain (k:=0x6d616b65736c696365) rfl rfl rfl hm hr (d_mksl hp) (m_cell (rs:={ rs with rows:=rs.rows++[[.none,.none]] }) hk hts h),Kp.refl.put (.inr (.inl rfl)),ck_put (rs:={ rs with rows:=rs.rows++[[.none,.none]] }) hk h⟩
    · exact nn h
  | elem r o k =>
    refine bse h fun v hv h=>?_
    unfold stE at h
    split at h
    · exact ⟨_,b_plain (k:=0x656c656d707472) rfl rfl rfl hm hr (d_elem hv) (m_cell hk hts h),Kp.refl.put (.inr (.inl rfl)),ck_put hk h⟩
    · exact nn h
  | store s o =>
    refine bse h fun w hw h=>?_
    refine bse h fun v hv h=>?_
    refine e0_2 (b_store (n:=n + 1) hw hv h hm hr) fun h1 h2=>?_
    exact ⟨_,h1,Kp.refl.put (.inr (.inr rfl)),by rw [h2]; exact hk⟩
  | cut r w lo hi mx ty =>
    refine bse h fun v hv h=>?_
    refine bse h fun x hx h=>?_
    refine bse h fun a ha h=>?_
    refine bse h fun b hb h=>?_
    refine bse h fun c hc h=>?_
    exact ⟨_,b_plain (k:=0x637574) rfl rfl rfl hm hr (d_cut hv hx ha hb hc) (m_cell hk hts h),Kp.refl.put (.inr (.inl rfl)),ck_put hk h⟩
end
end Internal.Pl
namespace Internal.Pl
open PySem
noncomputable def termW (B:List Blk) (h:Nat) (k:Nat→RS→Option (List Op × RS)) (rs:RS):Option (List Op × RS) :=
  match B[h]? with
  | some (_,some (.ret os))=>some (os,rs)
  | some (_,some (.jump b))=>k b rs
  | some (_,some (.branch o x y))=>(match rd rs o with
    | some (.bool c)=>k (cond c x y) rs
    | _=>none)
  | _=>none
noncomputable def insAt (B:List Blk) (b:Nat):List Ins:=match B[b]? with
  | some blk=>blk.1
  | none=>[]
noncomputable def walkT (ts:List V) (B:List Blk):Nat→Nat→List Ins→RS→Option (List Op × RS)
  | 0,h,is,rs=>(runI ts is rs).bind (termW B h fun _ _=>none)
  | n + 1,h,is,rs=>(runI ts is rs).bind (termW B h fun b rs=>walkT ts B n b (insAt B b) rs)
noncomputable def outs (rs:RS):List Op→Option (List V)
  | []=>some []
  | o :: r=>(rd rs o).bind fun v=>(shown rs v).bind fun x=>(outs rs r).map (x :: ·)
theorem compL_outs {rs:RS} {f:V→S→Rs} {σ:S} (hf:∀ o v x,rd rs o=some v→shown rs v=some x→f o.toV σ=some (x,σ)):∀ os xs,outs rs os=some xs→compL f (os.map Op.toV) σ=some (xs,σ)
  | [],xs,h=>by cases h; rfl
  | o :: r,xs,h=>by
    refine bse h fun v hv h=>?_
    refine bse h fun x hx h=>?_
    refine mse h fun ys hy h=>?_
    subst h
    rw [List.map_cons,cl_cons,hf o v x hv hx]
    simp only [Option.bind_some,k_l1,compL_outs hf r ys hy,Option.map_some,k_l2]
structure CodeAt (Q:S) (c t:Nat) (B:List Blk) (ts:List V):Prop where
  mi:methOk TB (.inst 331 c) 0x696e737472756374696f6e73 Q=some (some 316)
  mt:methOk TB (.inst 331 c) 0x7465726d696e61746f72 Q=some (some 323)
  gb:∃ l,getAttr TB (.inst 331 c) 0x626c6f636b73 Q=some (.loc l,Q)∧Q[l]? = some (.list (B.map nbV))
  gr:getAttr TB (.inst 331 c) 0x726567697374657273 Q=some (.loc t,Q)
  rt:Q[t]? = some (.list ts)
  hB:B.length≤1000000
  ht:ts.length≤1000000
section
variable {n:Nat} {Q:S} {c t:Nat} {rs rs':RS} {ts:List V} {B:List Blk}
theorem gl0 {a b:V} {σ:S}:getItem (.lst [a,b]) (.int 0) σ=some (a,σ):=rfl
theorem gl1 {a b:V} {σ:S}:getItem (.lst [a,b]) (.int 1) σ=some (b,σ):=rfl
theorem m_instr {b:Nat} {k:Blk} (ca:CodeAt Q c t B ts) (hb:B[b]? = some k) {X:S}:cf TB FT (n + 1) 316 [.inst 331 c,.int (b:Nat)] (Q++X)=some (.lst (k.1.map Ins.toV),Q++X):=by
  refine e1_2 ca.gb fun l h1 h2=>?_
  have h3:getItem (.loc l) (.int (b:Nat)) (Q++X)=some (nbV k,Q++X):=gi_app (gi_list h2 (by rw [List.getElem?_map,hb]; rfl) (by have:=getE hb; have:=ca.hB; exact Nat.le_trans (Nat.le_of_lt (by assumption)) this))
  rw [cf_316]
  simp only [EV,F316,ga_app h1,h3,gl0]
theorem m_termn {b:Nat} {k:Blk} (ca:CodeAt Q c t B ts) (hb:B[b]? = some k) {X:S}:cf TB FT (n + 1) 323 [.inst 331 c,.int (b:Nat)] (Q++X)=some (termO k.2,Q++X):=by
  refine e1_2 ca.gb fun l h1 h2=>?_
  have h3:getItem (.loc l) (.int (b:Nat)) (Q++X)=some (nbV k,Q++X):=gi_app (gi_list h2 (by rw [List.getElem?_map,hb]; rfl) (by have:=getE hb; have:=ca.hB; exact Nat.le_trans (Nat.le_of_lt (by assumption)) this))
  rw [cf_323]
  simp only [EV,F323,ga_app h1,h3,gl1]
theorem m_rows (ca:CodeAt Q c t B ts):∀ (is:List Ins) (m:M) (rs:RS),Ck ts.length rs.cells→runI ts is rs=some rs'→look m 0x72756e=some (vRun Q.length t) →
    ∃ m',loopL (kFor TB (cf TB FT (n + 2)) [(0x726f77,55893615)] none B706_i) (is.map Ins.toV) m (wk Q rs)=some (none,m',wk Q rs')∧Kp m m'∧Ck ts.length rs'.cells
  | [],m,rs,hk,h,hm=>by cases h; exact ⟨m,rfl,Kp.refl,hk⟩
  | i :: r,m,rs,hk,h,hm=>by
    refine bse h fun rs1 h1 h=>?_
    have hm2:look (put m 0x726f77 i.toV) 0x72756e=some (vRun Q.length t):=by rw [look_put]; exact hm
    have hr2:look (put m 0x726f77 i.toV) 0x726f77=some i.toV:=by rw [look_put]; rfl
    refine e1_3 (m_row (n:=n) i ca.rt ca.ht hk h1 hm2 hr2) fun m1 e1 k1 c1=>?_
    have hm3:look m1 0x72756e=some (vRun Q.length t):=by rw [k1 _ (by decide) (by decide) (by decide)]; exact hm2
    refine e1_3 (m_rows ca r m1 rs1 c1 h hm3) fun m2 e2 k2 c2=>?_
    refine ⟨m2,?_,(Kp.refl.put (.inl rfl)).trans (k1.trans k2),c2⟩
    rw [List.map_cons,lp_cons,k_for,bn]
    simp only [Option.bind_some,k_bd,e1,k_lp_n,e2]
structure TM (m:M) (Q:S) (c t:Nat) (h:Nat):Prop where
  run:look m 0x72756e=some (vRun Q.length t)
  code:look m 0x636f6465=some (.inst 331 c)
  here:look m 0x68657265=some (.int (h:Nat))
theorem TM.kp {m m':M} {h:Nat} (r:TM m Q c t h) (k:Kp m m'):TM m' Q c t h :=
  ⟨(k _ (by decide) (by decide) (by decide)).trans r.run,(k _ (by decide) (by decide) (by decide)).trans r.code,(k _ (by decide) (by decide) (by decide)).trans r.here⟩
theorem TM.put {m:M} {h x:Nat} {v:V} (r:TM m Q c t h) (h1:(x == 0x72756e)=false) (h2:(x == 0x636f6465)=false) (h3:(x == 0x68657265)=false):TM (Internal.put m x v) Q c t h :=
  ⟨by rw [look_put,h1]; exact r.run,by rw [look_put,h2]; exact r.code,by rw [look_put,h3]; exact r.here⟩
theorem TM.go {m:M} {h g:Nat} (r:TM m Q c t h):TM (Internal.put m 0x68657265 (.int (g:Nat))) Q c t g :=
  ⟨by rw [look_put]; exact r.run,by rw [look_put]; exact r.code,by rw [look_put]; rfl⟩
theorem q_isT {b:Bool} {σ:S}:cmpop .Is (.bool b) (.bool true) σ=some b:=rfl
theorem itC {vs:List V} (h:vs.length≤1000000):itemsC (.tup vs)=some vs:=by
  show (if sizeOk vs.length then some vs else none)=_
  rw [if_pos (sz h)]
theorem m_turn {h:Nat} {k:Blk} {m:M} (ca:CodeAt Q c t B ts) (hb:B[h]? = some k) (r:TM m Q c t h) (hk:Ck ts.length rs.cells) (hr:runI ts k.1 rs=some rs') :
    (∀ g,k.2=some (.jump g)→∃ m',exs TB (cf TB FT (n + 2)) B706_o m (wk Q rs)=some (none,m',wk Q rs')∧TM m' Q c t g) ∧
    (∀ o x y b,k.2=some (.branch o x y)→rd rs' o=some (.bool b)→∃ m',exs TB (cf TB FT (n + 2)) B706_o m (wk Q rs)=some (none,m',wk Q rs')∧TM m' Q c t (cond b x y)) ∧
    (∀ os xs,k.2=some (.ret os)→outs rs' os=some xs→os.length≤1000→∃ m',exs TB (cf TB FT (n + 2)) B706_o m (wk Q rs)=some (some (.tup [.lst xs,.loc (Q.length + 1)]),m',wk Q rs'))∧Ck ts.length rs'.cells:=by
  refine e1_3 (m_rows (n:=n) ca k.1 m rs hk hr r.run) fun m1 e1 k1 c1=>?_
  have r1:=r.kp k1
  have a1:∀ n,cf TB FT (n + 1) 316 [.inst 331 c,.int (h:Nat)] (wk Q rs)=some (.lst (k.1.map Ins.toV),wk Q rs):=fun n=>m_instr ca hb
  have a2:∀ n,cf TB FT (n + 1) 323 [.inst 331 c,.int (h:Nat)] (wk Q rs')=some (termO k.2,wk Q rs'):=fun n=>m_termn ca hb
  have a3:methOk TB (.inst 331 c) 0x696e737472756374696f6e73 (wk Q rs)=some (some 316):=moA ca.mi
  have a4:methOk TB (.inst 331 c) 0x7465726d696e61746f72 (wk Q rs')=some (some 323):=moA ca.mt
  have hh:=r.here
  have hc:=r.code
  have hh1:=r1.here
  have hc1:=r1.code
  have hr1:=r1.run
  have b1:∀ n o v,rd rs' o=some v→cf TB FT (n + 1) 689 [vRun Q.length t,o.toV] (wk Q rs')=some (v,wk Q rs'):=fun n o v h=>m_read o h
  have b2:∀ n v x,shown rs' v=some x→cf TB FT (n + 1) 701 [vRun Q.length t,v] (wk Q rs')=some (x,wk Q rs'):=fun n v x h=>m_shown h
  have b3:∀ σ,getItem (vRun Q.length t) (.str 0x6d61726b73) σ=some (.loc (Q.length + 1),σ):=fun _=>rfl
  have r1p:=fun v=>r1.put (x:=0x656e64) (v:=v) rfl rfl rfl
  generalize hR:vRun Q.length t=R at *
  refine ⟨fun g hg=>?_,fun o x y b hg hb=>?_,fun os xs hg ho hl=>?_,c1⟩
  · refine ⟨_,?_,(r1p (Term.jump g).toV).go (g:=g)⟩
    rw [hg] at a2
    simp only [EV,B706_o,look_put,hh,hc,a3,a1]
    rw [e1]
    simp only [EV,look_put,hh1,hc1,a4,a2,termO,Term.toV,g_t0,g_t1]
  · refine ⟨_,?_,(r1p (Term.branch o x y).toV).go (g:=cond b x y)⟩
    rw [hg] at a2
    have b1':∀ n,cf TB FT (n + 1) 689 [R,o.toV] (wk Q rs')=some (.bool b,wk Q rs'):=fun n=>b1 n o _ hb
    simp only [EV,B706_o,look_put,hh,hc,a3,a1]
    rw [e1]
    induction b using Bool.casesOn <;> simp only [EV,look_put,hh1,hc1,hr1,a4,a2,termO,Term.toV,g_t0,g_t1,g_t2,g_t3,b1',q_isT]
  · rw [hg] at a2
    refine ⟨put m1 0x656e64 (Term.ret os).toV,?_⟩
    simp only [EV,B706_o,look_put,hh,hc,a3,a1]
    rw [e1]
    simp only [EV,look_put,hh1,hc1,hr1,a4,a2,termO,Term.toV,g_t0,g_t1,itC (vs:=os.map Op.toV) (by rw [List.length_map]; (apply le1 (b:=1000);assumption;simp +arith only))]
    rw [compL_outs (rs:=rs') (xs:=xs) (fun o v x hv hx=>by
      have b1':∀ n,cf TB FT (n + 1) 689 [R,o.toV] (wk Q rs')=some (v,wk Q rs'):=fun n=>b1 n o _ hv
      have b2':∀ n,cf TB FT (n + 1) 701 [R,v] (wk Q rs')=some (x,wk Q rs'):=fun n=>b2 n v _ hx
      simp only [EV,look_put,hr1,b1',b2']) os ho]
    simp only [EV,look_put,hr1,b3]
set_option tactic.hygienic true in
theorem m_turns (ca:CodeAt Q c t B ts) {os:List Op} {xs:List V} (hl:os.length≤1000) (ho:outs rs' os=some xs):∀ (k h:Nat) (m:M) (rs:RS) (vs:List V),k < vs.length→TM m Q c t h→Ck ts.length rs.cells→walkT ts B k h (insAt B h) rs=some (os,rs') →
    ∃ m',loopL (kFor TB (cf TB FT (n + 2)) [(0x7475726e,55802412)] none B706_o) vs m (wk Q rs)=some (some (.tup [.lst xs,.loc (Q.length + 1)]),m',wk Q rs'):=by
  have main:∀ (k h:Nat) (m:M) (rs:RS) (v:V) (vs:List V) (kk:Nat→RS→Option (List Op × RS)),TM m Q c t h→Ck ts.length rs.cells→(runI ts (insAt B h) rs).bind (termW B h kk)=some (os,rs') →
      (∀ g rs1 m1,TM m1 Q c t g→Ck ts.length rs1.cells→kk g rs1=some (os,rs')→∃ m',loopL (kFor TB (cf TB FT (n + 2)) [(0x7475726e,55802412)] none B706_o) vs m1 (wk Q rs1)=some (some (.tup [.lst xs,.loc (Q.length + 1)]),m',wk Q rs')) →
      ∃ m',loopL (kFor TB (cf TB FT (n + 2)) [(0x7475726e,55802412)] none B706_o) (v :: vs) m (wk Q rs)=some (some (.tup [.lst xs,.loc (Q.length + 1)]),m',wk Q rs'):=by
    intro k h m rs v vs kk r hk hw hn
    refine bse hw fun rs1 h1 h2=>?_
    unfold termW at h2
    cases hb:B[h]? with
    | none=>rw [hb] at h2; exact nn h2
    | some blk =>
      have hi:insAt B h=blk.1:=by unfold insAt; rw [hb]
      rw [hi] at h1
      refine e0_4 (m_turn (n:=n) ca hb (r.put (x:=0x7475726e) (v:=v) rfl rfl rfl) hk h1) fun t1 t2 t3 c1=>?_
      rw [hb] at h2
      obtain ⟨is,tm⟩:=blk
      induction tm using Option.casesOn with
      | none=>exact nn h2
      | some tm =>
        cases tm with
        | jump g =>
          refine e1_2 (t1 g rfl) fun m1 e1 r1=>?_
          refine e1_1 (hn g rs1 m1 r1 c1 h2) fun m2 e2=>?_
          refine ⟨m2,?_⟩
          rw [lp_cons,k_for,bn]
          simp only [Option.bind_some,k_bd,e1,k_lp_n,e2]
        | branch o x y =>
          simp only at h2
          split at h2
          · rename_i b hb
            refine e1_2 (t2 o x y b rfl hb) fun m1 e1 r1=>?_
            refine e1_1 (hn _ rs1 m1 r1 c1 h2) fun m2 e2=>?_
            refine ⟨m2,?_⟩
            rw [lp_cons,k_for,bn]
            simp only [Option.bind_some,k_bd,e1,k_lp_n,e2]
          · exact nn h2
        | ret os' =>
          simp only [Option.some.injEq,Prod.mk.injEq] at h2
          refine e0_2 h2 ?_;clear h2;rintro rfl rfl
          refine e1_1 (t3 os' xs rfl ho hl) fun m1 e1=>?_
          refine ⟨m1,?_⟩
          rw [lp_cons,k_for,bn]
          simp only [Option.bind_some,k_bd,e1,k_lp_s]
  intro k
  induction k with
  | zero =>
    intro h m rs vs hv r hk hw
    induction vs using List.casesOn with
    | nil=>simp at hv
    | cons v vs=>exact main 0 h m rs v vs _ r hk hw fun g rs1 m1 _ _ hg=>by exact nn hg
  | succ k ih =>
    intro h m rs vs hv r hk hw
    induction vs using List.casesOn with
    | nil=>simp at hv
    | cons v vs=>exact main k h m rs v vs _ r hk hw fun g rs1 m1 r1 c1 hg=>ih g m1 rs1 vs (by simp at hv; assumption) r1 c1 hg
end
end Internal.Pl
namespace Internal.Pl
open PySem
noncomputable def rs0:RS:=⟨[(0,vHeld 0),(1,vHeld 1),(2,vHeld 2)],[],[]⟩
theorem ck0 {N:Nat} (h:3≤N):Ck N rs0.cells :=
  ⟨by decide,fun q hq=>by
    simp only [rs0,List.mem_cons,List.not_mem_nil,or_false] at hq
    rcases hq with rfl | rfl | rfl
    · exact ⟨0,by (apply le1;assumption;simp +arith only),rfl⟩
    · exact ⟨1,by (apply le1;assumption;simp +arith only),rfl⟩
    · exact ⟨2,by (apply le1;assumption;simp +arith only),rfl⟩⟩
theorem kd_i3 {σ:S} {a b c:Int} {p q r:Nat} {v w u:V}:kDct false [.num a p,.num b q,.num c r] ([v,w,u],σ)=some (.loc σ.length,σ++[.dict [(a,v),(b,w),(c,u)]]):=rfl
theorem kd_s4 {σ:S} {a b c d:Nat} {p q r s:Nat} {v w u x:V}:kDct true [.st a p,.st b q,.st c r,.st d s] ([v,w,u,x],σ)=some (.dct [a,b,c,d] [v,w,u,x],σ):=rfl
theorem b_range {σ:S}:builtin .range [.int 90] σ=some (.rng 90,σ):=rfl
theorem it_rng:∃ vs:List V,items (.rng 90)=some vs∧vs.length=90:=⟨_,rfl,by simp⟩
theorem m_walked {n:Nat} {Q:S} {c t:Nat} {rs':RS} {ts:List V} {B:List Blk} {s:V} (ca:CodeAt Q c t B ts) {os:List Op} {xs:List V} (hl:os.length≤1000) (h3:3≤ts.length) (ho:outs rs' os=some xs) (hw:walkT ts B 89 0 (insAt B 0) rs0=some (os,rs')) :
    cf TB FT (n + 3) 706 [s,.inst 331 c] Q=some (.tup [.lst xs,.loc (Q.length + 1)],wk Q rs'):=by
  refine e1_2 it_rng ?_;intro vs hv hvl
  have e0:Q++[.dict [(0,vHeld 0),(1,vHeld 1),(2,vHeld 2)],.list [],.list []] = wk Q rs0:=rfl
  refine e1_1 (m_turns (n:=n) ca hl ho 89 0 [(0x7374617465,s),(0x636f6465,.inst 331 c),(0x72756e,vRun Q.length t),(0x68657265,.int (0:Nat))] rs0 vs (by lia) ⟨rfl,rfl,rfl⟩ (ck0 h3) hw) fun m' e=>?_
  have z:((0:Nat):Int)=0:=rfl
  rw [z] at e
  rw [cf_706,F706_eq]
  simp only [EV,kd_i3,app_app,List.cons_append,List.nil_append,len1,len2,ga_app ca.gr,kd_s4]
  unfold asgn
  simp only [EV,Option.isNone_none,if_true,b_range,hv,kIt2]
  rw [e0,e]
  simp only [EV,if_true]
theorem codeAt_fin {P P1 X:S} {cs:CS} {k N:Nat} {F:List Nat} (o:Ok k cs) (hp:Pe P P1) :
    CodeAt (sx P1 X cs++fX (sx P X cs).length N F cs) ((sx P X cs).length + 5) ((sx P X cs).length + 6) cs.blks cs.regs:=by
  have hq:(sx P X cs).length=(sx P1 X cs).length:=by rw [sx_len,sx_len,hp.len]
  rw [hq]
  have e4:(sx P1 X cs++fX (sx P1 X cs).length N F cs)[(sx P1 X cs).length + 4]? = some (.list (cs.blks.map nbV)):=pre_get
  have e5:(sx P1 X cs++fX (sx P1 X cs).length N F cs)[(sx P1 X cs).length + 5]? = some (.obj (cK7 (.str 0x6d61696e2e66) (.int 0) ((sx P1 X cs).length + 6) (.loc ((sx P1 X cs).length + 4)) (.int 0) (.int 0) .none)):=pre_get
  have e6:(sx P1 X cs++fX (sx P1 X cs).length N F cs)[(sx P1 X cs).length + 6]? = some (.list cs.regs):=pre_get
  exact ⟨mo e5 rfl rfl,mo e5 rfl rfl,⟨_,ga e5 rfl rfl,e4⟩,ga e5 rfl rfl,e6,Nat.le_trans o.b o.s,Nat.le_trans o.r o.s⟩
end Internal.Pl
namespace Internal.Pl
open PySem
noncomputable def Num.mv:Num→V
  | .mark k=>vMk k
  | .glob=>vLoad (vTold vGlob)
  | .zero=>vTold (.int 0)
  | .conv k=>vConv (vMk k)
  | .bin p a b=>vBin p a.mv b.mv
  | .deref=>vLoad (vHeld 1)
  | .asrt a=>vAsrt (vFace a.mv)
noncomputable def Num.mk:Num→List Int
  | .mark k=>[k]
  | .conv k=>[k]
  | .bin p a b=>a.mk++b.mk
  | .asrt a=>a.mk
  | _=>[]
noncomputable def mvO:Option Num→V
  | none=>.none
  | some a=>a.mv
noncomputable def mkO:Option Num→List Int
  | none=>[]
  | some a=>a.mk
noncomputable def Row.mv:Row→V
  | .held=>vHeld 0
  | .nil=>vTold .none
  | .row a b=>vRow [a.mv,b.mv]
  | .cut none lo hi mx=>vCut (vHeld 2) (mvO lo) (mvO hi) (mvO mx) tArr
  | .cut (some w) lo hi mx=>vCut w.mv (mvO lo) (mvO hi) (mvO mx) tSlice
noncomputable def Row.mk:Row→List Int
  | .row a b=>a.mk++b.mk
  | .cut none lo hi mx=>mkO lo++(mkO hi++mkO mx)
  | .cut (some w) lo hi mx=>w.mk++(mkO lo++(mkO hi++mkO mx))
  | _=>[]
noncomputable def evenB (k:Int):Bool:=Int.fmod k 2 == 0
noncomputable def Tru.mv:Tru→Bool
  | .mark k=>evenB k
  | .const b=>b
  | .not a=>!a.mv
  | .lazy c a b=>bif a.mv == c then b.mv else a.mv
noncomputable def Tru.mk:Tru→List Int
  | .mark k=>[k]
  | .const _=>[]
  | .not a=>a.mk
  | .lazy c a b=>a.mk++(bif a.mv == c then b.mk else [])
noncomputable def Md (e:V) (K:Nat) (v:V) (mk:List Int):Prop:=∀ (n:Nat) (σ:S) (l:Nat) (ms:List Int),K≤n→σ[l]? = some (.list (ms.map .int))→ms.length + mk.length≤1000 →
  cf TB FT n 682 [.loc l,e] σ=some (v,σ.set l (.list ((ms++mk).map .int)))
theorem set_same {σ:S} {l:Nat} {o:O} (h:σ[l]? = some o):σ.set l o=σ:=by
  have hl:l < σ.length:=getE h
  have:σ[l] = o:=by rw [List.getElem?_eq_getElem hl] at h; simpa using h
  rw [← this,List.set_getElem_self]
theorem Md.mono {e:V} {K L:Nat} {v:V} {mk:List Int} (h:Md e K v mk) (hl:K≤L):Md e L v mk:=fun n σ l ms hn=>h n σ l ms (by with_reducible exact Nat.le_trans (by assumption) (by assumption))
theorem m_calledG {n:Nat} {σ:S} {l:Nat} {ms:List Int} {k:Int} {ty:V} (h:σ[l]? = some (.list (ms.map .int))) (hp:plain ty=true) (hm:ms.length≤1000):cf TB FT (n + 1) 677 [.loc l,.int k,ty] σ=some (mkV ty k,σ.set l (.list ((ms++[k]).map .int))):=by
  have h1:methS l 0x617070656e64 [.int k] σ=some (.none,σ.set l (.list ((ms++[k]).map .int))):=by
    rw [ms_app h (sz (by rw [List.length_map]; (apply le1 (b:=1000);assumption;simp +arith only)))]
    have:ms.map V.int++[V.int k] = (ms++[k]).map V.int:=by simp
    rw [this]
  rw [cf_677]
  cases hb:veq ty tBool <;> simp only [EV,mkV,F677,mo_app h,h1,q_eqB hp,hb,o_mod (b:=2) (by decide) (by decide)]
theorem md_mark (t:V) (k:Int) (hp:plain t=true):Md (vMark t k) 2 (mkV t k) [k]:=by
  intro n σ l ms hn h hm
  obtain ⟨n,rfl⟩:∃ m,n=m + 2:=⟨n - 2,by exact (Nat.sub_add_cancel (by assumption)).symm⟩
  have h1:=m_calledG (n:=n) (k:=k) h hp (by simp at hm; with_reducible exact Nat.le_succ_of_le (by assumption))
  rw [cf_682]
  simp only [EV,F682,g_t0,g_t1,g_t3,g_t4,h1]
theorem md_set {σ:S} {l:Nat} {ms:List Int} (h:σ[l]? = some (.list (ms.map .int))):σ.set l (.list ((ms++[]).map .int))=σ:=by rw [List.append_nil]; exact set_same h
theorem num_ty {a:Num} {σ:S}:getItem a.toV (.int 1) σ=some (tInt,σ):=by cases a <;> rfl
theorem lle {a b c N:Nat} (h:a + (b + c)≤N):a + b≤N:=Nat.le_trans (Nat.add_le_add_left (Nat.le_add_right ..) a) h
theorem lap {a b:List Int} {k N:Nat} (h:a.length + (b.length + k)≤N):(a++b).length + k≤N:=by rw [List.length_append,Nat.add_assoc]; exact h
theorem lap2 {a b c:List Int} {k N:Nat} (h:a.length + (b.length + (c.length + k))≤N):(a++(b++c)).length + k≤N:=by rw [← List.append_assoc]; exact lap (lap h)
theorem lap3 {a b c d:List Int} {k N:Nat} (h:a.length + (b.length + (c.length + (d.length + k)))≤N):(a++(b++(c++d))).length + k≤N:=by rw [← List.append_assoc]; exact lap2 (lap h)
theorem mxd {a n:Nat} (h:a + 1 + 3≤n + 1):a + 3≤n:=Nat.le_of_succ_le_succ h
theorem mxl {a b c n:Nat} (h:max a b + c≤n):a + c≤n:=Nat.le_trans (Nat.add_le_add_right (Nat.le_max_left ..) c) h
theorem mxr {a b c n:Nat} (h:max a b + c≤n):b + c≤n:=Nat.le_trans (Nat.add_le_add_right (Nat.le_max_right ..) c) h
theorem ge1 {a n:Nat} (h:a + 3≤n):∃ m,n=m + 1:=⟨n - 1,by (refine (Nat.sub_add_cancel (le1 h ?_)).symm;simp +arith only)⟩
theorem ge2 {a n:Nat} (h:a + 3≤n):∃ m,n=m + 2:=⟨n - 2,by (refine (Nat.sub_add_cancel (le1 h ?_)).symm;simp +arith only)⟩
theorem num_m:∀ a:Num,Md a.toV (a.h + 3) a.mv a.mk
  | .mark k=>(md_mark tInt k rfl).mono (by simp +arith only)
  | .glob=>by
    intro n σ l ms hn h hm
    refine e1_1 (ge1 hn) ?_;rintro n rfl
    rw [cf_682,show Num.glob.mk = [] from rfl,md_set h]
    simp only [EV,Num.toV,Num.mv,F682,g_t0,g_t1,g_t3,g_t4]
  | .zero=>by
    intro n σ l ms hn h hm
    refine e1_1 (ge1 hn) ?_;rintro n rfl
    rw [cf_682,show Num.zero.mk = [] from rfl,md_set h]
    simp only [EV,Num.toV,Num.mv,F682,g_t0,g_t1,g_t3,g_t4]
  | .conv k=>by
    intro n σ l ms hn h hm
    refine e1_1 (ge1 hn) ?_;rintro n rfl
    have h1:=md_mark tSmall k rfl n σ l ms (by (apply le1;assumption;simp +arith only)) h hm
    rw [cf_682]
    simp only [EV,Num.toV,Num.mv,Num.mk,F682,g_t0,g_t1,g_t3,g_t4,h1]
    rfl
  | .deref=>by
    intro n σ l ms hn h hm
    refine e1_1 (ge1 hn) ?_;rintro n rfl
    rw [cf_682,show Num.deref.mk = [] from rfl,md_set h]
    simp only [EV,Num.toV,Num.mv,F682,g_t0,g_t1,g_t3,g_t4]
  | .bin p a b=>by
    intro n σ l ms hn h hm
    refine e1_1 (ge1 hn) ?_;rintro n rfl
    have hn:=mxd hn
    simp only [Num.mk,List.length_append] at hm
    have h1:=num_m a n σ l ms (mxl hn) h (lle hm)
    have h2:=num_m b n _ l (ms++a.mk) (mxr hn) (src_set h) (lap hm)
    rw [set_set,List.append_assoc] at h2
    rw [cf_682]
    simp only [EV,Num.toV,Num.mv,Num.mk,F682,g_t0,g_t1,g_t3,g_t4,g_t5,h1,h2,num_ty]
  | .asrt a=>by
    intro n σ l ms hn h hm
    refine e1_1 (ge1 hn) ?_;rintro n rfl
    have h1:=num_m a n σ l ms (Nat.le_of_succ_le_succ hn) h hm
    rw [cf_682]
    simp only [EV,Num.toV,Num.mv,Num.mk,F682,g_t0,g_t1,g_t3,g_t4,g_t5,h1,num_ty]
theorem cut47 {a b c d e f g:V} {σ:S} {p q:Nat}:cutV (.tup [a,b,c,d,e,f,g]) (some (4,p)) (some (7,q)) σ=some (.tup [e,f,g],σ):=rfl
theorem bnd_m (x:Option Num) (n:Nat) (σ:S) (l:Nat) (ms:List Int) (hn:hO x + 3≤n) (h:σ[l]? = some (.list (ms.map .int))) (hm:ms.length + (mkO x).length≤1000) :
    cond x.isNone (some (V.none,σ)) (cf TB FT n 682 [.loc l,numO x] σ)=some (mvO x,σ.set l (.list ((ms++mkO x).map .int))):=by
  induction x using Option.casesOn with
  | none=>simp only [mkO,md_set h]; rfl
  | some a=>exact num_m a n σ l ms hn h hm
theorem row_ty {w:Row} {σ:S}:getItem w.toV (.int 1) σ=some (tSlice,σ):=by
  cases w with
  | cut x=>induction x using Option.casesOn <;> rfl
  | _=>rfl
theorem row_m:∀ a:Row,Md a.toV (a.h + 3) a.mv a.mk
  | .held=>by
    intro n σ l ms hn h hm
    refine e1_1 (ge1 hn) ?_;rintro n rfl
    rw [cf_682,show Row.held.mk = [] from rfl,md_set h]
    simp only [EV,Row.toV,Row.mv,F682,g_t0,g_t1,g_t3,g_t4]
  | .nil=>by
    intro n σ l ms hn h hm
    refine e1_1 (ge1 hn) ?_;rintro n rfl
    rw [cf_682,show Row.nil.mk = [] from rfl,md_set h]
    simp only [EV,Row.toV,Row.mv,F682,g_t0,g_t1,g_t3,g_t4]
  | .row a b=>by
    intro n σ l ms hn h hm
    refine e1_1 (ge1 hn) ?_;rintro n rfl
    have hn:=mxd hn
    simp only [Row.mk,List.length_append] at hm
    have h1:=num_m a n σ l ms (mxl hn) h (lle hm)
    have h2:=num_m b n _ l (ms++a.mk) (mxr hn) (src_set h) (lap hm)
    rw [set_set,List.append_assoc] at h2
    have ht:∀ (x y:V) σ,builtin .tuple [.lst [x,y]] σ=some (.tup [x,y],σ):=fun _ _ _=>rfl
    rw [cf_682]
    simp only [EV,Row.toV,Row.mv,Row.mk,F682,g_t0,g_t1,g_t3,g_t4,g_t5,ic_t2,k_compT2,h1,h2,ht]
  | .cut none lo hi mx=>by
    intro n σ l ms hn h hm
    refine e1_1 (ge2 hn) ?_;rintro n rfl
    have hn:=mxd hn
    simp only [Row.mk,List.length_append] at hm
    have h1:=bnd_m lo (n + 1) σ l ms (mxl hn) h (lle hm)
    have h2:=bnd_m hi (n + 1) _ l (ms++mkO lo) (mxl (mxr hn)) (src_set h) (lle (lap hm))
    rw [set_set,List.append_assoc] at h2
    have h3:=bnd_m mx (n + 1) _ l (ms++(mkO lo++mkO hi)) (mxr (mxr hn)) (src_set h) (lap2 hm)
    rw [set_set,List.append_assoc,List.append_assoc] at h3
    have hw:cf TB FT (n + 1) 682 [.loc l,.tup [.str 0x6c6f63616c,tArr,.int 0,.int 2]] σ=some (vHeld 2,σ):=by
      rw [cf_682]
      simp only [EV,F682,g_t0,g_t1,g_t3,g_t4]
    rw [cf_682]
    simp only [EV,Row.toV,Row.mv,Row.mk,F682,g_t0,g_t1,g_t3,g_t4,g_t5,hw,cut47,ic_t3,k_ite_b,q_isO,h1,h2,h3,b_tup3]
  | .cut (some w) lo hi mx=>by
    intro n σ l ms hn h hm
    refine e1_1 (ge1 hn) ?_;rintro n rfl
    have hn:=mxd hn
    simp only [Row.mk,List.length_append] at hm
    have h0:=row_m w n σ l ms (mxl hn) h (lle hm)
    have h1:=bnd_m lo n _ l (ms++w.mk) (mxl (mxr hn)) (src_set h) (lle (lap hm))
    rw [set_set,List.append_assoc] at h1
    have h2:=bnd_m hi n _ l (ms++(w.mk++mkO lo)) (mxl (mxr (mxr hn))) (src_set h) (lle (lap2 hm))
    rw [set_set,List.append_assoc,List.append_assoc] at h2
    have h3:=bnd_m mx n _ l (ms++(w.mk++(mkO lo++mkO hi))) (mxr (mxr (mxr hn))) (src_set h) (lap3 hm)
    rw [set_set,List.append_assoc,List.append_assoc,List.append_assoc] at h3
    rw [cf_682]
    simp only [EV,Row.toV,Row.mv,Row.mk,F682,g_t0,g_t1,g_t3,g_t4,g_t5,h0,cut47,ic_t3,k_ite_b,q_isO,h1,h2,h3,b_tup3,row_ty]
theorem tru_m:∀ a:Tru,Md a.toV (a.h + 3) (.bool a.mv) a.mk
  | .mark k=>(md_mark tBool k rfl).mono (by simp +arith only)
  | .const b=>by
    intro n σ l ms hn h hm
    refine e1_1 (ge1 hn) ?_;rintro n rfl
    rw [cf_682,show (Tru.const b).mk = [] from rfl,md_set h]
    simp only [EV,Tru.toV,Tru.mv,F682,g_t0,g_t1,g_t3,g_t4]
  | .not a=>by
    intro n σ l ms hn h hm
    refine e1_1 (ge1 hn) ?_;rintro n rfl
    have h1:=tru_m a n σ l ms (mxd hn) h hm
    rw [cf_682]
    simp only [EV,Tru.toV,Tru.mv,Tru.mk,F682,g_t0,g_t1,g_t3,g_t4,g_t5,h1]
  | .lazy c a b=>by
    intro n σ l ms hn h hm
    refine e1_1 (ge1 hn) ?_;rintro n rfl
    have hn:=mxd hn
    have h1:=tru_m a n σ l ms (mxl hn) h (by simp only [Tru.mk,List.length_append] at hm; exact lle hm)
    have hc:(lzS c == 0x2626)=c:=by induction c using Bool.casesOn <;> rfl
    cases hb:a.mv == c with
    | true =>
      simp only [Tru.mk,List.length_append,hb,cond_true] at hm
      have h2:=tru_m b n _ l (ms++a.mk) (mxr hn) (src_set h) (lap hm)
      rw [set_set,List.append_assoc] at h2
      rw [cf_682]
      simp only [EV,Tru.toV,Tru.mv,Tru.mk,F682,g_t0,g_t1,g_t3,g_t4,g_t5,h1,hc,hb,h2]
    | false =>
      rw [cf_682]
      simp only [EV,Tru.toV,Tru.mv,Tru.mk,F682,g_t0,g_t1,g_t3,g_t4,g_t5,h1,hc,hb,List.append_nil]
noncomputable def Top.mv:Top→V
  | .num a=>a.mv
  | .row a=>a.mv
  | .tru a=>.bool a.mv
  | .ask a=>vAsrt (vFace a.mv)
noncomputable def Top.mk:Top→List Int
  | .num a=>a.mk
  | .row a=>a.mk
  | .tru a=>a.mk
  | .ask a=>a.mk
theorem top_m (e:Top):Md e.toV (e.h + 3) e.mv e.mk:=by
  cases e with
  | num a=>exact num_m a
  | row a=>exact row_m a
  | tru a=>exact tru_m a
  | ask a =>
    intro n σ l ms hn h hm
    obtain ⟨n,rfl⟩:∃ m,n=m + 1:=⟨n - 1,by (refine (Nat.sub_add_cancel (le1 hn ?_)).symm;simp +arith only)⟩
    simp only [Top.h] at hn
    simp only [Top.mk] at hm
    have h1:=num_m a n σ l ms (by (apply le1;assumption;simp +arith only)) h (by assumption)
    rw [cf_682]
    simp only [EV,Top.toV,Top.mv,Top.mk,F682,g_t0,g_t1,g_t3,g_t4,g_t5,h1,num_ty]
end Internal.Pl
namespace Internal.Pl
open PySem
theorem cs_set_cur {cs:CS} (h:cs.here < cs.blks.length):cs.blks.set cs.here cs.cur=cs.blks:=by
  have:cs.blks[cs.here] = cs.cur:=by rw [CS.cur,List.getElem?_eq_getElem h]; rfl
  rw [← this,List.set_getElem_self]
theorem cur_at {cs:CS} (h:cs.here < cs.blks.length):cs.blks[cs.here]? = some cs.cur:=by
  rw [CS.cur,List.getElem?_eq_getElem h]; rfl
structure Str (cs cs':CS) (is:List Ins):Prop where
  regs:∃ l,cs'.regs=cs.regs++l
  here:cs'.here=cs.here
  blks:cs'.blks=cs.blks.set cs.here (cs.cur.1++is,cs.cur.2)
theorem Str.len {cs cs':CS} {is:List Ins} (s:Str cs cs' is):cs'.blks.length=cs.blks.length:=by rw [s.blks,List.length_set]
theorem Str.hlt {cs cs':CS} {is:List Ins} (s:Str cs cs' is) (h:cs.here < cs.blks.length):cs'.here < cs'.blks.length:=by rw [s.len,s.here]; exact h
theorem Str.cur {cs cs':CS} {is:List Ins} (s:Str cs cs' is) (h:cs.here < cs.blks.length):cs'.cur=(cs.cur.1++is,cs.cur.2):=by
  rw [CS.cur,s.here,s.blks,List.getElem?_set_self h]; rfl
theorem Str.trans {cs c1 c2:CS} {i1 i2:List Ins} (h:cs.here < cs.blks.length) (s:Str cs c1 i1) (t:Str c1 c2 i2):Str cs c2 (i1++i2):=by
  refine e1_1 s.regs fun l1 e1=>?_
  refine e1_1 t.regs fun l2 e2=>?_
  refine ⟨⟨l1++l2,by rw [e2,e1,List.append_assoc]⟩,t.here.trans s.here,?_⟩
  rw [t.blks,s.cur h,s.here,s.blks,List.set_set,List.append_assoc]
theorem Str.refl {cs:CS} (h:cs.here < cs.blks.length):Str cs cs []:=⟨⟨[],by simp⟩,rfl,by rw [List.append_nil]; exact (cs_set_cur h).symm⟩
theorem Str.reg {cs:CS} {t:V} (h:cs.here < cs.blks.length):Str cs (cs.reg t) []:=⟨⟨[t],rfl⟩,rfl,by rw [List.append_nil]; exact (cs_set_cur h).symm⟩
theorem Str.site {cs:CS} (h:cs.here < cs.blks.length):Str cs cs.site []:=⟨⟨[],by simp [CS.site]⟩,rfl,by rw [List.append_nil]; exact (cs_set_cur h).symm⟩
theorem Str.ins {cs:CS} {i:Ins}:Str cs (cs.ins i) [i]:=⟨⟨[],by simp [CS.ins]⟩,rfl,rfl⟩
theorem Str.frs {cs:CS} {t:V} {j:Nat→Ins}:Str cs (cs.frs t j) [j cs.regs.length]:=⟨⟨[t],rfl⟩,rfl,rfl⟩
structure Grow (cs cs':CS):Prop where
  regs:∃ l,cs'.regs=cs.regs++l
  len:cs.blks.length≤cs'.blks.length
  hlt:cs'.here < cs'.blks.length
  hop:cs'.cur.2=none
  hnew:cs'.here=cs.here ∨ cs.blks.length≤cs'.here
  old:∀ b:Nat,b < cs.blks.length→b≠cs.here→cs'.blks[b]? = cs.blks[b]?
  cur:∃ (is:List Ins) (o:Option Term),cs'.blks[cs.here]? = some (cs.cur.1++is,o)
  cl:∀ b:Nat,(b=cs.here ∨ cs.blks.length≤b)→b < cs'.blks.length→b≠cs'.here→∃ (is:List Ins) (t:Term),cs'.blks[b]? = some (is,some t)∧∀ x ∈ tgt t,x < cs'.blks.length
  pr:∀ b:Nat,cs.blks.length≤b→b < cs'.blks.length→∃ (p:Nat) (is:List Ins) (t:Term),p < b∧cs'.blks[p]? = some (is,some t)∧b ∈ tgt t
theorem Str.grow {cs cs':CS} {is:List Ins} (s:Str cs cs' is) (h:cs.here < cs.blks.length) (ho:cs.cur.2=none):Grow cs cs' where
  regs:=s.regs
  len:=by rw [s.len]; exact Nat.le_refl _
  hlt:=s.hlt h
  hop:=by rw [s.cur h]; exact ho
  hnew:=.inl s.here
  old:=fun b _ hn=>by rw [s.blks,List.getElem?_set_ne (Ne.symm hn)]
  cur:=⟨is,cs.cur.2,by rw [s.blks,List.getElem?_set_self h]⟩
  cl:=fun b hb hl hn=>by
    rw [s.len] at hl; rw [s.here] at hn
    rcases hb with hb | hb
    · exact absurd hb hn
    · lia
  pr:=fun b hb hl=>by rw [s.len] at hl; lia
theorem Grow.trans {cs c1 c2:CS} (h:cs.here < cs.blks.length) (g:Grow cs c1) (k:Grow c1 c2):Grow cs c2 where
  regs:=by
    refine e1_1 g.regs fun l1 e1=>?_
    refine e1_1 k.regs fun l2 e2=>?_
    exact ⟨l1++l2,by rw [e2,e1,List.append_assoc]⟩
  len:=Nat.le_trans g.len k.len
  hlt:=k.hlt
  hop:=k.hop
  hnew:=by
    have:=g.hnew; have:=k.hnew; have:=g.len
    lia
  old:=fun b hb hn=>by
    have h1:=g.hnew; have h2:=g.len
    rw [k.old b (by with_reducible exact Nat.lt_of_lt_of_le (by assumption) (by assumption)) (by lia),g.old b hb hn]
  cur:=by
    refine e2_1 g.cur fun i1 o1 e1=>?_
    by_cases hh:c1.here=cs.here
    · refine e2_1 k.cur fun i2 o2 e2=>?_
      rw [hh] at e2
      have:c1.cur=(cs.cur.1++i1,o1):=by rw [CS.cur,hh,e1]; rfl
      rw [this] at e2
      exact ⟨i1++i2,o2,by rw [e2,List.append_assoc]⟩
    · have h2:=g.len
      exact ⟨i1,o1,by rw [k.old cs.here (by with_reducible exact Nat.lt_of_lt_of_le (by assumption) (by assumption)) (fun e=>hh e.symm),e1]⟩
  cl:=fun b hb hl hn=>by
    by_cases hx:b=c1.here ∨ c1.blks.length≤b
    · exact k.cl b hx hl hn
    · have h1:b < c1.blks.length:=by lia
      have h2:b≠c1.here:=fun e=>hx (.inl e)
      refine e2_2 (g.cl b hb h1 h2) fun is t e ht=>?_
      exact ⟨is,t,by rw [k.old b h1 h2,e],fun x hx=>Nat.lt_of_lt_of_le (ht x hx) k.len⟩
  pr:=fun b hb hl=>by
    by_cases hx:c1.blks.length≤b
    · exact k.pr b hx hl
    · refine e3_3 (g.pr b hb (by exact Nat.lt_of_not_le (by assumption))) fun p is t hp e ht=>?_
      refine ⟨p,is,t,hp,?_,ht⟩
      have h2:p≠c1.here:=fun e2=>by
        have:=cur_at g.hlt
        rw [← e2,e] at this
        have h3:c1.cur.2=some t:=by rw [← Option.some.inj this]
        rw [g.hop] at h3; exact nn h3
      rw [k.old p (getE e) h2,e]
noncomputable def Lk (bs B:List Blk):Prop:=∀ (b:Nat) (k:Blk),bs[b]? = some k→∃ (is:List Ins) (o:Option Term),B[b]? = some (k.1++is,o)∧∀ t,k.2=some t→is = []∧o=some t
theorem Grow.lk {cs cs':CS} {B:List Blk} (g:Grow cs cs') (ho:cs.cur.2=none) (l:Lk cs'.blks B):Lk cs.blks B:=by
  intro b k hb
  by_cases hn:b=cs.here
  · subst hn
    have hc:cs.cur=k:=by rw [CS.cur,hb]; rfl
    subst hc
    refine e2_1 g.cur fun i1 o1 e1=>?_
    refine e2_2 (l _ _ e1) fun i2 o2 e2 _=>?_
    exact ⟨i1++i2,o2,by rw [e2,List.append_assoc],fun t ht=>by rw [ho] at ht; exact nn ht⟩
  · have:=g.old b (getE hb) hn
    exact l b k (by rw [this,hb])
theorem Lk.cls {cs:CS} {B:List Blk} {t:Term} (h:cs.here < cs.blks.length) (ho:cs.cur.2=none) (l:Lk (cs.cls t).blks B):Lk cs.blks B:=by
  intro b k hb
  by_cases hn:b=cs.here
  · subst hn
    have hc:cs.cur=k:=by rw [CS.cur,hb]; rfl
    subst hc
    refine e2_2 (l cs.here (cs.cur.1,some t) (by simp only [CS.cls]; rw [List.getElem?_set_self h])) fun i2 o2 e2 _=>?_
    exact ⟨i2,o2,e2,fun t ht=>by rw [ho] at ht; exact nn ht⟩
  · exact l b k (by simp only [CS.cls]; rw [List.getElem?_set_ne (Ne.symm hn),hb])
noncomputable def Rest (B:List Blk) (cs:CS):List Ins:=(insAt B cs.here).drop cs.cur.1.length
theorem rest_eq {B:List Blk} {cs:CS} {is:List Ins} {o:Option Term} (h:B[cs.here]? = some (cs.cur.1++is,o)):Rest B cs=is:=by
  rw [Rest,insAt,h]; simp
theorem Str.rest {cs cs':CS} {is:List Ins} {B:List Blk} (s:Str cs cs' is) (h:cs.here < cs.blks.length) (l:Lk cs'.blks B):Rest B cs=is++Rest B cs':=by
  refine e2_2 (l cs'.here cs'.cur (cur_at (s.hlt h))) fun i2 o2 e2 _=>?_
  rw [rest_eq e2]
  rw [s.here,s.cur h,List.append_assoc] at e2
  exact rest_eq e2
theorem runI_append {ts:List V}:∀ (i1 i2:List Ins) (rs:RS),runI ts (i1++i2) rs=(runI ts i1 rs).bind (runI ts i2)
  | [],_,_=>rfl
  | i :: r,i2,rs=>by
    show (stepI ts rs i).bind (runI ts (r++i2))=((stepI ts rs i).bind (runI ts r)).bind (runI ts i2)
    cases stepI ts rs i with
    | none=>rfl
    | some rs1=>exact runI_append r i2 rs1
theorem walkT_run {ts:List V} {B:List Blk} {n h:Nat} {i1 i2:List Ins} {rs rs1:RS} (e:runI ts i1 rs=some rs1):walkT ts B n h (i1++i2) rs=walkT ts B n h i2 rs1:=by
  cases n <;> simp only [walkT,runI_append,e,Option.bind_some]
theorem walkT_jump {ts:List V} {B:List Blk} {n h b:Nat} {is:List Ins} {rs:RS} (e:B[h]? = some (is,some (.jump b))):walkT ts B (n + 1) h [] rs=walkT ts B n b (insAt B b) rs:=by
  simp only [walkT,runI,Option.bind_some,termW,e]
theorem walkT_branch {ts:List V} {B:List Blk} {n h x y:Nat} {o:Op} {c:Bool} {is:List Ins} {rs:RS} (e:B[h]? = some (is,some (.branch o x y))) (hc:rd rs o=some (.bool c)):walkT ts B (n + 1) h [] rs=walkT ts B n (cond c x y) (insAt B (cond c x y)) rs:=by
  simp only [walkT,runI,Option.bind_some,termW,e,hc]
theorem walkT_ret {ts:List V} {B:List Blk} {n h:Nat} {os:List Op} {is:List Ins} {rs:RS} (e:B[h]? = some (is,some (.ret os))):walkT ts B n h [] rs=some (os,rs):=by
  cases n <;> simp only [walkT,runI,Option.bind_some,termW,e]
end Internal.Pl
namespace Internal.Pl
open PySem
structure Gd (rs:RS):Prop where
  h0:lookI rs.cells 0=some (vHeld 0)
  h1:lookI rs.cells 1=some (vHeld 1)
  h2:lookI rs.cells 2=some (vHeld 2)
structure Aft (n:Nat) (mk:List Int) (R:Nat) (rs rs':RS):Prop where
  keep:∀ r:Nat,r < n→lookI rs'.cells (r:Int)=lookI rs.cells (r:Int)
  marks:rs'.marks=rs.marks++mk
  rows:∃ l,rs'.rows=rs.rows++l∧l.length≤R
theorem Aft.refl {n:Nat} {rs:RS}:Aft n [] 0 rs rs:=⟨fun _ _=>rfl,by simp,[],by simp⟩
theorem Aft.trans {n n':Nat} {m1 m2:List Int} {R1 R2:Nat} {rs rs1 rs2:RS} (hn:n≤n') (a:Aft n m1 R1 rs rs1) (b:Aft n' m2 R2 rs1 rs2):Aft n (m1++m2) (R1 + R2) rs rs2:=by
  refine e1_2 a.rows fun l1 e1 h1=>?_
  refine e1_2 b.rows fun l2 e2 h2=>?_
  exact ⟨fun r hr=>(b.keep r (by with_reducible exact Nat.lt_of_lt_of_le (by assumption) (by assumption))).trans (a.keep r hr),by rw [b.marks,a.marks,List.append_assoc],l1++l2,by rw [e2,e1,List.append_assoc],by rw [List.length_append]; exact Nat.add_le_add h1 h2⟩
theorem Aft.gd {n:Nat} {mk:List Int} {R:Nat} {rs rs':RS} (a:Aft n mk R rs rs') (hn:3≤n) (g:Gd rs):Gd rs' :=
  ⟨(a.keep 0 (by (apply le1;assumption;simp +arith only))).trans g.h0,(a.keep 1 (by (apply le1;assumption;simp +arith only))).trans g.h1,(a.keep 2 (by (apply le1;assumption;simp +arith only))).trans g.h2⟩
noncomputable def OpLt (n:Nat):Op→Prop
  | .reg r=>r < n
  | .cst _ _=>True
theorem rd_keep {n n':Nat} {o:Op} {mk:List Int} {R:Nat} {rs rs':RS} (h:OpLt n o) (hn:n≤n') (a:Aft n' mk R rs rs'):rd rs' o=rd rs o:=by
  cases o with
  | reg r=>exact a.keep r (Nat.lt_of_lt_of_le h hn)
  | cst t v=>rfl
set_option tactic.hygienic true in
theorem shown_keep {n:Nat} {v x:V} {mk:List Int} {R:Nat} {rs rs':RS} (a:Aft n mk R rs rs') (h:shown rs v=some x):shown rs' v=some x:=by
  refine e1_2 a.rows fun l e _=>?_
  unfold shown at h ⊢
  split at h
  · exact h
  · rename_i s r
    cases hs:s == 0x6d616465 with
    | false=>rw [hs] at h; exact h
    | true =>
      rw [hs,cond_true] at h
      rw [cond_true]
      split at h
      · rename_i i r'
        split at h
        · rename_i hi
          split at h
          · rename_i l' hl
            simp only [hi,and_self,if_true,e,List.getElem?_append_left (getE hl),hl]
            exact h
          · exact nn h
        · exact nn h
      · exact nn h
  · exact nn h
inductive Wt where
  | v (o:Option Op) (x:V) | s (o:Op) (x:V)
noncomputable def Wt.ok (n:Nat):Wt→Prop
  | .v none _=>True
  | .v (some o) _=>OpLt n o
  | .s o _=>OpLt n o
noncomputable def Wt.holds (rs:RS):Wt→Prop
  | .v o x=>rdO rs o=some x
  | .s o x=>∃ v,rd rs o=some v∧shown rs v=some x
theorem OpLt.mono {n n':Nat} {o:Op} (h:OpLt n o) (hn:n≤n'):OpLt n' o:=by
  cases o with
  | reg r=>exact Nat.lt_of_lt_of_le h hn
  | cst t v=>exact h
theorem Wt.ok.mono {n n':Nat} {w:Wt} (h:w.ok n) (hn:n≤n'):w.ok n':=by
  cases w with
  | v o x=>induction o using Option.casesOn with
    | none=>trivial
    | some o=>exact OpLt.mono h hn
  | s o x=>exact OpLt.mono h hn
theorem Wt.keep {n n':Nat} {w:Wt} {mk:List Int} {R:Nat} {rs rs':RS} (h:w.ok n) (hn:n≤n') (a:Aft n' mk R rs rs') (hh:w.holds rs):w.holds rs':=by
  cases w with
  | v o x=>induction o using Option.casesOn with
    | none=>exact hh
    | some o=>exact (rd_keep h hn a).trans hh
  | s o x =>
    refine e1_2 hh ?_;clear hh;intro v h1 h2
    exact ⟨v,(rd_keep h hn a).trans h1,shown_keep a h2⟩
noncomputable def Lo (cs:CS):Prop:=cs.here < cs.blks.length∧3≤cs.regs.length
structure Sm (cs c':CS) (ws:List Wt) (mk:List Int) (R:Nat):Prop where
  ok:∀ w ∈ ws,w.ok c'.regs.length
  run:∃ is,Str cs c' is∧∀ ts rs,(∃ l,ts=c'.regs++l)→Gd rs→rs.marks.length + mk.length≤1000→rs.rows.length + R≤1000 →
    ∃ rs',runI ts is rs=some rs'∧Aft cs.regs.length mk R rs rs'∧∀ w ∈ ws,w.holds rs'
theorem Str.rl {cs c':CS} {is:List Ins} (s:Str cs c' is):cs.regs.length≤c'.regs.length:=by
  refine e1_1 s.regs fun l e=>?_; rw [e,List.length_append]; exact Nat.le_add_right _ _
theorem Sm.lo {cs c':CS} {ws:List Wt} {mk:List Int} {R:Nat} (s:Sm cs c' ws mk R) (h:Lo cs):Lo c':=by
  refine e1_2 s.run fun is st _=>?_
  exact ⟨st.hlt h.1,Nat.le_trans h.2 st.rl⟩
theorem Sm.refl {cs:CS} (h:Lo cs):Sm cs cs [] [] 0 :=
  ⟨by simp,[],.refl h.1,fun ts rs _ _ _ _=>⟨rs,rfl,.refl,by simp⟩⟩
theorem Sm.trans {cs c1 c2:CS} {w1 w2:List Wt} {m1 m2:List Int} {R1 R2:Nat} (h:Lo cs) (a:Sm cs c1 w1 m1 R1) (b:Sm c1 c2 w2 m2 R2):Sm cs c2 (w1++w2) (m1++m2) (R1 + R2):=by
  refine e1_2 a.run fun i1 s1 r1=>?_
  refine e1_2 b.run fun i2 s2 r2=>?_
  refine ⟨fun w hw=>?_,i1++i2,s1.trans h.1 s2,fun ts rs ht hg hm hr=>?_⟩
  · rcases List.mem_append.mp hw with hw | hw
    · exact (a.ok w hw).mono s2.rl
    · exact b.ok w hw
  · rw [List.length_append] at hm
    have ht1:∃ l,ts=c1.regs++l:=by
      refine e1_1 ht ?_;clear ht;intro l e
      refine e1_1 s2.regs fun l2 e2=>?_
      exact ⟨l2++l,by rw [e,e2,List.append_assoc]⟩
    refine e1_3 (r1 ts rs ht1 hg (by (refine le1 hm ?_;simp +arith only)) (by (apply le1 (b:=1000);assumption;simp +arith only))) fun rs1 e1 a1 h1=>?_
    have hl:=a1.rows
    refine e1_2 hl ?_;clear hl;intro l el hl
    refine e1_3 (r2 ts rs1 ht (a1.gd h.2 hg) (by rw [a1.marks,List.length_append]; (refine le1 hm ?_;simp +arith only)) (by rw [el,List.length_append]; lia)) fun rs2 e2 a2 h2=>?_
    refine ⟨rs2,by rw [runI_append,e1]; exact e2,a1.trans s1.rl a2,fun w hw=>?_⟩
    rcases List.mem_append.mp hw with hw | hw
    · exact Wt.keep (a.ok w hw) (Nat.le_refl _) a2 (h1 w hw)
    · exact h2 w hw
theorem Sm.more {cs c':CS} {ws:List Wt} {mk:List Int} {R:Nat} {w:Wt} (s:Sm cs c' ws mk R) (h:Lo cs) (ok:w.ok c'.regs.length) (hh:∀ rs,Gd rs→w.holds rs):Sm cs c' (ws++[w]) mk R:=by
  refine e1_2 s.run fun is st r=>?_
  refine ⟨fun x hx=>?_,is,st,fun ts rs ht hg hm hr=>?_⟩
  · rcases List.mem_append.mp hx with hx | hx
    · exact s.ok x hx
    · rw [List.mem_singleton] at hx; subst hx; exact ok
  · refine e1_3 (r ts rs ht hg hm hr) fun rs1 e1 a1 h1=>?_
    refine ⟨rs1,e1,a1,fun x hx=>?_⟩
    rcases List.mem_append.mp hx with hx | hx
    · exact h1 x hx
    · rw [List.mem_singleton] at hx; subst hx; exact hh rs1 (a1.gd h.2 hg)
theorem put_ok {N r:Nat} {v:V} {rs:RS} (h:r < N):∃ rs',rs.put N r v=some rs'∧Aft r [] 0 rs rs'∧lookI rs'.cells (r:Int)=some v:=by
  refine ⟨{ rs with cells:=putI rs.cells (r:Int) v },by unfold RS.put; rw [if_pos h],⟨fun x hx=>?_,by simp,[],by simp⟩,?_⟩
  · simp only; rw [look_putI,if_neg (by exact fun e=>Nat.ne_of_gt hx (Int.ofNat_inj.mp e))]
  · simp only; rw [look_putI,if_pos rfl]
theorem Aft.weak {n n':Nat} {mk:List Int} {R:Nat} {rs rs':RS} (h:n≤n') (a:Aft n' mk R rs rs'):Aft n mk R rs rs':=⟨fun r hr=>a.keep r (by with_reducible exact Nat.lt_of_lt_of_le (by assumption) (by assumption)),a.marks,a.rows⟩
theorem Sm.frs {cs c1:CS} {ws:List Wt} {mk:List Int} {R:Nat} {t x:V} {j:Nat→Ins} (s:Sm cs c1 ws mk R) (h:Lo cs)
    (hj:∀ (ts:List V) (rs:RS) (r:Nat),(∀ w ∈ ws,w.holds rs)→stepI ts rs (j r)=rs.put ts.length r x):Sm cs (c1.frs t j) [.v (some (.reg c1.regs.length)) x] mk R:=by
  refine e1_2 s.run fun is st r=>?_
  refine ⟨fun w hw=>?_,is++[j c1.regs.length],st.trans h.1 .frs,fun ts rs ht hg hm hr=>?_⟩
  · rw [List.mem_singleton] at hw; subst hw
    show c1.regs.length < _
    rw [frs_len]; exact Nat.lt_succ_self _
  · have hlen:c1.regs.length < ts.length:=by
      refine e1_1 ht ?_;clear ht;intro l e
      rw [e,List.length_append,frs_len]; simp +arith only
    have ht1:∃ l,ts=c1.regs++l:=by
      refine e1_1 ht ?_;clear ht;intro l e
      exact ⟨[t]++l,by rw [e]; simp [CS.frs,CS.ins,CS.reg]⟩
    refine e1_3 (r ts rs ht1 hg hm hr) fun rs1 e1 a1 h1=>?_
    refine e1_3 (put_ok (rs:=rs1) (v:=x) hlen) fun rs2 e2 a2 h2=>?_
    have:=a1.trans st.rl a2
    rw [List.append_nil] at this
    refine ⟨rs2,?_,this,fun w hw=>?_⟩
    · rw [runI_append,e1]
      show (stepI ts rs1 (j c1.regs.length)).bind (runI ts [])=_
      rw [hj ts rs1 _ h1,e2]; rfl
    · rw [List.mem_singleton] at hw; subst hw
      exact h2
theorem Sm.mark {cs:CS} {t:V} {k:Int} (h:Lo cs) (hp:plain t=true):Sm cs (cs.frs t (fun g=>.mark g k)) [.v (some (.reg cs.regs.length)) (mkV t k)] [k] 0:=by
  refine ⟨fun w hw=>?_,[.mark cs.regs.length k],.frs,fun ts rs ht hg hm hr=>?_⟩
  · rw [List.mem_singleton] at hw; subst hw
    show cs.regs.length < _
    rw [frs_len]; exact Nat.lt_succ_self _
  · have hlen:cs.regs.length < ts.length:=by
      refine e1_1 ht ?_;clear ht;intro l e
      rw [e,List.length_append,frs_len]; simp +arith only
    have hr:ts[cs.regs.length]? = some t:=by
      refine e1_1 ht ?_;clear ht;intro l e
      rw [e]
      show ((cs.regs++[t])++l)[cs.regs.length]? = _
      simp
    refine e1_3 (put_ok (rs:={ rs with marks:=rs.marks++[k] }) (v:=mkV t k) hlen) fun rs2 e2 a2 h2=>?_
    refine ⟨rs2,?_,⟨a2.keep,by rw [a2.marks,List.append_nil],a2.rows⟩,fun w hw=>?_⟩
    · show (stM ts rs cs.regs.length k ts[cs.regs.length]?).bind (runI ts [])=_
      rw [hr]; unfold stM
      simp only [hp,true_and]
      rw [if_pos (by simp at hm; (apply le1;assumption;simp +arith only)),e2]; rfl
    · rw [List.mem_singleton] at hw; subst hw
      exact h2
theorem num_s:∀ (a:Num) (cs:CS),Lo cs→Sm cs (a.comp cs).2 [.v (some (a.comp cs).1) a.mv] a.mk 0
  | .mark k,cs,h=>Sm.mark (t:=tInt) h rfl
  | .glob,cs,h=>by
    have:=(Sm.refl h).frs (t:=tInt) (j:=fun g=>.load g (.cst (tPtr tInt) vGlob)) (x:=vLoad (vTold vGlob)) h fun ts rs r _=>rfl
    exact this
  | .zero,cs,h=>(Sm.refl h).more h trivial fun rs _=>rfl
  | .conv k,cs,h=>by
    have:=(Sm.mark (t:=tSmall) (k:=k) h rfl).frs (t:=tInt) (j:=fun g=>.conv g (.reg cs.regs.length)) (x:=vConv (vMk k)) h fun ts rs r hw=>by
      have:=hw _ (List.mem_singleton.mpr rfl)
      show (rd rs (.reg cs.regs.length)).bind _=_
      rw [show rd rs (.reg cs.regs.length)=some (mkV tSmall k) from this]; rfl
    rw [frs_len] at this
    exact this
  | .bin p a b,cs,h=>by
    have sa:=num_s a cs h
    have sb:=num_s b (a.comp cs).2 (sa.lo h)
    have:=(sa.trans h sb).frs (t:=tInt) (j:=fun g=>.binary g p (a.comp cs).1 (b.comp (a.comp cs).2).1) (x:=vBin p a.mv b.mv) h fun ts rs r hw=>by
      have h1:=hw _ (List.mem_append_left _ (List.mem_singleton.mpr rfl))
      have h2:=hw _ (List.mem_append_right _ (List.mem_singleton.mpr rfl))
      show (rd rs (a.comp cs).1).bind _=_
      rw [show rd rs (a.comp cs).1=some a.mv from h1]
      show (rd rs (b.comp (a.comp cs).2).1).bind _=_
      rw [show rd rs (b.comp (a.comp cs).2).1=some b.mv from h2]; rfl
    exact this
  | .deref,cs,h=>by
    have s1:=((Sm.refl h).more (w:=.v (some (.reg 1)) (vHeld 1)) h (by show 1 < cs.regs.length; have:=h.2; (apply le1;assumption;simp +arith only)) fun rs g=>g.h1).frs (t:=tPtr tInt) (j:=fun g=>.move g (.reg 1)) (x:=vHeld 1) h fun ts rs r hw=>by
      have h1:=hw _ (List.mem_singleton.mpr rfl)
      show (rd rs (.reg 1)).bind _=_
      rw [show rd rs (.reg 1)=some (vHeld 1) from h1]; rfl
    have:=s1.frs (t:=tInt) (j:=fun g=>.load g (.reg cs.regs.length)) (x:=vLoad (vHeld 1)) h fun ts rs r hw=>by
      have h1:=hw _ (List.mem_singleton.mpr rfl)
      show (rd rs (.reg cs.regs.length)).bind _=_
      rw [show rd rs (.reg cs.regs.length)=some (vHeld 1) from h1]; rfl
    rw [frs_len] at this
    exact this
  | .asrt a,cs,h=>by
    have sa:=(num_s a cs h).frs (t:=tAny) (j:=fun g=>.face g (a.comp cs).1) (x:=vFace a.mv) h fun ts rs r hw=>by
      have h1:=hw _ (List.mem_singleton.mpr rfl)
      show (rd rs (a.comp cs).1).bind _=_
      rw [show rd rs (a.comp cs).1=some a.mv from h1]; rfl
    have:=sa.frs (t:=tInt) (j:=fun g=>.asrt g none (.reg (a.comp cs).2.regs.length)) (x:=vAsrt (vFace a.mv)) h fun ts rs r hw=>by
      have h1:=hw _ (List.mem_singleton.mpr rfl)
      show (rd rs (.reg (a.comp cs).2.regs.length)).bind _=_
      rw [show rd rs (.reg (a.comp cs).2.regs.length)=some (vFace a.mv) from h1]
      show ((rs.put ts.length r (vAsrt (vFace a.mv))).bind fun rs'=>some rs')=_
      cases rs.put ts.length r (vAsrt (vFace a.mv)) <;> rfl
    rw [frs_len] at this
    exact this
end Internal.Pl
namespace Internal.Pl
open PySem
theorem Sm.weakR {cs c':CS} {ws:List Wt} {mk:List Int} {R R':Nat} (s:Sm cs c' ws mk R) (h:R≤R'):Sm cs c' ws mk R':=by
  refine e1_2 s.run fun is st r=>?_
  refine ⟨s.ok,is,st,fun ts rs ht hg hm hr=>?_⟩
  refine e1_3 (r ts rs ht hg hm (by exact Nat.le_trans (Nat.add_le_add_left h _) hr)) fun rs1 e1 a1 h1=>?_
  refine e1_2 a1.rows fun l e hl=>?_
  exact ⟨rs1,e1,⟨a1.keep,a1.marks,l,e,by with_reducible exact Nat.le_trans (by assumption) (by assumption)⟩,h1⟩
theorem bnd_s (x:Option Num) (cs:CS) (h:Lo cs):Sm cs (numOC x cs).2 [.v (numOC x cs).1 (mvO x)] (mkO x) 0:=by
  induction x using Option.casesOn with
  | none=>exact (Sm.refl h).more h trivial fun rs _=>rfl
  | some a=>exact num_s a cs h
theorem cut_s {lo hi mx:Option Num} {cs c0:CS} {w:Op} {x t:V} {mk:List Int} {R:Nat} (h:Lo cs) (s:Sm cs c0 [.s w x] mk R) :
    Sm cs (bndC lo hi mx c0 w t).2 [.s (bndC lo hi mx c0 w t).1 (vCut x (mvO lo) (mvO hi) (mvO mx) t)] (mk++(mkO lo++(mkO hi++mkO mx))) R:=by
  have l0:=s.lo h
  have s1:=bnd_s lo c0 l0
  have l1:=s1.lo l0
  have s2:=bnd_s hi _ l1
  have l2:=s2.lo l1
  have s3:=bnd_s mx _ l2
  have sa:=s.trans h (s1.trans l0 (s2.trans l1 s3))
  have sb:=sa.frs (t:=tSlice) (j:=fun g=>.cut g w (numOC lo c0).1 (numOC hi (numOC lo c0).2).1 (numOC mx (numOC hi (numOC lo c0).2).2).1 t) (x:=vCut x (mvO lo) (mvO hi) (mvO mx) t) h fun ts rs r hw=>by
    refine e1_2 (hw (.s w x) (by simp)) fun v hv hx=>?_
    have h1:rdO rs (numOC lo c0).1=some (mvO lo):=hw (.v _ _) (by simp)
    have h2:rdO rs (numOC hi (numOC lo c0).2).1=some (mvO hi):=hw (.v (numOC hi (numOC lo c0).2).1 (mvO hi)) (by simp)
    have h3:rdO rs (numOC mx (numOC hi (numOC lo c0).2).2).1=some (mvO mx):=hw (.v (numOC mx (numOC hi (numOC lo c0).2).2).1 (mvO mx)) (by simp)
    simp only [stepI,hv,hx,h1,h2,h3,Option.bind_some]
  refine e1_2 sb.run fun is st r=>?_
  refine ⟨fun w' hw'=>?_,is,st,fun ts rs ht hg hm hr=>?_⟩
  · rw [List.mem_singleton] at hw'; subst hw'
    exact sb.ok (.v (some (bndC lo hi mx c0 w t).1) _) (List.mem_singleton.mpr rfl)
  · refine e1_3 (r ts rs ht hg hm hr) fun rs1 e1 a1 h1=>?_
    refine ⟨rs1,e1,a1,fun w' hw'=>?_⟩
    rw [List.mem_singleton] at hw'; subst hw'
    exact ⟨_,h1 _ (List.mem_singleton.mpr rfl),rfl⟩
theorem row_run {ts:List V} {rs:RS} {n s:Nat} {oa ob:Op} {va vb:V} (hl:n + 2 < ts.length) (hr:rs.rows.length + 1≤1000) (ha:rd rs oa=some va) (hb:rd rs ob=some vb) (oka:OpLt n oa) (okb:OpLt n ob) :
    ∃ rs',runI ts [.mksl n s,.elem (n + 1) (.reg n) 0,.store (.reg (n + 1)) oa,.elem (n + 2) (.reg n) 1,.store (.reg (n + 2)) ob] rs=some rs'∧Aft n [] 1 rs rs'∧∃ v,rd rs' (.reg n)=some v∧shown rs' v=some (vRow [va,vb]):=by
  refine e1_3 (put_ok (rs:={ rs with rows:=rs.rows++[[.none,.none]] }) (v:=vMade (rs.rows.length:Nat)) (show n < ts.length by (refine le1 hl ?_;simp +arith only))) fun r1 e1 a1 h1=>?_
  have R1:r1.rows=rs.rows++[[.none,.none]]:=by
    refine e1_2 a1.rows fun l e hl=>?_
    have:l = []:=List.eq_nil_of_length_eq_zero (by exact Nat.le_zero.mp (by assumption))
    rw [e,this,List.append_nil]
  refine e1_3 (put_ok (rs:=r1) (v:=vSpot (rs.rows.length:Nat) 0) (show n + 1 < ts.length by (refine le1 hl ?_;simp +arith only))) fun r2 e2 a2 h2=>?_
  have R2:r2.rows=rs.rows++[[.none,.none]]:=by
    refine e1_2 a2.rows fun l e hl=>?_
    have:l = []:=List.eq_nil_of_length_eq_zero (by exact Nat.le_zero.mp (by assumption))
    rw [e,this,List.append_nil,R1]
  have k1:∀ o,OpLt n o→rd r1 o=rd rs o:=fun o ho=>by
    cases o with
    | reg r=>exact a1.keep r ho
    | cst t v=>rfl
  have A2:rd r2 oa=some va:=(rd_keep oka (show n≤n + 1 by exact Nat.le_add_right _ _) a2).trans ((k1 oa oka).trans ha)
  have B2:rd r2 ob=some vb:=(rd_keep okb (show n≤n + 1 by exact Nat.le_add_right _ _) a2).trans ((k1 ob okb).trans hb)
  have H2:rd r2 (.reg n)=some (vMade (rs.rows.length:Nat)):=(a2.keep n (by exact Nat.lt_succ_self _)).trans h1
  have g2:r2.rows[((rs.rows.length:Nat):Int).toNat]? = some [.none,.none]:=by rw [R2]; simp
  let r3:RS:={ r2 with rows:=rs.rows++[[va,.none]] }
  have e3:stS r2 va (vSpot (rs.rows.length:Nat) 0)=some r3:=by
    unfold stS
    simp only [g2]
    rw [if_pos ⟨by exact Int.natCast_nonneg _,by exact Int.ofNat_lt.mpr hr,by simp +arith only,by simp +arith only⟩,if_pos (by simp),R2]
    simp [r3]
  refine e1_3 (put_ok (rs:=r3) (v:=vSpot (rs.rows.length:Nat) 1) (show n + 2 < ts.length by assumption)) fun r4 e4 a4 h4=>?_
  have R4:r4.rows=rs.rows++[[va,.none]]:=by
    refine e1_2 a4.rows fun l e hl=>?_
    have:l = []:=List.eq_nil_of_length_eq_zero (by exact Nat.le_zero.mp (by assumption))
    rw [e,this,List.append_nil]
  have B4:rd r4 ob=some vb:=(rd_keep okb (show n≤n + 2 by exact Nat.le_add_right _ _) a4).trans (by
    cases ob with
    | reg r=>exact B2
    | cst t v=>exact B2)
  have H4:rd r4 (.reg n)=some (vMade (rs.rows.length:Nat)):=(a4.keep n (by simp +arith only)).trans H2
  have g4:r4.rows[((rs.rows.length:Nat):Int).toNat]? = some [va,.none]:=by rw [R4]; simp
  let r5:RS:={ r4 with rows:=rs.rows++[[va,vb]] }
  have e5:stS r4 vb (vSpot (rs.rows.length:Nat) 1)=some r5:=by
    unfold stS
    simp only [g4]
    rw [if_pos ⟨by exact Int.natCast_nonneg _,by exact Int.ofNat_lt.mpr hr,by simp +arith only,by simp +arith only⟩,if_pos (by simp),R4]
    simp [r5]
  refine ⟨r5,?_,⟨fun r hr=>?_,?_,[[va,vb]],rfl,Nat.le_refl _⟩,_,H4,?_⟩
  · have s2:rd r1 (.reg n)=some (vMade (rs.rows.length:Nat)):=h1
    have s4:rd r3 (.reg n)=some (vMade (rs.rows.length:Nat)):=H2
    have s3:rd r2 (.reg (n + 1))=some (vSpot (rs.rows.length:Nat) 0):=h2
    have s5:rd r4 (.reg (n + 2))=some (vSpot (rs.rows.length:Nat) 1):=h4
    have t1:stepI ts rs (.mksl n s)=some r1:=by
      simp only [stepI]; rw [if_pos (by (apply le1 (b:=1000);assumption;simp +arith only)),e1]
    have t2:stepI ts r1 (.elem (n + 1) (.reg n) 0)=some r2:=by
      simp only [stepI,s2,Option.bind_some]; exact e2
    have t3:stepI ts r2 (.store (.reg (n + 1)) oa)=some r3:=by
      simp only [stepI,s3,A2,Option.bind_some]; exact e3
    have t4:stepI ts r3 (.elem (n + 2) (.reg n) 1)=some r4:=by
      simp only [stepI,s4,Option.bind_some]; exact e4
    have t5:stepI ts r4 (.store (.reg (n + 2)) ob)=some r5:=by
      simp only [stepI,s5,B4,Option.bind_some]; exact e5
    simp only [runI,t1,t2,t3,t4,t5,Option.bind_some]
  · exact (a4.keep r (by (refine le1 hr ?_;simp +arith only))).trans ((a2.keep r (by (refine le1 hr ?_;simp +arith only))).trans (a1.keep r (by assumption)))
  · show r4.marks=_
    rw [a4.marks,List.append_nil]
    show r2.marks=_
    rw [a2.marks,List.append_nil,a1.marks]
  · have g5:r5.rows[((rs.rows.length:Nat):Int).toNat]? = some [va,vb]:=by simp [r5]
    unfold shown
    simp only [vMade,g5,BEq.rfl,cond_true]
    rw [if_pos ⟨by exact Int.natCast_nonneg _,by exact Int.ofNat_lt.mpr hr⟩,if_pos (by simp)]
theorem row_s0 (a b:Num) (cs:CS) (h:Lo cs):Sm cs (rowC a b cs).2 [.s (rowC a b cs).1 (vRow [a.mv,b.mv])] (a.mk++b.mk) 1:=by
  have sa:=num_s a cs h
  have l1:=sa.lo h
  have sb:=num_s b _ l1
  have s:=sa.trans h sb
  have l2:=s.lo h
  simp only [rowC]
  revert s sb l2 sa
  generalize (b.comp (a.comp cs).2).1=ob
  generalize (b.comp (a.comp cs).2).2=c
  generalize (a.comp cs).1=oa
  generalize (a.comp cs).2=ca at l1
  intro sa sb s l2
  generalize hc2:c.site.frs tSlice (fun g=>.mksl g (c.sites + 1))=c2
  generalize hc3:c2.frs (tPtr tInt) (fun g=>.elem g (.reg c.regs.length) 0)=c3
  generalize hc4:c3.ins (.store (.reg (c.regs.length + 1)) oa)=c4
  generalize hc5:c4.frs (tPtr tInt) (fun g=>.elem g (.reg c.regs.length) 1)=c5
  generalize hc6:c5.ins (.store (.reg (c.regs.length + 2)) ob)=c6
  have n2:c2.regs.length=c.regs.length + 1:=by rw [← hc2,frs_len,site_regs]
  have n3:c3.regs.length=c.regs.length + 2:=by rw [← hc3,frs_len,n2]
  have n4:c4.regs.length=c.regs.length + 2:=by rw [← hc4,ins_regs,n3]
  have n5:c5.regs.length=c.regs.length + 3:=by rw [← hc5,frs_len,n4]
  have n6:c6.regs.length=c.regs.length + 3:=by rw [← hc6,ins_regs,n5]
  have t2:Str c c2 [.mksl c.regs.length (c.sites + 1)]:=by
    rw [← hc2]; exact (Str.site l2.1).trans l2.1 Str.frs
  have t3:Str c2 c3 [.elem (c.regs.length + 1) (.reg c.regs.length) 0]:=by rw [← hc3,← n2]; exact Str.frs
  have t4:Str c3 c4 [.store (.reg (c.regs.length + 1)) oa]:=by rw [← hc4]; exact Str.ins
  have t5:Str c4 c5 [.elem (c.regs.length + 2) (.reg c.regs.length) 1]:=by rw [← hc5,← n4]; exact Str.frs
  have t6:Str c5 c6 [.store (.reg (c.regs.length + 2)) ob]:=by rw [← hc6]; exact Str.ins
  have tt:=((((t2.trans l2.1 t3).trans l2.1 t4).trans l2.1 t5).trans l2.1 t6)
  simp only [List.cons_append,List.nil_append] at tt
  refine e1_2 s.run fun is st r=>?_
  refine ⟨fun w hw=>?_,is++_,st.trans h.1 tt,fun ts rs ht hg hm hr=>?_⟩
  · rw [List.mem_singleton] at hw; subst hw
    show c.regs.length < _
    lia
  · have ht1:∃ l,ts=c.regs++l:=by
      refine e1_1 ht ?_;clear ht;intro l e
      refine e1_1 tt.regs fun l2 e2=>?_
      exact ⟨l2++l,by rw [e,e2,List.append_assoc]⟩
    have hlen:c.regs.length + 2 < ts.length:=by
      refine e1_1 ht ?_;clear ht;intro l e
      rw [e,List.length_append]; lia
    refine e1_3 (r ts rs ht1 hg hm (by (apply le1 (b:=1000);assumption;simp +arith only))) fun rs1 e1 a1 h1=>?_
    have ha:rd rs1 oa=some a.mv:=h1 (.v (some oa) _) (by simp)
    have hb:rd rs1 ob=some b.mv:=h1 (.v (some ob) _) (by simp)
    have oka:OpLt c.regs.length oa:=s.ok (.v (some oa) a.mv) (by simp)
    have okb:OpLt c.regs.length ob:=s.ok (.v (some ob) b.mv) (by simp)
    refine e1_2 a1.rows fun l el hl=>?_
    refine e1_3 (row_run (s:=c.sites + 1) hlen (by rw [el,List.length_append]; lia) ha hb oka okb) fun rs2 e2 a2 h2=>?_
    have:=a1.trans st.rl a2
    rw [List.append_nil] at this
    refine ⟨rs2,by rw [runI_append,e1]; exact e2,this,fun w hw=>?_⟩
    rw [List.mem_singleton] at hw; subst hw
    exact h2
theorem row_s:∀ (a:Row) (cs:CS),Lo cs→Sm cs (a.comp cs).2 [.s (a.comp cs).1 a.mv] a.mk 1
  | .held,cs,h=>((Sm.refl h).more (w:=.s (.reg 0) (vHeld 0)) h (by show 0 < cs.regs.length; have:=h.2; (apply le1;assumption;simp +arith only)) fun rs g=>⟨_,g.h0,rfl⟩).weakR (by simp +arith only)
  | .nil,cs,h=>((Sm.refl h).more (w:=.s (.cst tSlice .none) (vTold .none)) h trivial fun rs g=>⟨_,rfl,rfl⟩).weakR (by simp +arith only)
  | .row a b,cs,h=>row_s0 a b cs h
  | .cut none lo hi mx,cs,h=>(cut_s (lo:=lo) (hi:=hi) (mx:=mx) (t:=tArr) h (((Sm.refl h).more (w:=.s (.reg 2) (vHeld 2)) h (by show 2 < cs.regs.length; have:=h.2; (apply le1;assumption;simp +arith only)) fun rs g=>⟨_,g.h2,rfl⟩).weakR (R':=1) (by simp +arith only)))
  | .cut (some w) lo hi mx,cs,h=>cut_s (lo:=lo) (hi:=hi) (mx:=mx) (t:=tSlice) h (row_s w cs h)
end Internal.Pl
namespace Internal.Pl
open PySem
structure Tm (cs c':CS) (ws:List Wt) (mk:List Int) (R:Nat):Prop where
  grow:Grow cs c'
  ok:∀ w ∈ ws,w.ok c'.regs.length
  run:∀ (ts:List V) (B:List Blk) (rs:RS),(∃ l,ts=c'.regs++l)→Lk c'.blks B→Gd rs→rs.marks.length + mk.length≤1000→rs.rows.length + R≤1000 →
    ∃ (rs':RS) (k:Nat),k + cs.blks.length≤c'.blks.length∧(∀ n,walkT ts B (n + k) cs.here (Rest B cs) rs=walkT ts B n c'.here (Rest B c') rs')∧Aft cs.regs.length mk R rs rs'∧∀ w ∈ ws,w.holds rs'
theorem Sm.tm {cs c':CS} {ws:List Wt} {mk:List Int} {R:Nat} (s:Sm cs c' ws mk R) (h:Lo cs) (ho:cs.cur.2=none):Tm cs c' ws mk R:=by
  refine e1_2 s.run fun is st r=>?_
  refine ⟨st.grow h.1 ho,s.ok,fun ts B rs ht hB hg hm hr=>?_⟩
  refine e1_3 (r ts rs ht hg hm hr) fun rs1 e1 a1 h1=>?_
  refine ⟨rs1,0,by rw [st.len]; simp +arith only,fun n=>?_,a1,h1⟩
  rw [st.rest h.1 hB,Nat.add_zero,walkT_run e1,st.here]
theorem Grow.rl {cs c':CS} (g:Grow cs c'):cs.regs.length≤c'.regs.length:=by
  refine e1_1 g.regs fun l e=>?_; rw [e,List.length_append]; exact Nat.le_add_right _ _
theorem Tm.lo {cs c':CS} {ws:List Wt} {mk:List Int} {R:Nat} (s:Tm cs c' ws mk R) (h:Lo cs):Lo c':=⟨s.grow.hlt,Nat.le_trans h.2 s.grow.rl⟩
theorem Tm.frs {cs c1:CS} {ws:List Wt} {mk:List Int} {R:Nat} {t x:V} {j:Nat→Ins} (s:Tm cs c1 ws mk R) (h:Lo cs)
    (hj:∀ (ts:List V) (rs:RS) (r:Nat),(∀ w ∈ ws,w.holds rs)→stepI ts rs (j r)=rs.put ts.length r x):Tm cs (c1.frs t j) [.v (some (.reg c1.regs.length)) x] mk R:=by
  have st:Str c1 (c1.frs t j) [j c1.regs.length]:=.frs
  have g2:=st.grow s.grow.hlt s.grow.hop
  refine ⟨s.grow.trans h.1 g2,fun w hw=>?_,fun ts B rs ht hB hg hm hr=>?_⟩
  · rw [List.mem_singleton] at hw; subst hw
    show c1.regs.length < _
    rw [frs_len]; exact Nat.lt_succ_self _
  · have hlen:c1.regs.length < ts.length:=by
      refine e1_1 ht ?_;clear ht;intro l e
      rw [e,List.length_append,frs_len]; simp +arith only
    have ht1:∃ l,ts=c1.regs++l:=by
      refine e1_1 ht ?_;clear ht;intro l e
      exact ⟨[t]++l,by rw [e]; simp [CS.frs,CS.ins,CS.reg]⟩
    refine e2_4 (s.run ts B rs ht1 (g2.lk s.grow.hop hB) hg hm hr) fun rs1 k hk e1 a1 h1=>?_
    refine e1_3 (put_ok (rs:=rs1) (v:=x) hlen) fun rs2 e2 a2 h2=>?_
    have:=a1.trans s.grow.rl a2
    rw [List.append_nil] at this
    have e3:runI ts [j c1.regs.length] rs1=some rs2:=by
      show (stepI ts rs1 (j c1.regs.length)).bind (runI ts [])=_
      rw [hj ts rs1 _ h1,e2]; rfl
    refine ⟨rs2,k,by rw [st.len]; exact hk,fun n=>?_,this,fun w hw=>?_⟩
    · rw [e1 n,st.rest s.grow.hlt hB,walkT_run e3,st.here]
    · rw [List.mem_singleton] at hw; subst hw
      exact h2
noncomputable def lzB (c:CS) (T:Term):CS:=((c.blk.blk).cls T).goto c.blks.length
section
variable {c:CS} {T:Term}
theorem blk_at {k:Nat} (h:k < c.blks.length):c.blk.blk.blks[k]? = c.blks[k]?:=by
  simp only [CS.blk]
  rw [List.getElem?_append_left (by rw [List.length_append]; (refine le1 h ?_;simp +arith only)),List.getElem?_append_left h]
theorem blk_cur (h:c.here < c.blks.length):c.blk.blk.cur=c.cur:=by
  show (c.blk.blk.blks[c.here]?).getD _=_
  rw [blk_at h]; rfl
theorem lzB_blks (h:c.here < c.blks.length):(lzB c T).blks=c.blk.blk.blks.set c.here (c.cur.1,some T):=by
  show c.blk.blk.blks.set c.here (c.blk.blk.cur.1,some T)=_
  rw [blk_cur h]
theorem blk2_len:c.blk.blk.blks.length=c.blks.length + 2:=by rw [blk_bl,blk_bl]
theorem lzB_len:(lzB c T).blks.length=c.blks.length + 2:=by
  show (c.blk.blk.blks.set _ _).length=_
  rw [List.length_set,blk2_len]
theorem lzB_here (h:c.here < c.blks.length):(lzB c T).blks[c.here]? = some (c.cur.1,some T):=by
  rw [lzB_blks h,List.getElem?_set_self (by rw [blk2_len]; (refine le1 h ?_;simp +arith only))]
theorem lzB_old (h:c.here < c.blks.length) {b:Nat} (hb:b < c.blks.length) (hn:b≠c.here):(lzB c T).blks[b]? = c.blks[b]?:=by
  rw [lzB_blks h,List.getElem?_set_ne (Ne.symm hn),blk_at hb]
theorem lzB_q (h:c.here < c.blks.length):(lzB c T).blks[c.blks.length]? = some ([],none):=by
  rw [lzB_blks h,List.getElem?_set_ne (by exact Nat.ne_of_lt (by assumption))]
  simp only [CS.blk]
  rw [List.getElem?_append_left (by rw [List.length_append]; simp),List.getElem?_append_right (Nat.le_refl _),Nat.sub_self]; rfl
theorem lzB_q1 (h:c.here < c.blks.length):(lzB c T).blks[c.blks.length + 1]? = some ([],none):=by
  rw [lzB_blks h,List.getElem?_set_ne (by exact Nat.ne_of_lt (Nat.lt_succ_of_lt h))]
  simp only [CS.blk]
  rw [List.getElem?_append_right (by rw [List.length_append]; simp),List.length_append]; simp
theorem lzB_cur (h:c.here < c.blks.length):(lzB c T).cur=([],none):=by
  show ((lzB c T).blks[c.blks.length]?).getD _=_
  rw [lzB_q h]; rfl
theorem lzB_lo (h:Lo c):Lo (lzB c T):=⟨by rw [lzB_len]; show c.blks.length < _; simp +arith only,h.2⟩
end
noncomputable def lzE (c:CS) (q:Nat):CS:=(c.cls (.jump (q + 1))).goto (q + 1)
section
variable {c c8:CS} {T:Term} {o:Op} {x y:Nat}
theorem lzE_blks {q:Nat}:(lzE c8 q).blks=c8.blks.set c8.here (c8.cur.1,some (.jump (q + 1))):=rfl
theorem lzE_len {q:Nat}:(lzE c8 q).blks.length=c8.blks.length:=by rw [lzE_blks,List.length_set]
theorem lz_here (g:Grow (lzB c T) c8):c8.here=c.blks.length ∨ c.blks.length + 2≤c8.here:=by
  have:=g.hnew; rw [lzB_len] at this; exact this
theorem lz_q1 (h:c.here < c.blks.length) (g:Grow (lzB c T) c8):(lzE c8 c.blks.length).blks[c.blks.length + 1]? = some ([],none):=by
  have h1:=lz_here g
  rw [lzE_blks,List.getElem?_set_ne (by lia),g.old (c.blks.length + 1) (by rw [lzB_len]; exact Nat.lt_succ_self _) (by show _≠c.blks.length; exact Nat.succ_ne_self _),lzB_q1 h]
theorem lz_cur (h:c.here < c.blks.length) (g:Grow (lzB c T) c8):(lzE c8 c.blks.length).cur=([],none):=by
  show ((lzE c8 c.blks.length).blks[c.blks.length + 1]?).getD _=_
  rw [lz_q1 h g]; rfl
theorem lz_at (h:c.here < c.blks.length) (g:Grow (lzB c T) c8):(lzE c8 c.blks.length).blks[c.here]? = some (c.cur.1,some T):=by
  have h1:=lz_here g
  rw [lzE_blks,List.getElem?_set_ne (by lia),g.old c.here (by rw [lzB_len]; (refine le1 h ?_;simp +arith only)) (by show _≠c.blks.length; exact Nat.ne_of_lt (by assumption)),lzB_here h]
theorem open_ne {c:CS} {p:Nat} {is:List Ins} {t:Term} (hl:c.here < c.blks.length) (ho:c.cur.2=none) (e:c.blks[p]? = some (is,some t)):p≠c.here:=fun e2=>by
  have:=cur_at hl
  rw [← e2,e] at this
  have h3:c.cur.2=some t:=by rw [← Option.some.inj this]
  rw [ho] at h3; exact nn h3
theorem lz_grow (hT:T = .branch o x y) (hx:(x=c.blks.length∧y=c.blks.length + 1) ∨ (x=c.blks.length + 1∧y=c.blks.length)) (h:c.here < c.blks.length) (ho:c.cur.2=none) (g:Grow (lzB c T) c8):Grow c (lzE c8 c.blks.length):=by
  have h1:=lz_here g
  have hl:=g.len
  rw [lzB_len] at hl
  have ht:tgt T = [x,y]:=by rw [hT]; simp only [tgt]; rw [if_neg (by lia)]
  refine ⟨g.regs,by rw [lzE_len]; (apply le1;assumption;simp +arith only),by rw [lzE_len]; show c.blks.length + 1 < _; (apply le1;assumption;simp +arith only),by rw [lz_cur h g],.inr (by show c.blks.length≤c.blks.length + 1; exact Nat.le_add_right _ _),fun b hb hn=>?_,⟨[],some T,by rw [lz_at h g,List.append_nil]⟩,fun b hb hl2 hn=>?_,fun b hb hl2=>?_⟩
  · rw [lzE_blks,List.getElem?_set_ne (by lia),g.old b (by rw [lzB_len]; (refine le1 hb ?_;simp +arith only)) (by show _≠c.blks.length; exact Nat.ne_of_lt (by assumption)),lzB_old h hb hn]
  · rw [lzE_len] at hl2 ⊢
    have hn':b≠c.blks.length + 1:=hn
    by_cases e1:b=c.here
    · subst e1
      refine ⟨c.cur.1,T,lz_at h g,fun z hz=>?_⟩
      rw [ht] at hz
      simp only [List.mem_cons,List.not_mem_nil,or_false] at hz
      lia
    · by_cases e2:b=c8.here
      · subst e2
        refine ⟨c8.cur.1,.jump (c.blks.length + 1),by rw [lzE_blks,List.getElem?_set_self hl2],fun z hz=>?_⟩
        simp only [tgt,List.mem_singleton] at hz
        lia
      · refine e2_2 (g.cl b (by rw [lzB_len]; show b=c.blks.length ∨ _; lia) hl2 e2) fun is t e hz=>?_
        exact ⟨is,t,by rw [lzE_blks,List.getElem?_set_ne (Ne.symm e2),e],hz⟩
  · rw [lzE_len] at hl2
    by_cases e1:b=c.blks.length ∨ b=c.blks.length + 1
    · refine ⟨c.here,c.cur.1,T,by with_reducible exact Nat.lt_of_lt_of_le (by assumption) (by assumption),lz_at h g,?_⟩
      rw [ht]; simp only [List.mem_cons,List.not_mem_nil,or_false]; lia
    · refine e3_3 (g.pr b (by rw [lzB_len]; lia) hl2) fun p is t hp e hz=>?_
      exact ⟨p,is,t,hp,by rw [lzE_blks,List.getElem?_set_ne (Ne.symm (open_ne g.hlt g.hop e)),e],hz⟩
end
theorem move_s {cs:CS} {n:Nat} {o:Op} {ts:List V} {rs:RS} {v:V} (hn:n < ts.length) (h:rd rs o=some v):∃ rs',runI ts [.move n o] rs=some rs'∧Aft n [] 0 rs rs'∧rd rs' (.reg n)=some v:=by
  refine e1_3 (put_ok (rs:=rs) (v:=v) hn) fun rs2 e2 a2 h2=>?_
  refine ⟨rs2,?_,a2,h2⟩
  show ((rd rs o).bind fun v=>rs.put ts.length n v).bind (runI ts [])=_
  rw [h]; simp only [Option.bind_some,e2]; rfl
theorem lazy_s (f:Bool) (a b:Tru) (cs:CS) (h:Lo cs) (ho:cs.cur.2=none)
    (ha:Tm (cs.reg tBool) (a.comp (cs.reg tBool)).2 [.v (some (a.comp (cs.reg tBool)).1) (.bool a.mv)] a.mk 0)
    (hb:∀ c,Lo c→c.cur.2=none→Tm c (b.comp c).2 [.v (some (b.comp c).1) (.bool b.mv)] b.mk 0) :
    Tm cs ((Tru.lazy f a b).comp cs).2 [.v (some ((Tru.lazy f a b).comp cs).1) (.bool (Tru.lazy f a b).mv)] (Tru.lazy f a b).mk 0:=by
  simp only [Tru.comp,Tru.mv,Tru.mk]
  revert ha
  generalize (a.comp (cs.reg tBool)).1=oa
  generalize (a.comp (cs.reg tBool)).2=c1
  intro ha
  have h0:Lo (cs.reg tBool):=⟨h.1,by show 3≤(cs.regs++[tBool]).length; rw [length_app1]; have:=h.2; with_reducible exact Nat.le_succ_of_le (by assumption)⟩
  have r1:=ha.grow.rl
  have r0:(cs.reg tBool).regs.length=cs.regs.length + 1:=length_app1
  have l1:=ha.lo h0
  -- the first move
  have sm:Str c1 (c1.ins (.move cs.regs.length oa)) [.move cs.regs.length oa]:=.ins
  have gm:=sm.grow ha.grow.hlt ha.grow.hop
  generalize hc:c1.ins (.move cs.regs.length oa)=c at sm gm
  have hlc:c.blks.length=c1.blks.length:=sm.len
  have lc:Lo c:=⟨sm.hlt l1.1,Nat.le_trans l1.2 sm.rl⟩
  have e1:lz1 f cs.regs.length oa c1=lzB c (lazyA f cs.regs.length c.blks.length):=by
    rw [hlc,← hc]; unfold lz1 lzB; rw [ins_bl]
  rw [e1]
  have lB:Lo (lzB c (lazyA f cs.regs.length c.blks.length)):=lzB_lo lc
  have hb2:=hb _ lB (by rw [lzB_cur lc.1])
  revert hb2
  generalize (b.comp (lzB c (lazyA f cs.regs.length c.blks.length))).1=ob
  generalize (b.comp (lzB c (lazyA f cs.regs.length c.blks.length))).2=c7
  intro hb2
  have sm8:Str c7 (c7.ins (.move cs.regs.length ob)) [.move cs.regs.length ob]:=.ins
  have gm8:=sm8.grow hb2.grow.hlt hb2.grow.hop
  generalize hc8:c7.ins (.move cs.regs.length ob)=c8 at sm8 gm8
  have e2:lz2 cs.regs.length c1.blks.length ob c7=lzE c8 c.blks.length:=by
    rw [hlc,← hc8]; rfl
  rw [e2]
  have gB8:=hb2.grow.trans lB.1 gm8
  have hx:(cond f c.blks.length (c.blks.length + 1)=c.blks.length∧cond f (c.blks.length + 1) c.blks.length=c.blks.length + 1) ∨ (cond f c.blks.length (c.blks.length + 1)=c.blks.length + 1∧cond f (c.blks.length + 1) c.blks.length=c.blks.length):=by
    induction f using Bool.casesOn
    · exact .inr ⟨rfl,rfl⟩
    · exact .inl ⟨rfl,rfl⟩
  have gE:Grow c (lzE c8 c.blks.length):=lz_grow rfl hx lc.1 gm.hop gB8
  have g1E:=gm.trans l1.1 gE
  have g0E:=ha.grow.trans h0.1 g1E
  have gr:Grow cs (cs.reg tBool):=(Str.reg h.1).grow h.1 ho
  refine ⟨gr.trans h.1 g0E,fun w hw=>?_,fun ts B rs ht hB hg hm hr=>?_⟩
  · rw [List.mem_singleton] at hw; subst hw
    show cs.regs.length < _
    have:=g0E.rl; lia
  · -- the finished blocks
    have B8:B[c8.here]? = some (c8.cur.1,some (.jump (c.blks.length + 1))):=by
      refine e2_2 (hB c8.here (c8.cur.1,some (.jump (c.blks.length + 1))) (by rw [lzE_blks,List.getElem?_set_self gB8.hlt])) fun is o e ht=>?_
      refine e0_2 (ht _ rfl) fun h1 h2=>?_
      rw [e,h1,h2,List.append_nil]
    have L8:Lk c8.blks B:=Lk.cls (t:=.jump (c.blks.length + 1)) gB8.hlt gB8.hop hB
    have L7:Lk c7.blks B:=gm8.lk hb2.grow.hop L8
    have LB:Lk (lzB c (lazyA f cs.regs.length c.blks.length)).blks B:=hb2.grow.lk (by rw [lzB_cur lc.1]) L7
    have BC:B[c.here]? = some (c.cur.1,some (lazyA f cs.regs.length c.blks.length)):=by
      refine e2_2 (LB c.here _ (lzB_here lc.1)) fun is o e ht=>?_
      refine e0_2 (ht _ rfl) fun h1 h2=>?_
      rw [e,h1,h2,List.append_nil]
    have LC:Lk c.blks B:=gE.lk gm.hop hB
    have L1:Lk c1.blks B:=gm.lk ha.grow.hop LC
    have q8:Rest B c8 = []:=rest_eq (by rw [List.append_nil]; exact B8)
    have qC:Rest B c = []:=rest_eq (by rw [List.append_nil]; exact BC)
    have qB:Rest B (lzB c (lazyA f cs.regs.length c.blks.length))=insAt B c.blks.length:=by
      rw [Rest,lzB_cur lc.1]; rfl
    have qE:Rest B (lzE c8 c.blks.length)=insAt B (c.blks.length + 1):=by
      rw [Rest,lz_cur lc.1 gB8]; rfl
    have tr:∀ {c2:CS},(∃ l,(lzE c8 c.blks.length).regs=c2.regs++l)→∃ l,ts=c2.regs++l:=fun ⟨l2,e2⟩=>by
      refine e1_1 ht ?_;clear ht;intro l e
      exact ⟨l2++l,by rw [e,e2,List.append_assoc]⟩
    have hnt:cs.regs.length < ts.length:=by
      refine e1_1 ht ?_;clear ht;intro l e
      have:=g0E.rl
      rw [e,List.length_append]; lia
    -- the first truth
    refine e2_4 (ha.run ts B rs (tr g1E.regs) L1 hg (by rw [List.length_append] at hm; (refine le1 hm ?_;simp +arith only)) (by assumption)) fun rs1 ka hka w1 a1 v1=>?_
    have va:rd rs1 oa=some (.bool a.mv):=v1 (.v (some oa) _) (List.mem_singleton.mpr rfl)
    refine e1_3 (move_s (cs:=c) hnt va) fun rs2 m2 a2 v2=>?_
    have A2:Aft cs.regs.length a.mk 0 rs rs2:=by
      have:=(a1.weak (n:=cs.regs.length) (by lia)).trans (Nat.le_refl _) a2
      rwa [List.append_nil] at this
    have W2:∀ n,walkT ts B (n + 1 + ka) cs.here (Rest B cs) rs=walkT ts B n (cond a.mv (cond f c.blks.length (c.blks.length + 1)) (cond f (c.blks.length + 1) c.blks.length)) (insAt B (cond a.mv (cond f c.blks.length (c.blks.length + 1)) (cond f (c.blks.length + 1) c.blks.length))) rs2:=fun n=>by
      have e0:Rest B cs=Rest B (cs.reg tBool):=rfl
      have e3:cs.here=(cs.reg tBool).here:=rfl
      rw [e0,e3,w1 (n + 1),sm.rest l1.1 LC,walkT_run m2,qC,← sm.here]
      exact walkT_branch BC v2
    have hl7:c8.blks.length=c7.blks.length:=sm8.len
    have hlB:(lzB c (lazyA f cs.regs.length c.blks.length)).blks.length=c.blks.length + 2:=lzB_len
    have hg7:=hb2.grow.len
    have hr0:(cs.reg tBool).blks.length=cs.blks.length:=rfl
    cases hf:a.mv == f with
    | false =>
      refine ⟨rs2,1 + ka,by rw [lzE_len]; lia,fun n=>?_,by rw [cond_false,List.append_nil]; exact A2,fun w hw=>?_⟩
      · have e4:n + (1 + ka)=n + 1 + ka:=by simp +arith only
        have e5:cond a.mv (cond f c.blks.length (c.blks.length + 1)) (cond f (c.blks.length + 1) c.blks.length)=c.blks.length + 1:=by
          cases hav:a.mv <;> induction f using Bool.casesOn <;> simp_all
        rw [e4,W2 n,e5,qE]; rfl
      · rw [List.mem_singleton] at hw; subst hw
        rw [cond_false]; exact v2
    | true =>
      have e5:cond a.mv (cond f c.blks.length (c.blks.length + 1)) (cond f (c.blks.length + 1) c.blks.length)=c.blks.length:=by
        cases hav:a.mv <;> induction f using Bool.casesOn <;> simp_all
      rw [hf,cond_true,List.length_append] at hm
      refine e1_2 A2.rows fun l el hl=>?_
      refine e2_4 (hb2.run ts B rs2 (tr gm8.regs) L7 (A2.gd h.2 hg) (by rw [A2.marks,List.length_append]; (refine le1 hm ?_;simp +arith only)) (by rw [el,List.length_append]; lia)) fun rs3 kb hkb w3 a3 v3=>?_
      have vb:rd rs3 ob=some (.bool b.mv):=v3 (.v (some ob) _) (List.mem_singleton.mpr rfl)
      refine e1_3 (move_s (cs:=c) hnt vb) fun rs4 m4 a4 v4=>?_
      have rB:cs.regs.length≤(lzB c (lazyA f cs.regs.length c.blks.length)).regs.length:=by
        show _≤c.regs.length
        have:=sm.rl; lia
      have A4:=(A2.trans rB a3).trans (Nat.le_refl _) (a4.weak (Nat.le_refl cs.regs.length))
      rw [List.append_nil] at A4
      refine ⟨rs4,1 + kb + 1 + ka,by rw [lzE_len]; lia,fun n=>?_,by rw [cond_true]; exact A4,fun w hw=>?_⟩
      · have e4:n + (1 + kb + 1 + ka)=(n + 1 + kb) + 1 + ka:=by simp +arith only
        have e6:(lzB c (lazyA f cs.regs.length c.blks.length)).here=c.blks.length:=rfl
        have w3':=w3 (n + 1)
        rw [e6,qB] at w3'
        rw [e4,W2 (n + 1 + kb),e5,w3',sm8.rest hb2.grow.hlt L8,walkT_run m4,q8,← sm8.here,walkT_jump B8,qE]; rfl
      · rw [List.mem_singleton] at hw; subst hw
        rw [cond_true]; exact v4
theorem tru_s:∀ (a:Tru) (cs:CS),Lo cs→cs.cur.2=none→Tm cs (a.comp cs).2 [.v (some (a.comp cs).1) (.bool a.mv)] a.mk 0
  | .mark k,cs,h,ho=>(Sm.mark (t:=tBool) h rfl).tm h ho
  | .const b,cs,h,ho=>((Sm.refl h).more (w:=.v (some (.cst tBool (.bool b))) (.bool b)) h trivial fun rs _=>rfl).tm h ho
  | .not a,cs,h,ho=>by
    have:=(tru_s a cs h ho).frs (t:=tBool) (j:=fun g=>.unary g (a.comp cs).1) (x:=.bool (!a.mv)) h fun ts rs r hw=>by
      have h1:rd rs (a.comp cs).1=some (.bool a.mv):=hw (.v (some (a.comp cs).1) _) (List.mem_singleton.mpr rfl)
      simp only [stepI,h1,Option.bind_some,stU]
    exact this
  | .lazy f a b,cs,h,ho=>lazy_s f a b cs h ho (tru_s a (cs.reg tBool) ⟨h.1,by show 3≤(cs.regs++[tBool]).length; rw [length_app1]; have:=h.2; with_reducible exact Nat.le_succ_of_le (by assumption)⟩ ho) (fun c hc hco=>tru_s b c hc hco)
end Internal.Pl
namespace Internal.Pl
open PySem
theorem num_shown {rs:RS} (a:Num):shown rs a.mv=some a.mv:=by
  cases a with
  | bin p a b=>induction p using Bool.casesOn <;> rfl
  | _=>rfl
noncomputable def Top.due:Top→List V
  | .num a=>[a.mv]
  | .row a=>[a.mv]
  | .tru a=>[.bool a.mv]
  | .ask a=>[vAsrt (vFace a.mv),vTruth (vAsrt (vFace a.mv))]
theorem outs1 {rs:RS} {o:Op} {v x:V} (h:rd rs o=some v) (hx:shown rs v=some x):outs rs [o] = some [x]:=by
  simp only [outs,h,hx,Option.bind_some,Option.map_some]
theorem outs2 {rs:RS} {o p:Op} {v x w y:V} (h:rd rs o=some v) (hx:shown rs v=some x) (h2:rd rs p=some w) (hy:shown rs w=some y):outs rs [o,p] = some [x,y]:=by
  simp only [outs,h,hx,h2,hy,Option.bind_some,Option.map_some]
theorem ask_s (a:Num) (cs:CS) (h:Lo cs) (ho:cs.cur.2=none):Tm cs ((Top.ask a).comp cs).2 [.v (some (.reg ((a.comp cs).2.regs.length + 1))) (vAsrt (vFace a.mv)),.v (some (.reg ((a.comp cs).2.regs.length + 2))) (vTruth (vAsrt (vFace a.mv)))] a.mk 0:=by
  refine Sm.tm ?_ h ho
  have sa:=(num_s a cs h).frs (t:=tAny) (j:=fun g=>.face g (a.comp cs).1) (x:=vFace a.mv) h fun ts rs r hw=>by
    have h1:=hw _ (List.mem_singleton.mpr rfl)
    show (rd rs (a.comp cs).1).bind _=_
    rw [show rd rs (a.comp cs).1=some a.mv from h1]; rfl
  have l1:=sa.lo h
  have n1:((a.comp cs).2.frs tAny (fun g=>.face g (a.comp cs).1)).regs.length=(a.comp cs).2.regs.length + 1:=frs_len
  simp only [Top.comp,askC]
  revert sa l1 n1
  generalize CS.frs (a.comp cs).2 tAny (fun g=>.face g (a.comp cs).1)=c1
  generalize (a.comp cs).2.regs.length=f
  intro sa l1 n1
  refine e1_2 sa.run fun is st r=>?_
  have s2:Str c1 (((c1.reg tInt).reg tBool).ins (.asrt c1.regs.length (some (c1.regs.length + 1)) (.reg f))) [.asrt c1.regs.length (some (c1.regs.length + 1)) (.reg f)] :=
    ((Str.reg l1.1).trans l1.1 (Str.reg (cs:=c1.reg tInt) l1.1)).trans l1.1 Str.ins
  have n2:(((c1.reg tInt).reg tBool).ins (.asrt c1.regs.length (some (c1.regs.length + 1)) (.reg f))).regs.length=c1.regs.length + 2:=by
    show ((c1.regs++[tInt])++[tBool]).length=_
    rw [length_app1,length_app1]
  refine ⟨fun w hw=>?_,is++_,st.trans h.1 s2,fun ts rs ht hg hm hr=>?_⟩
  · rcases List.mem_cons.mp hw with rfl | hw
    · show f + 1 < _
      lia
    · rw [List.mem_singleton] at hw; subst hw
      show f + 2 < _
      lia
  · have ht1:∃ l,ts=c1.regs++l:=by
      refine e1_1 ht ?_;clear ht;intro l e
      refine e1_1 s2.regs fun l2 e2=>?_
      exact ⟨l2++l,by rw [e,e2,List.append_assoc]⟩
    have hlen:c1.regs.length + 1 < ts.length:=by
      refine e1_1 ht ?_;clear ht;intro l e
      rw [e,List.length_append]; lia
    refine e1_3 (r ts rs ht1 hg hm hr) fun rs1 e1 a1 h1=>?_
    have hf:rd rs1 (.reg f)=some (vFace a.mv):=h1 (.v (some (.reg f)) _) (List.mem_singleton.mpr rfl)
    refine e1_3 (put_ok (rs:=rs1) (v:=vAsrt (vFace a.mv)) (show c1.regs.length < ts.length from Nat.lt_of_succ_lt hlen)) fun rs2 e2 a2 h2=>?_
    refine e1_3 (put_ok (rs:=rs2) (v:=vTruth (vAsrt (vFace a.mv))) (show c1.regs.length + 1 < ts.length by assumption)) fun rs3 e3 a3 h3=>?_
    have:=(a1.trans st.rl a2).trans (Nat.le_refl _) (a3.weak (n:=cs.regs.length) (by have:=st.rl; with_reducible exact Nat.le_succ_of_le (by assumption)))
    rw [List.append_nil,List.append_nil] at this
    refine ⟨rs3,?_,this,fun w hw=>?_⟩
    · rw [runI_append,e1]
      show ((rd rs1 (.reg f)).bind fun v=>stA ts.length rs1 c1.regs.length (some (c1.regs.length + 1)) v).bind (runI ts [])=_
      rw [hf]
      simp only [Option.bind_some,stA,e2,e3]; rfl
    · rcases List.mem_cons.mp hw with rfl | hw
      · show rd rs3 (.reg (f + 1))=_
        rw [← n1]
        exact (a3.keep _ (by exact Nat.lt_succ_self _)).trans h2
      · rw [List.mem_singleton] at hw; subst hw
        show rd rs3 (.reg (f + 2))=_
        rw [show f + 2=c1.regs.length + 1 by rw [n1]]
        exact h3
structure TopOk (e:Top):Prop where
  grow:Grow cs3 (e.comp cs3).2
  run:∀ (ts:List V) (B:List Blk),(∃ l,ts=(e.comp cs3).2.regs++l)→Lk (e.comp cs3).2.blks B→e.mk.length≤1000 →
    ∃ (rs':RS) (k:Nat),k + 1≤(e.comp cs3).2.blks.length∧(∀ n,walkT ts B (n + k) 0 (insAt B 0) rs0=walkT ts B n (e.comp cs3).2.here (Rest B (e.comp cs3).2) rs')∧rs'.marks=e.mk∧outs rs' (e.comp cs3).1=some e.due
theorem gd0:Gd rs0:=⟨rfl,rfl,rfl⟩
theorem Tm.top {e:Top} {ws:List Wt} {R:Nat} (hR:R≤1000) (t:Tm cs3 (e.comp cs3).2 ws e.mk R) (h:∀ rs,(∀ w ∈ ws,w.holds rs)→outs rs (e.comp cs3).1=some e.due):TopOk e:=by
  refine ⟨t.grow,fun ts B ht hB hm=>?_⟩
  refine e2_4 (t.run ts B rs0 ht hB gd0 (by show 0 + _≤_; (apply le1 (b:=1000);assumption;simp +arith only)) (by show 0 + _≤_; rw [Nat.zero_add]; exact hR)) fun rs' k h1 h2 h3 h4=>?_
  have e0:Rest B cs3=insAt B 0:=rfl
  refine ⟨rs',k,h1,fun n=>?_,by rw [h3.marks]; rfl,h rs' h4⟩
  rw [← h2 n,e0]; rfl
theorem lo3:Lo cs3:=⟨by decide,by decide⟩
theorem top_ok (e:Top):TopOk e:=by
  cases e with
  | num a =>
    exact Tm.top (e:=.num a) (by simp +arith only) ((num_s a cs3 lo3).tm lo3 rfl) fun rs hw=>outs1 (hw (.v (some (a.comp cs3).1) _) (List.mem_singleton.mpr rfl)) (num_shown a)
  | row a =>
    exact Tm.top (e:=.row a) (by simp +arith only) ((row_s a cs3 lo3).tm lo3 rfl) fun rs hw=>by
      refine e1_2 (hw (.s (a.comp cs3).1 _) (List.mem_singleton.mpr rfl)) fun v h1 h2=>?_
      exact outs1 h1 h2
  | tru a =>
    exact Tm.top (e:=.tru a) (by simp +arith only) (tru_s a cs3 lo3 rfl) fun rs hw=>outs1 (hw (.v (some (a.comp cs3).1) _) (List.mem_singleton.mpr rfl)) rfl
  | ask a =>
    exact Tm.top (e:=.ask a) (by simp +arith only) (ask_s a cs3 lo3 rfl) fun rs hw=>by
      have h1:rd rs (.reg ((a.comp cs3).2.regs.length + 1))=_:=hw (.v (some (.reg ((a.comp cs3).2.regs.length + 1))) _) (List.mem_cons_self ..)
      have h2:rd rs (.reg ((a.comp cs3).2.regs.length + 2))=_:=hw (.v (some (.reg ((a.comp cs3).2.regs.length + 2))) _) (List.mem_cons_of_mem _ (List.mem_singleton.mpr rfl))
      have n1:((a.comp cs3).2.frs tAny (fun g=>.face g (a.comp cs3).1)).regs.length=(a.comp cs3).2.regs.length + 1:=frs_len
      simp only [Top.comp,askC,n1]
      exact outs2 h1 rfl h2 rfl
theorem tru_cnt:∀ (a:Tru) (cs:CS),(a.comp cs).2.blks.length + 2≤cs.blks.length + 2 ^ (a.h + 1)
  | .mark k,cs=>by simp only [Tru.comp,frs_bl,Tru.h]; exact Nat.add_le_add_left (by decide) _
  | .const b,cs=>by simp only [Tru.comp,Tru.h]; exact Nat.add_le_add_left (by decide) _
  | .not a,cs=>by
    have:=tru_cnt a cs
    have:2 ^ (a.h + 1)≤2 ^ (a.h + 1 + 1):=Nat.pow_le_pow_right (by decide) (by exact Nat.le_add_right _ _)
    simp only [Tru.comp,frs_bl,Tru.h]; lia
  | .lazy f a b,cs=>by
    have h1:=tru_cnt a (cs.reg tBool)
    have h2:=tru_cnt b (lz1 f cs.regs.length (a.comp (cs.reg tBool)).1 (a.comp (cs.reg tBool)).2)
    rw [lz1_bl] at h2
    have hr:(cs.reg tBool).blks.length=cs.blks.length:=rfl
    have p1:2 ^ (a.h + 1)≤2 ^ (max a.h b.h + 1):=Nat.pow_le_pow_right (by decide) (Nat.succ_le_succ (Nat.le_max_left ..))
    have p2:2 ^ (b.h + 1)≤2 ^ (max a.h b.h + 1):=Nat.pow_le_pow_right (by decide) (Nat.succ_le_succ (Nat.le_max_right ..))
    have p3:2 ^ (max a.h b.h + 1 + 1)=2 * 2 ^ (max a.h b.h + 1):=by rw [Nat.pow_succ]; simp +arith only
    simp only [Tru.comp,lz2_bl,Tru.h]; rw [p3]; exact ar6 h1 h2 p1 p2
theorem top_cnt (e:Top) (h:e.h≤4):(e.comp cs3).2.blks.length≤32:=by
  have l3:cs3.blks.length=1:=rfl
  cases e with
  | num a=>refine e1_2 ((num_s a cs3 lo3).run) fun is st _=>?_; have:=st.len; simp only [Top.comp]; lia
  | row a=>refine e1_2 ((row_s a cs3 lo3).run) fun is st _=>?_; have:=st.len; simp only [Top.comp]; lia
  | tru a =>
    have h1:=tru_cnt a cs3
    simp only [Top.h] at h
    have p:2 ^ (a.h + 1)≤2 ^ 5:=Nat.pow_le_pow_right (by decide) (by with_reducible exact Nat.succ_le_succ (by assumption))
    simp only [Top.comp]; lia
  | ask a =>
    refine e1_2 ((num_s a cs3 lo3).run) fun is st _=>?_
    have:=st.len
    simp only [Top.comp,askC,ins_bl,CS.reg,frs_bl]; lia
theorem pw2 {a h H:Nat} (l:h≤H) (x:a≤2 ^ h):a≤2 ^ H:=Nat.le_trans x (Nat.pow_le_pow_right (by decide) l)
theorem pw4 {a h H:Nat} (l:h≤H) (x:a≤4 ^ h):a≤4 ^ H:=Nat.le_trans x (Nat.pow_le_pow_right (by decide) l)
theorem pwS {a b H:Nat} (x:a≤2 ^ H) (y:b≤2 ^ H):a + b≤2 ^ (H + 1):=by rw [Nat.pow_succ]; rw [Nat.mul_two]; exact Nat.add_le_add x y
theorem pw4S {a b c d H:Nat} (x:a≤4 ^ H) (y:b≤4 ^ H) (z:c≤4 ^ H) (w:d≤4 ^ H):a + (b + (c + d))≤4 ^ (H + 1):=by rw [Nat.pow_succ]; lia
theorem num_mk:∀ a:Num,a.mk.length≤2 ^ a.h
  | .mark k=>Nat.le_of_ble_eq_true rfl
  | .glob=>by decide
  | .zero=>by decide
  | .conv k=>Nat.le_of_ble_eq_true rfl
  | .deref=>by decide
  | .bin p a b=>by
    show (a.mk++b.mk).length≤2 ^ (max a.h b.h + 1)
    rw [List.length_append]
    exact pwS (pw2 (Nat.le_max_left ..) (num_mk a)) (pw2 (Nat.le_max_right ..) (num_mk b))
  | .asrt a=>pw2 (Nat.le_succ _) (num_mk a)
theorem mkO_le (x:Option Num) {H:Nat} (h:hO x≤H):(mkO x).length≤4 ^ H:=by
  induction x using Option.casesOn with
  | none=>exact Nat.zero_le _
  | some a=>exact pw4 h (Nat.le_trans (num_mk a) (Nat.pow_le_pow_left (by decide) _))
theorem row_mk:∀ a:Row,a.mk.length≤4 ^ a.h
  | .held=>by decide
  | .nil=>by decide
  | .row a b=>by
    show (a.mk++b.mk).length≤4 ^ (max a.h b.h + 1)
    rw [List.length_append]
    exact pw4S (mkO_le (some a) (Nat.le_max_left ..)) (mkO_le (some b) (Nat.le_max_right ..)) (Nat.zero_le _) (Nat.zero_le _) (c:=0) (d:=0)
  | .cut none lo hi mx=>by
    show (mkO lo++(mkO hi++mkO mx)).length≤4 ^ (max (hO lo) (max (hO hi) (hO mx)) + 1)
    rw [List.length_append,List.length_append]
    exact pw4S (mkO_le lo (Nat.le_max_left ..)) (mkO_le hi (Nat.le_trans (Nat.le_max_left ..) (Nat.le_max_right ..))) (mkO_le mx (Nat.le_trans (Nat.le_max_right ..) (Nat.le_max_right ..))) (Nat.zero_le _) (d:=0)
  | .cut (some w) lo hi mx=>by
    show (w.mk++(mkO lo++(mkO hi++mkO mx))).length≤4 ^ (max w.h (max (hO lo) (max (hO hi) (hO mx))) + 1)
    rw [List.length_append,List.length_append,List.length_append]
    exact pw4S (pw4 (Nat.le_max_left ..) (row_mk w)) (mkO_le lo (Nat.le_trans (Nat.le_max_left ..) (Nat.le_max_right ..))) (mkO_le hi (Nat.le_trans (Nat.le_trans (Nat.le_max_left ..) (Nat.le_max_right ..)) (Nat.le_max_right ..))) (mkO_le mx (Nat.le_trans (Nat.le_trans (Nat.le_max_right ..) (Nat.le_max_right ..)) (Nat.le_max_right ..)))
theorem tru_mk:∀ a:Tru,a.mk.length≤2 ^ a.h
  | .mark k=>Nat.le_of_ble_eq_true rfl
  | .const b=>Nat.zero_le _
  | .not a=>pw2 (Nat.le_succ _) (tru_mk a)
  | .lazy f a b=>by
    show (a.mk++(bif a.mv == f then b.mk else [])).length≤2 ^ (max a.h b.h + 1)
    rw [List.length_append]
    refine pwS (pw2 (Nat.le_max_left ..) (tru_mk a)) ?_
    cases (a.mv == f) with
    | true=>exact pw2 (Nat.le_max_right ..) (tru_mk b)
    | false=>exact Nat.zero_le _
theorem top_mk (e:Top) (h:e.h≤4):e.mk.length≤256:=by
  cases e with
  | num a=>have:=num_mk a; have p:2 ^ a.h≤2 ^ 4:=Nat.pow_le_pow_right (by decide) h; simp only [Top.mk]; exact Nat.le_trans (Nat.le_trans this p) (Nat.le_of_ble_eq_true rfl)
  | row a=>have:=row_mk a; have p:4 ^ a.h≤4 ^ 4:=Nat.pow_le_pow_right (by decide) h; simp only [Top.mk]; with_reducible exact Nat.le_trans (by assumption) (by assumption)
  | tru a=>have:=tru_mk a; have p:2 ^ a.h≤2 ^ 4:=Nat.pow_le_pow_right (by decide) h; simp only [Top.mk]; exact Nat.le_trans (Nat.le_trans this p) (Nat.le_of_ble_eq_true rfl)
  | ask a=>simp only [Top.h] at h; have:=num_mk a; have p:2 ^ a.h≤2 ^ 4:=Nat.pow_le_pow_right (by decide) (by (refine le1 h ?_;simp +arith only)); simp only [Top.mk]; exact Nat.le_trans (Nat.le_trans this p) (Nat.le_of_ble_eq_true rfl)
theorem top_fsh (e:Top) (h:e.h≤4):Fsh e.done:=by
  have g:=(top_ok e).grow
  have hc:=top_cnt e h
  have hl:e.done.blks.length=(e.comp cs3).2.blks.length:=by simp only [Top.done,cls_bl]
  have h0:cs3.blks.length=1:=rfl
  have hb:e.done.blks=(e.comp cs3).2.blks.set (e.comp cs3).2.here ((e.comp cs3).2.cur.1,some (.ret (e.comp cs3).1)):=rfl
  refine ⟨?_,?_,fun b is o hk=>?_,fun b h1 h2=>?_⟩
  · have:=g.hlt; rw [hl]; (refine le1 this ?_;simp +arith only)
  · rw [hl]; (apply le1;assumption;simp +arith only)
  · have hlt:=getE hk
    by_cases hn:b=(e.comp cs3).2.here
    · subst hn
      rw [hb,List.getElem?_set_self g.hlt] at hk
      simp only [Option.some.injEq,Prod.mk.injEq] at hk
      exact ⟨_,hk.2.symm,fun x hx=>by simp [tgt] at hx⟩
    · refine e2_2 (g.cl b (by show b=0 ∨ _; lia) (by rw [← hl]; exact hlt) hn) fun is' t h1 h2=>?_
      rw [hb,List.getElem?_set_ne (Ne.symm hn),h1] at hk
      simp only [Option.some.injEq,Prod.mk.injEq] at hk
      exact ⟨t,hk.2.symm,fun x hx=>by rw [hl]; exact h2 x hx⟩
  · refine e3_3 (g.pr b (by lia) (by rw [← hl]; exact h2)) fun p is t hp e1 ht=>?_
    exact ⟨p,is,t,hp,by rw [hb,List.getElem?_set_ne (Ne.symm (open_ne g.hlt g.hop e1)),e1],ht⟩
theorem top_walk (e:Top) (h:e.h≤4):∃ rs',walkT e.done.regs e.done.blks 89 0 (insAt e.done.blks 0) rs0=some ((e.comp cs3).1,rs')∧rs'.marks=e.mk∧outs rs' (e.comp cs3).1=some e.due:=by
  have t:=top_ok e
  have g:=t.grow
  have hc:=top_cnt e h
  have hB:Lk e.done.blks e.done.blks:=fun b k hk=>⟨[],k.2,by rw [List.append_nil]; exact hk,fun t ht=>⟨rfl,ht⟩⟩
  have hB2:Lk (e.comp cs3).2.blks e.done.blks:=Lk.cls (t:=.ret (e.comp cs3).1) g.hlt g.hop hB
  refine e2_4 (t.run e.done.regs e.done.blks ⟨[],by rw [List.append_nil]; rfl⟩ hB2 (by have:=top_mk e h; (apply le1;assumption;simp +arith only))) fun rs' k h1 h2 h3 h4=>?_
  refine ⟨rs',?_,h3,h4⟩
  have e9:89=(89 - k) + k:=(Nat.sub_add_cancel (Nat.le_trans (Nat.le_of_succ_le (Nat.le_trans h1 hc)) (Nat.le_of_ble_eq_true rfl))).symm
  have br:e.done.blks[(e.comp cs3).2.here]? = some ((e.comp cs3).2.cur.1,some (.ret (e.comp cs3).1)):=by
    show ((e.comp cs3).2.blks.set (e.comp cs3).2.here _)[_]? = _
    rw [List.getElem?_set_self g.hlt]
  have re:Rest e.done.blks (e.comp cs3).2 = []:=rest_eq (by rw [List.append_nil]; exact br)
  rw [e9,h2,re]
  exact walkT_ret br
end Internal.Pl
namespace Internal.Pl
open PySem
theorem plains_c {v:V} {r:List V} (h:plain v=true) (h2:plains r=true):plains (v :: r)=true:=by
  show (plain v && plains r)=true; rw [h,h2]; rfl
theorem plain_t {r:List V} (h:plains r=true):plain (.tup r)=true:=h
theorem num_pl:∀ a:Num,plain a.mv=true
  | .mark k=>rfl
  | .glob=>rfl
  | .zero=>rfl
  | .conv k=>rfl
  | .deref=>rfl
  | .bin p a b=>plain_t (plains_c rfl (plains_c (num_pl a) (plains_c (num_pl b) rfl)))
  | .asrt a=>plain_t (plains_c rfl (plains_c (plain_t (plains_c rfl (plains_c (num_pl a) rfl))) rfl))
theorem mvO_pl (x:Option Num):plain (mvO x)=true:=by
  induction x using Option.casesOn with
  | none=>rfl
  | some a=>exact num_pl a
theorem cut_pl {w a b c t:V} (h1:plain w=true) (h2:plain a=true) (h3:plain b=true) (h4:plain c=true) (h5:plain t=true):plain (vCut w a b c t)=true :=
  plain_t (plains_c rfl (plains_c h1 (plains_c (plain_t (plains_c h2 (plains_c h3 (plains_c h4 rfl)))) (plains_c h5 rfl))))
theorem row_pl:∀ a:Row,plain a.mv=true
  | .held=>rfl
  | .nil=>rfl
  | .row a b=>plain_t (plains_c rfl (plains_c (plain_t (plains_c (num_pl a) (plains_c (num_pl b) rfl))) rfl))
  | .cut none lo hi mx=>cut_pl rfl (mvO_pl lo) (mvO_pl hi) (mvO_pl mx) rfl
  | .cut (some w) lo hi mx=>cut_pl (row_pl w) (mvO_pl lo) (mvO_pl hi) (mvO_pl mx) rfl
theorem due_pl (e:Top):plains e.due=true:=by
  cases e with
  | num a=>exact plains_c (num_pl a) rfl
  | row a=>exact plains_c (row_pl a) rfl
  | tru a=>rfl
  | ask a=>exact plains_c (num_pl (.asrt a)) (plains_c (plain_t (plains_c rfl (plains_c (num_pl (.asrt a)) rfl))) rfl)
theorem dep_t {r:List V}:dep (.tup r)=deps r + 1:=rfl
theorem dep_l {r:List V}:dep (.lst r)=deps r + 1:=rfl
theorem deps_c {v:V} {r:List V}:deps (v :: r)=max (dep v) (deps r):=rfl
theorem deps_n:deps [] = 0:=rfl
theorem dep_s {n:Nat}:dep (.str n)=0:=rfl
theorem dep_i {n:Int}:dep (.int n)=0:=rfl
theorem dep_no:dep .none=0:=rfl
theorem dc {v:V} {r:List V} {n:Nat} (h:dep v≤n) (k:deps r≤n):deps (v :: r)≤n:=Nat.max_le.mpr ⟨h,k⟩
theorem dn {n:Nat}:deps [] ≤ n:=Nat.zero_le _
theorem dz {x n:Nat} (h:x=0):x≤n:=h ▸ Nat.zero_le _
theorem dt {r:List V} {n:Nat} (h:deps r≤n):dep (.tup r)≤n + 1:=Nat.succ_le_succ h
theorem d4 {a b x:Nat} (h:x≤4 * a) (l:a≤b):x≤4 * b:=Nat.le_trans h (Nat.mul_le_mul_left 4 l)
theorem la {x n:Nat} (k:Nat) (h:x≤n):x≤n + k:=Nat.le_add_right_of_le h
theorem lc {x n k:Nat} (h:Nat.ble x k=true):x≤n + k:=Nat.le_trans (Nat.le_of_ble_eq_true h) (Nat.le_add_left ..)
theorem d100 {a x:Nat} (h:x≤4 * a) (l:a≤4):x≤99:=by exact Nat.le_trans h (Nat.le_trans (Nat.mul_le_mul_left 4 l) (Nat.le_of_ble_eq_true rfl))
theorem num_dep:∀ a:Num,dep a.mv≤4 * a.h
  | .mark k=>Nat.le_of_ble_eq_true rfl
  | .glob=>Nat.le_of_ble_eq_true rfl
  | .zero=>Nat.le_of_ble_eq_true rfl
  | .conv k=>Nat.le_of_ble_eq_true rfl
  | .deref=>Nat.le_of_ble_eq_true rfl
  | .bin p a b=>dt (n:=4 * max a.h b.h + 3) (dc (dz rfl) (dc (la 3 (d4 (num_dep a) (Nat.le_max_left ..))) (dc (la 3 (d4 (num_dep b) (Nat.le_max_right ..))) (dc (lc rfl) dn))))
  | .asrt a=>dt (n:=4 * a.h + 3) (dc (dz rfl) (dc (dt (n:=4 * a.h + 2) (dc (dz rfl) (dc (la 2 (num_dep a)) (dc (lc rfl) dn)))) (dc (lc rfl) (dc (lc rfl) dn))))
theorem mvO_dep (x:Option Num):dep (mvO x)≤4 * hO x:=by
  induction x using Option.casesOn with
  | none=>exact Nat.le_refl _
  | some a=>exact num_dep a
theorem cut_dep {w a b c t:V} {n:Nat} (h:dep w≤4 * n + 3) (h1:dep a≤4 * n) (h2:dep b≤4 * n) (h3:dep c≤4 * n) (h4:Nat.ble (dep t) 3=true):dep (vCut w a b c t)≤4 * (n + 1) :=
  dt (n:=4 * n + 3) (dc (dz rfl) (dc h (dc (dt (n:=4 * n + 2) (dc (la 2 h1) (dc (la 2 h2) (dc (la 2 h3) dn)))) (dc (lc h4) dn))))
theorem row_dep:∀ a:Row,dep a.mv≤4 * a.h
  | .held=>Nat.le_of_ble_eq_true rfl
  | .nil=>Nat.le_of_ble_eq_true rfl
  | .row a b=>dt (n:=4 * max a.h b.h + 3) (dc (dz rfl) (dc (dt (n:=4 * max a.h b.h + 2) (dc (la 2 (d4 (num_dep a) (Nat.le_max_left ..))) (dc (la 2 (d4 (num_dep b) (Nat.le_max_right ..))) dn))) dn))
  | .cut none lo hi mx=>cut_dep (n:=max (hO lo) (max (hO hi) (hO mx))) (lc rfl) (d4 (mvO_dep lo) (Nat.le_max_left ..)) (d4 (mvO_dep hi) (Nat.le_trans (Nat.le_max_left ..) (Nat.le_max_right ..))) (d4 (mvO_dep mx) (Nat.le_trans (Nat.le_max_right ..) (Nat.le_max_right ..))) rfl
  | .cut (some w) lo hi mx=>cut_dep (la 3 (d4 (row_dep w) (Nat.le_max_left ..))) (d4 (mvO_dep lo) (Nat.le_trans (Nat.le_max_left ..) (Nat.le_max_right ..))) (d4 (mvO_dep hi) (Nat.le_trans (Nat.le_trans (Nat.le_max_left ..) (Nat.le_max_right ..)) (Nat.le_max_right ..))) (d4 (mvO_dep mx) (Nat.le_trans (Nat.le_trans (Nat.le_max_right ..) (Nat.le_max_right ..)) (Nat.le_max_right ..))) rfl
theorem due_dep (e:Top) (h:e.h≤4):deps e.due≤100:=by
  cases e with
  | num a=>exact dc (Nat.le_succ_of_le (d100 (num_dep a) h)) dn
  | row a=>exact dc (Nat.le_succ_of_le (d100 (row_dep a) h)) dn
  | tru a=>exact Nat.le_of_ble_eq_true rfl
  | ask a=>exact dc (Nat.le_succ_of_le (d100 (num_dep (.asrt a)) h)) (dc (dt (dc (dz rfl) (dc (d100 (num_dep (.asrt a)) h) dn))) dn)
theorem ints_pl:∀ l:List Int,plains (l.map V.int)=true
  | []=>rfl
  | i :: r=>plains_c rfl (ints_pl r)
theorem ints_dep:∀ l:List Int,deps (l.map V.int)=0
  | []=>rfl
  | i :: r=>by rw [List.map_cons,deps_c,ints_dep r]; rfl
theorem res_list {σ:S} {l:Nat} {vs:List V} (h:σ[l]? = some (.list vs)) (hp:plains vs=true):res σ (.loc l)=some (.lst vs):=by
  unfold res; simp only [h,hp,if_true]
theorem q_end {σ:S} {a b d:Nat} {xs:List V} {ms:List Int} (ha:σ[a]? = some (.list (ms.map .int))) (hb:σ[b]? = some (.list (ms.map .int))) (hd:σ[d]? = some (.list xs)) (hp:plains xs=true) (hq:deps xs≤100) :
    eqv (.tup [.lst xs,.loc a]) (.tup [.loc d,.loc b]) σ=some true:=by
  have e1:res σ (.tup [.lst xs,.loc a])=some (.tup [.lst xs,.lst (ms.map .int)]):=by
    show (ress σ [.lst xs,.loc a]).map V.tup=_
    have:ress σ [.lst xs,.loc a] = some [.lst xs,.lst (ms.map .int)]:=by
      show (res σ (.lst xs)).bind (fun x=>((res σ (.loc a)).bind fun y=>(some []).map (y :: ·)).map (x :: ·))=_
      rw [res_plain (.lst xs) hp,res_list ha (ints_pl ms)]; rfl
    rw [this]; rfl
  have e2:res σ (.tup [.loc d,.loc b])=some (.tup [.lst xs,.lst (ms.map .int)]):=by
    show (ress σ [.loc d,.loc b]).map V.tup=_
    have:ress σ [.loc d,.loc b] = some [.lst xs,.lst (ms.map .int)]:=by
      show (res σ (.loc d)).bind (fun x=>((res σ (.loc b)).bind fun y=>(some []).map (y :: ·)).map (x :: ·))=_
      rw [res_list hd hp,res_list hb (ints_pl ms)]; rfl
    rw [this]; rfl
  have hv:veq (.tup [.lst xs,.lst (ms.map .int)]) (.tup [.lst xs,.lst (ms.map .int)])=true:=veq_self _ (plain_t (plains_c hp (plains_c (ints_pl ms) rfl)))
  have hd:Nat.ble (dep (.tup [.lst xs,.lst (ms.map .int)])) 500=true:=by
    refine Nat.ble_eq_true_of_le ?_
    simp only [dep_t,dep_l,deps_c,deps_n,ints_dep]; lia
  rw [eqv,e1]
  simp only [Option.bind_some,e2,hd,hv,Bool.or_true,if_true]
noncomputable def Top.isAsk:Top→Bool
  | .ask _=>true
  | _=>false
theorem top_tag (e:Top):∃ (k:Nat) (b:Bool),(∀ σ,getItem e.toV (.int 0) σ=some (.str k,σ))∧(k == 0x617373657274)=b∧(b=true→∀ σ,getItem e.toV (.int (-1)) σ=some (.bool e.isAsk,σ))∧(b=false→e.isAsk=false):=by
  have no:∀ e:Top,e.isAsk=false→∀ k,(k == 0x617373657274)=false→(∀ σ,getItem e.toV (.int 0) σ=some (.str k,σ))→∃ (k:Nat) (b:Bool),(∀ σ,getItem e.toV (.int 0) σ=some (.str k,σ))∧(k == 0x617373657274)=b∧(b=true→∀ σ,getItem e.toV (.int (-1)) σ=some (.bool e.isAsk,σ))∧(b=false→e.isAsk=false) :=
    fun e h k hk h0=>⟨k,false,h0,hk,fun h=>(by exact ff h),fun _=>h⟩
  cases e with
  | num a=>cases a with
    | asrt a=>exact ⟨_,true,fun _=>rfl,rfl,fun _ _=>rfl,fun h=>by cases h⟩
    | _=>exact no _ rfl _ rfl fun _=>rfl
  | row a=>cases a with
    | cut w lo hi mx=>induction w using Option.casesOn <;> exact no _ rfl 0x637574 rfl fun _=>rfl
    | held=>exact no _ rfl 0x6c6f63616c rfl fun _=>rfl
    | nil=>exact no _ rfl 0x6e696c rfl fun _=>rfl
    | row a b=>exact no _ rfl 0x726f77 rfl fun _=>rfl
  | tru a=>cases a <;> exact no _ rfl _ rfl fun _=>rfl
  | ask a=>exact ⟨_,true,fun _=>rfl,rfl,fun _ _=>rfl,fun h=>by cases h⟩
theorem exs_app {T:Tab} {C:Cl}:∀ (a b:List XS) (m m':M) (σ σ':S),exs T C a m σ=some (none,m',σ')→exs T C (a++b) m σ=exs T C b m' σ'
  | [],b,m,m',σ,σ',h=>by
    rw [xs_nil] at h
    simp only [Option.some.injEq,Prod.mk.injEq,true_and] at h
    refine e0_2 h ?_;clear h;rintro rfl rfl; rfl
  | s :: r,b,m,m',σ,σ',h=>by
    rw [xs_cons] at h
    refine bse h fun q hq h=>?_
    rw [List.cons_append,xs_cons,hq]
    obtain ⟨o,m1,σ1⟩:=q
    induction o using Option.casesOn with
    | some w=>cases h
    | none=>exact exs_app r b m1 m' σ1 σ' h
theorem Top.due_eq (e:Top):e.due=bif e.isAsk then [e.mv,vTruth e.mv] else [e.mv]:=by cases e <;> rfl
theorem top_os (e:Top) (cs:CS):(e.comp cs).1.length≤1000:=by cases e <;> exact Nat.le_of_ble_eq_true rfl
theorem is_right (e:Top) (h:e.h≤4) (n:Nat) (hn:90≤n) (P:S) (hP:∃ b,P[0]? = some (.code b)) :
    ∃ P1 L,Pe P P1∧cf TB FT n 713 [e.toV] P=some (.bool true,P1++L):=by
  obtain ⟨n,rfl⟩:∃ m,n=m + 6:=⟨n - 6,by (refine (Nat.sub_add_cancel (le1 hn ?_)).symm;simp +arith only)⟩
  have hbd:Bd e.h≤20000:=Nat.le_trans (Bd_mono h) (Nat.le_of_ble_eq_true rfl)
  refine e0_2 (head713 e (n + 5) P (by lia) (by (apply le1;assumption;simp +arith only))) fun hd ok=>?_
  have fs:=top_fsh e h
  have mkl:=top_mk e h
  refine e1_3 (top_walk e h) fun rs' hw hm ho=>?_
  have g:=(top_ok e).grow
  -- the state's store behind
  have hl0:(st P e.done++[O.list (([]:List Int).map V.int)])[(st P e.done).length]? = some (.list (([]:List Int).map V.int)):=pre_get0
  have m1:=top_m e (n + 5) (st P e.done++[O.list (([]:List Int).map V.int)]) (st P e.done).length [] (by lia) hl0 (by simp; (apply le1;assumption;simp +arith only))
  rw [pre_set0,List.nil_append] at m1
  have m1':cf TB FT (n + 5) 682 [.loc (st P e.done).length,e.toV] (st P e.done++[O.list []])=some (e.mv,st P e.done++[O.list (e.mk.map V.int)]):=m1
  refine e2_2 (m_finished (n:=n + 2) (X:=[O.list (e.mk.map V.int),O.list e.due]) ok fs hP) fun P1 F hp hfin=>?_
  have ca:=codeAt_fin (X:=[O.list (e.mk.map V.int),O.list e.due]) (N:=e.done.blks.length) (F:=F) ok hp
  have hwk:=m_walked (n:=n + 2) (s:=sta P) ca (top_os e cs3) (by
    refine e1_1 g.regs fun l hl=>?_
    show 3≤(e.comp cs3).2.regs.length
    rw [hl,List.length_append]; show 3≤3 + _; exact Nat.le_add_right _ _) ho hw
  · generalize hQ:sx P1 [O.list (e.mk.map V.int),O.list e.due] e.done++fX (sx P [O.list (e.mk.map V.int),O.list e.due] e.done).length e.done.blks.length F e.done=Q at *
    have hfinal:∃ L,wk Q rs'=P1++L:=by
      rw [wk,← hQ,sx,st]
      simp only [List.append_assoc]
      exact ⟨_,rfl⟩
    refine e1_1 hfinal ?_;clear hfinal;intro L hL
    refine ⟨P1,L,hp,?_⟩
    have hlen:(st P1 e.done).length=(st P e.done).length:=by rw [st_len,st_len,hp.len]
    have gm:Q[(st P e.done).length]? = some (.list (e.mk.map V.int)):=by
      rw [← hQ,sx,← hlen]; exact get_app pre_get0
    have gd:Q[(st P e.done).length + 1]? = some (.list e.due):=by
      rw [← hQ,sx,← hlen]; exact get_app pre_get
    have hq:=q_end (σ:=wk Q rs') (ms:=e.mk) (a:=Q.length + 1) (b:=(st P e.done).length) (d:=(st P e.done).length + 1) (by rw [wk1,hm]) (wkQ gm) (wkQ gd) (due_pl e) (due_dep e h)
    have mf:methOk TB (sta P) 0x66696e6973686564 (sx P [O.list (e.mk.map V.int),O.list e.due] e.done)=some (some 531):=mox mo_finished
    have hsx:∀ d,st P e.done++[O.list (e.mk.map V.int),O.list d] = sx P [O.list (e.mk.map V.int),O.list d] e.done:=fun _=>rfl
    have sl1:∀ a:O,(st P e.done++[a]).length=(st P e.done).length + 1:=fun _=>len1
    refine e2_4 (top_tag e) fun k b t1 t2 t3 t4=>?_
    rw [cf_713,← List.take_append_drop 5 F713.body,exs_app _ _ _ _ _ _ hd]
    have due_eq:=e.due_eq
    induction b using Bool.casesOn with
    | false =>
      rw [t4 rfl,cond_false] at due_eq
      rw [due_eq] at hfin mf hwk
      rw [due_eq] at hq
      simp only [EV,F713,List.drop_succ_cons,List.drop_zero,m1',app_app,List.cons_append,List.nil_append,sl1,t1,t2,hsx,mf,hfin,hwk,hq]
      rw [hL]
    | true =>
      have t3':=t3 rfl
      cases ha:e.isAsk with
      | false =>
        rw [ha,cond_false] at due_eq
        rw [ha] at t3'
        rw [due_eq] at hfin mf hwk
        rw [due_eq] at hq
        simp only [EV,F713,List.drop_succ_cons,List.drop_zero,m1',app_app,List.cons_append,List.nil_append,sl1,t1,t2,t3',hsx,mf,hfin,hwk,hq]
        rw [hL]
      | true =>
        rw [ha,cond_true] at due_eq
        rw [ha] at t3'
        rw [due_eq] at hfin mf hwk
        rw [due_eq] at hq
        have gdu:(sx P [O.list (e.mk.map V.int),O.list [e.mv]] e.done)[(st P e.done).length + 1]? = some (.list [e.mv]):=pre_get
        have gi:getItem (.loc ((st P e.done).length + 1)) (.int 0) (sx P [O.list (e.mk.map V.int),O.list [e.mv]] e.done)=some (e.mv,sx P [O.list (e.mk.map V.int),O.list [e.mv]] e.done):=gi_list (k:=0) gdu rfl (by simp +arith only)
        have ap:methS ((st P e.done).length + 1) 0x617070656e64 [vTruth e.mv] (sx P [O.list (e.mk.map V.int),O.list [e.mv]] e.done)=some (.none,sx P [O.list (e.mk.map V.int),O.list [e.mv,vTruth e.mv]] e.done):=by
          rw [ms_app gdu rfl,sx,pre_set]; rfl
        simp only [EV,F713,List.drop_succ_cons,List.drop_zero,m1',app_app,List.cons_append,List.nil_append,sl1,t1,t2,t3',hsx,mo_app gdu,gi,ap,mf,hfin,hwk,hq]
        rw [hL]
end Internal.Pl
namespace Internal.Pl
open PySem
structure Iv (σ:S) (a b:Int):Prop where
  c:∃ x,σ[0]? = some (.code x)
  s:Src σ 1 a b
theorem Iv.right {σ:S} {a b:Int} (v:Iv σ a b) (e:Top) (h:e.h≤4):∃ σ',cf TB FT 99 713 [e.toV] σ=some (.bool true,σ')∧Iv σ' a b:=by
  refine e2_2 (is_right e h 99 (by simp +arith only) σ v.c) fun P1 L hp hc=>?_
  refine e1_1 hp.c fun x hx=>?_
  exact ⟨_,hc,⟨x,get_app hx⟩,get_app ((hp.r 1 (by decide)).trans v.s)⟩
theorem Iv.set {σ:S} {a b a' b':Int} (v:Iv σ a b):Iv (σ.set 1 (.list [.int a',.int b'])) a' b':=by
  refine ⟨?_,src_set v.s⟩
  refine e1_1 v.c fun x hx=>?_
  exact ⟨x,by rw [List.getElem?_set_ne (by decide)]; exact hx⟩
theorem Iv.num {σ:S} {a b:Int} (v:Iv σ a b) (d:Nat) (hd:d≤3):∃ (t:Num) (σ':S) (a' b':Int),t.h≤d + 1∧cf TB FT 99 649 [.loc 1,.int d] σ=some (t.toV,σ')∧Iv σ' a' b':=by
  refine e3_2 (num_ok d 99 (by exact Nat.le_trans (Nat.add_le_add_right (Nat.mul_le_mul_left 2 hd) 4) (Nat.le_of_ble_eq_true rfl)) v.s) fun t a' b' h1 h2=>?_
  exact ⟨t,_,a',b',h1,h2,v.set⟩
theorem Iv.row {σ:S} {a b:Int} (v:Iv σ a b) (d:Nat) (hd:d≤3):∃ (t:Row) (σ':S) (a' b':Int),t.h≤d + 1∧cf TB FT 99 663 [.loc 1,.int d] σ=some (t.toV,σ')∧Iv σ' a' b':=by
  refine e3_2 (row_ok d 99 (by exact Nat.le_trans (Nat.add_le_add_right (Nat.mul_le_mul_left 2 hd) 8) (Nat.le_of_ble_eq_true rfl)) v.s) fun t a' b' h1 h2=>?_
  exact ⟨t,_,a',b',h1,h2,v.set⟩
theorem Iv.tru {σ:S} {a b:Int} (v:Iv σ a b) (d:Nat) (hd:d≤3):∃ (t:Tru) (σ':S) (a' b':Int),t.h≤d + 1∧cf TB FT 99 670 [.loc 1,.int d] σ=some (t.toV,σ')∧Iv σ' a' b':=by
  refine e3_2 (tru_ok d 99 (by exact Nat.le_trans (Nat.add_le_add_right (Nat.mul_le_mul_left 2 hd) 8) (Nat.le_of_ble_eq_true rfl)) v.s) fun t a' b' h1 h2=>?_
  exact ⟨t,_,a',b',h1,h2,v.set⟩
noncomputable abbrev vLz (w:Nat) (i j:Int):V:=.tup [.str 0x6c617a79,tBool,.int 0,.str w,vMark tBool i,vMark tBool j]
theorem law_true3 (is:List Int) (hl:is.length≤1000000000000000000):∃ σ' x,cf TB FT 100 718 [.lst (is.map .int)] [.code false] = some (.bool true,σ')∧σ'[0]? = some (.code x):=by
  refine e2_1 (pool_ok is hl 98 (σ:=[.code false])) fun a b h0=>?_
  have h0':cf TB FT 99 621 [.lst (is.map .int)] [.code false] = some (.loc 1,[.code false,.list [.int a,.int b]]):=h0
  have v0:Iv [.code false,.list [.int a,.int b]] a b:=⟨⟨false,rfl⟩,rfl⟩
  refine e1_2 (v0.right (.tru (.lazy true (.mark 1) (.mark 2))) (by decide)) fun s1 h1 v1=>?_
  refine e1_2 (v1.right (.tru (.lazy true (.mark 2) (.mark 1))) (by decide)) fun s2 h2 v2=>?_
  refine e1_2 (v2.right (.tru (.lazy false (.mark 1) (.mark 2))) (by decide)) fun s3 h3 v3=>?_
  refine e1_2 (v3.right (.tru (.lazy false (.mark 2) (.mark 1))) (by decide)) fun s4 h4 v4=>?_
  have g1:cf TB FT 99 713 [vLz 0x2626 1 2] [.code false,.list [.int a,.int b]] = some (.bool true,s1):=h1
  have g2:cf TB FT 99 713 [vLz 0x2626 2 1] s1=some (.bool true,s2):=h2
  have g3:cf TB FT 99 713 [vLz 0x7c7c 1 2] s2=some (.bool true,s3):=h3
  have g4:cf TB FT 99 713 [vLz 0x7c7c 2 1] s3=some (.bool true,s4):=h4
  refine e4_3 (v4.num 2 (by simp +arith only)) fun t5 s5 a5 b5 k5 h5 v5=>?_
  refine e4_3 (v5.num 3 (by simp +arith only)) fun t6 s6 a6 b6 k6 h6 v6=>?_
  refine e4_3 (v6.row 3 (by simp +arith only)) fun t7 s7 a7 b7 k7 h7 v7=>?_
  refine e4_3 (v7.tru 3 (by simp +arith only)) fun t8 s8 a8 b8 k8 h8 v8=>?_
  refine e1_2 (v8.right (.num t6) k6) fun s9 h9 v9=>?_
  refine e1_2 (v9.right (.row t7) k7) fun s10 h10 v10=>?_
  refine e1_2 (v10.right (.tru t8) k8) fun s11 h11 v11=>?_
  refine e1_2 (v11.right (.ask t5) (by simp only [Top.h]; with_reducible exact Nat.succ_le_succ (by assumption))) fun s12 h12 v12=>?_
  have g5:cf TB FT 99 649 [.loc 1,.int 2] s4=some (t5.toV,s5):=h5
  have g6:cf TB FT 99 649 [.loc 1,.int 3] s5=some (t6.toV,s6):=h6
  have g7:cf TB FT 99 663 [.loc 1,.int 3] s6=some (t7.toV,s7):=h7
  have g8:cf TB FT 99 670 [.loc 1,.int 3] s7=some (t8.toV,s8):=h8
  have g9:cf TB FT 99 713 [t6.toV] s8=some (.bool true,s9):=h9
  have g10:cf TB FT 99 713 [t7.toV] s9=some (.bool true,s10):=h10
  have g11:cf TB FT 99 713 [t8.toV] s10=some (.bool true,s11):=h11
  have g12:cf TB FT 99 713 [askV t5] s11=some (.bool true,s12):=h12
  refine e1_1 v12.c fun x hx=>?_
  refine ⟨s12,x,?_,hx⟩
  have e:=@cf_718 99 [.code false] (.lst (is.map .int))
  rw [e]
  simp (implicitDefEqProofs:=false) only [kLoc_some,e_num,e_st,e_tru,e_non,e_loc,e_glob,e_bin,k_bin,k_bin2,e_neg,k_neg,e_not,k_not,e_ite,k_ite_t,k_ite_f,e_cmp,k_cmp,k_cmp2,k_cmp3,e_call,k_call,k_call2,e_mcall,k_mc,k_mc2,k_mc3,e_attr,k_attr,e_sub,k_sub,k_sub2,e_slc,k_slc,e_rev,k_rev,e_tup,k_tup,e_lst,k_lst_t,k_lst_f,e_dct,e_comp,k_comp,k_comp2,k_comp3,k_comp1,e_lam,es_nil,es_cons,k_evs,k_evs2,cl_nil,cl_cons,k_l1,k_l2,k_t,t_not,k_tn,t_bop,t_cmp,k_tc,k_tc2,k_tc3,t_loc,t_call,t_mcall,t_attr,t_sub,t_tru,ts_and0,ts_or0,ts_and,ts_or,k_and_t,k_and_f,k_or_t,k_or_f,x_assign,k_as,k_as2,x_expr,k_ex,x_ifs,k_if_t,k_if_f,x_ret,k_ret,xs_nil,xs_as,xs_ex,xs_rt,xs_fo,xs_wh,x_if,k_ifs_f,k_ifs_t,k_ifs_g,k_seq_n,k_seq_s,k_for,k_bd,x_for,k_it_lst,k_it_tup,k_it_rng,k_it_loc,lp_nil,lp_cons,k_lp_n,k_lp_s,x_whl,a_name,a_tup,a_attr,k_aa,a_sub,k_as3,k_as4,fin_n,fin_s,c_fn,c_bi,m_inst,m_loc,q_eq,q_ne,q_in_tup,q_in_lst,q_str,q_int,q_bool,n_str2,n_str3,n_str4,n_str5,Option.bind_some,Option.map_some,Option.bind_none,Option.map_none,look_c,put_c,look_0,put_0,cond_true,cond_false,Bool.or_true,Bool.or_false,Bool.true_or,Bool.false_or,Nat.reduceBEq,F718,bn,Bool.not_true,Bool.not_false,h0',ic_l2,g_l0,g_l1,g1,g2,g3,g4,g5,g6,g7,g8,g9,g10,g11,g12]
end Internal.Pl
namespace Internal
open PySem PySem.W PyProof.Rows PySem.Calls PySem.Builtin
section
variable {prog:Program} {w:World} {A:Around} {E:Value→Shared→Prop} {s:Shared}
theorem adjust_ab (a b n:Nat) (ha:a≤n) (hb:b≤n):Slice.sliceAdjust (some (a:Int)) (some (b:Int)) 1 (n:Int)=((a:Int),(b:Int)):=by
  unfold Slice.sliceAdjust
  have h1:¬ ((1:Int) < 0):=by exact Int.not_lt.mpr (Int.natCast_nonneg _)
  have h2:¬ ((a:Int) < 0):=by exact Int.not_lt.mpr (Int.natCast_nonneg _)
  have h3:¬ ((b:Int) < 0):=by exact Int.not_lt.mpr (Int.natCast_nonneg _)
  simp only [h1,h2,h3,if_false]
  congr 1 <;> exact Int.min_eq_left (Int.ofNat_le.mpr (by assumption))
theorem places_ab (a b:Nat):Slice.slicePlaces (a:Int) (b:Int) 1=b - a:=by
  unfold Slice.slicePlaces
  have h1:(1:Int) > 0:=by simp +arith only
  simp only [h1,if_true,Int.ediv_one]
  split <;> lia
theorem sliceApplied_ab {sl:Addr} {a b n:Nat} {u v:Tok} {Q:Int × Int × Nat→Shared→Prop} (hs:s.heap.IsSliceOf sl (.int a u) (.int b v) .none) (ha:a≤n) (hb:b≤n) (h:Q ((a:Int),1,b - a) s) :
    wpAny (model prog w) A (Slice.sliceApplied (.ref sl) (pure (n:Int))) Q E s:=by
  refine e1_3 (id hs) fun os hos hcs hds=>?_
  unfold Slice.sliceApplied Slice.sliceFields
  refine wpAny_bind (wpAny_bind (wpAny_field hos hds (x:=.int a u) rfl (wpAny_bind (wpAny_field hos hds (x:=.int b v) rfl (wpAny_bind (wpAny_field hos hds (x:=.none) rfl (wpAny_pure ?_)))))))
  refine wpAny_bind (slicePart_none ?_)
  show wpAny _ _ (if ((1:Int) == 0)=true then _ else _) _ _ s
  rw [if_neg (by decide)]
  refine wpAny_bind (slicePart_int (wpAny_bind (slicePart_int (wpAny_bind (wpAny_pure ?_)))))
  show wpAny _ _ (match Slice.sliceAdjust (some (a:Int)) (some (b:Int)) 1 (n:Int) with | (lo,hi)=>pure (lo,(1:Int),Slice.slicePlaces lo hi 1)) _ _ s
  rw [adjust_ab a b n ha hb]
  show wpAny _ _ (pure ((a:Int),(1:Int),Slice.slicePlaces (a:Int) (b:Int) 1)) _ _ s
  rw [places_ab a b]
  exact wpAny_pure h
theorem pick_ab (xs:Array Value) (a b:Nat) (_hb:b≤xs.size):((List.range (b - a)).filterMap fun (k:Nat)=>xs[((a:Int) + (k:Int) * 1).toNat]?).toArray=((xs.toList.take b).drop a).toArray:=by
  have e:(fun (k:Nat)=>xs[((a:Int) + (k:Int) * 1).toNat]?)=fun k=>xs[a + k]?:=by
    funext k
    have:((a:Int) + (k:Int) * 1).toNat=a + k:=by rw [Int.mul_one]; rfl
    rw [this]
  rw [e]
  have:=pick_run xs a (b - a)
  rw [List.filterMap_map] at this
  have e2:((fun x=>xs[x]?) ∘ fun x=>a + x)=fun k=>xs[a + k]?:=rfl
  rw [e2] at this
  rw [this,List.drop_take]
theorem getItem_tuple_ab {t sl:Addr} {items:Array Value} {a b:Nat} {u v:Tok} {Q:Value→Shared→Prop} (ht:IsTup s.heap t items) (hs:s.heap.IsSliceOf sl (.int a u) (.int b v) .none) (h1:1≤a) (hab:a≤b) (hb:b≤items.size)
    (h:Q (.ref s.heap.objs.size) { s with heap:=s.heap.push { cls:=.type "tuple", data:=.seq ((items.toList.take b).drop a).toArray } })
    (hsz:items.size≤sizeLine):wpAny (model prog w) A (PySem.getItem (.ref t) (.ref sl)) Q E s:=by
  have hdrop:PySem.sizeOk (.seq ((items.toList.take b).drop a).toArray):=by
    show ((items.toList.take b).drop a).toArray.size≤sizeLine
    rw [List.size_toArray,List.length_drop,List.length_take,Array.length_toList]
    exact Nat.le_trans (Nat.sub_le _ _) (Nat.le_trans (Nat.min_le_right _ _) hsz)
  refine e1_3 (id hs) fun os hos hcs hds=>?_
  have hTs:s.TypeIs (.ref sl) "slice" := ⟨os,hos,hcs⟩
  unfold PySem.getItem
  try with_reducible refine wpAny_holding ?_
  first | refine wpAny_bind (wpAny_pure ?_) | skip
  refine wpAny_bind (wpAny_sequenceKey ht.typeIs (by decide) ?_)
  refine wpAny_bind (wpAny_callSpecial?_slot (name:=Str.ofString "__getitem__") ht.typeIs slot_tuple_getitem
    (wpAny_call_entry slot_tuple_getitem ht.typeIs entry_tuple_getitem ?_ (args_tuple_getitem _ _)))
  show wpAny _ _ (Builtin.Tuple.tupleItemsOf (.ref t) >>= _) _ _ s
  refine wpAny_bind (tupleItemsOf_ ht ?_)
  refine wpAny_bind (wpAny_typeOf hTs ?_)
  rw [if_pos (by decide)]
  refine wpAny_bind (sliceApplied_ab hs (Nat.le_trans hab hb) hb ?_)
  have hno:¬ (((a:Int) == 0 && (1:Int) == 1 && (b - a) == items.size)=true):=by
    have:((a:Int) == 0)=false:=by rw [beq_eq_false_iff_ne]; exact fun e=>absurd (Int.ofNat_inj.mp e) (Nat.ne_of_gt h1)
    rw [this]; simp
  show wpAny _ _ (if ((a:Int) == 0 && (1:Int) == 1 && (b - a) == items.size)=true then _ else _) _ _ s
  rw [if_neg hno,pick_ab items a b hb]
  first
    | exact wpAny_bind (m:=Builtin.Tuple.tupleExact _) (wpAny_newObj_type (wpAny_pure ⟨_,rfl,wpAny_pure h⟩) hdrop)
    | exact wpAny_bind (m:=Builtin.Tuple.tupleExact _) (wpAny_newObj_type (wpAny_bind (wpAny_pure (wpAny_pure ⟨_,rfl,wpAny_pure h⟩))) hdrop)
    | exact wpAny_bind (wpAny_bind (m:=Builtin.Tuple.tupleExact _) (wpAny_newObj_type (wpAny_pure (wpAny_pure ⟨_,rfl,wpAny_pure h⟩)) hdrop))
    | exact wpAny_bind (wpAny_bind (m:=Builtin.Tuple.tupleExact _) (wpAny_newObj_type (wpAny_pure ⟨_,rfl,wpAny_pure h⟩) hdrop))
theorem adjust_to (b n:Nat) (hb:b≤n):Slice.sliceAdjust none (some (b:Int)) 1 (n:Int)=(0,(b:Int)):=by
  unfold Slice.sliceAdjust
  have h1:¬ ((1:Int) < 0):=by exact Int.not_lt.mpr (Int.natCast_nonneg _)
  have h3:¬ ((b:Int) < 0):=by exact Int.not_lt.mpr (Int.natCast_nonneg _)
  simp only [h1,h3,if_false]
  congr 1
  exact Int.min_eq_left (Int.ofNat_le.mpr hb)
theorem sliceApplied_to {sl:Addr} {b n:Nat} {v:Tok} {Q:Int × Int × Nat→Shared→Prop} (hs:s.heap.IsSliceOf sl .none (.int b v) .none) (hb:b≤n) (h:Q (0,1,b) s) :
    wpAny (model prog w) A (Slice.sliceApplied (.ref sl) (pure (n:Int))) Q E s:=by
  refine e1_3 (id hs) fun os hos hcs hds=>?_
  unfold Slice.sliceApplied Slice.sliceFields
  refine wpAny_bind (wpAny_bind (wpAny_field hos hds (x:=.none) rfl (wpAny_bind (wpAny_field hos hds (x:=.int b v) rfl (wpAny_bind (wpAny_field hos hds (x:=.none) rfl (wpAny_pure ?_)))))))
  refine wpAny_bind (slicePart_none ?_)
  show wpAny _ _ (if ((1:Int) == 0)=true then _ else _) _ _ s
  rw [if_neg (by decide)]
  refine wpAny_bind (slicePart_none (wpAny_bind (slicePart_int (wpAny_bind (wpAny_pure ?_)))))
  show wpAny _ _ (match Slice.sliceAdjust none (some (b:Int)) 1 (n:Int) with | (lo,hi)=>pure (lo,(1:Int),Slice.slicePlaces lo hi 1)) _ _ s
  rw [adjust_to b n hb]
  show wpAny _ _ (pure ((0:Int),(1:Int),Slice.slicePlaces (0:Int) (b:Int) 1)) _ _ s
  have:=places_ab 0 b
  rw [Nat.sub_zero] at this
  rw [show (0:Int)=((0:Nat):Int) from rfl,this]
  exact wpAny_pure h
theorem pick_to (xs:Array Value) (b:Nat) (hb:b≤xs.size):((List.range b).filterMap fun (k:Nat)=>xs[((0:Int) + (k:Int) * 1).toNat]?).toArray=(xs.toList.take b).toArray:=by
  have:=pick_ab xs 0 b hb
  rw [Nat.sub_zero,List.drop_zero] at this
  exact this
theorem getItem_tuple_to {t sl:Addr} {items:Array Value} {b:Nat} {v:Tok} {Q:Value→Shared→Prop} (ht:IsTup s.heap t items) (hs:s.heap.IsSliceOf sl .none (.int b v) .none) (hb:b < items.size)
    (h:Q (.ref s.heap.objs.size) { s with heap:=s.heap.push { cls:=.type "tuple", data:=.seq (items.toList.take b).toArray } })
    (hsz:items.size≤sizeLine):wpAny (model prog w) A (PySem.getItem (.ref t) (.ref sl)) Q E s:=by
  have hdrop:PySem.sizeOk (.seq (items.toList.take b).toArray):=by
    show (items.toList.take b).toArray.size≤sizeLine
    rw [List.size_toArray,List.length_take,Array.length_toList]
    exact Nat.le_trans (Nat.min_le_right _ _) hsz
  refine e1_3 (id hs) fun os hos hcs hds=>?_
  have hTs:s.TypeIs (.ref sl) "slice" := ⟨os,hos,hcs⟩
  unfold PySem.getItem
  try with_reducible refine wpAny_holding ?_
  first | refine wpAny_bind (wpAny_pure ?_) | skip
  refine wpAny_bind (wpAny_sequenceKey ht.typeIs (by decide) ?_)
  refine wpAny_bind (wpAny_callSpecial?_slot (name:=Str.ofString "__getitem__") ht.typeIs slot_tuple_getitem
    (wpAny_call_entry slot_tuple_getitem ht.typeIs entry_tuple_getitem ?_ (args_tuple_getitem _ _)))
  show wpAny _ _ (Builtin.Tuple.tupleItemsOf (.ref t) >>= _) _ _ s
  refine wpAny_bind (tupleItemsOf_ ht ?_)
  refine wpAny_bind (wpAny_typeOf hTs ?_)
  rw [if_pos (by decide)]
  refine wpAny_bind (sliceApplied_to hs (Nat.le_of_lt hb) ?_)
  have hno:¬ (((0:Int) == 0 && (1:Int) == 1 && b == items.size)=true):=by
    have:(b == items.size)=false:=by rw [beq_eq_false_iff_ne]; exact Nat.ne_of_lt (by assumption)
    rw [this]; simp
  show wpAny _ _ (if ((0:Int) == 0 && (1:Int) == 1 && b == items.size)=true then _ else _) _ _ s
  rw [if_neg hno,pick_to items b (Nat.le_of_lt hb)]
  first
    | exact wpAny_bind (m:=Builtin.Tuple.tupleExact _) (wpAny_newObj_type (wpAny_pure ⟨_,rfl,wpAny_pure h⟩) hdrop)
    | exact wpAny_bind (m:=Builtin.Tuple.tupleExact _) (wpAny_newObj_type (wpAny_bind (wpAny_pure (wpAny_pure ⟨_,rfl,wpAny_pure h⟩))) hdrop)
    | exact wpAny_bind (wpAny_bind (m:=Builtin.Tuple.tupleExact _) (wpAny_newObj_type (wpAny_pure (wpAny_pure ⟨_,rfl,wpAny_pure h⟩)) hdrop))
    | exact wpAny_bind (wpAny_bind (m:=Builtin.Tuple.tupleExact _) (wpAny_newObj_type (wpAny_pure ⟨_,rfl,wpAny_pure h⟩) hdrop))
theorem pick_rev (items:Array Value):slicePick items none none (some (-1))=items.toList.reverse.toArray:=by
  have e:sliceRange (sliceBounds none none (some (-1)) items.size).1 (sliceBounds none none (some (-1)) items.size).2.1 (sliceBounds none none (some (-1)) items.size).2.2=(List.range items.size).reverse:=by
    show sliceRange ((items.size:Int) - 1) (-1) (-1)=_
    unfold sliceRange
    have hc:(if (-1:Int) > 0 then (if (items.size:Int) - 1 < -1 then (-1 - ((items.size:Int) - 1) + -1 - 1) / -1 else 0) else (if (items.size:Int) - 1 > -1 then ((items.size:Int) - 1 - -1 - -1 - 1) / (- -1) else 0)).toNat=items.size:=by
      rw [if_neg (by decide)]
      split
      · have:(- -1:Int)=1:=rfl
        rw [this,Int.ediv_one]; lia
      · lia
    refine Eq.trans (congrArg (fun c=>List.map (fun (k:Nat)=>((items.size:Int) - 1 + -1 * (k:Int)).toNat) (List.range c)) hc) ?_
    apply List.ext_getElem
    · simp
    · intro i h1 h2
      simp only [List.length_map,List.length_range] at h1
      simp only [List.getElem_map,List.getElem_range,List.getElem_reverse,List.length_range]
      exact ar7 h1
  unfold slicePick
  rw [e,List.filterMap_reverse]
  have:=pick_run items 0 items.size
  rw [List.drop_zero,List.take_of_length_le (by simp)] at this
  have e2:(List.range items.size).map (0 + ·)=List.range items.size:=by simp
  rw [e2] at this
  rw [this]
end
end Internal
namespace Internal
open PySem PySem.W PyProof.Rows PySem.Calls
theorem seq_none:seqItems? .none=pure none:=by rfl
theorem lookup_zip:∀ (ps:List Str) (vals:List Value),vals.length=ps.length→∀ x ∈ ps,((ps.zip vals).lookup x).isSome=true
  | [],_,_,x,hx=>by cases hx
  | p :: r,[],h,x,hx=>by cases h
  | p :: r,v :: vs,h,x,hx=>by
    rw [List.zip_cons_cons,List.lookup_cons]
    by_cases e:x=p
    · subst e; simp
    · have:(x == p)=false:=by simp [e]
      rw [this]
      rcases List.mem_cons.mp hx with q | q
      · exact absurd q e
      · exact lookup_zip r vs (by simpa using h) x q
theorem fm_congr {α β:Type} {f g:α→Option β}:∀ l:List α,(∀ x ∈ l,f x=g x)→l.filterMap f=l.filterMap g
  | [],_=>rfl
  | a :: r,h=>by
    rw [List.filterMap_cons,List.filterMap_cons,h a List.mem_cons_self,fm_congr r fun x hx=>h x (List.mem_cons_of_mem _ hx)]
theorem filterMap_zip:∀ (ps:List Str) (vals:List Value),vals.length=ps.length→ps.Nodup→(ps.filterMap fun n=>((ps.zip vals).lookup n).map (n,·))=ps.zip vals
  | [],_,_,_=>rfl
  | p :: r,[],h,_=>by cases h
  | p :: r,v :: vs,h,nd=>by
    rw [List.nodup_cons] at nd
    rw [List.zip_cons_cons,List.filterMap_cons]
    have e1:List.lookup p ((p,v) :: r.zip vs)=some v:=by simp
    rw [e1]
    show (p,v) :: _=_
    congr 1
    refine Eq.trans (fm_congr r fun x hx=>?_) (filterMap_zip r vs (by simpa using h) nd.2)
    have:(x == p)=false:=by simp; rintro rfl; exact nd.1 hx
    rw [List.lookup_cons,this]
theorem ar_eta {p:Arguments} {as:List Arg} (b1:p.posonlyargs = []) (b2:p.vararg=none) (b3:p.kwonlyargs = []) (b4:p.kwarg=none) (b5:p.args=as):p=⟨[],as,none,[],p.kw_defaults,none,p.defaults⟩:=by
  obtain ⟨po,ar,va,ko,kd,kw,df⟩:=p
  dsimp only at b1 b2 b3 b4 b5
  subst b1 b2 b3 b4 b5
  rfl
theorem fd_eta {fd:FuncData} {p:Arguments} {v:Value} (hp:fd.params=p) (hd:fd.defaults=v):fd = { fd with params:=p,defaults:=v }:=by
  rw [← hp,← hd]
theorem bind_plain {fd:FuncData} {ps:List Str} {vals:List Value} (h1:fd.params.posonlyargs = []) (h2:fd.params.args.map (·.arg)=ps) (h3:fd.params.vararg=none) (h4:fd.params.kwonlyargs = []) (h5:fd.params.kwarg=none)
    (hd:fd.defaults = .none) (hl:vals.length=ps.length) (nd:ps.Nodup):bindArgs fd ⟨vals,[]⟩=pure (ps.zip vals):=by
  have hm:((ps.take ps.length).filter fun n=>((ps.zip vals).lookup n).isNone) = []:=by
    rw [List.filter_eq_nil_iff]
    intro x hx
    have:=lookup_zip ps vals hl x (by simpa using hx)
    simp [Option.isNone_iff_eq_none,Option.isSome_iff_ne_none.mp this]
  rw [fd_eta (ar_eta h1 h3 h4 h5 rfl) hd]
  unfold bindArgs
  dsimp only
  simp only [h2,seq_none,pure_bind,List.map_nil,List.nil_append,List.append_nil,List.forIn_nil,Option.getD_none,List.drop_nil,List.length_nil,Nat.sub_zero,hl]
  rw [if_neg (by simp)]
  simp only [hm,List.isEmpty_nil,Bool.not_true,Bool.false_eq_true,if_false]
  simp only [List.zip_nil_right,List.forIn_nil,pure_bind,filterMap_zip ps vals hl nd]
end Internal
namespace Internal
open PySem PySem.W PyProof.Rows PySem.Calls
section
variable {prog:Program} {w:World} {A:Around} {E:Value→Shared→Prop} {s:Shared} {a:Addr} {k:Int} {x:Value}
noncomputable abbrev IK (prog:Program) (w:World):=intKind prog w
structure FSet (prog:Program) (w:World) (o:Obj) (S:Int→Bool) (es:Array (Int × Value)) (ep:Nat) (t:SetTable):Prop where
  cls:o.cls = .type "frozenset"
  dict:o.dict=none
  slots:o.slots = #[]
  data:o.data = .set es ep t
  el:ElemsOf (IK prog w) es.toList
  mem:∀ k,S k=true ↔ ∃ e ∈ es.toList,(IK prog w).is k e.2=true
  bd:es.size < scanBound
  fit:t.fits es.size=true
noncomputable def FSt (prog:Program) (w:World) (h:Heap) (a:Addr) (S:Int→Bool) (n:Nat):Prop:=∃ o es ep t,h.get? a=some o∧FSet prog w o S es ep t∧es.size=n
theorem fs_store {h:Heap} {o:Obj} {S S':Int→Bool} {es es':Array (Int × Value)} {ep:Nat} {t t':SetTable} (ho:h.get? a=some o) (X:FSet prog w o S es ep t) (hel:ElemsOf (IK prog w) es'.toList)
    (hmem:∀ k,S' k=true ↔ ∃ e ∈ es'.toList,(IK prog w).is k e.2=true) (hb:es'.size < scanBound) (hf:t'.fits es'.size=true) :
    ∃ o',(h.update a (Obj.putSet es' t')).get? a=some o'∧FSet prog w o' S' es' (ep + 1) t':=by
  have hg:(h.update a (Obj.putSet es' t')).get? a=some { o with data:=.set es' (ep + 1) t' }:=by
    have:=Heap.get?_update_self (Obj.putSet es' t') ho (by rw [putSet_of es' t' X.data]; rfl)
    rw [putSet_of es' t' X.data] at this; exact this
  exact ⟨_,hg,X.cls,X.dict,X.slots,rfl,hel,hmem,hb,hf⟩
theorem fs_find {S:Int→Bool} {n:Nat} {Q:Option Nat→Shared→Prop} (hkey:(IK prog w).is k x=true) (hsc:x.scannable=true) (hS:FSt prog w s.heap a S n)
    (h:∀ r:Option Nat,r.isSome=S k→Q r s):wpAny (model prog w) A (setFind a x (hashInt k)) Q E s:=by
  refine e4_3 hS ?_;clear hS;intro o es ep t ho X _
  unfold setFind setFindIn
  refine wpAny_bind (wpAny_setState_of ho X.data X.fit ?_)
  dsimp only
  rw [byScan_of (knd:=IK prog w) hsc X.bd X.el]
  simp only [↓reduceIte]
  refine wpAny_bind (wpAny_rule (wpAny_bind (wpAny_setScan_of (knd:=IK prog w) hkey ho X.data X.fit X.el ?_)))
  have hk:=X.mem k
  cases hr:List.findIdx? (fun e=>(IK prog w).is k e.2) es.toList with
  | none =>
    refine wpAny_pure (h none ?_)
    cases hs:S k with
    | false=>rfl
    | true=>refine e1_2 (hk.mp hs) fun e he hpe=>?_; have:=List.findIdx?_eq_none_iff.mp hr e he; rw [hpe] at this; cases this
  | some j =>
    refine wpAny_pure (h (some (0 + j)) ?_)
    refine e1_2 (List.findIdx?_eq_some_iff_getElem.mp hr) fun hj hpj _=>?_
    rw [hk.mpr ⟨es.toList[j],List.getElem_mem hj,hpj⟩]; rfl
theorem fs_tail {g:Bool→Sem Unit} (hg:∀ (b:Bool) (s₁:Shared) (Q':Unit→Shared→Prop),Q' () s₁→wpAny (model prog w) A (g b) Q' E s₁)
    {o:Obj} {S S':Int→Bool} {es es1:Array (Int × Value)} {ep:Nat} {t t2:SetTable} (ho:s.heap.get? a=some o) (X:FSet prog w o S es ep t)
    (hel1:ElemsOf (IK prog w) es1.toList) (hmem1:∀ k',S' k'=true ↔ ∃ e ∈ es1.toList,(IK prog w).is k' e.2=true)
    (hb1:es1.size < scanBound) (hf2:t2.fits es1.size=true) {wasDummy:Bool} {R:Option Bool→Shared→Prop}
    (h:∀ h',Heap.SameBut a s.heap h'→FSt prog w h' a S' es1.size→R (some true) { s with heap:=h' }) :
    wpAny (model prog w) A (do
        storeSet a es1 t2
        if (!wasDummy && t2.tooFull)=true then do
            g (relayAll t2 es1 (SetTable.grown es1.size)).2.2
            storeSet a (relayAll t2 es1 (SetTable.grown es1.size)).1 (relayAll t2 es1 (SetTable.grown es1.size)).2.1
            pure (some true)
          else pure (some true)) R E s:=by
  refine wpAny_bind (wpAny_storeSet_of ho X.data ?_ (fits_of_scanBound hb1))
  refine e1_2 (fs_store ho X hel1 hmem1 hb1 hf2) fun o1 ho1 X1=>?_
  have hsb1:=Heap.SameBut.update s.heap a (Obj.putSet es1 t2)
  split
  · have hp:=relayAll_perm t2 es1 (SetTable.grown es1.size)
    have hfr:=relayAll_fits t2 es1 (SetTable.grown es1.size)
    have hsz:(relayAll t2 es1 (SetTable.grown es1.size)).1.size=es1.size:=by rw [← Array.length_toList,hp.length_eq,Array.length_toList]
    have hb2:(relayAll t2 es1 (SetTable.grown es1.size)).1.size < scanBound:=by rw [hsz]; exact hb1
    refine e1_2 (fs_store (S':=S') ho1 X1 (hel1.perm hp) (fun k'=>(hmem1 k').trans ⟨fun ⟨e,he,q⟩=>⟨e,hp.mem_iff.mpr he,q⟩,fun ⟨e,he,q⟩=>⟨e,hp.mem_iff.mp he,q⟩⟩) hb2 hfr) fun o2 ho2 X2=>?_
    exact wpAny_bind (hg _ _ _ (wpAny_bind (wpAny_storeSet_of ho1 X1.data (wpAny_pure (h _ (hsb1.trans (Heap.SameBut.update _ a _)) ⟨o2,_,_,_,ho2,X2,hsz⟩)) (fits_of_scanBound hb2))))
  · exact wpAny_pure (h _ hsb1 ⟨o1,es1,_,t2,ho1,X1,rfl⟩)
theorem fs_add {S:Int→Bool} {n:Nat} {Q:Bool→Shared→Prop} (hkey:(IK prog w).is k x=true) (hsc:x.scannable=true) (hS:FSt prog w s.heap a S n) (hno:S k=false) (hroom:n + 1 < scanBound)
    (h:∀ h',Heap.SameBut a s.heap h'→FSt prog w h' a (fun k'=>S k' || decide (k'=k)) (n + 1)→Q true { s with heap:=h' }) :
    wpAny (model prog w) A (setAddHashed a x (hashInt k)) Q E s:=by
  refine e4_3 hS ?_;clear hS;intro o es ep t ho X hn
  unfold setAddHashed setAddHashedIn
  refine wpAny_holding (wpAny_bind (wpAny_setState_of ho X.data X.fit ?_))
  dsimp only
  rw [byScan_of (knd:=IK prog w) hsc X.bd X.el]
  simp only [↓reduceIte]
  unfold setAddByScan
  refine wpAny_bind (wpAny_bind (wpAny_rule (wpAny_bind (wpAny_setScan_of (knd:=IK prog w) hkey ho X.data X.fit X.el ?_))))
  have hr:List.findIdx? (fun e=>(IK prog w).is k e.2) es.toList=none:=by
    rw [List.findIdx?_eq_none_iff]
    intro e he
    cases hp:(IK prog w).is k e.2 with
    | false=>rfl
    | true=>rw [(X.mem k).mpr ⟨e,he,hp⟩] at hno; cases hno
  rw [hr]
  dsimp only
  have hgw:∀ (b:Bool) {s₁:Shared} {Q':Unit→Shared→Prop},Q' () s₁→wpAny (model prog w) A (match b with | true=>rule "set.scan.the-table-gave-way" | false=>pure ()) Q' E s₁ :=
    fun b s₁ Q' hq=>by induction b using Bool.casesOn <;> first | exact wpAny_pure hq | exact wpAny_rule hq
  have hperm:=layNew_perm t es (hashInt k) x
  have hfits:=layNew_fits t es (hashInt k) x
  show wpAny (model prog w) A _ _ E s
  generalize hL:layNew t es (hashInt k) x=L at hperm hfits ⊢
  obtain ⟨es1,t1,wasDummy,gave⟩:=L
  dsimp only at hperm hfits ⊢
  rw [Array.toList_push] at hperm
  have hel1:ElemsOf (IK prog w) es1.toList:=(X.el.push hkey hsc).perm hperm
  have hmem1:∀ k',(S k' || decide (k'=k))=true ↔ ∃ e ∈ es1.toList,(IK prog w).is k' e.2=true:=mem_push_iff hkey X.mem hperm
  have hsz1:es1.size=n + 1:=by rw [← Array.length_toList,hperm.length_eq,List.length_append,Array.length_toList,hn]; rfl
  have hb1':es1.size < scanBound:=by rw [hsz1]; exact hroom
  have hend:∀ h',Heap.SameBut a s.heap h'→FSt prog w h' a (fun k'=>S k' || decide (k'=k)) es1.size→Q true { s with heap:=h' }:=by
    intro h' hsb hS'; rw [hsz1] at hS'; exact h h' hsb hS'
  refine wpAny_bind (hgw _ ?_)
  split
  · refine wpAny_bind ?_
    rw [hashByValue_scannable 8 hsc]
    refine wpAny_pure (fs_tail ?_ ho X hel1 hmem1 hb1' ?_ ?_)
    · intro b s₁ Q' hq; induction b using Bool.casesOn <;> first | exact wpAny_pure hq | exact wpAny_rule hq
    · split
      · exact hfits
      · exact SetTable.fits_plain_off hfits
    · intro h' hsb hS'; exact wpAny_pure (hend h' hsb hS')
  · refine wpAny_bind (wpAny_pure ?_)
    simp only [↓reduceIte]
    refine fs_tail ?_ ho X hel1 hmem1 hb1' hfits ?_
    · intro b s₁ Q' hq; induction b using Bool.casesOn <;> first | exact wpAny_pure hq | exact wpAny_rule hq
    · intro h' hsb hS'; exact wpAny_pure (hend h' hsb hS')
end
end Internal
namespace Internal
open PySem PySem.W PyProof.Rows PySem.Calls
theorem mro_fs:mroOf (.type "frozenset")=pure [.type "frozenset", .type "object"]:=by rw [mroOf_type]; kernel_rfl
theorem lookup_fs_new:typeLookup (.type "frozenset") "__new__" = pure (some (.builtin "frozenset.__new__")):=by rw [typeLookup_type,builtinLookup_eq_fast]; kernel_rfl
theorem lookup_fs_init:typeLookup (.type "frozenset") "__init__" = pure (some (.builtin "object.__init__")):=by rw [typeLookup_type,builtinLookup_eq_fast]; kernel_rfl
theorem slot_fs_init:Slot "frozenset" "__init__" "object.__init__" :=
  .of (owner := "object") (n := "__init__") lookup_fs_init (by decide +kernel) (by decide +kernel) (by decide +kernel)
    (by first | exact .inl (by decide +kernel) | exact .inr (by decide +kernel)) (by rw [isSubtype_type]; kernel_rfl)
theorem slot_fs_contains:Slot "frozenset" "__contains__" "frozenset.__contains__" :=
  .of (owner := "frozenset") (n := "__contains__") (by rw [typeLookup_type,builtinLookup_eq_fast]; kernel_rfl) (by decide +kernel) (by decide +kernel) (by decide +kernel)
    (by first | exact .inl (by decide +kernel) | exact .inr (by decide +kernel)) (by rw [isSubtype_type]; kernel_rfl)
theorem called_fs:TypeCalled "frozenset" "frozenset.__new__" "object.__init__" :=
  ⟨by decide +kernel,by decide +kernel,⟨_,_,mro_fs⟩,madeBy_type mro_fs lookup_fs_new (by decide +kernel),by decide +kernel,by rw [isSubtype_type]; kernel_rfl,slot_fs_init⟩
theorem typeCall_fs (a:Value):checkTypeCall "frozenset" ⟨[a],[]⟩=pure ():=by kernel_rfl
theorem newCall_fs (a:Value):checkBuiltinCall "frozenset.__new__" ⟨[.type "frozenset", a],[]⟩=pure ():=by kernel_rfl
theorem entry_fs_new:entryFor table "frozenset.__new__" = some Builtin.«frozenset.__new__»:=entryFor_of_tree (by kernel_rfl)
theorem args_fs_contains (a b:Value):argsOk "frozenset.__contains__" ⟨[a,b],[]⟩:=by unfold argsOk; kernel_rfl
theorem entry_fs_contains:entryFor table "frozenset.__contains__" = some Builtin.«frozenset.__contains__»:=entryFor_of_tree (by kernel_rfl)
section
variable {prog:Program} {w:World} {A:Around} {E:Value→Shared→Prop} {s:Shared} {a:Addr} {k:Int} {x:Value}
theorem fs_in {S:Int→Bool} {n:Nat} {Q:Value→Shared→Prop} (hkey:(IK prog w).is k x=true) (hsc:x.scannable=true) (hS:FSt prog w s.heap a S n)
    (h:Q (.bool (S k)) { s with toks:=s.toks + 1 }):wpAny (model prog w) A (compareOp .In x (.ref a)) Q E s:=by
  have hT:s.TypeIs (.ref a) "frozenset" := by refine e4_3 hS ?_;clear hS;intro o es ep t ho X _; exact ⟨o,ho,X.cls⟩
  show wpAny _ _ (do return .bool (← contains (.ref a) x)) Q E s
  refine wpAny_bind ?_
  unfold contains
  try with_reducible refine wpAny_holding ?_
  refine wpAny_bind (wpAny_specialOf hT slot_fs_contains.lookup ?_)
  show wpAny _ _ (if (some (Value.builtin "frozenset.__contains__") == some Value.none)=true then _ else _) _ E s
  rw [if_neg (by rw [beq_builtin_none]; exact Bool.false_ne_true)]
  refine wpAny_bind (wpAny_callSpecialUnlessNone?_slot (name:=Str.ofString "__contains__") hT slot_fs_contains
    (wpAny_call_entry slot_fs_contains hT entry_fs_contains ?_ (args_fs_contains _ _)))
  unfold Builtin.«frozenset.__contains__» Builtin.Frozenset.oneOther
  simp only [List.isEmpty_nil,bind_assoc]
  unfold Builtin.Frozenset.addrOf Builtin.Frozenset.withSetAsKey setContains
  refine wpAny_bind (wpAny_pure ?_)
  try dsimp only
  refine wpAny_bind (wpAny_pure ?_)
  try dsimp only
  refine wpAny_bind (wpAny_tryCatch ?_)
  refine wpAny_holding ?_
  refine wpAny_bind ((IK prog w).pyHash hkey ?_)
  refine wpAny_bind (fs_find (s:={ s with toks:=s.toks + 1 }) hkey hsc hS fun r hr=>?_)
  refine wpAny_pure ?_
  show wpAny _ _ (ret (Value.bool r.isSome)) _ _ _
  rw [hr]
  exact wpAny_pure ⟨_,rfl,wpAny_truthy_bool (wpAny_pure h)⟩
theorem isi_fs_dict {d:Addr} {o:Obj} {Q:Bool→Shared→Prop} (ho:s.heap.get? d=some o) (hc:o.cls = .type "dict") (h:Q false s):wpAny (model prog w) A (Builtin.Frozenset.isAnySet (.ref d)) Q E s:=by
  unfold Builtin.Frozenset.isAnySet
  refine wpAny_bind (wpAny_isInstance (T := "dict") (b:=false) ⟨o,ho,hc⟩ PySem.F.sub_dict_set ?_)
  exact wpAny_isInstance (T := "dict") (b:=false) ⟨o,ho,hc⟩ PySem.F.sub_dict_frozenset h
theorem fs_any {prog':Program} {w':World} {h:Heap} {S:Int→Bool} {n:Nat} (x:FSt prog w h a S n):FSt prog' w' h a S n:=by
  refine e4_3 x ?_;clear x;intro o es ep t ho X e
  exact ⟨o,es,ep,t,ho,⟨X.cls,X.dict,X.slots,X.data,X.el,X.mem,X.bd,X.fit⟩,e⟩
end
section
variable {prog:Program} {w:World} {A:Around} {E:Value→Shared→Prop} {s:Shared} {d:Addr} {Q:PySem.Fin→Shared→Prop}
theorem newClass_fs:Builtin.Frozenset.newClass "frozenset" ⟨[.type "frozenset", .ref d],[]⟩=pure (.type "frozenset", [.ref d]):=by kernel_rfl
theorem nameCut_fs:typeNameCut 200 (.type "frozenset")=pure "frozenset" := by kernel_rfl
theorem addrOf_ref (a:Addr):Builtin.Frozenset.addrOf (.ref a)=pure a:=rfl
theorem fs_new_body {e1 e2:DictEntry} {m:Nat} {k1 k2:Int} {t1 t2:Tok} (h1:e1.key = .int k1 t1) (h2:e2.key = .int k2 t2) (g1:e1.hash=hashInt k1) (g2:e2.hash=hashInt k2) (ne:k1≠k2)
    (h:∀ h',(∀ b o,s.heap.get? b=some o→h'.get? b=some o)→FSt prog w h' s.heap.objs.size (fun k=>(false || decide (k=k1)) || decide (k=k2)) 2→Q (.done (.ret (.ref s.heap.objs.size))) { s with heap:=h' }) (ho:s.heap.get? d=some { cls:=.type "dict", data:=.dict #[e1,e2] m }) (hd:(d == sysModules)=false):wpAny (model prog w) A (Builtin.«frozenset.__new__» ⟨[.type "frozenset", .ref d],[]⟩) Q E s:=by
  unfold Builtin.«frozenset.__new__»
  refine wpAny_bind (wpAny_of_eq newClass_fs ?_)
  dsimp only
  refine wpAny_bind (wpAny_of_eq lookup_fs_init ?_)
  rw [if_pos (by decide)]
  refine wpAny_bind (wpAny_pure ?_)
  refine wpAny_bind (wpAny_of_eq nameCut_fs ?_)
  refine wpAny_bind (wpAny_pure ?_)
  rw [if_pos (by decide)]
  refine wpAny_bind (wpAny_typeOf (T := "dict") ⟨_,ho,rfl⟩ ?_)
  rw [if_neg (by decide)]
  unfold Builtin.Frozenset.newFrom newSet setsByText
  refine wpAny_bind (wpAny_bind (wpAny_bind (wpAny_bind (wpAny_askSetting (wpAny_pure ?_)))))
  dsimp only
  have nl:d≠s.heap.objs.size:=Nat.ne_of_lt (Heap.lt_size ho)
  simp only [newObj]
  refine wpAny_bind (wpAny_alloc (wpAny_pure ?_))
  generalize (!(model prog w).w.params.followText "set-order")=led
  refine wpAny_bind (wpAny_of_eq (addrOf_ref _) ?_)
  refine wpAny_bind (wpAny_holding ?_)
  have ho₁:(s.heap.push { cls:=.type "frozenset", data:=.set #[] 0 (.fresh 0 0 led) }).get? d=some { cls:=.type "dict", data:=.dict #[e1,e2] m }:=Heap.get?_push_of_some _ ho
  have hS₀:FSt prog w (s.heap.push { cls:=.type "frozenset", data:=.set #[] 0 (.fresh 0 0 led) }) s.heap.objs.size (fun _=>false) 0 :=
    ⟨_,#[],0,_,Heap.get?_push_size _ rfl,⟨rfl,rfl,rfl,rfl,fun e he=>by simp at he,fun k=>by simp,by decide,by rfl⟩,rfl⟩
  have hset:(s.heap.push { cls:=.type "frozenset", data:=.set #[] 0 (.fresh 0 0 led) }).get? s.heap.objs.size=some { cls:=.type "frozenset", data:=.set #[] 0 (.fresh 0 0 led) }:=Heap.get?_push_size _ rfl
  unfold Builtin.Frozenset.updateFrom
  refine wpAny_bind (isi_fs_dict (s:={ s with heap:=s.heap.push { cls:=.type "frozenset", data:=.set #[] 0 (.fresh 0 0 led) } }) ho₁ rfl ?_)
  rw [if_neg (by decide)]
  refine wpAny_bind (wpAny_typeOf (T := "dict") ⟨_,ho₁,rfl⟩ ?_)
  rw [if_pos (by decide)]
  refine wpAny_bind (wpAny_rule (wpAny_bind (wpAny_of_eq (addrOf_ref _) ?_)))
  rw [if_neg (by rw [hd]; decide)]
  refine wpAny_bind (wpAny_dictEpoch ho₁ rfl ?_)
  refine wpAny_bind (wpAny_dictEntries ho₁ rfl ?_)
  unfold setRoomFor
  refine wpAny_bind (wpAny_bind (wpAny_setState_of hset rfl rfl ?_))
  refine wpAny_pure ?_
  refine wpAny_bind (wpAny_dictEntries ho₁ rfl ?_)
  have hk1:(IK prog w).is k1 e1.key=true:=by rw [h1]; exact intKind_is prog w k1 t1
  have hk2:(IK prog w).is k2 e2.key=true:=by rw [h2]; exact intKind_is prog w k2 t2
  rw [show (#[e1,e2]:Array DictEntry).size=2 from rfl,Std.Legacy.Range.forIn_eq_forIn_range']
  show wpAny _ _ (forIn [0,1] PUnit.unit _ >>= _) _ _ _
  rw [List.forIn_cons]
  refine wpAny_bind (wpAny_bind (wpAny_bind (wpAny_dictEntries ho₁ rfl ?_)))
  show wpAny _ _ (holding [e1.key] (setAddHashed s.heap.objs.size e1.key e1.hash) >>= _) _ _ _
  rw [g1]
  refine wpAny_bind (wpAny_holding (fs_add (s:={ s with heap:=s.heap.push { cls:=.type "frozenset", data:=.set #[] 0 (.fresh 0 0 led) } }) hk1 (by rw [h1]; rfl) hS₀ rfl (by decide) fun h₁ hs₁ hS₁=>?_))
  have ho₂:=hs₁.extBut d _ nl ho₁
  refine wpAny_bind (wpAny_dictEpoch ho₂ rfl ?_)
  rw [if_neg (by simp)]
  refine wpAny_pure ?_
  dsimp only
  rw [List.forIn_cons]
  refine wpAny_bind (wpAny_bind (wpAny_dictEntries ho₂ rfl ?_))
  show wpAny _ _ (holding [e2.key] (setAddHashed s.heap.objs.size e2.key e2.hash) >>= _) _ _ _
  rw [g2]
  refine wpAny_bind (wpAny_holding (fs_add (s:={ s with heap:=h₁ }) hk2 (by rw [h2]; rfl) hS₁ (by simp [Ne.symm ne]) (by decide) fun h₂ hs₂ hS₂=>?_))
  have ho₃:=hs₂.extBut d _ nl ho₂
  refine wpAny_bind (wpAny_dictEpoch ho₃ rfl ?_)
  rw [if_neg (by simp)]
  refine wpAny_pure ?_
  dsimp only
  rw [List.forIn_nil]
  refine wpAny_pure (wpAny_pure (wpAny_pure (wpAny_pure (h h₂ (fun b o hb=>?_) hS₂))))
  have nb:b≠s.heap.objs.size:=Nat.ne_of_lt (Heap.lt_size hb)
  exact hs₂.extBut b o nb (hs₁.extBut b o nb (Heap.get?_push_of_some _ hb))
end
section
variable {prog:Program} {w:World} {A:Around} {E:Value→Shared→Prop} {s:Shared} {d:Addr}
theorem fs_meets {e1 e2:DictEntry} {m:Nat} {k1 k2:Int} {t1 t2:Tok} (h1:e1.key = .int k1 t1) (h2:e2.key = .int k2 t2) (g1:e1.hash=hashInt k1) (g2:e2.hash=hashInt k2) (ne:k1≠k2) (hd:(d == sysModules)=false) :
    Meets (Builtin.«frozenset.__new__» ⟨[.type "frozenset", .ref d],[]⟩) (fun A R s=>s.heap.get? d=some { cls:=.type "dict", data:=.dict #[e1,e2] m }∧∀ h',(∀ b o,s.heap.get? b=some o→h'.get? b=some o) →
      (∀ prog w,FSt prog w h' s.heap.objs.size (fun k=>(false || decide (k=k1)) || decide (k=k2)) 2)→R (.ok (.ret (.ref s.heap.objs.size))) { s with heap:=h' }) :=
  .of_wp fun prog w A R s ⟨ho,h⟩=>fs_new_body h1 h2 g1 g2 ne (fun h' hk hS=>⟨_,rfl,h h' hk fun _ _=>fs_any hS⟩) ho hd
theorem fs_new {e1 e2:DictEntry} {m:Nat} {k1 k2:Int} {t1 t2:Tok} {Q:Value→Shared→Prop} (hd:(d == sysModules)=false) (ho:s.heap.get? d=some { cls:=.type "dict", data:=.dict #[e1,e2] m })
    (h1:e1.key = .int k1 t1) (h2:e2.key = .int k2 t2) (g1:e1.hash=hashInt k1) (g2:e2.hash=hashInt k2) (ne:k1≠k2)
    (h:∀ h',(∀ b o,s.heap.get? b=some o→h'.get? b=some o)→FSt prog w h' s.heap.objs.size (fun k=>(false || decide (k=k1)) || decide (k=k2)) 2→Q (.ref s.heap.objs.size) { s with heap:=h' }) :
    wpAny (model prog w) A (call (.type "frozenset") [.ref d]) Q E s :=
  callType_new called_fs (by decide) (typeCall_fs _) (newCall_fs _) (fun obj=>PySem.F.args_object_init_2 obj _) entry_fs_new (fs_meets h1 h2 g1 g2 ne hd)
    ⟨ho,fun h' hk hS=>⟨by refine e4_3 (hS prog w) fun o es ep t ho X _=>?_; exact ⟨o,ho,X.cls⟩,h h' hk (hS prog w)⟩⟩
end
end Internal
namespace Internal
open PySem PySem.W PyProof.Rows PySem.Calls
section
variable {prog:Program} {w:World} {K:Type} [DecidableEq K] {knd:KeyKind prog w K} {A:Around} {E:Value→Shared→Prop} {s:Shared} {D:Addr}
theorem dset_raw {es:List DictEntry} {m:Nat} {k:K} {key val:Value} {Q:Unit→Shared→Prop} (hkey:knd.is k key=true) (g:s.heap.get? D=some (dictOf es m)) (hk:KeysOf knd es.toArray)
    (hno:∀ e ∈ es,knd.is k e.key=false) (hz:es.length≤sizeLine)
    (h:∀ h' m',Heap.SameBut D s.heap h'→h'.get? D=some (dictOf (es++[⟨knd.hash k,key,val⟩]) m')→Q () { s with heap:=h',toks:=s.toks + 1 }):wpAny (model prog w) A (dictSet D key val) Q E s:=by
  unfold dictSet
  try with_reducible refine wpAny_holding ?_
  refine wpAny_bind (knd.pyHash hkey ?_)
  unfold dictSetHashed
  try with_reducible refine wpAny_holding ?_
  refine wpAny_bind (wpAny_dictFind_of (s:={ s with toks:=s.toks + 1 }) hkey g rfl hk ?_)
  have hi:es.findIdx? (fun e=>knd.is k e.key)=none:=by
    rw [List.findIdx?_eq_none_iff]; exact hno
  rw [List.findIdx?_toArray,hi]
  refine wpAny_bind (wpAny_rule (wpAny_updateDictKeys (hz:=by simpa using hz) (s:={ s with toks:=s.toks + 1 }) g rfl (h _ (m + 1) (Heap.SameBut.update ..) ?_)))
  refine (Heap.get?_update_self _ g (by rfl)).trans ?_
  show some (Obj.mapDictKeys _ (dictOf es m))=_
  unfold dictOf Obj.mapDictKeys
  simp
noncomputable def mkEs (knd:KeyKind prog w K):List K→List (Value × Value)→List DictEntry
  | k :: ks,p :: ps=>⟨knd.hash k,p.1,p.2⟩ :: mkEs knd ks ps
  | _,_=>[]
theorem storeAll_s:∀ (ks:List K) (ps:List (Value × Value)) (es:List DictEntry) (m:Nat) (s:Shared) (Q:PUnit→Shared→Prop),ks.length=ps.length→ks.Nodup→(∀ q ∈ ks.zip ps,knd.is q.1 q.2.1=true) →
    s.heap.get? D=some (dictOf es m)→KeysOf knd es.toArray→(∀ e ∈ es,∀ k ∈ ks,knd.is k e.key=false)→es.length + ks.length≤1000 →
    (∀ h' m' tk,Heap.SameBut D s.heap h'→h'.get? D=some (dictOf (es++mkEs knd ks ps) m')→Q ⟨⟩ { s with heap:=h',toks:=tk })→wpAny (model prog w) A (storeAll D ps) Q E s
  | [],[],es,m,s,Q,_,_,_,g,_,_,_,h=>by
    show wpAny _ _ (forIn [] _ _) _ _ _
    rw [List.forIn_nil]
    refine wpAny_pure (h s.heap m s.toks (Heap.SameBut.refl ..) ?_)
    rw [show mkEs knd [] [] = [] from rfl,List.append_nil]; exact g
  | [],_ :: _,es,m,s,Q,h,_,_,g,_,_,_,_=>by cases h
  | _ :: _,[],es,m,s,Q,h,_,_,g,_,_,_,_=>by cases h
  | k :: ks,p :: ps,es,m,s,Q,hl,nd,hq,g,hk,hno,hz,h=>by
    refine e0_2 (List.nodup_cons.mp nd) fun n1 n2=>?_
    have hkey:=hq (k,p) List.mem_cons_self
    show wpAny _ _ (forIn (p :: ps) _ _) _ _ _
    rw [List.forIn_cons]
    refine wpAny_bind (wpAny_bind (dset_raw hkey g hk (fun e he=>hno e he k List.mem_cons_self) (by rw [sizeLine_eq]; (apply le1 (b:=1000);assumption;simp +arith only)) fun h₁ m₁ hs₁ g₁=>wpAny_pure ?_))
    refine storeAll_s ks ps (es++[⟨knd.hash k,p.1,p.2⟩]) m₁ _ Q (by simpa using hl) n2 (fun q hq'=>hq q (List.mem_cons_of_mem _ hq')) g₁ (fun e he=>?_) (fun e he k' hk'=>?_) (by simp at hz ⊢; (apply le1 (b:=1000);assumption;simp +arith only)) fun h₂ m₂ tk hs₂ g₂=>?_
    · rw [List.mem_toArray] at he
      rcases List.mem_append.mp he with he | he
      · exact hk e (by simpa using he)
      · rw [List.mem_singleton] at he; subst he; exact ⟨k,hkey,rfl⟩
    · rcases List.mem_append.mp he with he | he
      · exact hno e he k' (List.mem_cons_of_mem _ hk')
      · rw [List.mem_singleton] at he; subst he
        rw [KeyKind.is_eq_decide hkey k']
        exact decide_eq_false fun (e:k'=k)=>n1 (e ▸ hk')
    · refine h h₂ m₂ tk (hs₁.trans hs₂) ?_
      rw [g₂,List.append_assoc]; rfl
end
end Internal
namespace Internal
open PySem PySem.W PyProof.Rows PySem.Calls
structure Om where
  rho:List Addr
  fz:Addr→Option Obj
noncomputable def BI.val:BI→Value
  | .len=>.builtin "len" | .max=>.builtin "max" | .int=>.type "int" | .range=>.type "range" | .listM=>.type "list" | .listF=>.type "list"
  | .tuple=>.type "tuple" | .sorted=>.builtin "sorted" | .isinst=>.builtin "isinstance" | .fset=>.type "frozenset"
noncomputable def lim:Nat:=256 ^ 64
noncomputable abbrev tupO (its:Array Value) (n:Nat):Obj:={ cls:=.type "tuple", data:=.seq its n }
noncomputable def FsetO (is:List Int) (o:Obj):Prop:=o.cls = .type "frozenset" ∧ o.dict=none∧o.slots = #[]∧∃ es ep t,o.data = .set es ep t∧(∀ e ∈ es.toList,∃ k tk,e=(hashInt k,.int k tk))∧(∀ k,is.contains k=true ↔ ∃ e ∈ es.toList,Value.isInt k e.2=true)∧es.size < scanBound∧t.fits es.size=true
noncomputable def RngO (n:Int) (o:Obj):Prop:=∃ t u v,o = { cls:=.type "range", data:=.fields #[.int 0 t,.int n u,.int 1 v] }∧0≤n∧n < 2 ^ 62
noncomputable def TAB:Addr:=358
noncomputable def lamP:Nat:=31606279
noncomputable def plN:Nat:=0x706c61636573
noncomputable def lamQual:Str := "with_kept_blocks.<locals>.<lambda>"
inductive LamO (Ω:Om) (o:Obj) (dx:Addr):Prop
  | mk (an ap pp gp sp:Nat) (sc:Scope) (cell c':Addr) (pm ctv:Value) (occ oc:Obj) (vs:Array Value) (t:Tok)
    (h1:o=kla_obj "<lambda>" lamQual ⟨[],[⟨dec an,none,dpos ap⟩],none,[],[],none,[]⟩ (.Subscript (.Name (dec plN) (dpos pp)) (.Name (dec an) (dpos gp)) (dpos sp)) sc [(dec plN,cell)] pm c' ctv)
    (h2:sc.kind = .function) (h3:sc.isGenerator=false) (h4:sc.isCoroutine=false) (h5:sc.names = [(dec an,.local),(dec plN,.free)]) (h6:an < lim) (h7:dec an≠dec plN) (h8:(dec an == ("__debug__" : Str))=false)
    (h9:Ω.fz cell=some occ) (h10:occ.data = .cell (some (.ref dx))) (h11:Ω.fz c'=some oc) (h12:oc.data = .fields vs) (h13:vs[1]? = some (.str lamQual t))
inductive SeqR (Ω:Om) (o:Array Value→Nat→Obj) (p:List Value→Prop) (v:Value):Prop
  | mk (a:Addr) (its:Array Value) (n:Nat) (e:v = .ref a) (f:Ω.fz a=some (o its n)) (r:p its.toList)
inductive DctR (Ω:Om) (k:List DictEntry→Prop) (p:List Value→Prop) (v:Value):Prop
  | mk (a:Addr) (es:List DictEntry) (n:Nat) (e:v = .ref a) (f:Ω.fz a=some (dictOf es n)) (h:k es) (r:p (es.map (·.val)))
inductive ObjR (Ω:Om) (p:Obj→Prop) (v:Value):Prop
  | mk (a:Addr) (o:Obj) (e:v = .ref a) (f:Ω.fz a=some o) (h:p o)
inductive LocR (Ω:Om) (l:Nat) (v:Value):Prop
  | mk (a:Addr) (e:v = .ref a) (h:Ω.rho[l]? = some a)
inductive InsR (Ω:Om) (C l:Nat) (v:Value):Prop
  | mk (x dx:Addr) (e:v = .ref x) (f:Ω.fz x=some (instObj C dx)) (h:Ω.rho[l]? = some dx)
inductive LamR (Ω:Om) (l:Nat) (v:Value):Prop
  | mk (a:Addr) (o:Obj) (dx:Addr) (e:v = .ref a) (f:Ω.fz a=some o) (h:LamO Ω o dx) (k:Ω.rho[l]? = some dx)
inductive ConsR (p:Value→Prop) (q:List Value→Prop) (vs:List Value):Prop
  | mk (v:Value) (r:List Value) (e:vs=v :: r) (h:p v) (t:q r)
inductive KeyR (p:DictEntry→Prop) (q:List DictEntry→Prop) (es:List DictEntry):Prop
  | mk (e:DictEntry) (r:List DictEntry) (h:es=e :: r) (k:p e) (t:q r)
section
variable (P:Params) (Ω:Om)
noncomputable def KN:List Nat→List DictEntry→Prop
  | [],es=>es = []
  | k :: ks,es=>∃ e r,es=e :: r∧k < lim∧(∃ t,e.key = .str (dec k) t)∧e.hash=PyData.keyHash P (dec k)∧KN ks r
noncomputable def KI:List Int→List DictEntry→Prop
  | [],es=>es = []
  | k :: ks,es=>∃ e r,es=e :: r∧(∃ t,e.key = .int k t)∧e.hash=hashInt k∧KI ks r
mutual
noncomputable def R:V→Value→Prop
  | .none,v=>v = .none
  | .bool b,v=>v = .bool b
  | .int i,v=>∃ t,v = .int i t
  | .str n,v=>n < lim∧∃ t,v = .str (dec n) t
  | .tup vs,v=>SeqR Ω tupO (RL vs) v
  | .lst vs,v=>SeqR Ω listOf (RL vs) v
  | .dct ks vs,v=>DctR Ω (KN P ks) (RL vs) v
  | .dcti ks vs,v=>DctR Ω (KI ks) (RL vs) v
  | .fset is,v=>ObjR Ω (FsetO is) v
  | .rng n,v=>ObjR Ω (RngO n) v
  | .loc l,v=>LocR Ω l v
  | .inst C l,v=>InsR Ω C l v
  | .fn a,v=>v = .ref a
  | .cls a,v=>v = .ref a
  | .bi b,v=>v=b.val
  | .lam l,v=>LamR Ω l v
noncomputable def RL:List V→List Value→Prop
  | [],vs=>vs = []
  | x :: xs,vs=>ConsR (R x) (RL xs) vs
end
end
structure Om.Le (Ω Ω':Om):Prop where
  rho:∀ (l:Nat) (a:Addr),Ω.rho[l]? = some a→Ω'.rho[l]? = some a
  fz:∀ a o,Ω.fz a=some o→Ω'.fz a=some o
theorem Om.Le.refl (Ω:Om):Om.Le Ω Ω:=⟨fun _ _ h=>h,fun _ _ h=>h⟩
section
variable {P:Params} {Ω Ω':Om}
mutual
theorem R.mono (L:Om.Le Ω Ω'):∀ {x:V} {v:Value},R P Ω x v→R P Ω' x v
  | .none,_,h=>h
  | .bool _,_,h=>h
  | .int _,_,h=>h
  | .str _,_,h=>h
  | .tup _,_,.mk a its n e f r=>⟨a,its,n,e,L.fz _ _ f,RL.mono L r⟩
  | .lst _,_,.mk a its n e f r=>⟨a,its,n,e,L.fz _ _ f,RL.mono L r⟩
  | .dct _ _,_,.mk a es n e f k r=>⟨a,es,n,e,L.fz _ _ f,k,RL.mono L r⟩
  | .dcti _ _,_,.mk a es n e f k r=>⟨a,es,n,e,L.fz _ _ f,k,RL.mono L r⟩
  | .fset _,_,.mk a o e f r=>⟨a,o,e,L.fz _ _ f,r⟩
  | .rng _,_,.mk a o e f r=>⟨a,o,e,L.fz _ _ f,r⟩
  | .loc _,_,.mk a e f=>⟨a,e,L.rho _ _ f⟩
  | .inst _ _,_,.mk x dx e f r=>⟨x,dx,e,L.fz _ _ f,L.rho _ _ r⟩
  | .fn _,_,h=>h
  | .cls _,_,h=>h
  | .bi _,_,h=>h
  | .lam _,_,.mk a o dx e f ⟨an,ap,pp,gp,sp,sc,cell,c',pm,ctv,occ,oc,vs,t,h1,h2,h3,h4,h5,h6,h7,h8,h9,h10,h11,h12,h13⟩ r=>by
    exact ⟨a,o,dx,e,L.fz _ _ f,⟨an,ap,pp,gp,sp,sc,cell,c',pm,ctv,occ,oc,vs,t,h1,h2,h3,h4,h5,h6,h7,h8,L.fz _ _ h9,h10,L.fz _ _ h11,h12,h13⟩,L.rho _ _ r⟩
theorem RL.mono (L:Om.Le Ω Ω'):∀ {xs:List V} {vs:List Value},RL P Ω xs vs→RL P Ω' xs vs
  | [],_,h=>h
  | _ :: _,_,⟨v,r,e,h,t⟩=>⟨v,r,e,R.mono L h,RL.mono L t⟩
end
theorem RL.length:∀ {xs:List V} {vs:List Value},RL P Ω xs vs→vs.length=xs.length
  | [],_,h=>by subst h; rfl
  | _ :: _,_,⟨v,r,e,_,t⟩=>by subst e; simp [RL.length t]
theorem RL.get:∀ {xs:List V} {vs:List Value} (i:Nat) {x:V},RL P Ω xs vs→xs[i]? = some x→∃ v,vs[i]? = some v∧R P Ω x v
  | _ :: _,_,0,_,⟨v,r,e,h,_⟩,q=>by subst e; cases q; exact ⟨v,rfl,h⟩
  | _ :: _,_,i + 1,_,⟨v,r,e,_,t⟩,q=>by subst e; exact RL.get i t q
theorem RL.append:∀ {xs ys:List V} {vs ws:List Value},RL P Ω xs vs→RL P Ω ys ws→RL P Ω (xs++ys) (vs++ws)
  | [],_,_,_,h,k=>by subst h; exact k
  | _ :: _,_,_,_,⟨v,r,e,h,t⟩,k=>by subst e; exact ⟨v,r++_,rfl,h,RL.append t k⟩
theorem RL.take:∀ {xs:List V} {vs:List Value} (n:Nat),RL P Ω xs vs→RL P Ω (xs.take n) (vs.take n)
  | _,_,0,_=>rfl
  | [],_,_ + 1,h=>by subst h; rfl
  | _ :: _,_,n + 1,⟨v,r,e,h,t⟩=>by subst e; exact ⟨v,r.take n,rfl,h,RL.take n t⟩
theorem RL.drop:∀ {xs:List V} {vs:List Value} (n:Nat),RL P Ω xs vs→RL P Ω (xs.drop n) (vs.drop n)
  | _,_,0,h=>h
  | [],_,_ + 1,h=>by subst h; rfl
  | _ :: _,_,n + 1,⟨v,r,e,h,t⟩=>by subst e; exact RL.drop n t
theorem RL.one {x:V} {v:Value} (h:R P Ω x v):RL P Ω [x] [v]:=⟨v,[],rfl,h,rfl⟩
theorem RL.reverse:∀ {xs:List V} {vs:List Value},RL P Ω xs vs→RL P Ω xs.reverse vs.reverse
  | [],_,h=>by subst h; rfl
  | _ :: _,_,⟨v,r,e,h,t⟩=>by subst e; rw [List.reverse_cons,List.reverse_cons]; exact (RL.reverse t).append (.one h)
theorem RL.set:∀ {xs:List V} {vs:List Value} (i:Nat) {x:V} {v:Value},RL P Ω xs vs→R P Ω x v→RL P Ω (xs.set i x) (vs.set i v)
  | [],_,_,_,_,h,_=>by subst h; rfl
  | _ :: _,_,0,_,v',⟨v,r,e,_,t⟩,k=>by subst e; exact ⟨v',r,rfl,k,t⟩
  | _ :: _,_,i + 1,_,v',⟨v,r,e,h,t⟩,k=>by subst e; exact ⟨v,r.set i v',rfl,h,RL.set i t k⟩
theorem RL.replicate {x:V} {v:Value} (h:R P Ω x v):∀ n,RL P Ω (List.replicate n x) (List.replicate n v)
  | 0=>rfl
  | n + 1=>⟨v,List.replicate n v,rfl,h,RL.replicate h n⟩
end
noncomputable def EN (P:Params) (Ω:Om):List (Nat × V)→List DictEntry→Prop
  | [],es=>es = []
  | (k,x) :: r,es=>∃ e q,es=e :: q∧k < lim∧(∃ t,e.key = .str (dec k) t)∧e.hash=PyData.keyHash P (dec k)∧R P Ω x e.val∧EN P Ω r q
noncomputable def EI (P:Params) (Ω:Om):List (Int × V)→List DictEntry→Prop
  | [],es=>es = []
  | (k,x) :: r,es=>∃ e q,es=e :: q∧(∃ t,e.key = .int k t)∧e.hash=hashInt k∧R P Ω x e.val∧EI P Ω r q
noncomputable def OR (P:Params) (Ω:Om) (h:Heap) (a:Addr):O→Prop
  | .list vs=>∃ its n,h.get? a=some (listOf its n)∧RL P Ω vs its.toList
  | .dict kvs=>∃ es n,h.get? a=some (dictOf es n)∧EI P Ω kvs es
  | .obj kvs=>∃ es n,h.get? a=some (dictOf es n)∧EN P Ω kvs es
  | .code false=>h.get? a=some (tabObj #[])
  | .code true=>∃ c' oc vs t,h.get? a=some (tabObj #[rawInt (dpos lamP).line,rawInt (dpos lamP).col,.ref c'])∧Ω.fz c'=some oc∧oc.data = .fields vs∧vs[1]? = some (.str lamQual t)
section
variable {P:Params} {Ω Ω':Om}
theorem EN.mono (L:Om.Le Ω Ω'):∀ {kvs es},EN P Ω kvs es→EN P Ω' kvs es
  | [],_,h=>h
  | _ :: _,_,⟨e,q,he,a,b,c,d,t⟩=>⟨e,q,he,a,b,c,d.mono L,EN.mono L t⟩
theorem EI.mono (L:Om.Le Ω Ω'):∀ {kvs es},EI P Ω kvs es→EI P Ω' kvs es
  | [],_,h=>h
  | _ :: _,_,⟨e,q,he,b,c,d,t⟩=>⟨e,q,he,b,c,d.mono L,EI.mono L t⟩
theorem OR.mono (L:Om.Le Ω Ω') {h h':Heap} {a:Addr}:∀ {o:O},OR P Ω h a o→(∀ q,h.get? a=some q→h'.get? a=some q)→OR P Ω' h' a o
  | .list _,⟨i,n,g,r⟩,k=>⟨i,n,k _ g,r.mono L⟩
  | .dict _,⟨i,n,g,r⟩,k=>⟨i,n,k _ g,r.mono L⟩
  | .obj _,⟨i,n,g,r⟩,k=>⟨i,n,k _ g,r.mono L⟩
  | .code false,g,k=>k _ g
  | .code true,⟨c',oc,vs,t,g,f,r⟩,k=>⟨c',oc,vs,t,k _ g,L.fz _ _ f,r⟩
theorem OR.some {h:Heap} {a:Addr}:∀ {o:O},OR P Ω h a o→∃ q,h.get? a=some q
  | .list _,⟨_,_,g,_⟩=>⟨_,g⟩
  | .dict _,⟨_,_,g,_⟩=>⟨_,g⟩
  | .obj _,⟨_,_,g,_⟩=>⟨_,g⟩
  | .code false,g=>⟨_,g⟩
  | .code true,⟨_,_,_,_,g,_⟩=>⟨_,g⟩
end
structure Inv (P:Params) (B:Heap) (Ω:Om) (σ:S) (h:Heap):Prop where
  fz:∀ a o,Ω.fz a=some o→h.get? a=some o
  base:∀ a o,B.get? a=some o→Ω.fz a=some o
  tab:Ω.rho[0]? = some TAB
  len:Ω.rho.length=σ.length
  nd:Ω.rho.Nodup
  rfz:∀ a ∈ Ω.rho,Ω.fz a=none
  objs:∀ (l:Nat) (o:O) (a:Addr),σ[l]? = some o→Ω.rho[l]? = some a→OR P Ω h a o
structure Adv (ex:Addr→Prop) (Ω:Om) (s:Shared) (Ω':Om) (s':Shared):Prop where
  gens:s'.gens=s.gens
  drawn:s'.drawn=s.drawn
  os:s'.os=s.os
  rho:∃ t,Ω'.rho=Ω.rho++t∧∀ a ∈ t,s.heap.get? a=none ∨ ex a ∨ a ∈ Ω.rho
  fz:∀ a o,Ω.fz a=some o→Ω'.fz a=some o
  fzn:∀ a o,Ω'.fz a=some o→Ω.fz a=some o ∨ s.heap.get? a=none ∨ ex a ∨ a ∈ Ω.rho
  keep:∀ b o,s.heap.get? b=some o→b ∉ Ω.rho→¬ ex b→s'.heap.get? b=some o
section
variable {ex:Addr→Prop} {Ω Ω₁ Ω₂:Om} {s s₁ s₂:Shared}
theorem Adv.refl:Adv ex Ω s Ω s:=⟨rfl,rfl,rfl,⟨[],by simp,by simp⟩,fun _ _ h=>h,fun _ _ h=>.inl h,fun _ _ h _ _=>h⟩
theorem Adv.le (x:Adv ex Ω s Ω₁ s₁):Om.Le Ω Ω₁:=⟨fun l a h=>by
  refine e1_2 x.rho fun t e _=>?_
  rw [e,List.getElem?_append_left (List.getElem?_eq_some_iff.mp h).1]; exact h,x.fz⟩
theorem Adv.back (x:Adv ex Ω s Ω₁ s₁) {a:Addr} (h:s₁.heap.get? a=none):s.heap.get? a=none ∨ ex a ∨ a ∈ Ω.rho:=by
  by_cases h1:ex a
  · exact .inr (.inl h1)
  · by_cases h2:a ∈ Ω.rho
    · exact .inr (.inr h2)
    · cases q:s.heap.get? a with
      | none=>exact .inl rfl
      | some o=>rw [x.keep a o q h2 h1] at h; cases h
theorem Adv.trans (x:Adv ex Ω s Ω₁ s₁) (y:Adv ex Ω₁ s₁ Ω₂ s₂):Adv ex Ω s Ω₂ s₂:=by
  refine e1_2 x.rho fun t e ht=>?_
  refine e1_2 y.rho fun u f hu=>?_
  have old:∀ a,(s₁.heap.get? a=none ∨ ex a ∨ a ∈ Ω₁.rho)→s.heap.get? a=none ∨ ex a ∨ a ∈ Ω.rho:=by
    intro a h
    rcases h with h | h | h
    · exact x.back h
    · exact .inr (.inl h)
    · rw [e] at h
      rcases List.mem_append.mp h with h | h
      · exact .inr (.inr h)
      · exact ht a h
  refine ⟨y.gens.trans x.gens,y.drawn.trans x.drawn,y.os.trans x.os,⟨t++u,by rw [f,e,List.append_assoc],?_⟩,fun a o h=>y.fz a o (x.fz a o h),?_,?_⟩
  · intro a ha
    rcases List.mem_append.mp ha with h | h
    · exact ht a h
    · exact old a (hu a h)
  · intro a o h
    rcases y.fzn a o h with h | h
    · exact x.fzn a o h
    · exact .inr (old a h)
  · intro b o hb hn he
    refine y.keep b o (x.keep b o hb hn he) ?_ he
    rw [e]
    intro hm
    rcases List.mem_append.mp hm with h | h
    · exact hn h
    · rcases ht b h with q | q | q
      · rw [q] at hb; exact nn hb
      · exact he q
      · exact hn q
theorem Adv.weaken {ex':Addr→Prop} (x:Adv ex Ω s Ω₁ s₁) (w:∀ a,ex a→ex' a):Adv ex' Ω s Ω₁ s₁ :=
  ⟨x.gens,x.drawn,x.os,let ⟨t,e,h⟩:=x.rho; ⟨t,e,fun a ha=>(h a ha).imp id (.imp (w a) id)⟩,x.fz,fun a o h=>(x.fzn a o h).imp id (.imp id (.imp (w a) id)),fun b o h n e=>x.keep b o h n fun q=>e (w b q)⟩
theorem Adv.drop (x:Adv (fun a=>ex a ∨ s.heap.get? a=none) Ω s Ω₁ s₁):Adv ex Ω s Ω₁ s₁:=by
  have f:∀ a,(s.heap.get? a=none ∨ (ex a ∨ s.heap.get? a=none) ∨ a ∈ Ω.rho)→s.heap.get? a=none ∨ ex a ∨ a ∈ Ω.rho:=by
    intro a h
    rcases h with h | (h | h) | h
    · exact .inl h
    · exact .inr (.inl h)
    · exact .inl h
    · exact .inr (.inr h)
  refine ⟨x.gens,x.drawn,x.os,let ⟨t,e,h⟩:=x.rho; ⟨t,e,fun a ha=>f a (h a ha)⟩,x.fz,fun a o h=>(x.fzn a o h).imp id (f a),fun b o h n e=>x.keep b o h n fun q=>?_⟩
  rcases q with q | q
  · exact e q
  · rw [q] at h; exact nn h
theorem Adv.toks (n:Nat):Adv ex Ω s Ω { s with toks:=n }:=⟨rfl,rfl,rfl,⟨[],by simp,by simp⟩,fun _ _ h=>h,fun _ _ h=>.inl h,fun _ _ h _ _=>h⟩
theorem Adv.out (x:Adv ex Ω s Ω₁ s₁) {a:Addr} {o:Obj} (ho:s.heap.get? a=some o) (hr:a ∉ Ω.rho) (he:¬ ex a) (hf:Ω.fz a=none):Ω₁.fz a=none∧a ∉ Ω₁.rho∧s₁.heap.get? a=some o:=by
  refine ⟨?_,?_,x.keep a o ho hr he⟩
  · cases q:Ω₁.fz a with
    | none=>rfl
    | some p =>
      rcases x.fzn a p q with h | h | h | h
      · rw [hf] at h; exact nn h
      · rw [h] at ho; exact nn ho
      · exact (he h).elim
      · exact (hr h).elim
  · refine e1_2 x.rho fun t e ht=>?_
    rw [e]
    intro hm
    rcases List.mem_append.mp hm with h | h
    · exact hr h
    · rcases ht a h with h | h | h
      · rw [h] at ho; exact nn ho
      · exact he h
      · exact hr h
end
noncomputable abbrev no:Addr→Prop:=fun _=>False
inductive Ok (P:Params) (B:Heap) (Ω:Om) (s:Shared) (v:V) (σ':S) (val:Value) (s':Shared):Prop
  | mk (Ω':Om) (a:Adv no Ω s Ω' s') (i:Inv P B Ω' σ' s'.heap) (r:R P Ω' v val)
noncomputable abbrev nope:Value→Shared→Prop:=fun _ _=>False
section
variable {P:Params} {B:Heap} {Ω:Om} {σ:S} {s:Shared} {v:V} {val:Value}
theorem Inv.lt (I:Inv P B Ω σ s.heap) {a:Addr} {o:Obj} (h:Ω.fz a=some o):a < s.heap.objs.size:=Heap.lt_size (I.fz a o h)
theorem Inv.rlt (I:Inv P B Ω σ s.heap) {a:Addr} (h:a ∈ Ω.rho):a < s.heap.objs.size:=by
  obtain ⟨l,hl,e⟩:=List.getElem_of_mem h
  have hl':l < σ.length:=I.len ▸ hl
  refine e1_1 (OR.some (I.objs l (σ[l]) a (List.getElem?_eq_getElem hl') (by rw [List.getElem?_eq_getElem hl,e]))) fun q hq=>?_
  exact Heap.lt_size hq
theorem Inv.fresh (I:Inv P B Ω σ s.heap):Ω.fz s.heap.objs.size=none:=by
  cases h:Ω.fz s.heap.objs.size with
  | none=>rfl
  | some o=>exact absurd (I.lt h) (Nat.lt_irrefl _)
theorem Inv.keeps {h':Heap} (I:Inv P B Ω σ s.heap) (k:∀ b o,s.heap.get? b=some o→h'.get? b=some o):Inv P B Ω σ h' :=
  ⟨fun a o h=>k a o (I.fz a o h),I.base,I.tab,I.len,I.nd,I.rfz,fun l o a h1 h2=>(I.objs l o a h1 h2).mono (Om.Le.refl Ω) fun q=>k a q⟩
theorem Adv.keeps {ex:Addr→Prop} {h':Heap} {tk:Nat} (k:∀ b o,s.heap.get? b=some o→h'.get? b=some o):Adv ex Ω s Ω { s with heap:=h',toks:=tk } :=
  ⟨rfl,rfl,rfl,⟨[],by simp,by simp⟩,fun _ _ h=>h,fun _ _ h=>.inl h,fun b o h _ _=>k b o h⟩
noncomputable def Om.add (Ω:Om) (a:Addr) (o:Obj):Om:=⟨Ω.rho,fun b=>if b=a then some o else Ω.fz b⟩
theorem Om.add_le {a:Addr} {o:Obj} (h:Ω.fz a=none):Om.Le Ω (Ω.add a o):=⟨fun _ _ h=>h,fun b q hb=>by
  show (if b=a then some o else Ω.fz b)=some q
  by_cases e:b=a
  · subst e; rw [h] at hb; exact nn hb
  · rw [if_neg e]; exact hb⟩
theorem Om.add_self {a:Addr} {o:Obj}:(Ω.add a o).fz a=some o:=if_pos rfl
theorem Inv.push (I:Inv P B Ω σ s.heap) {o:Obj} (hf:o.isFreed=false):Inv P B (Ω.add s.heap.objs.size o) σ (s.heap.push o):=by
  have le:=Om.add_le (o:=o) I.fresh
  refine ⟨fun a q h=>?_,fun a q h=>le.fz a q (I.base a q h),I.tab,I.len,I.nd,fun a ha=>?_,fun l q a h1 h2=>(I.objs l q a h1 h2).mono le fun p=>Heap.get?_push_of_some o⟩
  · change (if a=s.heap.objs.size then some o else Ω.fz a)=some q at h
    by_cases e:a=s.heap.objs.size
    · subst e; rw [if_pos rfl] at h; cases h; exact Heap.get?_push_size _ hf
    · rw [if_neg e] at h; exact Heap.get?_push_of_some _ (I.fz a q h)
  · show (if a=s.heap.objs.size then some o else Ω.fz a)=none
    rw [if_neg (Nat.ne_of_lt (I.rlt ha))]; exact I.rfz a ha
theorem Adv.push {ex:Addr→Prop} {o:Obj} {tk:Nat} (hn:Ω.fz s.heap.objs.size=none):Adv ex Ω s (Ω.add s.heap.objs.size o) { s with heap:=s.heap.push o,toks:=tk }:=by
  refine ⟨rfl,rfl,rfl,⟨[],by simp [Om.add],by simp⟩,(Om.add_le hn).fz,fun a q h=>?_,fun b q h _ _=>Heap.get?_push_of_some _ h⟩
  change (if a=s.heap.objs.size then some o else Ω.fz a)=some q at h
  by_cases e:a=s.heap.objs.size
  · subst e; exact .inr (.inl (Heap.get?_none_of_le (Nat.le_refl _)))
  · rw [if_neg e] at h; exact .inl h
noncomputable def Om.app (Ω:Om) (a:Addr):Om:=⟨Ω.rho++[a],Ω.fz⟩
theorem Om.app_le {a:Addr}:Om.Le Ω (Ω.app a):=⟨fun l b h=>by
  show (Ω.rho++[a])[l]? = some b
  rw [List.getElem?_append_left (List.getElem?_eq_some_iff.mp h).1]; exact h,fun _ _ h=>h⟩
theorem Om.app_at (I:Inv P B Ω σ s.heap) {a:Addr}:(Ω.app a).rho[σ.length]? = some a:=by
  show (Ω.rho++[a])[σ.length]? = some a
  rw [← I.len]; simp
theorem Inv.appLoc {h:Heap} {a:Addr} {o:O} (I:Inv P B Ω σ h) (hf:Ω.fz a=none) (hr:a ∉ Ω.rho) (ho:OR P (Ω.app a) h a o):Inv P B (Ω.app a) (σ++[o]) h:=by
  refine ⟨I.fz,I.base,Om.app_le.rho _ _ I.tab,by simp [Om.app,I.len],?_,fun b hb=>?_,fun l p b h1 h2=>?_⟩
  · show (Ω.rho++[_]).Nodup
    rw [List.nodup_append]
    refine ⟨I.nd,by simp,fun b hb c hc e=>?_⟩
    rw [List.mem_singleton] at hc
    exact hr (hc ▸ e ▸ hb)
  · rcases List.mem_append.mp hb with h | h
    · exact I.rfz b h
    · rw [List.mem_singleton.mp h]; exact hf
  · change (Ω.rho++[_])[l]? = some b at h2
    by_cases hl:l < σ.length
    · rw [List.getElem?_append_left hl] at h1
      rw [List.getElem?_append_left (I.len ▸ hl)] at h2
      exact (I.objs l p b h1 h2).mono Om.app_le fun r=>id
    · have e:l=σ.length:=by
        have:=(List.getElem?_eq_some_iff.mp h1).1
        simp at this; exact Nat.le_antisymm (Nat.le_of_lt_succ this) (Nat.le_of_not_lt hl)
      subst e
      simp at h1
      rw [← I.len] at h2
      simp at h2
      subst h1; subst h2; exact ho
theorem Inv.alloc (I:Inv P B Ω σ s.heap) {q:Obj} {o:O} (hf:q.isFreed=false) (ho:OR P (Ω.app s.heap.objs.size) (s.heap.push q) s.heap.objs.size o) :
    Inv P B (Ω.app s.heap.objs.size) (σ++[o]) (s.heap.push q) :=
  (I.keeps fun _ _=>Heap.get?_push_of_some _).appLoc I.fresh (fun h=>absurd (I.rlt h) (Nat.lt_irrefl _)) ho
theorem Adv.appLoc {ex:Addr→Prop} {Ω':Om} {s':Shared} {a:Addr} (x:Adv ex Ω s Ω' s') (hn:s.heap.get? a=none):Adv ex Ω s (Ω'.app a) s':=by
  refine e1_2 x.rho fun t e ht=>?_
  refine ⟨x.gens,x.drawn,x.os,⟨t++[a],by show Ω'.rho++_=_; rw [e,List.append_assoc],fun b hb=>?_⟩,x.fz,x.fzn,x.keep⟩
  rcases List.mem_append.mp hb with hb | hb
  · exact ht b hb
  · rw [List.mem_singleton.mp hb]; exact .inl hn
theorem Adv.alloc {ex:Addr→Prop} {q:Obj} {tk:Nat}:Adv ex Ω s (Ω.app s.heap.objs.size) { s with heap:=s.heap.push q,toks:=tk } :=
  ⟨rfl,rfl,rfl,⟨[s.heap.objs.size],rfl,fun a ha=>.inl (by rw [List.mem_singleton] at ha; subst ha; exact Heap.get?_none_of_le (Nat.le_refl _))⟩,fun _ _ h=>h,fun _ _ h=>.inl h,fun b p h _ _=>Heap.get?_push_of_some _ h⟩
theorem Inv.upd (I:Inv P B Ω σ s.heap) {h':Heap} {l:Nat} {a:Addr} {o:O} (ha:Ω.rho[l]? = some a) (hs:Heap.SameBut a s.heap h') (ho:OR P Ω h' a o):Inv P B Ω (σ.set l o) h':=by
  have hm:a ∈ Ω.rho:=List.mem_of_getElem? ha
  refine ⟨fun b p h=>?_,I.base,I.tab,by simp [I.len],I.nd,I.rfz,fun k p b h1 h2=>?_⟩
  · have:b≠a:=by rintro rfl; rw [I.rfz b hm] at h; exact nn h
    exact (hs.2 b this).trans (I.fz b p h)
  · by_cases e:k=l
    · subst e
      rw [ha] at h2; cases h2
      rw [List.getElem?_set_self (by rw [← I.len]; exact (List.getElem?_eq_some_iff.mp ha).1)] at h1
      refine s1 h1 ?_; exact ho
    · rw [List.getElem?_set_ne (Ne.symm e)] at h1
      have:b≠a:=by
        rintro rfl
        refine e1_1 (List.getElem?_eq_some_iff.mp h2) fun k1 k2=>?_
        refine e1_1 (List.getElem?_eq_some_iff.mp ha) fun l1 l2=>?_
        exact e ((List.getElem_inj I.nd).mp (k2.trans l2.symm))
      exact (I.objs k p b h1 h2).mono (Om.Le.refl _) fun q hq=>(hs.2 b this).trans hq
theorem Adv.upd {ex:Addr→Prop} {h':Heap} {a:Addr} {tk:Nat} (hm:a ∈ Ω.rho) (hs:Heap.SameBut a s.heap h'):Adv ex Ω s Ω { s with heap:=h',toks:=tk } :=
  ⟨rfl,rfl,rfl,⟨[],by simp,by simp⟩,fun _ _ h=>h,fun _ _ h=>.inl h,fun b o h n _=>(hs.2 b fun e=>n (e ▸ hm)).trans h⟩
theorem Ok.same (I:Inv P B Ω σ s.heap) {tk:Nat} (r:R P Ω v val):Ok P B Ω s v σ val { s with toks:=tk }:=⟨Ω,.toks tk,I,r⟩
theorem Ok.here (I:Inv P B Ω σ s.heap) (r:R P Ω v val):Ok P B Ω s v σ val s:=⟨Ω,.refl,I,r⟩
theorem Ok.tup (I:Inv P B Ω σ s.heap) {xs:List V} {its:Array Value} {n tk:Nat} (r:RL P Ω xs its.toList):Ok P B Ω s (.tup xs) σ (.ref s.heap.objs.size) { s with heap:=s.heap.push (tupO its n),toks:=tk } :=
  ⟨_,.push I.fresh,I.push rfl,_,its,n,rfl,Om.add_self,r.mono (Om.add_le I.fresh)⟩
theorem Ok.lst (I:Inv P B Ω σ s.heap) {xs:List V} {its:Array Value} {n tk:Nat} (r:RL P Ω xs its.toList):Ok P B Ω s (.lst xs) σ (.ref s.heap.objs.size) { s with heap:=s.heap.push (listOf its n),toks:=tk } :=
  ⟨_,.push I.fresh,I.push rfl,_,its,n,rfl,Om.add_self,r.mono (Om.add_le I.fresh)⟩
theorem Ok.newL (I:Inv P B Ω σ s.heap) {xs:List V} {its:Array Value} {n tk:Nat} (r:RL P Ω xs its.toList):Ok P B Ω s (.loc σ.length) (σ++[.list xs]) (.ref s.heap.objs.size) { s with heap:=s.heap.push (listOf its n),toks:=tk } :=
  ⟨_,.alloc,I.alloc rfl ⟨its,n,Heap.get?_push_size _ rfl,r.mono Om.app_le⟩,_,rfl,Om.app_at I⟩
end
end Internal
namespace Internal
open PySem PySem.W PyProof.Rows PySem.Calls
structure Room (n:Nat) (A:Around):Prop where
  hh:A.handled=none
  dp:A.depth + 3 * n < 900
  un:A.units + 10 * n < 9000
theorem sizeOk_le {n:Nat} (h:sizeOk n=true):n≤sizeLine:=Nat.le_trans (Nat.le_of_ble_eq_true h) (by decide)
theorem small_iff {i:Int} (h:small i=true) : -(2 ^ 62) < i∧i < 2 ^ 62:=by
  unfold small at h
  rw [Bool.and_eq_true,decide_eq_true_eq,decide_eq_true_eq] at h
  exact h
theorem small_log {i:Int} (h:small i=true):i.natAbs.log2 < 9000:=by
  have ⟨a,b⟩:=small_iff h
  by_cases h0:i.natAbs=0
  · rw [h0]; decide +kernel
  · have:i.natAbs.log2 < 62:=(Nat.log2_lt h0).mpr (by lia)
    (refine le1 this ?_;simp +arith only)
theorem fold_rep (v:Value):∀ (k:Nat) (acc:Array Value),(List.foldl (fun x1 x2=>x1++x2) acc (List.replicate k #[v])).toList=acc.toList++List.replicate k v
  | 0,acc=>by simp
  | k + 1,acc=>by rw [List.replicate_succ,List.foldl_cons,fold_rep v k,List.replicate_succ]; simp
section
variable {prog:Program} {w:World} {A:Around} {s:Shared} {B:Heap} {Ω:Om} {σ σ':S} {a b v:V} {x y:Value} {n:Nat}
theorem ite_some {α:Type} {c:Bool} {x r:α} (h:(if c then some x else none)=some r):c=true∧x=r:=by
  induction c using Bool.casesOn with
  | true=>exact ⟨rfl,Option.some.inj h⟩
  | false=>exact nn h
theorem add_s (I:Inv w.params B Ω σ s.heap) (ra:R w.params Ω a x) (rb:R w.params Ω b y) (h:addV a b σ=some (v,σ')) :
    wpAny (model prog w) A (binaryOp .Add x y) (Ok w.params B Ω s v σ') nope s:=by
  induction a using V.casesOn with
  | int i =>
    refine bse h fun j h1 h=>?_
    rw [asInt_eq h1] at rb
    refine e1_1 ra ?_;clear ra;rintro t rfl; refine e1_1 rb ?_;clear rb;rintro u rfl
    cases h
    exact PySem.P.add_int (.same I ⟨_,rfl⟩)
  | tup xs =>
    induction b using V.casesOn with
    | tup ys =>
      refine e0_2 (ite_some h) fun hz e=>?_
      cases e
      have hz:=sizeOk_le hz
      obtain ⟨p,its,n,rfl,f,r⟩:=ra; obtain ⟨q,jts,m,rfl,g,k⟩:=rb
      have l1:=r.length; have l2:=k.length
      rw [Array.length_toList] at l1 l2
      by_cases e1:its.isEmpty=true
      · have e:its = #[]:=by simpa using e1
        subst e
        have:xs = []:=by induction xs using List.casesOn with | nil=>rfl | cons _ _=>simp at l1
        subst this
        exact concat_meets ⟨_,I.fz _ _ f,rfl⟩ ⟨_,I.fz _ _ g,rfl⟩ noFill_tuple_add seq_tuple_add F.slot_tuple_add F.entry_tuple_add (F.args_tuple_add_2 _ _)
          (AutoSeq1.tuple___add___tuple_tuple_0 p #[] n q jts m rfl) ⟨I.fz _ _ f,I.fz _ _ g,.here I ⟨q,jts,m,rfl,g,k⟩⟩
      · by_cases e2:jts.isEmpty=true
        · have e:jts = #[]:=by simpa using e2
          subst e
          have:ys = []:=by induction ys using List.casesOn with | nil=>rfl | cons _ _=>simp at l2
          subst this
          refine concat_meets ⟨_,I.fz _ _ f,rfl⟩ ⟨_,I.fz _ _ g,rfl⟩ noFill_tuple_add seq_tuple_add F.slot_tuple_add F.entry_tuple_add (F.args_tuple_add_2 _ _)
            (AutoSeq1.tuple___add___tuple_tuple_1 p its n q #[] m e1 rfl) ⟨I.fz _ _ f,I.fz _ _ g,.here I ?_⟩
          rw [List.append_nil]; exact ⟨p,its,n,rfl,f,r⟩
        · exact PySem.P.add_tuple (I.fz _ _ f) (I.fz _ _ g) e1 e2 (Ok.tup I (by rw [Array.toList_append]; exact r.append k)) (by rw [l1,l2]; exact hz)
    | _=>exact nn h
  | lst xs =>
    induction b using V.casesOn with
    | lst ys =>
      refine e0_2 (ite_some h) fun hz e=>?_
      cases e
      have hz:=sizeOk_le hz
      obtain ⟨p,its,n,rfl,f,r⟩:=ra; obtain ⟨q,jts,m,rfl,g,k⟩:=rb
      have l1:=r.length; have l2:=k.length
      rw [Array.length_toList] at l1 l2
      exact PySem.P.add_list (I.fz _ _ f) (I.fz _ _ g) (Ok.lst I (by rw [Array.toList_append]; exact r.append k)) (by rw [l1,l2]; exact hz)
    | _=>exact nn h
  | _=>exact nn h
theorem mul_s (I:Inv w.params B Ω σ s.heap) (ra:R w.params Ω a x) (rb:R w.params Ω b y) (h:mulV a b σ=some (v,σ')) :
    wpAny (model prog w) A (binaryOp .Mult x y) (Ok w.params B Ω s v σ') nope s:=by
  refine bse h fun i h1 h=>?_
  rw [asInt_eq h1] at rb
  induction a using V.casesOn with
  | int j =>
    refine e0_2 (ite_some h) fun hz e=>?_
    cases e
    refine e1_1 ra ?_;clear ra;rintro t rfl; refine e1_1 rb ?_;clear rb;rintro u rfl
    refine PySem.P.mul_int (.same I ⟨_,rfl⟩) ?_
    rcases Bool.or_eq_true_iff.mp hz with q | q
    · have:=small_iff q; exact .of_left (intBits_le_64 (by exact Int.lt_trans (by decide) this.1) (by exact Int.lt_trans this.2 (by decide)))
    · have:=small_iff q; exact .of_right (intBits_le_64 (by exact Int.lt_trans (by decide) this.1) (by exact Int.lt_trans this.2 (by decide)))
  | lst es =>
    induction es using List.casesOn with
    | nil=>exact nn h
    | cons e es =>
    induction es using List.casesOn with
    | cons _ _=>exact nn h
    | nil =>
      refine e0_2 (ite_some h) fun hz e'=>?_
      rw [Bool.and_eq_true,decide_eq_true_eq,decide_eq_true_eq] at hz
      cases e'
      obtain ⟨p,its,n,rfl,f,r⟩:=ra; refine e1_1 rb ?_;clear rb;rintro u rfl
      obtain ⟨v0,r0,e0,h0,h1⟩:=r
      subst h1
      have e:its = #[v0]:=Array.ext' e0
      subst e
      have hl:=I.fz _ _ f
      refine wpAny_binaryOp_repeat_ref (T := "list") (U := "int") (by decide) ⟨_,hl,rfl⟩ (fun s'=>typeIs_int s' i u) noFill_list_mul F.fills_int_mul F.slot_int_rmul repeat_list F.slot_int_index.lookup
        (call_meets F.slot_int_rmul (typeIs_int s i u) F.entry_int_rmul (F.args_int_rmul_2 _ _) (int___rmul___int_list i u p #[v0] n)
          ⟨hl,rfl,⟨_,hl,rfl⟩,call_meets F.slot_list_mul ⟨_,hl,rfl⟩ F.entry_list_mul (F.args_list_mul_2 _ _)
            (AutoListH.list___mul___list_int_3 p #[v0] n i u (by simp [Builtin.List.listFitsIndex]; exact ⟨Int.le_trans (by decide) hz.1,Int.lt_trans hz.2 (by decide)⟩) (by simp; exact Int.le_trans (Int.le_of_lt hz.2) (by decide)) (by simp [Builtin.List.listTooLong,sizeLine]; exact Int.le_trans (Int.le_of_lt hz.2) (by decide))) ⟨hl,?_⟩⟩)
      refine Ok.newL I ?_
      show RL _ _ _ (List.foldl (fun x1 x2=>x1++x2) #[] (List.replicate i.toNat #[v0])).toList
      rw [fold_rep]
      exact RL.replicate h0 _
  | _=>exact nn h
theorem intV_s {P:Params} {f:Int→Int→Option Int} (h:intV f a b σ=some (v,σ')) (ra:R P Ω a x) (rb:R P Ω b y):∃ i j k t u,x = .int i t∧y = .int j u∧f i j=some k∧v = .int k∧σ=σ':=by
  refine bse h fun i h1 h=>?_
  refine bse h fun j h2 h=>?_
  refine mse h fun k h3 h=>?_
  rw [asInt_eq h1] at ra
  rw [asInt_eq h2] at rb
  refine e1_1 ra ?_;clear ra;rintro t rfl; refine e1_1 rb ?_;clear rb;rintro u rfl
  cases h
  exact ⟨i,j,k,t,u,rfl,rfl,h3,rfl,rfl⟩
theorem binop_s {op:Operator} (I:Inv w.params B Ω σ s.heap) (ra:R w.params Ω a x) (rb:R w.params Ω b y) (h:binop op a b σ=some (v,σ')) :
    wpAny (model prog w) A (binaryOp op x y) (Ok w.params B Ω s v σ') nope s:=by
  induction op using PySem.Operator.casesOn with
  | Add=>exact add_s I ra rb h
  | Mult=>exact mul_s I ra rb h
  | Sub =>
    obtain ⟨i,j,k,t,u,rfl,rfl,e,rfl,rfl⟩:=intV_s h ra rb
    cases e
    exact PySem.P.sub_int (.same I ⟨_,rfl⟩)
  | FloorDiv =>
    obtain ⟨i,j,k,t,u,rfl,rfl,e,rfl,rfl⟩:=intV_s h ra rb
    refine e0_2 (ite_some e) ?_;rintro hz rfl
    rw [Bool.and_eq_true,decide_eq_true_eq] at hz
    exact PyProof.Rows.floordiv_int (by exact Ne.symm (Int.ne_of_lt hz.1)) (.same I ⟨_,rfl⟩) (.inl (PyProof.noPylong_of_log2 (small_log hz.2)))
  | Mod =>
    obtain ⟨i,j,k,t,u,rfl,rfl,e,rfl,rfl⟩:=intV_s h ra rb
    refine e0_2 (ite_some e) ?_;rintro hz rfl
    rw [Bool.and_eq_true,decide_eq_true_eq] at hz
    exact PyProof.Rows.mod_int (by exact Ne.symm (Int.ne_of_lt hz.1)) (.same I ⟨_,rfl⟩)
  | Pow =>
    obtain ⟨i,j,k,t,u,rfl,rfl,e,rfl,rfl⟩:=intV_s h ra rb
    refine e0_2 (ite_some e) ?_;rintro hz rfl
    rw [Bool.and_eq_true,decide_eq_true_eq,decide_eq_true_eq] at hz
    refine e0_2 hz ?_;clear hz;rintro rfl rfl
    exact PyProof.Rows.pow_int (by decide) (by decide) (.same I ⟨_,by rfl⟩)
  | _=>exact nn h
end
noncomputable def encL (a:Nat) (l:List Nat):Nat:=l.foldl (fun n c=>n * 256 + c) a
theorem enc_digs:∀ (f n:Nat) (acc:List Nat),n < 256 ^ f→encL 0 (digs f n acc)=encL n acc
  | 0,n,acc,h=>by
    have:n=0:=by simpa using h
    subst this; rfl
  | f + 1,0,acc,h=>rfl
  | f + 1,n + 1,acc,h=>by
    show encL 0 (digs f ((n + 1) / 256) ((n + 1) % 256 :: acc))=_
    rw [enc_digs f _ _ (by rw [Nat.div_lt_iff_lt_mul (by decide),← Nat.pow_succ]; exact h)]
    show encL ((n + 1) / 256 * 256 + (n + 1) % 256) acc=_
    congr 1
    exact Nat.div_add_mod' _ 256
theorem dec_inj {n m:Nat} (hn:n < lim) (hm:m < lim) (h:dec n=dec m):n=m:=by
  have e:(digs 64 n []).toArray=(digs 64 m []).toArray:=congrArg Str.cps h
  have e':digs 64 n [] = digs 64 m []:=by simpa using e
  have a:=enc_digs 64 n [] hn
  have b:=enc_digs 64 m [] hm
  rw [e',b] at a
  exact a.symm
theorem digs_lt:∀ (f n:Nat) (acc:List Nat),(∀ c ∈ acc,c < 256)→∀ c ∈ digs f n acc,c < 256
  | 0,_,_,h=>h
  | f + 1,0,_,h=>h
  | f + 1,n + 1,acc,h=>digs_lt f _ _ (by
    intro c hc
    rcases List.mem_cons.mp hc with rfl | hc
    · exact Nat.mod_lt _ (by decide)
    · exact h c hc)
theorem dec_ok (n:Nat):PyData.strOk (dec n)=true:=by
  unfold PyData.strOk dec
  simp only [List.all_toArray,List.all_eq_true,decide_eq_true_eq]
  intro c hc
  have:=digs_lt 64 n [] (by simp) c hc
  (refine le1 this ?_;simp +arith only)
mutual
noncomputable def toPy:V→PyData
  | .none=>.none
  | .bool b=>.bool b
  | .int i=>.int i
  | .str n=>.str (dec n)
  | .tup vs=>.tuple (toPys vs)
  | .lst vs=>.list (toPys vs)
  | _=>.none
noncomputable def toPys:List V→List PyData
  | []=>[]
  | v :: r=>toPy v :: toPys r
end
mutual
noncomputable def isDat:V→Prop
  | .none=>True
  | .bool _=>True
  | .int _=>True
  | .str n=>n < lim
  | .tup vs=>isDats vs
  | .lst vs=>isDats vs
  | _=>False
noncomputable def isDats:List V→Prop
  | []=>True
  | v :: r=>isDat v∧isDats r
end
mutual
theorem lay_toPy:∀ v:V,(toPy v).canLay0=true
  | .none=>rfl
  | .bool _=>rfl
  | .int _=>rfl
  | .str n=>dec_ok n
  | .tup vs=>lay_toPys vs
  | .lst vs=>lay_toPys vs
  | .dct ..=>rfl
  | .dcti ..=>rfl
  | .fset _=>rfl
  | .rng _=>rfl
  | .loc _=>rfl
  | .inst ..=>rfl
  | .fn _=>rfl
  | .cls _=>rfl
  | .bi _=>rfl
  | .lam _=>rfl
theorem lay_toPys:∀ vs:List V,PyData.canLayAll0 (toPys vs)=true
  | []=>rfl
  | v :: r=>by
    show (PyData.canLay0 (toPy v) && PyData.canLayAll0 (toPys r))=true
    rw [lay_toPy v,lay_toPys r]; rfl
end
mutual
theorem depth_toPy:∀ v:V,(toPy v).depth=dep v
  | .none=>rfl
  | .bool _=>rfl
  | .int _=>rfl
  | .str n=>rfl
  | .tup vs=>congrArg (· + 1) (depth_toPys vs)
  | .lst vs=>congrArg (· + 1) (depth_toPys vs)
  | .dct ..=>rfl
  | .dcti ..=>rfl
  | .fset _=>rfl
  | .rng _=>rfl
  | .loc _=>rfl
  | .inst ..=>rfl
  | .fn _=>rfl
  | .cls _=>rfl
  | .bi _=>rfl
  | .lam _=>rfl
theorem depth_toPys:∀ vs:List V,PyData.depthAll (toPys vs)=deps vs
  | []=>rfl
  | v :: r=>by
    show max (PyData.depth (toPy v)) (PyData.depthAll (toPys r))=max (dep v) (deps r)
    rw [depth_toPy v,depth_toPys r]
end
theorem str_beq {n m:Nat} (hn:n < lim) (hm:m < lim):(dec n == dec m)=(n == m):=by
  by_cases h:n=m
  · subst h; simp
  · have:dec n≠dec m:=fun e=>h (dec_inj hn hm e)
    rw [beq_eq_false_iff_ne.mpr this,beq_eq_false_iff_ne.mpr h]
mutual
theorem eqv_toPy:∀ (d e:V),isDat d→isDat e→PyData.eqv (toPy d) (toPy e)=veq d e
  | .none,e,_,he=>by induction e using V.casesOn <;> first | rfl | exact he.elim
  | .bool a,e,_,he=>by induction e using V.casesOn <;> first | rfl | exact he.elim
  | .int a,e,_,he=>by induction e using V.casesOn <;> first | rfl | exact he.elim
  | .str n,e,hd,he=>by
    induction e using V.casesOn with
    | str m=>exact str_beq hd he
    | _=>first | rfl | exact he.elim
  | .tup xs,e,hd,he=>by
    induction e using V.casesOn with
    | tup ys=>exact eqv_toPys xs ys hd he
    | _=>first | rfl | exact he.elim
  | .lst xs,e,hd,he=>by
    induction e using V.casesOn with
    | lst ys=>exact eqv_toPys xs ys hd he
    | _=>first | rfl | exact he.elim
  | .dct ..,_,hd,_=>hd.elim
  | .dcti ..,_,hd,_=>hd.elim
  | .fset _,_,hd,_=>hd.elim
  | .rng _,_,hd,_=>hd.elim
  | .loc _,_,hd,_=>hd.elim
  | .inst ..,_,hd,_=>hd.elim
  | .fn _,_,hd,_=>hd.elim
  | .cls _,_,hd,_=>hd.elim
  | .bi _,_,hd,_=>hd.elim
  | .lam _,_,hd,_=>hd.elim
theorem eqv_toPys:∀ (ds es:List V),isDats ds→isDats es→PyData.eqvAll (toPys ds) (toPys es)=veqs ds es
  | [],[],_,_=>rfl
  | [],_ :: _,_,_=>rfl
  | _ :: _,[],_,_=>rfl
  | d :: ds,e :: es,hd,he=>by
    show (PyData.eqv (toPy d) (toPy e) && PyData.eqvAll (toPys ds) (toPys es))=(veq d e && veqs ds es)
    rw [eqv_toPy d e hd.1 he.1,eqv_toPys ds es hd.2 he.2]
end
theorem any_toPys (d:V) (hd:isDat d):∀ es:List V,isDats es→((toPys es).any fun y=>PyData.eqv y (toPy d))=anyq d es
  | [],_=>rfl
  | e :: es,he=>by
    show (PyData.eqv (toPy e) (toPy d) || (toPys es).any fun y=>PyData.eqv y (toPy d))=(veq e d || anyq d es)
    rw [eqv_toPy e d he.1 hd,any_toPys d hd es he.2]
section
variable {P:Params} {B:Heap} {Ω:Om} {σ:S} {h:Heap}
mutual
theorem plain_reads (I:Inv P B Ω σ h):∀ (v:V) {val:Value},plain v=true→R P Ω v val→(∃ as,Reads h val (toPy v) as)∧isDat v
  | .none,_,_,r=>by subst r; exact ⟨⟨_,.none⟩,trivial⟩
  | .bool _,_,_,r=>by subst r; exact ⟨⟨_,.bool _⟩,trivial⟩
  | .int _,_,_,⟨t,r⟩=>by subst r; exact ⟨⟨_,.int _ _⟩,trivial⟩
  | .str _,_,_,⟨hl,t,r⟩=>by subst r; exact ⟨⟨_,.str _ _⟩,hl⟩
  | .tup vs,_,p,⟨a,its,n,e,f,r⟩=>by
    subst e
    refine e0_2 (plain_readss I vs p r) ?_;rintro ⟨as,q⟩ d
    exact ⟨⟨_,Reads.tuple (I.fz _ _ f) rfl rfl q⟩,d⟩
  | .lst vs,_,p,⟨a,its,n,e,f,r⟩=>by
    subst e
    refine e0_2 (plain_readss I vs p r) ?_;rintro ⟨as,q⟩ d
    exact ⟨⟨_,Reads.list (I.fz _ _ f) rfl rfl q⟩,d⟩
  | .dct ..,_,p,_=>by exact ff p
  | .dcti ..,_,p,_=>by exact ff p
  | .fset _,_,p,_=>by exact ff p
  | .rng _,_,p,_=>by exact ff p
  | .loc _,_,p,_=>by exact ff p
  | .inst ..,_,p,_=>by exact ff p
  | .fn _,_,p,_=>by exact ff p
  | .cls _,_,p,_=>by exact ff p
  | .bi _,_,p,_=>by exact ff p
  | .lam _,_,p,_=>by exact ff p
theorem plain_readss (I:Inv P B Ω σ h):∀ (vs:List V) {vals:List Value},plains vs=true→RL P Ω vs vals→(∃ as,ReadsAll h vals (toPys vs) as)∧isDats vs
  | [],_,_,r=>by subst r; exact ⟨⟨_,.nil⟩,trivial⟩
  | v :: vs,_,p,⟨x,q,e,r1,r2⟩=>by
    subst e
    have p':(plain v && plains vs)=true:=p
    rw [Bool.and_eq_true] at p'
    refine e0_2 (plain_reads I v p'.1 r1) ?_;rintro ⟨as,h1⟩ d1
    refine e0_2 (plain_readss I vs p'.2 r2) ?_;rintro ⟨bs,h2⟩ d2
    exact ⟨⟨_,.cons h1 h2⟩,d1,d2⟩
end
mutual
theorem res_reads (I:Inv P B Ω σ h):∀ (v:V) {d:V} {val:Value},res σ v=some d→R P Ω v val→(∃ as,Reads h val (toPy d) as)∧isDat d
  | .none,_,_,p,r=>by cases p; subst r; exact ⟨⟨_,.none⟩,trivial⟩
  | .bool _,_,_,p,r=>by cases p; subst r; exact ⟨⟨_,.bool _⟩,trivial⟩
  | .int _,_,_,p,⟨t,r⟩=>by cases p; subst r; exact ⟨⟨_,.int _ _⟩,trivial⟩
  | .str _,_,_,p,⟨hl,t,r⟩=>by cases p; subst r; exact ⟨⟨_,.str _ _⟩,hl⟩
  | .tup vs,_,_,p,⟨a,its,n,e,f,r⟩=>by
    subst e
    refine mse p ?_;rintro ds q rfl
    refine e0_2 (ress_reads I vs q r) ?_;rintro ⟨as,q⟩ d
    exact ⟨⟨_,Reads.tuple (I.fz _ _ f) rfl rfl q⟩,d⟩
  | .lst vs,_,_,p,⟨a,its,n,e,f,r⟩=>by
    subst e
    refine mse p ?_;rintro ds q rfl
    refine e0_2 (ress_reads I vs q r) ?_;rintro ⟨as,q⟩ d
    exact ⟨⟨_,Reads.list (I.fz _ _ f) rfl rfl q⟩,d⟩
  | .loc l,_,_,p,⟨a,e,f⟩=>by
    subst e
    unfold res at p
    split at p
    · rename_i vs hv
      split at p
      · rename_i hp
        cases p
        refine e2_2 (I.objs l _ a hv f) fun its n g r=>?_
        refine e0_2 (plain_readss I vs hp r) ?_;rintro ⟨as,q⟩ d
        exact ⟨⟨_,Reads.list g rfl rfl q⟩,d⟩
      · exact nn p
    · exact nn p
  | .dct ..,_,_,p,_=>by exact nn p
  | .dcti ..,_,_,p,_=>by exact nn p
  | .fset _,_,_,p,_=>by exact nn p
  | .rng _,_,_,p,_=>by exact nn p
  | .inst ..,_,_,p,_=>by exact nn p
  | .fn _,_,_,p,_=>by exact nn p
  | .cls _,_,_,p,_=>by exact nn p
  | .bi _,_,_,p,_=>by exact nn p
  | .lam _,_,_,p,_=>by exact nn p
theorem ress_reads (I:Inv P B Ω σ h):∀ (vs:List V) {ds:List V} {vals:List Value},ress σ vs=some ds→RL P Ω vs vals→(∃ as,ReadsAll h vals (toPys ds) as)∧isDats ds
  | [],_,_,p,r=>by cases p; subst r; exact ⟨⟨_,.nil⟩,trivial⟩
  | v :: vs,_,_,p,⟨x,q,e,r1,r2⟩=>by
    subst e
    refine bse p fun d p1 p2=>?_
    refine mse p2 ?_;rintro ds p3 rfl
    refine e0_2 (res_reads I v p1 r1) ?_;rintro ⟨as,h1⟩ d1
    refine e0_2 (ress_reads I vs p3 r2) ?_;rintro ⟨bs,h2⟩ d2
    exact ⟨⟨_,.cons h1 h2⟩,d1,d2⟩
end
end
section
variable {prog:Program} {w:World} {A:Around} {s:Shared} {B:Heap} {Ω:Om} {σ σ':S} {a b v:V} {x y:Value} {n:Nat} {c:Bool}
theorem dep_room {d e:V} (rm:Room n A) (h:(Nat.ble (dep d) 500 || Nat.ble (dep e) 500)=true):A.units + min (toPy d).depth (toPy e).depth < cLine:=by
  rw [depth_toPy,depth_toPy]
  exact (Bool.or_eq_true_iff.mp h).elim (fun q=>ar4 rm.un (Nat.le_trans (Nat.min_le_left _ _) (Nat.le_of_ble_eq_true q))) fun q=>ar4 rm.un (Nat.le_trans (Nat.min_le_right _ _) (Nat.le_of_ble_eq_true q))
theorem eqv_s (rm:Room n A) (I:Inv w.params B Ω σ s.heap) (ra:R w.params Ω a x) (rb:R w.params Ω b y) (h:eqv a b σ=some c) :
    wpAny (model prog w) A (compareOp .Eq x y) (fun r s'=>r = .bool c∧s'=s) nope s:=by
  refine bse h fun d p1 p2=>?_
  refine bse p2 fun e p3 p4=>?_
  split at p4
  · rename_i hd
    cases p4
    refine e0_2 (res_reads I a p1 ra) ?_;rintro ⟨as,h1⟩ d1
    refine e0_2 (res_reads I b p3 rb) ?_;rintro ⟨bs,h2⟩ d2
    exact SeqAt.compareEq_reads h1 h2 (lay_toPy d) (lay_toPy e) (dep_room rm hd) ⟨by rw [eqv_toPy d e d1 d2],rfl⟩
  · exact nn p4
theorem neqv_s (rm:Room n A) (I:Inv w.params B Ω σ s.heap) (ra:R w.params Ω a x) (rb:R w.params Ω b y) (h:eqv a b σ=some c) :
    wpAny (model prog w) A (compareOp .NotEq x y) (fun r s'=>r = .bool (!c)∧s'=s) nope s:=by
  refine bse h fun d p1 p2=>?_
  refine bse p2 fun e p3 p4=>?_
  split at p4
  · rename_i hd
    cases p4
    refine e0_2 (res_reads I a p1 ra) ?_;rintro ⟨as,h1⟩ d1
    refine e0_2 (res_reads I b p3 rb) ?_;rintro ⟨bs,h2⟩ d2
    exact SeqAt.compareNe_reads h1 h2 (lay_toPy d) (lay_toPy e) (dep_room rm hd) ⟨by rw [eqv_toPy d e d1 d2],rfl⟩
  · exact nn p4
theorem deps_room {d:V} {es:List V} (rm:Room n A) (h:(Nat.ble (dep d) 500 || Nat.ble (deps es) 500)=true):A.units + 1 + min (PyData.depthAll (toPys es)) (toPy d).depth < cLine:=by
  rw [depth_toPy,depth_toPys]
  exact (Bool.or_eq_true_iff.mp h).elim (fun q=>ar5 rm.un (Nat.le_trans (Nat.min_le_right _ _) (Nat.le_of_ble_eq_true q))) fun q=>ar5 rm.un (Nat.le_trans (Nat.min_le_left _ _) (Nat.le_of_ble_eq_true q))
end
end Internal
namespace Internal
open PySem PySem.W PyProof.Rows PySem.Calls
noncomputable def Tk (s s':Shared):Prop:=∃ t,s' = { s with toks:=t }
section
variable {P:Params} {Ω:Om}
theorem EI.keys:∀ {kvs:List (Int × V)} {es:List DictEntry},EI P Ω kvs es→∀ e ∈ es,∃ k t,e.key = .int k t∧e.hash=hashInt k
  | [],_,h,e,m=>by subst h; cases m
  | (k,x) :: r,_,⟨e0,q,he,⟨t,ht⟩,hh,_,tl⟩,e,m=>by
    subst he
    rcases List.mem_cons.mp m with rfl | m
    · exact ⟨k,t,ht,hh⟩
    · exact EI.keys tl e m
theorem EI.length:∀ {kvs:List (Int × V)} {es:List DictEntry},EI P Ω kvs es→es.length=kvs.length
  | [],_,h=>by subst h; rfl
  | _ :: _,_,⟨e0,q,he,_,_,_,tl⟩=>by subst he; simp [EI.length tl]
theorem EI.find:∀ {kvs:List (Int × V)} {es:List DictEntry} (j:Int),EI P Ω kvs es →
    (∀ v,lookI kvs j=some v→∃ e,es.find? (fun e=>Value.isInt j e.key)=some e∧R P Ω v e.val)∧(lookI kvs j=none→es.find? (fun e=>Value.isInt j e.key)=none)
  | [],_,j,h=>by subst h; exact ⟨(fun _ h=>by exact nn h),fun _=>rfl⟩
  | (k,x) :: r,_,j,⟨e0,q,he,⟨t,ht⟩,hh,hr,tl⟩=>by
    subst he
    have ih:=EI.find j tl
    have hk:Value.isInt j e0.key=decide (k=j):=by rw [ht]; simp [Value.isInt,Bool.beq_eq_decide_eq]
    unfold lookI
    rw [List.find?_cons,hk]
    by_cases e:k=j
    · rw [if_pos e,decide_eq_true e]
      exact ⟨fun v hv=>by cases hv; exact ⟨e0,rfl,hr⟩,fun h=>by cases h⟩
    · rw [if_neg e,decide_eq_false e]
      exact ih
theorem EN.length:∀ {kvs:List (Nat × V)} {es:List DictEntry},EN P Ω kvs es→es.length=kvs.length
  | [],_,h=>by subst h; rfl
  | _ :: _,_,⟨e0,q,he,_,_,_,_,tl⟩=>by subst he; simp [EN.length tl]
theorem isStr_dec {n m:Nat} {e:Value} (hn:n < lim) (hm:m < lim) (h:∃ t,e = .str (dec n) t):e.isStr (dec m)=decide (n=m):=by
  refine e1_1 h ?_;clear h;rintro t rfl
  show (dec n == dec m)=_
  rw [str_beq hn hm,Bool.beq_eq_decide_eq]
theorem EN.find:∀ {kvs:List (Nat × V)} {es:List DictEntry} (j:Nat),j < lim→EN P Ω kvs es →
    (∀ v,look kvs j=some v→∃ e,es.find? (fun e=>e.key.isStr (dec j))=some e∧R P Ω v e.val)∧(look kvs j=none→es.find? (fun e=>e.key.isStr (dec j))=none)
  | [],_,j,_,h=>by subst h; exact ⟨(fun _ h=>by exact nn h),fun _=>rfl⟩
  | (k,x) :: r,_,j,hj,⟨e0,q,he,hk0,ht,hh,hr,tl⟩=>by
    subst he
    have ih:=EN.find j hj tl
    have hk:e0.key.isStr (dec j)=decide (k=j):=isStr_dec hk0 hj ht
    rw [look_if]
    rw [List.find?_cons,hk]
    by_cases e:k=j
    · rw [if_pos e,decide_eq_true e]
      exact ⟨fun v hv=>by cases hv; exact ⟨e0,rfl,hr⟩,fun h=>by cases h⟩
    · rw [if_neg e,decide_eq_false e]
      exact ih
theorem EN.noRef:∀ {kvs:List (Nat × V)} {es:List DictEntry},EN P Ω kvs es→es.any (·.refKey)=false
  | [],_,h=>by subst h; rfl
  | _ :: _,_,⟨e0,q,he,_,⟨t,ht⟩,_,_,tl⟩=>by
    subst he
    rw [List.any_cons,EN.noRef tl,Bool.or_false]
    simp [DictEntry.refKey,ht]
theorem EN.getL {kvs:List (Nat × V)} {es:List DictEntry} (j:Nat) (hj:j < lim) (h:EN P Ω kvs es) :
    (∀ v,look kvs j=some v→∃ val,getL (dec j) es=some (some val)∧R P Ω v val)∧(look kvs j=none→getL (dec j) es=some none):=by
  have ⟨f1,f2⟩:=h.find j hj
  unfold PySem.W.getL
  refine ⟨fun v hv=>?_,fun hv=>?_⟩
  · refine e1_2 (f1 v hv) fun e he hr=>?_
    rw [he]; exact ⟨_,rfl,hr⟩
  · rw [f2 hv,h.noRef]; rfl
theorem EN.put:∀ {kvs:List (Nat × V)} {es:List DictEntry} (j:Nat) {v:V} {val:Value} {tk:Tok},j < lim→EN P Ω kvs es→R P Ω v val →
    EN P Ω (put kvs j v) (putL (dec j) (PyData.keyHash P (dec j)) (.str (dec j) tk) val es)
  | [],_,j,v,val,tk,hj,h,hr=>by subst h; exact ⟨_,[],rfl,hj,⟨tk,rfl⟩,rfl,hr,rfl⟩
  | (k,x) :: r,_,j,v,val,tk,hj,⟨e0,q,he,hk0,ht,hh,hx,tl⟩,hr=>by
    subst he
    have hk:e0.key.isStr (dec j)=decide (k=j):=isStr_dec hk0 hj ht
    rw [put_if]; unfold putL
    rw [hk]
    by_cases e:k=j
    · rw [if_pos e,decide_eq_true e,if_pos rfl]
      exact ⟨_,q,rfl,hk0,ht,hh,hr,tl⟩
    · rw [if_neg e,decide_eq_false e,if_neg Bool.false_ne_true]
      exact ⟨e0,_,rfl,hk0,ht,hh,hx,EN.put j hj tl hr⟩
end
section
variable {prog:Program} {w:World} {A:Around} {s:Shared} {B:Heap} {Ω:Om} {σ σ':S} {a b v:V} {x y z:Value} {n:Nat} {c:Bool} {E:Value→Shared→Prop}
theorem intMap_of {kvs:List (Int × V)} {es:List DictEntry} {m:Nat} {d:Addr} (h:EI w.params Ω kvs es) (g:s.heap.get? d=some (dictOf es m)):s.heap.IntMap d (fun k=>findBy Value.isInt es.toArray k) :=
  ⟨_,es.toArray,m,g,rfl,rfl,fun e he=>h.keys e (by simpa using he),fun _=>rfl⟩
theorem intMap_find {kvs:List (Int × V)} {es:List DictEntry} (j:Int) (h:EI w.params Ω kvs es) :
    (∀ v,lookI kvs j=some v→∃ val,findBy Value.isInt es.toArray j=some val∧R w.params Ω v val)∧(lookI kvs j=none→findBy Value.isInt es.toArray j=none):=by
  have ⟨f1,f2⟩:=h.find j
  unfold findBy
  rw [List.find?_toArray]
  refine ⟨fun v hv=>?_,fun hv=>?_⟩
  · refine e1_2 (f1 v hv) fun e he hr=>?_
    rw [he]; exact ⟨_,rfl,hr⟩
  · rw [f2 hv]; rfl
noncomputable def CmpOk (s:Shared) (c:Bool):Value→Shared→Prop:=fun r s'=>r = .bool c∧Tk s s'
theorem CmpOk.here:CmpOk s c (.bool c) s:=⟨rfl,s.toks,rfl⟩
theorem isIn_s {ys:List V} (rm:Room n A) (I:Inv w.params B Ω σ s.heap) (ra:R w.params Ω a x) (h:isIn a ys σ=some c) (tup:Bool)
    (rb:R w.params Ω (if tup then .tup ys else .lst ys) y):wpAny (model prog w) A (compareOp .In x y) (CmpOk s c) nope s:=by
  refine bse h fun d p1 p2=>?_
  refine bse p2 fun ds p3 p4=>?_
  split at p4
  · rename_i hd
    cases p4
    refine e0_2 (res_reads I a p1 ra) ?_;rintro ⟨as,h1⟩ d1
    induction tup using Bool.casesOn with
    | true =>
      obtain ⟨q,its,m,rfl,f,r⟩:=rb
      refine e0_2 (ress_reads I ys p3 r) ?_;rintro ⟨bs,h2⟩ d2
      exact SeqAt.in_tuple_reads (Reads.tuple (I.fz _ _ f) rfl rfl h2) h1 (lay_toPys ds) (lay_toPy d) (deps_room rm hd) (by rw [any_toPys d d1 ds d2]; exact .here)
    | false =>
      obtain ⟨q,its,m,rfl,f,r⟩:=rb
      refine e0_2 (ress_reads I ys p3 r) ?_;rintro ⟨bs,h2⟩ d2
      exact SeqAt.in_list_reads (Reads.list (I.fz _ _ f) rfl rfl h2) h1 (lay_toPys ds) (lay_toPy d) (deps_room rm hd) (by rw [any_toPys d d1 ds d2]; exact .here)
  · exact nn p4
theorem fsetO_of {o:Obj} {is:List Int} {S:Int→Bool} {es:Array (Int × Value)} {ep:Nat} {t:SetTable} (X:FSet prog w o S es ep t) (e:∀ k,is.contains k=S k):FsetO is o :=
  ⟨X.cls,X.dict,X.slots,es,ep,t,X.data,fun e he=>by
    refine e0_2 (X.el e he) ?_;rintro ⟨k,h1,h2⟩ _
    refine e1_1 (Value.isInt_shape h1) fun tk h3=>?_
    exact ⟨k,tk,Prod.ext h2 h3⟩,fun k=>by rw [e k]; exact X.mem k,X.bd,X.fit⟩
theorem fset_of {o:Obj} {is:List Int} (x:FsetO is o):∃ es ep t,FSet prog w o (fun k=>is.contains k) es ep t:=by
  obtain ⟨h1,h2,h3,es,ep,t,h4,h5,h6,h7,h8⟩:=x
  exact ⟨es,ep,t,h1,h2,h3,h4,fun e he=>by
    refine e2_1 (h5 e he) ?_;rintro k tk rfl
    exact ⟨⟨k,intKind_is prog w k tk,rfl⟩,rfl⟩,h6,h7,h8⟩
theorem in_fset_s {is:List Int} {i:Int} (I:Inv w.params B Ω σ s.heap) (ra:R w.params Ω (.int i) x) (rb:R w.params Ω (.fset is) y) :
    wpAny (model prog w) A (compareOp .In x y) (CmpOk s (is.contains i)) nope s:=by
  refine e1_1 ra ?_;clear ra;rintro t rfl
  obtain ⟨a,o,rfl,f,hf⟩:=rb
  refine e3_1 (fset_of (prog:=prog) (w:=w) hf) fun es ep tt X=>?_
  exact fs_in (k:=i) (intKind_is prog w i t) rfl ⟨o,es,ep,tt,I.fz _ _ f,X,rfl⟩ ⟨rfl,_,rfl⟩
theorem intC_s {P:Params} {f:Int→Int→Bool} (h:intC f a b=some c) (ra:R P Ω a x) (rb:R P Ω b y):∃ i j t u,x = .int i t∧y = .int j u∧f i j=c:=by
  refine bse h fun i h1 h=>?_
  refine mse h fun j h2 h=>?_
  rw [asInt_eq h1] at ra
  rw [asInt_eq h2] at rb
  refine e1_1 ra ?_;clear ra;rintro t rfl; refine e1_1 rb ?_;clear rb;rintro u rfl
  exact ⟨i,j,t,u,rfl,rfl,h⟩
theorem isN_s {P:Params} (ra:R P Ω a x) (h:isN a=some c):(x = .none∧c=true) ∨ ((∀ s:Shared,wpAny (model prog w) A (compareOp .Is x .none) (CmpOk s false) nope s)∧(∀ s:Shared,wpAny (model prog w) A (compareOp .IsNot x .none) (CmpOk s true) nope s)∧c=false):=by
  induction a using V.casesOn with
  | none=>subst ra; exact .inl ⟨rfl,(Option.some.inj h).symm⟩
  | tup vs=>obtain ⟨p,its,m,rfl,_⟩:=ra; exact .inr ⟨fun _=>is_none .here,fun _=>isNot_none .here,(Option.some.inj h).symm⟩
  | str _=>obtain ⟨_,t,rfl⟩:=ra; exact .inr ⟨fun _=>is_none .here,fun _=>isNot_none .here,(Option.some.inj h).symm⟩
  | int _=>refine e1_1 ra ?_;clear ra;rintro t rfl; exact .inr ⟨fun _=>is_none .here,fun _=>isNot_none .here,(Option.some.inj h).symm⟩
  | bool _=>subst ra; exact .inr ⟨fun _=>is_none .here,fun _=>isNot_none .here,(Option.some.inj h).symm⟩
  | _=>exact nn h
theorem isT_s {P:Params} {d:Bool} (ra:R P Ω a x) (h:isT a=some c) (hd:d=true):wpAny (model prog w) A (compareOp .Is x (.bool d)) (CmpOk s c) nope s:=by
  subst hd
  induction a using V.casesOn with
  | bool b =>
    subst ra
    have e:b=c:=Option.some.inj h
    subst e
    refine wpAny_is_plain rfl ?_
    induction b using Bool.casesOn <;> exact .here
  | tup _=>obtain ⟨p,its,m,rfl,_⟩:=ra; cases h; exact wpAny_is_plain rfl .here
  | _=>exact nn h
theorem cmpop_s {op:CmpOp} (rm:Room n A) (I:Inv w.params B Ω σ s.heap) (hsm:Ω.fz sysModules≠none) (ra:R w.params Ω a x) (rb:R w.params Ω b y) (h:cmpop op a b σ=some c) :
    wpAny (model prog w) A (compareOp op x y) (CmpOk s c) nope s:=by
  induction op using PySem.CmpOp.casesOn with
  | Eq=>exact wpAny_mono (eqv_s rm I ra rb h) (fun _ _ ⟨e1,e2⟩=>⟨e1,s.toks,by rw [e2]⟩) fun _ _ e=>e
  | NotEq =>
    refine mse h ?_;rintro c' h' rfl
    exact wpAny_mono (neqv_s rm I ra rb h') (fun _ _ ⟨e1,e2⟩=>⟨e1,s.toks,by rw [e2]⟩) fun _ _ e=>e
  | Lt=>refine e4_3 (intC_s h ra rb) ?_;rintro i j t u rfl rfl rfl; exact PyProof.Rows.lt_int .here
  | LtE=>refine e4_3 (intC_s h ra rb) ?_;rintro i j t u rfl rfl rfl; exact PyProof.Rows.le_int .here
  | Gt=>refine e4_3 (intC_s h ra rb) ?_;rintro i j t u rfl rfl rfl; exact PyProof.Rows.gt_int .here
  | GtE=>refine e4_3 (intC_s h ra rb) ?_;rintro i j t u rfl rfl rfl; exact PyProof.Rows.ge_int .here
  | Is =>
    induction b using V.casesOn with
    | none =>
      subst rb
      rcases isN_s (prog:=prog) (w:=w) (A:=A) ra h with ⟨rfl,rfl⟩ | ⟨k,_,rfl⟩
      · exact is_none .here
      · exact k s
    | bool d =>
      subst rb
      induction d using Bool.casesOn with
      | true=>exact isT_s ra h rfl
      | false=>exact nn h
    | _=>exact nn h
  | IsNot =>
    induction b using V.casesOn with
    | none =>
      subst rb
      refine mse h ?_;rintro d h' rfl
      rcases isN_s (prog:=prog) (w:=w) (A:=A) ra h' with ⟨rfl,rfl⟩ | ⟨_,k,rfl⟩
      · exact isNot_none .here
      · exact k s
    | _=>exact nn h
  | In =>
    induction b using V.casesOn with
    | tup vs=>exact isIn_s rm I ra h true rb
    | lst vs=>exact isIn_s rm I ra h false rb
    | fset is =>
      refine mse h ?_;rintro i h1 rfl
      rw [asInt_eq h1] at ra
      exact in_fset_s I ra rb
    | loc l =>
      refine bse h fun kvs h1 h=>?_
      refine mse h ?_;rintro i h2 rfl
      refine e1_2 (dictAt_eq h1) fun l' e hl=>?_
      cases e
      rw [asInt_eq h2] at ra
      refine e1_1 ra ?_;clear ra;rintro t rfl
      obtain ⟨d,rfl,hd⟩:=rb
      refine e2_2 (I.objs _ _ _ hl hd) fun es m g k=>?_
      refine wpAny_in_intMap (intMap_of k g) ⟨?_,_,rfl⟩
      have ⟨f1,f2⟩:=intMap_find i k
      cases q:lookI kvs i with
      | none=>rw [f2 q]; rfl
      | some v=>refine e1_2 (f1 v q) fun val e _=>?_; rw [e]; rfl
    | _=>exact nn h
  | NotIn =>
    refine bse h fun kvs h1 h=>?_
    refine mse h ?_;rintro i h2 rfl
    refine e1_2 (dictAt_eq h1) ?_;rintro l rfl hl
    rw [asInt_eq h2] at ra
    refine e1_1 ra ?_;clear ra;rintro t rfl
    obtain ⟨d,rfl,hd⟩:=rb
    refine e2_2 (I.objs _ _ _ hl hd) fun es m g k=>?_
    have ne:(d == sysModules)=false:=beq_eq_false_iff_ne.mpr fun e=>hsm (e ▸ I.rfz d (List.mem_of_getElem? hd))
    refine wpAny_notIn_of (knd:=intKind prog w) (k:=i) (by simp [intKind,Value.isInt]) ne ((intMap_of k g).mapOf fun o ho=>by rw [g] at ho; cases ho; exact ⟨rfl,rfl⟩) ⟨?_,_,rfl⟩
    have ⟨f1,f2⟩:=intMap_find i k
    cases q:lookI kvs i with
    | none=>rw [f2 q]; rfl
    | some v=>refine e1_2 (f1 v q) fun val e _=>?_; rw [e]; rfl
theorem getAt_s {vs:List V} {its:List Value} {i:Int} (r:RL w.params Ω vs its) (h:getAt vs i=some v) : -2 ^ 63≤i∧i < 2 ^ 63∧∃ k val,seqIndex? i its.length=some k∧its[k]? = some val∧R w.params Ω v val:=by
  unfold getAt at h
  split at h
  · rename_i hs
    have ⟨b1,b2⟩:=small_iff hs
    refine ⟨Int.le_of_lt (Int.lt_trans (by decide) b1),Int.lt_trans b2 (by decide),?_⟩
    have hl:=r.length
    split at h
    · rename_i h0
      refine e1_2 (r.get _ h) fun val e rv=>?_
      have:=(List.getElem?_eq_some_iff.mp e).1
      refine ⟨i.toNat,val,?_,e,rv⟩
      unfold seqIndex?
      simp only [show ¬ i < 0 from Int.not_lt.mpr h0,if_false]
      rw [if_pos (by simp; exact ⟨h0,(Int.toNat_lt h0).mp this⟩)]
    · rename_i h0
      split at h
      · rename_i h1
        refine e1_2 (r.get _ h) fun val e rv=>?_
        refine ⟨_,val,?_,e,rv⟩
        unfold seqIndex?
        simp only [show i < 0 from Int.not_le.mp h0,if_true]
        have hp:0 < (-i).toNat:=Int.pos_iff_toNat_pos.mp (Int.neg_pos_of_neg (Int.not_le.mp h0))
        have hq:(-i)=((-i).toNat:Int):=(Int.toNat_of_nonneg (Int.le_of_lt (Int.neg_pos_of_neg (Int.not_le.mp h0)))).symm
        generalize (-i).toNat=q at *
        rw [if_pos (by simp; lia)]
        congr 1
        lia
      · exact nn h
  · exact nn h
theorem itemL_s {vs:List V} {its:List Value} {i:Int} (r:RL w.params Ω vs its) (h:itemL vs i=some v):0≤i∧i < 2 ^ 63∧∃ val,its[i.toNat]? = some val∧R w.params Ω v val:=by
  unfold itemL at h
  split at h
  · rename_i hs
    rw [Bool.and_eq_true,decide_eq_true_eq] at hs
    have ⟨b1,b2⟩:=small_iff hs.2
    refine e1_2 (r.get _ h) fun val e rv=>?_
    exact ⟨hs.1,Int.lt_trans b2 (by decide),val,e,rv⟩
  · exact nn h
theorem KN.zip:∀ {ks:List Nat} {vs:List V} {es:List DictEntry},KN w.params ks es→RL w.params Ω vs (es.map (·.val))→EN w.params Ω (ks.zip vs) es
  | [],_,_,h,r=>by subst h; rfl
  | k :: ks,vs,_,⟨e,q,he,hk,ht,hh,tl⟩,r=>by
    subst he
    induction vs using List.casesOn with
    | nil=>cases r
    | cons v vs =>
      obtain ⟨v',r',e',h1,h2⟩:=r
      cases e'
      exact ⟨e,q,rfl,hk,ht,hh,h1,KN.zip tl h2⟩
theorem getItem_s (I:Inv w.params B Ω σ s.heap) (ra:R w.params Ω a x) (rb:R w.params Ω b y) (h:getItem a b σ=some (v,σ')) :
    wpAny (model prog w) A (PySem.getItem x y) (Ok w.params B Ω s v σ') nope s:=by
  induction a using V.casesOn with
  | tup vs =>
    refine bse h fun i hi h=>?_
    refine mse h fun v' h' e=>?_
    cases e
    rw [asInt_eq hi] at rb
    obtain ⟨p,its,m,rfl,f,r⟩:=ra; refine e1_1 rb ?_;clear rb;rintro t rfl
    obtain ⟨h1,h2,k,val,h3,h4,rv⟩:=getAt_s r h'
    exact PySem.P.getItem_tuple (I.fz _ _ f) h1 h2 (by simpa using h3) (by simpa using h4) (.here I rv)
  | lst vs =>
    refine bse h fun i hi h=>?_
    refine mse h fun v' h' e=>?_
    cases e
    rw [asInt_eq hi] at rb
    obtain ⟨p,its,m,rfl,f,r⟩:=ra; refine e1_1 rb ?_;clear rb;rintro t rfl
    obtain ⟨h1,h2,val,h3,rv⟩:=itemL_s r h'
    exact wpAny_getItem_list ⟨_,I.fz _ _ f,rfl,m,rfl⟩ h1 h2 (by simpa using h3) (.here I rv)
  | dct ks vs =>
    refine bse h fun k hi h=>?_
    refine mse h fun v' h' e=>?_
    cases e
    rw [asStr_eq hi] at rb
    obtain ⟨p,es,m,rfl,f,kn,r⟩:=ra; obtain ⟨hk,t,rfl⟩:=rb
    have en:=KN.zip kn r
    have hm:s.heap.MapOf (PySem.strKind prog w) p (fun k=>findBy Value.isStrOf es.toArray k) :=
      ⟨_,es.toArray,m,I.fz _ _ f,⟨rfl,rfl,rfl⟩,rfl,fun e he=>by
        have:∀ {kvs:List (Nat × V)} {es:List DictEntry},EN w.params Ω kvs es→∀ e ∈ es,∃ k,(PySem.strKind prog w).is k e.key=true∧e.hash=(PySem.strKind prog w).hash k:=by
          intro kvs
          induction kvs with
          | nil=>intro es h e m; subst h; cases m
          | cons q qs ih =>
            obtain ⟨k0,x0⟩:=q
            intro es ⟨e0,q,he,_,⟨t,ht⟩,hh,_,tl⟩ e m
            subst he
            rcases List.mem_cons.mp m with rfl | m
            · exact ⟨dec k0,by rw [ht]; simp [PySem.strKind,Value.isStrOf],hh⟩
            · exact ih tl e m
        exact this en e (by simpa using he),fun _=>rfl⟩
    refine e1_2 ((en.find k hk).1 _ h') fun e he rv=>?_
    refine wpAny_getItem_of (knd:=PySem.strKind prog w) (k:=dec k) (v:=e.val) (by simp [PySem.strKind,Value.isStrOf]) hm ?_ (.same I rv)
    unfold findBy
    rw [List.find?_toArray]
    have q:(fun d:DictEntry=>Value.isStrOf (dec k) d.key)=fun d=>d.key.isStr (dec k):=funext fun d=>(isStr_of (dec k) d.key).symm
    rw [q,he]; rfl
  | loc l =>
    refine bse h fun j hi h=>?_
    rw [asInt_eq hi] at rb
    obtain ⟨d,rfl,hd⟩:=ra; refine e1_1 rb ?_;clear rb;rintro t rfl
    refine mse h fun v' h' e=>?_
    cases e
    unfold itemO at h'
    split at h'
    · rename_i vs hl
      refine e2_2 (I.objs _ _ _ hl hd) fun its m g r=>?_
      obtain ⟨h1,h2,val,h3,rv⟩:=itemL_s r h'
      exact wpAny_getItem_list ⟨_,g,rfl,m,rfl⟩ h1 h2 (by simpa using h3) (.here I rv)
    · rename_i kvs hl
      refine e2_2 (I.objs _ _ _ hl hd) fun es m g r=>?_
      refine e1_2 ((intMap_find j r).1 _ h') fun val e1 rv=>?_
      exact wpAny_getItem_intMap (intMap_of r g) e1 (.same I rv)
    · exact nn h'
  | _=>exact nn h
inductive Ok0 (P:Params) (B:Heap) (Ω:Om) (s:Shared) (σ':S) (s':Shared):Prop
  | mk (Ω':Om) (a:Adv no Ω s Ω' s') (i:Inv P B Ω' σ' s'.heap)
theorem mapSeq_list (its:Array Value) (m:Nat) (f:Array Value→Array Value):∃ m',(listOf its m).mapSeq f=listOf (f its) m':=⟨_,rfl⟩
theorem RL.setA {vs:List V} {its:Array Value} {j:Nat} {val:Value} (r:RL w.params Ω vs its.toList) (k:R w.params Ω v val):RL w.params Ω (vs.set j v) (its.setIfInBounds j val).toList:=by
  rw [Array.toList_setIfInBounds]; exact r.set j k
theorem setList_raw {d:Addr} {its:Array Value} {m:Nat} {k:Int} {t:Tok} {z:Value} {Q:Unit→Shared→Prop} (g:s.heap.get? d=some (listOf its m)) (h0:0≤k) (h1:k < 2 ^ 63) (h2:k < its.size)
    (hQ:Q () { s with heap:=s.heap.update d (Obj.mapSeq (·.setIfInBounds k.toNat z)) }):wpAny (model prog w) A (PySem.setItem (.ref d) (.int k t) z) Q E s:=by
  have hL:s.heap.IsList d its:=⟨_,g,rfl,m,rfl⟩
  unfold PySem.setItem
  try with_reducible refine wpAny_holding ?_
  first | refine wpAny_bind (wpAny_pure ?_) | skip
  refine wpAny_bind (wpAny_sequenceKey hL.typeIs (by decide) ?_)
  refine wpAny_bind (wpAny_callSpecial?_slot (name:=Str.ofString "__setitem__") hL.typeIs slot_list_setitem
    (wpAny_call_entry slot_list_setitem hL.typeIs entry_list_setitem ?_ (args_list_setitem _ _ _)))
  show wpAny _ _ (Builtin.List.listSubscript? (.int k t) >>= _) _ _ s
  refine wpAny_bind (wpAny_listSubscript_int (fitsIndex_of h0 h1) ?_)
  clear h1
  refine e1_1 (Int.eq_ofNat_of_zero_le h0) ?_;rintro j rfl
  have hj:j < its.size:=Int.ofNat_lt.mp h2
  have hx':its[j]? = some its[j]:=Array.getElem?_eq_getElem hj
  show wpAny _ _ ((seqItemAt d j >>= fun r=>pure (r.map (j,·))) >>= _) _ _ s
  refine wpAny_bind (wpAny_bind (wpAny_seqItemAt g rfl (wpAny_pure ?_)))
  rw [hx']
  show wpAny _ _ (setSeqItemAt d j z >>= _) _ _ s
  refine wpAny_bind (wpAny_setSeqItemAt g rfl ?_)
  first
    | exact wpAny_bind (wpAny_pure (wpAny_pure ⟨.none,rfl,wpAny_pure hQ⟩))
    | exact wpAny_pure ⟨.none,rfl,wpAny_pure hQ⟩
theorem setList_s {l j:Nat} {d:Addr} {t:Tok} {vs:List V} (I:Inv w.params B Ω σ s.heap) (hl:σ[l]? = some (.list vs)) (hd:Ω.rho[l]? = some d) (rc:R w.params Ω v z)
    (h1:(j:Int) < 2 ^ 63) (h2:j < vs.length):wpAny (model prog w) A (PySem.setItem (.ref d) (.int j t) z) (fun _ s'=>Ok0 w.params B Ω s (σ.set l (.list (vs.set j v))) s') nope s:=by
  refine e2_2 (I.objs _ _ _ hl hd) fun its m g r=>?_
  have hz:=r.length
  rw [Array.length_toList] at hz
  refine e1_1 (mapSeq_list its m (·.setIfInBounds j z)) fun m' e'=>?_
  exact setList_raw g (by exact Int.natCast_nonneg _) h1 (by rw [hz]; exact Int.ofNat_lt.mpr h2) ⟨Ω,.upd (List.mem_of_getElem? hd) (Heap.SameBut.update ..),I.upd hd (Heap.SameBut.update ..) ⟨_,m',(Heap.get?_update_self _ g (by rfl)).trans (congrArg some e'),r.setA rc⟩⟩
theorem findIdx_putI {kvs:List (Int × V)}:∀ {es:List DictEntry} {j:Int} {val:Value} {t:Tok},EI w.params Ω kvs es→R w.params Ω v val →
    EI w.params Ω (putI kvs j v) (match es.findIdx? (fun e=>Value.isInt j e.key) with | some i=>es.modify i (fun e=>{ e with val:=val }) | none=>es++[⟨hashInt j,.int j t,val⟩]):=by
  induction kvs with
  | nil=>intro es j val t h r; subst h; exact ⟨_,[],rfl,⟨t,rfl⟩,rfl,r,rfl⟩
  | cons q qs ih =>
    obtain ⟨k,x⟩:=q
    intro es j val t ⟨e0,q,he,⟨t0,ht⟩,hh,hx,tl⟩ r
    subst he
    have hk:Value.isInt j e0.key=decide (k=j):=by rw [ht]; simp [Value.isInt,Bool.beq_eq_decide_eq]
    unfold putI
    rw [List.findIdx?_cons,hk]
    by_cases e:k=j
    · rw [if_pos e,decide_eq_true e]
      exact ⟨_,q,rfl,⟨t0,ht⟩,hh,r,tl⟩
    · rw [if_neg e,decide_eq_false e]
      have:=ih (t:=t) tl r (j:=j)
      cases hi:q.findIdx? (fun e=>Value.isInt j e.key) with
      | none=>rw [hi] at this; exact ⟨e0,_,rfl,⟨t0,ht⟩,hh,hx,this⟩
      | some i=>rw [hi] at this; simp only [Bool.false_eq_true,if_false,Option.map_some,List.modify_succ_cons]; exact ⟨e0,_,rfl,⟨t0,ht⟩,hh,hx,this⟩
theorem setDict_s {l:Nat} {j:Int} {d:Addr} {t:Tok} {kvs:List (Int × V)} (I:Inv w.params B Ω σ s.heap) (hl:σ[l]? = some (.dict kvs)) (hd:Ω.rho[l]? = some d) (rc:R w.params Ω v z)
    (hz:kvs.length≤sizeLine):wpAny (model prog w) A (PySem.setItem (.ref d) (.int j t) z) (fun _ s'=>Ok0 w.params B Ω s (σ.set l (.dict (putI kvs j v))) s') nope s:=by
  refine e2_2 (I.objs _ _ _ hl hd) fun es m g r=>?_
  have hm:=intMap_of r g
  have hk:IntKeys es.toArray:=fun e he=>r.keys e (by simpa using he)
  have hlen:=r.length
  unfold PySem.setItem
  try with_reducible refine wpAny_holding ?_
  refine wpAny_bind (wpAny_sequenceKey hm.typeIs (by decide) ?_)
  refine wpAny_bind (wpAny_callSpecial?_slot (name:=Str.ofString "__setitem__") hm.typeIs slot_dict_setitem
    (wpAny_call_entry slot_dict_setitem hm.typeIs entry_dict_setitem ?_ (args_dict_setitem _ _ _)))
  show wpAny _ _ (Builtin.Dict.notOrdered "__setitem__" ⟨[.ref d,.int j t,z],[]⟩ >>= _) _ _ s
  refine wpAny_bind (wpAny_notOrdered_dict hm.typeIs ?_)
  show wpAny _ _ (dictSet d (.int j t) z >>= _) _ _ s
  refine wpAny_bind ?_
  unfold dictSet
  try with_reducible refine wpAny_holding ?_
  refine wpAny_bind (wpAny_pyHash_int ?_)
  unfold dictSetHashed
  try with_reducible refine wpAny_holding ?_
  refine wpAny_bind (wpAny_dictFind_int (s:={ s with toks:=s.toks + 1 }) g rfl hk ?_)
  have put:=findIdx_putI (j:=j) (t:=t) r rc
  rw [List.findIdx?_toArray]
  cases hi:es.findIdx? fun e=>Value.isInt j e.key with
  | some i =>
    rw [hi] at put
    refine wpAny_bind (wpAny_rule (wpAny_bind (wpAny_updateDict (s:={ s with toks:=s.toks + 1 }) g rfl (wpAny_point (wpAny_pure ⟨.none,rfl,wpAny_pure ⟨Ω,.upd (List.mem_of_getElem? hd) (Heap.SameBut.update ..),I.upd hd (Heap.SameBut.update ..) ⟨_,m,Heap.get?_update_self _ g rfl |>.trans ?_,put⟩⟩⟩)))))
    show some (Obj.mapDict _ (dictOf es m))=_
    unfold dictOf Obj.mapDict
    simp
  | none =>
    rw [hi] at put
    refine wpAny_bind (wpAny_rule (wpAny_updateDictKeys (hz:=by simpa [hlen] using hz) (s:={ s with toks:=s.toks + 1 }) g rfl (wpAny_pure ⟨.none,rfl,wpAny_pure ⟨Ω,.upd (List.mem_of_getElem? hd) (Heap.SameBut.update ..),I.upd hd (Heap.SameBut.update ..) ⟨_,m + 1,Heap.get?_update_self _ g rfl |>.trans ?_,put⟩⟩⟩)))
    show some (Obj.mapDictKeys _ (dictOf es m))=_
    unfold dictOf Obj.mapDictKeys
    simp
theorem setItem_s (I:Inv w.params B Ω σ s.heap) (ra:R w.params Ω a x) (rb:R w.params Ω b y) (rc:R w.params Ω v z) (h:setItem a b v σ=some σ') :
    wpAny (model prog w) A (PySem.setItem x y z) (fun _ s'=>Ok0 w.params B Ω s σ' s') nope s:=by
  induction a using V.casesOn with
  | loc l =>
    refine bse h fun j hi h=>?_
    rw [asInt_eq hi] at rb
    obtain ⟨d,rfl,hd⟩:=ra; refine e1_1 rb ?_;clear rb;rintro t rfl
    unfold setS at h
    split at h
    · rename_i vs hl
      split at h
      · rename_i hc
        rw [Bool.and_eq_true,Bool.and_eq_true,decide_eq_true_eq,decide_eq_true_eq] at hc
        cases h
        refine e0_3 hc ?_;clear hc;intro h0 hs hlt
        refine e1_1 (Int.eq_ofNat_of_zero_le h0) ?_;rintro k rfl
        have:=small_iff hs
        exact setList_s I hl hd rc (Int.lt_trans this.2 (by decide)) (by simpa using hlt)
      · exact nn h
    · rename_i kvs hl
      split at h
      · rename_i hc
        cases h
        exact setDict_s I hl hd rc (sizeOk_le hc)
      · exact nn h
    · exact nn h
  | _=>exact nn h
end
end Internal
namespace Internal
open PySem PySem.W PyProof.Rows PySem.Calls
structure Base (prog:Program) (w:World) (T:Tab) (F:Nat→Option Fn) (GL:Nat→V→Bool) where
  B:Heap
  K:Frag
  inK:K.In B
  nolim:B.NoLimit
  sysm:∃ o,B.get? sysModules=some o∧∀ es m,o=dictOf es m→∀ e ∈ es,∀ k t,e.key ≠ .int k t
  mg:Str→Option Value
  mb:Str→Option Value
  nsg:B.Ns mainGlobals mg
  bat:B.BuiltinsAt mg TAB
  nsb:B.Ns builtinsNs mb
  glob:∀ n u,GL n u=true→∃ val,R w.params ⟨[],B.get?⟩ u val∧(mg (dec n)=some val ∨ (mg (dec n)=none∧mb (dec n)=some val))
  attr:∀ C n,T.attr C n=true→n < lim∧plainGet K C (dec n)=true∧hasDictIn K C=true∧findIn K (.ref C) (dec n)=some none ∧
    findIn K (.ref C) "__setattr__" = some (some (.builtin "object.__setattr__"))∧plainOver K C=true∧takerIn K C (dec n)=some none
  meth:∀ C n a,T.meth C n=some a→n < lim∧plainGet K C (dec n)=true∧findIn K (.ref C) (dec n)=some (some (.ref a))∧isFn K (.ref a)=true∧keepIn K (.ref a)=true
  init:∀ C a,T.init C=some a→makesIn K C=true∧findIn K (.ref C) "__init__" = some (some (.ref a))∧isFn K (.ref a)=true∧keepIn K (.ref C)=true
section
variable {prog:Program} {w:World} {T:Tab} {F:Nat→Option Fn} {GL:Nat→V→Bool} {G:Base prog w T F GL}
variable {A:Around} {s:Shared} {Ω:Om} {σ σ':S} {a b v:V} {x y z:Value} {n:Nat} {c:Bool} {E:Value→Shared→Prop}
theorem Inv.keepB (I:Inv w.params G.B Ω σ s.heap):∀ b o,G.B.get? b=some o→s.heap.get? b=some o:=fun b o h=>I.fz b o (I.base b o h)
theorem Inv.K (I:Inv w.params G.B Ω σ s.heap):G.K.In s.heap:=G.inK.keeps I.keepB
theorem instAt_of {C l:Nat} {kvs:List (Nat × V)} (I:Inv w.params G.B Ω σ s.heap) (ra:R w.params Ω (.inst C l) x) (hl:σ[l]? = some (.obj kvs)) :
    ∃ p dx es m,x = .ref p∧Ω.rho[l]? = some dx∧s.heap.get? dx=some (dictOf es m)∧EN w.params Ω kvs es∧InstAt s.heap p (instObj C dx) C (some (dictOf es m)):=by
  obtain ⟨p,dx,rfl,f,hd⟩:=ra
  refine e2_2 (I.objs _ _ _ hl hd) fun es m g r=>?_
  exact ⟨p,dx,es,m,rfl,hd,g,r,⟨I.fz _ _ f,rfl,rfl,g⟩⟩
theorem handed_R (r:R w.params Ω v x):handedIn x=true:=by
  induction v using V.casesOn with
  | none=>subst r; rfl
  | bool b=>subst r; rfl
  | int i=>refine e1_1 r ?_;clear r;rintro t rfl; rfl
  | str n=>obtain ⟨_,t,rfl⟩:=r; rfl
  | tup vs=>obtain ⟨_,_,_,rfl,_⟩:=r; rfl
  | lst vs=>obtain ⟨_,_,_,rfl,_⟩:=r; rfl
  | dct ks vs=>obtain ⟨_,_,_,rfl,_⟩:=r; rfl
  | dcti ks vs=>obtain ⟨_,_,_,rfl,_⟩:=r; rfl
  | fset is=>obtain ⟨_,_,rfl,_⟩:=r; rfl
  | rng n=>obtain ⟨_,_,rfl,_⟩:=r; rfl
  | loc l=>obtain ⟨_,rfl,_⟩:=r; rfl
  | inst C l=>obtain ⟨_,_,rfl,_⟩:=r; rfl
  | fn a=>subst r; rfl
  | cls a=>subst r; rfl
  | bi b=>subst r; induction b using BI.casesOn <;> rfl
  | lam l=>obtain ⟨_,_,_,rfl,_⟩:=r; rfl
set_option tactic.hygienic true in
theorem getAttr_s {e:Bool} (I:Inv w.params G.B Ω σ s.heap) (ra:R w.params Ω a x) (h:getAttr T a n σ=some (v,σ')) :
    wpAny (model prog w) A (PySem.getAttr x (dec n) e) (Ok w.params G.B Ω s v σ') nope s:=by
  unfold Internal.getAttr at h
  split at h
  · rename_i C l
    split at h
    · rename_i kvs hl
      split at h
      · rename_i ht
        refine mse h fun v' h' q=>?_
        cases q
        refine e4_5 (instAt_of I ra hl) ?_;rintro p dx es m rfl hd g r J
        refine e0_7 (G.attr C n ht) fun hn h1 h2 h3 h4 h5 h6=>?_
        refine e1_2 ((EN.getL n hn r).1 _ h') fun val e1 rv=>?_
        exact get_value I.K J (plainGet_of h1).1 (findObj_own h2 h3 rfl e1) (handed_R rv) (.same I rv)
      · exact nn h
    · exact nn h
  · exact nn h
set_option tactic.hygienic true in
theorem osa_raw {C dx:Addr} {p:Addr} {name:Str} {tk:Tok} {val:Value} {es:List DictEntry} {m:Nat} {K:Frag} {R':Result→Shared→Prop} (X:K.In s.heap) (g:s.heap.get? dx=some (dictOf es m))
    (J:InstAt s.heap p (instObj C dx) C (some (dictOf es m))) (hp:plainOver K C=true) (ht:takerIn K C name=some none) (hh:hasDictIn K C=true) (hl:(PySem.W.getL name es).isSome=true)
    (hz:(putL name (PyData.keyHash w.params name) (.str name s.toks) val es).length≤1000)
    (h:R' (.ok (.ret .none)) { s with heap:=s.heap.update dx (Obj.putName name (PyData.keyHash w.params name) (.str name s.toks) val),toks:=s.toks + 1 }) :
    codeAny (model prog w) A (.call (.builtin "object.__setattr__") ⟨[.ref p,.str name tk,val],[]⟩) R' s:=by
  refine osa_open X J hp ht fun b=>?_
  refine e1_2 (any_some hh) fun cd hc hd'=>?_
  have D':(s.heap.update dx (Obj.putName name (PyData.keyHash w.params name) (.str name s.toks) val)).get? dx=some (dictOf (putL name (PyData.keyHash w.params name) (.str name s.toks) val es) (putN name es m)) :=
    (Heap.get?_update_self _ g (by rw [putName_dict]; rfl)).trans (congrArg some (putName_dict ..))
  refine wpAny_bind (wpAny_pure (wpAny_bind (wpAny_bind (wpAny_loadPart J.at_ (wpAny_bind ((looks_clsIn X hc).here ?_))))))
  rw [hd']
  refine wpAny_pure (a:=some dx) (wpAny_bind (wpAny_pure (wpAny_bind ?_)))
  unfold nsSet
  refine wpAny_bind (wpAny_bind (wpAny_askSetting (wpAny_pure (wpAny_bind (wpAny_mkText (wpAny_bind (wpAny_loadPart g ?_)))))))
  dsimp only
  have c:(!es.toArray.any (·.key.isStr name) && es.toArray.any (·.refKey))=false:=by
    rw [← Array.any_toList,← Array.any_toList]
    unfold PySem.W.getL at hl
    split at hl
    · rename_i en he
      rw [List.any_eq_true.mpr ⟨en,List.mem_of_find?_eq_some he,List.find?_some he⟩]; rfl
    · split at hl
      · exact ff hl
      · rename_i q; rw [Bool.not_eq_true] at q; rw [q,Bool.and_false]
  rw [aRefKeyMayBeTheName_at,c]
  refine wpAny_updatePart g ?_
  refine wpAny_bind (wpAny_lookBehind D' (by exact pastItsLine_dict (by rw [List.size_toArray,sizeLine_eq]; (apply le1 (b:=1000);assumption;simp +arith only))) ?_)
  exact wpAny_pure h
theorem putL_length (name:Str) (hs:Int) (key val:Value):∀ es:List DictEntry,(putL name hs key val es).length≤es.length + 1
  | []=>Nat.le_refl _
  | e :: r=>by
    unfold putL
    split
    · simp
    · have:=putL_length name hs key val r
      simp; assumption
set_option tactic.hygienic true in
theorem setAttr_s (I:Inv w.params G.B Ω σ s.heap) (ra:R w.params Ω a x) (rv:R w.params Ω v y) (h:setAttr T a n v σ=some σ') :
    wpAny (model prog w) A (PySem.setAttr x (dec n) y) (fun _ s'=>Ok0 w.params G.B Ω s σ' s') nope s:=by
  unfold Internal.setAttr at h
  split at h
  · rename_i C l
    split at h
    · rename_i kvs hl
      split at h
      · rename_i ht
        rw [Bool.and_eq_true] at ht
        cases h
        refine e4_5 (instAt_of I ra hl) ?_;rintro p dx es m rfl hd g r J
        refine e0_7 (G.attr C n ht.1) fun hn h1 h2 h3 h4 h5 h6=>?_
        have hz:=Nat.le_of_ble_eq_true ht.2
        have hlen:=r.length
        have hs:(PySem.W.getL (dec n) es).isSome=true:=by
          have ⟨f1,f2⟩:=EN.getL n hn r
          cases q:look kvs n with
          | none=>rw [f2 q]; rfl
          | some v=>refine e1_2 (f1 v q) fun val e _=>?_; rw [e]; rfl
        refine set_plain I.K J h4 ?_
        refine osa_raw (s:={ s with toks:=s.toks + 1 }) I.K g J h5 h6 h2 hs ?_ ?_
        · have:=putL_length (dec n) (PyData.keyHash w.params (dec n)) (.str (dec n) (s.toks + 1)) y es
          exact Nat.le_trans this (by lia)
        · refine ⟨Ω,.upd (List.mem_of_getElem? hd) (Heap.SameBut.update ..),I.upd hd (Heap.SameBut.update ..) ⟨_,_,(Heap.get?_update_self _ g (by rw [putName_dict]; rfl)).trans (congrArg some (putName_dict ..)),r.put n hn rv⟩⟩
      · exact nn h
    · exact nn h
  · exact nn h
end
end Internal
namespace Internal
open PySem PySem.W PyProof.Rows PySem.Calls
noncomputable def BI.num:BI→Nat
  | .len=>0 | .max=>1 | .int=>2 | .range=>3 | .listM=>4 | .listF=>5 | .tuple=>6 | .sorted=>7 | .isinst=>8 | .fset=>9
theorem BI.num_inj {a b:BI} (h:Nat.beq a.num b.num=true):a=b:=by
  induction a using BI.casesOn <;> induction b using BI.casesOn <;> first | rfl | exact ff h
mutual
noncomputable def vbeq:V→V→Bool
  | .none,.none=>true
  | .bool a,.bool b=>a == b
  | .int a,.int b=>decide (a=b)
  | .str a,.str b=>Nat.beq a b
  | .tup a,.tup b=>vbeqs a b
  | .fn a,.fn b=>Nat.beq a b
  | .cls a,.cls b=>Nat.beq a b
  | .bi a,.bi b=>Nat.beq a.num b.num
  | _,_=>false
noncomputable def vbeqs:List V→List V→Bool
  | [],[]=>true
  | a :: r,b :: q=>vbeq a b && vbeqs r q
  | _,_=>false
end
mutual
theorem vbeq_eq:∀ {a b:V},vbeq a b=true→a=b
  | .none,b,h=>by induction b using V.casesOn <;> first | rfl | exact ff h
  | .bool x,b,h=>by induction b using V.casesOn <;> first | (exact ff h; done) | exact congrArg V.bool (eq_of_beq h)
  | .int x,b,h=>by induction b using V.casesOn <;> first | (exact ff h; done) | exact congrArg V.int (of_decide_eq_true h)
  | .str x,b,h=>by induction b using V.casesOn <;> first | (exact ff h; done) | exact congrArg V.str (Nat.eq_of_beq_eq_true h)
  | .tup x,b,h=>by induction b using V.casesOn <;> first | (exact ff h; done) | exact congrArg V.tup (vbeqs_eq h)
  | .fn x,b,h=>by induction b using V.casesOn <;> first | (exact ff h; done) | exact congrArg V.fn (Nat.eq_of_beq_eq_true h)
  | .cls x,b,h=>by induction b using V.casesOn <;> first | (exact ff h; done) | exact congrArg V.cls (Nat.eq_of_beq_eq_true h)
  | .bi x,b,h=>by induction b using V.casesOn <;> first | (exact ff h; done) | exact congrArg V.bi (BI.num_inj h)
  | .lst _,_,h=>by exact ff h
  | .dct ..,_,h=>by exact ff h
  | .dcti ..,_,h=>by exact ff h
  | .fset _,_,h=>by exact ff h
  | .rng _,_,h=>by exact ff h
  | .loc _,_,h=>by exact ff h
  | .inst ..,_,h=>by exact ff h
  | .lam _,_,h=>by exact ff h
theorem vbeqs_eq:∀ {a b:List V},vbeqs a b=true→a=b
  | [],b,h=>by induction b using List.casesOn with | nil=>rfl | cons _ _=>exact ff h
  | x :: xs,b,h=>by
    induction b using List.casesOn with
    | nil=>exact ff h
    | cons y ys =>
      have h':(vbeq x y && vbeqs xs ys)=true:=h
      rw [Bool.and_eq_true] at h'
      rw [vbeq_eq h'.1,vbeqs_eq h'.2]
end
noncomputable def nok (n:Nat):Bool:=Nat.blt n lim && (!(dec n == ("__debug__" : Str)) && (!(dec n == ("__classdict__" : Str)) && !Nat.beq n 0x2e30))
noncomputable abbrev NL (n:Nat):Prop:=n < lim∧n≠0x2e30
theorem nok_lim {n:Nat} (h:nok n=true):NL n:=by
  unfold nok at h
  rw [Bool.and_eq_true,Bool.and_eq_true,Bool.and_eq_true,Bool.not_eq_true',Bool.not_eq_true',Bool.not_eq_true'] at h
  exact ⟨Nat.le_of_ble_eq_true h.1,fun e=>by have:=h.2.2.2; rw [e] at this; cases this⟩
theorem nok_dbg {n:Nat} (h:nok n=true):(dec n == ("__debug__" : Str))=false∧(dec n == ("__classdict__" : Str))=false:=by
  unfold nok at h
  rw [Bool.and_eq_true,Bool.and_eq_true,Bool.and_eq_true,Bool.not_eq_true',Bool.not_eq_true',Bool.not_eq_true'] at h
  exact ⟨h.2.1,h.2.2.1⟩
noncomputable def nsup (x:X):Bool:=!(Nat.beq x.ctorIdx 24) && (match x with | .call f a _=>!(a.isEmpty || Nat.beq f.ctorIdx 24) | _=>true)
noncomputable def compOk (sc sc':Scope) (t:List (Nat × Nat)):Bool :=
  sc'.kind == .function && ((sc'.names.all fun y=>y.2 != .cell && ((y.2 != .local || sc'.names.lookup y.1 == some .local) && ((y.2 != .free || sc.names.lookup y.1 == some .cell) && (y.2 != .local || (y.1 == dec 0x2e30 || t.any fun x=>dec x.1 == y.1))))) &&
  t.all fun x=>sc'.names.lookup (dec x.1) == some .local && nok x.1)
noncomputable def isNm (x:X):Bool:=Nat.beq x.ctorIdx 4 || (Nat.beq x.ctorIdx 5 || Nat.beq x.ctorIdx 15)
mutual
noncomputable def wf (GL:Nat→V→Bool) (sc:Scope):X→Bool
  | .num _ _=>true
  | .st n _=>Nat.blt n lim
  | .tru _ _=>true
  | .non _=>true
  | .loc n _=>nok n && (match sc.names.lookup (dec n) with | some .local=>true | some .cell=>true | some .free=>true | _=>false)
  | .glob n v _=>nok n && (sc.names.lookup (dec n) == some .globalImplicit && GL n v)
  | .bin _ a b _=>wf GL sc a && wf GL sc b
  | .neg a _=>wf GL sc a
  | .not a _=>wf GL sc a
  | .ite t a b _=>wf GL sc t && (wf GL sc a && wf GL sc b)
  | .bop _ xs _=>wfs GL sc xs
  | .cmp _ a b _=>wf GL sc a && wf GL sc b
  | .call f args _=>wf GL sc f && (wfs GL sc args && (Nat.ble args.length 20 && isNm f))
  | .mcall o _ args ap p=>wf GL sc o && (wfs GL sc args && (nsup o && (Nat.beq (ap / 90000) (p / 90000) && Nat.ble args.length 20)))
  | .attr o _ _=>wf GL sc o && nsup o
  | .sub o i _=>wf GL sc o && wf GL sc i
  | .slc o _ _ _ _=>wf GL sc o
  | .rev o _ _ _ _=>wf GL sc o
  | .tup xs _ _=>wfs GL sc xs && Nat.ble xs.length 1000
  | .lst _ xs _=>wfs GL sc xs && Nat.ble xs.length 1000
  | .dct _ ks vs _=>wfs GL sc vs && (Nat.ble vs.length 15 && (Nat.beq ks.length vs.length && (match evk ks,evki ks with | some l,_=>decide l.Nodup && l.all (fun k=>Nat.blt k lim) | none,some l=>decide l.Nodup | none,none=>true)))
  | .comp e t _ it sc' _=>wf GL sc it && (wf GL sc' e && compOk sc sc' t)
  | .lam an _ pl _ _ _ sc' p=>Nat.beq p lamP && (Nat.beq pl plN && (Nat.blt an lim && (!Nat.beq an plN && (!(dec an == ("__debug__" : Str)) && (sc.names.lookup (dec plN) == some .cell && (sc'.kind == .function && (!sc'.isGenerator && (!sc'.isCoroutine && (match sc'.names with | [(a,.local),(b,.free)]=>a == dec an && b == dec plN | _=>false)))))))))
  | .byt _=>true
  | .raw _=>false
noncomputable def wfs (GL:Nat→V→Bool) (sc:Scope):List X→Bool
  | []=>true
  | x :: r=>wf GL sc x && wfs GL sc r
end
structure LR (P:Params) (Ω:Om) (h:Heap) (env:Env) (m:M):Prop where
  kind:env.scope.kind = .function
  glob:env.globals=mainGlobals
  bltn:env.builtins=builtinsNs
  keys:∀ n v,look m n=some v→NL n
  ns:∃ mm,h.Ns env.locals mm∧∀ n v,look m n=some v→env.kindOf (dec n)=some .local→∃ val,mm (dec n)=some val∧R P Ω v val
  cel:∀ n v,look m n=some v→(env.kindOf (dec n)=some .cell ∨ env.kindOf (dec n)=some .free)→∃ c o val,env.cells.lookup (dec n)=some c∧Ω.fz c=some o∧o.data = .cell (some val)∧R P Ω v val
  lamq:(env.kindOf (dec plN)=some .cell→env.qual++("<lambda>" : Str)=lamQual∧∃ c,env.code = .ref c∧∀ h':Heap,(∀ a o,Ω.fz a=some o→h'.get? a=some o)→CodeHd h' c TAB)∧∀ x,env.kindOf x=some .cell→∃ c,env.cells.lookup x=some c
  lfz:Ω.fz env.locals=none
  lrho:env.locals ∉ Ω.rho
structure SC (sc:Scope) (env:Env):Prop where
  glob:∀ x,sc.names.lookup x=some .globalImplicit→env.kindOf x=some .globalImplicit
  cell:∀ x,sc.names.lookup x=some .cell→env.kindOf x=some .cell
  loc:∀ x,sc.names.lookup x=some .local→env.kindOf x=some .local
  free:∀ x,sc.names.lookup x=some .free→env.kindOf x=some .cell ∨ env.kindOf x=some .free
section
variable {P:Params} {Ω Ω':Om} {s s':Shared} {env:Env} {m:M}
theorem LR.adv (L:LR P Ω s.heap env m) (a:Adv no Ω s Ω' s'):LR P Ω' s'.heap env m:=by
  refine e1_2 L.ns fun mm hn hm=>?_
  refine e3_2 hn ?_;clear hn;intro o es ep ho r
  have ⟨q1,q2,q3⟩:=a.out ho L.lrho (fun h=>h) L.lfz
  refine ⟨L.kind,L.glob,L.bltn,L.keys,⟨mm,⟨o,es,ep,q3,r⟩,fun n v h k=>?_⟩,fun n v h k=>?_,⟨fun h=>?_,L.lamq.2⟩,q1,q2⟩
  · refine e1_2 (hm n v h k) fun val e rv=>?_
    exact ⟨val,e,rv.mono a.le⟩
  · refine e3_4 (L.cel n v h k) fun c o val h2 h3 h4 rv=>?_
    exact ⟨c,o,val,h2,a.fz _ _ h3,h4,rv.mono a.le⟩
  · obtain ⟨h1,c,h2,h3⟩:=L.lamq.1 h
    exact ⟨h1,c,h2,fun h' k=>h3 h' fun x o q=>k x o (a.fz x o q)⟩
end
section
variable {prog:Program} {w:World} {A:Around} {s:Shared} {B:Heap} {Ω:Om} {σ σ':S} {v:V} {Q:Value→Shared→Prop} {t:Sem Value}
theorem ok_use (h:wpAny (model prog w) A t (Ok w.params B Ω s v σ') nope s)
    (k:∀ Ω' val s',Adv no Ω s Ω' s'→Inv w.params B Ω' σ' s'.heap→R w.params Ω' v val→Q val s'):wpAny (model prog w) A t Q nope s :=
  wpAny_mono h (fun val s' ⟨Ω',a,i,r⟩=>k Ω' val s' a i r) fun _ _ e=>e
theorem Ok.adv {Ω':Om} {s':Shared} {val:Value} {s₂:Shared} (a:Adv no Ω s Ω' s') (h:Ok w.params B Ω' s' v σ' val s₂):Ok w.params B Ω s v σ' val s₂ :=
  let ⟨Ω₂,a₂,i,r⟩:=h; ⟨Ω₂,a.trans a₂,i,r⟩
theorem ok_adv {Ω':Om} {s':Shared} (a:Adv no Ω s Ω' s') (h:wpAny (model prog w) A t (Ok w.params B Ω' s' v σ') nope s'):wpAny (model prog w) A t (Ok w.params B Ω s v σ') nope s' :=
  wpAny_mono h (fun _ _ q=>q.adv a) fun _ _ e=>e
end
theorem toE_star:∀ (x:X) (GL:Nat→V→Bool) (sc:Scope) (env:Env) (r:List PySem.Expr),wf GL sc x=true→starEach (x.toE :: r) env=(false,eval x.toE env) :: starEach r env:=by
  intro x GL sc env r h
  induction x using X.casesOn <;> first | rfl | (exact ff h; done)
theorem attrBase {o:X} (h:nsup o=true) (name:Str) (env:Env) (t:Sem Value):attributeBase o.toE name env t=t:=by
  induction o using X.casesOn with
  | call f args p =>
    induction args using List.casesOn with
    | nil=>exact ff h
    | cons a r=>induction f using X.casesOn <;> first | rfl | (exact ff h; done)
  | raw e=>exact ff h
  | _=>rfl
theorem marks {x:X} {GL:Nat→V→Bool} {sc:Scope} (op:CmpOp) (h:wf GL sc x=true):behindInMarks op x.toE=false:=by
  induction x using X.casesOn <;> first | rfl | (exact ff h; done)
theorem backTo_star {xs:List X} {GL:Nat→V→Bool} {sc:Scope} {env:Env} {pos:Pos} (h:wfs GL sc xs=true) :
    (backTo pos (starEach (toEs xs) env)).all (fun x=>!x.1)=true∧(backTo pos (starEach (toEs xs) env)).any (·.1)=false∧(backTo pos (starEach (toEs xs) env)).length=xs.length:=by
  induction xs with
  | nil=>exact ⟨rfl,rfl,rfl⟩
  | cons x r ih =>
    have h':(wf GL sc x && wfs GL sc r)=true:=h
    rw [Bool.and_eq_true] at h'
    have e:starEach (toEs (x :: r)) env=(false,eval x.toE env) :: starEach (toEs r) env:=toE_star x GL sc env (toEs r) h'.1
    rw [e]
    refine e0_3 (ih h'.2) fun a b c=>?_
    refine ⟨by simpa [backTo] using a,by simpa [backTo] using b,by simpa [backTo] using c⟩
end Internal
namespace Internal
open PySem PySem.W PyProof.Rows PySem.Calls
section
variable {prog:Program} {w:World} {T:Tab} {F:Nat→Option Fn} {GL:Nat→V→Bool} (G:Base prog w T F GL)
structure RoomC (n:Nat) (A:Around):Prop where
  hh:A.handled=none
  dp:A.depth + 3 * n < 902
  un:A.units + 10 * n < 9006
noncomputable def ClS (n:Nat) (C:Cl):Prop:=∀ a args σ v σ',C a args σ=some (v,σ')→∀ (A:Around) (s:Shared) (Ω:Om) (vals:List Value),RoomC n A→Inv w.params G.B Ω σ s.heap→RL w.params Ω args vals →
  (∃ o fd,s.heap.get? a=some o∧o.data = .func fd)∧codeAny (model prog w) A (.call (.ref a) ⟨vals,[]⟩) (fun r s'=>∃ val,r = .ok (.ret val)∧Ok w.params G.B Ω s v σ' val s') s
inductive OkL (Ω:Om) (s:Shared) (vs:List V) (σ':S) (vals:List Value) (s':Shared):Prop
  | mk (Ω':Om) (a:Adv no Ω s Ω' s') (i:Inv w.params G.B Ω' σ' s'.heap) (r:RL w.params Ω' vs vals)
inductive OkT (Ω:Om) (s:Shared) (c:Bool) (σ':S) (b:Bool) (s':Shared):Prop
  | mk (e:b=c) (Ω':Om) (a:Adv no Ω s Ω' s') (i:Inv w.params G.B Ω' σ' s'.heap)
noncomputable def EvP (n:Nat) (C:Cl) (x:X):Prop:=∀ {m:M} {σ:S} {v:V} {σ':S},ev T C x m σ=some (v,σ')→∀ {A:Around} {s:Shared} {Ω:Om} {env:Env} {sc:Scope},Room n A→LR w.params Ω s.heap env m→SC sc env→wf GL sc x=true →
  Inv w.params G.B Ω σ s.heap→wpAny (model prog w) A (eval x.toE env) (Ok w.params G.B Ω s v σ') nope s
noncomputable def EvsP (n:Nat) (C:Cl) (xs:List X):Prop:=∀ {m:M} {σ:S} {vs:List V} {σ':S},evs T C xs m σ=some (vs,σ')→∀ {A:Around} {s:Shared} {Ω:Om} {env:Env} {sc:Scope} {pos:Pos},Room n A→LR w.params Ω s.heap env m→SC sc env→wfs GL sc xs=true →
  Inv w.params G.B Ω σ s.heap→wpAny (model prog w) A (spliced (backTo pos (starEach (toEs xs) env))) (OkL G Ω s vs σ') nope s
noncomputable def EvTP (n:Nat) (C:Cl) (x:X):Prop:=∀ {m:M} {σ:S} {c:Bool} {σ':S},evT T C x m σ=some (c,σ')→∀ {A:Around} {s:Shared} {Ω:Om} {env:Env} {sc:Scope},Room n A→LR w.params Ω s.heap env m→SC sc env→wf GL sc x=true →
  Inv w.params G.B Ω σ s.heap→wpAny (model prog w) A (isTrue x.toE env (eval x.toE env)) (OkT G Ω s c σ') nope s
noncomputable def EvTsP (n:Nat) (C:Cl) (op:BoolOp) (xs:List X):Prop:=∀ {m:M} {σ:S} {c:Bool} {σ':S},evTs T C op xs m σ=some (c,σ')→∀ {A:Around} {s:Shared} {Ω:Om} {env:Env} {sc:Scope},Room n A→LR w.params Ω s.heap env m→SC sc env→wfs GL sc xs=true →
  Inv w.params G.B Ω σ s.heap→wpAny (model prog w) A (allTrue op (toEs xs) env) (OkT G Ω s c σ') nope s
end
section
variable {prog:Program} {w:World} {T:Tab} {F:Nat→Option Fn} {GL:Nat→V→Bool} {G:Base prog w T F GL}
variable {A:Around} {s:Shared} {Ω:Om} {σ σ':S} {a b v:V} {x y z:Value} {n:Nat} {c:Bool} {E:Value→Shared→Prop} {env:Env} {sc:Scope} {m:M} {C:Cl}
theorem baseLe (I:Inv w.params G.B Ω σ s.heap):Om.Le ⟨[],G.B.get?⟩ Ω:=⟨fun l a h=>by simp at h,I.base⟩
theorem glob_s {k:Nat} {p:Pos} (L:LR w.params Ω s.heap env m) (hsc:SC sc env) (I:Inv w.params G.B Ω σ s.heap) (hk:nok k=true) (h1:sc.names.lookup (dec k)=some .globalImplicit) (h2:GL k v=true) :
    wpAny (model prog w) A (eval (.Name (dec k) p) env) (Ok w.params G.B Ω s v σ) nope s:=by
  have hd:=(nok_dbg hk).1
  refine e1_2 (G.glob k v h2) fun val rv hm=>?_
  have rv':=rv.mono (baseLe I)
  have hg:=G.nsg.keeps I.keepB
  have hb:=G.nsb.keeps I.keepB
  refine Name_function_global L.kind (hsc.glob _ h1) ?_ hd
  rcases hm with hm | ⟨hm,hm2⟩
  · exact loadGlobal_global (by rw [L.glob]; exact hg) hm (.here I rv')
  · exact loadGlobal_builtin (by rw [L.glob]; exact hg) hm (by rw [L.bltn]; exact hb) hm2 (.here I rv')
theorem loc_s {k:Nat} {p:Pos} (L:LR w.params Ω s.heap env m) (hsc:SC sc env) (I:Inv w.params G.B Ω σ s.heap) (hw:(nok k && (match sc.names.lookup (dec k) with | some .local=>true | some .cell=>true | some .free=>true | _=>false))=true) (h:look m k=some v) :
    wpAny (model prog w) A (eval (.Name (dec k) p) env) (Ok w.params G.B Ω s v σ) nope s:=by
  rw [Bool.and_eq_true] at hw
  refine e0_2 hw ?_;clear hw;intro hk hw
  have hd:=nok_dbg hk
  refine wpAny_Name ?_ hd.1
  have kd:env.kindOf (dec k)=some .local ∨ (env.kindOf (dec k)=some .cell ∨ env.kindOf (dec k)=some .free):=by
    split at hw
    · rename_i q; exact .inl (hsc.loc _ q)
    · rename_i q; exact .inr (.inl (hsc.cell _ q))
    · rename_i q; exact .inr (hsc.free _ q)
    · exact ff hw
  rcases kd with hl | h1
  · refine e1_2 L.ns fun mm hn hm=>?_
    refine e1_2 (hm k v h hl) fun val e rv=>?_
    exact wpAny_loadName_local L.kind hl hn e (.here I rv)
  · refine e3_4 (L.cel k v h h1) fun c o val h2 h3 h4 rv=>?_
    rcases h1 with h1 | h1
    · exact wpAny_loadName_cell L.kind h1 h2 ⟨o,I.fz _ _ h3,h4⟩ (.here I rv)
    · exact wpAny_loadName_free L.kind h1 h2 ⟨o,I.fz _ _ h3,h4⟩ (.here I rv) hd.2
theorem truthy_s (I:Inv w.params G.B Ω σ s.heap) (ra:R w.params Ω a x) (h:truthy a=some c):wpAny (model prog w) A (PySem.truthy x) (OkT G Ω s c σ) nope s:=by
  induction a using V.casesOn with
  | bool b=>cases h; subst ra; exact wpAny_truthy_bool ⟨rfl,Ω,.refl,I⟩
  | _=>exact nn h
theorem part_int {M:Model} {E:Value→Shared→Prop} {Q:Value→Shared→Prop} {i:Int} {k:Nat} (h:Q (.int i s.toks) { s with toks:=s.toks + 1 }):wpAny M A (evalPart ((some (i,k)).map numE) env) Q E s:=wpAny_Constant_int (k:=0) (pos:=dpos k) h
theorem wpAny_Constant_none' {M:Model} {E:Value→Shared→Prop} {Q:Value→Shared→Prop} (h:Q .none s):wpAny M A (evalPart none env) Q E s:=wpAny_pure h
theorem okT_adv {Ω':Om} {s':Shared} {t:Sem Bool} (a:Adv no Ω s Ω' s') (h:wpAny (model prog w) A t (OkT G Ω' s' c σ') nope s'):wpAny (model prog w) A t (OkT G Ω s c σ') nope s' :=
  wpAny_mono h (fun _ _ ⟨e,Ω₂,a₂,i⟩=>⟨e,Ω₂,a.trans a₂,i⟩) fun _ _ e=>e
theorem cmpOk_use {Ω':Om} {s':Shared} {val:Value} {s₂:Shared} (a:Adv no Ω s Ω' s') (I:Inv w.params G.B Ω' σ' s'.heap) (h:CmpOk s' c val s₂):Ok w.params G.B Ω s (.bool c) σ' val s₂:=by
  obtain ⟨rfl,t,rfl⟩:=h
  exact ⟨Ω',a.trans (.toks t),I,rfl⟩
theorem Inv.sysm (I:Inv w.params G.B Ω σ s.heap):Ω.fz sysModules≠none:=fun e=>by
  refine e1_2 G.sysm fun o q _=>?_
  rw [I.base _ _ q] at e; cases e
theorem kept_bi {id:String} {h:Heap}:∃ k,(k=Keeper.frame ∨ k=Keeper.machine ∨ k=Keeper.boundFrame)∧Looks (model prog w) h (keeperOf (.builtin id)) k:=⟨.machine,.inr (.inl rfl),.now⟩
theorem kept_ty {id:String} {h:Heap}:∃ k,(k=Keeper.frame ∨ k=Keeper.machine ∨ k=Keeper.boundFrame)∧Looks (model prog w) h (keeperOf (.type id)) k:=⟨.machine,.inr (.inl rfl),.now⟩
theorem kept_fn {a:Addr} {o:Obj} {fd:FuncData} {h:Heap} (ho:h.get? a=some o) (hd:o.data = .func fd):∃ k,(k=Keeper.frame ∨ k=Keeper.machine ∨ k=Keeper.boundFrame)∧Looks (model prog w) h (keeperOf (.ref a)) k:=by
  obtain ⟨c,d,dt,sl⟩:=o
  subst hd
  exact ⟨.frame,.inl rfl,(Looks.ld (part:=none) ho).andThen .now⟩
theorem Room.toC (rm:Room n A):RoomC n A:=⟨rm.hh,by have:=rm.dp; (refine le1 this ?_;simp +arith only),by have:=rm.un; (refine le1 this ?_;simp +arith only)⟩
theorem call_of {f:Value} {vals:List Value} (h:codeAny (model prog w) A (.call f ⟨vals,[]⟩) (fun r s'=>∃ val,r = .ok (.ret val)∧Ok w.params G.B Ω s v σ' val s') s):wpAny (model prog w) A (call f vals) (Ok w.params G.B Ω s v σ') nope s :=
  wpAny_call (codeAny_mono h fun r s' ⟨val,e,k⟩=>by subst e; exact k)
theorem mapSeqL (its:Array Value) (m:Nat) (f:Array Value→Array Value):∃ m',(listOf its m).mapSeq f=listOf (f its) m':=⟨_,rfl⟩
theorem OkUpd {l:Nat} {d:Addr} {o:O} {h':Heap} {tk:Nat} (I:Inv w.params G.B Ω σ s.heap) (hd:Ω.rho[l]? = some d) (hs:Heap.SameBut d s.heap h') (ho:OR w.params Ω h' d o) (rv:R w.params Ω v x) :
    Ok w.params G.B Ω s v (σ.set l o) x { s with heap:=h',toks:=tk }:=⟨Ω,.upd (List.mem_of_getElem? hd) hs,I.upd hd hs ho,rv⟩
theorem listMeth_s {l k:Nat} {t:Addr} {vs:List V} {args:List V} {vals:List Value} {id:String} (hid:(k=0x617070656e64∧id = "list.append") ∨ (k=0x706f70∧id = "list.pop") ∨ (k=0x657874656e64∧id = "list.extend"))
    (I:Inv w.params G.B Ω σ s.heap) (hl:σ[l]? = some (.list vs)) (hd:Ω.rho[l]? = some t) (rl:RL w.params Ω args vals) (h:methS l k args σ=some (v,σ')):wpAny (model prog w) A (call (.builtin id) (.ref t :: vals)) (Ok w.params G.B Ω s v σ') nope s:=by
  refine e2_2 (I.objs _ _ _ hl hd) fun its n g r=>?_
  have hlen:its.size=vs.length:=by rw [← Array.length_toList]; exact r.length
  unfold methS at h
  rw [hl] at h
  dsimp only at h
  rcases hid with ⟨rfl,rfl⟩ | ⟨rfl,rfl⟩ | ⟨rfl,rfl⟩
  · rw [if_pos rfl] at h
    induction args using List.casesOn with
    | nil=>exact nn h
    | cons a r2=>induction r2 using List.casesOn with
      | cons _ _=>exact nn h
      | nil =>
        obtain ⟨y,ys,rfl,ry,e⟩:=rl
        have e:ys = []:=e
        subst e
        dsimp only at h
        split at h
        · rename_i hz
          cases h
          refine append_at g (fun h' hs ho=>OkUpd (tk:=s.toks) I hd hs ⟨_,_,ho,?_⟩ rfl) (by rw [hlen]; exact sizeOk_le hz)
          rw [Array.toList_push]
          exact r.append (.one ry)
        · exact nn h
  · rw [if_neg (by decide),if_pos rfl] at h
    induction args using List.casesOn with
    | cons _ _=>exact nn h
    | nil =>
      have e:vals = []:=rl
      subst e
      dsimp only at h
      cases hla:vs.getLast? with
      | none=>rw [hla] at h; exact nn h
      | some u =>
        rw [hla] at h
        dsimp only at h
        split at h
        · rename_i hz
          cases h
          rw [List.getLast?_eq_getElem?] at hla
          refine e1_2 (r.get _ hla) fun val hv rv=>?_
          rw [← hlen,Array.getElem?_toList] at hv
          refine e1_1 (mapSeqL its n (fun xs=>xs.eraseIdxIfInBounds (its.size - 1))) fun m' hm'=>?_
          refine call_meets PySem.F.slot_list_pop (s:=s) ⟨_,g,rfl⟩ PySem.F.entry_list_pop (PySem.F.args_list_pop_1 _) (MeetsSeq.list_pop_last t its n val hv (by rw [hlen]; exact sizeOk_le hz)) ⟨g,?_⟩
          refine OkUpd (tk:=s.toks) I hd (Heap.SameBut.update ..) ⟨its.eraseIdxIfInBounds (its.size - 1),m',?_,?_⟩ rv
          · rw [Heap.get?_update_self _ g (by rw [hm']; rfl),hm']
          · have e:(its.eraseIdxIfInBounds (its.size - 1)).toList=its.toList.take (its.size - 1):=by
              unfold Array.eraseIdxIfInBounds
              split
              · rename_i hlt
                rw [Array.toList_eraseIdx,List.eraseIdx_eq_take_drop_succ,List.drop_eq_nil_of_le (by rw [Array.length_toList]; exact Nat.le_of_eq (Nat.sub_add_cancel (Nat.lt_of_le_of_lt (Nat.zero_le _) hlt)).symm),List.append_nil]
              · rename_i hlt
                rw [List.take_of_length_le (by rw [Array.length_toList]; exact Nat.le_of_not_lt hlt)]
            rw [e,List.dropLast_eq_take,hlen]
            exact r.take _
        · exact nn h
  · rw [if_neg (by decide),if_neg (by decide),if_pos rfl] at h
    induction args using List.casesOn with
    | nil=>exact nn h
    | cons a r2=>induction r2 using List.casesOn with
      | cons _ _=>induction a using V.casesOn <;> exact nn h
      | nil =>
        obtain ⟨y,ys,rfl,ry,e⟩:=rl
        have e:ys = []:=e
        subst e
        induction a using V.casesOn with
        | lst ws =>
          dsimp only at h
          split at h
          · rename_i hz
            cases h
            obtain ⟨b,its2,n2,rfl,f2,r2⟩:=ry
            have hlen2:its2.size=ws.length:=by rw [← Array.length_toList]; exact r2.length
            have hz:=sizeOk_le hz
            refine e1_1 (mapSeqL its n (fun x=>x++its2)) fun m' hm'=>?_
            refine call_meets PySem.F.slot_list_extend (s:=s) ⟨_,g,rfl⟩ PySem.F.entry_list_extend (PySem.F.args_list_extend_2 _ _) (AutoSeq1.list_extend_list_list_0 t its n b its2 n2 ?_ (by rw [hlen]; exact Nat.le_trans (Nat.le_add_right _ _) hz) (by rw [hlen,hlen2]; exact Nat.le_succ_of_le hz)) ⟨g,I.fz _ _ f2,?_⟩
            · simp only [Builtin.List.listTooLong,Bool.and_eq_true,decide_eq_true_eq,not_and]; intro _; rw [hlen,hlen2]; exact Nat.not_lt.mpr hz
            · refine OkUpd (tk:=s.toks) I hd (Heap.SameBut.update ..) ⟨its++its2,m',?_,?_⟩ rfl
              · rw [Heap.get?_update_self _ g (by rw [hm']; rfl),hm']
              · rw [Array.toList_append]; exact r.append r2
          · exact nn h
        | _=>exact nn h
noncomputable def MethC (G:Base prog w T F GL) (n:Nat) (C:Cl) (A:Around) (s:Shared) (Ω:Om) (o:V) (k:Nat) (r:Option Nat) (f:Value) (first:List Value):Prop :=
  ∀ {s':Shared} {Ω':Om} {σ₁ σ₂:S} {args:List V} {vals:List Value} {v:V},ClS G n C→Room n A→Adv no Ω s Ω' s'→Inv w.params G.B Ω' σ₁ s'.heap→RL w.params Ω' args vals→methV C o k r args σ₁=some (v,σ₂) →
        (∃ kp,(kp=Keeper.frame ∨ kp=Keeper.machine ∨ kp=Keeper.boundFrame)∧Looks (model prog w) s'.heap (keeperOf f) kp)∧wpAny (model prog w) A (call f (first++vals)) (Ok w.params G.B Ω' s' v σ₂) nope s'
set_option tactic.hygienic true in
theorem meth_s {vo:Value} {o:V} {k:Nat} {pl:Sem Bool} {r:Option Nat} (I:Inv w.params G.B Ω σ s.heap) (ro:R w.params Ω o vo) (h:methOk T o k σ=some r) :
    ∃ f first,(∀ (Q:Value × List Value→Shared→Prop),Q (f,first) s→wpAny (model prog w) A (getMethod vo (dec k) pl) Q nope s) ∧
      MethC G n C A s Ω o k r f first:=by
  induction o using V.casesOn with
  | inst c l =>
    refine bse h fun a h1 h2=>?_
    split at h2
    · rename_i kvs hl
      split at h2
      · rename_i hno
        cases h2
        refine e4_5 (instAt_of I ro hl) ?_;rintro p dx es m rfl hd g re J
        refine e0_5 (G.meth c k a h1) fun hn m1 m2 m3 m4=>?_
        have hg:PySem.W.getL (dec k) es=some none:=(EN.getL k hn re).2 (Option.isNone_iff_eq_none.mp hno)
        refine ⟨.ref a,[.ref p],fun Q hQ=>method_fn I.K J (plainGet_of m1).1 (plainGet_of m1).2 m2 (beq_iff_eq.mp m3) (by show (lookIn (dec k) (dictOf es m)).map _=_; rw [lookIn_dict,hg]; rfl) hQ,fun {s'} {Ω'} {σ₁} {σ₂} {args} {vals} {v} hC rm ad I' rl hm=>?_⟩
        have ro':R w.params Ω' (.inst c l) (.ref p):=ro.mono ad.le
        refine e0_2 (hC a (.inst c l :: args) σ₁ v σ₂ hm A s' Ω' (.ref p :: vals) rm.toC I' ⟨_,_,rfl,ro',rl⟩) ?_;rintro ⟨o,fd,ho,hd'⟩ hc
        exact ⟨kept_fn ho hd',call_of hc⟩
      · exact nn h2
    · exact nn h2
  | loc l =>
    obtain ⟨t,rfl,hd⟩:=ro
    have h:(match σ[l]? with
      | some (O.list _)=>if k=0x617070656e64 || k=0x706f70 || k=0x657874656e64 then some none else none
      | some (O.dict _)=>if k=0x676574 then some none else none
      | _=>none)=some r:=h
    split at h
    · rename_i vs hl
      split at h
      · rename_i hk
        cases h
        refine e2_2 (I.objs _ _ _ hl hd) fun its n' g re=>?_
        have hT:s.TypeIs (.ref t) "list" := ⟨_,g,rfl⟩
        have hnd:∀ a,Value.ref t = .ref a→∃ o,s.heap.get? a=some o∧o.dict=none:=fun a e=>by cases e; exact ⟨_,g,rfl⟩
        simp only [Bool.or_eq_true,decide_eq_true_eq] at hk
        have fin:∀ id:String,((k=0x617070656e64∧id = "list.append") ∨ (k=0x706f70∧id = "list.pop") ∨ (k=0x657874656e64∧id = "list.extend")) →
          MethC G n C A s Ω (.loc l) k none (.builtin id) [.ref t]:=by
          intro id hid s' Ω' σ₁ σ₂ args vals v hC rm ad I' rl hm
          have hd':=ad.le.rho _ _ hd
          have hm:methS l k args σ₁=some (v,σ₂):=hm
          refine ⟨kept_bi,?_⟩
          cases hq:σ₁[l]? with
          | none=>unfold methS at hm; rw [hq] at hm; exact nn hm
          | some o =>
            induction o using O.casesOn with
            | list ws=>exact listMeth_s hid I' hq hd' rl hm
            | dict kvs =>
              unfold methS at hm; rw [hq] at hm
              dsimp only at hm
              rw [if_neg (by rcases hid with ⟨rfl,_⟩ | ⟨rfl,_⟩ | ⟨rfl,_⟩ <;> decide)] at hm; exact nn hm
            | obj _=>unfold methS at hm; rw [hq] at hm; exact nn hm
            | code _=>unfold methS at hm; rw [hq] at hm; exact nn hm
        rcases hk with (rfl | rfl) | rfl
        · exact ⟨_,_,fun Q hQ=>getMethod_builtin hT PySem.F.plainAttrs_list PySem.F.slot_list_append PySem.F.type_list_append hnd hQ,fin _ (.inl ⟨rfl,rfl⟩)⟩
        · exact ⟨_,_,fun Q hQ=>getMethod_builtin hT PySem.F.plainAttrs_list PySem.F.slot_list_pop PySem.F.type_list_pop hnd hQ,fin _ (.inr (.inl ⟨rfl,rfl⟩))⟩
        · exact ⟨_,_,fun Q hQ=>getMethod_builtin hT PySem.F.plainAttrs_list PySem.F.slot_list_extend PySem.F.type_list_extend hnd hQ,fin _ (.inr (.inr ⟨rfl,rfl⟩))⟩
      · exact nn h
    · rename_i kvs hl
      split at h
      · rename_i hk
        cases h
        subst hk
        refine e2_2 (I.objs _ _ _ hl hd) fun es n' g re=>?_
        have hT:s.TypeIs (.ref t) "dict" := ⟨_,g,rfl⟩
        have hnd:∀ a,Value.ref t = .ref a→∃ o,s.heap.get? a=some o∧o.dict=none:=fun a e=>by cases e; exact ⟨_,g,rfl⟩
        refine ⟨_,_,fun Q hQ=>getMethod_builtin hT PySem.F.plainAttrs_dict PySem.F.slot_dict_get PySem.F.type_dict_get hnd hQ,fun {s'} {Ω'} {σ₁} {σ₂} {args} {vals} {v} hC rm ad I' rl hm=>⟨kept_bi,?_⟩⟩
        have hd':=ad.le.rho _ _ hd
        have hm:methS l 0x676574 args σ₁=some (v,σ₂):=hm
        unfold methS at hm
        cases hq:σ₁[l]? with
        | none=>rw [hq] at hm; exact nn hm
        | some o =>
          rw [hq] at hm
          induction o using O.casesOn with
          | list ws=>dsimp only at hm; rw [if_neg (by decide),if_neg (by decide),if_neg (by decide)] at hm; exact nn hm
          | obj _=>exact nn hm
          | code _=>exact nn hm
          | dict kvs' =>
            dsimp only at hm
            rw [if_pos rfl] at hm
            refine e2_2 (I'.objs _ _ _ hq hd') fun es' n2 g' re'=>?_
            induction args using List.casesOn with
            | nil=>exact nn hm
            | cons a r1=>induction r1 using List.casesOn with
              | nil=>induction a using V.casesOn <;> exact nn hm
              | cons b r2=>induction r2 using List.casesOn with
                | cons _ _=>induction a using V.casesOn <;> exact nn hm
                | nil =>
                  induction a using V.casesOn with
                  | int j =>
                    cases hm
                    obtain ⟨y,ys,rfl,⟨tk,rfl⟩,z,zs,rfl,rz,e⟩:=rl
                    have e:zs = []:=e
                    subst e
                    have ne:(t == sysModules)=false:=beq_eq_false_iff_ne.mpr fun e=>I'.sysm (e ▸ I'.rfz t (List.mem_of_getElem? hd'))
                    have hm:=intMap_of re' g'
                    refine call_meetsIn PySem.F.slot_dict_get (s:=s') ⟨_,g',rfl⟩ PySem.F.entry_dict_get (PySem.F.args_dict_get_3 _ _ _) (meets_dict_get_default (intKind prog w) t (intKind_is prog w j tk) ne z) ⟨_,hm.mapOf (fun o ho=>by rw [g'] at ho; cases ho; exact ⟨rfl,rfl⟩),?_⟩
                    · have hfi:=intMap_find j re'
                      cases hlk:lookI kvs' j with
                      | none=>rw [hfi.2 hlk]; exact .same I' rz
                      | some u=>refine e1_2 (hfi.1 u hlk) fun val e1 rv=>?_; rw [e1]; exact .same I' rv
                  | _=>exact nn hm
      · exact nn h
    · exact nn h
  | _=>exact nn h
theorem Ok.tupA (I:Inv w.params G.B Ω σ s.heap) {xs:List V} {its:Array Value} {n tk:Nat} {o:Obj} (r:RL w.params Ω xs its.toList) :
    Ok w.params G.B Ω s (.tup xs) σ (.ref (s.heap.push o).objs.size) { s with heap:=(s.heap.push o).push (tupO its n),toks:=tk }:=by
  have I':Inv w.params G.B Ω σ (s.heap.push o):=I.keeps fun b p=>Heap.get?_push_of_some o
  have a:Adv no Ω s Ω { s with heap:=s.heap.push o }:=.keeps (tk:=s.toks) fun b p=>Heap.get?_push_of_some o
  exact Ok.adv (s':={ s with heap:=s.heap.push o }) a (Ok.tup (s:={ s with heap:=s.heap.push o }) (n:=n) (tk:=tk) I' r)
theorem Ok.lstA (I:Inv w.params G.B Ω σ s.heap) {xs:List V} {its:Array Value} {n tk:Nat} {o:Obj} (r:RL w.params Ω xs its.toList) :
    Ok w.params G.B Ω s (.lst xs) σ (.ref (s.heap.push o).objs.size) { s with heap:=(s.heap.push o).push (listOf its n),toks:=tk }:=by
  have I':Inv w.params G.B Ω σ (s.heap.push o):=I.keeps fun b p=>Heap.get?_push_of_some o
  have a:Adv no Ω s Ω { s with heap:=s.heap.push o }:=.keeps (tk:=s.toks) fun b p=>Heap.get?_push_of_some o
  exact Ok.adv (s':={ s with heap:=s.heap.push o }) a (Ok.lst (s:={ s with heap:=s.heap.push o }) (n:=n) (tk:=tk) I' r)
theorem meets_len (d:Addr) (hd:(d == sysModules)=false) :
    MeetsIn prog w (Builtin.«dict.__len__» ⟨[.ref d],[]⟩) (fun _ R s=>∃ es m,s.heap.get? d=some (dictOf es m)∧R (.ok (.ret (.int es.length s.toks))) { s with toks:=s.toks + 1 }) :=
  .of_wp fun A R s ⟨es,m,ho,h⟩=>by
    show wpAny _ _ (dictSize d >>= _) _ _ s
    unfold dictSize
    refine wpAny_bind (wpAny_bind (wpAny_dictEntries ho rfl (wpAny_pure ?_)))
    show wpAny _ _ (Builtin.Dict.pendingCount d >>= _) _ _ s
    refine wpAny_bind (wpAny_pendingCount_other hd ?_)
    refine wpAny_ret_mkInt ?_
    rw [Nat.add_zero,List.size_toArray]; exact h
set_option tactic.hygienic true in
theorem len_s {a:V} {x:Value} {k:Nat} (I:Inv w.params G.B Ω σ s.heap) (ra:R w.params Ω a x) (h:lenOf σ a=some k):wpAny (model prog w) A (call (.builtin "len") [x]) (Ok w.params G.B Ω s (.int k) σ) nope s:=by
  have big:∀ n:Nat,Internal.lenOk n=true→(n:Int) < 2 ^ 63:=fun n hn=>by
    have:=Nat.le_of_ble_eq_true hn
    have e:(2:Int) ^ 63=9223372036854775808:=rfl
    exact Int.lt_of_le_of_lt (Int.ofNat_le.mpr this) (by rw [e]; decide)
  have done:∀ t,Ok w.params G.B Ω s (.int k) σ (.int (k:Int) (s.toks + 1)) { s with toks:=t }:=fun t=>.same I ⟨_,rfl⟩
  induction a using V.casesOn with
  | tup vs =>
    have h:(if Internal.lenOk vs.length then some vs.length else none)=some k:=h
    split at h
    · rename_i hz
      cases h
      obtain ⟨t,its,n,rfl,f,r⟩:=ra
      have hlen:its.size=vs.length:=by rw [← Array.length_toList]; exact r.length
      exact PyProof.Rows.len_tuple (t:=t) (items:=its) ⟨_,I.fz _ _ f,rfl,n,rfl⟩ (by rw [hlen]; exact big _ hz) (by rw [hlen]; exact done _)
    · exact nn h
  | lst vs =>
    have h:(if Internal.lenOk vs.length then some vs.length else none)=some k:=h
    split at h
    · rename_i hz
      cases h
      obtain ⟨t,its,n,rfl,f,r⟩:=ra
      have hlen:its.size=vs.length:=by rw [← Array.length_toList]; exact r.length
      exact Calls.call_len_list (l:=t) (items:=its) ⟨_,I.fz _ _ f,rfl,n,rfl⟩ (by rw [hlen]; exact big _ hz) (by rw [hlen]; exact done _)
    · exact nn h
  | loc l =>
    obtain ⟨t,rfl,hd⟩:=ra
    have h:(match σ[l]? with
      | some (O.list vs)=>if Internal.lenOk vs.length then some vs.length else none
      | some (O.dict kvs)=>if Internal.lenOk kvs.length then some kvs.length else none
      | _=>none)=some k:=h
    split at h
    · rename_i vs hl
      split at h
      · rename_i hz
        cases h
        refine e2_2 (I.objs _ _ _ hl hd) fun its n g r=>?_
        have hlen:its.size=vs.length:=by rw [← Array.length_toList]; exact r.length
        exact Calls.call_len_list (l:=t) (items:=its) ⟨_,g,rfl,n,rfl⟩ (by rw [hlen]; exact big _ hz) (by rw [hlen]; exact done _)
      · exact nn h
    · rename_i kvs hl
      split at h
      · rename_i hz
        cases h
        refine e2_2 (I.objs _ _ _ hl hd) fun es n g r=>?_
        have hlen:=r.length
        have ne:(t == sysModules)=false:=beq_eq_false_iff_ne.mpr fun e=>I.sysm (e ▸ I.rfz t (List.mem_of_getElem? hd))
        have hT:s.TypeIs (.ref t) "dict" := ⟨_,g,rfl⟩
        refine call_len_slot (n:=(es.length:Int)) hT PySem.F.slot_dict_len (fun Q' hq=>call_meetsIn PySem.F.slot_dict_len hT PySem.F.entry_dict_len (PySem.F.args_dict_len_1 _) (meets_len t ne) ⟨es,n,g,hq⟩) (by exact Int.not_lt.mpr (Int.natCast_nonneg _)) (by have:=big _ hz; rw [hlen]; lia) ?_
        rw [hlen]; exact done _
      · exact nn h
    · exact nn h
  | _=>exact nn h
theorem seq_at {a:V} {x:Value} {vs:List V} (I:Inv w.params G.B Ω σ s.heap) (ra:R w.params Ω a x) (h:seqOf σ a=some vs):∃ t its n,x = .ref t∧s.heap.get? t=some (listOf its n)∧RL w.params Ω vs its.toList∧its.size≤sizeLine:=by
  induction a using V.casesOn with
  | lst ws =>
    have h:(if Internal.sizeOk ws.length then some ws else none)=some vs:=h
    split at h
    · rename_i hz
      cases h
      obtain ⟨t,its,n,rfl,f,r⟩:=ra
      exact ⟨t,its,n,rfl,I.fz _ _ f,r,by rw [← Array.length_toList,r.length]; exact sizeOk_le hz⟩
    · exact nn h
  | loc l =>
    obtain ⟨t,rfl,hd⟩:=ra
    have h:(match σ[l]? with
      | some (O.list vs)=>if Internal.sizeOk vs.length then some vs else none
      | _=>none)=some vs:=h
    split at h
    · rename_i ws hl
      split at h
      · rename_i hz
        cases h
        refine e2_2 (I.objs _ _ _ hl hd) fun its n g r=>?_
        exact ⟨t,its,n,rfl,g,r,by rw [← Array.length_toList,r.length]; exact sizeOk_le hz⟩
      · exact nn h
    · exact nn h
  | _=>exact nn h
theorem Inv.newAt {h':Heap} {a:Addr} {o:Obj} (I:Inv w.params G.B Ω σ s.heap) (k:∀ b o,s.heap.get? b=some o→h'.get? b=some o) (ha:h'.get? a=some o) (hn:s.heap.get? a=none):Inv w.params G.B (Ω.add a o) σ h'∧∀ tk,Adv no Ω s (Ω.add a o) { s with heap:=h',toks:=tk }:=by
  have hf:Ω.fz a=none:=by
    cases q:Ω.fz a with
    | none=>rfl
    | some p=>rw [I.fz a p q] at hn; cases hn
  have hr:a ∉ Ω.rho:=fun hm=>by
    obtain ⟨l,hl,e⟩:=List.getElem_of_mem hm
    have hl':l < σ.length:=I.len ▸ hl
    refine e1_1 (OR.some (I.objs l (σ[l]) a (List.getElem?_eq_getElem hl') (by rw [List.getElem?_eq_getElem hl,e]))) fun q hq=>?_
    rw [hn] at hq; exact nn hq
  have le:=Om.add_le (o:=o) hf
  refine ⟨⟨fun b q h=>?_,fun b q h=>le.fz b q (I.base b q h),I.tab,I.len,I.nd,fun b hb=>?_,fun l q b h1 h2=>(I.objs l q b h1 h2).mono le fun p=>k b p⟩,fun tk=>⟨rfl,rfl,rfl,⟨[],by simp [Om.add],by simp⟩,le.fz,fun b q h=>?_,fun b q h _ _=>k b q h⟩⟩
  · change (if b=a then some o else Ω.fz b)=some q at h
    by_cases e:b=a
    · subst e; rw [if_pos rfl] at h; cases h; exact ha
    · rw [if_neg e] at h; exact k b q (I.fz b q h)
  · show (if b=a then some o else Ω.fz b)=none
    rw [if_neg (by rintro rfl; exact hr hb)]; exact I.rfz b hb
  · change (if b=a then some o else Ω.fz b)=some q at h
    by_cases e:b=a
    · subst e; exact .inr (.inl hn)
    · rw [if_neg e] at h; exact .inl h
theorem Inv.newLoc {h':Heap} {a:Addr} {o:O} (I:Inv w.params G.B Ω σ s.heap) (k:∀ b o,s.heap.get? b=some o→h'.get? b=some o) (hn:s.heap.get? a=none) (ho:OR w.params (Ω.app a) h' a o):Inv w.params G.B (Ω.app a) (σ++[o]) h'∧∀ tk,Adv no Ω s (Ω.app a) { s with heap:=h',toks:=tk }:=by
  have hf:Ω.fz a=none:=by
    cases q:Ω.fz a with
    | none=>rfl
    | some p=>rw [I.fz a p q] at hn; cases hn
  have hr:a ∉ Ω.rho:=fun hm=>by
    obtain ⟨l,hl,e⟩:=List.getElem_of_mem hm
    have hl':l < σ.length:=I.len ▸ hl
    refine e1_1 (OR.some (I.objs l (σ[l]) a (List.getElem?_eq_getElem hl') (by rw [List.getElem?_eq_getElem hl,e]))) fun q hq=>?_
    rw [hn] at hq; exact nn hq
  exact ⟨(I.keeps k).appLoc hf hr ho,fun tk=>⟨rfl,rfl,rfl,⟨[a],rfl,fun b hb=>.inl (by rw [List.mem_singleton] at hb; subst hb; exact hn)⟩,fun _ _ h=>h,fun _ _ h=>.inl h,fun b p h _ _=>k b p h⟩⟩
theorem ints_are:∀ {vs:List V} {is:List Int} {vals:List Value},ints? vs=some is→RL w.params Ω vs vals→IntsAre vals is
  | [],is,vals,h,r=>by refine s1 h ?_; have r:vals = []:=r; subst r; exact .nil
  | v :: vs,is,vals,h,⟨x,xs,e,rx,r⟩=>by
    subst e
    induction v using V.casesOn with
    | int i =>
      have h:(ints? vs).map (i :: ·)=some is:=h
      refine mse h ?_;rintro js h1 rfl
      refine e1_1 rx ?_;clear rx;rintro t rfl
      exact .cons i t (ints_are h1 r)
    | _=>exact nn h
theorem are_ints:∀ {vals:List Value} {is:List Int},IntsAre vals is→RL w.params Ω (is.map V.int) vals
  | _,_,.nil=>rfl
  | _,_,.cons n t h=>⟨_,_,rfl,⟨t,rfl⟩,are_ints h⟩
theorem ins_perm (i:Int):∀ l:List Int,(insSorted i l).Perm (i :: l)
  | []=>.refl _
  | j :: r=>by
    unfold insSorted
    split
    · exact .refl _
    · exact ((ins_perm i r).cons j).trans (.swap _ _ _)
theorem ins_sorted (i:Int):∀ l:List Int,l.Pairwise (· ≤ ·)→(insSorted i l).Pairwise (· ≤ ·)
  | [],_=>by simp [insSorted]
  | j :: r,h=>by
    refine e0_2 (List.pairwise_cons.mp h) fun h1 h2=>?_
    unfold insSorted
    split
    · rename_i hij
      exact List.pairwise_cons.mpr ⟨fun x hx=>(List.mem_cons.mp hx).elim (fun e=>e ▸ hij) fun hx=>Int.le_trans hij (h1 x hx),h⟩
    · rename_i hij
      refine List.pairwise_cons.mpr ⟨fun x hx=>?_,ins_sorted i r h2⟩
      rcases List.mem_cons.mp ((ins_perm i r).mem_iff.mp hx) with e | hx
      · subst e; exact Int.le_of_lt (Int.not_le.mp hij)
      · exact h1 x hx
theorem sort_perm:∀ l:List Int,(l.foldr insSorted []).Perm l
  | []=>.refl _
  | i :: r=>(ins_perm i _).trans ((sort_perm r).cons i)
theorem sort_sorted:∀ l:List Int,(l.foldr insSorted []).Pairwise (· ≤ ·)
  | []=>.nil
  | i :: r=>ins_sorted i _ (sort_sorted r)
theorem perm_eq:∀ {l l':List Int},l.Perm l'→l.Pairwise (· ≤ ·)→l'.Pairwise (· ≤ ·)→l=l'
  | [],l',p,_,_=>(List.nil_perm.mp p).symm
  | a :: r,l',p,h,h'=>by
    induction l' using List.casesOn with
    | nil=>exact absurd p.length_eq (by simp)
    | cons b r' =>
      refine e0_2 (List.pairwise_cons.mp h) fun h1 h2=>?_
      refine e0_2 (List.pairwise_cons.mp h') fun h1' h2'=>?_
      have e:a=b:=by
        have ha:a ∈ b :: r':=p.mem_iff.mp List.mem_cons_self
        have hb:b ∈ a :: r:=p.mem_iff.mpr List.mem_cons_self
        have le1:b≤a:=(List.mem_cons.mp ha).elim (fun e=>Int.le_of_eq e.symm) fun hx=>h1' _ hx
        have le2:a≤b:=(List.mem_cons.mp hb).elim (fun e=>Int.le_of_eq e.symm) fun hx=>h1 _ hx
        exact Int.le_antisymm le2 le1
      subst e
      rw [perm_eq (List.perm_cons a |>.mp p) h2 h2']
theorem isi_s {a:V} {x:Value} {c:Bool} (I:Inv w.params G.B Ω σ s.heap) (ra:R w.params Ω a x) (h:isTup a=some c):wpAny (model prog w) A (call (.builtin "isinstance") [x,.type "tuple"]) (Ok w.params G.B Ω s (.bool c) σ) nope s:=by
  induction a using V.casesOn with
  | tup vs=>cases h; obtain ⟨t,its,n,rfl,f,r⟩:=ra; exact IsiPair.tuple_tuple (I.fz _ _ f) rfl (.here I rfl)
  | bool b=>cases h; subst ra; exact IsiPair.bool_tuple (.same I rfl)
  | int i=>cases h; refine e1_1 ra ?_;clear ra;rintro t rfl; exact IsiPair.int_tuple (.same I rfl)
  | str n=>cases h; obtain ⟨_,t,rfl⟩:=ra; exact IsiPair.str_tuple (.same I rfl)
  | _=>exact nn h
theorem fset_s {vs:List V} {x:Value} (I:Inv w.params G.B Ω σ s.heap) (ra:R w.params Ω (.dcti [1,2] vs) x):wpAny (model prog w) A (call (.type "frozenset") [x]) (Ok w.params G.B Ω s (.fset [1,2]) σ) nope s:=by
  obtain ⟨a,es,n,rfl,f,⟨e1,r1,rfl,⟨t1,h1⟩,g1,e2,r2,rfl,⟨t2,h2⟩,g2,rfl⟩,_⟩:=ra
  have ne:(a == sysModules)=false:=beq_eq_false_iff_ne.mpr fun e=>by
    subst e
    refine e1_2 G.sysm fun o q hno=>?_
    rw [I.base _ _ q] at f
    injection f with f
    exact hno _ _ f e1 List.mem_cons_self _ _ h1
  refine fs_new ne (I.fz _ _ f) h1 h2 g1 g2 (by decide) fun h' hk hS=>?_
  refine e4_3 hS ?_;clear hS;intro o es' ep t ho X _
  refine e0_2 (I.newAt hk ho (Heap.get?_none_of_le (Nat.le_refl _))) fun I' a'=>?_
  refine ⟨_,a' s.toks,I',_,o,rfl,Om.add_self,fsetO_of X fun k=>?_⟩
  by_cases q1:k=1
  · subst q1; rfl
  · by_cases q2:k=2
    · subst q2; rfl
    · simp [q1,q2]
set_option tactic.hygienic true in
theorem bi_s {b:BI} {vals:List Value} {args:List V} (rm:Room n A) (I:Inv w.params G.B Ω σ s.heap) (ra:RL w.params Ω args vals) (h:builtin b args σ=some (v,σ')):wpAny (model prog w) A (call b.val vals) (Ok w.params G.B Ω s v σ') nope s:=by
  induction args using List.casesOn with
  | nil=>induction b using BI.casesOn <;> exact nn h
  | cons a r1 =>
    obtain ⟨x,xs,rfl,rx,rl⟩:=ra
    induction r1 using List.casesOn with
    | nil =>
      have rl:xs = []:=rl
      subst rl
      induction b using BI.casesOn with
      | len =>
        refine mse (show (lenOf σ a).map (fun (n:Nat)=>(V.int (n:Int),σ))=some (v,σ') from h) fun k h1 h2=>?_
        cases h2
        exact len_s I rx h1
      | max=>induction a using V.casesOn <;> exact nn h
      | int =>
        induction a using V.casesOn with
        | int i=>cases h; refine e1_1 rx ?_;clear rx;rintro t rfl; exact call_int_int (.here I ⟨t,rfl⟩)
        | bool c=>cases h; subst rx; exact call_int_bool (.same I ⟨_,rfl⟩)
        | _=>exact nn h
      | range =>
        induction a using V.casesOn with
        | int i =>
          have h:(if decide (0≤i) && small i then some (V.rng i,σ) else none)=some (v,σ'):=h
          split at h
          · rename_i hc
            rw [Bool.and_eq_true,decide_eq_true_eq] at hc
            cases h
            refine e1_1 rx ?_;clear rx;rintro t rfl
            refine call_range_1 ⟨_,.push I.fresh,I.push rfl,_,_,rfl,Om.add_self,_,_,_,rfl,hc.1,(small_iff hc.2).2⟩
          · exact nn h
        | _=>exact nn h
      | listM =>
        refine mse (show (seqOf σ a).map (fun vs=>(V.loc σ.length,σ++[O.list vs]))=some (v,σ') from h) fun vs h1 h2=>?_
        cases h2
        refine e3_4 (seq_at I rx h1) ?_;rintro t its k rfl g r hz
        refine call_list_seq (hsz:=hz) t (.inl rfl) g rfl rfl fun h' c' hk hD=>?_
        refine e0_2 (I.newLoc (a:=s.heap.objs.size) (o:=.list vs) hk (Heap.get?_none_of_le (Nat.le_refl _)) ⟨its,c',hD,r.mono Om.app_le⟩) fun I' a'=>?_
        exact ⟨_,a' s.toks,I',_,rfl,Om.app_at I⟩
      | listF =>
        refine mse (show (seqOf σ a).map (fun vs=>(V.lst vs,σ))=some (v,σ') from h) fun vs h1 h2=>?_
        cases h2
        refine e3_4 (seq_at I rx h1) ?_;rintro t its k rfl g r hz
        refine call_list_seq (hsz:=hz) t (.inl rfl) g rfl rfl fun h' c' hk hD=>?_
        refine e0_2 (I.newAt hk hD (Heap.get?_none_of_le (Nat.le_refl _))) fun I' a'=>?_
        exact ⟨_,a' s.toks,I',_,its,c',rfl,Om.add_self,r.mono (Om.add_le I.fresh)⟩
      | tuple =>
        refine mse (show (seqOf σ a).map (fun vs=>(V.tup vs,σ))=some (v,σ') from h) fun vs h1 h2=>?_
        cases h2
        refine e3_4 (seq_at I rx h1) ?_;rintro t its k rfl g r hz
        refine call_tuple_list (hsz:=hz) (l:=t) ⟨_,g,rfl,k,rfl⟩ fun h' hk=>?_
        have I':Inv w.params G.B Ω σ h':=I.keeps hk
        exact Ok.adv (s':={ s with heap:=h' }) (.keeps (tk:=s.toks) hk) (Ok.tup (s:={ s with heap:=h' }) (n:=0) (tk:=s.toks) I' r)
      | sorted =>
        refine bse (show (seqOf σ a).bind (fun vs=>if Nat.blt vs.length 64 then (ints? vs).map fun is=>(V.lst ((is.foldr insSorted []).map .int),σ) else none)=some (v,σ') from h) fun vs h1 h2=>?_
        split at h2
        · rename_i hz
          refine mse h2 fun is h3 h4=>?_
          cases h4
          refine e3_4 (seq_at I rx h1) ?_;rintro t its k rfl g r _
          have hlen:=r.length
          refine sorted_ints (l:=t) (vs:=its.toList) (ns:=is) ⟨_,g,rfl,k,by rw [Array.toArray_toList]⟩ (ints_are h3 r) (by rw [hlen]; have:=Nat.le_of_ble_eq_true hz; (apply le1;assumption;simp +arith only)) fun out ns' a1 a2 a3=>?_
          refine e1_1 (sortedAll_at s.heap its.toList out) fun e he=>?_
          refine e0_2 (I.newAt (fun b o=>sortedAll_old) he (Heap.get?_none_of_le (Nat.le_succ _))) fun I' a'=>?_
          have e1:is.foldr insSorted [] = ns':=perm_eq ((sort_perm is).trans a2.symm) (sort_sorted is) a3
          refine ⟨_,a' s.toks,I',_,out,e,rfl,Om.add_self,?_⟩
          rw [e1]
          exact are_ints a1
        · exact nn h2
      | isinst=>exact nn h
      | fset =>
        induction a using V.casesOn with
        | dcti ks vs =>
          have h:(if ks == [1,2] then some (V.fset ks,σ) else none)=some (v,σ'):=h
          split at h
          · rename_i hk
            have hk:=beq_iff_eq.mp hk
            subst hk
            cases h
            exact fset_s I rx
          · exact nn h
        | _=>exact nn h
    | cons a2 r2 =>
      obtain ⟨y,ys,rfl,ry,rl⟩:=rl
      induction r2 using List.casesOn with
      | nil =>
        have rl:ys = []:=rl
        subst rl
        induction b using BI.casesOn with
        | max =>
          induction a using V.casesOn with
          | int i=>induction a2 using V.casesOn with
            | int j =>
              cases h
              refine e1_1 rx ?_;clear rx;rintro t rfl
              refine e1_1 ry ?_;clear ry;rintro u rfl
              refine max_two_ints rm.hh fun h' tk hk=>⟨Ω,.keeps hk,I.keeps hk,?_⟩
              split <;> exact ⟨_,rfl⟩
            | _=>exact nn h
          | _=>exact nn h
        | isinst =>
          induction a2 using V.casesOn with
          | bi b2=>induction b2 using BI.casesOn with
            | tuple =>
              refine mse (show (isTup a).map (fun b=>(V.bool b,σ))=some (v,σ') from h) fun c h1 h2=>?_
              cases h2
              subst ry
              exact isi_s I rx h1
            | _=>exact nn h
          | _=>exact nn h
        | fset=>induction a using V.casesOn <;> exact nn h
        | int=>induction a using V.casesOn <;> exact nn h
        | range=>induction a using V.casesOn <;> exact nn h
        | _=>exact nn h
      | cons _ _ =>
        induction b using BI.casesOn with
        | max=>induction a using V.casesOn <;> first | (exact nn h; done) | (induction a2 using V.casesOn <;> exact nn h)
        | isinst=>induction a2 using V.casesOn <;> first | (exact nn h; done) | (rename_i b2; induction b2 using BI.casesOn <;> exact nn h)
        | fset=>induction a using V.casesOn <;> exact nn h
        | int=>induction a using V.casesOn <;> exact nn h
        | range=>induction a using V.casesOn <;> exact nn h
        | _=>exact nn h
theorem tc_weight (c:Addr) (vals:List Value):(Code.builtin "type.__call__" ⟨.ref c :: vals,[]⟩).weight=1:=by kernel_rfl
theorem tc_units (c:Addr) (vals:List Value):(Code.builtin "type.__call__" ⟨.ref c :: vals,[]⟩).cUnits=1:=by kernel_rfl
theorem cls_s {cc:Nat} {vals:List Value} {args:List V} (hC:ClS G n C) (rm:Room n A) (I:Inv w.params G.B Ω σ s.heap) (ra:RL w.params Ω args vals) (h:callV T C (.cls cc) args σ=some (v,σ')) :
    (∃ k,(k=Keeper.frame ∨ k=Keeper.machine ∨ k=Keeper.boundFrame)∧Looks (model prog w) s.heap (keeperOf (.ref cc)) k)∧wpAny (model prog w) A (call (.ref cc) vals) (Ok w.params G.B Ω s v σ') nope s:=by
  refine bse h fun i h1 h=>?_
  refine bse h fun r h2 h=>?_
  split at h
  · rename_i hn
    have hr:r.1 = .none:=by cases hq:r.1 <;> rw [hq] at hn <;> first | rfl | cases hn
    cases h
    refine e0_4 (G.init cc i h1) fun m1 m2 m3 m4=>?_
    refine ⟨keeps_K m4 _ I.K,?_⟩
    obtain ⟨hh,g,d,t,os⟩:=s
    have IK:=I.K
    refine wpAny_call (make_core (makes_of IK m1) (looks_findIn IK m2) (fun self=>bind_fn IK self (beq_iff_eq.mp m3)) (.inl rfl) ?_)
    have I₁:Inv w.params G.B (Ω.app hh.objs.size) (σ++[.obj []]) (hh.push emptyDict):=Inv.alloc (s:=⟨hh,g,d,t,os⟩) I (q:=emptyDict) (o:=.obj []) rfl ⟨[],0,Heap.get?_push_size _ rfl,rfl⟩
    have I₂:=Inv.push (s:=⟨hh.push emptyDict,g,d,t,os⟩) I₁ (o:=instObj cc hh.objs.size) rfl
    have a₁:Adv no Ω ⟨hh,g,d,t,os⟩ (Ω.app hh.objs.size) ⟨hh.push emptyDict,g,d,t,os⟩:=Adv.alloc (s:=⟨hh,g,d,t,os⟩) (tk:=t)
    have a₂:Adv no (Ω.app hh.objs.size) ⟨hh.push emptyDict,g,d,t,os⟩ _ ⟨(hh.push emptyDict).push (instObj cc hh.objs.size),g,d,t,os⟩:=Adv.push (s:=⟨hh.push emptyDict,g,d,t,os⟩) (tk:=t) (o:=instObj cc hh.objs.size) (Inv.fresh (s:=⟨hh.push emptyDict,g,d,t,os⟩) I₁)
    have a:=a₁.trans a₂
    have e:(hh.push emptyDict).objs.size=hh.objs.size + 1:=Heap.size_push ..
    have ri:R w.params ((Ω.app hh.objs.size).add (hh.push emptyDict).objs.size (instObj cc hh.objs.size)) (.inst cc σ.length) (.ref (hh.objs.size + 1)) :=
      ⟨_,hh.objs.size,rfl,by rw [← e]; exact Om.add_self,Om.app_at (s:=⟨hh,g,d,t,os⟩) I⟩
    have rmC:RoomC n (A.under (.builtin "type.__call__" ⟨.ref cc :: vals,[]⟩)):=⟨rm.hh,by
      show A.depth + (Code.builtin "type.__call__" ⟨.ref cc :: vals,[]⟩).weight + 3 * n < 902
      rw [tc_weight]; have:=rm.dp; (refine le1 this ?_;simp +arith only),by
      show A.units + (Code.builtin "type.__call__" ⟨.ref cc :: vals,[]⟩).cUnits + 10 * n < 9006
      rw [tc_units]; have:=rm.un; (refine le1 this ?_;simp +arith only)⟩
    refine codeAny_mono (hC i (.inst cc σ.length :: args) (σ++[.obj []]) r.1 r.2 h2 _ ⟨(hh.push emptyDict).push (instObj cc hh.objs.size),g,d,t,os⟩ _ (.ref (hh.objs.size + 1) :: vals) rmC I₂ ⟨_,_,rfl,ri,ra.mono a.le⟩).2 fun res s' hres=>?_
    obtain ⟨val,rfl,Ω₃,a₃,I₃,rv⟩:=hres
    rw [hr] at rv
    exact ⟨rv,Ω₃,a.trans a₃,I₃,ri.mono a₃.le⟩
  · exact nn h
theorem lamCall_s {l:Nat} {vf:Value} {vals:List Value} {args:List V} (rm:Room n A) (I:Inv w.params G.B Ω σ s.heap) (rf:R w.params Ω (.lam l) vf) (ra:RL w.params Ω args vals) (h:callV T C (.lam l) args σ=some (v,σ')) :
    (∃ k,(k=Keeper.frame ∨ k=Keeper.machine ∨ k=Keeper.boundFrame)∧Looks (model prog w) s.heap (keeperOf vf) k)∧wpAny (model prog w) A (call vf vals) (Ok w.params G.B Ω s v σ') nope s:=by
  obtain ⟨a,o,dx,rfl,f,⟨an,ap,pp,gp,sp,sc,cell,c',pm,ctv,occ,oc,vs,t,rfl,h2,h3,h4,h5,h6,h7,h8,h9,h10,h11,h12,h13⟩,hd⟩:=rf
  have hg:=I.fz _ _ f
  refine ⟨kept_fn hg rfl,?_⟩
  unfold callV at h
  induction args using List.casesOn with
  | nil=>exact nn h
  | cons a1 r1 =>
    induction a1 using V.casesOn with
    | int k =>
      induction r1 using List.casesOn with
      | cons _ _=>exact nn h
      | nil =>
        obtain ⟨y,ys,rfl,⟨tk,rfl⟩,e⟩:=ra
        have e:ys = []:=e
        subst e
        dsimp only at h
        have hgi:getItem (.loc l) (.int k) σ=some (v,σ'):=by
          cases hq:σ[l]? with
          | none=>rw [hq] at h; exact nn h
          | some o=>induction o using O.casesOn <;> rw [hq] at h <;> first | exact nn h | exact (gi_D hq).trans h
        have ne:∀ {α:Type} {A:Around} {t:Sem α} {Q:α→Shared→Prop} {E:Value→Shared→Prop} {s:Shared},wpAny (model prog w) A t Q nope s→wpAny (model prog w) A t Q E s:=fun h=>wpAny_mono h (fun _ _ q=>q) fun _ _ e=>e.elim
        have kan:sc.names.lookup (dec an)=some .local:=by rw [h5,List.lookup_cons,beq_self_eq_true]
        have kpl:sc.names.lookup (dec plN)=some .free:=by
          have e1:(dec plN == dec an)=false:=beq_eq_false_iff_ne.mpr (Ne.symm h7)
          rw [h5,List.lookup_cons,e1,List.lookup_cons,beq_self_eq_true]
        refine wpAny_call (kla_callFunE (Nat.lt_of_lt_of_le (Nat.lt_of_le_of_lt (Nat.le_add_right _ _) rm.dp) (Nat.le_of_ble_eq_true rfl)) hg rfl h4 h3 rfl ⟨c',oc,vs,t,rfl,I.fz _ _ h11,h12,h13⟩ ?_)
        refine BindsTo.of_eq (s:=s) (binds:=[(dec an,.int k tk)]) ?_ _ _ _ _ ?_
        · exact bind_plain (fd:=kla_fn _ _ _ _ _ _ _ _ _) (ps:=[dec an]) rfl rfl rfl rfl rfl rfl rfl (by simp)
        · refine wpAny_newFunctionEnv (fun x hx=>?_) (fun x hx=>?_) (fun h' hn hs=>⟨?_,?_⟩) h2
          · rw [h5] at hx
            rcases List.mem_cons.mp hx with rfl | hx
            · exact fun e=>by cases e
            · rw [List.mem_singleton] at hx; subst hx; exact fun e=>by cases e
          · rw [List.mem_singleton] at hx; subst hx; exact kan
          · exact G.nolim.keeps fun b o hb=>hs.extBut b o (Nat.ne_of_lt (Heap.lt_size (I.keepB b o hb))) (Heap.get?_push_of_some _ (I.keepB b o hb))
          · have hk:∀ b o,s.heap.get? b=some o→h'.get? b=some o:=fun b o hb=>hs.extBut b o (Nat.ne_of_lt (Heap.lt_size hb)) (Heap.get?_push_of_some _ hb)
            have I':Inv w.params G.B Ω σ h':=I.keeps hk
            refine kla_codeExpr (ne ?_)
            refine Subscript_ (wpAny_Name (wpAny_loadName_free h2 kpl (c:=cell) (v:=.ref dx) ?_ ⟨occ,I'.fz _ _ h9,h10⟩ ?_ ?_) ?_)
            · show List.lookup (dec plN) [(dec plN,cell)] = some cell
              rw [List.lookup_cons,beq_self_eq_true]
            · refine wpAny_Name (wpAny_loadName_local h2 kan hn (v:=.int k tk) ?_ ?_) h8
              · simp [List.lookup_cons]
              · have hgi':wpAny (model prog w) (A.deeper (newEnv sc s.heap.objs.size mainGlobals [(dec plN,cell)] (lamQual++(".<locals>." : Str)) (some a) (.ref c') none builtinsNs)) (PySem.getItem (.ref dx) (.int k tk)) (Ok w.params G.B Ω { s with heap:=h',toks:=s.toks + 1 } v σ') nope { s with heap:=h',toks:=s.toks + 1 } :=
                  getItem_s (s:={ s with heap:=h',toks:=s.toks + 1 }) (a:=.loc l) (b:=.int k) I' ⟨dx,rfl,hd⟩ ⟨tk,rfl⟩ hgi
                have hT:Shared.TypeIs { s with heap:=h',toks:=s.toks + 1 } (.ref dx) "dict" := by
                  cases hq:σ[l]? with
                  | none=>rw [hq] at h; exact nn h
                  | some o=>induction o using O.casesOn with
                    | dict kvs=>refine e2_2 (I'.objs _ _ _ hq hd) fun es m g _=>?_; exact ⟨_,g,rfl⟩
                    | _=>rw [hq] at h; exact nn h
                refine tail_any (ops:=[.ref dx,.int k tk]) hT PySem.F.slot_dict_getitem.lookup ?_ rfl
                exact wpAny_mono hgi' (fun val s' hv=>Ok.adv (s':={ s with heap:=h',toks:=s.toks + 1 }) (.keeps hk) hv) fun _ _ e=>e
            · decide +kernel
            · decide +kernel
    | _=>exact nn h
theorem call_s {vf:Value} {f:V} {vals:List Value} {args:List V} (hC:ClS G n C) (rm:Room n A) (I:Inv w.params G.B Ω σ s.heap) (rf:R w.params Ω f vf) (ra:RL w.params Ω args vals) (h:callV T C f args σ=some (v,σ')) :
    (∃ k,(k=Keeper.frame ∨ k=Keeper.machine ∨ k=Keeper.boundFrame)∧Looks (model prog w) s.heap (keeperOf vf) k)∧wpAny (model prog w) A (call vf vals) (Ok w.params G.B Ω s v σ') nope s:=by
  induction f using V.casesOn with
  | fn a =>
    subst rf
    refine e0_2 (hC a args σ v σ' h A s Ω vals rm.toC I ra) ?_;rintro ⟨o,fd,ho,hd⟩ hc
    exact ⟨kept_fn ho hd,call_of hc⟩
  | cls cc=>subst rf; exact cls_s hC rm I ra h
  | bi b =>
    subst rf
    refine ⟨?_,bi_s rm I ra h⟩
    induction b using BI.casesOn <;> first | exact kept_bi | exact kept_ty
  | lam l=>exact lamCall_s rm I rf ra h
  | _=>exact nn h
theorem slc_s {e:X} {lo hi:Option (Int × Nat)} {sp p:Nat} (h:cutV a lo hi σ=some (v,σ'))
    (he:wpAny (model prog w) A (eval e.toE env) (Ok w.params G.B Ω s a σ) nope s):wpAny (model prog w) A (eval (X.slc e lo hi sp p).toE env) (Ok w.params G.B Ω s v σ') nope s:=by
  show wpAny (model prog w) A (eval (.Subscript e.toE (.Slice (lo.map numE) (hi.map numE) none (dpos sp)) (dpos p)) env) _ _ _
  refine Subscript_ (wpAny_mono he (fun x s₁ ⟨Ω₁,a₁,I₁,r₁⟩=>?_) fun _ _ e=>e)
  induction a using V.casesOn with
  | tup vs =>
    induction lo using Option.casesOn with
    | none =>
      induction hi using Option.casesOn with
      | none=>exact nn h
      | some hh =>
        obtain ⟨hh,hp⟩:=hh
        have h:(if decide (0≤hh) && (decide (hh < (vs.length:Int)) && Internal.sizeOk vs.length) then some (V.tup (vs.take hh.toNat),σ) else none)=some (v,σ'):=h
        split at h
        · rename_i hl
          rw [Bool.and_eq_true,Bool.and_eq_true,decide_eq_true_eq,decide_eq_true_eq] at hl
          refine e0_3 hl ?_;clear hl;intro h1 h2 h3
          obtain ⟨t,its,n,rfl,f,r⟩:=r₁
          have hlen:its.size=vs.length:=by rw [← Array.length_toList]; exact r.length
          have hsz:its.size≤sizeLine:=by rw [hlen]; exact sizeOk_le h3
          obtain ⟨hb',rfl⟩:∃ hb:Nat,hh=(hb:Int):=⟨hh.toNat,(Int.toNat_of_nonneg h1).symm⟩
          cases h
          refine wpAny_Slice (wpAny_Constant_none' (part_int (wpAny_Constant_none' ?_)))
          have I₂:Inv w.params G.B Ω₁ σ (s₁.heap.push { cls:=.type "slice", data:=.fields #[.none,.int hb' s₁.toks,.none] }):=I₁.keeps fun b p=>Heap.get?_push_of_some _
          have ht:IsTup (s₁.heap.push { cls:=.type "slice", data:=.fields #[.none,.int hb' s₁.toks,.none] }) t its:=⟨_,I₂.fz _ _ f,rfl,n,rfl⟩
          refine tail_any (T := "tuple") (s:={ s₁ with heap:=s₁.heap.push { cls:=.type "slice", data:=.fields #[.none,.int hb' s₁.toks,.none] },toks:=s₁.toks + 1 }) (ops:=[.ref s₁.heap.objs.size,.ref t]) ht.typeIs slot_tuple_getitem.lookup ?_ rfl
          refine getItem_tuple_to (b:=hb') (v:=s₁.toks) ht (Heap.IsSliceOf.new ..) (by rw [hlen]; exact Int.ofNat_lt.mp h2) ?_ hsz
          exact Ok.adv a₁ (Ok.tupA I₁ (by simpa using r.take hb'))
        · exact nn h
    | some l =>
      obtain ⟨l,lp⟩:=l
      have h:(if decide (1≤l) && (decide (l≤(vs.length:Int)) && Internal.sizeOk vs.length) then (match hi with
        | none=>some (V.tup (vs.drop l.toNat),σ)
        | some (h,_)=>if decide (l≤h) && decide (h≤(vs.length:Int)) then some (V.tup ((vs.take h.toNat).drop l.toNat),σ) else none) else none)=some (v,σ'):=h
      split at h
      · rename_i hl
        rw [Bool.and_eq_true,Bool.and_eq_true,decide_eq_true_eq,decide_eq_true_eq] at hl
        refine e0_3 hl ?_;clear hl;intro h1 h2 h3
        obtain ⟨t,its,n,rfl,f,r⟩:=r₁
        have hlen:its.size=vs.length:=by rw [← Array.length_toList]; exact r.length
        have hsz:its.size≤sizeLine:=by rw [hlen]; exact sizeOk_le h3
        obtain ⟨la,rfl⟩:∃ la:Nat,l=(la:Int):=⟨l.toNat,(Int.toNat_of_nonneg (Int.le_trans (by decide) h1)).symm⟩
        induction hi using Option.casesOn with
        | none =>
          cases h
          refine wpAny_Slice (part_int (wpAny_Constant_none' (wpAny_Constant_none' ?_)))
          have I₂:Inv w.params G.B Ω₁ σ (s₁.heap.push { cls:=.type "slice", data:=.fields #[.int la s₁.toks,.none,.none] }):=I₁.keeps fun b p=>Heap.get?_push_of_some _
          have ht:IsTup (s₁.heap.push { cls:=.type "slice", data:=.fields #[.int la s₁.toks,.none,.none] }) t its:=⟨_,I₂.fz _ _ f,rfl,n,rfl⟩
          refine tail_any (T := "tuple") (s:={ s₁ with heap:=s₁.heap.push { cls:=.type "slice", data:=.fields #[.int la s₁.toks,.none,.none] },toks:=s₁.toks + 1 }) (ops:=[.ref s₁.heap.objs.size,.ref t]) ht.typeIs slot_tuple_getitem.lookup ?_ rfl
          refine getItem_tuple_from (a:=la) (u:=s₁.toks) ht (Heap.IsSliceOf.new ..) (Int.ofNat_le.mp h1) (by rw [hlen]; exact Int.ofNat_le.mp h2) ?_ hsz
          exact Ok.adv a₁ (Ok.tupA I₁ (by simpa using r.drop la))
        | some hh =>
          obtain ⟨hh,hp⟩:=hh
          dsimp only at h
          split at h
          · rename_i hb
            rw [Bool.and_eq_true,decide_eq_true_eq,decide_eq_true_eq] at hb
            cases h
            obtain ⟨hb',rfl⟩:∃ hb:Nat,hh=(hb:Int):=⟨hh.toNat,(Int.toNat_of_nonneg (Int.le_trans (Int.natCast_nonneg _) hb.1)).symm⟩
            refine wpAny_Slice (part_int (part_int (wpAny_Constant_none' ?_)))
            have I₂:Inv w.params G.B Ω₁ σ (s₁.heap.push { cls:=.type "slice", data:=.fields #[.int la s₁.toks,.int hb' (s₁.toks + 1),.none] }):=I₁.keeps fun b p=>Heap.get?_push_of_some _
            have ht:IsTup (s₁.heap.push { cls:=.type "slice", data:=.fields #[.int la s₁.toks,.int hb' (s₁.toks + 1),.none] }) t its:=⟨_,I₂.fz _ _ f,rfl,n,rfl⟩
            refine tail_any (T := "tuple") (s:={ s₁ with heap:=s₁.heap.push { cls:=.type "slice", data:=.fields #[.int la s₁.toks,.int hb' (s₁.toks + 1),.none] },toks:=s₁.toks + 1 + 1 }) (ops:=[.ref s₁.heap.objs.size,.ref t]) ht.typeIs slot_tuple_getitem.lookup ?_ rfl
            refine getItem_tuple_ab (a:=la) (b:=hb') (u:=s₁.toks) (v:=s₁.toks + 1) ht (Heap.IsSliceOf.new ..) (Int.ofNat_le.mp h1) (Int.ofNat_le.mp hb.1) (by rw [hlen]; exact Int.ofNat_le.mp hb.2) ?_ hsz
            exact Ok.adv a₁ (Ok.tupA I₁ (by simpa using (r.take hb').drop la))
          · exact nn h
      · exact nn h
  | _=>induction lo using Option.casesOn <;> exact nn h
theorem rev_s {e:X} {p1 p2 sp p:Nat} (h:revV a σ=some (v,σ'))
    (he:wpAny (model prog w) A (eval e.toE env) (Ok w.params G.B Ω s a σ) nope s):wpAny (model prog w) A (eval (X.rev e p1 p2 sp p).toE env) (Ok w.params G.B Ω s v σ') nope s:=by
  show wpAny (model prog w) A (eval (.Subscript e.toE (.Slice none none (some (.UnaryOp .USub (.Constant (.int 1) 0 (dpos p1)) (dpos p2))) (dpos sp)) (dpos p)) env) _ _ _
  refine Subscript_ (wpAny_mono he (fun x s₁ ⟨Ω₁,a₁,I₁,r₁⟩=>?_) fun _ _ e=>e)
  induction a using V.casesOn with
  | lst vs =>
    have h:(if Internal.sizeOk vs.length then some (V.lst vs.reverse,σ) else none)=some (v,σ'):=h
    split at h
    · rename_i h3
      cases h
      obtain ⟨t,its,n,rfl,f,r⟩:=r₁
      have hlen:its.size=vs.length:=by rw [← Array.length_toList]; exact r.length
      have hsz:its.size≤sizeLine:=by rw [hlen]; exact sizeOk_le h3
      refine wpAny_Slice (wpAny_Constant_none' (wpAny_Constant_none' (wpAny_UnaryOp (wpAny_Constant_int (PyProof.Rows.neg_int ?_)))))
      have I₂:Inv w.params G.B Ω₁ σ (s₁.heap.push { cls:=.type "slice", data:=.fields #[.none,.none,.int (-1) (s₁.toks + 1)] }):=I₁.keeps fun b p=>Heap.get?_push_of_some _
      have ht:(s₁.heap.push { cls:=.type "slice", data:=.fields #[.none,.none,.int (-1) (s₁.toks + 1)] }).IsList t its:=⟨_,I₂.fz _ _ f,rfl,n,rfl⟩
      refine tail_any (T := "list") (s:={ s₁ with heap:=s₁.heap.push { cls:=.type "slice", data:=.fields #[.none,.none,.int (-1) (s₁.toks + 1)] },toks:=s₁.toks + 1 + 1 }) (ops:=[.ref t,.ref s₁.heap.objs.size]) ht.typeIs slot_list_getitem.lookup ?_ rfl
      refine wpAny_getItem_list_slice (lo:=none) (hi:=none) (st:=some (-1)) ht (Heap.IsSliceOf.new ..) .none .none (.int _ _) (by decide) ?_ hsz
      rw [pick_rev]
      exact Ok.adv a₁ (Ok.lstA I₁ (by simpa using r.reverse))
    · exact nn h
  | _=>exact nn h
end
end Internal
namespace Internal
open PySem PySem.W PyProof.Rows PySem.Calls
section
variable {P:Params} {B:Heap} {Ω:Om} {σ:S} {s:Shared} {h h':Heap} {a:Addr}
theorem Inv.but (I:Inv P B Ω σ h) (hs:Heap.ExtBut a h h') (hf:Ω.fz a=none) (hr:a ∉ Ω.rho):Inv P B Ω σ h':=by
  refine ⟨fun b o q=>hs b o (by rintro rfl; rw [hf] at q; exact nn q) (I.fz b o q),I.base,I.tab,I.len,I.nd,I.rfz,fun l o b h1 h2=>(I.objs l o b h1 h2).mono (Om.Le.refl _) fun q hq=>hs b q (by rintro rfl; exact hr (List.mem_of_getElem? h2)) hq⟩
theorem Adv.but {ex:Addr→Prop} {tk:Nat} (hs:Heap.ExtBut a s.heap h') (ha:ex a):Adv ex Ω s Ω { s with heap:=h',toks:=tk } :=
  ⟨rfl,rfl,rfl,⟨[],by simp,by simp⟩,fun _ _ h=>h,fun _ _ h=>.inl h,fun b o h n e=>hs b o (by rintro rfl; exact e ha) h⟩
theorem Inv.freshR (I:Inv P B Ω σ s.heap):s.heap.objs.size ∉ Ω.rho:=fun hm=>absurd (I.rlt hm) (Nat.lt_irrefl _)
end
inductive SeqIt (Ω:Om) (o:Array Value→Nat→Obj) (p:List Value→Prop) (q:Addr→Prop):Prop
  | mk (t:Addr) (its:Array Value) (n:Nat) (f:Ω.fz t=some (o its n)) (r:p its.toList) (h:q t)
noncomputable def IterAt (P:Params) (Ω:Om) (h:Heap) (it:Addr):V→Nat→Prop
  | .tup vs,i=>SeqIt Ω tupO (RL P Ω vs) fun t=>IsTupIter h it t i
  | .lst vs,i=>SeqIt Ω listOf (RL P Ω vs) fun t=>h.IsListIter it t i
  | .loc l,i=>∃ t,Ω.rho[l]? = some t∧h.IsListIter it t i
  | .rng n,i=>IsRangeIter h it i (n - i) 1
  | _,_=>False
noncomputable def cur (σ:S):V→Nat→Option V
  | .tup vs,i=>vs[i]?
  | .lst vs,i=>vs[i]?
  | .loc l,i=>match σ[l]? with | some (.list vs)=>vs[i]? | _=>none
  | .rng n,i=>if (i:Int) < n then some (.int i) else none
  | _,_=>none
noncomputable def goes (σ:S):V→Prop
  | .tup _=>True
  | .lst _=>True
  | .loc l=>∃ vs,σ[l]? = some (.list vs)
  | .rng n=>0≤n∧n < 1000
  | _=>False
section
variable {prog:Program} {w:World} {T:Tab} {F:Nat→Option Fn} {GL:Nat→V→Bool} {G:Base prog w T F GL}
variable {A:Around} {s:Shared} {Ω Ω':Om} {σ σ':S} {a b v:V} {x y z:Value} {n i:Nat} {c:Bool} {env:Env} {sc:Scope} {m:M} {C:Cl} {it:Addr}
theorem IterAt.alive (h:IterAt w.params Ω s.heap it v i):∃ o,s.heap.get? it=some o:=by
  induction v using V.casesOn with
  | tup vs=>obtain ⟨_,_,_,_,_,o,ho,_⟩:=h; exact ⟨o,ho⟩
  | lst vs=>obtain ⟨_,_,_,_,_,o,ho,_⟩:=h; exact ⟨o,ho⟩
  | loc l=>obtain ⟨_,_,o,ho,_⟩:=h; exact ⟨o,ho⟩
  | rng n=>exact ⟨_,h⟩
  | _=>exact h.elim
theorem IterAt.mono {h h':Heap} (x:IterAt w.params Ω h it v i) (L:Om.Le Ω Ω') (k:∀ o,h.get? it=some o→h'.get? it=some o):IterAt w.params Ω' h' it v i:=by
  induction v using V.casesOn with
  | tup vs=>obtain ⟨t,its,n,f,r,o,ho,q⟩:=x; exact ⟨t,its,n,L.fz _ _ f,r.mono L,o,k o ho,q⟩
  | lst vs=>obtain ⟨t,its,n,f,r,o,ho,q⟩:=x; exact ⟨t,its,n,L.fz _ _ f,r.mono L,o,k o ho,q⟩
  | loc l=>obtain ⟨t,f,o,ho,q⟩:=x; exact ⟨t,L.rho _ _ f,o,k o ho,q⟩
  | rng n=>exact k _ x
  | _=>exact x.elim
theorem iter_s {Q:Value→Shared→Prop} (I:Inv w.params G.B Ω σ s.heap) (ra:R w.params Ω v x) (hg:goes σ v)
    (k:∀ h',(∀ b o,s.heap.get? b=some o→h'.get? b=some o)→IterAt w.params Ω h' s.heap.objs.size v 0→Q (.ref s.heap.objs.size) { s with heap:=h' }):wpAny (model prog w) A (pyIter x) Q nope s:=by
  induction v using V.casesOn with
  | tup vs =>
    obtain ⟨t,its,n,rfl,f,r⟩:=ra
    exact iter_tuple (t:=t) (items:=its) ⟨_,I.fz _ _ f,rfl,n,rfl⟩ (k _ (fun b o=>Heap.get?_push_of_some _) ⟨t,its,n,f,r,_,Heap.get?_push_size _ rfl,rfl,rfl⟩)
  | lst vs =>
    obtain ⟨t,its,n,rfl,f,r⟩:=ra
    exact wpAny_pyIter_list (l:=t) (items:=its) ⟨_,I.fz _ _ f,rfl,n,rfl⟩ (k _ (fun b o=>Heap.get?_push_of_some _) ⟨t,its,n,f,r,_,Heap.get?_push_size _ rfl,rfl,rfl⟩)
  | loc l =>
    obtain ⟨t,rfl,f⟩:=ra
    refine e1_1 hg ?_;clear hg;intro vs hv
    refine e2_2 (I.objs _ _ _ hv f) fun its n g r=>?_
    exact wpAny_pyIter_list (l:=t) (items:=its) ⟨_,g,rfl,n,rfl⟩ (k _ (fun b o=>Heap.get?_push_of_some _) ⟨t,f,_,Heap.get?_push_size _ rfl,rfl,rfl⟩)
  | rng n =>
    obtain ⟨t,o,rfl,f,t0,u,v,rfl,h0,h1⟩:=ra
    refine wpAny_pyIter_range (I.fz _ _ f) (small_one (by decide) (by decide) (by exact Int.le_trans (by decide) h0) (by assumption)) ?_
    refine k _ (fun b o=>Heap.get?_push_of_some _) ?_
    show IsRangeIter _ _ _ _ _
    refine (Heap.get?_push_size _ rfl).trans ?_
    have e:(if (0:Int) < n then n - 0 else 0)=n - ((0:Nat):Int):=by split <;> lia
    rw [rangeSize_one,e]
    rfl
  | _=>exact hg.elim
theorem next_s {Q:Option Value→Shared→Prop} (I:Inv w.params G.B Ω σ s.heap) (hit:IterAt w.params Ω s.heap it v i) (hg:goes σ v) (hf:Ω.fz it=none) (hr:it ∉ Ω.rho) {u:V} (hc:cur σ v i=some u)
    (k:∀ h' tk val,Heap.ExtBut it s.heap h'→R w.params Ω u val→IterAt w.params Ω h' it v (i + 1)→Q (some val) { s with heap:=h',toks:=tk }):wpAny (model prog w) A (pyNext (.ref it)) Q nope s:=by
  induction v using V.casesOn with
  | tup vs =>
    obtain ⟨t,its,n,f,r,q⟩:=hit
    refine e1_2 (RL.get i r hc) fun val hv rv=>?_
    rw [Array.getElem?_toList] at hv
    exact next_tuple_item q ⟨_,I.fz _ _ f,rfl,n,rfl⟩ hv fun h' q' hs=>k h' s.toks val hs.extBut rv ⟨t,its,n,f,r,q'⟩
  | lst vs =>
    obtain ⟨t,its,n,f,r,q⟩:=hit
    refine e1_2 (RL.get i r hc) fun val hv rv=>?_
    rw [Array.getElem?_toList] at hv
    exact wpAny_pyNext_list_item q ⟨_,I.fz _ _ f,rfl,n,rfl⟩ hv fun h' q' hs=>k h' s.toks val hs.extBut rv ⟨t,its,n,f,r,q'⟩
  | loc l =>
    refine e1_2 hit ?_;clear hit;intro t f q
    refine e1_1 hg ?_;clear hg;intro vs hv
    refine e2_2 (I.objs _ _ _ hv f) fun its n g r=>?_
    have hc:vs[i]? = some u:=by simpa [cur,hv] using hc
    refine e1_2 (RL.get i r hc) fun val hv rv=>?_
    rw [Array.getElem?_toList] at hv
    exact wpAny_pyNext_list_item q ⟨_,g,rfl,n,rfl⟩ hv fun h' q' hs=>k h' s.toks val hs.extBut rv ⟨t,f,q'⟩
  | rng n =>
    have hit:IsRangeIter s.heap it i (n - i) 1:=hit
    have hc:(if (i:Int) < n then some (V.int i) else none)=some u:=hc
    split at hc
    · rename_i hlt
      cases hc
      refine wpAny_pyNext_range_item hit (by exact Int.sub_pos_of_lt hlt) fun h' q' hs=>k h' _ _ hs.extBut ⟨_,rfl⟩ ?_
      show IsRangeIter _ _ _ _ _
      have e1:((i:Int) + 1)=((i + 1:Nat):Int):=by rfl
      have e2:(n - (i:Int) - 1)=n - ((i + 1:Nat):Int):=by rw [← e1,Int.sub_sub]
      rw [e1,e2] at q'
      exact q'
    · exact nn hc
  | _=>exact hg.elim
theorem nextEnd_s {Q:Option Value→Shared→Prop} (rm:Room n A) (I:Inv w.params G.B Ω σ s.heap) (hit:IterAt w.params Ω s.heap it v i) (hg:goes σ v) (hc:cur σ v i=none)
    (k:∀ h' tk,Heap.ExtBut it s.heap h'→Q none { s with heap:=h',toks:=tk }):wpAny (model prog w) A (pyNext (.ref it)) Q nope s:=by
  have none_of:∀ {vs:List V} {its:Array Value},RL w.params Ω vs its.toList→vs[i]? = none→its[i]? = none:=by
    intro vs its r h
    have:=r.length
    rw [List.getElem?_eq_none_iff] at h
    rw [Array.getElem?_eq_none_iff,← Array.length_toList]
    rw [this]; exact h
  induction v using V.casesOn with
  | tup vs =>
    obtain ⟨t,its,n,f,r,q⟩:=hit
    exact next_tuple_end rm.hh q ⟨_,I.fz _ _ f,rfl,n,rfl⟩ (none_of r hc) fun h' hs=>k h' s.toks hs
  | lst vs =>
    obtain ⟨t,its,n,f,r,q⟩:=hit
    exact wpAny_pyNext_list_end rm.hh q ⟨_,I.fz _ _ f,rfl,n,rfl⟩ (none_of r hc) fun h' hs=>k h' s.toks hs
  | loc l =>
    refine e1_2 hit ?_;clear hit;intro t f q
    refine e1_1 hg ?_;clear hg;intro vs hv
    refine e2_2 (I.objs _ _ _ hv f) fun its n g r=>?_
    have hc:vs[i]? = none:=by simpa [cur,hv] using hc
    exact wpAny_pyNext_list_end rm.hh q ⟨_,g,rfl,n,rfl⟩ (none_of r hc) fun h' hs=>k h' s.toks hs
  | rng n =>
    have hit:IsRangeIter s.heap it i (n - i) 1:=hit
    have hc:(if (i:Int) < n then some (V.int i) else none)=none:=hc
    split at hc
    · cases hc
    · exact wpAny_pyNext_range_end rm.hh hit (by exact Int.sub_nonpos_of_le (Int.not_lt.mp (by assumption))) fun h' hs=>k h' s.toks hs
  | _=>exact hg.elim
theorem let_own (target:PySem.Expr) (val:Value) {Q:Unit→Shared→Prop} {E:Value→Shared→Prop} (hit:IterAt w.params Ω s.heap it v i) (hQ:Q () s):wpAny (model prog w) A (letOwnedTupleGo target (.ref it) val) Q E s:=by
  have go:∀ (nm:String) (flds:Array Value) (o:Obj) (t:Addr),s.heap.get? it=some o→o.cls = .type nm→o.data = .fields flds→(["enumerate", "zip", "dict_itemiterator", "dict_reverseitemiterator", "odict_iterator", "itertools.zip_longest", "itertools.pairwise"].contains nm)=false →
      wpAny (model prog w) A (do
        let o ← load it
        match o.cls,o.data with
        | .type n,.fields vs =>
          if ["enumerate", "zip", "dict_itemiterator", "dict_reverseitemiterator", "odict_iterator", "itertools.zip_longest", "itertools.pairwise"].contains n && vs[0]? == some (rawInt t) then
            rule "for.unpacks-the-owned-tuple"
            updateField it 0 .none
        | _,_=>pure ()) Q E s:=by
    intro nm flds o t ho hc hd hn
    refine wpAny_bind (wpAny_load ho ?_)
    rw [hc,hd]
    dsimp only
    rw [hn,Bool.false_and]
    exact wpAny_pure hQ
  have all:∀ (nm:String) (flds:Array Value) (o:Obj),s.heap.get? it=some o→o.cls = .type nm→o.data = .fields flds→(["enumerate", "zip", "dict_itemiterator", "dict_reverseitemiterator", "odict_iterator", "itertools.zip_longest", "itertools.pairwise"].contains nm)=false →
      wpAny (model prog w) A (letOwnedTupleGo target (.ref it) val) Q E s:=by
    intro nm flds o ho hc hd hn
    induction target using PySem.Expr.casesOn <;> first | exact wpAny_pure hQ | (induction val using PySem.Value.casesOn <;> first | exact wpAny_pure hQ | exact go nm flds o _ ho hc hd hn)
  induction v using V.casesOn with
  | tup vs=>obtain ⟨t,its,n,f,r,o,ho,hc,hd⟩:=hit; exact all _ _ o ho hc hd (by decide)
  | lst vs=>obtain ⟨t,its,n,f,r,o,ho,hc,hd⟩:=hit; exact all _ _ o ho hc hd (by decide)
  | loc l=>obtain ⟨t,f,o,ho,hc,hd⟩:=hit; exact all _ _ o ho hc hd (by decide)
  | rng n=>exact all _ _ _ hit rfl rfl (by decide)
  | _=>exact hit.elim
end
noncomputable def elems (σ:S):V→Option (List V)
  | .tup vs=>some vs
  | .lst vs=>some vs
  | .loc l=>match σ[l]? with | some (.list vs)=>some vs | _=>none
  | _=>none
section
variable {prog:Program} {w:World} {T:Tab} {F:Nat→Option Fn} {GL:Nat→V→Bool} {G:Base prog w T F GL}
variable {A:Around} {s:Shared} {Ω Ω':Om} {σ σ':S} {a b v:V} {x y z val:Value} {n i k:Nat} {c:Bool} {env:Env} {sc:Scope} {m m':M} {C:Cl} {it:Addr} {vs:List V}
theorem elems_goes (h:elems σ v=some vs):goes σ v∧∀ i,cur σ v i=vs[i]?:=by
  induction v using V.casesOn with
  | tup ws=>cases h; exact ⟨trivial,fun _=>rfl⟩
  | lst ws=>cases h; exact ⟨trivial,fun _=>rfl⟩
  | loc l =>
    have h:(match σ[l]? with | some (O.list vs)=>some vs | _=>none)=some vs:=h
    split at h
    · rename_i ws hs
      cases h
      exact ⟨⟨_,hs⟩,fun i=>by simp [cur,hs]⟩
    · exact nn h
  | _=>exact nn h
theorem draw_s:∀ (n i:Nat) (s:Shared) (Q:List Value→Shared→Prop),i + n=vs.length→Inv w.params G.B Ω σ s.heap→goes σ v→(∀ i,cur σ v i=vs[i]?)→IterAt w.params Ω s.heap it v i→Ω.fz it=none→it ∉ Ω.rho →
    (∀ h' tk vals,Heap.ExtBut it s.heap h'→RL w.params Ω (vs.drop i) vals→IterAt w.params Ω h' it v vs.length→Q vals { s with heap:=h',toks:=tk })→wpAny (model prog w) A (draw (.ref it) n) Q nope s
  | 0,i,s,Q,hn,I,hg,hc,hit,hf,hr,k=>by
    show wpAny _ _ (pure []) Q nope s
    have e:i=vs.length:=by exact hn
    subst e
    exact wpAny_pure (k s.heap s.toks [] (fun _ _ _ h=>h) (by rw [List.drop_length]; rfl) hit)
  | n + 1,i,s,Q,hn,I,hg,hc,hit,hf,hr,k=>by
    have hlt:i < vs.length:=by exact hn ▸ Nat.lt_add_of_pos_right (Nat.succ_pos _)
    show wpAny _ _ (pyNext (.ref it) >>= _) Q nope s
    refine wpAny_bind (next_s (u:=vs[i]) I hit hg hf hr ((hc i).trans (List.getElem?_eq_getElem hlt)) fun h₁ tk val hs rv hit₁=>?_)
    refine wpAny_bind (wpAny_holding (draw_s n (i + 1) _ _ (by exact (Nat.add_right_comm i 1 n).trans hn) (I.but hs hf hr) hg hc hit₁ hf hr fun h₂ tk₂ vals hs₂ rl hit₂=>wpAny_pure ?_))
    refine k h₂ tk₂ (val :: vals) (fun b o hb h=>hs₂ b o hb (hs b o hb h)) ?_ hit₂
    rw [List.drop_eq_getElem_cons hlt]
    exact ⟨val,vals,rfl,rv,rl⟩
theorem iterable_s {Q:Bool→Shared→Prop} (I:Inv w.params G.B Ω σ s.heap) (ra:R w.params Ω v x) (h:elems σ v=some vs) (hQ:Q false s):wpAny (model prog w) A (notIterableAtAll x) Q nope s:=by
  unfold notIterableAtAll
  induction v using V.casesOn with
  | tup ws=>obtain ⟨t,its,n,rfl,f,r⟩:=ra; exact wpAny_bind (wpAny_specialOf (T := "tuple") ⟨_,I.fz _ _ f,rfl⟩ slot_tuple_iter.lookup (wpAny_pure hQ))
  | lst ws=>obtain ⟨t,its,n,rfl,f,r⟩:=ra; exact wpAny_bind (wpAny_specialOf (T := "list") ⟨_,I.fz _ _ f,rfl⟩ slot_list_iter.lookup (wpAny_pure hQ))
  | loc l =>
    obtain ⟨t,rfl,f⟩:=ra
    have h:(match σ[l]? with | some (O.list vs)=>some vs | _=>none)=some vs:=h
    split at h
    · rename_i ws hs
      refine e2_2 (I.objs _ _ _ hs f) fun its n g r=>?_
      exact wpAny_bind (wpAny_specialOf (T := "list") ⟨_,g,rfl⟩ slot_list_iter.lookup (wpAny_pure hQ))
    · exact nn h
  | _=>exact nn h
theorem unpackItems_s {Q:List Value→Shared→Prop} (rm:Room k A) (I:Inv w.params G.B Ω σ s.heap) (ra:R w.params Ω v x) (h:elems σ v=some vs) (hn:n=vs.length)
    (hQ:∀ h' tk vals,Heap.ExtBut s.heap.objs.size s.heap h'→RL w.params Ω vs vals→Q vals { s with heap:=h',toks:=tk }):wpAny (model prog w) A (unpackItems x n none) Q nope s:=by
  subst hn
  refine e0_2 (elems_goes h) fun hg hc=>?_
  unfold unpackItems
  refine wpAny_bind (iterable_s I ra h ?_)
  simp only [Bool.false_eq_true,if_false]
  refine wpAny_bind (wpAny_holding (iter_s I ra hg fun h₁ k₁ hit=>?_))
  have I₁:Inv w.params G.B Ω σ h₁:=I.keeps k₁
  refine wpAny_bind (wpAny_holding (draw_s vs.length 0 { s with heap:=h₁ } _ (by simp +arith only) I₁ hg hc hit I.fresh I.freshR fun h₂ tk vals hs rl hit₂=>?_))
  rw [List.drop_zero] at rl
  rw [if_neg (by rw [rl.length]; exact Nat.lt_irrefl _)]
  have I₂:Inv w.params G.B Ω σ h₂:=I₁.but hs I.fresh I.freshR
  refine wpAny_bind (wpAny_holding (nextEnd_s (s:={ s with heap:=h₂,toks:=tk }) rm I₂ hit₂ hg ((hc _).trans (by simp)) fun h₃ tk₃ hs₃=>?_))
  simp only [Option.isSome_none,Bool.false_eq_true,if_false]
  exact wpAny_pure (hQ h₃ tk₃ vals (fun b o hb h=>hs₃ b o hb (hs b o hb (k₁ b o h))) rl)
theorem assignEach_nm (env:Env):∀ ns:List (Nat × Nat),assignEach (ns.map nmE) env=ns.map fun q=>(false,assign (nmE q) env)
  | []=>rfl
  | q :: r=>by
    show (false,assign (nmE q) env) :: assignEach (r.map nmE) env=_
    rw [assignEach_nm env r]; rfl
theorem zip_fst {t:List (Nat × Nat)} (h:vs.length=t.length):(t.zip vs).map (·.1)=t∧(t.zip vs).map (·.2)=vs :=
  ⟨by simp only [List.map_fst_zip (Nat.le_of_eq h.symm)],by simp only [List.map_snd_zip (Nat.le_of_eq h)]⟩
end
end Internal
namespace Internal
open PySem PySem.W PyProof.Rows PySem.Calls
theorem relabel_lookup {sc:Scope} {env:Env} (x:Str):(relabel sc env).names.lookup x=(sc.names.lookup x).map fun k=>if (k == .free && env.scope.kind == .function && env.kindOf x == some .cell) then .cell else k:=by
  unfold relabel
  dsimp only
  induction sc.names with
  | nil=>rfl
  | cons q r ih =>
    obtain ⟨n,k⟩:=q
    rw [List.map_cons]
    by_cases e:x=n
    · subst e
      dsimp only
      split <;> rename_i hc
      · rw [List.lookup_cons,beq_self_eq_true,List.lookup_cons,beq_self_eq_true]
        dsimp only [Option.map]
        rw [if_pos hc]
      · rw [List.lookup_cons,beq_self_eq_true,List.lookup_cons,beq_self_eq_true]
        dsimp only [Option.map]
        rw [if_neg hc]
    · have hb:(x == n)=false:=by simp [e]
      dsimp only
      split
      · rw [List.lookup_cons,hb,List.lookup_cons,hb]; exact ih
      · rw [List.lookup_cons,hb,List.lookup_cons,hb]; exact ih
theorem clos_go {env:Env}:∀ (names:List (Str × NameKind)) (acc:List (Str × Addr)),(∀ x,(x,NameKind.free) ∈ names→∃ c,env.cells.lookup x=some c)→(∀ x c,acc.lookup x=some c→env.cells.lookup x=some c) →
    ∃ cl,(forIn names acc fun x cs=>(do
      let mut cs:=cs
      if x.2 == .free then cs:=(x.1,← cellOf env x.1) :: cs
      pure (ForInStep.yield cs):Sem (ForInStep (List (Str × Addr)))))=pure cl∧(∀ x c,cl.lookup x=some c→env.cells.lookup x=some c)∧(∀ x,((x,NameKind.free) ∈ names ∨ (acc.lookup x).isSome=true)→(cl.lookup x).isSome=true)
  | [],acc,_,ha=>⟨acc,by rw [List.forIn_nil],ha,fun x h=>h.elim (fun h=>by cases h) id⟩
  | (n,k) :: r,acc,h,ha=>by
    by_cases hk:k = .free
    · subst hk
      refine e1_1 (h n List.mem_cons_self) fun c hc=>?_
      refine e1_3 (clos_go r ((n,c) :: acc) (fun x hx=>h x (List.mem_cons_of_mem _ hx)) (fun x c' hx=>by
        by_cases e:x=n
        · subst e; rw [List.lookup_cons,beq_self_eq_true] at hx; cases hx; exact hc
        · have hb:(x == n)=false:=by simp [e]
          rw [List.lookup_cons,hb] at hx; exact ha x c' hx)) fun cl e1 e2 e3=>?_
      refine ⟨cl,?_,e2,fun x hx=>?_⟩
      · rw [List.forIn_cons]
        unfold cellOf
        rw [hc]
        exact e1
      · refine e3 x ?_
        by_cases e:x=n
        · subst e; right; simp [List.lookup_cons]
        · have hb:(x == n)=false:=by simp [e]
          rcases hx with hx | hx
          · rcases List.mem_cons.mp hx with q | q
            · cases q; exact absurd rfl e
            · exact .inl q
          · right; rw [List.lookup_cons,hb]; exact hx
    · refine e1_3 (clos_go r acc (fun x hx=>h x (List.mem_cons_of_mem _ hx)) ha) fun cl e1 e2 e3=>?_
      refine ⟨cl,?_,e2,fun x hx=>?_⟩
      · rw [List.forIn_cons]
        have hb:(k == NameKind.free)=false:=by simp [hk]
        dsimp only
        rw [hb]
        exact e1
      · refine e3 x ?_
        rcases hx with hx | hx
        · rcases List.mem_cons.mp hx with q | q
          · cases q; exact absurd rfl hk
          · exact .inl q
        · exact .inr hx
theorem clos_ok {sc:Scope} {env:Env} (h:∀ x,(x,NameKind.free) ∈ sc.names→∃ c,env.cells.lookup x=some c):∃ cl,closureFor sc env=pure cl∧∀ x,(x,NameKind.free) ∈ sc.names→cl.lookup x=env.cells.lookup x:=by
  refine e1_3 (clos_go (env:=env) sc.names [] h (fun x c hx=>by exact nn hx)) fun cl e1 e2 e3=>?_
  refine ⟨cl,?_,fun x hx=>?_⟩
  · unfold closureFor
    refine Eq.trans ?_ e1
    simp only [bind_pure]
  · refine e1_1 (Option.isSome_iff_exists.mp (e3 x (.inl hx))) fun c hc=>?_
    rw [hc,e2 x c hc]
noncomputable def strip (t:List (Nat × Nat)) (m:M):M:=m.filter fun q=>!(t.any fun x=>x.1 == q.1)
theorem look_strip {t:List (Nat × Nat)} {n:Nat}:∀ m:M,look (strip t m) n=if (t.any fun x=>x.1 == n) then none else look m n
  | []=>by simp [strip,look]
  | (k,v) :: r=>by
    have ih:=look_strip (t:=t) (n:=n) r
    unfold strip at ih ⊢
    rw [List.filter_cons]
    by_cases h:(t.any fun x=>x.1 == k)
    · simp only [h,Bool.not_true,Bool.false_eq_true,if_false]
      rw [ih]
      by_cases e:k=n
      · subst e; simp [h]
      · simp [look_if,e]
    · rw [Bool.not_eq_true] at h
      simp only [h,Bool.not_false,if_true]
      rw [look_if,look_if]
      by_cases e:k=n
      · subst e; simp [h]
      · simp only [e,if_false]; exact ih
theorem fzm {Ω Ω':Om} (le:Om.Le Ω Ω') {h':Heap} (k:∀ a o,Ω'.fz a=some o→h'.get? a=some o):∀ a o,Ω.fz a=some o→h'.get? a=some o:=fun a o q=>k a o (le.fz a o q)
theorem compOk_parts {sc sc':Scope} {t:List (Nat × Nat)} (h:compOk sc sc' t=true):sc'.kind = .function∧(∀ y ∈ sc'.names,y.2 ≠ .cell∧(y.2 = .local→sc'.names.lookup y.1=some .local)∧(y.2 = .free→sc.names.lookup y.1=some .cell)∧(y.2 = .local→y.1=dec 0x2e30 ∨ ∃ x ∈ t,dec x.1=y.1))∧∀ x ∈ t,sc'.names.lookup (dec x.1)=some .local∧nok x.1=true:=by
  unfold compOk at h
  rw [Bool.and_eq_true,Bool.and_eq_true] at h
  refine e0_3 h ?_;clear h;intro h1 h2 h3
  refine ⟨beq_iff_eq.mp h1,fun y hy=>?_,fun x hx=>?_⟩
  · have:=List.all_eq_true.mp h2 y hy
    simp only [Bool.and_eq_true,bne_iff_ne,ne_eq,Bool.or_eq_true,beq_iff_eq,List.any_eq_true] at this
    refine e0_4 this ?_;clear this;intro a b c d
    exact ⟨a,fun e=>b.resolve_left fun q=>q e,fun e=>c.resolve_left fun q=>q e,fun e=>d.resolve_left fun q=>q e⟩
  · have:=List.all_eq_true.mp h3 x hx
    rw [Bool.and_eq_true] at this
    exact ⟨beq_iff_eq.mp this.1,this.2⟩
section
variable {P:Params} {Ω Ω':Om} {h h':Heap} {env:Env} {m m':M}
theorem LR.congr (L:LR P Ω h env m) (e:∀ n,look m n=look m' n):LR P Ω h env m':=by
  obtain ⟨k,g,b,ks,⟨mm,hn,hm⟩,c,lq,f,r⟩:=L
  exact ⟨k,g,b,fun n v h=>ks n v ((e n).trans h),⟨mm,hn,fun n v h=>hm n v ((e n).trans h)⟩,fun n v h=>c n v ((e n).trans h),lq,f,r⟩
theorem lr_comp {sc sc':Scope} {t:List (Nat × Nat)} {cl:List (Str × Addr)} {C:Addr} {mm:Str→Option Value} (L:LR P Ω h env m) (le:Om.Le Ω Ω') (hok:compOk sc sc' t=true) (hsc:SC sc env) (hcl:∀ x,(x,NameKind.free) ∈ sc'.names→cl.lookup x=env.cells.lookup x)
    (hn:h'.Ns C mm) (hf:Ω'.fz C=none) (hr:C ∉ Ω'.rho):LR P Ω' h' (compEnvC sc' cl C env) (strip t m):=by
  refine e0_3 (compOk_parts hok) fun p1 p2 p3=>?_
  have kd:∀ x,(compEnvC sc' cl C env).kindOf x=(sc'.names.lookup x).map fun k=>if (k == .free && env.scope.kind == .function && env.kindOf x == some .cell) then .cell else k:=fun x=>relabel_lookup x
  have nl:∀ n v,look (strip t m) n=some v→look m n=some v∧(t.any fun x=>x.1 == n)=false:=fun n v hv=>by
    rw [look_strip] at hv
    split at hv
    · exact nn hv
    · rename_i q; exact ⟨hv,by rw [Bool.not_eq_true] at q; exact q⟩
  refine ⟨p1,L.glob,L.bltn,fun n v hv=>L.keys n v (nl n v hv).1,⟨mm,hn,fun n v hv hk=>?_⟩,fun n v hv hk=>?_,⟨fun hq=>?_,fun x hx=>?_⟩,hf,hr⟩
  · exfalso
    refine e0_2 (nl n v hv) fun h1 h2=>?_
    refine e0_2 (L.keys n v h1) fun k1 k2=>?_
    rw [kd] at hk
    cases hl:sc'.names.lookup (dec n) with
    | none=>rw [hl] at hk; exact nn hk
    | some k =>
      rw [hl] at hk
      have hk:(if (k == .free && env.scope.kind == .function && env.kindOf (dec n) == some .cell) then NameKind.cell else k) = .local:=Option.some.inj hk
      split at hk
      · cases hk
      · subst hk
        rcases (p2 _ (mem_of_lookup hl)).2.2.2 rfl with e | ⟨x,hx,e⟩
        · exact k2 (dec_inj k1 (by decide +kernel) e)
        · have:=dec_inj (nok_lim (p3 x hx).2).1 k1 e
          have:(t.any fun x=>x.1 == n)=true:=List.any_eq_true.mpr ⟨x,hx,by simp [this]⟩
          rw [h2] at this; exact ff this
  · refine e0_2 (nl n v hv) fun h1 _=>?_
    rw [kd] at hk
    cases hl:sc'.names.lookup (dec n) with
    | none=>rw [hl] at hk; rcases hk with hk | hk <;> exact nn hk
    | some k =>
      rw [hl] at hk
      have hmem:=mem_of_lookup hl
      have kf:k = .free:=by
        rcases hk with hk | hk
        · have hk:(if (k == .free && env.scope.kind == .function && env.kindOf (dec n) == some .cell) then NameKind.cell else k) = .cell:=Option.some.inj hk
          split at hk
          · rename_i q; simp only [Bool.and_eq_true,beq_iff_eq] at q; exact q.1.1
          · exact absurd hk (p2 _ hmem).1
        · have hk:(if (k == .free && env.scope.kind == .function && env.kindOf (dec n) == some .cell) then NameKind.cell else k) = .free:=Option.some.inj hk
          split at hk
          · cases hk
          · exact hk
      subst kf
      have hc:env.kindOf (dec n)=some .cell:=hsc.cell _ ((p2 _ hmem).2.2.1 rfl)
      refine e3_4 (L.cel n v h1 (.inl hc)) fun c o val h2 h3 h4 rv=>?_
      exact ⟨c,o,val,(hcl _ hmem).trans h2,le.fz _ _ h3,h4,rv.mono le⟩
  · rw [kd] at hq
    cases hl:sc'.names.lookup (dec plN) with
    | none=>rw [hl] at hq; exact nn hq
    | some k =>
      rw [hl] at hq
      have hq:(if (k == .free && env.scope.kind == .function && env.kindOf (dec plN) == some .cell) then NameKind.cell else k) = .cell:=Option.some.inj hq
      split at hq
      · rename_i q
        simp only [Bool.and_eq_true,beq_iff_eq] at q
        obtain ⟨h1,c,h2,h3⟩:=L.lamq.1 q.2
        exact ⟨h1,c,h2,fun h' k=>h3 h' (fzm le k)⟩
      · exact absurd hq (p2 _ (mem_of_lookup hl)).1
  · rw [kd] at hx
    cases hl:sc'.names.lookup x with
    | none=>rw [hl] at hx; exact nn hx
    | some k =>
      rw [hl] at hx
      have hx:(if (k == .free && env.scope.kind == .function && env.kindOf x == some .cell) then NameKind.cell else k) = .cell:=Option.some.inj hx
      split at hx
      · rename_i q
        simp only [Bool.and_eq_true,beq_iff_eq] at q
        refine e0_2 q ?_;clear q;rintro ⟨q1,_⟩ q2
        subst q1
        refine e1_1 (L.lamq.2 x q2) fun c hc=>?_
        exact ⟨c,(hcl _ (mem_of_lookup hl)).trans hc⟩
      · exact absurd hx (p2 _ (mem_of_lookup hl)).1
theorem sc_comp {sc sc':Scope} {t:List (Nat × Nat)} {cl:List (Str × Addr)} {C:Addr} (hok:compOk sc sc' t=true):SC sc' (compEnvC sc' cl C env):=by
  refine e0_3 (compOk_parts hok) fun p1 p2 p3=>?_
  have kd:∀ x,(compEnvC sc' cl C env).kindOf x=(sc'.names.lookup x).map fun k=>if (k == .free && env.scope.kind == .function && env.kindOf x == some .cell) then .cell else k:=fun x=>relabel_lookup x
  refine ⟨fun x hx=>?_,fun x hx=>absurd rfl (p2 _ (mem_of_lookup hx)).1,fun x hx=>?_,fun x hx=>?_⟩
  · rw [kd,hx]; rfl
  · rw [kd,hx]; rfl
  · rw [kd,hx]
    dsimp only [Option.map]
    split
    · exact .inl rfl
    · exact .inr rfl
end
end Internal
namespace Internal
open PySem PySem.W PyProof.Rows PySem.Calls
theorem look_put' {n:Nat} {v:V}:∀ (m:M) (k:Nat),look (put m n v) k=if n=k then some v else look m k
  | [],k=>look_if
  | (j,w) :: r,k=>by
    rw [put_if]
    by_cases h:j=n
    · subst h
      rw [if_pos rfl]
      rw [look_if,look_if]
      by_cases e:j=k <;> simp [e]
    · rw [if_neg h]
      rw [look_if,look_if]
      by_cases e:j=k
      · subst e
        rw [if_pos rfl,if_pos rfl,if_neg (Ne.symm h)]
      · rw [if_neg e,if_neg e]
        exact look_put' r k
section
variable {prog:Program} {w:World} {T:Tab} {F:Nat→Option Fn} {GL:Nat→V→Bool} {G:Base prog w T F GL}
variable {A:Around} {s:Shared} {Ω Ω':Om} {σ σ':S} {a b v:V} {x y z val:Value} {n i k:Nat} {c:Bool} {env:Env} {sc:Scope} {m m':M} {C:Cl} {it:Addr} {vs:List V}
theorem LR.store (L:LR w.params Ω s.heap env m) (hk:env.kindOf (dec k)=some .local) (hlim:NL k) (rv:R w.params Ω v val) {Q:Unit→Shared→Prop}
    (hQ:∀ h' tk,Heap.SameBut env.locals s.heap h'→LR w.params Ω h' env (put m k v)→Q () { s with heap:=h',toks:=tk }):wpAny (model prog w) A (storeName env (dec k) val) Q nope s:=by
  obtain ⟨kd,g,bl,ks,⟨mm,hn,hm⟩,c,lq,f,r⟩:=L
  refine wpAny_storeName_local hk hn (fun h' hn' hs=>hQ h' _ hs ?_) (by rw [kd]; rfl)
  refine ⟨kd,g,bl,fun n u h=>?_,⟨_,hn',fun n u h hl=>?_⟩,fun n u h hl=>?_,lq,f,r⟩
  · rw [look_put'] at h
    split at h
    · rename_i e; subst e; exact hlim
    · exact ks n u h
  · rw [look_put'] at h
    split at h
    · rename_i e; subst e; cases h; exact ⟨val,if_pos rfl,rv⟩
    · rename_i hne
      refine e1_2 (hm n u h hl) fun val' e rv'=>?_
      exact ⟨val',(if_neg fun q=>hne (dec_inj hlim.1 (ks n u h).1 q.symm)).trans e,rv'⟩
  · rw [look_put'] at h
    split at h
    · rename_i e; subst e; rw [hk] at hl; rcases hl with hl | hl <;> cases hl
    · exact c n u h hl
theorem storesC_s:∀ (l:List ((Nat × Nat) × V)) (vals:List Value) (m:M) (s:Shared) (Q:Unit→Shared→Prop),LR w.params Ω s.heap env m→(∀ q ∈ l,env.kindOf (dec q.1.1)=some .local∧NL q.1.1)→RL w.params Ω (l.map (·.2)) vals →
    (∀ h' tk,Heap.SameBut env.locals s.heap h'→LR w.params Ω h' env (l.foldl (fun m q=>put m q.1.1 q.2) m)→Q () { s with heap:=h',toks:=tk }) →
      wpAny (model prog w) A (assignInOrder (l.map fun q=>assign (nmE q.1) env) vals) Q nope s
  | [],vals,m,s,Q,L,_,_,hQ=>PyProof.Rows.assignInOrder_nil (hQ s.heap s.toks (Heap.SameBut.refl ..) L)
  | q :: l,vals,m,s,Q,L,hq,⟨v,r,e,rv,rl⟩,hQ=>by
    subst e
    refine PyProof.Rows.assignInOrder_cons (PyProof.Rows.assign_Name (L.store (hq q List.mem_cons_self).1 (hq q List.mem_cons_self).2 rv fun h₁ tk hs L₁=>?_))
    exact storesC_s l r _ { s with heap:=h₁,toks:=tk } Q L₁ (fun p hp=>hq p (List.mem_cons_of_mem _ hp)) rl fun h₂ tk₂ hs₂ L₂=>hQ h₂ tk₂ (hs.trans hs₂) L₂
theorem look_fold {n:Nat}:∀ (l:List ((Nat × Nat) × V)) (m m':M),(look m n=look m' n ∨ ∃ q ∈ l,q.1.1=n)→look (l.foldl (fun m q=>put m q.1.1 q.2) m) n=look (l.foldl (fun m q=>put m q.1.1 q.2) m') n
  | [],m,m',h=>h.elim id fun ⟨_,hq,_⟩=>by cases hq
  | q :: l,m,m',h=>by
    refine look_fold l _ _ ?_
    by_cases e:q.1.1=n
    · left; rw [look_put',look_put',if_pos e,if_pos e]
    · rcases h with h | ⟨p,hp,hpe⟩
      · left; rw [look_put',look_put',if_neg e,if_neg e,h]
      · rcases List.mem_cons.mp hp with rfl | hp
        · exact absurd hpe e
        · exact .inr ⟨p,hp,hpe⟩
theorem targetC_s {t:List (Nat × Nat)} {tp:Option (Nat × Nat)} {Q:Unit→Shared→Prop} (rm:Room n A) (I:Inv w.params G.B Ω σ s.heap) (L:LR w.params Ω s.heap env (strip t m)) (ht:∀ x ∈ t,env.kindOf (dec x.1)=some .local∧NL x.1) (rv:R w.params Ω v val) (h:bindT t tp v m=some m')
    (hQ:∀ h' tk,(∀ b o,b≠env.locals→s.heap.get? b=some o→h'.get? b=some o)→Inv w.params G.B Ω σ h'→LR w.params Ω h' env m'→Q () { s with heap:=h',toks:=tk }) :
    wpAny (model prog w) A (assign (tgE t tp) env val) Q nope s:=by
  have inv:∀ {h':Heap},(∀ b o,b≠env.locals→s.heap.get? b=some o→h'.get? b=some o)→Inv w.params G.B Ω σ h':=fun hk=>I.but (fun b o hb h=>hk b o hb h) L.lfz L.lrho
  have agree:∀ {n:Nat},look (strip t m) n=look m n ∨ ∃ x ∈ t,x.1=n:=fun {n}=>by
    rw [look_strip]
    by_cases q:(t.any fun x=>x.1 == n)=true
    · refine e1_2 (List.any_eq_true.mp q) fun x hx e=>?_
      exact .inr ⟨x,hx,beq_iff_eq.mp e⟩
    · left; rw [if_neg q]
  induction tp using Option.casesOn with
  | none =>
    induction t using List.casesOn with
    | nil=>exact nn h
    | cons q r =>
      induction r using List.casesOn with
      | cons _ _=>exact nn h
      | nil =>
        cases h
        refine e0_2 (ht q List.mem_cons_self) fun k1 k2=>?_
        refine PyProof.Rows.assign_Name (L.store k1 k2 rv fun h' tk hs L'=>hQ h' tk hs.extBut (inv hs.extBut) (L'.congr fun n=>?_))
        rw [look_put',look_put']
        split
        · rfl
        · rename_i hne
          rcases agree (n:=n) with e | ⟨x,hx,e⟩
          · exact e
          · rw [List.mem_singleton] at hx; subst hx; exact absurd e hne
  | some q =>
    have go:∀ vs,elems σ v=some vs→vs.length=t.length→m'=(t.zip vs).foldl (fun m q=>put m q.1.1 q.2) m→wpAny (model prog w) A (assign (tgE t (some q)) env val) Q nope s:=by
      intro vs he hl hm
      refine e0_2 (zip_fst hl) fun z1 z2=>?_
      show wpAny _ _ (assign (.Tuple (t.map nmE) q.1 (dpos q.2)) env val) _ _ _
      rw [PyProof.Rows.assign_Tuple,assignEach_nm]
      refine wpAny_bind (wpAny_standAt ?_)
      unfold unpack
      have hfi:(t.map fun q=>(false,assign (nmE q) env)).findIdx? (·.1)=none:=by simp [List.findIdx?_eq_none_iff]
      rw [hfi]
      refine wpAny_bind (wpAny_holding (unpackItems_s rm I rv he (by simp [hl]) fun h₁ tk vals hs rl=>?_))
      have hlt:=L.ns
      refine e1_2 L.ns fun mm hn _=>?_
      have nl:env.locals≠s.heap.objs.size:=Nat.ne_of_lt hn.lt
      have I₁:=I.but hs I.fresh I.freshR
      have L₁:LR w.params Ω h₁ env (strip t m):=by
        obtain ⟨kd,g,bl,ks,⟨mm,⟨o,es,ep,ho,r⟩,hm⟩,c,lq,f,r2⟩:=L
        exact ⟨kd,g,bl,ks,⟨mm,⟨o,es,ep,hs _ _ nl ho,r⟩,hm⟩,c,lq,f,r2⟩
      have e1:((t.zip vs).map fun q=>assign (nmE q.1) env)=(t.map fun q=>(false,assign (nmE q) env)).map (·.2):=by
        rw [List.map_map,show ((fun q:(Nat × Nat) × V=>assign (nmE q.1) env))=(fun q:Nat × Nat=>assign (nmE q) env) ∘ (·.1) from rfl,← List.map_map,z1]; rfl
      rw [← e1]
      refine storesC_s (t.zip vs) vals _ { s with heap:=h₁,toks:=tk } Q L₁ (fun q hq=>ht q.1 (List.of_mem_zip hq).1) (by rw [z2]; exact rl) fun h₂ tk₂ hs₂ L₂=>?_
      have keep:∀ b o,b≠env.locals→s.heap.get? b=some o→h₂.get? b=some o:=fun b o hb h=>hs₂.extBut b o hb (hs b o (Nat.ne_of_lt (Heap.lt_size h)) h)
      refine hQ h₂ tk₂ keep (inv keep) (L₂.congr fun n=>?_)
      rw [hm]
      refine look_fold _ _ _ ?_
      rcases agree (n:=n) with e | ⟨x,hx,e⟩
      · exact .inl e
      · right
        rw [← z1] at hx
        refine e1_2 (List.mem_map.mp hx) fun p hp e2=>?_
        exact ⟨p,hp,by rw [e2]; exact e⟩
    induction v using V.casesOn with
    | tup vs =>
      have h:(if vs.length=t.length then some ((t.zip vs).foldl (fun m q=>put m q.1.1 q.2) m) else none)=some m':=h
      split at h
      · rename_i hl; exact go vs rfl hl (Option.some.inj h).symm
      · exact nn h
    | lst vs =>
      have h:(if vs.length=t.length then some ((t.zip vs).foldl (fun m q=>put m q.1.1 q.2) m) else none)=some m':=h
      split at h
      · rename_i hl; exact go vs rfl hl (Option.some.inj h).symm
      · exact nn h
    | _=>exact nn h
end
end Internal
namespace Internal
open PySem PySem.W PyProof.Rows PySem.Calls
section
variable {prog:Program} {w:World} {A:Around} {R':Result→Shared→Prop} {s:Shared}
theorem compLoop2 {elt target iter:PySem.Expr} {scope:Scope} {pos:Pos} {it acc:Value} {env:Env} (I:Nat→Shared→Prop)
    (turn:∀ n s,I n s→wpAny (model prog w) A (pyNext it) (fun r s₁=>match r with
      | none=>R' (.ok .next) s₁
      | some v=>wpAny (model prog w) A (letOwnedTupleGo target it v) (fun _ s₁=>wpAny (model prog w) A (assign target env v) (fun _ s₂=>wpAny (model prog w) A (eval elt env) (fun x s₃ =>
          wpAny (model prog w) A (call (.builtin "list.append") [acc,x]) (fun _ s₄=>∃ m,m < n∧I m s₄) nope s₃) nope s₂) nope s₁) nope s₁) nope s)
    (n:Nat) (h:I n s):codeAny (model prog w) A (.compLoop (.ListComp elt [⟨target,iter,[],0⟩] scope pos) 0 it acc env) R' s:=by
  refine codeAny_loop rfl I (fun n s hI=>?_) n h
  show wpAny _ _ ((compTurn (.ListComp elt [⟨target,iter,[],0⟩] scope pos) 0 it acc env).onRaise (fun x=>do noteFrame x env; theTreesLotGoes x)) _ _ s
  refine wpAny_noted ?_
  rw [compTurn_list1]
  refine wpAny_bind (wpAny_standAt (wpAny_bind (wpAny_mono (turn n s hI) (fun r s₁ h₁=>?_) fun _ _ h'=>h'.elim)))
  induction r using Option.casesOn with
  | none=>exact wpAny_pure h₁
  | some v =>
    refine wpAny_bind (wpAny_mono h₁ (fun _ s₁ h₁=>?_) fun _ _ h'=>h'.elim)
    exact wpAny_bind (wpAny_mono h₁ (fun _ s₂ h₂=>wpAny_bind (wpAny_bind (wpAny_mono h₂ (fun x s₃ h₃=>wpAny_bind (wpAny_mono h₃
      (fun _ s₄ h₄=>wpAny_pure (wpAny_pure ⟨rfl,h₄⟩)) fun _ _ h'=>h'.elim)) fun _ _ h'=>h'.elim))) fun _ _ h'=>h'.elim)
end
section
variable {prog:Program} {w:World} {T:Tab} {F:Nat→Option Fn} {GL:Nat→V→Bool} {G:Base prog w T F GL}
variable {A:Around} {s:Shared} {Ω Ω':Om} {σ σ':S} {a b v:V} {x y z val:Value} {n i k:Nat} {c:Bool} {env:Env} {sc:Scope} {m m':M} {C:Cl} {it:Addr} {vs:List V}
theorem ok_step' {α:Type} {t:Sem α} {k:α→Shared→Prop} {P':α→Shared→Prop} (h:wpAny (model prog w) A t P' nope s) (hk:∀ v s',P' v s'→k v s'):wpAny (model prog w) A t k nope s:=wpAny_mono h hk fun _ _ e=>e
theorem itemsC_some {o:V} (h:itemsC o=some vs):(∀ σ,goes σ o)∧(∀ σ i,cur σ o i=vs[i]?)∧vs.length≤sizeLine:=by
  induction o using V.casesOn with
  | tup ws =>
    have h:(if sizeOk ws.length then some ws else none)=some vs:=h
    split at h
    · rename_i hz; cases h; exact ⟨fun _=>trivial,fun _ _=>rfl,sizeOk_le hz⟩
    · exact nn h
  | lst ws =>
    have h:(if sizeOk ws.length then some ws else none)=some vs:=h
    split at h
    · rename_i hz; cases h; exact ⟨fun _=>trivial,fun _ _=>rfl,sizeOk_le hz⟩
    · exact nn h
  | _=>exact nn h
theorem iterSelf_s {o:V} {Q:Value→Shared→Prop} {E:Value→Shared→Prop} (h:itemsC o=some vs) (hit:IterAt w.params Ω s.heap it o i) (hQ:Q (.ref it) s):wpAny (model prog w) A (pyIter (.ref it)) Q E s:=by
  induction o using V.casesOn with
  | tup ws =>
    obtain ⟨t,its,n,f,r,o,ho,hc,hd⟩:=hit
    have hT:s.TypeIs (.ref it) "tuple_iterator" := ⟨o,ho,hc⟩
    refine wpAny_pyIter_slot hT PySem.F.slot_tuple_iterator_iter (wpAny_call_entry PySem.F.slot_tuple_iterator_iter hT PySem.F.entry_tuple_iterator_iter ?_ (PySem.F.args_tuple_iterator_iter_1 _))
    show wpAny _ _ (ret (.ref it)) _ _ s
    exact wpAny_pure ⟨_,rfl, "tuple_iterator", _,hT,slot_tupleiter_next.lookup,hQ⟩
  | lst ws=>obtain ⟨t,its,n,f,r,q⟩:=hit; exact wpAny_pyIter_listiter q hQ
  | _=>exact nn h
theorem compL_drop {f:V→S→Option (V × S)} {outs:List V} (hlt:i < vs.length) (h:compL f (vs.drop i) σ=some (outs,σ')):∃ q r,f vs[i] σ=some q∧compL f (vs.drop (i + 1)) q.2=some (r,σ')∧outs=q.1 :: r:=by
  rw [List.drop_eq_getElem_cons hlt] at h
  refine bse h fun q h1 h2=>?_
  refine mse h2 fun z h3 h4=>?_
  cases h4
  exact ⟨q,z.1,h1,h3,rfl⟩
inductive CompI (G:Base prog w T F GL) (vs outs:List V) (f:V→S→Option (V × S)) (σ₂:S) (s₁:Shared) (Ω₁:Om) (it D Cc:Addr) (iv:V) (n:Nat) (s':Shared):Prop
  | mk (i:Nat) (Ω':Om) (σ':S) (done rest:List V) (its:Array Value) (k:Nat) (mm:Str→Option Value) (e:n=vs.length - i) (h1:i≤vs.length) (h2:compL f (vs.drop i) σ'=some (rest,σ₂)) (h3:outs=done++rest) (h4:its.size=i) (h5:RL w.params Ω' done its.toList)
    (h6:Adv (fun a=>s₁.heap.get? a=none) Ω₁ s₁ Ω' s') (h7:Inv w.params G.B Ω' σ' s'.heap) (h8:IterAt w.params Ω' s'.heap it iv i) (h9:s'.heap.get? D=some (listOf its k)) (h10:s'.heap.Ns Cc mm)
    (f1:Ω'.fz it=none) (f2:it ∉ Ω'.rho) (f3:Ω'.fz D=none) (f4:D ∉ Ω'.rho) (f5:Ω'.fz Cc=none) (f6:Cc ∉ Ω'.rho)
theorem comp_core {e itx:X} {t:List (Nat × Nat)} {tp:Option (Nat × Nat)} {sc':Scope} {p:Nat} {ppos:Pos} {use:Option (Value→Sem Unit)} {Q:Value→Shared→Prop} {iv:V} {σ₁ σ₂:S} {outs:List V} (ihe:EvP G n C e) (ihi:EvP G n C itx)
    (h1:ev T C itx m σ=some (iv,σ₁)) (h2:itemsC iv=some vs) (h3:compL (fun v σ=>(bindT t tp v m).bind fun m'=>ev T C e m' σ) vs σ₁=some (outs,σ₂))
    (rm:Room n A) (L:LR w.params Ω s.heap env m) (hsc:SC sc env) (hwi:wf GL sc itx=true) (hwe:wf GL sc' e=true) (hok:compOk sc sc' t=true) (I:Inv w.params G.B Ω σ s.heap)
    (fin:∀ (s':Shared) (Ω':Om) (D C':Addr) (its:Array Value) (k:Nat) (mm:Str→Option Value),Adv no Ω s Ω' s'→Inv w.params G.B Ω' σ₂ s'.heap→s'.heap.get? D=some (listOf its k)→RL w.params Ω' outs its.toList→Ω'.fz D=none→D ∉ Ω'.rho→s.heap.get? D=none →
      s'.heap.Ns C' mm→Ω'.fz C'=none→C' ∉ Ω'.rho→s.heap.get? C'=none→C'≠D→compPost (model prog w) A nope use Q (.ref D) C' (.ok .next) s') :
    wpAny (model prog w) A (comprehension (X.comp e t tp itx sc' p).toE sc' env ppos (newList []) false (eval itx.toE env) use) Q nope s:=by
  refine e0_3 (compOk_parts hok) fun p1 p2 p3=>?_
  refine e1_2 (clos_ok (sc:=sc') (env:=env) fun x hx=>L.lamq.2 x (hsc.cell _ ((p2 _ hx).2.2.1 rfl))) fun cl hcl hclE=>?_
  refine e0_3 (itemsC_some h2) fun g1 g2 hvs=>?_
  refine wpAny_comprehension_free (g:=⟨tgE t tp,itx.toE,[],0⟩) (gs:=[]) rfl (by induction itx using X.casesOn <;> first | (intro _; rfl) | (exact ff hwi; done)) hcl p1 (fun y hy=>(p2 y hy).2.1) ?_
  refine wpAny_mono (ihi h1 rm L hsc hwi I) (fun xv s₁ ⟨Ω₁,a₁,I₁,r₁⟩=>?_) fun _ _ e=>e
  have L₁:=L.adv a₁
  refine iter_s I₁ r₁ (g1 _) fun h₂ hk₂ hit=>?_
  have I₂:Inv w.params G.B Ω₁ σ₁ h₂:=I₁.keeps hk₂
  have itf:=I₁.fresh
  have itr:=I₁.freshR
  refine e1_1 (IterAt.alive (s:={ s₁ with heap:=h₂ }) hit) fun oi hoi=>?_
  show wpAny _ _ (newObj (.type "list") (.seq #[])) _ _ { s₁ with heap:=h₂ }
  refine wpAny_newObj_type ?_ (by show (0:Nat)≤sizeLine; exact Nat.zero_le _)
  refine wpAny_newFunctionEnv (fun x hx=>(p2 x hx).1) (fun x hx=>by cases hx) (fun h₄ hn₄ hs₄=>?_) p1
  have toA:∀ b o,h₂.get? b=some o→h₄.get? b=some o:=fun b o hb=>by
    have hlt:=Heap.lt_size hb
    refine hs₄.extBut b o ?_ (Heap.get?_push_of_some _ (Heap.get?_push_of_some _ hb))
    rw [Heap.size_push]; exact Nat.ne_of_lt (Nat.lt_succ_of_lt hlt)
  have hDC:h₂.objs.size≠(h₂.push { cls:=.type "list", data:=.seq #[] }).objs.size:=by rw [Heap.size_push]; exact Nat.ne_of_lt (Nat.lt_succ_self _)
  have hD₄:h₄.get? h₂.objs.size=some (listOf #[] 0):=hs₄.extBut _ _ hDC (Heap.get?_push_of_some _ (Heap.get?_push_size _ rfl))
  have hitD:s₁.heap.objs.size≠h₂.objs.size:=Nat.ne_of_lt (Heap.lt_size hoi)
  have hitC:s₁.heap.objs.size≠(h₂.push { cls:=.type "list", data:=.seq #[] }).objs.size:=by rw [Heap.size_push]; exact Nat.ne_of_lt (Nat.lt_succ_of_lt (Heap.lt_size hoi))
  have hge:∀ a,h₂.objs.size≤a→s₁.heap.get? a=none∧Ω₁.fz a=none∧a ∉ Ω₁.rho:=fun a ha=>by
    refine ⟨?_,?_,fun hm=>absurd (Inv.rlt (s:={ s₁ with heap:=h₂ }) I₂ hm) (Nat.not_lt.mpr ha)⟩
    · cases q:s₁.heap.get? a with
      | none=>rfl
      | some o=>exact absurd (Heap.lt_size (hk₂ a o q)) (Nat.not_lt.mpr ha)
    · cases q:Ω₁.fz a with
      | none=>rfl
      | some o=>exact absurd (Heap.lt_size (I₂.fz a o q)) (Nat.not_lt.mpr ha)
  refine e0_3 (hge h₂.objs.size (Nat.le_refl _)) fun d1 d2 d3=>?_
  refine e0_3 (hge (h₂.push { cls:=.type "list", data:=.seq #[] }).objs.size (by rw [Heap.size_push]; exact Nat.le_succ _)) fun c1 c2 c3=>?_
  have i1:s₁.heap.get? s₁.heap.objs.size=none:=Heap.get?_none_of_le (Nat.le_refl _)
  have I₄:Inv w.params G.B Ω₁ σ₁ h₄:=Inv.keeps (s:={ s₁ with heap:=h₂ }) I₂ toA
  have sback:∀ a,s₁.heap.get? a=none→a ∉ Ω₁.rho→s.heap.get? a=none:=fun a h1 h2=>by
    rcases a₁.back h1 with h | h | h
    · exact h
    · exact h.elim
    · refine e1_2 a₁.rho fun t e _=>?_
      exact absurd (by rw [e]; exact List.mem_append_left _ h) h2
  have it₄:IterAt w.params Ω₁ h₄ s₁.heap.objs.size iv 0:=hit.mono (Om.Le.refl _) fun o ho=>toA _ o ho
  have ad₄:Adv (fun a=>s₁.heap.get? a=none) Ω₁ s₁ Ω₁ { s₁ with heap:=h₄,toks:=s₁.toks + ([]:List (Str × Value)).length }:=.keeps fun b o hb=>toA b o (hk₂ b o hb)
  clear hs₄ hk₂ toA hge hoi hit I₂
  generalize hDe:h₂.objs.size=D at *
  generalize hCe:(h₂.push { cls:=.type "list", data:=.seq #[] }).objs.size=Cc at *
  generalize hIe:s₁.heap.objs.size=it at *
  -- the loop
  have loop:codeAny (model prog w) A (.compLoop (X.comp e t tp itx sc' p).toE 0 (.ref it) (.ref D) (compEnvC sc' cl Cc env)) (compPost (model prog w) A nope use Q (.ref D) Cc) { s₁ with heap:=h₄,toks:=s₁.toks + ([]:List (Str × Value)).length }:=by
    refine compLoop2 (CompI G vs outs (fun v σ=>(bindT t tp v m).bind fun m'=>ev T C e m' σ) σ₂ s₁ Ω₁ it D Cc iv) (fun n s' hI=>?_) vs.length
      ⟨0,Ω₁,σ₁,[],outs,#[],0,_,rfl,Nat.zero_le _,by rw [List.drop_zero]; exact h3,rfl,rfl,(show RL w.params Ω₁ [] [] from rfl),ad₄,I₄,it₄,hD₄,hn₄,itf,itr,d2,d3,c2,c3⟩
    obtain ⟨i,Ω',σ',done,rest,its,k,mm,rfl,hle,hcomp,hout,hsz,rl,ad,I',itA,hD,hn,f1,f2,f3,f4,f5,f6⟩:=hI
    by_cases hlt:i < vs.length
    · refine e2_3 (compL_drop hlt hcomp) ?_;rintro q r hq hr rfl
      refine bse hq fun m' hb he=>?_
      refine next_s I' itA (g1 _) f1 f2 ((g2 _ _).trans (List.getElem?_eq_getElem hlt)) fun h₅ tk₅ val hs₅ rv itB=>?_
      have I₅:Inv w.params G.B Ω' σ' h₅:=I'.but hs₅ f1 f2
      refine let_own (s:={ s' with heap:=h₅,toks:=tk₅ }) _ _ itB ?_
      have hn₅:h₅.Ns Cc mm:=by refine e3_2 hn ?_;clear hn;intro o es ep ho r; exact ⟨o,es,ep,hs₅ _ _ (Ne.symm hitC) ho,r⟩
      have hD₅:=hs₅ _ _ (Ne.symm hitD) hD
      have LC:=lr_comp L₁ ad.le hok hsc hclE hn₅ f5 f6
      have env':(compEnvC sc' cl Cc env).locals=Cc:=rfl
      refine targetC_s (s:={ s' with heap:=h₅,toks:=tk₅ }) rm I₅ LC (fun x hx=>⟨(sc_comp (cl:=cl) (C:=Cc) (env:=env) hok).loc _ (p3 x hx).1,nok_lim (p3 x hx).2⟩) rv hb fun h₆ tk₆ hk₆ I₆ L₆=>?_
      refine ok_step' (ihe he (s:={ s' with heap:=h₆,toks:=tk₆ }) rm L₆ (sc_comp hok) hwe I₆) fun xv s₇ ⟨Ω₇,a₇,I₇,r₇⟩=>?_
      have hD₆:=hk₆ D _ hDC hD₅
      have ⟨x1,x2,x3⟩:=a₇.out hD₆ f4 (fun h=>h) f3
      refine e1_1 (IterAt.alive (s:={ s' with heap:=h₅,toks:=tk₅ }) itB) fun oi hoi=>?_
      have hi₆:=hk₆ it _ hitC hoi
      have ⟨y1,y2,y3⟩:=a₇.out hi₆ f2 (fun h=>h) f1
      refine e1_2 L₆.ns ?_;rintro mm₆ ⟨oC,esC,epC,hoC,rC⟩ _
      have ⟨z1,z2,z3⟩:=a₇.out (a:=Cc) hoC f6 (fun h=>h) f5
      refine append_at x3 (fun h₈ hs₈ hD₈=>⟨vs.length - (i + 1),by exact Nat.sub_succ_lt_self _ _ hlt,i + 1,Ω₇,q.2,done++[q.1],r,its.push xv,k + 1,mm₆,rfl,hlt,hr,by rw [hout,List.append_assoc]; rfl,by rw [Array.size_push,hsz],?_,?_,?_,?_,hD₈,⟨oC,esC,epC,hs₈.extBut _ _ (Ne.symm hDC) z3,rC⟩,y1,y2,x1,x2,z1,z2⟩) (by rw [hsz]; with_reducible exact Nat.le_trans (by assumption) (by assumption))
      · rw [Array.toList_push]; exact (rl.mono a₇.le).append (.one r₇)
      · have b₁:Adv (fun a=>s₁.heap.get? a=none) Ω' s' Ω' { s' with heap:=h₅,toks:=tk₅ }:=.but hs₅ i1
        have b₂:Adv (fun a=>s₁.heap.get? a=none) Ω' { s' with heap:=h₅,toks:=tk₅ } Ω' { s' with heap:=h₆,toks:=tk₆ }:=.but (s:={ s' with heap:=h₅,toks:=tk₅ }) (a:=Cc) (fun b o hb h=>hk₆ b o hb h) c1
        have b₃:Adv (fun a=>s₁.heap.get? a=none) Ω₇ s₇ Ω₇ { s₇ with heap:=h₈ }:=.but (tk:=s₇.toks) hs₈.extBut d1
        exact (((ad.trans b₁).trans b₂).trans (a₇.weaken fun _ h=>h.elim)).trans b₃
      · exact I₇.but hs₈.extBut x1 x2
      · refine itB.mono a₇.le fun o ho=>?_
        have:o=oi:=Option.some.inj (ho.symm.trans hoi)
        rw [this]; exact hs₈.extBut _ _ hitD y3
    · have hi:i=vs.length:=by lia
      subst hi
      rw [List.drop_length] at hcomp
      cases hcomp
      refine nextEnd_s rm I' itA (g1 _) ((g2 _ _).trans (by simp)) fun h₅ tk₅ hs₅=>?_
      have adF:Adv no Ω s Ω' { s' with heap:=h₅,toks:=tk₅ }:=by
        have b₁:Adv (fun a=>s₁.heap.get? a=none) Ω' s' Ω' { s' with heap:=h₅,toks:=tk₅ }:=.but hs₅ i1
        exact a₁.trans (Adv.drop ((ad.trans b₁).weaken fun _ h=>.inr h))
      refine fin _ Ω' D Cc its k mm adF (I'.but hs₅ f1 f2) (hs₅ _ _ (Ne.symm hitD) hD) (by rw [hout,List.append_nil]; exact rl) f3 f4 (sback D d1 d3) ?_ f5 f6 (sback Cc c1 c3) (Ne.symm hDC)
      refine e3_2 hn ?_;clear hn;intro o es ep ho r; exact ⟨o,es,ep,hs₅ _ _ (Ne.symm hitC) ho,r⟩
  exact codeAny_compStart_list loop (iterSelf_s (s:={ s₁ with heap:=h₄,toks:=s₁.toks + ([]:List (Str × Value)).length }) h2 it₄ loop)
end
section
variable {P:Params} {B:Heap} {Ω Ω':Om} {σ:S} {h h':Heap} {s s':Shared} {a:Addr} {o:Obj} {ex:Addr→Prop}
theorem Inv.freeze (I:Inv P B Ω σ h) (ho:h.get? a=some o) (hf:Ω.fz a=none) (hr:a ∉ Ω.rho):Inv P B (Ω.add a o) σ h:=by
  have le:=Om.add_le (o:=o) hf
  refine ⟨fun b q hb=>?_,fun b q hb=>le.fz b q (I.base b q hb),I.tab,I.len,I.nd,fun b hb=>?_,fun l q b h1 h2=>(I.objs l q b h1 h2).mono le fun _ hq=>hq⟩
  · change (if b=a then some o else Ω.fz b)=some q at hb
    by_cases e:b=a
    · subst e; rw [if_pos rfl] at hb; cases hb; exact ho
    · rw [if_neg e] at hb; exact I.fz b q hb
  · show (if b=a then some o else Ω.fz b)=none
    rw [if_neg (by rintro rfl; exact hr hb)]; exact I.rfz b hb
theorem Adv.freeze (A:Adv ex Ω s Ω' s') (hn:s.heap.get? a=none) (hf:Ω'.fz a=none):Adv ex Ω s (Ω'.add a o) s' :=
  ⟨A.gens,A.drawn,A.os,A.rho,fun b q hb=>(Om.add_le (o:=o) hf).fz b q (A.fz b q hb),fun b q hb=>by
    change (if b=a then some o else Ω'.fz b)=some q at hb
    by_cases e:b=a
    · subst e; exact .inr (.inl hn)
    · rw [if_neg e] at hb; exact A.fzn b q hb,A.keep⟩
theorem Adv.heap (A:Adv ex Ω s Ω' s') (hs:Heap.ExtBut a s'.heap h') (hn:s.heap.get? a=none):Adv ex Ω s Ω' { s' with heap:=h' } :=
  ⟨A.gens,A.drawn,A.os,A.rho,A.fz,A.fzn,fun b q hb hr he=>hs b q (by rintro rfl; rw [hn] at hb; exact nn hb) (A.keep b q hb hr he)⟩
end
end Internal
namespace Internal
open PySem PySem.W PyProof.Rows PySem.Calls
section
variable {prog:Program} {w:World} {T:Tab} {F:Nat→Option Fn} {GL:Nat→V→Bool} {G:Base prog w T F GL}
variable {A:Around} {s:Shared} {Ω:Om} {σ σ':S} {a b v:V} {x y z:Value} {n:Nat} {c:Bool} {E:Value→Shared→Prop} {env:Env} {sc:Scope} {m:M} {C:Cl}
theorem evalArgs_s {xs:List X} {f:Value} {pos:Pos} {vs:List V} (hw:wfs GL sc xs=true) (h0:xs = []→OkL G Ω s vs σ' [] s)
    (h:wpAny (model prog w) A (spliced (backTo pos (starEach (toEs xs) env))) (OkL G Ω s vs σ') nope s) :
    wpAny (model prog w) A (evalArgs f true (backTo pos (starEach (toEs xs) env)) []) (fun a s'=>a.kw = []∧OkL G Ω s vs σ' a.pos s') nope s:=by
  induction xs using List.casesOn with
  | nil=>exact evalArgs_nil3 ⟨rfl,h0 rfl⟩
  | cons e r =>
    have hw':(wf GL sc e && wfs GL sc r)=true:=hw
    rw [Bool.and_eq_true] at hw'
    have q:starEach (toEs (e :: r)) env=(false,eval e.toE env) :: starEach (toEs r) env:=toE_star e GL sc env (toEs r) hw'.1
    rw [q] at h ⊢
    exact evalArgs_plain (wpAny_mono h (fun vs s' hh=>⟨rfl,hh⟩) fun _ _ e=>e)
theorem toEs_length:∀ xs:List X,(toEs xs).length=xs.length
  | []=>rfl
  | _ :: r=>congrArg (· + 1) (toEs_length r)
theorem evs_length {T:Tab} {C:Cl}:∀ {xs:List X} {m:M} {σ:S} {vs:List V} {σ':S},evs T C xs m σ=some (vs,σ')→vs.length=xs.length
  | [],_,_,_,_,h=>by cases h; rfl
  | x :: r,_,_,_,_,h=>by
    refine bse h fun q h1 h2=>?_
    refine mse h2 fun z h3 h4=>?_
    cases h4
    exact congrArg (· + 1) (evs_length h3)
noncomputable def KeptP (prog:Program) (w:World) (f:Value) (h:Heap):Prop:=∃ k,(k=Keeper.frame ∨ k=Keeper.machine ∨ k=Keeper.boundFrame)∧Looks (model prog w) h (keeperOf f) k
theorem wf_and {p q:Bool} (h:(p && q)=true):p=true∧q=true:=Bool.and_eq_true_iff.mp h
theorem toEso_some:∀ ks:List X,(toEso ks).all (·.isSome)=true
  | []=>rfl
  | _ :: r=>by simp [toEso,toEso_some r]
theorem toEso_length:∀ ks:List X,(toEso ks).length=ks.length
  | []=>rfl
  | _ :: r=>congrArg (· + 1) (toEso_length r)
theorem evk_length:∀ {ks:List X} {l:List Nat},evk ks=some l→l.length=ks.length
  | [],_,h=>by cases h; rfl
  | x :: r,l,h=>by
    induction x using X.casesOn with
    | st n p =>
      have h:(evk r).map (n :: ·)=some l:=h
      refine mse h ?_;rintro l' h1 rfl
      exact congrArg (· + 1) (evk_length h1)
    | _=>exact nn h
theorem evki_length:∀ {ks:List X} {l:List Int},evki ks=some l→l.length=ks.length
  | [],_,h=>by cases h; rfl
  | x :: r,l,h=>by
    induction x using X.casesOn with
    | num n p =>
      have h:(evki r).map (n :: ·)=some l:=h
      refine mse h ?_;rintro l' h1 rfl
      exact congrArg (· + 1) (evki_length h1)
    | _=>exact nn h
noncomputable def PairsOk (G:Base prog w T F GL) (Ω:Om) (s:Shared) (KS:List (Value × Value)→Prop) (vals:List V) (σ':S):List (Value × Value)→Shared→Prop:=fun ps s'=>∃ Ω',Adv no Ω s Ω' s'∧Inv w.params G.B Ω' σ' s'.heap∧RL w.params Ω' vals (ps.map (·.2))∧KS ps
theorem pairs_str {pos:Pos}:∀ (ks vs:List X) (l:List Nat) (vals:List V) (σ σ':S) (s:Shared) (Ω:Om),(∀ x ∈ vs,EvP G n C x)→evk ks=some l→ks.length=vs.length→evs T C vs m σ=some (vals,σ')→Room n A→LR w.params Ω s.heap env m→SC sc env→wfs GL sc vs=true→Inv w.params G.B Ω σ s.heap →
    wpAny (model prog w) A (evalPairs (pairTrees (toEso ks) (toEs vs) env pos)) (PairsOk G Ω s (fun ps=>l.length=ps.length∧∀ q ∈ (l.map dec).zip ps,(strKind prog w).is q.1 q.2.1=true) vals σ') nope s
  | [],[],l,vals,σ,σ',s,Ω,_,hk,_,h,_,_,_,_,I=>by
    cases hk; cases h
    exact wpAny_pure ⟨Ω,.refl,I,rfl,rfl,fun q hq=>by simp at hq⟩
  | [],_ :: _,l,vals,σ,σ',s,Ω,_,hk,hl,h,_,_,_,_,I=>by cases hl
  | _ :: _,[],l,vals,σ,σ',s,Ω,_,hk,hl,h,_,_,_,_,I=>by cases hl
  | k :: ks,x :: vs,l,vals,σ,σ',s,Ω,ih,hk,hl,h,rm,L,hsc,hw,I=>by
    induction k using X.casesOn with
    | st n p =>
      have hk:(evk ks).map (n :: ·)=some l:=hk
      refine mse hk ?_;rintro l' hk' rfl
      refine bse h fun q h1 h=>?_
      refine mse h fun z h2 h=>?_
      cases h
      refine wfe hw fun hwx hwr=>?_
      show wpAny _ _ (evalPairs ((eval (.Constant (.str (dec n)) 0 (dpos p)) env,do let x ← eval x.toE env; standAt pos; pure x) :: pairTrees (toEso ks) (toEs vs) env pos)) _ _ _
      unfold evalPairs
      refine wpAny_bind (wpAny_Constant_str ?_)
      have a₀:Adv no Ω s Ω { s with toks:=s.toks + 1 }:=.toks _
      refine wpAny_bind (wpAny_holding (wpAny_bind (wpAny_mono (ih x List.mem_cons_self h1 (s:={ s with toks:=s.toks + 1 }) rm L hsc hwx I) (fun v s₁ ⟨Ω₁,a₁,I₁,r₁⟩=>?_) fun _ _ e=>e)))
      refine wpAny_bind (wpAny_standAt (wpAny_pure ?_))
      refine wpAny_bind (wpAny_holding (wpAny_mono (pairs_str ks vs l' z.1 _ z.2 s₁ Ω₁ (fun y hy=>ih y (List.mem_cons_of_mem _ hy)) hk' (by simpa using hl) h2 rm ((L.adv (s:=s) a₀).adv a₁) hsc hwr I₁) (fun ps s₂ ⟨Ω₂,a₂,I₂,r₂,k1,k2⟩=>wpAny_pure ?_) fun _ _ e=>e))
      refine ⟨Ω₂,(a₀.trans a₁).trans a₂,I₂,⟨v,_,rfl,r₁.mono a₂.le,r₂⟩,by simp [k1],fun q hq=>?_⟩
      rcases List.mem_cons.mp hq with rfl | hq
      · exact strKind_is prog w (dec n) s.toks
      · exact k2 q hq
    | _=>exact nn hk
theorem pairs_int {pos:Pos}:∀ (ks vs:List X) (l:List Int) (vals:List V) (σ σ':S) (s:Shared) (Ω:Om),(∀ x ∈ vs,EvP G n C x)→evki ks=some l→ks.length=vs.length→evs T C vs m σ=some (vals,σ')→Room n A→LR w.params Ω s.heap env m→SC sc env→wfs GL sc vs=true→Inv w.params G.B Ω σ s.heap →
    wpAny (model prog w) A (evalPairs (pairTrees (toEso ks) (toEs vs) env pos)) (PairsOk G Ω s (fun ps=>l.length=ps.length∧∀ q ∈ l.zip ps,(intKind prog w).is q.1 q.2.1=true) vals σ') nope s
  | [],[],l,vals,σ,σ',s,Ω,_,hk,_,h,_,_,_,_,I=>by
    cases hk; cases h
    exact wpAny_pure ⟨Ω,.refl,I,rfl,rfl,fun q hq=>by simp at hq⟩
  | [],_ :: _,l,vals,σ,σ',s,Ω,_,hk,hl,h,_,_,_,_,I=>by cases hl
  | _ :: _,[],l,vals,σ,σ',s,Ω,_,hk,hl,h,_,_,_,_,I=>by cases hl
  | k :: ks,x :: vs,l,vals,σ,σ',s,Ω,ih,hk,hl,h,rm,L,hsc,hw,I=>by
    induction k using X.casesOn with
    | num n p =>
      have hk:(evki ks).map (n :: ·)=some l:=hk
      refine mse hk ?_;rintro l' hk' rfl
      refine bse h fun q h1 h=>?_
      refine mse h fun z h2 h=>?_
      cases h
      refine wfe hw fun hwx hwr=>?_
      show wpAny _ _ (evalPairs ((eval (.Constant (.int n) 0 (dpos p)) env,do let x ← eval x.toE env; standAt pos; pure x) :: pairTrees (toEso ks) (toEs vs) env pos)) _ _ _
      unfold evalPairs
      refine wpAny_bind (wpAny_Constant_int ?_)
      have a₀:Adv no Ω s Ω { s with toks:=s.toks + 1 }:=.toks _
      refine wpAny_bind (wpAny_holding (wpAny_bind (wpAny_mono (ih x List.mem_cons_self h1 (s:={ s with toks:=s.toks + 1 }) rm L hsc hwx I) (fun v s₁ ⟨Ω₁,a₁,I₁,r₁⟩=>?_) fun _ _ e=>e)))
      refine wpAny_bind (wpAny_standAt (wpAny_pure ?_))
      refine wpAny_bind (wpAny_holding (wpAny_mono (pairs_int ks vs l' z.1 _ z.2 s₁ Ω₁ (fun y hy=>ih y (List.mem_cons_of_mem _ hy)) hk' (by simpa using hl) h2 rm ((L.adv (s:=s) a₀).adv a₁) hsc hwr I₁) (fun ps s₂ ⟨Ω₂,a₂,I₂,r₂,k1,k2⟩=>wpAny_pure ?_) fun _ _ e=>e))
      refine ⟨Ω₂,(a₀.trans a₁).trans a₂,I₂,⟨v,_,rfl,r₁.mono a₂.le,r₂⟩,by simp [k1],fun q hq=>?_⟩
      rcases List.mem_cons.mp hq with rfl | hq
      · exact intKind_is prog w n s.toks
      · exact k2 q hq
    | _=>exact nn hk
theorem mk_KN:∀ (l:List Nat) (ps:List (Value × Value)),l.length=ps.length→(∀ k ∈ l,k < lim)→(∀ q ∈ (l.map dec).zip ps,(strKind prog w).is q.1 q.2.1=true)→KN w.params l (mkEs (strKind prog w) (l.map dec) ps)∧(mkEs (strKind prog w) (l.map dec) ps).map (·.val)=ps.map (·.2)
  | [],[],_,_,_=>⟨rfl,rfl⟩
  | [],_ :: _,h,_,_=>by cases h
  | _ :: _,[],h,_,_=>by cases h
  | k :: l,p :: ps,h,hl,hq=>by
    refine e0_2 (mk_KN l ps (by simpa using h) (fun k hk=>hl k (List.mem_cons_of_mem _ hk)) (fun q hq'=>hq q (List.mem_cons_of_mem _ hq'))) fun h1 h2=>?_
    refine e1_1 (Value.isStrOf_shape (hq (dec k,p) List.mem_cons_self)) fun t ht=>?_
    exact ⟨⟨_,_,rfl,hl k List.mem_cons_self,⟨t,ht⟩,rfl,h1⟩,congrArg (p.2 :: ·) h2⟩
theorem mk_KI:∀ (l:List Int) (ps:List (Value × Value)),l.length=ps.length→(∀ q ∈ l.zip ps,(intKind prog w).is q.1 q.2.1=true)→KI l (mkEs (intKind prog w) l ps)∧(mkEs (intKind prog w) l ps).map (·.val)=ps.map (·.2)
  | [],[],_,_=>⟨rfl,rfl⟩
  | [],_ :: _,h,_=>by cases h
  | _ :: _,[],h,_=>by cases h
  | k :: l,p :: ps,h,hq=>by
    refine e0_2 (mk_KI l ps (by simpa using h) (fun q hq'=>hq q (List.mem_cons_of_mem _ hq'))) fun h1 h2=>?_
    refine e1_1 (Value.isInt_shape (hq (k,p) List.mem_cons_self)) fun t ht=>?_
    exact ⟨⟨_,_,rfl,⟨t,ht⟩,rfl,h1⟩,congrArg (p.2 :: ·) h2⟩
theorem KI.zip {Ω:Om}:∀ {ks:List Int} {vs:List V} {es:List DictEntry},KI ks es→RL w.params Ω vs (es.map (·.val))→EI w.params Ω (ks.zip vs) es
  | [],_,es,h,_=>by have h:es = []:=h; subst h; rfl
  | k :: ks,[],es,⟨e,r,he,_⟩,hr=>by subst he; cases hr
  | k :: ks,v :: vs,es,⟨e,r,he,h1,h2,h3⟩,hr=>by
    subst he
    obtain ⟨x,xs,e1,rx,rr⟩:=hr
    injection e1 with e1 e2
    subst e1 e2
    exact ⟨e,r,rfl,h1,h2,rx,KI.zip h3 rr⟩
theorem dct_s {frz:Bool} {ks vs:List X} {p:Nat} (ih:∀ x ∈ vs,EvP G n C x) (h:ev T C (.dct frz ks vs p) m σ=some (v,σ')) (rm:Room n A) (L:LR w.params Ω s.heap env m) (hsc:SC sc env) (hw:wf GL sc (.dct frz ks vs p)=true)
    (I:Inv w.params G.B Ω σ s.heap):wpAny (model prog w) A (eval (X.dct frz ks vs p).toE env) (Ok w.params G.B Ω s v σ') nope s:=by
  refine wfe hw fun hws hw=>?_
  refine wfe hw fun h15 hw=>?_
  refine wfe hw fun hlen hkeys=>?_
  have hlen:=Nat.eq_of_beq_eq_true hlen
  have h15:=Nat.le_of_ble_eq_true h15
  refine bse h fun q h1 h=>?_
  show wpAny _ _ (eval (.Dict (toEso ks) (toEs vs) (dpos p)) env) _ _ _
  have hD:(s.heap.push { cls:=.type "dict", data:=.dict #[] }).get? s.heap.objs.size=some (dictOf [] 0):=Heap.get?_push_size _ rfl
  have I₀:Inv w.params G.B Ω σ (s.heap.push { cls:=.type "dict", data:=.dict #[] }):=I.keeps fun b o=>Heap.get?_push_of_some _
  have a₀:Adv no Ω s Ω { s with heap:=s.heap.push { cls:=.type "dict", data:=.dict #[] } }:=.keeps (tk:=s.toks) fun b o=>Heap.get?_push_of_some _
  have fr:=I.fresh
  have frR:s.heap.objs.size ∉ Ω.rho:=fun hm=>absurd (I.rlt hm) (Nat.lt_irrefl _)
  -- the end of a display whose pairs have been worked out
  have fin:∀ {Ω₁:Om} {s₁:Shared} {h₂:Heap} {tk:Nat} {es:List DictEntry} {m':Nat},Adv no Ω { s with heap:=s.heap.push { cls:=.type "dict", data:=.dict #[] } } Ω₁ s₁→Inv w.params G.B Ω₁ q.2 s₁.heap→Heap.SameBut s.heap.objs.size s₁.heap h₂→h₂.get? s.heap.objs.size=some (dictOf es m') →
      Ω₁.fz s.heap.objs.size=none∧s.heap.objs.size ∉ Ω₁.rho ∧
      (Inv w.params G.B (Ω₁.add s.heap.objs.size (dictOf es m')) q.2 h₂∧Adv no Ω s (Ω₁.add s.heap.objs.size (dictOf es m')) { s₁ with heap:=h₂,toks:=tk }) ∧
      (∀ {kvs:List (Int × V)},EI w.params Ω₁ kvs es→Inv w.params G.B (Ω₁.app s.heap.objs.size) (q.2++[.dict kvs]) h₂∧Adv no Ω s (Ω₁.app s.heap.objs.size) { s₁ with heap:=h₂,toks:=tk }):=by
    intro Ω₁ s₁ h₂ tk es m' a₁ I₁ hs hg
    have ⟨o1,o2,o3⟩:=a₁.out hD frR (fun h=>h) fr
    have le:=Om.add_le (o:=dictOf es m') o1
    have keep:=hs.extBut
    have I₂:Inv w.params G.B Ω₁ q.2 h₂:=by
      refine ⟨fun b o q=>keep b o (by rintro rfl; rw [o1] at q; exact nn q) (I₁.fz b o q),I₁.base,I₁.tab,I₁.len,I₁.nd,I₁.rfz,fun l o b h1 h2=>(I₁.objs l o b h1 h2).mono (Om.Le.refl _) fun q hq=>keep b q (by rintro rfl; exact o2 (List.mem_of_getElem? h2)) hq⟩
    have ad:Adv no Ω s Ω₁ { s₁ with heap:=h₂,toks:=tk }:=by
      have:=a₀.trans a₁
      refine ⟨this.gens,this.drawn,this.os,this.rho,this.fz,this.fzn,fun b o hb hn he=>keep b o (by rintro rfl; exact absurd (Heap.lt_size hb) (Nat.lt_irrefl _)) (this.keep b o hb hn he)⟩
    have hn:s.heap.get? s.heap.objs.size=none:=Heap.get?_none_of_le (Nat.le_refl _)
    exact ⟨o1,o2,⟨I₂.freeze hg o1 o2,ad.freeze hn o1⟩,fun {kvs} hei=>⟨I₂.appLoc o1 o2 ⟨es,m',hg,hei.mono Om.app_le⟩,ad.appLoc hn⟩⟩
  by_cases hnil:ks = []
  · subst hnil
    have hv:vs = []:=List.eq_nil_of_length_eq_zero hlen.symm
    subst hv
    have e:q=([],σ):=by cases h1; rfl
    subst e
    have h:(if frz && ([]:List Nat).length=([]:List V).length then some (V.dct [] [],σ) else if ([]:List Nat).isEmpty && ([]:List V).isEmpty then some (V.loc σ.length,σ++[O.dict []]) else none)=some (v,σ'):=h
    refine wpAny_Dict_empty ?_
    induction frz using Bool.casesOn with
    | true =>
      have h:some (V.dct [] [],σ)=some (v,σ'):=h
      cases h
      exact ⟨_,.push I.fresh (tk:=s.toks),I.push rfl,_,[],0,rfl,Om.add_self,rfl,rfl⟩
    | false =>
      have h:some (V.loc σ.length,σ++[O.dict []])=some (v,σ'):=h
      cases h
      exact ⟨_,.alloc (tk:=s.toks),I.alloc rfl ⟨[],0,Heap.get?_push_size _ rfl,rfl⟩,_,rfl,Om.app_at I⟩
  · have hk0:toEso ks ≠ []:=by induction ks using List.casesOn with | nil=>exact absurd rfl hnil | cons _ _=>exact fun e=>by cases e
    refine wpAny_Dict_any (toEso_some ks) (by rw [toEso_length,toEs_length,hlen]) hk0 (by rw [toEso_length]; rw [hlen]; exact h15) ?_
    have L₀:=L.adv a₀
    cases hks:evk ks with
    | some l =>
      have hl:=evk_length hks
      rw [hks] at hkeys h
      have hkeys:(decide l.Nodup && l.all (fun k=>Nat.blt k lim))=true:=hkeys
      rw [Bool.and_eq_true,decide_eq_true_eq] at hkeys
      have hlim:∀ k ∈ l,k < lim:=fun k hk=>Nat.le_of_ble_eq_true (List.all_eq_true.mp hkeys.2 k hk)
      refine wpAny_mono (pairs_str ks vs l q.1 σ q.2 { s with heap:=s.heap.push { cls:=.type "dict", data:=.dict #[] } } Ω ih hks hlen h1 rm L₀ hsc hws I₀) (fun ps s₁ ⟨Ω₁,a₁,I₁,r₁,k1,k2⟩=>?_) fun _ _ e=>e
      have ⟨_,_,g₁⟩:=a₁.out hD frR (fun h=>h) fr
      have nd:(l.map dec).Nodup:=by
        rw [List.Nodup,List.pairwise_map]
        exact hkeys.1.imp_of_mem fun {a b} ha hb hne e=>hne (dec_inj (hlim a ha) (hlim b hb) e)
      refine storeAll_s (knd:=strKind prog w) (l.map dec) ps [] 0 s₁ _ (by rw [List.length_map]; exact k1) nd k2 g₁ (fun e he=>by simp at he) (fun e he=>by simp at he) (by rw [List.length_map]; simp; lia) fun h₂ m' tk hs hg=>?_
      rw [List.nil_append] at hg
      refine e0_2 (mk_KN (prog:=prog) (w:=w) l ps k1 hlim k2) fun kn kv=>?_
      refine e0_4 (fin (tk:=tk) a₁ I₁ hs hg) ?_;rintro o1 o2 ⟨i2,ad⟩ _
      have h:(if frz && l.length=q.1.length then some (V.dct l q.1,q.2) else if l.isEmpty && q.1.isEmpty then some (V.loc q.2.length,q.2++[O.dict []]) else none)=some (v,σ'):=h
      split at h
      · cases h
        exact ⟨_,ad,i2,_,_,m',rfl,Om.add_self,kn,by rw [kv]; exact r₁.mono (Om.add_le o1)⟩
      · split at h
        · rename_i hemp
          rw [Bool.and_eq_true] at hemp
          have:l = []:=List.isEmpty_iff.mp hemp.1
          subst this
          exact absurd (List.eq_nil_of_length_eq_zero hl.symm) hnil
        · exact nn h
    | none =>
      rw [hks] at hkeys h
      cases hki:evki ks with
      | none=>rw [hki] at h; exact nn h
      | some l =>
        have hl:=evki_length hki
        rw [hki] at hkeys h
        have nd:l.Nodup:=of_decide_eq_true hkeys
        refine wpAny_mono (pairs_int ks vs l q.1 σ q.2 { s with heap:=s.heap.push { cls:=.type "dict", data:=.dict #[] } } Ω ih hki hlen h1 rm L₀ hsc hws I₀) (fun ps s₁ ⟨Ω₁,a₁,I₁,r₁,k1,k2⟩=>?_) fun _ _ e=>e
        have ⟨_,_,g₁⟩:=a₁.out hD frR (fun h=>h) fr
        refine storeAll_s (knd:=intKind prog w) l ps [] 0 s₁ _ k1 nd k2 g₁ (fun e he=>by simp at he) (fun e he=>by simp at he) (by simp; lia) fun h₂ m' tk hs hg=>?_
        rw [List.nil_append] at hg
        refine e0_2 (mk_KI (prog:=prog) (w:=w) l ps k1 k2) fun ki kv=>?_
        refine e0_4 (fin (tk:=tk) a₁ I₁ hs hg) ?_;rintro o1 o2 ⟨i2,ad⟩ al
        have h:(if l.length=q.1.length then (match frz with | true=>some (V.dcti l q.1,q.2) | false=>some (V.loc q.2.length,q.2++[O.dict (l.zip q.1)])) else none)=some (v,σ'):=h
        split at h
        · induction frz using Bool.casesOn with
          | true =>
            cases h
            exact ⟨_,ad,i2,_,_,m',rfl,Om.add_self,ki,by rw [kv]; exact r₁.mono (Om.add_le o1)⟩
          | false =>
            cases h
            refine e0_2 (al (KI.zip ki (by rw [kv]; exact r₁))) fun i3 ad3=>?_
            refine ⟨_,ad3,i3,_,rfl,?_⟩
            show (Ω₁.rho++[_])[q.2.length]? = _
            rw [← I₁.len]; simp
        · exact nn h
theorem comp_s {e it:X} {t:List (Nat × Nat)} {tp:Option (Nat × Nat)} {sc':Scope} {p:Nat} (ihe:EvP G n C e) (ihi:EvP G n C it) (h:ev T C (.comp e t tp it sc' p) m σ=some (v,σ')) (rm:Room n A) (L:LR w.params Ω s.heap env m) (hsc:SC sc env) (hw:wf GL sc (.comp e t tp it sc' p)=true)
    (I:Inv w.params G.B Ω σ s.heap):wpAny (model prog w) A (eval (X.comp e t tp it sc' p).toE env) (Ok w.params G.B Ω s v σ') nope s:=by
  refine wfe hw fun hwi hw=>?_
  refine wfe hw fun hwe hok=>?_
  refine bse h fun q h1 h=>?_
  refine bse h fun vs h2 h=>?_
  refine mse h fun z h3 h=>?_
  cases h
  show wpAny (model prog w) A (eval (.ListComp e.toE [⟨tgE t tp,it.toE,[],0⟩] sc' (dpos p)) env) _ _ _
  rw [eval_ListComp]
  refine comp_core (use:=none) ihe ihi h1 h2 h3 rm L hsc hwi hwe hok I fun s' Ω' D C' its k mm ad I' hD rl f1 f2 f3 hn c1 c2 c3 hne=>⟨mm,hn,fun h' hs=>?_⟩
  have hD':=hs.extBut D _ (Ne.symm hne) hD
  have I₂:Inv w.params G.B Ω' z.2 h':=I'.but hs.extBut c1 c2
  exact ⟨_,(ad.heap hs.extBut c3).freeze f3 f1,I₂.freeze hD' f1 f2,D,its,k,rfl,Om.add_self,rl.mono (Om.add_le f1)⟩
theorem closure_one {a b:Str} {env:Env} {c:Addr} {sc:Scope} (h:sc.names = [(a,.local),(b,.free)]) (hc:env.cells.lookup b=some c):closureFor sc env=pure [(b,c)]:=by
  unfold closureFor
  rw [h]
  simp only [List.forIn_cons,List.forIn_nil]
  unfold cellOf
  rw [hc]
  rfl
set_option tactic.hygienic true in
theorem lam_s {an ap pl pp gp sp:Nat} {sc':Scope} {p:Nat} (h:ev T C (.lam an ap pl pp gp sp sc' p) m σ=some (v,σ')) (rm:Room n A) (L:LR w.params Ω s.heap env m) (hsc:SC sc env) (hw:wf GL sc (.lam an ap pl pp gp sp sc' p)=true)
    (I:Inv w.params G.B Ω σ s.heap):wpAny (model prog w) A (eval (X.lam an ap pl pp gp sp sc' p).toE env) (Ok w.params G.B Ω s v σ') nope s:=by
  refine wfe hw fun w1 hw=>?_
  refine wfe hw fun w2 hw=>?_
  refine wfe hw fun w3 hw=>?_
  refine wfe hw fun w4 hw=>?_
  refine wfe hw fun w5 hw=>?_
  refine wfe hw fun w6 hw=>?_
  refine wfe hw fun w7 hw=>?_
  refine wfe hw fun w8 hw=>?_
  refine wfe hw fun w9 w10=>?_
  have w1:=Nat.eq_of_beq_eq_true w1
  have w2:=Nat.eq_of_beq_eq_true w2
  subst w1 w2
  have w3:an < lim:=Nat.le_of_ble_eq_true w3
  have w4:an≠plN:=fun e=>by subst e; simp at w4
  have w5:(dec an == ("__debug__" : Str))=false:=by rw [← Bool.not_eq_true']; exact w5
  have w7:sc'.kind = .function:=beq_iff_eq.mp w7
  rw [Bool.not_eq_true'] at w8 w9
  have hnames:sc'.names = [(dec an,.local),(dec plN,.free)]:=by
    split at w10
    · rename_i a b hn
      refine wfe w10 fun x1 x2=>?_
      rw [hn,beq_iff_eq.mp x1,beq_iff_eq.mp x2]
    · exact ff w10
  have hne:dec an≠dec plN:=fun e=>w4 (dec_inj w3 (by decide +kernel) e)
  refine bse h fun u h1 h=>?_
  induction u using V.casesOn with
  | loc l =>
    have h:(match (σ[0]? : Option O) with | some (.code _)=>some (V.lam l,σ.set 0 (.code true)) | _=>none)=some (v,σ'):=h
    have hkc:env.kindOf (dec plN)=some .cell:=hsc.cell _ (beq_iff_eq.mp w6)
    refine e3_4 (L.cel plN (.loc l) h1 (.inl hkc)) fun cell occ val hcell hfz hdat rv=>?_
    obtain ⟨dx,rfl,hdx⟩:=rv
    obtain ⟨hq,cc,hcode,hhd⟩:=L.lamq.1 hkc
    have hcl:=closure_one hnames hcell
    have C:=hhd s.heap I.fz
    have hgs:=G.nsg.keeps I.keepB
    have hbs:=G.bat.keeps I.keepB
    have hgP:mainGlobals≠TAB:=by decide
    have tm:TAB ∈ Ω.rho:=List.mem_of_getElem? I.tab
    have tf:=I.rfz TAB tm
    -- the end: the function object is new,its code record is frozen
    have fin:∀ {Ω₁:Om} {h':Heap} {tk:Nat} {c':Addr} {oc:Obj} {vs:Array Value} {t:Tok} {ctv:Value},Adv no Ω s Ω₁ { s with heap:=h',toks:=tk }→Inv w.params G.B Ω₁ (σ.set 0 (.code true)) h'→Ω₁.fz c'=some oc→oc.data = .fields vs→vs[1]? = some (.str lamQual t) →
        Ok w.params G.B Ω s (.lam l) (σ.set 0 (.code true)) (.ref h'.objs.size) { s with heap:=h'.push (kla_obj ("<lambda>" : Str) lamQual ⟨[],[⟨dec an,none,dpos ap⟩],none,[],[],none,[]⟩ (.Subscript (.Name (dec plN) (dpos pp)) (.Name (dec an) (dpos gp)) (dpos sp)) sc' [(dec plN,cell)] ((G.mg ("__name__" : Str)).getD .none) c' ctv),toks:=tk }:=by
      intro Ω₁ h' tk c' oc vs t ctv ad I₁ f1 f2 f3
      have hfr:=Inv.fresh (s:={ s with heap:=h',toks:=tk }) I₁
      have le:=Om.add_le (o:=kla_obj ("<lambda>" : Str) lamQual ⟨[],[⟨dec an,none,dpos ap⟩],none,[],[],none,[]⟩ (.Subscript (.Name (dec plN) (dpos pp)) (.Name (dec an) (dpos gp)) (dpos sp)) sc' [(dec plN,cell)] ((G.mg ("__name__" : Str)).getD .none) c' ctv) hfr
      refine ⟨_,ad.trans (Adv.push (s:={ s with heap:=h',toks:=tk }) (tk:=tk) hfr),Inv.push (s:={ s with heap:=h',toks:=tk }) I₁ rfl,_,_,dx,rfl,Om.add_self,⟨an,ap,pp,gp,sp,sc',cell,c',_,ctv,occ,oc,vs,t,rfl,w7,w8,w9,hnames,w3,hne,w5,le.fz _ _ (ad.fz _ _ hfz),hdat,le.fz _ _ f1,f2,f3⟩,le.rho _ _ (ad.le.rho _ _ hdx)⟩
    refine kla_eval rfl ?_
    rw [hq]
    split at h
    · rename_i b hb
      cases h
      have ho:=I.objs 0 (.code b) TAB hb I.tab
      induction b using Bool.casesOn with
      | false =>
        refine kla_makeFunction (P:=TAB) (ps:=#[]) hcl L.glob hgs hcode C ho trivial rfl hgP hbs fun c' ctv h' tk hx hge hlt hrec htb=>?_
        refine e4_4 hrec ?_;clear hrec;intro c₂ oc vs t e2 hoc hd hv
        cases e2
        have hn:s.heap.get? c'=none:=Heap.get?_none_of_le hge
        have cf:Ω.fz c'=none:=by
          cases q:Ω.fz c' with
          | none=>rfl
          | some o=>rw [I.fz c' o q] at hn; cases hn
        have cr:c' ∉ Ω.rho:=fun hm=>by
          have:=I.rlt hm
          exact absurd this (Nat.not_lt.mpr hge)
        have le:=Om.add_le (o:=oc) cf
        have I₁:Inv w.params G.B (Ω.add c' oc) (σ.set 0 (.code true)) h':=by
          refine ⟨fun b o hb=>?_,fun b o hb=>le.fz b o (I.base b o hb),I.tab,by simp [Om.add,I.len],I.nd,fun b hb=>?_,fun k o b h1 h2=>?_⟩
          · change (if b=c' then some oc else Ω.fz b)=some o at hb
            by_cases e:b=c'
            · subst e; rw [if_pos rfl] at hb; cases hb; exact hoc
            · rw [if_neg e] at hb
              exact hx b o (by rintro rfl; rw [tf] at hb; exact nn hb) (I.fz b o hb)
          · show (if b=c' then some oc else Ω.fz b)=none
            rw [if_neg (by rintro rfl; exact cr hb)]; exact I.rfz b hb
          · by_cases e:k=0
            · subst e
              have e2:TAB=b:=Option.some.inj (I.tab.symm.trans h2)
              subst e2
              rw [List.getElem?_set_self (by rw [← I.len]; exact (List.getElem?_eq_some_iff.mp I.tab).1)] at h1
              refine s1 h1 ?_
              exact ⟨c',oc,vs,t,htb,Om.add_self,hd,hv⟩
            · rw [List.getElem?_set_ne (Ne.symm e)] at h1
              have hbt:b≠TAB:=by
                rintro rfl
                refine e1_1 (List.getElem?_eq_some_iff.mp h2) fun k1 k2=>?_
                refine e1_1 (List.getElem?_eq_some_iff.mp I.tab) fun l1 l2=>?_
                exact e ((List.getElem_inj I.nd).mp (k2.trans l2.symm))
              exact (I.objs k o b h1 h2).mono le fun q hq=>hx b q hbt hq
        have ad:Adv no Ω s (Ω.add c' oc) { s with heap:=h',toks:=tk }:=⟨rfl,rfl,rfl,⟨[],by simp [Om.add],by simp⟩,le.fz,fun b o hb=>by
          change (if b=c' then some oc else Ω.fz b)=some o at hb
          by_cases e:b=c'
          · subst e; exact .inr (.inl hn)
          · rw [if_neg e] at hb; exact .inl hb,fun b o hb hr _=>hx b o (by rintro rfl; exact hr tm) hb⟩
        exact fin ad I₁ Om.add_self hd hv
      | true =>
        refine e4_4 ho ?_;clear ho;intro c' oc vs t hg hf hd hv
        refine kla_makeFunctionHit (P:=TAB) (cv:=.ref c') hcl L.glob hgs hcode C hg trivial rfl hbs fun ctv h' tk hk hsz=>?_
        have e:σ.set 0 (.code true)=σ:=by
          apply List.ext_getElem?
          intro k
          by_cases e:k=0
          · subst e
            rw [List.getElem?_set_self (by rw [← I.len]; exact (List.getElem?_eq_some_iff.mp I.tab).1),hb]
          · rw [List.getElem?_set_ne (Ne.symm e)]
        have I₁:Inv w.params G.B Ω (σ.set 0 (.code true)) h':=by rw [e]; exact I.keeps hk
        exact fin (.keeps hk) I₁ hf hd hv
    · exact nn h
  | _=>exact nn h
theorem callX_s {args:List X} {pos:Pos} {vf:Value} {fv:V} {vs:List V} {σ₁:S} (hC:ClS G n C) (rm:Room n A) (ih:EvsP G n C args) (h1:evs T C args m σ=some (vs,σ₁)) (h2:callV T C fv vs σ₁=some (v,σ'))
    (L:LR w.params Ω s.heap env m) (hsc:SC sc env) (hw:wfs GL sc args=true) (I:Inv w.params G.B Ω σ s.heap) (rf:R w.params Ω fv vf) :
    wpAny (model prog w) A (callWith pos vf [] (backTo pos (starEach (toEs args) env)) []) (Ok w.params G.B Ω s v σ') nope s:=by
  have hb:=backTo_star (env:=env) (pos:=pos) hw
  refine callWith_of (P:=KeptP prog w vf) (by rw [hb.2.1]; rfl) (fun _ e=>e) (wpAny_mono (evalArgs_s hw (fun e=>?_) (ih h1 rm L hsc hw I)) (fun a s' ⟨hk,Ω',ad,I',rl⟩=>?_) fun _ _ e=>e)
  · subst e; cases h1; exact ⟨Ω,.refl,I,rfl⟩
  · refine e0_2 (call_s hC rm I' (rf.mono ad.le) rl h2) fun k1 k2=>?_
    rw [hk]
    exact ⟨k1,ok_adv ad k2⟩
theorem methX_s {o:X} {k:Nat} {args:List X} {ap pos:Pos} {vo:Value} {ov:V} {vs:List V} {σ₁:S} {r:Option Nat} (hC:ClS G n C) (rm:Room n A) (ih:EvsP G n C args) (h0:methOk T ov k σ=some r) (h1:evs T C args m σ=some (vs,σ₁)) (h2:methV C ov k r vs σ₁=some (v,σ'))
    (L:LR w.params Ω s.heap env m) (hsc:SC sc env) (hw:wfs GL sc args=true) (hl:args.length≤20) (he:ap.endLine=pos.line) (I:Inv w.params G.B Ω σ s.heap) (ro:R w.params Ω ov vo) :
    wpAny (model prog w) A (methodCall o.toE (dec k) ap pos env vo ((toEs args).length + ([]:List Keyword).length) (backTo pos (starEach (toEs args) env)) (backToKw pos (keywordEach [] env))) (Ok w.params G.B Ω s v σ') nope s:=by
  have hb:=backTo_star (env:=env) (pos:=pos) hw
  have hform:methodCallForm ((toEs args).length + ([]:List Keyword).length) (backTo pos (starEach (toEs args) env)) (backToKw pos (keywordEach [] env))=true:=by
    unfold methodCallForm
    rw [hb.1,toEs_length]
    rw [show backToKw pos (keywordEach [] env) = [] from rfl]
    simp
    (apply le1;assumption;simp +arith only)
  have hpos:methodCallPos true o.toE env ap pos=pure pos:=by
    unfold methodCallPos
    simp [he]
  unfold methodCall
  rw [hform]
  refine e2_2 (meth_s (n:=n) (C:=C) (A:=A) (pl:=(do return (← importBound o.toE env).getD true)) I ro h0) fun f first hg hcall=>?_
  refine wpAny_bind (wpAny_holding (hg _ ?_))
  refine wpAny_bind (wpAny_of_eq hpos ?_)
  refine callWith_of (P:=KeptP prog w f) (by rw [hb.2.1]; rfl) (fun _ e=>e) (wpAny_mono (evalArgs_s hw (fun e=>?_) (ih h1 rm L hsc hw I)) (fun a s' ⟨hk,Ω',ad,I',rl⟩=>?_) fun _ _ e=>e)
  · subst e; cases h1; exact ⟨Ω,.refl,I,rfl⟩
  · refine e0_2 (hcall hC rm ad I' rl h2) fun k1 k2=>?_
    rw [hk]
    exact ⟨k1,ok_adv ad k2⟩
end
end Internal
namespace Internal
open PySem PySem.W PyProof.Rows PySem.Calls
section
variable {prog:Program} {w:World} {T:Tab} {F:Nat→Option Fn} {GL:Nat→V→Bool} {G:Base prog w T F GL}
variable {A:Around} {s:Shared} {Ω:Om} {σ σ':S} {a b v:V} {x y z:Value} {n:Nat} {c:Bool} {env:Env} {sc:Scope} {m:M} {C:Cl}
theorem ok_step {α:Type} {t:Sem α} {k:α→Shared→Prop} {P':α→Shared→Prop} (h:wpAny (model prog w) A t P' nope s) (hk:∀ v s',P' v s'→k v s'):wpAny (model prog w) A t k nope s:=wpAny_mono h hk fun _ _ e=>e
theorem isTrue_val {x:X} (h:wpAny (model prog w) A (eval x.toE env) (fun v s₁=>wpAny (model prog w) A (PySem.truthy v) (OkT G Ω s c σ') nope s₁) nope s)
    (he:isTrue x.toE env (eval x.toE env)=(do let v ← eval x.toE env; standAt x.toE.pos; holding [v] (PySem.truthy v))):wpAny (model prog w) A (isTrue x.toE env (eval x.toE env)) (OkT G Ω s c σ') nope s :=
  wpAny_isTrue_value h he
theorem tail_s {value slice:PySem.Expr} (ra:R w.params Ω a x) (I:Inv w.params G.B Ω σ s.heap) (h:getItem a b σ=some (v,σ')) (hs:subscripted slice false x y=operate [x,y] (PySem.getItem x y))
    (hg:wpAny (model prog w) A (PySem.getItem x y) (Ok w.params G.B Ω s v σ') nope s):wpAny (model prog w) A (subscriptTail value slice x y) (Ok w.params G.B Ω s v σ') nope s:=by
  induction a using V.casesOn with
  | tup vs=>obtain ⟨t,its,n,rfl,f,r⟩:=ra; exact tail_any (T := "tuple") ⟨_,I.fz _ _ f,rfl⟩ slot_tuple_getitem.lookup hg hs
  | lst vs=>obtain ⟨t,its,n,rfl,f,r⟩:=ra; exact tail_any (T := "list") ⟨_,I.fz _ _ f,rfl⟩ slot_list_getitem.lookup hg hs
  | dct ks vs=>obtain ⟨t,es,n,rfl,f,r⟩:=ra; exact tail_any (T := "dict") ⟨_,I.fz _ _ f,rfl⟩ PySem.F.slot_dict_getitem.lookup hg hs
  | loc l =>
    obtain ⟨t,rfl,f⟩:=ra
    refine bse h fun j _ h=>?_
    refine mse h fun v' h' _=>?_
    unfold itemO at h'
    split at h'
    · rename_i vs hl
      refine e2_2 (I.objs _ _ _ hl f) fun its n g r=>?_
      exact tail_any (T := "list") ⟨_,g,rfl⟩ slot_list_getitem.lookup hg hs
    · rename_i kvs hl
      refine e2_2 (I.objs _ _ _ hl f) fun es n g r=>?_
      exact tail_any (T := "dict") ⟨_,g,rfl⟩ PySem.F.slot_dict_getitem.lookup hg hs
    · exact nn h'
  | _=>exact nn h
theorem sub_s {o i:X} {p:Nat} {σ₁ σ₂:S} {ov iv:V} (hwi:wf GL sc i=true) (iho:EvP G n C o) (ihi:EvP G n C i) (h1:ev T C o m σ=some (ov,σ₁)) (h2:ev T C i m σ₁=some (iv,σ₂)) (h3:getItem ov iv σ₂=some (v,σ'))
    (rm:Room n A) (L:LR w.params Ω s.heap env m) (hsc:SC sc env) (hw:wf GL sc o=true) (I:Inv w.params G.B Ω σ s.heap) :
    wpAny (model prog w) A (eval (X.sub o i p).toE env) (Ok w.params G.B Ω s v σ') nope s:=by
  refine Subscript_ (ok_step (iho h1 rm L hsc hw I) fun x s₁ ⟨Ω₁,a₁,I₁,r₁⟩=>ok_step (ihi h2 rm (L.adv a₁) hsc hwi I₁) fun y s₂ ⟨Ω₂,a₂,I₂,r₂⟩=>?_)
  refine ok_adv (a₁.trans a₂) (tail_s (r₁.mono a₂.le) I₂ h3 ?_ (getItem_s I₂ (r₁.mono a₂.le) r₂ h3))
  induction i using X.casesOn <;> first | rfl | (exact ff hwi; done)
theorem attr_s {o:X} {k p:Nat} {σ₁:S} {ov:V} (ho:nsup o=true) (iho:EvP G n C o) (h1:ev T C o m σ=some (ov,σ₁)) (h3:getAttr T ov k σ₁=some (v,σ'))
    (rm:Room n A) (L:LR w.params Ω s.heap env m) (hsc:SC sc env) (hw:wf GL sc o=true) (I:Inv w.params G.B Ω σ s.heap) :
    wpAny (model prog w) A (eval (X.attr o k p).toE env) (Ok w.params G.B Ω s v σ') nope s:=by
  refine Attribute_any_ (ok_step (iho h1 rm L hsc hw I) fun x s₁ ⟨Ω₁,a₁,I₁,r₁⟩=>ok_adv a₁ (getAttr_s I₁ r₁ h3)) ?_
  rw [arm_eval_Attribute,attrBase ho]
theorem call_e {f:PySem.Expr} {args:List PySem.Expr} {pos:Pos} (h:∀ o nm ap,f ≠ .Attribute o nm ap):eval (.Call f args [] pos) env=(do callWith pos (← eval f env) [] (backTo pos (starEach args env)) (backToKw pos (keywordEach [] env))):=by
  cases f <;> first | rfl | exact absurd rfl (h _ _ _)
theorem nm_ne {f:X} (h:isNm f=true):∀ o nm ap,f.toE ≠ .Attribute o nm ap:=by
  intro o nm ap
  induction f using X.casesOn <;> first | (cases h; done) | exact fun e=>by cases e
theorem callE_s {f:X} {args:List X} {p:Nat} {σ₁ σ₂:S} {fv:V} {vs:List V} (hf:∀ o nm ap,f.toE ≠ .Attribute o nm ap) (hC:ClS G n C) (ihf:EvP G n C f) (ih:EvsP G n C args) (h1:ev T C f m σ=some (fv,σ₁)) (h2:evs T C args m σ₁=some (vs,σ₂)) (h3:callV T C fv vs σ₂=some (v,σ'))
    (rm:Room n A) (L:LR w.params Ω s.heap env m) (hsc:SC sc env) (hw:wf GL sc f=true) (hws:wfs GL sc args=true) (I:Inv w.params G.B Ω σ s.heap) :
    wpAny (model prog w) A (eval (X.call f args p).toE env) (Ok w.params G.B Ω s v σ') nope s:=by
  refine Call_ (ok_step (ihf h1 rm L hsc hw I) fun x s₁ ⟨Ω₁,a₁,I₁,r₁⟩=>?_) (call_e hf)
  exact ok_adv a₁ (callX_s hC rm ih h2 h3 (L.adv a₁) hsc hws I₁ r₁)
theorem mcallE_s {o:X} {args:List X} {k ap p:Nat} {σ₁ σ₂:S} {ov:V} {vs:List V} {r:Option Nat} (hC:ClS G n C) (iho:EvP G n C o) (ih:EvsP G n C args) (h1:ev T C o m σ=some (ov,σ₁)) (h0:methOk T ov k σ₁=some r) (h2:evs T C args m σ₁=some (vs,σ₂)) (h3:methV C ov k r vs σ₂=some (v,σ'))
    (rm:Room n A) (L:LR w.params Ω s.heap env m) (hsc:SC sc env) (hw:wf GL sc (.mcall o k args ap p)=true) (I:Inv w.params G.B Ω σ s.heap) :
    wpAny (model prog w) A (eval (X.mcall o k args ap p).toE env) (Ok w.params G.B Ω s v σ') nope s:=by
  refine wfe hw fun hwo hw=>?_
  refine wfe hw fun hws hw=>?_
  refine wfe hw fun hns hw=>?_
  refine wfe hw fun hl hlen=>?_
  show wpAny (model prog w) A (eval (.Call (.Attribute o.toE (dec k) (dpos ap)) (toEs args) [] (dpos p)) env) _ _ _
  rw [arm_eval_Call,attrBase hns]
  refine wpAny_bind (ok_step (iho h1 rm L hsc hwo I) fun x s₁ ⟨Ω₁,a₁,I₁,r₁⟩=>wpAny_bind (wpAny_standAt ?_))
  exact ok_adv a₁ (methX_s hC rm ih h0 h2 h3 (L.adv a₁) hsc hws (Nat.le_of_ble_eq_true hlen) (Nat.eq_of_beq_eq_true hl) I₁ r₁)
theorem cmpE_s {op:CmpOp} {l r:X} {σ₁:S} {lv rv:V} {Q:Value→Shared→Prop} (ihl:EvP G n C l) (ihr:EvP G n C r) (h1:ev T C l m σ=some (lv,σ₁)) (h2:ev T C r m σ₁=some (rv,σ')) (h3:cmpop op lv rv σ'=some c)
    (rm:Room n A) (L:LR w.params Ω s.heap env m) (hsc:SC sc env) (hwl:wf GL sc l=true) (hwr:wf GL sc r=true) (I:Inv w.params G.B Ω σ s.heap)
    (k:∀ s',Ok w.params G.B Ω s (.bool c) σ' (.bool c) s'→Q (.bool c) s') :
    wpAny (model prog w) A (eval l.toE env) (fun a s₁=>wpAny (model prog w) A (eval r.toE env) (fun b s₂=>wpAny (model prog w) A (compareOp op a b) Q nope s₂) nope s₁) nope s:=by
  refine ok_step (ihl h1 rm L hsc hwl I) fun x s₁ ⟨Ω₁,a₁,I₁,r₁⟩=>ok_step (ihr h2 rm (L.adv a₁) hsc hwr I₁) fun y s₂ ⟨Ω₂,a₂,I₂,r₂⟩=>?_
  refine ok_step (cmpop_s rm I₂ I₂.sysm (r₁.mono a₂.le) r₂ h3) fun v s₃ hc=>?_
  have:=cmpOk_use (a₁.trans a₂) I₂ hc
  refine e0_2 hc ?_;clear hc;rintro rfl _
  exact k _ this
mutual
theorem ev_s (hC:ClS G n C):∀ x:X,EvP G n C x
  | .num i p=>by
    intro h _ s _ _ _ rm L hsc hw I
    cases h; exact wpAny_Constant_int (.same I ⟨_,rfl⟩)
  | .st k p=>by
    intro h _ s _ _ _ rm L hsc hw I
    cases h; exact wpAny_Constant_str (.same I ⟨by have:=Nat.le_of_ble_eq_true hw; (apply le1;assumption;simp +arith only),_,rfl⟩)
  | .tru _ p=>by
    intro h _ s _ _ _ rm L hsc hw I
    cases h; exact wpAny_Constant_bool (.here I rfl)
  | .non p=>by
    intro h _ s _ _ _ rm L hsc hw I
    cases h; exact wpAny_Constant_none (.here I rfl)
  | .loc k p=>by
    intro h _ s _ _ _ rm L hsc hw I
    refine mse h fun v h1 h2=>?_
    cases h2; exact loc_s L hsc I hw h1
  | .glob k u p=>by
    intro h _ s _ _ _ rm L hsc hw I
    cases h
    refine wfe hw fun hk hw=>?_
    refine wfe hw fun h1 h2=>?_
    exact glob_s L hsc I hk (beq_iff_eq.mp h1) h2
  | .bin op l r p=>by
    intro h _ s _ _ _ rm L hsc hw I
    refine bse h fun q h1 h=>?_
    refine bse h fun q' h2 h=>?_
    refine wfe hw fun hwl hwr=>?_
    refine wpAny_BinOp (ok_step (ev_s hC l h1 rm L hsc hwl I) fun x s₁ ⟨Ω₁,a₁,I₁,r₁⟩=>ok_step (ev_s hC r h2 rm (L.adv a₁) hsc hwr I₁) fun y s₂ ⟨Ω₂,a₂,I₂,r₂⟩=>?_)
    exact ok_adv (a₁.trans a₂) (binop_s I₂ (r₁.mono a₂.le) r₂ h)
  | .neg a p=>by
    intro h _ s _ _ _ rm L hsc hw I
    refine bse h fun q h1 h=>?_
    refine wpAny_UnaryOp (ok_step (ev_s hC a h1 rm L hsc hw I) fun x s₁ ⟨Ω₁,a₁,I₁,r₁⟩=>?_)
    split at h
    · rename_i i hi
      cases h
      rw [hi] at r₁
      refine e1_1 r₁ ?_;clear r₁;rintro t rfl
      exact PyProof.Rows.neg_int ⟨Ω₁,a₁.trans (.toks _),I₁,_,rfl⟩
    · exact nn h
  | .not a p=>by
    intro h _ s _ _ _ rm L hsc hw I
    refine bse h fun q h1 h=>?_
    refine mse h fun b h2 h=>?_
    cases h
    refine wpAny_UnaryOp (ok_step (ev_s hC a h1 rm L hsc hw I) fun x s₁ ⟨Ω₁,a₁,I₁,r₁⟩=>not_value (ok_step (truthy_s I₁ r₁ h2) fun b' s₂ ⟨e,Ω₂,a₂,I₂⟩=>?_))
    subst e
    exact ⟨Ω₂,a₁.trans a₂,I₂,rfl⟩
  | .ite t a b p=>by
    intro h _ s _ _ _ rm L hsc hw I
    refine bse h fun q h1 h=>?_
    refine wfe hw fun hwt hw=>?_
    refine wfe hw fun hwa hwb=>?_
    refine wpAny_IfExp (ok_step (evT_s hC t h1 rm L hsc hwt I) fun b' s₁ ⟨e,Ω₁,a₁,I₁⟩=>?_)
    subst e
    cases hq:q.1 with
    | true=>rw [hq] at h; exact ok_adv a₁ (ev_s hC a h rm (L.adv a₁) hsc hwa I₁)
    | false=>rw [hq] at h; exact ok_adv a₁ (ev_s hC b h rm (L.adv a₁) hsc hwb I₁)
  | .bop _ _ _=>fun h=>nn h
  | .cmp op l r p=>by
    intro h _ s _ _ _ rm L hsc hw I
    refine bse h fun q h1 h=>?_
    refine bse h fun q' h2 h=>?_
    refine mse h fun c h3 h=>?_
    cases h
    refine wfe hw fun hwl hwr=>?_
    exact wpAny_Compare1 (cmpE_s (ev_s hC l) (ev_s hC r) h1 h2 h3 rm L hsc hwl hwr I fun _ q=>q) (marks op hwr)
  | .call f args p=>by
    intro h _ s _ _ _ rm L hsc hw I
    refine bse h fun q h1 h=>?_
    refine bse h fun q' h2 h=>?_
    refine wfe hw fun hwf hw=>?_
    refine wfe hw fun hws hl=>?_
    exact callE_s (nm_ne (wf_and hl).2) hC (ev_s hC f) (evs_s hC args) h1 h2 h rm L hsc hwf hws I
  | .mcall o k args ap p=>by
    intro h _ s _ _ _ rm L hsc hw I
    refine bse h fun q h1 h=>?_
    refine bse h fun r h0 h=>?_
    refine bse h fun q' h2 h=>?_
    exact mcallE_s hC (ev_s hC o) (evs_s hC args) h1 h0 h2 h rm L hsc hw I
  | .attr o k p=>by
    intro h _ s _ _ _ rm L hsc hw I
    refine bse h fun q h1 h=>?_
    refine wfe hw fun hwo hns=>?_
    exact attr_s hns (ev_s hC o) h1 h rm L hsc hwo I
  | .sub o i p=>by
    intro h _ s _ _ _ rm L hsc hw I
    refine bse h fun q h1 h=>?_
    refine bse h fun q' h2 h=>?_
    refine wfe hw fun hwo hwi=>?_
    exact sub_s hwi (ev_s hC o) (ev_s hC i) h1 h2 h rm L hsc hwo I
  | .slc o lo hi sp p=>by
    intro h _ s _ _ _ rm L hsc hw I
    refine bse h fun q h1 h=>?_
    exact slc_s h (ev_s hC o h1 rm L hsc hw I)
  | .rev o p1 p2 sp p=>by
    intro h _ s _ _ _ rm L hsc hw I
    refine bse h fun q h1 h=>?_
    exact rev_s h (ev_s hC o h1 rm L hsc hw I)
  | .tup xs k p=>by
    intro h _ s _ _ _ rm L hsc hw I
    refine mse h fun q h1 h=>?_
    refine wfe hw fun hws hl=>?_
    cases h
    refine wpAny_Tuple (ok_step (evs_s hC xs h1 rm L hsc hws I) fun vals s₁ ⟨Ω₁,a₁,I₁,r₁⟩=>⟨?_,?_⟩)
    · rw [r₁.length,evs_length h1]; exact Nat.le_trans (Nat.le_of_ble_eq_true hl) (by decide)
    · exact Ok.adv a₁ (Ok.tup (tk:=s₁.toks) I₁ r₁)
  | .lst frz xs p=>by
    intro h _ s _ _ _ rm L hsc hw I
    refine mse h fun q h1 h=>?_
    refine wfe hw fun hws hl=>?_
    refine wpAny_List (ok_step (evs_s hC xs h1 rm L hsc hws I) fun vals s₁ ⟨Ω₁,a₁,I₁,r₁⟩=>⟨?_,?_⟩)
    · rw [r₁.length,evs_length h1]; exact Nat.le_trans (Nat.le_of_ble_eq_true hl) (by decide)
    · induction frz using Bool.casesOn with
      | true=>cases h; exact Ok.adv a₁ (Ok.lst (tk:=s₁.toks) I₁ r₁)
      | false=>cases h; exact Ok.adv a₁ (Ok.newL (tk:=s₁.toks) I₁ r₁)
  | .dct frz ks vs p=>by
    intro h _ s _ _ _ rm L hsc hw I
    exact dct_s (evall_s hC vs) h rm L hsc hw I
  | .comp e t tp it sc' p=>by
    intro h _ s _ _ _ rm L hsc hw I
    exact comp_s (ev_s hC e) (ev_s hC it) h rm L hsc hw I
  | .lam an ap pl pp gp sp sc' p=>by
    intro h _ s _ _ _ rm L hsc hw I
    exact lam_s h rm L hsc hw I
  | .byt p=>fun h=>nn h
  | .raw e=>fun h=>nn h
theorem evs_s (hC:ClS G n C):∀ xs:List X,EvsP G n C xs
  | []=>by
    intro h _ s _ _ _ _ rm L hsc hw I
    cases h; exact args_nil ⟨_,.refl,I,rfl⟩
  | x :: r=>by
    intro h _ s _ _ _ _ rm L hsc hw I
    refine bse h fun q h1 h=>?_
    refine mse h fun z h2 h=>?_
    cases h
    refine wfe hw fun hwx hwr=>?_
    refine args_cons (ok_step (ev_s hC x h1 rm L hsc hwx I) fun v s₁ ⟨Ω₁,a₁,I₁,r₁⟩=>ok_step (evs_s hC r h2 rm (L.adv a₁) hsc hwr I₁) fun vs s₂ ⟨Ω₂,a₂,I₂,r₂⟩=>?_) (toE_star x GL _ _ (toEs r) hwx)
    exact ⟨Ω₂,a₁.trans a₂,I₂,v,vs,rfl,r₁.mono a₂.le,r₂⟩
theorem evall_s (hC:ClS G n C):∀ xs:List X,∀ x ∈ xs,EvP G n C x
  | [],x,hx=>by cases hx
  | y :: r,x,hx=>by
    rcases List.mem_cons.mp hx with e | hx
    · rw [e]; exact ev_s hC y
    · exact evall_s hC r x hx
theorem evT_s (hC:ClS G n C):∀ x:X,EvTP G n C x
  | .not a p=>by
    intro h _ s _ _ _ rm L hsc hw I
    refine mse h fun q h1 h=>?_
    cases h
    refine wpAny_isTrue_Not (ok_step (evT_s hC a h1 rm L hsc hw I) fun b s₁ ⟨e,o,k,i⟩=>⟨by rw [e],o,k,i⟩)
  | .bop op xs p=>by
    intro h _ s _ _ _ rm L hsc hw I
    exact wpAny_isTrue_BoolOp (evTs_s hC op xs h rm L hsc hw I)
  | .ite ..=>fun h=>nn h
  | .cmp op l r p=>by
    intro h _ s _ _ _ rm L hsc hw I
    refine bse h fun q h1 h=>?_
    refine bse h fun q' h2 h=>?_
    refine mse h fun c h3 h=>?_
    cases h
    refine wfe hw fun hwl hwr=>?_
    exact wpAny_isTrue_Compare1 (cmpE_s (ev_s hC l) (ev_s hC r) h1 h2 h3 rm L hsc hwl hwr I fun s' ⟨Ω',a',I',_⟩=>wpAny_truthy_bool ⟨rfl,Ω',a',I'⟩) (marks op hwr)
  | .tru b p=>by
    intro h _ s _ _ _ rm L hsc hw I
    cases h; exact isTrue_val (x:=.tru _ p) (wpAny_Constant_bool (wpAny_truthy_bool ⟨rfl,_,.refl,I⟩)) rfl
  | .loc k p=>by
    intro h _ s _ _ _ rm L hsc hw I
    refine bse h fun v h1 h=>?_
    refine mse h fun b h2 h=>?_
    cases h
    exact isTrue_val (x:=.loc k p) (ok_step (loc_s L hsc I hw h1) fun v s₁ ⟨Ω₁,a₁,I₁,r₁⟩=>okT_adv a₁ (truthy_s I₁ r₁ h2)) rfl
  | .glob k u p=>by
    intro h _ s _ _ _ rm L hsc hw I
    refine mse h fun b h2 h=>?_
    cases h
    refine wfe hw fun hk hw=>?_
    refine wfe hw fun h1 h3=>?_
    exact isTrue_val (x:=.glob k u p) (ok_step (glob_s (v:=u) L hsc I hk (beq_iff_eq.mp h1) h3) fun v s₁ ⟨Ω₁,a₁,I₁,r₁⟩=>okT_adv a₁ (truthy_s I₁ r₁ h2)) rfl
  | .call f args p=>by
    intro h _ s _ _ _ rm L hsc hw I
    refine bse h fun q h1 h=>?_
    refine bse h fun q' h2 h=>?_
    refine bse h fun z h3 h=>?_
    refine mse h fun b h4 h=>?_
    cases h
    refine wfe hw fun hwf hw=>?_
    refine wfe hw fun hws hl=>?_
    exact isTrue_val (x:=.call f args p) (ok_step (callE_s (nm_ne (wf_and hl).2) hC (ev_s hC f) (evs_s hC args) h1 h2 h3 rm L hsc hwf hws I) fun v s₁ ⟨Ω₁,a₁,I₁,r₁⟩=>okT_adv a₁ (truthy_s I₁ r₁ h4)) rfl
  | .mcall o k args ap p=>by
    intro h _ s _ _ _ rm L hsc hw I
    refine bse h fun q h1 h=>?_
    refine bse h fun r h0 h=>?_
    refine bse h fun q' h2 h=>?_
    refine bse h fun z h3 h=>?_
    refine mse h fun b h4 h=>?_
    cases h
    exact isTrue_val (x:=.mcall o k args ap p) (ok_step (mcallE_s hC (ev_s hC o) (evs_s hC args) h1 h0 h2 h3 rm L hsc hw I) fun v s₁ ⟨Ω₁,a₁,I₁,r₁⟩=>okT_adv a₁ (truthy_s I₁ r₁ h4)) rfl
  | .attr o k p=>by
    intro h _ s _ _ _ rm L hsc hw I
    refine bse h fun q h1 h=>?_
    refine bse h fun z h3 h=>?_
    refine mse h fun b h4 h=>?_
    cases h
    refine wfe hw fun hwo hns=>?_
    exact isTrue_val (x:=.attr o k p) (ok_step (attr_s hns (ev_s hC o) h1 h3 rm L hsc hwo I) fun v s₁ ⟨Ω₁,a₁,I₁,r₁⟩=>okT_adv a₁ (truthy_s I₁ r₁ h4)) rfl
  | .sub o i p=>by
    intro h _ s _ _ _ rm L hsc hw I
    refine bse h fun q h1 h=>?_
    refine bse h fun q' h2 h=>?_
    refine bse h fun z h3 h=>?_
    refine mse h fun b h4 h=>?_
    cases h
    refine wfe hw fun hwo hwi=>?_
    exact isTrue_val (x:=.sub o i p) (ok_step (sub_s hwi (ev_s hC o) (ev_s hC i) h1 h2 h3 rm L hsc hwo I) fun v s₁ ⟨Ω₁,a₁,I₁,r₁⟩=>okT_adv a₁ (truthy_s I₁ r₁ h4)) rfl
  | .num ..=>fun h=>nn h
  | .st ..=>fun h=>nn h
  | .non ..=>fun h=>nn h
  | .bin ..=>fun h=>nn h
  | .neg ..=>fun h=>nn h
  | .slc ..=>fun h=>nn h
  | .rev ..=>fun h=>nn h
  | .tup ..=>fun h=>nn h
  | .lst ..=>fun h=>nn h
  | .dct ..=>fun h=>nn h
  | .comp ..=>fun h=>nn h
  | .lam ..=>fun h=>nn h
  | .byt ..=>fun h=>nn h
  | .raw ..=>fun h=>nn h
theorem evTs_s (hC:ClS G n C):∀ (op:BoolOp) (xs:List X),EvTsP G n C op xs
  | .And,[]=>by
    intro h _ s _ _ _ rm L hsc hw I
    cases h; exact wpAny_allTrue_And_nil ⟨rfl,_,.refl,I⟩
  | .Or,[]=>by
    intro h _ s _ _ _ rm L hsc hw I
    cases h; exact wpAny_allTrue_Or_nil ⟨rfl,_,.refl,I⟩
  | .And,x :: r=>by
    intro h _ s _ _ _ rm L hsc hw I
    refine bse h fun q h1 h=>?_
    refine wfe hw fun hwx hwr=>?_
    refine wpAny_allTrue_And_cons (ok_step (evT_s hC x h1 rm L hsc hwx I) fun b' s₁ ⟨e,Ω₁,a₁,I₁⟩=>?_)
    subst e
    cases hq:q.1 with
    | true=>rw [hq] at h; exact okT_adv a₁ (evTs_s hC .And r h rm (L.adv a₁) hsc hwr I₁)
    | false=>rw [hq] at h; cases h; exact ⟨rfl,Ω₁,a₁,I₁⟩
  | .Or,x :: r=>by
    intro h _ s _ _ _ rm L hsc hw I
    refine bse h fun q h1 h=>?_
    refine wfe hw fun hwx hwr=>?_
    refine wpAny_allTrue_Or_cons (ok_step (evT_s hC x h1 rm L hsc hwx I) fun b' s₁ ⟨e,Ω₁,a₁,I₁⟩=>?_)
    subst e
    cases hq:q.1 with
    | true=>rw [hq] at h; cases h; exact ⟨rfl,Ω₁,a₁,I₁⟩
    | false=>rw [hq] at h; exact okT_adv a₁ (evTs_s hC .Or r h rm (L.adv a₁) hsc hwr I₁)
end
end
end Internal
namespace Internal
end Internal
namespace Internal
open PySem PySem.W PyProof.Rows PySem.Calls
noncomputable def exA (env:Env):Addr→Prop:=fun a=>a=env.locals ∨ ∃ x,env.kindOf x=some .cell∧env.cells.lookup x=some a
structure LS (P:Params) (Ω:Om) (h:Heap) (env:Env) (m:M):Prop extends LR P Ω h env m where
  opn:∀ n,n < lim→env.kindOf (dec n)=some .cell→look m n=none→∃ c,env.cells.lookup (dec n)=some c∧h.IsCell c none∧Ω.fz c=none∧c ∉ Ω.rho∧c≠env.locals
  apart:∀ x y c,env.kindOf x=some .cell→env.kindOf y=some .cell→env.cells.lookup x=some c→env.cells.lookup y=some c→x=y
  alive:∀ a,exA env a→a ∉ Ω.rho∧∃ o,h.get? a=some o
theorem look_put {n:Nat} {v:V}:∀ (m:M) (k:Nat),look (put m n v) k=if n=k then some v else look m k
  | [],k=>look_if
  | (j,w) :: r,k=>by
    rw [put_if]
    by_cases h:j=n
    · subst h
      rw [if_pos rfl]
      rw [look_if,look_if]
      by_cases e:j=k <;> simp [e]
    · rw [if_neg h]
      rw [look_if,look_if]
      by_cases e:j=k
      · subst e
        rw [if_pos rfl,if_pos rfl,if_neg (Ne.symm h)]
      · rw [if_neg e,if_neg e]
        exact look_put r k
theorem Adv.outR {ex:Addr→Prop} {Ω Ω₁:Om} {s s₁:Shared} (x:Adv ex Ω s Ω₁ s₁) {a:Addr} {o:Obj} (ho:s.heap.get? a=some o) (hr:a ∉ Ω.rho) (he:¬ ex a):a ∉ Ω₁.rho:=by
  refine e1_2 x.rho fun t e ht=>?_
  rw [e]
  intro hm
  rcases List.mem_append.mp hm with h | h
  · exact hr h
  · rcases ht a h with h | h | h
    · rw [h] at ho; exact nn ho
    · exact he h
    · exact hr h
section
variable {P:Params} {Ω Ω':Om} {s s':Shared} {env:Env} {m m':M} {h h':Heap}
theorem LS.congr (L:LS P Ω h env m) (e:∀ n,look m n=look m' n):LS P Ω h env m':=by
  obtain ⟨⟨k,g,b,ks,⟨mm,hn,hm⟩,c,lq,f,r⟩,o,a,al⟩:=L
  exact ⟨⟨k,g,b,fun n v h=>ks n v ((e n).trans h),⟨mm,hn,fun n v h=>hm n v ((e n).trans h)⟩,fun n v h=>c n v ((e n).trans h),lq,f,r⟩,fun n hl hk h=>o n hl hk ((e n).trans h),a,al⟩
theorem LS.adv (L:LS P Ω s.heap env m) (a:Adv no Ω s Ω' s'):LS P Ω' s'.heap env m:=by
  refine ⟨L.toLR.adv a,fun n hl hk h=>?_,L.apart,fun x hx=>?_⟩
  · refine e1_5 (L.opn n hl hk h) ?_;rintro c hc ⟨o,ho,hd⟩ hf hr hn
    have ⟨q1,q2,q3⟩:=a.out ho hr (fun h=>h) hf
    exact ⟨c,hc,⟨o,q3,hd⟩,q1,q2,hn⟩
  · obtain ⟨h1,o,h2⟩:=L.alive x hx
    exact ⟨a.outR h2 h1 (fun h=>h),o,a.keep _ _ h2 h1 fun h=>h⟩
theorem LS.but {it:Addr} (L:LS P Ω h env m) (hs:Heap.ExtBut it h h') (hn:¬ exA env it):LS P Ω h' env m:=by
  have hl:env.locals≠it:=fun e=>hn (.inl e.symm)
  obtain ⟨⟨k,g,b,ks,⟨mm,⟨o,es,ep,ho,q⟩,hm⟩,c,lq,f,r⟩,op,a,al⟩:=L
  refine ⟨⟨k,g,b,ks,⟨mm,⟨o,es,ep,hs _ _ hl ho,q⟩,hm⟩,c,lq,f,r⟩,fun n hlt hk h=>?_,a,fun x hx=>?_⟩
  · refine e1_3 (op n hlt hk h) ?_;rintro c hc ⟨o,ho,hd⟩ hf
    exact ⟨c,hc,⟨o,hs _ _ (fun e=>hn (.inr ⟨_,hk,e ▸ hc⟩)) ho,hd⟩,hf⟩
  · obtain ⟨hr,o,ho⟩:=al x hx
    exact ⟨hr,o,hs _ _ (by rintro rfl; exact hn hx) ho⟩
end
section
variable {prog:Program} {w:World} {T:Tab} {F:Nat→Option Fn} {GL:Nat→V→Bool} {G:Base prog w T F GL}
variable {A:Around} {s:Shared} {Ω Ω':Om} {σ σ':S} {a b v:V} {x y z val:Value} {n i k:Nat} {c:Bool} {env:Env} {sc:Scope} {m m':M} {C:Cl} {it:Addr}
inductive OkS (G:Base prog w T F GL) (Ω:Om) (s:Shared) (env:Env) (m:M) (σ:S) (s':Shared):Prop
  | mk (Ω':Om) (a:Adv (exA env) Ω s Ω' s') (i:Inv w.params G.B Ω' σ s'.heap) (l:LS w.params Ω' s'.heap env m)
theorem OkS.adv {s' s₂:Shared} (a:Adv (exA env) Ω s Ω' s') (h:OkS G Ω' s' env m σ s₂):OkS G Ω s env m σ s₂:=let ⟨Ω₂,b,r,l⟩:=h; ⟨Ω₂,a.trans b,r,l⟩
theorem OkS.congr {s₂:Shared} (h:OkS G Ω s env m σ s₂) (e:∀ n,look m n=look m' n):OkS G Ω s env m' σ s₂:=let ⟨Ω₂,b,r,l⟩:=h; ⟨Ω₂,b,r,l.congr e⟩
theorem Adv.noA {s':Shared} (a:Adv no Ω s Ω' s'):Adv (exA env) Ω s Ω' s':=a.weaken fun _ h=>h.elim
theorem look_put_some {k n:Nat} {u v:V} (h:look (put m k v) n=some u):(n=k∧u=v) ∨ (n≠k∧look m n=some u):=by
  rw [look_put] at h
  split at h
  · rename_i e; cases h; exact .inl ⟨e.symm,rfl⟩
  · rename_i e; exact .inr ⟨fun q=>e q.symm,h⟩
theorem look_put_none {k n:Nat} {v:V} (h:look (put m k v) n=none):n≠k∧look m n=none:=by
  rw [look_put] at h
  split at h
  · cases h
  · rename_i e; exact ⟨fun q=>e q.symm,h⟩
theorem store_s (I:Inv w.params G.B Ω σ s.heap) (L:LS w.params Ω s.heap env m) (hk:env.kindOf (dec k)=some .local) (hlim:NL k) (rv:R w.params Ω v val) :
    wpAny (model prog w) A (storeName env (dec k) val) (fun _ s'=>OkS G Ω s env (put m k v) σ s') nope s:=by
  obtain ⟨⟨kd,g,bl,ks,⟨mm,hn,hm⟩,c,lq,f,r⟩,op,ap,al⟩:=L
  refine wpAny_storeName_local hk hn (fun h' hn' hs=>⟨Ω,.but hs.extBut (.inl rfl),I.but hs.extBut f r,?_⟩) (by rw [kd]; rfl)
  refine ⟨⟨kd,g,bl,fun n u h=>?_,⟨_,hn',fun n u h hl=>?_⟩,fun n u h hl=>?_,lq,f,r⟩,fun n hlt hc h=>?_,ap,fun x hx=>?_⟩
  · rcases look_put_some h with ⟨rfl,rfl⟩ | ⟨_,h⟩
    · exact hlim
    · exact ks n u h
  · rcases look_put_some h with ⟨rfl,rfl⟩ | ⟨hne,h⟩
    · exact ⟨val,if_pos rfl,rv⟩
    · refine e1_2 (hm n u h hl) fun val' e rv'=>?_
      exact ⟨val',(if_neg fun q=>hne (dec_inj (ks n u h).1 hlim.1 q)).trans e,rv'⟩
  · rcases look_put_some h with ⟨rfl,rfl⟩ | ⟨hne,h⟩
    · rw [hk] at hl; rcases hl with hl | hl <;> cases hl
    · exact c n u h hl
  · refine e0_2 (look_put_none h) fun hne h=>?_
    refine e1_5 (op n hlt hc h) ?_;rintro c hc' ⟨o,ho,hd⟩ hf hr hl
    exact ⟨c,hc',⟨o,hs.extBut _ _ hl ho,hd⟩,hf,hr,hl⟩
  · obtain ⟨hr,o,ho⟩:=al x hx
    by_cases e:x=env.locals
    · subst e
      refine e3_2 hn' ?_;clear hn';intro o' _ _ ho' _
      exact ⟨hr,o',ho'⟩
    · exact ⟨hr,o,hs.extBut _ _ e ho⟩
theorem storeC_s (I:Inv w.params G.B Ω σ s.heap) (L:LS w.params Ω s.heap env m) (hk:env.kindOf (dec k)=some .cell) (hlim:NL k) (hno:look m k=none) (rv:R w.params Ω v val) :
    wpAny (model prog w) A (storeName env (dec k) val) (fun _ s'=>OkS G Ω s env (put m k v) σ s') nope s:=by
  obtain ⟨⟨kd,g,bl,ks,⟨mm,hn,hm⟩,ce,lq,f,r⟩,op,ap,al⟩:=L
  refine e1_5 (op k hlim.1 hk hno) fun c hc hcell hf hr hl=>?_
  refine wpAny_storeName_cell kd hk hc hcell fun h' hcell' hs=>?_
  refine e1_2 hcell' ?_;clear hcell';intro o' ho' hd'
  have le:=Om.add_le (o:=o') hf
  have keep:=hs.extBut
  refine ⟨Ω.add c o',?_,?_,?_⟩
  · refine ⟨rfl,rfl,rfl,⟨[],by simp [Om.add],by simp⟩,le.fz,fun b q h=>?_,fun b q h _ e=>keep b q (by rintro rfl; exact e (.inr ⟨_,hk,hc⟩)) h⟩
    change (if b=c then some o' else Ω.fz b)=some q at h
    by_cases e:b=c
    · subst e; exact .inr (.inr (.inl (.inr ⟨_,hk,hc⟩)))
    · rw [if_neg e] at h; exact .inl h
  · refine ⟨fun b q h=>?_,fun b q h=>le.fz b q (I.base b q h),I.tab,I.len,I.nd,fun b hb=>?_,fun l q b h1 h2=>(I.objs l q b h1 h2).mono le fun p hp=>keep b p (by rintro rfl; exact hr (List.mem_of_getElem? h2)) hp⟩
    · change (if b=c then some o' else Ω.fz b)=some q at h
      by_cases e:b=c
      · subst e; rw [if_pos rfl] at h; cases h; exact ho'
      · rw [if_neg e] at h; exact keep b q e (I.fz b q h)
    · show (if b=c then some o' else Ω.fz b)=none
      rw [if_neg (by rintro rfl; exact hr hb)]; exact I.rfz b hb
  · refine e3_2 hn ?_;clear hn;intro o es ep ho q
    refine ⟨⟨kd,g,bl,fun n u h=>?_,⟨mm,⟨o,es,ep,keep _ _ (Ne.symm hl) ho,q⟩,fun n u h hl=>?_⟩,fun n u h hl=>?_,⟨fun h=>let ⟨h1,c,h2,h3⟩:=lq.1 h; ⟨h1,c,h2,fun h' k=>h3 h' fun x o q=>k x o (le.fz x o q)⟩,lq.2⟩,?_,r⟩,fun n hlt hcn h=>?_,ap,fun x hx=>?_⟩
    · rcases look_put_some h with ⟨rfl,rfl⟩ | ⟨_,h⟩
      · exact hlim
      · exact ks n u h
    · rcases look_put_some h with ⟨rfl,rfl⟩ | ⟨hne,h⟩
      · rw [hk] at hl; cases hl
      · refine e1_2 (hm n u h hl) fun val' e rv'=>?_
        exact ⟨val',e,rv'.mono le⟩
    · rcases look_put_some h with ⟨rfl,rfl⟩ | ⟨hne,h⟩
      · exact ⟨c,o',val,hc,Om.add_self,hd',rv.mono le⟩
      · refine e3_4 (ce n u h hl) fun c' o2 val' h2 h3 h4 rv'=>?_
        exact ⟨c',o2,val',h2,le.fz _ _ h3,h4,rv'.mono le⟩
    · show (if env.locals=c then some o' else Ω.fz env.locals)=none
      rw [if_neg (Ne.symm hl)]; exact f
    · refine e0_2 (look_put_none h) fun hne h=>?_
      refine e1_5 (op n hlt hcn h) ?_;rintro c' hc' ⟨o2,ho2,hd2⟩ hf2 hr2 hl2
      have hcc:c'≠c:=by
        rintro rfl
        exact hne (dec_inj hlt hlim.1 (ap _ _ _ hcn hk hc' hc))
      refine ⟨c',hc',⟨o2,keep _ _ hcc ho2,hd2⟩,?_,hr2,hl2⟩
      show (if c'=c then some o' else Ω.fz c')=none
      rw [if_neg hcc]; exact hf2
    · obtain ⟨hr',o2,ho2⟩:=al x hx
      by_cases e:x=c
      · subst e; exact ⟨hr',o',ho'⟩
      · exact ⟨hr',o2,keep _ _ e ho2⟩
noncomputable abbrev putAll (m:M) (l:List ((Nat × Nat) × V)):M:=l.foldl (fun m q=>put m q.1.1 q.2) m
theorem stores_s {act:Nat × Nat→Value→Sem Unit} (hact:∀ q val (A:Around) (s:Shared) (Q:Unit→Shared→Prop),wpAny (model prog w) A (storeName env (dec q.1) val) Q nope s→wpAny (model prog w) A (act q val) Q nope s) :
    ∀ (l:List ((Nat × Nat) × V)) (vals:List Value) (m:M) (s:Shared) (Ω:Om),Inv w.params G.B Ω σ s.heap→LS w.params Ω s.heap env m→(∀ q ∈ l,env.kindOf (dec q.1.1)=some .local∧NL q.1.1)→RL w.params Ω (l.map (·.2)) vals →
      wpAny (model prog w) A (assignInOrder (l.map fun q=>act q.1) vals) (fun _ s'=>OkS G Ω s env (putAll m l) σ s') nope s
  | [],vals,m,s,Ω,I,L,_,_=>PyProof.Rows.assignInOrder_nil ⟨Ω,.refl,I,L⟩
  | q :: l,vals,m,s,Ω,I,L,hq,⟨v,r,e,rv,rl⟩=>by
    subst e
    refine PyProof.Rows.assignInOrder_cons (hact _ _ _ _ _ (ok_step (store_s I L (hq q List.mem_cons_self).1 (hq q List.mem_cons_self).2 rv) fun _ s₁ ⟨Ω₁,a₁,I₁,L₁⟩=>?_))
    exact wpAny_mono (stores_s hact l r _ s₁ Ω₁ I₁ L₁ (fun p hp=>hq p (List.mem_cons_of_mem _ hp)) (rl.mono a₁.le)) (fun _ _ h=>h.adv a₁) fun _ _ e=>e
theorem look_putAll {n:Nat}:∀ (l:List ((Nat × Nat) × V)) (m:M),look (putAll m l) n=((l.reverse.find? fun q=>q.1.1 == n).map (·.2)).or (look m n)
  | [],m=>by simp [putAll]
  | q :: l,m=>by
    show look (putAll (put m q.1.1 q.2) l) n=_
    rw [look_putAll l,look_put,List.reverse_cons,List.find?_append]
    cases (l.reverse.find? fun q=>q.1.1 == n) with
    | some p=>simp
    | none =>
      by_cases e:q.1.1=n <;> simp [e]
theorem find_rev {n:Nat}:∀ {l:List ((Nat × Nat) × V)},(l.map (·.1.1)).Nodup→(l.reverse.find? fun q=>q.1.1 == n)=l.find? fun q=>q.1.1 == n
  | [],_=>rfl
  | q :: l,h=>by
    rw [List.map_cons,List.nodup_cons] at h
    rw [List.reverse_cons,List.find?_append,find_rev h.2,List.find?_cons]
    by_cases e:q.1.1=n
    · have:l.find? (fun q=>q.1.1 == n)=none:=by
        rw [List.find?_eq_none]
        intro p hp hpe
        exact h.1 (by rw [e,← beq_iff_eq.mp hpe]; exact List.mem_map_of_mem hp)
      rw [this]
      simp [e]
    · have:(q.1.1 == n)=false:=by simp [e]
      simp [this]
theorem putAll_rev {l:List ((Nat × Nat) × V)} (h:(l.map (·.1.1)).Nodup) (m:M) (n:Nat):look (putAll m l.reverse) n=look (putAll m l) n:=by
  rw [look_putAll,look_putAll,List.reverse_reverse,find_rev h]
end
end Internal
namespace Internal
open PySem PySem.W PyProof.Rows PySem.Calls
section
variable {prog:Program} {w:World} {T:Tab} {F:Nat→Option Fn} {GL:Nat→V→Bool} {G:Base prog w T F GL}
variable {A:Around} {s:Shared} {Ω Ω':Om} {σ σ':S} {a b v:V} {x y z val:Value} {n i k:Nat} {c:Bool} {env:Env} {sc:Scope} {m m':M} {C:Cl} {it:Addr} {vs:List V}
noncomputable def tgOk (sc:Scope) (x:Nat × Nat):Bool:=nok x.1 && sc.names.lookup (dec x.1) == some .local
set_option tactic.hygienic true in
theorem bindS_some {t:List (Nat × Nat)} {q:Nat × Nat} (h:bindS t (some q) v m σ=some m'):∃ vs,elems σ v=some vs∧vs.length=t.length∧m'=putAll m (t.zip vs):=by
  unfold bindS at h
  induction v using V.casesOn with
  | loc l =>
    dsimp only at h
    split at h
    · rename_i vs hs
      split at h
      · rename_i hl
        cases h
        exact ⟨vs,by simp [elems,hs],hl,rfl⟩
      · exact nn h
    · exact nn h
  | tup vs =>
    dsimp only [bindT] at h
    split at h
    · rename_i hl
      cases h
      exact ⟨vs,rfl,hl,rfl⟩
    · exact nn h
  | lst vs =>
    dsimp only [bindT] at h
    split at h
    · rename_i hl
      cases h
      exact ⟨vs,rfl,hl,rfl⟩
    · exact nn h
  | _=>exact nn h
theorem tg_mem {t:List (Nat × Nat)} (ht:t.all (tgOk env.scope)=true) (q:(Nat × Nat) × V) (hq:q ∈ t.zip vs):env.kindOf (dec q.1.1)=some .local∧NL q.1.1:=by
  have:=List.all_eq_true.mp ht q.1 (List.of_mem_zip hq).1
  exact ⟨beq_iff_eq.mp (wf_and this).2,nok_lim (wf_and this).1⟩
theorem target_s {t:List (Nat × Nat)} {tp:Option (Nat × Nat)} (rm:Room k A) (I:Inv w.params G.B Ω σ s.heap) (L:LS w.params Ω s.heap env m) (rv:R w.params Ω v val) (ht:t.all (tgOk env.scope)=true) (h:bindS t tp v m σ=some m') :
    wpAny (model prog w) A (assign (tgE t tp) env val) (fun _ s'=>OkS G Ω s env m' σ s') nope s:=by
  induction tp using Option.casesOn with
  | none =>
    have hT:bindT t none v m=some m':=by induction v using V.casesOn <;> exact h
    induction t using List.casesOn with
    | nil=>exact nn hT
    | cons q r =>
      induction r using List.casesOn with
      | nil =>
        cases hT
        have hq:=List.all_eq_true.mp ht q List.mem_cons_self
        exact PyProof.Rows.assign_Name (store_s I L (beq_iff_eq.mp (wf_and hq).2) (nok_lim (wf_and hq).1) rv)
      | cons _ _=>exact nn hT
  | some q =>
    refine e1_3 (bindS_some h) ?_;rintro vs he hl rfl
    refine e0_2 (zip_fst hl) fun z1 z2=>?_
    show wpAny _ _ (assign (.Tuple (t.map nmE) q.1 (dpos q.2)) env val) _ _ _
    rw [PyProof.Rows.assign_Tuple,assignEach_nm]
    refine wpAny_bind (wpAny_standAt ?_)
    unfold unpack
    have hfi:(t.map fun q=>(false,assign (nmE q) env)).findIdx? (·.1)=none:=by simp [List.findIdx?_eq_none_iff]
    rw [hfi]
    refine wpAny_bind (wpAny_holding (unpackItems_s rm I rv he (by simp [hl]) fun h' tk vals hs rl=>?_))
    have hx:¬ exA env s.heap.objs.size:=fun e=>by
      obtain ⟨_,o,ho⟩:=L.alive _ e
      exact absurd (Heap.lt_size ho) (Nat.lt_irrefl _)
    have key:=stores_s (G:=G) (A:=A) (act:=fun q=>assign (nmE q) env) (fun q val A s Q h=>PyProof.Rows.assign_Name h) (t.zip vs) vals m { s with heap:=h',toks:=tk } Ω (I.but hs I.fresh I.freshR) (L.but hs hx) (tg_mem ht) (by rw [z2]; exact rl)
    have e1:((t.zip vs).map fun q=>assign (nmE q.1) env)=(t.map fun q=>(false,assign (nmE q) env)).map (·.2):=by
      rw [List.map_map,show ((fun q:(Nat × Nat) × V=>assign (nmE q.1) env))=(fun q:Nat × Nat=>assign (nmE q) env) ∘ (·.1) from rfl,← List.map_map,z1]; rfl
    rw [e1] at key
    refine wpAny_mono key (fun _ _ h=>?_) fun _ _ e=>e
    have ad:Adv (fun a=>exA env a ∨ s.heap.get? a=none) Ω s Ω { s with heap:=h',toks:=tk }:=.but hs (.inr (Heap.get?_none_of_le (Nat.le_refl _)))
    obtain ⟨Ω₂,a₂,r,l⟩:=h
    exact ⟨Ω₂,(ad.trans (a₂.weaken fun _ h=>.inl h)).drop,r,l⟩
end
end Internal
namespace Internal
open PySem PySem.W PyProof.Rows PySem.Calls
noncomputable def isComp (x:X):Bool:=Nat.beq x.ctorIdx 21 || Nat.beq x.ctorIdx 24
noncomputable def isTupX (x:X):Bool:=Nat.beq x.ctorIdx 18 || Nat.beq x.ctorIdx 24
noncomputable def swapOk (sc:Scope) (n q:Nat) (line:Nat):X→Bool
  | .comp _ _ _ _ sc' p'=>q / 90000 == p' / 90000 && !(sc'.names.any fun y=>y.1 == dec n && (y.2 == .local || y.2 == .cell))
  | .raw _=>false
  | _=>true
noncomputable def swap2 (ns:List (Nat × Nat)):X→Bool
  | .tup xs _ _=>ns.length == xs.length && ((ns.length == 2 || ns.length == 3) && (ns.all (fun q=>q.2 / 90000 == (ns.headD (0,0)).2 / 90000) && (decide (ns.map (·.1)).Nodup && ((ns.map fun q=>dec q.1).eraseDups.length == ns.length && (!((toEs xs).all (foldedForSure 8)) && !((toEs xs).all (constantsAlone 8)))))))
  | .raw _=>false
  | _=>true
section
variable (GL:Nat→V→Bool) (sc:Scope)
noncomputable def wfTg:Tg→Bool
  | .name n p=>tgOk sc (n,p)
  | .cel n _=>nok n && sc.names.lookup (dec n) == some .cell
  | .tup ns _ _=>ns.all (tgOk sc)
  | .attr o _ _=>wf GL sc o
  | .sub o i _=>wf GL sc o && (wf GL sc i && (match i with | .slc ..=>false | _=>true))
noncomputable def wfAs (p:Nat):Tg→X→Bool
  | .name n q,x=>swapOk sc n q (p / 90000) x
  | .tup ns _ _,x=>swap2 ns x
  | _,x=>!isComp x
mutual
noncomputable def wfS:XS→Bool
  | .assign t x p=>wfTg GL sc t && (wf GL sc x && wfAs sc p t x)
  | .expr x _=>wf GL sc x && !isComp x
  | .ifs t b o _=>wf GL sc t && (wfSs b && wfSs o)
  | .ret x _=>wf GL sc x
  | .for_ t _ it b _=>wf GL sc it && (t.all (tgOk sc) && wfSs b)
  | .whl t b _=>wf GL sc t && wfSs b
  | .rais _ _=>true
  | .raw _=>false
noncomputable def wfSs:List XS→Bool
  | []=>true
  | s :: r=>wfS s && wfSs r
end
end
section
variable {prog:Program} {w:World} {T:Tab} {F:Nat→Option Fn} {GL:Nat→V→Bool} {G:Base prog w T F GL}
variable {A:Around} {s:Shared} {Ω Ω':Om} {σ σ':S} {a b v:V} {x y z val:Value} {n i k:Nat} {c:Bool} {env:Env} {m m':M} {C:Cl} {it:Addr} {vs:List V}
noncomputable def FlowOk (G:Base prog w T F GL) (Ω:Om) (s:Shared) (env:Env) (r:Option V) (m:M) (σ:S):Flow→Shared→Prop:=fun f s'=>∃ Ω',Adv (exA env) Ω s Ω' s'∧Inv w.params G.B Ω' σ s'.heap∧LS w.params Ω' s'.heap env m ∧
  match r with | none=>f = .next | some v=>∃ val,f = .ret val∧R w.params Ω' v val
theorem FlowOk.adv {r:Option V} {f:Flow} {s' s₂:Shared} (a:Adv (exA env) Ω s Ω' s') (h:FlowOk G Ω' s' env r m σ f s₂):FlowOk G Ω s env r m σ f s₂:=let ⟨Ω₂,b,q⟩:=h; ⟨Ω₂,a.trans b,q⟩
theorem flow_adv {r:Option V} {s':Shared} {t:Sem Flow} (a:Adv (exA env) Ω s Ω' s') (h:wpAny (model prog w) A t (FlowOk G Ω' s' env r m σ) nope s'):wpAny (model prog w) A t (FlowOk G Ω s env r m σ) nope s' :=
  wpAny_mono h (fun _ _ q=>q.adv a) fun _ _ e=>e
theorem oks_flow {s':Shared} (h:OkS G Ω s env m σ s'):FlowOk G Ω s env none m σ .next s':=let ⟨Ω',a,i,l⟩:=h; ⟨Ω',a,i,l,rfl⟩
noncomputable def ExP (G:Base prog w T F GL) (n:Nat) (C:Cl) (st:XS):Prop:=∀ {m:M} {σ:S} {r:Option V} {m':M} {σ':S},ex T C st m σ=some (r,m',σ')→∀ {A:Around} {s:Shared} {Ω:Om} {env:Env},Room n A→LS w.params Ω s.heap env m→wfS GL env.scope st=true →
  Inv w.params G.B Ω σ s.heap→wpAny (model prog w) A (exec st.toS env) (FlowOk G Ω s env r m' σ') nope s
noncomputable def ExsP (G:Base prog w T F GL) (n:Nat) (C:Cl) (ss:List XS):Prop:=∀ {m:M} {σ:S} {r:Option V} {m':M} {σ':S},exs T C ss m σ=some (r,m',σ')→∀ {A:Around} {s:Shared} {Ω:Om} {env:Env},Room n A→LS w.params Ω s.heap env m→wfSs GL env.scope ss=true →
  Inv w.params G.B Ω σ s.heap→wpAny (model prog w) A (execs (toSs ss) env) (FlowOk G Ω s env r m' σ') nope s
theorem sc_self:SC env.scope env:=⟨fun _ h=>h,fun _ h=>h,fun _ h=>h,fun _ h=>.inr h⟩
theorem asgn_attr_s {o:X} {q p:Nat} (hC:ClS G n C) (rm:Room n A) (L:LS w.params Ω s.heap env m) (I:Inv w.params G.B Ω σ s.heap) (hw:wf GL env.scope o=true) (rv:R w.params Ω v val) (h:asgn T C (.attr o q p) v m σ=some (m',σ')) :
    wpAny (model prog w) A (assign (Tg.attr o q p).toE env val) (fun _ s'=>OkS G Ω s env m' σ' s') nope s:=by
  refine bse h fun r h1 h=>?_
  refine mse h fun σ₂ h2 h=>?_
  cases h
  show wpAny _ _ (do let ov ← holding [val] (eval o.toE env); standAt (dpos p).atName; holding [val,ov] (PySem.setAttr ov (dec q) val); release [val,ov] []) _ _ _
  refine wpAny_bind (wpAny_holding (ok_step (ev_s hC o h1 rm L.toLR sc_self hw I) fun ov s₁ ⟨Ω₁,a₁,I₁,r₁⟩=>wpAny_bind (wpAny_standAt (wpAny_bind (wpAny_holding ?_)))))
  refine ok_step (setAttr_s I₁ r₁ (rv.mono a₁.le) h2) fun _ s₂ ⟨Ω₂,a₂,I₂⟩=>wpAny_release ⟨Ω₂,(a₁.trans a₂).noA,I₂,(L.adv a₁).adv a₂⟩
theorem asgn_sub_s {o i:X} {p:Nat} (hC:ClS G n C) (rm:Room n A) (L:LS w.params Ω s.heap env m) (I:Inv w.params G.B Ω σ s.heap) (hw:wf GL env.scope o=true) (hwi:wf GL env.scope i=true) (rv:R w.params Ω v val) (h:asgn T C (.sub o i p) v m σ=some (m',σ')) :
    wpAny (model prog w) A (assign (Tg.sub o i p).toE env val) (fun _ s'=>OkS G Ω s env m' σ' s') nope s:=by
  refine bse h fun r h1 h=>?_
  refine bse h fun r' h2 h=>?_
  refine mse h fun σ₂ h3 h=>?_
  cases h
  show wpAny _ _ (holding [val] (eval o.toE env) >>= _) _ _ _
  refine wpAny_bind (wpAny_holding (ok_step (ev_s hC o h1 rm L.toLR sc_self hw I) fun ov s₁ ⟨Ω₁,a₁,I₁,r₁⟩=>wpAny_bind (wpAny_holding (ok_step (ev_s hC i h2 rm (L.adv a₁).toLR sc_self hwi I₁) fun iv s₂ ⟨Ω₂,a₂,I₂,r₂⟩=>wpAny_bind (wpAny_standAt (wpAny_bind (wpAny_holding ?_)))))))
  refine ok_step (setItem_s I₂ (r₁.mono a₂.le) r₂ ((rv.mono a₁.le).mono a₂.le) h3) fun _ s₃ ⟨Ω₃,a₃,I₃⟩=>wpAny_release ⟨Ω₃,((a₁.trans a₂).trans a₃).noA,I₃,((L.adv a₁).adv a₂).adv a₃⟩
theorem swapsNo {x:X} {t:Option PySem.Expr} {line:Nat} (h:isComp x=false):swapsWith x.toE t line env=pure false:=by
  induction x using X.casesOn <;> first | rfl | (cases h; done)
noncomputable def isTupE (e:PySem.Expr):Bool:=Nat.beq e.ctorIdx 25
theorem stNo {ts:List PySem.Expr} {e:PySem.Expr} (h:isTupE e=false):swappedStores ts e env=pure none:=by
  induction ts using List.casesOn with
  | nil=>rfl
  | cons t r=>induction r using List.casesOn with
    | nil=>induction t using PySem.Expr.casesOn <;> first | rfl | (induction e using PySem.Expr.casesOn <;> first | rfl | exact ff h.symm)
    | cons _ _=>induction t using PySem.Expr.casesOn <;> rfl
theorem storesNo {x:X} {ts:List PySem.Expr} (h:isTupX x=false):swappedStores ts x.toE env=pure none :=
  stNo (by induction x using X.casesOn <;> first | rfl | cases h)
end
end Internal
namespace Internal
open PySem PySem.W PyProof.Rows PySem.Calls
theorem not_star {f:PySem.Expr→Bool} {xs:List X} {GL:Nat→V→Bool} {sc:Scope} (hf:∀ x,wf GL sc x=true→f x.toE=false) (h:wfs GL sc xs=true):(toEs xs).any f=false:=by
  induction xs with
  | nil=>rfl
  | cons x r ih =>
    refine wfe h fun h1 h2=>?_
    show (f x.toE || (toEs r).any _)=false
    rw [hf x h1,ih h2]; rfl
theorem names_eq {f:PySem.Expr→Option Str} {env:Env} {l:Nat} (hf:∀ q,f (nmE q)=if env.kindOf (dec q.1) == some .local && (dpos q.2).line == l then some (dec q.1) else none):∀ ns:List (Nat × Nat),ns.all (tgOk env.scope)=true→ns.all (fun q=>q.2 / 90000 == l)=true →
    (ns.map nmE).filterMap f=ns.map fun q=>dec q.1
  | [],_,_=>rfl
  | q :: r,h1,h2=>by
    rw [List.all_cons] at h1 h2
    refine wfe h1 fun a h1=>?_
    refine wfe h2 fun b h2=>?_
    have e1:(env.kindOf (dec q.1) == some .local)=true:=(wf_and a).2
    have e2:((dpos q.2).line == l)=true:=b
    have e:=hf q
    rw [e1,e2] at e
    rw [List.map_cons,List.filterMap_cons,e,names_eq hf r h1 h2]
    rfl
theorem swapped_eq {ns:List (Nat × Nat)} {xs:List X} {k k' kp':Nat} {kp:Pos} {env:Env} {GL:Nat→V→Bool} {sc:Scope} (h:swap2 ns (.tup xs k' kp')=true) (hk:env.scope.kind = .function) (ht:ns.all (tgOk env.scope)=true) (hw:wfs GL sc xs=true) :
    swappedStores [.Tuple (ns.map nmE) k kp] (X.tup xs k' kp').toE env=pure (some (ns.map fun q=>dec q.1)):=by
  refine wfe h fun h1 h=>?_
  refine wfe h fun h2 h=>?_
  refine wfe h fun h3 h=>?_
  refine wfe h fun h4 h=>?_
  refine wfe h fun h5 h=>?_
  refine wfe h fun h6 h7=>?_
  rw [Bool.not_eq_true'] at h6 h7
  have hb:(env.blockKind != .function)=false:=by unfold Env.blockKind; rw [hk]; rfl
  have hl:(((ns.map nmE).head?.map (·.pos.line)).getD 0)=(ns.headD (0,0)).2 / 90000:=by induction ns using List.casesOn <;> rfl
  have e1:(!((ns.map nmE).length == 2 || (ns.map nmE).length == 3) || (toEs xs).length != (ns.map nmE).length || env.blockKind != .function)=false:=by
    rw [hb,toEs_length,List.length_map,h2,← beq_iff_eq.mp h1]; simp
  unfold swappedStores
  show (if _=true then _ else _)=_
  dsimp only
  rw [hl]
  erw [names_eq (l:=(ns.headD (0,0)).2 / 90000) (by intro q; rfl) ns ht h3,if_neg (by rw [e1]; decide),if_neg (by exact fun q=>Bool.noConfusion (q.symm.trans (not_star (by intro x h1; induction x using X.casesOn <;> first | rfl | (exact ff h1; done)) hw)))]
  rw [if_neg (by rw [List.length_map,List.length_map,beq_iff_eq.mp h5]; simp),if_neg (by rw [h6]; decide),if_neg (by rw [h7]; decide)]
section
variable {prog:Program} {w:World} {A:Around} {R':Result→Shared→Prop} {s:Shared}
theorem forLoop2 {target:PySem.Expr} {it:Value} {body orelse:List Stmt} {env:Env} (I:Nat→Shared→Prop)
    (turn:∀ n s,I n s→wpAny (model prog w) A (pyNext it) (fun r s₁=>match r with
      | none=>wpAny (model prog w) A (execs orelse env) (fun f s₃=>R' (.ok f) s₃) nope s₁
      | some v=>wpAny (model prog w) A (letOwnedTupleGo target it v) (fun _ s₁=>wpAny (model prog w) A (assign target env v) (fun _ s₂=>wpAny (model prog w) A (execs body env) (fun f s₃=>match f with
          | .next | .cont=>∃ m,m < n∧I m s₃
          | .brk=>R' (.ok .next) s₃
          | .ret v=>R' (.ok (.ret v)) s₃) nope s₂) nope s₁) nope s₁) nope s)
    (n:Nat) (h:I n s):codeAny (model prog w) A (.forLoop target it body orelse env) R' s:=by
  have ne:∀ {α:Type} {t:Sem α} {Q:α→Shared→Prop} {E:Value→Shared→Prop} {s:Shared},wpAny (model prog w) A t Q nope s→wpAny (model prog w) A t Q E s:=fun h=>wpAny_mono h (fun _ _ q=>q) fun _ _ e=>e.elim
  refine codeAny_loop' rfl I (fun n s hI=>?_) n h
  show wpAny _ _ ((forTurn target it body orelse env).onRaise (fun x=>do noteFrame x env; theTreesLotGoes x)) _ _ s
  refine wpAny_noted ?_
  simp only [forTurn]
  refine wpAny_bind (wpAny_standAt (wpAny_bind (wpAny_onRaise (wpAny_mono (turn n s hI) (fun r s₁ h₁=>?_) fun _ _ h'=>h'.elim))))
  induction r using Option.casesOn with
  | none=>exact wpAny_pure (.inr ⟨rfl,codeAny_block (ne h₁)⟩)
  | some v =>
    refine wpAny_bind (wpAny_mono h₁ (fun _ s₁ h₁=>?_) fun _ _ h'=>h'.elim)
    refine wpAny_bind (wpAny_mono h₁ (fun _ s₂ h₂=>wpAny_bind (wpAny_mono h₂ (fun f s₃ h₃=>?_) fun _ _ h'=>h'.elim)) fun _ _ h'=>h'.elim)
    cases f with
    | next=>exact wpAny_pure (.inl ⟨rfl,h₃⟩)
    | cont=>exact wpAny_pure (.inl ⟨rfl,h₃⟩)
    | brk=>exact wpAny_pure h₃
    | ret v=>exact wpAny_pure h₃
end
section
variable {prog:Program} {w:World} {T:Tab} {F:Nat→Option Fn} {GL:Nat→V→Bool} {G:Base prog w T F GL}
variable {A:Around} {s:Shared} {Ω Ω':Om} {σ σ':S} {a b v:V} {x y z val:Value} {n i k:Nat} {c:Bool} {env:Env} {m m':M} {C:Cl} {it:Addr} {vs:List V}
structure Turns (f:V→M→S→Rx) (v:V) (res:Option V × M × S) (at_:Nat→Nat→M→S→Prop):Prop where
  goes:∀ {n i m σ},at_ n i m σ→goes σ v
  fin:∀ {n i m σ},at_ n i m σ→cur σ v i=none→res=(none,m,σ)
  step:∀ {n i m σ u},at_ n i m σ→cur σ v i=some u→∃ q,f u m σ=some q∧(match q.1 with | some w=>res=(some w,q.2) | none=>∃ n',n' < n∧at_ n' (i + 1) q.2.1 q.2.2)
inductive ForI (G:Base prog w T F GL) (env:Env) (at_:Nat→Nat→M→S→Prop) (s:Shared) (Ω:Om) (it:Addr) (v:V) (n:Nat) (s':Shared):Prop
  | mk (i:Nat) (Ω₁:Om) (m₁:M) (σ₁:S) (h:at_ n i m₁ σ₁) (a:Adv (fun a=>exA env a ∨ a=it) Ω s Ω₁ s') (i₁:Inv w.params G.B Ω₁ σ₁ s'.heap) (l:LS w.params Ω₁ s'.heap env m₁) (t:IterAt w.params Ω₁ s'.heap it v i) (f:Ω₁.fz it=none) (r:it ∉ Ω₁.rho)
theorem for_core {t:List (Nat × Nat)} {tp:Option (Nat × Nat)} {bd:List XS} {res:Option V × M × S} {at_:Nat→Nat→M→S→Prop} (rm:Room n A) (ihb:ExsP G n C bd) (ht:t.all (tgOk env.scope)=true) (hwb:wfSs GL env.scope bd=true)
    (TT:Turns (fun v m σ=>(bindS t tp v m σ).bind fun m'=>exs T C bd m' σ) v res at_) (h0:at_ k 0 m σ) (I:Inv w.params G.B Ω σ s.heap) (L:LS w.params Ω s.heap env m) (hit:IterAt w.params Ω s.heap it v 0)
    (hf:Ω.fz it=none) (hr:it ∉ Ω.rho) (hx:¬ exA env it) :
    codeAny (model prog w) A (.forLoop (tgE t tp) (.ref it) (toSs bd) [] env) (fun r s'=>match r with
      | .ok f=>∃ Ω',Adv (fun a=>exA env a ∨ a=it) Ω s Ω' s'∧Inv w.params G.B Ω' res.2.2 s'.heap∧LS w.params Ω' s'.heap env res.2.1∧(match res.1 with | none=>f = .next | some v=>∃ val,f = .ret val∧R w.params Ω' v val)
      | .error _=>False) s:=by
  refine forLoop2 (ForI G env at_ s Ω it v)
    (fun k s' hI=>?_) k ⟨0,Ω,m,σ,h0,.refl,I,L,hit,hf,hr⟩
  obtain ⟨i,Ω₁,m₁,σ₁,hat,a₁,I₁,L₁,it₁,hf₁,hr₁⟩:=hI
  cases hc:cur σ₁ v i with
  | none =>
    refine nextEnd_s rm I₁ it₁ (TT.goes hat) hc fun h' tk hs=>wpAny_execs_nil ?_
    have e:=TT.fin hat hc
    subst e
    exact ⟨Ω₁,a₁.trans (.but hs (.inr rfl)),I₁.but hs hf₁ hr₁,L₁.but hs hx,rfl⟩
  | some u =>
    refine next_s I₁ it₁ (TT.goes hat) hf₁ hr₁ hc fun h' tk val hs rv it₂=>?_
    have I₂:Inv w.params G.B Ω₁ σ₁ h':=I₁.but hs hf₁ hr₁
    have L₂:=L₁.but hs hx
    refine let_own (s:={ s' with heap:=h',toks:=tk }) _ _ it₂ ?_
    refine e1_2 (TT.step hat hc) fun q hq hn=>?_
    refine bse hq fun m₂ hb he=>?_
    refine ok_step (target_s (s:={ s' with heap:=h',toks:=tk }) rm I₂ L₂ rv ht hb) fun _ s₂ ⟨Ω₂,a₂,I₃,L₃⟩=>?_
    refine ok_step (ihb he rm L₃ hwb I₃) fun fl s₃ ⟨Ω₃,a₃,I₄,L₄,hfl⟩=>?_
    have a₂₃:=a₂.trans a₃
    refine e1_1 (IterAt.alive (s:={ s' with heap:=h',toks:=tk }) it₂) fun o ho=>?_
    have ⟨p1,p2,p3⟩:=a₂₃.out ho hr₁ hx hf₁
    have it₃:IterAt w.params Ω₃ s₃.heap it v (i + 1):=it₂.mono a₂₃.le fun o' ho'=>by
      have:o'=o:=Option.some.inj (ho'.symm.trans ho)
      rw [this]; exact p3
    have ad:Adv (fun a=>exA env a ∨ a=it) Ω s Ω₃ s₃:=(a₁.trans (.but hs (.inr rfl))).trans (a₂₃.weaken fun _ h=>.inl h)
    cases hq1:q.1 with
    | none =>
      rw [hq1] at hn hfl
      refine e1_2 hn ?_;clear hn;intro n' hlt hat'
      subst hfl
      exact ⟨n',hlt,i + 1,Ω₃,q.2.1,q.2.2,hat',ad,I₄,L₄,it₃,p1,p2⟩
    | some u' =>
      rw [hq1] at hn hfl
      refine e1_2 hfl ?_;clear hfl;rintro val' rfl rv'
      dsimp only at hn
      subst hn
      exact ⟨Ω₃,ad,I₄,L₄,val',rfl,rv'⟩
theorem turnsL {f:V→M→S→Rx} {res:Option V × M × S} (hv:∀ σ,goes σ v) (hc:∀ σ i,cur σ v i=vs[i]?) :
    Turns f v res (fun n i m σ=>n=vs.length - i∧i≤vs.length∧loopL f (vs.drop i) m σ=some res):=by
  refine ⟨fun _=>hv _,fun {n i m σ} h e=>?_,fun {n i m σ u} h e=>?_⟩
  · rw [hc,List.getElem?_eq_none_iff] at e
    refine e0_3 h ?_;clear h;intro _ _ h
    rw [List.drop_eq_nil_of_le e] at h
    exact (Option.some.inj h).symm
  · rw [hc] at e
    refine e1_1 (List.getElem?_eq_some_iff.mp e) ?_;rintro hlt rfl
    refine e0_3 h ?_;clear h;intro hn _ h
    rw [List.drop_eq_getElem_cons hlt] at h
    refine bse h fun q h1 h2=>?_
    refine ⟨q,h1,?_⟩
    cases hq:q.1 with
    | none=>rw [hq] at h2; exact ⟨vs.length - (i + 1),by rw [hn]; exact Nat.sub_succ_lt_self _ _ hlt,rfl,hlt,h2⟩
    | some w=>rw [hq] at h2; exact (Option.some.inj h2).symm
theorem turnsI {f:V→M→S→Rx} {res:Option V × M × S} {l:Nat} :
    Turns f (.loc l) res (fun n i m σ=>loopI f l n i m σ=some res):=by
  have key:∀ {n i m σ},loopI f l n i m σ=some res→∃ n' vs,n=n' + 1∧σ[l]? = some (.list vs)∧(match vs[i]? with
      | none=>some (none,m,σ)
      | some v=>(f v m σ).bind fun q=>match q.1 with | some w=>some (some w,q.2) | none=>loopI f l n' (i + 1) q.2.1 q.2.2)=some res:=by
    intro n i m σ h
    cases n with
    | zero=>exact nn h
    | succ n =>
      unfold loopI at h
      cases hs:σ[l]? with
      | none=>rw [hs] at h; exact nn h
      | some o =>
        rw [hs] at h
        induction o using O.casesOn with
        | list vs=>exact ⟨n,vs,rfl,rfl,h⟩
        | dict _=>exact nn h
        | obj _=>exact nn h
        | code _=>exact nn h
  refine ⟨fun h=>?_,fun {n i m σ} h e=>?_,fun {n i m σ u} h e=>?_⟩
  · refine e2_3 (key h) fun _ vs _ hs _=>?_; exact ⟨vs,hs⟩
  · refine e2_3 (key h) fun _ vs _ hs h=>?_
    have e:vs[i]? = none:=by simpa [cur,hs] using e
    rw [e] at h
    exact (Option.some.inj h).symm
  · refine e2_3 (key h) ?_;rintro n' vs rfl hs h
    have e:vs[i]? = some u:=by simpa [cur,hs] using e
    rw [e] at h
    refine bse h fun q h1 h2=>?_
    refine ⟨q,h1,?_⟩
    cases hq:q.1 with
    | none=>rw [hq] at h2; exact ⟨n',Nat.lt_succ_self _,h2⟩
    | some w=>rw [hq] at h2; exact (Option.some.inj h2).symm
end
end Internal
namespace Internal
open PySem PySem.W PyProof.Rows PySem.Calls
section
variable {prog:Program} {w:World} {T:Tab} {F:Nat→Option Fn} {GL:Nat→V→Bool} {G:Base prog w T F GL}
variable {A:Around} {s:Shared} {Ω Ω':Om} {σ σ':S} {a b v:V} {x y z val:Value} {n i k:Nat} {c:Bool} {env:Env} {m m':M} {C:Cl} {it:Addr} {vs:List V}
theorem assignComp_s {e i:X} {t:List (Nat × Nat)} {tp:Option (Nat × Nat)} {sc':Scope} {p k q p':Nat} (hC:ClS G n C) (h:ex T C (.assign (.name k q) (.comp e t tp i sc' p) p') m σ=some (none,m',σ')) (rm:Room n A) (L:LS w.params Ω s.heap env m)
    (hw:wfS GL env.scope (.assign (.name k q) (.comp e t tp i sc' p) p')=true) (I:Inv w.params G.B Ω σ s.heap):wpAny (model prog w) A (exec (XS.assign (.name k q) (.comp e t tp i sc' p) p').toS env) (FlowOk G Ω s env none m' σ') nope s:=by
  refine wfe hw fun hwt hw=>?_
  refine wfe hw fun hwx hwa=>?_
  refine wfe hwx fun hwi hw=>?_
  refine wfe hw fun hwe hok=>?_
  refine bse h fun r h1 hx=>?_
  refine mse hx fun zz hz1 hz2=>?_
  cases hz2
  have hz1:some (put m k r.1,r.2)=some (m',σ'):=hz1
  cases hz1
  refine bse h1 fun qq h2 h=>?_
  refine bse h fun vs h3 h=>?_
  refine mse h fun z h4 h=>?_
  subst h
  refine wfe hwt fun k1 k2=>?_
  have hkl:env.kindOf (dec k)=some .local:=beq_iff_eq.mp k2
  have hsw:swapsWith (X.comp e t tp i sc' p).toE (some (.Name (dec k) (dpos q))) (dpos p').line env=pure true:=by
    refine wfe hwa fun s1 s2=>?_
    show (pure (env.blockKind == .function && env.kindOf (dec k) == some .local && (dpos q).line == (dpos p).line && !(sc'.names.any fun (n,kk)=>n == dec k && (kk == .local || kk == .cell))):Sem Bool)=pure true
    congr 1
    have b1:(env.blockKind == .function)=true:=by unfold Env.blockKind; rw [L.kind]; rfl
    have b2:(env.kindOf (dec k) == some .local)=true:=k2
    have b3:((dpos q).line == (dpos p).line)=true:=s1
    rw [b1,b2,b3]
    simpa using s2
  show wpAny _ _ (exec (.Assign [.Name (dec k) (dpos q)] (X.comp e t tp i sc' p).toE (dpos p')) env) _ _ _
  rw [exec_Assign_Name_used _ _ _ _ hsw]
  refine wpAny_bind (wpAny_standAt (wpAny_bind ?_))
  show wpAny _ A (do let _ ← comprehension (X.comp e t tp i sc' p).toE sc' env _ (newList []) false (eval i.toE env) (some (assign (.Name (dec k) (dpos q)) env))) _ _ s
  refine wpAny_bind (wpAny_mono (comp_core (use:=some (assign (.Name (dec k) (dpos q)) env)) (Q:=fun _ s'=>FlowOk G Ω s env none (put m k (.lst z.1)) z.2 .next s') (ev_s hC e) (ev_s hC i) h2 h3 h4 rm L.toLR sc_self hwi hwe hok I
    fun s' Ω' D C' its kk mm ad I' hD rl f1 f2 f3 hn c1 c2 c3 hne=>?_) (fun _ s' hq=>wpAny_pure (wpAny_pure hq)) fun _ _ e=>e)
  have I₂:=I'.freeze hD f1 f2
  have ad₂:Adv no Ω s _ s':=ad.freeze (o:=listOf its kk) f3 f1
  have L₂:=L.adv ad₂
  have rD:R w.params (Ω'.add D (listOf its kk)) (.lst z.1) (.ref D):=⟨D,its,kk,rfl,Om.add_self,rl.mono (Om.add_le f1)⟩
  have cne:¬ exA env C':=fun hx=>by
    obtain ⟨_,o,ho⟩:=L.alive _ hx
    rw [c3] at ho; exact nn ho
  have cf:(Ω'.add D (listOf its kk)).fz C'=none:=by
    show (if C'=D then _ else Ω'.fz C')=none
    rw [if_neg hne]; exact c1
  show wpAny _ A (assign (.Name (dec k) (dpos q)) env (.ref D)) _ _ _
  refine PyProof.Rows.assign_Name (ok_step (store_s I₂ L₂ hkl (nok_lim k1) rD) fun _ s₃ ⟨Ω₃,a₃,I₃,L₃⟩=>?_)
  refine e3_2 hn ?_;clear hn;intro oC esC epC hoC rC
  have ⟨x1,x2,x3⟩:=a₃.out hoC c2 cne cf
  exact ⟨mm,⟨oC,esC,epC,x3,rC⟩,fun h' hs=>⟨Ω₃,(ad₂.noA.trans a₃).heap hs.extBut c3,I₃.but hs.extBut x1 x2,L₃.but hs.extBut cne,rfl⟩⟩
theorem assign1_s {t:Tg} {x:X} {p:Nat} {val:V} {σ₁:S} (hC:ClS G n C) (hx:isComp x=false) (hns:∀ ns k q,t ≠ .tup ns k q) (h1:ev T C x m σ=some (val,σ₁)) (rm:Room n A) (L:LS w.params Ω s.heap env m) (hwx:wf GL env.scope x=true) (I:Inv w.params G.B Ω σ s.heap)
    (k:∀ (s₁:Shared) (Ω₁:Om) (vv:Value),LS w.params Ω₁ s₁.heap env m→Inv w.params G.B Ω₁ σ₁ s₁.heap→R w.params Ω₁ val vv→wpAny (model prog w) A (assign t.toE env vv) (fun _ s'=>OkS G Ω₁ s₁ env m' σ' s') nope s₁) :
    wpAny (model prog w) A (exec (XS.assign t x p).toS env) (FlowOk G Ω s env none m' σ') nope s:=by
  have he:(assignEach [t.toE] env).map (·.2) = [assign t.toE env]:=by induction t using Tg.casesOn <;> rfl
  have hsw:swappedStores [t.toE] x.toE env=pure none:=by
    induction t using Tg.casesOn with
    | tup ns k q=>exact absurd rfl (hns _ _ _)
    | _=>unfold swappedStores; rfl
  refine wpAny_Assign_stores ?_ (swapsNo hx) hsw
  rw [he]
  refine ok_step (ev_s hC x h1 rm L.toLR sc_self hwx I) fun vv s₁ ⟨Ω₁,a₁,I₁,r₁⟩=>?_
  refine ok_step (k s₁ Ω₁ vv (L.adv a₁) I₁ r₁) fun _ s' h=>?_
  exact oks_flow (h.adv a₁.noA)
theorem isComp_inv {x:X} (h:isComp x=true) (hw:wf GL sc x=true):∃ e t tp it sc' p,x = .comp e t tp it sc' p:=by
  induction x using X.casesOn with
  | comp e t tp it sc' p'=>exact ⟨_,_,_,_,_,_,rfl⟩
  | raw _=>exact ff hw
  | _=>exact ff h
theorem isTupX_inv {x:X} (h:isTupX x=true) (hw:wf GL sc x=true):∃ xs k p,x = .tup xs k p:=by
  induction x using X.casesOn with
  | tup xs k p=>exact ⟨_,_,_,rfl⟩
  | raw _=>exact ff hw
  | _=>exact ff h
theorem sole_no {ns:List (Nat × Nat)} {k pk line:Nat} {x:X} (hw:wf GL sc x=true):swapsWithSole [(Tg.tup ns k pk).toE] x.toE line env=pure false:=by
  induction x using X.casesOn <;> first | rfl | (exact ff hw; done)
theorem assign_s {t:Tg} {x:X} {p:Nat} (hC:ClS G n C):ExP G n C (.assign t x p):=by
  intro m σ r m' σ' h A s Ω env rm L hw I
  have h':=h
  refine bse h fun q h1 h2=>?_
  refine mse h2 fun z h2 h3=>?_
  cases h3
  have hw':=hw
  refine wfe hw fun hwt hw=>?_
  refine wfe hw fun hwx hwa=>?_
  induction t using Tg.casesOn with
  | name k pk =>
    by_cases hx:isComp x=true
    · refine e6_1 (isComp_inv hx hwx) ?_;rintro e t tp it sc' p' rfl
      exact assignComp_s hC h' rm L hw' I
    · rw [Bool.not_eq_true] at hx
      cases h2
      exact assign1_s hC hx (fun _ _ _ e=>by cases e) h1 rm L hwx I fun s₁ Ω₁ vv L₁ I₁ r₁=>PyProof.Rows.assign_Name (store_s I₁ L₁ (beq_iff_eq.mp (wf_and hwt).2) (nok_lim (wf_and hwt).1) r₁)
  | cel k pk =>
    have hx:isComp x=false:=by rw [← Bool.not_eq_true']; exact hwa
    have h2:(if (look m k).isNone then some (put m k q.1,q.2) else none)=some (m',σ'):=h2
    split at h2
    · rename_i hno
      cases h2
      exact assign1_s hC hx (fun _ _ _ e=>by cases e) h1 rm L hwx I fun s₁ Ω₁ vv L₁ I₁ r₁=>PyProof.Rows.assign_Name (storeC_s I₁ L₁ (beq_iff_eq.mp (wf_and hwt).2) (nok_lim (wf_and hwt).1) (Option.isNone_iff_eq_none.mp hno) r₁)
    · exact nn h2
  | attr o k pk =>
    have hx:isComp x=false:=by rw [← Bool.not_eq_true']; exact hwa
    exact assign1_s hC hx (fun _ _ _ e=>by cases e) h1 rm L hwx I fun s₁ Ω₁ vv L₁ I₁ r₁=>asgn_attr_s hC rm L₁ I₁ hwt r₁ h2
  | sub o i pk =>
    have hx:isComp x=false:=by rw [← Bool.not_eq_true']; exact hwa
    exact assign1_s hC hx (fun _ _ _ e=>by cases e) h1 rm L hwx I fun s₁ Ω₁ vv L₁ I₁ r₁=>asgn_sub_s hC rm L₁ I₁ (wf_and hwt).1 (wf_and (wf_and hwt).2).1 r₁ h2
  | tup ns k pk =>
    refine mse h2 fun m₁ hb hz=>?_
    cases hz
    have hs:swapsWithSole [(Tg.tup ns k pk).toE] x.toE (dpos p).line env=pure false:=sole_no hwx
    by_cases hx:isTupX x=true
    · refine e3_1 (isTupX_inv hx hwx) ?_;rintro xs k' kp' rfl
      have hsw:=swapped_eq (k:=k) (kp:=dpos pk) (k':=k') (kp':=kp') hwa L.kind hwt (wf_and hwx).1
      refine Assign_Tuple_swapped ?_ hs hsw
      refine ok_step (ev_s hC _ h1 rm L.toLR sc_self hwx I) fun vv s₁ ⟨Ω₁,a₁,I₁,r₁⟩=>?_
      refine e1_3 (bindS_some hb) ?_;rintro vs hel hl rfl
      refine e0_2 (zip_fst hl) fun z1 z2=>?_
      refine unpackItems_s rm I₁ r₁ hel (by simp [hl]) fun h' tk vals hs rl=>?_
      have L₁:=L.adv a₁
      have hx:¬ exA env s₁.heap.objs.size:=fun e=>by
        obtain ⟨_,o,ho⟩:=L₁.alive _ e
        exact absurd (Heap.lt_size ho) (Nat.lt_irrefl _)
      have mem:∀ p ∈ (ns.zip vs).reverse,env.kindOf (dec p.1.1)=some .local∧NL p.1.1:=fun p hp=>tg_mem hwt p (List.mem_reverse.mp hp)
      have key:=stores_s (G:=G) (A:=A) (act:=fun q=>bindName env (dec q.1)) (fun q val A s Q h=>wpAny_bindName h) (ns.zip vs).reverse vals.reverse m { s₁ with heap:=h',toks:=tk } Ω₁ (I₁.but hs I₁.fresh I₁.freshR) (L₁.but hs hx) mem
        (by rw [List.map_reverse,z2]; exact rl.reverse)
      have e1:((ns.zip vs).reverse.map fun q=>bindName env (dec q.1.1))=((ns.map fun q=>dec q.1).reverse.map fun n=>bindName env n):=by
        rw [List.map_reverse,List.map_reverse,List.map_map,show ((fun q:(Nat × Nat) × V=>bindName env (dec q.1.1)))=((fun n=>bindName env n) ∘ fun q:Nat × Nat=>dec q.1) ∘ (·.1) from rfl,← List.map_map,z1]
      rw [e1] at key
      refine wpAny_mono key (fun _ s₃ h=>?_) fun _ _ e=>e
      have hnd:((ns.zip vs).map (·.1.1)).Nodup:=by
        have:(ns.zip vs).map (·.1.1)=ns.map (·.1):=by
          rw [show (fun q:(Nat × Nat) × V=>q.1.1)=(fun q:Nat × Nat=>q.1) ∘ (·.1) from rfl,← List.map_map,z1]
        rw [this]
        have hwa':=(wf_and (wf_and (wf_and (wf_and hwa).2).2).2).1
        exact of_decide_eq_true hwa'
      have h:=h.congr (putAll_rev hnd m)
      have ad:Adv (fun a=>exA env a ∨ s₁.heap.get? a=none) Ω₁ s₁ Ω₁ { s₁ with heap:=h',toks:=tk }:=.but hs (.inr (Heap.get?_none_of_le (Nat.le_refl _)))
      obtain ⟨Ω₂,a₂,i₂,l₂⟩:=h
      exact ⟨Ω₂,a₁.noA.trans (ad.trans (a₂.weaken fun _ h=>.inl h)).drop,i₂,l₂,rfl⟩
    · rw [Bool.not_eq_true] at hx
      refine Assign_Tuple ?_ hs (storesNo hx)
      refine ok_step (ev_s hC x h1 rm L.toLR sc_self hwx I) fun vv s₁ ⟨Ω₁,a₁,I₁,r₁⟩=>?_
      refine ok_step (target_s (t:=ns) (tp:=some (k,pk)) rm I₁ (L.adv a₁) r₁ hwt hb) fun _ s' h=>?_
      exact oks_flow (h.adv a₁.noA)
theorem items_cur {o:V} (h:items o=some vs):(∀ σ,goes σ o)∧∀ σ i,cur σ o i=vs[i]?:=by
  induction o using V.casesOn with
  | tup ws=>cases h; exact ⟨fun _=>trivial,fun _ _=>rfl⟩
  | lst ws=>cases h; exact ⟨fun _=>trivial,fun _ _=>rfl⟩
  | rng n =>
    have h:(if decide (0≤n) && decide (n < 1000) then some ((List.range n.toNat).map fun i=>V.int (i:Nat)) else none)=some vs:=h
    split at h
    · rename_i hn
      rw [Bool.and_eq_true,decide_eq_true_eq,decide_eq_true_eq] at hn
      cases h
      refine ⟨fun _=>hn,fun σ i=>?_⟩
      show (if (i:Int) < n then some (V.int i) else none)=_
      rw [List.getElem?_map]
      by_cases hi:(i:Int) < n
      · rw [if_pos hi,List.getElem?_range (by exact Int.lt_toNat.mpr hi)]; rfl
      · rw [if_neg hi,List.getElem?_eq_none (by rw [List.length_range]; exact Int.toNat_le.mpr (Int.not_lt.mp hi))]; rfl
    · exact nn h
  | _=>exact nn h
theorem for_s {t:List (Nat × Nat)} {tp:Option (Nat × Nat)} {itx:X} {bd:List XS} {pos:Pos} (hC:ClS G n C) (ihb:ExsP G n C bd):ExP G n C (.for_ t tp itx bd pos):=by
  intro m σ r m' σ' h A s Ω env rm L hw I
  refine bse h fun q h1 h2=>?_
  refine wfe hw fun hwi hw=>?_
  refine wfe hw fun ht hwb=>?_
  refine wpAny_For ?_ (by induction itx using X.casesOn <;> first | (intro _; rfl) | (exact ff hwi; done))
  refine ok_step (ev_s hC itx h1 rm L.toLR sc_self hwi I) fun vv s₁ ⟨Ω₁,a₁,I₁,r₁⟩=>?_
  have L₁:=L.adv a₁
  have go:∀ (at_:Nat→Nat→M→S→Prop) (k:Nat),Turns (fun v m σ=>(bindS t tp v m σ).bind fun m'=>exs T C bd m' σ) q.1 (r,m',σ') at_→at_ k 0 m q.2 →
      wpAny (model prog w) A (pyIter vv) (fun it s₂=>codeAny (model prog w) A (.forLoop (tgE t tp) it (toSs bd) [] env) (fun r_1 s'=>match r_1 with | .ok f=>FlowOk G Ω s env r m' σ' f s' | .error e=>cameBackBy (model prog w) A env nope e s') s₂) nope s₁:=by
    intro at_ k TT h0
    refine iter_s I₁ r₁ (TT.goes h0) fun h' hk hit=>?_
    have hx:¬ exA env s₁.heap.objs.size:=fun e=>by
      obtain ⟨_,o,ho⟩:=L₁.alive _ e
      exact absurd (Heap.lt_size ho) (Nat.lt_irrefl _)
    have hsb:Heap.ExtBut s₁.heap.objs.size s₁.heap h':=fun b o _ h=>hk b o h
    refine codeAny_mono (for_core (s:={ s₁ with heap:=h' }) rm ihb ht hwb TT h0 (I₁.keeps hk) (L₁.but hsb hx) hit I₁.fresh I₁.freshR hx) fun r' s' hr'=>?_
    cases r' with
    | error e=>exact hr'.elim
    | ok f =>
      refine e1_4 hr' ?_;clear hr';intro Ω₂ a₂ i₂ l₂ fl
      refine ⟨Ω₂,a₁.noA.trans (Adv.drop ?_),i₂,l₂,fl⟩
      have a₀:Adv (fun a=>exA env a ∨ s₁.heap.get? a=none) Ω₁ s₁ Ω₁ { s₁ with heap:=h' }:=.keeps (tk:=s₁.toks) hk
      exact a₀.trans (a₂.weaken fun a ha=>ha.imp id fun e=>by rw [e]; exact Heap.get?_none_of_le (Nat.le_refl _))
  cases hq:q.1 with
  | loc l =>
    rw [hq] at h2 go
    exact go _ fuel turnsI h2
  | _ =>
    rw [hq] at h2 go
    refine bse h2 fun vs h3 h4=>?_
    refine e0_2 (items_cur h3) fun g1 g2=>?_
    exact go _ _ (turnsL g1 g2) ⟨rfl,Nat.zero_le _,by rw [List.drop_zero]; exact h4⟩
inductive WhlI (G:Base prog w T F GL) (env:Env) (s:Shared) (Ω:Om) (r:Option V) (m':M) (σ':S) (f:Nat→M→S→Rx) (k:Nat) (s':Shared):Prop
  | mk (Ω₁:Om) (m₁:M) (σ₁:S) (h:f k m₁ σ₁=some (r,m',σ')) (a:Adv (exA env) Ω s Ω₁ s') (i:Inv w.params G.B Ω₁ σ₁ s'.heap) (l:LS w.params Ω₁ s'.heap env m₁)
theorem whl_s {t:X} {bd:List XS} {pos:Pos} (hC:ClS G n C) (ihb:ExsP G n C bd):ExP G n C (.whl t bd pos):=by
  intro m σ r m' σ' h A s Ω env rm L hw I
  refine wfe hw fun hwt hwb=>?_
  have h:loopW (fun m σ=>evT T C t m σ) (fun m σ=>exs T C bd m σ) fuel m σ=some (r,m',σ'):=h
  refine wpAny_While ?_
  have ne:∀ {α:Type} {t:Sem α} {Q:α→Shared→Prop} {E:Value→Shared→Prop} {s:Shared},wpAny (model prog w) A t Q nope s→wpAny (model prog w) A t Q E s:=fun h=>wpAny_mono h (fun _ _ q=>q) fun _ _ e=>e.elim
  refine codeAny_whileLoop (WhlI G env s Ω r m' σ' (loopW (fun m σ=>evT T C t m σ) (fun m σ=>exs T C bd m σ)))
    (fun k s' hI=>?_) fuel ⟨Ω,m,σ,h,.refl,I,L⟩
  obtain ⟨Ω₁,m₁,σ₁,hl,a₁,I₁,L₁⟩:=hI
  cases k with
  | zero=>exact nn hl
  | succ k =>
    refine bse hl fun b hb hl=>?_
    refine ne (ok_step (evT_s hC t hb rm L₁.toLR sc_self hwt I₁) fun b' s₂ ⟨e,Ω₂,a₂,I₂⟩=>?_)
    subst e
    cases hb1:b.1 with
    | false =>
      rw [hb1] at hl
      cases hl
      exact wpAny_execs_nil ⟨Ω₂,a₁.trans a₂.noA,I₂,L₁.adv a₂,rfl⟩
    | true =>
      rw [hb1] at hl
      refine bse hl fun q hq hl=>?_
      refine ne (ok_step (ihb hq rm (L₁.adv a₂) hwb I₂) fun fl s₃ ⟨Ω₃,a₃,I₃,L₃,hfl⟩=>?_)
      have ad:=(a₁.trans a₂.noA).trans a₃
      cases hq1:q.1 with
      | none =>
        rw [hq1] at hl hfl
        subst hfl
        exact ⟨k,Nat.lt_succ_self _,Ω₃,q.2.1,q.2.2,hl,ad,I₃,L₃⟩
      | some u =>
        rw [hq1] at hl hfl
        refine e1_2 hfl ?_;clear hfl;rintro val rfl rv
        dsimp only at hl
        injection hl with hl
        injection hl with e1 e2
        subst e1
        obtain ⟨rfl,rfl⟩:q.2.1=m'∧q.2.2=σ':=⟨congrArg Prod.fst e2,congrArg Prod.snd e2⟩
        exact ⟨Ω₃,ad,I₃,L₃,val,rfl,rv⟩
theorem expr_s {x:X} {p:Nat} (hC:ClS G n C):ExP G n C (.expr x p):=by
  intro m σ r m' σ' h A s Ω env rm L hw I
  refine mse h fun q h1 h2=>?_
  cases h2
  refine wfe hw fun hwx hx=>?_
  refine wpAny_Expr_any (ok_step (ev_s hC x h1 rm L.toLR sc_self hwx I) fun vv s₁ ⟨Ω₁,a₁,I₁,r₁⟩=>⟨Ω₁,a₁.noA,I₁,L.adv a₁,rfl⟩) (by unfold interactive; rw [L.kind]; rfl) (swapsNo (by rw [← Bool.not_eq_true']; exact hx))
theorem ifs_s {t:X} {b o:List XS} {pos:Pos} (hC:ClS G n C) (ihb:ExsP G n C b) (iho:ExsP G n C o):ExP G n C (.ifs t b o pos):=by
  intro m σ r m' σ' h A s Ω env rm L hw I
  refine bse h fun q h1 h2=>?_
  refine wfe hw fun hwt hw=>?_
  refine wfe hw fun hwb hwo=>?_
  refine wpAny_If (ok_step (evT_s hC t h1 rm L.toLR sc_self hwt I) fun b' s₁ ⟨e,Ω₁,a₁,I₁⟩=>?_)
  subst e
  cases hq:q.1 with
  | true=>rw [hq] at h2; exact flow_adv a₁.noA (ihb h2 rm (L.adv a₁) hwb I₁)
  | false=>rw [hq] at h2; exact flow_adv a₁.noA (iho h2 rm (L.adv a₁) hwo I₁)
theorem ret_s {x:X} {p:Nat} (hC:ClS G n C):ExP G n C (.ret x p):=by
  intro m σ r m' σ' h A s Ω env rm L hw I
  refine mse h fun q h1 h2=>?_
  cases h2
  exact wpAny_Return_some (ok_step (ev_s hC x h1 rm L.toLR sc_self hw I) fun vv s₁ ⟨Ω₁,a₁,I₁,r₁⟩=>⟨Ω₁,a₁.noA,I₁,L.adv a₁,vv,rfl,r₁⟩)
theorem nil_s:ExsP G n C []:=by
  intro m σ r m' σ' h A s Ω env rm L hw I
  cases h
  exact wpAny_execs_nil ⟨Ω,.refl,I,L,rfl⟩
theorem cons_s {st:XS} {rest:List XS} (ih:ExP G n C st) (ihr:ExsP G n C rest):ExsP G n C (st :: rest):=by
  intro m σ r m' σ' h A s Ω env rm L hw I
  refine bse h fun q h1 h2=>?_
  refine wfe hw fun hws hwr=>?_
  refine wpAny_execs_cons (ok_step (ih h1 rm L hws I) fun fl s₁ ⟨Ω₁,a₁,I₁,L₁,hfl⟩=>?_)
  cases hq1:q.1 with
  | none =>
    rw [hq1] at h2 hfl
    subst hfl
    exact flow_adv a₁ (ihr h2 rm L₁ hwr I₁)
  | some u =>
    rw [hq1] at h2 hfl
    refine e1_2 hfl ?_;clear hfl;rintro val rfl rv
    dsimp only at h2
    injection h2 with h2
    injection h2 with e1 e2
    subst e1
    obtain ⟨rfl,rfl⟩:q.2.1=m'∧q.2.2=σ':=⟨congrArg Prod.fst e2,congrArg Prod.snd e2⟩
    exact ⟨Ω₁,a₁,I₁,L₁,val,rfl,rv⟩
theorem no_s {st:XS} (h:∀ m σ,ex T C st m σ=none):ExP G n C st:=by
  intro m σ r m' σ' h'
  rw [h] at h'; exact nn h'
mutual
theorem ex_s (hC:ClS G n C):∀ st:XS,ExP G n C st
  | .assign _ _ _=>assign_s hC
  | .expr _ _=>expr_s hC
  | .ifs _ b o _=>ifs_s hC (exs_s hC b) (exs_s hC o)
  | .ret _ _=>ret_s hC
  | .for_ _ _ _ b _=>for_s hC (exs_s hC b)
  | .whl _ b _=>whl_s hC (exs_s hC b)
  | .rais _ _=>no_s fun _ _=>rfl
  | .raw _=>no_s fun _ _=>rfl
theorem exs_s (hC:ClS G n C):∀ ss:List XS,ExsP G n C ss
  | []=>nil_s
  | st :: rest=>cons_s (ex_s hC st) (exs_s hC rest)
end
end
end Internal
namespace Internal
open PySem PySem.W PyProof.Rows PySem.Calls
noncomputable def fdOf (K:Frag) (a:Nat):FuncData:=match K.lookup a with
  | some o=>(match o.data with | .func fd=>fd | _=>default)
  | none=>default
noncomputable def isFnB (K:Frag) (a:Nat):Bool:=match K.lookup a with
  | some o=>(match o.data with | .func fd=>true | _=>false)
  | none=>false
structure FnAt (P:Params) (K:Frag) (GL:Nat→V→Bool) (a:Nat) (f:Fn):Prop where
  there:isFnB K a=true
  body:(fdOf K a).body = .stmts (toSs f.body)
  clo:(fdOf K a).closure = []
  glob:(fdOf K a).globals=mainGlobals
  bltn:(fdOf K a).builtins=builtinsNs
  kind:(fdOf K a).scope.kind = .function
  co:(fdOf K a).scope.isCoroutine=false
  gen:(fdOf K a).scope.isGenerator=false
  code:codeIn K (fdOf K a).code (fdOf K a).qualname=true
  wfb:wfSs GL (fdOf K a).scope f.body=true
  prm:f.params.all (fun p=>nok p.1 && ((fdOf K a).scope.names.lookup (dec p.1) == some .local || (fdOf K a).scope.names.lookup (dec p.1) == some .cell))=true
  nd:(f.params.map (·.1)).Nodup
  lamq:(fdOf K a).scope.names.lookup (dec plN)=some .cell→(fdOf K a).qualname++(".<locals>." : Str)++("<lambda>" : Str)=lamQual∧∃ c,(fdOf K a).code = .ref c∧∀ h',K.In h'→CodeHd h' c TAB
  bind:∀ (M:Model) (A:Around) (Q:List (Str × Value)→Shared→Prop) (s:Shared) (vals:List Value),K.In s.heap→vals.length≤f.params.length→f.params.length≤vals.length + f.dfl.length →
    (∀ dv,(∀ Ω,RL P Ω (f.dfl.drop (f.dfl.length + vals.length - f.params.length)) dv)→Q ((f.params.map fun p=>dec p.1).zip (vals++dv)) s)→wpAny M A (bindArgs (fdOf K a) ⟨vals,[]⟩) Q nope s
theorem cellsFrom_some:∀ (names:List (Str × NameKind)) (n:Nat) (acc:List (Str × Addr)) (x:Str),(x,NameKind.cell) ∈ names ∨ (acc.lookup x).isSome=true→((cellsFrom n names acc).lookup x).isSome=true
  | [],n,acc,x,h=>by
    rcases h with h | h
    · cases h
    · exact h
  | (y,k) :: r,n,acc,x,h=>by
    unfold cellsFrom
    by_cases hk:k == NameKind.cell
    · rw [if_pos hk]
      refine cellsFrom_some r _ _ x ?_
      by_cases e:x=y
      · subst e; right; simp [List.lookup_cons]
      · rcases h with h | h
        · rcases List.mem_cons.mp h with h | h
          · cases h; exact absurd rfl e
          · exact .inl h
        · right
          rw [List.lookup_cons]
          have:(x == y)=false:=by simp [e]
          rw [this]; exact h
    · rw [if_neg hk]
      refine cellsFrom_some r _ _ x ?_
      rcases h with h | h
      · rcases List.mem_cons.mp h with h | h
        · cases h; exact absurd rfl hk
        · exact .inl h
      · exact .inr h
section
variable {P:Params} {Ω:Om} {kd:Str→Option NameKind}
theorem bindL_out {x:Str}:∀ (bs:List (Str × Value)) (m0:Str→Option Value),x ∉ bs.map (·.1)→bindL kd bs m0 x=m0 x
  | [],_,_=>rfl
  | (n,v) :: r,m0,h=>by
    rw [List.map_cons,List.mem_cons,not_or] at h
    unfold bindL
    rw [bindL_out r _ h.2]
    split
    · exact if_neg h.1
    · rfl
theorem bindC_out {x:Str}:∀ (bs:List (Str × Value)) (m0:Str→Option Value),x ∉ bs.map (·.1)→bindC kd bs m0 x=m0 x
  | [],_,_=>rfl
  | (n,v) :: r,m0,h=>by
    rw [List.map_cons,List.mem_cons,not_or] at h
    unfold bindC
    rw [bindC_out r _ h.2]
    split
    · rfl
    · exact if_neg h.1
theorem zip_names {ps:List (Nat × Nat)} {vals:List Value} {k:Nat} (hk:k < lim) (hl:∀ p ∈ ps,p.1 < lim) (hn:k ∉ ps.map (·.1)):dec k ∉ ((ps.map fun p=>dec p.1).zip vals).map (·.1):=by
  intro h
  refine e1_2 (List.mem_map.mp h) fun q hq e=>?_
  have:=(List.of_mem_zip hq).1
  refine e1_2 (List.mem_map.mp this) fun p hp e2=>?_
  have:dec p.1=dec k:=e2.trans e
  exact hn (List.mem_map.mpr ⟨p,hp,dec_inj (hl p hp) hk this⟩)
theorem bindL_get {k:Nat} {v:V}:∀ (ps:List (Nat × Nat)) (vs:List V) (vals:List Value) (m0:Str→Option Value),RL P Ω vs vals→(ps.map (·.1)).Nodup→(∀ p ∈ ps,p.1 < lim)→look ((ps.map (·.1)).zip vs) k=some v→kd (dec k)=some .local →
    ∃ val,bindL kd ((ps.map fun p=>dec p.1).zip vals) m0 (dec k)=some val∧R P Ω v val
  | [],vs,vals,m0,_,_,_,h,_=>by exact nn h
  | p :: r,[],vals,m0,_,_,_,h,_=>by exact nn h
  | p :: r,x :: vs,vals,m0,⟨y,ys,e,ry,rl⟩,hn,hl,h,hk=>by
    subst e
    rw [List.map_cons,List.nodup_cons] at hn
    have hl':∀ q ∈ r,q.1 < lim:=fun q hq=>hl q (List.mem_cons_of_mem _ hq)
    have h:=look_if.symm.trans h
    show ∃ val,bindL kd ((dec p.1,y) :: ((r.map fun p=>dec p.1).zip ys)) m0 (dec k)=some val∧_
    by_cases e:p.1=k
    · rw [if_pos e] at h
      cases h
      subst e
      unfold bindL
      rw [if_pos hk,bindL_out _ _ (zip_names (hl p List.mem_cons_self) hl' hn.1)]
      exact ⟨y,if_pos rfl,ry⟩
    · rw [if_neg e] at h
      unfold bindL
      exact bindL_get r vs ys _ rl hn.2 hl' h hk
theorem bindC_get {k:Nat} {v:V}:∀ (ps:List (Nat × Nat)) (vs:List V) (vals:List Value) (m0:Str→Option Value),RL P Ω vs vals→(ps.map (·.1)).Nodup→(∀ p ∈ ps,p.1 < lim)→look ((ps.map (·.1)).zip vs) k=some v→kd (dec k)≠some .local →
    ∃ val,bindC kd ((ps.map fun p=>dec p.1).zip vals) m0 (dec k)=some val∧R P Ω v val
  | [],vs,vals,m0,_,_,_,h,_=>by exact nn h
  | p :: r,[],vals,m0,_,_,_,h,_=>by exact nn h
  | p :: r,x :: vs,vals,m0,⟨y,ys,e,ry,rl⟩,hn,hl,h,hk=>by
    subst e
    rw [List.map_cons,List.nodup_cons] at hn
    have hl':∀ q ∈ r,q.1 < lim:=fun q hq=>hl q (List.mem_cons_of_mem _ hq)
    have h:=look_if.symm.trans h
    show ∃ val,bindC kd ((dec p.1,y) :: ((r.map fun p=>dec p.1).zip ys)) m0 (dec k)=some val∧_
    by_cases e:p.1=k
    · rw [if_pos e] at h
      cases h
      subst e
      unfold bindC
      rw [if_neg hk,bindC_out _ _ (zip_names (hl p List.mem_cons_self) hl' hn.1)]
      exact ⟨y,if_pos rfl,ry⟩
    · rw [if_neg e] at h
      unfold bindC
      exact bindC_get r vs ys _ rl hn.2 hl' h hk
theorem look_zip_none {k:Nat}:∀ (ks:List Nat) (vs:List V),ks.length=vs.length→look (ks.zip vs) k=none→k ∉ ks
  | [],_,_,_=>by simp
  | p :: r,[],h,_=>by cases h
  | p :: r,x :: vs,hl,h=>by
    have h:=look_if.symm.trans h
    by_cases e:p=k
    · rw [if_pos e] at h; cases h
    · rw [if_neg e] at h
      rw [List.mem_cons,not_or]
      exact ⟨fun q=>e q.symm,look_zip_none r vs (by simpa using hl) h⟩
theorem look_zip_mem {k:Nat} {v:V}:∀ (ks:List Nat) (vs:List V),look (ks.zip vs) k=some v→k ∈ ks
  | [],_,h=>by exact nn h
  | p :: r,[],h=>by exact nn h
  | p :: r,x :: vs,h=>by
    have h:=look_if.symm.trans h
    by_cases e:p=k
    · subst e; exact List.mem_cons_self
    · rw [if_neg e] at h; exact List.mem_cons_of_mem _ (look_zip_mem r vs h)
end
open Classical in
noncomputable def Om.cells (Ω:Om) (h:Heap) (cs:List (Str × Addr)) (cm:Str→Option Value):Om :=
  ⟨Ω.rho,fun a=>if ∃ x v,cs.lookup x=some a∧cm x=some v then h.get? a else Ω.fz a⟩
end Internal
namespace Internal
open PySem PySem.W PyProof.Rows PySem.Calls
section
variable {prog:Program} {w:World} {T:Tab} {F:Nat→Option Fn} {GL:Nat→V→Bool} {G:Base prog w T F GL}
variable {A:Around} {s s₁:Shared} {Ω Ω':Om} {σ σ':S} {a b v:V} {x y z val:Value} {n i k:Nat} {c:Bool} {env:Env} {m m':M} {C:Cl} {it:Addr} {vs:List V}
theorem enter_s {fd:FuncData} {fa:Addr} {f:Fn} {args:List V} {vals:List Value} (I:Inv w.params G.B Ω σ s.heap)
    (prm:f.params.all (fun p=>nok p.1 && (fd.scope.names.lookup (dec p.1) == some .local || fd.scope.names.lookup (dec p.1) == some .cell))=true) (nd:(f.params.map (·.1)).Nodup)
    (lamq:fd.scope.names.lookup (dec plN)=some .cell→fd.qualname++(".<locals>." : Str)++("<lambda>" : Str)=lamQual∧∃ c,fd.code = .ref c∧∀ h',G.K.In h'→CodeHd h' c TAB) (hkd:fd.scope.kind = .function) (hgl:fd.globals=mainGlobals) (hbl:fd.builtins=builtinsNs) (rl:RL w.params Ω args vals) (hlen:f.params.length=args.length)
    (X:InCallC s (callEnvC fd s.heap.objs.size fa).locals (bindL (callEnvC fd s.heap.objs.size fa).kindOf ((f.params.map fun p=>dec p.1).zip vals) fun _=>none) (callEnvC fd s.heap.objs.size fa).cells
        (bindC (callEnvC fd s.heap.objs.size fa).kindOf ((f.params.map fun p=>dec p.1).zip vals) fun _=>none) s₁) :
    ∃ Ω₁,Adv no Ω s Ω₁ s₁∧Inv w.params G.B Ω₁ σ s₁.heap∧LS w.params Ω₁ s₁.heap (callEnvC fd s.heap.objs.size fa) ((f.params.map (·.1)).zip args)∧(∀ a,exA (callEnvC fd s.heap.objs.size fa) a→s.heap.get? a=none):=by
  generalize hE:callEnvC fd s.heap.objs.size fa=env at X
  have e1:env.scope=fd.scope:=by rw [← hE]; rfl
  have e2:env.locals=s.heap.objs.size:=by rw [← hE]; rfl
  have e3:env.globals=mainGlobals:=by rw [← hE]; exact hgl
  have e4:env.builtins=builtinsNs:=by rw [← hE]; exact hbl
  have e6:env.qual=fd.qualname++(".<locals>." : Str):=by rw [← hE]; rfl
  have e7:env.code=fd.code:=by rw [← hE]; rfl
  have e5:env.cells=cellsFrom (s.heap.objs.size + 1) fd.scope.names []:=by rw [← hE]; rfl
  have kdE:∀ x,env.kindOf x=fd.scope.names.lookup x:=fun x=>by unfold Env.kindOf; rw [e1]
  have pnl:∀ p ∈ f.params,NL p.1:=fun p hp=>nok_lim (wf_and (List.all_eq_true.mp prm p hp)).1
  have plim:∀ p ∈ f.params,p.1 < lim:=fun p hp=>(pnl p hp).1
  have pkd:∀ p ∈ f.params,env.kindOf (dec p.1)=some .local ∨ env.kindOf (dec p.1)=some .cell:=fun p hp=>by
    rw [kdE]
    exact (Bool.or_eq_true_iff.mp (wf_and (List.all_eq_true.mp prm p hp)).2).imp (fun h=>beq_iff_eq.mp h) fun h=>beq_iff_eq.mp h
  have mlen:(f.params.map (·.1)).length=args.length:=by rw [List.length_map]; exact hlen
  have cellSome:∀ x,env.kindOf x=some .cell→∃ c,env.cells.lookup x=some c:=fun x hx=>by
    rw [kdE] at hx
    rw [e5]
    exact Option.isSome_iff_exists.mp (cellsFrom_some _ _ _ x (.inl (mem_of_lookup hx)))
  have above:∀ x c,env.cells.lookup x=some c→s.heap.objs.size < c:=fun x c h=>by rw [← e2]; exact X.above x c (mem_of_lookup h)
  have apart:∀ x y c,env.cells.lookup x=some c→env.cells.lookup y=some c→x=y:=fun x y c h1 h2=>name_of_addr X.apart (mem_of_lookup h1) (mem_of_lookup h2)
  let cm:=bindC env.kindOf ((f.params.map fun p=>dec p.1).zip vals) fun _=>none
  let Ω₁:=Ω.cells s₁.heap env.cells cm
  have setGt:∀ a,(∃ x v,env.cells.lookup x=some a∧cm x=some v)→s.heap.objs.size < a:=fun a ⟨x,v,h,_⟩=>above x a h
  have fzY:∀ a,(∃ x v,env.cells.lookup x=some a∧cm x=some v)→Ω₁.fz a=s₁.heap.get? a:=fun a h=>if_pos h
  have fzN:∀ a,¬ (∃ x v,env.cells.lookup x=some a∧cm x=some v)→Ω₁.fz a=Ω.fz a:=fun a h=>if_neg h
  have le:Om.Le Ω Ω₁:=⟨fun _ _ h=>h,fun a o h=>by
    rw [fzN a fun q=>absurd (I.lt h) (Nat.not_lt.mpr (Nat.le_of_lt (setGt a q)))]; exact h⟩
  refine e2_1 X.toInCall.same ?_;rintro h1 tk rfl
  have keep:=X.toInCall.keep
  have fresh:∀ a,s.heap.objs.size≤a→s.heap.get? a=none:=fun a h=>Heap.get?_none_of_le h
  have notR:∀ a,s.heap.objs.size≤a→a ∉ Ω.rho:=fun a h hm=>absurd (I.rlt hm) (Nat.not_lt.mpr h)
  have notF:∀ a,s.heap.objs.size≤a→Ω.fz a=none:=fun a h=>by
    cases q:Ω.fz a with
    | none=>rfl
    | some o=>exact absurd (I.lt q) (Nat.not_lt.mpr h)
  refine ⟨Ω₁,⟨rfl,rfl,rfl,⟨[],by show Ω.rho=Ω.rho++[]; rw [List.append_nil],by simp⟩,le.fz,fun a o h=>?_,fun b o h _ _=>keep b o h⟩,?_,?_,?_⟩
  · by_cases q:∃ x v,env.cells.lookup x=some a∧cm x=some v
    · exact .inr (.inl (fresh a (Nat.le_of_lt (setGt a q))))
    · rw [fzN a q] at h; exact .inl h
  · refine ⟨fun a o h=>?_,fun a o h=>le.fz a o (I.base a o h),I.tab,I.len,I.nd,fun a ha=>?_,fun l o a h1 h2=>(I.objs l o a h1 h2).mono le fun q=>keep a q⟩
    · by_cases q:∃ x v,env.cells.lookup x=some a∧cm x=some v
      · rw [fzY a q] at h; exact h
      · rw [fzN a q] at h; exact keep a o (I.fz a o h)
    · rw [fzN a fun q=>notR a (Nat.le_of_lt (setGt a q)) ha]; exact I.rfz a ha
  · refine ⟨⟨by rw [e1]; exact hkd,e3,e4,fun n v h=>?_,⟨_,X.toInCall.ns,fun n v h hk=>?_⟩,fun n v h hk=>?_,⟨fun h=>?_,cellSome⟩,?_,?_⟩,fun n hlt hk h=>?_,fun x y c _ _ h1 h2=>apart x y c h1 h2,fun a ha=>?_⟩
    · refine e1_2 (List.mem_map.mp (look_zip_mem _ _ h)) ?_;rintro p hp rfl
      exact pnl p hp
    · obtain ⟨val,e,r⟩:=bindL_get f.params args vals _ rl nd plim h hk
      exact ⟨val,e,r.mono le⟩
    · refine e1_2 (List.mem_map.mp (look_zip_mem _ _ h)) ?_;rintro p hp rfl
      have hnl:env.kindOf (dec p.1)≠some .local:=fun e=>by rw [e] at hk; rcases hk with hk | hk <;> cases hk
      have hc:env.kindOf (dec p.1)=some .cell:=(pkd p hp).resolve_left hnl
      refine e1_2 (bindC_get f.params args vals (fun _=>none) rl nd plim h hnl) fun val e r=>?_
      refine e1_1 (cellSome _ hc) fun c hcc=>?_
      refine e1_2 (X.cell _ _ hcc) fun o ho hd=>?_
      refine ⟨c,o,val,hcc,?_,by rw [hd]; exact congrArg Data.cell e,r.mono le⟩
      rw [fzY c ⟨_,val,hcc,e⟩]; exact ho
    · rw [kdE] at h
      obtain ⟨q1,c,q2,q3⟩:=lamq h
      exact ⟨by rw [e6]; exact q1,c,e7.trans q2,fun h' k=>q3 h' (G.inK.keeps fun x o hx=>k x o (le.fz x o (I.base x o hx)))⟩
    · rw [fzN _ fun q=>absurd (setGt _ q) (by rw [e2]; exact Nat.lt_irrefl _)]
      exact notF _ (by rw [e2]; exact Nat.le_refl _)
    · exact notR _ (by rw [e2]; exact Nat.le_refl _)
    · refine e1_1 (cellSome _ hk) fun c hcc=>?_
      have gt:=above _ _ hcc
      have hcn:cm (dec n)=none:=by
        refine bindC_out _ _ (zip_names hlt plim (look_zip_none _ _ mlen h))
      have hcell:=X.cell _ _ hcc
      refine ⟨c,hcc,hcn ▸ hcell,?_,notR c (Nat.le_of_lt gt),by rw [e2]; exact Nat.ne_of_gt gt⟩
      rw [fzN c ?_]
      · exact notF c (Nat.le_of_lt gt)
      · rintro ⟨x,v,hx,hv⟩
        rw [apart _ _ _ hx hcc,hcn] at hv
        exact nn hv
    · rcases ha with rfl | ⟨x,hx,hc⟩
      · refine e3_2 X.toInCall.ns fun o _ _ ho _=>?_
        exact ⟨notR _ (by rw [e2]; exact Nat.le_refl _),o,ho⟩
      · refine e1_2 (X.cell _ _ hc) fun o ho _=>?_
        exact ⟨notR _ (Nat.le_of_lt (above _ _ hc)),o,ho⟩
  · intro a ha
    rcases ha with rfl | ⟨x,hx,hc⟩
    · exact fresh _ (by rw [e2]; exact Nat.le_refl _)
    · exact fresh _ (Nat.le_of_lt (above _ _ hc))
theorem RoomC.deeper {env:Env} (rm:RoomC (n + 1) A):Room n (A.deeper env):=⟨rm.hh,by have:=rm.dp; show A.depth + 1 + 3 * n < 900; (refine le1 this ?_;simp +arith only),by have:=rm.un; show A.units + 3 + 10 * n < 9000; (refine le1 this ?_;simp +arith only)⟩
theorem fn_s {a:Nat} {f:Fn} {args:List V} {vals:List Value} (hF:FnAt w.params G.K GL a f) (hC:ClS G n C) (h:runF T C f args σ=some (v,σ')) (rm:RoomC (n + 1) A) (I:Inv w.params G.B Ω σ s.heap) (rl:RL w.params Ω args vals) :
    (∃ o fd,s.heap.get? a=some o∧o.data = .func fd)∧codeAny (model prog w) A (.call (.ref a) ⟨vals,[]⟩) (fun r s'=>∃ val,r = .ok (.ret val)∧Ok w.params G.B Ω s v σ' val s') s:=by
  refine bse h fun m hb h=>?_
  refine mse h fun q h1 h2=>?_
  have ⟨o,ho,hd⟩:∃ o,G.K.lookup a=some o∧o.data = .func (fdOf G.K a):=by
    have:=hF.there
    unfold isFnB at this
    unfold fdOf
    split at this
    · rename_i o e
      rw [e]
      cases hd:o.data with
      | func fd=>exact ⟨o,rfl,by simp only [hd]⟩
      | _=>rw [hd] at this; exact ff this
    · exact ff this
  have hg:s.heap.get? a=some o:=I.K _ _ ho
  refine ⟨⟨o,_,hg,hd⟩,?_⟩
  unfold binds at hb
  split at hb
  · rename_i hl
    rw [Bool.and_eq_true,decide_eq_true_eq,decide_eq_true_eq] at hl
    have hlv:=rl.length
    have hlen:f.params.length=(args++f.dfl.drop (f.dfl.length + args.length - f.params.length)).length:=by
      rw [List.length_append,List.length_drop]; exact ar3 hl
    injection hb with hb
    refine codeAny_call_function (Nat.lt_of_lt_of_le (Nat.lt_of_le_of_lt (Nat.le_add_right _ _) rm.dp) (Nat.le_of_ble_eq_true rfl)) hg hd hF.co hF.gen hF.body (codeRec_of I.K hF.code) ?_
    have ne:∀ {α:Type} {A:Around} {t:Sem α} {Q:α→Shared→Prop} {E:Value→Shared→Prop} {s:Shared},wpAny (model prog w) A t Q nope s→wpAny (model prog w) A t Q E s:=fun h=>wpAny_mono h (fun _ _ q=>q) fun _ _ e=>e.elim
    refine ne (hF.bind _ _ _ _ _ I.K (by rw [hlv]; exact hl.1) (by rw [hlv]; exact hl.2) fun dv hdv=>?_)
    rw [hF.clo]
    have rl':RL w.params Ω (args++f.dfl.drop (f.dfl.length + args.length - f.params.length)) (vals++dv):=rl.append (by have:=hdv Ω; rw [hlv] at this; exact this)
    refine wpAny_newFunctionEnv_cells hF.kind (fun y hy=>?_) fun env he s₁ X=>?_
    · have h1:=(List.of_mem_zip hy).1
      refine e1_2 (List.mem_map.mp h1) fun p hp e=>?_
      rw [← e]
      rcases Bool.or_eq_true_iff.mp (wf_and (List.all_eq_true.mp hF.prm p hp)).2 with q | q
      · exact .inl (beq_iff_eq.mp q)
      · exact .inr ⟨beq_iff_eq.mp q,cellsFrom_some _ _ _ _ (.inl (mem_of_lookup (beq_iff_eq.mp q)))⟩
    · have he':env=callEnvC (fdOf G.K a) s.heap.objs.size a:=he
      subst he'
      refine e1_4 (enter_s I hF.prm hF.nd hF.lamq hF.kind hF.glob hF.bltn rl' hlen X) fun Ω₁ a₁ I₁ L₁ hx=>?_
      refine ⟨G.nolim.keeps I₁.keepB,codeAny_func (ne ?_)⟩
      rw [hb] at L₁
      refine ok_step (exs_s hC f.body h1 rm.deeper L₁ hF.wfb I₁) fun fl s₂ ⟨Ω₂,a₂,I₂,L₂,hfl⟩=>?_
      have ad:Adv no Ω s Ω₂ s₂:=Adv.drop ((a₁.weaken fun _ h=>h.elim).trans (a₂.weaken fun a ha=>.inr (hx a ha)))
      injection h2 with e1 e2
      subst e1 e2
      cases hq:q.1 with
      | none=>rw [hq] at hfl; subst hfl; exact ⟨_,rfl,Ω₂,ad,I₂,rfl⟩
      | some u=>rw [hq] at hfl; refine e1_2 hfl ?_;clear hfl;rintro val rfl rv; exact ⟨_,rfl,Ω₂,ad,I₂,rv⟩
  · exact nn hb
theorem cf_s (hF:∀ a f,F a=some f→FnAt w.params G.K GL a f):∀ n,ClS G n (cf T F n)
  | 0=>by intro a args σ v σ' h; exact nn h
  | n + 1=>by
    intro a args σ v σ' h A s Ω vals rm I rl
    refine bse h fun f h1 h2=>?_
    exact fn_s (hF a f h1) (cf_s hF n) h2 rm I rl
end
end Internal
namespace Internal
open PySem PySem.W PyProof.Rows PySem.Calls
noncomputable def globL:List (Nat × V):=[(0x424f4f4c5f6c6f7765725f6578707273,.tup [.str 0x626f6f6c]),(0x4368616e4572726f72,.cls 39),(0x436f6465,.cls 331),(0x494e545f6c6f7765725f6578707273,.tup [.str 0x696e74,.str 0x696e74]),(0x4c6f7765725374617465,.cls 534),(0x4e616d654661756c74,.cls 52),(0x4e616d6564526f77,.cls 558),(0x5041495253,.tup [.str 0x617373657274,.str 0x6b6579,.str 0x72656365697665]),(0x504c41494e,.tup [.str 0x66756e63,.tup [],.tup [],.bool false]),(0x52454144,.tup [.str 0x676c6f62616c,.str 0x6669656c64,.str 0x6465726566,.str 0x696e646578]),(0x547970654661756c74,.cls 64),(0x5479706564466e,.cls 290),(0x576f726c64,.cls 601),(0x5f6c61775f616e79,.tup [.str 0x696e74657266616365,.tup []]),(0x5f6c61775f6172726179,.tup [.str 0x6172726179,.int 3,.tup [.str 0x696e74,.str 0x696e74]]),(0x5f6c61775f626f6f6c,.tup [.str 0x626f6f6c]),(0x5f6c61775f626f756e64,.fn 656),(0x5f6c61775f63616c6c6564,.fn 677),(0x5f6c61775f646f6e65,.fn 694),(0x5f6c61775f696e74,.tup [.str 0x696e74,.str 0x696e74]),(0x5f6c61775f69735f7269676874,.fn 713),(0x5f6c61775f6d616465,.fn 682),(0x5f6c61775f6d61726b,.fn 642),(0x5f6c61775f6e756d626572,.fn 649),(0x5f6c61775f6f6e65,.fn 635),(0x5f6c61775f706f6f6c,.fn 621),(0x5f6c61775f72656164,.fn 689),(0x5f6c61775f726f77,.fn 663),(0x5f6c61775f73686f776e,.fn 701),(0x5f6c61775f736c696365,.tup [.str 0x736c696365,.tup [.str 0x696e74,.str 0x696e74]]),(0x5f6c61775f736d616c6c,.tup [.str 0x696e74,.str 0x696e7438]),(0x5f6c61775f74616b65,.fn 628),(0x5f6c61775f7472757468,.fn 670),(0x5f6c61775f77616c6b6564,.fn 706),(0x616464726573735f6f66,.fn 174),(0x61736b5f706f696e746572,.fn 181),(0x61736b65645f76616c756573,.fn 251),(0x626173655f6b696e64,.fn 139),(0x626c6f636b735f72656163686564,.fn 349),(0x6275696c74696e5f76616c756573,.fn 106),(0x63616c6c5f76616c756573,.fn 101),(0x63616c6c65645f6f66,.fn 96),(0x636f6e7374616e745f6f66,.fn 225),(0x6375745f76616c7565,.fn 256),(0x66726f7a656e736574,.bi .fset),(0x66756e6374696f6e5f76616c7565,.fn 230),(0x676c6f62616c5f706f696e746572,.fn 153),(0x696e74,.bi .int),(0x69735f696e5f6d656d6f7279,.fn 146),(0x6973696e7374616e6365,.bi .isinst),(0x6b6e6f776e5f726f7773,.fn 569),(0x6c617a795f76616c7565,.fn 244),(0x6c65645f656c73657768657265,.fn 356),(0x6c656e,.bi .len),(0x6c697374,.bi .listF),(0x6c697374,.bi .listM),(0x6c6f61645f706c616365,.fn 195),(0x6d6164655f76616c75655f6c6f7765725f6578707273,.fn 263),(0x6d6178,.bi .max),(0x6e65775f7661726961626c65,.fn 188),(0x6e6578745f626c6f636b73,.fn 342),(0x6f706572616e64735f6f66,.fn 218),(0x706f696e7465725f616c6f6e67,.fn 167),(0x72616e6765,.bi .range),(0x726573756c745f7479706573,.fn 89),(0x736c6963655f76616c7565,.fn 268),(0x736f72746564,.bi .sorted),(0x7461626c655f76616c7565,.fn 273),(0x7475706c65,.bi .tuple),(0x756e6465726c79696e675f6f66,.fn 74),(0x76616c75655f6f66,.fn 206),(0x76616c7565735f6f66,.fn 213),(0x7761795f746f,.fn 160),(0x776974685f6b6570745f626c6f636b73,.fn 363),(0x776f726b65645f76616c7565,.fn 237),(0x7a65726f5f76616c7565,.fn 79)]
noncomputable def GLB (n:Nat) (u:V):Bool:=globL.any fun q=>Nat.beq q.1 n && vbeq q.2 u
theorem lkN_mem {α:Type} {a:Nat} {f:α}:∀ {l:List (Nat × α)},lkN l a=some f→(a,f) ∈ l
  | [],h=>by exact nn h
  | (k,v) :: r,h=>by
    have h:cond (Nat.beq k a) (some v) (lkN r a)=some f:=h
    cases e:Nat.beq k a with
    | true=>rw [e] at h; cases h; rw [Nat.eq_of_beq_eq_true e]; exact List.mem_cons_self
    | false=>rw [e] at h; exact List.mem_cons_of_mem _ (lkN_mem h)
theorem fun_mem (a:Nat) (f:Fn) (h:FT a=some f):(a,f) ∈ funL:=lkN_mem h
theorem init_mem (C a:Nat) (h:TB.init C=some a):(C,a) ∈ initL:=lkN_mem h
theorem lkM_mem {C n a:Nat}:∀ {l:List (Nat × Nat × Nat)},lkM l C n=some a→(C,n,a) ∈ l
  | [],h=>by exact nn h
  | (c,k,x) :: r,h=>by
    have h:cond (Nat.beq c C && Nat.beq k n) (some x) (lkM r C n)=some a:=h
    cases e:(Nat.beq c C && Nat.beq k n) with
    | true=>rw [e] at h; rw [Bool.and_eq_true] at e; cases h; rw [Nat.eq_of_beq_eq_true e.1,Nat.eq_of_beq_eq_true e.2]; exact List.mem_cons_self
    | false=>rw [e] at h; exact List.mem_cons_of_mem _ (lkM_mem h)
theorem meth_mem (C n a:Nat) (h:TB.meth C n=some a):(C,n,a) ∈ methL:=lkM_mem h
theorem lkA_mem {C n:Nat}:∀ {l:List (Nat × Nat)},lkA l C n=true→(C,n) ∈ l
  | [],h=>by exact ff h
  | (c,k) :: r,h=>by
    have h:((Nat.beq c C && Nat.beq k n) || lkA r C n)=true:=h
    rw [Bool.or_eq_true,Bool.and_eq_true] at h
    rcases h with h | h
    · rw [Nat.eq_of_beq_eq_true h.1,Nat.eq_of_beq_eq_true h.2]; exact List.mem_cons_self
    · exact List.mem_cons_of_mem _ (lkA_mem h)
theorem attr_mem (C n:Nat) (h:TB.attr C n=true):(C,n) ∈ attrL:=lkA_mem h
noncomputable def attrB (K:Frag) (C n:Nat):Bool:=Nat.blt n lim && (plainGet K C (dec n) && (hasDictIn K C && (findIn K (.ref C) (dec n) == some none && (findIn K (.ref C) "__setattr__" == some (some (.builtin "object.__setattr__")) && (plainOver K C && takerIn K C (dec n) == some none)))))
noncomputable def methB (K:Frag) (C n a:Nat):Bool:=Nat.blt n lim && (plainGet K C (dec n) && (findIn K (.ref C) (dec n) == some (some (.ref a)) && (isFn K (.ref a) && keepIn K (.ref a))))
noncomputable def initB (K:Frag) (C a:Nat):Bool:=makesIn K C && (findIn K (.ref C) "__init__" == some (some (.ref a)) && (isFn K (.ref a) && keepIn K (.ref C)))
noncomputable def tupD (o:Obj):Option (List Value):=match o.data with
  | .seq its _=>if (match o.cls with | .type t=>t == "tuple" | _=>false) && (o.dict.isNone && o.slots.isEmpty) then some its.toList else none
  | _=>none
theorem tupD_eq {o:Obj} {l:List Value} (h:tupD o=some l):∃ its k,o=tupO its k∧l=its.toList:=by
  obtain ⟨c,d,dt,sl⟩:=o
  cases dt with
  | seq its k =>
    refine e0_2 (ite_some h) fun hc e=>?_
    rw [Bool.and_eq_true,Bool.and_eq_true] at hc
    refine e0_3 hc ?_;clear hc;intro h1 h2 h3
    induction c using PySem.Value.casesOn with
    | type t =>
      have e1:=beq_iff_eq.mp h1
      have e2:d=none:=Option.isNone_iff_eq_none.mp h2
      have e3:sl = #[]:=Array.isEmpty_iff.mp h3
      exact ⟨its,k,by rw [e1,e2,e3],e.symm⟩
    | _=>exact ff h1
  | _=>exact nn h
noncomputable def tupOf (K:Frag) (x:Value):Option (List Value):=match x with
  | .ref a=>(match K.lookup a with | some o=>tupD o | none=>none)
  | _=>none
mutual
noncomputable def valOk (K:Frag):V→Value→Bool
  | .none,x=>x == .none
  | .bool a,x=>x == .bool a
  | .int i,x=>(match x with | .int j _=>i == j | _=>false)
  | .str n,x=>(match x with | .str s _=>Nat.blt n lim && dec n == s | _=>false)
  | .tup vs,x=>(match tupOf K x with | some l=>valsOk K vs l | none=>false)
  | .fn a,x=>x == .ref a
  | .cls a,x=>x == .ref a
  | .bi b,x=>x == b.val
  | _,_=>false
noncomputable def valsOk (K:Frag):List V→List Value→Bool
  | [],[]=>true
  | v :: vs,x :: xs=>valOk K v x && valsOk K vs xs
  | _,_=>false
end
section
variable {P:Params} {K:Frag} {B:Heap}
theorem tupOf_s (X:K.In B) {x:Value} {l:List Value} (h:tupOf K x=some l):∃ a its k,x = .ref a∧B.get? a=some (tupO its k)∧l=its.toList:=by
  induction x using PySem.Value.casesOn with
  | ref a =>
    have h:(match K.lookup a with | some o=>tupD o | none=>none)=some l:=h
    cases e:K.lookup a with
    | none=>rw [e] at h; exact nn h
    | some o =>
      rw [e] at h
      refine e2_2 (tupD_eq h) ?_;rintro its k rfl e2
      exact ⟨a,its,k,rfl,X _ _ e,e2⟩
  | _=>exact nn h
mutual
theorem valOk_s (X:K.In B):∀ (v:V) (x:Value),valOk K v x=true→R P ⟨[],B.get?⟩ v x
  | .none,_,h=>eq_of_beq h
  | .bool _,_,h=>eq_of_beq h
  | .int i,x,h=>by
    induction x using PySem.Value.casesOn with
    | int j t=>exact ⟨t,by rw [eq_of_beq h]⟩
    | _=>exact ff h
  | .str n,x,h=>by
    induction x using PySem.Value.casesOn with
    | str s t =>
      have h:(Nat.blt n lim && dec n == s)=true:=h
      rw [Bool.and_eq_true] at h
      exact ⟨Nat.le_of_ble_eq_true h.1,t,by rw [beq_iff_eq.mp h.2]⟩
    | _=>exact ff h
  | .tup vs,x,h=>by
    have h:(match tupOf K x with | some l=>valsOk K vs l | none=>false)=true:=h
    cases e:tupOf K x with
    | none=>rw [e] at h; exact ff h
    | some l =>
      rw [e] at h
      refine e3_3 (tupOf_s X e) ?_;rintro a its k e1 e2 rfl
      exact ⟨a,its,k,e1,e2,valsOk_s X vs _ h⟩
  | .fn _,_,h=>eq_of_beq h
  | .cls _,_,h=>eq_of_beq h
  | .bi _,_,h=>eq_of_beq h
  | .lst _,_,h=>ff h
  | .dct ..,_,h=>ff h
  | .dcti ..,_,h=>ff h
  | .fset _,_,h=>ff h
  | .rng _,_,h=>ff h
  | .loc _,_,h=>ff h
  | .inst ..,_,h=>ff h
  | .lam _,_,h=>ff h
theorem valsOk_s (X:K.In B):∀ (vs:List V) (xs:List Value),valsOk K vs xs=true→RL P ⟨[],B.get?⟩ vs xs
  | [],[],_=>rfl
  | [],_ :: _,h=>by exact ff h
  | _ :: _,[],h=>by exact ff h
  | v :: vs,x :: xs,h=>by
    have h:(valOk K v x && valsOk K vs xs)=true:=h
    rw [Bool.and_eq_true] at h
    exact ⟨x,xs,rfl,valOk_s X v x h.1,valsOk_s X vs xs h.2⟩
end
end
noncomputable def mainEs (K:Frag):List DictEntry:=match K.lookup mainGlobals with
  | some o=>(match o.data with | .dict es _=>es.toList | _=>[])
  | none=>[]
noncomputable def mainAt (K:Frag) (x:Str):Option Value:=nsFind (mainEs K).toArray x
noncomputable def globB (K:Frag) (n:Nat) (u:V):Bool:=(match mainAt K (dec n) with
  | some x=>valOk K u x
  | none=>(match u with | .bi b=>bootBuiltins (dec n) == some b.val && !(dec n == ("__name__" : Str)) | _=>false))
noncomputable def fnB (K:Frag) (a:Nat) (f:Fn):Bool:=isFnB K a && ((fdOf K a).closure.isEmpty && (Nat.beq (fdOf K a).globals mainGlobals && (Nat.beq (fdOf K a).builtins builtinsNs && ((fdOf K a).scope.kind == .function && (!(fdOf K a).scope.isCoroutine && (!(fdOf K a).scope.isGenerator && (codeIn K (fdOf K a).code (fdOf K a).qualname &&
  (wfSs GLB (fdOf K a).scope f.body && (f.params.all (fun p=>nok p.1 && ((fdOf K a).scope.names.lookup (dec p.1) == some .local || (fdOf K a).scope.names.lookup (dec p.1) == some .cell)) && decide (f.params.map (·.1)).Nodup)))))))))
end Internal
namespace Internal
open PySem PySem.W PyProof.Rows PySem.Calls
noncomputable def prmB (K:Frag) (a:Nat) (f:Fn):Bool:=(fdOf K a).params.posonlyargs.isEmpty && ((fdOf K a).params.vararg.isNone && ((fdOf K a).params.kwonlyargs.isEmpty && ((fdOf K a).params.kwarg.isNone && ((fdOf K a).params.args.map (·.arg) == f.params.map (fun p=>dec p.1)))))
noncomputable def dflB (K:Frag) (a:Nat) (f:Fn):Bool:=f.dfl.isEmpty && (fdOf K a).defaults == .none
noncomputable def lamB (K:Frag) (a:Nat) (f:Fn):Bool:=!((fdOf K a).scope.names.lookup (dec plN) == some .cell) || ((fdOf K a).qualname++(".<locals>." : Str)++("<lambda>" : Str) == lamQual && (match (fdOf K a).code with | .ref c=>codeHdIn K c TAB | _=>false))
theorem nodup_dec:∀ {l:List (Nat × Nat)},(∀ p ∈ l,p.1 < lim)→(l.map (·.1)).Nodup→(l.map fun p=>dec p.1).Nodup:=by
  intro l hl hn
  have:(l.map fun p=>dec p.1)=(l.map (·.1)).map dec:=by rw [List.map_map]; rfl
  rw [this,List.Nodup,List.pairwise_map]
  refine hn.imp_of_mem fun {a b} ha hb hne e=>hne ?_
  refine e1_2 (List.mem_map.mp ha) ?_;rintro p hp rfl
  refine e1_2 (List.mem_map.mp hb) ?_;rintro q hq rfl
  exact dec_inj (hl p hp) (hl q hq) e
set_option tactic.hygienic true in
theorem fnAt_of {P:Params} {K:Frag} {a:Nat} {f:Fn} (h1:fnB K a f=true) (h2:(fdOf K a).body = .stmts (toSs f.body)) (h3:lamB K a f=true) (h4:prmB K a f=true)
    (h5:dflB K a f=true ∨ (∀ (M:Model) (A:Around) (Q:List (Str × Value)→Shared→Prop) (s:Shared) (vals:List Value),K.In s.heap→vals.length≤f.params.length→f.params.length≤vals.length + f.dfl.length →
      (∀ dv,(∀ Ω,RL P Ω (f.dfl.drop (f.dfl.length + vals.length - f.params.length)) dv)→Q ((f.params.map fun p=>dec p.1).zip (vals++dv)) s)→wpAny M A (bindArgs (fdOf K a) ⟨vals,[]⟩) Q nope s)):FnAt P K GLB a f:=by
  unfold fnB at h1
  simp only [Bool.and_eq_true,beq_iff_eq,Bool.not_eq_true',decide_eq_true_eq] at h1
  obtain ⟨a1,a2,a3,a4,a5,a6,a7,a8,a9,a10,a11⟩:=h1
  have lims:∀ p ∈ f.params,p.1 < lim:=fun p hp=>(nok_lim (wf_and (List.all_eq_true.mp a10 p hp)).1).1
  refine ⟨a1,h2,List.isEmpty_iff.mp a2,Nat.eq_of_beq_eq_true a3,Nat.eq_of_beq_eq_true a4,a5,a6,a7,a8,a9,a10,a11,fun hc=>?_,?_⟩
  · unfold lamB at h3
    rw [hc] at h3
    simp only [beq_self_eq_true,Bool.not_true,Bool.false_or,Bool.and_eq_true,beq_iff_eq] at h3
    refine ⟨h3.1,?_⟩
    have h3:=h3.2
    split at h3
    · rename_i c hcd; exact ⟨c,hcd,fun h' X=>codeHd_of_K X h3⟩
    · exact ff h3
  · rcases h5 with h5 | h5
    · unfold dflB at h5
      rw [Bool.and_eq_true,beq_iff_eq] at h5
      have hd:f.dfl = []:=List.isEmpty_iff.mp h5.1
      unfold prmB at h4
      simp only [Bool.and_eq_true,beq_iff_eq,List.isEmpty_iff,Option.isNone_iff_eq_none] at h4
      refine e0_5 h4 ?_;clear h4;intro b1 b2 b3 b4 b5
      intro M A Q s vals X l1 l2 hQ
      rw [hd] at l2 hQ
      have hl:vals.length=(f.params.map fun p=>dec p.1).length:=by rw [List.length_map]; simp at l2; lia
      rw [bind_plain b1 b5 b2 b3 b4 h5.2 hl (nodup_dec lims a11)]
      have:=hQ [] (fun Ω=>by simp; rfl)
      rw [List.append_nil] at this
      exact wpAny_pure this
    · exact h5
end Internal
namespace Internal
open PySem PySem.W PyProof.Rows PySem.Calls
noncomputable def simp1 (v:V) (x:Value):Bool:=match v with
  | .none=>(match x with | .none=>true | _=>false)
  | .int i=>(match x with | .int j _=>i == j | _=>false)
  | _=>false
theorem simp1_s {P:Params} {Ω:Om} {v:V} {x:Value} (h:simp1 v x=true):R P Ω v x:=by
  induction v using V.casesOn with
  | none=>induction x using PySem.Value.casesOn with
    | none=>rfl
    | _=>exact ff h
  | int i=>induction x using PySem.Value.casesOn with
    | int j t=>exact ⟨t,by rw [eq_of_beq h]⟩
    | _=>exact ff h
  | _=>exact ff h
noncomputable def simpB:List V→List Value→Bool
  | [],[]=>true
  | v :: r,x :: q=>simp1 v x && simpB r q
  | _,_=>false
theorem simpB_s {P:Params} {Ω:Om}:∀ (vs:List V) (xs:List Value),simpB vs xs=true→RL P Ω vs xs
  | [],[],_=>rfl
  | [],_ :: _,h=>ff h
  | _ :: _,[],h=>ff h
  | v :: r,x :: q,h=>by
    have h:(simp1 v x && simpB r q)=true:=h
    rw [Bool.and_eq_true] at h
    exact ⟨_,_,rfl,simp1_s h.1,simpB_s r q h.2⟩
noncomputable def defB (K:Frag) (a:Nat) (f:Fn):Bool:=match (fdOf K a).defaults with
  | .ref d=>(match K.lookup d with
    | some o=>(match o.data with | .seq its _=>simpB f.dfl its.toList | _=>false)
    | none=>false)
  | _=>false
set_option tactic.hygienic true in
theorem dfl_items {P:Params} {K:Frag} {a:Nat} {f:Fn} (h:defB K a f=true):∃ d o its k,(fdOf K a).defaults = .ref d∧K.lookup d=some o∧o.data = .seq its k∧∀ Ω,RL P Ω f.dfl its.toList:=by
  unfold defB at h
  split at h
  · rename_i d hd
    split at h
    · rename_i o ho
      split at h
      · rename_i its k hs
        exact ⟨d,o,its,k,hd,ho,hs,fun Ω=>simpB_s _ _ h⟩
      · exact ff h
    · exact ff h
  · exact ff h
noncomputable def tab:List Str→(Nat→Option PySem.Expr × Pos)→List Arg
  | [],_=>[]
  | n :: r,f=>⟨n,(f 0).1,(f 0).2⟩ :: tab r fun i=>f (i + 1)
theorem tab_of:∀ {as:List Arg} {ns:List Str},as.map (·.arg)=ns→∃ f,as=tab ns f
  | [],_,h=>by subst h; exact ⟨fun _=>(none,dpos 0),rfl⟩
  | ⟨n,x,y⟩ :: r,_,h=>by
    subst h
    refine e1_1 (tab_of (as:=r) rfl) fun f e=>?_
    exact ⟨fun i=>match i with | 0=>(x,y) | i + 1=>f i,congrArg (_ :: ·) e⟩
inductive L1 (l:List Value):Prop
  | mk (v1:Value) (r:List Value) (e:l=v1 :: r)
theorem atl1:∀ {l:List Value},1≤l.length→L1 l
  | v1 :: r,_=>⟨v1,r,rfl⟩
  | [],h=>absurd h (by simp)
theorem bindA2 {M:Model} {A:Around} {Q:List (Str × Value)→Shared→Prop} {s:Shared} {fd:FuncData} {f:Nat→Option PySem.Expr × Pos} {d:Addr} {o:Obj} {d1:Value} {k:Nat} (b1:fd.params.posonlyargs = []) (b2:fd.params.vararg=none) (b3:fd.params.kwonlyargs = []) (b4:fd.params.kwarg=none)
    (b5:fd.params.args=tab [dec 0x73656c66,dec 0x7061636b61676573] f) (hd:fd.defaults = .ref d) (ho:s.heap.get? d=some o) (hs:o.data = .seq #[d1] k) {vals:List Value} (l1:vals.length≤2) (l2:1≤vals.length)
    (hQ:Q ([dec 0x73656c66,dec 0x7061636b61676573].zip (vals++[d1].drop (vals.length - 1))) s):wpAny M A (bindArgs fd ⟨vals,[]⟩) Q nope s:=by
  rw [fd_eta (ar_eta b1 b2 b3 b4 b5) hd]
  obtain ⟨v1,r,rfl⟩:=atl1 l2
  induction r using List.casesOn with
  | nil=>exact BindsTo.of_defaults rfl ho hs (by rfl) (by rfl) M A nope Q hQ
  | cons w0 r =>
    induction r using List.casesOn with
    | nil=>exact BindsTo.of_defaults rfl ho hs (by rfl) (by rfl) M A nope Q hQ
    | cons w1 r =>
      exact absurd l1 (by simp)
inductive L5 (l:List Value):Prop
  | mk (v1 v2 v3 v4 v5:Value) (r:List Value) (e:l=v1 :: v2 :: v3 :: v4 :: v5 :: r)
theorem atl5:∀ {l:List Value},5≤l.length→L5 l
  | v1 :: v2 :: v3 :: v4 :: v5 :: r,_=>⟨v1,v2,v3,v4,v5,r,rfl⟩
  | [],h=>absurd h (by simp)
  | [_],h=>absurd h (by simp)
  | [_,_],h=>absurd h (by simp)
  | [_,_,_],h=>absurd h (by simp)
  | [_,_,_,_],h=>absurd h (by simp)
theorem bindA8 {M:Model} {A:Around} {Q:List (Str × Value)→Shared→Prop} {s:Shared} {fd:FuncData} {f:Nat→Option PySem.Expr × Pos} {d:Addr} {o:Obj} {d1 d2 d3:Value} {k:Nat} (b1:fd.params.posonlyargs = []) (b2:fd.params.vararg=none) (b3:fd.params.kwonlyargs = []) (b4:fd.params.kwarg=none)
    (b5:fd.params.args=tab [dec 0x73656c66,dec 0x6b6579,dec 0x706172616d73,dec 0x726567697374657273,dec 0x626c6f636b73,dec 0x6361707475726564,dec 0x726573756c7473,dec 0x7265636f76657279] f) (hd:fd.defaults = .ref d) (ho:s.heap.get? d=some o) (hs:o.data = .seq #[d1,d2,d3] k) {vals:List Value} (l1:vals.length≤8) (l2:5≤vals.length)
    (hQ:Q ([dec 0x73656c66,dec 0x6b6579,dec 0x706172616d73,dec 0x726567697374657273,dec 0x626c6f636b73,dec 0x6361707475726564,dec 0x726573756c7473,dec 0x7265636f76657279].zip (vals++[d1,d2,d3].drop (vals.length - 5))) s):wpAny M A (bindArgs fd ⟨vals,[]⟩) Q nope s:=by
  rw [fd_eta (ar_eta b1 b2 b3 b4 b5) hd]
  obtain ⟨v1,v2,v3,v4,v5,r,rfl⟩:=atl5 l2
  induction r using List.casesOn with
  | nil=>exact BindsTo.of_defaults rfl ho hs (by rfl) (by rfl) M A nope Q hQ
  | cons w0 r =>
    induction r using List.casesOn with
    | nil=>exact BindsTo.of_defaults rfl ho hs (by rfl) (by rfl) M A nope Q hQ
    | cons w1 r =>
      induction r using List.casesOn with
      | nil=>exact BindsTo.of_defaults rfl ho hs (by rfl) (by rfl) M A nope Q hQ
      | cons w2 r =>
        induction r using List.casesOn with
        | nil=>exact BindsTo.of_defaults rfl ho hs (by rfl) (by rfl) M A nope Q hQ
        | cons w3 r =>
          exact absurd l1 (by simp)
theorem bind584 {P:Params} {K:Frag} (h4:prmB K 584 F584=true) (h5:defB K 584 F584=true) (M:Model) (A:Around) (Q:List (Str × Value)→Shared→Prop) (s:Shared) (vals:List Value) (X:K.In s.heap) (l1:vals.length≤F584.params.length) (l2:F584.params.length≤vals.length + F584.dfl.length)
    (hQ:∀ dv,(∀ Ω,RL P Ω (F584.dfl.drop (F584.dfl.length + vals.length - F584.params.length)) dv)→Q ((F584.params.map fun p=>dec p.1).zip (vals++dv)) s):wpAny M A (bindArgs (fdOf K 584) ⟨vals,[]⟩) Q nope s:=by
  unfold prmB at h4
  simp only [Bool.and_eq_true,beq_iff_eq,List.isEmpty_iff,Option.isNone_iff_eq_none] at h4
  refine e4_4 (dfl_items (P:=P) h5) fun d o its k hd ho hs hr=>?_
  have hq:∃ d1,its = #[d1]:=by
    obtain ⟨d1,q1,e1,_,e2⟩:=hr ⟨[],fun _=>none⟩
    have e2:q1 = []:=e2
    subst e2
    exact ⟨d1,by rw [← Array.toArray_toList (xs:=its),e1]⟩
  refine e1_1 hq ?_;clear hq;rintro d1 rfl
  refine e1_1 (tab_of (show (fdOf K 584).params.args.map (·.arg) = [dec 0x73656c66,dec 0x7061636b61676573] from h4.2.2.2.2)) fun f b5=>?_
  have l2:2≤vals.length + 1:=l2
  have e:F584.dfl.length + vals.length - F584.params.length=vals.length - 1:=by show 1 + vals.length - 2=_; lia
  rw [e] at hQ
  exact bindA2 h4.1 h4.2.1 h4.2.2.1 h4.2.2.2.1 b5 hd (X _ _ ho) hs l1 (by (apply le1;assumption;simp +arith only)) (hQ _ fun Ω=>(hr Ω).drop _)
theorem bind309 {P:Params} {K:Frag} (h4:prmB K 309 F309=true) (h5:defB K 309 F309=true) (M:Model) (A:Around) (Q:List (Str × Value)→Shared→Prop) (s:Shared) (vals:List Value) (X:K.In s.heap) (l1:vals.length≤F309.params.length) (l2:F309.params.length≤vals.length + F309.dfl.length)
    (hQ:∀ dv,(∀ Ω,RL P Ω (F309.dfl.drop (F309.dfl.length + vals.length - F309.params.length)) dv)→Q ((F309.params.map fun p=>dec p.1).zip (vals++dv)) s):wpAny M A (bindArgs (fdOf K 309) ⟨vals,[]⟩) Q nope s:=by
  unfold prmB at h4
  simp only [Bool.and_eq_true,beq_iff_eq,List.isEmpty_iff,Option.isNone_iff_eq_none] at h4
  refine e4_4 (dfl_items (P:=P) h5) fun d o its k hd ho hs hr=>?_
  have hq:∃ d1 d2 d3,its = #[d1,d2,d3]:=by
    obtain ⟨d1,q1,e1,_,d2,q2,rfl,_,d3,q3,rfl,_,e2⟩:=hr ⟨[],fun _=>none⟩
    have e2:q3 = []:=e2
    subst e2
    exact ⟨d1,d2,d3,by rw [← Array.toArray_toList (xs:=its),e1]⟩
  refine e3_1 hq ?_;clear hq;rintro d1 d2 d3 rfl
  refine e1_1 (tab_of (show (fdOf K 309).params.args.map (·.arg) = [dec 0x73656c66,dec 0x6b6579,dec 0x706172616d73,dec 0x726567697374657273,dec 0x626c6f636b73,dec 0x6361707475726564,dec 0x726573756c7473,dec 0x7265636f76657279] from h4.2.2.2.2)) fun f b5=>?_
  have l2:8≤vals.length + 3:=l2
  have e:F309.dfl.length + vals.length - F309.params.length=vals.length - 5:=by show 3 + vals.length - 8=_; lia
  rw [e] at hQ
  exact bindA8 h4.1 h4.2.1 h4.2.2.1 h4.2.2.2.1 b5 hd (X _ _ ho) hs l1 (by (apply le1;assumption;simp +arith only)) (hQ _ fun Ω=>(hr Ω).drop _)
end Internal
namespace Internal
open PySem PySem.W PyProof.Rows PySem.Calls
structure KOk (K:Frag):Prop where
  attr:(attrL.all fun q=>attrB K q.1 q.2)=true
  meth:(methL.all fun q=>methB K q.1 q.2.1 q.2.2)=true
  init:(initL.all fun q=>initB K q.1 q.2)=true
  glob:(globL.all fun q=>globB K q.1 q.2)=true
  fns:(funL.all fun q=>fnB K q.1 q.2)=true
  body:(funL.map fun q=>(fdOf K q.1).body)=(funL.map fun q=>FuncBody.stmts (toSs q.2.body))
  lam:(funL.all fun q=>lamB K q.1 q.2)=true
  prm:(funL.all fun q=>prmB K q.1 q.2)=true
  dfl:(funL.all fun q=>dflB K q.1 q.2 || (Nat.beq q.1 309 || Nat.beq q.1 584))=true
  d309:defB K 309 F309=true
  d584:defB K 584 F584=true
  notab:(K.lookup TAB).isNone=true
  main:(match K.lookup mainGlobals with | some o=>(match o.data with | .dict es _=>es.toList.all (fun e=>match e.key with | .str _ _=>true | _=>false) | _=>false) | none=>false)=true
theorem fnAt_all {P:Params} {K:Frag} (h:KOk K) (a:Nat) (f:Fn) (hf:FT a=some f):FnAt P K GLB a f:=by
  have hm:=fun_mem a f hf
  refine fnAt_of (List.all_eq_true.mp h.fns _ hm) (List.map_inj_left.mp h.body _ hm) (List.all_eq_true.mp h.lam _ hm) (List.all_eq_true.mp h.prm _ hm) ?_
  have hd:=List.all_eq_true.mp h.dfl _ hm
  dsimp only at hd
  rw [Bool.or_eq_true,Bool.or_eq_true] at hd
  rcases hd with hd | hd | hd
  · exact .inl hd
  · have e:=Nat.eq_of_beq_eq_true hd
    subst e
    cases hf
    exact .inr (bind309 (List.all_eq_true.mp h.prm _ hm) h.d309)
  · have e:=Nat.eq_of_beq_eq_true hd
    subst e
    cases hf
    exact .inr (bind584 (List.all_eq_true.mp h.prm _ hm) h.d584)
structure HeapOk (w:World) (K:Frag) (h:Heap) (mb:Str→Option Value):Prop where
  inK:K.In h
  nolim:h.NoLimit
  sysm:∃ o,h.get? sysModules=some o∧∀ es m,o=dictOf es m→∀ e ∈ es,∀ k t,e.key ≠ .int k t
  nsb:h.Ns builtinsNs mb
  boot:∀ x:Str,x ≠ "__name__" → mb x=bootBuiltins x
  bat:∃ bm o,mainAt K "__builtins__" = some (.ref bm)∧bm≠builtinsNs∧bm≠mainGlobals∧bm≠TAB∧h.get? bm=some o∧o.cls = .type "module" ∧ o.dict=some builtinsNs∧o.data = .plain
  tab:h.get? TAB=some (tabObj #[])
noncomputable def frozenHeap (h:Heap):Heap:=h.update TAB fun o=>{ o with data:=.freed }
theorem frozen_get {h:Heap} (ht:h.get? TAB=some (tabObj #[])):(frozenHeap h).get? TAB=none∧∀ b,b≠TAB→(frozenHeap h).get? b=h.get? b:=by
  refine ⟨?_,fun b hb=>Heap.get?_update_other _ _ (Ne.symm hb)⟩
  obtain ⟨objs,l⟩:=h
  unfold frozenHeap Heap.update Heap.get?
  unfold Heap.get? at ht
  dsimp only at ht ⊢
  cases q:objs[TAB]? with
  | none=>rw [q] at ht; exact nn ht
  | some o=>rw [Array.getElem?_modify]; simp [q]
theorem frozen_keep {h:Heap} (ht:h.get? TAB=some (tabObj #[])):∀ b o,(frozenHeap h).get? b=some o→h.get? b=some o:=fun b o hb=>by
  refine e0_2 (frozen_get ht) fun f1 f2=>?_
  by_cases e:b=TAB
  · subst e; rw [f1] at hb; exact nn hb
  · rw [f2 b e] at hb; exact hb
set_option tactic.hygienic true in
noncomputable def mkBase (prog:Program) (w:World) (K:Frag) (h:Heap) (mb:Str→Option Value) (hk:KOk K) (hh:HeapOk w K h mb):Base prog w TB FT GLB :=
  have fr:=frozen_get hh.tab
  have frk:∀ a o,a≠TAB→h.get? a=some o→(frozenHeap h).get? a=some o:=fun a o ha ho=>(fr.2 a ha).trans ho
  have inK:K.In (frozenHeap h):=fun a o ho=>frk a o (fun e=>by have:=hk.notab; rw [← e,ho] at this; exact ff this) (hh.inK a o ho)
  { B:=frozenHeap h,K:=K,inK:=inK
    nolim:=by refine e1_2 hh.nolim ?_;rintro mc ⟨o,es,ep,ho,r⟩ q; exact ⟨mc,⟨o,es,ep,frk _ _ (by decide) ho,r⟩,q⟩
    sysm:=by refine e1_2 hh.sysm fun o ho r=>?_; exact ⟨o,frk _ _ (by decide) ho,r⟩
    mg:=mainAt K,mb:=mb
    nsg:=by
      have hm:=hk.main
      split at hm
      · rename_i o ho
        split at hm
        · rename_i es ep hd
          refine ⟨o,es,ep,inK _ _ ho,hd,fun e he=>?_,fun x=>?_⟩
          · have:=List.all_eq_true.mp hm e (by simpa using he)
            split at this
            · rename_i n t hk; exact ⟨n,t,hk⟩
            · exact ff this
          · have hE:mainEs K=es.toList:=by unfold mainEs; rw [ho]; dsimp only; rw [hd]
            show _=nsFind (mainEs K).toArray x
            rw [hE,Array.toArray_toList]
        · exact ff hm
      · exact ff hm
    bat:=by refine e2_6 hh.bat fun bm o a b c d e r=>?_; exact ⟨bm,o,a,b,c,d,frk _ _ d e,r⟩
    nsb:=by refine e3_2 hh.nsb fun o es ep ho r=>?_; exact ⟨o,es,ep,frk _ _ (by decide) ho,r⟩
    glob:=fun n u hu=>by
      refine e1_2 (List.any_eq_true.mp hu) fun q hq hb=>?_
      rw [Bool.and_eq_true] at hb
      have e1:=Nat.eq_of_beq_eq_true hb.1
      have e2:=vbeq_eq hb.2
      subst e1 e2
      have hg:=List.all_eq_true.mp hk.glob q hq
      unfold globB at hg
      split at hg
      · rename_i x hx; exact ⟨x,valOk_s inK _ _ hg,.inl hx⟩
      · rename_i hx
        split at hg
        · rename_i b hb
          rw [Bool.and_eq_true,beq_iff_eq,Bool.not_eq_true'] at hg
          refine ⟨b.val,by rw [hb]; rfl,.inr ⟨hx,(hh.boot _ ?_).trans hg.1⟩⟩
          intro e; rw [e] at hg; simp at hg
        · exact ff hg
    attr:=fun C n hn=>by
      have:=List.all_eq_true.mp hk.attr _ (attr_mem C n hn)
      unfold attrB at this
      simp only [Bool.and_eq_true,beq_iff_eq] at this
      refine e0_7 this ?_;clear this;intro a1 a2 a3 a4 a5 a6 a7
      exact ⟨Nat.le_of_ble_eq_true a1,a2,a3,a4,a5,a6,a7⟩
    meth:=fun C n a hn=>by
      have:=List.all_eq_true.mp hk.meth _ (meth_mem C n a hn)
      unfold methB at this
      simp only [Bool.and_eq_true,beq_iff_eq] at this
      refine e0_5 this ?_;clear this;intro a1 a2 a3 a4 a5
      exact ⟨Nat.le_of_ble_eq_true a1,a2,a3,a4,a5⟩
    init:=fun C a hn=>by
      have:=List.all_eq_true.mp hk.init _ (init_mem C a hn)
      unfold initB at this
      simp only [Bool.and_eq_true,beq_iff_eq] at this
      refine e0_4 this ?_;clear this;intro a1 a2 a3 a4
      exact ⟨a1,a2,a3,a4⟩ }
end Internal
namespace Internal
open PySem PySem.W PyProof.Rows PySem.Calls
section
variable {prog:Program} {w:World} {K:Frag} {s:Shared} {mb:Str→Option Value}
noncomputable def Om0 (h:Heap):Om:=⟨[TAB],(frozenHeap h).get?⟩
theorem inv0 (hk:KOk K) (hh:HeapOk w K s.heap mb):Inv w.params (mkBase prog w K s.heap mb hk hh).B (Om0 s.heap) [.code false] s.heap:=by
  have fr:=frozen_get hh.tab
  refine ⟨fun a o h=>frozen_keep hh.tab a o h,fun a o h=>h,rfl,rfl,by simp [Om0],fun a ha=>?_,fun l o a h1 h2=>?_⟩
  · have:a=TAB:=by simpa [Om0] using ha
    subst this; exact fr.1
  · cases l with
    | zero =>
      have e1:a=TAB:=by simpa [Om0] using h2.symm
      have e2:o = .code false:=by simpa using h1.symm
      subst e1 e2; exact hh.tab
    | succ l=>simp at h1
end
end Internal
namespace Internal
open PySem PySem.W PyProof.Rows PySem.Calls
noncomputable def tabB (K:Frag):Bool:=match (fdOf K 363).code with
  | .ref c=>(match K.lookup c with
    | some o=>(match o.cls,o.data with
      | .type t,.fields vs=>t == "code" && (match (vs[11]? : Option Value) with | some (.ref p)=>Nat.beq p TAB | _=>false)
      | _,_=>false)
    | _=>false)
  | _=>false
set_option tactic.hygienic true in
theorem tab_code {K:Frag} {h:Heap} (X:K.In h) (e:tabB K=true):isCodeTable h TAB:=by
  unfold tabB at e
  split at e
  · rename_i c hc
    split at e
    · rename_i o ho
      split at e
      · rename_i t vs h1 h2
        rw [Bool.and_eq_true] at e
        refine e0_2 e ?_;clear e;intro e1 e2
        split at e2
        · rename_i p hp
          have:=Nat.eq_of_beq_eq_true e2
          subst this
          exact ⟨c,o,vs,X _ _ ho,by rw [h1,beq_iff_eq.mp e1],h2,hp⟩
        · exact ff e2
      · exact ff e
    · exact ff e
  · exact ff e
noncomputable def lawB (K:Frag):Bool:=match mainAt K "law" with
  | some (.ref a)=>Nat.beq a 718
  | _=>false
section
variable {p:Program} {loose:List Str} {mean:ExcName→Option Value} {mg mb:Str→Option Value} {w:World} {h:Heap} {K:Frag}
set_option tactic.hygienic true in
theorem main_mg (T:Top p loose mean mg mb h) (X:K.In h) (hk:KOk K) (x:Str):mainAt K x=mg x:=by
  refine e3_4 T.g fun o es ep ho hd _ hn=>?_
  have hm:=hk.main
  split at hm
  · rename_i o' ho'
    have e:=X _ _ ho'
    rw [ho] at e
    injection e with e
    subst e
    have hE:mainEs K=es.toList:=by unfold mainEs; rw [ho']; dsimp only; rw [hd]
    rw [← hn x]
    show nsFind (mainEs K).toArray x=_
    rw [hE,Array.toArray_toList]
  · exact ff hm
theorem heapOk_of (T:Top p loose mean mg mb h) (hi:importsNone p=true) (X:K.In h) (hk:KOk K) (ht:h.get? TAB=some (tabObj #[])):HeapOk w K h mb:=by
  have sr:=T.seer hi
  refine ⟨X,T.nolimit,?_,T.b,T.builtins,?_,ht⟩
  · refine e1_2 sr.mods ?_;rintro mm ⟨o,es,ep,ho,hd,hs,_⟩ _
    refine ⟨o,ho,fun es' m e x hx k t hk'=>?_⟩
    subst e
    injection hd with h1 h2
    subst h1
    refine e2_1 (hs x (by simpa using hx)) fun y ty hy=>?_
    rw [hk'] at hy; cases hy
  · refine e2_6 T.bmain fun bm ob h1 h2 h3 h4 h5 h6=>?_
    refine ⟨bm,ob,(main_mg T X hk _).trans h1,h2,fun e=>?_,fun e=>?_,h3,h4,h5,h6⟩
    · subst e
      refine e3_3 T.g fun o es ep ho hd _=>?_
      rw [ho] at h3; injection h3 with h3
      subst h3; rw [hd] at h6; cases h6
    · subst e
      rw [ht] at h3; injection h3 with h3
      subst h3; cases h6
end
theorem ints_rel {P:Params} {h:Heap} {Ω:Om}:∀ (is:List Int) (vs:List Value),WellAll P h vs (ofPys (is.map PyData.int))→RL P Ω (is.map V.int) vs
  | [],vs,hw=>by cases hw; rfl
  | i :: r,vs,hw=>by
    have hw:WellAll P h vs (ofPy (.int i) :: ofPys (r.map PyData.int)):=hw
    cases hw with
    | cons h1 h2 =>
      have h1:Well P h _ (.int i):=h1
      cases h1 with
      | int i t=>exact ⟨_,_,rfl,⟨t,rfl⟩,ints_rel r _ h2⟩
theorem arg_rel {P:Params} {h:Heap} {a:Addr} (ht:h.get? TAB=some (tabObj #[])) (is:List Int) (hw:Well P h (.ref a) (ofPy (.list (is.map PyData.int)))):R P (Om0 h) (.lst (is.map V.int)) (.ref a):=by
  have hw:Well P h (.ref a) (.list (ofPys (is.map PyData.int))):=hw
  cases hw with
  | list h1 h2 =>
    refine ⟨a,_,0,rfl,?_,ints_rel is _ h2⟩
    have hne:a≠TAB:=fun e=>by
      subst e
      rw [ht] at h1
      injection h1 with h1
      injection h1 with h3
      cases h3
    exact ((frozen_get ht).2 a hne).trans h1
theorem room100:RoomC 100 callerA:=⟨rfl,by decide,by decide⟩
section
variable {prog:Program} {w:World} {K:Frag} {s:Shared} {mb:Str→Option Value}
theorem law_sound2 (hk:KOk K) (hh:HeapOk w K s.heap mb) {A:Around} (rm:RoomC 100 A) {arg:V} {val:Value} (ra:R w.params (Om0 s.heap) arg val) {σ':S} (h:cf TB FT 100 718 [arg] [.code false] = some (.bool true,σ')) {x:Bool} (hx:σ'[0]? = some (.code x)) :
    codeAny (model prog w) A (.call (.ref 718) ⟨[val],[]⟩) (fun r s'=>r = .ok (.ret (.bool true))∧s'.gens=s.gens∧s'.os=s.os∧(∀ b o,b≠TAB→s.heap.get? b=some o→s'.heap.get? b=some o)∧∃ more,s'.heap.get? TAB=some (tabObj more)) s:=by
  have:=(cf_s (G:=mkBase prog w K s.heap mb hk hh) (fun a f hf=>fnAt_all hk a f hf) 100 718 [arg] [.code false] (.bool true) σ' h A s (Om0 s.heap) [val] rm (inv0 hk hh) ⟨val,[],rfl,ra,rfl⟩).2
  refine codeAny_mono this fun r s' ⟨v,e,Ω',ad,I,rv⟩=>?_
  subst rv
  refine ⟨e,ad.gens,ad.os,fun b o hb ho=>ad.keep b o ho (by simp [Om0,hb]) fun h=>h,?_⟩
  have q:=I.objs 0 _ TAB hx I.tab
  induction x using Bool.casesOn with
  | false=>exact ⟨_,q⟩
  | true=>refine e4_2 q ?_;clear q;intro _ _ _ _ g _; exact ⟨_,g⟩
end
theorem law_true2 (is:List Int) (hl:is.length≤63):∃ σ' x,cf TB FT 100 718 [.lst (is.map .int)] [.code false] = some (.bool true,σ')∧σ'[0]? = some (.code x):=Pl.law_true3 is (by (apply le1;assumption;simp +arith only))
theorem fin_law {prog p:Program} {loose:List Str} {mean:ExcName→Option Value} {mg mb:Str→Option Value} {w:World} {K:Params→Frag} {s:Shared} {fa:Addr} {a:Addr} {is:List Int}
    (hk:∀ P,KOk (K P)) (ht:∀ P,tabB (K P)=true) (hlw:∀ P,lawB (K P)=true) (T:Top p loose mean mg mb s.heap) (hi:importsNone p=true) (X:(K w.params).In s.heap) (htab:∀ P ∈ [358],s.heap.get? P=some (tabObj #[]))
    (hmg:mg (Str.ofString "law")=some (.ref fa)) (hw:Well w.params s.heap (.ref a) (ofPy (.list (is.map PyData.int)))) (hl:is.length≤63) :
    codeAny (model prog w) callerA (.call (.ref fa) ⟨[.ref a],[]⟩) (fun r s'=>r = .ok (.ret (.bool true))∧OldK s.heap s'.heap∧s'.os=s.os∧s'.gens=s.gens) s:=by
  have tb:s.heap.get? TAB=some (tabObj #[]):=htab 358 (by simp)
  have hh:HeapOk w (K w.params) s.heap mb:=heapOk_of T hi X (hk _) tb
  have hf:fa=718:=by
    have:=hlw w.params
    unfold lawB at this
    have e:mainAt (K w.params) "law" = some (.ref fa):=(main_mg T X (hk _) _).trans hmg
    rw [e] at this
    exact Nat.eq_of_beq_eq_true this
  subst hf
  refine e2_2 (law_true2 is hl) fun σ' x h1 h2=>?_
  refine codeAny_mono (law_sound2 (hk _) hh room100 (arg_rel tb is hw) h1 h2) fun r s' ⟨e,g,os,kp,more,tm⟩=>?_
  refine ⟨e,⟨fun b o hb=>?_,fun b o hb=>?_⟩,os,g⟩
  · by_cases hn:b=TAB
    · subst hn
      rw [tb] at hb
      injection hb with hb
      subst hb
      exact .inr (.inl ⟨tab_code X (ht _),rfl,#[],more,rfl,by rw [tm]; simp [tabObj]⟩)
    · exact .inl (kp b o hn hb)
  · by_cases hn:b=TAB
    · subst hn; exact ⟨_,tm⟩
    · exact ⟨o,kp b o hn hb⟩
end Internal
namespace Internal
open PySem PySem.W PyProof.Rows PySem.Challenge
noncomputable def KEEP:List Nat:=[0,2,3,4,5,7,8,10,11,12,13,14,15,16,17,18,20,21,23,24,25,26,27,28,29,30,31,33,34,35,36,37,38,39,40,41,42,43,44,45,46,47,48,49,51,53,54,55,56,57,59,61,62,63,64,66,67,68,69,70,71,72,73,74,75,76,77,78,79,80,81,82,83,84,85,86,87]
noncomputable def vw:Program:=view pw_pf0081_01 KEEP
noncomputable def LOOSE:List Str:=["ChanError", "made_value_lower_calls", "made_value_lower_exprs"]
set_option maxHeartbeats 0 in
theorem said:OpenLaw.wellSaid rw_pf0081_01=true:=by
  rw [Fast.te9446332074065402090]
  kernel_rfl
noncomputable def lawD:DefRec × List (Str × PySem.Expr):=match defOf vw rw_pf0081_01.row.name with
  | some x=>x
  | none=>(⟨"", ⟨[],[],none,[],[],none,[]⟩,[],⟨.function,[],false,false,[]⟩,default⟩,[])
end Internal
namespace Internal
open PySem PySem.W PyProof.Rows PySem.Challenge
noncomputable def runT (st:SharedT→Thread→Option (SharedT × Thread)) (ok:Thread→Bool):Nat→SharedT→Thread→Option SharedT
  | 0,_,_=>none
  | n + 1,s,t=>match through t with
    | true=>some s
    | false=>match ok t with
      | false=>none
      | true=>match st s t with
        | some (s',t')=>runT st ok n s' t'
        | none=>none
noncomputable def toT (l:List Obj):BT:=(l.foldl (fun (q:BT × Nat) o=>(q.1.ins q.2 o,q.2 + 1)) (.nil,0)).1
noncomputable def shT (s:Shared):SharedT:=⟨toT s.heap.objs.toList,s.heap.objs.size,s.heap.life,s.gens,s.drawn,s.toks,s.os⟩
end Internal
namespace Internal
open PySem PySem.W PyProof.Rows PySem.Challenge
section
variable {tb:String→Option Builtin} {p:Program} {w:World} {n₀:Nat} {ann:Option Value}
theorem runT_of:∀ {n:Nat} {s s':SharedT} {t:Thread},runT (stepT (denote tb) p w) (stepOk n₀ ann) n s t=some s'→topRun tb p w n₀ ann n s.abs t=some s'.abs
  | 0,s,s',t,h=>by cases h
  | n + 1,s,s',t,h=>by
    unfold runT at h
    unfold topRun
    cases h1:through t with
    | true=>rw [h1] at h; simp only [Option.some.injEq] at h; subst h; rfl
    | false =>
      rw [h1] at h
      simp only at h ⊢
      cases h2:stepOk n₀ ann t with
      | false=>rw [h2] at h; cases h
      | true =>
        rw [h2] at h
        simp only at h ⊢
        cases h3:stepT (denote tb) p w s t with
        | none=>rw [h3] at h; cases h
        | some q =>
          obtain ⟨s1,t1⟩:=q
          rw [h3] at h
          simp only at h
          rw [stepT_spec h3]
          exact runT_of h
end
set_option maxHeartbeats 0 in
theorem open_abs:∀ w,(fencedOpening treeTable pw_pf0081_01 w 9400).map (fun s=>(shT s).abs)=fencedOpening treeTable pw_pf0081_01 w 9400:=fun w=>by
  rw [Fast.te14364793385576792824]
  unfold fencedOpening
  rw [Fast.te10274390034422433532,Fast.te14289696077712309145,Fast.te1435165496053646825]
  kernel_rfl
end Internal
namespace Internal
open PySem PySem.W PyProof.Rows PySem.Challenge
noncomputable def topT (w:World):Option (Shared × SharedT):=(fencedOpening treeTable pw_pf0081_01 w 9400).bind fun s=>(runT (stepT (denote treeTable) pw_pf0081_01 w) (stepOk s.heap.objs.size (s.heap.nsMap mainGlobals "__annotations__")) 9400 (shT s) (topStub pw_pf0081_01)).map fun s1=>(s,s1)
noncomputable def fragE (t:SharedT) (a:Nat):Option (Addr × Obj):=match Nat.beq a TAB with
  | true=>none
  | false=>match t.tree.get a with
    | some o=>(alive o).map fun o=>(a,o)
    | none=>none
noncomputable def fragL (t:SharedT):Nat→Frag→Frag
  | 0,acc=>acc
  | n + 1,acc=>fragL t n (match fragE t n with | some p=>p :: acc | none=>acc)
noncomputable def fragT (t:SharedT):Frag:=fragL t 719 []
theorem fragL_in {t:SharedT}:∀ (n:Nat) (acc:Frag),n≤t.n→(Frag.In acc t.abs.heap)→(fragL t n acc).In t.abs.heap
  | 0,acc,_,h=>h
  | n + 1,acc,hn,h=>by
    unfold fragL
    refine fragL_in n _ (Nat.le_of_succ_le hn) ?_
    cases e:fragE t n with
    | none=>exact h
    | some p =>
      unfold fragE at e
      split at e
      · cases e
      · split at e
        · rename_i o ho
          cases q:alive o with
          | none=>rw [q] at e; cases e
          | some o' =>
            rw [q] at e
            simp only [Option.map_some,Option.some.injEq] at e
            subst e
            intro a x hx
            rw [List.lookup_cons] at hx
            split at hx
            · rename_i ha
              rw [beq_iff_eq] at ha
              subst ha
              injection hx with hx
              subst hx
              exact (abs_get hn ho).trans q
            · exact h a x hx
        · cases e
theorem fragT_in {t:SharedT} (h:719≤t.n):(fragT t).In t.abs.heap:=by
  unfold fragT
  exact fragL_in 719 [] h fun a o h=>(by cases h)
noncomputable def bodsL (K:Frag):List FuncBody:=funL.map fun q=>(fdOf K q.1).body
noncomputable def bodsE:List FuncBody:=funL.map fun q=>FuncBody.stmts (toSs q.2.body)
end Internal
namespace Internal
open PySem PySem.W PyProof.Rows PySem.Challenge
noncomputable abbrev XT (s:Shared):Bool:=xlAt vw [] s && recOk (RowW.records rw_pf0081_01.row.toRowW) s
noncomputable abbrev OS:=openSeen vw LOOSE (importedModules pw_pf0081_01.main.body) XT true
noncomputable abbrev OG:=openGood vw LOOSE
noncomputable def conds (s s':Shared):Bool:=staticsOk (importedModules pw_pf0081_01.main.body) s.heap s'.heap && namesBound pw_pf0081_01 s'.heap && gensDone s' && laidKept s.heap s'.heap
noncomputable def kokC (K:Frag):Bool:=(attrL.all fun q=>attrB K q.1 q.2) && ((methL.all fun q=>methB K q.1 q.2.1 q.2.2) && (initL.all fun q=>initB K q.1 q.2))
noncomputable def kokD1 (K:Frag):Bool:=funL.all fun q=>fnB K q.1 q.2
noncomputable def kokD2 (K:Frag):Bool:=(globL.all fun q=>globB K q.1 q.2) && ((funL.all fun q=>lamB K q.1 q.2) && ((funL.all fun q=>prmB K q.1 q.2) && ((funL.all fun q=>dflB K q.1 q.2 || (Nat.beq q.1 309 || Nat.beq q.1 584)) && (defB K 309 F309 && (defB K 584 F584 && ((K.lookup TAB).isNone && ((match K.lookup mainGlobals with | some o=>(match o.data with | .dict es _=>es.toList.all (fun e=>match e.key with | .str _ _=>true | _=>false) | _=>false) | none=>false) && (tabB K && lawB K))))))))
end Internal
namespace Internal
open PySem PySem.W PyProof.Rows PySem.Challenge
theorem kok_of {K:Frag} (h1:kokC K=true) (h2:kokD1 K=true) (h2':kokD2 K=true) (h3:bodsL K=bodsE):KOk K∧tabB K=true∧lawB K=true:=by
  unfold kokC at h1
  unfold kokD2 at h2'
  simp only [Bool.and_eq_true] at h1 h2'
  obtain ⟨a,b,c⟩:=h1
  obtain ⟨d,f,g,h,i,j,k,l,m,n⟩:=h2'
  exact ⟨⟨a,b,c,d,h2,h3,f,g,h,i,j,k,l⟩,m,n⟩
noncomputable def YP (h:Heap):Prop:=∃ K:Frag,K.In h∧KOk K∧tabB K=true∧lawB K=true∧h.get? TAB=some (tabObj #[])
theorem tup9 {A B C D E F G H I:Type}:∀ {x y:A × B × C × D × E × F × G × H × I},(match x with | (a,_)=>a)=y.1→(match x with | (_,b,c,_)=>(b,c))=(y.2.1,y.2.2.1)→(match x with | (_,_,_,d,e,_)=>(d,e))=(y.2.2.2.1,y.2.2.2.2.1) →
    (match x with | (_,_,_,_,_,f,_)=>f)=y.2.2.2.2.2.1→(match x with | (_,_,_,_,_,_,g,h,i)=>(g,h,i))=(y.2.2.2.2.2.2.1,y.2.2.2.2.2.2.2.1,y.2.2.2.2.2.2.2.2)→x=y :=
  fun h1 h2 h3 h4 h5=>by
    have a:=congrArg Prod.fst h2
    have b:=congrArg Prod.snd h2
    have c:=congrArg Prod.fst h3
    have d:=congrArg Prod.snd h3
    exact Prod.ext h1 (Prod.ext a (Prod.ext b (Prod.ext c (Prod.ext d (Prod.ext h4 h5)))))
theorem left_of
    (hA0:∀ w,(topT w).map (fun p=>match OS p.2.abs with | (a,_)=>a)=some OG.1)
    (hA1:∀ w,(topT w).map (fun p=>match OS p.2.abs with | (_,b,c,_)=>(b,c))=some (OG.2.1,OG.2.2.1))
    (hB1:∀ w,(topT w).map (fun p=>match OS p.2.abs with | (_,_,_,d,e,_)=>(d,e))=some (OG.2.2.2.1,OG.2.2.2.2.1))
    (hB2:∀ w,(topT w).map (fun p=>match OS p.2.abs with | (_,_,_,_,_,f,_)=>f)=some OG.2.2.2.2.2.1)
    (hB3:∀ w,(topT w).map (fun p=>match OS p.2.abs with | (_,_,_,_,_,_,g,h,i)=>(g,h,i))=some (OG.2.2.2.2.2.2.1,OG.2.2.2.2.2.2.2.1,OG.2.2.2.2.2.2.2.2))
    (hC:∀ w,(topT w).map (fun p=>(p.1.heap.isNs mainGlobals && p.1.gens.size == 0,conds p.1 p.2.abs,bodsL (fragT p.2)))=some (true,true,bodsE))
    (hK1:∀ w,(topT w).map (fun p=>(kokC (fragT p.2),Nat.ble 719 p.2.n,(p.2.tree.get 358).bind alive))=some (true,true,some (tabObj #[])))
    (hK2:∀ w,(topT w).map (fun p=>kokD1 (fragT p.2))=some true)
    (hK3:∀ w,(topT w).map (fun p=>kokD2 (fragT p.2))=some true) :
    LeftO pw_pf0081_01 vw LOOSE XT (fun s=>YP s.heap) (fun _=>True) 9400:=fun w=>by
  have hA0:=hA0 w
  have hA1:=hA1 w
  have hB1:=hB1 w
  have hB3:=hB3 w
  have hB2:=hB2 w
  have hC:=hC w
  have hK1:=hK1 w
  have hK2:=hK2 w
  have hK3:=hK3 w
  have ha:=open_abs w
  unfold openEnds
  cases ht:topT w with
  | none=>rw [ht] at hA0; cases hA0
  | some p =>
    obtain ⟨s,s1⟩:=p
    rw [ht] at hA0 hA1 hB1 hB3 hB2 hC hK1 hK2 hK3
    simp only [Option.map_some,Option.some.injEq] at hA0 hA1 hB1 hB3 hB2 hC hK1 hK2 hK3
    unfold topT at ht
    cases hf:fencedOpening treeTable pw_pf0081_01 w 9400 with
    | none=>rw [hf] at ht; cases ht
    | some s0 =>
      rw [hf] at ht ha
      simp only [Option.map_some,Option.some.injEq,Option.bind_some] at ha ht ⊢
      cases hr:runT (stepT (denote treeTable) pw_pf0081_01 w) (stepOk s0.heap.objs.size (s0.heap.nsMap mainGlobals "__annotations__")) 9400 (shT s0) (topStub pw_pf0081_01) with
      | none=>rw [hr] at ht; cases ht
      | some s2 =>
        rw [hr] at ht
        simp only [Option.map_some,Option.some.injEq,Prod.mk.injEq] at ht
        obtain ⟨e1,e2⟩:=ht
        subst e1 e2
        have ht:=runT_of hr
        rw [ha] at ht
        simp only [Prod.mk.injEq] at hC hK1
        obtain ⟨c1,c2,hK4⟩:=hC
        obtain ⟨k1,k2,k3⟩:=hK1
        unfold conds at c2
        unfold topFrom
        rw [c1]
        have ho:OS s2.abs=OG:=tup9 hA0 hA1 hB1 hB2 hB3
        unfold OS OG at ho
        simp only [ht,Option.bind_some,c2,Option.map_some,ho]
        have hy:YP s2.abs.heap:=by
          obtain ⟨q1,q2,q3⟩:=kok_of k1 hK2 hK3 hK4
          have hn:=Nat.le_of_ble_eq_true k2
          refine ⟨fragT s2,fragT_in hn,q1,q2,q3,?_⟩
          cases hg:s2.tree.get 358 with
          | none=>rw [hg] at k3; cases k3
          | some o=>rw [hg] at k3; exact (abs_get (Nat.lt_of_lt_of_le (by decide) hn) hg).trans k3
        have hy':YP s2.abs.heap=True:=eq_true hy
        rw [hy']
set_option maxHeartbeats 0 in
theorem holds_of (hl:LeftO pw_pf0081_01 vw LOOSE XT (fun s=>YP s.heap) (fun _=>True) 9400):rw_pf0081_01.Holds:=by
  refine holds_law said fun said=>?_
  refine holds_open (q:=vw) (loose:=LOOSE) (Xt:=XT) (XP:=XL vw []) (Yf:=fun s=>YP s.heap) (Ya:=fun _=>True) (YP:=fun _ h=>YP h) (N:=9400) (d:=lawD.1) (kwd:=lawD.2) hl (fun _ _ e=>of_eq_true e) (fun w h h' ⟨K,a,b,c,d,e⟩ k=>⟨K,a.keeps k,b,c,d,k _ _ e⟩) (fun s e=>xl_of s (Bool.and_eq_true_iff.mp e).1) XL.keeps (by kernel_rfl) (by kernel_rfl) (by kernel_rfl) (fun s e=>recFacts_of (Bool.and_eq_true_iff.mp e).2) (by kernel_rfl) said (by decide +kernel) ⟨rfl,rfl,rfl,rfl,rfl,by decide +kernel⟩ ?hw ?hc
  case hw=>w_witness2
  case hc =>
    intro w s₀ s₁ mg mb G Y fa o pm cd doc dV kV ho hd hcd hD hmg hg args vals as hpre hlay hrd hwl hlo
    have T:=G.T
    clear hd hD G hcd ho
    have hmg':mg (Str.ofString "law")=some (Value.ref fa):=hmg
    clear hmg
    wrow_args hpre hlay hrd hwl hlo
    refine enter_call ?_
    obtain ⟨K,X,hk,ht,hlw,htab⟩:=Y
    refine codeAny_mono (fin_law (K:=fun _=>K) (fun _=>hk) (fun _=>ht) (fun _=>hlw) T (by kernel_rfl) X (fun P hP=>by rw [List.mem_singleton.mp hP]; exact htab) hmg' (by assumption) (by omega)) ?_
    rintro r s' ⟨hr,ok,os,g⟩
    subst hr
    refine ⟨.inl ⟨.bool true,.bool true,[],rfl,fun _=>?_,?_,?_,?_⟩,ok,os,AllBare.of_eq (g.trans hg)⟩
    · rfl
    · exact .bool true
    · wrow_post
    · exact fun _=>⟨.nil,fun a h=>by cases h⟩
end Internal
namespace Internal
open PySem PySem.W PyProof.Rows PySem.Challenge
set_option maxHeartbeats 0 in
theorem qA:∀ w,(topT w).map (fun p=>((match OS p.2.abs with | (a,_)=>a),(match OS p.2.abs with | (_,_,_,d,e,_)=>(d,e))))=some (OG.1,OG.2.2.2.1,OG.2.2.2.2.1):=fun w=>by
  unfold topT OS
  rw [Fast.te14364793385576792824,Fast.te10156331382660048174,Fast.te11892475500146522536,Fast.te6613529449190102663,Fast.te4187177175401517315]
  unfold fencedOpening
  rw [Fast.te10274390034422433532,Fast.te14289696077712309145,Fast.te1435165496053646825]
  kernel_rfl
end Internal
namespace Internal
open PySem PySem.W PyProof.Rows PySem.Challenge
set_option maxHeartbeats 0 in
theorem qB:∀ w,(topT w).map (fun p=>((match OS p.2.abs with | (_,b,c,_)=>(b,c)),(match OS p.2.abs with | (_,_,_,_,_,_,g,h,i)=>(g,h,i))))=some ((OG.2.1,OG.2.2.1),(OG.2.2.2.2.2.2.1,OG.2.2.2.2.2.2.2.1,OG.2.2.2.2.2.2.2.2)):=fun w=>by
  unfold topT OS
  rw [Fast.te14364793385576792824,Fast.te10156331382660048174,Fast.te11892475500146522536,Fast.te6613529449190102663,Fast.te4187177175401517315]
  unfold fencedOpening
  rw [Fast.te10274390034422433532,Fast.te14289696077712309145,Fast.te1435165496053646825]
  kernel_rfl
end Internal
namespace Internal
open PySem PySem.W PyProof.Rows PySem.Challenge
set_option maxHeartbeats 0 in
theorem qF:∀ w,(topT w).map (fun p=>match OS p.2.abs with | (_,_,_,_,_,f,_)=>f)=some (OG.2.2.2.2.2.1):=fun w=>by
  unfold topT OS
  rw [Fast.te14364793385576792824,Fast.te10156331382660048174,Fast.te11892475500146522536,Fast.te6613529449190102663,Fast.te4187177175401517315]
  unfold fencedOpening
  rw [Fast.te10274390034422433532,Fast.te14289696077712309145,Fast.te1435165496053646825]
  kernel_rfl
end Internal
namespace Internal
open PySem PySem.W PyProof.Rows PySem.Challenge
set_option maxHeartbeats 0 in
theorem qK:∀ w,(topT w).map (fun p=>((p.1.heap.isNs mainGlobals && p.1.gens.size == 0,conds p.1 p.2.abs,bodsL (fragT p.2)),(kokC (fragT p.2),Nat.ble 719 p.2.n,(p.2.tree.get 358).bind alive)))=some ((true,true,bodsE),(true,true,some (tabObj #[]))):=fun w=>by
  unfold topT
  rw [Fast.te14364793385576792824,Fast.te10156331382660048174,Fast.te11892475500146522536,Fast.te6613529449190102663]
  unfold fencedOpening
  rw [Fast.te10274390034422433532,Fast.te14289696077712309145,Fast.te1435165496053646825]
  kernel_rfl
end Internal
namespace Internal
open PySem PySem.W PyProof.Rows PySem.Challenge
set_option maxHeartbeats 0 in
theorem qL:∀ w,(topT w).map (fun p=>(kokD1 (fragT p.2),kokD2 (fragT p.2)))=some (true,true):=fun w=>by
  unfold topT
  rw [Fast.te14364793385576792824,Fast.te10156331382660048174,Fast.te11892475500146522536,Fast.te6613529449190102663]
  unfold fencedOpening
  rw [Fast.te10274390034422433532,Fast.te14289696077712309145,Fast.te1435165496053646825]
  kernel_rfl
end Internal
namespace Internal
open PySem PySem.W PyProof.Rows PySem.Challenge
theorem pr1 {α β γ:Type} {o:Option α} {f:α→β} {g:α→γ} {b:β} {c:γ} (h:o.map (fun p=>(f p,g p))=some (b,c)):o.map f=some b:=by
  cases o with
  | none=>cases h
  | some a=>injection h with h; injection h with h1 h2; exact congrArg some h1
theorem pr2 {α β γ:Type} {o:Option α} {f:α→β} {g:α→γ} {b:β} {c:γ} (h:o.map (fun p=>(f p,g p))=some (b,c)):o.map g=some c:=by
  cases o with
  | none=>cases h
  | some a=>injection h with h; injection h with h1 h2; exact congrArg some h2
theorem left:LeftO pw_pf0081_01 vw LOOSE XT (fun s=>YP s.heap) (fun _=>True) 9400 :=
  left_of (fun w=>pr1 (qA w)) (fun w=>pr1 (qB w)) (fun w=>pr2 (qA w)) qF (fun w=>pr2 (qB w)) (fun w=>pr1 (qK w)) (fun w=>pr2 (qK w)) (fun w=>pr1 (qL w)) (fun w=>pr2 (qL w))
end Internal
theorem PySem.Challenge.cw_pf0081_01_holds : PySem.Challenge.rw_pf0081_01.Holds :=
  Internal.holds_of Internal.left
