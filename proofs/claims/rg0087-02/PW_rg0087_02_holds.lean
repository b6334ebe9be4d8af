import PyProof.Rows.All
import Wide.All
import OpenK.AllK
import Wide.FinOn
import Lean
import PySem.Challenge.RW_rg0087_02
set_option Elab.async false
set_option maxRecDepth 1000000
set_option linter.unusedVariables false
set_option autoImplicit false
set_option maxHeartbeats 8000000
set_option genSizeOf false
set_option genInjectivity false
namespace Mine
open PySem
inductive V where
 | none|bool (b:Bool)|int (i:Int)|str (s:List Nat)|ref (l:Nat)|top (v:Value)
 deriving Inhabited
inductive G where
 | nm (x:Nat) (p:Pos)
 | tp (xs:List (Nat×Pos)) (k:Nat) (p:Pos)
inductive T where
 | cnone (k:Nat) (p:Pos)
 | cbool (b:Bool) (k:Nat) (p:Pos)
 | cint (i:Int) (k:Nat) (p:Pos)
 | cstr (s:Nat) (k:Nat) (p:Pos)
 | name (x:Nat) (p:Pos)
 | attr (e:T) (f:Nat) (p:Pos)
 | call (f:T) (args:List T) (p:Pos)
 | meth (o:T) (f:Nat) (ap:Pos) (args:List T) (p:Pos)
 | sub (e i:T) (p:Pos)
 | cut (e:T) (lo hi:Option T) (sp p:Pos)
 | and_ (vs:List T) (p:Pos)
 | or_ (vs:List T) (p:Pos)
 | not_ (e:T) (p:Pos)
 | neg (e:T) (p:Pos)
 | cmp (l:T) (op:CmpOp) (r:T) (p:Pos)
 | bin (l:T) (op:Operator) (r:T) (p:Pos)
 | ife (c a b:T) (p:Pos)
 | list (es:List T) (p:Pos)
 | tup (es:List T) (k:Nat) (p:Pos)
 | dict (ks vs:List T) (p:Pos)
 | comp (elt:T) (g:G) (it:T) (ifs:List T) (rest:List PySem.Comprehension) (kd:List (Nat×NameKind)) (more:List (Nat×Nat)) (p:Pos)
inductive TG where
 | nm (x:Nat) (p:Pos)
 | tp (xs:List (Nat×Pos)) (k:Nat) (p:Pos)
 | at_ (o:T) (f:Nat) (p:Pos)
 | sb (o i:T) (p:Pos)
inductive S where
 | raw (s:PySem.Stmt)
 | expr (e:T) (p:Pos)
 | ret (e:Option T) (p:Pos)
 | asg (t:TG) (e:T) (p:Pos)
 | aug (t:TG) (op:Operator) (e:T) (p:Pos)
 | ife (c:T) (a b:List S) (p:Pos)
 | whl (c:T) (b:List S) (p:Pos)
 | for_ (g:G) (it:T) (b:List S) (p:Pos)
 | cont (p:Pos)
 | rais (x:Nat) (np:Pos) (a b:T) (cp p:Pos)
 | tryE (b:List S) (x:Nat) (np:Pos) (h:List S) (hp p:Pos)
 | tryF (b f:List S) (p:Pos)
 | defn (nm:Nat) (b:List S) (kd:List (Nat×NameKind)) (more:List (Nat×Nat)) (p:Pos)
section dec
variable (nm:Nat->Str)
noncomputable def scopeOf (kd:List (Nat×NameKind)) (more:List (Nat×Nat)):Scope:=
 {kind:=.function,names:=kd.map fun x=>(nm x.1,x.2),isGenerator:=false,isCoroutine:=false,more:=more.map fun x=>(nm x.1,.str (nm x.2))}
noncomputable def G.dec:G->PySem.Expr
 | .nm x p=>.Name (nm x) p
 | .tp xs k p=>.Tuple (xs.map fun x=>.Name (nm x.1) x.2) k p
mutual
noncomputable def T.dec:T->PySem.Expr
 | .cnone k p=>.Constant .none k p
 | .cbool b k p=>.Constant (.bool b) k p
 | .cint i k p=>.Constant (.int i) k p
 | .cstr s k p=>.Constant (.str (nm s)) k p
 | .name x p=>.Name (nm x) p
 | .attr e f p=>.Attribute e.dec (nm f) p
 | .call f as p=>.Call f.dec (T.decL as) [] p
 | .meth o f ap as p=>.Call (.Attribute o.dec (nm f) ap) (T.decL as) [] p
 | .sub e i p=>.Subscript e.dec i.dec p
 | .cut e lo hi sp p=>.Subscript e.dec (.Slice (T.decO lo) (T.decO hi) none sp) p
 | .and_ vs p=>.BoolOp .And (T.decL vs) p
 | .or_ vs p=>.BoolOp .Or (T.decL vs) p
 | .not_ e p=>.UnaryOp .Not e.dec p
 | .neg e p=>.UnaryOp .USub e.dec p
 | .cmp l op r p=>.Compare l.dec [op] [r.dec] p
 | .bin l op r p=>.BinOp l.dec op r.dec p
 | .ife c a b p=>.IfExp c.dec a.dec b.dec p
 | .list es p=>.List (T.decL es) p
 | .tup es k p=>.Tuple (T.decL es) k p
 | .dict ks vs p=>.Dict (T.decS ks) (T.decL vs) p
 | .comp elt g it ifs rest kd more p=>.ListComp elt.dec (⟨g.dec nm,it.dec,T.decL ifs,0⟩::rest) (scopeOf nm kd more) p
noncomputable def T.decL:List T->List PySem.Expr
 | []=>[]
 | t::r=>t.dec::T.decL r
noncomputable def T.decS:List T->List (Option PySem.Expr)
 | []=>[]
 | t::r=>some t.dec::T.decS r
noncomputable def T.decO:Option T->Option PySem.Expr
 | none=>none
 | some t=>some t.dec
end
noncomputable def TG.dec:TG->PySem.Expr
 | .nm x p=>.Name (nm x) p
 | .tp xs k p=>.Tuple (xs.map fun x=>.Name (nm x.1) x.2) k p
 | .at_ o f p=>.Attribute (o.dec nm) (nm f) p
 | .sb o i p=>.Subscript (o.dec nm) (i.dec nm) p
noncomputable def noArgs:Arguments:=⟨[],[],none,[],[],none,[]⟩
mutual
noncomputable def S.dec:S->PySem.Stmt
 | .raw s=>s
 | .expr e p=>.Expr (e.dec nm) p
 | .ret e p=>.Return (T.decO nm e) p
 | .asg t e p=>.Assign [t.dec nm] (e.dec nm) p
 | .aug t op e p=>.AugAssign (t.dec nm) op (e.dec nm) p
 | .ife c a b p=>.If (c.dec nm) (S.decL a) (S.decL b) p
 | .whl c b p=>.While (c.dec nm) (S.decL b) [] p
 | .for_ g it b p=>.For (g.dec nm) (it.dec nm) (S.decL b) [] p
 | .cont p=>.Continue p
 | .rais x np a b cp p=>.Raise (some (.Call (.Name (nm x) np) [a.dec nm,b.dec nm] [] cp)) none p
 | .tryE b x np h hp p=>.Try (S.decL b) [.ExceptHandler (some (.Name (nm x) np)) none (S.decL h) hp] [] [] p
 | .tryF b f p=>.Try (S.decL b) [] [] (S.decL f) p
 | .defn n b kd more p=>.FunctionDef (nm n) noArgs (S.decL b) [] none [] (scopeOf nm kd more) none (nm n) p
noncomputable def S.decL:List S->List PySem.Stmt
 | []=>[]
 | t::r=>t.dec::S.decL r
end
end dec
inductive O where
 | list (xs:List V)
 | slist (t:Nat)
 | sdict (t:Nat)
 | tup (xs:List V)
 | dict (es:List (List Nat×V))
 | inst (C:Nat) (fs:List (Nat×V))
 | rsv
 | rng (n:Int)
 | cell0
 | cell (v:V)
 | clo (b:List S) (kd:List (Nat×NameKind)) (cs:List (Nat×Nat))
inductive Dg where
 | a|b|c|d|e|f|g|h|i|j|k|l
structure C6 (α:Type) where
 (a b c d e f g h i j k l:α)
structure NT (α:Type) where
 h:C6 (C6 (C6 (Option α)))
 r:Nat->Option α
inductive Bx (α:Type) where
 | mk (x:α)
noncomputable section
noncomputable def cn {α:Type} (b:Bool) (x y:α):α:=@Bool.rec (fun _=>α) y x b
noncomputable def oc {α β:Type} (o:Option α) (x:β) (f:α->β):β:=@Option.rec α (fun _=>β) x f o
noncomputable def dg1 (i:Nat):Dg:=@Nat.rec (fun _=>Dg) .b (fun i _=>@Nat.rec (fun _=>Dg) .c (fun i _=>@Nat.rec (fun _=>Dg) .d (fun i _=>@Nat.rec (fun _=>Dg) .e (fun i _=>@Nat.rec (fun _=>Dg) .f (fun i _=>@Nat.rec (fun _=>Dg) .g (fun i _=>@Nat.rec (fun _=>Dg) .h (fun i _=>@Nat.rec (fun _=>Dg) .i (fun i _=>@Nat.rec (fun _=>Dg) .j (fun i _=>@Nat.rec (fun _=>Dg) .k (fun _ _=>.l) i) i) i) i) i) i) i) i) i) i
noncomputable def dg (i:Nat):Dg:=@Nat.rec (fun _=>Dg) .a (fun n _=>dg1 n) i
noncomputable def p0 {α:Type} (g:α->α) (t:C6 α):C6 α:=@C6.rec α (fun _=>C6 α) (fun a b c d e f y h i j k l=>⟨g a,b,c,d,e,f,y,h,i,j,k,l⟩) t
noncomputable def p1 {α:Type} (g:α->α) (t:C6 α):C6 α:=@C6.rec α (fun _=>C6 α) (fun a b c d e f y h i j k l=>⟨a,g b,c,d,e,f,y,h,i,j,k,l⟩) t
noncomputable def p2 {α:Type} (g:α->α) (t:C6 α):C6 α:=@C6.rec α (fun _=>C6 α) (fun a b c d e f y h i j k l=>⟨a,b,g c,d,e,f,y,h,i,j,k,l⟩) t
noncomputable def p3 {α:Type} (g:α->α) (t:C6 α):C6 α:=@C6.rec α (fun _=>C6 α) (fun a b c d e f y h i j k l=>⟨a,b,c,g d,e,f,y,h,i,j,k,l⟩) t
noncomputable def p4 {α:Type} (g:α->α) (t:C6 α):C6 α:=@C6.rec α (fun _=>C6 α) (fun a b c d e f y h i j k l=>⟨a,b,c,d,g e,f,y,h,i,j,k,l⟩) t
noncomputable def p5 {α:Type} (g:α->α) (t:C6 α):C6 α:=@C6.rec α (fun _=>C6 α) (fun a b c d e f y h i j k l=>⟨a,b,c,d,e,g f,y,h,i,j,k,l⟩) t
noncomputable def p6 {α:Type} (g:α->α) (t:C6 α):C6 α:=@C6.rec α (fun _=>C6 α) (fun a b c d e f y h i j k l=>⟨a,b,c,d,e,f,g y,h,i,j,k,l⟩) t
noncomputable def p7 {α:Type} (g:α->α) (t:C6 α):C6 α:=@C6.rec α (fun _=>C6 α) (fun a b c d e f y h i j k l=>⟨a,b,c,d,e,f,y,g h,i,j,k,l⟩) t
noncomputable def p8 {α:Type} (g:α->α) (t:C6 α):C6 α:=@C6.rec α (fun _=>C6 α) (fun a b c d e f y h i j k l=>⟨a,b,c,d,e,f,y,h,g i,j,k,l⟩) t
noncomputable def p9 {α:Type} (g:α->α) (t:C6 α):C6 α:=@C6.rec α (fun _=>C6 α) (fun a b c d e f y h i j k l=>⟨a,b,c,d,e,f,y,h,i,g j,k,l⟩) t
noncomputable def p10 {α:Type} (g:α->α) (t:C6 α):C6 α:=@C6.rec α (fun _=>C6 α) (fun a b c d e f y h i j k l=>⟨a,b,c,d,e,f,y,h,i,j,g k,l⟩) t
noncomputable def p11 {α:Type} (g:α->α) (t:C6 α):C6 α:=@C6.rec α (fun _=>C6 α) (fun a b c d e f y h i j k l=>⟨a,b,c,d,e,f,y,h,i,j,k,g l⟩) t
noncomputable def sl {α:Type} (q:Dg) (t:C6 α):α:=@Dg.rec (fun _=>(α:Type)->C6 α->α) @C6.a @C6.b @C6.c @C6.d @C6.e @C6.f @C6.g @C6.h @C6.i @C6.j @C6.k @C6.l q _ t
noncomputable def upd {α:Type} (q:Dg) (f:α->α) (t:C6 α):C6 α:=@Dg.rec (fun _=>(α:Type)->(α->α)->C6 α->C6 α) @p0 @p1 @p2 @p3 @p4 @p5 @p6 @p7 @p8 @p9 @p10 @p11 q _ f t
noncomputable def c6 {α:Type} (x:α):C6 α:=⟨x,x,x,x,x,x,x,x,x,x,x,x⟩
noncomputable def pth {α:Type} (t:C6 (C6 (C6 α))) (k:Nat):α:=sl (dg (Nat.mod k (nat_lit 12))) (sl (dg (Nat.mod (Nat.div k (nat_lit 12)) (nat_lit 12))) (sl (dg (Nat.div k (nat_lit 144))) t))
noncomputable def upp {α:Type} (g:α->α) (t:C6 (C6 (C6 α))) (k:Nat):C6 (C6 (C6 α)):=upd (dg (Nat.div k (nat_lit 144))) (upd (dg (Nat.mod (Nat.div k (nat_lit 12)) (nat_lit 12))) (upd (dg (Nat.mod k (nat_lit 12))) g)) t
noncomputable def rp {α:Type} (r:Nat->Option α) (i:Nat) (o:α) (j:Nat):Option α:=cn (Nat.beq i j) (some o) (r j)
noncomputable def NT.nil {α:Type}:NT α:=⟨c6 (c6 (c6 none)),fun _=>none⟩
noncomputable def NT.get {α:Type} (t:NT α) (i:Nat):Option α:=@Nat.rec (fun _=>Option α) (t.2 (nat_lit 0)) (fun k _=>@Bool.rec (fun _=>Option α) (t.2 (Nat.succ k)) (@Dg.rec (fun _=>(α:Type)->C6 α->α) @C6.a @C6.b @C6.c @C6.d @C6.e @C6.f @C6.g @C6.h @C6.i @C6.j @C6.k @C6.l (dg (Nat.mod k (nat_lit 12))) _ (@Dg.rec (fun _=>(α:Type)->C6 α->α) @C6.a @C6.b @C6.c @C6.d @C6.e @C6.f @C6.g @C6.h @C6.i @C6.j @C6.k @C6.l (dg (Nat.mod (Nat.div k (nat_lit 12)) (nat_lit 12))) _ (@Dg.rec (fun _=>(α:Type)->C6 α->α) @C6.a @C6.b @C6.c @C6.d @C6.e @C6.f @C6.g @C6.h @C6.i @C6.j @C6.k @C6.l (dg (Nat.div k (nat_lit 144))) _ t.1))) (Nat.ble k (nat_lit 1727))) i
noncomputable def NT.put {α:Type} (t:NT α) (i:Nat) (o:α):NT α:=@NT.rec α (fun _=>NT α) (fun h r=>@Nat.rec (fun _=>NT α) ⟨h,rp r (nat_lit 0) o⟩ (fun k _=>@Bool.rec (fun _=>NT α) ⟨h,rp r (Nat.succ k) o⟩ ⟨@Dg.rec (fun _=>(α:Type)->(α->α)->C6 α->C6 α) @p0 @p1 @p2 @p3 @p4 @p5 @p6 @p7 @p8 @p9 @p10 @p11 (dg (Nat.div k (nat_lit 144))) _ (@Dg.rec (fun _=>(α:Type)->(α->α)->C6 α->C6 α) @p0 @p1 @p2 @p3 @p4 @p5 @p6 @p7 @p8 @p9 @p10 @p11 (dg (Nat.mod (Nat.div k (nat_lit 12)) (nat_lit 12))) _ (@Dg.rec (fun _=>(α:Type)->(α->α)->C6 α->C6 α) @p0 @p1 @p2 @p3 @p4 @p5 @p6 @p7 @p8 @p9 @p10 @p11 (dg (Nat.mod k (nat_lit 12))) _ (fun _=>some o))) h,r⟩ (Nat.ble k (nat_lit 1727))) i) t
structure Store where
 t:NT O
 n:Nat
noncomputable def Store.get (J:Store) (l:Nat):Option O:=J.1.get l
noncomputable def Store.set (J:Store) (l:Nat) (o:O):Store:=⟨J.1.put l o,J.2⟩
noncomputable def Store.add (J:Store) (o:O):Store:=⟨J.1.put J.2 o,Nat.succ J.2⟩
inductive R (α:Type) where
 | bad
 | ok (a:α) (J:Store)
 | exc (J:Store)
noncomputable def bd {α β:Type} (r:R α) (f:α->Store->R β):R β:=@R.rec α (fun _=>R β) .bad f .exc r
noncomputable abbrev M:=List (Nat×V)
inductive X where
 | bad
 | nxt (m:M) (J:Store)
 | cnt (m:M) (J:Store)
 | ret (v:V) (m:M) (J:Store)
 | exc (m:M) (J:Store)
noncomputable def atX (x:X) (g:M->Store->X):X:=@X.rec (fun _=>X) .bad g .cnt .ret .exc x
noncomputable def tx {α:Type} (m:M) (r:R α) (f:α->Store->X):X:=@R.rec α (fun _=>X) .bad f (.exc m) r
noncomputable def lkG {κ α:Type} (e:κ->κ->Bool) (l:List (κ×α)) (k:κ):Option α:=@List.rec (κ×α) (fun _=>Option α) none (fun x _ ih=>@Bool.rec (fun _=>Option α) ih (some x.2) (e x.1 k)) l
noncomputable def putG {κ α:Type} (e:κ->κ->Bool) (l:List (κ×α)) (k:κ) (v:α):List (κ×α):=@List.rec (κ×α) (fun _=>List (κ×α)) [(k,v)] (fun x r ih=>@Bool.rec (fun _=>List (κ×α)) (x::ih) ((x.1,v)::r) (e x.1 k)) l
noncomputable def memG {κ:Type} (e:κ->κ->Bool) (l:List κ) (k:κ):Bool:=@List.rec κ (fun _=>Bool) false (fun x _ ih=>@Bool.rec (fun _=>Bool) ih true (e x k)) l
noncomputable def lk {α:Type} (l:List (Nat×α)) (k:Nat):Option α:=lkG Nat.beq l k
noncomputable def putL (l:M) (k:Nat) (v:V):M:=putG Nat.beq l k v
noncomputable def memN (l:List Nat) (k:Nat):Bool:=memG Nat.beq l k
noncomputable def eqS (l:List Nat):List Nat->Bool:=@List.rec Nat (fun _=>List Nat->Bool) (fun q=>@List.rec Nat (fun _=>Bool) true (fun _ _ _=>false) q) (fun x _ ih q=>@List.rec Nat (fun _=>Bool) false (fun y r _=>@Bool.rec (fun _=>Bool) false (ih r) (Nat.beq x y)) q) l
noncomputable def memS (l:List (List Nat)) (k:List Nat):Bool:=memG eqS l k
noncomputable def lkS (l:List (List Nat×V)) (k:List Nat):Option V:=lkG eqS l k
noncomputable def putS (l:List (List Nat×V)) (k:List Nat) (v:V):List (List Nat×V):=putG eqS l k v
noncomputable def lenLe {α:Type} (l:List α):Nat->Bool:=@List.rec α (fun _=>Nat->Bool) (fun _=>true) (fun _ _ ih n=>@Bool.rec (fun _=>Bool) (ih (Nat.sub n (nat_lit 1))) false (Nat.beq n (nat_lit 0))) l
noncomputable def nth {α:Type} (l:List α):Nat->Option α:=@List.rec α (fun _=>Nat->Option α) (fun _=>none) (fun x _ ih i=>@Bool.rec (fun _=>Option α) (ih (Nat.sub i (nat_lit 1))) (some x) (Nat.beq i (nat_lit 0))) l
noncomputable def lenEq {α β:Type} (l:List α):List β->Bool:=@List.rec α (fun _=>List β->Bool) (fun q=>@List.rec β (fun _=>Bool) true (fun _ _ _=>false) q) (fun _ _ ih q=>@List.rec β (fun _=>Bool) false (fun _ r _=>ih r) q) l
noncomputable def eqI (a b:Int):Bool:=W.Z.eqB a b
noncomputable def ltI (a b:Int):Bool:=W.Z.ltB a b
noncomputable def leI (a b:Int):Bool:=W.Z.leB a b
structure FD where
 ps:List Nat
 df:List V
 kd:List (Nat×NameKind)
 body:List S
structure CD where
 ini:Nat
 fs:List Nat
 ms:List (Nat×Nat)
structure Pr where
 gt:Nat->Option V
 fn:Nat->Option FD
 cl:Nat->Option CD
 sy:Nat->List Nat
 tt:Nat->Option (List V)
 cf:Nat
 wk:Nat
 dn:Nat
 dp:Pos
section views
variable {α:Type}
noncomputable def vSR (v:V) (x:α) (fs:List Nat->α) (fr:Nat->α):α:=@V.rec (fun _=>α) x (fun _=>x) (fun _=>x) fs fr (fun _=>x) v
noncomputable def vRef (v:V) (x:α) (f:Nat->α):α:=vSR v x (fun _=>x) f
noncomputable def vStr (v:V) (x:α) (f:List Nat->α):α:=vSR v x f fun _=>x
noncomputable def vInt (v:V) (x:α) (f:Int->α):α:=@V.rec (fun _=>α) x (fun _=>x) f (fun _=>x) (fun _=>x) (fun _=>x) v
noncomputable def vBool (v:V) (x:α) (f:Bool->α):α:=@V.rec (fun _=>α) x f (fun _=>x) (fun _=>x) (fun _=>x) (fun _=>x) v
noncomputable def oLTD (o:O) (x:α) (fl ft:List V->α) (fd:List (List Nat×V)->α):α:=@O.rec (fun _=>α) fl (fun _=>x) (fun _=>x) ft fd (fun _ _=>x) x (fun _=>x) x (fun _=>x) (fun _ _ _=>x) o
noncomputable def oInst (o:O) (x:α) (f:Nat->List (Nat×V)->α):α:=@O.rec (fun _=>α) (fun _=>x) (fun _=>x) (fun _=>x) (fun _=>x) (fun _=>x) f x (fun _=>x) x (fun _=>x) (fun _ _ _=>x) o
noncomputable def oCell (o:O) (x y:α) (f:V->α):α:=@O.rec (fun _=>α) (fun _=>x) (fun _=>x) (fun _=>x) (fun _=>x) (fun _=>x) (fun _ _=>x) x (fun _=>x) y f (fun _ _ _=>x) o
noncomputable def gO (J:Store) (l:Nat) (x:α) (fl ft:List V->α) (fd:List (List Nat×V)->α):α:=oc (J.get l) x fun o=>oLTD o x fl ft fd
noncomputable def gL (J:Store) (l:Nat) (x:α) (fl:List V->α):α:=gO J l x fl (fun _=>x) fun _=>x
noncomputable def gT (J:Store) (l:Nat) (x:α) (ft:List V->α):α:=gO J l x (fun _=>x) ft fun _=>x
noncomputable def gI (J:Store) (l:Nat) (x:α) (f:Nat->List (Nat×V)->α):α:=oc (J.get l) x fun o=>oInst o x f
noncomputable def l1 (as:List V) (x:α) (f:V->α):α:=@List.rec V (fun _=>α) x (fun v r _=>@List.rec V (fun _=>α) (f v) (fun _ _ _=>x) r) as
noncomputable def l2 (as:List V) (x:α) (f:V->V->α):α:=@List.rec V (fun _=>α) x (fun v r _=>l1 r x (f v)) as
noncomputable def l0 (as:List V) (x y:α):α:=@List.rec V (fun _=>α) y (fun _ _ _=>x) as
end views
noncomputable def asc (l:List Nat):Bool:=@List.rec Nat (fun _=>Bool) true (fun x _ ih=>cn (Nat.blt x (nat_lit 128)) ih false) l
noncomputable def mapD (f:V->Option PyData) (l:List V):Option (List PyData):=@List.rec V (fun _=>Option (List PyData)) (some []) (fun v _ ih=>oc (f v) none fun d=>oc ih none fun q=>some (d::q)) l
noncomputable def strK (s:List Nat):Str:=⟨s.toArray⟩
noncomputable def toD (J:Store) (n:Nat):V->Option PyData:=@Nat.rec (fun _=>V->Option PyData) (fun _=>none) (fun _ ih v=>@V.rec (fun _=>Option PyData) (some .none) (fun _=>none) (fun i=>some (.int i)) (fun s=>cn (asc s) (some (.str (strK s))) none) (fun l=>gO J l none (fun xs=>oc (mapD ih xs) none fun ds=>some (.list ds)) (fun xs=>oc (mapD ih xs) none fun ds=>some (.tuple ds)) fun _=>none) (fun _=>none) v) n
noncomputable def okB (q:Bool) (J:Store):R Bool:=.ok q J
noncomputable def eqL (J:Store) (xs ys:List V) (J':Store):R Bool:=oc (mapD (toD J (nat_lit 4)) xs) .bad fun ds=>oc (mapD (toD J (nat_lit 4)) ys) .bad fun es=>.ok (PyData.eqvAll ds es) J'
noncomputable def eqV (J:Store) (a b:V):R Bool:=@V.rec (fun _=>R Bool)
 (@V.rec (fun _=>R Bool) (.ok true J) (fun _=>.bad) (fun _=>.ok false J) (fun _=>.ok false J) (fun _=>.bad) (fun _=>.bad) b)
 (fun _=>.bad) (fun i=>@V.rec (fun _=>R Bool) (.ok false J) (fun _=>.bad) (fun j=>.ok (eqI i j) J) (fun _=>.bad) (fun _=>.bad) (fun _=>.bad) b)
 (fun s=>@V.rec (fun _=>R Bool) (.ok false J) (fun _=>.bad) (fun _=>.bad) (fun t=>.ok (eqS s t) J) (fun _=>.bad) (fun _=>.bad) b)
 (fun l=>vRef b .bad fun k=>gO J l .bad (fun xs=>gL J k .bad fun ys=>cn (lenEq xs ys) (eqL J xs ys J) (.ok false J)) (fun xs=>gT J k .bad fun ys=>eqL J xs ys J) fun _=>.bad) (fun _=>.bad) a
noncomputable def truth (v:V):Option Bool:=vBool v none some
noncomputable def strsOf (l:List V):Option (List (List Nat)):=@List.rec V (fun _=>Option (List (List Nat))) (some []) (fun v _ ih=>vStr v none fun s=>oc ih none fun l=>some (s::l)) l
noncomputable def memStr (J:Store) (vs:List V) (k:List Nat):R Bool:=oc (strsOf vs) .bad fun l=>.ok (memS l k) J
noncomputable def prefS (l:List Nat):List Nat->Bool:=@List.rec Nat (fun _=>List Nat->Bool) (fun _=>true) (fun x _ ih q=>@List.rec Nat (fun _=>Bool) false (fun y r _=>@Bool.rec (fun _=>Bool) false (ih r) (Nat.beq x y)) q) l
noncomputable def subS (k l:List Nat):Bool:=@List.rec Nat (fun _=>Bool) (prefS k []) (fun x r ih=>cn (prefS k (x::r)) true ih) l
noncomputable def isIn (P:Pr) (J:Store) (a b:V):R Bool:=vStr a .bad fun s=>@V.rec (fun _=>R Bool) .bad (fun _=>.bad) (fun _=>.bad) (fun t=>.ok (subS s t) J)
 (fun l=>gO J l .bad (fun xs=>memStr J xs s) (fun xs=>memStr J xs s) fun es=>.ok (oc (lkS es s) false fun _=>true) J)
 (fun w=>@Value.rec (fun _=>R Bool) .bad .bad .bad (fun _=>.bad) (fun _ _=>.bad) (fun _ _=>.bad) (fun _ _=>.bad) (fun _ _=>.bad) (fun _=>.bad) (fun _=>.bad) (fun a=>oc (P.tt a) .bad fun xs=>memStr J xs s) w) b
noncomputable def nb (b:Bool):Bool:=cn b false true
noncomputable def notB (r:R Bool):R Bool:=bd r fun b J=>.ok (nb b) J
noncomputable def isNn (J:Store) (a b:V):R Bool:=@V.rec (fun _=>R Bool) (@V.rec (fun _=>R Bool) (.ok true J) (fun _=>.ok false J) (fun _=>.ok false J) (fun _=>.ok false J) (fun _=>.ok false J) (fun _=>.bad) a) (fun _=>.bad) (fun _=>.bad) (fun _=>.bad) (fun _=>.bad) (fun _=>.bad) b
noncomputable def ii {α:Type} (a b:V) (x:α) (f:Int->Int->α):α:=vInt a x fun i=>vInt b x (f i)
noncomputable def cmpV (P:Pr) (J:Store) (op:CmpOp) (a b:V):R Bool:=@CmpOp.rec (fun _=>R Bool) (eqV J a b) (notB (eqV J a b)) (ii a b .bad fun i j=>.ok (ltI i j) J) (ii a b .bad fun i j=>.ok (leI i j) J) (ii a b .bad fun i j=>.ok (ltI j i) J) (ii a b .bad fun i j=>.ok (leI j i) J) (isNn J a b) (notB (isNn J a b)) (isIn P J a b) (notB (isIn P J a b)) op
noncomputable def smallI (i:Int):Bool:=cn (leI (-1000000000000) i) (leI i 1000000000000) false
noncomputable def okInt (i:Int) (J:Store):R V:=cn (smallI i) (.ok (.int i) J) .bad
noncomputable def addL (J:Store) (xs:List V):R V:=cn (lenLe xs (nat_lit 10000)) (.ok (.ref J.2) (J.add (.list xs))) .bad
noncomputable def newT (J:Store) (xs:List V):R V:=cn (lenLe xs (nat_lit 10000)) (.ok (.ref J.2) (J.add (.tup xs))) .bad
noncomputable def okStr (J:Store) (s:List Nat):R V:=cn (lenLe s (nat_lit 1000)) (.ok (.str s) J) .bad
noncomputable def setL (J:Store) (l:Nat) (v:V) (xs:List V):R V:=cn (lenLe xs (nat_lit 10000)) (.ok v (J.set l (.list xs))) .bad
noncomputable def addV (J:Store) (a b:V) (f:Nat->Nat->R V):R V:=@V.rec (fun _=>R V) .bad (fun _=>.bad) (fun i=>vInt b .bad fun j=>okInt (i+j) J) (fun s=>vStr b .bad fun t=>okStr J (s++t)) (fun l=>vRef b .bad (f l)) (fun _=>.bad) a
noncomputable def arith (J:Store) (op:Operator) (a b:V) (x:R V):R V:=@Operator.rec (fun _=>R V) x (ii a b .bad fun i j=>okInt (i - j) J) (ii a b .bad fun i j=>cn (smallI i) (okInt (i*j) J) .bad) .bad .bad (ii a b .bad fun i j=>cn (ltI 0 j) (okInt (Int.fmod i j) J) .bad) .bad .bad .bad .bad .bad .bad .bad op
noncomputable def binV (J:Store) (op:Operator) (a b:V):R V:=arith J op a b (addV J a b fun l k=>gL J l .bad fun xs=>gL J k .bad fun ys=>addL J (xs++ys))
noncomputable def augV (J:Store) (op:Operator) (a b:V):R V:=arith J op a b (addV J a b fun l k=>gL J l .bad fun xs=>gL J k .bad fun ys=>setL J l (.ref l) (xs++ys))
noncomputable def idxI (i:Int) (n:Nat):Option Nat:=@Int.rec (fun _=>Option Nat) (fun k=>cn (Nat.blt k n) (some k) none) (fun k=>cn (Nat.blt k n) (some (n - (k+1))) none) i
noncomputable def nthI {α:Type} (xs:List α) (i:Int):Option α:=oc (idxI i xs.length) none (nth xs)
noncomputable def okO (o:Option V) (J:Store):R V:=@Option.rec V (fun _=>R V) .bad (fun v=>.ok v J) o
noncomputable def subV (J:Store) (o i:V):R V:=vSR o .bad (fun s=>vInt i .bad fun j=>cn (lenLe s (nat_lit 1000)) (oc (nthI s j) .bad fun c=>.ok (.str [c]) J) .bad)
 fun l=>gO J l .bad (fun xs=>vInt i .bad fun j=>okO (nthI xs j) J) (fun xs=>vInt i .bad fun j=>okO (nthI xs j) J) fun es=>vStr i .bad fun s=>okO (lkS es s) J
noncomputable def pos {α:Type} (v:V) (x:α) (f:Nat->α):α:=vInt v x fun i=>@Int.rec (fun _=>α) (fun n=>cn (Nat.blt n (nat_lit 1000000000)) (f n) x) (fun _=>x) i
noncomputable def cutTo (J:Store) (o:V) (n:Nat):R V:=vSR o .bad (fun s=>cn (lenLe s (nat_lit 1000)) (cn (Nat.ble n s.length) (.ok (.str (s.take n)) J) .bad) .bad)
 fun l=>gO J l .bad (fun xs=>addL J (xs.take n)) (fun xs=>cn (lenLe xs n) .bad (newT J (xs.take n))) fun _=>.bad
noncomputable def cutFrom (J:Store) (o:V) (n:Nat):R V:=vRef o .bad fun l=>gL J l .bad fun xs=>addL J (xs.drop n)
noncomputable def cutV (J:Store) (o:V) (lo hi:Option V):R V:=oc lo (oc hi .bad fun h=>pos h .bad (cutTo J o)) fun l=>oc hi (pos l .bad (cutFrom J o)) fun _=>.bad
noncomputable def strInt (i:Int):Option (List Nat):=@Int.rec (fun _=>Option (List Nat)) (fun n=>cn (Nat.blt n (nat_lit 1000000000)) (some ((Nat.toDigits 10 n).map Char.toNat)) none) (fun _=>none) i
inductive KD where
 | tuple|list|str
noncomputable def KD.is (a b:KD):Bool:=@KD.rec (fun _=>Bool) (@KD.rec (fun _=>Bool) true false false b) (@KD.rec (fun _=>Bool) false true false b) (@KD.rec (fun _=>Bool) false false true b) a
noncomputable def KD.nm (k:KD):String:=@KD.rec (fun _=>String) "tuple" "list" "str" k
noncomputable def tyOf {α:Type} (v:Value) (x:α) (fb ft:String->α) (fr:Nat->α):α:=@Value.rec (fun _=>α) x x x (fun _=>x) (fun _ _=>x) (fun _ _=>x) (fun _ _=>x) (fun _ _=>x) ft fb fr v
noncomputable def kdOf (v:V):Option KD:=@V.rec (fun _=>Option KD) none (fun _=>none) (fun _=>none) (fun _=>none) (fun _=>none) (fun w=>tyOf w none (fun _=>none) (fun s=>cn (s == "tuple") (some .tuple) (cn (s == "list") (some .list) (cn (s == "str") (some .str) none))) fun _=>none) v
noncomputable def isKind (J:Store) (v:V) (k:KD):Option Bool:=@V.rec (fun _=>Option Bool) (some false) (fun _=>none) (fun _=>some false) (fun _=>some (KD.is .str k)) (fun l=>gO J l none (fun _=>some (KD.is .list k)) (fun _=>some (KD.is .tuple k)) fun _=>none) (fun _=>none) v
noncomputable def orB (a b:Bool):Bool:=cn a true b
noncomputable def isInst (J:Store) (v c:V):Option Bool:=oc (kdOf c) (vRef c none fun l=>gT J l none fun xs=>l2 xs none fun a b=>oc (kdOf a) none fun j=>oc (kdOf b) none fun k=>oc (isKind J v j) none fun x=>oc (isKind J v k) none fun y=>some (orB x y)) (isKind J v)
noncomputable def bLen (J:Store) (v:V):R V:=vSR v .bad (fun s=>cn (lenLe s (nat_lit 1000)) (.ok (.int (Int.ofNat s.length)) J) .bad) fun l=>gO J l .bad (fun xs=>.ok (.int (Int.ofNat xs.length)) J) (fun xs=>.ok (.int (Int.ofNat xs.length)) J) fun es=>cn (lenLe es (nat_lit 1000)) (.ok (.int (Int.ofNat es.length)) J) .bad
noncomputable def bMax (hd:Bool) (J:Store) (a b:V):R V:=ii a b .bad fun i j=>cn hd .bad (.ok (.int (cn (ltI i j) j i)) J)
noncomputable def bList (J:Store) (v:V):R V:=vRef v .bad fun l=>oc (J.get l) .bad fun o=>@O.rec (fun _=>R V) (fun xs=>addL J xs) (fun t=>.ok (.ref J.2) (J.add (.slist t))) (fun _=>.bad) (fun _=>.bad) (fun _=>.bad) (fun _ _=>.bad) .bad (fun _=>.bad) .bad (fun _=>.bad) (fun _ _ _=>.bad) o
noncomputable def bStr (J:Store) (v:V):R V:=vInt v .bad fun i=>oc (strInt i) .bad fun s=>.ok (.str s) J
noncomputable def bRange (J:Store) (v:V):R V:=vInt v .bad fun i=>cn (smallI i) (.ok (.ref J.2) (J.add (.rng i))) .bad
noncomputable def bFun (hd:Bool) (J:Store) (as:List V) (f:String):R V:=cn (f == "len") (l1 as .bad (bLen J)) (cn (f == "isinstance") (l2 as .bad fun v c=>oc (isInst J v c) .bad fun b=>.ok (.bool b) J) (cn (f == "max") (l2 as .bad (bMax hd J)) .bad))
noncomputable def bTy (J:Store) (as:List V) (f:String):R V:=cn (f == "list") (l1 as .bad (bList J)) (cn (f == "str") (l1 as .bad (bStr J)) (cn (f == "range") (l1 as .bad (bRange J)) .bad))
inductive BM where
 | append|extend|pop|get|setdefault
noncomputable def mExt (J:Store) (l:Nat) (xs:List V) (v:V):R V:=vRef v .bad fun k=>cn (Nat.beq k l) .bad (gO J k .bad (fun ys=>setL J l .none (xs++ys)) (fun ys=>setL J l .none (xs++ys)) fun _=>.bad)
noncomputable def lastR {α:Type} (l:List α):Option α:=@List.rec α (fun _=>Option α) none (fun x _ ih=>@Option.rec α (fun _=>Option α) (some x) some ih) l
noncomputable def dropR {α:Type} (l:List α):List α:=@List.rec α (fun _=>List α) [] (fun x r ih=>@List.rec α (fun _=>List α) [] (fun _ _ _=>x::ih) r) l
noncomputable def mPop (J:Store) (l:Nat) (xs:List V):R V:=oc (lastR xs) .bad fun v=>.ok v (J.set l (.list (dropR xs)))
noncomputable def mGet (J:Store) (es:List (List Nat×V)) (a d:V):R V:=vStr a .bad fun s=>.ok (oc (lkS es s) d fun v=>v) J
noncomputable def setD (J:Store) (l:Nat) (es:List (List Nat×V)) (s:List Nat) (v u:V):R V:=cn (lenLe es (nat_lit 1000)) (.ok u (J.set l (.dict (putS es s v)))) .bad
noncomputable def mDef (J:Store) (l:Nat) (es:List (List Nat×V)) (a d:V):R V:=vStr a .bad fun s=>oc (lkS es s) (setD J l es s d d) fun v=>cn (lenLe es (nat_lit 1000)) (.ok v J) .bad
noncomputable def methL (J:Store) (l:Nat) (xs:List V) (f:BM) (as:List V):R V:=@BM.rec (fun _=>R V) (l1 as .bad fun v=>setL J l .none (xs++[v])) (l1 as .bad (mExt J l xs)) (l0 as .bad (mPop J l xs)) .bad .bad f
noncomputable def methD (J:Store) (l:Nat) (es:List (List Nat×V)) (f:BM) (as:List V):R V:=@BM.rec (fun _=>R V) .bad .bad .bad (l2 as .bad (mGet J es)) (l2 as .bad (mDef J l es)) f
noncomputable def methV (J:Store) (l:Nat) (f:BM) (as:List V):R V:=gO J l .bad (fun xs=>methL J l xs f as) (fun _=>.bad) fun es=>methD J l es f as
noncomputable def methOk (o:O) (f:BM):Bool:=oLTD o false (fun _=>@BM.rec (fun _=>Bool) true true true false false f) (fun _=>false) fun _=>@BM.rec (fun _=>Bool) false false false true true f
structure Cx where
 k:Nat
 hd:Bool
 kd:List (Nat×NameKind)
 cs:List (Nat×Nat)
structure Ev where
 e:Cx->M->T->Store->R V
 t:Cx->M->T->Store->R Bool
 s:Cx->M->S->Store->X
 call:Nat->Bool->V->List V->Store->R V
noncomputable def nk {α:Type} (k:NameKind) (lo ce gl fr x:α):α:=@NameKind.rec (fun _=>α) lo ce fr x gl k
noncomputable def isCf (P:Pr) (c:Cx) (x:Nat):Bool:=oc (lk c.3 x) false fun k=>nk k false false (oc (P.gt x) false fun v=>@V.rec (fun _=>Bool) false (fun _=>false) (fun _=>false) (fun _=>false) (fun _=>false) (fun w=>tyOf w false (fun _=>false) (fun _=>false) fun r=>Nat.beq r P.cf) v) false false
noncomputable def isMk (P:Pr) (c:Cx) (x:Nat) (p:Pos):Bool:=oc (lk c.3 P.wk) false fun k=>nk k false (cn (Nat.beq x P.dn) (cn (Nat.beq p.line P.dp.line) (Nat.beq p.col P.dp.col) false) false) false false false
noncomputable def cellV (c:Cx) (x:Nat) (J:Store):R V:=oc (lk c.4 x) .bad fun a=>oc (J.get a) .bad fun o=>oCell o .bad .bad fun v=>.ok v J
noncomputable def loadN (G:Nat->Option V) (c:Cx) (m:M) (x:Nat) (J:Store):R V:=@Cx.rec (fun _=>R V) (fun _ _ kd cs=>@Option.rec NameKind (fun _=>R V) .bad (fun k=>@NameKind.rec (fun _=>R V) (@Option.rec V (fun _=>R V) .bad (fun v=>.ok v J) (@List.rec (Nat×V) (fun _=>Option V) none (fun y _ ih=>@Prod.rec Nat V (fun _=>Option V) (fun a v=>@Bool.rec (fun _=>Option V) ih (some v) (Nat.beq a x)) y) m)) (cellV c x J) (cellV c x J) .bad (@Option.rec V (fun _=>R V) .bad (fun v=>.ok v J) (G x)) k) (lk kd x)) c
noncomputable def storeN (c:Cx) (m:M) (x:Nat) (v:V) (J:Store):Option (M×Store):=@Cx.rec (fun _=>Option (M×Store)) (fun _ _ kd cs=>oc (lk kd x) none fun k=>nk k (some ((@List.rec (Nat×V) (fun _=>M) [(x,v)] (fun y r ih=>@Prod.rec Nat V (fun _=>M) (fun a w=>@Bool.rec (fun _=>M) ((a,w)::ih) ((a,v)::r) (Nat.beq a x)) y) m),J)) (oc (lk cs x) none fun a=>oc (J.get a) none fun o=>oCell o none (some (m,J.set a (.cell v))) fun _=>some (m,J.set a (.cell v))) none none none) c
noncomputable def storeNs (c:Cx) (l:List (Nat×Pos)):List V->M->Store->Option (M×Store):=@List.rec (Nat×Pos) (fun _=>List V->M->Store->Option (M×Store)) (fun q m J=>l0 q none (some (m,J))) (fun x _ ih q m J=>@List.rec V (fun _=>Option (M×Store)) none (fun v r _=>oc (storeN c m x.1 v J) none fun p=>ih r p.1 p.2) q) l
noncomputable def storeG (c:Cx) (m:M) (g:G) (v:V) (J:Store):Option (M×Store):=@G.rec (fun _=>Option (M×Store)) (fun x _=>storeN c m x v J) (fun xs _ _=>vRef v none fun l=>gT J l none fun vs=>storeNs c xs vs m J) g
noncomputable def bindPs (c:Cx) (l:List Nat):List V->M->Store->Option (M×Store):=@List.rec Nat (fun _=>List V->M->Store->Option (M×Store)) (fun q m J=>l0 q none (some (m,J))) (fun x _ ih q m J=>@List.rec V (fun _=>Option (M×Store)) none (fun v r _=>oc (storeN c m x v J) none fun p=>ih r p.1 p.2) q) l
noncomputable def getAttrV (J:Store) (o:V) (f:Nat):R V:=vRef o .bad fun l=>gI J l .bad fun _ fs=>@Option.rec V (fun _=>R V) .bad (fun v=>.ok v J) (@List.rec (Nat×V) (fun _=>Option V) none (fun y _ ih=>@Prod.rec Nat V (fun _=>Option V) (fun a v=>@Bool.rec (fun _=>Option V) ih (some v) (Nat.beq a f)) y) fs)
noncomputable def setAttrV (CL:Nat->Option CD) (J:Store) (o:V) (f:Nat) (v:V):R V:=vRef o .bad fun l=>gI J l .bad fun C fs=>oc (CL C) .bad fun d=>cn (memN d.2 f) (.ok .none (J.set l (.inst C ((@List.rec (Nat×V) (fun _=>M) [(f,v)] (fun y r ih=>@Prod.rec Nat V (fun _=>M) (fun a w=>@Bool.rec (fun _=>M) ((a,w)::ih) ((a,v)::r) (Nat.beq a f)) y) fs))))) .bad
noncomputable def setItemV (J:Store) (o i v:V):R V:=vRef o .bad fun l=>gO J l .bad (fun xs=>pos i .bad fun j=>cn (Nat.blt j xs.length) (.ok .none (J.set l (.list (xs.set j v)))) .bad) (fun _=>.bad) fun es=>vStr i .bad fun s=>setD J l es s v .none
section
variable (E:Ev) (c:Cx)
noncomputable def evs (m:M) (l:List T):Store->R (List V):=@List.rec T (fun _=>Store->R (List V)) (.ok []) (fun t _ ih J=>@R.rec V (fun _=>R (List V)) .bad (fun v J=>@R.rec (List V) (fun _=>R (List V)) .bad (fun vs J=>.ok (v::vs) J) .exc (ih J)) .exc (E.e c m t J)) l
noncomputable def bop (u:Bool) (m:M) (l:List T):Store->R V:=@List.rec T (fun _=>Store->R V) (fun _=>.bad) (fun t r ih J=>@List.rec T (fun _=>R V) (E.e c m t J) (fun _ _ _=>bd (E.e c m t J) fun v J=>oc (truth v) .bad fun b=>cn u (cn b (ih J) (.ok v J)) (cn b (.ok v J) (ih J))) r) l
noncomputable def bopT (u:Bool) (m:M) (l:List T):Store->R Bool:=@List.rec T (fun _=>Store->R Bool) (.ok u) (fun t _ ih J=>bd (E.t c m t J) fun b J=>cn u (cn b (ih J) (.ok false J)) (cn b (.ok true J) (ih J))) l
noncomputable def evO (m:M) (o:Option T) (J:Store):R (Option V):=oc o (.ok none J) fun t=>bd (E.e c m t J) fun v J=>.ok (some v) J
noncomputable def evDict (m:M) (ks:List T):List T->Store->R (List (List Nat×V)):=@List.rec T (fun _=>List T->Store->R (List (List Nat×V))) (fun vs J=>@List.rec T (fun _=>R (List (List Nat×V))) (.ok [] J) (fun _ _ _=>.bad) vs) (fun k _ ih vs J=>@List.rec T (fun _=>R (List (List Nat×V))) .bad (fun v r _=>bd (E.e c m k J) fun kv J=>bd (E.e c m v J) fun vv J=>vStr kv .bad fun s=>bd (ih r J) fun q J=>.ok ((s,vv)::q) J) vs) ks
noncomputable def dictOfL (l:List (List Nat×V)):List (List Nat×V)->List (List Nat×V):=@List.rec (List Nat×V) (fun _=>List (List Nat×V)->List (List Nat×V)) (fun acc=>acc) (fun x _ ih acc=>ih (putS acc x.1 x.2)) l
noncomputable def execs (l:List S):M->Store->X:=@List.rec S (fun _=>M->Store->X) .nxt (fun s _ ih m J=>atX (E.s c m s J) ih) l
noncomputable def again (x:X) (f:M->Store->X):X:=@X.rec (fun _=>X) .bad f f .ret .exc x
noncomputable def whlL (q:T) (b:List S) (n:Nat):M->Store->X:=@Nat.rec (fun _=>M->Store->X) (fun _ _=>.bad) (fun _ ih m J=>tx m (E.t c m q J) fun v J=>cn v (again (execs E c b m J) ih) (.nxt m J)) n
inductive IK where
 | list (l:Nat)|tup (l:Nat)|rng (n:Int)|str (s:List Nat)
noncomputable def iterOf (hd:Bool) (J:Store) (o:V):Option IK:=vSR o none (fun s=>cn hd none (cn (asc s) (some (.str s)) none)) fun l=>oc (J.get l) none fun x=>@O.rec (fun _=>Option IK) (fun _=>some (.list l)) (fun _=>none) (fun _=>none) (fun _=>some (.tup l)) (fun _=>none) (fun _ _=>none) none (fun n=>cn hd none (some (.rng n))) none (fun _=>none) (fun _ _ _=>none) x
noncomputable def nextI (J:Store) (o:IK) (i:Nat):Option (Option V):=@IK.rec (fun _=>Option (Option V)) (fun l=>gL J l none fun xs=>some (nth xs i)) (fun l=>gT J l none fun xs=>some (nth xs i)) (fun n=>some (cn (ltI (Int.ofNat i) n) (some (.int (Int.ofNat i))) none)) (fun s=>some (oc (nth s i) none fun c=>some (.str [c]))) o
noncomputable def forL (g:G) (b:List S) (o:IK) (n:Nat):Nat->M->Store->X:=@Nat.rec (fun _=>Nat->M->Store->X) (fun _ _ _=>.bad) (fun _ ih i m J=>oc (nextI J o i) .bad fun y=>oc y (.nxt m J) fun v=>oc (storeG c m g v J) .bad fun p=>again (execs E c b p.1 p.2) (ih (Nat.succ i))) n
noncomputable def compL (elt:T) (g:G) (ifs:List T) (stop:Bool) (o:IK) (n:Nat):Nat->M->List V->Store->R (List V):=@Nat.rec (fun _=>Nat->M->List V->Store->R (List V)) (fun _ _ _ _=>.bad) (fun _ ih i m acc J=>oc (nextI J o i) .bad fun y=>oc y (.ok acc J) fun v=>cn stop .bad (oc (storeG c m g v J) .bad fun p=>
 bd (bopT E c true p.1 ifs p.2) fun b J=>cn b (bd (E.e c p.1 elt J) fun v J=>cn (lenLe acc (nat_lit 10000)) (ih (Nat.succ i) p.1 (acc++[v]) J) .bad) (ih (Nat.succ i) p.1 acc J))) n
end
noncomputable def closeC (c:Cx) (l:List (Nat×NameKind)):Option (List (Nat×Nat)):=@List.rec (Nat×NameKind) (fun _=>Option (List (Nat×Nat))) (some []) (fun x _ ih=>nk x.2 ih none ih (oc (lk c.4 x.1) none fun a=>oc ih none fun q=>some ((x.1,a)::q)) ih) l
noncomputable def isLo (o:Option NameKind):Bool:=oc o false fun k=>nk k true false false false false
noncomputable def isCe (o:Option NameKind):Bool:=oc o false fun k=>nk k false true false false false
noncomputable def kdOk (a l:List (Nat×NameKind)):Bool:=@List.rec (Nat×NameKind) (fun _=>Bool) true (fun x _ ih=>nk x.2 (cn (isLo (lk a x.1)) ih false) ih ih ih ih) l
noncomputable def restB (l:List PySem.Comprehension):Bool:=@List.rec PySem.Comprehension (fun _=>Bool) false (fun _ _ _=>true) l
noncomputable def ownKd (c:Cx) (l:List (Nat×NameKind)):List (Nat×NameKind):=l.map fun x=>nk x.2 x x x (cn (isCe (lk c.3 x.1)) (x.1,.cell) x) x
noncomputable def newCells (l:List (Nat×NameKind)):List (Nat×Nat)->Store->List (Nat×Nat)×Store:=@List.rec (Nat×NameKind) (fun _=>List (Nat×Nat)->Store->List (Nat×Nat)×Store) (fun acc J=>(acc,J)) (fun x _ ih acc J=>nk x.2 (ih acc J) (ih ((x.1,J.2)::acc) (J.add .cell0)) (ih acc J) (ih acc J) (ih acc J)) l
noncomputable def endF (x:X):R V:=@X.rec (fun _=>R V) .bad (fun _ J=>.ok .none J) (fun _ _=>.bad) (fun v _ J=>.ok v J) (fun _ J=>.exc J) x
noncomputable def sc {α:Type} (k:Nat) (x:α) (f:Nat->α):α:=cn (Nat.beq k (nat_lit 0)) x (f (Nat.sub k (nat_lit 1)))
noncomputable def runF (E:Ev) (k:Nat) (hd:Bool) (kd:List (Nat×NameKind)) (body:List S) (ps:List Nat) (cs:List (Nat×Nat)) (as:List V) (J:Store):R V:=sc k .bad fun k=>@Prod.rec _ _ (fun _=>R V) (fun cs J=>oc (bindPs ⟨k,hd,kd,cs⟩ ps as [] J) .bad fun p=>endF (execs E ⟨k,hd,kd,cs⟩ body p.1 p.2)) (newCells kd cs J)
noncomputable abbrev Om:=Nat->Option (Nat->Bool->List V->Store->Option (R V))
structure Kt where
 P:Pr
 bm:Nat->Option BM
 om:Om
noncomputable def vNone {α:Type} (v:V) (x y:α):α:=@V.rec (fun _=>α) y (fun _=>x) (fun _=>x) (fun _=>x) (fun _=>x) (fun _=>x) v
noncomputable def callC (E:Ev) (k:Nat) (hd:Bool) (as:List V) (J:Store) (a:Nat) (d:CD):R V:=sc k .bad fun k=>bd (E.call k hd (.top (.ref d.1)) (.ref J.2::as) ((J.add (.inst a [])).add .rsv)) fun v af=>vNone v .bad (.ok (.ref J.2) af)
noncomputable def callD (om:Om) (E:Ev) (k:Nat) (hd:Bool) (as:List V) (J:Store) (a:Nat) (d:FD):R V:=oc (oc (om a) none fun g=>g k hd as J) (runF E k hd d.3 d.4 d.1 [] (cn (lenEq d.1 as) as (as++d.2)) J) fun r=>r
noncomputable def callA (K:Kt) (E:Ev) (k:Nat) (hd:Bool) (as:List V) (J:Store) (a:Nat):R V:=oc (K.1.fn a) (oc (K.1.cl a) .bad (callC E k hd as J a)) (callD K.3 E k hd as J a)
noncomputable def callV (K:Kt) (E:Ev) (k:Nat) (hd:Bool) (f:V) (as:List V) (J:Store):R V:=@V.rec (fun _=>R V) .bad (fun _=>.bad) (fun _=>.bad) (fun _=>.bad)
 (fun l=>oc (J.get l) .bad fun x=>@O.rec (fun _=>R V) (fun _=>.bad) (fun _=>.bad) (fun _=>.bad) (fun _=>.bad) (fun _=>.bad) (fun _ _=>.bad) .bad (fun _=>.bad) .bad (fun _=>.bad) (fun b kd cs=>runF E k hd kd b [] cs as J) x)
 (fun w=>tyOf w .bad (bFun hd J as) (bTy J as) (callA K E k hd as J)) f
noncomputable abbrev FM:=Kt->Ev->Nat->Cx->M->Store->R V
noncomputable def isAt (t:T):Bool:=@T.rec (fun _=>Bool) (fun _=>Unit) (fun _=>Unit) (fun _ _=>false) (fun _ _ _=>false) (fun _ _ _=>false) (fun _ _ _=>false) (fun _ _=>false) (fun _ _ _ _=>true) (fun _ _ _ _ _=>false) (fun _ _ _ _ _ _ _=>false) (fun _ _ _ _ _=>false) (fun _ _ _ _ _ _ _ _=>false) (fun _ _ _=>false) (fun _ _ _=>false) (fun _ _ _=>false) (fun _ _ _=>false) (fun _ _ _ _ _ _=>false) (fun _ _ _ _ _ _=>false) (fun _ _ _ _ _ _ _=>false) (fun _ _ _=>false) (fun _ _ _ _=>false) (fun _ _ _ _ _=>false) (fun _ _ _ _ _ _ _ _ _ _ _=>false) () (fun _ _ _ _=>()) () (fun _ _=>()) t
noncomputable def isCo (t:T):Bool:=@T.rec (fun _=>Bool) (fun _=>Unit) (fun _=>Unit) (fun _ _=>false) (fun _ _ _=>false) (fun _ _ _=>false) (fun _ _ _=>false) (fun _ _=>false) (fun _ _ _ _=>false) (fun _ _ _ _ _=>false) (fun _ _ _ _ _ _ _=>false) (fun _ _ _ _ _=>false) (fun _ _ _ _ _ _ _ _=>false) (fun _ _ _=>false) (fun _ _ _=>false) (fun _ _ _=>false) (fun _ _ _=>false) (fun _ _ _ _ _ _=>false) (fun _ _ _ _ _ _=>false) (fun _ _ _ _ _ _ _=>false) (fun _ _ _=>false) (fun _ _ _ _=>false) (fun _ _ _ _ _=>false) (fun _ _ _ _ _ _ _ _ _ _ _=>true) () (fun _ _ _ _=>()) () (fun _ _=>()) t
noncomputable def aMeth2 (f:Nat) (as:List T) (K:Kt) (E:Ev) (c:Cx) (m:M) (l:Nat) (J:Store) (x:O):R V:=oc (K.bm f) .bad fun b=>cn (methOk x b) (bd (evs E c m as J) fun vs J=>methV J l b vs) .bad
noncomputable def aMeth1 (f:Nat) (as:List T) (K:Kt) (E:Ev) (c:Cx) (m:M) (l:Nat) (J:Store) (x:O):R V:=oInst x (aMeth2 f as K E c m l J x) fun C fs=>oc (@List.rec (Nat×V) (fun _=>Option V) none (fun y _ ih=>@Prod.rec Nat V (fun _=>Option V) (fun a v=>@Bool.rec (fun _=>Option V) ih (some v) (Nat.beq a f)) y) fs) (oc (K.P.cl C) .bad fun d=>oc (lk d.3 f) .bad fun a=>bd (evs E c m as J) fun vs J=>E.call c.1 c.2 (.top (.ref a)) (.ref l::vs) J) fun _=>.bad
noncomputable def listR (r:R (List V)):R V:=@R.rec (List V) (fun _=>R V) .bad (fun vs J=>.ok (.ref J.2) (J.add (.list vs))) (fun _=>.bad) r
noncomputable def compR (E:Ev) (c:Cx) (elt:T) (g:G) (ifs:List T) (rest:List PySem.Comprehension) (kd:List (Nat×NameKind)) (n:Nat) (r:R V):R V:=oc (closeC c kd) .bad fun cs=>cn (kdOk kd kd) (bd r fun o J=>oc (iterOf c.2 J o) .bad fun o=>listR (compL E ⟨c.1,c.2,ownKd c kd,cs⟩ elt g ifs (restB rest) o n (nat_lit 0) [] [] J)) .bad
noncomputable def bxM (t:T):Bx FM:=@T.rec (fun _=>Bx FM) (fun _=>Unit) (fun _=>Unit) (fun k p=>.mk (fun _ _ _ _ _ J=>.ok .none J)) (fun b k p=>.mk (fun _ _ _ _ _ J=>.ok (.bool b) J)) (fun i k p=>.mk (fun _ _ _ _ _ J=>.ok (.int i) J)) (fun s k p=>.mk (fun K _ _ _ _ J=>.ok (.str (K.P.sy s)) J)) (fun x p=>.mk (fun K _ _ c m J=>@Cx.rec (fun _=>R V) (fun _ _ kd cs=>@Option.rec NameKind (fun _=>R V) .bad (fun k=>@NameKind.rec (fun _=>R V) (@Option.rec V (fun _=>R V) .bad (fun v=>.ok v J) (@List.rec (Nat×V) (fun _=>Option V) none (fun y _ ih=>@Prod.rec Nat V (fun _=>Option V) (fun a v=>@Bool.rec (fun _=>Option V) ih (some v) (Nat.beq a x)) y) m)) (cellV c x J) (cellV c x J) .bad (@Option.rec V (fun _=>R V) .bad (fun v=>.ok v J) (K.P.gt x)) k) (lk kd x)) c)) (fun e f p _=>.mk (fun K E _ c m J=>bd (E.e c m e J) fun o J=>getAttrV J o f)) (fun f as p _ _=>.mk (fun _ E _ c m J=>cn (isAt f) .bad (bd (E.e c m f J) fun fv J=>bd (evs E c m as J) fun vs J=>E.call c.1 c.2 fv vs J))) (fun o f ap as p _ _=>.mk (fun K E _ c m J=>cn (Nat.beq ap.endLine p.line) (cn (lenLe as (nat_lit 20)) (bd (E.e c m o J) fun ov J=>vRef ov .bad fun l=>oc (J.get l) .bad (aMeth1 f as K E c m l J)) .bad) .bad)) (fun e i p _ _=>.mk (fun _ E _ c m J=>bd (E.e c m e J) fun o J=>bd (E.e c m i J) fun j J=>subV J o j)) (fun e lo hi _ _ _ _ _=>.mk (fun _ E _ c m J=>bd (E.e c m e J) fun o J=>bd (evO E c m lo J) fun a J=>bd (evO E c m hi J) fun b J=>cutV J o a b)) (fun vs _ _=>.mk (fun _ E _ c m J=>bop E c true m vs J)) (fun vs _ _=>.mk (fun _ E _ c m J=>bop E c false m vs J)) (fun e _ _=>.mk (fun _ E _ c m J=>bd (E.e c m e J) fun v J=>oc (truth v) .bad fun b=>.ok (.bool (nb b)) J)) (fun e _ _=>.mk (fun _ E _ c m J=>bd (E.e c m e J) fun v J=>vInt v .bad fun i=>okInt (-i) J)) (fun l op r _ _ _=>.mk (fun K E _ c m J=>bd (E.e c m l J) fun a J=>bd (E.e c m r J) fun b J=>bd (cmpV K.P J op a b) fun q J=>.ok (.bool q) J)) (fun l op r _ _ _=>.mk (fun _ E _ c m J=>bd (E.e c m l J) fun a J=>bd (E.e c m r J) fun b J=>binV J op a b)) (fun q a b _ _ _ _=>.mk (fun _ E _ c m J=>bd (E.t c m q J) fun v J=>cn v (E.e c m a J) (E.e c m b J))) (fun es _ _=>.mk (fun _ E _ c m J=>bd (evs E c m es J) fun vs J=>addL J vs)) (fun es _ _ _=>.mk (fun _ E _ c m J=>bd (evs E c m es J) fun vs J=>newT J vs)) (fun ks vs _ _ _=>.mk (fun _ E _ c m J=>cn (lenLe ks (nat_lit 10)) (cn (lenEq ks vs) (bd (evDict E c m ks vs J) fun es J=>.ok (.ref J.2) (J.add (.dict (dictOfL es [])))) .bad) .bad)) (fun elt g it ifs rest kd _ _ _ _ _=>.mk (fun _ E n c m J=>compR E c elt g ifs rest kd n (E.e c m it J))) () (fun _ _ _ _=>()) () (fun _ _=>()) t
noncomputable def unb {α:Type} (b:Bx α):α:=@Bx.rec α (fun _=>α) (fun x=>x) b
noncomputable def evM (t:T):FM:=unb (bxM t)
noncomputable abbrev FB:=Kt->Ev->Cx->M->Store->R Bool
noncomputable def bDef (t:T):FB:=fun _ E c m J=>bd (E.e c m t J) fun v J=>oc (truth v) .bad fun b=>.ok b J
noncomputable def bxT (t:T):Bx FB:=@T.rec (fun _=>Bx FB) (fun _=>Unit) (fun _=>Unit) (fun k p=>.mk (bDef (.cnone k p))) (fun b k p=>.mk (bDef (.cbool b k p))) (fun i k p=>.mk (bDef (.cint i k p))) (fun s k p=>.mk (bDef (.cstr s k p))) (fun x p=>.mk (bDef (.name x p)))
 (fun e f p _=>.mk (bDef (.attr e f p))) (fun f as p _ _=>.mk (bDef (.call f as p))) (fun o f ap as p _ _=>.mk (bDef (.meth o f ap as p))) (fun e i p _ _=>.mk (bDef (.sub e i p))) (fun e lo hi sp p _ _ _=>.mk (bDef (.cut e lo hi sp p))) (fun vs _ _=>.mk (fun _ E c m J=>bopT E c true m vs J)) (fun vs _ _=>.mk (fun _ E c m J=>bopT E c false m vs J)) (fun e _ _=>.mk (fun _ E c m J=>bd (E.t c m e J) fun b J=>.ok (nb b) J)) (fun e p _=>.mk (bDef (.neg e p))) (fun l op r _ _ _=>.mk (fun K E c m J=>bd (E.e c m l J) fun a J=>bd (E.e c m r J) fun b J=>cmpV K.P J op a b)) (fun l op r p _ _=>.mk (bDef (.bin l op r p))) (fun q a b _ _ _ _=>.mk (fun _ E c m J=>bd (E.t c m q J) fun v J=>cn v (E.t c m a J) (E.t c m b J)))
 (fun es p _=>.mk (bDef (.list es p))) (fun es k p _=>.mk (bDef (.tup es k p))) (fun ks vs p _ _=>.mk (bDef (.dict ks vs p))) (fun elt g it ifs rest kd more p _ _ _=>.mk (bDef (.comp elt g it ifs rest kd more p))) () (fun _ _ _ _=>()) () (fun _ _=>()) t
noncomputable def evT (t:T):FB:=unb (bxT t)
noncomputable def moves1 (t:T):Bool:=@T.rec (fun _=>Bool) (fun _=>Unit) (fun _=>Unit) (fun _ _=>false) (fun _ _ _=>false) (fun _ _ _=>false) (fun _ _ _=>false) (fun _ _=>true) (fun _ _ _ _=>true) (fun _ _ _ _ _=>true) (fun _ _ _ _ _ _ _=>true) (fun _ _ _ _ _=>false) (fun _ _ _ _ _ _ _ _=>false) (fun _ _ _=>false) (fun _ _ _=>false) (fun _ _ _=>false) (fun _ _ _=>false) (fun _ _ _ _ _ _=>false) (fun _ _ _ _ _ _=>false) (fun _ _ _ _ _ _ _=>false) (fun _ _ _=>true) (fun _ _ _ _=>false) (fun _ _ _ _ _=>true) (fun _ _ _ _ _ _ _ _ _ _ _=>false) () (fun _ _ _ _=>()) () (fun _ _=>()) t
noncomputable def tupE (t:T):Option (List T):=@T.rec (fun _=>Option (List T)) (fun _=>Unit) (fun _=>Unit) (fun _ _=>none) (fun _ _ _=>none) (fun _ _ _=>none) (fun _ _ _=>none) (fun _ _=>none) (fun _ _ _ _=>none) (fun _ _ _ _ _=>none) (fun _ _ _ _ _ _ _=>none) (fun _ _ _ _ _=>none) (fun _ _ _ _ _ _ _ _=>none) (fun _ _ _=>none) (fun _ _ _=>none) (fun _ _ _=>none) (fun _ _ _=>none) (fun _ _ _ _ _ _=>none) (fun _ _ _ _ _ _=>none) (fun _ _ _ _ _ _ _=>none) (fun _ _ _=>none) (fun es _ _ _=>some es) (fun _ _ _ _ _=>none) (fun _ _ _ _ _ _ _ _ _ _ _=>none) () (fun _ _ _ _=>()) () (fun _ _=>()) t
noncomputable def movesT (t:T):Bool:=oc (tupE t) (nb (isCo t)) fun es=>es.any moves1
noncomputable def nxtP (o:Option (M×Store)):X:=oc o .bad fun p=>.nxt p.1 p.2
noncomputable abbrev FS:=Kt->Ev->Nat->Cx->M->Store->X
noncomputable def xbad:FS:=fun _ _ _ _ _ _=>.bad
noncomputable def unp (c:Cx) (m:M) (xs:List (Nat×Pos)) (v:V) (J:Store):X:=vRef v .bad fun l=>gT J l .bad fun vs=>nxtP (storeNs c xs vs m J)
noncomputable def sAsg (t:TG) (e:T):FS:=fun K E _ c m J=>@TG.rec (fun _=>X) (fun x _=>tx m (E.e c m e J) fun v J=>nxtP (storeN c m x v J))
 (fun xs _ _=>cn (movesT e) (tx m (E.e c m e J) fun v J=>unp c m xs v J) .bad)
 (fun o f _=>tx m (E.e c m e J) fun v J=>tx m (E.e c m o J) fun ov J=>tx m (setAttrV K.P.cl J ov f v) fun _ J=>.nxt m J)
 (fun o i _=>tx m (E.e c m e J) fun v J=>tx m (E.e c m o J) fun ov J=>tx m (E.e c m i J) fun iv J=>tx m (setItemV J ov iv v) fun _ J=>.nxt m J) t
noncomputable def sAug (t:TG) (op:Operator) (e:T):FS:=fun K E _ c m J=>@TG.rec (fun _=>X) (fun x _=>tx m (loadN K.P.gt c m x J) fun a J=>tx m (E.e c m e J) fun b J=>tx m (augV J op a b) fun v J=>nxtP (storeN c m x v J))
 (fun _ _ _=>.bad)
 (fun o f _=>tx m (E.e c m o J) fun ov J=>tx m (getAttrV J ov f) fun a J=>tx m (E.e c m e J) fun b J=>tx m (augV J op a b) fun v J=>tx m (setAttrV K.P.cl J ov f v) fun _ J=>.nxt m J)
 (fun o i _=>tx m (E.e c m o J) fun ov J=>tx m (E.e c m i J) fun iv J=>tx m (subV J ov iv) fun a J=>tx m (E.e c m e J) fun b J=>tx m (augV J op a b) fun v J=>tx m (setItemV J ov iv v) fun _ J=>.nxt m J) t
noncomputable def onExc (x:X) (f:M->Store->X):X:=@X.rec (fun _=>X) .bad .nxt .cnt .ret f x
noncomputable def noExc (x:X):X:=onExc x fun _ _=>.bad
noncomputable def only (x:X) (f g:M->Store->X):X:=@X.rec (fun _=>X) .bad f (fun _ _=>.bad) (fun _ _ _=>.bad) g x
noncomputable def bxS (s:S):Bx FS:=@S.rec (fun _=>Bx FS) (fun _=>Unit) (fun _=>.mk xbad) (fun e _=>.mk (fun _ E _ c m J=>cn (isCo e) .bad (tx m (E.e c m e J) fun _ J=>.nxt m J))) (fun e _=>.mk (fun _ E _ c m J=>oc e (.ret .none m J) fun e=>tx m (E.e c m e J) fun v J=>.ret v m J)) (fun t e _=>.mk (sAsg t e)) (fun t op e _=>.mk (sAug t op e)) (fun q a b _ _ _=>.mk (fun _ E _ c m J=>tx m (E.t c m q J) fun v J=>cn v (execs E c a m J) (execs E c b m J))) (fun q b _ _=>.mk (fun _ E n c m J=>whlL E c q b n m J)) (fun g it b _ _=>.mk (fun _ E n c m J=>tx m (E.e c m it J) fun o J=>oc (iterOf c.2 J o) .bad fun o=>forL E c g b o n (nat_lit 0) m J)) (fun _=>.mk (fun _ _ _ _ m J=>.cnt m J)) (fun x _ a b _ _=>.mk (fun K E _ c m J=>cn c.2 .bad (cn (isCf K.P c x) (cn (Nat.ble (nat_lit 3) c.1) (tx m (evs E c m [a,b] J) fun _ J=>.exc m J) .bad) .bad))) (fun b x _ h _ _ _ _=>.mk (fun K E _ c m J=>cn (isCf K.P c x) (@List.rec S (fun _=>X) .bad (fun _ _ _=>onExc (execs E c b m J) fun m J=>noExc (execs E ⟨c.1,true,c.3,c.4⟩ h m J)) h) .bad)) (fun b f _ _ _=>.mk (fun _ E _ c m J=>@List.rec S (fun _=>X) .bad (fun _ _ _=>@X.rec (fun _=>X) .bad (execs E c f) (fun _ _=>.bad) (fun v m J=>only (execs E c f m J) (.ret v) .exc) (fun m J=>only (execs E ⟨c.1,true,c.3,c.4⟩ f m J) .exc fun _ _=>.bad) (execs E c b m J)) f)) (fun x b kd _ p _=>.mk (fun K _ _ c m J=>cn (isMk K.P c x p) (oc (closeC c kd) .bad fun cs=>nxtP (storeN c m x (.ref J.2) (J.add (.clo b kd cs)))) .bad)) () (fun _ _ _ _=>()) s
noncomputable def evS (s:S):FS:=unb (bxS s)
noncomputable def Ev0:Ev:=⟨fun _ _ _ _=>.bad,fun _ _ _ _=>.bad,fun _ _ _ _=>.bad,fun _ _ _ _ _=>.bad⟩
noncomputable def Ev1 (K:Kt) (n:Nat) (E:Ev):Ev:=⟨fun c m t J=>@Bx.rec FM (fun _=>R V) (fun F=>F K E n c m J) (bxM t),fun c m t J=>@Bx.rec FB (fun _=>R Bool) (fun F=>F K E c m J) (bxT t),fun c m s J=>@Bx.rec FS (fun _=>X) (fun F=>F K E n c m J) (bxS s),callV K E⟩
noncomputable def ev (K:Kt) (n:Nat):Ev:=@Nat.rec (fun _=>Ev) Ev0 (Ev1 K) n
end
end Mine

namespace Mine
@[elab_as_elim] theorem rwl {α:Sort _} {a b:α} {p:α->Prop} (h:a=b) (x:p b):p a:=h▸x
@[elab_as_elim] theorem rwr {α:Sort _} {a b:α} {p:α->Prop} (h:a=b) (x:p a):p b:=h▸x
local macro_rules
| `(tactic| rw [$e:term])=>`(tactic| ((first|refine rwl $e ?_|rewrite [$e:term]);try (with_reducible rfl)))
| `(tactic| rw [$e:term,$rs:rwRule,*])=>`(tactic| ((first|refine rwl $e ?_|rewrite [$e:term]);rw [$rs:rwRule,*]))
section
open PySem PySem.W PySem.Calls PyProof.Rows
section base
variable {α β κ:Type}
theorem cnT {b:Bool} {x y:α} (h:b=true):cn b x y=x:=h▸rfl
theorem cnF {b:Bool} {x y:α} (h:b=false):cn b x y=y:=h▸rfl
theorem cn_el {b:Bool} {x y:α} {P:α->Prop} (h1:b=true->P x) (h2:b=false->P y):P (cn b x y):=by
 induction b using Bool.casesOn with
 | true=>exact h1 rfl
 | false=>exact h2 rfl
theorem beqT {a b:Nat} (h:a=b):Nat.beq a b=true:=h▸Nat.beq_refl a
theorem tf {b:Bool} (h:¬ b=true):b=false:=Bool.eq_false_iff.mpr h
theorem beqF {a b:Nat} (h:¬ a=b):Nat.beq a b=false:=tf fun z=>h (Nat.eq_of_beq_eq_true z)
theorem cn_if (a b:Nat) (x y:α):cn (Nat.beq a b) x y=if a=b then x else y:=cn_el (P:=fun z=>z=if a=b then x else y) (fun h=>(if_pos (Nat.eq_of_beq_eq_true h)).symm) fun h=>(if_neg fun z=>by rw[beqT z] at h;cases h).symm
noncomputable def up (f:Nat->α) (i:Nat) (o:α) (j:Nat):α:=if j=i then o else f j
theorem up_at {f:Nat->α} {i:Nat} {o:α}:up f i o i=o:=if_pos rfl
theorem up_ne {f:Nat->α} {i j:Nat} {o:α} (h:¬ j=i):up f i o j=f j:=if_neg h
noncomputable def dn (q:Dg):Nat:=@Dg.rec (fun _=>Nat) 0 1 2 3 4 5 6 7 8 9 10 11 q
theorem dn_dg:∀ d,d<12->dn (dg d)=d
 | 0,_=>rfl
 | 1,_=>rfl
 | 2,_=>rfl
 | 3,_=>rfl
 | 4,_=>rfl
 | 5,_=>rfl
 | 6,_=>rfl
 | 7,_=>rfl
 | 8,_=>rfl
 | 9,_=>rfl
 | 10,_=>rfl
 | 11,_=>rfl
 | n+12,h=>absurd h (by omega)
theorem dg_inj {d e:Nat} (h:d<12) (k:e<12) (q:dg d=dg e):d=e:=(dn_dg d h).symm.trans ((congrArg dn q).trans (dn_dg e k))
noncomputable def mkd (h:Dg->α):C6 α:=⟨h .a,h .b,h .c,h .d,h .e,h .f,h .g,h .h,h .i,h .j,h .k,h .l⟩
theorem sl_mkd (h:Dg->α) (q:Dg):sl q (mkd h)=h q:=by cases q <;> rfl
theorem upd_mkd (q:Dg) (g:α->α) (t:C6 α):upd q g t=mkd fun q'=>cn (Nat.beq (dn q) (dn q')) (g (sl q' t)) (sl q' t):=by cases q <;> rfl
theorem dg_dn (q:Dg):dg (dn q)=q:=by cases q <;> rfl
theorem sl_up (q:Dg) (g:α->α) (t:C6 α):sl q (upd q g t)=g (sl q t):=by
 rw[upd_mkd,sl_mkd]
 exact cnT (beqT rfl)
theorem sl_ne {q q':Dg} (g:α->α) (t:C6 α) (h:¬ q'=q):sl q' (upd q g t)=sl q' t:=by
 rw[upd_mkd,sl_mkd]
 exact cnF (beqF fun z=>h ((dg_dn q').symm.trans ((congrArg dg z.symm).trans (dg_dn q))))
theorem pth_up (g:α->α) (t:C6 (C6 (C6 α))) {k m:Nat} (hk:k<1728) (hm:m<1728):pth (upp g t k) m=if m=k then g (pth t k) else pth t m:=by
 show sl (dg (Nat.mod m (nat_lit 12))) (sl (dg (Nat.mod (Nat.div m (nat_lit 12)) (nat_lit 12))) (sl (dg (Nat.div m (nat_lit 144))) (upd (dg (Nat.div k (nat_lit 144))) (upd (dg (Nat.mod (Nat.div k (nat_lit 12)) (nat_lit 12))) (upd (dg (Nat.mod k (nat_lit 12))) g)) t)))=if m=k then g (sl (dg (Nat.mod k (nat_lit 12))) (sl (dg (Nat.mod (Nat.div k (nat_lit 12)) (nat_lit 12))) (sl (dg (Nat.div k (nat_lit 144))) t))) else sl (dg (Nat.mod m (nat_lit 12))) (sl (dg (Nat.mod (Nat.div m (nat_lit 12)) (nat_lit 12))) (sl (dg (Nat.div m (nat_lit 144))) t))
 by_cases e:m=k
 ·rw[if_pos e,e,sl_up,sl_up,sl_up]
 ·rw[if_neg e]
  by_cases a:(dg (Nat.div m (nat_lit 144)))=(dg (Nat.div k (nat_lit 144)))
  ·rw[a,sl_up]
   by_cases b:(dg (Nat.mod (Nat.div m (nat_lit 12)) (nat_lit 12)))=(dg (Nat.mod (Nat.div k (nat_lit 12)) (nat_lit 12)))
   ·rw[b,sl_up]
    refine sl_ne _ _ fun d=>e ?_
    have a:m/144=k/144:=dg_inj (by omega) (by omega) a
    have b:m/12%12=k/12%12:=dg_inj (by omega) (by omega) b
    have d:m%12=k%12:=dg_inj (by omega) (by omega) d
    omega
   ·rw[sl_ne _ _ b]
  ·rw[sl_ne _ _ a]
end base
section
variable {α:Type}
theorem sl_c6 (q:Dg) (x:α):sl q (c6 x)=x:=by cases q <;> rfl
theorem NT.get_succ (t:NT α) (k:Nat):t.get (k+1)=cn (Nat.ble k 1727) (pth t.1 k) (t.2 (k+1)):=rfl
theorem NT.get_nil (i:Nat):NT.get (NT.nil:NT α) i=none:=by
 cases i with
 | zero=>rfl
 | succ k=>
  rw[NT.get_succ]
  cases Nat.ble k 1727 with
  | false=>rfl
  | true=>
   show sl (dg (Nat.mod k (nat_lit 12))) (sl (dg (Nat.mod (Nat.div k (nat_lit 12)) (nat_lit 12))) (sl (dg (Nat.div k (nat_lit 144))) (c6 (c6 (c6 none)))))=none
   rw[sl_c6,sl_c6,sl_c6]
theorem NT.put_succ (o:α) (t:NT α) (k:Nat):t.put (k+1) o=cn (Nat.ble k 1727) ⟨upp (fun _=>some o) t.1 k,t.2⟩ ⟨t.1,rp t.2 (k+1) o⟩:=rfl
theorem ble_no {k m:Nat} (h:Nat.ble k 1727=false) (e:Nat.ble m 1727=true):¬ m=k:=fun q=>by rw[q,h] at e;cases e
theorem rp_eq (r:Nat->Option α) (i:Nat) (o:α) (j:Nat):rp r i o j=up r i (some o) j:=(cn_if i j _ _).trans (by
 by_cases e:i=j
 ·rw[if_pos e,e];exact up_at.symm
 ·rw[if_neg e];exact (up_ne fun z=>e z.symm).symm)
theorem NT.get_put (o:α) (t:NT α) (i j:Nat):(t.put i o).get j=up t.get i (some o) j:=by
 cases i with
 | zero=>
  cases j with
  | zero=>exact rfl
  | succ m=>exact (up_ne (i:=0) (Nat.succ_ne_zero m)).symm
 | succ k=>
  rw[NT.put_succ]
  cases j with
  | zero=>
   refine Eq.trans ?_ (up_ne (i:=k+1) (j:=0) nofun).symm
   cases Nat.ble k 1727 <;> rfl
  | succ m=>
   have ee:∀ x,(if m=k then some o else x)=up (fun _=>x) (k+1) (some o) (m+1):=fun x=>by
    by_cases e:m=k
    ·rw[if_pos e,e];exact up_at.symm
    ·rw[if_neg e];exact (up_ne (f:=fun _=>x) (i:=k+1) (j:=m+1) fun z=>e (Nat.succ.inj z)).symm
   show _=up (fun _=>t.get (m+1)) (k+1) (some o) (m+1)
   rw[←ee,NT.get_succ,NT.get_succ]
   cases hk:Nat.ble k 1727 with
   | false=>
    show cn _ (pth t.1 m) (rp t.2 (k+1) o (m+1))=_
    cases hm:Nat.ble m 1727 with
    | false=>
     show rp t.2 (k+1) o (m+1)=if m=k then some o else t.2 (m+1)
     rw[ee];exact rp_eq _ _ _ _
    | true=>exact (if_neg (ble_no hk hm)).symm
   | true=>
    show cn _ (pth (upp (fun _=>some o) t.1 k) m) (t.2 (m+1))=_
    cases hm:Nat.ble m 1727 with
    | false=>exact (if_neg fun z=>ble_no hm hk z.symm).symm
    | true=>exact pth_up _ _ (Nat.lt_succ_of_le (Nat.le_of_ble_eq_true hk)) (Nat.lt_succ_of_le (Nat.le_of_ble_eq_true hm))
end
theorem Store.get_set (J:Store) (l j:Nat) (o:O):(J.set l o).get j=if j=l then some o else J.get j:=NT.get_put o _ _ _
theorem Store.get_add (J:Store) (j:Nat) (o:O):(J.add o).get j=if j=J.n then some o else J.get j:=NT.get_put o _ _ _
theorem Store.n_set (J:Store) (l:Nat) (o:O):(J.set l o).n=J.n:=rfl
theorem Store.n_add (J:Store) (o:O):(J.add o).n=J.n+1:=rfl
theorem set_el {J:Store} {l j:Nat} {o q:O} {P:Prop} (e:(J.set l o).get j=some q) (h1:j=l->q=o->P) (h2:J.get j=some q->¬ j=l->P):P:=by
 rw[Store.get_set] at e
 by_cases hl:j=l
 ·rw[if_pos hl] at e;exact h1 hl (Option.some.inj e).symm
 ·rw[if_neg hl] at e;exact h2 e hl
theorem add_el {J:Store} {j:Nat} {o q:O} {P:Prop} (e:(J.add o).get j=some q) (h1:j=J.n->q=o->P) (h2:J.get j=some q->¬ j=J.n->P):P:=by
 rw[Store.get_add] at e
 by_cases hl:j=J.n
 ·rw[if_pos hl] at e;exact h1 hl (Option.some.inj e).symm
 ·rw[if_neg hl] at e;exact h2 e hl
theorem lastR_eq {α:Type} (l:List α):lastR l=l.getLast?:=by
 induction l with
 | nil=>rfl
 | cons x r ih=>
  show @Option.rec α (fun _=>Option α) (some x) some (lastR r)=_
  rw[ih]
  cases r with
  | nil=>rfl
  | cons y t=>
   rw[List.getLast?_cons_cons]
   cases h:(y::t).getLast? with
   | none=>simp at h
   | some z=>rfl
theorem dropR_eq {α:Type} (l:List α):dropR l=l.dropLast:=by
 induction l with
 | nil=>rfl
 | cons x r ih=>
  cases r with
  | nil=>rfl
  | cons y t=>exact congrArg (List.cons x) ih
section lists
variable {κ α:Type} {e:κ->κ->Bool}
theorem memG_iff (he:∀ a b,e a b=true↔a=b) (l:List κ) (k:κ):memG e l k=true↔k∈l:=by
 induction l with
 | nil=>exact⟨fun h=>Bool.noConfusion h,fun h=>nomatch h⟩
 | cons x r ih=>
  refine cn_el (P:=fun z=>z=true↔k∈x::r) (fun h=>⟨fun _=>((he _ _).mp h)▸.head _,fun _=>rfl⟩) fun h=>⟨fun z=>.tail _ (ih.mp z),fun z=>ih.mpr ?_⟩
  rcases List.mem_cons.mp z with z|z
  ·rw[(he x k).mpr z.symm] at h;cases h
  ·exact z
theorem lkG_mem (he:∀ a b,e a b=true↔a=b) {l:List (κ×α)} {k:κ} {v:α}:lkG e l k=some v->(k,v)∈l:=by
 induction l with
 | nil=>exact fun h=>nomatch h
 | cons x r ih=>exact cn_el (P:=fun z=>z=some v->(k,v)∈x::r) (fun h z=>by rw[<-(he _ _).mp h,<-Option.some.inj z];exact .head _) fun _ z=>.tail _ (ih z)
theorem lkG_put (he:∀ a b,e a b=true↔a=b) (l:List (κ×α)) (s k:κ) (v:α):lkG e (putG e l s v) k=cn (e s k) (some v) (lkG e l k):=by
 induction l with
 | nil=>rfl
 | cons x r ih=>
  show lkG e (cn (e x.1 s) ((x.1,v)::r) (x::putG e r s v)) k=cn (e s k) (some v) (cn (e x.1 k) (some x.2) (lkG e r k))
  by_cases h:e x.1 s=true
  ·rw[cnT h,(he _ _).mp h]
   by_cases q:e s k=true
   ·rw[cnT q];exact cnT q
   ·rw[cnF (tf q),cnF (tf q)];exact cnF (tf q)
  ·rw[cnF (tf h)]
   show cn (e x.1 k) (some x.2) (lkG e (putG e r s v) k)=_
   rw[ih]
   by_cases q:e x.1 k=true
   ·rw[cnT q,cnF (tf fun z=>h ((he _ _).mpr (((he _ _).mp q).trans ((he _ _).mp z).symm)))];exact(cnT q).symm
   ·rw[cnF (tf q),cnF (tf q)]
theorem keys_putG (he:∀ a b,e a b=true↔a=b) (l:List (κ×α)) (s:κ) (v:α) (k:κ):k∈(putG e l s v).map (·.1)->k=s\/k∈l.map (·.1):=by
 induction l with
 | nil=>exact fun h=>.inl (List.mem_singleton.mp h)
 | cons x r ih=>
  refine cn_el (x:=(x.1,v)::r) (y:=x::putG e r s v) (P:=fun z:List (κ×α)=>k∈z.map (·.1)->k=s\/k∈(x::r).map (·.1)) (fun _ h=>.inr h) fun _ h=>?_
  rcases List.mem_cons.mp h with h|h
  ·exact .inr (h▸.head _)
  ·exact(ih h).imp id fun z=>.tail _ z
theorem nodup_putG (he:∀ a b,e a b=true↔a=b) (l:List (κ×α)) (s:κ) (v:α):(l.map (·.1)).Nodup->((putG e l s v).map (·.1)).Nodup:=by
 induction l with
 | nil=>exact fun _=>List.nodup_cons.mpr ⟨(fun h=>nomatch h),List.nodup_nil⟩
 | cons x r ih=>
  intro h
  have h2:=List.nodup_cons.mp h
  refine cn_el (x:=(x.1,v)::r) (y:=x::putG e r s v) (P:=fun z:List (κ×α)=>(z.map (·.1)).Nodup) (fun _=>h) fun q=>List.nodup_cons.mpr ⟨fun hm=>?_,ih h2.2⟩
  exact(keys_putG he r s v _ hm).elim (fun z=>by rw[(he _ _).mpr z] at q;cases q) h2.1
theorem len_putG (l:List (κ×α)) (s:κ) (v:α):(putG e l s v).length<=l.length+1:=by
 induction l with
 | nil=>exact Nat.le_refl _
 | cons x r ih=>exact cn_el (P:=fun z:List (κ×α)=>z.length<=r.length+1+1) (fun _=>Nat.le_succ _) fun _=>Nat.succ_le_succ ih
end lists
theorem beq_ok (a b:Nat):Nat.beq a b=true↔a=b:=⟨Nat.eq_of_beq_eq_true,beqT⟩
theorem eqS_iff (a b:List Nat):eqS a b=true↔a=b:=by
 induction a generalizing b with
 | nil=>
  induction b using List.casesOn with
  | nil=>exact⟨fun _=>rfl,fun _=>rfl⟩
  | cons y q=>exact⟨fun h=>Bool.noConfusion h,fun h=>nomatch h⟩
 | cons x r ih=>
  induction b using List.casesOn with
  | nil=>exact⟨fun h=>Bool.noConfusion h,fun h=>nomatch h⟩
  | cons y q=>
   exact cn_el (P:=fun z=>z=true↔x::r=y::q) (fun h=>by rw[Nat.eq_of_beq_eq_true h];exact(ih q).trans ⟨fun z=>z▸rfl,fun z=>(List.cons.inj z).2⟩) fun h=>⟨fun z=>Bool.noConfusion z,fun z=>by rw[(List.cons.inj z).1,Nat.beq_refl] at h;cases h⟩
theorem eqS_self (a:List Nat):eqS a a=true:=(eqS_iff a a).mpr rfl
theorem eqS_ne {a b:List Nat} (h:¬ a=b):eqS a b=false:=tf fun z=>h ((eqS_iff a b).mp z)
theorem strK_inj {a b:List Nat} (h:strK a=strK b):a=b:=congrArg (fun x:Str=>x.cps.toList) h
theorem strK_beq (a b:List Nat):(strK a == strK b)=eqS a b:=by
 by_cases h:a=b
 ·rw[h,eqS_self];exact beq_self_eq_true _
 ·rw[eqS_ne h];exact beq_eq_false_iff_ne.mpr fun z=>h (strK_inj z)
theorem lk_putL (l:List (Nat×V)) (f k:Nat) (v:V):lk (putL l f v) k=cn (Nat.beq f k) (some v) (lk l k):=lkG_put beq_ok l f k v
theorem lk_mem {α:Type} {l:List (Nat×α)} {k:Nat} {v:α} (h:lk l k=some v):(k,v)∈l:=lkG_mem beq_ok h
theorem memN_iff (l:List Nat) (k:Nat):memN l k=true↔k∈l:=memG_iff beq_ok l k
structure Wd where
 prog:Program
 w:World
 nm:Nat->Str
 P:Pr
 K:Frag
 h₀:Heap
 mg:Str->Option Value
 mb:Str->Option Value
 PT:Addr
 PC:Addr
 wq:Str
 θ:Nat->List V
 ϑ:Nat->List (List Nat×V)
noncomputable abbrev Wd.M (W:Wd):Model:=model W.prog W.w
inductive VR (ρ:Nat->Addr) (n:Nat):V->Value->Prop
 | none:VR ρ n .none .none
 | bool (b:Bool):VR ρ n (.bool b) (.bool b)
 | int (i:Int) (t:Tok):VR ρ n (.int i) (.int i t)
 | str (s:List Nat) (t:Tok):VR ρ n (.str s) (.str (strK s) t)
 | ref (l:Nat) (h:l<n):VR ρ n (.ref l) (.ref (ρ l))
 | top (v:Value) (hh:handedIn v=true):VR ρ n (.top v) v
inductive VRs (ρ:Nat->Addr) (n:Nat):List V->List Value->Prop
 | nil:VRs ρ n [] []
 | cons {v x vs xs} (h:VR ρ n v x) (r:VRs ρ n vs xs):VRs ρ n (v::vs) (x::xs)
inductive ER (P:Params) (ρ:Nat->Addr) (n:Nat):List (List Nat×V)->List DictEntry->Prop
 | nil:ER P ρ n [] []
 | cons {s:List Nat} {v:V} {x:Value} {t:Tok} {es:List (List Nat×V)} {xs:List DictEntry} (h:VR ρ n v x) (r:ER P ρ n es xs):ER P ρ n ((s,v)::es) (⟨PyData.keyHash P (strK s),.str (strK s) t,x⟩::xs)
section VR
variable {ρ ah:Nat->Addr} {n n':Nat} {v:V} {x:Value} {vs:List V} {xs:List Value} {P:Value->Prop}
theorem VR.elR {l:Nat} (h:VR ρ n (.ref l) x) (k:l<n->P (.ref (ρ l))):P x:=by
 cases h with|ref l h=>exact k h
theorem VR.elS {s:List Nat} (h:VR ρ n (.str s) x) (k:∀ t,P (.str (strK s) t)):P x:=by
 cases h with|str s t=>exact k t
theorem VR.elI {i:Int} (h:VR ρ n (.int i) x) (k:∀ t,P (.int i t)):P x:=by
 cases h with|int i t=>exact k t
theorem VR.elN (h:VR ρ n .none x) (k:P .none):P x:=by
 cases h with|none=>exact k
theorem VR.elB {b:Bool} (h:VR ρ n (.bool b) x) (k:P (.bool b)):P x:=by
 cases h with|bool b=>exact k
theorem VR.elT {v:Value} (h:VR ρ n (.top v) x) (k:handedIn v=true->P v):P x:=by
 cases h with|top v hh=>exact k hh
theorem VRs.elC {P:List Value->Prop} (h:VRs ρ n (v::vs) xs) (k:∀ y ys,VR ρ n v y->VRs ρ n vs ys->P (y::ys)):P xs:=by
 cases h with|cons h r=>exact k _ _ h r
theorem VRs.elN {P:List Value->Prop} (h:VRs ρ n [] xs) (k:P []):P xs:=by
 cases h with|nil=>exact k
theorem VR.mono (h:VR ρ n v x) (a:∀ l,l<n->ah l=ρ l) (hn:n<=n'):VR ah n' v x:=by
 cases h with
 | none=>exact .none
 | bool b=>exact .bool b
 | int i t=>exact .int i t
 | str s t=>exact .str s t
 | ref l h=>rw[<-a l h];exact .ref l (Nat.lt_of_lt_of_le h hn)
 | top _ hh=>exact .top _ hh
theorem VRs.tr (h:VRs ρ n vs xs) (T:∀ v,v∈vs->∀ x,VR ρ n v x->VR ah n' v x):VRs ah n' vs xs:=by
 induction h with
 | nil=>exact .nil
 | cons h _ ih=>exact .cons (T _ (.head _) _ h) (ih fun v hv=>T v (.tail _ hv))
theorem VRs.mono (h:VRs ρ n vs xs) (a:∀ l,l<n->ah l=ρ l) (hn:n<=n'):VRs ah n' vs xs:=h.tr fun _ _ _ q=>q.mono a hn
theorem VRs.length (h:VRs ρ n vs xs):xs.length=vs.length:=by
 induction h with
 | nil=>rfl
 | cons _ _ ih=>exact congrArg (·+1) ih
theorem VRs.append {ws:List V} {ys:List Value} (h:VRs ρ n vs xs) (k:VRs ρ n ws ys):VRs ρ n (vs++ws) (xs++ys):=by
 induction h with
 | nil=>exact k
 | cons h _ ih=>exact .cons h ih
theorem ER.tr {P:Params} {es:List (List Nat×V)} {xs:List DictEntry} (h:ER P ρ n es xs) (T:∀ v,v∈es.map (·.2)->∀ x,VR ρ n v x->VR ah n' v x):ER P ah n' es xs:=by
 induction h with
 | nil=>exact .nil
 | cons h _ ih=>exact .cons (T _ (.head _) _ h) (ih fun v hv=>T v (.tail _ hv))
end VR
noncomputable abbrev tupOf (ys:Array Value) (n:Nat):Obj:={cls:=.type "tuple",data:=.seq ys n}
noncomputable abbrev dictOb (es:Array DictEntry) (n:Nat):Obj:={cls:=.type "dict",data:=.dict es n}
inductive PL (ρ:Nat->Addr) (n:Nat) (h:Heap) (a:Addr) (vs:List V):Prop
 |mk (ys:List Value) (ep:Nat) (ho:h.get? a=some (listOf ys.toArray ep)) (vr:VRs ρ n vs ys) (hz:vs.length<=20000)
inductive PT (ρ:Nat->Addr) (n:Nat) (h:Heap) (a:Addr) (vs:List V):Prop
 |mk (ys:List Value) (ho:h.get? a=some (tupOf ys.toArray 0)) (vr:VRs ρ n vs ys) (hz:vs.length<=20000)
inductive PD (P:Params) (ρ:Nat->Addr) (n:Nat) (h:Heap) (a:Addr) (es:List (List Nat×V)):Prop
 |mk (xs:List DictEntry) (ep:Nat) (ho:h.get? a=some (dictOb xs.toArray ep)) (er:ER P ρ n es xs) (nd:(es.map (·.1)).Nodup)
noncomputable abbrev instO (C d:Addr):Obj:={cls:=.ref C,dict:=some d,data:=.plain}
inductive PI (W:Wd) (ρ:Nat->Addr) (n:Nat) (h:Heap) (a b:Addr) (C:Nat) (fs:List (Nat×V)):Prop
 |mk (xs:List DictEntry) (ep:Nat) (d:CD) (ho:h.get? a=some (instO C b)) (hd:h.get? b=some (dictOb xs.toArray ep)) (er:ER W.w.params ρ n (fs.map fun x=>(W.P.sy x.1,x.2)) xs) (nd:(fs.map (·.1)).Nodup) (hc:W.P.cl C=some d) (hm:∀ f,f∈fs.map (·.1)->memN d.fs f=true)
inductive PR (h:Heap) (a:Addr) (k:Int):Prop
 |mk (t u v:Tok) (r:IsRange h a 0 k 1 t u v) (s:smallI k=true)
inductive PC (ρ:Nat->Addr) (n:Nat) (h:Heap) (a:Addr) (v:V):Prop
 |mk (x:Value) (c:h.IsCell a (some x)) (r:VR ρ n v x)
inductive CloAt (W:Wd) (ρ:Nat->Addr) (n:Nat) (h:Heap) (a:Addr) (b:List S) (kd:List (Nat×NameKind)) (cs:List (Nat×Nat)):Prop
 |mk (o:Obj) (fd:FuncData) (ho:h.get? a=some o) (hd:o.data=.func fd) (k1:fd.body=.stmts (S.decL W.nm b)) (k2:fd.scope.kind=.function) (k3:fd.scope.isGenerator=false) (k4:fd.scope.isCoroutine=false)
  (k5:fd.scope.names=kd.map (fun x=>(W.nm x.1,x.2))) (k6:∀ x∈kd,x.2≠.cell) (k7:fd.globals=mainGlobals) (k8:fd.builtins=builtinsNs) (k9:fd.params=noArgs) (k10:fd.defaults=.none)
  (k11:∀ x c,lk cs x=some c->c<n/\fd.closure.lookup (W.nm x)=some (ρ c)) (k12:h.CodeRec fd.code fd.qualname)
noncomputable def Phys (W:Wd) (ρ:Nat->Addr) (n:Nat) (h:Heap) (l:Nat) (o:O):Prop:=@O.rec (fun _=>Prop) (PL ρ n h (ρ l)) (fun t=>PL ρ n h (ρ l) (W.θ t)) (fun t=>PD W.w.params ρ n h (ρ l) (W.ϑ t)) (PT ρ n h (ρ l)) (PD W.w.params ρ n h (ρ l)) (PI W ρ n h (ρ l) (ρ (l+1)))
 (∃ o,h.get? (ρ l)=some o) (PR h (ρ l)) (h.IsCell (ρ l) none) (PC ρ n h (ρ l)) (CloAt W ρ n h (ρ l)) o
noncomputable def O.vals (W:Wd) (o:O):List V:=@O.rec (fun _=>List V) (fun vs=>vs) W.θ (fun t=>(W.ϑ t).map (·.2)) (fun vs=>vs) (fun es=>es.map (·.2)) (fun _ fs=>fs.map (·.2)) [] (fun _=>[]) [] (fun v=>[v]) (fun _ _ _=>[]) o
inductive TabOK (W:Wd) (h:Heap):Prop
 |mk (vs:Array Value) (a:h.get? W.PT=some (PySem.W.tabObj vs)) (b:vs=#[]\/∃ c,vs=#[rawInt W.P.dp.line,rawInt W.P.dp.col,.ref c]/\h.CodeRec (.ref c) (W.wq++W.nm W.P.dn))
theorem TabOK.keep {W:Wd} {h h':Heap} (T:TabOK W h) (e:∀ o,h.get? W.PT=some o->h'.get? W.PT=some o) (k:∀ cd q,h.CodeRec cd q->h'.CodeRec cd q):TabOK W h':=by
 rcases T with ⟨vs,a,b⟩
 exact⟨vs,e _ a,b.imp id fun ⟨c,u,v⟩=>⟨c,u,k _ _ v⟩⟩
noncomputable def Trk (ρ:Nat->Addr) (J:Store) (b:Addr):Prop:=∃ l o,J.get l=some o/\ρ l=b
structure Rep (W:Wd) (ρ:Nat->Addr) (J:Store) (h:Heap):Prop where
 obj:∀ l o,J.get l=some o->Phys W ρ J.n h l o
 inj:∀ l l' o o',J.get l=some o->J.get l'=some o'->ρ l=ρ l'->l=l'
 new:∀ b,Trk ρ J b->W.h₀.get? b=none
 bd:∀ l o,J.get l=some o->l<J.n
 keep:∀ b o,W.h₀.get? b=some o->h.get? b=some o
 pt:¬ Trk ρ J W.PT
 tab:TabOK W h
 dic:∀ l C fs,J.get l=some (.inst C fs)->J.get (l+1)=some .rsv
 ptn:W.h₀.get? W.PT=none
section
variable {W:Wd} {F X:Addr->Prop} {ρ am aw ah:Nat->Addr} {J af ad aq:Store} {n n':Nat} {h h' ai ar:Heap} {l:Nat} {o:O}
theorem Phys.at (p:Phys W ρ n h l o):∃ x,h.get? (ρ l)=some x:=by
 induction o using Mine.O.casesOn with
 | list vs=>rcases p with ⟨_,_,e,_⟩;exact⟨_,e⟩
 | slist vs=>rcases p with ⟨_,_,e,_⟩;exact⟨_,e⟩
 | sdict t=>rcases p with ⟨_,_,e,_⟩;exact⟨_,e⟩
 | tup vs=>rcases p with ⟨_,e,_⟩;exact⟨_,e⟩
 | dict es=>rcases p with ⟨_,_,e,_⟩;exact⟨_,e⟩
 | inst C fs=>rcases p with ⟨_,_,_,e,_⟩;exact⟨_,e⟩
 | rsv=>exact p
 | rng k=>rcases p with ⟨_,_,_,e,_⟩;exact⟨_,e⟩
 | cell0=>exact p.imp fun _ q=>q.1
 | cell v=>rcases p with ⟨_,c,_⟩;exact c.imp fun _ q=>q.1
 | clo b kd cs=>rcases p with ⟨_,_,e,_⟩;exact⟨_,e⟩
theorem Rep.lt (R:Rep W ρ J h) {b:Addr} (t:Trk ρ J b):b<h.objs.size:=by
 obtain⟨l,o,e,rfl⟩:=t
 obtain⟨x,hx⟩:=(R.obj l o e).at
 exact Heap.lt_size hx
theorem Rep.trk (R:Rep W ρ J h) (e:J.get l=some o):Trk ρ J (ρ l):=⟨l,o,e,rfl⟩
theorem Phys.tr {l':Nat} (p:Phys W ρ n h l' o) (T:∀ v,v∈O.vals W o->∀ x,VR ρ n v x->VR ah n' v x) (hl:ah l=ρ l') (k:h'.get? (ρ l')=h.get? (ρ l')) (k2:∀ C fs,o=.inst C fs->ah (l+1)=ρ (l'+1)/\h'.get? (ρ (l'+1))=h.get? (ρ (l'+1)))
  (kc:∀ b kd cs,o=.clo b kd cs->(∀ cd q,h.CodeRec cd q->h'.CodeRec cd q)/\∀ x c,lk cs x=some c->c<n->c<n'/\ah c=ρ c):Phys W ah n' h' l o:=by
 have g:∀ {x},h.get? (ρ l')=some x->h'.get? (ah l)=some x:=fun e=>by rw[hl];exact k.trans e
 induction o using Mine.O.casesOn with
 | list vs=>rcases p with ⟨ys,ep,e,r,z⟩;exact⟨ys,ep,g e,r.tr T,z⟩
 | slist vs=>rcases p with ⟨ys,ep,e,r,z⟩;exact⟨ys,ep,g e,r.tr T,z⟩
 | sdict t=>rcases p with ⟨xs,ep,e,r,q⟩;exact⟨xs,ep,g e,r.tr T,q⟩
 | tup vs=>rcases p with ⟨ys,e,r,z⟩;exact⟨ys,g e,r.tr T,z⟩
 | dict es=>rcases p with ⟨xs,ep,e,r,q⟩;exact⟨xs,ep,g e,r.tr T,q⟩
 | inst C fs=>
  rcases p with ⟨xs,ep,d,e,e2,r,q1,q2,q3⟩
  have b:=k2 C fs rfl
  refine⟨xs,ep,d,?_,?_,r.tr fun v hv=>T v (by rw[List.map_map] at hv;exact hv),q1,q2,q3⟩
  ·rw[b.1];exact g e
  ·rw[b.1];exact b.2.trans e2
 | rsv=>exact p.imp fun _ e=>g e
 | rng i=>rcases p with ⟨t,u,v,e,z⟩;exact⟨t,u,v,g e,z⟩
 | cell0=>exact p.imp fun _ q=>⟨g q.1,q.2⟩
 | cell v=>rcases p with ⟨x,c,r⟩;exact⟨x,c.imp fun _ q=>⟨g q.1,q.2⟩,T v (.head _) x r⟩
 | clo b kd cs=>
  rcases p with ⟨o,fd,e,d,b1,b2,b3,b4,b5,b6,b7,b8,b9,b10,c1,c2⟩
  have q:=kc b kd cs rfl
  exact⟨o,fd,g e,d,b1,b2,b3,b4,b5,b6,b7,b8,b9,b10,fun x c e=>⟨(q.2 x c e (c1 x c e).1).1,by rw[(q.2 x c e (c1 x c e).1).2];exact(c1 x c e).2⟩,q.1 _ _ c2⟩
theorem Phys.change (p:Phys W ρ n h l o) (a:∀ j,j<n->ah j=ρ j) (hn:n<=n') (hl:ah l=ρ l) (k:h'.get? (ρ l)=h.get? (ρ l)) (k2:∀ C fs,o=.inst C fs->ah (l+1)=ρ (l+1)/\h'.get? (ρ (l+1))=h.get? (ρ (l+1)))
  (kc:∀ cd q,h.CodeRec cd q->h'.CodeRec cd q):Phys W ah n' h' l o:=
 p.tr (fun _ _ _ q=>q.mono a hn) hl k k2 fun _ _ _ _=>⟨kc,fun _ c _ z=>⟨Nat.lt_of_lt_of_le z hn,a c z⟩⟩
structure Kept (W:Wd) (F X:Addr->Prop) (ρ:Nat->Addr) (J:Store) (h h':Heap):Prop where
 size:h.objs.size<=h'.objs.size
 keep:∀ b o,h.get? b=some o->¬ Trk ρ J b->b≠W.PT->¬ X b->∃ o',h'.get? b=some o'/\(o'=o\/(F b/\o'.data=o.data/\o'.cls=o.cls))
structure Stp (W:Wd) (F X:Addr->Prop) (ρ:Nat->Addr) (J:Store) (h:Heap) (ah:Nat->Addr) (af:Store) (h':Heap):Prop where
 rep:Rep W ah af h'
 agree:∀ l,l<J.n->ah l=ρ l
 n:J.n<=af.n
 dom:∀ l o,af.get l=some o->(∃ be,J.get l=some be)\/h.objs.size<=ah l
 kept:Kept W F X ρ J h h'
theorem Stp.refl (R:Rep W ρ J h):Stp W F X ρ J h ρ J h:=
 ⟨R,fun _ _=>rfl,Nat.le_refl _,fun _ o e=>.inl ⟨o,e⟩,⟨Nat.le_refl _,fun _ o e _ _ _=>⟨o,e,.inl rfl⟩⟩⟩
theorem Stp.untrk (R:Rep W ρ J h) (s:Stp W F X ρ J h ah af h') {b:Addr} {o:Obj} (e:h.get? b=some o) (u:¬ Trk ρ J b):¬ Trk ah af b:=by
 rintro⟨l,x,hx,rfl⟩
 rcases s.dom l x hx with ⟨be,h0⟩|hs
 ·exact u ⟨l,be,h0,(s.agree l (R.bd _ _ h0)).symm⟩
 ·exact absurd (Heap.lt_size e) (Nat.not_lt.mpr hs)
theorem Stp.under2 {X1 F':Addr->Prop} (R:Rep W ρ J h) (s:Stp W F X1 ρ J h am ad ai) (t:Stp W F' X am ad ai aw aq ar) (hx:∀ b,X b->h.get? b=none\/X1 b) (hf:∀ b,F' b->h.get? b=none\/F b):Stp W F X1 ρ J h aw aq ar:=by
 refine⟨t.rep,fun l hl=>(t.agree l (Nat.lt_of_lt_of_le hl s.n)).trans (s.agree l hl),Nat.le_trans s.n t.n,fun l o e=>?_,⟨Nat.le_trans s.kept.size t.kept.size,fun b o e u p x=>?_⟩⟩
 ·rcases t.dom l o e with ⟨bt,aR⟩|hs
  ·rcases s.dom l bt aR with q|hs
   ·exact .inl q
   ·exact .inr (by rw[t.agree l (s.rep.bd _ _ aR)];exact hs)
  ·exact .inr (Nat.le_trans s.kept.size hs)
 ·have no:¬ h.get? b=none:=fun z=>by rw[z] at e;cases e
  obtain⟨bt,aR,bK⟩:=s.kept.keep b o e u p x
  obtain⟨bQ,aU,bL⟩:=t.kept.keep b bt aR (s.untrk R e u) p fun q=>(hx b q).elim no x
  refine⟨bQ,aU,?_⟩
  rcases bL with rfl|⟨f',d',c'⟩
  ·exact bK
  ·refine .inr ⟨(hf b f').resolve_left no,?_⟩
   rcases bK with rfl|⟨_,d,c⟩
   ·exact⟨d',c'⟩
   ·exact⟨d'.trans d,c'.trans c⟩
theorem Stp.trans (R:Rep W ρ J h) (s:Stp W F X ρ J h am ad ai) (t:Stp W F X am ad ai aw aq ar):Stp W F X ρ J h aw aq ar:=s.under2 R t (fun _ z=>.inr z) fun _ z=>.inr z
theorem Stp.weak {F' X':Addr->Prop} (s:Stp W F X ρ J h ah af h') (hF:∀ b,F b->F' b) (hX:∀ b,X b->X' b):Stp W F' X' ρ J h ah af h':=
 ⟨s.rep,s.agree,s.n,s.dom,⟨s.kept.size,fun b o e u p x=>by
  obtain⟨o',e',c⟩:=s.kept.keep b o e u p fun q=>x (hX b q)
  exact⟨o',e',c.imp id fun ⟨f,q⟩=>⟨hF b f,q⟩⟩⟩⟩
theorem Rep.other (R:Rep W ρ J h) (k:∀ b,Trk ρ J b->h'.get? b=h.get? b) (kb:∀ b o,W.h₀.get? b=some o->h'.get? b=some o) (kt:TabOK W h') (kc:∀ cd q,h.CodeRec cd q->h'.CodeRec cd q):Rep W ρ J h':=
 ⟨fun l o e=>(R.obj l o e).change (fun _ _=>rfl) (Nat.le_refl _) rfl (k _ ⟨l,o,e,rfl⟩) (fun C fs q=>⟨rfl,k _ ⟨l+1,_,R.dic l C fs (q▸e),rfl⟩⟩) kc,R.inj,R.new,R.bd,kb,R.pt,kt,R.dic,R.ptn⟩
theorem Rep.grow (R:Rep W ρ J h) (kp:∀ b o,h.get? b=some o->h'.get? b=some o):Rep W ρ J h':=
 R.other (fun b t=>by
   obtain⟨l,o,e,rfl⟩:=t
   obtain⟨y,hy⟩:=(R.obj l o e).at
   rw[hy];exact kp _ _ hy)
  (fun b o e=>kp b o (R.keep b o e)) (R.tab.keep (fun _ e=>kp _ _ e) fun _ _ c=>c.keeps kp) fun _ _ c=>c.keeps kp
theorem Stp.grow (R:Rep W ρ J h) (hz:h.objs.size<=h'.objs.size) (kp:∀ b o,h.get? b=some o->h'.get? b=some o):Stp W F X ρ J h ρ J h':=
 ⟨R.grow kp,fun _ _=>rfl,Nat.le_refl _,fun l o e=>.inl ⟨o,e⟩,⟨hz,fun b o e _ _ _=>⟨o,kp _ _ e,.inl rfl⟩⟩⟩
noncomputable def rhoAt (ρ:Nat->Addr) (n:Nat) (a:Addr):Nat->Addr:=fun l=>if l=n then a else ρ l
theorem rhoAt_lt {a:Addr} (h:l<n):rhoAt ρ n a l=ρ l:=if_neg (Nat.ne_of_lt h)
theorem rhoAt_self {a:Addr}:rhoAt ρ n a n=a:=if_pos rfl
theorem VR.alloc {a:Addr}:VR (rhoAt ρ J.n a) (J.add o).n (.ref J.n) (.ref a):=by
 have:=VR.ref (ρ:=rhoAt ρ J.n a) (n:=J.n+1) J.n (Nat.lt_succ_self _)
 rwa [rhoAt_self] at this
theorem VRs.next {vs:List V} {xs:List Value} {a:Addr} (h:VRs ρ J.n vs xs):VRs (rhoAt ρ J.n a) (J.n+1) vs xs:=h.mono (fun _ q=>rhoAt_lt q) (Nat.le_succ _)
structure Off (W:Wd) (ρ:Nat->Addr) (J:Store) (a:Addr):Prop where
 trk:¬ Trk ρ J a
 base:W.h₀.get? a=none
 pt:a≠W.PT
theorem Off.step (R:Rep W ρ J h) (s:Stp W F X ρ J h ah af h') {a:Addr} {o:Obj} (O:Off W ρ J a) (e:h.get? a=some o):Off W ah af a:=⟨s.untrk R e O.trk,O.base,O.pt⟩
theorem Rep.follow (R:Rep W ρ J h) {a:Addr} {x:Obj} (hx:h.get? a=some x) (U:Off W ρ J a) (p:Phys W (rhoAt ρ J.n a) (J.n+1) h J.n o) (hi:∀ C fs,o≠.inst C fs):Rep W (rhoAt ρ J.n a) (J.add o) h:=by
 have old:∀ l q,J.get l=some q->rhoAt ρ J.n a l=ρ l:=fun l q e=>rhoAt_lt (R.bd l q e)
 have trk:∀ b,Trk (rhoAt ρ J.n a) (J.add o) b->b=a\/Trk ρ J b:=fun b ⟨l,q,e,z⟩=>add_el e (fun c _=>.inl (by rw[<-z,c];exact rhoAt_self)) fun e _=>.inr ⟨l,q,e,(old l q e).symm.trans z⟩
 refine⟨fun l q e=>?_,fun l l' q q' e e' z=>?_,fun b t=>?_,fun l q e=>?_,R.keep,fun t=>?_,R.tab,fun l C fs e=>?_,R.ptn⟩
 ·exact add_el e (fun c1 c2=>by rw[c1,c2];exact p) fun e _=>(R.obj l q e).change (fun j hj=>rhoAt_lt hj) (Nat.le_succ _) (old l q e) rfl (fun C fs q'=>⟨old _ _ (R.dic l C fs (q'▸e)),rfl⟩) fun _ _ c=>c
 ·refine add_el e (fun c1 _=>add_el e' (fun c2 _=>c1.trans c2.symm) fun g' _=>?_) fun g _=>add_el e' (fun c2 _=>?_) fun g' _=>?_
  ·rw[c1,rhoAt_self,old _ _ g'] at z;exact absurd ⟨l',q',g',z.symm⟩ U.trk
  ·rw[c2,rhoAt_self,old _ _ g] at z;exact absurd ⟨l,q,g,z⟩ U.trk
  ·rw[old _ _ g,old _ _ g'] at z;exact R.inj _ _ _ _ g g' z
 ·rcases trk b t with e|t
  ·rw[e];exact U.base
  ·exact R.new b t
 ·exact add_el e (fun c _=>Nat.lt_succ_of_le (Nat.le_of_eq c)) fun e _=>Nat.lt_succ_of_lt (R.bd l q e)
 ·rcases trk _ t with e|t
  ·exact U.pt e.symm
  ·exact R.pt t
 ·exact add_el e (fun _ c=>absurd c.symm (hi C fs)) fun g _=>by rw[Store.get_add,if_neg (Nat.ne_of_lt (R.bd _ _ (R.dic l C fs g)))];exact R.dic l C fs g
theorem Rep.setAt (R:Rep W ρ J h) {be:O} (aO:J.get l=some be) (p:Phys W ρ J.n h' l o) (hs:∀ j q,J.get j=some q->¬ j=l->Phys W ρ J.n h' j q)
  (kb:∀ b x,W.h₀.get? b=some x->h'.get? b=some x) (kt:TabOK W h') (hd:∀ C fs,o=.inst C fs->∃ C' fs',be=.inst C' fs') (hr:be≠.rsv):Rep W ρ (J.set l o) h':=by
 have was:∀ j q,(J.set l o).get j=some q->∃ q',J.get j=some q':=fun j q e=>set_el e (fun c _=>⟨be,c▸aO⟩) fun e _=>⟨q,e⟩
 have trk:∀ b,Trk ρ (J.set l o) b->Trk ρ J b:=fun b ⟨j,q,e,z⟩=>by
  obtain⟨q',e'⟩:=was j q e
  exact⟨j,q',e',z⟩
 refine⟨fun j q e=>?_,fun j j' q q' e e' z=>?_,fun b t=>R.new b (trk b t),fun j q e=>?_,kb,fun t=>R.pt (trk _ t),kt,fun j C fs e=>?_,R.ptn⟩
 ·exact set_el e (fun c1 c2=>by rw[c1,c2];exact p) fun e hl=>hs j q e hl
 ·obtain⟨_,a⟩:=was j q e
  obtain⟨_,b⟩:=was j' q' e'
  exact R.inj _ _ _ _ a b z
 ·obtain⟨_,a⟩:=was j q e
  exact R.bd _ _ a
 ·have d:J.get (j+1)=some .rsv:=set_el e (fun c1 c2=>by
   obtain⟨C',fs',z⟩:=hd C fs c2.symm
   rw[z] at aO;rw[c1];exact R.dic _ _ _ aO) fun g _=>R.dic j C fs g
  rw[Store.get_set]
  by_cases z:j+1=l
  ·rw[z,aO] at d;exact absurd (Option.some.inj d) hr
  ·rw[if_neg z];exact d
theorem sb_kb {a:Addr} (hs:Heap.SameBut a h h') (nb:W.h₀.get? a=none) (R:∀ b x,W.h₀.get? b=some x->h.get? b=some x):∀ b x,W.h₀.get? b=some x->h'.get? b=some x:=
 fun b x e=>(hs.2 b fun z=>by rw[z,nb] at e;cases e).trans (R b x e)
theorem sb_tab {a:Addr} (hs:Heap.SameBut a h h') (np:a≠W.PT) (T:TabOK W h) (hk:∀ cd q,h.CodeRec cd q->h'.CodeRec cd q):TabOK W h':=T.keep (fun _ e=>(hs.2 _ (Ne.symm np)).trans e) hk
theorem Stp.setAt (R:Rep W ρ J h) {be:O} (aO:J.get l=some be) {a:Addr} (ta:Trk ρ J a) (hs:Heap.SameBut a h h') (p:Rep W ρ (J.set l o) h'):Stp W F X ρ J h ρ (J.set l o) h':=
 ⟨p,fun _ _=>rfl,Nat.le_refl _,fun j q e=>.inl (set_el e (fun c _=>⟨be,c▸aO⟩) fun e _=>⟨q,e⟩),⟨Nat.le_of_eq hs.1.symm,fun b x e u _ _=>⟨x,(hs.2 b fun z=>u (z▸ta)).trans e,.inl rfl⟩⟩⟩
theorem Stp.setObj (R:Rep W ρ J h) {be:O} (aO:J.get l=some be) (hs:Heap.SameBut (ρ l) h h') (p:Phys W ρ J.n h' l o) (hd:∀ C fs,be≠.inst C fs) (hd2:∀ C fs,o≠.inst C fs) (hr:be≠.rsv) (hk:∀ cd q,h.CodeRec cd q->h'.CodeRec cd q):Stp W F X ρ J h ρ (J.set l o) h':=by
 have t:=R.trk aO
 refine Stp.setAt R aO t hs (R.setAt aO p (fun j q e hl=>(R.obj j q e).change (fun _ _=>rfl) (Nat.le_refl _) rfl (hs.2 _ fun z=>hl (R.inj _ _ _ _ e aO z)) (fun C fs hq=>⟨rfl,hs.2 _ fun z=>?_⟩) hk) (sb_kb hs (R.new _ t) R.keep) (sb_tab hs (fun z=>R.pt (z▸t)) R.tab hk) (fun C fs z=>absurd z (hd2 C fs)) hr)
 have d:=R.dic j C fs (hq▸e)
 have:=R.inj _ _ _ _ d aO z
 rw[this,aO] at d
 exact hr (Option.some.inj d)
theorem Stp.setInst (R:Rep W ρ J h) {C:Nat} {gs gs':List (Nat×V)} (aO:J.get l=some (.inst C gs)) (hs:Heap.SameBut (ρ (l+1)) h h') (hk:∀ cd q,h.CodeRec cd q->h'.CodeRec cd q)
  (p:h'.get? (ρ l)=h.get? (ρ l)->PI W ρ J.n h' (ρ l) (ρ (l+1)) C gs'):Stp W F X ρ J h ρ (J.set l (.inst C gs')) h':=by
 have hr:=R.dic l C gs aO
 have t:=R.trk hr
 have nl:¬ l=l+1:=Nat.ne_of_lt (Nat.lt_succ_self l)
 refine Stp.setAt R aO t hs (R.setAt aO (p (hs.2 _ fun z=>nl (R.inj _ _ _ _ aO hr z))) (fun j q e hl=>?_) (sb_kb hs (R.new _ t) R.keep) (sb_tab hs (fun z=>R.pt (z▸t)) R.tab hk) (fun _ _ _=>⟨C,gs,rfl⟩) fun z=>nomatch z)
 by_cases hj:j=l+1
 ·rw[hj,hr] at e
  rw[hj,<-Option.some.inj e]
  obtain⟨o',a⟩:=(p (hs.2 _ fun z=>nl (R.inj _ _ _ _ aO hr z)))
  exact⟨_,by assumption⟩
 ·exact(R.obj j q e).change (fun _ _=>rfl) (Nat.le_refl _) rfl (hs.2 _ fun z=>hj (R.inj _ _ _ _ e hr z)) (fun C' fs' hq=>⟨rfl,hs.2 _ fun z=>hl (Nat.succ.inj (R.inj _ _ _ _ (R.dic j C' fs' (hq▸e)) hr z))⟩) hk
theorem Rep.offSet (R:Rep W ρ J h) {a:Addr} (U:Off W ρ J a) (hs:Heap.SameBut a h h') (hk:∀ cd q,h.CodeRec cd q->h'.CodeRec cd q):Rep W ρ J h':=
 R.other (fun b t=>hs.2 b fun z=>U.trk (z▸t)) (sb_kb hs U.base R.keep) (sb_tab hs U.pt R.tab hk) hk
theorem Rep.fresh (R:Rep W ρ J h):Off W ρ J h.objs.size:=by
 refine⟨fun t=>Nat.lt_irrefl _ (R.lt t),?_,fun e=>?_⟩
 ·induction q:W.h₀.get? h.objs.size using Option.casesOn with
  | none=>rfl
  | some o=>exact absurd (Heap.lt_size (R.keep _ _ q)) (Nat.lt_irrefl _)
 ·rcases R.tab with ⟨vs,q,_⟩
  exact Nat.lt_irrefl _ (e▸Heap.lt_size q)
theorem Rep.push (R:Rep W ρ J h) (x:Obj):Rep W ρ J (h.push x):=R.grow fun _ _ e=>Heap.get?_push_of_some _ e
theorem size_le (h:Heap) (x:Obj):h.objs.size<=(h.push x).objs.size:=by rw[Heap.size_push];exact Nat.le_succ _
theorem Stp.push (R:Rep W ρ J h) (x:Obj):Stp W F X ρ J h ρ J (h.push x):=Stp.grow R (size_le h x) fun _ _ e=>Heap.get?_push_of_some _ e
theorem Stp.followAt (st:Stp W F X ρ J h am ad ai) {D:Addr} {x:Obj} (hx:ai.get? D=some x) (U:Off W am ad D) (hD:h.objs.size<=D) (p:Phys W (rhoAt am ad.n D) (ad.n+1) ai ad.n o) (hi:∀ C fs,o≠.inst C fs) :
  Stp W F X ρ J h (rhoAt am ad.n D) (ad.add o) ai:=by
 refine⟨st.rep.follow hx U p hi,fun l hl=>(rhoAt_lt (Nat.lt_of_lt_of_le hl st.n)).trans (st.agree l hl),Nat.le_trans st.n (Nat.le_succ _),fun l q e=>add_el e (fun c _=>.inr (by rw[c,rhoAt_self];exact hD)) fun e _=>?_,st.kept⟩
 exact(st.dom l q e).imp id fun z=>by rw[rhoAt_lt (st.rep.bd _ _ e)];exact z
theorem Stp.made (R:Rep W ρ J h) (kp:∀ b o,h.get? b=some o->h'.get? b=some o) (p:Phys W (rhoAt ρ J.n h.objs.size) (J.n+1) h' J.n o) (hi:∀ C fs,o≠.inst C fs):Stp W F X ρ J h (rhoAt ρ J.n h.objs.size) (J.add o) h':=by
 obtain⟨x,hx⟩:=p.at
 rw[rhoAt_self] at hx
 exact(Stp.grow R (Nat.le_of_lt (Heap.lt_size hx)) kp).followAt hx R.fresh (Nat.le_refl _) p hi
theorem Stp.alloc (R:Rep W ρ J h) {x:Obj} (p:Phys W (rhoAt ρ J.n h.objs.size) (J.n+1) (h.push x) J.n o) (hi:∀ C fs,o≠.inst C fs):Stp W F X ρ J h (rhoAt ρ J.n h.objs.size) (J.add o) (h.push x):=Stp.made R (fun _ _ e=>Heap.get?_push_of_some _ e) p hi
theorem codeRec_sameBut {a:Addr} {oa:Obj} (hs:Heap.SameBut a h h') (ha:h.get? a=some oa) (hna:∀ vs,oa.data≠.fields vs):∀ cd q,h.CodeRec cd q->h'.CodeRec cd q:=
 fun cd q x=>x.keepsBut (fun b o hb e=>(hs.2 b hb).trans e) ha hna
end
end

section
open PySem PySem.W PySem.Calls PyProof.Rows
noncomputable abbrev noX:Addr->Prop:=fun _=>False
noncomputable abbrev isL (env:Env):Addr->Prop:=fun b=>b=env.locals
noncomputable abbrev hiX (lo:Nat):Addr->Prop:=fun b=>lo<=b
inductive EnvNs (W:Wd) (ρ:Nat->Addr) (n:Nat) (m:M) (L:Addr) (h:Heap):Prop
 |mk (mm:Str->Option Value) (ns:h.Ns L mm) (at_:∀ x v,lk m x=some v->∃ pv,mm (W.nm x)=some pv/\VR ρ n v pv)
noncomputable def CsR (W:Wd) (ρ:Nat->Addr) (n:Nat) (cs:List (Nat×Nat)) (cells:List (Str×Addr)):Prop:=∀ x a,lk cs x=some a->a<n/\cells.lookup (W.nm x)=some (ρ a)
structure EnvR (W:Wd) (ρ:Nat->Addr) (n:Nat) (c:Cx) (m:M) (env:Env) (h:Heap):Prop where
 kind:env.scope.kind=.function
 kd:∀ x,env.kindOf (W.nm x)=lk c.kd x
 glob:env.globals=mainGlobals
 bi:env.builtins=builtinsNs
 cs:CsR W ρ n c.cs env.cells
 code:lk c.kd W.P.wk=some .cell->env.code=.ref W.PC/\env.qual=W.wq
 ns:EnvNs W ρ n m env.locals h
noncomputable def isDict (o:Obj):Prop:=∃ es ep,o.data=.dict es ep
noncomputable def Fr (A:Around) (e:Env):Prop:=∃ fs,A.frames=some fs/\e∈fs
noncomputable def FrAt (A:Around) (b:Addr):Prop:=∃ e,Fr A e/\e.frame=some b
inductive FrOk (W:Wd) (ρ:Nat->Addr) (J:Store) (h:Heap) (e:Env):Prop
 |mk (k:e.scope.kind=.function) (L:Addr) (o:Obj) (hL:e.frame=some L) (ho:h.get? L=some o) (d:isDict o) (O:Off W ρ J L)
noncomputable def Frames (W:Wd) (A:Around) (ρ:Nat->Addr) (J:Store) (h:Heap):Prop:=∀ e,Fr A e->FrOk W ρ J h e
structure Held (W:Wd) (A:Around) (ρ:Nat->Addr) (J:Store) (e:Addr) (h:Heap):Prop where
 at_:∃ o vs,h.get? e=some o/\o.data=.fields vs/\vs[2]?=some .none
 off:Off W ρ J e
 nf:¬ FrAt A e
inductive TbAt (W:Wd) (A:Around) (ρ:Nat->Addr) (J:Store) (lo:Nat) (e:Addr) (h:Heap) (t:Addr):Prop
 |mk (ot:Obj) (tvs:Array Value) (L:Addr) (p1:h.get? t=some ot) (p2:ot.data=.fields tvs) (p3:4<=tvs.size) (p4:tvs[1]?=some (.ref L)) (ne:t≠e) (off:Off W ρ J t) (nf:¬ FrAt A t) (lo:lo<=t)
inductive FlyAt (W:Wd) (A:Around) (ρ:Nat->Addr) (J:Store) (lo:Nat) (e:Addr) (h:Heap):Prop
 |mk (o:Obj) (vs:Array Value) (he:h.get? e=some o) (hc:o.cls=.ref W.P.cf) (hd:o.data=.fields vs) (hz:6<=vs.size) (h2:vs[2]?=some .none) (ht:vs[1]?=some .none\/∃ t,vs[1]?=some (.ref t)/\TbAt W A ρ J lo e h t)
structure Fly (W:Wd) (A:Around) (ρ:Nat->Addr) (J:Store) (lo:Nat) (e:Addr) (h:Heap):Prop where
 at_:FlyAt W A ρ J lo e h
 off:Off W ρ J e
 nf:¬ FrAt A e
 lo:lo<=e
noncomputable def HdOk (W:Wd) (A:Around) (hd:Bool) (ρ:Nat->Addr) (J:Store) (h:Heap):Prop:=(A.handled=none)\/(hd=true/\∃ e,A.handled=some (.ref e)/\Held W A ρ J e h)
structure Cst (W:Wd) (k:Nat) (hd:Bool) (A:Around) (ρ:Nat->Addr) (J:Store) (h:Heap):Prop where
 rep:Rep W ρ J h
 fr:Frames W A ρ J h
 ne:∃ aO rest,A.frames=some (aO::rest)
 dep:A.depth+4*k<=990
 uni:A.units+30*k<=9000
 hd:HdOk W A hd ρ J h
structure Stt (W:Wd) (c:Cx) (m:M) (env:Env) (A:Around) (ρ:Nat->Addr) (J:Store) (h:Heap):Prop where
 cst:Cst W c.k c.hd A ρ J h
 er:EnvR W ρ J.n c m env h
 loc:Off W ρ J env.locals
 top:∃ aO rest,A.frames=some (aO::rest)/\env.frame=aO.frame
noncomputable abbrev Sx (W:Wd) (A:Around):(Nat->Addr)->Store->Heap->(Nat->Addr)->Store->Heap->Prop:=Stp W (FrAt A) noX
section
variable {W:Wd} {F X:Addr->Prop} {A:Around} {ρ ah:Nat->Addr} {J af:Store} {h h':Heap} {c:Cx} {m m':M} {env:Env} {e:Addr} {k:Nat} {hd:Bool}
theorem Stt.rep (S:Stt W c m env A ρ J h):Rep W ρ J h:=S.cst.rep
theorem Ns.isd {L:Addr} {mm:Str->Option Value} (N:h.Ns L mm):∃ o,h.get? L=some o/\isDict o:=by
 obtain⟨o,es,ep,ho,hd,_⟩:=N
 exact⟨o,ho,es,ep,hd⟩
theorem EnvR.isd {n:Nat} (E:EnvR W ρ n c m env h):∃ o,h.get? env.locals=some o/\isDict o:=by
 rcases E.ns with ⟨mm,N,_⟩
 exact Ns.isd N
theorem Stp.keptX (s:Stp W F X ρ J h ah af h') {b:Addr} {o:Obj} (e:h.get? b=some o) (U:Off W ρ J b) (x:¬ X b) (f:¬ F b):h'.get? b=some o:=by
 obtain⟨o',e',q⟩:=s.kept.keep b o e U.trk U.pt x
 rcases q with rfl|⟨z,_⟩
 ·exact e'
 ·exact absurd z f
theorem Ns.step (R:Rep W ρ J h) (s:Stp W F X ρ J h ah af h') {a:Addr} {mm:Str->Option Value} (U:Off W ρ J a) (x:¬ X a) (N:h.Ns a mm):h'.Ns a mm:=by
 obtain⟨o,es,ep,ho,hd,q⟩:=N
 obtain⟨o',ho',c⟩:=s.kept.keep a o ho U.trk U.pt x
 refine⟨o',es,ep,ho',?_,q⟩
 rcases c with rfl|⟨_,d,_⟩
 ·exact hd
 ·exact d.trans hd
theorem CsR.mono {n n':Nat} {cs:List (Nat×Nat)} {cells:List (Str×Addr)} (H:CsR W ρ n cs cells) (a:∀ l,l<n->ah l=ρ l) (hn:n<=n'):CsR W ah n' cs cells:=
 fun x b e=>⟨Nat.lt_of_lt_of_le (H x b e).1 hn,by rw[a b (H x b e).1];exact(H x b e).2⟩
theorem EnvR.step (R:Rep W ρ J h) (s:Stp W F X ρ J h ah af h') (E:EnvR W ρ J.n c m env h) (U:Off W ρ J env.locals) (x:¬ X env.locals):EnvR W ah af.n c m env h':=by
 rcases E.ns with ⟨mm,N,q⟩
 refine⟨E.kind,E.kd,E.glob,E.bi,E.cs.mono s.agree s.n,E.code,mm,Ns.step R s U x N,fun x v e=>?_⟩
 obtain⟨pv,a,b⟩:=q x v e
 exact⟨pv,a,b.mono s.agree s.n⟩
theorem Frames.step (R:Rep W ρ J h) (s:Stp W F X ρ J h ah af h') (G:Frames W A ρ J h) (x:∀ b,FrAt A b->X b->∃ o',h'.get? b=some o'/\isDict o'):Frames W A ah af h':=by
 intro e he
 rcases G e he with ⟨k,L,o,f,ho,d,O⟩
 by_cases hx:X L
 ·obtain⟨o',ho',d'⟩:=x L ⟨e,he,f⟩ hx
  exact⟨k,L,o',f,ho',d',O.step R s ho⟩
 ·obtain⟨o',ho',q⟩:=s.kept.keep L o ho O.trk O.pt hx
  refine⟨k,L,o',f,ho',?_,O.step R s ho⟩
  rcases q with rfl|⟨_,dd,_⟩
  ·exact d
  ·exact d.imp fun _ q=>q.imp fun _ q=>dd.trans q
theorem Held.step (R:Rep W ρ J h) (s:Stp W (FrAt A) X ρ J h ah af h') (H:Held W A ρ J e h) (x:¬ X e):Held W A ah af e h':=by
 obtain⟨o,vs,ho,q⟩:=H.at_
 exact⟨⟨o,vs,s.keptX ho H.off x H.nf,q⟩,H.off.step R s ho,H.nf⟩
theorem HdOk.step (R:Rep W ρ J h) (s:Stp W (FrAt A) X ρ J h ah af h') (H:HdOk W A hd ρ J h) (x:∀ e,A.handled=some (.ref e)->¬ X e):HdOk W A hd ah af h':=H.imp id fun ⟨a,e,b,q⟩=>⟨a,e,b,q.step R s (x e b)⟩
theorem HdOk.ne (H:HdOk W A hd ρ J h) {a:Addr} (ha:∀ o vs,h.get? a=some o->o.data=.fields vs->False):∀ e,A.handled=some (.ref e)->e≠a:=fun e q z=>by
 rcases H with x|⟨_,e',x,H⟩
 ·rw[x] at q;cases q
 ·rw[q] at x
  obtain⟨o,vs,ho,hd,_⟩:=H.at_
  rw[<-Value.ref.inj (Option.some.inj x),z] at ho
  exact ha o vs ho hd
theorem HdOk.new (H:HdOk W A hd ρ J h) {a:Addr} (ha:h.get? a=none):∀ e,A.handled=some (.ref e)->e≠a:=H.ne fun _ _ e _=>by rw[ha] at e;cases e
theorem HdOk.dict (H:HdOk W A hd ρ J h) {a:Addr} {o:Obj} (ha:h.get? a=some o) (hd:isDict o):∀ e,A.handled=some (.ref e)->e≠a:=H.ne fun o' vs e q=>by
 obtain⟨es,ep,d⟩:=hd
 rw[ha] at e
 rw[<-Option.some.inj e,d] at q
 cases q
theorem FlyAt.low {lo lo':Nat} (f:FlyAt W A ρ J lo e h) (l:lo'<=lo):FlyAt W A ρ J lo' e h:=by
 rcases f with ⟨o,vs,a,b,d,z,h2,t⟩
 exact⟨o,vs,a,b,d,z,h2,t.imp id fun ⟨t,q1,ot,tvs,L,p1,p2,p3,p4,p5,p6,p7,p8⟩=>⟨t,q1,ot,tvs,L,p1,p2,p3,p4,p5,p6,p7,Nat.le_trans l p8⟩⟩
theorem Fly.low {lo lo':Nat} (f:Fly W A ρ J lo e h) (l:lo'<=lo):Fly W A ρ J lo' e h:=⟨f.at_.low l,f.off,f.nf,Nat.le_trans l f.lo⟩
theorem Cst.step (S:Cst W k hd A ρ J h) (s:Sx W A ρ J h ah af h'):Cst W k hd A ah af h':=⟨s.rep,S.fr.step S.rep s fun _ _ q=>q.elim,S.ne,S.dep,S.uni,S.hd.step S.rep s fun _ _ q=>q⟩
theorem Cst.hd0 (S:Cst W k hd A ρ J h) (e:hd=false):A.handled=none:=S.hd.elim id fun q=>by rw[q.1] at e;cases e
theorem Stt.step (S:Stt W c m env A ρ J h) (s:Sx W A ρ J h ah af h'):Stt W c m env A ah af h':=by
 obtain⟨o,ho,_⟩:=S.er.isd
 exact⟨S.cst.step s,S.er.step S.rep s S.loc fun q=>q,S.loc.step S.rep s ho,S.top⟩
theorem Stt.stepL (S:Stt W c m env A ρ J h) (s:Stp W (FrAt A) (isL env) ρ J h ah af h') (E:EnvR W ah af.n c m' env h'):Stt W c m' env A ah af h':=by
 obtain⟨o,ho,hd⟩:=S.er.isd
 exact⟨⟨s.rep,S.cst.fr.step S.rep s fun b _ hb=>hb▸E.isd,S.cst.ne,S.cst.dep,S.cst.uni,S.cst.hd.step S.rep s (S.cst.hd.dict ho hd)⟩,E,S.loc.step S.rep s ho,S.top⟩
theorem Stp.toL (s:Sx W A ρ J h ah af h'):Stp W (FrAt A) (isL env) ρ J h ah af h':=s.weak (fun _ q=>q) fun _ q=>q.elim
theorem Cst.room (S:Cst W k hd A ρ J h):A.units+10<cLine:=by have:=S.uni;unfold cLine;omega
theorem get?_size' (h:Heap) {b:Addr} (hb:h.objs.size<=b):h.get? b=none:=by
 induction q:h.get? b using Option.casesOn with
 | none=>rfl
 | some o=>exact absurd (Heap.lt_size q) (Nat.not_lt.mpr hb)
end
noncomputable abbrev Shared.at_ (s:Shared) (h:Heap) (tk:Nat):Shared:=⟨h,s.gens,s.drawn,tk,s.os⟩
noncomputable def RP {α β:Type} (W:Wd) (A:Around) (rel:(Nat->Addr)->Nat->β->α->Prop) (r:R β) (ρ:Nat->Addr) (J:Store) (s:Shared) (Q:α->Shared->Prop) (Ex:Value->Shared->Prop):Prop:=
 @R.rec β (fun _=>Prop) False (fun b af=>∀ ah h' tk a,Sx W A ρ J s.heap ah af h'->rel ah af.n b a->Q a (Shared.at_ s h' tk)) (fun af=>∀ ah h' tk e,Sx W A ρ J s.heap ah af h'->Fly W A ah af s.heap.objs.size e h'->Ex (.ref e) (Shared.at_ s h' tk)) r
noncomputable def WP {α β:Type} (W:Wd) (A:Around) (t:Sem α) (rel:(Nat->Addr)->Nat->β->α->Prop) (r:R β) (ρ:Nat->Addr) (J:Store) (s:Shared):Prop:=∀ Q Ex,RP W A rel r ρ J s Q Ex->wpAny W.M A t Q Ex s
noncomputable def WC (W:Wd) (A:Around) (c:Code) (r:R V) (ρ:Nat->Addr) (J:Store) (s:Shared):Prop:=∀ T:Result->Shared->Prop,RP W A VR r ρ J s (fun v=>T (.ok (.ret v))) (fun e=>T (.error e))->codeAny W.M A c T s
inductive XS (W:Wd) (A:Around) (c:Cx) (env:Env) (ρ:Nat->Addr) (J:Store) (h:Heap) (m:M) (ah:Nat->Addr) (af:Store) (h':Heap):Prop
 |mk (st:Stp W (FrAt A) (isL env) ρ J h ah af h') (er:EnvR W ah af.n c m env h')
noncomputable def XP (W:Wd) (A:Around) (c:Cx) (env:Env) (x:X) (ρ:Nat->Addr) (J:Store) (s:Shared) (Q:Flow->Shared->Prop) (Ex:Value->Shared->Prop):Prop:=
 @X.rec (fun _=>Prop) False (fun m af=>∀ ah h' tk,XS W A c env ρ J s.heap m ah af h'->Q .next (Shared.at_ s h' tk)) (fun m af=>∀ ah h' tk,XS W A c env ρ J s.heap m ah af h'->Q .cont (Shared.at_ s h' tk))
  (fun v m af=>∀ ah h' tk pv,XS W A c env ρ J s.heap m ah af h'->VR ah af.n v pv->Q (.ret pv) (Shared.at_ s h' tk)) (fun m af=>∀ ah h' tk e,XS W A c env ρ J s.heap m ah af h'->Fly W A ah af s.heap.objs.size e h'->Ex (.ref e) (Shared.at_ s h' tk)) x
noncomputable def WX (W:Wd) (A:Around) (c:Cx) (env:Env) (t:Sem Flow) (x:X) (ρ:Nat->Addr) (J:Store) (s:Shared):Prop:=∀ Q Ex,XP W A c env x ρ J s Q Ex->wpAny W.M A t Q Ex s
section
variable {α β γ δ:Type} {W:Wd} {A:Around} {ρ ah:Nat->Addr} {J af:Store} {s:Shared} {h':Heap} {tk:Nat} {c:Cx} {m m':M} {env:Env} {t t':Sem α} {rel:(Nat->Addr)->Nat->β->α->Prop} {rel':(Nat->Addr)->Nat->δ->γ->Prop} {r:R β} {g:β->Store->R δ} {Q:α->Shared->Prop} {Ex:Value->Shared->Prop}
theorem RP.mono (R:Rep W ρ J s.heap) (st:Sx W A ρ J s.heap ah af h') (k:RP W A rel r ρ J s Q Ex):RP W A rel r ah af (Shared.at_ s h' tk) Q Ex:=by
 induction r using Mine.R.casesOn with
 | bad=>exact k
 | ok b aq=>exact fun aw ar aA a aj ra=>k aw ar aA a (st.trans R aj) ra
 | exc aq=>exact fun aw ar aA e aj fl=>k aw ar aA e (st.trans R aj) (fl.low st.kept.size)
theorem WP.bad:WP W A t rel .bad ρ J s:=fun _ _ k=>k.elim
theorem WP.bind {f:α->Sem γ} (R:Rep W ρ J s.heap) (h1:WP W A t rel r ρ J s) (h2:∀ ah h' tk a b af,Sx W A ρ J s.heap ah af h'->rel ah af.n b a->WP W A (f a) rel' (g b af) ah af (Shared.at_ s h' tk)):WP W A (t >>= f) rel' (bd r g) ρ J s:=by
 intro Q Ex k
 refine wpAny_bind (h1 _ _ ?_)
 induction r using Mine.R.casesOn with
 | bad=>exact k
 | exc af=>exact k
 | ok b af=>exact fun ah h' tk a st ra=>h2 ah h' tk a b af st ra Q Ex (RP.mono R st k)
theorem WP.pure {a:α} {b:β} (R:Rep W ρ J s.heap) (h:rel ρ J.n b a):WP W A (Pure.pure a) rel (.ok b J) ρ J s:=fun _ _ k=>wpAny_pure (k ρ s.heap s.toks a (Stp.refl R) h)
theorem WP.via (v:∀ Q Ex,wpAny W.M A t' Q Ex s->wpAny W.M A t Q Ex s) (h:WP W A t' rel r ρ J s):WP W A t rel r ρ J s:=fun Q Ex k=>v Q Ex (h Q Ex k)
theorem WP.holding {vs:List Value} (h:WP W A t rel r ρ J s):WP W A (holding vs t) rel r ρ J s:=h.via fun _ _ q=>wpAny_holding q
theorem WP.standAt {p:Pos} (h:WP W A t rel r ρ J s):WP W A (do standAt p;t) rel r ρ J s:=h.via fun _ _ q=>wpAny_bind (wpAny_standAt q)
theorem WP.map {f:α->γ} {g:β->δ} (R:Rep W ρ J s.heap) (h1:WP W A t rel r ρ J s) (h2:∀ ah n b a,rel ah n b a->rel' ah n (g b) (f a)):WP W A (t >>= fun a=>Pure.pure (f a)) rel' (bd r fun b J=>.ok (g b) J) ρ J s:=
 WP.bind R h1 fun ah h' tk a b af st ra=>WP.pure st.rep (h2 _ _ _ _ ra)
theorem WP.re {rel2:(Nat->Addr)->Nat->δ->α->Prop} {g:β->δ} (h1:WP W A t rel r ρ J s) (h2:∀ ah n b a,rel ah n b a->rel2 ah n (g b) a):WP W A t rel2 (bd r fun b J=>.ok (g b) J) ρ J s:=fun Q Ex k=>h1 Q Ex (by
 induction r using Mine.R.casesOn with
 | bad=>exact k
 | exc af=>exact k
 | ok b af=>exact fun ah h' tk a st ra=>k ah h' tk a st (h2 _ _ _ _ ra))
theorem WP.ok {b:β} {a:α} (R:Rep W ρ J s.heap) (ra:rel ρ J.n b a) (k:∀ {Q:α->Shared->Prop} {Ex:Value->Shared->Prop},(∀ tk,Q a (Shared.at_ s s.heap tk))->wpAny W.M A t Q Ex s):WP W A t rel (.ok b J) ρ J s:=fun _ _ q=>k fun tk=>q ρ s.heap tk a (Stp.refl R) ra
theorem WP.ifT {b:Bool} (h:b=true->WP W A t rel r ρ J s):WP W A t rel (cn b r .bad) ρ J s:=cn_el (P:=fun z=>WP W A t rel z ρ J s) h fun _=>WP.bad
theorem WP.ifF {b:Bool} (h:b=false->WP W A t rel r ρ J s):WP W A t rel (cn b .bad r) ρ J s:=cn_el (P:=fun z=>WP W A t rel z ρ J s) (fun _=>WP.bad) h
theorem WP.ifte {b:Bool} {r2:R β} (h:b=true->WP W A t rel r ρ J s) (h2:b=false->WP W A t rel r2 ρ J s):WP W A t rel (cn b r r2) ρ J s:=cn_el (P:=fun z=>WP W A t rel z ρ J s) h h2
theorem WP.so {o:Option γ} {f:γ->R β} (h:∀ a,o=some a->WP W A t rel (f a) ρ J s):WP W A t rel (oc o .bad f) ρ J s:=by
 induction o using Option.casesOn with
 | none=>exact WP.bad
 | some a=>exact h a rfl
theorem WX.bad {t:Sem Flow}:WX W A c env t .bad ρ J s:=fun _ _ k=>k.elim
theorem WX.via {t t':Sem Flow} {x:X} (v:∀ Q Ex,wpAny W.M A t' Q Ex s->wpAny W.M A t Q Ex s) (h:WX W A c env t' x ρ J s):WX W A c env t x ρ J s:=fun Q Ex k=>v Q Ex (h Q Ex k)
theorem WX.standAt {p:Pos} {t:Sem Flow} {x:X} (h:WX W A c env t x ρ J s):WX W A c env (do standAt p;t) x ρ J s:=h.via fun _ _ q=>wpAny_bind (wpAny_standAt q)
theorem WX.ifT {b:Bool} {t:Sem Flow} {x:X} (h:b=true->WX W A c env t x ρ J s):WX W A c env t (cn b x .bad) ρ J s:=cn_el (P:=fun z=>WX W A c env t z ρ J s) h fun _=>WX.bad
theorem WX.ifF {b:Bool} {t:Sem Flow} {x:X} (h:b=false->WX W A c env t x ρ J s):WX W A c env t (cn b .bad x) ρ J s:=cn_el (P:=fun z=>WX W A c env t z ρ J s) (fun _=>WX.bad) h
theorem WX.so {o:Option γ} {t:Sem Flow} {f:γ->X} (h:∀ a,o=some a->WX W A c env t (f a) ρ J s):WX W A c env t (oc o .bad f) ρ J s:=by
 induction o using Option.casesOn with
 | none=>exact WX.bad
 | some a=>exact h a rfl
theorem XS.trans {h1:Heap} {am:Nat->Addr} {ad:Store} (R:Rep W ρ J s.heap) (st:Stp W (FrAt A) (isL env) ρ J s.heap ah af h') (x:XS W A c env ah af h' m am ad h1):XS W A c env ρ J s.heap m am ad h1:=by
 rcases x with ⟨st',er⟩
 exact⟨st.trans R st',er⟩
theorem XP.mono {x:X} {Q:Flow->Shared->Prop} (R:Rep W ρ J s.heap) (st:Stp W (FrAt A) (isL env) ρ J s.heap ah af h') (k:XP W A c env x ρ J s Q Ex):XP W A c env x ah af (Shared.at_ s h' tk) Q Ex:=by
 induction x using Mine.X.casesOn with
 | bad=>exact k
 | nxt m aq=>exact fun aw ar aA aj=>k aw ar aA (aj.trans R st)
 | cnt m aq=>exact fun aw ar aA aj=>k aw ar aA (aj.trans R st)
 | ret v m aq=>exact fun aw ar aA pv aj=>k aw ar aA pv (aj.trans R st)
 | exc m aq=>exact fun aw ar aA e aj fl=>k aw ar aA e (aj.trans R st) (fl.low st.kept.size)
theorem Stt.xs (S:Stt W c m env A ρ J s.heap) (st:Sx W A ρ J s.heap ah af h'):XS W A c env ρ J s.heap m ah af h':=⟨st.toL,(S.step st).er⟩
theorem WX.bind {f:α->Sem Flow} {g:β->Store->X} (S:Stt W c m env A ρ J s.heap) (h1:WP W A t rel r ρ J s) (h2:∀ ah h' tk a b af,Sx W A ρ J s.heap ah af h'->Stt W c m env A ah af h'->rel ah af.n b a->WX W A c env (f a) (g b af) ah af (Shared.at_ s h' tk)) :
  WX W A c env (t >>= f) (tx m r g) ρ J s:=by
 intro Q Ex k
 refine wpAny_bind (h1 _ _ ?_)
 induction r using Mine.R.casesOn with
 | bad=>exact k
 | exc af=>exact fun ah h' tk e st fl=>k ah h' tk e (S.xs st) fl
 | ok b af=>exact fun ah h' tk a st ra=>h2 ah h' tk a b af st (S.step st) ra Q Ex (XP.mono S.rep st.toL k)
theorem WX.seq {t:Sem Flow} {f:Flow->Sem Flow} {x:X} {g:M->Store->X} (S:Stt W c m env A ρ J s.heap) (h1:WX W A c env t x ρ J s) (hc:f .cont=Pure.pure .cont) (hr:∀ v,f (.ret v)=Pure.pure (.ret v))
  (h2:∀ m' af ah h' tk,Stt W c m' env A ah af h'->WX W A c env (f .next) (g m' af) ah af (Shared.at_ s h' tk)):WX W A c env (t >>= f) (atX x g) ρ J s:=by
 intro Q Ex k
 refine wpAny_bind (h1 _ _ ?_)
 induction x using Mine.X.casesOn with
 | bad=>exact k
 | exc m af=>exact k
 | cnt m af=>exact fun ah h' tk x=>rwl (p:=fun z=>wpAny W.M A z Q Ex _) hc (wpAny_pure (k ah h' tk x))
 | ret v m af=>exact fun ah h' tk pv x hv=>rwl (p:=fun z=>wpAny W.M A z Q Ex _) (hr pv) (wpAny_pure (k ah h' tk pv x hv))
 | nxt m' af=>exact fun ah h' tk ⟨st,er⟩=>h2 m' af ah h' tk (S.stepL st er) Q Ex (XP.mono S.rep st k)
theorem Stt.same (S:Stt W c m env A ρ J s.heap):XS W A c env ρ J s.heap m ρ J s.heap:=⟨Stp.refl S.rep,S.er⟩
end
end

section
open PySem PySem.W PySem.Calls PyProof.Rows
open PySem.Builtin PySem.Builtin.ObjectAttr
inductive OptR (ρ:Nat->Addr) (n:Nat):Option V->Option Value->Prop
 | none:OptR ρ n none none
 | some {v x} (h:VR ρ n v x):OptR ρ n (some v) (some x)
section
variable {ρ:Nat->Addr} {n:Nat} {v:V} {y:Option Value}
theorem OptR.elS {P:Option Value->Prop} (h:OptR ρ n (.some v) y) (k:∀ x,VR ρ n v x->P (.some x)):P y:=by
 cases h with|some h=>exact k _ h
theorem OptR.elN {P:Option Value->Prop} (h:OptR ρ n .none y) (k:P .none):P y:=by
 cases h with|none=>exact k
theorem OptR.cn {b:Bool} {o:Option V} {x:Value} (h:b=true->VR ρ n v x) (k:b=false->OptR ρ n o y):OptR ρ n (cn b (.some v) o) (cn b (.some x) y):=by
 induction b using Bool.casesOn with
 | true=>exact .some (h rfl)
 | false=>exact k rfl
end
noncomputable def putX (name:Str) (e:DictEntry) (l:List DictEntry):List DictEntry:=@List.rec _ (fun _=>List DictEntry) [e] (fun x r ih=>cn (x.key.isStr name) ({x with val:=e.val}::r) (x::ih)) l
theorem putName_list (name:Str) (hash:Int) (key v:Value) (c:Value) (d:Option Addr) (xs:List DictEntry) (n:Nat) (sl:Array (Option Value)) :
  ∃ n',Obj.putName name hash key v ⟨c,d,.dict xs.toArray n,sl⟩=⟨c,d,.dict (putX name ⟨hash,key,v⟩ xs).toArray n',sl⟩:=by
 rw[Obj.putName_eq]
 unfold Obj.putNameByArray
 dsimp only
 rw[List.findIdx?_toArray]
 have key:∀ xs:List DictEntry,(match xs.findIdx? (·.key.isStr name) with|some i=>xs.modify i (fun x=>{x with val:=v})|none=>xs++[⟨hash,key,v⟩])=putX name ⟨hash,key,v⟩ xs:=fun xs=>by
  induction xs with
  | nil=>rfl
  | cons x r ih=>
   rw[List.findIdx?_cons]
   show _=cn (x.key.isStr name) ({x with val:=v}::r) (x::putX name ⟨hash,key,v⟩ r)
   rw[<-ih]
   induction x.key.isStr name using Bool.casesOn with
   | true=>rfl
   | false=>
    show(match (r.findIdx? (·.key.isStr name)).map (·+1) with|some i=>(x::r).modify i (fun x=>{x with val:=v})|none=>(x::r)++[DictEntry.mk hash key v])=_
    induction r.findIdx? (·.key.isStr name) using Option.casesOn with
    | none=>rfl
    | some j=>rfl
 have:=key xs
 revert this
 induction xs.findIdx? (·.key.isStr name) using Option.casesOn with
 | some i=>exact fun z=>⟨n,by rw[<-z];simp only;rw[List.modify_toArray]⟩
 | none=>exact fun z=>⟨n+1,by rw[<-z];simp only;rw[List.push_toArray]⟩
noncomputable abbrev SK (W:Wd):=strKind W.prog W.w
section
variable {P:Params} {ρ:Nat->Addr} {n:Nat} {es:List (List Nat×V)} {xs:List DictEntry}
theorem ER.length (h:ER P ρ n es xs):xs.length=es.length:=by
 induction h with
 | nil=>rfl
 | cons _ _ ih=>exact congrArg (·+1) ih
theorem ER.find (h:ER P ρ n es xs) (s:List Nat):OptR ρ n (lkS es s) ((xs.find? (·.key.isStr (strK s))).map (·.val)):=by
 induction h with
 | nil=>exact .none
 | @cons k v x t es xs hv _ ih=>
  rw[List.find?_cons]
  show OptR ρ n (cn (eqS k s) (some v) (lkS es s)) (((match strK k == strK s with|true=>some (DictEntry.mk _ _ x)|false=>xs.find? (·.key.isStr (strK s))):Option DictEntry).map (·.val))
  rw[strK_beq]
  induction eqS k s using Bool.casesOn with
  | true=>exact .some hv
  | false=>exact ih
theorem ER.put (h:ER P ρ n es xs) (s:List Nat) {v:V} {x:Value} (hv:VR ρ n v x) (t:Tok):ER P ρ n (putS es s v) (putX (strK s) ⟨PyData.keyHash P (strK s),.str (strK s) t,x⟩ xs):=by
 induction h with
 | nil=>exact .cons hv .nil
 | @cons k u y t' es xs hu r ih=>
  show ER P ρ n (cn (eqS k s) ((k,v)::es) ((k,u)::putS es s v)) (cn (strK k == strK s) _ (_::putX (strK s) _ xs))
  rw[strK_beq]
  induction eqS k s using Bool.casesOn with
  | true=>exact .cons hv r
  | false=>exact .cons hu ih
theorem ER.noRef (h:ER P ρ n es xs):xs.any (·.refKey)=false:=by
 induction h with
 | nil=>rfl
 | cons _ _ ih=>exact ih
theorem ER.lookIn (h:ER P ρ n es xs) (s:List Nat) {ep:Nat}:∃ y,lookIn (strK s) (dictOb xs.toArray ep)=some y/\OptR ρ n (lkS es s) y:=by
 refine⟨_,?_,h.find s⟩
 show(match xs.find? (·.key.isStr (strK s)) with|some e=>some (some e.val)|none=>if xs.any (·.refKey) then none else some none)=_
 rw[h.noRef]
 induction xs.find? (·.key.isStr (strK s)) using Option.casesOn with
 | none=>rfl
 | some e=>rfl
inductive KV (ρ:Nat->Addr) (n:Nat):List (List Nat×V)->List (Str×Value)->Prop
 | nil:KV ρ n [] []
 | cons {k:List Nat} {v:V} {x:Value} {es:List (List Nat×V)} {xs:List (Str×Value)} (h:VR ρ n v x) (r:KV ρ n es xs):KV ρ n ((k,v)::es) ((strK k,x)::xs)
theorem KV.length {kvs:List (Str×Value)} (h:KV ρ n es kvs):kvs.length=es.length:=by
 induction h with
 | nil=>rfl
 | cons _ _ ih=>exact congrArg (·+1) ih
theorem KV.keys {kvs:List (Str×Value)} (h:KV ρ n es kvs):kvs.map (·.1)=(es.map (·.1)).map strK:=by
 induction h with
 | nil=>rfl
 | cons _ _ ih=>exact congrArg (_::·) ih
theorem KV.tr {ah:Nat->Addr} {n':Nat} {kvs:List (Str×Value)} (h:KV ρ n es kvs) (T:∀ v x,VR ρ n v x->VR ah n' v x):KV ah n' es kvs:=by
 induction h with
 | nil=>exact .nil
 | cons h _ ih=>exact .cons (T _ _ h) ih
theorem strK_not {k:List Nat} {l:List (List Nat)} (h:¬ k∈l):¬ strK k∈l.map strK:=fun z=>by
 obtain⟨y,hy,e⟩:=List.mem_map.mp z
 exact h (strK_inj e▸hy)
theorem nodup_strK {l:List (List Nat)} (h:l.Nodup):(l.map strK).Nodup:=by
 induction l with
 | nil=>exact List.nodup_nil
 | cons x r ih=>
  have h2:=List.nodup_cons.mp h
  exact List.nodup_cons.mpr ⟨strK_not h2.1,ih h2.2⟩
theorem stored_cons {a k:Str} {y x:Value} {r:List (Str×Value)} (h:¬ a∈r.map (·.1)):stored ((a,y)::r) k x=if a=k then (a,x)::r else (a,y)::stored r k x:=by
 unfold PySem.stored
 rw[List.any_cons]
 by_cases q:a=k
 ·rw[if_pos q,if_pos (by rw[decide_eq_true q];rfl),List.map_cons,if_pos q,map_store_of_not_mem r k x (q▸h)]
 ·rw[if_neg q,decide_eq_false q,Bool.false_or,List.map_cons,if_neg q]
  split<;>rfl
theorem KV.stored {kvs:List (Str×Value)} (h:KV ρ n es kvs) (nd:(es.map (·.1)).Nodup) (k:List Nat) {v:V} {x:Value} (hv:VR ρ n v x):KV ρ n (putS es k v) (stored kvs (strK k) x):=by
 induction h with
 | nil=>exact .cons hv .nil
 | @cons k' v' x' es xs hv' r ih=>
  have nd2:=List.nodup_cons.mp nd
  rw[stored_cons (by rw[r.keys];exact strK_not nd2.1)]
  refine cn_el (x:=(k',v)::es) (y:=(k',v')::putS es k v) (P:=fun z=>KV ρ n z _) (fun q=>?_) fun q=>?_
  ·rw[if_pos (congrArg strK ((eqS_iff _ _).mp q))];exact .cons hv r
  ·rw[if_neg fun z=>by rw[strK_inj z,eqS_self] at q;cases q];exact .cons hv' (ih nd2.2)
theorem KV.at {kvs:List (Str×Value)} (h:KV ρ n es kvs) (k:List Nat):OptR ρ n (lkS es k) (valueAt kvs (strK k)):=by
 induction h with
 | nil=>exact .none
 | @cons k' v' x' es xs hv r ih=>
  have e:valueAt ((strK k',x')::xs) (strK k)=cn (eqS k' k) (some x') (valueAt xs (strK k)):=by
   unfold valueAt
   rw[List.find?_cons]
   by_cases q:k'=k
   ·rw[decide_eq_true (congrArg strK q),q,eqS_self];rfl
   ·rw[decide_eq_false fun z=>q (strK_inj z),eqS_ne q];rfl
  rw[e]
  exact .cn (fun _=>hv) fun _=>ih
end
section
variable {W:Wd} {ρ:Nat->Addr} {n:Nat} {es:List (List Nat×V)} {xs:List DictEntry} {h:Heap}
theorem ER.kv (h:ER W.w.params ρ n es xs):∃ kvs,KV ρ n es kvs/\Pairs (SK W) xs kvs/\∀ e∈xs,∃ k,(SK W).is k e.key=true/\e.hash=(SK W).hash k:=by
 induction h with
 | nil=>exact⟨[],.nil,.nil,fun _ h=>nomatch h⟩
 | cons hv _ ih=>
  obtain⟨kvs,a,b,c⟩:=ih
  refine⟨_,.cons hv a,.cons (strKind_is _ _ _ _) rfl b,fun e he=>?_⟩
  rcases List.mem_cons.mp he with rfl|he
  ·exact⟨_,strKind_is _ _ _ _,rfl⟩
  ·exact c e he
theorem KV.er {kvs:List (Str×Value)} (h:KV ρ n es kvs):∀ {xs:List DictEntry},Pairs (SK W) xs kvs->(∀ e∈xs,∃ k,(SK W).is k e.key=true/\e.hash=(SK W).hash k)->ER W.w.params ρ n es xs:=by
 induction h with
 | nil=>intro xs p c;cases p;exact .nil
 | cons hv _ ih=>
  intro xs p c
  cases p with
  | @cons e _ es' _ k1 k2 p=>
   obtain⟨t,ht⟩:=Value.isStrOf_shape k1
   obtain⟨k,kk,kh⟩:=c e (.head _)
   obtain⟨eh,ek,ev⟩:=e
   rw[(SK W).inj _ _ _ kk k1] at kh
   have ht:ek=_:=ht
   have k2:ev=_:=k2
   have kh:eh=_:=kh
   rw[ht,k2,kh]
   exact .cons hv (ih p fun e he=>c e (.tail _ he))
inductive DicK (W:Wd) (ρ:Nat->Addr) (n:Nat) (h:Heap) (a:Addr) (es:List (List Nat×V)):Prop
 |mk (kvs:List (Str×Value)) (D:h.DictOf (SK W) a kvs) (kv:KV ρ n es kvs) (nd:(es.map (·.1)).Nodup)
theorem PD.dic {a:Addr} (p:PD W.w.params ρ n h a es):DicK W ρ n h a es:=by
 rcases p with ⟨xs,ep,ho,er,nd⟩
 obtain⟨kvs,a,b,c⟩:=er.kv
 exact⟨kvs,⟨_,_,ep,ho,⟨rfl,rfl,rfl⟩,rfl,fun e he=>c e (List.mem_toArray.mp he),b,by rw[a.keys];exact nodup_strK nd⟩,a,nd⟩
theorem DicK.pd {a:Addr} (d:DicK W ρ n h a es):PD W.w.params ρ n h a es:=by
 rcases d with ⟨kvs,⟨⟨cls,dd,data,sl⟩,es',ep,ho,⟨d3,d1,d2⟩,hd,hk,hp,_⟩,k,nd⟩
 have d1:dd=_:=d1
 have d2:sl=_:=d2
 have d3:cls=_:=d3
 have hd:data=_:=hd
 rw[d1,d2,d3,hd] at ho
 exact⟨es'.toList,ep,ho,k.er hp fun e he=>hk e (Array.mem_toList_iff.mp he),nd⟩
end
structure ClOk (W:Wd) (C:Nat) (d:CD):Prop where
 ga:findIn W.K (.ref C) "__getattribute__" = some (some (.builtin "object.__getattribute__"))
 sa:findIn W.K (.ref C) "__setattr__" = some (some (.builtin "object.__setattr__"))
 cls:(clsIn W.K C).any (·.hasDict)=true
 over:plainOver W.K C=true
 mks:makesIn W.K C=true
 ini:findIn W.K (.ref C) "__init__" = some (some (.ref d.ini))
 fnI:typeIn W.K (.ref d.ini)=some (.type "function")
 fld:∀ f,memN d.fs f=true->findIn W.K (.ref C) (W.nm f)=some none
 size:d.fs.length<=100
 ms:∀ f a,lk d.ms f=some a->findIn W.K (.ref C) (W.nm f)=some (some (.ref a))/\typeIn W.K (.ref a)=some (.type "function")/\keepIn W.K (.ref a)=true
 keep:keepIn W.K (.ref C)=true
 inif:∃ fd,W.P.fn d.ini=some fd
 hook:findIn W.K (.ref C) "__getattr__" = some none
noncomputable def Binds (W:Wd) (fd:FuncData) (d:FD) (dvs:List Value):Prop:=∀ (s:Shared) (xs:List Value),W.K.In s.heap->(xs.length=d.ps.length->BindsTo s fd ⟨xs,[]⟩ ((d.ps.map W.nm).zip xs))/\(xs.length+dvs.length=d.ps.length->BindsTo s fd ⟨xs,[]⟩ ((d.ps.map W.nm).zip (xs++dvs)))
inductive FnOk (W:Wd) (a:Nat) (d:FD):Prop
 |mk (oc:Value) (od:Option Addr) (osl:Array (Option Value)) (fd:FuncData) (dvs:List Value) (at_:W.K.lookup a=some ⟨oc,od,.func fd,osl⟩) (k1:fd.body=.stmts (S.decL W.nm d.body)) (k2:fd.scope.kind=.function) (k3:fd.scope.isGenerator=false) (k4:fd.scope.isCoroutine=false)
  (k5:fd.scope.names=d.kd.map (fun x=>(W.nm x.1,x.2))) (k6:fd.globals=mainGlobals) (k7:fd.builtins=builtinsNs) (k8:fd.closure=[]) (k9:codeIn W.K fd.code fd.qualname=true) (k10:keepIn W.K (.ref a)=true) (k11:lk d.kd W.P.wk=some .cell->fd.code=.ref W.PC/\fd.qualname ++ ".<locals>." = W.wq)
  (k12:∀ ρ n,VRs ρ n d.df dvs) (k13:Binds W fd d dvs)
structure WdOk (W:Wd):Prop where
 inj:∀ i j,W.nm i=W.nm j->i=j
 nmc:∀ i,W.nm i=strK (W.P.sy i)
 dbg:∀ i,(W.nm i == ("__debug__" : Str))=false/\(W.nm i == ("__classdict__" : Str))=false/\(W.nm i == ("super" : Str))=false
 X:W.K.In W.h₀
 mg:W.h₀.Ns mainGlobals W.mg
 mb:W.h₀.Ns builtinsNs W.mb
 lim:W.h₀.NoLimit
 sm:W.h₀.get? sysModules≠none
 tt:∀ a xs,W.P.tt a=some xs->∃ ys,W.h₀.IsTuple a (List.toArray ys)/\∀ ρ n,VRs ρ n xs ys
 gt:∀ x v,W.P.gt x=some v->∃ pv,(∀ ρ n,VR ρ n v pv)/\(W.mg (W.nm x)=some pv\/(W.mg (W.nm x)=none/\W.mb (W.nm x)=some pv))
 cla:∀ C d,W.P.cl C=some d->ClOk W C d
 fna:∀ a d,W.P.fn a=some d->FnOk W a d
 cdh:codeHdIn W.K W.PC W.PT=true
 bma:W.h₀.BuiltinsAt W.mg W.PT
section
variable {W:Wd} {A:Around} {X:Addr->Prop} {ρ ah:Nat->Addr} {J:Store} {s:Shared} {h h':Heap} {l n:Nat}
theorem WdOk.syinj (ok:WdOk W) (i j:Nat) (h:W.P.sy i=W.P.sy j):i=j:=ok.inj i j (by rw[ok.nmc,ok.nmc,h])
theorem Rep.inK (ok:WdOk W) (R:Rep W ρ J h):W.K.In h:=ok.X.keeps R.keep
theorem Rep.notMods (ok:WdOk W) (R:Rep W ρ J h) {o:O} (e:J.get l=some o):(ρ l == sysModules)=false:=beq_eq_false_iff_ne.mpr fun z=>ok.sm (z▸R.new _ (R.trk e))
theorem lk_sy (ok:WdOk W) (fs:List (Nat×V)) (f:Nat):lkS (fs.map fun x=>(W.P.sy x.1,x.2)) (W.P.sy f)=lk fs f:=by
 induction fs with
 | nil=>rfl
 | cons x r ih=>
  show cn (eqS (W.P.sy x.1) (W.P.sy f)) _ (lkS _ _)=cn (Nat.beq x.1 f) _ (lk r f)
  by_cases h:x.1=f
  ·rw[h,eqS_self,beqT rfl];rfl
  ·rw[eqS_ne fun e=>h (ok.syinj _ _ e),beqF h];exact ih
theorem put_sy (ok:WdOk W) (fs:List (Nat×V)) (f:Nat) (v:V):(putL fs f v).map (fun x=>(W.P.sy x.1,x.2))=putS (fs.map fun x=>(W.P.sy x.1,x.2)) (W.P.sy f) v:=by
 induction fs with
 | nil=>rfl
 | cons x r ih=>
  show(cn (Nat.beq x.1 f) ((x.1,v)::r) (x::putL r f v)).map _=cn (eqS (W.P.sy x.1) (W.P.sy f)) _ (_::putS _ _ _)
  by_cases h:x.1=f
  ·rw[h,eqS_self,beqT rfl];exact congrArg (fun z=>(W.P.sy z,v)::r.map fun x=>(W.P.sy x.1,x.2)) h.symm
  ·rw[eqS_ne fun e=>h (ok.syinj _ _ e),beqF h];exact congrArg (_::·) ih
theorem fits {xs:List V} {ys:List Value} (r:VRs ρ n xs ys) (hz:xs.length<=20000):ys.toArray.size<=sizeLine:=by
 rw[List.size_toArray,r.length,sizeLine_eq];exact Nat.le_trans hz (by decide)
theorem fitsD {es:List (List Nat×V)} {kvs:List (Str×Value)} (r:KV ρ n es kvs) (hz:es.length<=1000):kvs.length<=sizeLine:=by
 rw[r.length,sizeLine_eq];exact Nat.le_trans hz (by decide)
theorem wp_newTuple {vs:List V} {ys:List Value} (R:Rep W ρ J s.heap) (r:VRs ρ J.n vs ys) (hz:vs.length<=20000):WP W A (newTuple ys) VR (.ok (.ref J.n) (J.add (.tup vs))) ρ J s:=
 fun Q Ex k=>wpAny_newObj_type (k (rhoAt ρ J.n s.heap.objs.size) _ s.toks _ (Stp.alloc R ⟨ys,by rw[rhoAt_self];exact Heap.get?_push_size _ rfl,r.next,hz⟩ fun _ _=>nofun) .alloc) (fits r hz)
theorem handed_of {v:V} {x:Value} (h:VR ρ n v x):handedIn x=true:=by
 cases h with
 | top _ hh=>exact hh
 | _=>rfl
theorem WP.inst {α β:Type} {t:Sem α} {rel:(Nat->Addr)->Nat->β->α->Prop} {f:Nat->List (Nat×V)->R β} (R:Rep W ρ J s.heap) (k:∀ C fs,J.get l=some (.inst C fs)->PI W ρ J.n s.heap (ρ l) (ρ (l+1)) C fs->WP W A t rel (f C fs) ρ J s):WP W A t rel (gI J l .bad f) ρ J s:=
 WP.so fun o e=>by
  have p:=R.obj l o e
  induction o using Mine.O.casesOn with
  | inst C fs=>exact k C fs e p
  | _=>exact WP.bad
theorem WP.ref {α β:Type} {t:Value->Sem α} {rel:(Nat->Addr)->Nat->β->α->Prop} {v:V} {pv:Value} {f:Nat->R β} (hv:VR ρ J.n v pv) (k:∀ l,l<J.n->WP W A (t (.ref (ρ l))) rel (f l) ρ J s):WP W A (t pv) rel (vRef v .bad f) ρ J s:=by
 cases hv with
 | ref l h=>exact k l h
 | _=>exact WP.bad
theorem wp_getAttr (ok:WdOk W) (R:Rep W ρ J s.heap) {v:V} {pv:Value} (hv:VR ρ J.n v pv) (f:Nat) {b:Bool}:WP W A (getAttr pv (W.nm f) b) VR (getAttrV J v f) ρ J s:=
 WP.ref (t:=fun pv=>getAttr pv (W.nm f) b) hv fun l _=>WP.inst R fun C gs e p=>WP.so fun u hf=>by
  have hf:lk gs f=some u:=hf
  rcases p with ⟨xs,ep,d,ho,hd,er,nd,hc,hm⟩
  have C':=ok.cla C d hc
  obtain⟨y,hl,hy⟩:=er.lookIn (W.P.sy f) (ep:=ep)
  rw[lk_sy ok,hf] at hy
  refine hy.elS (P:=fun y=>lookIn (strK (W.P.sy f)) (dictOb xs.toArray ep)=some y->_) (fun pv hv hl Q Ex k=>?_) hl
  refine get_value (ox:=instO C (ρ (l+1))) (od:=some (dictOb xs.toArray ep)) (R.inK ok) ⟨ho,rfl,rfl,hd⟩ C'.ga (v:=pv) ?_ (handed_of hv) (k ρ s.heap _ _ (Stp.refl R) hv)
  obtain⟨cd,hcd,hh⟩:=any_some C'.cls
  unfold findObj
  have hfi:=C'.fld f (hm f (List.mem_map.mpr ⟨_,lk_mem hf,rfl⟩))
  rw[ok.nmc f] at hfi ⊢
  rw[hcd,hfi]
  unfold PySem.W.ownOf
  simp only[Option.bind_some]
  rw[hh,if_pos rfl]
  rw[hl]
  rfl
theorem nodup_sub_len (l:List Nat):∀ d:List Nat,l.Nodup->(∀ x∈l,x∈d)->l.length<=d.length:=by
 induction l with
 | nil=>exact fun _ _ _=>Nat.zero_le _
 | cons x r ih=>
  intro d nd h
  have nd:=List.nodup_cons.mp nd
  have hx:x∈d:=h x (.head _)
  have:=ih (d.erase x) nd.2 fun y hy=>(List.mem_erase_of_ne (show y≠x from fun z=>nd.1 (z▸hy))).mpr (h y (.tail _ hy))
  rw[List.length_erase_of_mem hx] at this
  exact Nat.lt_of_le_pred (List.length_pos_of_mem hx) this
theorem set_name {P:Params} {tk:Tok} {xs:List DictEntry} {ep:Nat} {nm:Str} {pv:Value} {dx:Addr} {Q:PySem.Fin->Shared->Prop} {Ex:Value->Shared->Prop} (hd:s.heap.get? dx=some (dictOb xs.toArray ep)) (nr:xs.any (·.refKey)=false) (hl:(putX nm ⟨PyData.keyHash W.w.params nm,.str nm s.toks,pv⟩ xs).length<=1000)
  (k:∀ h' ep',Heap.SameBut dx s.heap h'->h'.get? dx=some (dictOb (putX nm ⟨PyData.keyHash W.w.params nm,.str nm s.toks,pv⟩ xs).toArray ep')->Q (.done (.ret .none)) (Shared.at_ s h' (s.toks+1))):wpAny W.M A (storeInDict dx (.str nm tk) nm pv) Q Ex s:=by
 obtain⟨ep',hput⟩:=putName_list nm (PyData.keyHash W.w.params nm) (.str nm s.toks) pv (.type "dict") none xs ep #[]
 have hu:(s.heap.update dx (Obj.putName nm (PyData.keyHash W.w.params nm) (.str nm s.toks) pv)).get? dx=some (dictOb (putX nm ⟨PyData.keyHash W.w.params nm,.str nm s.toks,pv⟩ xs).toArray ep'):=by
  rw[Heap.get?_update_self _ hd (by rw[hput];rfl),hput]
 refine wpAny_bind (wpAny_pure (wpAny_bind ?_))
 unfold nsSet
 refine wpAny_bind (wpAny_bind (wpAny_askSetting (wpAny_pure (wpAny_bind (wpAny_mkText (wpAny_bind (wpAny_loadPart hd ?_)))))))
 dsimp only
 rw[show aRefKeyMayBeTheName nm xs.toArray=false from by rw[aRefKeyMayBeTheName_at,List.any_toArray,List.any_toArray,nr,Bool.and_false]]
 refine wpAny_updatePart hd ?_
 refine wpAny_bind (wpAny_lookBehind hu (pastItsLine_dict (by rw[List.size_toArray,sizeLine_eq];exact Nat.le_add_right_of_le (Nat.le_trans hl (by decide)))) ?_)
 exact wpAny_pure (k _ _ (Heap.SameBut.update ..) hu)
theorem wp_setAttr (ok:WdOk W) (R:Rep W ρ J s.heap) {o v:V} {po pv:Value} (ho:VR ρ J.n o po) (f:Nat) (hv:VR ρ J.n v pv):WP W A (setAttr po (W.nm f) pv) (fun _ _ _ _=>True) (setAttrV W.P.cl J o f v) ρ J s:=
 WP.ref (t:=fun po=>setAttr po (W.nm f) pv) ho fun l _=>WP.inst R fun C gs e p=>WP.so fun d hc=>WP.ifT fun hf Q Ex k=>by
  rcases p with ⟨xs,ep,d',ho,hd,er,nd,hc',hm⟩
  have z:d=d':=Option.some.inj (hc.symm.trans hc')
  rw[<-z] at hm
  have C':=ok.cla C d hc
  have XK:=R.inK ok
  have I:InstAt s.heap (ρ l) (instO C (ρ (l+1))) C (some (dictOb xs.toArray ep)):=⟨ho,rfl,rfl,hd⟩
  refine set_plain XK I C'.sa (osa_open (s:={s with toks:=s.toks+1}) XK I C'.over (r:=none) (by unfold takerIn;rw[C'.fld f hf];rfl) fun b=>?_)
  obtain⟨cd,hcd,hh⟩:=any_some C'.cls
  have er':=er.put (W.P.sy f) hv (s.toks+1)
  rw[<-put_sy ok,<-ok.nmc f] at er'
  have nd':=nodup_putG beq_ok gs f v nd
  have hm':∀ g,g∈(putL gs f v).map (·.1)->memN d.fs g=true:=fun g hg=>(keys_putG beq_ok gs f v g hg).elim (fun z=>z▸hf) (hm g)
  refine wpAny_bind (wpAny_pure (wpAny_bind (wpAny_bind (wpAny_loadPart I.at_ (wpAny_bind (looks_clsIn XK hcd _ _ _ _ (fun _ _ e=>e) ?_))))))
  rw[hh]
  refine wpAny_pure (a:=some (ρ (l+1))) (set_name (P:=W.w.params) (s:={s with toks:=s.toks+1}) hd er.noRef ?_ fun h' ep' sb hn=>?_)
  ·rw[er'.length,List.length_map]
   have a:=nodup_sub_len _ d.fs nd' fun g hg=>(memN_iff _ _).mp (hm' g hg)
   rw[List.length_map] at a
   exact Nat.le_trans a (Nat.le_trans C'.size (by decide))
  ·exact k ρ _ _ _ (Stp.setInst R e sb (codeRec_sameBut sb hd fun vs q=>nomatch q) fun hl=>⟨_,ep',d,hl.trans ho,hn,er',nd',hc,hm'⟩) trivial
end
end

section
open PySem PySem.W PySem.Calls PyProof.Rows
section
variable {α β γ:Type} {W:Wd} {A:Around} {ρ:Nat->Addr} {n:Nat} {J:Store} {s:Shared} {h:Heap} {l:Nat} {v:V} {pv:Value} {t:Value->Sem α} {rel:(Nat->Addr)->Nat->β->α->Prop}
theorem PL.el {a:Addr} {vs:List V} {P:Prop} (p:PL ρ n h a vs) (k:∀ ys ep,h.get? a=some (listOf (List.toArray ys) ep)->VRs ρ n vs ys->vs.length<=20000->P):P:=by
 rcases p with ⟨ys,ep,ho,vr,hz⟩;exact k ys ep ho vr hz
theorem PT.el {a:Addr} {vs:List V} {P:Prop} (p:PT ρ n h a vs) (k:∀ ys,h.get? a=some (tupOf (List.toArray ys) 0)->VRs ρ n vs ys->vs.length<=20000->P):P:=by
 rcases p with ⟨ys,ho,vr,hz⟩;exact k ys ho vr hz
theorem DicK.el {a:Addr} {es:List (List Nat×V)} {P:Prop} (p:DicK W ρ n h a es) (k:∀ kvs,h.DictOf (SK W) a kvs->KV ρ n es kvs->(es.map (·.1)).Nodup->P):P:=by
 rcases p with ⟨kvs,D,kv,nd⟩;exact k kvs D kv nd
theorem isL_of {a:Addr} {ys:Array Value} {ep:Nat} (ho:h.get? a=some (listOf ys ep)):h.IsList a ys:=⟨_,ho,rfl,ep,rfl⟩
theorem isT_of {a:Addr} {ys:Array Value} {ep:Nat} (ho:h.get? a=some (tupOf ys ep)):IsTup h a ys:=⟨_,ho,rfl,ep,rfl⟩
theorem gO_el {P:γ->Prop} {x:γ} {fl ft:List V->γ} {fd:List (List Nat×V)->γ} (R:Rep W ρ J h) (hb:P x) (k1:∀ xs,J.get l=some (.list xs)->PL ρ J.n h (ρ l) xs->P (fl xs)) (k2:∀ xs,J.get l=some (.tup xs)->PT ρ J.n h (ρ l) xs->P (ft xs)) (k3:∀ es,J.get l=some (.dict es)->PD W.w.params ρ J.n h (ρ l) es->P (fd es)):P (gO J l x fl ft fd):=by
 unfold gO
 induction q:J.get l using Option.casesOn with
 | none=>exact hb
 | some o=>
  have p:=R.obj l o q
  induction o using Mine.O.casesOn with
  | list xs=>exact k1 xs q p
  | tup xs=>exact k2 xs q p
  | dict es=>exact k3 es q p
  | _=>exact hb
theorem WP.gO {t:Sem α} {fl ft:List V->R β} {fd:List (List Nat×V)->R β} (R:Rep W ρ J s.heap) (k1:∀ xs,J.get l=some (.list xs)->PL ρ J.n s.heap (ρ l) xs->WP W A t rel (fl xs) ρ J s) (k2:∀ xs,J.get l=some (.tup xs)->PT ρ J.n s.heap (ρ l) xs->WP W A t rel (ft xs) ρ J s) (k3:∀ es,J.get l=some (.dict es)->PD W.w.params ρ J.n s.heap (ρ l) es->WP W A t rel (fd es) ρ J s):WP W A t rel (gO J l .bad fl ft fd) ρ J s:=
 gO_el (P:=fun z=>WP W A t rel z ρ J s) R WP.bad k1 k2 k3
theorem WP.gL {t:Sem α} {f:List V->R β} (R:Rep W ρ J s.heap) (k1:∀ xs,J.get l=some (.list xs)->PL ρ J.n s.heap (ρ l) xs->WP W A t rel (f xs) ρ J s):WP W A t rel (gL J l .bad f) ρ J s:=WP.gO R k1 (fun _ _ _=>WP.bad) fun _ _ _=>WP.bad
theorem vSR_el {P:Value->γ->Prop} {x:γ} {fs:List Nat->γ} {fr:Nat->γ} (hv:VR ρ n v pv) (hb:P pv x) (k1:∀ y tk,P (.str (strK y) tk) (fs y)) (k2:∀ l,l<n->P (.ref (ρ l)) (fr l)):P pv (vSR v x fs fr):=by
 cases hv with
 | str y tk=>exact k1 y tk
 | ref l h=>exact k2 l h
 | _=>exact hb
theorem WP.sr {fs:List Nat->R β} {fr:Nat->R β} (hv:VR ρ J.n v pv) (k1:∀ y tk,WP W A (t (.str (strK y) tk)) rel (fs y) ρ J s) (k2:∀ l,l<J.n->WP W A (t (.ref (ρ l))) rel (fr l) ρ J s):WP W A (t pv) rel (vSR v .bad fs fr) ρ J s:=vSR_el (P:=fun pv z=>WP W A (t pv) rel z ρ J s) hv WP.bad k1 k2
theorem WP.str {f:List Nat->R β} (hv:VR ρ J.n v pv) (k:∀ y tk,WP W A (t (.str (strK y) tk)) rel (f y) ρ J s):WP W A (t pv) rel (vStr v .bad f) ρ J s:=WP.sr hv k fun _ _=>WP.bad
theorem vInt_el {P:Value->γ->Prop} {x:γ} {f:Int->γ} (hv:VR ρ n v pv) (hb:P pv x) (k:∀ i tk,P (.int i tk) (f i)):P pv (vInt v x f):=by
 cases hv with
 | int i tk=>exact k i tk
 | _=>exact hb
theorem WP.int {f:Int->R β} (hv:VR ρ J.n v pv) (k:∀ i tk,WP W A (t (.int i tk)) rel (f i) ρ J s):WP W A (t pv) rel (vInt v .bad f) ρ J s:=vInt_el (P:=fun pv z=>WP W A (t pv) rel z ρ J s) hv WP.bad k
theorem WP.ii {t:Value->Value->Sem α} {u:V} {pu:Value} {f:Int->Int->R β} (hv:VR ρ J.n v pv) (hu:VR ρ J.n u pu) (k:∀ i j ti tj,WP W A (t (.int i ti) (.int j tj)) rel (f i j) ρ J s):WP W A (t pv pu) rel (ii v u .bad f) ρ J s:=WP.int (t:=fun pv=>t pv pu) hv fun i ti=>WP.int (t:=fun pu=>t (.int i ti) pu) hu fun j tj=>k i j ti tj
end
theorem cnS {α:Type} {b:Bool} {x y:α} (h:cn b (some x) none=some y):b=true/\x=y:=by
 induction b using Bool.casesOn with
 | true=>exact⟨rfl,Option.some.inj h⟩
 | false=>exact nomatch h
theorem ocS {α β:Type} {o:Option α} {f:α->Option β} {y:β} (h:oc o none f=some y):∃ a,o=some a/\f a=some y:=by
 induction o using Option.casesOn with
 | none=>exact nomatch h
 | some a=>exact⟨a,rfl,h⟩
theorem blt_of {a b:Nat} (h:Nat.blt a b=true):a<b:=PySem.W.Z.blt_iff.mp h
theorem ltI_iff (a b:Int):ltI a b=true↔a<b:=PySem.W.Z.ltB_iff a b
theorem leI_iff (a b:Int):leI a b=true↔a<=b:=PySem.W.Z.leB_iff a b
theorem eqI_iff (a b:Int):eqI a b=true↔a=b:=PySem.W.Z.eqB_iff a b
theorem andB {a b:Bool} (h:cn a b false=true):a=true/\b=true:=by
 induction a using Bool.casesOn with
 | true=>exact⟨rfl,h⟩
 | false=>exact nomatch h
theorem smallI_at {i:Int} (h:smallI i=true):-1000000000000<=i/\i<=1000000000000:=⟨(leI_iff _ _).mp (andB h).1,(leI_iff _ _).mp (andB h).2⟩
theorem small_bits {i:Int} (h:smallI i=true):Builtin.Int.intBits i<=64:=intBits_le_64 (Int.lt_of_lt_of_le (by decide) (smallI_at h).1) (Int.lt_of_le_of_lt (smallI_at h).2 (by decide))
theorem lenLe_at {α:Type} {xs:List α}:∀ {n:Nat},lenLe xs n=true->xs.length<=n:=by
 induction xs with
 | nil=>exact fun _=>Nat.zero_le _
 | cons x r ih=>
  intro n
  induction n using Nat.casesOn with
  | zero=>exact fun h=>nomatch h
  | succ n=>exact fun h=>Nat.succ_le_succ (ih h)
theorem lenLe_of {α:Type} {xs:List α}:∀ {n:Nat},xs.length<=n->lenLe xs n=true:=by
 induction xs with
 | nil=>exact fun _=>rfl
 | cons x r ih=>
  intro n
  induction n using Nat.casesOn with
  | zero=>exact fun h=>absurd h (Nat.not_succ_le_zero _)
  | succ n=>exact fun h=>ih (Nat.le_of_succ_le_succ h)
theorem lenEq_iff {α β:Type} {xs:List α}:∀ {ys:List β},lenEq xs ys=true↔xs.length=ys.length:=by
 induction xs with
 | nil=>
  intro ys
  induction ys using List.casesOn with
  | nil=>exact⟨fun _=>rfl,fun _=>rfl⟩
  | cons y q=>exact⟨(fun h=>nomatch h),fun h=>nomatch h⟩
 | cons x r ih=>
  intro ys
  induction ys using List.casesOn with
  | nil=>exact⟨(fun h=>nomatch h),fun h=>nomatch h⟩
  | cons y q=>exact ih.trans ⟨congrArg (·+1),Nat.succ.inj⟩
theorem asc_at {s:List Nat}:asc s=true->∀ c∈s,c<128:=by
 induction s with
 | nil=>exact fun _ _ h=>nomatch h
 | cons x r ih=>
  intro h c hc
  rcases List.mem_cons.mp hc with e|hc
  ·rw[e];exact blt_of (andB h).1
  ·exact ih (andB h).2 c hc
theorem asc_all {s:List Nat} (h:asc s=true) (p:Nat->Bool) (k:∀ c,c<128->p c=true):(strK s).cps.all p=true:=by
 show(s.toArray).all _=true
 rw[List.all_toArray,List.all_eq_true]
 exact fun x hx=>k x (asc_at h x hx)
section
variable {ρ:Nat->Addr} {n:Nat} {vs:List V} {ys:List Value}
theorem VRs.at (h:VRs ρ n vs ys):∀ i,OptR ρ n (nth vs i) ys[i]?:=by
 induction h with
 | nil=>exact fun _=>.none
 | cons h r ih=>
  intro i
  induction i using Nat.casesOn with
  | zero=>exact .some h
  | succ k=>exact ih k
theorem VRs.take (r:VRs ρ n vs ys):∀ k,VRs ρ n (vs.take k) (ys.take k):=by
 induction r with
 | nil=>exact fun k=>by rw[List.take_nil,List.take_nil];exact .nil
 | cons h _ ih=>
  intro k
  induction k using Nat.casesOn with
  | zero=>exact .nil
  | succ k=>exact .cons h (ih k)
theorem VRs.drop (r:VRs ρ n vs ys):∀ k,VRs ρ n (vs.drop k) (ys.drop k):=by
 induction r with
 | nil=>exact fun k=>by rw[List.drop_nil,List.drop_nil];exact .nil
 | cons h r ih=>
  intro k
  induction k using Nat.casesOn with
  | zero=>exact .cons h r
  | succ k=>exact ih k
theorem VRs.set (r:VRs ρ n vs ys) {v:V} {y:Value} (hv:VR ρ n v y):∀ k,VRs ρ n (vs.set k v) (ys.set k y):=by
 induction r with
 | nil=>exact fun _=>.nil
 | cons h r ih=>
  intro k
  induction k using Nat.casesOn with
  | zero=>exact .cons hv r
  | succ k=>exact .cons h (ih k)
theorem VRs.last (r:VRs ρ n vs ys):OptR ρ n vs.getLast? ys.getLast?:=by
 induction r with
 | nil=>exact .none
 | cons h r ih=>
  cases r with
  | nil=>exact .some h
  | cons h2 r2=>rw[List.getLast?_cons_cons,List.getLast?_cons_cons];exact ih
theorem VRs.dropLast (r:VRs ρ n vs ys):VRs ρ n vs.dropLast ys.dropLast:=by
 rw[List.dropLast_eq_take,List.dropLast_eq_take,r.length];exact r.take _
theorem VRs.reverse (r:VRs ρ n vs ys):VRs ρ n vs.reverse ys.reverse:=by
 induction r with
 | nil=>exact .nil
 | cons h _ ih=>rw[List.reverse_cons,List.reverse_cons];exact ih.append (.cons h .nil)
theorem VRs.size (r:VRs ρ n vs ys):ys.toArray.size=vs.length:=List.size_toArray.trans r.length
end
theorem idxI_ok {i:Int} {n q:Nat} (h:idxI i n=some q) (hn:n<=20000):q<n/\seqIndex? i n=some q/\(-2^63<=i/\i<2^63)/\((0<=i/\i.toNat=q)\/(i<0/\-(n:Int)<=i/\(i+n).toNat=q)):=by
 induction i using Int.casesOn with
 | ofNat k=>
  obtain⟨a,b⟩:=cnS (b:=Nat.blt k n) h
  rw[<-b]
  have a:=blt_of a
  have a':((k:Nat):Int)<(n:Int):=Int.ofNat_lt.mpr a
  exact⟨a,seqIndex_of (Int.natCast_nonneg k) a',⟨Int.le_trans (by decide) (Int.natCast_nonneg k),Int.lt_trans a' (Int.lt_of_le_of_lt (Int.ofNat_le.mpr hn) (by decide))⟩,.inl ⟨Int.natCast_nonneg k,rfl⟩⟩
 | negSucc k=>
  obtain⟨a,b⟩:=cnS (b:=Nat.blt k n) h
  rw[<-b]
  have a:=blt_of a
  have z:-(n:Int)<=Int.negSucc k:=by omega
  have e:(Int.negSucc k+n).toNat=n - (k+1):=by omega
  exact⟨Nat.sub_lt (Nat.lt_of_le_of_lt (Nat.zero_le _) a) (Nat.succ_pos _),by rw[seqIndex_neg (Int.negSucc_lt_zero k) z,e],⟨Int.le_trans (by omega) z,Int.lt_trans (Int.negSucc_lt_zero k) (by decide)⟩,.inr ⟨Int.negSucc_lt_zero k,z,e⟩⟩
theorem nthI_at {ρ:Nat->Addr} {n:Nat} {vs:List V} {ys:List Value} {j:Int} {v:V} (r:VRs ρ n vs ys) (h:nthI vs j=some v):∃ q y,idxI j vs.length=some q/\ys.toArray[q]?=some y/\VR ρ n v y:=by
 obtain⟨q,a,b⟩:=ocS h
 have z:=r.at q
 rw[b] at z
 rw[<-List.getElem?_toArray] at z
 exact z.elS (P:=fun y=>ys.toArray[q]?=y->_) (fun y hv e=>⟨q,y,a,e,hv⟩) rfl
section
variable {W:Wd} {A:Around} {ρ:Nat->Addr} {J:Store} {s:Shared} {c:Cx} {m:M} {env:Env}
theorem WP.cell {α β:Type} {t:Sem α} {rel:(Nat->Addr)->Nat->β->α->Prop} {f:V->R β} {a:Nat} (R:Rep W ρ J s.heap) (k:∀ v,PC ρ J.n s.heap (ρ a) v->WP W A t rel (f v) ρ J s):WP W A t rel (oc (J.get a) .bad fun o=>oCell o .bad .bad f) ρ J s:=
 WP.so fun o e=>by
  have p:=R.obj a o e
  induction o using Mine.O.casesOn with
  | cell v=>exact k v p
  | _=>exact WP.bad
theorem Stt.ns0 (ok:WdOk W) (S:Stt W c m env A ρ J s.heap):s.heap.Ns env.globals W.mg/\s.heap.Ns env.builtins W.mb:=by
 rw[S.er.glob,S.er.bi]
 exact⟨ok.mg.keeps S.rep.keep,ok.mb.keeps S.rep.keep⟩
theorem wp_loadN (ok:WdOk W) (S:Stt W c m env A ρ J s.heap) (x:Nat):WP W A (loadName env (W.nm x)) VR (loadN W.P.gt c m x J) ρ J s:=
 WP.so (o:=lk c.kd x) (f:=fun k=>nk k (okO (lk m x) J) (cellV c x J) (okO (W.P.gt x) J) (cellV c x J) .bad) fun k hk=>by
 have kd:=(S.er.kd x).trans hk
 have R:=S.rep
 induction k using PySem.NameKind.casesOn with
 | «local»=>
  refine WP.so fun v e Q Ex k=>?_
  rcases S.er.ns with ⟨mm,N,q⟩
  obtain⟨pv,a,b⟩:=q x v e
  exact wpAny_loadName_local S.er.kind kd N a (k ρ s.heap s.toks _ (Stp.refl R) b)
 | cell=>exact WP.so fun a ha=>WP.cell R fun v ⟨pv,hc,hv⟩ Q Ex k=>wpAny_loadName_cell S.er.kind kd (S.er.cs x a ha).2 hc (k ρ s.heap s.toks _ (Stp.refl R) hv)
 | free=>exact WP.so fun a ha=>WP.cell R fun v ⟨pv,hc,hv⟩ Q Ex k=>wpAny_loadName_free S.er.kind kd (S.er.cs x a ha).2 hc (k ρ s.heap s.toks _ (Stp.refl R) hv) (ok.dbg x).2.1
 | globalExplicit=>exact WP.bad
 | globalImplicit=>
  refine WP.so fun v e Q Ex k=>?_
  obtain⟨pv,hv,q⟩:=ok.gt x v e
  obtain⟨N1,N2⟩:=S.ns0 ok
  unfold loadName
  simp only[Env.blockKind,S.er.kind,kd,ScopeKind.isAnnotationScope,Bool.false_and,Bool.false_eq_true,if_false]
  rcases q with q|⟨q1,q2⟩
  ·exact loadGlobal_global N1 q (k ρ s.heap s.toks _ (Stp.refl R) (hv _ _))
  ·exact loadGlobal_builtin N1 q1 N2 q2 (k ρ s.heap s.toks _ (Stp.refl R) (hv _ _))
end
inductive RdOk (h:Heap) (n:Nat) (pv:Value) (d:PyData):Prop
 |mk (as:List Addr) (r:Reads h pv d as) (c:d.canLay0=true) (z:d.depth<=n)
inductive RdsOk (h:Heap) (n:Nat) (pvs:List Value) (ds:List PyData):Prop
 |mk (as:List Addr) (r:ReadsAll h pvs ds as) (c:PyData.canLayAll0 ds=true) (z:PyData.depthAll ds<=n)
section
variable {W:Wd} {A:Around} {ρ:Nat->Addr} {J:Store} {s:Shared} {h:Heap} {n:Nat} {a b:V} {pa pb:Value}
theorem mapD_ok {f:V->Option PyData} (ih:∀ v pv d,VR ρ J.n v pv->f v=some d->RdOk h n pv d) {vs:List V} {pvs:List Value} (r:VRs ρ J.n vs pvs):∀ ds,mapD f vs=some ds->RdsOk h n pvs ds:=by
 induction r with
 | nil=>exact fun ds e=>by rw[<-Option.some.inj e];exact⟨_,.nil,rfl,Nat.zero_le _⟩
 | cons hv _ ih2=>
  intro ds e
  obtain⟨d,a,e⟩:=ocS e
  obtain⟨q,b,e⟩:=ocS e
  rw[<-Option.some.inj e]
  rcases ih _ _ d hv a with ⟨_,r1,c1,d1⟩
  rcases ih2 q b with ⟨_,r2,c2,d2⟩
  exact⟨_,.cons r1 r2,by rw[PyData.canLayAll0,c1,c2];rfl,by rw[PyData.depthAll];exact Nat.max_le.mpr ⟨d1,d2⟩⟩
theorem toD_ok (R:Rep W ρ J h) (n:Nat):∀ v pv d,VR ρ J.n v pv->toD J n v=some d->RdOk h n pv d:=by
 induction n with
 | zero=>exact fun _ _ _ _ e=>nomatch e
 | succ n ih=>
  intro v pv d hv
  cases hv with
  | none=>exact fun e=>by rw[<-Option.some.inj e];exact⟨_,.none,rfl,Nat.zero_le _⟩
  | bool b=>exact fun e=>nomatch e
  | int i t=>exact fun e=>by rw[<-Option.some.inj e];exact⟨_,.int _ _,rfl,Nat.zero_le _⟩
  | str x t=>
   intro e
   obtain⟨a,e⟩:=cnS (b:=asc x) e
   rw[<-e]
   exact⟨_,.str _ _,asc_all a _ fun c hc=>decide_eq_true (Nat.lt_of_lt_of_le hc (by decide)),Nat.zero_le _⟩
  | top v hh=>exact fun e=>nomatch e
  | ref l hl=>
   refine gO_el (P:=fun z=>z=some d->RdOk h (n+1) (.ref (ρ l)) d) (fl:=fun xs=>oc (mapD (toD J n) xs) none fun ds=>some (.list ds)) (ft:=fun xs=>oc (mapD (toD J n) xs) none fun ds=>some (.tuple ds)) (fd:=fun _=>none) R nofun (fun xs _ p e=>?_) (fun xs _ p e=>?_) fun _ _ _=>nofun
   ·obtain⟨ds,a,e⟩:=ocS e
    rw[<-Option.some.inj e]
    refine p.el fun ys ep ho vr _=>?_
    rcases mapD_ok ih vr ds a with ⟨_,r1,c1,d1⟩
    exact⟨_,.list ho rfl rfl r1,c1,Nat.add_le_add_right d1 1⟩
   ·obtain⟨ds,a,e⟩:=ocS e
    rw[<-Option.some.inj e]
    refine p.el fun ys ho vr _=>?_
    rcases mapD_ok ih vr ds a with ⟨_,r1,c1,d1⟩
    exact⟨_,.tuple ho rfl rfl r1,c1,Nat.add_le_add_right d1 1⟩
noncomputable abbrev bR:(Nat->Addr)->Nat->Bool->Value->Prop:=fun _ _ b a=>a=.bool b
inductive WP2 (W:Wd) (A:Around) (o1 o2:CmpOp) (pa pb:Value) (r:R Bool) (ρ:Nat->Addr) (J:Store) (s:Shared):Prop
 |mk (h1:WP W A (compareOp o1 pa pb) bR r ρ J s) (h2:WP W A (compareOp o2 pa pb) bR (notB r) ρ J s)
theorem WP2.bad {o1 o2:CmpOp}:WP2 W A o1 o2 pa pb .bad ρ J s:=⟨WP.bad,WP.bad⟩
theorem WP2.ok {o1 o2:CmpOp} {q:Bool} (R:Rep W ρ J s.heap) (k1:∀ {Q:Value->Shared->Prop} {Ex:Value->Shared->Prop},(∀ tk,Q (.bool q) (Shared.at_ s s.heap tk))->wpAny W.M A (compareOp o1 pa pb) Q Ex s) (k2:∀ {Q:Value->Shared->Prop} {Ex:Value->Shared->Prop},(∀ tk,Q (.bool (!q)) (Shared.at_ s s.heap tk))->wpAny W.M A (compareOp o2 pa pb) Q Ex s):WP2 W A o1 o2 pa pb (.ok q J) ρ J s:=
 ⟨WP.ok R rfl k1,WP.ok R (by cases q<;>rfl) k2⟩
theorem WP2.so {o1 o2:CmpOp} {γ:Type} {o:Option γ} {f:γ->R Bool} (h:∀ a,o=some a->WP2 W A o1 o2 pa pb (f a) ρ J s):WP2 W A o1 o2 pa pb (oc o .bad f) ρ J s:=by
 induction o using Option.casesOn with
 | none=>exact WP2.bad
 | some a=>exact h a rfl
noncomputable abbrev WEq (W:Wd) (A:Around) (pa pb:Value) (r:R Bool) (ρ:Nat->Addr) (J:Store) (s:Shared):Prop:=WP2 W A .Eq .NotEq pa pb r ρ J s
theorem eqL_ok (R:Rep W ρ J s.heap) (hu:A.units+10<cLine) {xs ys:List V} {pxs pys:List Value} (h1:VRs ρ J.n xs pxs) (h2:VRs ρ J.n ys pys) {C:List PyData->PyData} (h3:∀ ds es,PyData.eqv (C ds) (C es)=PyData.eqvAll ds es)
  (h4:∀ ds es,RdsOk s.heap 4 pxs ds->RdsOk s.heap 4 pys es->∃ as bs,Reads s.heap pa (C ds) as/\Reads s.heap pb (C es) bs/\(C ds).canLay0=true/\(C es).canLay0=true/\(C ds).depth<=5):WEq W A pa pb (eqL J xs ys J) ρ J s:=
 WP2.so fun ds e1=>WP2.so fun es e2=>by
  obtain⟨as,bs,r1,r2,c1,c2,d⟩:=h4 ds es (mapD_ok (toD_ok R 4) h1 ds e1) (mapD_ok (toD_ok R 4) h2 es e2)
  have du:A.units+min (C ds).depth (C es).depth<cLine:=Nat.lt_of_le_of_lt (Nat.add_le_add_left (Nat.le_trans (Nat.min_le_left _ _) (Nat.le_trans d (by decide))) _) hu
  rw[<-h3]
  exact WP2.ok R (fun k=>SeqAt.compareEq_reads r1 r2 c1 c2 du (k s.toks)) fun k=>SeqAt.compareNe_reads r1 r2 c1 c2 du (k s.toks)
theorem eqV_ok (R:Rep W ρ J s.heap) (hu:A.units+10<cLine) (ha:VR ρ J.n a pa) (hb:VR ρ J.n b pb):WEq W A pa pb (eqV J a b) ρ J s:=by
 cases ha with
 | none=>cases hb with
  | none=>exact WP2.ok R (fun k=>EqNone.eq_none_none (k s.toks)) fun k=>EqNone.ne_none_none (k s.toks)
  | int i t=>exact WP2.ok R (fun k=>EqNone.eq_none_int (k s.toks)) fun k=>EqNone.ne_none_int (k s.toks)
  | str x t=>exact WP2.ok R (fun k=>EqNone.eq_none_str (k s.toks)) fun k=>EqNone.ne_none_str (k s.toks)
  | _=>exact WP2.bad
 | int i t=>cases hb with
  | none=>exact WP2.ok R (fun k=>EqNone.eq_int_none (k s.toks)) fun k=>EqNone.ne_int_none (k s.toks)
  | int j u=>
   show WEq W A _ _ (.ok (eqI i j) J) ρ J s
   rw[show eqI i j=(i == j) from by rw[Bool.eq_iff_iff,eqI_iff,beq_iff_eq]]
   exact WP2.ok R (fun k=>PyProof.Rows.eq_int (k s.toks)) fun k=>PyProof.Rows.ne_int (k s.toks)
  | _=>exact WP2.bad
 | str x t=>cases hb with
  | none=>exact WP2.ok R (fun k=>EqNone.eq_str_none (k s.toks)) fun k=>EqNone.ne_str_none (k s.toks)
  | str y u=>
   show WEq W A _ _ (.ok (eqS x y) J) ρ J s
   rw[show eqS x y=((strK x).cps.toList == (strK y).cps.toList) from by rw[Bool.eq_iff_iff,eqS_iff,beq_iff_eq];exact Iff.rfl]
   exact WP2.ok R (fun k=>P.eq_str (k s.toks)) fun k=>P.ne_str (k s.toks)
  | _=>exact WP2.bad
 | ref l hl=>
  refine vSR_el (P:=fun pb z=>WEq W A (.ref (ρ l)) pb z ρ J s) hb WP2.bad (fun _ _=>WP2.bad) fun k hk=>?_
  refine gO_el (P:=fun z=>WEq W A (.ref (ρ l)) (.ref (ρ k)) z ρ J s) R WP2.bad (fun xs _ p=>?_) (fun xs _ p=>?_) fun _ _ _=>WP2.bad
  ·refine gO_el (P:=fun z=>WEq W A (.ref (ρ l)) (.ref (ρ k)) z ρ J s) R WP2.bad (fun ys _ p2=>?_) (fun _ _ _=>WP2.bad) fun _ _ _=>WP2.bad
   refine p.el fun us ep ho vr _=>p2.el fun ws ep2 ho2 vr2 _=>?_
   refine cn_el (P:=fun z=>WEq W A (.ref (ρ l)) (.ref (ρ k)) z ρ J s) (fun _=>?_) fun q=>?_
   ·exact eqL_ok R hu vr vr2 (C:=.list) (fun _ _=>rfl) fun ds es ⟨as,r1,c1,d1⟩ ⟨bs,r2,c2,d2⟩=>⟨_,_,.list ho rfl rfl r1,.list ho2 rfl rfl r2,c1,c2,Nat.add_le_add_right d1 1⟩
   ·have sz:(us.toArray.size != ws.toArray.size)=true:=bne_iff_ne.mpr fun z=>by
     rw[vr.size,vr2.size] at z
     rw[lenEq_iff.mpr z] at q;cases q
    have hu':A.units<cLine:=Nat.lt_of_le_of_lt (Nat.le_add_right _ _) hu
    exact WP2.ok R (fun k=>SeqAt.RcAt.lists_lengths (isL_of ho) (isL_of ho2) sz hu' _ _ _ _ (k s.toks)) fun k=>SeqAt.RcNeAt.lists_lengths (isL_of ho) (isL_of ho2) sz hu' _ _ _ _ (k s.toks)
  ·refine gO_el (P:=fun z=>WEq W A (.ref (ρ l)) (.ref (ρ k)) z ρ J s) R WP2.bad (fun _ _ _=>WP2.bad) (fun ys _ p2=>?_) fun _ _ _=>WP2.bad
   exact p.el fun us ho vr _=>p2.el fun ws ho2 vr2 _=>eqL_ok R hu vr vr2 (C:=.tuple) (fun _ _=>rfl) fun ds es ⟨as,r1,c1,d1⟩ ⟨bs,r2,c2,d2⟩=>⟨_,_,.tuple ho rfl rfl r1,.tuple ho2 rfl rfl r2,c1,c2,Nat.add_le_add_right d1 1⟩
 | _=>exact WP2.bad
theorem strsOf_are {n:Nat} {vs:List V} {ys:List Value} (r:VRs ρ n vs ys):∀ l,strsOf vs=some l->StrsAre ys (l.map strK):=by
 induction r with
 | nil=>exact fun l e=>by rw[<-Option.some.inj e];exact .nil
 | cons h _ ih=>
  intro l
  cases h with
  | str x t=>
   intro e
   obtain⟨q,a,e⟩:=ocS e
   rw[<-Option.some.inj e]
   exact .cons _ _ (ih q a)
  | _=>exact fun e=>nomatch e
theorem memS_any (k:List Nat) (l:List (List Nat)):(l.map strK).any (· == strK k)=memS l k:=by
 induction l with
 | nil=>rfl
 | cons x r ih=>
  rw[List.map_cons,List.any_cons,strK_beq,ih]
  show _=cn (eqS x k) true (memS r k)
  cases eqS x k<;>rfl
theorem prefS_iff (k:List Nat):∀ l,prefS k l=true↔l.take k.length=k:=by
 induction k with
 | nil=>exact fun l=>⟨fun _=>rfl,fun _=>rfl⟩
 | cons x r ih=>
  intro l
  induction l using List.casesOn with
  | nil=>exact⟨(fun h=>nomatch h),fun h=>nomatch h⟩
  | cons y q=>
   show cn (Nat.beq x y) (prefS r q) false=true↔y::q.take r.length=x::r
   by_cases h:x=y
   ·rw[beqT h,h]
    exact(ih q).trans ⟨fun z=>congrArg (y::·) z,fun z=>(List.cons.inj z).2⟩
   ·rw[beqF h]
    exact⟨(fun z=>nomatch z),fun z=>absurd (List.cons.inj z).1.symm h⟩
theorem subS_iff (k l:List Nat):subS k l=true↔∃ i,(l.drop i).take k.length=k:=by
 induction l with
 | nil=>exact(prefS_iff k []).trans ⟨fun z=>⟨0,z⟩,fun ⟨i,z⟩=>by rwa [List.drop_nil] at z⟩
 | cons x r ih=>
  show cn (prefS k (x::r)) true (subS k r)=true↔_
  by_cases h:prefS k (x::r)=true
  ·rw[h]
   exact⟨fun _=>⟨0,(prefS_iff _ _).mp h⟩,fun _=>rfl⟩
  ·rw[tf h]
   refine ih.trans ⟨fun ⟨i,z⟩=>⟨i+1,z⟩,fun ⟨i,z⟩=>?_⟩
   induction i using Nat.casesOn with
   | zero=>exact absurd ((prefS_iff _ _).mpr z) h
   | succ j=>exact⟨j,z⟩
theorem subS_occ (k l:List Nat):(!(Builtin.Str.occurrences (strK l) (strK k) 0 (strK l).length 1).isEmpty)=subS k l:=by
 rw[Bool.eq_iff_iff,StrLaws.found_iff,subS_iff]
 have e:∀ i,Builtin.Str.subAt (strK l) (strK k) i=true↔(l.drop i).take k.length=k:=fun i=>by
  unfold Builtin.Str.subAt
  show((l.toArray.extract i (i+k.toArray.size)) == k.toArray)=true↔_
  rw[beq_iff_eq,List.extract_toArray,<-Array.toList_inj]
  simp[List.extract]
 have z:∀ i,(l.drop i).take k.length=k->i+k.length<=l.length\/k=[]:=fun i h=>by
  have:=congrArg List.length h
  rw[List.length_take,List.length_drop] at this
  by_cases q:k=[]
  ·exact .inr q
  ·have:=List.length_pos_iff.mpr q
   omega
 constructor
 ·rintro⟨i,_,b⟩;exact⟨i,(e i).mp b⟩
 ·rintro⟨i,b⟩
  rcases z i b with q|q
  ·exact⟨i,q,(e i).mpr b⟩
  ·rw[q];exact⟨0,Nat.zero_le _,by rw[q] at e;exact(e 0).mpr rfl⟩
end
end

section
open PySem PySem.W PySem.Calls PyProof.Rows
section
variable {α β γ:Type} {W:Wd} {A:Around} {ρ:Nat->Addr} {J:Store} {s:Shared} {a b:V} {pa pb:Value} {l:Nat}
theorem OptR.isS {n:Nat} {o:Option V} {y:Option Value} (h:OptR ρ n o y):y.isSome=oc o false fun _=>true:=by
 cases h<;>rfl
theorem isIn_ok (ok:WdOk W) (R:Rep W ρ J s.heap) (ha:VR ρ J.n a pa) (hb:VR ρ J.n b pb):WP2 W A .In .NotIn pa pb (isIn W.P J a b) ρ J s:=by
 refine vSR_el (P:=fun pa z=>WP2 W A .In .NotIn pa pb z ρ J s) ha WP2.bad (fun k tk=>?_) fun _ _=>WP2.bad
 cases hb with
 | str y u=>
  refine WP2.ok R (fun q=>P.in_str ?_) fun q=>P.notIn_str ?_
  ·have:=q s.toks
   rw[<-subS_occ] at this;exact this
  ·have:=q s.toks
   rw[<-subS_occ] at this;exact this
 | ref l hl=>
  refine gO_el (P:=fun z=>WP2 W A .In .NotIn (.str (strK k) tk) (.ref (ρ l)) z ρ J s) R WP2.bad (fun xs _ p=>WP2.so fun q hq=>?_) (fun xs _ p=>WP2.so fun q hq=>?_) fun es e p=>?_
  ·refine p.el fun ys ep ho vr _=>?_
   rw[<-memS_any]
   exact WP2.ok R (fun k=>in_list_strs (isL_of ho) (strsOf_are vr q hq) (k s.toks)) fun k=>notin_list_strs (isL_of ho) (strsOf_are vr q hq) (k s.toks)
  ·refine p.el fun ys ho vr _=>?_
   rw[<-memS_any]
   exact WP2.ok R (fun k=>in_tuple_strs (isT_of ho) (strsOf_are vr q hq) (k s.toks)) fun k=>notin_tuple_strs (isT_of ho) (strsOf_are vr q hq) (k s.toks)
  ·refine p.dic.el fun kvs D kv _=>?_
   have hd:=R.notMods ok e
   rw[<-(kv.at k).isS]
   exact WP2.ok R (fun q=>wpAny_in_of (strKind_is _ _ _ _) hd D.mapOf (q _)) fun q=>wpAny_notIn_of (strKind_is _ _ _ _) hd D.mapOf (q _)
 | top hh=>
  induction pb using PySem.Value.casesOn with
  | ref a=>
   refine WP2.so fun xs hx=>WP2.so fun q hq=>?_
   obtain⟨ys,⟨o,ho,r⟩,vr⟩:=ok.tt _ xs hx
   have L:IsTup s.heap a ys.toArray:=⟨o,R.keep _ _ ho,r⟩
   rw[<-memS_any]
   exact WP2.ok R (fun k=>in_tuple_strs L (strsOf_are (vr ρ J.n) q hq) (k s.toks)) fun k=>notin_tuple_strs L (strsOf_are (vr ρ J.n) q hq) (k s.toks)
  | _=>exact WP2.bad
 | _=>exact WP2.bad
theorem isNn_ok (R:Rep W ρ J s.heap) (ha:VR ρ J.n a pa) (hb:VR ρ J.n b pb):WP2 W A .Is .IsNot pa pb (isNn J a b) ρ J s:=by
 have go:∀ {pa:Value},WP2 W A .Is .IsNot pa .none (.ok (pa == Value.none) J) ρ J s:=WP2.ok R (fun k=>is_none_gen (k s.toks)) fun k=>isnot_none_gen (k s.toks)
 cases hb with
 | none=>
  cases ha with
  | none=>exact go (pa:=.none)
  | bool b=>exact go (pa:=.bool b)
  | int i t=>exact go (pa:=.int i t)
  | str x t=>exact go (pa:=.str (strK x) t)
  | ref l h=>exact go (pa:=.ref (ρ l))
  | top v=>exact WP2.bad
 | _=>exact WP2.bad
theorem wp_cmp (ok:WdOk W) (R:Rep W ρ J s.heap) (hu:A.units+10<cLine) (op:CmpOp) (ha:VR ρ J.n a pa) (hb:VR ρ J.n b pb):WP W A (compareOp op pa pb) bR (cmpV W.P J op a b) ρ J s:=by
 have lt:∀ i j,ltI i j=decide (i<j):=fun i j=>by rw[Bool.eq_iff_iff,ltI_iff,decide_eq_true_eq]
 have le:∀ i j,leI i j=decide (i<=j):=fun i j=>by rw[Bool.eq_iff_iff,leI_iff,decide_eq_true_eq]
 induction op using PySem.CmpOp.casesOn with
 | Eq=>exact(eqV_ok R hu ha hb).1
 | NotEq=>exact(eqV_ok R hu ha hb).2
 | Lt=>exact WP.ii (t:=compareOp .Lt) ha hb fun i j ti tj=>by rw[lt];exact WP.ok R rfl fun k=>PyProof.Rows.lt_int (k s.toks)
 | LtE=>exact WP.ii (t:=compareOp .LtE) ha hb fun i j ti tj=>by rw[le];exact WP.ok R rfl fun k=>PyProof.Rows.le_int (k s.toks)
 | Gt=>exact WP.ii (t:=compareOp .Gt) ha hb fun i j ti tj=>by rw[lt];exact WP.ok R rfl fun k=>PyProof.Rows.gt_int (k s.toks)
 | GtE=>exact WP.ii (t:=compareOp .GtE) ha hb fun i j ti tj=>by rw[le];exact WP.ok R rfl fun k=>PyProof.Rows.ge_int (k s.toks)
 | Is=>exact(isNn_ok R ha hb).1
 | IsNot=>exact(isNn_ok R ha hb).2
 | In=>exact(isIn_ok ok R ha hb).1
 | NotIn=>exact(isIn_ok ok R ha hb).2
noncomputable abbrev relB:(Nat->Addr)->Nat->Bool->Bool->Prop:=fun _ _ b a=>a=b
theorem wp_truthy (R:Rep W ρ J s.heap) (ha:VR ρ J.n a pa):WP W A (truthy pa) relB (oc (truth a) .bad fun b=>.ok b J) ρ J s:=by
 cases ha with
 | bool b=>exact WP.ok R rfl fun k=>wpAny_truthy_bool (k s.toks)
 | _=>exact WP.bad
theorem WP.l1 {t:List Value->Sem α} {rel:(Nat->Addr)->Nat->β->α->Prop} {as:List V} {xs:List Value} {f:V->R β} (ha:VRs ρ J.n as xs) (k:∀ v x,VR ρ J.n v x->WP W A (t [x]) rel (f v) ρ J s):WP W A (t xs) rel (l1 as .bad f) ρ J s:=by
 cases ha with
 | nil=>exact WP.bad
 | cons h r=>
  cases r with
  | nil=>exact k _ _ h
  | cons _ _=>exact WP.bad
theorem WP.l2 {t:List Value->Sem α} {rel:(Nat->Addr)->Nat->β->α->Prop} {as:List V} {xs:List Value} {f:V->V->R β} (ha:VRs ρ J.n as xs) (k:∀ v u x y,VR ρ J.n v x->VR ρ J.n u y->WP W A (t [x,y]) rel (f v u) ρ J s):WP W A (t xs) rel (l2 as .bad f) ρ J s:=by
 cases ha with
 | nil=>exact WP.bad
 | @cons v x _ _ h r=>exact WP.l1 (t:=fun r=>t (x::r)) r fun u y h2=>k v u x y h h2
theorem WP.l0 {t:List Value->Sem α} {rel:(Nat->Addr)->Nat->β->α->Prop} {as:List V} {xs:List Value} {r:R β} (ha:VRs ρ J.n as xs) (k:WP W A (t []) rel r ρ J s):WP W A (t xs) rel (l0 as .bad r) ρ J s:=by
 cases ha with
 | nil=>exact k
 | cons _ _=>exact WP.bad
section
variable {t:Sem Value} {i:Int} {x:List Nat} {vs:List V} {ys:List Value}
theorem okInt_ok (R:Rep W ρ J s.heap) (k:smallI i=true->∀ {Q:Value->Shared->Prop} {Ex:Value->Shared->Prop},Q (.int i s.toks) {s with toks:=s.toks+1}->wpAny W.M A t Q Ex s):WP W A t VR (okInt i J) ρ J s:=WP.ifT fun h Q Ex g=>k h (g ρ s.heap _ _ (Stp.refl R) (.int _ _))
theorem str_ok (R:Rep W ρ J s.heap) (k:∀ {Q:Value->Shared->Prop} {Ex:Value->Shared->Prop},(∀ t' k,Q (.str (strK x) t') {s with toks:=k})->wpAny W.M A t Q Ex s):WP W A t VR (.ok (.str x) J) ρ J s:=fun Q Ex g=>k fun t' k=>g ρ s.heap k _ (Stp.refl R) (.str _ _)
theorem new_ok {o:O} {x:Obj} (R:Rep W ρ J s.heap) (p:Phys W (rhoAt ρ J.n s.heap.objs.size) (J.n+1) (s.heap.push x) J.n o) (hi:∀ C fs,o≠.inst C fs) (k:∀ {Q:Value->Shared->Prop} {Ex:Value->Shared->Prop},(∀ tk,Q (.ref s.heap.objs.size) {s with heap:=s.heap.push x,toks:=tk})->wpAny W.M A t Q Ex s):WP W A t VR (.ok (.ref J.n) (J.add o)) ρ J s:=
 fun Q Ex g=>k fun tk=>g _ _ tk _ (Stp.alloc R p hi) .alloc
theorem list_new (R:Rep W ρ J s.heap) (r:VRs ρ J.n vs ys) (k:vs.length<=10000->∀ {Q:Value->Shared->Prop} {Ex:Value->Shared->Prop},(∀ tk,Q (.ref s.heap.objs.size) {s with heap:=s.heap.push (listOf ys.toArray 0),toks:=tk})->wpAny W.M A t Q Ex s):WP W A t VR (addL J vs) ρ J s:=
 WP.ifT fun h=>new_ok R ⟨ys,0,by rw[rhoAt_self];exact Heap.get?_push_size _ rfl,r.next,Nat.le_trans (lenLe_at h) (by decide)⟩ (fun _ _=>nofun) (k (lenLe_at h))
theorem tup_new (R:Rep W ρ J s.heap) (r:VRs ρ J.n vs ys) (k:vs.length<=10000->∀ {Q:Value->Shared->Prop} {Ex:Value->Shared->Prop},(∀ tk,Q (.ref s.heap.objs.size) {s with heap:=s.heap.push (tupOf ys.toArray 0),toks:=tk})->wpAny W.M A t Q Ex s):WP W A t VR (newT J vs) ρ J s:=
 WP.ifT fun h=>new_ok R ⟨ys,by rw[rhoAt_self];exact Heap.get?_push_size _ rfl,r.next,Nat.le_trans (lenLe_at h) (by decide)⟩ (fun _ _=>nofun) (k (lenLe_at h))
theorem set_list (R:Rep W ρ J s.heap) {xs:List V} (e:J.get l=some (.list xs)) {us:List Value} {ep n':Nat} {h':Heap} (ho:s.heap.get? (ρ l)=some (listOf us.toArray ep)) (r:VRs ρ J.n vs ys) (hz:vs.length<=20000) (hs:Heap.SameBut (ρ l) s.heap h') (hn:h'.get? (ρ l)=some (listOf ys.toArray n')):Sx W A ρ J s.heap ρ (J.set l (.list vs)) h':=
 Stp.setObj R e hs ⟨ys,n',hn,r,hz⟩ (fun _ _=>nofun) (fun _ _=>nofun) nofun (codeRec_sameBut hs ho fun vs=>nofun)
theorem seq_upd {h:Heap} {a:Addr} {us ys:List Value} {ep:Nat} {f:Array Value->Array Value} (ho:h.get? a=some (listOf us.toArray ep)) (e:f us.toArray=ys.toArray):∃ n',(h.update a (Obj.mapSeq f)).get? a=some (listOf ys.toArray n'):=by
 have hu:=Heap.get?_update_self (Obj.mapSeq f) ho rfl
 have:∃ n',Obj.mapSeq f (listOf us.toArray ep)=listOf (f us.toArray) n':=⟨_,rfl⟩
 obtain⟨n',z⟩:=this
 rw[z,e] at hu
 exact⟨n',hu⟩
theorem setL_ok {v:V} {pv:Value} {xs:List V} {us:List Value} {ep:Nat} {f:Array Value->Array Value} (R:Rep W ρ J s.heap) (e:J.get l=some (.list xs)) (ho:s.heap.get? (ρ l)=some (listOf us.toArray ep)) (r:VRs ρ J.n vs ys) (hv:VR ρ J.n v pv) (hf:f us.toArray=ys.toArray)
  (k:vs.length<=10000->∀ {Q:Value->Shared->Prop} {Ex:Value->Shared->Prop},Q pv {s with heap:=s.heap.update (ρ l) (Obj.mapSeq f)}->wpAny W.M A t Q Ex s):WP W A t VR (setL J l v vs) ρ J s:=
 WP.ifT fun h Q Ex g=>k (lenLe_at h) (by
  obtain⟨n',z⟩:=seq_upd ho hf
  exact g ρ _ s.toks _ (set_list R e ho r (Nat.le_trans (lenLe_at h) (by decide)) (Heap.SameBut.update ..) z) hv)
end
theorem toA (xs ys:List Value):xs.toArray++ys.toArray=(xs++ys).toArray:=List.append_toArray ..
theorem strK_append (x y:List Nat):strK x++strK y=strK (x++y):=congrArg Str.mk (List.append_toArray ..)
theorem strK_length (x:List Nat):(strK x).length=x.length:=List.size_toArray
theorem addV_ok {f:Nat->Nat->R V} {t:Value->Value->Sem Value} (R:Rep W ρ J s.heap) (ha:VR ρ J.n a pa) (hb:VR ρ J.n b pb) (k1:∀ {i j:Int} {ti tj:Tok} {Q:Value->Shared->Prop} {Ex:Value->Shared->Prop},Q (.int (i+j) s.toks) {s with toks:=s.toks+1}->wpAny W.M A (t (.int i ti) (.int j tj)) Q Ex s)
  (k2:∀ {x y:List Nat} {ti tj:Tok} {Q:Value->Shared->Prop} {Ex:Value->Shared->Prop},(x++y).length<=1000->(∀ t' k,Q (.str (strK (x++y)) t') {s with toks:=k})->wpAny W.M A (t (.str (strK x) ti) (.str (strK y) tj)) Q Ex s) (k3:∀ l k,WP W A (t (.ref (ρ l)) (.ref (ρ k))) VR (f l k) ρ J s):WP W A (t pa pb) VR (addV J a b f) ρ J s:=by
 cases ha with
 | int i ti=>exact WP.int (t:=t (.int i ti)) hb fun j tj=>okInt_ok R fun _ {_ _}=>k1
 | str x ti=>exact WP.str (t:=t (.str (strK x) ti)) hb fun y tj=>WP.ifT fun h=>str_ok R (k2 (lenLe_at h))
 | ref l hl=>exact WP.ref (t:=t (.ref (ρ l))) hb fun k _=>k3 l k
 | _=>exact WP.bad
theorem arith_ok {x:R V} {op:Operator} {t:Operator->Value->Value->Sem Value} (R:Rep W ρ J s.heap) (ha:VR ρ J.n a pa) (hb:VR ρ J.n b pb) (k0:WP W A (t .Add pa pb) VR x ρ J s) (k1:∀ {i j:Int} {ti tj:Tok} {Q:Value->Shared->Prop} {Ex:Value->Shared->Prop},Q (.int (i - j) s.toks) {s with toks:=s.toks+1}->wpAny W.M A (t .Sub (.int i ti) (.int j tj)) Q Ex s)
  (k2:∀ {i j:Int} {ti tj:Tok} {Q:Value->Shared->Prop} {Ex:Value->Shared->Prop},smallI i=true->Q (.int (i*j) s.toks) {s with toks:=s.toks+1}->wpAny W.M A (t .Mult (.int i ti) (.int j tj)) Q Ex s) (k3:∀ {i j:Int} {ti tj:Tok} {Q:Value->Shared->Prop} {Ex:Value->Shared->Prop},0<j->Q (.int (Int.fmod i j) s.toks) {s with toks:=s.toks+1}->wpAny W.M A (t .Mod (.int i ti) (.int j tj)) Q Ex s) :
  WP W A (t op pa pb) VR (arith J op a b x) ρ J s:=by
 induction op using PySem.Operator.casesOn with
 | Add=>exact k0
 | Sub=>exact WP.ii (t:=t .Sub) ha hb fun i j ti tj=>okInt_ok R fun _ {_ _}=>k1
 | Mult=>exact WP.ii (t:=t .Mult) ha hb fun i j ti tj=>WP.ifT fun h=>okInt_ok R fun _ {_ _}=>k2 h
 | Mod=>exact WP.ii (t:=t .Mod) ha hb fun i j ti tj=>WP.ifT fun h=>okInt_ok R fun _ {_ _}=>k3 ((ltI_iff _ _).mp h)
 | _=>exact WP.bad
theorem str_fits {x y:List Nat} (h:(x++y).length<=1000):(strK x).length+(strK y).length<=sizeLine:=by
 rw[strK_length,strK_length,<-List.length_append,sizeLine_eq];exact Nat.le_trans h (by decide)
theorem wp_bin (R:Rep W ρ J s.heap) (op:Operator) (ha:VR ρ J.n a pa) (hb:VR ρ J.n b pb):WP W A (binaryOp op pa pb) VR (binV J op a b) ρ J s:=
 arith_ok (t:=binaryOp) R ha hb (addV_ok (t:=binaryOp .Add) R ha hb P.add_int (fun {x y _ _ _ _} h k=>SBL.add (fun t' kk _=>by have:=k t' kk;rw[<-strK_append] at this;exact this) (str_fits h)) fun l k=>
  WP.gL R fun xs _ p=>WP.gL R fun ys _ p2=>p.el fun us ep ho vr _=>p2.el fun ws ep2 ho2 vr2 _=>list_new R (vr.append vr2) fun hlen _ _ k=>by
   have e:us.toArray.size+ws.toArray.size<=sizeLine:=by rw[vr.size,vr2.size,<-List.length_append,sizeLine_eq];exact Nat.le_trans hlen (by decide)
   refine concat_meets ⟨_,ho,rfl⟩ ⟨_,ho2,rfl⟩ noFill_list_add seq_list_add PySem.F.slot_list_add PySem.F.entry_list_add (PySem.F.args_list_add_2 _ _) (list_addW _ _ us.toArray ws.toArray ep ep2 none none #[] #[] (by first|exact e|exact decide_eq_true e|(rw[Array.size_append];exact e))) ⟨ho,ho2,?_⟩
   rw[toA]
   exact k s.toks) P.sub_int (fun h k=>P.mul_int k (.of_left (small_bits h))) fun h k=>mod_int' (Int.ne_of_gt h) k
theorem noFillI_list:fillsInplaceSlot (.type "list") "add" (Operator.Add == .Add)=pure false:=by
 unfold fillsInplaceSlot
 show(typeLookup (.type "list") (dunderI "add") >>= fun fi=>pure (fi.isSome && !isSeqSlot fi))=pure false
 rw[PySem.F.slot_list_iadd.lookup]
 kernel_rfl
theorem seqI_list:seqSlot? (.type "list") (dunderI "add")=pure (some (.builtin "list.__iadd__")):=PySem.seqSlot_of PySem.F.slot_list_iadd.lookup (by decide +kernel)
end
end

section
open PySem PySem.W PySem.Calls PyProof.Rows
theorem nth_eq {α:Type} (xs:List α):∀ i,nth xs i=xs[i]?:=by
 induction xs with
 | nil=>exact fun _=>rfl
 | cons x r ih=>
  intro i
  induction i using Nat.casesOn with
  | zero=>rfl
  | succ k=>exact ih k
theorem pop_eq (xs:List Value):xs.toArray.eraseIdxIfInBounds (xs.toArray.size - 1)=xs.dropLast.toArray:=by
 induction xs using List.casesOn with
 | nil=>rfl
 | cons a r=>
  have e:(a::r).eraseIdx r.length=(a::r).dropLast:=by
   rw[List.dropLast_eq_take,List.eraseIdx_eq_take_drop_succ]
   simp
  simp[Array.eraseIdxIfInBounds,e]
section
variable {α β γ:Type} {W:Wd} {A:Around} {ρ:Nat->Addr} {J:Store} {s:Shared} {a b:V} {pa pb:Value} {l:Nat} {n:Nat} {xs ys:List V} {us ws:List Value}
theorem cat_fits (r1:VRs ρ n xs us) (r2:VRs ρ n ys ws) (h:(xs++ys).length<=10000):us.toArray.size+ws.toArray.size<=sizeLine:=by
 rw[r1.size,r2.size,<-List.length_append,sizeLine_eq];exact Nat.le_trans h (by decide)
theorem not_long {k:Nat} {c:Bool} (h:k<=sizeLine):¬ (!c && Builtin.List.listTooLong k)=true:=fun z=>Nat.not_lt.mpr h (of_decide_eq_true (Bool.and_eq_true_iff.mp z).2)
theorem wp_aug (R:Rep W ρ J s.heap) (op:Operator) (ha:VR ρ J.n a pa) (hb:VR ρ J.n b pb):WP W A (inplaceOp op pa pb) VR (augV J op a b) ρ J s:=
 arith_ok (t:=inplaceOp) R ha hb (addV_ok (t:=inplaceOp .Add) R ha hb P.iadd_int (fun {x y _ _ _ _} h k=>SBL.iadd (fun t' kk _=>by have:=k t' kk;rw[<-strK_append] at this;exact this) (str_fits h)) fun l k=>
  WP.gL R fun xs e p=>WP.gL R fun ys _ p2=>p.el fun us ep ho vr _=>p2.el fun ws ep2 ho2 vr2 _=>setL_ok R e ho (vr.append vr2) (.ref l (R.bd _ _ e)) (toA us ws) fun hlen _ _ k=>by
   have z:=cat_fits vr vr2 hlen
   have T1:s.TypeIs (.ref (ρ _)) "list":=⟨_,ho,rfl⟩
   have T2:s.TypeIs (.ref (ρ _)) "list":=⟨_,ho2,rfl⟩
   unfold inplaceOp
   refine wpAny_holding (wpAny_bind (wpAny_typeOf T1 (wpAny_bind (wpAny_of_eq noFillI_list ?_))))
   show wpAny _ _ (if false=true then _ else _) _ _ s
   rw[if_neg Bool.false_ne_true]
   refine wpAny_bind (binaryOp1_none (nm:="add") T1 T2 noFill_list_add (wpAny_bind (wpAny_of_eq seqI_list (wpAny_bind (wpAny_rule ?_)))))
   exact call_meets PySem.F.slot_list_iadd T1 PySem.F.entry_list_iadd (PySem.F.args_list_iadd_2 _ _) (AutoSeq1.list___iadd___list_list_0 _ us.toArray ep _ ws.toArray ep2 (not_long z) (Nat.le_trans (Nat.le_add_right _ _) z) (Nat.le_succ_of_le z)) ⟨ho,ho2,k⟩) P.isub_int (fun h k=>P.imul_int k (.of_left (small_bits h))) fun h k=>imod_int (Int.ne_of_gt h) k
theorem wp_item (R:Rep W ρ J s.heap) (ho:VR ρ J.n a pa) (hi:VR ρ J.n b pb):WP W A (getItem pa pb) VR (subV J a b) ρ J s:=
 WP.sr (t:=fun pa=>getItem pa pb) ho (fun x tx=>WP.int (t:=getItem _) hi fun j tj=>WP.ifT fun h=>WP.so fun c hc=>str_ok R fun k=>by
   obtain⟨q,e,hc⟩:=ocS hc
   obtain⟨_,e1,⟨e2,e3⟩,_⟩:=idxI_ok e (Nat.le_trans (lenLe_at h) (by decide))
   refine P.getItem_str (c:=c) (by rw[decide_eq_false (Int.not_lt.mpr e2),decide_eq_false (Int.not_le.mpr e3)];rfl) ?_ (k _ _)
   rw[strK_length,e1]
   have z:=(nth_eq x q).symm.trans hc
   exact(List.getElem?_toArray ..).trans z) fun l _=>
  WP.gO R (fun xs _ p=>WP.int (t:=getItem _) hi fun j tj=>WP.so fun v hv=>p.el fun us ep hl vr hz=>by
   obtain⟨q,y,e,hy,hvr⟩:=nthI_at vr hv
   obtain⟨_,_,⟨e2,e3⟩,e4⟩:=idxI_ok e hz
   refine WP.ok R hvr fun k=>?_
   rcases e4 with ⟨p1,p2⟩|⟨p1,p2,p3⟩
   ·exact wpAny_getItem_list (isL_of hl) p1 e3 (by rw[p2];exact hy) (k s.toks)
   ·exact wpAny_getItem_list_neg (isL_of hl) p1 (by rw[vr.size];exact p2) e2 (by rw[vr.size,p3];exact hy) (k s.toks))
  (fun xs _ p=>WP.int (t:=getItem _) hi fun j tj=>WP.so fun v hv=>p.el fun us hl vr hz=>by
   obtain⟨q,y,e,hy,hvr⟩:=nthI_at vr hv
   obtain⟨_,e1,⟨e2,e3⟩,_⟩:=idxI_ok e hz
   exact WP.ok R hvr fun k=>PyProof.Rows.getItem_tuple (isT_of hl) e2 e3 (by rw[vr.size];exact e1) hy (k s.toks))
  fun es _ p=>WP.str (t:=getItem _) hi fun x tx=>WP.so fun v hv=>p.dic.el fun kvs D kv _=>by
   have z:=kv.at x
   rw[hv] at z
   exact z.elS (P:=fun y=>valueAt kvs (strK x)=y->_) (fun y hvr e=>WP.ok R hvr fun q=>wpAny_getItem_of (strKind_is _ _ _ _) D.mapOf e (q _)) rfl
theorem WP.pos {t:Value->Sem α} {rel:(Nat->Addr)->Nat->β->α->Prop} {f:Nat->R β} (hv:VR ρ J.n a pa) (k:∀ i tk,i<1000000000->WP W A (t (.int (Int.ofNat i) tk)) rel (f i) ρ J s):WP W A (t pa) rel (pos a .bad f) ρ J s:=WP.int (t:=t) hv fun i tk=>by
 induction i using Int.casesOn with
 | ofNat i=>exact WP.ifT fun h=>k i tk (blt_of h)
 | negSucc i=>exact WP.bad
inductive VO (ρ:Nat->Addr) (n:Nat):Option V->Value->Prop
 | none:VO ρ n none .none
 | some {v x} (h:VR ρ n v x):VO ρ n (some v) x
theorem VO.mono {ah:Nat->Addr} {n n':Nat} {v:Option V} {x:Value} (h:VO ρ n v x) (a:∀ l,l<n->ah l=ρ l) (hn:n<=n'):VO ah n' v x:=by
 cases h with
 | none=>exact .none
 | some h=>exact .some (h.mono a hn)
theorem adjust_upto (b n:Nat) (hb:b<=n):Builtin.Slice.sliceAdjust none (some (b:Int)) 1 (n:Int)=((0:Int),(b:Int)):=by
 unfold Builtin.Slice.sliceAdjust
 have h1:¬ ((1:Int)<0):=by decide
 have h2:¬ ((b:Int)<0):=Int.not_lt.mpr (Int.natCast_nonneg b)
 simp only[h1,h2,if_false]
 rw[Int.min_eq_left (Int.ofNat_le.mpr hb)]
theorem places_upto (b:Nat):Builtin.Slice.slicePlaces 0 (b:Int) 1=b:=by
 unfold Builtin.Slice.slicePlaces
 have h1:(1:Int) > 0:=by decide
 simp only[h1,if_true,Int.ediv_one]
 split<;>omega
section
variable {prog:Program} {w:World} {E:Value->Shared->Prop}
theorem sliceApplied_upto {sl:Addr} {b n:Nat} {u:Tok} {Q:Int×Int×Nat->Shared->Prop} (hs:s.heap.IsSliceOf sl .none (.int b u) .none) (hb:b<=n) (h:Q ((0:Int),1,b) s) :
  wpAny (model prog w) A (Builtin.Slice.sliceApplied (.ref sl) (pure (n:Int))) Q E s:=by
 obtain⟨os,hos,hcs,hds⟩:=id hs
 unfold Builtin.Slice.sliceApplied Builtin.Slice.sliceFields
 refine wpAny_bind (wpAny_bind (wpAny_field hos hds (x:=.none) rfl (wpAny_bind (wpAny_field hos hds (x:=.int b u) rfl (wpAny_bind (wpAny_field hos hds (x:=.none) rfl (wpAny_pure ?_)))))))
 refine wpAny_bind (slicePart_none ?_)
 show wpAny _ _ (if ((1:Int) == 0)=true then _ else _) _ _ s
 rw[if_neg (by decide)]
 refine wpAny_bind (slicePart_none (wpAny_bind (slicePart_int (wpAny_bind (wpAny_pure ?_)))))
 show wpAny _ _ (match Builtin.Slice.sliceAdjust none (some (b:Int)) 1 (n:Int) with|(lo,hi)=>pure (lo,(1:Int),Builtin.Slice.slicePlaces lo hi 1)) _ _ s
 rw[adjust_upto b n hb]
 show wpAny _ _ (pure ((0:Int),(1:Int),Builtin.Slice.slicePlaces (0:Int) (b:Int) 1)) _ _ s
 rw[places_upto b]
 exact wpAny_pure h
theorem pick_upto (xs:Array Value) (b:Nat):((List.range b).filterMap fun (k:Nat)=>xs[((0:Int)+(k:Int)*1).toNat]?).toArray=(xs.toList.take b).toArray:=by
 have e:(fun (k:Nat)=>xs[((0:Int)+(k:Int)*1).toNat]?)=fun k=>xs[0+k]?:=by
  funext k
  have:((0:Int)+(k:Int)*1).toNat=0+k:=by omega
  rw[this]
 rw[e]
 have:=pick_run xs 0 b
 rw[List.filterMap_map] at this
 have e2:((fun x=>xs[x]?) ∘ fun x=>0+x)=fun k=>xs[0+k]?:=rfl
 rw[e2] at this
 rw[this,List.drop_zero]
theorem getItem_tuple_upto {t sl:Addr} {items:Array Value} {b:Nat} {u:Tok} {Q:Value->Shared->Prop} (ht:IsTup s.heap t items) (hs:s.heap.IsSliceOf sl .none (.int b u) .none) (hb:b<items.size) (hsz:items.size<=sizeLine)
  (h:Q (.ref s.heap.objs.size) {s with heap:=s.heap.push {cls:=.type "tuple",data:=.seq (items.toList.take b).toArray}}):wpAny (model prog w) A (getItem (.ref t) (.ref sl)) Q E s:=by
 have hdrop:sizeOk (.seq (items.toList.take b).toArray):=by
  show(items.toList.take b).toArray.size<=sizeLine
  rw[List.size_toArray]
  exact Nat.le_trans (List.length_take_le ..) (Nat.le_trans (Nat.le_of_lt hb) hsz)
 obtain⟨os,hos,hcs,hds⟩:=id hs
 have hTs:s.TypeIs (.ref sl) "slice":=⟨os,hos,hcs⟩
 unfold getItem
 try with_reducible refine wpAny_holding ?_
 first|refine wpAny_bind (wpAny_pure ?_)|skip
 refine wpAny_bind (wpAny_sequenceKey ht.typeIs (by decide) ?_)
 refine wpAny_bind (wpAny_callSpecial?_slot (name:=Str.ofString "__getitem__") ht.typeIs slot_tuple_getitem
  (wpAny_call_entry slot_tuple_getitem ht.typeIs entry_tuple_getitem ?_ (args_tuple_getitem _ _)))
 show wpAny _ _ (Builtin.Tuple.tupleItemsOf (.ref t) >>= _) _ _ s
 refine wpAny_bind (tupleItemsOf_ ht ?_)
 refine wpAny_bind (wpAny_typeOf hTs ?_)
 rw[if_pos (by decide)]
 refine wpAny_bind (sliceApplied_upto hs (Nat.le_of_lt hb) ?_)
 have hno:¬ (((0:Int) == 0 && (1:Int) == 1 && b == items.size)=true):=fun z=>Nat.ne_of_lt hb (eq_of_beq (Bool.and_eq_true_iff.mp z).2)
 show wpAny _ _ (if ((0:Int) == 0 && (1:Int) == 1 && b == items.size)=true then _ else _) _ _ s
 rw[if_neg hno,pick_upto items b]
 first
  | exact wpAny_bind (m:=Builtin.Tuple.tupleExact _) (wpAny_newObj_type (wpAny_pure ⟨_,rfl,wpAny_pure h⟩) hdrop)
  | exact wpAny_bind (m:=Builtin.Tuple.tupleExact _) (wpAny_newObj_type (wpAny_bind (wpAny_pure (wpAny_pure ⟨_,rfl,wpAny_pure h⟩))) hdrop)
  | exact wpAny_bind (wpAny_bind (m:=Builtin.Tuple.tupleExact _) (wpAny_newObj_type (wpAny_pure (wpAny_pure ⟨_,rfl,wpAny_pure h⟩)) hdrop))
  | exact wpAny_bind (wpAny_bind (m:=Builtin.Tuple.tupleExact _) (wpAny_newObj_type (wpAny_pure ⟨_,rfl,wpAny_pure h⟩) hdrop))
end
theorem wp_cutTo (R:Rep W ρ J s.heap) {sl:Addr} {m:Nat} {u:Tok} (ho:VR ρ J.n a pa) (hs:s.heap.IsSliceOf sl .none (.int (Int.ofNat m) u) .none):WP W A (getItem pa (.ref sl)) VR (cutTo J a m) ρ J s:=
 WP.sr (t:=fun pa=>getItem pa (.ref sl)) ho (fun x tx=>WP.ifT fun h=>WP.ifT fun hn=>str_ok R fun k=>by
   have hn:=Nat.le_of_ble_eq_true hn
   refine wpAny_getItem_str_slice (l:=none) (u:=some (Int.ofNat m,u)) (st:=none) hs rfl ?_
   have e:=eq_of_beq (slice_closes_toL (x:=strK x) (j:=Int.ofNat m) (by simp) (by rw[strK_length];simp;omega))
   have e2:Txt.slice (strK x) none (some (Int.ofNat m))=strK (x.take m):=by rw[e];simp[strK]
   exact post_val_or_str ⟨Nat.le_trans (Txt.slice_le (strK x) _ _) (by rw[strK_length,sizeLine_eq];exact Nat.le_trans (lenLe_at h) (by decide)),fun t' kk=>by have:=k t' kk;rw[<-e2] at this;exact this⟩) fun l _=>
  WP.gO R (fun xs _ p=>p.el fun us ep hl vr hz=>list_new R (vr.take m) fun _ _ _ k=>by
   refine wpAny_getItem_list_slice (isL_of hl) hs .none (.int _ _) .none (by simp) ?_ (fits vr hz)
   rw[show(some (Int.ofNat m):Option Int)=some ((m:Nat):Int) from rfl,slicePick_upto']
   exact k s.toks)
  (fun xs _ p=>WP.ifF fun h=>p.el fun us hl vr hz=>tup_new R (vr.take m) fun _ _ _ k=>getItem_tuple_upto (isT_of hl) hs (by rw[vr.size];exact Nat.not_le.mp fun z=>by rw[lenLe_of z] at h;cases h) (fits vr hz) (k s.toks))
  fun _ _ _=>WP.bad
theorem wp_cutFrom (R:Rep W ρ J s.heap) {sl:Addr} {m:Nat} {u:Tok} (ho:VR ρ J.n a pa) (hs:s.heap.IsSliceOf sl (.int (Int.ofNat m) u) .none .none):WP W A (getItem pa (.ref sl)) VR (cutFrom J a m) ρ J s:=
 WP.ref (t:=fun pa=>getItem pa (.ref sl)) ho fun l _=>WP.gL R fun xs _ p=>p.el fun us ep hl vr hz=>list_new R (vr.drop m) fun _ _ _ k=>by
  refine wpAny_getItem_list_slice (isL_of hl) hs (.int _ _) .none .none (by simp) ?_ (fits vr hz)
  rw[show(some (Int.ofNat m):Option Int)=some ((m:Nat):Int) from rfl,slicePick_from']
  exact k s.toks
theorem wp_cut (R:Rep W ρ J s.heap) {lo hi:Option V} {pl pu:Value} {sl:Addr} (ho:VR ρ J.n a pa) (hl:VO ρ J.n lo pl) (hu:VO ρ J.n hi pu) (hs:s.heap.IsSliceOf sl pl pu .none):WP W A (getItem pa (.ref sl)) VR (cutV J a lo hi) ρ J s:=by
 cases hl with
 | none=>
  cases hu with
  | none=>exact WP.bad
  | some hu=>
   revert hs
   cases hu with
   | int i tk=>
    intro hs
    induction i using Int.casesOn with
    | ofNat i=>exact WP.ifT fun _=>wp_cutTo R ho hs
    | negSucc i=>exact WP.bad
   | _=>exact fun _=>WP.bad
 | some hl=>
  cases hu with
  | some hu=>exact WP.bad
  | none=>
   revert hs
   cases hl with
   | int i tk=>
    intro hs
    induction i using Int.casesOn with
    | ofNat i=>exact WP.ifT fun _=>wp_cutFrom R ho hs
    | negSucc i=>exact WP.bad
   | _=>exact fun _=>WP.bad
theorem set_dict (R:Rep W ρ J s.heap) {es:List (List Nat×V)} (e:J.get l=some (.dict es)) {kvs:List (Str×Value)} {h':Heap} {x:List Nat} {v:V} {pv:Value} (D0:s.heap.DictOf (SK W) (ρ l) kvs) (kv:KV ρ J.n es kvs) (nd:(es.map (·.1)).Nodup) (hv:VR ρ J.n v pv) (D:h'.DictOf (SK W) (ρ l) (stored kvs (strK x) pv)) (hs:Heap.SameBut (ρ l) s.heap h') :
  Sx W A ρ J s.heap ρ (J.set l (.dict (putS es x v))) h':=by
 obtain⟨o,_,_,ho,_,hd,_⟩:=D0
 exact Stp.setObj R e hs (DicK.pd ⟨_,D,kv.stored nd x hv,nodup_putG eqS_iff es x v nd⟩) (fun _ _=>nofun) (fun _ _=>nofun) nofun (codeRec_sameBut hs ho fun vs q=>by rw[hd] at q;cases q)
theorem setD_ok {t:Sem α} {rel:(Nat->Addr)->Nat->V->α->Prop} {u v:V} {pv:Value} {pu:α} {x:List Nat} {es:List (List Nat×V)} {kvs:List (Str×Value)} (R:Rep W ρ J s.heap) (e:J.get l=some (.dict es)) (D0:s.heap.DictOf (SK W) (ρ l) kvs) (kv:KV ρ J.n es kvs) (nd:(es.map (·.1)).Nodup) (hv:VR ρ J.n v pv) (hu:rel ρ J.n u pu)
  (k:kvs.length<=sizeLine->∀ {Q:α->Shared->Prop} {Ex:Value->Shared->Prop},(∀ h',h'.DictOf (SK W) (ρ l) (stored kvs (strK x) pv)->Heap.SameBut (ρ l) s.heap h'->Q pu {s with heap:=h',toks:=s.toks+1})->wpAny W.M A t Q Ex s):WP W A t rel (setD J l es x v u) ρ J s:=
 WP.ifT fun h Q Ex g=>k (fitsD kv (lenLe_at h)) fun h' D hs=>g ρ h' _ _ (set_dict R e D0 kv nd hv D hs) hu
theorem setItem_own {prog:Program} {w:World} {l:Addr} {ys:List Value} {ep:Nat} {k:Int} {t:Tok} {v:Value} {Q:Unit->Shared->Prop} {E:Value->Shared->Prop} (ho:s.heap.get? l=some (PySem.W.listOf ys.toArray ep))
  (h0:0<=k) (hfit:k<2 ^ 63) (hn:k.toNat<ys.toArray.size) (hQ:Q () {s with heap:=s.heap.update l (Obj.mapSeq (·.setIfInBounds k.toNat v))}):wpAny (model prog w) A (setItem (.ref l) (.int k t) v) Q E s:=by
 have hl:s.heap.IsList l ys.toArray:=isL_of ho
 unfold setItem
 try with_reducible refine wpAny_holding ?_
 first|refine wpAny_bind (wpAny_pure ?_)|skip
 refine wpAny_bind (wpAny_sequenceKey hl.typeIs (by decide) ?_)
 refine wpAny_bind (wpAny_callSpecial?_slot (name:=Str.ofString "__setitem__") hl.typeIs slot_list_setitem
  (wpAny_call_entry slot_list_setitem hl.typeIs entry_list_setitem ?_ (args_list_setitem _ _ _)))
 show wpAny _ _ (Builtin.List.listSubscript? (.int k t) >>= _) _ _ s
 refine wpAny_bind (wpAny_listSubscript_int (fitsIndex_of h0 hfit) ?_)
 clear hfit
 obtain⟨j,rfl⟩:=Int.eq_ofNat_of_zero_le h0
 have hx':ys.toArray[j]?=some (ys.toArray[j]'hn):=Array.getElem?_eq_getElem hn
 show wpAny _ _ ((seqItemAt l j >>= fun r=>pure (r.map (j,·))) >>= _) _ _ s
 refine wpAny_bind (wpAny_bind (wpAny_seqItemAt ho rfl (wpAny_pure ?_)))
 rw[hx']
 show wpAny _ _ (setSeqItemAt l j v >>= _) _ _ s
 refine wpAny_bind (wpAny_setSeqItemAt ho rfl ?_)
 first
  | exact wpAny_bind (wpAny_pure (wpAny_pure ⟨.none,rfl,wpAny_pure hQ⟩))
  | exact wpAny_pure ⟨.none,rfl,wpAny_pure hQ⟩
noncomputable abbrev relU:(Nat->Addr)->Nat->V->Unit->Prop:=fun _ _ _ _=>True
theorem wp_setItem (R:Rep W ρ J s.heap) {v:V} {pv:Value} (ho:VR ρ J.n a pa) (hi:VR ρ J.n b pb) (hv:VR ρ J.n v pv):WP W A (setItem pa pb pv) relU (setItemV J a b v) ρ J s:=
 WP.ref (t:=fun pa=>setItem pa pb pv) ho fun l _=>WP.gO R (fun xs e p=>WP.pos (t:=fun pb=>setItem _ pb pv) hi fun j tj hj=>WP.ifT fun hb Q Ex k=>p.el fun us ep hl vr hz=>by
   obtain⟨n',z⟩:=seq_upd (f:=(·.setIfInBounds j pv)) (ys:=us.set j pv) hl (List.setIfInBounds_toArray ..)
   exact setItem_own hl (Int.natCast_nonneg j) (Int.lt_trans (Int.ofNat_lt.mpr hj) (by decide)) (by rw[vr.size];exact blt_of hb) (k ρ _ s.toks _ (set_list R e hl (vr.set hv j) (by rw[List.length_set];exact hz) (Heap.SameBut.update ..) z) trivial))
  (fun _ _ _=>WP.bad) fun es e p=>WP.str (t:=fun pb=>setItem _ pb pv) hi fun x tx=>p.dic.el fun kvs D kv nd=>setD_ok (pu:=()) R e D kv nd hv trivial fun hf _ _ k=>wpAny_setItem_pairs (strKind_is _ _ _ _) D k hf
noncomputable def BM.id (f:BM):String:=@BM.rec (fun _=>String) "list.append" "list.extend" "list.pop" "dict.get" "dict.setdefault" f
theorem wp_meth (ok:WdOk W) (R:Rep W ρ J s.heap) (f:BM) {as:List V} {xs:List Value} (ha:VRs ρ J.n as xs):WP W A (call (.builtin f.id) (.ref (ρ l)::xs)) VR (methV J l f as) ρ J s:=by
 induction f using Mine.BM.casesOn with
 | append=>
  refine WP.gO R (fun us e p=>WP.l1 (t:=fun xs=>call (.builtin "list.append") (.ref (ρ l)::xs)) ha fun v x hv=>p.el fun ys ep ho vr hz=>?_) (fun _ _ _=>WP.bad) fun _ _ _=>WP.bad
  exact setL_ok R e ho (vr.append (.cons hv .nil)) .none (List.push_toArray ..) fun hz _ _ k=>call_meets PySem.F.slot_list_append ⟨_,ho,rfl⟩ PySem.F.entry_list_append (PySem.F.args_list_append_2 _ _) (AutoListH.list_append_list_val_0 _ ys.toArray ep x (fits vr (by assumption))) ⟨ho,k⟩
 | extend=>
  refine WP.gO R (fun us e p=>WP.l1 (t:=fun xs=>call (.builtin "list.extend") (.ref (ρ l)::xs)) ha fun v x hv=>p.el fun ys ep ho vr hz=>WP.ref (t:=fun x=>call (.builtin "list.extend") [.ref (ρ l),x]) hv fun k _=>WP.ifF fun _=>WP.gO R (fun zs _ p2=>p2.el fun ws ep2 ho2 vr2 hz2=>?_) (fun zs _ p2=>p2.el fun ws ho2 vr2 hz2=>?_) fun _ _ _=>WP.bad) (fun _ _ _=>WP.bad) fun _ _ _=>WP.bad
  ·exact setL_ok R e ho (vr.append vr2) .none (toA ys ws) fun hlen _ _ k=>call_meets PySem.F.slot_list_extend ⟨_,ho,rfl⟩ PySem.F.entry_list_extend (PySem.F.args_list_extend_2 _ _) (AutoSeq1.list_extend_list_list_0 _ ys.toArray ep _ ws.toArray ep2 (not_long (cat_fits vr vr2 hlen)) (fits vr hz) (Nat.le_succ_of_le (cat_fits vr vr2 hlen))) ⟨ho,ho2,k⟩
  ·exact setL_ok R e ho (vr.append vr2) .none (toA ys ws) fun hlen _ _ k=>call_meets PySem.F.slot_list_extend ⟨_,ho,rfl⟩ PySem.F.entry_list_extend (PySem.F.args_list_extend_2 _ _) (AutoSeq1.list_extend_list_tuple_0 _ ys.toArray ep _ ws.toArray 0 (not_long (cat_fits vr vr2 hlen)) (fits vr hz) (Nat.le_succ_of_le (cat_fits vr vr2 hlen))) ⟨ho,ho2,k⟩
 | pop=>
  refine WP.gO R (fun us e p=>WP.l0 (t:=fun xs=>call (.builtin "list.pop") (.ref (ρ l)::xs)) ha (WP.so fun v hv Q Ex k=>p.el fun ys ep ho vr hz=>?_)) (fun _ _ _=>WP.bad) fun _ _ _=>WP.bad
  rewrite[lastR_eq] at hv
  rewrite[dropR_eq] at k
  have z:=vr.last
  rw[hv] at z
  refine z.elS (P:=fun y=>ys.getLast?=y->_) (fun y hvy hy=>?_) rfl
  have e1:ys.toArray.eraseIdxIfInBounds (ys.toArray.size - 1)=ys.dropLast.toArray:=pop_eq ys
  obtain⟨n',z⟩:=seq_upd (f:=fun x=>x.eraseIdxIfInBounds (ys.toArray.size - 1)) ho e1
  exact call_meets PySem.F.slot_list_pop ⟨_,ho,rfl⟩ PySem.F.entry_list_pop (PySem.F.args_list_pop_1 _) (MeetsSeq.list_pop_last _ ys.toArray ep y (by rw[List.getLast?_eq_getElem?] at hy;simpa using hy) (fits vr hz)) ⟨ho,k ρ _ s.toks _ (set_list R e ho vr.dropLast (by rw[List.length_dropLast];exact Nat.le_trans (Nat.sub_le _ _) hz) (Heap.SameBut.update ..) z) hvy⟩
 | get=>
  refine WP.gO R (fun _ _ _=>WP.bad) (fun _ _ _=>WP.bad) fun es e p=>WP.l2 (t:=fun xs=>call (.builtin "dict.get") (.ref (ρ l)::xs)) ha fun v u x y hv hu=>WP.str (t:=fun x=>call (.builtin "dict.get") [.ref (ρ l),x,y]) hv fun k tk=>p.dic.el fun kvs D kv _=>?_
  have hg:VR ρ J.n (oc (lkS es k) u fun v=>v) ((valueAt kvs (strK k)).getD y):=by
   have z:=kv.at k
   revert z
   induction lkS es k using Option.casesOn with
   | none=>exact fun z=>z.elN (P:=fun w=>VR ρ J.n u (w.getD y)) hu
   | some v=>exact fun z=>z.elS (P:=fun w=>VR ρ J.n v (w.getD y)) fun _ h=>h
  exact WP.ok R hg fun q=>call_meetsIn PySem.F.slot_dict_get D.mapOf.typeIs PySem.F.entry_dict_get (PySem.F.args_dict_get_3 _ _ _) (meets_dict_get_default (strKind W.prog W.w) (ρ l) (strKind_is _ _ _ _) (R.notMods ok e) y) ⟨_,D.mapOf,q _⟩
 | setdefault=>
  refine WP.gO R (fun _ _ _=>WP.bad) (fun _ _ _=>WP.bad) fun es e p=>WP.l2 (t:=fun xs=>call (.builtin "dict.setdefault") (.ref (ρ l)::xs)) ha fun v u x y hv hu=>WP.str (t:=fun x=>call (.builtin "dict.setdefault") [.ref (ρ l),x,y]) hv fun k tk=>p.dic.el fun kvs D kv nd=>?_
  have cl:=fun (Q:Value->Shared->Prop) (Ex:Value->Shared->Prop) z=>call_meetsIn (A:=A) (s:=s) (Q:=Q) (E:=Ex) PySem.F.slot_dict_setdefault D.mapOf.typeIs PySem.F.entry_dict_setdefault (PySem.F.args_dict_setdefault_3 _ _ _) (kt_meets_setdefault (strKind W.prog W.w) (ρ l) (strKind_is W.prog W.w (strK k) tk) (R.notMods ok e) y) z
  have z:=kv.at k
  revert z
  induction lkS es k using Option.casesOn with
  | none=>exact fun z=>z.elN (P:=fun w=>valueAt kvs (strK k)=w->_) (fun z=>setD_ok R e D kv nd hu hu fun hf _ _ q=>cl _ _ ⟨_,D,hf,fun v hv=>(by rw[z] at hv;cases hv),fun _ h' D' hs=>q h' D' hs⟩) rfl
  | some v=>exact fun z=>z.elS (P:=fun w=>valueAt kvs (strK k)=w->_) (fun w hw z=>WP.ifT fun hl=>WP.ok R hw fun q=>cl _ _ ⟨_,D,fitsD kv (lenLe_at hl),fun v' hv=>(by rw[z] at hv;rw[<-Option.some.inj hv];exact q _),fun hn=>(by rw[z] at hn;cases hn)⟩) rfl
end
end

section
open PySem PySem.W PySem.Calls PyProof.Rows
inductive HdAt (A:Around) (h:Heap):Prop
 |no (a:A.handled=none)
 |at_ (e:Addr) (o:Obj) (vs:Array Value) (a:A.handled=some (.ref e)) (ho:h.get? e=some o) (hd:o.data=.fields vs) (h2:vs[2]?=some .none)
theorem HdAt.keeps {A A':Around} {h h':Heap} (H:HdAt A h) (ea:A'.handled=A.handled) (k:∀ e o,A.handled=some (.ref e)->h.get? e=some o->h'.get? e=some o):HdAt A' h':=by
 rcases H with a|⟨e,o,vs,a,b,c,d⟩
 ·exact .no (ea.trans a)
 ·exact .at_ e o vs (ea.trans a) (k _ _ a b) c d
theorem HdOk.at_ {W:Wd} {A:Around} {hd:Bool} {ρ:Nat->Addr} {J:Store} {h:Heap} (H:HdOk W A hd ρ J h):HdAt A h:=by
 rcases H with q|⟨_,e,a,H⟩
 ·exact .no q
 ·obtain⟨o,vs,ho,hd,h2⟩:=H.at_
  exact .at_ e o vs a ho hd h2
theorem entry_unchain:entryFor table "proto.unchain" = some Builtin.«proto.unchain»:=entryFor_of_tree (by kernel_rfl)
section
variable {prog:Program} {w:World} {A:Around} {s:Shared} {E:Value->Shared->Prop}
theorem raise_made {α:Type} {a:Addr} {o:Obj} {vs:Array Value} {Q:α->Shared->Prop} (H:HdAt A s.heap) (ho:s.heap.get? a=some o) (hd:o.data=.fields vs) (hz:2<vs.size)
  (hne:∀ e,A.handled=some (.ref e)->e≠a)
  (k:∀ h',Heap.SameBut a s.heap h'->(∃ o',h'.get? a=some o'/\o'.cls=o.cls)->E (.ref a) {s with heap:=h'}):wpAny (model prog w) A (raiseNew (.ref a):Sem α) Q E s:=by
 unfold raiseNew
 rcases H with q|⟨e,oe,ve,q,he,hed,h2⟩
 ·refine wpAny_bind (wpAny_handled ?_)
  rw[q]
  exact wpAny_bind (wpAny_pure (wpAny_throw (k s.heap (Heap.SameBut.refl ..) ⟨o,ho,rfl⟩)))
 ·refine wpAny_bind (wpAny_handled ?_)
  rw[q]
  dsimp only
  rw[if_pos (bne_iff_ne.mpr fun z=>hne e q (Value.ref.inj z))]
  refine wpAny_bind (wpAny_holding (wpAny_runValue (codeAny_builtin entry_unchain ?_)))
  show wpAny _ _ (field (.ref e) 2 >>= _) _ _ s
  refine wpAny_bind (wpAny_field he hed (x:=.none) h2 ?_)
  show wpAny _ _ (if (Value.none == Value.none)=true then _ else _) _ _ s
  rw[if_pos (show(Value.none == Value.none)=true from rfl)]
  refine wpAny_pure ?_
  dsimp only
  refine wpAny_bind ?_
  unfold updateField
  refine wpAny_bind (wpAny_load ho ?_)
  rw[hd]
  dsimp only
  rw[if_pos hz]
  refine wpAny_update ho ?_
  exact wpAny_throw (k _ (Heap.SameBut.update ..) ⟨_,Heap.get?_update_self _ ho (Obj.isFreed_of_fields (Obj.data_mapFields hd _)),Obj.cls_mapFields ..⟩)
theorem stop_tail {α:Type} {Q:α->Shared->Prop} (H:HdAt A s.heap)
  (k:∀ h' a,s.heap.objs.size<=h'.objs.size->(∀ b o,s.heap.get? b=some o->h'.get? b=some o)->(∃ o,h'.get? a=some o/\o.cls=.type "StopIteration")->E (.ref a) {s with heap:=h'}) :
  wpAny (model prog w) A (newExc (.type "StopIteration") [] >>= fun e=>raiseNew e) Q E s:=by
 refine wpAny_bind ?_
 simp only[newExc,newTuple]
 refine wpAny_bind (wpAny_newObj_type ?_ (by size_fits))
 refine wpAny_bind (m:=firstArgMember _ _) (wpAny_of_eq (a:=Value.none) (by first|rfl|(simp only[firstArgMember];rfl)) ?_)
 refine wpAny_newObj_type ?_ (by size_fits)
 have kp:∀ {h:Heap} {x y:Obj} {b o},h.get? b=some o->((h.push x).push y).get? b=some o:=fun e=>Heap.get?_push_of_some _ (Heap.get?_push_of_some _ e)
 have lt:∀ {h:Heap} {x:Obj} {b o},h.get? b=some o->b<(h.push x).objs.size:=fun e=>Heap.lt_size (Heap.get?_push_of_some _ e)
 refine raise_made (H.keeps rfl fun _ _ _=>kp) (Heap.get?_push_size _ rfl) rfl (by simp;exact Nat.lt_add_right _ (by decide)) (fun e q=>?_) fun h' hs ho=>k _ _ ?_ (fun b o e=>(hs.2 b (Nat.ne_of_lt (lt e))).trans (kp e)) ho
 ·rcases H with z|⟨e',o,vs,q',he,_⟩
  ·rw[z] at q;cases q
  ·rw[q'] at q
   rw[<-Value.ref.inj (Option.some.inj q)]
   exact Nat.ne_of_lt (lt he)
 ·rw[hs.1]
  exact Nat.le_trans (size_le _ _) (size_le _ _)
structure Ended (it:Addr) (h h':Heap):Prop where
 size:h.objs.size<=h'.objs.size
 keep:∀ b o,b≠it->h.get? b=some o->h'.get? b=some o
 at_:∃ o,h'.get? it=some o
theorem list_end {it l:Addr} {i:Nat} {items:Array Value} {Q:Option Value->Shared->Prop} (H:HdAt A s.heap)
  (hit:s.heap.IsListIter it l i) (hl:s.heap.IsList l items) (hx:items[i]?=none) (hhd:∀ e,A.handled=some (.ref e)->e≠it)
  (hQ:∀ h',Ended it s.heap h'->Q none {s with heap:=h'}):wpAny (model prog w) A (pyNext (.ref it)) Q E s:=by
 obtain⟨o,ho,hc,hd⟩:=id hit
 obtain⟨ol,hol,_,nl,hdl⟩:=hl
 unfold pyNext
 refine wpAny_bind (wpAny_attempt (wpAny_callSpecial?_slot (name:=Str.ofString "__next__") hit.typeIs slot_listiter_next
  (wpAny_call_entry slot_listiter_next hit.typeIs entry_listiter_next ?_ (args_listiter_next _))))
 show wpAny _ _ (field (.ref it) 0 >>= _) _ _ s
 refine wpAny_bind (wpAny_field ho hd (x:=.ref l) rfl ?_)
 show wpAny _ _ (if (Value.ref l == Value.none)=true then _ else _) _ _ s
 rw[if_neg (show ¬ ((Value.ref l == Value.none)=true) from Bool.false_ne_true)]
 show wpAny _ _ (field (.ref it) 1 >>= _) _ _ s
 refine wpAny_bind (wpAny_field ho hd (x:=.int i 0) rfl ?_)
 show wpAny _ _ (seqItems? (.ref l) >>= _) _ _ s
 refine wpAny_bind (wpAny_seqItems hol hdl ?_)
 simp only[Int.toNat_natCast,hx]
 refine wpAny_bind (wpAny_rule (wpAny_bind (wpAny_setField ho hd (by simp) ?_)))
 have hu:=Heap.get?_update_self (Obj.mapFields (·.setIfInBounds 0 Value.none)) ho (Obj.isFreed_of_fields (Obj.data_mapFields hd _))
 refine stop_tail (H.keeps rfl fun e o q z=>(Heap.get?_update_other _ _ (Ne.symm (hhd e q))).trans z) fun h' a hz hk ⟨ao,hao,hac⟩=>?_
 refine wpAny_bind (wpAny_isInstance (T:="StopIteration") (b:=true) ⟨ao,hao,hac⟩ isSubtype_stop ?_)
 exact wpAny_pure (hQ _ ⟨Nat.le_trans (Nat.le_of_eq (Heap.size_after_update ..).symm) hz,fun b ob hb e=>hk _ _ ((Heap.get?_update_other _ _ (Ne.symm hb)).trans e),_,hk _ _ hu⟩)
theorem tup_end {it t:Addr} {i:Nat} {items:Array Value} {Q:Option Value->Shared->Prop} (H:HdAt A s.heap)
  (hit:IsTupIter s.heap it t i) (ht:IsTup s.heap t items) (hx:items[i]?=none) (hhd:∀ e,A.handled=some (.ref e)->e≠it)
  (hQ:∀ h',Ended it s.heap h'->Q none {s with heap:=h'}):wpAny (model prog w) A (pyNext (.ref it)) Q E s:=by
 obtain⟨o,ho,hc,hd⟩:=id hit
 obtain⟨ol,hol,_,nl,hdl⟩:=ht
 unfold pyNext
 refine wpAny_bind (wpAny_attempt (wpAny_callSpecial?_slot (name:=Str.ofString "__next__") hit.typeIs slot_tupleiter_next
  (wpAny_call_entry slot_tupleiter_next hit.typeIs entry_tupleiter_next ?_ (args_tupleiter_next _))))
 show wpAny _ _ (field (.ref it) 0 >>= _) _ _ s
 refine wpAny_bind (wpAny_field ho hd (x:=.ref t) rfl ?_)
 show wpAny _ _ (if (Value.ref t == Value.none)=true then _ else _) _ _ s
 rw[if_neg (show ¬ ((Value.ref t == Value.none)=true) from Bool.false_ne_true)]
 show wpAny _ _ (field (.ref it) 1 >>= _) _ _ s
 refine wpAny_bind (wpAny_field ho hd (x:=.int i 0) rfl ?_)
 show wpAny _ _ (seqItems? (.ref t) >>= _) _ _ s
 refine wpAny_bind (wpAny_seqItems hol hdl ?_)
 simp only[Int.toNat_natCast,hx]
 refine wpAny_bind (wpAny_rule (wpAny_bind (wpAny_setField ho hd (by simp) ?_)))
 have hu:=Heap.get?_update_self (Obj.mapFields (·.setIfInBounds 0 Value.none)) ho (Obj.isFreed_of_fields (Obj.data_mapFields hd _))
 refine stop_tail (H.keeps rfl fun e o q z=>(Heap.get?_update_other _ _ (Ne.symm (hhd e q))).trans z) fun h' a hz hk ⟨ao,hao,hac⟩=>?_
 refine wpAny_bind (wpAny_isInstance (T:="StopIteration") (b:=true) ⟨ao,hao,hac⟩ isSubtype_stop ?_)
 exact wpAny_pure (hQ _ ⟨Nat.le_trans (Nat.le_of_eq (Heap.size_after_update ..).symm) hz,fun b ob hb e=>hk _ _ ((Heap.get?_update_other _ _ (Ne.symm hb)).trans e),_,hk _ _ hu⟩)
theorem str_end {it:Addr} {x:Str} {t:Tok} {i:Nat} {Q:Option Value->Shared->Prop} (H:HdAt A s.heap)
  (hit:s.heap.IsStrIter it "str_ascii_iterator" x t i) (hx:x.cps[i]?=none) (hhd:∀ e,A.handled=some (.ref e)->e≠it)
  (hQ:∀ h',Ended it s.heap h'->Q none {s with heap:=h'}):wpAny (model prog w) A (pyNext (.ref it)) Q E s:=by
 obtain⟨o,ho,hc,hd⟩:=id hit
 unfold pyNext
 refine wpAny_bind (wpAny_attempt (wpAny_callSpecial?_slot (name:=Str.ofString "__next__") hit.typeIs F.slot_str_ascii_iterator_next
  (wpAny_call_entry F.slot_str_ascii_iterator_next hit.typeIs F.entry_str_ascii_iterator_next ?_ (F.args_str_ascii_iterator_next_1 _))))
 show wpAny _ _ (field (.ref it) 0 >>= _) _ _ s
 refine wpAny_bind (wpAny_field ho hd (x:=.str x t) rfl ?_)
 show wpAny _ _ (field (.ref it) 1 >>= _) _ _ s
 refine wpAny_bind (wpAny_field ho hd (x:=.int i 0) rfl ?_)
 simp only[Int.toNat_natCast,hx]
 refine wpAny_bind (wpAny_rule (wpAny_bind (wpAny_setField ho hd (by simp) ?_)))
 have hu:=Heap.get?_update_self (Obj.mapFields (·.setIfInBounds 0 Value.none)) ho (Obj.isFreed_of_fields (Obj.data_mapFields hd _))
 refine stop_tail (H.keeps rfl fun e o q z=>(Heap.get?_update_other _ _ (Ne.symm (hhd e q))).trans z) fun h' a hz hk ⟨ao,hao,hac⟩=>?_
 refine wpAny_bind (wpAny_isInstance (T:="StopIteration") (b:=true) ⟨ao,hao,hac⟩ isSubtype_stop ?_)
 exact wpAny_pure (hQ _ ⟨Nat.le_trans (Nat.le_of_eq (Heap.size_after_update ..).symm) hz,fun b ob hb e=>hk _ _ ((Heap.get?_update_other _ _ (Ne.symm hb)).trans e),_,hk _ _ hu⟩)
theorem range_end {it:Addr} {x left step:Int} {Q:Option Value->Shared->Prop} (H:HdAt A s.heap) (hit:IsRangeIter s.heap it x left step) (hleft:left<=0)
  (hQ:∀ h',Ended it s.heap h'->Q none {s with heap:=h'}):wpAny (model prog w) A (pyNext (.ref it)) Q E s:=by
 have hT:s.TypeIs (.ref it) "range_iterator":=⟨_,hit,rfl⟩
 unfold pyNext
 refine wpAny_bind (wpAny_attempt (wpAny_callSpecial?_slot (name:=Str.ofString "__next__") hT F.slot_range_iterator_next
  (wpAny_call_entry F.slot_range_iterator_next hT F.entry_range_iterator_next ?_ (F.args_range_iterator_next_1 _))))
 show wpAny _ _ (field (.ref it) 0 >>= _) _ _ s
 refine wpAny_bind (wpAny_field hit rfl (x:=rawInt x) rfl ?_)
 show wpAny _ _ (field (.ref it) 1 >>= _) _ _ s
 refine wpAny_bind (wpAny_field hit rfl (x:=rawInt left) rfl ?_)
 show wpAny _ _ (field (.ref it) 2 >>= _) _ _ s
 refine wpAny_bind (wpAny_field hit rfl (x:=rawInt step) rfl ?_)
 show wpAny _ _ (if left<=0 then _ else _) _ _ s
 rw[if_pos hleft]
 refine wpAny_bind (wpAny_rule (wpAny_bind (stop_tail (H.keeps rfl fun _ _ _ z=>z) fun h' a hz hk ⟨ao,hao,hac⟩=>?_)))
 refine wpAny_bind (wpAny_isInstance (T:="StopIteration") (b:=true) ⟨ao,hao,hac⟩ isSubtype_stop ?_)
 exact wpAny_pure (hQ _ ⟨hz,fun b ob hb e=>hk _ _ e,_,hk _ _ hit⟩)
end
inductive StrIt (h:Heap) (a:Addr) (s:List Nat) (i:Nat):Prop
 |mk (t:Tok) (it:h.IsStrIter a "str_ascii_iterator" (strK s) t i)
noncomputable def ItAt (ρ:Nat->Addr) (n:Nat) (h:Heap) (a:Addr) (i:Nat) (k:IK):Prop:=@IK.rec (fun _=>Prop) (fun l=>h.IsListIter a (ρ l) i/\l<n) (fun l=>IsTupIter h a (ρ l) i/\l<n) (fun k=>IsRangeIter h a (i:Int) (Builtin.Range.rangeSize 0 k 1 - i) 1/\smallI k=true) (fun s=>StrIt h a s i) k
noncomputable def NotCode (o:Obj):Prop:=∀ vs q t,o.data=.fields vs->vs[1]?≠some (.str q t)
structure Mine_ (W:Wd) (A:Around) (ρ:Nat->Addr) (J:Store) (h:Heap) (a:Addr):Prop where
 ex:∃ o,h.get? a=some o
 off:Off W ρ J a
 nf:¬ FrAt A a
section
variable {W:Wd} {F X:Addr->Prop} {A:Around} {ρ ah:Nat->Addr} {J af:Store} {s:Shared} {h h':Heap} {c:Cx} {m m':M} {env:Env} {a:Addr} {i:Nat} {k:IK} {n n':Nat}
theorem ItAt.move (T:ItAt ρ n h a i k) (ag:∀ l,l<n->ah l=ρ l) (hn:n<=n') (e:h'.get? a=h.get? a):ItAt ah n' h' a i k:=by
 induction k using Mine.IK.casesOn with
 | list l=>obtain⟨⟨o,ho,q⟩,hl⟩:=T;exact⟨⟨o,e.trans ho,by rw[ag l hl];exact q⟩,Nat.lt_of_lt_of_le hl hn⟩
 | tup l=>obtain⟨⟨o,ho,q⟩,hl⟩:=T;exact⟨⟨o,e.trans ho,by rw[ag l hl];exact q⟩,Nat.lt_of_lt_of_le hl hn⟩
 | rng j=>exact⟨e.trans T.1,T.2⟩
 | str s=>rcases T with ⟨t,o,ho,q⟩;exact⟨t,o,e.trans ho,q⟩
theorem notCode_of {o:Obj} {vs:Array Value} (hd:o.data=.fields vs) (h1:∀ q t,vs[1]?≠some (.str q t)):NotCode o:=fun vs' q t e=>by
 rw[hd] at e
 rw[<-Data.fields.inj e]
 exact h1 q t
theorem ItAt.notCode (T:ItAt ρ n h a i k):∃ o,h.get? a=some o/\NotCode o:=by
 induction k using Mine.IK.casesOn with
 | list l=>obtain⟨⟨o,ho,hc,hd⟩,_⟩:=T;exact⟨o,ho,notCode_of hd fun _ _=>nofun⟩
 | tup l=>obtain⟨⟨o,ho,hc,hd⟩,_⟩:=T;exact⟨o,ho,notCode_of hd fun _ _=>nofun⟩
 | rng j=>exact⟨_,T.1,notCode_of rfl fun _ _=>nofun⟩
 | str s=>rcases T with ⟨t,o,ho,hc,hd⟩;exact⟨o,ho,notCode_of hd fun _ _=>nofun⟩
theorem Mine_.step (R:Rep W ρ J h) (s:Stp W (FrAt A) X ρ J h ah af h') (q:Mine_ W A ρ J h a) (x:¬ X a):Mine_ W A ah af h' a/\h'.get? a=h.get? a:=by
 obtain⟨o,ho⟩:=q.ex
 have e:=s.keptX ho q.off x q.nf
 exact⟨⟨⟨o,e⟩,q.off.step R s ho,q.nf⟩,e.trans ho.symm⟩
theorem Frames.notFr (G:Frames W A ρ J h) (e:h.get? a=none):¬ FrAt A a:=by
 rintro⟨env,he,hf⟩
 rcases G env he with ⟨_,L,o,hL,ho,_⟩
 rw[hf] at hL
 rw[<-Option.some.inj hL,e] at ho
 cases ho
theorem get?_size (h:Heap):h.get? h.objs.size=none:=get?_size' h (Nat.le_refl _)
theorem Mine_.new (R:Rep W ρ J h) (G:Frames W A ρ J h) (x:Obj) (hf:x.isFreed=false):Mine_ W A ρ J (h.push x) h.objs.size:=⟨⟨x,Heap.get?_push_size _ hf⟩,R.fresh,G.notFr (get?_size h)⟩
theorem Stp.one (R:Rep W ρ J h) {oa:Obj} (U:Off W ρ J a) (hs:Heap.SameBut a h h') (hk:∀ cd q,h.CodeRec cd q->h'.CodeRec cd q) (hx:X a):Stp W F X ρ J h ρ J h':=
 ⟨R.offSet U hs hk,fun _ _=>rfl,Nat.le_refl _,fun l o e=>.inl ⟨o,e⟩,⟨Nat.le_of_eq hs.1.symm,fun b o e _ _ x=>⟨o,(hs.2 b fun z=>x (z▸hx)).trans e,.inl rfl⟩⟩⟩
theorem codeRec_not {oa:Obj} (hs:Heap.SameBut a h h') (ha:h.get? a=some oa) (hna:NotCode oa):∀ cd q,h.CodeRec cd q->h'.CodeRec cd q:=by
 rintro cd q ⟨c,o,vs,t,rfl,ho,hd,h1⟩
 refine⟨c,o,vs,t,rfl,(hs.2 c fun z=>?_).trans ho,hd,h1⟩
 rw[z,ha] at ho
 rw[<-Option.some.inj ho] at hd
 exact hna vs q t hd h1
theorem range_size {n:Int}:Builtin.Range.rangeSize 0 n 1=if 0<n then n else 0:=by
 unfold Builtin.Range.rangeSize
 by_cases hp:0<n<;>simp[hp]
theorem range_small {n:Int} (h:smallI n=true):Builtin.Range.small 0 n 1=true:=by
 have hb:=smallI_at h
 unfold Builtin.Range.small
 rw[range_size]
 have f:∀ z:Int,-1000000000000<=z->z<=1000000000000->Builtin.Range.rangeFitsLong z=true:=fun z h1 h2=>Bool.and_eq_true_iff.mpr ⟨decide_eq_true (Int.le_trans (by decide) h1),decide_eq_true (Int.lt_of_le_of_lt h2 (by decide))⟩
 have f0:=f 0 (by decide) (by decide)
 have fn:=f n hb.1 hb.2
 have fi:Builtin.Range.rangeFitsLong (if 0<n then n else 0)=true:=by split;exact fn;exact f0
 simp only[Bool.and_eq_true,Bool.or_eq_true]
 exact⟨⟨⟨⟨f0,fn⟩,f 1 (by decide) (by decide)⟩,fi⟩,.inr (by rw[if_pos (by decide)];exact(congrArg Builtin.Range.rangeFitsLong (Int.add_zero n)).trans fn)⟩
inductive ItNew (ρ:Nat->Addr) (n:Nat) (h:Heap) (k:IK) (x:Obj):Prop
 |mk (hf:x.isFreed=false) (it:ItAt ρ n (h.push x) h.objs.size 0 k)
theorem iter_start (R:Rep W ρ J s.heap) {v:V} {pv:Value} {hd:Bool} (hv:VR ρ J.n v pv):∀ {k:IK},iterOf hd J v=some k->∀ {Q:Value->Shared->Prop} {Ex:Value->Shared->Prop},
  (∀ x:Obj,ItNew ρ J.n s.heap k x->Q (.ref s.heap.objs.size) {s with heap:=s.heap.push x})->wpAny W.M A (pyIter pv) Q Ex s:=by
 have get:∀ x:Obj,x.isFreed=false->(s.heap.push x).get? s.heap.objs.size=some x:=fun x=>Heap.get?_push_size _
 intro k e Q Ex q
 cases hv with
 | str y tk=>
  have e2:hd=false/\asc y=true/\IK.str y=k:=by
   induction hd using Bool.casesOn with
   | true=>cases e
   | false=>exact⟨rfl,cnS e⟩
  rw[<-e2.2.2] at q
  exact wpAny_pyIter_ascii (asc_all e2.2.1 _ fun c hc=>decide_eq_true hc) (q _ ⟨rfl,tk,_,get _ rfl,rfl,rfl⟩)
 | ref l hl=>
  obtain⟨o,ho,e⟩:=ocS e
  have p:=R.obj l o ho
  induction o using Mine.O.casesOn with
  | list xs=>
   rw[<-Option.some.inj e] at q
   exact PL.el p fun ys ep ho _ _=>wpAny_pyIter_list (isL_of ho) (q _ ⟨rfl,⟨_,get _ rfl,rfl,rfl⟩,hl⟩)
  | tup xs=>
   rw[<-Option.some.inj e] at q
   exact PT.el p fun ys ho _ _=>iter_tuple (isT_of ho) (q _ ⟨rfl,⟨_,get _ rfl,rfl,rfl⟩,hl⟩)
  | rng n=>
   have e2:IK.rng n=k:=by
    induction hd using Bool.casesOn with
    | true=>cases e
    | false=>exact Option.some.inj e
   rw[<-e2] at q
   rcases p with ⟨t,u,z,ho,hn⟩
   exact wpAny_pyIter_range ho (range_small hn) (q _ ⟨rfl,(get _ rfl).trans (congrArg (fun z:Int=>some ({cls:=.type "range_iterator",data:=.fields #[rawInt 0,rawInt z,rawInt 1]}:Obj)) (Int.sub_zero _).symm),hn⟩)
  | _=>cases e
 | _=>cases e
theorem iter_self (T:ItAt ρ J.n s.heap a i k) {Q:Value->Shared->Prop} {Ex:Value->Shared->Prop} (q:Q (.ref a) s):wpAny W.M A (pyIter (.ref a)) Q Ex s:=by
 induction k using Mine.IK.casesOn with
 | list l=>exact wpAny_pyIter_listiter T.1 q
 | tup l=>exact wpAny_pyIter_tupleiter (by obtain⟨o,ho,hc,hd⟩:=T.1;exact⟨o,ho,hc,hd⟩) q
 | rng j=>exact wpAny_pyIter_rangeiter T.1 q
 | str s=>rcases T with ⟨t,h⟩;exact wpAny_pyIter_striter_ascii h q
noncomputable def NxQ (W:Wd) (ρ:Nat->Addr) (J:Store) (s:Shared) (a:Addr) (i:Nat) (k:IK) (Q:Option Value->Shared->Prop) (r:Option V):Prop:=@Option.rec V (fun _=>Prop) (∀ h',Ended a s.heap h'->Q none (Shared.at_ s h' s.toks)) (fun v=>∀ h' tk pv,Heap.SameBut a s.heap h'->ItAt ρ J.n h' a (i+1) k->VR ρ J.n v pv->Q (some pv) (Shared.at_ s h' tk)) r
theorem iter_next (R:Rep W ρ J s.heap) (H:HdAt A s.heap) (T:ItAt ρ J.n s.heap a i k) (hne:∀ e,A.handled=some (.ref e)->e≠a) {r:Option V} (e:nextI J k i=some r) {Q:Option Value->Shared->Prop} {Ex:Value->Shared->Prop} (q:NxQ W ρ J s a i k Q r):wpAny W.M A (pyNext (.ref a)) Q Ex s:=by
 induction k using Mine.IK.casesOn with
 | list l=>
  revert e
  refine gO_el (P:=fun z=>z=some r->_) R nofun (fun xs hx p e=>p.el fun ys ep ho vr _=>?_) (fun _ _ _=>nofun) fun _ _ _=>nofun
  rw[<-Option.some.inj e] at q
  have z:=vr.at i
  rw[<-List.getElem?_toArray] at z
  revert z q
  induction nth xs i using Option.casesOn with
  | some v=>exact fun q z=>z.elS (P:=fun y=>ys.toArray[i]?=y->_) (fun y hv hy=>wpAny_pyNext_list_item T.1 (isL_of ho) hy fun h' it' hs=>q h' s.toks y hs ⟨it',T.2⟩ hv) rfl
  | none=>exact fun q z=>z.elN (P:=fun y=>ys.toArray[i]?=y->_) (fun hy=>list_end H T.1 (isL_of ho) hy hne q) rfl
 | tup l=>
  revert e
  refine gO_el (P:=fun z=>z=some r->_) R nofun (fun _ _ _=>nofun) (fun xs hx p e=>p.el fun ys ho vr _=>?_) fun _ _ _=>nofun
  rw[<-Option.some.inj e] at q
  have z:=vr.at i
  rw[<-List.getElem?_toArray] at z
  revert z q
  induction nth xs i using Option.casesOn with
  | some v=>exact fun q z=>z.elS (P:=fun y=>ys.toArray[i]?=y->_) (fun y hv hy=>next_tuple_item T.1 (isT_of ho) hy fun h' it' hs=>q h' s.toks y hs ⟨it',T.2⟩ hv) rfl
  | none=>exact fun q z=>z.elN (P:=fun y=>ys.toArray[i]?=y->_) (fun hy=>tup_end H T.1 (isT_of ho) hy hne q) rfl
 | rng n=>
  obtain⟨it,hn⟩:=T
  rw[<-Option.some.inj e] at q
  by_cases hl:ltI (.ofNat i) n=true
  ·rw[hl] at q
   have hlt:(i:Int)<n:=(ltI_iff _ _).mp hl
   have h0:0<n:=Int.lt_of_le_of_lt (Int.natCast_nonneg i) hlt
   refine wpAny_pyNext_range_item it (by rw[range_size,if_pos h0];exact Int.sub_pos.mpr hlt) fun h' it' hs=>q h' _ _ hs ⟨?_,hn⟩ (.int _ _)
   have e:Builtin.Range.rangeSize 0 n 1 - i - 1=Builtin.Range.rangeSize 0 n 1 - ((i+1:Nat):Int):=by rw[Int.sub_sub];rfl
   rw[e] at it'
   exact it'
  ·rw[tf hl] at q
   have hge:n<=(i:Int):=Int.not_lt.mp fun z=>hl ((ltI_iff (.ofNat i) n).mpr z)
   refine range_end H it ?_ q
   rw[range_size]
   split
   ·exact Int.sub_nonpos_of_le hge
   ·exact Int.sub_nonpos_of_le (Int.natCast_nonneg i)
 | str y=>
  rcases T with ⟨t,it⟩
  rw[<-Option.some.inj e] at q
  have z:(strK y).cps[i]?=nth y i:=(List.getElem?_toArray ..).trans (nth_eq y i).symm
  revert z q
  induction nth y i using Option.casesOn with
  | some ch=>exact fun q z=>wpAny_pyNext_ascii_item it z fun h' it' hs=>q h' _ _ hs ⟨t,it'⟩ (.str [ch] _)
  | none=>exact fun q z=>str_end H it z hne q
end
end

section
open PySem PySem.W PySem.Calls PyProof.Rows
theorem kdOf_eq {v:V} {k:KD} (h:kdOf v=some k):v=.top (.type k.nm):=by
 induction v using Mine.V.casesOn with
 | top w=>
  induction w using PySem.Value.casesOn with
  | type s=>
   revert h
   refine cn_el (P:=fun z=>z=some k->_) (fun e h=>?_) fun _=>cn_el (P:=fun z=>z=some k->_) (fun e h=>?_) fun _=>cn_el (P:=fun z=>z=some k->_) (fun e h=>?_) fun _=>nofun
   all_goals (rw[<-Option.some.inj h,eq_of_beq e];rfl)
  | _=>cases h
 | _=>cases h
theorem ty_kd (k:KD):typeOf (.type k.nm)=pure (.type "type"):=by
 cases k<;>kernel_rfl
theorem sub_kd (j k:KD):isSubtype (.type j.nm) (.type k.nm)=pure (KD.is j k):=by
 cases j<;>cases k<;>(rw[isSubtype_type];kernel_rfl)
theorem sub_ik (k:KD):isSubtype (.type "int") (.type k.nm)=pure false:=by
 cases k<;>(rw[isSubtype_type];kernel_rfl)
theorem sub_nk (k:KD):isSubtype (.type "NoneType") (.type k.nm)=pure false:=by
 cases k<;>(rw[isSubtype_type];kernel_rfl)
theorem ne_kd (j k:KD) (h:KD.is j k=false):(Value.type j.nm == Value.type k.nm)=false:=by
 cases j<;>cases k<;>first|(cases h;done)|decide
theorem ne_ik (k:KD):(Value.type "int" == Value.type k.nm)=false:=by cases k<;>decide
theorem ne_nk (k:KD):(Value.type "NoneType" == Value.type k.nm)=false:=by cases k<;>decide
theorem isi_meets {x c:Value} {T:String} {b:Bool} (an:Answers (fun s=>s.TypeIs x T) x c b):Meets (Builtin.«isinstance» ⟨[x,c],[]⟩) (fun _ R s=>s.TypeIs x T/\∀ tk,R (.ok (.ret (.bool b))) {s with toks:=tk}):=
 fun _ _ _ _ _ hs=>isinstance_outer (an _ _ _ _ _ _ _ hs) hs.1.not_mainsLoader
theorem Answers.of_none {T:String} (hne:(Value.type "NoneType" == Value.type T)=false) (hty:typeOf (.type T)=pure (.type "type")) (hsub:isSubtype (.type "NoneType") (.type T)=pure false) :
  Answers (fun s=>s.TypeIs .none "NoneType") .none (.type T) false:=
 fun _ _ _ _ _ _ s hs=>by
  obtain⟨h,g,d,t,os⟩:=s
  exact isinstance_nested_false_none hne hty hsub (hs.2 (t+1))
section
variable {prog:Program} {w:World} {A:Around} {E:Value->Shared->Prop} {s:Shared}
theorem max_own {a b:Int} {t u:Tok} {Q:Value->Shared->Prop} (hh:A.handled=none)
  (h:∀ h' tk,s.heap.objs.size<=h'.objs.size->(∀ c o,s.heap.get? c=some o->h'.get? c=some o)->Q (if b > a then .int b u else .int a t) {s with heap:=h',toks:=tk}) :
  wpAny (model prog w) A (call (.builtin "max") [.int a t,.int b u]) Q E s:=by
 have hT:(s.heap.push {cls:=.type "tuple",data:=.seq #[.int a t,.int b u]}).IsTuple s.heap.objs.size (intItems #[(a,t),(b,u)]):=⟨_,Heap.get?_push_size _ rfl,rfl,0,by simp[intItems]⟩
 refine call_max_two (wpAny_pyIter_tuple hT ?_)
 have hsz:(s.heap.push {cls:=.type "tuple",data:=.seq #[.int a t,.int b u]}).objs.size=s.heap.objs.size+1:=Heap.size_push ..
 refine⟨_,[_,s.heap.objs.size],[_],_,_,_,_,rfl,Walks.tuple (A:=A.in1) hh _ s.heap.objs.size (by rw[hsz];exact Nat.ne_of_lt (Nat.lt_succ_self _)) (intItems #[(a,t),(b,u)]),
  ⟨⟨_,Heap.get?_push_size _ rfl,rfl,rfl⟩,hT.push _⟩,fun c hc=>?_,by simp[intItems],CmpOf.ints_gt (numAt #[(a,t),(b,u)]) (fun _ _=>intItems_at),fun v h' tk hP hk=>?_⟩
 ·show c<((s.heap.push _).push _).objs.size
  rw[Heap.size_push,hsz]
  rcases List.mem_cons.mp hc with rfl|hc
  ·rw[hsz];exact Nat.lt_succ_self _
  ·rcases List.mem_cons.mp hc with rfl|hc
   ·exact Nat.lt_succ_of_lt (Nat.lt_succ_self _)
   ·cases hc
 ·have ne:∀ c,c<s.heap.objs.size+1->¬ c∈[(s.heap.push {cls:=.type "tuple",data:=.seq #[.int a t,.int b u]}).objs.size]:=fun c hc hm=>by
   rw[hsz] at hm
   exact Nat.ne_of_lt hc (List.mem_singleton.mp hm)
  have this:=h h' tk (Nat.le_of_lt (Heap.lt_size (hk s.heap.objs.size _ (ne _ (Nat.lt_succ_self _)) (Heap.get?_push_of_some _ (Heap.get?_push_size _ rfl))))) fun c o e=>hk c o (ne c (Nat.lt_succ_of_lt (Heap.lt_size e))) (Heap.get?_push_of_some _ (Heap.get?_push_of_some _ e))
  have hv:(if b > a then Value.int b u else Value.int a t)=v:=by
   have hP':(intItems #[(a,t),(b,u)])[argBest (fun i j=>decide (numAt #[(a,t),(b,u)] i > numAt #[(a,t),(b,u)] j)) 1]?=some v:=by
    have hsz2:(intItems #[(a,t),(b,u)]).size - 1=1:=by simp[intItems]
    rw[<-hsz2];exact hP
   by_cases hba:b > a
   ·have e:argBest (fun i j=>decide (numAt #[(a,t),(b,u)] i > numAt #[(a,t),(b,u)] j)) 1=1:=by simp[argBest,numAt,hba]
    rw[e] at hP'
    rw[if_pos hba]
    simpa [intItems] using hP'
   ·have e:argBest (fun i j=>decide (numAt #[(a,t),(b,u)] i > numAt #[(a,t),(b,u)] j)) 1=0:=by simp[argBest,numAt,hba]
    rw[e] at hP'
    rw[if_neg hba]
    simpa [intItems] using hP'
  rw[<-hv];exact this
end
section
variable {W:Wd} {A:Around} {ρ:Nat->Addr} {J:Store} {s:Shared} {v cl:V} {pv pc:Value}
noncomputable abbrev AnsW (s:Shared) (pv:Value) (T:String) (k:KD) (b:Bool):Prop:=Answers (fun s=>s.TypeIs pv T) pv (.type k.nm) b
theorem ans {s:Shared} {T:String} {k:KD} {b:Bool} (h1:b=true->AnsW s pv T k true) (h2:b=false->AnsW s pv T k false):AnsW s pv T k b:=by
 induction b using Bool.casesOn with
 | true=>exact h1 rfl
 | false=>exact h2 rfl
inductive KindOk (J:Store) (s:Shared) (v:V) (pv:Value):Prop
 |no (h:∀ k,isKind J v k=none)
 |ty (T:String) (hT:s.TypeIs pv T) (h:∀ k b,isKind J v k=some b->AnsW s pv T k b)
theorem kind_at (R:Rep W ρ J s.heap) (hv:VR ρ J.n v pv):KindOk J s v pv:=by
 cases hv with
 | none=>exact .ty "NoneType" rfl fun k b e=>by rw[<-Option.some.inj e];exact Mine.Answers.of_none (ne_nk k) (ty_kd k) (sub_nk k)
 | bool b=>exact .no fun _=>rfl
 | top v hh=>exact .no fun _=>rfl
 | int i t=>exact .ty "int" (typeIs_int _ _ _) fun k b e=>by rw[<-Option.some.inj e];exact .of_false_int (ne_ik k) (ty_kd k) (sub_ik k)
 | str x t=>exact .ty "str" (typeIs_str _ _ _) fun k b e=>by rw[<-Option.some.inj e];exact ans (s:=s) (fun q=>.of_true (ty_kd k) ((sub_kd .str k).trans (congrArg pure q))) fun q=>.of_false_str (ne_kd .str k q) (ty_kd k) ((sub_kd .str k).trans (congrArg pure q))
 | ref l hl=>
  induction q:J.get l using Option.casesOn with
  | none=>exact .no fun k=>by show oc (J.get l) none _=none;rw[q];rfl
  | some o=>
   have e0:∀ k,isKind J (.ref l) k=oLTD o none (fun _=>some (KD.is .list k)) (fun _=>some (KD.is .tuple k)) fun _=>none:=fun k=>by show oc (J.get l) none _=_;rw[q];rfl
   have p:=R.obj l o q
   induction o using Mine.O.casesOn with
   | list xs=>exact PL.el p fun ys ep ho _ _=>.ty "list" ⟨_,ho,rfl⟩ fun k b e=>by rw[<-Option.some.inj ((e0 k).symm.trans e)];exact ans (s:=s) (fun q=>.of_true (ty_kd k) ((sub_kd .list k).trans (congrArg pure q))) fun q=>.of_false_list (ne_kd .list k q) (ty_kd k) ((sub_kd .list k).trans (congrArg pure q))
   | tup xs=>exact PT.el p fun ys ho _ _=>.ty "tuple" ⟨_,ho,rfl⟩ fun k b e=>by rw[<-Option.some.inj ((e0 k).symm.trans e)];exact ans (s:=s) (fun q=>.of_true (ty_kd k) ((sub_kd .tuple k).trans (congrArg pure q))) fun q=>.of_false_tuple (ne_kd .tuple k q) (ty_kd k) ((sub_kd .tuple k).trans (congrArg pure q))
   | _=>exact .no e0
theorem wp_isinstance (R:Rep W ρ J s.heap) (hv:VR ρ J.n v pv) (hc:VR ρ J.n cl pc):WP W A (call (.builtin "isinstance") [pv,pc]) VR (oc (isInst J v cl) .bad fun b=>.ok (.bool b) J) ρ J s:=
 WP.so fun b e=>WP.ok R (.bool b) fun k=>by
 rcases kind_at R hv with h|⟨T,hT,an⟩
 ·have no:isInst J v cl=none:=by
   unfold isInst
   induction kdOf cl using Option.casesOn with
   | some j=>exact h j
   | none=>
    show vRef cl none _=none
    induction cl using Mine.V.casesOn with
    | ref l=>
     show gT J l none _=none
     unfold gT gO
     induction J.get l using Option.casesOn with
     | none=>rfl
     | some o=>
      induction o using Mine.O.casesOn with
      | tup xs=>
       rcases xs with (_|⟨x,_|⟨y,_|_⟩⟩)
       ·rfl
       ·rfl
       ·show oc (kdOf x) none _=none
        induction kdOf x using Option.casesOn with
        | none=>rfl
        | some j=>
         show oc (kdOf y) none _=none
         induction kdOf y using Option.casesOn with
         | none=>rfl
         | some k=>show oc (isKind J v j) none _=none;rw[h j];rfl
       ·rfl
      | _=>rfl
    | _=>rfl
  rw[no] at e;cases e
 revert e
 unfold isInst
 induction hk:kdOf cl using Option.casesOn with
 | some kd=>
  intro e
  have z:=kdOf_eq hk
  rw[z] at hc
  exact hc.elT (P:=fun pc=>wpAny W.M A (call (.builtin "isinstance") [pv,pc]) _ _ s) fun _=>call_isinstance (isi_meets (an kd b e)) ⟨hT,k⟩
 | none=>
  refine vSR_el (P:=fun pc z=>z=some b->wpAny W.M A (call (.builtin "isinstance") [pv,pc]) _ _ s) hc (fun e=>nomatch e) (fun _ _ e=>nomatch e) fun l _=>?_
  refine gO_el (P:=fun z=>z=some b->_) R nofun (fun _ _ _=>nofun) (fun xs _ p=>?_) fun _ _ _=>nofun
  refine p.el fun ys ho vr _=>?_
  cases vr with
  | nil=>exact nofun
  | cons h1 vr=>
   cases vr with
   | nil=>exact nofun
   | cons h2 vr=>
    cases vr with
    | cons _ _=>exact nofun
    | nil=>
     intro e
     obtain⟨j,hj,e⟩:=ocS e
     obtain⟨q,hq,e⟩:=ocS e
     obtain⟨x,hx,e⟩:=ocS e
     obtain⟨y,hy,e⟩:=ocS e
     rw[kdOf_eq hj] at h1
     rw[kdOf_eq hq] at h2
     revert ho
     refine h1.elT (P:=fun z=>s.heap.get? (ρ l)=some (tupOf [z,_].toArray 0)->_) fun _=>h2.elT (P:=fun z=>s.heap.get? (ρ l)=some (tupOf [_,z].toArray 0)->_) fun _ ho=>?_
     refine call_isinstance (isinstance_tuple (vs:=[x,y]) (.cons (an _ _ hx) (.cons (an _ _ hy) .nil))) ⟨hT,ho,fun tk=>?_⟩
     rw[<-Option.some.inj e] at k
     induction x using Bool.casesOn with
     | true=>exact k tk
     | false=>cases y<;>exact k tk
theorem strInt_ok {i:Int} {x:List Nat} (h:strInt i=some x):Str.ofString (toString i)=strK x/\i.natAbs<1000000000:=by
 induction i using Int.casesOn with
 | negSucc i=>cases h
 | ofNat n=>
  obtain⟨a,b⟩:=cnS (b:=Nat.blt n 1000000000) h
  refine⟨?_,blt_of a⟩
  rw[<-b]
  show Str.ofString (Nat.repr n)=_
  rw[Str.ofString_eq_toList]
  unfold Nat.repr strK
  simp
theorem small63 {n:Nat} (h:n<=20000):(n:Int)<2^63:=Int.lt_of_le_of_lt (Int.ofNat_le.mpr h) (by decide)
theorem wp_len (ok:WdOk W) (R:Rep W ρ J s.heap) (hv:VR ρ J.n v pv):WP W A (call (.builtin "len") [pv]) VR (bLen J v) ρ J s:=
 WP.sr (t:=fun pv=>call (.builtin "len") [pv]) hv (fun x tx=>WP.ifT fun h Q Ex k=>by
  refine P.len_str (by rw[show(⟨_⟩:Str).length=_ from strK_length _];exact Int.not_le.mpr (small63 (Nat.le_trans (lenLe_at h) (by decide)))) ?_
  rw[show(⟨_⟩:Str).length=_ from strK_length _]
  exact k ρ s.heap _ _ (Stp.refl R) (.int _ _)) fun l _=>
 WP.gO R (fun xs _ p=>p.el fun ys ep ho vr hz Q Ex k=>by
   refine len_list (isL_of ho) (by rw[vr.size];exact small63 hz) ?_
   rw[vr.size]
   exact k ρ s.heap _ _ (Stp.refl R) (.int _ _))
  (fun xs _ p=>p.el fun ys ho vr hz Q Ex k=>by
   refine len_tuple (isT_of ho) (by rw[vr.size];exact small63 hz) ?_
   rw[vr.size]
   exact k ρ s.heap _ _ (Stp.refl R) (.int _ _))
  fun es e p=>WP.ifT fun h Q Ex k=>p.dic.el fun kvs D kv _=>by
   refine call_len_dict (R.notMods ok e) D (by rw[kv.length];exact small63 (Nat.le_trans (lenLe_at h) (by decide))) ?_
   rw[kv.length]
   exact k ρ s.heap _ _ (Stp.refl R) (.int _ _)
theorem wp_bFun (ok:WdOk W) (R:Rep W ρ J s.heap) {hd:Bool} (hA:hd=false->A.handled=none) (f:String) {as:List V} {xs:List Value} (ha:VRs ρ J.n as xs):WP W A (call (.builtin f) xs) VR (bFun hd J as f) ρ J s:=by
 refine WP.ifte (fun e=>?_) fun _=>WP.ifte (fun e=>?_) fun _=>WP.ifT fun e=>?_
 ·rw[eq_of_beq e]
  exact WP.l1 (t:=fun xs=>call (.builtin "len") xs) ha fun v x hv=>wp_len ok R hv
 ·rw[eq_of_beq e]
  exact WP.l2 (t:=fun xs=>call (.builtin "isinstance") xs) ha fun v u x y hv hu=>wp_isinstance R hv hu
 ·rw[eq_of_beq e]
  refine WP.l2 (t:=fun xs=>call (.builtin "max") xs) ha fun v u x y hv hu=>WP.ii (t:=fun x y=>call (.builtin "max") [x,y]) hv hu fun i j ti tj=>WP.ifF fun hh Q Ex k=>max_own (hA hh) fun h' tk hz kp=>?_
  have st:Sx W A ρ J s.heap ρ J h':=Stp.grow R hz kp
  by_cases hij:i<j
  ·rw[if_pos hij]
   rw[(ltI_iff i j).mpr hij] at k
   exact k ρ h' tk _ st (.int _ _)
  ·rw[if_neg hij]
   rw[tf fun z=>hij ((ltI_iff i j).mp z)] at k
   exact k ρ h' tk _ st (.int _ _)
theorem copy_list {l:Nat} {vs:List V} (R:Rep W ρ J s.heap) (p:PL ρ J.n s.heap (ρ l) vs) {Q:Value->Shared->Prop} {Ex:Value->Shared->Prop} (k:∀ h' ,(∀ b o,s.heap.get? b=some o->h'.get? b=some o)->PL (rhoAt ρ J.n s.heap.objs.size) (J.n+1) h' s.heap.objs.size vs->Q (.ref s.heap.objs.size) (Shared.at_ s h' s.toks)):wpAny W.M A (call (.type "list") [.ref (ρ l)]) Q Ex s:=
 p.el fun ys ep ho vr hz=>call_list_seq _ (.inl rfl) ho rfl rfl (fun h' c' kp hn=>k h' kp ⟨ys,c',hn,vr.next,hz⟩) (fits vr hz)
theorem wp_bTy (ok:WdOk W) (R:Rep W ρ J s.heap) (f:String) {as:List V} {xs:List Value} (ha:VRs ρ J.n as xs):WP W A (call (.type f) xs) VR (bTy J as f) ρ J s:=by
 refine WP.ifte (fun e=>?_) fun _=>WP.ifte (fun e=>?_) fun _=>WP.ifT fun e=>?_
 ·rw[eq_of_beq e]
  refine WP.l1 (t:=fun xs=>call (.type "list") xs) ha fun v x hv=>WP.ref (t:=fun x=>call (.type "list") [x]) hv fun l _=>WP.so fun o ho=>?_
  have p:=R.obj l o ho
  have z:∀ {h':Heap} {vs:List V},PL (rhoAt ρ J.n s.heap.objs.size) (J.n+1) h' s.heap.objs.size vs->PL (rhoAt ρ J.n s.heap.objs.size) (J.n+1) h' (rhoAt ρ J.n s.heap.objs.size J.n) vs:=fun q=>by rw[rhoAt_self];exact q
  induction o using Mine.O.casesOn with
  | list vs=>exact WP.ifT fun _ Q Ex k=>copy_list R p fun h' kp q=>k _ h' s.toks _ (Stp.made (o:=.list vs) R kp (z q) fun _ _=>nofun) .alloc
  | slist t=>exact fun Q Ex k=>copy_list R p fun h' kp q=>k _ h' s.toks _ (Stp.made (o:=.slist t) R kp (z q) fun _ _=>nofun) .alloc
  | _=>exact WP.bad
 ·rw[eq_of_beq e]
  refine WP.l1 (t:=fun xs=>call (.type "str") xs) ha fun v x hv=>WP.int (t:=fun x=>call (.type "str") [x]) hv fun i ti=>WP.so fun y hy Q Ex k=>?_
  obtain⟨e1,e2⟩:=strInt_ok hy
  refine P.str_of_int ?_ ?_
  ·rcases Nat.eq_zero_or_pos i.natAbs with h0|hp
   ·rw[h0];decide
   ·exact Nat.lt_trans ((Nat.log2_lt (Nat.ne_of_gt hp)).mpr (Nat.lt_trans e2 (by decide:1000000000<2 ^ 30))) (by decide)
  ·rw[show(toString _:Str)=_ from e1]
   exact k ρ s.heap _ _ (Stp.refl R) (.str _ _)
 ·rw[eq_of_beq e]
  exact WP.l1 (t:=fun xs=>call (.type "range") xs) ha fun v x hv=>WP.int (t:=fun x=>call (.type "range") [x]) hv fun i ti=>WP.ifT fun h Q Ex k=>call_range_1 (k _ _ _ _ (Stp.alloc (o:=.rng i) R ⟨_,_,_,by rw[rhoAt_self];exact IsRange.new ..,h⟩ fun _ _=>nofun) .alloc)
end
end

section
open PySem PySem.W PySem.Calls PyProof.Rows
noncomputable def Kp (W:Wd) (h:Heap) (f:Value):Prop:=∃ k,(k=Keeper.frame\/k=Keeper.machine\/k=Keeper.boundFrame)/\Looks W.M h (keeperOf f) k
structure SEv (W:Wd) (E:Ev):Prop where
 e:∀ {c m env A ρ J s} (t:T),Stt W c m env A ρ J s.heap->WP W A (eval (t.dec W.nm) env) VR (E.e c m t J) ρ J s
 t:∀ {c m env A ρ J s} (t:T),Stt W c m env A ρ J s.heap->WP W A (isTrue (t.dec W.nm) env (eval (t.dec W.nm) env)) relB (E.t c m t J) ρ J s
 s:∀ {c m env A ρ J s} (t:S),Stt W c m env A ρ J s.heap->WX W A c env (exec (t.dec W.nm) env) (E.s c m t J) ρ J s
 kp:∀ {k hd ρ J h f pf as},Rep W ρ J h->VR ρ J.n f pf->E.call k hd f as J≠.bad->Kp W h pf
 cfn:∀ {k hd A ρ J s a d as xs},W.P.fn a=some d->Cst W k hd A ρ J s.heap->VRs ρ J.n as xs->WC W A (.call (.ref a) ⟨xs,[]⟩) (E.call k hd (.top (.ref a)) as J) ρ J s
 call:∀ {k hd A ρ J s f pf as xs},Cst W k hd A ρ J s.heap->VR ρ J.n f pf->VRs ρ J.n as xs->WP W A (call pf xs) VR (E.call k hd f as J) ρ J s
section
variable {α β γ:Type} {W:Wd} {A:Around} {ρ ah:Nat->Addr} {J af:Store} {s:Shared} {h h':Heap} {c:Cx} {m m':M} {env:Env} {E:Ev}
theorem WC.wp {f:Value} {xs:List Value} {r:R V} (h:WC W A (.call f ⟨xs,[]⟩) r ρ J s):WP W A (call f xs) VR r ρ J s:=fun Q Ex k=>wpAny_call (h _ k)
theorem RP.ne {rel:(Nat->Addr)->Nat->β->α->Prop} {r:R β} {Q:α->Shared->Prop} {Ex:Value->Shared->Prop} (k:RP W A rel r ρ J s Q Ex):r≠.bad:=fun z=>by rw[z] at k;exact k
section
variable {rel:(Nat->Addr)->Nat->β->α->Prop} {g:V->Store->R β}
theorem WP.ev {f:Value->Sem α} (I:SEv W E) (S:Stt W c m env A ρ J s.heap) (t:T) (k:∀ ah h' tk pv v af,Sx W A ρ J s.heap ah af h'->Stt W c m env A ah af h'->VR ah af.n v pv->WP W A (f pv) rel (g v af) ah af (Shared.at_ s h' tk)):WP W A (eval (t.dec W.nm) env >>= f) rel (bd (E.e c m t J) g) ρ J s:=
 WP.bind S.rep (I.e t S) fun ah h' tk a b af st ra=>k ah h' tk a b af st (S.step st) ra
theorem WP.evH {vs:List Value} {f:Value->Sem α} (I:SEv W E) (S:Stt W c m env A ρ J s.heap) (t:T) (k:∀ ah h' tk pv v af,Sx W A ρ J s.heap ah af h'->Stt W c m env A ah af h'->VR ah af.n v pv->WP W A (f pv) rel (g v af) ah af (Shared.at_ s h' tk)):WP W A (PySem.holding vs (eval (t.dec W.nm) env) >>= f) rel (bd (E.e c m t J) g) ρ J s:=
 WP.bind S.rep (WP.holding (I.e t S)) fun ah h' tk a b af st ra=>k ah h' tk a b af st (S.step st) ra
theorem WP.evT {f:Bool->Sem α} {g:Bool->Store->R β} (I:SEv W E) (S:Stt W c m env A ρ J s.heap) (t:T) (k:∀ ah h' tk b af,Sx W A ρ J s.heap ah af h'->Stt W c m env A ah af h'->WP W A (f b) rel (g b af) ah af (Shared.at_ s h' tk)):WP W A (isTrue (t.dec W.nm) env (eval (t.dec W.nm) env) >>= f) rel (bd (E.t c m t J) g) ρ J s:=
 WP.bind S.rep (I.t t S) fun ah h' tk a b af st ra=>by rw[show a=b from ra];exact k ah h' tk _ af st (S.step st)
theorem WP.op {vs:List Value} {t:Sem Value} {rel:(Nat->Addr)->Nat->β->Value->Prop} {r:R β} (h:WP W A t rel r ρ J s):WP W A (PySem.operate vs t) rel r ρ J s:=h.via fun _ _ q=>wpAny_operating q
theorem unhold {α γ:Type} {vs:List Value} {t:Sem α} {f:α->Sem γ} {Q:γ->Shared->Prop} {Ex:Value->Shared->Prop} (q:wpAny W.M A (t >>= f) Q Ex s):wpAny W.M A (PySem.holding vs t >>= f) Q Ex s:=fun Γ p cB=>by
 have:=q Γ p cB
 rw[Sem.wp_bind'] at this ⊢
 rw[Sem.wp_holding]
 exact this
theorem WP.unhold {vs:List Value} {t:Sem γ} {f:γ->Sem α} {r:R β} (h:WP W A (t >>= f) rel r ρ J s):WP W A (PySem.holding vs t >>= f) rel r ρ J s:=h.via fun _ _=>Mine.unhold
end
theorem e_none (S:Stt W c m env A ρ J s.heap) (k:Nat) (p:Pos):WP W A (eval (.Constant .none k p) env) VR (.ok .none J) ρ J s:=WP.ok S.rep .none fun q=>Constant_none (q s.toks)
theorem e_bool (S:Stt W c m env A ρ J s.heap) (b:Bool) (k:Nat) (p:Pos):WP W A (eval (.Constant (.bool b) k p) env) VR (.ok (.bool b) J) ρ J s:=WP.ok S.rep (.bool b) fun q=>Constant_bool (q s.toks)
theorem e_int (S:Stt W c m env A ρ J s.heap) (i:Int) (k:Nat) (p:Pos):WP W A (eval (.Constant (.int i) k p) env) VR (.ok (.int i) J) ρ J s:=by
 rw[arm_eval_Constant]
 exact fun Q Ex k=>wpAny_mkInt (k ρ s.heap _ _ (Stp.refl S.rep) (.int i _))
theorem e_str (ok:WdOk W) (S:Stt W c m env A ρ J s.heap) (x:Nat) (k:Nat) (p:Pos):WP W A (eval (.Constant (.str (W.nm x)) k p) env) VR (.ok (.str (W.P.sy x)) J) ρ J s:=by
 rw[arm_eval_Constant,ok.nmc x]
 exact fun Q Ex k=>wpAny_mkText (k ρ s.heap _ _ (Stp.refl S.rep) (.str _ _))
theorem wp_name (ok:WdOk W) (S:Stt W c m env A ρ J s.heap) (x:Nat) (p:Pos):WP W A (eval (.Name (W.nm x) p) env) VR (loadN W.P.gt c m x J) ρ J s:=by
 rw[eval_Name env (W.nm x) p (ok.dbg x).1]
 exact WP.standAt (wp_loadN ok S x)
theorem base_eq (ok:WdOk W) (o:T) (f:Nat) (whole:Sem Value):attributeBase (o.dec W.nm) (W.nm f) env whole=whole:=by
 cases o<;>try rfl
 rename_i g as p
 cases g<;>try rfl
 rename_i x q
 induction as using List.casesOn with
 | nil=>
  have this:(W.nm x != ("super" : Str))=true:=bne_iff_ne.mpr (beq_eq_false_iff_ne.mp (ok.dbg x).2.2)
  refine Eq.trans (if_pos (c:=(W.nm x != ("super" : Str) || W.nm f == ("__class__":Str) || env.kindOf ("super":Str) != some .globalImplicit || env.kindOf ("__class__":Str) != some .free)=true) (by rw[this];rfl)) ?_
  first|rfl|exact bind_pure _
 | cons a r=>rfl
theorem e_attr (ok:WdOk W) (I:SEv W E) (S:Stt W c m env A ρ J s.heap) (e:T) (f:Nat) (p:Pos):WP W A (eval (.Attribute (e.dec W.nm) (W.nm f) p) env) VR (bd (E.e c m e J) fun o J=>getAttrV J o f) ρ J s:=by
 rw[arm_eval_Attribute,base_eq ok]
 exact WP.ev I S e fun ah h' tk pv v af st S' hv=>WP.standAt fun Q Ex k=>wpAny_bind (wpAny_holding (wpAny_mono (wp_getAttr (s:=Shared.at_ s h' tk) ok S'.rep hv f Q Ex k) (fun r s' hr=>wpAny_bind (wpAny_letTemporaryGo (wpAny_pure hr))) fun _ _ z=>z))
theorem e_bin (I:SEv W E) (S:Stt W c m env A ρ J s.heap) (l:T) (op:Operator) (r:T) (p:Pos):WP W A (eval (.BinOp (l.dec W.nm) op (r.dec W.nm) p) env) VR (bd (E.e c m l J) fun a J=>bd (E.e c m r J) fun b J=>binV J op a b) ρ J s:=by
 rw[arm_eval_BinOp]
 exact WP.ev I S l fun am ai az pa a ad aG au ha=>WP.evH (s:=Shared.at_ s ai az) I au r fun aw ar aQ pb b aq aj aF hb=>WP.standAt (WP.op (wp_bin (s:=Shared.at_ s ar aQ) aF.rep op (ha.mono aj.agree aj.n) hb))
theorem marks (op:CmpOp) (t:T) (nm:Nat->Str):behindInMarks op (t.dec nm)=false:=by
 cases t<;>rfl
theorem marked (op:CmpOp) (t:T) (nm:Nat->Str):markedEach [op] [t.dec nm] (evalEach [t.dec nm] env)=[eval (t.dec nm) env]:=by
 show[markedBehindIn op (t.dec nm) (eval (t.dec nm) env)]=_
 unfold markedBehindIn
 rw[marks]
theorem e_cmp (ok:WdOk W) (I:SEv W E) (S:Stt W c m env A ρ J s.heap) (l:T) (op:CmpOp) (r:T) (p:Pos):WP W A (eval (.Compare (l.dec W.nm) [op] [r.dec W.nm] p) env) VR (bd (E.e c m l J) fun a J=>bd (E.e c m r J) fun b J=>bd (cmpV W.P J op a b) fun q J=>.ok (.bool q) J) ρ J s:=by
 rw[arm_eval_Compare,marked]
 exact WP.ev I S l fun am ai az pa a ad aG au ha=>WP.evH (s:=Shared.at_ s ai az) I au r fun aw ar aQ pb b aq aj aF hb=>WP.standAt (WP.op (WP.re (wp_cmp (s:=Shared.at_ s ar aQ) ok aF.rep S.cst.room op (ha.mono aj.agree aj.n) hb) fun ah n b a ra=>by rw[show a=_ from ra];exact .bool b))
theorem t_cmp (ok:WdOk W) (I:SEv W E) (S:Stt W c m env A ρ J s.heap) (l:T) (op:CmpOp) (r:T) (p:Pos):WP W A (isTrue (.Compare (l.dec W.nm) [op] [r.dec W.nm] p) env (eval (.Compare (l.dec W.nm) [op] [r.dec W.nm] p) env)) relB (bd (E.e c m l J) fun a J=>bd (E.e c m r J) fun b J=>cmpV W.P J op a b) ρ J s:=by
 show WP W A (eval (l.dec W.nm) env >>= fun a=>testChain p a [op] (markedEach [op] [r.dec W.nm] (evalEach [r.dec W.nm] env))) relB _ _ _ s
 rw[marked]
 refine WP.ev I S l fun am ai az pa a ad aG au ha=>WP.evH (s:=Shared.at_ s ai az) I au r fun aw ar aQ pb b aq aj aF hb=>WP.standAt fun Q Ex k=>wpAny_bind (wpAny_operating (wp_cmp (s:=Shared.at_ s ar aQ) ok aF.rep S.cst.room op (ha.mono aj.agree aj.n) hb _ _ ?_))
 revert k
 induction cmpV W.P aq op a b using Mine.R.casesOn with
 | bad=>exact fun k=>k
 | exc af=>exact fun k=>k
 | ok q af=>exact fun k ah h' tk a st ra=>by rw[show a=_ from ra];exact wpAny_holding (wpAny_truthy_bool (k ah h' tk q st rfl))
theorem e_ife (I:SEv W E) (S:Stt W c m env A ρ J s.heap) (q a b:T) (p:Pos):WP W A (eval (.IfExp (q.dec W.nm) (a.dec W.nm) (b.dec W.nm) p) env) VR (bd (E.t c m q J) fun v J=>cn v (E.e c m a J) (E.e c m b J)) ρ J s:=by
 rw[arm_eval_IfExp]
 refine WP.evT I S q fun am ai az v ad aG au=>?_
 induction v using Bool.casesOn with
 | true=>exact I.e a au
 | false=>exact I.e b au
theorem t_ife (I:SEv W E) (S:Stt W c m env A ρ J s.heap) (q a b:T) (p:Pos):WP W A (isTrue (.IfExp (q.dec W.nm) (a.dec W.nm) (b.dec W.nm) p) env (eval (.IfExp (q.dec W.nm) (a.dec W.nm) (b.dec W.nm) p) env)) relB (bd (E.t c m q J) fun v J=>cn v (E.t c m a J) (E.t c m b J)) ρ J s:=by
 show WP W A (isTrue (q.dec W.nm) env (eval (q.dec W.nm) env) >>= fun b'=>if b' then isTrue (a.dec W.nm) env (eval (a.dec W.nm) env) else isTrue (b.dec W.nm) env (eval (b.dec W.nm) env)) relB _ _ _ s
 refine WP.evT I S q fun am ai az v ad aG au=>?_
 induction v using Bool.casesOn with
 | true=>exact I.t a au
 | false=>exact I.t b au
theorem e_not (I:SEv W E) (S:Stt W c m env A ρ J s.heap) (e:T) (p:Pos):WP W A (eval (.UnaryOp .Not (e.dec W.nm) p) env) VR (bd (E.e c m e J) fun v J=>oc (truth v) .bad fun b=>.ok (.bool (nb b)) J) ρ J s:=by
 rw[arm_eval_UnaryOp]
 refine WP.ev I S e fun am ai az pv v ad aG au hv=>WP.standAt (WP.holding ?_)
 cases hv with
 | bool b=>exact fun Q Ex k=>not_of (wpAny_truthy_bool (by
   induction b using Bool.casesOn with
   | true=>exact k am ai az _ (Stp.refl au.rep) (.bool false)
   | false=>exact k am ai az _ (Stp.refl au.rep) (.bool true)))
 | _=>exact WP.bad
theorem e_neg (I:SEv W E) (S:Stt W c m env A ρ J s.heap) (e:T) (p:Pos):WP W A (eval (.UnaryOp .USub (e.dec W.nm) p) env) VR (bd (E.e c m e J) fun v J=>vInt v .bad fun i=>okInt (-i) J) ρ J s:=by
 rw[arm_eval_UnaryOp]
 refine WP.ev I S e fun am ai az pv v ad aG au hv=>WP.standAt (WP.holding ?_)
 cases hv with
 | int i t=>exact okInt_ok (s:=Shared.at_ s ai az) au.rep fun _ _ _ k=>PyProof.Rows.neg_int k
 | _=>exact WP.bad
theorem sub_shape (t:T) (nm:Nat->Str) (o i:Value):subscripted (t.dec nm) false o i=PySem.operate [o,i] (getItem o i):=by
 cases t<;>rfl
inductive Sub1 (s:Shared) (po:Value):Prop
 |mk (T id:String) (hT:s.TypeIs po T) (hl:typeLookup (.type T) "__getitem__" = pure (some (.builtin id)))
theorem sub_kind (R:Rep W ρ J s.heap) {o:V} {po:Value} (ho:VR ρ J.n o po) (h:vSR o false (fun _=>true) (fun l=>gO J l false (fun _=>true) (fun _=>true) fun _=>true)=true):Sub1 s po:=by
 revert h
 refine vSR_el (P:=fun po z=>z=true->Sub1 s po) ho nofun (fun x t _=>⟨"str",_,typeIs_str _ _ _,PySem.F.slot_str_getitem.lookup⟩) fun l _=>?_
 exact gO_el (P:=fun z=>z=true->Sub1 s (.ref (ρ l))) R nofun (fun xs _ p _=>p.el fun ys ep hb _ _=>⟨"list",_,⟨_,hb,rfl⟩,list_getitem_lookup⟩) (fun xs _ p _=>p.el fun ys hb _ _=>⟨"tuple",_,⟨_,hb,rfl⟩,slot_tuple_getitem.lookup⟩) fun es _ ⟨xs,ep,hb,_,_⟩ _=>⟨"dict",_,⟨_,hb,rfl⟩,slot_dict_getitem.lookup⟩
theorem sub_tail {slice base:PySem.Expr} {po pi:Value} {r:R V} {vs:List Value} (e:subscripted slice false po pi=PySem.operate vs (getItem po pi)) (K:r≠.bad->Sub1 s po) (h:WP W A (getItem po pi) VR r ρ J s) :
  WP W A (getitemInPython po >>= fun b=>subscripted slice b po pi >>= fun r=>letTemporaryGo base po r >>= fun _=>pure r) VR r ρ J s:=fun Q Ex k=>by
 rcases K k.ne with ⟨T,id,hT,hl⟩
 refine wpAny_bind ?_
 unfold getitemInPython
 refine wpAny_bind (wpAny_specialOf hT hl (wpAny_pure ?_))
 rw[e]
 exact wpAny_bind (wpAny_operating (wpAny_mono (h Q Ex k) (fun r s' hr=>wpAny_bind (wpAny_letTemporaryGo (wpAny_pure hr))) fun _ _ z=>z))
theorem gO_ne {x:α} {l:Nat} {fl ft:List V->α} {fd:List (List Nat×V)->α} (h:gO J l x fl ft fd≠x):gO J l false (fun _=>true) (fun _=>true) (fun _=>true)=true:=by
 revert h
 unfold gO
 induction J.get l using Option.casesOn with
 | none=>exact fun h=>absurd rfl h
 | some o=>
  induction o using Mine.O.casesOn with
  | list _=>exact fun _=>rfl
  | tup _=>exact fun _=>rfl
  | dict _=>exact fun _=>rfl
  | _=>exact fun h=>absurd rfl h
theorem subV_kind {o i:V} (h:subV J o i≠.bad):vSR o false (fun _=>true) (fun l=>gO J l false (fun _=>true) (fun _=>true) fun _=>true)=true:=by
 induction o using Mine.V.casesOn with
 | str x=>rfl
 | ref l=>exact gO_ne h
 | _=>exact absurd rfl h
theorem cutV_kind {o:V} {lo hi:Option V} (h:cutV J o lo hi≠.bad):vSR o false (fun _=>true) (fun l=>gO J l false (fun _=>true) (fun _=>true) fun _=>true)=true:=by
 have a:∀ n,cutTo J o n≠.bad->vSR o false (fun _=>true) (fun l=>gO J l false (fun _=>true) (fun _=>true) fun _=>true)=true:=fun n h=>by
  induction o using Mine.V.casesOn with
  | str x=>rfl
  | ref l=>exact gO_ne h
  | _=>exact absurd rfl h
 have b:∀ n,cutFrom J o n≠.bad->vSR o false (fun _=>true) (fun l=>gO J l false (fun _=>true) (fun _=>true) fun _=>true)=true:=fun n h=>by
  induction o using Mine.V.casesOn with
  | str x=>rfl
  | ref l=>exact gO_ne h
  | _=>exact absurd rfl h
 have p:∀ {v:V} {f:Nat->R V},pos v .bad f≠.bad->∃ n,f n≠.bad:=fun {v f} h=>by
  induction v using Mine.V.casesOn with
  | int i=>
   induction i using Int.casesOn with
   | ofNat n=>exact⟨n,fun z=>h (by show cn _ (f n) .bad=.bad;rw[z];cases Nat.blt n 1000000000<;>rfl)⟩
   | negSucc n=>exact absurd rfl h
  | _=>exact absurd rfl h
 induction lo using Option.casesOn with
 | none=>
  induction hi using Option.casesOn with
  | none=>exact absurd rfl h
  | some u=>exact(p h).elim a
 | some l=>
  induction hi using Option.casesOn with
  | none=>exact(p h).elim b
  | some u=>exact absurd rfl h
theorem e_sub (I:SEv W E) (S:Stt W c m env A ρ J s.heap) (e i:T) (p:Pos):WP W A (eval (.Subscript (e.dec W.nm) (i.dec W.nm) p) env) VR (bd (E.e c m e J) fun o J=>bd (E.e c m i J) fun j J=>subV J o j) ρ J s:=by
 rw[arm_eval_Subscript]
 exact WP.ev I S e fun am ai az po o ad aG au ho=>WP.evH (s:=Shared.at_ s ai az) I au i fun aw ar aQ pj j aq aj aF hj=>WP.standAt
  (sub_tail (s:=Shared.at_ s ar aQ) (sub_shape i W.nm po pj) (fun hb=>sub_kind (s:=Shared.at_ s ar aQ) aF.rep (ho.mono aj.agree aj.n) (subV_kind hb)) (wp_item (s:=Shared.at_ s ar aQ) aF.rep (ho.mono aj.agree aj.n) hj))
theorem wp_opt (I:SEv W E) (S:Stt W c m env A ρ J s.heap) (e:Option T):WP W A (valueOrNone (evalOpt (T.decO W.nm e) env)) VO (evO E c m e J) ρ J s:=by
 induction e using Option.casesOn with
 | none=>exact WP.pure S.rep .none
 | some t=>exact WP.re (t:=eval (t.dec W.nm) env) (I.e t S) fun _ _ _ _=>.some
theorem WP.pushed {t t':Sem α} {rel:(Nat->Addr)->Nat->β->α->Prop} {r:R β} {x:Obj} {tk:Nat} (R:Rep W ρ J s.heap) (v:∀ Q Ex,wpAny W.M A t' Q Ex (Shared.at_ s (s.heap.push x) tk)->wpAny W.M A t Q Ex s)
  (h:WP W A t' rel r ρ J (Shared.at_ s (s.heap.push x) tk)):WP W A t rel r ρ J s:=fun Q Ex k=>v Q Ex (h Q Ex (RP.mono R (Stp.push R x) k))
theorem e_cut (I:SEv W E) (S:Stt W c m env A ρ J s.heap) (e:T) (lo hi:Option T) (sp p:Pos):WP W A (eval (.Subscript (e.dec W.nm) (.Slice (T.decO W.nm lo) (T.decO W.nm hi) none sp) p) env) VR
  (bd (E.e c m e J) fun o J=>bd (evO E c m lo J) fun a J=>bd (evO E c m hi J) fun b J=>cutV J o a b) ρ J s:=by
 rw[arm_eval_Subscript]
 refine WP.ev I S e fun am ai az po o ad aG au ho=>?_
 rw[arm_eval_Slice]
 refine WP.unhold ?_
 simp only[bind_assoc]
 refine WP.bind (s:=Shared.at_ s ai az) au.rep (wp_opt I au lo) fun aw ar aQ pl vl aq aj hl=>?_
 refine WP.bind (s:=Shared.at_ s ar aQ) aj.rep (WP.holding (wp_opt (s:=Shared.at_ s ar aQ) I (au.step aj) hi)) fun aN aH a9 pu vu aT ax hu=>?_
 have ho3:=(ho.mono aj.agree aj.n).mono ax.agree ax.n
 refine WP.unhold ?_
 show WP W A (pure Value.none >>= fun v=>_) VR _ _ _ _
 rw[pure_bind]
 refine WP.pushed (s:=Shared.at_ s aH a9) (x:={cls:=.type "slice",data:=.fields #[pl,pu,.none]}) (tk:=a9) ax.rep (fun Q Ex q=>wpAny_bind (wpAny_newObj_type q (by size_fits))) (WP.standAt ?_)
 have R4:=ax.rep.push {cls:=.type "slice",data:=.fields #[pl,pu,.none]}
 exact sub_tail (s:=Shared.at_ s (aH.push {cls:=.type "slice",data:=.fields #[pl,pu,.none]}) a9) rfl (fun hb=>sub_kind (s:=Shared.at_ s (aH.push {cls:=.type "slice",data:=.fields #[pl,pu,.none]}) a9) R4 ho3 (cutV_kind hb)) (wp_cut (s:=Shared.at_ s (aH.push {cls:=.type "slice",data:=.fields #[pl,pu,.none]}) a9) R4 ho3 (hl.mono ax.agree ax.n) hu (Heap.IsSliceOf.new ..))
end
end

section
open PySem PySem.W PySem.Calls PyProof.Rows
noncomputable def bo (u:Bool):BoolOp:=@Bool.rec (fun _=>BoolOp) .Or .And u
section
variable {α β γ:Type} {W:Wd} {A:Around} {ρ ah:Nat->Addr} {J af:Store} {s:Shared} {h h':Heap} {c:Cx} {m m':M} {env:Env} {E:Ev}
theorem e_bop (I:SEv W E) (p:Pos) (u:Bool) (ts:List T):∀ {ρ J s},Stt W c m env A ρ J s.heap->WP W A (boolOp p (bo u) (evalEach (T.decL W.nm ts) env)) VR (bop E c u m ts J) ρ J s:=by
 induction ts with
 | nil=>exact fun _=>WP.bad
 | cons t r ih=>
  induction r using List.casesOn with
  | nil=>exact fun S=>I.e t S
  | cons u' r=>
   intro ρ J s S
   show WP W A (eval (t.dec W.nm) env >>= fun v=>standAt p >>= fun _=>PySem.holding [v] (truthy v) >>= fun b=>match bo u,b with|.And,false|.Or,true=>pure v|_,_=>boolOp p (bo u) (evalEach (T.decL W.nm (u'::r)) env)) VR (bd (E.e c m t J) fun v J=>oc (truth v) .bad fun b=>cn u (cn b (bop E c u m (u'::r) J) (.ok v J)) (cn b (.ok v J) (bop E c u m (u'::r) J))) _ _ s
   refine WP.ev I S t fun am ai az pv v ad aG au hv=>WP.standAt (WP.unhold ?_)
   have go:=ih (s:=Shared.at_ s ai az) au
   have stop:WP W A (pure pv) VR (.ok v ad) am ad (Shared.at_ s ai az):=WP.pure au.rep hv
   cases hv with
   | bool b=>
    refine WP.via (t':=match bo u,b with|.And,false|.Or,true=>pure (.bool b)|_,_=>boolOp p (bo u) (evalEach (T.decL W.nm (u'::r)) env)) (fun Q Ex q=>wpAny_bind (wpAny_truthy_bool q)) ?_
    induction u using Bool.casesOn with
    | true=>induction b using Bool.casesOn with
     | true=>exact go
     | false=>exact stop
    | false=>induction b using Bool.casesOn with
     | true=>exact stop
     | false=>exact go
   | _=>exact WP.bad
theorem t_bop (I:SEv W E) (u:Bool) (ts:List T):∀ {ρ J s},Stt W c m env A ρ J s.heap->WP W A (allTrue (bo u) (T.decL W.nm ts) env) relB (bopT E c u m ts J) ρ J s:=by
 induction ts with
 | nil=>
  intro ρ J s S
  cases u<;>exact WP.pure S.rep rfl
 | cons t r ih=>
  intro ρ J s S
  show WP W A (isTrue (t.dec W.nm) env (eval (t.dec W.nm) env) >>= fun b=>match bo u,b with|.And,false=>pure false|.Or,true=>pure true|_,_=>allTrue (bo u) (T.decL W.nm r) env) relB _ _ _ s
  refine WP.evT I S t fun am ai az b ad aG au=>?_
  induction u using Bool.casesOn with
  | true=>induction b using Bool.casesOn with
   | true=>exact ih (s:=Shared.at_ s ai az) au
   | false=>exact WP.pure (s:=Shared.at_ s ai az) au.rep rfl
  | false=>induction b using Bool.casesOn with
   | true=>exact WP.pure (s:=Shared.at_ s ai az) au.rep rfl
   | false=>exact ih (s:=Shared.at_ s ai az) au
theorem t_plain (I:SEv W E) (S:Stt W c m env A ρ J s.heap) (t:T) (he:isTrue (t.dec W.nm) env (eval (t.dec W.nm) env)=(do let v <-eval (t.dec W.nm) env;PySem.standAt (t.dec W.nm).pos;PySem.holding [v] (truthy v))) :
  WP W A (isTrue (t.dec W.nm) env (eval (t.dec W.nm) env)) relB (bd (E.e c m t J) fun v J=>oc (truth v) .bad fun b=>.ok b J) ρ J s:=by
 rw[he]
 exact WP.ev I S t fun am ai az pv v ad aG au hv=>WP.standAt (WP.holding (wp_truthy (s:=Shared.at_ s ai az) au.rep hv))
theorem sound_T (K:Kt) (hP:K.P=W.P) (ok:WdOk W) (I:SEv W E) (S:Stt W c m env A ρ J s.heap) (t:T):WP W A (isTrue (t.dec W.nm) env (eval (t.dec W.nm) env)) relB (evT t K E c m J) ρ J s:=by
 induction t using Mine.T.casesOn with
 | not_ e p=>
  show WP W A (isTrue (e.dec W.nm) env (eval (e.dec W.nm) env) >>= fun b=>pure (!b)) relB _ _ _ s
  exact WP.evT I S e fun am ai az b ad aG au=>WP.pure (s:=Shared.at_ s ai az) au.rep (by cases b<;>rfl)
 | and_ vs p=>exact t_bop I true vs S
 | or_ vs p=>exact t_bop I false vs S
 | ife q a b p=>exact t_ife I S q a b p
 | cmp l op r p=>
  show WP W A _ relB (bd (E.e c m l J) fun a J=>bd (E.e c m r J) fun b J=>cmpV K.P J op a b) ρ J s
  rw[hP]
  exact t_cmp ok I S l op r p
 | cnone k p=>exact t_plain I S (.cnone k p) rfl
 | cbool b k p=>exact t_plain I S (.cbool b k p) rfl
 | cint i k p=>exact t_plain I S (.cint i k p) rfl
 | cstr x k p=>exact t_plain I S (.cstr x k p) rfl
 | name x p=>exact t_plain I S (.name x p) rfl
 | attr e f p=>exact t_plain I S (.attr e f p) rfl
 | call f as p=>exact t_plain I S (.call f as p) rfl
 | meth o f ap as p=>exact t_plain I S (.meth o f ap as p) rfl
 | sub e i p=>exact t_plain I S (.sub e i p) rfl
 | cut e lo hi sp p=>exact t_plain I S (.cut e lo hi sp p) rfl
 | neg e p=>exact t_plain I S (.neg e p) rfl
 | bin l op r p=>exact t_plain I S (.bin l op r p) rfl
 | list es p=>exact t_plain I S (.list es p) rfl
 | tup es k p=>exact t_plain I S (.tup es k p) rfl
 | dict ks vs p=>exact t_plain I S (.dict ks vs p) rfl
 | comp elt g it ifs rest kd more p=>exact t_plain I S (.comp elt g it ifs rest kd more p) rfl
theorem star_one (nm:Nat->Str) (t:T) (r:List PySem.Expr) (env:Env):starEach (t.dec nm::r) env=(false,eval (t.dec nm) env)::starEach r env:=by
 cases t<;>rfl
theorem star_plain (nm:Nat->Str) (p:Pos) (env:Env) (ts:List T):(backTo p (starEach (T.decL nm ts) env)).any (·.1)=false:=by
 induction ts with
 | nil=>rfl
 | cons t r ih=>
  rw[T.decL,star_one]
  exact ih
theorem e_each (I:SEv W E) (p:Pos) (ts:List T):∀ {ρ J s},Stt W c m env A ρ J s.heap->WP W A (spliced (backTo p (starEach (T.decL W.nm ts) env))) VRs (evs E c m ts J) ρ J s:=by
 induction ts with
 | nil=>exact fun S=>WP.pure S.rep .nil
 | cons t r ih=>
  intro ρ J s S
  rw[T.decL,star_one]
  refine WP.via (t':=eval (t.dec W.nm) env >>= fun v=>spliced (backTo p (starEach (T.decL W.nm r) env)) >>= fun vs=>pure (v::vs)) (fun Q Ex q=>?_) ?_
  ·show wpAny W.M A (spliced ((false,eval (t.dec W.nm) env)::backTo p (starEach (T.decL W.nm r) env))) Q Ex s
   rw[spliced]
   intro Γ p' cB
   have:=q Γ p' cB
   simp only[Sem.wp_bind',Sem.wp_holding,Sem.wp_pure',Bool.false_eq_true,if_false,List.cons_append,List.nil_append] at this ⊢
   exact this
  ·exact WP.ev I S t fun am ai az pv v ad aG au hv=>WP.bind (s:=Shared.at_ s ai az) au.rep (ih au) fun aw ar aQ pvs vs aq aj hvs=>WP.pure (s:=Shared.at_ s ar aQ) aj.rep (.cons (hv.mono aj.agree aj.n) hvs)
theorem e_list (I:SEv W E) (S:Stt W c m env A ρ J s.heap) (es:List T) (p:Pos):WP W A (eval (.List (T.decL W.nm es) p) env) VR (bd (evs E c m es J) fun vs J=>addL J vs) ρ J s:=by
 rw[arm_eval_List]
 exact WP.standAt (WP.bind S.rep (e_each I p es S) fun am ai az pvs vs ad aG hvs=>list_new (s:=Shared.at_ s ai az) aG.rep hvs fun hz _ _ k=>wpAny_newObj_type (k az) (fits hvs (Nat.le_trans hz (by decide))))
theorem e_tup (I:SEv W E) (S:Stt W c m env A ρ J s.heap) (es:List T) (k:Nat) (p:Pos):WP W A (eval (.Tuple (T.decL W.nm es) k p) env) VR (bd (evs E c m es J) fun vs J=>newT J vs) ρ J s:=by
 rw[arm_eval_Tuple]
 exact WP.standAt (WP.bind S.rep (e_each I p es S) fun am ai az pvs vs ad aG hvs=>tup_new (s:=Shared.at_ s ai az) aG.rep hvs fun hz _ _ k=>wpAny_newObj_type (k az) (fits hvs (Nat.le_trans hz (by decide))))
noncomputable abbrev relA:(Nat->Addr)->Nat->List V->Args->Prop:=fun ρ n vs a=>a.kw=[]/\VRs ρ n vs a.pos
theorem e_args (I:SEv W E) (S:Stt W c m env A ρ J s.heap) (f:Value) (p:Pos) (ts:List T):WP W A (evalArgs f true (backTo p (starEach (T.decL W.nm ts) env)) []) relA (evs E c m ts J) ρ J s:=by
 induction ts using List.casesOn with
 | nil=>exact WP.ok S.rep ⟨rfl,.nil⟩ fun k=>PyProof.Rows.evalArgs_none (k s.toks)
 | cons t r=>
  intro Q Ex k
  have q:wpAny W.M A (spliced (backTo p (starEach (T.decL W.nm (t::r)) env))) (fun vs s=>Q ⟨vs,[]⟩ s) Ex s:=e_each I p (t::r) S _ _ (by
   revert k
   induction evs E c m (t::r) J using Mine.R.casesOn with
   | bad=>exact fun k=>k
   | exc af=>exact fun k=>k
   | ok vs af=>exact fun k ah h' tk a st ra=>k ah h' tk ⟨a,[]⟩ st ⟨rfl,ra⟩)
  rw[T.decL,star_one] at q ⊢
  exact Calls.evalArgs_plain q
theorem Kp.builtin (id:String):Kp W h (.builtin id):=⟨.machine,.inr (.inl rfl),Looks.of_pure rfl⟩
theorem wp_with {p:Pos} {pf:Value} {first:List Value} {trees:List (Bool×Sem Value)} {rv:R (List V)} {g:List V->Store->R V} (hplain:trees.any (·.1)=false) (R:Rep W ρ J s.heap) (ha:WP W A (evalArgs pf true trees []) relA rv ρ J s)
  (hk:∀ ah h' vs af,Sx W A ρ J s.heap ah af h'->g vs af≠.bad->Kp W h' pf) (hc:∀ ah h' tk xs vs af,Sx W A ρ J s.heap ah af h'->VRs ah af.n vs xs->WP W A (call pf (first++xs)) VR (g vs af) ah af (Shared.at_ s h' tk)) :
  WP W A (callWith p pf first trees []) VR (bd rv g) ρ J s:=by
 intro Q Ex k
 refine callWith_of (P:=fun h=>Kp W h pf) (by rw[hplain];rfl) (fun _ q=>q) (ha _ _ ?_)
 induction rv using Mine.R.casesOn with
 | bad=>exact k
 | exc af=>exact k
 | ok vs af=>exact fun ah h' tk a st ⟨e,r⟩=>⟨hk ah h' vs af st k.ne,by rw[e];exact hc ah h' tk a.pos vs af st r Q Ex (RP.mono R st k)⟩
theorem e_call (I:SEv W E) (S:Stt W c m env A ρ J s.heap) (f:T) (as:List T) (p:Pos):WP W A (eval (.Call (f.dec W.nm) (T.decL W.nm as) [] p) env) VR
  (cn (isAt f) .bad (bd (E.e c m f J) fun fv J=>bd (evs E c m as J) fun vs J=>E.call c.k c.hd fv vs J)) ρ J s:=by
 refine WP.ifF fun hf=>?_
 have he:eval (.Call (f.dec W.nm) (T.decL W.nm as) [] p) env=(eval (f.dec W.nm) env >>= fun fv=>callWith p fv [] (backTo p (starEach (T.decL W.nm as) env)) []):=by
  cases f<;>first|rfl|cases hf
 rw[he]
 refine WP.ev I S f fun am ai az pf fv ad aG au hfv=>?_
 refine wp_with (s:=Shared.at_ s ai az) (star_plain ..) au.rep (e_args (s:=Shared.at_ s ai az) I au pf p as) (fun aw ar vs aq aj hb=>?_) fun aw ar aQ xs vs aq aj hvs=>?_
 ·exact I.kp aj.rep (hfv.mono aj.agree aj.n) hb
 ·exact I.call (s:=Shared.at_ s ar aQ) (au.step aj).cst (hfv.mono aj.agree aj.n) hvs
theorem decL_length (nm:Nat->Str) (ts:List T):(T.decL nm ts).length=ts.length:=by
 induction ts with
 | nil=>rfl
 | cons t r ih=>rw[T.decL];exact congrArg (·+1) ih
theorem form_ok (nm:Nat->Str) (p:Pos) (ts:List T) (env:Env) (h:ts.length<=20):methodCallForm ((T.decL nm ts).length+([]:List Keyword).length) (backTo p (starEach (T.decL nm ts) env)) (backToKw p (keywordEach [] env))=true:=by
 unfold methodCallForm
 have h2:(backTo p (starEach (T.decL nm ts) env)).all (!·.1)=true:=by
  rw[List.all_eq_not_any_not]
  simpa using star_plain nm p env ts
 rw[h2,decL_length]
 have h3:backToKw p (keywordEach [] env)=[]:=rfl
 rw[h3]
 simp
 exact Nat.lt_of_le_of_lt h (by decide)
noncomputable def BM.nm (f:BM):Str:=@BM.rec (fun _=>Str) "append" "extend" "pop" "get" "setdefault" f
theorem getM_list (R:Rep W ρ J s.heap) {l:Nat} {xs:List V} (e:J.get l=some (.list xs)) {name:Str} {id:String} {pl:Sem Bool} (slot:Slot "list" name id) (ty:typeOf (.builtin id)=pure (.type "method_descriptor"))
  {Q:Value×List Value->Shared->Prop} {Ex:Value->Shared->Prop} (q:Q (.builtin id,[.ref (ρ l)]) s):wpAny W.M A (getMethod (.ref (ρ l)) name pl) Q Ex s:=
 PL.el (R.obj _ _ e) fun ys ep hb _ _=>getMethod_builtin ⟨_,hb,rfl⟩ PySem.F.plainAttrs_list slot ty (fun a e=>by cases e;exact⟨_,hb,rfl⟩) q
theorem getM_dict (R:Rep W ρ J s.heap) {l:Nat} {es:List (List Nat×V)} (e:J.get l=some (.dict es)) {name:Str} {id:String} {pl:Sem Bool} (slot:Slot "dict" name id) (ty:typeOf (.builtin id)=pure (.type "method_descriptor"))
  {Q:Value×List Value->Shared->Prop} {Ex:Value->Shared->Prop} (q:Q (.builtin id,[.ref (ρ l)]) s):wpAny W.M A (getMethod (.ref (ρ l)) name pl) Q Ex s:=by
 rcases R.obj _ _ e with ⟨xs,ep,hb,_⟩
 exact getMethod_builtin ⟨_,hb,rfl⟩ PySem.F.plainAttrs_dict slot ty (fun a e=>by cases e;exact⟨_,hb,rfl⟩) q
theorem meth_get (R:Rep W ρ J s.heap) {l:Nat} {o:O} {f:BM} (e:J.get l=some o) (h:methOk o f=true) {pl:Sem Bool}
  {Q:Value×List Value->Shared->Prop} {Ex:Value->Shared->Prop} (q:Q (.builtin f.id,[.ref (ρ l)]) s):wpAny W.M A (getMethod (.ref (ρ l)) f.nm pl) Q Ex s:=by
 induction o using Mine.O.casesOn with
 | list xs=>
  induction f using Mine.BM.casesOn with
  | append=>exact getM_list R e PySem.F.slot_list_append PySem.F.type_list_append q
  | extend=>exact getM_list R e PySem.F.slot_list_extend PySem.F.type_list_extend q
  | pop=>exact getM_list R e PySem.F.slot_list_pop PySem.F.type_list_pop q
  | _=>cases h
 | dict es=>
  induction f using Mine.BM.casesOn with
  | get=>exact getM_dict R e PySem.F.slot_dict_get PySem.F.type_dict_get q
  | setdefault=>exact getM_dict R e PySem.F.slot_dict_setdefault PySem.F.type_dict_setdefault q
  | _=>cases h
 | _=>cases h
theorem meth_via {b:Shared} {o:PySem.Expr} {name:Str} {apos p:Pos} {ov f:Value} {first:List Value} {n:Nat} {args:List (Bool×Sem Value)} {kws:List (Option Str×Sem Value)} (hform:methodCallForm n args kws=true) (hp:(apos.endLine == p.line)=true)
  (hg:∀ (pl:Sem Bool) (Q:Value×List Value->Shared->Prop) (Ex:Value->Shared->Prop),Q (f,first) b->wpAny W.M A (getMethod ov name pl) Q Ex s) {Q:Value->Shared->Prop} {Ex:Value->Shared->Prop} (q:wpAny W.M A (callWith p f first args kws) Q Ex b) :
  wpAny W.M A (methodCall o name apos p env ov n args kws) Q Ex s:=by
 unfold methodCall
 rw[hform]
 refine wpAny_bind (wpAny_holding ?_)
 unfold calleeOf
 rw[if_pos rfl]
 refine hg _ _ _ ?_
 have e:methodCallPos true o env apos p=pure p:=by
  unfold methodCallPos
  rw[hp]
  rfl
 show wpAny W.M A (methodCallPos true o env apos p >>= fun callPos=>callWith callPos f first args kws) Q Ex b
 rw[e,pure_bind]
 exact q
theorem e_meth (K:Kt) (hP:K.P=W.P) (ok:WdOk W) (hbm:∀ f b,K.bm f=some b->W.nm f=b.nm) (I:SEv W E) (S:Stt W c m env A ρ J s.heap) (o:T) (f:Nat) (ap:Pos) (as:List T) (p:Pos) :
  WP W A (eval (.Call (.Attribute (o.dec W.nm) (W.nm f) ap) (T.decL W.nm as) [] p) env) VR (cn (Nat.beq ap.endLine p.line) (cn (lenLe as 20) (bd (E.e c m o J) fun ov J=>vRef ov .bad fun l=>oc (J.get l) .bad (aMeth1 f as K E c m l J)) .bad) .bad) ρ J s:=by
 refine WP.ifT fun hline=>WP.ifT fun hlen=>?_
 have hform:=form_ok W.nm p as env (lenLe_at hlen)
 have hline:(ap.endLine == p.line)=true:=beq_iff_eq.mpr (Nat.eq_of_beq_eq_true hline)
 rw[arm_eval_Call,base_eq ok]
 refine WP.ev I S o fun am ai az po ov ad aG au ho=>WP.standAt (WP.ref (t:=fun po=>methodCall (o.dec W.nm) (W.nm f) ap p env po ((T.decL W.nm as).length+([]:List Keyword).length) (backTo p (starEach (T.decL W.nm as) env)) (backToKw p (keywordEach [] env))) ho fun l hl=>WP.so fun x hx=>?_)
 have oth:WP W A (methodCall (o.dec W.nm) (W.nm f) ap p env (.ref (am l)) ((T.decL W.nm as).length+([]:List Keyword).length) (backTo p (starEach (T.decL W.nm as) env)) (backToKw p (keywordEach [] env))) VR (aMeth2 f as K E c m l ad x) am ad (Shared.at_ s ai az):=by
  refine WP.so fun b hb=>WP.ifT fun hok=>?_
  rw[hbm f b hb]
  refine WP.via (t':=callWith p (.builtin b.id) [.ref (am l)] (backTo p (starEach (T.decL W.nm as) env)) []) (fun Q Ex q=>meth_via hform hline (fun pl Q Ex z=>meth_get (s:=Shared.at_ s ai az) au.rep hx hok z) q) ?_
  refine wp_with (s:=Shared.at_ s ai az) (star_plain ..) au.rep (e_args (s:=Shared.at_ s ai az) I au (.builtin b.id) p as) (fun aw ar vs aq aj hb=>Kp.builtin _) fun aw ar aQ ys vs aq aj hvs=>?_
  rw[<-aj.agree l hl]
  exact wp_meth (s:=Shared.at_ s ar aQ) ok aj.rep b hvs
 have p0:=au.rep.obj l x hx
 induction x using Mine.O.casesOn with
 | inst C gs=>
  show WP W A _ VR (oc (lk gs f) (oc (K.P.cl C) .bad fun d=>oc (lk d.3 f) .bad fun a=>bd (evs E c m as ad) fun vs J=>E.call c.k c.hd (.top (.ref a)) (.ref l::vs) J) fun _=>.bad) am ad _
  induction hf:lk gs f using Option.casesOn with
  | some _=>exact WP.bad
  | none=>
   rw[hP]
   refine WP.so fun d hd=>WP.so fun a ha=>?_
   obtain⟨m1,m2,m3⟩:=(ok.cla C d hd).ms f a ha
   rcases p0 with ⟨xs,ep,_,hi,hda,er,nd,_⟩
   obtain⟨y,hy,hno⟩:=er.lookIn (W.P.sy f) (ep:=ep)
   rw[lk_sy ok,hf] at hno
   rw[<-ok.nmc] at hy
   refine WP.via (t':=callWith p (.ref a) [.ref (am l)] (backTo p (starEach (T.decL W.nm as) env)) []) (fun Q Ex q=>meth_via hform hline (fun pl Q Ex z=>?_) q) ?_
   ·exact hno.elN (P:=fun y=>lookIn (W.nm f) (dictOb xs.toArray ep)=some y->_) (fun hy=>method_fn (s:=Shared.at_ s ai az) (ox:=instO C (am (l+1))) (od:=some (dictOb xs.toArray ep)) (au.rep.inK ok) ⟨hi,rfl,rfl,hda⟩ (ok.cla C d hd).ga (ok.cla C d hd).hook m1 m2 (by show(lookIn _ _).map _=_;rw[hy];rfl) z) hy
   ·refine wp_with (s:=Shared.at_ s ai az) (star_plain ..) au.rep (e_args (s:=Shared.at_ s ai az) I au (.ref a) p as) (fun aw ar vs aq aj hb=>keeps_K m3 ar (aj.rep.inK ok)) fun aw ar aQ ys vs aq aj hvs=>?_
    exact I.call (s:=Shared.at_ s ar aQ) (au.step aj).cst (.top _ rfl) (.cons ((VR.ref l hl).mono aj.agree aj.n) hvs)
 | _=>exact oth
end
end

section
open PySem PySem.W PySem.Calls PyProof.Rows

section
variable {W:Wd} {A:Around} {X F:Addr->Prop} {ρ am aw ah:Nat->Addr} {J ad aq af:Store} {s:Shared} {h ai ar h':Heap} {c:Cx} {m m':M} {env:Env} {E:Ev} {k:Nat} {hd:Bool} {lo:Nat} {e:Addr}
structure Bd (W:Wd) (c:Cx) (m:M) (env:Env) (ρ:Nat->Addr) (J:Store) (h:Heap):Prop where
 rep:Rep W ρ J h
 er:EnvR W ρ J.n c m env h
 loc:Off W ρ J env.locals
theorem Stt.bd (S:Stt W c m env A ρ J h):Bd W c m env ρ J h:=⟨S.rep,S.er,S.loc⟩
theorem Bd.step (S:Bd W c m env ρ J h) (s:Stp W F X ρ J h ah af h') (x:¬ X env.locals):Bd W c m env ah af h':=by
 obtain⟨o,ho,_⟩:=S.er.isd
 exact⟨s.rep,S.er.step S.rep s S.loc x,S.loc.step S.rep s ho⟩
theorem nosome {α:Type} {v:α} {P:Prop} (e:none=some v):P:=by cases e
theorem ocE {α β:Type} {o:Option α} {f:α->Option β} {y:β} {P:Prop} (h:oc o none f=some y) (k:∀ a,o=some a->f a=some y->P):P:=by
 induction o using Option.casesOn with
 | none=>cases h
 | some a=>exact k a rfl h
theorem bd_cell (S:Bd W c m env ρ J s.heap) {x:Nat} {v:V} {pv:Value} (hv:VR ρ J.n v pv) {a:Nat} {be:O} {u:Option Value} (hl:env.kindOf (W.nm x)=some .cell) (ha:lk c.cs x=some a) (ho:J.get a=some be) (hc:s.heap.IsCell (ρ a) u) (hd:∀ C gs,be≠.inst C gs) (hr:be≠.rsv)
  {Q:Unit->Shared->Prop} {Ex:Value->Shared->Prop} (k:∀ h' tk,Stp W (FrAt A) (isL env) ρ J s.heap ρ (J.set a (.cell v)) h'->Bd W c m env ρ (J.set a (.cell v)) h'->Q () (Shared.at_ s h' tk)):wpAny W.M A (storeName env (W.nm x) pv) Q Ex s:=by
 obtain⟨ob,hob,hobd⟩:=id hc
 refine wpAny_storeName_cell S.er.kind hl (S.er.cs x a ha).2 hc fun h' hc' hs=>?_
 have st:Sx W A ρ J s.heap ρ (J.set a (.cell v)) h':=Stp.setObj S.rep ho hs ⟨pv,hc',hv⟩ hd nofun hr (codeRec_sameBut hs hob fun vs q=>by rw[hobd] at q;cases q)
 exact k h' s.toks st.toL (S.step st id)
theorem bd_store (ok:WdOk W) (S:Bd W c m env ρ J s.heap) {x:Nat} {v:V} {pv:Value} (hv:VR ρ J.n v pv) {p:M×Store} (e:storeN c m x v J=some p) {Q:Unit->Shared->Prop} {Ex:Value->Shared->Prop}
  (k:∀ h' tk,Stp W (FrAt A) (isL env) ρ J s.heap ρ p.2 h'->Bd W c p.1 env ρ p.2 h'->Q () (Shared.at_ s h' tk)):wpAny W.M A (storeName env (W.nm x) pv) Q Ex s:=by
 have R:=S.rep
 have kd:=S.er.kd x
 refine ocE e fun q hl e=>?_
 rw[hl] at kd
 induction q using NameKind.casesOn with
 | «local»=>
  have e:some (putL m x v,J)=some p:=e
  cases e
  rcases S.er.ns with ⟨mm,N,q⟩
  obtain⟨oL,es,ep,hL,hLd,_⟩:=id N
  refine wpAny_storeName_local kd N (fun h' hn hs=>?_) (by rw[S.er.kind];rfl)
  have R':=R.offSet S.loc hs (codeRec_sameBut hs hL fun vs q=>by rw[hLd] at q;cases q)
  refine k h' (s.toks+1) ⟨R',fun _ _=>rfl,Nat.le_refl _,fun l o e=>.inl ⟨o,e⟩,⟨Nat.le_of_eq hs.1.symm,fun b o e _ _ x=>⟨o,(hs.2 b x).trans e,.inl rfl⟩⟩⟩ ⟨R',⟨S.er.kind,S.er.kd,S.er.glob,S.er.bi,S.er.cs,S.er.code,⟨_,hn,fun y u hy=>?_⟩⟩,S.loc⟩
  rw[lk_putL] at hy
  by_cases z:x=y
  ·rw[beqT z] at hy
   cases hy
   exact⟨pv,if_pos (z▸rfl),hv⟩
  ·rw[beqF z] at hy
   obtain⟨pv',a,b⟩:=q y u hy
   exact⟨pv',(if_neg fun w=>z (ok.inj _ _ w).symm).trans a,b⟩
 | cell=>
  refine ocE e fun a ha e=>ocE e fun o ho e=>?_
  have p:=R.obj a _ ho
  induction o using Mine.O.casesOn with
  | cell0=>cases e;exact bd_cell S hv kd ha ho p nofun nofun k
  | cell u=>cases e;rcases p with ⟨pu,hc,_⟩;exact bd_cell S hv kd ha ho hc nofun nofun k
  | _=>cases e
 | _=>cases e
theorem lookup_map (ok:WdOk W) (kd:List (Nat×NameKind)) (x:Nat):(kd.map fun y=>(W.nm y.1,y.2)).lookup (W.nm x)=lk kd x:=by
 induction kd with
 | nil=>rfl
 | cons y r ih=>
  show(match W.nm x == W.nm y.1 with|true=>some y.2|false=>(r.map fun y=>(W.nm y.1,y.2)).lookup (W.nm x))=cn (Nat.beq y.1 x) _ (lk r x)
  by_cases q:y.1=x
  ·rw[q,beqT rfl,beq_self_eq_true];rfl
  ·rw[beqF q,beq_eq_false_iff_ne.mpr fun z=>q (ok.inj _ _ z.symm)];exact ih
theorem cells_new (ok:WdOk W) (f:Str×NameKind->List (Str×Addr)->Sem (ForInStep (List (Str×Addr))))
  (hf:∀ name kind cells,f (name,kind) cells=if kind == .cell then (do let a <-alloc {cls:=.type "cell",data:=.cell none};pure (.yield ((name,a)::cells))) else pure (.yield cells)) (kd:List (Nat×NameKind)) :
  ∀ (acc:List (Nat×Nat)) (cells:List (Str×Addr)) {ρ:Nat->Addr} {J:Store} {s:Shared} {Q:List (Str×Addr)->Shared->Prop} {Ex:Value->Shared->Prop},
   Rep W ρ J s.heap->CsR W ρ J.n acc cells ->
   (∀ ah h' cells',Sx W A ρ J s.heap ah (newCells kd acc J).2 h'->CsR W ah (newCells kd acc J).2.n (newCells kd acc J).1 cells'->Q cells' (Shared.at_ s h' s.toks)) ->
   wpAny W.M A (forIn (kd.map fun y=>(W.nm y.1,y.2)) cells f) Q Ex s:=by
 induction kd using List.rec with
 | nil=>
  intro acc cells ρ J s Q Ex R H k
  rw[List.map_nil,List.forIn_nil];exact wpAny_pure (k ρ s.heap cells (Stp.refl R) H)
 | cons y r ih=>
  intro acc cells ρ J s Q Ex R H k
  obtain⟨y,kind⟩:=y
  rw[List.map_cons,List.forIn_cons,hf]
  induction kind using NameKind.casesOn with
  | cell=>
   rw[if_pos (show(NameKind.cell == NameKind.cell)=true from rfl)]
   refine wpAny_bind (wpAny_bind (wpAny_alloc (wpAny_pure ?_)))
   have st:Sx W A ρ J s.heap (rhoAt ρ J.n s.heap.objs.size) (J.add .cell0) (s.heap.push {cls:=.type "cell",data:=.cell none}):=
    Stp.alloc R (by exact⟨_,by rw[rhoAt_self];exact Heap.get?_push_size _ rfl,rfl⟩) nofun
   refine ih ((y,J.n)::acc) ((W.nm y,s.heap.objs.size)::cells) (s:=Shared.at_ s _ s.toks) st.rep (fun x a e=>?_) fun ah h' cells' st' H'=>k ah h' cells' (st.trans R st') H'
   rw[List.lookup_cons]
   have e:cn (Nat.beq y x) (some J.n) (lk acc x)=some a:=e
   by_cases q:y=x
   ·rw[beqT q] at e
    cases e
    rw[q,beq_self_eq_true]
    exact⟨Nat.lt_succ_self _,congrArg some rhoAt_self.symm⟩
   ·rw[beqF q] at e
    rw[beq_eq_false_iff_ne.mpr fun z=>q (ok.inj _ _ z.symm)]
    exact(H.mono (ah:=rhoAt ρ J.n s.heap.objs.size) (fun l hl=>rhoAt_lt hl) (Nat.le_succ _)) x a e
  | _=>
   rw[if_neg Bool.false_ne_true]
   exact wpAny_bind (wpAny_pure (ih acc cells R H k))
theorem binds_new (ok:WdOk W) (f:Str×Value->PUnit->Sem (ForInStep PUnit)) (hf:∀ n v u,f (n,v) u=(do storeName env n v;pure (.yield ⟨⟩))) (ps:List Nat) :
  ∀ (as:List V) (xs:List Value) {m:M} {J:Store} {s:Shared} {p:M×Store} {Q:PUnit->Shared->Prop} {Ex:Value->Shared->Prop},
   Bd W c m env ρ J s.heap->VRs ρ J.n as xs->bindPs c ps as m J=some p ->
   (∀ h' tk,Stp W (FrAt A) (isL env) ρ J s.heap ρ p.2 h'->Bd W c p.1 env ρ p.2 h'->Q ⟨⟩ (Shared.at_ s h' tk)) ->
   wpAny W.M A (forIn ((ps.map W.nm).zip xs) ⟨⟩ f) Q Ex s:=by
 induction ps using List.rec with
 | nil=>
  intro as xs m J s p Q Ex B r e k
  rw[List.map_nil,List.zip_nil_left,List.forIn_nil]
  induction as using List.casesOn with
  | nil=>
   cases e
   exact wpAny_pure (k s.heap s.toks (Stp.refl B.rep) B)
  | cons a as=>cases e
 | cons y ps ih=>
  intro as xs m J s p Q Ex B r e k
  induction as using List.casesOn with
  | nil=>cases e
  | cons v vs=>
   refine r.elC (P:=fun xs=>wpAny W.M A (forIn (((y::ps).map W.nm).zip xs) ⟨⟩ f) Q Ex s) fun x xs hv r=>ocE e fun q hq e=>?_
   rw[List.map_cons,List.zip_cons_cons,List.forIn_cons,hf]
   refine wpAny_bind (wpAny_bind (bd_store (A:=A) ok B hv hq fun h' tk st B'=>wpAny_pure ?_))
   exact ih vs xs (s:=Shared.at_ s h' tk) B' (r.mono st.agree st.n) e fun ar aA aj dQ=>k ar aA (st.trans B.rep aj) dQ
theorem Rep.noLimit (ok:WdOk W) (R:Rep W ρ J h):h.NoLimit:=ok.lim.keeps R.keep
noncomputable abbrev frO:Obj:={cls:=.type "frame",data:=.dict #[]}
theorem env_new (ok:WdOk W) (R:Rep W ρ J s.heap) {kd:List (Nat×NameKind)} {k:Nat} {hd:Bool} {cs0:List (Nat×Nat)} {ps:List Nat} {as:List V} {xs:List Value} {scope:Scope} {closure:List (Str×Addr)} {qual:Str} {func:Option Addr} {code:Value} {p:M×Store}
  (hk:scope.kind=.function) (hn:scope.names=kd.map fun y=>(W.nm y.1,y.2)) (H:CsR W ρ J.n cs0 closure) (r:VRs ρ J.n as xs) (hco:lk kd W.P.wk=some .cell->code=.ref W.PC/\qual=W.wq)
  (e:bindPs ⟨k,hd,kd,(newCells kd cs0 J).1⟩ ps as [] (newCells kd cs0 J).2=some p) {Q:Env->Shared->Prop} {Ex:Value->Shared->Prop}
  (q:∀ env ah h' tk,env.locals=s.heap.objs.size->env.frame=some s.heap.objs.size->Sx W A ρ J s.heap ah p.2 h'->Bd W ⟨k,hd,kd,(newCells kd cs0 J).1⟩ p.1 env ah p.2 h'->Q env (Shared.at_ s h' tk)) :
  wpAny W.M A (newFunctionEnv scope mainGlobals closure ((ps.map W.nm).zip xs) qual func code none builtinsNs) Q Ex s:=by
 unfold newFunctionEnv
 refine wpAny_bind (wpAny_alloc ?_)
 have st0:Sx W A ρ J s.heap ρ J (s.heap.push frO):=Stp.push R _
 rw[hn]
 refine wpAny_bind (cells_new (A:=A) ok _ (fun name kind cells=>by cases kind<;>rfl) kd cs0 closure (s:=Shared.at_ s _ s.toks) st0.rep H fun am ai cells' st1 H1=>?_)
 have st01:=st0.trans R st1
 have hoff:Off W am (newCells kd cs0 J).2 s.heap.objs.size:=R.fresh.step (h:=s.heap.push frO) st0.rep st1 (Heap.get?_push_size _ rfl)
 have hN:ai.Ns s.heap.objs.size fun _=>none:=Ns.step st0.rep st1 R.fresh (fun z=>z) (Heap.Ns.new s.heap (.type "frame"))
 have B:Bd W ⟨k,hd,kd,(newCells kd cs0 J).1⟩ [] {scope,locals:=s.heap.objs.size,globals:=mainGlobals,cells:=cells',qual,func,code,frame:=some s.heap.objs.size,builtins:=builtinsNs} am (newCells kd cs0 J).2 ai:=
  ⟨st1.rep,⟨hk,fun x=>by show scope.names.lookup (W.nm x)=_;rw[hn];exact lookup_map ok kd x,rfl,rfl,H1,hco,⟨_,hN,fun _ _ e=>nosome e⟩⟩,hoff⟩
 refine wpAny_bind (binds_new (A:=A) ok _ (fun _ _ _=>rfl) ps as xs (s:=Shared.at_ s ai s.toks) B (r.mono st01.agree st01.n) e fun ar aA st2 B2=>wpAny_pure ?_)
 exact q _ am ar aA rfl rfl (st01.under2 R st2 (fun b hb=>.inl (by rw[hb];exact get?_size _)) fun b hb=>.inr hb) B2
theorem WX.next (S:Stt W c m env A ρ J s.heap):WX W A c env (pure .next) (.nxt m J) ρ J s:=fun _ _ k=>wpAny_pure (k ρ s.heap s.toks S.same)
theorem sound_execs (I:SEv W E) (b:List S):∀ {m ρ J s},Stt W c m env A ρ J s.heap->WX W A c env (PySem.execs (S.decL W.nm b) env) (execs E c b m J) ρ J s:=by
 induction b using List.rec with
 | nil=>exact fun H=>WX.next H
 | cons t r ih=>exact fun {m ρ J s} H=>WX.seq (f:=fun f=>match f with|.next=>PySem.execs (S.decL W.nm r) env|f=>pure f) H (I.s t H) rfl (fun _=>rfl) fun m' af ah h' tk S'=>ih (s:=Shared.at_ s h' tk) S'
theorem Frames.fun_ {fs:List Env} (G:Frames W A ρ J h) (hfr:A.frames=some fs):h.FunFrames W.h₀ fs:=by
 have:∀ l:List Env,(∀ e∈l,e∈fs)->h.FunFrames W.h₀ l:=by
  intro l
  induction l with
  | nil=>exact fun _=>trivial
  | cons x r ih=>
   intro hl
   rcases G x ⟨fs,hfr,hl x (.head _)⟩ with ⟨k,L,o,hf,ho,⟨es,ep,hd⟩,O⟩
   exact⟨by rw[k];decide,⟨L,o,hf,O.base,ho,fun vs q=>by rw[hd] at q;cases q⟩,ih fun e he=>hl e (.tail _ he)⟩
 exact this fs fun _ h=>h
theorem frAt_iff {fs:List Env} (hfr:A.frames=some fs) {b:Addr}:b∈fs.filterMap (·.frame)↔FrAt A b:=by
 rw[List.mem_filterMap]
 exact⟨fun ⟨e,a,q⟩=>⟨e,⟨fs,hfr,a⟩,q⟩,fun ⟨e,⟨gs,hg,a⟩,q⟩=>⟨e,by rw[hfr] at hg;rw[Option.some.inj hg];exact a,q⟩⟩
theorem Stp.slots {fs:List Env} (hfr:A.frames=some fs) (R:Rep W ρ J h) (G:Frames W A ρ J h) (x:Heap.SlotsOnly (fs.filterMap (·.frame)) h h'):Stp W (FrAt A) X ρ J h ρ J h':=by
 have nt:∀ b,FrAt A b->Off W ρ J b:=fun b ⟨ev,he,hf⟩=>by
  rcases G ev he with ⟨_,L,o,hL,_,_,O⟩
  rw[hf] at hL
  rw[Option.some.inj hL]
  exact O
 have same:∀ b,¬ FrAt A b->h'.get? b=h.get? b:=fun b hb=>x.2.1 b fun hm=>hb ((frAt_iff hfr).mp hm)
 have kc:∀ cd q,h.CodeRec cd q->h'.CodeRec cd q:=fun cd q ⟨c,o,vs,t,e1,e2,e3,e4⟩=>by
  obtain⟨sl,es⟩:=x.2.2 c o e2
  exact⟨c,_,vs,t,e1,es,e3,e4⟩
 refine⟨R.other (fun b t=>same b fun z=>(nt b z).trk t) (fun b o e=>(same b fun z=>by rw[(nt b z).base] at e;cases e).trans (R.keep b o e)) (R.tab.keep (fun o e=>(same _ fun z=>(nt _ z).pt rfl).trans e) kc) kc,
  fun _ _=>rfl,Nat.le_refl _,fun l o e=>.inl ⟨o,e⟩,⟨Nat.le_of_eq x.1.symm,fun b o e _ _ _=>?_⟩⟩
 by_cases hb:FrAt A b
 ·obtain⟨sl,es⟩:=x.2.2 b o e
  exact⟨_,es,.inr ⟨hb,rfl,rfl⟩⟩
 ·exact⟨o,(same b hb).trans e,.inl rfl⟩
theorem Fly.step (R:Rep W ρ J h) (s:Stp W (FrAt A) X ρ J h ah af h') (f:Fly W A ρ J lo e h) (x:∀ b,lo<=b->(∃ o vs,h.get? b=some o/\o.data=.fields vs)->¬ X b):Fly W A ah af lo e h':=by
 obtain⟨⟨o,vs,a,b,d,z,h2,t⟩,O,nf,k⟩:=f
 refine⟨⟨o,vs,s.keptX a O (x e k ⟨o,vs,a,d⟩) nf,b,d,z,h2,t.imp id fun ⟨t,q1,q⟩=>⟨t,q1,?_⟩⟩,O.step R s a,nf,k⟩
 rcases q with ⟨ot,tvs,L,p1,p2,p3,p4,ne,off,tf,tl⟩
 exact⟨ot,tvs,L,s.keptX p1 off (x t tl ⟨ot,tvs,p1,p2⟩) tf,p2,p3,p4,ne,off.step R s p1,tf,tl⟩
end
end

section
open PySem PySem.W PySem.Calls PyProof.Rows

section
variable {W:Wd} {A:Around} {X F:Addr->Prop} {ρ am aw ah:Nat->Addr} {J ad aq af:Store} {s:Shared} {h ai ar h':Heap} {c:Cx} {m m':M} {env:Env} {E:Ev} {k:Nat} {hd:Bool} {lo:Nat} {e:Addr}
theorem notCode_ref {o:Obj} {vs:Array Value} (hd:o.data=.fields vs) {i:Value} (h1:vs[1]?=some i) (hi:∀ q t,i≠.str q t):NotCode o:=notCode_of hd fun q t z=>hi q t (Option.some.inj (h1.symm.trans z))
theorem wp_setF {t:Addr} {i:Nat} {v:Value} {ot:Obj} {tvs:Array Value} {L:Addr} (R:Rep W ρ J s.heap) (p1:s.heap.get? t=some ot) (p2:ot.data=.fields tvs) (p3:4<=tvs.size) (p4:tvs[1]?=some (.ref L)) (hi:i<tvs.size) (ne:i≠1) (te:t≠e) (off:Off W ρ J t) (nf:¬ FrAt A t) (tl:lo<=t)
  (f:Fly W A ρ J lo e s.heap) {o:Obj} {vs:Array Value} (he:s.heap.get? e=some o) (hd:o.data=.fields vs) (h1:vs[1]?=some (.ref t)) {Q:Unit->Shared->Prop} {Ex:Value->Shared->Prop}
  (k:∀ h',Stp W (FrAt A) (hiX lo) ρ J s.heap ρ J h'->Fly W A ρ J lo e h'->(∀ b,b≠t->h'.get? b=s.heap.get? b)->Q () (Shared.at_ s h' s.toks)):wpAny W.M A (setField (.ref t) i v) Q Ex s:=by
 refine wpAny_setField p1 p2 hi ?_
 have hd2:=Obj.data_mapFields p2 (·.setIfInBounds i v)
 have hu:=Heap.get?_update_self (Obj.mapFields (·.setIfInBounds i v)) p1 (Obj.isFreed_of_fields hd2)
 have hs:Heap.SameBut t s.heap (s.heap.update t (Obj.mapFields (·.setIfInBounds i v))):=Heap.SameBut.update ..
 obtain⟨⟨o',vs',a,b,d,z,h2,_⟩,O,ff,fl⟩:=f
 rw[he] at a
 rw[<-Option.some.inj a] at b d
 rw[hd] at d
 rw[<-Data.fields.inj d] at z h2
 refine k _ (Stp.one (oa:=ot) R off hs (codeRec_not hs p1 (notCode_ref p2 p4 nofun)) tl) ⟨⟨o,vs,(hs.2 e (Ne.symm te)).trans he,b,hd,z,h2,.inr ⟨t,h1,⟨_,_,L,hu,hd2,by rw[Array.size_setIfInBounds];exact p3,?_,te,off,nf,tl⟩⟩⟩,O,ff,fl⟩ fun b hb=>hs.2 b hb
 rw[Array.getElem?_setIfInBounds_ne ne]
 exact p4
theorem wp_setFlight (R:Rep W ρ J s.heap) (f:Fly W A ρ J lo e s.heap) (fr:Option Addr) {Q:Unit->Shared->Prop} {Ex:Value->Shared->Prop}
  (k:∀ h',Stp W (FrAt A) (hiX lo) ρ J s.heap ρ J h'->Fly W A ρ J lo e h'->h'.get? e=s.heap.get? e->Q () (Shared.at_ s h' s.toks)):wpAny W.M A (setFlight (.ref e) fr) Q Ex s:=by
 obtain⟨⟨o,vs,he,hc,hd,hz,h2,ht⟩,O,nf,hlo⟩:=id f
 unfold setFlight
 rcases ht with h1|⟨t,h1,⟨ot,tvs,L,p1,p2,p3,p4,te,off,tf,tl⟩⟩
 ·refine wpAny_bind (wpAny_field he hd h1 ?_)
  rw[if_neg (by decide)]
  exact wpAny_pure (k s.heap (Stp.refl R) f rfl)
 ·refine wpAny_bind (wpAny_field he hd h1 ?_)
  rw[if_pos (show(Value.ref t != Value.none)=true from rfl)]
  exact wp_setF R p1 p2 p3 p4 (Nat.lt_of_lt_of_le (by decide) p3) (by decide) te off tf tl f he hd h1 fun h' st f' hs=>k h' st f' (hs e (Ne.symm te))
noncomputable def HasTb (h:Heap) (e:Addr):Prop:=∃ o vs t,h.get? e=some o/\o.data=.fields vs/\vs[1]?=some (.ref t)
noncomputable abbrev tbO (xs:List Value):Obj:={cls:=.type "traceback",dict:=none,data:=.fields xs.toArray}
theorem wp_newEntry (R:Rep W ρ J s.heap) (G:Frames W A ρ J s.heap) {aO:Env} {rest:List Env} (hfr:A.frames=some (aO::rest)) (htop:env.frame=aO.frame) (hlz:lo<=s.heap.objs.size) (f:Fly W A ρ J lo e s.heap) {L:Addr} (hf:env.frame=some L) {head:Value} {hadNext:Bool}
  {Q:Unit->Shared->Prop} {Ex:Value->Shared->Prop} (k:∀ h',Stp W (FrAt A) (hiX lo) ρ J s.heap ρ J h'->Fly W A ρ J lo e h'->HasTb h' e->Q () (Shared.at_ s h' s.toks)) :
  wpAny W.M A (do let a <-PySem.frameOf env;let pl <-entryPlaceOf L hadNext;let b <-EntryCells.newEntry head a .none (rawInt L) .none pl;setField (.ref e) 1 b) Q Ex s:=by
 refine wpAny_bind ?_
 unfold PySem.frameOf
 refine wpAny_bind (wpAny_frameEnvs hfr ?_)
 have hdw:((aO::rest).dropWhile fun x=>x.frame != env.frame)=aO::rest:=by
  rw[List.dropWhile,htop]
  show(match(aO.frame != aO.frame) with|true=>_|false=>_)=_
  rw[bne_self_eq_false]
 rw[hdw]
 refine wpAny_bind (wpAny_bind (wpAny_readyFrames_fun (G.fun_ hfr) fun ai bD=>wpAny_pure ?_))
 rw[<-htop,hf]
 refine wpAny_pure ?_
 have st1:Stp W (FrAt A) (hiX lo) ρ J s.heap ρ J ai:=Stp.slots hfr R G bD
 have n1:Sx W A ρ J s.heap ρ J ai:=Stp.slots hfr R G bD
 have f1:=Fly.step R n1 f fun _ _ _ q=>q
 refine wpAny_bind (wpAny_entryPlaceOf fun pl hpl=>?_)
 unfold EntryCells.newEntry newFields
 refine wpAny_bind (wpAny_newObj_type ?_ (hpl.sizeOk5 _ _ _ _ _))
 generalize hvs:[head,.ref L,.none,rawInt L,.none]++(if pl.isEmpty then List.replicate 6 Value.none else pl)=xs
 have x3:4<=xs.toArray.size:=by rw[<-hvs,List.size_toArray,List.length_append];exact Nat.le_trans (show 4<=5 from by decide) (Nat.le_add_right 5 _)
 have x1:xs.toArray[1]?=some (.ref L):=by rw[<-hvs];rfl
 have gt:(ai.push (tbO xs)).get? ai.objs.size=some (tbO xs):=Heap.get?_push_size _ rfl
 have st2:Stp W (FrAt A) (hiX lo) ρ J ai ρ J (ai.push (tbO xs)):=Stp.push st1.rep _
 have f2:=Fly.step st1.rep (Stp.push (F:=FrAt A) (X:=noX) st1.rep (tbO xs)) f1 fun _ _ _ q=>q
 have G2:=(G.step R n1 fun _ _ q=>q.elim).notFr (get?_size ai)
 have U:=st1.rep.fresh
 have hne:ai.objs.size≠e:=by
  rcases f1.at_ with ⟨_,_,he',_⟩
  exact Nat.ne_of_gt (Heap.lt_size he')
 have hlz2:lo<=ai.objs.size:=by rw[bD.1];exact hlz
 obtain⟨⟨o,vs,he,hc,hd,hz,h2,ht⟩,O,nf,hlo⟩:=f2
 refine wpAny_setField he hd (Nat.lt_of_lt_of_le (by decide) hz) ?_
 have hs:=Heap.SameBut.update (ai.push (tbO xs)) e (Obj.mapFields (·.setIfInBounds 1 (Value.ref ai.objs.size)))
 have hd3:=Obj.data_mapFields hd (·.setIfInBounds 1 (Value.ref ai.objs.size))
 have hu:=Heap.get?_update_self (Obj.mapFields (·.setIfInBounds 1 (Value.ref ai.objs.size))) he (Obj.isFreed_of_fields hd3)
 have h1:(vs.setIfInBounds 1 (Value.ref ai.objs.size))[1]?=some (.ref ai.objs.size):=Array.getElem?_setIfInBounds_self_of_lt (Nat.lt_of_lt_of_le (by decide) hz)
 have nc:NotCode o:=ht.elim (fun z=>notCode_ref hd z nofun) fun ⟨t,a,_⟩=>notCode_ref hd a nofun
 have st3:=Stp.one (oa:=o) (F:=FrAt A) (X:=hiX lo) st2.rep O hs (codeRec_not hs he nc) hlo
 exact k _ ((st1.trans R st2).trans R st3) ⟨⟨_,_,hu,(Obj.cls_mapFields _ _).trans hc,hd3,by rw[Array.size_setIfInBounds];exact hz,by rw[Array.getElem?_setIfInBounds_ne (by decide)];exact h2,.inr ⟨ai.objs.size,h1,⟨_,_,L,(hs.2 _ hne).trans gt,rfl,x3,x1,hne,U,G2,hlz2⟩⟩⟩,O,nf,hlo⟩ ⟨_,_,ai.objs.size,hu,hd3,h1⟩
theorem wp_note (R:Rep W ρ J s.heap) (G:Frames W A ρ J s.heap) {aO:Env} {rest:List Env} (hfr:A.frames=some (aO::rest)) (htop:env.frame=aO.frame) (hlz:lo<=s.heap.objs.size) (f:Fly W A ρ J lo e s.heap)
  {Q:Unit->Shared->Prop} {Ex:Value->Shared->Prop} (k:∀ h',Stp W (FrAt A) (hiX lo) ρ J s.heap ρ J h'->Fly W A ρ J lo e h'->HasTb h' e->Q () (Shared.at_ s h' s.toks)):wpAny W.M A (noteFrame (.ref e) env) Q Ex s:=by
 rcases G aO ⟨_,hfr,.head _⟩ with ⟨_,L,_,hL,_⟩
 have hf:env.frame=some L:=htop.trans hL
 obtain⟨⟨o,vs,he,hc,hd,hz,h2,ht⟩,O,nf,hlo⟩:=id f
 unfold noteFrame
 rw[hf]
 rcases ht with h1|⟨t,h1,⟨ot,tvs,L',p1,p2,p3,p4,te,off,tf,tl⟩⟩
 ·refine wpAny_bind (wpAny_field he hd h1 ?_)
  rw[if_neg (by decide)]
  exact wp_newEntry R G hfr htop hlz f hf k
 ·refine wpAny_bind (wpAny_field he hd h1 ?_)
  rw[if_pos (show(Value.ref t != Value.none)=true from rfl)]
  have hx:tvs[3]?=some tvs[3]:=Array.getElem?_eq_getElem p3
  refine wpAny_bind (wpAny_field p1 p2 hx ?_)
  by_cases hq:(tvs[3] == rawInt L)=true
  ·rw[if_pos hq]
   exact wpAny_pure (k s.heap (Stp.refl R) f ⟨o,vs,t,he,hd,h1⟩)
  ·rw[if_neg hq]
   refine wpAny_bind (wp_setF R p1 p2 p3 p4 (Nat.lt_of_lt_of_le (by decide) p3) (by decide) te off tf tl f he hd h1 fun h' st f' hs=>?_)
   refine wp_newEntry (s:=Shared.at_ s h' s.toks) st.rep (fun ev hev=>?_) hfr htop (Nat.le_trans hlz st.kept.size) f' hf fun h' st' ff tb=>k h' (st.trans R st') ff tb
   rcases G ev hev with ⟨a,L2,o2,b,ho2,d,O2⟩
   exact⟨a,L2,o2,b,(hs L2 fun z=>tf (z▸⟨ev,hev,b⟩)).trans ho2,d,O2⟩
theorem wp_leaving (R:Rep W ρ J s.heap) (G:Frames W A ρ J s.heap) {aO:Env} {rest:List Env} (hfr:A.frames=some (aO::rest)) (htop:env.frame=aO.frame) (hlz:lo<=s.heap.objs.size) (f:Fly W A ρ J lo e s.heap)
  {Q:Unit->Shared->Prop} {Ex:Value->Shared->Prop} (k:∀ h',Stp W (FrAt A) (hiX lo) ρ J s.heap ρ J h'->Fly W A ρ J lo e h'->Q () (Shared.at_ s h' s.toks)):wpAny W.M A (leaving env (.ref e)) Q Ex s:=by
 unfold leaving
 refine wpAny_bind (wp_note R G hfr htop hlz f fun ai st f1 _=>?_)
 exact wp_setFlight (s:=Shared.at_ s ai s.toks) st.rep f1 none fun ar st2 f2 _=>k ar (st.trans R st2) f2
theorem Fr.deeper {x:Env} (q:Fr (A.deeper env) x):x=env\/Fr A x:=by
 obtain⟨fs,hf,he⟩:=q
 obtain⟨gs,hg,z⟩:=Option.map_eq_some_iff.mp hf
 rw[<-z] at he
 rcases List.mem_cons.mp he with z|he
 ·exact .inl z
 ·exact .inr ⟨gs,hg,he⟩
theorem FrAt.deeper {b:Addr} (q:FrAt (A.deeper env) b):env.frame=some b\/FrAt A b:=by
 obtain⟨v,a,q⟩:=q
 rcases Fr.deeper a with z|a
 ·exact .inl (z▸q)
 ·exact .inr ⟨v,a,q⟩
theorem FrAt.tail {b:Addr} (x:FrAt A b):FrAt (A.deeper env) b:=by
 obtain⟨v,⟨fs,hf,a⟩,q⟩:=x
 exact⟨v,⟨env::fs,by show A.frames.map _=_;rw[hf];rfl,.tail _ a⟩,q⟩
theorem Fly.sub {A':Around} (q:∀ b,FrAt A b->FrAt A' b) (f:Fly W A' ρ J lo e h):Fly W A ρ J lo e h:=by
 obtain⟨⟨o,vs,a,b,d,z,h2,t⟩,O,nf,k⟩:=f
 refine⟨⟨o,vs,a,b,d,z,h2,t.imp id fun ⟨t,q1,z⟩=>⟨t,q1,?_⟩⟩,O,fun z=>nf (q _ z),k⟩
 rcases z with ⟨ot,tvs,L,p1,p2,p3,p4,ne,off,tf,tl⟩
 exact⟨ot,tvs,L,p1,p2,p3,p4,ne,off,fun z=>tf (q _ z),tl⟩
theorem Cst.enter {kd:List (Nat×NameKind)} {cs:List (Nat×Nat)} (C:Cst W (k+1) hd A ρ J h) (st:Sx W A ρ J h am ad ai) (B:Bd W ⟨k,hd,kd,cs⟩ m env am ad ai) (hf:env.frame=some env.locals) (hn:h.get? env.locals=none) :
  Stt W ⟨k,hd,kd,cs⟩ m env (A.deeper env) am ad ai:=by
 have G:=C.fr.step C.rep st (fun _ _ q=>q.elim)
 obtain⟨aO,rest,hne⟩:=C.ne
 have fr:(A.deeper env).frames=some (env::aO::rest):=by show A.frames.map _=_;rw[hne];rfl
 refine⟨⟨B.rep,fun ev he=>?_,⟨_,_,fr⟩,?_,?_,?_⟩,B.er,B.loc,⟨_,_,fr,rfl⟩⟩
 ·rcases Fr.deeper he with z|he
  ·obtain⟨o,ho,hd⟩:=B.er.isd
   rw[z]
   exact⟨B.er.kind,env.locals,o,hf,ho,hd,B.loc⟩
  ·exact G ev he
 ·have:=C.dep
  show A.depth+1+4*k<=990
  omega
 ·have:=C.uni
  show A.units+3+30*k<=9000
  omega
 ·refine C.hd.imp id fun ⟨a,e,b,H⟩=>?_
  have H':=H.step C.rep st id
  refine⟨a,e,b,H'.at_,H'.off,fun q=>?_⟩
  rcases FrAt.deeper q with q|q
  ·rw[hf] at q
   obtain⟨o,vs,ho,_⟩:=H.at_
   rw[<-Option.some.inj q,hn] at ho;cases ho
  ·exact H'.nf q
theorem bindPs_len (ps:List Nat):∀ {as:List V} {m:M} {J:Store} {p:M×Store},bindPs c ps as m J=some p->ps.length=as.length:=by
 induction ps using List.rec with
 | nil=>
  intro as m J p e
  induction as using List.casesOn with
  | nil=>rfl
  | cons a as=>cases e
 | cons y ps ih=>
  intro as m J p e
  induction as using List.casesOn with
  | nil=>cases e
  | cons v vs=>exact ocE e fun q hq e=>congrArg Nat.succ (ih e)
theorem wp_runF (ok:WdOk W) (I:SEv W E) (C:Cst W k hd A ρ J s.heap) {a:Addr} {o:Obj} {fd:FuncData} {kd:List (Nat×NameKind)} {body:List S} {ps:List Nat} {cs0:List (Nat×Nat)} {as:List V} {xs xs0:List Value}
  (ho:s.heap.get? a=some o) (hd':o.data=.func fd) (hbody:fd.body=.stmts (S.decL W.nm body)) (hk:fd.scope.kind=.function) (hgen:fd.scope.isGenerator=false) (hco:fd.scope.isCoroutine=false) (hn:fd.scope.names=kd.map fun y=>(W.nm y.1,y.2))
  (hg:fd.globals=mainGlobals) (hb:fd.builtins=builtinsNs) (hcd:s.heap.CodeRec fd.code fd.qualname) (hbind:ps.length=as.length->BindsTo s fd ⟨xs0,[]⟩ ((ps.map W.nm).zip xs)) (hcs:CsR W ρ J.n cs0 fd.closure) (hv:VRs ρ J.n as xs) (hwk:lk kd W.P.wk=some .cell->fd.code=.ref W.PC/\fd.qualname ++ ".<locals>." = W.wq) :
  WC W A (.call (.ref a) ⟨xs0,[]⟩) (runF E k hd kd body ps cs0 as J) ρ J s:=by
 have aB:=C.rep
 induction k using Nat.casesOn with
 | zero=>exact fun _ q=>q.elim
 | succ k=>
  show WC W A _ (oc (bindPs ⟨k,hd,kd,(newCells kd cs0 J).1⟩ ps as [] (newCells kd cs0 J).2) .bad fun p=>endF (execs E ⟨k,hd,kd,(newCells kd cs0 J).1⟩ body p.1 p.2)) ρ J s
  induction hp:bindPs ⟨k,hd,kd,(newCells kd cs0 J).1⟩ ps as [] (newCells kd cs0 J).2 using Option.casesOn with
  | none=>exact fun _ q=>q.elim
  | some p=>
   intro T kk
   refine codeAny_call_function (by have:=C.dep;unfold recursionLimit;omega) ho hd' hco hgen hbody hcd (hbind (bindPs_len ps hp) _ _ _ _ ?_)
   rw[hg,hb]
   refine env_new (A:=A.in1) ok aB hk hn hcs hv hwk hp fun env ah h' tk e2 e3 st B=>⟨B.rep.noLimit ok,?_⟩
   have hf:env.frame=some env.locals:=by rw[e3,e2]
   have hnone:s.heap.get? env.locals=none:=by rw[e2];exact get?_size _
   have S1:=C.enter st B hf hnone
   have sub:∀ b,FrAt (A.deeper env) b->s.heap.get? b=none\/FrAt A b:=fun b q=>(FrAt.deeper q).imp (fun z=>by rw[hf] at z;rw[<-Option.some.inj z];exact hnone) id
   have fin:∀ {aw ad ar},Stp W (FrAt (A.deeper env)) (isL env) ah p.2 h' aw ad ar->Sx W A ρ J s.heap aw ad ar:=fun st2=>st.under2 aB st2 (fun b hb=>.inl (by rw[hb];exact hnone)) sub
   refine codeAny_func (sound_execs (s:=Shared.at_ s h' tk) I body S1 _ _ ?_)
   have kk:RP W A VR (endF (execs E ⟨k,hd,kd,(newCells kd cs0 J).1⟩ body p.1 p.2)) ρ J s (fun v=>T (.ok (.ret v))) (fun e=>T (.error e)):=kk
   revert kk
   induction execs E ⟨k,hd,kd,(newCells kd cs0 J).1⟩ body p.1 p.2 using Mine.X.casesOn with
   | bad=>exact fun kk=>kk
   | cnt m af=>exact fun kk=>kk.elim
   | nxt m af=>exact fun kk aw ar aA ⟨st2,_⟩=>kk aw ar aA _ (fin st2) .none
   | ret v m af=>exact fun kk aw ar aA pv ⟨st2,_⟩ hv=>kk aw ar aA _ (fin st2) hv
   | exc m af=>
    intro kk aw ar aA e ⟨st2,er⟩ fl
    have S2:=S1.stepL st2 er
    obtain⟨aO,rest,hne,htop⟩:=S2.top
    refine wp_leaving (s:=Shared.at_ s ar aA) S2.rep S2.cst.fr hne htop st2.kept.size fl fun aH st3 f3=>?_
    exact kk aw aH _ e ((fin st2).under2 aB st3 (fun b hb=>.inl (get?_size' _ (Nat.le_trans st.kept.size hb))) sub) ((f3.sub fun _=>FrAt.tail).low st.kept.size)
end
end

section
open PySem PySem.W PySem.Calls PyProof.Rows

noncomputable def OmOk (W:Wd) (om:Om):Prop:=∀ {a g d},om a=some g->W.P.fn a=some d->∀ {k hd A ρ J s as xs r},g k hd as J=some r->Cst W k hd A ρ J s.heap->VRs ρ J.n as xs->WC W A (.call (.ref a) ⟨xs,[]⟩) r ρ J s
section
variable {W:Wd} {A:Around} {X F:Addr->Prop} {ρ am aw ah:Nat->Addr} {J ad aq af:Store} {s:Shared} {h ai ar h':Heap} {c:Cx} {m m':M} {env:Env} {E:Ev} {k:Nat} {hd:Bool} {lo:Nat} {e:Addr} {as:List V} {xs:List Value}
theorem sound_cfn {om:Om} (ok:WdOk W) (ho:OmOk W om) (I:SEv W E) {a:Nat} {d:FD} (hd':W.P.fn a=some d) (C:Cst W k hd A ρ J s.heap) (hv:VRs ρ J.n as xs):WC W A (.call (.ref a) ⟨xs,[]⟩) (callD om E k hd as J a d) ρ J s:=by
 have XK:=C.rep.inK ok
 have base:WC W A (.call (.ref a) ⟨xs,[]⟩) (runF E k hd d.3 d.4 d.1 [] (cn (lenEq d.1 as) as (as++d.2)) J) ρ J s:=by
  rcases ok.fna a d hd' with ⟨oc',od,osl,fd,dvs,at_,k1,k2,k3,k4,k5,k6,k7,k8,k9,k10,k11,k12,k13⟩
  have run:=fun {as'} {xs'} (hv':VRs ρ J.n as' xs') (hb:d.ps.length=as'.length->BindsTo s fd ⟨xs,[]⟩ ((d.ps.map W.nm).zip xs'))=>wp_runF (kd:=d.3) (body:=d.4) (ps:=d.1) (cs0:=[]) ok I C (XK a _ at_) rfl k1 k2 k3 k4 k5 k6 k7 (codeRec_of XK k9) hb (fun x a e=>nosome e) hv' k11
  exact cn_el (P:=fun z=>WC W A (.call (.ref a) ⟨xs,[]⟩) (runF E k hd d.3 d.4 d.1 [] z J) ρ J s) (fun _=>run hv fun e=>(k13 s xs XK).1 (hv.length.trans e.symm)) fun _=>run (hv.append (k12 ρ J.n)) fun e=>(k13 s xs XK).2 (by rw[hv.length,(k12 ρ J.n).length,e,List.length_append])
 show WC W A _ (oc (oc (om a) none fun g=>g k hd as J) _ fun r=>r) ρ J s
 induction hg:om a using Option.casesOn with
 | none=>exact base
 | some g=>
  show WC W A _ (oc (g k hd as J) _ fun r=>r) ρ J s
  induction hr:g k hd as J using Option.casesOn with
  | none=>exact base
  | some r=>exact ho hg hd' hr C hv
theorem add2_el {a b:O} {j:Nat} {q:O} {P:Prop} (e:((J.add a).add b).get j=some q) (h1:j=J.n+1->q=b->P) (h2:j=J.n->q=a->P) (h3:J.get j=some q->P):P:=add_el e h1 fun e _=>add_el e h2 fun e _=>h3 e
theorem Stp.newInst (R:Rep W ρ J h) {C:Nat} {d:CD} (hc:W.P.cl C=some d):Stp W F X ρ J h (rhoAt (rhoAt ρ J.n (h.objs.size+1)) (J.n+1) h.objs.size) ((J.add (.inst C [])).add .rsv) ((h.push emptyDict).push (instObj C h.objs.size)):=by
 have st:=(Stp.push (F:=F) (X:=X) R emptyDict).trans R (Stp.push (R.push _) (instObj C h.objs.size))
 have gd:((h.push emptyDict).push (instObj C h.objs.size)).get? h.objs.size=some emptyDict:=Heap.get?_push_of_some _ (Heap.get?_push_size _ rfl)
 have gi:((h.push emptyDict).push (instObj C h.objs.size)).get? (h.objs.size+1)=some (instObj C h.objs.size):=by
  have:((h.push emptyDict).push (instObj C h.objs.size)).get? (h.push emptyDict).objs.size=some (instObj C h.objs.size):=Heap.get?_push_size _ rfl
  rw[Heap.size_push] at this
  exact this
 generalize hr:rhoAt (rhoAt ρ J.n (h.objs.size+1)) (J.n+1) h.objs.size=r
 have r0:∀ l,l<J.n->r l=ρ l:=fun l hl=>by rw[<-hr,rhoAt_lt (Nat.lt_succ_of_lt hl),rhoAt_lt hl]
 have r1:r J.n=h.objs.size+1:=by rw[<-hr,rhoAt_lt (Nat.lt_succ_self _),rhoAt_self]
 have r2:r (J.n+1)=h.objs.size:=by rw[<-hr,rhoAt_self]
 have f1:=(R.push emptyDict).fresh
 rw[Heap.size_push] at f1
 have at_:∀ {l q} {P:Addr->Prop},((J.add (.inst C [])).add .rsv).get l=some q->(l=J.n+1->P h.objs.size)->(l=J.n->P (h.objs.size+1))->(J.get l=some q->Trk ρ J (ρ l)->P (ρ l))->P (r l):=fun {l q P} e h1 h2 h3=>
  add2_el e (fun z _=>by rw[z,r2];exact h1 z) (fun z _=>by rw[z,r1];exact h2 z) fun e=>by rw[r0 l (R.bd _ _ e)];exact h3 e ⟨l,q,e,rfl⟩
 have up:∀ {l},l<J.n->l<((J.add (.inst C [])).add .rsv).n:=fun z=>Nat.lt_succ_of_lt (Nat.lt_succ_of_lt z)
 have n0:∀ {b},Trk ρ J b->b=h.objs.size->False:=fun t z=>Nat.ne_of_lt (R.lt t) z
 have n1:∀ {b},Trk ρ J b->b=h.objs.size+1->False:=fun t z=>Nat.ne_of_lt (Nat.lt_succ_of_lt (R.lt t)) z
 have n2:¬ h.objs.size=h.objs.size+1:=Nat.ne_of_lt (Nat.lt_succ_self _)
 refine⟨⟨fun l q e=>?_,fun l l' q q' e e'=>?_,fun b ⟨l,q,e,z⟩=>?_,fun l q e=>?_,st.rep.keep,fun ⟨l,q,e,z⟩=>?_,st.rep.tab,fun l C' fs' e=>?_,R.ptn⟩,r0,Nat.le_trans (Nat.le_succ _) (Nat.le_succ _),fun l q e=>?_,st.kept⟩
 ·refine add2_el e (fun z y=>?_) (fun z y=>?_) fun e=>?_
  ·rw[y,z];exact⟨_,(congrArg _ r2).trans gd⟩
  ·rw[y,z];exact⟨[],0,d,by rw[r1,r2];exact gi,by rw[r2];exact gd,.nil,List.nodup_nil,hc,nofun⟩
  ·exact(st.rep.obj l q e).change r0 (Nat.le_trans (Nat.le_succ _) (Nat.le_succ _)) (r0 l (R.bd _ _ e)) rfl (fun C' fs' hq=>⟨r0 _ (R.bd _ _ (R.dic l C' fs' (hq▸e))),rfl⟩) fun _ _ x=>x
 ·refine at_ (P:=fun z=>z=r l'->l=l') e (fun z=>?_) (fun z=>?_) fun g t=>?_
  ·exact at_ (P:=fun y=>h.objs.size=y->l=l') e' (fun y _=>z.trans y.symm) (fun _ y=>absurd y n2) fun _ t y=>(n0 t y.symm).elim
  ·exact at_ (P:=fun y=>h.objs.size+1=y->l=l') e' (fun _ y=>absurd y.symm n2) (fun y _=>z.trans y.symm) fun _ t y=>(n1 t y.symm).elim
  ·exact at_ (P:=fun y=>ρ l=y->l=l') e' (fun _ y=>(n0 t y).elim) (fun _ y=>(n1 t y).elim) fun g' _ y=>R.inj _ _ _ _ g g' y
 ·rw[<-z];exact at_ (P:=fun y=>W.h₀.get? y=none) e (fun _=>R.fresh.base) (fun _=>f1.base) fun _ t=>R.new _ t
 ·exact add2_el e (fun z _=>by rw[z];exact Nat.lt_succ_self _) (fun z _=>by rw[z];exact Nat.lt_succ_of_lt (Nat.lt_succ_self _)) fun e=>up (R.bd _ _ e)
 ·exact at_ (P:=fun y=>¬ y=W.PT) e (fun _=>R.fresh.pt) (fun _=>f1.pt) (fun _ t y=>R.pt (y▸t)) z
 ·refine add2_el e (fun _ y=>nomatch y) (fun z y=>?_) fun e=>?_
  ·rw[z,Store.get_add];exact if_pos rfl
  ·have d:=R.dic l C' fs' e
   have b:=R.bd _ _ d
   rw[Store.get_add,if_neg (Nat.ne_of_lt (Nat.lt_succ_of_lt b)),Store.get_add,if_neg (Nat.ne_of_lt b)]
   exact d
 ·exact at_ (P:=fun y=>(∃ be,J.get l=some be)\/h.objs.size<=y) e (fun _=>.inr (Nat.le_refl _)) (fun _=>.inr (Nat.le_succ _)) fun g _=>.inl ⟨q,g⟩
theorem creation_weight (a:Addr) (xs:List Value):(Code.builtin "type.__call__" ⟨.ref a::xs,[]⟩).weight=1:=by kernel_rfl
theorem creation_units (a:Addr) (xs:List Value):(Code.builtin "type.__call__" ⟨.ref a::xs,[]⟩).cUnits=1:=by kernel_rfl
theorem creation_envs (a:Addr) (xs:List Value):(Code.builtin "type.__call__" ⟨.ref a::xs,[]⟩).envs=[]:=by kernel_rfl
theorem bind_noArgs {fd:FuncData} (h1:fd.params=noArgs) (h2:fd.defaults=.none):bindArgs fd ⟨[],[]⟩=pure []:=by
 unfold bindArgs
 rw[h1,h2]
 rfl
theorem Cst.around {A':Around} (C:Cst W (k+1) hd A ρ J h) (hf:A'.frames=A.frames) (hh:A'.handled=A.handled) (h1:A'.depth=A.depth+1) (h2:A'.units=A.units+1) (q:∀ b,FrAt A' b->FrAt A b):Cst W k hd A' ρ J h:=by
 have:=C.dep
 have:=C.uni
 exact⟨C.rep,fun e ⟨fs,a,i⟩=>C.fr e ⟨fs,hf.symm.trans a,i⟩,by rw[hf];exact C.ne,by omega,by omega,by rw[HdOk,hh];exact C.hd.imp id fun ⟨a,e,b,H⟩=>⟨a,e,b,H.at_,H.off,fun z=>H.nf (q _ z)⟩⟩
noncomputable abbrev mkA (A:Around) (a:Addr) (xs:List Value):Around:=A.under (.builtin "type.__call__" ⟨.ref a::xs,[]⟩)
theorem wp_class (ok:WdOk W) (I:SEv W E) {a:Nat} {d:CD} (hc:W.P.cl a=some d) (C:Cst W k hd A ρ J s.heap) (hv:VRs ρ J.n as xs):WC W A (.call (.ref a) ⟨xs,[]⟩) (callC E k hd as J a d) ρ J s:=by
 induction k using Nat.casesOn with
 | zero=>exact fun _ q=>q.elim
 | succ k=>
 have K:=ok.cla a d hc
 have XK:=C.rep.inK ok
 obtain⟨fd,hfd⟩:=K.inif
 have st:Sx W A ρ J s.heap _ _ _:=Stp.newInst C.rep hc
 have ef:(mkA A a xs).frames=A.frames:=by
  show pushEnvs (Code.builtin "type.__call__" ⟨.ref a::xs,[]⟩).envs A.frames=_
  rw[creation_envs]
  show pushEnvs [] A.frames=_
  cases A.frames<;>rfl
 have q1:∀ b,FrAt (mkA A a xs) b->FrAt A b:=fun b ⟨e,⟨fs,z,i⟩,y⟩=>⟨e,⟨fs,ef.symm.trans z,i⟩,y⟩
 have q2:∀ b,FrAt A b->FrAt (mkA A a xs) b:=fun b ⟨e,⟨fs,z,i⟩,y⟩=>⟨e,⟨fs,ef.trans z,i⟩,y⟩
 have C2:Cst W k hd (mkA A a xs) _ _ _:=(C.step st).around ef rfl (congrArg (A.depth+·) (creation_weight a xs)) (congrArg (A.units+·) (creation_units a xs)) q1
 have self:VR (rhoAt (rhoAt ρ J.n (s.heap.objs.size+1)) (J.n+1) s.heap.objs.size) ((J.add (.inst a [])).add .rsv).n (.ref J.n) (.ref (s.heap.objs.size+1)):=by
  have:=VR.ref (ρ:=rhoAt (rhoAt ρ J.n (s.heap.objs.size+1)) (J.n+1) s.heap.objs.size) (n:=((J.add (.inst a [])).add .rsv).n) J.n (Nat.lt_succ_of_lt (Nat.lt_succ_self _))
  rw[rhoAt_lt (Nat.lt_succ_self _),rhoAt_self] at this
  exact this
 have go:=I.cfn (s:=Shared.at_ s ((s.heap.push emptyDict).push (instObj a s.heap.objs.size)) s.toks) hfd C2 (.cons self (hv.mono st.agree st.n))
 intro T q
 refine make_core (A:=A) (R:=T) (rest:=xs) (kw:=[]) (g:=s.gens) (d:=s.drawn) (t:=s.toks) (os:=s.os) (makes_of (M:=W.M) XK K.mks) (looks_findIn XK K.ini) (fun self=>bind_fn XK self K.fnI) (.inl rfl) (go _ ?_)
 have q:RP W A VR (bd (E.call k hd (.top (.ref d.1)) (.ref J.2::as) ((J.add (.inst a [])).add .rsv)) fun v af=>vNone v .bad (.ok (.ref J.2) af)) ρ J s (fun v=>T (.ok (.ret v))) (fun e=>T (.error e)):=q
 revert q
 induction E.call k hd (.top (.ref d.1)) (.ref J.2::as) ((J.add (.inst a [])).add .rsv) using Mine.R.casesOn with
 | bad=>exact fun q=>q
 | exc af=>exact fun q ah h' tk e st' fl=>q ah h' tk e (st.trans C.rep (st'.weak q1 fun _=>id)) ((fl.sub q2).low st.kept.size)
 | ok v af=>
  induction v using Mine.V.casesOn with
  | none=>exact fun q ah h' tk pv st' hv'=>by cases hv';exact⟨rfl,q ah h' tk _ (st.trans C.rep (st'.weak q1 fun _=>id)) (self.mono st'.agree st'.n)⟩
  | _=>exact fun q=>q.elim
theorem lk_noCell {kd:List (Nat×NameKind)} (h:∀ x∈kd,x.2≠.cell) {x:Nat} (e:lk kd x=some .cell):False:=h _ (lk_mem e) rfl
theorem sound_call (K:Kt) (hP:K.P=W.P) (ok:WdOk W) (ho:OmOk W K.om) (I:SEv W E) {f:V} {pf:Value} (C:Cst W k hd A ρ J s.heap) (hf:VR ρ J.n f pf) (hv:VRs ρ J.n as xs):WP W A (call pf xs) VR (callV K E k hd f as J) ρ J s:=by
 induction f using Mine.V.casesOn with
 | ref l=>
  refine hf.elR (P:=fun pf=>WP W A (call pf xs) VR _ ρ J s) fun _=>?_
  refine WP.so fun x hx=>?_
  have p:=C.rep.obj l x hx
  induction x using Mine.O.casesOn with
  | clo b kd cs=>
   rcases p with ⟨o,fd,ho,hd',k1,k2,k3,k4,k5,k6,k7,k8,k9,k10,k11,k12⟩
   refine(wp_runF (cs0:=cs) (ps:=[]) ok I C ho hd' k1 k2 k3 k4 k5 k7 k8 k12 (fun e=>?_) k11 hv fun z=>(lk_noCell k6 z).elim).wp
   induction hv using Mine.VRs.casesOn with
   | nil=>exact .of_eq (bind_noArgs k9 k10)
   | cons _ _=>cases e
  | _=>exact WP.bad
 | top w=>
  refine hf.elT (P:=fun pf=>WP W A (call pf xs) VR _ ρ J s) fun _=>?_
  induction w using PySem.Value.casesOn with
  | ref a=>
   show WP W A _ VR (oc (K.P.fn a) (oc (K.P.cl a) .bad (callC E k hd as J a)) (callD K.3 E k hd as J a)) ρ J s
   rw[hP]
   induction hfn:W.P.fn a using Option.casesOn with
   | some d=>exact(sound_cfn ok ho I hfn C hv).wp
   | none=>exact WP.so fun d hc=>(wp_class ok I hc C hv).wp
  | builtin f=>exact wp_bFun ok C.rep (fun z=>C.hd0 z) f hv
  | type f=>exact wp_bTy ok C.rep f hv
  | _=>exact WP.bad
 | _=>exact WP.bad
theorem kp_pure {f:Value} (e:keeperOf f=pure .machine):Kp W h f:=⟨.machine,.inr (.inl rfl),Looks.of_pure e⟩
theorem ocN {α β:Type} {o:Option α} {f:α->R β} (h:oc o .bad f≠.bad):∃ a,o=some a/\f a≠.bad:=by
 induction o using Option.casesOn with
 | none=>exact absurd rfl h
 | some a=>exact⟨a,rfl,h⟩
theorem sound_kp (K:Kt) (hP:K.P=W.P) (ok:WdOk W) {f:V} {pf:Value} (R:Rep W ρ J h) (hf:VR ρ J.n f pf) (hb:callV K E k hd f as J≠.bad):Kp W h pf:=by
 have XK:=R.inK ok
 induction f using Mine.V.casesOn with
 | ref l=>
  refine hf.elR (P:=Kp W h) fun _=>?_
  obtain⟨x,hx,hb⟩:=ocN hb
  have p:=R.obj l x hx
  induction x using Mine.O.casesOn with
  | clo b kd cs=>
   rcases p with ⟨o,fd,ho,hd',_⟩
   refine⟨.frame,.inl rfl,?_⟩
   unfold keeperOf
   refine(Looks.ld (part:=none) ho).andThen ?_
   rw[hd']
   exact .now
  | _=>exact absurd rfl hb
 | top w=>
  refine hf.elT (P:=Kp W h) fun _=>?_
  induction w using PySem.Value.casesOn with
  | ref a=>
   have hb:oc (K.P.fn a) (oc (K.P.cl a) .bad (callC E k hd as J a)) (callD K.3 E k hd as J a)≠.bad:=hb
   rw[hP] at hb
   induction hfn:W.P.fn a using Option.casesOn with
   | some d=>rcases ok.fna a d hfn with ⟨_,_,_,_,_,_,_,_,_,_,_,_,_,_,_,k10,_⟩;exact keeps_K k10 h XK
   | none=>
    rw[hfn] at hb
    obtain⟨d,hc,_⟩:=ocN hb
    exact keeps_K (ok.cla a d hc).keep h XK
  | _=>exact kp_pure rfl
 | _=>exact absurd rfl hb
end
end

section
open PySem PySem.W PySem.Calls PyProof.Rows

section
variable {W:Wd} {A:Around} {X F:Addr->Prop} {ρ am aw ah:Nat->Addr} {J ad aq af:Store} {s:Shared} {h ai ar h':Heap} {c:Cx} {m m':M} {env:Env} {E:Ev} {k:Nat} {hd:Bool} {lo:Nat} {e:Addr} {as:List V} {xs:List Value}
theorem wp_unpack (S:Stt W c m env A ρ J s.heap) {l:Nat} {vs:List V} (p:PT ρ J.n s.heap (ρ l) vs) {Q:List Value->Shared->Prop} {Ex:Value->Shared->Prop}
  (k:∀ h' ys,Sx W A ρ J s.heap ρ J h'->VRs ρ J.n vs ys->Q ys (Shared.at_ s h' s.toks)):wpAny W.M A (unpackItems (.ref (ρ l)) vs.length none) Q Ex s:=by
 rcases p with ⟨ys,ho,vr,hz⟩
 have ht:s.heap.IsTuple (ρ l) ys.toArray:=⟨_,ho,rfl,_,rfl⟩
 have hlt:ρ l≠s.heap.objs.size:=Nat.ne_of_lt (Heap.lt_size ho)
 have sz:ys.toArray.size=vs.length:=by rw[List.size_toArray,vr.length]
 have hne:=S.cst.hd.new (get?_size s.heap)
 rw[<-sz]
 unfold unpackItems
 refine wpAny_bind ?_
 unfold notIterableAtAll
 refine wpAny_bind (wpAny_specialOf ht.typeIs PySem.F.slot_tuple_iter.lookup ?_)
 refine wpAny_pure ?_
 show wpAny W.M A (PySem.holding _ (pyIter (.ref (ρ l))) >>= _) Q Ex s
 refine wpAny_bind (wpAny_holding (wpAny_pyIter_tuple ht ?_))
 refine wpAny_bind (wpAny_holding (wpAny_draw_tuple hlt ys.toArray.size 0 _ _ ⟨_,Heap.get?_push_size _ rfl,rfl,rfl⟩ (ht.push _) (Nat.le_of_eq (Nat.zero_add _)) fun ai c8 bD=>?_))
 have hall:List.take ys.toArray.size (List.drop 0 ys.toArray.toList)=ys:=List.take_length
 rw[hall,if_neg (Nat.lt_irrefl _)]
 have dw:ai.IsTuple (ρ l) ys.toArray:=(ht.push _).extBut bD.extBut hlt
 have old:∀ b o,s.heap.get? b=some o->b≠s.heap.objs.size:=fun b o e=>Nat.ne_of_lt (Heap.lt_size e)
 have H1:HdAt A ai:=S.cst.hd.at_.keeps rfl fun e o q z=>(bD.2 e (hne e q)).trans (Heap.get?_push_of_some _ z)
 refine wpAny_bind (wpAny_holding (tup_end (s:=Shared.at_ s ai s.toks) H1 (i:=0+ys.toArray.size) c8 (let ⟨o,a,b,ep,d⟩:=dw;⟨o,a,b,ep,d⟩) (by rw[Nat.zero_add];exact Array.getElem?_size) hne fun ar en=>?_))
 refine wpAny_pure (k ar ys (Stp.grow S.rep (Nat.le_trans (size_le _ _) (Nat.le_trans (Nat.le_of_eq bD.1.symm) en.1)) fun b o hb=>?_) vr)
 exact en.keep b o (old b o hb) ((bD.2 b (old b o hb)).trans (Heap.get?_push_of_some _ hb))
theorem wp_bindName (ok:WdOk W) (S:Stt W c m env A ρ J s.heap) {x:Nat} {v:V} {pv:Value} (hv:VR ρ J.n v pv) {p:M×Store} (e:storeN c m x v J=some p) {Q:Unit->Shared->Prop} {Ex:Value->Shared->Prop}
  (k:∀ h' tk,Stp W (FrAt A) (isL env) ρ J s.heap ρ p.2 h'->Stt W c p.1 env A ρ p.2 h'->Q () (Shared.at_ s h' tk)):wpAny W.M A (bindName env (W.nm x) pv) Q Ex s:=
 wpAny_bindName (bd_store (A:=A) ok S.bd hv e fun h' tk st B=>k h' tk st (S.stepL st B.er))
theorem wp_assigns (ok:WdOk W) (xs:List (Nat×Pos)):∀ (vs:List V) (ys:List Value) {m:M} {J:Store} {s:Shared} {p:M×Store} {Q:Unit->Shared->Prop} {Ex:Value->Shared->Prop},
  Stt W c m env A ρ J s.heap->VRs ρ J.n vs ys->storeNs c xs vs m J=some p->(∀ h' tk,Stp W (FrAt A) (isL env) ρ J s.heap ρ p.2 h'->Stt W c p.1 env A ρ p.2 h'->Q () (Shared.at_ s h' tk)) ->
  wpAny W.M A (assignInOrder ((assignEach (xs.map fun x=>PySem.Expr.Name (W.nm x.1) x.2) env).map (·.2)) ys) Q Ex s:=by
 induction xs using List.rec with
 | nil=>
  intro vs ys m J s p Q Ex S r e k
  induction r using Mine.VRs.casesOn with
  | nil=>cases e;exact wpAny_pure (k s.heap s.toks (Stp.refl S.rep) S)
  | cons h r=>cases e
 | cons x xs ih=>
  intro vs ys m J s p Q Ex S r e k
  induction r using Mine.VRs.casesOn with
  | nil=>cases e
  | @cons v y vs ys hv r=>
   refine ocE e fun q hq e=>?_
   show wpAny W.M A (PySem.holding ys (PySem.standAt x.2 >>= fun _=>bindName env (W.nm x.1) y) >>= fun _=>assignInOrder ((assignEach (xs.map fun x=>PySem.Expr.Name (W.nm x.1) x.2) env).map (·.2)) ys) Q Ex s
   refine wpAny_bind (wpAny_holding (wpAny_bind (wpAny_standAt (wp_bindName ok S hv hq fun h' tk st S1=>?_))))
   exact ih vs ys (s:=Shared.at_ s h' tk) S1 (r.mono st.agree st.n) e fun ar aA aj aF=>k ar aA (st.trans S.rep aj) aF
theorem wp_binds (ok:WdOk W) (xs:List Nat):∀ (vs:List V) (ys:List Value) {m:M} {J:Store} {s:Shared} {p:M×Store} {Q:Unit->Shared->Prop} {Ex:Value->Shared->Prop},
  Stt W c m env A ρ J s.heap->VRs ρ J.n vs ys->bindPs c xs vs m J=some p->(∀ h' tk,Stp W (FrAt A) (isL env) ρ J s.heap ρ p.2 h'->Stt W c p.1 env A ρ p.2 h'->Q () (Shared.at_ s h' tk)) ->
  wpAny W.M A (assignInOrder ((xs.map W.nm).map fun n=>bindName env n) ys) Q Ex s:=by
 induction xs using List.rec with
 | nil=>
  intro vs ys m J s p Q Ex S r e k
  induction r using Mine.VRs.casesOn with
  | nil=>cases e;exact wpAny_pure (k s.heap s.toks (Stp.refl S.rep) S)
  | cons h r=>cases e
 | cons x xs ih=>
  intro vs ys m J s p Q Ex S r e k
  induction r using Mine.VRs.casesOn with
  | nil=>cases e
  | @cons v y vs ys hv r=>
   refine ocE e fun q hq e=>?_
   show wpAny W.M A (PySem.holding ys (bindName env (W.nm x) y) >>= fun _=>assignInOrder ((xs.map W.nm).map fun n=>bindName env n) ys) Q Ex s
   refine wpAny_bind (wpAny_holding (wp_bindName ok S hv hq fun h' tk st S1=>?_))
   exact ih vs ys (s:=Shared.at_ s h' tk) S1 (r.mono st.agree st.n) e fun ar aA aj aF=>k ar aA (st.trans S.rep aj) aF
theorem storeN_local {x:Nat} {v:V} (h:lk c.kd x=some .local):storeN c m x v J=some (putL m x v,J):=by
 show oc (lk c.kd x) none _=_
 rw[h]
 rfl
theorem WX.ev {f:Value->Sem Flow} {g:V->Store->Mine.X} (I:SEv W E) (S:Stt W c m env A ρ J s.heap) (t:T)
  (k:∀ ah h' tk pv v af,Sx W A ρ J s.heap ah af h'->Stt W c m env A ah af h'->VR ah af.n v pv->WX W A c env (f pv) (g v af) ah af (Shared.at_ s h' tk)):WX W A c env (eval (t.dec W.nm) env >>= f) (tx m (E.e c m t J) g) ρ J s:=
 WX.bind S (I.e t S) fun ah h' tk a b af=>k ah h' tk a b af
theorem WX.evH {vs:List Value} {f:Value->Sem Flow} {g:V->Store->Mine.X} (I:SEv W E) (S:Stt W c m env A ρ J s.heap) (t:T)
  (k:∀ ah h' tk pv v af,Sx W A ρ J s.heap ah af h'->Stt W c m env A ah af h'->VR ah af.n v pv->WX W A c env (f pv) (g v af) ah af (Shared.at_ s h' tk)):WX W A c env (PySem.holding vs (eval (t.dec W.nm) env) >>= f) (tx m (E.e c m t J) g) ρ J s:=
 WX.bind S (WP.holding (I.e t S)) fun ah h' tk a b af=>k ah h' tk a b af
theorem WX.evT {f:Bool->Sem Flow} {g:Bool->Store->Mine.X} (I:SEv W E) (S:Stt W c m env A ρ J s.heap) (t:T)
  (k:∀ ah h' tk b af,Stt W c m env A ah af h'->WX W A c env (f b) (g b af) ah af (Shared.at_ s h' tk)):WX W A c env (isTrue (t.dec W.nm) env (eval (t.dec W.nm) env) >>= f) (tx m (E.t c m t J) g) ρ J s:=
 WX.bind S (I.t t S) fun ah h' tk a b af st S' ra=>by rw[show a=b from ra];exact k ah h' tk b af S'
theorem WX.unhold {α:Type} {vs:List Value} {t:Sem α} {f:α->Sem Flow} {x:Mine.X} (h:WX W A c env (t >>= f) x ρ J s):WX W A c env (PySem.holding vs t >>= f) x ρ J s:=h.via fun _ _=>Mine.unhold
theorem x_bind (ok:WdOk W) (S:Stt W c m env A ρ J s.heap) {x:Nat} {v:V} {pv:Value} (hv:VR ρ J.n v pv):WX W A c env (bindName env (W.nm x) pv >>= fun _=>pure .next) (nxtP (storeN c m x v J)) ρ J s:=
 WX.so fun p e=>fun Q Ex k=>wpAny_bind (wp_bindName ok S hv e fun h' tk st S'=>wpAny_pure (k ρ h' tk ⟨st,S'.er⟩))
theorem x_done {vs1 vs2 vs3:List Value} {t:Sem Unit} {r:Mine.R V} (S:Stt W c m env A ρ J s.heap) (h:WP W A t relU r ρ J s):WX W A c env (PySem.holding vs1 t >>= fun _=>release vs2 vs3 >>= fun _=>pure .next) (tx m r fun _ J=>.nxt m J) ρ J s:=
 WX.bind S (WP.holding h) fun ah h' tk _ _ af st S' _=>fun Q Ex k=>wpAny_bind (wpAny_release (wpAny_pure (k ah h' _ S'.same)))
theorem swaps_none (t:T) (h:isCo t=false) (target:Option PySem.Expr) (line:Nat) (nm:Nat->Str):swapsWith (t.dec nm) target line env=pure false:=by
 cases t<;>first|rfl|exact absurd h (fun z=>Bool.noConfusion z)
theorem s_expr (I:SEv W E) (S:Stt W c m env A ρ J s.heap) (t:T) (p:Pos):WX W A c env (PySem.exec (.Expr (t.dec W.nm) p) env) (cn (isCo t) .bad (tx m (E.e c m t J) fun _ J=>.nxt m J)) ρ J s:=by
 refine WX.ifF fun h=>?_
 rw[arm_exec_Expr]
 have hi:interactive env=false:=by unfold interactive;rw[S.er.kind];rfl
 refine WX.standAt ?_
 rw[hi,swaps_none t h]
 exact WX.ev I S t fun ah h' tk pv v af st S' hv=>fun Q Ex k=>wpAny_dropValue (k ah h' tk S'.same)
theorem s_ret (I:SEv W E) (S:Stt W c m env A ρ J s.heap) (o:Option T) (p:Pos):WX W A c env (PySem.exec (.Return (T.decO W.nm o) p) env) (oc o (.ret .none m J) fun e=>tx m (E.e c m e J) fun v J=>.ret v m J) ρ J s:=by
 induction o using Option.casesOn with
 | none=>
  rw[T.decO,arm_exec_Return]
  exact WX.standAt (fun Q Ex k=>wpAny_pure (k ρ s.heap s.toks _ S.same .none))
 | some t=>
  rw[T.decO,arm_exec_Return]
  exact WX.standAt (WX.ev I S t fun ah h' tk pv v af st S' hv=>fun Q Ex k=>wpAny_pure (k ah h' tk pv S'.same hv))
theorem s_if (I:SEv W E) (H:Stt W c m env A ρ J s.heap) (q:T) (a b:List S) (p:Pos):WX W A c env (PySem.exec (.If (q.dec W.nm) (S.decL W.nm a) (S.decL W.nm b) p) env) (tx m (E.t c m q J) fun v J=>cn v (execs E c a m J) (execs E c b m J)) ρ J s:=by
 rw[arm_exec_If]
 refine WX.standAt (WX.evT I H q fun ah h' tk x af S'=>?_)
 induction x using Bool.casesOn with
 | true=>exact sound_execs (s:=Shared.at_ s h' tk) I a S'
 | false=>exact sound_execs (s:=Shared.at_ s h' tk) I b S'
theorem s_aug_nm (ok:WdOk W) (I:SEv W E) (S:Stt W c m env A ρ J s.heap) (x:Nat) (np:Pos) (op:Operator) (t:T) (p:Pos):WX W A c env (PySem.exec (.AugAssign (.Name (W.nm x) np) op (t.dec W.nm) p) env)
  (tx m (loadN W.P.gt c m x J) fun a J=>tx m (E.e c m t J) fun b J=>tx m (augV J op a b) fun v J=>nxtP (storeN c m x v J)) ρ J s:=by
 rw[arm_exec_AugAssign]
 refine WX.standAt (WX.bind S (wp_loadN ok S x) fun am ai az pa a ad aG au ha=>?_)
 refine WX.evH (s:=Shared.at_ s ai az) I au t fun aw ar aQ pb b aq aj aF hb=>WX.standAt ?_
 refine WX.bind (s:=Shared.at_ s ar aQ) aF (WP.op (wp_aug (s:=Shared.at_ s ar aQ) aF.rep op (ha.mono aj.agree aj.n) hb)) fun aN aH a9 pv v aT ax aP hv=>WX.standAt ?_
 exact x_bind (s:=Shared.at_ s aH a9) ok aP hv
theorem s_aug_at (ok:WdOk W) (I:SEv W E) (S:Stt W c m env A ρ J s.heap) (o:T) (f:Nat) (tp:Pos) (op:Operator) (t:T) (p:Pos):WX W A c env (PySem.exec (.AugAssign (.Attribute (o.dec W.nm) (W.nm f) tp) op (t.dec W.nm) p) env)
  (tx m (E.e c m o J) fun ov J=>tx m (getAttrV J ov f) fun a J=>tx m (E.e c m t J) fun b J=>tx m (augV J op a b) fun v J=>tx m (setAttrV W.P.cl J ov f v) fun _ J=>.nxt m J) ρ J s:=by
 rw[arm_exec_AugAssign_2]
 refine WX.standAt (WX.ev I S o fun am ai az po ov ad aG au ho=>WX.unhold ?_)
 rw[bind_assoc]
 refine WX.standAt ?_
 rw[bind_assoc]
 refine (WX.bind (s:=Shared.at_ s ai az) au (wp_getAttr (s:=Shared.at_ s ai az) ok au.rep ho f) fun aw ar aQ pa a aq aj aF ha=>?_)
 rw[bind_assoc]
 refine WX.evH (s:=Shared.at_ s ar aQ) I aF t fun aN aH a9 pb b aT ax aP hb=>?_
 rw[bind_assoc]
 refine WX.standAt ?_
 refine WX.bind (s:=Shared.at_ s aH a9) aP (WP.op (wp_aug (s:=Shared.at_ s aH a9) aP.rep op (ha.mono ax.agree ax.n) hb)) fun bh bc bX pv v bu aE bg hv=>WX.standAt ?_
 exact x_done (s:=Shared.at_ s bc bX) bg (wp_setAttr (s:=Shared.at_ s bc bX) ok bg.rep (((ho.mono aj.agree aj.n).mono ax.agree ax.n).mono aE.agree aE.n) f hv)
theorem augStore_eq (i:T) (nm:Nat->Str) (po pi pv:Value):augStore (i.dec nm) po pi pv=(PySem.holding [pv,po,pi] (setItem po pi pv) >>= fun _=>release [pv,po,pi] [] >>= fun _=>pure .next):=by
 cases i<;>rfl
theorem s_aug_sb (I:SEv W E) (S:Stt W c m env A ρ J s.heap) (o i:T) (tp:Pos) (op:Operator) (t:T) (p:Pos):WX W A c env (PySem.exec (.AugAssign (.Subscript (o.dec W.nm) (i.dec W.nm) tp) op (t.dec W.nm) p) env)
  (tx m (E.e c m o J) fun ov J=>tx m (E.e c m i J) fun iv J=>tx m (subV J ov iv) fun a J=>tx m (E.e c m t J) fun b J=>tx m (augV J op a b) fun v J=>tx m (setItemV J ov iv v) fun _ J=>.nxt m J) ρ J s:=by
 rw[arm_exec_AugAssign_3]
 refine WX.standAt (WX.ev I S o fun am ai az po ov ad aG au ho=>?_)
 refine WX.evH (s:=Shared.at_ s ai az) I au i fun aw ar aQ pi iv aq aj aF hi=>WX.unhold ?_
 rw[bind_assoc]
 have ho2:=ho.mono aj.agree aj.n
 refine WX.standAt ?_
 rw[bind_assoc]
 refine WX.bind (s:=Shared.at_ s ar aQ) aF (wp_item (s:=Shared.at_ s ar aQ) aF.rep ho2 hi) fun aN aH a9 pa a aT ax aP ha=>?_
 rw[bind_assoc]
 refine WX.evH (s:=Shared.at_ s aH a9) I aP t fun bh bc bX pb b bu aE bg hb=>?_
 rw[bind_assoc]
 refine WX.standAt ?_
 refine WX.bind (s:=Shared.at_ s bc bX) bg (WP.op (wp_aug (s:=Shared.at_ s bc bX) bg.rep op (ha.mono aE.agree aE.n) hb)) fun cC bE cQ pv v cD aV bG hv=>WX.standAt ?_
 rw[augStore_eq]
 exact x_done (s:=Shared.at_ s bE cQ) bG (wp_setItem (s:=Shared.at_ s bE cQ) bG.rep (((ho2.mono ax.agree ax.n).mono aE.agree aE.n).mono aV.agree aV.n) (((hi.mono ax.agree ax.n).mono aE.agree aE.n).mono aV.agree aV.n) hv)
end
end

section
open PySem PySem.W PySem.Calls PyProof.Rows

theorem cn_swap {α:Type} {a b y:Nat} (h:a≠b) {u v z:α}:cn (Nat.beq b y) v (cn (Nat.beq a y) u z)=cn (Nat.beq a y) u (cn (Nat.beq b y) v z):=by
 by_cases q:a=y
 ·rw[beqT q,beqF fun z=>h (q.trans z.symm)];rfl
 ·rw[beqF q];rfl
theorem ed_loop {α:Type} [BEq α] [LawfulBEq α] (l:List α):∀ bs:List α,(List.eraseDupsBy.loop (· == ·) l bs).length<=l.length+bs.length/\((List.eraseDupsBy.loop (· == ·) l bs).length=l.length+bs.length->l.Nodup/\∀ a∈l,a∉bs):=by
 induction l with
 | nil=>exact fun bs=>⟨Nat.le_of_eq ((List.length_reverse).trans (Nat.zero_add _).symm),fun _=>⟨List.nodup_nil,fun a h=>nomatch h⟩⟩
 | cons a r ih=>
  intro bs
  rw[List.eraseDupsBy.loop,List.length_cons]
  have up:r.length+1+bs.length=r.length+(bs.length+1):=by rw[Nat.add_assoc,Nat.add_comm 1]
  cases h:bs.any (fun b=>a == b) with
  | true=>
   have i:=(ih bs).1
   have lt:r.length+bs.length<r.length+1+bs.length:=Nat.add_lt_add_right (Nat.lt_succ_self _) _
   exact⟨Nat.le_of_lt (Nat.lt_of_le_of_lt i lt),fun e=>absurd (Nat.lt_of_le_of_lt i lt) (by rw[e];exact Nat.lt_irrefl _)⟩
  | false=>
   rw[up]
   refine⟨(ih (a::bs)).1,fun e=>?_⟩
   obtain⟨n,q⟩:=(ih (a::bs)).2 e
   refine⟨List.nodup_cons.mpr ⟨fun z=>q a z (.head _),n⟩,fun x hx hb=>?_⟩
   rcases List.mem_cons.mp hx with z|hx
   ·exact Bool.noConfusion ((List.any_eq_true.mpr ⟨x,hb,z▸beq_self_eq_true a⟩).symm.trans h)
   ·exact q x hx (.tail _ hb)
theorem ed_nodup {α:Type} [BEq α] [LawfulBEq α] {l:List α} (h:l.eraseDups.length=l.length):l.Nodup:=((ed_loop l []).2 h).1
theorem ite_cs {α:Type} {b:Bool} {x y w:α} {P:Prop} (h:b=false->y=x\/(y=w/\P)):(if b=true then x else y)=x\/((if b=true then x else y)=w/\P):=by
 induction b using Bool.casesOn with
 | true=>exact .inl rfl
 | false=>exact h rfl
noncomputable abbrev nmsE (W:Wd) (xs:List (Nat×Pos)):List PySem.Expr:=xs.map fun x=>.Name (W.nm x.1) x.2
noncomputable def putsL (xs:List Nat):List V->M->M:=@List.rec Nat (fun _=>List V->M->M) (fun _ m=>m) (fun x _ ih vs m=>@List.rec V (fun _=>M) m (fun v r _=>ih r (putL m x v)) vs) xs
section
variable {W:Wd} {A:Around} {X F:Addr->Prop} {ρ am aw ah:Nat->Addr} {J ad aq af:Store} {s:Shared} {h ai ar h':Heap} {c:Cx} {m m':M} {env:Env} {E:Ev} {k:Nat} {hd:Bool} {lo:Nat} {e:Addr} {as:List V}
theorem EnvR.congr {n:Nat} (er:EnvR W ρ n c m env h) (q:∀ x,lk m' x=lk m x):EnvR W ρ n c m' env h:=by
 rcases er.ns with ⟨mm,N,z⟩
 exact⟨er.kind,er.kd,er.glob,er.bi,er.cs,er.code,⟨mm,N,fun x v e=>z x v (by rw[<-q];exact e)⟩⟩
theorem swaps_at (t:T) (o:PySem.Expr) (f:Str) (p:Pos) (line:Nat) (nm:Nat->Str):swapsWith (t.dec nm) (some (.Attribute o f p)) line env=pure false:=by
 cases t<;>rfl
theorem swaps_sb (t:T) (o i:PySem.Expr) (p:Pos) (line:Nat) (nm:Nat->Str):swapsWith (t.dec nm) (some (.Subscript o i p)) line env=pure false:=by
 cases t<;>rfl
theorem asg_plain (I:SEv W E) (S:Stt W c m env A ρ J s.heap) (tg:PySem.Expr) (t:T) (p:Pos) (hc:swapsWith (t.dec W.nm) (some tg) p.line env=pure false) (hs:swappedStores [tg] (t.dec W.nm) env=pure none) (hst:(assignEach [tg] env).map (·.2)=[assign tg env]) {g:V->Store->Mine.X}
  (k:∀ ah h' tk pv v af,Sx W A ρ J s.heap ah af h'->Stt W c m env A ah af h'->VR ah af.n v pv->WX W A c env (assign tg env pv >>= fun _=>pure .next) (g v af) ah af (Shared.at_ s h' tk)) :
  WX W A c env (PySem.exec (.Assign [tg] (t.dec W.nm) p) env) (tx m (E.e c m t J) g) ρ J s:=by
 rw[arm_exec_Assign]
 refine WX.standAt ?_
 show WX W A c env (swapsWith (t.dec W.nm) (some tg) p.line env >>= fun b=>_) _ ρ J s
 rw[hc,pure_bind]
 refine WX.ev I S t fun ah h' tk pv v af st S' hv=>?_
 rw[hs,pure_bind,hst]
 exact k ah h' tk pv v af st S' hv
theorem s_asg_nm (ok:WdOk W) (I:SEv W E) (S:Stt W c m env A ρ J s.heap) (x:Nat) (np:Pos) (t:T) (hc:isCo t=false) (p:Pos):WX W A c env (PySem.exec (.Assign [.Name (W.nm x) np] (t.dec W.nm) p) env) (tx m (E.e c m t J) fun v J=>nxtP (storeN c m x v J)) ρ J s:=by
 refine asg_plain I S _ t p (swaps_none t hc ..) rfl rfl fun ah h' tk pv v af st S' hv=>?_
 rw[arm_assign_Name]
 exact WX.standAt (x_bind (s:=Shared.at_ s h' tk) ok S' hv)
theorem s_asg_at (ok:WdOk W) (I:SEv W E) (S:Stt W c m env A ρ J s.heap) (o:T) (f:Nat) (tp:Pos) (t:T) (p:Pos):WX W A c env (PySem.exec (.Assign [.Attribute (o.dec W.nm) (W.nm f) tp] (t.dec W.nm) p) env)
  (tx m (E.e c m t J) fun v J=>tx m (E.e c m o J) fun ov J=>tx m (setAttrV W.P.cl J ov f v) fun _ J=>.nxt m J) ρ J s:=by
 refine asg_plain I S _ t p (swaps_at t ..) rfl rfl fun am ai az pv v ad aG au hv=>?_
 rw[arm_assign_Attribute,bind_assoc]
 refine WX.evH (s:=Shared.at_ s ai az) I au o fun aw ar aQ po ov aq aj aF ho=>?_
 rw[bind_assoc]
 refine WX.standAt ?_
 rw[bind_assoc]
 exact x_done (s:=Shared.at_ s ar aQ) aF (wp_setAttr (s:=Shared.at_ s ar aQ) ok aF.rep ho f (hv.mono aj.agree aj.n))
theorem s_asg_sb (I:SEv W E) (S:Stt W c m env A ρ J s.heap) (o i:T) (tp:Pos) (t:T) (p:Pos):WX W A c env (PySem.exec (.Assign [.Subscript (o.dec W.nm) (i.dec W.nm) tp] (t.dec W.nm) p) env)
  (tx m (E.e c m t J) fun v J=>tx m (E.e c m o J) fun ov J=>tx m (E.e c m i J) fun iv J=>tx m (setItemV J ov iv v) fun _ J=>.nxt m J) ρ J s:=by
 refine asg_plain I S _ t p (swaps_sb t ..) rfl rfl fun am ai az pv v ad aG au hv=>?_
 rw[arm_assign_Subscript,bind_assoc]
 refine WX.evH (s:=Shared.at_ s ai az) I au o fun aw ar aQ po ov aq aj aF ho=>?_
 rw[bind_assoc]
 refine WX.evH (s:=Shared.at_ s ar aQ) I aF i fun aN aH a9 pi iv aT ax aP hi=>?_
 rw[bind_assoc]
 refine WX.standAt ?_
 rw[bind_assoc]
 exact x_done (s:=Shared.at_ s aH a9) aP (wp_setItem (s:=Shared.at_ s aH a9) aP.rep (ho.mono ax.agree ax.n) hi ((hv.mono aj.agree aj.n).mono ax.agree ax.n))
theorem names_len (xs:List (Nat×Pos)):(assignEach (nmsE W xs) env).length=xs.length:=by
 induction xs with
 | nil=>rfl
 | cons x r ih=>exact congrArg Nat.succ ih
theorem names_star (xs:List (Nat×Pos)):(assignEach (nmsE W xs) env).findIdx? (·.1)=none:=by
 induction xs with
 | nil=>rfl
 | cons x r ih=>
  show((false,assign (.Name (W.nm x.1) x.2) env)::assignEach (nmsE W r) env).findIdx? (·.1)=none
  rw[List.findIdx?_cons,ih];rfl
theorem storeNs_len (xs:List (Nat×Pos)):∀ {vs:List V} {m:M} {J:Store} {p:M×Store},storeNs c xs vs m J=some p->xs.length=vs.length/\((∀ x∈xs,lk c.kd x.1=some .local)->p=(putsL (xs.map (·.1)) vs m,J)):=by
 induction xs using List.rec with
 | nil=>
  intro vs m J p e
  induction vs using List.casesOn with
  | nil=>cases e;exact⟨rfl,fun _=>rfl⟩
  | cons a r=>cases e
 | cons x r ih=>
  intro vs m J p e
  induction vs using List.casesOn with
  | nil=>cases e
  | cons v vs=>
   refine ocE e fun q hq e=>⟨congrArg Nat.succ (ih e).1,fun h=>?_⟩
   rw[storeN_local (h x (.head _))] at hq
   rw[<-Option.some.inj hq] at e
   exact(ih e).2 fun y hy=>h y (.tail _ hy)
theorem bindPs_local (xs:List Nat):∀ {vs:List V} {m:M},xs.length=vs.length->(∀ x∈xs,lk c.kd x=some .local)->bindPs c xs vs m J=some (putsL xs vs m,J):=by
 induction xs using List.rec with
 | nil=>
  intro vs m e _
  induction vs using List.casesOn with
  | nil=>rfl
  | cons a r=>cases e
 | cons x r ih=>
  intro vs m e h
  induction vs using List.casesOn with
  | nil=>cases e
  | cons v vs=>
   show oc (storeN c m x v J) none _=_
   rw[storeN_local (h x (.head _))]
   exact ih (Nat.succ.inj e) fun y hy=>h y (.tail _ hy)
theorem wp_toNames (ok:WdOk W) (S:Stt W c m env A ρ J s.heap) (xs:List (Nat×Pos)) (k:Nat) (tp:Pos) {l:Nat} {vs:List V} (pt:PT ρ J.n s.heap (ρ l) vs) {p:M×Store} (e:storeNs c xs vs m J=some p) {Q:Unit->Shared->Prop} {Ex:Value->Shared->Prop}
  (kk:∀ h' tk,Stp W (FrAt A) (isL env) ρ J s.heap ρ p.2 h'->Stt W c p.1 env A ρ p.2 h'->Q () (Shared.at_ s h' tk)):wpAny W.M A (assign (.Tuple (nmsE W xs) k tp) env (.ref (ρ l))) Q Ex s:=by
 rw[arm_assign_Tuple]
 refine wpAny_bind (wpAny_standAt ?_)
 unfold unpack
 rw[names_len,names_star,(storeNs_len xs e).1]
 refine wpAny_bind (wpAny_holding (wp_unpack S pt fun h' ys st r=>?_))
 exact wp_assigns ok xs _ ys (s:=Shared.at_ s h' s.toks) (S.step st) r e fun ar tk aj aF=>kk ar tk (st.toL.trans S.rep aj) aF
theorem x_unpack (ok:WdOk W) (S:Stt W c m env A ρ J s.heap) (xs:List (Nat×Pos)) (k:Nat) (tp:Pos) {v:V} {pv:Value} (hv:VR ρ J.n v pv):WX W A c env (assign (.Tuple (nmsE W xs) k tp) env pv >>= fun _=>pure .next) (unp c m xs v J) ρ J s:=by
 induction v using Mine.V.casesOn with
 | ref l=>
  refine hv.elR (P:=fun pv=>WX W A c env (assign (.Tuple (nmsE W xs) k tp) env pv >>= fun _=>pure .next) _ ρ J s) fun _=>?_
  refine gO_el (P:=fun z=>WX W A c env _ z ρ J s) S.rep WX.bad (fun _ _ _=>WX.bad) (fun vs hx pt=>?_) fun _ _ _=>WX.bad
  exact WX.so fun p e2=>fun Q Ex kk=>wpAny_bind (wp_toNames ok S xs k tp pt e2 fun ar tk aj aF=>wpAny_pure (kk ρ ar tk ⟨aj,aF.er⟩))
 | _=>exact WX.bad
theorem wp_assignG (ok:WdOk W) (S:Stt W c m env A ρ J s.heap) (g:G) {v:V} {pv:Value} (hv:VR ρ J.n v pv) {p:M×Store} (e:storeG c m g v J=some p) {Q:Unit->Shared->Prop} {Ex:Value->Shared->Prop}
  (k:∀ h' tk,Stp W (FrAt A) (isL env) ρ J s.heap ρ p.2 h'->Stt W c p.1 env A ρ p.2 h'->Q () (Shared.at_ s h' tk)):wpAny W.M A (assign (g.dec W.nm) env pv) Q Ex s:=by
 induction g using Mine.G.casesOn with
 | nm x q=>
  rw[G.dec,arm_assign_Name]
  exact wpAny_bind (wpAny_standAt (wp_bindName ok S hv e k))
 | tp xs k' q=>
  induction v using Mine.V.casesOn with
  | ref l=>
   revert e
   refine hv.elR (P:=fun pv=>_->wpAny W.M A (assign _ env pv) Q Ex s) fun _=>?_
   exact gO_el (P:=fun z=>z=some p->_) S.rep nofun (fun _ _ _=>nofun) (fun vs hx pt e=>wp_toNames ok S xs k' q pt e k) fun _ _ _=>nofun
  | _=>cases e
theorem moves1_ok (ok:WdOk W) {t:T} (h:moves1 t=true):constantsAlone 8 (t.dec W.nm)=false:=by
 induction t using Mine.T.casesOn with
 | name x p=>exact(ok.dbg x).1
 | call _ _ _=>rfl
 | meth _ _ _ _ _=>rfl
 | attr _ _ _=>rfl
 | list _ _=>rfl
 | dict _ _ _=>rfl
 | _=>cases h
theorem moves_ok (ok:WdOk W) {es:List T} (h:es.any moves1=true):(T.decL W.nm es).all (constantsAlone 8)=false:=by
 induction es with
 | nil=>cases h
 | cons t r ih=>
  rw[T.decL,List.all_cons]
  rcases Bool.or_eq_true_iff.mp ((List.any_cons ..).symm.trans h) with hm|h
  ·rw[moves1_ok ok hm];rfl
  ·rw[ih h,Bool.and_false]
theorem nmF_all {f:PySem.Expr->Option Str} {line:Nat} (hf:∀ x p,f (.Name x p)=if (env.kindOf x == some .local && p.line == line)=true then some x else none) (xs:List (Nat×Pos)):((nmsE W xs).filterMap f).length=xs.length->(nmsE W xs).filterMap f=xs.map (fun x=>W.nm x.1)/\∀ x∈xs,env.kindOf (W.nm x.1)=some .local:=by
 induction xs with
 | nil=>exact fun _=>⟨rfl,fun x h=>nomatch h⟩
 | cons x r ih=>
  intro h
  have hle:((nmsE W r).filterMap f).length<=r.length:=Nat.le_trans (List.length_filterMap_le ..) (Nat.le_of_eq (List.length_map _))
  by_cases q:(env.kindOf (W.nm x.1) == some NameKind.local && x.2.line == line)=true
  ·have e:f (.Name (W.nm x.1) x.2)=some (W.nm x.1):=(hf _ _).trans (if_pos q)
   have h':((nmsE W (x::r)).filterMap f)=W.nm x.1::(nmsE W r).filterMap f:=List.filterMap_cons_some e
   rw[h'] at h ⊢
   obtain⟨i1,i2⟩:=ih (Nat.succ.inj h)
   refine⟨congrArg _ i1,fun y hy=>?_⟩
   rcases List.mem_cons.mp hy with z|hy
   ·rw[z];exact eq_of_beq (Bool.and_eq_true_iff.mp q).1
   ·exact i2 y hy
  ·have e:f (.Name (W.nm x.1) x.2)=none:=(hf _ _).trans (if_neg q)
   have h':((nmsE W (x::r)).filterMap f)=(nmsE W r).filterMap f:=List.filterMap_cons_none e
   rw[h'] at h
   exact absurd hle (by rw[h];exact Nat.not_succ_le_self _)
theorem swapped_cases (ok:WdOk W) (xs:List (Nat×Pos)) (k k':Nat) (tp tp':Pos) (es:List T) (h:es.any moves1=true) :
  swappedStores [.Tuple (nmsE W xs) k tp] (.Tuple (T.decL W.nm es) k' tp') env=pure none \/
  (swappedStores [.Tuple (nmsE W xs) k tp] (.Tuple (T.decL W.nm es) k' tp') env=pure (some (xs.map fun x=>W.nm x.1))/\(xs.length=2\/xs.length=3)/\(∀ x∈xs,env.kindOf (W.nm x.1)=some .local)/\(xs.map fun x=>W.nm x.1).Nodup):=by
 unfold swappedStores
 refine ite_cs fun c1=>ite_cs fun _=>ite_cs fun c3=>ite_cs fun _=>?_
 rw[if_neg (by rw[moves_ok ok h];exact Bool.false_ne_true)]
 obtain⟨c3,c4⟩:=Bool.or_eq_false_iff.mp c3
 have c3:=bne_eq_false_iff_eq.mp c3
 have c4:=bne_eq_false_iff_eq.mp c4
 obtain⟨e1,e2⟩:=nmF_all (W:=W) (env:=env) (fun _ _=>rfl) xs (c3.trans (List.length_map _))
 refine .inr ⟨congrArg (fun z=>pure (some z)) e1,?_,e2,?_⟩
 ·have c1:=(Bool.or_eq_false_iff.mp (Bool.or_eq_false_iff.mp c1).1).1
  rcases Bool.or_eq_true_iff.mp ((Bool.not_eq_false' ..).mp c1) with z|z
  ·exact .inl ((List.length_map ..).symm.trans (eq_of_beq z))
  ·exact .inr ((List.length_map ..).symm.trans (eq_of_beq z))
 ·rw[<-e1];exact ed_nodup c4
theorem len2 {α:Type} {l:List α} (h:l.length=2):∃ a b,l=[a,b]:=by
 rcases l with (_|⟨a,_|⟨b,_|_⟩⟩)
 iterate 2 exact nomatch h
 ·exact⟨a,b,rfl⟩
 ·exact nomatch Nat.succ.inj (Nat.succ.inj h)
theorem len3 {α:Type} {l:List α} (h:l.length=3):∃ a b c,l=[a,b,c]:=by
 induction l using List.casesOn with
 | nil=>exact nomatch h
 | cons a l=>obtain⟨b,c,e⟩:=len2 (Nat.succ.inj h);exact⟨a,b,c,by rw[e]⟩
theorem rev_put {xs:List Nat} {vs:List V} (hlen:xs.length=2\/xs.length=3) (hl:xs.length=vs.length) (nd:xs.Nodup) (y:Nat):lk (putsL xs vs m) y=lk (putsL xs.reverse vs.reverse m) y:=by
 rcases hlen with hlen|hlen
 ·obtain⟨u,v,z⟩:=len2 (hl.symm.trans hlen)
  obtain⟨a,b,z'⟩:=len2 hlen
  rw[z'] at nd
  rw[z,z']
  have n1:a≠b:=fun z=>(List.nodup_cons.mp nd).1 (z▸.head _)
  show lk (putL (putL m a u) b v) y=lk (putL (putL m b v) a u) y
  rw[lk_putL,lk_putL,lk_putL,lk_putL]
  exact cn_swap n1
 ·obtain⟨u,v,w,z⟩:=len3 (hl.symm.trans hlen)
  obtain⟨a,b,d,z'⟩:=len3 hlen
  rw[z'] at nd
  rw[z,z']
  have n1:a≠b:=fun z=>(List.nodup_cons.mp nd).1 (z▸.head _)
  have n2:a≠d:=fun z=>(List.nodup_cons.mp nd).1 (z▸.tail _ (.head _))
  have n3:b≠d:=fun z=>(List.nodup_cons.mp (List.nodup_cons.mp nd).2).1 (z▸.head _)
  show lk (putL (putL (putL m a u) b v) d w) y=lk (putL (putL (putL m d w) b v) a u) y
  rw[lk_putL,lk_putL,lk_putL,lk_putL,lk_putL,lk_putL,cn_swap n1,cn_swap n2,cn_swap n3]
theorem s_asg_tt (ok:WdOk W) (I:SEv W E) (S:Stt W c m env A ρ J s.heap) (xs:List (Nat×Pos)) (k k':Nat) (tp tp':Pos) (es:List T) (hm:es.any moves1=true) (p:Pos) :
  WX W A c env (PySem.exec (.Assign [.Tuple (nmsE W xs) k tp] ((T.tup es k' tp').dec W.nm) p) env) (tx m (E.e c m (.tup es k' tp') J) fun v J=>unp c m xs v J) ρ J s:=by
 rcases swapped_cases (env:=env) ok xs k k' tp tp' es hm with hs|⟨hs,hlen,hloc,hdup⟩
 ·exact asg_plain I S _ (.tup es k' tp') p (swaps_none (.tup es k' tp') rfl ..) hs rfl fun ah h' tk pv v af st S' hv=>x_unpack (s:=Shared.at_ s h' tk) ok S' xs k tp hv
 ·rw[arm_exec_Assign]
  refine WX.standAt ?_
  show WX W A c env (swapsWith ((T.tup es k' tp').dec W.nm) (some (.Tuple (nmsE W xs) k tp)) p.line env >>= fun b=>_) _ ρ J s
  rw[swaps_none (.tup es k' tp') rfl,pure_bind]
  refine WX.ev I S (.tup es k' tp') fun ah h' tk pv v af st S' hv=>?_
  show WX W A c env (swappedStores [.Tuple (nmsE W xs) k tp] (.Tuple (T.decL W.nm es) k' tp') env >>= fun o=>assignStores env pv o _) _ ah af (Shared.at_ s h' tk)
  rw[hs,pure_bind]
  induction v using Mine.V.casesOn with
  | ref l=>
   refine hv.elR (P:=fun pv=>WX W A c env (assignStores env pv _ _) _ ah af (Shared.at_ s h' tk)) fun _=>?_
   refine gO_el (P:=fun z=>WX W A c env _ z ah af (Shared.at_ s h' tk)) S'.rep WX.bad (fun _ _ _=>WX.bad) (fun vs hx pt=>?_) fun _ _ _=>WX.bad
   refine WX.so fun q e2=>?_
   have hkd:∀ x∈xs,lk c.kd x.1=some .local:=fun x hx=>(S'.er.kd x.1).symm.trans (hloc x hx)
   obtain⟨hl,eq⟩:=storeNs_len xs e2
   have lm:(xs.map (·.1)).length=xs.length:=List.length_map ..
   have nd:(xs.map (·.1)).Nodup:=by
    have:(xs.map fun x=>W.nm x.1)=(xs.map (·.1)).map W.nm:=(List.map_map ..).symm
    rw[this] at hdup
    exact(List.pairwise_map.mp hdup).imp fun n z=>n (congrArg W.nm z)
   rw[eq hkd]
   intro Q Ex kk
   unfold assignStores
   refine wpAny_bind (wpAny_rule (wpAny_bind ?_))
   rw[List.length_map,hl]
   refine wp_unpack S' (s:=Shared.at_ s h' tk) pt fun ar ys aj r=>?_
   have aF:=S'.step aj
   have er:(xs.map fun x=>W.nm x.1).reverse=((xs.map (·.1)).reverse).map W.nm:=by rw[<-List.map_reverse,<-List.map_reverse,List.map_map];rfl
   have hb:bindPs c (xs.map (·.1)).reverse vs.reverse m af=some (putsL (xs.map (·.1)).reverse vs.reverse m,af):=bindPs_local _ (by rw[List.length_reverse,List.length_reverse,lm,hl]) fun x hx=>by
    obtain⟨y,hy,z⟩:=List.mem_map.mp (List.mem_reverse.mp hx)
    rw[<-z];exact hkd y hy
   rw[er]
   refine wpAny_bind (wp_binds ok (xs.map (·.1)).reverse vs.reverse ys.reverse (s:=Shared.at_ s ar tk) aF (VRs.reverse r) hb fun aH a9 ax aP=>wpAny_pure ?_)
   exact kk _ aH a9 ⟨aj.toL.trans S'.rep ax,aP.er.congr fun y=>rev_put (hlen.imp (fun z=>lm.trans z) fun z=>lm.trans z) (lm.trans hl) nd y⟩
  | _=>exact WX.bad
theorem nbT {b:Bool} (h:nb b=true):b=false:=by
 induction b using Bool.casesOn with
 | false=>rfl
 | true=>cases h
theorem tupE_at {t:T} {es:List T} (h:tupE t=some es):∃ k p,t=.tup es k p:=by
 induction t using Mine.T.casesOn with
 | tup es' k p=>exact⟨k,p,by rw[Option.some.inj h]⟩
 | _=>cases h
theorem tup_swap {t:T} (h:tupE t=none) (xs:List (Nat×Pos)) (k:Nat) (tp:Pos):swappedStores [.Tuple (nmsE W xs) k tp] (t.dec W.nm) env=pure none:=by
 induction t using Mine.T.casesOn with
 | tup es' k p=>cases h
 | _=>rfl
theorem s_asg (K:Kt) (hP:K.P=W.P) (ok:WdOk W) (I:SEv W E) (S:Stt W c m env A ρ J s.heap) (n:Nat) (tg:TG) (t:T) (p:Pos) (hc:∀ x np,tg=.nm x np->isCo t=false):WX W A c env (PySem.exec (.Assign [tg.dec W.nm] (t.dec W.nm) p) env) (sAsg tg t K E n c m J) ρ J s:=by
 induction tg using Mine.TG.casesOn with
 | nm x np=>exact s_asg_nm ok I S x np t (hc _ _ rfl) p
 | tp xs k tp=>
  refine WX.ifT fun h=>?_
  have h:oc (tupE t) (nb (isCo t)) (fun es=>es.any moves1)=true:=h
  induction q:tupE t using Option.casesOn with
  | some es=>
   rw[q] at h
   obtain⟨k',tp',e⟩:=tupE_at q
   rw[e]
   exact s_asg_tt ok I S xs k k' tp tp' es h p
  | none=>
   rw[q] at h
   have hc:isCo t=false:=nbT h
   exact asg_plain I S _ t p (swaps_none t hc ..) (tup_swap q ..) rfl fun ah h' tk pv v af st S' hv=>x_unpack (s:=Shared.at_ s h' tk) ok S' xs k tp hv
 | at_ o f tp=>
  show WX W A c env _ (tx m (E.e c m t J) fun v J=>tx m (E.e c m o J) fun ov J=>tx m (setAttrV K.P.cl J ov f v) fun _ J=>.nxt m J) ρ J s
  rw[hP];exact s_asg_at ok I S o f tp t p
 | sb o i tp=>exact s_asg_sb I S o i tp t p
theorem s_aug (K:Kt) (hP:K.P=W.P) (ok:WdOk W) (I:SEv W E) (S:Stt W c m env A ρ J s.heap) (n:Nat) (tg:TG) (op:Operator) (t:T) (p:Pos):WX W A c env (PySem.exec (.AugAssign (tg.dec W.nm) op (t.dec W.nm) p) env) (sAug tg op t K E n c m J) ρ J s:=by
 induction tg using Mine.TG.casesOn with
 | nm x np=>
  show WX W A c env _ (tx m (loadN K.P.gt c m x J) fun a J=>tx m (E.e c m t J) fun b J=>tx m (augV J op a b) fun v J=>nxtP (storeN c m x v J)) ρ J s
  rw[hP];exact s_aug_nm ok I S x np op t p
 | tp xs k tp=>exact WX.bad
 | at_ o f tp=>
  show WX W A c env _ (tx m (E.e c m o J) fun ov J=>tx m (getAttrV J ov f) fun a J=>tx m (E.e c m t J) fun b J=>tx m (augV J op a b) fun v J=>tx m (setAttrV K.P.cl J ov f v) fun _ J=>.nxt m J) ρ J s
  rw[hP];exact s_aug_at ok I S o f tp op t p
 | sb o i tp=>exact s_aug_sb I S o i tp op t p
end
end

section
open PySem PySem.W PySem.Calls PyProof.Rows

section
variable {W:Wd} {A:Around} {X F:Addr->Prop} {ρ am aw ah bz:Nat->Addr} {J ad aq af bA:Store} {s:Shared} {h ai ar h' g0:Heap} {c:Cx} {m m' m0:M} {env:Env} {E:Ev} {hd:Bool} {lo:Nat} {e a:Addr} {k:IK} {i:Nat}
noncomputable abbrev LT (W:Wd) (A:Around) (c:Cx) (env:Env) (x:Mine.X) (ρ:Nat->Addr) (J:Store) (s:Shared) (T:Result->Shared->Prop):Prop:=XP W A c env x ρ J s (fun f s'=>T (.ok f) s') (fun v s'=>(∃ e,v=.ref e/\HasTb s'.heap e)->T (.error v) s')
theorem Stt.nL (S:Stt W c m env A ρ J h):¬ hiX h.objs.size env.locals:=fun z=>by
 obtain⟨o,hL,_⟩:=S.er.isd
 exact absurd (Heap.lt_size hL) (Nat.not_lt.mpr z)
theorem Stt.hi (S:Stt W c m env A ρ J h) (x:XS W A c env ρ J h m' am ad ai) (aj:Stp W (FrAt A) (hiX h.objs.size) am ad ai aw aq ar):XS W A c env ρ J h m' aw aq ar:=by
 rcases x with ⟨st,er⟩
 have S':=S.stepL st er
 exact⟨st.under2 S.rep aj (fun b hb=>.inl (get?_size' _ hb)) fun b hb=>.inr hb,er.step S'.rep aj S'.loc S.nL⟩
theorem Stt.xs' (S:Stt W c m env A ρ J h) (x:XS W A c env ρ J h m' am ad ai):Stt W c m' env A am ad ai:=by
 rcases x with ⟨st,er⟩
 exact S.stepL st er
theorem XS.st (x:XS W A c env ρ J h m' am ad ai):Stp W (FrAt A) (isL env) ρ J h am ad ai:=by
 rcases x with ⟨st,er⟩
 exact st
theorem XS.tr (x:XS W A c env ρ J s.heap m' am ad ai) (R:Rep W ρ J s.heap) (y:XS W A c env am ad ai m aw aq ar):XS W A c env ρ J s.heap m aw aq ar:=y.trans R x.st
theorem wp_cameBack (R:Rep W ρ J s.heap) (f:Fly W A ρ J lo e s.heap) (tb:HasTb s.heap e) {Ex:Value->Shared->Prop} (k:∀ h',Stp W (FrAt A) (hiX lo) ρ J s.heap ρ J h'->Fly W A ρ J lo e h'->Ex (.ref e) (Shared.at_ s h' s.toks)):cameBackBy W.M A env Ex (.ref e) s:=by
 obtain⟨o,vs,t,he,hd,h1⟩:=tb
 unfold cameBackBy
 refine wpAny_bind (wpAny_field he hd h1 ?_)
 rw[if_neg (show ¬ (Value.ref t == Value.none)=true from Bool.false_ne_true)]
 exact wp_setFlight R f env.frame fun h' st fl _=>k h' st fl
theorem LC.own {code:Code} {x:Mine.X} (S:Stt W c m env A ρ J s.heap) (h:∀ T,LT W A c env x ρ J s T->codeAny W.M A code T s):WX W A c env (runOwn code env) x ρ J s:=by
 intro Q Ex k
 refine wpAny_runOwn (M:=W.M) (A:=A) (env:=env) (h:=none) (h _ ?_)
 induction x using Mine.X.casesOn with
 | exc m af=>exact fun ah h' tk e x fl ⟨e',q,tb⟩=>wp_cameBack (s:=Shared.at_ s h' tk) x.st.rep fl (Value.ref.inj q▸tb) fun ar aj cE=>k ah ar tk e (S.hi x aj) cE
 | _=>exact k
theorem wp_noted (S:Stt W c m env A ρ J s.heap) {tk:Nat} (x:XS W A c env ρ J s.heap m' am ad ai) (f:Fly W A am ad s.heap.objs.size e ai) {T:Value->Shared->Prop}
  (k:∀ ar,XS W A c env ρ J s.heap m' am ad ar->Fly W A am ad s.heap.objs.size e ar->(∃ e',Value.ref e=.ref e'/\HasTb ar e')->T (.ref e) (Shared.at_ s ar tk)):notedBy W.M A env T (.ref e) (Shared.at_ s ai tk):=by
 have S':=S.xs' x
 obtain⟨aO,rest,hfs,htop⟩:=S'.top
 exact wp_note (s:=Shared.at_ s ai tk) S'.rep S'.cst.fr hfs htop x.st.kept.size f fun ar aj bq tb=>k ar (S.hi x aj) bq ⟨e,rfl,tb⟩
inductive WLp (W:Wd) (c:Cx) (A:Around) (env:Env) (bz:Nat->Addr) (bA:Store) (aS:Shared) (r:Nat->M->Store->Prop) (j:Nat) (s:Shared):Prop
 |mk (m:M) (ρ:Nat->Addr) (J:Store) (h:Heap) (tk:Nat) (e:s=Shared.at_ aS h tk) (x:XS W A c env bz bA aS.heap m ρ J h) (hx:r j m J)
theorem whl_code (I:SEv W E) (S0:Stt W c m env A ρ J s.heap) (q:T) (b:List S) (n:Nat) (T:Result->Shared->Prop) (k:LT W A c env (whlL E c q b n m J) ρ J s T):codeAny W.M A (.whileLoop (q.dec W.nm) (S.decL W.nm b) [] env) T s:=by
 refine codeAny_whileLoop (WLp W c A env ρ J s fun j m' J'=>LT W A c env (whlL E c q b j m' J') ρ J s T) ?_ n ⟨m,ρ,J,s.heap,s.toks,rfl,S0.same,k⟩
 intro j s' y
 rcases y with (⟨aK,am,ad,ai,tk,e,x,hx⟩)
 rw[e]
 induction j using Nat.casesOn with
 | zero=>exact hx.elim
 | succ j=>
  have au:=S0.xs' x
  refine I.t (s:=Shared.at_ s ai tk) q au _ _ ?_
  have hx:LT W A c env (tx aK (E.t c aK q ad) fun v J=>cn v (again (execs E c b aK J) (whlL E c q b j)) (.nxt aK J)) ρ J s T:=hx
  revert hx
  induction E.t c aK q ad using Mine.R.casesOn with
  | bad=>exact fun hx=>hx
  | exc aq=>exact fun hx aw ar aA e aj fl=>wp_noted S0 (x.tr S0.rep (au.xs (s:=Shared.at_ s ai tk) aj)) (fl.low x.st.kept.size) fun aH y dz tb=>hx aw aH aA e y dz tb
  | ok v aq=>
   intro hx aw ar aA a aj ra
   rw[show a=v from ra]
   have x2:=x.tr S0.rep (au.xs (s:=Shared.at_ s ai tk) aj)
   induction v using Bool.casesOn with
   | false=>
    rw[if_neg Bool.false_ne_true]
    exact wpAny_pure (hx aw ar aA x2)
   | true=>
    rw[if_pos rfl]
    refine sound_execs (s:=Shared.at_ s ar aA) I b (au.step aj) _ _ ?_
    have hx:LT W A c env (again (execs E c b aK aq) (whlL E c q b j)) ρ J s T:=hx
    revert hx
    induction execs E c b aK aq using Mine.X.casesOn with
    | bad=>exact fun hx=>hx
    | nxt cw aT=>exact fun hx aN aH aY y=>⟨j,Nat.lt_succ_self _,⟨cw,aN,aT,aH,aY,rfl,x2.tr S0.rep y,hx⟩⟩
    | cnt cw aT=>exact fun hx aN aH aY y=>⟨j,Nat.lt_succ_self _,⟨cw,aN,aT,aH,aY,rfl,x2.tr S0.rep y,hx⟩⟩
    | ret v cw aT=>exact fun hx aN aH aY pv y hv=>hx aN aH aY pv (x2.tr S0.rep y) hv
    | exc cw aT=>exact fun hx aN aH aY e y fl=>wp_noted S0 (x2.tr S0.rep y) (fl.low x2.st.kept.size) fun bc z dA tb=>hx aN bc aY e z dA tb
theorem s_while (I:SEv W E) (S0:Stt W c m env A ρ J s.heap) (q:T) (b:List S) (n:Nat) (p:Pos):WX W A c env (PySem.exec (.While (q.dec W.nm) (S.decL W.nm b) [] p) env) (whlL E c q b n m J) ρ J s:=by
 rw[arm_exec_While]
 exact WX.standAt (LC.own S0 (whl_code I S0 q b n))
theorem Stt.stepA (S:Stt W c m env A ρ J h) (q:Mine_ W A ρ J h a) (st:Stp W (FrAt A) (fun b=>b=a) ρ J h ρ J h') (hl:a≠env.locals) (hh:∀ e,A.handled=some (.ref e)->e≠a):Stt W c m env A ρ J h':=by
 obtain⟨o,ho,_⟩:=S.er.isd
 exact⟨⟨st.rep,S.cst.fr.step S.rep st fun b fb hb=>absurd (hb▸fb) q.nf,S.cst.ne,S.cst.dep,S.cst.uni,S.cst.hd.step S.rep st hh⟩,S.er.step S.rep st S.loc (Ne.symm hl),S.loc.step S.rep st ho,S.top⟩
theorem own_core {vs:Array Value} {n:String} {o:Obj} {g:G} {nm:Nat->Str} (ho:s.heap.get? a=some o) (hc:o.cls=.type n) (hd:o.data=.fields vs) (hn:(["enumerate","zip","dict_itemiterator","dict_reverseitemiterator","odict_iterator","itertools.zip_longest","itertools.pairwise"].contains n)=false) {v:Value} {Q:Unit->Shared->Prop} {Ex:Value->Shared->Prop} (q:Q () s) :
  wpAny W.M A (letOwnedTupleGo (g.dec nm) (.ref a) v) Q Ex s:=by
 induction g using Mine.G.casesOn with
 | nm x p=>exact wpAny_pure q
 | tp xs k' p=>
  unfold letOwnedTupleGo G.dec
  induction v using PySem.Value.casesOn with
  | ref b=>
   refine wpAny_bind (wpAny_load ho ?_)
   rw[hc,hd]
   refine rwl (p:=fun z=>wpAny W.M A z Q Ex s) (if_neg (by rw[hn];exact Bool.false_ne_true)) (wpAny_pure q)
  | _=>exact wpAny_pure q
theorem go_own {g:G} {nm:Nat->Str} {n:Nat} (T:ItAt ρ n s.heap a i k) {v:Value} {Q:Unit->Shared->Prop} {Ex:Value->Shared->Prop} (q:Q () s):wpAny W.M A (letOwnedTupleGo (g.dec nm) (.ref a) v) Q Ex s:=by
 induction k using Mine.IK.casesOn with
 | list l=>obtain⟨⟨o,ho,hc,hd⟩,_⟩:=T;exact own_core ho hc hd (by decide +kernel) q
 | tup l=>obtain⟨⟨o,ho,hc,hd⟩,_⟩:=T;exact own_core ho hc hd (by decide +kernel) q
 | rng j=>exact own_core T.1 rfl rfl (by decide +kernel) q
 | str x=>rcases T with ⟨t,o,ho,hc,hd⟩;exact own_core ho hc hd (by decide +kernel) q
theorem Stp.ended (S:Stt W c m env A ρ J h) (Ma:Mine_ W A ρ J h a) (T:ItAt ρ J.n h a i k) (en:Ended a h h'):Stp W (FrAt A) (fun z=>z=a) ρ J h ρ J h':=by
 obtain⟨oi,hoi,hnc⟩:=T.notCode
 have kc:∀ cd qq,h.CodeRec cd qq->h'.CodeRec cd qq:=fun cd qq ⟨cc,o,vs,t,q1,q2,q3,q4⟩=>⟨cc,o,vs,t,q1,en.keep cc o (fun w=>by
  rw[w,hoi] at q2
  rw[<-Option.some.inj q2] at q3
  exact hnc vs qq t q3 q4) q2,q3,q4⟩
 refine⟨S.rep.other (fun z t=>?_) (fun z o ho=>en.keep z o (fun w=>by rw[w,Ma.off.base] at ho;cases ho) (S.rep.keep z o ho)) (S.rep.tab.keep (fun o e=>en.keep _ _ (fun w=>Ma.off.pt w.symm) e) kc) kc,fun _ _=>rfl,Nat.le_refl _,fun l o e=>.inl ⟨o,e⟩,⟨en.size,fun z o ho _ _ x=>⟨o,en.keep z o x ho,.inl rfl⟩⟩⟩
 obtain⟨l,o,e,z⟩:=t
 obtain⟨x,hx⟩:=(S.rep.obj l o e).at
 rw[<-z,hx];exact en.keep _ _ (fun w=>Ma.off.trk ⟨l,o,e,w⟩) hx
structure FLs (W:Wd) (c:Cx) (A:Around) (env:Env) (bz:Nat->Addr) (bA:Store) (g:Heap) (a:Addr) (k:IK) (m:M) (i:Nat) (ρ:Nat->Addr) (J:Store) (h:Heap):Prop where
 x:XS W A c env bz bA g m ρ J h
 Ma:Mine_ W A ρ J h a
 T:ItAt ρ J.n h a i k
theorem FLs.step (R:Rep W bz bA s.heap) (hl:a≠env.locals) (x:FLs W c A env bz bA s.heap a k m i ρ J h) (y:XS W A c env ρ J h m' ah af h'):FLs W c A env bz bA s.heap a k m' i ah af h':=by
 obtain⟨Ma,e⟩:=x.Ma.step x.x.st.rep y.st hl
 exact⟨x.x.tr R y,Ma,x.T.move y.st.agree y.st.n e⟩
theorem XS.own (S0:Stt W c m0 env A bz bA g0) (hn:g0.get? a=none) (x:XS W A c env bz bA g0 m ρ J h) (hl:a≠env.locals) (aj:Stp W (FrAt A) (fun z=>z=a) ρ J h ρ J h'):XS W A c env bz bA g0 m ρ J h':=by
 rcases x with ⟨st,er⟩
 exact⟨st.under2 S0.rep aj (fun z hz=>.inl (by rw[hz];exact hn)) fun b hb=>.inr hb,er.step st.rep aj (S0.stepL st er).loc (Ne.symm hl)⟩
inductive FLp (W:Wd) (c:Cx) (A:Around) (env:Env) (bz:Nat->Addr) (bA:Store) (aS:Shared) (a:Addr) (k:IK) (r:Nat->Nat->M->Store->Prop) (j:Nat) (s:Shared):Prop
 |mk (i:Nat) (m:M) (ρ:Nat->Addr) (J:Store) (h:Heap) (tk:Nat) (e:s=Shared.at_ aS h tk) (x:FLs W c A env bz bA aS.heap a k m i ρ J h) (hx:r j i m J)
theorem for_code (ok:WdOk W) (I:SEv W E) (S0:Stt W c m env A ρ J s.heap) (g:G) (b:List S) (n:Nat) (hn:s.heap.get? a=none) (hl:a≠env.locals) {h1:Heap} {tk1:Nat} (x0:FLs W c A env ρ J s.heap a k m 0 ρ J h1)
  {T:Result->Shared->Prop} (q:LT W A c env (forL E c g b k n 0 m J) ρ J s T):codeAny W.M A (.forLoop (g.dec W.nm) (.ref a) (S.decL W.nm b) [] env) T (Shared.at_ s h1 tk1):=by
 have hh:=S0.cst.hd.new hn
 refine codeAny_forLoop_any (FLp W c A env ρ J s a k fun j i m' J'=>LT W A c env (forL E c g b k j i m' J') ρ J s T) ?_ n ⟨0,m,ρ,J,h1,tk1,rfl,x0,q⟩
 intro j s' y
 rcases y with (⟨i,aK,am,ad,ai,tk,e,x,hx⟩)
 rw[e]
 induction j using Nat.casesOn with
 | zero=>exact hx.elim
 | succ j=>
  have hx:LT W A c env (oc (nextI ad k i) .bad fun y=>oc y (.nxt aK ad) fun v=>oc (storeG c aK g v ad) .bad fun p=>again (execs E c b p.1 p.2) (forL E c g b k j (i+1))) ρ J s T:=hx
  revert hx
  have S1:=S0.xs' x.x
  have own:∀ {h2:Heap},Stp W (FrAt A) (fun z=>z=a) am ad ai am ad h2->XS W A c env ρ J s.heap aK am ad h2:=fun aj=>x.x.own S0 hn hl aj
  induction hnx:nextI ad k i using Option.casesOn with
  | none=>exact fun hx=>hx.elim
  | some r=>
   intro hx
   refine iter_next (s:=Shared.at_ s ai tk) S1.rep S1.cst.hd.at_ x.T hh hnx ?_
   induction r using Option.casesOn with
   | none=>exact fun ar en=>wpAny_pure (hx am ar tk (own (Stp.ended S1 x.Ma x.T en)))
   | some v=>
    intro ar aA pv bR bS hv
    obtain⟨oi,hoi,hnc⟩:=x.T.notCode
    obtain⟨o2,ho2,_⟩:=bS.notCode
    have aj:=Stp.one (oa:=oi) (F:=FrAt A) (X:=fun z=>z=a) S1.rep x.Ma.off bR (codeRec_not bR hoi hnc) rfl
    have S2:=S1.stepA x.Ma aj hl hh
    have x2:FLs W c A env ρ J s.heap a k aK (i+1) am ad ar:=⟨own aj,⟨⟨o2,ho2⟩,x.Ma.off,x.Ma.nf⟩,bS⟩
    refine go_own (s:=Shared.at_ s ar aA) bS ?_
    have hx:LT W A c env (oc (storeG c aK g v ad) .bad fun p=>again (execs E c b p.1 p.2) (forL E c g b k j (i+1))) ρ J s T:=hx
    revert hx
    induction hst:storeG c aK g v ad using Option.casesOn with
    | none=>exact fun hx=>hx.elim
    | some p=>
     intro hx
     refine wp_assignG ok (s:=Shared.at_ s ar aA) S2 g hv hst fun aH aY ax aP=>?_
     have x3:=x2.step S0.rep hl ⟨ax,aP.er⟩
     refine sound_execs (s:=Shared.at_ s aH aY) I b aP _ _ ?_
     have hx:LT W A c env (again (execs E c b p.1 p.2) (forL E c g b k j (i+1))) ρ J s T:=hx
     revert hx
     induction execs E c b p.1 p.2 using Mine.X.casesOn with
     | bad=>exact fun hx=>hx
     | nxt cy bu=>exact fun hx bh bc bj y=>⟨j,Nat.lt_succ_self _,⟨i+1,cy,bh,bu,bc,bj,rfl,x3.step S0.rep hl y,hx⟩⟩
     | cnt cy bu=>exact fun hx bh bc bj y=>⟨j,Nat.lt_succ_self _,⟨i+1,cy,bh,bu,bc,bj,rfl,x3.step S0.rep hl y,hx⟩⟩
     | ret v cy bu=>exact fun hx bh bc bj pv y hv=>hx bh bc bj pv (x3.x.tr S0.rep y) hv
     | exc cy bu=>exact fun hx bh bc bj e y fl=>wp_noted S0 (x3.x.tr S0.rep y) (fl.low x3.x.st.kept.size) fun bE z dC tb=>hx bh bE bj e z dC tb
theorem folded_eq (t:T) (nm:Nat->Str) (x:Value):foldedSetIterable (t.dec nm) env x=pure x:=by cases t<;>rfl
theorem s_for (ok:WdOk W) (I:SEv W E) (S0:Stt W c m env A ρ J s.heap) (g:G) (it:T) (b:List S) (n:Nat) (p:Pos):WX W A c env (PySem.exec (.For (g.dec W.nm) (it.dec W.nm) (S.decL W.nm b) [] p) env)
  (tx m (E.e c m it J) fun o J=>oc (iterOf c.2 J o) .bad fun o=>forL E c g b o n 0 m J) ρ J s:=by
 rw[arm_exec_For]
 refine WX.standAt (WX.ev I S0 it fun am ai az pv v ad aG au hv=>?_)
 rw[folded_eq,pure_bind]
 refine WX.standAt (WX.so fun k hi=>?_)
 intro Q Ex q
 refine wpAny_bind (wpAny_holding (iter_start (s:=Shared.at_ s ai az) au.rep hv hi fun x nw=>?_))
 rcases nw with ⟨hf,hT⟩
 have st:Sx W A am ad ai am ad (ai.push x):=Stp.push au.rep x
 refine wpAny_runOwn (M:=W.M) (A:=A) (env:=env) (h:=none) ?_
 refine for_code ok I (s:=Shared.at_ s ai az) (h1:=ai.push x) (tk1:=az) au g b n (get?_size _) (fun z=>au.nL (z▸Nat.le_refl _)) ⟨au.xs (s:=Shared.at_ s ai az) st,Mine_.new au.rep au.cst.fr x hf,hT⟩ ?_
 revert q
 induction forL E c g b k n 0 m ad using Mine.X.casesOn with
 | exc m af=>exact fun q ah h' tk e x fl ⟨e',z,tb⟩=>wp_cameBack (s:=Shared.at_ s h' tk) x.st.rep fl (Value.ref.inj z▸tb) fun ar aj cE=>q ah ar tk e (au.hi x aj) cE
 | _=>exact fun q=>q
end
end

section
open PySem PySem.W PySem.Calls PyProof.Rows

noncomputable def Sub_ (env:Env) (cl:List (Str×Addr)):Prop:=∀ n b,cl.lookup n=some b->env.cells.lookup n=some b
noncomputable abbrev ifBody (env:Env):PySem.Expr->Bool->Sem (ForInStep Bool):=fun c' r=>if r=true then do let ok <-isTrue c' env (eval c' env);pure (ForInStep.yield ok) else pure (ForInStep.yield r)
inductive AccAt (ρ:Nat->Addr) (n:Nat) (h:Heap) (D:Addr) (acc:List V):Prop
 |mk (ys:List Value) (ep:Nat) (hD:h.get? D=some (PySem.W.listOf (List.toArray ys) ep)) (va:VRs ρ n acc ys)
structure CLb (W:Wd) (A:Around) (env:Env) (bz:Nat->Addr) (bA:Store) (g:Heap) (a D:Addr):Prop where
 R:Rep W bz bA g
 na:g.get? a=none
 nD:g.get? D=none
 nl:g.get? env.locals=none
 aD:a≠D
 al:a≠env.locals
 Dl:D≠env.locals
 ha:∀ e,A.handled=some (.ref e)->e≠a
 hd:∀ e,A.handled=some (.ref e)->e≠D
structure CLs (W:Wd) (c:Cx) (A:Around) (env:Env) (bz:Nat->Addr) (bA:Store) (g:Heap) (a D:Addr) (k:IK) (m:M) (i:Nat) (acc:List V) (ρ:Nat->Addr) (J:Store) (h:Heap):Prop where
 st:Sx W A bz bA g ρ J h
 S:Stt W c m env A ρ J h
 Ma:Mine_ W A ρ J h a
 T:ItAt ρ J.n h a i k
 MD:Mine_ W A ρ J h D
 hD:AccAt ρ J.n h D acc
 la:acc.length<=10001
noncomputable def CK (W:Wd) (c:Cx) (A:Around) (env:Env) (bz:Nat->Addr) (bA:Store) (aS:Shared) (D:Addr) (T':Result->Shared->Prop) (r:R (List V)):Prop:=@R.rec (List V) (fun _=>Prop) False (fun vs af=>∀ am ai tk aK,Sx W A bz bA aS.heap am af ai->Stt W c aK env A am af ai->Mine_ W A am af ai D->AccAt am af.n ai D vs->vs.length<=10001->T' (.ok .next) (Shared.at_ aS ai tk)) (fun _=>False) r
section
variable {W:Wd} {A:Around} {X F:Addr->Prop} {ρ am aw ah bz:Nat->Addr} {J ad aq af bA:Store} {s:Shared} {h ai ar h' g:Heap} {c:Cx} {m m' m0:M} {env:Env} {E:Ev} {hd:Bool} {lo:Nat} {e a D:Addr} {k:IK} {i:Nat} {acc:List V}
theorem clos_go {n:Nat} (er:EnvR W ρ n c m env h) (f:Str×NameKind->List (Str×Addr)->Sem (ForInStep (List (Str×Addr))))
  (hf:∀ name kind cells,f (name,kind) cells=if kind == .free then (do let a <-cellOf env name;pure (.yield ((name,a)::cells))) else pure (.yield cells)) (kd:List (Nat×NameKind)) :
  ∀ (cs:List (Nat×Nat)) (acc:List (Str×Addr)),closeC c kd=some cs->Sub_ env acc ->
   ∃ cl,forIn (kd.map fun y=>(W.nm y.1,y.2)) acc f=(pure cl:Sem _)/\Sub_ env cl/\(∀ n,(acc.lookup n).isSome=true->(cl.lookup n).isSome=true)/\(∀ x a,lk cs x=some a->lk c.cs x=some a/\(cl.lookup (W.nm x)).isSome=true):=by
 induction kd using List.rec with
 | nil=>
  intro cs acc e H
  exact⟨acc,by rw[List.map_nil,List.forIn_nil],H,fun _ z=>z,fun x a ex=>nosome (by rw[<-Option.some.inj e] at ex;exact ex)⟩
 | cons y r ih=>
  intro cs acc e H
  obtain⟨y,kind⟩:=y
  rw[List.map_cons,List.forIn_cons,hf]
  induction kind using PySem.NameKind.casesOn with
  | free=>
   refine ocE e fun a ha e=>ocE e fun q hq e=>?_
   rw[<-Option.some.inj e]
   have hcell:env.cells.lookup (W.nm y)=some (ρ a):=(er.cs y a ha).2
   have H':Sub_ env ((W.nm y,ρ a)::acc):=fun n b hb=>by
    rw[List.lookup_cons] at hb
    by_cases hn:n=W.nm y
    ·rw[hn,beq_self_eq_true] at hb
     rw[hn,<-Option.some.inj hb];exact hcell
    ·rw[beq_eq_false_iff_ne.mpr hn] at hb
     exact H n b hb
   have hself:((W.nm y,ρ a)::acc).lookup (W.nm y)=some (ρ a):=by rw[List.lookup_cons,beq_self_eq_true]
   obtain⟨cl,e1,e2,e3,e4⟩:=ih q _ hq H'
   have hc0:cellOf env (W.nm y)=pure (ρ a):=by unfold cellOf;rw[hcell]
   refine⟨cl,?_,e2,fun n hn=>e3 n ?_,fun x b hb=>?_⟩
   ·rw[if_pos (show(NameKind.free == NameKind.free)=true from rfl),hc0,pure_bind,pure_bind];exact e1
   ·by_cases hn':n=W.nm y
    ·rw[hn',hself];rfl
    ·rw[List.lookup_cons,beq_eq_false_iff_ne.mpr hn'];exact hn
   ·have hb:cn (Nat.beq y x) (some a) (lk q x)=some b:=hb
    by_cases hx:y=x
    ·rw[beqT hx] at hb
     rw[<-hx,<-Option.some.inj hb]
     exact⟨ha,e3 _ (by rw[hself];rfl)⟩
    ·rw[beqF hx] at hb
     exact e4 x b hb
  | cell=>cases e
  | _=>
   rw[if_neg Bool.false_ne_true,pure_bind]
   exact ih cs acc e H
theorem clos_ok {n:Nat} (er:EnvR W ρ n c m env h) {kd:List (Nat×NameKind)} {cs:List (Nat×Nat)} {scope:Scope} (hn:scope.names=kd.map fun y=>(W.nm y.1,y.2)) (e:closeC c kd=some cs):∃ cl,closureFor scope env=pure cl/\CsR W ρ n cs cl:=by
 obtain⟨cl,e1,e2,e3,e4⟩:=clos_go er (fun (x:Str×NameKind) (r:List (Str×Addr))=>if x.2 == .free then (do let a <-cellOf env x.1;pure (.yield ((x.1,a)::r))) else pure (.yield r)) (fun _ _ _=>rfl) kd cs [] e (fun n b h=>nosome h)
 refine⟨cl,?_,fun x a ha=>?_⟩
 ·unfold closureFor
  rw[hn]
  exact(bind_pure _).trans e1
 ·obtain⟨a1,a2⟩:=e4 x a ha
  obtain⟨al,ac⟩:=er.cs x a a1
  obtain⟨b,hb⟩:=Option.isSome_iff_exists.mp a2
  exact⟨al,hb.trans ((e2 _ _ hb).symm.trans ac)⟩
theorem ifs_no (l:List PySem.Expr):forIn l false (ifBody env)=(pure false:Sem Bool):=by
 induction l with
 | nil=>rw[List.forIn_nil]
 | cons x r ih=>
  rw[List.forIn_cons]
  show((if false=true then _ else pure (ForInStep.yield false)) >>= _)=_
  rw[if_neg Bool.false_ne_true,pure_bind]
  exact ih
theorem wp_ifs (I:SEv W E) (ifs:List T):∀ {m:M} {ρ:Nat->Addr} {J:Store} {s:Shared},Stt W c m env A ρ J s.heap->WP W A (forIn (T.decL W.nm ifs) true (ifBody env)) relB (bopT E c true m ifs J) ρ J s:=by
 induction ifs using List.rec with
 | nil=>
  intro m ρ J s H
  rw[T.decL,List.forIn_nil];exact WP.pure H.rep rfl
 | cons t r ih=>
  intro m ρ J s H
  rw[T.decL,List.forIn_cons]
  show WP W A ((isTrue (t.dec W.nm) env (eval (t.dec W.nm) env) >>= fun ok=>pure (ForInStep.yield ok)) >>= _) relB (bd (E.t c m t J) fun b J=>cn b (bopT E c true m r J) (.ok false J)) ρ J s
  rw[bind_assoc]
  refine WP.evT I H t fun am ai az b ad aG au=>?_
  rw[pure_bind]
  induction b using Bool.casesOn with
  | true=>exact ih (s:=Shared.at_ s ai az) au
  | false=>
   show WP W A (forIn (T.decL W.nm r) false (ifBody env)) relB _ _ _ _
   rw[ifs_no]
   exact WP.pure (s:=Shared.at_ s ai az) au.rep rfl
theorem listOf_notCode (ys:Array Value) (n:Nat):NotCode (PySem.W.listOf ys n):=fun vs q t e=>by cases e
theorem Stt.mine (S:Stt W c m env A ρ J h) (q:Mine_ W A ρ J h a) {oa:Obj} (ho:h.get? a=some oa) (hn:NotCode oa) (hs:Heap.SameBut a h h') (hl:a≠env.locals) (hh:∀ e,A.handled=some (.ref e)->e≠a):Stp W (FrAt A) (fun b=>b=a) ρ J h ρ J h'/\Stt W c m env A ρ J h':=
 have st:=Stp.one (oa:=oa) (F:=FrAt A) (X:=fun b=>b=a) S.rep q.off hs (codeRec_not hs ho hn) rfl
 ⟨st,S.stepA q st hl hh⟩
theorem CLs.to {X:Addr->Prop} (x:CLs W c A env bz bA g a D k m i acc ρ J h) (s:Stp W (FrAt A) X ρ J h ah af h') (st:Sx W A bz bA g ah af h') (S:Stt W c m' env A ah af h') (xa:¬ X a) (xD:¬ X D):CLs W c A env bz bA g a D k m' i acc ah af h':=by
 obtain⟨Ma,e⟩:=x.Ma.step x.S.rep s xa
 obtain⟨MD,eD⟩:=x.MD.step x.S.rep s xD
 rcases x.hD with ⟨ys,ep,hD,va⟩
 exact⟨st,S,Ma,x.T.move s.agree s.n e,MD,⟨ys,ep,eD.trans hD,va.mono s.agree s.n⟩,x.la⟩
theorem CLs.step (b:CLb W A env bz bA g a D) (x:CLs W c A env bz bA g a D k m i acc ρ J h) (s:Sx W A ρ J h ah af h'):CLs W c A env bz bA g a D k m i acc ah af h':=x.to s (x.st.trans b.R s) (x.S.step s) id id
theorem CLs.store (b:CLb W A env bz bA g a D) (x:CLs W c A env bz bA g a D k m i acc ρ J h) (s:Stp W (FrAt A) (isL env) ρ J h ah af h') (S:Stt W c m' env A ah af h'):CLs W c A env bz bA g a D k m' i acc ah af h':=
 x.to s (x.st.under2 b.R s (fun z hz=>.inl (by rw[hz];exact b.nl)) fun z hz=>.inr hz) S b.al b.Dl
theorem CLs.next (b:CLb W A env bz bA g a D) (x:CLs W c A env bz bA g a D k m i acc ρ J h) (bR:Heap.SameBut a h h') (bS:ItAt ρ J.n h' a (i+1) k):CLs W c A env bz bA g a D k m (i+1) acc ρ J h':=by
 obtain⟨oi,hoi,hnc⟩:=x.T.notCode
 obtain⟨aj,aF⟩:=x.S.mine x.Ma hoi hnc bR b.al b.ha
 obtain⟨MD,eD⟩:=x.MD.step x.S.rep aj (fun z=>b.aD z.symm)
 rcases x.hD with ⟨ys,ep,hD,va⟩
 obtain⟨o,ho,_⟩:=bS.notCode
 exact⟨x.st.under2 b.R aj (fun z hz=>.inl (by rw[hz];exact b.na)) fun z hz=>.inr hz,aF,⟨⟨o,ho⟩,x.Ma.off,x.Ma.nf⟩,bS,MD,⟨ys,ep,eD.trans hD,va⟩,x.la⟩
theorem CLs.app (b:CLb W A env bz bA g a D) (x:CLs W c A env bz bA g a D k m i acc ρ J h) {ys:List Value} {u:V} {pu:Value} {ep n':Nat} (hD:h.get? D=some (PySem.W.listOf (List.toArray ys) ep)) (va:VRs ρ J.n acc ys) (hu:VR ρ J.n u pu) (cX:Heap.SameBut D h h') (hD':h'.get? D=some (PySem.W.listOf (List.toArray (ys++[pu])) n')) (hl:acc.length<=10000):CLs W c A env bz bA g a D k m i (acc++[u]) ρ J h':=by
 obtain⟨cj,dV⟩:=x.S.mine x.MD hD (listOf_notCode _ _) cX b.Dl b.hd
 obtain⟨dW,dX⟩:=x.Ma.step x.S.rep cj b.aD
 exact⟨x.st.under2 b.R cj (fun z hz=>.inl (by rw[hz];exact b.nD)) fun z hz=>.inr hz,dV,dW,x.T.move (fun _ _=>rfl) (Nat.le_refl _) dX,⟨⟨_,hD'⟩,x.MD.off,x.MD.nf⟩,⟨_,n',hD',va.append (.cons hu .nil)⟩,by rw[List.length_append];exact Nat.succ_le_succ hl⟩
theorem comp_end {elt:PySem.Expr} {g:PySem.Expr} {it:PySem.Expr} {ifs:List PySem.Expr} {rest:List Comprehension} {scope:Scope} {pos:Pos} {a acc:Value} {cenv:Env} :
  ∃ K:Value->Sem Fin,compTurn (.ListComp elt (⟨g,it,ifs,0⟩::rest) scope pos) 0 a acc cenv=(PySem.standAt it.pos >>= fun _=>pyNext a >>= fun r=>match r with|none=>pure (.done .next)|some v=>K v):=⟨_,rfl⟩
theorem wpAny_gen {α:Type} {M:Model} {A:Around} {t:Sem α} {Q:α->Shared->Prop} {E:Value->Shared->Prop} {s:Shared} (h:∀ Q' E',(∀ v s,Q v s->Q' v s)->wpAny M A t Q' E' s):wpAny M A t Q E s:=h Q E fun _ _ x=>x
inductive CLp (W:Wd) (c:Cx) (A:Around) (env:Env) (bz:Nat->Addr) (bA:Store) (aS:Shared) (a D:Addr) (k:IK) (r:Nat->Nat->M->List V->Store->Prop) (j:Nat) (s:Shared):Prop
 |mk (i:Nat) (m:M) (acc:List V) (ρ:Nat->Addr) (J:Store) (h:Heap) (tk:Nat) (e:s=Shared.at_ aS h tk) (x:CLs W c A env bz bA aS.heap a D k m i acc ρ J h) (hx:r j i m acc J)
theorem comp_code (ok:WdOk W) (I:SEv W E) (elt:T) (g:G) (it:PySem.Expr) (ifs:List T) (rest:List Comprehension) (scope:Scope) (pos:Pos) (n:Nat) {aS:Shared} {T':Result->Shared->Prop} (b:CLb W A env bz bA aS.heap a D) {h1:Heap} {tk1:Nat} (x0:CLs W c A env bz bA aS.heap a D k [] 0 [] ρ J h1)
  (q:CK W c A env bz bA aS D T' (compL E c elt g ifs (restB rest) k n 0 [] [] J)):codeAny W.M A (.compLoop (.ListComp (elt.dec W.nm) (⟨g.dec W.nm,it,T.decL W.nm ifs,0⟩::rest) scope pos) 0 (.ref a) (.ref D) env) T' (Shared.at_ aS h1 tk1):=by
 refine codeAny_loop rfl (CLp W c A env bz bA aS a D k fun j i m acc J=>CK W c A env bz bA aS D T' (compL E c elt g ifs (restB rest) k j i m acc J)) ?_ n ⟨0,[],[],ρ,J,h1,tk1,rfl,x0,q⟩
 clear x0 q
 intro j s' y
 rcases y with (⟨i,aK,acc,am,ad,ai,tk,e,x,hx⟩)
 rw[e]
 show wpAny _ A ((compTurn _ 0 (.ref a) (.ref D) env).onRaise (fun x=>do noteFrame x env;theTreesLotGoes x)) _ _ _
 refine wpAny_noted (wpAny_gen fun Q' E' hQ=>?_)
 induction j using Nat.casesOn with
 | zero=>exact hx.elim
 | succ j=>
  have hx:CK W c A env bz bA aS D T' (oc (nextI ad k i) .bad fun y=>oc y (.ok acc ad) fun v=>cn (restB rest) .bad (oc (storeG c aK g v ad) .bad fun p=>
   bd (bopT E c true p.1 ifs p.2) fun b J=>cn b (bd (E.e c p.1 elt J) fun v J=>cn (lenLe acc 10000) (compL E c elt g ifs (restB rest) k j (i+1) p.1 (acc++[v]) J) .bad) (compL E c elt g ifs (restB rest) k j (i+1) p.1 acc J))):=hx
  have H1:=x.S.cst.hd.at_
  revert hx
  induction hnx:nextI ad k i using Option.casesOn with
  | none=>exact fun hx=>hx.elim
  | some r=>
   intro hx
   induction r using Option.casesOn with
   | none=>
    obtain⟨K,hK⟩:=comp_end (elt:=elt.dec W.nm) (g:=g.dec W.nm) (it:=it) (ifs:=T.decL W.nm ifs) (rest:=rest) (scope:=scope) (pos:=pos) (a:=.ref a) (acc:=.ref D) (cenv:=env)
    rw[hK]
    refine wpAny_bind (wpAny_standAt (wpAny_bind ?_))
    refine iter_next (s:=Shared.at_ aS ai tk) x.S.rep H1 x.T b.ha hnx fun ar en=>?_
    have aj:=Stp.ended x.S x.Ma x.T en
    obtain⟨cT,eD⟩:=x.MD.step x.S.rep aj (fun z=>b.aD z.symm)
    rcases x.hD with ⟨ys,bB,bT,va⟩
    exact wpAny_pure (hQ _ _ (hx am ar tk aK (x.st.under2 b.R aj (fun z hz=>.inl (by rw[hz];exact b.na)) fun z hz=>.inr hz) (x.S.stepA x.Ma aj b.al b.ha) cT ⟨ys,bB,eD.trans bT,va⟩ x.la))
   | some v=>
    revert hx
    induction rest using List.casesOn with
    | cons r0 rest=>exact fun hx=>hx.elim
    | nil=>
     intro hx
     rw[compTurn_list]
     refine wpAny_bind (wpAny_standAt (wpAny_bind ?_))
     refine iter_next (s:=Shared.at_ aS ai tk) x.S.rep H1 x.T b.ha hnx fun ar aA pv bR bS hv=>?_
     have x2:=x.next b bR bS
     clear x bR H1
     refine wpAny_bind (go_own (s:=Shared.at_ aS ar aA) bS ?_)
     clear bS
     have hx:CK W c A env bz bA aS D T' (oc (storeG c aK g v ad) .bad fun p=>
      bd (bopT E c true p.1 ifs p.2) fun b J=>cn b (bd (E.e c p.1 elt J) fun v J=>cn (lenLe acc 10000) (compL E c elt g ifs false k j (i+1) p.1 (acc++[v]) J) .bad) (compL E c elt g ifs false k j (i+1) p.1 acc J)):=hx
     revert hx
     induction hst:storeG c aK g v ad using Option.casesOn with
     | none=>exact fun hx=>hx.elim
     | some p=>
      intro hx
      refine wpAny_bind (wp_assignG ok (s:=Shared.at_ aS ar aA) x2.S g hv hst fun aH aY ax aP=>?_)
      have x3:=x2.store b ax aP
      clear ax x2 hst hv
      refine wpAny_bind (wp_ifs (s:=Shared.at_ aS aH aY) I ifs aP _ _ ?_)
      have hx:CK W c A env bz bA aS D T' (bd (bopT E c true p.1 ifs p.2) fun b J=>cn b (bd (E.e c p.1 elt J) fun v J=>cn (lenLe acc 10000) (compL E c elt g ifs false k j (i+1) p.1 (acc++[v]) J) .bad) (compL E c elt g ifs false k j (i+1) p.1 acc J)):=hx
      revert hx
      induction bopT E c true p.1 ifs p.2 using Mine.R.casesOn with
      | bad=>exact fun hx=>hx
      | exc bu=>exact fun hx=>hx.elim
      | ok b' bu=>
       intro hx bh bc bj b'' aE hb
       rw[show b''=b' from hb]
       have x4:=x3.step b aE
       clear x3 aE
       induction b' using Bool.casesOn with
       | false=>exact wpAny_pure (hQ _ _ ⟨rfl,j,Nat.lt_succ_self _,⟨i+1,p.1,acc,bh,bu,bc,bj,rfl,x4,hx⟩⟩)
       | true=>
        refine wpAny_bind (wpAny_bind (I.e (s:=Shared.at_ aS bc bj) elt x4.S _ _ ?_))
        have hx:CK W c A env bz bA aS D T' (bd (E.e c p.1 elt bu) fun v J=>cn (lenLe acc 10000) (compL E c elt g ifs false k j (i+1) p.1 (acc++[v]) J) .bad):=hx
        revert hx
        induction E.e c p.1 elt bu using Mine.R.casesOn with
        | bad=>exact fun hx=>hx
        | exc cD=>exact fun hx=>hx.elim
        | ok u cD=>
         intro hx cC bE dH pu aV hu
         have x5:=x4.step b aV
         clear x4 aV
         have hx:CK W c A env bz bA aS D T' (cn (lenLe acc 10000) (compL E c elt g ifs false k j (i+1) p.1 (acc++[u]) cD) .bad):=hx
         revert hx
         refine cn_el (P:=fun z=>CK W c A env bz bA aS D T' z->_) (fun hl hx=>?_) fun _ hx=>hx.elim
         have hz:=lenLe_at hl
         rcases x5.hD with ⟨ys,bB,ci,va⟩
         have l1:ys.toArray.size=acc.length:=by rw[List.size_toArray,va.length]
         refine wpAny_bind (call_meets PySem.F.slot_list_append ⟨_,ci,rfl⟩ PySem.F.entry_list_append (PySem.F.args_list_append_2 _ _) (AutoListH.list_append_list_val_0 _ ys.toArray bB pu (by rw[l1,sizeLine_eq];exact Nat.le_trans hz (by decide))) ⟨ci,?_⟩)
         obtain⟨n',hu'⟩:=seq_upd (f:=fun x=>x.push pu) (ys:=ys++[pu]) ci (List.push_toArray ..)
         exact wpAny_pure (wpAny_pure (hQ _ _ ⟨rfl,j,Nat.lt_succ_self _,⟨i+1,p.1,acc++[u],cC,cD,_,dH,rfl,x5.app b ci va hu (Heap.SameBut.update ..) hu' hz,hx⟩⟩))
end
end

section
open PySem PySem.W PySem.Calls PyProof.Rows

noncomputable abbrev lEm:Obj:=PySem.W.listOf (List.toArray []) 0
noncomputable abbrev dEm:Obj:={cls:=.type "dict",data:=.dict #[]}
noncomputable def CA (W:Wd) (A:Around) (env:Env) (ρ:Nat->Addr) (J:Store) (s:Shared) (P:Value->Addr->Shared->Prop) (v:V) (af:Store):Prop:=∀ am ai tk D C mm,Sx W A ρ J s.heap am af ai->VR am af.n v (.ref D)->Mine_ W A am af ai C->ai.Ns C mm->C≠env.locals->s.heap.objs.size<=C->P (.ref D) C (Shared.at_ s ai tk)
noncomputable def CR (W:Wd) (A:Around) (env:Env) (ρ:Nat->Addr) (J:Store) (s:Shared) (P:Value->Addr->Shared->Prop) (Ex:Value->Shared->Prop) (r:R V):Prop:=@R.rec V (fun _=>Prop) False (CA W A env ρ J s P) (fun af=>∀ ah h' tk e,Sx W A ρ J s.heap ah af h'->Fly W A ah af s.heap.objs.size e h'->Ex (.ref e) (Shared.at_ s h' tk)) r
section
variable {W:Wd} {A:Around} {X F:Addr->Prop} {ρ am aw ah bz:Nat->Addr} {J ad aq af bA:Store} {s:Shared} {h ai ar h' g:Heap} {c:Cx} {m m' m0:M} {env:Env} {E:Ev} {hd:Bool} {lo:Nat} {e a D:Addr} {k:IK} {i:Nat} {acc:List V} {tk:Nat}
theorem nc_none {kd:List (Nat×NameKind)}:∀ {cs acc:List (Nat×Nat)} {J:Store},closeC c kd=some cs->newCells kd acc J=(acc,J):=by
 induction kd using List.rec with
 | nil=>exact fun _=>rfl
 | cons y r ih=>
  intro cs acc J e
  obtain⟨y,kind⟩:=y
  induction kind using PySem.NameKind.casesOn with
  | free=>exact ocE e fun a _ e=>ocE e fun q hq _=>ih hq
  | cell=>cases e
  | _=>exact ih e
theorem isLo_at {o:Option NameKind} (h:isLo o=true):o=some .local:=by
 induction o using Option.casesOn with
 | none=>cases h
 | some k=>
  induction k using PySem.NameKind.casesOn with
  | «local»=>rfl
  | _=>cases h
theorem kdOk_iff {a:List (Nat×NameKind)} {l:List (Nat×NameKind)}:kdOk a l=true->∀ x∈l,x.2=.local->lk a x.1=some .local:=by
 induction l using List.rec with
 | nil=>exact fun _ x hx=>nomatch hx
 | cons y r ih=>
  intro e x hx hl
  obtain⟨y,kind⟩:=y
  have hx:=List.mem_cons.mp hx
  induction kind using PySem.NameKind.casesOn with
  | «local»=>
   have e:cn (isLo (lk a y)) (kdOk a r) false=true:=e
   revert e
   refine cn_el (P:=fun z=>z=true->_) (fun h1 e=>hx.elim (fun z=>?_) fun hx=>ih e x hx hl) fun _ e=>nomatch e
   rw[z];exact isLo_at h1
  | _=>exact hx.elim (fun z=>by rw[z] at hl;cases hl) fun hx=>ih e x hx hl
theorem relabel_names {n:Nat} (er:EnvR W ρ n c m env h) {kd:List (Nat×NameKind)} {scope:Scope} (hn:scope.names=kd.map fun y=>(W.nm y.1,y.2)):(relabel scope env).names=(ownKd c kd).map fun y=>(W.nm y.1,y.2):=by
 unfold relabel
 rw[hn]
 clear hn
 induction kd with
 | nil=>rfl
 | cons y r ih=>
  obtain⟨y,kind⟩:=y
  refine List.cons_eq_cons.mpr ⟨?_,ih⟩
  show(if (kind == NameKind.free && env.scope.kind == ScopeKind.function && env.kindOf (W.nm y) == some NameKind.cell)=true then (W.nm y,NameKind.cell) else (W.nm y,kind))=_
  rw[er.kind,er.kd y]
  induction kind using PySem.NameKind.casesOn with
  | free=>
   show _=(fun y:Nat×NameKind=>(W.nm y.1,y.2)) (cn (isCe (lk c.3 y)) (y,.cell) (y,.free))
   induction lk c.3 y using Option.casesOn with
   | none=>rfl
   | some k=>cases k<;>rfl
  | _=>rfl
theorem isCe_at {o:Option NameKind} (h:isCe o=true):o=some .cell:=by
 induction o using Option.casesOn with
 | none=>cases h
 | some k=>
  induction k using PySem.NameKind.casesOn with
  | cell=>rfl
  | _=>cases h
theorem ownKd_cell {kd:List (Nat×NameKind)}:∀ {cs:List (Nat×Nat)},closeC c kd=some cs->∀ {x:Nat},lk (ownKd c kd) x=some .cell->lk c.kd x=some .cell:=by
 induction kd using List.rec with
 | nil=>exact fun _ _ e=>nosome e
 | cons y r ih=>
  intro cs hc x e
  obtain⟨y,kind⟩:=y
  have e:cn (Nat.beq (nk kind (y,kind) (y,kind) (y,kind) (cn (isCe (lk c.3 y)) (y,.cell) (y,kind)) (y,kind)).1 x) (some (nk kind (y,kind) (y,kind) (y,kind) (cn (isCe (lk c.3 y)) (y,.cell) (y,kind)) (y,kind)).2) (lk (ownKd c r) x)=some NameKind.cell:=e
  revert e
  induction kind using PySem.NameKind.casesOn with
  | cell=>cases hc
  | free=>
   refine ocE hc fun a _ hc=>ocE hc fun q hq _=>?_
   show cn (Nat.beq (cn (isCe (lk c.3 y)) (y,.cell) (y,NameKind.free)).1 x) (some (cn (isCe (lk c.3 y)) (y,.cell) (y,NameKind.free)).2) (lk (ownKd c r) x)=some NameKind.cell->_
   refine cn_el (P:=fun z:Nat×NameKind=>cn (Nat.beq z.1 x) (some z.2) (lk (ownKd c r) x)=some NameKind.cell->_) (fun h=>?_) fun h=>?_
   ·refine cn_el (P:=fun z=>z=some NameKind.cell->_) (fun hy _=>?_) fun _ e=>ih hq e
    rw[<-Nat.eq_of_beq_eq_true hy];exact isCe_at h
   ·exact cn_el (P:=fun z=>z=some NameKind.cell->_) (fun hy e=>nomatch e) fun _ e=>ih hq e
  | _=>exact cn_el (P:=fun z=>z=some NameKind.cell->_) (fun hy e=>nomatch e) fun _ e=>ih hc e
theorem comp_all (ok:WdOk W) (I:SEv W E) (S0:Stt W c m env A ρ J s.heap) (elt:T) (g:G) (it:PySem.Expr) (ifs:List T) (rest:List Comprehension) (scope:Scope) (pos:Pos) (n:Nat) {v:V} {pv:Value} {kd:List (Nat×NameKind)} {cs:List (Nat×Nat)} {cl:List (Str×Addr)}
  (hv:VR ρ J.n v pv) (hi:iterOf c.hd J v=some k) (hcs:closeC c kd=some cs) (hcl:CsR W ρ J.n cs cl) (hk:scope.kind=.function) (hn:scope.names=kd.map fun y=>(W.nm y.1,y.2)) {P:Value->Addr->Result->Shared->Prop} {Ex:Value->Shared->Prop}
  (q:CR W A env ρ J s (fun v a=>P v a (.ok .next)) Ex (listR (compL E ⟨c.k,c.hd,ownKd c kd,cs⟩ elt g ifs (restB rest) k n 0 [] [] J))) :
  wpAny W.M A (pyIter pv) (fun it' bZ=>wpAny W.M A (newList []) (fun acc dY=>wpAny W.M A (newFunctionEnv scope env.globals cl [] env.qual none .none (some env)) (fun cenv dZ=>
   codeAny W.M A (.compStart (.ListComp (elt.dec W.nm) (⟨g.dec W.nm,it,T.decL W.nm ifs,0⟩::rest) scope pos) 0 it' acc {cenv with scope:=relabel scope env}) (P acc cenv.locals) dZ) Ex dY) Ex bZ) Ex s:=by
 have R0:=S0.rep
 refine iter_start R0 hv hi fun x nw=>?_
 rcases nw with ⟨hf,hT⟩
 have st1:Sx W A ρ J s.heap ρ J (s.heap.push x):=Stp.push R0 x
 have S1:=S0.step st1
 have Ma:=Mine_.new R0 S0.cst.fr x hf
 refine wpAny_newObj_type ?_ (by size_fits)
 have st2:Sx W A ρ J (s.heap.push x) ρ J ((s.heap.push x).push lEm):=Stp.push S1.rep lEm
 have S2:=S1.step st2
 have MD:=Mine_.new S1.rep S1.cst.fr lEm rfl
 obtain⟨Ma2,ea2⟩:=Ma.step S1.rep st2 id
 have hD2:((s.heap.push x).push lEm).get? (s.heap.push x).objs.size=some lEm:=Heap.get?_push_size _ rfl
 unfold newFunctionEnv
 refine wpAny_bind (wpAny_alloc ?_)
 have st3:Sx W A ρ J ((s.heap.push x).push lEm) ρ J (((s.heap.push x).push lEm).push dEm):=Stp.push S2.rep dEm
 have S3:=S2.step st3
 have MC:=Mine_.new S2.rep S2.cst.fr dEm rfl
 obtain⟨Ma3,ea3⟩:=Ma2.step S2.rep st3 id
 obtain⟨MD3,eD3⟩:=MD.step S2.rep st3 id
 rw[hn]
 refine wpAny_bind (cells_new (A:=A) ok _ (fun name kind cells=>by cases kind<;>rfl) kd cs cl (s:=Shared.at_ s (((s.heap.push x).push lEm).push dEm) s.toks) S3.rep hcl fun dK h4 cells' st4 H4=>?_)
 rw[nc_none hcs] at st4 H4
 have S4:=S3.step st4
 obtain⟨Ma4,ea4⟩:=Ma3.step S3.rep st4 id
 obtain⟨MD4,eD4⟩:=MD3.step S3.rep st4 id
 obtain⟨MC4,eC4⟩:=MC.step S3.rep st4 id
 refine wpAny_bind ?_
 rw[List.forIn_nil]
 refine wpAny_pure (wpAny_pure ?_)
 have sz1:(s.heap.push x).objs.size=s.heap.objs.size+1:=Heap.size_push ..
 have sz2:((s.heap.push x).push lEm).objs.size=s.heap.objs.size+1+1:=by rw[Heap.size_push,sz1]
 generalize hDe:(s.heap.push x).objs.size=D at *
 generalize hCe:((s.heap.push x).push lEm).objs.size=C at *
 have lD:s.heap.objs.size<D:=by rw[sz1];exact Nat.lt_succ_self _
 have lC:D<C:=by rw[sz2,sz1];exact Nat.lt_succ_self _
 have fresh:∀ b,s.heap.objs.size<=b->s.heap.get? b=none:=fun b hb=>get?_size' _ hb
 have ll:env.locals<s.heap.objs.size:=by
  obtain⟨o,hL,_⟩:=S0.er.isd
  exact Heap.lt_size hL
 have st04:Sx W A ρ J s.heap dK J h4:=((st1.trans R0 st2).trans R0 st3).trans R0 st4
 have hC4:h4.Ns C fun _=>none:=Ns.step S3.rep st4 (by rw[<-hCe];exact S2.rep.fresh) (fun z=>z) (by rw[<-hCe];exact Heap.Ns.new ((s.heap.push x).push lEm) (.type "dict"))
 have S5:Stt W ⟨c.k,c.hd,ownKd c kd,cs⟩ [] {scope:=relabel scope env,locals:=C,globals:=env.globals,cells:=cells',qual:=env.qual,func:=none,code:=env.code,frame:=env.frame,builtins:=env.builtins} A dK J h4:=
  ⟨S4.cst,⟨hk,fun y=>by show(relabel scope env).names.lookup (W.nm y)=_;rw[relabel_names S0.er hn];exact lookup_map ok (ownKd c kd) y,S4.er.glob,S4.er.bi,H4,fun z=>S4.er.code (ownKd_cell hcs z),⟨_,hC4,fun _ _ e=>nosome e⟩⟩,MC4.off,S4.top⟩
 have hT4:=((hT.move (ah:=ρ) (n':=J.n) (fun _ _=>rfl) (Nat.le_refl _) ea2).move (ah:=ρ) (n':=J.n) (fun _ _=>rfl) (Nat.le_refl _) ea3).move st4.agree st4.n ea4
 refine codeAny_compStart_list ?_ (iter_self (s:=Shared.at_ s h4 s.toks) hT4 ?_)
 all_goals
  refine comp_code ok I elt g it ifs rest scope pos n (aS:=s) (h1:=h4) (tk1:=s.toks) ⟨R0,fresh _ (Nat.le_refl _),fresh _ (Nat.le_of_lt lD),fresh _ (Nat.le_of_lt (Nat.lt_trans lD lC)),Nat.ne_of_lt lD,Nat.ne_of_lt (Nat.lt_trans lD lC),Nat.ne_of_lt lC,S0.cst.hd.new (fresh _ (Nat.le_refl _)),S0.cst.hd.new (fresh _ (Nat.le_of_lt lD))⟩ ⟨st04,S5,Ma4,hT4,MD4,⟨[],0,eD4.trans (eD3.trans hD2),.nil⟩,Nat.zero_le _⟩ ?_
  revert q
  induction compL E ⟨c.k,c.hd,ownKd c kd,cs⟩ elt g ifs (restB rest) k n 0 [] [] J using Mine.R.casesOn with
  | bad=>exact fun q=>q
  | exc af=>exact fun q=>q.elim
  | ok vs af=>
   intro q am ai tk aK st5 S6 MD5 ac hlen
   rcases ac with ⟨ys,bB,hD5,hv5⟩
   have stF:=Stp.followAt (o:=.list vs) st5 hD5 MD5.off (Nat.le_of_lt lD) ⟨ys,bB,by rw[rhoAt_self];exact hD5,hv5.mono (fun _ hl=>rhoAt_lt hl) (Nat.le_succ _),Nat.le_trans hlen (by decide)⟩ nofun
   obtain⟨o,ho,_⟩:=S6.er.isd
   rcases S6.er.ns with ⟨mm,N,_⟩
   refine q _ ai tk _ _ mm stF .alloc ⟨⟨o,ho⟩,⟨fun ⟨l,o,e,z⟩=>?_,S6.loc.base,S6.loc.pt⟩,MC.nf⟩ N (Nat.ne_of_gt (Nat.lt_trans ll (Nat.lt_trans lD lC))) (Nat.le_of_lt (Nat.lt_trans lD lC))
   refine add_el e (fun y _=>?_) fun e _=>?_
   ·rw[y,rhoAt_self] at z;exact absurd z (Nat.ne_of_lt lC)
   ·rw[rhoAt_lt (st5.rep.bd _ _ e)] at z
    exact S6.loc.trk ⟨l,o,e,z⟩
theorem comp_run (ok:WdOk W) (I:SEv W E) (S0:Stt W c m env A ρ J s.heap) (elt:T) (g:G) (it:T) (ifs:List T) (rest:List Comprehension) (kd:List (Nat×NameKind)) (more:List (Nat×Nat)) (p:Pos) (n:Nat) (use:Option (Value->Sem Unit)) {Q:Value->Shared->Prop} {Ex:Value->Shared->Prop}
  (q:CR W A env ρ J s (fun v a=>compPost W.M A Ex use Q v a (.ok .next)) Ex (compR E c elt g ifs rest kd n (E.e c m it J))) :
  wpAny W.M A (comprehension (.ListComp (elt.dec W.nm) (⟨g.dec W.nm,it.dec W.nm,T.decL W.nm ifs,0⟩::rest) (scopeOf W.nm kd more) p) (scopeOf W.nm kd more) env (it.dec W.nm).pos (newList []) false (eval (it.dec W.nm) env) use) Q Ex s:=by
 have q:CR W A env ρ J s (fun v a=>compPost W.M A Ex use Q v a (.ok .next)) Ex (oc (closeC c kd) .bad fun cs=>cn (kdOk kd kd) (bd (E.e c m it J) fun o J=>oc (iterOf c.2 J o) .bad fun o=>listR (compL E ⟨c.1,c.2,ownKd c kd,cs⟩ elt g ifs (restB rest) o n 0 [] [] J)) .bad):=q
 revert q
 induction hcs:closeC c kd using Option.casesOn with
 | none=>exact fun q=>q.elim
 | some cs=>
  show CR W A env ρ J s _ Ex (cn (kdOk kd kd) _ .bad)->_
  refine cn_el (P:=fun z=>CR W A env ρ J s _ Ex z->_) (fun hkd q=>?_) fun _ q=>q.elim
  obtain⟨cl,hcl,hcr⟩:=clos_ok (scope:=scopeOf W.nm kd more) S0.er rfl hcs
  refine wpAny_comprehension_free (M:=W.M) (A:=A) (E:=Ex) (s:=s) (env:=env) (Q:=Q) (pos:=(it.dec W.nm).pos) (newAcc:=newList []) (first:=eval (it.dec W.nm) env) (use:=use) rfl (fun x=>folded_eq it W.nm x) hcl rfl (fun y hy hl=>?_) (I.e it S0 _ _ ?_)
  ·obtain⟨z,hz,w⟩:=List.mem_map.mp hy
   rw[<-w] at hl ⊢
   exact(lookup_map ok kd z.1).trans (kdOk_iff hkd z hz hl)
  revert q
  induction E.e c m it J using Mine.R.casesOn with
  | bad=>exact fun q=>q
  | exc ad=>exact fun q=>q
  | ok v ad=>
   intro q am ai tk pv st hv
   have q:CR W A env ρ J s (fun v a=>compPost W.M A Ex use Q v a (.ok .next)) Ex (oc (iterOf c.2 ad v) .bad fun o=>listR (compL E ⟨c.1,c.2,ownKd c kd,cs⟩ elt g ifs (restB rest) o n 0 [] [] ad)):=q
   revert q
   induction hi:iterOf c.hd ad v using Option.casesOn with
   | none=>exact fun q=>q.elim
   | some k=>
    intro q
    have au:=S0.step st
    refine comp_all ok I (s:=Shared.at_ s ai tk) (P:=compPost W.M A Ex use Q) au elt g (it.dec W.nm) ifs rest (scopeOf W.nm kd more) p n hv hi hcs (hcr.mono st.agree st.n) rfl rfl ?_
    have q:CR W A env ρ J s (fun v a=>compPost W.M A Ex use Q v a (.ok .next)) Ex (listR (compL E ⟨c.1,c.2,ownKd c kd,cs⟩ elt g ifs (restB rest) k n 0 [] [] ad)):=q
    revert q
    induction listR (compL E ⟨c.1,c.2,ownKd c kd,cs⟩ elt g ifs (restB rest) k n 0 [] [] ad) using Mine.R.casesOn with
    | bad=>exact fun q=>q
    | exc af=>exact fun q ah h' tk e aj fl=>q ah h' tk e (st.trans S0.rep aj) (fl.low st.kept.size)
    | ok v af=>exact fun q am' ai' tk' D C mm aj hvD MC hN hl hC=>q am' ai' tk' D C mm (st.trans S0.rep aj) hvD MC hN hl (Nat.le_trans st.kept.size hC)
theorem Stp.gone (st:Sx W A ρ J h am ad ai) (R:Rep W ρ J h) {C:Addr} (MC:Mine_ W A am ad ai C) {mm:Str->Option Value} (hN:ai.Ns C mm) (hC:h.objs.size<=C) (hs:Heap.SameBut C ai h'):Sx W A ρ J h am ad h':=by
 obtain⟨oL,es,ep,hL,hLd,_⟩:=hN
 exact st.under2 R (Stp.one (oa:=oL) (F:=FrAt A) (X:=fun z=>z=C) st.rep MC.off hs (codeRec_sameBut hs hL fun vs q=>by rw[hLd] at q;cases q) rfl) (fun b hb=>.inl (by rw[hb];exact get?_size' _ hC)) fun b hb=>.inr hb
theorem e_comp (ok:WdOk W) (I:SEv W E) (S0:Stt W c m env A ρ J s.heap) (elt:T) (g:G) (it:T) (ifs:List T) (rest:List Comprehension) (kd:List (Nat×NameKind)) (more:List (Nat×Nat)) (p:Pos) (n:Nat) :
  WP W A (eval ((T.comp elt g it ifs rest kd more p).dec W.nm) env) VR (compR E c elt g ifs rest kd n (E.e c m it J)) ρ J s:=by
 intro Q Ex k
 refine comp_run ok I S0 elt g it ifs rest kd more p n none ?_
 revert k
 induction compR E c elt g ifs rest kd n (E.e c m it J) using Mine.R.casesOn with
 | bad=>exact fun k=>k
 | exc af=>exact fun k=>k
 | ok v af=>exact fun k am ai tk D C mm aj hvD MC hN hl hC=>⟨mm,hN,fun h' hs=>k am h' tk _ (aj.gone S0.rep MC hN hC hs) hvD⟩
theorem x_comp (ok:WdOk W) (I:SEv W E) (S0:Stt W c m env A ρ J s.heap) (elt:T) (g:G) (it:T) (ifs:List T) (rest:List Comprehension) (kd:List (Nat×NameKind)) (more:List (Nat×Nat)) (p:Pos) (n:Nat) (x:Nat) (np:Pos) :
  WX W A c env (comprehension (.ListComp (elt.dec W.nm) (⟨g.dec W.nm,it.dec W.nm,T.decL W.nm ifs,0⟩::rest) (scopeOf W.nm kd more) p) (scopeOf W.nm kd more) env (it.dec W.nm).pos (newList []) false (eval (it.dec W.nm) env) (some fun v=>assign (.Name (W.nm x) np) env v) >>= fun _=>pure .next)
   (tx m (compR E c elt g ifs rest kd n (E.e c m it J)) fun v J=>nxtP (storeN c m x v J)) ρ J s:=by
 intro Q Ex k
 refine wpAny_bind (comp_run ok I S0 elt g it ifs rest kd more p n _ ?_)
 revert k
 induction compR E c elt g ifs rest kd n (E.e c m it J) using Mine.R.casesOn with
 | bad=>exact fun k=>k
 | exc af=>exact fun k ah h' tk e st fl=>k ah h' tk e (S0.xs st) fl
 | ok v af=>
  show XP W A c env (oc (storeN c m x v af) .bad fun p=>.nxt p.1 p.2) ρ J s Q Ex->_
  induction hst:storeN c m x v af using Option.casesOn with
  | none=>exact fun k=>k.elim
  | some q=>
   intro k am ai tk D C mm aj hvD MC hN hl hC
   have aF:=S0.step aj
   show wpAny W.M A (assign (.Name (W.nm x) np) env (.ref D)) _ Ex _
   rw[arm_assign_Name]
   refine wpAny_bind (wpAny_standAt (wp_bindName ok (s:=Shared.at_ s ai tk) aF hvD hst fun aH aY ax aP=>?_))
   obtain⟨dL,eC⟩:=MC.step aF.rep ax hl
   obtain⟨o,es,ep,ho,hd,r⟩:=hN
   refine⟨mm,⟨o,es,ep,eC.trans ho,hd,r⟩,fun h' hs=>wpAny_pure ?_⟩
   obtain⟨aE,bg⟩:=aP.mine dL (eC.trans ho) (fun vs q t z=>by rw[hd] at z;cases z) hs hl (S0.cst.hd.new (get?_size' _ hC))
   exact k am h' aY ⟨(aj.toL.trans S0.rep ax).under2 S0.rep aE (fun z hz=>.inl (by rw[hz];exact get?_size' _ hC)) fun b hb=>.inr hb,bg.er⟩
theorem s_asg_comp (ok:WdOk W) (I:SEv W E) (S0:Stt W c m env A ρ J s.heap) (elt:T) (g:G) (it:T) (ifs:List T) (rest:List Comprehension) (kd:List (Nat×NameKind)) (more:List (Nat×Nat)) (p':Pos) (n:Nat) (x:Nat) (np:Pos) (p:Pos) :
  WX W A c env (PySem.exec (.Assign [.Name (W.nm x) np] ((T.comp elt g it ifs rest kd more p').dec W.nm) p) env) (tx m (compR E c elt g ifs rest kd n (E.e c m it J)) fun v J=>nxtP (storeN c m x v J)) ρ J s:=by
 rw[arm_exec_Assign]
 refine WX.standAt ?_
 obtain⟨b,hb⟩:∃ b,swapsWithSole [.Name (W.nm x) np] ((T.comp elt g it ifs rest kd more p').dec W.nm) p.line env=pure b:=⟨_,rfl⟩
 rw[hb,pure_bind]
 induction b using Bool.casesOn with
 | true=>
  show WX W A c env (evalThenUse (.ListComp (elt.dec W.nm) (⟨g.dec W.nm,it.dec W.nm,T.decL W.nm ifs,0⟩::rest) (scopeOf W.nm kd more) p') env (fun v=>assign (.Name (W.nm x) np) env v) >>= fun _=>pure .next) _ ρ J s
  rw[arm_evalThenUse_ListComp]
  exact rwl (p:=fun z=>WX W A c env z _ ρ J s) ((bind_assoc ..).trans (congrArg _ (funext fun _=>pure_bind ..))) (x_comp ok I S0 elt g it ifs rest kd more p' n x np)
 | false=>
  refine WX.bind S0 (e_comp ok I S0 elt g it ifs rest kd more p' n) fun am ai az pv v ad aG au hv=>?_
  show WX W A c env ((assign (.Name (W.nm x) np) env pv) >>= fun _=>pure .next) _ am ad (Shared.at_ s ai az)
  rw[arm_assign_Name,bind_assoc]
  exact WX.standAt (x_bind (s:=Shared.at_ s ai az) ok au hv)
end
end

section
open PySem PySem.W PySem.Calls PyProof.Rows

structure ExOk (W:Wd):Prop where
 exm:exmOne W.K (.ref W.P.cf) (.ref W.P.cf)=some true
section
variable {W:Wd} {A:Around} {X F:Addr->Prop} {ρ am aw ah bz:Nat->Addr} {J ad aq af bA:Store} {s:Shared} {h ai ar h' g:Heap} {c:Cx} {m m' m0:M} {env:Env} {E:Ev} {lo:Nat} {e a D:Addr} {tk:Nat}
theorem load_isCf {x:Nat} (q:isCf W.P c x=true):loadN W.P.gt c m x J=.ok (.top (.ref W.P.cf)) J:=by
 revert q
 show oc (lk c.kd x) false _=true->oc (lk c.kd x) R.bad _=_
 induction lk c.kd x using Option.casesOn with
 | none=>exact nofun
 | some k=>
  induction k using PySem.NameKind.casesOn with
  | globalImplicit=>
   show oc (W.P.gt x) false _=true->oc (W.P.gt x) R.bad _=_
   induction W.P.gt x using Option.casesOn with
   | none=>exact nofun
   | some v=>
    induction v using Mine.V.casesOn with
    | top w=>
     induction w using PySem.Value.casesOn with
     | ref r=>exact fun q=>by rw[<-Nat.eq_of_beq_eq_true q];rfl
     | _=>exact fun q=>by cases q
    | _=>exact fun q=>by cases q
  | _=>exact fun q=>by cases q
theorem Fly.exm (ok:WdOk W) (ex:ExOk W) (R:Rep W ρ J h) (f:Fly W A ρ J lo e h):Looks W.M h (excMatches (.ref e) (.ref W.P.cf)) true:=by
 rcases f.at_ with ⟨o,vs,ho,hc,_⟩
 refine exm_one (R.inK ok) (cls:=.ref W.P.cf) ?_ ex.exm
 refine(Looks.ld (M:=W.M) (part:=none) ho).andThen ?_
 rw[hc]
 exact Looks.of_pure rfl
theorem EnvR.hd {n:Nat} {b:Bool} (er:EnvR W ρ n ⟨c.k,b,c.kd,c.cs⟩ m env h):EnvR W ρ n c m env h:=⟨er.kind,er.kd,er.glob,er.bi,er.cs,er.code,er.ns⟩
theorem XS.hd {b:Bool} {q:Option Value} (x:XS W (A.mark q) ⟨c.k,b,c.kd,c.cs⟩ env ρ J h m ah af h'):XS W A c env ρ J h m ah af h':=by
 rcases x with ⟨st,er⟩
 exact⟨st,er.hd⟩
theorem Stt.held (S:Stt W c m env A ρ J h) (f:Fly W A ρ J lo e h):Stt W ⟨c.k,true,c.kd,c.cs⟩ m env (A.mark (some (.ref e))) ρ J h:=by
 rcases f.at_ with ⟨o,vs,a,_,d,_,h2,_⟩
 exact⟨⟨S.rep,S.cst.fr,S.cst.ne,S.cst.dep,S.cst.uni,.inr ⟨rfl,e,rfl,⟨o,vs,a,d,h2⟩,f.off,f.nf⟩⟩,⟨S.er.kind,S.er.kd,S.er.glob,S.er.bi,S.er.cs,S.er.code,S.er.ns⟩,S.loc,S.top⟩
theorem s_tryE (ok:WdOk W) (ex:ExOk W) (I:SEv W E) (S0:Stt W c m env A ρ J s.heap) (b:List S) (x:Nat) (np:Pos) (h0:S) (hr:List S) (hp p:Pos) :
  WX W A c env (PySem.exec (.Try (S.decL W.nm b) [.ExceptHandler (some (.Name (W.nm x) np)) none (S.decL W.nm (h0::hr)) hp] [] [] p) env) (cn (isCf W.P c x) (onExc (execs E c b m J) fun m J=>noExc (execs E ⟨c.k,true,c.kd,c.cs⟩ (h0::hr) m J)) .bad) ρ J s:=by
 refine WX.ifT fun hx=>?_
 intro Q Ex k
 refine wpAny_Try_except (prog:=W.prog) (w:=W.w) (A:=A) (E:=Ex) (s:=s) (env:=env) (body:=S.decL W.nm b) (orelse:=[]) (h₀:=.ExceptHandler (some (.Name (W.nm x) np)) none (S.decL W.nm (h0::hr)) hp) (hs:=[]) (pos:=p) (Q:=Q) (sound_execs I b S0 _ _ ?_)
 revert k
 induction execs E c b m J using Mine.X.casesOn with
 | bad=>exact fun k=>k
 | nxt aK ad=>exact fun k am ai tk x=>wpAny_execs_nil (k am ai tk x)
 | cnt aK ad=>exact fun k=>k
 | ret v aK ad=>exact fun k=>k
 | exc aK ad=>
  intro k am ai tk e x1 fl
  have S1:=S0.xs' x1
  obtain⟨aO,rest,hne,htop⟩:=S1.top
  refine wp_note (s:=Shared.at_ s ai tk) S1.rep S1.cst.fr hne htop x1.st.kept.size fl fun ar aj f1 _=>?_
  have x2:=S0.hi x1 aj
  refine wp_setFlight (s:=Shared.at_ s ar tk) x2.st.rep f1 none fun aH ax f2 _=>?_
  have x3:=S0.hi x2 ax
  have S3:=S0.xs' x3
  refine wpAny_handleBy_cons ?_ (ref_ne_byPass e)
  refine codeAny_handlers_test ?_
  have nm:=wp_name (s:=Shared.at_ s aH tk) ok (S3.held f2) x np
  rw[load_isCf (c:=⟨c.k,true,c.kd,c.cs⟩) hx] at nm
  refine nm _ _ fun bh bc bj pv aE hv=>?_
  have aE:Sx W A am ad aH bh ad bc:=aE
  have f3:=f2.step S3.rep aE fun _ _ _ z=>z
  have ht:pv=.ref W.P.cf:=by cases hv;rfl
  rw[ht]
  refine(f3.exm ok ex aE.rep).here ?_
  refine codeAny_handlers_suite ?_
  have x4:=x3.tr S0.rep (S3.xs (s:=Shared.at_ s aH tk) aE)
  refine wp_setFlight (A:=A.mark (some (.ref e))) (s:=Shared.at_ s bc bj) aE.rep (Fly.sub (A':=A) (fun _ z=>z) f3) none fun bE aV f4 _=>?_
  have f4:Fly W A bh ad s.heap.objs.size e bE:=Fly.sub (A':=A.mark (some (.ref e))) (fun _ z=>z) f4
  have x5:=S0.hi x4 aV
  refine sound_execs (s:=Shared.at_ s bE bj) I (h0::hr) ((S0.xs' x5).held f4) _ _ ?_
  have k:XP W A c env (noExc (execs E ⟨c.k,true,c.kd,c.cs⟩ (h0::hr) aK ad)) ρ J s Q Ex:=k
  revert k
  induction execs E ⟨c.k,true,c.kd,c.cs⟩ (h0::hr) aK ad using Mine.X.casesOn with
  | bad=>exact fun k=>k
  | exc br aq=>exact fun k=>k.elim
  | nxt br aq=>exact fun k aN aH aY y=>k aN aH aY (x5.tr S0.rep y.hd)
  | cnt br aq=>exact fun k aN aH aY y=>k aN aH aY (x5.tr S0.rep y.hd)
  | ret v br aq=>exact fun k aN aH aY pv y hv=>k aN aH aY pv (x5.tr S0.rep y.hd) hv
theorem HasTb.same (t:HasTb h e) (q:h'.get? e=h.get? e):HasTb h' e:=by
 obtain⟨o,vs,x,ho,r⟩:=t;exact⟨o,vs,x,q.trans ho,r⟩
theorem HasTb.step (t:HasTb h e) (st:Stp W (FrAt A) X ρ J h ah af h') (f:Fly W A ρ J lo e h) (x:¬ X e):HasTb h' e:=by
 obtain⟨o,vs,y,ho,r⟩:=t
 exact⟨o,vs,y,st.keptX ho f.off x f.nf,r⟩
theorem wp_passOn (R:Rep W ρ J s.heap) (f:Fly W A ρ J lo e s.heap) (tb:HasTb s.heap e) {what:String} {Q:Flow->Shared->Prop} {Ex:Value->Shared->Prop}
  (k:∀ h',Stp W (FrAt A) (hiX lo) ρ J s.heap ρ J h'->Fly W A ρ J lo e h'->Ex (.ref e) (Shared.at_ s h' s.toks)):wpAny W.M A (PySem.passOn what (.ref e) env:Sem Flow) Q Ex s:=by
 obtain⟨o,vs,t,he,hd,h1⟩:=tb
 unfold PySem.passOn
 refine wpAny_bind (wpAny_field he hd h1 ?_)
 rw[if_neg (show ¬ (Value.ref t == Value.none)=true from Bool.false_ne_true)]
 exact wpAny_bind (wp_setFlight R f env.frame fun h' st fl _=>wpAny_throw (k h' st fl))
theorem e_notL (S:Stt W c m env A ρ J h):∀ b,lo<=b->(∃ o vs,h.get? b=some o/\o.data=.fields vs)->¬ isL env b:=by
 rintro b _ ⟨o,vs,ho,hd⟩ z
 obtain⟨oL,hL,es,ep,hLd⟩:=S.er.isd
 rw[show b=env.locals from z,hL] at ho
 rw[<-Option.some.inj ho,hLd] at hd;cases hd
theorem fin_raised (I:SEv W E) (S0:Stt W c m env A ρ J s.heap) (f:List S) (x1:XS W A c env ρ J s.heap m' am ad ai) (fl:Fly W A am ad s.heap.objs.size e ai) {Q:Flow->Shared->Prop} {Ex:Value->Shared->Prop}
  (k:XP W A c env (only (execs E ⟨c.k,true,c.kd,c.cs⟩ f m' ad) .exc fun _ _=>.bad) am ad (Shared.at_ s ai tk) Q fun v s'=>v=v->True) (kk:∀ {br aq ah h' tk},XS W A c env ρ J s.heap br ah aq h'->Fly W A ah aq s.heap.objs.size e h'->execs E ⟨c.k,true,c.kd,c.cs⟩ f m' ad=.nxt br aq->Ex (.ref e) (Shared.at_ s h' tk)) :
  FinallyRaised W.prog W.w A Ex env (S.decL W.nm f) Q (.ref e) (Shared.at_ s ai tk):=by
 refine⟨ref_ne_byPass e,?_⟩
 have S1:=S0.xs' x1
 obtain⟨aO,rest,hfs,htop⟩:=S1.top
 refine wp_note (s:=Shared.at_ s ai tk) S1.rep S1.cst.fr hfs htop x1.st.kept.size fl fun ar aj f1 tb=>?_
 have x2:=S0.hi x1 aj
 refine wp_setFlight (s:=Shared.at_ s ar tk) x2.st.rep f1 none fun aH ax f2 dq=>?_
 have x3:=S0.hi x2 ax
 have S3:=S0.xs' x3
 have tb3:=tb.same dq
 refine sound_execs (s:=Shared.at_ s aH tk) I f (S3.held f2) _ _ ?_
 have k:XP W A c env (only (execs E ⟨c.k,true,c.kd,c.cs⟩ f m' ad) .exc fun _ _=>.bad) am ad (Shared.at_ s ai tk) Q _:=k
 revert k kk
 induction execs E ⟨c.k,true,c.kd,c.cs⟩ f m' ad using Mine.X.casesOn with
 | bad=>exact fun _ k=>k
 | exc br aq=>exact fun _ k=>k.elim
 | cnt br aq=>exact fun _ k=>k.elim
 | ret v br aq=>exact fun _ k=>k.elim
 | nxt br aq=>
  intro kk _ bh bc bj y
  have y:=y.hd
  have x4:=x3.tr S0.rep y
  have f4:=f2.step S3.rep y.st (e_notL S3)
  have tb4:=tb3.step y.st f2 (by
   rcases f2.at_ with ⟨o,vs,a,_,d,_⟩
   exact e_notL S3 e f2.lo ⟨o,vs,a,d⟩)
  exact wp_passOn (s:=Shared.at_ s bc bj) x4.st.rep f4 tb4 fun bE aV f5=>kk (S0.hi x4 aV) f5 rfl
theorem fin_noted (S0:Stt W c m env A ρ J s.heap) (x:XS W A c env ρ J s.heap m' am ad ai) (fl:Fly W A am ad s.heap.objs.size e ai) {Ex:Value->Shared->Prop}
  (k:∀ ah h' tk,XS W A c env ρ J s.heap m' ah ad h'->Fly W A ah ad s.heap.objs.size e h'->Ex (.ref e) (Shared.at_ s h' tk)):notedBy W.M A env (cameBackBy W.M A env Ex) (.ref e) (Shared.at_ s ai tk):=
 wp_noted S0 x fl fun ar x2 f2 ⟨e',q,tb⟩=>wp_cameBack (s:=Shared.at_ s ar tk) x2.st.rep f2 (Value.ref.inj q▸tb) fun aH ax f3=>k am aH tk (S0.hi x2 ax) f3
theorem s_tryF (I:SEv W E) (S0:Stt W c m env A ρ J s.heap) (b:List S) (f0:S) (f:List S) (p:Pos):WX W A c env (PySem.exec (.Try (S.decL W.nm b) [] [] (S.decL W.nm (f0::f)) p) env)
  (@Mine.X.rec (fun _=>Mine.X) .bad (execs E c (f0::f)) (fun _ _=>.bad) (fun v m J=>only (execs E c (f0::f) m J) (.ret v) .exc) (fun m J=>only (execs E ⟨c.k,true,c.kd,c.cs⟩ (f0::f) m J) .exc fun _ _=>.bad) (execs E c b m J)) ρ J s:=by
 intro Q Ex k
 refine wpAny_Try_finally (prog:=W.prog) (w:=W.w) (A:=A) (E:=Ex) (s:=s) (env:=env) (body:=S.decL W.nm b) (orelse:=[]) (f₀:=f0.dec W.nm) (fs:=S.decL W.nm f) (pos:=p) (Q:=Q) (sound_execs I b S0 _ _ ?_)
 revert k
 induction execs E c b m J using Mine.X.casesOn with
 | bad=>exact fun k=>k
 | cnt aK ad=>exact fun k=>k.elim
 | exc aK ad=>
  intro k am ai tk e x1 fl
  have S1:=S0.xs' x1
  obtain⟨aO,rest,hfs,htop⟩:=S1.top
  refine wp_note (s:=Shared.at_ s ai tk) S1.rep S1.cst.fr hfs htop x1.st.kept.size fl fun ar aj f1 _=>?_
  have k:XP W A c env (only (execs E ⟨c.k,true,c.kd,c.cs⟩ (f0::f) aK ad) .exc fun _ _=>.bad) ρ J s Q Ex:=k
  refine fin_raised I S0 (f0::f) (S0.hi x1 aj) f1 ?_ fun {br aq ah h' tk} x f hq=>?_
  ·revert k
   induction execs E ⟨c.k,true,c.kd,c.cs⟩ (f0::f) aK ad using Mine.X.casesOn with
   | nxt br aq=>exact fun _ _ _ _ _ _ _ _=>trivial
   | _=>exact fun k=>k.elim
  ·rw[hq] at k
   exact k ah h' tk _ x f
 | nxt aK ad=>
  intro k am ai tk x1
  refine wpAny_pure (sound_execs (s:=Shared.at_ s ai tk) I (f0::f) (S0.xs' x1) _ _ ?_)
  have k:XP W A c env (execs E c (f0::f) aK ad) ρ J s Q Ex:=k
  revert k
  induction execs E c (f0::f) aK ad using Mine.X.casesOn with
  | bad=>exact fun k=>k
  | nxt br aq=>exact fun k aw ar aA y=>k aw ar aA (x1.tr S0.rep y)
  | cnt br aq=>exact fun k aw ar aA y=>k aw ar aA (x1.tr S0.rep y)
  | ret v br aq=>exact fun k aw ar aA pv y hv=>k aw ar aA pv (x1.tr S0.rep y) hv
  | exc br aq=>exact fun k aw ar aA e y fl=>fin_noted S0 (x1.tr S0.rep y) (fl.low x1.st.kept.size) fun ah h' tk a c=>k ah h' tk e a c
 | ret v aK ad=>
  intro k am ai tk pv x1 hv
  refine sound_execs (s:=Shared.at_ s ai tk) I (f0::f) (S0.xs' x1) _ _ ?_
  have k:XP W A c env (only (execs E c (f0::f) aK ad) (.ret v) .exc) ρ J s Q Ex:=k
  revert k
  induction execs E c (f0::f) aK ad using Mine.X.casesOn with
  | bad=>exact fun k=>k
  | cnt br aq=>exact fun k=>k.elim
  | ret u br aq=>exact fun k=>k.elim
  | nxt br aq=>exact fun k aw ar aA y=>k aw ar aA pv (x1.tr S0.rep y) (hv.mono y.st.agree y.st.n)
  | exc br aq=>exact fun k aw ar aA e y fl=>fin_noted S0 (x1.tr S0.rep y) (fl.low x1.st.kept.size) fun ah h' tk a c=>k ah h' tk e a c
end
end

section
open PySem PySem.W PySem.Calls PyProof.Rows
open PySem.Builtin PySem.Builtin.ObjectAttr
structure OwnX (C:Addr) (h:Heap):Prop where
 obj:∃ nm q N bs bm hdct sn sub ab col dd k0 k1 k2 k3 k5,h.get? C=some (excClassObj nm q C N bs bm hdct sn sub ab col dd k0 k1 k2 k3 k5 "Exception.__new__") /\
  ∀ n:String,bm.contains (.type n)=[Value.type "Exception",.type "BaseException",.type "object"].contains (.type n)
theorem ne_contains {a b c:Bool} (h:a=false) (k:b=c):(a || b)=c:=by rw[h,k];rfl
theorem OwnX.keeps {C:Addr} {h h':Heap} (O:OwnX C h) (k:∀ b o,h.get? b=some o->h'.get? b=some o):OwnX C h':=by
 obtain⟨nm,q,N,bs,bm,hdct,sn,sub,ab,col,dd,k0,k1,k2,k3,k5,hC,r⟩:=O.obj
 exact⟨nm,q,N,bs,bm,hdct,sn,sub,ab,col,dd,k0,k1,k2,k3,k5,k _ _ hC,r⟩
noncomputable abbrev excTup (vs:List Value):Obj:={cls:=.type "tuple",data:=.seq vs.toArray}
noncomputable abbrev excObj (C t:Addr):Obj:={cls:=.ref C,data:=.fields #[.ref t,.none,.none,.none,.bool false,.none]}
noncomputable abbrev excHeap (h:Heap) (C:Addr) (vs:List Value):Heap:=(h.push (excTup vs)).push (excObj C h.objs.size)
section
variable {prog:Program} {w:World} {A:Around} {R:Result->Shared->Prop} {h:Heap} {g:Array GenState} {d:Drawn} {t:Nat} {os:OsState} {C:Addr}
theorem OwnX.check {E:Value->Shared->Prop} {Q:Unit->Shared->Prop} (O:OwnX C h) {vs:List Value} (k:Q () ⟨h,g,d,t,os⟩):wpAny (model prog w) A (checkBuiltinCall "Exception.__new__" ⟨.ref C::vs,[]⟩) Q E ⟨h,g,d,t,os⟩:=by
 obtain⟨nm,q,N,bs,bm,hdct,sn,sub,ab,col,dd,k0,k1,k2,k3,k5,hC,hT⟩:=O.obj
 have F:=PySem.F.excBase_Exception
 have h1:(Value.ref C::bm).contains (.type "Exception")=true:=by rw[List.contains_cons,hT];exact ne_contains rfl (by decide +kernel)
 have hstar:=F.noStar
 simp only[checkBuiltinCall,F.newKind,F.newSplit,F.newRow]
 repeat (first|refine wpAny_loadPart_at hC ?_|(refine wpAny_isSubtype_exc hC ?_;rw[h1])|refine wpAny_staticBase_exc hC ?_|refine wpAny_madeBy_exc hC ?_|simp only[bne_self_eq_false,Bool.false_eq_true,if_false]|wp_step)
 exact k
theorem OwnX.new (O:OwnX C h) {vs:List Value} (k:R (.ok (.ret (.ref (h.objs.size+1)))) ⟨excHeap h C vs,g,d,t,os⟩) (hvs:vs.length<=sizeLine) :
  codeAny (model prog w) A (.builtin "Exception.__new__" ⟨.ref C::vs,[]⟩) R ⟨h,g,d,t,os⟩:=by
 obtain⟨nm,q,N,bs,bm,hdct,sn,sub,ab,col,dd,k0,k1,k2,k3,k5,hC,hT⟩:=O.obj
 have F:=PySem.F.excBase_Exception
 have hends:=F.ends
 have h1:(Value.ref C::bm).contains (.type "Exception")=true:=by rw[List.contains_cons,hT];exact ne_contains rfl (by decide +kernel)
 have h2:(Value.ref C::bm).contains (.type "AttributeError")=false:=by rw[List.contains_cons,hT];exact ne_contains rfl (by decide +kernel)
 have h3:(Value.ref C::bm).contains (.type "NameError")=false:=by rw[List.contains_cons,hT];exact ne_contains rfl (by decide +kernel)
 refine codeAny_builtinAt F.entry ?_
 unfold Builtin.«BaseException.__new__»
 refine PySem.wpAt_bind ?_
 show PySem.wpAt _ _ _ (stack >>= _) _ _ _
 refine PySem.wpAt_bind (PySem.wpAt_stack fun p below=>PySem.wpAt_of_wpAny ?_)
 wp_walk
 refine PySem.wpAt_of_wpAny ?_
 rw[F.owner]
 repeat (first|with_reducible refine wpAny_madeHere_exc F.canon hC ?_|with_reducible refine wpAny_loadPart_at hC ?_|(with_reducible refine wpAny_isSubtype_exc hC ?_;first|rewrite[h1]|rewrite[h2]|rewrite[h3])|wp_step)
 show R _ _
 rw[Heap.size_push]
 exact k
theorem OwnX.make (O:OwnX C h) {vs:List Value} {fI:Addr} (hi:Looks (model prog w) h (typeLookup (.ref C) "__init__") (some (.ref fI))) (hb:∀ self,Looks (model prog w) h (bindSpecial (.ref fI) self) (.ref fI,[self])) (hvs:vs.length<=sizeLine)
  (k:codeAny (model prog w) (A.under (.builtin "type.__call__" ⟨.ref C::vs,[]⟩)) (.call (.ref fI) ⟨.ref (h.objs.size+1)::vs,[]⟩) (InitBack (h.objs.size+1) R) ⟨excHeap h C vs,g,d,t,os⟩) :
  codeAny (model prog w) A (.call (.ref C) ⟨vs,[]⟩) R ⟨h,g,d,t,os⟩:=by
 obtain⟨nm,q,N,bs,bm,hdct,sn,sub,ab,col,dd,k0,k1,k2,k3,k5,hC,hT⟩:=id O.obj
 have F:=PySem.F.excBase_Exception
 have f1:=tc_lookup
 have f2:=tc_bind (.ref C)
 have hY:(⟨h,g,d,t,os⟩:Shared).TypeIs (.ref C) "type":=⟨_,hC,rfl⟩
 refine codeAny_of_tree ?_
 show wpAny _ _ (callAny (.ref C) _) _ _ _
 repeat (any_goals (first|assumption|with_reducible refine wpAny_loadPart_at hC ?_|wp_step))
 refine⟨rfl,?_⟩
 refine codeAny_call_builtin_at (Code.quiet_builtin _ (by decide +kernel)) entry_typeCall (wpAny_check_type_call_sub hC ?_)
 unfold Builtin.«type.__call__»
 repeat (first|with_reducible refine wpAny_loadPart_at hC ?_|with_reducible refine wpAny_madeBy_exc hC ?_|wp_step)
 refine codeAny_call_builtin_code (Code.quiet_builtin _ F.quiet) (O.check ?_)
 refine O.new ?_ hvs
 show wpAny _ _ _ _ _ _
 have kp:∀ b o,h.get? b=some o->(excHeap h C vs).get? b=some o:=fun b o e=>Heap.get?_push_of_some _ (Heap.get?_push_of_some _ e)
 have dP:=kp _ _ hC
 have hget:(excHeap h C vs).get? (h.objs.size+1)=some (excObj C h.objs.size):=by
  have:=Heap.get?_push_size (h.push (excTup vs)) (o:=excObj C h.objs.size) rfl
  rw[Heap.size_push] at this;exact this
 have hcC:(Value.ref C::bm).contains (.ref C)=true:=by simp
 have hi':=hi.keeps kp
 have hb':=(hb (.ref (h.objs.size+1))).keeps kp
 unfold isInstance
 have t1:Looks (model prog w) (excHeap h C vs) (typeOf (.ref (h.objs.size+1))) (.ref C):=(Looks.ld hget).andThen .now
 refine wpAny_bind (wpAny_bind (t1.here (wpAny_isSubtype_exc dP ?_)))
 rw[hcC]
 dsimp only[Bool.not_true,Bool.false_eq_true,if_false]
 unfold callSpecial? specialOf
 refine wpAny_bind (wpAny_holding (wpAny_bind (wpAny_bind (t1.here (hi'.here (wpAny_holding ?_))))))
 repeat (first|with_reducible refine wpAny_loadPart_at hget ?_|with_reducible refine wpAny_call ?_|with_reducible refine hi'.here ?_|with_reducible refine hb'.here ?_|wp_step)
 refine codeAny_mono k fun r s' z=>?_
 induction r using Except.casesOn with
 | error e=>exact z
 | ok r=>
  induction r using Flow.casesOn with
  | ret v=>obtain⟨e,z⟩:=z;rw[e];exact wpAny_pure (wpAny_pure z)
  | _=>exact z.elim
end
noncomputable def excT:List Value:=[.type "Exception",.type "BaseException",.type "object"]
noncomputable def isRf (v:Value):Bool:=@Value.rec (fun _=>Bool) false false false (fun _=>false) (fun _ _=>false) (fun _ _=>false) (fun _ _=>false) (fun _ _=>false) (fun _=>false) (fun _=>false) (fun _=>true) v
noncomputable def onlyExc (l:List Value):Bool:=@List.rec Value (fun _=>Bool) false (fun v r ih=>(isRf v && ih) || decide (v::r=excT)) l
theorem onlyExc.ind {P:List Value->Prop} (h0:P [.type "Exception",.type "BaseException",.type "object"]) (h1:∀ c r,P r->P (.ref c::r)) {l:List Value} (h:onlyExc l=true):P l:=by
 induction l with
 | nil=>exact Bool.noConfusion h
 | cons v r ih=>
  rcases Bool.or_eq_true_iff.mp (show((isRf v && onlyExc r) || decide (v::r=excT))=true from h) with h|h
  ·have h:=Bool.and_eq_true_iff.mp h
   have hv:∃ c,v=.ref c:=by
    have h:=h.1
    induction v using PySem.Value.casesOn with
    | ref c=>exact⟨c,rfl⟩
    | _=>exact Bool.noConfusion h
   obtain⟨c,e⟩:=hv
   rw[e];exact h1 c r (ih h.2)
  ·rw[of_decide_eq_true h];exact h0
theorem refuse_exc (self:Value) {l:List Value} (h:onlyExc l=true):refuseLoop self "__setattr__" l=pure ():=
 onlyExc.ind (P:=fun l=>refuseLoop self "__setattr__" l=pure ()) (PySem.F.store_Exception.passes self) (fun c r e=>by rw[refuseLoop_ref];exact e) h
theorem exc_has {l:List Value} (h:onlyExc l=true):l.contains (.type "object")=true:=
 onlyExc.ind (P:=fun l=>l.contains (.type "object")=true) (by decide +kernel) (fun c r e=>by rw[List.contains_cons,e,Bool.or_true]) h
theorem exc_ne {l:List Value} (h:onlyExc l=true):l.isEmpty=false:=onlyExc.ind (P:=fun l=>l.isEmpty=false) rfl (fun _ _ _=>rfl) h
noncomputable def excOver (K:Frag) (C:Addr):Bool:=(clsIn K C).any fun cd=>onlyExc cd.mro
section
variable {prog:Program} {w:World} {A:Around} {K:Frag} {C x:Addr} {s:Shared} {R:Result->Shared->Prop}
theorem excSet {ox:Obj} {od:Option Obj} {name:Str} {tk:Tok} {v:Value} (X:K.In s.heap) (I:InstAt s.heap x ox C od) (hp:excOver K C=true) (ht:findIn K (.ref C) name=some none)
  (h:wpAny (model prog w) A.in1 (storeInOwnDict (.ref x) (.ref C) (.str name tk) name v false)
   (fun fin s'=>match fin with|.done f=>R (.ok f) s'|.again c'=>c'.quiet=true/\codeAny (model prog w) A c' R s') (fun e s'=>R (.error e) s') s) :
  codeAny (model prog w) A (.call (.builtin "object.__setattr__") ⟨[.ref x,.str name tk,v],[]⟩) R s:=by
 have SF:=PySem.F.store_object
 obtain⟨cd,hc,ho⟩:=any_some hp
 have sub:Looks (model prog w) s.heap (isInstance (.ref x) (.type "object")) true:=I.type.andThen (looks_mroIn X (by unfold mroIn;rw[hc,Option.bind_some,if_neg (by rw[exc_ne ho];decide),exc_has ho]))
 refine codeAny_call_builtin SF.slot.plain SF.entry (@check_slot (model prog w) _ _ s "object.__setattr__" "object" "__setattr__" (.ref x) [.str name tk,v] [] _ SF.kind SF.split sub (SF.args (.ref x) (.str name tk) v) ?_)
 have hm:Looks (model prog w) s.heap (mroOf (.ref C)) cd.mro:=(looks_clsIn X hc).andThen .now
 rw[osa_eq,refuse_eq]
 refine wpAny_bind (wpAny_bind (I.type.here (wpAny_bind (hm.here ?_))))
 rw[refuse_exc _ ho]
 exact wpAny_pure (wpAny_bind (I.type.here (wpAny_bind ((looks_findIn X ht).here (wpAny_bind (wpAny_pure h))))))
end
theorem notCode_dict (es:Array DictEntry) (ep:Nat):NotCode (dictOb es ep):=fun _ _ _ q=>by cases q
theorem putX_len (name:Str) (e:DictEntry) (xs:List DictEntry):(putX name e xs).length<=xs.length+1:=by
 induction xs with
 | nil=>exact Nat.le_refl _
 | cons x r ih=>
  show(cn (x.key.isStr name) ({x with val:=e.val}::r) (x::putX name e r)).length<=_
  exact cn_el (P:=fun z:List DictEntry=>z.length<=_) (fun _=>Nat.le_succ _) fun _=>Nat.succ_le_succ ih
theorem putX_ref (name:Str) (e:DictEntry) (he:e.refKey=false) (xs:List DictEntry):xs.any (·.refKey)=false->(putX name e xs).any (·.refKey)=false:=by
 induction xs with
 | nil=>exact fun _=>(List.any_cons ..).trans (Bool.or_eq_false_iff.mpr ⟨he,rfl⟩)
 | cons x r ih=>
  intro h
  have h:=Bool.or_eq_false_iff.mp ((List.any_cons ..).symm.trans h)
  show(cn (x.key.isStr name) ({x with val:=e.val}::r) (x::putX name e r)).any _=false
  exact cn_el (P:=fun z:List DictEntry=>z.any _=false) (fun _=>(List.any_cons ..).trans (Bool.or_eq_false_iff.mpr h)) fun _=>(List.any_cons ..).trans (Bool.or_eq_false_iff.mpr ⟨h.1,ih h.2⟩)
section
variable {W:Wd} {A:Around} {s:Shared}
theorem x_store {dx:Addr} {xs:List DictEntry} {ep:Nat} {name:Str} {tk:Tok} {v:Value} (hdx:s.heap.get? dx=some (dictOb xs.toArray ep)) (hnr:xs.any (·.refKey)=false) (hl:xs.length<=50) {Q:PySem.Fin->Shared->Prop} {Ex:Value->Shared->Prop}
  (k:∀ h' tk' (xs':List DictEntry) (ep':Nat),Heap.SameBut dx s.heap h'->h'.get? dx=some (dictOb xs'.toArray ep')->xs'.length<=xs.length+1->xs'.any (·.refKey)=false->Q (.done (.ret .none)) (Shared.at_ s h' tk')) :
  wpAny W.M A (storeInDict dx (.str name tk) name v) Q Ex s:=by
 obtain⟨ep',hput⟩:=putName_list name (PyData.keyHash W.w.params name) (.str name s.toks) v (.type "dict") none xs ep #[]
 have hu:(s.heap.update dx (Obj.putName name (PyData.keyHash W.w.params name) (.str name s.toks) v)).get? dx=some (dictOb (putX name ⟨PyData.keyHash W.w.params name,.str name s.toks,v⟩ xs).toArray ep'):=by
  rw[Heap.get?_update_self _ hdx (by rw[hput];rfl),hput]
 have hlen:=putX_len name ⟨PyData.keyHash W.w.params name,.str name s.toks,v⟩ xs
 refine wpAny_bind (wpAny_pure (wpAny_bind ?_))
 unfold nsSet
 refine wpAny_bind (wpAny_bind (wpAny_askSetting (wpAny_pure (wpAny_bind (wpAny_mkText (wpAny_bind (wpAny_loadPart hdx ?_)))))))
 dsimp only
 have c:aRefKeyMayBeTheName name xs.toArray=false:=by
  rw[aRefKeyMayBeTheName_at,List.any_toArray,List.any_toArray,hnr,Bool.and_false]
 rw[c]
 refine wpAny_updatePart hdx ?_
 refine wpAny_bind (wpAny_lookBehind hu (pastItsLine_dict (by rw[List.size_toArray,sizeLine_eq];exact Nat.le_add_right_of_le (Nat.le_trans hlen (Nat.lt_of_le_of_lt hl (by decide))))) ?_)
 exact wpAny_pure (k _ _ _ _ (Heap.SameBut.update ..) hu hlen (putX_ref _ _ rfl _ hnr))
end
section
variable {prog:Program} {w:World} {A:Around} {h:Heap} {g:Array GenState} {d:Drawn} {t:Nat} {os:OsState} {C e:Addr}
theorem OwnX.checkInit {E:Value->Shared->Prop} {Q:Unit->Shared->Prop} (O:OwnX C h) {oe:Obj} {vs:List Value} (he:h.get? e=some oe) (hcls:oe.cls=.ref C) (k:Q () ⟨h,g,d,t,os⟩) :
  wpAny (model prog w) A (checkBuiltinCall "Exception.__init__" ⟨.ref e::vs,[]⟩) Q E ⟨h,g,d,t,os⟩:=by
 obtain⟨nm,q,N,bs,bm,hdct,sn,sub,ab,col,dd,k0,k1,k2,k3,k5,hC,hT⟩:=O.obj
 have F:=PySem.F.excBase_Exception
 have h1:(Value.ref C::bm).contains (.type "Exception")=true:=by rw[List.contains_cons,hT];exact ne_contains rfl (by decide +kernel)
 have hshort:=F.noStar
 simp only[checkBuiltinCall,F.initKind,F.initSplit,F.initRow]
 repeat (first|(with_reducible refine wpAny_loadPart_at he ?_;rw[hcls])|with_reducible refine wpAny_loadPart_at hC ?_|(with_reducible refine wpAny_isSubtype_exc hC ?_;rw[h1])|wp_step)
 refine wpAny_onRaise ?_
 rw[show ∀ (a b:String) (n:Nat),Bind.check ⟨.positional, "*", "Exception",.self,[⟨"args",.varPos,false⟩]⟩ a b n (List.map (fun x=>x.fst) ({pos:=Value.ref e::vs}:Args).kw)=pure () from
  fun a b n=>check_star_args _ _ _ _ _ _]
 exact wpAny_pure k
theorem excInit {E:Value->Shared->Prop} {Q:Value->Shared->Prop} (O:OwnX C h) {di:Option Addr} {fs:Array Value} {sl:Array (Option Value)} {x:Addr} {v:Value} (he:h.get? e=some ⟨.ref C,di,.fields fs,sl⟩) (h0:fs[0]?=some (.ref x)) (hz:0<fs.size)
  (k:Q .none ⟨(h.push (excTup [v])).update e fun o=>PySem.Obj.mapFields (·.setIfInBounds 0 (.ref h.objs.size)) o,g,d,t,os⟩) :
  wpAny (model prog w) A (call (.builtin "Exception.__init__") [.ref e,v]) Q E ⟨h,g,d,t,os⟩:=by
 have F:=PySem.F.excBase_Exception
 refine wpAny_call (codeAny_call_builtin F.init.plain F.initEntry (O.checkInit he rfl ?_))
 unfold Builtin.«BaseException.__init__»
 have he1:(h.push (excTup [v])).get? e=some ⟨.ref C,di,.fields fs,sl⟩:=Heap.get?_push_of_some _ he
 wp_walk
 rw[h0]
 refine wpAny_pure (wpAny_bind (wpAny_setField he1 rfl hz ?_))
 wp_walk
 exact k
end
end

section
open PySem PySem.W PySem.Calls PyProof.Rows

noncomputable abbrev xX (A:Around) (lo:Nat):Addr->Prop:=fun b=>lo<=b/\¬ FrAt A b
inductive XD (W:Wd) (A:Around) (ρ:Nat->Addr) (J:Store) (lo n:Nat) (e:Addr) (h:Heap) (d:Option Addr):Prop
 |mk (dx:Addr) (xs:List DictEntry) (ep:Nat) (e1:d=some dx) (e2:h.get? dx=some (dictOb xs.toArray ep)) (e3:xs.any (·.refKey)=false) (e4:xs.length<=n) (e5:Off W ρ J dx) (e6:¬ FrAt A dx) (e7:lo<=dx) (e8:dx≠e)
noncomputable abbrev xO (C:Addr) (d:Option Addr) (vs:Array Value) (sl:Array (Option Value)):Obj:=⟨.ref C,d,.fields vs,sl⟩
inductive XobAt (W:Wd) (A:Around) (ρ:Nat->Addr) (J:Store) (C:Addr) (lo n:Nat) (e:Addr) (h:Heap):Prop
 |mk (d:Option Addr) (vs:Array Value) (sl:Array (Option Value)) (x:Addr) (he:h.get? e=some (xO C d vs sl)) (hz:6<=vs.size) (h0:vs[0]?=some (.ref x)) (h1:vs[1]?=some .none) (h2:vs[2]?=some .none) (hd:d=none\/XD W A ρ J lo n e h d)
structure Xob (W:Wd) (A:Around) (ρ:Nat->Addr) (J:Store) (C:Addr) (lo n:Nat) (e:Addr) (h:Heap):Prop where
 at_:XobAt W A ρ J C lo n e h
 off:Off W ρ J e
 nf:¬ FrAt A e
 lo:lo<=e
section
variable {W:Wd} {A A':Around} {X F:Addr->Prop} {ρ am aw ah:Nat->Addr} {J ad aq af:Store} {s:Shared} {h ai ar h':Heap} {c:Cx} {m m':M} {env:Env} {E:Ev} {lo n k:Nat} {hd:Bool} {e C:Addr} {as:List V} {xs:List Value}
theorem xnc {d:Option Addr} {vs:Array Value} {sl:Array (Option Value)} (h1:vs[1]?=some .none):NotCode (xO C d vs sl):=notCode_ref rfl h1 nofun
theorem x_setattr (ok:WdOk W) (R:Rep W ρ J s.heap) (f:Xob W A ρ J C lo n e s.heap) (hn:n<=10) (G:Frames W A ρ J s.heap) (hlo:lo<=s.heap.objs.size) {name:Str} {v:Value} (hs:findIn W.K (.ref C) "__setattr__" = some (some (.builtin "object.__setattr__"))) (hp:excOver W.K C=true) (ht:findIn W.K (.ref C) name=some none)
  (hh:(clsIn W.K C).any (·.hasDict)=true) {Q:Unit->Shared->Prop} {Ex:Value->Shared->Prop}
  (k:∀ h' tk,Stp W (FrAt A) (xX A lo) ρ J s.heap ρ J h'->Xob W A ρ J C lo (n+1) e h'->Q () (Shared.at_ s h' tk)):wpAny W.M A (setAttr (.ref e) name v) Q Ex s:=by
 obtain⟨⟨d,vs,sl,x,he,hz,h0,h1,h2,hd⟩,O,nf,hle⟩:=f
 have XK:=R.inK ok
 obtain⟨cd,hcd,hh⟩:=any_some hh
 rcases hd with rfl|⟨dx,xs,ep,rfl,hdx,hnr,hl,Od,nfd,hld,hde⟩
 ·refine set_plain (ox:=xO C none vs sl) (od:=none) XK ⟨he,rfl,rfl,trivial⟩ hs ?_
  refine excSet (s:={s with toks:=s.toks+1}) (ox:=xO C none vs sl) (od:=none) XK ⟨he,rfl,rfl,trivial⟩ hp ht ?_
  refine wpAny_bind (wpAny_pure (wpAny_bind (wpAny_bind (wpAny_loadPart he (wpAny_bind (looks_clsIn XK hcd _ _ _ _ (fun _ _ e=>e) ?_))))))
  rw[hh]
  have he1:(s.heap.push emptyDict).get? e=some (xO C none vs sl):=Heap.get?_push_of_some _ he
  have hd1:(s.heap.push emptyDict).get? s.heap.objs.size=some emptyDict:=Heap.get?_push_size _ rfl
  have hne:e≠s.heap.objs.size:=Nat.ne_of_lt (Heap.lt_size he)
  refine wpAny_bind (wpAny_alloc (wpAny_bind (wpAny_update he1 (wpAny_pure (a:=some s.heap.objs.size) ?_))))
  have st1:Stp W (FrAt A) (xX A lo) ρ J s.heap ρ J (s.heap.push emptyDict):=Stp.push R emptyDict
  have sb1:Heap.SameBut e (s.heap.push emptyDict) ((s.heap.push emptyDict).update e fun o=>{o with dict:=some s.heap.objs.size}):=Heap.SameBut.update ..
  have he2:((s.heap.push emptyDict).update e fun o=>{o with dict:=some s.heap.objs.size}).get? e=some (xO C (some s.heap.objs.size) vs sl):=Heap.get?_update_self _ he1 rfl
  have hd2:((s.heap.push emptyDict).update e fun o=>{o with dict:=some s.heap.objs.size}).get? s.heap.objs.size=some (dictOb ([]:List DictEntry).toArray 0):=(sb1.2 _ (Ne.symm hne)).trans hd1
  have st2:Stp W (FrAt A) (xX A lo) ρ J s.heap ρ J ((s.heap.push emptyDict).update e fun o=>{o with dict:=some s.heap.objs.size}):=st1.trans R (Stp.one (oa:=xO C none vs sl) st1.rep O sb1 (codeRec_not sb1 he1 (xnc h1)) ⟨hle,nf⟩)
  refine x_store (W:=W) (s:=⟨_,s.gens,s.drawn,s.toks+1,s.os⟩) hd2 rfl (Nat.zero_le _) fun h' tk' xs' ep' sb hdx' hl' hnr'=>?_
  have nfd:¬ FrAt A s.heap.objs.size:=G.notFr (get?_size _)
  have st:Stp W (FrAt A) (xX A lo) ρ J s.heap ρ J h':=st2.trans R (Stp.one (oa:=dictOb ([]:List DictEntry).toArray 0) st2.rep R.fresh sb (codeRec_not sb hd2 (notCode_dict _ _)) ⟨hlo,nfd⟩)
  exact k h' _ st ⟨⟨_,vs,sl,x,(sb.2 e hne).trans he2,hz,h0,h1,h2,.inr ⟨_,xs',ep',rfl,hdx',hnr',Nat.le_trans hl' (Nat.succ_le_succ (Nat.zero_le _)),R.fresh,nfd,hlo,Ne.symm hne⟩⟩,O,nf,hle⟩
 ·refine set_plain (ox:=xO C (some dx) vs sl) (od:=some (dictOb xs.toArray ep)) XK ⟨he,rfl,rfl,hdx⟩ hs ?_
  refine excSet (s:={s with toks:=s.toks+1}) (ox:=xO C (some dx) vs sl) (od:=some (dictOb xs.toArray ep)) XK ⟨he,rfl,rfl,hdx⟩ hp ht ?_
  refine wpAny_bind (wpAny_pure (wpAny_bind (wpAny_bind (wpAny_loadPart he (wpAny_bind (looks_clsIn XK hcd _ _ _ _ (fun _ _ e=>e) ?_))))))
  rw[hh]
  refine wpAny_pure (a:=some dx) (x_store (W:=W) (s:={s with toks:=s.toks+1}) hdx hnr (Nat.le_trans hl (Nat.le_trans hn (by decide))) fun h' tk' xs' ep' sb hdx' hl' hnr'=>?_)
  have st:Stp W (FrAt A) (xX A lo) ρ J s.heap ρ J h':=Stp.one (oa:=dictOb xs.toArray ep) R Od sb (codeRec_not sb hdx (notCode_dict _ _)) ⟨hld,nfd⟩
  exact k h' _ st ⟨⟨_,vs,sl,x,(sb.2 e (Ne.symm hde)).trans he,hz,h0,h1,h2,.inr ⟨dx,xs',ep',rfl,hdx',hnr',Nat.le_trans hl' (Nat.add_le_add_right hl _),Od,nfd,hld,hde⟩⟩,O,nf,hle⟩
theorem x_init (R:Rep W ρ J s.heap) (f:Xob W A ρ J C lo n e s.heap) (O:OwnX C W.h₀) {v:Value} {Q:Value->Shared->Prop} {Ex:Value->Shared->Prop}
  (k:∀ h',Stp W (FrAt A) (xX A lo) ρ J s.heap ρ J h'->Xob W A ρ J C lo n e h'->Q .none (Shared.at_ s h' s.toks)):wpAny W.M A (call (.builtin "Exception.__init__") [.ref e,v]) Q Ex s:=by
 obtain⟨⟨d,vs,sl,x,he,hz,h0,h1,h2,hd⟩,Of,nf,hle⟩:=f
 have he1:(s.heap.push (excTup [v])).get? e=some (xO C d vs sl):=Heap.get?_push_of_some _ he
 have lt:=Nat.lt_of_lt_of_le (show 0<6 from by decide) hz
 have sb:=Heap.SameBut.update (s.heap.push (excTup [v])) e fun o=>PySem.Obj.mapFields (·.setIfInBounds 0 (.ref s.heap.objs.size)) o
 refine excInit (O.keeps R.keep) he h0 lt (k _ ((Stp.push R _).trans R (Stp.one (oa:=xO C d vs sl) (R.push _) Of sb (codeRec_not sb he1 (xnc h1)) ⟨hle,nf⟩)) ⟨⟨d,vs.setIfInBounds 0 (.ref s.heap.objs.size),sl,s.heap.objs.size,Heap.get?_update_self _ he1 rfl,by rw[Array.size_setIfInBounds];exact hz,Array.getElem?_setIfInBounds_self_of_lt lt,
  (Array.getElem?_setIfInBounds_ne (by decide)).trans h1,(Array.getElem?_setIfInBounds_ne (by decide)).trans h2,?_⟩,Of,nf,hle⟩)
 refine hd.imp id fun ⟨dx,xs,ep,e1,e2,e3,e4,e5,e6,e7,e8⟩=>⟨dx,xs,ep,e1,?_,e3,e4,e5,e6,e7,e8⟩
 exact(sb.2 dx e8).trans (Heap.get?_push_of_some _ e2)
noncomputable def nmV {α:Type} (t:T) (a:α) (f:Nat->α):α:=@T.rec (fun _=>α) (fun _=>Unit) (fun _=>Unit) (fun _ _=>a) (fun _ _ _=>a) (fun _ _ _=>a) (fun _ _ _=>a) (fun x _=>f x) (fun _ _ _ _=>a) (fun _ _ _ _ _=>a) (fun _ _ _ _ _ _ _=>a) (fun _ _ _ _ _=>a) (fun _ _ _ _ _ _ _ _=>a) (fun _ _ _=>a) (fun _ _ _=>a) (fun _ _ _=>a) (fun _ _ _=>a) (fun _ _ _ _ _ _=>a) (fun _ _ _ _ _ _=>a) (fun _ _ _ _ _ _ _=>a) (fun _ _ _=>a) (fun _ _ _ _=>a) (fun _ _ _ _ _=>a) (fun _ _ _ _ _ _ _ _ _ _ _=>a) () (fun _ _ _ _=>()) () (fun _ _=>()) t
noncomputable def Ename (W:Wd):Ev:=⟨fun c m t J=>nmV t .bad fun x=>loadN W.P.gt c m x J,fun _ _ _ _=>.bad,fun _ _ _ _=>.bad,fun _ _ _ _ _=>.bad⟩
theorem WC.bad {f:Value}:WC W A (.call f ⟨xs,[]⟩) .bad ρ J s:=fun _ q=>q.elim
theorem I_name (ok:WdOk W):SEv W (Ename W):=by
 refine⟨fun t S=>?_,fun t S=>WP.bad,fun t S=>WX.bad,fun _ _ h=>absurd rfl h,fun _ _ _=>WC.bad,fun _ _ _=>WP.bad⟩
 induction t using Mine.T.casesOn with
 | name x p=>exact wp_name ok S x p
 | _=>exact WP.bad
theorem Xob.step (R:Rep W ρ J h) (st:Sx W A ρ J h ah af h') (f:Xob W A ρ J C lo n e h):Xob W A ah af C lo n e h':=by
 obtain⟨⟨d,vs,sl,x,he,hz,h0,h1,h2,hd⟩,O,nf,hle⟩:=f
 exact⟨⟨d,vs,sl,x,st.keptX he O id nf,hz,h0,h1,h2,hd.imp id fun ⟨dx,xs,ep,e1,e2,e3,e4,e5,e6,e7,e8⟩=>⟨dx,xs,ep,e1,st.keptX e2 e5 id e6,e3,e4,e5.step R st e2,e6,e7,e8⟩⟩,O.step R st he,nf,hle⟩
theorem Xob.sub (f:Xob W A ρ J C lo n e h) (q:∀ b o,h.get? b=some o->¬ FrAt A b->¬ FrAt A' b):Xob W A' ρ J C lo n e h:=by
 obtain⟨⟨d,vs,sl,x,he,hz,h0,h1,h2,hd⟩,O,nf,hle⟩:=f
 exact⟨⟨d,vs,sl,x,he,hz,h0,h1,h2,hd.imp id fun ⟨dx,xs,ep,e1,e2,e3,e4,e5,e6,e7,e8⟩=>⟨dx,xs,ep,e1,e2,e3,e4,e5,q _ _ e2 e6,e7,e8⟩⟩,O,q _ _ he nf,hle⟩
theorem Xob.fly (f:Xob W A ρ J W.P.cf lo n e h):Fly W A ρ J lo e h:=by
 obtain⟨⟨d,vs,sl,x,he,hz,h0,h1,h2,hd⟩,O,nf,hle⟩:=f
 exact⟨⟨_,vs,he,rfl,rfl,hz,h2,.inl h1⟩,O,nf,hle⟩
theorem Stt.xstep (S:Stt W c m env A ρ J h) (hh:A.handled=none) (hf:env.frame=some env.locals) (st:Stp W (FrAt A) (xX A lo) ρ J h ah af h'):Stt W c m env A ah af h':=by
 obtain⟨o,ho,_⟩:=S.er.isd
 have fL:FrAt A env.locals:=by
  obtain⟨aO,rest,q,t⟩:=S.top
  exact⟨aO,⟨_,q,.head _⟩,t.symm.trans hf⟩
 exact⟨⟨st.rep,S.cst.fr.step S.rep st fun b fb xb=>absurd fb xb.2,S.cst.ne,S.cst.dep,S.cst.uni,.inl hh⟩,S.er.step S.rep st S.loc (fun z=>z.2 fL),S.loc.step S.rep st ho,S.top⟩
theorem toXX (st:Sx W A ρ J h ah af h'):Stp W (FrAt A) (xX A lo) ρ J h ah af h':=st.weak (fun _ x=>x) fun _ x=>x.elim
noncomputable def XRun (W:Wd) (C:Addr) (k n n':Nat) (f:Value):Prop:=
 (∀ h,W.K.In h->Kp W h f) /\
 ∀ {A:Around} {ρ:Nat->Addr} {J:Store} {s:Shared} {lo:Nat} {e:Addr} {v:V} {pv:Value},Cst W k false A ρ J s.heap->Xob W A ρ J C lo n e s.heap->lo<=s.heap.objs.size->VR ρ J.n v pv ->
  ∀ {Q:Value->Shared->Prop} {Ex:Value->Shared->Prop},(∀ ah h' tk,Stp W (FrAt A) (xX A lo) ρ J s.heap ah J h'->Xob W A ah J C lo n' e h'->Q .none (Shared.at_ s h' tk))->wpAny W.M A (call f [.ref e,pv]) Q Ex s
noncomputable def XGet (W:Wd) (v f:Value) (name:Str):Prop:=∀ {A:Around} {s:Shared} {pl:Sem Bool} {Q:Value×List Value->Shared->Prop} {Ex:Value->Shared->Prop},W.K.In s.heap->Q (f,[]) {s with toks:=s.toks+1}->wpAny W.M A (getMethod v name pl) Q Ex s
theorem VRs.pair {n:Nat} {a b:V} {xs:List Value} {P:List Value->Prop} (h:VRs ρ n [a,b] xs) (k:∀ x y,VR ρ n a x->VR ρ n b y->P [x,y]):P xs:=h.elC fun x _ h1 h=>h.elC (P:=fun z=>P (x::z)) fun y _ h2 h=>h.elN (P:=fun z=>P (x::y::z)) (k x y h1 h2)
theorem ld_local {x:Nat} {v:V} (a:lk c.kd x=some .local) (b:lk m x=some v):loadN W.P.gt c m x J=.ok v J:=by
 show oc (lk c.kd x) R.bad _=_
 rw[a]
 show okO (lk m x) J=_
 rw[b]
 rfl
end
end

section
open PySem PySem.W PySem.Calls PyProof.Rows

section
variable {W:Wd} {A A':Around} {X F:Addr->Prop} {ρ am aw ah:Nat->Addr} {J ad aq af:Store} {s:Shared} {h ai ar h':Heap} {c:Cx} {m m':M} {env:Env} {E:Ev} {lo n k:Nat} {hd:Bool} {e C:Addr} {as:List V} {xs:List Value}
theorem wp_enter (ok:WdOk W) {a:Nat} {d:FD} (fo:FnOk W a d) (C:Cst W (k+1) hd A ρ J s.heap) (hv:VRs ρ J.n as xs) (hl:d.ps.length=as.length)
  {p:M×Store} {cs:List (Nat×Nat)} {d6:Store} (hc:newCells d.kd [] J=(cs,d6)) (hp:bindPs ⟨k,hd,d.kd,cs⟩ d.ps as [] d6=some p) {T:Result->Shared->Prop}
  (q:∀ env ah h' tk,env.frame=some env.locals->s.heap.get? env.locals=none->Sx W A ρ J s.heap ah p.2 h'->Stt W ⟨k,hd,d.kd,cs⟩ p.1 env (A.deeper env) ah p.2 h' ->
   wpAny W.M (A.deeper env) (PySem.execs (S.decL W.nm d.body) env) (fun f s'=>T (.ok (.ret (match f with|.ret v=>v|_=>.none))) s') (fun e s'=>wpAny W.M (A.deeper env) (leaving env e) (fun _ s''=>T (.error e) s'') (fun e' s''=>T (.error e') s'') s') (Shared.at_ s h' tk)) :
  codeAny W.M A (.call (.ref a) ⟨xs,[]⟩) T s:=by
 rcases fo with ⟨oc,od,osl,fd,dvs,ho,k1,k2,k3,k4,k5,k6,k7,k8,k9,k10,k11,k12,k13⟩
 have XK:=C.rep.inK ok
 have hp':bindPs ⟨k,hd,d.kd,(newCells d.kd [] J).1⟩ d.ps as [] (newCells d.kd [] J).2=some p:=by rw[hc];exact hp
 refine codeAny_call_function (by have:=C.dep;unfold recursionLimit;omega) (XK a _ ho) rfl k4 k3 k1 (codeRec_of XK k9) ((k13 s xs XK).1 (by rw[hl];exact hv.length) _ _ _ _ ?_)
 rw[k6,k7]
 refine env_new (A:=A.in1) (cs0:=[]) ok C.rep k2 k5 (fun x a e=>nosome e) hv k11 hp' fun env ah h' tk e2 e3 st B=>⟨B.rep.noLimit ok,?_⟩
 have hf:env.frame=some env.locals:=by rw[e3,e2]
 have hnone:s.heap.get? env.locals=none:=by rw[e2];exact get?_size _
 have au:=C.enter st B hf hnone
 rw[hc] at au
 exact codeAny_func (q env ah h' tk hf hnone st au)
theorem x_blk (ok:WdOk W) (S0:Stt W c m env A ρ J s.heap) (hcd:c.hd=false) (hf:env.frame=some env.locals) (Xo:Xob W A ρ J C lo n e s.heap) {bW:Nat} (hn:bW<=10) (hlo:lo<=s.heap.objs.size)
  {xE fI xs xt xd g:Nat} {p1 p2 p3 p4 p5 p6 p7 p8 p9 p10:Pos} {vE f:Value} {vt vd:V} (hp:(p2.endLine == p5.line)=true)
  (kE:loadN W.P.gt c m xE J=.ok (.top vE) J) (ks:lk c.kd xs=some .local) (ms:lk m xs=some (.top (.ref e))) (kt:lk c.kd xt=some .local) (mt:lk m xt=some vt) (kd:lk c.kd xd=some .local) (md:lk m xd=some vd)
  (G:XGet W vE f (W.nm fI)) (H:XRun W C c.k n bW f) (hs:findIn W.K (.ref C) "__setattr__" = some (some (.builtin "object.__setattr__"))) (hpo:excOver W.K C=true) (ht:findIn W.K (.ref C) (W.nm g)=some none)
  (hh:(clsIn W.K C).any (·.hasDict)=true) {Q:Flow->Shared->Prop} {Ex:Value->Shared->Prop}
  (k:∀ ah h' tk,Stp W (FrAt A) (xX A lo) ρ J s.heap ah J h'->Xob W A ah J C lo (bW+1) e h'->Q .next (Shared.at_ s h' tk)) :
  wpAny W.M A (PySem.execs (S.decL W.nm [.expr (.meth (.name xE p1) fI p2 [.name xs p3,.name xt p4] p5) p6,.asg (.at_ (.name xs p7) g p8) (.name xd p9) p10]) env) Q Ex s:=by
 have hnone:A.handled=none:=S0.cst.hd0 hcd
 show wpAny W.M A (PySem.exec (.Expr (T.dec W.nm (.meth (.name xE p1) fI p2 [.name xs p3,.name xt p4] p5)) p6) env >>= fun fl=>match fl with|Flow.next=>PySem.execs (S.decL W.nm [.asg (.at_ (.name xs p7) g p8) (.name xd p9) p10]) env|f=>pure f) Q Ex s
 refine wpAny_bind ?_
 rw[arm_exec_Expr]
 have hi:interactive env=false:=by unfold interactive;rw[S0.er.kind];rfl
 refine wpAny_bind (wpAny_standAt ?_)
 rw[hi,swaps_none (.meth (.name xE p1) fI p2 [.name xs p3,.name xt p4] p5) rfl,pure_bind]
 refine wpAny_bind ?_
 show wpAny W.M A (eval (.Call (.Attribute (T.dec W.nm (.name xE p1)) (W.nm fI) p2) (T.decL W.nm [.name xs p3,.name xt p4]) [] p5) env) _ Ex s
 rw[arm_eval_Call,base_eq ok]
 refine wpAny_bind ?_
 have q1:=wp_name ok S0 xE p1
 rw[kE] at q1
 refine q1 _ _ fun am ai az pe aG he=>?_
 have au:=S0.step aG
 have X1:=Xo.step S0.rep aG
 refine wpAny_bind (wpAny_standAt ?_)
 have hpe:pe=vE:=by cases he;rfl
 rw[hpe]
 have hform:=form_ok W.nm p5 [.name xs p3,.name xt p4] env (show 2<=20 from by decide)
 refine meth_via (s:=Shared.at_ s ai az) (b:=⟨ai,s.gens,s.drawn,az+1,s.os⟩) (f:=f) (first:=[]) hform hp (fun pl Q Ex z=>G (s:=Shared.at_ s ai az) (au.rep.inK ok) z) ?_
 have ea:evs (Ename W) c m [.name xs p3,.name xt p4] J=.ok [.top (.ref e),vt] J:=by
  show bd (loadN W.P.gt c m xs J) _=_
  rw[ld_local ks ms]
  show bd (bd (loadN W.P.gt c m xt J) _) _=_
  rw[ld_local kt mt]
  rfl
 have q2:=e_args (s:=⟨ai,s.gens,s.drawn,az+1,s.os⟩) (I_name ok) au f p5 [.name xs p3,.name xt p4]
 rw[ea] at q2
 refine callWith_of (P:=fun h=>Kp W h f) (by rw[star_plain];rfl) (fun _ q=>q) ?_
 refine q2 _ _ fun aw ar aQ a aj ra=>⟨H.1 ar (aj.rep.inK ok),?_⟩
 obtain⟨ak,av⟩:=ra
 rw[ak]
 have aF:=au.step aj
 have X2:=X1.step au.rep aj
 refine VRs.pair (P:=fun z=>wpAny W.M A (call f ([]++z)) _ _ _) av fun y1 y2 v1 v2=>?_
 have e1:y1=.ref e:=by cases v1;rfl
 rw[e1]
 have st12:=aG.trans S0.rep aj
 have hC:=aF.cst
 rw[hcd] at hC
 refine H.2 (s:=Shared.at_ s ar aQ) hC X2 (Nat.le_trans hlo st12.kept.size) v2 fun aN aH a9 ax X3=>?_
 have aP:=aF.xstep hnone hf ax
 have st123:=(toXX (lo:=lo) st12).trans S0.rep ax
 refine wpAny_dropValue ?_
 show wpAny W.M A (PySem.exec (.Assign [.Attribute (T.dec W.nm (.name xs p7)) (W.nm g) p8] (T.dec W.nm (.name xd p9)) p10) env >>= fun fl=>match fl with|Flow.next=>PySem.execs (S.decL W.nm []) env|f=>pure f) Q Ex _
 refine wpAny_bind ?_
 rw[arm_exec_Assign]
 refine wpAny_bind (wpAny_standAt ?_)
 show wpAny W.M A (swapsWith (T.dec W.nm (.name xd p9)) (some (.Attribute (T.dec W.nm (.name xs p7)) (W.nm g) p8)) p10.line env >>= fun b=>_) _ Ex _
 rw[swaps_at,pure_bind]
 refine wpAny_bind ?_
 have q3:=wp_name (s:=Shared.at_ s aH a9) ok aP xd p9
 rw[ld_local kd md] at q3
 refine q3 _ _ fun bh bc bX pd aE vd'=>?_
 have bg:=aP.step aE
 have X4:=X3.step aP.rep aE
 show wpAny W.M A (assign (.Attribute (T.dec W.nm (.name xs p7)) (W.nm g) p8) env pd >>= fun _=>pure Flow.next) _ Ex _
 rw[arm_assign_Attribute,bind_assoc]
 refine wpAny_bind (wpAny_holding ?_)
 have q4:=wp_name (s:=Shared.at_ s bc bX) ok bg xs p7
 rw[ld_local ks ms] at q4
 refine q4 _ _ fun cC bE cQ po aV vo=>?_
 have bG:=bg.step aV
 have X5:=X4.step bg.rep aV
 have e2:po=.ref e:=by cases vo;rfl
 rw[e2,bind_assoc]
 refine wpAny_bind (wpAny_standAt ?_)
 have st15:=(st123.trans S0.rep (toXX aE)).trans S0.rep (toXX aV)
 rw[bind_assoc]
 refine wpAny_bind (wpAny_holding ?_)
 refine x_setattr (s:=Shared.at_ s bE cQ) ok bG.rep X5 hn bG.cst.fr (Nat.le_trans hlo st15.kept.size) hs hpo ht hh fun ef eg cj ei=>?_
 refine wpAny_bind (wpAny_release ?_)
 refine wpAny_pure ?_
 exact wpAny_execs_nil (k _ ef eg (st15.trans S0.rep cj) ei)
theorem x_call (ok:WdOk W) {a:Nat} {d:FD} (fo:FnOk W a d) (bn:Cst W (k+1) false A ρ J s.heap) (hv:VRs ρ J.n as xs) (hl:d.ps.length=as.length) {m:M} (hc:newCells d.kd [] J=([],J)) (hb:bindPs ⟨k,false,d.kd,[]⟩ d.ps as [] J=some (m,J))
  (Xo:Xob W A ρ J C lo n e s.heap) {bW:Nat} (hn:bW<=10) (hlo:lo<=s.heap.objs.size)
  {xE fI ns nt nd g:Nat} {p1 p2 p3 p4 p5 p6 p7 p8 p9 p10:Pos} {vE f:Value} {vt vd:V} (hbody:d.body=[.expr (.meth (.name xE p1) fI p2 [.name ns p3,.name nt p4] p5) p6,.asg (.at_ (.name ns p7) g p8) (.name nd p9) p10]) (hp:(p2.endLine == p5.line)=true)
  (kE:lk d.kd xE=some .globalImplicit) (gE:W.P.gt xE=some (.top vE)) (ks:lk d.kd ns=some .local) (ms:lk m ns=some (.top (.ref e))) (kt:lk d.kd nt=some .local) (mt:lk m nt=some vt) (kd:lk d.kd nd=some .local) (md:lk m nd=some vd)
  (G:XGet W vE f (W.nm fI)) (H:XRun W C k n bW f) (hs:findIn W.K (.ref C) "__setattr__" = some (some (.builtin "object.__setattr__"))) (hpo:excOver W.K C=true) (ht:findIn W.K (.ref C) (W.nm g)=some none)
  (hh:(clsIn W.K C).any (·.hasDict)=true) {T:Result->Shared->Prop}
  (q:∀ ah h' tk,Stp W (FrAt A) (xX A lo) ρ J s.heap ah J h'->Xob W A ah J C lo (bW+1) e h'->T (.ok (.ret .none)) (Shared.at_ s h' tk)):codeAny W.M A (.call (.ref a) ⟨xs,[]⟩) T s:=by
 refine wp_enter ok fo bn hv hl hc hb fun env ah h' tk hf hnone st S1=>?_
 rw[hbody]
 have sub:∀ b,FrAt (A.deeper env) b->s.heap.get? b=none\/FrAt A b:=fun b q=>(FrAt.deeper q).imp (fun z=>by rw[hf] at z;rw[<-Option.some.inj z];exact hnone) id
 have X1:=(Xo.sub (A':=A.deeper env) fun b o eb nf z=>(sub b z).elim (fun y=>by rw[y] at eb;cases eb) nf).step bn.rep (st.weak (fun _ x=>FrAt.tail x) fun _ x=>x)
 refine x_blk (s:=Shared.at_ s h' tk) (c:=⟨k,false,d.kd,[]⟩) ok S1 rfl hf X1 hn (Nat.le_trans hlo st.kept.size) hp (by show oc (lk d.kd xE) R.bad _=_;rw[kE];show okO (W.P.gt xE) J=_;rw[gE];rfl) ks ms kt mt kd md G H hs hpo ht hh fun aw ar aA aj X2=>?_
 exact q aw ar aA ((toXX (lo:=lo) st).under2 bn.rep aj (fun b z=>.inr ⟨z.1,fun w=>z.2 (FrAt.tail w)⟩) sub) (X2.sub fun b _ _ nf z=>nf (FrAt.tail z))
inductive IniC (W:Wd) (AE:Addr) (i2:Nat) (d1:FD):Prop
 |mk (xE fI ns nl nt g:Nat) (p1 p2 p3 p4 p5 p6 p7 p8 p9 p10:Pos) (e1:d1.ps=[ns,nl,nt]) (e2:d1.body=[.expr (.meth (.name xE p1) fI p2 [.name ns p3,.name nt p4] p5) p6,.asg (.at_ (.name ns p7) g p8) (.name nl p9) p10]) (e3:(p2.endLine == p5.line)=true)
  (e4:lk d1.kd xE=some .globalImplicit) (e5:W.P.gt xE=some (.top (.ref AE))) (e6:lk d1.kd ns=some .local) (e7:lk d1.kd nl=some .local) (e8:lk d1.kd nt=some .local) (e9:∀ J,newCells d1.kd [] J=([],J))
  (f1:∀ k v1 v2 v3 J,∃ m,bindPs ⟨k,false,d1.kd,[]⟩ [ns,nl,nt] [v1,v2,v3] [] J=some (m,J)/\lk m ns=some v1/\lk m nl=some v2/\lk m nt=some v3) (f2:findIn W.K (.ref W.P.cf) (W.nm g)=some none)
  (f3:findCls W.K (.ref AE) (.type "type") (W.nm fI)=some (.val (.ref i2)))
inductive IniE (W:Wd) (d2:FD):Prop
 |mk (xE fI ns nt g:Nat) (p1 p2 p3 p4 p5 p6 p7 p8 p9 p10:Pos) (e1:d2.ps=[ns,nt]) (e2:d2.body=[.expr (.meth (.name xE p1) fI p2 [.name ns p3,.name nt p4] p5) p6,.asg (.at_ (.name ns p7) g p8) (.name nt p9) p10]) (e3:(p2.endLine == p5.line)=true)
  (e4:lk d2.kd xE=some .globalImplicit) (e5:W.P.gt xE=some (.top (.type "Exception"))) (e6:lk d2.kd ns=some .local) (e7:lk d2.kd nt=some .local) (e8:∀ J,newCells d2.kd [] J=([],J))
  (f1:∀ k v1 v2 J,∃ m,bindPs ⟨k,false,d2.kd,[]⟩ [ns,nt] [v1,v2] [] J=some (m,J)/\lk m ns=some v1/\lk m nt=some v2) (f2:findIn W.K (.ref W.P.cf) (W.nm g)=some none)
  (f3:findCls W.K (.type "Exception") (.type "type") (W.nm fI)=some (.val (.builtin "Exception.__init__")))
inductive IniK (W:Wd):Prop
 |mk (i1 i2:Nat) (AE:Addr) (d1 d2:FD) (f1:findIn W.K (.ref W.P.cf) "__init__" = some (some (.ref i1))) (f2:typeIn W.K (.ref i1)=some (.type "function")) (f3:FnOk W i1 d1) (f4:FnOk W i2 d2) (f5:keepIn W.K (.ref i2)=true)
  (f6:readsIn W.K AE (.type "type")=true) (f7:specialIn W.K (.ref AE) "__getattribute__" = some (some (.builtin "type.__getattribute__"))) (f8:IniC W AE i2 d1) (f9:IniE W d2)
structure RaisOk (W:Wd):Prop where
 own:OwnX W.P.cf W.h₀
 sub:subIn W.K (.ref W.P.cf) (.type "BaseException")=some true
 ty:typeIn W.K (.ref W.P.cf)=some (.type "type")
 keep:keepIn W.K (.ref W.P.cf)=true
 set:findIn W.K (.ref W.P.cf) "__setattr__" = some (some (.builtin "object.__setattr__"))
 over:excOver W.K W.P.cf=true
 dict:(clsIn W.K W.P.cf).any (·.hasDict)=true
 ini:IniK W
theorem xget_cls {AE:Addr} {v:Value} {name:Str} (hr:readsIn W.K AE (.type "type")=true) (hg:specialIn W.K (.ref AE) "__getattribute__" = some (some (.builtin "type.__getattribute__"))) (e:findCls W.K (.ref AE) (.type "type") name=some (.val v)) (hh:handedIn v=true):XGet W (.ref AE) v name:=
 fun X q=>method_cls X hg (cls_value X hr e hh q)
theorem xget_exc {v:Value} {name:Str} (e:findCls W.K (.type "Exception") (.type "type") name=some (.val v)) (hh:handedIn v=true):XGet W (.type "Exception") v name:=by
 intro A s pl Q Ex X q
 have hty:typeOf (.type "Exception")=pure (.type "type"):=by kernel_rfl
 have hstub:opaqueClassAbove (.type "Exception")=pure none:=by kernel_rfl
 have L0:Looks W.M s.heap (typeOf (.type "Exception")) (.type "type"):=Looks.of_pure hty
 have hg:findIn W.K (.type "type") "__getattribute__" = some (some (.builtin "type.__getattribute__")):=type_tga
 unfold getMethod specialOf
 refine wpAny_bind (wpAny_bind (L0.here ((looks_findIn X hg).here ?_)))
 refine rwl (p:=fun z=>wpAny W.M A z Q Ex s) (if_pos canon_tga) ?_
 refine wpAny_bind (wpAny_mono (Q:=fun v=>Q (v,[])) (E:=Ex) ?_ (fun _ _ z=>wpAny_pure z) fun _ _ z=>z)
 have LO:Looks W.M s.heap (opaqueClassAbove (.type "Exception")) none:=Looks.of_pure hstub
 exact cls_open X LO L0 hg (looks_hook X (r:=none) (by rfl)) (by show subIn W.K _ _=_;rfl) e
  (wpAny_pure (by show wpAny _ _ (handedOut v) _ _ _;rw[handedOut_of hh];exact wpAny_pure q))
theorem xrun_exc (O:OwnX C W.h₀) (k:Nat) (n:Nat):XRun W C k n n (.builtin "Exception.__init__"):=
 ⟨fun h _=>Kp.builtin _,fun bn Xo hlo hv Q Ex q=>x_init bn.rep Xo O fun h' st X'=>q _ h' _ st X'⟩
theorem xrun_ada (ok:WdOk W) (rk:RaisOk W) (k:Nat) {i2:Nat} {d2:FD} (fo:FnOk W i2 d2) (hk:keepIn W.K (.ref i2)=true) (fe:IniE W d2):XRun W W.P.cf (k+1) 0 1 (.ref i2):=by
 rcases fe with (⟨xE,fI,ns,nt,g,p1,p2,p3,p4,p5,p6,p7,p8,p9,p10,e1,e2,e3,e4,e5,e6,e7,e8,e9,e10,e11⟩)
 refine⟨fun h X=>keeps_K hk h X,?_⟩
 intro A ρ J s lo e v pv bn Xo hlo hv Q Ex q
 obtain⟨m,b1,b2,b3⟩:=e9 k (.top (.ref e)) v J
 refine wpAny_call ?_
 exact x_call ok fo bn (as:=[.top (.ref e),v]) (.cons (.top _ rfl) (.cons hv .nil)) (by rw[e1];rfl) (e8 J) (by rw[e1];exact b1) Xo (by decide) hlo e2 e3 e4 e5 e6 b2 e7 b3 e7 b3 (xget_exc e11 rfl) (xrun_exc rk.own k 0) rk.set rk.over e10 rk.dict q
theorem x_made (ok:WdOk W) (rk:RaisOk W) (bn:Cst W (k+3) false A ρ J s.heap) {a b:V} {pa pb:Value} (ha:VR ρ J.n a pa) (hb:VR ρ J.n b pb) {Q:Value->Shared->Prop} {Ex:Value->Shared->Prop}
  (q:∀ ah h' tk e,Sx W A ρ J s.heap ah J h'->Xob W A ah J W.P.cf s.heap.objs.size 2 e h'->Q (.ref e) (Shared.at_ s h' tk)):wpAny W.M A (call (.ref W.P.cf) [pa,pb]) Q Ex s:=by
 rcases rk.ini with (⟨i1,i2,AE,d1,d2,f1,f2,f3,f4,f5,f6,f7,⟨xE,fI,ns,nl,nt,g,p1,p2,p3,p4,p5,p6,p7,p8,p9,p10,e1,e2,e3,e4,e5,e6,e7,e7',e8,e9,e10,e11⟩,f9⟩)
 have X:=bn.rep.inK ok
 have H2:=xrun_ada ok rk k f4 f5 f9
 have st:Sx W A ρ J s.heap ρ J (excHeap s.heap W.P.cf [pa,pb]):=(Stp.push bn.rep _).trans bn.rep (Stp.push (bn.rep.push _) _)
 have ef:(mkA A W.P.cf [pa,pb]).frames=A.frames:=by
  show pushEnvs (Code.builtin "type.__call__" ⟨.ref W.P.cf::[pa,pb],[]⟩).envs A.frames=_
  rw[creation_envs]
  show pushEnvs [] A.frames=_
  cases A.frames<;>rfl
 have q1:∀ b,FrAt (mkA A W.P.cf [pa,pb]) b->FrAt A b:=fun b ⟨e,⟨fs,z,i⟩,y⟩=>⟨e,⟨fs,ef.symm.trans z,i⟩,y⟩
 have q2:∀ b,FrAt A b->FrAt (mkA A W.P.cf [pa,pb]) b:=fun b ⟨e,⟨fs,z,i⟩,y⟩=>⟨e,⟨fs,ef.trans z,i⟩,y⟩
 have el:Cst W (k+2) false (mkA A W.P.cf [pa,pb]) ρ J (excHeap s.heap W.P.cf [pa,pb]):=(bn.step st).around ef rfl (congrArg (A.depth+·) (creation_weight W.P.cf [pa,pb])) (congrArg (A.units+·) (creation_units W.P.cf [pa,pb])) q1
 have hne:s.heap.get? (s.heap.objs.size+1)=none:=get?_size' _ (Nat.le_succ _)
 have hget:(excHeap s.heap W.P.cf [pa,pb]).get? (s.heap.objs.size+1)=some (excObj W.P.cf s.heap.objs.size):=by
  have:=Heap.get?_push_size (s.heap.push (excTup [pa,pb])) (o:=excObj W.P.cf s.heap.objs.size) rfl
  rw[Heap.size_push] at this
  exact this
 have U:=(bn.rep.push (excTup [pa,pb])).fresh
 rw[Heap.size_push] at U
 have Xo:Xob W (mkA A W.P.cf [pa,pb]) ρ J W.P.cf s.heap.objs.size 0 (s.heap.objs.size+1) (excHeap s.heap W.P.cf [pa,pb]):=
  ⟨⟨none,_,_,s.heap.objs.size,hget,Nat.le_refl 6,rfl,rfl,rfl,.inl rfl⟩,U,fun z=>bn.fr.notFr hne (q1 _ z),Nat.le_succ _⟩
 obtain⟨m,b1,b2,b3,b4⟩:=e9 (k+1) (.top (.ref (s.heap.objs.size+1))) a b J
 refine wpAny_call (rk.own.keeps bn.rep.keep |>.make (g:=s.gens) (d:=s.drawn) (t:=s.toks) (os:=s.os) (looks_findIn X f1) (fun self=>bind_fn X self f2) (by rw[sizeLine_eq];exact show 2<=_ from by decide) ?_)
 refine x_call (s:=Shared.at_ s (excHeap s.heap W.P.cf [pa,pb]) s.toks) (lo:=s.heap.objs.size) ok f3 el (as:=[.top (.ref (s.heap.objs.size+1)),a,b]) (.cons (.top _ rfl) (.cons (ha.mono st.agree st.n) (.cons (hb.mono st.agree st.n) .nil))) (by rw[e1];rfl) (e8 J) (by rw[e1];exact b1) Xo (by decide) st.kept.size e2 e3 e4 e5 e6 b2 e7' b4 e7 b3 (xget_cls f6 f7 e11 rfl) H2 rk.set rk.over e10 rk.dict fun ah h' tk' st' X'=>?_
 exact⟨rfl,q ah h' tk' _ (st.under2 bn.rep st' (fun b z=>.inl (get?_size' _ z.1)) fun b z=>.inr (q1 b z)) (X'.sub fun b _ _ nf z=>nf (q2 b z))⟩
theorem bdE {α β:Type} {r:R α} {f:α->Store->R β} {y:β} {P:Prop} (h:bd r f=.ok y af) (k:∀ a J,r=.ok a J->f a J=.ok y af->P):P:=by
 induction r using Mine.R.casesOn with
 | ok a J=>exact k a J rfl h
 | _=>cases h
theorem evs_len {ts:List T}:∀ {J:Store} {vs:List V} {af:Store},evs E c m ts J=.ok vs af->vs.length=ts.length:=by
 induction ts using List.rec with
 | nil=>intro J vs af h;cases h;rfl
 | cons t r ih=>intro J vs af h;exact bdE h fun v J1 _ h=>bdE h fun us J2 h2 h=>by cases h;exact congrArg Nat.succ (ih h2)
theorem s_rais (ok:WdOk W) (rk:RaisOk W) (I:SEv W E) (S0:Stt W c m env A ρ J s.heap) (x:Nat) (np:Pos) (a b:T) (cp p:Pos):WX W A c env (PySem.exec (.Raise (some (.Call (.Name (W.nm x) np) [a.dec W.nm,b.dec W.nm] [] cp)) none p) env)
  (cn c.hd .bad (cn (isCf W.P c x) (cn (Nat.ble 3 c.k) (tx m (evs E c m [a,b] J) fun _ J=>.exc m J) .bad) .bad)) ρ J s:=by
 refine WX.ifF fun hcd=>WX.ifT fun hx=>WX.ifT fun hk=>?_
 intro Q Ex K
 have hh:A.handled=none:=S0.cst.hd0 hcd
 obtain⟨k,hk⟩:=Nat.exists_eq_add_of_le' (Nat.le_of_ble_eq_true hk)
 rw[arm_exec_Raise]
 refine wpAny_bind (wpAny_standAt ?_)
 show wpAny W.M A (raiseStmt env (some (eval (.Call (.Name (W.nm x) np) [a.dec W.nm,b.dec W.nm] [] cp) env >>= fun v=>standAt p >>= fun _=>pure v)) none) Q Ex s
 unfold raiseStmt
 refine wpAny_bind (wpAny_bind (wpAny_Call_ofName ?_))
 have nm:=wp_name ok S0 x np
 rw[load_isCf (c:=c) (m:=m) (J:=J) hx] at nm
 refine nm _ _ fun am ai az pv aG hv=>?_
 have ev:pv=.ref W.P.cf:=by cases hv;rfl
 rw[ev]
 have au:=S0.step aG
 refine callWith_of (P:=fun h=>Kp W h (.ref W.P.cf)) (by show((backTo cp (starEach (T.decL W.nm [a,b]) env)).any (·.1) || false)=false;rw[star_plain];rfl) (fun _ q=>q) ?_
 refine e_args (s:=Shared.at_ s ai az) I au (.ref W.P.cf) cp [a,b] _ _ ?_
 revert K
 induction hrv:evs E c m [a,b] J using Mine.R.casesOn with
 | bad=>exact fun K=>K
 | exc af=>exact fun K aw ar aQ e aj fl=>K aw ar aQ e (S0.xs (aG.trans S0.rep aj)) (fl.low aG.kept.size)
 | ok vs af=>
  intro K aw ar aQ av aj ⟨ak,av'⟩
  refine⟨keeps_K rk.keep ar (aj.rep.inK ok),?_⟩
  rw[ak]
  have aF:=au.step aj
  have hC:=aF.cst
  rw[hcd,hk] at hC
  obtain⟨u,w,z⟩:=len2 (evs_len hrv)
  rw[z] at av'
  refine VRs.pair (P:=fun z=>wpAny W.M A (call _ ([]++z)) _ _ _) av' fun y1 y2 v1 v2=>?_
  refine x_made (s:=Shared.at_ s ar aQ) ok rk hC v1 v2 fun aN aH a9 e ax X3=>?_
  have bv:=X3.fly
  have XK:=ax.rep.inK ok
  rcases X3.at_ with ⟨d,vs,sl,x,he,hz,h0,h1,h2,hd⟩
  refine wpAny_bind (wpAny_standAt (wpAny_pure ?_))
  have t1:Looks W.M aH (typeOf (.ref e)) (.ref W.P.cf):=(Looks.ld he).andThen .now
  have t2:Looks W.M aH (PySem.isType (.ref e)) false:=(Looks.ld he).andThen .now
  have t3:Looks W.M aH (isSubtype (.ref W.P.cf) (.type "BaseException")) true:=looks_subIn XK rk.sub
  refine wpAny_bind (wpAny_pure ?_)
  refine wpAny_bind (wpAny_holding ?_)
  unfold excFromValue isExcClass
  refine wpAny_bind (wpAny_bind (t2.here (wpAny_pure ?_)))
  rw[if_neg Bool.false_ne_true]
  refine wpAny_bind (wpAny_bind (t1.here (t3.here ?_)))
  rw[if_pos rfl]
  refine wpAny_pure ?_
  refine wpAny_bind (t2.here ?_)
  rw[if_neg Bool.false_ne_true]
  unfold raisedInstance
  refine wpAny_bind (wpAny_bind (t1.here (wpAny_bind ((looks_typeIn XK rk.ty).here ?_))))
  rw[if_pos (by decide)]
  refine wpAny_pure ?_
  refine wpAny_bind (wp_setFlight (s:=Shared.at_ s aH a9) ax.rep bv none fun bc aE ce _=>?_)
  have st12:=aG.trans S0.rep aj
  refine wpAny_raiseNew_none hh (K aN bc a9 e (S0.xs ((st12.trans S0.rep ax).under2 S0.rep aE (fun b z=>.inl (get?_size' _ (Nat.le_trans st12.kept.size z))) fun b z=>.inr z)) (ce.low st12.kept.size))
end
end

section
open PySem PySem.W PySem.Calls PyProof.Rows

inductive PV (ρ:Nat->Addr) (n:Nat):List (List Nat×V)->List (Value×Value)->Prop
 | nil:PV ρ n [] []
 | cons {k:List Nat} {t:Tok} {v:V} {x:Value} {es:List (List Nat×V)} {xs:List (Value×Value)} (h:VR ρ n v x) (r:PV ρ n es xs):PV ρ n ((k,v)::es) ((.str (strK k) t,x)::xs)
section
variable {W:Wd} {A:Around} {X F:Addr->Prop} {ρ am aw ah:Nat->Addr} {J ad aq af:Store} {s:Shared} {h ai ar h':Heap} {c:Cx} {m m':M} {env:Env} {E:Ev} {n:Nat}
noncomputable def pairsT (nm:Nat->Str) (env:Env) (p:Pos) (ks:List T):List T->List (Sem Value×Sem Value):=@List.rec T (fun _=>List T->List (Sem Value×Sem Value)) (fun _=>[]) (fun k _ ih vs=>@List.rec T (fun _=>List (Sem Value×Sem Value)) [] (fun v r _=>(eval (k.dec nm) env,do let x <-eval (v.dec nm) env;PySem.standAt p;pure x)::ih r) vs) ks
theorem pairs_shape (nm:Nat->Str) (p:Pos) (ks:List T):∀ (vs:List T),ks.length=vs.length ->
  (evalEachOpt (T.decS nm ks) env).zip ((evalEach (T.decL nm vs) env).map fun v=>do let x <-v;PySem.standAt p;pure x)=(pairsT nm env p ks vs).map (fun q=>(some q.1,q.2))/\(pairsT nm env p ks vs).length=ks.length:=by
 induction ks using List.rec with
 | nil=>exact fun vs _=>⟨rfl,rfl⟩
 | cons k ks ih=>
  intro vs h
  induction vs using List.casesOn with
  | nil=>cases h
  | cons v vs=>
   obtain⟨a,b⟩:=ih vs (Nat.succ.inj h)
   refine⟨?_,congrArg Nat.succ b⟩
   show(some (eval (k.dec nm) env),_)::_=(some (eval (k.dec nm) env),_)::_
   refine rwr a ?_
   rfl
theorem wp_pairs (I:SEv W E) (p:Pos) (ks:List T):∀ (vs:List T) {ρ:Nat->Addr} {J:Store} {s:Shared},Stt W c m env A ρ J s.heap->WP W A (evalPairs (pairsT W.nm env p ks vs)) PV (evDict E c m ks vs J) ρ J s:=by
 induction ks using List.rec with
 | nil=>
  intro vs ρ J s H
  induction vs using List.casesOn with
  | nil=>exact WP.pure H.rep .nil
  | cons v vs=>exact WP.bad
 | cons k ks ih=>
  intro vs ρ J s H
  induction vs using List.casesOn with
  | nil=>exact WP.bad
  | cons v vs=>
   show WP W A (evalPairs ((eval (k.dec W.nm) env,(eval (v.dec W.nm) env >>= fun x=>PySem.standAt p >>= fun _=>pure x))::pairsT W.nm env p ks vs)) PV (bd (E.e c m k J) fun kv J=>bd (E.e c m v J) fun vv J=>vStr kv .bad fun s=>bd (evDict E c m ks vs J) fun q J=>.ok ((s,vv)::q) J) ρ J s
   rw[evalPairs]
   refine WP.ev I H k fun am ai az pk kv ad aG au hk=>WP.unhold ?_
   rw[bind_assoc]
   refine WP.ev (s:=Shared.at_ s ai az) I au v fun aw ar aQ pv vv aq aj aF hv=>?_
   rw[bind_assoc]
   refine WP.standAt ?_
   rw[pure_bind]
   have hk2:=hk.mono aj.agree aj.n
   induction kv using Mine.V.casesOn with
   | str x=>
    refine hk2.elS (P:=fun pk=>WP W A (PySem.holding [pk,pv] (evalPairs (pairsT W.nm env p ks vs)) >>= fun r=>pure ((pk,pv)::r)) PV _ aw aq (Shared.at_ (Shared.at_ s ai az) ar aQ)) fun t=>?_
    exact WP.bind (s:=Shared.at_ s ar aQ) aF.rep (WP.holding (ih vs (s:=Shared.at_ s ar aQ) aF)) fun aN aH a9 prs es aT ax hes=>WP.pure (s:=Shared.at_ s aH a9) ax.rep (.cons (hv.mono ax.agree ax.n) hes)
   | _=>exact WP.bad
theorem PV.carries {n:Nat} {es:List (List Nat×V)} {xs:List (Value×Value)} (h:PV ρ n es xs):∃ kvs,Carries (SK W) xs kvs/\KV ρ n es kvs:=by
 induction h with
 | nil=>exact⟨[],trivial,.nil⟩
 | cons h _ ih=>
  obtain⟨kvs,a,b⟩:=ih
  exact⟨_::kvs,⟨strKind_is _ _ _ _,rfl,a⟩,.cons h b⟩
theorem KV.merge {n:Nat} {es:List (List Nat×V)} {more:List (Str×Value)} (h:KV ρ n es more):∀ {acc:List (List Nat×V)} {kvs:List (Str×Value)},KV ρ n acc kvs->(acc.map (·.1)).Nodup->KV ρ n (dictOfL es acc) (merged kvs more)/\((dictOfL es acc).map (·.1)).Nodup:=by
 induction h with
 | nil=>exact fun a nd=>⟨a,nd⟩
 | cons hv _ ih=>exact fun a nd=>ih (a.stored nd _ hv) (nodup_putG eqS_iff _ _ _ nd)
theorem e_dict (I:SEv W E) (S0:Stt W c m env A ρ J s.heap) (ks vs:List T) (p:Pos) :
  WP W A (eval (.Dict (T.decS W.nm ks) (T.decL W.nm vs) p) env) VR (cn (lenLe ks 10) (cn (lenEq ks vs) (bd (evDict E c m ks vs J) fun es J=>.ok (.ref J.2) (J.add (.dict (dictOfL es [])))) .bad) .bad) ρ J s:=by
 refine WP.ifT fun hl=>WP.ifT fun he=>?_
 have hl:=lenLe_at hl
 have he:=lenEq_iff.mp he
 induction ks using List.casesOn with
 | nil=>
  induction vs using List.casesOn with
  | cons v vs=>cases he
  | nil=>
   show WP W A (PySem.standAt p >>= fun _=>newDict) VR (.ok (.ref J.n) (J.add (.dict []))) ρ J s
   refine WP.standAt (fun Q Ex k=>?_)
   unfold newDict
   exact wpAny_newObj_type (k (rhoAt ρ J.n s.heap.objs.size) _ s.toks _ (Stp.alloc S0.rep ⟨[],0,by rw[rhoAt_self];exact Heap.get?_push_size _ rfl,.nil,List.nodup_nil⟩ nofun) .alloc) (by size_fits)
 | cons k0 kr=>
  obtain⟨sh,hlen⟩:=pairs_shape (env:=env) W.nm p (k0::kr) vs he
  rw[arm_eval_Dict,sh]
  rw[dictDisplay_pairs _ (by intro z;rw[z] at hlen;cases hlen) (by rw[hlen];exact Nat.lt_of_le_of_lt hl (by decide))]
  refine WP.standAt ?_
  have st1:Sx W A ρ J s.heap ρ J (s.heap.push emptyDict):=Stp.push S0.rep emptyDict
  have S1:=S0.step st1
  have MD:=Mine_.new S0.rep S0.cst.fr emptyDict rfl
  intro Q Ex k
  refine wpAny_bind (wpAny_subDict (prog:=W.prog) (w:=W.w) (knd:=SK W) (A:=A) (E:=Ex) (s:=s) (pairs:=pairsT W.nm env p (k0::kr) vs) (Q:=fun d s'=>wpAny W.M A (pure (Value.ref d)) Q Ex s') (by rw[hlen];exact Nat.le_trans hl (by decide)) (wp_pairs (s:=Shared.at_ s (s.heap.push emptyDict) s.toks) I p (k0::kr) vs S1 _ _ ?_))
  revert k
  induction evDict E c m (k0::kr) vs J using Mine.R.casesOn with
  | bad=>exact fun k=>k
  | exc ad=>exact fun k ah h' tk e st fl=>k ah h' tk e (st1.trans S0.rep st) (fl.low st1.kept.size)
  | ok es ad=>
   intro k am ai tk prs st hes
   obtain⟨kvs,cr,kv⟩:=hes.carries (W:=W)
   obtain⟨cq,eD⟩:=MD.step S1.rep st id
   have bT:ai.get? s.heap.objs.size=some emptyDict:=eD.trans (Heap.get?_push_size _ rfl)
   refine⟨kvs,cr,⟨_,#[],0,bT,⟨rfl,rfl,rfl⟩,rfl,fun e he=>(List.not_mem_nil (Array.mem_toList_iff.mpr he)).elim,.nil,List.nodup_nil⟩,fun h' D' hs=>wpAny_pure ?_⟩
   obtain⟨km,nd⟩:=kv.merge (acc:=[]) (kvs:=[]) .nil List.nodup_nil
   have aj:=Stp.one (oa:=emptyDict) (F:=FrAt A) (X:=fun z=>z=s.heap.objs.size) st.rep cq.off hs (codeRec_sameBut hs bT fun vs q=>by cases q) rfl
   have aJ:=(st1.trans S0.rep st).under2 S0.rep aj (fun b hb=>.inl (by rw[hb];exact get?_size _)) fun b hb=>.inr hb
   obtain⟨o',_,_,ho',_⟩:=id D'
   have pd:PD W.w.params (rhoAt am ad.n s.heap.objs.size) (ad.n+1) h' s.heap.objs.size (dictOfL es []):=DicK.pd ⟨_,D',km.tr fun v x q=>q.mono (fun _ hl=>rhoAt_lt hl) (Nat.le_succ _),nd⟩
   exact k _ h' _ _ (Stp.followAt (o:=.dict (dictOfL es [])) aJ ho' ⟨cq.off.trk,cq.off.base,cq.off.pt⟩ (Nat.le_refl _) (by show PD _ _ _ _ (rhoAt am ad.n s.heap.objs.size ad.n) _;rw[rhoAt_self];exact pd) nofun) .alloc
theorem Stp.growT (R:Rep W ρ J h) (hz:h.objs.size<=h'.objs.size) (kp:Heap.ExtBut W.PT h h') (kt:TabOK W h') (kc:∀ cd q,h.CodeRec cd q->h'.CodeRec cd q):Stp W F X ρ J h ρ J h':=by
 refine⟨R.other (fun b ⟨l,o,e,z⟩=>?_) (fun b o e=>kp b o (fun z=>by rw[z,R.ptn] at e;cases e) (R.keep b o e)) kt kc,fun _ _=>rfl,Nat.le_refl _,fun l o e=>.inl ⟨o,e⟩,⟨hz,fun b o e _ p _=>⟨o,kp _ _ p e,.inl rfl⟩⟩⟩
 obtain⟨x,hx⟩:=(R.obj l o e).at
 rw[<-z,hx];exact kp _ _ (fun z=>R.pt ⟨l,o,e,z⟩) hx
theorem noCell_of {kd:List (Nat×NameKind)}:∀ {cs:List (Nat×Nat)},closeC c kd=some cs->∀ x∈kd,x.2≠.cell:=by
 induction kd using List.rec with
 | nil=>exact fun _ x hx=>nomatch hx
 | cons y r ih=>
  obtain⟨y,kind⟩:=y
  intro cs e x hx
  have hx:=List.mem_cons.mp hx
  induction kind using PySem.NameKind.casesOn with
  | cell=>cases e
  | free=>exact ocE e fun a _ e=>ocE e fun q hq _=>hx.elim (fun z=>by rw[z];exact fun w=>by cases w) (ih hq x)
  | _=>exact hx.elim (fun z=>by rw[z];exact fun w=>by cases w) (ih e x)
theorem isMk_iff {x:Nat} {p:Pos} (q:isMk W.P c x p=true):lk c.kd W.P.wk=some .cell/\x=W.P.dn/\p.line=W.P.dp.line/\p.col=W.P.dp.col:=by
 revert q
 show oc (lk c.kd W.P.wk) false _=true->_
 induction lk c.kd W.P.wk using Option.casesOn with
 | none=>exact nofun
 | some k=>
  induction k using PySem.NameKind.casesOn with
  | cell=>
   show cn (Nat.beq x W.P.dn) (cn (Nat.beq p.line W.P.dp.line) (Nat.beq p.col W.P.dp.col) false) false=true->_
   exact cn_el (P:=fun z=>z=true->_) (fun a=>cn_el (P:=fun z=>z=true->_) (fun b d=>⟨rfl,Nat.eq_of_beq_eq_true a,Nat.eq_of_beq_eq_true b,Nat.eq_of_beq_eq_true d⟩) fun _ e=>nomatch e) fun _ e=>nomatch e
  | _=>exact fun q=>by cases q
theorem codeRec_ext (T:TabOK W h) (k:Heap.ExtBut W.PT h h'):∀ cd q,h.CodeRec cd q->h'.CodeRec cd q:=by
 rintro cd q ⟨a,o,vs,t,e1,e2,e3,e4⟩
 refine⟨a,o,vs,t,e1,k a o (fun z=>?_) e2,e3,e4⟩
 rcases T with ⟨us,u1,u2⟩
 rw[z,u1] at e2
 rw[<-Option.some.inj e2] at e3
 rw[<-Data.fields.inj e3] at e4
 rcases u2 with y|⟨c,y,_⟩
 ·rw[y] at e4;cases e4
 ·rw[y] at e4;cases e4
noncomputable abbrev cloO (W:Wd) (name qual:Str) (b:List S) (kd:List (Nat×NameKind)) (more:List (Nat×Nat)) (cl:List (Str×Addr)) (doc pm cd ct:Value):Obj:={cls:=.type "function",data:=.func (kdv_fn name qual noArgs (.stmts (S.decL W.nm b)) (scopeOf W.nm kd more) cl .none doc pm cd ct)}
theorem s_defn (ok:WdOk W) (S0:Stt W c m env A ρ J s.heap) (x:Nat) (b:List S) (kd:List (Nat×NameKind)) (more:List (Nat×Nat)) (p:Pos):WX W A c env (PySem.exec (S.dec W.nm (.defn x b kd more p)) env)
  (cn (isMk W.P c x p) (oc (closeC c kd) .bad fun cs=>nxtP (storeN c m x (.ref J.2) (J.add (.clo b kd cs)))) .bad) ρ J s:=by
 refine WX.ifT fun hmk=>WX.so fun cs hc=>WX.so fun q hs=>?_
 obtain⟨k1,k2,k3,k4⟩:=isMk_iff hmk
 obtain⟨hcode,hqual⟩:=S0.er.code k1
 have hkind:¬ (env.kindOf (W.nm x) == some NameKind.globalExplicit)=true:=fun z=>by
  have z:=eq_of_beq z
  rw[S0.er.kd x] at z
  have hs:oc (lk c.kd x) none _=some q:=hs
  rw[z] at hs
  cases hs
 have hq:qualnameIn env (W.nm x) (W.nm x)=W.wq++W.nm W.P.dn:=by
  unfold qualnameIn
  rw[if_neg hkind,hqual,k2]
 obtain⟨cl,hcl,hcs⟩:=clos_ok (scope:=scopeOf W.nm kd more) S0.er rfl hc
 have R:=S0.rep
 have hg:s.heap.Ns mainGlobals W.mg:=ok.mg.keeps R.keep
 have hgP:mainGlobals≠W.PT:=fun z=>by
  obtain⟨o,es,ep,ho,_⟩:=ok.mg
  rw[z,R.ptn] at ho;cases ho
 have C:CodeHd s.heap W.PC W.PT:=codeHd_of_K (R.inK ok) ok.cdh
 have hb:s.heap.BuiltinsAt W.mg W.PT:=by
  obtain⟨bm,o,b1,b2,b3,b4,b5,b6⟩:=ok.bma
  exact⟨bm,o,b1,b2,b3,b4,R.keep _ _ b5,b6⟩
 intro Q Ex k
 have fin:∀ {ai:Heap} {tk:Nat} {doc pm cd ct:Value},Sx W A ρ J s.heap ρ J ai->ai.CodeRec cd (W.wq++W.nm W.P.dn) ->
   wpAny W.M A (standAt p >>= fun _=>bindName env (W.nm x) (.ref ai.objs.size) >>= fun _=>pure Flow.next) Q Ex (Shared.at_ s (ai.push (cloO W (W.nm x) (W.wq++W.nm W.P.dn) b kd more cl doc pm cd ct)) tk):=by
  intro ai tk doc pm cd ct st hr
  have ph:CloAt W (rhoAt ρ J.n ai.objs.size) (J.n+1) (ai.push (cloO W (W.nm x) (W.wq++W.nm W.P.dn) b kd more cl doc pm cd ct)) (rhoAt ρ J.n ai.objs.size J.n) b kd cs:=
   ⟨_,_,by rw[rhoAt_self];exact Heap.get?_push_size _ rfl,rfl,rfl,rfl,rfl,rfl,rfl,noCell_of hc,rfl,rfl,rfl,rfl,CsR.mono (ah:=rhoAt ρ J.n ai.objs.size) hcs (fun l hl=>rhoAt_lt hl) (Nat.le_succ _),hr.push _⟩
  have st2:Sx W A ρ J ai (rhoAt ρ J.n ai.objs.size) (J.add (.clo b kd cs)) (ai.push (cloO W (W.nm x) (W.wq++W.nm W.P.dn) b kd more cl doc pm cd ct)):=Stp.alloc (o:=.clo b kd cs) st.rep ph nofun
  have S2:=(S0.step st).step st2
  exact wpAny_bind (wpAny_standAt (wpAny_bind (wp_bindName ok (s:=Shared.at_ s (ai.push (cloO W (W.nm x) (W.wq++W.nm W.P.dn) b kd more cl doc pm cd ct)) tk) S2 .alloc hs fun h' tk' st3 S3=>wpAny_pure (k _ h' tk' ⟨(st.trans R st2).toL.trans R st3,S3.er⟩))))
 show wpAny W.M A (PySem.exec (.FunctionDef (W.nm x) noArgs (S.decL W.nm b) [] none [] (scopeOf W.nm kd more) none (W.nm x) p) env) Q Ex s
 rw[exec_def]
 refine wpAny_bind (wpAny_standAt (wpAny_bind (wpAny_holding ?_)))
 refine wpAny_bind (wpAny_pure ?_)
 refine wpAny_bind (wpAny_holding (wpAny_pure ?_))
 refine wpAny_holding (wpAny_bind (wpAny_pure ?_))
 rw[makeFunction_eq,hq]
 show wpAny W.M A (makeTail (W.nm x) (W.wq++W.nm W.P.dn) noArgs (.stmts (S.decL W.nm b)) (scopeOf W.nm kd more) env .none .none none p p.line) _ Ex s
 rcases R.tab with ⟨vs,hv,htab⟩
 rcases htab with y|⟨c',y,hrec⟩
 ·rw[y] at hv
  refine kdv_makeTail (ps:=#[]) hcl S0.er.glob hg hcode C hv trivial rfl hgP hb fun c' ctv doc h' tk hx hge hlt hrec htb=>?_
  exact fin (Stp.growT R (Nat.le_trans hge (Nat.le_of_lt hlt)) hx ⟨_,htb,.inr ⟨c',by rw[<-k3,<-k4];rfl,hrec⟩⟩ (codeRec_ext R.tab hx)) hrec
 ·rw[y] at hv
  refine kdv_makeTailHit (ps:=#[rawInt W.P.dp.line,rawInt W.P.dp.col,.ref c']) (cv:=.ref c') hcl S0.er.glob hg hcode C hv trivial ?_ hb fun ctv doc h' tk kp hsz=>?_
  ·show codeAmong p [rawInt W.P.dp.line,rawInt W.P.dp.col,.ref c']=_
   rw[<-k3,<-k4]
   simp[codeAmong,rawInt]
  ·exact fin (Stp.grow R hsz kp) (hrec.keeps kp)
end
end

section
open PySem PySem.W PySem.Calls PyProof.Rows

section
variable {W:Wd} {A:Around} {ρ:Nat->Addr} {J:Store} {s:Shared} {c:Cx} {m:M} {env:Env} {E:Ev}
theorem sound_e (K:Kt) (hP:K.P=W.P) (ok:WdOk W) (hbm:∀ f b,K.bm f=some b->W.nm f=b.nm) (I:SEv W E) (H:Stt W c m env A ρ J s.heap) (n:Nat) (t:T):WP W A (eval (t.dec W.nm) env) VR (evM t K E n c m J) ρ J s:=by
 induction t using Mine.T.casesOn with
 | cnone k p=>exact e_none H k p
 | cbool b k p=>exact e_bool H b k p
 | cint i k p=>exact e_int H i k p
 | cstr x k p=>
  show WP W A _ VR (.ok (.str (K.P.sy x)) J) ρ J s
  rw[hP];exact e_str ok H x k p
 | name x p=>
  show WP W A _ VR (loadN K.P.gt c m x J) ρ J s
  rw[hP];exact wp_name ok H x p
 | attr e f p=>exact e_attr ok I H e f p
 | call f as p=>exact e_call I H f as p
 | meth o f ap as p=>exact e_meth K hP ok hbm I H o f ap as p
 | sub e i p=>exact e_sub I H e i p
 | cut e lo hi sp p=>exact e_cut I H e lo hi sp p
 | and_ vs p=>exact e_bop I p true vs H
 | or_ vs p=>exact e_bop I p false vs H
 | not_ e p=>exact e_not I H e p
 | neg e p=>exact e_neg I H e p
 | cmp l op r p=>
  show WP W A _ VR (bd (E.e c m l J) fun a J=>bd (E.e c m r J) fun b J=>bd (cmpV K.P J op a b) fun q J=>.ok (.bool q) J) ρ J s
  rw[hP];exact e_cmp ok I H l op r p
 | bin l op r p=>exact e_bin I H l op r p
 | ife q a b p=>exact e_ife I H q a b p
 | list es p=>exact e_list I H es p
 | tup es k p=>exact e_tup I H es k p
 | dict ks vs p=>exact e_dict I H ks vs p
 | comp elt g it ifs rest kd more p=>exact e_comp ok I H elt g it ifs rest kd more p n
noncomputable def PrevE (W:Wd) (K:Kt) (E:Ev):Prop:=E.e=(fun _ _ _ _=>.bad)\/∃ E' n',SEv W E'/\E.e=fun c m t J=>evM t K E' n' c m J
theorem sound_s (K:Kt) (hP:K.P=W.P) (ok:WdOk W) (ex:ExOk W) (rk:RaisOk W) (I:SEv W E) (n:Nat) (hE:PrevE W K E) (H:Stt W c m env A ρ J s.heap) (t:S):WX W A c env (PySem.exec (t.dec W.nm) env) (evS t K E n c m J) ρ J s:=by
 induction t using Mine.S.casesOn with
 | raw s=>exact WX.bad
 | expr e p=>exact s_expr I H e p
 | ret e p=>exact s_ret I H e p
 | asg t e p=>
  by_cases q:∀ x np,t=.nm x np->isCo e=false
  ·exact s_asg K hP ok I H n t e p q
  ·induction t using Mine.TG.casesOn with
   | nm x np=>
    show WX W A c env _ (tx m (E.e c m e J) fun v J=>nxtP (storeN c m x v J)) ρ J s
    induction e using Mine.T.casesOn with
    | comp elt g it ifs rest kd more p'=>
     rcases hE with h0|⟨E',n',I',h1⟩
     ·rw[h0];exact WX.bad
     ·rw[h1];exact s_asg_comp ok I' H elt g it ifs rest kd more p' n' x np p
    | _=>exact absurd (fun _ _ _=>rfl) q
   | _=>exact absurd (fun _ _ z=>by cases z) q
 | aug t op e p=>exact s_aug K hP ok I H n t op e p
 | ife q a b p=>exact s_if I H q a b p
 | whl q b p=>exact s_while I H q b n p
 | for_ g it b p=>exact s_for ok I H g it b n p
 | cont p=>
  show WX W A c env (PySem.exec (.Continue p) env) (.cnt m J) ρ J s
  intro Q Ex k
  rw[arm_exec_Continue]
  exact wpAny_bind (wpAny_standAt (wpAny_pure (k ρ s.heap s.toks H.same)))
 | rais x np a b cp p=>
  show WX W A c env _ (cn c.2 .bad (cn (isCf K.P c x) (cn (Nat.ble (nat_lit 3) c.1) (tx m (evs E c m [a,b] J) fun _ J=>.exc m J) .bad) .bad)) ρ J s
  rw[hP];exact s_rais ok rk I H x np a b cp p
 | tryE b x np h hp p=>
  induction h using List.casesOn with
  | nil=>exact WX.ifT fun _=>WX.bad
  | cons h0 hr=>
   show WX W A c env _ (cn (isCf K.P c x) (onExc (execs E c b m J) fun m J=>noExc (execs E ⟨c.1,true,c.3,c.4⟩ (h0::hr) m J)) .bad) ρ J s
   rw[hP];exact s_tryE ok ex I H b x np h0 hr hp p
 | tryF b f p=>
  induction f using List.casesOn with
  | nil=>exact WX.bad
  | cons f0 f=>exact s_tryF I H b f0 f p
 | defn x b kd more p=>
  show WX W A c env _ (cn (isMk K.P c x p) (oc (closeC c kd) .bad fun cs=>nxtP (storeN c m x (.ref J.2) (J.add (.clo b kd cs)))) .bad) ρ J s
  rw[hP];exact s_defn ok H x b kd more p
theorem sound_ev (K:Kt) (hP:K.P=W.P) (ok:WdOk W) (ex:ExOk W) (rk:RaisOk W) (ho:OmOk W K.om) (hbm:∀ f b,K.bm f=some b->W.nm f=b.nm) (n:Nat):SEv W (ev K n)/\PrevE W K (ev K n):=by
 induction n using Nat.rec with
 | zero=>exact⟨⟨fun _ _=>WP.bad,fun _ _=>WP.bad,fun _ _=>WX.bad,fun _ _ h=>absurd rfl h,fun _ _ _=>WC.bad,fun _ _ _=>WP.bad⟩,.inl rfl⟩
 | succ n ih=>
  obtain⟨I,hE⟩:=ih
  refine⟨⟨fun t H=>sound_e K hP ok hbm I H n t,fun t H=>sound_T K hP ok I H t,fun t H=>sound_s K hP ok ex rk I n hE H t,fun R hf hb=>sound_kp K hP ok R hf hb,fun {k hd A ρ J s a d as xs} hd' C hv=>?_,fun C hf hv=>sound_call K hP ok ho I C hf hv⟩,.inr ⟨_,n,I,rfl⟩⟩
  show WC W A (.call (.ref a) ⟨xs,[]⟩) (oc (K.P.fn a) (oc (K.P.cl a) .bad (callC (ev K n) k hd as J a)) (callD K.3 (ev K n) k hd as J a)) ρ J s
  rw[hP,hd']
  exact sound_cfn ok ho I hd' C hv
end
end

section
open PySem
noncomputable def NT.ofL {α:Type} (l:List (Nat×α)):NT α:=@List.rec (Nat×α) (fun _=>NT α) .nil (fun x _ ih=>NT.put ih x.1 x.2) l
theorem NT.get_ofL {α:Type} (l:List (Nat×α)) (i:Nat):(NT.ofL l).get i=lk l i:=by
 induction l with
 | nil=>exact NT.get_nil i
 | cons x r ih=>
  refine(NT.get_put _ _ _ _).trans ((congrArg (fun z=>if i=x.1 then some x.2 else z) ih).trans ?_)
  by_cases h:x.1=i
  ·exact(if_pos h.symm).trans (cnT (beqT h)).symm
  ·exact(if_neg fun z=>h z.symm).trans (cnF (beqF h)).symm
namespace L1
noncomputable abbrev q (l a b:Nat):Pos:=⟨l,a,l,b⟩
noncomputable def tb:List (List Nat):=[[115,99,111,112,101],
[110,111,100,101],
[112,97,99,107,97,103,101],
[111,110,101,95,101,110,116,105,116,121],
[100,101,99,108,97,114,101,95,97,108,105,97,115],
[109,105,110,101],
[97,116],
[114,111,119],
[108,101,110],
[115,105,100,101,115],
[111,110,101],
[114,101,103,105,111,110],
[110,117,109,98,101,114],
[110,97,109,101],
[110,97,109,101,115],
[103,101,116],
[46,48],
[114,101,110,97,109,101],
[120],
[114,111,119,115],
[97,98,99],
[117,115,101,100],
[116,111,108,100],
[112,108,97,99,101],
[117,115,101,115],
[112,108,97,99,101,115],
[116,117,114,110],
[95,108,97,119,95,108,105,102,116],
[114,97,110,103,101],
[119,104,105,99,104],
[117,115,101],
[100,101,99,108,97,114,101,95,117,115,101],
[97,112,112,101,110,100],
[99,111,117,110,116,115],
[114,111,111,116],
[77,65,68,69,95,80,65,82,84,83],
[109,97,110,121],
[77,79,83,84,95,80,65,82,84,83],
[105,110,115,116,97,110,99,101,115,32,111,102,32,116,111,111,32,109,97,110,121,32,112,97,114,116,115],
[114,101,102,117,115,101],
[111,116,104,101,114],
[101,110,116,105,116,121],
[99,111,110,116,101,120,116],
[115,101,116,100,101,102,97,117,108,116],
[112,97,114,116],
[98,111,100,121],
[112,114,105,118,97,116,101],
[102,114,101,115,104],
[115,116,101,112],
[115,116,101,112,115],
[105,110,115,116,97,110,99,101],
[115,117,98,116,121,112,101],
[102,111,114,109,97,108],
[103,101,110,101,114,105,99],
[100,97,116,97],
[102,116,121,112,101],
[112,111,112],
[99,104,101,99,107,95,97,99,116,117,97,108,95,116,121,112,101],
[102,112,97,99,107],
[119,114,97,112,112,101,114],
[99,104,101,99,107,95,102,111,114,109,97,108,95,112,97,99,107,97,103,101],
[111,114,100,101,114],
[105,115,95,105,109,112,108,105,99,105,116],
[105,115,95,111,118,101,114,114,105,100,100,101,110],
[107,105,110,100],
[116,121,112,101],
[99,104,101,99,107,95,109,97,100,101],
[105,115,95,99,111,109,112,108,101,116,101],
[99,104,101,99,107,95,98,111,100,105,101,115],
[114,97,105,115,101,95,109,105,115,115,105,110,103],
[111,98,106,101,99,116],
[99,97,110,95,119,97,105,116],
[108,105,110,101],
[97,32,102,117,108,108,32,100,101,99,108,97,114,97,116,105,111,110,32,105,115,32,109,105,115,115,105,110,103],
[46],
[39],
[67,104,101,99,107,70,97,117,108,116],
[97,32,99,104,105,108,100,32,117,110,105,116,32,105,115,32,108,101,102,116,32,111,117,116],
[115,101,116,116,108,101,95,114,105,118,97,108,115],
[109,97,100,101],
[104,111,109,101],
[103,105,118,101,95,117,110,105,113,117,101],
[107,101,121],
[69,110,116,105,116,121],
[105,115,95,99,111,110,115,116,97,110,116],
[102,117,108,108],
[100,101,99,108,97,114,101,95,114,101,97,100,121],
[117,110,105,113,117,101],
[100,101,99,108,97,114,97,116,105,111,110],
[99,104,101,99,107,95,102,111,114,109,97,108,95,100,105,115,99,115],
[117,115,101,115,95,97,114,111,117,110,100],
[105,110,115,116,97,110,99,101,115,95,119,105,116,104,105,110],
[112,97,114,116,115,95,111,102],
[117,110,105,116,95,110,97,109,101],
[115,117,98,98,111,100,121],
[117,110,102,105,110,105,115,104,101,100],
[97,110,32,105,110,115,116,97,110,99,101,32,97,104,101,97,100,32,111,102,32,105,116,115,32,103,101,110,101,114,105,99,39,115,32,98,111,100,121,32,105,115,32,108,101,102,116,32,111,117,116],
[109,97,120],
[119,111,114,100],
[115,111,114,116],
[97,115,115,111,99,115],
[110,101,119,95,110,117,109,98,101,114],
[116,121,112,101,95,104,111,109,101,115],
[77,79,83,84,95,73,78,83,84,65,78,67,69,83],
[116,111,111,32,109,97,110,121,32,105,110,115,116,97,110,99,101,115],
[117,110,100,101,114,95,119,97,121],
[77,79,83,84,95,85,78,68,69,82,95,87,65,89],
[87,69,73,71,72,84],
[77,79,83,84,95,87,69,73,71,72,84],
[105,110,115,116,97,110,99,101,115,32,116,111,111,32,100,101,101,112,32,119,105,116,104,105,110,32,111,110,101,32,97,110,111,116,104,101,114],
[97,100,100,95,112,97,114,116,115],
[99,111,115,116],
[73,78,83,84,65,78,67,69,95,67,79,83,84],
[87,73,84,72,73,78,95,67,79,83,84],
[97,108,105,97,115],
[105,110,115,116,97,110,116,105,97,116,101],
[111,117,116,101,114],
[105,110,110,101,114],
[105,110,115,116,97,110,99,101,95,114,101,103,105,111,110],
[102,111,117,110,100],
[114,101,115,111,108,118,101,95,115,116,101,112,115],
[99,104,101,99,107,95,97,99,116,117,97,108,95,116,121,112,101,115],
[115,117,98],
[105,115,95,111,112,101,114,97,116,111,114,95,115,105,103,110],
[112,97,114,97,109,115],
[114,101,115,117,108,116],
[111,112,101,114,97,116,111,114,95,102,105,116,115],
[110,111,32,112,114,111,102,105,108,101,32,111,102,32,97,110,32,111,112,101,114,97,116,111,114],
[99,104,101,99,107,95,101,108,100,101,114],
[100,101,99,108,97,114,97,116,105,111,110,115],
[66,79,68,73,69,83],
[97,32,98,111,100,121,32,119,105,116,104,105,110,32,97,32,115,112,101,99,105,102,105,99,97,116,105,111,110],
[111,112,101,110,95,114,101,103,105,111,110],
[115,104,111,119,110],
[114,101,115,111,108,118,101,95,100,101,99,108,115],
[98,101,103,105,110,95,112,114,105,118,97,116,101],
[104,105,100,100,101,110],
[99,104,101,99,107,95,115,104,111,119,110],
[115,116,97,116,101,109,101,110,116,115],
[104,97,110,100,108,101,114,115],
[100,101,99,108,97,114,101,95,103,101,110,101,114,105,99,95,98,111,100,121],
[97,32,98,111,100,121,32,119,105,116,104,111,117,116,32,105,116,115,32,115,112,101,99,105,102,105,99,97,116,105,111,110],
[98,101,103,105,110,95,98,111,100,121],
[100,101,99,108,115],
[115,116,109,116,115],
[97,108,108],
[99,97,117,103,104,116],
[100,101,99,108,97,114,101],
[109,97,107,101,95,114,101,97,100,121],
[97,100,100,95,117,115,101],
[104,101,114,101],
[112,97,114,101,110,116],
[107,101,121,115],
[100,101,102,97,117,108,116,115],
[102,111,114,109,97,108,115],
[102,111,114,109,97,108,95,110,97,109,101,115],
[111,116,104,101,114,115],
[107,110,111,119,110],
[102,115,117,98],
[116,121,112,101,115,95,116,111,108,100],
[97,32,102,111,114,109,97,108,32,115,116,97,110,100,115,32,116,119,105,99,101],
[32],
[115,116,114],
[100,101,102,97,117,108,116,95,111,102],
[70,82,65,77,69,95,75,73,78,68,83],
[102,114,97,109,101],
[101,120,99,101,112,116,105,111,110],
[102,114,97,109,101,95,114,101,103,105,111,110],
[99,111,117,110,116],
[97,114,111,117,110,100],
[105,115,95,114,101,97,100,121],
[105,115,95,104,105,100,100,101,110],
[82,101,103,105,111,110],
[108,101,118,101,108],
[118,105,115,105,98,108,101],
[109,111,115,116],
[116,111,100,111],
[116,114,101,101],
[104,105,103,104],
[116,117,112,108,101],
[105,115,105,110,115,116,97,110,99,101],
[108,105,115,116],
[101,120,116,101,110,100],
[117,110,105,116],
[117,110,105,116,95,115,111,114,116],
[97,110,32,105,110,115,116,97,110,99,101,32,111,102,32,97,110,111,116,104,101,114,32,115,111,114,116],
[97,99,116,117,97,108,115],
[109,97,116,99,104,95,102,111,114,109,97,108,115],
[102,111,114,109,97,108,95,107,101,121,115],
[98,117,105,108,100,101,114],
[66,117,105,108,100,101,114],
[110,97,109,105,110,103],
[108,97,121],
[112,97,99,107,98,111,100,121],
[115,101,108,101,99,116],
[76,65,89,69,82,83],
[104,111,109,111,103,114,97,112,104,115],
[115,116,97,121,115,95,115,104,111,119,110],
[115,99,114,105,112,116],
[76,105,109,105,116,115],
[83,99,111,112,101],
[100,101,99,108,97,114,101,95,112,97,99,107,97,103,101],
[100,101,99,108,97,114,101,95,112,97,99,107,97,103,101,95,98,111,100,121],
[100,101,99,108,97,114,101,95,105,110,115,116,97,110,99,101],
[95,108,97,119,95,97,108,105,97,115],
[95,108,97,119,95,110,111,110,101],
[100,117,101,115],
[108,111,111,107,95,117,112],
[115,101,108,101,99,116,95,102,114,111,109],
[95,108,97,119,95,117,115,101,115],
[104],
[100,101,99,108,97,114,101,95,103,101,110,101,114,105,99],
[117],
[95,108,97,119,95,110,97,109,101,100],
[95,108,97,119,95,111,102,102,101,114,101,100],
[103],
[98,111,100,105,101,115],
[119],
[107],
[118],
[104,103],
[103,104],
[105,115,95,108,101,116],
[117,118,119],
[109],
[95,108,97,119,95,115,111],
[100,117,101],
[95,108,97,119,95,109,101,97,110,116],
[105,109,109,101,100,105,97,116,101,95,101,110,116,105,116,105,101,115],
[111,102,102,101,114,101,100],
[111,102,102,101,114,101,100,95,101,110,116,105,116,105,101,115],
[105,115,95,111,118,101,114,108,111,97,100,97,98,108,101],
[105,115,95,110,97,109,101,100],
[115,112,111,116],
[99,104,111,105,99,101,115],
[97,110,32,97,99,116,117,97,108,32,119,105,116,104,111,117,116,32,97,32,110,97,109,101,32,98,101,104,105,110,100,32,110,97,109,101,100,32,111,110,101,115],
[116,111,111,32,109,97,110,121,32,97,99,116,117,97,108,115],
[119,97,110,116,101,100],
[99,104,111,105,99,101],
[99,104,111,105,99,101,95,110,97,109,101],
[110,111,32,115,117,99,104,32,102,111,114,109,97,108,44,32,111,114,32,109,111,114,101,32,116,104,97,110,32,111,110,101],
[97,32,102,111,114,109,97,108,32,104,97,115,32,116,119,111,32,97,99,116,117,97,108,115],
[97,99,116,117,97,108],
[97,32,102,111,114,109,97,108,32,119,105,116,104,111,117,116,32,97,110,32,97,99,116,117,97,108],
[98,111,120],
[100,101,102,97,117,108,116],
[110,97,109,101,100,95,101,110,116,105,116,105,101,115],
[105,115,95,111,102,102,101,114,101,100],
[102,111,114,109,97,108,115,95,98,101,115,105,100,101],
[117,115,101,95,116,121,112,101,115],
[111,102,102,101,114,101,100,95,111,112,101,114,97,116,111,114,115],
[107,105,110,100,115],
[110,111,32,115,117,99,104,32,116,104,105,110,103,44,32,111,114,32,109,111,114,101,32,116,104,97,110,32,111,110,101],
[111,119,110,101,114],
[116,101,120,116],
[119,111,114,107],
[109,97,114,107],
[116,121,112,101,95,101,110,116,105,116,121],
[117,110,100,101,114,95,99,108,97,117,115,101,115],
[110,111,32,115,117,99,104,32,100,101,99,108,97,114,97,116,105,111,110,32,104,101,114,101],
[116,104,101,114,101],
[114,101,115,111,108,118,101,95,98,121],
[95,95],
[97,100,111,112,116],
[112,114,101,102,105,120],
[105,115,95,119,105,116,104,105,110],
[101,110,99,108,111,115,101,115],
[115,116,97,110,100,105,110,103],
[114,105,118,97,108,115],
[100,101,99,108,97,114,101,100,32,116,119,105,99,101],
[107,101,112,116],
[116,121,112,101,115],
[83,69,80,65,82,65,84,79,82],
[115,117,98,112,114,111,103],
[115,101,108,102],
[108,105,109,105,116,115],
[99,104,111,111,115,101],
[116,121,112,101,100],
[115,116,97,116,105,99],
[98,117,105,108,100,101,114,115],
[119,97,121,115],
[],
[115,116,101,109],
[34],
[111,112],
[95],
[78,97,109,105,110,103],
[116,97,98,108,101],
[119,105,100,116,104],
[100,101,112,116,104],
[109,101,109,98,101,114,115],
[116,97,115,107,115],
[104,101,97,112],
[69,120,99,101,112,116,105,111,110],
[95,95,105,110,105,116,95,95],
[65,100,97,69,114,114,111,114],
[116,97,115,107,98,111,100,121],
[112,114,111,116,98,111,100,121],
[116,97,115,107],
[112,114,111,116,101,99,116,101,100],
[108,97,119]]
noncomputable def sy (i:Nat):List Nat:=match nth tb i with
 | some x=>x
 | none=>[1114112+i]
noncomputable def b__law_alias:List S:=[.expr (.call (.name 4 (q 837 4 17)) [.name 0 (q 837 18 23),.sub (.name 1 (q 837 25 29)) (.cint 3 0 (q 837 30 31)) (q 837 25 32),.call (.name 3 (q 837 34 44)) [.name 0 (q 837 45 50),.sub (.name 1 (q 837 52 56)) (.cint 5 0 (q 837 57 58)) (q 837 52 59),.list [.cstr 2 0 (q 837 62 71)] (q 837 61 72)] (q 837 34 73)] (q 837 4 74)) (q 837 4 74),
.ret (some (.list [] (q 838 11 13))) (q 838 4 13)]
noncomputable def d__law_alias:FD:=⟨[0,1],[],[(0,.local),(1,.local),(4,.globalImplicit),(3,.globalImplicit)],b__law_alias⟩
noncomputable def b__law_lift:List S:=[.aug (.sb (.name 5 (q 832 4 8)) (.cstr 6 0 (q 832 9 13)) (q 832 4 14)) .Add (.cint 1 0 (q 832 18 19)) (q 832 4 19),
.ife (.cmp (.sub (.name 5 (q 833 7 11)) (.cstr 6 0 (q 833 12 16)) (q 833 7 17)) .LtE (.call (.name 8 (q 833 21 24)) [.sub (.name 5 (q 833 25 29)) (.cstr 7 0 (q 833 30 35)) (q 833 25 36)] (q 833 21 37)) (q 833 7 37)) [.ret (some (.bin (.sub (.sub (.name 5 (q 834 15 19)) (.cstr 7 0 (q 834 20 25)) (q 834 15 26)) (.bin (.sub (.name 5 (q 834 27 31)) (.cstr 6 0 (q 834 32 36)) (q 834 27 37)) .Sub (.cint 1 0 (q 834 40 41)) (q 834 27 41)) (q 834 15 42)) .Mod (.name 9 (q 834 45 50)) (q 834 15 50))) (q 834 8 50)] [] ⟨833,4,834,50⟩,
.ret (some (.bin (.bin (.bin (.bin (.bin (.cint 2 0 (q 835 12 13)) .Mult (.sub (.name 5 (q 835 16 20)) (.cstr 6 0 (q 835 21 25)) (q 835 16 26)) (q 835 12 26)) .Mult (.sub (.name 5 (q 835 29 33)) (.cstr 6 0 (q 835 34 38)) (q 835 29 39)) (q 835 12 39)) .Add (.sub (.name 5 (q 835 42 46)) (.cstr 6 0 (q 835 47 51)) (q 835 42 52)) (q 835 12 52)) .Add (.cint 3 0 (q 835 55 56)) (q 835 12 56)) .Mod (.name 9 (q 835 60 65)) (q 835 11 65))) (q 835 4 65)]
noncomputable def d__law_lift:FD:=⟨[5,9],[],[(5,.local),(9,.local),(8,.globalImplicit)],b__law_lift⟩
noncomputable def b__law_meant:List S:=[.ret (some (.comp (.attr (.attr (.name 10 (q 857 12 15)) 11 (q 857 12 22)) 12 (q 857 12 29)) (.nm 10 (q 857 34 37)) (.meth (.attr (.name 11 (q 857 41 47)) 14 (q 857 41 53)) 15 (q 857 41 57) [.name 13 (q 857 58 62),.list [] (q 857 64 66)] (q 857 41 67)) [] [] [(16,.local),(10,.local)] [] (q 857 11 68))) (q 857 4 68)]
noncomputable def d__law_meant:FD:=⟨[11,13],[],[(11,.local),(13,.local)],b__law_meant⟩
noncomputable def b__law_named:List S:=[.ret (some (.tup [.cstr 17 0 (q 842 12 20),.cint 2 0 (q 842 22 23),.cstr 2 0 (q 842 25 34),.name 13 (q 842 36 40),.cnone 0 (q 842 42 46),.tup [.cstr 13 0 (q 842 49 55),.cstr 18 0 (q 842 57 60)] 0 (q 842 48 61)] 0 (q 842 11 62))) (q 842 4 62)]
noncomputable def d__law_named:FD:=⟨[13],[],[(13,.local)],b__law_named⟩
noncomputable def b__law_none:List S:=[.ret (some (.list [] (q 840 11 13))) (q 840 4 13)]
noncomputable def d__law_none:FD:=⟨[0,19],[],[(0,.local),(19,.local)],b__law_none⟩
noncomputable def b__law_offered:List S:=[.asg (.nm 7 (q 844 4 7)) (.comp (.name 10 (q 844 11 14)) (.nm 10 (q 844 19 22)) (.cstr 20 0 (q 844 26 31)) [.and_ [.cmp (.name 10 (q 844 35 38)) .In (.bin (.sub (.name 21 (q 844 42 46)) (.cint 0 0 (q 844 47 48)) (q 844 42 49)) .Add (.sub (.name 21 (q 844 52 56)) (.cint 1 0 (q 844 57 58)) (q 844 52 59)) (q 844 42 59)) (q 844 35 59),.cmp (.sub (.name 22 (q 844 64 68)) (.name 10 (q 844 69 72)) (q 844 64 73)) .IsNot (.cnone 0 (q 844 81 85)) (q 844 64 85)] (q 844 35 85)] [] [(16,.local),(10,.local),(22,.free),(21,.free)] [] (q 844 10 86)) (q 844 4 86),
.ret (some (.ife (.cmp (.call (.name 8 (q 845 21 24)) [.name 7 (q 845 25 28)] (q 845 21 29)) .Eq (.cint 1 0 (q 845 33 34)) (q 845 21 34)) (.sub (.name 7 (q 845 11 14)) (.cint 0 0 (q 845 15 16)) (q 845 11 17)) (.cnone 0 (q 845 40 44)) (q 845 11 44))) (q 845 4 44)]
noncomputable def d__law_offered:FD:=⟨[21,22],[],[(21,.cell),(22,.cell),(7,.local),(8,.globalImplicit)],b__law_offered⟩
noncomputable def b__law_so:List S:=[.ret (some (.cmp (.comp (.comp (.attr (.name 10 (q 855 13 16)) 13 (q 855 13 21)) (.nm 10 (q 855 26 29)) (.attr (.name 23 (q 855 33 38)) 24 (q 855 33 43)) [] [] [(16,.local),(10,.local)] [] (q 855 12 44)) (.nm 23 (q 855 49 54)) (.name 25 (q 855 58 64)) [] [] [(16,.local),(23,.local)] [] (q 855 11 65)) .Eq (.name 21 (q 855 69 73)) (q 855 11 73))) (q 855 4 73)]
noncomputable def d__law_so:FD:=⟨[25,21],[],[(25,.local),(21,.local)],b__law_so⟩
noncomputable def b__law_uses:List S:=[.for_ (.nm 26 (q 847 8 12)) (.call (.name 28 (q 847 16 21)) [.call (.name 27 (q 847 22 31)) [.name 5 (q 847 32 36),.cint 3 0 (q 847 38 39)] (q 847 22 40)] (q 847 16 41)) [.asg (.tp [(23,(q 848 8 13)),(29,(q 848 15 20))] 0 (q 848 8 20)) (.tup [.call (.name 27 (q 848 24 33)) [.name 5 (q 848 34 38),.cint 2 0 (q 848 40 41)] (q 848 24 42),.sub (.cstr 20 0 (q 848 44 49)) (.call (.name 27 (q 848 50 59)) [.name 5 (q 848 60 64),.cint 3 0 (q 848 66 67)] (q 848 50 68)) (q 848 44 69)] 0 (q 848 23 70)) (q 848 8 70),
.asg (.at_ (.name 0 (q 849 8 13)) 23 (q 849 8 19)) (.sub (.name 25 (q 849 22 28)) (.name 23 (q 849 29 34)) (q 849 22 35)) (q 849 8 35),
.expr (.call (.name 31 (q 850 8 19)) [.name 0 (q 850 20 25),.tup [.cstr 30 0 (q 850 28 33),.cint 1 0 (q 850 35 36),.list [.tup [.cstr 13 0 (q 850 40 46),.name 29 (q 850 48 53)] 0 (q 850 39 54)] (q 850 38 55)] 0 (q 850 27 56)] (q 850 8 57)) (q 850 8 57),
.ife (.cmp (.name 29 (q 851 11 16)) .NotIn (.sub (.name 21 (q 851 24 28)) (.name 23 (q 851 29 34)) (q 851 24 35)) (q 851 11 35)) [.expr (.meth (.sub (.name 21 (q 852 12 16)) (.name 23 (q 852 17 22)) (q 852 12 23)) 32 (q 852 12 30) [.name 29 (q 852 31 36)] (q 852 12 37)) (q 852 12 37)] [] ⟨851,8,852,37⟩] ⟨847,4,852,37⟩,
.asg (.at_ (.name 0 (q 853 4 9)) 23 (q 853 4 15)) (.sub (.name 25 (q 853 18 24)) (.cint 1 0 (q 853 25 26)) (q 853 18 27)) (q 853 4 27)]
noncomputable def d__law_uses:FD:=⟨[5,0,25,21],[],[(5,.local),(0,.local),(25,.local),(21,.local),(26,.local),(23,.local),(29,.local),(28,.globalImplicit),(27,.globalImplicit),(31,.globalImplicit)],b__law_uses⟩
noncomputable def b_add_parts:List S:=[.asg (.nm 33 (q 672 4 10)) (.attr (.attr (.attr (.name 0 (q 672 13 18)) 23 (q 672 13 24)) 34 (q 672 13 29)) 33 (q 672 13 36)) (q 672 4 36),
.asg (.sb (.name 33 (q 673 4 10)) (.name 35 (q 673 11 21)) (q 673 4 22)) (.bin (.meth (.name 33 (q 673 25 31)) 15 (q 673 25 35) [.name 35 (q 673 36 46),.cint 0 0 (q 673 48 49)] (q 673 25 50)) .Add (.name 36 (q 673 53 57)) (q 673 25 57)) (q 673 4 57),
.ife (.cmp (.sub (.name 33 (q 674 7 13)) (.name 35 (q 674 14 24)) (q 674 7 25)) .Gt (.name 37 (q 674 28 38)) (q 674 7 38)) [.expr (.call (.name 39 (q 675 8 14)) [.name 0 (q 675 15 20),.cstr 38 0 (q 675 22 51)] (q 675 8 52)) (q 675 8 52)] [] ⟨674,4,675,52⟩]
noncomputable def d_add_parts:FD:=⟨[0,36],[],[(0,.local),(36,.local),(33,.local),(35,.globalImplicit),(37,.globalImplicit),(39,.globalImplicit)],b_add_parts⟩
noncomputable def b_add_use:List S:=[.ife (.cmp (.comp (.name 40 (q 377 8 13)) (.nm 40 (q 377 18 23)) (.attr (.name 11 (q 377 27 33)) 24 (q 377 27 38)) [.cmp (.attr (.name 40 (q 377 42 47)) 12 (q 377 42 54)) .Eq (.attr (.name 2 (q 377 58 65)) 12 (q 377 58 72)) (q 377 42 72)] [] [(16,.local),(40,.local),(2,.free)] [] (q 377 7 73)) .Eq (.list [] (q 377 77 79)) (q 377 7 79)) [.expr (.meth (.attr (.name 11 (q 378 8 14)) 24 (q 378 8 19)) 32 (q 378 8 26) [.name 2 (q 378 27 34)] (q 378 8 35)) (q 378 8 35)] [] ⟨377,4,378,35⟩]
noncomputable def d_add_use:FD:=⟨[11,2],[],[(11,.local),(2,.cell)],b_add_use⟩
noncomputable def b_adopt:List S:=[.asg (.nm 7 (q 373 4 7)) (.meth (.attr (.name 42 (q 373 10 17)) 14 (q 373 10 23)) 43 (q 373 10 34) [.attr (.name 41 (q 373 35 41)) 13 (q 373 35 46),.list [] (q 373 48 50)] (q 373 10 51)) (q 373 4 51),
.ife (.cmp (.comp (.name 40 (q 374 8 13)) (.nm 40 (q 374 18 23)) (.name 7 (q 374 27 30)) [.cmp (.attr (.name 40 (q 374 34 39)) 12 (q 374 34 46)) .Eq (.attr (.name 41 (q 374 50 56)) 12 (q 374 50 63)) (q 374 34 63)] [] [(16,.local),(40,.local),(41,.free)] [] (q 374 7 64)) .Eq (.list [] (q 374 68 70)) (q 374 7 70)) [.expr (.meth (.name 7 (q 375 8 11)) 32 (q 375 8 18) [.name 41 (q 375 19 25)] (q 375 8 26)) (q 375 8 26)] [] ⟨374,4,375,26⟩]
noncomputable def d_adopt:FD:=⟨[42,41],[],[(42,.local),(41,.cell),(7,.local)],b_adopt⟩
noncomputable def b_begin_body:List S:=[.asg (.at_ (.name 11 (q 328 4 10)) 44 (q 328 4 15)) (.cstr 45 0 (q 328 18 24)) (q 328 4 24)]
noncomputable def d_begin_body:FD:=⟨[11],[],[(11,.local)],b_begin_body⟩
noncomputable def b_begin_private:List S:=[.asg (.at_ (.name 11 (q 326 4 10)) 44 (q 326 4 15)) (.cstr 46 0 (q 326 18 27)) (q 326 4 27)]
noncomputable def d_begin_private:FD:=⟨[11],[],[(11,.local)],b_begin_private⟩
noncomputable def b_check_actual_types:List S:=[.asg (.nm 47 (q 717 4 9)) (.comp (.sub (.name 48 (q 717 13 17)) (.cint 2 0 (q 717 18 19)) (q 717 13 20)) (.tp [(23,(q 717 25 30)),(48,(q 717 32 36))] 0 (q 717 25 36)) (.name 49 (q 717 40 45)) [.and_ [.cmp (.name 23 (q 717 49 54)) .Eq (.cstr 50 0 (q 717 58 68)) (q 717 49 68),.cmp (.sub (.name 48 (q 717 73 77)) (.cint 0 0 (q 717 78 79)) (q 717 73 80)) .Eq (.cstr 51 0 (q 717 84 93)) (q 717 73 93)] (q 717 49 93)] [] [(16,.local),(23,.local),(48,.local)] [] (q 717 12 94)) (q 717 4 94),
.for_ (.nm 52 (q 718 8 14)) (.sub (.sub (.attr (.name 53 (q 718 18 25)) 54 (q 718 18 30)) (.cint 0 0 (q 718 31 32)) (q 718 18 33)) (.cint 2 0 (q 718 34 35)) (q 718 18 36)) [.ife (.cmp (.sub (.name 52 (q 719 11 17)) (.cint 0 0 (q 719 18 19)) (q 719 11 20)) .Eq (.cstr 55 0 (q 719 24 31)) (q 719 11 31)) [.expr (.call (.name 57 (q 720 12 29)) [.name 0 (q 720 30 35),.name 52 (q 720 37 43),.attr (.sub (.sub (.attr (.attr (.name 0 (q 720 45 50)) 23 (q 720 45 56)) 14 (q 720 45 62)) (.meth (.name 47 (q 720 63 68)) 56 (q 720 63 72) [.cint 0 0 (q 720 73 74)] (q 720 63 75)) (q 720 45 76)) (.cint 0 0 (q 720 77 78)) (q 720 45 79)) 51 (q 720 45 87)] (q 720 12 88)) (q 720 12 88)] [.ife (.cmp (.sub (.name 52 (q 721 13 19)) (.cint 0 0 (q 721 20 21)) (q 721 13 22)) .Eq (.cstr 58 0 (q 721 26 33)) (q 721 13 33)) [.expr (.call (.name 60 (q 722 12 32)) [.name 0 (q 722 33 38),.name 52 (q 722 40 46),.name 59 (q 722 48 55),.sub (.attr (.name 53 (q 722 57 64)) 54 (q 722 57 69)) (.cint 2 0 (q 722 70 71)) (q 722 57 72)] (q 722 12 73)) (q 722 12 73)] [] ⟨721,8,722,73⟩] ⟨719,8,722,73⟩] ⟨718,4,722,73⟩]
noncomputable def d_check_actual_types:FD:=⟨[0,53,59,49],[],[(0,.local),(53,.local),(59,.local),(49,.local),(47,.local),(52,.local),(57,.globalImplicit),(60,.globalImplicit)],b_check_actual_types⟩
noncomputable def b_check_bodies:List S:=[.for_ (.nm 41 (q 576 8 14)) (.attr (.name 11 (q 576 18 24)) 61 (q 576 18 30)) [.ife (.or_ [.attr (.name 41 (q 577 11 17)) 62 (q 577 11 29),.attr (.name 41 (q 577 33 39)) 63 (q 577 33 53)] (q 577 11 53)) [.cont (q 578 12 20)] [] ⟨577,8,578,20⟩,
.ife (.cmp (.attr (.name 41 (q 579 11 17)) 64 (q 579 11 22)) .Eq (.cstr 65 0 (q 579 26 32)) (q 579 11 32)) [.expr (.call (.name 66 (q 580 12 22)) [.name 41 (q 580 23 29)] (q 580 12 30)) (q 580 12 30)] [] ⟨579,8,580,30⟩,
.ife (.and_ [.cmp (.attr (.name 41 (q 581 11 17)) 64 (q 581 11 22)) .Eq (.cstr 2 0 (q 581 26 35)) (q 581 11 35),.not_ (.attr (.name 41 (q 581 45 51)) 67 (q 581 45 63)) (q 581 41 63),.cmp (.attr (.name 41 (q 581 70 76)) 11 (q 581 70 83)) .IsNot (.cnone 0 (q 581 91 95)) (q 581 70 95)] (q 581 11 96)) [.expr (.call (.name 68 (q 582 12 24)) [.name 0 (q 582 25 30),.attr (.name 41 (q 582 32 38)) 11 (q 582 32 45)] (q 582 12 46)) (q 582 12 46)] [.ife (.and_ [.not_ (.attr (.name 41 (q 583 17 23)) 67 (q 583 17 35)) (q 583 13 35),.cmp (.attr (.name 41 (q 583 40 46)) 64 (q 583 40 51)) .NotIn (.tup [.cstr 2 0 (q 583 60 69),.cstr 53 0 (q 583 71 80)] 0 (q 583 59 81)) (q 583 40 81)] (q 583 13 81)) [.expr (.call (.name 69 (q 584 12 25)) [.name 0 (q 584 26 31),.name 41 (q 584 33 39)] (q 584 12 40)) (q 584 12 40)] [] ⟨583,8,584,40⟩] ⟨581,8,584,40⟩] ⟨576,4,584,40⟩]
noncomputable def d_check_bodies:FD:=⟨[0,11],[],[(0,.local),(11,.local),(41,.local),(66,.globalImplicit),(68,.globalImplicit),(69,.globalImplicit)],b_check_bodies⟩
noncomputable def b_check_shown:List S:=[.for_ (.nm 41 (q 619 8 14)) (.attr (.name 11 (q 619 18 24)) 61 (q 619 18 30)) [.ife (.and_ [.cmp (.attr (.name 41 (q 620 11 17)) 64 (q 620 11 22)) .In (.tup [.cstr 65 0 (q 620 27 33),.cstr 70 0 (q 620 35 43)] 0 (q 620 26 44)) (q 620 11 44),.not_ (.attr (.name 41 (q 620 54 60)) 67 (q 620 54 72)) (q 620 50 72),.not_ (.call (.name 71 (q 620 83 91)) [.name 41 (q 620 92 98)] (q 620 83 99)) (q 620 79 99)] (q 620 11 100)) [.asg (.at_ (.name 0 (q 621 12 17)) 72 (q 621 12 22)) (.attr (.name 41 (q 621 25 31)) 72 (q 621 25 36)) (q 621 12 36),
.expr (.call (.name 39 (q 622 12 18)) [.name 0 (q 622 19 24),.cstr 73 0 (q 622 26 57)] (q 622 12 58)) (q 622 12 58)] [] ⟨620,8,622,58⟩,
.ife (.cmp (.attr (.name 41 (q 623 11 17)) 64 (q 623 11 22)) .Eq (.cstr 65 0 (q 623 26 32)) (q 623 11 32)) [.expr (.call (.name 66 (q 624 12 22)) [.name 41 (q 624 23 29)] (q 624 12 30)) (q 624 12 30)] [] ⟨623,8,624,30⟩] ⟨619,4,624,30⟩]
noncomputable def d_check_shown:FD:=⟨[0,11],[],[(0,.local),(11,.local),(41,.local),(71,.globalImplicit),(39,.globalImplicit),(66,.globalImplicit)],b_check_shown⟩
noncomputable def b_declare:List S:=[.ife (.and_ [.cmp (.cstr 74 0 (q 357 7 10)) .In (.attr (.name 41 (q 357 14 20)) 13 (q 357 14 25)) (q 357 7 25),.cmp (.cut (.attr (.name 41 (q 357 30 36)) 13 (q 357 30 41)) none (some (.cint 1 0 (q 357 43 44))) (q 357 42 44) (q 357 30 45)) .NotEq (.cstr 75 0 (q 357 49 52)) (q 357 30 52)] (q 357 7 52)) [.rais 76 (q 358 14 24) (.attr (.name 41 (q 358 25 31)) 72 (q 358 25 36)) (.cstr 77 0 (q 358 38 64)) (q 358 14 65) (q 358 8 65)] [] ⟨357,4,358,65⟩,
.expr (.call (.name 78 (q 359 4 17)) [.name 11 (q 359 18 24),.name 41 (q 359 26 32)] (q 359 4 33)) (q 359 4 33),
.aug (.at_ (.attr (.name 11 (q 360 4 10)) 34 (q 360 4 15)) 79 (q 360 4 20)) .Add (.cint 1 0 (q 360 24 25)) (q 360 4 25),
.asg (.at_ (.name 41 (q 361 4 10)) 12 (q 361 4 17)) (.attr (.attr (.name 11 (q 361 20 26)) 34 (q 361 20 31)) 79 (q 361 20 36)) (q 361 4 36),
.asg (.at_ (.name 41 (q 362 4 10)) 80 (q 362 4 15)) (.name 11 (q 362 18 24)) (q 362 4 24),
.asg (.at_ (.name 41 (q 363 4 10)) 44 (q 363 4 15)) (.attr (.name 11 (q 363 18 24)) 44 (q 363 18 29)) (q 363 4 29),
.expr (.call (.name 81 (q 364 4 15)) [.name 11 (q 364 16 22),.name 41 (q 364 24 30)] (q 364 4 31)) (q 364 4 31),
.expr (.meth (.meth (.attr (.name 11 (q 365 4 10)) 14 (q 365 4 16)) 43 (q 365 4 27) [.attr (.name 41 (q 365 28 34)) 13 (q 365 28 39),.list [] (q 365 41 43)] (q 365 4 44)) 32 (q 365 4 51) [.name 41 (q 365 52 58)] (q 365 4 59)) (q 365 4 59),
.expr (.meth (.attr (.name 11 (q 366 4 10)) 61 (q 366 4 16)) 32 (q 366 4 23) [.name 41 (q 366 24 30)] (q 366 4 31)) (q 366 4 31)]
noncomputable def d_declare:FD:=⟨[11,41],[],[(11,.local),(41,.local),(76,.globalImplicit),(78,.globalImplicit),(81,.globalImplicit)],b_declare⟩
noncomputable def b_declare_alias:List S:=[.asg (.nm 41 (q 541 4 10)) (.call (.name 83 (q 541 13 19)) [.attr (.name 40 (q 541 20 25)) 64 (q 541 20 30),.name 13 (q 541 32 36),.attr (.name 40 (q 541 38 43)) 82 (q 541 38 47),.attr (.name 40 (q 541 49 54)) 51 (q 541 49 62),.attr (.name 40 (q 541 64 69)) 54 (q 541 64 74),.attr (.name 0 (q 541 76 81)) 72 (q 541 76 86)] (q 541 13 87)) (q 541 4 87),
.asg (.at_ (.name 41 (q 542 4 10)) 67 (q 542 4 22)) (.cbool true 0 (q 542 25 29)) (q 542 4 29),
.asg (.at_ (.name 41 (q 543 4 10)) 84 (q 543 4 22)) (.attr (.name 40 (q 543 25 30)) 84 (q 543 25 42)) (q 543 4 42),
.asg (.at_ (.name 41 (q 544 4 10)) 85 (q 544 4 15)) (.attr (.name 40 (q 544 18 23)) 85 (q 544 18 28)) (q 544 4 28),
.expr (.call (.name 86 (q 545 4 17)) [.attr (.name 0 (q 545 18 23)) 23 (q 545 18 29),.name 41 (q 545 31 37)] (q 545 4 38)) (q 545 4 38),
.asg (.at_ (.name 41 (q 546 4 10)) 87 (q 546 4 17)) (.attr (.name 40 (q 546 20 25)) 87 (q 546 20 32)) (q 546 4 32),
.asg (.at_ (.name 41 (q 547 4 10)) 80 (q 547 4 15)) (.attr (.name 40 (q 547 18 23)) 80 (q 547 18 28)) (q 547 4 28),
.asg (.at_ (.name 41 (q 548 4 10)) 11 (q 548 4 17)) (.attr (.name 40 (q 548 20 25)) 11 (q 548 20 32)) (q 548 4 32),
.ret (some (.name 41 (q 549 11 17))) (q 549 4 17)]
noncomputable def d_declare_alias:FD:=⟨[0,13,40],[],[(0,.local),(13,.local),(40,.local),(41,.local),(83,.globalImplicit),(86,.globalImplicit)],b_declare_alias⟩
noncomputable def b_declare_generic:List S:=[.for_ (.nm 52 (q 684 8 14)) (.sub (.name 88 (q 684 18 29)) (.cint 2 0 (q 684 30 31)) (q 684 18 32)) [.ife (.cmp (.sub (.name 52 (q 685 11 17)) (.cint 0 0 (q 685 18 19)) (q 685 11 20)) .Eq (.cstr 55 0 (q 685 24 31)) (q 685 11 31)) [.expr (.call (.name 89 (q 686 12 30)) [.name 0 (q 686 31 36),.sub (.name 52 (q 686 38 44)) (.cint 3 0 (q 686 45 46)) (q 686 38 47),.sub (.name 52 (q 686 49 55)) (.cint 4 0 (q 686 56 57)) (q 686 49 58)] (q 686 12 59)) (q 686 12 59)] [] ⟨685,8,686,59⟩] ⟨684,4,686,59⟩,
.asg (.nm 54 (q 687 4 8)) (.list [.name 88 (q 687 12 23),.cnone 0 (q 687 25 29),.call (.name 90 (q 687 31 42)) [.attr (.name 0 (q 687 43 48)) 23 (q 687 43 54)] (q 687 31 55),.list [] (q 687 57 59),.call (.name 91 (q 687 61 77)) [.name 88 (q 687 78 89)] (q 687 61 90),.cint 0 0 (q 687 92 93),.call (.name 92 (q 687 95 103)) [.name 88 (q 687 104 115)] (q 687 95 116)] (q 687 11 117)) (q 687 4 117),
.asg (.nm 41 (q 688 4 10)) (.call (.name 83 (q 688 13 19)) [.cstr 53 0 (q 688 20 29),.call (.name 93 (q 688 31 40)) [.sub (.name 88 (q 688 41 52)) (.cint 3 0 (q 688 53 54)) (q 688 41 55)] (q 688 31 56),.cnone 0 (q 688 58 62),.cnone 0 (q 688 64 68),.name 54 (q 688 70 74),.sub (.name 88 (q 688 76 87)) (.cint 1 0 (q 688 88 89)) (q 688 76 90)] (q 688 13 91)) (q 688 4 91),
.expr (.call (.name 86 (q 689 4 17)) [.attr (.name 0 (q 689 18 23)) 23 (q 689 18 29),.name 41 (q 689 31 37)] (q 689 4 38)) (q 689 4 38),
.ret (some (.list [] (q 690 11 13))) (q 690 4 13)]
noncomputable def d_declare_generic:FD:=⟨[0,88],[],[(0,.local),(88,.local),(52,.local),(54,.local),(41,.local),(89,.globalImplicit),(90,.globalImplicit),(91,.globalImplicit),(92,.globalImplicit),(83,.globalImplicit),(93,.globalImplicit),(86,.globalImplicit)],b_declare_generic⟩
noncomputable def b_declare_generic_body:List S:=[.asg (.nm 13 (q 699 4 8)) (.ife (.cmp (.sub (.name 88 (q 699 32 43)) (.cint 0 0 (q 699 44 45)) (q 699 32 46)) .Eq (.cstr 94 0 (q 699 50 59)) (q 699 32 59)) (.sub (.sub (.name 88 (q 699 11 22)) (.cint 2 0 (q 699 23 24)) (q 699 11 25)) (.cint 1 0 (q 699 26 27)) (q 699 11 28)) (.sub (.name 88 (q 699 65 76)) (.cint 2 0 (q 699 77 78)) (q 699 65 79)) (q 699 11 79)) (q 699 4 79),
.asg (.nm 41 (q 700 4 10)) (.call (.name 95 (q 700 13 23)) [.attr (.name 0 (q 700 24 29)) 23 (q 700 24 35),.name 13 (q 700 37 41),.cnone 0 (q 700 43 47)] (q 700 13 48)) (q 700 4 48),
.ife (.cmp (.sub (.attr (.name 41 (q 701 7 13)) 54 (q 701 7 18)) (.cint 5 0 (q 701 19 20)) (q 701 7 21)) .Gt (.cint 0 0 (q 701 24 25)) (q 701 7 25)) [.expr (.call (.name 39 (q 702 8 14)) [.name 0 (q 702 15 20),.cstr 96 0 (q 702 22 75)] (q 702 8 76)) (q 702 8 76)] [] ⟨701,4,702,76⟩,
.asg (.sb (.attr (.name 41 (q 703 4 10)) 54 (q 703 4 15)) (.cint 1 0 (q 703 16 17)) (q 703 4 18)) (.name 88 (q 703 21 32)) (q 703 4 32),
.asg (.sb (.attr (.name 41 (q 704 4 10)) 54 (q 704 4 15)) (.cint 3 0 (q 704 16 17)) (q 704 4 18)) (.call (.name 90 (q 704 21 32)) [.attr (.name 0 (q 704 33 38)) 23 (q 704 33 44)] (q 704 21 45)) (q 704 4 45),
.asg (.sb (.attr (.name 41 (q 705 4 10)) 54 (q 705 4 15)) (.cint 4 0 (q 705 16 17)) (q 705 4 18)) (.call (.name 97 (q 705 21 24)) [.sub (.attr (.name 41 (q 705 25 31)) 54 (q 705 25 36)) (.cint 4 0 (q 705 37 38)) (q 705 25 39),.bin (.cint 1 0 (q 705 41 42)) .Add (.call (.name 91 (q 705 45 61)) [.name 88 (q 705 62 73)] (q 705 45 74)) (q 705 41 74)] (q 705 21 75)) (q 705 4 75),
.aug (.sb (.attr (.name 41 (q 706 4 10)) 54 (q 706 4 15)) (.cint 6 0 (q 706 16 17)) (q 706 4 18)) .Add (.call (.name 92 (q 706 22 30)) [.name 88 (q 706 31 42)] (q 706 22 43)) (q 706 4 43),
.asg (.at_ (.name 41 (q 707 4 10)) 67 (q 707 4 22)) (.cbool true 0 (q 707 25 29)) (q 707 4 29),
.ret (some (.list [] (q 708 11 13))) (q 708 4 13)]
noncomputable def d_declare_generic_body:FD:=⟨[0,88],[],[(0,.local),(88,.local),(13,.local),(41,.local),(95,.globalImplicit),(39,.globalImplicit),(90,.globalImplicit),(97,.globalImplicit),(91,.globalImplicit),(92,.globalImplicit)],b_declare_generic_body⟩
noncomputable def b_declare_instance:List S:=[.asg (.tp [(98,(q 786 4 8)),(72,(q 786 10 14)),(99,(q 786 16 20)),(13,(q 786 22 26)),(1,(q 786 28 32)),(100,(q 786 34 40))] 0 (q 786 4 40)) (.name 88 (q 786 43 54)) (q 786 4 54),
.asg (.nm 53 (q 787 4 11)) (.call (.name 3 (q 787 14 24)) [.name 0 (q 787 25 30),.name 1 (q 787 32 36),.list [.cstr 53 0 (q 787 39 48)] (q 787 38 49)] (q 787 14 50)) (q 787 4 50),
.asg (.nm 12 (q 788 4 10)) (.call (.name 101 (q 788 13 23)) [.name 0 (q 788 24 29)] (q 788 13 30)) (q 788 4 30),
.ife (.or_ [.cmp (.call (.name 8 (q 789 7 10)) [.attr (.attr (.attr (.name 0 (q 789 11 16)) 23 (q 789 11 22)) 34 (q 789 11 27)) 102 (q 789 11 38)] (q 789 7 39)) .Gt (.bin (.name 103 (q 789 42 56)) .Mult (.cint 20 0 (q 789 59 61)) (q 789 42 61)) (q 789 7 61),.cmp (.name 12 (q 789 65 71)) .Gt (.bin (.cint 100 0 (q 789 74 77)) .Add (.bin (.name 103 (q 789 80 94)) .Mult (.cint 40 0 (q 789 97 99)) (q 789 80 99)) (q 789 74 99)) (q 789 65 99)] (q 789 7 99)) [.expr (.call (.name 39 (q 790 8 14)) [.name 0 (q 790 15 20),.cstr 104 0 (q 790 22 42)] (q 790 8 43)) (q 790 8 43)] [] ⟨789,4,790,43⟩,
.asg (.nm 33 (q 791 4 10)) (.attr (.attr (.attr (.name 0 (q 791 13 18)) 23 (q 791 13 24)) 34 (q 791 13 29)) 33 (q 791 13 36)) (q 791 4 36),
.ife (.or_ [.cmp (.attr (.name 0 (q 792 7 12)) 105 (q 792 7 22)) .GtE (.name 106 (q 792 26 40)) (q 792 7 40),.cmp (.meth (.name 33 (q 792 44 50)) 15 (q 792 44 54) [.name 107 (q 792 55 61),.cint 0 0 (q 792 63 64)] (q 792 44 65)) .Gt (.name 108 (q 792 68 79)) (q 792 44 79)] (q 792 7 79)) [.expr (.call (.name 39 (q 793 8 14)) [.name 0 (q 793 15 20),.cstr 109 0 (q 793 22 61)] (q 793 8 62)) (q 793 8 62)] [] ⟨792,4,793,62⟩,
.expr (.call (.name 110 (q 794 4 13)) [.name 0 (q 794 14 19),.sub (.attr (.name 53 (q 794 21 28)) 54 (q 794 21 33)) (.cint 6 0 (q 794 34 35)) (q 794 21 36)] (q 794 4 37)) (q 794 4 37),
.aug (.sb (.attr (.name 53 (q 795 4 11)) 54 (q 795 4 16)) (.cint 5 0 (q 795 17 18)) (q 795 4 19)) .Add (.cint 1 0 (q 795 23 24)) (q 795 4 24),
.asg (.nm 111 (q 796 4 8)) (.bin (.name 112 (q 796 11 24)) .Add (.bin (.name 113 (q 796 27 38)) .Mult (.sub (.attr (.name 53 (q 796 41 48)) 54 (q 796 41 53)) (.cint 4 0 (q 796 54 55)) (q 796 41 56)) (q 796 27 56)) (q 796 11 56)) (q 796 4 56),
.asg (.tp [(49,(q 797 4 9)),(114,(q 797 11 16))] 0 (q 797 4 16)) (.call (.name 115 (q 797 19 30)) [.sub (.attr (.name 53 (q 797 31 38)) 54 (q 797 31 43)) (.cint 0 0 (q 797 44 45)) (q 797 31 46),.sub (.attr (.name 53 (q 797 48 55)) 54 (q 797 48 60)) (.cint 1 0 (q 797 61 62)) (q 797 48 63),.name 88 (q 797 65 76),.name 12 (q 797 78 84)] (q 797 19 85)) (q 797 4 85),
.asg (.nm 116 (q 798 4 9)) (.attr (.name 0 (q 798 12 17)) 23 (q 798 12 23)) (q 798 4 23),
.asg (.nm 117 (q 799 4 9)) (.call (.name 118 (q 799 12 27)) [.name 0 (q 799 28 33),.name 53 (q 799 35 42)] (q 799 12 43)) (q 799 4 43),
.aug (.at_ (.name 0 (q 800 4 9)) 105 (q 800 4 19)) .Add (.cint 1 0 (q 800 23 24)) (q 800 4 24),
.asg (.sb (.name 33 (q 801 4 10)) (.name 107 (q 801 11 17)) (q 801 4 18)) (.bin (.meth (.name 33 (q 801 21 27)) 15 (q 801 21 31) [.name 107 (q 801 32 38),.cint 0 0 (q 801 40 41)] (q 801 21 42)) .Add (.name 111 (q 801 45 49)) (q 801 21 49)) (q 801 4 49),
.tryF [.asg (.nm 119 (q 803 8 13)) (.call (.name 120 (q 803 16 29)) [.name 0 (q 803 30 35),.name 49 (q 803 37 42),.name 117 (q 803 44 49),.name 116 (q 803 51 56),.name 53 (q 803 58 65)] (q 803 16 66)) (q 803 8 66)] [.aug (.at_ (.name 0 (q 805 8 13)) 105 (q 805 8 23)) .Sub (.cint 1 0 (q 805 27 28)) (q 805 8 28),
.aug (.sb (.name 33 (q 806 8 14)) (.name 107 (q 806 15 21)) (q 806 8 22)) .Sub (.name 111 (q 806 26 30)) (q 806 8 30)] ⟨802,4,806,30⟩,
.asg (.at_ (.name 0 (q 807 4 9)) 23 (q 807 4 15)) (.name 116 (q 807 18 23)) (q 807 4 23),
.asg (.at_ (.name 0 (q 808 4 9)) 72 (q 808 4 14)) (.name 72 (q 808 17 21)) (q 808 4 21),
.asg (.nm 59 (q 809 4 11)) (.sub (.sub (.attr (.name 117 (q 809 14 19)) 14 (q 809 14 25)) (.sub (.sub (.sub (.name 114 (q 809 26 31)) (.cint 3 0 (q 809 32 33)) (q 809 26 34)) (.cint 1 0 (q 809 35 36)) (q 809 26 37)) (.cint 1 0 (q 809 38 39)) (q 809 26 40)) (q 809 14 41)) (.cint 0 0 (q 809 42 43)) (q 809 14 44)) (q 809 4 44),
.expr (.call (.name 121 (q 810 4 22)) [.name 0 (q 810 23 28),.name 53 (q 810 30 37),.name 59 (q 810 39 46),.name 49 (q 810 48 53)] (q 810 4 54)) (q 810 4 54),
.asg (.nm 7 (q 811 4 7)) (.comp (.name 10 (q 811 11 14)) (.nm 10 (q 811 19 22)) (.meth (.attr (.attr (.name 59 (q 811 26 33)) 11 (q 811 26 40)) 14 (q 811 26 46)) 15 (q 811 26 50) [.sub (.sub (.name 114 (q 811 51 56)) (.cint 3 0 (q 811 57 58)) (q 811 51 59)) (.cint 2 0 (q 811 60 61)) (q 811 51 62),.list [] (q 811 64 66)] (q 811 26 67)) [.not_ (.attr (.name 10 (q 811 75 78)) 63 (q 811 75 92)) (q 811 71 92)] [] [(16,.local),(10,.local)] [] (q 811 10 93)) (q 811 4 93),
.expr (.call (.name 68 (q 812 4 16)) [.name 0 (q 812 17 22),.attr (.name 59 (q 812 24 31)) 11 (q 812 24 38)] (q 812 4 39)) (q 812 4 39),
.ife (.cmp (.attr (.sub (.name 7 (q 813 7 10)) (.neg (.cint 1 0 (q 813 12 13)) (q 813 11 13)) (q 813 7 14)) 64 (q 813 7 19)) .Eq (.cstr 122 0 (q 813 23 28)) (q 813 7 28)) [.ife (.and_ [.call (.name 123 (q 814 11 27)) [.name 13 (q 814 28 32)] (q 814 11 33),.not_ (.call (.name 126 (q 814 43 56)) [.name 13 (q 814 57 61),.attr (.attr (.sub (.name 7 (q 814 63 66)) (.neg (.cint 1 0 (q 814 68 69)) (q 814 67 69)) (q 814 63 70)) 54 (q 814 63 75)) 124 (q 814 63 82),.attr (.attr (.sub (.name 7 (q 814 84 87)) (.neg (.cint 1 0 (q 814 89 90)) (q 814 88 90)) (q 814 84 91)) 54 (q 814 84 96)) 125 (q 814 84 103)] (q 814 43 104)) (q 814 39 104)] (q 814 11 105)) [.expr (.call (.name 39 (q 815 12 18)) [.name 0 (q 815 19 24),.cstr 127 0 (q 815 26 53)] (q 815 12 54)) (q 815 12 54)] [] ⟨814,8,815,54⟩,
.expr (.call (.name 128 (q 816 8 19)) [.name 0 (q 816 20 25),.name 13 (q 816 27 31),.attr (.sub (.name 7 (q 816 33 36)) (.neg (.cint 1 0 (q 816 38 39)) (q 816 37 39)) (q 816 33 40)) 82 (q 816 33 44),.attr (.sub (.name 7 (q 816 46 49)) (.neg (.cint 1 0 (q 816 51 52)) (q 816 50 52)) (q 816 46 53)) 54 (q 816 46 58)] (q 816 8 59)) (q 816 8 59)] [] ⟨813,4,816,59⟩,
.expr (.call (.name 4 (q 817 4 17)) [.name 0 (q 817 18 23),.name 13 (q 817 25 29),.sub (.name 7 (q 817 31 34)) (.neg (.cint 1 0 (q 817 36 37)) (q 817 35 37)) (q 817 31 38)] (q 817 4 39)) (q 817 4 39),
.ret (some (.name 119 (q 818 11 16))) (q 818 4 16)]
noncomputable def d_declare_instance:FD:=⟨[0,88],[],[(0,.local),(88,.local),(98,.local),(72,.local),(99,.local),(13,.local),(1,.local),(100,.local),(53,.local),(12,.local),(33,.local),(111,.local),(49,.local),(114,.local),(116,.local),(117,.local),(119,.local),(59,.local),(7,.local),(3,.globalImplicit),(101,.globalImplicit),(8,.globalImplicit),(103,.globalImplicit),(39,.globalImplicit),(106,.globalImplicit),(107,.globalImplicit),(108,.globalImplicit),(110,.globalImplicit),(112,.globalImplicit),(113,.globalImplicit),(115,.globalImplicit),(118,.globalImplicit),(120,.globalImplicit),(121,.globalImplicit),(68,.globalImplicit),(123,.globalImplicit),(126,.globalImplicit),(128,.globalImplicit),(4,.globalImplicit)],b_declare_instance⟩
noncomputable def b_declare_package:List S:=[.asg (.tp [(98,(q 605 4 8)),(72,(q 605 10 14)),(13,(q 605 16 20)),(129,(q 605 22 34)),(46,(q 605 36 43))] 0 (q 605 4 43)) (.name 88 (q 605 46 57)) (q 605 4 57),
.ife (.cmp (.comp (.name 10 (q 606 8 11)) (.nm 10 (q 606 16 19)) (.bin (.name 129 (q 606 23 35)) .Add (.name 46 (q 606 38 45)) (q 606 23 45)) [.cmp (.sub (.name 10 (q 606 49 52)) (.cint 0 0 (q 606 53 54)) (q 606 49 55)) .In (.name 130 (q 606 59 65)) (q 606 49 65)] [] [(16,.local),(10,.local),(130,.globalImplicit)] [] (q 606 7 66)) .NotEq (.list [] (q 606 70 72)) (q 606 7 72)) [.expr (.call (.name 39 (q 607 8 14)) [.name 0 (q 607 15 20),.cstr 131 0 (q 607 22 53)] (q 607 8 54)) (q 607 8 54)] [] ⟨606,4,607,54⟩,
.asg (.nm 41 (q 608 4 10)) (.call (.name 83 (q 608 13 19)) [.cstr 2 0 (q 608 20 29),.name 13 (q 608 31 35),.cnone 0 (q 608 37 41),.cnone 0 (q 608 43 47),.cnone 0 (q 608 49 53),.name 72 (q 608 55 59)] (q 608 13 60)) (q 608 4 60),
.expr (.call (.name 86 (q 609 4 17)) [.attr (.name 0 (q 609 18 23)) 23 (q 609 18 29),.name 41 (q 609 31 37)] (q 609 4 38)) (q 609 4 38),
.asg (.nm 116 (q 610 4 9)) (.attr (.name 0 (q 610 12 17)) 23 (q 610 12 23)) (q 610 4 23),
.asg (.at_ (.name 0 (q 611 4 9)) 23 (q 611 4 15)) (.call (.name 132 (q 611 18 29)) [.cstr 2 0 (q 611 30 39),.name 41 (q 611 41 47),.name 116 (q 611 49 54)] (q 611 18 55)) (q 611 4 55),
.asg (.nm 133 (q 612 4 9)) (.call (.name 134 (q 612 12 25)) [.name 0 (q 612 26 31),.name 129 (q 612 33 45)] (q 612 12 46)) (q 612 4 46),
.expr (.call (.name 135 (q 613 4 17)) [.attr (.name 0 (q 613 18 23)) 23 (q 613 18 29)] (q 613 4 30)) (q 613 4 30),
.asg (.nm 136 (q 614 4 10)) (.call (.name 134 (q 614 13 26)) [.name 0 (q 614 27 32),.name 46 (q 614 34 41)] (q 614 13 42)) (q 614 4 42),
.expr (.call (.name 137 (q 615 4 15)) [.name 0 (q 615 16 21),.attr (.name 0 (q 615 23 28)) 23 (q 615 23 34)] (q 615 4 35)) (q 615 4 35),
.asg (.at_ (.name 0 (q 616 4 9)) 23 (q 616 4 15)) (.name 116 (q 616 18 23)) (q 616 4 23),
.ret (some (.list [.tup [.cstr 2 0 (q 617 13 22),.name 72 (q 617 24 28),.attr (.name 41 (q 617 30 36)) 87 (q 617 30 43),.name 133 (q 617 45 50),.name 136 (q 617 52 58),.list [] (q 617 60 62),.list [] (q 617 64 66),.list [] (q 617 68 70)] 0 (q 617 12 71)] (q 617 11 72))) (q 617 4 72)]
noncomputable def d_declare_package:FD:=⟨[0,88],[],[(0,.local),(88,.local),(98,.local),(72,.local),(13,.local),(129,.local),(46,.local),(41,.local),(116,.local),(133,.local),(136,.local),(39,.globalImplicit),(83,.globalImplicit),(86,.globalImplicit),(132,.globalImplicit),(134,.globalImplicit),(135,.globalImplicit),(137,.globalImplicit)],b_declare_package⟩
noncomputable def b_declare_package_body:List S:=[.asg (.tp [(98,(q 632 4 8)),(72,(q 632 10 14)),(13,(q 632 16 20)),(129,(q 632 22 34)),(138,(q 632 36 46)),(139,(q 632 48 56))] 0 (q 632 4 56)) (.name 88 (q 632 59 70)) (q 632 4 70),
.asg (.nm 41 (q 633 4 10)) (.call (.name 95 (q 633 13 23)) [.attr (.name 0 (q 633 24 29)) 23 (q 633 24 35),.name 13 (q 633 37 41),.cnone 0 (q 633 43 47)] (q 633 13 48)) (q 633 4 48),
.ife (.and_ [.cmp (.name 41 (q 634 7 13)) .IsNot (.cnone 0 (q 634 21 25)) (q 634 7 25),.cmp (.attr (.name 41 (q 634 30 36)) 64 (q 634 30 41)) .Eq (.cstr 53 0 (q 634 45 54)) (q 634 30 54)] (q 634 7 54)) [.ret (some (.call (.name 140 (q 635 15 35)) [.name 0 (q 635 36 41),.name 88 (q 635 43 54)] (q 635 15 55))) (q 635 8 55)] [] ⟨634,4,635,55⟩,
.ife (.or_ [.cmp (.name 41 (q 636 7 13)) .Is (.cnone 0 (q 636 17 21)) (q 636 7 21),.cmp (.attr (.name 41 (q 636 25 31)) 64 (q 636 25 36)) .NotEq (.cstr 2 0 (q 636 40 49)) (q 636 25 49)] (q 636 7 49)) [.expr (.call (.name 39 (q 637 8 14)) [.name 0 (q 637 15 20),.cstr 141 0 (q 637 22 56)] (q 637 8 57)) (q 637 8 57)] [] ⟨636,4,637,57⟩,
.asg (.nm 116 (q 638 4 9)) (.attr (.name 0 (q 638 12 17)) 23 (q 638 12 23)) (q 638 4 23),
.asg (.at_ (.name 0 (q 639 4 9)) 23 (q 639 4 15)) (.attr (.name 41 (q 639 18 24)) 11 (q 639 18 31)) (q 639 4 31),
.expr (.call (.name 142 (q 640 4 14)) [.attr (.name 0 (q 640 15 20)) 23 (q 640 15 26)] (q 640 4 27)) (q 640 4 27),
.asg (.nm 143 (q 641 4 9)) (.call (.name 134 (q 641 12 25)) [.name 0 (q 641 26 31),.name 129 (q 641 33 45)] (q 641 12 46)) (q 641 4 46),
.expr (.call (.name 68 (q 642 4 16)) [.name 0 (q 642 17 22),.attr (.name 0 (q 642 24 29)) 23 (q 642 24 35)] (q 642 4 36)) (q 642 4 36),
.asg (.nm 144 (q 643 4 9)) (.call (.sub (.attr (.name 0 (q 643 12 17)) 138 (q 643 12 28)) (.cstr 145 0 (q 643 29 34)) (q 643 12 35)) [.name 0 (q 643 36 41),.name 138 (q 643 43 53)] (q 643 12 54)) (q 643 4 54),
.asg (.nm 146 (q 644 4 10)) (.call (.sub (.attr (.name 0 (q 644 13 18)) 138 (q 644 13 29)) (.cstr 139 0 (q 644 30 40)) (q 644 13 41)) [.name 0 (q 644 42 47),.name 139 (q 644 49 57)] (q 644 13 58)) (q 644 4 58),
.asg (.at_ (.name 41 (q 645 4 10)) 67 (q 645 4 22)) (.cbool true 0 (q 645 25 29)) (q 645 4 29),
.asg (.at_ (.name 0 (q 646 4 9)) 23 (q 646 4 15)) (.name 116 (q 646 18 23)) (q 646 4 23),
.ret (some (.list [.tup [.cstr 2 0 (q 647 13 22),.name 72 (q 647 24 28),.attr (.name 41 (q 647 30 36)) 87 (q 647 30 43),.list [] (q 647 45 47),.list [] (q 647 49 51),.name 143 (q 647 53 58),.name 144 (q 647 60 65),.name 146 (q 647 67 73)] 0 (q 647 12 74)] (q 647 11 75))) (q 647 4 75)]
noncomputable def d_declare_package_body:FD:=⟨[0,88],[],[(0,.local),(88,.local),(98,.local),(72,.local),(13,.local),(129,.local),(138,.local),(139,.local),(41,.local),(116,.local),(143,.local),(144,.local),(146,.local),(95,.globalImplicit),(140,.globalImplicit),(39,.globalImplicit),(142,.globalImplicit),(134,.globalImplicit),(68,.globalImplicit)],b_declare_package_body⟩
noncomputable def b_declare_ready:List S:=[.expr (.call (.name 147 (q 370 4 11)) [.name 11 (q 370 12 18),.name 41 (q 370 20 26)] (q 370 4 27)) (q 370 4 27),
.expr (.call (.name 148 (q 371 4 14)) [.name 41 (q 371 15 21)] (q 371 4 22)) (q 371 4 22)]
noncomputable def d_declare_ready:FD:=⟨[11,41],[],[(11,.local),(41,.local),(147,.globalImplicit),(148,.globalImplicit)],b_declare_ready⟩
noncomputable def b_declare_use:List S:=[.for_ (.nm 41 (q 551 8 14)) (.comp (.call (.name 3 (q 551 19 29)) [.name 0 (q 551 30 35),.name 1 (q 551 37 41),.list [.cstr 2 0 (q 551 44 53)] (q 551 43 54)] (q 551 19 55)) (.nm 1 (q 551 60 64)) (.sub (.name 88 (q 551 68 79)) (.cint 2 0 (q 551 80 81)) (q 551 68 82)) [] [] [(16,.local),(1,.local),(3,.globalImplicit),(0,.free)] [] (q 551 18 83)) [.expr (.call (.name 149 (q 552 8 15)) [.attr (.name 0 (q 552 16 21)) 23 (q 552 16 27),.name 41 (q 552 29 35)] (q 552 8 36)) (q 552 8 36)] ⟨551,4,552,36⟩,
.ret (some (.list [] (q 553 11 13))) (q 553 4 13)]
noncomputable def d_declare_use:FD:=⟨[0,88],[],[(0,.cell),(88,.local),(41,.local),(149,.globalImplicit)],b_declare_use⟩
noncomputable def b_encloses:List S:=[.asg (.nm 150 (q 330 4 8)) (.name 23 (q 330 11 16)) (q 330 4 16),
.whl (.cmp (.name 150 (q 331 10 14)) .IsNot (.cnone 0 (q 331 22 26)) (q 331 10 26)) [.ife (.cmp (.attr (.name 150 (q 332 11 15)) 12 (q 332 11 22)) .Eq (.attr (.name 116 (q 332 26 31)) 12 (q 332 26 38)) (q 332 11 38)) [.ret (some (.cbool true 0 (q 333 19 23))) (q 333 12 23)] [] ⟨332,8,333,23⟩,
.asg (.nm 150 (q 334 8 12)) (.attr (.name 150 (q 334 15 19)) 151 (q 334 15 26)) (q 334 8 26)] ⟨331,4,334,26⟩,
.ret (some (.cbool false 0 (q 335 11 16))) (q 335 4 16)]
noncomputable def d_encloses:FD:=⟨[116,23],[],[(116,.local),(23,.local),(150,.local)],b_encloses⟩
noncomputable def b_formal_keys:List S:=[.asg (.nm 152 (q 101 4 8)) (.list [] (q 101 11 13)) (q 101 4 13),
.asg (.nm 14 (q 102 4 9)) (.dict [] [] (q 102 12 14)) (q 102 4 14),
.asg (.nm 153 (q 103 4 12)) (.dict [] [] (q 103 15 17)) (q 103 4 17),
.for_ (.nm 52 (q 104 8 14)) (.name 154 (q 104 18 25)) [.asg (.nm 7 (q 105 8 11)) (.list [] (q 105 14 16)) (q 105 8 16),
.for_ (.nm 13 (q 106 12 16)) (.call (.name 155 (q 106 20 32)) [.name 52 (q 106 33 39)] (q 106 20 40)) [.asg (.nm 156 (q 107 12 18)) (.comp (.name 10 (q 107 22 25)) (.nm 10 (q 107 30 33)) (.name 152 (q 107 37 41)) [.cmp (.name 13 (q 107 45 49)) .In (.comp (.sub (.name 14 (q 107 54 59)) (.name 82 (q 107 60 63)) (q 107 54 64)) (.nm 82 (q 107 69 72)) (.sub (.name 10 (q 107 76 79)) (.cint 1 0 (q 107 80 81)) (q 107 76 82)) [] [] [(16,.local),(82,.local),(14,.free)] [] (q 107 53 83)) (q 107 45 83)] [] [(16,.local),(10,.local),(13,.free),(14,.free)] [] (q 107 21 84)) (q 107 12 84),
.for_ (.tp [(40,(q 108 16 21)),(157,(q 108 23 28))] 0 (q 108 16 28)) (.name 156 (q 108 32 38)) [.ife (.or_ [.cmp (.sub (.name 52 (q 109 19 25)) (.cint 0 0 (q 109 26 27)) (q 109 19 28)) .NotEq (.cstr 158 0 (q 109 32 38)) (q 109 19 38),.cmp (.sub (.name 40 (q 109 42 47)) (.cint 0 0 (q 109 48 49)) (q 109 42 50)) .NotEq (.cstr 158 0 (q 109 54 60)) (q 109 42 60),.cmp (.call (.name 159 (q 109 64 74)) [.name 52 (q 109 75 81)] (q 109 64 82)) .Eq (.call (.name 159 (q 109 86 96)) [.name 40 (q 109 97 102)] (q 109 86 103)) (q 109 64 103)] (q 109 19 103)) [.rais 76 (q 110 26 36) (.name 72 (q 110 37 41)) (.cstr 160 0 (q 110 43 66)) (q 110 26 67) (q 110 20 67)] [] ⟨109,16,110,67⟩] ⟨108,12,110,67⟩,
.asg (.nm 82 (q 111 12 15)) (.ife (.cmp (.name 156 (q 111 26 32)) .Eq (.list [] (q 111 36 38)) (q 111 26 38)) (.name 13 (q 111 18 22)) (.bin (.bin (.name 13 (q 111 44 48)) .Add (.cstr 161 0 (q 111 51 54)) (q 111 44 54)) .Add (.call (.name 162 (q 111 57 60)) [.call (.name 8 (q 111 61 64)) [.name 156 (q 111 65 71)] (q 111 61 72)] (q 111 57 73)) (q 111 44 73)) (q 111 18 73)) (q 111 12 73),
.ife (.cmp (.name 82 (q 112 15 18)) .In (.name 14 (q 112 22 27)) (q 112 15 27)) [.rais 76 (q 113 22 32) (.name 72 (q 113 33 37)) (.cstr 160 0 (q 113 39 62)) (q 113 22 63) (q 113 16 63)] [] ⟨112,12,113,63⟩,
.asg (.sb (.name 14 (q 114 12 17)) (.name 82 (q 114 18 21)) (q 114 12 22)) (.name 13 (q 114 25 29)) (q 114 12 29),
.asg (.sb (.name 153 (q 115 12 20)) (.name 82 (q 115 21 24)) (q 115 12 25)) (.call (.name 163 (q 115 28 38)) [.name 52 (q 115 39 45)] (q 115 28 46)) (q 115 12 46),
.expr (.meth (.name 7 (q 116 12 15)) 32 (q 116 12 22) [.name 82 (q 116 23 26)] (q 116 12 27)) (q 116 12 27)] ⟨106,8,116,27⟩,
.expr (.meth (.name 152 (q 117 8 12)) 32 (q 117 8 19) [.tup [.name 52 (q 117 21 27),.name 7 (q 117 29 32)] 0 (q 117 20 33)] (q 117 8 34)) (q 117 8 34)] ⟨104,4,117,34⟩,
.ret (some (.tup [.comp (.name 7 (q 118 13 16)) (.tp [(52,(q 118 21 27)),(7,(q 118 29 32))] 0 (q 118 21 32)) (.name 152 (q 118 36 40)) [] [] [(16,.local),(52,.local),(7,.local)] [] (q 118 12 41),.name 14 (q 118 43 48),.name 153 (q 118 50 58)] 0 (q 118 11 59))) (q 118 4 59)]
noncomputable def d_formal_keys:FD:=⟨[154,72],[],[(154,.local),(72,.local),(152,.local),(14,.cell),(153,.local),(52,.local),(7,.local),(13,.cell),(82,.local),(156,.local),(40,.local),(157,.local),(155,.globalImplicit),(159,.globalImplicit),(76,.globalImplicit),(162,.globalImplicit),(8,.globalImplicit),(163,.globalImplicit)],b_formal_keys⟩
noncomputable def b_frame_region:List S:=[.asg (.nm 150 (q 337 4 8)) (.name 11 (q 337 11 17)) (q 337 4 17),
.whl (.cmp (.attr (.name 150 (q 338 10 14)) 64 (q 338 10 19)) .NotIn (.name 164 (q 338 27 38)) (q 338 10 38)) [.asg (.nm 150 (q 339 8 12)) (.attr (.name 150 (q 339 15 19)) 151 (q 339 15 26)) (q 339 8 26)] ⟨338,4,339,26⟩,
.ret (some (.name 150 (q 340 11 15))) (q 340 4 15)]
noncomputable def d_frame_region:FD:=⟨[11],[],[(11,.local),(150,.local),(164,.globalImplicit)],b_frame_region⟩
noncomputable def b_give_unique:List S:=[.asg (.nm 165 (q 342 4 9)) (.ife (.cmp (.attr (.name 41 (q 342 27 33)) 64 (q 342 27 38)) .Eq (.cstr 166 0 (q 342 42 53)) (q 342 27 53)) (.attr (.name 11 (q 342 12 18)) 34 (q 342 12 23)) (.call (.name 167 (q 342 59 71)) [.name 11 (q 342 72 78)] (q 342 59 79)) (q 342 12 79)) (q 342 4 79),
.asg (.nm 168 (q 343 4 9)) (.meth (.attr (.name 165 (q 343 12 17)) 33 (q 343 12 24)) 15 (q 343 12 28) [.attr (.name 41 (q 343 29 35)) 13 (q 343 29 40),.cint 0 0 (q 343 42 43)] (q 343 12 44)) (q 343 4 44),
.asg (.sb (.attr (.name 165 (q 344 4 9)) 33 (q 344 4 16)) (.attr (.name 41 (q 344 17 23)) 13 (q 344 17 28)) (q 344 4 29)) (.bin (.name 168 (q 344 32 37)) .Add (.cint 1 0 (q 344 40 41)) (q 344 32 41)) (q 344 4 41),
.asg (.at_ (.name 41 (q 345 4 10)) 87 (q 345 4 17)) (.ife (.cmp (.name 168 (q 345 35 40)) .Eq (.cint 0 0 (q 345 44 45)) (q 345 35 45)) (.attr (.name 41 (q 345 20 26)) 13 (q 345 20 31)) (.call (.name 87 (q 345 51 57)) [.attr (.name 41 (q 345 58 64)) 13 (q 345 58 69),.name 168 (q 345 71 76)] (q 345 51 77)) (q 345 20 77)) (q 345 4 77)]
noncomputable def d_give_unique:FD:=⟨[11,41],[],[(11,.local),(41,.local),(165,.local),(168,.local),(167,.globalImplicit),(87,.globalImplicit)],b_give_unique⟩
noncomputable def b_immediate_entities:List S:=[.asg (.nm 119 (q 388 4 9)) (.list [] (q 388 12 14)) (q 388 4 14),
.asg (.nm 169 (q 389 4 10)) (.list [] (q 389 13 15)) (q 389 4 15),
.asg (.nm 150 (q 390 4 8)) (.name 23 (q 390 11 16)) (q 390 4 16),
.whl (.cmp (.name 150 (q 391 10 14)) .IsNot (.cnone 0 (q 391 22 26)) (q 391 10 26)) [.asg (.nm 7 (q 392 8 11)) (.comp (.name 41 (q 392 15 21)) (.nm 41 (q 392 26 32)) (.meth (.attr (.name 150 (q 392 36 40)) 14 (q 392 36 46)) 15 (q 392 36 50) [.name 13 (q 392 51 55),.list [] (q 392 57 59)] (q 392 36 60)) [.not_ (.attr (.name 41 (q 392 68 74)) 63 (q 392 68 88)) (q 392 64 88)] [] [(16,.local),(41,.local)] [] (q 392 14 89)) (q 392 8 89),
.aug (.nm 119 (q 393 8 13)) .Add (.comp (.name 41 (q 393 18 24)) (.nm 41 (q 393 29 35)) (.name 7 (q 393 39 42)) [.and_ [.attr (.name 41 (q 393 46 52)) 170 (q 393 46 61),.not_ (.call (.name 171 (q 393 71 80)) [.name 41 (q 393 81 87),.name 169 (q 393 89 95)] (q 393 71 96)) (q 393 67 96)] (q 393 46 97)] [] [(16,.local),(41,.local),(171,.globalImplicit),(169,.free)] [] (q 393 17 98)) (q 393 8 98),
.aug (.nm 169 (q 394 8 14)) .Add (.name 7 (q 394 18 21)) (q 394 8 21),
.asg (.nm 150 (q 395 8 12)) (.attr (.name 150 (q 395 15 19)) 151 (q 395 15 26)) (q 395 8 26)] ⟨391,4,395,26⟩,
.ret (some (.tup [.name 119 (q 396 12 17),.name 169 (q 396 19 25)] 0 (q 396 11 26))) (q 396 4 26)]
noncomputable def d_immediate_entities:FD:=⟨[23,13],[],[(23,.local),(13,.local),(119,.local),(169,.cell),(150,.local),(7,.local)],b_immediate_entities⟩
noncomputable def b_instance_region:List S:=[.asg (.nm 11 (q 710 4 10)) (.call (.name 172 (q 710 13 19)) [.cstr 122 0 (q 710 20 25),.cnone 0 (q 710 27 31),.attr (.name 53 (q 710 33 40)) 80 (q 710 33 45)] (q 710 13 46)) (q 710 4 46),
.asg (.at_ (.name 11 (q 711 4 10)) 173 (q 711 4 16)) (.attr (.attr (.name 0 (q 711 19 24)) 23 (q 711 19 30)) 173 (q 711 19 36)) (q 711 4 36),
.asg (.at_ (.name 11 (q 712 4 10)) 33 (q 712 4 17)) (.attr (.call (.name 167 (q 712 20 32)) [.attr (.name 0 (q 712 33 38)) 23 (q 712 33 44)] (q 712 20 45)) 33 (q 712 20 52)) (q 712 4 52),
.asg (.at_ (.name 11 (q 713 4 10)) 44 (q 713 4 15)) (.cstr 174 0 (q 713 18 27)) (q 713 4 27),
.asg (.at_ (.name 11 (q 714 4 10)) 53 (q 714 4 18)) (.name 53 (q 714 21 28)) (q 714 4 28),
.ret (some (.name 11 (q 715 11 17))) (q 715 4 17)]
noncomputable def d_instance_region:FD:=⟨[0,53],[],[(0,.local),(53,.local),(11,.local),(172,.globalImplicit),(167,.globalImplicit)],b_instance_region⟩
noncomputable def b_instances_within:List S:=[.asg (.nm 175 (q 649 4 8)) (.cint 0 0 (q 649 11 12)) (q 649 4 12),
.asg (.nm 176 (q 650 4 8)) (.list [.tup [.name 177 (q 650 13 17),.cint 0 0 (q 650 19 20)] 0 (q 650 12 21)] (q 650 11 22)) (q 650 4 22),
.whl (.cmp (.name 176 (q 651 10 14)) .NotEq (.list [] (q 651 18 20)) (q 651 10 20)) [.asg (.tp [(44,(q 652 8 12)),(178,(q 652 14 18))] 0 (q 652 8 18)) (.meth (.name 176 (q 652 21 25)) 56 (q 652 21 29) [] (q 652 21 31)) (q 652 8 31),
.ife (.call (.name 180 (q 653 11 21)) [.name 44 (q 653 22 26),.name 179 (q 653 28 33)] (q 653 11 34)) [.aug (.nm 178 (q 654 12 16)) .Add (.cint 1 0 (q 654 20 21)) (q 654 12 21),
.ife (.cmp (.cut (.name 44 (q 655 15 19)) none (some (.cint 1 0 (q 655 21 22))) (q 655 20 22) (q 655 15 23)) .Eq (.tup [.cstr 50 0 (q 655 28 38)] 0 (q 655 27 40)) (q 655 15 40)) [.asg (.nm 175 (q 656 16 20)) (.call (.name 97 (q 656 23 26)) [.name 175 (q 656 27 31),.name 178 (q 656 33 37)] (q 656 23 38)) (q 656 16 38)] [] ⟨655,12,656,38⟩] [] ⟨653,8,656,38⟩,
.ife (.call (.name 180 (q 657 11 21)) [.name 44 (q 657 22 26),.tup [.name 179 (q 657 29 34),.name 181 (q 657 36 40)] 0 (q 657 28 41)] (q 657 11 42)) [.expr (.meth (.name 176 (q 658 12 16)) 182 (q 658 12 23) [.comp (.tup [.name 10 (q 658 26 29),.name 178 (q 658 31 35)] 0 (q 658 25 36)) (.nm 10 (q 658 41 44)) (.name 44 (q 658 48 52)) [] [] [(16,.local),(10,.local),(178,.free)] [] (q 658 24 53)] (q 658 12 54)) (q 658 12 54)] [] ⟨657,8,658,54⟩] ⟨651,4,658,54⟩,
.ret (some (.name 175 (q 659 11 15))) (q 659 4 15)]
noncomputable def d_instances_within:FD:=⟨[177],[],[(177,.local),(175,.local),(176,.local),(44,.local),(178,.cell),(180,.globalImplicit),(179,.globalImplicit),(97,.globalImplicit),(181,.globalImplicit)],b_instances_within⟩
noncomputable def b_instantiate:List S:=[.asg (.tp [(98,(q 232 4 8)),(72,(q 232 10 14)),(99,(q 232 16 20)),(13,(q 232 22 26)),(1,(q 232 28 32)),(100,(q 232 34 40))] 0 (q 232 4 40)) (.name 50 (q 232 43 51)) (q 232 4 51),
.asg (.nm 183 (q 233 4 8)) (.sub (.name 53 (q 233 11 18)) (.cint 3 0 (q 233 19 20)) (q 233 11 21)) (q 233 4 21),
.ife (.cmp (.call (.name 184 (q 234 7 16)) [.name 183 (q 234 17 21)] (q 234 7 22)) .NotEq (.name 99 (q 234 26 30)) (q 234 7 30)) [.rais 76 (q 235 14 24) (.name 72 (q 235 25 29)) (.cstr 185 0 (q 235 31 60)) (q 235 14 61) (q 235 8 61)] [] ⟨234,4,235,61⟩,
.asg (.nm 186 (q 236 4 11)) (.call (.name 187 (q 236 14 27)) [.sub (.name 53 (q 236 28 35)) (.cint 2 0 (q 236 36 37)) (q 236 28 38),.name 100 (q 236 40 46),.name 72 (q 236 48 52)] (q 236 14 53)) (q 236 4 53),
.asg (.tp [(19,(q 237 4 8)),(14,(q 237 10 15)),(153,(q 237 17 25))] 0 (q 237 4 25)) (.call (.name 188 (q 237 28 39)) [.sub (.name 53 (q 237 40 47)) (.cint 2 0 (q 237 48 49)) (q 237 40 50),.name 72 (q 237 52 56)] (q 237 28 57)) (q 237 4 57),
.asg (.nm 189 (q 238 4 11)) (.call (.name 190 (q 238 14 21)) [.name 12 (q 238 22 28)] (q 238 14 29)) (q 238 4 29),
.for_ (.nm 6 (q 239 8 10)) (.call (.name 28 (q 239 14 19)) [.call (.name 8 (q 239 20 23)) [.sub (.name 53 (q 239 24 31)) (.cint 2 0 (q 239 32 33)) (q 239 24 34)] (q 239 20 35)] (q 239 14 36)) [.raw (PySem.Stmt.Expr (value:=(PySem.Expr.Call (func:=(PySem.Expr.Subscript (value:=(PySem.Expr.Name "LAYERS" (q 240 8 14))) (slice:=(PySem.Expr.Subscript (value:=(PySem.Expr.Subscript (value:=(PySem.Expr.Subscript (value:=(PySem.Expr.Name "generic" (q 240 15 22))) (slice:=(PySem.Expr.Constant (PySem.Const.int 2) 0 (q 240 23 24))) (pos:=(q 240 15 25)))) (slice:=(PySem.Expr.Name "at" (q 240 26 28))) (pos:=(q 240 15 29)))) (slice:=(PySem.Expr.Constant (PySem.Const.int 0) 0 (q 240 30 31))) (pos:=(q 240 15 32)))) (pos:=(q 240 8 33)))) (args:=[(PySem.Expr.Name "builder" (q 240 34 41)),(PySem.Expr.Subscript (value:=(PySem.Expr.Subscript (value:=(PySem.Expr.Name "generic" (q 240 43 50))) (slice:=(PySem.Expr.Constant (PySem.Const.int 2) 0 (q 240 51 52))) (pos:=(q 240 43 53)))) (slice:=(PySem.Expr.Name "at" (q 240 54 56))) (pos:=(q 240 43 57))),(PySem.Expr.DictComp (key:=(PySem.Expr.Subscript (value:=(PySem.Expr.Name "names" (q 240 60 65))) (slice:=(PySem.Expr.Name "key" (q 240 66 69))) (pos:=(q 240 60 70)))) (value:=(PySem.Expr.Subscript (value:=(PySem.Expr.Name "actuals" (q 240 72 79))) (slice:=(PySem.Expr.Name "key" (q 240 80 83))) (pos:=(q 240 72 84)))) (generators:=[{target:=(PySem.Expr.Name "key" (q 240 89 92)),iter:=(PySem.Expr.Subscript (value:=(PySem.Expr.Name "rows" (q 240 96 100))) (slice:=(PySem.Expr.Name "at" (q 240 101 103))) (pos:=(q 240 96 104))),ifs:=[],is_async:=0:PySem.Comprehension}]) (scope:={kind:=PySem.ScopeKind.function,names:=[((PySem.Str.ofString ".0"),PySem.NameKind.local),((PySem.Str.ofString "key"),PySem.NameKind.local),((PySem.Str.ofString "actuals"),PySem.NameKind.free),((PySem.Str.ofString "names"),PySem.NameKind.free)],isGenerator:=false,isCoroutine:=false,more:=[]:PySem.Scope}) (pos:=(q 240 59 105)))]) (keywords:=[]) (pos:=(q 240 8 106)))) (pos:=(q 240 8 106)))] ⟨239,4,240,106⟩,
.asg (.nm 59 (q 241 4 11)) (.meth (.attr (.name 189 (q 241 14 21)) 191 (q 241 14 28)) 47 (q 241 14 34) [.cstr 59 0 (q 241 35 44)] (q 241 14 45)) (q 241 4 45),
.expr (.meth (.name 189 (q 242 4 11)) 192 (q 242 4 15) [.cstr 53 0 (q 242 16 25),.tup [.cstr 2 0 (q 242 28 37),.name 72 (q 242 39 43),.name 59 (q 242 45 52),.bin (.attr (.name 189 (q 242 54 61)) 117 (q 242 54 67)) .Add (.list [.name 183 (q 242 71 75)] (q 242 70 76)) (q 242 54 76),.list [] (q 242 78 80)] 0 (q 242 27 81)] (q 242 4 82)) (q 242 4 82),
.ife (.cmp (.name 45 (q 243 7 11)) .IsNot (.cnone 0 (q 243 19 23)) (q 243 7 23)) [.expr (.meth (.name 189 (q 244 8 15)) 192 (q 244 8 19) [.cstr 53 0 (q 244 20 29),.tup [.cstr 193 0 (q 244 32 42),.name 72 (q 244 44 48),.name 59 (q 244 50 57),.list [.name 45 (q 244 60 64)] (q 244 59 65),.list [] (q 244 67 69),.list [] (q 244 71 73)] 0 (q 244 31 74)] (q 244 8 75)) (q 244 8 75)] [] ⟨243,4,244,75⟩,
.asg (.nm 114 (q 245 4 9)) (.tup [.cstr 114 0 (q 245 13 20),.name 72 (q 245 22 26),.name 13 (q 245 28 32),.tup [.cstr 194 0 (q 245 35 43),.tup [.cstr 13 0 (q 245 46 52),.name 59 (q 245 54 61)] 0 (q 245 45 62),.call (.name 93 (q 245 64 73)) [.name 183 (q 245 74 78)] (q 245 64 79)] 0 (q 245 34 80)] 0 (q 245 12 81)) (q 245 4 81),
.ret (some (.tup [.attr (.name 189 (q 246 12 19)) 49 (q 246 12 25),.name 114 (q 246 27 32)] 0 (q 246 11 33))) (q 246 4 33)]
noncomputable def d_instantiate:FD:=⟨[53,45,50,12],[],[(53,.local),(45,.local),(50,.local),(12,.local),(98,.local),(72,.local),(99,.local),(13,.local),(1,.local),(100,.local),(183,.local),(186,.cell),(19,.local),(14,.cell),(153,.local),(189,.local),(6,.local),(59,.local),(114,.local),(184,.globalImplicit),(76,.globalImplicit),(187,.globalImplicit),(188,.globalImplicit),(190,.globalImplicit),(28,.globalImplicit),(8,.globalImplicit),(195,.globalImplicit),(93,.globalImplicit)],b_instantiate⟩
noncomputable def b_is_hidden:List S:=[.for_ (.nm 40 (q 383 8 13)) (.name 117 (q 383 17 22)) [.ife (.call (.name 196 (q 384 11 21)) [.name 40 (q 384 22 27),.name 41 (q 384 29 35)] (q 384 11 36)) [.ret (some (.cbool true 0 (q 385 19 23))) (q 385 12 23)] [] ⟨384,8,385,23⟩] ⟨383,4,385,23⟩,
.ret (some (.cbool false 0 (q 386 11 16))) (q 386 4 16)]
noncomputable def d_is_hidden:FD:=⟨[41,117],[],[(41,.local),(117,.local),(40,.local),(196,.globalImplicit)],b_is_hidden⟩
noncomputable def b_is_offered:List S:=[.ife (.or_ [.cmp (.attr (.name 41 (q 405 7 13)) 44 (q 405 7 18)) .NotEq (.cstr 174 0 (q 405 22 31)) (q 405 7 31),.not_ (.attr (.name 41 (q 405 39 45)) 170 (q 405 39 54)) (q 405 35 54)] (q 405 7 54)) [.ret (some (.cbool false 0 (q 406 15 20))) (q 406 8 20)] [] ⟨405,4,406,20⟩,
.ret (some (.or_ [.not_ (.attr (.name 41 (q 407 15 21)) 63 (q 407 15 35)) (q 407 11 35),.call (.name 197 (q 407 39 50)) [.name 11 (q 407 51 57),.name 41 (q 407 59 65)] (q 407 39 66)] (q 407 11 66))) (q 407 4 66)]
noncomputable def d_is_offered:FD:=⟨[11,41],[],[(11,.local),(41,.local),(197,.globalImplicit)],b_is_offered⟩
noncomputable def b_is_overloadable:List S:=[.ret (some (.cmp (.attr (.name 41 (q 43 11 17)) 82 (q 43 11 21)) .IsNot (.cnone 0 (q 43 29 33)) (q 43 11 33))) (q 43 4 33)]
noncomputable def d_is_overloadable:FD:=⟨[41],[],[(41,.local)],b_is_overloadable⟩
noncomputable def b_law:List S:=[.asg (.nm 5 (q 859 4 8)) (.dict [(.cstr 6 0 (q 859 12 16)),(.cstr 7 0 (q 859 21 26))] [.cint 0 0 (q 859 18 19),.cut (.name 198 (q 859 28 34)) none (some (.cint 50 0 (q 859 36 38))) (q 859 35 38) (q 859 28 39)] (q 859 11 40)) (q 859 4 40),
.asg (.nm 34 (q 860 4 8)) (.call (.name 132 (q 860 11 22)) [.cstr 34 0 (q 860 23 29),.cnone 0 (q 860 31 35),.cnone 0 (q 860 37 41)] (q 860 11 42)) (q 860 4 42),
.asg (.nm 0 (q 861 4 9)) (.call (.name 200 (q 861 12 17)) [.name 34 (q 861 18 22),.call (.name 199 (q 861 24 30)) [] (q 861 24 32),.cnone 0 (q 861 34 38),.dict [] [] (q 861 40 42)] (q 861 12 43)) (q 861 4 43),
.asg (.at_ (.name 0 (q 862 4 9)) 129 (q 862 4 22)) (.dict [(.cstr 2 0 (q 862 26 35)),(.cstr 193 0 (q 862 54 64)),(.cstr 50 0 (q 862 88 98)),(.cstr 17 0 (q 862 118 126))] [.name 201 (q 862 37 52),.name 202 (q 862 66 86),.name 203 (q 862 100 116),.name 204 (q 862 128 138)] (q 862 25 139)) (q 862 4 139),
.asg (.at_ (.name 0 (q 863 4 9)) 138 (q 863 4 20)) (.dict [(.cstr 145 0 (q 863 24 29)),(.cstr 139 0 (q 863 42 52))] [.name 205 (q 863 31 40),.name 205 (q 863 54 63)] (q 863 23 64)) (q 863 4 64),
.asg (.tp [(22,(q 864 4 8)),(206,(q 864 10 14))] 0 (q 864 4 14)) (.tup [.dict [] [] (q 864 18 20),.dict [] [] (q 864 22 24)] 0 (q 864 17 25)) (q 864 4 25),
.for_ (.nm 13 (q 865 8 12)) (.cstr 20 0 (q 865 16 21)) [.asg (.nm 117 (q 866 8 13)) (.ife (.cmp (.call (.name 27 (q 866 49 58)) [.name 5 (q 866 59 63),.cint 5 0 (q 866 65 66)] (q 866 49 67)) .Lt (.cint 4 0 (q 866 70 71)) (q 866 49 71)) (.list [.tup [.cstr 2 0 (q 866 18 27),.cint 1 0 (q 866 29 30),.cstr 18 0 (q 866 32 35),.list [] (q 866 37 39),.list [] (q 866 41 43)] 0 (q 866 17 44)] (q 866 16 45)) (.list [] (q 866 77 79)) (q 866 16 79)) (q 866 8 79),
.expr (.call (.name 201 (q 867 8 23)) [.name 0 (q 867 24 29),.tup [.cstr 2 0 (q 867 32 41),.cint 1 0 (q 867 43 44),.name 13 (q 867 46 50),.name 117 (q 867 52 57),.list [] (q 867 59 61)] 0 (q 867 31 62)] (q 867 8 63)) (q 867 8 63),
.asg (.nm 7 (q 868 8 11)) (.call (.name 208 (q 868 14 25)) [.sub (.call (.name 207 (q 868 26 33)) [.name 34 (q 868 34 38),.name 13 (q 868 40 44)] (q 868 26 45)) (.cint 0 0 (q 868 46 47)) (q 868 26 48),.cstr 18 0 (q 868 50 53),.name 34 (q 868 55 59)] (q 868 14 60)) (q 868 8 60),
.asg (.sb (.name 22 (q 869 8 12)) (.name 13 (q 869 13 17)) (q 869 8 18)) (.ife (.cmp (.name 7 (q 869 45 48)) .NotEq (.list [] (q 869 52 54)) (q 869 45 54)) (.attr (.attr (.sub (.name 7 (q 869 21 24)) (.cint 0 0 (q 869 25 26)) (q 869 21 27)) 11 (q 869 21 34)) 12 (q 869 21 41)) (.cnone 0 (q 869 60 64)) (q 869 21 64)) (q 869 8 64)] ⟨865,4,869,64⟩,
.asg (.tp [(25,(q 870 4 10)),(21,(q 870 12 16))] 0 (q 870 4 16)) (.tup [.list [.name 34 (q 870 21 25),.call (.name 132 (q 870 27 38)) [.cstr 122 0 (q 870 39 44),.cnone 0 (q 870 46 50),.name 34 (q 870 52 56)] (q 870 27 57)] (q 870 20 58),.list [.list [] (q 870 61 63),.list [] (q 870 65 67)] (q 870 60 68)] 0 (q 870 19 69)) (q 870 4 69),
.expr (.call (.name 209 (q 871 4 13)) [.name 5 (q 871 14 18),.name 0 (q 871 20 25),.name 25 (q 871 27 33),.name 21 (q 871 35 39)] (q 871 4 40)) (q 871 4 40),
.expr (.call (.name 211 (q 872 4 19)) [.name 0 (q 872 20 25),.tup [.cstr 53 0 (q 872 28 37),.cint 1 0 (q 872 39 40),.list [] (q 872 42 44),.tup [.cstr 2 0 (q 872 47 56),.cint 1 0 (q 872 58 59),.cstr 210 0 (q 872 61 64),.list [] (q 872 66 68),.list [] (q 872 70 72)] 0 (q 872 46 73)] 0 (q 872 27 74)] (q 872 4 75)) (q 872 4 75),
.expr (.call (.name 209 (q 873 4 13)) [.name 5 (q 873 14 18),.name 0 (q 873 20 25),.name 25 (q 873 27 33),.name 21 (q 873 35 39)] (q 873 4 40)) (q 873 4 40),
.asg (.nm 133 (q 874 4 9)) (.ife (.cmp (.call (.name 27 (q 874 33 42)) [.name 5 (q 874 43 47),.cint 2 0 (q 874 49 50)] (q 874 33 51)) .Eq (.cint 0 0 (q 874 55 56)) (q 874 33 56)) (.list [.call (.name 213 (q 874 13 23)) [.cstr 212 0 (q 874 24 27)] (q 874 13 28)] (q 874 12 29)) (.list [] (q 874 62 64)) (q 874 12 64)) (q 874 4 64),
.ife (.cmp (.name 133 (q 875 7 12)) .NotEq (.list [] (q 875 16 18)) (q 875 7 18)) [.asg (.sb (.name 206 (q 876 8 12)) (.cstr 212 0 (q 876 13 16)) (q 876 8 17)) (.call (.name 214 (q 876 20 32)) [.name 21 (q 876 33 37),.name 22 (q 876 39 43)] (q 876 20 44)) (q 876 8 44)] [] ⟨875,4,876,44⟩,
.expr (.call (.name 211 (q 877 4 19)) [.name 0 (q 877 20 25),.tup [.cstr 53 0 (q 877 28 37),.cint 1 0 (q 877 39 40),.list [] (q 877 42 44),.tup [.cstr 2 0 (q 877 47 56),.cint 1 0 (q 877 58 59),.cstr 215 0 (q 877 61 64),.name 133 (q 877 66 71),.list [] (q 877 73 75)] 0 (q 877 46 76)] 0 (q 877 27 77)] (q 877 4 78)) (q 877 4 78),
.asg (.nm 216 (q 878 4 10)) (.dict [(.cstr 215 0 (q 878 14 17)),(.cstr 210 0 (q 878 38 41))] [.list [.call (.name 213 (q 878 20 30)) [.cstr 217 0 (q 878 31 34)] (q 878 20 35)] (q 878 19 36),.list [.tup [.cstr 50 0 (q 878 45 55),.cint 5 0 (q 878 57 58),.cstr 2 0 (q 878 60 69),.cstr 218 0 (q 878 71 74),.tup [.cstr 13 0 (q 878 77 83),.cstr 215 0 (q 878 85 88)] 0 (q 878 76 89),.list [] (q 878 91 93)] 0 (q 878 44 94)] (q 878 43 95)] (q 878 13 96)) (q 878 4 96),
.ife (.cmp (.call (.name 27 (q 879 7 16)) [.name 5 (q 879 17 21),.cint 2 0 (q 879 23 24)] (q 879 7 25)) .Eq (.cint 0 0 (q 879 29 30)) (q 879 7 30)) [.expr (.meth (.sub (.name 216 (q 880 8 14)) (.cstr 210 0 (q 880 15 18)) (q 880 8 19)) 32 (q 880 8 26) [.call (.name 213 (q 880 27 37)) [.cstr 219 0 (q 880 38 41)] (q 880 27 42)] (q 880 8 43)) (q 880 8 43)] [] ⟨879,4,880,43⟩,
.for_ (.nm 13 (q 881 8 12)) (.sub (.tup [.cstr 220 0 (q 881 17 21),.cstr 221 0 (q 881 23 27)] 0 (q 881 16 28)) (.call (.name 27 (q 881 29 38)) [.name 5 (q 881 39 43),.cint 2 0 (q 881 45 46)] (q 881 29 47)) (q 881 16 48)) [.expr (.call (.name 209 (q 882 8 17)) [.name 5 (q 882 18 22),.name 0 (q 882 24 29),.name 25 (q 882 31 37),.name 21 (q 882 39 43)] (q 882 8 44)) (q 882 8 44),
.ife (.or_ [.cmp (.call (.name 8 (q 883 11 14)) [.sub (.name 216 (q 883 15 21)) (.name 13 (q 883 22 26)) (q 883 15 27)] (q 883 11 28)) .Gt (.cint 1 0 (q 883 31 32)) (q 883 11 32),.cmp (.name 13 (q 883 36 40)) .Eq (.cstr 215 0 (q 883 44 47)) (q 883 36 47)] (q 883 11 47)) [.asg (.sb (.name 206 (q 884 12 16)) (.ife (.cmp (.name 13 (q 884 24 28)) .Eq (.cstr 215 0 (q 884 32 35)) (q 884 24 35)) (.cstr 217 0 (q 884 17 20)) (.cstr 219 0 (q 884 41 44)) (q 884 17 44)) (q 884 12 45)) (.call (.name 214 (q 884 48 60)) [.name 21 (q 884 61 65),.name 22 (q 884 67 71)] (q 884 48 72)) (q 884 12 72)] [] ⟨883,8,884,72⟩,
.expr (.call (.name 202 (q 885 8 28)) [.name 0 (q 885 29 34),.tup [.cstr 193 0 (q 885 37 47),.cint 3 0 (q 885 49 50),.name 13 (q 885 52 56),.sub (.name 216 (q 885 58 64)) (.name 13 (q 885 65 69)) (q 885 58 70),.list [] (q 885 72 74),.list [] (q 885 76 78)] 0 (q 885 36 79)] (q 885 8 80)) (q 885 8 80)] ⟨881,4,885,80⟩,
.expr (.call (.name 209 (q 886 4 13)) [.name 5 (q 886 14 18),.name 0 (q 886 20 25),.name 25 (q 886 27 33),.name 21 (q 886 35 39)] (q 886 4 40)) (q 886 4 40),
.asg (.nm 222 (q 887 4 10)) (.cmp (.comp (.name 13 (q 887 14 18)) (.nm 13 (q 887 23 27)) (.cstr 223 0 (q 887 31 36)) [.and_ [.cmp (.name 13 (q 887 40 44)) .In (.name 206 (q 887 48 52)) (q 887 40 52),.cmp (.sub (.name 206 (q 887 57 61)) (.name 13 (q 887 62 66)) (q 887 57 67)) .Is (.cnone 0 (q 887 71 75)) (q 887 57 75)] (q 887 40 75)] [] [(16,.local),(13,.local),(206,.free)] [] (q 887 13 76)) .Eq (.list [] (q 887 80 82)) (q 887 13 82)) (q 887 4 82),
.tryE [.expr (.call (.name 203 (q 889 8 24)) [.name 0 (q 889 25 30),.tup [.cstr 50 0 (q 889 33 43),.cint 6 0 (q 889 45 46),.cstr 2 0 (q 889 48 57),.cstr 224 0 (q 889 59 62),.tup [.cstr 13 0 (q 889 65 71),.cstr 210 0 (q 889 73 76)] 0 (q 889 64 77),.list [] (q 889 79 81)] 0 (q 889 32 82)] (q 889 8 83)) (q 889 8 83)] 76 (q 890 11 21) [.ret (some (.and_ [.not_ (.name 222 (q 891 19 25)) (q 891 15 25),.call (.name 225 (q 891 30 37)) [.name 25 (q 891 38 44),.name 21 (q 891 46 50)] (q 891 30 51)] (q 891 15 51))) (q 891 8 51)] ⟨890,4,891,51⟩ ⟨888,4,891,51⟩,
.ife (.or_ [.not_ (.name 222 (q 892 11 17)) (q 892 7 17),.not_ (.call (.name 225 (q 892 25 32)) [.name 25 (q 892 33 39),.name 21 (q 892 41 45)] (q 892 25 46)) (q 892 21 46),.cmp (.attr (.attr (.name 0 (q 892 50 55)) 23 (q 892 50 61)) 12 (q 892 50 68)) .NotEq (.attr (.sub (.name 25 (q 892 72 78)) (.cint 1 0 (q 892 79 80)) (q 892 72 81)) 12 (q 892 72 88)) (q 892 50 88)] (q 892 7 88)) [.ret (some (.cbool false 0 (q 893 15 20))) (q 893 8 20)] [] ⟨892,4,893,20⟩,
.asg (.nm 116 (q 894 4 9)) (.attr (.sub (.call (.name 207 (q 894 12 19)) [.attr (.name 0 (q 894 20 25)) 23 (q 894 20 31),.cstr 224 0 (q 894 33 36)] (q 894 12 37)) (.cint 0 0 (q 894 38 39)) (q 894 12 40)) 11 (q 894 12 47)) (q 894 4 47),
.asg (.nm 117 (q 895 4 9)) (.attr (.sub (.sub (.attr (.name 116 (q 895 12 17)) 14 (q 895 12 23)) (.cstr 218 0 (q 895 24 27)) (q 895 12 28)) (.cint 0 0 (q 895 29 30)) (q 895 12 31)) 11 (q 895 12 38)) (q 895 4 38),
.asg (.nm 226 (q 896 4 7)) (.comp (.ife (.cmp (.name 13 (q 896 33 37)) .In (.name 206 (q 896 41 45)) (q 896 33 45)) (.list [.sub (.name 22 (q 896 12 16)) (.sub (.name 206 (q 896 17 21)) (.name 13 (q 896 22 26)) (q 896 17 27)) (q 896 12 28)] (q 896 11 29)) (.list [] (q 896 51 53)) (q 896 11 53)) (.nm 13 (q 896 58 62)) (.cstr 223 0 (q 896 66 71)) [] [] [(16,.local),(13,.local),(206,.free),(22,.free)] [] (q 896 10 72)) (q 896 4 72),
.ret (some (.cmp (.list [.call (.name 227 (q 897 12 22)) [.name 117 (q 897 23 28),.cstr 212 0 (q 897 30 33)] (q 897 12 34),.call (.name 227 (q 897 36 46)) [.name 116 (q 897 47 52),.cstr 219 0 (q 897 54 57)] (q 897 36 58),.call (.name 227 (q 897 60 70)) [.name 117 (q 897 71 76),.cstr 217 0 (q 897 78 81)] (q 897 60 82)] (q 897 11 83)) .Eq (.name 226 (q 897 87 90)) (q 897 11 90))) (q 897 4 90)]
noncomputable def d_law:FD:=⟨[198],[],[(198,.local),(5,.local),(34,.local),(0,.local),(22,.cell),(206,.cell),(13,.local),(117,.local),(7,.local),(25,.local),(21,.local),(133,.local),(216,.local),(222,.local),(116,.local),(226,.local),(132,.globalImplicit),(200,.globalImplicit),(199,.globalImplicit),(201,.globalImplicit),(202,.globalImplicit),(203,.globalImplicit),(204,.globalImplicit),(205,.globalImplicit),(27,.globalImplicit),(208,.globalImplicit),(207,.globalImplicit),(209,.globalImplicit),(211,.globalImplicit),(213,.globalImplicit),(214,.globalImplicit),(8,.globalImplicit),(76,.globalImplicit),(225,.globalImplicit),(227,.globalImplicit)],b_law⟩
noncomputable def b_look_up:List S:=[.asg (.tp [(119,(q 438 4 9)),(169,(q 438 11 17))] 0 (q 438 4 17)) (.call (.name 228 (q 438 20 38)) [.name 23 (q 438 39 44),.name 13 (q 438 46 50)] (q 438 20 51)) (q 438 4 51),
.asg (.nm 229 (q 439 4 11)) (.call (.name 230 (q 439 14 30)) [.name 23 (q 439 31 36),.name 13 (q 439 38 42)] (q 439 14 43)) (q 439 4 43),
.ife (.and_ [.cmp (.call (.name 8 (q 440 7 10)) [.name 229 (q 440 11 18)] (q 440 7 19)) .Gt (.cint 1 0 (q 440 22 23)) (q 440 7 23),.cmp (.comp (.name 41 (q 440 29 35)) (.nm 41 (q 440 40 46)) (.name 229 (q 440 50 57)) [.not_ (.call (.name 231 (q 440 65 80)) [.name 41 (q 440 81 87)] (q 440 65 88)) (q 440 61 88)] [] [(16,.local),(41,.local),(231,.globalImplicit)] [] (q 440 28 89)) .NotEq (.list [] (q 440 93 95)) (q 440 28 95)] (q 440 7 95)) [.ret (some (.name 119 (q 441 15 20))) (q 441 8 20)] [] ⟨440,4,441,20⟩,
.ret (some (.bin (.name 119 (q 442 11 16)) .Add (.comp (.name 41 (q 442 20 26)) (.nm 41 (q 442 31 37)) (.name 229 (q 442 41 48)) [.not_ (.call (.name 171 (q 442 56 65)) [.name 41 (q 442 66 72),.name 169 (q 442 74 80)] (q 442 56 81)) (q 442 52 81)] [] [(16,.local),(41,.local),(171,.globalImplicit),(169,.free)] [] (q 442 19 82)) (q 442 11 82))) (q 442 4 82)]
noncomputable def d_look_up:FD:=⟨[23,13],[],[(23,.local),(13,.local),(119,.local),(169,.cell),(229,.local),(228,.globalImplicit),(230,.globalImplicit),(8,.globalImplicit)],b_look_up⟩
noncomputable def b_make_ready:List S:=[.asg (.at_ (.name 41 (q 368 4 10)) 170 (q 368 4 19)) (.cbool true 0 (q 368 22 26)) (q 368 4 26)]
noncomputable def d_make_ready:FD:=⟨[41],[],[(41,.local)],b_make_ready⟩
noncomputable def b_match_formals:List S:=[.asg (.tp [(19,(q 120 4 8)),(14,(q 120 10 15)),(153,(q 120 17 25))] 0 (q 120 4 25)) (.call (.name 188 (q 120 28 39)) [.name 154 (q 120 40 47),.name 72 (q 120 49 53)] (q 120 28 54)) (q 120 4 54),
.asg (.nm 61 (q 121 4 9)) (.comp (.name 82 (q 121 13 16)) (.nm 7 (q 121 21 24)) (.name 19 (q 121 28 32)) [] [{target:=(PySem.Expr.Name "key" (q 121 37 40)),iter:=(PySem.Expr.Name "row" (q 121 44 47)),ifs:=[],is_async:=0:PySem.Comprehension}] [(16,.local),(7,.local),(82,.local)] [] (q 121 12 48)) (q 121 4 48),
.asg (.nm 119 (q 122 4 9)) (.dict [] [] (q 122 12 14)) (q 122 4 14),
.asg (.nm 232 (q 123 4 12)) (.cbool false 0 (q 123 15 20)) (q 123 4 20),
.for_ (.nm 233 (q 124 8 12)) (.call (.name 28 (q 124 16 21)) [.call (.name 8 (q 124 22 25)) [.name 100 (q 124 26 32)] (q 124 22 33)] (q 124 16 34)) [.asg (.tp [(234,(q 125 8 15)),(1,(q 125 17 21))] 0 (q 125 8 21)) (.sub (.name 100 (q 125 24 30)) (.name 233 (q 125 31 35)) (q 125 24 36)) (q 125 8 36),
.ife (.cmp (.name 234 (q 126 11 18)) .Is (.cnone 0 (q 126 22 26)) (q 126 11 26)) [.ife (.name 232 (q 127 15 23)) [.rais 76 (q 128 22 32) (.name 72 (q 128 33 37)) (.cstr 235 0 (q 128 39 83)) (q 128 22 84) (q 128 16 84)] [] ⟨127,12,128,84⟩,
.ife (.cmp (.name 233 (q 129 15 19)) .GtE (.call (.name 8 (q 129 23 26)) [.name 61 (q 129 27 32)] (q 129 23 33)) (q 129 15 33)) [.rais 76 (q 130 22 32) (.name 72 (q 130 33 37)) (.cstr 236 0 (q 130 39 57)) (q 130 22 58) (q 130 16 58)] [] ⟨129,12,130,58⟩,
.asg (.nm 237 (q 131 12 18)) (.list [.sub (.name 61 (q 131 22 27)) (.name 233 (q 131 28 32)) (q 131 22 33)] (q 131 21 34)) (q 131 12 34)] [.asg (.nm 232 (q 133 12 20)) (.cbool true 0 (q 133 23 27)) (q 133 12 27),
.asg (.nm 237 (q 134 12 18)) (.comp (.call (.name 239 (q 134 22 33)) [.name 238 (q 134 34 40),.name 72 (q 134 42 46)] (q 134 22 47)) (.nm 238 (q 134 52 58)) (.name 234 (q 134 62 69)) [] [] [(16,.local),(238,.local),(239,.globalImplicit),(72,.free)] [] (q 134 21 70)) (q 134 12 70)] ⟨126,8,134,70⟩,
.for_ (.nm 82 (q 135 12 15)) (.name 237 (q 135 19 25)) [.ife (.and_ [.cmp (.name 234 (q 136 15 22)) .IsNot (.cnone 0 (q 136 30 34)) (q 136 15 34),.cmp (.call (.name 8 (q 136 39 42)) [.comp (.name 10 (q 136 44 47)) (.nm 10 (q 136 52 55)) (.name 61 (q 136 59 64)) [.cmp (.sub (.name 14 (q 136 68 73)) (.name 10 (q 136 74 77)) (q 136 68 78)) .Eq (.name 82 (q 136 82 85)) (q 136 68 85)] [] [(16,.local),(10,.local),(82,.free),(14,.free)] [] (q 136 43 86)] (q 136 39 87)) .NotEq (.cint 1 0 (q 136 91 92)) (q 136 39 92)] (q 136 15 92)) [.rais 76 (q 137 22 32) (.name 72 (q 137 33 37)) (.cstr 240 0 (q 137 39 73)) (q 137 22 74) (q 137 16 74)] [] ⟨136,12,137,74⟩,
.ife (.cmp (.name 82 (q 138 15 18)) .In (.name 119 (q 138 22 27)) (q 138 15 27)) [.rais 76 (q 139 22 32) (.name 72 (q 139 33 37)) (.cstr 241 0 (q 139 39 65)) (q 139 22 66) (q 139 16 66)] [] ⟨138,12,139,66⟩,
.asg (.sb (.name 119 (q 140 12 17)) (.name 82 (q 140 18 21)) (q 140 12 22)) (.tup [.cstr 242 0 (q 140 26 34),.name 1 (q 140 36 40)] 0 (q 140 25 41)) (q 140 12 41)] ⟨135,8,140,41⟩] ⟨124,4,140,41⟩,
.for_ (.nm 82 (q 141 8 11)) (.name 61 (q 141 15 20)) [.ife (.cmp (.name 82 (q 142 11 14)) .NotIn (.name 119 (q 142 22 27)) (q 142 11 27)) [.ife (.cmp (.sub (.name 153 (q 143 15 23)) (.name 82 (q 143 24 27)) (q 143 15 28)) .Is (.cnone 0 (q 143 32 36)) (q 143 15 36)) [.rais 76 (q 144 22 32) (.name 72 (q 144 33 37)) (.cstr 243 0 (q 144 39 67)) (q 144 22 68) (q 144 16 68)] [] ⟨143,12,144,68⟩,
.asg (.sb (.name 119 (q 145 12 17)) (.name 82 (q 145 18 21)) (q 145 12 22)) (.ife (.cmp (.sub (.name 153 (q 145 37 45)) (.name 82 (q 145 46 49)) (q 145 37 50)) .Eq (.cstr 244 0 (q 145 54 59)) (q 145 37 59)) (.tup [.cstr 244 0 (q 145 26 31)] 0 (q 145 25 33)) (.tup [.cstr 245 0 (q 145 66 75),.sub (.name 153 (q 145 77 85)) (.name 82 (q 145 86 89)) (q 145 77 90)] 0 (q 145 65 91)) (q 145 25 91)) (q 145 12 91)] [] ⟨142,8,145,91⟩] ⟨141,4,145,91⟩,
.ret (some (.name 119 (q 146 11 16))) (q 146 4 16)]
noncomputable def d_match_formals:FD:=⟨[154,100,72],[],[(154,.local),(100,.local),(72,.cell),(19,.local),(14,.cell),(153,.local),(82,.cell),(61,.local),(119,.local),(232,.local),(233,.local),(234,.local),(1,.local),(237,.local),(188,.globalImplicit),(28,.globalImplicit),(8,.globalImplicit),(76,.globalImplicit)],b_match_formals⟩
noncomputable def b_named_entities:List S:=[.ife (.cmp (.sub (.name 1 (q 464 7 11)) (.cint 0 0 (q 464 12 13)) (q 464 7 14)) .Eq (.cstr 13 0 (q 464 18 24)) (q 464 7 24)) [.ret (some (.call (.name 207 (q 465 15 22)) [.attr (.name 0 (q 465 23 28)) 23 (q 465 23 34),.sub (.name 1 (q 465 36 40)) (.cint 1 0 (q 465 41 42)) (q 465 36 43)] (q 465 15 44))) (q 465 8 44)] [] ⟨464,4,465,44⟩,
.ife (.cmp (.sub (.name 1 (q 466 7 11)) (.cint 0 0 (q 466 12 13)) (q 466 7 14)) .NotEq (.cstr 194 0 (q 466 18 26)) (q 466 7 26)) [.ret (some (.list [] (q 467 15 17))) (q 467 8 17)] [] ⟨466,4,467,17⟩,
.asg (.nm 119 (q 468 4 9)) (.list [] (q 468 12 14)) (q 468 4 14),
.for_ (.nm 41 (q 469 8 14)) (.call (.name 246 (q 469 18 32)) [.name 0 (q 469 33 38),.sub (.name 1 (q 469 40 44)) (.cint 1 0 (q 469 45 46)) (q 469 40 47)] (q 469 18 48)) [.expr (.meth (.name 119 (q 470 8 13)) 182 (q 470 8 20) [.call (.name 208 (q 470 21 32)) [.name 41 (q 470 33 39),.sub (.name 1 (q 470 41 45)) (.cint 2 0 (q 470 46 47)) (q 470 41 48),.attr (.name 0 (q 470 50 55)) 23 (q 470 50 61)] (q 470 21 62)] (q 470 8 63)) (q 470 8 63)] ⟨469,4,470,63⟩,
.ret (some (.name 119 (q 471 11 16))) (q 471 4 16)]
noncomputable def d_named_entities:FD:=⟨[0,1],[],[(0,.local),(1,.local),(119,.local),(41,.local),(207,.globalImplicit),(246,.globalImplicit),(208,.globalImplicit)],b_named_entities⟩
noncomputable def b_new_number:List S:=[.aug (.at_ (.name 0 (q 19 4 9)) 168 (q 19 4 15)) .Add (.cint 1 0 (q 19 19 20)) (q 19 4 20),
.ret (some (.attr (.name 0 (q 20 11 16)) 168 (q 20 11 22))) (q 20 4 22)]
noncomputable def d_new_number:FD:=⟨[0],[],[(0,.local)],b_new_number⟩
noncomputable def b_offered_entities:List S:=[.asg (.nm 119 (q 421 4 9)) (.list [] (q 421 12 14)) (q 421 4 14),
.asg (.nm 150 (q 422 4 8)) (.name 23 (q 422 11 16)) (q 422 4 16),
.whl (.cmp (.name 150 (q 423 10 14)) .IsNot (.cnone 0 (q 423 22 26)) (q 423 10 26)) [.asg (.nm 7 (q 424 8 11)) (.list [] (q 424 14 16)) (q 424 8 16),
.for_ (.nm 2 (q 425 12 19)) (.attr (.name 150 (q 425 23 27)) 24 (q 425 23 32)) [.asg (.nm 14 (q 426 12 17)) (.attr (.attr (.name 2 (q 426 20 27)) 11 (q 426 20 34)) 14 (q 426 20 40)) (q 426 12 40),
.aug (.nm 7 (q 427 12 15)) .Add (.comp (.name 41 (q 427 20 26)) (.nm 41 (q 427 31 37)) (.meth (.name 14 (q 427 41 46)) 15 (q 427 41 50) [.name 13 (q 427 51 55),.list [] (q 427 57 59)] (q 427 41 60)) [.call (.name 247 (q 427 64 74)) [.attr (.name 2 (q 427 75 82)) 11 (q 427 75 89),.name 41 (q 427 91 97)] (q 427 64 98)] [] [(16,.local),(41,.local),(247,.globalImplicit),(2,.free)] [] (q 427 19 99)) (q 427 12 99),
.ife (.cmp (.attr (.name 2 (q 428 15 22)) 54 (q 428 15 27)) .Eq (.cstr 244 0 (q 428 31 36)) (q 428 15 36)) [.aug (.nm 7 (q 429 16 19)) .Add (.call (.name 248 (q 429 23 37)) [.attr (.name 2 (q 429 38 45)) 11 (q 429 38 52),.name 13 (q 429 54 58)] (q 429 23 59)) (q 429 16 59)] [] ⟨428,12,429,59⟩] ⟨425,8,429,59⟩,
.for_ (.nm 12 (q 430 12 18)) (.attr (.name 150 (q 430 22 26)) 249 (q 430 22 36)) [.aug (.nm 7 (q 431 12 15)) .Add (.call (.name 250 (q 431 19 36)) [.attr (.name 23 (q 431 37 42)) 34 (q 431 37 47),.name 12 (q 431 49 55),.name 13 (q 431 57 61)] (q 431 19 62)) (q 431 12 62)] ⟨430,8,431,62⟩,
.for_ (.nm 41 (q 432 12 18)) (.name 7 (q 432 22 25)) [.ife (.cmp (.comp (.name 40 (q 433 16 21)) (.nm 40 (q 433 26 31)) (.name 119 (q 433 35 40)) [.cmp (.attr (.name 40 (q 433 44 49)) 12 (q 433 44 56)) .Eq (.attr (.name 41 (q 433 60 66)) 12 (q 433 60 73)) (q 433 44 73)] [] [(16,.local),(40,.local),(41,.free)] [] (q 433 15 74)) .Eq (.list [] (q 433 78 80)) (q 433 15 80)) [.expr (.meth (.name 119 (q 434 16 21)) 32 (q 434 16 28) [.name 41 (q 434 29 35)] (q 434 16 36)) (q 434 16 36)] [] ⟨433,12,434,36⟩] ⟨432,8,434,36⟩,
.asg (.nm 150 (q 435 8 12)) (.attr (.name 150 (q 435 15 19)) 151 (q 435 15 26)) (q 435 8 26)] ⟨423,4,435,26⟩,
.ret (some (.name 119 (q 436 11 16))) (q 436 4 16)]
noncomputable def d_offered_entities:FD:=⟨[23,13],[],[(23,.local),(13,.local),(119,.local),(150,.local),(7,.local),(2,.cell),(14,.local),(41,.cell),(12,.local),(248,.globalImplicit),(250,.globalImplicit)],b_offered_entities⟩
noncomputable def b_one_entity:List S:=[.asg (.nm 7 (q 523 4 7)) (.comp (.name 41 (q 523 11 17)) (.nm 41 (q 523 22 28)) (.call (.name 246 (q 523 32 46)) [.name 0 (q 523 47 52),.name 1 (q 523 54 58)] (q 523 32 59)) [.cmp (.attr (.name 41 (q 523 63 69)) 64 (q 523 63 74)) .In (.name 251 (q 523 78 83)) (q 523 63 83)] [] [(16,.local),(41,.local),(251,.free)] [] (q 523 10 84)) (q 523 4 84),
.ife (.cmp (.call (.name 8 (q 524 7 10)) [.name 7 (q 524 11 14)] (q 524 7 15)) .NotEq (.cint 1 0 (q 524 19 20)) (q 524 7 20)) [.expr (.call (.name 39 (q 525 8 14)) [.name 0 (q 525 15 20),.cstr 252 0 (q 525 22 55)] (q 525 8 56)) (q 525 8 56)] [] ⟨524,4,525,56⟩,
.ret (some (.sub (.name 7 (q 526 11 14)) (.cint 0 0 (q 526 15 16)) (q 526 11 17))) (q 526 4 17)]
noncomputable def d_one_entity:FD:=⟨[0,1,251],[],[(0,.local),(1,.local),(251,.cell),(7,.local),(246,.globalImplicit),(8,.globalImplicit),(39,.globalImplicit)],b_one_entity⟩
noncomputable def b_open_region:List S:=[.asg (.nm 11 (q 321 4 10)) (.call (.name 172 (q 321 13 19)) [.name 64 (q 321 20 24),.name 253 (q 321 26 31),.name 151 (q 321 33 39)] (q 321 13 40)) (q 321 4 40),
.ife (.cmp (.name 253 (q 322 7 12)) .IsNot (.cnone 0 (q 322 20 24)) (q 322 7 24)) [.asg (.at_ (.name 253 (q 323 8 13)) 11 (q 323 8 20)) (.name 11 (q 323 23 29)) (q 323 8 29)] [] ⟨322,4,323,29⟩,
.ret (some (.name 11 (q 324 11 17))) (q 324 4 17)]
noncomputable def d_open_region:FD:=⟨[64,253,151],[],[(64,.local),(253,.local),(151,.local),(11,.local),(172,.globalImplicit)],b_open_region⟩
noncomputable def b_parts_of:List S:=[.asg (.nm 168 (q 661 4 9)) (.cint 0 0 (q 661 12 13)) (q 661 4 13),
.asg (.nm 176 (q 662 4 8)) (.list [.name 177 (q 662 12 16)] (q 662 11 17)) (q 662 4 17),
.whl (.cmp (.name 176 (q 663 10 14)) .NotEq (.list [] (q 663 18 20)) (q 663 10 20)) [.asg (.nm 44 (q 664 8 12)) (.meth (.name 176 (q 664 15 19)) 56 (q 664 15 23) [] (q 664 15 25)) (q 664 8 25),
.ife (.call (.name 180 (q 665 11 21)) [.name 44 (q 665 22 26),.tup [.name 179 (q 665 29 34),.name 181 (q 665 36 40)] 0 (q 665 28 41)] (q 665 11 42)) [.aug (.nm 168 (q 666 12 17)) .Add (.bin (.cint 1 0 (q 666 21 22)) .Add (.call (.name 8 (q 666 25 28)) [.name 44 (q 666 29 33)] (q 666 25 34)) (q 666 21 34)) (q 666 12 34),
.expr (.meth (.name 176 (q 667 12 16)) 182 (q 667 12 23) [.name 44 (q 667 24 28)] (q 667 12 29)) (q 667 12 29)] [.ife (.call (.name 180 (q 668 13 23)) [.name 44 (q 668 24 28),.name 162 (q 668 30 33)] (q 668 13 34)) [.aug (.nm 168 (q 669 12 17)) .Add (.call (.name 8 (q 669 21 24)) [.name 44 (q 669 25 29)] (q 669 21 30)) (q 669 12 30)] [] ⟨668,8,669,30⟩] ⟨665,8,669,30⟩] ⟨663,4,669,30⟩,
.ret (some (.name 168 (q 670 11 16))) (q 670 4 16)]
noncomputable def d_parts_of:FD:=⟨[177],[],[(177,.local),(168,.local),(176,.local),(44,.local),(180,.globalImplicit),(179,.globalImplicit),(181,.globalImplicit),(8,.globalImplicit),(162,.globalImplicit)],b_parts_of⟩
noncomputable def b_refuse:List S:=[.rais 76 (q 474 10 20) (.attr (.name 0 (q 474 21 26)) 72 (q 474 21 31)) (.name 254 (q 474 33 37)) (q 474 10 38) (q 474 4 38)]
noncomputable def d_refuse:FD:=⟨[0,254],[],[(0,.local),(254,.local),(76,.globalImplicit)],b_refuse⟩
noncomputable def b_resolve_by:List S:=[.defn 255 [.asg (.at_ (.name 0 (q 766 8 13)) 72 (q 766 8 18)) (.sub (.name 48 (q 766 21 25)) (.cint 1 0 (q 766 26 27)) (q 766 21 28)) (q 766 8 28),
.asg (.nm 256 (q 767 8 12)) (.ife (.and_ [.cmp (.name 23 (q 767 49 54)) .Eq (.cstr 53 0 (q 767 58 67)) (q 767 49 67),.cmp (.sub (.name 48 (q 767 72 76)) (.cint 0 0 (q 767 77 78)) (q 767 72 79)) .Eq (.cstr 51 0 (q 767 83 92)) (q 767 72 92)] (q 767 49 92)) (.call (.name 257 (q 767 15 26)) [.name 0 (q 767 27 32),.sub (.sub (.name 48 (q 767 34 38)) (.cint 3 0 (q 767 39 40)) (q 767 34 41)) (.cint 1 0 (q 767 42 43)) (q 767 34 44)] (q 767 15 45)) (.cnone 0 (q 767 98 102)) (q 767 15 102)) (q 767 8 102),
.ife (.cmp (.name 256 (q 768 11 15)) .Is (.cnone 0 (q 768 19 23)) (q 768 11 23)) [.ret (some (.call (.name 134 (q 769 19 32)) [.name 0 (q 769 33 38),.list [.name 48 (q 769 41 45)] (q 769 40 46)] (q 769 19 47))) (q 769 12 47)] [] ⟨768,8,769,47⟩,
.expr (.call (.name 4 (q 770 8 21)) [.name 0 (q 770 22 27),.sub (.name 48 (q 770 29 33)) (.cint 2 0 (q 770 34 35)) (q 770 29 36),.name 256 (q 770 38 42)] (q 770 8 43)) (q 770 8 43),
.ret (some (.list [] (q 771 15 17))) (q 771 8 17)] [(256,.local),(23,.free),(0,.free),(48,.free),(257,.globalImplicit),(134,.globalImplicit),(4,.globalImplicit)] [] ⟨765,4,771,17⟩,
.ret (some (.call (.name 258 (q 772 11 24)) [.name 22 (q 772 25 29),.name 255 (q 772 31 35)] (q 772 11 36))) (q 772 4 36)]
noncomputable def d_resolve_by:FD:=⟨[0,23,48,22],[],[(0,.cell),(23,.cell),(48,.cell),(22,.local),(255,.local),(258,.globalImplicit)],b_resolve_by⟩
noncomputable def b_resolve_decls:List S:=[.asg (.nm 119 (q 515 4 9)) (.list [] (q 515 12 14)) (q 515 4 14),
.for_ (.nm 88 (q 516 8 19)) (.name 129 (q 516 23 35)) [.asg (.at_ (.name 0 (q 517 8 13)) 72 (q 517 8 18)) (.sub (.name 88 (q 517 21 32)) (.cint 1 0 (q 517 33 34)) (q 517 21 35)) (q 517 8 35),
.ife (.cmp (.sub (.name 88 (q 518 11 22)) (.cint 0 0 (q 518 23 24)) (q 518 11 25)) .NotIn (.attr (.name 0 (q 518 33 38)) 129 (q 518 33 51)) (q 518 11 51)) [.expr (.call (.name 39 (q 519 12 18)) [.name 0 (q 519 19 24),.cstr 259 0 (q 519 26 52)] (q 519 12 53)) (q 519 12 53)] [] ⟨518,8,519,53⟩,
.aug (.nm 119 (q 520 8 13)) .Add (.call (.sub (.attr (.name 0 (q 520 17 22)) 129 (q 520 17 35)) (.sub (.name 88 (q 520 36 47)) (.cint 0 0 (q 520 48 49)) (q 520 36 50)) (q 520 17 51)) [.name 0 (q 520 52 57),.name 88 (q 520 59 70)] (q 520 17 71)) (q 520 8 71)] ⟨516,4,520,71⟩,
.ret (some (.name 119 (q 521 11 16))) (q 521 4 16)]
noncomputable def d_resolve_decls:FD:=⟨[0,129],[],[(0,.local),(129,.local),(119,.local),(88,.local),(39,.globalImplicit)],b_resolve_decls⟩
noncomputable def b_resolve_steps:List S:=[.asg (.nm 119 (q 774 4 9)) (.list [] (q 774 12 14)) (q 774 4 14),
.for_ (.tp [(23,(q 775 8 13)),(48,(q 775 15 19))] 0 (q 775 8 19)) (.name 49 (q 775 23 28)) [.asg (.tp [(150,(q 776 8 12)),(260,(q 776 14 19))] 0 (q 776 8 19)) (.ife (.cmp (.name 23 (q 776 40 45)) .Eq (.cstr 53 0 (q 776 49 58)) (q 776 40 58)) (.tup [.name 117 (q 776 23 28),.name 116 (q 776 30 35)] 0 (q 776 22 36)) (.tup [.name 116 (q 776 65 70),.name 117 (q 776 72 77)] 0 (q 776 64 78)) (q 776 22 78)) (q 776 8 78),
.asg (.nm 157 (q 777 8 13)) (.call (.name 8 (q 777 16 19)) [.attr (.name 150 (q 777 20 24)) 61 (q 777 20 30)] (q 777 16 31)) (q 777 8 31),
.asg (.at_ (.name 0 (q 778 8 13)) 23 (q 778 8 19)) (.name 150 (q 778 22 26)) (q 778 8 26),
.asg (.nm 22 (q 779 8 12)) (.ife (.cmp (.name 23 (q 779 21 26)) .Eq (.cstr 50 0 (q 779 30 40)) (q 779 21 40)) (.list [] (q 779 15 17)) (.sub (.attr (.name 53 (q 779 46 53)) 54 (q 779 46 58)) (.ife (.cmp (.sub (.name 48 (q 779 64 68)) (.cint 0 0 (q 779 69 70)) (q 779 64 71)) .Eq (.cstr 193 0 (q 779 75 85)) (q 779 64 85)) (.cint 3 0 (q 779 59 60)) (.cint 2 0 (q 779 91 92)) (q 779 59 92)) (q 779 46 93)) (q 779 15 93)) (q 779 8 93),
.aug (.nm 119 (q 780 8 13)) .Add (.call (.name 261 (q 780 17 27)) [.name 0 (q 780 28 33),.name 23 (q 780 35 40),.name 48 (q 780 42 46),.name 22 (q 780 48 52)] (q 780 17 53)) (q 780 8 53),
.for_ (.nm 41 (q 781 12 18)) (.cut (.attr (.name 150 (q 781 22 26)) 61 (q 781 22 32)) (some (.name 157 (q 781 33 38))) none (q 781 33 39) (q 781 22 40)) [.ife (.cmp (.cstr 262 0 (q 782 15 19)) .In (.attr (.name 41 (q 782 23 29)) 13 (q 782 23 34)) (q 782 15 34)) [.expr (.call (.name 263 (q 783 16 21)) [.name 260 (q 783 22 27),.name 41 (q 783 29 35)] (q 783 16 36)) (q 783 16 36)] [] ⟨782,12,783,36⟩] ⟨781,8,783,36⟩] ⟨775,4,783,36⟩,
.ret (some (.name 119 (q 784 11 16))) (q 784 4 16)]
noncomputable def d_resolve_steps:FD:=⟨[0,49,117,116,53],[],[(0,.local),(49,.local),(117,.local),(116,.local),(53,.local),(119,.local),(23,.local),(48,.local),(150,.local),(260,.local),(157,.local),(22,.local),(41,.local),(8,.globalImplicit),(261,.globalImplicit),(263,.globalImplicit)],b_resolve_steps⟩
noncomputable def b_select_from:List S:=[.ife (.cmp (.attr (.name 264 (q 444 7 13)) 11 (q 444 7 20)) .Is (.cnone 0 (q 444 24 28)) (q 444 7 28)) [.ret (some (.list [] (q 445 15 17))) (q 445 8 17)] [] ⟨444,4,445,17⟩,
.asg (.nm 7 (q 446 4 7)) (.meth (.attr (.attr (.name 264 (q 446 10 16)) 11 (q 446 10 23)) 14 (q 446 10 29)) 15 (q 446 10 33) [.name 13 (q 446 34 38),.list [] (q 446 40 42)] (q 446 10 43)) (q 446 4 43),
.asg (.nm 265 (q 447 4 13)) (.call (.name 266 (q 447 16 24)) [.attr (.name 264 (q 447 25 31)) 11 (q 447 25 38),.name 23 (q 447 40 45)] (q 447 16 46)) (q 447 4 46),
.ife (.and_ [.not_ (.name 265 (q 448 11 20)) (q 448 7 20),.cmp (.attr (.name 264 (q 448 25 31)) 64 (q 448 25 36)) .NotEq (.cstr 2 0 (q 448 40 49)) (q 448 25 49)] (q 448 7 49)) [.ret (some (.list [] (q 449 15 17))) (q 449 8 17)] [] ⟨448,4,449,17⟩,
.ife (.name 265 (q 450 7 16)) [.asg (.nm 7 (q 451 8 11)) (.comp (.name 41 (q 451 15 21)) (.nm 41 (q 451 26 32)) (.name 7 (q 451 36 39)) [.and_ [.attr (.name 41 (q 451 43 49)) 170 (q 451 43 58),.not_ (.attr (.name 41 (q 451 68 74)) 63 (q 451 68 88)) (q 451 64 88)] (q 451 43 89)] [] [(16,.local),(41,.local)] [] (q 451 14 90)) (q 451 8 90)] [.asg (.nm 7 (q 453 8 11)) (.comp (.name 41 (q 453 15 21)) (.nm 41 (q 453 26 32)) (.name 7 (q 453 36 39)) [.call (.name 247 (q 453 43 53)) [.attr (.name 264 (q 453 54 60)) 11 (q 453 54 67),.name 41 (q 453 69 75)] (q 453 43 76)] [] [(16,.local),(41,.local),(247,.globalImplicit),(264,.free)] [] (q 453 14 77)) (q 453 8 77)] ⟨450,4,453,77⟩,
.ife (.or_ [.name 265 (q 454 7 16),.cmp (.attr (.name 264 (q 454 20 26)) 54 (q 454 20 31)) .Eq (.cstr 244 0 (q 454 35 40)) (q 454 20 40)] (q 454 7 40)) [.aug (.nm 7 (q 455 8 11)) .Add (.comp (.name 41 (q 455 16 22)) (.nm 41 (q 455 27 33)) (.call (.name 248 (q 455 37 51)) [.attr (.name 264 (q 455 52 58)) 11 (q 455 52 65),.name 13 (q 455 67 71)] (q 455 37 72)) [.not_ (.call (.name 171 (q 455 80 89)) [.name 41 (q 455 90 96),.name 7 (q 455 98 101)] (q 455 80 102)) (q 455 76 102)] [] [(16,.local),(41,.local),(171,.globalImplicit),(7,.free)] [] (q 455 15 103)) (q 455 8 103)] [] ⟨454,4,455,103⟩,
.ret (some (.name 7 (q 456 11 14))) (q 456 4 14)]
noncomputable def d_select_from:FD:=⟨[264,13,23],[],[(264,.cell),(13,.local),(23,.local),(7,.cell),(265,.local),(266,.globalImplicit),(248,.globalImplicit)],b_select_from⟩
noncomputable def b_settle_rivals:List S:=[.asg (.nm 267 (q 347 4 12)) (.comp (.name 40 (q 347 16 21)) (.nm 40 (q 347 26 31)) (.meth (.attr (.name 11 (q 347 35 41)) 14 (q 347 35 47)) 15 (q 347 35 51) [.attr (.name 41 (q 347 52 58)) 13 (q 347 52 63),.list [] (q 347 65 67)] (q 347 35 68)) [.not_ (.attr (.name 40 (q 347 76 81)) 63 (q 347 76 95)) (q 347 72 95)] [] [(16,.local),(40,.local)] [] (q 347 15 96)) (q 347 4 96),
.asg (.nm 268 (q 348 4 10)) (.comp (.name 40 (q 348 14 19)) (.nm 40 (q 348 24 29)) (.name 267 (q 348 33 41)) [.call (.name 196 (q 348 45 55)) [.name 40 (q 348 56 61),.name 41 (q 348 63 69)] (q 348 45 70)] [] [(16,.local),(40,.local),(196,.globalImplicit),(41,.free)] [] (q 348 13 71)) (q 348 4 71),
.ife (.cmp (.comp (.name 40 (q 349 8 13)) (.nm 40 (q 349 18 23)) (.name 268 (q 349 27 33)) [.not_ (.attr (.name 40 (q 349 41 46)) 62 (q 349 41 58)) (q 349 37 58)] [] [(16,.local),(40,.local)] [] (q 349 7 59)) .NotEq (.list [] (q 349 63 65)) (q 349 7 65)) [.ife (.not_ (.attr (.name 41 (q 350 15 21)) 62 (q 350 15 33)) (q 350 11 33)) [.rais 76 (q 351 18 28) (.attr (.name 41 (q 351 29 35)) 72 (q 351 29 40)) (.cstr 269 0 (q 351 42 58)) (q 351 18 59) (q 351 12 59)] [] ⟨350,8,351,59⟩,
.asg (.at_ (.name 41 (q 352 8 14)) 63 (q 352 8 28)) (.cbool true 0 (q 352 31 35)) (q 352 8 35),
.ret none (q 353 8 14)] [] ⟨349,4,353,14⟩,
.for_ (.nm 40 (q 354 8 13)) (.name 268 (q 354 17 23)) [.asg (.at_ (.name 40 (q 355 8 13)) 63 (q 355 8 27)) (.cbool true 0 (q 355 30 34)) (q 355 8 34)] ⟨354,4,355,34⟩]
noncomputable def d_settle_rivals:FD:=⟨[11,41],[],[(11,.local),(41,.cell),(40,.local),(267,.local),(268,.local),(76,.globalImplicit)],b_settle_rivals⟩
noncomputable def b_under_clauses:List S:=[.asg (.nm 270 (q 753 4 8)) (.comp (.tup [.name 11 (q 753 13 19),.attr (.name 11 (q 753 21 27)) 24 (q 753 21 32),.attr (.name 11 (q 753 34 40)) 249 (q 753 34 50)] 0 (q 753 12 51)) (.tp [(11,(q 753 56 62)),(24,(q 753 64 68)),(271,(q 753 70 75))] 0 (q 753 56 75)) (.name 22 (q 753 79 83)) [] [] [(16,.local),(11,.local),(24,.local),(271,.local)] [] (q 753 11 84)) (q 753 4 84),
.for_ (.tp [(11,(q 754 8 14)),(24,(q 754 16 20)),(271,(q 754 22 27))] 0 (q 754 8 27)) (.name 22 (q 754 31 35)) [.asg (.at_ (.name 11 (q 755 8 14)) 24 (q 755 8 19)) (.call (.name 181 (q 755 22 26)) [.name 24 (q 755 27 31)] (q 755 22 32)) (q 755 8 32),
.asg (.at_ (.name 11 (q 756 8 14)) 249 (q 756 8 24)) (.call (.name 181 (q 756 27 31)) [.name 271 (q 756 32 37)] (q 756 27 38)) (q 756 8 38)] ⟨754,4,756,38⟩,
.tryF [.ret (some (.call (.name 255 (q 758 15 19)) [] (q 758 15 21))) (q 758 8 21)] [.for_ (.tp [(11,(q 760 12 18)),(24,(q 760 20 24)),(271,(q 760 26 31))] 0 (q 760 12 31)) (.name 270 (q 760 35 39)) [.asg (.at_ (.name 11 (q 761 12 18)) 24 (q 761 12 23)) (.name 24 (q 761 26 30)) (q 761 12 30),
.asg (.at_ (.name 11 (q 762 12 18)) 249 (q 762 12 28)) (.name 271 (q 762 31 36)) (q 762 12 36)] ⟨760,8,762,36⟩] ⟨757,4,762,36⟩]
noncomputable def d_under_clauses:FD:=⟨[22,255],[],[(22,.local),(255,.local),(11,.local),(24,.local),(271,.local),(270,.local),(181,.globalImplicit)],b_under_clauses⟩
noncomputable def b_unfinished:List S:=[.for_ (.nm 41 (q 458 8 14)) (.meth (.attr (.name 11 (q 458 18 24)) 14 (q 458 18 30)) 15 (q 458 18 34) [.name 13 (q 458 35 39),.list [] (q 458 41 43)] (q 458 18 44)) [.ife (.and_ [.cmp (.attr (.name 41 (q 459 11 17)) 82 (q 459 11 21)) .Eq (.name 82 (q 459 25 28)) (q 459 11 28),.not_ (.attr (.name 41 (q 459 38 44)) 67 (q 459 38 56)) (q 459 34 56),.not_ (.attr (.name 41 (q 459 67 73)) 62 (q 459 67 85)) (q 459 63 85),.not_ (.attr (.name 41 (q 459 96 102)) 63 (q 459 96 116)) (q 459 92 116)] (q 459 11 117)) [.ret (some (.name 41 (q 460 19 25))) (q 460 12 25)] [] ⟨459,8,460,25⟩] ⟨458,4,460,25⟩,
.ret (some (.cnone 0 (q 461 11 15))) (q 461 4 15)]
noncomputable def d_unfinished:FD:=⟨[11,13,82],[],[(11,.local),(13,.local),(82,.local),(41,.local)],b_unfinished⟩
noncomputable def b_unique:List S:=[.ret (some (.bin (.bin (.name 13 (q 270 11 15)) .Add (.name 272 (q 270 18 27)) (q 270 11 27)) .Add (.call (.name 162 (q 270 30 33)) [.name 12 (q 270 34 40)] (q 270 30 41)) (q 270 11 41))) (q 270 4 41)]
noncomputable def d_unique:FD:=⟨[13,12],[],[(13,.local),(12,.local),(272,.globalImplicit),(162,.globalImplicit)],b_unique⟩
noncomputable def b_unit_name:List S:=[.ife (.cmp (.sub (.name 183 (q 224 7 11)) (.cint 0 0 (q 224 12 13)) (q 224 7 14)) .Eq (.cstr 273 0 (q 224 18 27)) (q 224 7 27)) [.ret (some (.sub (.sub (.name 183 (q 225 15 19)) (.cint 2 0 (q 225 20 21)) (q 225 15 22)) (.cint 1 0 (q 225 23 24)) (q 225 15 25))) (q 225 8 25)] [] ⟨224,4,225,25⟩,
.ret (some (.sub (.name 183 (q 226 11 15)) (.cint 2 0 (q 226 16 17)) (q 226 11 18))) (q 226 4 18)]
noncomputable def d_unit_name:FD:=⟨[183],[],[(183,.local)],b_unit_name⟩
noncomputable def b_unit_sort:List S:=[.ife (.cmp (.sub (.name 183 (q 228 7 11)) (.cint 0 0 (q 228 12 13)) (q 228 7 14)) .Eq (.cstr 273 0 (q 228 18 27)) (q 228 7 27)) [.ret (some (.sub (.sub (.name 183 (q 229 15 19)) (.cint 2 0 (q 229 20 21)) (q 229 15 22)) (.cint 0 0 (q 229 23 24)) (q 229 15 25))) (q 229 8 25)] [] ⟨228,4,229,25⟩,
.ret (some (.cstr 2 0 (q 230 11 20))) (q 230 4 20)]
noncomputable def d_unit_sort:FD:=⟨[183],[],[(183,.local)],b_unit_sort⟩
noncomputable def b_uses_around:List S:=[.asg (.nm 119 (q 677 4 9)) (.list [] (q 677 12 14)) (q 677 4 14),
.asg (.nm 150 (q 678 4 8)) (.name 23 (q 678 11 16)) (q 678 4 16),
.whl (.cmp (.name 150 (q 679 10 14)) .IsNot (.cnone 0 (q 679 22 26)) (q 679 10 26)) [.expr (.meth (.name 119 (q 680 8 13)) 32 (q 680 8 20) [.tup [.name 150 (q 680 22 26),.call (.name 181 (q 680 28 32)) [.attr (.name 150 (q 680 33 37)) 24 (q 680 33 42)] (q 680 28 43),.call (.name 181 (q 680 45 49)) [.attr (.name 150 (q 680 50 54)) 249 (q 680 50 64)] (q 680 45 65)] 0 (q 680 21 66)] (q 680 8 67)) (q 680 8 67),
.asg (.nm 150 (q 681 8 12)) (.attr (.name 150 (q 681 15 19)) 151 (q 681 15 26)) (q 681 8 26)] ⟨679,4,681,26⟩,
.ret (some (.name 119 (q 682 11 16))) (q 682 4 16)]
noncomputable def d_uses_around:FD:=⟨[23],[],[(23,.local),(119,.local),(150,.local),(181,.globalImplicit)],b_uses_around⟩
noncomputable def b_Scope_init:List S:=[.asg (.at_ (.name 274 (q 5 8 12)) 23 (q 5 8 18)) (.name 23 (q 5 21 26)) (q 5 8 26),
.asg (.at_ (.name 274 (q 6 8 12)) 275 (q 6 8 19)) (.name 275 (q 6 22 28)) (q 6 8 28),
.asg (.at_ (.name 274 (q 7 8 12)) 276 (q 7 8 19)) (.name 276 (q 7 22 28)) (q 7 8 28),
.asg (.at_ (.name 274 (q 8 8 12)) 271 (q 8 8 18)) (.name 271 (q 8 21 26)) (q 8 8 26),
.asg (.at_ (.name 274 (q 9 8 12)) 277 (q 9 8 18)) (.cnone 0 (q 9 21 25)) (q 9 8 25),
.asg (.at_ (.name 274 (q 10 8 12)) 278 (q 10 8 19)) (.cnone 0 (q 10 22 26)) (q 10 8 26),
.asg (.at_ (.name 274 (q 11 8 12)) 279 (q 11 8 21)) (.dict [] [] (q 11 24 26)) (q 11 8 26),
.asg (.at_ (.name 274 (q 12 8 12)) 280 (q 12 8 17)) (.dict [] [] (q 12 20 22)) (q 12 8 22),
.asg (.at_ (.name 274 (q 13 8 12)) 129 (q 13 8 25)) (.dict [] [] (q 13 28 30)) (q 13 8 30),
.asg (.at_ (.name 274 (q 14 8 12)) 138 (q 14 8 23)) (.dict [] [] (q 14 26 28)) (q 14 8 28),
.asg (.at_ (.name 274 (q 15 8 12)) 72 (q 15 8 17)) (.cint 1 0 (q 15 20 21)) (q 15 8 21),
.asg (.at_ (.name 274 (q 16 8 12)) 168 (q 16 8 18)) (.cint 100 0 (q 16 21 24)) (q 16 8 24),
.asg (.at_ (.name 274 (q 17 8 12)) 105 (q 17 8 22)) (.cint 0 0 (q 17 25 26)) (q 17 8 26)]
noncomputable def d_Scope_init:FD:=⟨[274,23,275,276,271],[],[(274,.local),(23,.local),(275,.local),(276,.local),(271,.local)],b_Scope_init⟩
noncomputable def b_Entity_init:List S:=[.asg (.at_ (.name 274 (q 25 8 12)) 64 (q 25 8 17)) (.name 64 (q 25 20 24)) (q 25 8 24),
.asg (.at_ (.name 274 (q 26 8 12)) 13 (q 26 8 17)) (.name 13 (q 26 20 24)) (q 26 8 24),
.asg (.at_ (.name 274 (q 27 8 12)) 82 (q 27 8 16)) (.name 82 (q 27 19 22)) (q 27 8 22),
.asg (.at_ (.name 274 (q 28 8 12)) 51 (q 28 8 20)) (.name 51 (q 28 23 30)) (q 28 8 30),
.asg (.at_ (.name 274 (q 29 8 12)) 54 (q 29 8 17)) (.name 54 (q 29 20 24)) (q 29 8 24),
.asg (.at_ (.name 274 (q 30 8 12)) 72 (q 30 8 17)) (.name 72 (q 30 20 24)) (q 30 8 24),
.asg (.at_ (.name 274 (q 31 8 12)) 12 (q 31 8 19)) (.cint 0 0 (q 31 22 23)) (q 31 8 23),
.asg (.at_ (.name 274 (q 32 8 12)) 87 (q 32 8 19)) (.cstr 281 0 (q 32 22 24)) (q 32 8 24),
.asg (.at_ (.name 274 (q 33 8 12)) 80 (q 33 8 17)) (.cnone 0 (q 33 20 24)) (q 33 8 24),
.asg (.at_ (.name 274 (q 34 8 12)) 44 (q 34 8 17)) (.cstr 281 0 (q 34 20 22)) (q 34 8 22),
.asg (.at_ (.name 274 (q 35 8 12)) 11 (q 35 8 19)) (.cnone 0 (q 35 22 26)) (q 35 8 26),
.asg (.at_ (.name 274 (q 36 8 12)) 85 (q 36 8 17)) (.cnone 0 (q 36 20 24)) (q 36 8 24),
.asg (.at_ (.name 274 (q 37 8 12)) 170 (q 37 8 21)) (.cbool false 0 (q 37 24 29)) (q 37 8 29),
.asg (.at_ (.name 274 (q 38 8 12)) 67 (q 38 8 24)) (.cbool false 0 (q 38 27 32)) (q 38 8 32),
.asg (.at_ (.name 274 (q 39 8 12)) 84 (q 39 8 24)) (.cbool false 0 (q 39 27 32)) (q 39 8 32),
.asg (.at_ (.name 274 (q 40 8 12)) 62 (q 40 8 24)) (.cbool false 0 (q 40 27 32)) (q 40 8 32),
.asg (.at_ (.name 274 (q 41 8 12)) 63 (q 41 8 26)) (.cbool false 0 (q 41 29 34)) (q 41 8 34)]
noncomputable def d_Entity_init:FD:=⟨[274,64,13,82,51,54,72],[],[(274,.local),(64,.local),(13,.local),(82,.local),(51,.local),(54,.local),(72,.local)],b_Entity_init⟩
noncomputable def b_Naming_init:List S:=[.asg (.at_ (.name 274 (q 69 8 12)) 12 (q 69 8 19)) (.name 12 (q 69 22 28)) (q 69 8 28),
.asg (.at_ (.name 274 (q 70 8 12)) 168 (q 70 8 18)) (.cint 0 0 (q 70 21 22)) (q 70 8 22)]
noncomputable def d_Naming_init:FD:=⟨[274,12],[],[(274,.local),(12,.local)],b_Naming_init⟩
noncomputable def b_Naming_fresh:List S:=[.aug (.at_ (.name 274 (q 73 8 12)) 168 (q 73 8 18)) .Add (.cint 1 0 (q 73 22 23)) (q 73 8 23),
.asg (.nm 282 (q 74 8 12)) (.ife (.cmp (.cut (.name 13 (q 74 23 27)) none (some (.cint 1 0 (q 74 29 30))) (q 74 28 30) (q 74 23 31)) .Eq (.cstr 283 0 (q 74 35 38)) (q 74 23 38)) (.cstr 284 0 (q 74 15 19)) (.name 13 (q 74 44 48)) (q 74 15 48)) (q 74 8 48),
.ret (some (.bin (.bin (.bin (.bin (.name 282 (q 75 15 19)) .Add (.cstr 262 0 (q 75 22 26)) (q 75 15 26)) .Add (.call (.name 162 (q 75 29 32)) [.attr (.name 274 (q 75 33 37)) 12 (q 75 33 44)] (q 75 29 45)) (q 75 15 45)) .Add (.cstr 285 0 (q 75 48 51)) (q 75 15 51)) .Add (.call (.name 162 (q 75 54 57)) [.attr (.name 274 (q 75 58 62)) 168 (q 75 58 68)] (q 75 54 69)) (q 75 15 69))) (q 75 8 69)]
noncomputable def d_Naming_fresh:FD:=⟨[274,13],[],[(274,.local),(13,.local),(282,.local),(162,.globalImplicit)],b_Naming_fresh⟩
noncomputable def b_Builder_init:List S:=[.asg (.at_ (.name 274 (q 156 8 12)) 191 (q 156 8 19)) (.call (.name 286 (q 156 22 28)) [.name 12 (q 156 29 35)] (q 156 22 36)) (q 156 8 36),
.asg (.at_ (.name 274 (q 157 8 12)) 49 (q 157 8 18)) (.list [] (q 157 21 23)) (q 157 8 23),
.asg (.at_ (.name 274 (q 158 8 12)) 117 (q 158 8 18)) (.list [] (q 158 21 23)) (q 158 8 23),
.asg (.at_ (.name 274 (q 159 8 12)) 287 (q 159 8 18)) (.dict [] [] (q 159 21 23)) (q 159 8 23)]
noncomputable def d_Builder_init:FD:=⟨[274,12],[],[(274,.local),(12,.local),(286,.globalImplicit)],b_Builder_init⟩
noncomputable def b_Builder_lay:List S:=[.expr (.meth (.attr (.name 274 (q 162 8 12)) 49 (q 162 8 18)) 32 (q 162 8 25) [.tup [.name 23 (q 162 27 32),.name 88 (q 162 34 45)] 0 (q 162 26 46)] (q 162 8 47)) (q 162 8 47)]
noncomputable def d_Builder_lay:FD:=⟨[274,23,88],[],[(274,.local),(23,.local),(88,.local)],b_Builder_lay⟩
noncomputable def b_Region_init:List S:=[.asg (.at_ (.name 274 (q 304 8 12)) 64 (q 304 8 17)) (.name 64 (q 304 20 24)) (q 304 8 24),
.asg (.at_ (.name 274 (q 305 8 12)) 253 (q 305 8 18)) (.name 253 (q 305 21 26)) (q 305 8 26),
.asg (.at_ (.name 274 (q 306 8 12)) 151 (q 306 8 19)) (.name 151 (q 306 22 28)) (q 306 8 28),
.asg (.at_ (.name 274 (q 307 8 12)) 34 (q 307 8 17)) (.ife (.cmp (.name 151 (q 307 28 34)) .Is (.cnone 0 (q 307 38 42)) (q 307 28 42)) (.name 274 (q 307 20 24)) (.attr (.name 151 (q 307 48 54)) 34 (q 307 48 59)) (q 307 20 59)) (q 307 8 59),
.asg (.at_ (.name 274 (q 308 8 12)) 79 (q 308 8 17)) (.cint 0 0 (q 308 20 21)) (q 308 8 21),
.aug (.at_ (.attr (.name 274 (q 309 8 12)) 34 (q 309 8 17)) 79 (q 309 8 22)) .Add (.cint 1 0 (q 309 26 27)) (q 309 8 27),
.asg (.at_ (.name 274 (q 310 8 12)) 12 (q 310 8 19)) (.attr (.attr (.name 274 (q 310 22 26)) 34 (q 310 22 31)) 79 (q 310 22 36)) (q 310 8 36),
.asg (.at_ (.name 274 (q 311 8 12)) 173 (q 311 8 18)) (.ife (.cmp (.name 151 (q 311 26 32)) .Is (.cnone 0 (q 311 36 40)) (q 311 26 40)) (.cint 0 0 (q 311 21 22)) (.bin (.attr (.name 151 (q 311 46 52)) 173 (q 311 46 58)) .Add (.ife (.cmp (.name 64 (q 311 67 71)) .In (.name 164 (q 311 75 86)) (q 311 67 86)) (.cint 1 0 (q 311 62 63)) (.cint 0 0 (q 311 92 93)) (q 311 62 93)) (q 311 46 94)) (q 311 21 94)) (q 311 8 94),
.asg (.at_ (.name 274 (q 312 8 12)) 44 (q 312 8 17)) (.ife (.cmp (.name 64 (q 312 33 37)) .Eq (.cstr 2 0 (q 312 41 50)) (q 312 33 50)) (.cstr 174 0 (q 312 20 29)) (.cstr 45 0 (q 312 56 62)) (q 312 20 62)) (q 312 8 62),
.asg (.at_ (.name 274 (q 313 8 12)) 14 (q 313 8 18)) (.dict [] [] (q 313 21 23)) (q 313 8 23),
.asg (.at_ (.name 274 (q 314 8 12)) 61 (q 314 8 18)) (.list [] (q 314 21 23)) (q 314 8 23),
.asg (.at_ (.name 274 (q 315 8 12)) 24 (q 315 8 17)) (.list [] (q 315 20 22)) (q 315 8 22),
.asg (.at_ (.name 274 (q 316 8 12)) 249 (q 316 8 22)) (.list [] (q 316 25 27)) (q 316 8 27),
.asg (.at_ (.name 274 (q 317 8 12)) 33 (q 317 8 19)) (.dict [] [] (q 317 22 24)) (q 317 8 24),
.asg (.at_ (.name 274 (q 318 8 12)) 102 (q 318 8 23)) (.dict [] [] (q 318 26 28)) (q 318 8 28),
.asg (.at_ (.name 274 (q 319 8 12)) 53 (q 319 8 20)) (.cnone 0 (q 319 23 27)) (q 319 8 27)]
noncomputable def d_Region_init:FD:=⟨[274,64,253,151],[],[(274,.local),(64,.local),(253,.local),(151,.local),(164,.globalImplicit)],b_Region_init⟩
noncomputable def b_Limits_init:List S:=[.asg (.at_ (.name 274 (q 823 8 12)) 288 (q 823 8 18)) (.name 288 (q 823 21 26)) (q 823 8 26),
.asg (.at_ (.name 274 (q 824 8 12)) 49 (q 824 8 18)) (.name 49 (q 824 21 26)) (q 824 8 26),
.asg (.at_ (.name 274 (q 825 8 12)) 289 (q 825 8 18)) (.name 289 (q 825 21 26)) (q 825 8 26),
.asg (.at_ (.name 274 (q 826 8 12)) 290 (q 826 8 20)) (.name 290 (q 826 23 30)) (q 826 8 30),
.asg (.at_ (.name 274 (q 827 8 12)) 254 (q 827 8 17)) (.name 254 (q 827 20 24)) (q 827 8 24),
.asg (.at_ (.name 274 (q 828 8 12)) 291 (q 828 8 18)) (.name 291 (q 828 21 26)) (q 828 8 26),
.asg (.at_ (.name 274 (q 829 8 12)) 292 (q 829 8 17)) (.name 292 (q 829 20 24)) (q 829 8 24)]
noncomputable def d_Limits_init:FD:=⟨[274,288,49,289,290,254,291,292],[.int 32,.int 1000000,.int 50,.int 10000,.int 100000,.int 50,.int 1000000],[(274,.local),(288,.local),(49,.local),(289,.local),(290,.local),(254,.local),(291,.local),(292,.local)],b_Limits_init⟩
noncomputable def b_AdaError_init:List S:=[.expr (.meth (.name 293 (q 58 8 17)) 294 (q 58 8 26) [.name 274 (q 58 27 31),.name 254 (q 58 33 37)] (q 58 8 38)) (q 58 8 38),
.asg (.at_ (.name 274 (q 59 8 12)) 254 (q 59 8 17)) (.name 254 (q 59 20 24)) (q 59 8 24)]
noncomputable def d_AdaError_init:FD:=⟨[274,254],[],[(274,.local),(254,.local),(293,.globalImplicit)],b_AdaError_init⟩
noncomputable def b_CheckFault_init:List S:=[.expr (.meth (.name 295 (q 63 8 16)) 294 (q 63 8 25) [.name 274 (q 63 26 30),.name 254 (q 63 32 36)] (q 63 8 37)) (q 63 8 37),
.asg (.at_ (.name 274 (q 64 8 12)) 72 (q 64 8 17)) (.name 72 (q 64 20 24)) (q 64 8 24)]
noncomputable def d_CheckFault_init:FD:=⟨[274,72,254],[],[(274,.local),(72,.local),(254,.local),(295,.globalImplicit)],b_CheckFault_init⟩
noncomputable def fnT:List (Nat×FD):=[(837,d__law_alias),(830,d__law_lift),(873,d__law_meant),(851,d__law_named),(844,d__law_none),(856,d__law_offered),(868,d__law_so),(863,d__law_uses),(715,d_add_parts),(471,d_add_use),(466,d_adopt),(414,d_begin_body),(407,d_begin_private),(753,d_check_actual_types),(648,d_check_bodies),(675,d_check_shown),(447,d_declare),(612,d_declare_alias),(729,d_declare_generic),(741,d_declare_generic_body),(801,d_declare_instance),(668,d_declare_package),(696,d_declare_package_body),(461,d_declare_ready),(617,d_declare_use),(421,d_encloses),(191,d_formal_keys),(428,d_frame_region),(435,d_give_unique),(490,d_immediate_entities),(748,d_instance_region),(701,d_instances_within),(300,d_instantiate),(485,d_is_hidden),(502,d_is_offered),(70,d_is_overloadable),(878,d_law),(522,d_look_up),(454,d_make_ready),(196,d_match_formals),(541,d_named_entities),(42,d_new_number),(517,d_offered_entities),(598,d_one_entity),(400,d_open_region),(708,d_parts_of),(548,d_refuse),(789,d_resolve_by),(593,d_resolve_decls),(796,d_resolve_steps),(527,d_select_from),(440,d_settle_rivals),(782,d_under_clauses),(534,d_unfinished),(324,d_unique),(288,d_unit_name),(295,d_unit_sort),(722,d_uses_around),(28,d_Scope_init),(56,d_Entity_init),(144,d_Naming_init),(151,d_Naming_fresh),(217,d_Builder_init),(224,d_Builder_lay),(386,d_Region_init),(816,d_Limits_init)]
noncomputable def clT:List (Nat×CD):=[(31,⟨28,[23,275,276,271,277,278,279,280,129,138,72,168,105],[]⟩),(59,⟨56,[64,13,82,51,54,72,12,87,80,44,11,85,170,67,84,62,63],[]⟩),(154,⟨144,[12,168],[(47,151)]⟩),(234,⟨217,[191,49,117,287],[(192,224)]⟩),(389,⟨386,[64,253,151,34,79,12,173,44,14,61,24,249,33,102,53],[]⟩),(819,⟨816,[288,49,289,290,254,291,292],[]⟩)]
noncomputable def gtT:List (Nat×V):=[(295,.top (.ref 108)),(130,.top (.ref 663)),(190,.top (.ref 234)),(76,.top (.ref 128)),(83,.top (.ref 59)),(293,.top (.type "Exception")),(164,.top (.ref 372)),(112,.int 10),(195,.top (.ref 281)),(199,.top (.ref 819)),(35,.str [35,105,110,115,116,97,110,99,101,115]),(103,.int 500),(37,.int 10000000),(106,.int 20),(108,.int 200),(286,.top (.ref 154)),(172,.top (.ref 389)),(272,.str [35]),(200,.top (.ref 31)),(107,.str [35,119,101,105,103,104,116]),(113,.int 4),(204,.top (.ref 837)),(27,.top (.ref 830)),(227,.top (.ref 873)),(213,.top (.ref 851)),(205,.top (.ref 844)),(214,.top (.ref 856)),(225,.top (.ref 868)),(209,.top (.ref 863)),(110,.top (.ref 715)),(149,.top (.ref 471)),(263,.top (.ref 466)),(142,.top (.ref 414)),(135,.top (.ref 407)),(71,.top (.ref 682)),(57,.top (.ref 763)),(121,.top (.ref 753)),(68,.top (.ref 648)),(128,.top (.ref 662)),(89,.top (.ref 734)),(60,.top (.ref 777)),(66,.top (.ref 641)),(137,.top (.ref 675)),(239,.top (.ref 179)),(147,.top (.ref 447)),(4,.top (.ref 612)),(211,.top (.ref 729)),(140,.top (.ref 741)),(203,.top (.ref 801)),(201,.top (.ref 668)),(202,.top (.ref 696)),(86,.top (.ref 461)),(31,.top (.ref 617)),(163,.top (.ref 172)),(266,.top (.ref 421)),(188,.top (.ref 191)),(155,.top (.ref 165)),(248,.top (.ref 512)),(167,.top (.ref 428)),(81,.top (.ref 435)),(196,.top (.ref 77)),(228,.top (.ref 490)),(118,.top (.ref 748)),(91,.top (.ref 701)),(115,.top (.ref 300)),(171,.top (.ref 485)),(247,.top (.ref 502)),(123,.top (.ref 84)),(231,.top (.ref 70)),(180,.top (.builtin "isinstance")),(300,.top (.ref 878)),(8,.top (.builtin "len")),(181,.top (.type "list")),(207,.top (.ref 522)),(148,.top (.ref 454)),(187,.top (.ref 196)),(97,.top (.builtin "max")),(246,.top (.ref 541)),(101,.top (.ref 42)),(230,.top (.ref 517)),(250,.top (.ref 507)),(3,.top (.ref 598)),(132,.top (.ref 400)),(126,.top (.ref 336)),(92,.top (.ref 708)),(69,.top (.ref 655)),(28,.top (.type "range")),(39,.top (.ref 548)),(261,.top (.ref 789)),(134,.top (.ref 593)),(120,.top (.ref 796)),(208,.top (.ref 527)),(78,.top (.ref 440)),(197,.top (.ref 495)),(162,.top (.type "str")),(179,.top (.type "tuple")),(257,.top (.ref 555)),(159,.top (.ref 186)),(258,.top (.ref 782)),(95,.top (.ref 534)),(87,.top (.ref 324)),(93,.top (.ref 288)),(184,.top (.ref 295)),(90,.top (.ref 722))]
noncomputable def ttT:List (Nat×List V):=[(663,[.str (sy 94),.str (sy 193),.str (sy 296),.str (sy 297)]),(372,[.str (sy 34),.str (sy 122),.str (sy 298),.str (sy 299)])]
noncomputable def bmT:List (Nat×BM):=[(32,.append),(182,.extend),(56,.pop),(15,.get),(43,.setdefault)]
noncomputable def P:Pr:=⟨lk gtT,lk fnT,lk clT,sy,lk ttT,128,23,255,⟨765,4,771,17⟩⟩
noncomputable abbrev a__law_lift:Nat:=830
noncomputable abbrev a__law_offered:Nat:=856
noncomputable abbrev a__law_so:Nat:=868
noncomputable abbrev a__law_uses:Nat:=863
noncomputable abbrev a_add_use:Nat:=471
noncomputable abbrev a_declare_use:Nat:=617
noncomputable abbrev a_immediate_entities:Nat:=490
noncomputable abbrev a_is_hidden:Nat:=485
noncomputable abbrev a_is_offered:Nat:=502
noncomputable abbrev a_is_overloadable:Nat:=70
noncomputable abbrev a_look_up:Nat:=522
noncomputable abbrev a_named_entities:Nat:=541
noncomputable abbrev a_offered_entities:Nat:=517
noncomputable abbrev a_one_entity:Nat:=598
noncomputable abbrev c_Scope:Nat:=31
noncomputable abbrev k_dot0:Nat:=16
noncomputable abbrev k_scope:Nat:=0
noncomputable abbrev k_node:Nat:=1
noncomputable abbrev k_package:Nat:=2
noncomputable abbrev k_one_entity:Nat:=3
noncomputable abbrev k_mine:Nat:=5
noncomputable abbrev k_at:Nat:=6
noncomputable abbrev k_row:Nat:=7
noncomputable abbrev k_len:Nat:=8
noncomputable abbrev k_sides:Nat:=9
noncomputable abbrev k_one:Nat:=10
noncomputable abbrev k_region:Nat:=11
noncomputable abbrev k_number:Nat:=12
noncomputable abbrev k_name:Nat:=13
noncomputable abbrev k_names:Nat:=14
noncomputable abbrev k_abc:Nat:=20
noncomputable abbrev k_used:Nat:=21
noncomputable abbrev k_told:Nat:=22
noncomputable abbrev k_place:Nat:=23
noncomputable abbrev k_uses:Nat:=24
noncomputable abbrev k_places:Nat:=25
noncomputable abbrev k_turn:Nat:=26
noncomputable abbrev k__law_lift:Nat:=27
noncomputable abbrev k_which:Nat:=29
noncomputable abbrev k_use:Nat:=30
noncomputable abbrev k_declare_use:Nat:=31
noncomputable abbrev k_other:Nat:=40
noncomputable abbrev k_entity:Nat:=41
noncomputable abbrev k_part:Nat:=44
noncomputable abbrev k_data:Nat:=54
noncomputable abbrev k_is_overridden:Nat:=63
noncomputable abbrev k_kind:Nat:=64
noncomputable abbrev k_key:Nat:=82
noncomputable abbrev k_declaration:Nat:=88
noncomputable abbrev k_inner:Nat:=117
noncomputable abbrev k_found:Nat:=119
noncomputable abbrev k_here:Nat:=150
noncomputable abbrev k_parent:Nat:=151
noncomputable abbrev k_around:Nat:=169
noncomputable abbrev k_is_ready:Nat:=170
noncomputable abbrev k_is_hidden:Nat:=171
noncomputable abbrev k_visible:Nat:=174
noncomputable abbrev k_script:Nat:=198
noncomputable abbrev k_dues:Nat:=206
noncomputable abbrev k_is_let:Nat:=222
noncomputable abbrev k_immediate_entities:Nat:=228
noncomputable abbrev k_offered:Nat:=229
noncomputable abbrev k_offered_entities:Nat:=230
noncomputable abbrev k_is_overloadable:Nat:=231
noncomputable abbrev k_use_types:Nat:=249
noncomputable abbrev k_kinds:Nat:=251
end L1
end

section
open PySem
noncomputable def noOm:Om:=fun _=>none
noncomputable def BdS (J:Store):Prop:=∀ l o,J.get l=some o->l<J.n
structure Ext (J af:Store):Prop where
 n:J.n<=af.n
 get:∀ l,l<J.n->af.get l=J.get l
 bd:BdS J->BdS af
theorem Ext.refl (J:Store):Ext J J:=⟨Nat.le_refl _,fun _ _=>rfl,id⟩
theorem Ext.trans {J ad aq:Store} (a:Ext J ad) (b:Ext ad aq):Ext J aq:=⟨Nat.le_trans a.n b.n,fun l h=>(b.get l (Nat.lt_of_lt_of_le h a.n)).trans (a.get l h),fun z=>b.bd (a.bd z)⟩
theorem BdS.add {J:Store} (o:O) (B:BdS J):BdS (J.add o):=fun l x e=>add_el e (fun z _=>z▸Nat.lt_succ_self _) fun e _=>Nat.lt_succ_of_lt (B l x e)
theorem BdS.set {J:Store} {l:Nat} (o:O) (h:l<J.n) (B:BdS J):BdS (J.set l o):=fun j x e=>set_el e (fun z _=>z▸h) fun e _=>B j x e
theorem Ext.add (J:Store) (o:O):Ext J (J.add o):=⟨Nat.le_succ _,fun l h=>by rw[Store.get_add,if_neg (Nat.ne_of_lt h)],BdS.add o⟩
theorem Ext.add' {J af:Store} (e:Ext J af) (o:O):Ext J (af.add o):=e.trans (Ext.add _ _)
theorem Ext.set' {J af:Store} {l:Nat} (e:Ext J af) (h1:J.n<=l) (h2:l<af.n) (o:O):Ext J (af.set l o):=
 ⟨e.n,fun j h=>by rw[Store.get_set,if_neg (by exact Nat.ne_of_lt (Nat.lt_of_lt_of_le h h1))];exact e.get j h,fun z=>(e.bd z).set o h2⟩
theorem Ext.at {J af:Store} (e:Ext J af) (B:BdS J) {l:Nat} {o:O} (h:J.get l=some o):af.get l=some o:=(e.get l (B l o h)).trans h
theorem get_new (J:Store) (o:O):(J.add o).get J.n=some o:=by rw[Store.get_add,if_pos rfl]
theorem get_old {J:Store} {o x:O} {l:Nat} (h:J.get l=some x) (B:l<J.n):(J.add o).get l=some x:=by rw[Store.get_add,if_neg (Nat.ne_of_lt B)];exact h
theorem get_upd (J:Store) (l:Nat) (o:O):(J.set l o).get l=some o:=by rw[Store.get_set,if_pos rfl]
theorem get_oth {J:Store} {o x:O} {l j:Nat} (h:J.get j=some x) (ne:j≠l):(J.set l o).get j=some x:=by rw[Store.get_set,if_neg ne];exact h
theorem bdq {α β:Type} {r:R α} {f:α->Store->R β} {a:α} {J:Store} {y:R β} (h:r=.ok a J) (k:f a J=y):bd r f=y:=by rw[h];exact k
theorem txq {α:Type} {m:M} {r:R α} {f:α->Store->X} {a:α} {J:Store} {y:X} (h:r=.ok a J) (k:f a J=y):tx m r f=y:=by rw[h];exact k
theorem ocq {α β:Type} {o:Option α} {x y:β} {f:α->β} {a:α} (h:o=some a) (k:f a=y):oc o x f=y:=by rw[h];exact k
theorem cnq {α:Type} {b:Bool} {x y z:α} (h:b=true) (k:x=z):cn b x y=z:=(cnT h).trans k
section
variable {K:Kt} {n:Nat} {c:Cx} {m m' aK br:M} {J ad aq aT af:Store} {p q np:Pos} {x f k:Nat} {v u w:V} {e aR aU:T} {es:List T} {vs ws:List V} {l j C:Nat} {fs:List (Nat×V)}
theorem q_none:(ev K (n+1)).e c m (.cnone k p) J=.ok .none J:=rfl
theorem q_bool {b:Bool}:(ev K (n+1)).e c m (.cbool b k p) J=.ok (.bool b) J:=rfl
theorem q_int {i:Int}:(ev K (n+1)).e c m (.cint i k p) J=.ok (.int i) J:=rfl
theorem q_str:(ev K (n+1)).e c m (.cstr x k p) J=.ok (.str (K.P.sy x)) J:=rfl
theorem q_name (h:loadN K.P.gt c m x J=.ok v J):(ev K (n+1)).e c m (.name x p) J=.ok v J:=h
theorem ldL {G:Nat->Option V} (h1:lk c.kd x=some .local) (h2:lk m x=some v):loadN G c m x J=.ok v J:=ocq (f:=fun k=>nk k (okO (lk m x) J) (cellV c x J) (okO (G x) J) (cellV c x J) .bad) h1 (ocq h2 rfl)
theorem ldG {G:Nat->Option V} (h1:lk c.kd x=some .globalImplicit) (h2:G x=some v):loadN G c m x J=.ok v J:=ocq (f:=fun k=>nk k (okO (lk m x) J) (cellV c x J) (okO (G x) J) (cellV c x J) .bad) h1 (ocq h2 rfl)
theorem ldC {G:Nat->Option V} (h1:lk c.kd x=some .cell) (h2:lk c.cs x=some k) (h3:J.get k=some (.cell v)):loadN G c m x J=.ok v J:=ocq (f:=fun k=>nk k (okO (lk m x) J) (cellV c x J) (okO (G x) J) (cellV c x J) .bad) h1 (ocq h2 (ocq h3 rfl))
theorem q_loc (h1:lk c.kd x=some .local) (h2:lk m x=some v):(ev K (n+1)).e c m (.name x p) J=.ok v J:=ldL h1 h2
theorem q_glob (h1:lk c.kd x=some .globalImplicit) (h2:K.P.gt x=some v):(ev K (n+1)).e c m (.name x p) J=.ok v J:=ldG h1 h2
theorem q_cell (h1:lk c.kd x=some .cell) (h2:lk c.cs x=some k) (h3:J.get k=some (.cell v)):(ev K (n+1)).e c m (.name x p) J=.ok v J:=ldC h1 h2 h3
theorem gAq (h2:ad.get l=some (.inst C fs)) (h3:lk fs f=some v):getAttrV ad (.ref l) f=.ok v ad:=ocq h2 (ocq h3 rfl)
theorem q_attr (h1:(ev K n).e c m e J=.ok (.ref l) ad) (h2:ad.get l=some (.inst C fs)) (h3:lk fs f=some v):(ev K (n+1)).e c m (.attr e f p) J=.ok v ad:=bdq h1 (gAq h2 h3)
theorem q_evs_nil {E:Ev}:evs E c m [] J=.ok [] J:=rfl
theorem q_evs {E:Ev} (h1:E.e c m e J=.ok v ad) (h2:evs E c m es ad=.ok vs aq):evs E c m (e::es) J=.ok (v::vs) aq:=bdq h1 (bdq h2 rfl)
theorem q_call {g:T} {fv:V} {r:Mine.R V} (hn:isAt g=false) (h1:(ev K n).e c m g J=.ok fv ad) (h2:evs (ev K n) c m es ad=.ok vs aq) (h3:(ev K n).call c.k c.hd fv vs aq=r):(ev K (n+1)).e c m (.call g es p) J=r:=(cnF hn).trans (bdq h1 (bdq h2 h3))
theorem oI_out {α:Type} {o:O} {b:BM} {x y:α} {f:Nat->List (Nat×V)->α} (hk:methOk o b=true) (h:x=y):oInst o x f=y:=by
 induction o using Mine.O.casesOn with
 | inst C fs=>cases hk
 | _=>exact h
theorem q_meth {b:BM} {o:O} {ap:Pos} {r:Mine.R V} (hp:Nat.beq ap.endLine p.line=true) (hl:lenLe es 20=true) (h1:(ev K n).e c m e J=.ok (.ref l) ad) (h2:ad.get l=some o) (hb:K.bm f=some b) (hk:methOk o b=true)
  (h3:evs (ev K n) c m es ad=.ok vs aq) (h4:methV aq l b vs=r):(ev K (n+1)).e c m (.meth e f ap es p) J=r:=cnq hp (cnq hl (bdq h1 (ocq (o:=ad.get l) h2 (oI_out hk (ocq hb (cnq hk (bdq h3 h4)))))))
theorem q_sub {r:Mine.R V} (h1:(ev K n).e c m aR J=.ok v ad) (h2:(ev K n).e c m aU ad=.ok u aq) (h3:subV aq v u=r):(ev K (n+1)).e c m (.sub aR aU p) J=r:=bdq h1 (bdq h2 h3)
theorem q_bin {op:Operator} {r:Mine.R V} (h1:(ev K n).e c m aR J=.ok v ad) (h2:(ev K n).e c m aU ad=.ok u aq) (h3:binV aq op v u=r):(ev K (n+1)).e c m (.bin aR op aU p) J=r:=bdq h1 (bdq h2 h3)
theorem q_cmp {op:CmpOp} {b:Bool} (h1:(ev K n).e c m aR J=.ok v ad) (h2:(ev K n).e c m aU ad=.ok u aq) (h3:cmpV K.P aq op v u=.ok b aq):(ev K (n+1)).e c m (.cmp aR op aU p) J=.ok (.bool b) aq:=bdq h1 (bdq h2 (bdq h3 rfl))
theorem q_list (h1:evs (ev K n) c m es J=.ok vs ad) (h2:lenLe vs 10000=true):(ev K (n+1)).e c m (.list es p) J=.ok (.ref ad.n) (ad.add (.list vs)):=bdq h1 (cnq h2 rfl)
theorem q_tup (h1:evs (ev K n) c m es J=.ok vs ad) (h2:lenLe vs 10000=true):(ev K (n+1)).e c m (.tup es k p) J=.ok (.ref ad.n) (ad.add (.tup vs)):=bdq h1 (cnq h2 rfl)
theorem q_ifeT {a b:T} {r:Mine.R V} (h1:(ev K n).t c m e J=.ok true ad) (h2:(ev K n).e c m a ad=r):(ev K (n+1)).e c m (.ife e a b p) J=r:=bdq h1 h2
theorem q_ifeF {a b:T} {r:Mine.R V} (h1:(ev K n).t c m e J=.ok false ad) (h2:(ev K n).e c m b ad=r):(ev K (n+1)).e c m (.ife e a b p) J=r:=bdq h1 h2
theorem q_notE {b:Bool} (h1:(ev K n).e c m e J=.ok (.bool b) ad):(ev K (n+1)).e c m (.not_ e p) J=.ok (.bool (nb b)) ad:=bdq h1 rfl
theorem q_orT {r:List T} (h1:(ev K n).e c m e J=.ok (.bool true) ad):(ev K (n+1)).e c m (.or_ (e::aR::r) p) J=.ok (.bool true) ad:=bdq h1 rfl
theorem q_comp {g:G} {it:T} {ifs:List T} {rest:List PySem.Comprehension} {kd:List (Nat×NameKind)} {more:List (Nat×Nat)} {cs:List (Nat×Nat)} {k:IK} (h1:closeC c kd=some cs) (h2:kdOk kd kd=true) (h3:(ev K n).e c m it J=.ok v ad) (h4:iterOf c.hd ad v=some k)
  (h5:compL (ev K n) ⟨c.k,c.hd,ownKd c kd,cs⟩ e g ifs (restB rest) k n 0 [] [] ad=.ok vs aq):(ev K (n+1)).e c m (.comp e g it ifs rest kd more p) J=.ok (.ref aq.n) (aq.add (.list vs)):=ocq h1 (cnq h2 (bdq h3 (ocq h4 (congrArg listR h5))))
theorem q_tNot {b:Bool} (h1:(ev K n).t c m e J=.ok b ad):(ev K (n+1)).t c m (.not_ e p) J=.ok (nb b) ad:=bdq h1 rfl
theorem q_tCmp {op:CmpOp} {b:Bool} (h1:(ev K n).e c m aR J=.ok v ad) (h2:(ev K n).e c m aU ad=.ok u aq) (h3:cmpV K.P aq op v u=.ok b aq):(ev K (n+1)).t c m (.cmp aR op aU p) J=.ok b aq:=bdq h1 (bdq h2 h3)
theorem q_tB_nil {E:Ev} {u:Bool}:bopT E c u m [] J=.ok u J:=rfl
theorem q_tAndF {E:Ev} (h1:E.t c m e J=.ok false ad):bopT E c true m (e::es) J=.ok false ad:=bdq h1 rfl
theorem q_tAndT {E:Ev} {r:Mine.R Bool} (h1:E.t c m e J=.ok true ad) (h2:bopT E c true m es ad=r):bopT E c true m (e::es) J=r:=bdq h1 h2
theorem q_tAnd {r:Mine.R Bool} (h:bopT (ev K n) c true m es J=r):(ev K (n+1)).t c m (.and_ es p) J=r:=h
theorem q_tOrF {E:Ev} {r:Mine.R Bool} (h1:E.t c m e J=.ok false ad) (h2:bopT E c false m es ad=r):bopT E c false m (e::es) J=r:=bdq h1 h2
theorem q_tOr {r:Mine.R Bool} (h:bopT (ev K n) c false m es J=r):(ev K (n+1)).t c m (.or_ es p) J=r:=h
theorem q_tAttr {b:Bool} (h1:(ev K n).e c m (.attr e f p) J=.ok (.bool b) ad):(ev K (n+1)).t c m (.attr e f p) J=.ok b ad:=bdq h1 rfl
theorem q_tCall {b:Bool} {g:T} (h1:(ev K n).e c m (.call g es p) J=.ok (.bool b) ad):(ev K (n+1)).t c m (.call g es p) J=.ok b ad:=bdq h1 rfl
theorem q_seq {E:Ev} {s:S} {r:List S} {X:Mine.X} (h1:E.s c m s J=.nxt aK ad) (h2:execs E c r aK ad=X):execs E c (s::r) m J=X:=(congrArg (fun z=>atX z (execs E c r)) h1).trans h2
theorem q_seqR {E:Ev} {s:S} {r:List S} (h1:E.s c m s J=.ret v aK ad):execs E c (s::r) m J=.ret v aK ad:=congrArg (fun z=>atX z (execs E c r)) h1
theorem q_end {E:Ev}:execs E c [] m J=.nxt m J:=rfl
theorem q_expr (hc:isCo e=false) (h1:(ev K n).e c m e J=.ok v ad):(ev K (n+1)).s c m (.expr e p) J=.nxt m ad:=(cnF hc).trans (txq h1 rfl)
theorem q_ret (h1:(ev K n).e c m e J=.ok v ad):(ev K (n+1)).s c m (.ret (some e) p) J=.ret v m ad:=txq h1 rfl
theorem q_asgN {r:Mine.M×Store} (h1:(ev K n).e c m e J=.ok v ad) (h2:storeN c m x v ad=some r):(ev K (n+1)).s c m (.asg (.nm x np) e p) J=.nxt r.1 r.2:=txq h1 (ocq h2 rfl)
theorem q_asg (h1:(ev K n).e c m e J=.ok v ad) (h2:lk c.kd x=some .local):(ev K (n+1)).s c m (.asg (.nm x np) e p) J=.nxt (putL m x v) ad:=q_asgN (r:=(putL m x v,ad)) h1 (storeN_local h2)
theorem q_asgT {xs:List (Nat×Pos)} {r:Mine.M×Store} (hm:movesT e=true) (h1:(ev K n).e c m e J=.ok (.ref l) ad) (h2:ad.get l=some (.tup vs)) (h3:storeNs c xs vs m ad=some r):(ev K (n+1)).s c m (.asg (.tp xs k np) e p) J=.nxt r.1 r.2:=cnq hm (txq h1 (ocq (o:=ad.get l) h2 (ocq h3 rfl)))
theorem q_asgA {J2:Store} (h1:(ev K n).e c m aR J=.ok v ad) (h2:(ev K n).e c m aU ad=.ok u aq) (h3:setAttrV K.P.cl aq u f v=.ok w J2):(ev K (n+1)).s c m (.asg (.at_ aU f np) aR p) J=.nxt m J2:=txq h1 (txq h2 (txq h3 rfl))
theorem q_augN {op:Operator} {r:Mine.M×Store} (h1:loadN K.P.gt c m x J=.ok v J) (h2:(ev K n).e c m e J=.ok u ad) (h3:augV ad op v u=.ok w aq) (h4:storeN c m x w aq=some r):(ev K (n+1)).s c m (.aug (.nm x np) op e p) J=.nxt r.1 r.2:=txq h1 (txq h2 (txq h3 (ocq h4 rfl)))
theorem q_augS {op:Operator} {a z:V} (h1:(ev K n).e c m aR J=.ok v ad) (h2:(ev K n).e c m aU ad=.ok u aq) (h3:subV aq v u=.ok a aq) (h4:(ev K n).e c m e aq=.ok w aT) {y:V} (h5:augV aT op a w=.ok y af) {cN:Store} (h6:setItemV af v u y=.ok z cN) :
  (ev K (n+1)).s c m (.aug (.sb aR aU np) op e p) J=.nxt m cN:=txq h1 (txq h2 (txq h3 (txq h4 (txq h5 (txq h6 rfl)))))
theorem q_ifT {a b:List S} {X:Mine.X} (h1:(ev K n).t c m e J=.ok true ad) (h2:execs (ev K n) c a m ad=X):(ev K (n+1)).s c m (.ife e a b p) J=X:=txq h1 h2
theorem q_ifF {a b:List S} {X:Mine.X} (h1:(ev K n).t c m e J=.ok false ad) (h2:execs (ev K n) c b m ad=X):(ev K (n+1)).s c m (.ife e a b p) J=X:=txq h1 h2
theorem q_while {b:List S} {X:Mine.X} (h:whlL (ev K n) c e b n m J=X):(ev K (n+1)).s c m (.whl e b p) J=X:=h
theorem q_whlF {E:Ev} {b:List S} (h1:E.t c m e J=.ok false ad):whlL E c e b (k+1) m J=.nxt m ad:=txq h1 rfl
theorem q_whlT {E:Ev} {b:List S} {X:Mine.X} (h1:E.t c m e J=.ok true ad) (h2:execs E c b m ad=.nxt aK aq) (h3:whlL E c e b k aK aq=X):whlL E c e b (k+1) m J=X:=txq h1 ((congrArg (fun z=>again z (whlL E c e b k)) h2).trans h3)
theorem q_for {g:G} {b:List S} {k:IK} {X:Mine.X} (h1:(ev K n).e c m e J=.ok v ad) (h2:iterOf c.hd ad v=some k) (h3:forL (ev K n) c g b k n 0 m ad=X):(ev K (n+1)).s c m (.for_ g e b p) J=X:=txq h1 (ocq h2 h3)
theorem q_forEnd {E:Ev} {g:G} {b:List S} {o:IK} {i:Nat} (h1:nextI J o i=some none):forL E c g b o (k+1) i m J=.nxt m J:=ocq h1 rfl
theorem q_forGo {E:Ev} {g:G} {b:List S} {o:IK} {i:Nat} {r:Mine.M×Store} {X:Mine.X} (h1:nextI J o i=some (some v)) (h2:storeG c m g v J=some r) (h3:execs E c b r.1 r.2=.nxt aK ad) (h4:forL E c g b o k (i+1) aK ad=X):forL E c g b o (k+1) i m J=X:=ocq h1 (ocq rfl (ocq h2 ((congrArg (fun z=>again z (forL E c g b o k (i+1))) h3).trans h4)))
theorem q_compEnd {E:Ev} {g:G} {ifs:List T} {st:Bool} {o:IK} {i:Nat} (h1:nextI J o i=some none):compL E c e g ifs st o (k+1) i m vs J=.ok vs J:=ocq h1 rfl
theorem q_compF {E:Ev} {g:G} {ifs:List T} {o:IK} {i:Nat} {r:Mine.M×Store} {X:Mine.R (List V)} (h1:nextI J o i=some (some v)) (h2:storeG c m g v J=some r) (h3:bopT E c true r.1 ifs r.2=.ok false ad) (h4:compL E c e g ifs false o k (i+1) r.1 vs ad=X):compL E c e g ifs false o (k+1) i m vs J=X:=ocq h1 (ocq rfl (ocq h2 (bdq h3 h4)))
theorem q_compT {E:Ev} {g:G} {ifs:List T} {o:IK} {i:Nat} {r:Mine.M×Store} {X:Mine.R (List V)} (h1:nextI J o i=some (some v)) (h2:storeG c m g v J=some r) (h3:bopT E c true r.1 ifs r.2=.ok true ad) (h4:E.e c r.1 e ad=.ok u aq) (h5:lenLe vs 10000=true)
  (h6:compL E c e g ifs false o k (i+1) r.1 (vs++[u]) aq=X):compL E c e g ifs false o (k+1) i m vs J=X:=ocq h1 (ocq rfl (ocq h2 (bdq h3 (bdq h4 (cnq h5 h6)))))
theorem runq {E:Ev} {b:Bool} {d:FD} {cs cs0:List (Nat×Nat)} {r:Mine.M×Store} {kd:List (Nat×NameKind)} {body:List S} {ps:List Nat} {x:Mine.X} {y:Mine.R V} (h4:newCells kd cs0 J=(cs,ad)) (h5:bindPs ⟨k,b,kd,cs⟩ ps vs [] ad=some r) (h6:execs E ⟨k,b,kd,cs⟩ body r.1 r.2=x) (h7:endF x=y):runF E (k+1) b kd body ps cs0 vs J=y:=by
 show @Prod.rec _ _ (fun _=>Mine.R V) (fun cs J=>oc (bindPs ⟨k,b,kd,cs⟩ ps vs [] J) .bad fun p=>endF (execs E ⟨k,b,kd,cs⟩ body p.1 p.2)) (newCells kd cs0 J)=_
 rw[h4]
 exact ocq h5 ((congrArg endF h6).trans h7)
theorem callq {a:Nat} {d:FD} {b:Bool} {y:Mine.R V} (h1:K.P.fn a=some d) (h2:K.om a=none) (h3:lenEq d.ps vs=true) (h4:runF (ev K n) k b d.kd d.body d.ps [] vs J=y):(ev K (n+1)).call k b (.top (.ref a)) vs J=y:=by
 refine ocq (f:=fun d=>callD K.3 (ev K n) k b vs J a d) h1 ?_
 show oc (oc (K.3 a) none fun g=>g k b vs J) (runF (ev K n) k b d.3 d.4 d.1 [] (cn (lenEq d.1 vs) vs (vs++d.2)) J) (fun r=>r)=_
 rw[show K.3 a=none from h2,show lenEq d.1 vs=true from h3]
 exact h4
theorem q_fn {a:Nat} {d:FD} {cs:List (Nat×Nat)} {b:Bool} {r:Mine.M×Store} (h1:K.P.fn a=some d) (h2:K.om a=none) (h3:lenEq d.ps vs=true) (h4:newCells d.kd [] J=(cs,ad)) (h5:bindPs ⟨k,b,d.kd,cs⟩ d.ps vs [] ad=some r) (h6:∃ m',execs (ev K n) ⟨k,b,d.kd,cs⟩ d.body r.1 r.2=.ret v m' af) :
  (ev K (n+1)).call (k+1) b (.top (.ref a)) vs J=.ok v af:=by
 obtain⟨m',h6⟩:=h6
 exact callq h1 h2 h3 (runq (d:=d) h4 h5 h6 rfl)
theorem q_fnN {a:Nat} {d:FD} {cs:List (Nat×Nat)} {b:Bool} {r:Mine.M×Store} (h1:K.P.fn a=some d) (h2:K.om a=none) (h3:lenEq d.ps vs=true) (h4:newCells d.kd [] J=(cs,ad)) (h5:bindPs ⟨k,b,d.kd,cs⟩ d.ps vs [] ad=some r) (h6:∃ m',execs (ev K n) ⟨k,b,d.kd,cs⟩ d.body r.1 r.2=.nxt m' af) :
  (ev K (n+1)).call (k+1) b (.top (.ref a)) vs J=.ok .none af:=by
 obtain⟨m',h6⟩:=h6
 exact callq h1 h2 h3 (runq (d:=d) h4 h5 h6 rfl)
theorem q_len {b:Bool} {k:Nat} (h:J.get l=some (.list vs)):(ev K (n+1)).call k b (.top (.builtin "len")) [.ref l] J=.ok (.int vs.length) J:=
 (cnT (x:=bLen J (.ref l)) (y:=cn ("len" == "isinstance") R.bad (cn ("len" == "max") R.bad R.bad)) (b:="len" == "len") (by decide)).trans (ocq h rfl)
theorem q_range {b:Bool} {k:Nat} {i:Int} (h:smallI i=true):(ev K (n+1)).call k b (.top (.type "range")) [.int i] J=.ok (.ref J.n) (J.add (.rng i)):=
 (cnF (b:="range" == "list") (x:=R.bad) (y:=cn ("range" == "str") (bStr J (.int i)) (cn ("range" == "range") (bRange J (.int i)) R.bad)) (by decide)).trans ((cnF (by decide)).trans (cnq (by decide) (cnq h rfl)))
theorem q_nextL {i:Nat} (h:J.get l=some (.list vs)):nextI J (.list l) i=some vs[i]?:=ocq h (congrArg some (nth_eq ..))
theorem q_iterL {b:Bool} (h:J.get l=some (.list vs)):iterOf b J (.ref l)=some (.list l):=ocq h rfl
theorem q_eqNil {ws:List V} (h1:J.get l=some (.list vs)) (h2:J.get j=some (.list [])):eqV J (.ref l) (.ref j)=.ok vs.isEmpty J:=by
 refine ocq h1 (ocq h2 ?_)
 induction vs using List.casesOn with
 | nil=>rfl
 | cons a r=>rfl
theorem setLq (h3:ws.length<=10000):setL J l v ws=.ok v (J.set l (.list ws)):=cnq (lenLe_of h3) rfl
theorem q_augL (h1:J.get l=some (.list vs)) (h2:J.get j=some (.list ws)) (h3:vs.length+ws.length<=10000):augV J .Add (.ref l) (.ref j)=.ok (.ref l) (J.set l (.list (vs++ws))):=ocq h1 (ocq h2 (setLq (by rw[List.length_append];exact h3)))
theorem q_binL (h1:J.get l=some (.list vs)) (h2:J.get j=some (.list ws)) (h3:vs.length+ws.length<=10000):binV J .Add (.ref l) (.ref j)=.ok (.ref J.n) (J.add (.list (vs++ws))):=ocq h1 (ocq h2 (cnq (lenLe_of (by rw[List.length_append];exact h3)) rfl))
theorem q_append (h1:J.get l=some (.list vs)) (h3:vs.length<=9999):methV J l .append [v]=.ok .none (J.set l (.list (vs++[v]))):=ocq h1 (setLq (by rw[List.length_append];exact Nat.succ_le_succ h3))
theorem q_getD {es:List (List Nat×V)} {s:List Nat} (h1:J.get l=some (.dict es)) (h2:lkS es s=none):methV J l .get [.str s,v]=.ok v J:=ocq h1 (congrArg (fun z=>Mine.R.ok (oc z v fun v=>v) J) h2)
theorem q_getS {es:List (List Nat×V)} {s:List Nat} (h1:J.get l=some (.dict es)) (h2:lkS es s=some u):methV J l .get [.str s,v]=.ok u J:=ocq h1 (congrArg (fun z=>Mine.R.ok (oc z v fun v=>v) J) h2)
theorem lk_here {l:M} {f:Nat}:lk (putL l f v) f=some v:=(lk_putL ..).trans (cnT (beqT rfl))
theorem lk_skip {l:M} {f k:Nat} {o:Option V} (h:Nat.beq f k=false) (e:lk l k=o):lk (putL l f v) k=o:=(lk_putL ..).trans ((cnF h).trans e)
theorem lk_pif {l:M} {f k:Nat}:lk (putL l f v) k=if k=f then some v else lk l k:=by
 by_cases h:k=f
 ·rw[if_pos h,h];exact lk_here
 ·exact((lk_putL ..).trans (cnF (beqF (Ne.symm h)))).trans (if_neg h).symm
theorem lk_skip' {l:M} {f k:Nat} (h:k≠f):lk (putL l f v) k=lk l k:=(lk_putL ..).trans (cnF (beqF (Ne.symm h)))
end
structure ExtU (D:List Nat) (J af:Store):Prop where
 n:J.n<=af.n
 get:∀ l,l<J.n->l∉D->af.get l=J.get l
 bd:BdS J->BdS af
theorem Ext.toU {J af:Store} (e:Ext J af) (D:List Nat):ExtU D J af:=⟨e.n,fun l h _=>e.get l h,e.bd⟩
theorem ExtU.refl (D:List Nat) (J:Store):ExtU D J J:=⟨Nat.le_refl _,fun _ _ _=>rfl,id⟩
theorem ExtU.trans {D:List Nat} {J ad aq:Store} (a:ExtU D J ad) (b:ExtU D ad aq):ExtU D J aq:=⟨Nat.le_trans a.n b.n,fun l h d=>(b.get l (Nat.lt_of_lt_of_le h a.n) d).trans (a.get l h d),fun z=>b.bd (a.bd z)⟩
theorem ExtU.mono {D D':List Nat} {J af:Store} (e:ExtU D J af) (h:∀ l∈D,l∈D'):ExtU D' J af:=⟨e.n,fun l hl hd=>e.get l hl fun z=>hd (h l z),e.bd⟩
theorem ExtU.set {D:List Nat} {J af:Store} {l:Nat} (e:ExtU D J af) (hl:l∈D\/J.n<=l) (h2:l<af.n) (o:O):ExtU D J (af.set l o):=
 ⟨e.n,fun j h d=>by rw[Store.get_set,if_neg (fun (z:j=l)=>hl.elim (fun w=>d (z▸w)) fun w=>by omega)];exact e.get j h d,fun z=>(e.bd z).set o h2⟩
theorem ExtU.at {D:List Nat} {J af:Store} (e:ExtU D J af) (B:BdS J) {l:Nat} {o:O} (h:J.get l=some o) (d:l∉D):af.get l=some o:=(e.get l (B l o h) d).trans h
end

section
open PySem
namespace L1
noncomputable abbrev bm:Nat->Option BM:=lk bmT
noncomputable abbrev Kn:Kt:=⟨P,bm,noOm⟩
noncomputable abbrev E (n:Nat):Ev:=ev Kn n
structure Ent (J:Store) (x:Nat) (i:Int):Prop where
 at_:∃ C fs,J.get x=some (.inst C fs)/\lk fs k_part=some (.str (sy k_visible))/\lk fs k_is_ready=some (.bool true)/\lk fs k_is_overridden=some (.bool false)/\lk fs k_number=some (.int i)/\lk fs k_key=some .none
structure Pkg (J:Store) (s:List Nat) (p:Nat) (xo:Option (Nat×Int)):Prop where
 at_:∃ C fs g C' gs d ds,J.get p=some (.inst C fs)/\lk fs k_region=some (.ref g)/\lk fs k_data=some .none/\J.get g=some (.inst C' gs)/\lk gs k_names=some (.ref d)/\J.get d=some (.dict ds) /\
  match xo with|none=>lkS ds s=none|some (x,i)=>∃ le,lkS ds s=some (.ref le)/\J.get le=some (.list [.ref x])/\Ent J x i
theorem Ent.ext {J af:Store} {x:Nat} {i:Int} (h:Ent J x i) (B:BdS J) (e:Ext J af):Ent af x i:=by
 obtain⟨C,fs,a,r⟩:=h.at_
 exact⟨C,fs,e.at B a,r⟩
theorem Pkg.ext {J af:Store} {s:List Nat} {p:Nat} {xo:Option (Nat×Int)} (h:Pkg J s p xo) (B:BdS J) (e:Ext J af):Pkg af s p xo:=by
 obtain⟨C,fs,g,C',gs,d,ds,h1,h2,h3,h4,h5,h6,h7⟩:=h.at_
 refine⟨C,fs,g,C',gs,d,ds,e.at B h1,h2,h3,e.at B h4,h5,e.at B h6,?_⟩
 induction xo using Option.casesOn with
 | none=>exact h7
 | some y=>
  obtain⟨le,a,b,c⟩:=h7
  exact⟨le,a,e.at B b,c.ext B e⟩
section
variable {n k l j:Nat} {b:Bool} {J af ad aq:Store} {v u:V} {vs ws:List V}
theorem is_hidden_nil (h:J.get l=some (.list [])):(E (n+6)).call (k+1) b (.top (.ref a_is_hidden)) [v,.ref l] J=.ok (.bool false) J:=by
 refine q_fn (d:=d_is_hidden) (cs:=[]) rfl rfl rfl rfl rfl ?_
 refine⟨_,q_seq (q_for (q_loc rfl rfl) (q_iterL h) (q_forEnd (by rw[q_nextL h];rfl))) (q_seqR (q_ret q_bool))⟩
theorem is_offered_ok {x:Nat} {i:Int} (h:Ent J x i):(E (n+8)).call (k+1) b (.top (.ref a_is_offered)) [v,.ref x] J=.ok (.bool true) J:=by
 obtain⟨C,fs,h1,h2,h3,h4,h5,h6⟩:=h.at_
 refine q_fn (d:=d_is_offered) (cs:=[]) rfl rfl rfl rfl rfl ?_
 refine⟨_,q_seq (q_ifF (q_tOr (q_tOrF (q_tCmp (q_attr (q_loc rfl rfl) h1 h2) q_str rfl) (q_tOrF (q_tNot (q_tAttr (q_attr (q_loc rfl rfl) h1 h3))) q_tB_nil))) q_end) (q_seqR (q_ret (q_orT (q_notE (q_attr (q_loc rfl rfl) h1 h4)))))⟩
noncomputable def offW:List S:=match b_offered_entities with | [_,_,.whl _ b _,_]=>b|_=>[]
noncomputable def offP:List S:=match offW with | [_,.for_ _ _ b _,_,_,_]=>b|_=>[]
noncomputable def offE:List S:=match offW with | [_,_,_,.for_ _ _ b _,_]=>b|_=>[]
noncomputable abbrev offC (k:Nat) (b:Bool) (N:Nat):Cx:=⟨k,b,d_offered_entities.kd,[(k_entity,N+1),(k_package,N)]⟩
noncomputable def cellAt (τ:Store) (l:Nat):Prop:=τ.get l=some .cell0\/∃ v,τ.get l=some (.cell v)
noncomputable def xsOf:Option (Nat×Int)->List V
 | none=>[]
 | some y=>[.ref y.1]
theorem off_pkg {N lr p:Nat} {s:List Nat} {xo:Option (Nat×Int)} {m:M} {J τ:Store} {R F:List V} (hN:J.n=N) (B:BdS J) (e:Ext J τ) (hp:Pkg J s p xo) (h2:τ.get N=some (.cell (.ref p))) (hlr:N+3<=lr/\lr<τ.n)
  (mr:lk m k_row=some (.ref lr)) (mn:lk m k_name=some (.str s)) (hR:τ.get lr=some (.list R)) (hz:R.length<=100) :
  ∃ m' ba,execs (E (n+20)) (offC (k+1) b N) offP m τ=.nxt m' ba/\Ext J ba/\τ.n<=ba.n/\ba.get lr=some (.list (R++xsOf xo))/\(∀ l,l<τ.n->l≠lr->ba.get l=τ.get l)/\lk m' k_row=some (.ref lr)/\∀ y,y≠k_row->y≠k_names->lk m' y=lk m y:=by
 obtain⟨C,fs,g,C',gs,d,ds,r1,q2,q3,r4,q5,r6,q7⟩:=hp.at_
 have cu:=e.bd B
 have neN:∀ {j o},J.get j=some o->j<N:=fun h=>hN▸B _ _ h
 have q1:=e.at B r1
 have q4:=e.at B r4
 have q6:=e.at B r6
 have lp:=neN r1
 have lg:=neN r4
 have ld:=neN r6
 have hn:=e.n
 have l2:=cu _ _ h2
 induction xo using Option.casesOn with
 | none=>
  dsimp only at q7
  refine⟨_,_,q_seq (q_asg (q_attr (q_attr (q_cell rfl rfl h2) q1 q2) q4 q5) rfl)
   (q_seq (q_augN (v:=.ref lr) (r:=(putL (putL m k_names (.ref d)) k_row (.ref lr),_)) (ldL rfl (by ((repeat' (first|assumption|exact lk_here|refine lk_skip rfl ?_))))) (q_comp (cs:=[(k_package,N)]) rfl rfl
    (q_meth (b:=.get) rfl rfl (q_loc rfl (by ((repeat' (first|assumption|exact lk_here|refine lk_skip rfl ?_))))) q6 rfl rfl (q_evs (q_loc rfl (by ((repeat' (first|assumption|exact lk_here|refine lk_skip rfl ?_))))) (q_evs (q_list q_evs_nil rfl) q_evs_nil)) (q_getD (get_old q6 (by exact Nat.lt_of_lt_of_le ld (Nat.le_of_lt l2))) q7))
    (q_iterL (get_new _ _)) (q_compEnd (by rw[q_nextL (get_new _ _)];rfl))) (q_augL (vs:=R) (ws:=[]) ?_ (get_new _ _) (by simp;exact Nat.le_trans hz (by decide))) rfl)
   (q_seq (q_ifF (q_tCmp (q_attr (l:=p) (C:=C) (q_cell rfl rfl ?_) ?_ q3) q_str rfl) q_end) q_end)),?_,?_,?_,?_,?_,?_⟩
  ·((repeat' (first | assumption | exact get_new _ _ | exact get_upd _ _ _ | refine get_old ?_ (by simp only[Store.n_add,Store.n_set];omega) | refine get_oth ?_ (by(try simp only[Store.n_add,Store.n_set]);omega) | refine get_oth ?_ (by(try simp only[Store.n_add,Store.n_set]);first|assumption|(apply Ne.symm;assumption)))))
  ·((repeat' (first | assumption | exact get_new _ _ | exact get_upd _ _ _ | refine get_old ?_ (by simp only[Store.n_add,Store.n_set];omega) | refine get_oth ?_ (by(try simp only[Store.n_add,Store.n_set]);omega) | refine get_oth ?_ (by(try simp only[Store.n_add,Store.n_set]);first|assumption|(apply Ne.symm;assumption)))))
  ·((repeat' (first | assumption | exact get_new _ _ | exact get_upd _ _ _ | refine get_old ?_ (by simp only[Store.n_add,Store.n_set];omega) | refine get_oth ?_ (by(try simp only[Store.n_add,Store.n_set]);omega) | refine get_oth ?_ (by(try simp only[Store.n_add,Store.n_set]);first|assumption|(apply Ne.symm;assumption)))))
  ·exact((e.add' _).add' _).set' (by omega) (by simp only[Store.n_add];omega) _
  ·simp only[Store.n_set,Store.n_add];exact Nat.le_add_right_of_le (Nat.le_add_right _ _)
  ·rw[show R++xsOf none=R++[] from rfl];exact get_upd _ _ _
  ·intro l hl hne
   rw[Store.get_set,if_neg hne,Store.get_add,if_neg (by simp only[Store.n_add];exact Nat.ne_of_lt (Nat.lt_succ_of_le (Nat.le_of_lt hl))),Store.get_add,if_neg (by exact Nat.ne_of_lt hl)]
  ·show lk (putL (putL m k_names (.ref d)) k_row (.ref lr)) k_row=_
   ((repeat' (first|assumption|exact lk_here|refine lk_skip rfl ?_)))
  ·intro y h1 h2
   show lk (putL (putL m k_names (.ref d)) k_row (.ref lr)) y=_
   rw[lk_pif,if_neg h1,lk_pif,if_neg h2]
 | some y=>
  obtain⟨x,i⟩:=y
  obtain⟨le,a1,a2,a3⟩:=q7
  have lle:=neN a2
  have b2:=e.at B a2
  have b3:=a3.ext B (e.add' (.list []))
  refine⟨_,_,q_seq (q_asg (q_attr (q_attr (q_cell rfl rfl h2) q1 q2) q4 q5) rfl)
   (q_seq (q_augN (v:=.ref lr) (r:=(putL (putL m k_names (.ref d)) k_row (.ref lr),_)) (ldL rfl (by ((repeat' (first|assumption|exact lk_here|refine lk_skip rfl ?_))))) (q_comp (cs:=[(k_package,N)]) rfl rfl
    (q_meth (b:=.get) rfl rfl (q_loc rfl (by ((repeat' (first|assumption|exact lk_here|refine lk_skip rfl ?_))))) q6 rfl rfl (q_evs (q_loc rfl (by ((repeat' (first|assumption|exact lk_here|refine lk_skip rfl ?_))))) (q_evs (q_list q_evs_nil rfl) q_evs_nil)) (q_getS (get_old q6 (by exact Nat.lt_of_lt_of_le ld (Nat.le_of_lt l2))) a1))
    (q_iterL (get_old b2 (by exact Nat.lt_of_lt_of_le lle (Nat.le_of_lt l2)))) (q_compT (by rw[q_nextL (get_old b2 (by exact Nat.lt_of_lt_of_le lle (Nat.le_of_lt l2)))];rfl) rfl
     (q_tAndT (q_tCall (q_call rfl (q_glob rfl rfl) (q_evs (q_attr (l:=p) (C:=C) (q_cell rfl rfl (get_old h2 (by exact l2))) (get_old q1 (by exact Nat.lt_of_lt_of_le lp (Nat.le_of_lt l2))) q2) (q_evs (q_loc rfl rfl) q_evs_nil)) (is_offered_ok b3))) q_tB_nil)
     (q_loc rfl rfl) rfl (q_compEnd (by rw[q_nextL (get_old b2 (by exact Nat.lt_of_lt_of_le lle (Nat.le_of_lt l2)))];rfl)))) (q_augL (vs:=R) (ws:=[.ref x]) ?_ (get_new _ _) (by simp;exact Nat.le_trans hz (by decide))) rfl)
   (q_seq (q_ifF (q_tCmp (q_attr (l:=p) (C:=C) (q_cell rfl rfl ?_) ?_ q3) q_str rfl) q_end) q_end)),?_,?_,?_,?_,?_,?_⟩
  ·((repeat' (first | assumption | exact get_new _ _ | exact get_upd _ _ _ | refine get_old ?_ (by simp only[Store.n_add,Store.n_set];omega) | refine get_oth ?_ (by(try simp only[Store.n_add,Store.n_set]);omega) | refine get_oth ?_ (by(try simp only[Store.n_add,Store.n_set]);first|assumption|(apply Ne.symm;assumption)))))
  ·((repeat' (first | assumption | exact get_new _ _ | exact get_upd _ _ _ | refine get_old ?_ (by simp only[Store.n_add,Store.n_set];omega) | refine get_oth ?_ (by(try simp only[Store.n_add,Store.n_set]);omega) | refine get_oth ?_ (by(try simp only[Store.n_add,Store.n_set]);first|assumption|(apply Ne.symm;assumption)))))
  ·((repeat' (first | assumption | exact get_new _ _ | exact get_upd _ _ _ | refine get_old ?_ (by simp only[Store.n_add,Store.n_set];omega) | refine get_oth ?_ (by(try simp only[Store.n_add,Store.n_set]);omega) | refine get_oth ?_ (by(try simp only[Store.n_add,Store.n_set]);first|assumption|(apply Ne.symm;assumption)))))
  ·exact((e.add' _).add' _).set' (by omega) (by simp only[Store.n_add];omega) _
  ·simp only[Store.n_set,Store.n_add];exact Nat.le_add_right_of_le (Nat.le_add_right _ _)
  ·exact get_upd _ _ _
  ·intro l hl hne
   rw[Store.get_set,if_neg hne,Store.get_add,if_neg (by simp only[Store.n_add];exact Nat.ne_of_lt (Nat.lt_succ_of_le (Nat.le_of_lt hl))),Store.get_add,if_neg (by exact Nat.ne_of_lt hl)]
  ·show lk (putL (putL m k_names (.ref d)) k_row (.ref lr)) k_row=_
   ((repeat' (first|assumption|exact lk_here|refine lk_skip rfl ?_)))
  ·intro y h1 h2
   show lk (putL (putL m k_names (.ref d)) k_row (.ref lr)) y=_
   rw[lk_pif,if_neg h1,lk_pif,if_neg h2]
theorem store_cell {c:Cx} {m:M} {x a:Nat} {τ:Store} (h1:lk c.kd x=some .cell) (h2:lk c.cs x=some a) (h3:cellAt τ a):storeN c m x v τ=some (m,τ.set a (.cell v)):=by
 refine ocq h1 (ocq h2 ?_)
 rcases h3 with h|⟨u,h⟩<;>exact ocq h rfl
noncomputable def refs (ys:List (Nat×Int)):List V:=ys.map fun y=>.ref y.1
noncomputable def xsP (ps:List (Nat×Option (Nat×Int))):List (Nat×Int):=ps.filterMap (·.2)
theorem xsP_cons (q:Nat×Option (Nat×Int)) (ps:List (Nat×Option (Nat×Int))):refs (xsP (q::ps))=xsOf q.2++refs (xsP ps):=by
 obtain⟨p,xo⟩:=q
 cases xo<;>rfl
theorem drop_cons {α:Type} {us:List α} {i:Nat} {u:α} {r:List α} (h:us.drop i=u::r):us[i]?=some u/\us.drop (i+1)=r:=by
 have h1:us[i]?=some u:=by
  have:=congrArg List.head? h
  rwa [List.head?_drop] at this
 refine⟨h1,?_⟩
 have:=congrArg List.tail h
 rwa [List.tail_drop] at this
theorem drop_nil {α:Type} {us:List α} {i:Nat} (h:us.drop i=[]):us[i]?=none:=by
 have:=congrArg List.head? h
 rwa [List.head?_drop] at this
theorem off_pkgs {N lr lu:Nat} {s:List Nat} {J:Store} {us:List V} {p0:Pos} (hN:J.n=N) (B:BdS J) (hu:J.get lu=some (.list us)):∀ (ps:List (Nat×Option (Nat×Int))) (i f:Nat) (m:M) (τ:Store) (R:List V),us.drop i=ps.map (fun q=>.ref q.1)->ps.length<f->(∀ q∈ps,Pkg J s q.1 q.2) ->
  Ext J τ->cellAt τ N->N<τ.n->N+3<=lr/\lr<τ.n->lk m k_row=some (.ref lr)->lk m k_name=some (.str s)->τ.get lr=some (.list R)->R.length+ps.length<=100 ->
  ∃ m' ba,forL (E (n+20)) (offC (k+1) b N) (.nm k_package p0) offP (.list lu) f i m τ=.nxt m' ba/\Ext J ba/\τ.n<=ba.n/\ba.get lr=some (.list (R++refs (xsP ps)))/\cellAt ba N/\(∀ l,l<τ.n->l≠lr->l≠N->ba.get l=τ.get l)/\lk m' k_row=some (.ref lr)/\∀ y,y≠k_row->y≠k_names->lk m' y=lk m y
 | [],i,f,m,τ,R,hd,hf,hp,e,hc,hcn,hlr,mr,mn,hR,hz=>by
  induction f using Nat.casesOn with
  | zero=>cases hf
  | succ f=>
   refine⟨m,τ,q_forEnd (by rw[q_nextL (e.at B hu),drop_nil hd]),e,Nat.le_refl _,?_,hc,fun l _ _ _=>rfl,mr,fun _ _ _=>rfl⟩
   rw[hR];simp[xsP,refs]
 | q::ps,i,f,m,τ,R,hd,hf,hp,e,hc,hcn,hlr,mr,mn,hR,hz=>by
  induction f using Nat.casesOn with
  | zero=>cases hf
  | succ f=>
   obtain⟨d1,d2⟩:=drop_cons hd
   have hn:=e.n
   have e1:Ext J (τ.set N (.cell (.ref q.1))):=e.set' (by rw[hN];exact Nat.le_refl _) hcn _
   obtain⟨m1,aM,r1,e2,n2,g2,o2,mr2,mo2⟩:=off_pkg (n:=n) (k:=k) (b:=b) (lr:=lr) (F:=[]) (R:=R) (m:=m) hN B e1 (hp q (.head _)) (get_upd _ _ _) (by rw[Store.n_set];exact hlr) mr mn (get_oth hR (by omega)) (by simp at hz;exact Nat.le_trans (Nat.le_add_right _ _) hz)
   rw[Store.n_set] at n2
   have hc1:cellAt aM N:=by
    right;exact⟨.ref q.1,(o2 N (by rw[Store.n_set];exact hcn) (by omega)).trans (get_upd _ _ _)⟩
   obtain⟨m2,bp,r2,e3,n3,g3,c3,o3,mr3,mo3⟩:=off_pkgs hN B hu ps (i+1) f m1 aM (R++xsOf q.2) d2 (by simp at hf;exact hf) (fun q hq=>hp q (.tail _ hq)) e2 hc1 (by exact Nat.lt_of_lt_of_le hcn n2) ⟨hlr.1,by omega⟩ mr2 (by rw[mo2 _ (by decide) (by decide)];exact mn) g2
    (by
     rw[List.length_append]
     have:(xsOf q.2).length<=1:=by cases q.2<;>simp[xsOf]
     simp at hz;omega)
   refine⟨m2,bp,q_forGo (v:=.ref q.1) (r:=(m,τ.set N (.cell (.ref q.1)))) (by rw[q_nextL (e.at B hu),d1]) (show storeN (offC (k+1) b N) m k_package (.ref q.1) τ=_ from store_cell rfl rfl hc) r1 r2,e3,by exact Nat.le_trans n2 n3,?_,c3,fun l h1 h2 h3=>?_,mr3,fun y h1 h2=>(mo3 y h1 h2).trans (mo2 y h1 h2)⟩
   ·rw[g3,xsP_cons,List.append_assoc]
   ·rw[o3 l (by exact Nat.lt_of_lt_of_le h1 n2) h2 h3,o2 l (by rw[Store.n_set];exact h1) h2,Store.get_set,if_neg h3]
theorem comp_same {c:Cx} {o ent l a x:Nat} {i0:Int} {τ:Store} {all:List V} {p1 p2 p3 p4 p5 p6 p7:Pos} (ko:lk c.kd o=some .local) (ke:lk c.kd ent=some .cell) (kc:lk c.cs ent=some a) (hc:τ.get a=some (.cell (.ref x))) (hx:∃ C fs,τ.get x=some (.inst C fs)/\lk fs k_number=some (.int i0)) (hl:τ.get l=some (.list all)) :
  ∀ (F:List (Nat×Int)) (i f:Nat) (m:M) (vs:List V),all.drop i=refs F->F.length<f->(∀ y∈F,∃ C fs,τ.get y.1=some (.inst C fs)/\lk fs k_number=some (.int y.2))->vs.length+F.length<=100 ->
  compL (E (n+5)) c (.name o p1) (.nm o p2) [.cmp (.attr (.name o p3) k_number p4) .Eq (.attr (.name ent p5) k_number p6) p7] false (.list l) f i m vs τ=.ok (vs++refs (F.filter fun y=>eqI y.2 i0)) τ
 | [],i,f,m,vs,hd,hf,hF,hz=>by
  induction f using Nat.casesOn with
  | zero=>cases hf
  | succ f=>
   rw[q_compEnd (by rw[q_nextL hl,drop_nil hd])]
   simp[refs]
 | y::F,i,f,m,vs,hd,hf,hF,hz=>by
  induction f using Nat.casesOn with
  | zero=>cases hf
  | succ f=>
   obtain⟨d1,d2⟩:=drop_cons hd
   obtain⟨C,fs,g1,g2⟩:=hx
   obtain⟨C',fs',g3,g4⟩:=hF y (.head _)
   have ih:=fun m vs=>comp_same (p1:=p1) (p2:=p2) (p3:=p3) (p4:=p4) (p5:=p5) (p6:=p6) (p7:=p7) ko ke kc hc ⟨C,fs,g1,g2⟩ hl F (i+1) f m vs d2 (by simp at hf;exact hf) fun z hz=>hF z (.tail _ hz)
   have st:storeG c m (.nm o p2) (.ref y.1) τ=some (putL m o (.ref y.1),τ):=storeN_local ko
   have tst:(E (n+5)).t c (putL m o (.ref y.1)) (.cmp (.attr (.name o p3) k_number p4) .Eq (.attr (.name ent p5) k_number p6) p7) τ=.ok (eqI y.2 i0) τ:=
    q_tCmp (q_attr (q_loc ko lk_here) g3 g4) (q_attr (q_cell ke kc hc) g1 g2) rfl
   induction hq:eqI y.2 i0 using Bool.casesOn with
   | true=>
    rw[hq] at tst
    rw[q_compT (by rw[q_nextL hl,d1]) st (q_tAndT tst q_tB_nil) (q_loc ko lk_here) (lenLe_of (by omega)) rfl,ih _ _ (by rw[List.length_append];simp at hz ⊢;omega)]
    rw[List.filter_cons,if_pos hq]
    simp[refs]
   | false=>
    rw[hq] at tst
    rw[q_compF (by rw[q_nextL hl,d1]) st (q_tAndF tst) rfl,ih _ _ (by simp at hz ⊢;omega)]
    rw[List.filter_cons,if_neg (by rw[hq];simp)]
noncomputable def addE (F:List (Nat×Int)) (y:Nat×Int):List (Nat×Int):=match (F.filter fun z=>eqI z.2 y.2) with | []=>F++[y]|_=>F
theorem refs_app (F G:List (Nat×Int)):refs (F++G)=refs F++refs G:=List.map_append
theorem addE_len (F:List (Nat×Int)) (y:Nat×Int):(addE F y).length<=F.length+1:=by
 unfold addE
 split
 ·simp
 ·exact Nat.le_add_right _ _
theorem addE_mem {F:List (Nat×Int)} {y z:Nat×Int} (h:z∈addE F y):z∈F\/z=y:=by
 unfold addE at h
 split at h
 ·simpa using h
 ·exact .inl h
theorem Ent.num {x:Nat} {i:Int} (h:Ent J x i):∃ C fs,J.get x=some (.inst C fs)/\lk fs k_number=some (.int i):=by
 obtain⟨C,fs,a,_,_,_,d,_⟩:=h.at_;exact⟨C,fs,a,d⟩
theorem off_ents {N lr:Nat} {J:Store} {R:List V} {p0:Pos} {m:M} (hN:J.n=N) (B:BdS J) (mf:lk m k_found=some (.ref (N+2))):∀ (ys:List (Nat×Int)) (i f:Nat) (τ:Store) (F:List (Nat×Int)),R.drop i=refs ys->ys.length<f->(∀ y∈ys,Ent J y.1 y.2)->(∀ y∈F,Ent J y.1 y.2) ->
  Ext J τ->cellAt τ (N+1)->N+2<τ.n->N+3<=lr/\lr<τ.n->τ.get lr=some (.list R)->τ.get (N+2)=some (.list (refs F))->F.length+ys.length<=30 ->
  ∃ ba,forL (E (n+40)) (offC (k+1) b N) (.nm k_entity p0) offE (.list lr) f i m τ=.nxt m ba/\Ext J ba/\τ.n<=ba.n/\ba.get (N+2)=some (.list (refs (ys.foldl addE F)))/\cellAt ba (N+1)/\(∀ l,l<τ.n->l≠N+1->l≠N+2->ba.get l=τ.get l)
 | [],i,f,τ,F,hd,hf,hy,hF,e,hc,hcn,hlr,hR,hf2,hz=>by
  induction f using Nat.casesOn with
  | zero=>cases hf
  | succ f=>exact⟨τ,q_forEnd (by rw[q_nextL hR,drop_nil hd]),e,Nat.le_refl _,hf2,hc,fun _ _ _ _=>rfl⟩
 | y::ys,i,f,τ,F,hd,hf,hy,hF,e,hc,hcn,hlr,hR,hf2,hz=>by
  induction f using Nat.casesOn with
  | zero=>cases hf
  | succ f=>
   obtain⟨d1,d2⟩:=drop_cons hd
   have hn:=e.n
   have e1:Ext J (τ.set (N+1) (.cell (.ref y.1))):=e.set' (by rw[hN];exact Nat.le_add_right _ _) (by exact Nat.lt_of_le_of_lt (Nat.add_le_add_left (by decide) _) hcn) _
   have f1:(τ.set (N+1) (.cell (.ref y.1))).get (N+2)=some (.list (refs F)):=get_oth hf2 (by exact Nat.ne_of_gt (Nat.add_lt_add_left (by decide) _))
   have cs:=fun p1 p2 p3 p4 p5 p6 p7=>comp_same (p1:=p1) (p2:=p2) (p3:=p3) (p4:=p4) (p5:=p5) (p6:=p6) (p7:=p7) (n:=n+32) (c:=⟨k+1,b,ownKd (offC (k+1) b N) [(k_dot0,.local),(k_other,.local),(k_entity,.free)],[(k_entity,N+1)]⟩) (o:=k_other) (ent:=k_entity) (τ:=τ.set (N+1) (.cell (.ref y.1))) (l:=N+2) (a:=N+1) (x:=y.1) (i0:=y.2) (all:=refs F)
    rfl rfl rfl (get_upd _ _ _) (((hy y (.head _)).ext B e1).num) f1 F 0 (n+37) [] [] rfl (by simp at hz;omega) (fun z hz=>((hF z hz).ext B e1).num) (by simp at hz ⊢;omega)
   have go:∃ aM,execs (E (n+40)) (offC (k+1) b N) offE m (τ.set (N+1) (.cell (.ref y.1)))=.nxt m aM/\Ext J aM/\τ.n<=aM.n/\aM.get (N+2)=some (.list (refs (addE F y)))/\∀ l,l<τ.n->l≠N+2->aM.get l=(τ.set (N+1) (.cell (.ref y.1))).get l:=by
    have hs:(τ.set (N+1) (.cell (.ref y.1))).n=τ.n:=rfl
    generalize eE:τ.set (N+1) (.cell (.ref y.1))=eN at cs e1 f1 hs ⊢
    unfold addE
    induction hq:F.filter fun z=>eqI z.2 y.2 using List.casesOn with
    | nil=>
     simp only[hq] at cs
     refine⟨_,q_seq (q_ifT (q_tCmp (q_comp (cs:=[(k_entity,N+1)]) rfl rfl (q_loc rfl mf) (q_iterL f1) (cs _ _ _ _ _ _ _)) (q_list q_evs_nil rfl) (q_eqNil (ws:=[]) (get_old (get_new _ _) (by simp only[Store.n_add];exact Nat.lt_succ_self _)) (get_new _ _)))
      (q_seq (q_expr rfl (q_meth (b:=.append) rfl rfl (q_loc rfl mf) (get_old (get_old f1 (by rw[hs];exact hcn)) (by simp only[Store.n_add];rw[hs];exact Nat.lt_succ_of_le (Nat.le_of_lt hcn))) rfl rfl (q_evs (q_cell rfl rfl (v:=.ref y.1) ?_) q_evs_nil) (q_append (get_old (get_old f1 (by rw[hs];exact hcn)) (by simp only[Store.n_add];rw[hs];exact Nat.lt_succ_of_le (Nat.le_of_lt hcn))) ?_))) q_end)) q_end,?_,?_,?_,?_⟩
     ·rw[<-eE]
      exact get_old (get_old (get_upd _ _ _) (by simp only[Store.n_set];exact Nat.lt_of_le_of_lt (Nat.add_le_add_left (by decide) _) hcn)) (by simp only[Store.n_add,Store.n_set];exact Nat.add_lt_add_right (Nat.lt_of_le_of_lt (Nat.le_add_right _ _) hcn) _)
     ·simp[refs];simp at hz;omega
     ·exact((e1.add' _).add' _).set' (by rw[hN];exact Nat.le_add_right _ _) (by simp only[Store.n_add];rw[hs];exact Nat.lt_succ_of_le (Nat.le_add_right_of_le (Nat.le_of_lt hcn))) _
     ·simp only[Store.n_set,Store.n_add];rw[hs];exact Nat.le_add_right_of_le (Nat.le_add_right _ _)
     ·rw[refs_app];exact get_upd _ _ _
     ·intro l h1 h2
      rw[Store.get_set,if_neg h2,Store.get_add,if_neg (by simp only[Store.n_add];rw[hs];exact Nat.ne_of_lt (Nat.lt_succ_of_le (Nat.le_of_lt h1))),Store.get_add,if_neg (by rw[hs];exact Nat.ne_of_lt h1)]
    | cons z zs=>
     simp only[hq] at cs
     refine⟨_,q_seq (q_ifF (q_tCmp (q_comp (cs:=[(k_entity,N+1)]) rfl rfl (q_loc rfl mf) (q_iterL f1) (cs _ _ _ _ _ _ _)) (q_list q_evs_nil rfl) (q_eqNil (ws:=[]) (get_old (get_new _ _) (by simp only[Store.n_add];exact Nat.lt_succ_self _)) (get_new _ _))) q_end) q_end,?_,?_,?_,?_⟩
     ·exact(e1.add' _).add' _
     ·simp only[Store.n_add];rw[hs];exact Nat.le_add_right_of_le (Nat.le_add_right _ _)
     ·exact get_old (get_old f1 (by rw[hs];exact hcn)) (by simp only[Store.n_add];rw[hs];exact Nat.lt_succ_of_le (Nat.le_of_lt hcn))
     ·intro l h1 h2
      rw[Store.get_add,if_neg (by simp only[Store.n_add];rw[hs];exact Nat.ne_of_lt (Nat.lt_succ_of_le (Nat.le_of_lt h1))),Store.get_add,if_neg (by rw[hs];exact Nat.ne_of_lt h1)]
   obtain⟨aM,r1,e2,n2,g2,o2⟩:=go
   have hl:=addE_len F y
   obtain⟨bp,r2,e3,n3,g3,c3,o3⟩:=off_ents hN B mf ys (i+1) f aM (addE F y) d2 (by simp at hf;exact hf) (fun z hz=>hy z (.tail _ hz)) (fun z hz=>(addE_mem hz).elim (hF z) fun w=>w▸hy y (.head _)) e2
    (.inr ⟨.ref y.1,(o2 (N+1) (by exact Nat.lt_of_le_of_lt (Nat.add_le_add_left (by decide) _) hcn) (by exact Nat.ne_of_lt (Nat.add_lt_add_left (by decide) _))).trans (get_upd _ _ _)⟩) (by exact Nat.lt_of_lt_of_le hcn n2) ⟨hlr.1,by omega⟩ ((o2 lr hlr.2 (by omega)).trans (get_oth hR (by omega))) g2 (by simp at hz;omega)
   refine⟨bp,q_forGo (v:=.ref y.1) (r:=(m,τ.set (N+1) (.cell (.ref y.1)))) (by rw[q_nextL hR,d1]) (show storeN (offC (k+1) b N) m k_entity (.ref y.1) τ=_ from store_cell rfl rfl hc) r1 r2,e3,by exact Nat.le_trans n2 n3,g3,c3,fun l h1 h2 h3=>?_⟩
   rw[o3 l (by exact Nat.lt_of_lt_of_le h1 n2) h2 h3,o2 l h1 h3,Store.get_set,if_neg h2]
inductive Ch (J:Store) (s:List Nat):V->List (List (Nat×Option (Nat×Int)))->Prop
 | nil:Ch J s .none []
 | cons {r C lu lt:Nat} {fs:List (Nat×V)} {par:V} {ps:List (Nat×Option (Nat×Int))} {rest:List (List (Nat×Option (Nat×Int)))} (h1:J.get r=some (.inst C fs)) (h2:lk fs k_uses=some (.ref lu)) (h3:J.get lu=some (.list (ps.map fun q=>.ref q.1)))
   (h4:lk fs k_use_types=some (.ref lt)) (h5:J.get lt=some (.list [])) (h6:lk fs k_parent=some par) (h7:∀ q∈ps,Pkg J s q.1 q.2) (h8:Ch J s par rest):Ch J s (.ref r) (ps::rest)
noncomputable def offer (F:List (Nat×Int)) (rows:List (List (Nat×Option (Nat×Int)))):List (Nat×Int):=rows.foldl (fun F ps=>(xsP ps).foldl addE F) F
theorem foldl_len:∀ (ys F:List (Nat×Int)),(ys.foldl addE F).length<=F.length+ys.length
 | [],F=>by simp
 | y::ys,F=>by
  have:=foldl_len ys (addE F y)
  have:=addE_len F y
  simp only[List.foldl_cons,List.length_cons];omega
theorem foldl_mem:∀ {ys F:List (Nat×Int)} {z:Nat×Int},z∈ys.foldl addE F->z∈F\/z∈ys
 | [],F,z,h=>.inl h
 | y::ys,F,z,h=>by
  rcases foldl_mem (ys:=ys) h with h|h
  ·rcases addE_mem h with h|h
   ·exact .inl h
   ·exact .inr (h▸.head _)
  ·exact .inr (.tail _ h)
theorem xsP_ent {ps:List (Nat×Option (Nat×Int))} {s:List Nat} (h:∀ q∈ps,Pkg J s q.1 q.2):∀ y∈xsP ps,Ent J y.1 y.2:=by
 intro y hy
 obtain⟨q,hq,e⟩:=List.mem_filterMap.mp hy
 obtain⟨C,fs,g,C',gs,d,ds,_,_,_,_,_,_,h7⟩:=(h q hq).at_
 rw[e] at h7
 obtain⟨le,_,_,z⟩:=h7
 exact z
theorem off_while {N:Nat} {J:Store} {s:List Nat} {p1 p2 p3:Pos} (hN:J.n=N) (B:BdS J) {place:V} {rows:List (List (Nat×Option (Nat×Int)))} (hch:Ch J s place rows):∀ (f:Nat) (m:M) (τ:Store) (F:List (Nat×Int)),rows.length<f->(∀ y∈F,Ent J y.1 y.2)->Ext J τ->cellAt τ N->cellAt τ (N+1)->N+2<τ.n ->
  lk m k_found=some (.ref (N+2))->lk m k_here=some place->lk m k_name=some (.str s)->τ.get (N+2)=some (.list (refs F))->F.length+(rows.map List.length).sum<=30 ->
  ∃ m' ba,whlL (E (n+43)) (offC (k+1) b N) (.cmp (.name k_here p1) .IsNot (.cnone 0 p2) p3) offW f m τ=.nxt m' ba/\Ext J ba/\ba.get (N+2)=some (.list (refs (offer F rows)))/\lk m' k_found=some (.ref (N+2)):=by
 induction hch with
 | nil=>
  intro f m τ F hf hF e c1 c2 hcn mf mh mn hl hz
  induction f using Nat.casesOn with
  | zero=>cases hf
  | succ f=>exact⟨m,τ,q_whlF (q_tCmp (q_loc rfl mh) q_none rfl),e,hl,mf⟩
 | @cons r C lu lt fs par ps rest h1 h2 h3 h4 h5 h6 h7 h8 ih=>
  intro f m τ F hf hF e c1 c2 hcn mf mh mn hl hz
  induction f using Nat.casesOn with
  | zero=>cases hf
  | succ f=>
   have cu:=e.bd B
   have hn:=e.n
   have hx:(xsP ps).length<=ps.length:=List.length_filterMap_le _ _
   simp only[List.map_cons,List.sum_cons] at hz
   have e1:=e.add' (.list [])
   obtain⟨m2,bp,r2,e2,n2,g2,k2,o2,mr2,mo2⟩:=off_pkgs (n:=n+22) (k:=k) (b:=b) (lr:=τ.n) (p0:=⟨425,12,425,19⟩) hN B h3 ps 0 (n+42) (putL m k_row (.ref τ.n)) (τ.add (.list [])) [] rfl (by omega) h7 e1
    (c1.elim (fun z=>.inl (get_old z (by exact Nat.lt_of_le_of_lt (Nat.le_add_right _ _) hcn))) fun ⟨v,z⟩=>.inr ⟨v,get_old z (by exact Nat.lt_of_le_of_lt (Nat.le_add_right _ _) hcn)⟩) (by rw[Store.n_add];exact Nat.lt_add_right _ (Nat.lt_of_le_of_lt (Nat.le_add_right _ _) hcn)) (by rw[Store.n_add];omega) lk_here (by rw[lk_pif,if_neg (by decide)];exact mn) (get_new _ _) (by simp;omega)
   rw[Store.n_add] at n2
   rw[List.nil_append] at g2
   have keep:∀ {l o},τ.get l=some o->l≠N->l<τ.n->bp.get l=some o:=fun {l o} h hne hlt=>(o2 l (by rw[Store.n_add];exact Nat.lt_succ_of_le (Nat.le_of_lt hlt)) (by exact Nat.ne_of_lt hlt) hne).trans (get_old h hlt)
   obtain⟨aX,r3,e3,n3,g3,k3,o3⟩:=off_ents (n:=n+2) (k:=k) (b:=b) (lr:=τ.n) (p0:=⟨432,12,432,18⟩) (m:=m2) hN B (by rw[mo2 _ (by decide) (by decide),lk_pif,if_neg (by decide)];exact mf) (xsP ps) 0 (n+42) bp F rfl (by omega) (xsP_ent h7) hF e2
    (c2.elim (fun z=>.inl (keep z (by exact Nat.ne_of_gt (Nat.lt_succ_self _)) (by exact Nat.lt_of_le_of_lt (Nat.add_le_add_left (by decide) _) hcn))) fun ⟨v,z⟩=>.inr ⟨v,keep z (by exact Nat.ne_of_gt (Nat.lt_succ_self _)) (by exact Nat.lt_of_le_of_lt (Nat.add_le_add_left (by decide) _) hcn)⟩) (by exact Nat.lt_of_lt_of_le (Nat.lt_succ_of_le (Nat.le_of_lt hcn)) n2) (by omega) g2 (keep hl (by exact Nat.ne_of_gt (Nat.lt_add_of_pos_right (by decide))) (by exact hcn)) (by omega)
   have mh2:lk m2 k_here=some (.ref r):=by rw[mo2 _ (by decide) (by decide),lk_pif,if_neg (by decide)];exact mh
   have hlen:=foldl_len (xsP ps) F
   obtain⟨m4,aW,r4,e4,g4,mf4⟩:=ih f (putL m2 k_here par) aX ((xsP ps).foldl addE F) (by simp at hf;exact hf) (fun y hy=>(foldl_mem hy).elim (hF y) (xsP_ent h7 y)) e3
    (k2.elim (fun z=>.inl ((o3 N (by exact Nat.lt_of_lt_of_le (Nat.lt_add_right _ (Nat.lt_of_le_of_lt (Nat.le_add_right _ _) hcn)) n2) (by exact Nat.ne_of_lt (Nat.lt_succ_self _)) (by exact Nat.ne_of_lt (Nat.lt_add_of_pos_right (by decide)))).trans z)) fun ⟨v,z⟩=>.inr ⟨v,(o3 N (by exact Nat.lt_of_lt_of_le (Nat.lt_add_right _ (Nat.lt_of_le_of_lt (Nat.le_add_right _ _) hcn)) n2) (by exact Nat.ne_of_lt (Nat.lt_succ_self _)) (by exact Nat.ne_of_lt (Nat.lt_add_of_pos_right (by decide)))).trans z⟩) k3 (by exact Nat.lt_of_lt_of_le (Nat.lt_of_lt_of_le (Nat.lt_succ_of_le (Nat.le_of_lt hcn)) n2) n3)
    (by rw[lk_pif,if_neg (by decide),mo2 _ (by decide) (by decide),lk_pif,if_neg (by decide)];exact mf) lk_here (by rw[lk_pif,if_neg (by decide),mo2 _ (by decide) (by decide),lk_pif,if_neg (by decide)];exact mn) g3 (by omega)
   refine⟨m4,aW,q_whlT (q_tCmp (q_loc rfl mh) q_none rfl) (q_seq (q_asg (q_list q_evs_nil rfl) rfl) (q_seq (q_for (q_attr (q_loc rfl (by rw[lk_pif,if_neg (by decide)];exact mh)) (e1.at B h1) h2) (q_iterL (e1.at B h3)) r2)
    (q_seq (q_for (q_attr (q_loc rfl mh2) (e2.at B h1) h4) (q_iterL (e2.at B h5)) (q_forEnd (by rw[q_nextL (e2.at B h5)];rfl)))
     (q_seq (q_for (q_loc rfl mr2) (q_iterL g2) r3) (q_seq (q_asg (q_attr (q_loc rfl mh2) (e3.at B h1) h6) rfl) q_end))))) r4,e4,g4,mf4⟩
theorem offered_ok {J:Store} {s:List Nat} (B:BdS J) {place:V} {rows:List (List (Nat×Option (Nat×Int)))} (hch:Ch J s place rows) (hz:(rows.map List.length).sum<=30) (hr:rows.length<=30) :
  ∃ af l,(E (n+45)).call (k+2) b (.top (.ref a_offered_entities)) [place,.str s] J=.ok (.ref l) af/\Ext J af/\J.n<=l/\l<af.n/\af.get l=some (.list (refs (offer [] rows))):=by
 have e0:Ext J (((J.add .cell0).add .cell0).add (.list [])):=((Ext.add J _).add' _).add' _
 obtain⟨m',ba,r,e1,g,mf⟩:=off_while (n:=n) (k:=k) (b:=b) (p1:=⟨423,10,423,14⟩) (p2:=⟨423,22,423,26⟩) (p3:=⟨423,10,423,26⟩) rfl B hch (n+43) (putL (putL [(k_place,place),(k_name,.str s)] k_found (.ref (J.n+2))) k_here place) (((J.add .cell0).add .cell0).add (.list [])) [] (by omega) (fun y hy=>nomatch hy) e0
  (.inl (get_old (get_old (get_new _ _) (by simp only[Store.n_add];exact Nat.lt_succ_self _)) (by simp only[Store.n_add];exact Nat.lt_succ_of_le (Nat.le_add_right _ _)))) (.inl (get_old (get_new _ _) (by simp only[Store.n_add];exact Nat.lt_succ_self _))) (by simp only[Store.n_add];exact Nat.lt_succ_self _)
  rfl rfl rfl (get_new _ _) (by simpa using hz)
 refine⟨ba,J.n+2,q_fn (d:=d_offered_entities) (cs:=[(k_entity,J.n+1),(k_package,J.n)]) rfl rfl rfl rfl rfl ⟨_,q_seq (q_asg (q_list q_evs_nil rfl) rfl) (q_seq (q_asg (q_loc rfl rfl) rfl) (q_seq (q_while r) (q_seqR (q_ret (q_loc rfl mf)))))⟩,e1,by exact Nat.le_add_right _ _,?_,g⟩
 exact(e1.bd B) _ _ g
end
end L1
end

section
open PySem
theorem bindq {c:Cx} {m m' :M} {J J':Store} {x:Nat} {v:V} {xs:List Nat} {vs:List V} {y:Option (M×Store)} (h:storeN c m x v J=some (m',J')) (k:bindPs c xs vs m' J'=y):bindPs c (x::xs) (v::vs) m J=y:=ocq h k
theorem storeq {c:Cx} {m m' :M} {J J':Store} {x:Nat×Pos} {v:V} {xs:List (Nat×Pos)} {vs:List V} {y:Option (M×Store)} (h:storeN c m x.1 v J=some (m',J')) (k:storeNs c xs vs m' J'=y):storeNs c (x::xs) (v::vs) m J=y:=ocq h k
theorem cmpF {α:Type} {f:Bool->α} {b:Bool} (h:¬ b=true):f b=f false:=congrArg f (tf h)
namespace L1
section
variable {n k l j:Nat} {b:Bool} {J af ad aq:Store} {v u:V} {vs ws:List V}
structure Vis (J:Store) (x:Nat):Prop where
 at_:∃ C fs,J.get x=some (.inst C fs)/\lk fs k_is_ready=some (.bool true)/\lk fs k_is_overridden=some (.bool false)
theorem Vis.ext {x:Nat} (h:Vis J x) (B:BdS J) (e:Ext J af):Vis af x:=by
 obtain⟨C,fs,a,r⟩:=h.at_
 exact⟨C,fs,e.at B a,r⟩
noncomputable def NmAt (J:Store) (s:List Nat) (r:Nat) (o:Option Nat) (par:V):Prop:=
 ∃ C fs d ds,J.get r=some (.inst C fs)/\lk fs k_names=some (.ref d)/\J.get d=some (.dict ds)/\lk fs k_parent=some par /\
  match o with|none=>lkS ds s=none|some x=>∃ le,lkS ds s=some (.ref le)/\J.get le=some (.list [.ref x])/\Vis J x
noncomputable def oneOf:Option Nat->List V
 | none=>[]
 | some x=>[.ref x]
noncomputable def imW:List S:=match b_immediate_entities with | [_,_,_,.whl _ b _,_]=>b|_=>[]
noncomputable abbrev imC (k:Nat) (b:Bool) (N:Nat):Cx:=⟨k,b,d_immediate_entities.kd,[(k_around,N)]⟩
structure ImS (J:Store) (N:Nat) (s:List Nat) (place:V) (A:List V) (m:M) (τ:Store):Prop where
 e:Ext J τ
 sz:N+2<τ.n
 c:τ.get N=some (.cell (.ref (N+2)))
 f:τ.get (N+1)=some (.list A)
 a:τ.get (N+2)=some (.list A)
 mf:lk m k_found=some (.ref (N+1))
 mh:lk m k_here=some place
 mn:lk m k_name=some (.str s)
theorem im_step {N r:Nat} {s:List Nat} {o:Option Nat} {par:V} {A:List V} {m:M} {J τ:Store} (hN:J.n=N) (B:BdS J) (hr:NmAt J s r o par) (H:ImS J N s (.ref r) A m τ) (hA:o=none\/A=[]) (hz:A.length<=5) :
  ∃ m' ba,execs (E (n+20)) (imC (k+1) b N) imW m τ=.nxt m' ba/\ImS J N s par (A++oneOf o) m' ba:=by
 obtain⟨C,fs,d,ds,r1,q2,r3,q4,q5⟩:=hr
 obtain⟨e,sz,hc,hf,ha,mf,mh,mn⟩:=H
 have neN:∀ {j o},J.get j=some o->j<N:=fun h=>hN▸B _ _ h
 have hn:=e.n
 have q1:=e.at B r1
 have q3:=e.at B r3
 have l1:=neN r1
 have l3:=neN r3
 induction o using Option.casesOn with
 | none=>
  dsimp only at q5
  refine⟨_,_,q_seq (q_asg (q_comp (cs:=[]) rfl rfl (q_meth (b:=.get) rfl rfl (q_attr (q_loc rfl mh) q1 q2) q3 rfl rfl (q_evs (q_loc rfl mn) (q_evs (q_list q_evs_nil rfl) q_evs_nil)) (q_getD (get_old q3 (by exact Nat.lt_of_le_of_lt (Nat.le_add_right_of_le (Nat.le_of_lt l3)) sz)) q5)) (q_iterL (get_new _ _)) (q_compEnd (by rw[q_nextL (get_new _ _)];rfl))) rfl)
   (q_seq (q_augN (v:=.ref (N+1)) (r:=(putL (putL m k_row (.ref (τ.n+1))) k_found (.ref (N+1)),_)) ?_ (q_comp (cs:=[(k_around,N)]) rfl rfl (q_loc rfl lk_here) (q_iterL (get_new _ _)) (q_compEnd (by rw[q_nextL (get_new _ _)];rfl)))
     (q_augL (vs:=A) (ws:=[]) (get_old (get_old (get_old hf (by exact Nat.lt_of_le_of_lt (Nat.add_le_add_left (by decide) _) sz)) (by simp only[Store.n_add];exact Nat.add_lt_add_right (Nat.lt_of_le_of_lt (Nat.le_add_right _ _) sz) _)) (by simp only[Store.n_add];exact Nat.add_lt_add_right (Nat.lt_add_right _ (Nat.lt_of_le_of_lt (Nat.le_add_right _ _) sz)) _)) (get_new _ _) (by simp;exact Nat.le_trans hz (by decide))) rfl)
   (q_seq (q_augN (v:=.ref (N+2)) (r:=(putL (putL m k_row (.ref (τ.n+1))) k_found (.ref (N+1)),_)) ?_ (q_loc rfl (v:=.ref (τ.n+1)) ?_) (q_augL (vs:=A) (ws:=[]) ?_ ?_ (by simp;exact Nat.le_trans hz (by decide))) (store_cell rfl rfl (.inr ⟨.ref (N+2),?_⟩)))
   (q_seq (q_asg (q_attr (l:=r) (C:=C) (fs:=fs) (q_loc rfl ?_) ?_ q4) rfl) q_end))),?_⟩
  ·exact ldL rfl (lk_skip rfl mf)
  ·exact ldC rfl rfl (by ((repeat' (first | assumption | exact get_new _ _ | exact get_upd _ _ _ | refine get_old ?_ (by simp only[Store.n_add,Store.n_set];omega) | refine get_oth ?_ (by(try simp only[Store.n_add,Store.n_set]);omega)))))
  ·show lk (putL (putL m k_row _) k_found _) k_row=_
   rw[lk_pif,if_neg (by decide),lk_pif,if_pos rfl]
  ·((repeat' (first | assumption | exact get_new _ _ | exact get_upd _ _ _ | refine get_old ?_ (by simp only[Store.n_add,Store.n_set];omega) | refine get_oth ?_ (by(try simp only[Store.n_add,Store.n_set]);omega))))
  ·((repeat' (first | assumption | exact get_new _ _ | exact get_upd _ _ _ | refine get_old ?_ (by simp only[Store.n_add,Store.n_set];omega) | refine get_oth ?_ (by(try simp only[Store.n_add,Store.n_set]);omega))))
  ·((repeat' (first | assumption | exact get_new _ _ | exact get_upd _ _ _ | refine get_old ?_ (by simp only[Store.n_add,Store.n_set];omega) | refine get_oth ?_ (by(try simp only[Store.n_add,Store.n_set]);omega))))
  ·show lk (putL (putL m k_row _) k_found _) k_here=_
   rw[lk_pif,if_neg (by decide),lk_pif,if_neg (by decide)];exact mh
  ·((repeat' (first | assumption | exact get_new _ _ | exact get_upd _ _ _ | refine get_old ?_ (by simp only[Store.n_add,Store.n_set];omega) | refine get_oth ?_ (by(try simp only[Store.n_add,Store.n_set]);omega))))
  ·refine⟨((((((e.add' _).add' _).add' _).set' (by omega) (by simp only[Store.n_add];omega) _).set' (by omega) (by simp only[Store.n_set,Store.n_add];omega) _).set' (by omega) (by simp only[Store.n_set,Store.n_add];omega) _),?_,?_,?_,?_,?_,?_,?_⟩
   ·simp only[Store.n_set,Store.n_add];omega
   ·exact get_upd _ _ _
   ·show(Store.set _ _ _).get _=some (.list (A++[]))
    ((repeat' (first | assumption | exact get_new _ _ | exact get_upd _ _ _ | refine get_old ?_ (by simp only[Store.n_add,Store.n_set];omega) | refine get_oth ?_ (by(try simp only[Store.n_add,Store.n_set]);omega))))
   ·show(Store.set _ _ _).get _=some (.list (A++[]))
    ((repeat' (first | assumption | exact get_new _ _ | exact get_upd _ _ _ | refine get_old ?_ (by simp only[Store.n_add,Store.n_set];omega) | refine get_oth ?_ (by(try simp only[Store.n_add,Store.n_set]);omega))))
   ·show lk (putL (putL (putL m k_row _) k_found _) k_here _) k_found=_
    rw[lk_pif,if_neg (by decide),lk_pif,if_pos rfl]
   ·show lk (putL (putL (putL m k_row _) k_found _) k_here _) k_here=_
    rw[lk_pif,if_pos rfl]
   ·show lk (putL (putL (putL m k_row _) k_found _) k_here _) k_name=_
    rw[lk_pif,if_neg (by decide),lk_pif,if_neg (by decide),lk_pif,if_neg (by decide)];exact mn
 | some x=>
  obtain⟨le,a1,a2,a3⟩:=q5
  have hA:A=[]:=hA.elim (fun z=>by cases z) id
  subst hA
  have lle:=neN a2
  have b2:=e.at B a2
  have b3:=(a3.ext B (e.add' (.list []))).at_
  obtain⟨Cx,fx,x1,x2,x3⟩:=a3.at_
  have lx:=neN x1
  have y1:=e.at B x1
  refine⟨_,_,q_seq (q_asg (q_comp (cs:=[]) rfl rfl (q_meth (b:=.get) rfl rfl (q_attr (q_loc rfl mh) q1 q2) q3 rfl rfl (q_evs (q_loc rfl mn) (q_evs (q_list q_evs_nil rfl) q_evs_nil)) (q_getS (get_old q3 (by exact Nat.lt_of_le_of_lt (Nat.le_add_right_of_le (Nat.le_of_lt l3)) sz)) a1)) (q_iterL (get_old b2 (by exact Nat.lt_of_le_of_lt (Nat.le_add_right_of_le (Nat.le_of_lt lle)) sz)))
     (q_compT (by rw[q_nextL (get_old b2 (by exact Nat.lt_of_le_of_lt (Nat.le_add_right_of_le (Nat.le_of_lt lle)) sz))];rfl) rfl (q_tAndT (q_tNot (b:=false) (q_tAttr (q_attr (q_loc rfl rfl) (get_old y1 (by exact Nat.lt_of_le_of_lt (Nat.le_add_right_of_le (Nat.le_of_lt lx)) sz)) x3))) q_tB_nil) (q_loc rfl rfl) rfl (q_compEnd (by rw[q_nextL (get_old b2 (by exact Nat.lt_of_le_of_lt (Nat.le_add_right_of_le (Nat.le_of_lt lle)) sz))];rfl)))) rfl)
   (q_seq (q_augN (v:=.ref (N+1)) (r:=(putL (putL m k_row (.ref (τ.n+1))) k_found (.ref (N+1)),_)) ?_ (q_comp (cs:=[(k_around,N)]) rfl rfl (q_loc rfl lk_here) (q_iterL (get_new _ _))
     (q_compT (by rw[q_nextL (get_new _ _)];rfl) rfl (q_tAndT (q_tAnd (q_tAndT (q_tAttr (q_attr (l:=x) (C:=Cx) (fs:=fx) (q_loc rfl rfl) ?_ x2)) (q_tAndT (q_tNot (b:=false) (q_tCall (q_call rfl (q_glob rfl rfl) (q_evs (q_loc rfl rfl) (q_evs (q_cell (v:=.ref (N+2)) rfl rfl ?_) q_evs_nil)) (is_hidden_nil ?_)))) q_tB_nil))) q_tB_nil) (q_loc rfl rfl) rfl
      (q_compEnd (by rw[q_nextL (get_new _ _)];rfl))))
     (q_augL (vs:=[]) (ws:=[.ref x]) (get_old (get_old (get_old hf (by exact Nat.lt_of_le_of_lt (Nat.add_le_add_left (by decide) _) sz)) (by simp only[Store.n_add];exact Nat.add_lt_add_right (Nat.lt_of_le_of_lt (Nat.le_add_right _ _) sz) _)) (by simp only[Store.n_add];exact Nat.add_lt_add_right (Nat.lt_add_right _ (Nat.lt_of_le_of_lt (Nat.le_add_right _ _) sz)) _)) (get_new _ _) (by simp)) rfl)
   (q_seq (q_augN (v:=.ref (N+2)) (r:=(putL (putL m k_row (.ref (τ.n+1))) k_found (.ref (N+1)),_)) ?_ (q_loc rfl (v:=.ref (τ.n+1)) ?_) (q_augL (vs:=[]) (ws:=[.ref x]) ?_ ?_ (by simp)) (store_cell rfl rfl (.inr ⟨.ref (N+2),?_⟩)))
   (q_seq (q_asg (q_attr (l:=r) (C:=C) (fs:=fs) (q_loc rfl ?_) ?_ q4) rfl) q_end))),?_⟩
  ·exact ldL rfl (lk_skip rfl mf)
  ·((repeat' (first | assumption | exact get_new _ _ | exact get_upd _ _ _ | refine get_old ?_ (by simp only[Store.n_add,Store.n_set];omega) | refine get_oth ?_ (by(try simp only[Store.n_add,Store.n_set]);omega))))
  ·((repeat' (first | assumption | exact get_new _ _ | exact get_upd _ _ _ | refine get_old ?_ (by simp only[Store.n_add,Store.n_set];omega) | refine get_oth ?_ (by(try simp only[Store.n_add,Store.n_set]);omega))))
  ·((repeat' (first | assumption | exact get_new _ _ | exact get_upd _ _ _ | refine get_old ?_ (by simp only[Store.n_add,Store.n_set];omega) | refine get_oth ?_ (by(try simp only[Store.n_add,Store.n_set]);omega))))
  ·exact ldC rfl rfl (by ((repeat' (first | assumption | exact get_new _ _ | exact get_upd _ _ _ | refine get_old ?_ (by simp only[Store.n_add,Store.n_set];omega) | refine get_oth ?_ (by(try simp only[Store.n_add,Store.n_set]);omega)))))
  ·show lk (putL (putL m k_row _) k_found _) k_row=_
   rw[lk_pif,if_neg (by decide),lk_pif,if_pos rfl]
  ·((repeat' (first | assumption | exact get_new _ _ | exact get_upd _ _ _ | refine get_old ?_ (by simp only[Store.n_add,Store.n_set];omega) | refine get_oth ?_ (by(try simp only[Store.n_add,Store.n_set]);omega))))
  ·show(Store.set _ _ _).get _=_
   refine get_oth ?_ (by exact Nat.ne_of_gt (Nat.add_lt_add_right (Nat.lt_of_le_of_lt (Nat.le_add_right _ _) sz) _))
   exact get_old (get_new _ _) (by simp only[Store.n_add];exact Nat.lt_succ_self _)
  ·((repeat' (first | assumption | exact get_new _ _ | exact get_upd _ _ _ | refine get_old ?_ (by simp only[Store.n_add,Store.n_set];omega) | refine get_oth ?_ (by(try simp only[Store.n_add,Store.n_set]);omega))))
  ·show lk (putL (putL m k_row _) k_found _) k_here=_
   rw[lk_pif,if_neg (by decide),lk_pif,if_neg (by decide)];exact mh
  ·((repeat' (first | assumption | exact get_new _ _ | exact get_upd _ _ _ | refine get_old ?_ (by simp only[Store.n_add,Store.n_set];omega) | refine get_oth ?_ (by(try simp only[Store.n_add,Store.n_set]);omega))))
  ·refine⟨((((((e.add' _).add' _).add' _).set' (by omega) (by simp only[Store.n_add];omega) _).set' (by omega) (by simp only[Store.n_set,Store.n_add];omega) _).set' (by omega) (by simp only[Store.n_set,Store.n_add];omega) _),?_,?_,?_,?_,?_,?_,?_⟩
   ·simp only[Store.n_set,Store.n_add];omega
   ·exact get_upd _ _ _
   ·show(Store.set _ _ _).get _=some (.list ([]++[.ref x]))
    ((repeat' (first | assumption | exact get_new _ _ | exact get_upd _ _ _ | refine get_old ?_ (by simp only[Store.n_add,Store.n_set];omega) | refine get_oth ?_ (by(try simp only[Store.n_add,Store.n_set]);omega))))
   ·show(Store.set _ _ _).get _=some (.list ([]++[.ref x]))
    ((repeat' (first | assumption | exact get_new _ _ | exact get_upd _ _ _ | refine get_old ?_ (by simp only[Store.n_add,Store.n_set];omega) | refine get_oth ?_ (by(try simp only[Store.n_add,Store.n_set]);omega))))
   ·show lk (putL (putL (putL m k_row _) k_found _) k_here _) k_found=_
    rw[lk_pif,if_neg (by decide),lk_pif,if_pos rfl]
   ·show lk (putL (putL (putL m k_row _) k_found _) k_here _) k_here=_
    rw[lk_pif,if_pos rfl]
   ·show lk (putL (putL (putL m k_row _) k_found _) k_here _) k_name=_
    rw[lk_pif,if_neg (by decide),lk_pif,if_neg (by decide),lk_pif,if_neg (by decide)];exact mn
inductive NCh (J:Store) (s:List Nat):V->List (Option Nat)->Prop
 | nil:NCh J s .none []
 | cons {r:Nat} {o:Option Nat} {par:V} {rest:List (Option Nat)} (h1:NmAt J s r o par) (h2:NCh J s par rest):NCh J s (.ref r) (o::rest)
noncomputable def once:List (Option Nat)->Prop
 | []=>True
 | none::r=>once r
 | some _::r=>∀ o∈r,o=none
noncomputable def theOne:List (Option Nat)->Option Nat
 | []=>none
 | none::r=>theOne r
 | some x::_=>some x
theorem theOne_none {r:List (Option Nat)} (h:∀ o∈r,o=none):theOne r=none:=by
 induction r with
 | nil=>rfl
 | cons o r ih=>rw[h o (.head _)];exact ih fun z hz=>h z (.tail _ hz)
theorem im_while {N:Nat} {J:Store} {s:List Nat} {p1 p2 p3:Pos} (hN:J.n=N) (B:BdS J) {place:V} {os:List (Option Nat)} (hch:NCh J s place os):∀ (f:Nat) (m:M) (τ:Store) (A:List V),os.length<f->ImS J N s place A m τ->(A=[]/\once os)\/(A.length<=1/\∀ o∈os,o=none) ->
  ∃ m' ba,whlL (E (n+20)) (imC (k+1) b N) (.cmp (.name k_here p1) .IsNot (.cnone 0 p2) p3) imW f m τ=.nxt m' ba/\ImS J N s .none (A++oneOf (theOne os)) m' ba:=by
 induction hch with
 | nil=>
  intro f m τ A hf H hA
  induction f using Nat.casesOn with
  | zero=>cases hf
  | succ f=>exact⟨m,τ,q_whlF (q_tCmp (q_loc rfl H.mh) q_none rfl),by simpa [theOne,oneOf] using H⟩
 | @cons r o par rest h1 h2 ih=>
  intro f m τ A hf H hA
  induction f using Nat.casesOn with
  | zero=>cases hf
  | succ f=>
   have hA1:o=none\/A=[]:=by
    rcases hA with h|h
    ·exact .inr h.1
    ·exact .inl (h.2 o (.head _))
   obtain⟨m1,aM,r1,H1⟩:=im_step (n:=n) (k:=k) (b:=b) hN B h1 H hA1 (hA.elim (fun h=>by simp[h.1]) fun h=>Nat.le_trans h.1 (by decide))
   have hA2:(A++oneOf o=[]/\once rest)\/((A++oneOf o).length<=1/\∀ o∈rest,o=none):=by
    induction o using Option.casesOn with
    | none=>
     rcases hA with h|h
     ·exact .inl ⟨by simp[h.1,oneOf],h.2⟩
     ·exact .inr ⟨by simpa [oneOf] using h.1,fun z hz=>h.2 z (.tail _ hz)⟩
    | some x=>
     rcases hA with h|h
     ·exact .inr ⟨by simp[h.1,oneOf],h.2⟩
     ·exact absurd (h.2 _ (.head _)) (by simp)
   obtain⟨m2,bp,r2,H2⟩:=ih f m1 aM (A++oneOf o) (by simp at hf;exact hf) H1 hA2
   refine⟨m2,bp,q_whlT (q_tCmp (q_loc rfl H.mh) q_none rfl) r1 r2,?_⟩
   have:A++oneOf (theOne (o::rest))=(A++oneOf o)++oneOf (theOne rest):=by
    induction o using Option.casesOn with
    | none=>simp[theOne,oneOf]
    | some x=>
     have:theOne rest=none:=theOne_none (by
      rcases hA with h|h
      ·exact h.2
      ·exact absurd (h.2 _ (.head _)) (by simp))
     rw[this];simp[theOne,oneOf]
   rw[this];exact H2
theorem immediate_ok {J:Store} {s:List Nat} (B:BdS J) {place:V} {os:List (Option Nat)} (hch:NCh J s place os) (h1:once os) (hz:os.length<=15) :
  ∃ af t f a,(E (n+22)).call (k+2) b (.top (.ref a_immediate_entities)) [place,.str s] J=.ok (.ref t) af/\Ext J af/\af.get t=some (.tup [.ref f,.ref a])/\af.get f=some (.list (oneOf (theOne os)))/\af.get a=some (.list (oneOf (theOne os)))/\J.n<=f/\J.n<=a:=by
 have H:ImS J J.n s place [] (putL (putL [(k_place,place),(k_name,.str s)] k_found (.ref (J.n+1))) k_here place) ((((J.add .cell0).add (.list [])).add (.list [])).set J.n (.cell (.ref (J.n+2)))):=
by
  have g1:(((J.add .cell0).add (.list [])).add (.list [])).get (J.n+1)=some (.list []):=get_old (get_new (J.add .cell0) _) (by simp only[Store.n_add];exact Nat.lt_succ_self _)
  have g2:(((J.add .cell0).add (.list [])).add (.list [])).get (J.n+2)=some (.list []):=get_new ((J.add .cell0).add (.list [])) _
  have e3:Ext J (((J.add .cell0).add (.list [])).add (.list [])):=((Ext.add J _).add' _).add' _
  have n3:(((J.add .cell0).add (.list [])).add (.list [])).n=J.n+3:=rfl
  generalize ((J.add .cell0).add (.list [])).add (.list [])=aX at g1 g2 e3 n3 ⊢
  have e4:=e3.set' (Nat.le_refl _) (by rw[n3];exact Nat.lt_add_of_pos_right (by decide)) (.cell (.ref (J.n+2)))
  have n4:(aX.set J.n (.cell (.ref (J.n+2)))).n=J.n+3:=n3
  exact⟨e4,by omega,get_upd _ _ _,get_oth g1 (by omega),get_oth g2 (by omega),rfl,rfl,rfl⟩
 obtain⟨m',ba,r,H'⟩:=im_while (n:=n) (k:=k) (b:=b) (p1:=⟨391,10,391,14⟩) (p2:=⟨391,22,391,26⟩) (p3:=⟨391,10,391,26⟩) rfl B hch (n+20) _ _ [] (by omega) H (.inl ⟨rfl,h1⟩)
 rw[List.nil_append] at H'
 have sz:=H'.sz
 have s1:(E (n+21)).s (imC (k+1) b J.n) [(k_place,place),(k_name,.str s)] (.asg (.nm k_found ⟨388,4,388,9⟩) (.list [] ⟨388,12,388,14⟩) ⟨388,4,388,14⟩) (J.add .cell0)=.nxt (putL [(k_place,place),(k_name,.str s)] k_found (.ref (J.n+1))) ((J.add .cell0).add (.list [])):=q_asg (q_list q_evs_nil rfl) rfl
 have s2:(E (n+21)).s (imC (k+1) b J.n) (putL [(k_place,place),(k_name,.str s)] k_found (.ref (J.n+1))) (.asg (.nm k_around ⟨389,4,389,10⟩) (.list [] ⟨389,13,389,15⟩) ⟨389,4,389,15⟩) ((J.add .cell0).add (.list []))=.nxt (putL [(k_place,place),(k_name,.str s)] k_found (.ref (J.n+1))) ((((J.add .cell0).add (.list [])).add (.list [])).set J.n (.cell (.ref (J.n+2)))):=
  q_asgN (r:=(_,_)) (v:=.ref (J.n+2)) (q_list q_evs_nil rfl) (store_cell rfl rfl (.inl (get_old (get_old (get_new _ _) (by simp only[Store.n_add];exact Nat.lt_succ_self _)) (by simp only[Store.n_add];exact Nat.lt_succ_of_le (Nat.le_add_right _ _)))))
 have s3:(E (n+21)).s (imC (k+1) b J.n) m' (.ret (some (.tup [(.name k_found ⟨396,12,396,17⟩),(.name k_around ⟨396,19,396,25⟩)] 0 ⟨396,11,396,26⟩)) ⟨396,4,396,26⟩) ba=.ret (.ref ba.n) m' (ba.add (.tup [.ref (J.n+1),.ref (J.n+2)])):=
  q_ret (q_tup (q_evs (q_loc rfl H'.mf) (q_evs (q_cell rfl rfl H'.c) q_evs_nil)) rfl)
 refine⟨ba.add (.tup [.ref (J.n+1),.ref (J.n+2)]),ba.n,J.n+1,J.n+2,q_fn (d:=d_immediate_entities) (cs:=[(k_around,J.n)]) rfl rfl rfl rfl rfl ⟨m',q_seq s1 (q_seq s2 (q_seq (q_asg (q_loc rfl rfl) rfl) (q_seq (q_while r) (q_seqR s3))))⟩,H'.e.add' _,get_new _ _,get_old H'.f (by exact Nat.lt_of_le_of_lt (Nat.add_le_add_left (by decide) _) sz),get_old H'.a (by exact sz),by exact Nat.le_add_right _ _,by exact Nat.le_add_right _ _⟩
theorem is_over_ok {x:Nat} {i:Int} (h:Ent J x i):(E (n+6)).call (k+1) b (.top (.ref a_is_overloadable)) [.ref x] J=.ok (.bool false) J:=by
 obtain⟨C,fs,h1,h2,h3,h4,h5,h6⟩:=h.at_
 exact q_fn (d:=d_is_overloadable) (cs:=[]) rfl rfl rfl rfl rfl ⟨_,q_seqR (q_ret (q_cmp (q_attr (q_loc rfl rfl) h1 h6) q_none rfl))⟩
theorem comp_over {c:Cx} {l:Nat} {τ:Store} {all:List V} {p1 p2 p3 p4 p5 p6:Pos} (ko:lk c.kd k_entity=some .local) (kg:lk c.kd k_is_overloadable=some .globalImplicit) (hk:c.k=k+1) (hl:τ.get l=some (.list all)) :
  ∀ (F:List (Nat×Int)) (i f:Nat) (m:M) (vs:List V),all.drop i=refs F->F.length<f->(∀ y∈F,Ent τ y.1 y.2)->vs.length+F.length<=100 ->
  compL (E (n+10)) c (.name k_entity p1) (.nm k_entity p2) [.not_ (.call (.name k_is_overloadable p3) [.name k_entity p4] p5) p6] false (.list l) f i m vs τ=.ok (vs++refs F) τ
 | [],i,f,m,vs,hd,hf,hF,hz=>by
  induction f using Nat.casesOn with
  | zero=>cases hf
  | succ f=>
   rw[q_compEnd (by rw[q_nextL hl,drop_nil hd])]
   simp[refs]
 | y::F,i,f,m,vs,hd,hf,hF,hz=>by
  induction f using Nat.casesOn with
  | zero=>cases hf
  | succ f=>
   obtain⟨d1,d2⟩:=drop_cons hd
   have ih:=fun m vs=>comp_over (p1:=p1) (p2:=p2) (p3:=p3) (p4:=p4) (p5:=p5) (p6:=p6) ko kg hk hl F (i+1) f m vs d2 (by simp at hf;exact hf) fun z hz=>hF z (.tail _ hz)
   have st:storeG c m (.nm k_entity p2) (.ref y.1) τ=some (putL m k_entity (.ref y.1),τ):=storeN_local ko
   have ml:lk (putL m k_entity (.ref y.1)) k_entity=some (.ref y.1):=by rw[lk_pif,if_pos rfl]
   have tst:(E (n+10)).t c (putL m k_entity (.ref y.1)) (.not_ (.call (.name k_is_overloadable p3) [.name k_entity p4] p5) p6) τ=.ok true τ:=
    q_tNot (b:=false) (q_tCall (q_call rfl (q_glob kg rfl) (q_evs (q_loc ko ml) q_evs_nil) (by rw[hk];exact is_over_ok (hF y (.head _)))))
   rw[q_compT (by rw[q_nextL hl,d1]) st (q_tAndT tst q_tB_nil) (q_loc ko ml) (lenLe_of (by omega)) rfl,ih _ _ (by rw[List.length_append];simp at hz ⊢;omega)]
   simp[refs]
noncomputable def lookR (os:List (Option Nat)) (rows:List (List (Nat×Option (Nat×Int)))):List V:=if 1<(offer [] rows).length then oneOf (theOne os) else oneOf (theOne os)++refs (offer [] rows)
theorem offer_ent {J:Store} {s:List Nat} {place:V} {rows:List (List (Nat×Option (Nat×Int)))} (h:Ch J s place rows):∀ F:List (Nat×Int),(∀ y∈F,Ent J y.1 y.2)->∀ y∈offer F rows,Ent J y.1 y.2:=by
 induction h with
 | nil=>exact fun F hF y hy=>hF y hy
 | cons h1 h2 h3 h4 h5 h6 h7 h8 ih=>exact fun F hF y hy=>ih _ (fun z hz=>(foldl_mem hz).elim (hF z) (xsP_ent h7 z)) y hy
theorem offer_len:∀ (rows:List (List (Nat×Option (Nat×Int)))) (F:List (Nat×Int)),(offer F rows).length<=F.length+(rows.map List.length).sum
 | [],F=>by simp[offer]
 | ps::rest,F=>by
  have h1:=offer_len rest ((xsP ps).foldl addE F)
  have h2:=foldl_len (xsP ps) F
  have h3:(xsP ps).length<=ps.length:=List.length_filterMap_le _ _
  simp only[offer,List.foldl_cons,List.map_cons,List.sum_cons] at h1 ⊢
  omega
theorem look_up_ok {J:Store} {s:List Nat} (B:BdS J) {place:V} {os:List (Option Nat)} {rows:List (List (Nat×Option (Nat×Int)))} (h1:NCh J s place os) (h2:once os) (h3:os.length<=15) (h4:Ch J s place rows) (h5:(rows.map List.length).sum<=30) (h6:rows.length<=15) (h7:theOne os=none\/offer [] rows=[]) :
  ∃ af l,(E (n+48)).call (k+3) b (.top (.ref a_look_up)) [place,.str s] J=.ok (.ref l) af/\Ext J af/\J.n<=l/\l<af.n/\af.get l=some (.list (lookR os rows)):=by
 have e0:Ext J (J.add .cell0):=Ext.add J _
 have B0:=B.add .cell0
 have NCh_ext:∀ {τ:Store},Ext J τ->∀ {pl os},NCh J s pl os->NCh τ s pl os:=by
  intro τ e pl os h
  induction h with
  | nil=>exact .nil
  | cons a _ ih=>
   obtain⟨C,fs,d,ds,r1,q2,r3,q4,q5⟩:=a
   refine .cons ⟨C,fs,d,ds,e.at B r1,q2,e.at B r3,q4,?_⟩ ih
   split at q5
   ·exact q5
   ·obtain⟨le,a1,a2,a3⟩:=q5
    exact⟨le,a1,e.at B a2,a3.ext B e⟩
 have Ch_ext:∀ {τ:Store},Ext J τ->∀ {pl rows},Ch J s pl rows->Ch τ s pl rows:=by
  intro τ e pl os h
  induction h with
  | nil=>exact .nil
  | cons a1 a2 a3 a4 a5 a6 a7 _ ih=>exact .cons (e.at B a1) a2 (e.at B a3) a4 (e.at B a5) a6 (fun q hq=>(a7 q hq).ext B e) ih
 obtain⟨aM,t,f,a,r1,e1,g1,g2,g3,lf,la⟩:=immediate_ok (n:=n+23) (k:=k) (b:=b) B0 (NCh_ext e0 h1) h2 h3
 have n1:=e1.n
 rw[Store.n_add] at n1 lf la
 have e01:=e0.trans e1
 have B1:=e1.bd B0
 have c1:aM.get J.n=some .cell0:=e1.at B0 (get_new _ _)
 have e2:Ext J (aM.set J.n (.cell (.ref a))):=e01.set' (Nat.le_refl _) (by exact Nat.lt_of_lt_of_le (Nat.lt_succ_self _) n1) _
 have B2:BdS (aM.set J.n (.cell (.ref a))):=e2.bd B
 obtain⟨aX,lo,r3,e3,llo,llt,g4⟩:=offered_ok (n:=n) (k:=k) (b:=b) B2 (Ch_ext e2 h4) h5 (by exact Nat.le_trans h6 (by decide))
 have e03:=e2.trans e3
 have B3:=e3.bd B2
 have f3:aX.get f=some (.list (oneOf (theOne os))):=e3.at B2 (get_oth g2 (by exact Nat.ne_of_gt (Nat.lt_of_lt_of_le (Nat.lt_succ_self _) lf)))
 have a3:aX.get a=some (.list (oneOf (theOne os))):=e3.at B2 (get_oth g3 (by exact Nat.ne_of_gt (Nat.lt_of_lt_of_le (Nat.lt_succ_self _) la)))
 have c3:aX.get J.n=some (.cell (.ref a)):=e3.at B2 (get_upd _ _ _)
 have hX:∀ y∈offer [] rows,Ent aX y.1 y.2:=fun y hy=>(offer_ent h4 [] (fun _ h=>nomatch h) y hy).ext B e03
 have hlX:=offer_len rows []
 simp only[List.length_nil,Nat.zero_add] at hlX
 have s1:(E (n+47)).s ⟨k+2,b,d_look_up.kd,[(k_around,J.n)]⟩ [(k_place,place),(k_name,.str s)] (.asg (.tp [(k_found,⟨438,4,438,9⟩),(k_around,⟨438,11,438,17⟩)] 0 ⟨438,4,438,17⟩) (.call (.name k_immediate_entities ⟨438,20,438,38⟩) [(.name k_place ⟨438,39,438,44⟩),(.name k_name ⟨438,46,438,50⟩)] ⟨438,20,438,51⟩) ⟨438,4,438,51⟩) (J.add .cell0)
   = .nxt (putL [(k_place,place),(k_name,.str s)] k_found (.ref f)) (aM.set J.n (.cell (.ref a))):=by
  refine q_asgT (r:=(putL [(k_place,place),(k_name,.str s)] k_found (.ref f),aM.set J.n (.cell (.ref a)))) rfl (q_call rfl (q_glob rfl rfl) (q_evs (q_loc rfl rfl) (q_evs (q_loc rfl rfl) q_evs_nil)) r1) g1 ?_
  have st:=store_cell (c:=⟨k+2,b,d_look_up.kd,[(k_around,J.n)]⟩) (m:=putL [(k_place,place),(k_name,.str s)] k_found (.ref f)) (x:=k_around) (v:=.ref a) rfl rfl (.inl c1)
  exact storeq (storeN_local rfl) (storeq st rfl)
 have s2:(E (n+47)).s ⟨k+2,b,d_look_up.kd,[(k_around,J.n)]⟩ (putL [(k_place,place),(k_name,.str s)] k_found (.ref f)) (.asg (.nm k_offered ⟨439,4,439,11⟩) (.call (.name k_offered_entities ⟨439,14,439,30⟩) [(.name k_place ⟨439,31,439,36⟩),(.name k_name ⟨439,38,439,42⟩)] ⟨439,14,439,43⟩) ⟨439,4,439,43⟩) (aM.set J.n (.cell (.ref a)))
   = .nxt (putL (putL [(k_place,place),(k_name,.str s)] k_found (.ref f)) k_offered (.ref lo)) aX:=
  q_asg (q_call rfl (q_glob rfl rfl) (q_evs (q_loc rfl rfl) (q_evs (q_loc rfl rfl) q_evs_nil)) r3) rfl
 have key:∀ {X:Mine.X},execs (E (n+47)) ⟨k+2,b,d_look_up.kd,[(k_around,J.n)]⟩ (d_look_up.body.drop 2) (putL (putL [(k_place,place),(k_name,.str s)] k_found (.ref f)) k_offered (.ref lo)) aX=X->execs (E (n+47)) ⟨k+2,b,d_look_up.kd,[(k_around,J.n)]⟩ d_look_up.body [(k_place,place),(k_name,.str s)] (J.add .cell0)=X:=
  fun h=>q_seq s1 (q_seq s2 h)
 have len4:=q_len (K:=Kn) (n:=n+42) (b:=b) (k:=k+2) g4
 have hrl:(refs (offer [] rows)).length=(offer [] rows).length:=List.length_map _
 by_cases hgt:1<(offer [] rows).length
 ·have hcmp:cmpV P aX .Gt (.int (refs (offer [] rows)).length) (.int 1)=.ok true aX:=congrArg (fun z=>Mine.R.ok z _) ((ltI_iff _ _).mpr (by rw[hrl];omega))
  have co:=fun p1 p2 p3 p4 p5 p6=>comp_over (n:=n+33) (k:=k+1) (p1:=p1) (p2:=p2) (p3:=p3) (p4:=p4) (p5:=p5) (p6:=p6) (c:=⟨k+2,b,ownKd ⟨k+2,b,d_look_up.kd,[(k_around,J.n)]⟩ [(k_dot0,.local),(k_entity,.local),(k_is_overloadable,.globalImplicit)],[]⟩) (l:=lo) rfl rfl rfl g4 (offer [] rows) 0 (n+43) [] [] rfl (by omega) hX (by simp;exact Nat.le_trans hlX (Nat.le_trans h5 (by decide)))
  simp only[List.nil_append] at co
  have hne:(refs (offer [] rows)).isEmpty=false:=by
   induction hq:offer [] rows using List.casesOn with
   | nil=>rw[hq] at hgt;simp at hgt
   | cons y r=>rfl
  have ne:cmpV P ((aX.add (.list (refs (offer [] rows)))).add (.list [])) .NotEq (.ref aX.n) (.ref (aX.n+1))=.ok true ((aX.add (.list (refs (offer [] rows)))).add (.list [])):=by
   have q:=q_eqNil (ws:=[]) (J:=(aX.add (.list (refs (offer [] rows)))).add (.list [])) (l:=aX.n) (j:=aX.n+1) (get_old (get_new aX _) (by rw[Store.n_add];exact Nat.lt_succ_self _)) (get_new (aX.add _) _)
   exact bdq q (congrArg (fun z=>Mine.R.ok (nb z) _) hne)
  refine⟨_,f,q_fn (d:=d_look_up) (cs:=[(k_around,J.n)]) rfl rfl rfl rfl rfl ⟨_,key (q_seqR (q_ifT (q_tAnd (q_tAndT (q_tCmp (q_call rfl (q_glob rfl rfl) (q_evs (q_loc rfl rfl) q_evs_nil) len4) q_int hcmp)
   (q_tAndT (q_tCmp (q_comp (cs:=[]) rfl rfl (q_loc rfl rfl) (q_iterL g4) (co _ _ _ _ _ _)) (q_list q_evs_nil rfl) ne) q_tB_nil))) (q_seqR (q_ret (q_loc rfl rfl)))))⟩,(e03.add' _).add' _,by exact Nat.le_trans (Nat.le_add_right _ _) lf,?_,?_⟩
  ·have:=B3 _ _ f3
   simp only[Store.n_add];exact Nat.lt_succ_of_le (Nat.le_add_right_of_le (Nat.le_of_lt this))
  ·unfold lookR
   rw[if_pos hgt]
   have:=B3 _ _ f3
   exact get_old (get_old f3 (by exact this)) (by simp only[Store.n_add];exact Nat.lt_succ_of_le (Nat.le_of_lt this))
 ·have hcmp:cmpV P aX .Gt (.int (refs (offer [] rows)).length) (.int 1)=.ok false _:=cmpF (f:=fun z=>Mine.R.ok z _) fun hq=>by rw[ltI_iff,hrl] at hq;omega
  have co:∀ p1 p2 p3 p4 p5 p6 p7,compL (E (n+44)) ⟨k+2,b,ownKd ⟨k+2,b,d_look_up.kd,[(k_around,J.n)]⟩ [(k_dot0,.local),(k_entity,.local),(k_is_hidden,.globalImplicit),(k_around,.free)],[(k_around,J.n)]⟩ (.name k_entity p1) (.nm k_entity p2) [.not_ (.call (.name k_is_hidden p3) [.name k_entity p4,.name k_around p5] p6) p7] false (.list lo) (n+44) 0 [] [] aX=.ok (refs (offer [] rows)) aX:=by
   intro p1 p2 p3 p4 p5 p6 p7
   induction hq:offer [] rows using List.casesOn with
   | nil=>rw[hq] at g4;exact q_compEnd (by rw[q_nextL g4];rfl)
   | cons y r=>
    have hr:r=[]:=by
     rw[hq] at hgt
     induction r using List.casesOn with
     | nil=>rfl
     | cons z r=>simp at hgt
    subst hr
    rw[hq] at g4 h7
    have hno:theOne os=none:=h7.elim id fun z=>by cases z
    rw[hno] at a3
    exact q_compT (by rw[q_nextL g4];rfl) rfl (q_tAndT (q_tNot (b:=false) (q_tCall (q_call rfl (q_glob rfl rfl) (q_evs (q_loc rfl rfl) (q_evs (q_cell rfl rfl c3) q_evs_nil)) (is_hidden_nil a3)))) q_tB_nil) (q_loc rfl rfl) rfl (q_compEnd (by rw[q_nextL g4];rfl))
  have hfl:(oneOf (theOne os)).length<=1:=by cases theOne os<;>simp[oneOf]
  have lf3:=B3 _ _ f3
  refine⟨_,aX.n+1,q_fn (d:=d_look_up) (cs:=[(k_around,J.n)]) rfl rfl rfl rfl rfl ⟨_,key (q_seq (q_ifF (q_tAnd (q_tAndF (q_tCmp (q_call rfl (q_glob rfl rfl) (q_evs (q_loc rfl rfl) q_evs_nil) len4) q_int hcmp))) q_end)
   (q_seqR (q_ret (q_bin (q_loc rfl rfl) (q_comp (cs:=[(k_around,J.n)]) rfl rfl (q_loc rfl rfl) (q_iterL g4) (co _ _ _ _ _ _ _)) (q_binL (vs:=oneOf (theOne os)) (ws:=refs (offer [] rows)) (get_old f3 lf3) (get_new _ _) (by omega))))))⟩,(e03.add' _).add' _,by have:=e03.n;exact Nat.le_add_right_of_le this,?_,?_⟩
  ·simp only[Store.n_add];exact Nat.lt_succ_self _
  ·unfold lookR
   rw[if_neg hgt]
   exact get_new (aX.add _) _
noncomputable def Num (J:Store) (x:Nat) (i:Int):Prop:=∃ C fs,J.get x=some (.inst C fs)/\lk fs k_number=some (.int i)
theorem add_use_ok {r p lu Cr:Nat} {i:Int} {fs:List (Nat×V)} {U:List (Nat×Int)} (B:BdS J) (h1:J.get r=some (.inst Cr fs)) (h2:lk fs k_uses=some (.ref lu)) (h3:J.get lu=some (.list (refs U))) (hp:Num J p i) (hU:∀ y∈U,Num J y.1 y.2) (hz:U.length<=20) :
  ∃ af,(E (n+40)).call (k+1) b (.top (.ref a_add_use)) [.ref r,.ref p] J=.ok .none af/\ExtU [lu] J af/\af.get lu=some (.list (refs (addE U (p,i)))):=by
 have l1:=B _ _ h1
 have l3:=B _ _ h3
 have e1:Ext J ((J.add .cell0).set J.n (.cell (.ref p))):=((Ext.add J _).set' (Nat.le_refl _) (by rw[Store.n_add];exact Nat.lt_succ_self _) _)
 have c1:((J.add .cell0).set J.n (.cell (.ref p))).get J.n=some (.cell (.ref p)):=get_upd _ _ _
 have n1:((J.add .cell0).set J.n (.cell (.ref p))).n=J.n+1:=rfl
 have hb:bindPs ⟨k,b,d_add_use.kd,[(k_package,J.n)]⟩ d_add_use.ps [.ref r,.ref p] [] (J.add .cell0)=some ([(k_region,.ref r)],(J.add .cell0).set J.n (.cell (.ref p))):=
  bindq (xs:=[k_package]) (storeN_local rfl) (bindq (xs:=[]) (store_cell rfl rfl (.inl (get_new J .cell0))) rfl)
 generalize (J.add .cell0).set J.n (.cell (.ref p))=τ at e1 c1 n1 hb
 have t1:=e1.at B h1
 have t3:=e1.at B h3
 have hq:∀ {x i},Num J x i->Num τ x i:=fun ⟨C,fs,a,d⟩=>⟨C,fs,e1.at B a,d⟩
 have cs:=fun p1 p2 p3 p4 p5 p6 p7=>comp_same (p1:=p1) (p2:=p2) (p3:=p3) (p4:=p4) (p5:=p5) (p6:=p6) (p7:=p7) (n:=n+31) (c:=⟨k,b,ownKd ⟨k,b,d_add_use.kd,[(k_package,J.n)]⟩ [(k_dot0,.local),(k_other,.local),(k_package,.free)],[(k_package,J.n)]⟩) (o:=k_other) (ent:=k_package) (τ:=τ) (l:=lu) (a:=J.n) (x:=p) (i0:=i) (all:=refs U)
  rfl rfl rfl c1 (hq hp) t3 U 0 (n+36) [] [] rfl (by omega) (fun z hz=>hq (hU z hz)) (by simp;exact Nat.le_trans hz (by decide))
 have lr:r<τ.n:=by rw[n1];exact Nat.lt_succ_of_le (Nat.le_of_lt l1)
 have llu:lu<τ.n:=by rw[n1];exact Nat.lt_succ_of_le (Nat.le_of_lt l3)
 unfold addE
 induction hF:U.filter fun z=>eqI z.2 i using List.casesOn with
 | nil=>
  simp only[hF] at cs
  refine⟨_,q_fnN (d:=d_add_use) (cs:=[(k_package,J.n)]) rfl rfl rfl rfl hb ⟨_,q_seq (q_ifT (q_tCmp (q_comp (cs:=[(k_package,J.n)]) rfl rfl (q_attr (q_loc rfl rfl) t1 h2) (q_iterL t3) (cs _ _ _ _ _ _ _)) (q_list q_evs_nil rfl) (q_eqNil (ws:=[]) (get_old (get_new _ _) (by simp only[Store.n_add];exact Nat.lt_succ_self _)) (get_new _ _)))
   (q_seq (q_expr rfl (q_meth (b:=.append) rfl rfl (q_attr (q_loc rfl rfl) (get_old (get_old t1 lr) (by simp only[Store.n_add];exact Nat.lt_succ_of_le (Nat.le_of_lt lr))) h2) (get_old (get_old t3 llu) (by simp only[Store.n_add];exact Nat.lt_succ_of_le (Nat.le_of_lt llu))) rfl rfl (q_evs (q_cell (v:=.ref p) rfl rfl (get_old (get_old c1 (by rw[n1];exact Nat.lt_succ_self _)) (by simp only[Store.n_add];rw[n1];exact Nat.lt_succ_of_le (Nat.le_add_right _ _)))) q_evs_nil) (q_append (get_old (get_old t3 llu) (by simp only[Store.n_add];exact Nat.lt_succ_of_le (Nat.le_of_lt llu))) (by simp[refs];exact Nat.le_trans hz (by decide))))) q_end)) q_end⟩,
   ExtU.set (((e1.add' _).add' _).toU _) (.inl (.head _)) (by simp only[Store.n_add];exact Nat.lt_succ_of_le (Nat.le_add_right_of_le (Nat.le_of_lt llu))) _,?_⟩
  rw[refs_app];exact get_upd _ _ _
 | cons z zs=>
  simp only[hF] at cs
  refine⟨_,q_fnN (d:=d_add_use) (cs:=[(k_package,J.n)]) rfl rfl rfl rfl hb ⟨_,q_seq (q_ifF (q_tCmp (q_comp (cs:=[(k_package,J.n)]) rfl rfl (q_attr (q_loc rfl rfl) t1 h2) (q_iterL t3) (cs _ _ _ _ _ _ _)) (q_list q_evs_nil rfl) (q_eqNil (ws:=[]) (get_old (get_new _ _) (by simp only[Store.n_add];exact Nat.lt_succ_self _)) (get_new _ _))) q_end) q_end⟩,
   ((e1.add' _).add' _).toU _,?_⟩
  exact get_old (get_old t3 llu) (by simp only[Store.n_add];exact Nat.lt_succ_of_le (Nat.le_of_lt llu))
end
end L1
theorem q_subT {J:Store} {l:Nat} {vs:List V} {i:Int} {v:V} (h:J.get l=some (.tup vs)) (h2:nthI vs i=some v):subV J (.ref l) (.int i)=.ok v J:=by
 exact ocq h (ocq h2 rfl)
theorem q_subL {J:Store} {l:Nat} {vs:List V} {i:Int} {v:V} (h:J.get l=some (.list vs)) (h2:nthI vs i=some v):subV J (.ref l) (.int i)=.ok v J:=by
 exact ocq h (ocq h2 rfl)
theorem q_inL {P:Pr} {J:Store} {l:Nat} {vs:List V} {s:List Nat} {b:Bool} (h:J.get l=some (.list vs)) (h2:memStr J vs s=.ok b J):isIn P J (.str s) (.ref l)=.ok b J:=ocq h h2
namespace L1
section
variable {n k l j:Nat} {b:Bool} {J af ad aq:Store} {v u:V} {vs ws:List V}
theorem NCh.ext {s:List Nat} {τ:Store} (B:BdS J) (e:Ext J τ) {pl:V} {os:List (Option Nat)} (h:NCh J s pl os):NCh τ s pl os:=by
 induction h with
 | nil=>exact .nil
 | cons a _ ih=>
  obtain⟨C,fs,d,ds,r1,q2,r3,q4,q5⟩:=a
  refine .cons ⟨C,fs,d,ds,e.at B r1,q2,e.at B r3,q4,?_⟩ ih
  split at q5
  ·exact q5
  ·obtain⟨le,a1,a2,a3⟩:=q5
   exact⟨le,a1,e.at B a2,a3.ext B e⟩
theorem Ch.ext {s:List Nat} {τ:Store} (B:BdS J) (e:Ext J τ) {pl:V} {rows:List (List (Nat×Option (Nat×Int)))} (h:Ch J s pl rows):Ch τ s pl rows:=by
 induction h with
 | nil=>exact .nil
 | cons a1 a2 a3 a4 a5 a6 a7 _ ih=>exact .cons (e.at B a1) a2 (e.at B a3) a4 (e.at B a5) a6 (fun q hq=>(a7 q hq).ext B e) ih
structure LookAt (J:Store) (s:List Nat) (pl:V) (p:Nat):Prop where
 at_:∃ os rows,NCh J s pl os/\once os/\os.length<=15/\Ch J s pl rows/\(rows.map List.length).sum<=30/\rows.length<=15/\theOne os=some p/\offer [] rows=[]
theorem LookAt.ext {s:List Nat} {pl:V} {p:Nat} {τ:Store} (h:LookAt J s pl p) (B:BdS J) (e:Ext J τ):LookAt τ s pl p:=by
 obtain⟨os,rows,a1,a2,a3,a4,a5⟩:=h.at_
 exact⟨os,rows,a1.ext B e,a2,a3,a4.ext B e,a5⟩
theorem LookAt.run {s:List Nat} {pl:V} {p:Nat} (h:LookAt J s pl p) (B:BdS J):∃ af l,(E (n+48)).call (k+3) b (.top (.ref a_look_up)) [pl,.str s] J=.ok (.ref l) af/\Ext J af/\J.n<=l/\l<af.n/\af.get l=some (.list [.ref p]):=by
 obtain⟨os,rows,a1,a2,a3,a4,a5,a6,a7,a8⟩:=h.at_
 obtain⟨af,l,r,e,h1,h2,h3⟩:=look_up_ok (n:=n) (k:=k) (b:=b) B a1 a2 a3 a4 a5 a6 (.inr a8)
 refine⟨af,l,r,e,h1,h2,?_⟩
 rw[h3]
 unfold lookR
 rw[a8,a7]
 rfl
theorem named_ok {sc nd C:Nat} {fs:List (Nat×V)} {pl:V} {s:List Nat} {p:Nat} (B:BdS J) (h1:J.get sc=some (.inst C fs)) (h2:lk fs k_place=some pl) (h3:J.get nd=some (.tup [.str (sy k_name),.str s])) (h:LookAt J s pl p) :
  ∃ af l,(E (n+52)).call (k+4) b (.top (.ref a_named_entities)) [.ref sc,.ref nd] J=.ok (.ref l) af/\Ext J af/\J.n<=l/\l<af.n/\af.get l=some (.list [.ref p]):=by
 obtain⟨af,l,r,e,hl,hl2,hg⟩:=h.run (n:=n) (k:=k) (b:=b) B
 refine⟨af,l,q_fn (d:=d_named_entities) (cs:=[]) rfl rfl rfl rfl rfl ⟨_,q_seqR (q_ifT (q_tCmp (q_sub (q_loc rfl rfl) q_int (q_subT h3 rfl)) q_str rfl) (q_seqR (q_ret (q_call rfl (q_glob rfl rfl) (q_evs (q_attr (q_loc rfl rfl) h1 h2) (q_evs (q_sub (q_loc rfl rfl) q_int (q_subT h3 rfl)) q_evs_nil)) ?_))))⟩,e,hl,hl2,hg⟩
 exact r
theorem one_ok {sc nd kl C C':Nat} {fs gs:List (Nat×V)} {pl:V} {s w:List Nat} {p:Nat} (B:BdS J) (h1:J.get sc=some (.inst C fs)) (h2:lk fs k_place=some pl) (h3:J.get nd=some (.tup [.str (sy k_name),.str s])) (h:LookAt J s pl p)
  (h4:J.get kl=some (.list [.str w])) (h5:J.get p=some (.inst C' gs)) (h6:lk gs k_kind=some (.str w)) (h7:memS [w] w=true) :
  ∃ af,(E (n+56)).call (k+5) b (.top (.ref a_one_entity)) [.ref sc,.ref nd,.ref kl] J=.ok (.ref p) af/\Ext J af:=by
 have e1:Ext J ((J.add .cell0).set J.n (.cell (.ref kl))):=((Ext.add J _).set' (Nat.le_refl _) (by rw[Store.n_add];exact Nat.lt_succ_self _) _)
 have c1:((J.add .cell0).set J.n (.cell (.ref kl))).get J.n=some (.cell (.ref kl)):=get_upd _ _ _
 have n1:((J.add .cell0).set J.n (.cell (.ref kl))).n=J.n+1:=rfl
 have hb:bindPs ⟨k+4,b,d_one_entity.kd,[(k_kinds,J.n)]⟩ d_one_entity.ps [.ref sc,.ref nd,.ref kl] [] (J.add .cell0)=some ([(k_scope,.ref sc),(k_node,.ref nd)],(J.add .cell0).set J.n (.cell (.ref kl))):=
  bindq (xs:=[k_node,k_kinds]) (storeN_local rfl) (bindq (xs:=[k_kinds]) (storeN_local rfl) (bindq (xs:=[]) (store_cell rfl rfl (.inl (get_new J .cell0))) rfl))
 generalize (J.add .cell0).set J.n (.cell (.ref kl))=τ at e1 c1 n1 hb
 have cu:=e1.bd B
 obtain⟨aM,l,r,e2,hl,hl2,hg⟩:=named_ok (n:=n) (k:=k) (b:=b) cu (e1.at B h1) h2 (e1.at B h3) (h.ext B e1)
 have e12:=e1.trans e2
 have c2:=e2.at cu c1
 have k2:=e12.at B h4
 have p2:=e12.at B h5
 have co:∀ p1 p2 p3 p4 p5 p6,compL (E (n+53)) ⟨k+4,b,ownKd ⟨k+4,b,d_one_entity.kd,[(k_kinds,J.n)]⟩ [(k_dot0,.local),(k_entity,.local),(k_kinds,.free)],[(k_kinds,J.n)]⟩ (.name k_entity p1) (.nm k_entity p2) [.cmp (.attr (.name k_entity p3) k_kind p4) .In (.name k_kinds p5) p6] false (.list l) (n+53) 0 [] [] aM=.ok [.ref p] aM:=
  fun p1 p2' p3 p4 p5 p6=>q_compT (v:=.ref p) (r:=(putL [] k_entity (.ref p),aM)) (by rw[q_nextL hg];rfl) rfl (q_tAndT (q_tCmp (q_attr (q_loc rfl rfl) p2 h6) (q_cell rfl rfl c2) (q_inL (P:=P) k2 (congrArg (fun z=>Mine.R.ok z _) h7))) q_tB_nil) (q_loc rfl rfl) rfl (q_compEnd (by rw[q_nextL hg];rfl))
 refine⟨_,q_fn (d:=d_one_entity) (cs:=[(k_kinds,J.n)]) rfl rfl rfl rfl hb ⟨_,q_seq (q_asg (q_comp (cs:=[(k_kinds,J.n)]) rfl rfl (q_call rfl (q_glob rfl rfl) (q_evs (q_loc rfl rfl) (q_evs (q_loc rfl rfl) q_evs_nil)) r) (q_iterL hg) (co _ _ _ _ _ _)) rfl)
  (q_seq (q_ifF (q_tCmp (q_call rfl (q_glob rfl rfl) (q_evs (q_loc rfl rfl) q_evs_nil) (q_len (get_new _ _))) q_int rfl) q_end) (q_seqR (q_ret (q_sub (q_loc rfl rfl) q_int (q_subL (get_new _ _) rfl)))))⟩,e12.add' _⟩
theorem declare_use_ok {sc dc dl nd C C' Cr r lu p:Nat} {fs gs rs:List (Nat×V)} {x y:V} {s:List Nat} {i:Int} {U:List (Nat×Int)} (B:BdS J) (h1:J.get sc=some (.inst C fs)) (h2:lk fs k_place=some (.ref r)) (h0:J.get dc=some (.tup [x,y,.ref dl])) (h0':J.get dl=some (.list [.ref nd])) (h3:J.get nd=some (.tup [.str (sy k_name),.str s])) (h:LookAt J s (.ref r) p)
  (h5:J.get p=some (.inst C' gs)) (h6:lk gs k_kind=some (.str (sy k_package))) (h7:lk gs k_number=some (.int i)) (r1:J.get r=some (.inst Cr rs)) (r2:lk rs k_uses=some (.ref lu)) (r3:J.get lu=some (.list (refs U))) (hU:∀ z∈U,Num J z.1 z.2) (hz:U.length<=20) :
  ∃ af l,(E (n+60)).call (k+6) b (.top (.ref a_declare_use)) [.ref sc,.ref dc] J=.ok (.ref l) af/\ExtU [lu] J af/\af.get lu=some (.list (refs (addE U (p,i)))):=by
 have e1:Ext J ((J.add .cell0).set J.n (.cell (.ref sc))):=((Ext.add J _).set' (Nat.le_refl _) (by rw[Store.n_add];exact Nat.lt_succ_self _) _)
 have c1:((J.add .cell0).set J.n (.cell (.ref sc))).get J.n=some (.cell (.ref sc)):=get_upd _ _ _
 have n1:((J.add .cell0).set J.n (.cell (.ref sc))).n=J.n+1:=rfl
 have hb:bindPs ⟨k+5,b,d_declare_use.kd,[(k_scope,J.n)]⟩ d_declare_use.ps [.ref sc,.ref dc] [] (J.add .cell0)=some ([(k_declaration,.ref dc)],(J.add .cell0).set J.n (.cell (.ref sc))):=
  bindq (xs:=[k_declaration]) (store_cell rfl rfl (.inl (get_new J .cell0))) (bindq (xs:=[]) (storeN_local rfl) rfl)
 generalize (J.add .cell0).set J.n (.cell (.ref sc))=τ at e1 c1 n1 hb
 have cu:=e1.bd B
 have e2:Ext τ (τ.add (.list [.str (sy k_package)])):=Ext.add _ _
 have e12:=e1.trans e2
 have B2:=e2.bd cu
 obtain⟨bp,ro,e3⟩:=one_ok (n:=n) (k:=k) (b:=b) (kl:=τ.n) B2 (e12.at B h1) h2 (e12.at B h3) (h.ext B e12) (get_new _ _) (e12.at B h5) h6 rfl
 have e13:=e12.trans e3
 have B3:=e3.bd B2
 have c2:=e3.at B2 (e2.at cu c1)
 have co:∀ p1 p2 p3 p4 p5 p6 p7,compL (E (n+57)) ⟨k+5,b,ownKd ⟨k+5,b,d_declare_use.kd,[(k_scope,J.n)]⟩ [(k_dot0,.local),(k_node,.local),(k_one_entity,.globalImplicit),(k_scope,.free)],[(k_scope,J.n)]⟩
   (.call (.name k_one_entity p1) [.name k_scope p2,.name k_node p3,.list [.cstr k_package 0 p4] p5] p6) (.nm k_node p7) [] false (.list dl) (n+57) 0 [] [] τ=.ok [.ref p] bp:=
  fun p1 p2 p3 p4 p5 p6 p7=>q_compT (v:=.ref nd) (r:=(putL [] k_node (.ref nd),τ)) (by rw[q_nextL (e1.at B h0')];rfl) rfl q_tB_nil (q_call rfl (q_glob rfl rfl) (q_evs (q_cell rfl rfl c1) (q_evs (q_loc rfl rfl) (q_evs (q_list (q_evs q_str q_evs_nil) rfl) q_evs_nil))) ro) rfl (q_compEnd (by rw[q_nextL (e3.at B2 (e2.at cu (e1.at B h0')))];rfl))
 have e4:=e13.add' (.list [.ref p])
 have B4:=e4.bd B
 obtain⟨cA,ra,e5,g5⟩:=add_use_ok (n:=n+16) (k:=k+4) (b:=b) B4 (e4.at B r1) r2 (e4.at B r3) ⟨C',gs,e4.at B h5,h7⟩ (fun z hz=>by obtain⟨D,ds,d1,d2⟩:=hU z hz;exact⟨D,ds,e4.at B d1,d2⟩) hz
 have elu:bp.n∉[lu]:=by
  have:=B _ _ r3
  have:=e13.n
  simp;omega
 have c5:=get_old (o:=.list [.ref p]) c2 (B3 _ _ c2)
 have sc5:=e4.at B h1
 refine⟨_,cA.n,q_fn (d:=d_declare_use) (cs:=[(k_scope,J.n)]) rfl rfl rfl rfl hb ⟨_,q_seq (q_for (q_comp (cs:=[(k_scope,J.n)]) rfl rfl (q_sub (q_loc rfl rfl) q_int (q_subT (e1.at B h0) rfl)) (q_iterL (e1.at B h0')) (co _ _ _ _ _ _ _)) (q_iterL (get_new _ _))
  (q_forGo (v:=.ref p) (r:=(putL [(k_declaration,.ref dc)] k_entity (.ref p),_)) (by rw[q_nextL (get_new _ _)];rfl) rfl (q_seq (q_expr rfl (q_call rfl (q_glob rfl rfl) (q_evs (q_attr (q_cell rfl rfl c5) sc5 h2) (q_evs (q_loc rfl rfl) q_evs_nil)) ra)) q_end)
   (q_forEnd (by rw[q_nextL (e5.at B4 (get_new _ _) elu)];rfl)))) (q_seqR (q_ret (q_list q_evs_nil rfl)))⟩,(e4.toU _).trans (e5.trans ((Ext.add _ _).toU _)),?_⟩
 have:=(e5.bd B4) _ _ g5
 exact get_old g5 this
end
end L1
theorem q_subD {J:Store} {l:Nat} {es:List (List Nat×V)} {s:List Nat} {v:V} (h:J.get l=some (.dict es)) (h2:lkS es s=some v):subV J (.ref l) (.str s)=.ok v J:=by
 exact ocq h (ocq h2 rfl)
theorem small_mk {i:Int} (h1:-1000000000000<=i) (h2:i<=1000000000000):smallI i=true:=cnq ((leI_iff _ _).mpr h1) ((leI_iff _ _).mpr h2)
theorem q_int2 {J:Store} {i:Int} (h:smallI i=true):okInt i J=.ok (.int i) J:=cnq h rfl
theorem small_of {i:Int} (h1:-1000000000000<=i) (h2:i<=1000000000000):smallI i=true:=small_mk h1 h2
theorem q_addI {J:Store} {i j:Int} (h:smallI (i+j)=true):binV J .Add (.int i) (.int j)=.ok (.int (i+j)) J:=q_int2 h
theorem q_subI {J:Store} {i j:Int} (h:smallI (i - j)=true):binV J .Sub (.int i) (.int j)=.ok (.int (i - j)) J:=q_int2 h
theorem q_mulI {J:Store} {i j:Int} (h0:smallI i=true) (h:smallI (i*j)=true):binV J .Mult (.int i) (.int j)=.ok (.int (i*j)) J:=by
 exact cnq h0 (q_int2 h)
theorem q_modI {J:Store} {i j:Int} (h0:0<j) (h1:j<=1000):binV J .Mod (.int i) (.int j)=.ok (.int (Int.fmod i j)) J:=by
 refine cnq ((ltI_iff _ _).mpr h0) ?_
 have a:=Int.fmod_nonneg_of_pos i h0
 have b:=Int.fmod_lt_of_pos i h0
 exact q_int2 (small_of (by omega) (by omega))
namespace L1
section
variable {n k l j:Nat} {b:Bool} {J af ad aq:Store} {v u:V} {vs ws:List V}
noncomputable abbrev pitO (a lr:Nat):O:=.dict [(sy k_at,.int (a:Int)),(sy k_row,.ref lr)]
noncomputable def digV (ns:List Int) (a:Nat) (sd:Int):Int:=match ns[a]? with
 | some x=>Int.fmod x sd
 | none=>Int.fmod (2*((a:Int)+1)*((a:Int)+1)+((a:Int)+1)+3) sd
theorem dig_ok {pit lr a:Nat} {ns:List Int} {sd:Int} (h1:J.get pit=some (pitO a lr)) (h2:J.get lr=some (.list (ns.map .int))) (hne:lr≠pit) (ha:a<=200) (hs:0<sd/\sd<=1000) (hl:ns.length<=10000) :
  (E (n+20)).call (k+1) b (.top (.ref a__law_lift)) [.ref pit,.int sd] J=.ok (.int (digV ns a sd)) (J.set pit (pitO (a+1) lr)):=by
 have sA:smallI ((a:Int)+1)=true:=small_of (by omega) (by omega)
 have g1:(J.set pit (pitO (a+1) lr)).get pit=some (pitO (a+1) lr):=get_upd _ _ _
 have g2:(J.set pit (pitO (a+1) lr)).get lr=some (.list (ns.map .int)):=get_oth h2 hne
 have s1:(E (n+19)).s ⟨k,b,d__law_lift.kd,[]⟩ [(k_mine,.ref pit),(k_sides,.int sd)] (.aug (.sb (.name k_mine ⟨832,4,832,8⟩) (.cstr k_at 0 ⟨832,9,832,13⟩) ⟨832,4,832,14⟩) .Add (.cint 1 0 ⟨832,18,832,19⟩) ⟨832,4,832,19⟩) J=.nxt [(k_mine,.ref pit),(k_sides,.int sd)] (J.set pit (pitO (a+1) lr)):=by
  refine q_augS (z:=.none) (v:=.ref pit) (u:=.str (sy k_at)) (a:=.int a) (w:=.int 1) (y:=.int ((a:Int)+1)) (q_loc rfl rfl) q_str (q_subD h1 rfl) q_int (show augV J .Add _ _=_ from q_int2 sA) ?_
  exact ocq h1 rfl
 have la:∀ {m:Nat} p1 p2 p3,(E (m+2)).e ⟨k,b,d__law_lift.kd,[]⟩ [(k_mine,.ref pit),(k_sides,.int sd)] (.sub (.name k_mine p1) (.cstr k_at 0 p2) p3) (J.set pit (pitO (a+1) lr))=.ok (.int ((a:Int)+1)) (J.set pit (pitO (a+1) lr)):=
  fun p1 p2 p3=>q_sub (q_loc rfl rfl) q_str (q_subD g1 rfl)
 have lrw:∀ {m:Nat} p1 p2 p3,(E (m+2)).e ⟨k,b,d__law_lift.kd,[]⟩ [(k_mine,.ref pit),(k_sides,.int sd)] (.sub (.name k_mine p1) (.cstr k_row 0 p2) p3) (J.set pit (pitO (a+1) lr))=.ok (.ref lr) (J.set pit (pitO (a+1) lr)):=
  fun p1 p2 p3=>q_sub (q_loc rfl rfl) q_str (q_subD g1 rfl)
 have hlen:(ns.map V.int).length=ns.length:=List.length_map _
 unfold digV
 by_cases hle:a<ns.length
 ·have hcmp:cmpV P (J.set pit (pitO (a+1) lr)) .LtE (.int ((a:Int)+1)) (.int (ns.map V.int).length)=.ok true (J.set pit (pitO (a+1) lr)):=congrArg (fun z=>Mine.R.ok z _) ((leI_iff _ _).mpr (by rw[hlen];omega))
  have hx:ns[a]?=some ns[a]:=List.getElem?_eq_getElem hle
  rw[hx]
  dsimp only
  have hi:nthI (ns.map V.int) ((a:Int)+1 - 1)=some (.int ns[a]):=by
   rw[show(a:Int)+1 - 1=Int.ofNat a from by simp]
   exact ocq (cnq (PySem.W.Z.blt_iff.mpr (by rw[hlen];exact hle)) rfl) ((nth_eq ..).trans (by rw[List.getElem?_map,hx];rfl))
  exact q_fn (d:=d__law_lift) (cs:=[]) rfl rfl rfl rfl rfl ⟨_,q_seq s1 (q_seqR (q_ifT (q_tCmp (la _ _ _) (q_call rfl (q_glob rfl rfl) (q_evs (lrw _ _ _) q_evs_nil) (q_len g2)) hcmp) (q_seqR (q_ret (q_bin (q_sub (lrw _ _ _) (q_bin (la _ _ _) q_int (q_subI (small_of (by omega) (by omega)))) (q_subL g2 hi)) (q_loc rfl rfl) (q_modI hs.1 hs.2))))))⟩
 ·have hcmp:cmpV P (J.set pit (pitO (a+1) lr)) .LtE (.int ((a:Int)+1)) (.int (ns.map V.int).length)=.ok false _:=cmpF (f:=fun z=>Mine.R.ok z _) fun hq=>by rw[leI_iff,hlen] at hq;omega
  rw[List.getElem?_eq_none (by exact Nat.not_lt.mp hle)]
  dsimp only
  have hm:2*((a:Int)+1)*((a:Int)+1)<=402*201:=Int.mul_le_mul (by omega) (by omega) (by omega) (by omega)
  have hm0:0<=2*((a:Int)+1)*((a:Int)+1):=Int.mul_nonneg (by omega) (by omega)
  exact q_fn (d:=d__law_lift) (cs:=[]) rfl rfl rfl rfl rfl ⟨_,q_seq s1 (q_seq (q_ifF (q_tCmp (la _ _ _) (q_call rfl (q_glob rfl rfl) (q_evs (lrw _ _ _) q_evs_nil) (q_len g2)) hcmp) q_end)
   (q_seqR (q_ret (q_bin (q_bin (q_bin (q_bin (q_bin q_int (la _ _ _) (q_mulI rfl (small_of (by omega) (by omega)))) (la _ _ _) (q_mulI (small_of (by omega) (by omega)) (small_of (by omega) (by omega)))) (la _ _ _) (q_addI (small_of (by omega) (by omega)))) q_int (q_addI (small_of (by omega) (by omega)))) (q_loc rfl rfl) (q_modI hs.1 hs.2)))))⟩
end
end L1
namespace L1
section
variable {n k l j:Nat} {b:Bool} {J af ad aq:Store} {v u:V} {vs ws:List V}
structure Geo where
 pit:Nat
 lr:Nat
 sc:Nat
 pls:Nat
 us:Nat
 r0:Nat
 r1:Nat
 lu0:Nat
 lu1:Nat
 w0:Nat
 w1:Nat
 pk:List Nat->Nat×Int
noncomputable abbrev abc:List (List Nat):=[[97],[98],[99]]
noncomputable abbrev Geo.D (g:Geo):List Nat:=[g.pit,g.sc,g.lu0,g.lu1,g.w0,g.w1]
noncomputable def PkgD (D:List Nat) (J:Store) (s:List Nat) (p:Nat):Prop:=
 ∃ C fs q C' gs d ds,J.get p=some (.inst C fs)/\lk fs k_region=some (.ref q)/\lk fs k_data=some .none/\J.get q=some (.inst C' gs)/\lk gs k_names=some (.ref d)/\J.get d=some (.dict ds)/\lkS ds s=none/\p∉D/\q∉D/\d∉D
theorem PkgD.pkg {D:List Nat} {s:List Nat} {p:Nat} (h:PkgD D J s p):Pkg J s p none:=by
 obtain⟨C,fs,q,C',gs,d,ds,h1,h2,h3,h4,h5,h6,h7,_⟩:=h
 exact⟨C,fs,q,C',gs,d,ds,h1,h2,h3,h4,h5,h6,h7⟩
theorem PkgD.ext {D:List Nat} {s:List Nat} {p:Nat} (h:PkgD D J s p) (B:BdS J) (e:ExtU D J af):PkgD D af s p:=by
 obtain⟨C,fs,q,C',gs,d,ds,h1,h2,h3,h4,h5,h6,h7,d1,d2,d3⟩:=h
 exact⟨C,fs,q,C',gs,d,ds,e.at B h1 d1,h2,h3,e.at B h4 d2,h5,e.at B h6 d3,h7,d1,d2,d3⟩
noncomputable def Reg (D:List Nat) (J:Store) (r lu:Nat) (par:V) (o:List Nat->Option Nat):Prop:=
 ∃ C fs lt d ds,J.get r=some (.inst C fs)/\lk fs k_uses=some (.ref lu)/\lk fs k_use_types=some (.ref lt)/\J.get lt=some (.list [])/\lk fs k_parent=some par/\lk fs k_names=some (.ref d)/\J.get d=some (.dict ds)/\r∉D/\lt∉D/\d∉D /\
  ∀ s∈abc,match o s with|none=>lkS ds s=none|some x=>∃ le,lkS ds s=some (.ref le)/\J.get le=some (.list [.ref x])/\le∉D
theorem Reg.ext {D:List Nat} {r lu:Nat} {par:V} {o:List Nat->Option Nat} (h:Reg D J r lu par o) (B:BdS J) (e:ExtU D J af):Reg D af r lu par o:=by
 obtain⟨C,fs,lt,d,ds,h1,h2,h3,h4,h5,h6,h7,d1,d2,d3,h8⟩:=h
 refine⟨C,fs,lt,d,ds,e.at B h1 d1,h2,h3,e.at B h4 d2,h5,h6,e.at B h7 d3,d1,d2,d3,fun s hs=>?_⟩
 have:=h8 s hs
 split at this
 ·exact this
 ·obtain⟨le,a1,a2,a3⟩:=this
  exact⟨le,a1,e.at B a2 a3,a3⟩
noncomputable def PkE (D:List Nat) (J:Store) (s:List Nat) (p:Nat) (i:Int):Prop:=
 ∃ C fs,J.get p=some (.inst C fs)/\lk fs k_kind=some (.str (sy k_package))/\lk fs k_number=some (.int i)/\lk fs k_name=some (.str s)/\lk fs k_is_ready=some (.bool true)/\lk fs k_is_overridden=some (.bool false)/\p∉D
structure Stat (g:Geo) (J:Store):Prop where
 reg0:Reg g.D J g.r0 g.lu0 .none fun s=>some (g.pk s).1
 reg1:Reg g.D J g.r1 g.lu1 (.ref g.r0) fun _=>none
 pke:∀ s∈abc,PkE g.D J s (g.pk s).1 (g.pk s).2
 pkd:∀ s∈abc,∀ t∈abc,PkgD g.D J t (g.pk s).1
 pls:J.get g.pls=some (.list [.ref g.r0,.ref g.r1])
 us:J.get g.us=some (.list [.ref g.w0,.ref g.w1])
 d1:g.pls∉g.D
 d2:g.us∉g.D
theorem Stat.ext {g:Geo} (h:Stat g J) (B:BdS J) (e:ExtU g.D J af):Stat g af:=
 ⟨h.reg0.ext B e,h.reg1.ext B e,fun s hs=>by obtain⟨C,fs,a,r,t,u,w,y,d⟩:=h.pke s hs;exact⟨C,fs,e.at B a d,r,t,u,w,y,d⟩,fun s hs t ht=>(h.pkd s hs t ht).ext B e,e.at B h.pls h.d1,e.at B h.us h.d2,h.d1,h.d2⟩
noncomputable def UOk (g:Geo) (U:List (Nat×Int)):Prop:=∀ y∈U,∃ s∈abc,y=g.pk s
theorem refs_none (U:List (Nat×Int)):refs U=(U.map fun y=>((y.1,none):Nat×Option (Nat×Int))).map fun q=>.ref q.1:=by
 unfold refs;rw[List.map_map];rfl
theorem xsP_none (U:List (Nat×Int)):xsP (U.map fun y=>((y.1,none):Nat×Option (Nat×Int)))=[]:=by
 induction U with
 | nil=>rfl
 | cons y r ih=>simpa [xsP] using ih
theorem Stat.look0 {g:Geo} {U0:List (Nat×Int)} {s:List Nat} (h:Stat g J) (hs:s∈abc) (l0:J.get g.lu0=some (.list (refs U0))) (o0:UOk g U0) (z0:U0.length<=13):LookAt J s (.ref g.r0) (g.pk s).1:=by
 obtain⟨C,fs,lt,d,ds,h1,h2,h3,h4,h5,h6,h7,_,_,_,h8⟩:=h.reg0
 obtain⟨le,a1,a2,_⟩:=h8 s hs
 obtain⟨C',gs,b1,b2,b3,b4,b5,b6,_⟩:=h.pke s hs
 refine⟨[some (g.pk s).1],[U0.map fun y=>(y.1,none)],.cons ⟨C,fs,d,ds,h1,h6,h7,h5,le,a1,a2,C',gs,b1,b5,b6⟩ .nil,(fun o ho=>nomatch ho),by simp,?_,by simp;exact Nat.le_trans z0 (by decide),by simp,rfl,?_⟩
 ·refine .cons h1 h2 (by rw[<-refs_none];exact l0) h3 h4 h5 (fun q hq=>?_) .nil
  obtain⟨y,hy,rfl⟩:=List.mem_map.mp hq
  obtain⟨t,ht,rfl⟩:=o0 y hy
  exact(h.pkd t ht s hs).pkg
 ·simp[offer,xsP_none]
theorem Stat.look1 {g:Geo} {U0 U1:List (Nat×Int)} {s:List Nat} (h:Stat g J) (hs:s∈abc) (l0:J.get g.lu0=some (.list (refs U0))) (o0:UOk g U0) (z0:U0.length<=13) (l1:J.get g.lu1=some (.list (refs U1))) (o1:UOk g U1) (z1:U1.length<=13):LookAt J s (.ref g.r1) (g.pk s).1:=by
 obtain⟨C,fs,lt,d,ds,h1,h2,h3,h4,h5,h6,h7,_,_,_,h8⟩:=h.reg0
 obtain⟨C1,fs1,lt1,d1,ds1,k1,k2,k3,k4,k5,k6,k7,_,_,_,k8⟩:=h.reg1
 obtain⟨le,a1,a2,_⟩:=h8 s hs
 have k9:=k8 s hs
 obtain⟨C',gs,b1,b2,b3,b4,b5,b6,_⟩:=h.pke s hs
 have pk:∀ U:List (Nat×Int),UOk g U->∀ q∈U.map fun y=>((y.1,none):Nat×Option (Nat×Int)),Pkg J s q.1 q.2:=by
  intro U o q hq
  obtain⟨y,hy,rfl⟩:=List.mem_map.mp hq
  obtain⟨t,ht,rfl⟩:=o y hy
  exact(h.pkd t ht s hs).pkg
 refine⟨[none,some (g.pk s).1],[U1.map fun y=>(y.1,none),U0.map fun y=>(y.1,none)],.cons ⟨C1,fs1,d1,ds1,k1,k6,k7,k5,k9⟩ (.cons ⟨C,fs,d,ds,h1,h6,h7,h5,le,a1,a2,C',gs,b1,b5,b6⟩ .nil),(fun o ho=>nomatch ho),by simp,?_,by simp;omega,by simp,rfl,?_⟩
 ·exact .cons k1 k2 (by rw[<-refs_none];exact l1) k3 k4 k5 (pk U1 o1) (.cons h1 h2 (by rw[<-refs_none];exact l0) h3 h4 h5 (pk U0 o0) .nil)
 ·simp[offer,xsP_none]
noncomputable def addS (W:List (List Nat)) (s:List Nat):List (List Nat):=match memS W s with|true=>W|false=>W++[s]
theorem memStr_map (s:List Nat) (W:List (List Nat)):memStr J (W.map .str) s=.ok (memS W s) J:=by
 have:strsOf (W.map .str)=some W:=by
  induction W with
  | nil=>rfl
  | cons w r ih=>exact ocq ih rfl
 exact ocq this rfl
noncomputable def usB:List S:=match b__law_uses with | [.for_ _ _ b _,_]=>b|_=>[]
noncomputable abbrev usC (k:Nat) (b:Bool):Cx:=⟨k+6,b,d__law_uses.kd,[]⟩
structure MOk (g:Geo) (m:M):Prop where
 pit:lk m k_mine=some (.ref g.pit)
 sc:lk m k_scope=some (.ref g.sc)
 pls:lk m k_places=some (.ref g.pls)
 us:lk m k_used=some (.ref g.us)
theorem MOk.put {g:Geo} {m:M} (h:MOk g m) {x:Nat} {v:V} (h1:x≠k_mine) (h2:x≠k_scope) (h3:x≠k_places) (h4:x≠k_used):MOk g (putL m x v):=
 ⟨by rw[lk_pif,if_neg (Ne.symm h1)];exact h.pit,by rw[lk_pif,if_neg (Ne.symm h2)];exact h.sc,by rw[lk_pif,if_neg (Ne.symm h3)];exact h.pls,by rw[lk_pif,if_neg (Ne.symm h4)];exact h.us⟩
theorem turn_gen {g:Geo} {m:M} {a r lu w:Nat} {ns:List Int} {pl wh:Int} {s:List Nat} {fs:List (Nat×V)} {v0:V} {U:List (Nat×Int)} {W:List (List Nat)} {par:V} {o:List Nat->Option Nat} (B:BdS J) (hm:MOk g m) (st:Stat g J)
  (hp:J.get g.pit=some (pitO a g.lr)) (hlr:J.get g.lr=some (.list (ns.map .int))) (dlr:g.lr∉g.D) (ha:a<=190) (hns:ns.length<=10000) (hd1:digV ns a 2=pl) (hd2:digV ns (a+1) 3=wh)
  (hsc:J.get g.sc=some (.inst c_Scope fs)) (hpl:lk fs k_place=some v0) (nsp:g.sc≠g.pit)
  (n1:nthI [V.ref g.r0,.ref g.r1] pl=some (.ref r)) (n2:nthI [V.ref g.w0,.ref g.w1] pl=some (.ref w)) (n3:nthI [97,98,99] wh=some (s.headD 0)) (hs:s∈abc) (hs1:s=[s.headD 0])
  (hreg:Reg g.D J r lu par o) (hl:J.get lu=some (.list (refs U))) (hw:J.get w=some (.list (W.map .str))) (ou:UOk g U) (zu:U.length<=13) (zw:W.length<=50) (hlook:∀ τ,ExtU [g.pit,g.sc] J τ->LookAt τ s (.ref r) (g.pk s).1)
  (e1:lu≠g.pit/\lu≠g.sc/\w≠g.pit/\w≠g.sc/\w≠lu) (e2:lu∈g.D/\w∈g.D) :
  ∃ m' τ,execs (E (n+62)) (usC k b) usB m J=.nxt m' τ/\MOk g m'/\ExtU g.D J τ/\τ.get g.pit=some (pitO (a+2) g.lr)/\τ.get g.sc=some (.inst c_Scope (putL fs k_place (.ref r)))/\τ.get lu=some (.list (refs (addE U (g.pk s))))/\τ.get w=some (.list ((addS W s).map .str)) /\
   ∀ l,l<J.n->l≠g.pit->l≠g.sc->l≠lu->l≠w->τ.get l=J.get l:=by
 obtain⟨e11,e12,e13,e14,e15⟩:=e1
 have lne:g.lr≠g.pit:=fun z=>dlr (by rw[z];exact .head _)
 have lnsc:g.lr≠g.sc:=fun z=>dlr (by rw[z];exact .tail _ (.head _))
 have lp:=B _ _ hp
 have lsc:=B _ _ hsc
 have lll:=B _ _ hl
 have lw:=B _ _ hw
 have D1:=dig_ok (n:=n+39) (k:=k+5) (b:=b) (sd:=2) hp hlr lne (by exact Nat.le_trans ha (by decide)) (by decide) hns
 have D2:=dig_ok (n:=n+38) (k:=k+5) (b:=b) (sd:=3) (a:=a+1) (get_upd J g.pit (pitO (a+1) g.lr)) (get_oth hlr lne) lne (by exact Nat.lt_of_le_of_lt ha (by decide)) (by decide) hns
 rw[hd1] at D1
 rw[hd2] at D2
 have x2:ExtU [g.pit,g.sc] J ((J.set g.pit (pitO (a+1) g.lr)).set g.pit (pitO (a+1+1) g.lr)):=((ExtU.refl _ _).set (.inl (.head _)) lp _).set (.inl (.head _)) lp _
 have p2:((J.set g.pit (pitO (a+1) g.lr)).set g.pit (pitO (a+1+1) g.lr)).get g.pit=some (pitO (a+2) g.lr):=get_upd _ _ _
 have t2n:((J.set g.pit (pitO (a+1) g.lr)).set g.pit (pitO (a+1+1) g.lr)).n=J.n:=rfl
 generalize em:J.set g.pit (pitO (a+1) g.lr)=aM at D1 D2 x2 p2 t2n
 generalize et:aM.set g.pit (pitO (a+1+1) g.lr)=bp at D2 x2 p2 t2n
 have sc2:bp.get g.sc=some (.inst c_Scope fs):=by rw[<-et,<-em];exact get_oth (get_oth hsc nsp) nsp
 have y3:ExtU [g.pit,g.sc] J (bp.add (.tup [.int pl,.str s])):=x2.trans ((Ext.add _ _).toU _)
 have s1:∀ q1 q2 q3 q4 q5 q6 q7 q8 q9 q10 q11 q12 q13 q14 q15,(E (n+62)).s (usC k b) m (.asg (.tp [(k_place,q1),(k_which,q2)] 0 q3) (.tup [(.call (.name k__law_lift q4) [(.name k_mine q5),(.cint 2 0 q6)] q7),(.sub (.cstr k_abc 0 q8) (.call (.name k__law_lift q9) [(.name k_mine q10),(.cint 3 0 q11)] q12) q13)] 0 q14) q15) J
   = .nxt (putL (putL m k_place (.int pl)) k_which (.str s)) (bp.add (.tup [.int pl,.str s])):=by
  intro q1 q2 q3 q4 q5 q6 q7 q8 q9 q10 q11 q12 q13 q14 q15
  refine q_asgT (l:=bp.n) (vs:=[.int pl,.str s]) (ad:=bp.add (.tup [.int pl,.str s])) (r:=(putL (putL m k_place (.int pl)) k_which (.str s),bp.add (.tup [.int pl,.str s]))) rfl (q_tup (ad:=bp) (q_evs (q_call rfl (q_glob rfl rfl) (q_evs (q_loc rfl hm.pit) (q_evs q_int q_evs_nil)) D1) (q_evs (q_sub q_str (q_call rfl (q_glob rfl rfl) (q_evs (q_loc rfl hm.pit) (q_evs q_int q_evs_nil)) D2) ?_) q_evs_nil)) rfl) (get_new _ _) ?_
  ·show cn (lenLe ([97,98,99]:List Nat) 1000) (oc (nthI ([97,98,99]:List Nat) wh) (Mine.R.bad:Mine.R V) fun c:Nat=>Mine.R.ok (V.str [c]) bp) Mine.R.bad=_
   rw[n3]
   show Mine.R.ok (V.str [s.headD 0]) bp=_
   rw[<-hs1]
  ·exact storeq (storeN_local rfl) (storeq (storeN_local rfl) rfl)
 have hm1:MOk g (putL (putL m k_place (.int pl)) k_which (.str s)):=(hm.put (by decide) (by decide) (by decide) (by decide)).put (by decide) (by decide) (by decide) (by decide)
 have mp1:lk (putL (putL m k_place (.int pl)) k_which (.str s)) k_place=some (.int pl):=by rw[lk_pif,if_neg (by decide),lk_pif,if_pos rfl]
 have mw1:lk (putL (putL m k_place (.int pl)) k_which (.str s)) k_which=some (.str s):=by rw[lk_pif,if_pos rfl]
 generalize putL (putL m k_place (.int pl)) k_which (.str s)=m1 at s1 hm1 mp1 mw1
 have n3':(bp.add (.tup [.int pl,.str s])).n=J.n+1:=by rw[Store.n_add,t2n]
 have p3:(bp.add (.tup [.int pl,.str s])).get g.pit=some (pitO (a+2) g.lr):=get_old p2 (by rw[t2n];exact lp)
 have sc3:(bp.add (.tup [.int pl,.str s])).get g.sc=some (.inst c_Scope fs):=get_old sc2 (by rw[t2n];exact lsc)
 generalize bp.add (.tup [.int pl,.str s])=aX at s1 y3 n3' p3 sc3
 have B3:=y3.bd B
 have dpls:g.pls∉[g.pit,g.sc]:=fun z=>by
  rcases List.mem_cons.mp z with z|z
  ·exact st.d1 (by rw[z];exact .head _)
  ·exact st.d1 (by rw[List.mem_singleton.mp z];exact .tail _ (.head _))
 have y4:ExtU [g.pit,g.sc] J (aX.set g.sc (.inst c_Scope (putL fs k_place (.ref r)))):=y3.set (.inl (.tail _ (.head _))) (by rw[n3'];exact Nat.lt_succ_of_le (Nat.le_of_lt lsc)) _
 have s2:∀ q1 q2 q3 q4 q5 q6,(E (n+62)).s (usC k b) m1 (.asg (.at_ (.name k_scope q1) k_place q2) (.sub (.name k_places q3) (.name k_place q4) q5) q6) aX=.nxt m1 (aX.set g.sc (.inst c_Scope (putL fs k_place (.ref r)))):=by
  intro q1 q2 q3 q4 q5 q6
  refine q_asgA (w:=.none) (q_sub (q_loc rfl hm1.pls) (q_loc rfl mp1) (q_subL (y3.at B st.pls dpls) n1)) (q_loc rfl hm1.sc) ?_
  exact ocq sc3 rfl
 have sc4:(aX.set g.sc (.inst c_Scope (putL fs k_place (.ref r)))).get g.sc=some (.inst c_Scope (putL fs k_place (.ref r))):=get_upd _ _ _
 have p4:(aX.set g.sc (.inst c_Scope (putL fs k_place (.ref r)))).get g.pit=some (pitO (a+2) g.lr):=get_oth p3 (Ne.symm nsp)
 have n4:(aX.set g.sc (.inst c_Scope (putL fs k_place (.ref r)))).n=J.n+1:=by rw[Store.n_set,n3']
 have hpl':lk (putL fs k_place (.ref r)) k_place=some (.ref r):=by rw[lk_pif,if_pos rfl]
 generalize aX.set g.sc (.inst c_Scope (putL fs k_place (.ref r)))=aW at s2 y4 sc4 p4 n4
 have B4:=y4.bd B
 have e5:Ext aW (((aW.add (.tup [.str (sy k_name),.str s])).add (.list [.ref aW.n])).add (.tup [.str (sy k_use),.int 1,.ref (aW.n+1)])):=((Ext.add aW _).add' _).add' _
 have g51:(((aW.add (.tup [.str (sy k_name),.str s])).add (.list [.ref aW.n])).add (.tup [.str (sy k_use),.int 1,.ref (aW.n+1)])).get aW.n=some (.tup [.str (sy k_name),.str s]):=get_old (get_old (get_new _ _) (by rw[Store.n_add];exact Nat.lt_succ_self _)) (by simp only[Store.n_add];exact Nat.lt_succ_of_le (Nat.le_add_right _ _))
 have g52:(((aW.add (.tup [.str (sy k_name),.str s])).add (.list [.ref aW.n])).add (.tup [.str (sy k_use),.int 1,.ref (aW.n+1)])).get (aW.n+1)=some (.list [.ref aW.n]):=get_old (get_new (aW.add _) _) (by simp only[Store.n_add];exact Nat.lt_succ_self _)
 have g53:(((aW.add (.tup [.str (sy k_name),.str s])).add (.list [.ref aW.n])).add (.tup [.str (sy k_use),.int 1,.ref (aW.n+1)])).get (aW.n+2)=some (.tup [.str (sy k_use),.int 1,.ref (aW.n+1)]):=get_new ((aW.add _).add _) _
 have s3a:∀ q1 q2 q3 q4 q5 q6 q7 q8,evs (E (n+60)) (usC k b) m1 [.name k_scope q1,.tup [.cstr k_use 0 q2,.cint 1 0 q3,.list [.tup [.cstr k_name 0 q4,.name k_which q5] 0 q6] q7] 0 q8] aW=.ok [.ref g.sc,.ref (aW.n+2)] (((aW.add (.tup [.str (sy k_name),.str s])).add (.list [.ref aW.n])).add (.tup [.str (sy k_use),.int 1,.ref (aW.n+1)])):=
  fun q1 q2 q3 q4 q5 q6 q7 q8=>q_evs (q_loc rfl hm1.sc) (q_evs (q_tup (vs:=[.str (sy k_use),.int 1,.ref (aW.n+1)]) (ad:=(aW.add (.tup [.str (sy k_name),.str s])).add (.list [.ref aW.n])) (q_evs q_str (q_evs q_int (q_evs (q_list (vs:=[.ref aW.n]) (ad:=aW.add (.tup [.str (sy k_name),.str s])) (q_evs (q_tup (vs:=[.str (sy k_name),.str s]) (ad:=aW) (q_evs q_str (q_evs (q_loc rfl mw1) q_evs_nil)) rfl) q_evs_nil) rfl) q_evs_nil))) rfl) q_evs_nil)
 have n5:(((aW.add (.tup [.str (sy k_name),.str s])).add (.list [.ref aW.n])).add (.tup [.str (sy k_use),.int 1,.ref (aW.n+1)])).n=aW.n+3:=rfl
 generalize ((aW.add (.tup [.str (sy k_name),.str s])).add (.list [.ref aW.n])).add (.tup [.str (sy k_use),.int 1,.ref (aW.n+1)])=cA at e5 g51 g52 g53 s3a n5
 have y5:=y4.trans (e5.toU _)
 have B5:=y5.bd B
 have z5:ExtU g.D J cA:=y5.mono fun l hl=>by
  rcases List.mem_cons.mp hl with z|z
  ·rw[z];exact .head _
  ·rw[List.mem_singleton.mp z];exact .tail _ (.head _)
 have st5:=st.ext B z5
 obtain⟨Cr,rs,lt,dd,ds,h1,h2,h3,h4,h5,h6,h7,_⟩:=hreg.ext B z5
 obtain⟨Cp,ps,q1,q2,q3,q4,q5,q6,q7⟩:=st5.pke s hs
 have hU5:∀ z∈U,Num cA z.1 z.2:=fun z hz=>by
  obtain⟨t,ht,rfl⟩:=ou z hz
  obtain⟨C',ps',a1,_,a3,_⟩:=st5.pke t ht
  exact⟨C',ps',a1,a3⟩
 have nin:∀ {l:Nat},l≠g.pit->l≠g.sc->l∉[g.pit,g.sc]:=fun h1 h2 z=>by
  rcases List.mem_cons.mp z with z|z
  ·exact h1 z
  ·exact h2 (List.mem_singleton.mp z)
 have l5:=y5.at B hl (nin e11 e12)
 have w5:=y5.at B hw (nin e13 e14)
 have sc5:=e5.at B4 sc4
 have p5:=e5.at B4 p4
 obtain⟨bP,ld,r6,e6,g6⟩:=declare_use_ok (n:=n) (k:=k) (b:=b) B5 sc5 hpl' g53 g52 g51 (hlook cA y5) q1 q2 q3 h1 h2 l5 hU5 (by exact Nat.le_trans zu (by decide))
 have B6:=e6.bd B5
 have no:∀ {l:Nat},l≠lu->l∉[lu]:=fun h z=>h (List.mem_singleton.mp z)
 have s3:∀ q1 q2 q3 q4 q5 q6 q7 q8 q9 q10 q11,(E (n+62)).s (usC k b) m1 (.expr (.call (.name k_declare_use q9) [.name k_scope q1,.tup [.cstr k_use 0 q2,.cint 1 0 q3,.list [.tup [.cstr k_name 0 q4,.name k_which q5] 0 q6] q7] 0 q8] q10) q11) aW=.nxt m1 bP:=
  fun q1 q2 q3 q4 q5 q6 q7 q8 q9 q10 q11=>q_expr rfl (q_call rfl (q_glob rfl rfl) (s3a q1 q2 q3 q4 q5 q6 q7 q8) r6)
 have us6:=e6.at B5 st5.us (no fun z=>st5.d2 (by rw[z];exact e2.1))
 have w6:=e6.at B5 w5 (no e15)
 have sc6:=e6.at B5 sc5 (no (Ne.symm e12))
 have p6:=e6.at B5 p5 (no (Ne.symm e11))
 have z6:ExtU g.D J bP:=z5.trans (e6.mono fun l hl=>by rw[List.mem_singleton.mp hl];exact e2.1)
 have lw6:=B6 _ _ w6
 have pu:∀ {i:Nat} q1 q2 q3,(E (i+2)).e (usC k b) m1 (.sub (.name k_used q1) (.name k_place q2) q3) bP=.ok (.ref w) bP:=fun q1 q2 q3=>q_sub (q_loc rfl hm1.us) (q_loc rfl mp1) (q_subL us6 n2)
 have old:∀ l,l<J.n->l≠g.pit->l≠g.sc->l≠lu->bP.get l=J.get l:=fun l h1 h2 h3 h4=>(e6.get l (by rw[n5];rw[n4];exact Nat.lt_add_right _ (Nat.lt_succ_of_le (Nat.le_of_lt h1))) (no h4)).trans (y5.get l h1 (nin h2 h3))
 have tst:∀ q1 q2 q3 q4 q5,(E (n+61)).t (usC k b) m1 (.cmp (.name k_which q1) .NotIn (.sub (.name k_used q2) (.name k_place q3) q4) q5) bP=.ok (nb (memS W s)) bP:=fun q1 q2 q3 q4 q5=>q_tCmp (q_loc rfl mw1) (pu _ _ _) (bdq (q_inL (P:=P) w6 (memStr_map s W)) rfl)
 unfold addS
 induction hmem:memS W s using Bool.casesOn with
 | true=>
  rw[hmem] at tst
  exact⟨m1,bP,q_seq (s1 _ _ _ _ _ _ _ _ _ _ _ _ _ _ _) (q_seq (s2 _ _ _ _ _ _) (q_seq (s3 _ _ _ _ _ _ _ _ _ _ _) (q_seq (q_ifF (tst _ _ _ _ _) q_end) q_end))),hm1,z6,p6,sc6,g6,w6,fun l h1 h2 h3 h4 h5=>old l h1 h2 h3 h4⟩
 | false=>
  rw[hmem] at tst
  refine⟨m1,bP.set w (.list (W.map .str++[.str s])),q_seq (s1 _ _ _ _ _ _ _ _ _ _ _ _ _ _ _) (q_seq (s2 _ _ _ _ _ _) (q_seq (s3 _ _ _ _ _ _ _ _ _ _ _) (q_seq (q_ifT (tst _ _ _ _ _) (q_seq (q_expr rfl (q_meth (b:=.append) rfl rfl (pu _ _ _) w6 rfl rfl (q_evs (q_loc rfl mw1) q_evs_nil) (q_append w6 (by simp;exact Nat.le_trans zw (by decide))))) q_end)) q_end))),hm1,z6.set (.inl e2.2) lw6 _,get_oth p6 (Ne.symm e13),get_oth sc6 (Ne.symm e14),get_oth g6 (Ne.symm e15),?_,fun l h1 h2 h3 h4 h5=>?_⟩
  ·rw[List.map_append];exact get_upd _ _ _
  ·rw[Store.get_set,if_neg h5];exact old l h1 h2 h3 h4
end
end L1
theorem q_iterR {J:Store} {l:Nat} {i:Int} (h:J.get l=some (.rng i)):iterOf false J (.ref l)=some (.rng i):=ocq h rfl
theorem q_nextR {J:Store} {i:Nat} {d:Nat} (h:i<d):nextI J (.rng (d:Int)) i=some (some (.int (i:Int))):=congrArg some (cnT ((ltI_iff _ _).mpr (Int.ofNat_lt.mpr h)))
theorem q_nextRE {J:Store} {i:Nat} {d:Nat} (h:d<=i):nextI J (.rng (d:Int)) i=some none:=congrArg some (cnF (tf fun hq=>Nat.not_lt.mpr h (Int.ofNat_lt.mp ((ltI_iff _ _).mp hq))))
namespace L1
structure US where
 u0:List (Nat×Int)
 u1:List (Nat×Int)
 w0:List (List Nat)
 w1:List (List Nat)
noncomputable def letr (w:Int):List Nat:=if w=0 then [97] else if w=1 then [98] else [99]
noncomputable def useOne (pk:List Nat->Nat×Int) (x:US) (pl:Int) (s:List Nat):US:=if pl=0 then ⟨addE x.u0 (pk s),x.u1,addS x.w0 s,x.w1⟩ else ⟨x.u0,addE x.u1 (pk s),x.w0,addS x.w1 s⟩
noncomputable def usesN (pk:List Nat->Nat×Int) (ns:List Int):Nat->Nat->US->US
 | 0,_,x=>x
 | t+1,a,x=>usesN pk ns t (a+2) (useOne pk x (digV ns a 2) (letr (digV ns (a+1) 3)))
noncomputable def usesAll (pk:List Nat->Nat×Int) (ns:List Int) (a:Nat) (x:US):US:=usesN pk ns (digV ns a 3).toNat (a+1) x
noncomputable def usesAt (ns:List Int) (a:Nat):Nat:=a+1+2*(digV ns a 3).toNat
theorem digV_rng (ns:List Int) (a:Nat) {sd:Int} (h:0<sd):0<=digV ns a sd/\digV ns a sd<sd:=by
 unfold digV
 split<;>exact⟨Int.fmod_nonneg_of_pos _ h,Int.fmod_lt_of_pos _ h⟩
theorem putL_twice (fs:List (Nat×V)) (f:Nat) (v w:V):putL (putL fs f v) f w=putL fs f w:=by
 induction fs with
 | nil=>exact cnT (beqT rfl)
 | cons p r ih=>
  show putL (cn (Nat.beq p.1 f) ((p.1,v)::r) (p::putL r f v)) f w=cn (Nat.beq p.1 f) ((p.1,w)::r) (p::putL r f w)
  by_cases h:p.1=f
  ·rw[beqT h]
   exact cnT (beqT h)
  ·rw[beqF h]
   exact (cnF (beqF h)).trans (congrArg _ ih)
structure Dyn (g:Geo) (J:Store) (ns:List Int) (a:Nat) (x:US) (z:Nat) (fs0:List (Nat×V)):Prop where
 pit:J.get g.pit=some (pitO a g.lr)
 lr:J.get g.lr=some (.list (ns.map .int))
 sc:∃ fs v,J.get g.sc=some (.inst c_Scope fs)/\lk fs k_place=some v/\∀ w,putL fs k_place w=putL fs0 k_place w
 l0:J.get g.lu0=some (.list (refs x.u0))
 l1:J.get g.lu1=some (.list (refs x.u1))
 m0:J.get g.w0=some (.list (x.w0.map .str))
 m1:J.get g.w1=some (.list (x.w1.map .str))
 o0:UOk g x.u0
 o1:UOk g x.u1
 z0:x.u0.length<=z
 z1:x.u1.length<=z
 y0:x.w0.length<=z
 y1:x.w1.length<=z
structure GOk (g:Geo):Prop where
 dlr:g.lr∉g.D
 nd:g.D.Nodup
theorem addS_len (W:List (List Nat)) (s:List Nat):(addS W s).length<=W.length+1:=by
 unfold addS
 split
 ·exact Nat.le_add_right _ _
 ·simp
theorem UOk.add {g:Geo} {U:List (Nat×Int)} {s:List Nat} (h:UOk g U) (hs:s∈abc):UOk g (addE U (g.pk s)):=fun y hy=>(addE_mem hy).elim (h y) fun z=>⟨s,hs,z⟩
section
variable {n k l j:Nat} {b:Bool} {J af ad aq:Store} {v u:V} {vs ws:List V}
theorem turn_ok {g:Geo} {m:M} {a z:Nat} {ns:List Int} {x:US} {fs0:List (Nat×V)} (go:GOk g) (B:BdS J) (hm:MOk g m) (st:Stat g J) (dy:Dyn g J ns a x z fs0) (ha:a<=190) (hns:ns.length<=10000) (hz:z+1<=13) :
  ∃ m' τ,execs (E (n+62)) (usC k b) usB m J=.nxt m' τ/\MOk g m'/\ExtU g.D J τ/\Dyn g τ ns (a+2) (useOne g.pk x (digV ns a 2) (letr (digV ns (a+1) 3))) (z+1) fs0:=by
 obtain⟨dlr,nd⟩:=go
 simp only[List.nodup_cons,List.mem_cons,List.not_mem_nil,or_false,not_or,List.nodup_nil,and_true,not_false_eq_true] at nd
 obtain⟨⟨n01,n02,n03,n04,n05⟩,⟨n12,n13,n14,n15⟩,⟨n23,n24,n25⟩,⟨n34,n35⟩,n45⟩:=nd
 obtain⟨fs,v0,hsc,hpl,hfs⟩:=dy.sc
 have r2:=digV_rng ns a (sd:=2) (by decide)
 have r3:=digV_rng ns (a+1) (sd:=3) (by decide)
 generalize hd1:digV ns a 2=pl at r2
 generalize hd2:digV ns (a+1) 3=wh at r3
 have hs:letr wh∈abc/\letr wh=[(letr wh).headD 0]/\nthI [97,98,99] wh=some ((letr wh).headD 0):=by
  have:wh=0\/wh=1\/wh=2:=by omega
  rcases this with rfl|rfl|rfl<;>exact⟨by decide,by decide,by decide⟩
 obtain⟨hs0,hs1,hs2⟩:=hs
 generalize letr wh=s at hs0 hs1 hs2
 have slr:∀ {τ:Store},ExtU g.D J τ->τ.get g.lr=some (.list (ns.map .int)):=fun e=>e.at B dy.lr dlr
 have sub2:∀ l∈[g.pit,g.sc],l∈g.D:=fun l hl=>by
  rcases List.mem_cons.mp hl with z|z
  ·rw[z];exact .head _
  ·rw[List.mem_singleton.mp z];exact .tail _ (.head _)
 have no2:∀ {l:Nat},¬ g.pit=l->¬ g.sc=l->l∉[g.pit,g.sc]:=fun h1 h2 z=>by
  rcases List.mem_cons.mp z with z|z
  ·exact h1 z.symm
  ·exact h2 (List.mem_singleton.mp z).symm
 have dm0:g.lu0∈g.D:=by simp
 have dm1:g.lu1∈g.D:=by simp
 have dw0:g.w0∈g.D:=by simp
 have dw1:g.w1∈g.D:=by simp
 have lp:pl=0\/pl=1:=by omega
 have L0:=B _ _ dy.l0
 have L1':=B _ _ dy.l1
 have M0:=B _ _ dy.m0
 have M1:=B _ _ dy.m1
 rcases lp with rfl|rfl
 ·obtain⟨m',τ,r,hm',e,g1,g2,g4,g5,g6⟩:=turn_gen (n:=n) (k:=k) (b:=b) (r:=g.r0) (lu:=g.lu0) (w:=g.w0) B hm st dy.pit dy.lr dlr ha hns hd1 hd2 hsc hpl (fun z=>n01 z.symm) rfl rfl hs2 hs0 hs1 st.reg0 dy.l0 dy.m0 dy.o0 (by have:=dy.z0;exact Nat.le_trans this (Nat.le_trans (Nat.le_add_right _ _) hz)) (by have:=dy.y0;omega)
   (fun τ e=>(st.ext B (e.mono sub2)).look0 hs0 (e.at B dy.l0 (no2 n02 n12)) dy.o0 (by have:=dy.z0;exact Nat.le_trans this (Nat.le_trans (Nat.le_add_right _ _) hz))) ⟨fun z=>n02 z.symm,fun z=>n12 z.symm,fun z=>n04 z.symm,fun z=>n14 z.symm,fun z=>n24 z.symm⟩ ⟨dm0,dw0⟩
  refine⟨m',τ,r,hm',e,?_⟩
  unfold useOne
  rw[if_pos rfl]
  have q0:=addE_len x.u0 (g.pk s)
  have q1:=addS_len x.w0 s
  exact⟨g1,slr e,⟨_,_,g2,by rw[lk_pif,if_pos rfl],fun w=>(putL_twice _ _ _ _).trans (hfs w)⟩,g4,(g6 _ L1' (fun z=>n03 z.symm) (fun z=>n13 z.symm) (fun z=>n23 z.symm) (fun z=>n34 z)).trans dy.l1,g5,(g6 _ M1 (fun z=>n05 z.symm) (fun z=>n15 z.symm) (fun z=>n25 z.symm) (fun z=>n45 z.symm)).trans dy.m1,
   dy.o0.add hs0,dy.o1,by have:=dy.z0;show(addE _ _).length<=_;exact Nat.le_trans q0 (Nat.add_le_add_right this _),by have:=dy.z1;show x.u1.length<=_;exact Nat.le_add_right_of_le this,by have:=dy.y0;show(addS _ _).length<=_;exact Nat.le_trans q1 (Nat.add_le_add_right this _),by have:=dy.y1;show x.w1.length<=_;exact Nat.le_add_right_of_le this⟩
 ·obtain⟨m',τ,r,hm',e,g1,g2,g4,g5,g6⟩:=turn_gen (n:=n) (k:=k) (b:=b) (r:=g.r1) (lu:=g.lu1) (w:=g.w1) B hm st dy.pit dy.lr dlr ha hns hd1 hd2 hsc hpl (fun z=>n01 z.symm) rfl rfl hs2 hs0 hs1 st.reg1 dy.l1 dy.m1 dy.o1 (by have:=dy.z1;exact Nat.le_trans this (Nat.le_trans (Nat.le_add_right _ _) hz)) (by have:=dy.y1;omega)
   (fun τ e=>(st.ext B (e.mono sub2)).look1 hs0 (e.at B dy.l0 (no2 n02 n12)) dy.o0 (by have:=dy.z0;exact Nat.le_trans this (Nat.le_trans (Nat.le_add_right _ _) hz)) (e.at B dy.l1 (no2 n03 n13)) dy.o1 (by have:=dy.z1;exact Nat.le_trans this (Nat.le_trans (Nat.le_add_right _ _) hz))) ⟨fun z=>n03 z.symm,fun z=>n13 z.symm,fun z=>n05 z.symm,fun z=>n15 z.symm,fun z=>n35 z.symm⟩ ⟨dm1,dw1⟩
  refine⟨m',τ,r,hm',e,?_⟩
  unfold useOne
  rw[if_neg (by decide)]
  have q0:=addE_len x.u1 (g.pk s)
  have q1:=addS_len x.w1 s
  exact⟨g1,slr e,⟨_,_,g2,by rw[lk_pif,if_pos rfl],fun w=>(putL_twice _ _ _ _).trans (hfs w)⟩,(g6 _ L0 (fun z=>n02 z.symm) (fun z=>n12 z.symm) (fun z=>n23 z) (fun z=>n25 z)).trans dy.l0,g4,(g6 _ M0 (fun z=>n04 z.symm) (fun z=>n14 z.symm) (fun z=>n34 z.symm) (fun z=>n45 z)).trans dy.m0,g5,
   dy.o0,dy.o1.add hs0,by have:=dy.z0;show x.u0.length<=_;exact Nat.le_add_right_of_le this,by have:=dy.z1;show(addE _ _).length<=_;exact Nat.le_trans q0 (Nat.add_le_add_right this _),by have:=dy.y0;show x.w0.length<=_;exact Nat.le_add_right_of_le this,by have:=dy.y1;show(addS _ _).length<=_;exact Nat.le_trans q1 (Nat.add_le_add_right this _)⟩
end
end L1
end

section
open PySem
namespace L1
section
variable {n k l j:Nat} {b:Bool} {J af ad aq:Store} {v u:V} {vs ws:List V}
theorem turns_ok {g:Geo} {ns:List Int} {p0:Pos} (go:GOk g) (hns:ns.length<=10000):∀ (t i f d:Nat) (m:M) (a z:Nat) (x:US) (J:Store) (fs0:List (Nat×V)),i+t=d->t<f->BdS J->MOk g m->Stat g J->Dyn g J ns a x z fs0->a+2*t<=190->z+t<=13 ->
  ∃ m' τ,forL (E (n+62)) (usC k b) (.nm k_turn p0) usB (.rng (d:Int)) f i m J=.nxt m' τ/\MOk g m'/\ExtU g.D J τ/\Dyn g τ ns (a+2*t) (usesN g.pk ns t a x) (z+t) fs0
 | 0,i,f,d,m,a,z,x,J,fs0,hd,hf,B,hm,st,dy,ha,hz=>by
  induction f using Nat.casesOn with
  | zero=>cases hf
  | succ f=>exact⟨m,J,q_forEnd (q_nextRE (by omega)),hm,ExtU.refl _ _,dy⟩
 | t+1,i,f,d,m,a,z,x,J,fs0,hd,hf,B,hm,st,dy,ha,hz=>by
  induction f using Nat.casesOn with
  | zero=>cases hf
  | succ f=>
   obtain⟨m1,aM,r1,hm1,e1,dy1⟩:=turn_ok (n:=n) (k:=k) (b:=b) go B (hm.put (x:=k_turn) (v:=.int (i:Int)) (by decide) (by decide) (by decide) (by decide)) st dy (by exact Nat.le_trans (Nat.le_add_right _ _) ha) hns (by omega)
   obtain⟨m2,bp,r2,hm2,e2,dy2⟩:=turns_ok go hns t (i+1) f d m1 (a+2) (z+1) _ aM fs0 (by omega) (by omega) (e1.bd B) hm1 (st.ext B e1) dy1 (by omega) (by omega)
   refine⟨m2,bp,q_forGo (v:=.int (i:Int)) (r:=(putL m k_turn (.int (i:Int)),J)) (q_nextR (by omega)) (show storeN (usC k b) m k_turn (.int (i:Int)) J=_ from storeN_local rfl) r1 r2,hm2,e1.trans e2,?_⟩
   have:a+2*(t+1)=a+2+2*t:=by omega
   rw[this,show z+(t+1)=z+1+t from by omega]
   exact dy2
theorem Dyn.ext {g:Geo} {ns:List Int} {a z:Nat} {x:US} {fs0:List (Nat×V)} (dy:Dyn g J ns a x z fs0) (B:BdS J) (e:Ext J af):Dyn g af ns a x z fs0:=by
 obtain⟨fs,v,h1,h2,h3⟩:=dy.sc
 exact⟨e.at B dy.pit,e.at B dy.lr,⟨fs,v,e.at B h1,h2,h3⟩,e.at B dy.l0,e.at B dy.l1,e.at B dy.m0,e.at B dy.m1,dy.o0,dy.o1,dy.z0,dy.z1,dy.y0,dy.y1⟩
theorem uses_ok {g:Geo} {ns:List Int} {a z:Nat} {x:US} {fs0:List (Nat×V)} (go:GOk g) (B:BdS J) (st:Stat g J) (dy:Dyn g J ns a x z fs0) (ha:a<=150) (hns:ns.length<=10000) (hz:z+2<=13) :
  ∃ af,(E (n+64)).call (k+7) false (.top (.ref a__law_uses)) [.ref g.pit,.ref g.sc,.ref g.pls,.ref g.us] J=.ok .none af/\ExtU g.D J af/\
   Dyn g af ns (usesAt ns a) (usesAll g.pk ns a x) (z+2) fs0/\af.get g.sc=some (.inst c_Scope (putL fs0 k_place (.ref g.r1))):=by
 obtain⟨dlr,nd⟩:=id go
 simp only[List.nodup_cons,List.mem_cons,List.not_mem_nil,or_false,not_or,List.nodup_nil,and_true,not_false_eq_true] at nd
 obtain⟨⟨n01,n02,n03,n04,n05⟩,⟨n12,n13,n14,n15⟩,⟨n23,n24,n25⟩,⟨n34,n35⟩,n45⟩:=nd
 have lne:g.lr≠g.pit:=fun z=>dlr (by rw[z];exact .head _)
 have D1:=dig_ok (n:=n+40) (k:=k+5) (b:=false) (sd:=3) dy.pit dy.lr lne (by exact Nat.le_trans ha (by decide)) (by decide) hns
 have r3:=digV_rng ns a (sd:=3) (by decide)
 obtain⟨d,hd⟩:∃ d:Nat,digV ns a 3=(d:Int):=⟨(digV ns a 3).toNat,by omega⟩
 have hd':(digV ns a 3).toNat=d:=by omega
 rw[hd] at D1
 have lpit:=B _ _ dy.pit
 have e1:ExtU g.D J (J.set g.pit (pitO (a+1) g.lr)):=(ExtU.refl _ _).set (.inl (.head _)) lpit _
 have dy1:Dyn g (J.set g.pit (pitO (a+1) g.lr)) ns (a+1) x z fs0:=by
  obtain⟨fs,v,h1,h2,h3⟩:=dy.sc
  exact⟨get_upd _ _ _,get_oth dy.lr lne,⟨fs,v,get_oth h1 (fun z=>n01 z.symm),h2,h3⟩,get_oth dy.l0 (fun z=>n02 z.symm),get_oth dy.l1 (fun z=>n03 z.symm),get_oth dy.m0 (fun z=>n04 z.symm),get_oth dy.m1 (fun z=>n05 z.symm),dy.o0,dy.o1,dy.z0,dy.z1,dy.y0,dy.y1⟩
 generalize J.set g.pit (pitO (a+1) g.lr)=aM at D1 e1 dy1
 have B1:=e1.bd B
 have st1:=st.ext B e1
 have e2:Ext aM (aM.add (.rng (d:Int))):=Ext.add _ _
 have hm0:MOk g [(k_mine,.ref g.pit),(k_scope,.ref g.sc),(k_places,.ref g.pls),(k_used,.ref g.us)]:=⟨rfl,rfl,rfl,rfl⟩
 obtain⟨m3,aX,r3',hm3,e3,dy3⟩:=turns_ok (n:=n) (k:=k) (b:=false) (p0:=⟨847,8,847,12⟩) go hns d 0 (n+62) d _ (a+1) z x (aM.add (.rng (d:Int))) fs0 (by omega) (by omega) (e2.bd B1) hm0 (st1.ext B1 (e2.toU _)) (dy1.ext B1 e2) (by omega) (by omega)
 have e13:ExtU g.D J aX:=e1.trans ((e2.toU _).trans e3)
 have B3:=e13.bd B
 have st3:=st.ext B e13
 obtain⟨fs,v,sc1,sc2,sc3'⟩:=dy3.sc
 have lsc:=B3 _ _ sc1
 have ss:(E (n+63)).s (usC k false) m3 (.asg (.at_ (.name k_scope ⟨853,4,853,9⟩) k_place ⟨853,4,853,15⟩) (.sub (.name k_places ⟨853,18,853,24⟩) (.cint 1 0 ⟨853,25,853,26⟩) ⟨853,18,853,27⟩) ⟨853,4,853,27⟩) aX=.nxt m3 (aX.set g.sc (.inst c_Scope (putL fs k_place (.ref g.r1)))):=by
  refine q_asgA (w:=.none) (q_sub (q_loc rfl hm3.pls) q_int (q_subL st3.pls rfl)) (q_loc rfl hm3.sc) ?_
  exact ocq sc1 rfl
 have e4:ExtU g.D J (aX.set g.sc (.inst c_Scope (putL fs k_place (.ref g.r1)))):=e13.set (.inl (.tail _ (.head _))) lsc _
 have dy4:Dyn g (aX.set g.sc (.inst c_Scope (putL fs k_place (.ref g.r1)))) ns (a+1+2*d) (usesN g.pk ns d (a+1) x) (z+d) fs0:=
  ⟨get_oth dy3.pit n01,get_oth dy3.lr (fun z=>dlr (by rw[z];exact .tail _ (.head _))),⟨_,_,get_upd _ _ _,by rw[lk_pif,if_pos rfl],fun w=>(putL_twice _ _ _ _).trans (sc3' w)⟩,get_oth dy3.l0 (fun z=>n12 z.symm),get_oth dy3.l1 (fun z=>n13 z.symm),get_oth dy3.m0 (fun z=>n14 z.symm),get_oth dy3.m1 (fun z=>n15 z.symm),dy3.o0,dy3.o1,dy3.z0,dy3.z1,dy3.y0,dy3.y1⟩
 have sc4:(aX.set g.sc (.inst c_Scope (putL fs k_place (.ref g.r1)))).get g.sc=some (.inst c_Scope (putL fs k_place (.ref g.r1))):=get_upd _ _ _
 have n4:(aX.set g.sc (.inst c_Scope (putL fs k_place (.ref g.r1)))).n=aX.n:=rfl
 generalize aX.set g.sc (.inst c_Scope (putL fs k_place (.ref g.r1)))=aW at ss e4 dy4 sc4 n4
 rw[sc3' (.ref g.r1)] at sc4
 have B4:=e4.bd B
 have st4:=st.ext B e4
 have hd2:d<=2:=by omega
 refine⟨aW,q_fnN (d:=d__law_uses) (cs:=[]) rfl rfl rfl rfl rfl ⟨_,q_seq (q_for (q_call rfl (q_glob rfl rfl) (q_evs (q_call rfl (q_glob rfl rfl) (q_evs (q_loc rfl rfl) (q_evs q_int q_evs_nil)) D1) q_evs_nil) (q_range (small_of (by omega) (by omega)))) (q_iterR (get_new _ _)) r3')
  (q_seq ss q_end)⟩,e4,?_,sc4⟩
 ·unfold usesAll usesAt
  rw[hd']
  have dy5:=dy4
  exact⟨dy5.pit,dy5.lr,dy5.sc,dy5.l0,dy5.l1,dy5.m0,dy5.m1,dy5.o0,dy5.o1,by have:=dy5.z0;omega,by have:=dy5.z1;omega,by have:=dy5.y0;omega,by have:=dy5.y1;omega⟩
noncomputable def isNone (v:V):Bool:=vNone v false true
noncomputable def keepL (W:List (List Nat)) (tv:List Nat->V) (s:List Nat):Bool:=memS W s && !isNone (tv s)
noncomputable def offV (W:List (List Nat)) (tv:List Nat->V):V:=match abc.filter (keepL W tv) with | [s]=>.str s|_=>.none
noncomputable def addN (W:List (List Nat)):Nat->Store->Store:=@Nat.rec (fun _=>Store->Store) (fun J=>J) (fun _ ih J=>ih (J.add (.list (W.map .str))))
theorem addN_ext (W:List (List Nat)) (n:Nat):∀ (J:Store),Ext J (addN W n J):=by
 induction n with
 | zero=>exact fun J=>Ext.refl J
 | succ n ih=>exact fun J=>(Ext.add _ _).trans (ih _)
theorem offered_run {ud td l0 l1:Nat} {w0 w1 W:List (List Nat)} {tv:List Nat->V} {es:List (List Nat×V)} (B:BdS J) (hW:W=w0++w1) (hw:W.length<=1000) (h1:J.get ud=some (.list [.ref l0,.ref l1])) (hl0:J.get l0=some (.list (w0.map .str))) (hl1:J.get l1=some (.list (w1.map .str))) (h2:J.get td=some (.dict es)) (h3:∀ s∈abc,lkS es s=some (tv s)/\∀ w,tv s≠.top w) :
  ∃ af,(E (n+21)).call (k+1) false (.top (.ref a__law_offered)) [.ref ud,.ref td] J=.ok (offV W tv) af/\Ext J af:=by
 have e0:Ext J ((J.add .cell0).add .cell0):=(Ext.add _ _).add' _
 have e1:Ext J ((((J.add .cell0).add .cell0).set J.n (.cell (.ref ud))).set (J.n+1) (.cell (.ref td))):=(e0.set' (Nat.le_refl _) (by simp only[Store.n_add];exact Nat.lt_succ_of_le (Nat.le_add_right _ _)) _).set' (by exact Nat.le_add_right _ _) (by simp only[Store.n_set,Store.n_add];exact Nat.lt_succ_self _) _
 have c0:((((J.add .cell0).add .cell0).set J.n (.cell (.ref ud))).set (J.n+1) (.cell (.ref td))).get J.n=some (.cell (.ref ud)):=get_oth (get_upd _ _ _) (by exact Nat.ne_of_lt (Nat.lt_succ_self _))
 have c1:((((J.add .cell0).add .cell0).set J.n (.cell (.ref ud))).set (J.n+1) (.cell (.ref td))).get (J.n+1)=some (.cell (.ref td)):=get_upd _ _ _
 have hb:bindPs ⟨k,false,d__law_offered.kd,[(k_told,J.n+1),(k_used,J.n)]⟩ d__law_offered.ps [.ref ud,.ref td] [] ((J.add .cell0).add .cell0)=some ([],(((J.add .cell0).add .cell0).set J.n (.cell (.ref ud))).set (J.n+1) (.cell (.ref td))):=
  bindq (xs:=[k_told]) (store_cell rfl rfl (.inl (get_old (get_new J .cell0) (Nat.lt_succ_self _)))) (bindq (xs:=[]) (store_cell rfl rfl (.inl (get_oth (get_new (J.add .cell0) _) (Nat.ne_of_gt (Nat.lt_succ_self J.n))))) rfl)
 generalize (((J.add .cell0).add .cell0).set J.n (.cell (.ref ud))).set (J.n+1) (.cell (.ref td))=τ at e1 c0 c1 hb
 have B1:=e1.bd B
 have g1:=e1.at B h1
 have g2:=e1.at B h2
 have gl0:=e1.at B hl0
 have gl1:=e1.at B hl1
 let c':Cx:=⟨k,false,ownKd ⟨k,false,d__law_offered.kd,[(k_told,J.n+1),(k_used,J.n)]⟩ [(k_dot0,.local),(k_one,.local),(k_told,.free),(k_used,.free)],[(k_told,J.n+1),(k_used,J.n)]⟩
 have tst:∀ (m:M) (s:List Nat) (af:Store),Ext τ af->s∈abc->lk m k_one=some (.str s)->∀ q1 q2 q3 q4 q5 q6 q7 q8 q9 p1 p2 p3 p4 p5 p6,(E (n+18)).t c' m (.and_ [.cmp (.name k_one q1) .In (.bin (.sub (.name k_used q2) (.cint 0 0 p1) p2) .Add (.sub (.name k_used p3) (.cint 1 0 p4) p5) p6) q3,.cmp (.sub (.name k_told q4) (.name k_one q5) q6) .IsNot (.cnone 0 q7) q8] q9) af=.ok (keepL W tv s) (af.add (.list (W.map .str))):=by
  intro m s af e hs hm q1 q2 q3 q4 q5 q6 q7 q8 q9 p1 p2 p3 p4 p5 p6
  have hu:∀ {i:Nat} q,(E (i+1)).e c' m (.name k_used q) af=.ok (.ref ud) af:=fun q=>q_cell rfl rfl (e.at B1 c0)
  have bn:(E (n+16)).e c' m (.bin (.sub (.name k_used q2) (.cint 0 0 p1) p2) .Add (.sub (.name k_used p3) (.cint 1 0 p4) p5) p6) af=.ok (.ref af.n) (af.add (.list (W.map .str))):=by
   rw[hW,List.map_append]
   exact q_bin (q_sub (hu _) q_int (q_subL (e.at B1 g1) rfl)) (q_sub (hu _) q_int (q_subL (e.at B1 g1) rfl)) (q_binL (e.at B1 gl0) (e.at B1 gl1) (by rw[hW,List.length_append] at hw;simp only[List.length_map];omega))
  have e':Ext τ (af.add (.list (W.map .str))):=e.add' _
  have a1:(E (n+17)).t c' m (.cmp (.name k_one q1) .In (.bin (.sub (.name k_used q2) (.cint 0 0 p1) p2) .Add (.sub (.name k_used p3) (.cint 1 0 p4) p5) p6) q3) af=.ok (memS W s) (af.add (.list (W.map .str))):=q_tCmp (q_loc rfl hm) bn (q_inL (P:=P) (get_new _ _) (memStr_map s W))
  unfold keepL
  induction hq:memS W s using Bool.casesOn with
  | false=>rw[hq] at a1;exact q_tAnd (q_tAndF a1)
  | true=>
   rw[hq] at a1
   have a2:(E (n+17)).t c' m (.cmp (.sub (.name k_told q4) (.name k_one q5) q6) .IsNot (.cnone 0 q7) q8) (af.add (.list (W.map .str)))=.ok (!isNone (tv s)) (af.add (.list (W.map .str))):=by
    refine q_tCmp (q_sub (q_cell rfl rfl (e'.at B1 c1)) (q_loc rfl hm) (q_subD (e'.at B1 g2) (h3 s hs).1)) q_none ?_
    have:=(h3 s hs).2
    induction ht:tv s using Mine.V.casesOn with
    | top w=>exact absurd ht (this w)
    | _=>rfl
   rw[Bool.true_and]
   induction hn:!isNone (tv s) using Bool.casesOn with
   | true=>rw[hn] at a2;exact q_tAnd (q_tAndT a1 (q_tAndT a2 q_tB_nil))
   | false=>rw[hn] at a2;exact q_tAnd (q_tAndT a1 (q_tAndF a2))
 have co:∀ q1 q2 q3 q4 q5 q6 q7 q8 q9 q10 q11 p1 p2 p3 p4 p5 p6,∀ (r:List Nat) (i f:Nat) (m:M) (vs:List V) (af:Store),Ext τ af->[97,98,99].drop i=r->r.length<f->(∀ x∈r,[x]∈abc)->vs.length+r.length<=100 ->
   compL (E (n+18)) c' (.name k_one q10) (.nm k_one q11) [.and_ [.cmp (.name k_one q1) .In (.bin (.sub (.name k_used q2) (.cint 0 0 p1) p2) .Add (.sub (.name k_used p3) (.cint 1 0 p4) p5) p6) q3,.cmp (.sub (.name k_told q4) (.name k_one q5) q6) .IsNot (.cnone 0 q7) q8] q9] false (.str [97,98,99]) f i m vs af=.ok (vs++((r.map fun x=>[x]).filter (keepL W tv)).map .str) (addN W r.length af):=by
  intro q1 q2 q3 q4 q5 q6 q7 q8 q9 q10 q11 p1 p2 p3 p4 p5 p6 r
  induction r with
  | nil=>
   intro i f m vs af e hd hf hr hv
   induction f using Nat.casesOn with
   | zero=>cases hf
   | succ f=>
    rw[q_compEnd (by show some (oc (nth ([97,98,99]:List Nat) i) none fun c=>some (V.str [c]))=_;rw[nth_eq,drop_nil hd];rfl)]
    simp;rfl
  | cons y r ih=>
   intro i f m vs af e hd hf hr hv
   induction f using Nat.casesOn with
   | zero=>cases hf
   | succ f=>
    obtain⟨d1,d2⟩:=drop_cons hd
    have nx:nextI af (.str [97,98,99]) i=some (some (.str [y])):=by show some (oc (nth ([97,98,99]:List Nat) i) none fun c=>some (V.str [c]))=_;rw[nth_eq,d1];rfl
    have ml:lk (putL m k_one (.str [y])) k_one=some (.str [y]):=by rw[lk_pif,if_pos rfl]
    have t1:=tst (putL m k_one (.str [y])) [y] af e (hr y (.head _)) ml q1 q2 q3 q4 q5 q6 q7 q8 q9 p1 p2 p3 p4 p5 p6
    have sg:storeG c' m (.nm k_one q11) (.str [y]) af=some (putL m k_one (.str [y]),af):=(show storeN c' m k_one (.str [y]) af=_ from storeN_local rfl)
    rw[List.map_cons,List.filter_cons]
    induction hq:keepL W tv [y] using Bool.casesOn with
    | true=>
     rw[hq] at t1
     rw[q_compT nx sg (q_tAndT t1 q_tB_nil) (q_loc rfl ml) (lenLe_of (by omega)) rfl,ih (i+1) f _ _ _ (e.add' _) d2 (by simp at hf;exact hf) (fun x hx=>hr x (.tail _ hx)) (by rw[List.length_append];simp at hv ⊢;omega)]
     simp;rfl
    | false=>
     rw[hq] at t1
     rw[q_compF nx sg (q_tAndF t1) rfl,ih (i+1) f _ _ _ (e.add' _) d2 (by simp at hf;exact hf) (fun x hx=>hr x (.tail _ hx)) (by simp at hv;omega)]
     simp;rfl
 have co':=fun q1 q2 q3 q4 q5 q6 q7 q8 q9 q10 q11 p1 p2 p3 p4 p5 p6=>co q1 q2 q3 q4 q5 q6 q7 q8 q9 q10 q11 p1 p2 p3 p4 p5 p6 [97,98,99] 0 (n+18) [] [] τ (Ext.refl _) rfl (by show 3<_;omega) (by decide) (by decide)
 have hr:([97,98,99].map fun x=>[x]).filter (keepL W tv)=abc.filter (keepL W tv):=rfl
 simp only[hr,List.nil_append] at co'
 unfold offV
 have e9:Ext J (addN W 3 τ):=e1.trans (addN_ext W 3 τ)
 have lr3:([97,98,99]:List Nat).length=3:=rfl
 rw[lr3] at co'
 generalize addN W 3 τ=τ at co' e9
 have e2:=e9.add' (.list ((abc.filter (keepL W tv)).map .str))
 have rowl:∀ {i:Nat} q1,(E (i+1)).e ⟨k,false,d__law_offered.kd,[(k_told,J.n+1),(k_used,J.n)]⟩ (putL [] k_row (.ref τ.n)) (.name k_row q1) (τ.add (.list ((abc.filter (keepL W tv)).map .str)))=.ok (.ref τ.n) (τ.add (.list ((abc.filter (keepL W tv)).map .str))):=fun q1=>q_loc rfl rfl
 have hl:∀ {i:Nat},(E (i+1)).call k false (.top (.builtin "len")) [.ref τ.n] (τ.add (.list ((abc.filter (keepL W tv)).map .str)))=.ok (.int ((abc.filter (keepL W tv)).map V.str).length) (τ.add (.list ((abc.filter (keepL W tv)).map .str))):=q_len (get_new τ _)
 have first:∀ {r:V},(∀ q1 q2 q3 q4 q5 q6 q7 q8 q9 q10,(E (n+19)).e ⟨k,false,d__law_offered.kd,[(k_told,J.n+1),(k_used,J.n)]⟩ (putL [] k_row (.ref τ.n)) (.ife (.cmp (.call (.name k_len q1) [.name k_row q2] q3) .Eq (.cint 1 0 q4) q5) (.sub (.name k_row q6) (.cint 0 0 q7) q8) (.cnone 0 q9) q10) (τ.add (.list ((abc.filter (keepL W tv)).map .str)))=.ok r (τ.add (.list ((abc.filter (keepL W tv)).map .str)))) ->
   ∃ af,(E (n+21)).call (k+1) false (.top (.ref a__law_offered)) [.ref ud,.ref td] J=.ok r af/\Ext J af:=by
  intro r hr
  exact⟨_,q_fn (d:=d__law_offered) (cs:=[(k_told,J.n+1),(k_used,J.n)]) rfl rfl rfl rfl hb ⟨_,q_seq (q_asg (q_comp (cs:=[(k_told,J.n+1),(k_used,J.n)]) rfl rfl q_str rfl (co' _ _ _ _ _ _ _ _ _ _ _ _ _ _ _ _ _)) rfl) (q_seqR (q_ret (hr _ _ _ _ _ _ _ _ _ _)))⟩,e2⟩
 split
 ·rename_i s hs
  simp only[hs] at first rowl hl
  exact first fun q1 q2 q3 q4 q5 q6 q7 q8 q9 q10=>q_ifeT (q_tCmp (q_call rfl (q_glob rfl rfl) (q_evs (rowl _) q_evs_nil) hl) q_int rfl) (q_sub (rowl _) q_int (q_subL (get_new τ _) rfl))
 ·rename_i hne
  generalize abc.filter (keepL W tv)=F at first rowl hl hne
  have hF:F.length≠1:=by
   intro z
   match F,z,hne with
   | [s],_,h=>exact h s rfl
  exact first fun q1 q2 q3 q4 q5 q6 q7 q8 q9 q10=>q_ifeF (q_tCmp (q_call rfl (q_glob rfl rfl) (q_evs (rowl _) q_evs_nil) hl) q_int (cmpF (f:=fun z=>Mine.R.ok z _) fun hq=>by rw[eqI_iff,List.length_map] at hq;omega)) q_none
end
end L1
theorem mapD_strs (J:Store) (n:Nat) (W:List (List Nat)):(∀ s∈W,asc s=true)->mapD (toD J (n+1)) (W.map .str)=some (W.map fun s=>PyData.str (strK s)):=by
 induction W with
 | nil=>exact fun _=>rfl
 | cons s r ih=>exact fun h=>ocq (cnq (h s (.head _)) rfl) (ocq (ih fun z hz=>h z (.tail _ hz)) rfl)
theorem eqDs_strs (W:List (List Nat)):PyData.eqvAll (W.map fun s=>PyData.str (strK s)) (W.map fun s=>PyData.str (strK s))=true:=by
 induction W with
 | nil=>simp[PyData.eqvAll]
 | cons s r ih=>simp[PyData.eqvAll,PyData.eqv,ih]
namespace L1
section
variable {n k l j:Nat} {b:Bool} {J af ad aq:Store} {v u:V} {vs ws:List V}
theorem comp_names {c:Cx} {l:Nat} {τ:Store} {all:List V} {nmO:Nat×Int->List Nat} {q1 q2 q3:Pos} (ko:lk c.kd k_one=some .local) (hl:τ.get l=some (.list all)) :
  ∀ (F:List (Nat×Int)) (i f:Nat) (m:M) (vs:List V),all.drop i=refs F->F.length<f->(∀ y∈F,∃ C fs,τ.get y.1=some (.inst C fs)/\lk fs k_name=some (.str (nmO y)))->vs.length+F.length<=100 ->
  compL (E (n+5)) c (.attr (.name k_one q1) k_name q2) (.nm k_one q3) [] false (.list l) f i m vs τ=.ok (vs++(F.map nmO).map .str) τ
 | [],i,f,m,vs,hd,hf,hF,hz=>by
  induction f using Nat.casesOn with
  | zero=>cases hf
  | succ f=>
   rw[q_compEnd (by rw[q_nextL hl,drop_nil hd])]
   simp
 | y::F,i,f,m,vs,hd,hf,hF,hz=>by
  induction f using Nat.casesOn with
  | zero=>cases hf
  | succ f=>
   obtain⟨d1,d2⟩:=drop_cons hd
   obtain⟨C,fs,g1,g2⟩:=hF y (.head _)
   have ml:lk (putL m k_one (.ref y.1)) k_one=some (.ref y.1):=by rw[lk_pif,if_pos rfl]
   have sg:storeG c m (.nm k_one q3) (.ref y.1) τ=some (putL m k_one (.ref y.1),τ):=(show storeN c m k_one (.ref y.1) τ=_ from storeN_local ko)
   rw[q_compT (by rw[q_nextL hl,d1]) sg q_tB_nil (q_attr (q_loc ko ml) g1 g2) (lenLe_of (by omega)) rfl,comp_names ko hl F (i+1) f _ _ d2 (by simp at hf;exact hf) (fun z hz=>hF z (.tail _ hz)) (by rw[List.length_append];simp at hz ⊢;omega)]
   simp
theorem so_run {pl us r0 r1 lu0 lu1 w0 w1 C0 C1:Nat} {f0 f1:List (Nat×V)} {U0 U1:List (Nat×Int)} {nmO:Nat×Int->List Nat} (B:BdS J) (h1:J.get pl=some (.list [.ref r0,.ref r1])) (h2:J.get us=some (.list [.ref w0,.ref w1])) (h3:J.get r0=some (.inst C0 f0)) (h4:lk f0 k_uses=some (.ref lu0)) (h5:J.get r1=some (.inst C1 f1)) (h6:lk f1 k_uses=some (.ref lu1))
  (h7:J.get lu0=some (.list (refs U0))) (h8:J.get lu1=some (.list (refs U1))) (h9:J.get w0=some (.list ((U0.map nmO).map .str))) (h10:J.get w1=some (.list ((U1.map nmO).map .str)))
  (n0:∀ y∈U0,∃ C fs,J.get y.1=some (.inst C fs)/\lk fs k_name=some (.str (nmO y))) (n1:∀ y∈U1,∃ C fs,J.get y.1=some (.inst C fs)/\lk fs k_name=some (.str (nmO y))) (a0:∀ y∈U0,asc (nmO y)=true) (a1:∀ y∈U1,asc (nmO y)=true) (z0:U0.length<=13) (z1:U1.length<=13) :
  ∃ af,(E (n+24)).call (k+1) b (.top (.ref a__law_so)) [.ref pl,.ref us] J=.ok (.bool true) af/\Ext J af:=by
 have ht:∀ {m:M} {x:Nat},lk (putL m k_place (.ref x)) k_place=some (.ref x):=fun {m x}=>by rw[lk_pif,if_pos rfl]
 let c1:Cx:=⟨k,b,ownKd ⟨k,b,d__law_so.kd,[]⟩ [(k_dot0,.local),(k_place,.local)],[]⟩
 let c2:Cx:=⟨k,b,ownKd c1 [(k_dot0,.local),(k_one,.local)],[]⟩
 have row:∀ (τ:Store) (e:Ext J τ) (r lu C:Nat) (f:List (Nat×V)) (U:List (Nat×Int)) (m:M),J.get r=some (.inst C f)->lk f k_uses=some (.ref lu)->J.get lu=some (.list (refs U))->(∀ y∈U,∃ C fs,J.get y.1=some (.inst C fs)/\lk fs k_name=some (.str (nmO y)))->U.length<=13->lk m k_place=some (.ref r) ->
   ∀ q1 q2 q3 q4 q5 q6,(E (n+20)).e c1 m (.comp (.attr (.name k_one q1) k_name q2) (.nm k_one q3) (.attr (.name k_place q4) k_uses q5) [] [] [(k_dot0,.local),(k_one,.local)] [] q6) τ=.ok (.ref τ.n) (τ.add (.list ((U.map nmO).map .str))):=by
  intro τ e r lu C f U m g1 g2 g3 g4 g5 g6 q1 q2 q3 q4 q5 q6
  have co:=comp_names (n:=n+14) (c:=c2) (q1:=q1) (q2:=q2) (q3:=q3) (nmO:=nmO) rfl (e.at B g3) U 0 (n+19) [] [] rfl (by omega) (fun y hy=>by obtain⟨C,fs,a,d⟩:=g4 y hy;exact⟨C,fs,e.at B a,d⟩) (by simp;exact Nat.le_trans g5 (by decide))
  rw[List.nil_append] at co
  exact q_comp (cs:=[]) rfl rfl (q_attr (q_loc rfl g6) (e.at B g1) g2) (q_iterL (e.at B g3)) co
 have ea:Ext J (J.add (.list ((U0.map nmO).map .str))):=Ext.add _ _
 have eb:Ext J ((J.add (.list ((U0.map nmO).map .str))).add (.list ((U1.map nmO).map .str))):=ea.add' _
 have co:∀ q1 q2 q3 q4 q5 q6 q7,compL (E (n+20)) c1 (.comp (.attr (.name k_one q1) k_name q2) (.nm k_one q3) (.attr (.name k_place q4) k_uses q5) [] [] [(k_dot0,.local),(k_one,.local)] [] q6) (.nm k_place q7) [] false (.list pl) (n+20) 0 [] [] J=.ok [.ref J.n,.ref (J.n+1)] ((J.add (.list ((U0.map nmO).map .str))).add (.list ((U1.map nmO).map .str))):=by
  intro q1 q2 q3 q4 q5 q6 q7
  have x0:=row J (Ext.refl _) r0 lu0 C0 f0 U0 (putL [] k_place (.ref r0)) h3 h4 h7 n0 z0 ht q1 q2 q3 q4 q5 q6
  refine q_compT (v:=.ref r0) (r:=(putL [] k_place (.ref r0),J)) (by rw[q_nextL h1];rfl) rfl q_tB_nil x0 rfl ?_
  have x1:=row _ ea r1 lu1 C1 f1 U1 (putL (putL [] k_place (.ref r0)) k_place (.ref r1)) h5 h6 h8 n1 z1 ht q1 q2 q3 q4 q5 q6
  refine q_compT (v:=.ref r1) (r:=(putL (putL [] k_place (.ref r0)) k_place (.ref r1),_)) (by rw[q_nextL (ea.at B h1)];rfl) rfl q_tB_nil x1 rfl ?_
  exact q_compEnd (by rw[q_nextL (eb.at B h1)];rfl)
 have ec:=eb.add' (.list [.ref J.n,.ref (J.n+1)])
 have g1:(((J.add (.list ((U0.map nmO).map .str))).add (.list ((U1.map nmO).map .str))).add (.list [.ref J.n,.ref (J.n+1)])).get J.n=some (.list ((U0.map nmO).map .str)):=get_old (get_old (get_new _ _) (by rw[Store.n_add];exact Nat.lt_succ_self _)) (by simp only[Store.n_add];exact Nat.lt_succ_of_le (Nat.le_add_right _ _))
 have g2:(((J.add (.list ((U0.map nmO).map .str))).add (.list ((U1.map nmO).map .str))).add (.list [.ref J.n,.ref (J.n+1)])).get (J.n+1)=some (.list ((U1.map nmO).map .str)):=get_old (get_new (J.add _) _) (by simp only[Store.n_add];exact Nat.lt_succ_self _)
 have g3:(((J.add (.list ((U0.map nmO).map .str))).add (.list ((U1.map nmO).map .str))).add (.list [.ref J.n,.ref (J.n+1)])).get (J.n+2)=some (.list [.ref J.n,.ref (J.n+1)]):=get_new ((J.add _).add _) _
 have cmp:cmpV P (((J.add (.list ((U0.map nmO).map .str))).add (.list ((U1.map nmO).map .str))).add (.list [.ref J.n,.ref (J.n+1)])) .Eq (.ref (J.n+2)) (.ref us)=.ok true (((J.add (.list ((U0.map nmO).map .str))).add (.list ((U1.map nmO).map .str))).add (.list [.ref J.n,.ref (J.n+1)])):=by
  have m0:∀ s∈U0.map nmO,asc s=true:=fun s hs=>by obtain⟨y,hy,rfl⟩:=List.mem_map.mp hs;exact a0 y hy
  have m1:∀ s∈U1.map nmO,asc s=true:=fun s hs=>by obtain⟨y,hy,rfl⟩:=List.mem_map.mp hs;exact a1 y hy
  have k1:=ec.at B h9
  have k2:=ec.at B h10
  have k3:=ec.at B h2
  generalize ((J.add (.list ((U0.map nmO).map .str))).add (.list ((U1.map nmO).map .str))).add (.list [.ref J.n,.ref (J.n+1)])=τ at g1 g2 g3 k1 k2 k3
  have tl:∀ {l:Nat} {W:List (List Nat)},τ.get l=some (.list (W.map .str))->(∀ s∈W,asc s=true)->toD τ 4 (.ref l)=some (.list (W.map fun s=>PyData.str (strK s))):=fun {l W} h1 h2=>ocq h1 (ocq (mapD_strs τ 2 W h2) rfl)
  have two:∀ {f:V->Option PyData} {a b:V} {x y:PyData},f a=some x->f b=some y->mapD f [a,b]=some [x,y]:=fun h1 h2=>ocq h1 (ocq (ocq h2 rfl) rfl)
  refine ocq g3 (ocq k3 (cnq (b:=true) (y:=Mine.R.ok false τ) rfl (ocq (two (tl g1 m0) (tl g2 m1)) (ocq (two (tl k1 m0) (tl k2 m1)) (congrArg (fun z=>Mine.R.ok z _) ?_)))))
  simp only[PyData.eqvAll,PyData.eqv,eqDs_strs,Bool.and_self]
 exact⟨_,q_fn (d:=d__law_so) (cs:=[]) rfl rfl rfl rfl rfl ⟨_,q_seqR (q_ret (q_cmp (q_comp (cs:=[]) rfl rfl (q_loc rfl rfl) (q_iterL h1) (co _ _ _ _ _ _ _)) (q_loc rfl rfl) cmp))⟩,ec⟩
end
end L1
end

section
open PySem PySem.W PySem.Calls PyProof.Rows

noncomputable def O.conc (θ:Nat->List V) (ϑ:Nat->List (List Nat×V)) (o:O):O:=@O.rec (fun _=>O) .list (fun t=>.list (θ t)) (fun t=>.dict (ϑ t)) .tup .dict .inst .rsv .rng .cell0 .cell .clo o
noncomputable def C6.map {α β:Type} (g:α->β) (t:C6 α):C6 β:=⟨g t.1,g t.2,g t.3,g t.4,g t.5,g t.6,g t.7,g t.8,g t.9,g t.10,g t.11,g t.12⟩
theorem sl_map {α β:Type} (q:Dg) (g:α->β) (t:C6 α):sl q (t.map g)=g (sl q t):=by cases q <;> rfl
noncomputable def NT.map {α:Type} (f:α->α) (t:NT α):NT α:=⟨C6.map (C6.map (C6.map (Option.map f))) t.1,fun i=>(t.2 i).map f⟩
theorem NT.get_map {α:Type} (f:α->α) (t:NT α) (i:Nat):(t.map f).get i=(t.get i).map f:=by
 cases i with
 | zero=>rfl
 | succ k=>
  rw[NT.get_succ,NT.get_succ]
  cases Nat.ble k 1727 with
  | false=>rfl
  | true=>
   show sl (dg (Nat.mod k (nat_lit 12))) (sl (dg (Nat.mod (Nat.div k (nat_lit 12)) (nat_lit 12))) (sl (dg (Nat.div k (nat_lit 144))) (C6.map _ t.1)))=(sl (dg (Nat.mod k (nat_lit 12))) (sl (dg (Nat.mod (Nat.div k (nat_lit 12)) (nat_lit 12))) (sl (dg (Nat.div k (nat_lit 144))) t.1))).map f
   rw[sl_map,sl_map,sl_map]
noncomputable def Store.conc (θ:Nat->List V) (ϑ:Nat->List (List Nat×V)) (J:Store):Store:=⟨J.t.map (O.conc θ ϑ),J.n⟩
theorem Store.get_conc (θ:Nat->List V) (ϑ:Nat->List (List Nat×V)) (J:Store) (l:Nat):(J.conc θ ϑ).get l=(J.get l).map (O.conc θ ϑ):=NT.get_map _ _ _
theorem Store.n_conc (θ:Nat->List V) (ϑ:Nat->List (List Nat×V)) (J:Store):(J.conc θ ϑ).n=J.n:=rfl
theorem O.conc_inst {θ:Nat->List V} {ϑ:Nat->List (List Nat×V)} {o:O} {C:Nat} {fs:List (Nat×V)} (h:o.conc θ ϑ=.inst C fs):o=.inst C fs:=by
 induction o using Mine.O.casesOn with
 | inst C fs=>exact h
 | _=>cases h
theorem conc_at {θ:Nat->List V} {ϑ:Nat->List (List Nat×V)} {J:Store} {l:Nat} {o:O} (h:J.get l=some o):(J.conc θ ϑ).get l=some (o.conc θ ϑ):=(Store.get_conc ..).trans (congrArg (Option.map _) h)
theorem at_conc {θ:Nat->List V} {ϑ:Nat->List (List Nat×V)} {J:Store} {l:Nat} {o:O} (h:(J.conc θ ϑ).get l=some o):∃ o',J.get l=some o'/\o'.conc θ ϑ=o:=Option.map_eq_some_iff.mp ((Store.get_conc ..).symm.trans h)
noncomputable def VB (n:Nat) (v:V):Prop:=@V.rec (fun _=>Prop) True (fun _=>True) (fun _=>True) (fun _=>True) (fun l=>l<n) (fun _=>True) v
noncomputable def OB (n:Nat) (o:O):Prop:=@O.rec (fun _=>Prop) (fun vs=>∀ v∈vs,VB n v) (fun _=>True) (fun _=>True) (fun vs=>∀ v∈vs,VB n v) (fun es=>∀ k v,lkS es k=some v->VB n v) (fun _ fs=>∀ p∈fs,VB n p.2) True (fun _=>True) True (VB n) (fun _ _ cs=>∀ x a,lk cs x=some a->a<n) o
section
variable {W:Wd} {F X:Addr->Prop} {A:Around} {ρ ah:Nat->Addr} {J af τ:Store} {s:Shared} {h h':Heap} {n:Nat}
theorem VR.vb {v:V} {x:Value} (r:VR ρ n v x):VB n v:=by
 cases r with
 | ref l h=>exact h
 | _=>trivial
theorem VRs.vb {vs:List V} {xs:List Value} (r:VRs ρ n vs xs):∀ v∈vs,VB n v:=by
 induction r with
 | nil=>exact fun v h=>nomatch h
 | cons h _ ih=>exact fun v hv=>(List.mem_cons.mp hv).elim (fun e=>e▸h.vb) (ih v)
theorem ER.vb {P:Params} {es:List (List Nat×V)} {xs:List DictEntry} (r:ER P ρ n es xs):∀ p∈es,VB n p.2:=by
 induction r with
 | nil=>exact fun v h=>nomatch h
 | cons h _ ih=>exact fun v hv=>(List.mem_cons.mp hv).elim (fun e=>e▸h.vb) (ih v)
theorem Phys.ob {l:Nat} {o:O} (p:Phys W ρ n h l o):OB n (o.conc W.θ W.ϑ):=by
 induction o using Mine.O.casesOn with
 | list vs=>rcases p with ⟨ys,ep,e,r,z⟩;exact r.vb
 | slist t=>rcases p with ⟨ys,ep,e,r,z⟩;exact r.vb
 | tup vs=>rcases p with ⟨ys,e,r,z⟩;exact r.vb
 | dict es=>rcases p with ⟨xs,ep,e,r,nd⟩;exact fun k v q=>r.vb _ (lkG_mem eqS_iff q)
 | sdict t=>rcases p with ⟨xs,ep,e,r,nd⟩;exact fun k v q=>r.vb _ (lkG_mem eqS_iff q)
 | inst C gs=>rcases p with ⟨xs,ep,d,e,e2,r,_⟩;exact fun y hy=>r.vb (W.P.sy y.1,y.2) (List.mem_map.mpr ⟨y,hy,rfl⟩)
 | rsv=>trivial
 | rng k=>trivial
 | cell0=>trivial
 | cell v=>rcases p with ⟨x,e,r⟩;exact r.vb
 | clo b kd cs=>
  rcases p with ⟨o,fd,e,d,b1,b2,b3,b4,b5,b6,b7,b8,b9,b10,c1,c2⟩
  exact fun x a q=>(c1 x a q).1
theorem Phys.conc {l:Nat} {o:O} (p:Phys W ρ n h l o):Phys W ρ n h l (o.conc W.θ W.ϑ):=by
 cases o<;>exact p
theorem Phys.unconc {l:Nat} {o:O} (p:Phys W ρ n h l (o.conc W.θ W.ϑ)):Phys W ρ n h l o:=by
 cases o<;>exact p
theorem trk_conc {b:Addr}:Trk ρ (J.conc W.θ W.ϑ) b↔Trk ρ J b:=
 ⟨fun ⟨l,o,e,q⟩=>let ⟨o',a,_⟩:=at_conc e;⟨l,o',a,q⟩,fun ⟨l,o,e,q⟩=>⟨l,_,conc_at e,q⟩⟩
theorem Rep.conc (R:Rep W ρ J h):Rep W ρ (J.conc W.θ W.ϑ) h:=by
 refine⟨fun l o e=>?_,fun l l' o o' e e' z=>?_,fun b t=>R.new b (trk_conc.mp t),fun l o e=>?_,R.keep,fun t=>R.pt (trk_conc.mp t),R.tab,fun l C gs e=>?_,R.ptn⟩
 ·obtain⟨o',a,z⟩:=at_conc e
  rw[<-z]
  exact(R.obj l o' a).conc
 ·obtain⟨a,ha,_⟩:=at_conc e
  obtain⟨b,hb,_⟩:=at_conc e'
  exact R.inj _ _ _ _ ha hb z
 ·obtain⟨a,ha,_⟩:=at_conc e
  exact R.bd _ _ ha
 ·obtain⟨a,ha,q⟩:=at_conc e
  rw[O.conc_inst q] at ha
  exact conc_at (R.dic l C gs ha)
theorem Off.conc {a:Addr} (bU:Off W ρ J a):Off W ρ (J.conc W.θ W.ϑ) a:=⟨fun t=>bU.trk (trk_conc.mp t),bU.base,bU.pt⟩
theorem Cst.conc {k:Nat} {hd:Bool} (C:Cst W k hd A ρ J h):Cst W k hd A ρ (J.conc W.θ W.ϑ) h:=
 ⟨C.rep.conc,fun e he=>by rcases C.fr e he with ⟨k,L,o,a,b,c,d⟩;exact⟨k,L,o,a,b,c,d.conc⟩,C.ne,C.dep,C.uni,C.hd.imp id fun ⟨a,e,b,H⟩=>⟨a,e,b,H.at_,H.off.conc,H.nf⟩⟩
theorem Rep.bds (R:Rep W ρ J h):BdS (J.conc W.θ W.ϑ):=R.conc.bd
theorem VR.back {bw:Nat->Addr} {n n' N:Nat} {v:V} {x:Value} (r:VR ah N v x) (b:VB n v) (a:∀ l,l<n->bw l=ah l) (hn:n<=n'):VR bw n' v x:=by
 cases r with
 | none=>exact .none
 | bool c=>exact .bool c
 | int i t=>exact .int i t
 | str s t=>exact .str s t
 | ref l h=>rw[<-a l b];exact .ref l (Nat.lt_of_lt_of_le b hn)
 | top _ hh=>exact .top _ hh
theorem mem_lkS {fs:List (List Nat×V)} (nd:(fs.map (·.1)).Nodup):∀ p∈fs,lkS fs p.1=some p.2:=by
 induction fs with
 | nil=>exact fun p h=>nomatch h
 | cons q r ih=>
  intro p hp
  have nd:=List.nodup_cons.mp nd
  rcases List.mem_cons.mp hp with z|hp
  ·rw[z];exact cnT (eqS_self _)
  ·exact(cnF (eqS_ne fun z=>nd.1 (List.mem_map.mpr ⟨p,hp,z.symm⟩))).trans (ih nd.2 p hp)
theorem OB.vals {N l:Nat} {o:O} (b:OB n (o.conc W.θ W.ϑ)) (p:Phys W ah N h l o):∀ v∈O.vals W o,VB n v:=by
 have dc:∀ {es:List (List Nat×V)} {a:Addr},PD W.w.params ah N h a es->(∀ k v,lkS es k=some v->VB n v)->∀ v∈es.map (·.2),VB n v:=fun p b v hv=>by
  rcases p with ⟨xs,ep,e,r,nd⟩
  obtain⟨y,hy,z⟩:=List.mem_map.mp hv
  exact z▸b _ _ (mem_lkS nd y hy)
 induction o using Mine.O.casesOn with
 | list vs=>exact b
 | slist t=>exact b
 | tup vs=>exact b
 | dict es=>exact dc p b
 | sdict t=>exact dc p b
 | inst C gs=>
  intro v hv
  obtain⟨y,hy,z⟩:=List.mem_map.mp hv
  exact z▸b y hy
 | cell v=>exact fun u hu=>by rw[List.mem_singleton.mp hu];exact b
 | _=>exact fun u hu=>nomatch hu
theorem Phys.back {bw:Nat->Addr} {n n' N lo l:Nat} {o:O} (p:Phys W ah N h lo o) (b:OB n (o.conc W.θ W.ϑ)) (a:∀ j,j<n->bw j=ah j) (hn:n<=n') (hl:bw l=ah lo) (h2:∀ C fs,o=.inst C fs->bw (l+1)=ah (lo+1)):Phys W bw n' h l o:=
 p.tr (fun v hv x r=>r.back (b.vals p v hv) a hn) hl rfl (fun C fs e=>⟨h2 C fs e,rfl⟩) fun b' kd cs e=>⟨fun _ _ x=>x,fun x c q _=>by rw[e] at b;exact⟨Nat.lt_of_lt_of_le (b x c q) hn,a c (b x c q)⟩⟩
structure Told (W:Wd) (n lv:Nat) (af τ:Store):Prop where
 hn:n<=τ.n
 hn':n<=af.n
 at_:∀ l o,af.get l=some o->(l<n/\τ.get l=some (o.conc W.θ W.ϑ))\/(l=n/\n<af.n/\n<=lv/\τ.get lv=some (o.conc W.θ W.ϑ)/\∀ C fs,o≠.inst C fs)
 ob:∀ l o,af.get l=some o->OB n (o.conc W.θ W.ϑ)
 dic:∀ l C fs,af.get l=some (.inst C fs)->af.get (l+1)=some .rsv/\l+1<n
theorem Rep.back {lv:Nat} (R:Rep W ah τ h) (T:Told W n lv af τ):Rep W (rhoAt ah n (ah lv)) af h:=by
 have lo:∀ l o,af.get l=some o->∃ j,rhoAt ah n (ah lv) l=ah j/\τ.get j=some (o.conc W.θ W.ϑ)/\((l<n/\j=l)\/(l=n/\n<=j)):=fun l o e=>by
  rcases T.at_ l o e with ⟨a,b⟩|⟨a,c,d,b,_⟩
  ·exact⟨l,rhoAt_lt a,b,.inl ⟨a,rfl⟩⟩
  ·exact⟨lv,by rw[a];exact rhoAt_self,b,.inr ⟨a,d⟩⟩
 have trk:∀ b,Trk (rhoAt ah n (ah lv)) af b->Trk ah τ b:=fun b ⟨l,o,e,q⟩=>by
  obtain⟨j,a,b',_⟩:=lo l o e
  exact⟨j,_,b',a▸q⟩
 refine⟨fun l o e=>?_,fun l l' o o' e e' z=>?_,fun b t=>R.new b (trk b t),fun l o e=>?_,R.keep,fun t=>R.pt (trk _ t),R.tab,fun l C gs e=>(T.dic l C gs e).1,R.ptn⟩
 ·obtain⟨j,a,b,c⟩:=lo l o e
  refine(R.obj j _ b).unconc.back (T.ob l o e) (fun i hi=>rhoAt_lt hi) T.hn' a fun C gs q=>?_
  subst q
  have:=T.dic l C gs e
  rcases c with ⟨c,rfl⟩|⟨c,_⟩
  ·exact rhoAt_lt this.2
  ·omega
 ·obtain⟨j,a,b,c⟩:=lo l o e
  obtain⟨j',a',b',c'⟩:=lo l' o' e'
  rw[a,a'] at z
  have:=R.inj _ _ _ _ b b' z
  omega
 ·rcases T.at_ l o e with ⟨a,_⟩|⟨a,c,_⟩
  ·exact Nat.lt_of_lt_of_le a T.hn'
  ·omega
theorem Stp.back {lv:Nat} (aB:Rep W ρ J h) (st:Stp W F X ρ (J.conc W.θ W.ϑ) h ah τ h') (T:Told W J.n lv af τ):Stp W F X ρ J h (rhoAt ah J.n (ah lv)) af h':=by
 refine⟨st.rep.back T,fun l hl=>(rhoAt_lt hl).trans (st.agree l hl),T.hn',fun l o e=>?_,⟨st.kept.size,fun b o e u p x=>st.kept.keep b o e (fun t=>u (trk_conc.mp t)) p x⟩⟩
 rcases T.at_ l o e with ⟨a,b⟩|⟨a,c,d,b,_⟩
 ·rcases st.dom l _ b with ⟨be,aO⟩|z
  ·obtain⟨o',q,_⟩:=at_conc aO
   exact .inl ⟨o',q⟩
  ·exact .inr (by rw[rhoAt_lt a];exact z)
 ·rcases st.dom lv _ b with ⟨be,aO⟩|z
  ·obtain⟨o',q,_⟩:=at_conc aO
   have:=aB.bd _ _ q
   omega
  ·exact .inr (by rw[a,rhoAt_self];exact z)
theorem orc {E:Ev} {k a:Nat} {hd:Bool} {d:FD} {as:List V} {xs:List Value} {v v':V} {lv:Nat} (I:SEv W E) (hd':W.P.fn a=some d) (C:Cst W k hd A ρ J s.heap) (hv:VRs ρ J.n as xs) (run:E.call k hd (.top (.ref a)) as (J.conc W.θ W.ϑ)=.ok v' τ) (T:Told W J.n lv af τ)
  (hvv:(v=v'/\VB J.n v)\/(v=.ref J.n/\v'=.ref lv/\J.n<af.n)):WC W A (.call (.ref a) ⟨xs,[]⟩) (.ok v af) ρ J s:=by
 have w:=I.cfn (s:=s) hd' C.conc hv
 rw[run] at w
 refine fun T' q=>w T' fun ah h' tk pv st hp=>q _ h' tk pv (Stp.back C.rep st T) ?_
 rcases hvv with ⟨rfl,hb⟩|⟨rfl,rfl,hl⟩
 ·exact hp.back hb (fun l hl=>rhoAt_lt hl) T.hn'
 ·cases hp with
  | ref _ _=>
   have:=VR.ref (ρ:=rhoAt ah J.n (ah lv)) (n:=af.n) J.n hl
   rwa [rhoAt_self] at this
end
end

section
open PySem
theorem beq_tf (a b:Nat):Nat.beq a b=decide (a=b):=by
 by_cases h:a=b
 ·rw[beqT h,decide_eq_true h]
 ·rw[beqF h,decide_eq_false h]
noncomputable def rdI (J:Store) (l:Nat):Option (List (Nat×V)):=match J.get l with|some (.inst _ fs)=>some fs|_=>none
noncomputable def rdD (J:Store) (l:Nat):Option (List (List Nat×V)):=match J.get l with|some (.dict es)=>some es|_=>none
noncomputable def rdL (J:Store) (l:Nat):Option (List V):=match J.get l with|some (.list vs)=>some vs|_=>none
noncomputable def rdS (J:Store) (l:Nat):Option Nat:=match J.get l with|some (.slist t)=>some t|_=>none
noncomputable def rR (v:Option V):Option Nat:=match v with|some (.ref l)=>some l|_=>none
noncomputable def rI (v:Option V):Option Int:=match v with|some (.int i)=>some i|_=>none
noncomputable def isB (v:Option V) (b:Bool):Bool:=match v with|some (.bool c)=>(match b with|true=>c|false=>!c)|_=>false
noncomputable def isN (v:Option V):Bool:=match v with|some .none=>true|_=>false
noncomputable def isS (v:Option V) (s:List Nat):Bool:=match v with|some (.str t)=>eqS t s|_=>false
theorem rdI_at {J:Store} {l:Nat} {fs:List (Nat×V)} (h:rdI J l=some fs):∃ C,J.get l=some (.inst C fs):=by
 unfold rdI at h;split at h
 ·rename_i C gs q;cases h;exact⟨C,q⟩
 ·cases h
theorem rdD_at {J:Store} {l:Nat} {es:List (List Nat×V)} (h:rdD J l=some es):J.get l=some (.dict es):=by
 unfold rdD at h;split at h
 ·rename_i q;cases h;exact q
 ·cases h
theorem rdL_at {J:Store} {l:Nat} {vs:List V} (h:rdL J l=some vs):J.get l=some (.list vs):=by
 unfold rdL at h;split at h
 ·rename_i q;cases h;exact q
 ·cases h
theorem rdS_at {J:Store} {l t:Nat} (h:rdS J l=some t):J.get l=some (.slist t):=by
 unfold rdS at h;split at h
 ·rename_i q;cases h;exact q
 ·cases h
theorem rR_at {v:Option V} {l:Nat} (h:rR v=some l):v=some (.ref l):=by
 unfold rR at h;split at h
 ·cases h;rfl
 ·cases h
theorem rI_at {v:Option V} {i:Int} (h:rI v=some i):v=some (.int i):=by
 unfold rI at h;split at h
 ·cases h;rfl
 ·cases h
theorem isB_at {v:Option V} {b:Bool} (h:isB v b=true):v=some (.bool b):=by
 unfold isB at h;split at h
 ·rename_i c;cases b<;>cases c<;>first|rfl|cases h
 ·cases h
theorem isN_at {v:Option V} (h:isN v=true):v=some .none:=by
 unfold isN at h;split at h
 ·rfl
 ·cases h
theorem isS_at {v:Option V} {s:List Nat} (h:isS v s=true):v=some (.str s):=by
 unfold isS at h;split at h
 ·rw[(eqS_iff _ _).mp h]
 ·cases h
section
variable {θ:Nat->List V} {ϑ:Nat->List (List Nat×V)} {J:Store} {l:Nat}
theorem c_inst {C:Nat} {fs:List (Nat×V)} (h:J.get l=some (.inst C fs)):(J.conc θ ϑ).get l=some (.inst C fs):=conc_at h
theorem c_dict {es:List (List Nat×V)} (h:J.get l=some (.dict es)):(J.conc θ ϑ).get l=some (.dict es):=conc_at h
theorem c_list {vs:List V} (h:J.get l=some (.list vs)):(J.conc θ ϑ).get l=some (.list vs):=conc_at h
theorem c_slist {t:Nat} (h:J.get l=some (.slist t)):(J.conc θ ϑ).get l=some (.list (θ t)):=conc_at h
theorem c_sdict {t:Nat} (h:J.get l=some (.sdict t)):(J.conc θ ϑ).get l=some (.dict (ϑ t)):=conc_at h
end
noncomputable def guard' {α:Type} (b:Bool) (x:Option α):Option α:=match b with|true=>x|false=>none
theorem guard_at {α:Type} {b:Bool} {x:Option α} {y:α} (h:guard' b x=some y):b=true/\x=some y:=by
 induction b using Bool.casesOn with
 | true=>exact⟨rfl,h⟩
 | false=>cases h
namespace L1
noncomputable def rVis (J:Store) (x:Nat):Bool:=match rdI J x with|some fs=>(match isB (lk fs k_is_ready) true with|true=>isB (lk fs k_is_overridden) false|false=>false)|none=>false
noncomputable def rEnt (J:Store) (x:Nat):Option Int:=(rdI J x).bind fun fs=>guard' (isS (lk fs k_part) (sy k_visible)) (guard' (isB (lk fs k_is_ready) true) (guard' (isB (lk fs k_is_overridden) false) (guard' (isN (lk fs k_key)) (rI (lk fs k_number)))))
noncomputable def rPkg (J:Store) (s:List Nat) (p:Nat):Option (Option (Nat×Int)):=(rdI J p).bind fun fs=>guard' (isN (lk fs k_data)) ((rR (lk fs k_region)).bind fun g=>(rdI J g).bind fun gs=>(rR (lk gs k_names)).bind fun d=>(rdD J d).bind fun ds=>
 match lkS ds s with
 | none=>some none
 | some v=>(rR (some v)).bind fun le=>(rdL J le).bind fun xs=>match xs with
  | [.ref x]=>(rEnt J x).map fun i=>some (x,i)
  | _=>none)
noncomputable def rNm (J:Store) (s:List Nat) (fs:List (Nat×V)):Option (Option Nat):=(rR (lk fs k_names)).bind fun d=>(rdD J d).bind fun ds=>
 match lkS ds s with
 | none=>some none
 | some v=>(rR (some v)).bind fun le=>(rdL J le).bind fun xs=>match xs with
  | [.ref x]=>guard' (rVis J x) (some (some x))
  | _=>none
theorem rVis_at {J:Store} {x:Nat} (h:rVis J x=true):∃ C fs,J.get x=some (.inst C fs)/\lk fs k_is_ready=some (.bool true)/\lk fs k_is_overridden=some (.bool false):=by
 unfold rVis at h
 split at h
 ·rename_i fs q
  obtain⟨C,a⟩:=rdI_at q
  split at h
  ·rename_i q1
   exact⟨C,fs,a,isB_at q1,isB_at h⟩
  ·cases h
 ·cases h
section
variable {θ:Nat->List V} {ϑ:Nat->List (List Nat×V)} {J:Store}
theorem rEnt_at {x:Nat} {i:Int} (h:rEnt J x=some i):Ent (J.conc θ ϑ) x i:=by
 obtain⟨fs,q,h⟩:=Option.bind_eq_some_iff.mp h
 obtain⟨C,a⟩:=rdI_at q
 obtain⟨h1,h⟩:=guard_at h
 obtain⟨h2,h⟩:=guard_at h
 obtain⟨h3,h⟩:=guard_at h
 obtain⟨h4,h⟩:=guard_at h
 exact⟨C,fs,c_inst a,isS_at h1,isB_at h2,isB_at h3,rI_at h,isN_at h4⟩
theorem rPkg_at {s:List Nat} {p:Nat} {xo:Option (Nat×Int)} (h:rPkg J s p=some xo):Pkg (J.conc θ ϑ) s p xo:=by
 obtain⟨fs,q,h⟩:=Option.bind_eq_some_iff.mp h
 obtain⟨C,a⟩:=rdI_at q
 obtain⟨h1,h⟩:=guard_at h
 obtain⟨g,q2,h⟩:=Option.bind_eq_some_iff.mp h
 obtain⟨gs,q3,h⟩:=Option.bind_eq_some_iff.mp h
 obtain⟨C',a3⟩:=rdI_at q3
 obtain⟨d,q4,h⟩:=Option.bind_eq_some_iff.mp h
 obtain⟨ds,q5,h⟩:=Option.bind_eq_some_iff.mp h
 refine⟨C,fs,g,C',gs,d,ds,c_inst a,rR_at q2,isN_at h1,c_inst a3,rR_at q4,c_dict (rdD_at q5),?_⟩
 split at h
 ·rename_i z;cases h;exact z
 ·rename_i v z
  obtain⟨le,b1,h⟩:=Option.bind_eq_some_iff.mp h
  obtain⟨xs,b2,h⟩:=Option.bind_eq_some_iff.mp h
  split at h
  ·rename_i x
   obtain⟨i,b3,rfl⟩:=Option.map_eq_some_iff.mp h
   exact⟨le,by rw[z,rR_at b1],c_list (rdL_at b2),rEnt_at b3⟩
  ·cases h
theorem rNm_at {s:List Nat} {r C:Nat} {fs:List (Nat×V)} {o:Option Nat} {par:V} (h0:J.get r=some (.inst C fs)) (hp:lk fs k_parent=some par) (h:rNm J s fs=some o):NmAt (J.conc θ ϑ) s r o par:=by
 obtain⟨d,q4,h⟩:=Option.bind_eq_some_iff.mp h
 obtain⟨ds,q5,h⟩:=Option.bind_eq_some_iff.mp h
 refine⟨C,fs,d,ds,c_inst h0,rR_at q4,c_dict (rdD_at q5),hp,?_⟩
 split at h
 ·rename_i z;cases h;exact z
 ·rename_i v z
  obtain⟨le,b1,h⟩:=Option.bind_eq_some_iff.mp h
  obtain⟨xs,b2,h⟩:=Option.bind_eq_some_iff.mp h
  split at h
  ·rename_i x
   obtain⟨b3,b4⟩:=guard_at h
   cases b4
   obtain⟨C',fs',c1,c2⟩:=rVis_at b3
   exact⟨le,by rw[z,rR_at b1],c_list (rdL_at b2),C',fs',c_inst c1,c2⟩
  ·cases h
end
end L1
namespace L1
theorem offer_flat:∀ (rows:List (List (Nat×Option (Nat×Int)))) (F:List (Nat×Int)),offer F rows=(rows.flatMap xsP).foldl addE F
 | [],F=>rfl
 | ps::r,F=>by
  rw[List.flatMap_cons,List.foldl_append,<-offer_flat r];rfl
theorem addE_sub {F:List (Nat×Int)} {y z:Nat×Int} (h:z∈F):z∈addE F y:=by
 unfold addE
 split
 ·exact List.mem_append_left _ h
 ·exact h
theorem addE_num (F:List (Nat×Int)) (y:Nat×Int):∃ z∈addE F y,z.2=y.2:=by
 unfold addE
 split
 ·exact⟨y,by simp,rfl⟩
 ·rename_i hne
  induction hF:F.filter fun z=>eqI z.2 y.2 using List.casesOn with
  | nil=>exact absurd hF (by simpa using hne)
  | cons z r=>
   have:z∈F.filter fun z=>eqI z.2 y.2:=by rw[hF];exact .head _
   rw[List.mem_filter] at this
   exact⟨z,this.1,(eqI_iff _ _).mp this.2⟩
theorem foldl_sub:∀ {ys F:List (Nat×Int)} {z:Nat×Int},z∈F->z∈ys.foldl addE F
 | [],F,z,h=>h
 | y::ys,F,z,h=>foldl_sub (ys:=ys) (addE_sub h)
theorem foldl_num:∀ {ys F:List (Nat×Int)} {y:Nat×Int},y∈ys->∃ z∈ys.foldl addE F,z.2=y.2
 | y::ys,F,w,h=>by
  rcases List.mem_cons.mp h with rfl|h
  ·obtain⟨z,a,b⟩:=addE_num F w
   exact⟨z,foldl_sub (ys:=ys) (F:=addE F w) a,b⟩
  ·exact foldl_num (ys:=ys) h
theorem addE_same (x:Nat×Int):addE [x] x=[x]:=by
 unfold addE
 have:([x].filter fun z=>eqI z.2 x.2)=[x]:=by
  rw[List.filter_cons,if_pos ((eqI_iff _ _).mpr rfl)];rfl
 rw[this]
theorem foldl_all:∀ {ys:List (Nat×Int)} {x:Nat×Int},(∀ y∈ys,y=x)->ys.foldl addE [x]=[x]
 | [],x,_=>rfl
 | y::ys,x,h=>by
  rw[List.foldl_cons,h y (.head _),addE_same]
  exact foldl_all fun z hz=>h z (.tail _ hz)
theorem offer_one {rows:List (List (Nat×Option (Nat×Int)))} {x:Nat×Int} (h:∀ y∈rows.flatMap xsP,y=x) (hx:x∈rows.flatMap xsP):offer [] rows=[x]:=by
 rw[offer_flat]
 induction hf:rows.flatMap xsP using List.casesOn with
 | nil=>rw[hf] at hx;cases hx
 | cons y r=>
  rw[hf] at h
  rw[List.foldl_cons,h y (.head _)]
  exact foldl_all fun z hz=>h z (.tail _ hz)
theorem offer_nil {rows:List (List (Nat×Option (Nat×Int)))} (h:rows.flatMap xsP=[]):offer [] rows=[]:=by rw[offer_flat,h];rfl
theorem offer_two {rows:List (List (Nat×Option (Nat×Int)))} {x y:Nat×Int} (hx:x∈rows.flatMap xsP) (hy:y∈rows.flatMap xsP) (ne:x.2≠y.2):1<(offer [] rows).length:=by
 rw[offer_flat]
 obtain⟨a,ha,qa⟩:=foldl_num (F:=[]) hx
 obtain⟨b,hb,qb⟩:=foldl_num (F:=[]) hy
 induction hl:(rows.flatMap xsP).foldl addE [] using List.casesOn with
 | nil=>rw[hl] at ha;cases ha
 | cons c r=>
  induction r using List.casesOn with
  | nil=>
   rw[hl] at ha hb
   have h1:=List.mem_singleton.mp ha
   have h2:=List.mem_singleton.mp hb
   exact absurd (by rw[<-qa,<-qb,h1,h2]) ne
  | cons d r=>simp
structure OD where
 pk:List (List Nat×Nat×Int)
 told:List Nat->Bool
 xa:List Nat->Option (Option (List Nat))
 ut:Nat->Bool
inductive RW where
 | cc (ps:List (Nat×Option (Nat×Int)))
 | tg (t:Nat)
noncomputable def rPs (J:Store) (s:List Nat):List V->Option (List (Nat×Option (Nat×Int)))
 | []=>some []
 | v::r=>(rR (some v)).bind fun p=>(rPkg J s p).bind fun xo=>(rPs J s r).bind fun q=>some ((p,xo)::q)
noncomputable def rUse (O:OD) (J:Store) (s:List Nat) (lu:Nat):Option RW:=match rdS J lu with
 | some t=>guard' (O.ut t) (some (.tg t))
 | none=>(rdL J lu).bind fun vs=>(rPs J s vs).bind fun ps=>some (.cc ps)
noncomputable def rChain (O:OD) (J:Store) (s:List Nat):Nat->V->Option (List (Option Nat)×List RW)
 | 0,_=>none
 | n+1,pl=>match pl with
  | .none=>some ([],[])
  | .ref r=>(rdI J r).bind fun fs=>(rNm J s fs).bind fun o=>(rR (lk fs k_uses)).bind fun lu=>(rUse O J s lu).bind fun u=>(rR (lk fs k_use_types)).bind fun lt=>(rdL J lt).bind fun ts=>match ts with
   | []=>(lk fs k_parent).bind fun par=>(rChain O J s n par).bind fun q=>some (o::q.1,u::q.2)
   | _=>none
  | _=>none
noncomputable def rPk (J:Store) (s:List Nat):List (List Nat×Nat×Int)->Option (List (List Nat×Nat×Option (Nat×Int)))
 | []=>some []
 | e::r=>(rPkg J s e.2.1).bind fun xo=>(rPk J s r).bind fun q=>some ((e.1,e.2.1,xo)::q)
noncomputable def rowOf (U:Nat->List (Nat×Int)) (xf:Nat->Option (Nat×Int)):RW->List (Nat×Option (Nat×Int))
 | .cc ps=>ps
 | .tg t=>(U t).map fun y=>(y.1,xf y.1)
noncomputable def xfOf:List (List Nat×Nat×Option (Nat×Int))->Nat->Option (Nat×Int)
 | [],_=>none
 | e::r,p=>match Nat.beq e.2.1 p with
  | true=>e.2.2
  | false=>xfOf r p
structure ODOk (θ:Nat->List V) (O:OD) (U:Nat->List (Nat×Int)):Prop where
 u:∀ t,O.ut t=true->θ t=refs (U t)/\(∀ y∈U t,∃ e∈O.pk,y=(e.2.1,e.2.2))/\(U t).length<=6
section
variable {θ:Nat->List V} {ϑ:Nat->List (List Nat×V)} {J:Store} {O:OD} {U:Nat->List (Nat×Int)} {s:List Nat}
theorem rPs_at:∀ {vs:List V} {ps:List (Nat×Option (Nat×Int))},rPs J s vs=some ps->vs=ps.map (fun q=>.ref q.1)/\∀ q∈ps,Pkg (J.conc θ ϑ) s q.1 q.2
 | [],ps,h=>by cases h;exact⟨rfl,fun q hq=>nomatch hq⟩
 | v::r,ps,h=>by
  obtain⟨p,h1,h⟩:=Option.bind_eq_some_iff.mp h
  obtain⟨xo,h2,h⟩:=Option.bind_eq_some_iff.mp h
  obtain⟨q,h3,h⟩:=Option.bind_eq_some_iff.mp h
  cases h
  obtain⟨a,b⟩:=rPs_at h3
  have hv:v=.ref p:=by
   have:=rR_at h1
   exact Option.some.inj this
  refine⟨by rw[List.map_cons,<-a,hv],fun z hz=>?_⟩
  rcases List.mem_cons.mp hz with rfl|hz
  ·exact rPkg_at h2
  ·exact b z hz
theorem rPk_at:∀ {pk:List (List Nat×Nat×Int)} {px:List (List Nat×Nat×Option (Nat×Int))},rPk J s pk=some px->∀ e∈pk,Pkg (J.conc θ ϑ) s e.2.1 (xfOf px e.2.1)
 | [],px,h=>fun e he=>nomatch he
 | e::r,px,h=>by
  obtain⟨xo,h2,h⟩:=Option.bind_eq_some_iff.mp h
  obtain⟨q,h3,h⟩:=Option.bind_eq_some_iff.mp h
  cases h
  intro z hz
  unfold xfOf
  dsimp only
  by_cases hq:e.2.1=z.2.1
  ·rw[beq_tf,decide_eq_true hq]
   rw[<-hq];exact rPkg_at h2
  ·rw[beq_tf,decide_eq_false hq]
   rcases List.mem_cons.mp hz with rfl|hz
   ·exact absurd rfl hq
   ·exact rPk_at h3 z hz
theorem rChain_at (ok:ODOk θ O U) {px:List (List Nat×Nat×Option (Nat×Int))} (hpx:rPk J s O.pk=some px):∀ {n:Nat} {pl:V} {q:List (Option Nat)×List RW},rChain O J s n pl=some q ->
  NCh (J.conc θ ϑ) s pl q.1/\Ch (J.conc θ ϑ) s pl (q.2.map (rowOf U (xfOf px)))/\q.1.length<=n/\q.2.length<=n
 | 0,pl,q,h=>by cases h
 | n+1,pl,q,h=>by
  unfold rChain at h
  split at h
  ·cases h;exact⟨.nil,.nil,Nat.zero_le _,Nat.zero_le _⟩
  ·rename_i r
   obtain⟨fs,h1,h⟩:=Option.bind_eq_some_iff.mp h
   obtain⟨C,a1⟩:=rdI_at h1
   obtain⟨o,h2,h⟩:=Option.bind_eq_some_iff.mp h
   obtain⟨lu,h3,h⟩:=Option.bind_eq_some_iff.mp h
   obtain⟨u,h4,h⟩:=Option.bind_eq_some_iff.mp h
   obtain⟨lt,h5,h⟩:=Option.bind_eq_some_iff.mp h
   obtain⟨ts,h6,h⟩:=Option.bind_eq_some_iff.mp h
   split at h
   ·obtain⟨par,h7,h⟩:=Option.bind_eq_some_iff.mp h
    obtain⟨q',h8,h⟩:=Option.bind_eq_some_iff.mp h
    cases h
    obtain⟨b1,b2,b3,b4⟩:=rChain_at ok hpx h8
    have row:(J.conc θ ϑ).get lu=some (.list ((rowOf U (xfOf px) u).map fun q=>.ref q.1))/\∀ z∈rowOf U (xfOf px) u,Pkg (J.conc θ ϑ) s z.1 z.2:=by
     unfold rUse at h4
     split at h4
     ·rename_i t ht
      obtain⟨g1,g2⟩:=guard_at h4
      cases g2
      obtain⟨u1,u2,u3⟩:=ok.u t g1
      refine⟨?_,fun z hz=>?_⟩
      ·rw[c_slist (rdS_at ht),u1]
       unfold rowOf refs
       rw[List.map_map];rfl
      ·obtain⟨y,hy,rfl⟩:=List.mem_map.mp hz
       obtain⟨e,he,rfl⟩:=u2 y hy
       exact rPk_at hpx e he
     ·obtain⟨vs,k1,k⟩:=Option.bind_eq_some_iff.mp h4
      obtain⟨ps,k2,k⟩:=Option.bind_eq_some_iff.mp k
      cases k
      obtain⟨p1,p2⟩:=rPs_at k2
      exact⟨by rw[c_list (rdL_at k1),p1];rfl,p2⟩
    refine⟨.cons (rNm_at a1 h7 h2) b1,.cons (c_inst a1) (rR_at h3) row.1 (rR_at h5) (c_list (rdL_at h6)) h7 row.2 b2,by simp;exact b3,by simp;exact b4⟩
   ·cases h
  ·cases h
end
noncomputable def tagsOf:List RW->List Nat
 | []=>[]
 | .cc _::r=>tagsOf r
 | .tg t::r=>t::tagsOf r
noncomputable def noX:List (Nat×Option (Nat×Int))->Bool
 | []=>true
 | q::r=>match q.2 with|none=>noX r|some _=>false
noncomputable def ccNone:List RW->Bool
 | []=>true
 | .cc ps::r=>(match noX ps with|true=>ccNone r|false=>false)
 | .tg _::r=>ccNone r
noncomputable def ccLen:List RW->Nat
 | []=>0
 | .cc ps::r=>ps.length+ccLen r
 | .tg _::r=>6+ccLen r
noncomputable def allNone:List (Option Nat)->Bool
 | []=>true
 | none::r=>allNone r
 | some _::_=>false
noncomputable def onceB:List (Option Nat)->Bool
 | []=>true
 | none::r=>onceB r
 | some _::r=>allNone r
noncomputable def pxNone:List (List Nat×Nat×Option (Nat×Int))->Bool
 | []=>true
 | e::r=>match e.2.2 with|none=>pxNone r|some _=>false
noncomputable def toldB (O:OD):List (List Nat×Nat×Option (Nat×Int))->Bool
 | []=>true
 | e::r=>match e.2.2 with
  | none=>(match O.told e.1 with|true=>false|false=>toldB O r)
  | some _=>(match O.told e.1 with|true=>toldB O r|false=>false)
noncomputable def numNot (i:Int):List (List Nat×Nat×Option (Nat×Int))->Bool
 | []=>true
 | e::r=>match e.2.2 with
  | none=>numNot i r
  | some y=>(match eqI i y.2 with|true=>false|false=>numNot i r)
noncomputable def numsB:List (List Nat×Nat×Option (Nat×Int))->Bool
 | []=>true
 | e::r=>match e.2.2 with
  | none=>numsB r
  | some y=>(match numNot y.2 r with|true=>numsB r|false=>false)
noncomputable def pickX (s:List Nat):List (List Nat×Nat×Option (Nat×Int))->Option Nat
 | []=>none
 | e::r=>match eqS e.1 s with
  | true=>(match e.2.2 with|some y=>some y.1|none=>none)
  | false=>pickX s r
noncomputable def gLook (O:OD) (k:Nat) (hd:Bool) (as:List V) (J:Store):Option (Mine.R V):=match as with
 | [pl,.str s]=>guard' (Nat.ble 3 k) ((rChain O J s 12 pl).bind fun q=>match tagsOf q.2 with
  | []=>none
  | t::ts=>guard' (onceB q.1) (guard' (Nat.ble (ccLen q.2) 30) (guard' (ccNone q.2) ((rPk J s O.pk).bind fun px=>match pxNone px with
   | true=>some (.ok (.ref J.n) (J.add (.list (oneOf (theOne q.1)))))
   | false=>guard' (allNone q.1) (guard' (toldB O px) (guard' (numsB px) ((O.xa (t::ts)).bind fun r=>match r with
    | none=>some (.ok (.ref J.n) (J.add (.list [])))
    | some s'=>(pickX s' px).bind fun x=>some (.ok (.ref J.n) (J.add (.list [.ref x]))))))))))
 | _=>none
structure XaOk (O:OD) (U:Nat->List (Nat×Int)):Prop where
 nd:(O.pk.map fun e=>e.2.1).Nodup
 nl:(O.pk.map fun e=>e.1).Nodup
 no:∀ ts,O.xa ts=some none->(∀ e∈O.pk,O.told e.1=true->∀ t∈ts,(e.2.1,e.2.2)∉U t) \/
  ∃ e∈O.pk,∃ f∈O.pk,O.told e.1=true/\O.told f.1=true/\(∃ t∈ts,(e.2.1,e.2.2)∈U t)/\(∃ t∈ts,(f.2.1,f.2.2)∈U t)/\e.2.1≠f.2.1
 yes:∀ ts s,O.xa ts=some (some s)->(∃ e∈O.pk,e.1=s/\O.told e.1=true/\∃ t∈ts,(e.2.1,e.2.2)∈U t)/\∀ e∈O.pk,O.told e.1=true->(∃ t∈ts,(e.2.1,e.2.2)∈U t)->e.1=s
section
variable {θ:Nat->List V} {ϑ:Nat->List (List Nat×V)} {J:Store} {O:OD} {U:Nat->List (Nat×Int)} {s:List Nat}
theorem noX_xsP:∀ {ps:List (Nat×Option (Nat×Int))},noX ps=true->xsP ps=[]
 | [],_=>rfl
 | (p,xo)::r,h=>by
  unfold noX at h
  induction xo using Option.casesOn with
  | none=>exact noX_xsP (ps:=r) h
  | some y=>cases h
theorem flat_mem {xf:Nat->Option (Nat×Int)}:∀ {us:List RW},ccNone us=true->∀ x,(x∈(us.map (rowOf U xf)).flatMap xsP↔∃ t∈tagsOf us,∃ y∈U t,xf y.1=some x)
 | [],_,x=>by simp[tagsOf]
 | .cc ps::r,h,x=>by
  unfold ccNone at h
  split at h
  ·rename_i h0
   rw[List.map_cons,List.flatMap_cons]
   have:xsP (rowOf U xf (.cc ps))=[]:=noX_xsP h0
   rw[this,List.nil_append]
   exact flat_mem h x
  ·cases h
 | .tg t::r,h,x=>by
  rw[List.map_cons,List.flatMap_cons,List.mem_append,flat_mem (us:=r) h x]
  have:x∈xsP (rowOf U xf (.tg t))↔∃ y∈U t,xf y.1=some x:=by
   unfold xsP rowOf
   rw[List.mem_filterMap]
   constructor
   ·rintro⟨q,hq,e⟩
    obtain⟨y,hy,rfl⟩:=List.mem_map.mp hq
    exact⟨y,hy,e⟩
   ·rintro⟨y,hy,e⟩
    exact⟨_,List.mem_map.mpr ⟨y,hy,rfl⟩,e⟩
  rw[this]
  show _↔∃ t'∈t::tagsOf r,_
  constructor
  ·rintro(⟨y,hy,e⟩|⟨t',ht,q⟩)
   ·exact⟨t,.head _,y,hy,e⟩
   ·exact⟨t',.tail _ ht,q⟩
  ·rintro⟨t',ht,q⟩
   rcases List.mem_cons.mp ht with rfl|ht
   ·exact .inl q
   ·exact .inr ⟨t',ht,q⟩
theorem ccLen_le (ok:ODOk θ O U) {n:Nat} {pl:V} {xf:Nat->Option (Nat×Int)}:∀ {us:List RW},(∀ t∈tagsOf us,(U t).length<=6)->((us.map (rowOf U xf)).map List.length).sum<=ccLen us
 | [],_=>by simp[ccLen]
 | .cc ps::r,h=>by
  have:=ccLen_le ok (n:=n) (pl:=pl) (xf:=xf) (us:=r) h
  simp only[List.map_cons,List.sum_cons,ccLen,rowOf] at this ⊢;omega
 | .tg t::r,h=>by
  have:=ccLen_le ok (n:=n) (pl:=pl) (xf:=xf) (us:=r) (fun z hz=>h z (.tail _ hz))
  have:=h t (.head _)
  simp only[List.map_cons,List.sum_cons,ccLen,rowOf,List.length_map] at this ⊢;omega
theorem allNone_at:∀ {os:List (Option Nat)},allNone os=true->∀ o∈os,o=none
 | [],_,o,ho=>nomatch ho
 | none::r,h,o,ho=>by
  rcases List.mem_cons.mp ho with rfl|ho
  ·rfl
  ·exact allNone_at (os:=r) h o ho
 | some _::_,h,_,_=>by cases h
theorem onceB_at:∀ {os:List (Option Nat)},onceB os=true->once os
 | [],_=>trivial
 | none::r,h=>onceB_at (os:=r) h
 | some _::r,h=>allNone_at (os:=r) h
theorem tags_ut (ok:ODOk θ O U):∀ {n:Nat} {pl:V} {q:List (Option Nat)×List RW},rChain O J s n pl=some q->∀ t∈tagsOf q.2,O.ut t=true
 | 0,pl,q,h=>by cases h
 | n+1,pl,q,h=>by
  unfold rChain at h
  split at h
  ·cases h;exact fun t ht=>nomatch ht
  ·rename_i r
   obtain⟨fs,h1,h⟩:=Option.bind_eq_some_iff.mp h
   obtain⟨o,h2,h⟩:=Option.bind_eq_some_iff.mp h
   obtain⟨lu,h3,h⟩:=Option.bind_eq_some_iff.mp h
   obtain⟨u,h4,h⟩:=Option.bind_eq_some_iff.mp h
   obtain⟨lt,h5,h⟩:=Option.bind_eq_some_iff.mp h
   obtain⟨ts,h6,h⟩:=Option.bind_eq_some_iff.mp h
   split at h
   ·obtain⟨par,h7,h⟩:=Option.bind_eq_some_iff.mp h
    obtain⟨q',h8,h⟩:=Option.bind_eq_some_iff.mp h
    cases h
    have ih:=tags_ut ok h8
    unfold rUse at h4
    split at h4
    ·rename_i t ht
     obtain⟨g1,g2⟩:=guard_at h4
     cases g2
     intro t' ht'
     rcases List.mem_cons.mp ht' with rfl|ht'
     ·exact g1
     ·exact ih t' ht'
    ·obtain⟨vs,k1,k⟩:=Option.bind_eq_some_iff.mp h4
     obtain⟨ps,k2,k⟩:=Option.bind_eq_some_iff.mp k
     cases k
     exact ih
   ·cases h
  ·cases h
theorem px_mem:∀ {pk:List (List Nat×Nat×Int)} {px:List (List Nat×Nat×Option (Nat×Int))},rPk J s pk=some px->(pk.map fun e=>e.2.1).Nodup->(∀ e∈pk,(e.1,e.2.1,xfOf px e.2.1)∈px)/\(∀ z∈px,∃ e∈pk,z=(e.1,e.2.1,xfOf px e.2.1))
 | [],px,h,nd=>by cases h;exact⟨fun e he=>(nomatch he),fun z hz=>nomatch hz⟩
 | e::r,px,h,nd=>by
  obtain⟨xo,h2,h⟩:=Option.bind_eq_some_iff.mp h
  obtain⟨q,h3,h⟩:=Option.bind_eq_some_iff.mp h
  cases h
  rw[List.map_cons,List.nodup_cons] at nd
  obtain⟨a,b⟩:=px_mem h3 nd.2
  have hd:xfOf ((e.1,e.2.1,xo)::q) e.2.1=xo:=by
   unfold xfOf
   dsimp only
   rw[beq_tf,decide_eq_true rfl]
  have tl:∀ z∈r,xfOf ((e.1,e.2.1,xo)::q) z.2.1=xfOf q z.2.1:=fun z hz=>by
   have:¬ e.2.1=z.2.1:=fun w=>nd.1 (List.mem_map.mpr ⟨z,hz,w.symm⟩)
   conv=>lhs;unfold xfOf
   dsimp only
   rw[beq_tf,decide_eq_false this]
  refine⟨fun z hz=>?_,fun z hz=>?_⟩
  ·rcases List.mem_cons.mp hz with rfl|hz
   ·rw[hd];exact .head _
   ·rw[tl z hz];exact .tail _ (a z hz)
  ·rcases List.mem_cons.mp hz with rfl|hz
   ·exact⟨e,.head _,by rw[hd]⟩
   ·obtain⟨y,hy,p⟩:=b z hz
    exact⟨y,.tail _ hy,by rw[tl y hy];exact p⟩
theorem inj_nodup {α β:Type} {f:α->β} {l:List α} (nd:(l.map f).Nodup) {a b:α} (ha:a∈l) (hb:b∈l) (h:f a=f b):a=b:=by
 induction l with
 | nil=>cases ha
 | cons c r ih=>
  rw[List.map_cons,List.nodup_cons] at nd
  rcases List.mem_cons.mp ha with h1|h1<;>rcases List.mem_cons.mp hb with h2|h2
  ·rw[h1,h2]
  ·exact absurd (List.mem_map.mpr ⟨b,h2,by rw[<-h,h1]⟩) nd.1
  ·exact absurd (List.mem_map.mpr ⟨a,h1,by rw[h,h2]⟩) nd.1
  ·exact ih nd.2 h1 h2
theorem pxNone_at:∀ {px:List (List Nat×Nat×Option (Nat×Int))},pxNone px=true->∀ p,xfOf px p=none
 | [],_,p=>rfl
 | e::r,h,p=>by
  unfold pxNone at h
  unfold xfOf
  split at h
  ·rename_i z
   split
   ·exact z
   ·exact pxNone_at h p
  ·cases h
theorem toldB_at:∀ {px:List (List Nat×Nat×Option (Nat×Int))},toldB O px=true->∀ z∈px,(z.2.2.isSome=O.told z.1)
 | [],_,z,hz=>nomatch hz
 | e::r,h,z,hz=>by
  unfold toldB at h
  split at h
  ·rename_i h1
   split at h
   ·cases h
   ·rename_i h2
    rcases List.mem_cons.mp hz with rfl|hz
    ·rw[h1,h2];rfl
    ·exact toldB_at h z hz
  ·rename_i y h1
   split at h
   ·rename_i h2
    rcases List.mem_cons.mp hz with rfl|hz
    ·rw[h1,h2];rfl
    ·exact toldB_at h z hz
   ·cases h
theorem numNot_at {i:Int}:∀ {px:List (List Nat×Nat×Option (Nat×Int))},numNot i px=true->∀ z∈px,∀ y,z.2.2=some y->i≠y.2
 | [],_,z,hz=>nomatch hz
 | e::r,h,z,hz=>by
  unfold numNot at h
  split at h
  ·rename_i h1
   rcases List.mem_cons.mp hz with rfl|hz
   ·intro y q;rw[h1] at q;cases q
   ·exact numNot_at h z hz
  ·rename_i w h1
   split at h
   ·cases h
   ·rename_i h2
    rcases List.mem_cons.mp hz with rfl|hz
    ·intro y q e
     rw[h1] at q;cases q
     rw[(eqI_iff _ _).mpr e] at h2;cases h2
    ·exact numNot_at h z hz
theorem numsB_at:∀ {px:List (List Nat×Nat×Option (Nat×Int))},numsB px=true->∀ z∈px,∀ w∈px,∀ y u,z.2.2=some y->w.2.2=some u->z≠w->y.2≠u.2
 | [],_,z,hz=>nomatch hz
 | e::r,h,z,hz=>by
  intro w hw y u q1 q2 ne
  unfold numsB at h
  split at h
  ·rename_i h1
   rcases List.mem_cons.mp hz with e1|hz'
   ·rw[e1,h1] at q1;cases q1
   ·rcases List.mem_cons.mp hw with e2|hw'
    ·rw[e2,h1] at q2;cases q2
    ·exact numsB_at h z hz' w hw' y u q1 q2 ne
  ·rename_i v h1
   split at h
   ·rename_i h2
    rcases List.mem_cons.mp hz with e1|hz'
    ·rcases List.mem_cons.mp hw with e2|hw'
     ·exact absurd (e1.trans e2.symm) ne
     ·rw[e1,h1] at q1;cases q1
      exact numNot_at h2 w hw' u q2
    ·rcases List.mem_cons.mp hw with e2|hw'
     ·rw[e2,h1] at q2;cases q2
      exact fun e=>numNot_at h2 z hz' y q1 e.symm
     ·exact numsB_at h z hz' w hw' y u q1 q2 ne
   ·cases h
theorem pickX_at {x:Nat}:∀ {px:List (List Nat×Nat×Option (Nat×Int))},pickX s px=some x->∃ z∈px,z.1=s/\∃ y,z.2.2=some y/\y.1=x
 | [],h=>by cases h
 | e::r,h=>by
  unfold pickX at h
  split at h
  ·rename_i h1
   split at h
   ·rename_i y h2;cases h
    exact⟨e,.head _,(eqS_iff _ _).mp h1,y,h2,rfl⟩
   ·cases h
  ·obtain⟨z,a,b⟩:=pickX_at h
   exact⟨z,.tail _ a,b⟩
end
end L1
end

section
open PySem PySem.W PySem.Calls PyProof.Rows
theorem Told.mk' {W:Wd} {ρ:Nat->Addr} {J af τ:Store} {h:Heap} {lv:Nat} {D:List Nat} (R:Rep W ρ J h) (e:ExtU D (J.conc W.θ W.ϑ) τ) (hn':J.n<=af.n) (h1:∀ l,l<J.n->l∉D->af.get l=J.get l)
  (h2:∀ l∈D,l<J.n/\J.get l≠some .rsv/\∀ o,af.get l=some o->τ.get l=some (o.conc W.θ W.ϑ)/\OB J.n (o.conc W.θ W.ϑ)/\∀ C fs,o=.inst C fs->∃ C fs,J.get l=some (.inst C fs))
  (h3:∀ l,J.n<=l->∀ o,af.get l=some o->l=J.n/\J.n<af.n/\J.n<=lv/\τ.get lv=some (o.conc W.θ W.ϑ)/\OB J.n (o.conc W.θ W.ϑ)/\∀ C fs,o≠.inst C fs):Told W J.n lv af τ:=by
 have B:=R.bds
 have dic:∀ l C fs,J.get l=some (.inst C fs)->af.get (l+1)=some .rsv/\l+1<J.n:=fun l C fs q=>by
  have d:=R.dic l C fs q
  have b:=R.bd _ _ d
  refine⟨?_,b⟩
  rw[h1 (l+1) b fun z=>(h2 _ z).2.1 d];exact d
 refine⟨e.n,hn',fun l o q=>?_,fun l o q=>?_,fun l C fs q=>?_⟩
 ·by_cases hl:l<J.n
  ·by_cases hd:l∈D
   ·exact .inl ⟨hl,((h2 l hd).2.2 o q).1⟩
   ·rw[h1 l hl hd] at q
    exact .inl ⟨hl,e.at B (conc_at q) hd⟩
  ·obtain⟨a,b,c,d,_,f⟩:=h3 l (Nat.le_of_not_lt hl) o q
   exact .inr ⟨a,b,c,d,f⟩
 ·by_cases hl:l<J.n
  ·by_cases hd:l∈D
   ·exact((h2 l hd).2.2 o q).2.1
   ·rw[h1 l hl hd] at q
    exact(R.obj l o q).ob
  ·exact(h3 l (Nat.le_of_not_lt hl) o q).2.2.2.2.1
 ·by_cases hl:l<J.n
  ·by_cases hd:l∈D
   ·obtain⟨C',fs',q'⟩:=((h2 l hd).2.2 _ q).2.2 C fs rfl
    exact dic l C' fs' q'
   ·rw[h1 l hl hd] at q
    exact dic l C fs q
  ·exact absurd rfl ((h3 l (Nat.le_of_not_lt hl) _ q).2.2.2.2.2 C fs)
theorem Told.add {W:Wd} {ρ:Nat->Addr} {J τ:Store} {h:Heap} {lv:Nat} {vs:List V} (R:Rep W ρ J h) (e:Ext (J.conc W.θ W.ϑ) τ) (hlv:J.n<=lv) (hg:τ.get lv=some (.list vs)) (hb:∀ v∈vs,VB J.n v):Told W J.n lv (J.add (.list vs)) τ:=by
 refine Told.mk' (D:=[]) R (e.toU _) (Nat.le_succ _) (fun l hl _=>by rw[Store.get_add,if_neg (Nat.ne_of_lt hl)]) (fun l hl=>nomatch hl) fun l hl o q=>?_
 rw[Store.get_add] at q
 split at q
 ·rename_i hq;cases q
  exact⟨hq,Nat.lt_succ_self _,hlv,hg,hb,fun _ _ z=>by cases z⟩
 ·have:=R.bd _ _ q;omega
namespace L1
section
variable {n:Nat} {θ:Nat->List V} {ϑ:Nat->List (List Nat×V)} {J:Store} {O:OD} {U:Nat->List (Nat×Int)} {s:List Nat}
theorem NCh.vb {pl:V} {os:List (Option Nat)} (B:BdS J) (h:NCh J s pl os):∀ v∈oneOf (theOne os),VB J.n v:=by
 induction h with
 | nil=>exact fun v hv=>nomatch hv
 | @cons r o par rest a _ ih=>
  induction o using Option.casesOn with
  | none=>exact ih
  | some x=>
   obtain⟨C,fs,d,ds,_,_,_,_,le,_,_,⟨C',fs',v1,_⟩⟩:=a
   intro v hv
   rw[List.mem_singleton.mp hv]
   exact B _ _ v1
theorem lk_no (xk:XaOk O U) {xf:Nat->Option (Nat×Int)} {rows:List (List (Nat×Option (Nat×Int)))} {ts:List Nat} (fm:∀ x,x∈rows.flatMap xsP↔∃ t∈ts,∃ y∈U t,xf y.1=some x) (tb:∀ e∈O.pk,(xf e.2.1).isSome=O.told e.1)
  (nb:∀ e∈O.pk,∀ f∈O.pk,∀ x y,xf e.2.1=some x->xf f.2.1=some y->e.2.1≠f.2.1->x.2≠y.2) (mu:∀ t∈ts,∀ y∈U t,∃ e∈O.pk,y=(e.2.1,e.2.2)) (hx:O.xa ts=some none):rows.flatMap xsP=[]\/1<(offer [] rows).length:=by
 rcases xk.no _ hx with hno|hz
 ·refine .inl (List.eq_nil_iff_forall_not_mem.mpr fun x hq=>?_)
  obtain⟨t,ht,y,hy,e⟩:=(fm x).mp hq
  obtain⟨e',he',z⟩:=mu t ht y hy
  subst z
  exact hno e' he' (by rw[<-tb e' he',e];rfl) t ht hy
 ·obtain⟨e,he,f,hf,te,tf,⟨t1,ht1,hu1⟩,⟨t2,ht2,hu2⟩,hne⟩:=hz
  obtain⟨x,hx1⟩:=Option.isSome_iff_exists.mp ((tb e he).trans te)
  obtain⟨y,hy1⟩:=Option.isSome_iff_exists.mp ((tb f hf).trans tf)
  exact .inr (offer_two ((fm x).mpr ⟨t1,ht1,_,hu1,hx1⟩) ((fm y).mpr ⟨t2,ht2,_,hu2,hy1⟩) (nb e he f hf x y hx1 hy1 hne))
theorem lk_yes (xk:XaOk O U) {xf:Nat->Option (Nat×Int)} {rows:List (List (Nat×Option (Nat×Int)))} {ts:List Nat} (fm:∀ x,x∈rows.flatMap xsP↔∃ t∈ts,∃ y∈U t,xf y.1=some x) (tb:∀ e∈O.pk,(xf e.2.1).isSome=O.told e.1)
  (mu:∀ t∈ts,∀ y∈U t,∃ e∈O.pk,y=(e.2.1,e.2.2)) (hx:O.xa ts=some (some s)) {e':List Nat×Nat×Int} (he':e'∈O.pk) (w:e'.1=s) {y:Nat×Int} (hy:xf e'.2.1=some y):offer [] rows=[y]:=by
 obtain⟨⟨e,he,h1,te,t,ht,hu⟩,huniq⟩:=xk.yes _ _ hx
 have hee:e'=e:=inj_nodup xk.nl he' he (w.trans h1.symm)
 subst hee
 refine offer_one (fun v hv=>?_) ((fm y).mpr ⟨t,ht,_,hu,hy⟩)
 obtain⟨t',ht',y',hy',e2⟩:=(fm v).mp hv
 obtain⟨e'',he'',z⟩:=mu t' ht' y' hy'
 subst z
 have hee:e''=e':=inj_nodup xk.nl he'' he' ((huniq e'' he'' (by rw[<-tb e'' he'',e2];rfl) ⟨t',ht',hy'⟩).trans w.symm)
 subst hee
 exact Option.some.inj (e2.symm.trans hy)
inductive LkI (O:OD) (k:Nat) (as:List V) (J:Store) (vs:List V):Prop
 |mk (pl:V) (s:List Nat) (q:List (Option Nat)×List RW) (px:List (List Nat×Nat×Option (Nat×Int))) (e0:as=[pl,.str s]) (hk:Nat.ble 3 k=true) (hq:rChain O J s 12 pl=some q) (h1:onceB q.1=true) (h2:Nat.ble (ccLen q.2) 30=true) (h3:ccNone q.2=true) (hpx:rPk J s O.pk=some px)
  (fin:(pxNone px=true/\vs=oneOf (theOne q.1))\/(allNone q.1=true/\toldB O px=true/\numsB px=true/\((O.xa (tagsOf q.2)=some none/\vs=[])\/∃ s' x,O.xa (tagsOf q.2)=some (some s')/\pickX s' px=some x/\vs=[.ref x])))
theorem gLook_in {k:Nat} {hd:Bool} {as:List V} {r:Mine.R V} (h:gLook O k hd as J=some r):∃ vs,r=.ok (.ref J.n) (J.add (.list vs))/\LkI O k as J vs:=by
 unfold gLook at h
 split at h
 case h_2=>cases h
 rename_i pl s
 obtain⟨hk,h⟩:=guard_at h
 obtain⟨q,hq,h⟩:=Option.bind_eq_some_iff.mp h
 split at h
 ·cases h
 rename_i t ts htags
 obtain⟨h1,h⟩:=guard_at h
 obtain⟨h2,h⟩:=guard_at h
 obtain⟨h3,h⟩:=guard_at h
 obtain⟨px,hpx,h⟩:=Option.bind_eq_some_iff.mp h
 split at h
 ·rename_i hn
  exact⟨_,(Option.some.inj h).symm,pl,s,q,px,rfl,hk,hq,h1,h2,h3,hpx,.inl ⟨hn,rfl⟩⟩
 ·obtain⟨h4,h⟩:=guard_at h
  obtain⟨h5,h⟩:=guard_at h
  obtain⟨h6,h⟩:=guard_at h
  obtain⟨r',hx,h⟩:=Option.bind_eq_some_iff.mp h
  rw[<-htags] at hx
  split at h
  ·exact⟨_,(Option.some.inj h).symm,pl,s,q,px,rfl,hk,hq,h1,h2,h3,hpx,.inr ⟨h4,h5,h6,.inl ⟨hx,rfl⟩⟩⟩
  ·obtain⟨x,hp,h⟩:=Option.bind_eq_some_iff.mp h
   exact⟨_,(Option.some.inj h).symm,pl,s,q,px,rfl,hk,hq,h1,h2,h3,hpx,.inr ⟨h4,h5,h6,.inr ⟨_,x,hx,hp,rfl⟩⟩⟩
inductive LkAt (J:Store) (g:Store) (n k:Nat) (hd:Bool) (as:List V) (r:Mine.R V):Prop
 |mk (vs:List V) (τ:Store) (lv:Nat) (er:r=.ok (.ref J.n) (J.add (.list vs))) (run:(E (n+48)).call k hd (.top (.ref a_look_up)) as g=.ok (.ref lv) τ) (e:Ext g τ) (hl:J.n<=lv) (hv:τ.get lv=some (.list vs)) (vb:∀ v∈vs,VB J.n v)
theorem gLook_at (ok:ODOk θ O U) (xk:XaOk O U) (B:BdS (J.conc θ ϑ)) {k:Nat} {hd:Bool} {as:List V} {r:Mine.R V} (h:gLook O k hd as J=some r):LkAt J (J.conc θ ϑ) n k hd as r:=by
 obtain⟨vs,er,h⟩:=gLook_in h
 rcases h with (⟨pl,s,q,px,e0,hk,hq,h1,h2,h3,hpx,fin⟩)
 subst e0
 obtain⟨k',ek⟩:∃ k',k=k'+3:=⟨k - 3,by have:=Nat.le_of_ble_eq_true hk;omega⟩
 obtain⟨c1,c2,c3,c4⟩:=rChain_at (ϑ:=ϑ) ok hpx hq
 have hut:=tags_ut ok hq
 have hlen:((q.2.map (rowOf U (xfOf px))).map List.length).sum<=30:=Nat.le_trans (ccLen_le ok (n:=0) (pl:=.none) (fun t ht=>(ok.u t (hut t ht)).2.2)) (Nat.le_of_ble_eq_true h2)
 have fm:=fun x=>flat_mem (U:=U) (xf:=xfOf px) h3 x
 obtain⟨pm1,pm2⟩:=px_mem hpx xk.nd
 have l6:(q.2.map (rowOf U (xfOf px))).length<=15:=by rw[List.length_map];exact Nat.le_trans c4 (by decide)
 have key:(theOne q.1=none\/offer [] (q.2.map (rowOf U (xfOf px)))=[])/\lookR q.1 (q.2.map (rowOf U (xfOf px)))=vs/\∀ v∈vs,VB J.n v:=by
  clear hlen l6 c2 c3 c4 hq h1 h2 h3
  generalize q.2.map (rowOf U (xfOf px))=rows at *
  have nil:∀ {ws:List V},oneOf (theOne q.1)=ws->rows.flatMap xsP=[]->offer [] rows=[]/\lookR q.1 rows=ws:=fun e z=>by
   have ho:=offer_nil z
   refine⟨ho,?_⟩
   unfold lookR
   rw[ho,<-e]
   exact List.append_nil _
  rcases fin with ⟨hn,e⟩|⟨h4,h5,h6,z⟩
  ·obtain⟨a,b⟩:=nil e.symm (List.eq_nil_iff_forall_not_mem.mpr fun x hm=>by
    obtain⟨t,ht,y,hy,w⟩:=(fm x).mp hm
    rw[pxNone_at hn] at w;cases w)
   exact⟨.inr a,b,by rw[e];exact NCh.vb (J:=J.conc θ ϑ) B c1⟩
  ·have hone:theOne q.1=none:=theOne_none (allNone_at h4)
   have tb:∀ e∈O.pk,(xfOf px e.2.1).isSome=O.told e.1:=fun e he=>toldB_at (O:=O) h5 _ (pm1 e he)
   have mu:∀ t∈tagsOf q.2,∀ y∈U t,∃ e∈O.pk,y=(e.2.1,e.2.2):=fun t ht=>(ok.u t (hut t ht)).2.1
   rcases z with ⟨hx,e⟩|⟨s',x,hx,hp,e⟩
   ·subst e
    refine⟨.inl hone,?_,fun v hv=>nomatch hv⟩
    rcases lk_no xk fm tb (fun e he f hf x y hx1 hy1 ne=>numsB_at h6 _ (pm1 e he) _ (pm1 f hf) x y hx1 hy1 fun z=>ne (congrArg (fun w=>w.2.1) z)) mu hx with w|w
    ·exact(nil (by rw[hone];rfl) w).2
    ·unfold lookR;rw[if_pos w,hone];rfl
   ·obtain⟨z,hz,hz1,y,hz2,hz3⟩:=pickX_at hp
    obtain⟨e',he',w⟩:=pm2 z hz
    subst w
    have ho:=lk_yes xk fm tb mu hx he' hz1 hz2
    subst e
    refine⟨.inl hone,by unfold lookR;rw[ho,hone,<-hz3];simp[refs,oneOf],fun v hv=>?_⟩
    rw[List.mem_singleton.mp hv,<-hz3]
    obtain⟨C,fs,a,_⟩:=(xsP_ent (J:=J.conc θ ϑ) (s:=s) (ps:=[(e'.2.1,some y)]) (fun q hq=>by rw[List.mem_singleton.mp hq];show Pkg _ _ e'.2.1 (some y);rw[<-hz2];exact rPk_at hpx e' he') y (by simp[xsP])).at_
    exact B _ _ a
 obtain⟨τ,lv,run,e,g1,g2,g3⟩:=look_up_ok (n:=n) (k:=k') (b:=hd) B c1 (onceB_at h1) (by exact Nat.le_trans c3 (by decide)) c2 hlen l6 key.1
 rw[<-ek] at run
 exact⟨vs,τ,lv,er,run,e,g1,by rw[g3,key.2.1],key.2.2⟩
end
end L1
noncomputable def nin (D:List Nat) (l:Nat):Bool:=match memN D l with|true=>false|false=>true
theorem nin_at {D:List Nat} {l:Nat} (h:nin D l=true):l∉D:=by
 unfold nin at h
 split at h
 ·cases h
 ·rename_i q
  intro z
  rw[(memN_iff D l).mpr z] at q;cases q
noncomputable def nodB:List Nat->Bool
 | []=>true
 | x::r=>match nin r x with|true=>nodB r|false=>false
theorem nodB_at:∀ {D:List Nat},nodB D=true->D.Nodup
 | [],_=>.nil
 | x::r,h=>by
  unfold nodB at h
  split at h
  ·rename_i q
   exact List.nodup_cons.mpr ⟨nin_at q,nodB_at h⟩
  ·cases h
namespace L1
noncomputable def pkF:List (List Nat×Nat×Int)->List Nat->Nat×Int
 | [],_=>(0,0)
 | e::r,s=>match eqS e.1 s with|true=>e.2|false=>pkF r s
structure UD where
 pk:List (List Nat×Nat×Int)
 us:Nat->Option (Nat×Nat)
 lr:Nat
 rt:Nat
noncomputable def tagB (J:Store) (v c l:Nat):Bool:=match v with
 | 0=>(match J.get l with|some (.list [])=>true|_=>false)
 | v+1=>(match J.get l with|some (.slist a)=>Nat.beq a (10*(v+1)+c)|_=>false)
noncomputable def abcAll (f:List Nat->Bool):Bool:=match f [97] with|true=>(match f [98] with|true=>f [99]|false=>false)|false=>false
theorem abcAll_at {f:List Nat->Bool} (h:abcAll f=true):∀ s∈abc,f s=true:=by
 unfold abcAll at h
 split at h
 ·rename_i h1
  split at h
  ·rename_i h2
   intro s hs
   simp only[List.mem_cons,List.not_mem_nil,or_false] at hs
   rcases hs with rfl|rfl|rfl
   ·exact h1
   ·exact h2
   ·exact h
  ·cases h
 ·cases h
noncomputable def noV:Option V->Bool
 | none=>true
 | some _=>false
noncomputable def rReg (D:List Nat) (J:Store) (r:Nat) (o:List Nat->Option Nat):Option (Nat×V):=(rdI J r).bind fun fs=>(rR (lk fs k_uses)).bind fun lu=>(rR (lk fs k_use_types)).bind fun lt=>(rdL J lt).bind fun ts=>match ts with
 | []=>(lk fs k_parent).bind fun par=>(rR (lk fs k_names)).bind fun d=>(rdD J d).bind fun ds=>guard' (nin D r) (guard' (nin D lt) (guard' (nin D d) (guard' (abcAll fun s=>match o s with
   | none=>noV (lkS ds s)
   | some x=>match rR (lkS ds s) with
    | some le=>(match rdL J le with|some [.ref y]=>(match Nat.beq y x with|true=>nin D le|false=>false)|_=>false)
    | none=>false) (some (lu,par)))))
 | _=>none
noncomputable def rPkE (D:List Nat) (J:Store) (s:List Nat) (y:Nat×Int):Bool:=match rdI J y.1 with
 | some fs=>(match isS (lk fs k_kind) (sy k_package) with
  | true=>(match rI (lk fs k_number) with
   | some i=>(match eqI i y.2 with
    | true=>(match isS (lk fs k_name) s with
     | true=>(match isB (lk fs k_is_ready) true with
      | true=>(match isB (lk fs k_is_overridden) false with|true=>nin D y.1|false=>false)
      | false=>false)
     | false=>false)
    | false=>false)
   | none=>false)
  | false=>false)
 | none=>false
noncomputable def rPkD (D:List Nat) (J:Store) (p:Nat):Bool:=match rdI J p with
 | some fs=>(match isN (lk fs k_data) with
  | true=>(match rR (lk fs k_region) with
   | some q=>(match rdI J q with
    | some gs=>(match rR (lk gs k_names) with
     | some d=>(match rdD J d with
      | some ds=>(match abcAll fun t=>noV (lkS ds t) with
       | true=>(match nin D p with|true=>(match nin D q with|true=>nin D d|false=>false)|false=>false)
       | false=>false)
      | none=>false)
     | none=>false)
    | none=>false)
   | none=>false)
  | false=>false)
 | none=>false
section
variable {θ:Nat->List V} {ϑ:Nat->List (List Nat×V)} {J:Store} {D:List Nat}
theorem rReg_at {r lu:Nat} {o:List Nat->Option Nat} {par:V} (h:rReg D J r o=some (lu,par)):Reg D (J.conc θ ϑ) r lu par o:=by
 obtain⟨fs,h1,h⟩:=Option.bind_eq_some_iff.mp h
 obtain⟨C,a1⟩:=rdI_at h1
 obtain⟨lu',h2,h⟩:=Option.bind_eq_some_iff.mp h
 obtain⟨lt,h3,h⟩:=Option.bind_eq_some_iff.mp h
 obtain⟨ts,h4,h⟩:=Option.bind_eq_some_iff.mp h
 split at h
 ·obtain⟨par',h5,h⟩:=Option.bind_eq_some_iff.mp h
  obtain⟨d,h6,h⟩:=Option.bind_eq_some_iff.mp h
  obtain⟨ds,h7,h⟩:=Option.bind_eq_some_iff.mp h
  obtain⟨g1,h⟩:=guard_at h
  obtain⟨g2,h⟩:=guard_at h
  obtain⟨g3,h⟩:=guard_at h
  obtain⟨g4,h⟩:=guard_at h
  cases h
  refine⟨C,fs,lt,d,ds,c_inst a1,rR_at h2,rR_at h3,c_list (rdL_at h4),h5,rR_at h6,c_dict (rdD_at h7),nin_at g1,nin_at g2,nin_at g3,fun s hs=>?_⟩
  have q:=abcAll_at g4 s hs
  split
  ·rename_i ho
   rw[ho] at q
   dsimp only at q
   induction hl:lkS ds s using Option.casesOn with
   | none=>rfl
   | some v=>rw[hl] at q;cases q
  ·rename_i x ho
   rw[ho] at q
   dsimp only at q
   split at q
   ·rename_i le hle
    split at q
    ·rename_i y hy
     split at q
     ·rename_i hyx
      exact⟨le,rR_at hle,by rw[<-Nat.eq_of_beq_eq_true hyx];exact c_list (rdL_at hy),nin_at q⟩
     ·cases q
    ·cases q
   ·cases q
 ·cases h
theorem rPkE_at {s:List Nat} {y:Nat×Int} (h:rPkE D J s y=true):PkE D (J.conc θ ϑ) s y.1 y.2:=by
 unfold rPkE at h
 split at h
 case h_2=>cases h
 rename_i fs h1
 obtain⟨C,a1⟩:=rdI_at h1
 split at h
 case h_2=>cases h
 rename_i h2
 split at h
 case h_2=>cases h
 rename_i i h3
 split at h
 case h_2=>cases h
 rename_i h4
 split at h
 case h_2=>cases h
 rename_i h5
 split at h
 case h_2=>cases h
 rename_i h6
 split at h
 case h_2=>cases h
 rename_i h7
 exact⟨C,fs,c_inst a1,isS_at h2,by rw[rI_at h3,(eqI_iff _ _).mp h4],isS_at h5,isB_at h6,isB_at h7,nin_at h⟩
theorem rPkD_at {p:Nat} (h:rPkD D J p=true):∀ t∈abc,PkgD D (J.conc θ ϑ) t p:=by
 unfold rPkD at h
 split at h
 case h_2=>cases h
 rename_i fs h1
 obtain⟨C,a1⟩:=rdI_at h1
 split at h
 case h_2=>cases h
 rename_i h2
 split at h
 case h_2=>cases h
 rename_i q h3
 split at h
 case h_2=>cases h
 rename_i gs h4
 obtain⟨C',a4⟩:=rdI_at h4
 split at h
 case h_2=>cases h
 rename_i d h5
 split at h
 case h_2=>cases h
 rename_i ds h6
 split at h
 case h_2=>cases h
 rename_i h7
 split at h
 case h_2=>cases h
 rename_i h8
 split at h
 case h_2=>cases h
 rename_i h9
 intro t ht
 have:=abcAll_at h7 t ht
 refine⟨C,fs,q,C',gs,d,ds,c_inst a1,rR_at h3,isN_at h2,c_inst a4,rR_at h5,c_dict (rdD_at h6),?_,nin_at h8,nin_at h9,nin_at h⟩
 induction hl:lkS ds t using Option.casesOn with
 | none=>rfl
 | some v=>rw[hl] at this;cases this
end
end L1
namespace L1
noncomputable def tagO (v c:Nat):O:=.slist (10*v+c)
noncomputable def geoOf (O:UD) (pit sc pls us r0 r1 lu0 lu1 w0 w1:Nat):Geo:=⟨pit,O.lr,sc,pls,us,r0,r1,lu0,lu1,w0,w1,pkF O.pk⟩
noncomputable def usesR (t vo pit sc r1 lu0 lu1 w0 w1:Nat) (fs:List (Nat×V)) (J:Store):Store:=
 (((((J.set pit (.sdict (t+1))).set sc (.inst c_Scope (putL fs k_place (.ref r1)))).set lu0 (tagO vo 0)).set lu1 (tagO vo 1)).set w0 (tagO vo 2)).set w1 (tagO vo 3)
noncomputable def rScope (J:Store) (sc:Nat):Option (List (Nat×V)):=match J.get sc with|some (.inst C fs)=>guard' (Nat.beq C c_Scope) (some fs)|_=>none
noncomputable def statB (O:UD) (J:Store) (g:Geo):Bool:=match rReg g.D J g.r0 (fun s=>some (g.pk s).1) with
 | some (a,.none)=>(match Nat.beq a g.lu0 with
  | true=>(match rReg g.D J g.r1 (fun _=>none) with
   | some (b,.ref p)=>(match Nat.beq b g.lu1 with
    | true=>(match Nat.beq p g.r0 with
     | true=>(match abcAll (fun s=>rPkE g.D J s (g.pk s)) with
      | true=>(match abcAll (fun s=>rPkD g.D J (g.pk s).1) with
       | true=>(match nin g.D g.pls with
        | true=>(match nin g.D g.us with
         | true=>(match nin g.D g.lr with|true=>nodB g.D|false=>false)
         | false=>false)
        | false=>false)
       | false=>false)
      | false=>false)
     | false=>false)
    | false=>false)
   | _=>false)
  | false=>false)
 | _=>false
noncomputable def gUses (O:UD) (k:Nat) (hd:Bool) (as:List V) (J:Store):Option (Mine.R V):=match as with
 | [.ref pit,.ref sc,.ref pls,.ref us]=>guard' (Nat.ble 7 k) (guard' (!hd) (match J.get pit with
  | some (.sdict t)=>(O.us t).bind fun v=>(rScope J sc).bind fun fs=>(lk fs k_place).bind fun _=>(match rdL J pls with
   | some [.ref r0,.ref r1]=>(match rdL J us with
    | some [.ref w0,.ref w1]=>(rdI J r0).bind fun f0=>(rR (lk f0 k_uses)).bind fun lu0=>(rdI J r1).bind fun f1=>(rR (lk f1 k_uses)).bind fun lu1=>
     guard' (statB O J (geoOf O pit sc pls us r0 r1 lu0 lu1 w0 w1)) (guard' (tagB J v.1 0 lu0) (guard' (tagB J v.1 1 lu1) (guard' (tagB J v.1 2 w0) (guard' (tagB J v.1 3 w1) (match rdS J O.lr with
      | some rt=>guard' (Nat.beq rt O.rt) (some (.ok .none (usesR t v.2 pit sc r1 lu0 lu1 w0 w1 fs J)))
      | none=>none)))))
    | _=>none)
   | _=>none)
  | _=>none))
 | _=>none
structure UDOk (θ:Nat->List V) (ϑ:Nat->List (List Nat×V)) (O:UD) (ns:List Int) (ι:Nat->Nat) (X:Nat->US):Prop where
 pit:∀ t,ϑ t=[(sy k_at,.int (ι t:Int)),(sy k_row,.ref O.lr)]
 row:θ O.rt=ns.map .int
 len:ns.length<=10000
 ts:∀ t vi vo,O.us t=some (vi,vo)->vo≠0/\X vo=usesAll (pkF O.pk) ns (ι t) (X vi)/\ι (t+1)=usesAt ns (ι t)/\ι t<=150/\(X vi).u0.length<=11/\(X vi).u1.length<=11/\(X vi).w0.length<=11/\(X vi).w1.length<=11
 zero:X 0=⟨[],[],[],[]⟩
 tag:∀ v,v≠0->θ (10*v)=refs (X v).u0/\θ (10*v+1)=refs (X v).u1/\θ (10*v+2)=(X v).w0.map .str/\θ (10*v+3)=(X v).w1.map .str/\θ (10*v+4)=((X v).w0++(X v).w1).map .str
 uok:∀ v,(∀ y∈(X v).u0,∃ s∈abc,y=pkF O.pk s)/\(∀ y∈(X v).u1,∃ s∈abc,y=pkF O.pk s)
section
variable {n:Nat} {θ:Nat->List V} {ϑ:Nat->List (List Nat×V)} {J:Store} {O:UD} {ns:List Int} {ι:Nat->Nat} {X:Nat->US}
theorem statB_at {g:Geo} (hp:(J.conc θ ϑ).get g.pls=some (.list [.ref g.r0,.ref g.r1])) (hu:(J.conc θ ϑ).get g.us=some (.list [.ref g.w0,.ref g.w1])) (h:statB O J g=true):Stat g (J.conc θ ϑ)/\GOk g:=by
 unfold statB at h
 split at h
 case h_2=>cases h
 rename_i a h1
 split at h
 case h_2=>cases h
 rename_i h2
 split at h
 case h_2=>cases h
 rename_i b p h3
 split at h
 case h_2=>cases h
 rename_i h4
 split at h
 case h_2=>cases h
 rename_i h5
 split at h
 case h_2=>cases h
 rename_i h6
 split at h
 case h_2=>cases h
 rename_i h7
 split at h
 case h_2=>cases h
 rename_i h8
 split at h
 case h_2=>cases h
 rename_i h9
 split at h
 case h_2=>cases h
 rename_i h10
 rw[Nat.eq_of_beq_eq_true h2] at h1
 rw[Nat.eq_of_beq_eq_true h4,Nat.eq_of_beq_eq_true h5] at h3
 exact⟨⟨rReg_at h1,rReg_at h3,fun s hs=>rPkE_at (abcAll_at h6 s hs),fun s hs=>rPkD_at (abcAll_at h7 s hs),hp,hu,nin_at h8,nin_at h9⟩,⟨nin_at h10,nodB_at h⟩⟩
theorem tagB_at (ok:UDOk θ ϑ O ns ι X) {v c l:Nat} {vs:List V} (h:tagB J v c l=true) (h0:v=0->vs=[]) (h1:v≠0->θ (10*v+c)=vs):(J.conc θ ϑ).get l=some (.list vs):=by
 unfold tagB at h
 split at h
 ·split at h
  ·rename_i q;rw[h0 rfl];exact c_list q
  ·cases h
 ·rename_i v
  split at h
  ·rename_i a q
   rw[c_slist q,Nat.eq_of_beq_eq_true h,h1 (by exact Nat.ne_of_gt (Nat.lt_succ_of_le (Nat.zero_le _)))]
  ·cases h
theorem rScope_at {sc:Nat} {fs:List (Nat×V)} (h:rScope J sc=some fs):J.get sc=some (.inst c_Scope fs):=by
 unfold rScope at h
 split at h
 ·rename_i C gs q
  obtain⟨a,b⟩:=guard_at h
  cases b
  rw[q,Nat.eq_of_beq_eq_true a]
 ·cases h
theorem lkS_mem {es:List (List Nat×V)} {k:List Nat} {v:V} (h:lkS es k=some v):∃ p∈es,p.2=v:=⟨_,lkG_mem eqS_iff h,rfl⟩
theorem mem_putL {fs:List (Nat×V)} {f:Nat} {v:V} {p:Nat×V} (h:p∈putL fs f v):p∈fs\/p=(f,v):=by
 induction fs with
 | nil=>exact .inr (List.mem_singleton.mp h)
 | cons q r ih=>
  have h:p∈cn (Nat.beq q.1 f) ((q.1,v)::r) (q::putL r f v):=h
  revert h
  exact cn_el (P:=fun z=>p∈z->_) (fun e h=>(List.mem_cons.mp h).elim (fun h=>.inr (by rw[h,Nat.eq_of_beq_eq_true e])) fun h=>.inl (.tail _ h)) fun _ h=>(List.mem_cons.mp h).elim (fun h=>.inl (h▸.head _)) fun h=>(ih h).imp (.tail _) id
theorem vb_refs {D:List Nat} {pk:List Nat->Nat×Int} (B:BdS J) (hp:∀ s∈abc,PkE D J s (pk s).1 (pk s).2) {U:List (Nat×Int)} (hU:∀ y∈U,∃ s∈abc,y=pk s):∀ v∈refs U,VB J.n v:=by
 intro v hv
 obtain⟨y,hy,rfl⟩:=List.mem_map.mp hv
 obtain⟨s,hs,rfl⟩:=hU y hy
 obtain⟨C,fs,a,_⟩:=hp s hs
 exact B _ _ a
theorem vb_strs (m:Nat) (W:List (List Nat)):∀ v∈W.map V.str,VB m v:=by
 intro v hv
 obtain⟨s,_,rfl⟩:=List.mem_map.mp hv
 trivial
inductive UIn (O:UD) (k:Nat) (hd:Bool) (as:List V) (J:Store) (r:Mine.R V):Prop
 |mk (pit sc pls us t vi vo:Nat) (fs:List (Nat×V)) (v0:V) (r0 r1 w0 w1 lu0 lu1:Nat) (rt:Nat) (e0:as=[.ref pit,.ref sc,.ref pls,.ref us]) (hk:Nat.ble 7 k=true) (hh:(!hd)=true) (hpit:J.get pit=some (.sdict t)) (hus:O.us t=some (vi,vo)) (hsc:rScope J sc=some fs)
  (hpl:lk fs k_place=some v0) (hpls:rdL J pls=some [.ref r0,.ref r1]) (husd:rdL J us=some [.ref w0,.ref w1]) (hst:statB O J (geoOf O pit sc pls us r0 r1 lu0 lu1 w0 w1)=true) (t0:tagB J vi 0 lu0=true) (t1:tagB J vi 1 lu1=true) (t2:tagB J vi 2 w0=true) (t3:tagB J vi 3 w1=true)
  (hrt:rdS J O.lr=some rt) (hrt2:Nat.beq rt O.rt=true) (er:.ok .none (usesR t vo pit sc r1 lu0 lu1 w0 w1 fs J)=r)
theorem gUses_in {k:Nat} {hd:Bool} {as:List V} {r:Mine.R V} (hg:gUses O k hd as J=some r):UIn O k hd as J r:=by
 unfold gUses at hg
 split at hg
 case h_2=>cases hg
 rename_i pit sc pls us
 obtain⟨hk,hg⟩:=guard_at hg
 obtain⟨hh,hg⟩:=guard_at hg
 split at hg
 case h_2=>cases hg
 rename_i t hpit
 obtain⟨⟨vi,vo⟩,hus,hg⟩:=Option.bind_eq_some_iff.mp hg
 obtain⟨fs,hsc,hg⟩:=Option.bind_eq_some_iff.mp hg
 obtain⟨v0,hpl,hg⟩:=Option.bind_eq_some_iff.mp hg
 split at hg
 case h_2=>cases hg
 rename_i r0 r1 hpls
 split at hg
 case h_2=>cases hg
 rename_i w0 w1 husd
 obtain⟨f0,hf0,hg⟩:=Option.bind_eq_some_iff.mp hg
 obtain⟨lu0,hlu0,hg⟩:=Option.bind_eq_some_iff.mp hg
 obtain⟨f1,hf1,hg⟩:=Option.bind_eq_some_iff.mp hg
 obtain⟨lu1,hlu1,hg⟩:=Option.bind_eq_some_iff.mp hg
 obtain⟨hst,hg⟩:=guard_at hg
 obtain⟨t0,hg⟩:=guard_at hg
 obtain⟨t1,hg⟩:=guard_at hg
 obtain⟨t2,hg⟩:=guard_at hg
 obtain⟨t3,hg⟩:=guard_at hg
 split at hg
 case h_2=>cases hg
 rename_i rt hrt
 obtain⟨hrt2,hg⟩:=guard_at hg
 exact⟨pit,sc,pls,us,t,vi,vo,fs,v0,r0,r1,w0,w1,lu0,lu1,rt,rfl,hk,hh,hpit,hus,hsc,hpl,hpls,husd,hst,t0,t1,t2,t3,hrt,hrt2,Option.some.inj hg⟩
noncomputable def setP:List (Nat×Mine.O)->Store->Store
 | [],J=>J
 | q::r,J=>setP r (J.set q.1 q.2)
theorem setP_n:∀ (P:List (Nat×Mine.O)) (J:Store),(setP P J).n=J.n
 | [],_=>rfl
 | q::r,J=>setP_n r _
theorem setP_out:∀ (P:List (Nat×Mine.O)) (J:Store) (l:Nat),l∉P.map (·.1)->(setP P J).get l=J.get l
 | [],_,_,_=>rfl
 | q::r,J,l,h=>by
  have h:=not_or.mp (fun z=>h (List.mem_cons.mpr z))
  exact(setP_out r _ l h.2).trans ((Store.get_set _ _ _ _).trans (if_neg h.1))
theorem setP_in:∀ (P:List (Nat×Mine.O)) (J:Store),(P.map (·.1)).Nodup->∀ q∈P,(setP P J).get q.1=some q.2
 | [],_,_,_,h=>nomatch h
 | p::r,J,nd,q,h=>by
  have nd:=List.nodup_cons.mp nd
  rcases List.mem_cons.mp h with h|h
  ·rw[h];exact(setP_out r _ _ nd.1).trans ((Store.get_set _ _ _ _).trans (if_pos rfl))
  ·exact setP_in r _ nd.2 q h
structure TS (W:Wd) (J τ:Store) (l:Nat) (o:Mine.O):Prop where
 lt:l<J.n
 nr:J.get l≠some .rsv
 tg:τ.get l=some (o.conc W.θ W.ϑ)
 ob:OB J.n (o.conc W.θ W.ϑ)
 di:∀ C fs,o=.inst C fs->∃ C fs,J.get l=some (.inst C fs)
theorem Told.sets {W:Wd} {ρ:Nat->Addr} {J τ:Store} {h:Heap} {lv:Nat} (R:Rep W ρ J h) {P:List (Nat×Mine.O)} (e:ExtU (P.map (·.1)) (J.conc W.θ W.ϑ) τ) (nd:(P.map (·.1)).Nodup) (h2:∀ q∈P,TS W J τ q.1 q.2):Told W J.n lv (setP P J) τ:=by
 refine Told.mk' (D:=P.map (·.1)) R e (by rw[setP_n];exact Nat.le_refl _) (fun l hl hd=>setP_out P J l hd) (fun l hl=>?_) fun l hl o ho=>?_
 ·obtain⟨q,hq,z⟩:=List.mem_map.mp hl
  subst z
  have s:=h2 q hq
  refine⟨s.lt,s.nr,fun o ho=>?_⟩
  rw[setP_in P J nd q hq] at ho
  rw[<-Option.some.inj ho]
  exact⟨s.tg,s.ob,s.di⟩
 ·by_cases hd:l∈P.map (·.1)
  ·obtain⟨q,hq,w⟩:=List.mem_map.mp hd
   exact absurd ((h2 q hq).lt) (by rw[w];exact Nat.not_lt.mpr hl)
  ·rw[setP_out P J l hd] at ho
   exact absurd (R.bd _ _ ho) (Nat.not_lt.mpr hl)
inductive UAt (W:Wd) (J:Store) (n k:Nat) (as:List V) (r:Mine.R V):Prop
 |mk (af τ:Store) (er:r=.ok .none af) (run:(E (n+64)).call k false (.top (.ref a__law_uses)) as (J.conc W.θ W.ϑ)=.ok .none τ) (td:Told W J.n 0 af τ)
theorem TS.tag {W:Wd} {J τ:Store} {l c v:Nat} {vs ws:List V} (B:BdS (J.conc W.θ W.ϑ)) (h0:(J.conc W.θ W.ϑ).get l=some (.list ws)) (h1:τ.get l=some (.list vs)) (e:W.θ (10*v+c)=vs) (ob:∀ y∈vs,VB J.n y):TS W J τ l (tagO v c):=by
 subst e
 exact⟨B _ _ h0,(fun z=>by rw[conc_at z] at h0;cases h0),h1,ob,fun _ _ z=>nomatch z⟩
theorem gUses_at {W:Wd} {ρ:Nat->Addr} {h:Heap} (R:Rep W ρ J h) (ok:UDOk W.θ W.ϑ O ns ι X) {k:Nat} {hd:Bool} {as:List V} {r:Mine.R V} (hg:gUses O k hd as J=some r):hd=false/\UAt W J n k as r:=by
 rcases gUses_in hg with (⟨pit,sc,pls,us,t,vi,vo,fs,v0,r0,r1,w0,w1,lu0,lu1,rt,e0,hk,hh,hpit,hus,hsc,hpl,hpls,husd,hst,t0,t1,t2,t3,hrt,hrt2,er⟩)
 subst e0
 obtain⟨k',ek⟩:∃ k',k=k'+7:=⟨k - 7,by have:=Nat.le_of_ble_eq_true hk;omega⟩
 have B:=R.bds
 have hscA:=rScope_at hsc
 obtain⟨st,go⟩:=statB_at (θ:=W.θ) (ϑ:=W.ϑ) (g:=geoOf O pit sc pls us r0 r1 lu0 lu1 w0 w1) (c_list (rdL_at hpls)) (c_list (rdL_at husd)) hst
 obtain⟨vo0,hX,eF,ha,z0,z1,z2,z3⟩:=ok.ts t vi vo hus
 have x0:vi=0->X vi=⟨[],[],[],[]⟩:=fun z=>by rw[z];exact ok.zero
 have hrow:(J.conc W.θ W.ϑ).get O.lr=some (.list (ns.map .int)):=by rw[c_slist (rdS_at hrt),Nat.eq_of_beq_eq_true hrt2,ok.row]
 have dy:Dyn (geoOf O pit sc pls us r0 r1 lu0 lu1 w0 w1) (J.conc W.θ W.ϑ) ns (ι t) (X vi) 11 fs:=
  ⟨by have q:=c_sdict (θ:=W.θ) (ϑ:=W.ϑ) hpit;rw[ok.pit t] at q;exact q,hrow,⟨fs,v0,c_inst hscA,hpl,fun _=>rfl⟩,tagB_at ok t0 (fun z=>by rw[x0 z];rfl) fun z=>(ok.tag vi z).1,tagB_at ok t1 (fun z=>by rw[x0 z];rfl) fun z=>(ok.tag vi z).2.1,tagB_at ok t2 (fun z=>by rw[x0 z];rfl) fun z=>(ok.tag vi z).2.2.1,tagB_at ok t3 (fun z=>by rw[x0 z];rfl) fun z=>(ok.tag vi z).2.2.2.1,(ok.uok vi).1,(ok.uok vi).2,z0,z1,z2,z3⟩
 obtain⟨τ,run,e,dy',hsc'⟩:=uses_ok (n:=n) (k:=k') go B st dy ha ok.len (by decide)
 have dy':Dyn (geoOf O pit sc pls us r0 r1 lu0 lu1 w0 w1) τ ns (usesAt ns (ι t)) (X vo) 13 fs:=hX▸dy'
 rw[<-ek] at run
 obtain⟨Cr,rs,_,_,_,hr1,_⟩:=st.reg1
 have tg:=ok.tag vo vo0
 refine⟨(by cases hd;rfl;cases hh),_,τ,er.symm,run,?_⟩
 refine Told.sets (P:=[(pit,.sdict (t+1)),(sc,.inst c_Scope (putL fs k_place (.ref r1))),(lu0,tagO vo 0),(lu1,tagO vo 1),(w0,tagO vo 2),(w1,tagO vo 3)]) R e go.nd
  (List.forall_mem_cons.mpr ⟨?_,List.forall_mem_cons.mpr ⟨?_,List.forall_mem_cons.mpr ⟨TS.tag B dy.l0 dy'.l0 tg.1 (vb_refs B st.pke (ok.uok vo).1),List.forall_mem_cons.mpr ⟨TS.tag B dy.l1 dy'.l1 tg.2.1 (vb_refs B st.pke (ok.uok vo).2),List.forall_mem_cons.mpr ⟨TS.tag B dy.m0 dy'.m0 tg.2.2.1 (vb_strs _ _),List.forall_mem_cons.mpr ⟨TS.tag B dy.m1 dy'.m1 tg.2.2.2.1 (vb_strs _ _),fun _ z=>nomatch z⟩⟩⟩⟩⟩⟩)
 ·have q:Mine.O.conc W.θ W.ϑ (.sdict (t+1))=pitO (usesAt ns (ι t)) O.lr:=by
   show Mine.O.dict (W.ϑ (t+1))=_
   rw[ok.pit (t+1),eF]
  refine⟨B _ _ dy.pit,(fun z=>by rw[hpit] at z;cases z),by rw[q];exact dy'.pit,?_,fun _ _ z=>by cases z⟩
  rw[q]
  refine fun k v hk=>?_
  obtain⟨y,hy,z⟩:=lkS_mem hk
  simp only[List.mem_cons,List.not_mem_nil,or_false] at hy
  rcases hy with hy|hy
  ·rw[hy] at z;rw[<-z];trivial
  ·rw[hy] at z;rw[<-z];exact B _ _ hrow
 ·refine⟨R.bd _ _ hscA,(fun z=>by rw[hscA] at z;cases z),hsc',fun p hp=>?_,fun _ _ _=>⟨_,_,hscA⟩⟩
  rcases mem_putL hp with hp|hp
  ·exact(R.obj _ _ hscA).ob p hp
  ·rw[hp];exact B _ _ hr1
end
end L1
theorem Told.same {W:Wd} {ρ:Nat->Addr} {J τ:Store} {h:Heap} (R:Rep W ρ J h) (e:Ext (J.conc W.θ W.ϑ) τ):Told W J.n 0 J τ:=
 Told.mk' (D:=[]) R (e.toU _) (Nat.le_refl _) (fun l hl _=>rfl) (fun l hl=>nomatch hl) fun l hl o q=>by
  have:=R.bd _ _ q;omega
namespace L1
structure DD where
 lr:Nat
 rt:Nat
 dg:Nat->Int->Option Int
noncomputable def gDig (O:DD) (k:Nat) (hd:Bool) (as:List V) (J:Store):Option (Mine.R V):=match as with
 | [.ref p,.int sd]=>guard' (Nat.ble 1 k) (match J.get p with
  | some (.sdict t)=>(match rdS J O.lr with
   | some rt=>guard' (Nat.beq rt O.rt) ((O.dg t sd).bind fun d=>some (.ok (.int d) (J.set p (.sdict (t+1)))))
   | none=>none)
  | _=>none)
 | _=>none
structure DDOk (θ:Nat->List V) (ϑ:Nat->List (List Nat×V)) (O:DD) (ns:List Int) (ι:Nat->Nat):Prop where
 pit:∀ t,ϑ t=[(sy k_at,.int (ι t:Int)),(sy k_row,.ref O.lr)]
 row:θ O.rt=ns.map .int
 len:ns.length<=10000
 dg:∀ t sd d,O.dg t sd=some d->digV ns (ι t) sd=d/\ι (t+1)=ι t+1/\ι t<=200/\0<sd/\sd<=1000
structure FD' where
 told:List Nat->Bool
 fo:Nat->Option (Option (List Nat))
noncomputable def ansV:Option (List Nat)->V
 | some s=>.str s
 | none=>.none
noncomputable def offA (W:List (List Nat)) (told:List Nat->Bool):Option (List Nat):=match abc.filter (fun s=>memS W s && told s) with | [s]=>some s|_=>none
noncomputable def toldE (O:FD') (es:List (List Nat×V)) (s:List Nat):Bool:=match lkS es s with
 | some (.top _)=>false
 | some .none=>(match O.told s with|true=>false|false=>true)
 | some _=>O.told s
 | none=>false
noncomputable def gOff (O:FD') (k:Nat) (hd:Bool) (as:List V) (J:Store):Option (Mine.R V):=match as with
 | [.ref ud,.ref td]=>guard' (Nat.ble 1 k) (guard' (!hd) (match rdL J ud with | some [.ref l0,.ref l1]=>(rdS J l0).bind fun t=>(rdS J l1).bind fun t1=>guard' (Nat.beq t1 (t+1)) ((rdD J td).bind fun es=>guard' (abcAll (toldE O es)) ((O.fo t).bind fun a=>some (.ok (ansV a) J))) | _=>none))
 | _=>none
noncomputable def FOk (θ:Nat->List V) (O:FD'):Prop:=∀ t a,O.fo t=some a->∃ W0 W1:List (List Nat),θ t=W0.map .str/\θ (t+1)=W1.map .str/\(W0++W1).length<=1000/\offA (W0++W1) O.told=a
noncomputable def nmsB (J:Store):List (List Nat×Nat×Int)->Bool
 | []=>true
 | e::r=>match rdI J e.2.1 with
  | some fs=>(match isS (lk fs k_name) e.1 with|true=>(match asc e.1 with|true=>nmsB J r|false=>false)|false=>false)
  | none=>false
noncomputable def gSo (O:UD) (k:Nat) (hd:Bool) (as:List V) (J:Store):Option (Mine.R V):=match as with
 | [.ref pl,.ref us]=>guard' (Nat.ble 1 k) (match rdL J pl with
  | some [.ref r0,.ref r1]=>(match rdL J us with
   | some [.ref w0,.ref w1]=>(rdI J r0).bind fun f0=>(rR (lk f0 k_uses)).bind fun lu0=>(rdI J r1).bind fun f1=>(rR (lk f1 k_uses)).bind fun lu1=>(rdS J lu0).bind fun t0=>
    guard' (Nat.ble 1 (Nat.div t0 10)) (guard' (tagB J (Nat.div t0 10) 0 lu0) (guard' (tagB J (Nat.div t0 10) 1 lu1) (guard' (tagB J (Nat.div t0 10) 2 w0) (guard' (tagB J (Nat.div t0 10) 3 w1) (guard' (nmsB J O.pk) (some (.ok (.bool true) J)))))))
   | _=>none)
  | _=>none)
 | _=>none
structure SOk (O:UD) (X:Nat->US) (nmO:Nat×Int->List Nat):Prop where
 w:∀ v,v≠0->(X v).w0=(X v).u0.map nmO/\(X v).w1=(X v).u1.map nmO/\(X v).u0.length<=13/\(X v).u1.length<=13
 nm:∀ v,(∀ y∈(X v).u0,∃ e∈O.pk,e.2=y/\nmO y=e.1)/\(∀ y∈(X v).u1,∃ e∈O.pk,e.2=y/\nmO y=e.1)
section
variable {n:Nat} {θ:Nat->List V} {ϑ:Nat->List (List Nat×V)} {J:Store} {ns:List Int} {ι:Nat->Nat} {X:Nat->US}
theorem gDig_at {O:DD} {W:Wd} {ρ:Nat->Addr} {h:Heap} (R:Rep W ρ J h) (ok:DDOk W.θ W.ϑ O ns ι) {k:Nat} {hd:Bool} {as:List V} {r:Mine.R V} (hg:gDig O k hd as J=some r) :
  ∃ d af τ,r=.ok (.int d) af/\(E (n+20)).call k hd (.top (.ref a__law_lift)) as (J.conc W.θ W.ϑ)=.ok (.int d) τ/\Told W J.n 0 af τ:=by
 unfold gDig at hg
 split at hg
 case h_2=>cases hg
 rename_i p sd
 obtain⟨hk,hg⟩:=guard_at hg
 split at hg
 case h_2=>cases hg
 rename_i t hp
 split at hg
 case h_2=>cases hg
 rename_i rt hrt
 obtain⟨hrt2,hg⟩:=guard_at hg
 obtain⟨d,hdg,hg⟩:=Option.bind_eq_some_iff.mp hg
 cases hg
 obtain⟨k,rfl⟩:∃ k',k=k'+1:=⟨k - 1,by have:=Nat.le_of_ble_eq_true hk;omega⟩
 obtain⟨h1,h2,h3,h4,h5⟩:=ok.dg t sd d hdg
 have B:=R.bds
 have hpc:(J.conc W.θ W.ϑ).get p=some (pitO (ι t) O.lr):=by have q:=c_sdict (θ:=W.θ) (ϑ:=W.ϑ) hp;rw[ok.pit t] at q;exact q
 have hrow:(J.conc W.θ W.ϑ).get O.lr=some (.list (ns.map .int)):=by rw[c_slist (rdS_at hrt),Nat.eq_of_beq_eq_true hrt2,ok.row]
 have hne:O.lr≠p:=fun z=>by rw[z,hpc] at hrow;cases hrow
 have run:=dig_ok (n:=n) (k:=k) (b:=hd) hpc hrow hne h3 ⟨h4,h5⟩ ok.len
 rw[h1] at run
 have lp:=B _ _ hpc
 refine⟨d,_,_,rfl,run,?_⟩
 refine Told.mk' (D:=[p]) R ((ExtU.refl _ _).set (.inl (.head _)) lp _) (Nat.le_refl _) (fun l hl hd=>?_) (fun l hl=>?_) fun l hl o q=>?_
 ·rw[Store.get_set,if_neg fun z=>hd (by rw[z];exact .head _)]
 ·rw[List.mem_singleton.mp hl]
  refine⟨lp,(fun z=>by rw[hp] at z;cases z),fun o ho=>?_⟩
  rw[Store.get_set,if_pos rfl] at ho
  cases ho
  have q:Mine.O.conc W.θ W.ϑ (.sdict (t+1))=pitO (ι t+1) O.lr:=by
   show Mine.O.dict (W.ϑ (t+1))=_
   rw[ok.pit (t+1),h2]
  rw[q]
  refine⟨get_upd _ _ _,fun k v hk=>?_,fun _ _ z=>by cases z⟩
  obtain⟨y,hy,rfl⟩:=lkS_mem hk
  simp only[List.mem_cons,List.not_mem_nil,or_false] at hy
  rcases hy with rfl|rfl
  ·trivial
  ·exact B _ _ hrow
 ·rw[Store.get_set] at q
  split at q
  ·rename_i z
   have:p<J.n:=lp
   omega
  ·have:=R.bd _ _ q;omega
theorem toldE_at {O:FD'} {es:List (List Nat×V)} {s:List Nat} (h:toldE O es s=true):∃ v,lkS es s=some v/\(∀ w,v≠.top w)/\(!isNone v)=O.told s:=by
 unfold toldE at h
 split at h
 ·cases h
 ·rename_i q
  refine⟨_,q,(fun w z=>by cases z),?_⟩
  split at h
  ·cases h
  ·rename_i z;rw[z];rfl
 ·rename_i v n1 n2 q
  refine⟨v,q,(fun w z=>n1 w (by rw[z])),?_⟩
  rw[h]
  induction v using Mine.V.casesOn with
  | none=>exact absurd rfl n2
  | _=>rfl
 ·cases h
theorem gOff_at {O:FD'} {W:Wd} {ρ:Nat->Addr} {h:Heap} (R:Rep W ρ J h) (ok:FOk W.θ O) {k:Nat} {hd:Bool} {as:List V} {r:Mine.R V} (hg:gOff O k hd as J=some r) :
  ∃ a τ,r=.ok (ansV a) J/\(E (n+21)).call k hd (.top (.ref a__law_offered)) as (J.conc W.θ W.ϑ)=.ok (ansV a) τ/\Told W J.n 0 J τ:=by
 unfold gOff at hg
 split at hg
 case h_2=>cases hg
 rename_i ud td
 obtain⟨hk,hg⟩:=guard_at hg
 obtain⟨hh,hg⟩:=guard_at hg
 have hd0:hd=false:=by cases hd;rfl;cases hh
 subst hd0
 split at hg
 case h_2=>cases hg
 rename_i l0 l1 hud
 obtain⟨t,h1,hg⟩:=Option.bind_eq_some_iff.mp hg
 obtain⟨t1,h1',hg⟩:=Option.bind_eq_some_iff.mp hg
 obtain⟨ht1,hg2⟩:=guard_at hg
 have ht1:=Nat.eq_of_beq_eq_true ht1
 subst ht1
 have hg:=hg2
 obtain⟨es,h2,hg⟩:=Option.bind_eq_some_iff.mp hg
 obtain⟨h3,hg⟩:=guard_at hg
 obtain⟨a,h4,hg⟩:=Option.bind_eq_some_iff.mp hg
 cases hg
 obtain⟨k,rfl⟩:∃ k',k=k'+1:=⟨k - 1,by have:=Nat.le_of_ble_eq_true hk;omega⟩
 obtain⟨wa,wb,hwa,hwb,hlen,ha⟩:=ok t a h4
 have h5:=abcAll_at h3
 have g1:(J.conc W.θ W.ϑ).get ud=some (.list [.ref l0,.ref l1]):=c_list (rdL_at hud)
 have ga:(J.conc W.θ W.ϑ).get l0=some (.list (wa.map .str)):=by rw[c_slist (rdS_at h1),hwa]
 have gb:(J.conc W.θ W.ϑ).get l1=some (.list (wb.map .str)):=by rw[c_slist (rdS_at h1'),hwb]
 have g2:(J.conc W.θ W.ϑ).get td=some (.dict es):=c_dict (rdD_at h2)
 obtain⟨τ,run,e⟩:=offered_run (n:=n) (k:=k) (W:=wa++wb) (tv:=fun s=>(lkS es s).getD .none) R.bds rfl hlen g1 ga gb g2 fun s hs=>by
  obtain⟨v,a1,a2,_⟩:=toldE_at (h5 s hs)
  exact⟨by rw[a1];rfl,by rw[a1];exact a2⟩
 refine⟨a,τ,rfl,?_,Told.same R e⟩
 rw[run]
 have:offV (wa++wb) (fun s=>(lkS es s).getD .none)=ansV a:=by
  rw[<-ha]
  unfold offV offA
  have:abc.filter (keepL (wa++wb) fun s=>(lkS es s).getD .none)=abc.filter (fun s=>memS (wa++wb) s && O.told s):=by
   refine List.filter_congr fun s hs=>?_
   obtain⟨v,a1,_,a3⟩:=toldE_at (h5 s hs)
   unfold keepL
   dsimp only
   rw[a1,<-a3];rfl
  rw[this]
  generalize abc.filter (fun s=>memS (wa++wb) s && O.told s)=F
  match F with
  | []=>rfl
  | [s]=>rfl
  | _::_::_=>rfl
 rw[this]
theorem nmsB_at:∀ {pk:List (List Nat×Nat×Int)},nmsB J pk=true->∀ e∈pk,asc e.1=true/\∃ C fs,(J.conc θ ϑ).get e.2.1=some (.inst C fs)/\lk fs k_name=some (.str e.1)
 | [],_,e,he=>nomatch he
 | x::r,h,e,he=>by
  unfold nmsB at h
  split at h
  case h_2=>cases h
  rename_i fs h1
  obtain⟨C,a1⟩:=rdI_at h1
  split at h
  case h_2=>cases h
  rename_i h2
  split at h
  case h_2=>cases h
  rename_i h3
  rcases List.mem_cons.mp he with rfl|he
  ·exact⟨h3,C,fs,c_inst a1,isS_at h2⟩
  ·exact nmsB_at h e he
theorem gSo_at {O:UD} {W:Wd} {ρ:Nat->Addr} {h:Heap} {nmO:Nat×Int->List Nat} (R:Rep W ρ J h) (ok:UDOk W.θ W.ϑ O ns ι X) (sk:SOk O X nmO) {k:Nat} {hd:Bool} {as:List V} {r:Mine.R V} (hg:gSo O k hd as J=some r) :
  ∃ τ,r=.ok (.bool true) J/\(E (n+24)).call k hd (.top (.ref a__law_so)) as (J.conc W.θ W.ϑ)=.ok (.bool true) τ/\Told W J.n 0 J τ:=by
 unfold gSo at hg
 split at hg
 case h_2=>cases hg
 rename_i pl us
 obtain⟨hk,hg⟩:=guard_at hg
 split at hg
 case h_2=>cases hg
 rename_i r0 r1 hpl
 split at hg
 case h_2=>cases hg
 rename_i w0 w1 hus
 obtain⟨f0,hf0,hg⟩:=Option.bind_eq_some_iff.mp hg
 obtain⟨lu0,hlu0,hg⟩:=Option.bind_eq_some_iff.mp hg
 obtain⟨f1,hf1,hg⟩:=Option.bind_eq_some_iff.mp hg
 obtain⟨lu1,hlu1,hg⟩:=Option.bind_eq_some_iff.mp hg
 obtain⟨t0,ht0,hg⟩:=Option.bind_eq_some_iff.mp hg
 generalize Nat.div t0 10=v at hg
 obtain⟨hv,hg⟩:=guard_at hg
 obtain⟨q0,hg⟩:=guard_at hg
 obtain⟨q1,hg⟩:=guard_at hg
 obtain⟨q2,hg⟩:=guard_at hg
 obtain⟨q3,hg⟩:=guard_at hg
 obtain⟨hnm,hg⟩:=guard_at hg
 cases hg
 obtain⟨k,rfl⟩:∃ k',k=k'+1:=⟨k - 1,by have:=Nat.le_of_ble_eq_true hk;omega⟩
 have v0:v≠0:=by have:=Nat.le_of_ble_eq_true hv;omega
 obtain⟨C0,a0⟩:=rdI_at hf0
 obtain⟨C1,a1⟩:=rdI_at hf1
 obtain⟨e0,e1,z0,z1⟩:=sk.w v v0
 have nm:=fun e he=>nmsB_at (θ:=W.θ) (ϑ:=W.ϑ) hnm e he
 have n0:∀ y∈(X v).u0,∃ C fs,(J.conc W.θ W.ϑ).get y.1=some (.inst C fs)/\lk fs k_name=some (.str (nmO y)):=fun y hy=>by
  obtain⟨e,he,rfl,hn⟩:=(sk.nm v).1 y hy
  rw[hn];exact(nm e he).2
 have n1:∀ y∈(X v).u1,∃ C fs,(J.conc W.θ W.ϑ).get y.1=some (.inst C fs)/\lk fs k_name=some (.str (nmO y)):=fun y hy=>by
  obtain⟨e,he,rfl,hn⟩:=(sk.nm v).2 y hy
  rw[hn];exact(nm e he).2
 have m0:∀ y∈(X v).u0,asc (nmO y)=true:=fun y hy=>by
  obtain⟨e,he,rfl,hn⟩:=(sk.nm v).1 y hy
  rw[hn];exact(nm e he).1
 have m1:∀ y∈(X v).u1,asc (nmO y)=true:=fun y hy=>by
  obtain⟨e,he,rfl,hn⟩:=(sk.nm v).2 y hy
  rw[hn];exact(nm e he).1
 obtain⟨τ,run,e⟩:=so_run (n:=n) (k:=k) (b:=hd) (nmO:=nmO) R.bds (c_list (rdL_at hpl)) (c_list (rdL_at hus)) (c_inst a0) (rR_at hlu0) (c_inst a1) (rR_at hlu1)
  (tagB_at ok (vs:=refs (X v).u0) q0 (fun z=>absurd z v0) fun z=>(ok.tag v z).1) (tagB_at ok (vs:=refs (X v).u1) q1 (fun z=>absurd z v0) fun z=>(ok.tag v z).2.1)
  (tagB_at ok q2 (fun z=>absurd z v0) fun z=>by rw[(ok.tag v z).2.2.1,e0]) (tagB_at ok q3 (fun z=>absurd z v0) fun z=>by rw[(ok.tag v z).2.2.2.1,e1]) n0 n1 m0 m1 z0 z1
 exact⟨τ,rfl,run,Told.same R e⟩
end
end L1
namespace L1
structure LZ where
 o:OD
 u:UD
 d:DD
 f:FD'
noncomputable def omL (Z:LZ):Om:=fun a=>match Nat.beq a a_look_up with
 | true=>some (gLook Z.o)
 | false=>match Nat.beq a a__law_uses with
  | true=>some (gUses Z.u)
  | false=>match Nat.beq a a__law_lift with
   | true=>some (gDig Z.d)
   | false=>match Nat.beq a a__law_offered with
    | true=>some (gOff Z.f)
    | false=>match Nat.beq a a__law_so with
     | true=>some (gSo Z.u)
     | false=>none
structure LOk (W:Wd) (Z:LZ) (ns:List Int) (ι:Nat->Nat) (X:Nat->US) (U:Nat->List (Nat×Int)) (nmO:Nat×Int->List Nat):Prop where
 od:ODOk W.θ Z.o U
 xa:XaOk Z.o U
 ud:UDOk W.θ W.ϑ Z.u ns ι X
 dd:DDOk W.θ W.ϑ Z.d ns ι
 fd:FOk W.θ Z.f
 so:SOk Z.u X nmO
theorem omL_ok {W:Wd} {Z:LZ} {ns:List Int} {ι:Nat->Nat} {X:Nat->US} {U:Nat->List (Nat×Int)} {nmO:Nat×Int->List Nat} (S:∀ n,SEv W (E n)) (K:LOk W Z ns ι X U nmO):OmOk W (omL Z):=by
 intro a g d ha hf k hd A ρ J s as xs r hg C hv
 unfold omL at ha
 split at ha
 ·rename_i q
  cases ha
  have q:=Nat.eq_of_beq_eq_true q
  subst q
  rcases gLook_at (n:=0) (ϑ:=W.ϑ) K.od K.xa C.rep.bds hg with (⟨vs,τ,lv,er,run,e,h1,h2,h3⟩)
  subst er
  exact orc (S _) hf C hv run (Told.add C.rep e h1 h2 h3) (.inr ⟨rfl,rfl,Nat.lt_succ_self _⟩)
 split at ha
 ·rename_i q
  cases ha
  have q:=Nat.eq_of_beq_eq_true q
  subst q
  obtain⟨h0,hz⟩:=gUses_at (n:=0) C.rep K.ud hg
  rcases hz with (⟨af,τ,er,run,t⟩)
  subst er h0
  exact orc (S _) hf C hv run t (.inl ⟨rfl,trivial⟩)
 split at ha
 ·rename_i q
  cases ha
  have q:=Nat.eq_of_beq_eq_true q
  subst q
  obtain⟨v,af,τ,rfl,run,t⟩:=gDig_at (n:=0) C.rep K.dd hg
  exact orc (S _) hf C hv run t (.inl ⟨rfl,trivial⟩)
 split at ha
 ·rename_i q
  cases ha
  have q:=Nat.eq_of_beq_eq_true q
  subst q
  obtain⟨v,τ,rfl,run,t⟩:=gOff_at (n:=0) C.rep K.fd hg
  exact orc (S _) hf C hv run t (.inl ⟨rfl,by cases v<;>trivial⟩)
 split at ha
 ·rename_i q
  cases ha
  have q:=Nat.eq_of_beq_eq_true q
  subst q
  obtain⟨τ,rfl,run,t⟩:=gSo_at (n:=0) C.rep K.ud K.so hg
  exact orc (S _) hf C hv run t (.inl ⟨rfl,trivial⟩)
 ·cases ha
end L1
end

section
open PySem
namespace L1
noncomputable def numL {α:Type} (l:List α):Nat->List (Nat×α):=@List.rec α (fun _=>Nat->List (Nat×α)) (fun _=>[]) (fun x _ ih n=>(n,x)::ih (n+1)) l
theorem lk_numL {α:Type} (l:List α):∀ n i:Nat,lk (numL l n) (n+i)=nth l i:=by
 induction l with
 | nil=>exact fun _ _=>rfl
 | cons x r ih=>
  intro n i
  induction i using Nat.casesOn with
  | zero=>exact cnT (beqT rfl)
  | succ i=>
   refine (cnF (beqF (Nat.ne_of_lt (Nat.lt_add_of_pos_right (Nat.succ_pos i))))).trans ?_
   have:=ih (n+1) i
   rw[Nat.add_right_comm] at this
   exact this
noncomputable def sy2 (i:Nat):List Nat:=oc ((NT.ofL (numL tb 0)).get i) [1114112+i] fun x=>x
theorem sy2_eq:sy2=sy:=by
 funext i
 have:=lk_numL tb 0 i
 rw[Nat.zero_add] at this
 show oc ((NT.ofL (numL tb 0)).get i) _ _=_
 rw[NT.get_ofL,this]
 unfold sy
 cases nth tb i<;>rfl
noncomputable def P2:Pr:=⟨(NT.ofL gtT).get,(NT.ofL fnT).get,(NT.ofL clT).get,sy2,lk ttT,128,23,255,⟨765,4,771,17⟩⟩
theorem P2_eq:P2 = P:=by
 unfold P2 P
 congr
 ·funext i; exact NT.get_ofL _ _
 ·funext i; exact NT.get_ofL _ _
 ·funext i; exact NT.get_ofL _ _
 ·exact sy2_eq
noncomputable def EE (Z:LZ) (n:Nat):Ev:=ev ⟨P2,bm,omL Z⟩ n
theorem EE_eq (Z:LZ) (n:Nat):EE Z n=ev ⟨P,bm,omL Z⟩ n:=by
 unfold EE
 rw[P2_eq]
noncomputable def s00:Store:=⟨(((NT.nil.put 1 (.slist 7)).put 2 (.sdict 0)).put 3 .cell0).put 4 .cell0,5⟩
noncomputable def m00:M:=[(k_script,.ref 0),(k_mine,.ref 2)]
noncomputable def cx:Cx:=⟨60,false,d_law.kd,[(k_told,3),(k_dues,4)]⟩
noncomputable def pkT (a b c:Bool):List (List Nat × Nat × Int):=cn a
 (cn b (cn c [([97],36,2),([98],116,6),([99],196,10)] [([97],36,2),([98],116,6),([99],193,10)]) (cn c [([97],36,2),([98],113,6),([99],165,8)] [([97],36,2),([98],113,6),([99],162,8)]))
 (cn b (cn c [([97],33,2),([98],85,4),([99],165,8)] [([97],33,2),([98],85,4),([99],162,8)]) (cn c [([97],33,2),([98],82,4),([99],134,6)] [([97],33,2),([98],82,4),([99],131,6)]))
noncomputable def tdT (a b c:Bool) (s:List Nat):Bool:=cn (eqS s [97]) a (cn (eqS s [98]) b (cn (eqS s [99]) c false))
noncomputable abbrev AN:=Option (List Nat)
noncomputable def xaT (x2 x3 x4:Option AN) (ts:List Nat):Option AN:=cn (eqS ts [21,20]) x2 (cn (eqS ts [31,30]) x3 (cn (eqS ts [41,40]) x4 none))
noncomputable def foT (x2 x3 x4:Option AN) (t:Nat):Option AN:=cn (Nat.beq t 22) x2 (cn (Nat.beq t 32) x3 (cn (Nat.beq t 42) x4 none))
noncomputable def usT (t:Nat):Option (Nat × Nat):=cn (Nat.beq t 3) (some (0,1)) (cn (Nat.beq t 4) (some (1,2)) (cn (Nat.beq t 8) (some (2,3)) (cn (Nat.beq t 9) (some (3,4)) (cn (Nat.beq t 10) (some (4,5)) none))))
noncomputable def utT (t:Nat):Bool:=cn (Nat.beq t 0) false (Nat.ble (Nat.mod t 10) 1)
noncomputable def d2 (o:Option Bool) (x y sd:Int):Option Int:=oc o none fun b=>cn (eqI sd 2) (some (cn b x y)) none
noncomputable def dgB (su sv od:Option Bool) (dg:Nat->Int->Option Int) (t:Nat) (sd:Int):Option Int:=cn (Nat.beq t 5) (d2 su 0 1 sd) (cn (Nat.beq t 6) (d2 sv 0 1 sd) (cn (Nat.beq t 7) (d2 od 1 0 sd) (dg t sd)))
noncomputable def ud (a b c:Bool):UD:=⟨pkT a b c,usT,1,7⟩
noncomputable def ZL (dg:Nat->Int->Option Int) (a b c:Bool) (su sv od:Option Bool) (x2 x3 x4:Option AN):LZ:=
 ⟨⟨pkT a b c,tdT a b c,xaT x2 x3 x4,utT⟩,ud a b c,⟨1,7,dgB su sv od dg⟩,⟨tdT a b c,foT x2 x3 x4⟩⟩
noncomputable def digS (t:Nat) (m:M) (σ:Store):Option Store:=oc (lk m k_mine) none fun v=>match v with
 | .ref p=>oc (σ.get p) none fun o=>(match o with
  | .sdict t'=>cn (Nat.beq t' t) (oc (rdS σ 1) none fun rt=>cn (Nat.beq rt 7) (some (σ.set p (.sdict (t + 1)))) none) none
  | _=>none)
 | _=>none
noncomputable def st (i:Nat):S:=(nth b_law i).getD (.cont ⟨0,0,0,0⟩)
noncomputable def loopB:List S:=match st 6 with | .for_ _ _ b _=>b | _=>[]
noncomputable def inA:T:=match loopB with | .asg _ (.ife _ a _ _) _ :: _=>a | _=>.cnone 0 ⟨0,0,0,0⟩
noncomputable def inB:T:=match loopB with | .asg _ (.ife _ _ b _) _ :: _=>b | _=>.cnone 0 ⟨0,0,0,0⟩
noncomputable def itR (E1 E2:Ev) (t:Nat) (s:List Nat) (side:Bool) (m:M) (σ:Store):X:=
 oc (storeN cx m k_name (.str s) σ) .bad fun p=>oc (digS t p.1 p.2) .bad fun σ'=>atX (tx p.1 (E2.e cx p.1 (cn side inA inB) σ') fun v σ=>nxtP (storeN cx p.1 k_inner v σ)) fun m σ=>execs E1 cx (loopB.drop 1) m σ
noncomputable def thn (x:X) (g:M->Store->X):X:=@X.rec (fun _=>X) .bad g (fun _ _=>.bad) (fun _ _ _=>.bad) (fun _ _=>.bad) x
noncomputable def Z0 (dg:Nat->Int->Option Int) (a b c:Bool):LZ:=ZL dg a b c none none none none none none
noncomputable def R0 (dg:Nat->Int->Option Int) (a b c:Bool):X:=
 thn (execs (EE (Z0 dg a b c) 200) cx ((b_law.drop 1).take 5) m00 s00) fun m σ=>
 thn (itR (EE (Z0 dg a b c) 199) (EE (Z0 dg a b c) 197) 0 [97] a m σ) fun m σ=>
 thn (itR (EE (Z0 dg a b c) 199) (EE (Z0 dg a b c) 197) 1 [98] b m σ) fun m σ=>
 itR (EE (Z0 dg a b c) 199) (EE (Z0 dg a b c) 197) 2 [99] c m σ
noncomputable def RA (dg:Nat->Int->Option Int) (a b c:Bool):X:=thn (R0 dg a b c) fun m σ=>execs (EE (Z0 dg a b c) 200) cx ((b_law.drop 7).take 4) m σ
noncomputable def RB (dg:Nat->Int->Option Int) (a b c su:Bool) (x2:AN):X:=thn (RA dg a b c) fun m σ=>execs (EE (ZL dg a b c (some su) none none (some x2) none none) 200) cx ((b_law.drop 11).take 3) m σ
noncomputable def RC (dg:Nat->Int->Option Int) (a b c su sv:Bool) (x2:AN):X:=thn (RB dg a b c su x2) fun m σ=>execs (EE (ZL dg a b c (some su) (some sv) none (some x2) none none) 200) cx ((b_law.drop 14).take 2) m σ
noncomputable def Z1 (dg:Nat->Int->Option Int) (a b c su sv od:Bool) (x2 x3 x4:AN):LZ:=ZL dg a b c (some su) (some sv) (some od) (some x2) (some x3) (some x4)
noncomputable def R1 (dg:Nat->Int->Option Int) (a b c su sv od:Bool) (x2 x3 x4:AN):X:=thn (RC dg a b c su sv x2) fun m σ=>execs (EE (Z1 dg a b c su sv od x2 x3 x4) 200) cx ((b_law.drop 16).take 2) m σ
noncomputable def isSomeB (o:AN):Bool:=match o with | some _=>true | none=>false
noncomputable def aw (od:Bool) (x3 x4:AN):AN:=cn od x3 x4
noncomputable def av (od:Bool) (x3 x4:AN):AN:=cn od x4 x3
noncomputable def letB (su sv:Bool) (u w v:AN):Bool:=cn (cn su (isSomeB u) true) (cn (isSomeB w) (cn sv (isSomeB v) true) false) false
noncomputable def R2 (dg:Nat->Int->Option Int) (a b c su sv od:Bool) (x2 x3 x4:AN):X:=
 thn (R1 dg a b c su sv od x2 x3 x4) fun m σ=>thn (nxtP (storeN cx m k_is_let (.bool (letB su sv x2 (aw od x3 x4) (av od x3 x4))) σ)) fun m σ=>
 execs (EE (Z1 dg a b c su sv od x2 x3 x4) 200) cx (b_law.drop 19) m σ
noncomputable def isT (x:X):Bool:=@X.rec (fun _=>Bool) false (fun _ _=>false) (fun _ _=>false) (fun v _ _=>@V.rec (fun _=>Bool) false (fun b=>b) (fun _=>false) (fun _=>false) (fun _=>false) (fun _=>false) v) (fun _ _=>false) x
noncomputable def duOf (x:X) (s:List Nat):Option (Option V):=@X.rec (fun _=>Option (Option V)) none (fun _ σ=>oc (σ.get 4) none fun o=>match o with
 | .cell (.ref d)=>oc (rdD σ d) none fun es=>some (lkS es s)
 | _=>none) (fun _ _=>none) (fun _ _ _=>none) (fun _ _=>none) x
noncomputable def GoL (dg:Nat->Int->Option Int) (a b c su sv od:Bool) (x2 x3 x4:AN):=(isT (R2 dg a b c su sv od x2 x3 x4),duOf (R1 dg a b c su sv od x2 x3 x4) [117],duOf (R1 dg a b c su sv od x2 x3 x4) [118],duOf (R1 dg a b c su sv od x2 x3 x4) [119])
noncomputable def GoR (su sv od:Bool) (x2 x3 x4:AN):=(true,some (cn su (some (ansV x2)) none),some (cn sv (some (ansV (av od x3 x4))) none),some (some (ansV (aw od x3 x4))))
noncomputable abbrev GoOk (dg:Nat->Int->Option Int) (a b c su sv od:Bool) (x2 x3 x4:AN):Prop:=GoL dg a b c su sv od x2 x3 x4=GoR su sv od x2 x3 x4
end L1
end

section
open PySem
namespace L1
inductive Tl (a b c:Bool):List Nat->Prop
 | A (h:a=true):Tl a b c [97]
 | B (h:b=true):Tl a b c [98]
 | C (h:c=true):Tl a b c [99]
noncomputable abbrev two (a b c:Bool):Bool:=cn a (cn b true c) (cn b c false)
inductive CO (T:List Nat->Prop) (t:Bool):AN->AN->AN->Prop
 | nnn:CO T t none none none
 | nnl (l:List Nat) (h:T l):CO T t none none (some l)
 | nll (l:List Nat) (h:T l):CO T t none (some l) (some l)
 | nln (l:List Nat) (h:T l) (q:t=true):CO T t none (some l) none
 | lll (l:List Nat) (h:T l):CO T t (some l) (some l) (some l)
 | lln (l:List Nat) (h:T l) (q:t=true):CO T t (some l) (some l) none
 | lnn (l:List Nat) (h:T l) (q:t=true):CO T t (some l) none none
theorem Tl.el {a b c:Bool} {P:List Nat->Prop} (A:a=true->P [97]) (B:b=true->P [98]) (C:c=true->P [99]):∀ l,Tl a b c l->P l:=by
 intro l h
 cases h with
 | A h=>exact A h
 | B h=>exact B h
 | C h=>exact C h
theorem nf {P:Prop} (z:false=true):P:=Bool.noConfusion z
noncomputable abbrev o:=false
noncomputable abbrev x:=true
section
variable {T:List Nat->Prop} {t:Bool} {G:AN->AN->AN->Prop}
theorem co_fff (W:∀ x2 x3,G x2 x3 none) (F:∀ l,T l->∀ x2 x3,G x2 x3 (some l)) {x2 x3 x4:AN} (h:CO T t x2 x3 x4):G x2 x3 x4:=by
 cases h with
 | nnn=>exact W _ _
 | nnl l h=>exact F l h _ _
 | nll l h=>exact F l h _ _
 | nln l h q=>exact W _ _
 | lll l h=>exact F l h _ _
 | lln l h q=>exact W _ _
 | lnn l h q=>exact W _ _
theorem co_fft (W:∀ x2 x4,G x2 none x4) (F:∀ l,T l->∀ x2 x4,G x2 (some l) x4) {x2 x3 x4:AN} (h:CO T t x2 x3 x4):G x2 x3 x4:=by
 cases h with
 | nnn=>exact W _ _
 | nnl l h=>exact W _ _
 | nll l h=>exact F l h _ _
 | nln l h q=>exact F l h _ _
 | lll l h=>exact F l h _ _
 | lln l h q=>exact F l h _ _
 | lnn l h q=>exact W _ _
theorem co_ftf (W:∀ x2 x3,G x2 x3 none) (V:∀ l,T l->∀ x2,G x2 none (some l)) (F:∀ l,T l->∀ x2,G x2 (some l) (some l)) {x2 x3 x4:AN} (h:CO T t x2 x3 x4):G x2 x3 x4:=by
 cases h with
 | nnn=>exact W _ _
 | nnl l h=>exact V l h _
 | nll l h=>exact F l h _
 | nln l h q=>exact W _ _
 | lll l h=>exact F l h _
 | lln l h q=>exact W _ _
 | lnn l h q=>exact W _ _
theorem co_ftt (W:∀ x2 x4,G x2 none x4) (V:∀ l,T l->t=true->∀ x2,G x2 (some l) none) (F:∀ l,T l->∀ x2,G x2 (some l) (some l)) {x2 x3 x4:AN} (h:CO T t x2 x3 x4):G x2 x3 x4:=by
 cases h with
 | nnn=>exact W _ _
 | nnl l h=>exact W _ _
 | nll l h=>exact F l h _
 | nln l h q=>exact V l h q _
 | lll l h=>exact F l h _
 | lln l h q=>exact V l h q _
 | lnn l h q=>exact W _ _
theorem co_tff (U:∀ x3 x4,G none x3 x4) (W:∀ l,T l->t=true->∀ x3,G (some l) x3 none) (F:∀ l,T l->∀ x3,G (some l) x3 (some l)) {x2 x3 x4:AN} (h:CO T t x2 x3 x4):G x2 x3 x4:=by
 cases h with
 | nnn=>exact U _ _
 | nnl l h=>exact U _ _
 | nll l h=>exact U _ _
 | nln l h q=>exact U _ _
 | lll l h=>exact F l h _
 | lln l h q=>exact W l h q _
 | lnn l h q=>exact W l h q _
theorem co_tft (U:∀ x3 x4,G none x3 x4) (W:∀ l,T l->t=true->∀ x4,G (some l) none x4) (F:∀ l,T l->∀ x4,G (some l) (some l) x4) {x2 x3 x4:AN} (h:CO T t x2 x3 x4):G x2 x3 x4:=by
 cases h with
 | nnn=>exact U _ _
 | nnl l h=>exact U _ _
 | nll l h=>exact U _ _
 | nln l h q=>exact U _ _
 | lll l h=>exact F l h _
 | lln l h q=>exact F l h _
 | lnn l h q=>exact W l h q _
theorem co_ttf (U:∀ x3 x4,G none x3 x4) (W:∀ l,T l->t=true->∀ x3,G (some l) x3 none) (F:∀ l,T l->G (some l) (some l) (some l)) {x2 x3 x4:AN} (h:CO T t x2 x3 x4):G x2 x3 x4:=by
 cases h with
 | nnn=>exact U _ _
 | nnl l h=>exact U _ _
 | nll l h=>exact U _ _
 | nln l h q=>exact U _ _
 | lll l h=>exact F l h
 | lln l h q=>exact W l h q _
 | lnn l h q=>exact W l h q _
theorem co_ttt (U:∀ x3 x4,G none x3 x4) (W:∀ l,T l->t=true->∀ x4,G (some l) none x4) (V:∀ l,T l->t=true->G (some l) (some l) none) (F:∀ l,T l->G (some l) (some l) (some l)) {x2 x3 x4:AN} (h:CO T t x2 x3 x4):G x2 x3 x4:=by
 cases h with
 | nnn=>exact U _ _
 | nnl l h=>exact U _ _
 | nll l h=>exact U _ _
 | nln l h q=>exact U _ _
 | lll l h=>exact F l h
 | lln l h q=>exact V l h q
 | lnn l h q=>exact W l h q _
end
theorem g0 (dg x2):(∀ x3,GoOk dg o o o o o o x2 x3 none)/\(∀ x4,GoOk dg o o o o o x x2 none x4)/\(∀ x3,GoOk dg o o o o x o x2 x3 none)/\(∀ x4,GoOk dg o o o o x x x2 none x4):=⟨fun _=>by kernel_rfl,
 fun _=>by kernel_rfl,
 fun _=>by kernel_rfl,
 fun _=>by kernel_rfl⟩
theorem g1 (dg):(∀ x3 x4,GoOk dg o o o x o o none x3 x4)/\(∀ x3 x4,GoOk dg o o o x o x none x3 x4)/\(∀ x3 x4,GoOk dg o o o x x o none x3 x4)/\(∀ x3 x4,GoOk dg o o o x x x none x3 x4):=⟨fun _ _=>by kernel_rfl,
 fun _ _=>by kernel_rfl,
 fun _ _=>by kernel_rfl,
 fun _ _=>by kernel_rfl⟩
theorem g2 (dg x2):(∀ x3,GoOk dg o o x o o o x2 x3 none)/\(∀ x3,GoOk dg o o x o o o x2 x3 (some [99]))/\(∀ x4,GoOk dg o o x o o x x2 none x4)/\(∀ x4,GoOk dg o o x o o x x2 (some [99]) x4)/\(∀ x3,GoOk dg o o x o x o x2 x3 none):=⟨fun _=>by kernel_rfl,
 fun _=>by kernel_rfl,
 fun _=>by kernel_rfl,
 fun _=>by kernel_rfl,
 fun _=>by kernel_rfl⟩
theorem g3 (dg x2):(GoOk dg o o x o x o x2 none (some [99]))/\(GoOk dg o o x o x o x2 (some [99]) (some [99]))/\(∀ x4,GoOk dg o o x o x x x2 none x4)/\(GoOk dg o o x o x x x2 (some [99]) (some [99])):=⟨by kernel_rfl,
 by kernel_rfl,
 fun _=>by kernel_rfl,
 by kernel_rfl⟩
theorem g4 (dg):(∀ x3 x4,GoOk dg o o x x o o none x3 x4)/\(∀ x3 x4,GoOk dg o o x x o x none x3 x4)/\(∀ x3 x4,GoOk dg o o x x x o none x3 x4)/\(∀ x3 x4,GoOk dg o o x x x x none x3 x4):=⟨fun _ _=>by kernel_rfl,
 fun _ _=>by kernel_rfl,
 fun _ _=>by kernel_rfl,
 fun _ _=>by kernel_rfl⟩
theorem g5 (dg):(∀ x3,GoOk dg o o x x o o (some [99]) x3 (some [99]))/\(∀ x4,GoOk dg o o x x o x (some [99]) (some [99]) x4)/\(GoOk dg o o x x x o (some [99]) (some [99]) (some [99]))/\(GoOk dg o o x x x x (some [99]) (some [99]) (some [99])):=⟨fun _=>by kernel_rfl,
 fun _=>by kernel_rfl,
 by kernel_rfl,
 by kernel_rfl⟩
theorem g6 (dg x2):(∀ x3,GoOk dg o x o o o o x2 x3 none)/\(∀ x3,GoOk dg o x o o o o x2 x3 (some [98]))/\(∀ x4,GoOk dg o x o o o x x2 none x4)/\(∀ x4,GoOk dg o x o o o x x2 (some [98]) x4)/\(∀ x3,GoOk dg o x o o x o x2 x3 none):=⟨fun _=>by kernel_rfl,
 fun _=>by kernel_rfl,
 fun _=>by kernel_rfl,
 fun _=>by kernel_rfl,
 fun _=>by kernel_rfl⟩
theorem g7 (dg x2):(GoOk dg o x o o x o x2 none (some [98]))/\(GoOk dg o x o o x o x2 (some [98]) (some [98]))/\(∀ x4,GoOk dg o x o o x x x2 none x4)/\(GoOk dg o x o o x x x2 (some [98]) (some [98])):=⟨by kernel_rfl,
 by kernel_rfl,
 fun _=>by kernel_rfl,
 by kernel_rfl⟩
theorem g8 (dg):(∀ x3 x4,GoOk dg o x o x o o none x3 x4)/\(∀ x3 x4,GoOk dg o x o x o x none x3 x4)/\(∀ x3 x4,GoOk dg o x o x x o none x3 x4)/\(∀ x3 x4,GoOk dg o x o x x x none x3 x4):=⟨fun _ _=>by kernel_rfl,
 fun _ _=>by kernel_rfl,
 fun _ _=>by kernel_rfl,
 fun _ _=>by kernel_rfl⟩
theorem g9 (dg):(∀ x3,GoOk dg o x o x o o (some [98]) x3 (some [98]))/\(∀ x4,GoOk dg o x o x o x (some [98]) (some [98]) x4)/\(GoOk dg o x o x x o (some [98]) (some [98]) (some [98]))/\(GoOk dg o x o x x x (some [98]) (some [98]) (some [98])):=⟨fun _=>by kernel_rfl,
 fun _=>by kernel_rfl,
 by kernel_rfl,
 by kernel_rfl⟩
theorem g10 (dg x2):(∀ x3,GoOk dg o x x o o o x2 x3 none)/\(∀ x3,GoOk dg o x x o o o x2 x3 (some [98]))/\(∀ x3,GoOk dg o x x o o o x2 x3 (some [99]))/\(∀ x4,GoOk dg o x x o o x x2 none x4)/\(∀ x4,GoOk dg o x x o o x x2 (some [98]) x4)/\(∀ x4,GoOk dg o x x o o x x2 (some [99]) x4):=⟨fun _=>by kernel_rfl,
 fun _=>by kernel_rfl,
 fun _=>by kernel_rfl,
 fun _=>by kernel_rfl,
 fun _=>by kernel_rfl,
 fun _=>by kernel_rfl⟩
theorem g11 (dg x2):(∀ x3,GoOk dg o x x o x o x2 x3 none)/\(GoOk dg o x x o x o x2 none (some [98]))/\(GoOk dg o x x o x o x2 none (some [99]))/\(GoOk dg o x x o x o x2 (some [98]) (some [98]))/\(GoOk dg o x x o x o x2 (some [99]) (some [99]))/\(∀ x4,GoOk dg o x x o x x x2 none x4):=⟨fun _=>by kernel_rfl,
 by kernel_rfl,
 by kernel_rfl,
 by kernel_rfl,
 by kernel_rfl,
 fun _=>by kernel_rfl⟩
theorem g12 (dg x2):(GoOk dg o x x o x x x2 (some [98]) none)/\(GoOk dg o x x o x x x2 (some [99]) none)/\(GoOk dg o x x o x x x2 (some [98]) (some [98]))/\(GoOk dg o x x o x x x2 (some [99]) (some [99])):=⟨by kernel_rfl,
 by kernel_rfl,
 by kernel_rfl,
 by kernel_rfl⟩
theorem g13 (dg):(∀ x3 x4,GoOk dg o x x x o o none x3 x4)/\(∀ x3 x4,GoOk dg o x x x o x none x3 x4)/\(∀ x3 x4,GoOk dg o x x x x o none x3 x4)/\(∀ x3 x4,GoOk dg o x x x x x none x3 x4)/\(∀ x3,GoOk dg o x x x o o (some [98]) x3 none)/\(∀ x3,GoOk dg o x x x o o (some [98]) x3 (some [98])):=⟨fun _ _=>by kernel_rfl,
 fun _ _=>by kernel_rfl,
 fun _ _=>by kernel_rfl,
 fun _ _=>by kernel_rfl,
 fun _=>by kernel_rfl,
 fun _=>by kernel_rfl⟩
theorem g14 (dg):(∀ x4,GoOk dg o x x x o x (some [98]) none x4)/\(∀ x4,GoOk dg o x x x o x (some [98]) (some [98]) x4)/\(∀ x3,GoOk dg o x x x x o (some [98]) x3 none)/\(GoOk dg o x x x x o (some [98]) (some [98]) (some [98]))/\(∀ x4,GoOk dg o x x x x x (some [98]) none x4)/\(GoOk dg o x x x x x (some [98]) (some [98]) none):=⟨fun _=>by kernel_rfl,
 fun _=>by kernel_rfl,
 fun _=>by kernel_rfl,
 by kernel_rfl,
 fun _=>by kernel_rfl,
 by kernel_rfl⟩
theorem g15 (dg):(GoOk dg o x x x x x (some [98]) (some [98]) (some [98]))/\(∀ x3,GoOk dg o x x x o o (some [99]) x3 none)/\(∀ x3,GoOk dg o x x x o o (some [99]) x3 (some [99]))/\(∀ x4,GoOk dg o x x x o x (some [99]) none x4)/\(∀ x4,GoOk dg o x x x o x (some [99]) (some [99]) x4)/\(∀ x3,GoOk dg o x x x x o (some [99]) x3 none):=⟨by kernel_rfl,
 fun _=>by kernel_rfl,
 fun _=>by kernel_rfl,
 fun _=>by kernel_rfl,
 fun _=>by kernel_rfl,
 fun _=>by kernel_rfl⟩
theorem g16 (dg):(GoOk dg o x x x x o (some [99]) (some [99]) (some [99]))/\(∀ x4,GoOk dg o x x x x x (some [99]) none x4)/\(GoOk dg o x x x x x (some [99]) (some [99]) none)/\(GoOk dg o x x x x x (some [99]) (some [99]) (some [99])):=⟨by kernel_rfl,
 fun _=>by kernel_rfl,
 by kernel_rfl,
 by kernel_rfl⟩
theorem g17 (dg x2):(∀ x3,GoOk dg x o o o o o x2 x3 none)/\(∀ x3,GoOk dg x o o o o o x2 x3 (some [97]))/\(∀ x4,GoOk dg x o o o o x x2 none x4)/\(∀ x4,GoOk dg x o o o o x x2 (some [97]) x4)/\(∀ x3,GoOk dg x o o o x o x2 x3 none):=⟨fun _=>by kernel_rfl,
 fun _=>by kernel_rfl,
 fun _=>by kernel_rfl,
 fun _=>by kernel_rfl,
 fun _=>by kernel_rfl⟩
theorem g18 (dg x2):(GoOk dg x o o o x o x2 none (some [97]))/\(GoOk dg x o o o x o x2 (some [97]) (some [97]))/\(∀ x4,GoOk dg x o o o x x x2 none x4)/\(GoOk dg x o o o x x x2 (some [97]) (some [97])):=⟨by kernel_rfl,
 by kernel_rfl,
 fun _=>by kernel_rfl,
 by kernel_rfl⟩
theorem g19 (dg):(∀ x3 x4,GoOk dg x o o x o o none x3 x4)/\(∀ x3 x4,GoOk dg x o o x o x none x3 x4)/\(∀ x3 x4,GoOk dg x o o x x o none x3 x4)/\(∀ x3 x4,GoOk dg x o o x x x none x3 x4):=⟨fun _ _=>by kernel_rfl,
 fun _ _=>by kernel_rfl,
 fun _ _=>by kernel_rfl,
 fun _ _=>by kernel_rfl⟩
theorem g20 (dg):(∀ x3,GoOk dg x o o x o o (some [97]) x3 (some [97]))/\(∀ x4,GoOk dg x o o x o x (some [97]) (some [97]) x4)/\(GoOk dg x o o x x o (some [97]) (some [97]) (some [97]))/\(GoOk dg x o o x x x (some [97]) (some [97]) (some [97])):=⟨fun _=>by kernel_rfl,
 fun _=>by kernel_rfl,
 by kernel_rfl,
 by kernel_rfl⟩
theorem g21 (dg x2):(∀ x3,GoOk dg x o x o o o x2 x3 none)/\(∀ x3,GoOk dg x o x o o o x2 x3 (some [97]))/\(∀ x3,GoOk dg x o x o o o x2 x3 (some [99]))/\(∀ x4,GoOk dg x o x o o x x2 none x4)/\(∀ x4,GoOk dg x o x o o x x2 (some [97]) x4)/\(∀ x4,GoOk dg x o x o o x x2 (some [99]) x4):=⟨fun _=>by kernel_rfl,
 fun _=>by kernel_rfl,
 fun _=>by kernel_rfl,
 fun _=>by kernel_rfl,
 fun _=>by kernel_rfl,
 fun _=>by kernel_rfl⟩
theorem g22 (dg x2):(∀ x3,GoOk dg x o x o x o x2 x3 none)/\(GoOk dg x o x o x o x2 none (some [97]))/\(GoOk dg x o x o x o x2 none (some [99]))/\(GoOk dg x o x o x o x2 (some [97]) (some [97]))/\(GoOk dg x o x o x o x2 (some [99]) (some [99]))/\(∀ x4,GoOk dg x o x o x x x2 none x4):=⟨fun _=>by kernel_rfl,
 by kernel_rfl,
 by kernel_rfl,
 by kernel_rfl,
 by kernel_rfl,
 fun _=>by kernel_rfl⟩
theorem g23 (dg x2):(GoOk dg x o x o x x x2 (some [97]) none)/\(GoOk dg x o x o x x x2 (some [99]) none)/\(GoOk dg x o x o x x x2 (some [97]) (some [97]))/\(GoOk dg x o x o x x x2 (some [99]) (some [99])):=⟨by kernel_rfl,
 by kernel_rfl,
 by kernel_rfl,
 by kernel_rfl⟩
theorem g24 (dg):(∀ x3 x4,GoOk dg x o x x o o none x3 x4)/\(∀ x3 x4,GoOk dg x o x x o x none x3 x4)/\(∀ x3 x4,GoOk dg x o x x x o none x3 x4)/\(∀ x3 x4,GoOk dg x o x x x x none x3 x4)/\(∀ x3,GoOk dg x o x x o o (some [97]) x3 none)/\(∀ x3,GoOk dg x o x x o o (some [97]) x3 (some [97])):=⟨fun _ _=>by kernel_rfl,
 fun _ _=>by kernel_rfl,
 fun _ _=>by kernel_rfl,
 fun _ _=>by kernel_rfl,
 fun _=>by kernel_rfl,
 fun _=>by kernel_rfl⟩
theorem g25 (dg):(∀ x4,GoOk dg x o x x o x (some [97]) none x4)/\(∀ x4,GoOk dg x o x x o x (some [97]) (some [97]) x4)/\(∀ x3,GoOk dg x o x x x o (some [97]) x3 none)/\(GoOk dg x o x x x o (some [97]) (some [97]) (some [97]))/\(∀ x4,GoOk dg x o x x x x (some [97]) none x4)/\(GoOk dg x o x x x x (some [97]) (some [97]) none):=⟨fun _=>by kernel_rfl,
 fun _=>by kernel_rfl,
 fun _=>by kernel_rfl,
 by kernel_rfl,
 fun _=>by kernel_rfl,
 by kernel_rfl⟩
theorem g26 (dg):(GoOk dg x o x x x x (some [97]) (some [97]) (some [97]))/\(∀ x3,GoOk dg x o x x o o (some [99]) x3 none)/\(∀ x3,GoOk dg x o x x o o (some [99]) x3 (some [99]))/\(∀ x4,GoOk dg x o x x o x (some [99]) none x4)/\(∀ x4,GoOk dg x o x x o x (some [99]) (some [99]) x4)/\(∀ x3,GoOk dg x o x x x o (some [99]) x3 none):=⟨by kernel_rfl,
 fun _=>by kernel_rfl,
 fun _=>by kernel_rfl,
 fun _=>by kernel_rfl,
 fun _=>by kernel_rfl,
 fun _=>by kernel_rfl⟩
theorem g27 (dg):(GoOk dg x o x x x o (some [99]) (some [99]) (some [99]))/\(∀ x4,GoOk dg x o x x x x (some [99]) none x4)/\(GoOk dg x o x x x x (some [99]) (some [99]) none)/\(GoOk dg x o x x x x (some [99]) (some [99]) (some [99])):=⟨by kernel_rfl,
 fun _=>by kernel_rfl,
 by kernel_rfl,
 by kernel_rfl⟩
theorem g28 (dg x2):(∀ x3,GoOk dg x x o o o o x2 x3 none)/\(∀ x3,GoOk dg x x o o o o x2 x3 (some [97]))/\(∀ x3,GoOk dg x x o o o o x2 x3 (some [98]))/\(∀ x4,GoOk dg x x o o o x x2 none x4)/\(∀ x4,GoOk dg x x o o o x x2 (some [97]) x4)/\(∀ x4,GoOk dg x x o o o x x2 (some [98]) x4):=⟨fun _=>by kernel_rfl,
 fun _=>by kernel_rfl,
 fun _=>by kernel_rfl,
 fun _=>by kernel_rfl,
 fun _=>by kernel_rfl,
 fun _=>by kernel_rfl⟩
theorem g29 (dg x2):(∀ x3,GoOk dg x x o o x o x2 x3 none)/\(GoOk dg x x o o x o x2 none (some [97]))/\(GoOk dg x x o o x o x2 none (some [98]))/\(GoOk dg x x o o x o x2 (some [97]) (some [97]))/\(GoOk dg x x o o x o x2 (some [98]) (some [98]))/\(∀ x4,GoOk dg x x o o x x x2 none x4):=⟨fun _=>by kernel_rfl,
 by kernel_rfl,
 by kernel_rfl,
 by kernel_rfl,
 by kernel_rfl,
 fun _=>by kernel_rfl⟩
theorem g30 (dg x2):(GoOk dg x x o o x x x2 (some [97]) none)/\(GoOk dg x x o o x x x2 (some [98]) none)/\(GoOk dg x x o o x x x2 (some [97]) (some [97]))/\(GoOk dg x x o o x x x2 (some [98]) (some [98])):=⟨by kernel_rfl,
 by kernel_rfl,
 by kernel_rfl,
 by kernel_rfl⟩
theorem g31 (dg):(∀ x3 x4,GoOk dg x x o x o o none x3 x4)/\(∀ x3 x4,GoOk dg x x o x o x none x3 x4)/\(∀ x3 x4,GoOk dg x x o x x o none x3 x4)/\(∀ x3 x4,GoOk dg x x o x x x none x3 x4)/\(∀ x3,GoOk dg x x o x o o (some [97]) x3 none)/\(∀ x3,GoOk dg x x o x o o (some [97]) x3 (some [97])):=⟨fun _ _=>by kernel_rfl,
 fun _ _=>by kernel_rfl,
 fun _ _=>by kernel_rfl,
 fun _ _=>by kernel_rfl,
 fun _=>by kernel_rfl,
 fun _=>by kernel_rfl⟩
theorem g32 (dg):(∀ x4,GoOk dg x x o x o x (some [97]) none x4)/\(∀ x4,GoOk dg x x o x o x (some [97]) (some [97]) x4)/\(∀ x3,GoOk dg x x o x x o (some [97]) x3 none)/\(GoOk dg x x o x x o (some [97]) (some [97]) (some [97]))/\(∀ x4,GoOk dg x x o x x x (some [97]) none x4)/\(GoOk dg x x o x x x (some [97]) (some [97]) none):=⟨fun _=>by kernel_rfl,
 fun _=>by kernel_rfl,
 fun _=>by kernel_rfl,
 by kernel_rfl,
 fun _=>by kernel_rfl,
 by kernel_rfl⟩
theorem g33 (dg):(GoOk dg x x o x x x (some [97]) (some [97]) (some [97]))/\(∀ x3,GoOk dg x x o x o o (some [98]) x3 none)/\(∀ x3,GoOk dg x x o x o o (some [98]) x3 (some [98]))/\(∀ x4,GoOk dg x x o x o x (some [98]) none x4)/\(∀ x4,GoOk dg x x o x o x (some [98]) (some [98]) x4)/\(∀ x3,GoOk dg x x o x x o (some [98]) x3 none):=⟨by kernel_rfl,
 fun _=>by kernel_rfl,
 fun _=>by kernel_rfl,
 fun _=>by kernel_rfl,
 fun _=>by kernel_rfl,
 fun _=>by kernel_rfl⟩
theorem g34 (dg):(GoOk dg x x o x x o (some [98]) (some [98]) (some [98]))/\(∀ x4,GoOk dg x x o x x x (some [98]) none x4)/\(GoOk dg x x o x x x (some [98]) (some [98]) none)/\(GoOk dg x x o x x x (some [98]) (some [98]) (some [98])):=⟨by kernel_rfl,
 fun _=>by kernel_rfl,
 by kernel_rfl,
 by kernel_rfl⟩
theorem g35 (dg x2):(∀ x3,GoOk dg x x x o o o x2 x3 none)/\(∀ x3,GoOk dg x x x o o o x2 x3 (some [97]))/\(∀ x3,GoOk dg x x x o o o x2 x3 (some [98]))/\(∀ x3,GoOk dg x x x o o o x2 x3 (some [99]))/\(∀ x4,GoOk dg x x x o o x x2 none x4)/\(∀ x4,GoOk dg x x x o o x x2 (some [97]) x4):=⟨fun _=>by kernel_rfl,
 fun _=>by kernel_rfl,
 fun _=>by kernel_rfl,
 fun _=>by kernel_rfl,
 fun _=>by kernel_rfl,
 fun _=>by kernel_rfl⟩
theorem g36 (dg x2):(∀ x4,GoOk dg x x x o o x x2 (some [98]) x4)/\(∀ x4,GoOk dg x x x o o x x2 (some [99]) x4)/\(∀ x3,GoOk dg x x x o x o x2 x3 none)/\(GoOk dg x x x o x o x2 none (some [97]))/\(GoOk dg x x x o x o x2 none (some [98]))/\(GoOk dg x x x o x o x2 none (some [99])):=⟨fun _=>by kernel_rfl,
 fun _=>by kernel_rfl,
 fun _=>by kernel_rfl,
 by kernel_rfl,
 by kernel_rfl,
 by kernel_rfl⟩
theorem g37 (dg x2):(GoOk dg x x x o x o x2 (some [97]) (some [97]))/\(GoOk dg x x x o x o x2 (some [98]) (some [98]))/\(GoOk dg x x x o x o x2 (some [99]) (some [99]))/\(∀ x4,GoOk dg x x x o x x x2 none x4)/\(GoOk dg x x x o x x x2 (some [97]) none)/\(GoOk dg x x x o x x x2 (some [98]) none):=⟨by kernel_rfl,
 by kernel_rfl,
 by kernel_rfl,
 fun _=>by kernel_rfl,
 by kernel_rfl,
 by kernel_rfl⟩
theorem g38 (dg x2):(GoOk dg x x x o x x x2 (some [99]) none)/\(GoOk dg x x x o x x x2 (some [97]) (some [97]))/\(GoOk dg x x x o x x x2 (some [98]) (some [98]))/\(GoOk dg x x x o x x x2 (some [99]) (some [99])):=⟨by kernel_rfl,
 by kernel_rfl,
 by kernel_rfl,
 by kernel_rfl⟩
theorem g39 (dg):(∀ x3 x4,GoOk dg x x x x o o none x3 x4)/\(∀ x3 x4,GoOk dg x x x x o x none x3 x4)/\(∀ x3 x4,GoOk dg x x x x x o none x3 x4)/\(∀ x3 x4,GoOk dg x x x x x x none x3 x4)/\(∀ x3,GoOk dg x x x x o o (some [97]) x3 none)/\(∀ x3,GoOk dg x x x x o o (some [97]) x3 (some [97])):=⟨fun _ _=>by kernel_rfl,
 fun _ _=>by kernel_rfl,
 fun _ _=>by kernel_rfl,
 fun _ _=>by kernel_rfl,
 fun _=>by kernel_rfl,
 fun _=>by kernel_rfl⟩
theorem g40 (dg):(∀ x4,GoOk dg x x x x o x (some [97]) none x4)/\(∀ x4,GoOk dg x x x x o x (some [97]) (some [97]) x4)/\(∀ x3,GoOk dg x x x x x o (some [97]) x3 none)/\(GoOk dg x x x x x o (some [97]) (some [97]) (some [97]))/\(∀ x4,GoOk dg x x x x x x (some [97]) none x4)/\(GoOk dg x x x x x x (some [97]) (some [97]) none):=⟨fun _=>by kernel_rfl,
 fun _=>by kernel_rfl,
 fun _=>by kernel_rfl,
 by kernel_rfl,
 fun _=>by kernel_rfl,
 by kernel_rfl⟩
theorem g41 (dg):(GoOk dg x x x x x x (some [97]) (some [97]) (some [97]))/\(∀ x3,GoOk dg x x x x o o (some [98]) x3 none)/\(∀ x3,GoOk dg x x x x o o (some [98]) x3 (some [98]))/\(∀ x4,GoOk dg x x x x o x (some [98]) none x4)/\(∀ x4,GoOk dg x x x x o x (some [98]) (some [98]) x4)/\(∀ x3,GoOk dg x x x x x o (some [98]) x3 none):=⟨by kernel_rfl,
 fun _=>by kernel_rfl,
 fun _=>by kernel_rfl,
 fun _=>by kernel_rfl,
 fun _=>by kernel_rfl,
 fun _=>by kernel_rfl⟩
theorem g42 (dg):(GoOk dg x x x x x o (some [98]) (some [98]) (some [98]))/\(∀ x4,GoOk dg x x x x x x (some [98]) none x4)/\(GoOk dg x x x x x x (some [98]) (some [98]) none)/\(GoOk dg x x x x x x (some [98]) (some [98]) (some [98]))/\(∀ x3,GoOk dg x x x x o o (some [99]) x3 none)/\(∀ x3,GoOk dg x x x x o o (some [99]) x3 (some [99])):=⟨by kernel_rfl,
 fun _=>by kernel_rfl,
 by kernel_rfl,
 by kernel_rfl,
 fun _=>by kernel_rfl,
 fun _=>by kernel_rfl⟩
theorem g43 (dg):(∀ x4,GoOk dg x x x x o x (some [99]) none x4)/\(∀ x4,GoOk dg x x x x o x (some [99]) (some [99]) x4)/\(∀ x3,GoOk dg x x x x x o (some [99]) x3 none)/\(GoOk dg x x x x x o (some [99]) (some [99]) (some [99]))/\(∀ x4,GoOk dg x x x x x x (some [99]) none x4)/\(GoOk dg x x x x x x (some [99]) (some [99]) none):=⟨fun _=>by kernel_rfl,
 fun _=>by kernel_rfl,
 fun _=>by kernel_rfl,
 by kernel_rfl,
 fun _=>by kernel_rfl,
 by kernel_rfl⟩
theorem g44 (dg):GoOk dg x x x x x x (some [99]) (some [99]) (some [99]):=by kernel_rfl
theorem go_all (dg:Nat->Int->Option Int) (a b c su sv od:Bool) (x2 x3 x4:AN) (h:CO (Tl a b c) (two a b c) x2 x3 x4):GoOk dg a b c su sv od x2 x3 x4:=by
 cases a <;> cases b <;> cases c <;> cases su <;> cases sv <;> cases od
 ·exact co_fff (fun a b=>(g0 dg a).1 b) (Tl.el nf nf nf) h
 ·exact co_fft (fun a c=>(g0 dg a).2.1 c) (Tl.el nf nf nf) h
 ·exact co_ftf (fun a b=>(g0 dg a).2.2.1 b) (Tl.el nf nf nf) (Tl.el nf nf nf) h
 ·exact co_ftt (fun a c=>(g0 dg a).2.2.2 c) (fun _ _=>nf) (Tl.el nf nf nf) h
 ·exact co_tff ((g1 dg).1) (fun _ _=>nf) (Tl.el nf nf nf) h
 ·exact co_tft ((g1 dg).2.1) (fun _ _=>nf) (Tl.el nf nf nf) h
 ·exact co_ttf ((g1 dg).2.2.1) (fun _ _=>nf) (Tl.el nf nf nf) h
 ·exact co_ttt ((g1 dg).2.2.2) (fun _ _=>nf) (fun _ _=>nf) (Tl.el nf nf nf) h
 ·exact co_fff (fun a b=>(g2 dg a).1 b) (Tl.el nf nf (fun _=>fun a b=>(g2 dg a).2.1 b)) h
 ·exact co_fft (fun a c=>(g2 dg a).2.2.1 c) (Tl.el nf nf (fun _=>fun a c=>(g2 dg a).2.2.2.1 c)) h
 ·exact co_ftf (fun a b=>(g2 dg a).2.2.2.2 b) (Tl.el nf nf (fun _=>fun a=>(g3 dg a).1)) (Tl.el nf nf (fun _=>fun a=>(g3 dg a).2.1)) h
 ·exact co_ftt (fun a c=>(g3 dg a).2.2.1 c) (fun _ _=>nf) (Tl.el nf nf (fun _=>fun a=>(g3 dg a).2.2.2)) h
 ·exact co_tff ((g4 dg).1) (fun _ _=>nf) (Tl.el nf nf (fun _=>(g5 dg).1)) h
 ·exact co_tft ((g4 dg).2.1) (fun _ _=>nf) (Tl.el nf nf (fun _=>(g5 dg).2.1)) h
 ·exact co_ttf ((g4 dg).2.2.1) (fun _ _=>nf) (Tl.el nf nf (fun _=>(g5 dg).2.2.1)) h
 ·exact co_ttt ((g4 dg).2.2.2) (fun _ _=>nf) (fun _ _=>nf) (Tl.el nf nf (fun _=>(g5 dg).2.2.2)) h
 ·exact co_fff (fun a b=>(g6 dg a).1 b) (Tl.el nf (fun _=>fun a b=>(g6 dg a).2.1 b) nf) h
 ·exact co_fft (fun a c=>(g6 dg a).2.2.1 c) (Tl.el nf (fun _=>fun a c=>(g6 dg a).2.2.2.1 c) nf) h
 ·exact co_ftf (fun a b=>(g6 dg a).2.2.2.2 b) (Tl.el nf (fun _=>fun a=>(g7 dg a).1) nf) (Tl.el nf (fun _=>fun a=>(g7 dg a).2.1) nf) h
 ·exact co_ftt (fun a c=>(g7 dg a).2.2.1 c) (fun _ _=>nf) (Tl.el nf (fun _=>fun a=>(g7 dg a).2.2.2) nf) h
 ·exact co_tff ((g8 dg).1) (fun _ _=>nf) (Tl.el nf (fun _=>(g9 dg).1) nf) h
 ·exact co_tft ((g8 dg).2.1) (fun _ _=>nf) (Tl.el nf (fun _=>(g9 dg).2.1) nf) h
 ·exact co_ttf ((g8 dg).2.2.1) (fun _ _=>nf) (Tl.el nf (fun _=>(g9 dg).2.2.1) nf) h
 ·exact co_ttt ((g8 dg).2.2.2) (fun _ _=>nf) (fun _ _=>nf) (Tl.el nf (fun _=>(g9 dg).2.2.2) nf) h
 ·exact co_fff (fun a b=>(g10 dg a).1 b) (Tl.el nf (fun _=>fun a b=>(g10 dg a).2.1 b) (fun _=>fun a b=>(g10 dg a).2.2.1 b)) h
 ·exact co_fft (fun a c=>(g10 dg a).2.2.2.1 c) (Tl.el nf (fun _=>fun a c=>(g10 dg a).2.2.2.2.1 c) (fun _=>fun a c=>(g10 dg a).2.2.2.2.2 c)) h
 ·exact co_ftf (fun a b=>(g11 dg a).1 b) (Tl.el nf (fun _=>fun a=>(g11 dg a).2.1) (fun _=>fun a=>(g11 dg a).2.2.1)) (Tl.el nf (fun _=>fun a=>(g11 dg a).2.2.2.1) (fun _=>fun a=>(g11 dg a).2.2.2.2.1)) h
 ·exact co_ftt (fun a c=>(g11 dg a).2.2.2.2.2 c) (Tl.el nf (fun _ _=>fun a=>(g12 dg a).1) (fun _ _=>fun a=>(g12 dg a).2.1)) (Tl.el nf (fun _=>fun a=>(g12 dg a).2.2.1) (fun _=>fun a=>(g12 dg a).2.2.2)) h
 ·exact co_tff ((g13 dg).1) (Tl.el nf (fun _ _=>(g13 dg).2.2.2.2.1) (fun _ _=>(g15 dg).2.1)) (Tl.el nf (fun _=>(g13 dg).2.2.2.2.2) (fun _=>(g15 dg).2.2.1)) h
 ·exact co_tft ((g13 dg).2.1) (Tl.el nf (fun _ _=>(g14 dg).1) (fun _ _=>(g15 dg).2.2.2.1)) (Tl.el nf (fun _=>(g14 dg).2.1) (fun _=>(g15 dg).2.2.2.2.1)) h
 ·exact co_ttf ((g13 dg).2.2.1) (Tl.el nf (fun _ _=>(g14 dg).2.2.1) (fun _ _=>(g15 dg).2.2.2.2.2)) (Tl.el nf (fun _=>(g14 dg).2.2.2.1) (fun _=>(g16 dg).1)) h
 ·exact co_ttt ((g13 dg).2.2.2.1) (Tl.el nf (fun _ _=>(g14 dg).2.2.2.2.1) (fun _ _=>(g16 dg).2.1)) (Tl.el nf (fun _ _=>(g14 dg).2.2.2.2.2) (fun _ _=>(g16 dg).2.2.1)) (Tl.el nf (fun _=>(g15 dg).1) (fun _=>(g16 dg).2.2.2)) h
 ·exact co_fff (fun a b=>(g17 dg a).1 b) (Tl.el (fun _=>fun a b=>(g17 dg a).2.1 b) nf nf) h
 ·exact co_fft (fun a c=>(g17 dg a).2.2.1 c) (Tl.el (fun _=>fun a c=>(g17 dg a).2.2.2.1 c) nf nf) h
 ·exact co_ftf (fun a b=>(g17 dg a).2.2.2.2 b) (Tl.el (fun _=>fun a=>(g18 dg a).1) nf nf) (Tl.el (fun _=>fun a=>(g18 dg a).2.1) nf nf) h
 ·exact co_ftt (fun a c=>(g18 dg a).2.2.1 c) (fun _ _=>nf) (Tl.el (fun _=>fun a=>(g18 dg a).2.2.2) nf nf) h
 ·exact co_tff ((g19 dg).1) (fun _ _=>nf) (Tl.el (fun _=>(g20 dg).1) nf nf) h
 ·exact co_tft ((g19 dg).2.1) (fun _ _=>nf) (Tl.el (fun _=>(g20 dg).2.1) nf nf) h
 ·exact co_ttf ((g19 dg).2.2.1) (fun _ _=>nf) (Tl.el (fun _=>(g20 dg).2.2.1) nf nf) h
 ·exact co_ttt ((g19 dg).2.2.2) (fun _ _=>nf) (fun _ _=>nf) (Tl.el (fun _=>(g20 dg).2.2.2) nf nf) h
 ·exact co_fff (fun a b=>(g21 dg a).1 b) (Tl.el (fun _=>fun a b=>(g21 dg a).2.1 b) nf (fun _=>fun a b=>(g21 dg a).2.2.1 b)) h
 ·exact co_fft (fun a c=>(g21 dg a).2.2.2.1 c) (Tl.el (fun _=>fun a c=>(g21 dg a).2.2.2.2.1 c) nf (fun _=>fun a c=>(g21 dg a).2.2.2.2.2 c)) h
 ·exact co_ftf (fun a b=>(g22 dg a).1 b) (Tl.el (fun _=>fun a=>(g22 dg a).2.1) nf (fun _=>fun a=>(g22 dg a).2.2.1)) (Tl.el (fun _=>fun a=>(g22 dg a).2.2.2.1) nf (fun _=>fun a=>(g22 dg a).2.2.2.2.1)) h
 ·exact co_ftt (fun a c=>(g22 dg a).2.2.2.2.2 c) (Tl.el (fun _ _=>fun a=>(g23 dg a).1) nf (fun _ _=>fun a=>(g23 dg a).2.1)) (Tl.el (fun _=>fun a=>(g23 dg a).2.2.1) nf (fun _=>fun a=>(g23 dg a).2.2.2)) h
 ·exact co_tff ((g24 dg).1) (Tl.el (fun _ _=>(g24 dg).2.2.2.2.1) nf (fun _ _=>(g26 dg).2.1)) (Tl.el (fun _=>(g24 dg).2.2.2.2.2) nf (fun _=>(g26 dg).2.2.1)) h
 ·exact co_tft ((g24 dg).2.1) (Tl.el (fun _ _=>(g25 dg).1) nf (fun _ _=>(g26 dg).2.2.2.1)) (Tl.el (fun _=>(g25 dg).2.1) nf (fun _=>(g26 dg).2.2.2.2.1)) h
 ·exact co_ttf ((g24 dg).2.2.1) (Tl.el (fun _ _=>(g25 dg).2.2.1) nf (fun _ _=>(g26 dg).2.2.2.2.2)) (Tl.el (fun _=>(g25 dg).2.2.2.1) nf (fun _=>(g27 dg).1)) h
 ·exact co_ttt ((g24 dg).2.2.2.1) (Tl.el (fun _ _=>(g25 dg).2.2.2.2.1) nf (fun _ _=>(g27 dg).2.1)) (Tl.el (fun _ _=>(g25 dg).2.2.2.2.2) nf (fun _ _=>(g27 dg).2.2.1)) (Tl.el (fun _=>(g26 dg).1) nf (fun _=>(g27 dg).2.2.2)) h
 ·exact co_fff (fun a b=>(g28 dg a).1 b) (Tl.el (fun _=>fun a b=>(g28 dg a).2.1 b) (fun _=>fun a b=>(g28 dg a).2.2.1 b) nf) h
 ·exact co_fft (fun a c=>(g28 dg a).2.2.2.1 c) (Tl.el (fun _=>fun a c=>(g28 dg a).2.2.2.2.1 c) (fun _=>fun a c=>(g28 dg a).2.2.2.2.2 c) nf) h
 ·exact co_ftf (fun a b=>(g29 dg a).1 b) (Tl.el (fun _=>fun a=>(g29 dg a).2.1) (fun _=>fun a=>(g29 dg a).2.2.1) nf) (Tl.el (fun _=>fun a=>(g29 dg a).2.2.2.1) (fun _=>fun a=>(g29 dg a).2.2.2.2.1) nf) h
 ·exact co_ftt (fun a c=>(g29 dg a).2.2.2.2.2 c) (Tl.el (fun _ _=>fun a=>(g30 dg a).1) (fun _ _=>fun a=>(g30 dg a).2.1) nf) (Tl.el (fun _=>fun a=>(g30 dg a).2.2.1) (fun _=>fun a=>(g30 dg a).2.2.2) nf) h
 ·exact co_tff ((g31 dg).1) (Tl.el (fun _ _=>(g31 dg).2.2.2.2.1) (fun _ _=>(g33 dg).2.1) nf) (Tl.el (fun _=>(g31 dg).2.2.2.2.2) (fun _=>(g33 dg).2.2.1) nf) h
 ·exact co_tft ((g31 dg).2.1) (Tl.el (fun _ _=>(g32 dg).1) (fun _ _=>(g33 dg).2.2.2.1) nf) (Tl.el (fun _=>(g32 dg).2.1) (fun _=>(g33 dg).2.2.2.2.1) nf) h
 ·exact co_ttf ((g31 dg).2.2.1) (Tl.el (fun _ _=>(g32 dg).2.2.1) (fun _ _=>(g33 dg).2.2.2.2.2) nf) (Tl.el (fun _=>(g32 dg).2.2.2.1) (fun _=>(g34 dg).1) nf) h
 ·exact co_ttt ((g31 dg).2.2.2.1) (Tl.el (fun _ _=>(g32 dg).2.2.2.2.1) (fun _ _=>(g34 dg).2.1) nf) (Tl.el (fun _ _=>(g32 dg).2.2.2.2.2) (fun _ _=>(g34 dg).2.2.1) nf) (Tl.el (fun _=>(g33 dg).1) (fun _=>(g34 dg).2.2.2) nf) h
 ·exact co_fff (fun a b=>(g35 dg a).1 b) (Tl.el (fun _=>fun a b=>(g35 dg a).2.1 b) (fun _=>fun a b=>(g35 dg a).2.2.1 b) (fun _=>fun a b=>(g35 dg a).2.2.2.1 b)) h
 ·exact co_fft (fun a c=>(g35 dg a).2.2.2.2.1 c) (Tl.el (fun _=>fun a c=>(g35 dg a).2.2.2.2.2 c) (fun _=>fun a c=>(g36 dg a).1 c) (fun _=>fun a c=>(g36 dg a).2.1 c)) h
 ·exact co_ftf (fun a b=>(g36 dg a).2.2.1 b) (Tl.el (fun _=>fun a=>(g36 dg a).2.2.2.1) (fun _=>fun a=>(g36 dg a).2.2.2.2.1) (fun _=>fun a=>(g36 dg a).2.2.2.2.2)) (Tl.el (fun _=>fun a=>(g37 dg a).1) (fun _=>fun a=>(g37 dg a).2.1) (fun _=>fun a=>(g37 dg a).2.2.1)) h
 ·exact co_ftt (fun a c=>(g37 dg a).2.2.2.1 c) (Tl.el (fun _ _=>fun a=>(g37 dg a).2.2.2.2.1) (fun _ _=>fun a=>(g37 dg a).2.2.2.2.2) (fun _ _=>fun a=>(g38 dg a).1)) (Tl.el (fun _=>fun a=>(g38 dg a).2.1) (fun _=>fun a=>(g38 dg a).2.2.1) (fun _=>fun a=>(g38 dg a).2.2.2)) h
 ·exact co_tff ((g39 dg).1) (Tl.el (fun _ _=>(g39 dg).2.2.2.2.1) (fun _ _=>(g41 dg).2.1) (fun _ _=>(g42 dg).2.2.2.2.1)) (Tl.el (fun _=>(g39 dg).2.2.2.2.2) (fun _=>(g41 dg).2.2.1) (fun _=>(g42 dg).2.2.2.2.2)) h
 ·exact co_tft ((g39 dg).2.1) (Tl.el (fun _ _=>(g40 dg).1) (fun _ _=>(g41 dg).2.2.2.1) (fun _ _=>(g43 dg).1)) (Tl.el (fun _=>(g40 dg).2.1) (fun _=>(g41 dg).2.2.2.2.1) (fun _=>(g43 dg).2.1)) h
 ·exact co_ttf ((g39 dg).2.2.1) (Tl.el (fun _ _=>(g40 dg).2.2.1) (fun _ _=>(g41 dg).2.2.2.2.2) (fun _ _=>(g43 dg).2.2.1)) (Tl.el (fun _=>(g40 dg).2.2.2.1) (fun _=>(g42 dg).1) (fun _=>(g43 dg).2.2.2.1)) h
 ·exact co_ttt ((g39 dg).2.2.2.1) (Tl.el (fun _ _=>(g40 dg).2.2.2.2.1) (fun _ _=>(g42 dg).2.1) (fun _ _=>(g43 dg).2.2.2.2.1)) (Tl.el (fun _ _=>(g40 dg).2.2.2.2.2) (fun _ _=>(g42 dg).2.2.1) (fun _ _=>(g43 dg).2.2.2.2.2)) (Tl.el (fun _=>(g41 dg).1) (fun _=>(g42 dg).2.2.2.1) (fun _=>(g44 dg))) h
end L1
end

section
open PySem PySem.W PySem.Calls PyProof.Rows

theorem cnE {α:Type} {b:Bool} {x:Option α} {y:α} (h:cn b x none=some y):b=true/\x=some y:=by
 induction b using Bool.casesOn with
 | true=>exact⟨rfl,h⟩
 | false=>cases h
namespace L1
noncomputable abbrev KZ (Z:LZ):Kt:=⟨P,bm,omL Z⟩
section
variable {Z:LZ} {dg:Nat->Int->Option Int} {m m':M} {σ σ':Store} {t n:Nat} {sd d:Int}
theorem digS_at (h:digS t m σ=some σ'):∃ p rt,lk m k_mine=some (.ref p)/\σ.get p=some (.sdict t)/\rdS σ 1=some rt/\Nat.beq rt 7=true/\σ'=σ.set p (.sdict (t+1)):=by
 refine ocE h fun v h1 h=>?_
 induction v using Mine.V.casesOn with
 | ref p=>
  refine ocE h fun o h2 h=>?_
  induction o using Mine.O.casesOn with
  | sdict t'=>
   obtain⟨h3,h⟩:=cnE h
   refine ocE h fun rt h4 h=>?_
   obtain⟨h5,h⟩:=cnE h
   cases h
   exact⟨p,rt,h1,by rw[<-Nat.eq_of_beq_eq_true h3];exact h2,h4,h5,rfl⟩
  | _=>cases h
 | _=>cases h
theorem dig_e (hz:Z.d=⟨1,7,dg⟩) (hd:dg t sd=some d) (h:digS t m σ=some σ') (p1 p2 p3 p4:Pos) (k:Nat):(ev (KZ Z) (n+2)).e cx m (.call (.name k__law_lift p1) [.name k_mine p2,.cint sd k p3] p4) σ=.ok (.int d) σ':=by
 obtain⟨p,rt,h1,h2,h3,h5,e⟩:=digS_at h
 rw[e]
 have g:gDig Z.d 60 false [.ref p,.int sd] σ=some (.ok (.int d) (σ.set p (.sdict (t+1)))):=by
  rw[hz]
  show guard' (Nat.ble 1 60) (match σ.get p with
  | some (.sdict t)=>(match rdS σ 1 with
   | some rt=>guard' (Nat.beq rt 7) ((dg t sd).bind fun d=>some (Mine.R.ok (V.int d) (σ.set p (.sdict (t+1)))))
   | none=>none)
  | _=>none)=_
  rw[h2,h3]
  show guard' (Nat.beq rt 7) ((dg t sd).bind fun d=>some (Mine.R.ok (V.int d) (σ.set p (.sdict (t+1)))))=_
  rw[h5,hd];rfl
 refine q_call (fv:=.top (.ref a__law_lift)) (vs:=[.ref p,.int sd]) rfl (q_glob rfl rfl) (q_evs (q_loc rfl h1) (q_evs q_int q_evs_nil)) ?_
 show oc (gDig Z.d 60 false [.ref p,.int sd] σ) _ (fun r=>r)=_
 exact ocq g rfl
theorem dig_t (hz:Z.d=⟨1,7,dg⟩) (hd:dg t sd=some d) (h:digS t m σ=some σ') (p1 p2 p3 p4 p5 p6:Pos) (k k':Nat) (lim:Int):(ev (KZ Z) (n+3)).t cx m (.cmp (.call (.name k__law_lift p1) [.name k_mine p2,.cint sd k p3] p4) .Lt (.cint lim k' p5) p6) σ=.ok (ltI d lim) σ':=q_tCmp (dig_e hz hd h p1 p2 p3 p4 k) q_int rfl
theorem execs_app (E:Ev) (c:Cx) (l1 l2:List S):∀ (m:M) (σ:Store),execs E c (l1++l2) m σ=atX (execs E c l1 m σ) (execs E c l2):=by
 induction l1 with
 | nil=>exact fun _ _=>rfl
 | cons s r ih=>
  intro m σ
  show atX (E.s c m s σ) (execs E c (r++l2))=atX (atX (E.s c m s σ) (execs E c r)) (execs E c l2)
  induction E.s c m s σ using Mine.X.casesOn with
  | nxt m σ=>exact ih m σ
  | _=>rfl
theorem it_eq (hz:Z.d=⟨1,7,dg⟩) (hd:dg t 5=some d) {s:List Nat} {c0:Nat} (hs:s=[c0]) {f i:Nat} (hn:nth [97,98,99] i=some c0) {m':M} (h:itR (EE Z (n+5)) (EE Z (n+3)) t s (ltI d 4) m σ=.nxt m' σ') {g:G} (hg:g=.nm 13 ⟨865,8,865,12⟩) :
  forL (ev (KZ Z) (n+5)) cx g loopB (.str [97,98,99]) (f+1) i m σ=forL (ev (KZ Z) (n+5)) cx g loopB (.str [97,98,99]) f (i+1) m' σ':=by
 rw[hs,EE_eq,EE_eq] at h
 rw[hg]
 have h:oc (storeN cx m k_name (.str [c0]) σ) X.bad (fun p=>oc (digS t p.1 p.2) .bad fun σ'=>atX (tx p.1 ((ev (KZ Z) (n+3)).e cx p.1 (cn (ltI d 4) inA inB) σ') fun v σ=>nxtP (storeN cx p.1 k_inner v σ)) fun m σ=>execs (ev (KZ Z) (n+5)) cx (loopB.drop 1) m σ)=.nxt m' σ':=h
 revert h
 induction h1:storeN cx m k_name (.str [c0]) σ using Option.casesOn with
 | none=>exact nofun
 | some p=>
  show oc (digS t p.1 p.2) X.bad _=_->_
  induction h2:digS t p.1 p.2 using Option.casesOn with
  | none=>exact nofun
  | some σ1=>
   intro h
   refine q_forGo (v:=.str [c0]) (r:=p) (by show some (oc (nth ([97,98,99]:List Nat) i) none fun c=>some (V.str [c]))=_;rw[hn];rfl) h1 ?_ rfl
   have e:loopB=.asg (.nm 117 ⟨866,8,866,13⟩) (.ife (.cmp (.call (.name k__law_lift ⟨866,49,866,58⟩) [.name k_mine ⟨866,59,866,63⟩,.cint 5 0 ⟨866,65,866,66⟩] ⟨866,49,866,67⟩) .Lt (.cint 4 0 ⟨866,70,866,71⟩) ⟨866,49,866,71⟩) inA inB ⟨866,16,866,79⟩) ⟨866,8,866,79⟩::loopB.drop 1:=rfl
   rw[e]
   have ee:(ev (KZ Z) (n+4)).e cx p.1 (.ife (.cmp (.call (.name k__law_lift ⟨866,49,866,58⟩) [.name k_mine ⟨866,59,866,63⟩,.cint 5 0 ⟨866,65,866,66⟩] ⟨866,49,866,67⟩) .Lt (.cint 4 0 ⟨866,70,866,71⟩) ⟨866,49,866,71⟩) inA inB ⟨866,16,866,79⟩) p.2=(ev (KZ Z) (n+3)).e cx p.1 (cn (ltI d 4) inA inB) σ1:=
    bdq (dig_t hz hd h2 _ _ _ _ _ _ _ _ _) (by cases ltI d 4<;>rfl)
   exact(congrArg (fun z=>atX (tx p.1 z fun v J=>nxtP (storeN cx p.1 k_inner v J)) (execs (ev (KZ Z) (n+5)) cx (loopB.drop 1))) ee).trans h
theorem thn_at {x:X} {g:M->Store->X} {y:X} (h:thn x g=y) (hy:y≠.bad):∃ m σ,x=.nxt m σ/\g m σ=y:=by
 induction x using Mine.X.casesOn with
 | nxt m σ=>exact⟨_,_,rfl,h⟩
 | _=>exact absurd h.symm hy
theorem oc_at {α β:Type} {o:Option α} {b y:β} {f:α->β} (h:oc o b f=y) (hy:y≠b):∃ a,o=some a/\f a=y:=by
 induction o using Option.casesOn with
 | none=>exact absurd h.symm hy
 | some a=>exact⟨a,rfl,h⟩
theorem isT_at {x:X} (h:isT x=true):∃ m σ,x=.ret (.bool true) m σ:=by
 induction x using Mine.X.casesOn with
 | ret v m σ=>
  induction v using Mine.V.casesOn with
  | bool b=>exact⟨m,σ,by rw[show b=true from h]⟩
  | _=>cases h
 | _=>cases h
theorem nxtP_at {o:Option (M×Store)} {m:M} {σ:Store} (h:nxtP o=.nxt m σ):o=some (m,σ):=by
 induction o using Option.casesOn with
 | none=>cases h
 | some p=>cases h;rfl
theorem one_e {E:Ev} {c:Cx} {t:S} {p:M×Store} (h:E.s c m t σ=.nxt p.1 p.2):execs E c [t] m σ=.nxt p.1 p.2:=q_seq h rfl
end
end L1
end

section
open PySem PySem.W PySem.Calls PyProof.Rows

section
variable {W:Wd} {A:Around} {ρ:Nat->Addr} {σ σ' τ:Store} {s:Shared} {h:Heap} {c:Cx} {m m':M} {env:Env} {t:Sem Flow} {lv:Nat} {x:X}
theorem Stt.conc (H:Stt W c m env A ρ σ h):Stt W c m env A ρ (σ.conc W.θ W.ϑ) h:=⟨H.cst.conc,H.er,H.loc.conc,H.top⟩
theorem EnvR.vb {n:Nat} (e:EnvR W ρ n c m env h) {x:Nat} {v:V} (hx:lk m x=some v):VB n v:=by
 rcases e.ns with ⟨mm,_,q⟩
 obtain⟨pv,_,r⟩:=q x v hx
 exact r.vb
theorem WX.back (H:Stt W c m env A ρ σ s.heap) (hx:WX W A c env t (.nxt m' τ) ρ (σ.conc W.θ W.ϑ) s) (T:Told W σ.n lv σ' τ) (hm:∀ x v,lk m' x=some v->VB σ.n v):WX W A c env t (.nxt m' σ') ρ σ s:=by
 refine fun Q Ex k=>hx Q Ex fun ρ' h' tk y=>k (rhoAt ρ' σ.n (ρ' lv)) h' tk ?_
 rcases y with ⟨st,er⟩
 rcases er.ns with ⟨mm,N,q⟩
 refine⟨Stp.back H.rep st T,er.kind,er.kd,er.glob,er.bi,fun y a e=>?_,er.code,⟨mm,N,fun y v e=>?_⟩⟩
 ·have b:=(H.er.cs y a e).1
  exact⟨Nat.lt_of_lt_of_le b T.hn',by rw[rhoAt_lt b];exact(er.cs y a e).2⟩
 ·obtain⟨pv,a,r⟩:=q y v e
  exact⟨pv,a,r.back (hm y v e) (fun l hl=>rhoAt_lt hl) T.hn'⟩
theorem omNo_ok:OmOk W noOm:=by
 intro a g d ha
 cases ha
theorem WX.one {l2:List S} {t:S} {m1:M} {σ1:Store} {m:M} (H:Stt W c m env A ρ σ s.heap) (h1:WX W A c env (PySem.exec (t.dec W.nm) env) (.nxt m1 σ1) ρ σ s)
  (h2:∀ ρ' h' tk,Stt W c m1 env A ρ' σ1 h'->WX W A c env (PySem.execs (S.decL W.nm l2) env) x ρ' σ1 (Shared.at_ s h' tk)) :
  WX W A c env (PySem.execs (S.decL W.nm (t::l2)) env) x ρ σ s:=by
 intro Q Ex k
 refine wpAny_bind (h1 _ _ fun ah h' tk y=>?_)
 exact h2 ah h' tk (by rcases y with ⟨st,er⟩;exact H.stepL st er) Q Ex (XP.mono H.rep (by rcases y with ⟨st,er⟩;exact st) k)
theorem WX.app {E:Ev} (I:SEv W E) {l2:List S} {m1:M} {σ1:Store} (l1:List S):∀ {m:M} {ρ:Nat->Addr} {σ:Store} {s:Shared},Stt W c m env A ρ σ s.heap->execs E c l1 m σ=.nxt m1 σ1 ->
  (∀ ρ' h' tk,Stt W c m1 env A ρ' σ1 h'->WX W A c env (PySem.execs (S.decL W.nm l2) env) x ρ' σ1 (Shared.at_ s h' tk)) ->
  WX W A c env (PySem.execs (S.decL W.nm (l1++l2)) env) x ρ σ s:=by
 induction l1 using List.rec with
 | nil=>
  intro m ρ σ s H h1 h2
  cases h1
  exact h2 ρ s.heap s.toks H
 | cons t r ih=>
  intro m ρ σ s H h1 h2
  have h1':atX (E.s c m t σ) (execs E c r)=.nxt m1 σ1:=h1
  have hs:=I.s t H
  revert h1' hs
  induction E.s c m t σ using Mine.X.casesOn with
  | nxt m' σ'=>exact fun h1' hs=>WX.one H hs fun ρ' h' tk H'=>ih (s:=Shared.at_ s h' tk) H' h1' h2
  | _=>exact fun h1' _=>by cases h1'
end
end

section
open PySem PySem.W PySem.Calls PyProof.Rows
namespace L1
noncomputable abbrev uvw:List (List Nat):=[[117],[118],[119]]
noncomputable def badO (o:List Nat->Option V) (s:List Nat):Bool:=oc (o s) false isNone
section
variable {n:Nat} {J:Store} {m:M}
theorem q_inD {l:Nat} {es:List (List Nat×V)} {s:List Nat} (h:J.get l=some (.dict es)):isIn P J (.str s) (.ref l)=.ok (oc (lkS es s) false fun _=>true) J:=ocq h rfl
theorem let_run {dd:Nat} {es:List (List Nat×V)} {o:List Nat->Option V} (B:BdS J) (h4:J.get 4=some (.cell (.ref dd))) (hd:J.get dd=some (.dict es)) (ho:∀ s∈uvw,lkS es s=o s/\∀ v,o s=some v->∀ w,v≠.top w) :
  ∃ τ,(E (n+20)).s cx m (st 18) J=.nxt (putL m k_is_let (.bool ((uvw.filter (badO o)).map V.str).isEmpty)) τ/\Ext J τ:=by
 let c':Cx:=⟨60,false,ownKd cx [(k_dot0,.local),(k_name,.local),(k_dues,.free)],[(k_dues,4)]⟩
 have tst:∀ (m:M) (s:List Nat),s∈uvw->lk m k_name=some (.str s)->∀ q1 q2 q3 q4 q5 q6 q7 q8 q9,(E (n+17)).t c' m (.and_ [.cmp (.name k_name q1) .In (.name k_dues q2) q3,.cmp (.sub (.name k_dues q4) (.name k_name q5) q6) .Is (.cnone 0 q7) q8] q9) J=.ok (badO o s) J:=by
  intro m s hs hm q1 q2 q3 q4 q5 q6 q7 q8 q9
  obtain⟨ho1,ho2⟩:=ho s hs
  have a1:(E (n+16)).t c' m (.cmp (.name k_name q1) .In (.name k_dues q2) q3) J=.ok (oc (lkS es s) false fun _=>true) J:=q_tCmp (q_loc rfl hm) (q_cell rfl rfl h4) (q_inD hd)
  rw[ho1] at a1
  unfold badO
  induction hq:o s using Option.casesOn with
  | none=>rw[hq] at a1;exact q_tAnd (q_tAndF a1)
  | some v=>
   rw[hq] at a1
   rw[hq] at ho1
   have a2:(E (n+16)).t c' m (.cmp (.sub (.name k_dues q4) (.name k_name q5) q6) .Is (.cnone 0 q7) q8) J=.ok (isNone v) J:=by
    refine q_tCmp (q_sub (q_cell rfl rfl h4) (q_loc rfl hm) (q_subD hd ho1)) q_none ?_
    have:=ho2 v hq
    induction v using Mine.V.casesOn with
    | top w=>exact absurd rfl (this w)
    | _=>rfl
   show _=Mine.R.ok (isNone v) J
   induction hn:isNone v using Bool.casesOn with
   | true=>rw[hn] at a2;exact q_tAnd (q_tAndT a1 (q_tAndT a2 q_tB_nil))
   | false=>rw[hn] at a2;exact q_tAnd (q_tAndT a1 (q_tAndF a2))
 have co:∀ q1 q2 q3 q4 q5 q6 q7 q8 q9 q10 q11,∀ (r:List Nat) (i f:Nat) (m:M) (vs:List V),[117,118,119].drop i=r->r.length<f->(∀ x∈r,[x]∈uvw)->vs.length+r.length<=100 ->
   compL (E (n+17)) c' (.name k_name q10) (.nm k_name q11) [.and_ [.cmp (.name k_name q1) .In (.name k_dues q2) q3,.cmp (.sub (.name k_dues q4) (.name k_name q5) q6) .Is (.cnone 0 q7) q8] q9] false (.str [117,118,119]) f i m vs J=.ok (vs++((r.map fun x=>[x]).filter (badO o)).map .str) J:=by
  intro q1 q2 q3 q4 q5 q6 q7 q8 q9 q10 q11 r
  induction r with
  | nil=>
   intro i f m vs hd hf hr hv
   induction f using Nat.casesOn with
   | zero=>cases hf
   | succ f=>
    rw[q_compEnd (by show some (oc (nth ([117,118,119]:List Nat) i) none fun c=>some (V.str [c]))=_;rw[nth_eq,drop_nil hd];rfl)]
    simp
  | cons y r ih=>
   intro i f m vs hd hf hr hv
   induction f using Nat.casesOn with
   | zero=>cases hf
   | succ f=>
    obtain⟨d1,d2⟩:=drop_cons hd
    have nx:nextI J (.str [117,118,119]) i=some (some (.str [y])):=by show some (oc (nth ([117,118,119]:List Nat) i) none fun c=>some (V.str [c]))=_;rw[nth_eq,d1];rfl
    have ml:lk (putL m k_name (.str [y])) k_name=some (.str [y]):=by rw[lk_pif,if_pos rfl]
    have t1:=tst (putL m k_name (.str [y])) [y] (hr y (.head _)) ml q1 q2 q3 q4 q5 q6 q7 q8 q9
    have sg:storeG c' m (.nm k_name q11) (.str [y]) J=some (putL m k_name (.str [y]),J):=(show storeN c' m k_name (.str [y]) J=_ from storeN_local rfl)
    rw[List.map_cons,List.filter_cons]
    induction hq:badO o [y] using Bool.casesOn with
    | true=>
     rw[hq] at t1
     rw[q_compT nx sg (q_tAndT t1 q_tB_nil) (q_loc rfl ml) (lenLe_of (by omega)) rfl,ih (i+1) f _ _ d2 (by simp at hf;exact hf) (fun x hx=>hr x (.tail _ hx)) (by rw[List.length_append];simp at hv ⊢;omega)]
     simp
    | false=>
     rw[hq] at t1
     rw[q_compF nx sg (q_tAndF t1) rfl,ih (i+1) f _ _ d2 (by simp at hf;exact hf) (fun x hx=>hr x (.tail _ hx)) (by simp at hv;omega)]
     simp
 have co':=fun q1 q2 q3 q4 q5 q6 q7 q8 q9 q10 q11=>co q1 q2 q3 q4 q5 q6 q7 q8 q9 q10 q11 [117,118,119] 0 (n+17) [] [] rfl (by show 3<_;omega) (by decide) (by decide)
 have hr:([117,118,119].map fun x=>[x]).filter (badO o)=uvw.filter (badO o):=rfl
 simp only[hr,List.nil_append] at co'
 exact⟨_,q_asg (q_cmp (q_comp (cs:=[(k_dues,4)]) rfl rfl q_str rfl (co' _ _ _ _ _ _ _ _ _ _ _)) (q_list q_evs_nil rfl) (q_eqNil (ws:=[]) (get_old (get_new _ _) (Nat.lt_succ_self _)) (get_new _ _))) rfl,(Ext.add _ _).add' _⟩
end
section
variable {W:Wd} {A:Around} {ρ:Nat->Addr} {J:Store} {s:Shared} {m:M} {env:Env}
theorem let_step (S:Stt W cx m env A ρ J s.heap) (I:SEv W (E 200)) {dd:Nat} {es:List (List Nat×V)} {o:List Nat->Option V} (h4:J.get 4=some (.cell (.ref dd))) (hd:J.get dd=some (.dict es)) (ho:∀ s∈uvw,lkS es s=o s/\∀ v,o s=some v->∀ w,v≠.top w) {b:Bool} (hb:((uvw.filter (badO o)).map V.str).isEmpty=b) :
  WX W A cx env (PySem.exec ((st 18).dec W.nm) env) (.nxt (putL m k_is_let (.bool b)) J) ρ J s:=by
 obtain⟨τ,run,e⟩:=let_run (n:=180) (m:=m) (o:=o) S.rep.bds (conc_at h4) (conc_at hd) ho
 rw[hb] at run
 have w:=I.s (s:=s) (st 18) S.conc
 rw[run] at w
 refine WX.back (lv:=0) S w (Told.same S.rep e) fun x v hx=>?_
 rw[lk_pif] at hx
 split at hx
 ·cases hx;trivial
 ·exact S.er.vb hx
end
end L1
end

section
open PySem PySem.W PySem.Calls PyProof.Rows
namespace L1
theorem duOf_at {m:M} {J:Store} {s:List Nat} {r:Option V} (h:duOf (.nxt m J) s=some r):∃ d es,J.get 4=some (.cell (.ref d))/\J.get d=some (.dict es)/\lkS es s=r:=by
 obtain⟨o,h1,h⟩:=oc_at (show oc (J.get 4) none _=some r from h) nofun
 induction o using Mine.O.casesOn with
 | cell v=>
  induction v using Mine.V.casesOn with
  | ref d=>
   obtain⟨es,h2,h⟩:=oc_at (show oc (rdD J d) none _=some r from h) nofun
   exact⟨d,es,h1,rdD_at h2,Option.some.inj h⟩
  | _=>cases h
 | _=>cases h
section
variable {Z:LZ} {dg:Nat->Int->Option Int} {m m':M} {σ σ':Store} {t n:Nat} {sd d:Int}
theorem st6_e:st 6=.for_ (.nm 13 ⟨865,8,865,12⟩) (.cstr 20 0 ⟨865,16,865,21⟩) loopB ⟨865,4,869,64⟩:=rfl
theorem R0_e {a b c:Bool} {d0 d1 d2:Int} (h0:dg 0 5=some d0) (h1:dg 1 5=some d1) (h2:dg 2 5=some d2) (ha:ltI d0 4=a) (hb:ltI d1 4=b) (hc:ltI d2 4=c) (h:R0 dg a b c=.nxt m' σ') :
  execs (ev (KZ (Z0 dg a b c)) 200) cx ((b_law.drop 1).take 5++[st 6]) m00 s00=.nxt m' σ':=by
 subst ha hb hc
 unfold R0 at h
 obtain⟨m1,σ1,e1,h⟩:=thn_at h nofun
 obtain⟨m2,σ2,e2,h⟩:=thn_at h nofun
 obtain⟨m3,σ3,e3,h⟩:=thn_at h nofun
 rw[EE_eq] at e1
 rw[execs_app,e1]
 refine one_e (p:=(m',σ')) ?_
 rw[st6_e]
 generalize hz:Z0 dg (ltI d0 4) (ltI d1 4) (ltI d2 4)=Z at *
 have zd:Z.d=⟨1,7,dgB none none none dg⟩:=by rw[<-hz];rfl
 show forL (ev (KZ Z) 199) cx (.nm 13 ⟨865,8,865,12⟩) loopB (.str [97,98,99]) 199 0 m1 σ1=_
 rw[it_eq (t:=0) (n:=194) zd h0 rfl rfl e2 rfl,it_eq (t:=1) (n:=194) zd h1 rfl rfl e3 rfl,it_eq (t:=2) (n:=194) zd h2 rfl rfl h rfl]
 rfl
end
noncomputable def dueO (su sv:Bool) (u w v:AN) (s:List Nat):Option V:=cn (eqS s [117]) (cn su (some (ansV u)) none) (cn (eqS s [118]) (cn sv (some (ansV v)) none) (some (ansV w)))
theorem ansV_top (x:AN) (w:Value):ansV x≠.top w:=by
 intro h
 cases x<;>cases h
theorem dueO_no {su sv:Bool} {u w v:AN} {s:List Nat} {x:V} (h:dueO su sv u w v s=some x) (y:Value):x≠.top y:=by
 unfold dueO at h
 revert h
 refine cn_el (P:=fun z=>z=some x->_) (fun _=>cn_el (P:=fun z=>z=some x->_) (fun _ h=>Option.some.inj h▸ansV_top _ _) fun _ h=>by cases h) fun _=>cn_el (P:=fun z=>z=some x->_) (fun _=>cn_el (P:=fun z=>z=some x->_) (fun _ h=>Option.some.inj h▸ansV_top _ _) fun _ h=>by cases h) fun _ h=>Option.some.inj h▸ansV_top _ _
theorem let_b (su sv:Bool) (u w v:AN):((uvw.filter (badO (dueO su sv u w v))).map V.str).isEmpty=letB su sv u w v:=by
 cases su<;>cases sv<;>cases u<;>cases w<;>cases v<;>rfl
section
variable {W:Wd} {A:Around} {ρ:Nat->Addr} {s:Shared} {env:Env} {dg:Nat->Int->Option Int}
theorem law_tail {a b c su sv od:Bool} {x2 x3 x4:AN} {d0 d1 d2:Int}
  (I0:∀ n,SEv W (ev (KZ (Z0 dg a b c)) n)) (IB:∀ n,SEv W (ev (KZ (ZL dg a b c (some su) none none (some x2) none none)) n)) (IC:∀ n,SEv W (ev (KZ (ZL dg a b c (some su) (some sv) none (some x2) none none)) n)) (I1:∀ n,SEv W (ev (KZ (Z1 dg a b c su sv od x2 x3 x4)) n)) (IN:∀ n,SEv W (E n))
  (h0:dg 0 5=some d0) (h1:dg 1 5=some d1) (h2:dg 2 5=some d2) (ha:ltI d0 4=a) (hb:ltI d1 4=b) (hc:ltI d2 4=c)
  (hgo:GoOk dg a b c su sv od x2 x3 x4) (S0:Stt W cx m00 env A ρ s00 s.heap) :
  ∃ m' σ',WX W A cx env (PySem.execs (S.decL W.nm (b_law.drop 1)) env) (.ret (.bool true) m' σ') ρ s00 s:=by
 have g1:=Prod.mk.inj hgo
 have g2:=Prod.mk.inj g1.2
 have g3:=Prod.mk.inj g2.2
 obtain⟨mf,σf,e2⟩:=isT_at g1.1
 refine⟨mf,σf,?_⟩
 unfold R2 at e2
 obtain⟨m1,σ1,e1,e2⟩:=thn_at e2 nofun
 obtain⟨m7,σ7,e7,e2⟩:=thn_at e2 nofun
 have e7:some (putL m1 k_is_let (.bool (letB su sv x2 (aw od x3 x4) (av od x3 x4))),σ1)=some (m7,σ7):=nxtP_at e7
 cases e7
 rw[e1] at g2 g3
 obtain⟨dd,es,q1,q2,lu⟩:=duOf_at g2.1
 obtain⟨dd',es',q3,q4,lv⟩:=duOf_at g3.1
 rw[q1] at q3
 cases q3
 rw[q2] at q4
 cases q4
 obtain⟨dd',es',q3,q4,lw⟩:=duOf_at g3.2
 rw[q1] at q3
 cases q3
 rw[q2] at q4
 cases q4
 unfold R1 at e1
 obtain⟨mc,σc,ec,e1⟩:=thn_at e1 nofun
 unfold RC at ec
 obtain⟨mb,σb,eb,ec⟩:=thn_at ec nofun
 unfold RB at eb
 obtain⟨ma,σa,ea,eb⟩:=thn_at eb nofun
 unfold RA at ea
 obtain⟨m0,σ0,e0,ea⟩:=thn_at ea nofun
 rw[EE_eq] at e1 e2 ea eb ec
 have spl:b_law.drop 1=((b_law.drop 1).take 5++[st 6])++((b_law.drop 7).take 4++((b_law.drop 11).take 3++((b_law.drop 14).take 2++((b_law.drop 16).take 2++(st 18::b_law.drop 19))))):=rfl
 rw[spl]
 refine WX.app (I0 200) _ S0 (R0_e h0 h1 h2 ha hb hc e0) fun ρ1 hp1 tk1 S1=>?_
 refine WX.app (s:=Shared.at_ s hp1 tk1) (I0 200) _ S1 ea fun ρ2 hp2 tk2 S2=>?_
 refine WX.app (s:=Shared.at_ s hp2 tk2) (IB 200) _ S2 eb fun ρ3 hp3 tk3 S3=>?_
 refine WX.app (s:=Shared.at_ s hp3 tk3) (IC 200) _ S3 ec fun ρ4 hp4 tk4 S4=>?_
 refine WX.app (s:=Shared.at_ s hp4 tk4) (I1 200) _ S4 e1 fun ρ5 hp5 tk5 S5=>?_
 refine WX.one (s:=Shared.at_ s hp5 tk5) S5 (let_step (s:=Shared.at_ s hp5 tk5) (o:=dueO su sv x2 (aw od x3 x4) (av od x3 x4)) S5 (IN 200) q1 q2 (fun z hz=>⟨?_,fun v hv w=>dueO_no hv w⟩) (let_b _ _ _ _ _)) fun ρ6 hp6 tk6 S6=>?_
 ·rcases List.mem_cons.mp hz with hz|hz
  ·rw[hz];exact lu
  rcases List.mem_cons.mp hz with hz|hz
  ·rw[hz];exact lv
  ·rw[List.mem_singleton.mp hz];exact lw
 have w:=sound_execs (s:=Shared.at_ s hp6 tk6) (I1 200) (b_law.drop 19) S6
 rw[e2] at w
 exact w
end
end L1
end

section
open PySem
namespace L1
section
noncomputable abbrev pkf (a b c:Bool):List Nat->Nat × Int:=pkF (pkT a b c)
noncomputable def nmO (a b c:Bool) (y:Nat × Int):List Nat:=if y = pkf a b c [97] then [97] else if y = pkf a b c [98] then [98] else [99]
theorem pk_num (a b c:Bool):∀ s ∈ abc,∀ t ∈ abc,(pkf a b c s).2 = (pkf a b c t).2->s = t:=by
 cases a <;> cases b <;> cases c <;> decide
theorem pk_nm (a b c:Bool):∀ s ∈ abc,nmO a b c (pkf a b c s) = s:=by
 cases a <;> cases b <;> cases c <;> decide
theorem pk_mem (a b c:Bool):∀ s ∈ abc,(s,pkf a b c s) ∈ pkT a b c:=by
 cases a <;> cases b <;> cases c <;> decide
theorem pk_of (a b c:Bool):∀ e ∈ pkT a b c,e.1 ∈ abc/\e.2 = pkf a b c e.1:=by
 cases a <;> cases b <;> cases c <;> decide
theorem memS_iff (W:List (List Nat)) (s:List Nat):memS W s = true↔s∈W:=memG_iff eqS_iff W s
structure Inv (a b c:Bool) (x:US):Prop where
 w0:x.w0 = x.u0.map (nmO a b c)
 w1:x.w1 = x.u1.map (nmO a b c)
 k0:∀ y ∈ x.u0,∃ s ∈ abc,y = pkf a b c s
 k1:∀ y ∈ x.u1,∃ s ∈ abc,y = pkf a b c s
 n0:x.u0.Nodup
 n1:x.u1.Nodup
theorem add_inv {a b c:Bool} {u:List (Nat × Int)} {w:List (List Nat)} {s:List Nat} (hs:s ∈ abc) (hw:w = u.map (nmO a b c)) (hk:∀ y ∈ u,∃ s ∈ abc,y = pkf a b c s) (hn:u.Nodup) :
  addS w s = (addE u (pkf a b c s)).map (nmO a b c)/\(∀ y ∈ addE u (pkf a b c s),∃ s ∈ abc,y = pkf a b c s)/\(addE u (pkf a b c s)).Nodup:=by
 have key:memS w s = true↔∃ z ∈ u,eqI z.2 (pkf a b c s).2 = true:=by
  rw[memS_iff,hw,List.mem_map]
  constructor
  ·rintro ⟨z,hz,e⟩
   obtain⟨t,ht,rfl⟩:=hk z hz
   rw[pk_nm a b c t ht] at e
   exact⟨_,hz,by rw[e]; exact (eqI_iff _ _).mpr rfl⟩
  ·rintro ⟨z,hz,e⟩
   obtain⟨t,ht,rfl⟩:=hk z hz
   have:=pk_num a b c t ht s hs ((eqI_iff _ _).mp e)
   exact⟨_,hz,by rw[pk_nm a b c t ht,this]⟩
 unfold addS addE
 cases hm:memS w s with
 | true=>
  obtain⟨z,hz,e⟩:=key.mp hm
  have:z ∈ u.filter fun z=>eqI z.2 (pkf a b c s).2:=List.mem_filter.mpr ⟨hz,e⟩
  cases hf:u.filter fun z=>eqI z.2 (pkf a b c s).2 with
  | nil=>rw[hf] at this; cases this
  | cons p r=>exact⟨hw,hk,hn⟩
 | false=>
  cases hf:u.filter fun z=>eqI z.2 (pkf a b c s).2 with
  | nil=>
   refine⟨?_,fun y hy=>?_,List.nodup_append.mpr ⟨hn,List.pairwise_singleton _ _,fun z hz y hy e=>?_⟩⟩
   ·rw[List.map_append,<-hw]
    show w ++ [s] = w ++ [nmO a b c (pkf a b c s)]
    rw[pk_nm a b c s hs]
   ·rcases List.mem_append.mp hy with hy | hy
    ·exact hk y hy
    ·exact⟨s,hs,List.mem_singleton.mp hy⟩
   ·rw[e,List.mem_singleton.mp hy] at hz
    have:pkf a b c s∈u.filter fun z=>eqI z.2 (pkf a b c s).2:=List.mem_filter.mpr ⟨hz,(eqI_iff _ _).mpr rfl⟩
    rw[hf] at this;cases this
  | cons p r=>
   have:p ∈ u.filter fun z=>eqI z.2 (pkf a b c s).2:=by rw[hf]; exact .head _
   obtain⟨h1,h2⟩:=List.mem_filter.mp this
   rw[key.mpr ⟨p,h1,h2⟩] at hm; cases hm
theorem letr_abc (w:Int):letr w ∈ abc:=by
 unfold letr
 split
 ·exact .head _
 ·split
  ·exact .tail _ (.head _)
  ·exact .tail _ (.tail _ (.head _))
theorem Inv.one {a b c:Bool} {x:US} (h:Inv a b c x) (pl:Int) {s:List Nat} (hs:s ∈ abc):Inv a b c (useOne (pkf a b c) x pl s):=by
 unfold useOne
 split
 ·obtain⟨q1,q2,q3⟩:=add_inv hs h.w0 h.k0 h.n0
  exact⟨q1,h.w1,q2,h.k1,q3,h.n1⟩
 ·obtain⟨q1,q2,q3⟩:=add_inv hs h.w1 h.k1 h.n1
  exact⟨h.w0,q1,h.k0,q2,h.n0,q3⟩
theorem Inv.n {a b c:Bool} (ns:List Int):∀ (t i:Nat) {x:US},Inv a b c x->Inv a b c (usesN (pkf a b c) ns t i x)
 | 0,i,x,h=>h
 | t + 1,i,x,h=>Inv.n ns t (i + 2) (h.one _ (letr_abc _))
theorem Inv.all {a b c:Bool} (ns:List Int) (i:Nat) {x:US} (h:Inv a b c x):Inv a b c (usesAll (pkf a b c) ns i x):=Inv.n ns _ _ h
structure Sub (x y:US):Prop where
 w0:∀ s ∈ x.w0,s ∈ y.w0
 w1:∀ s ∈ x.w1,s ∈ y.w1
theorem addS_sub {W:List (List Nat)} {s t:List Nat} (h:t ∈ W):t ∈ addS W s:=by
 unfold addS
 split
 ·exact h
 ·exact List.mem_append.mpr (.inl h)
theorem Sub.one {pk:List Nat->Nat × Int} (x:US) (pl:Int) (s:List Nat):Sub x (useOne pk x pl s):=by
 unfold useOne
 split
 ·exact⟨fun _ h=>addS_sub h,fun _ h=>h⟩
 ·exact⟨fun _ h=>h,fun _ h=>addS_sub h⟩
theorem Sub.trans {x y z:US} (h:Sub x y) (k:Sub y z):Sub x z:=⟨fun s q=>k.w0 s (h.w0 s q),fun s q=>k.w1 s (h.w1 s q)⟩
theorem Sub.n {pk:List Nat->Nat × Int} (ns:List Int):∀ (t i:Nat) (x:US),Sub x (usesN pk ns t i x)
 | 0,i,x=>⟨fun _ h=>h,fun _ h=>h⟩
 | t + 1,i,x=>(Sub.one x _ _).trans (Sub.n ns t (i + 2) _)
theorem Sub.all {pk:List Nat->Nat × Int} (ns:List Int) (i:Nat) (x:US):Sub x (usesAll pk ns i x):=Sub.n ns _ _ _
structure Le (x:US) (z:Nat):Prop where
 u0:x.u0.length <= z
 u1:x.u1.length <= z
 w0:x.w0.length <= z
 w1:x.w1.length <= z
theorem Le.mono {x:US} {z z':Nat} (h:Le x z) (l:z <= z'):Le x z':=⟨Nat.le_trans h.u0 l,Nat.le_trans h.u1 l,Nat.le_trans h.w0 l,Nat.le_trans h.w1 l⟩
theorem Le.one {pk:List Nat->Nat × Int} {x:US} {z:Nat} (h:Le x z) (pl:Int) (s:List Nat):Le (useOne pk x pl s) (z + 1):=by
 obtain⟨h1,h2,h3,h4⟩:=h
 have e:=fun u y=>addE_len u y
 have f:=fun W s=>addS_len W s
 unfold useOne
 split
 ·refine⟨?_,?_,?_,?_⟩ <;> dsimp only <;> first | omega | (have:=e x.u0 (pk s); omega) | (have:=f x.w0 s; omega)
 ·refine⟨?_,?_,?_,?_⟩ <;> dsimp only <;> first | omega | (have:=e x.u1 (pk s); omega) | (have:=f x.w1 s; omega)
theorem Le.n {pk:List Nat->Nat × Int} (ns:List Int):∀ (t i:Nat) {x:US} {z:Nat},Le x z->Le (usesN pk ns t i x) (z + t)
 | 0,i,x,z,h=>h
 | t + 1,i,x,z,h=>by
  have:=Le.n (pk:=pk) ns t (i + 2) (h.one (pk:=pk) (digV ns i 2) (letr (digV ns (i+1) 3)))
  exact this.mono (by omega)
theorem dig3 (ns:List Int) (i:Nat):(digV ns i 3).toNat <= 2:=by
 have:=digV_rng ns i (sd:=3) (by decide)
 omega
theorem Le.all {pk:List Nat->Nat × Int} (ns:List Int) (i:Nat) {x:US} {z:Nat} (h:Le x z):Le (usesAll pk ns i x) (z + 2):=(Le.n ns _ _ h).mono (by have:=dig3 ns i; omega)
theorem usesAt_le (ns:List Int) (i:Nat):usesAt ns i <= i + 5:=by
 unfold usesAt
 have:=dig3 ns i
 omega
end
end L1
end

section
open PySem PySem.W PySem.Calls PyProof.Rows
namespace L1
section
noncomputable def io5 (ns:List Int):Nat:=usesAt ns (usesAt ns 3)
noncomputable def iot (ns:List Int):Nat->Nat
 | 0=>0 | 1=>1 | 2=>2 | 3=>3
 | 4=>usesAt ns 3
 | 5=>io5 ns
 | 6=>io5 ns+1
 | 7=>io5 ns+2
 | 8=>io5 ns+3
 | 9=>usesAt ns (io5 ns+3)
 | 10=>usesAt ns (usesAt ns (io5 ns+3))
 | 11=>usesAt ns (usesAt ns (usesAt ns (io5 ns+3)))
 | _=>0
noncomputable def us0:US:=⟨[],[],[],[]⟩
noncomputable def X2 (a b c:Bool) (ns:List Int):US:=usesAll (pkf a b c) ns (iot ns 4) (usesAll (pkf a b c) ns (iot ns 3) us0)
noncomputable def X3 (a b c:Bool) (ns:List Int):US:=usesAll (pkf a b c) ns (iot ns 8) (X2 a b c ns)
noncomputable def X4 (a b c:Bool) (ns:List Int):US:=usesAll (pkf a b c) ns (iot ns 9) (X3 a b c ns)
noncomputable def XX (a b c:Bool) (ns:List Int):Nat->US
 | 1=>usesAll (pkf a b c) ns (iot ns 3) us0
 | 2=>X2 a b c ns
 | 3=>X3 a b c ns
 | 4=>X4 a b c ns
 | 5=>usesAll (pkf a b c) ns (iot ns 10) (X4 a b c ns)
 | _=>us0
noncomputable def thO (x:US):Nat->List V
 | 0=>refs x.u0
 | 1=>refs x.u1
 | 2=>x.w0.map .str
 | 3=>x.w1.map .str
 | 4=>(x.w0 ++ x.w1).map .str
 | _=>[]
noncomputable def th (a b c:Bool) (ns sc:List Int) (t:Nat):List V:=if t = 7 then ns.map .int else if t = 9 then sc.map .int else thO (XX a b c ns (t / 10)) (t % 10)
noncomputable def vth (ns:List Int) (t:Nat):List (List Nat × V):=[(sy k_at,.int (iot ns t:Int)),(sy k_row,.ref 1)]
noncomputable def UU (a b c:Bool) (ns:List Int) (t:Nat):List (Nat × Int):=match t % 10 with | 0=>(XX a b c ns (t / 10)).u0 | 1=>(XX a b c ns (t / 10)).u1 | _=>[]
noncomputable def dgO (ns:List Int) (t:Nat) (sd:Int):Option Int:=match t with
 | 0=>if sd = 5 then some (digV ns 0 5) else none
 | 1=>if sd = 5 then some (digV ns 1 5) else none
 | 2=>if sd = 5 then some (digV ns 2 5) else none
 | _=>none
noncomputable def fO (a b c:Bool) (ns:List Int) (v:Nat):Option (List Nat):=offA ((XX a b c ns v).w0 ++ (XX a b c ns v).w1) (tdT a b c)
variable {a b c:Bool} {ns sc:List Int}
theorem iot_le (t:Nat):iot ns t <= 31:=by
 have h:=fun i=>usesAt_le ns i
 have h1:=h 3
 have h2:=h (usesAt ns 3)
 have h2:io5 ns<=13:=by unfold io5;omega
 have h3:=h (io5 ns+3)
 have h4:=h (usesAt ns (io5 ns+3))
 have h5:=h (usesAt ns (usesAt ns (io5 ns+3)))
 unfold iot
 split <;> omega
theorem inv0:Inv a b c us0:=⟨rfl,rfl,fun y hy=>(nomatch hy),fun y hy=>(nomatch hy),List.nodup_nil,List.nodup_nil⟩
theorem XX_inv (v:Nat):Inv a b c (XX a b c ns v):=by
 have i2:Inv a b c (X2 a b c ns):=Inv.all _ _ (Inv.all _ _ inv0)
 have i3:Inv a b c (X3 a b c ns):=Inv.all _ _ i2
 have i4:Inv a b c (X4 a b c ns):=Inv.all _ _ i3
 unfold XX
 split
 ·exact Inv.all _ _ inv0
 ·exact i2
 ·exact i3
 ·exact i4
 ·exact Inv.all _ _ i4
 ·exact inv0
theorem le0:Le us0 0:=⟨Nat.le_refl _,Nat.le_refl _,Nat.le_refl _,Nat.le_refl _⟩
theorem XX_le (v:Nat):Le (XX a b c ns v) 10:=by
 have i2:Le (X2 a b c ns) 4:=Le.all _ _ (Le.all _ _ le0)
 have i3:Le (X3 a b c ns) 6:=Le.all _ _ i2
 have i4:Le (X4 a b c ns) 8:=Le.all _ _ i3
 unfold XX
 split
 ·exact (Le.all _ _ le0).mono (by decide)
 ·exact i2.mono (by decide)
 ·exact i3.mono (by decide)
 ·exact i4.mono (by decide)
 ·exact Le.all _ _ i4
 ·exact le0.mono (by decide)
theorem th_tag (v:Nat) (h:v ≠ 0) (k:Nat) (hk:k < 10):th a b c ns sc (10 * v + k) = thO (XX a b c ns v) k:=by
 unfold th
 rw[if_neg (by omega),if_neg (by omega),show (10 * v + k) / 10 = v by omega,show (10 * v + k) % 10 = k by omega]
theorem ud_ok (hl:ns.length <= 50):UDOk (th a b c ns sc) (vth ns) (ud a b c) ns (iot ns) (XX a b c ns):=by
 refine⟨fun t=>rfl,rfl,by omega,fun t vi vo h=>?_,rfl,fun v hv=>?_,fun v=>⟨(XX_inv v).k0,(XX_inv v).k1⟩⟩
 ·have h:usT t = some (vi,vo):=h
  unfold usT at h
  have lx:=fun v=>XX_le (a:=a) (b:=b) (c:=c) (ns:=ns) v
  have li:=iot_le (ns:=ns) t
  cases h1:Nat.beq t 3 with
  | true=>
   rw[h1] at h; cases h
   have:=Nat.eq_of_beq_eq_true h1; subst this
   exact⟨by decide,rfl,rfl,Nat.le_trans li (by decide),Nat.le_trans (lx 0).u0 (by decide),Nat.le_trans (lx 0).u1 (by decide),Nat.le_trans (lx 0).w0 (by decide),Nat.le_trans (lx 0).w1 (by decide)⟩
  | false=>
   rw[h1] at h
   cases h1:Nat.beq t 4 with
   | true=>
    rw[h1] at h; cases h
    have:=Nat.eq_of_beq_eq_true h1; subst this
    exact⟨by decide,rfl,rfl,Nat.le_trans li (by decide),Nat.le_trans (lx 1).u0 (by decide),Nat.le_trans (lx 1).u1 (by decide),Nat.le_trans (lx 1).w0 (by decide),Nat.le_trans (lx 1).w1 (by decide)⟩
   | false=>
    rw[h1] at h
    cases h1:Nat.beq t 8 with
    | true=>
     rw[h1] at h; cases h
     have:=Nat.eq_of_beq_eq_true h1; subst this
     exact⟨by decide,rfl,rfl,Nat.le_trans li (by decide),Nat.le_trans (lx 2).u0 (by decide),Nat.le_trans (lx 2).u1 (by decide),Nat.le_trans (lx 2).w0 (by decide),Nat.le_trans (lx 2).w1 (by decide)⟩
    | false=>
     rw[h1] at h
     cases h1:Nat.beq t 9 with
     | true=>
      rw[h1] at h; cases h
      have:=Nat.eq_of_beq_eq_true h1; subst this
      exact⟨by decide,rfl,rfl,Nat.le_trans li (by decide),Nat.le_trans (lx 3).u0 (by decide),Nat.le_trans (lx 3).u1 (by decide),Nat.le_trans (lx 3).w0 (by decide),Nat.le_trans (lx 3).w1 (by decide)⟩
     | false=>
      rw[h1] at h
      cases h1:Nat.beq t 10 with
      | true=>
       rw[h1] at h; cases h
       have:=Nat.eq_of_beq_eq_true h1; subst this
       exact⟨by decide,rfl,rfl,Nat.le_trans li (by decide),Nat.le_trans (lx 4).u0 (by decide),Nat.le_trans (lx 4).u1 (by decide),Nat.le_trans (lx 4).w0 (by decide),Nat.le_trans (lx 4).w1 (by decide)⟩
      | false=>
       rw[h1] at h
       cases h
 ·exact⟨th_tag v hv 0 (by decide),th_tag v hv 1 (by decide),th_tag v hv 2 (by decide),th_tag v hv 3 (by decide),th_tag v hv 4 (by decide)⟩
theorem dg2 (ns:List Int) (i:Nat):digV ns i 2=cn (eqI (digV ns i 2) 0) 0 1/\digV ns i 2=cn (eqI (digV ns i 2) 1) 1 0:=by
 have:=digV_rng ns i (sd:=2) (by decide)
 generalize digV ns i 2=d at this
 have:d=0\/d=1:=by omega
 rcases this with h|h<;>rw[h]<;>exact⟨rfl,rfl⟩
noncomputable def KnB (o:Option Bool) (x:Bool):Prop:=o=none\/o=some x
theorem d2_at {o:Option Bool} {x y sd d:Int} (h:d2 o x y sd=some d):∃ b,o=some b/\sd=2/\d=cn b x y:=by
 cases o with
 | none=>cases h
 | some b=>
  have h:cn (eqI sd 2) (some (cn b x y)) none=some d:=h
  cases q:eqI sd 2 with
  | true=>rw[q] at h;exact⟨b,rfl,(eqI_iff _ _).mp q,(Option.some.inj h).symm⟩
  | false=>rw[q] at h;cases h
theorem KnB.at {o:Option Bool} {x b:Bool} (k:KnB o x) (h:o=some b):b=x:=by
 rcases k with z|z
 ·rw[z] at h;cases h
 ·rw[z] at h;exact (Option.some.inj h).symm
theorem dd_ok (hl:ns.length <= 50) {su sv od:Option Bool} (k1:KnB su (eqI (digV ns (iot ns 5) 2) 0)) (k2:KnB sv (eqI (digV ns (iot ns 6) 2) 0)) (k3:KnB od (eqI (digV ns (iot ns 7) 2) 1)):DDOk (th a b c ns sc) (vth ns) ⟨1,7,dgB su sv od (dgO ns)⟩ ns (iot ns):=by
 refine⟨fun t=>rfl,rfl,by omega,fun t sd d h=>?_⟩
 have li:=iot_le (ns:=ns) t
 have h:dgB su sv od (dgO ns) t sd=some d:=h
 unfold dgB at h
 cases h5:Nat.beq t 5 with
 | true=>
  rw[h5] at h
  have:=Nat.eq_of_beq_eq_true h5; subst this
  obtain⟨x,q1,q2,q3⟩:=d2_at h
  subst q2 q3
  rw[k1.at q1]
  exact⟨(dg2 _ _).1,rfl,Nat.le_trans li (by decide),by decide,by decide⟩
 | false=>
 rw[h5] at h
 cases h6:Nat.beq t 6 with
 | true=>
  rw[h6] at h
  have:=Nat.eq_of_beq_eq_true h6; subst this
  obtain⟨x,q1,q2,q3⟩:=d2_at h
  subst q2 q3
  rw[k2.at q1]
  exact⟨(dg2 _ _).1,rfl,Nat.le_trans li (by decide),by decide,by decide⟩
 | false=>
 rw[h6] at h
 cases h7:Nat.beq t 7 with
 | true=>
  rw[h7] at h
  have:=Nat.eq_of_beq_eq_true h7; subst this
  obtain⟨x,q1,q2,q3⟩:=d2_at h
  subst q2 q3
  rw[k3.at q1]
  exact⟨(dg2 _ _).2,rfl,Nat.le_trans li (by decide),by decide,by decide⟩
 | false=>
 rw[h7] at h
 have h:dgO ns t sd=some d:=h
 unfold dgO at h
 split at h <;> first | (cases h; done) | skip
 all_goals
  split at h <;> first | (cases h; done) | skip
  rename_i hs
  subst hs
  cases h
  exact⟨rfl,rfl,Nat.le_trans li (by decide),by decide,by decide⟩
theorem UU_ut {t:Nat} (h:utT t = true):th a b c ns sc t = refs (UU a b c ns t):=by
 unfold th UU
 have h':t % 10 <= 1:=by
  unfold utT at h
  cases h1:Nat.beq t 0 with
  | true=>rw[h1] at h; cases h
  | false=>rw[h1] at h;exact Nat.le_of_ble_eq_true h
 rw[if_neg (by omega),if_neg (by omega)]
 have:t % 10 = 0\/t % 10 = 1:=by omega
 rcases this with q | q <;> rw[q] <;> rfl
theorem UU_mem (t:Nat):∀ y ∈ UU a b c ns t,∃ s ∈ abc,y = pkf a b c s:=by
 unfold UU
 split
 ·exact (XX_inv _).k0
 ·exact (XX_inv _).k1
 ·exact fun y hy=>nomatch hy
theorem len_sub {α:Type} [DecidableEq α] {l:List α}:∀ {m:List α},l.Nodup->(∀ y∈l,y∈m)->l.length<=m.length:=by
 induction l with
 | nil=>exact fun _ _=>Nat.zero_le _
 | cons y r ih=>
  intro m nd h
  have nd:=List.nodup_cons.mp nd
  have hy:=h y (.head _)
  have q:=ih (m:=m.erase y) nd.2 fun z hz=>(List.mem_erase_of_ne fun e=>nd.1 (by rw[<-e];exact hz)).mpr (h z (.tail _ hz))
  rw[List.length_erase_of_mem hy] at q
  have:=List.length_pos_of_mem hy
  show r.length+1<=_
  omega
theorem UU_len (t:Nat):(UU a b c ns t).length <= 6:=by
 have m:∀ y,(∃ s ∈ abc,y = pkf a b c s)->y∈[pkf a b c [97],pkf a b c [98],pkf a b c [99]]:=by
  rintro y ⟨s,hs,rfl⟩
  rcases List.mem_cons.mp hs with h|h
  ·rw[h];exact .head _
  rcases List.mem_cons.mp h with h|h
  ·rw[h];exact .tail _ (.head _)
  ·rw[List.mem_singleton.mp h];exact .tail _ (.tail _ (.head _))
 unfold UU
 split
 ·exact Nat.le_trans (len_sub (XX_inv _).n0 fun y hy=>m y ((XX_inv _).k0 y hy)) (show 3<=6 by decide)
 ·exact Nat.le_trans (len_sub (XX_inv _).n1 fun y hy=>m y ((XX_inv _).k1 y hy)) (show 3<=6 by decide)
 ·decide
theorem used_iff (v:Nat) {s:List Nat} (hs:s ∈ abc):s ∈ (XX a b c ns v).w0 ++ (XX a b c ns v).w1↔pkf a b c s ∈ (XX a b c ns v).u0\/pkf a b c s ∈ (XX a b c ns v).u1:=by
 have I:=XX_inv (a:=a) (b:=b) (c:=c) (ns:=ns) v
 have one:∀ {u:List (Nat × Int)},(∀ y ∈ u,∃ s ∈ abc,y = pkf a b c s)->(s ∈ u.map (nmO a b c)↔pkf a b c s ∈ u):=by
  intro u hu
  rw[List.mem_map]
  constructor
  ·rintro ⟨z,hz,e⟩
   obtain⟨t,ht,rfl⟩:=hu z hz
   rw[pk_nm a b c t ht] at e
   rwa [<-e]
  ·exact fun h=>⟨_,h,pk_nm a b c s hs⟩
 rw[List.mem_append,I.w0,I.w1,one I.k0,one I.k1]
theorem mem_off {v:Nat} {s:List Nat}:s ∈ abc.filter (fun s=>memS ((XX a b c ns v).w0 ++ (XX a b c ns v).w1) s && tdT a b c s)↔s ∈ abc/\s ∈ (XX a b c ns v).w0 ++ (XX a b c ns v).w1/\tdT a b c s = true:=by
 rw[List.mem_filter,Bool.and_eq_true,memS_iff]
theorem fO_some {v:Nat} {s:List Nat} (h:fO a b c ns v = some s):(s ∈ abc/\s ∈ (XX a b c ns v).w0 ++ (XX a b c ns v).w1/\tdT a b c s = true)/\∀ t ∈ abc,t ∈ (XX a b c ns v).w0 ++ (XX a b c ns v).w1->tdT a b c t = true->t = s:=by
 unfold fO offA at h
 split at h
 ·rename_i s' q
  cases h
  refine⟨mem_off.mp (by rw[q]; exact .head _),fun t ht hw htd=>?_⟩
  have:=mem_off.mpr ⟨ht,hw,htd⟩
  rw[q] at this
  exact List.mem_singleton.mp this
 ·cases h
theorem fO_none {v:Nat} (h:fO a b c ns v = none):(∀ t ∈ abc,tdT a b c t = true->t ∉ (XX a b c ns v).w0 ++ (XX a b c ns v).w1)\/∃ s ∈ abc,∃ t ∈ abc,s ≠ t/\tdT a b c s = true/\tdT a b c t = true/\s ∈ (XX a b c ns v).w0 ++ (XX a b c ns v).w1/\t ∈ (XX a b c ns v).w0 ++ (XX a b c ns v).w1:=by
 unfold fO offA at h
 have nd:(abc.filter (fun s=>memS ((XX a b c ns v).w0 ++ (XX a b c ns v).w1) s && tdT a b c s)).Nodup:=List.Pairwise.filter _ (by decide:abc.Nodup)
 have key:=fun s=>mem_off (a:=a) (b:=b) (c:=c) (ns:=ns) (v:=v) (s:=s)
 generalize abc.filter (fun s=>memS ((XX a b c ns v).w0 ++ (XX a b c ns v).w1) s && tdT a b c s) = F at h nd key
 match F,h,nd,key with
 | [],_,_,key=>exact .inl fun t ht htd hw=>by cases (key t).mpr ⟨ht,hw,htd⟩
 | s :: t :: r,_,nd,key=>
  refine .inr ⟨s,((key s).mp (.head _)).1,t,((key t).mp (.tail _ (.head _))).1,fun z=>?_,((key s).mp (.head _)).2.2,((key t).mp (.tail _ (.head _))).2.2,((key s).mp (.head _)).2.1,((key t).mp (.tail _ (.head _))).2.1⟩
  rw[z] at nd
  exact absurd (.head _) (List.nodup_cons.mp nd).1
end
end L1
end

section
open PySem PySem.W PySem.Calls PyProof.Rows
namespace L1
variable {a b c:Bool} {ns sc:List Int}
theorem pk_nd1 (a b c:Bool):((pkT a b c).map fun e=>e.2.1).Nodup:=by cases a <;> cases b <;> cases c <;> decide
theorem pk_nd2 (a b c:Bool):((pkT a b c).map fun e=>e.1).Nodup:=by cases a <;> cases b <;> cases c <;> decide
noncomputable def Kno (o:Option AN) (x:AN):Prop:=o = none\/o = some x
noncomputable def vv (v:Nat):Prop:=v=2\/v=3\/v=4
theorem xa_at {x2 x3 x4:Option AN} (h2:Kno x2 (fO a b c ns 2)) (h3:Kno x3 (fO a b c ns 3)) (h4:Kno x4 (fO a b c ns 4)) {ts:List Nat} {r:AN} (h:xaT x2 x3 x4 ts = some r):∃ v,vv v/\ts = [10 * v + 1,10 * v]/\fO a b c ns v = r:=by
 have k:∀ {o:Option AN} {x:AN},Kno o x->o=some r->x=r:=fun k h=>by
  rcases k with z | z
  ·rw[z] at h; cases h
  ·rw[z] at h; exact Option.some.inj h
 unfold xaT at h
 cases q1:eqS ts [21,20] with
 | true=>rw[q1] at h;exact⟨2,.inl rfl,(eqS_iff _ _).mp q1,k h2 h⟩
 | false=>
  rw[q1] at h
  cases q2:eqS ts [31,30] with
  | true=>rw[q2] at h;exact⟨3,.inr (.inl rfl),(eqS_iff _ _).mp q2,k h3 h⟩
  | false=>
   rw[q2] at h
   cases q3:eqS ts [41,40] with
   | true=>rw[q3] at h;exact⟨4,.inr (.inr rfl),(eqS_iff _ _).mp q3,k h4 h⟩
   | false=>rw[q3] at h;cases h
theorem UU_v (v:Nat) (hv:vv v):UU a b c ns (10 * v) = (XX a b c ns v).u0/\UU a b c ns (10 * v + 1) = (XX a b c ns v).u1:=by
 rcases hv with rfl | rfl | rfl <;> exact⟨rfl,rfl⟩
theorem ex_ts {v:Nat} (hv:vv v) (y:Nat × Int):(∃ t ∈ [10 * v + 1,10 * v],y ∈ UU a b c ns t)↔y ∈ (XX a b c ns v).u0\/y ∈ (XX a b c ns v).u1:=by
 obtain⟨e0,e1⟩:=UU_v (a:=a) (b:=b) (c:=c) (ns:=ns) v hv
 constructor
 ·rintro ⟨t,ht,hy⟩
  rcases List.mem_cons.mp ht with rfl | ht
  ·rw[e1] at hy; exact .inr hy
  ·rw[List.mem_singleton.mp ht,e0] at hy; exact .inl hy
 ·rintro (h | h)
  ·exact⟨_,.tail _ (.head _),by rw[e0]; exact h⟩
  ·exact⟨_,.head _,by rw[e1]; exact h⟩
theorem xa_ok {x2 x3 x4:Option AN} (h2:Kno x2 (fO a b c ns 2)) (h3:Kno x3 (fO a b c ns 3)) (h4:Kno x4 (fO a b c ns 4)):XaOk ⟨pkT a b c,tdT a b c,xaT x2 x3 x4,utT⟩ (UU a b c ns):=by
 refine⟨?_,?_,fun ts h=>?_,fun ts s h=>?_⟩
 ·exact pk_nd1 a b c
 ·exact pk_nd2 a b c
 ·obtain⟨v,hv,rfl,hf⟩:=xa_at h2 h3 h4 h
  rcases fO_none hf with q | ⟨s,hs,t,ht,ne,ds,dt,us,ut⟩
  ·refine .inl fun e he td t ht hy=>?_
   obtain⟨ha,he2⟩:=pk_of a b c e he
   have:=(ex_ts hv (e.2.1,e.2.2)).mp ⟨t,ht,hy⟩
   have z:((e.2.1,e.2.2):Nat × Int) = pkf a b c e.1:=he2
   rw[z] at this
   exact q e.1 ha td ((used_iff v ha).mpr this)
  ·refine .inr ⟨_,pk_mem a b c s hs,_,pk_mem a b c t ht,ds,dt,(ex_ts hv _).mpr ((used_iff v hs).mp us),(ex_ts hv _).mpr ((used_iff v ht).mp ut),fun z=>ne ?_⟩
   have:∀ s ∈ abc,∀ t ∈ abc,(pkf a b c s).1 = (pkf a b c t).1->s = t:=by cases a <;> cases b <;> cases c <;> decide
   exact this s hs t ht z
 ·obtain⟨v,hv,rfl,hf⟩:=xa_at h2 h3 h4 h
  obtain⟨⟨hs,hw,htd⟩,q⟩:=fO_some hf
  refine⟨⟨_,pk_mem a b c s hs,rfl,htd,(ex_ts hv _).mpr ((used_iff v hs).mp hw)⟩,fun e he td hy=>?_⟩
  obtain⟨ha,he2⟩:=pk_of a b c e he
  have:=(ex_ts hv (e.2.1,e.2.2)).mp hy
  have z:((e.2.1,e.2.2):Nat × Int) = pkf a b c e.1:=he2
  rw[z] at this
  exact q e.1 ha ((used_iff v ha).mpr this) td
theorem l_ok (hl:ns.length <= 50) {su sv od:Option Bool} {x2 x3 x4:Option AN} (k1:KnB su (eqI (digV ns (iot ns 5) 2) 0)) (k2:KnB sv (eqI (digV ns (iot ns 6) 2) 0)) (k3:KnB od (eqI (digV ns (iot ns 7) 2) 1)) (h2:Kno x2 (fO a b c ns 2)) (h3:Kno x3 (fO a b c ns 3)) (h4:Kno x4 (fO a b c ns 4)) {W:Wd} (hθ:W.θ = th a b c ns sc) (hϑ:W.ϑ = vth ns) :
  LOk W (ZL (dgO ns) a b c su sv od x2 x3 x4) ns (iot ns) (XX a b c ns) (UU a b c ns) (nmO a b c):=by
 have fk:∀ v,v≠0->∀ {o:Option AN} {r:AN},Kno o (fO a b c ns v)->o=some r->∃ W0 W1:List (List Nat),th a b c ns sc (10*v+2)=W0.map .str/\th a b c ns sc (10*v+2+1)=W1.map .str/\(W0++W1).length<=1000/\offA (W0++W1) (tdT a b c)=r:=fun v hv o r k h=>by
  refine⟨(XX a b c ns v).w0,(XX a b c ns v).w1,th_tag v hv 2 (by decide),th_tag v hv 3 (by decide),?_,?_⟩
  ·rw[List.length_append]
   have:=(XX_le (a:=a) (b:=b) (c:=c) (ns:=ns) v).w0
   have:=(XX_le (a:=a) (b:=b) (c:=c) (ns:=ns) v).w1
   omega
  ·rcases k with z | z
   ·rw[z] at h; cases h
   ·rw[z] at h; exact Option.some.inj h
 refine⟨⟨fun t h=>⟨?_,fun y hy=>?_,UU_len t⟩⟩,xa_ok h2 h3 h4,by rw[hθ,hϑ]; exact ud_ok hl,by rw[hθ,hϑ]; exact dd_ok hl k1 k2 k3,fun t r h=>?_,⟨fun v hv=>⟨(XX_inv v).w0,(XX_inv v).w1,Nat.le_trans (XX_le v).u0 (by decide),Nat.le_trans (XX_le v).u1 (by decide)⟩,fun v=>⟨fun y hy=>?_,fun y hy=>?_⟩⟩⟩
 ·rw[hθ]; exact UU_ut h
 ·obtain⟨s,hs,rfl⟩:=UU_mem t y hy
  exact⟨_,pk_mem a b c s hs,rfl⟩
 ·rw[hθ]
  have h:foT x2 x3 x4 t = some r:=h
  unfold foT at h
  cases q1:Nat.beq t 22 with
  | true=>rw[q1] at h;rw[Nat.eq_of_beq_eq_true q1];exact fk 2 (by decide) h2 h
  | false=>
   rw[q1] at h
   cases q2:Nat.beq t 32 with
   | true=>rw[q2] at h;rw[Nat.eq_of_beq_eq_true q2];exact fk 3 (by decide) h3 h
   | false=>
    rw[q2] at h
    cases q3:Nat.beq t 42 with
    | true=>rw[q3] at h;rw[Nat.eq_of_beq_eq_true q3];exact fk 4 (by decide) h4 h
    | false=>rw[q3] at h;cases h
 ·obtain⟨s,hs,rfl⟩:=(XX_inv v).k0 y hy
  exact⟨_,pk_mem a b c s hs,rfl,pk_nm a b c s hs⟩
 ·obtain⟨s,hs,rfl⟩:=(XX_inv v).k1 y hy
  exact⟨_,pk_mem a b c s hs,rfl,pk_nm a b c s hs⟩
theorem td_abc {s:List Nat} (h:tdT a b c s = true):(s = [97]/\a = true)\/(s = [98]/\b = true)\/(s = [99]/\c = true):=by
 unfold tdT at h
 cases q1:eqS s [97] with
 | true=>rw[q1] at h; exact .inl ⟨(eqS_iff _ _).mp q1,h⟩
 | false=>
  rw[q1] at h
  cases q2:eqS s [98] with
  | true=>rw[q2] at h; exact .inr (.inl ⟨(eqS_iff _ _).mp q2,h⟩)
  | false=>
   rw[q2] at h
   cases q3:eqS s [99] with
   | true=>rw[q3] at h; exact .inr (.inr ⟨(eqS_iff _ _).mp q3,h⟩)
   | false=>rw[q3] at h; cases h
noncomputable def Tw (a b c:Bool) (ns:List Int) (v:Nat):Prop:=∃ s ∈ abc,∃ t ∈ abc,s ≠ t/\tdT a b c s = true/\tdT a b c t = true/\s ∈ (XX a b c ns v).w0 ++ (XX a b c ns v).w1/\t ∈ (XX a b c ns v).w0 ++ (XX a b c ns v).w1
theorem sub_mem {x y:US} (h:Sub x y) {s:List Nat} (k:s∈x.w0++x.w1):s∈y.w0++y.w1:=by
 rcases List.mem_append.mp k with q | q
 ·exact List.mem_append.mpr (.inl (h.w0 s q))
 ·exact List.mem_append.mpr (.inr (h.w1 s q))
theorem Tw.two {v:Nat} (h:Tw a b c ns v):two a b c=true:=by
 obtain⟨s,_,t,_,ne,ds,dt,_⟩:=h
 rcases td_abc ds with ⟨rfl,u⟩ | ⟨rfl,u⟩ | ⟨rfl,u⟩ <;> rcases td_abc dt with ⟨rfl,w⟩ | ⟨rfl,w⟩ | ⟨rfl,w⟩ <;> first | exact absurd rfl ne | (subst u w;cases a<;>cases b<;>cases c<;>rfl) | (subst u w;first|(cases a<;>rfl)|(cases b<;>rfl)|(cases c<;>rfl))
theorem Tw.no {v v':Nat} (h:Tw a b c ns v) (k:Sub (XX a b c ns v) (XX a b c ns v')) {s:List Nat}:fO a b c ns v'≠some s:=by
 intro e
 obtain⟨_,q⟩:=fO_some e
 obtain⟨x,hx,y,hy,ne,dx,dy,ux,uy⟩:=h
 exact ne ((q x hx (sub_mem k ux) dx).trans (q y hy (sub_mem k uy) dy).symm)
theorem fO_next {v v':Nat} {s:List Nat} (h:fO a b c ns v=some s) (k:Sub (XX a b c ns v) (XX a b c ns v')):Tl a b c s/\(fO a b c ns v'=some s\/(fO a b c ns v'=none/\Tw a b c ns v')):=by
 obtain⟨⟨hs,hw,htd⟩,q⟩:=fO_some h
 refine⟨?_,?_⟩
 ·rcases td_abc htd with ⟨rfl,u⟩ | ⟨rfl,u⟩ | ⟨rfl,u⟩
  ·exact .A u
  ·exact .B u
  ·exact .C u
 ·cases h2:fO a b c ns v' with
  | some y=>
   obtain⟨_,q2⟩:=fO_some h2
   exact .inl (by rw[q2 s hs (sub_mem k hw) htd])
  | none=>
   rcases fO_none h2 with q | q
   ·exact absurd (sub_mem k hw) (q s hs htd)
   ·exact .inr ⟨rfl,q⟩
theorem case_ok:CO (Tl a b c) (two a b c) (fO a b c ns 2) (fO a b c ns 3) (fO a b c ns 4):=by
 have s3:Sub (XX a b c ns 2) (XX a b c ns 3):=Sub.all _ _ _
 have s4:Sub (XX a b c ns 3) (XX a b c ns 4):=Sub.all _ _ _
 have s5:Sub (XX a b c ns 4) (XX a b c ns 4):=⟨fun _ h=>h,fun _ h=>h⟩
 cases h2:fO a b c ns 2 with
 | some l=>
  obtain⟨tl,h⟩:=fO_next h2 s3
  rcases h with h3|⟨h3,w⟩
  ·rw[h3]
   rcases (fO_next h3 s4).2 with h4|⟨h4,w⟩
   ·rw[h4];exact .lll l tl
   ·rw[h4];exact .lln l tl w.two
  ·rw[h3]
   cases h4:fO a b c ns 4 with
   | some y=>exact absurd h4 (w.no s4)
   | none=>exact .lnn l tl w.two
 | none=>
  cases h3:fO a b c ns 3 with
  | some l=>
   obtain⟨tl,h⟩:=fO_next h3 s4
   rcases h with h4|⟨h4,w⟩
   ·rw[h4];exact .nll l tl
   ·rw[h4];exact .nln l tl w.two
  | none=>
   cases h4:fO a b c ns 4 with
   | some l=>exact .nnl l (fO_next h4 s5).1
   | none=>exact .nnn
end L1
end

section
open PySem PySem.W PySem.Calls PyProof.Rows
theorem split1 {M:Model} {A:Around} {s1:Stmt} {bs:List Stmt} {env:Env} {Q:Flow->Shared->Prop} {E:Value->Shared->Prop} {s:Shared} {P:Shared->Prop} (h:wpAny M A (exec s1 env) (fun f s'=>f=.next/\P s') (fun _ _=>False) s) (h2:∀ s',P s'->wpAny M A (PySem.execs bs env) Q E s'):wpAny M A (PySem.execs (s1::bs) env) Q E s:=
 wpAny_bind (wpAny_mono h (fun f s' ⟨hf,hp⟩=>by subst hf;exact h2 s' hp) fun _ _ z=>z.elim)
theorem conv_body {M:Model} {A:Around} {env:Env} {Q:Flow->Shared->Prop} {E:Value->Shared->Prop} {s:Shared} {b b':List Stmt} (e:b=b') (h:wpAny M A (PySem.execs b' env) Q E s):wpAny M A (PySem.execs b env) Q E s:=e▸h
theorem ints_vr {ρ:Nat->Addr} {n:Nat} {ws:List Value} {ns:List Int} (h:IntsAre ws ns):VRs ρ n (ns.map .int) ws:=by
 induction h with
 | nil=>exact .nil
 | cons i t _ ih=>exact .cons (.int i t) ih
namespace L1
noncomputable def nmS (i:Nat):PySem.Str:=strK (sy i)
noncomputable def WF (K:Frag) (w:World) (h:Heap) (mg mb:PySem.Str->Option Value) (θ:Nat->List V) (ϑ:Nat->List (List Nat×V)):Wd:=⟨PySem.Challenge.rw_rg0087_02.row.prog,w,nmS,P,K,h,mg,mb,784,788,Str.ofString "resolve_by" ++ ".<locals>.",θ,ϑ⟩
inductive WdAll (K:Frag) (w:World) (h:Heap) (mg mb:PySem.Str->Option Value):Prop
 |mk (ok:∀ θ ϑ,WdOk (WF K w h mg mb θ ϑ)) (ex:∀ θ ϑ,ExOk (WF K w h mg mb θ ϑ)) (rk:∀ θ ϑ,RaisOk (WF K w h mg mb θ ϑ))
section
variable {K:Frag} {w:World} {g:Heap} {mg mb:PySem.Str->Option Value} {L sa fa:Addr} {ns sc:List Int} {a b c:Bool} {name:PySem.Str} {scope:Scope} {cd:Value} {sA s:Shared} {θ:Nat->List V} {ϑ:Nat->List (List Nat×V)}
theorem lk_memW {α:Type} {l:List (Nat×α)} {i:Nat} {x:α} (h:lk l i=some x):(i,x)∈l:=by
 induction l with
 | nil=>cases h
 | cons y r ih=>
  have h:cn (Nat.beq y.1 i) (some y.2) (lk r i)=some x:=h
  cases q:Nat.beq y.1 i with
  | true=>
   rw[q] at h
   have h:some y.2=some x:=h
   rw[<-Option.some.inj h,<-Nat.eq_of_beq_eq_true q];exact .head _
  | false=>rw[q] at h;exact .tail _ (ih h)
theorem hbm1:∀ f m,bm f=some m->(WF K w g mg mb θ ϑ).nm f=m.nm:=by
 intro f m e
 have:=lk_memW (show lk bmT f=some m from e)
 simp only[bmT,List.mem_cons,List.not_mem_nil,or_false,Prod.mk.injEq] at this
 rcases this with ⟨rfl,rfl⟩|⟨rfl,rfl⟩|⟨rfl,rfl⟩|⟨rfl,rfl⟩|⟨rfl,rfl⟩<;>kernel_rfl
end
end L1
end

section
open PySem PySem.W PySem.Calls PyProof.Rows
namespace L1
noncomputable def PitAt (prog:Program) (w:World) (g:Heap) (L sa:Addr) (n0:List Int) (sA s':Shared):Prop:=∃ (d D:Addr) (o oa ob:Obj) (ws:List Value) (t1 t2 t3:Tok),s'.gens=sA.gens/\s'.os=sA.os/\
  PyProof.Rows.Fr g L s'.heap (fun y=>if y=Str.ofString "mine" then some (.ref d) else if y=Str.ofString "script" then some (.ref sa) else none)/\News g L s'.heap [(D,PySem.W.listOf ws.toArray 0),(d,o),(L+1+1,ob),(L+1,oa),(784,PySem.W.tabObj #[]),(772,PySem.W.tabObj #[])]/\IntsAre ws n0/\
  Obj.IsDictOf (strKind prog w) o (strPairs [(.str (Str.ofString "at") t1,.int 0 t2),(.str (Str.ofString "row") t3,.ref D)])/\oa.data=.cell none/\ob.data=.cell none
section
variable {K:Frag} {w:World} {g:Heap} {mg mb:PySem.Str->Option Value} {L sa fa:Addr} {ns sc:List Int} {a b c:Bool} {name:PySem.Str} {scope:Scope} {cd:Value} {sA s:Shared} {θ:Nat->List V} {ϑ:Nat->List (List Nat×V)}
noncomputable def rho0 (sa D d L:Addr) (l:Nat):Addr:=if l=0 then sa else if l=1 then D else if l=2 then d else if l=3 then L+1 else L+1+1
theorem s00_get (l:Nat):s00.get l=if l=4 then some .cell0 else if l=3 then some .cell0 else if l=2 then some (.sdict 0) else if l=1 then some (.slist 7) else none:=by
 show NT.get (NT.put (NT.put (NT.put (NT.put NT.nil 1 (O.slist 7)) 2 (O.sdict 0)) 3 .cell0) 4 .cell0) l=_
 rw[NT.get_put]
 show(if l=4 then some O.cell0 else NT.get (NT.put (NT.put (NT.put NT.nil 1 (O.slist 7)) 2 (O.sdict 0)) 3 .cell0) l)=_
 rw[NT.get_put]
 show(if l=4 then some O.cell0 else if l=3 then some O.cell0 else NT.get (NT.put (NT.put NT.nil 1 (O.slist 7)) 2 (O.sdict 0)) l)=_
 rw[NT.get_put]
 show(if l=4 then some O.cell0 else if l=3 then some O.cell0 else if l=2 then some (O.sdict 0) else NT.get (NT.put NT.nil 1 (O.slist 7)) l)=_
 rw[NT.get_put]
 unfold up
 rw[NT.get_nil]
theorem s00_el {l:Nat} {y:O} {R:Prop} (e:s00.get l=some y) (k1:l=1->y=.slist 7->R) (k2:l=2->y=.sdict 0->R) (k3:l=3->y=.cell0->R) (k4:l=4->y=.cell0->R):R:=by
 rw[s00_get] at e
 by_cases h:l=4
 ·rw[if_pos h] at e;exact k4 h (Option.some.inj e).symm
 rw[if_neg h] at e
 by_cases h:l=3
 ·rw[if_pos h] at e;exact k3 h (Option.some.inj e).symm
 rw[if_neg h] at e
 by_cases h:l=2
 ·rw[if_pos h] at e;exact k2 h (Option.some.inj e).symm
 rw[if_neg h] at e
 by_cases h:l=1
 ·rw[if_pos h] at e;exact k1 h (Option.some.inj e).symm
 ·rw[if_neg h] at e;cases e
theorem two_objs {h:Heap} {a b:Addr} {x y:Obj} (ha:h.get? a=some x) (hb:h.get? b=some y) (n:x.data≠y.data):a≠b:=fun z=>by
 rw[z,hb] at ha
 exact n (congrArg Obj.data (Option.some.inj ha).symm)
theorem cells_law (L:Addr):cellsFrom (L+1) (d_law.kd.map fun x=>(nmS x.1,x.2)) []=[(nmS k_dues,L+1+1),(nmS k_told,L+1)]:=by kernel_rfl
theorem stt0 (ok:WdOk (WF K w g mg mb (th a b c ns sc) (vth ns))) (hk:scope.kind = .function) (hnm:scope.names = d_law.kd.map fun x=>(nmS x.1,x.2)) (hg:g.get? 784 = none) (hl:ns.length <= 50)
  (P₀:PitAt PySem.Challenge.rw_rg0087_02.row.prog w g L sa ns sA s) :
  ∃ ρ,Stt (WF K w g mg mb (th a b c ns sc) (vth ns)) cx m00 (envOfC name scope L fa cd) (callerA.deeper (envOfC name scope L fa cd)) ρ s00 s.heap:=by
 obtain⟨d,D,o,oa,ob,ws,t1,t2,t3,_,_,F,N,hI,ho,da,db⟩:=P₀
 have e3:(Str.ofString "at":PySem.Str)=strK (sy k_at):=by kernel_rfl
 have e4:(Str.ofString "row":PySem.Str)=strK (sy k_row):=by kernel_rfl
 have ho:Obj.IsDictOf (strKind PySem.Challenge.rw_rg0087_02.row.prog w) o [(Str.ofString "at",Value.int 0 t2),(Str.ofString "row",Value.ref D)]:=ho
 rw[e3,e4] at ho
 have nD:=N _ (.head _)
 have nd:=N _ (.tail _ (.head _))
 have nb:=N _ (.tail _ (.tail _ (.head _)))
 have na:=N _ (.tail _ (.tail _ (.tail _ (.head _))))
 have nP:=N _ (.tail _ (.tail _ (.tail _ (.tail _ (.head _)))))
 have od:∃ es ep,o.data=.dict es ep:=by
  obtain⟨es,ep,_,hd,_⟩:=ho
  exact⟨es,ep,hd⟩
 obtain⟨es,ep,od⟩:=od
 have n12:=two_objs nD.1 nd.1 (by rw[od];intro z;cases z)
 have n13:=two_objs nD.1 na.1 (by rw[da];intro z;cases z)
 have n14:=two_objs nD.1 nb.1 (by rw[db];intro z;cases z)
 have n23:=two_objs nd.1 na.1 (by rw[da,od];intro z;cases z)
 have n24:=two_objs nd.1 nb.1 (by rw[db,od];intro z;cases z)
 have n34:L+1≠L+1+1:=Nat.ne_of_lt (Nat.lt_succ_self _)
 have p1:=two_objs nD.1 nP.1 (by intro z;cases z)
 have p2:=two_objs nd.1 nP.1 (by rw[od];intro z;cases z)
 have p3:=two_objs na.1 nP.1 (by rw[da];intro z;cases z)
 have p4:=two_objs nb.1 nP.1 (by rw[db];intro z;cases z)
 have trk:∀ {x:Addr} {R:Prop},Trk (rho0 sa D d L) s00 x->(x=D->R)->(x=d->R)->(x=L+1->R)->(x=L+1+1->R)->R:=fun ⟨l,y,e,z⟩ k1 k2 k3 k4=>s00_el e (fun h _=>k1 (by rw[<-z,h];rfl)) (fun h _=>k2 (by rw[<-z,h];rfl)) (fun h _=>k3 (by rw[<-z,h];rfl)) fun h _=>k4 (by rw[<-z,h];rfl)
 have R:Rep (WF K w g mg mb (th a b c ns sc) (vth ns)) (rho0 sa D d L) s00 s.heap:=by
  refine⟨fun l y e=>?_,fun l l' y y' e e' z=>?_,fun x t=>?_,fun l y e=>?_,F.keep,fun t=>?_,⟨#[],nP.1,.inl rfl⟩,fun l C fs e=>?_,hg⟩
  ·refine s00_el e (fun h1 h2=>?_) (fun h1 h2=>?_) (fun h1 h2=>?_) fun h1 h2=>?_
   ·subst h1 h2
    exact⟨ws,0,nD.1,ints_vr hI,by show (ns.map V.int).length<=_;rw[List.length_map];exact Nat.le_trans hl (by decide)⟩
   ·subst h1 h2
    show PD _ _ _ _ _ (vth ns 0)
    refine DicK.pd (W:=WF K w g mg mb (th a b c ns sc) (vth ns)) ⟨[(strK (sy k_at),Value.int 0 t2),(strK (sy k_row),Value.ref D)],?_,?_,(by decide:([sy k_at,sy k_row]:List (List Nat)).Nodup)⟩
    ·obtain⟨es,ep,r⟩:=ho
     exact⟨o,es,ep,nd.1,r⟩
    ·exact .cons (.int 0 t2) (.cons (.ref 1 (by decide)) .nil)
   ·subst h1 h2
    exact⟨oa,na.1,da⟩
   ·subst h1 h2
    exact⟨ob,nb.1,db⟩
  ·refine s00_el e (fun h1 _=>?_) (fun h1 _=>?_) (fun h1 _=>?_) fun h1 _=>?_ <;> refine s00_el e' (fun h2 _=>?_) (fun h2 _=>?_) (fun h2 _=>?_) fun h2 _=>?_ <;> first | exact h1.trans h2.symm | (rw[h1,h2] at z;first | exact absurd z n12 | exact absurd z.symm n12 | exact absurd z n13 | exact absurd z.symm n13 | exact absurd z n14 | exact absurd z.symm n14 | exact absurd z n23 | exact absurd z.symm n23 | exact absurd z n24 | exact absurd z.symm n24 | exact absurd z n34 | exact absurd z.symm n34)
  ·exact trk t (fun h=>by rw[h];exact nD.2.2) (fun h=>by rw[h];exact nd.2.2) (fun h=>by rw[h];exact na.2.2) fun h=>by rw[h];exact nb.2.2
  ·exact s00_el e (fun h _=>by rw[h];decide) (fun h _=>by rw[h];decide) (fun h _=>by rw[h];decide) fun h _=>by rw[h];decide
  ·exact trk t (fun h=>p1 h.symm) (fun h=>p2 h.symm) (fun h=>p3 h.symm) fun h=>p4 h.symm
  ·exact s00_el e (fun _ h=>by cases h) (fun _ h=>by cases h) (fun _ h=>by cases h) fun _ h=>by cases h
 have OL:Off (WF K w g mg mb (th a b c ns sc) (vth ns)) (rho0 sa D d L) s00 L:=by
  refine⟨fun t=>?_,?_,fun z=>nP.2.1 z.symm⟩
  ·exact trk t (fun h=>nD.2.1 h.symm) (fun h=>nd.2.1 h.symm) (fun h=>na.2.1 h.symm) fun h=>nb.2.1 h.symm
  ·show g.get? L=none
   cases q:g.get? L with
   | none=>rfl
   | some y=>exact absurd (Nat.lt_of_lt_of_le (Heap.lt_size q) F.above) (Nat.lt_irrefl _)
 have e1:(Str.ofString "mine":PySem.Str)=nmS k_mine:=by kernel_rfl
 have e2:(Str.ofString "script":PySem.Str)=nmS k_script:=by kernel_rfl
 have ce:(envOfC name scope L fa cd).cells=[(nmS k_dues,L+1+1),(nmS k_told,L+1)]:=by
  show cellsFrom (L+1) scope.names []=_
  rw[hnm];exact cells_law L
 refine⟨rho0 sa D d L,⟨R,fun e he=>?_,⟨_,_,rfl⟩,(show 1+300+1+4*60<=990 by decide),(show 4+3+30*60<=9000 by decide),.inl rfl⟩,⟨hk,fun x=>?_,rfl,rfl,fun y x e=>?_,fun z=>(by cases z),⟨_,F.ns,fun x v e=>?_⟩⟩,OL,⟨_,_,rfl,rfl⟩⟩
 ·obtain⟨fs,hf,hm⟩:=he
  have hf:some [envOfC name scope L fa cd]=some fs:=hf
  rw[<-Option.some.inj hf] at hm
  rw[List.mem_singleton.mp hm]
  obtain⟨y,es,ep,h1,h2,_⟩:=F.ns
  exact⟨hk,L,y,rfl,h1,⟨es,ep,h2⟩,OL⟩
 ·show scope.names.lookup (nmS x)=_
  rw[hnm]
  exact lookup_map ok d_law.kd x
 ·rw[ce]
  have e:cn (Nat.beq k_told y) (some 3) (cn (Nat.beq k_dues y) (some 4) none)=some x:=e
  cases q1:Nat.beq k_told y with
  | true=>
   rw[q1] at e
   have q1:=Nat.eq_of_beq_eq_true q1
   subst q1
   have e:some 3=some x:=e
   rw[<-Option.some.inj e]
   exact⟨by decide,by kernel_rfl⟩
  | false=>
   rw[q1] at e
   cases q2:Nat.beq k_dues y with
   | true=>
    rw[q2] at e
    have q2:=Nat.eq_of_beq_eq_true q2
    subst q2
    have e:some 4=some x:=e
    rw[<-Option.some.inj e]
    exact⟨by decide,by kernel_rfl⟩
   | false=>rw[q2] at e;cases e
 ·have e:cn (Nat.beq k_script x) (some (V.ref 0)) (cn (Nat.beq k_mine x) (some (V.ref 2)) none)=some v:=e
  cases q1:Nat.beq k_script x with
  | true=>
   rw[q1] at e
   have q1:=Nat.eq_of_beq_eq_true q1
   subst q1
   have e:some (V.ref 0)=some v:=e
   rw[<-Option.some.inj e]
   refine⟨.ref sa,?_,.ref 0 (by decide)⟩
   show(if nmS k_script=Str.ofString "mine" then some (Value.ref d) else if nmS k_script=Str.ofString "script" then some (Value.ref sa) else none)=some (Value.ref sa)
   rw[if_neg (by rw[e1];intro z;exact absurd (ok.inj _ _ z) (by decide)),if_pos e2.symm]
  | false=>
   rw[q1] at e
   cases q2:Nat.beq k_mine x with
   | true=>
    rw[q2] at e
    have q2:=Nat.eq_of_beq_eq_true q2
    subst q2
    have e:some (V.ref 2)=some v:=e
    rw[<-Option.some.inj e]
    exact⟨.ref d,if_pos e1.symm,.ref 2 (by decide)⟩
   | false=>rw[q2] at e;cases e
theorem law2_end (H:WdAll K w g mg mb) (hg:g.get? 784 = none) (hg2:g.get? 772 = none)
  (hk:scope.kind = .function) (hnm:scope.names = d_law.kd.map fun x=>(nmS x.1,x.2)) (hl:ns.length <= 50) (P₀:PitAt PySem.Challenge.rw_rg0087_02.row.prog w g L sa ns sA s) {Q:Flow->Shared->Prop} {E':Value->Shared->Prop}
  (hQ:∀ s'':Shared,(∀ b o,g.get? b=some o->s''.heap.get? b=some o)->s''.gens=sA.gens->s''.os=sA.os->GrownAt 784 s''.heap->GrownAt 772 s''.heap->Q (.ret (.bool true)) s'') :
  wpAny (model PySem.Challenge.rw_rg0087_02.row.prog w) (callerA.deeper (envOfC name scope L fa cd)) (PySem.execs (S.decL nmS (b_law.drop 1)) (envOfC name scope L fa cd)) Q E' s:=by
 generalize ha:ltI (digV ns 0 5) 4 = a
 generalize hb:ltI (digV ns 1 5) 4 = b
 generalize hc:ltI (digV ns 2 5) 4 = c
 rcases H with ⟨H1,H2,H3⟩
 have ok:=H1 (th a b c ns []) (vth ns)
 obtain⟨ρ,S⟩:=stt0 (fa:=fa) (name:=name) (cd:=cd) ok hk hnm hg hl P₀
 have IN:∀ n,SEv (WF K w g mg mb (th a b c ns []) (vth ns)) (L1.E n):=fun n=>(sound_ev L1.Kn rfl ok (H2 _ _) (H3 _ _) omNo_ok hbm1 n).1
 have IZ:∀ {su sv od:Option Bool} {x2 x3 x4:Option AN},KnB su (eqI (digV ns (iot ns 5) 2) 0)->KnB sv (eqI (digV ns (iot ns 6) 2) 0)->KnB od (eqI (digV ns (iot ns 7) 2) 1)->Kno x2 (fO a b c ns 2)->Kno x3 (fO a b c ns 3)->Kno x4 (fO a b c ns 4)->∀ n,SEv (WF K w g mg mb (th a b c ns []) (vth ns)) (ev (KZ (ZL (dgO ns) a b c su sv od x2 x3 x4)) n):=
  fun k1 k2 k3 h2 h3 h4 n=>(sound_ev (KZ (ZL (dgO ns) a b c _ _ _ _ _ _)) rfl ok (H2 _ _) (H3 _ _) (omL_ok IN (l_ok hl k1 k2 k3 h2 h3 h4 rfl rfl)) hbm1 n).1
 obtain⟨m',σ',wx⟩:=law_tail (a:=a) (b:=b) (c:=c) (su:=eqI (digV ns (iot ns 5) 2) 0) (sv:=eqI (digV ns (iot ns 6) 2) 0) (od:=eqI (digV ns (iot ns 7) 2) 1) (x2:=fO a b c ns 2) (x3:=fO a b c ns 3) (x4:=fO a b c ns 4) (dg:=dgO ns)
  (IZ (.inl rfl) (.inl rfl) (.inl rfl) (.inl rfl) (.inl rfl) (.inl rfl)) (IZ (.inr rfl) (.inl rfl) (.inl rfl) (.inr rfl) (.inl rfl) (.inl rfl)) (IZ (.inr rfl) (.inr rfl) (.inl rfl) (.inr rfl) (.inl rfl) (.inl rfl)) (IZ (.inr rfl) (.inr rfl) (.inr rfl) (.inr rfl) (.inr rfl) (.inr rfl)) IN rfl rfl rfl ha hb hc
  (go_all _ a b c _ _ _ _ _ _ case_ok) S
 refine wx Q E' fun ρ' h' tk pv x hv=>?_
 rcases x with ⟨st,er⟩
 refine hv.elB (P:=fun pv=>Q (.ret pv) _) ?_
 obtain⟨d,D,o,oa,ob,ws,t1,t2,t3,q1,q2,F,N,hI,ho,da,db⟩:=P₀
 refine hQ (Shared.at_ s h' tk) st.rep.keep q1 q2 ?_ ?_
 ·rcases st.rep.tab with ⟨vs,e,_⟩
  exact⟨vs,e⟩
 ·have nP:=N _ (.tail _ (.tail _ (.tail _ (.tail _ (.tail _ (.head _))))))
  obtain⟨o',e,q⟩:=st.kept.keep 772 _ nP.1 (fun t=>by
   obtain⟨l,y,e,z⟩:=t
   have p:=S.rep.obj l y e
   refine s00_el e (fun u v=>?_) (fun u v=>?_) (fun u v=>?_) fun u v=>?_
   ·subst u v
    rcases p with ⟨ys,ep,p,_⟩
    rw[z,nP.1] at p;cases p
   ·subst u v
    rcases p with ⟨xs,ep,p,_⟩
    rw[z,nP.1] at p;cases p
   ·subst u v
    rcases p with ⟨x,p,r⟩
    rw[z,nP.1] at p;cases p;cases r
   ·subst u v
    rcases p with ⟨x,p,r⟩
    rw[z,nP.1] at p;cases p;cases r) (by show (772:Nat)≠784;decide) (fun z=>nP.2.1 z)
  rcases q with rfl|⟨⟨e',⟨fs,hf,hm⟩,f⟩,_⟩
  ·exact⟨_,e⟩
  ·have hf:some [envOfC name scope L fa cd]=some fs:=hf
   rw[<-Option.some.inj hf] at hm
   rw[List.mem_singleton.mp hm] at f
   have f:some L=some 772:=f
   exact absurd (Option.some.inj f).symm nP.2.1
end
end L1
end

section
open PySem PySem.W PySem.Calls PyProof.Rows
namespace L1
noncomputable def encS (l:List Nat):Nat->Nat:=@List.rec Nat (fun _=>Nat->Nat) (fun a=>a) (fun x _ ih a=>ih (a*2097152+x+1)) l
noncomputable def notS (l:List Nat):List Nat->Bool:=fun s=>cn (eqS l s) false true
noncomputable def allB {α:Type} (p:α->Bool) (l:List α):Bool:=@List.rec α (fun _=>Bool) true (fun x _ ih=>cn (p x) ih false) l
noncomputable def nodN (l:List Nat):Bool:=@List.rec Nat (fun _=>Bool) true (fun x r ih=>cn (memN r x) false ih) l
theorem allB_at {α:Type} {p:α->Bool} {l:List α} (h:allB p l=true) (x:α) (hx:x∈l):p x=true:=by
 induction l with
 | nil=>cases hx
 | cons y r ih=>
  have h:cn (p y) (allB p r) false=true:=h
  cases q:p y with
  | false=>rw[q] at h;cases h
  | true=>
   rw[q] at h
   rcases List.mem_cons.mp hx with e|e
   ·rw[e];exact q
   ·exact ih h e
theorem nodN_at {l:List Nat} (h:nodN l=true):l.Nodup:=by
 induction l with
 | nil=>exact List.nodup_nil
 | cons y r ih=>
  have h:cn (memN r y) false (nodN r)=true:=h
  cases q:memN r y with
  | true=>rw[q] at h;cases h
  | false=>
   rw[q] at h
   exact List.nodup_cons.mpr ⟨fun z=>Bool.noConfusion (q.symm.trans ((memN_iff _ _).mpr z)),ih h⟩
noncomputable def smS (l:List Nat):Bool:=@List.rec Nat (fun _=>Bool) true (fun c r _=>@List.rec Nat (fun _=>Bool) (Nat.blt c 1114112) (fun _ _ _=>true) r) l
noncomputable def dbgS:List (List Nat):=[[95,95,100,101,98,117,103,95,95],[95,95,99,108,97,115,115,100,105,99,116,95,95],[115,117,112,101,114],[95,95,110,97,109,101,95,95]]
theorem tb_nd:nodN (tb.map fun x=>encS x 0)=true:=by decide +kernel
theorem tb_ok:allB (fun x=>cn (smS x) (allB (fun t=>notS x t) dbgS) false) tb=true:=by decide +kernel
theorem sy_nth (i:Nat):sy i=oc (tb[i]?) [1114112+i] fun x=>x:=by
 unfold sy
 rw[nth_eq]
 generalize tb[i]? = o
 cases o with
 | none=>rfl
 | some x=>rfl
theorem tb_at {i:Nat} {x:List Nat} (h:tb[i]?=some x):smS x=true/\∀ t∈dbgS,x≠t:=by
 have:=allB_at tb_ok x (List.mem_of_getElem? h)
 cases q:smS x with
 | false=>rw[q] at this;cases this
 | true=>
  rw[q] at this
  refine⟨rfl,fun t ht z=>?_⟩
  have this:allB (fun t=>notS x t) dbgS=true:=this
  have:=allB_at this t ht
  rw[z] at this
  have this:cn (eqS t t) false true=true:=this
  rw[eqS_self] at this;cases this
theorem sy_inj (i j:Nat) (h:sy i=sy j):i=j:=by
 rw[sy_nth,sy_nth] at h
 cases hi:tb[i]? with
 | some x=>
  rw[hi] at h
  cases hj:tb[j]? with
  | some y=>
   rw[hj] at h
   have h:x=y:=h
   have li:i<tb.length:=(List.getElem?_eq_some_iff.mp hi).1
   refine (List.getElem?_inj (l:=tb.map fun x=>encS x 0) (by rw[List.length_map];exact li) (nodN_at tb_nd)).mp ?_
   rw[List.getElem?_map,List.getElem?_map,hi,hj,h]
  | none=>
   rw[hj] at h
   have h:x=[1114112+j]:=h
   have:=(tb_at hi).1
   rw[h] at this
   exact absurd (Nat.blt_eq.mp this) (Nat.not_lt.mpr (Nat.le_add_right _ _))
 | none=>
  rw[hi] at h
  cases hj:tb[j]? with
  | some y=>
   rw[hj] at h
   have h:[1114112+i]=y:=h
   have:=(tb_at hj).1
   rw[<-h] at this
   exact absurd (Nat.blt_eq.mp this) (Nat.not_lt.mpr (Nat.le_add_right _ _))
  | none=>
   rw[hj] at h
   have h:[1114112+i]=[1114112+j]:=h
   exact Nat.add_left_cancel (List.cons.inj h).1
theorem nm_inj (i j:Nat) (h:nmS i=nmS j):i=j:=sy_inj i j (strK_inj h)
theorem nm_ne {t:PySem.Str} {s:List Nat} (ht:t=strK s) (hs:s∈dbgS) (i:Nat):nmS i≠t:=by
 rw[ht]
 intro z
 have z:=strK_inj z
 rw[sy_nth] at z
 cases hi:tb[i]? with
 | some x=>rw[hi] at z;exact (tb_at hi).2 s hs z
 | none=>
  rw[hi] at z
  have z:[1114112+i]=s:=z
  rw[<-z] at hs
  have:=allB_at (show allB (fun l:List Nat=>cn (Nat.beq l.length 1) false true) dbgS=true from rfl) _ hs
  cases this
theorem nm_dbg (i:Nat):(nmS i == ("__debug__" : PySem.Str))=false/\(nmS i == ("__classdict__" : PySem.Str))=false/\(nmS i == ("super" : PySem.Str))=false:=
 ⟨beq_eq_false_iff_ne.mpr (nm_ne (s:=[95,95,100,101,98,117,103,95,95]) (by kernel_rfl) (.head _) i),beq_eq_false_iff_ne.mpr (nm_ne (s:=[95,95,99,108,97,115,115,100,105,99,116,95,95]) (by kernel_rfl) (.tail _ (.head _)) i),beq_eq_false_iff_ne.mpr (nm_ne (s:=[115,117,112,101,114]) (by kernel_rfl) (.tail _ (.tail _ (.head _))) i)⟩
theorem nm_name (i:Nat):nmS i≠("__name__":PySem.Str):=nm_ne (s:=[95,95,110,97,109,101,95,95]) (by kernel_rfl) (.tail _ (.tail _ (.tail _ (.head _)))) i
end L1
end

section
open PySem PySem.W PySem.Calls PyProof.Rows
namespace L1
noncomputable def strip (x:Value):Option V:=match x with
 | .none=>some .none
 | .bool b=>some (.bool b)
 | .int i _=>some (.int i)
 | .str s _=>some (.str s.cps.toList)
 | x=>cn (handedIn x) (some (.top x)) none
theorem strip_vr {x:Value} {v:V} (h:strip x=some v) (ρ:Nat->Addr) (n:Nat):VR ρ n v x:=by
 unfold strip at h
 split at h
 ·rw[<-Option.some.inj h];exact .none
 ·rw[<-Option.some.inj h];exact .bool _
 ·rw[<-Option.some.inj h];exact .int _ _
 ·rename_i s t
  rw[<-Option.some.inj h]
  have:=VR.str (ρ:=ρ) (n:=n) s.cps.toList t
  exact this
 ·rename_i x1 x2 x3 x4
  cases q:handedIn x with
  | true=>rw[q] at h;rw[<-Option.some.inj h];exact .top _ q
  | false=>rw[q] at h;cases h
noncomputable def strips (l:List Value):Option (List V):=@List.rec _ (fun _=>Option (List V)) (some []) (fun x _ ih=>oc (strip x) none fun v=>oc ih none fun vs=>some (v::vs)) l
theorem strips_vr {xs:List Value}:∀ {vs:List V},strips xs=some vs->∀ (ρ:Nat->Addr) (n:Nat),VRs ρ n vs xs:=by
 induction xs with
 | nil=>intro vs h ρ n;rw[<-Option.some.inj h];exact .nil
 | cons x r ih=>
  intro vs h ρ n
  have h:oc (strip x) none (fun v=>oc (strips r) none fun vs=>some (v::vs))=some vs:=h
  cases q:strip x with
  | none=>rw[q] at h;cases h
  | some v=>
   rw[q] at h
   have h:oc (strips r) none (fun vs=>some (v::vs))=some vs:=h
   cases q2:strips r with
   | none=>rw[q2] at h;cases h
   | some us=>
    rw[q2] at h
    rw[<-Option.some.inj h]
    exact .cons (strip_vr q ρ n) (ih q2 ρ n)
noncomputable def tab (n:Nat):(Nat->Value)->List Value:=@Nat.rec (fun _=>(Nat->Value)->List Value) (fun _=>[]) (fun _ ih f=>f 0::ih fun i=>f (i+1)) n
noncomputable def atV (l:List Value):Nat->Value:=@List.rec Value (fun _=>Nat->Value) (fun _=>.none) (fun x _ ih i=>@Nat.rec (fun _=>Value) x (fun j _=>ih j) i) l
theorem tab_at (l:List Value):tab l.length (atV l)=l:=by
 induction l with
 | nil=>rfl
 | cons x r ih=>exact congrArg (x::·) ih
structure FV where
 body:FuncBody
 kind:ScopeKind
 gen:Bool
 co:Bool
 names:List (PySem.Str×NameKind)
 glob:Addr
 bi:Addr
 clo:List (PySem.Str×Addr)
 code:Bool
 keep:Bool
 mq:Option (Value×PySem.Str)
 b1:Setting->(Nat->Value)->Option (List (PySem.Str×Value))
 b2:Setting->(Nat->Value)->Option (List (PySem.Str×Value))
noncomputable def dvT (a:Nat):List Value:=cn (Nat.beq a 816) [.int 32 1430,.int 1000000 1433,.int 50 1434,.int 10000 1437,.int 100000 1440,.int 50 1441,.int 1000000 1444] []
noncomputable def isCell (d:FD):Bool:=oc (lk d.kd 23) false fun k=>@NameKind.rec (fun _=>Bool) false true false false false k
noncomputable def fvOf (K:Frag) (d:FD) (a:Nat) (fd:FuncData):FV:=⟨fd.body,fd.scope.kind,fd.scope.isGenerator,fd.scope.isCoroutine,fd.scope.names,fd.globals,fd.builtins,fd.closure,codeIn K fd.code fd.qualname,keepIn K (.ref a),
 cn (isCell d) (some (fd.code,fd.qualname ++ ".<locals>.")) none,fun S f=>peek K S (bindArgs fd ⟨tab d.ps.length f,[]⟩),fun S f=>peek K S (bindArgs fd ⟨tab (d.ps.length - (dvT a).length) f,[]⟩)⟩
noncomputable def fnV (K:Frag) (x:Nat×FD):Option FV:=match K.lookup x.1 with
 | some ⟨_,_,.func fd,_⟩=>some (fvOf K x.2 x.1 fd)
 | _=>none
noncomputable def fnL (x:Nat×FD):Option FV:=some ⟨.stmts (S.decL nmS x.2.body),.function,false,false,x.2.kd.map (fun x=>(nmS x.1,x.2)),mainGlobals,builtinsNs,[],true,true,
 cn (isCell x.2) (some (.ref 788,Str.ofString "resolve_by" ++ ".<locals>.")) none,fun _ f=>some ((x.2.ps.map nmS).zip (tab x.2.ps.length f)),fun _ f=>some ((x.2.ps.map nmS).zip (tab (x.2.ps.length - (dvT x.1).length) f ++ dvT x.1))⟩
noncomputable def fnX:List (Nat×FD):=(125,d_CheckFault_init)::(105,d_AdaError_init)::fnT
section
variable {K:Frag} {w:World} {h:Heap} {mg mb:PySem.Str->Option Value} {θ:Nat->List V} {ϑ:Nat->List (List Nat×V)}
theorem fn_ok {a:Nat} {d:FD} (e:fnV K (a,d)=fnL (a,d)) (hd:strips (dvT a)=some d.df):FnOk (WF K w h mg mb θ ϑ) a d:=by
 unfold fnV at e
 split at e
 ·rename_i oc od fd osl q
  have e:=Option.some.inj e
  have hv:=strips_vr hd
  have hl:(dvT a).length=d.df.length:=(hv (fun _=>0) 0).length
  refine⟨_,_,_,_,dvT a,q,congrArg FV.body e,congrArg FV.kind e,congrArg FV.gen e,congrArg FV.co e,congrArg FV.names e,congrArg FV.glob e,congrArg FV.bi e,congrArg FV.clo e,congrArg FV.code e,congrArg FV.keep e,fun z=>?_,hv,fun s xs X=>⟨fun z=>?_,fun z=>?_⟩⟩
  ·have m:cn (isCell d) _ none=cn (isCell d) _ none:=congrArg FV.mq e
   have c:isCell d=true:=by
    have z:lk d.kd 23=some .cell:=z
    unfold isCell;rw[z];rfl
   rw[c] at m
   have m:=Option.some.inj m
   exact⟨congrArg Prod.fst m,congrArg Prod.snd m⟩
  ·have m:=congrArg FV.b1 e
   refine kp_binds X fun S=>?_
   have:=congrFun (congrFun m S) (atV xs)
   have this:peek K S (bindArgs fd ⟨tab d.ps.length (atV xs),[]⟩)=some ((d.ps.map nmS).zip (tab d.ps.length (atV xs))):=this
   rw[<-z,tab_at] at this
   exact this
  ·have m:=congrArg FV.b2 e
   refine kp_binds X fun S=>?_
   have:=congrFun (congrFun m S) (atV xs)
   have this:peek K S (bindArgs fd ⟨tab (d.ps.length - (dvT a).length) (atV xs),[]⟩)=some ((d.ps.map nmS).zip (tab (d.ps.length - (dvT a).length) (atV xs) ++ dvT a)):=this
   rw[show d.ps.length - (dvT a).length=xs.length by rw[<-z,Nat.add_sub_cancel],tab_at] at this
   exact this
 ·cases e
structure CV where
 ga:Option (Option Value)
 sa:Option (Option Value)
 hd:Bool
 ov:Bool
 mq:Bool
 ini:Option (Option Value)
 ft:Option Value
 fld:List (Option (Option Value))
 ms:List (Option (Option Value)×Option Value×Bool)
 keep:Bool
 hk:Option (Option Value)
noncomputable def clV (K:Frag) (x:Nat×CD):CV:=⟨findIn K (.ref x.1) "__getattribute__",findIn K (.ref x.1) "__setattr__",(clsIn K x.1).any (·.hasDict),plainOver K x.1,makesIn K x.1,findIn K (.ref x.1) "__init__",typeIn K (.ref x.2.ini),
 x.2.fs.map fun f=>findIn K (.ref x.1) (nmS f),x.2.ms.map fun y=>(findIn K (.ref x.1) (nmS y.1),typeIn K (.ref y.2),keepIn K (.ref y.2)),keepIn K (.ref x.1),findIn K (.ref x.1) "__getattr__"⟩
noncomputable def clL (x:Nat×CD):CV:=⟨some (some (.builtin "object.__getattribute__")),some (some (.builtin "object.__setattr__")),true,true,true,some (some (.ref x.2.ini)),some (.type "function"),x.2.fs.map fun _=>some none,x.2.ms.map fun y=>(some (some (.ref y.2)),some (.type "function"),true),true,some none⟩
theorem cl_ok {C:Nat} {d:CD} (e:clV K (C,d)=clL (C,d)) (hs:d.fs.length<=100) (hi:∃ fd,P.fn d.ini=some fd):ClOk (WF K w h mg mb θ ϑ) C d:=
 ⟨congrArg CV.ga e,congrArg CV.sa e,congrArg CV.hd e,congrArg CV.ov e,congrArg CV.mq e,congrArg CV.ini e,congrArg CV.ft e,fun f hf=>List.map_inj_left.mp (congrArg CV.fld e) f ((memN_iff _ _).mp hf),hs,
  fun f a ha=>by
   have:=List.map_inj_left.mp (congrArg CV.ms e) (f,a) (lk_memW ha)
   have m:=Prod.mk.inj this
   have m2:=Prod.mk.inj m.2
   exact⟨m.1,m2.1,m2.2⟩,congrArg CV.keep e,hi,congrArg CV.hk e⟩
noncomputable def gV (K:Frag) (x:Nat):Option V:=match nsIn K mainGlobals (nmS x) with
 | some (some v)=>strip v
 | some none=>oc (bootBuiltins (nmS x)) none strip
 | none=>none
noncomputable def tV (K:Frag) (a:Nat):Option (Value×Option (List V)):=match K.lookup a with
 | some ⟨c,_,.seq xs _,_⟩=>some (c,strips xs.toList)
 | _=>none
theorem ns_some_of {N:Addr} {n:PySem.Str} {v:Option Value} (X:K.In h) (G:h.Ns N mg) (e:nsIn K N n=some v):mg n=v:=by
 obtain⟨o,es,ep,ho,hd,_,hf⟩:=G
 unfold nsIn at e
 split at e
 ·rename_i c d es' n' sl q
  have:=X _ _ q
  rw[ho] at this
  cases this
  cases hd
  rw[<-hf]
  unfold nsFind findBy
  rw[<-Array.find?_toList]
  split at e
  ·rename_i x he
   rw[he]
   exact Option.some.inj e
  ·rename_i he
   rw[he]
   split at e
   ·cases e
   ·exact Option.some.inj e
 ·cases e
theorem g_ok {x:Nat} {v:V} (X:K.In h) (G:h.Ns mainGlobals mg) (Hb:∀ x:PySem.Str,x≠"__name__"->mb x=bootBuiltins x) (e:gV K x=some v):∃ pv,(∀ ρ n,VR ρ n v pv)/\(mg (nmS x)=some pv\/(mg (nmS x)=none/\mb (nmS x)=some pv)):=by
 unfold gV at e
 split at e
 ·rename_i y q
  exact⟨y,strip_vr e,.inl (ns_some_of X G q)⟩
 ·rename_i q
  cases q2:bootBuiltins (nmS x) with
  | none=>rw[q2] at e;cases e
  | some y=>
   rw[q2] at e
   exact⟨y,strip_vr e,.inr ⟨ns_some_of X G q,(Hb _ (nm_name x)).trans q2⟩⟩
 ·cases e
theorem t_ok {a:Nat} {xs:List V} (X:K.In h) (e:tV K a=some (.type "tuple",some xs)):∃ ys,h.IsTuple a (List.toArray ys)/\∀ ρ n,VRs ρ n xs ys:=by
 unfold tV at e
 split at e
 ·rename_i c d ys n sl q
  have m:=Prod.mk.inj (Option.some.inj e)
  refine⟨ys.toList,⟨_,X _ _ q,m.1,n,?_⟩,strips_vr m.2⟩
  rfl
 ·cases e
end
end L1
end

section
open PySem PySem.W PySem.Calls PyProof.Rows
namespace L1
noncomputable def isTab (o:Obj):Bool:=match o.cls,o.data with
 | .none,.fields _=>true
 | _,_=>false
noncomputable def getT (T:BT) (n a:Nat):Option Obj:=cn (Nat.blt a n) (oc (T.get a) none alive) none
theorem getT_of {T:BT} {n a:Nat} {o:Obj} (e:getT T n a=some o) (life:Life):(absHeap T n life).get? a=some o:=by
 unfold getT at e
 cases q:Nat.blt a n with
 | false=>rw[q] at e;cases e
 | true=>
  rw[q] at e
  cases q2:T.get a with
  | none=>rw[q2] at e;cases e
  | some x=>rw[q2] at e;exact (abs_get (Nat.le_of_ble_eq_true q) q2).trans e
noncomputable def adK:List Nat:=[3,2,0,1,31,30,59,58,108,107,128,127,154,153,234,233,353,352,389,388,819,818,663,372,784,785,786,787,788,772,773,774,775,776,809,28,27,26,42,41,40,56,55,54,70,69,68,105,104,103,125,124,123,144,143,142,151,150,149,191,190,189,196,195,194,217,216,215,224,223,222,288,287,286,295,294,293,300,299,298,324,323,322,386,385,384,400,399,398,407,406,405,414,413,412,421,420,419,428,427,426,435,434,433,440,439,438,447,446,445,454,453,452,461,460,459,466,465,464,471,470,469,485,484,483,490,489,488,502,501,500,517,516,515,522,521,520,527,526,525,534,533,532,541,540,539,548,547,546,593,592,591,598,597,596,612,611,610,617,616,615,648,647,646,668,667,666,675,674,673,696,695,694,701,700,699,708,707,706,715,714,713,722,721,720,729,728,727,741,740,739,748,747,746,753,752,751,782,781,780,789,796,795,794,801,800,799,816,815,814,830,829,828,837,836,835,844,843,842,851,850,849,856,855,854,863,862,861,868,867,866,873,872,871,878,877,876]
noncomputable def fragT (T:BT) (n:Nat):Frag:=adK.filterMap fun a=>oc (getT T n a) none fun o=>cn (isTab o) none (some (a,o))
theorem frag_mem {T:BT} {n:Nat} {p:Addr×Obj} (e:p∈fragT T n):getT T n p.1=some p.2/\isTab p.2=false:=by
 obtain⟨a,_,e⟩:=List.mem_filterMap.mp e
 cases q:getT T n a with
 | none=>rw[q] at e;cases e
 | some o=>
  rw[q] at e
  have e:cn (isTab o) none (some (a,o))=some p:=e
  cases q2:isTab o with
  | true=>rw[q2] at e;cases e
  | false=>rw[q2] at e;rw[<-Option.some.inj e];exact⟨q,q2⟩
theorem frag_in {T:BT} {n:Nat} {life:Life}:(fragT T n).In (absHeap T n life):=fun a o e=>getT_of (frag_mem (mem_of_lookupK e)).1 life
theorem frag_tabs {T:BT} {n:Nat}:noTabs (fragT T n)=true:=by
 refine List.all_eq_true.mpr fun p hp=>?_
 have:=(frag_mem hp).2
 revert this
 unfold isTab
 cases p.2.cls<;>cases p.2.data<;>first|(intro _;rfl)|(intro z;cases z)
structure MV where
 own:Option Obj
 exm:Option Bool
 sub:Option Bool
 ty:Option Value
 bs:List Bool
 set:Option (Option Value)
 ini:Option (Option Value)
 it:Option Value
 ga:Option (Option Value)
 n11:Option (Option Value)
 n248:Option (Option Value)
 c1:Option CFound
 c2:Option CFound
noncomputable def mvV (K:Frag):MV:=⟨K.lookup 128,exmOne K (.ref 128) (.ref 128),subIn K (.ref 128) (.type "BaseException"),typeIn K (.ref 128),[keepIn K (.ref 128),excOver K 128,(clsIn K 128).any (·.hasDict),keepIn K (.ref 105),readsIn K 108 (.type "type"),codeHdIn K 788 784,codeHdIn K 776 772],
 findIn K (.ref 128) "__setattr__",findIn K (.ref 128) "__init__",typeIn K (.ref 125),specialIn K (.ref 108) "__getattribute__",findIn K (.ref 128) (nmS 72),findIn K (.ref 128) (nmS 254),findCls K (.ref 108) (.type "type") (nmS 294),findCls K (.type "Exception") (.type "type") (nmS 294)⟩
noncomputable def mvL:MV:=⟨some (excClassObj (Str.ofString "CheckFault") (Str.ofString "CheckFault") 128 127 [.ref 108] [.ref 108,.type "Exception",.type "BaseException",.type "object"] true [] [] false none none (some (.ref 112)) none (some (.str (Str.ofString "CheckFault") 353)) (some (.str (Str.ofString "CheckFault") 361)) (some (.bool true)) "Exception.__new__"),
 some true,some true,some (.type "type"),[true,true,true,true,true,true,true],some (some (.builtin "object.__setattr__")),some (some (.ref 125)),some (.type "function"),some (some (.builtin "type.__getattribute__")),some none,some none,some (.val (.ref 105)),some (.val (.builtin "Exception.__init__"))⟩
structure OB where
 fn:List (Option FV)
 cl:List (Option CV)
 gt:List (Option V)
 tt:List (Option (Value×Option (List V)))
 mv:MV
noncomputable def obs (K:Frag):OB:=⟨fnX.map (fnV K),clT.map fun x=>some (clV K x),gtT.map fun x=>gV K x.1,ttT.map fun x=>tV K x.1,mvV K⟩
noncomputable def obL:OB:=⟨fnX.map fnL,clT.map fun x=>some (clL x),gtT.map fun x=>some x.2,ttT.map fun x=>some (.type "tuple",some x.2),mvL⟩
theorem df_ok:(fnX.map fun x=>strips (dvT x.1))=fnX.map fun x=>some x.2.df:=by kernel_rfl
theorem cl_all:allB (fun x=>cn (Nat.ble x.2.fs.length 100) (oc (lk fnT x.2.ini) false fun _=>true) false) clT=true:=by kernel_rfl
section
variable {K:Frag} {h:Heap} {w:World} {mg mb:PySem.Str->Option Value} {θ:Nat->List V} {ϑ:Nat->List (List Nat×V)}
theorem fn_all (e:obs K=obL) {a:Nat} {d:FD} (m:(a,d)∈fnX):FnOk (WF K w h mg mb θ ϑ) a d:=
 fn_ok (List.map_inj_left.mp (congrArg OB.fn e) _ m) (List.map_inj_left.mp df_ok _ m)
theorem bma1 (B:∃ bm ob,mg "__builtins__" = some (.ref bm)/\bm≠builtinsNs/\h.get? bm=some ob/\ob.cls = .type "module"/\ob.dict=some builtinsNs/\ob.data = .plain) (hP:h.get? 784=none) (G:h.Ns mainGlobals mg):h.BuiltinsAt mg 784:=by
 obtain⟨bm,ob,a,b,c,d,e,f⟩:=B
 refine⟨bm,ob,a,b,fun z=>?_,fun z=>?_,c,d,e,f⟩
 ·obtain⟨o,es,ep,ho,hd,_⟩:=G
  rw[←z,c] at ho
  cases ho
  rw[f] at hd;cases hd
 ·rw[←z,c] at hP
  cases hP
theorem wd_all (e:obs K=obL) (X:K.In h) (hP:h.get? 784=none) (G:h.Ns mainGlobals mg) (Gb:h.Ns builtinsNs mb) (Hb:∀ x:PySem.Str,x≠"__name__"->mb x=bootBuiltins x) (lim:h.NoLimit) (sm:h.get? sysModules≠none)
  (B:∃ bm ob,mg "__builtins__" = some (.ref bm)/\bm≠builtinsNs/\h.get? bm=some ob/\ob.cls = .type "module"/\ob.dict=some builtinsNs/\ob.data = .plain):WdAll K w h mg mb:=by
 have M:mvV K=mvL:=congrArg OB.mv e
 have b:=congrArg MV.bs M
 have c1:findCls K (.ref 108) (.type "type") (nmS 294)=some (.val (.ref 105)):=congrArg MV.c1 M
 have c2:findCls K (.type "Exception") (.type "type") (nmS 294)=some (.val (.builtin "Exception.__init__")):=congrArg MV.c2 M
 have b:=List.cons.inj b
 have b1:=List.cons.inj b.2
 have b2:=List.cons.inj b1.2
 have b3:=List.cons.inj b2.2
 have b4:=List.cons.inj b3.2
 have b5:=List.cons.inj b4.2
 refine⟨fun θ ϑ=>⟨nm_inj,fun _=>rfl,nm_dbg,X,G,Gb,lim,sm,fun a xs q=>?_,fun x v q=>?_,fun C d q=>?_,fun a d q=>?_,b5.1,bma1 B hP G⟩,fun θ ϑ=>⟨congrArg MV.exm M⟩,fun θ ϑ=>⟨?_,congrArg MV.sub M,congrArg MV.ty M,b.1,congrArg MV.set M,b1.1,b2.1,?_⟩⟩
 ·have m:(ttT.map fun x=>tV K x.1)=ttT.map fun x=>some (.type "tuple",some x.2):=congrArg OB.tt e
  exact t_ok X (List.map_inj_left.mp m (a,xs) (lk_memW (show lk ttT a=some xs from q)))
 ·have m:(gtT.map fun x=>gV K x.1)=gtT.map fun x=>some x.2:=congrArg OB.gt e
  exact g_ok X G Hb (List.map_inj_left.mp m (x,v) (lk_memW (show lk gtT x=some v from q)))
 ·have m:=lk_memW (show lk clT C=some d from q)
  have m2:(clT.map fun x=>some (clV K x))=clT.map fun x=>some (clL x):=congrArg OB.cl e
  have z:=allB_at cl_all _ m
  have z:cn (Nat.ble d.fs.length 100) (oc (lk fnT d.ini) false fun _=>true) false=true:=z
  cases q1:Nat.ble d.fs.length 100 with
  | false=>rw[q1] at z;cases z
  | true=>
   rw[q1] at z
   cases q2:lk fnT d.ini with
   | none=>rw[q2] at z;cases z
   | some fd=>exact cl_ok (Option.some.inj (List.map_inj_left.mp m2 (C,d) m)) (Nat.le_of_ble_eq_true q1) ⟨fd,q2⟩
 ·exact fn_all e (.tail _ (.tail _ (lk_memW q)))
 ·exact⟨_,_,_,_,_,_,_,_,_,_,_,_,_,_,_,_,X 128 _ (congrArg MV.own M),fun n=>rfl⟩
 ·refine⟨125,105,108,d_CheckFault_init,d_AdaError_init,congrArg MV.ini M,congrArg MV.it M,fn_all e (.head _),fn_all e (.tail _ (.head _)),b3.1,b4.1,congrArg MV.ga M,?_,?_⟩
  ·exact⟨_,_,_,_,_,_,_,_,_,_,_,_,_,_,_,_,rfl,rfl,by decide,rfl,rfl,rfl,rfl,rfl,fun _=>rfl,fun _ _ _ _ _=>⟨_,rfl,rfl,rfl,rfl⟩,congrArg MV.n11 M,c1⟩
  ·exact⟨_,_,_,_,_,_,_,_,_,_,_,_,_,_,_,rfl,rfl,by decide,rfl,rfl,rfl,rfl,fun _=>rfl,fun _ _ _ _=>⟨_,rfl,rfl,rfl⟩,congrArg MV.n248 M,c2⟩
end
end L1
end
end Mine

namespace Mine
open PySem PySem.W PySem.Calls PyProof.Rows
noncomputable def rT (st:SharedT->Thread->Option (SharedT×Thread)) (n₀:Nat) (ann:Option Value) (k:Nat):SharedT->Thread->Option SharedT:=
 @Nat.rec (fun _=>SharedT->Thread->Option SharedT) (fun _ _=>none) (fun _ ih s t=>
  @Bool.rec (fun _=>Option SharedT) (@Bool.rec (fun _=>Option SharedT) none
   (@Option.rec (SharedT×Thread) (fun _=>Option SharedT) none (fun r=>@Prod.rec SharedT Thread (fun _=>Option SharedT) ih r) (st s t)) (stepOk n₀ ann t)) (some s) (through t)) k
theorem rT_of {tb:String->Option Builtin} {p:Program} {w:World} {n₀:Nat} {ann:Option Value} {n:Nat}:∀ {s s':SharedT} {t:Thread},rT (stepT (denote tb) p w) n₀ ann n s t=some s'->topRun tb p w n₀ ann n s.abs t=some s'.abs:=by
 induction n with
 | zero=>intro _ _ _ h;cases h
 | succ n ih=>
  intro s s' t h
  unfold topRun
  replace h:@Bool.rec (fun _=>Option SharedT) (@Bool.rec (fun _=>Option SharedT) none
   (@Option.rec (SharedT×Thread) (fun _=>Option SharedT) none (fun r=>@Prod.rec SharedT Thread (fun _=>Option SharedT) (rT (stepT (denote tb) p w) n₀ ann n) r) (stepT (denote tb) p w s t)) (stepOk n₀ ann t)) (some s) (through t)=some s':=h
  cases hk:through t with
  | true=>rw [hk] at h;cases h;rfl
  | false=>
   rw [hk] at h
   cases hs:stepOk n₀ ann t with
   | false=>rw [hs] at h;cases h
   | true=>
    rw [hs] at h
    cases e:stepT (denote tb) p w s t with
    | none=>rw [e] at h;cases h
    | some r=>
     obtain ⟨s₂,t₂⟩:=r
     rw [e] at h
     dsimp only
     rw [stepT_spec e]
     exact ih h
noncomputable def B0 (P:Params):BT:=
 .node (boot_o_0 P) (.node (boot_o_1 P) (.node (boot_o_3 P) (.node (boot_o_7 P) .nil .nil) .nil) (.node (boot_o_5 P) (.node (boot_o_9 P) .nil .nil) .nil))
  (.node (boot_o_2 P) (.node (boot_o_4 P) (.node (boot_o_8 P) .nil .nil) .nil) (.node (boot_o_6 P) (.node (boot_o_10 P) .nil .nil) .nil))
noncomputable def S0 (w:World) (os:OsState):SharedT:=⟨B0 w.params,11,{},#[],boot_drawn,boot_toks,os⟩
theorem S0_abs (w:World) (os:OsState):(S0 w os).abs=⟨boot_heap w.params,#[],boot_drawn,boot_toks,os⟩:=by rfl
namespace L1
noncomputable abbrev pw:Program:=Challenge.pw_rg0087_02
noncomputable abbrev row:OpenRow:=Challenge.rw_rg0087_02.row
noncomputable def vq:Program:=view pw [147]
noncomputable def loose:List PySem.Str:=pw.boundNames
noncomputable def lv:List (PySem.Str×WData):=[]
noncomputable def Xt (s:Shared):Bool:=xlAt vq lv s && recOk (RowW.records row.toRowW) s
noncomputable def mods:=importedModules pw.main.body
noncomputable def LK (s0:Heap) (s:Shared):Bool:=staticsOk mods s0 s.heap && namesBound pw s.heap && gensDone s && laidKept s0 s.heap
noncomputable def tS:=Fast.tw10156331382660048174 (Fast.tw11892475500146522536 Fast.tw14364793385576792824) pw
noncomputable def runS (w:World) (os:OsState):Option SharedT:=rT (tS w) 11 (some (.ref 6)) 6000 (S0 w os) (topStub pw)
end L1
end Mine

namespace Mine
open PySem PySem.W PySem.Calls PyProof.Rows
namespace L1
theorem tS_eq:tS=stepT (denote treeTable) pw:=by
 unfold tS
 rw [Fast.te10156331382660048174,Fast.te11892475500146522536,Fast.te14364793385576792824]
theorem size1 (w:World):((boot_heap w.params).isNs mainGlobals,(boot_heap w.params).objs.size,(boot_heap w.params).nsMap mainGlobals "__annotations__")=(true,11,some (.ref 6)):=by kernel_rfl
noncomputable abbrev nmR:String:="special-get-raises"
theorem opn:opening pw=plainProg pw.main.scope.names:=by kernel_rfl
noncomputable def YB (K:Frag) (h:Heap):Prop:=K.In h/\noTabs K=true/\h.get? 784=some (tabObj #[])/\h.get? 772=some (tabObj #[])/\obs K=obL
noncomputable def YP (_:World) (h:Heap):Prop:=∃ K,YB K h
theorem YP.keeps (w:World) (h h':Heap) (y:YP w h) (k:∀ b o,h.get? b=some o->h'.get? b=some o):YP w h':=by
 obtain ⟨K,a,b,c,d,e⟩:=y
 exact ⟨K,Frag.In.keeps a k,b,k _ _ c,k _ _ d,e⟩
noncomputable def seeT (w:World) (s:SharedT):=(LK (boot_heap w.params) s.abs,openSeen vq loose mods Xt true s.abs,getT s.tree s.n 784,getT s.tree s.n 772,obs (fragT s.tree s.n))
theorem left1 (ker:∀ (b:Bool) (w:World) (os:OsState),(runS (w.withFollow nmR b) os).map (seeT (w.withFollow nmR b))=some (true,openGood vq loose,some (tabObj #[]),some (tabObj #[]),obL)):LeftO pw vq loose Xt (fun s=>∃ K,YB K s.heap) (fun _=>True) 6000:=by
 intro w
 obtain ⟨⟨h,gs,d,k,os⟩,e,e'⟩:=Option.map_eq_some_iff.mp (boot_open (p:=pw) (N:=6000) opn rfl (fun s=>rfl) w)
 have e1:=Prod.mk.inj e'
 have e2:=Prod.mk.inj e1.2
 have e3:=Prod.mk.inj e2.2
 have e4:h=boot_heap w.params:=e1.1
 have e5:gs=#[]:=e2.1
 have e6:d=boot_drawn:=e3.1
 have e7:k=boot_toks:=e3.2
 subst e4 e5 e6 e7
 have kk:=ker (w.params.followText nmR) w os
 rw [World.withFollow_self] at kk
 obtain ⟨s',r,q⟩:=Option.map_eq_some_iff.mp kk
 have r':topRun treeTable pw w 11 (some (.ref 6)) 6000 (S0 w os).abs (topStub pw)=some s'.abs:=rT_of (by rw [←tS_eq];exact r)
 rw [S0_abs] at r'
 have q1:=Prod.mk.inj q
 have q2:=Prod.mk.inj q1.2
 have z:=Prod.mk.inj (size1 w)
 have z2:=Prod.mk.inj z.2
 have t:topFrom treeTable pw w 6000 ⟨boot_heap w.params,#[],boot_drawn,boot_toks,os⟩=some s'.abs:=by
  unfold topFrom
  dsimp only
  rw [z.1,z2.1,z2.2,r']
  show (match LK (boot_heap w.params) s'.abs with|true=>some s'.abs|false=>none)=_
  rw [q1.1]
 unfold openEnds
 rw [e]
 show (topFrom treeTable pw w 6000 _).map _=_
 rw [t]
 have q3:=Prod.mk.inj q2.2
 have q4:=Prod.mk.inj q3.2
 exact congrArg some (Prod.ext q2.1 (eq_true ⟨fragT s'.tree s'.n,frag_in,frag_tabs,getT_of q3.1 _,getT_of q4.1 _,q4.2⟩))
end L1
end Mine

namespace Mine
namespace L1
open PySem PySem.W PySem.Calls PyProof.Rows
noncomputable def runB (b:Bool) (w:World) (os:OsState):=runS (w.withFollow nmR b) os
noncomputable def obK (s:SharedT):=obs (fragT s.tree s.n)
theorem kLT:∀ (w:World) (os:OsState),(runB true w os).map (fun s=>(LK (boot_heap (w.withFollow nmR true).params) s.abs,openSeen vq loose mods Xt true s.abs))=some (true,openGood vq loose):=by
 intro w os;kernel_rfl
theorem kLF:∀ (w:World) (os:OsState),(runB false w os).map (fun s=>(LK (boot_heap (w.withFollow nmR false).params) s.abs,openSeen vq loose mods Xt true s.abs))=some (true,openGood vq loose):=by
 intro w os;kernel_rfl
theorem kOT:∀ (w:World) (os:OsState),(runB true w os).map (fun s=>(getT s.tree s.n 784,getT s.tree s.n 772,obK s))=some (some (tabObj #[]),some (tabObj #[]),obL):=by
 intro w os;kernel_rfl
theorem kOF:∀ (w:World) (os:OsState),(runB false w os).map (fun s=>(getT s.tree s.n 784,getT s.tree s.n 772,obK s))=some (some (tabObj #[]),some (tabObj #[]),obL):=by
 intro w os;kernel_rfl
theorem map2 {a b c e:Type} {o:Option a} {f:a->b} {g:a->c} {F:a->e} {x:b} {y:c} {r:e} (p:o.map f=some x) (q:o.map g=some y) (k:∀ s,f s=x->g s=y->F s=r):o.map F=some r:=by
 cases o with
 | none=>cases p
 | some s=>exact congrArg some (k s (Option.some.inj p) (Option.some.inj q))
theorem see_of {w:World} {s:SharedT} (p:(LK (boot_heap w.params) s.abs,openSeen vq loose mods Xt true s.abs)=(true,openGood vq loose))
  (t:(getT s.tree s.n 784,getT s.tree s.n 772,obK s)=(some (tabObj #[]),some (tabObj #[]),obL)):seeT w s=(true,openGood vq loose,some (tabObj #[]),some (tabObj #[]),obL):=by
 have p:=Prod.mk.inj p
 have t:=Prod.mk.inj t
 have t2:=Prod.mk.inj t.2
 unfold seeT
 rw [p.1,p.2,t.1,t2.1]
 exact congrArg (fun o=>(true,openGood vq loose,some (tabObj #[]),some (tabObj #[]),o)) t2.2
theorem ker:∀ (b:Bool) (w:World) (os:OsState),(runS (w.withFollow nmR b) os).map (seeT (w.withFollow nmR b))=some (true,openGood vq loose,some (tabObj #[]),some (tabObj #[]),obL):=by
 intro b w os
 cases b
 ·exact map2 (kLF w os) (kOF w os) fun _=>see_of
 ·exact map2 (kLT w os) (kOT w os) fun _=>see_of
end L1
end Mine

namespace Mine
namespace L1
open PySem PySem.W PySem.Calls PyProof.Rows
theorem chn:chainsOk vq=true:=by decide +kernel
theorem opw:opensWell pw=true:=by decide +kernel
theorem frw:(frees row.toRowW && row.within.isEmpty)=true:=by decide +kernel
theorem sd0:(namesResolve PySem.Challenge.rw_rg0087_02.row.prog)=true:=(congrFun Fast.te8377067652309620493 _).trans (by kernel_rfl)
theorem sd1:(noRoadLSs {strict:= !(importedModules PySem.Challenge.rw_rg0087_02.row.prog.main.body).all cThrough.contains,foot:=none,bare:=(["vars","dir","locals"]:List Str).filter (readsOut PySem.Challenge.rw_rg0087_02.row.prog PySem.Challenge.rw_rg0087_02.row.prog.main.body)} PySem.Challenge.rw_rg0087_02.row.prog.main.body)=true:=(congrFun (congrFun Fast.te8326940854005059898 _) _).trans (by kernel_rfl)
theorem said:PySem.Challenge.rw_rg0087_02.wellSaid=true:=by
 unfold OpenLaw.wellSaid OpenRow.wellSaid OpenRow.partSaid looksOpen
 repeat' (with_reducible refine look_both ?_ ?_)
 all_goals first|with_reducible exact sd0|with_reducible exact sd1|kernel_rfl
end L1
end Mine

namespace Mine
open PySem PySem.W PySem.Calls PyProof.Rows
namespace L1
theorem obs_cd {K:Frag} (e:obs K=obL):codeHdIn K 788 784=true/\codeHdIn K 776 772=true:=by
 have b:=congrArg MV.bs (show mvV K=mvL from congrArg OB.mv e)
 have b:=List.cons.inj b
 have b1:=List.cons.inj b.2
 have b2:=List.cons.inj b1.2
 have b3:=List.cons.inj b2.2
 have b4:=List.cons.inj b3.2
 have b5:=List.cons.inj b4.2
 have b6:=List.cons.inj b5.2
 exact ⟨b5.1,b6.1⟩
end L1
end Mine
open PySem PySem.W PyProof.Rows
open Mine.L1 in
theorem PySem.Challenge.cw_rg0087_02_holds : PySem.Challenge.rw_rg0087_02.Holds := by
  w_on
  refine holds_law said fun _ => ?_
  refine holds_open (q := vq) (loose := loose) (Xt := Xt) (XP := XL vq lv) (Yf := fun s => ∃ K, YB K s.heap) (Ya := fun _ => True) (YP := YP) (N := 6000) (left1 ker) (fun w s e => of_eq_true e) YP.keeps (fun s e => xl_of s (Bool.and_eq_true_iff.mp e).1) XL.keeps (by rfl) (by rfl) (by rfl) (fun s e => recFacts_of (Bool.and_eq_true_iff.mp e).2) (by rfl) (by first | assumption | decide +kernel) (look_both (look_both chn opw) frw) ⟨rfl, rfl, rfl, rfl, rfl, by decide +kernel⟩ ?hw ?hc
  case hw => w_witness2
  case hc =>
    intro w s₀ s₁ mg mb G Y fa o pm cd doc dV kV ho hd hcd hD hmg hg args vals as hpre hlay hrd hwl hlo
    obtain ⟨K, KX, KT, P1, P2, KO⟩ := Y
    have X := (Ground.X G).1
    have V := (Ground.X G).2
    refine Ground.open G ?_
    intro T B D TE TW
    try (refine guard_noD D (by decide +kernel) ?_; clear D)
    have hT9 : TabsAt [(788, 784), (776, 772)] s₁.heap :=
      List.forall_mem_cons.mpr ⟨⟨codeHd_of_K (c := 788) (P := 784) KX (obs_cd KO).1, P1⟩, List.forall_mem_cons.mpr ⟨⟨codeHd_of_K (c := 776) (P := 772) KX (obs_cd KO).2, P2⟩, fun _ h => nomatch h⟩⟩
    clear hmg
    wrow_args hpre hlay hrd hwl hlo
    all_goals (
      first | refine callC_kw (enter_call ?_) | refine enter_call ?_
      w_top on
      kn_posts
      w_call any ho hd hcd hD T F
      clear hd
      rename News _ _ _ _ => N
      have C' := ghost_code hT9
      have X' := ghost_K hT9 KX KT
      have T' := ghost_top hT9 T
      have K' := ghost_below hT9
      have N' := ghost_news hT9 F N
      have F' := ghost_fr hT9 F
      kn_lists hT9
      simp only [tabNews, List.map_cons, List.map_nil, List.nil_append, List.cons_append] at N'
      clear N F C'
      k_drop
      rename_i xsaid nn hs hlay0 hL0 hr0 hl2 w4 w3 sa vs w0 hL ra w1 r0 hI hr hlen hTrue h1 tk1 ob oa left right X00
      clear hD
      have left' : ob.data = Data.cell none := left.trans (by kernel_rfl)
      have right' : oa.data = Data.cell none := right.trans (by kernel_rfl)
      have F2 : PyProof.Rows.Fr (ghostOf s₁.heap [(788, 784), (776, 772)]) s₁.heap.objs.size h1 (fun y => if y = Str.ofString "script" then some (Value.ref sa) else none) := by
        refine Eq.mp (congrArg (PyProof.Rows.Fr (ghostOf s₁.heap [(788, 784), (776, 772)]) s₁.heap.objs.size h1) ?_) F'
        kernel_rfl
      clear F' left right X00
      refine Mine.split1 (P := PitAt Challenge.rw_rg0087_02.row.prog w (ghostOf s₁.heap [(788, 784), (776, 772)]) s₁.heap.objs.size sa (List.take 50 nn) s₁) ?_ ?_
      · clear KO X' KX KT X
        have X0 : Frag.In [] (ghostOf s₁.heap [(788, 784), (776, 772)]) := fun _ _ h => nomatch h
        repeat' (first | (k_unfold; (try dsimp only)) | (k_end; fail) | walk1 | (dsimp only; walk1))
        unfold PitAt
        refine ⟨_, _, _, _, _, _, _, _, _, ?_, ?_, by assumption, by assumption, by assumption, by assumption, by assumption, by assumption⟩
        · rfl
        · rfl
      · intro s' P₀
        refine Mine.conv_body (b' := Mine.S.decL nmS (b_law.drop 1)) (by kernel_rfl) ?_
        have sm : (ghostOf s₁.heap [(788, 784), (776, 772)]).get? sysModules ≠ none := by
          obtain ⟨mm, ⟨ob, es, ep, e, hd, _⟩, _⟩ := (T.seer (by decide +kernel)).mods
          rw [ghost_get hT9 e (fun q => by rw [q] at hd; cases hd)]
          simp
        have g1 : (ghostOf s₁.heap [(788, 784), (776, 772)]).get? 784 = none := hideAll_none _ (.head _)
        have g2 : (ghostOf s₁.heap [(788, 784), (776, 772)]).get? 772 = none := hideAll_none _ (.tail _ (.head _))
        refine law2_end (wd_all KO X' g1 T'.g T'.b T'.builtins T'.nolimit sm T'.bmain) g1 g2 (by rfl) (by kernel_rfl) (by rw [List.length_take]; omega) P₀ ?_
        intro s'' hk hgen hos g1 g2
        refine ⟨⟨.inl ⟨_, _, _, rfl, fun _ => rfl, .bool true, ?_, ?_⟩, hk, hos, hgen.trans hg⟩, g1, g2, trivial⟩
        · kc_post
        · exact unshared_nil)
