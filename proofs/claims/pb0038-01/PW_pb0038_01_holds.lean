import PyProof.Rows.All
import Wide.All
import OpenK.AllK
import Wide.FinOn
import Lean
import PySem.Challenge.RW_pb0038_01
open PySem.Str renaming ofString → S_
set_option Elab.async false
set_option maxRecDepth 100000
set_option maxHeartbeats 4000000
set_option linter.all false
set_option genInjectivity false
set_option bootstrap.genMatcherCode false
set_option compiler.extract_closed false
set_option genSizeOf false
set_option pp.deepTerms false
set_option pp.maxSteps 1000
namespace Mine
theorem hideG {P:Prop} (h:∀R:Prop,(P→R)→R):P:=h P id
@[elab_as_elim] theorem rwG {α:Sort u} {a:α} {M:α→Prop} {b:α} (h:a=b) (m:M b):M a:=h▸m
@[elab_as_elim] theorem rwL {α:Sort u} {a:α} {M:α→Prop} {b:α} (h:a=b) (m:M a):M b:=h▸m
theorem ex02 {R:Prop}  {P0 P1:Prop} (h:P0∧P1) (f:P0→P1→R):R:=by rcases h with ⟨h0,h1⟩;exact f h0 h1
theorem ex11 {R:Prop} {α0:Sort _} {P0:α0→Prop} (h:∃x0,P0 x0) (f:∀x0,P0 x0→R):R:=by rcases h with ⟨x0,h0⟩;exact f x0 h0
theorem ex03 {R:Prop}  {P0 P1 P2:Prop} (h:P0∧P1∧P2) (f:P0→P1→P2→R):R:=by rcases h with ⟨h0,h1,h2⟩;exact f h0 h1 h2
theorem ex12 {R:Prop} {α0:Sort _} {P0 P1:α0→Prop} (h:∃x0,P0 x0∧P1 x0) (f:∀x0,P0 x0→P1 x0→R):R:=by rcases h with ⟨x0,h0,h1⟩;exact f x0 h0 h1
theorem ex21 {R:Prop} {α0:Sort _} {α1:Sort _} {P0:α0→α1→Prop} (h:∃x0,∃x1,P0 x0 x1) (f:∀x0 x1,P0 x0 x1→R):R:=by rcases h with ⟨x0,x1,h0⟩;exact f x0 x1 h0
theorem ex04 {R:Prop}  {P0 P1 P2 P3:Prop} (h:P0∧P1∧P2∧P3) (f:P0→P1→P2→P3→R):R:=by rcases h with ⟨h0,h1,h2,h3⟩;exact f h0 h1 h2 h3
theorem ex13 {R:Prop} {α0:Sort _} {P0 P1 P2:α0→Prop} (h:∃x0,P0 x0∧P1 x0∧P2 x0) (f:∀x0,P0 x0→P1 x0→P2 x0→R):R:=by rcases h with ⟨x0,h0,h1,h2⟩;exact f x0 h0 h1 h2
theorem ex22 {R:Prop} {α0:Sort _} {α1:Sort _} {P0 P1:α0→α1→Prop} (h:∃x0,∃x1,P0 x0 x1∧P1 x0 x1) (f:∀x0 x1,P0 x0 x1→P1 x0 x1→R):R:=by rcases h with ⟨x0,x1,h0,h1⟩;exact f x0 x1 h0 h1
theorem ex31 {R:Prop} {α0:Sort _} {α1:Sort _} {α2:Sort _} {P0:α0→α1→α2→Prop} (h:∃x0,∃x1,∃x2,P0 x0 x1 x2) (f:∀x0 x1 x2,P0 x0 x1 x2→R):R:=by rcases h with ⟨x0,x1,x2,h0⟩;exact f x0 x1 x2 h0
theorem ex05 {R:Prop}  {P0 P1 P2 P3 P4:Prop} (h:P0∧P1∧P2∧P3∧P4) (f:P0→P1→P2→P3→P4→R):R:=by rcases h with ⟨h0,h1,h2,h3,h4⟩;exact f h0 h1 h2 h3 h4
theorem ex14 {R:Prop} {α0:Sort _} {P0 P1 P2 P3:α0→Prop} (h:∃x0,P0 x0∧P1 x0∧P2 x0∧P3 x0) (f:∀x0,P0 x0→P1 x0→P2 x0→P3 x0→R):R:=by rcases h with ⟨x0,h0,h1,h2,h3⟩;exact f x0 h0 h1 h2 h3
theorem ex23 {R:Prop} {α0:Sort _} {α1:Sort _} {P0 P1 P2:α0→α1→Prop} (h:∃x0,∃x1,P0 x0 x1∧P1 x0 x1∧P2 x0 x1) (f:∀x0 x1,P0 x0 x1→P1 x0 x1→P2 x0 x1→R):R:=by rcases h with ⟨x0,x1,h0,h1,h2⟩;exact f x0 x1 h0 h1 h2
theorem ex32 {R:Prop} {α0:Sort _} {α1:Sort _} {α2:Sort _} {P0 P1:α0→α1→α2→Prop} (h:∃x0,∃x1,∃x2,P0 x0 x1 x2∧P1 x0 x1 x2) (f:∀x0 x1 x2,P0 x0 x1 x2→P1 x0 x1 x2→R):R:=by rcases h with ⟨x0,x1,x2,h0,h1⟩;exact f x0 x1 x2 h0 h1
theorem ex41 {R:Prop} {α0:Sort _} {α1:Sort _} {α2:Sort _} {α3:Sort _} {P0:α0→α1→α2→α3→Prop} (h:∃x0,∃x1,∃x2,∃x3,P0 x0 x1 x2 x3) (f:∀x0 x1 x2 x3,P0 x0 x1 x2 x3→R):R:=by rcases h with ⟨x0,x1,x2,x3,h0⟩;exact f x0 x1 x2 x3 h0
theorem ex06 {R:Prop}  {P0 P1 P2 P3 P4 P5:Prop} (h:P0∧P1∧P2∧P3∧P4∧P5) (f:P0→P1→P2→P3→P4→P5→R):R:=by rcases h with ⟨h0,h1,h2,h3,h4,h5⟩;exact f h0 h1 h2 h3 h4 h5
theorem ex15 {R:Prop} {α0:Sort _} {P0 P1 P2 P3 P4:α0→Prop} (h:∃x0,P0 x0∧P1 x0∧P2 x0∧P3 x0∧P4 x0) (f:∀x0,P0 x0→P1 x0→P2 x0→P3 x0→P4 x0→R):R:=by rcases h with ⟨x0,h0,h1,h2,h3,h4⟩;exact f x0 h0 h1 h2 h3 h4
theorem ex24 {R:Prop} {α0:Sort _} {α1:Sort _} {P0 P1 P2 P3:α0→α1→Prop} (h:∃x0,∃x1,P0 x0 x1∧P1 x0 x1∧P2 x0 x1∧P3 x0 x1) (f:∀x0 x1,P0 x0 x1→P1 x0 x1→P2 x0 x1→P3 x0 x1→R):R:=by rcases h with ⟨x0,x1,h0,h1,h2,h3⟩;exact f x0 x1 h0 h1 h2 h3
theorem ex33 {R:Prop} {α0:Sort _} {α1:Sort _} {α2:Sort _} {P0 P1 P2:α0→α1→α2→Prop} (h:∃x0,∃x1,∃x2,P0 x0 x1 x2∧P1 x0 x1 x2∧P2 x0 x1 x2) (f:∀x0 x1 x2,P0 x0 x1 x2→P1 x0 x1 x2→P2 x0 x1 x2→R):R:=by rcases h with ⟨x0,x1,x2,h0,h1,h2⟩;exact f x0 x1 x2 h0 h1 h2
theorem ex42 {R:Prop} {α0:Sort _} {α1:Sort _} {α2:Sort _} {α3:Sort _} {P0 P1:α0→α1→α2→α3→Prop} (h:∃x0,∃x1,∃x2,∃x3,P0 x0 x1 x2 x3∧P1 x0 x1 x2 x3) (f:∀x0 x1 x2 x3,P0 x0 x1 x2 x3→P1 x0 x1 x2 x3→R):R:=by rcases h with ⟨x0,x1,x2,x3,h0,h1⟩;exact f x0 x1 x2 x3 h0 h1
theorem ex51 {R:Prop} {α0:Sort _} {α1:Sort _} {α2:Sort _} {α3:Sort _} {α4:Sort _} {P0:α0→α1→α2→α3→α4→Prop} (h:∃x0,∃x1,∃x2,∃x3,∃x4,P0 x0 x1 x2 x3 x4) (f:∀x0 x1 x2 x3 x4,P0 x0 x1 x2 x3 x4→R):R:=by rcases h with ⟨x0,x1,x2,x3,x4,h0⟩;exact f x0 x1 x2 x3 x4 h0
theorem ex07 {R:Prop}  {P0 P1 P2 P3 P4 P5 P6:Prop} (h:P0∧P1∧P2∧P3∧P4∧P5∧P6) (f:P0→P1→P2→P3→P4→P5→P6→R):R:=by rcases h with ⟨h0,h1,h2,h3,h4,h5,h6⟩;exact f h0 h1 h2 h3 h4 h5 h6
theorem ex16 {R:Prop} {α0:Sort _} {P0 P1 P2 P3 P4 P5:α0→Prop} (h:∃x0,P0 x0∧P1 x0∧P2 x0∧P3 x0∧P4 x0∧P5 x0) (f:∀x0,P0 x0→P1 x0→P2 x0→P3 x0→P4 x0→P5 x0→R):R:=by rcases h with ⟨x0,h0,h1,h2,h3,h4,h5⟩;exact f x0 h0 h1 h2 h3 h4 h5
theorem ex25 {R:Prop} {α0:Sort _} {α1:Sort _} {P0 P1 P2 P3 P4:α0→α1→Prop} (h:∃x0,∃x1,P0 x0 x1∧P1 x0 x1∧P2 x0 x1∧P3 x0 x1∧P4 x0 x1) (f:∀x0 x1,P0 x0 x1→P1 x0 x1→P2 x0 x1→P3 x0 x1→P4 x0 x1→R):R:=by rcases h with ⟨x0,x1,h0,h1,h2,h3,h4⟩;exact f x0 x1 h0 h1 h2 h3 h4
theorem ex34 {R:Prop} {α0:Sort _} {α1:Sort _} {α2:Sort _} {P0 P1 P2 P3:α0→α1→α2→Prop} (h:∃x0,∃x1,∃x2,P0 x0 x1 x2∧P1 x0 x1 x2∧P2 x0 x1 x2∧P3 x0 x1 x2) (f:∀x0 x1 x2,P0 x0 x1 x2→P1 x0 x1 x2→P2 x0 x1 x2→P3 x0 x1 x2→R):R:=by rcases h with ⟨x0,x1,x2,h0,h1,h2,h3⟩;exact f x0 x1 x2 h0 h1 h2 h3
theorem ex43 {R:Prop} {α0:Sort _} {α1:Sort _} {α2:Sort _} {α3:Sort _} {P0 P1 P2:α0→α1→α2→α3→Prop} (h:∃x0,∃x1,∃x2,∃x3,P0 x0 x1 x2 x3∧P1 x0 x1 x2 x3∧P2 x0 x1 x2 x3) (f:∀x0 x1 x2 x3,P0 x0 x1 x2 x3→P1 x0 x1 x2 x3→P2 x0 x1 x2 x3→R):R:=by rcases h with ⟨x0,x1,x2,x3,h0,h1,h2⟩;exact f x0 x1 x2 x3 h0 h1 h2
theorem ex52 {R:Prop} {α0:Sort _} {α1:Sort _} {α2:Sort _} {α3:Sort _} {α4:Sort _} {P0 P1:α0→α1→α2→α3→α4→Prop} (h:∃x0,∃x1,∃x2,∃x3,∃x4,P0 x0 x1 x2 x3 x4∧P1 x0 x1 x2 x3 x4) (f:∀x0 x1 x2 x3 x4,P0 x0 x1 x2 x3 x4→P1 x0 x1 x2 x3 x4→R):R:=by rcases h with ⟨x0,x1,x2,x3,x4,h0,h1⟩;exact f x0 x1 x2 x3 x4 h0 h1
theorem ex08 {R:Prop}  {P0 P1 P2 P3 P4 P5 P6 P7:Prop} (h:P0∧P1∧P2∧P3∧P4∧P5∧P6∧P7) (f:P0→P1→P2→P3→P4→P5→P6→P7→R):R:=by rcases h with ⟨h0,h1,h2,h3,h4,h5,h6,h7⟩;exact f h0 h1 h2 h3 h4 h5 h6 h7
theorem ex17 {R:Prop} {α0:Sort _} {P0 P1 P2 P3 P4 P5 P6:α0→Prop} (h:∃x0,P0 x0∧P1 x0∧P2 x0∧P3 x0∧P4 x0∧P5 x0∧P6 x0) (f:∀x0,P0 x0→P1 x0→P2 x0→P3 x0→P4 x0→P5 x0→P6 x0→R):R:=by rcases h with ⟨x0,h0,h1,h2,h3,h4,h5,h6⟩;exact f x0 h0 h1 h2 h3 h4 h5 h6
theorem ex26 {R:Prop} {α0:Sort _} {α1:Sort _} {P0 P1 P2 P3 P4 P5:α0→α1→Prop} (h:∃x0,∃x1,P0 x0 x1∧P1 x0 x1∧P2 x0 x1∧P3 x0 x1∧P4 x0 x1∧P5 x0 x1) (f:∀x0 x1,P0 x0 x1→P1 x0 x1→P2 x0 x1→P3 x0 x1→P4 x0 x1→P5 x0 x1→R):R:=by rcases h with ⟨x0,x1,h0,h1,h2,h3,h4,h5⟩;exact f x0 x1 h0 h1 h2 h3 h4 h5
theorem ex35 {R:Prop} {α0:Sort _} {α1:Sort _} {α2:Sort _} {P0 P1 P2 P3 P4:α0→α1→α2→Prop} (h:∃x0,∃x1,∃x2,P0 x0 x1 x2∧P1 x0 x1 x2∧P2 x0 x1 x2∧P3 x0 x1 x2∧P4 x0 x1 x2) (f:∀x0 x1 x2,P0 x0 x1 x2→P1 x0 x1 x2→P2 x0 x1 x2→P3 x0 x1 x2→P4 x0 x1 x2→R):R:=by rcases h with ⟨x0,x1,x2,h0,h1,h2,h3,h4⟩;exact f x0 x1 x2 h0 h1 h2 h3 h4
theorem ex44 {R:Prop} {α0:Sort _} {α1:Sort _} {α2:Sort _} {α3:Sort _} {P0 P1 P2 P3:α0→α1→α2→α3→Prop} (h:∃x0,∃x1,∃x2,∃x3,P0 x0 x1 x2 x3∧P1 x0 x1 x2 x3∧P2 x0 x1 x2 x3∧P3 x0 x1 x2 x3) (f:∀x0 x1 x2 x3,P0 x0 x1 x2 x3→P1 x0 x1 x2 x3→P2 x0 x1 x2 x3→P3 x0 x1 x2 x3→R):R:=by rcases h with ⟨x0,x1,x2,x3,h0,h1,h2,h3⟩;exact f x0 x1 x2 x3 h0 h1 h2 h3
theorem ex53 {R:Prop} {α0:Sort _} {α1:Sort _} {α2:Sort _} {α3:Sort _} {α4:Sort _} {P0 P1 P2:α0→α1→α2→α3→α4→Prop} (h:∃x0,∃x1,∃x2,∃x3,∃x4,P0 x0 x1 x2 x3 x4∧P1 x0 x1 x2 x3 x4∧P2 x0 x1 x2 x3 x4) (f:∀x0 x1 x2 x3 x4,P0 x0 x1 x2 x3 x4→P1 x0 x1 x2 x3 x4→P2 x0 x1 x2 x3 x4→R):R:=by rcases h with ⟨x0,x1,x2,x3,x4,h0,h1,h2⟩;exact f x0 x1 x2 x3 x4 h0 h1 h2
theorem lw {n a b:Nat} (h:n < a) (e:Nat.ble a b=true:=by rfl):n < b:=Nat.lt_of_lt_of_le h (Nat.le_of_ble_eq_true e)
theorem lw' {n a b:Nat} (h:n≤a) (e:Nat.ble a b=true:=by rfl):n≤b:=Nat.le_trans h (Nat.le_of_ble_eq_true e)
theorem lx {n x a b:Nat} (h:n + x < a) (e:Nat.ble a b=true:=by rfl):n < b:=lw (Nat.lt_of_le_of_lt (Nat.le_add_right n x) h) e
theorem lx' {n x a b:Nat} (h:n + x≤a) (e:Nat.ble a b=true:=by rfl):n≤b:=lw' (Nat.le_trans (Nat.le_add_right n x) h) e
theorem ly {n x a b:Nat} (h:n + x < a) (e:Nat.ble a b=true:=by rfl):x < b:=lw (Nat.lt_of_le_of_lt (Nat.le_add_left x n) h) e
theorem ly' {n x a b:Nat} (h:n + x≤a) (e:Nat.ble a b=true:=by rfl):x≤b:=lw' (Nat.le_trans (Nat.le_add_left x n) h) e
theorem lin1 {a b c d:Nat} (h:a≤b) (e:c + b≤d + a):c≤d:=by lia
theorem lin2 {a b a' b' c d:Nat} (h:a≤b) (h':a'≤b') (e:c + (b + b')≤d + (a + a')):c≤d:=by lia
theorem lin3 {a b a' b' a'' b'' c d:Nat} (h:a≤b) (h':a'≤b') (h'':a''≤b'') (e:c + (b + b' + b'')≤d + (a + a' + a'')):c≤d:=by lia
end Mine
section
open PySem PySem.W PySem.Calls PyProof.Rows
namespace Mine
set_option backward.match.sparseCases false
noncomputable def pw:Program:=PySem.Challenge.pw_pb0038_01
noncomputable def stAt (i j:Nat):Stmt:=
 match j with
 | 0=>(pw.main.body[i]?).getD (.Pass default)
 | j + 1=>match (pw.main.body[i]?).getD (.Pass default) with
  | .ClassDef _ _ _ body ..=>(body[j]?).getD (.Pass default)
  | _=>.Pass default
noncomputable def sParams:Stmt→Arguments
 | .FunctionDef _ a ..=>a
 | _=>⟨[],[],none,[],[],none,[]⟩
noncomputable def sBody:Stmt→List Stmt
 | .FunctionDef _ _ b ..=>b
 | _=>[]
noncomputable def sScope:Stmt→Scope
 | .FunctionDef _ _ _ _ _ _ s ..=>s
 | _=>⟨.module,[],false,false,[]⟩
inductive D where
 | none | bool (b:Bool) | int (i:Int) | str (s:Str) | typ (n:String)
 | ref (a:Addr)
 | fn (i j:Nat) | cls (i:Nat)
 | rng (n:Int)
 | slc (lo hi st:Option Int)
 | clo (body:Expr) (sc:Scope) (cells:List (Str×Addr))
 | tup (ds:List D) | lst (ds:List D) | dct (es:List (Str×D)) | ins (c:Nat) (fs:List (Str×D))
inductive AObj where
 | list (ds:List D) | dict (es:List (Str×D)) | inst (c:Nat) (dx:Addr) | cell (d:Option D) | tab (ps:Array Value) | exc (i:Nat) (dx:Option Addr)
noncomputable abbrev Fz:=Addr→Option Obj
noncomputable abbrev Sto:=Addr→Option AObj
noncomputable abbrev Loc:=List (Str×D)
noncomputable def Fz.le (φ φ':Fz):Prop:=∀a o,φ a=some o→φ' a=some o
noncomputable def Fz.set (φ:Fz) (a:Addr) (o:Obj):Fz:=fun b=>if b=a then some o else φ b
noncomputable def Sto.set (σ:Sto) (a:Addr) (x:AObj):Sto:=fun b=>if b=a then some x else σ b
noncomputable def Sto.del (σ:Sto) (a:Addr):Sto:=fun b=>if b=a then Option.none else σ b
theorem Fz.le_refl (φ:Fz):φ.le φ:=fun _ _ e=>e
theorem Fz.le.trans {φ φ' φ'':Fz} (x:φ.le φ') (y:φ'.le φ''):φ.le φ'':=fun a o e=>y a o (x a o e)
theorem Fz.le_set {φ:Fz} {a:Addr} {o:Obj} (h:φ a=none):φ.le (φ.set a o):=fun b ob e=>by
 unfold Fz.set
 split
 ·rename_i q;rw [q,h] at e;cases e
 ·exact e
inductive IsFn (φ:Fz) (a:Addr) (st:Stmt):Prop
 | mk (o:Obj) (fd:FuncData) (c:Addr) (oc:Obj) (vs:Array Value) (t:Tok):φ a=some o→o.cls=.type "function"→o.data=.func fd→fd.params=sParams st→fd.body=.stmts (sBody st)→fd.scope=sScope st→fd.closure=[]→fd.defaults=.none→fd.kwdefaults=.none→fd.globals=mainGlobals→fd.builtins=builtinsNs→fd.code=.ref c→φ c=some oc→oc.data=.fields vs→vs[1]?=some (.str fd.qualname t)→IsFn φ a st
inductive IsClo (φ:Fz) (a:Addr) (body:Expr) (sc:Scope) (cells:List (Str×Addr)):Prop
 | mk (o:Obj) (fd:FuncData) (c:Addr) (oc:Obj) (vs:Array Value) (t:Tok):φ a=some o→o.cls=.type "function"→o.data=.func fd→fd.params=⟨[],[],none,[],[],none,[]⟩→fd.body=.expr body→fd.scope=sc→fd.closure=cells→fd.defaults=.none→fd.kwdefaults=.none→fd.globals=mainGlobals→fd.builtins=builtinsNs→fd.code=.ref c→φ c=some oc→oc.data=.fields vs→vs[1]?=some (.str fd.qualname t)→IsClo φ a body sc cells
noncomputable def defTab:List (Str×Nat):=[(S_ "shape_of",9),(S_ "effect_of",10),(S_ "jumps_of",11),(S_ "with_jumps",12),(S_ "lay",17),(S_ "new_mark",18),(S_ "put_mark",19),(S_ "placed_rows",20),
 (S_ "value_code",21),(S_ "place_code",22),(S_ "target_code",23),(S_ "statement_code",24),(S_ "statements_code",25),(S_ "declarations_code",26),(S_ "blocks_left",27),(S_ "handled_code",28),
 (S_ "actuals_code",30),(S_ "copies_code",31),(S_ "gen_call",32),(S_ "gen_dispatch",33),(S_ "gen_protcall",34),(S_ "stmt_pcall",35),(S_ "stmt_pdispatch",36),(S_ "call_gens",37),(S_ "call_statement_gens",38),(S_ "whole_code",39),
 (S_ "decl_var",42),(S_ "decl_subtype",43),(S_ "decl_type",44),(S_ "decl_nothing",45),(S_ "decl_rename",46),(S_ "kept_code",47),(S_ "decl_sub",48),(S_ "decl_task",49),(S_ "decl_protected",50),(S_ "decl_package",51),
 (S_ "declaration_gens",52),(S_ "program_code",53),
 (S_ "gen_lit",58),(S_ "gen_null",59),(S_ "gen_obj",60),(S_ "gen_disc",61),(S_ "gen_comp",62),(S_ "gen_index",63),(S_ "gen_slice",64),(S_ "gen_deref",65),(S_ "name_gens",66),
 (S_ "place_obj",67),(S_ "place_comp",68),(S_ "place_index",69),(S_ "place_slice",70),(S_ "place_deref",71),(S_ "place_within",72),(S_ "place_gens",73),
 (S_ "stmt_null",75),(S_ "stmt_assign",76),(S_ "stmt_if",77),(S_ "stmt_case",78),(S_ "stmt_loop",79),(S_ "stmt_exit",81),(S_ "stmt_block",82),(S_ "stmt_raise",83),(S_ "leave_code",84),(S_ "stmt_return",85),(S_ "plain_gens",86),
 (S_ "_law_digit",88),(S_ "_law_value",89),(S_ "_law_goal",90),(S_ "_law_args",91),(S_ "_law_stmts",92),(S_ "_law_decls",93),(S_ "_law_sub",94),(S_ "_law_tell",95),(S_ "_law_found",96),(S_ "_law_made",97),
 (S_ "_law_call_row",98),(S_ "_law_row",99),(S_ "_law_played",100),(S_ "_law_says",101),(S_ "_law_where",102),(S_ "_law_actuals",103),(S_ "_law_go",104),(S_ "_law_declare",105),(S_ "_law_enter",106),(S_ "_law_program",107),(S_ "_law_how",108)]
noncomputable def clsTab:List (Str×Nat):=[(S_ "Code",8),(S_ "Gen",15),(S_ "Sub",55)]
noncomputable def excTab:List (Str×Nat):=[(S_ "AdaError",1),(S_ "AdaRaise",2),(S_ "EndRun",4)]
noncomputable def attrTab:List (Nat×Str):=[(8,S_ "rows"),(8,S_ "source"),(8,S_ "codes"),(8,S_ "barrier"),(8,S_ "operations"),
 (15,S_ "tables"),(15,S_ "rows"),(15,S_ "marks"),(15,S_ "height"),(15,S_ "blocks"),(15,S_ "loops"),(15,S_ "accepts"),(15,S_ "ended"),(15,S_ "codes"),
 (55,S_ "name"),(55,S_ "params"),(55,S_ "result"),(55,S_ "decls"),(55,S_ "stmts"),(55,S_ "handlers"),(55,S_ "ups"),(55,S_ "operation"),(55,S_ "control")]
noncomputable def bltTab:List (Str×Value):=[(S_ "len",.builtin "len"),(S_ "range",.type "range"),(S_ "str",.type "str"),(S_ "list",.type "list"),(S_ "tuple",.type "tuple"),(S_ "Exception",.type "Exception")]
noncomputable def excAttrTab:List (Nat×Str):=[(2,S_ "text"),(2,S_ "name"),(2,S_ "word"),(2,S_ "line"),(4,S_ "text"),(4,S_ "how")]
noncomputable def isRef:Value→Bool
 | .ref _=>true
 | _=>false
noncomputable def onlyExc:List Value→Bool
 | []=>false
 | v::r=>bif isRef v then onlyExc r else v::r==[.type "Exception",.type "BaseException",.type "object"]
noncomputable def excOver (K:Frag) (C:Addr):Bool:=(clsIn K C).any fun cd=>onlyExc cd.mro
inductive ExcCls (h:Heap) (C f other:Addr):Prop
 | mk (nm q:Str) (N:Addr) (bs bm:List Value) (hdct:Bool) (sn:List Str) (sub:List Value) (ab:Bool) (col:Option Bool) (dd:Option Addr) (k0 k1 k2 k3 k5:Option Value) (mN:Str→Option Value):
  h.get? C=some (excClassObj nm q C N bs bm hdct sn sub ab col dd k0 k1 k2 k3 k5 "Exception.__new__")→h.Ns N mN→mN "__init__"=some (.ref f)→bm.contains (.type "Exception")=true→
  bm.contains (.type "BaseException")=true→bm.contains (.type "AttributeError")=false→bm.contains (.type "NameError")=false→bm.contains (.ref other)=false→C≠other→ExcCls h C f other
structure Glob where
 w:World
 h₀:Heap
 K:Frag
 mg:Str→Option Value
 mb:Str→Option Value
 fa:Nat→Nat→Addr
 cad:Nat→Addr
 os:OsState
 X:K.In h₀
 nsG:h₀.Ns mainGlobals mg
 nsB:h₀.Ns builtinsNs mb
 nolimit:h₀.NoLimit
 low:(h₀.get? sysModules).isSome=true
 defs:∀p∈defTab,mg p.1=some (.ref (fa p.2 0))∧IsFn h₀.get? (fa p.2 0) (stAt p.2 0)
 clss:∀p∈clsTab,mg p.1=some (.ref (cad p.2))∧IsFn h₀.get? (fa p.2 1) (stAt p.2 1)∧makesIn K (cad p.2)=true∧keepIn K (.ref (cad p.2))=true∧
  findIn K (.ref (cad p.2)) "__init__"=some (some (.ref (fa p.2 1)))∧isFn K (.ref (fa p.2 1))=true∧
  findIn K (.ref (cad p.2)) "__setattr__"=some (some (.builtin "object.__setattr__"))∧plainOver K (cad p.2)=true
 excs:∀p∈excTab,mg p.1=some (.ref (cad p.2))∧IsFn h₀.get? (fa p.2 1) (stAt p.2 1)
 excKeep:∀p∈excTab,keepIn K (.ref (cad p.2))=true
 excCls:∀i j,(i=2∧j=4∨i=4∧j=2)→ExcCls h₀ (cad i) (fa i 1) (cad j)∧findIn K (.ref (cad i)) "__setattr__"=some (some (.builtin "object.__setattr__"))∧excOver K (cad i)=true∧hasDictIn K (cad i)=true
 excAttr:∀p∈excAttrTab,takerIn K (cad p.1) p.2=some none
 exm:exmOne K (.ref (cad 2)) (.ref (cad 2))=some true∧exmOne K (.ref (cad 4)) (.ref (cad 2))=some false∧exmOne K (.ref (cad 4)) (.ref (cad 4))=some true
 word:(findIn K (.ref (cad 2)) "__getattribute__"=some (some (.builtin "BaseException.__getattribute__"))∧findIn K (.ref (cad 2)) "__getattr__"=some none∧subIn K (.ref (cad 2)) (.type "BaseException")=some true)∧findIn K (.ref (cad 2)) "word"=some none∧hasDictIn K (cad 2)=true
 adaInit:specialIn K (.ref (cad 1)) "__getattribute__"=some (some (.builtin "type.__getattribute__"))∧readsIn K (cad 1) (.type "type")=true∧findCls K (.ref (cad 1)) (.type "type") "__init__"=some (.val (.ref (fa 1 1)))
 exInit:findCls K (.type "Exception") (.type "type") "__init__"=some (.val (.builtin "Exception.__init__"))
 attrs:∀p∈attrTab,plainGet K (cad p.1) p.2=true∧hasDictIn K (cad p.1)=true∧findIn K (.ref (cad p.1)) p.2=some none∧takerIn K (cad p.1) p.2=some none
 blts:∀p∈bltTab,mg p.1=none∧mb p.1=some p.2
variable (G:Glob)
mutual
inductive VR (φ:Fz):Value→D→Prop
 | none:VR φ .none .none
 | bool (b:Bool):VR φ (.bool b) (.bool b)
 | int (i:Int) (t:Tok):VR φ (.int i t) (.int i)
 | str (s:Str) (t:Tok):VR φ (.str s t) (.str s)
 | typ (n:String):VR φ (.type n) (.typ n)
 | ref (a:Addr):VR φ (.ref a) (.ref a)
 | fn (i j:Nat):IsFn φ (G.fa i j) (stAt i j)→VR φ (.ref (G.fa i j)) (.fn i j)
 | cls (i:Nat):VR φ (.ref (G.cad i)) (.cls i)
 | rng {a:Addr} {n:Int} {t u v:Tok}:φ a=some { cls:=.type "range",dict:=Option.none,data:=.fields #[.int 0 t,.int n u,.int 1 v],slots:=#[] }→VR φ (.ref a) (.rng n)
 | slc {a:Addr} {vl vu vs:Value} {lo hi st:Option Int}:φ a=some { cls:=.type "slice",data:=.fields #[vl,vu,vs] }→IsPart vl lo→IsPart vu hi→IsPart vs st→VR φ (.ref a) (.slc lo hi st)
 | clo {a:Addr} {body:Expr} {sc:Scope} {cells:List (Str×Addr)}:IsClo φ a body sc cells→VR φ (.ref a) (.clo body sc cells)
 | tup {a:Addr} {o:Obj} {vs:List Value} {n:Nat} {ds:List D}:φ a=some o→o.cls=.type "tuple"→o.data=.seq vs.toArray n→VRs φ vs ds→VR φ (.ref a) (.tup ds)
 | lst {a:Addr} {o:Obj} {vs:List Value} {n:Nat} {ds:List D}:φ a=some o→o.cls=.type "list"→o.data=.seq vs.toArray n→VRs φ vs ds→VR φ (.ref a) (.lst ds)
 | dct {a:Addr} {o:Obj} {l:List DictEntry} {n:Nat} {es:List (Str×D)}:φ a=some o→o.ExactDict→o.data=.dict l.toArray n→VRe φ l es→(es.map (·.1)).Nodup→(a==sysModules)=false→VR φ (.ref a) (.dct es)
 | ins {a dx:Addr} {o:Obj} {l:List DictEntry} {n c:Nat} {fs:List (Str×D)}:φ a=some { cls:=.ref (G.cad c),dict:=some dx,data:=.plain }→φ dx=some o→o.ExactDict→o.data=.dict l.toArray n→
   VRe φ l fs→(fs.map (·.1)).Nodup→VR φ (.ref a) (.ins c fs)
inductive VRs (φ:Fz):List Value→List D→Prop
 | nil:VRs φ [] []
 | cons {v:Value} {d:D} {vs:List Value} {ds:List D}:VR φ v d→VRs φ vs ds→VRs φ (v::vs) (d::ds)
inductive VRe (φ:Fz):List DictEntry→List (Str×D)→Prop
 | nil:VRe φ [] []
 | cons {h:Int} {x:Str} {t:Tok} {v:Value} {d:D} {l:List DictEntry} {es:List (Str×D)}:h=hashStr G.w x→VR φ v d→VRe φ l es→VRe φ (⟨h,.str x t,v⟩::l) ((x,d)::es)
end
variable {G}
theorem IsFn.mono {φ φ':Fz} (k:φ.le φ') {a:Addr} {st:Stmt} (h:IsFn φ a st):IsFn φ' a st:=by
 obtain ⟨o,fd,c,oc,vs,t,h1,h2,h3,h4,h5,h6,h7,h8,h9,h10,h11,h12,h13,h14,h15⟩:=h
 exact ⟨o,fd,c,oc,vs,t,k _ _ h1,h2,h3,h4,h5,h6,h7,h8,h9,h10,h11,h12,k _ _ h13,h14,h15⟩
theorem IsClo.mono {φ φ':Fz} (k:φ.le φ') {a:Addr} {b sc cl} (h:IsClo φ a b sc cl):IsClo φ' a b sc cl:=by
 obtain ⟨o,fd,c,oc,vs,t,h1,h2,h3,h4,h5,h6,h7,h8,h9,h10,h11,h12,h13,h14,h15⟩:=h
 exact ⟨o,fd,c,oc,vs,t,k _ _ h1,h2,h3,h4,h5,h6,h7,h8,h9,h10,h11,h12,k _ _ h13,h14,h15⟩
theorem VR.all {φ φ':Fz} (k:φ.le φ'):(∀{v:Value} {d:D},VR G φ v d→VR G φ' v d)∧(∀{vs:List Value} {ds:List D},VRs G φ vs ds→VRs G φ' vs ds)∧∀{l:List DictEntry} {es:List (Str×D)},VRe G φ l es→VRe G φ' l es:=by
 have a1:=fun {v:Value} {d:D}=>@VR.rec G φ (fun v d _=>VR G φ' v d) (fun vs ds _=>VRs G φ' vs ds) (fun l es _=>VRe G φ' l es) .none .bool .int .str .typ .ref (fun i j h=>.fn i j (h.mono k)) .cls (fun h=>.rng (k _ _ h)) (fun h a b c=>.slc (k _ _ h) a b c) (fun h=>.clo (h.mono k))
  (fun h1 h2 h3 _ x=>.tup (k _ _ h1) h2 h3 x) (fun h1 h2 h3 _ x=>.lst (k _ _ h1) h2 h3 x) (fun h1 h2 h3 _ h5 h6 x=>.dct (k _ _ h1) h2 h3 x h5 h6) (fun h1 h2 h3 h4 _ h6 x=>.ins (k _ _ h1) (k _ _ h2) h3 h4 x h6) .nil (fun _ _ a b=>.cons a b) .nil (fun e _ _ a b=>.cons e a b) v d
 have a2:∀{vs:List Value} {ds:List D},VRs G φ vs ds→VRs G φ' vs ds:=by
  intro vs
  induction vs with
  | nil=>intro ds h;cases h;exact .nil
  | cons v vs ih=>intro ds h;cases h with | cons a b=>exact .cons (a1 a) (ih b)
 refine ⟨a1,a2,?_⟩
 intro l
 induction l with
 | nil=>intro ds h;cases h;exact .nil
 | cons v vs ih=>intro ds h;cases h with | cons e a b=>exact .cons e (a1 a) (ih b)
theorem VR.mono {φ φ':Fz} (k:φ.le φ') {v:Value} {d:D} (h:VR G φ v d):VR G φ' v d:=(VR.all k).1 h
theorem VRs.mono {φ φ':Fz} (k:φ.le φ') {vs:List Value} {ds:List D} (h:VRs G φ vs ds):VRs G φ' vs ds:=(VR.all k).2.1 h
theorem VRe.mono {φ φ':Fz} (k:φ.le φ') {l:List DictEntry} {es:List (Str×D)} (h:VRe G φ l es):VRe G φ' l es:=(VR.all k).2.2 h
variable (G)
inductive OR (φ:Fz):AObj→Obj→Prop
 | list {vs:List Value} {ds:List D} {n:Nat}:VRs G φ vs ds→OR φ (.list ds) { cls:=.type "list",data:=.seq vs.toArray n }
 | dict {o:Obj} {l:List DictEntry} {n:Nat} {es:List (Str×D)}:o.ExactDict→o.data=.dict l.toArray n→VRe G φ l es→(es.map (·.1)).Nodup→OR φ (.dict es) o
 | inst {c:Nat} {dx:Addr}:OR φ (.inst c dx) { cls:=.ref (G.cad c),dict:=some dx,data:=.plain }
 | cellN {o:Obj}:o.data=.cell none→OR φ (.cell none) o
 | cellS {o:Obj} {v:Value} {d:D}:o.data=.cell (some v)→VR G φ v d→OR φ (.cell (some d)) o
 | tab {ps:Array Value}:OR φ (.tab ps) { cls:=.none,data:=.fields ps }
 | exc {i:Nat} {dx:Option Addr} {vs:Array Value}:vs[1]?=some .none→vs.size=6→OR φ (.exc i dx) { cls:=.ref (G.cad i),dict:=dx,data:=.fields vs }
variable {G}
theorem OR.mono {φ φ':Fz} (k:φ.le φ') {x:AObj} {o:Obj}:OR G φ x o→OR G φ' x o
 | .list h=>.list (h.mono k)
 | .dict h1 h2 h3 h4=>.dict h1 h2 (h3.mono k) h4
 | .inst=>.inst
 | .cellN h=>.cellN h
 | .cellS h1 h2=>.cellS h1 (h2.mono k)
 | .tab=>.tab
 | .exc a b=>.exc a b
inductive Exn where
 | ada | fin
noncomputable def Exn.idx:Exn→Nat
 | .ada=>2
 | .fin=>4
noncomputable abbrev Objs:=List (Addr×Obj)
noncomputable def Objs.free (l:Objs) (a:Addr):Prop:=∀p∈l,p.1≠a
variable (G)
inductive StoI (φ:Fz) (h:Heap) (a:Addr) (x:AObj):Prop
 | mk:φ a=none→(o:Obj)→h.get? a=some o→OR G φ x o→StoI φ h a x
inductive Stored (φ:Fz) (h:Heap) (a:Addr) (x:AObj):Prop
 | mk (o:Obj):h.get? a=some o→OR G φ x o→Stored φ h a x
variable {G} in
theorem StoI.f {φ:Fz} {h:Heap} {a:Addr} {x:AObj} (k:StoI G φ h a x):φ a=none:=by cases k with | mk f=>exact f
variable {G} in
theorem StoI.st {φ:Fz} {h:Heap} {a:Addr} {x:AObj} (k:StoI G φ h a x):Stored G φ h a x:=by cases k with | mk f o e r=>exact ⟨o,e,r⟩
structure RealC (kept held:Objs) (φ:Fz) (σ:Sto) (s:Shared):Prop where
 base:∀a o,G.h₀.get? a=some o→φ a=some o
 frz:∀a o,φ a=some o→s.heap.get? a=some o
 sto:∀a x,σ a=some x→StoI G φ s.heap a x
 waits:∀p∈kept,φ p.1=none∧σ p.1=none∧(∃es ep,p.2.data=.dict es ep)∧∃sl,s.heap.get? p.1=some { p.2 with slots:=sl }
 holds:∀p∈held,φ p.1=none∧σ p.1=none∧kept.free p.1∧s.heap.get? p.1=some p.2
 gens:s.gens=#[]
 os:s.os=G.os
variable {G}
section
variable {kept held:Objs} {φ φ':Fz} {σ:Sto} {s:Shared}
theorem RealC.above (R:RealC G kept held φ σ s) {a:Addr} (no:∀o,s.heap.get? a≠some o):φ a=none∧σ a=none∧kept.free a∧held.free a:=by
 refine ⟨?_,?_,fun p hp q=>?_,fun p hp q=>?_⟩
 ·cases h:φ a with
  | none=>rfl
  | some o=>exact absurd (R.frz _ _ h) (no o)
 ·cases h:σ a with
  | none=>rfl
  | some x=>obtain ⟨_,o,e,_⟩:=R.sto _ _ h;exact absurd e (no o)
 ·obtain ⟨_,_,_,sl,e⟩:=R.waits p hp;exact no _ (q▸e)
 ·exact no _ (q▸(R.holds p hp).2.2.2)
theorem RealC.size (R:RealC G kept held φ σ s):φ s.heap.objs.size=none∧σ s.heap.objs.size=none∧kept.free s.heap.objs.size∧held.free s.heap.objs.size:=
 R.above fun o e=>Nat.lt_irrefl _ (Heap.lt_size e)
theorem RealC.ext (R:RealC G kept held φ σ s) {h':Heap} {tk:Nat} {b:Addr} (k:Heap.ExtBut b s.heap h') (h1:φ b=none) (h2:σ b=none) (h3:kept.free b) (h4:held.free b):
  RealC G kept held φ σ { s with heap:=h',toks:=tk }:=by
 refine ⟨R.base,fun a o e=>k a o (fun q=>by rw [q,h1] at e;cases e) (R.frz a o e),fun a x e=>?_,fun p hp=>?_,fun p hp=>?_,R.gens,R.os⟩
 ·obtain ⟨f,o,ho,r⟩:=R.sto a x e
  exact ⟨f,o,k a o (fun q=>by rw [q,h2] at e;cases e) ho,r⟩
 ·obtain ⟨f,g,d,sl,ho⟩:=R.waits p hp
  exact ⟨f,g,d,sl,k _ _ (h3 p hp) ho⟩
 ·refine ex04 (R.holds p hp) ?_;intro f g d ho
  exact ⟨f,g,d,k _ _ (h4 p hp) ho⟩
theorem RealC.keeps (R:RealC G kept held φ σ s) {h':Heap} {tk:Nat} (k:∀b o,s.heap.get? b=some o→h'.get? b=some o):RealC G kept held φ σ { s with heap:=h',toks:=tk }:=by
 refine ⟨R.base,fun a o e=>k a o (R.frz a o e),fun a x e=>?_,fun p hp=>?_,fun p hp=>?_,R.gens,R.os⟩
 ·obtain ⟨f,o,ho,r⟩:=R.sto a x e
  exact ⟨f,o,k a o ho,r⟩
 ·obtain ⟨f,g,d,sl,ho⟩:=R.waits p hp
  exact ⟨f,g,d,sl,k _ _ ho⟩
 ·refine ex04 (R.holds p hp) ?_;intro f g d ho
  exact ⟨f,g,d,k _ _ ho⟩
theorem RealC.tok (R:RealC G kept held φ σ s) (tk:Nat):RealC G kept held φ σ { s with toks:=tk }:=R.keeps fun _ _ e=>e
theorem RealC.upd (R:RealC G kept held φ σ s) {h':Heap} {tk:Nat} {a:Addr} {x x':AObj} {o':Obj} (k:Heap.ExtBut a s.heap h') (ha:σ a=some x) (ho:h'.get? a=some o') (hx:OR G φ x' o'):
  RealC G kept held φ (σ.set a x') { s with heap:=h',toks:=tk }:=by
 have fa:=(R.sto a x ha).f
 refine ⟨R.base,fun b o e=>k b o (fun q=>by rw [q,fa] at e;cases e) (R.frz b o e),fun b y e=>?_,fun p hp=>?_,fun p hp=>?_,R.gens,R.os⟩
 ·unfold Sto.set at e
  split at e
  ·rename_i q;subst q;cases e;exact ⟨fa,o',ho,hx⟩
  ·rename_i q
   obtain ⟨f,o,ho,r⟩:=R.sto b y e
   exact ⟨f,o,k b o q ho,r⟩
 ·obtain ⟨f,g,d,sl,ho⟩:=R.waits p hp
  have ne:p.1≠a:=fun q=>by rw [q,ha] at g;cases g
  exact ⟨f,by unfold Sto.set;refine rwG (if_neg ne) ?_;exact g,d,sl,k _ _ ne ho⟩
 ·refine ex04 (R.holds p hp) ?_;intro f g d ho
  have ne:p.1≠a:=fun q=>by rw [q,ha] at g;cases g
  exact ⟨f,by unfold Sto.set;refine rwG (if_neg ne) ?_;exact g,d,k _ _ ne ho⟩
theorem RealC.new (R:RealC G kept held φ σ s) {h':Heap} {tk:Nat} {x:AObj} {o:Obj} (k:∀b ob,s.heap.get? b=some ob→h'.get? b=some ob) {a:Addr} (fa:φ a=none) (na:σ a=none) (ka:kept.free a) (la:held.free a)
  (ho:h'.get? a=some o) (hx:OR G φ x o):RealC G kept held φ (σ.set a x) { s with heap:=h',toks:=tk }:=by
 refine ⟨R.base,fun b o e=>k b o (R.frz b o e),fun b y e=>?_,fun p hp=>?_,fun p hp=>?_,R.gens,R.os⟩
 ·unfold Sto.set at e
  split at e
  ·rename_i q;subst q;cases e;exact ⟨fa,o,ho,hx⟩
  ·obtain ⟨f,o,ho,r⟩:=R.sto b y e
   exact ⟨f,o,k b o ho,r⟩
 ·obtain ⟨f,g,d,sl,ho⟩:=R.waits p hp
  exact ⟨f,by unfold Sto.set;refine rwG (if_neg (ka p hp)) ?_;exact g,d,sl,k _ _ ho⟩
 ·refine ex04 (R.holds p hp) ?_;intro f g d ho
  exact ⟨f,by unfold Sto.set;refine rwG (if_neg (la p hp)) ?_;exact g,d,k _ _ ho⟩
theorem set_self {a:Addr} {o:Obj}:(φ.set a o) a=some o:=if_pos rfl
theorem set_ne {a b:Addr} {o:Obj} (h:b≠a):(φ.set a o) b=φ b:=if_neg h
theorem RealC.newF (R:RealC G kept held φ σ s) {h':Heap} {tk:Nat} {o:Obj} (k:∀b ob,s.heap.get? b=some ob→h'.get? b=some ob) {a:Addr} (fa:φ a=none) (na:σ a=none) (ka:kept.free a) (la:held.free a)
  (ho:h'.get? a=some o):RealC G kept held (φ.set a o) σ { s with heap:=h',toks:=tk }:=by
 have le:=Fz.le_set (o:=o) fa
 refine ⟨fun b ob e=>le _ _ (R.base b ob e),fun b ob e=>?_,fun b y e=>?_,fun p hp=>?_,fun p hp=>?_,R.gens,R.os⟩
 ·unfold Fz.set at e
  split at e
  ·rename_i q;subst q;cases e;exact ho
  ·exact k _ _ (R.frz b ob e)
 ·obtain ⟨f,ob,hob,r⟩:=R.sto b y e
  have ne:b≠a:=fun q=>by rw [q,na] at e;cases e
  exact ⟨(set_ne ne).trans f,ob,k b ob hob,r.mono le⟩
 ·obtain ⟨f,g,d,sl,ho⟩:=R.waits p hp
  exact ⟨(set_ne (ka p hp)).trans f,g,d,sl,k _ _ ho⟩
 ·refine ex04 (R.holds p hp) ?_;intro f g d ho
  exact ⟨(set_ne (la p hp)).trans f,g,d,k _ _ ho⟩
theorem RealC.pushF (R:RealC G kept held φ σ s) {tk:Nat} (o:Obj) (hf:o.isFreed=false:=by rfl):RealC G kept held (φ.set s.heap.objs.size o) σ { s with heap:=s.heap.push o,toks:=tk }:=by
 refine ex04 R.size ?_;intro a b c d
 exact R.newF (fun _ _ e=>Heap.get?_push_of_some _ e) a b c d (Heap.get?_push_size _ hf)
theorem RealC.pushS (R:RealC G kept held φ σ s) {tk:Nat} {x:AObj} (o:Obj) (hx:OR G φ x o) (hf:o.isFreed=false:=by rfl):RealC G kept held φ (σ.set s.heap.objs.size x) { s with heap:=s.heap.push o,toks:=tk }:=by
 refine ex04 R.size ?_;intro a b c d
 exact R.new (fun _ _ e=>Heap.get?_push_of_some _ e) a b c d (Heap.get?_push_size _ hf) hx
theorem RealC.freeze (R:RealC G kept held φ σ s) {a:Addr} {x:AObj} {o:Obj} (ha:σ a=some x) (ho:s.heap.get? a=some o):
  RealC G kept held (φ.set a o) (σ.del a) s:=by
 have fa:=(R.sto a x ha).f
 have le:=Fz.le_set (o:=o) fa
 refine ⟨fun b ob e=>le _ _ (R.base b ob e),fun b ob e=>?_,fun b y e=>?_,fun p hp=>?_,fun p hp=>?_,R.gens,R.os⟩
 ·unfold Fz.set at e
  split at e
  ·rename_i q;subst q;cases e;exact ho
  ·exact R.frz b ob e
 ·unfold Sto.del at e
  split at e
  ·cases e
  ·rename_i ne
   obtain ⟨f,ob,hob,r⟩:=R.sto b y e
   exact ⟨(set_ne ne).trans f,ob,hob,r.mono le⟩
 ·obtain ⟨f,g,d,sl,ho⟩:=R.waits p hp
  have ne:p.1≠a:=fun q=>by rw [q,ha] at g;cases g
  exact ⟨(set_ne ne).trans f,by unfold Sto.del;refine rwG (if_neg ne) ?_;exact g,d,sl,ho⟩
 ·refine ex04 (R.holds p hp) ?_;intro f g d ho
  have ne:p.1≠a:=fun q=>by rw [q,ha] at g;cases g
  exact ⟨(set_ne ne).trans f,by unfold Sto.del;refine rwG (if_neg ne) ?_;exact g,d,ho⟩
theorem RealC.forget (R:RealC G kept held φ σ s) {σ':Sto} (h:∀a x,σ' a=some x→σ a=some x):RealC G kept held φ σ' s:=by
 refine ⟨R.base,R.frz,fun a x e=>R.sto a x (h a x e),fun p hp=>?_,fun p hp=>?_,R.gens,R.os⟩
 ·obtain ⟨f,g,d,sl,ho⟩:=R.waits p hp
  refine ⟨f,?_,d,sl,ho⟩
  cases q:σ' p.1 with
  | none=>rfl
  | some x=>rw [h _ _ q] at g;cases g
 ·refine ex04 (R.holds p hp) ?_;intro f g d ho
  refine ⟨f,?_,d,ho⟩
  cases q:σ' p.1 with
  | none=>rfl
  | some x=>rw [h _ _ q] at g;cases g
end
section
variable {G:Glob}
variable (G) in
inductive SeqI (g φ:Addr→Option Obj) (v:Value) (T:String) (ds:List D):Prop
 | mk (a:Addr) (o:Obj) (vs:List Value) (n:Nat):v=.ref a→g a=some o→o.cls=.type T→o.data=.seq vs.toArray n→VRs G φ vs ds→SeqI g φ v T ds
variable (G) in
inductive DctI (φ:Fz) (v:Value) (es:List (Str×D)):Prop
 | mk (a:Addr) (o:Obj) (l:List DictEntry) (n:Nat):v=.ref a→φ a=some o→o.ExactDict→o.data=.dict l.toArray n→VRe G φ l es→(es.map (·.1)).Nodup→(a==sysModules)=false→DctI φ v es
variable (G) in
noncomputable def VRi (φ:Fz) (v:Value):D→Prop
 | .none=>v=.none
 | .bool b=>v=.bool b
 | .int i=>∃t,v=.int i t
 | .str s=>∃t,v=.str s t
 | .typ n=>v=.type n
 | .ref a=>v=.ref a
 | .fn i j=>v=.ref (G.fa i j)∧IsFn φ (G.fa i j) (stAt i j)
 | .cls i=>v=.ref (G.cad i)
 | .rng n=>∃a t u x,v=.ref a∧φ a=some { cls:=.type "range",dict:=Option.none,data:=.fields #[.int 0 t,.int n u,.int 1 x],slots:=#[] }
 | .slc lo hi st=>∃a vl vu vs,v=.ref a∧φ a=some { cls:=.type "slice",data:=.fields #[vl,vu,vs] }∧IsPart vl lo∧IsPart vu hi∧IsPart vs st
 | .clo body sc cells=>∃a,v=.ref a∧IsClo φ a body sc cells
 | .tup ds=>SeqI G φ φ v "tuple" ds
 | .lst ds=>SeqI G φ φ v "list" ds
 | .dct es=>DctI G φ v es
 | .ins c fs=>∃a dx o l n,v=.ref a∧φ a=some { cls:=.ref (G.cad c),dict:=some dx,data:=.plain }∧φ dx=some o∧o.ExactDict∧o.data=.dict l.toArray n∧VRe G φ l fs∧(fs.map (·.1)).Nodup
theorem VR.inv {φ:Fz} {v:Value} {d:D} (h:VR G φ v d):VRi G φ v d:=by
 cases h with
 | none=>rfl
 | bool=>rfl
 | int i t=>exact ⟨t,rfl⟩
 | str s t=>exact ⟨t,rfl⟩
 | typ=>rfl
 | ref=>rfl
 | fn i j h=>exact ⟨rfl,h⟩
 | cls=>rfl
 | rng h=>exact ⟨_,_,_,_,rfl,h⟩
 | slc h a b c=>exact ⟨_,_,_,_,rfl,h,a,b,c⟩
 | clo h=>exact ⟨_,rfl,h⟩
 | tup a b c d=>exact ⟨_,_,_,_,rfl,a,b,c,d⟩
 | lst a b c d=>exact ⟨_,_,_,_,rfl,a,b,c,d⟩
 | dct a b c d e f=>exact ⟨_,_,_,_,rfl,a,b,c,d,e,f⟩
 | ins a b c d e f=>exact ⟨_,_,_,_,_,rfl,a,b,c,d,e,f⟩
variable (G) in
noncomputable def ORi (φ:Fz) (o:Obj):AObj→Prop
 | .list ds=>∃vs n,o={ cls:=.type "list",data:=.seq vs.toArray n }∧VRs G φ vs ds
 | .dict es=>∃l n,o.ExactDict∧o.data=.dict l.toArray n∧VRe G φ l es∧(es.map (·.1)).Nodup
 | .inst c dx=>o={ cls:=.ref (G.cad c),dict:=some dx,data:=.plain }
 | .cell none=>o.data=.cell none
 | .cell (some d)=>∃v,o.data=.cell (some v)∧VR G φ v d
 | .tab ps=>o={ cls:=.none,data:=.fields ps }
 | .exc i dx=>∃vs,o={ cls:=.ref (G.cad i),dict:=dx,data:=.fields vs }∧vs[1]?=some .none∧vs.size=6
theorem OR.inv {φ:Fz} {x:AObj} {o:Obj} (h:OR G φ x o):ORi G φ o x:=by
 cases h with
 | list h=>exact ⟨_,_,rfl,h⟩
 | dict a b c d=>exact ⟨_,_,a,b,c,d⟩
 | inst=>rfl
 | cellN h=>exact h
 | cellS a b=>exact ⟨_,a,b⟩
 | tab=>rfl
 | exc a b=>exact ⟨_,rfl,a,b⟩
section
variable {φ:Fz} {v:Value} {motive:Value→Prop}
@[elab_as_elim] theorem VR.refE {a:Addr} (h:VR G φ v (.ref a)) (k:motive (.ref a)):motive v:=by refine rwG (show v=.ref a from h.inv) ?_;exact k
@[elab_as_elim] theorem VR.intE {i:Int} (h:VR G φ v (.int i)) (k:∀t,motive (.int i t)):motive v:=by (refine ex11 h.inv ?_;intro t e);refine rwG e ?_;exact k t
@[elab_as_elim] theorem VR.strE {i:Str} (h:VR G φ v (.str i)) (k:∀t,motive (.str i t)):motive v:=by (refine ex11 h.inv ?_;intro t e);refine rwG e ?_;exact k t
@[elab_as_elim] theorem VR.tupE {ds:List D} (h:VR G φ v (.tup ds)) (k:∀(a:Addr) (o:Obj) (vs:List Value) (n:Nat),φ a=some o→o.cls=.type "tuple"→o.data=.seq vs.toArray n→VRs G φ vs ds→motive (.ref a)):motive v:=by
 obtain ⟨a,o,vs,n,e,g1,g2,g3,g4⟩:=h.inv;refine rwG e ?_;exact k a o vs n g1 g2 g3 g4
@[elab_as_elim] theorem VR.lstE {ds:List D} (h:VR G φ v (.lst ds)) (k:∀(a:Addr) (o:Obj) (vs:List Value) (n:Nat),φ a=some o→o.cls=.type "list"→o.data=.seq vs.toArray n→VRs G φ vs ds→motive (.ref a)):motive v:=by
 obtain ⟨a,o,vs,n,e,g1,g2,g3,g4⟩:=h.inv;refine rwG e ?_;exact k a o vs n g1 g2 g3 g4
@[elab_as_elim] theorem VR.dctE {es:List (Str×D)} (h:VR G φ v (.dct es)) (k:∀(a:Addr) (o:Obj) (l:List DictEntry) (n:Nat),φ a=some o→o.ExactDict→o.data=.dict l.toArray n→VRe G φ l es→(es.map (·.1)).Nodup→(a==sysModules)=false→motive (.ref a)):motive v:=by
 obtain ⟨a,o,vs,n,e,g1,g2,g3,g4,g5,g6⟩:=h.inv;refine rwG e ?_;exact k a o vs n g1 g2 g3 g4 g5 g6
end
section
variable {φ:Fz} {o:Obj} {motive:Obj→Prop}
end
@[elab_as_elim] theorem VRs.nilE {φ:Fz} {vs:List Value} {motive:List Value→Prop} (h:VRs G φ vs []) (k:motive []):motive vs:=by cases h;exact k
@[elab_as_elim] theorem VRs.consE {φ:Fz} {vs:List Value} {d:D} {ds:List D} {motive:List Value→Prop} (h:VRs G φ vs (d::ds)) (k:∀v ws,VR G φ v d→VRs G φ ws ds→motive (v::ws)):motive vs:=by cases h with | cons a b=>exact k _ _ a b
@[elab_as_elim] theorem VR.noneE {φ:Fz} {v:Value} {motive:Value→Prop} (h:VR G φ v .none) (k:motive .none):motive v:=by refine rwG (show v=.none from h.inv) ?_;exact k
@[elab_as_elim] theorem VR.boolE {φ:Fz} {v:Value} {motive:Value→Prop} {b:Bool} (h:VR G φ v (.bool b)) (k:motive (.bool b)):motive v:=by refine rwG (show v=.bool b from h.inv) ?_;exact k
@[elab_as_elim] theorem VR.insE {φ:Fz} {v:Value} {motive:Value→Prop} {c:Nat} {fs:List (Str×D)} (h:VR G φ v (.ins c fs)) (k:∀(a dx:Addr) (o:Obj) (l:List DictEntry) (n:Nat),φ a=some { cls:=.ref (G.cad c),dict:=some dx,data:=.plain }→φ dx=some o→o.ExactDict→o.data=.dict l.toArray n→VRe G φ l fs→(fs.map (·.1)).Nodup→motive (.ref a)):motive v:=by
 obtain ⟨a,dx,o,l,n,e,g1,g2,g3,g4,g5,g6⟩:=h.inv;refine rwG e ?_;exact k a dx o l n g1 g2 g3 g4 g5 g6
end
section
variable {G:Glob}
theorem OR.cls_list {φ:Fz} {ds:List D} {o:Obj} (O:OR G φ (.list ds) o):o.cls=.type "list":=by (refine ex22 O.inv ?_;intro vs n e _);(refine rwG e ?_;rfl)
theorem OR.dict_list {φ:Fz} {ds:List D} {o:Obj} (O:OR G φ (.list ds) o):o.dict=none:=by (refine ex22 O.inv ?_;intro vs n e _);(refine rwG e ?_;rfl)
theorem OR.dictX {φ:Fz} {es:List (Str×D)} {o:Obj} (O:OR G φ (.dict es) o):o.ExactDict:=by (refine ex22 O.inv ?_;intro l n e _);exact e
theorem VR.ref_is {φ:Fz} {a b:Addr} (V:VR G φ (.ref a) (.ref b)):a=b:=Value.ref.inj V.inv
theorem VR.str_ne {φ:Fz} {a:Addr} {t:Str} (V:VR G φ (.ref a) (.str t)):False:=by (refine ex11 V.inv ?_;intro _ e);exact Value.noConfusion e
end
end Mine
end
section
open PySem PySem.W PySem.Calls PyProof.Rows
namespace Mine
set_option backward.match.sparseCases false
structure Sk where
 sc:Scope
 cells:List (Str×Addr)
 n:Nat
 top:Bool:=true
 code:Option Addr:=none
structure Cx where
 A:Around
 env:Env
 kept:Objs
 held:Objs
 cv:List (Str×Addr×Value):=[]
structure CxOk (k:Sk) (X:Cx):Prop where
 scope:X.env.scope=k.sc
 kind:k.sc.kind=.function
 globals:X.env.globals=mainGlobals
 builtins:X.env.builtins=builtinsNs
 cells:∀p∈k.cells,X.env.cells.lookup p.1=some p.2∧(X.env.kindOf p.1=some .cell∨(X.env.kindOf p.1=some .free∧(p.1==S_ "__classdict__")=false))∧(p.1==S_ "__debug__")=false
 cvs:∀p∈X.cv,(X.env.kindOf p.1=some .cell∨(X.env.kindOf p.1=some .free∧(p.1==S_ "__classdict__")=false))∧X.env.cells.lookup p.1=some p.2.1∧∃o,(p.2.1,o)∈X.held∧o.data=.cell (some p.2.2)
 handled:X.A.handled=none
 depth:X.A.depth≤k.n
 units:X.A.units≤8 * k.n
 guards:X.A.guards=some []
 lk:X.kept.free X.env.locals
 lh:X.held.free X.env.locals
 frames:∃l,X.A.frames=some l∧∀e∈l,e.scope.kind≠.module∧∃L,e.frame=some L∧(L=X.env.locals∨∃p∈X.kept,p.1=L)
 fn:k.top=true→∃outer,X.A.frames=some (X.env::outer)∧X.env.frame=some X.env.locals
 code:∀c,k.code=some c→X.env.code=.ref c
variable {G:Glob}
inductive BoundI (G:Glob) (kd:Str→Option NameKind) (cv:List (Str×Addr×Value)) (φ:Fz) (m:Str→Option Value) (x:Str) (d:D):Prop
 | mk:(x==S_ "__debug__")=false→(v:Value)→VR G φ v d→((kd x=some .local∧m x=some v)∨∃c,(x,c,v)∈cv)→BoundI G kd cv φ m x d
noncomputable abbrev Bound (G:Glob) (X:Cx) (φ:Fz) (m:Str→Option Value) (x:Str) (d:D):Prop:=BoundI G X.env.kindOf X.cv φ m x d
theorem BoundI.mono {kd:Str→Option NameKind} {cv:List (Str×Addr×Value)} {φ φ':Fz} {m:Str→Option Value} {x:Str} {d:D} (k:φ.le φ') (h:BoundI G kd cv φ m x d):BoundI G kd cv φ' m x d:=by
 induction h with
 | mk a v b c=>exact ⟨a,v,b.mono k,c⟩
inductive NsI (G:Glob) (kd:Str→Option NameKind) (cv:List (Str×Addr×Value)) (l:Addr) (φ:Fz) (Γ:Loc) (h:Heap):Prop
 | mk (m:Str→Option Value):h.Ns l m→(∀p∈Γ,BoundI G kd cv φ m p.1 p.2)→NsI G kd cv l φ Γ h
structure Real (G:Glob) (X:Cx) (φ:Fz) (Γ:Loc) (σ:Sto) (s:Shared):Prop where
 core:RealC G X.kept X.held φ σ s
 lf:φ X.env.locals=none
 ls:σ X.env.locals=none
 ns:NsI G X.env.kindOf X.cv X.env.locals φ Γ s.heap
inductive WordAt (G:Glob) (φ:Fz) (oe:Obj):Prop
 | mk (ed:Addr) (od:Obj) (l:Array DictEntry) (n:Nat) (es:List (Str×D)):oe.dict=some ed→oe.slots=#[]→φ ed=some od→od.ExactDict→od.data=.dict l n→VRe G φ l.toList es→(S_ "word",D.str (S_ "program_error"))∈es→(es.map (·.1)).Nodup→WordAt G φ oe
structure ExcB (G:Glob) (φ:Fz) (σ:Sto) (held:Objs) (x:Exn) (e:Addr) (oe:Obj) (vs:Array Value) (h:Heap):Prop where
 at_:h.get? e=some oe
 cls:oe.cls=.ref (G.cad x.idx)
 data:oe.data=.fields vs
 fz:φ e=none∧σ e=none
 fh:held.free e
 word:x=.ada→WordAt G φ oe
inductive Headed (φ:Fz) (σ:Sto) (held:Objs) (e:Addr) (vs:Array Value) (fl:Value) (h:Heap):Prop
 | mk (T:Addr) (oT:Obj) (ts:Array Value):vs[1]?=some (.ref T)→T≠e→φ T=none∧σ T=none→held.free T→h.get? T=some oT→oT.data=.fields ts∧oT.cls≠.none→ts[3]?=some fl→Headed φ σ held e vs fl h
inductive ExcAt (G:Glob) (φ:Fz) (σ:Sto) (held:Objs) (here:Option Addr) (x:Exn) (v:Value) (h:Heap):Prop
 | mk (e:Addr) (oe:Obj) (vs:Array Value):v=.ref e→ExcB G φ σ held x e oe vs h→(vs[1]?=some .none∨∃fl,Headed φ σ held e vs fl h∧(fl=.none∨∃F,here=some F∧fl=rawInt F))→ExcAt G φ σ held here x v h
theorem ExcB.to {φ:Fz} {σ σ':Sto} {held held':Objs} {x:Exn} {e:Addr} {oe:Obj} {vs:Array Value} {h:Heap} (hs:∀a,σ a=none→σ' a=none) (hh:∀a,held.free a→held'.free a) (B:ExcB G φ σ held x e oe vs h):ExcB G φ σ' held' x e oe vs h:=
 ⟨B.at_,B.cls,B.data,⟨B.fz.1,hs _ B.fz.2⟩,hh _ B.fh,B.word⟩
theorem Headed.to {φ:Fz} {σ σ':Sto} {held held':Objs} {e:Addr} {fl:Value} {vs:Array Value} {h:Heap} (hs:∀a,σ a=none→σ' a=none) (hh:∀a,held.free a→held'.free a) (H:Headed φ σ held e vs fl h):Headed φ σ' held' e vs fl h:=
 Headed.rec (fun T oT ts a b c d e f g=>⟨T,oT,ts,a,b,⟨c.1,hs _ c.2⟩,hh _ d,e,f,g⟩) H
theorem ExcAt.to {φ:Fz} {σ σ':Sto} {held held':Objs} {here:Option Addr} {x:Exn} {v:Value} {h:Heap} (hs:∀a,σ a=none→σ' a=none) (hh:∀a,held.free a→held'.free a) (H:ExcAt G φ σ held here x v h):ExcAt G φ σ' held' here x v h:=
 ExcAt.rec (fun e oe vs a B c=>⟨e,oe,vs,a,B.to hs hh,c.imp id (Exists.imp fun _=>And.imp (Headed.to hs hh) id)⟩) H
theorem ExcAt.any {φ:Fz} {σ:Sto} {held:Objs} {here:Option Addr} {x:Exn} {v:Value} {h:Heap} (H:ExcAt G φ σ held none x v h):ExcAt G φ σ held here x v h:=
 ExcAt.rec (fun e oe vs a B c=>⟨e,oe,vs,a,B,c.imp id (Exists.imp fun _=>And.imp id fun q=>q.imp id (Exists.elim · fun _ q=>nomatch q.1))⟩) H
structure RealE (G:Glob) (X:Cx) (φ:Fz) (σ:Sto) (here:Option Addr) (x:Exn) (v:Value) (s:Shared):Prop where
 core:RealC G X.kept X.held φ σ s
 lf:φ X.env.locals=none
 ls:σ X.env.locals=none
 ns:∃m,s.heap.Ns X.env.locals m
 exc:ExcAt G φ σ X.held here x v s.heap
inductive PostV (G:Glob) (X:Cx) (φ:Fz) (Γ:Loc) (Q:D→Sto→Prop) (v:Value) (s':Shared):Prop
 | mk (φ':Fz) (σ':Sto) (d:D):φ.le φ'→Real G X φ' Γ σ' s'→VR G φ' v d→Q d σ'→PostV G X φ Γ Q v s'
inductive PostVs (G:Glob) (X:Cx) (φ:Fz) (Γ:Loc) (Q:List D→Sto→Prop) (v:List Value) (s':Shared):Prop
 | mk (φ':Fz) (σ':Sto) (d:List D):φ.le φ'→Real G X φ' Γ σ' s'→VRs G φ' v d→Q d σ'→PostVs G X φ Γ Q v s'
inductive PostB (G:Glob) (X:Cx) (φ:Fz) (Γ:Loc) (Q:Bool→Sto→Prop) (b:Bool) (s':Shared):Prop
 | mk (φ':Fz) (σ':Sto):φ.le φ'→Real G X φ' Γ σ' s'→Q b σ'→PostB G X φ Γ Q b s'
inductive PostE (G:Glob) (X:Cx) (φ:Fz) (E:Exn→Sto→Prop) (v:Value) (s':Shared):Prop
 | mk (φ':Fz) (σ':Sto) (x:Exn):φ.le φ'→RealE G X φ' σ' X.env.frame x v s'→E x σ'→PostE G X φ E v s'
inductive Out where
 | next | brk | cont | ret (d:D)
inductive OutR (G:Glob) (φ:Fz):Flow→Out→Prop
 | next:OutR G φ .next .next
 | brk:OutR G φ .brk .brk
 | cont:OutR G φ .cont .cont
 | ret {v:Value} {d:D}:VR G φ v d→OutR G φ (.ret v) (.ret d)
inductive PostS (G:Glob) (X:Cx) (φ:Fz) (Q:Out→Loc→Sto→Prop) (f:Flow) (s':Shared):Prop
 | mk (φ':Fz) (σ':Sto) (Γ':Loc) (o:Out):φ.le φ'→Real G X φ' Γ' σ' s'→OutR G φ' f o→Q o Γ' σ'→PostS G X φ Q f s'
theorem PostE.map {X:Cx} {φ:Fz} {E E':Exn→Sto→Prop} {v:Value} {s:Shared} (he:∀x σ,E x σ→E' x σ) (h:PostE G X φ E v s):PostE G X φ E' v s:=PostE.rec (fun φ' σ' d a b q=>⟨φ',σ',d,a,b,he _ _ q⟩) h
theorem PostE.no {X:Cx} {φ:Fz} {v:Value} {s:Shared} {P:Prop} (h:PostE G X φ (fun _ _=>False) v s):P:=PostE.rec (fun _ _ _ _ _ f=>f.elim) h
theorem NsI.to {kd:Str→Option NameKind} {cv:List (Str×Addr×Value)} {l:Addr} {φ:Fz} {Γ:Loc} {h h':Heap} (N:NsI G kd cv l φ Γ h) (k:∀{m},h.Ns l m→h'.Ns l m):NsI G kd cv l φ Γ h':=NsI.rec (fun m a b=>⟨m,k a,b⟩) N
theorem NsI.has {kd:Str→Option NameKind} {cv:List (Str×Addr×Value)} {l:Addr} {φ:Fz} {Γ:Loc} {h:Heap} (N:NsI G kd cv l φ Γ h):∃m,h.Ns l m:=NsI.rec (fun m a _=>⟨m,a⟩) N
section
variable {X:Cx} {φ:Fz} {Γ:Loc} {A:Around} {F F':Value→Shared→Prop} {s:Shared}
theorem thV {t:Sem Value} {Q:D→Sto→Prop} {Z:Value→Shared→Prop} (h:wpAny (model pw G.w) A t (PostV G X φ Γ Q) F s)
  (f:∀v s₁ φ₁ σ₁ d,φ.le φ₁→Real G X φ₁ Γ σ₁ s₁→VR G φ₁ v d→Q d σ₁→Z v s₁) (g:∀e s',F e s'→F' e s'):wpAny (model pw G.w) A t Z F' s:=
 wpAny_mono h (fun v s₁ h=>PostV.rec (f v s₁) h) g
theorem thVs {t:Sem (List Value)} {Q:List D→Sto→Prop} {Z:List Value→Shared→Prop} (h:wpAny (model pw G.w) A t (PostVs G X φ Γ Q) F s)
  (f:∀v s₁ φ₁ σ₁ d,φ.le φ₁→Real G X φ₁ Γ σ₁ s₁→VRs G φ₁ v d→Q d σ₁→Z v s₁) (g:∀e s',F e s'→F' e s'):wpAny (model pw G.w) A t Z F' s:=
 wpAny_mono h (fun v s₁ h=>PostVs.rec (f v s₁) h) g
theorem thB {t:Sem Bool} {Q:Bool→Sto→Prop} {Z:Bool→Shared→Prop} (h:wpAny (model pw G.w) A t (PostB G X φ Γ Q) F s)
  (f:∀v s₁ φ₁ σ₁,φ.le φ₁→Real G X φ₁ Γ σ₁ s₁→Q v σ₁→Z v s₁) (g:∀e s',F e s'→F' e s'):wpAny (model pw G.w) A t Z F' s:=
 wpAny_mono h (fun v s₁ h=>PostB.rec (f v s₁) h) g
theorem thS {t:Sem Flow} {Q:Out→Loc→Sto→Prop} {Z:Flow→Shared→Prop} (h:wpAny (model pw G.w) A t (PostS G X φ Q) F s)
  (f:∀v s₁ φ₁ σ₁ Γ₁ o,φ.le φ₁→Real G X φ₁ Γ₁ σ₁ s₁→OutR G φ₁ v o→Q o Γ₁ σ₁→Z v s₁) (g:∀e s',F e s'→F' e s'):wpAny (model pw G.w) A t Z F' s:=
 wpAny_mono h (fun v s₁ h=>PostS.rec (f v s₁) h) g
end
theorem PostV.le {X:Cx} {φ φ₁:Fz} {Γ:Loc} {Q:D→Sto→Prop} {v:Value} {s:Shared} (k:φ.le φ₁) (h:PostV G X φ₁ Γ Q v s):PostV G X φ Γ Q v s:=by
 obtain ⟨φ',σ',d,a,r0,r1,r2⟩:=h;exact ⟨φ',σ',d,k.trans a,r0,r1,r2⟩
theorem PostB.le {X:Cx} {φ φ₁:Fz} {Γ:Loc} {Q:Bool→Sto→Prop} {v:Bool} {s:Shared} (k:φ.le φ₁) (h:PostB G X φ₁ Γ Q v s):PostB G X φ Γ Q v s:=by
 obtain ⟨φ',σ',a,r0,r1⟩:=h;exact ⟨φ',σ',k.trans a,r0,r1⟩
theorem PostE.le {X:Cx} {φ φ₁:Fz} {E:Exn→Sto→Prop} {v:Value} {s:Shared} (k:φ.le φ₁) (h:PostE G X φ₁ E v s):PostE G X φ E v s:=by
 obtain ⟨φ',σ',d,a,r0,r1⟩:=h;exact ⟨φ',σ',d,k.trans a,r0,r1⟩
theorem PostS.le {X:Cx} {φ φ₁:Fz} {Q:Out→Loc→Sto→Prop} {f:Flow} {s:Shared} (k:φ.le φ₁) (h:PostS G X φ₁ Q f s):PostS G X φ Q f s:=by
 obtain ⟨φ',σ',Γ',o,a,r0,r1,r2⟩:=h;exact ⟨φ',σ',Γ',o,k.trans a,r0,r1,r2⟩
noncomputable abbrev M (G:Glob):Model:=model pw G.w
noncomputable def WX (G:Glob) (k:Sk) (Γ:Loc) (σ:Sto) (t:Env→Sem Value) (Q:D→Sto→Prop) (E:Exn→Sto→Prop):Prop:=
 ∀X,CxOk k X→∀φ s,Real G X φ Γ σ s→wpAny (M G) X.A (t X.env) (PostV G X φ Γ Q) (PostE G X φ E) s
noncomputable abbrev WE (G:Glob) (k:Sk) (Γ:Loc) (σ:Sto) (e:Expr) (Q:D→Sto→Prop) (E:Exn→Sto→Prop):Prop:=WX G k Γ σ (eval e) Q E
noncomputable def WA (G:Glob) (k:Sk) (Γ:Loc) (σ:Sto) (es:List Expr) (Q:List D→Sto→Prop) (E:Exn→Sto→Prop):Prop:=
 ∀pos X,CxOk k X→∀φ s,Real G X φ Γ σ s→wpAny (M G) X.A (spliced (backTo pos (starEach es X.env))) (PostVs G X φ Γ Q) (PostE G X φ E) s
noncomputable def WT (G:Glob) (k:Sk) (Γ:Loc) (σ:Sto) (e:Expr) (Q:Bool→Sto→Prop) (E:Exn→Sto→Prop):Prop:=
 ∀X,CxOk k X→∀φ s,Real G X φ Γ σ s→wpAny (M G) X.A (isTrue e X.env (eval e X.env)) (PostB G X φ Γ Q) (PostE G X φ E) s
noncomputable def W1 (G:Glob) (k:Sk) (Γ:Loc) (σ:Sto) (st:Stmt) (Q:Out→Loc→Sto→Prop) (E:Exn→Sto→Prop):Prop:=
 ∀X,CxOk k X→∀φ s,Real G X φ Γ σ s→wpAny (M G) X.A (exec st X.env) (PostS G X φ Q) (PostE G X φ E) s
noncomputable def WS (G:Glob) (k:Sk) (Γ:Loc) (σ:Sto) (st:List Stmt) (Q:Out→Loc→Sto→Prop) (E:Exn→Sto→Prop):Prop:=
 ∀X,CxOk k X→∀φ s,Real G X φ Γ σ s→wpAny (M G) X.A (execs st X.env) (PostS G X φ Q) (PostE G X φ E) s
section
variable {k:Sk} {Γ:Loc} {σ:Sto} {E:Exn→Sto→Prop} {X:Cx} {φ φ':Fz} {s:Shared}
theorem Real.tok (R:Real G X φ Γ σ s) (tk:Nat):Real G X φ Γ σ { s with toks:=tk }:=⟨R.core.tok tk,R.lf,R.ls,R.ns⟩
theorem Real.keeps (R:Real G X φ Γ σ s) {h':Heap} {tk:Nat} (k:∀b o,s.heap.get? b=some o→h'.get? b=some o):Real G X φ Γ σ { s with heap:=h',toks:=tk }:=
 ⟨R.core.keeps k,R.lf,R.ls,R.ns.to fun a=>a.keeps k⟩
theorem Real.ext (R:Real G X φ Γ σ s) {h':Heap} {tk:Nat} {b:Addr} (k:Heap.ExtBut b s.heap h') (h1:φ b=none) (h2:σ b=none) (h3:X.kept.free b) (h4:X.held.free b) (h5:b≠X.env.locals):
  Real G X φ Γ σ { s with heap:=h',toks:=tk }:=
 ⟨R.core.ext k h1 h2 h3 h4,R.lf,R.ls,R.ns.to fun a=>a.extBut k (Ne.symm h5)⟩
theorem Real.size (R:Real G X φ Γ σ s):φ s.heap.objs.size=none∧σ s.heap.objs.size=none∧X.kept.free s.heap.objs.size∧X.held.free s.heap.objs.size∧s.heap.objs.size≠X.env.locals:=by
 refine ex04 R.core.size ?_;intro a b c d
 obtain ⟨m,hn,_⟩:=R.ns
 exact ⟨a,b,c,d,Nat.ne_of_gt hn.lt⟩
theorem Real.pushF (R:Real G X φ Γ σ s) {tk:Nat} (o:Obj) (hf:o.isFreed=false:=by rfl):
  φ.le (φ.set s.heap.objs.size o)∧Real G X (φ.set s.heap.objs.size o) Γ σ { s with heap:=s.heap.push o,toks:=tk }:=by
 refine ex05 R.size ?_;intro a b c d e
 have le:=Fz.le_set (o:=o) a
 refine ⟨le,R.core.pushF o hf,(set_ne (Ne.symm e)).trans R.lf,R.ls,?_⟩
 obtain ⟨m,hn,hb⟩:=R.ns
 exact ⟨m,hn.push o,fun p hp=>(hb p hp).mono le⟩
theorem Real.pushS (R:Real G X φ Γ σ s) {tk:Nat} {x:AObj} (o:Obj) (hx:OR G φ x o) (hf:o.isFreed=false:=by rfl):
  Real G X φ Γ (σ.set s.heap.objs.size x) { s with heap:=s.heap.push o,toks:=tk }:=by
 refine ex05 R.size ?_;intro a b c d e
 refine ⟨R.core.pushS o hx hf,R.lf,by unfold Sto.set;refine rwG (if_neg (Ne.symm e)) ?_;exact R.ls,?_⟩
 obtain ⟨m,hn,hb⟩:=R.ns
 exact ⟨m,hn.push o,hb⟩
theorem Real.upd (R:Real G X φ Γ σ s) {h':Heap} {tk:Nat} {a:Addr} {x x':AObj} {o':Obj} (k:Heap.ExtBut a s.heap h') (ha:σ a=some x) (ho:h'.get? a=some o') (hx:OR G φ x' o'):
  Real G X φ Γ (σ.set a x') { s with heap:=h',toks:=tk }:=by
 have ne:X.env.locals≠a:=fun q=>by have:=R.ls;rw [q,ha] at this;cases this
 refine ⟨R.core.upd k ha ho hx,R.lf,by unfold Sto.set;refine rwG (if_neg ne) ?_;exact R.ls,?_⟩
 obtain ⟨m,hn,hb⟩:=R.ns
 exact ⟨m,hn.extBut k ne,hb⟩
theorem Real.store (R:Real G X φ Γ σ s) {a:Addr} {x:AObj} (h:σ a=some x):Stored G φ s.heap a x:=(R.core.sto a x h).st
theorem Real.base (R:Real G X φ Γ σ s):∀b o,G.h₀.get? b=some o→s.heap.get? b=some o:=fun b o e=>R.core.frz b o (R.core.base b o e)
noncomputable abbrev Cx.hold (X:Cx) (a:Addr) (o:Obj):Cx:={ X with held:=(a,o)::X.held }
theorem CxOk.hold {a:Addr} {o:Obj} (h:CxOk k X) (hL:a≠X.env.locals):CxOk k (X.hold a o) where
 scope:=h.scope
 kind:=h.kind
 globals:=h.globals
 builtins:=h.builtins
 cells:=h.cells
 cvs:=fun p hp=>by obtain ⟨a,b,o,c,d⟩:=h.cvs p hp;exact ⟨a,b,o,.tail _ c,d⟩
 handled:=h.handled
 depth:=h.depth
 units:=h.units
 guards:=h.guards
 lk:=h.lk
 lh:=fun p hp=>by
  rcases List.mem_cons.mp hp with rfl | hp
  ·exact hL
  ·exact h.lh p hp
 frames:=h.frames
 fn:=h.fn
 code:=h.code
theorem Real.hold (R:Real G X φ Γ σ s) {a:Addr} {o:Obj} (h1:φ a=none) (h2:σ a=none) (h3:X.kept.free a) (ho:s.heap.get? a=some o):Real G (X.hold a o) φ Γ σ s where
 core:=⟨R.core.base,R.core.frz,R.core.sto,R.core.waits,fun p hp=>by
  rcases List.mem_cons.mp hp with rfl | hp
  ·exact ⟨h1,h2,h3,ho⟩
  ·exact R.core.holds p hp,R.core.gens,R.core.os⟩
 lf:=R.lf
 ls:=R.ls
 ns:=R.ns
theorem Real.unhold {a:Addr} {o:Obj} (R:Real G (X.hold a o) φ Γ σ s):Real G X φ Γ σ s where
 core:=⟨R.core.base,R.core.frz,R.core.sto,R.core.waits,fun p hp=>R.core.holds p (.tail _ hp),R.core.gens,R.core.os⟩
 lf:=R.lf
 ls:=R.ls
 ns:=R.ns
theorem Real.heldAt {a:Addr} {o:Obj} (R:Real G (X.hold a o) φ Γ σ s):φ a=none∧σ a=none∧X.kept.free a∧s.heap.get? a=some o:=R.core.holds (a,o) (.head _)
theorem RealE.unhold {a:Addr} {o:Obj} {here:Option Addr} {x:Exn} {v:Value} (R:RealE G (X.hold a o) φ σ here x v s):RealE G X φ σ here x v s where
 core:=⟨R.core.base,R.core.frz,R.core.sto,R.core.waits,fun p hp=>R.core.holds p (.tail _ hp),R.core.gens,R.core.os⟩
 lf:=R.lf
 ls:=R.ls
 ns:=R.ns
 exc:=R.exc.to (fun _ h=>h) fun _ h p hp=>h p (.tail _ hp)
theorem PostE.unhold {a:Addr} {o:Obj} {v:Value} (h:PostE G (X.hold a o) φ E v s):PostE G X φ E v s:=
 PostE.rec (fun φ' σ' x l R e=>⟨φ',σ',x,l,R.unhold,e⟩) h
theorem PostV.now (R:Real G X φ Γ σ s) {v:Value} {d:D} {Q:D→Sto→Prop} (h:VR G φ v d) (q:Q d σ):PostV G X φ Γ Q v s:=⟨φ,σ,d,φ.le_refl,R,h,q⟩
theorem WE.conseq {t:Env→Sem Value} {Q Q':D→Sto→Prop} {E':Exn→Sto→Prop} (h:WX G k Γ σ t Q E) (hq:∀d σ,Q d σ→Q' d σ) (he:∀x σ,E x σ→E' x σ):WX G k Γ σ t Q' E':=
 fun X hX φ s R=>thV (h X hX φ s R) (fun _ _ φ' σ' d a b c q=>⟨φ',σ',d,a,b,c,hq _ _ q⟩) fun _ _ h=>h.map he
theorem WE.var {x:Str} {p:Pos} {d:D} {Q:D→Sto→Prop} (h:(x,d)∈Γ) (q:Q d σ):WE G k Γ σ (.Name x p) Q E:=fun X hX φ s R=>by
 obtain ⟨m,hn,hb⟩:=R.ns
 obtain ⟨hd,v,hv,hc⟩:=hb _ h
 have hk:X.env.scope.kind=.function:=by refine rwG hX.scope ?_;exact hX.kind
 refine wpAny_Name ?_ hd
 rcases hc with ⟨h1,h2⟩ | ⟨c,hm⟩
 ·exact wpAny_loadName_local hk h1 hn h2 (.now R hv q)
 ·obtain ⟨h1 | ⟨h1,h3⟩,hl,o,ho,hd⟩:=hX.cvs _ hm
  ·exact wpAny_loadName_cell hk h1 hl ⟨o,(R.core.holds _ ho).2.2.2,hd⟩ (.now R hv q)
  ·exact wpAny_loadName_free hk h1 hl ⟨o,(R.core.holds _ ho).2.2.2,hd⟩ (.now R hv q) h3
theorem WE.int {i:Int} {kk:Nat} {p:Pos} {Q:D→Sto→Prop} (q:Q (.int i) σ):WE G k Γ σ (.Constant (.int i) kk p) Q E:=fun X _ φ s R=>
 wpAny_Constant_int (.now (R.tok _) (.int _ _) q)
theorem WE.str {x:Str} {kk:Nat} {p:Pos} {Q:D→Sto→Prop} (q:Q (.str x) σ):WE G k Γ σ (.Constant (.str x) kk p) Q E:=fun X _ φ s R=>
 Calls.Constant_str (.now (R.tok _) (.str _ _) q)
theorem WE.noneC {kk:Nat} {p:Pos} {Q:D→Sto→Prop} (q:Q .none σ):WE G k Γ σ (.Constant .none kk p) Q E:=fun X _ φ s R=>
 wpAny_pure (.now R .none q)
theorem WE.boolC {b:Bool} {kk:Nat} {p:Pos} {Q:D→Sto→Prop} (q:Q (.bool b) σ):WE G k Γ σ (.Constant (.bool b) kk p) Q E:=fun X _ φ s R=>
 wpAny_pure (.now R (.bool b) q)
theorem WA.nil {Q:List D→Sto→Prop} (q:Q [] σ):WA G k Γ σ [] Q E:=fun pos X _ φ s R=>Calls.spliced_nil ⟨φ,σ,[],φ.le_refl,R,.nil,q⟩
theorem WA.cons {e:Expr} {es:List Expr} {Q:List D→Sto→Prop} (h:WE G k Γ σ e (fun d σ₁=>WA G k Γ σ₁ es (fun ds=>Q (d::ds)) E) E)
  (he:∀env,starEach (e::es) env=(false,eval e env)::starEach es env:=by intro _;rfl):WA G k Γ σ (e::es) Q E:=fun pos X hX φ s R=>by
 rw [he]
 refine Calls.spliced_cons ?_
 refine (?_:wpAny _ _ (eval e X.env) _ _ _)
 refine thV (h X hX φ s R) (fun v s₁ φ₁ σ₁ d l₁ R₁ V q=>?_) fun _ _ x=>x
 refine thVs (q pos X hX φ₁ s₁ R₁) (fun vs s₂ φ₂ σ₂ ds l₂ R₂ Vs q₂=>?_) fun _ _ x=>x.le l₁
 exact ⟨φ₂,σ₂,d::ds,l₁.trans l₂,R₂,.cons (V.mono l₂) Vs,q₂⟩
end
end Mine
end
section
open PySem PySem.W PySem.Calls PyProof.Rows
namespace Mine
set_option backward.match.sparseCases false
variable {G:Glob}
theorem VRs.length {φ:Fz}:∀{vs:List Value} {ds:List D},VRs G φ vs ds→vs.length=ds.length
 | _,_,.nil=>rfl
 | _,_,.cons _ r=>by (refine rwG List.length_cons ?_;refine rwG List.length_cons ?_;refine rwG r.length ?_;rfl)
theorem VRs.at {φ:Fz}:∀{vs:List Value} {ds:List D} {i:Nat} {d:D},VRs G φ vs ds→ds[i]?=some d→∃v,vs[i]?=some v∧VR G φ v d
 | _,_,0,d,.cons h _,e=>by cases e;exact ⟨_,rfl,h⟩
 | _,_,i + 1,d,.cons _ r,e=>by
  rw [List.getElem?_cons_succ] at e
  refine ex12 (r.at e) ?_;intro v a b
  exact ⟨v,by refine rwG List.getElem?_cons_succ ?_;exact a,b⟩
theorem VRs.append {φ:Fz}:∀{vs ws:List Value} {ds es:List D},VRs G φ vs ds→VRs G φ ws es→VRs G φ (vs++ws) (ds++es)
 | _,_,_,_,.nil,h=>h
 | _,_,_,_,.cons a r,h=>.cons a (r.append h)
theorem VRs.drop {φ:Fz}:∀{vs:List Value} {ds:List D} (n:Nat),VRs G φ vs ds→VRs G φ (vs.drop n) (ds.drop n)
 | _,_,0,h=>h
 | _,_,n + 1,.nil=>.nil
 | _,_,n + 1,.cons _ r=>r.drop n
theorem VRs.take {φ:Fz}:∀{vs:List Value} {ds:List D} (n:Nat),VRs G φ vs ds→VRs G φ (vs.take n) (ds.take n)
 | _,_,0,h=>.nil
 | _,_,n + 1,.nil=>.nil
 | _,_,n + 1,.cons a r=>.cons a (r.take n)
theorem VRs.none_at {φ:Fz} {vs:List Value} {ds:List D} (h:VRs G φ vs ds) {i:Nat} (e:ds[i]?=none):vs[i]?=none:=by
 rw [List.getElem?_eq_none_iff] at e ⊢
 refine rwG h.length ?_;exact e
theorem VRs.pick {φ:Fz} {vs:List Value} {ds:List D} (h:VRs G φ vs ds):∀(is:List Nat),VRs G φ (is.filterMap (vs[·]?)) (is.filterMap (ds[·]?))
 | []=>.nil
 | i::r=>by
  have ih:=VRs.pick h r
  cases q:ds[i]? with
  | none=>(refine rwG List.filterMap_cons ?_;refine rwG List.filterMap_cons ?_;refine rwG q ?_;refine rwG (h.none_at q) ?_);exact ih
  | some d=>
   refine ex12 (h.at q) ?_;intro v a b
   refine rwG List.filterMap_cons ?_;refine rwG List.filterMap_cons ?_;refine rwG q ?_;refine rwG a ?_
   exact .cons b ih
noncomputable def pick (ds:List D) (lo hi st:Option Int):List D:=
 (sliceRange (sliceBounds lo hi st ds.length).1 (sliceBounds lo hi st ds.length).2.1 (sliceBounds lo hi st ds.length).2.2).filterMap (ds[·]?)
theorem vre_pairs {φ:Fz}:∀{l:List DictEntry} {es:List (Str×D)},VRe G φ l es→∃kvs:List (Str×Value),Pairs (strKind pw G.w) l kvs∧(∀e∈l,∃k,(strKind pw G.w).is k e.key=true∧e.hash=(strKind pw G.w).hash k)∧
  kvs.map (·.1)=es.map (·.1)∧∀x d,(x,d)∈es→∃v,(x,v)∈kvs∧VR G φ v d
 | _,_,.nil=>⟨[],.nil,fun _ h=>(nomatch h),rfl,fun _ _ h=>(nomatch h)⟩
 | _,_,.cons (h:=hh) (x:=x) (t:=t) (v:=v) (d:=d) e h r=>by
  refine ex14 (vre_pairs r) ?_;intro kvs a b c f
  have hk:(strKind pw G.w).is x (.str x t)=true:=by refine (?_:(x==x)=true);exact beq_self_eq_true _
  refine ⟨(x,v)::kvs,.cons hk rfl a,fun en hen=>?_,by (refine rwG List.map_cons ?_;refine rwG List.map_cons ?_;refine rwG c ?_;rfl),fun y d' hy=>?_⟩
  ·rcases List.mem_cons.mp hen with rfl | hen
   ·exact ⟨x,hk,e⟩
   ·exact b en hen
  ·rcases List.mem_cons.mp hy with q | hy
   ·cases q;exact ⟨v,.head _,h⟩
   ·refine ex12 (f y d' hy) ?_;intro v' m w
    exact ⟨v',.tail _ m,w⟩
theorem valueAt_of_mem {kvs:List (Str×Value)} (hn:(kvs.map (·.1)).Nodup) {x:Str} {v:Value} (h:(x,v)∈kvs):valueAt kvs x=some v:=by
 obtain ⟨i,hi,e⟩:=List.getElem_of_mem h
 exact valueAt_of_get hn (i:=i) (by (refine rwG (List.getElem?_eq_getElem hi) ?_;refine rwG e ?_;rfl))
theorem valueAt_none {kvs:List (Str×Value)} {x:Str} (h:x∉kvs.map (·.1)):valueAt kvs x=none:=by
 unfold valueAt
 rw [Option.map_eq_none_iff,List.find?_eq_none]
 intro p hp q
 exact h (List.mem_map.mpr ⟨p,hp,of_decide_eq_true q⟩)
theorem dict_of {φ:Fz} {h:Heap} {a:Addr} {o:Obj} {l:List DictEntry} {n:Nat} {es:List (Str×D)} (ho:h.get? a=some o) (hx:o.ExactDict) (hd:o.data=.dict l.toArray n) (hv:VRe G φ l es) (hn:(es.map (·.1)).Nodup):
  ∃kvs,h.DictOf (strKind pw G.w) a kvs∧kvs.map (·.1)=es.map (·.1)∧∀x d,(x,d)∈es→∃v,valueAt kvs x=some v∧VR G φ v d:=by
 refine ex14 (vre_pairs hv) ?_;intro kvs p k e f
 refine ⟨kvs,⟨o,_,n,ho,hx,hd,fun en hen=>k en (by simpa using hen),p,by refine rwG e ?_;exact hn⟩,e,fun x d hm=>?_⟩
 refine ex12 (f x d hm) ?_;intro v m w
 exact ⟨v,valueAt_of_mem (by refine rwG e ?_;exact hn) m,w⟩
theorem lookIn_of {φ:Fz} {o:Obj} {l:List DictEntry} {n:Nat} {es:List (Str×D)} (hd:o.data=.dict l.toArray n) (hv:VRe G φ l es) (hn:(es.map (·.1)).Nodup) {x:Str} {d:D} (h:(x,d)∈es):
  ∃v,lookIn x o=some (some v)∧VR G φ v d:=by
 refine ex14 (vre_pairs hv) ?_;intro kvs p k e f
 refine ex12 (f x d h) ?_;intro v m w
 refine ⟨v,?_,w⟩
 have q:=p.find x
 rw [valueAt_of_mem (by refine rwG e ?_;exact hn) m] at q
 have z:(fun en:DictEntry=>(strKind pw G.w).is x en.key)=fun en=>en.key.isStr x:=funext fun en=>(isStr_of x en.key).symm
 rw [z] at q
 unfold lookIn
 refine rwG hd ?_
 refine ex12 (Option.map_eq_some_iff.mp q) ?_;intro en he hv
 refine (?_:(match List.find? _ l with | some e=>some (some e.val) | none=>_)=_)
 refine rwG he ?_
 refine (?_:some (some en.val)=_)
 refine rwG hv ?_;rfl
section
variable {k:Sk} {Γ:Loc} {σ:Sto} {E:Exn→Sto→Prop} {X:Cx} {φ φ':Fz} {s:Shared}
inductive BinR:Operator→D→D→D→Prop
 | addI {a b:Int}:BinR .Add (.int a) (.int b) (.int (a + b))
 | subI {a b:Int}:BinR .Sub (.int a) (.int b) (.int (a - b))
 | mulI {a b:Int}:IntMulOk a b→BinR .Mult (.int a) (.int b) (.int (a * b))
 | modI {a b:Int}:b≠0→BinR .Mod (.int a) (.int b) (.int (a.fmod b))
 | divI {a b:Int}:b≠0→Builtin.divisionGoesByPylong a b=false→BinR .FloorDiv (.int a) (.int b) (.int (a.fdiv b))
 | addS {a b:Str}:a.length + b.length≤sizeLine→BinR .Add (.str a) (.str b) (.str (a++b))
 | addL {a b:List D}:a.length + b.length≤sizeLine→BinR .Add (.lst a) (.lst b) (.lst (a++b))
theorem add_two {A:Around} {s:Shared} {E:Value→Shared→Prop} {a b:Addr} {o o':Obj} {vs ws:List Value} {n n':Nat} {Q:Value→Shared→Prop} (h1:s.heap.get? a=some o) (h2:o.cls=.type "list") (h3:o.data=.seq vs.toArray n)
  (g1:s.heap.get? b=some o') (g2:o'.cls=.type "list") (g3:o'.data=.seq ws.toArray n') (hz:vs.length + ws.length≤sizeLine)
  (h:Q (.ref s.heap.objs.size) { s with heap:=s.heap.push { cls:=.type "list",data:=.seq (vs++ws).toArray } }):wpAny (M G) A (binaryOp .Add (.ref a) (.ref b)) Q E s:=by
 obtain ⟨c,dd,dt,sl⟩:=o
 obtain ⟨c',dd',dt',sl'⟩:=o'
 dsimp only at h2 h3 g2 g3
 subst h2 h3 g2 g3
 refine concat_meets ⟨_,h1,rfl⟩ ⟨_,g1,rfl⟩ noFill_list_add seq_list_add PySem.F.slot_list_add PySem.F.entry_list_add (PySem.F.args_list_add_2 _ _) (list_addW a b vs.toArray ws.toArray n n' dd dd' sl sl' (by trivial)) ⟨h1,g1,?_⟩
 refine rwG (show vs.toArray++ws.toArray=(vs++ws).toArray by simp) ?_
 exact h
theorem BinR.ok {op:Operator} {d₁ d₂ d:D} (h:BinR op d₁ d₂ d) (R:Real G X φ Γ σ s) {v₁ v₂:Value} (V₁:VR G φ v₁ d₁) (V₂:VR G φ v₂ d₂) {Q:D→Sto→Prop} (q:Q d σ) {E:Value→Shared→Prop}:
  wpAny (M G) X.A (binaryOp op v₁ v₂) (PostV G X φ Γ Q) E s:=by
 induction h with
 | addI=>exact V₁.intE fun _=>V₂.intE fun _=>PyProof.Rows.add_int (.now (R.tok _) (.int _ _) q)
 | subI=>exact V₁.intE fun _=>V₂.intE fun _=>PyProof.Rows.sub_int (.now (R.tok _) (.int _ _) q)
 | mulI hm=>exact V₁.intE fun _=>V₂.intE fun _=>PyProof.Rows.mul_int (.now (R.tok _) (.int _ _) q) hm
 | modI hb=>exact V₁.intE fun _=>V₂.intE fun _=>PyProof.Rows.mod_int' hb (.now (R.tok _) (.int _ _) q)
 | divI hb hp=>exact V₁.intE fun _=>V₂.intE fun _=>PyProof.Rows.floordiv_int hb (.now (R.tok _) (.int _ _) q) (.inl hp)
 | addS hz=>exact V₁.strE fun _=>V₂.strE fun _=>PyProof.Rows.add_str (fun t' tk=>.now (R.tok _) (.str _ _) q) hz
 | addL hz=>
  refine V₁.lstE fun _ _ vs _ h1 h2 h3 h4=>V₂.lstE fun _ _ ws _ g1 g2 g3 g4=>?_
  refine add_two (R.core.frz _ _ h1) h2 h3 (R.core.frz _ _ g1) g2 g3 (by (refine rwG h4.length ?_;refine rwG g4.length ?_);exact hz) ?_
  refine ex02 (R.pushF (tk:=s.toks) { cls:=.type "list",data:=.seq (vs++ws).toArray }) ?_;intro le R'
  exact ⟨_,σ,_,le,R',.lst set_self rfl rfl ((h4.append g4).mono le),q⟩
mutual
noncomputable def pyD:D→Option PyData
 | .none=>some .none
 | .bool b=>some (.bool b)
 | .int i=>some (.int i)
 | .str x=>some (.str x)
 | .tup ds=>(pyDs ds).map .tuple
 | .lst ds=>(pyDs ds).map .list
 | _=>Option.none
noncomputable def pyDs:List D→Option (List PyData)
 | []=>some []
 | d::ds=>match pyD d,pyDs ds with
  | some p,some ps=>some (p::ps)
  | _,_=>Option.none
end
theorem reads_both {φ:Fz} {h:Heap} (k:∀a o,φ a=some o→h.get? a=some o):
  (∀{v:Value} {d:D},VR G φ v d→∀p,pyD d=some p→∃as,Reads h v p as):=fun {v d} x=>by
 have no:∀{p:PyData} {P:Prop},none=some p→P:=fun e=>nomatch e
 refine VR.rec (motive_1:=fun v d _=>∀p,pyD d=some p→∃as,Reads h v p as) (motive_2:=fun vs ds _=>∀ps,pyDs ds=some ps→∃as,ReadsAll h vs ps as) (motive_3:=fun _ _ _=>True)
  ?_ ?_ ?_ ?_ ?_ ?_ ?_ ?_ ?_ ?_ ?_ ?_ ?_ ?_ ?_ ?_ ?_ trivial (fun _ _ _ _ _=>trivial) x
 case refine_1=>intro p e;refine rwL (Option.some.inj e) ?_;exact ⟨_,.none⟩
 case refine_2=>intro b p e;refine rwL (Option.some.inj e) ?_;exact ⟨_,.bool b⟩
 case refine_3=>intro i t p e;refine rwL (Option.some.inj e) ?_;exact ⟨_,.int i t⟩
 case refine_4=>intro i t p e;refine rwL (Option.some.inj e) ?_;exact ⟨_,.str i t⟩
 case refine_5=>intro _ p e;exact no e
 case refine_6=>intro _ p e;exact no e
 case refine_7=>intro _ _ _ p e;exact no e
 case refine_8=>intro _ p e;exact no e
 case refine_9=>intro _ _ _ _ _ _ p e;exact no e
 case refine_10=>intro _ _ _ _ _ _ _ _ _ _ _ p e;exact no e
 case refine_11=>intro _ _ _ _ _ p e;exact no e
 case refine_12=>
  intro a o vs n ds h1 h2 h3 _ ih p e
  refine ex12 (Option.map_eq_some_iff.mp (show (pyDs ds).map _=some p from e)) ?_;intro ps e1 e2
  refine ex11 (ih ps e1) ?_;intro as r
  refine rwL e2 ?_
  exact ⟨_,.tuple (k _ _ h1) h2 h3 r⟩
 case refine_13=>
  intro a o vs n ds h1 h2 h3 _ ih p e
  refine ex12 (Option.map_eq_some_iff.mp (show (pyDs ds).map _=some p from e)) ?_;intro ps e1 e2
  refine ex11 (ih ps e1) ?_;intro as r
  refine rwL e2 ?_
  exact ⟨_,.list (k _ _ h1) h2 h3 r⟩
 case refine_14=>intro _ _ _ _ _ _ _ _ _ _ _ _ p e;exact no e
 case refine_15=>intro _ _ _ _ _ _ _ _ _ _ _ _ _ _ p e;exact no e
 case refine_16=>intro ps e;refine rwL (Option.some.inj e) ?_;exact ⟨_,.nil⟩
 case refine_17=>
  intro v d vs ds _ _ i1 i2 ps e
  cases h1:pyD d with
  | none=>rw [pyDs,h1] at e;exact nomatch e
  | some p=>
   cases h2:pyDs ds with
   | none=>rw [pyDs,h1,h2] at e;exact nomatch e
   | some qs=>
    rw [pyDs,h1,h2] at e
    refine rwL (Option.some.inj e) ?_
    refine ex11 (i1 p h1) ?_;intro as x
    refine ex11 (i2 qs h2) ?_;intro bs y
    exact ⟨_,.cons x y⟩
theorem reads_of {φ:Fz} {h:Heap} (k:∀a o,φ a=some o→h.get? a=some o) {v:Value} {d:D} {p:PyData} (x:VR G φ v d) (e:pyD d=some p):∃as,Reads h v p as:=reads_both k x p e
theorem VR.handed {φ:Fz} {v:Value} {d:D} (h:VR G φ v d):handedIn v=true:=by cases h<;>rfl
noncomputable def D.isNone:D→Bool
 | .none=>true
 | _=>false
inductive CmpR (σ:Sto):CmpOp→D→D→Bool→Prop
 | eqI {a b:Int}:CmpR σ .Eq (.int a) (.int b) (a==b)
 | neI {a b:Int}:CmpR σ .NotEq (.int a) (.int b) (a != b)
 | ltI {a b:Int}:CmpR σ .Lt (.int a) (.int b) (decide (a < b))
 | leI {a b:Int}:CmpR σ .LtE (.int a) (.int b) (decide (a≤b))
 | gtI {a b:Int}:CmpR σ .Gt (.int a) (.int b) (decide (b < a))
 | geI {a b:Int}:CmpR σ .GtE (.int a) (.int b) (decide (b≤a))
 | eqS {a b:Str}:CmpR σ .Eq (.str a) (.str b) (a==b)
 | neS {a b:Str}:CmpR σ .NotEq (.str a) (.str b) (a != b)
 | isN {d:D}:CmpR σ .Is d .none d.isNone
 | isNotN {d:D}:CmpR σ .IsNot d .none (!d.isNone)
 | inT {d:D} {ds:List D} {p:PyData} {ps:List PyData}:pyD d=some p→pyDs ds=some ps→PyData.canLayAll0 ps=true→p.canLay0=true→p.depth≤100→CmpR σ .In d (.tup ds) (ps.any fun y=>PyData.eqv y p)
 | notInT {d:D} {ds:List D} {p:PyData} {ps:List PyData}:pyD d=some p→pyDs ds=some ps→PyData.canLayAll0 ps=true→p.canLay0=true→p.depth≤100→CmpR σ .NotIn d (.tup ds) (!ps.any fun y=>PyData.eqv y p)
 | eqD {d d':D} {p p':PyData}:pyD d=some p→pyD d'=some p'→p.canLay0=true→p'.canLay0=true→p.depth≤100→CmpR σ .Eq d d' (PyData.eqv p p')
 | neD {d d':D} {p p':PyData}:pyD d=some p→pyD d'=some p'→p.canLay0=true→p'.canLay0=true→p.depth≤100→CmpR σ .NotEq d d' (!PyData.eqv p p')
 | inD {x:Str} {es:List (Str×D)}:CmpR σ .In (.str x) (.dct es) (decide (x∈es.map (·.1)))
 | notInD {x:Str} {es:List (Str×D)}:CmpR σ .NotIn (.str x) (.dct es) (!decide (x∈es.map (·.1)))
 | inM {x:Str} {a:Addr} {es:List (Str×D)}:σ a=some (.dict es)→CmpR σ .In (.str x) (.ref a) (decide (x∈es.map (·.1)))
 | notInM {x:Str} {a:Addr} {es:List (Str×D)}:σ a=some (.dict es)→CmpR σ .NotIn (.str x) (.ref a) (!decide (x∈es.map (·.1)))
theorem isSome_valueAt {kvs:List (Str×Value)} {x:Str}:(valueAt kvs x).isSome=decide (x∈kvs.map (·.1)):=by
 by_cases h:x∈kvs.map (·.1)
 ·refine rwG (decide_eq_true h) ?_
  cases q:valueAt kvs x with
  | some v=>rfl
  | none=>
   unfold valueAt at q
   rw [Option.map_eq_none_iff,List.find?_eq_none] at q
   refine ex12 (List.mem_map.mp h) ?_;intro p hp e
   exact absurd (decide_eq_true e) (q p hp)
 ·(refine rwG (decide_eq_false h) ?_;refine rwG (valueAt_none h) ?_);rfl
theorem notSys (R:Real G X φ Γ σ s) {a:Addr} {x:AObj} (h:σ a=some x):(a==sysModules)=false:=by
 cases q:a==sysModules with
 | false=>rfl
 | true=>
  have e:=beq_iff_eq.mp q
  refine ex11 (Option.isSome_iff_exists.mp G.low) ?_;intro o ho
  have:=(R.core.sto a x h).f
  rw [e,R.core.base _ _ ho] at this;cases this
theorem is_str (x:Str) (t:Tok):(strKind pw G.w).is x (.str x t)=true:=by refine (?_:(x==x)=true);exact beq_self_eq_true _
theorem isNone_plain {φ:Fz} {v:Value} {d:D} (h:VR G φ v d):plainIs v .none=true∧(v==.none)=d.isNone:=by cases h<;>exact ⟨rfl,rfl⟩
theorem units1 {u n m d c:Nat} (hu:u≤8 * n) (hn:n≤1000) (hd:d≤100) (hc:c=9900):u + 1 + min m d < c:=by
 rw [hc];exact Nat.lt_of_le_of_lt (Nat.add_le_add (Nat.succ_le_succ (Nat.le_trans hu (Nat.mul_le_mul_left 8 hn))) (Nat.le_trans (Nat.min_le_right m d) hd)) (by decide)
theorem units2 {u n e d c:Nat} (hu:u≤8 * n) (hn:n≤1000) (hd:d≤100) (hc:c=9900):u + min d e < c:=by
 rw [hc];exact Nat.lt_of_le_of_lt (Nat.add_le_add (Nat.le_trans hu (Nat.mul_le_mul_left 8 hn)) (Nat.le_trans (Nat.min_le_left d e) hd)) (by decide)
theorem CmpR.ok {op:CmpOp} {d₁ d₂:D} {b:Bool} (h:CmpR σ op d₁ d₂ b) (hX:CxOk k X) (hn:k.n≤1000) (R:Real G X φ Γ σ s) {v₁ v₂:Value} (V₁:VR G φ v₁ d₁) (V₂:VR G φ v₂ d₂) {Q:D→Sto→Prop} (q:Q (.bool b) σ)
  {E:Value→Shared→Prop}:wpAny (M G) X.A (compareOp op v₁ v₂) (PostV G X φ Γ Q) E s:=by
 have hu:=hX.units
 have cL:cLine=9900:=cLine_is
 induction h with
 | eqI=>exact V₁.intE fun _=>V₂.intE fun _=>PyProof.Rows.eq_int (.now R (.bool _) q)
 | neI=>exact V₁.intE fun _=>V₂.intE fun _=>PyProof.Rows.ne_int (.now R (.bool _) q)
 | ltI=>exact V₁.intE fun _=>V₂.intE fun _=>PyProof.Rows.lt_int (.now R (.bool _) q)
 | leI=>exact V₁.intE fun _=>V₂.intE fun _=>PyProof.Rows.le_int (.now R (.bool _) q)
 | gtI=>exact V₁.intE fun _=>V₂.intE fun _=>PyProof.Rows.gt_int (.now R (.bool _) q)
 | geI=>exact V₁.intE fun _=>V₂.intE fun _=>PyProof.Rows.ge_int (.now R (.bool _) q)
 | eqS=>exact V₁.strE fun _=>V₂.strE fun _=>PyProof.Rows.eq_str (.now R (.bool _) q)
 | neS=>exact V₁.strE fun _=>V₂.strE fun _=>PyProof.Rows.ne_str (.now R (.bool _) q)
 | isN=>
  refine V₂.noneE ?_
  refine ex02 (isNone_plain V₁) ?_;intro a b
  exact wpAny_is_plain a (.now R (.bool _) (by refine rwG b ?_;exact q))
 | isNotN=>
  refine V₂.noneE ?_
  refine ex02 (isNone_plain V₁) ?_;intro a b
  exact wpAny_isNot_plain a (.now R (.bool _) (by refine rwG b ?_;exact q))
 | inT h1 h2 h3 h4 h5=>
  refine ex11 (reads_of R.core.frz V₁ h1) ?_;intro as r
  refine ex11 (reads_of R.core.frz V₂ (by (rewrite [pyD];refine rwG h2 ?_);rfl)) ?_;intro bs r'
  exact SeqAt.in_tuple_reads r' r h3 h4 (units1 hu hn h5 cL) (.now R (.bool _) q)
 | notInT h1 h2 h3 h4 h5=>
  refine ex11 (reads_of R.core.frz V₁ h1) ?_;intro as r
  refine ex11 (reads_of R.core.frz V₂ (by (rewrite [pyD];refine rwG h2 ?_);rfl)) ?_;intro bs r'
  exact SeqAt.notIn_tuple_reads r' r h3 h4 (units1 hu hn h5 cL) (.now R (.bool _) q)
 | eqD h1 h2 h3 h4 h5=>
  refine ex11 (reads_of R.core.frz V₁ h1) ?_;intro as r
  refine ex11 (reads_of R.core.frz V₂ h2) ?_;intro bs r'
  exact SeqAt.compareEq_reads r r' h3 h4 (units2 hu hn h5 cL) (.now R (.bool _) q)
 | neD h1 h2 h3 h4 h5=>
  refine ex11 (reads_of R.core.frz V₁ h1) ?_;intro as r
  refine ex11 (reads_of R.core.frz V₂ h2) ?_;intro bs r'
  exact SeqAt.compareNe_reads r r' h3 h4 (units2 hu hn h5 cL) (.now R (.bool _) q)
 | inD=>
  refine V₁.strE fun _=>V₂.dctE fun _ _ _ _ h1 h2 h3 h4 h5 h6=>?_
  refine ex13 (dict_of (R.core.frz _ _ h1) h2 h3 h4 h5) ?_;intro kvs dd e _
  exact wpAny_in_of (knd:=strKind pw G.w) (is_str _ _) h6 dd.mapOf (.now (R.tok _) (.bool _) (by (refine rwG isSome_valueAt ?_;refine rwG e ?_);exact q))
 | notInD=>
  refine V₁.strE fun _=>V₂.dctE fun _ _ _ _ h1 h2 h3 h4 h5 h6=>?_
  refine ex13 (dict_of (R.core.frz _ _ h1) h2 h3 h4 h5) ?_;intro kvs dd e _
  exact wpAny_notIn_of (knd:=strKind pw G.w) (is_str _ _) h6 dd.mapOf (.now (R.tok _) (.bool _) (by (refine rwG isSome_valueAt ?_;refine rwG e ?_);exact q))
 | inM ha=>
  refine V₁.strE fun _=>V₂.refE ?_
  obtain ⟨o,ho,O⟩:=R.store ha
  refine ex24 O.inv ?_;intro _ _ h2 h3 h4 h5
  refine ex13 (dict_of ho h2 h3 h4 h5) ?_;intro kvs dd e _
  exact wpAny_in_of (knd:=strKind pw G.w) (is_str _ _) (notSys R ha) dd.mapOf (.now (R.tok _) (.bool _) (by (refine rwG isSome_valueAt ?_;refine rwG e ?_);exact q))
 | notInM ha=>
  refine V₁.strE fun _=>V₂.refE ?_
  obtain ⟨o,ho,O⟩:=R.store ha
  refine ex24 O.inv ?_;intro _ _ h2 h3 h4 h5
  refine ex13 (dict_of ho h2 h3 h4 h5) ?_;intro kvs dd e _
  exact wpAny_notIn_of (knd:=strKind pw G.w) (is_str _ _) (notSys R ha) dd.mapOf (.now (R.tok _) (.bool _) (by (refine rwG isSome_valueAt ?_;refine rwG e ?_);exact q))
end
end Mine
end
section
open PySem PySem.W PySem.Calls PyProof.Rows
namespace Mine
set_option backward.match.sparseCases false
variable {G:Glob}
theorem subscripted_of (slice:Expr) (o i:Value):∃ops,subscripted slice false o i=operate ops (getItem o i):=by
 cases slice<;>first | exact ⟨_,rfl⟩ | skip
 rename_i l u st p
 cases st<;>exact ⟨_,rfl⟩
theorem adjust_two (a b n:Nat) (ha:a≤n):Builtin.Slice.sliceAdjust (some (a:Int)) (some (b:Int)) 1 (n:Int)=((a:Int),((min b n:Nat):Int)):=by
 unfold Builtin.Slice.sliceAdjust
 have h1:¬ ((1:Int) < 0):=by lia
 have h2:¬ ((a:Int) < 0):=Int.not_lt.mpr (Int.natCast_nonneg a)
 have h3:¬ ((b:Int) < 0):=Int.not_lt.mpr (Int.natCast_nonneg b)
 simp only [h1,h2,h3,if_false]
 congr 1
 ·lia
 ·lia
theorem places_two (a b:Nat):Builtin.Slice.slicePlaces (a:Int) (b:Int) 1=b - a:=by
 unfold Builtin.Slice.slicePlaces
 have h1:(1:Int) > 0:=by lia
 simp only [h1,if_true,Int.ediv_one]
 split<;>lia
theorem drop_take_pick (xs:Array Value) (a n:Nat) (hn:a + n≤xs.size):((List.range n).filterMap fun (k:Nat)=>xs[((a:Int) + (k:Int) * 1).toNat]?)=(xs.toList.drop a).take n:=by
 apply List.ext_getElem?
 intro i
 have e:(fun (k:Nat)=>xs[((a:Int) + (k:Int) * 1).toNat]?)=fun k=>xs[a + k]?:=by
  funext k
  have:((a:Int) + (k:Int) * 1).toNat=a + k:=by lia
  refine rwG this ?_;rfl
 refine rwG e ?_
 have e2:∀m,m≤n→(List.range m).filterMap (fun k=>xs[a + k]?)=(xs.toList.drop a).take m:=by
  intro m
  induction m with
  | zero=>intro _;(refine rwG List.range_zero ?_;refine rwG List.take_zero ?_);rfl
  | succ m ih=>
   intro hm
   have h1:a + m < xs.size:=by lia
   refine rwG List.range_succ ?_;refine rwG List.filterMap_append ?_;refine rwG (ih (by lia)) ?_;refine rwG List.take_add_one ?_;refine rwG List.getElem?_drop ?_
   simp [h1]
 refine rwG (e2 n (Nat.le_refl _)) ?_;rfl
section
variable {k:Sk} {Γ:Loc} {σ:Sto} {E:Exn→Sto→Prop} {X:Cx} {φ φ':Fz} {s:Shared}
theorem tup_two {A:Around} {s:Shared} {E:Value→Shared→Prop} {t sl:Addr} {items:Array Value} {a b:Nat} {u u':Tok} {Q:Value→Shared→Prop} (ht:IsTup s.heap t items) (hs:s.heap.IsSliceOf sl (.int a u) (.int b u') .none)
  (h1:1≤a) (ha:a≤items.size)
  (h:Q (.ref s.heap.objs.size) { s with heap:=s.heap.push { cls:=.type "tuple",data:=.seq ((items.toList.drop a).take (min b items.size - a)).toArray } })
  (hsz:items.size≤sizeLine):wpAny (M G) A (getItem (.ref t) (.ref sl)) Q E s:=by
 have hdrop:sizeOk (.seq ((items.toList.drop a).take (min b items.size - a)).toArray):=by
  refine (?_:((items.toList.drop a).take (min b items.size - a)).toArray.size≤sizeLine)
  refine rwG List.size_toArray ?_;refine rwG List.length_take ?_;refine rwG List.length_drop ?_;refine rwG Array.length_toList ?_
  exact Nat.le_trans (Nat.min_le_right _ _) (Nat.le_trans (Nat.sub_le _ _) hsz)
 refine ex13 (id hs) ?_;intro os hos hcs hds
 have hTs:s.TypeIs (.ref sl) "slice":=⟨os,hos,hcs⟩
 unfold getItem
 try with_reducible refine wpAny_holding ?_
 first | refine wpAny_bind (wpAny_pure ?_) | skip
 refine wpAny_bind (wpAny_sequenceKey ht.typeIs (by decide) ?_)
 refine wpAny_bind (wpAny_callSpecial?_slot (name:=S_ "__getitem__") ht.typeIs slot_tuple_getitem
  (wpAny_call_entry slot_tuple_getitem ht.typeIs entry_tuple_getitem ?_ (args_tuple_getitem _ _)))
 refine (?_:wpAny _ _ (Builtin.Tuple.tupleItemsOf (.ref t) >>= _) _ _ s)
 refine wpAny_bind (tupleItemsOf_ ht ?_)
 refine wpAny_bind (wpAny_typeOf hTs ?_)
 refine rwG (if_pos (by decide)) ?_
 have hap:wpAny (M G) A.in1 (Builtin.Slice.sliceApplied (.ref sl) (pure ((items.size:Nat):Int))) (fun r s'=>r=((a:Int),1,min b items.size - a)∧s'=s) E s:=by
  unfold Builtin.Slice.sliceApplied Builtin.Slice.sliceFields
  refine wpAny_bind (wpAny_bind (wpAny_field hos hds (x:=.int a u) rfl (wpAny_bind (wpAny_field hos hds (x:=.int b u') rfl (wpAny_bind (wpAny_field hos hds (x:=.none) rfl (wpAny_pure ?_)))))))
  refine wpAny_bind (slicePart_none ?_)
  refine (?_:wpAny _ _ (if ((1:Int)==0)=true then _ else _) _ _ s)
  refine rwG (if_neg (by decide)) ?_
  refine wpAny_bind (slicePart_int (wpAny_bind (slicePart_int (wpAny_bind (wpAny_pure ?_)))))
  refine (?_:wpAny _ _ (match Builtin.Slice.sliceAdjust (some (a:Int)) (some (b:Int)) 1 ((items.size:Nat):Int) with | (lo,hi)=>pure (lo,(1:Int),Builtin.Slice.slicePlaces lo hi 1)) _ _ s)
  refine rwG (adjust_two a b _ ha) ?_
  refine (?_:wpAny _ _ (pure ((a:Int),(1:Int),Builtin.Slice.slicePlaces (a:Int) ((min b items.size:Nat):Int) 1)) _ _ s)
  rw [places_two]
  exact wpAny_pure ⟨rfl,rfl⟩
 refine wpAny_bind (wpAny_mono hap (fun r s' hr=>?_) fun _ _ x=>x)
 refine ex02 hr ?_;clear hr;rintro rfl rfl
 have hno:¬ (((a:Int)==0&&(1:Int)==1&&(min b items.size - a)==items.size)=true):=by
  have:((a:Int)==0)=false:=beq_eq_false_iff_ne.mpr (Int.ne_of_gt (Int.ofNat_lt.mpr h1))
  refine rwG this ?_;simp
 refine (?_:wpAny _ _ (if ((a:Int)==0&&(1:Int)==1&&(min b items.size - a)==items.size)=true then _ else _) _ _ s')
 refine rwG (if_neg hno) ?_
 by_cases hb:a≤min b items.size
 ·refine rwG (drop_take_pick items a (min b items.size - a) (Nat.le_trans (Nat.le_of_eq (Nat.add_sub_cancel' hb)) (Nat.min_le_right _ _))) ?_
  exact wpAny_bind (m:=Builtin.Tuple.tupleExact _) (wpAny_newObj_type (wpAny_pure ⟨_,rfl,wpAny_pure h⟩) hdrop)
 ·have z:min b items.size - a=0:=Nat.sub_eq_zero_of_le (Nat.le_of_lt (Nat.not_le.mp hb))
  rw [z] at h hdrop ⊢
  rw [List.take_zero] at h hdrop
  exact wpAny_bind (m:=Builtin.Tuple.tupleExact _) (wpAny_newObj_type (wpAny_pure ⟨_,rfl,wpAny_pure h⟩) hdrop)
noncomputable def pickV (vs:List Value) (lo hi st:Option Int):List Value:=
 (sliceRange (sliceBounds lo hi st vs.length).1 (sliceBounds lo hi st vs.length).2.1 (sliceBounds lo hi st vs.length).2.2).filterMap (vs[·]?)
theorem seqOf_pick (vs:List Value) (lo hi st:Option Int):Data.seq (slicePick vs.toArray lo hi st)=Data.seq (pickV vs lo hi st).toArray 0:=by
 unfold slicePick pickV
 simp
theorem pick_of {φ:Fz} {vs:List Value} {ds:List D} (h:VRs G φ vs ds) {lo hi st:Option Int}:VRs G φ (pickV vs lo hi st) (pick ds lo hi st):=by
 unfold pick pickV
 refine rwG h.length ?_
 exact h.pick _
inductive SubR (σ:Sto):D→D→D→Prop
 | tupI {ds:List D} {i:Int} {j:Nat} {d:D}:-(2 ^ 63)≤i→i < 2 ^ 63→seqIndex? i ds.length=some j→ds[j]?=some d→SubR σ (.tup ds) (.int i) d
 | lstI {ds:List D} {i:Int} {d:D}:0≤i→i < 2 ^ 63→ds[i.toNat]?=some d→SubR σ (.lst ds) (.int i) d
 | lstM {a:Addr} {ds:List D} {i:Int} {d:D}:σ a=some (.list ds)→0≤i→i < 2 ^ 63→ds[i.toNat]?=some d→SubR σ (.ref a) (.int i) d
 | dctK {es:List (Str×D)} {x:Str} {d:D}:(x,d)∈es→SubR σ (.dct es) (.str x) d
 | dctM {a:Addr} {es:List (Str×D)} {x:Str} {d:D}:σ a=some (.dict es)→(x,d)∈es→SubR σ (.ref a) (.str x) d
 | tupF {ds:List D} {n:Nat}:1≤n→n≤ds.length→ds.length≤sizeLine→SubR σ (.tup ds) (.slc (some (n:Int)) none none) (.tup (ds.drop n))
 | tupT {ds:List D} {n m:Nat}:1≤n→n≤ds.length→ds.length≤sizeLine→SubR σ (.tup ds) (.slc (some (n:Int)) (some (m:Int)) none) (.tup ((ds.drop n).take (min m ds.length - n)))
 | strI {x:Str} {i:Int} {c:Nat}:0≤i→i < 2 ^ 63→x.cps[i.toNat]?=some c→SubR σ (.str x) (.int i) (.str ⟨#[c]⟩)
 | lstS {ds:List D} {lo hi st:Option Int}:st≠some 0→ds.length≤sizeLine→SubR σ (.lst ds) (.slc lo hi st) (.lst (pick ds lo hi st))
 | lstSM {a:Addr} {ds:List D} {lo hi st:Option Int}:σ a=some (.list ds)→st≠some 0→ds.length≤sizeLine→SubR σ (.ref a) (.slc lo hi st) (.lst (pick ds lo hi st))
inductive SlcI (h:Heap) (v:Value) (lo hi st:Option Int):Prop
 | mk (a:Addr) (vl vu vs:Value):v=.ref a→h.IsSliceOf a vl vu vs→IsPart vl lo→IsPart vu hi→IsPart vs st→SlcI h v lo hi st
theorem slice_of {φ:Fz} {h:Heap} (kf:∀a o,φ a=some o→h.get? a=some o) {v:Value} {lo hi st:Option Int} (V:VR G φ v (.slc lo hi st)):SlcI h v lo hi st:=by
 obtain ⟨a,vl,vu,vs,e,g,p,q,r⟩:=V.inv
 exact ⟨a,vl,vu,vs,e,⟨_,kf _ _ g,rfl,rfl⟩,p,q,r⟩
theorem SubR.ok {d i r:D} (h:SubR σ d i r) (R:Real G X φ Γ σ s) {v w:Value} (V:VR G φ v d) (W:VR G φ w i) {Q:D→Sto→Prop} (q:Q r σ) {E:Value→Shared→Prop} (value slice:Expr):
  wpAny (M G) X.A (subscriptTail value slice v w) (PostV G X φ Γ Q) E s:=by
 induction h with
 | tupI h1 h2 h3 h4=>
  refine W.intE fun tw=>?_
  refine V.tupE fun va vo vs0 vn g1 g2 g3 g4=>?_
  refine ex12 (g4.at h4) ?_;intro x hx VX
  have ht:IsTup s.heap _ _:=⟨_,R.core.frz _ _ g1,g2,_,g3⟩
  exact tail_any ht.typeIs slot_tuple_getitem.lookup (getItem_tuple ht h1 h2 (by (refine rwG List.size_toArray ?_;refine rwG g4.length ?_);exact h3) (by simpa using hx) (.now R VX q)) (subscripted_of slice _ _).choose_spec
 | lstI h1 h2 h3=>
  refine W.intE fun tw=>?_
  refine V.lstE fun va vo vs0 vn g1 g2 g3 g4=>?_
  refine ex12 (g4.at h3) ?_;intro x hx VX
  have ht:s.heap.IsList _ _:=⟨_,R.core.frz _ _ g1,g2,_,g3⟩
  exact tail_any ht.typeIs slot_list_getitem.lookup (wpAny_getItem_list ht h1 h2 (by simpa using hx) (.now R VX q)) (subscripted_of slice _ _).choose_spec
 | lstM ha h1 h2 h3=>
  refine W.intE fun tw=>?_
  refine V.refE ?_
  obtain ⟨o,ho,O⟩:=R.store ha
  refine ex22 O.inv ?_;rintro vs0 vn rfl g4
  refine ex12 (g4.at h3) ?_;intro x hx VX
  have ht:s.heap.IsList _ _:=⟨_,ho,rfl,_,rfl⟩
  exact tail_any ht.typeIs slot_list_getitem.lookup (wpAny_getItem_list ht h1 h2 (by simpa using hx) (.now R VX q)) (subscripted_of slice _ _).choose_spec
 | @strI x i c h1 h2 h3=>
  refine W.intE fun tw=>?_
  refine V.strE fun tv=>?_
  refine ex11 (Int.eq_ofNat_of_zero_le h1) ?_;rintro j rfl
  have h3:x.cps[j]?=some c:=h3
  have hj:j < x.length:=(Array.getElem?_eq_some_iff.mp h3).1
  refine tail_any (typeIs_str _ _ _) slot_str_getitem.lookup (PyProof.Rows.getItem_str (c:=c) ?_ ?_ (.now (R.tok _) (.str _ _) q)) (subscripted_of slice _ _).choose_spec
  ·rw [Bool.or_eq_false_iff,decide_eq_false_iff_not,decide_eq_false_iff_not];lia
  ·have:seqIndex? (j:Int) x.length=some j:=by
    unfold seqIndex?
    have:¬ (j:Int) < 0:=by lia
    simp [this,hj]
   refine rwG this ?_;exact h3
 | dctK h1=>
  refine W.strE fun tw=>?_
  refine V.dctE fun va vo vs0 vn g1 g2 g3 g4 g5 g6=>?_
  refine ex13 (dict_of (R.core.frz _ _ g1) g2 g3 g4 g5) ?_;intro kvs dd e f
  refine ex12 (f _ _ h1) ?_;intro x hx VX
  exact tail_any dd.typeIs slot_dict_getitem.lookup (wpAny_getItem_of (is_str _ _) dd.mapOf hx (.now (R.tok _) VX q)) (subscripted_of slice _ _).choose_spec
 | dctM ha h1=>
  refine W.strE fun tw=>?_
  refine V.refE ?_
  obtain ⟨o,ho,O⟩:=R.store ha
  refine ex24 O.inv ?_;intro vl vn g2 g3 g4 g5
  refine ex13 (dict_of ho g2 g3 g4 g5) ?_;intro kvs dd e f
  refine ex12 (f _ _ h1) ?_;intro x hx VX
  exact tail_any dd.typeIs slot_dict_getitem.lookup (wpAny_getItem_of (is_str _ _) dd.mapOf hx (.now (R.tok _) VX q)) (subscripted_of slice _ _).choose_spec
 | tupF h1 h2 h3=>
  obtain ⟨sl,vl,vu,vs,rfl,hsl,p1,p2,p3⟩:=slice_of R.core.frz W
  cases p1;cases p2;cases p3
  refine V.tupE fun va vo vs0 vn g1 g2 g3 g4=>?_
  have ht:IsTup s.heap _ _:=⟨_,R.core.frz _ _ g1,g2,_,g3⟩
  obtain ⟨le,R'⟩:=R.pushF (tk:=s.toks) { cls:=.type "tuple",data:=.seq (vs0.drop _).toArray }
  refine tail_any ht.typeIs slot_tuple_getitem.lookup (getItem_tuple_from ht hsl h1 (by (refine rwG List.size_toArray ?_;refine rwG g4.length ?_);exact h2) ⟨_,σ,_,le,R',.tup set_self rfl rfl ((g4.drop _).mono le),q⟩ (by (refine rwG List.size_toArray ?_;refine rwG g4.length ?_);exact h3)) (subscripted_of slice _ _).choose_spec
 | @tupT ds0 n0 m0 h1 h2 h3=>
  obtain ⟨sl,vl,vu,vs,rfl,hsl,p1,p2,p3⟩:=slice_of R.core.frz W
  cases p1;cases p2;cases p3
  refine V.tupE fun va vo vs0 vn g1 g2 g3 g4=>?_
  have ht:IsTup s.heap _ _:=⟨_,R.core.frz _ _ g1,g2,_,g3⟩
  refine tail_any ht.typeIs slot_tuple_getitem.lookup (tup_two ht hsl h1 (by (refine rwG List.size_toArray ?_;refine rwG g4.length ?_);exact h2) ?_ (by (refine rwG List.size_toArray ?_;refine rwG g4.length ?_);exact h3)) (subscripted_of slice _ _).choose_spec
  obtain ⟨le,R'⟩:=R.pushF (tk:=s.toks) { cls:=.type "tuple",data:=.seq ((vs0.toArray.toList.drop _).take (min _ vs0.toArray.size - _)).toArray }
  refine ⟨_,σ,_,le,R',.tup set_self rfl rfl ?_,q⟩
  have z:=VRs.mono le (VRs.take (min m0 ds0.length - n0) (VRs.drop n0 g4))
  have e:vs0.toArray.size=ds0.length:=by (refine rwG List.size_toArray ?_;refine rwG g4.length ?_;rfl)
  refine rwG e ?_
  rw [e] at z
  exact z
 | @lstS ds0 lo0 hi0 st0 h1 h2=>
  obtain ⟨sl,vl,vu,vs,rfl,hsl,p1,p2,p3⟩:=slice_of R.core.frz W
  refine V.lstE fun va vo vs0 vn g1 g2 g3 g4=>?_
  have ht:s.heap.IsList _ _:=⟨_,R.core.frz _ _ g1,g2,_,g3⟩
  refine tail_any ht.typeIs slot_list_getitem.lookup (wpAny_getItem_list_slice ht hsl p1 p2 p3 h1 ?_ (by (refine rwG List.size_toArray ?_;refine rwG g4.length ?_);exact h2)) (subscripted_of slice _ _).choose_spec
  obtain ⟨le,R'⟩:=R.pushF (tk:=s.toks) { cls:=.type "list",data:=.seq (slicePick vs0.toArray _ _ _) }
  exact ⟨_,σ,_,le,R',.lst (n:=0) set_self rfl (seqOf_pick vs0 lo0 hi0 st0) ((pick_of g4).mono le),q⟩
 | @lstSM a0 ds0 lo0 hi0 st0 ha h1 h2=>
  obtain ⟨sl,vl,vu,vs,rfl,hsl,p1,p2,p3⟩:=slice_of R.core.frz W
  refine V.refE ?_
  obtain ⟨o,ho,O⟩:=R.store ha
  refine ex22 O.inv ?_;rintro vs0 vn rfl g4
  have ht:s.heap.IsList _ _:=⟨_,ho,rfl,_,rfl⟩
  refine tail_any ht.typeIs slot_list_getitem.lookup (wpAny_getItem_list_slice ht hsl p1 p2 p3 h1 ?_ (by (refine rwG List.size_toArray ?_;refine rwG g4.length ?_);exact h2)) (subscripted_of slice _ _).choose_spec
  obtain ⟨le,R'⟩:=R.pushF (tk:=s.toks) { cls:=.type "list",data:=.seq (slicePick vs0.toArray _ _ _) }
  exact ⟨_,σ,_,le,R',.lst (n:=0) set_self rfl (seqOf_pick vs0 lo0 hi0 st0) ((pick_of g4).mono le),q⟩
end
end Mine
end
section
open PySem PySem.W PySem.Calls PyProof.Rows
namespace Mine
set_option backward.match.sparseCases false
variable {G:Glob}
theorem vre_of {φ:Fz}:∀{l:List DictEntry} {kvs:List (Str×Value)} {ds:List D},Pairs (strKind pw G.w) l kvs→(∀e∈l,∃k,(strKind pw G.w).is k e.key=true∧e.hash=(strKind pw G.w).hash k)→VRs G φ (kvs.map (·.2)) ds→
  VRe G φ l ((kvs.map (·.1)).zip ds)
 | _,_,_,.nil,_,.nil=>.nil
 | ⟨h,key,v⟩::_,(x,v')::_,_::_,.cons h1 h2 r,k,.cons a b=>by
  refine ex11 (Value.isStrOf_shape (show Value.isStrOf x key=true from h1)) ?_;intro t ht
  refine ex12 (k _ (.head _)) ?_;intro y hy hh
  have e:y=x:=(strKind pw G.w).inj _ _ _ hy h1
  subst e
  dsimp only at ht h2
  subst ht h2
  exact .cons hh a (vre_of r (fun e he=>k e (.tail _ he)) b)
theorem stored_new {kvs:List (Str×Value)} {x:Str} {v:Value} (h:x∉kvs.map (·.1)):stored kvs x v=kvs++[(x,v)]:=by
 unfold stored
 rw [if_neg]
 intro q
 refine ex12 (List.any_eq_true.mp q) ?_;intro p hp e
 exact h (List.mem_map.mpr ⟨p,hp,of_decide_eq_true e⟩)
theorem merged_nodup:∀(kvs acc:List (Str×Value)),((acc++kvs).map (·.1)).Nodup→merged acc kvs=acc++kvs
 | [],acc,_=>by rw [List.append_nil];rfl
 | (x,v)::r,acc,h=>by
  have hx:x∉acc.map (·.1):=by
   rw [List.map_append,List.nodup_append] at h
   intro q
   exact h.2.2 x q x (by exact List.mem_cons_self) rfl
  refine (?_:merged (stored acc x v) r=_)
  refine rwG (stored_new hx) ?_;refine rwG (merged_nodup r (acc++[(x,v)]) (by simpa using h)) ?_
  exact List.append_assoc _ _ _
section
variable {k:Sk} {Γ:Loc} {σ:Sto} {E:Exn→Sto→Prop} {X:Cx} {φ φ':Fz} {s:Shared}
theorem then_ {t:Sem Value} {A:Around} {Q:D→Sto→Prop} {Z:Value→Shared→Prop} {F:Value→Shared→Prop} (h:wpAny (M G) A t (PostV G X φ Γ Q) (PostE G X φ E) s)
  (f:∀φ₁ σ₁ d v s₁,φ.le φ₁→Real G X φ₁ Γ σ₁ s₁→VR G φ₁ v d→Q d σ₁→Z v s₁) (g:∀e s',PostE G X φ E e s'→F e s'):wpAny (M G) A t Z F s:=
 thV h (fun v s₁ φ₁ σ₁ d=>f φ₁ σ₁ d v s₁) g
theorem WE.bin {l r:Expr} {op:Operator} {p:Pos} {Q:D→Sto→Prop} (h:WE G k Γ σ l (fun d₁ σ₁=>WE G k Γ σ₁ r (fun d₂ σ₂=>∃d,BinR op d₁ d₂ d∧Q d σ₂) E) E):WE G k Γ σ (.BinOp l op r p) Q E:=fun X hX φ s R=>by
 refine wpAny_BinOp (then_ (h X hX φ s R) (fun φ₁ σ₁ d₁ v₁ s₁ l₁ R₁ V₁ q=>?_) fun _ _ x=>x)
 refine then_ (q X hX φ₁ s₁ R₁) (fun φ₂ σ₂ d₂ v₂ s₂ l₂ R₂ V₂ q₂=>?_) fun _ _ x=>x.le l₁
 refine ex12 q₂ ?_;clear q₂;intro d hb hq
 exact wpAny_mono (hb.ok R₂ (V₁.mono l₂) V₂ hq (E:=fun _ _=>False)) (fun _ _ x=>x.le (l₁.trans l₂)) fun _ _ x=>x.elim
theorem WE.addNew {l r:Expr} {p:Pos} {Q:D→Sto→Prop} (h:WE G k Γ σ l (fun d₁ σ₁=>WE G k Γ σ₁ r (fun d₂ σ₂=>∃a b,d₁=.lst a∧d₂=.lst b∧a.length + b.length≤sizeLine∧∀x,σ₂ x=none→Q (.ref x) (σ₂.set x (.list (a++b)))) E) E):
  WE G k Γ σ (.BinOp l .Add r p) Q E:=fun X hX φ s R=>by
 refine wpAny_BinOp (then_ (h X hX φ s R) (fun φ₁ σ₁ d₁ v₁ s₁ l₁ R₁ V₁ q=>?_) fun _ _ x=>x)
 refine then_ (q X hX φ₁ s₁ R₁) (fun φ₂ σ₂ d₂ v₂ s₂ l₂ R₂ V₂ q₂=>?_) fun _ _ x=>x.le l₁
 refine ex24 q₂ ?_;clear q₂;rintro a b rfl rfl hz hq
 have V₁:=V₁.mono l₂
 refine V₁.lstE fun _ _ vs _ h1 h2 h3 h4=>V₂.lstE fun _ _ ws _ g1 g2 g3 g4=>?_
 refine add_two (R₂.core.frz _ _ h1) h2 h3 (R₂.core.frz _ _ g1) g2 g3 (by (refine rwG h4.length ?_;refine rwG g4.length ?_);exact hz) ?_
 exact ⟨φ₂,_,_,l₁.trans l₂,R₂.pushS (tk:=s₂.toks) _ (.list (h4.append g4)),.ref _,hq _ R₂.size.2.1⟩
theorem WE.cmp {l r:Expr} {op:CmpOp} {p:Pos} {Q:D→Sto→Prop} (hn:k.n≤1000) (h:WE G k Γ σ l (fun d₁ σ₁=>WE G k Γ σ₁ r (fun d₂ σ₂=>∃b,CmpR σ₂ op d₁ d₂ b∧Q (.bool b) σ₂) E) E)
  (hm:behindInMarks op r=false:=by with_unfolding_all rfl):WE G k Γ σ (.Compare l [op] [r] p) Q E:=fun X hX φ s R=>by
 refine wpAny_Compare1 (then_ (h X hX φ s R) (fun φ₁ σ₁ d₁ v₁ s₁ l₁ R₁ V₁ q=>?_) fun _ _ x=>x) hm
 refine then_ (q X hX φ₁ s₁ R₁) (fun φ₂ σ₂ d₂ v₂ s₂ l₂ R₂ V₂ q₂=>?_) fun _ _ x=>x.le l₁
 refine ex12 q₂ ?_;clear q₂;intro b hb hq
 exact wpAny_mono (hb.ok hX hn R₂ (V₁.mono l₂) V₂ hq (E:=fun _ _=>False)) (fun _ _ x=>x.le (l₁.trans l₂)) fun _ _ x=>x.elim
theorem WT.cmp {l r:Expr} {op:CmpOp} {p:Pos} {Q:Bool→Sto→Prop} (hn:k.n≤1000) (h:WE G k Γ σ l (fun d₁ σ₁=>WE G k Γ σ₁ r (fun d₂ σ₂=>∃b,CmpR σ₂ op d₁ d₂ b∧Q b σ₂) E) E)
  (hm:behindInMarks op r=false:=by with_unfolding_all rfl):WT G k Γ σ (.Compare l [op] [r] p) Q E:=fun X hX φ s R=>by
 refine wpAny_isTrue_Compare1 (then_ (h X hX φ s R) (fun φ₁ σ₁ d₁ v₁ s₁ l₁ R₁ V₁ q=>?_) fun _ _ x=>x) hm
 refine then_ (q X hX φ₁ s₁ R₁) (fun φ₂ σ₂ d₂ v₂ s₂ l₂ R₂ V₂ q₂=>?_) fun _ _ x=>x.le l₁
 refine ex12 q₂ ?_;clear q₂;intro b hb hq
 refine wpAny_mono (hb.ok hX hn R₂ (V₁.mono l₂) V₂ (Q:=fun d σ'=>d=.bool b∧σ'=σ₂) ⟨rfl,rfl⟩ (E:=fun _ _=>False)) (fun v s₃ x=>?_) fun _ _ x=>x.elim
 obtain ⟨φ₃,σ₃,d,l₃,R₃,V,rfl,rfl⟩:=x
 exact V.boolE <| wpAny_truthy_bool ⟨φ₃,_,l₁.trans (l₂.trans l₃),R₃,hq⟩
theorem WT.and {x:Expr} {rest:List Expr} {p:Pos} {Q:Bool→Sto→Prop} (h:WT G k Γ σ x (fun b σ₁=>if b=true then WT G k Γ σ₁ (.BoolOp .And rest p) Q E else Q false σ₁) E):WT G k Γ σ (.BoolOp .And (x::rest) p) Q E:=fun X hX φ s R=>by
 refine wpAny_isTrue_BoolOp (wpAny_allTrue_And_cons (thB (h X hX φ s R) (fun b s₁ φ₁ σ₁ l₁ R₁ q=>?_) fun _ _ x=>x))
 cases b with
 | false=>exact ⟨φ₁,σ₁,l₁,R₁,q⟩
 | true=>
  exact wpAny_mono (q X hX φ₁ s₁ R₁) (fun _ _ x=>x.le l₁) fun _ _ x=>x.le l₁
theorem WT.and_nil {p:Pos} {Q:Bool→Sto→Prop} (h:Q true σ):WT G k Γ σ (.BoolOp .And [] p) Q E:=fun X hX φ s R=>wpAny_isTrue_BoolOp (wpAny_allTrue_And_nil ⟨φ,σ,φ.le_refl,R,h⟩)
theorem WT.or {x:Expr} {rest:List Expr} {p:Pos} {Q:Bool→Sto→Prop} (h:WT G k Γ σ x (fun b σ₁=>if b=true then Q true σ₁ else WT G k Γ σ₁ (.BoolOp .Or rest p) Q E) E):WT G k Γ σ (.BoolOp .Or (x::rest) p) Q E:=fun X hX φ s R=>by
 refine wpAny_isTrue_BoolOp (wpAny_allTrue_Or_cons (thB (h X hX φ s R) (fun b s₁ φ₁ σ₁ l₁ R₁ q=>?_) fun _ _ x=>x))
 cases b with
 | true=>exact ⟨φ₁,σ₁,l₁,R₁,q⟩
 | false=>
  exact wpAny_mono (q X hX φ₁ s₁ R₁) (fun _ _ x=>x.le l₁) fun _ _ x=>x.le l₁
theorem WT.or_nil {p:Pos} {Q:Bool→Sto→Prop} (h:Q false σ):WT G k Γ σ (.BoolOp .Or [] p) Q E:=fun X hX φ s R=>wpAny_isTrue_BoolOp (wpAny_allTrue_Or_nil ⟨φ,σ,φ.le_refl,R,h⟩)
theorem WT.nameB {x:Str} {p:Pos} {Q:Bool→Sto→Prop} (h:WE G k Γ σ (.Name x p) (fun d σ₁=>∃b,d=.bool b∧Q b σ₁) E):WT G k Γ σ (.Name x p) Q E:=fun X hX φ s R=>by
 refine wpAny_isTrue_value (then_ (h X hX φ s R) (fun φ₁ σ₁ d₁ v₁ s₁ l₁ R₁ V₁ q=>?_) fun _ _ x=>x)
 refine ex12 q ?_;clear q;rintro b rfl q
 exact V₁.boolE <| wpAny_truthy_bool ⟨φ₁,σ₁,l₁,R₁,q⟩
theorem WE.ifx {test body orelse:Expr} {p:Pos} {Q:D→Sto→Prop} (h:WT G k Γ σ test (fun b σ₁=>if b=true then WE G k Γ σ₁ body Q E else WE G k Γ σ₁ orelse Q E) E):WE G k Γ σ (.IfExp test body orelse p) Q E:=fun X hX φ s R=>by
 refine wpAny_IfExp (thB (h X hX φ s R) (fun b s₁ φ₁ σ₁ l₁ R₁ q=>?_) fun _ _ x=>x)
 cases b with
 | true=>exact wpAny_mono (q X hX φ₁ s₁ R₁) (fun _ _ x=>x.le l₁) fun _ _ x=>x.le l₁
 | false=>exact wpAny_mono (q X hX φ₁ s₁ R₁) (fun _ _ x=>x.le l₁) fun _ _ x=>x.le l₁
theorem WE.and2 {x y:Expr} {p:Pos} {Q:D→Sto→Prop} (h:WE G k Γ σ x (fun d σ₁=>∃b,d=.bool b∧if b=true then WE G k Γ σ₁ y Q E else Q d σ₁) E):WE G k Γ σ (.BoolOp .And [x,y] p) Q E:=fun X hX φ s R=>by
 refine wpAny_And2 (then_ (h X hX φ s R) (fun φ₁ σ₁ d₁ v₁ s₁ l₁ R₁ V₁ q=>?_) fun _ _ x=>x)
 refine ex12 q ?_;clear q;rintro b rfl q
 refine V₁.boolE ?_
 refine wpAny_truthy_bool ?_
 cases b with
 | true=>exact wpAny_mono (q X hX φ₁ s₁ R₁) (fun _ _ x=>x.le l₁) fun _ _ x=>x.le l₁
 | false=>exact ⟨φ₁,σ₁,_,l₁,R₁,.bool _,q⟩
theorem WE.sub {value slice:Expr} {p:Pos} {Q:D→Sto→Prop} (h:WE G k Γ σ value (fun d₁ σ₁=>WE G k Γ σ₁ slice (fun d₂ σ₂=>∃d,SubR σ₂ d₁ d₂ d∧Q d σ₂) E) E):WE G k Γ σ (.Subscript value slice p) Q E:=fun X hX φ s R=>by
 refine Subscript_ (then_ (h X hX φ s R) (fun φ₁ σ₁ d₁ v₁ s₁ l₁ R₁ V₁ q=>?_) fun _ _ x=>x)
 refine then_ (q X hX φ₁ s₁ R₁) (fun φ₂ σ₂ d₂ v₂ s₂ l₂ R₂ V₂ q₂=>?_) fun _ _ x=>x.le l₁
 refine ex12 q₂ ?_;clear q₂;intro d hb hq
 exact wpAny_mono (hb.ok R₂ (V₁.mono l₂) V₂ hq (E:=fun _ _=>False) value slice) (fun _ _ x=>x.le (l₁.trans l₂)) fun _ _ x=>x.elim
inductive PartR:D→Option Int→Prop
 | none:PartR .none none
 | int {i:Int}:PartR (.int i) (some i)
theorem PartR.ok {d:D} {o:Option Int} (h:PartR d o) {v:Value} (V:VR G φ v d):IsPart v o:=by
 induction h with
 | none=>exact V.noneE .none
 | int=>exact V.intE fun t=>.int _ t
noncomputable def WP (G:Glob) (k:Sk) (Γ:Loc) (σ:Sto) (e:Option Expr) (Q:D→Sto→Prop) (E:Exn→Sto→Prop):Prop:=match e with
 | some e=>WE G k Γ σ e Q E
 | none=>Q .none σ
theorem WP.ok {e:Option Expr} {Q:D→Sto→Prop} (h:WP G k Γ σ e Q E) (hX:CxOk k X) (R:Real G X φ Γ σ s):wpAny (M G) X.A (evalPart e X.env) (PostV G X φ Γ Q) (PostE G X φ E) s:=by
 induction e with
 | some e=>exact wpAny_evalPart_some (h X hX φ s R)
 | none=>exact wpAny_evalPart_none (.now R .none h)
theorem WE.slice {l u st:Option Expr} {p:Pos} {Q:D→Sto→Prop} (h:WP G k Γ σ l (fun d₁ σ₁=>WP G k Γ σ₁ u (fun d₂ σ₂=>WP G k Γ σ₂ st (fun d₃ σ₃=>∃a b c,PartR d₁ a∧PartR d₂ b∧PartR d₃ c∧Q (.slc a b c) σ₃) E) E) E):
  WE G k Γ σ (.Slice l u st p) Q E:=fun X hX φ s R=>by
 refine wpAny_Slice (then_ (h.ok hX R) (fun φ₁ σ₁ d₁ v₁ s₁ l₁ R₁ V₁ q=>?_) fun _ _ x=>x)
 refine then_ (q.ok hX R₁) (fun φ₂ σ₂ d₂ v₂ s₂ l₂ R₂ V₂ q₂=>?_) fun _ _ x=>x.le l₁
 refine then_ (q₂.ok hX R₂) (fun φ₃ σ₃ d₃ v₃ s₃ l₃ R₃ V₃ q₃=>?_) fun _ _ x=>x.le (l₁.trans l₂)
 refine ex34 q₃ ?_;clear q₃;intro a b c ha hb hc q
 refine ex02 (R₃.pushF (tk:=s₃.toks) { cls:=.type "slice",data:=.fields #[v₁,v₂,v₃] }) ?_;intro le R'
 exact ⟨_,σ₃,_,l₁.trans (l₂.trans (l₃.trans le)),R',.slc set_self (ha.ok ((V₁.mono l₂).mono l₃)) (hb.ok (V₂.mono l₃)) (hc.ok V₃),q⟩
inductive AttrR (σ:Sto):D→Str→D→Prop
 | ins {c:Nat} {fs:List (Str×D)} {x:Str} {d:D}:(c,x)∈attrTab→(x,d)∈fs→AttrR σ (.ins c fs) x d
 | ref {a:Addr} {c:Nat} {dx:Addr} {fs:List (Str×D)} {x:Str} {d:D}:(c,x)∈attrTab→σ a=some (.inst c dx)→σ dx=some (.dict fs)→(x,d)∈fs→AttrR σ (.ref a) x d
theorem AttrR.ok {d r:D} {x:Str} (h:AttrR σ d x r) (R:Real G X φ Γ σ s) {v:Value} (V:VR G φ v d) {Q:D→Sto→Prop} (q:Q r σ) {E:Value→Shared→Prop}:wpAny (M G) X.A (getAttr v x true) (PostV G X φ Γ Q) E s:=by
 have XK:=G.X.keeps R.base
 induction h with
 | @ins c fs x d hc hm=>
  refine ex04 (G.attrs _ hc) ?_;intro h1 h2 h3 _
  refine V.insE fun _ _ _ _ _ g1 g2 g3 g4 g5 g6=>?_
  refine ex12 (lookIn_of g4 g5 g6 hm) ?_;intro v hv W
  exact get_value (x:=_) (C:=G.cad c) XK ⟨R.core.frz _ _ g1,rfl,rfl,R.core.frz _ _ g2⟩ (plainGet_of h1).1 (findObj_own h2 h3 rfl hv) W.handed (.now (R.tok _) W q)
 | @ref a c dx fs x d hc ha hdx hm=>
  refine ex04 (G.attrs _ hc) ?_;intro h1 h2 h3 _
  refine V.refE ?_
  obtain ⟨o,ho,O⟩:=R.store ha
  obtain ⟨o',ho',O'⟩:=R.store hdx
  obtain rfl:=O.inv
  refine ex24 O'.inv ?_;intro _ _ g3 g4 g5 g6
  refine ex12 (lookIn_of g4 g5 g6 hm) ?_;intro v hv W
  exact get_value (x:=_) (C:=G.cad c) XK ⟨ho,rfl,rfl,ho'⟩ (plainGet_of h1).1 (findObj_own h2 h3 rfl hv) W.handed (.now (R.tok _) W q)
theorem WE.attr {value:Expr} {x:Str} {p:Pos} {Q:D→Sto→Prop} (h:WE G k Γ σ value (fun d σ₁=>∃r,AttrR σ₁ d x r∧Q r σ₁) E)
  (he:∀env,eval (.Attribute value x p) env=(do let o←eval value env;standAt p.atName;let r←holding [o] (getAttr o x true);letTemporaryGo value o r;pure r):=by intro _;rfl):
  WE G k Γ σ (.Attribute value x p) Q E:=fun X hX φ s R=>by
 refine Attribute_any_ (then_ (h X hX φ s R) (fun φ₁ σ₁ d₁ v₁ s₁ l₁ R₁ V₁ q=>?_) fun _ _ x=>x) (he _)
 refine ex12 q ?_;clear q;intro r hr hq
 exact wpAny_mono (hr.ok R₁ V₁ hq (E:=fun _ _=>False)) (fun _ _ x=>x.le l₁) fun _ _ x=>x.elim
theorem WE.tup {es:List Expr} {kk:Nat} {p:Pos} {Q:D→Sto→Prop} (h:WA G k Γ σ es (fun ds σ₁=>ds.length≤1000∧Q (.tup ds) σ₁) E):WE G k Γ σ (.Tuple es kk p) Q E:=fun X hX φ s R=>by
 refine Tuple_ (thVs (h p X hX φ s R) (fun vs s₁ φ₁ σ₁ ds l₁ R₁ V₁ qq=>?_) fun _ _ x=>x)
 refine ex02 qq ?_;clear qq;intro hz q
 refine ex02 (R₁.pushF (tk:=s₁.toks) { cls:=.type "tuple",data:=.seq vs.toArray }) ?_;intro le R'
 exact wpAny_newObj_type ⟨_,σ₁,_,l₁.trans le,R',.tup set_self rfl rfl (V₁.mono le),q⟩ (by refine (?_:vs.toArray.size≤sizeLine);(refine rwG List.size_toArray ?_;refine rwG V₁.length ?_;refine rwG sizeLine_eq ?_);exact Nat.le_trans hz (Nat.le_of_ble_eq_true rfl))
theorem WE.lstF {es:List Expr} {p:Pos} {Q:D→Sto→Prop} (h:WA G k Γ σ es (fun ds σ₁=>ds.length≤1000∧Q (.lst ds) σ₁) E):WE G k Γ σ (.List es p) Q E:=fun X hX φ s R=>by
 refine List_ (thVs (h p X hX φ s R) (fun vs s₁ φ₁ σ₁ ds l₁ R₁ V₁ qq=>?_) fun _ _ x=>x)
 refine ex02 qq ?_;clear qq;intro hz q
 refine ex02 (R₁.pushF (tk:=s₁.toks) { cls:=.type "list",data:=.seq vs.toArray }) ?_;intro le R'
 exact wpAny_newObj_type ⟨_,σ₁,_,l₁.trans le,R',.lst set_self rfl rfl (V₁.mono le),q⟩ (by refine (?_:vs.toArray.size≤sizeLine);(refine rwG List.size_toArray ?_;refine rwG V₁.length ?_;refine rwG sizeLine_eq ?_);exact Nat.le_trans hz (Nat.le_of_ble_eq_true rfl))
theorem WE.lstN {es:List Expr} {p:Pos} {Q:D→Sto→Prop} (h:WA G k Γ σ es (fun ds σ₁=>ds.length≤1000∧∀a,σ₁ a=none→Q (.ref a) (σ₁.set a (.list ds))) E):WE G k Γ σ (.List es p) Q E:=fun X hX φ s R=>by
 refine List_ (thVs (h p X hX φ s R) (fun vs s₁ φ₁ σ₁ ds l₁ R₁ V₁ qq=>?_) fun _ _ x=>x)
 refine ex02 qq ?_;clear qq;intro hz q
 exact wpAny_newObj_type ⟨φ₁,_,_,l₁,R₁.pushS (tk:=s₁.toks) _ (.list V₁),.ref _,q _ R₁.size.2.1⟩ (by refine (?_:vs.toArray.size≤sizeLine);(refine rwG List.size_toArray ?_;refine rwG V₁.length ?_;refine rwG sizeLine_eq ?_);exact Nat.le_trans hz (Nat.le_of_ble_eq_true rfl))
theorem WE.dctNil {p:Pos} {Q:D→Sto→Prop} (h:∀a,σ a=none→Q (.ref a) (σ.set a (.dict []))):WE G k Γ σ (.Dict [] [] p) Q E:=fun X hX φ s R=>
 wpAny_Dict_empty ⟨φ,_,_,φ.le_refl,R.pushS (tk:=s.toks) _ (.dict (n:=0) ⟨rfl,rfl,rfl⟩ rfl .nil (by simp)),.ref _,h _ R.size.2.1⟩
theorem WE.defn {x:Str} {i:Nat} {p:Pos} {Q:D→Sto→Prop} (hi:(x,i)∈defTab) (hk:k.sc.names.lookup x=some .globalImplicit) (hd:(x==S_ "__debug__")=false) (h:Q (.fn i 0) σ):WE G k Γ σ (.Name x p) Q E:=fun X hX φ s R=>by
 refine ex02 (G.defs _ hi) ?_;intro h1 h2
 refine Name_function_global (by refine rwG hX.scope ?_;exact hX.kind) (by refine (?_:X.env.scope.names.lookup x=_);refine rwG hX.scope ?_;exact hk) (loadGlobal_global (mg:=G.mg) (by refine rwG hX.globals ?_;exact G.nsG.keeps R.base) h1 ?_) hd
 exact .now R (.fn i 0 (h2.mono R.core.base)) h
theorem WE.clsn {x:Str} {i:Nat} {p:Pos} {Q:D→Sto→Prop} (hi:(x,i)∈clsTab++excTab) (hk:k.sc.names.lookup x=some .globalImplicit) (hd:(x==S_ "__debug__")=false) (h:Q (.cls i) σ):WE G k Γ σ (.Name x p) Q E:=fun X hX φ s R=>by
 have h1:G.mg x=some (.ref (G.cad i)):=by
  rcases List.mem_append.mp hi with hi | hi
  ·exact (G.clss _ hi).1
  ·exact (G.excs _ hi).1
 refine Name_function_global (by refine rwG hX.scope ?_;exact hX.kind) (by refine (?_:X.env.scope.names.lookup x=_);refine rwG hX.scope ?_;exact hk) (loadGlobal_global (mg:=G.mg) (by refine rwG hX.globals ?_;exact G.nsG.keeps R.base) h1 ?_) hd
 exact .now R (.cls i) h
theorem blt_load {x:Str} {v:Value} {p:Pos} {Z:Value→Shared→Prop} {F:Value→Shared→Prop} (hX:CxOk k X) (R:Real G X φ Γ σ s) (hi:(x,v)∈bltTab) (hk:k.sc.names.lookup x=some .globalImplicit) (hd:(x==S_ "__debug__")=false) (h:Z v s):
  wpAny (M G) X.A (eval (.Name x p) X.env) Z F s:=by
 refine ex02 (G.blts _ hi) ?_;intro h1 h2
 exact Name_function_global (by refine rwG hX.scope ?_;exact hX.kind) (by refine (?_:X.env.scope.names.lookup x=_);refine rwG hX.scope ?_;exact hk)
  (loadGlobal_builtin (mg:=G.mg) (mb:=G.mb) (by refine rwG hX.globals ?_;exact G.nsG.keeps R.base) h1 (by refine rwG hX.builtins ?_;exact G.nsB.keeps R.base) h2 h) hd
theorem WE.cellv {x:Str} {c:Addr} {d:D} {p:Pos} {Q:D→Sto→Prop} (hc:(x,c)∈k.cells) (ha:σ c=some (.cell (some d))) (h:Q d σ):WE G k Γ σ (.Name x p) Q E:=fun X hX φ s R=>by
 refine ex03 (hX.cells _ hc) ?_;intro hl hk hd
 obtain ⟨o,ho,O⟩:=R.store ha
 have hs:X.env.scope.kind=.function:=by refine rwG hX.scope ?_;exact hX.kind
 refine ex12 O.inv ?_;intro _ h1 h2
 refine wpAny_Name ?_ hd
 rcases hk with h3 | ⟨h3,h4⟩
 ·exact wpAny_loadName_cell hs h3 hl ⟨o,ho,h1⟩ (.now R h2 h)
 ·exact wpAny_loadName_free hs h3 hl ⟨o,ho,h1⟩ (.now R h2 h) h4
end
end Mine
end
section
open PySem PySem.W PySem.Calls PyProof.Rows
namespace Mine
set_option backward.match.sparseCases false
variable {G:Glob}
noncomputable def noHeap:Heap:={ objs:=#[] }
theorem noHeap_none (a:Addr):noHeap.get? a=none:=by
 cases h:noHeap.get? a with
 | none=>rfl
 | some o=>exact absurd (Heap.lt_size h) (Nat.not_lt_zero _)
theorem entry_ok {A:Around} {env:Env} {outer:List Env} {L e:Addr} {oe:Obj} {vs:Array Value} {head:Value} {hadNext:Bool} {s:Shared} {Q:Unit→Shared→Prop} {E:Value→Shared→Prop}
  (hfr:A.frames=some (env::outer)) (hl:s.heap.FunFrames noHeap (env::outer)) (hf:env.frame=some L) (he:s.heap.get? e=some oe) (hd:oe.data=.fields vs) (hsz:1 < vs.size)
  (h:∀(h₁:Heap) (tb:Obj) (ts:Array Value),Heap.SlotsOnly ((env::outer).filterMap (·.frame)) s.heap h₁→tb.data=.fields ts→ts[3]?=some (rawInt L)→tb.isFreed=false→tb.cls≠.none→
   Q () { s with heap:=(h₁.push tb).update e (Obj.mapFields (·.setIfInBounds 1 (.ref h₁.objs.size))) }):
  wpAny (M G) A (do let a←frameOf env;let pl←entryPlaceOf L hadNext;let b←EntryCells.newEntry head a .none (rawInt L) .none pl;setField (.ref e) 1 b) Q E s:=by
 have hene:e∉(env::outer).filterMap (·.frame):=fun hm=>by
  obtain ⟨_,o,ho,hnf⟩:=hl.mem hm
  rw [he] at ho;injection ho with ho;subst ho;exact hnf vs hd
 refine wpAny_bind (wpAny_frameOf_fun hfr hl hf fun h₁ hs₁=>?_)
 refine wpAny_bind (wpAny_entryPlaceOf fun pl hpl=>?_)
 unfold EntryCells.newEntry newFields
 refine wpAny_bind (wpAny_newObj_type ?_ (hpl.sizeOk5 _ _ _ _ _))
 have he₁:h₁.get? e=some oe:=(hs₁.2.1 e hene).trans he
 refine wpAny_setField (Heap.get?_push_of_some _ he₁) hd hsz (h h₁ _ _ hs₁ rfl (by rfl) rfl (by simp))
section
variable {k:Sk} {Γ:Loc} {σ:Sto} {E:Exn→Sto→Prop} {X:Cx} {φ φ':Fz} {s:Shared} {kept held:Objs}
theorem RealC.slots (R:RealC G kept held φ σ s) {h':Heap} {S:List Addr} (hs:Heap.SlotsOnly S s.heap h') (hS:∀b∈S,φ b=none∧σ b=none∧held.free b):RealC G kept held φ σ { s with heap:=h' }:=by
 refine ⟨R.base,fun a o e=>(hs.2.1 a fun m=>by rw [(hS a m).1] at e;cases e).trans (R.frz a o e),fun a x e=>?_,fun p hp=>?_,fun p hp=>?_,R.gens,R.os⟩
 ·obtain ⟨f,o,ho,r⟩:=R.sto a x e
  exact ⟨f,o,(hs.2.1 a fun m=>by rw [(hS a m).2.1] at e;cases e).trans ho,r⟩
 ·obtain ⟨f,g,d,sl,ho⟩:=R.waits p hp
  refine ex11 (hs.2.2 _ _ ho) ?_;intro sl' h'
  exact ⟨f,g,d,sl',h'⟩
 ·refine ex04 (R.holds p hp) ?_;intro f g d ho
  exact ⟨f,g,d,(hs.2.1 _ fun m=>(hS _ m).2.2 p hp rfl).trans ho⟩
theorem CxOk.funFrames (hX:CxOk k X) {l:List Env} (hl:X.A.frames=some l) (R:RealC G X.kept X.held φ σ s) {m:Str→Option Value} (hn:s.heap.Ns X.env.locals m):s.heap.FunFrames noHeap l:=by
 refine ex12 hX.frames ?_;intro l' hl' h
 rw [hl] at hl'
 cases hl'
 clear hl
 induction l with
 | nil=>trivial
 | cons e r ih=>
  obtain ⟨h1,L,h2,h3⟩:=h e (.head _)
  refine ⟨h1,⟨L,?_⟩,ih fun e he=>h e (.tail _ he)⟩
  rcases h3 with rfl | ⟨p,hp,rfl⟩
  ·refine ex33 hn ?_;clear hn;intro o es ep ho hd _
   exact ⟨o,h2,noHeap_none _,ho,fun vs q=>by rw [hd] at q;cases q⟩
  ·obtain ⟨_,_,⟨es,ep,hd⟩,sl,ho⟩:=R.waits p hp
   exact ⟨_,h2,noHeap_none _,ho,fun vs q=>by
    have q:p.2.data=_:=q
    rw [hd] at q;cases q⟩
theorem CxOk.framesIn (hX:CxOk k X) {l:List Env} (hl:X.A.frames=some l):∀b∈l.filterMap (·.frame),b=X.env.locals∨∃p∈X.kept,p.1=b:=by
 refine ex12 hX.frames ?_;intro l' hl' h
 rw [hl] at hl'
 cases hl'
 intro b hb
 refine ex12 (List.mem_filterMap.mp hb) ?_;intro e he hf
 obtain ⟨_,L,h2,h3⟩:=h e he
 rw [h2] at hf
 cases hf
 exact h3
theorem RealC.record (R:RealC G kept held φ σ s) {h':Heap} {e:Addr} {oe:Obj} {vs:Array Value} (k:Heap.ExtBut e s.heap h') (he:s.heap.get? e=some oe) (hd:oe.data=.fields vs) (h1:φ e=none∧σ e=none) (h4:held.free e):
  RealC G kept held φ σ { s with heap:=h' }:=by
 refine R.ext k h1.1 h1.2 (fun p hp q=>?_) h4
 obtain ⟨_,_,⟨es,ep,hdd⟩,sl,ho⟩:=R.waits p hp
 rw [q,he] at ho
 cases ho
 have hd:p.2.data=_:=hd
 rw [hdd] at hd;cases hd
theorem RealC.push (R:RealC G kept held φ σ s) (o:Obj):RealC G kept held φ σ { s with heap:=s.heap.push o }:=R.keeps fun _ _ e=>Heap.get?_push_of_some _ e
theorem mapFields_dict (f:Array Value→Array Value) (o:Obj):(Obj.mapFields f o).dict=o.dict:=by
 obtain ⟨c,d,dt,sl⟩:=o;cases dt<;>rfl
theorem mapFields_slots (f:Array Value→Array Value) (o:Obj):(Obj.mapFields f o).slots=o.slots:=by
 obtain ⟨c,d,dt,sl⟩:=o;cases dt<;>rfl
theorem WordAt.map {f:Array Value→Array Value} {o:Obj} (h:WordAt G φ o):WordAt G φ (Obj.mapFields f o):=WordAt.rec (fun ed od l n es a b=>.mk ed od l n es ((mapFields_dict f o).trans a) ((mapFields_slots f o).trans b)) h
inductive Flies (G:Glob) (φ:Fz) (σ:Sto) (held:Objs) (x:Exn) (e:Addr) (fl:Value) (h:Heap):Prop
 | mk (oe:Obj) (vs:Array Value):ExcB G φ σ held x e oe vs h→Headed φ σ held e vs fl h→Flies G φ σ held x e fl h
theorem Flies.flies {held:Objs} {x:Exn} {e:Addr} {fl:Value} {h:Heap} {here:Option Addr} (H:Flies G φ σ held x e fl h) (q:fl=.none∨∃F,here=some F∧fl=rawInt F):ExcAt G φ σ held here x (.ref e) h:=
 Flies.rec (fun oe vs a b=>⟨e,oe,vs,rfl,a,.inr ⟨fl,b,q⟩⟩) H
structure RealX (G:Glob) (X:Cx) (φ:Fz) (σ:Sto) (x:Exn) (e:Addr) (fl:Value) (s:Shared):Prop where
 core:RealC G X.kept X.held φ σ s
 lf:φ X.env.locals=none
 ls:σ X.env.locals=none
 ns:∃m,s.heap.Ns X.env.locals m
 exc:Flies G φ σ X.held x e fl s.heap
theorem RealX.toE {here:Option Addr} {x:Exn} {e:Addr} {fl:Value} (R:RealX G X φ σ x e fl s) (h:fl=.none∨∃F,here=some F∧fl=rawInt F):RealE G X φ σ here x (.ref e) s:=
 ⟨R.core,R.lf,R.ls,R.ns,R.exc.flies h⟩
theorem ns_ne {h:Heap} {L e:Addr} {m:Str→Option Value} {oe:Obj} {vs:Array Value} (hn:h.Ns L m) (he:h.get? e=some oe) (hd:oe.data=.fields vs):L≠e:=fun q=>by
 refine ex33 hn ?_;clear hn;intro o es ep ho hdd _
 rw [q,he] at ho;cases ho
 rw [hd] at hdd;cases hdd
theorem newHead (hX:CxOk k X) (ht:k.top=true) (hc:RealC G X.kept X.held φ σ s) (hlf:φ X.env.locals=none) (hls:σ X.env.locals=none) {m:Str→Option Value} (hn:s.heap.Ns X.env.locals m) {x:Exn} {e:Addr} {oe:Obj} {vs:Array Value}
  (B:ExcB G φ σ X.held x e oe vs s.heap) (hsz:1 < vs.size) {head:Value} {hadNext:Bool} {Q:Unit→Shared→Prop} {F:Value→Shared→Prop} (h:∀s',RealX G X φ σ x e (rawInt X.env.locals) s'→Q () s'):
  wpAny (M G) X.A (do let a←frameOf X.env;let pl←entryPlaceOf X.env.locals hadNext;let b←EntryCells.newEntry head a .none (rawInt X.env.locals) .none pl;setField (.ref e) 1 b) Q F s:=by
 refine ex12 (hX.fn ht) ?_;intro outer hfr hf
 refine entry_ok hfr (hX.funFrames hfr hc hn) hf B.at_ B.data hsz fun h₁ tb ts hs ht h3 hfree hcl=>h _ ?_
 have hS:∀b∈(X.env::outer).filterMap (·.frame),φ b=none∧σ b=none∧X.held.free b:=fun b hb=>by
  rcases hX.framesIn hfr b hb with rfl | ⟨p,hp,rfl⟩
  ·exact ⟨hlf,hls,hX.lh⟩
  ·refine ex03 (hc.waits p hp) ?_;intro f g _
   exact ⟨f,g,fun q hq he=>(hc.holds q hq).2.2.1 p hp he.symm⟩
 have R₁:=hc.slots hs hS
 have hn₁:h₁.Ns X.env.locals m:=by
  refine ex33 hn ?_;clear hn;intro o es ep ho hd r
  refine ex11 (hs.2.2 _ _ ho) ?_;intro sl h'
  exact ⟨_,es,ep,h',hd,r⟩
 have he₁:h₁.get? e=some oe:=by
  refine (hs.2.1 e fun hm=>?_).trans B.at_
  rcases hX.framesIn hfr e hm with q | ⟨p,hp,q⟩
  ·exact ns_ne hn B.at_ B.data q.symm
  ·obtain ⟨_,_,⟨es,ep,hdd⟩,sl,ho⟩:=hc.waits p hp
   rw [q,B.at_] at ho
   cases ho
   have hd:p.2.data=_:=B.data
   rw [hdd] at hd;cases hd
 have R₂:=R₁.push tb
 have he₂:=Heap.get?_push_of_some tb he₁
 have hTe:h₁.objs.size≠e:=Nat.ne_of_gt (Heap.lt_size he₁)
 have hd₃:=Obj.data_mapFields B.data (·.setIfInBounds 1 (Value.ref h₁.objs.size))
 have he₃:=Heap.get?_update_self (Obj.mapFields (·.setIfInBounds 1 (Value.ref h₁.objs.size))) he₂ (Obj.isFreed_of_fields hd₃)
 have hT₃:=(Heap.get?_update_other (h₁.push tb) (Obj.mapFields (·.setIfInBounds 1 (Value.ref h₁.objs.size))) (Ne.symm hTe)).trans (Heap.get?_push_size h₁ hfree)
 have R₃:=R₂.record (h':=(h₁.push tb).update e (Obj.mapFields (·.setIfInBounds 1 (Value.ref h₁.objs.size)))) (e:=e) (fun b o hb hbo=>(Heap.get?_update_other _ _ (Ne.symm hb)).trans hbo) he₂ B.data B.fz B.fh
 have hn₃:=(hn₁.push tb).extBut (h':=(h₁.push tb).update e (Obj.mapFields (·.setIfInBounds 1 (Value.ref h₁.objs.size)))) (b:=e) (fun b o hb hbo=>(Heap.get?_update_other _ _ (Ne.symm hb)).trans hbo) (ns_ne hn B.at_ B.data)
 have z:=R₁.size
 refine ⟨R₃,hlf,hls,⟨m,hn₃⟩,_,_,⟨he₃,(Obj.cls_mapFields _ _).trans B.cls,hd₃,B.fz,B.fh,fun hx=>?_⟩,h₁.objs.size,tb,ts,by simp [hsz],hTe,⟨z.1,z.2.1⟩,z.2.2.2,hT₃,⟨ht,hcl⟩,h3⟩
 exact (B.word hx).map
theorem note_ok (hX:CxOk k X) (ht:k.top=true) {x:Exn} {v:Value} (R:RealE G X φ σ X.env.frame x v s) {Q:Unit→Shared→Prop} {F:Value→Shared→Prop} (h:∀e s',v=.ref e→RealX G X φ σ x e (rawInt X.env.locals) s'→Q () s'):
  wpAny (M G) X.A (noteFrame v X.env) Q F s:=by
 refine ex12 (hX.fn ht) ?_;intro outer hfr hf
 refine ex11 R.ns ?_;intro m hn
 obtain ⟨e,oe,vs,rfl,B,hh⟩:=R.exc
 unfold noteFrame
 simp only [hf]
 rcases hh with h1 | ⟨fl,⟨T,oT,ts,h1,h2,h3,h4,h5,h6,h7⟩,hfl⟩
 ·refine wpAny_bind (wpAny_field B.at_ B.data h1 ?_)
  refine rwG (if_neg (by decide)) ?_
  exact newHead hX ht R.core R.lf R.ls hn B (Array.getElem?_eq_some_iff.mp h1).1 fun s' r=>h e s' rfl r
 ·refine wpAny_bind (wpAny_field B.at_ B.data h1 ?_)
  refine rwG (if_pos (show (Value.ref T != Value.none)=true from by rfl)) ?_
  refine wpAny_bind (wpAny_field h5 h6.1 h7 ?_)
  by_cases q:fl=rawInt X.env.locals
  ·subst q
   refine rwG (if_pos (show (rawInt X.env.locals==rawInt X.env.locals)=true from by exact beq_self_eq_true _)) ?_
   exact wpAny_pure (h e s rfl ⟨R.core,R.lf,R.ls,⟨m,hn⟩,oe,vs,B,T,oT,ts,h1,h2,h3,h4,h5,h6,h7⟩)
  ·refine rwG (if_neg (show ¬ ((fl==rawInt X.env.locals)=true) from fun z=>q (beq_iff_eq.mp z))) ?_
   refine wpAny_bind (wpAny_setField h5 h6.1 (Array.getElem?_eq_some_iff.mp h7).1 ?_)
   have other:∀b,b≠T→(s.heap.update T (Obj.mapFields (·.setIfInBounds 3 Value.none))).get? b=s.heap.get? b:=fun b hb=>Heap.get?_update_other _ _ (Ne.symm hb)
   have R':=R.core.record (h':=s.heap.update T (Obj.mapFields (·.setIfInBounds 3 Value.none))) (e:=T) (fun b o hb hbo=>(other b hb).trans hbo) h5 h6.1 h3 h4
   have hn':=hn.extBut (h':=s.heap.update T (Obj.mapFields (·.setIfInBounds 3 Value.none))) (b:=T) (fun b o hb hbo=>(other b hb).trans hbo) (ns_ne hn h5 h6.1)
   exact newHead hX ht R' R.lf R.ls hn' ⟨(other e (Ne.symm h2)).trans B.at_,B.cls,B.data,B.fz,B.fh,B.word⟩ (Array.getElem?_eq_some_iff.mp h1).1 fun s' r=>h e s' rfl r
theorem flight_ok {x:Exn} {e:Addr} {fl:Value} (R:RealX G X φ σ x e fl s) (f:Option Addr) {Q:Unit→Shared→Prop} {F:Value→Shared→Prop} (h:∀s',RealX G X φ σ x e (f.elim .none fun f=>rawInt f) s'→Q () s'):
  wpAny (M G) X.A (setFlight (.ref e) f) Q F s:=by
 refine ex11 R.ns ?_;intro m hn
 obtain ⟨oe,vs,B,⟨T,oT,ts,h1,h2,h3,h4,h5,h6,h7⟩⟩:=R.exc
 unfold setFlight
 refine wpAny_bind (wpAny_field B.at_ B.data h1 ?_)
 refine rwG (if_pos (show (Value.ref T != Value.none)=true from by rfl)) ?_
 have h8:=(Array.getElem?_eq_some_iff.mp h7).1
 refine wpAny_setField h5 h6.1 h8 (h _ ?_)
 have other:∀b,b≠T→(s.heap.update T (Obj.mapFields (·.setIfInBounds 3 (f.elim Value.none fun f=>rawInt f)))).get? b=s.heap.get? b:=fun b hb=>Heap.get?_update_other _ _ (Ne.symm hb)
 have R':=R.core.record (h':=s.heap.update T (Obj.mapFields (·.setIfInBounds 3 (f.elim Value.none fun f=>rawInt f)))) (e:=T) (fun b o hb hbo=>(other b hb).trans hbo) h5 h6.1 h3 h4
 have hn':=hn.extBut (h':=s.heap.update T (Obj.mapFields (·.setIfInBounds 3 (f.elim Value.none fun f=>rawInt f)))) (b:=T) (fun b o hb hbo=>(other b hb).trans hbo) (ns_ne hn h5 h6.1)
 have hd:=Obj.data_mapFields h6.1 (·.setIfInBounds 3 (f.elim Value.none fun f=>rawInt f))
 exact ⟨R',R.lf,R.ls,⟨m,hn'⟩,oe,vs,⟨(other e (Ne.symm h2)).trans B.at_,B.cls,B.data,B.fz,B.fh,B.word⟩,T,_,_,h1,h2,h3,h4,Heap.get?_update_self _ h5 (Obj.isFreed_of_fields hd),⟨hd,(by rw [Obj.cls_mapFields];exact h6.2)⟩,by simp [h8]⟩
theorem noted_ok (hX:CxOk k X) (ht:k.top=true) {v:Value} (h:PostE G X φ E v s):notedBy (M G) X.A X.env (cameBackBy (M G) X.A X.env (PostE G X φ E)) v s:=by
 refine ex12 (hX.fn ht) ?_;intro outer hfr hf
 obtain ⟨φ',σ',x,l,R,q⟩:=h
 refine note_ok hX ht R fun e s' he R'=>?_
 subst he
 unfold cameBackBy
 obtain ⟨oe,vs,B,⟨T,oT,ts,h1,h2,h3,h4,h5,h6,h7⟩⟩:=R'.exc
 refine wpAny_bind (wpAny_field B.at_ B.data h1 ?_)
 refine rwG (if_neg (show ¬ ((Value.ref T==Value.none)=true) from by simp)) ?_
 refine flight_ok R' X.env.frame fun s'' R''=>⟨φ',σ',x,l,R''.toE ?_,q⟩
 refine rwG hf ?_
 exact .inr ⟨_,rfl,rfl⟩
theorem leaves_ok (hX:CxOk k X) (ht:k.top=true) {v:Value} {Z:Unit→Shared→Prop} {F:Value→Shared→Prop} (h:PostE G X φ E v s) (hz:∀φ' σ' x e s',v=.ref e→φ.le φ'→RealX G X φ' σ' x e .none s'→E x σ'→Z () s'):
  wpAny (M G) X.A (leaving X.env v) Z F s:=by
 obtain ⟨φ',σ',x,l,R,q⟩:=h
 unfold leaving
 refine wpAny_bind (note_ok hX ht R fun e s' he R'=>?_)
 subst he
 exact flight_ok R' none fun s'' R''=>hz φ' σ' x e s'' rfl l R'' q
end
end Mine
end
section
open PySem PySem.W PySem.Calls PyProof.Rows
namespace Mine
set_option backward.match.sparseCases false
variable {G:Glob}
structure ACtx (n:Nat) (A:Around) (kept:Objs):Prop where
 handled:A.handled=none
 depth:A.depth≤n
 units:A.units≤8 * n
 guards:A.guards=some []
 frames:∃l,A.frames=some l∧∀e∈l,e.scope.kind≠.module∧∃L,e.frame=some L∧∃p∈kept,p.1=L
inductive OkC (G:Glob) (kept held:Objs) (φ:Fz) (Q:D→Sto→Prop) (v:Value) (s':Shared):Prop
 | mk (φ':Fz) (σ':Sto) (d:D):φ.le φ'→RealC G kept held φ' σ' s'→VR G φ' v d→Q d σ'→OkC G kept held φ Q v s'
inductive ErrC (G:Glob) (kept held:Objs) (φ:Fz) (E:Exn→Sto→Prop) (e:Value) (s':Shared):Prop
 | mk (φ':Fz) (σ':Sto) (x:Exn):φ.le φ'→RealC G kept held φ' σ' s'→ExcAt G φ' σ' held none x e s'.heap→E x σ'→ErrC G kept held φ E e s'
noncomputable def PostC (G:Glob) (kept held:Objs) (φ:Fz) (Q:D→Sto→Prop) (E:Exn→Sto→Prop) (r:Result) (s':Shared):Prop:=match r with
 | .ok (.ret v)=>OkC G kept held φ Q v s'
 | .ok _=>False
 | .error e=>ErrC G kept held φ E e s'
@[elab_as_elim] theorem PostC.on {kept held:Objs} {φ:Fz} {Q:D→Sto→Prop} {E:Exn→Sto→Prop} {s':Shared} {P:Result→Prop} {r:Result} (z:PostC G kept held φ Q E r s')
  (f:∀v φ' σ' d,φ.le φ'→RealC G kept held φ' σ' s'→VR G φ' v d→Q d σ'→P (.ok (.ret v))) (g:∀e φ' σ' x,φ.le φ'→RealC G kept held φ' σ' s'→ExcAt G φ' σ' held none x e s'.heap→E x σ'→P (.error e)):P r:=by
 cases r with
 | error e=>exact ErrC.rec (g e) z
 | ok fl=>induction fl with
  | ret v=>exact OkC.rec (f v) z
  | _=>exact z.elim
noncomputable def WC (G:Glob) (n:Nat) (f:D) (args:List D) (σ:Sto) (Q:D→Sto→Prop) (E:Exn→Sto→Prop):Prop:=
 ∀A kept held,ACtx n A kept→∀φ s,RealC G kept held φ σ s→∀fv vs,VR G φ fv f→VRs G φ vs args→codeAny (M G) A (.call fv ⟨vs,[]⟩) (PostC G kept held φ Q E) s
theorem WC.conseq {n:Nat} {f:D} {args:List D} {σ:Sto} {Q Q':D→Sto→Prop} {E E':Exn→Sto→Prop} (h:WC G n f args σ Q E) (hq:∀d σ,Q d σ→Q' d σ) (he:∀x σ,E x σ→E' x σ):WC G n f args σ Q' E':=
 fun A kept held hA φ s R fv vs V W=>codeAny_mono (h A kept held hA φ s R fv vs V W) fun r s' z=>
  z.on (fun v φ' σ' d a b c q=>⟨φ',σ',d,a,b,c,hq _ _ q⟩) fun e φ' σ' d a b c q=>⟨φ',σ',d,a,b,c,he _ _ q⟩
theorem filterMap_congr' {α β:Type} {f g:α→Option β}:∀{l:List α},(∀x∈l,f x=g x)→l.filterMap f=l.filterMap g
 | [],_=>rfl
 | a::l,h=>by
  refine rwG List.filterMap_cons ?_;refine rwG List.filterMap_cons ?_;refine rwG (h a (.head _)) ?_;refine rwG (filterMap_congr' fun x hx=>h x (.tail _ hx)) ?_;rfl
theorem lookup_zip {α:Type}:∀{ns:List Str} {vs:List α},ns.length=vs.length→ns.Nodup→ns.filterMap (fun n=>((ns.zip vs).lookup n).map (n,·))=ns.zip vs
 | [],_,_,_=>rfl
 | n::ns,[],h,_=>nomatch h
 | n::ns,v::vs,h,hn=>by
  rw [List.nodup_cons] at hn
  have ih:=lookup_zip (ns:=ns) (vs:=vs) (by exact Nat.succ.inj h) hn.2
  refine rwG List.zip_cons_cons ?_;refine rwG List.filterMap_cons ?_
  simp only [List.lookup_cons,beq_self_eq_true,Option.map_some]
  congr 1
  refine Eq.trans (filterMap_congr' fun x hx=>?_) ih
  have:(x==n)=false:=beq_eq_false_iff_ne.mpr fun e=>hn.1 (e▸hx)
  refine rwG this ?_;rfl
theorem lookup_zip_some {α:Type}:∀{ns:List Str} {vs:List α},ns.length=vs.length→∀n∈ns,((ns.zip vs).lookup n).isNone=false
 | [],_,_,_,h=>nomatch h
 | m::ns,[],h,_,_=>nomatch h
 | m::ns,v::vs,h,n,hn=>by
  refine rwG List.zip_cons_cons ?_;refine rwG List.lookup_cons ?_
  cases q:n==m with
  | true=>rfl
  | false=>
   rcases List.mem_cons.mp hn with rfl | hn
   ·simp at q
   ·exact lookup_zip_some (ns:=ns) (vs:=vs) (by exact Nat.succ.inj h) n hn
theorem ifF {α:Type} {c:Bool} {X R r:Sem α} (h:c=false) (k:R=r):(if c=true then X else R)=r:=by subst h;exact k
theorem forS {α β γ δ:Type} {l:List α} {ds:List β} {s:γ} {f:α×β→γ→Sem (ForInStep γ)} {K:γ→Sem δ} {r:Sem δ} (hd:ds=[]) (k:K s=r):(forIn (l.zip ds) s f >>= K)=r:=by subst hd;refine rwG List.zip_nil_right ?_;exact k
theorem bind_plain {fd:FuncData} {vs:List Value} {as:List Arg} {ds:List Expr} (hp:fd.params=⟨[],as,none,[],[],none,ds⟩) (hd:fd.defaults=.none) (hl:(as.map (·.arg)).length=vs.length) (hn:(as.map (·.arg)).Nodup):
  bindArgs fd ⟨vs,[]⟩=pure ((as.map (·.arg)).zip vs):=by
 have e3:(as.map (·.arg)).filter (fun n=>(((as.map (·.arg)).zip vs).lookup n).isNone)=[]:=List.filter_eq_nil_iff.mpr fun n hm=>by refine rwG (lookup_zip_some hl n hm) ?_;exact Bool.false_ne_true
 have e6:=lookup_zip hl hn
 have h4:∀(n:Nat),List.drop (([]:List Value).length - n) ([]:List Value)=[]:=fun n=>List.drop_nil
 cases fd
 cases hp
 cases hd
 refine ifF (c:=decide (vs.length > (as.map Arg.arg).length)&&true) (by (refine rwG hl ?_;refine rwG (decide_eq_false (Nat.lt_irrefl _)) ?_);rfl) ?_
 refine ifF (c:=!(((as.map Arg.arg).take ((as.map Arg.arg).length - (List.drop (([]:List Value).length - (as.map Arg.arg).length) ([]:List Value)).length)).filter (fun n=>(((as.map Arg.arg).zip vs).lookup n).isNone)).isEmpty) (by rw [h4];refine (?_:(!(List.filter _ (List.take (as.map Arg.arg).length _)).isEmpty)=false);(refine rwG List.take_length ?_;refine rwG e3 ?_);rfl) ?_
 refine forS (h4 _) ?_
 exact congrArg (fun x=>(pure x:Sem _)) ((congrArg (List.filterMap _) (List.append_nil _)).trans e6)
noncomputable def plainPar (a:Arguments):Bool:=a.posonlyargs.isEmpty&&(a.vararg.isNone&&(a.kwonlyargs.isEmpty&&(a.kw_defaults.isEmpty&&a.kwarg.isNone)))
theorem plainPar_eq {a:Arguments} (h:plainPar a=true):a=⟨[],a.args,none,[],[],none,a.defaults⟩:=by
 obtain ⟨p,as,v,ko,kd,k,ds⟩:=a
 cases p with
 | cons=>exact nomatch h
 | nil=>cases v with
  | some=>exact nomatch h
  | none=>induction ko with
   | cons=>exact nomatch h
   | nil=>induction kd with
    | cons=>exact nomatch h
    | nil=>cases k with
     | some=>exact nomatch h
     | none=>rfl
noncomputable def fnChk (st:Stmt) (names:List Str):Bool:=
 (plainPar (sParams st)&&(sParams st).args.map (·.arg)==names)&&(decide names.Nodup&&((sScope st).kind==.function&&(!(sScope st).isGenerator&&(!(sScope st).isCoroutine&&
 (names.all (fun x=>x != S_ "__debug__"&&((sScope st).names.lookup x==some .local || (sScope st).names.lookup x==some .cell))&&
 (sScope st).names.all fun p=>p.2 != .cell || names.contains p.1)))))
structure FnChk (st:Stmt) (names:List Str):Prop where
 par:sParams st=⟨[],(sParams st).args,none,[],[],none,(sParams st).defaults⟩
 nm:(sParams st).args.map (·.arg)=names
 nd:names.Nodup
 kind:(sScope st).kind=.function
 gen:(sScope st).isGenerator=false
 co:(sScope st).isCoroutine=false
 dbg:∀x∈names,x≠S_ "__debug__"
 kinds:∀x∈names,(sScope st).names.lookup x=some .local∨(sScope st).names.lookup x=some .cell
theorem andL {a b:Bool} (h:(a&&b)=true):a=true:=(Bool.and_eq_true_iff.mp h).1
theorem andR {a b:Bool} (h:(a&&b)=true):b=true:=(Bool.and_eq_true_iff.mp h).2
theorem notT {a:Bool} (h:(!a)=true):a=false:=by cases a with | true=>exact nomatch h | false=>rfl
theorem fnChk_ok {st:Stmt} {names:List Str} (h:fnChk st names=true):FnChk st names where
 par:=plainPar_eq (andL (andL h))
 nm:=beq_iff_eq.mp (andR (andL h))
 nd:=of_decide_eq_true (andL (andR h))
 kind:=beq_iff_eq.mp (andL (andR (andR h)))
 gen:=notT (andL (andR (andR (andR h))))
 co:=notT (andL (andR (andR (andR (andR h)))))
 dbg:=fun x hx=>bne_iff_ne.mp (andL (List.all_eq_true.mp (andL (andR (andR (andR (andR (andR h)))))) x hx))
 kinds:=fun x hx=>(Bool.or_eq_true_iff.mp (andR (List.all_eq_true.mp (andL (andR (andR (andR (andR (andR h)))))) x hx))).imp beq_iff_eq.mp beq_iff_eq.mp
theorem bindL_at (kind:Str→Option NameKind):∀(binds:List (Str×Value)) (m:Str→Option Value),(binds.map (·.1)).Nodup→∀n v,(n,v)∈binds→kind n=some .local→bindL kind binds m n=some v
 | [],_,_,_,_,h,_=>nomatch h
 | (a,w)::r,m,hn,n,v,h,hk=>by
  rw [List.map_cons,List.nodup_cons] at hn
  unfold bindL
  rcases List.mem_cons.mp h with e | h
  ·cases e
   refine rwG (if_pos hk) ?_
   have keep:∀(l:List (Str×Value)) (m:Str→Option Value),a∉l.map (·.1)→bindL kind l m a=m a:=by
    intro l
    induction l with
    | nil=>intro m _;rfl
    | cons p l ih=>
     intro m hm
     obtain ⟨b,x⟩:=p
     simp only [List.map_cons,List.mem_cons,not_or] at hm
     unfold bindL
     refine rwG (ih _ hm.2) ?_
     split
     ·exact if_neg hm.1
     ·rfl
   refine rwG (keep r _ hn.1) ?_;refine rwG (if_pos rfl) ?_;rfl
  ·exact bindL_at kind r _ hn.2 n v h hk
theorem bindC_at (kind:Str→Option NameKind):∀(binds:List (Str×Value)) (m:Str→Option Value),(binds.map (·.1)).Nodup→∀n v,(n,v)∈binds→kind n≠some .local→bindC kind binds m n=some v
 | [],_,_,_,_,h,_=>nomatch h
 | (a,w)::r,m,hn,n,v,h,hk=>by
  rw [List.map_cons,List.nodup_cons] at hn
  unfold bindC
  rcases List.mem_cons.mp h with e | h
  ·cases e
   refine rwG (if_neg hk) ?_
   have keep:∀(l:List (Str×Value)) (m:Str→Option Value),a∉l.map (·.1)→bindC kind l m a=m a:=by
    intro l
    induction l with
    | nil=>intro m _;rfl
    | cons p l ih=>
     intro m hm
     obtain ⟨b,x⟩:=p
     simp only [List.map_cons,List.mem_cons,not_or] at hm
     unfold bindC
     refine rwG (ih _ hm.2) ?_
     split
     ·rfl
     ·exact if_neg hm.1
   refine rwG (keep r _ hn.1) ?_;refine rwG (if_pos rfl) ?_;rfl
  ·exact bindC_at kind r _ hn.2 n v h hk
inductive FnAt (h:Heap) (a:Addr) (st:Stmt):Prop
 | mk (o:Obj) (fd:FuncData):h.get? a=some o→o.data=.func fd→fd.params=sParams st→fd.body=.stmts (sBody st)→fd.scope=sScope st→fd.closure=[]→fd.defaults=.none→fd.globals=mainGlobals→fd.builtins=builtinsNs→h.CodeRec fd.code fd.qualname→FnAt h a st
theorem IsFn.rec_ {φ:Fz} {h:Heap} (kf:∀a o,φ a=some o→h.get? a=some o) {a:Addr} {st:Stmt} (x:IsFn φ a st):
  FnAt h a st:=by
 obtain ⟨o,fd,c,oc,vs,t,h1,h2,h3,h4,h5,h6,h7,h8,h9,h10,h11,h12,h13,h14,h15⟩:=x
 exact ⟨o,fd,kf _ _ h1,h3,h4,h5,h6,h7,h8,h10,h11,⟨c,oc,vs,t,h12,kf _ _ h13,h14,h15⟩⟩
theorem mem_zip_vr {φ:Fz}:∀{ns:List Str} {vs:List Value} {ds:List D},VRs G φ vs ds→∀p∈ns.zip ds,∃v,(p.1,v)∈ns.zip vs∧VR G φ v p.2
 | [],_,_,_,_,h=>nomatch h
 | n::ns,_,_,.nil,_,h=>nomatch h
 | n::ns,_,_,.cons a r,p,h=>by
  rcases List.mem_cons.mp h with rfl | h
  ·exact ⟨_,.head _,a⟩
  ·refine ex12 (mem_zip_vr r p h) ?_;intro v m w
   exact ⟨v,.tail _ m,w⟩
theorem zip_fst {α:Type}:∀{ns:List Str} {vs:List α},ns.length=vs.length→(ns.zip vs).map (·.1)=ns
 | [],[],_=>rfl
 | [],_::_,h=>nomatch h
 | _::_,[],h=>nomatch h
 | n::ns,v::vs,h=>by (refine rwG List.zip_cons_cons ?_;refine rwG List.map_cons ?_;refine rwG (zip_fst (by exact Nat.succ.inj h)) ?_;rfl)
noncomputable abbrev skOf (i j n:Nat):Sk:={ sc:=sScope (stAt i j),cells:=[],n:=n }
noncomputable def Back (Q:D→Sto→Prop) (o:Out) (_:Loc) (σ:Sto):Prop:=match o with
 | .ret d=>Q d σ
 | _=>Q .none σ
theorem WC.fn {i j n:Nat} {σ:Sto} {args:List D} {Q:D→Sto→Prop} {E:Exn→Sto→Prop} (names:List Str) (hc:fnChk (stAt i j) names=true) (hl:names.length=args.length) (hn:n < 1000)
  (h:WS G (skOf i j (n + 1)) (names.zip args) σ (sBody (stAt i j)) (Back Q) E):WC G n (.fn i j) args σ Q E:=fun A kept held hA φ s R fv vs V W=>by
 obtain ⟨hp,hnm,hnd,hkind,hgen,hco,hdbg,hkinds⟩:=fnChk_ok hc
 refine ex02 V.inv ?_;rintro rfl hF
 focus
  obtain ⟨o,fd,ho,hd,e1,e2,e3,e4,e5,e6,e7,hcd⟩:=hF.rec_ R.frz
  have hlv:names.length=vs.length:=by (refine rwG hl ?_;refine rwG W.length ?_;rfl)
  have hbind:bindArgs fd ⟨vs,[]⟩=pure (names.zip vs):=by
   have:=bind_plain (fd:=fd) (vs:=vs) (e1.trans hp) e5 (by refine rwG hnm ?_;exact hlv) (by refine rwG hnm ?_;exact hnd)
   rw [hnm] at this;exact this
  have base:∀b o,G.h₀.get? b=some o→s.heap.get? b=some o:=fun b o e=>R.frz b o (R.base b o e)
  have hk2:∀x∈names.zip vs,(sScope (stAt i j)).names.lookup x.1=some .local∨(sScope (stAt i j)).names.lookup x.1=some .cell:=fun x hx=>hkinds x.1 (List.of_mem_zip hx).1
  have hallk:((names.zip vs).all fun y=>(sScope (stAt i j)).names.lookup y.1==some .local || (sScope (stAt i j)).names.lookup y.1==some .cell)=true:=by
   rw [List.all_eq_true]
   intro x hx
   rw [Bool.or_eq_true,beq_iff_eq,beq_iff_eq]
   exact hk2 x hx
  refine codeAny_call_cells (binds:=names.zip vs) (Nat.lt_of_le_of_lt hA.depth (by refine (?_:n < 1000);exact hn)) ho hd (G.nolimit.keeps base) hcd e2 hbind e4 (by refine rwG e3 ?_;exact kindsX hallk _) (fun s₁ I=>?_) (by refine rwG e3 ?_;exact hco) (by refine rwG e3 ?_;exact hgen) (by refine rwG e3 ?_;exact hkind)
  generalize hL:s.heap.objs.size=L at I
  generalize hev:callEnvC fd L (G.fa i j)=env at I ⊢
  have k1:env.scope=sScope (stAt i j):=by subst hev;exact e3
  have k2:env.locals=L:=by subst hev;rfl
  have k3:env.globals=mainGlobals:=by subst hev;exact e6
  have k4:env.builtins=builtinsNs:=by subst hev;exact e7
  have k5:env.frame=some L:=by subst hev;rfl
  have k6:env.cells=cellsFrom (L + 1) (sScope (stAt i j)).names []:=by subst hev;refine (?_:cellsFrom (L + 1) fd.scope.names []=_);(refine rwG e3 ?_;rfl)
  rw [k2] at I
  obtain ⟨⟨⟨h₁,tk,rfl⟩,hns,hkeep,hfresh⟩,hcell,happ,habove⟩:=I
  have R₁:=R.keeps (tk:=tk) hkeep
  have untr:∀a,L≤a→φ a=none∧σ a=none∧kept.free a∧held.free a:=fun a ha=>R.above fun o e=>Nat.not_lt.mpr (by refine rwG hL ?_;exact ha) (Heap.lt_size e)
  have cellAt:∀p∈env.cells,L < p.2:=fun p hp=>habove p.1 p.2 hp
  let hc':Objs:=env.cells.filterMap fun p=>(h₁.get? p.2).map fun o=>(p.2,o)
  have hcm:∀q∈hc',L < q.1∧h₁.get? q.1=some q.2:=fun q hq=>by
   refine ex12 (List.mem_filterMap.mp hq) ?_;intro p hp e
   refine ex12 (Option.map_eq_some_iff.mp e) ?_;rintro o ho' rfl
   exact ⟨cellAt p hp,ho'⟩
  let cv:List (Str×Addr×Value):=(names.zip vs).filterMap fun x=>if env.kindOf x.1=some .local then none else (env.cells.lookup x.1).map fun c=>(x.1,c,x.2)
  let X:Cx:={ A:=A.deeper env,env:=env,kept:=kept,held:=hc'++held,cv:=cv }
  have hkd:∀x,env.kindOf x=(sScope (stAt i j)).names.lookup x:=fun x=>by refine (?_:env.scope.names.lookup x=_);(refine rwG k1 ?_;rfl)
  have hcellv:∀x∈names.zip vs,env.kindOf x.1≠some .local→∃c o,env.cells.lookup x.1=some c∧(c,o)∈hc'∧o.data=.cell (some x.2):=fun x hx hnl=>by
   have hcl:(sScope (stAt i j)).names.lookup x.1=some .cell:=(hk2 x hx).resolve_left (by rw [←hkd];exact hnl)
   have hs:=(kindsX hallk (L + 1) x hx).resolve_left (by rw [←hkd];exact hnl)
   refine ex11 (Option.isSome_iff_exists.mp hs.2) ?_;intro c hc
   rw [←k6] at hc
   have hic:=hcell x.1 c hc
   rw [bindC_at env.kindOf (names.zip vs) _ (by refine rwG (zip_fst hlv) ?_;exact hnd) x.1 x.2 hx hnl] at hic
   refine ex12 hic ?_;clear hic;intro o ho' hd'
   exact ⟨c,o,hc,List.mem_filterMap.mpr ⟨(x.1,c),mem_of_lookup hc,by refine (?_:(h₁.get? c).map _=_);refine rwG ho' ?_;rfl⟩,hd'⟩
  have hX:CxOk (skOf i j (n + 1)) X:=by
   refine ex12 hA.frames ?_;intro l hl' hfr
   have hfr':(A.deeper env).frames=some (env::l):=Around.frames_deeper hl'
   refine ⟨k1,hkind,k3,k4,fun p hp=>(nomatch hp),fun p hp=>?_,hA.handled,?_,?_,hA.guards,?_,?_,⟨env::l,hfr',fun e he=>?_⟩,fun _=>⟨l,hfr',by refine rwG k2 ?_;exact k5⟩,fun _ h=>nomatch h⟩
   ·refine ex12 (List.mem_filterMap.mp hp) ?_;intro x hx e
    split at e
    ·cases e
    ·rename_i hnl
     refine ex23 (hcellv x hx hnl) ?_;intro c o hc hm hd'
     rw [hc] at e
     cases e
     have hcl:(sScope (stAt i j)).names.lookup x.1=some .cell:=(hk2 x hx).resolve_left (by rw [←hkd];exact hnl)
     exact ⟨.inl ((hkd x.1).trans hcl),hc,o,List.mem_append_left _ hm,hd'⟩
   ·refine (?_:A.depth + 1≤n + 1)
    have:=hA.depth;exact Nat.lt_succ_of_le this
   ·refine (?_:A.units + 3≤8 * (n + 1))
    have:=hA.units;exact lin1 this (by simp +arith only)
   ·refine (?_:kept.free env.locals)
    refine rwG k2 ?_;exact (untr L (Nat.le_refl _)).2.2.1
   ·refine (?_:Objs.free (hc'++held) env.locals)
    refine rwG k2 ?_
    intro p hp q
    rcases List.mem_append.mp hp with hp | hp
    ·exact Nat.lt_irrefl _ (q▸(hcm p hp).1)
    ·exact (untr L (Nat.le_refl _)).2.2.2 p hp q
   ·rcases List.mem_cons.mp he with rfl | he
    ·exact ⟨by (refine rwG k1 ?_;refine rwG hkind ?_);decide,L,k5,.inl k2.symm⟩
    ·obtain ⟨a,L',b,p,hp,e⟩:=hfr e he
     exact ⟨a,L',b,.inr ⟨p,hp,e⟩⟩
  have hR:Real G X φ (names.zip args) σ { s with heap:=h₁,toks:=tk }:=by
   refine ⟨⟨R₁.base,R₁.frz,R₁.sto,R₁.waits,fun p hp=>?_,R₁.gens,R₁.os⟩,by refine (?_:φ env.locals=none);refine rwG k2 ?_;exact (untr L (Nat.le_refl _)).1,by refine (?_:σ env.locals=none);refine rwG k2 ?_;exact (untr L (Nat.le_refl _)).2.1,⟨_,by refine (?_:h₁.Ns env.locals _);refine rwG k2 ?_;exact hns,fun p hp=>?_⟩⟩
   ·rcases List.mem_append.mp hp with hp | hp
    ·refine ex02 (hcm p hp) ?_;intro a b
     refine ex04 (untr p.1 (Nat.le_of_lt a)) ?_;intro u1 u2 u3 u4
     exact ⟨u1,u2,u3,b⟩
    ·exact R₁.holds p hp
   ·refine ex12 (mem_zip_vr W p hp) ?_;intro v hv w
    have hnm':=(List.of_mem_zip hp).1
    refine ⟨beq_eq_false_iff_ne.mpr (hdbg p.1 hnm'),v,w,?_⟩
    by_cases hloc:env.kindOf p.1=some .local
    ·exact .inl ⟨hloc,bindL_at env.kindOf (names.zip vs) _ (by refine rwG (zip_fst hlv) ?_;exact hnd) p.1 v hv hloc⟩
    ·refine ex23 (hcellv (p.1,v) hv hloc) ?_;intro c o hc hm hd'
     exact .inr ⟨c,List.mem_filterMap.mpr ⟨(p.1,v),hv,by (refine rwG (if_neg hloc) ?_;refine rwG hc ?_);rfl⟩⟩
  have outC:∀{φ':Fz} {σ':Sto} {s':Shared},RealC G X.kept X.held φ' σ' s'→RealC G kept held φ' σ' s':=fun r=>
   ⟨r.base,r.frz,r.sto,r.waits,fun p hp=>r.holds p (List.mem_append_right _ hp),r.gens,r.os⟩
  refine thS (h X hX φ _ hR) (fun f s' φ' σ' Γ' out le R' O q=>?_) fun e s' hE=>?_
  ·induction O with
   | next=>exact ⟨φ',σ',.none,le,outC R'.core,.none,q⟩
   | brk=>exact ⟨φ',σ',.none,le,outC R'.core,.none,q⟩
   | cont=>exact ⟨φ',σ',.none,le,outC R'.core,.none,q⟩
   | ret w=>exact ⟨φ',σ',_,le,outC R'.core,w,q⟩
  ·refine leaves_ok (k:=skOf i j (n + 1)) hX rfl hE fun φ' σ' x e' s'' he le R' q=>?_
   subst he
   refine ⟨φ',σ',x,le,outC R'.core,?_,q⟩
   exact (R'.exc.flies (.inl rfl)).to (fun _ h=>h) fun _ h p hp=>h p (List.mem_append_right _ hp)
end Mine
end
section
open PySem PySem.W PySem.Calls PyProof.Rows
namespace Mine
set_option backward.match.sparseCases false
variable {G:Glob}
section
variable {k:Sk} {Γ:Loc} {σ:Sto} {E:Exn→Sto→Prop} {X:Cx} {φ φ':Fz} {s:Shared}
theorem evalArgs_any {M:Model} {A:Around} {E:Value→Shared→Prop} {f:Value} {L:List (Bool×Sem Value)} (hL:L.any (·.1)=false) {Q:Args→Shared→Prop} (h:wpAny M A (spliced L) (fun vs s'=>Q ⟨vs,[]⟩ s') E s):wpAny M A (evalArgs f true L []) Q E s:=by
 induction L with
 | nil=>
  unfold evalArgs
  refine (?_:wpAny M A (spliced [] >>= _) Q E s)
  refine wpAny_bind (wpAny_mono h (fun vs s' h'=>?_) fun _ _ x=>x)
  refine wpAny_holding ?_
  exact wpAny_bind (wpAny_pure (wpAny_bind (wpAny_pure (wpAny_pure h'))))
 | cons y L=>
  obtain ⟨b,x⟩:=y
  cases b with
  | true=>cases hL
  | false=>exact Calls.evalArgs_plain h
theorem Real.wait (hX:CxOk k X) (R:Real G X φ Γ σ s):∃o,s.heap.get? X.env.locals=some o∧RealC G ((X.env.locals,o)::X.kept) X.held φ σ s∧ACtx k.n X.A ((X.env.locals,o)::X.kept)∧
  ∀φ' σ' s',φ.le φ'→RealC G ((X.env.locals,o)::X.kept) X.held φ' σ' s'→Real G X φ' Γ σ' s':=by
 obtain ⟨m,hn,hb⟩:=R.ns
 refine ex33 (id hn) ?_;intro o es ep ho hd hr
 refine ⟨o,ho,⟨R.core.base,R.core.frz,R.core.sto,fun p hp=>?_,fun p hp=>?_,R.core.gens,R.core.os⟩,⟨hX.handled,hX.depth,hX.units,hX.guards,?_⟩,fun φ' σ' s' l C=>?_⟩
 ·rcases List.mem_cons.mp hp with rfl | hp
  ·exact ⟨R.lf,R.ls,⟨es,ep,hd⟩,o.slots,ho⟩
  ·exact R.core.waits p hp
 ·refine ex04 (R.core.holds p hp) ?_;intro a b c d
  refine ⟨a,b,fun q hq=>?_,d⟩
  rcases List.mem_cons.mp hq with rfl | hq
  ·exact fun e=>hX.lh p hp e.symm
  ·exact c q hq
 ·refine ex12 hX.frames ?_;intro l hl hf
  refine ⟨l,hl,fun e he=>?_⟩
  obtain ⟨a,L,b,c⟩:=hf e he
  refine ⟨a,L,b,?_⟩
  rcases c with rfl | ⟨p,hp,q⟩
  ·exact ⟨_,.head _,rfl⟩
  ·exact ⟨p,.tail _ hp,q⟩
 ·obtain ⟨f,g,_,sl,h'⟩:=C.waits _ (.head _)
  refine ⟨⟨C.base,C.frz,C.sto,fun p hp=>C.waits p (.tail _ hp),fun p hp=>?_,C.gens,C.os⟩,f,g,m,⟨_,es,ep,h',hd,hr⟩,fun p hp=>(hb p hp).mono l⟩
  refine ex04 (C.holds p hp) ?_;intro a b c d
  exact ⟨a,b,fun q hq=>c q (.tail _ hq),d⟩
theorem WC.use {n:Nat} {f:D} {args:List D} {Q:D→Sto→Prop} (h:WC G k.n f args σ Q E) (hX:CxOk k X) (R:Real G X φ Γ σ s) {fv:Value} {vs:List Value} (V:VR G φ fv f) (W:VRs G φ vs args):
  wpAny (M G) X.A (call fv vs) (PostV G X φ Γ Q) (PostE G X φ E) s:=by
 refine ex14 (R.wait hX) ?_;intro o ho C A back
 refine wpAny_call (codeAny_mono (h X.A _ X.held A φ s C fv vs V W) fun r s' z=>?_)
 refine z.on (fun v φ' σ' d l C' V' q=>⟨φ',σ',d,l,back φ' σ' s' l C',V',q⟩) fun e φ' σ' x l C' e q=>?_
 have R':=back φ' σ' s' l C'
 exact ⟨φ',σ',x,l,⟨R'.core,R'.lf,R'.ls,R'.ns.has,e.any⟩,q⟩
noncomputable def Callee:D→Prop
 | .fn _ _=>True
 | .clo _ _ _=>True
 | .cls i=>∃p∈clsTab++excTab,p.2=i
 | _=>False
theorem Callee.keep {f:D} (h:Callee f) {v:Value} (V:VR G φ v f) (K0:∀a o,G.h₀.get? a=some o→φ a=some o):∀hp:Heap,(∀a o,φ a=some o→hp.get? a=some o)→
  ∃k,(k=Keeper.frame∨k=Keeper.machine∨k=Keeper.boundFrame)∧Looks (M G) hp (keeperOf v) k:=fun hp K=>by
 have fnK:∀{a:Addr} {o:Obj} {fd:FuncData},φ a=some o→o.data=.func fd→∃k,(k=Keeper.frame∨k=Keeper.machine∨k=Keeper.boundFrame)∧Looks (M G) hp (keeperOf (.ref a)) k:=fun h1 h2=>
  ⟨.frame,.inl rfl,(Looks.ld (part:=none) (K _ _ h1)).andThen (by refine rwG h2 ?_;exact .now)⟩
 cases f with
 | fn i j=>
  refine ex02 V.inv ?_;intro e hF
  refine rwG e ?_
  exact IsFn.rec (fun o fd c oc vs t h1 _ h2 _ _ _ _ _ _ _ _ _ _ _ _=>fnK h1 h2) hF
 | clo b s c=>
  refine ex12 V.inv ?_;intro a e hF
  refine rwG e ?_
  exact IsClo.rec (fun o fd c oc vs t h1 _ h2 _ _ _ _ _ _ _ _ _ _ _ _=>fnK h1 h2) hF
 | cls i=>
  refine rwG (show v=_ from V.inv) ?_
  obtain ⟨p,hp',rfl⟩:=h
  rcases List.mem_append.mp hp' with hp' | hp'
  ·exact keeps_K (G.clss p hp').2.2.2.1 hp (G.X.keeps fun b o e=>K _ _ (K0 b o e))
  ·exact keeps_K (G.excKeep p hp') hp (G.X.keeps fun b o e=>K _ _ (K0 b o e))
 | _=>exact h.elim
theorem WE.call {fe:Expr} {args:List Expr} {pos:Pos} {Q:D→Sto→Prop} (h:WE G k Γ σ fe (fun f σ₁=>Callee f∧WA G k Γ σ₁ args (fun ds σ₂=>WC G k.n f ds σ₂ Q E) E) E)
  (he:∀env,eval (.Call fe args [] pos) env=(do callWith pos (←eval fe env) [] (backTo pos (starEach args env)) (backToKw pos (keywordEach [] env))):=by intro _;rfl)
  (hp:∀env,(backTo pos (starEach args env)).any (·.1)=false:=by intro _;rfl):WE G k Γ σ (.Call fe args [] pos) Q E:=fun X hX φ s R=>by
 rw [he]
 refine wpAny_bind (then_ (h X hX φ s R) (fun φ₁ σ₁ f fv s₁ l₁ R₁ V₁ q=>?_) fun _ _ x=>x)
 refine ex02 q ?_;clear q;intro hc q
 refine callWith_of (P:=fun hp=>∀a o,φ₁ a=some o→hp.get? a=some o) (by rw [hp];rfl) (hc.keep V₁ R₁.core.base) (evalArgs_any (hp _) ?_)
 refine thVs (q pos X hX φ₁ s₁ R₁) (fun vs s₂ φ₂ σ₂ ds l₂ R₂ W q₂=>?_) fun _ _ x=>x.le l₁
 refine ⟨fun a o e=>R₂.core.frz _ _ (l₂ a o e),?_⟩
 exact wpAny_mono (q₂.use (n:=k.n) hX R₂ (V₁.mono l₂) W) (fun _ _ x=>x.le (l₁.trans l₂)) fun _ _ x=>x.le (l₁.trans l₂)
theorem Real.forget (R:Real G X φ Γ σ s) {σ':Sto} (h:∀a x,σ' a=some x→σ a=some x):Real G X φ Γ σ' s:=
 ⟨R.core.forget h,R.lf,(by
  cases q:σ' X.env.locals with
  | none=>rfl
  | some x=>have:=h _ _ q;rw [R.ls] at this;cases this),R.ns⟩
theorem Real.freeze (R:Real G X φ Γ σ s) {a:Addr} {x:AObj} {o:Obj} (ha:σ a=some x) (ho:s.heap.get? a=some o):φ.le (φ.set a o)∧Real G X (φ.set a o) Γ (σ.del a) s:=by
 have le:=Fz.le_set (o:=o) (R.core.sto a x ha).f
 have ne:X.env.locals≠a:=fun q=>by have:=R.ls;rw [q,ha] at this;cases this
 refine ⟨le,R.core.freeze ha ho,(set_ne ne).trans R.lf,by unfold Sto.del;refine rwG (if_neg ne) ?_;exact R.ls,?_⟩
 obtain ⟨m,hn,hb⟩:=R.ns
 exact ⟨m,hn,fun p hp=>(hb p hp).mono le⟩
theorem WX.forget {t:Env→Sem Value} {Q:D→Sto→Prop} (h:WX G k Γ σ t (fun d σ'=>∃σ'',(∀a x,σ'' a=some x→σ' a=some x)∧Q d σ'') E):WX G k Γ σ t Q E:=fun X hX φ s R=>
 thV (h X hX φ s R) (fun v s' φ' σ' d l R' V qq=>by (refine ex12 qq ?_;clear qq;intro σ'' hs q);exact ⟨φ',σ'',d,l,R'.forget hs,V,q⟩) fun _ _ x=>x
theorem WX.frzL {t:Env→Sem Value} {Q:D→Sto→Prop} (h:WX G k Γ σ t (fun d σ'=>∃a ds,d=.ref a∧σ' a=some (.list ds)∧Q (.lst ds) (σ'.del a)) E):WX G k Γ σ t Q E:=fun X hX φ s R=>
 thV (h X hX φ s R) (fun v s' φ' σ' d l R' V qq=>by
  refine ex23 qq ?_;clear qq;rintro a ds rfl ha q
  obtain rfl:=V.inv
  obtain ⟨o,ho,O⟩:=R'.store ha
  refine ex02 (R'.freeze ha ho) ?_;intro le R''
  refine ex22 O.inv ?_;rintro ws n rfl g
  exact ⟨_,_,_,l.trans le,R'',.lst set_self rfl rfl (g.mono le),q⟩) fun _ _ x=>x
theorem WX.frzD {t:Env→Sem Value} {Q:D→Sto→Prop} (h:WX G k Γ σ t (fun d σ'=>∃a es,d=.ref a∧σ' a=some (.dict es)∧Q (.dct es) (σ'.del a)) E):WX G k Γ σ t Q E:=fun X hX φ s R=>
 thV (h X hX φ s R) (fun v s' φ' σ' d l R' V qq=>by
  refine ex23 qq ?_;clear qq;rintro a ds rfl ha q
  obtain rfl:=V.inv
  obtain ⟨o,ho,O⟩:=R'.store ha
  have hsys:=notSys R' ha
  refine ex02 (R'.freeze ha ho) ?_;intro le R''
  refine ex24 O.inv ?_;intro gl gn g1 g2 g3 g4
  exact ⟨_,_,_,l.trans le,R'',.dct set_self g1 g2 (g3.mono le) g4 hsys,q⟩) fun _ _ x=>x
end
theorem ACtx.underT {n:Nat} {A:Around} {kept:Objs} (hA:ACtx n A kept) (C:Addr) (vs:List Value):ACtx (n + 1) (A.under (.builtin "type.__call__" ⟨.ref C::vs,[]⟩)) kept:=by
 refine ex12 hA.frames ?_;intro l hl hf
 have h1:Code.weight (.builtin "type.__call__" ⟨.ref C::vs,[]⟩)=1:=by kernel_rfl
 have h2:Nat.ble (Code.cUnits (.builtin "type.__call__" ⟨.ref C::vs,[]⟩)) 8=true:=by kernel_rfl
 have h3:Code.guards (.builtin "type.__call__" ⟨.ref C::vs,[]⟩)=[]:=by kernel_rfl
 have h4:Code.envs (.builtin "type.__call__" ⟨.ref C::vs,[]⟩)=[]:=by kernel_rfl
 refine ⟨hA.handled,?_,?_,?_,l,?_,hf⟩
 ·refine (?_:A.depth + Code.weight _≤n + 1)
  refine rwG h1 ?_;exact Nat.succ_le_succ hA.depth
 ·exact Nat.add_le_add hA.units (Nat.le_of_ble_eq_true h2)
 ·refine (?_:pushGuards (Code.guards (.builtin "type.__call__" ⟨.ref C::vs,[]⟩)) A.guards=some [])
  (refine rwG h3 ?_;refine rwG hA.guards ?_);rfl
 ·refine (?_:pushEnvs (Code.envs (.builtin "type.__call__" ⟨.ref C::vs,[]⟩)) A.frames=some l)
  (refine rwG h4 ?_;refine rwG hl ?_);rfl
theorem WC.cls {n:Nat} {σ:Sto} {args:List D} {Q:D→Sto→Prop} {E:Exn→Sto→Prop} {p:Str×Nat} (hp:p∈clsTab)
  (h:∀x dx,x≠dx→σ x=none→σ dx=none→WC G (n + 1) (.fn p.2 1) (.ref x::args) ((σ.set dx (.dict [])).set x (.inst p.2 dx)) (fun d σ'=>d=.none∧Q (.ref x) σ') E):WC G n (.cls p.2) args σ Q E:=fun A kept held hA φ s R fv vs V W=>by
 refine ex08 (G.clss p hp) ?_;intro g1 g2 g3 g4 g5 g6 g7 g8
 have base:∀b o,G.h₀.get? b=some o→s.heap.get? b=some o:=fun b o e=>R.frz b o (R.base b o e)
 have XK:=G.X.keeps base
 obtain rfl:=V.inv
 focus
  obtain ⟨hh,g,dr,t,os⟩:=s
  refine make_core (makes_of XK g3) (looks_findIn XK g5) (fun self=>bind_fn XK self (beq_iff_eq.mp g6)) (.inl rfl) ?_
  have R₁:RealC G kept held φ (σ.set hh.objs.size (.dict [])) ⟨hh.push emptyDict,g,dr,t,os⟩:=R.pushS (tk:=t) emptyDict (.dict (l:=[]) (n:=0) ⟨rfl,rfl,rfl⟩ rfl .nil (by simp))
  have R₂:RealC G kept held φ ((σ.set hh.objs.size (.dict [])).set (hh.push emptyDict).objs.size (.inst p.2 hh.objs.size)) ⟨(hh.push emptyDict).push (instObj (G.cad p.2) hh.objs.size),g,dr,t,os⟩:=R₁.pushS (tk:=t) (instObj (G.cad p.2) hh.objs.size) .inst
  have sz:=R.size
  have sz₁:=R₁.size
  rw [Heap.size_push] at R₂ sz₁
  have ne:hh.objs.size + 1≠hh.objs.size:=by lia
  have f1:σ (hh.objs.size + 1)=none:=by
   have:=sz₁.2.1
   unfold Sto.set at this
   rw [if_neg ne] at this
   exact this
  refine codeAny_mono (h _ _ ne f1 sz.2.1 _ kept held (hA.underT _ vs) φ _ R₂ (.ref (G.fa p.2 1)) (.ref (hh.objs.size + 1)::vs) (.fn p.2 1 (g2.mono R.base)) (.cons (.ref _) W)) fun r s' z=>?_
  refine z.on (P:=fun r=>InitBack _ _ r s') (fun v φ' σ' d l C' V' qq=>?_) fun e φ' σ' x l C' X q=>⟨φ',σ',x,l,C',X,q⟩
  refine ex02 qq ?_;clear qq;rintro rfl q
  obtain rfl:=V'.inv
  exact ⟨rfl,φ',σ',_,l,C',.ref _,q⟩
end Mine
end
section
open PySem PySem.W PySem.Calls PyProof.Rows
namespace Mine
set_option backward.match.sparseCases false
variable {G:Glob}
noncomputable def dput:List (Str×D)→Str→D→List (Str×D)
 | [],x,d=>[(x,d)]
 | (y,e)::r,x,d=>if y=x then (y,d)::r else (y,e)::dput r x d
theorem stored_cons {y x:Str} {a v:Value} {r:List (Str×Value)} (hn:((y,a)::r).map (·.1) |>.Nodup):stored ((y,a)::r) x v=if y=x then (y,v)::r else (y,a)::stored r x v:=by
 rw [List.map_cons,List.nodup_cons] at hn
 unfold stored
 by_cases h:y=x
 ·subst h
  have:r.map (fun kv=>if kv.1=y then (kv.1,v) else kv)=r:=by
   refine Eq.trans (List.map_congr_left (g:=id) fun p hp=>?_) (List.map_id _)
   have:p.1≠y:=fun e=>hn.1 (List.mem_map.mpr ⟨p,hp,e⟩)
   refine rwG (if_neg this) ?_;rfl
  simp [this]
 ·simp only [List.any_cons,h,decide_false,Bool.false_or,List.map_cons,if_false]
  split<;>rfl
theorem stored_put {φ:Fz} {x:Str} {v:Value} {d:D} (hv:VR G φ v d):∀{kvs:List (Str×Value)} {es:List (Str×D)},(kvs.map (·.1)).Nodup→kvs.map (·.1)=es.map (·.1)→VRs G φ (kvs.map (·.2)) (es.map (·.2))→
  (stored kvs x v).map (·.1)=(dput es x d).map (·.1)∧VRs G φ ((stored kvs x v).map (·.2)) ((dput es x d).map (·.2))
 | [],[],_,_,_=>⟨rfl,.cons hv .nil⟩
 | [],_::_,_,h,_=>nomatch h
 | _::_,[],_,h,_=>nomatch h
 | (y,a)::kvs,(z,b)::es,hn,h,hr=>by
  simp only [List.map_cons,List.cons.injEq] at h
  refine ex02 h ?_;clear h;intro e h
  subst e
  cases hr with
  | cons p q=>
   refine rwG (stored_cons hn) ?_;rewrite [dput]
   by_cases c:y=x
   ·simp only [c,if_true,List.map_cons]
    exact ⟨by (refine rwG h ?_;rfl),.cons hv q⟩
   ·simp only [c,if_false,List.map_cons]
    rw [List.map_cons,List.nodup_cons] at hn
    obtain ⟨i,j⟩:=stored_put hv hn.2 h q
    exact ⟨by (refine rwG i ?_;rfl),.cons p j⟩
theorem vre_put {φ:Fz} {x:Str} {t:Tok} {v:Value} {d:D} (hv:VR G φ v d):∀{l:List DictEntry} {es:List (Str×D)},VRe G φ l es→
  VRe G φ (putIn (·.key.isStr x) (fun e=>{ e with val:=v }) ⟨hashStr G.w x,.str x t,v⟩ l) (dput es x d)
 | _,_,.nil=>.cons rfl hv .nil
 | _,_,.cons (h:=hh) (x:=y) (t:=u) (v:=w) (d:=b) e h r=>by
  rw [dput]
  by_cases c:y=x
  ·refine rwG (if_pos c) ?_;refine rwG (putIn_hit _ _ _ _ _ (by refine (?_:(y==x)=true);exact decide_eq_true c)) ?_
   exact .cons e hv r
  ·refine rwG (if_neg c) ?_;refine rwG (putIn_miss _ _ _ _ _ (by refine (?_:(y==x)=false);exact if_neg c)) ?_
   exact .cons e h (vre_put hv r)
theorem dput_keys {x:Str} {d:D}:∀{es:List (Str×D)},(es.map (·.1)).Nodup→((dput es x d).map (·.1)).Nodup∧∀y,y∈(dput es x d).map (·.1)→y=x∨y∈es.map (·.1)
 | [],_=>⟨by simp [dput],fun y h=>.inl (by exact List.mem_singleton.mp h)⟩
 | (y,b)::es,h=>by
  rw [List.map_cons,List.nodup_cons] at h
  refine ex02 (dput_keys (x:=x) (d:=d) h.2) ?_;intro i j
  rw [dput]
  by_cases c:y=x
  ·refine rwG (if_pos c) ?_
   exact ⟨by (refine rwG List.map_cons ?_;rewrite [List.nodup_cons]);exact h,fun z hz=>.inr hz⟩
  ·refine rwG (if_neg c) ?_
   refine ⟨?_,fun z hz=>?_⟩
   ·refine rwG List.map_cons ?_;rewrite [List.nodup_cons]
    refine ⟨fun q=>?_,i⟩
    rcases j y q with e | m
    ·exact c e
    ·exact h.1 m
   ·rcases List.mem_cons.mp hz with rfl | hz
    ·exact .inr (.head _)
    ·exact (j z hz).imp id (.tail _)
theorem dput_length {x:Str} {d:D}:∀{es:List (Str×D)},(dput es x d).length≤es.length + 1
 | []=>Nat.le_refl _
 | (y,b)::es=>by
  rw [dput]
  have:=dput_length (x:=x) (d:=d) (es:=es)
  split
  ·exact Nat.le_succ _
  ·simp only [List.length_cons];exact Nat.lt_succ_of_le this
theorem VRe.length {φ:Fz}:∀{l:List DictEntry} {es:List (Str×D)},VRe G φ l es→l.length=es.length
 | _,_,.nil=>rfl
 | _,_,.cons _ _ r=>by (refine rwG List.length_cons ?_;refine rwG List.length_cons ?_;refine rwG r.length ?_;rfl)
theorem put_or {φ:Fz} {x:Str} {t:Tok} {v:Value} {d:D} (hv:VR G φ v d) {o:Obj} {es:List (Str×D)} (O:OR G φ (.dict es) o):OR G φ (.dict (dput es x d)) (Obj.putName x (hashStr G.w x) (.str x t) v o)∧
  ∃l n,(Obj.putName x (hashStr G.w x) (.str x t) v o).data=.dict l n∧l.size≤es.length + 1:=by
 refine ex24 O.inv ?_;intro l n h1 h2 h3 h4
 focus
  obtain ⟨c,dd,dt,sl⟩:=o
  dsimp only at h2
  subst h2
  rw [putName_eq]
  have v:=vre_put (x:=x) (t:=t) hv h3
  exact ⟨.dict h1 rfl v (dput_keys h4).1,_,_,rfl,by (refine rwG List.size_toArray ?_;refine rwG v.length ?_);exact dput_length⟩
theorem zip_self {α:Type} (es:List (Str×α)):(es.map (·.1)).zip (es.map (·.2))=es:=by
 induction es with
 | nil=>rfl
 | cons e es ih=>(refine rwG List.map_cons ?_;refine rwG List.map_cons ?_;refine rwG List.zip_cons_cons ?_;refine rwG ih ?_;rfl)
theorem or_dict {φ:Fz} {h:Heap} {a:Addr} {kvs:List (Str×Value)} {es:List (Str×D)} (hd:h.DictOf (strKind pw G.w) a kvs) (e:kvs.map (·.1)=es.map (·.1)) (hr:VRs G φ (kvs.map (·.2)) (es.map (·.2))):
  ∃o,h.get? a=some o∧OR G φ (.dict es) o:=by
 obtain ⟨o,ar,ep,ho,hx,hdt,hk,hp,hn⟩:=hd
 refine ⟨o,ho,.dict hx (l:=ar.toList) (by (refine rwG hdt ?_;refine rwG Array.toArray_toList ?_;rfl)) ?_ (by refine rwL e ?_;exact hn)⟩
 have:=vre_of hp (fun en hen=>hk en (by simpa using hen)) hr
 rw [e,zip_self] at this
 exact this
theorem vre_pairs2 {φ:Fz}:∀{l:List DictEntry} {es:List (Str×D)},VRe G φ l es→∃kvs:List (Str×Value),Pairs (strKind pw G.w) l kvs∧(∀e∈l,∃k,(strKind pw G.w).is k e.key=true∧e.hash=(strKind pw G.w).hash k)∧
  kvs.map (·.1)=es.map (·.1)∧VRs G φ (kvs.map (·.2)) (es.map (·.2))
 | _,_,.nil=>⟨[],.nil,fun _ h=>(nomatch h),rfl,.nil⟩
 | _,_,.cons (h:=hh) (x:=x) (t:=t) (v:=v) (d:=d) e h r=>by
  refine ex14 (vre_pairs2 r) ?_;intro kvs a b c f
  have hk:(strKind pw G.w).is x (.str x t)=true:=by refine (?_:(x==x)=true);exact beq_self_eq_true _
  refine ⟨(x,v)::kvs,.cons hk rfl a,fun en hen=>?_,by (refine rwG List.map_cons ?_;refine rwG List.map_cons ?_;refine rwG c ?_;rfl),.cons h f⟩
  rcases List.mem_cons.mp hen with rfl | hen
  ·exact ⟨x,hk,e⟩
  ·exact b en hen
theorem dict_of2 {φ:Fz} {h:Heap} {a:Addr} {o:Obj} {l:List DictEntry} {n:Nat} {es:List (Str×D)} (ho:h.get? a=some o) (hx:o.ExactDict) (hd:o.data=.dict l.toArray n) (hv:VRe G φ l es) (hn:(es.map (·.1)).Nodup):
  ∃kvs,h.DictOf (strKind pw G.w) a kvs∧kvs.map (·.1)=es.map (·.1)∧VRs G φ (kvs.map (·.2)) (es.map (·.2)):=by
 refine ex14 (vre_pairs2 hv) ?_;intro kvs p k e f
 exact ⟨kvs,⟨o,_,n,ho,hx,hd,fun en hen=>k en (by simpa using hen),p,by refine rwG e ?_;exact hn⟩,e,f⟩
section
variable {k:Sk} {Γ:Loc} {σ:Sto} {E:Exn→Sto→Prop} {X:Cx} {φ φ':Fz} {s:Shared}
noncomputable def CallB (G:Glob) (k:Sk) (σ:Sto) (f:Value) (ds:List D) (Q:D→Sto→Prop):Prop:=
 ∀X,CxOk k X→∀Γ φ s,Real G X φ Γ σ s→∀vs,VRs G φ vs ds→∀F,wpAny (M G) X.A (call f vs) (PostV G X φ Γ Q) F s
theorem one {φ:Fz} {vs:List Value} {d:D} (h:VRs G φ vs [d]):∃v,vs=[v]∧VR G φ v d:=by
 exact h.consE fun v ws a r=>r.nilE ⟨_,rfl,a⟩
theorem two {φ:Fz} {vs:List Value} {d e:D} (h:VRs G φ vs [d,e]):∃v w,vs=[v,w]∧VR G φ v d∧VR G φ w e:=by
 cases h with
 | cons a r=>(refine ex12 (one r) ?_;rintro w rfl b);exact ⟨_,w,rfl,a,b⟩
inductive SeqD (σ:Sto):D→String→List D→Prop
 | tup {ds:List D}:SeqD σ (.tup ds) "tuple" ds
 | lst {ds:List D}:SeqD σ (.lst ds) "list" ds
 | ref {a:Addr} {ds:List D}:σ a=some (.list ds)→SeqD σ (.ref a) "list" ds
theorem SeqD.ok {d:D} {T:String} {ds:List D} (h:SeqD σ d T ds) (R:Real G X φ Γ σ s) {v:Value} (V:VR G φ v d):
  SeqI G s.heap.get? φ v T ds:=by
 induction h with
 | tup=>exact SeqI.rec (fun a o vs n e h1 h2 h3 h4=>⟨a,o,vs,n,e,R.core.frz _ _ h1,h2,h3,h4⟩) V.inv
 | lst=>exact SeqI.rec (fun a o vs n e h1 h2 h3 h4=>⟨a,o,vs,n,e,R.core.frz _ _ h1,h2,h3,h4⟩) V.inv
 | ref ha=>
  obtain ⟨o,ho,O⟩:=R.store ha
  refine ex22 O.inv ?_;intro vs n e g
  exact ⟨_,o,vs,n,V.inv,ho,by (refine rwG e ?_;rfl),by (refine rwG e ?_;rfl),g⟩
theorem SeqD.kind {d:D} {T:String} {ds:List D} (h:SeqD σ d T ds):T="list"∨T="tuple":=by cases h<;>simp
theorem CallB.len {d:D} {T:String} {ds:List D} {Q:D→Sto→Prop} (h:SeqD σ d T ds) (hz:ds.length≤sizeLine) (q:Q (.int ds.length) σ):CallB G k σ (.builtin "len") [d] Q:=fun X hX Γ φ s R vs W F=>by
 refine ex12 (one W) ?_;rintro v rfl V
 obtain ⟨a,o,ws,n,rfl,ho,hc,hd,W'⟩:=h.ok R V
 have e:(ws.toArray.size:Int)=ds.length:=by (refine rwG List.size_toArray ?_;refine rwG W'.length ?_;rfl)
 have hfit:((ws.toArray.size:Nat):Int) < 2 ^ 63:=by refine rwG e ?_;rw [sizeLine_eq] at hz;lia
 induction h with
 | tup=>exact PyProof.Rows.len_tuple (t:=a) ⟨o,ho,hc,n,hd⟩ hfit (by refine rwG e ?_;exact .now (R.tok _) (.int _ _) q)
 | lst=>exact Calls.call_len_list ⟨o,ho,hc,n,hd⟩ hfit (by refine rwG e ?_;exact .now (R.tok _) (.int _ _) q)
 | ref ha=>exact Calls.call_len_list ⟨o,ho,hc,n,hd⟩ hfit (by refine rwG e ?_;exact .now (R.tok _) (.int _ _) q)
theorem CallB.range {i:Int} {Q:D→Sto→Prop} (q:Q (.rng i) σ):CallB G k σ (.type "range") [.int i] Q:=fun X hX Γ φ s R vs W F=>by
 refine ex12 (one W) ?_;rintro v rfl V
 refine ex11 V.inv ?_;rintro t rfl
 obtain ⟨le,R'⟩:=R.pushF (tk:=s.toks + 1 + 1) { cls:=.type "range",data:=.fields #[.int 0 s.toks,.int i _,.int 1 (s.toks + 1)] }
 exact call_range_1 ⟨_,σ,_,le,R',.rng set_self,q⟩
theorem CallB.strI {i:Int} {Q:D→Sto→Prop} (hi:i.natAbs.log2 < 1920) (q:Q (.str (toString i)) σ):CallB G k σ (.type "str") [.int i] Q:=fun X hX Γ φ s R vs W F=>by
 refine ex12 (one W) ?_;rintro v rfl V
 refine ex11 V.inv ?_;rintro t rfl
 exact PySem.P.str_of_int hi (.now (R.tok _) (.str _ _) q)
theorem CallB.strS {x:Str} {Q:D→Sto→Prop} (q:Q (.str x) σ):CallB G k σ (.type "str") [.str x] Q:=fun X hX Γ φ s R vs W F=>by
 refine ex12 (one W) ?_;rintro v rfl V
 refine ex11 V.inv ?_;rintro t rfl
 exact PySem.P.str_of_str (.now R (.str _ _) q)
theorem CallB.strD {d:D} {T:String} {ds:List D} {p:PyData} {Q:D→Sto→Prop} (hq:d=.tup ds∨d=.lst ds) (hp:pyD d=some p) (hs:p.showable=true) (hd:p.hasDict=false) (hdep:p.depth≤100) (hz:p.shown.length≤sizeLine) (hn:k.n≤1000)
  (q:Q (.str p.shown) σ):CallB G k σ (.type "str") [d] Q:=fun X hX Γ φ s R vs W F=>by
 refine ex12 (one W) ?_;rintro v rfl V
 refine ex11 (reads_of R.core.frz V hp) ?_;intro as r
 have:∃a,v=.ref a:=by
  rcases hq with e | e
  ·rw [e] at V;exact SeqI.rec (fun a _ _ _ e _ _ _ _=>⟨a,e⟩) V.inv
  ·rw [e] at V;exact SeqI.rec (fun a _ _ _ e _ _ _ _=>⟨a,e⟩) V.inv
 refine ex11 this ?_;clear this;rintro a rfl
 have hu:=hX.units
 refine PySem.str_of_reads (hsz:=hz) r hs (fun h=>by rw [hd] at h;cases h) hX.guards (by refine rwG cLine_is ?_;lia) (fun _ _ e=>e) fun h' u tk keep=>?_
 exact .now (R.keeps keep) (.str _ _) q
theorem CallB.list {d:D} {T:String} {ds:List D} {Q:D→Sto→Prop} (h:SeqD σ d T ds) (hz:ds.length≤sizeLine) (q:∀a,σ a=none→Q (.ref a) (σ.set a (.list ds))):CallB G k σ (.type "list") [d] Q:=fun X hX Γ φ s R vs W F=>by
 refine ex12 (one W) ?_;rintro v rfl V
 obtain ⟨a,o,ws,n,rfl,ho,hc,hd,W'⟩:=h.ok R V
 refine call_list_seq (hsz:=by (refine rwG List.size_toArray ?_;refine rwG W'.length ?_);exact hz) a h.kind ho hc hd fun h' c' keep hnew=>?_
 refine ex05 R.size ?_;intro f1 f2 f3 f4 f5
 refine ⟨φ,_,_,φ.le_refl,⟨R.core.new keep f1 f2 f3 f4 hnew (.list W'),R.lf,by unfold Sto.set;refine rwG (if_neg (Ne.symm f5)) ?_;exact R.ls,?_⟩,.ref _,q _ f2⟩
 obtain ⟨m,hn,hb⟩:=R.ns
 exact ⟨m,hn.keeps keep,hb⟩
theorem CallB.tuple {d:D} {ds:List D} {Q:D→Sto→Prop} (h:SeqD σ d "list" ds) (hz:ds.length≤sizeLine) (q:Q (.tup ds) σ):CallB G k σ (.type "tuple") [d] Q:=fun X hX Γ φ s R vs W F=>by
 refine ex12 (one W) ?_;rintro v rfl V
 obtain ⟨a,o,ws,n,rfl,ho,hc,hd,W'⟩:=h.ok R V
 refine call_tuple_list (hsz:=by (refine rwG List.size_toArray ?_;refine rwG W'.length ?_);exact hz) ⟨o,ho,hc,n,hd⟩ fun h' keep=>?_
 refine ex02 ((R.keeps (tk:=s.toks) keep).pushF (tk:=s.toks) { cls:=.type "tuple",data:=.seq ws.toArray }) ?_;intro le R'
 exact ⟨_,σ,_,le,R',.tup set_self rfl rfl (W'.mono le),q⟩
theorem CallB.append {a:Addr} {d:D} {ds:List D} {Q:D→Sto→Prop} (ha:σ a=some (.list ds)) (hz:ds.length≤sizeLine) (q:Q .none (σ.set a (.list (ds++[d])))):CallB G k σ (.builtin "list.append") [.ref a,d] Q:=fun X hX Γ φ s R vs W F=>by
 refine ex23 (two W) ?_;rintro v w rfl V V'
 obtain rfl:=V.inv
 obtain ⟨o,ho,O⟩:=R.store ha
 refine ex22 O.inv ?_;rintro ws n rfl g
 focus
  refine call_meets PySem.F.slot_list_append ⟨_,ho,rfl⟩ PySem.F.entry_list_append (PySem.F.args_list_append_2 _ _) (list_append a ws.toArray n w (hsz:=by (refine rwG List.size_toArray ?_;refine rwG g.length ?_);exact hz)) ⟨ho,?_⟩
  have hn:=IsL.update ho (fun xs=>xs.push w)
  refine ⟨φ,_,_,φ.le_refl,R.upd (tk:=s.toks) (fun b o hb hbo=>(Heap.get?_update_other _ _ (Ne.symm hb)).trans hbo) ha hn ?_,.none,q⟩
  refine rwG (show ws.toArray.push w=(ws++[w]).toArray by simp) ?_
  exact .list (g.append (.cons V' .nil))
theorem CallB.pop {a:Addr} {d:D} {ds:List D} {Q:D→Sto→Prop} (ha:σ a=some (.list (ds++[d]))) (hz:(ds++[d]).length≤sizeLine) (q:Q d (σ.set a (.list ds))):CallB G k σ (.builtin "list.pop") [.ref a] Q:=fun X hX Γ φ s R vs W F=>by
 refine ex12 (one W) ?_;rintro v rfl V
 obtain rfl:=V.inv
 obtain ⟨o,ho,O⟩:=R.store ha
 refine ex22 O.inv ?_;rintro ws n rfl g
 focus
  have split:∀{ds:List D} {ws:List Value},VRs G φ ws (ds++[d])→∃vs v,ws=vs++[v]∧VRs G φ vs ds∧VR G φ v d:=by
   intro ds
   induction ds with
   | nil=>intro ws h;(refine ex12 (one h) ?_;rintro v rfl V);exact ⟨[],v,rfl,.nil,V⟩
   | cons e ds ih=>
    intro ws h
    cases h with
    | cons p q=>
     refine ex23 (ih q) ?_;rintro vs v rfl A B
     exact ⟨_::vs,v,rfl,.cons p A,B⟩
  refine ex23 (split g) ?_;rintro us u rfl g1 g2
  refine call_meets PySem.F.slot_list_pop ⟨_,ho,rfl⟩ PySem.F.entry_list_pop (PySem.F.args_list_pop_1 _) (PySem.MeetsSeq.list_pop_last a _ n u (by simp) (by (refine rwG List.size_toArray ?_;refine rwG g.length ?_);exact hz)) ⟨ho,?_⟩
  have hn:=IsL.update ho (fun xs=>xs.eraseIdxIfInBounds ((us++[u]).toArray.size - 1))
  refine ⟨φ,_,_,φ.le_refl,R.upd (tk:=s.toks) (fun b o hb hbo=>(Heap.get?_update_other _ _ (Ne.symm hb)).trans hbo) ha hn ?_,g2,q⟩
  have e:(us++[u]).toArray.eraseIdxIfInBounds ((us++[u]).toArray.size - 1)=us.toArray:=by
   simp [Array.eraseIdxIfInBounds,List.eraseIdx_append_of_length_le]
  refine rwG e ?_
  exact .list g1
theorem CallB.extend {a:Addr} {es:List D} {Q:D→Sto→Prop} (ha:σ a=some (.list [])) (hz:es.length≤1000) (q:Q .none (σ.set a (.list es))):CallB G k σ (.builtin "list.extend") [.ref a,.lst es] Q:=fun X hX Γ φ s R vs W F=>by
 refine ex23 (two W) ?_;rintro v w rfl V V'
 obtain rfl:=V.inv
 obtain ⟨o,ho,O⟩:=R.store ha
 refine ex22 O.inv ?_;rintro ws n rfl g
 focus
  cases g
  refine V'.lstE fun b ob us m h1 h2 h3 h4=>?_
  focus
   have hsz:us.toArray.size≤sizeLine:=by (refine rwG List.size_toArray ?_;refine rwG h4.length ?_;refine rwG sizeLine_eq ?_);exact Nat.le_trans hz (Nat.le_of_ble_eq_true rfl)
   refine wpAny_call (codeAny_call_builtin PySem.F.slot_list_extend.plain PySem.F.entry_list_extend (PySem.F.slot_list_extend.check _ _ _ _ _ _ _ _ ⟨_,ho,rfl⟩ (PySem.F.args_list_extend_2 _ _) ?_))
   have e0:Builtin.«list.extend» ⟨[.ref a,.ref b],[]⟩=Builtin.List.listExtendWith (.ref a) (.ref b) .none:=by with_unfolding_all rfl
   refine rwG e0 ?_
   refine wpAny_extend_seq (R:=wants (PostV G X φ Γ Q) F) (hsz:=hsz) a b .none n (.inl rfl) ho (R.core.frz _ _ h1) h2 h3 ?_
   have hn:=IsL.update ho (fun xs=>xs++us.toArray)
   refine ⟨φ,_,_,φ.le_refl,R.upd (tk:=s.toks) (fun b o hb hbo=>(Heap.get?_update_other _ _ (Ne.symm hb)).trans hbo) ha hn ?_,.none,q⟩
   refine rwG (show ([]:List Value).toArray++us.toArray=us.toArray by simp) ?_
   exact .list h4
theorem CallB.join {x:Str} {ts:List Str} {d:D} {Q:D→Sto→Prop} (h:SeqD σ d "list" (ts.map .str)) (hok:JoinOk x ts=true) (q:Q (.str (Txt.join x ts)) σ):CallB G k σ (.builtin "str.join") [.str x,d] Q:=fun X hX Γ φ s R vs W F=>by
 refine ex23 (two W) ?_;rintro v w rfl V V'
 refine ex11 V.inv ?_;rintro t rfl
 obtain ⟨a,o,ws,n,rfl,ho,hc,hd,W'⟩:=h.ok R V'
 have shape:∀{ts:List Str} {ws:List Value},VRs G φ ws (ts.map .str)→∃l:List (Str×Tok),ws=strValues l∧l.map (·.1)=ts:=by
  intro ts
  induction ts with
  | nil=>intro ws h;cases h;exact ⟨[],rfl,rfl⟩
  | cons e ds ih=>
   intro ws h
   cases h with
   | cons p q=>
    cases p
    refine ex12 (ih q) ?_;rintro l rfl rfl
    exact ⟨(_,_)::l,rfl,rfl⟩
 refine ex12 (shape W') ?_;rintro l rfl ht
 exact SC.join (D:=a) (l:=l) ⟨o,ho,hc,n,hd⟩ ht hok fun t' k=>.now (R.tok _) (.str _ _) q
theorem CallB.update {a b:Addr} {es fs:List (Str×D)} {Q:D→Sto→Prop} (ha:σ a=some (.dict es)) (hb:σ b=some (.dict fs)) (hab:a≠b) (hn:((es++fs).map (·.1)).Nodup) (hz:es.length + fs.length≤1000) (q:Q .none (σ.set a (.dict (es++fs)))):
  CallB G k σ (.builtin "dict.update") [.ref a,.ref b] Q:=fun X hX Γ φ s R vs W F=>by
 refine ex23 (two W) ?_;rintro v w rfl V V'
 obtain rfl:=V.inv
 obtain rfl:=V'.inv
 obtain ⟨o,ho,O⟩:=R.store ha
 obtain ⟨o',ho',O'⟩:=R.store hb
 refine ex24 O.inv ?_;intro gl gn g1 g2 g3 g4
 refine ex24 O'.inv ?_;intro fl fn f1 f2 f3 f4
 focus
  focus
   refine ex13 (dict_of2 ho g1 g2 g3 g4) ?_;intro kvs dd e r
   refine ex13 (dict_of2 ho' f1 f2 f3 f4) ?_;intro more dd' e' r'
   have ek:(kvs++more).map (·.1)=(es++fs).map (·.1):=by (refine rwG List.map_append ?_;refine rwG List.map_append ?_;refine rwG e ?_;refine rwG e' ?_;rfl)
   have l1:kvs.length=es.length:=by have:=congrArg List.length e;simpa using this
   have l2:more.length=fs.length:=by have:=congrArg List.length e';simpa using this
   refine call_meetsIn PySem.F.slot_dict_update ⟨_,ho,g1.1⟩ PySem.F.entry_dict_update (PySem.F.args_dict_update_2 _ _) (meets_dict_update (strKind pw G.w) a b hab (notSys R hb)) ⟨kvs,more,dd,dd',by (refine rwG l1 ?_;refine rwG l2 ?_;refine rwG sizeLine_eq ?_);exact Nat.le_trans hz (Nat.le_of_ble_eq_true rfl),fun h' x y z=>?_⟩
   rw [merged_nodup more kvs (by refine rwG ek ?_;exact hn)] at x
   refine ex12 (or_dict x ek (by (refine rwG List.map_append ?_;refine rwG List.map_append ?_);exact r.append r')) ?_;intro o₂ ho₂ O₂
   exact ⟨φ,_,_,φ.le_refl,R.upd (tk:=s.toks) (fun b o hb hbo=>(z.2 b hb).trans hbo) ha ho₂ O₂,.none,q⟩
theorem WE.bcall {x:Str} {v:Value} {np pos:Pos} {args:List Expr} {Q:D→Sto→Prop} (hi:(x,v)∈bltTab) (hk:k.sc.names.lookup x=some .globalImplicit) (hd:(x==S_ "__debug__")=false)
  (h:WA G k Γ σ args (fun ds σ₁=>CallB G k σ₁ v ds Q) E) (hp:∀env,(backTo pos (starEach args env)).any (·.1)=false:=by intro _;rfl):WE G k Γ σ (.Call (.Name x np) args [] pos) Q E:=fun X hX φ s R=>by
 refine wpAny_Call_NameR (blt_load hX R hi hk hd ?_)
 have hv:(∃id,v=.builtin id)∨∃T,v=.type T:=by
  simp only [bltTab,List.mem_cons,List.mem_nil_iff,or_false,Prod.mk.injEq] at hi
  rcases hi with ⟨_,rfl⟩ | ⟨_,rfl⟩ | ⟨_,rfl⟩ | ⟨_,rfl⟩ | ⟨_,rfl⟩ | ⟨_,rfl⟩<;>first | exact .inl ⟨_,rfl⟩ | exact .inr ⟨_,rfl⟩
 have hargs:wpAny (M G) X.A (evalArgs v true (backTo pos (starEach args X.env)) []) (fun a s₁=>wpAny (M G) X.A (PySem.call v ([]++a.pos) a.kw) (PostV G X φ Γ Q) (PostE G X φ E) s₁) (PostE G X φ E) s:=by
  refine evalArgs_any (hp _) (thVs (h pos X hX φ s R) (fun vs s₂ φ₂ σ₂ ds l₂ R₂ W q₂=>?_) fun _ _ x=>x)
  exact wpAny_mono (q₂ X hX Γ φ₂ s₂ R₂ vs W (fun _ _=>False)) (fun _ _ x=>x.le l₂) fun _ _ x=>x.elim
 rcases hv with ⟨id,rfl⟩ | ⟨T,rfl⟩
 ·exact Calls.callWith_builtin (hp _) hargs
 ·exact PySem.callWith_type (hp _) hargs
inductive IsT (σ:Sto):D→String→Prop
 | lst {a:Addr} {ds:List D}:σ a=some (.list ds)→IsT σ (.ref a) "list"
 | dct {a:Addr} {es:List (Str×D)}:σ a=some (.dict es)→IsT σ (.ref a) "dict"
 | str {x:Str}:IsT σ (.str x) "str"
theorem WE.meth {o:Expr} {name:Str} {apos pos:Pos} {args:List Expr} {T id:String} {Q:D→Sto→Prop} (pa:PlainAttrs T) (slot:Slot T name id) (hty:typeOf (.builtin id)=pure (.type "method_descriptor"))
  (h:WE G k Γ σ o (fun d σ₁=>IsT σ₁ d T∧WA G k Γ σ₁ args (fun ds σ₂=>CallB G k σ₂ (.builtin id) (d::ds) Q) E) E)
  (hbase:∀env,attributeBase o name env (eval o env)=eval o env:=by intro _;rfl)
  (hfew:∀env,((backTo pos (starEach args env)).all (fun x=>!x.1)&&(backToKw pos (keywordEach [] env)).all (fun x=>x.1.isSome)
   &&decide (args.length + ([]:List Keyword).length + (if ([]:List Keyword).isEmpty then 0 else 1) < 30))=true:=by intro _;rfl)
  (hline:(apos.endLine==pos.line)=true:=by rfl) (hp:∀env,(backTo pos (starEach args env)).any (·.1)=false:=by intro _;rfl):WE G k Γ σ (.Call (.Attribute o name apos) args [] pos) Q E:=fun X hX φ s R=>by
 refine wpAny_Call_method (hbase _) (hfew _) hline pa slot hty (then_ (h X hX φ s R) (fun φ₁ σ₁ d v s₁ l₁ R₁ V q=>?_) fun _ _ x=>x)
 refine ex02 q ?_;clear q;intro hT q
 refine ⟨?_,?_,?_⟩
 ·clear q h
  induction hT with
  | lst ha=>refine V.refE ?_;obtain ⟨o,ho,O⟩:=R₁.store ha;exact ⟨_,ho,O.cls_list⟩
  | dct ha=>refine V.refE ?_;obtain ⟨o,ho,O⟩:=R₁.store ha;exact ⟨_,ho,O.dictX.1⟩
  | str=>exact V.strE fun _=>typeIs_str _ _ _
 ·intro a e
  clear q h
  rw [e] at V
  induction hT with
  | lst ha=>obtain ⟨o,ho,O⟩:=R₁.store ha;exact ⟨o,V.ref_is.symm▸ho,O.dict_list⟩
  | dct ha=>obtain ⟨o,ho,O⟩:=R₁.store ha;exact ⟨o,V.ref_is.symm▸ho,O.dictX.2.1⟩
  | str=>exact V.str_ne.elim
 ·refine Calls.callWith_builtin (hp _) (evalArgs_any (hp _) (thVs (q pos X hX φ₁ s₁ R₁) (fun vs s₂ φ₂ σ₂ ds l₂ R₂ W q₂=>?_) fun _ _ x=>x.le l₁))
  exact wpAny_mono (q₂ X hX Γ φ₂ s₂ R₂ (v::vs) (.cons (V.mono l₂) W) (fun _ _=>False)) (fun _ _ x=>x.le (l₁.trans l₂)) fun _ _ x=>x.elim
end
end Mine
end
section
open PySem PySem.W PySem.Calls PyProof.Rows
namespace Mine
set_option backward.match.sparseCases false
variable {G:Glob}
inductive PostA (G:Glob) (X:Cx) (φ:Fz) (Q:Loc→Sto→Prop) (s':Shared):Prop
 | mk (φ':Fz) (σ':Sto) (Γ':Loc):φ.le φ'→Real G X φ' Γ' σ' s'→Q Γ' σ'→PostA G X φ Q s'
theorem thA {X:Cx} {φ:Fz} {A:Around} {F F':Value→Shared→Prop} {s:Shared} {t:Sem Unit} {Q:Loc→Sto→Prop} {Z:Unit→Shared→Prop} (h:wpAny (M G) A t (fun _ s'=>PostA G X φ Q s') F s)
  (f:∀v s₁ φ₁ σ₁ Γ₁,φ.le φ₁→Real G X φ₁ Γ₁ σ₁ s₁→Q Γ₁ σ₁→Z v s₁) (g:∀e s',F e s'→F' e s'):wpAny (M G) A t Z F' s:=
 wpAny_mono h (fun v s₁ h=>PostA.rec (f v s₁) h) g
theorem PostA.le {X:Cx} {φ φ₁:Fz} {Q:Loc→Sto→Prop} {s:Shared} (k:φ.le φ₁) (h:PostA G X φ₁ Q s):PostA G X φ Q s:=
 PostA.rec (fun φ' σ' d a r q=>⟨φ',σ',d,k.trans a,r,q⟩) h
noncomputable def WAsg (G:Glob) (k:Sk) (Γ:Loc) (σ:Sto) (t:Expr) (d:D) (Q:Loc→Sto→Prop) (E:Exn→Sto→Prop):Prop:=
 ∀X,CxOk k X→∀φ s,Real G X φ Γ σ s→∀v,VR G φ v d→wpAny (M G) X.A (assign t X.env v) (fun _ s'=>PostA G X φ Q s') (PostE G X φ E) s
noncomputable def WAsgs (G:Glob) (k:Sk) (Γ:Loc) (σ:Sto) (ts:List Expr) (ds:List D) (Q:Loc→Sto→Prop) (E:Exn→Sto→Prop):Prop:=
 ∀X,CxOk k X→∀φ s,Real G X φ Γ σ s→∀vs,VRs G φ vs ds→wpAny (M G) X.A (assignInOrder ((assignEach ts X.env).map (·.2)) vs) (fun _ s'=>PostA G X φ Q s') (PostE G X φ E) s
section
variable {k:Sk} {Γ:Loc} {σ:Sto} {E:Exn→Sto→Prop} {X:Cx} {φ φ':Fz} {s:Shared}
theorem Real.weaken (R:Real G X φ Γ σ s) {Γ':Loc} (h:∀p∈Γ',p∈Γ):Real G X φ Γ' σ s:=
 ⟨R.core,R.lf,R.ls,NsI.rec (fun m a b=>⟨m,a,fun p hp=>b p (h p hp)⟩) R.ns⟩
theorem WAsg.loc {x:Str} {p:Pos} {d:D} {Q:Loc→Sto→Prop} (Γ':Loc) (hk:k.sc.names.lookup x=some .local) (hd:(x==S_ "__debug__")=false) (hΓ:∀q∈Γ',q=(x,d)∨(q∈Γ∧q.1≠x)) (h:Q Γ' σ):
  WAsg G k Γ σ (.Name x p) d Q E:=fun X hX φ s R v V=>by
 obtain ⟨m,hn,hb⟩:=R.ns
 have hkx:X.env.kindOf x=some .local:=by refine (?_:X.env.scope.names.lookup x=_);refine rwG hX.scope ?_;exact hk
 refine wpAny_assign_Name (wpAny_storeName_local hkx hn (fun h' hn' hs=>?_) (by (refine rwG hX.scope ?_;refine rwG hX.kind ?_);rfl))
 refine ⟨φ,σ,Γ',φ.le_refl,⟨R.core.ext (tk:=s.toks + 1) (fun b o hb hbo=>(hs.2 b hb).trans hbo) R.lf R.ls hX.lk hX.lh,R.lf,R.ls,_,hn',fun q hq=>?_⟩,h⟩
 rcases hΓ q hq with rfl | ⟨hq,hne⟩
 ·exact ⟨hd,v,V,.inl ⟨hkx,if_pos rfl⟩⟩
 ·obtain ⟨a,w,b,c⟩:=hb q hq
  exact ⟨a,w,b,c.imp (And.imp id (if_neg hne).trans) id⟩
theorem WAsg.cell {x:Str} {p:Pos} {c:Addr} {d:D} {o:Option D} {Q:Loc→Sto→Prop} (hc:(x,c)∈k.cells) (hk:k.sc.names.lookup x=some .cell) (ha:σ c=some (.cell o)) (h:Q Γ (σ.set c (.cell (some d)))):WAsg G k Γ σ (.Name x p) d Q E:=fun X hX φ s R v V=>by
 refine ex03 (hX.cells _ hc) ?_;intro hl _ hd
 obtain ⟨ob,ho,O⟩:=R.store ha
 have hkx:X.env.kindOf x=some .cell:=by refine (?_:X.env.scope.names.lookup x=_);refine rwG hX.scope ?_;exact hk
 have:∃v₀,s.heap.IsCell c v₀:=by
  cases o with
  | none=>exact ⟨_,ob,ho,O.inv⟩
  | some _=>exact ex12 O.inv fun _ h _=>⟨_,ob,ho,h⟩
 refine ex11 this ?_;clear this;intro v₀ hv₀
 refine wpAny_assign_Name (wpAny_storeName_cell (by refine rwG hX.scope ?_;exact hX.kind) hkx hl hv₀ fun h' qq hs=>?_)
 refine ex12 qq ?_;clear qq;intro o' ho' hd'
 exact ⟨φ,_,Γ,φ.le_refl,R.upd (tk:=s.toks) (fun b o hb hbo=>(hs.2 b hb).trans hbo) ha ho' (.cellS hd' V),h⟩
theorem WAsgs.nil {Q:Loc→Sto→Prop} (h:Q Γ σ):WAsgs G k Γ σ [] [] Q E:=fun X hX φ s R vs W=>by
 refine W.nilE ?_
 exact wpAny_assignInOrder_none ⟨φ,σ,Γ,φ.le_refl,R,h⟩
theorem WAsgs.cons {t:Expr} {ts:List Expr} {d:D} {ds:List D} {Q:Loc→Sto→Prop} (h:WAsg G k Γ σ t d (fun Γ₁ σ₁=>WAsgs G k Γ₁ σ₁ ts ds Q E) E)
  (he:∀env,(assignEach (t::ts) env).map (·.2)=assign t env::(assignEach ts env).map (·.2):=by intro _;rfl):WAsgs G k Γ σ (t::ts) (d::ds) Q E:=fun X hX φ s R vs W=>by
 refine W.consE fun v ws V W=>?_
 focus
  rw [he]
  refine wpAny_assignInOrder_more (thA (h X hX φ s R _ V) (fun _ s₁ φ₁ σ₁ Γ₁ l₁ R₁ q=>?_) fun _ _ x=>x)
  exact wpAny_mono (q X hX φ₁ s₁ R₁ _ (W.mono l₁)) (fun _ _ x=>x.le l₁) fun _ _ x=>x.le l₁
theorem WAsg.tup {elts:List Expr} {kk:Nat} {p:Pos} {ds:List D} {Q:Loc→Sto→Prop} (h:WAsgs G k Γ σ elts ds Q E) (hn:∀env,(assignEach elts env).length=ds.length:=by intro _;rfl) (hstar:∀env,(assignEach elts env).findIdx? (·.1)=none:=by intro _;rfl):
  WAsg G k Γ σ (.Tuple elts kk p) (.tup ds) Q E:=fun X hX φ s R v V=>by
 obtain ⟨ta,to,tv,tn,rfl,h1,h2,h3,h4⟩:=V.inv
 focus
  refine wpAny_assign_Tuple hX.handled ⟨_,R.core.frz _ _ h1,h2,_,h3⟩ (by (rewrite [hn];refine rwG List.size_toArray ?_;refine rwG h4.length ?_;rfl)) (hstar _) fun h' k'=>?_
  refine ex05 R.size ?_;intro z1 z2 z3 z4 z5
  exact h X hX φ _ (R.ext (tk:=s.toks) k' z1 z2 z3 z4 z5) _ h4
theorem attr_cls:∀q∈attrTab,∃p∈clsTab,p.2=q.1:=by decide +kernel
theorem vre_noRef {φ:Fz} {l:List DictEntry} {es:List (Str×D)} (z:VRe G φ l es):l.any (·.refKey)=false:=by
 induction l generalizing es with
 | nil=>rfl
 | cons e l ih=>
  cases z with
  | cons _ _ r=>(refine rwG List.any_cons ?_;refine rwG (ih r) ?_);rfl
theorem storeDict_ok (R:Real G X φ Γ σ s) {A:Around} {dx:Addr} {fs:List (Str×D)} {x:Str} {t:Tok} {v:Value} {d:D} (hdx:σ dx=some (.dict fs)) (hz:fs.length≤1000) (V:VR G φ v d) {Q:PySem.Fin→Shared→Prop} {F:Value→Shared→Prop}
  (h:∀s',Real G X φ Γ (σ.set dx (.dict (dput fs x d))) s'→Q (.done (.ret .none)) s'):wpAny (M G) A (Builtin.ObjectAttr.storeInDict dx (.str x t) x v) Q F s:=by
 obtain ⟨o',ho',O'⟩:=R.store hdx
 have P:=fun t=>put_or (x:=x) (t:=t) V O'
 refine wpAny_bind (wpAny_pure (wpAny_bind ?_))
 unfold nsSet
 refine wpAny_bind (wpAny_bind (wpAny_askSetting (wpAny_pure (wpAny_bind (wpAny_mkText (wpAny_bind (wpAny_loadPart ho' ?_)))))))
 refine ex24 O'.inv ?_;intro fl fn f1 f2 f3 f4
 focus
  refine rwG f2 ?_
  dsimp only
  rewrite [aRefKeyMayBeTheName_at];refine rwL (Array.any_toList (p:=fun e:DictEntry=>e.refKey)) ?_;refine rwG (vre_noRef f3) ?_;rewrite [Bool.and_false];refine rwG (if_neg Bool.false_ne_true) ?_
  obtain ⟨q1,l',n',q2,q3⟩:=P s.toks
  refine wpAny_updatePart ho' ?_
  have D':=Heap.get?_update_self (Obj.putName x (hashStr G.w x) (.str x s.toks) v) ho' (Obj.isFreed_of_dict q2)
  refine wpAny_bind (wpAny_lookBehind D' (by refine rwG q2 ?_;exact pastItsLine_dict (by refine rwG sizeLine_eq ?_;exact lin2 hz q3 (by simp +arith only))) ?_)
  exact wpAny_pure (h _ (R.upd (tk:=s.toks + 1) (fun b o hb hbo=>(Heap.get?_update_other _ _ (Ne.symm hb)).trans hbo) hdx D' q1))
theorem setAttr_ok (R:Real G X φ Γ σ s) {a dx:Addr} {c:Nat} {fs:List (Str×D)} {x:Str} {v:Value} {d:D} (hc:(c,x)∈attrTab) (ha:σ a=some (.inst c dx)) (hdx:σ dx=some (.dict fs)) (hz:fs.length≤1000) (V:VR G φ v d)
  {Q:Unit→Shared→Prop} {F:Value→Shared→Prop} (h:∀s',Real G X φ Γ (σ.set dx (.dict (dput fs x d))) s'→Q () s'):wpAny (M G) X.A (setAttr (.ref a) x v) Q F s:=by
 refine ex04 (G.attrs _ hc) ?_;intro h1 h2 h3 h4
 refine ex12 (attr_cls _ hc) ?_;intro p hp e
 dsimp only at h1 h2 h3 h4 e
 subst e
 refine ex08 (G.clss p hp) ?_;intro _ _ _ _ _ _ g7 g8
 obtain ⟨o,ho,O⟩:=R.store ha
 obtain ⟨o',ho',O'⟩:=R.store hdx
 obtain rfl:=O.inv
 have I:InstAt s.heap a _ (G.cad p.2) (some o'):=⟨ho,rfl,rfl,ho'⟩
 refine set_plain (G.X.keeps R.base) I g7 (osa_open (s:={ s with toks:=s.toks + 1 }) (od:=some o') (G.X.keeps R.base) I g8 h4 fun b=>?_)
 refine ex12 (any_some h2) ?_;intro cd hcd hd'
 refine wpAny_bind (wpAny_pure (wpAny_bind (wpAny_bind (wpAny_loadPart ho (wpAny_bind ((looks_clsIn (G.X.keeps R.base) hcd).here (s:={ s with toks:=s.toks + 1 }) ?_))))))
 refine rwG hd' ?_
 exact wpAny_pure (a:=some dx) (storeDict_ok (R.tok (s.toks + 1)) hdx hz V h)
theorem setItem_dict (R:Real G X φ Γ σ s) {a:Addr} {fs:List (Str×D)} {x:Str} {t:Tok} {v:Value} {d:D} (ha:σ a=some (.dict fs)) (hz:fs.length≤1000) (V:VR G φ v d)
  {Q:Unit→Shared→Prop} {F:Value→Shared→Prop} (h:∀s',Real G X φ Γ (σ.set a (.dict (dput fs x d))) s'→Q () s'):wpAny (M G) X.A (setItem (.ref a) (.str x t) v) Q F s:=by
 obtain ⟨o,ho,O⟩:=R.store ha
 refine ex24 O.inv ?_;intro fl fn f1 f2 f3 f4
 focus
  refine ex13 (dict_of2 ho f1 f2 f3 f4) ?_;intro kvs dd e r
  have l1:kvs.length=fs.length:=by have:=congrArg List.length e;simpa using this
  refine wpAny_setItem_pairs (hsz:=by (refine rwG l1 ?_;refine rwG sizeLine_eq ?_);exact Nat.le_trans hz (Nat.le_of_ble_eq_true rfl)) (is_str x t) dd fun h' hd hs=>?_
  refine ex02 (stored_put (x:=x) V (by refine rwG e ?_;exact f4) e r) ?_;intro i j
  refine ex12 (or_dict hd i j) ?_;intro o₂ ho₂ O₂
  exact h _ (R.upd (tk:=s.toks + 1) (fun b o hb hbo=>(hs.2 b hb).trans hbo) ha ho₂ O₂)
theorem setItem_list (R:Real G X φ Γ σ s) {l:Addr} {ds:List D} {k:Int} {t:Tok} {v:Value} {d:D} (ha:σ l=some (.list ds)) (h0:0≤k) (hi:k < ds.length) (hz:ds.length≤sizeLine) (V:VR G φ v d)
  {Q:Unit→Shared→Prop} {F:Value→Shared→Prop} (h:∀s',Real G X φ Γ (σ.set l (.list (ds.set k.toNat d))) s'→Q () s'):wpAny (M G) X.A (setItem (.ref l) (.int k t) v) Q F s:=by
 obtain ⟨o,ho,O⟩:=R.store ha
 refine ex22 O.inv ?_;rintro ws n rfl g
 focus
  have hl:s.heap.IsList l ws.toArray:=⟨_,ho,rfl,n,rfl⟩
  have hfit:Builtin.List.listFitsIndex k=true:=fitsIndex_of h0 (by rw [sizeLine_eq] at hz;lia)
  clear hz
  unfold setItem
  try with_reducible refine wpAny_holding ?_
  first | refine wpAny_bind (wpAny_pure ?_) | skip
  refine wpAny_bind (wpAny_sequenceKey hl.typeIs (by decide) ?_)
  refine wpAny_bind (wpAny_callSpecial?_slot (name:=S_ "__setitem__") hl.typeIs slot_list_setitem
   (wpAny_call_entry slot_list_setitem hl.typeIs entry_list_setitem ?_ (args_list_setitem _ _ _)))
  refine (?_:wpAny _ _ (Builtin.List.listSubscript? (.int k t) >>= _) _ _ s)
  refine wpAny_bind (wpAny_listSubscript_int hfit ?_)
  clear hfit
  refine ex11 (Int.eq_ofNat_of_zero_le h0) ?_;rintro i rfl
  have hj:i < ws.toArray.size:=by (refine rwG List.size_toArray ?_;refine rwG g.length ?_);exact Int.ofNat_lt.mp hi
  have hx':ws.toArray[i]?=some ws.toArray[i]:=Array.getElem?_eq_getElem hj
  refine (?_:wpAny _ _ ((seqItemAt l i >>= fun r=>pure (r.map (i,·))) >>= _) _ _ s)
  refine wpAny_bind (wpAny_bind (wpAny_seqItemAt ho rfl (wpAny_pure ?_)))
  refine rwG hx' ?_
  refine (?_:wpAny _ _ (setSeqItemAt l i v >>= _) _ _ s)
  refine wpAny_bind (wpAny_setSeqItemAt ho rfl ?_)
  have hn:=IsL.update ho (fun xs=>xs.setIfInBounds i v)
  have fin:Real G X φ Γ (σ.set l (.list (ds.set (i:Int).toNat d))) { s with heap:=s.heap.update l (Obj.mapSeq (·.setIfInBounds i v)) }:=by
   refine R.upd (tk:=s.toks) (fun b o hb hbo=>(Heap.get?_update_other _ _ (Ne.symm hb)).trans hbo) ha hn ?_
   refine rwG (show ws.toArray.setIfInBounds i v=(ws.set i v).toArray by simp) ?_
   have:∀{vs:List Value} {ds:List D} (i:Nat),VRs G φ vs ds→VRs G φ (vs.set i v) (ds.set i d):=by
    intro vs
    induction vs with
    | nil=>intro ds i z;cases z;exact .nil
    | cons w vs ih=>
     intro ds i z
     cases z with
     | cons p q=>
      induction i with
      | zero=>exact .cons V q
      | succ i=>exact .cons p (ih i q)
   rw [Int.toNat_natCast]
   exact .list (this i g)
  have fin':=h _ fin
  clear fin h
  first
   | exact wpAny_bind (wpAny_pure (wpAny_pure ⟨.none,rfl,wpAny_pure fin'⟩))
   | exact wpAny_pure ⟨.none,rfl,wpAny_pure fin'⟩
inductive ItemR (σ:Sto) (d:D):D→D→Sto→Prop
 | dict {a:Addr} {fs:List (Str×D)} {x:Str}:σ a=some (.dict fs)→fs.length≤1000→ItemR σ d (.ref a) (.str x) (σ.set a (.dict (dput fs x d)))
 | list {a:Addr} {ds:List D} {i:Int}:σ a=some (.list ds)→0≤i→i < ds.length→ds.length≤sizeLine→ItemR σ d (.ref a) (.int i) (σ.set a (.list (ds.set i.toNat d)))
theorem ItemR.ok {d e i:D} {σ':Sto} (h:ItemR σ d e i σ') (R:Real G X φ Γ σ s) {v w u:Value} (V:VR G φ v d) (W:VR G φ w e) (U:VR G φ u i) {Q:Unit→Shared→Prop} {F:Value→Shared→Prop} (q:∀s',Real G X φ Γ σ' s'→Q () s'):
  wpAny (M G) X.A (setItem w u v) Q F s:=by
 induction h with
 | dict ha hz=>obtain rfl:=W.inv;(refine ex11 U.inv ?_;rintro t rfl);exact setItem_dict R ha hz V q
 | list ha h0 hi hz=>obtain rfl:=W.inv;(refine ex11 U.inv ?_;rintro t rfl);exact setItem_list R ha h0 hi hz V q
theorem WAsg.item {o i:Expr} {p:Pos} {d:D} {Q:Loc→Sto→Prop} (h:WE G k Γ σ o (fun e σ₁=>WE G k Γ σ₁ i (fun j σ₂=>∃σ',ItemR σ₂ d e j σ'∧Q Γ σ') E) E):WAsg G k Γ σ (.Subscript o i p) d Q E:=fun X hX φ s R v V=>by
 rw [arm_assign_Subscript]
 refine wpAny_bind (wpAny_holding (then_ (h X hX φ s R) (fun φ₁ σ₁ e w s₁ l₁ R₁ W q=>?_) fun _ _ x=>x))
 refine wpAny_bind (wpAny_holding (then_ (q X hX φ₁ s₁ R₁) (fun φ₂ σ₂ j u s₂ l₂ R₂ U q₂=>?_) fun _ _ x=>x.le l₁))
 refine ex12 q₂ ?_;clear q₂;intro σ' hI q
 refine wpAny_bind (wpAny_standAt (wpAny_bind (wpAny_holding (hI.ok R₂ ((V.mono l₁).mono l₂) (W.mono l₂) U fun s' R'=>?_))))
 exact wpAny_release ⟨φ₂,_,Γ,l₁.trans l₂,R',q⟩
theorem W1.assign {t value:Expr} {pos:Pos} {Q:Out→Loc→Sto→Prop} (h:WE G k Γ σ value (fun d σ₁=>WAsg G k Γ σ₁ t d (Q .next) E) E) (hs:∀env,swapsWith value (some t) pos.line env=pure false:=by intro _;rfl)
  (hw:∀env,swappedStores [t] value env=pure none:=by intro _;rfl) (he:∀env,(assignEach [t] env).map (·.2)=[assign t env]:=by intro _;rfl):W1 G k Γ σ (.Assign [t] value pos) Q E:=fun X hX φ s R=>by
 refine wpAny_Assign_stores (then_ (h X hX φ s R) (fun φ₁ σ₁ d v s₁ l₁ R₁ V q=>?_) fun _ _ x=>x) (hs _) (hw _)
 rw [he]
 refine thA (q X hX φ₁ s₁ R₁ v V) (fun _ s₂ φ₂ σ₂ Γ₂ l₂ R₂ q₂=>?_) fun _ _ x=>x.le l₁
 exact ⟨φ₂,σ₂,Γ₂,.next,l₁.trans l₂,R₂,.next,q₂⟩
theorem W1.expr {e:Expr} {pos:Pos} {Q:Out→Loc→Sto→Prop} (h:WE G k Γ σ e (fun _ σ₁=>Q .next Γ σ₁) E) (hs:∀env,swapsWith e none pos.line env=pure false:=by intro _;rfl):W1 G k Γ σ (.Expr e pos) Q E:=fun X hX φ s R=>by
 refine wpAny_Expr_any (then_ (h X hX φ s R) (fun φ₁ σ₁ d v s₁ l₁ R₁ V q=>?_) fun _ _ x=>x) (by unfold interactive;(refine rwG hX.scope ?_;refine rwG hX.kind ?_);rfl) (hs _)
 exact ⟨φ₁,σ₁,Γ,.next,l₁,R₁,.next,q⟩
theorem W1.ret {e:Expr} {pos:Pos} {Q:Out→Loc→Sto→Prop} (h:WE G k Γ σ e (fun d σ₁=>Q (.ret d) Γ σ₁) E):W1 G k Γ σ (.Return (some e) pos) Q E:=fun X hX φ s R=>
 wpAny_Return_some (then_ (h X hX φ s R) (fun φ₁ σ₁ d v s₁ l₁ R₁ V q=>⟨φ₁,σ₁,Γ,.ret d,l₁,R₁,.ret V,q⟩) fun _ _ x=>x)
theorem W1.retN {pos:Pos} {Q:Out→Loc→Sto→Prop} (h:Q (.ret .none) Γ σ):W1 G k Γ σ (.Return none pos) Q E:=fun X hX φ s R=>
 wpAny_Return_none ⟨φ,σ,Γ,.ret .none,φ.le_refl,R,.ret .none,h⟩
theorem W1.pass {pos:Pos} {Q:Out→Loc→Sto→Prop} (h:Q .next Γ σ):W1 G k Γ σ (.Pass pos) Q E:=fun X hX φ s R=>
 wpAny_Pass ⟨φ,σ,Γ,.next,φ.le_refl,R,.next,h⟩
theorem W1.ifs {test:Expr} {body orelse:List Stmt} {pos:Pos} {Q:Out→Loc→Sto→Prop} (h:WT G k Γ σ test (fun b σ₁=>if b=true then WS G k Γ σ₁ body Q E else WS G k Γ σ₁ orelse Q E) E):W1 G k Γ σ (.If test body orelse pos) Q E:=fun X hX φ s R=>by
 refine wpAny_If (thB (h X hX φ s R) (fun b s₁ φ₁ σ₁ l₁ R₁ q=>?_) fun _ _ x=>x)
 cases b with
 | true=>exact wpAny_mono (q X hX φ₁ s₁ R₁) (fun _ _ x=>x.le l₁) fun _ _ x=>x.le l₁
 | false=>exact wpAny_mono (q X hX φ₁ s₁ R₁) (fun _ _ x=>x.le l₁) fun _ _ x=>x.le l₁
inductive AugR:Operator→Int→Int→Int→Prop
 | add {a b:Int}:AugR .Add a b (a + b)
 | sub {a b:Int}:AugR .Sub a b (a - b)
theorem AugR.ok {op:Operator} {a b c:Int} (h:AugR op a b c) (R:Real G X φ Γ σ s) {t u:Tok} {Q:Value→Shared→Prop} {F:Value→Shared→Prop} (q:∀t' tk,Real G X φ Γ σ { s with toks:=tk }→Q (.int c t') { s with toks:=tk }):
  wpAny (M G) X.A (inplaceOp op (.int a t) (.int b u)) Q F s:=by
 induction h with
 | add=>exact PySem.wpAny_iadd_int (q _ _ (R.tok _))
 | sub=>exact PyProof.Rows.isub_int (q _ _ (R.tok _))
theorem W1.augName {x:Str} {p pos:Pos} {op:Operator} {value:Expr} {Q:Out→Loc→Sto→Prop} (a:Int) (hk:k.sc.names.lookup x=some .local) (hd:(x==S_ "__debug__")=false) (hm:(x,D.int a)∈Γ)
  (h:WE G k Γ σ value (fun d σ₁=>∃b c Γ',d=.int b∧AugR op a b c∧(∀q∈Γ',q=(x,.int c)∨(q∈Γ∧q.1≠x))∧Q .next Γ' σ₁) E):W1 G k Γ σ (.AugAssign (.Name x p) op value pos) Q E:=fun X hX φ s R=>by
 have hkx:X.env.kindOf x=some .local:=by refine (?_:X.env.scope.names.lookup x=_);refine rwG hX.scope ?_;exact hk
 refine wpAny_AugAssign_Name ?_
 have ld:∀{Z:Value→Shared→Prop},(∀v,VR G φ v (.int a)→Z v s)→wpAny (M G) X.A (loadName X.env x) Z (PostE G X φ E) s:=by
  intro Z z
  obtain ⟨m,hn,hb⟩:=R.ns
  obtain ⟨_,v,hv,hc⟩:=hb _ hm
  have hkf:X.env.scope.kind=.function:=by refine rwG hX.scope ?_;exact hX.kind
  rcases hc with ⟨h1,h2⟩ | ⟨c,hm⟩
  ·exact wpAny_loadName_local hkf h1 hn h2 (z v hv)
  ·obtain ⟨h1 | ⟨h1,h3⟩,hl,o,ho,hd⟩:=hX.cvs _ hm
   ·exact wpAny_loadName_cell hkf h1 hl ⟨o,(R.core.holds _ ho).2.2.2,hd⟩ (z v hv)
   ·exact wpAny_loadName_free hkf h1 hl ⟨o,(R.core.holds _ ho).2.2.2,hd⟩ (z v hv) h3
 refine ld fun v V=>?_
 refine ex11 V.inv ?_;rintro t rfl
 focus
  refine then_ (h X hX φ s R) (fun φ₁ σ₁ d w s₁ l₁ R₁ W q=>?_) fun _ _ x=>x
  refine ex34 q ?_;clear q;rintro b c Γ' rfl hA hΓ q
  refine ex11 W.inv ?_;rintro u rfl
  focus
   refine hA.ok R₁ fun t' tk R₂=>?_
   obtain ⟨m,hn,hb⟩:=R₂.ns
   refine wpAny_storeName_local hkx hn (fun h' hn' hs=>?_) (by (refine rwG hX.scope ?_;refine rwG hX.kind ?_);rfl)
   refine ⟨φ₁,σ₁,Γ',.next,l₁,⟨R₂.core.ext (tk:=tk + 1) (fun b o hb hbo=>(hs.2 b hb).trans hbo) R₂.lf R₂.ls hX.lk hX.lh,R₂.lf,R₂.ls,_,hn',fun q hq=>?_⟩,.next,q⟩
   rcases hΓ q hq with rfl | ⟨hq,hne⟩
   ·exact ⟨hd,_,.int _ _,.inl ⟨hkx,if_pos rfl⟩⟩
   ·obtain ⟨a,w,b,c⟩:=hb q hq
    exact ⟨a,w,b,c.imp (And.imp id (if_neg hne).trans) id⟩
inductive AugO (σ:Sto) (op:Operator) (x:Str) (a:Int) (e d:D) (Q:Sto→Prop):Prop
 | mk (r:Addr) (ci:Nat) (dx:Addr) (fs:List (Str×D)) (b c:Int):d=.int b→AugR op a b c→e=.ref r→(ci,x)∈attrTab→σ r=some (.inst ci dx)→σ dx=some (.dict fs)→fs.length≤1000→Q (σ.set dx (.dict (dput fs x (.int c))))→AugO σ op x a e d Q
theorem W1.augAttr {o value:Expr} {x:Str} {p pos:Pos} {op:Operator} {Q:Out→Loc→Sto→Prop}
  (h:WE G k Γ σ o (fun e σ₁=>∃a,AttrR σ₁ e x (.int a)∧WE G k Γ σ₁ value (fun d σ₂=>AugO σ₂ op x a e d fun σ₃=>Q .next Γ σ₃) E) E):W1 G k Γ σ (.AugAssign (.Attribute o x p) op value pos) Q E:=fun X hX φ s R=>by
 refine wpAny_AugAssign_AttributeAny (then_ (h X hX φ s R) (fun φ₁ σ₁ e w s₁ l₁ R₁ W q=>?_) fun _ _ x=>x)
 refine ex12 q ?_;clear q;intro a hA q
 refine thV (hA.ok R₁ W (Q:=fun d σ'=>d=.int a∧σ'=σ₁) ⟨rfl,rfl⟩ (E:=fun _ _=>False)) (fun v s₂ φ₂ σ₂ d l₂ R₂ V qq=>?_) fun _ _ x=>x.elim
 refine ex02 qq ?_;clear qq;intro e1 e2
 subst e1 e2
 refine ex11 V.inv ?_;rintro t rfl
 focus
  refine then_ (q X hX φ₂ s₂ R₂) (fun φ₃ σ₃ d u s₃ l₃ R₃ U q₃=>?_) fun _ _ x=>x.le (l₁.trans l₂)
  obtain ⟨r,ci,dx,fs,b,c,rfl,hB,rfl,hc,hr,hdx,hz,q₄⟩:=q₃
  refine ex11 U.inv ?_;rintro t' rfl
  focus
   obtain rfl:=W.inv
   refine hB.ok R₃ fun t'' tk R₄=>setAttr_ok R₄ hc hr hdx hz (.int _ _) fun s' R'=>?_
   exact ⟨φ₃,_,Γ,.next,l₁.trans (l₂.trans l₃),R',.next,q₄⟩
theorem WS.nil {Q:Out→Loc→Sto→Prop} (h:Q .next Γ σ):WS G k Γ σ [] Q E:=fun X hX φ s R=>
 wpAny_execs_nil ⟨φ,σ,Γ,.next,φ.le_refl,R,.next,h⟩
noncomputable def Then (G:Glob) (k:Sk) (rest:List Stmt) (Q:Out→Loc→Sto→Prop) (E:Exn→Sto→Prop):Out→Loc→Sto→Prop
 | .next,Γ,σ=>WS G k Γ σ rest Q E
 | o,Γ,σ=>Q o Γ σ
theorem WS.cons {st:Stmt} {rest:List Stmt} {Q:Out→Loc→Sto→Prop} (h:W1 G k Γ σ st (Then G k rest Q E) E):WS G k Γ σ (st::rest) Q E:=fun X hX φ s R=>by
 refine wpAny_execs_cons (thS (h X hX φ s R) (fun f s₁ φ₁ σ₁ Γ₁ o l₁ R₁ O q=>?_) fun _ _ x=>x)
 induction O with
 | next=>exact wpAny_mono (q X hX φ₁ s₁ R₁) (fun _ _ x=>x.le l₁) fun _ _ x=>x.le l₁
 | brk=>exact ⟨φ₁,σ₁,Γ₁,.brk,l₁,R₁,.brk,q⟩
 | cont=>exact ⟨φ₁,σ₁,Γ₁,.cont,l₁,R₁,.cont,q⟩
 | ret V=>exact ⟨φ₁,σ₁,Γ₁,.ret _,l₁,R₁,.ret V,q⟩
theorem WS.conseq {st:List Stmt} {Q Q':Out→Loc→Sto→Prop} {E':Exn→Sto→Prop} (h:WS G k Γ σ st Q E) (hq:∀o Γ σ,Q o Γ σ→Q' o Γ σ) (he:∀x σ,E x σ→E' x σ):WS G k Γ σ st Q' E':=
 fun X hX φ s R=>thS (h X hX φ s R) (fun _ _ φ' σ' Γ' o a b c q=>⟨φ',σ',Γ',o,a,b,c,hq _ _ _ q⟩) fun _ _ h=>h.map he
end
end Mine
end
section
open PySem PySem.W PySem.Calls PyProof.Rows
namespace Mine
variable {G:Glob}
inductive IterD:D→List D→Prop
 | tup {ds:List D}:IterD (.tup ds) ds
 | lst {ds:List D}:IterD (.lst ds) ds
 | rng {i:Int}:0≤i→i≤2 ^ 40→IterD (.rng i) ((List.range i.toNat).map fun (j:Nat)=>.int j)
inductive ItAt (G:Glob) (φ:Fz) (it:Addr) (h:Heap):List D→Prop
 | lst {l:Addr} {o:Obj} {vs:List Value} {n i:Nat} {ds:List D}:φ l=some o→o.cls=.type "list"→o.data=.seq vs.toArray n→h.IsListIter it l i→VRs G φ (vs.drop i) ds→ItAt G φ it h ds
 | tup {l:Addr} {o:Obj} {vs:List Value} {n i:Nat} {ds:List D}:φ l=some o→o.cls=.type "tuple"→o.data=.seq vs.toArray n→h.IsTupleIter it l i→VRs G φ (vs.drop i) ds→ItAt G φ it h ds
 | rng {x:Int} {n:Nat} {ds:List D}:IsRangeIter h it x n 1→ds=((List.range n).map fun (j:Nat)=>.int (x + j))→ItAt G φ it h ds
theorem ItAt.mono {φ φ':Fz} {it:Addr} {h h':Heap} {ds:List D} (k:φ.le φ') (e:h'.get? it=h.get? it):ItAt G φ it h ds→ItAt G φ' it h' ds
 | .lst a b c ⟨o,p,q⟩ d=>.lst (k _ _ a) b c ⟨o,e.trans p,q⟩ (d.mono k)
 | .tup a b c ⟨o,p,q⟩ d=>.tup (k _ _ a) b c ⟨o,e.trans p,q⟩ (d.mono k)
 | .rng a b=>.rng (show h'.get? it=_ from e.trans a) b
structure Loose (X:Cx) (φ:Fz) (σ:Sto) (a:Addr):Prop where
 f:φ a=none
 s:σ a=none
 k:X.kept.free a
 h:X.held.free a
 l:a≠X.env.locals
section
variable {k:Sk} {Γ:Loc} {σ:Sto} {E:Exn→Sto→Prop} {X:Cx} {φ φ':Fz} {s:Shared}
theorem small_range {i:Int} (h:i≤2 ^ 40) (h0:0≤i):Builtin.Range.small 0 i 1=true:=by
 have e:Builtin.Range.rangeSize 0 i 1=i:=by rw [rangeSize_one];split<;>lia
 unfold Builtin.Range.small
 refine rwG e ?_
 unfold Builtin.Range.rangeFitsLong
 simp
 lia
theorem iter_make (hX:CxOk k X) (R:Real G X φ Γ σ s) {d:D} {ds:List D} (h:IterD d ds) {v:Value} (V:VR G φ v d) {Z:Value→Shared→Prop} {F:Value→Shared→Prop}
  (hz:∀it s',Real G X φ Γ σ s'→Loose X φ σ it→ItAt G φ it s'.heap ds→Z (.ref it) s'):wpAny (M G) X.A (pyIter v) Z F s:=by
 refine ex05 R.size ?_;intro z1 z2 z3 z4 z5
 have keep:∀o b ob,s.heap.get? b=some ob→(s.heap.push o).get? b=some ob:=fun o b ob e=>Heap.get?_push_of_some _ e
 induction h with
 | tup=>
  obtain ⟨ta,to,tv,tn,rfl,h1,h2,h3,h4⟩:=V.inv
  focus
   refine wpAny_pyIter_tuple (t:=_) ⟨_,R.core.frz _ _ h1,h2,_,h3⟩ (hz _ _ (R.keeps (tk:=s.toks) (keep _)) ⟨z1,z2,z3,z4,z5⟩ (.tup h1 h2 h3 (i:=0) ⟨_,Heap.get?_push_size _ rfl,rfl,rfl⟩ h4))
 | lst=>
  obtain ⟨ta,to,tv,tn,rfl,h1,h2,h3,h4⟩:=V.inv
  focus
   refine wpAny_pyIter_list (l:=_) ⟨_,R.core.frz _ _ h1,h2,_,h3⟩ (hz _ _ (R.keeps (tk:=s.toks) (keep _)) ⟨z1,z2,z3,z4,z5⟩ (.lst h1 h2 h3 (i:=0) ⟨_,Heap.get?_push_size _ rfl,rfl,rfl⟩ h4))
 | @rng i h0 hi=>
  refine ex42 V.inv ?_;rintro ra t u w rfl h1
  focus
   refine wpAny_pyIter_range (r:=_) (R.core.frz _ _ h1) (small_range hi h0) (hz _ _ (R.keeps (tk:=s.toks) (keep _)) ⟨z1,z2,z3,z4,z5⟩ ?_)
   have e:Builtin.Range.rangeSize 0 i 1=(i.toNat:Int):=by rw [rangeSize_one];split<;>lia
   refine rwG e ?_
   have:=ItAt.rng (G:=G) (φ:=φ) (it:=s.heap.objs.size) (h:=s.heap.push { cls:=.type "range_iterator",data:=.fields #[rawInt 0,rawInt i.toNat,rawInt 1] }) (x:=0) (n:=i.toNat) (Heap.get?_push_size _ rfl) rfl
   simpa using this
theorem iter_item (hX:CxOk k X) (R:Real G X φ Γ σ s) {it:Addr} {d:D} {ds:List D} (L:Loose X φ σ it) (h:ItAt G φ it s.heap (d::ds)) {Z:Option Value→Shared→Prop} {F:Value→Shared→Prop}
  (hz:∀v s',Real G X φ Γ σ s'→VR G φ v d→ItAt G φ it s'.heap ds→Z (some v) s'):wpAny (M G) X.A (pyNext (.ref it)) Z F s:=by
 have ext:∀{h':Heap},Heap.SameBut it s.heap h'→Heap.ExtBut it s.heap h':=fun hs b o hb hbo=>(hs.2 b hb).trans hbo
 cases h with
 | @lst l o vs n i _ h1 h2 h3 h4 h5=>
  generalize e:vs.drop i=ws at h5
  cases h5 with
  | @cons v _ us _ p q=>
   have hx:vs.toArray[i]?=some v:=by
    have:=congrArg (·[0]?) e
    simpa using this
   have hd:vs.drop (i + 1)=us:=by
    have:=congrArg List.tail e
    simpa using this
   refine wpAny_pyNext_list_item h4 (show s.heap.IsList l vs.toArray from ⟨o,R.core.frz _ _ h1,h2,n,h3⟩) hx fun h' hi hs=>?_
   exact hz v _ (R.ext (tk:=s.toks) (ext hs) L.f L.s L.k L.h L.l) p (.lst h1 h2 h3 hi (by refine rwG hd ?_;exact q))
 | @tup l o vs n i _ h1 h2 h3 h4 h5=>
  generalize e:vs.drop i=ws at h5
  cases h5 with
  | @cons v _ us _ p q=>
   have hx:vs.toArray[i]?=some v:=by
    have:=congrArg (·[0]?) e
    simpa using this
   have hd:vs.drop (i + 1)=us:=by
    have:=congrArg List.tail e
    simpa using this
   refine wpAny_pyNext_tuple_item h4 (show s.heap.IsTuple l vs.toArray from ⟨o,R.core.frz _ _ h1,h2,n,h3⟩) hx fun h' hi hs=>?_
   exact hz v _ (R.ext (tk:=s.toks) (ext hs) L.f L.s L.k L.h L.l) p (.tup h1 h2 h3 hi (by refine rwG hd ?_;exact q))
 | @rng x n _ h4 e=>
  cases n with
  | zero=>cases e
  | succ n=>
   rw [List.range_succ_eq_map,List.map_cons,List.map_map] at e
   cases e
   refine wpAny_pyNext_range_item h4 (by lia) fun h' hi hs=>?_
   have z:((n + 1:Nat):Int) - 1=n:=by lia
   rw [z] at hi
   refine hz _ _ (R.ext (tk:=s.toks + 1) (ext hs) L.f L.s L.k L.h L.l) (by simpa using VR.int x s.toks) (.rng (x:=x + 1) (n:=n) hi ?_)
   apply List.map_congr_left
   intro j _
   refine (?_:D.int (x + ((j + 1:Nat):Int))=D.int (x + 1 + j))
   congr 1;lia
theorem iter_end (hX:CxOk k X) (R:Real G X φ Γ σ s) {it:Addr} (L:Loose X φ σ it) (h:ItAt G φ it s.heap []) {Z:Option Value→Shared→Prop} {F:Value→Shared→Prop}
  (hz:∀s',Real G X φ Γ σ s'→Z none s'):wpAny (M G) X.A (pyNext (.ref it)) Z F s:=by
 cases h with
 | @lst l o vs n i _ h1 h2 h3 h4 h5=>
  generalize e:vs.drop i=ws at h5
  cases h5
  have hx:vs.toArray[i]?=none:=by
   rw [List.drop_eq_nil_iff] at e
   simpa using e
  exact wpAny_pyNext_list_end hX.handled h4 (show s.heap.IsList l vs.toArray from ⟨o,R.core.frz _ _ h1,h2,n,h3⟩) hx fun h' he=>hz _ (R.ext (tk:=s.toks) he L.f L.s L.k L.h L.l)
 | @tup l o vs n i _ h1 h2 h3 h4 h5=>
  generalize e:vs.drop i=ws at h5
  cases h5
  have hx:vs.toArray[i]?=none:=by
   rw [List.drop_eq_nil_iff] at e
   simpa using e
  exact wpAny_pyNext_tuple_end hX.handled h4 (show s.heap.IsTuple l vs.toArray from ⟨o,R.core.frz _ _ h1,h2,n,h3⟩) hx fun h' he=>hz _ (R.ext (tk:=s.toks) he L.f L.s L.k L.h L.l)
 | @rng x n _ h4 e=>
  cases n with
  | succ n=>rw [List.range_succ_eq_map] at e;cases e
  | zero=>exact wpAny_pyNext_range_end hX.handled h4 (by lia) fun h' he=>hz _ (R.ext (tk:=s.toks) he L.f L.s L.k L.h L.l)
theorem ItAt.obj {it:Addr} {h:Heap} {ds:List D} (x:ItAt G φ it h ds):∃o,h.get? it=some o∧∃T vs,o.cls=.type T∧o.data=.fields vs∧(T="list_iterator"∨T="tuple_iterator"∨T="range_iterator"):=by
 cases x with
 | lst _ _ _ h4 _=>(refine ex13 h4 ?_;clear h4;intro o p q r);exact ⟨o,p,_,_,q,r,.inl rfl⟩
 | tup _ _ _ h4 _=>(refine ex13 h4 ?_;clear h4;intro o p q r);exact ⟨o,p,_,_,q,r,.inr (.inl rfl)⟩
 | rng h4 _=>exact ⟨_,h4,_,_,rfl,rfl,.inr (.inr rfl)⟩
theorem letGo_ok {A:Around} {it:Addr} {ds:List D} (x:ItAt G φ it s.heap ds) (target:Expr) (v:Value) {Z:Unit→Shared→Prop} {F:Value→Shared→Prop} (h:Z () s):wpAny (M G) A (letOwnedTupleGo target (.ref it) v) Z F s:=by
 obtain ⟨o,ho,T,vs,hc,hd,hT⟩:=x.obj
 have body:wpAny (M G) A (do
   let (.ref r,.ref a):=((Value.ref it,v):Value×Value) | return
   let o←load r
   match o.cls,o.data with
   | .type n,.fields vs=>
    if ["enumerate","zip","dict_itemiterator","dict_reverseitemiterator","odict_iterator","itertools.zip_longest","itertools.pairwise"].contains n&&vs[0]?==some (rawInt a) then
     rule "for.unpacks-the-owned-tuple"
     updateField r 0 .none
   | _,_=>pure ()) Z F s:=by
  cases v with
  | ref a=>
   refine wpAny_bind (wpAny_load ho ?_)
   refine rwG hc ?_;refine rwG hd ?_
   dsimp only
   have:["enumerate","zip","dict_itemiterator","dict_reverseitemiterator","odict_iterator","itertools.zip_longest","itertools.pairwise"].contains T=false:=by
    rcases hT with rfl | rfl | rfl<;>decide
   refine rwG this ?_;rewrite [Bool.false_and];refine rwG (if_neg Bool.false_ne_true) ?_
   exact wpAny_pure h
  | _=>exact wpAny_pure h
 cases target<;>first | exact body | exact wpAny_pure h
theorem Loose.mono {σ':Sto} {a:Addr} (L:Loose X φ σ a) (hf:φ' a=none) (hs:σ' a=none):Loose X φ' σ' a:=⟨hf,hs,L.k,L.h,L.l⟩
inductive ForX (G:Glob) (X:Cx) (φ:Fz) (it:Addr) (I:List D→Loc→Sto→Prop) (n:Nat) (s:Shared):Prop
 | mk (φ':Fz) (Γ':Loc) (σ':Sto) (ds:List D):n=ds.length→φ.le φ'→Real G X φ' Γ' σ' s→Loose X φ' σ' it→ItAt G φ' it s.heap ds→I ds Γ' σ'→ForX G X φ it I n s
theorem W1.for {target iter:Expr} {body:List Stmt} {pos:Pos} {Q:Out→Loc→Sto→Prop} (ht:k.top=true) (I:List D→Loc→Sto→Prop)
  (h:WE G k Γ σ iter (fun d σ₁=>∃ds,IterD d ds∧I ds Γ σ₁) E)
  (hstep:∀d ds Γ₀ σ₀,I (d::ds) Γ₀ σ₀→WAsg G k Γ₀ σ₀ target d (fun Γ₁ σ₁=>WS G k Γ₁ σ₁ body (fun o Γ₂ σ₂=>match o with
   | .next | .cont=>∃Γ₃,(∀p∈Γ₃,p∈Γ₂)∧I ds Γ₃ σ₂
   | .brk=>Q .next Γ₂ σ₂
   | .ret v=>Q (.ret v) Γ₂ σ₂) E) E)
  (hend:∀Γ₀ σ₀,I [] Γ₀ σ₀→Q .next Γ₀ σ₀)
  (hs:∀env x,foldedSetIterable iter env x=pure x:=by intro _ _;rfl):W1 G k Γ σ (.For target iter body [] pos) Q E:=fun X hX φ s R=>by
 refine wpAny_For (then_ (h X hX φ s R) (fun φ₁ σ₁ d v s₁ l₁ R₁ V q=>?_) fun _ _ x=>x) (hs _)
 refine ex12 q ?_;clear q;intro ds hI q
 refine iter_make hX R₁ hI V fun it s₂ R₂ L₂ I₂=>?_
 refine codeAny_forLoop_any (ForX G X φ it I) (fun n s₃ hn=>?_) ds.length ⟨φ₁,Γ,σ₁,ds,rfl,l₁,R₂,L₂,I₂,q⟩
 obtain ⟨φ₃,Γ₃,σ₃,ds,rfl,l₃,R₃,L₃,I₃,q₃⟩:=hn
 cases ds with
 | nil=>
  refine iter_end hX R₃ L₃ I₃ fun s₄ R₄=>?_
  dsimp only
  exact wpAny_execs_nil ⟨φ₃,σ₃,Γ₃,.next,l₃,R₄,.next,hend _ _ q₃⟩
 | cons d ds=>
  refine iter_item hX R₃ L₃ I₃ fun v s₄ R₄ V₄ I₄=>?_
  dsimp only
  refine letGo_ok I₄ target v ?_
  refine ex12 I₄.obj ?_;intro o ho _
  have hXh:=hX.hold (a:=it) (o:=o) L₃.l
  have Rh:=R₄.hold L₃.f L₃.s L₃.k ho
  have exc:∀{φ₅:Fz},φ.le φ₅→∀e s',PostE G (X.hold it o) φ₅ E e s'→notedBy (M G) X.A X.env (cameBackBy (M G) X.A X.env (PostE G X φ E)) e s':=fun l e s' z=>noted_ok hX ht (z.unhold.le l)
  refine thA (hstep d ds Γ₃ σ₃ q₃ (X.hold it o) hXh φ₃ _ Rh v V₄) (fun _ s₅ φ₅ σ₅ Γ₅ l₅ R₅ q₅=>?_) (exc l₃)
  refine thS (q₅ (X.hold it o) hXh φ₅ _ R₅) (fun f s₆ φ₆ σ₆ Γ₆ out l₆ R₆ O q₆=>?_) (exc (l₃.trans l₅))
  have again:(∃Γ₃,(∀p∈Γ₃,p∈Γ₆)∧I ds Γ₃ σ₆)→∃m,m < (d::ds).length∧ForX G X φ it I m s₆:=by
   rintro ⟨Γ₇,hΓ,q₇⟩
   refine ex04 R₆.heldAt ?_;intro z1 z2 z3 z4
   exact ⟨ds.length,Nat.lt_succ_self _,φ₆,Γ₇,σ₆,ds,rfl,l₃.trans (l₅.trans l₆),R₆.unhold.weaken hΓ,L₃.mono z1 z2,I₄.mono (l₅.trans l₆) (z4.trans ho.symm),q₇⟩
  induction O with
  | next=>exact again q₆
  | cont=>exact again q₆
  | brk=>exact ⟨φ₆,σ₆,Γ₆,.next,l₃.trans (l₅.trans l₆),R₆.unhold,.next,q₆⟩
  | ret V=>exact ⟨φ₆,σ₆,Γ₆,.ret _,l₃.trans (l₅.trans l₆),R₆.unhold,.ret V,q₆⟩
inductive WhlX (G:Glob) (X:Cx) (φ:Fz) (I:Nat→Loc→Sto→Prop) (n:Nat) (s:Shared):Prop
 | mk (φ':Fz) (Γ':Loc) (σ':Sto):φ.le φ'→Real G X φ' Γ' σ' s→I n Γ' σ'→WhlX G X φ I n s
theorem W1.while {test:Expr} {body:List Stmt} {pos:Pos} {Q:Out→Loc→Sto→Prop} (ht:k.top=true) (I:Nat→Loc→Sto→Prop) (n:Nat) (h:I n Γ σ)
  (hstep:∀n Γ₀ σ₀,I n Γ₀ σ₀→WT G k Γ₀ σ₀ test (fun b σ₁=>if b=true then WS G k Γ₀ σ₁ body (fun o Γ₂ σ₂=>match o with
   | .next | .cont=>∃m Γ₃,m < n∧(∀p∈Γ₃,p∈Γ₂)∧I m Γ₃ σ₂
   | .brk=>Q .next Γ₂ σ₂
   | .ret v=>Q (.ret v) Γ₂ σ₂) E else Q .next Γ₀ σ₁) E):W1 G k Γ σ (.While test body [] pos) Q E:=fun X hX φ s R=>by
 refine wpAny_While (codeAny_whileLoop (WhlX G X φ I) (fun n s₃ hn=>?_) n ⟨φ,Γ,σ,φ.le_refl,R,h⟩)
 obtain ⟨φ₃,Γ₃,σ₃,l₃,R₃,q₃⟩:=hn
 have exc:∀{φ₅:Fz},φ.le φ₅→∀e s',PostE G X φ₅ E e s'→notedBy (M G) X.A X.env (cameBackBy (M G) X.A X.env (PostE G X φ E)) e s':=fun l e s' z=>noted_ok hX ht (z.le l)
 refine thB (hstep n Γ₃ σ₃ q₃ X hX φ₃ s₃ R₃) (fun b s₅ φ₅ σ₅ l₅ R₅ q₅=>?_) (exc l₃)
 cases b with
 | false=>
  exact wpAny_execs_nil ⟨φ₅,σ₅,Γ₃,.next,l₃.trans l₅,R₅,.next,q₅⟩
 | true=>
  refine thS (q₅ X hX φ₅ _ R₅) (fun f s₆ φ₆ σ₆ Γ₆ out l₆ R₆ O q₆=>?_) (exc (l₃.trans l₅))
  have again:(∃m Γ₃,m < n∧(∀p∈Γ₃,p∈Γ₆)∧I m Γ₃ σ₆)→∃m,m < n∧WhlX G X φ I m s₆:=by
   rintro ⟨m,Γ₇,hm,hΓ,q₇⟩
   exact ⟨m,hm,φ₆,Γ₇,σ₆,l₃.trans (l₅.trans l₆),R₆.weaken hΓ,q₇⟩
  induction O with
  | next=>exact again q₆
  | cont=>exact again q₆
  | brk=>exact ⟨φ₆,σ₆,Γ₆,.next,l₃.trans (l₅.trans l₆),R₆,.next,q₆⟩
  | ret V=>exact ⟨φ₆,σ₆,Γ₆,.ret _,l₃.trans (l₅.trans l₆),R₆,.ret V,q₆⟩
end
end Mine
end
section
open PySem PySem.W PySem.Calls PyProof.Rows
namespace Mine
set_option backward.match.sparseCases false
variable {G:Glob}
noncomputable def relabelN (names outer:List (Str×NameKind)):List (Str×NameKind):=names.map fun (n,k)=>if (k==.free&&outer.lookup n==some .cell) then (n,.cell) else (n,k)
noncomputable def compSc (scope:Scope) (sc:Scope):Scope:={ scope with names:=relabelN scope.names sc.names }
noncomputable abbrev compSk (k:Sk) (scope:Scope):Sk:={ sc:=compSc scope k.sc,cells:=[],n:=k.n,top:=false }
noncomputable def clOf (cells:List (Str×Addr)):List (Str×NameKind)→List (Str×Addr)→List (Str×Addr)
 | [],acc=>acc
 | (n,kd)::r,acc=>clOf cells r (if kd==.free then (n,(cells.lookup n).getD 0)::acc else acc)
theorem closure_go {env:Env}:∀(names:List (Str×NameKind)) (acc:List (Str×Addr)),(∀q∈names,q.2=.free→∃c,env.cells.lookup q.1=some c)→
  (forIn names acc fun (x:Str×NameKind) cs=>(do
   let (name,kind):=x
   if kind==.free then do
    let c←cellOf env name
    pure (ForInStep.yield ((name,c)::cs))
   else pure (ForInStep.yield cs):Sem (ForInStep (List (Str×Addr)))))=pure (clOf env.cells names acc)
 | [],acc,_=>rfl
 | (n,kd)::r,acc,h=>by
  rw [List.forIn_cons]
  dsimp only
  have e:clOf env.cells ((n,kd)::r) acc=clOf env.cells r (if (kd==NameKind.free)=true then (n,(List.lookup n env.cells).getD 0)::acc else acc):=rfl
  refine rwG e ?_
  cases q:kd==NameKind.free with
  | false=>
   refine rwG (if_neg Bool.false_ne_true) ?_;rewrite [pure_bind];refine rwG (if_neg Bool.false_ne_true) ?_
   exact closure_go r acc fun p hp=>h p (.tail _ hp)
  | true=>
   refine ex11 (h (n,kd) (.head _) (beq_iff_eq.mp q)) ?_;intro c hc
   dsimp only at hc
   have hcell:cellOf env n=pure c:=by unfold cellOf;(refine rwG hc ?_;rfl)
   refine rwG (if_pos rfl) ?_;refine rwG (if_pos rfl) ?_;refine rwG hcell ?_;refine rwG hc ?_
   simp only [pure_bind]
   exact closure_go r _ fun p hp=>h p (.tail _ hp)
theorem closure_eq {scope:Scope} {env:Env} (h:∀q∈scope.names,q.2=.free→∃c,env.cells.lookup q.1=some c):closureFor scope env=pure (clOf env.cells scope.names []):=by
 have:=closure_go (env:=env) scope.names [] h
 unfold closureFor
 refine Eq.trans (congrArg (· >>= fun cs=>pure cs) ?_) (bind_pure _)
 exact this
theorem clOf_mem {cells:List (Str×Addr)}:∀(names:List (Str×NameKind)) (acc:List (Str×Addr)) (p:Str×Addr),p∈clOf cells names acc→p∈acc∨p.2=(cells.lookup p.1).getD 0
 | [],acc,p,h=>.inl h
 | (n,kd)::r,acc,p,h=>by
  rcases clOf_mem r _ p h with m | e
  ·cases q:kd==NameKind.free with
   | false=>rw [q] at m;exact .inl m
   | true=>
    rw [q,if_pos rfl] at m
    rcases List.mem_cons.mp m with rfl | m
    ·exact .inr rfl
    ·exact .inl m
  ·exact .inr e
theorem clOf_keep {cells:List (Str×Addr)}:∀(names:List (Str×NameKind)) (acc:List (Str×Addr)) (p:Str×Addr),p∈acc→p∈clOf cells names acc
 | [],acc,p,h=>h
 | (n,kd)::r,acc,p,h=>by
  refine clOf_keep r _ p ?_
  split
  ·exact .tail _ h
  ·exact h
theorem clOf_has {cells:List (Str×Addr)}:∀(names:List (Str×NameKind)) (acc:List (Str×Addr)) (n:Str),(n,NameKind.free)∈names→(n,(cells.lookup n).getD 0)∈clOf cells names acc
 | (m,kd)::r,acc,n,h=>by
  rcases List.mem_cons.mp h with e | h
  ·cases e
   exact clOf_keep r _ _ (.head _)
  ·exact clOf_has r _ n h
theorem lookup_of_mem_same {l:List (Str×Addr)} {n:Str} {c:Addr} (h:(n,c)∈l) (u:∀p∈l,p.1=n→p.2=c):l.lookup n=some c:=by
 induction l with
 | nil=>cases h
 | cons p l ih=>
  obtain ⟨m,d⟩:=p
  refine rwG List.lookup_cons ?_
  cases q:n==m with
  | true=>have:=u (m,d) (.head _) (beq_iff_eq.mp q).symm;dsimp only at this;(refine rwG this ?_;rfl)
  | false=>
   rcases List.mem_cons.mp h with e | h
   ·cases e;simp at q
   ·exact ih h fun p hp=>u p (.tail _ hp)
theorem clOf_lookup {cells:List (Str×Addr)} {names:List (Str×NameKind)} {n:Str} {c:Addr} (h:(n,NameKind.free)∈names) (hc:cells.lookup n=some c):(clOf cells names []).lookup n=some c:=by
 have:=clOf_has (cells:=cells) names [] n h
 rw [hc] at this
 refine lookup_of_mem_same this fun p hp e=>?_
 rcases clOf_mem names [] p hp with m | e'
 ·cases m
 ·(refine rwG e' ?_;refine rwG e ?_;refine rwG hc ?_);rfl
theorem relabel_eq {scope:Scope} {env:Env} {sc:Scope} (h:env.scope=sc) (hk:sc.kind=.function):relabel scope env=compSc scope sc:=by
 subst h
 unfold relabel compSc relabelN
 congr 1
 apply List.map_congr_left
 rintro ⟨n,kd⟩ _
 refine rwG hk ?_
 refine (?_:(if (kd==NameKind.free&&true&&env.scope.names.lookup n==some NameKind.cell)=true then _ else _)=_)
 rw [Bool.and_true]
theorem lookup_relabelN:∀{names outer:List (Str×NameKind)} {x:Str},(relabelN names outer).lookup x=(names.lookup x).map fun kd=>if (kd==.free&&outer.lookup x==some .cell) then .cell else kd
 | [],_,_=>rfl
 | (n,kd)::r,outer,x=>by
  unfold relabelN
  refine rwG List.map_cons ?_
  dsimp only
  cases q:x==n with
  | true=>
   have:=beq_iff_eq.mp q
   subst this
   simp only [List.lookup_cons,beq_self_eq_true,Option.map_some]
   split<;>simp
  | false=>
   have ih:=lookup_relabelN (names:=r) (outer:=outer) (x:=x)
   unfold relabelN at ih
   have:List.lookup x ((if (kd==NameKind.free&&List.lookup n outer==some NameKind.cell)=true then (n,NameKind.cell) else (n,kd))::List.map (fun (p:Str×NameKind)=>if (p.2==NameKind.free&&List.lookup p.1 outer==some NameKind.cell)=true then (p.1,NameKind.cell) else (p.1,p.2)) r)
     =List.lookup x (List.map (fun (p:Str×NameKind)=>if (p.2==NameKind.free&&List.lookup p.1 outer==some NameKind.cell)=true then (p.1,NameKind.cell) else (p.1,p.2)) r):=by
    split<;>((refine rwG List.lookup_cons ?_;refine rwG q ?_;rfl))
   refine Eq.trans this (Eq.trans ih ?_)
   refine rwG List.lookup_cons ?_;refine rwG q ?_;rfl
section
variable {k:Sk} {Γ:Loc} {σ:Sto} {E:Exn→Sto→Prop} {X:Cx} {φ φ':Fz} {s:Shared}
theorem iter_self {it:Addr} {ds:List D} {A:Around} (h:ItAt G φ it s.heap ds) {Z:Value→Shared→Prop} {F:Value→Shared→Prop} (hz:Z (.ref it) s):wpAny (M G) A (pyIter (.ref it)) Z F s:=by
 induction h with
 | lst _ _ _ h4 _=>exact wpAny_pyIter_listiter h4 hz
 | tup _ _ _ h4 _=>exact wpAny_pyIter_tupleiter h4 hz
 | rng h4 _=>exact wpAny_pyIter_rangeiter h4 hz
structure CompCk (k:Sk) (scope:Scope) (x:Str) (Γ Γc:Loc):Prop where
 kind:scope.kind=.function
 uniq:∀q∈scope.names,scope.names.lookup q.1=some q.2
 nocell:∀q∈scope.names,q.2≠.cell
 loc:scope.names.lookup x=some .local
 nd:(x==S_ "__debug__")=false
 free:∀q∈scope.names,q.2=.free→q.1∈Γc.map (·.1)
 sub:∀q∈Γc,q∈Γ∧scope.names.lookup q.1=some .free∧k.sc.names.lookup q.1≠some .local
theorem mem_of_lookup' {l:List (Str×NameKind)} {x:Str} {kd:NameKind} (h:l.lookup x=some kd):(x,kd)∈l:=by
 induction l with
 | nil=>cases h
 | cons p l ih=>
  obtain ⟨y,e⟩:=p
  rw [List.lookup_cons] at h
  cases q:x==y with
  | true=>rw [q] at h;cases h;refine rwG (beq_iff_eq.mp q) ?_;exact .head _
  | false=>rw [q] at h;exact .tail _ (ih h)
inductive CompI (G:Glob) (X:Cx) (φ:Fz) (Γc:Loc) (Da it:Addr) (I:List D→List D→Sto→Prop) (l n:Nat) (s:Shared):Prop
 | mk (φ':Fz) (σ':Sto) (ds' acc:List D) (vs:List Value) (m:Nat):n=ds'.length→acc.length + ds'.length=l→φ.le φ'→Real G X φ' Γc σ' s→Loose X φ' σ' Da→Loose X φ' σ' it→ItAt G φ' it s.heap ds'→
   s.heap.get? Da=some { cls:=.type "list",data:=.seq vs.toArray m }→VRs G φ' vs acc→I ds' acc σ'→CompI G X φ Γc Da it I l n s
theorem comp_run {elt iter:Expr} {x:Str} {px:Pos} {scope:Scope} {pos:Pos} {Γc:Loc} (hX:CxOk k X) (R:Real G X φ Γ σ s) (ck:CompCk k scope x Γ Γc) (I:List D→List D→Sto→Prop)
  (hstep:∀d ds acc σ₀,I (d::ds) acc σ₀→WE G (compSk k scope) ((x,d)::Γc) σ₀ elt (fun e σ₁=>I ds (acc++[e]) σ₁) (fun _ _=>False))
  {d:D} {ds:List D} (hI:IterD d ds) (q:I ds [] σ) (hz:ds.length≤sizeLine) {v:Value} (V:VR G φ v d) {RR:Value→Addr→Result→Shared→Prop} {F:Value→Shared→Prop}
  (hRR:∀D C φ' σ' s' acc vs n,φ.le φ'→Real G X φ' Γ σ' s'→Loose X φ' σ' D→Loose X φ' σ' C→D≠C→s'.heap.get? D=some { cls:=.type "list",data:=.seq (vs:List Value).toArray n }→VRs G φ' vs acc→(∃m,s'.heap.Ns C m)→I [] acc σ'→RR (.ref D) C (.ok .next) s'):
  wpAny (M G) X.A (pyIter v) (fun it s₂=>wpAny (M G) X.A (newList []) (fun acc s₃=>wpAny (M G) X.A (newFunctionEnv scope X.env.globals (clOf X.env.cells scope.names []) [] X.env.qual none .none (some X.env)) (fun cenv s₄=>
   codeAny (M G) X.A (.compStart (.ListComp elt [⟨.Name x px,iter,[],0⟩] scope pos) 0 it acc { cenv with scope:=relabel scope X.env }) (RR acc cenv.locals) s₄) F s₃) F s₂) F s:=by
 refine iter_make hX R hI V fun it s₂ R₂ L₂ I₂=>?_
 refine wpAny_newObj_type (wpAny_newFunctionEnv ck.nocell (by intro y hy;simp at hy) (fun h₁ hns hsb=>?_) ck.kind) (by refine (?_:([]:List Value).toArray.size≤sizeLine);simp)
 dsimp only at hns hsb ⊢
 generalize hD:s₂.heap.objs.size=Da at hns hsb ⊢
 generalize hH:s₂.heap.push { cls:=.type "list",dict:=none,data:=.seq ([]:List Value).toArray }=H at hns hsb ⊢
 generalize hC:H.objs.size=C at hns hsb ⊢
 have hCD:C=Da + 1:=by (refine rwL hC ?_;refine rwL hH ?_;rewrite [Heap.size_push];refine rwG hD ?_;rfl)
 have hDC:Da≠C:=by refine rwG hCD ?_;exact Nat.ne_of_lt (Nat.lt_succ_self _)
 have old:∀b o,s₂.heap.get? b=some o→h₁.get? b=some o:=fun b o e=>by
  have lt:=Heap.lt_size e
  have lt':b < C:=by (refine rwG hCD ?_;refine rwL hD ?_);exact Nat.lt_succ_of_lt lt
  exact (hsb.2 b (Nat.ne_of_lt lt')).trans (Heap.get?_push_of_some _ (by refine rwL hH ?_;exact Heap.get?_push_of_some _ e))
 have hDo:h₁.get? Da=some { cls:=.type "list",data:=.seq ([]:List Value).toArray }:=by
  refine (hsb.2 Da hDC).trans (Heap.get?_push_of_some _ ?_)
  (refine rwL hH ?_;refine rwL hD ?_);exact Heap.get?_push_size _ rfl
 have R₄:Real G X φ Γ σ { s₂ with heap:=h₁,toks:=s₂.toks + ([]:List (Str×Value)).length }:=R₂.keeps old
 have fresh:∀a,Da≤a→Loose X φ σ a∧a≠it:=fun a ha=>by
  have no:∀o,s₂.heap.get? a≠some o:=fun o e=>Nat.not_lt.mpr (by refine rwG hD ?_;exact ha) (Heap.lt_size e)
  obtain ⟨m,hn,_⟩:=R₂.ns
  refine ex04 (R₂.core.above no) ?_;intro z1 z2 z3 z4
  refine ⟨⟨z1,z2,z3,z4,fun q=>?_⟩,fun q=>?_⟩
  ·(refine ex32 hn ?_;clear hn;intro o _ _ e _);rw [←q] at e;exact no _ e
  ·(refine ex12 I₂.obj ?_;intro o e _);rw [←q] at e;exact no _ e
 refine ex02 (fresh Da (Nat.le_refl _)) ?_;intro LD hDit
 refine ex02 (fresh C (by refine rwG hCD ?_;exact Nat.le_succ _)) ?_;intro LC hCit
 have I₄:ItAt G φ it h₁ ds:=by
  refine ex12 I₂.obj ?_;intro o e _
  exact I₂.mono φ.le_refl ((old _ _ e).trans e.symm)
 refine ex14 (R₄.wait hX) ?_;intro oL hoL Cw Aw back
 let cl:=clOf X.env.cells scope.names []
 let cv':=X.cv.filter fun p=>scope.names.lookup p.1==some .free
 let X':Cx:={ A:=X.A,env:=compEnvC scope cl C X.env,kept:=(X.env.locals,oL)::X.kept,held:=X.held,cv:=cv' }
 have hsc:X'.env.scope=compSc scope k.sc:=relabel_eq hX.scope hX.kind
 have hX':CxOk (compSk k scope) X':=by
  refine ⟨hsc,ck.kind,hX.globals,hX.builtins,fun p hp=>(nomatch hp),fun p hp=>?_,hX.handled,hX.depth,hX.units,hX.guards,?_,LC.h,?_,fun h=>(nomatch h),fun _ h=>(nomatch h)⟩
  ·refine ex02 (List.mem_filter.mp hp) ?_;intro hm hfr
   have hfr:=beq_iff_eq.mp hfr
   refine ex03 (hX.cvs p hm) ?_;intro h1 h2 h3
   refine ⟨?_,clOf_lookup (mem_of_lookup' hfr) h2,h3⟩
   have hl:X'.env.kindOf p.1=some (if k.sc.names.lookup p.1==some NameKind.cell then .cell else .free):=by
    refine (?_:X'.env.scope.names.lookup p.1=_)
    refine rwG hsc ?_
    refine (?_:(relabelN scope.names k.sc.names).lookup p.1=_)
    refine rwG lookup_relabelN ?_;refine rwG hfr ?_
    rfl
   refine rwG hl ?_
   rcases h1 with h1 | ⟨h1,h4⟩
   ·have:k.sc.names.lookup p.1=some .cell:=by refine rwL hX.scope ?_;exact h1
    refine rwG this ?_;exact .inl rfl
   ·have:k.sc.names.lookup p.1=some .free:=by refine rwL hX.scope ?_;exact h1
    refine rwG this ?_;exact .inr ⟨rfl,h4⟩
  ·intro p hp
   rcases List.mem_cons.mp hp with rfl | hp
   ·exact Ne.symm LC.l
   ·exact LC.k p hp
  ·refine ex12 Aw.frames ?_;intro l hl hf
   exact ⟨l,hl,fun e he=>by obtain ⟨a,L,b,c⟩:=hf e he;exact ⟨a,L,b,.inr c⟩⟩
 have bnd:∀{φ':Fz} {m m':Str→Option Value},(∀p∈Γ,Bound G X φ' m p.1 p.2)→∀p∈Γc,Bound G X' φ' m' p.1 p.2:=fun hb p hp=>by
  refine ex03 (ck.sub p hp) ?_;intro h1 h2 h3
  obtain ⟨a,w,b,c⟩:=hb p h1
  refine ⟨a,w,b,.inr ?_⟩
  rcases c with ⟨c,_⟩ | ⟨c,hm⟩
  ·exact absurd (by refine rwL hX.scope ?_;exact c) h3
  ·exact ⟨c,List.mem_filter.mpr ⟨hm,by refine rwG h2 ?_;rfl⟩⟩
 have R':Real G X' φ Γc σ { s₂ with heap:=h₁,toks:=s₂.toks + ([]:List (Str×Value)).length }:=by
  obtain ⟨m,hn,hb⟩:=R₄.ns
  exact ⟨Cw,LC.f,LC.s,_,hns,bnd hb⟩
 have kLD:Loose X' φ σ Da:=⟨LD.f,LD.s,fun p hp=>by
  rcases List.mem_cons.mp hp with rfl | hp
  ·exact Ne.symm LD.l
  ·exact LD.k p hp,LD.h,hDC⟩
 have kLi:Loose X' φ σ it:=⟨L₂.f,L₂.s,fun p hp=>by
  rcases List.mem_cons.mp hp with rfl | hp
  ·exact Ne.symm L₂.l
  ·exact L₂.k p hp,L₂.h,Ne.symm hCit⟩
 have hcl:closureFor scope X.env=pure cl:=closure_eq fun q hq hf=>by
  refine ex12 (List.mem_map.mp (ck.free q hq hf)) ?_;intro p hp e
  refine ex03 (ck.sub p hp) ?_;intro h1 h2 h3
  obtain ⟨m,hn,hb⟩:=R₄.ns
  obtain ⟨a,w,b,c⟩:=hb p h1
  rcases c with ⟨c,_⟩ | ⟨c,hm⟩
  ·exact absurd (by refine rwL hX.scope ?_;exact c) h3
  ·exact ⟨c,by refine rwL e ?_;exact (hX.cvs _ hm).2.1⟩
 have loop:codeAny (M G) X.A (.compLoop (.ListComp elt [⟨.Name x px,iter,[],0⟩] scope pos) 0 (.ref it) (.ref Da) X'.env) (RR (.ref Da) C) { s₂ with heap:=h₁,toks:=s₂.toks + ([]:List (Str×Value)).length }:=by
  refine codeAny_compLoop_list (CompI G X' φ Γc Da it I ds.length) (fun n s₃ hn=>?_) ds.length ⟨φ,σ,ds,[],[],0,rfl,by exact Nat.zero_add _,φ.le_refl,R',kLD,kLi,I₄,hDo,.nil,q⟩
  obtain ⟨φ₃,σ₃,ds',acc,vs,m,rfl,hlen,l₃,R₃,LD₃,Li₃,I₃,hD₃,W₃,q₃⟩:=hn
  have hDi:Da≠it:=hDit
  have Rh:=R₃.hold LD₃.f LD₃.s LD₃.k hD₃
  have hXh:=hX'.hold (a:=Da) (o:={ cls:=.type "list",data:=.seq (vs:List Value).toArray m }) LD₃.l
  have Lih:Loose (X'.hold Da { cls:=.type "list",data:=.seq (vs:List Value).toArray m }) φ₃ σ₃ it:=⟨Li₃.f,Li₃.s,Li₃.k,fun p hp=>by
   rcases List.mem_cons.mp hp with rfl | hp
   ·exact hDi
   ·exact Li₃.h p hp,Li₃.l⟩
  have noE:∀{Y:Cx} {φ₅:Fz} {P:Value→Shared→Prop},∀e s',PostE G Y φ₅ (fun _ _=>False) e s'→P e s':=fun e s' h=>h.no
  cases ds' with
  | nil=>
   refine iter_end hXh Rh Lih I₃ fun s₄ R₄=>?_
   have hD₄:=R₄.heldAt.2.2.2
   have R₄:=R₄.unhold
   have Rb:=back φ₃ σ₃ s₄ l₃ R₄.core
   exact hRR Da C φ₃ σ₃ s₄ acc vs m l₃ Rb ⟨LD₃.f,LD₃.s,LD.k,LD.h,LD.l⟩ ⟨R₄.lf,R₄.ls,LC.k,LC.h,LC.l⟩ hDC hD₄ W₃ R₄.ns.has q₃
  | cons d ds'=>
   refine iter_item hXh Rh Lih I₃ fun v s₄ R₄ V₄ I₄=>?_
   dsimp only
   refine ex12 I₄.obj ?_;intro oi hoi _
   have Rhh:=R₄.hold Lih.f Lih.s Lih.k hoi
   have hXhh:=hXh.hold (a:=it) (o:=oi) Lih.l
   have hxl:(compSk k scope).sc.names.lookup x=some .local:=by
    refine (?_:(relabelN scope.names k.sc.names).lookup x=_)
    (refine rwG lookup_relabelN ?_;refine rwG ck.loc ?_);rfl
   refine thA (WAsg.loc (G:=G) (k:=compSk k scope) (Γ:=Γc) (σ:=σ₃) (x:=x) (p:=px) (d:=d) (Q:=fun Γ' σ'=>Γ'=(x,d)::Γc∧σ'=σ₃) (E:=fun _ _=>False) ((x,d)::Γc) hxl ck.nd (fun q hq=>by
    rcases List.mem_cons.mp hq with rfl | hq
    ·exact .inl rfl
    ·refine .inr ⟨hq,fun e=>?_⟩
     have:=(ck.sub q hq).2.1
     rw [e,ck.loc] at this
     cases this) ⟨rfl,rfl⟩ _ hXhh φ₃ _ Rhh v V₄) (fun _ s₅ φ₅ σ₅ Γ₅ l₅ R₅ qq=>?_) noE
   refine ex02 qq ?_;clear qq;intro e₁ e₂
   subst e₁ e₂
   refine thV (hstep d ds' acc σ₅ q₃ _ hXhh φ₅ _ R₅) (fun w s₆ φ₆ σ₆ e l₆ R₆ V₆ q₆=>?_) noE
   have hi₆:=R₆.heldAt
   have hD₆:=R₆.unhold.heldAt
   have R₆:=R₆.unhold.unhold.weaken (Γ':=Γc) fun p hp=>.tail _ hp
   have k₆:=l₅.trans l₆
   have LD₆:Loose X' φ₆ σ₆ Da:=⟨hD₆.1,hD₆.2.1,LD₃.k,LD₃.h,LD₃.l⟩
   have hlen':acc.length + (ds'.length + 1)=ds.length:=hlen
   have hnz:vs.toArray.size≤sizeLine:=by (refine rwG List.size_toArray ?_;refine rwG W₃.length ?_);lia
   refine call_meets PySem.F.slot_list_append ⟨_,hD₆.2.2.2,rfl⟩ PySem.F.entry_list_append (PySem.F.args_list_append_2 _ _) (list_append Da vs.toArray m w (hsz:=hnz)) ⟨hD₆.2.2.2,?_⟩
   have hn:=IsL.update hD₆.2.2.2 (fun xs=>xs.push w)
   have other:∀b,b≠Da→(s₆.heap.update Da (Obj.mapSeq fun xs=>xs.push w)).get? b=s₆.heap.get? b:=fun b hb=>Heap.get?_update_other _ _ (Ne.symm hb)
   have ee:vs.toArray.push w=(vs++[w]).toArray:=by simp
   rw [ee] at hn
   refine ⟨ds'.length,Nat.lt_succ_self _,φ₆,σ₆,ds',acc++[e],vs++[w],_,rfl,by refine rwG List.length_append ?_;refine (?_:acc.length + 1 + ds'.length=_);lia,l₃.trans k₆,?_,LD₆,⟨hi₆.1,hi₆.2.1,Li₃.k,Li₃.h,Li₃.l⟩,
    I₄.mono k₆ ((other it (Ne.symm hDi)).trans (hi₆.2.2.2.trans hoi.symm)),hn,(W₃.mono k₆).append (.cons V₆ .nil),q₆⟩
   exact R₆.ext (tk:=s₆.toks) (fun b o hb hbo=>(other b hb).trans hbo) LD₆.f LD₆.s LD₆.k LD₆.h LD₆.l
 exact codeAny_compStart_list loop (iter_self (s:={ s₂ with heap:=h₁,toks:=s₂.toks + ([]:List (Str×Value)).length }) I₄ loop)
theorem comp_closure {scope:Scope} {x:Str} {Γc:Loc} (hX:CxOk k X) (R:Real G X φ Γ σ s) (ck:CompCk k scope x Γ Γc):closureFor scope X.env=pure (clOf X.env.cells scope.names []):=closure_eq fun q hq hf=>by
 refine ex12 (List.mem_map.mp (ck.free q hq hf)) ?_;intro p hp e
 refine ex03 (ck.sub p hp) ?_;intro h1 h2 h3
 obtain ⟨m,hn,hb⟩:=R.ns
 obtain ⟨a,w,b,c⟩:=hb p h1
 rcases c with ⟨c,_⟩ | ⟨c,hm⟩
 ·exact absurd (by refine rwL hX.scope ?_;exact c) h3
 ·exact ⟨c,by refine rwL e ?_;exact (hX.cvs _ hm).2.1⟩
theorem freeze_new (R:Real G X φ Γ σ s) {a:Addr} (L:Loose X φ σ a) {o:Obj} (ho:s.heap.get? a=some o):φ.le (φ.set a o)∧Real G X (φ.set a o) Γ σ s:=by
 have le:=Fz.le_set (o:=o) L.f
 refine ⟨le,R.core.newF (tk:=s.toks) (fun _ _ e=>e) L.f L.s L.k L.h ho,(set_ne (Ne.symm L.l)).trans R.lf,R.ls,?_⟩
 obtain ⟨m,hn,hb⟩:=R.ns
 exact ⟨m,hn,fun p hp=>(hb p hp).mono le⟩
theorem WE.comp {elt iter:Expr} {x:Str} {px:Pos} {scope:Scope} {pos:Pos} {Q:D→Sto→Prop} (Γc:Loc) (ck:CompCk k scope x Γ Γc) (I:List D→List D→Sto→Prop)
  (h:WE G k Γ σ iter (fun d σ₁=>∃ds,IterD d ds∧ds.length≤sizeLine∧I ds [] σ₁) E)
  (hstep:∀d ds acc σ₀,I (d::ds) acc σ₀→WE G (compSk k scope) ((x,d)::Γc) σ₀ elt (fun e σ₁=>I ds (acc++[e]) σ₁) (fun _ _=>False))
  (hend:∀acc σ₀,I [] acc σ₀→Q (.lst acc) σ₀) (hs:∀env x,foldedSetIterable iter env x=pure x:=by intro _ _;rfl):
  WE G k Γ σ (.ListComp elt [⟨.Name x px,iter,[],0⟩] scope pos) Q E:=fun X hX φ s R=>by
 rw [eval_ListComp]
 refine wpAny_comprehension_free (use:=none) rfl (hs _) (comp_closure hX R ck) ck.kind (fun q hq hl=>by (refine rwG (ck.uniq q hq) ?_;refine rwG hl ?_;rfl)) (then_ (h X hX φ s R) (fun φ₁ σ₁ d v s₁ l₁ R₁ V q=>?_) fun _ _ x=>x)
 refine ex13 q ?_;clear q;intro ds hI hz q
 refine comp_run hX R₁ ck I hstep hI q hz V (RR:=fun acc C=>compPost (M G) X.A (PostE G X φ E) none (PostV G X φ Γ Q) acc C) fun D C φ₂ σ₂ s₂ acc vs n l₂ R₂ LD LC ne hD W ⟨m,hn⟩ q₂=>?_
 refine ⟨m,hn,fun h' hs'=>?_⟩
 have ext:Heap.ExtBut C s₂.heap h':=fun b o hb hbo=>(hs'.2 b hb).trans hbo
 have R₃:=R₂.ext (tk:=s₂.toks) ext LC.f LC.s LC.k LC.h LC.l
 refine ex02 (freeze_new R₃ LD (ext D _ ne hD)) ?_;intro le R₄
 exact ⟨_,σ₂,_,l₁.trans (l₂.trans le),R₄,.lst set_self rfl rfl (W.mono le),hend _ _ q₂⟩
theorem W1.comp {elt iter:Expr} {x y:Str} {px py:Pos} {scope:Scope} {pos spos:Pos} {Q:Out→Loc→Sto→Prop} (Γc:Loc) (ck:CompCk k scope x Γ Γc) (I:List D→List D→Sto→Prop)
  (hsw:∀env,env.scope=k.sc→swapsWith (.ListComp elt [⟨.Name x px,iter,[],0⟩] scope pos) (some (.Name y py)) spos.line env=pure true)
  (h:WE G k Γ σ iter (fun d σ₁=>∃ds,IterD d ds∧ds.length≤sizeLine∧I ds [] σ₁) E)
  (hstep:∀d ds acc σ₀,I (d::ds) acc σ₀→WE G (compSk k scope) ((x,d)::Γc) σ₀ elt (fun e σ₁=>I ds (acc++[e]) σ₁) (fun _ _=>False))
  (hend:∀acc σ₀,I [] acc σ₀→WAsg G k Γ σ₀ (.Name y py) (.lst acc) (Q .next) E) (hs:∀env x,foldedSetIterable iter env x=pure x:=by intro _ _;rfl):
  W1 G k Γ σ (.Assign [.Name y py] (.ListComp elt [⟨.Name x px,iter,[],0⟩] scope pos) spos) Q E:=fun X hX φ s R=>by
 refine rwG (exec_Assign_Name_used _ _ _ _ (hsw _ hX.scope)) ?_
 refine wpAny_bind (wpAny_standAt (wpAny_bind ?_))
 refine (?_:wpAny _ X.A (do let _←comprehension (.ListComp elt [⟨.Name x px,iter,[],0⟩] scope pos) scope X.env _ (newList []) false (eval iter X.env) (some (PySem.assign (.Name y py) X.env))) _ _ s)
 refine wpAny_bind (wpAny_mono (wpAny_comprehension_free (use:=some (PySem.assign (.Name y py) X.env)) (Q:=fun _ s'=>PostS G X φ Q .next s') rfl (hs _) (comp_closure hX R ck) ck.kind (fun q hq hl=>by (refine rwG (ck.uniq q hq) ?_;refine rwG hl ?_;rfl))
  (then_ (h X hX φ s R) (fun φ₁ σ₁ d v s₁ l₁ R₁ V q=>?_) fun _ _ x=>x)) (fun _ s' hq=>wpAny_pure (wpAny_pure hq)) fun _ _ e=>e)
 refine ex13 q ?_;clear q;intro ds hI hz q
 refine comp_run hX R₁ ck I hstep hI q hz V (RR:=fun acc C=>compPost (M G) X.A (PostE G X φ E) (some (PySem.assign (.Name y py) X.env)) (fun _ s'=>PostS G X φ Q .next s') acc C) fun D C φ₂ σ₂ s₂ acc vs n l₂ R₂ LD LC ne hD W ⟨m,hn⟩ q₂=>?_
 refine (?_:wpAny _ X.A (PySem.assign (.Name y py) X.env (.ref D)) _ _ _)
 refine ex02 (freeze_new R₂ LD hD) ?_;intro le R₄
 have hC:=id hn
 refine ex33 hC ?_;clear hC;intro oC es ep hoC hdC hrC
 have RC:=R₄.hold (a:=C) (o:=oC) ((set_ne (Ne.symm ne)).trans LC.f) LC.s LC.k hoC
 refine thA (hend acc σ₂ q₂ (X.hold C oC) (hX.hold LC.l) _ _ RC (.ref D) (.lst set_self rfl rfl (W.mono le))) (fun _ s₅ φ₅ σ₅ Γ₅ l₅ R₅ q₅=>?_) fun _ _ z=>(z.unhold.le (l₁.trans (l₂.trans le)))
 have hh:=R₅.heldAt
 refine ⟨m,⟨oC,es,ep,hh.2.2.2,hdC,hrC⟩,fun h' hs'=>?_⟩
 exact ⟨φ₅,σ₅,Γ₅,.next,l₁.trans (l₂.trans (le.trans l₅)),R₅.unhold.ext (tk:=s₅.toks) (fun b o hb hbo=>(hs'.2 b hb).trans hbo) hh.1 hh.2.1 hh.2.2.1 LC.h LC.l,.next,q₅⟩
end
end Mine
end
section
open PySem PySem.W PySem.Calls PyProof.Rows
namespace Mine
set_option backward.match.sparseCases false
variable {G:Glob}
section
variable {k:Sk} {Γ:Loc} {σ:Sto} {E:Exn→Sto→Prop} {X:Cx} {φ φ':Fz} {s:Shared}
inductive PostD (G:Glob) (X:Cx) (φ:Fz) (Γ:Loc) (Q:List (Str×D)→Sto→Prop) (vs:List (Value×Value)) (s':Shared):Prop
 | mk (φ':Fz) (σ':Sto) (kvs:List (Str×Value)) (es:List (Str×D)):φ.le φ'→Real G X φ' Γ σ' s'→Carries (strKind pw G.w) vs kvs→kvs.map (·.1)=es.map (·.1)→VRs G φ' (kvs.map (·.2)) (es.map (·.2))→Q es σ'→PostD G X φ Γ Q vs s'
noncomputable def WD (G:Glob) (k:Sk) (Γ:Loc) (σ:Sto) (keys:List (Option Expr)) (values:List Expr) (Q:List (Str×D)→Sto→Prop) (E:Exn→Sto→Prop):Prop:=
 ∀pos X,CxOk k X→∀φ s,Real G X φ Γ σ s→wpAny (M G) X.A (evalPairs (pairTrees keys values X.env pos)) (PostD G X φ Γ Q) (PostE G X φ E) s
theorem WD.nil {Q:List (Str×D)→Sto→Prop} (q:Q [] σ):WD G k Γ σ [] [] Q E:=fun pos X hX φ s R=>pairTrees_nil_walk ⟨φ,σ,[],[],φ.le_refl,R,trivial,rfl,.nil,q⟩
theorem WD.cons {x:Str} {kk:Nat} {p:Pos} {v:Expr} {keys:List (Option Expr)} {values:List Expr} {Q:List (Str×D)→Sto→Prop} (h:WE G k Γ σ v (fun d σ₁=>WD G k Γ σ₁ keys values (fun es=>Q ((x,d)::es)) E) E):
  WD G k Γ σ (some (.Constant (.str x) kk p)::keys) (v::values) Q E:=fun pos X hX φ s R=>by
 refine pairTrees_cons_walk (Calls.Constant_str ?_)
 refine then_ (h X hX φ _ (R.tok _)) (fun φ₁ σ₁ d w s₁ l₁ R₁ V q=>?_) fun _ _ x=>x
 refine wpAny_mono (q pos X hX φ₁ s₁ R₁) (fun vs s₂ qq=>?_) fun _ _ x=>x.le l₁
 obtain ⟨φ₂,σ₂,kvs,es,l₂,R₂,c,e,W,q₂⟩:=qq
 exact ⟨φ₂,σ₂,(x,w)::kvs,(x,d)::es,l₁.trans l₂,R₂,⟨is_str x _,rfl,c⟩,by (refine rwG List.map_cons ?_;refine rwG List.map_cons ?_;refine rwG e ?_;rfl),.cons (V.mono l₂) W,q₂⟩
theorem WE.dct {keys:List (Option Expr)} {values:List Expr} {p:Pos} {Q:D→Sto→Prop} (hall:keys.all (·.isSome)=true) (hl:keys.length=values.length) (h0:keys≠[]) (hlen:keys.length≤15)
  (h:WD G k Γ σ keys values (fun es σ₁=>(es.map (·.1)).Nodup∧∀a,σ₁ a=none→Q (.ref a) (σ₁.set a (.dict es))) E):WE G k Γ σ (.Dict keys values p) Q E:=fun X hX φ s R=>by
 refine ex05 R.size ?_;intro z1 z2 z3 z4 z5
 have R₁:=(R.keeps (tk:=s.toks) (h':=s.heap.push { cls:=.type "dict",data:=.dict #[] }) fun _ _ e=>Heap.get?_push_of_some _ e).hold (a:=s.heap.objs.size) (o:={ cls:=.type "dict",data:=.dict #[] }) z1 z2 z3 (Heap.get?_push_size _ rfl)
 refine wpAny_Dict_walk (knd:=strKind pw G.w) hall hl h0 hlen (wpAny_mono (h p _ (hX.hold z5) φ _ R₁) (fun vs s₁ qq=>?_) fun _ _ x=>x.unhold)
 obtain ⟨φ₁,σ₁,kvs,es,l₁,R₁,c,e,W,hn,q⟩:=qq
 refine ex04 R₁.heldAt ?_;intro y1 y2 y3 y4
 have R₁:=R₁.unhold
 have hn':(kvs.map (·.1)).Nodup:=by refine rwG e ?_;exact hn
 refine ⟨kvs,c,⟨_,#[],0,y4,⟨rfl,rfl,rfl⟩,rfl,fun _ h=>by simp at h,.nil,List.nodup_nil⟩,fun h' hd hs=>?_⟩
 rw [merged_nil_of_nodup _ hn'] at hd
 refine ex12 (or_dict hd e W) ?_;intro o₂ ho₂ O₂
 have ext:Heap.ExtBut s.heap.objs.size s₁.heap h':=fun b o hb hbo=>(hs.2 b hb).trans hbo
 have R₂:=R₁.ext (tk:=s₁.toks + vs.length) ext y1 y2 y3 z4 z5
 refine ⟨φ₁,_,_,l₁,⟨R₂.core.new (tk:=s₁.toks + vs.length) (fun _ _ e=>e) y1 y2 y3 z4 ho₂ O₂,R₂.lf,by unfold Sto.set;refine rwG (if_neg (Ne.symm z5)) ?_;exact R₂.ls,R₂.ns⟩,.ref _,q _ y2⟩
structure LamOk (G:Glob) (c P:Addr):Prop where
 hd:CodeHd G.h₀ c P
 bm:∃bm ob,G.mg "__builtins__"=some (.ref bm)∧bm≠builtinsNs∧G.h₀.get? bm=some ob∧ob.cls=.type "module"∧ob.dict=some builtinsNs∧ob.data=.plain
theorem clOf_congr {a b:List (Str×Addr)}:∀{names:List (Str×NameKind)} {acc:List (Str×Addr)},(∀q∈names,q.2=.free→a.lookup q.1=b.lookup q.1)→clOf a names acc=clOf b names acc
 | [],_,_=>rfl
 | (n,kd)::r,acc,h=>by
  refine (?_:clOf a r (if (kd==.free)=true then (n,(a.lookup n).getD 0)::acc else acc)=clOf b r (if (kd==.free)=true then (n,(b.lookup n).getD 0)::acc else acc))
  have ih:=fun acc=>clOf_congr (a:=a) (b:=b) (names:=r) (acc:=acc) fun q hq=>h q (.tail _ hq)
  cases q:kd==NameKind.free with
  | false=>exact ih _
  | true=>
   refine rwG (if_pos rfl) ?_;refine rwG (if_pos rfl) ?_;refine rwG (h (n,kd) (.head _) (beq_iff_eq.mp q)) ?_
   exact ih _
theorem Real.fresh (R:Real G X φ Γ σ s) {a:Addr} (ha:s.heap.objs.size≤a):Loose X φ σ a:=by
 have no:∀o,s.heap.get? a≠some o:=fun o e=>Nat.not_lt.mpr ha (Heap.lt_size e)
 obtain ⟨m,hn,_⟩:=R.ns
 refine ⟨?_,?_,fun p hp q=>?_,fun p hp q=>?_,fun q=>?_⟩
 ·cases h:φ a with
  | none=>rfl
  | some o=>exact absurd (R.core.frz _ _ h) (no o)
 ·cases h:σ a with
  | none=>rfl
  | some x=>obtain ⟨_,o,e,_⟩:=R.core.sto _ _ h;exact absurd e (no o)
 ·obtain ⟨_,_,_,sl,e⟩:=R.core.waits p hp;rw [q] at e;exact no _ e
 ·(refine ex04 (R.core.holds p hp) ?_;intro _ _ _ e);rw [q] at e;exact no _ e
 ·(refine ex32 hn ?_;clear hn;intro o _ _ e _);rw [←q] at e;exact no _ e
theorem WE.lam {body:Expr} {scope:Scope} {pos:Pos} {c P:Addr} {ps:Array Value} {Q:D→Sto→Prop} (hc:k.code=some c) (L:LamOk G c P) (hP:σ P=some (.tab ps)) (ht:TriplesOk ps.toList) (hnf:codeAmong pos ps.toList=none)
  (hfree:∀q∈scope.names,q.2=.free→∃a,k.cells.lookup q.1=some a)
  (h:∀c',Q (.clo body scope (clOf k.cells scope.names [])) (σ.set P (.tab (ps++#[rawInt pos.line,rawInt pos.col,.ref c'])))):WE G k Γ σ (.Lambda ⟨[],[],none,[],[],none,[]⟩ body scope pos) Q E:=fun X hX φ s R=>by
 have hlk:∀q∈scope.names,q.2=.free→X.env.cells.lookup q.1=k.cells.lookup q.1:=fun q hq hf=>by
  refine ex11 (hfree q hq hf) ?_;intro a ha
  refine rwG ha ?_
  exact (hX.cells (q.1,a) (PySem.mem_of_lookup ha)).1
 have hcl:closureFor scope X.env=pure (clOf k.cells scope.names []):=by
  refine rwL (clOf_congr (acc:=[]) hlk) ?_
  exact closure_eq fun q hq hf=>by
   refine ex11 (hfree q hq hf) ?_;intro a ha
   exact ⟨a,by refine rwG (hlk q hq hf) ?_;exact ha⟩
 obtain ⟨oP,hoP,OP⟩:=R.store hP
 obtain rfl:=OP.inv
 have hgs:=G.nsG.keeps R.base
 refine ex26 L.bm ?_;intro bm ob b1 b2 b3 b4 b5 b6
 have b3':=R.base _ _ b3
 have hgP:mainGlobals≠P:=fun q=>by
  refine ex33 hgs ?_;clear hgs;intro o es ep e hd _
  rw [q,hoP] at e;cases e;cases hd
 have hbP:bm≠P:=fun q=>by
  rw [q,hoP] at b3';cases b3';cases b4
 have hbG:bm≠mainGlobals:=fun q=>by
  refine ex33 hgs ?_;clear hgs;intro o es ep e hd _
  rw [q,e] at b3';cases b3';rw [hd] at b6;cases b6
 refine kla_eval rfl (kla_makeFunction (mg:=G.mg) hcl hX.globals hgs (hX.code c hc) (L.hd.keeps R.base) hoP ht hnf hgP ⟨bm,ob,b1,b2,hbG,hbP,b3',b4,b5,b6⟩ fun c' ctv h' tk hx hge hlt hrec htb=>?_)
 refine ex44 hrec ?_;clear hrec;intro c₂ oc vs t e2 hoc hd hv
 cases e2
 have R₁:=R.upd (tk:=tk) hx hP htb .tab
 have Lc:=R.fresh hge
 have ncP:c'≠P:=fun q=>by
  have:=Lc.s
  rw [q,hP] at this;cases this
 have Lc':Loose X φ (σ.set P (.tab (ps++#[rawInt pos.line,rawInt pos.col,.ref c']))) c':=⟨Lc.f,by unfold Sto.set;refine rwG (if_neg ncP) ?_;exact Lc.s,Lc.k,Lc.h,Lc.l⟩
 refine ex02 (freeze_new R₁ Lc' hoc) ?_;intro le R₂
 refine ex02 (R₂.pushF (tk:=tk) (kla_obj "<lambda>" (X.env.qual++"<lambda>") ⟨[],[],none,[],[],none,[]⟩ body scope (clOf k.cells scope.names []) ((G.mg "__name__").getD .none) c' ctv)) ?_;intro le' R₃
 refine ⟨_,_,_,le.trans le',R₃,.clo ⟨_,_,c',oc,vs,t,set_self,rfl,rfl,rfl,rfl,rfl,rfl,rfl,rfl,rfl,rfl,rfl,le' _ _ set_self,hd,hv⟩,h c'⟩
theorem WC.clo {n:Nat} {σ:Sto} {body:Expr} {sc:Scope} {cells:List (Str×Addr)} {Q:D→Sto→Prop} {E:Exn→Sto→Prop} (hn:n < 1000) (hkind:sc.kind=.function) (hgen:sc.isGenerator=false) (hco:sc.isCoroutine=false) (hnc:∀q∈sc.names,q.2≠.cell)
  (hcl:∀p∈cells,cells.lookup p.1=some p.2∧sc.names.lookup p.1=some .free∧(p.1==S_ "__classdict__")=false∧(p.1==S_ "__debug__")=false)
  (h:WE G { sc:=sc,cells:=cells,n:=n + 1 } [] σ body Q E):WC G n (.clo body sc cells) [] σ Q E:=fun A kept held hA φ s R fv vs V W=>by
 refine W.nilE ?_
 refine ex12 V.inv ?_;rintro ca rfl hF
 focus
  obtain ⟨o,fd,c,oc,vs,t,h1,h2,h3,h4,h5,h6,h7,h8,h9,h10,h11,h12,h13,h14,h15⟩:=hF
  have base:∀b o,G.h₀.get? b=some o→s.heap.get? b=some o:=fun b o e=>R.frz b o (R.base b o e)
  have hbind:bindArgs fd ⟨[],[]⟩=pure []:=bind_plain (as:=[]) (ds:=[]) h4 h8 rfl (by simp)
  refine kla_callFunE (Nat.lt_of_le_of_lt hA.depth (by refine (?_:n < 1000);exact hn)) (R.frz _ _ h1) h3 (by refine rwG h6 ?_;exact hco) (by refine rwG h6 ?_;exact hgen) h5 ⟨c,oc,vs,t,h12,R.frz _ _ h13,h14,h15⟩ ?_
  refine rwG hbind ?_
  refine wpAny_pure ?_
  refine wpAny_newFunctionEnv (by refine rwG h6 ?_;exact hnc) (by intro y hy;simp at hy) (fun h' hns hsb=>?_) (by refine rwG h6 ?_;exact hkind)
  dsimp only at hns hsb ⊢
  generalize hL:s.heap.objs.size=L at hns hsb ⊢
  have keep:∀b o,s.heap.get? b=some o→h'.get? b=some o:=fun b o e=>by
   have lt:=Heap.lt_size e
   rw [hL] at lt
   exact (hsb.2 b (Nat.ne_of_lt lt)).trans (Heap.get?_push_of_some _ e)
  refine ⟨(G.nolimit.keeps base).keeps keep,?_⟩
  generalize hev:newEnv fd.scope L fd.globals fd.closure (fd.qualname++".<locals>.") (some _) fd.code none fd.builtins=env
  have k1:env.scope=sc:=by subst hev;exact h6
  have k2:env.locals=L:=by subst hev;rfl
  have k3:env.globals=mainGlobals:=by subst hev;exact h10
  have k4:env.builtins=builtinsNs:=by subst hev;exact h11
  have k5:env.frame=some L:=by subst hev;rfl
  have k6:env.cells=cells:=by subst hev;exact h7
  refine kla_codeExpr ?_
  let X:Cx:={ A:=A.deeper env,env:=env,kept:=kept,held:=held }
  have R₁:=R.keeps (tk:=s.toks + ([]:List (Str×Value)).length) keep
  have sz:=R.size
  rw [hL] at sz
  have hX:CxOk { sc:=sc,cells:=cells,n:=n + 1 } X:=by
   refine ex12 hA.frames ?_;intro l hl' hfr
   have hfr':(A.deeper env).frames=some (env::l):=Around.frames_deeper hl'
   refine ⟨k1,hkind,k3,k4,fun p hp=>?_,fun p hp=>(nomatch hp),hA.handled,?_,?_,hA.guards,?_,?_,⟨env::l,hfr',fun e he=>?_⟩,fun _=>⟨l,hfr',by refine rwG k2 ?_;exact k5⟩,fun _ h=>nomatch h⟩
   ·refine ex04 (hcl p hp) ?_;intro q1 q2 q3 q4
    exact ⟨by refine (?_:env.cells.lookup p.1=_);refine rwG k6 ?_;exact q1,.inr ⟨by refine (?_:env.scope.names.lookup p.1=_);refine rwG k1 ?_;exact q2,q3⟩,q4⟩
   ·refine (?_:A.depth + 1≤n + 1)
    have:=hA.depth;exact Nat.lt_succ_of_le this
   ·refine (?_:A.units + 3≤8 * (n + 1))
    have:=hA.units;exact lin1 this (by simp +arith only)
   ·refine (?_:kept.free env.locals)
    refine rwG k2 ?_;exact sz.2.2.1
   ·refine (?_:held.free env.locals)
    refine rwG k2 ?_;exact sz.2.2.2
   ·rcases List.mem_cons.mp he with rfl | he
    ·exact ⟨by (refine rwG k1 ?_;refine rwG hkind ?_);decide,L,k5,.inl k2.symm⟩
    ·obtain ⟨a,L',b,p,hp,e⟩:=hfr e he
     exact ⟨a,L',b,.inr ⟨p,hp,e⟩⟩
  have hR:Real G X φ [] σ { s with heap:=h',toks:=s.toks + ([]:List (Str×Value)).length }:=
   ⟨R₁,by refine (?_:φ env.locals=none);refine rwG k2 ?_;exact sz.1,by refine (?_:σ env.locals=none);refine rwG k2 ?_;exact sz.2.1,⟨_,by refine (?_:h'.Ns env.locals _);refine rwG k2 ?_;exact hns,fun p hp=>(nomatch hp)⟩⟩
  refine thV (h X hX φ _ hR) (fun v s' φ' σ' d le R' V q=>⟨φ',σ',d,le,R'.core,V,q⟩) fun e s' hE=>?_
  refine leaves_ok (k:={ sc:=sc,cells:=cells,n:=n + 1 }) hX rfl hE fun φ' σ' x e' s'' he le R' q=>?_
  subst he
  refine ⟨φ',σ',x,le,R'.core,?_,q⟩
  exact R'.exc.flies (.inl rfl)
end
end Mine
end
section
open PySem PySem.W
namespace Mine
set_option backward.match.sparseCases false
variable {G:Glob}
section
variable {prog:Program} {w:World} {A:Around} {h:Heap} {g:Array GenState} {d:Drawn} {t:Nat} {os:OsState}
variable {nm q:Str} {C N:Addr} {bs bm:List Value} {hdct:Bool} {sn:List Str} {sub:List Value} {ab:Bool} {col:Option Bool} {dd:Option Addr} {k0 k1 k2 k3 k5:Option Value}
theorem exc_check_new {M:Model} {E:Value→Shared→Prop} (hB:bm.contains (.type "Exception")=true) {rest:List Value} {Q:Unit→Shared→Prop} (hC:h.get? C=some (excClassObj nm q C N bs bm hdct sn sub ab col dd k0 k1 k2 k3 k5 "Exception.__new__"))
  (hq:Q () ⟨h,g,d,t,os⟩):wpAny M A (checkBuiltinCall "Exception.__new__" ⟨.ref C::rest,[]⟩) Q E ⟨h,g,d,t,os⟩:=by
 have F:=PySem.F.excBase_Exception
 have hcont:(Value.ref C::bm).contains (.type "Exception")=true:=by (refine rwG List.contains_cons ?_;refine rwG hB ?_;rewrite [Bool.or_true];rfl)
 have hstar:=F.noStar
 simp only [checkBuiltinCall,F.newKind,F.newSplit,F.newRow]
 repeat (first | refine wpAny_loadPart_at hC ?_ | (refine wpAny_isSubtype_exc hC ?_;rw (config:={}) [hcont]) | refine wpAny_staticBase_exc hC ?_ | refine wpAny_madeBy_exc hC ?_ | simp only [bne_self_eq_false,Bool.false_eq_true,if_false] | wp_step)
 exact hq
noncomputable abbrev excObj (C t:Addr):Obj:={ cls:=.ref C,data:=.fields #[.ref t,.none,.none,.none,.bool false,.none] }
theorem exc_new {R:Result→Shared→Prop} (hB:bm.contains (.type "Exception")=true) (hA:bm.contains (.type "AttributeError")=false) (hN:bm.contains (.type "NameError")=false) {rest:List Value}
  (hC:h.get? C=some (excClassObj nm q C N bs bm hdct sn sub ab col dd k0 k1 k2 k3 k5 "Exception.__new__"))
  (hq:R (.ok (.ret (.ref (h.objs.size + 1)))) ⟨(h.push { cls:=.type "tuple",data:=.seq rest.toArray }).push (excObj C h.objs.size),g,d,t,os⟩) (hrest:rest.length≤sizeLine):
  codeAny (model prog w) A (.builtin "Exception.__new__" ⟨.ref C::rest,[]⟩) R ⟨h,g,d,t,os⟩:=by
 have F:=PySem.F.excBase_Exception
 have hends:=F.ends
 have hcB:(Value.ref C::bm).contains (.type "Exception")=true:=by (refine rwG List.contains_cons ?_;refine rwG hB ?_;rewrite [Bool.or_true];rfl)
 have hcA:(Value.ref C::bm).contains (.type "AttributeError")=false:=by (refine rwG List.contains_cons ?_;refine rwG hA ?_);rfl
 have hcN:(Value.ref C::bm).contains (.type "NameError")=false:=by (refine rwG List.contains_cons ?_;refine rwG hN ?_);rfl
 refine codeAny_builtinAt F.entry ?_
 unfold Builtin.«BaseException.__new__»
 refine wpAt_bind ?_
 refine (?_:wpAt _ _ _ (stack >>= _) _ _ _)
 refine wpAt_bind (wpAt_stack fun p below=>wpAt_of_wpAny ?_)
 wp_walk
 refine wpAt_of_wpAny ?_
 refine rwG F.owner ?_
 repeat (first | with_reducible refine wpAny_madeHere_exc F.canon hC ?_ | with_reducible refine wpAny_loadPart_at hC ?_ | (with_reducible refine wpAny_isSubtype_exc hC ?_;first | rw (config:={}) [hcB] | rw (config:={}) [hcA] | rw (config:={}) [hcN]) | wp_step)
 refine (?_:R _ _)
 rw [Heap.size_push]
 exact hq
theorem exc_type_call {E:Value→Shared→Prop} (hB:bm.contains (.type "Exception")=true) (hA:bm.contains (.type "AttributeError")=false) (hN:bm.contains (.type "NameError")=false) {mN:Str→Option Value} {rest:List Value} {fI:Addr} {oI:Obj} {Q:Fin→Shared→Prop}
  (hC:h.get? C=some (excClassObj nm q C N bs bm hdct sn sub ab col dd k0 k1 k2 k3 k5 "Exception.__new__")) (hn:h.Ns N mN) (hi:mN "__init__"=some (.ref fI)) (hfI:h.get? fI=some oI) (hfc:oI.cls=.type "function")
  (hq:wpAny (model prog w) A (call (.ref fI) (.ref (h.objs.size + 1)::rest)) (fun r s'=>r=.none∧Q (.done (.ret (.ref (h.objs.size + 1)))) s') E ⟨(h.push { cls:=.type "tuple",data:=.seq rest.toArray }).push (excObj C h.objs.size),g,d,t,os⟩)
  (hrest:rest.length≤sizeLine):wpAny (model prog w) A (Builtin.«type.__call__» ⟨.ref C::rest,[]⟩) Q E ⟨h,g,d,t,os⟩:=by
 have F:=PySem.F.excBase_Exception
 repeat (first | with_reducible refine wpAny_loadPart_at hC ?_ | with_reducible refine wpAny_madeBy_exc hC ?_ | wp_step)
 refine codeAny_call_builtin_code (Code.quiet_builtin _ F.quiet) (exc_check_new hB hC ?_)
 refine exc_new hB hA hN hC ?_ hrest
 refine (?_:wpAny _ _ _ _ _ _)
 have hC₁:=Heap.get?_push_of_some (excObj C h.objs.size) (Heap.get?_push_of_some { cls:=.type "tuple",data:=.seq rest.toArray } hC)
 have hfI₁:=Heap.get?_push_of_some (excObj C h.objs.size) (Heap.get?_push_of_some { cls:=.type "tuple",data:=.seq rest.toArray } hfI)
 have hn₁:((h.push { cls:=.type "tuple",data:=.seq rest.toArray }).push (excObj C h.objs.size)).Ns N mN:=
  let ⟨o,es,ep,e,r⟩:=hn;⟨o,es,ep,Heap.get?_push_of_some _ (Heap.get?_push_of_some _ e),r⟩
 have hget:((h.push { cls:=.type "tuple",data:=.seq rest.toArray }).push (excObj C h.objs.size)).get? (h.objs.size + 1)=some (excObj C h.objs.size):=by heap_get
 have hcC:(Value.ref C::bm).contains (.ref C)=true:=by simp
 unfold isInstance
 repeat (first | with_reducible refine wpAny_loadPart_at hget ?_ | (with_reducible refine wpAny_isSubtype_exc hC₁ ?_;rw (config:={}) [hcC]) | wp_step)
 refine (?_:wpAny _ _ (typeLookup (.ref C) _) _ _ _)
 rw [typeLookup_eq]
 refine wpAny_bind (wpAny_mroOf_exc hC₁ ?_)
 rw [lookupAlong_cons]
 refine wpAny_bind (wpAny_classOwn_exc hC₁ hn₁ ?_)
 refine rwG hi ?_
 refine wpAny_pure ?_
 refine wpAny_holding (wpAny_bind ?_)
 unfold bindSpecial
 refine wpAny_bind (wpAny_typeOf (T:="function") ⟨_,hfI₁,hfc⟩ ?_)
 refine rwG (if_pos (by decide)) ?_
 refine wpAny_pure (wpAny_bind (wpAny_mono hq (fun r s' hr=>?_) fun _ _ x=>x))
 refine ex02 hr ?_;clear hr;rintro rfl hQ
 wp_walk
 exact hQ
end
open PySem.Calls PyProof.Rows
theorem WC.exc {n:Nat} {σ:Sto} {args:List D} {Q:D→Sto→Prop} {E:Exn→Sto→Prop} {i j:Nat} (hij:i=2∧j=4∨i=4∧j=2) (hz:args.length≤1000) (hf:IsFn G.h₀.get? (G.fa i 1) (stAt i 1))
  (h:∀e,σ e=none→WC G (n + 1) (.fn i 1) (.ref e::args) (σ.set e (.exc i none)) (fun d σ'=>d=.none∧Q (.ref e) σ') E):WC G n (.cls i) args σ Q E:=fun A kept held hA φ s R fv vs V W=>by
 refine ex02 (G.excCls i j hij) ?_;rintro ⟨nm,q,N,bs,bm,hdct,sn,sub,ab,col,dd,k0,k1,k2,k3,k5,mN,c1,c2,c3,c4,c5,c6,c7,c8,c9⟩ _
 have base:∀b o,G.h₀.get? b=some o→s.heap.get? b=some o:=fun b o e=>R.frz b o (R.base b o e)
 obtain rfl:=V.inv
 focus
  obtain ⟨oI,fd,co,oc,ws,tq,f1,f2,_⟩:=id hf
  obtain ⟨hh,g,dr,t,os⟩:=s
  have hC:=base _ _ c1
  have g1:=tc_lookup
  have g2:=tc_bind (.ref (G.cad i))
  have hT:(⟨hh,g,dr,t,os⟩:Shared).TypeIs (.ref (G.cad i)) "type":=⟨_,hC,rfl⟩
  refine codeAny_of_tree ?_
  refine (?_:wpAny _ _ (callAny (.ref (G.cad i)) _) _ _ _)
  repeat (any_goals (first | assumption | with_reducible refine wpAny_loadPart_at hC ?_ | wp_step))
  refine ⟨rfl,?_⟩
  have R₁:RealC G kept held φ σ ⟨hh.push { cls:=.type "tuple",data:=.seq vs.toArray },g,dr,t,os⟩:=R.keeps (tk:=t) fun _ _ e=>Heap.get?_push_of_some _ e
  have R₂:RealC G kept held φ (σ.set (hh.push { cls:=.type "tuple",data:=.seq vs.toArray }).objs.size (.exc i none)) ⟨(hh.push { cls:=.type "tuple",data:=.seq vs.toArray }).push (excObj (G.cad i) hh.objs.size),g,dr,t,os⟩:=
   R₁.pushS (tk:=t) (excObj (G.cad i) hh.objs.size) (.exc rfl rfl)
  have sz₁:=R₁.size
  rw [Heap.size_push] at R₂ sz₁
  have hz':vs.length≤sizeLine:=by (refine rwG W.length ?_;refine rwG sizeLine_eq ?_);exact Nat.le_trans hz (Nat.le_of_ble_eq_true rfl)
  refine codeAny_call_builtin_at (Code.quiet_builtin _ (by decide +kernel)) entry_typeCall (wpAny_check_type_call_sub hC (exc_type_call c4 c6 c7 hC (c2.keeps base) c3 (base _ _ f1) f2 ?_ hz'))
  have V1:VR G φ (.ref (G.fa i 1)) (.fn i 1):=.fn i 1 (hf.mono R.base)
  refine wpAny_call (codeAny_mono (h (hh.objs.size + 1) sz₁.2.1 _ kept held (hA.underT _ vs) φ _ R₂ _ _ V1 (.cons (.ref (hh.objs.size + 1)) W)) fun r s' z=>?_)
  rcases r with e | fl
  ·exact z
  ·cases fl with
   | ret v=>
    obtain ⟨φ',σ',d,l,C',V',rfl,q⟩:=z
    obtain rfl:=V'.inv
    exact ⟨rfl,φ',σ',_,l,C',.ref _,q⟩
   | _=>exact z.elim
end Mine
end
section
open PySem PySem.W PySem.Calls PyProof.Rows
namespace Mine
set_option backward.match.sparseCases false
variable {G:Glob}
theorem Sto.at_set {σ:Sto} {a:Addr} {x:AObj}:(σ.set a x) a=some x:=if_pos rfl
theorem Sto.at_ne {σ:Sto} {a b:Addr} {x:AObj} (h:b≠a):(σ.set a x) b=σ b:=if_neg h
theorem Sto.set_set {σ:Sto} {a:Addr} {x y:AObj}:(σ.set a x).set a y=σ.set a y:=by
 funext b;unfold Sto.set;split<;>rfl
theorem Sto.set_comm {σ:Sto} {a b:Addr} {x y:AObj} (h:a≠b):(σ.set a x).set b y=(σ.set b y).set a x:=by
 funext c;unfold Sto.set
 by_cases h1:c=a
 ·subst h1
  refine rwG (if_neg h) ?_;refine rwG (if_pos rfl) ?_;refine rwG (if_pos rfl) ?_;rfl
 ·refine rwG (if_neg h1) ?_;refine rwG (if_neg h1) ?_;rfl
theorem refuse_three (self:Value):refuseLoop self "__setattr__" [.type "Exception",.type "BaseException",.type "object"]=pure ():=by kernel_rfl
theorem isRef_ok {v:Value} (h:isRef v=true):∃c,v=.ref c:=by
 cases v with
 | ref c=>exact ⟨c,rfl⟩
 | _=>exact nomatch h
theorem only_ind {P:List Value→Prop} (h0:P [.type "Exception",.type "BaseException",.type "object"]) (h1:∀c r,P r→P (.ref c::r)) (l:List Value) (e:onlyExc l=true):P l:=by
 induction l with
 | nil=>exact nomatch e
 | cons v r ih=>
  replace e:(bif isRef v then onlyExc r else v::r==[.type "Exception",.type "BaseException",.type "object"])=true:=e
  cases q:isRef v with
  | true=>
   rw (config:={}) [q] at e
   refine ex11 (isRef_ok q) ?_;intro c q
   refine rwG q ?_
   exact h1 c r (ih e)
  | false=>
   rw (config:={}) [q] at e
   refine rwG (beq_iff_eq.mp e) ?_
   exact h0
theorem refuse_exc (self:Value) {l:List Value} (h:onlyExc l=true):refuseLoop self "__setattr__" l=pure ():=only_ind (P:=fun l=>refuseLoop self "__setattr__" l=pure ()) (refuse_three self) (fun c r ih=>(refuseLoop_ref ..).trans ih) l h
theorem exc_has {l:List Value} (h:onlyExc l=true):l.contains (.type "object")=true:=only_ind (P:=fun l=>l.contains (.type "object")=true) (by decide) (fun c r ih=>by (refine rwG List.contains_cons ?_;refine rwG ih ?_;rewrite [Bool.or_true];rfl)) l h
section
variable {k:Sk} {Γ:Loc} {σ:Sto} {E:Exn→Sto→Prop} {X:Cx} {φ φ':Fz} {s:Shared}
inductive ExcPut (σ:Sto) (e:Addr) (i:Nat) (x:Str) (d:D) (Q:Sto→Prop):Prop
 | first:σ e=some (.exc i none)→(∀dx,σ dx=none→dx≠e→Q ((σ.set e (.exc i (some dx))).set dx (.dict [(x,d)])))→ExcPut σ e i x d Q
 | more {dx:Addr} {fs:List (Str×D)}:σ e=some (.exc i (some dx))→σ dx=some (.dict fs)→fs.length≤1000→Q (σ.set dx (.dict (dput fs x d)))→ExcPut σ e i x d Q
theorem setAttr_exc (R:Real G X φ Γ σ s) {e:Addr} {i j:Nat} {x:Str} {v:Value} {d:D} (hij:i=2∧j=4∨i=4∧j=2) (hx:(i,x)∈excAttrTab) (V:VR G φ v d) {P:Sto→Prop} (hp:ExcPut σ e i x d P)
  {Q:Unit→Shared→Prop} {F:Value→Shared→Prop} (h:∀σ' s',Real G X φ Γ σ' s'→P σ'→Q () s'):wpAny (M G) X.A (setAttr (.ref e) x v) Q F s:=by
 refine ex04 (G.excCls i j hij) ?_;intro _ g1 g2 g3
 have ht:=G.excAttr _ hx
 dsimp only at ht
 have SF:=PySem.F.store_object
 refine ex12 (any_some g2) ?_;intro cd hc ho
 have XK:=G.X.keeps R.base
 obtain ⟨dx?,hd⟩:∃dx?,σ e=some (.exc i dx?):=by induction hp with
  | first h1 _=>exact ⟨_,h1⟩
  | more h1 _ _ _=>exact ⟨_,h1⟩
 obtain ⟨oe,hoe,Oe⟩:=R.store hd
 refine ex13 Oe.inv ?_;rintro vs rfl q1 q2
 focus
  have hI:∃od:Option Obj,InstAt s.heap e { cls:=.ref (G.cad i),dict:=dx?,data:=.fields vs } (G.cad i) od:=by
   induction hp with
   | first h1 _=>rw [hd] at h1;cases h1;exact ⟨none,hoe,rfl,rfl,trivial⟩
   | more h1 h2 _ _=>
    rw [hd] at h1;cases h1
    obtain ⟨o,ho,_⟩:=R.store h2
    exact ⟨some o,hoe,rfl,rfl,ho⟩
  refine ex11 hI ?_;clear hI;intro od I
  have XK1:G.K.In ({ s with toks:=s.toks + 1 }:Shared).heap:=XK
  refine set_plain XK I g1 ?_
  have sub:Looks (M G) ({ s with toks:=s.toks + 1 }:Shared).heap (isInstance (.ref e) (.type "object")) true:=(I.type (M:=M G)).andThen (looks_mroIn XK (by
   unfold mroIn;(refine rwG hc ?_;rewrite [Option.bind_some,if_neg];refine rwG (exc_has ho) ?_;rfl)
   cases q:cd.mro with
   | nil=>rw [q] at ho;cases ho
   | cons _ _=>simp))
  refine codeAny_call_builtin SF.slot.plain SF.entry (@check_slot (M G) _ _ { s with toks:=s.toks + 1 } "object.__setattr__" "object" "__setattr__" (.ref e) [.str x s.toks,v] [] _ SF.kind SF.split sub (SF.args (.ref e) (.str x s.toks) v) ?_)
  refine ex12 (Option.bind_eq_some_iff.mp ht) ?_;intro attr ha hr
  have hm:Looks (M G) ({ s with toks:=s.toks + 1 }:Shared).heap (mroOf (.ref (G.cad i))) cd.mro:=(looks_clsIn XK hc).andThen .now
  have L3:Looks (M G) ({ s with toks:=s.toks + 1 }:Shared).heap (Builtin.ObjectAttr.storeTaker? attr) none:=by
   induction attr with
   | none=>exact .now
   | some a=>
    refine ex12 (Option.map_eq_some_iff.mp hr) ?_;intro b hb e1
    refine (looks_takesIn XK hb).andThen ?_
    cases b with
    | true=>cases e1
    | false=>exact .now
  rw [osa_eq,refuse_eq]
  have I1:InstAt ({ s with toks:=s.toks + 1 }:Shared).heap e _ (G.cad i) od:=I
  refine wpAny_bind (wpAny_bind (I1.type.here (wpAny_bind (hm.here ?_))))
  refine rwG (refuse_exc _ ho) ?_
  refine wpAny_pure (wpAny_bind (I1.type.here (wpAny_bind ((looks_findIn XK ha).here (s:={ s with toks:=s.toks + 1 }) (wpAny_bind (L3.here ?_))))))
  refine ex12 (any_some g3) ?_;intro cd' hcd hd'
  refine wpAny_bind (wpAny_pure (wpAny_bind (wpAny_bind (wpAny_loadPart hoe (wpAny_bind ((looks_clsIn XK hcd).here (s:={ s with toks:=s.toks + 1 }) ?_))))))
  refine rwG hd' ?_
  induction hp with
  | first h1 h2=>
   rw [hd] at h1;cases h1
   have R₁:=(R.tok (s.toks + 1)).pushS (tk:=s.toks + 1) emptyDict (x:=.dict []) (.dict (l:=[]) (n:=0) ⟨rfl,rfl,rfl⟩ rfl .nil (by simp))
   have sz:=R.size
   have ne:s.heap.objs.size≠e:=fun q=>by rw [q,hd] at sz;cases sz.2.1
   have he₁:=Heap.get?_push_of_some emptyDict hoe
   have he₂:=Heap.get?_update_self (fun o=>{ cls:=o.cls,dict:=some s.heap.objs.size,data:=o.data,slots:=o.slots }) he₁ rfl
   have R₂:=R₁.upd (tk:=s.toks + 1) (h':=(s.heap.push emptyDict).update e fun o=>{ cls:=o.cls,dict:=some s.heap.objs.size,data:=o.data,slots:=o.slots }) (x':=.exc i (some s.heap.objs.size)) (fun b o hb hbo=>(Heap.get?_update_other _ _ (Ne.symm hb)).trans hbo)
    ((Sto.at_ne (Ne.symm ne)).trans hd) he₂ (.exc q1 q2)
   rw [Sto.set_comm ne] at R₂
   refine wpAny_bind (wpAny_alloc (wpAny_bind (wpAny_update he₁ (wpAny_pure ?_))))
   refine storeDict_ok R₂ Sto.at_set (by simp) V fun s' R₃=>?_
   rw [Sto.set_set] at R₃
   exact h _ _ R₃ (h2 _ sz.2.1 ne)
  | more h1 h2 h3 h4=>
   rw [hd] at h1;cases h1
   refine wpAny_pure ?_
   exact storeDict_ok (R.tok (s.toks + 1)) h2 h3 V fun s' R₃=>h _ _ R₃ h4
theorem exc_meth {A:Around} {F:Value→Shared→Prop} {o:Expr} {name:Str} {apos pos:Pos} {args:List Expr} {env:Env} {Q:Value→Shared→Prop}
  (hbase:attributeBase o name env (eval o env)=eval o env)
  (hfew:((backTo pos (starEach args env)).all (fun x=>!x.1)&&(backToKw pos (keywordEach [] env)).all (fun x=>x.1.isSome)
   &&decide (args.length + ([]:List Keyword).length + (if ([]:List Keyword).isEmpty then 0 else 1) < 30))=true)
  (hline:(apos.endLine==pos.line)=true)
  (h:wpAny (M G) A (eval o env) (fun ov s₁=>∀pl,wpAny (M G) A (getMethod ov name pl) (fun p s₂=>wpAny (M G) A (callWith pos p.1 p.2 (backTo pos (starEach args env)) []) Q F s₂) F s₁) F s):
  wpAny (M G) A (eval (.Call (.Attribute o name apos) args [] pos) env) Q F s:=by
 rewrite [arm_eval_Call];refine rwG hbase ?_
 refine wpAny_bind (wpAny_mono h (fun ov s₁ h₁=>wpAny_bind (wpAny_standAt ?_)) fun _ _ e=>e)
 have hform:methodCallForm (args.length + ([]:List Keyword).length) (backTo pos (starEach args env)) (backToKw pos (keywordEach [] env))=true:=hfew
 have hpos:methodCallPos true o env apos pos=pure pos:=by unfold methodCallPos;exact if_pos hline
 unfold methodCall
 refine rwG hform ?_
 refine wpAny_bind (wpAny_holding ?_)
 refine wpAny_mono (h₁ _) (fun p s₂ h₂=>?_) fun _ _ e=>e
 exact wpAny_bind (wpAny_of_eq hpos h₂)
theorem WE.adaInit {np apos pos:Pos} {args:List Expr} {Q:D→Sto→Prop} (hk:k.sc.names.lookup (S_ "AdaError")=some .globalImplicit)
  (h:WA G k Γ σ args (fun ds σ₁=>WC G k.n (.fn 1 1) ds σ₁ Q E) E)
  (hbase:∀env,attributeBase (.Name (S_ "AdaError") np) "__init__" env (eval (.Name (S_ "AdaError") np) env)=eval (.Name (S_ "AdaError") np) env:=by intro _;rfl)
  (hfew:∀env,((backTo pos (starEach args env)).all (fun x=>!x.1)&&(backToKw pos (keywordEach [] env)).all (fun x=>x.1.isSome)
   &&decide (args.length + ([]:List Keyword).length + (if ([]:List Keyword).isEmpty then 0 else 1) < 30))=true:=by intro _;rfl)
  (hline:(apos.endLine==pos.line)=true:=by rfl) (hp:∀env,(backTo pos (starEach args env)).any (·.1)=false:=by intro _;rfl):
  WE G k Γ σ (.Call (.Attribute (.Name (S_ "AdaError") np) "__init__" apos) args [] pos) Q E:=fun X hX φ s R=>by
 have hg:(S_ "AdaError",1)∈excTab:=.head _
 refine ex02 (G.excs _ hg) ?_;intro g1 g2
 refine ex03 G.adaInit ?_;intro a1 a2 a3
 refine exc_meth (hbase _) (hfew _) hline ?_
 refine then_ ((WE.clsn (Q:=fun d σ'=>d=.cls 1∧σ'=σ) (i:=1) (by decide) hk (by decide) ⟨rfl,rfl⟩:WE G k Γ σ (.Name (S_ "AdaError") np) (fun d σ'=>d=.cls 1∧σ'=σ) E) X hX φ s R) (fun φ₁ σ₁ f fv s₁ l₁ R₁ V₁ q=>?_) fun _ _ x=>x
 refine ex02 q ?_;clear q;rintro rfl rfl
 obtain rfl:=V₁.inv
 intro pl
 refine method_cls (G.X.keeps R₁.base) a1 (cls_value (G.X.keeps R₁.base) a2 a3 rfl ?_)
 have R₂:=R₁.tok (s₁.toks + 1)
 have V₂:VR G φ₁ (.ref (G.fa 1 1)) (.fn 1 1):=.fn 1 1 (g2.mono R₁.core.base)
 refine callWith_of (P:=fun hp=>∀a o,φ₁ a=some o→hp.get? a=some o) (by rw [hp];rfl) ((show Callee (.fn 1 1) from trivial).keep V₂ R₁.core.base) (evalArgs_any (hp _) ?_)
 refine thVs (h pos X hX φ₁ _ R₂) (fun vs s₂ φ₂ σ₂ ds l₂ R₂ W q₂=>?_) fun _ _ x=>x.le l₁
 refine ⟨fun a o e=>R₂.core.frz _ _ (l₂ a o e),?_⟩
 exact wpAny_mono (q₂.use (n:=k.n) hX R₂ (V₂.mono l₂) W) (fun _ _ x=>x.le (l₁.trans l₂)) fun _ _ x=>x.le (l₁.trans l₂)
theorem exc_method {A:Around} {pl:Sem Bool} {Q:Value×List Value→Shared→Prop} {F:Value→Shared→Prop} (X:G.K.In s.heap) (h:Q (.builtin "Exception.__init__",[]) { s with toks:=s.toks + 1 }):wpAny (M G) A (getMethod (.type "Exception") "__init__" pl) Q F s:=by
 have ht:typeOf (.type "Exception")=pure (.type "type"):=by kernel_rfl
 have hs:Manifest.isStub "Exception"=false:=by decide +kernel
 have hstub:opaqueClassAbove (.type "Exception")=pure none:=by unfold opaqueClassAbove;dsimp only;refine rwG hs ?_;rfl
 have L0:Looks (M G) s.heap (typeOf (.type "Exception")) (.type "type"):=Looks.of_pure ht
 have hg:findIn G.K (.type "type") "__getattribute__"=some (some (.builtin "type.__getattribute__")):=type_tga
 unfold getMethod specialOf
 refine wpAny_bind (wpAny_bind (L0.here ((looks_findIn X hg).here ?_)))
 dsimp only
 refine rwG (if_pos canon_tga) ?_
 refine wpAny_bind (wpAny_mono (Q:=fun v=>Q (v,[])) (E:=F) ?_ (fun _ _ z=>wpAny_pure z) fun _ _ z=>z)
 have LO:Looks (M G) s.heap (opaqueClassAbove (.type "Exception")) none:=Looks.of_pure hstub
 refine cls_open X LO L0 hg (looks_hook X (r:=none) (by rfl)) (by refine (?_:subIn G.K _ _=_);rfl) G.exInit
  (wpAny_pure (by refine (?_:wpAny _ _ (handedOut (.builtin "Exception.__init__")) _ _ _);refine rwG (handedOut_of rfl) ?_;exact wpAny_pure h))
end
end Mine
end
section
open PySem PySem.W
namespace Mine
set_option backward.match.sparseCases false
variable {G:Glob}
section
variable {prog:Program} {w:World} {A:Around} {h:Heap} {g:Array GenState} {d:Drawn} {t:Nat} {os:OsState}
variable {nm q:Str} {C N:Addr} {bs bm:List Value} {hdct:Bool} {sn:List Str} {sub:List Value} {ab:Bool} {col:Option Bool} {dd:Option Addr} {k0 k1 k2 k3 k5:Option Value} {newId:String}
theorem exc_check_init {M:Model} {E:Value→Shared→Prop} (hB:bm.contains (.type "Exception")=true) {e:Addr} {oe:Obj} {rest:List Value} {Q:Unit→Shared→Prop}
  (hC:h.get? C=some (excClassObj nm q C N bs bm hdct sn sub ab col dd k0 k1 k2 k3 k5 newId)) (he:h.get? e=some oe) (hcls:oe.cls=.ref C) (hq:Q () ⟨h,g,d,t,os⟩):
  wpAny M A (checkBuiltinCall "Exception.__init__" ⟨.ref e::rest,[]⟩) Q E ⟨h,g,d,t,os⟩:=by
 have F:=PySem.F.excBase_Exception
 have hcB:(Value.ref C::bm).contains (.type "Exception")=true:=by (refine rwG List.contains_cons ?_;refine rwG hB ?_;rewrite [Bool.or_true];rfl)
 have hshort:=F.noStar
 simp only [checkBuiltinCall,F.initKind,F.initSplit,F.initRow]
 repeat (first | (with_reducible refine wpAny_loadPart_at he ?_;refine rwG hcls ?_) | with_reducible refine wpAny_loadPart_at hC ?_ | (with_reducible refine wpAny_isSubtype_exc hC ?_;refine rwG hcB ?_) | wp_step)
 refine wpAny_onRaise ?_
 rw [show ∀(a b:String) (n:Nat),Bind.check ⟨.positional,"*","Exception",.self,[⟨"args",.varPos,false⟩]⟩ a b n (List.map (fun x=>x.fst) ({ pos:=Value.ref e::rest }:Args).kw)=pure () from
  fun a b n=>check_star_args _ _ _ _ _ _]
 exact wpAny_pure hq
theorem exc_init_call {E:Value→Shared→Prop} (hB:bm.contains (.type "Exception")=true) {e:Addr} {oe:Obj} {vs:Array Value} {v0 x:Value} {Q:Value→Shared→Prop}
  (hC:h.get? C=some (excClassObj nm q C N bs bm hdct sn sub ab col dd k0 k1 k2 k3 k5 newId)) (he:h.get? e=some oe) (hcls:oe.cls=.ref C) (hd:oe.data=.fields vs) (h0:vs[0]?=some v0)
  (hq:Q .none ⟨(h.push { cls:=.type "tuple",data:=.seq [x].toArray }).update e (Obj.mapFields (·.setIfInBounds 0 (.ref h.objs.size))),g,d,t,os⟩):
  wpAny (model prog w) A (call (.builtin "Exception.__init__") [.ref e,x]) Q E ⟨h,g,d,t,os⟩:=by
 have F:=PySem.F.excBase_Exception
 refine wpAny_call (codeAny_call_builtin F.init.plain F.initEntry (exc_check_init hB hC he hcls ?_))
 have he₁:=Heap.get?_push_of_some { cls:=.type "tuple",data:=.seq [x].toArray } he
 refine (?_:wpAny _ _ (newTuple [x] >>= fun t=>Builtin.BaseException.bexcPut (.ref e) 0 t >>= fun _=>ret .none) _ _ _)
 unfold newTuple
 refine wpAny_bind (wpAny_newObj_type ?_ (by refine (?_:[x].toArray.size≤sizeLine);refine rwG sizeLine_eq ?_;simp))
 unfold Builtin.BaseException.bexcPut
 refine wpAny_bind (wpAny_bind (wpAny_field he₁ hd h0 (wpAny_bind (wpAny_setField he₁ hd (Array.getElem?_eq_some_iff.mp h0).1 ?_))))
 have fin:wpAny (model prog w) A.in1 (ret .none) (fun fin s'=>match fin with
   | .done f=>(match (Except.ok f:Result) with | .ok (.ret v)=>Q v s' | .ok _=>False | .error e=>E e s')
   | .again c'=>c'.quiet=true∧codeAny (model prog w) A c' (fun r s'=>match r with | .ok (.ret v)=>Q v s' | .ok _=>False | .error e=>E e s') s') (fun e s'=>(match (Except.error e:Result) with | .ok (.ret v)=>Q v s' | .ok _=>False | .error e=>E e s'))
   ⟨(h.push { cls:=.type "tuple",data:=.seq [x].toArray }).update e (Obj.mapFields (·.setIfInBounds 0 (.ref h.objs.size))),g,d,t,os⟩:=wpAny_pure hq
 cases v0<;>first | exact wpAny_pure fin | exact wpAny_letGo fin
inductive RaiseB (E:Value→Shared→Prop) (vs:Array Value) (v:Value) (s₁:Shared):Prop
 | mk (e:Addr) (oe:Obj) (C:Addr) (nm q:Str) (N:Addr) (bs bm:List Value) (hdct:Bool) (sn:List Str) (sub:List Value) (ab:Bool) (col:Option Bool) (dd:Option Addr) (k0 k1 k2 k3 k5:Option Value) (newId:String):v=.ref e→
  s₁.heap.get? C=some (excClassObj nm q C N bs bm hdct sn sub ab col dd k0 k1 k2 k3 k5 newId)→bm.contains (.type "BaseException")=true→s₁.heap.get? e=some oe→oe.cls=.ref C→oe.data=.fields vs→vs[1]?=some .none→E (.ref e) s₁→RaiseB E vs v s₁
theorem exc_raise {E:Value→Shared→Prop} {s:Shared} {env:Env} {x:Sem Value} {Q:Flow→Shared→Prop} (hh:A.handled=none)
  (hx:wpAny (model prog w) A x (fun v s₁=>∃vs,RaiseB E vs v s₁) E s):
  wpAny (model prog w) A (raiseStmt env (some x) none) Q E s:=by
 unfold raiseStmt
 refine wpAny_bind (wpAny_mono hx (fun v s₁ h₁=>?_) fun _ _ x=>x)
 refine ex11 h₁ ?_;clear h₁;rintro vs ⟨e,oe,C,nm,q,N,bs,bm,hdct,sn,sub,ab,col,dd,k0,k1,k2,k3,k5,newId,rfl,hC,hb,he,hcls,hd,h1,hE⟩
 have hcB:(Value.ref C::bm).contains (.type "BaseException")=true:=by (refine rwG List.contains_cons ?_;refine rwG hb ?_;rewrite [Bool.or_true];rfl)
 obtain ⟨hp,g,d,tk,os⟩:=s₁
 obtain ⟨c,dx,dt,sl⟩:=oe
 dsimp only at hcls hd
 subst hcls hd
 repeat (first | with_reducible refine wpAny_loadPart_at he ?_ | with_reducible refine wpAny_loadPart_at hC ?_ | (with_reducible refine wpAny_isSubtype_exc hC ?_;refine rwG hcB ?_) | wp_step)
 refine rwG h1 ?_
 refine wpAny_pure ?_
 refine rwG (if_neg (by decide)) ?_
 exact wpAny_pure (wpAny_raiseNew_none hh hE)
end
end Mine
end
section
open PySem PySem.W PySem.Calls PyProof.Rows
namespace Mine
set_option backward.match.sparseCases false
variable {G:Glob}
section
variable {prog:Program} {w:World} {A:Around} {E:Value→Shared→Prop} {s:Shared} {K:Frag} {x C:Addr} {ox:Obj} {od:Option Obj} {name:Str} {expr:Bool} {Q:Value→Shared→Prop}
theorem get_valueX {v:Value} (X:K.In s.heap) (I:InstAt s.heap x ox C od) (hga:findIn K (.ref C) "__getattribute__"=some (some (.builtin "BaseException.__getattribute__"))) (hgk:findIn K (.ref C) "__getattr__"=some none)
  (hsub:subIn K (.ref C) (.type "BaseException")=some true) (hf:findObj K C od name=some (.value v)) (hh:handedIn v=true) (h:Q v { s with toks:=s.toks + 1 }):wpAny (model prog w) A (getAttr (.ref x) name expr) Q E s:=by
 have L0:=I.type (M:=model prog w)
 have L1:=looks_findIn (M:=model prog w) X hga
 refine wpAny_bind (wpAny_mkText (wpAny_holding (wpAny_bind (L0.at (wpAny_bind (L1.at ?_))))))
 dsimp only
 rw [show (onTheHeap (Value.ref C)&&Value.builtin "BaseException.__getattribute__"==Value.builtin "object.__getattribute__")=false from by rw [show (Value.builtin "BaseException.__getattribute__"==Value.builtin "object.__getattribute__")=false from by decide +kernel,Bool.and_false],if_neg (by decide)]
 refine wpAny_bind ((looks_findIn (M:=model prog w) X hgk).at (wpAny_bind (wpAny_attempt (wpAny_holding ?_))))
 unfold callGetattribute
 rw [show (expr&&onTheHeap (Value.builtin "BaseException.__getattribute__"))=false from Bool.and_false _,if_neg (by decide)]
 unfold boundAndCalled
 rw [PySem.F.excAttr_ValueError.ga.bind]
 refine wpAny_bind (wpAny_pure (wpAny_call (codeAny_call_builtin PySem.F.excAttr_ValueError.ga.plain PySem.F.entry_bexc_ga ?_)))
 refine @check_slot (model prog w) _ _ { s with toks:=s.toks + 1 } "BaseException.__getattribute__" "BaseException" "__getattribute__" (.ref x) [.str name s.toks] [] _ (by decide +kernel) (by decide +kernel) (L0.andThen (looks_subIn X hsub)) (PySem.F.args_bexc_ga (.ref x) (.str name s.toks)) ?_
 have L2:=looks_find (M:=model prog w) X I hf
 refine wpAny_bind (wpAny_pure (wpAny_bind (wpAny_pure (wpAny_bind (L0.at (wpAny_bind (L2.at ?_)))))))
 refine wpAny_pure ?_
 refine (?_:wpAny _ _ (handedOut v) _ _ _)
 rw [handedOut_of hh];exact wpAny_pure h
end
section
variable {k:Sk} {Γ:Loc} {σ:Sto} {E:Exn→Sto→Prop} {X:Cx} {φ φ':Fz} {s:Shared}
theorem exc_data {o:Obj} {i:Nat} {dx:Option Addr} (O:OR G φ (.exc i dx) o):∃vs:Array Value,o={ cls:=.ref (G.cad i),dict:=dx,data:=.fields vs }∧vs[1]?=some .none∧vs.size=6:=by
 exact O.inv
theorem WE.excInit {np apos pos:Pos} {args:List Expr} {Q:D→Sto→Prop} (hk:k.sc.names.lookup (S_ "Exception")=some .globalImplicit)
  (h:WA G k Γ σ args (fun ds σ₁=>∃e i j dx d,ds=[.ref e,d]∧(i=2∧j=4∨i=4∧j=2)∧σ₁ e=some (.exc i dx)∧Q .none σ₁) E)
  (hbase:∀env,attributeBase (.Name (S_ "Exception") np) "__init__" env (eval (.Name (S_ "Exception") np) env)=eval (.Name (S_ "Exception") np) env:=by intro _;rfl)
  (hfew:∀env,((backTo pos (starEach args env)).all (fun x=>!x.1)&&(backToKw pos (keywordEach [] env)).all (fun x=>x.1.isSome)
   &&decide (args.length + ([]:List Keyword).length + (if ([]:List Keyword).isEmpty then 0 else 1) < 30))=true:=by intro _;rfl)
  (hline:(apos.endLine==pos.line)=true:=by rfl) (hp:∀env,(backTo pos (starEach args env)).any (·.1)=false:=by intro _;rfl):
  WE G k Γ σ (.Call (.Attribute (.Name (S_ "Exception") np) "__init__" apos) args [] pos) Q E:=fun X hX φ s R=>by
 refine exc_meth (hbase _) (hfew _) hline ?_
 refine blt_load hX R (v:=.type "Exception") (by decide) hk (by decide) ?_
 intro pl
 refine exc_method (G.X.keeps R.base) ?_
 have R₂:=R.tok (s.toks + 1)
 refine Calls.callWith_builtin (hp _) (evalArgs_any (hp _) ?_)
 refine thVs (h pos X hX φ _ R₂) (fun vs s₂ φ₂ σ₂ ds l₂ R₂ W q₂=>?_) fun _ _ x=>x
 obtain ⟨e,i,j,dx,d,rfl,hij,he,q⟩:=q₂
 refine ex23 (two W) ?_;rintro v w rfl V W'
 obtain rfl:=V.inv
 refine ex02 (G.excCls i j hij) ?_;rintro ⟨nm,qn,N,bs,bm,hdct,sn,sub,ab,col,dd,k0,k1,k2,k3,k5,mN,c1,c2,c3,c4,c5,c6,c7,c8,c9⟩ _
 obtain ⟨oe,hoe,Oe⟩:=R₂.store he
 refine ex13 (exc_data Oe) ?_;rintro ws rfl w1 w2
 obtain ⟨hh,g,dr,t,os⟩:=s₂
 have h0:ws[0]?=some ws[0]:=Array.getElem?_eq_getElem (by lia)
 refine exc_init_call c4 (R₂.base _ _ c1) hoe rfl rfl h0 ?_
 have R₃:=R₂.keeps (tk:=t) (h':=hh.push { cls:=.type "tuple",data:=.seq [w].toArray }) fun _ _ x=>Heap.get?_push_of_some _ x
 have he₃:=Heap.get?_push_of_some { cls:=.type "tuple",data:=.seq [w].toArray } hoe
 have he₄:=Heap.get?_update_self (Obj.mapFields (·.setIfInBounds 0 (.ref hh.objs.size))) he₃ rfl
 have R₄:=R₃.upd (tk:=t) (h':=(hh.push { cls:=.type "tuple",data:=.seq [w].toArray }).update e (Obj.mapFields (·.setIfInBounds 0 (.ref hh.objs.size)))) (x':=.exc i dx) (fun b o hb hbo=>(Heap.get?_update_other _ _ (Ne.symm hb)).trans hbo) he he₄
  (.exc (vs:=ws.setIfInBounds 0 (.ref hh.objs.size)) (by simp [w1]) (by simp [w2]))
 have e1:σ₂.set e (.exc i dx)=σ₂:=by
  funext b;unfold Sto.set;split
  ·rename_i z;(refine rwG z ?_;refine rwG he ?_;rfl)
  ·rfl
 rw [e1] at R₄
 exact ⟨φ₂,σ₂,_,l₂,R₄,.none,q⟩
theorem free_of_store (R:Real G X φ Γ σ s) {a:Addr} {x:AObj} (h:σ a=some x):X.held.free a:=fun p hp q=>by
 have:=(R.core.holds p hp).2.1
 rw [q,h] at this;cases this
theorem Exn.other:∀x:Exn,∃j,Exn.idx x=2∧j=4∨Exn.idx x=4∧j=2
 | .ada=>⟨4,.inl ⟨rfl,rfl⟩⟩
 | .fin=>⟨2,.inr ⟨rfl,rfl⟩⟩
inductive RaiseO (σ:Sto) (E:Exn→Sto→Prop) (d:D):Prop
 | mk (a:Addr) (x:Exn) (dx:Addr) (fs:List (Str×D)):d=.ref a→σ a=some (.exc (Exn.idx x) (some dx))→σ dx=some (.dict fs)→(x=.ada→(S_ "word",D.str (S_ "program_error"))∈fs)→E x ((σ.del dx).del a)→RaiseO σ E d
theorem W1.raise {e:Expr} {pos:Pos} {Q:Out→Loc→Sto→Prop}
  (h:WE G k Γ σ e (fun d σ₁=>RaiseO σ₁ E d) E):
  W1 G k Γ σ (.Raise (some e) none pos) Q E:=fun X hX φ s R=>by
 rw [arm_exec_Raise]
 refine wpAny_bind (wpAny_standAt ?_)
 refine (?_:wpAny _ _ (raiseStmt X.env (some (do let v←eval e X.env;standAt pos;pure v)) none) _ _ _)
 refine exc_raise hX.handled (wpAny_bind (then_ (h X hX φ s R) (fun φ₁ σ₁ d v s₁ l₁ R₁ V q=>wpAny_bind (wpAny_standAt (wpAny_pure ?_))) fun _ _ x=>x))
 obtain ⟨a,x,dx,fs,rfl,ha,hdx,hw,q⟩:=q
 obtain rfl:=V.inv
 refine ex11 x.other ?_;intro j hij
 refine ex02 (G.excCls _ j hij) ?_;rintro ⟨nm,qn,N,bs,bm,hdct,sn,sub,ab,col,dd,k0,k1,k2,k3,k5,mN,c1,c2,c3,c4,c5,c6,c7,c8,c9⟩ _
 obtain ⟨oe,hoe,Oe⟩:=R₁.store ha
 obtain ⟨od,hod,Od⟩:=R₁.store hdx
 refine ex13 (exc_data Oe) ?_;rintro ws rfl w1 w2
 refine ⟨ws,a,_,G.cad (Exn.idx x),nm,qn,N,bs,bm,hdct,sn,sub,ab,col,dd,k0,k1,k2,k3,k5,_,rfl,R₁.base _ _ c1,c5,hoe,rfl,rfl,w1,?_⟩
 have ne:dx≠a:=fun z=>by rw [z,ha] at hdx;cases hdx
 refine ex02 (R₁.freeze hdx hod) ?_;intro le R₂
 have R₃:=R₂.forget (σ':=(σ₁.del dx).del a) fun b y hb=>by
  unfold Sto.del at hb ⊢
  split at hb
  ·cases hb
  ·exact hb
 obtain ⟨m,hn,_⟩:=R₃.ns
 refine ⟨_,_,x,l₁.trans le,⟨R₃.core,R₃.lf,R₃.ls,⟨m,hn⟩,a,_,ws,rfl,⟨hoe,rfl,rfl,⟨(set_ne (Ne.symm ne)).trans (R₁.core.sto _ _ ha).1,by unfold Sto.del;(refine rwG (if_pos rfl) ?_;rfl)⟩,free_of_store R₁ ha,fun hx=>?_⟩,.inl w1⟩,q⟩
 refine ex24 Od.inv ?_;intro fl fn f1 f2 f3 f4
 focus
  exact ⟨dx,od,_,_,fs,rfl,rfl,set_self,f1,f2,by simpa using f3.mono le,hw hx,f4⟩
noncomputable def HB (G:Glob) (A:Around) (env:Env) (name:Option Str) (pos:Pos) (Q:Flow→Shared→Prop) (F:Value→Shared→Prop) (r:Result) (s₂:Shared):Prop:=match r with
 | .ok f=>(match name with
  | none=>Q f s₂
  | some n=>wpAny (M G) A (do bindName env n .none;unbindBehindTheSuite env n pos) (fun _ s₃=>Q f s₃) F s₂)
 | .error x=>cameBackBy (M G) A env F x s₂
theorem hb_test {v C:Value} {b:Bool} {A:Around} {env:Env} {t:Expr} {name:Option Str} {body:List Stmt} {pos:Pos} {rest:List ExceptHandler} {Q:Flow→Shared→Prop} {F:Value→Shared→Prop} (nb:v≠byPass)
  (hn:∀{Z F':Value→Shared→Prop},Z C s→wpAny (M G) (A.mark (some v)) (eval t env) Z F' s) (hx:Looks (M G) s.heap (excMatches v C) b)
  (h:bif b then codeAny (M G) (A.mark (some v)) (.handlers v [.ExceptHandler none name body pos] env) (HB G A env name pos Q F) s else wpAny (M G) A (handleBy v env rest) Q F s):
  wpAny (M G) A (handleBy v env (.ExceptHandler (some t) name body pos::rest)) Q F s:=wpAny_handleBy_cons (codeAny_handlers_test (hn (hx.here (by cases b with | true=>exact h | false=>exact h)))) nb
theorem RealX.base {x:Exn} {e:Addr} {fl:Value} (R:RealX G X φ σ x e fl s) (b:Addr) (o:Obj) (h:G.h₀.get? b=some o):s.heap.get? b=some o:=R.core.frz _ _ (R.core.base _ _ h)
theorem RealX.typ {x:Exn} {e:Addr} {fl:Value} (R:RealX G X φ σ x e fl s):Looks (M G) s.heap (typeOf (.ref e)) (.ref (G.cad x.idx)):=by
 obtain ⟨oe,vs,B,_⟩:=R.exc
 refine (Looks.ld (part:=none) B.at_).andThen ?_
 refine rwG B.cls ?_;exact .now
theorem excName (hX:CxOk k X) {A:Around} {z:Str} {i:Nat} {p:Pos} {Z F:Value→Shared→Prop} (kb:∀b o,G.h₀.get? b=some o→s.heap.get? b=some o) (hz:(z,i)∈excTab) (hk:k.sc.names.lookup z=some .globalImplicit) (hd:(z==S_ "__debug__")=false)
  (h:Z (.ref (G.cad i)) s):wpAny (M G) A (eval (.Name z p) X.env) Z F s:=
 Name_function_global (by refine rwG hX.scope ?_;exact hX.kind) (by refine (?_:X.env.scope.names.lookup _=_);refine rwG hX.scope ?_;exact hk) (loadGlobal_global (mg:=G.mg) (by refine rwG hX.globals ?_;exact G.nsG.keeps kb) (G.excs _ hz).1 h) hd
theorem how_fin {e:Addr} {fl:Value} {A:Around} {y:Str} {kk:Nat} {p7 p8 p9:Pos} {Z:Result→Shared→Prop} (R:RealX G X φ σ .fin e fl s) (h:∀t s',Real G X φ [] σ s'→Z (.ok (.ret (.str y t))) s'):
  codeAny (M G) A (.handlers (.ref e) [.ExceptHandler none none [.Return (some (.Constant (.str y) kk p7)) p8] p9] X.env) Z s:=by
 refine codeAny_handlers_suite (flight_ok (X:={ X with A:=A }) ⟨R.core,R.lf,R.ls,R.ns,R.exc⟩ none fun s₄ R₄=>?_)
 refine wpAny_execs_cons (wpAny_Return_some (Calls.Constant_str ?_))
 refine ex11 R₄.ns ?_;intro m hn
 exact h _ _ ⟨R₄.core.tok _,R₄.lf,R₄.ls,m,hn,fun p hp=>nomatch hp⟩
theorem how_ada (hX:CxOk k X) {e:Addr} {fl:Value} {A:Around} {fn:Str} {p2 p3 p4 p5:Pos} {Z:Result→Shared→Prop} (R:RealX G X φ σ .ada e fl s) (hfn:k.sc.names.lookup fn=some .local) (hdf:(fn==S_ "__debug__")=false)
  (h:∀t s' m,RealC G X.kept X.held φ σ s'→s'.heap.Ns X.env.locals m→Z (.ok (.ret (.str (S_ "program_error") t))) s'):
  codeAny (M G) A (.handlers (.ref e) [.ExceptHandler none (some fn) [.Return (some (.Attribute (.Name fn p2) (S_ "word") p3)) p4] p5] X.env) Z s:=by
 refine codeAny_handlers_suite_as (flight_ok (X:={ X with A:=A }) ⟨R.core,R.lf,R.ls,R.ns,R.exc⟩ none fun s₄ R₄=>?_)
 refine ex11 R₄.ns ?_;intro m hn
 have hkf:X.env.scope.kind=.function:=by refine rwG hX.scope ?_;exact hX.kind
 have hkx:X.env.kindOf fn=some .local:=by refine (?_:X.env.scope.names.lookup fn=_);refine rwG hX.scope ?_;exact hfn
 have hpl:(X.env.scope.kind==.class || (X.env.scope.kind==.module&&X.env.locals != X.env.globals))=false:=by (refine rwG hkf ?_);rfl
 obtain ⟨⟨oc,odd,odt,osl⟩,vs,⟨B1,B2,B3,B4,B5,B6⟩,_⟩:=R₄.exc
 have hne:=ns_ne hn B1 B3
 refine wpAny_storeName_local hkx hn (fun h' hn' hs=>?_) hpl
 have R₅:=R₄.core.ext (tk:=s₄.toks + 1) (fun b o hb hbo=>(hs.2 b hb).trans hbo) R₄.lf R₄.ls hX.lk hX.lh
 have hae:=(hs.2 e (Ne.symm hne)).trans B1
 obtain ⟨ed,od,l,n,es,w1,w2,w3,w4,w5,w6,w7,w8⟩:=B6 rfl
 refine ex12 (lookIn_of (o:=od) (l:=l.toList) (n:=n) (by (refine rwG w5 ?_;refine rwG Array.toArray_toList ?_;rfl)) w6 w8 w7) ?_;intro v hv W
 cases B2
 cases B3
 cases w1
 cases w2
 refine wpAny_execs_cons (wpAny_Return_some (Attribute_any_ (wpAny_Name (wpAny_loadName_local hkf hkx hn' (if_pos rfl) ?_) hdf) rfl))
 refine get_valueX (x:=e) (C:=G.cad 2) (G.X.keeps fun b o h=>R₅.frz _ _ (R₅.base _ _ h)) ⟨hae,rfl,rfl,R₅.frz _ _ w3⟩ G.word.1.1 G.word.1.2.1 G.word.1.2.2 (findObj_own G.word.2.2 G.word.2.1 rfl hv) W.handed ?_
 refine W.strE fun t=>?_
 exact h _ _ _ (R₅.tok (s₄.toks + 1 + 1)) hn'
theorem W1.how {body:List Stmt} {x1 x2 fn wd:Str} {p1 p2 p3 p4 p5 p6 p7 p8 p9 pos:Pos} {kk:Nat} {y:Str} {E₀:Exn→Sto→Prop} {Q:Out→Loc→Sto→Prop} (ht:k.top=true)
  (e1:x1=S_ "AdaRaise") (e2:x2=S_ "EndRun") (e3:wd=S_ "word") (hk1:k.sc.names.lookup x1=some .globalImplicit) (hk2:k.sc.names.lookup x2=some .globalImplicit) (hfn:k.sc.names.lookup fn=some .local) (hdf:(fn==S_ "__debug__")=false)
  (h:WS G k Γ σ body (fun o Γ' σ'=>match o with | .next=>Q .next Γ' σ' | o=>Q o Γ' σ') E₀)
  (ha:∀σ',E₀ .ada σ'→Q (.ret (.str (S_ "program_error"))) [] σ') (hf:∀σ',E₀ .fin σ'→Q (.ret (.str y)) [] σ'):
  W1 G k Γ σ (.Try body [.ExceptHandler (some (.Name x1 p1)) (some fn) [.Return (some (.Attribute (.Name fn p2) wd p3)) p4] p5,.ExceptHandler (some (.Name x2 p6)) none [.Return (some (.Constant (.str y) kk p7)) p8] p9] [] [] pos) Q E:=fun X hX φ s R=>by
 subst e1 e2 e3
 refine wpAny_Try_except (thS (h X hX φ s R) (fun f s₁ φ₁ σ₁ Γ₁ o l₁ R₁ O q=>?_) fun v s₁ qq=>?_)
 ·induction O with
  | next=>exact wpAny_execs_nil ⟨φ₁,σ₁,Γ₁,.next,l₁,R₁,.next,q⟩
  | brk=>exact ⟨φ₁,σ₁,Γ₁,.brk,l₁,R₁,.brk,q⟩
  | cont=>exact ⟨φ₁,σ₁,Γ₁,.cont,l₁,R₁,.cont,q⟩
  | ret V=>exact ⟨φ₁,σ₁,Γ₁,.ret _,l₁,R₁,.ret V,q⟩
 ·obtain ⟨φ₁,σ₁,x,l₁,R₁,q⟩:=qq
  refine note_ok hX ht R₁ fun e s₂ he R₂=>?_
  subst he
  refine flight_ok R₂ none fun s₃ R₃=>?_
  have nb:(Value.ref e)≠byPass:=by intro z;cases z
  refine ex03 G.exm ?_;intro m22 m42 m44
  have XK:=G.X.keeps R₃.base
  cases x with
  | fin=>
   refine hb_test nb (excName hX R₃.base (i:=2) (by decide) hk1 (by decide)) (exm_one XK R₃.typ m42) ?_
   refine hb_test nb (excName hX R₃.base (i:=4) (by decide) hk2 (by decide)) (exm_one XK R₃.typ m44) ?_
   exact how_fin R₃ fun t s' R'=>⟨φ₁,σ₁,[],.ret (.str y),l₁,R',.ret (.str _ _),hf σ₁ q⟩
  | ada=>
   refine hb_test nb (excName hX R₃.base (i:=2) (by decide) hk1 (by decide)) (exm_one XK R₃.typ m22) ?_
   refine how_ada hX R₃ hfn hdf fun t s' m R₅ hn'=>?_
   have hkx:X.env.kindOf fn=some .local:=by refine (?_:X.env.scope.names.lookup fn=_);refine rwG hX.scope ?_;exact hfn
   refine wpAny_nameGoes hkx hn' (by (refine rwG hX.scope ?_;refine rwG hX.kind ?_);rfl) fun h'' m'' hn'' hs''=>?_
   exact ⟨φ₁,σ₁,[],.ret (.str _),l₁,⟨R₅.ext (tk:=s'.toks + 1) (fun b o hb hbo=>(hs''.2 b hb).trans hbo) R₃.lf R₃.ls hX.lk hX.lh,R₃.lf,R₃.ls,m'',hn'',fun p hp=>nomatch hp⟩,.ret (.str _ _),ha σ₁ q⟩
end
end Mine
end
section
open PySem PySem.W PySem.Calls PyProof.Rows
namespace Mine
set_option backward.match.sparseCases false
variable {G:Glob}
mutual
noncomputable def litD:Expr→D
 | .Constant (.int i) _ _=>.int i
 | .Constant (.str s) _ _=>.str s
 | .Tuple es _ _=>.tup (litDs es)
 | _=>.none
noncomputable def litDs:List Expr→List D
 | []=>[]
 | e::es=>litD e::litDs es
end
noncomputable def litKey:Option Expr→Str
 | some (.Constant (.str s) _ _)=>s
 | _=>S_ ""
noncomputable def shapes:List (Str×D):=match stAt 6 0 with
 | .Assign _ (.Dict ks vs _) _=>(ks.map litKey).zip (vs.map litD)
 | _=>[]
noncomputable def leavingD:D:=match stAt 7 0 with
 | .Assign _ v _=>litD v
 | _=>.none
variable (G) in
structure Consts:Prop where
 sh:∃v,G.mg (S_ "SHAPES")=some v∧VR G G.h₀.get? v (.dct shapes)
 lv:∃v,G.mg (S_ "LEAVING")=some v∧VR G G.h₀.get? v leavingD
section
variable {k:Sk} {Γ:Loc} {σ:Sto} {E:Exn→Sto→Prop} {X:Cx} {φ φ':Fz} {s:Shared}
theorem WE.const {x:Str} {p:Pos} {d:D} {Q:D→Sto→Prop} (hv:∃v,G.mg x=some v∧VR G G.h₀.get? v d) (hk:k.sc.names.lookup x=some .globalImplicit) (hd:(x==S_ "__debug__")=false) (h:Q d σ):WE G k Γ σ (.Name x p) Q E:=fun X hX φ s R=>by
 refine ex12 hv ?_;clear hv;intro v h1 V
 refine Name_function_global (by refine rwG hX.scope ?_;exact hX.kind) (by refine (?_:X.env.scope.names.lookup x=_);refine rwG hX.scope ?_;exact hk) (loadGlobal_global (mg:=G.mg) (by refine rwG hX.globals ?_;exact G.nsG.keeps R.base) h1 ?_) hd
 exact .now R (V.mono R.core.base) h
theorem WE.neg {x:Expr} {p:Pos} {Q:D→Sto→Prop} (h:WE G k Γ σ x (fun d σ₁=>∃i,d=.int i∧Q (.int (-i)) σ₁) E):WE G k Γ σ (.UnaryOp .USub x p) Q E:=fun X hX φ s R=>by
 refine wpAny_UnaryOp (then_ (h X hX φ s R) (fun φ₁ σ₁ d v s₁ l₁ R₁ V q=>?_) fun _ _ x=>x)
 refine ex12 q ?_;clear q;rintro i rfl q
 refine ex11 V.inv ?_;rintro t rfl
 exact PyProof.Rows.neg_int ⟨φ₁,σ₁,_,l₁,R₁.tok _,.int _ _,q⟩
theorem CallB.lenS {x:Str} {Q:D→Sto→Prop} (hz:x.length≤sizeLine) (q:Q (.int x.length) σ):CallB G k σ (.builtin "len") [.str x] Q:=fun X hX Γ φ s R vs W F=>by
 refine ex12 (one W) ?_;rintro v rfl V
 refine ex11 V.inv ?_;rintro t rfl
 have e:(x.length:Int) < 2 ^ 63:=by rw [sizeLine_eq] at hz;lia
 exact PyProof.Rows.len_str (by lia) (.now (R.tok _) (.int _ _) q)
theorem WX.post {t:Env→Sem Value} {Q Q':D→Sto→Prop} (h:WX G k Γ σ t Q' E) (hq:∀d σ,Q' d σ→Q d σ):WX G k Γ σ t Q E:=WE.conseq h hq fun _ _ x=>x
end
section
variable {k:Sk} {Γ:Loc} {σ:Sto} {E:Exn→Sto→Prop}
theorem SubR.tupAt {ds:List D} {i:Int} {d:D} (h0:0≤i) (h1:i < 2 ^ 40) (h:ds[i.toNat]?=some d):SubR σ (.tup ds) (.int i) d:=by
 refine ex11 (Int.eq_ofNat_of_zero_le h0) ?_;rintro j rfl
 have h:ds[j]?=some d:=h
 have hj:=(List.getElem?_eq_some_iff.mp h).1
 refine .tupI (j:=j) (by lia) (by lia) ?_ h
 unfold seqIndex?
 have:¬ (j:Int) < 0:=by lia
 simp [this,hj]
theorem SubR.tupLast {ds:List D} {d:D}:SubR σ (.tup (ds++[d])) (.int (-1)) d:=by
 refine .tupI (j:=ds.length) (by lia) (by lia) ?_ (by simp)
 unfold seqIndex?
 simp
 lia
theorem Then.next {rest:List Stmt} {Q:Out→Loc→Sto→Prop} (h:WS G k Γ σ rest Q E):Then G k rest Q E .next Γ σ:=h
theorem Then.ret {rest:List Stmt} {Q:Out→Loc→Sto→Prop} {d:D} (h:Q (.ret d) Γ σ):Then G k rest Q E (.ret d) Γ σ:=h
theorem Back.ret {Q:D→Sto→Prop} {d:D} (h:Q d σ):Back Q (.ret d) Γ σ:=h
theorem WAsg.new {x:Str} {p:Pos} {d:D} {Q:Loc→Sto→Prop} (hk:k.sc.names.lookup x=some .local) (hd:(x==S_ "__debug__")=false) (hf:(Γ.all fun q=>q.1 != x)=true) (h:Q ((x,d)::Γ) σ):WAsg G k Γ σ (.Name x p) d Q E:=
 WAsg.loc _ hk hd (fun q hq=>by
  rcases List.mem_cons.mp hq with rfl | hq
  ·exact .inl rfl
  ·have:=List.all_eq_true.mp hf q hq
   exact .inr ⟨hq,by simpa using this⟩) h
theorem WE.callD {x:Str} {np pos:Pos} {args:List Expr} {i:Nat} {Q:D→Sto→Prop} (hi:(x,i)∈defTab) (hk:k.sc.names.lookup x=some .globalImplicit) (hd:(x==S_ "__debug__")=false)
  (h:WA G k Γ σ args (fun ds σ₂=>WC G k.n (.fn i 0) ds σ₂ Q E) E)
  (hp:∀env,(backTo pos (starEach args env)).any (·.1)=false):WE G k Γ σ (.Call (.Name x np) args [] pos) Q E:=
 WE.call (WE.defn hi hk hd ⟨trivial,h⟩) (fun _=>rfl) hp
theorem WE.callC {x:Str} {np pos:Pos} {args:List Expr} {i:Nat} {Q:D→Sto→Prop} (hi:(x,i)∈clsTab) (hk:k.sc.names.lookup x=some .globalImplicit) (hd:(x==S_ "__debug__")=false)
  (h:WA G k Γ σ args (fun ds σ₂=>WC G k.n (.cls i) ds σ₂ Q E) E)
  (hp:∀env,(backTo pos (starEach args env)).any (·.1)=false):WE G k Γ σ (.Call (.Name x np) args [] pos) Q E:=
 WE.call (WE.clsn (List.mem_append_left _ hi) hk hd ⟨⟨_,List.mem_append_left _ hi,rfl⟩,h⟩) (fun _=>rfl) hp
theorem WE.callX {x:Str} {np pos:Pos} {args:List Expr} {i:Nat} {Q:D→Sto→Prop} (hi:(x,i)∈excTab) (hk:k.sc.names.lookup x=some .globalImplicit) (hd:(x==S_ "__debug__")=false)
  (h:WA G k Γ σ args (fun ds σ₂=>WC G k.n (.cls i) ds σ₂ Q E) E)
  (hp:∀env,(backTo pos (starEach args env)).any (·.1)=false):WE G k Γ σ (.Call (.Name x np) args [] pos) Q E:=
 WE.call (WE.clsn (List.mem_append_right _ hi) hk hd ⟨⟨_,List.mem_append_right _ hi,rfl⟩,h⟩) (fun _=>rfl) hp
theorem WE.callS {v sl:Expr} {sp pos:Pos} {args:List Expr} {Q:D→Sto→Prop} (h:WE G k Γ σ (.Subscript v sl sp) (fun f σ₁=>Callee f∧WA G k Γ σ₁ args (fun ds σ₂=>WC G k.n f ds σ₂ Q E) E) E)
  (hp:∀env,(backTo pos (starEach args env)).any (·.1)=false):WE G k Γ σ (.Call (.Subscript v sl sp) args [] pos) Q E:=WE.call h (fun _=>rfl) hp
theorem WE.mappend {o e:Expr} {apos pos:Pos} {Q:D→Sto→Prop} (h:WE G k Γ σ o (fun d σ₁=>∃a ds₀,d=.ref a∧σ₁ a=some (.list ds₀)∧WA G k Γ σ₁ [e] (fun xs σ₂=>∃x ds,xs=[x]∧σ₂ a=some (.list ds)∧ds.length≤sizeLine∧Q .none (σ₂.set a (.list (ds++[x])))) E) E)
  (hbase:∀env,attributeBase o (S_ "append") env (eval o env)=eval o env)
  (hfew:∀env,((backTo pos (starEach [e] env)).all (fun x=>!x.1)&&(backToKw pos (keywordEach [] env)).all (fun x=>x.1.isSome)
   &&decide ([e].length + ([]:List Keyword).length + (if ([]:List Keyword).isEmpty then 0 else 1) < 30))=true)
  (hline:(apos.endLine==pos.line)=true) (hp:∀env,(backTo pos (starEach [e] env)).any (·.1)=false):
  WE G k Γ σ (.Call (.Attribute o (S_ "append") apos) [e] [] pos) Q E:=by
 refine WE.meth PySem.F.plainAttrs_list PySem.F.slot_list_append PySem.F.type_list_append (WX.post h fun d σ₁ q=>?_) hbase hfew hline hp
 refine ex23 q ?_;clear q;rintro a ds₀ rfl ha q
 refine ⟨.lst ha,fun pos X hX φ s R=>thVs (q pos X hX φ s R) (fun vs s₁ φ₁ σ₂ xs l R₁ W qq=>⟨φ₁,σ₂,xs,l,R₁,W,?_⟩) fun _ _ x=>x⟩
 refine ex24 qq ?_;clear qq;rintro x ds rfl hb hz q
 exact CallB.append hb hz q
theorem WE.mupdate {o e:Expr} {apos pos:Pos} {Q:D→Sto→Prop} (h:WE G k Γ σ o (fun d σ₁=>∃a es₀,d=.ref a∧σ₁ a=some (.dict es₀)∧WA G k Γ σ₁ [e] (fun xs σ₂=>∃b es fs,xs=[.ref b]∧σ₂ a=some (.dict es)∧σ₂ b=some (.dict fs)∧a≠b∧((es++fs).map (·.1)).Nodup∧es.length + fs.length≤1000∧Q .none (σ₂.set a (.dict (es++fs)))) E) E)
  (hbase:∀env,attributeBase o (S_ "update") env (eval o env)=eval o env)
  (hfew:∀env,((backTo pos (starEach [e] env)).all (fun x=>!x.1)&&(backToKw pos (keywordEach [] env)).all (fun x=>x.1.isSome)
   &&decide ([e].length + ([]:List Keyword).length + (if ([]:List Keyword).isEmpty then 0 else 1) < 30))=true)
  (hline:(apos.endLine==pos.line)=true) (hp:∀env,(backTo pos (starEach [e] env)).any (·.1)=false):
  WE G k Γ σ (.Call (.Attribute o (S_ "update") apos) [e] [] pos) Q E:=by
 refine WE.meth PySem.F.plainAttrs_dict PySem.F.slot_dict_update PySem.F.type_dict_update (WX.post h fun d σ₁ q=>?_) hbase hfew hline hp
 refine ex23 q ?_;clear q;rintro a es₀ rfl ha q
 refine ⟨.dct ha,fun pos X hX φ s R=>thVs (q pos X hX φ s R) (fun vs s₁ φ₁ σ₂ xs l R₁ W qq=>⟨φ₁,σ₂,xs,l,R₁,W,?_⟩) fun _ _ x=>x⟩
 obtain ⟨b,es,fs,rfl,h1,h2,h3,h4,h5,q⟩:=qq
 exact CallB.update h1 h2 h3 h4 h5 q
noncomputable def LoopQ (I:Loc→Sto→Prop) (Q:Out→Loc→Sto→Prop) (o:Out) (Γ:Loc) (σ:Sto):Prop:=match o with
 | .next | .cont=>∃Γ₃,(∀p∈Γ₃,p∈Γ)∧I Γ₃ σ
 | .brk=>Q .next Γ σ
 | .ret v=>Q (.ret v) Γ σ
theorem LoopQ.next {I:Loc→Sto→Prop} {Q:Out→Loc→Sto→Prop} (Γ₃:Loc) (hs:∀p∈Γ₃,p∈Γ) (h:I Γ₃ σ):LoopQ I Q .next Γ σ:=⟨Γ₃,hs,h⟩
theorem W1.forL {α:Type} (enc:α→D) (xs:List α) {target iter:Expr} {body:List Stmt} {pos:Pos} {Q:Out→Loc→Sto→Prop} (I:List α→Loc→Sto→Prop) (ht:k.top=true)
  (h:WE G k Γ σ iter (fun d σ₁=>(d=.lst (xs.map enc)∨d=.tup (xs.map enc))∧I xs Γ σ₁) E)
  (hstep:∀a as Γ₀ σ₀,I (a::as) Γ₀ σ₀→WAsg G k Γ₀ σ₀ target (enc a) (fun Γ₁ σ₁=>WS G k Γ₁ σ₁ body (LoopQ (I as) Q) E) E) (hend:∀Γ₀ σ₀,I [] Γ₀ σ₀→Q .next Γ₀ σ₀)
  (hs:∀env x,foldedSetIterable iter env x=pure x):W1 G k Γ σ (.For target iter body [] pos) Q E:=by
 refine W1.for ht (fun ds Γ₀ σ₀=>∃as,ds=as.map enc∧I as Γ₀ σ₀) (WX.post h fun d σ₁ q=>?_) (fun d ds Γ₀ σ₀ q=>?_) (fun Γ₀ σ₀ q=>?_) hs
 ·refine ex02 q ?_;clear q;intro e q
  rcases e with rfl | rfl
  ·exact ⟨_,.lst,xs,rfl,q⟩
  ·exact ⟨_,.tup,xs,rfl,q⟩
 ·refine ex12 q ?_;clear q;intro as e q
  cases as with
  | nil=>cases e
  | cons a as=>
   cases e
   have:=hstep a as Γ₀ σ₀ q
   intro X hX φ s R v V
   refine thA (this X hX φ s R v V) (fun _ s₁ φ₁ σ₁ Γ₁ l R₁ w=>⟨φ₁,σ₁,Γ₁,l,R₁,WS.conseq w (fun o Γ' σ' z=>?_) fun _ _ z=>z⟩) fun _ _ z=>z
   cases o with
   | next=>(refine ex12 z ?_;clear z;intro Γ₃ a b);exact ⟨Γ₃,a,as,rfl,b⟩
   | cont=>(refine ex12 z ?_;clear z;intro Γ₃ a b);exact ⟨Γ₃,a,as,rfl,b⟩
   | brk=>exact z
   | ret v=>exact z
 ·refine ex12 q ?_;clear q;intro as e q
  cases as with
  | nil=>exact hend _ _ q
  | cons _ _=>cases e
end
theorem chr_beq {c k:Nat} {x:Str} (hx:x=⟨#[k]⟩):((⟨#[c]⟩:Str)==x)=decide (c=k):=by
 subst hx
 by_cases h:c=k
 ·subst h;simp
 ·refine rwG (decide_eq_false h) ?_;rewrite [beq_eq_false_iff_ne]
  intro e
  cases e
  exact h rfl
theorem WP.some {k:Sk} {Γ:Loc} {σ:Sto} {E:Exn→Sto→Prop} {e:Expr} {Q:D→Sto→Prop} (h:WE G k Γ σ e Q E):WP G k Γ σ (some e) Q E:=h
theorem WP.none {k:Sk} {Γ:Loc} {σ:Sto} {E:Exn→Sto→Prop} {Q:D→Sto→Prop} (h:Q .none σ):WP G k Γ σ none Q E:=h
theorem d_call_gens:(S_ "call_gens",37)∈defTab:=List.mem_of_getElem? (i:=23) rfl
theorem d_call_statement_gens:(S_ "call_statement_gens",38)∈defTab:=List.mem_of_getElem? (i:=24) rfl
theorem d_declaration_gens:(S_ "declaration_gens",52)∈defTab:=List.mem_of_getElem? (i:=36) rfl
theorem d_program_code:(S_ "program_code",53)∈defTab:=List.mem_of_getElem? (i:=37) rfl
theorem d_name_gens:(S_ "name_gens",66)∈defTab:=List.mem_of_getElem? (i:=46) rfl
theorem d_place_gens:(S_ "place_gens",73)∈defTab:=List.mem_of_getElem? (i:=53) rfl
theorem d_plain_gens:(S_ "plain_gens",86)∈defTab:=List.mem_of_getElem? (i:=64) rfl
theorem d_law_decls:(S_ "_law_decls",93)∈defTab:=List.mem_of_getElem? (i:=70) rfl
theorem d_law_sub:(S_ "_law_sub",94)∈defTab:=List.mem_of_getElem? (i:=71) rfl
theorem d_law_played:(S_ "_law_played",100)∈defTab:=List.mem_of_getElem? (i:=77) rfl
theorem d_law_program:(S_ "_law_program",107)∈defTab:=List.mem_of_getElem? (i:=84) rfl
theorem d_law_how:(S_ "_law_how",108)∈defTab:=List.mem_of_getElem? (i:=85) rfl
theorem b_range:(S_ "range",Value.type "range")∈bltTab:=List.mem_of_getElem? (i:=1) rfl
theorem k_Code:(S_ "Code",8)∈clsTab:=List.mem_of_getElem? (i:=0) rfl
theorem k_Gen:(S_ "Gen",15)∈clsTab:=List.mem_of_getElem? (i:=1) rfl
theorem k_Sub:(S_ "Sub",55)∈clsTab:=List.mem_of_getElem? (i:=2) rfl
end Mine
end
section
open PySem PySem.W PySem.Calls PyProof.Rows
namespace Mine
set_option genCtorIdx false
set_option backward.match.sparseCases false
variable {G:Glob}
inductive R where
 | v (i:Nat) | ci (i:Int) | cs (x:Str) | cn | cb (b:Bool) | gl (i:Nat) | sub (a b:R) | tup (es:R) | lstF (es:R) | lstN (es:R) | att (a:R) (x:Str)
 | bin (op:Operator) (a b:R) | addN (a b:R) | cmp (op:CmpOp) (a b:R) | neg (a:R) | dfn (x:Str) (i:Nat) (es:R) | cls (x:Str) (i:Nat) (es:R) | exc (x:Str) (i:Nat) (es:R) | blt (i:Nat) (es:R) | dyn (f g es:R)
 | me0 (m:Nat) (o:R) | me1 (m:Nat) (o e:R) | ifx (t a b:R) | slc (a b c:R) | no | fz (a:R) | raw (e:Expr) | lc (i:Nat) (caps:List Nat) (sc:Scope) (it elt:R) | nil | cons (e es:R) | and (ts:R) | or (ts:R)
 | expr (r:R) | asg (i:Nat) (r:R) | asgT (is:List Nat) (r:R) | asgA (o:R) (x:Str) (r:R) | asgI (o j r:R) | augN (i:Nat) (op:Operator) (r:R) | augA (o:R) (x:Str) (op:Operator) (r:R)
 | ret (r:R) | retN | pass | ifs (t a b:R) | for (i:Nat) (it b:R) | forT (is:List Nat) (it b:R) | raise (r:R) | rawS (s:Stmt) | whl (t b:R) | asgC (j i:Nat) (caps:List Nat) (sc:Scope) (it elt:R)
noncomputable def ps:Expr→Pos
 | .Name _ p | .Constant _ _ p | .Subscript _ _ p | .Tuple _ _ p | .List _ p | .Attribute _ _ p | .BinOp _ _ _ p | .Compare _ _ _ p | .Call _ _ _ p | .UnaryOp _ _ p | .IfExp _ _ _ p | .BoolOp _ _ p | .Slice _ _ _ p | .ListComp _ _ _ p=>p
 | _=>default
noncomputable def kk:Expr→Nat
 | .Constant _ k _ | .Tuple _ k _=>k
 | _=>0
noncomputable def kids:Expr→List Expr
 | .Subscript a b _=>[a,b]
 | .Tuple es _ _ | .List es _ | .BoolOp _ es _=>es
 | .Attribute a _ _ | .UnaryOp _ a _=>[a]
 | .BinOp l _ r _=>[l,r]
 | .Compare l _ cs _=>l::cs
 | .Call f as _ _=>f::as
 | .IfExp t a b _=>[t,a,b]
 | .ListComp e (⟨t,it,_,_⟩::_) _ _=>[e,t,it]
 | .Slice a b c _=>[a.getD default,b.getD default,c.getD default]
 | _=>[]
noncomputable def scOf:Expr→Scope
 | .ListComp _ _ s _=>s
 | _=>default
noncomputable def hdE:List Expr→Expr
 | e::_=>e
 | []=>default
noncomputable def tlE:List Expr→List Expr
 | _::es=>es
 | []=>[]
noncomputable abbrev k0 (x:Expr):Expr:=hdE (kids x)
noncomputable abbrev k1 (x:Expr):Expr:=hdE (tlE (kids x))
noncomputable abbrev k2 (x:Expr):Expr:=hdE (tlE (tlE (kids x)))
structure SP where
 p:Pos:=default
 v:Expr:=default
 t:Expr:=default
 a:List Stmt:=[]
 b:List Stmt:=[]
noncomputable def sp:Stmt→SP
 | .Expr e p | .Return (some e) p | .Raise (some e) _ p=>{ p:=p,v:=e }
 | .Assign ts v p=>{ p:=p,v:=v,t:=hdE ts }
 | .AugAssign t _ v p=>{ p:=p,v:=v,t:=t }
 | .If t a b p=>{ p:=p,v:=t,a:=a,b:=b }
 | .While t a _ p=>{ p:=p,v:=t,a:=a }
 | .For t it a _ p=>{ p:=p,v:=it,t:=t,a:=a }
 | .Return none p | .Pass p=>{ p:=p }
 | _=>{}
noncomputable def hdS:List Stmt→Stmt
 | e::_=>e
 | []=>.Pass default
noncomputable def tlS:List Stmt→List Stmt
 | _::es=>es
 | []=>[]
noncomputable def nth {α:Type}:List α→Nat→Option α
 | [],_=>none
 | x::_,0=>some x
 | _::xs,i + 1=>nth xs i
noncomputable def nmOf (ns:List Str) (i:Nat):Str:=(nth ns i).getD default
noncomputable def glN:Nat→Str
 | 0=>S_ "SHAPES"
 | _=>S_ "LEAVING"
noncomputable def bltN (i:Nat):Str:=((nth bltTab i).getD default).1
noncomputable def bltV (i:Nat):Value:=((nth bltTab i).getD default).2
noncomputable def metN:Nat→Str
 | 0=>S_ "append"
 | 1=>S_ "extend"
 | 2=>S_ "pop"
 | 3=>S_ "join"
 | _=>S_ "update"
noncomputable def metT:Nat→String
 | 0 | 1 | 2=>"list"
 | 3=>"str"
 | _=>"dict"
noncomputable def metI:Nat→String
 | 0=>"list.append"
 | 1=>"list.extend"
 | 2=>"list.pop"
 | 3=>"str.join"
 | _=>"dict.update"
theorem met_ok:∀m,PlainAttrs (metT m)∧Slot (metT m) (metN m) (metI m)∧typeOf (.builtin (metI m))=pure (.type "method_descriptor")
 | 0=>⟨PySem.F.plainAttrs_list,PySem.F.slot_list_append,PySem.F.type_list_append⟩
 | 1=>⟨PySem.F.plainAttrs_list,PySem.F.slot_list_extend,PySem.F.type_list_extend⟩
 | 2=>⟨PySem.F.plainAttrs_list,PySem.F.slot_list_pop,PySem.F.type_list_pop⟩
 | 3=>⟨PySem.F.plainAttrs_str,PySem.F.slot_str_join,PySem.F.type_str_join⟩
 | _ + 4=>⟨PySem.F.plainAttrs_dict,PySem.F.slot_dict_update,PySem.F.type_dict_update⟩
noncomputable def callPos (f x:Expr):Pos:={ ps f with endLine:=(ps x).line }
noncomputable def linePos (t v:Expr):Pos:={ ps t with line:=(ps v).line }
structure T where
 e:Expr→Expr:=fun x=>.Constant .none 0 (ps x)
 o:Expr→Option Expr:=fun _=>none
 es:List Expr→List Expr:=fun _=>[]
 s:Stmt→Stmt:=fun x=>.Pass (sp x).p
 ss:List Stmt→List Stmt:=fun _=>[]
noncomputable abbrev T.ex (f:Expr→Expr):T:={ e:=f,o:=fun x=>some (f x) }
noncomputable def tgts (ns:List Str):List Nat→List Expr→List Expr
 | [],_=>[]
 | i::is,xs=>.Name (nmOf ns i) (ps (hdE xs))::tgts ns is (tlE xs)
noncomputable def to (ns:List Str):R→T
 | .v i=>.ex fun x=>.Name (nmOf ns i) (ps x)
 | .ci i=>.ex fun x=>.Constant (.int i) (kk x) (ps x)
 | .cs i=>.ex fun x=>.Constant (.str i) (kk x) (ps x)
 | .cn=>.ex fun x=>.Constant .none (kk x) (ps x)
 | .cb i=>.ex fun x=>.Constant (.bool i) (kk x) (ps x)
 | .gl i=>.ex fun x=>.Name (glN i) (ps x)
 | .sub a b=>.ex fun x=>.Subscript ((to ns a).e (k0 x)) ((to ns b).e (k1 x)) (ps x)
 | .tup es=>.ex fun x=>.Tuple ((to ns es).es (kids x)) (kk x) (ps x)
 | .lstF es | .lstN es=>.ex fun x=>.List ((to ns es).es (kids x)) (ps x)
 | .att a y=>.ex fun x=>.Attribute ((to ns a).e (k0 x)) y (ps x)
 | .bin op a b=>.ex fun x=>.BinOp ((to ns a).e (k0 x)) op ((to ns b).e (k1 x)) (ps x)
 | .addN a b=>.ex fun x=>.BinOp ((to ns a).e (k0 x)) .Add ((to ns b).e (k1 x)) (ps x)
 | .cmp op a b=>.ex fun x=>.Compare ((to ns a).e (k0 x)) [op] [(to ns b).e (k1 x)] (ps x)
 | .neg a=>.ex fun x=>.UnaryOp .USub ((to ns a).e (k0 x)) (ps x)
 | .dfn y _ es | .cls y _ es | .exc y _ es=>.ex fun x=>.Call (.Name y (ps (k0 x))) ((to ns es).es (tlE (kids x))) [] (ps x)
 | .blt i es=>.ex fun x=>.Call (.Name (bltN i) (ps (k0 x))) ((to ns es).es (tlE (kids x))) [] (ps x)
 | .dyn f g es=>.ex fun x=>.Call (.Subscript ((to ns f).e (k0 (k0 x))) ((to ns g).e (k1 (k0 x))) (ps (k0 x))) ((to ns es).es (tlE (kids x))) [] (ps x)
 | .me0 m o=>.ex fun x=>.Call (.Attribute ((to ns o).e (k0 (k0 x))) (metN m) (callPos (k0 x) x)) [] [] (ps x)
 | .me1 m o e=>.ex fun x=>.Call (.Attribute ((to ns o).e (k0 (k0 x))) (metN m) (callPos (k0 x) x)) [(to ns e).e (k1 x)] [] (ps x)
 | .ifx t a b=>.ex fun x=>.IfExp ((to ns t).e (k0 x)) ((to ns a).e (k1 x)) ((to ns b).e (k2 x)) (ps x)
 | .slc a b c=>.ex fun x=>.Slice ((to ns a).o (k0 x)) ((to ns b).o (k1 x)) ((to ns c).o (k2 x)) (ps x)
 | .no=>{}
 | .fz a=>.ex (to ns a).e
 | .raw e=>.ex fun _=>e
 | .lc i _ s it elt=>.ex fun x=>.ListComp ((to ns elt).e (k0 x)) [⟨.Name (nmOf ns i) (ps (k1 x)),(to ns it).e (k2 x),[],0⟩] s (ps x)
 | .nil=>{}
 | .cons e es=>{ es:=fun xs=>(to ns e).e (hdE xs)::(to ns es).es (tlE xs),ss:=fun xs=>(to ns e).s (hdS xs)::(to ns es).ss (tlS xs) }
 | .and ts=>.ex fun x=>.BoolOp .And ((to ns ts).es (kids x)) (ps x)
 | .or ts=>.ex fun x=>.BoolOp .Or ((to ns ts).es (kids x)) (ps x)
 | .expr r=>{ s:=fun x=>.Expr ((to ns r).e (sp x).v) (sp x).p }
 | .asg i r=>{ s:=fun x=>.Assign [.Name (nmOf ns i) (ps (sp x).t)] ((to ns r).e (sp x).v) (sp x).p }
 | .asgT is r=>{ s:=fun x=>.Assign [.Tuple (tgts ns is (kids (sp x).t)) (kk (sp x).t) (ps (sp x).t)] ((to ns r).e (sp x).v) (sp x).p }
 | .asgA o y r=>{ s:=fun x=>.Assign [.Attribute ((to ns o).e (k0 (sp x).t)) y (ps (sp x).t)] ((to ns r).e (sp x).v) (sp x).p }
 | .asgI o j r=>{ s:=fun x=>.Assign [.Subscript ((to ns o).e (k0 (sp x).t)) ((to ns j).e (k1 (sp x).t)) (ps (sp x).t)] ((to ns r).e (sp x).v) (sp x).p }
 | .augN i op r=>{ s:=fun x=>.AugAssign (.Name (nmOf ns i) (ps (sp x).t)) op ((to ns r).e (sp x).v) (sp x).p }
 | .augA o y op r=>{ s:=fun x=>.AugAssign (.Attribute ((to ns o).e (k0 (sp x).t)) y (ps (sp x).t)) op ((to ns r).e (sp x).v) (sp x).p }
 | .ret r=>{ s:=fun x=>.Return (some ((to ns r).e (sp x).v)) (sp x).p }
 | .retN=>{ s:=fun x=>.Return none (sp x).p }
 | .pass=>{}
 | .ifs t a b=>{ s:=fun x=>.If ((to ns t).e (sp x).v) ((to ns a).ss (sp x).a) ((to ns b).ss (sp x).b) (sp x).p }
 | .for i it b=>{ s:=fun x=>.For (.Name (nmOf ns i) (ps (sp x).t)) ((to ns it).e (sp x).v) ((to ns b).ss (sp x).a) [] (sp x).p }
 | .forT is it b=>{ s:=fun x=>.For (.Tuple (tgts ns is (kids (sp x).t)) (kk (sp x).t) (ps (sp x).t)) ((to ns it).e (sp x).v) ((to ns b).ss (sp x).a) [] (sp x).p }
 | .whl t b=>{ s:=fun x=>.While ((to ns t).e (sp x).v) ((to ns b).ss (sp x).a) [] (sp x).p }
 | .raise r=>{ s:=fun x=>.Raise (some ((to ns r).e (sp x).v)) none (sp x).p }
 | .rawS s=>{ s:=fun _=>s }
 | .asgC j i _ s it elt=>{ s:=fun x=>.Assign [.Name (nmOf ns j) (linePos (sp x).t (sp x).v)] (.ListComp ((to ns elt).e (k0 (sp x).v)) [⟨.Name (nmOf ns i) (ps (k1 (sp x).v)),(to ns it).e (k2 (sp x).v),[],0⟩] s (ps (sp x).v)) (sp x).p }
inductive Fr where
 | e (r:R) | es (r:R) | p (r:R) | t (r:R) | ts (a:Bool) (r:R) | s (r:R) | ss (r:R) | cons | tup | lstF | lstN | sub | att (x:Str) | bin (op:Operator) | addN | cmp (op:CmpOp) | neg
 | fn (i:Nat) | cls (i:Nat) | blt (i:Nat) | dyI | dyn | isT (m:Nat) | met (m:Nat) | slc | fz | tb | drop | set (i:Nat) | setT (is:List Nat) | setA (x:Str) | setI | augN (i:Nat) (op:Operator) (a:Int) | augG (x:Str) | augS (x:Str) (op:Operator)
 | ret | br (a b:R) | brE (a b:R) | brT (a:Bool) (ts:R) | for (i:Nat) (b:R) | forT (is:List Nat) (b:R) | raise | lc (i:Nat) (caps:List Nat) (sc:Scope) (elt:R) | lcS (j i:Nat) (caps:List Nat) (sc:Scope) (elt:R)
noncomputable abbrev Ix:=List (Nat×D)
noncomputable def lk (i:Nat):Ix→Option D
 | []=>none
 | (j,d)::Γ=>bif Nat.beq j i then some d else lk i Γ
noncomputable def del (i:Nat):Ix→Ix
 | []=>[]
 | (j,d)::Γ=>bif Nat.beq j i then del i Γ else (j,d)::del i Γ
noncomputable def nmL (ns:List Str):Ix→Loc
 | []=>[]
 | (i,d)::Γ=>match nth ns i with
  | some x=>(x,d)::nmL ns Γ
  | none=>nmL ns Γ
noncomputable def puts:List Nat→List D→Ix→Ix
 | i::is,d::ds,Γ=>puts is ds ((i,d)::del i Γ)
 | _,_,Γ=>Γ
structure Vc where
 k:Sk
 ns:List Str
 Q:List D→Ix→Sto→Prop
 R:D→Sto→Prop
 E:Exn→Sto→Prop
 nd:ns.Nodup
 hn:k.n + 1≤1000
noncomputable def attBase:R→Bool
 | .v _ | .sub _ _ | .att _ _ | .cs _=>true
 | _=>false
noncomputable def isRaw:R→Bool
 | .raw _ | .lc _ _ _ _ _=>true
 | .fz a=>isRaw a
 | _=>false
noncomputable def notStar:Expr→Bool
 | .Starred ..=>false
 | _=>true
noncomputable def isGl (sc:Scope) (x:Str):Bool:=sc.names.lookup x==some .globalImplicit&&!(x==S_ "__debug__")
noncomputable def isLo (ns:List Str) (sc:Scope) (i:Nat):Bool:=(nth ns i).isSome&&(sc.names.lookup (nmOf ns i)==some .local&&!(nmOf ns i==S_ "__debug__"))
noncomputable def untup:R→Bool
 | .v _ | .dfn _ _ _=>true
 | _=>false
noncomputable def compChk (sc scope:Scope) (x:Str) (names:List Str):Bool:=
 (scope.kind==.function&&(scope.names.all fun q=>scope.names.lookup q.1==some q.2))&&((scope.names.all fun q=>q.2 != .cell)&&(scope.names.lookup x==some .local&&(!(x==S_ "__debug__")&&
 ((scope.names.all fun q=>q.2 != .free || names.contains q.1)&&names.all fun y=>scope.names.lookup y==some .free&&sc.names.lookup y != some .local))))
noncomputable def chk (ns:List Str) (sc:Scope) (top:Bool):R→Bool
 | .v i=>(nth ns i).isSome
 | .ci _ | .cs _ | .cn | .cb _ | .no | .nil | .retN | .pass | .rawS _=>true
 | .gl i=>isGl sc (glN i)
 | .sub a b | .bin _ a b | .addN a b | .cons a b=>chk ns sc top a&&chk ns sc top b
 | .cmp _ a b=>!isRaw b&&(chk ns sc top a&&chk ns sc top b)
 | .tup a | .lstF a | .lstN a | .neg a | .and a | .or a | .ret a | .raise a | .fz a=>chk ns sc top a
 | .att a _=>attBase a&&chk ns sc top a
 | .dfn x i a=>(defTab.contains (x,i)&&isGl sc x)&&chk ns sc top a
 | .cls x i a=>(clsTab.contains (x,i)&&isGl sc x)&&chk ns sc top a
 | .exc x i a=>(excTab.contains (x,i)&&isGl sc x)&&chk ns sc top a
 | .blt i a=>(bltTab.contains (bltN i,bltV i)&&isGl sc (bltN i))&&chk ns sc top a
 | .dyn f g a=>(chk ns sc top f&&chk ns sc top g)&&chk ns sc top a
 | .me0 _ a=>attBase a&&chk ns sc top a
 | .me1 _ a b=>attBase a&&(chk ns sc top a&&chk ns sc top b)
 | .ifx a b c | .slc a b c | .ifs a b c=>chk ns sc top a&&(chk ns sc top b&&chk ns sc top c)
 | .raw e=>notStar e
 | .lc i caps s it elt=>(compChk sc s (nmOf ns i) (caps.map (nmOf ns))&&((nth ns i).isSome&&caps.all fun i=>(nth ns i).isSome))&&(!isRaw it&&(chk ns sc top it&&chk ns (compSc s sc) false elt))
 | .asgC j i caps s it elt=>(isLo ns sc j&&((sc.kind==.function)&&!(s.names.any fun (n,k)=>n==nmOf ns j&&(k==.local || k==.cell))))&&((compChk sc s (nmOf ns i) (caps.map (nmOf ns))&&((nth ns i).isSome&&caps.all fun i=>(nth ns i).isSome))&&(!isRaw it&&(chk ns sc top it&&chk ns (compSc s sc) false elt)))
 | .expr a=>!isRaw a&&chk ns sc top a
 | .asg i a=>isLo ns sc i&&(!isRaw a&&chk ns sc top a)
 | .augN i _ a=>isLo ns sc i&&chk ns sc top a
 | .asgT is a=>(is.all (isLo ns sc)&&untup a)&&(!isRaw a&&chk ns sc top a)
 | .asgA a _ b=>!isRaw b&&(chk ns sc top a&&chk ns sc top b)
 | .augA a _ _ b=>chk ns sc top a&&chk ns sc top b
 | .asgI a b c=>!isRaw c&&(chk ns sc top a&&(chk ns sc top b&&chk ns sc top c))
 | .whl a b=>top&&(chk ns sc top a&&chk ns sc top b)
 | .for i a b=>(top&&isLo ns sc i)&&(!isRaw a&&(chk ns sc top a&&chk ns sc top b))
 | .forT is a b=>(top&&is.all (isLo ns sc))&&(!isRaw a&&(chk ns sc top a&&chk ns sc top b))
inductive FzR (σ:Sto):D→D→Sto→Prop
 | L {a:Addr} {ds:List D}:σ a=some (.list ds)→FzR σ (.ref a) (.lst ds) (σ.del a)
 | D {a:Addr} {es:List (Str×D)}:σ a=some (.dict es)→FzR σ (.ref a) (.dct es) (σ.del a)
 | I {a dx:Addr} {c:Nat} {fs:List (Str×D)}:σ a=some (.inst c dx)→σ dx=some (.dict fs)→FzR σ (.ref a) (.ins c fs) ((σ.del a).del dx)
 | F {d:D} {σ':Sto}:(∀a x,σ' a=some x→σ a=some x)→FzR σ d d σ'
inductive AttS (σ:Sto) (d:D) (x:Str) (P:Sto→Prop):D→Prop
 | ins {a dx:Addr} {c:Nat} {fs:List (Str×D)}:(c,x)∈attrTab→σ a=some (.inst c dx)→σ dx=some (.dict fs)→fs.length≤1000→P (σ.set dx (.dict (dput fs x d)))→AttS σ d x P (.ref a)
 | exc {e:Addr} {i j:Nat}:(i=2∧j=4∨i=4∧j=2)→(i,x)∈excAttrTab→ExcPut σ e i x d P→AttS σ d x P (.ref e)
inductive RaiseR (E:Exn→Sto→Prop) (σ:Sto):D→Prop
 | mk {a dx:Addr} {x:Exn} {fs:List (Str×D)}:σ a=some (.exc (Exn.idx x) (some dx))→σ dx=some (.dict fs)→(x=.ada→(S_ "word",D.str (S_ "program_error"))∈fs)→E x ((σ.del dx).del a)→RaiseR E σ (.ref a)
inductive AugT (σ:Sto) (a:Int) (op:Operator) (x:Str) (P:Sto→Prop):D→D→Prop
 | mk {r dx:Addr} {ci:Nat} {fs:List (Str×D)} {b c:Int}:AugR op a b c→(ci,x)∈attrTab→σ r=some (.inst ci dx)→σ dx=some (.dict fs)→fs.length≤1000→P (σ.set dx (.dict (dput fs x (.int c))))→AugT σ a op x P (.ref r) (.int b)
inductive SlcR:D→D→D→D→Prop
 | mk {d₁ d₂ d₃:D} {a b c:Option Int}:PartR d₁ a→PartR d₂ b→PartR d₃ c→SlcR d₁ d₂ d₃ (.slc a b c)
noncomputable def pop1 {α:Type} (st:List D) (k:D→List D→α) (z:α):α:=match st with
 | d::st=>k d st
 | []=>z
noncomputable def isTup {α:Type} (d:D) (k:List D→α) (z:α):α:=match d with
 | .tup ds=>k ds
 | _=>z
noncomputable def isBool {α:Type} (d:D) (k:Bool→α) (z:α):α:=match d with
 | .bool b=>k b
 | _=>z
noncomputable def isInt {α:Type} (d:D) (k:Int→α) (z:α):α:=match d with
 | .int b=>k b
 | _=>z
variable (G) in
noncomputable def Nx (C:Vc) (q:Ix→Sto→Prop) (o:Out) (Γ':Loc) (σ:Sto):Prop:=match o with
 | .next=>∃Γi,(∀p∈nmL C.ns Γi,p∈Γ')∧q Γi σ
 | .ret d=>C.R d σ
 | _=>False
noncomputable def pickI:List Nat→Ix→Ix
 | [],_=>[]
 | i::is,Γ=>match lk i Γ with
  | some d=>(i,d)::pickI is Γ
  | none=>pickI is Γ
inductive ForR (G:Glob) (C:Vc) (b:R) (d:D) (Γ:Ix) (σ:Sto) (put:D→Ix→Ix→Prop) (V:Ix→Sto→Prop):Prop
 | mk (ds:List D) (is:List Nat) (I:List D→Ix→Sto→Prop):IterD d ds→I ds (pickI is Γ) σ→(∀d ds Γ σ,I (d::ds) Γ σ→∃Γ',put d Γ Γ'∧(chk C.ns C.k.sc C.k.top b=true→∀xs,WS G C.k (nmL C.ns Γ') σ ((to C.ns b).ss xs) (Nx C fun Γ=>I ds (pickI is Γ)) C.E))→(∀Γ σ,I [] Γ σ→V Γ σ)→ForR G C b d Γ σ put V
inductive PutT (is:List Nat):D→Ix→Ix→Prop
 | mk {ds:List D} {Γ:Ix}:ds.length=is.length→PutT is (.tup ds) Γ (puts is ds Γ)
noncomputable def PutN (i:Nat) (d:D) (Γ Γ':Ix):Prop:=Γ'=(i,d)::del i Γ
inductive LcR (G:Glob) (C:Vc) (i:Nat) (caps:List Nat) (sc:Scope) (elt:R) (Γ:Ix) (V:List D→Sto→Prop) (d:D) (σ:Sto):Prop
 | mk (ds:List D) (I:List D→List D→Sto→Prop):IterD d ds→ds.length≤sizeLine→I ds [] σ→(∀d ds acc σ,I (d::ds) acc σ→chk C.ns (compSc sc C.k.sc) false elt=true→∀x,WE G (compSk C.k sc) (nmL C.ns ((i,d)::pickI caps Γ)) σ ((to C.ns elt).e x) (fun e σ'=>I ds (acc++[e]) σ') fun _ _=>False)→
  (∀acc σ,I [] acc σ→V acc σ)→LcR G C i caps sc elt Γ V d σ
variable (G) in
noncomputable def Vs (C:Vc):List Fr→List D→Ix→Sto→Prop
 | [],st,Γ,σ=>C.Q st Γ σ
 | fr::K,st,Γ,σ=>match fr with
  | .e r=>chk C.ns C.k.sc C.k.top r=true→∀x,WE G C.k (nmL C.ns Γ) σ ((to C.ns r).e x) (fun d σ'=>Vs C K (d::st) Γ σ') C.E
  | .p r=>chk C.ns C.k.sc C.k.top r=true→∀x,WP G C.k (nmL C.ns Γ) σ ((to C.ns r).o x) (fun d σ'=>Vs C K (d::st) Γ σ') C.E
  | .es r=>chk C.ns C.k.sc C.k.top r=true→∀xs,WA G C.k (nmL C.ns Γ) σ ((to C.ns r).es xs) (fun ds σ'=>Vs C K (.tup ds::st) Γ σ') C.E
  | .t r=>chk C.ns C.k.sc C.k.top r=true→∀x,WT G C.k (nmL C.ns Γ) σ ((to C.ns r).e x) (fun b σ'=>Vs C K (.bool b::st) Γ σ') C.E
  | .ts a r=>chk C.ns C.k.sc C.k.top r=true→∀xs p,WT G C.k (nmL C.ns Γ) σ (.BoolOp (bif a then .And else .Or) ((to C.ns r).es xs) p) (fun b σ'=>Vs C K (.bool b::st) Γ σ') C.E
  | .s r=>chk C.ns C.k.sc C.k.top r=true→∀x,W1 G C.k (nmL C.ns Γ) σ ((to C.ns r).s x) (Nx C (Vs C K st)) C.E
  | .ss r=>chk C.ns C.k.sc C.k.top r=true→∀xs,WS G C.k (nmL C.ns Γ) σ ((to C.ns r).ss xs) (Nx C (Vs C K st)) C.E
  | .cons=>pop1 st (fun t st=>pop1 st (fun d st=>isTup t (fun ds=>Vs C K (.tup (d::ds)::st) Γ σ) False) False) False
  | .tup=>pop1 st (fun t st=>isTup t (fun ds=>ds.length≤1000∧Vs C K (.tup ds::st) Γ σ) False) False
  | .lstF=>pop1 st (fun t st=>isTup t (fun ds=>ds.length≤1000∧Vs C K (.lst ds::st) Γ σ) False) False
  | .lstN=>pop1 st (fun t st=>isTup t (fun ds=>ds.length≤1000∧∀a,σ a=none→Vs C K (.ref a::st) Γ (σ.set a (.list ds))) False) False
  | .sub=>pop1 st (fun b st=>pop1 st (fun a st=>∃d,SubR σ a b d∧Vs C K (d::st) Γ σ) False) False
  | .att x=>pop1 st (fun a st=>∃d,AttrR σ a x d∧Vs C K (d::st) Γ σ) False
  | .bin op=>pop1 st (fun b st=>pop1 st (fun a st=>∃d,BinR op a b d∧Vs C K (d::st) Γ σ) False) False
  | .addN=>pop1 st (fun b st=>pop1 st (fun a st=>∃x y,a=.lst x∧b=.lst y∧x.length + y.length≤sizeLine∧∀z,σ z=none→Vs C K (.ref z::st) Γ (σ.set z (.list (x++y)))) False) False
  | .cmp op=>pop1 st (fun b st=>pop1 st (fun a st=>∃c,CmpR σ op a b c∧Vs C K (.bool c::st) Γ σ) False) False
  | .neg=>pop1 st (fun a st=>isInt a (fun i=>Vs C K (.int (-i)::st) Γ σ) False) False
  | .fn i=>pop1 st (fun t st=>isTup t (fun ds=>WC G C.k.n (.fn i 0) ds σ (fun d σ'=>Vs C K (d::st) Γ σ') C.E) False) False
  | .cls i=>pop1 st (fun t st=>isTup t (fun ds=>WC G C.k.n (.cls i) ds σ (fun d σ'=>Vs C K (d::st) Γ σ') C.E) False) False
  | .blt i=>pop1 st (fun t st=>isTup t (fun ds=>CallB G C.k σ (bltV i) ds (fun d σ'=>Vs C K (d::st) Γ σ')) False) False
  | .dyI=>pop1 st (fun f st=>Callee f∧Vs C K (f::st) Γ σ) False
  | .dyn=>pop1 st (fun t st=>pop1 st (fun f st=>isTup t (fun ds=>WC G C.k.n f ds σ (fun d σ'=>Vs C K (d::st) Γ σ') C.E) False) False) False
  | .isT m=>pop1 st (fun o _=>IsT σ o (metT m)∧Vs C K st Γ σ) False
  | .met m=>pop1 st (fun t st=>pop1 st (fun o st=>isTup t (fun ds=>CallB G C.k σ (.builtin (metI m)) (o::ds) (fun d σ'=>Vs C K (d::st) Γ σ')) False) False) False
  | .slc=>pop1 st (fun c st=>pop1 st (fun b st=>pop1 st (fun a st=>∃d,SlcR a b c d∧Vs C K (d::st) Γ σ) False) False) False
  | .fz=>pop1 st (fun d st=>∃d' σ',FzR σ d d' σ'∧Vs C K (d'::st) Γ σ') False
  | .tb=>pop1 st (fun d st=>isBool d (fun b=>Vs C K (.bool b::st) Γ σ) False) False
  | .drop=>pop1 st (fun _ st=>Vs C K st Γ σ) False
  | .set i=>pop1 st (fun d st=>Vs C K st ((i,d)::del i Γ) σ) False
  | .setT is=>pop1 st (fun t st=>isTup t (fun ds=>ds.length=is.length∧Vs C K st (puts is ds Γ) σ) False) False
  | .setA x=>pop1 st (fun o st=>pop1 st (fun d st=>AttS σ d x (fun σ'=>Vs C K st Γ σ') o) False) False
  | .setI=>pop1 st (fun j st=>pop1 st (fun o st=>pop1 st (fun d st=>∃σ',ItemR σ d o j σ'∧Vs C K st Γ σ') False) False) False
  | .augN i op a=>pop1 st (fun d st=>(∀x,nth C.ns i=some x→(x,D.int a)∈nmL C.ns Γ)→isInt d (fun b=>∃c,AugR op a b c∧Vs C K st ((i,.int c)::del i Γ) σ) False) False
  | .augG x=>pop1 st (fun e st=>∃a,AttrR σ e x (.int a)∧Vs C K (.int a::e::st) Γ σ) False
  | .augS x op=>pop1 st (fun d st=>pop1 st (fun a st=>pop1 st (fun e st=>isInt a (fun a=>AugT σ a op x (fun σ'=>Vs C K st Γ σ') e d) False) False) False) False
  | .ret=>pop1 st (fun d _=>C.R d σ) False
  | .br a b=>pop1 st (fun t st=>isBool t (fun c=>if c=true then chk C.ns C.k.sc C.k.top a=true→∀xs,WS G C.k (nmL C.ns Γ) σ ((to C.ns a).ss xs) (Nx C (Vs C K st)) C.E else
    chk C.ns C.k.sc C.k.top b=true→∀xs,WS G C.k (nmL C.ns Γ) σ ((to C.ns b).ss xs) (Nx C (Vs C K st)) C.E) False) False
  | .brE a b=>pop1 st (fun t st=>isBool t (fun c=>if c=true then chk C.ns C.k.sc C.k.top a=true→∀x,WE G C.k (nmL C.ns Γ) σ ((to C.ns a).e x) (fun d σ'=>Vs C K (d::st) Γ σ') C.E else
    chk C.ns C.k.sc C.k.top b=true→∀x,WE G C.k (nmL C.ns Γ) σ ((to C.ns b).e x) (fun d σ'=>Vs C K (d::st) Γ σ') C.E) False) False
  | .brT a r=>pop1 st (fun t st=>isBool t (fun c=>if c=a then chk C.ns C.k.sc C.k.top r=true→∀xs p,WT G C.k (nmL C.ns Γ) σ (.BoolOp (bif a then .And else .Or) ((to C.ns r).es xs) p) (fun b σ'=>Vs C K (.bool b::st) Γ σ') C.E else
    Vs C K (.bool c::st) Γ σ) False) False
  | .for i b=>pop1 st (fun d st=>ForR G C b d Γ σ (PutN i) (Vs C K st)) False
  | .forT is b=>pop1 st (fun d st=>ForR G C b d Γ σ (PutT is) (Vs C K st)) False
  | .raise=>pop1 st (fun d _=>RaiseR C.E σ d) False
  | .lc i caps s elt=>pop1 st (fun d st=>LcR G C i caps s elt Γ (fun acc σ'=>Vs C K (.lst acc::st) Γ σ') d σ) False
  | .lcS j i caps s elt=>pop1 st (fun d st=>LcR G C i caps s elt Γ (fun acc σ'=>Vs C K st ((j,.lst acc)::del j Γ) σ') d σ) False
structure Cf where
 K:List Fr
 st:List D
 Γ:Ix
noncomputable def optC {α:Type} (o:Option α) (k:α→Cf) (z:Cf):Cf:=match o with
 | some d=>k d
 | none=>z
noncomputable def allF (caps:List Nat) (Γ:Ix):Bool:=caps.all fun i=>(lk i Γ).isSome
noncomputable def adv1 (go:List Fr→List D→Ix→Cf) (z:Cf) (K:List Fr) (st:List D) (Γ:Ix):Fr→Cf
 | .e r=>match r with
  | .v i=>optC (lk i Γ) (fun d=>go K (d::st) Γ) z
  | .ci i=>go K (.int i::st) Γ
  | .cs i=>go K (.str i::st) Γ
  | .cb i=>go K (.bool i::st) Γ
  | .cn=>go K (.none::st) Γ
  | .sub a b=>go (.e a::.e b::.sub::K) st Γ
  | .tup es=>go (.es es::.tup::K) st Γ
  | .lstF es=>go (.es es::.lstF::K) st Γ
  | .lstN es=>go (.es es::.lstN::K) st Γ
  | .att a y=>go (.e a::.att y::K) st Γ
  | .bin op a b=>go (.e a::.e b::.bin op::K) st Γ
  | .addN a b=>go (.e a::.e b::.addN::K) st Γ
  | .cmp op a b=>go (.e a::.e b::.cmp op::K) st Γ
  | .neg a=>go (.e a::.neg::K) st Γ
  | .dfn _ i es=>go (.es es::.fn i::K) st Γ
  | .cls _ i es=>go (.es es::.cls i::K) st Γ
  | .exc _ i es=>go (.es es::.cls i::K) st Γ
  | .blt i es=>go (.es es::.blt i::K) st Γ
  | .dyn f g es=>go (.e f::.e g::.sub::.dyI::.es es::.dyn::K) st Γ
  | .me0 m o=>go (.e o::.isT m::.es .nil::.met m::K) st Γ
  | .me1 m o e=>go (.e o::.isT m::.es (.cons e .nil)::.met m::K) st Γ
  | .ifx t a b=>go (.t t::.brE a b::K) st Γ
  | .slc a b c=>go (.p a::.p b::.p c::.slc::K) st Γ
  | .fz a=>go (.e a::.fz::K) st Γ
  | .lc i caps s it elt=>bif allF caps Γ then go (.e it::.lc i caps s elt::K) st Γ else z
  | _=>z
 | .p r=>match r with
  | .no=>go K (.none::st) Γ
  | .ci _ | .v _ | .bin _ _ _ | .neg _=>go (.e r::K) st Γ
  | _=>z
 | .es rs=>match rs with
  | .nil=>go K (.tup []::st) Γ
  | .cons r rs=>go (.e r::.es rs::.cons::K) st Γ
  | _=>z
 | .cons=>pop1 st (fun t st=>pop1 st (fun d st=>isTup t (fun ds=>go K (.tup (d::ds)::st) Γ) z) z) z
 | .tup=>pop1 st (fun t st=>isTup t (fun ds=>bif Nat.ble ds.length 1000 then go K (.tup ds::st) Γ else z) z) z
 | .lstF=>pop1 st (fun t st=>isTup t (fun ds=>bif Nat.ble ds.length 1000 then go K (.lst ds::st) Γ else z) z) z
 | .neg=>pop1 st (fun a st=>isInt a (fun i=>go K (.int (-i)::st) Γ) z) z
 | .drop=>pop1 st (fun _ st=>go K st Γ) z
 | .set i=>pop1 st (fun d st=>go K st ((i,d)::del i Γ)) z
 | .setT is=>pop1 st (fun t st=>isTup t (fun ds=>bif Nat.beq ds.length is.length then go K st (puts is ds Γ) else z) z) z
 | .tb=>pop1 st (fun t st=>isBool t (fun b=>go K (.bool b::st) Γ) z) z
 | .t r=>match r with
  | .cmp op a b=>go (.e a::.e b::.cmp op::K) st Γ
  | .v i=>go (.e (.v i)::.tb::K) st Γ
  | .and ts=>go (.ts true ts::K) st Γ
  | .or ts=>go (.ts false ts::K) st Γ
  | _=>z
 | .ts a r=>match r with
  | .nil=>go K (.bool a::st) Γ
  | .cons r rs=>go (.t r::.brT a rs::K) st Γ
  | _=>z
 | .s r=>match r with
  | .expr r=>go (.e r::.drop::K) st Γ
  | .asg i r=>go (.e r::.set i::K) st Γ
  | .asgT is r=>go (.e r::.setT is::K) st Γ
  | .asgA o x r=>go (.e r::.e o::.setA x::K) st Γ
  | .asgI o j r=>go (.e r::.e o::.e j::.setI::K) st Γ
  | .augN i op r=>optC (lk i Γ) (fun d=>isInt d (fun a=>go (.e r::.augN i op a::K) st Γ) z) z
  | .augA o x op r=>go (.e o::.augG x::.e r::.augS x op::K) st Γ
  | .ret r=>go (.e r::.ret::K) st Γ
  | .retN=>go (.ret::K) (.none::st) Γ
  | .pass=>go K st Γ
  | .ifs t a b=>go (.t t::.br a b::K) st Γ
  | .for i it b=>go (.e it::.for i b::K) st Γ
  | .forT is it b=>go (.e it::.forT is b::K) st Γ
  | .raise r=>go (.e r::.raise::K) st Γ
  | .asgC j i caps s it elt=>bif allF caps Γ then go (.e it::.lcS j i caps s elt::K) st Γ else z
  | _=>z
 | .ss rs=>match rs with
  | .nil=>go K st Γ
  | .cons r rs=>go (.s r::.ss rs::K) st Γ
  | _=>z
 | .br a b=>pop1 st (fun t st=>isBool t (fun c=>match c with | true=>go (.ss a::K) st Γ | false=>go (.ss b::K) st Γ) z) z
 | .brE a b=>pop1 st (fun t st=>isBool t (fun c=>match c with | true=>go (.e a::K) st Γ | false=>go (.e b::K) st Γ) z) z
 | .brT a r=>pop1 st (fun t st=>isBool t (fun c=>match a,c with | true,true=>go (.ts true r::K) st Γ | false,false=>go (.ts false r::K) st Γ | true,false=>go K (.bool false::st) Γ | false,true=>go K (.bool true::st) Γ) z) z
 | _=>z
noncomputable def adv:Nat→List Fr→List D→Ix→Cf
 | 0,K,st,Γ=>⟨K,st,Γ⟩
 | n + 1,K,st,Γ=>match K with
  | []=>⟨[],st,Γ⟩
  | fr::K=>adv1 (adv n) ⟨fr::K,st,Γ⟩ K st Γ fr
variable (G) in
noncomputable def Vm (C:Vc) (c:Cf) (σ:Sto):Prop:=Vs G C c.K c.st c.Γ σ
section
variable {C:Vc} {K:List Fr} {st:List D} {Γ:Ix} {σ:Sto} {ns:List Str} {sc:Scope} {top:Bool} {k:Sk} {E:Exn→Sto→Prop}
theorem noTrue {P:Prop} (h:false=true):P:=Bool.noConfusion h
theorem nth_nm {i:Nat} (h:(nth ns i).isSome=true):nth ns i=some (nmOf ns i):=by
 unfold nmOf
 cases e:nth ns i with
 | none=>rw [e] at h;exact noTrue h
 | some x=>rfl
theorem lk_nm:∀{Γ:Ix} {i:Nat} {d:D} {x:Str},lk i Γ=some d→nth ns i=some x→(x,d)∈nmL ns Γ
 | [],_,_,_,h,_=>nomatch h
 | (j,e)::Γ,i,d,x,h,hx=>by
  change (bif Nat.beq j i then some e else lk i Γ)=some d at h
  change (x,d)∈match nth ns j with | some x=>(x,e)::nmL ns Γ | none=>nmL ns Γ
  cases hj:Nat.beq j i with
  | true=>
   rw [hj] at h
   refine rwG (Nat.eq_of_beq_eq_true hj) ?_;refine rwG hx ?_;refine rwG (Option.some.inj h) ?_
   exact .head _
  | false=>
   rw [hj] at h
   have:=lk_nm (i:=i) h hx
   cases nth ns j with
   | none=>exact this
   | some y=>exact .tail _ this
theorem nth_mem:∀{ns:List Str} {i:Nat} {x:Str},nth ns i=some x→x∈ns
 | _::_,0,_,h=>by refine rwG (Option.some.inj h) ?_;exact .head _
 | _::_,i + 1,_,h=>.tail _ (nth_mem (i:=i) h)
theorem nth_inj:∀{ns:List Str},ns.Nodup→∀{i j:Nat} {x:Str},nth ns i=some x→nth ns j=some x→i=j
 | [],_,_,_,_,h,_=>nomatch h
 | y::ns,nd,0,0,_,_,_=>rfl
 | y::ns,nd,0,j + 1,_,h1,h2=>absurd (Option.some.inj h1▸nth_mem (i:=j) h2) (List.nodup_cons.mp nd).1
 | y::ns,nd,i + 1,0,_,h1,h2=>absurd (Option.some.inj h2▸nth_mem (i:=i) h1) (List.nodup_cons.mp nd).1
 | y::ns,nd,i + 1,j + 1,_,h1,h2=>congrArg _ (nth_inj (List.nodup_cons.mp nd).2 (i:=i) (j:=j) h1 h2)
theorem nm_del (nd:ns.Nodup) {i:Nat} {x:Str} (hx:nth ns i=some x) {q:Str×D}:∀{Γ:Ix},q∈nmL ns (del i Γ)→q∈nmL ns Γ∧q.1≠x
 | [],h=>nomatch h
 | (j,e)::Γ,h=>by
  change q∈nmL ns (bif Nat.beq j i then del i Γ else (j,e)::del i Γ) at h
  change (q∈match nth ns j with | some x=>(x,e)::nmL ns Γ | none=>nmL ns Γ)∧_
  cases hj:Nat.beq j i with
  | true=>
   rw [hj] at h
   have ⟨a,b⟩:=nm_del nd hx h
   refine ⟨?_,b⟩
   cases nth ns j with
   | none=>exact a
   | some y=>exact .tail _ a
  | false=>
   rw [hj] at h
   change q∈match nth ns j with | some x=>(x,e)::nmL ns (del i Γ) | none=>nmL ns (del i Γ) at h
   cases hy:nth ns j with
   | none=>rw [hy] at h;exact nm_del nd hx h
   | some y=>
    rw [hy] at h
    rcases List.mem_cons.mp h with h | h
    ·refine rwG h ?_;exact ⟨.head _,fun e=>Nat.ne_of_beq_eq_false hj (nth_inj nd hy (by (refine rwG hx ?_;refine rwL e ?_;rfl)))⟩
    ·have ⟨a,b⟩:=nm_del nd hx h
     exact ⟨.tail _ a,b⟩
theorem W1.conseq {k:Sk} {Γ:Loc} {E:Exn→Sto→Prop} {st:Stmt} {Q Q':Out→Loc→Sto→Prop} (h:W1 G k Γ σ st Q E) (hq:∀o Γ σ,Q o Γ σ→Q' o Γ σ):W1 G k Γ σ st Q' E:=
 fun X hX φ s R=>wpAny_mono (h X hX φ s R) (fun _ _ x=>by obtain ⟨φ',σ',Γ',o,a,b,c,q⟩:=x;exact ⟨φ',σ',Γ',o,a,b,c,hq _ _ _ q⟩) fun _ _ x=>x
theorem WS.weak {k:Sk} {Γ Γ':Loc} {E:Exn→Sto→Prop} {st:List Stmt} {Q:Out→Loc→Sto→Prop} (h:WS G k Γ σ st Q E) (m:∀p∈Γ,p∈Γ'):WS G k Γ' σ st Q E:=
 fun X hX φ s R=>h X hX φ s (R.weaken m)
theorem WT.conseq {k:Sk} {Γ:Loc} {E:Exn→Sto→Prop} {e:Expr} {Q Q':Bool→Sto→Prop} (h:WT G k Γ σ e Q E) (hq:∀b σ,Q b σ→Q' b σ):WT G k Γ σ e Q' E:=
 fun X hX φ s R=>wpAny_mono (h X hX φ s R) (fun _ _ x=>by obtain ⟨φ',σ',a,b,q⟩:=x;exact ⟨φ',σ',a,b,hq _ _ q⟩) fun _ _ x=>x
theorem CallB.post {k:Sk} {f:Value} {ds:List D} {Q Q':D→Sto→Prop} (h:CallB G k σ f ds Q) (hq:∀d σ,Q d σ→Q' d σ):CallB G k σ f ds Q':=fun X hX Γ φ s R vs W F=>
 wpAny_mono (h X hX Γ φ s R vs W F) (fun _ _ x=>by obtain ⟨φ',σ',d,a,b,c,q⟩:=x;exact ⟨φ',σ',d,a,b,c,hq _ _ q⟩) fun _ _ x=>x
theorem WP.post {k:Sk} {Γ:Loc} {e:Option Expr} {Q Q':D→Sto→Prop} (h:WP G k Γ σ e Q E) (hq:∀d σ,Q d σ→Q' d σ):WP G k Γ σ e Q' E:=by
 cases e with
 | none=>exact hq _ _ h
 | some e=>exact WX.post h hq
theorem mem_of_contains {α:Type} [BEq α] [LawfulBEq α] {l:List α} {a:α} (h:l.contains a=true):a∈l:=List.contains_iff_mem.mp h
theorem isGl_k {x:Str} (h:isGl sc x=true):sc.names.lookup x=some .globalImplicit:=eq_of_beq (andL h)
theorem isGl_d {x:Str} (h:isGl sc x=true):(x==S_ "__debug__")=false:=notT (andR h)
noncomputable def plainE:Expr→Bool
 | .Starred .. | .ListComp .. | .SetComp .. | .DictComp .. | .Set ..=>false
 | _=>true
theorem plain_r:∀{r:R},isRaw r=false→∀{x:Expr},plainE ((to ns r).e x)=true:=fun {r} h=>by
 induction r with
 | raw=>exact noTrue h.symm
 | fz _ ih=>exact ih h
 | lc=>exact noTrue h.symm
 | _=>exact rfl
theorem notStar_r:∀{r:R},chk ns sc top r=true→∀{x:Expr},notStar ((to ns r).e x)=true:=fun {r} h=>by
 induction r with
 | raw=>exact h
 | fz _ ih=>exact ih h
 | _=>exact rfl
theorem star_cons {e:Expr} {es:List Expr} (h:notStar e=true):∀env,starEach (e::es) env=(false,eval e env)::starEach es env:=by
 intro env
 cases e with
 | Starred=>exact noTrue h
 | _=>rfl
theorem swap_ok {e:Expr} (h:plainE e=true) {t:Option Expr} {l:Nat} {env:Env}:swapsWith e t l env=pure false:=by
 cases e with
 | ListComp=>exact noTrue h
 | SetComp=>exact noTrue h
 | DictComp=>exact noTrue h
 | _=>rfl
theorem fold_ok {e:Expr} (h:plainE e=true) {env:Env} {x:Value}:foldedSetIterable e env x=pure x:=by
 cases e with
 | Set=>exact noTrue h
 | _=>rfl
theorem mark_ok {e:Expr} {op:CmpOp} (h:plainE e=true):behindInMarks op e=false:=by
 cases e with
 | Set=>exact noTrue h
 | _=>rfl
theorem base_ok {r:R} (h:attBase r=true) {x:Expr} {y:Str} {env:Env}:attributeBase ((to ns r).e x) y env (eval ((to ns r).e x) env)=eval ((to ns r).e x) env∧
  ∀p,eval (.Attribute ((to ns r).e x) y p) env=(do let o←eval ((to ns r).e x) env;standAt p.atName;let r'←holding [o] (getAttr o y true);letTemporaryGo ((to ns r).e x) o r';pure r'):=by
 cases r with
 | v=>exact ⟨rfl,fun _=>rfl⟩
 | sub=>exact ⟨rfl,fun _=>rfl⟩
 | att=>exact ⟨rfl,fun _=>rfl⟩
 | cs=>exact ⟨rfl,fun _=>rfl⟩
 | _=>exact noTrue h
theorem untup_ok {r:R} (h:untup r=true) {x:Expr} {xs:List Expr} {k:Nat} {p:Pos} {env:Env}:swappedStores [.Tuple xs k p] ((to ns r).e x) env=pure none:=by
 cases r with
 | v=>rfl
 | dfn=>rfl
 | _=>exact noTrue h
theorem star_any:∀{r:R},chk ns sc top r=true→∀(xs:List Expr) env,(starEach ((to ns r).es xs) env).any (·.1)=false:=fun {r} h=>by
 induction r with
 | cons a b _ ih=>
  intro xs env
  change (starEach ((to ns a).e (hdE xs)::(to ns b).es (tlE xs)) env).any _=_
  rw [star_cons (notStar_r (andL h))]
  exact ih (andR h) _ _
 | _=>exact fun _ _=>rfl
theorem args_plain {r:R} (h:chk ns sc top r=true) (xs:List Expr) (pos:Pos) (env:Env):(backTo pos (starEach ((to ns r).es xs) env)).any (·.1)=false:=by
 rewrite [backTo];refine rwG List.any_map ?_
 exact star_any h xs env
theorem isLo_n {i:Nat} (h:isLo ns sc i=true):nth ns i=some (nmOf ns i):=nth_nm (andL h)
theorem isLo_k {i:Nat} (h:isLo ns sc i=true):sc.names.lookup (nmOf ns i)=some .local:=eq_of_beq (andL (andR h))
theorem isLo_d {i:Nat} (h:isLo ns sc i=true):(nmOf ns i==S_ "__debug__")=false:=notT (andR (andR h))
theorem put_mem (nd:ns.Nodup) {i:Nat} (h:nth ns i=some (nmOf ns i)) {d:D}:∀q∈nmL ns ((i,d)::del i Γ),q=(nmOf ns i,d)∨(q∈nmL ns Γ∧q.1≠nmOf ns i):=fun p hp=>by
 change p∈match nth ns i with | some x=>(x,d)::nmL ns (del i Γ) | none=>nmL ns (del i Γ) at hp
 rw [h] at hp
 exact (List.mem_cons.mp hp).imp_right fun hp=>nm_del nd h hp
theorem WAsg.ix (nd:ns.Nodup) {i:Nat} (h:isLo ns k.sc i=true) {d:D} {p:Pos} {Q:Loc→Sto→Prop} (q:Q (nmL ns ((i,d)::del i Γ)) σ):WAsg G k (nmL ns Γ) σ (.Name (nmOf ns i) p) d Q E:=
 WAsg.loc _ (isLo_k h) (isLo_d h) (put_mem nd (isLo_n h)) q
theorem WAsgs.ix (nd:ns.Nodup):∀{is:List Nat} {ds:List D} {xs:List Expr} {Γ:Ix} {Q:Loc→Sto→Prop},is.all (isLo ns k.sc)=true→ds.length=is.length→Q (nmL ns (puts is ds Γ)) σ→WAsgs G k (nmL ns Γ) σ (tgts ns is xs) ds Q E
 | [],[],_,_,_,_,_,q=>WAsgs.nil q
 | i::is,d::ds,xs,Γ,Q,h,l,q=>WAsgs.cons (WAsg.ix nd (andL h) (WAsgs.ix nd (xs:=tlE xs) (andR h) (Nat.succ.inj l) q)) fun _=>rfl
theorem tgts_each {env:Env}:∀{is:List Nat} {xs:List Expr},(assignEach (tgts ns is xs) env).length=is.length∧(assignEach (tgts ns is xs) env).findIdx? (·.1)=none
 | [],_=>⟨rfl,rfl⟩
 | i::is,xs=>by
  have ⟨a,b⟩:=tgts_each (env:=env) (is:=is) (xs:=tlE xs)
  refine ⟨congrArg Nat.succ a,?_⟩
  change List.findIdx? _ ((false,_)::assignEach (tgts ns is (tlE xs)) env)=none
  refine rwG List.findIdx?_cons ?_;refine rwG b ?_
  rfl
theorem WAsg.ixT (nd:ns.Nodup) {is:List Nat} {ds:List D} {xs:List Expr} {kk:Nat} {p:Pos} {Q:Loc→Sto→Prop} (h:is.all (isLo ns k.sc)=true) (l:ds.length=is.length) (q:Q (nmL ns (puts is ds Γ)) σ):
  WAsg G k (nmL ns Γ) σ (.Tuple (tgts ns is xs) kk p) (.tup ds) Q E:=WAsg.tup (WAsgs.ix nd h l q) (fun _=>tgts_each.1.trans l.symm) fun _=>tgts_each.2
theorem swap_c {j:Nat} {s:Scope} {e:Expr} {gs:List Comprehension} {t v:Expr} {l:Nat} {env:Env} (h:(isLo ns sc j&&((sc.kind==.function)&&!(s.names.any fun (n,k)=>n==nmOf ns j&&(k==.local || k==.cell))))=true) (he:env.scope=sc):
  swapsWith (.ListComp e gs s (ps v)) (some (.Name (nmOf ns j) (linePos t v))) l env=pure true:=by
 have h1:env.blockKind=.function:=by unfold Env.blockKind;(refine rwG he ?_;refine rwG (show sc.kind=.function from eq_of_beq (andL (andR h))) ?_);rfl
 have h2:env.kindOf (nmOf ns j)=some .local:=by unfold Env.kindOf;refine rwG he ?_;exact isLo_k (andL h)
 have h3:=notT (andR (andR h))
 refine (?_:(pure _:Sem Bool)=pure true)
 refine rwG h1 ?_;refine rwG h2 ?_
 refine congrArg pure ?_
 refine (?_:(((_&&_)&&((ps v).line==(ps v).line))&&!_)=true)
 (refine rwG (show ((ps v).line==(ps v).line)=true from beq_self_eq_true _) ?_;refine rwG h3 ?_);rfl
theorem WAsg.att {Γ:Loc} {o:Expr} {x:Str} {p:Pos} {d:D} {Q:Loc→Sto→Prop} (h:WE G k Γ σ o (fun e σ₁=>AttS σ₁ d x (Q Γ) e) E):WAsg G k Γ σ (.Attribute o x p) d Q E:=fun X hX φ s R v V=>by
 rw [arm_assign_Attribute]
 refine wpAny_bind (wpAny_holding (then_ (h X hX φ s R) (fun φ₁ σ₁ e w s₁ l₁ R₁ W q=>?_) fun _ _ x=>x))
 refine wpAny_bind (wpAny_standAt (wpAny_bind (wpAny_holding ?_)))
 cases q with
 | ins hc ha hdx hz q=>exact W.refE (setAttr_ok R₁ hc ha hdx hz (V.mono l₁) fun s' R'=>wpAny_release ⟨φ₁,_,Γ,l₁,R',q⟩)
 | exc hij hx q=>exact W.refE (setAttr_exc R₁ hij hx (V.mono l₁) q fun σ' s' R' q'=>wpAny_release ⟨φ₁,σ',Γ,l₁,R',q'⟩)
theorem WX.fz {Γ:Loc} {t:Env→Sem Value} {Q:D→Sto→Prop} (h:WX G k Γ σ t (fun d σ'=>∃d' σ'',FzR σ' d d' σ''∧Q d' σ'') E):WX G k Γ σ t Q E:=fun X hX φ s R=>
 wpAny_mono (h X hX φ s R) (fun v s' x=>by
  obtain ⟨φ',σ',d,l,R',V,d',σ'',F,q⟩:=x
  cases F with
  | L ha=>
   obtain ⟨o,ho,O⟩:=R'.store ha
   refine ex22 O.inv ?_;intro vs n e g
   refine ex02 (R'.freeze ha ho) ?_;intro le R''
   exact ⟨_,_,_,l.trans le,R'',V.refE (.lst set_self (by (refine rwG e ?_;rfl)) (by (refine rwG e ?_;rfl)) (g.mono le)),q⟩
  | D ha=>
   obtain ⟨o,ho,O⟩:=R'.store ha
   refine ex24 O.inv ?_;intro ll n g1 g2 g3 g4
   have hsys:=notSys R' ha
   refine ex02 (R'.freeze ha ho) ?_;intro le R''
   exact ⟨_,_,_,l.trans le,R'',V.refE (.dct set_self g1 g2 (g3.mono le) g4 hsys),q⟩
  | @I a dx c fs ha hd=>
   obtain ⟨o,ho,O⟩:=R'.store ha
   obtain ⟨o',ho',O'⟩:=R'.store hd
   refine ex24 O'.inv ?_;intro ll n g1 g2 g3 g4
   have ne:dx≠a:=fun e=>by rw [e,ha] at hd;cases hd
   refine ex02 (R'.freeze ha ho) ?_;intro le R''
   refine ex02 (R''.freeze ((if_neg ne).trans hd) ho') ?_;intro le' R3
   exact ⟨_,_,_,l.trans (le.trans le'),R3,V.refE (.ins ((le' _ _ set_self).trans (congrArg some O.inv)) set_self g1 g2 (g3.mono (le.trans le')) g4),q⟩
  | F f=>exact ⟨_,_,_,l,R'.forget f,V,q⟩) fun _ _ x=>x
end
section
variable {C:Vc} {K:List Fr} {st:List D} {Γ:Ix} {σ:Sto}
theorem nm_pick {ns:List Str}:∀{is:List Nat} {p:Str×D},p∈nmL ns (pickI is Γ)→p∈nmL ns Γ
 | [],_,h=>nomatch h
 | i::is,p,h=>by
  change p∈nmL ns (match lk i Γ with | some d=>(i,d)::pickI is Γ | none=>pickI is Γ) at h
  cases e:lk i Γ with
  | none=>rw [e] at h;exact nm_pick h
  | some d=>
   rw [e] at h
   change p∈(match nth ns i with | some x=>(x,d)::nmL ns (pickI is Γ) | none=>nmL ns (pickI is Γ)) at h
   cases e':nth ns i with
   | none=>rw [e'] at h;exact nm_pick h
   | some x=>
    rw [e'] at h
    cases h with
    | head=>exact lk_nm e e'
    | tail _ h=>exact nm_pick h
inductive ForI (G:Glob) (C:Vc) (b:R) (put:D→Ix→Ix→Prop) (V:Ix→Sto→Prop) (ds:List D) (Γl:Loc) (σ:Sto):Prop
 | mk (I:List D→Ix→Sto→Prop) (is:List Nat) (Γ:Ix):(∀p∈nmL C.ns Γ,p∈Γl)→I ds Γ σ→(∀d ds Γ σ,I (d::ds) Γ σ→∃Γ',put d Γ Γ'∧(chk C.ns C.k.sc C.k.top b=true→∀xs,WS G C.k (nmL C.ns Γ') σ ((to C.ns b).ss xs) (Nx C fun Γ=>I ds (pickI is Γ)) C.E))→(∀Γ σ,I [] Γ σ→V Γ σ)→ForI G C b put V ds Γl σ
theorem W1.forV {it:Expr} {tg:Expr} {b:R} {xs:List Stmt} {p:Pos} {put:D→Ix→Ix→Prop} {V:Ix→Sto→Prop} (ht:C.k.top=true) (hb:chk C.ns C.k.sc C.k.top b=true) (hp:plainE it=true)
  (hw:∀d Γ Γ' σ (Q:Loc→Sto→Prop),put d Γ Γ'→Q (nmL C.ns Γ') σ→WAsg G C.k (nmL C.ns Γ) σ tg d Q C.E)
  (h:WE G C.k (nmL C.ns Γ) σ it (fun d σ'=>ForR G C b d Γ σ' put V) C.E):W1 G C.k (nmL C.ns Γ) σ (.For tg it ((to C.ns b).ss xs) [] p) (Nx C V) C.E:=by
 refine W1.for ht (ForI G C b put V) (WX.post h fun d σ' q=>?_) (fun d ds Γ₀ σ₀ q=>?_) (fun Γ₀ σ₀ q=>?_) fun _ _=>fold_ok hp
 ·cases q with | mk ds is I a b c d=>exact ⟨ds,a,.mk I is (pickI is Γ) (fun _=>nm_pick) b c d⟩
 ·cases q with
  | mk I is Γi e hi hs he=>
   refine ex12 (hs d ds Γi σ₀ hi) ?_;intro Γ' z w
   refine fun X hX φ s R=>hw _ _ _ _ _ z (WS.conseq (w hb xs) (fun o Γ₂ σ₂ q=>?_) fun _ _ x=>x) X hX φ s (R.weaken e)
   cases o with
   | next=>(refine ex12 q ?_;clear q;intro Γ₃ m q);exact ⟨_,m,.mk I is _ (fun _=>nm_pick) q hs he⟩
   | ret=>exact q
   | _=>exact q.elim
 ·cases q with | mk I is Γi e hi hs he=>exact ⟨Γi,e,he _ _ hi⟩
theorem nm_pick_fst {ns:List Str}:∀{is:List Nat},(is.all fun i=>(nth ns i).isSome)=true→allF is Γ=true→(nmL ns (pickI is Γ)).map (·.1)=is.map (nmOf ns)
 | [],_,_=>rfl
 | i::is,h1,h2=>by
  have h2':((lk i Γ).isSome&&allF is Γ)=true:=h2
  change (nmL ns (match lk i Γ with | some d=>(i,d)::pickI is Γ | none=>pickI is Γ)).map _=_
  cases e:lk i Γ with
  | none=>rw [e] at h2';exact noTrue h2'
  | some d=>
   rw [e] at h2'
   change (match nth ns i with | some x=>(x,d)::nmL ns (pickI is Γ) | none=>nmL ns (pickI is Γ)).map _=_
   refine rwG (nth_nm (andL h1)) ?_
   exact congrArg _ (nm_pick_fst (andR h1) (andR h2'))
theorem comp_ck {ns:List Str} {k:Sk} {s:Scope} {i:Nat} {caps:List Nat} (h:compChk k.sc s (nmOf ns i) (caps.map (nmOf ns))=true) (h1:(caps.all fun i=>(nth ns i).isSome)=true) (h2:allF caps Γ=true):CompCk k s (nmOf ns i) (nmL ns Γ) (nmL ns (pickI caps Γ)) where
 kind:=eq_of_beq (andL (andL h))
 uniq:=fun q hq=>eq_of_beq (List.all_eq_true.mp (andR (andL h)) q hq)
 nocell:=fun q hq=>bne_iff_ne.mp (List.all_eq_true.mp (andL (andR h)) q hq)
 loc:=eq_of_beq (andL (andR (andR h)))
 nd:=notT (andL (andR (andR (andR h))))
 free:=fun q hq hf=>by
  refine rwG (nm_pick_fst h1 h2) ?_
  have:=List.all_eq_true.mp (andL (andR (andR (andR (andR h))))) q hq
  rw [hf] at this
  exact mem_of_contains this
 sub:=fun q hq=>by
  have m:q.1∈caps.map (nmOf ns):=by refine rwL (nm_pick_fst h1 h2) ?_;exact List.mem_map_of_mem hq
  have:=List.all_eq_true.mp (andR (andR (andR (andR (andR h))))) _ m
  exact ⟨nm_pick hq,eq_of_beq (andL this),bne_iff_ne.mp (andR this)⟩
inductive LcI (G:Glob) (C:Vc) (i:Nat) (caps:List Nat) (sc:Scope) (elt:R) (Γ:Ix) (V:List D→Sto→Prop) (ds acc:List D) (σ:Sto):Prop
 | mk (I:List D→List D→Sto→Prop):I ds acc σ→(∀d ds acc σ,I (d::ds) acc σ→chk C.ns (compSc sc C.k.sc) false elt=true→∀x,WE G (compSk C.k sc) (nmL C.ns ((i,d)::pickI caps Γ)) σ ((to C.ns elt).e x) (fun e σ'=>I ds (acc++[e]) σ') fun _ _=>False)→
  (∀acc σ,I [] acc σ→V acc σ)→LcI G C i caps sc elt Γ V ds acc σ
theorem lc_step {i:Nat} {caps:List Nat} {s:Scope} {elt:R} {V:List D→Sto→Prop} (hi:(nth C.ns i).isSome=true) (hc:chk C.ns (compSc s C.k.sc) false elt=true) {x:Expr} {d:D} {ds acc:List D} (h:LcI G C i caps s elt Γ V (d::ds) acc σ):
  WE G (compSk C.k s) ((nmOf C.ns i,d)::nmL C.ns (pickI caps Γ)) σ ((to C.ns elt).e x) (fun e σ'=>LcI G C i caps s elt Γ V ds (acc++[e]) σ') fun _ _=>False:=by
 cases h with
 | mk I a b c=>
  have q:=b _ _ _ _ a hc x
  rw [show nmL C.ns ((i,d)::pickI caps Γ)=(nmOf C.ns i,d)::nmL C.ns (pickI caps Γ) by (rewrite [nmL];refine rwG (nth_nm hi) ?_;rfl)] at q
  exact WX.post q fun _ _ q=>.mk I q b c
section
variable {go:List Fr→List D→Ix→Cf} (ih:∀{K:List Fr} {st:List D} {Γ:Ix} {σ:Sto},Vm G C (go K st Γ) σ→Vs G C K st Γ σ)
include ih
theorem adv_e {r:R} {z:Cf} (hz:Vm G C z σ→Vs G C (.e r::K) st Γ σ) (h:Vm G C (adv1 go z K st Γ (.e r)) σ):Vs G C (.e r::K) st Γ σ:=by
 cases r with
 | v i=>
  change Vm G C (optC (lk i Γ) _ _) σ at h
  cases hl:lk i Γ with
  | none=>rw [hl] at h;exact hz h
  | some d=>rw [hl] at h;exact fun ok x=>WE.var (lk_nm hl (nth_nm ok)) (ih h)
 | ci=>exact fun ok x=>WE.int (ih h)
 | cs=>exact fun ok x=>WE.str (ih h)
 | cb=>exact fun ok x=>WE.boolC (ih h)
 | cn=>exact fun ok x=>WE.noneC (ih h)
 | sub a b=>exact fun ok x=>WE.sub (WX.post (ih h (andL ok) _) fun _ _ q=>q (andR ok) _)
 | tup es=>exact fun ok x=>WE.tup (ih h ok _)
 | lstF es=>exact fun ok x=>WE.lstF (ih h ok _)
 | lstN es=>exact fun ok x=>WE.lstN (ih h ok _)
 | att a y=>exact fun ok x=>WE.attr (ih h (andR ok) _) fun _=>(base_ok (andL ok)).2 _
 | bin op a b=>exact fun ok x=>WE.bin (WX.post (ih h (andL ok) _) fun _ _ q=>q (andR ok) _)
 | addN a b=>exact fun ok x=>WE.addNew (WX.post (ih h (andL ok) _) fun _ _ q=>q (andR ok) _)
 | cmp op a b=>exact fun ok x=>WE.cmp (Nat.le_of_succ_le C.hn) (WX.post (ih h (andL (andR ok)) _) fun _ _ q=>q (andR (andR ok)) _) (mark_ok (plain_r (notT (andL ok))))
 | neg a=>exact fun ok x=>WE.neg (WX.post (ih h ok _) fun d _ q=>by cases d with | int i=>exact ⟨i,rfl,q⟩ | _=>exact q.elim)
 | dfn y i es=>exact fun ok x=>WE.callD (mem_of_contains (andL (andL ok))) (isGl_k (andR (andL ok))) (isGl_d (andR (andL ok))) (ih h (andR ok) _) (args_plain (andR ok) _ _)
 | cls y i es=>exact fun ok x=>WE.callC (mem_of_contains (andL (andL ok))) (isGl_k (andR (andL ok))) (isGl_d (andR (andL ok))) (ih h (andR ok) _) (args_plain (andR ok) _ _)
 | exc y i es=>exact fun ok x=>WE.callX (mem_of_contains (andL (andL ok))) (isGl_k (andR (andL ok))) (isGl_d (andR (andL ok))) (ih h (andR ok) _) (args_plain (andR ok) _ _)
 | blt i es=>exact fun ok x=>WE.bcall (mem_of_contains (andL (andL ok))) (isGl_k (andR (andL ok))) (isGl_d (andR (andL ok))) (ih h (andR ok) _) (args_plain (andR ok) _ _)
 | dyn f g es=>exact fun ok x=>WE.callS (WE.sub (WX.post (ih h (andL (andL ok)) _) fun _ _ q=>WX.post (q (andR (andL ok)) _) fun _ _ q=>by (refine ex13 q ?_;clear q;intro d r c q);exact ⟨d,r,c,q (andR ok) _⟩)) (args_plain (andR ok) _ _)
 | me0 m o=>exact fun ok x=>WE.meth (met_ok m).1 (met_ok m).2.1 (met_ok m).2.2 (WX.post (ih h (andR ok) _) fun _ _ q=>⟨q.1,q.2 rfl []⟩) (fun _=>(base_ok (andL ok)).1) (fun _=>rfl) (beq_self_eq_true _) fun _=>rfl
 | me1 m o e=>
  refine fun ok x=>WE.meth (met_ok m).1 (met_ok m).2.1 (met_ok m).2.2 (WX.post (ih h (andL (andR ok)) _) fun _ _ q=>⟨q.1,q.2 (by refine (?_:(chk _ _ _ e&&true)=true);refine rwG (andR (andR ok)) ?_;rfl) [_]⟩) (fun _=>(base_ok (andL ok)).1) (fun _=>?_) (beq_self_eq_true _) fun _=>?_
  ·rw [star_cons (notStar_r (andR (andR ok)))];rfl
  ·rw [star_cons (notStar_r (andR (andR ok)))];rfl
 | ifx t a b=>
  exact fun ok x=>WE.ifx (WT.conseq (ih h (andL ok) _) fun c σ' q=>by
   cases c with
   | true=>exact q (andL (andR ok)) _
   | false=>exact q (andR (andR ok)) _)
 | slc a b c=>exact fun ok x=>WE.slice (WP.post (ih h (andL ok) _) fun _ _ q=>WP.post (q (andL (andR ok)) _) fun _ _ q=>WP.post (q (andR (andR ok)) _) fun _ _ q=>by
   refine ex12 q ?_;clear q;intro d r q
   cases r with | mk x y z=>exact ⟨_,_,_,x,y,z,q⟩)
 | fz a=>exact fun ok x=>WX.fz (ih h ok x)
 | lc i caps s it elt=>
  change Vm G C (bif allF caps Γ then _ else _) σ at h
  cases ha:allF caps Γ with
  | false=>rw [ha] at h;exact hz h
  | true=>
   rw [ha] at h
   exact fun ok x=>WE.comp (nmL C.ns (pickI caps Γ)) (comp_ck (andL (andL ok)) (andR (andR (andL ok))) ha) (LcI G C i caps s elt Γ fun acc σ'=>Vs G C K (.lst acc::st) Γ σ')
    (WX.post (ih h (andL (andR (andR ok))) _) fun _ _ q=>by cases q with | mk ds I a b c d e=>exact ⟨ds,a,b,.mk I c d e⟩)
    (fun d ds acc σ₀ q=>lc_step (andL (andR (andL ok))) (andR (andR (andR ok))) q) (fun acc σ₀ q=>by cases q with | mk I a b c=>exact c _ _ a) fun _ _=>fold_ok (plain_r (notT (andL (andR ok))))
 | _=>exact hz h
theorem adv_p {r:R} {z:Cf} (hz:Vm G C z σ→Vs G C (.p r::K) st Γ σ) (h:Vm G C (adv1 go z K st Γ (.p r)) σ):Vs G C (.p r::K) st Γ σ:=by
 cases r with
 | no=>exact fun _ _=>ih (K:=K) h
 | v=>exact fun ok x=>ih h ok x
 | ci=>exact fun ok x=>ih h ok x
 | bin=>exact fun ok x=>ih h ok x
 | neg=>exact fun ok x=>ih h ok x
 | _=>exact hz h
theorem adv_es {r:R} {z:Cf} (hz:Vm G C z σ→Vs G C (.es r::K) st Γ σ) (h:Vm G C (adv1 go z K st Γ (.es r)) σ):Vs G C (.es r::K) st Γ σ:=by
 cases r with
 | nil=>exact fun _ _=>WA.nil (ih h)
 | cons r rs=>exact fun ok xs=>WA.cons (WX.post (ih h (andL ok) _) fun _ _ q=>q (andR ok) _) (star_cons (notStar_r (andL ok)))
 | _=>exact hz h
theorem adv_ts {a:Bool} {r:R} {z:Cf} (hz:Vm G C z σ→Vs G C (.ts a r::K) st Γ σ) (h:Vm G C (adv1 go z K st Γ (.ts a r)) σ):Vs G C (.ts a r::K) st Γ σ:=by
 cases r with
 | nil=>cases a with
  | true=>exact fun _ _ _=>WT.and_nil (ih h)
  | false=>exact fun _ _ _=>WT.or_nil (ih h)
 | cons r rs=>cases a with
  | true=>exact fun ok xs p=>WT.and (WT.conseq (ih h (andL ok) _) fun c σ' q=>by cases c with | true=>exact q (andR ok) _ _ | false=>exact q)
  | false=>exact fun ok xs p=>WT.or (WT.conseq (ih h (andL ok) _) fun c σ' q=>by cases c with | true=>exact q | false=>exact q (andR ok) _ _)
 | _=>exact hz h
theorem adv_t {r:R} {z:Cf} (hz:Vm G C z σ→Vs G C (.t r::K) st Γ σ) (h:Vm G C (adv1 go z K st Γ (.t r)) σ):Vs G C (.t r::K) st Γ σ:=by
 cases r with
 | cmp op a b=>exact fun ok x=>WT.cmp (Nat.le_of_succ_le C.hn) (WX.post (ih h (andL (andR ok)) _) fun _ _ q=>q (andR (andR ok)) _) (mark_ok (plain_r (notT (andL ok))))
 | v i=>exact fun ok x=>WT.nameB (WX.post (ih h ok x) fun d _ q=>by cases d with | bool b=>exact ⟨b,rfl,q⟩ | _=>exact q.elim)
 | and ts=>exact fun ok x=>ih h ok _ _
 | or ts=>exact fun ok x=>ih h ok _ _
 | _=>exact hz h
theorem adv_s {r:R} {z:Cf} (hz:Vm G C z σ→Vs G C (.s r::K) st Γ σ) (h:Vm G C (adv1 go z K st Γ (.s r)) σ):Vs G C (.s r::K) st Γ σ:=by
 cases r with
 | expr r=>exact fun ok x=>W1.expr (WX.post (ih h (andR ok) _) fun _ _ q=>⟨_,fun _ hp=>hp,q⟩) fun _=>swap_ok (plain_r (notT (andL ok)))
 | asg i r=>exact fun ok x=>W1.assign (WX.post (ih h (andR (andR ok)) _) fun d σ' q=>WAsg.ix C.nd (andL ok) ⟨_,fun _ hp=>hp,q⟩) (fun _=>swap_ok (plain_r (notT (andL (andR ok))))) (fun _=>rfl) fun _=>rfl
 | asgT is r=>exact fun ok x=>W1.assign (WX.post (ih h (andR (andR ok)) _) fun d σ' q=>by cases d with | tup ds=>exact WAsg.ixT C.nd (andL (andL ok)) q.1 ⟨_,fun _ hp=>hp,q.2⟩ | _=>exact q.elim) (fun _=>swap_ok (plain_r (notT (andL (andR ok))))) (fun _=>untup_ok (andR (andL ok))) fun _=>rfl
 | asgA o y r=>exact fun ok x=>W1.assign (WX.post (ih h (andR (andR ok)) _) fun d σ' q=>WAsg.att (WX.post (q (andL (andR ok)) _) fun _ _ q=>by cases q with | ins a b c d q=>exact .ins a b c d ⟨_,fun _ hp=>hp,q⟩ | exc a b q=>exact .exc a b (by cases q with | first a q=>exact .first a fun dx b c=>⟨_,fun _ hp=>hp,q dx b c⟩ | more a b c q=>exact .more a b c ⟨_,fun _ hp=>hp,q⟩))) (fun _=>swap_ok (plain_r (notT (andL ok)))) (fun _=>rfl) fun _=>rfl
 | asgI o j r=>exact fun ok x=>W1.assign (WX.post (ih h (andR (andR (andR ok))) _) fun d σ' q=>WAsg.item (WX.post (q (andL (andR ok)) _) fun _ _ q=>WX.post (q (andL (andR (andR ok))) _) fun _ _ q=>by (refine ex12 q ?_;clear q;intro σ' a q);exact ⟨σ',a,_,fun _ hp=>hp,q⟩)) (fun _=>swap_ok (plain_r (notT (andL ok)))) (fun _=>rfl) fun _=>rfl
 | augN i op r=>
  change Vm G C (optC (lk i Γ) _ _) σ at h
  cases hl:lk i Γ with
  | none=>rw [hl] at h;exact hz h
  | some d=>
   rw [hl] at h
   cases d with
   | int a=>
    refine fun ok x=>W1.augName a (isLo_k (andL ok)) (isLo_d (andL ok)) (lk_nm hl (isLo_n (andL ok))) (WX.post (ih h (andR ok) _) fun d _ q=>?_)
    cases d with
    | int b=>
     refine ex12 (q fun x hx=>lk_nm hl hx) ?_;intro c r q
     exact ⟨b,c,_,rfl,r,put_mem C.nd (isLo_n (andL ok)),_,fun _ hp=>hp,q⟩
    | _=>exact (q fun x hx=>lk_nm hl hx).elim
   | _=>exact hz h
 | augA o y op r=>exact fun ok x=>W1.augAttr (WX.post (ih h (andL ok) _) fun e _ q=>by
   refine ex12 q ?_;clear q;intro a hA q
   exact ⟨a,hA,WX.post (q (andR ok) _) fun d _ w=>by cases w with | mk h0 hc h1 h2 hz w=>exact ⟨_,_,_,_,_,_,rfl,h0,rfl,hc,h1,h2,hz,_,fun _ hp=>hp,w⟩⟩)
 | ret r=>exact fun ok x=>W1.ret (ih h ok _)
 | retN=>exact fun ok x=>W1.retN (ih h)
 | pass=>exact fun ok x=>W1.pass ⟨_,fun _ hp=>hp,ih h⟩
 | ifs t a b=>exact fun ok x=>W1.ifs (WT.conseq (ih h (andL ok) _) fun c σ' q=>by
   cases c with
   | true=>exact q (andL (andR ok)) _
   | false=>exact q (andR (andR ok)) _)
 | «for» i it b=>exact fun ok x=>W1.forV (andL (andL ok)) (andR (andR (andR ok))) (plain_r (notT (andL (andR ok)))) (fun d Γ Γ' σ Q e q=>WAsg.ix C.nd (andR (andL ok)) (by refine rwL (show Γ'=_ from e) ?_;exact q)) (ih h (andL (andR (andR ok))) _)
 | forT is it b=>exact fun ok x=>W1.forV (andL (andL ok)) (andR (andR (andR ok))) (plain_r (notT (andL (andR ok)))) (fun d Γ Γ' σ Q e q=>by cases e with | mk l=>exact WAsg.ixT C.nd (andR (andL ok)) l q) (ih h (andL (andR (andR ok))) _)
 | asgC j i caps s it elt=>
  change Vm G C (bif allF caps Γ then _ else _) σ at h
  cases ha:allF caps Γ with
  | false=>rw [ha] at h;exact hz h
  | true=>
   rw [ha] at h
   refine fun ok' x=>?_
   have ok:=andR ok'
   exact W1.comp (nmL C.ns (pickI caps Γ)) (comp_ck (andL (andL ok)) (andR (andR (andL ok))) ha) (LcI G C i caps s elt Γ fun acc σ'=>Vs G C K st ((j,.lst acc)::del j Γ) σ')
    (fun env he=>swap_c (andL ok') he) (WX.post (ih h (andL (andR (andR ok))) _) fun _ _ q=>by cases q with | mk ds I a b c d e=>exact ⟨ds,a,b,.mk I c d e⟩)
    (fun d ds acc σ₀ q=>lc_step (andL (andR (andL ok))) (andR (andR (andR ok))) q) (fun acc σ₀ q=>WAsg.ix C.nd (andL (andL ok')) (by cases q with | mk I a b c=>exact ⟨_,fun _ hp=>hp,c _ _ a⟩)) fun _ _=>fold_ok (plain_r (notT (andL (andR ok))))
 | raise r=>exact fun ok x=>W1.raise (WX.post (ih h ok _) fun d σ' q=>by cases q with | mk a b c q=>exact ⟨_,_,_,_,rfl,a,b,c,q⟩)
 | _=>exact hz h
theorem adv_ss {r:R} {z:Cf} (hz:Vm G C z σ→Vs G C (.ss r::K) st Γ σ) (h:Vm G C (adv1 go z K st Γ (.ss r)) σ):Vs G C (.ss r::K) st Γ σ:=by
 cases r with
 | nil=>exact fun _ _=>WS.nil ⟨_,fun _ hp=>hp,ih h⟩
 | cons r rs=>
  refine fun ok xs=>WS.cons (W1.conseq (ih h (andL ok) _) fun o Γ' σ' hq=>?_)
  cases o with
  | next=>
   refine ex12 hq ?_;clear hq;intro Γi hs hq
   exact WS.weak (hq (andR ok) _) hs
  | ret=>exact hq
  | _=>exact hq.elim
 | _=>exact hz h
theorem adv1_ok {fr:Fr} (h:Vm G C (adv1 go ⟨fr::K,st,Γ⟩ K st Γ fr) σ):Vs G C (fr::K) st Γ σ:=by
 cases fr with
 | e r=>exact adv_e ih (z:=⟨.e r::K,st,Γ⟩) (fun h=>h) h
 | p r=>exact adv_p ih (z:=⟨.p r::K,st,Γ⟩) (fun h=>h) h
 | es r=>exact adv_es ih (z:=⟨.es r::K,st,Γ⟩) (fun h=>h) h
 | t r=>exact adv_t ih (z:=⟨.t r::K,st,Γ⟩) (fun h=>h) h
 | ts a r=>exact adv_ts ih (z:=⟨.ts a r::K,st,Γ⟩) (fun h=>h) h
 | s r=>exact adv_s ih (z:=⟨.s r::K,st,Γ⟩) (fun h=>h) h
 | ss r=>exact adv_ss ih (z:=⟨.ss r::K,st,Γ⟩) (fun h=>h) h
 | cons=>cases st with
  | nil=>exact h
  | cons t st=>cases st with
   | nil=>exact h
   | cons d st=>cases t with
    | tup ds=>exact ih (K:=K) (st:=.tup (d::ds)::st) h
    | _=>exact h
 | tup=>cases st with
  | nil=>exact h
  | cons t st=>cases t with
   | tup ds=>
    change Vm G C (bif Nat.ble ds.length 1000 then _ else _) σ at h
    cases hb:Nat.ble ds.length 1000 with
    | true=>rw [hb] at h;exact ⟨Nat.le_of_ble_eq_true hb,ih h⟩
    | false=>rw [hb] at h;exact h
   | _=>exact h
 | lstF=>cases st with
  | nil=>exact h
  | cons t st=>cases t with
   | tup ds=>
    change Vm G C (bif Nat.ble ds.length 1000 then _ else _) σ at h
    cases hb:Nat.ble ds.length 1000 with
    | true=>rw [hb] at h;exact ⟨Nat.le_of_ble_eq_true hb,ih h⟩
    | false=>rw [hb] at h;exact h
   | _=>exact h
 | setT is=>cases st with
  | nil=>exact h
  | cons t st=>cases t with
   | tup ds=>
    change Vm G C (bif Nat.beq ds.length is.length then _ else _) σ at h
    cases hb:Nat.beq ds.length is.length with
    | true=>rw [hb] at h;exact ⟨Nat.eq_of_beq_eq_true hb,ih h⟩
    | false=>rw [hb] at h;exact h
   | _=>exact h
 | neg=>cases st with
  | nil=>exact h
  | cons t st=>cases t with
   | int i=>exact ih (K:=K) (st:=.int (-i)::st) h
   | _=>exact h
 | tb=>cases st with
  | nil=>exact h
  | cons t st=>cases t with
   | bool i=>exact ih (K:=K) (st:=.bool i::st) h
   | _=>exact h
 | drop=>cases st with
  | nil=>exact h
  | cons t st=>exact ih (K:=K) (st:=st) h
 | set i=>cases st with
  | nil=>exact h
  | cons t st=>exact ih (K:=K) (st:=st) h
 | br a b=>cases st with
  | nil=>exact h
  | cons t st=>cases t with
   | bool c=>cases c with
    | true=>exact ih (K:=.ss a::K) (st:=st) h
    | false=>exact ih (K:=.ss b::K) (st:=st) h
   | _=>exact h
 | brE a b=>cases st with
  | nil=>exact h
  | cons t st=>cases t with
   | bool c=>cases c with
    | true=>exact ih (K:=.e a::K) (st:=st) h
    | false=>exact ih (K:=.e b::K) (st:=st) h
   | _=>exact h
 | brT a r=>cases st with
  | nil=>exact h
  | cons t st=>cases t with
   | bool c=>cases a with
    | true=>cases c with
     | true=>exact ih (K:=.ts true r::K) (st:=st) h
     | false=>exact ih (K:=K) (st:=.bool false::st) h
    | false=>cases c with
     | true=>exact ih (K:=K) (st:=.bool true::st) h
     | false=>exact ih (K:=.ts false r::K) (st:=st) h
   | _=>exact h
 | _=>exact h
end
theorem adv_ok:∀(n:Nat) {K:List Fr} {st:List D} {Γ:Ix} {σ:Sto},Vm G C (adv n K st Γ) σ→Vs G C K st Γ σ
 | 0,_,_,_,_,h=>h
 | n + 1,[],_,_,_,h=>h
 | n + 1,fr::K,st,Γ,σ,h=>adv1_ok (adv_ok n) h
end
end Mine
end
section
open PySem PySem.W PySem.Calls PyProof.Rows
namespace Mine
set_option genCtorIdx false
set_option backward.match.sparseCases false
variable {G:Glob}
theorem nth_get {α:Type}:∀{ds:List α} {i:Nat} {d:α},nth ds i=some d→ds[i]?=some d
 | _::_,0,_,h=>h
 | _::ds,i + 1,_,h=>(List.getElem?_cons_succ).trans (nth_get (ds:=ds) (i:=i) h)
theorem dn {n a b:Nat} (k:Nat) (h:n < a) (e:Nat.ble (a + k) b=true:=by rfl):n + k < b:=Nat.lt_of_lt_of_le (Nat.add_lt_add_right h k) (Nat.le_of_ble_eq_true e)
theorem dn' {n a b:Nat} (k:Nat) (h:n < a) (e:Nat.ble (a + k) b=true:=by rfl):n + k≤b:=Nat.le_of_lt (dn k h e)
theorem dx {n x a b:Nat} (k:Nat) (h:n + x < a) (e:Nat.ble (a + k) b=true:=by rfl):n + k < b:=dn k (Nat.lt_of_le_of_lt (Nat.le_add_right n x) h) e
theorem dx' {n x a b:Nat} (k:Nat) (h:n + x < a) (e:Nat.ble (a + k) b=true:=by rfl):n + k≤b:=Nat.le_of_lt (dx k h e)
theorem dz {n x y a b:Nat} (k:Nat) (h:n + x + y < a) (e:Nat.ble (a + k) b=true:=by rfl):n + k < b:=dx k (Nat.lt_of_le_of_lt (Nat.le_add_right _ y) h) e
theorem dz' {n x y a b:Nat} (k:Nat) (h:n + x + y < a) (e:Nat.ble (a + k) b=true:=by rfl):n + k≤b:=Nat.le_of_lt (dz k h e)
theorem dk {x c b:Nat} (j:Nat) (h:x + c < b) (e:Nat.ble j c=true:=by rfl):x + j < b:=Nat.lt_of_le_of_lt (Nat.add_le_add_left (Nat.le_of_ble_eq_true e) x) h
theorem dm {n m c a:Nat} (j:Nat) (h:n + m + c < a) (e:Nat.ble (j + 1) c=true:=by rfl):n + 1 + m + j < a:=by have:=Nat.le_of_ble_eq_true e;exact lin2 h this (by simp +arith only)
theorem dj {n c a:Nat} (j:Nat) (h:n + c < a) (e:Nat.ble (j + 1) c=true:=by rfl):n + 1 + j < a:=by have:=Nat.le_of_ble_eq_true e;exact lin2 h this (by simp +arith only)
theorem sl {x c:Nat} (h:x≤c) (e:Nat.ble c 16777216=true:=by rfl):x≤sizeLine:=by refine rwG sizeLine_eq ?_;exact Nat.le_trans h (Nat.le_of_ble_eq_true e)
theorem SubR.strN {σ:Sto} {x:Str} {i c m:Nat} (hi:i < m) (h:x.cps[i]?=some c) (e:Nat.ble m 1000=true:=by rfl):SubR σ (.str x) (.int i) (.str ⟨#[c]⟩):=
 .strI (Int.natCast_nonneg i) (Int.lt_of_lt_of_le (Int.ofNat_lt.mpr (Nat.lt_of_lt_of_le hi (Nat.le_of_ble_eq_true e))) (by decide)) h
theorem SubR.tupN {σ:Sto} {ds:List D} {i m:Nat} {d:D} (hi:i < m) (h:ds[i]?=some d) (e:Nat.ble m 1000=true:=by rfl):SubR σ (.tup ds) (.int i) d:=
 .tupAt (Int.natCast_nonneg i) (Int.lt_of_lt_of_le (Int.ofNat_lt.mpr (Nat.lt_of_lt_of_le hi (Nat.le_of_ble_eq_true e))) (by decide)) h
theorem SubR.tupS {σ:Sto} {ds:List D} {w:D} {i m:Nat} {d:D} (hi:i < m) (h:ds[i]?=some d) (e:Nat.ble m 999=true:=by rfl):SubR σ (.tup (w::ds)) (.int ((i:Int) + 1)) d:=
 .tupN (i:=i + 1) (Nat.succ_lt_succ hi) h (Nat.ble_eq.mpr (Nat.succ_le_succ (Nat.le_of_ble_eq_true e)))
theorem CmpR.chr {σ:Sto} {c:Nat} (k:Nat) {x:Str} {b:Bool} (h:decide (c=k)=b) (hx:x=⟨#[k]⟩:=by decide):CmpR σ .Eq (.str ⟨#[c]⟩) (.str x) b:=by
 (refine rwL h ?_;refine rwL (chr_beq hx) ?_);exact .eqS
theorem CmpR.b {σ:Sto} {op:CmpOp} {x y:D} {c c':Bool} (h:c=c') (r:CmpR σ op x y c):CmpR σ op x y c':=h▸r
theorem CmpR.inDT {σ:Sto} {x:Str} {es:List (Str×D)} (h:x∈es.map (·.1)):CmpR σ .In (.str x) (.dct es) true:=by refine rwL (decide_eq_true h) ?_;exact .inD
theorem Vm.at {C:Vc} {K:List Fr} {st:List D} {Γ:Ix} {σ:Sto} {ds:List D} {i:Nat} {d:D} (h:nth ds i=some d) (q:Vm G C (adv 2000 K (d::st) Γ) σ) (hi:Nat.ble i 999=true:=by rfl):Vm G C ⟨.sub::K,.int (.ofNat i)::.tup ds::st,Γ⟩ σ:=
 ⟨d,.tupN (Nat.lt_succ_of_le (Nat.le_of_ble_eq_true hi)) (nth_get h),adv_ok _ q⟩
noncomputable abbrev F:Nat:=2000
variable (G) in
noncomputable def Kn (C:Vc) (K:List Fr) (st:List D) (Γ:Ix) (d:D) (σ:Sto):Prop:=Vm G C (adv F K (d::st) Γ) σ
variable (G) in
noncomputable def Ks (C:Vc) (K:List Fr) (st:List D) (Γ:Ix) (σ:Sto):Prop:=Vm G C (adv F K st Γ) σ
noncomputable def Vc.loop (C:Vc) (Q:Ix→Sto→Prop):Vc:=⟨C.k,C.ns,fun _=>Q,C.R,C.E,C.nd,C.hn⟩
section
variable {C:Vc} {K:List Fr} {st:List D} {Γ:Ix} {σ:Sto} {a b d:D}
theorem Vm.sub (h:SubR σ a b d) (q:Kn G C K st Γ d σ):Vm G C ⟨.sub::K,b::a::st,Γ⟩ σ:=⟨d,h,adv_ok _ q⟩
theorem Vm.att {x:Str} (h:AttrR σ a x d) (q:Kn G C K st Γ d σ):Vm G C ⟨.att x::K,a::st,Γ⟩ σ:=⟨d,h,adv_ok _ q⟩
theorem Vm.bin {op:Operator} (h:BinR op a b d) (q:Kn G C K st Γ d σ):Vm G C ⟨.bin op::K,b::a::st,Γ⟩ σ:=⟨d,h,adv_ok _ q⟩
theorem Vm.cmp {op:CmpOp} {c:Bool} (h:CmpR σ op a b c) (q:Kn G C K st Γ (.bool c) σ):Vm G C ⟨.cmp op::K,b::a::st,Γ⟩ σ:=⟨c,h,adv_ok _ q⟩
theorem Vm.eqT {x y:Str} (h:(x==y)=true) (q:Kn G C K st Γ (.bool true) σ):Vm G C ⟨.cmp .Eq::K,.str y::.str x::st,Γ⟩ σ:=Vm.cmp (h▸.eqS) q
theorem Vm.eqF {x y:Str} (h:(x==y)=false) (q:Kn G C K st Γ (.bool false) σ):Vm G C ⟨.cmp .Eq::K,.str y::.str x::st,Γ⟩ σ:=Vm.cmp (h▸.eqS) q
theorem Vm.neT {x y:Str} (h:(x != y)=true) (q:Kn G C K st Γ (.bool true) σ):Vm G C ⟨.cmp .NotEq::K,.str y::.str x::st,Γ⟩ σ:=Vm.cmp (h▸.neS) q
theorem Vm.wT {x y:Str} {as:List D} (h:(x==y)=true) (q:Kn G C K st Γ (.bool true) σ):Vm G C ⟨.sub::.e (.cs y)::.cmp .Eq::K,.int (.ofNat 0)::.tup (.str x::as)::st,Γ⟩ σ:=Vm.at rfl (Vm.eqT h q)
theorem Vm.wF {x y:Str} {as:List D} (h:(x==y)=false) (q:Kn G C K st Γ (.bool false) σ):Vm G C ⟨.sub::.e (.cs y)::.cmp .Eq::K,.int (.ofNat 0)::.tup (.str x::as)::st,Γ⟩ σ:=Vm.at rfl (Vm.eqF h q)
theorem Vm.slc {c:D} {x y z:Option Int} (h1:PartR a x) (h2:PartR b y) (h3:PartR c z) (q:Kn G C K st Γ (.slc x y z) σ):Vm G C ⟨.slc::K,c::b::a::st,Γ⟩ σ:=⟨_,.mk h1 h2 h3,adv_ok _ q⟩
theorem Vm.fz {σ':Sto} (h:FzR σ a d σ') (q:Kn G C K st Γ d σ'):Vm G C ⟨.fz::K,a::st,Γ⟩ σ:=⟨d,σ',h,adv_ok _ q⟩
theorem Vm.lstN {ds:List D} (q:∀a,σ a=none→Kn G C K st Γ (.ref a) (σ.set a (.list ds))) (hl:Nat.ble ds.length 1000=true:=by rfl):Vm G C ⟨.lstN::K,.tup ds::st,Γ⟩ σ:=
 ⟨Nat.le_of_ble_eq_true hl,fun a ha=>adv_ok _ (q a ha)⟩
theorem Vm.fn {i:Nat} {ds:List D} (h:WC G C.k.n (.fn i 0) ds σ (Kn G C K st Γ) C.E):Vm G C ⟨.fn i::K,.tup ds::st,Γ⟩ σ:=WC.conseq h (fun _ _ q=>adv_ok _ q) fun _ _ x=>x
theorem Vm.cls {i:Nat} {ds:List D} (h:WC G C.k.n (.cls i) ds σ (Kn G C K st Γ) C.E):Vm G C ⟨.cls i::K,.tup ds::st,Γ⟩ σ:=WC.conseq h (fun _ _ q=>adv_ok _ q) fun _ _ x=>x
theorem Vm.dyn {f:D} {ds:List D} (h:WC G C.k.n f ds σ (Kn G C K st Γ) C.E):Vm G C ⟨.dyn::K,.tup ds::f::st,Γ⟩ σ:=WC.conseq h (fun _ _ q=>adv_ok _ q) fun _ _ x=>x
theorem Vm.dyI {f:D} (h:Callee f) (q:Kn G C K st Γ f σ):Vm G C ⟨.dyI::K,f::st,Γ⟩ σ:=⟨h,adv_ok _ q⟩
theorem Vm.blt {i:Nat} {ds:List D} (h:CallB G C.k σ (bltV i) ds (Kn G C K st Γ)):Vm G C ⟨.blt i::K,.tup ds::st,Γ⟩ σ:=CallB.post h fun _ _ q=>adv_ok _ q
theorem Vm.isT {m:Nat} (h:IsT σ a (metT m)) (q:Kn G C K st Γ a σ):Vm G C ⟨.isT m::K,a::st,Γ⟩ σ:=⟨h,adv_ok _ q⟩
theorem Vm.met {m:Nat} {ds:List D} (h:CallB G C.k σ (.builtin (metI m)) (a::ds) (Kn G C K st Γ)):Vm G C ⟨.met m::K,.tup ds::a::st,Γ⟩ σ:=CallB.post h fun _ _ q=>adv_ok _ q
theorem Vm.setA {x:Str} (h:AttS σ d x (Ks G C K st Γ) a):Vm G C ⟨.setA x::K,a::d::st,Γ⟩ σ:=by
 cases h with
 | ins a b c d q=>exact .ins a b c d (adv_ok _ q)
 | exc a b q=>exact .exc a b (by cases q with | first a q=>exact .first a fun dx b c=>adv_ok _ (q dx b c) | more a b c q=>exact .more a b c (adv_ok _ q))
theorem Vm.setI {σ':Sto} (h:ItemR σ d a b σ') (q:Ks G C K st Γ σ'):Vm G C ⟨.setI::K,b::a::d::st,Γ⟩ σ:=⟨σ',h,adv_ok _ q⟩
theorem Vm.augN {i:Nat} {op:Operator} {x y z:Int} (h:AugR op x y z) (q:Ks G C K st ((i,.int z)::del i Γ) σ):Vm G C ⟨.augN i op x::K,.int y::st,Γ⟩ σ:=fun _=>⟨z,h,adv_ok _ q⟩
theorem Vm.augG {x:Str} {i:Int} (h:AttrR σ a x (.int i)) (q:Ks G C K (.int i::a::st) Γ σ):Vm G C ⟨.augG x::K,a::st,Γ⟩ σ:=⟨i,h,adv_ok _ q⟩
theorem Vm.augS {op:Operator} {x:Str} {r dx:Addr} {ci:Nat} {fs:List (Str×D)} {i j z:Int} (h:AugR op i j z) (hc:(ci,x)∈attrTab) (h1:σ r=some (.inst ci dx)) (h2:σ dx=some (.dict fs)) (hz:fs.length≤1000)
  (q:Ks G C K st Γ (σ.set dx (.dict (dput fs x (.int z))))):Vm G C ⟨.augS x op::K,.int j::.int i::.ref r::st,Γ⟩ σ:=.mk h hc h1 h2 hz (adv_ok _ q)
theorem Vm.nil (q:C.Q st Γ σ):Vm G C ⟨[],st,Γ⟩ σ:=q
theorem Vm.raise (q:RaiseR C.E σ d):Vm G C ⟨.raise::K,d::st,Γ⟩ σ:=q
theorem Vm.rawE {e:Expr} {Γ':Loc} (e':nmL C.ns Γ=Γ') (h:WE G C.k Γ' σ e (Kn G C K st Γ) C.E):Vm G C ⟨.e (.raw e)::K,st,Γ⟩ σ:=fun _ _=>by
 refine rwG e' ?_
 exact WX.post h fun _ _ q=>adv_ok _ q
theorem Vm.rawS {s:Stmt} {Γ':Loc} (e:nmL C.ns Γ=Γ') (h:W1 G C.k Γ' σ s (Nx C (Ks G C K st)) C.E):Vm G C ⟨.s (.rawS s)::K,st,Γ⟩ σ:=fun _ _=>by
 refine rwG e ?_
 refine W1.conseq h fun o Γ' σ' q=>?_
 cases o with
 | next=>(refine ex12 q ?_;clear q;intro Γi m q);exact ⟨Γi,m,adv_ok _ q⟩
 | _=>exact q
noncomputable abbrev elC (C:Vc) (s:Scope) (Q:D→Sto→Prop):Vc:=⟨compSk C.k s,C.ns,fun st _ σ=>pop1 st (fun d _=>Q d σ) False,fun _ _=>False,fun _ _=>False,C.nd,C.hn⟩
variable (G) in
noncomputable def Elt (C:Vc) (s:Scope) (elt:R) (Γ:Ix) (σ:Sto) (Q:D→Sto→Prop):Prop:=Vm G (elC C s Q) (adv F [.e elt] [] Γ) σ
theorem Elt.we {s:Scope} {elt:R} {Q:D→Sto→Prop} (h:Elt G C s elt Γ σ Q) (hc:chk C.ns (compSc s C.k.sc) false elt=true) (x:Expr):WE G (compSk C.k s) (nmL C.ns Γ) σ ((to C.ns elt).e x) Q fun _ _=>False:=
 WX.post (adv_ok (C:=elC C s Q) _ h hc x) fun _ _ q=>q
theorem Vm.lc {i:Nat} {caps:List Nat} {s:Scope} {elt:R} (ds:List D) (I:List D→List D→Sto→Prop) (hd:IterD d ds) (hz:ds.length≤sizeLine) (h0:I ds [] σ)
  (hs:∀d ds acc σ,I (d::ds) acc σ→Elt G C s elt ((i,d)::pickI caps Γ) σ fun e σ'=>I ds (acc++[e]) σ') (he:∀acc σ,I [] acc σ→Kn G C K st Γ (.lst acc) σ):Vm G C ⟨.lc i caps s elt::K,d::st,Γ⟩ σ:=
 .mk ds I hd hz h0 (fun d ds acc σ h hc x=>(hs d ds acc σ h).we hc x) fun acc σ h=>adv_ok _ (he acc σ h)
theorem Vm.lcS {j i:Nat} {caps:List Nat} {s:Scope} {elt:R} (ds:List D) (I:List D→List D→Sto→Prop) (hd:IterD d ds) (hz:ds.length≤sizeLine) (h0:I ds [] σ)
  (hs:∀d ds acc σ,I (d::ds) acc σ→Elt G C s elt ((i,d)::pickI caps Γ) σ fun e σ'=>I ds (acc++[e]) σ') (he:∀acc σ,I [] acc σ→Ks G C K st ((j,.lst acc)::del j Γ) σ):Vm G C ⟨.lcS j i caps s elt::K,d::st,Γ⟩ σ:=
 .mk ds I hd hz h0 (fun d ds acc σ h hc x=>(hs d ds acc σ h).we hc x) fun acc σ h=>adv_ok _ (he acc σ h)
theorem Vm.body {b:R} {I:Ix→Sto→Prop} (h:Vm G (C.loop I) (adv F [.ss b] [] Γ) σ):chk C.ns C.k.sc C.k.top b=true→∀xs,WS G C.k (nmL C.ns Γ) σ ((to C.ns b).ss xs) (Nx C I) C.E:=fun ok xs=>
 WS.conseq (adv_ok (C:=C.loop I) _ h ok xs) (fun o Γ σ q=>by cases o with | next=>exact q | ret=>exact q | _=>exact q.elim) fun _ _ x=>x
variable (G) in
noncomputable def Turn (C:Vc) (b:R) (Γ:Ix) (is:List Nat) (Γ':Ix) (J:Sto→Prop) (σ:Sto):Prop:=Vm G (C.loop fun Γ σ=>pickI is Γ=Γ'∧J σ) (adv F [.ss b] [] Γ) σ
theorem Vm.forL {α:Type} {i:Nat} {b:R} (enc:α→D) (xs:List α) (is:List Nat) (Γf:List α→Ix) (J:List α→Sto→Prop) (hd:IterD d (xs.map enc)) (h0:pickI is Γ=Γf []) (j0:J [] σ)
  (hs:∀done a rest σ,xs=done++a::rest→J done σ→Turn G C b ((i,enc a)::del i (Γf done)) is (Γf (done++[a])) (J (done++[a])) σ)
  (he:∀σ,J xs σ→Ks G C K st (Γf xs) σ):Vm G C ⟨.for i b::K,d::st,Γ⟩ σ:=
 .mk _ is (fun ds Γ σ=>∃done rest,xs=done++rest∧ds=rest.map enc∧Γ=Γf done∧J done σ) hd ⟨[],xs,rfl,rfl,h0,j0⟩ (fun d ds Γ σ h=>by
  refine ex24 h ?_;clear h;intro done rest e e' e2 h
  cases rest with
  | nil=>cases e'
  | cons a rest=>
   have q:=hs done a rest σ e h
   rw [←e2,←(List.cons.inj e').1] at q
   exact ⟨_,rfl,fun ok xs=>WS.conseq (Vm.body q ok xs) (fun o Γ σ q=>by
    cases o with
    | next=>(refine ex12 q ?_;clear q;intro Γi m q);exact ⟨Γi,m,done++[a],rest,by (refine rwG e ?_;rewrite [List.append_assoc]);rfl,(List.cons.inj e').2,q⟩
    | ret=>exact q
    | _=>exact q.elim) fun _ _ x=>x⟩) fun Γ σ h=>by
  refine ex24 h ?_;clear h;intro done rest e e' e2 h
  cases rest with
  | nil=>rw [List.append_nil] at e;(refine rwG e2 ?_;refine rwL e ?_);rw [←e] at h;exact adv_ok _ (he σ h)
  | cons=>cases e'
theorem Vm.forT {α:Type} {is':List Nat} {b:R} (enc:α→D) (encT:α→List D) (xs:List α) (is:List Nat) (Γf:List α→Ix) (J:List α→Sto→Prop) (ht:∀a,enc a=.tup (encT a)∧(encT a).length=is'.length) (hd:IterD d (xs.map enc)) (h0:pickI is Γ=Γf []) (j0:J [] σ)
  (hs:∀done a rest σ,xs=done++a::rest→J done σ→Turn G C b (puts is' (encT a) (Γf done)) is (Γf (done++[a])) (J (done++[a])) σ)
  (he:∀σ,J xs σ→Ks G C K st (Γf xs) σ):Vm G C ⟨.forT is' b::K,d::st,Γ⟩ σ:=
 .mk _ is (fun ds Γ σ=>∃done rest,xs=done++rest∧ds=rest.map enc∧Γ=Γf done∧J done σ) hd ⟨[],xs,rfl,rfl,h0,j0⟩ (fun d ds Γ σ h=>by
  refine ex24 h ?_;clear h;intro done rest e e' e2 h
  cases rest with
  | nil=>cases e'
  | cons a rest=>
   have q:=hs done a rest σ e h
   rw [←e2] at q
   exact ⟨_,by (refine rwG ((List.cons.inj e').1) ?_;refine rwG ((ht a).1) ?_);exact .mk (ht a).2,fun ok xs=>WS.conseq (Vm.body q ok xs) (fun o Γ σ q=>by
    cases o with
    | next=>(refine ex12 q ?_;clear q;intro Γi m q);exact ⟨Γi,m,done++[a],rest,by (refine rwG e ?_;rewrite [List.append_assoc]);rfl,(List.cons.inj e').2,q⟩
    | ret=>exact q
    | _=>exact q.elim) fun _ _ x=>x⟩) fun Γ σ h=>by
  refine ex24 h ?_;clear h;intro done rest e e' e2 h
  cases rest with
  | nil=>rw [List.append_nil] at e;(refine rwG e2 ?_;refine rwL e ?_);rw [←e] at h;exact adv_ok _ (he σ h)
  | cons=>cases e'
theorem drop_snoc {α:Type} {xs done rest:List α} {a:α} (e:xs=done++a::rest):xs.drop (done++[a]).length=rest:=by (refine rwG e ?_;refine rwG (show done++a::rest=(done++[a])++rest from List.append_cons ..) ?_;refine rwG List.drop_left ?_;rfl)
theorem drop_here {α:Type} {xs done rest:List α} {a:α} (e:xs=done++a::rest):xs.drop done.length=a::rest:=by (refine rwG e ?_;refine rwG List.drop_left ?_;rfl)
theorem take_succ_map {α:Type} {xs done rest:List α} {a:α} (e:xs=done++a::rest):done.length < xs.length:=by (refine rwG e ?_;refine rwG List.length_append ?_);exact Nat.lt_add_of_pos_right (Nat.succ_pos _)
theorem range_at {m:Nat} {done rest:List Nat} {a:Nat} (e:List.range m=done++a::rest):done=List.range a∧a < m:=by
 have h1:(List.range m).take done.length=done:=by (refine rwG e ?_;refine rwG List.take_left ?_;rfl)
 have hl:done.length < m:=by have:=take_succ_map e;rwa [List.length_range] at this
 have h2:(List.range m)[done.length]?=some a:=by (refine rwG e ?_;refine rwG (List.getElem?_append_right (Nat.le_refl _)) ?_;rewrite [Nat.sub_self]);rfl
 rw [List.getElem?_range hl] at h2
 have e2:done.length=a:=Option.some.inj h2
 rw [List.take_range,Nat.min_eq_left (Nat.le_of_lt hl),e2] at h1
 exact ⟨h1.symm,e2▸hl⟩
theorem Vm.forN {i:Nat} {b:R} (m:Nat) (is:List Nat) (Γf:Nat→Ix) (J:Nat→Sto→Prop) (hm:m≤2 ^ 40) (h0:pickI is Γ=Γf 0) (j0:J 0 σ)
  (hs:∀j σ,j < m→J j σ→Turn G C b ((i,.int j)::del i (Γf j)) is (Γf (j + 1)) (J (j + 1)) σ)
  (he:∀σ,J m σ→Ks G C K st (Γf m) σ):Vm G C ⟨.for i b::K,.rng m::st,Γ⟩ σ:=by
 have hr:(List.range m).map (fun (j:Nat)=>D.int j)=(List.range (m:Int).toNat).map (fun (j:Nat)=>D.int j):=rfl
 refine Vm.forL (fun (j:Nat)=>D.int j) (List.range m) is (fun done=>Γf done.length) (fun done=>J done.length) (hr▸IterD.rng (Int.natCast_nonneg m) (Int.ofNat_le.mpr hm)) h0 j0 (fun done a rest σ e h=>?_) fun σ h=>?_
 ·refine ex02 (range_at e) ?_;intro e1 e2
  rw [e1,List.length_range] at h
  refine rwG e1 ?_;refine rwG List.length_append ?_;refine rwG List.length_range ?_
  exact hs a σ e2 h
 ·rw [List.length_range] at h ⊢
  exact he σ h
end
section
variable {C:Vc} {K:List Fr} {st:List D} {Γ:Ix} {σ:Sto}
noncomputable abbrev Vc.test (C:Vc) (Z:Bool→Ix→Sto→Prop):Vc:=⟨C.k,C.ns,fun st Γ σ=>pop1 st (fun d _=>isBool d (fun c=>Z c Γ σ) False) False,C.R,C.E,C.nd,C.hn⟩
variable (G) in
noncomputable def VL (C:Vc) (t b:R) (K:List Fr) (st:List D) (is:List Nat):Nat→Ix→Sto→Prop
 | 0,_,_=>False
 | N + 1,Γ,σ=>Vm G (C.test fun c Γ σ=>match c with | true=>Vm G (C.loop fun Γ σ=>VL C t b K st is N (pickI is Γ) σ) (adv F [.ss b] [] Γ) σ | false=>Ks G C K st Γ σ) (adv F [.t t] [] Γ) σ
theorem Vm.whl {t b:R} (is:List Nat) (N:Nat) (h:VL G C t b K st is N Γ σ):Vm G C ⟨.s (.whl t b)::K,st,Γ⟩ σ:=fun ok x=>by
 refine W1.while (andL ok) (fun N Γl σ=>∃Γ,Γl=nmL C.ns Γ∧VL G C t b K st is N Γ σ) N ⟨_,rfl,h⟩ fun N Γl σ q=>?_
 refine ex12 q ?_;clear q;intro Γ m q
 refine rwG m ?_
 cases N with
 | zero=>exact q.elim
 | succ N=>
  refine WT.conseq (adv_ok (C:=C.test _) _ q (andL (andR ok)) (sp x).v) fun c σ₁ z=>?_
  cases c with
  | false=>exact ⟨Γ,fun _ h=>h,adv_ok _ z⟩
  | true=>
   refine WS.conseq (Vm.body z (andR (andR ok)) _) (fun o Γ₂ σ₂ z=>?_) fun _ _ x=>x
   cases o with
   | next=>(refine ex12 z ?_;clear z;intro Γ₃ a z);exact ⟨N,nmL C.ns (pickI is Γ₃),Nat.lt_succ_self _,fun p h=>a p (nm_pick h),_,rfl,z⟩
   | ret=>exact z
   | _=>exact z.elim
end
noncomputable def ixs:Nat→List D→Ix
 | _,[]=>[]
 | i,d::ds=>(i,d)::ixs (i + 1) ds
theorem nth_app {α:Type}:∀(pre:List α) (x:α) (rest:List α),nth (pre++x::rest) pre.length=some x
 | [],_,_=>rfl
 | _::pre,x,rest=>nth_app pre x rest
theorem nm_ixs (rest:List Str):∀(names pre:List Str) (args:List D),names.length=args.length→nmL (pre++(names++rest)) (ixs pre.length args)=names.zip args
 | [],_,[],_=>rfl
 | x::names,pre,d::args,h=>by
  have:=nm_ixs rest names (pre++[x]) args (Nat.succ.inj h)
  rw [List.length_append,List.append_assoc] at this
  change (match nth (pre++x::(names++rest)) pre.length with | some y=>(y,d)::nmL (pre++x::(names++rest)) (ixs (pre.length + 1) args) | none=>_)=_
  rw [nth_app]
  exact congrArg _ this
structure FnOk (i j:Nat) (names rest:List Str) (r:R):Prop where
 fn:fnChk (stAt i j) names=true
 nd:(names++rest).Nodup
 ok:chk (names++rest) (sScope (stAt i j)) true r=true
 eq:(to (names++rest) r).ss (sBody (stAt i j))=sBody (stAt i j)
noncomputable abbrev fnC (i j n:Nat) (ns:List Str) (nd:ns.Nodup) (hn:n + 2≤1000) (Q:D→Sto→Prop) (E:Exn→Sto→Prop):Vc:=⟨skOf i j (n + 1),ns,fun _ _ σ=>Q .none σ,Q,E,nd,hn⟩
theorem WC.fnV {i j n:Nat} {args:List D} {Q:D→Sto→Prop} {E:Exn→Sto→Prop} {names rest:List Str} {r:R} {σ:Sto} (hc:FnOk i j names rest r) (hn:n + 2≤1000)
  (h:Ks G (fnC i j n (names++rest) hc.nd hn Q E) [.ss r] [] (ixs 0 args) σ) (hl:Nat.beq names.length args.length=true:=by rfl):WC G n (.fn i j) args σ Q E:=by
 have hl:=Nat.eq_of_beq_eq_true hl
 have q:=adv_ok _ h hc.ok (sBody (stAt i j))
 refine WC.fn names hc.fn hl (Nat.lt_of_succ_lt hn) ?_
 change WS G _ (nmL (names++rest) (ixs 0 args)) σ ((to (names++rest) r).ss _) _ E at q
 rw [show nmL (names++rest) (ixs 0 args)=names.zip args from nm_ixs rest names [] args hl,hc.eq] at q
 refine WS.conseq q (fun o Γ σ q=>?_) fun _ _ x=>x
 cases o with
 | next=>(refine ex12 q ?_;clear q;intro _ _ q);exact q
 | ret=>exact q
 | _=>exact q.elim
end Mine
end
section
open PySem PySem.W PySem.Calls PyProof.Rows
namespace Mine
set_option backward.match.sparseCases false
/- AdaError.__init__:0 self,1 text -/
noncomputable def R1_1:R:=(.cons (.rawS (hdS (sBody (stAt 1 1)))) (.cons (.asgA (.v 0) (S_ "text") (.v 1)) .nil))
theorem k1_1:FnOk 1 1 [S_ "self",S_ "text"] [] R1_1:=⟨by decide +kernel,by decide +kernel,by decide +kernel,by kernel_rfl⟩
/- AdaRaise.__init__:0 self,1 name,2 line,3 text -/
noncomputable def R2_1:R:=(.cons (.rawS (hdS (sBody (stAt 2 1)))) (.cons (.asgA (.v 0) (S_ "name") (.v 1)) (.cons (.asgA (.v 0) (S_ "word") (.v 1)) (.cons (.asgA (.v 0) (S_ "line") (.v 2)) .nil))))
theorem k2_1:FnOk 2 1 [S_ "self",S_ "name",S_ "line",S_ "text"] [] R2_1:=⟨by decide +kernel,by decide +kernel,by decide +kernel,by kernel_rfl⟩
/- EndRun.__init__:0 self,1 how -/
noncomputable def R4_1:R:=(.cons (.rawS (hdS (sBody (stAt 4 1)))) (.cons (.asgA (.v 0) (S_ "how") (.v 1)) .nil))
theorem k4_1:FnOk 4 1 [S_ "self",S_ "how"] [] R4_1:=⟨by decide +kernel,by decide +kernel,by decide +kernel,by kernel_rfl⟩
/- shape_of:0 row,1 shape -/
noncomputable def R9:R:=(.cons (.ifs (.cmp .NotIn (.sub (.v 0) (.ci 0)) (.gl 0)) (.cons (.rawS (hdS (sp (hdS (sBody (stAt 9 0)))).a)) .nil) .nil) (.cons (.asg 1 (.sub (.gl 0) (.sub (.v 0) (.ci 0)))) (.cons (.ifs (.cmp .NotEq (.blt 0 (.cons (.v 0) .nil)) (.bin .Add (.ci 1) (.blt 0 (.cons (.sub (.v 1) (.ci 2)) .nil)))) (.cons (.rawS (hdS (sp (hdS (tlS (tlS (sBody (stAt 9 0)))))).a)) .nil) .nil) (.cons (.ret (.v 1)) .nil))))
theorem k9:FnOk 9 0 [S_ "row"] [S_ "shape"] R9:=⟨by decide +kernel,by decide +kernel,by decide +kernel,by kernel_rfl⟩
/- effect_of:0 row,1 taken,2 left,3 parts,4 at -/
noncomputable def R10:R:=(.cons (.asgT [1,2,3] (.dfn (S_ "shape_of") 9 (.cons (.v 0) .nil))) (.cons (.for 4 (.blt 1 (.cons (.blt 0 (.cons (.v 3) .nil)) .nil)) (.cons (.ifs (.cmp .Eq (.sub (.v 3) (.v 4)) (.cs (S_ "n"))) (.cons (.augN 1 .Add (.sub (.v 0) (.bin .Add (.v 4) (.ci 1)))) .nil) (.cons (.ifs (.and (.cons (.cmp .Eq (.sub (.v 3) (.v 4)) (.cs (S_ "w"))) (.cons (.cmp .NotEq (.sub (.v 0) (.bin .Add (.v 4) (.ci 1))) (.cs (S_ "else"))) .nil))) (.cons (.augN 1 .Add (.ci 1)) .nil) .nil) .nil)) .nil)) (.cons (.ret (.tup (.cons (.v 1) (.cons (.v 2) .nil)))) .nil)))
theorem k10:FnOk 10 0 [S_ "row"] [S_ "taken",S_ "left",S_ "parts",S_ "at"] R10:=⟨by decide +kernel,by decide +kernel,by decide +kernel,by kernel_rfl⟩
/- jumps_of:0 row,1 parts,2 found,3 at -/
noncomputable def R11:R:=(.cons (.asg 1 (.sub (.dfn (S_ "shape_of") 9 (.cons (.v 0) .nil)) (.ci 2))) (.cons (.asg 2 (.lstN .nil)) (.cons (.for 3 (.blt 1 (.cons (.blt 0 (.cons (.v 1) .nil)) .nil)) (.cons (.ifs (.cmp .Eq (.sub (.v 1) (.v 3)) (.cs (S_ "j"))) (.cons (.expr (.me1 0 (.v 2) (.sub (.v 0) (.bin .Add (.v 3) (.ci 1))))) .nil) (.cons (.ifs (.cmp .Eq (.sub (.v 1) (.v 3)) (.cs (S_ "J"))) (.cons (.expr (.me1 1 (.v 2) (.sub (.v 0) (.bin .Add (.v 3) (.ci 1))))) .nil) .nil) .nil)) .nil)) (.cons (.ret (.fz (.v 2))) .nil))))
theorem k11:FnOk 11 0 [S_ "row"] [S_ "parts",S_ "found",S_ "at"] R11:=⟨by decide +kernel,by decide +kernel,by decide +kernel,by kernel_rfl⟩
/- with_jumps:0 row,1 places,2 parts,3 made,4 used,5 at,6 count -/
noncomputable def R12:R:=(.cons (.asg 2 (.sub (.dfn (S_ "shape_of") 9 (.cons (.v 0) .nil)) (.ci 2))) (.cons (.asg 3 (.lstN (.cons (.sub (.v 0) (.ci 0)) .nil))) (.cons (.asg 4 (.ci 0)) (.cons (.for 5 (.blt 1 (.cons (.blt 0 (.cons (.v 2) .nil)) .nil)) (.cons (.ifs (.cmp .Eq (.sub (.v 2) (.v 5)) (.cs (S_ "j"))) (.cons (.expr (.me1 0 (.v 3) (.sub (.v 1) (.v 4)))) (.cons (.augN 4 .Add (.ci 1)) .nil)) (.cons (.ifs (.cmp .Eq (.sub (.v 2) (.v 5)) (.cs (S_ "J"))) (.cons (.asg 6 (.blt 0 (.cons (.sub (.v 0) (.bin .Add (.v 5) (.ci 1))) .nil))) (.cons (.expr (.me1 0 (.v 3) (.fz (.blt 3 (.cons (.sub (.v 1) (.slc (.v 4) (.bin .Add (.v 4) (.v 6)) .no)) .nil))))) (.cons (.augN 4 .Add (.v 6)) .nil))) (.cons (.expr (.me1 0 (.v 3) (.sub (.v 0) (.bin .Add (.v 5) (.ci 1))))) .nil)) .nil)) .nil)) (.cons (.ret (.fz (.blt 4 (.cons (.v 3) .nil)))) .nil)))))
theorem k12:FnOk 12 0 [S_ "row",S_ "places"] [S_ "parts",S_ "made",S_ "used",S_ "at",S_ "count"] R12:=⟨by decide +kernel,by decide +kernel,by decide +kernel,by kernel_rfl⟩
/- Gen.__init__:0 self,1 tables -/
noncomputable def R15_1:R:=(.cons (.asgA (.v 0) (S_ "tables") (.v 1)) (.cons (.asgA (.v 0) (S_ "rows") (.lstN .nil)) (.cons (.asgA (.v 0) (S_ "marks") (.lstN .nil)) (.cons (.asgA (.v 0) (S_ "height") (.ci 0)) (.cons (.asgA (.v 0) (S_ "blocks") (.ci 0)) (.cons (.asgA (.v 0) (S_ "loops") (.lstF .nil)) (.cons (.asgA (.v 0) (S_ "accepts") (.lstF .nil)) (.cons (.asgA (.v 0) (S_ "ended") (.dfn (S_ "new_mark") 18 (.cons (.v 0) .nil))) (.cons (.asgA (.v 0) (S_ "codes") (.lstN .nil)) .nil)))))))))
theorem k15_1:FnOk 15 1 [S_ "self",S_ "tables"] [] R15_1:=⟨by decide +kernel,by decide +kernel,by decide +kernel,by kernel_rfl⟩
/- Code.__init__:0 self,1 rows,2 source,3 codes -/
noncomputable def R8_1:R:=(.cons (.asgA (.v 0) (S_ "rows") (.v 1)) (.cons (.asgA (.v 0) (S_ "source") (.v 2)) (.cons (.asgA (.v 0) (S_ "codes") (.v 3)) (.cons (.asgA (.v 0) (S_ "barrier") .cn) (.cons (.asgA (.v 0) (S_ "operations") (.lstF .nil)) .nil)))))
theorem k8_1:FnOk 8 1 [S_ "self",S_ "rows",S_ "source",S_ "codes"] [] R8_1:=⟨by decide +kernel,by decide +kernel,by decide +kernel,by kernel_rfl⟩
/- lay:0 gen,1 row,2 taken,3 left -/
noncomputable def R17:R:=(.cons (.asgT [2,3] (.dfn (S_ "effect_of") 10 (.cons (.v 1) .nil))) (.cons (.expr (.me1 0 (.att (.v 0) (S_ "rows")) (.v 1))) (.cons (.augA (.v 0) (S_ "height") .Add (.bin .Sub (.v 3) (.v 2))) .nil)))
theorem k17:FnOk 17 0 [S_ "gen",S_ "row"] [S_ "taken",S_ "left"] R17:=⟨by decide +kernel,by decide +kernel,by decide +kernel,by kernel_rfl⟩
/- new_mark:0 gen -/
noncomputable def R18:R:=(.cons (.expr (.me1 0 (.att (.v 0) (S_ "marks")) (.neg (.ci 1)))) (.cons (.ret (.bin .Sub (.blt 0 (.cons (.att (.v 0) (S_ "marks")) .nil)) (.ci 1))) .nil))
theorem k18:FnOk 18 0 [S_ "gen"] [] R18:=⟨by decide +kernel,by decide +kernel,by decide +kernel,by kernel_rfl⟩
/- put_mark:0 gen,1 mark,2 height -/
noncomputable def R19:R:=(.cons (.asgI (.att (.v 0) (S_ "marks")) (.v 1) (.blt 0 (.cons (.att (.v 0) (S_ "rows")) .nil))) (.cons (.asgA (.v 0) (S_ "height") (.v 2)) .nil))
theorem k19:FnOk 19 0 [S_ "gen",S_ "mark",S_ "height"] [] R19:=⟨by decide +kernel,by decide +kernel,by decide +kernel,by kernel_rfl⟩
/- placed_rows:0 gen,1 row,2 mark -/
noncomputable def R20:R:=(.cons (.ret (.lc 1 [0] (scOf (sp (hdS (sBody (stAt 20 0)))).v) (.fz (.att (.v 0) (S_ "rows"))) (.dfn (S_ "with_jumps") 12 (.cons (.v 1) (.cons (.lc 2 [0] (scOf (hdE (tlE (tlE (kids (k0 (sp (hdS (sBody (stAt 20 0)))).v)))))) (.dfn (S_ "jumps_of") 11 (.cons (.v 1) .nil)) (.sub (.att (.v 0) (S_ "marks")) (.v 2))) .nil))))) .nil)
theorem k20:FnOk 20 0 [S_ "gen"] [S_ "row",S_ "mark"] R20:=⟨by decide +kernel,by decide +kernel,by decide +kernel,by kernel_rfl⟩
/- value_code:0 gen,1 node,2 nodes -/
noncomputable def R21:R:=(.cons (.asg 2 (.sub (.att (.v 0) (S_ "tables")) (.cs (S_ "nodes")))) (.cons (.ifs (.cmp .In (.sub (.v 1) (.ci 0)) (.v 2)) (.cons (.expr (.dyn (.v 2) (.sub (.v 1) (.ci 0)) (.cons (.v 0) (.cons (.v 1) .nil)))) .nil) (.cons (.expr (.dfn (S_ "lay") 17 (.cons (.v 0) (.cons (.tup (.cons (.cs (S_ "refuse")) (.cons (.cs (S_ "no such expression")) .nil))) .nil)))) .nil)) .nil))
theorem k21:FnOk 21 0 [S_ "gen",S_ "node"] [S_ "nodes"] R21:=⟨by decide +kernel,by decide +kernel,by decide +kernel,by kernel_rfl⟩
/- place_code:0 gen,1 node,2 places -/
noncomputable def R22:R:=(.cons (.asg 2 (.sub (.att (.v 0) (S_ "tables")) (.cs (S_ "places")))) (.cons (.ifs (.cmp .In (.sub (.v 1) (.ci 0)) (.v 2)) (.cons (.expr (.dyn (.v 2) (.sub (.v 1) (.ci 0)) (.cons (.v 0) (.cons (.v 1) .nil)))) .nil) (.cons (.expr (.dfn (S_ "value_code") 21 (.cons (.v 0) (.cons (.v 1) .nil)))) (.cons (.expr (.dfn (S_ "lay") 17 (.cons (.v 0) (.cons (.tup (.cons (.cs (S_ "placevalue")) .nil)) .nil)))) .nil))) .nil))
theorem k22:FnOk 22 0 [S_ "gen",S_ "node"] [S_ "places"] R22:=⟨by decide +kernel,by decide +kernel,by decide +kernel,by kernel_rfl⟩
/- target_code:0 gen,1 node -/
noncomputable def R23:R:=(.cons (.expr (.dfn (S_ "place_code") 22 (.cons (.v 0) (.cons (.v 1) .nil)))) (.cons (.expr (.dfn (S_ "lay") 17 (.cons (.v 0) (.cons (.tup (.cons (.cs (S_ "target")) (.cons (.v 1) .nil))) .nil)))) .nil))
theorem k23:FnOk 23 0 [S_ "gen",S_ "node"] [] R23:=⟨by decide +kernel,by decide +kernel,by decide +kernel,by kernel_rfl⟩
/- statement_code:0 gen,1 stmt -/
noncomputable def R24:R:=(.cons (.expr (.dfn (S_ "lay") 17 (.cons (.v 0) (.cons (.tup (.cons (.cs (S_ "step")) (.cons (.sub (.v 1) (.ci 1)) .nil))) .nil)))) (.cons (.expr (.dyn (.sub (.att (.v 0) (S_ "tables")) (.cs (S_ "statements"))) (.sub (.v 1) (.ci 0)) (.cons (.v 0) (.cons (.v 1) .nil)))) .nil))
theorem k24:FnOk 24 0 [S_ "gen",S_ "stmt"] [] R24:=⟨by decide +kernel,by decide +kernel,by decide +kernel,by kernel_rfl⟩
/- statements_code:0 gen,1 stmts,2 stmt -/
noncomputable def R25:R:=(.cons (.for 2 (.v 1) (.cons (.expr (.dfn (S_ "statement_code") 24 (.cons (.v 0) (.cons (.v 2) .nil)))) .nil)) .nil)
theorem k25:FnOk 25 0 [S_ "gen",S_ "stmts"] [S_ "stmt"] R25:=⟨by decide +kernel,by decide +kernel,by decide +kernel,by kernel_rfl⟩
/- declarations_code:0 gen,1 decls,2 decl -/
noncomputable def R26:R:=(.cons (.for 2 (.v 1) (.cons (.expr (.dfn (S_ "lay") 17 (.cons (.v 0) (.cons (.tup (.cons (.cs (S_ "line")) (.cons (.sub (.v 2) (.ci 1)) .nil))) .nil)))) (.cons (.expr (.dyn (.sub (.att (.v 0) (S_ "tables")) (.cs (S_ "declarations"))) (.sub (.v 2) (.ci 0)) (.cons (.v 0) (.cons (.v 2) .nil)))) .nil))) .nil)
theorem k26:FnOk 26 0 [S_ "gen",S_ "decls"] [S_ "decl"] R26:=⟨by decide +kernel,by decide +kernel,by decide +kernel,by kernel_rfl⟩
/- blocks_left:0 gen,1 blocks,2 height,3 before,4 open_now,5 turn -/
noncomputable def R27:R:=(.cons (.rawS (hdS (sBody (stAt 27 0)))) (.cons (.for 5 (.blt 1 (.cons (.bin .Sub (.att (.v 0) (S_ "blocks")) (.v 1)) .nil)) (.cons (.expr (.dfn (S_ "lay") 17 (.cons (.v 0) (.cons (.tup (.cons (.cs (S_ "endblock")) .nil)) .nil)))) .nil)) (.cons (.whl (.cmp .Gt (.att (.v 0) (S_ "height")) (.v 2)) (.cons (.expr (.dfn (S_ "lay") 17 (.cons (.v 0) (.cons (.tup (.cons (.cs (S_ "drop")) .nil)) .nil)))) .nil)) (.cons (.rawS (hdS (tlS (tlS (tlS (sBody (stAt 27 0))))))) .nil))))
theorem k27:FnOk 27 0 [S_ "gen",S_ "blocks",S_ "height"] [S_ "before",S_ "open_now",S_ "turn"] R27:=⟨by decide +kernel,by decide +kernel,by decide +kernel,by kernel_rfl⟩
/- handled_code:0 gen,1 decls,2 stmts,3 handlers,4 end,5 ended,6 marks,7 out,8 height,9 at,10 handler -/
noncomputable def R28:R:=(.cons (.expr (.dfn (S_ "declarations_code") 26 (.cons (.v 0) (.cons (.v 1) .nil)))) (.cons (.asgC 6 10 [0] (scOf (sp (hdS (tlS (sBody (stAt 28 0))))).v) (.v 3) (.dfn (S_ "new_mark") 18 (.cons (.v 0) .nil))) (.cons (.asg 7 (.dfn (S_ "new_mark") 18 (.cons (.v 0) .nil))) (.cons (.asg 8 (.att (.v 0) (S_ "height"))) (.cons (.expr (.dfn (S_ "lay") 17 (.cons (.v 0) (.cons (.tup (.cons (.cs (S_ "arm")) (.cons (.lc 10 [] (scOf (hdE (tlE (kids (hdE (tlE (tlE (kids (sp (hdS (tlS (tlS (tlS (tlS (sBody (stAt 28 0)))))))).v)))))))) (.v 3) (.sub (.v 10) (.ci 0))) (.cons (.v 6) .nil)))) .nil)))) (.cons (.expr (.dfn (S_ "statements_code") 25 (.cons (.v 0) (.cons (.v 2) .nil)))) (.cons (.expr (.dfn (S_ "put_mark") 19 (.cons (.v 0) (.cons (.v 5) (.cons (.v 8) .nil))))) (.cons (.expr (.dfn (S_ "lay") 17 (.cons (.v 0) (.cons (.v 4) .nil)))) (.cons (.ifs (.and (.cons (.cmp .NotEq (.v 3) (.lstF .nil)) (.cons (.raw (hdE (tlE (kids (sp (hdS (tlS (tlS (tlS (tlS (tlS (tlS (tlS (tlS (sBody (stAt 28 0)))))))))))).v)))) .nil))) (.cons (.expr (.dfn (S_ "lay") 17 (.cons (.v 0) (.cons (.tup (.cons (.cs (S_ "jump")) (.cons (.v 7) .nil))) .nil)))) .nil) .nil) (.cons (.for 9 (.blt 1 (.cons (.blt 0 (.cons (.v 3) .nil)) .nil)) (.cons (.expr (.dfn (S_ "put_mark") 19 (.cons (.v 0) (.cons (.sub (.v 6) (.v 9)) (.cons (.v 8) .nil))))) (.cons (.expr (.dfn (S_ "statements_code") 25 (.cons (.v 0) (.cons (.sub (.sub (.v 3) (.v 9)) (.ci 1)) .nil)))) (.cons (.expr (.dfn (S_ "lay") 17 (.cons (.v 0) (.cons (.tup (.cons (.cs (S_ "jump")) (.cons (.v 5) .nil))) .nil)))) .nil)))) (.cons (.expr (.dfn (S_ "put_mark") 19 (.cons (.v 0) (.cons (.v 7) (.cons (.v 8) .nil))))) .nil)))))))))))
theorem k28:FnOk 28 0 [S_ "gen",S_ "decls",S_ "stmts",S_ "handlers",S_ "end",S_ "ended"] [S_ "marks",S_ "out",S_ "height",S_ "at",S_ "handler"] R28:=⟨by decide +kernel,by decide +kernel,by decide +kernel,by kernel_rfl⟩
/- actuals_code:0 gen,1 args,2 mode,3 node -/
noncomputable def R30:R:=(.cons (.forT [2,3] (.v 1) (.cons (.ifs (.cmp .Eq (.v 2) (.cs (S_ "in"))) (.cons (.expr (.dfn (S_ "value_code") 21 (.cons (.v 0) (.cons (.v 3) .nil)))) (.cons (.expr (.dfn (S_ "lay") 17 (.cons (.v 0) (.cons (.tup (.cons (.cs (S_ "actual")) .nil)) .nil)))) .nil)) (.cons (.expr (.dfn (S_ "target_code") 23 (.cons (.v 0) (.cons (.v 3) .nil)))) (.cons (.expr (.dfn (S_ "lay") 17 (.cons (.v 0) (.cons (.tup (.cons (.cs (S_ "actualout")) .nil)) .nil)))) .nil))) .nil)) .nil)
theorem k30:FnOk 30 0 [S_ "gen",S_ "args"] [S_ "mode",S_ "node"] R30:=⟨by decide +kernel,by decide +kernel,by decide +kernel,by kernel_rfl⟩
/- copies_code:0 gen,1 args,2 mode,3 node -/
noncomputable def R31:R:=(.cons (.forT [2,3] (.v 1) (.cons (.expr (.dfn (S_ "value_code") 21 (.cons (.v 0) (.cons (.v 3) .nil)))) (.cons (.expr (.dfn (S_ "lay") 17 (.cons (.v 0) (.cons (.tup (.cons (.cs (S_ "copy")) .nil)) .nil)))) .nil))) .nil)
theorem k31:FnOk 31 0 [S_ "gen",S_ "args"] [S_ "mode",S_ "node"] R31:=⟨by decide +kernel,by decide +kernel,by decide +kernel,by kernel_rfl⟩
/- gen_call:0 gen,1 node -/
noncomputable def R32:R:=(.cons (.expr (.dfn (S_ "copies_code") 31 (.cons (.v 0) (.cons (.sub (.v 1) (.ci 4)) .nil)))) (.cons (.expr (.dfn (S_ "lay") 17 (.cons (.v 0) (.cons (.tup (.cons (.cs (S_ "callf")) (.cons (.sub (.v 1) (.ci 2)) (.cons (.sub (.v 1) (.ci 3)) (.cons (.blt 0 (.cons (.sub (.v 1) (.ci 4)) .nil)) .nil))))) .nil)))) .nil))
theorem k32:FnOk 32 0 [S_ "gen",S_ "node"] [] R32:=⟨by decide +kernel,by decide +kernel,by decide +kernel,by kernel_rfl⟩
/- gen_dispatch:0 gen,1 node -/
noncomputable def R33:R:=(.cons (.expr (.dfn (S_ "copies_code") 31 (.cons (.v 0) (.cons (.sub (.v 1) (.ci 3)) .nil)))) (.cons (.expr (.dfn (S_ "lay") 17 (.cons (.v 0) (.cons (.tup (.cons (.cs (S_ "dispatchf")) (.cons (.sub (.v 1) (.ci 2)) (.cons (.sub (.v 1) (.ci 4)) (.cons (.blt 0 (.cons (.sub (.v 1) (.ci 3)) .nil)) .nil))))) .nil)))) .nil))
theorem k33:FnOk 33 0 [S_ "gen",S_ "node"] [] R33:=⟨by decide +kernel,by decide +kernel,by decide +kernel,by kernel_rfl⟩
/- stmt_pcall:0 gen,1 stmt,2 word,3 line,4 ups,5 name,6 args -/
noncomputable def R35:R:=(.cons (.asgT [2,3,4,5,6] (.v 1)) (.cons (.expr (.dfn (S_ "lay") 17 (.cons (.v 0) (.cons (.tup (.cons (.cs (S_ "sub")) (.cons (.v 4) (.cons (.v 5) .nil)))) .nil)))) (.cons (.expr (.dfn (S_ "actuals_code") 30 (.cons (.v 0) (.cons (.v 6) .nil)))) (.cons (.expr (.dfn (S_ "lay") 17 (.cons (.v 0) (.cons (.tup (.cons (.cs (S_ "callp")) (.cons (.blt 0 (.cons (.v 6) .nil)) .nil))) .nil)))) .nil))))
theorem k35:FnOk 35 0 [S_ "gen",S_ "stmt"] [S_ "word",S_ "line",S_ "ups",S_ "name",S_ "args"] R35:=⟨by decide +kernel,by decide +kernel,by decide +kernel,by kernel_rfl⟩
/- stmt_pdispatch:0 gen,1 stmt,2 word,3 line,4 operation,5 args,6 index -/
noncomputable def R36:R:=(.cons (.asgT [2,3,4,5,6] (.v 1)) (.cons (.expr (.dfn (S_ "actuals_code") 30 (.cons (.v 0) (.cons (.v 5) .nil)))) (.cons (.expr (.dfn (S_ "lay") 17 (.cons (.v 0) (.cons (.tup (.cons (.cs (S_ "dispatchp")) (.cons (.v 4) (.cons (.v 6) (.cons (.blt 0 (.cons (.v 5) .nil)) .nil))))) .nil)))) .nil)))
theorem k36:FnOk 36 0 [S_ "gen",S_ "stmt"] [S_ "word",S_ "line",S_ "operation",S_ "args",S_ "index"] R36:=⟨by decide +kernel,by decide +kernel,by decide +kernel,by kernel_rfl⟩
/- call_gens:-/
noncomputable def R37:R:=(.cons (.ret (.raw (sp (hdS (sBody (stAt 37 0)))).v)) .nil)
theorem k37:FnOk 37 0 [] [] R37:=⟨by decide +kernel,by decide +kernel,by decide +kernel,by kernel_rfl⟩
/- call_statement_gens:-/
noncomputable def R38:R:=(.cons (.ret (.raw (sp (hdS (sBody (stAt 38 0)))).v)) .nil)
theorem k38:FnOk 38 0 [] [] R38:=⟨by decide +kernel,by decide +kernel,by decide +kernel,by kernel_rfl⟩
/- whole_code:0 tables,1 body,2 end,3 gen -/
noncomputable def R39:R:=(.cons (.asg 3 (.cls (S_ "Gen") 15 (.cons (.v 0) .nil))) (.cons (.expr (.dfn (S_ "handled_code") 28 (.cons (.v 3) (.cons (.att (.v 1) (S_ "decls")) (.cons (.att (.v 1) (S_ "stmts")) (.cons (.att (.v 1) (S_ "handlers")) (.cons (.tup (.cons (.v 2) .nil)) (.cons (.att (.v 3) (S_ "ended")) .nil)))))))) (.cons (.ret (.fz (.fz (.cls (S_ "Code") 8 (.cons (.dfn (S_ "placed_rows") 20 (.cons (.v 3) .nil)) (.cons (.v 1) (.cons (.fz (.att (.v 3) (S_ "codes"))) .nil))))))) .nil)))
theorem k39:FnOk 39 0 [S_ "tables",S_ "body",S_ "end"] [S_ "gen"] R39:=⟨by decide +kernel,by decide +kernel,by decide +kernel,by kernel_rfl⟩
/- decl_var:0 gen,1 decl,2 word,3 line,4 name,5 subtype,6 node,7 is_constant -/
noncomputable def R42:R:=(.cons (.asgT [2,3,4,5,6,7] (.v 1)) (.cons (.expr (.dfn (S_ "lay") 17 (.cons (.v 0) (.cons (.tup (.cons (.cs (S_ "begincell")) (.cons (.v 5) .nil))) .nil)))) (.cons (.ifs (.cmp .Is (.v 6) .cn) (.cons (.expr (.dfn (S_ "lay") 17 (.cons (.v 0) (.cons (.tup (.cons (.cs (S_ "firstcell")) (.cons (.v 4) .nil))) .nil)))) .nil) (.cons (.expr (.dfn (S_ "value_code") 21 (.cons (.v 0) (.cons (.v 6) .nil)))) (.cons (.expr (.dfn (S_ "lay") 17 (.cons (.v 0) (.cons (.tup (.cons (.cs (S_ "initcell")) (.cons (.v 4) .nil))) .nil)))) .nil))) .nil)))
theorem k42:FnOk 42 0 [S_ "gen",S_ "decl"] [S_ "word",S_ "line",S_ "name",S_ "subtype",S_ "node",S_ "is_constant"] R42:=⟨by decide +kernel,by decide +kernel,by decide +kernel,by kernel_rfl⟩
/- decl_subtype:0 gen,1 decl -/
noncomputable def R43:R:=(.cons (.expr (.dfn (S_ "lay") 17 (.cons (.v 0) (.cons (.tup (.cons (.cs (S_ "laysubtype")) (.cons (.sub (.v 1) (.ci 2)) (.cons (.sub (.v 1) (.ci 3)) .nil)))) .nil)))) .nil)
theorem k43:FnOk 43 0 [S_ "gen",S_ "decl"] [] R43:=⟨by decide +kernel,by decide +kernel,by decide +kernel,by kernel_rfl⟩
/- decl_type:0 gen,1 decl -/
noncomputable def R44:R:=(.cons (.expr (.dfn (S_ "lay") 17 (.cons (.v 0) (.cons (.tup (.cons (.cs (S_ "laytype")) (.cons (.sub (.v 1) (.ci 2)) .nil))) .nil)))) .nil)
theorem k44:FnOk 44 0 [S_ "gen",S_ "decl"] [] R44:=⟨by decide +kernel,by decide +kernel,by decide +kernel,by kernel_rfl⟩
/- decl_nothing:0 gen,1 decl -/
noncomputable def R45:R:=(.cons .pass .nil)
theorem k45:FnOk 45 0 [S_ "gen",S_ "decl"] [] R45:=⟨by decide +kernel,by decide +kernel,by decide +kernel,by kernel_rfl⟩
/- decl_rename:0 gen,1 decl -/
noncomputable def R46:R:=(.cons (.expr (.dfn (S_ "place_code") 22 (.cons (.v 0) (.cons (.sub (.v 1) (.ci 3)) .nil)))) (.cons (.expr (.dfn (S_ "lay") 17 (.cons (.v 0) (.cons (.tup (.cons (.cs (S_ "layplace")) (.cons (.sub (.v 1) (.ci 2)) .nil))) .nil)))) .nil))
theorem k46:FnOk 46 0 [S_ "gen",S_ "decl"] [] R46:=⟨by decide +kernel,by decide +kernel,by decide +kernel,by kernel_rfl⟩
/- kept_code:0 gen,1 code -/
noncomputable def R47:R:=(.cons (.expr (.me1 0 (.att (.v 0) (S_ "codes")) (.v 1))) (.cons (.ret (.bin .Sub (.blt 0 (.cons (.att (.v 0) (S_ "codes")) .nil)) (.ci 1))) .nil))
theorem k47:FnOk 47 0 [S_ "gen",S_ "code"] [] R47:=⟨by decide +kernel,by decide +kernel,by decide +kernel,by kernel_rfl⟩
/- decl_sub:0 gen,1 decl -/
noncomputable def R48:R:=(.cons (.expr (.dfn (S_ "lay") 17 (.cons (.v 0) (.cons (.tup (.cons (.cs (S_ "laysub")) (.cons (.dfn (S_ "kept_code") 47 (.cons (.v 0) (.cons (.dfn (S_ "whole_code") 39 (.cons (.att (.v 0) (S_ "tables")) (.cons (.sub (.v 1) (.ci 2)) (.cons (.cs (S_ "endsub")) .nil)))) .nil))) .nil))) .nil)))) .nil)
theorem k48:FnOk 48 0 [S_ "gen",S_ "decl"] [] R48:=⟨by decide +kernel,by decide +kernel,by decide +kernel,by kernel_rfl⟩
/- decl_package:0 gen,1 decl,2 word,3 line,4 name,5 decls,6 private,7 own,8 stmts,9 handlers -/
noncomputable def R51:R:=(.cons (.asgT [2,3,4,5,6,7,8,9] (.v 1)) (.cons (.expr (.dfn (S_ "lay") 17 (.cons (.v 0) (.cons (.tup (.cons (.cs (S_ "pack")) .nil)) .nil)))) (.cons (.expr (.dfn (S_ "handled_code") 28 (.cons (.v 0) (.cons (.bin .Add (.bin .Add (.v 5) (.v 6)) (.v 7)) (.cons (.v 8) (.cons (.v 9) (.cons (.tup (.cons (.cs (S_ "endpack")) .nil)) (.cons (.dfn (S_ "new_mark") 18 (.cons (.v 0) .nil)) .nil)))))))) .nil)))
theorem k51:FnOk 51 0 [S_ "gen",S_ "decl"] [S_ "word",S_ "line",S_ "name",S_ "decls",S_ "private",S_ "own",S_ "stmts",S_ "handlers"] R51:=⟨by decide +kernel,by decide +kernel,by decide +kernel,by kernel_rfl⟩
/- declaration_gens:-/
noncomputable def R52:R:=(.cons (.ret (.raw (sp (hdS (sBody (stAt 52 0)))).v)) .nil)
theorem k52:FnOk 52 0 [] [] R52:=⟨by decide +kernel,by decide +kernel,by decide +kernel,by kernel_rfl⟩
/- program_code:0 tables,1 decls,2 main,3 gen -/
noncomputable def R53:R:=(.cons (.asg 3 (.cls (S_ "Gen") 15 (.cons (.v 0) .nil))) (.cons (.expr (.dfn (S_ "declarations_code") 26 (.cons (.v 3) (.cons (.v 1) .nil)))) (.cons (.expr (.dfn (S_ "lay") 17 (.cons (.v 3) (.cons (.tup (.cons (.cs (S_ "arm")) (.cons (.lstF .nil) (.cons (.lstF .nil) .nil)))) .nil)))) (.cons (.expr (.dfn (S_ "lay") 17 (.cons (.v 3) (.cons (.tup (.cons (.cs (S_ "step")) (.cons (.ci 0) .nil))) .nil)))) (.cons (.expr (.dfn (S_ "lay") 17 (.cons (.v 3) (.cons (.tup (.cons (.cs (S_ "sub")) (.cons (.ci 0) (.cons (.v 2) .nil)))) .nil)))) (.cons (.expr (.dfn (S_ "lay") 17 (.cons (.v 3) (.cons (.tup (.cons (.cs (S_ "callp")) (.cons (.ci 0) .nil))) .nil)))) (.cons (.expr (.dfn (S_ "lay") 17 (.cons (.v 3) (.cons (.tup (.cons (.cs (S_ "endbody")) .nil)) .nil)))) (.cons (.expr (.dfn (S_ "put_mark") 19 (.cons (.v 3) (.cons (.att (.v 3) (S_ "ended")) (.cons (.ci 0) .nil))))) (.cons (.ret (.fz (.fz (.cls (S_ "Code") 8 (.cons (.dfn (S_ "placed_rows") 20 (.cons (.v 3) .nil)) (.cons .cn (.cons (.fz (.att (.v 3) (S_ "codes"))) .nil))))))) .nil)))))))))
theorem k53:FnOk 53 0 [S_ "tables",S_ "decls",S_ "main"] [S_ "gen"] R53:=⟨by decide +kernel,by decide +kernel,by decide +kernel,by kernel_rfl⟩
/- Sub.__init__:0 self,1 name -/
noncomputable def R55_1:R:=(.cons (.asgA (.v 0) (S_ "name") (.v 1)) (.cons (.asgA (.v 0) (S_ "params") (.lstF .nil)) (.cons (.asgA (.v 0) (S_ "result") .cn) (.cons (.asgA (.v 0) (S_ "decls") (.lstF .nil)) (.cons (.asgA (.v 0) (S_ "stmts") (.lstF .nil)) (.cons (.asgA (.v 0) (S_ "handlers") (.lstF .nil)) (.cons (.asgA (.v 0) (S_ "ups") (.ci 0)) (.cons (.asgA (.v 0) (S_ "operation") (.cs (S_ ""))) (.cons (.asgA (.v 0) (S_ "control") (.lstF .nil)) .nil)))))))))
theorem k55_1:FnOk 55 1 [S_ "self",S_ "name"] [] R55_1:=⟨by decide +kernel,by decide +kernel,by decide +kernel,by kernel_rfl⟩
/- gen_lit:0 gen,1 node -/
noncomputable def R58:R:=(.cons (.expr (.dfn (S_ "lay") 17 (.cons (.v 0) (.cons (.tup (.cons (.cs (S_ "const")) (.cons (.sub (.v 1) (.ci 2)) .nil))) .nil)))) .nil)
theorem k58:FnOk 58 0 [S_ "gen",S_ "node"] [] R58:=⟨by decide +kernel,by decide +kernel,by decide +kernel,by kernel_rfl⟩
/- gen_obj:0 gen,1 node -/
noncomputable def R60:R:=(.cons (.expr (.dfn (S_ "lay") 17 (.cons (.v 0) (.cons (.tup (.cons (.cs (S_ "obj")) (.cons (.sub (.v 1) (.ci 2)) (.cons (.sub (.v 1) (.ci 3)) .nil)))) .nil)))) .nil)
theorem k60:FnOk 60 0 [S_ "gen",S_ "node"] [] R60:=⟨by decide +kernel,by decide +kernel,by decide +kernel,by kernel_rfl⟩
/- name_gens:-/
noncomputable def R66:R:=(.cons (.ret (.raw (sp (hdS (sBody (stAt 66 0)))).v)) .nil)
theorem k66:FnOk 66 0 [] [] R66:=⟨by decide +kernel,by decide +kernel,by decide +kernel,by kernel_rfl⟩
/- place_obj:0 gen,1 node -/
noncomputable def R67:R:=(.cons (.expr (.dfn (S_ "lay") 17 (.cons (.v 0) (.cons (.tup (.cons (.cs (S_ "place")) (.cons (.sub (.v 1) (.ci 2)) (.cons (.sub (.v 1) (.ci 3)) .nil)))) .nil)))) .nil)
theorem k67:FnOk 67 0 [S_ "gen",S_ "node"] [] R67:=⟨by decide +kernel,by decide +kernel,by decide +kernel,by kernel_rfl⟩
/- place_comp:0 gen,1 node -/
noncomputable def R68:R:=(.cons (.expr (.dfn (S_ "place_code") 22 (.cons (.v 0) (.cons (.sub (.v 1) (.ci 2)) .nil)))) (.cons (.expr (.dfn (S_ "lay") 17 (.cons (.v 0) (.cons (.tup (.cons (.cs (S_ "placecomp")) (.cons (.sub (.v 1) (.ci 3)) .nil))) .nil)))) .nil))
theorem k68:FnOk 68 0 [S_ "gen",S_ "node"] [] R68:=⟨by decide +kernel,by decide +kernel,by decide +kernel,by kernel_rfl⟩
/- place_deref:0 gen,1 node -/
noncomputable def R71:R:=(.cons (.expr (.dfn (S_ "value_code") 21 (.cons (.v 0) (.cons (.sub (.v 1) (.ci 2)) .nil)))) (.cons (.expr (.dfn (S_ "lay") 17 (.cons (.v 0) (.cons (.tup (.cons (.cs (S_ "placederef")) .nil)) .nil)))) .nil))
theorem k71:FnOk 71 0 [S_ "gen",S_ "node"] [] R71:=⟨by decide +kernel,by decide +kernel,by decide +kernel,by kernel_rfl⟩
/- place_gens:-/
noncomputable def R73:R:=(.cons (.ret (.raw (sp (hdS (sBody (stAt 73 0)))).v)) .nil)
theorem k73:FnOk 73 0 [] [] R73:=⟨by decide +kernel,by decide +kernel,by decide +kernel,by kernel_rfl⟩
/- stmt_null:0 gen,1 stmt -/
noncomputable def R75:R:=(.cons .pass .nil)
theorem k75:FnOk 75 0 [S_ "gen",S_ "stmt"] [] R75:=⟨by decide +kernel,by decide +kernel,by decide +kernel,by kernel_rfl⟩
/- stmt_assign:0 gen,1 stmt -/
noncomputable def R76:R:=(.cons (.expr (.dfn (S_ "value_code") 21 (.cons (.v 0) (.cons (.sub (.v 1) (.ci 3)) .nil)))) (.cons (.expr (.dfn (S_ "target_code") 23 (.cons (.v 0) (.cons (.sub (.v 1) (.ci 2)) .nil)))) (.cons (.expr (.dfn (S_ "lay") 17 (.cons (.v 0) (.cons (.tup (.cons (.cs (S_ "store")) .nil)) .nil)))) .nil)))
theorem k76:FnOk 76 0 [S_ "gen",S_ "stmt"] [] R76:=⟨by decide +kernel,by decide +kernel,by decide +kernel,by kernel_rfl⟩
/- leave_code:0 gen,1 part -/
noncomputable def R84:R:=(.cons (.ifs (.cmp .NotEq (.att (.v 0) (S_ "accepts")) (.lstF .nil)) (.cons (.asg 1 (.sub (.att (.v 0) (S_ "accepts")) (.neg (.ci 1)))) (.cons (.expr (.dfn (S_ "blocks_left") 27 (.cons (.v 0) (.cons (.att (.v 1) (S_ "blocks")) (.cons (.att (.v 1) (S_ "height")) .nil))))) (.cons (.expr (.dfn (S_ "lay") 17 (.cons (.v 0) (.cons (.tup (.cons (.cs (S_ "jump")) (.cons (.att (.v 1) (S_ "mark")) .nil))) .nil)))) .nil))) (.cons (.expr (.dfn (S_ "blocks_left") 27 (.cons (.v 0) (.cons (.ci 0) (.cons (.ci 0) .nil))))) (.cons (.expr (.dfn (S_ "lay") 17 (.cons (.v 0) (.cons (.tup (.cons (.cs (S_ "jump")) (.cons (.att (.v 0) (S_ "ended")) .nil))) .nil)))) .nil))) .nil)
theorem k84:FnOk 84 0 [S_ "gen"] [S_ "part"] R84:=⟨by decide +kernel,by decide +kernel,by decide +kernel,by kernel_rfl⟩
/- stmt_return:0 gen,1 stmt -/
noncomputable def R85:R:=(.cons (.ifs (.cmp .IsNot (.sub (.v 1) (.ci 2)) .cn) (.cons (.expr (.dfn (S_ "value_code") 21 (.cons (.v 0) (.cons (.sub (.v 1) (.ci 2)) .nil)))) (.cons (.expr (.dfn (S_ "lay") 17 (.cons (.v 0) (.cons (.tup (.cons (.cs (S_ "result")) .nil)) .nil)))) .nil)) .nil) (.cons (.expr (.dfn (S_ "leave_code") 84 (.cons (.v 0) .nil))) .nil))
theorem k85:FnOk 85 0 [S_ "gen",S_ "stmt"] [] R85:=⟨by decide +kernel,by decide +kernel,by decide +kernel,by kernel_rfl⟩
/- plain_gens:-/
noncomputable def R86:R:=(.cons (.ret (.raw (sp (hdS (sBody (stAt 86 0)))).v)) .nil)
theorem k86:FnOk 86 0 [] [] R86:=⟨by decide +kernel,by decide +kernel,by decide +kernel,by kernel_rfl⟩
/- _law_digit:0 strip,1 many -/
noncomputable def R88:R:=(.cons (.asgI (.v 0) (.cs (S_ "used")) (.bin .Add (.sub (.v 0) (.cs (S_ "used"))) (.ci 1))) (.cons (.ifs (.cmp .LtE (.sub (.v 0) (.cs (S_ "used"))) (.blt 0 (.cons (.sub (.v 0) (.cs (S_ "script"))) .nil))) (.cons (.ret (.bin .Mod (.sub (.sub (.v 0) (.cs (S_ "script"))) (.bin .Sub (.sub (.v 0) (.cs (S_ "used"))) (.ci 1))) (.v 1))) .nil) .nil) (.cons (.ret (.bin .Mod (.bin .Add (.sub (.v 0) (.cs (S_ "used"))) (.bin .Mult (.bin .FloorDiv (.sub (.v 0) (.cs (S_ "used"))) (.ci 3)) (.ci 2))) (.v 1))) .nil)))
theorem k88:FnOk 88 0 [S_ "strip",S_ "many"] [] R88:=⟨by decide +kernel,by decide +kernel,by decide +kernel,by kernel_rfl⟩
/- _law_value:0 strip,1 first,2 deep,3 way,4 args,5 _ -/
noncomputable def R89:R:=(.cons (.asgI (.v 0) (.cs (S_ "left")) (.bin .Sub (.sub (.v 0) (.cs (S_ "left"))) (.ci 1))) (.cons (.asg 3 (.ifx (.and (.cons (.cmp .Gt (.v 2) (.ci 0)) (.cons (.cmp .Gt (.sub (.v 0) (.cs (S_ "left"))) (.ci 0)) .nil))) (.dfn (S_ "_law_digit") 88 (.cons (.v 0) (.cons (.ci 5) .nil))) (.dfn (S_ "_law_digit") 88 (.cons (.v 0) (.cons (.ci 2) .nil))))) (.cons (.ifs (.cmp .Eq (.v 3) (.ci 0)) (.cons (.ret (.tup (.cons (.cs (S_ "lit")) (.cons (.ci 0) (.cons (.dfn (S_ "_law_digit") 88 (.cons (.v 0) (.cons (.ci 9) .nil))) .nil))))) .nil) .nil) (.cons (.ifs (.cmp .Lt (.v 3) (.ci 3)) (.cons (.ret (.tup (.cons (.cs (S_ "obj")) (.cons (.ci 0) (.cons (.dfn (S_ "_law_digit") 88 (.cons (.v 0) (.cons (.ci 2) .nil))) (.cons (.cs (S_ "x#1")) .nil)))))) .nil) .nil) (.cons (.asgC 4 5 [0,1,2] (scOf (sp (hdS (tlS (tlS (tlS (tlS (sBody (stAt 89 0)))))))).v) (.blt 1 (.cons (.dfn (S_ "_law_digit") 88 (.cons (.v 0) (.cons (.ci 3) .nil))) .nil)) (.tup (.cons (.cs (S_ "in")) (.cons (.dfn (S_ "_law_value") 89 (.cons (.v 0) (.cons (.v 1) (.cons (.bin .Sub (.v 2) (.ci 1)) .nil)))) .nil)))) (.cons (.ifs (.cmp .Eq (.v 3) (.ci 4)) (.cons (.ret (.tup (.cons (.cs (S_ "dispatch")) (.cons (.ci 0) (.cons (.cs (S_ "area")) (.cons (.v 4) (.cons (.dfn (S_ "_law_digit") 88 (.cons (.v 0) (.cons (.ci 2) .nil))) .nil))))))) .nil) .nil) (.cons (.ret (.tup (.cons (.cs (S_ "call")) (.cons (.ci 0) (.cons (.dfn (S_ "_law_digit") 88 (.cons (.v 0) (.cons (.ci 3) .nil))) (.cons (.dfn (S_ "_law_goal") 90 (.cons (.v 0) (.cons (.v 1) .nil))) (.cons (.v 4) .nil))))))) .nil)))))))
theorem k89:FnOk 89 0 [S_ "strip",S_ "first",S_ "deep"] [S_ "way",S_ "args",S_ "_"] R89:=⟨by decide +kernel,by decide +kernel,by decide +kernel,by kernel_rfl⟩
/- _law_goal:0 strip,1 first -/
noncomputable def R90:R:=(.cons (.ret (.bin .Add (.cs (S_ "s#")) (.blt 2 (.cons (.bin .Add (.v 1) (.dfn (S_ "_law_digit") 88 (.cons (.v 0) (.cons (.ifx (.cmp .Lt (.v 1) (.ci 4)) (.bin .Sub (.ci 4) (.v 1)) (.ci 1)) .nil)))) .nil)))) .nil)
theorem k90:FnOk 90 0 [S_ "strip",S_ "first"] [] R90:=⟨by decide +kernel,by decide +kernel,by decide +kernel,by kernel_rfl⟩
/- _law_args:0 strip,1 first,2 found,3 _,4 place -/
noncomputable def R91:R:=(.cons (.asg 2 (.lstN .nil)) (.cons (.for 3 (.blt 1 (.cons (.dfn (S_ "_law_digit") 88 (.cons (.v 0) (.cons (.ci 3) .nil))) .nil)) (.cons (.ifs (.cmp .Gt (.dfn (S_ "_law_digit") 88 (.cons (.v 0) (.cons (.ci 3) .nil))) (.ci 0)) (.cons (.expr (.me1 0 (.v 2) (.tup (.cons (.cs (S_ "in")) (.cons (.dfn (S_ "_law_value") 89 (.cons (.v 0) (.cons (.v 1) (.cons (.ci 2) .nil)))) .nil))))) .nil) (.cons (.asg 4 (.sub (.lstF (.cons (.tup (.cons (.cs (S_ "obj")) (.cons (.ci 0) (.cons (.ci 0) (.cons (.cs (S_ "y#2")) .nil))))) (.cons (.tup (.cons (.cs (S_ "comp")) (.cons (.ci 0) (.cons (.tup (.cons (.cs (S_ "obj")) (.cons (.ci 0) (.cons (.ci 1) (.cons (.cs (S_ "r#3")) .nil))))) (.cons (.cs (S_ "f")) .nil))))) (.cons (.tup (.cons (.cs (S_ "deref")) (.cons (.ci 0) (.cons (.dfn (S_ "_law_value") 89 (.cons (.v 0) (.cons (.v 1) (.cons (.ci 1) .nil)))) .nil)))) .nil)))) (.dfn (S_ "_law_digit") 88 (.cons (.v 0) (.cons (.ci 3) .nil))))) (.cons (.expr (.me1 0 (.v 2) (.tup (.cons (.sub (.lstF (.cons (.cs (S_ "out")) (.cons (.cs (S_ "inout")) .nil))) (.dfn (S_ "_law_digit") 88 (.cons (.v 0) (.cons (.ci 2) .nil)))) (.cons (.v 4) .nil))))) .nil))) .nil)) (.cons (.ret (.fz (.v 2))) .nil)))
theorem k91:FnOk 91 0 [S_ "strip",S_ "first"] [S_ "found",S_ "_",S_ "place"] R91:=⟨by decide +kernel,by decide +kernel,by decide +kernel,by kernel_rfl⟩
/- _law_stmts:0 strip,1 first,2 found,3 _,4 way -/
noncomputable def R92:R:=(.cons (.asg 2 (.lstN .nil)) (.cons (.for 3 (.blt 1 (.cons (.dfn (S_ "_law_digit") 88 (.cons (.v 0) (.cons (.ci 3) .nil))) .nil)) (.cons (.asgI (.v 0) (.cs (S_ "line")) (.bin .Add (.sub (.v 0) (.cs (S_ "line"))) (.ci 1))) (.cons (.asg 4 (.dfn (S_ "_law_digit") 88 (.cons (.v 0) (.cons (.ci 6) .nil)))) (.cons (.ifs (.cmp .Lt (.v 4) (.ci 2)) (.cons (.expr (.me1 0 (.v 2) (.tup (.cons (.cs (S_ "pcall")) (.cons (.sub (.v 0) (.cs (S_ "line"))) (.cons (.dfn (S_ "_law_digit") 88 (.cons (.v 0) (.cons (.ci 2) .nil))) (.cons (.dfn (S_ "_law_goal") 90 (.cons (.v 0) (.cons (.v 1) .nil))) (.cons (.dfn (S_ "_law_args") 91 (.cons (.v 0) (.cons (.v 1) .nil))) .nil)))))))) .nil) (.cons (.ifs (.cmp .Eq (.v 4) (.ci 2)) (.cons (.expr (.me1 0 (.v 2) (.tup (.cons (.cs (S_ "pdispatch")) (.cons (.sub (.v 0) (.cs (S_ "line"))) (.cons (.cs (S_ "draw")) (.cons (.dfn (S_ "_law_args") 91 (.cons (.v 0) (.cons (.v 1) .nil))) (.cons (.dfn (S_ "_law_digit") 88 (.cons (.v 0) (.cons (.ci 2) .nil))) .nil)))))))) .nil) (.cons (.ifs (.cmp .Eq (.v 4) (.ci 3)) (.cons (.expr (.me1 0 (.v 2) (.tup (.cons (.cs (S_ "assign")) (.cons (.sub (.v 0) (.cs (S_ "line"))) (.cons (.tup (.cons (.cs (S_ "obj")) (.cons (.ci 0) (.cons (.ci 0) (.cons (.cs (S_ "y#2")) .nil))))) (.cons (.dfn (S_ "_law_value") 89 (.cons (.v 0) (.cons (.v 1) (.cons (.ci 2) .nil)))) .nil))))))) .nil) (.cons (.ifs (.and (.cons (.cmp .Eq (.v 4) (.ci 4)) (.cons (.cmp .Gt (.v 1) (.ci 0)) .nil))) (.cons (.expr (.me1 0 (.v 2) (.tup (.cons (.cs (S_ "return")) (.cons (.sub (.v 0) (.cs (S_ "line"))) (.cons (.sub (.lstF (.cons .cn (.cons (.dfn (S_ "_law_value") 89 (.cons (.v 0) (.cons (.v 1) (.cons (.ci 1) .nil)))) .nil))) (.dfn (S_ "_law_digit") 88 (.cons (.v 0) (.cons (.ci 2) .nil)))) .nil)))))) .nil) (.cons (.expr (.me1 0 (.v 2) (.tup (.cons (.cs (S_ "null")) (.cons (.sub (.v 0) (.cs (S_ "line"))) .nil))))) .nil)) .nil)) .nil)) .nil)) .nil)))) (.cons (.ret (.fz (.v 2))) .nil)))
theorem k92:FnOk 92 0 [S_ "strip",S_ "first"] [S_ "found",S_ "_",S_ "way"] R92:=⟨by decide +kernel,by decide +kernel,by decide +kernel,by kernel_rfl⟩
/- _law_decls:0 strip,1 first,2 deep,3 found,4 _,5 line,6 way,7 parts -/
noncomputable def R93:R:=(.cons (.asg 3 (.lstN .nil)) (.cons (.for 4 (.blt 1 (.cons (.ifx (.cmp .Gt (.sub (.v 0) (.cs (S_ "left"))) (.ci 0)) (.dfn (S_ "_law_digit") 88 (.cons (.v 0) (.cons (.ci 3) .nil))) (.ci 0)) .nil)) (.cons (.asgI (.v 0) (.cs (S_ "line")) (.bin .Add (.sub (.v 0) (.cs (S_ "line"))) (.ci 1))) (.cons (.asgI (.v 0) (.cs (S_ "left")) (.bin .Sub (.sub (.v 0) (.cs (S_ "left"))) (.ci 1))) (.cons (.asg 5 (.sub (.v 0) (.cs (S_ "line")))) (.cons (.asg 6 (.dfn (S_ "_law_digit") 88 (.cons (.v 0) (.cons (.ci 7) .nil)))) (.cons (.ifs (.and (.cons (.cmp .Eq (.v 6) (.ci 5)) (.cons (.cmp .Gt (.v 2) (.ci 0)) .nil))) (.cons (.asgC 7 4 [0,1,2] (scOf (sp (hdS (sp (hdS (tlS (tlS (tlS (tlS (sp (hdS (tlS (sBody (stAt 93 0))))).a)))))).a)).v) (.blt 1 (.cons (.ci 3) .nil)) (.fz (.dfn (S_ "_law_decls") 93 (.cons (.v 0) (.cons (.v 1) (.cons (.bin .Sub (.v 2) (.ci 1)) .nil)))))) (.cons (.expr (.me1 0 (.v 3) (.tup (.cons (.cs (S_ "package")) (.cons (.v 5) (.cons (.cs (S_ "p")) (.cons (.sub (.v 7) (.ci 0)) (.cons (.sub (.v 7) (.ci 1)) (.cons (.sub (.v 7) (.ci 2)) (.cons (.dfn (S_ "_law_stmts") 92 (.cons (.v 0) (.cons (.ci 0) .nil))) (.cons (.lstF .nil) .nil))))))))))) .nil)) (.cons (.ifs (.or (.cons (.cmp .Lt (.v 6) (.ci 2)) (.cons (.cmp .Eq (.v 6) (.ci 5)) .nil))) (.cons (.expr (.me1 0 (.v 3) (.tup (.cons (.cs (S_ "var")) (.cons (.v 5) (.cons (.bin .Add (.cs (S_ "x#")) (.blt 2 (.cons (.v 5) .nil))) (.cons (.cs (S_ "S")) (.cons (.sub (.lstF (.cons .cn (.cons (.dfn (S_ "_law_value") 89 (.cons (.v 0) (.cons (.v 1) (.cons (.ci 2) .nil)))) .nil))) (.bin .Mod (.v 6) (.ci 2))) (.cons (.cb false) .nil))))))))) .nil) (.cons (.ifs (.cmp .Eq (.v 6) (.ci 6)) (.cons (.expr (.me1 0 (.v 3) (.tup (.cons (.cs (S_ "rename")) (.cons (.v 5) (.cons (.bin .Add (.cs (S_ "w#")) (.blt 2 (.cons (.v 5) .nil))) (.cons (.tup (.cons (.cs (S_ "deref")) (.cons (.ci 0) (.cons (.dfn (S_ "_law_value") 89 (.cons (.v 0) (.cons (.v 1) (.cons (.ci 1) .nil)))) .nil)))) .nil))))))) .nil) (.cons (.expr (.me1 0 (.v 3) (.sub (.lstF (.cons (.tup (.cons (.cs (S_ "subtype")) (.cons (.v 5) (.cons (.cs (S_ "t#4")) (.cons (.cs (S_ "S")) .nil))))) (.cons (.tup (.cons (.cs (S_ "type")) (.cons (.v 5) (.cons (.cs (S_ "T")) .nil)))) (.cons (.tup (.cons (.cs (S_ "exception")) (.cons (.v 5) (.cons (.cs (S_ "e")) .nil)))) .nil)))) (.bin .Sub (.v 6) (.ci 2))))) .nil)) .nil)) .nil)) .nil)))))) (.cons (.ret (.v 3)) .nil)))
theorem k93:FnOk 93 0 [S_ "strip",S_ "first",S_ "deep"] [S_ "found",S_ "_",S_ "line",S_ "way",S_ "parts"] R93:=⟨by decide +kernel,by decide +kernel,by decide +kernel,by kernel_rfl⟩
/- _law_sub:0 strip,1 number,2 sub -/
noncomputable def R94:R:=(.cons (.asg 2 (.cls (S_ "Sub") 55 (.cons (.bin .Add (.cs (S_ "s#")) (.blt 2 (.cons (.v 1) .nil))) .nil))) (.cons (.asgA (.v 2) (S_ "decls") (.fz (.dfn (S_ "_law_decls") 93 (.cons (.v 0) (.cons (.bin .Add (.v 1) (.ci 1)) (.cons (.ci 0) .nil)))))) (.cons (.asgA (.v 2) (S_ "stmts") (.dfn (S_ "_law_stmts") 92 (.cons (.v 0) (.cons (.bin .Add (.v 1) (.ci 1)) .nil)))) (.cons (.ret (.fz (.v 2))) .nil))))
theorem k94:FnOk 94 0 [S_ "strip",S_ "number"] [S_ "sub"] R94:=⟨by decide +kernel,by decide +kernel,by decide +kernel,by kernel_rfl⟩
/- _law_tell:0 book,1 deed -/
noncomputable def R95:R:=(.cons (.ifs (.cmp .Gt (.blt 0 (.cons (.sub (.v 0) (.cs (S_ "deeds"))) .nil)) (.ci 90)) (.cons (.raise (.exc (S_ "EndRun") 4 (.cons (.cs (S_ "long")) .nil))) .nil) .nil) (.cons (.expr (.me1 0 (.sub (.v 0) (.cs (S_ "deeds"))) (.v 1))) .nil))
theorem k95:FnOk 95 0 [S_ "book",S_ "deed"] [] R95:=⟨by decide +kernel,by decide +kernel,by decide +kernel,by kernel_rfl⟩
/- _law_found:0 book,1 name -/
noncomputable def R96:R:=(.cons (.expr (.dfn (S_ "_law_tell") 95 (.cons (.v 0) (.cons (.bin .Add (.cs (S_ "look for ")) (.v 1)) .nil)))) (.cons (.ifs (.cmp .NotIn (.v 1) (.sub (.v 0) (.cs (S_ "laid")))) (.cons (.raise (.exc (S_ "AdaRaise") 2 (.cons (.cs (S_ "program_error")) (.cons (.ci 0) (.cons (.cs (S_ "")) .nil))))) .nil) .nil) (.cons (.ret (.sub (.sub (.v 0) (.cs (S_ "laid"))) (.v 1))) .nil)))
theorem k96:FnOk 96 0 [S_ "book",S_ "name"] [] R96:=⟨by decide +kernel,by decide +kernel,by decide +kernel,by kernel_rfl⟩
/- _law_made:0 book,1 word,2 what,3 taken,4 text -/
noncomputable def R97:R:=(.cons (.asg 4 (.bin .Add (.bin .Add (.bin .Add (.bin .Add (.bin .Add (.v 1) (.cs (S_ " "))) (.v 2)) (.cs (S_ "("))) (.me1 3 (.cs (S_ ", ")) (.v 3))) (.cs (S_ ")")))) (.cons (.expr (.dfn (S_ "_law_tell") 95 (.cons (.v 0) (.cons (.v 4) .nil)))) (.cons (.ret (.v 4)) .nil)))
theorem k97:FnOk 97 0 [S_ "book",S_ "word",S_ "what",S_ "taken"] [S_ "text"] R97:=⟨by decide +kernel,by decide +kernel,by decide +kernel,by kernel_rfl⟩
/- _law_call_row:0 book,1 row,2 taken,3 code,4 text -/
noncomputable def R98:R:=(.cons (.ifs (.cmp .Eq (.sub (.v 1) (.ci 0)) (.cs (S_ "callp"))) (.cons (.expr (.dfn (S_ "_law_made") 97 (.cons (.v 0) (.cons (.cs (S_ "call")) (.cons (.sub (.v 2) (.ci 0)) (.cons (.sub (.v 2) (.slc (.ci 1) .no .no)) .nil)))))) (.cons (.expr (.dfn (S_ "_law_played") 100 (.cons (.v 0) (.cons (.sub (.sub (.v 0) (.cs (S_ "laid"))) (.sub (.v 2) (.ci 0))) .nil)))) (.cons (.ret .cn) .nil))) .nil) (.cons (.ifs (.cmp .In (.sub (.v 1) (.ci 0)) (.tup (.cons (.cs (S_ "dispatchf")) (.cons (.cs (S_ "dispatchp")) .nil)))) (.cons (.asg 4 (.dfn (S_ "_law_made") 97 (.cons (.v 0) (.cons (.bin .Add (.cs (S_ "by tag ")) (.blt 2 (.cons (.sub (.v 1) (.ci 2)) .nil))) (.cons (.sub (.v 1) (.ci 1)) (.cons (.v 2) .nil)))))) (.cons (.ret (.ifx (.cmp .Eq (.sub (.v 1) (.ci 0)) (.cs (S_ "dispatchf"))) (.v 4) .cn)) .nil)) .nil) (.cons (.asg 3 (.dfn (S_ "_law_found") 96 (.cons (.v 0) (.cons (.sub (.v 1) (.ci 2)) .nil)))) (.cons (.asg 4 (.dfn (S_ "_law_made") 97 (.cons (.v 0) (.cons (.cs (S_ "call")) (.cons (.sub (.v 1) (.ci 2)) (.cons (.v 2) .nil)))))) (.cons (.expr (.dfn (S_ "_law_played") 100 (.cons (.v 0) (.cons (.v 3) .nil)))) (.cons (.ret (.v 4)) .nil))))))
theorem k98:FnOk 98 0 [S_ "book",S_ "row",S_ "taken"] [S_ "code",S_ "text"] R98:=⟨by decide +kernel,by decide +kernel,by decide +kernel,by kernel_rfl⟩
/- _law_row:0 book,1 code,2 row,3 stack,4 word,5 inner,6 count,7 taken,8 left,9 _ -/
noncomputable def R99:R:=(.cons (.asg 4 (.sub (.v 2) (.ci 0))) (.cons (.ifs (.cmp .In (.v 4) (.tup (.cons (.cs (S_ "step")) (.cons (.cs (S_ "line")) (.cons (.cs (S_ "arm")) (.cons (.cs (S_ "pack")) (.cons (.cs (S_ "endpack")) (.cons (.cs (S_ "laysubtype")) (.cons (.cs (S_ "laytype")) .nil))))))))) (.cons (.expr (.dfn (S_ "_law_tell") 95 (.cons (.v 0) (.cons (.bin .Add (.bin .Add (.v 4) (.cs (S_ " "))) (.blt 2 (.cons (.ifx (.cmp .NotEq (.v 4) (.cs (S_ "arm"))) (.sub (.v 2) (.slc (.ci 1) (.ci 3) .no)) (.cs (S_ ""))) .nil))) .nil)))) .nil) (.cons (.ifs (.cmp .Eq (.v 4) (.cs (S_ "laysub"))) (.cons (.asg 5 (.sub (.att (.v 1) (S_ "codes")) (.sub (.v 2) (.ci 1)))) (.cons (.asgI (.sub (.v 0) (.cs (S_ "laid"))) (.att (.att (.v 5) (S_ "source")) (S_ "name")) (.v 5)) (.cons (.expr (.dfn (S_ "_law_tell") 95 (.cons (.v 0) (.cons (.bin .Add (.cs (S_ "lay ")) (.att (.att (.v 5) (S_ "source")) (S_ "name"))) .nil)))) .nil))) (.cons (.ifs (.cmp .Eq (.v 4) (.cs (S_ "sub"))) (.cons (.expr (.dfn (S_ "_law_found") 96 (.cons (.v 0) (.cons (.sub (.v 2) (.ci 2)) .nil)))) (.cons (.expr (.me1 0 (.v 3) (.sub (.v 2) (.ci 2)))) .nil)) (.cons (.ifs (.cmp .In (.v 4) (.tup (.cons (.cs (S_ "callp")) (.cons (.cs (S_ "callf")) (.cons (.cs (S_ "dispatchp")) (.cons (.cs (S_ "dispatchf")) .nil)))))) (.cons (.asg 6 (.bin .Add (.sub (.v 2) (.neg (.ci 1))) (.ifx (.cmp .Eq (.v 4) (.cs (S_ "callp"))) (.ci 1) (.ci 0)))) (.cons (.asg 7 (.sub (.lc 9 [3] (scOf (k0 (sp (hdS (tlS (sp (hdS (sp (hdS (sp (hdS (sp (hdS (tlS (sBody (stAt 99 0))))).b)).b)).b)).a))).v)) (.blt 1 (.cons (.v 6) .nil)) (.me0 2 (.v 3))) (.slc .no .no (.neg (.ci 1))))) (.cons (.asg 8 (.dfn (S_ "_law_call_row") 98 (.cons (.v 0) (.cons (.v 2) (.cons (.v 7) .nil))))) (.cons (.ifs (.cmp .IsNot (.v 8) .cn) (.cons (.expr (.me1 0 (.v 3) (.v 8))) .nil) .nil) .nil)))) (.cons (.ifs (.cmp .In (.v 4) (.tup (.cons (.cs (S_ "const")) (.cons (.cs (S_ "obj")) (.cons (.cs (S_ "place")) (.cons (.cs (S_ "begincell")) .nil)))))) (.cons (.expr (.me1 0 (.v 3) (.bin .Add (.v 4) (.blt 2 (.cons (.fz (.blt 3 (.cons (.sub (.v 2) (.slc (.ci 1) .no .no)) .nil))) .nil))))) .nil) (.cons (.ifs (.cmp .In (.v 4) (.tup (.cons (.cs (S_ "actual")) (.cons (.cs (S_ "actualout")) (.cons (.cs (S_ "copy")) (.cons (.cs (S_ "target")) (.cons (.cs (S_ "placecomp")) (.cons (.cs (S_ "placederef")) .nil)))))))) (.cons (.expr (.me1 0 (.v 3) (.dfn (S_ "_law_made") 97 (.cons (.v 0) (.cons (.v 4) (.cons (.blt 2 (.cons (.ifx (.cmp .Eq (.v 4) (.cs (S_ "placecomp"))) (.sub (.v 2) (.slc (.ci 1) .no .no)) (.cs (S_ ""))) .nil)) (.cons (.lstF (.cons (.me0 2 (.v 3)) .nil)) .nil))))))) .nil) (.cons (.asg 6 (.ifx (.cmp .In (.v 4) (.tup (.cons (.cs (S_ "store")) (.cons (.cs (S_ "initcell")) .nil)))) (.ci 2) (.ci 1))) (.cons (.asg 7 (.sub (.lc 9 [3] (scOf (k0 (sp (hdS (tlS (sp (hdS (sp (hdS (sp (hdS (sp (hdS (sp (hdS (sp (hdS (tlS (sBody (stAt 99 0))))).b)).b)).b)).b)).b)).b))).v)) (.blt 1 (.cons (.v 6) .nil)) (.me0 2 (.v 3))) (.slc .no .no (.neg (.ci 1))))) (.cons (.expr (.dfn (S_ "_law_made") 97 (.cons (.v 0) (.cons (.v 4) (.cons (.blt 2 (.cons (.sub (.v 2) (.slc (.ci 1) .no .no)) .nil)) (.cons (.v 7) .nil)))))) .nil)))) .nil)) .nil)) .nil)) .nil)) .nil)) .nil))
theorem k99:FnOk 99 0 [S_ "book",S_ "code",S_ "row",S_ "stack"] [S_ "word",S_ "inner",S_ "count",S_ "taken",S_ "left",S_ "_"] R99:=⟨by decide +kernel,by decide +kernel,by decide +kernel,by kernel_rfl⟩
/- _law_played:0 book,1 code,2 stack,3 at,4 row -/
noncomputable def R100:R:=(.cons (.asg 2 (.lstN .nil)) (.cons (.asg 3 (.ci 0)) (.cons (.whl (.cmp .NotIn (.sub (.sub (.att (.v 1) (S_ "rows")) (.v 3)) (.ci 0)) (.tup (.cons (.cs (S_ "endsub")) (.cons (.cs (S_ "endbody")) .nil)))) (.cons (.asg 4 (.sub (.att (.v 1) (S_ "rows")) (.v 3))) (.cons (.asg 3 (.bin .Add (.v 3) (.ci 1))) (.cons (.ifs (.cmp .Eq (.sub (.v 4) (.ci 0)) (.cs (S_ "jump"))) (.cons (.asg 3 (.sub (.v 4) (.ci 1))) .nil) (.cons (.expr (.dfn (S_ "_law_row") 99 (.cons (.v 0) (.cons (.v 1) (.cons (.v 4) (.cons (.v 2) .nil)))))) .nil)) .nil)))) (.cons (.expr (.dfn (S_ "_law_tell") 95 (.cons (.v 0) (.cons (.bin .Add (.bin .Add (.sub (.sub (.att (.v 1) (S_ "rows")) (.v 3)) (.ci 0)) (.cs (S_ " "))) (.blt 2 (.cons (.blt 0 (.cons (.v 2) .nil)) .nil))) .nil)))) .nil))))
theorem k100:FnOk 100 0 [S_ "book",S_ "code"] [S_ "stack",S_ "at",S_ "row"] R100:=⟨by decide +kernel,by decide +kernel,by decide +kernel,by kernel_rfl⟩
/- _law_says:0 book,1 node,2 word,3 pairs,4 taken,5 mode,6 inner,7 sub,8 text -/
noncomputable def R101:R:=(.cons (.asg 2 (.sub (.v 1) (.ci 0))) (.cons (.ifs (.cmp .Eq (.v 2) (.cs (S_ "lit"))) (.cons (.ret (.bin .Add (.cs (S_ "const")) (.blt 2 (.cons (.lstF (.cons (.sub (.v 1) (.ci 2)) .nil)) .nil)))) .nil) .nil) (.cons (.ifs (.cmp .Eq (.v 2) (.cs (S_ "obj"))) (.cons (.ret (.bin .Add (.cs (S_ "obj")) (.blt 2 (.cons (.fz (.blt 3 (.cons (.sub (.v 1) (.slc (.ci 2) .no .no)) .nil))) .nil)))) .nil) .nil) (.cons (.asg 3 (.ifx (.cmp .Eq (.v 2) (.cs (S_ "call"))) (.sub (.v 1) (.ci 4)) (.sub (.v 1) (.ci 3)))) (.cons (.asg 4 (.lstN .nil)) (.cons (.forT [5,6] (.v 3) (.cons (.expr (.me1 0 (.v 4) (.dfn (S_ "_law_made") 97 (.cons (.v 0) (.cons (.cs (S_ "copy")) (.cons (.cs (S_ "")) (.cons (.lstF (.cons (.dfn (S_ "_law_says") 101 (.cons (.v 0) (.cons (.v 6) .nil))) .nil)) .nil))))))) .nil)) (.cons (.ifs (.cmp .Eq (.v 2) (.cs (S_ "dispatch"))) (.cons (.ret (.dfn (S_ "_law_made") 97 (.cons (.v 0) (.cons (.bin .Add (.cs (S_ "by tag ")) (.blt 2 (.cons (.sub (.v 1) (.ci 4)) .nil))) (.cons (.sub (.v 1) (.ci 2)) (.cons (.v 4) .nil)))))) .nil) .nil) (.cons (.asg 7 (.dfn (S_ "_law_found") 96 (.cons (.v 0) (.cons (.sub (.v 1) (.ci 3)) .nil)))) (.cons (.asg 8 (.dfn (S_ "_law_made") 97 (.cons (.v 0) (.cons (.cs (S_ "call")) (.cons (.sub (.v 1) (.ci 3)) (.cons (.v 4) .nil)))))) (.cons (.expr (.dfn (S_ "_law_enter") 106 (.cons (.v 0) (.cons (.v 7) .nil)))) (.cons (.ret (.v 8)) .nil)))))))))))
theorem k101:FnOk 101 0 [S_ "book",S_ "node"] [S_ "word",S_ "pairs",S_ "taken",S_ "mode",S_ "inner",S_ "sub",S_ "text"] R101:=⟨by decide +kernel,by decide +kernel,by decide +kernel,by kernel_rfl⟩
/- _law_where:0 book,1 node -/
noncomputable def R102:R:=(.cons (.ifs (.cmp .Eq (.sub (.v 1) (.ci 0)) (.cs (S_ "obj"))) (.cons (.ret (.bin .Add (.cs (S_ "place")) (.blt 2 (.cons (.fz (.blt 3 (.cons (.sub (.v 1) (.slc (.ci 2) .no .no)) .nil))) .nil)))) .nil) .nil) (.cons (.ifs (.cmp .Eq (.sub (.v 1) (.ci 0)) (.cs (S_ "comp"))) (.cons (.ret (.dfn (S_ "_law_made") 97 (.cons (.v 0) (.cons (.cs (S_ "placecomp")) (.cons (.blt 2 (.cons (.tup (.cons (.sub (.v 1) (.ci 3)) .nil)) .nil)) (.cons (.lstF (.cons (.dfn (S_ "_law_where") 102 (.cons (.v 0) (.cons (.sub (.v 1) (.ci 2)) .nil))) .nil)) .nil)))))) .nil) .nil) (.cons (.ret (.dfn (S_ "_law_made") 97 (.cons (.v 0) (.cons (.cs (S_ "placederef")) (.cons (.cs (S_ "")) (.cons (.lstF (.cons (.dfn (S_ "_law_says") 101 (.cons (.v 0) (.cons (.sub (.v 1) (.ci 2)) .nil))) .nil)) .nil)))))) .nil)))
theorem k102:FnOk 102 0 [S_ "book",S_ "node"] [] R102:=⟨by decide +kernel,by decide +kernel,by decide +kernel,by kernel_rfl⟩
/- _law_actuals:0 book,1 pairs,2 found,3 mode,4 node,5 target -/
noncomputable def R103:R:=(.cons (.asg 2 (.lstN .nil)) (.cons (.forT [3,4] (.v 1) (.cons (.ifs (.cmp .Eq (.v 3) (.cs (S_ "in"))) (.cons (.expr (.me1 0 (.v 2) (.dfn (S_ "_law_made") 97 (.cons (.v 0) (.cons (.cs (S_ "actual")) (.cons (.cs (S_ "")) (.cons (.lstF (.cons (.dfn (S_ "_law_says") 101 (.cons (.v 0) (.cons (.v 4) .nil))) .nil)) .nil))))))) .nil) (.cons (.asg 5 (.dfn (S_ "_law_made") 97 (.cons (.v 0) (.cons (.cs (S_ "target")) (.cons (.cs (S_ "")) (.cons (.lstF (.cons (.dfn (S_ "_law_where") 102 (.cons (.v 0) (.cons (.v 4) .nil))) .nil)) .nil)))))) (.cons (.expr (.me1 0 (.v 2) (.dfn (S_ "_law_made") 97 (.cons (.v 0) (.cons (.cs (S_ "actualout")) (.cons (.cs (S_ "")) (.cons (.lstF (.cons (.v 5) .nil)) .nil))))))) .nil))) .nil)) (.cons (.ret (.fz (.v 2))) .nil)))
theorem k103:FnOk 103 0 [S_ "book",S_ "pairs"] [S_ "found",S_ "mode",S_ "node",S_ "target"] R103:=⟨by decide +kernel,by decide +kernel,by decide +kernel,by kernel_rfl⟩
/- _law_go:0 book,1 stmts,2 stmt,3 sub,4 value -/
noncomputable def R104:R:=(.cons (.for 2 (.v 1) (.cons (.expr (.dfn (S_ "_law_tell") 95 (.cons (.v 0) (.cons (.bin .Add (.cs (S_ "step ")) (.blt 2 (.cons (.tup (.cons (.sub (.v 2) (.ci 1)) .nil)) .nil))) .nil)))) (.cons (.ifs (.cmp .Eq (.sub (.v 2) (.ci 0)) (.cs (S_ "pcall"))) (.cons (.asg 3 (.dfn (S_ "_law_found") 96 (.cons (.v 0) (.cons (.sub (.v 2) (.ci 3)) .nil)))) (.cons (.expr (.dfn (S_ "_law_made") 97 (.cons (.v 0) (.cons (.cs (S_ "call")) (.cons (.sub (.v 2) (.ci 3)) (.cons (.dfn (S_ "_law_actuals") 103 (.cons (.v 0) (.cons (.sub (.v 2) (.ci 4)) .nil))) .nil)))))) (.cons (.expr (.dfn (S_ "_law_enter") 106 (.cons (.v 0) (.cons (.v 3) .nil)))) .nil))) (.cons (.ifs (.cmp .Eq (.sub (.v 2) (.ci 0)) (.cs (S_ "pdispatch"))) (.cons (.expr (.dfn (S_ "_law_made") 97 (.cons (.v 0) (.cons (.bin .Add (.cs (S_ "by tag ")) (.blt 2 (.cons (.sub (.v 2) (.ci 4)) .nil))) (.cons (.sub (.v 2) (.ci 2)) (.cons (.dfn (S_ "_law_actuals") 103 (.cons (.v 0) (.cons (.sub (.v 2) (.ci 3)) .nil))) .nil)))))) .nil) (.cons (.ifs (.cmp .Eq (.sub (.v 2) (.ci 0)) (.cs (S_ "assign"))) (.cons (.asg 4 (.dfn (S_ "_law_says") 101 (.cons (.v 0) (.cons (.sub (.v 2) (.ci 3)) .nil)))) (.cons (.expr (.dfn (S_ "_law_made") 97 (.cons (.v 0) (.cons (.cs (S_ "store")) (.cons (.cs (S_ "()")) (.cons (.lstF (.cons (.v 4) (.cons (.dfn (S_ "_law_made") 97 (.cons (.v 0) (.cons (.cs (S_ "target")) (.cons (.cs (S_ "")) (.cons (.lstF (.cons (.dfn (S_ "_law_where") 102 (.cons (.v 0) (.cons (.sub (.v 2) (.ci 2)) .nil))) .nil)) .nil))))) .nil))) .nil)))))) .nil)) (.cons (.ifs (.cmp .Eq (.sub (.v 2) (.ci 0)) (.cs (S_ "return"))) (.cons (.ifs (.cmp .IsNot (.sub (.v 2) (.ci 2)) .cn) (.cons (.expr (.dfn (S_ "_law_made") 97 (.cons (.v 0) (.cons (.cs (S_ "result")) (.cons (.cs (S_ "()")) (.cons (.lstF (.cons (.dfn (S_ "_law_says") 101 (.cons (.v 0) (.cons (.sub (.v 2) (.ci 2)) .nil))) .nil)) .nil)))))) .nil) .nil) (.cons (.ret (.cb true)) .nil)) .nil) .nil)) .nil)) .nil)) .nil))) (.cons (.ret (.cb false)) .nil))
theorem k104:FnOk 104 0 [S_ "book",S_ "stmts"] [S_ "stmt",S_ "sub",S_ "value"] R104:=⟨by decide +kernel,by decide +kernel,by decide +kernel,by kernel_rfl⟩
/- _law_declare:0 book,1 decls,2 decl -/
noncomputable def R105:R:=(.cons (.for 2 (.v 1) (.cons (.expr (.dfn (S_ "_law_tell") 95 (.cons (.v 0) (.cons (.bin .Add (.cs (S_ "line ")) (.blt 2 (.cons (.tup (.cons (.sub (.v 2) (.ci 1)) .nil)) .nil))) .nil)))) (.cons (.ifs (.and (.cons (.cmp .Eq (.sub (.v 2) (.ci 0)) (.cs (S_ "var"))) (.cons (.cmp .Is (.sub (.v 2) (.ci 4)) .cn) .nil))) (.cons (.expr (.dfn (S_ "_law_made") 97 (.cons (.v 0) (.cons (.cs (S_ "firstcell")) (.cons (.blt 2 (.cons (.tup (.cons (.sub (.v 2) (.ci 2)) .nil)) .nil)) (.cons (.lstF (.cons (.cs (S_ "begincell['S']")) .nil)) .nil)))))) .nil) (.cons (.ifs (.cmp .Eq (.sub (.v 2) (.ci 0)) (.cs (S_ "var"))) (.cons (.expr (.dfn (S_ "_law_made") 97 (.cons (.v 0) (.cons (.cs (S_ "initcell")) (.cons (.blt 2 (.cons (.tup (.cons (.sub (.v 2) (.ci 2)) .nil)) .nil)) (.cons (.lstF (.cons (.cs (S_ "begincell['S']")) (.cons (.dfn (S_ "_law_says") 101 (.cons (.v 0) (.cons (.sub (.v 2) (.ci 4)) .nil))) .nil))) .nil)))))) .nil) (.cons (.ifs (.cmp .Eq (.sub (.v 2) (.ci 0)) (.cs (S_ "subtype"))) (.cons (.expr (.dfn (S_ "_law_tell") 95 (.cons (.v 0) (.cons (.cs (S_ "laysubtype ('t#4', 'S')")) .nil)))) .nil) (.cons (.ifs (.cmp .Eq (.sub (.v 2) (.ci 0)) (.cs (S_ "type"))) (.cons (.expr (.dfn (S_ "_law_tell") 95 (.cons (.v 0) (.cons (.cs (S_ "laytype ('T',)")) .nil)))) .nil) (.cons (.ifs (.cmp .Eq (.sub (.v 2) (.ci 0)) (.cs (S_ "rename"))) (.cons (.expr (.dfn (S_ "_law_made") 97 (.cons (.v 0) (.cons (.cs (S_ "layplace")) (.cons (.blt 2 (.cons (.tup (.cons (.sub (.v 2) (.ci 2)) .nil)) .nil)) (.cons (.lstF (.cons (.dfn (S_ "_law_where") 102 (.cons (.v 0) (.cons (.sub (.v 2) (.ci 3)) .nil))) .nil)) .nil)))))) .nil) (.cons (.ifs (.cmp .Eq (.sub (.v 2) (.ci 0)) (.cs (S_ "sub"))) (.cons (.asgI (.sub (.v 0) (.cs (S_ "laid"))) (.att (.sub (.v 2) (.ci 2)) (S_ "name")) (.sub (.v 2) (.ci 2))) (.cons (.expr (.dfn (S_ "_law_tell") 95 (.cons (.v 0) (.cons (.bin .Add (.cs (S_ "lay ")) (.att (.sub (.v 2) (.ci 2)) (S_ "name"))) .nil)))) .nil)) (.cons (.ifs (.cmp .Eq (.sub (.v 2) (.ci 0)) (.cs (S_ "package"))) (.cons (.expr (.dfn (S_ "_law_tell") 95 (.cons (.v 0) (.cons (.cs (S_ "pack ()")) .nil)))) (.cons (.expr (.dfn (S_ "_law_declare") 105 (.cons (.v 0) (.cons (.bin .Add (.bin .Add (.sub (.v 2) (.ci 3)) (.sub (.v 2) (.ci 4))) (.sub (.v 2) (.ci 5))) .nil)))) (.cons (.expr (.dfn (S_ "_law_tell") 95 (.cons (.v 0) (.cons (.cs (S_ "arm ")) .nil)))) (.cons (.expr (.dfn (S_ "_law_go") 104 (.cons (.v 0) (.cons (.sub (.v 2) (.ci 6)) .nil)))) (.cons (.expr (.dfn (S_ "_law_tell") 95 (.cons (.v 0) (.cons (.cs (S_ "endpack ()")) .nil)))) .nil))))) .nil) .nil)) .nil)) .nil)) .nil)) .nil)) .nil)) .nil))) .nil)
theorem k105:FnOk 105 0 [S_ "book",S_ "decls"] [S_ "decl"] R105:=⟨by decide +kernel,by decide +kernel,by decide +kernel,by kernel_rfl⟩
/- _law_enter:0 book,1 sub -/
noncomputable def R106:R:=(.cons (.expr (.dfn (S_ "_law_declare") 105 (.cons (.v 0) (.cons (.att (.v 1) (S_ "decls")) .nil)))) (.cons (.expr (.dfn (S_ "_law_tell") 95 (.cons (.v 0) (.cons (.cs (S_ "arm ")) .nil)))) (.cons (.expr (.dfn (S_ "_law_go") 104 (.cons (.v 0) (.cons (.att (.v 1) (S_ "stmts")) .nil)))) (.cons (.expr (.dfn (S_ "_law_tell") 95 (.cons (.v 0) (.cons (.cs (S_ "endsub 0")) .nil)))) .nil))))
theorem k106:FnOk 106 0 [S_ "book",S_ "sub"] [] R106:=⟨by decide +kernel,by decide +kernel,by decide +kernel,by kernel_rfl⟩
/- _law_program:0 book,1 decls,2 main,3 deed,4 sub -/
noncomputable def R107:R:=(.cons (.expr (.dfn (S_ "_law_declare") 105 (.cons (.v 0) (.cons (.v 1) .nil)))) (.cons (.for 3 (.tup (.cons (.cs (S_ "arm ")) (.cons (.cs (S_ "step (0,)")) .nil))) (.cons (.expr (.dfn (S_ "_law_tell") 95 (.cons (.v 0) (.cons (.v 3) .nil)))) .nil)) (.cons (.asg 4 (.dfn (S_ "_law_found") 96 (.cons (.v 0) (.cons (.v 2) .nil)))) (.cons (.expr (.dfn (S_ "_law_made") 97 (.cons (.v 0) (.cons (.cs (S_ "call")) (.cons (.v 2) (.cons (.lstF .nil) .nil)))))) (.cons (.expr (.dfn (S_ "_law_enter") 106 (.cons (.v 0) (.cons (.v 4) .nil)))) (.cons (.expr (.dfn (S_ "_law_tell") 95 (.cons (.v 0) (.cons (.cs (S_ "endbody 0")) .nil)))) .nil))))))
theorem k107:FnOk 107 0 [S_ "book",S_ "decls",S_ "main"] [S_ "deed",S_ "sub"] R107:=⟨by decide +kernel,by decide +kernel,by decide +kernel,by kernel_rfl⟩
end Mine
end
section
open PySem PySem.W PySem.Calls PyProof.Rows
namespace Mine
set_option backward.match.sparseCases false
variable {G:Glob}
theorem Vm.gl {C:Vc} {K:List Fr} {st:List D} {Γ:Ix} {σ:Sto} (c:Consts G) (q:Kn G C K st Γ (.dct shapes) σ):Vm G C ⟨.e (.gl 0)::K,st,Γ⟩ σ:=fun ok x=>
 WE.const c.sh (isGl_k ok) (isGl_d ok) (adv_ok _ q)
theorem c_shape_of {n:Nat} {σ:Sto} {Q:D→Sto→Prop} {E:Exn→Sto→Prop} (C:Consts G) (hn:n < 990) {w:Str} {as:List D} {t l:Int} {parts:Str} (hs:(w,D.tup [.int t,.int l,.str parts])∈shapes) (hp:parts.length=as.length) (hz:as.length≤100)
  (h:Q (.tup [.int t,.int l,.str parts]) σ):WC G n (.fn 9 0) [.tup (.str w::as)] σ Q E:=by
 refine WC.fnV k9 (dn' 2 hn) ?_
 refine Vm.at rfl ?_
 refine Vm.gl C ?_
 refine Vm.cmp (.b (congrArg Bool.not (decide_eq_true (List.mem_map.mpr ⟨_,hs,rfl⟩))) .notInD) ?_
 refine Vm.gl C ?_
 refine Vm.at rfl ?_
 refine Vm.sub (.dctK hs) ?_
 refine Vm.blt (CallB.len .tup (sl (c:=101) (Nat.succ_le_succ hz)) ?_)
 refine Vm.at rfl ?_
 refine Vm.blt (CallB.lenS (sl (hp▸hz)) ?_)
 refine Vm.bin .addI ?_
 refine Vm.cmp (.b (show ((((D.str w::as).length:Nat):Int) != 1 + (parts.length:Int))=false by (refine rwG hp ?_;refine rwG List.length_cons ?_;rewrite [Int.natCast_succ,Int.add_comm,bne_self_eq_false];rfl)) .neI) ?_
 exact h
end Mine
end
section
open PySem PySem.W PySem.Calls PyProof.Rows
namespace Mine
set_option backward.match.sparseCases false
variable {G:Glob}
variable {n:Nat} {σ:Sto} {Q:D→Sto→Prop} {E:Exn→Sto→Prop}
noncomputable def D.asInt:D→Int
 | .int k=>k
 | _=>0
noncomputable def nAt (c:Nat) (a:D):Int:=if c=110 then a.asInt else 0
noncomputable def nsum:List Nat→List D→Int
 | c::cs,a::as=>nAt c a + nsum cs as
 | _,_=>0
noncomputable def PartsOk (parts:Str) (as:List D):Prop:=parts.length=as.length∧as.length≤100∧∀(i:Nat) c a,parts.cps[i]?=some c→as[i]?=some a→c≠119∧(c=110→∃k,a=D.int k)
theorem nsum_snoc:∀{cs:List Nat} {as:List D} {c:Nat} {a:D},cs.length=as.length→nsum (cs++[c]) (as++[a])=nsum cs as + nAt c a
 | [],[],_,_,_=>by simp [nsum]
 | [],_::_,_,_,h=>nomatch h
 | _::_,[],_,_,h=>nomatch h
 | c'::cs,a'::as,c,a,h=>by
  (refine rwG List.cons_append ?_;refine rwG List.cons_append ?_;rewrite [nsum,nsum];refine rwG (nsum_snoc (by exact Nat.succ.inj h)) ?_);simp +arith only
theorem take_succ_get {α:Type} {l:List α} {i:Nat} {a:α} (h:l[i]?=some a):l.take (i + 1)=l.take i++[a]:=by
 (refine rwG List.take_add_one ?_;refine rwG h ?_);rfl
theorem parts_at {parts:Str} {as:List D} (hp:parts.length=as.length) {i:Nat} (hi:i < as.length):∃c a,parts.cps[i]?=some c∧parts.cps.toList[i]?=some c∧as[i]?=some a:=by
 have h1:i < parts.cps.size:=by rw [←hp] at hi;exact hi
 exact ⟨_,_,Array.getElem?_eq_getElem h1,by refine rwG Array.getElem?_toList ?_;exact Array.getElem?_eq_getElem h1,List.getElem?_eq_getElem hi⟩
theorem c_effect_of (C:Consts G) (hn:n < 980) {w:Str} {as:List D} {t l:Int} {parts:Str} (hs:(w,D.tup [.int t,.int l,.str parts])∈shapes) (hp:PartsOk parts as)
  (h:Q (.tup [.int (t + nsum parts.cps.toList as),.int l]) σ):WC G n (.fn 10 0) [.tup (.str w::as)] σ Q E:=by
 have p1:=hp.1
 have p2:=hp.2.1
 have p3:=hp.2.2
 have p1':parts.cps.toList.length=as.length:=by refine rwG Array.length_toList ?_;exact p1
 refine WC.fnV k10 (dn' 2 hn) ?_
 refine Vm.fn (c_shape_of C (dn 1 hn) hs p1 p2 ?_)
 refine Vm.blt (CallB.lenS (by refine rwG p1 ?_;exact sl p2) ?_)
 refine rwG p1 ?_
 refine Vm.blt (CallB.range ?_)
 refine Vm.forN as.length [3,2,1,0] (fun i=>[(3,.str parts),(2,.int l),(1,.int (t + nsum (parts.cps.toList.take i) (as.take i))),(0,.tup (.str w::as))]) (fun _ σ'=>σ'=σ)
  (Nat.le_trans p2 (by decide)) ?_ rfl (fun i σ' hi e=>?_) fun σ' e=>?_
 ·refine rwG (show t + nsum (parts.cps.toList.take 0) (as.take 0)=t from Int.add_zero t) ?_;rfl
 ·refine ex23 (parts_at p1 hi) ?_;intro c a g1 g2 g3
  have ⟨q1,q2⟩:=p3 i c a g1 g3
  have hi':=Nat.lt_of_lt_of_le hi p2
  have hsum:nsum (parts.cps.toList.take (i + 1)) (as.take (i + 1))=nsum (parts.cps.toList.take i) (as.take i) + nAt c a:=by
   refine rwG (take_succ_get g2) ?_;refine rwG (take_succ_get g3) ?_;refine rwG (nsum_snoc (by (refine rwG List.length_take ?_;refine rwG List.length_take ?_;refine rwG p1' ?_;rfl))) ?_;rfl
  refine rwG hsum ?_;rewrite [←Int.add_assoc]
  refine Vm.sub (.strN hi' g1) ?_
  by_cases hc:c=110
  ·refine ex11 (q2 hc) ?_;rintro k rfl
   rewrite [nAt];refine rwG (if_pos hc) ?_
   refine Vm.cmp (.chr 110 (decide_eq_true hc)) ?_
   refine Vm.bin .addI ?_
   refine Vm.sub (.tupS hi' g3) ?_
   refine Vm.augN .add ?_
   exact ⟨rfl,e⟩
  ·rewrite [nAt];refine rwG (if_neg hc) ?_;rewrite [Int.add_zero]
   refine Vm.cmp (.chr 110 (decide_eq_false hc)) ?_
   refine Vm.sub (.strN hi' g1) ?_
   refine Vm.cmp (.chr 119 (decide_eq_false q1)) ?_
   exact ⟨rfl,e⟩
 ·refine rwG e ?_;refine rwG (List.take_of_length_le (Nat.le_of_eq p1')) ?_;refine rwG (List.take_of_length_le (Nat.le_refl _)) ?_
  exact h
theorem Sto.del_set {σ:Sto} {a:Addr} {x:AObj} (h:σ a=none):(σ.set a x).del a=σ:=by
 funext b;unfold Sto.del Sto.set
 by_cases e:b=a
 ·refine rwG (if_pos e) ?_;refine rwG e ?_;refine rwG h ?_;rfl
 ·refine rwG (if_neg e) ?_;refine rwG (if_neg e) ?_;rfl
noncomputable def D.asList:D→List D
 | .lst ms=>ms
 | _=>[]
noncomputable def jumpsP:List Nat→List D→List D
 | c::cs,a::as=>(if c=106 then [a] else if c=74 then a.asList else [])++jumpsP cs as
 | _,_=>[]
theorem jumpsP_snoc:∀{cs:List Nat} {as:List D} {c:Nat} {a:D},cs.length=as.length→jumpsP (cs++[c]) (as++[a])=jumpsP cs as++jumpsP [c] [a]
 | [],[],_,_,_=>by rfl
 | [],_::_,_,_,h=>nomatch h
 | _::_,[],_,_,h=>nomatch h
 | c'::cs,a'::as,c,a,h=>by
  refine rwG List.cons_append ?_;refine rwG List.cons_append ?_;rewrite [jumpsP];refine rwG (jumpsP_snoc (by exact Nat.succ.inj h)) ?_
  refine rwG (show jumpsP (c'::cs) (a'::as)=(if c'=106 then [a'] else if c'=74 then a'.asList else [])++jumpsP cs as from rfl) ?_;rewrite [List.append_assoc];rfl
theorem jumpsP_one {c:Nat} {a:D}:jumpsP [c] [a]=if c=106 then [a] else if c=74 then a.asList else []:=List.append_nil _
noncomputable def JumpsOk (parts:Str) (as:List D):Prop:=∀(i:Nat) a,parts.cps[i]?=some 74→as[i]?=some a→jumpsP (parts.cps.toList.take i) (as.take i)=[]∧∃ms,a=D.lst ms∧ms.length≤1000
theorem c_jumps_of (C:Consts G) (hn:n < 980) {w:Str} {as:List D} {t l:Int} {parts:Str} (hs:(w,D.tup [.int t,.int l,.str parts])∈shapes) (hp:PartsOk parts as) (hj:JumpsOk parts as)
  (hz:∀i,(jumpsP (parts.cps.toList.take i) (as.take i)).length≤1000) (h:Q (.lst (jumpsP parts.cps.toList as)) σ):WC G n (.fn 11 0) [.tup (.str w::as)] σ Q E:=by
 have p1:=hp.1
 have p2:=hp.2.1
 have p3:=hp.2.2
 have p1':parts.cps.toList.length=as.length:=by refine rwG Array.length_toList ?_;exact p1
 refine WC.fnV k11 (dn' 2 hn) ?_
 refine Vm.fn (c_shape_of C (dn 1 hn) hs p1 p2 ?_)
 refine Vm.at rfl ?_
 refine Vm.lstN fun a ha=>?_
 refine Vm.blt (CallB.lenS (by refine rwG p1 ?_;exact sl p2) ?_)
 refine rwG p1 ?_
 refine Vm.blt (CallB.range ?_)
 refine Vm.forN as.length [2,1,0] (fun i=>[(2,.ref a),(1,.str parts),(0,.tup (.str w::as))]) (fun i σ'=>σ'=σ.set a (.list (jumpsP (parts.cps.toList.take i) (as.take i))))
  (Nat.le_trans p2 (by decide)) rfl rfl (fun i σ' hi e=>?_) fun σ' e=>?_
 ·refine ex23 (parts_at p1 hi) ?_;intro c b g1 g2 g3
  have hi':=Nat.lt_of_lt_of_le hi p2
  have hz':=hz i
  refine rwG (take_succ_get g2) ?_;refine rwG (take_succ_get g3) ?_;refine rwG (jumpsP_snoc (by (refine rwG List.length_take ?_;refine rwG List.length_take ?_;refine rwG p1' ?_;rfl))) ?_;refine rwG e ?_
  generalize hU:jumpsP (parts.cps.toList.take i) (as.take i)=U at *
  refine Vm.sub (.strN hi' g1) ?_
  by_cases hc:c=106
  ·refine rwG hc ?_
   refine Vm.cmp (.chr 106 rfl) ?_
   refine Vm.isT (.lst Sto.at_set) ?_
   refine Vm.bin .addI ?_
   refine Vm.sub (.tupS hi' g3) ?_
   refine Vm.met (CallB.append Sto.at_set (sl hz') ?_)
   exact ⟨rfl,by refine rwG Sto.set_set ?_;rfl⟩
  ·refine Vm.cmp (.chr 106 (decide_eq_false hc)) ?_
   refine Vm.sub (.strN hi' g1) ?_
   by_cases hJ:c=74
   ·refine rwG hJ ?_
    rw [hJ] at g1
    refine Vm.cmp (.chr 74 rfl) ?_
    obtain ⟨e0,ms,e1,hms⟩:=hj i b g1 g3
    rw [e1] at g3
    rw [hU] at e0
    refine rwG e0 ?_;refine rwG e1 ?_
    refine Vm.isT (.lst Sto.at_set) ?_
    refine Vm.bin .addI ?_
    refine Vm.sub (.tupS hi' g3) ?_
    refine Vm.met (CallB.extend Sto.at_set hms ?_)
    exact ⟨rfl,by (refine rwG Sto.set_set ?_;refine rwG jumpsP_one ?_);rfl⟩
   ·refine Vm.cmp (.chr 74 (decide_eq_false hJ)) ?_
    exact ⟨rfl,by (refine rwG jumpsP_one ?_;refine rwG (if_neg hc) ?_;refine rwG (if_neg hJ) ?_;rewrite [List.append_nil];rfl)⟩
 ·refine rwG e ?_;refine rwG (List.take_of_length_le (Nat.le_of_eq p1')) ?_;refine rwG (List.take_of_length_le (Nat.le_refl _)) ?_
  refine Vm.fz (.L Sto.at_set) ?_
  refine rwG (Sto.del_set ha) ?_
  exact h
end Mine
end
section
open PySem PySem.W PySem.Calls PyProof.Rows
namespace Mine
set_option backward.match.sparseCases false
variable {G:Glob}
variable {n:Nat} {σ:Sto} {Q:D→Sto→Prop} {E:Exn→Sto→Prop}
theorem Sto.le_set {σ:Sto} {a:Addr} {y:AObj} (h:σ a=none):∀b x,σ b=some x→(σ.set a y) b=some x:=fun b x hb=>by
 unfold Sto.set
 split
 ·rename_i e;rw [e,h] at hb;cases hb
 ·exact hb
noncomputable def wjP:Nat→List Nat→List D→List D→List D
 | u,c::cs,a::as,pl=>(if c=106 then pl.getD u .none else if c=74 then .lst [] else a)::wjP (u + (jumpsP [c] [a]).length) cs as pl
 | _,_,_,_=>[]
theorem jumpsP_cons {c:Nat} {cs:List Nat} {a:D} {as:List D}:jumpsP (c::cs) (a::as)=jumpsP [c] [a]++jumpsP cs as:=by simp [jumpsP]
theorem wjP_snoc {pl:List D}:∀{cs:List Nat} {as:List D} {c:Nat} {a:D} {u:Nat},cs.length=as.length→wjP u (cs++[c]) (as++[a]) pl=wjP u cs as pl++wjP (u + (jumpsP cs as).length) [c] [a] pl
 | [],[],_,_,_,_=>by rfl
 | [],_::_,_,_,_,h=>nomatch h
 | _::_,[],_,_,_,h=>nomatch h
 | c'::cs,a'::as,c,a,u,h=>by
  refine rwG List.cons_append ?_;refine rwG List.cons_append ?_
  refine (?_:_::wjP _ (cs++[c]) (as++[a]) pl=(_::wjP _ cs as pl)++_)
  rw (config:={}) [wjP_snoc (by exact Nat.succ.inj h),List.cons_append,jumpsP_cons (cs:=cs),List.length_append,Nat.add_assoc]
theorem wjP_len {pl:List D}:∀{cs:List Nat} {as:List D} {u:Nat},(wjP u cs as pl).length≤as.length
 | [],_,_=>by simp [wjP]
 | _::_,[],_=>by simp [wjP]
 | c::cs,a::as,u=>by
  have:=wjP_len (pl:=pl) (cs:=cs) (as:=as) (u:=u + (jumpsP [c] [a]).length)
  exact Nat.succ_le_succ this
theorem pick_empty {ds:List D} {u:Nat}:pick ds (some (u:Int)) (some (u:Int)) none=[]:=by
 have:sliceRange (sliceBounds (some (u:Int)) (some (u:Int)) none ds.length).1 (sliceBounds (some (u:Int)) (some (u:Int)) none ds.length).2.1 (sliceBounds (some (u:Int)) (some (u:Int)) none ds.length).2.2=[]:=by
  unfold sliceBounds sliceRange
  simp
 unfold pick
 refine rwG this ?_;rfl
theorem getD_lt {α:Type} {l:List α} {i:Nat} {d:α} (h:i < l.length):l.getD i d=l[i]:=by simp [h]
theorem c_with_jumps (C:Consts G) (hn:n < 980) {w:Str} {as pl:List D} {t l:Int} {parts:Str} (hs:(w,D.tup [.int t,.int l,.str parts])∈shapes) (hp:PartsOk parts as) (hj:∀(i:Nat) a,parts.cps[i]?=some 74→as[i]?=some a→a=D.lst [])
  (hz:pl.length≤1000) (hl:∀i,i < as.length→(jumpsP (parts.cps.toList.take (i + 1)) (as.take (i + 1))).length≤pl.length) (h:Q (.tup (.str w::wjP 0 parts.cps.toList as pl)) σ):WC G n (.fn 12 0) [.tup (.str w::as),.lst pl] σ Q E:=by
 have p1:=hp.1
 have p2:=hp.2.1
 have p1':parts.cps.toList.length=as.length:=by refine rwG Array.length_toList ?_;exact p1
 refine WC.fnV k12 (dn' 2 hn) ?_
 refine Vm.fn ?_
 refine c_shape_of C (dn 1 hn) hs p1 p2 ?_
 refine Vm.at rfl ?_
 refine Vm.at rfl ?_
 refine Vm.lstN fun a ha=>?_
 refine Vm.blt (CallB.lenS (by refine rwG p1 ?_;exact sl p2) ?_)
 refine rwG p1 ?_
 refine Vm.blt (CallB.range ?_)
 refine Vm.forN as.length [4,3,2,1,0] (fun i=>[(4,.int (jumpsP (parts.cps.toList.take i) (as.take i)).length),(3,.ref a),(2,.str parts),(1,.lst pl),(0,.tup (.str w::as))])
  (fun i σ'=>σ'=σ.set a (.list (.str w::wjP 0 (parts.cps.toList.take i) (as.take i) pl))) (Nat.le_trans p2 (by decide)) rfl rfl (fun i σ' hi e=>?_) fun σ' e=>?_
 ·refine ex23 (parts_at p1 hi) ?_;intro c b g1 g2 g3
  have hlen:(parts.cps.toList.take i).length=(as.take i).length:=by (refine rwG List.length_take ?_;refine rwG List.length_take ?_;refine rwG p1' ?_;rfl)
  have hsum:jumpsP (parts.cps.toList.take (i + 1)) (as.take (i + 1))=jumpsP (parts.cps.toList.take i) (as.take i)++jumpsP [c] [b]:=by
   refine rwG (take_succ_get g2) ?_;refine rwG (take_succ_get g3) ?_;refine rwG (jumpsP_snoc hlen) ?_;rfl
  have hw:wjP 0 (parts.cps.toList.take (i + 1)) (as.take (i + 1)) pl=wjP 0 (parts.cps.toList.take i) (as.take i) pl++wjP (0 + (jumpsP (parts.cps.toList.take i) (as.take i)).length) [c] [b] pl:=by
   refine rwG (take_succ_get g2) ?_;refine rwG (take_succ_get g3) ?_;refine rwG (wjP_snoc hlen) ?_;rfl
  have hwl:=wjP_len (pl:=pl) (cs:=parts.cps.toList.take i) (as:=as.take i) (u:=0)
  have hi':=Nat.lt_of_lt_of_le hi p2
  have hwl':(wjP 0 (parts.cps.toList.take i) (as.take i) pl).length≤100:=Nat.le_trans hwl (Nat.le_trans (List.length_take_le' ..) p2)
  have hl':=hl i hi
  rw [hsum,List.length_append] at hl'
  refine rwG hsum ?_;refine rwG hw ?_;refine rwG List.length_append ?_
  generalize hU:(jumpsP (parts.cps.toList.take i) (as.take i)).length=U at *
  refine rwG e ?_
  refine Vm.sub (.strN hi' g1) ?_
  by_cases hc:c=106
  ·refine Vm.cmp (.chr 106 (decide_eq_true hc)) ?_
   rw [hc] at hl' ⊢
   have hU':U < pl.length:=hl'
   refine Vm.isT (.lst Sto.at_set) ?_
   refine Vm.sub (.lstI (Int.natCast_nonneg _) (Int.lt_of_lt_of_le (Int.ofNat_lt.mpr (Nat.lt_of_lt_of_le hU' hz)) (by decide)) (d:=pl[U]) (List.getElem?_eq_getElem hU')) ?_
   refine Vm.met (CallB.append Sto.at_set (sl (Nat.succ_le_succ hwl')) ?_)
   refine Vm.augN .add ?_
   refine Vm.nil ⟨?_,?_⟩
   ·rfl
   ·(refine rwG Sto.set_set ?_;rewrite [Nat.zero_add];refine rwG (show wjP U [106] [b] pl=[pl.getD U .none] from rfl) ?_;refine rwG (getD_lt hU') ?_);rfl
  ·refine Vm.cmp (.chr 106 (decide_eq_false hc)) ?_
   refine Vm.sub (.strN hi' g1) ?_
   by_cases hJ:c=74
   ·subst hJ
    refine Vm.cmp (.chr 74 rfl) ?_
    have:=hj i b g1 g3
    subst this
    refine Vm.bin .addI ?_
    refine Vm.sub (.tupS hi' g3) ?_
    refine Vm.blt (CallB.len .lst (Nat.zero_le _) ?_)
    refine Vm.isT (.lst Sto.at_set) ?_
    refine Vm.bin .addI ?_
    refine Vm.slc .int .int .none ?_
    refine Vm.sub (.lstS (by decide) (sl hz)) ?_
    refine Vm.blt (CallB.list .lst ?_ ?_)
    ·(refine rwG (show (U:Int) + ([]:List D).length=U from Int.add_zero _) ?_;refine rwG pick_empty ?_);exact Nat.zero_le _
    intro b' hb'
    refine Vm.fz (.L Sto.at_set) ?_
    refine rwG (Sto.del_set hb') ?_
    refine Vm.met (CallB.append Sto.at_set (sl (Nat.succ_le_succ hwl')) ?_)
    refine Vm.augN .add ?_
    refine Vm.nil ⟨?_,?_⟩
    ·rfl
    ·(refine rwG Sto.set_set ?_;refine rwG (show (U:Int) + ([]:List D).length=U from Int.add_zero _) ?_;refine rwG pick_empty ?_);rfl
   ·refine Vm.cmp (.chr 74 (decide_eq_false hJ)) ?_
    refine Vm.isT (.lst Sto.at_set) ?_
    refine Vm.bin .addI ?_
    refine Vm.sub (.tupS hi' g3) ?_
    refine Vm.met (CallB.append Sto.at_set (sl (Nat.succ_le_succ hwl')) ?_)
    refine Vm.nil ⟨?_,?_⟩
    ·(refine rwG jumpsP_one ?_;refine rwG (if_neg hc) ?_;refine rwG (if_neg hJ) ?_);rfl
    ·(refine rwG Sto.set_set ?_;refine rwG (show wjP (0 + U) [c] [b] pl=[if c=106 then pl.getD (0 + U) .none else if c=74 then .lst [] else b] from rfl) ?_;refine rwG (if_neg hc) ?_;refine rwG (if_neg hJ) ?_);rfl
 ·refine rwG e ?_;refine rwG (List.take_of_length_le (Nat.le_of_eq p1')) ?_;refine rwG (List.take_of_length_le (Nat.le_refl _)) ?_
  refine Vm.blt (CallB.tuple (.ref Sto.at_set) ?_ ?_)
  ·exact sl (Nat.succ_le_succ (Nat.le_trans wjP_len p2))
  refine Vm.fz (.F (Sto.le_set ha)) ?_
  exact h
end Mine
end
section
open PySem PySem.W PySem.Calls PyProof.Rows
namespace Mine
set_option backward.match.sparseCases false
variable {G:Glob}
variable {n:Nat} {σ:Sto} {Q:D→Sto→Prop} {E:Exn→Sto→Prop}
structure GA where
 i:Addr
 dx:Addr
 rows:Addr
 marks:Addr
 codes:Addr
structure Gs where
 tables:D
 rows:List D
 marks:List Int
 height:Int
 ended:Int
 codes:List D
noncomputable def gdict (g:GA) (st:Gs):List (Str×D):=[(S_ "tables",st.tables),(S_ "rows",.ref g.rows),(S_ "marks",.ref g.marks),(S_ "height",.int st.height),(S_ "blocks",.int 0),(S_ "loops",.lst []),(S_ "accepts",.lst []),
 (S_ "ended",.int st.ended),(S_ "codes",.ref g.codes)]
noncomputable def gput (σ:Sto) (g:GA) (st:Gs):Sto:=fun b=>
 if b=g.i then some (.inst 15 g.dx) else if b=g.dx then some (.dict (gdict g st)) else if b=g.rows then some (.list st.rows) else if b=g.marks then some (.list (st.marks.map .int)) else if b=g.codes then some (.list st.codes) else σ b
structure GOk (g:GA):Prop where
 h1:g.dx≠g.i
 h2:g.rows≠g.i
 h3:g.rows≠g.dx
 h4:g.marks≠g.i
 h5:g.marks≠g.dx
 h6:g.marks≠g.rows
 h7:g.codes≠g.i
 h8:g.codes≠g.dx
 h9:g.codes≠g.rows
 h10:g.codes≠g.marks
section
variable {g:GA} {st:Gs} (ok:GOk g)
include ok
theorem gput_i:gput σ g st g.i=some (.inst 15 g.dx):=if_pos rfl
theorem gput_dx:gput σ g st g.dx=some (.dict (gdict g st)):=by unfold gput;(refine rwG (if_neg ok.h1) ?_;refine rwG (if_pos rfl) ?_;rfl)
theorem gput_rows:gput σ g st g.rows=some (.list st.rows):=by unfold gput;(refine rwG (if_neg ok.h2) ?_;refine rwG (if_neg ok.h3) ?_;refine rwG (if_pos rfl) ?_;rfl)
theorem gput_marks:gput σ g st g.marks=some (.list (st.marks.map .int)):=by unfold gput;(refine rwG (if_neg ok.h4) ?_;refine rwG (if_neg ok.h5) ?_;refine rwG (if_neg ok.h6) ?_;refine rwG (if_pos rfl) ?_;rfl)
theorem gput_codes:gput σ g st g.codes=some (.list st.codes):=by unfold gput;(refine rwG (if_neg ok.h7) ?_;refine rwG (if_neg ok.h8) ?_;refine rwG (if_neg ok.h9) ?_;refine rwG (if_neg ok.h10) ?_;refine rwG (if_pos rfl) ?_;rfl)
theorem gen_attr {x:Str} {d:D} (hx:(15,x)∈attrTab) (h:(x,d)∈gdict g st):AttrR (gput σ g st) (.ref g.i) x d:=.ref hx (gput_i ok) (gput_dx ok) h
theorem g_tables:AttrR (gput σ g st) (.ref g.i) (S_ "tables") st.tables:=gen_attr ok (by decide +kernel) (List.mem_of_getElem? (i:=0) rfl)
theorem g_rows:AttrR (gput σ g st) (.ref g.i) (S_ "rows") (.ref g.rows):=gen_attr ok (by decide +kernel) (List.mem_of_getElem? (i:=1) rfl)
theorem g_marks:AttrR (gput σ g st) (.ref g.i) (S_ "marks") (.ref g.marks):=gen_attr ok (by decide +kernel) (List.mem_of_getElem? (i:=2) rfl)
theorem g_height:AttrR (gput σ g st) (.ref g.i) (S_ "height") (.int st.height):=gen_attr ok (by decide +kernel) (List.mem_of_getElem? (i:=3) rfl)
theorem g_blocks:AttrR (gput σ g st) (.ref g.i) (S_ "blocks") (.int 0):=gen_attr ok (by decide +kernel) (List.mem_of_getElem? (i:=4) rfl)
theorem g_accepts:AttrR (gput σ g st) (.ref g.i) (S_ "accepts") (.lst []):=gen_attr ok (by decide +kernel) (List.mem_of_getElem? (i:=6) rfl)
theorem g_ended:AttrR (gput σ g st) (.ref g.i) (S_ "ended") (.int st.ended):=gen_attr ok (by decide +kernel) (List.mem_of_getElem? (i:=7) rfl)
theorem g_codes:AttrR (gput σ g st) (.ref g.i) (S_ "codes") (.ref g.codes):=gen_attr ok (by decide +kernel) (List.mem_of_getElem? (i:=8) rfl)
theorem gput_set_rows {l:List D}:(gput σ g st).set g.rows (.list l)=gput σ g { st with rows:=l }:=by
 funext b;unfold gput Sto.set
 by_cases e:b=g.rows
 ·subst e;(refine rwG (if_pos rfl) ?_;refine rwG (if_neg ok.h2) ?_;refine rwG (if_neg ok.h3) ?_;refine rwG (if_pos rfl) ?_;rfl)
 ·simp only [if_neg e];rfl
theorem gput_set_marks {l:List Int}:(gput σ g st).set g.marks (.list (l.map .int))=gput σ g { st with marks:=l }:=by
 funext b;unfold gput Sto.set
 by_cases e:b=g.marks
 ·subst e;(refine rwG (if_pos rfl) ?_;refine rwG (if_neg ok.h4) ?_;refine rwG (if_neg ok.h5) ?_;refine rwG (if_neg ok.h6) ?_;refine rwG (if_pos rfl) ?_;rfl)
 ·simp only [if_neg e];rfl
theorem gput_set_codes {l:List D}:(gput σ g st).set g.codes (.list l)=gput σ g { st with codes:=l }:=by
 funext b;unfold gput Sto.set
 by_cases e:b=g.codes
 ·subst e;(refine rwG (if_pos rfl) ?_;refine rwG (if_neg ok.h7) ?_;refine rwG (if_neg ok.h8) ?_;refine rwG (if_neg ok.h9) ?_;refine rwG (if_neg ok.h10) ?_;refine rwG (if_pos rfl) ?_;rfl)
 ·simp only [if_neg e];rfl
theorem gput_set_height {h:Int}:(gput σ g st).set g.dx (.dict (dput (gdict g st) (S_ "height") (.int h)))=gput σ g { st with height:=h }:=by
 have e0:dput (gdict g st) (S_ "height") (.int h)=gdict g { st with height:=h }:=rfl
 refine rwG e0 ?_
 funext b;unfold gput Sto.set
 by_cases e:b=g.dx
 ·subst e;(refine rwG (if_pos rfl) ?_;refine rwG (if_neg ok.h1) ?_;refine rwG (if_pos rfl) ?_;rfl)
 ·simp only [if_neg e]
end
inductive RowOk (row:D) (taken left:Int):Prop
 | mk (w:Str) (as:List D) (t l:Int) (parts:Str):row=D.tup (.str w::as)→(w,D.tup [.int t,.int l,.str parts])∈shapes→PartsOk parts as→taken=t + nsum parts.cps.toList as→left=l→RowOk row taken left
theorem c_lay (C:Consts G) (hn:n < 970) {g:GA} {st:Gs} {row:D} {t l:Int} (ok:GOk g) (hr:RowOk row t l) (hz:st.rows.length≤sizeLine)
  (h:Q .none (gput σ g { st with rows:=st.rows++[row],height:=st.height + (l - t) })):WC G n (.fn 17 0) [.ref g.i,row] (gput σ g st) Q E:=by
 obtain ⟨w,as,t',l',parts,rfl,hs,hp,rfl,rfl⟩:=hr
 refine WC.fnV k17 (dn' 2 hn) ?_
 refine Vm.fn (c_effect_of C (dn 1 hn) hs hp ?_)
 refine Vm.att (g_rows ok) ?_
 refine Vm.isT (.lst (gput_rows ok)) ?_
 refine Vm.met (CallB.append (gput_rows ok) hz ?_)
 refine rwG (gput_set_rows ok) ?_
 refine Vm.augG (g_height ok) ?_
 refine Vm.bin .subI ?_
 refine Vm.augS .add (mem_of_contains rfl) (gput_i ok) (gput_dx ok) (Nat.le_of_ble_eq_true rfl) ?_
 refine rwG (gput_set_height ok) ?_
 exact h
theorem c_new_mark (hn:n < 970) {a dx m:Addr} {fs:List (Str×D)} {ms:List D} (hi:σ a=some (.inst 15 dx)) (hd:σ dx=some (.dict fs)) (hm:(S_ "marks",D.ref m)∈fs) (hl:σ m=some (.list ms)) (hz:ms.length < sizeLine)
  (h:Q (.int ms.length) (σ.set m (.list (ms++[.int (-1)])))):WC G n (.fn 18 0) [.ref a] σ Q E:=by
 refine WC.fnV k18 (dn' 2 hn) ?_
 have nm:dx≠m:=fun e=>by rw [e,hl] at hd;cases hd
 have na:a≠m:=fun e=>by rw [e,hl] at hi;cases hi
 refine Vm.att (.ref (c:=15) (by decide +kernel) hi hd hm) ?_
 refine Vm.isT (.lst hl) ?_
 refine Vm.met (CallB.append hl (Nat.le_of_lt hz) ?_)
 refine Vm.att (.ref (c:=15) (by decide +kernel) ((Sto.at_ne na).trans hi) ((Sto.at_ne nm).trans hd) hm) ?_
 refine Vm.blt (CallB.len (.ref Sto.at_set) (by refine rwG List.length_append ?_;exact hz) ?_)
 refine Vm.bin .subI ?_
 refine rwG List.length_append ?_;refine rwG (show ((ms.length + [D.int (-1)].length:Nat):Int) - 1=ms.length from Int.add_sub_cancel (ms.length:Int) 1) ?_
 exact h
theorem c_new_markG (hn:n < 970) {g:GA} {st:Gs} (ok:GOk g) (hz:st.marks.length < sizeLine) (h:Q (.int st.marks.length) (gput σ g { st with marks:=st.marks++[-1] })):WC G n (.fn 18 0) [.ref g.i] (gput σ g st) Q E:=by
 refine c_new_mark hn (gput_i ok) (gput_dx ok) (List.mem_of_getElem? (i:=2) rfl) (gput_marks ok) (by rw [List.length_map];exact hz) ?_
 rewrite [List.length_map];refine rwG (show (st.marks.map D.int++[D.int (-1)])=(st.marks++[-1]).map D.int by refine rwG List.map_append ?_;rfl) ?_;refine rwG (gput_set_marks ok) ?_
 exact h
theorem c_put_mark (hn:n < 970) {g:GA} {st:Gs} {m h':Int} (ok:GOk g) (h0:0≤m) (hm:m < st.marks.length) (hz:st.marks.length≤sizeLine) (hr:st.rows.length≤sizeLine)
  (h:Q .none (gput σ g { st with marks:=st.marks.set m.toNat st.rows.length,height:=h' })):WC G n (.fn 19 0) [.ref g.i,.int m,.int h'] (gput σ g st) Q E:=by
 refine WC.fnV k19 (dn' 2 hn) ?_
 refine Vm.att (g_rows ok) ?_
 refine Vm.blt (CallB.len (.ref (gput_rows ok)) hr ?_)
 refine Vm.att (g_marks ok) ?_
 refine Vm.setI (.list (gput_marks ok) h0 (by rw [List.length_map];exact hm) (by rw [List.length_map];exact hz)) ?_
 refine rwG (show (st.marks.map D.int).set m.toNat (D.int st.rows.length)=(st.marks.set m.toNat (st.rows.length:Int)).map D.int by (refine rwG List.map_set ?_;rfl)) ?_;refine rwG (gput_set_marks ok) ?_
 refine Vm.setA (.ins (by decide +kernel) (gput_i ok) (gput_dx ok) (Nat.le_of_ble_eq_true rfl) ?_)
 refine rwG (gput_set_height ok) ?_
 exact h
end Mine
end
section
open PySem PySem.W PySem.Calls PyProof.Rows
namespace Mine
set_option backward.match.sparseCases false
variable {G:Glob}
variable {n:Nat} {σ:Sto} {Q:D→Sto→Prop} {E:Exn→Sto→Prop}
inductive RowJ (marks:List Int) (row row':D):Prop
 | mk (w:Str) (as:List D) (t l:Int) (parts:Str) (ms:List Int):row=D.tup (.str w::as)→(w,D.tup [.int t,.int l,.str parts])∈shapes→PartsOk parts as→jumpsP parts.cps.toList as=List.map D.int ms→(∀m∈ms,0≤m∧m < marks.length)→
   (∀(i:Nat) a,parts.cps[i]?=some 74→as[i]?=some a→a=D.lst []∧jumpsP (parts.cps.toList.take i) (as.take i)=[])→(∀i,(jumpsP (parts.cps.toList.take i) (as.take i)).length≤ms.length)→ms.length≤1000→
   row'=D.tup (.str w::wjP 0 parts.cps.toList as (ms.map fun m=>.int (marks.getD m.toNat 0)))→RowJ marks row row'
theorem Sto.at_del {σ:Sto} {a b:Addr} (h:b≠a):(σ.del a) b=σ b:=if_neg h
inductive Rows2 (marks:List Int):List D→List D→Prop
 | nil:Rows2 marks [] []
 | cons {r r':D} {rs rs':List D}:RowJ marks r r'→Rows2 marks rs rs'→Rows2 marks (r::rs) (r'::rs')
noncomputable abbrev markD (marks:List Int) (m:Int):D:=.int (marks.getD m.toNat 0)
inductive PRow (τ:Sto) (marks:List Int) (rows' ds acc:List D) (σ':Sto):Prop
 | mk (rest:List D):Rows2 marks ds rest→rows'=acc++rest→σ'=τ→PRow τ marks rows' ds acc σ'
inductive PMark (τ:Sto) (marks ms:List Int) (ds acc:List D) (σ':Sto):Prop
 | mk (rest:List Int):ds=rest.map D.int→(∀m∈rest,0≤m∧m < marks.length)→ms.map (markD marks)=acc++rest.map (markD marks)→σ'=τ→PMark τ marks ms ds acc σ'
theorem c_placed_rows (C:Consts G) (hn:n < 970) {g:GA} {st:Gs} (ok:GOk g) {rows':List D} (hr:Rows2 st.marks st.rows rows') (hz:st.rows.length≤2 ^ 20) (hm:st.marks.length≤2 ^ 20)
  (h:Q (.lst rows') ((gput σ g st).del g.rows)):WC G n (.fn 20 0) [.ref g.i] (gput σ g st) Q E:=by
 refine WC.fnV k20 (dn' 2 hn) ?_
 refine Vm.att (g_rows ok) ?_
 refine Vm.fz (.L (gput_rows ok)) ?_
 have t1:=(Sto.at_del (Ne.symm ok.h2)).trans (gput_i (σ:=σ) (st:=st) ok)
 have t2:=(Sto.at_del (Ne.symm ok.h3)).trans (gput_dx (σ:=σ) (st:=st) ok)
 have t3:=(Sto.at_del ok.h6).trans (gput_marks (σ:=σ) (st:=st) ok)
 generalize (gput σ g st).del g.rows=τ at t1 t2 t3 h ⊢
 refine Vm.lc st.rows (PRow τ st.marks rows') .lst (sl hz) ⟨rows',hr,rfl,rfl⟩ (fun d ds acc σ₀ q=>?_) fun acc σ₀ q=>?_
 ·obtain ⟨rest,hrest,e,q⟩:=q
  refine rwG q ?_
  cases hrest with
  | @cons _ r' _ rs' hj hrest=>
   obtain ⟨w,as,t,l,parts,ms,e0,hs,hp,j1,j2,j3,j4,j5,e9⟩:=hj
   refine rwG e0 ?_
   rw [e9] at e
   refine Vm.fn (c_jumps_of C (dn 1 hn) hs hp (fun i a x y=>⟨(j3 i a x y).2,[],(j3 i a x y).1,Nat.zero_le _⟩) (fun i=>Nat.le_trans (j4 i) j5) ?_)
   refine rwG j1 ?_
   refine Vm.lc _ (PMark τ st.marks ms) .lst (by rw [List.length_map];exact sl j5) ⟨ms,rfl,j2,rfl,rfl⟩ (fun d ds' acc' σ₁ q=>?_) fun acc' σ₁ q=>?_
   ·obtain ⟨rest,e1,e2,e3,q⟩:=q
    refine rwG q ?_
    cases rest with
    | nil=>cases e1
    | cons m rest=>
     refine rwG (List.cons.inj e1).1 ?_
     refine rwG (List.cons.inj e1).2 ?_
     refine ex02 (e2 m (.head _)) ?_;intro m1 m2
     have hmm:m.toNat < st.marks.length:=(Int.toNat_lt m1).mpr m2
     refine Vm.att (.ref (c:=15) (by decide +kernel) t1 t2 (List.mem_of_getElem? (i:=2) rfl)) ?_
     refine Vm.sub (.lstM t3 m1 (Int.lt_trans m2 (Int.lt_of_le_of_lt (Int.ofNat_le.mpr hm) (by decide))) (d:=markD st.marks m) (by rewrite [List.getElem?_map,List.getElem?_eq_getElem hmm];exact congrArg (fun i=>some (D.int i)) (getD_lt hmm).symm)) ?_
     exact ⟨rest,rfl,fun x hx=>e2 x (.tail _ hx),e3.trans (List.append_cons ..),rfl⟩
   ·obtain ⟨rest,e1,e2,e3,q⟩:=q
    refine rwG q ?_
    cases rest with
    | cons _ _=>cases e1
    | nil=>
     refine rwL (e3.trans (List.append_nil _)) ?_
     refine Vm.fn (c_with_jumps C (dn 1 hn) hs hp (fun i a x y=>(j3 i a x y).1) (by rw [List.length_map];exact j5) (fun i _=>by rw [List.length_map];exact j4 _) ?_)
     exact ⟨rs',hrest,e.trans (List.append_cons ..),rfl⟩
 ·obtain ⟨rest,hrest,e,q⟩:=q
  cases hrest
  refine rwG q ?_
  refine rwL (e.trans (List.append_nil _)) ?_
  exact h
end Mine
end
section
open PySem PySem.W PySem.Calls PyProof.Rows
namespace Mine
set_option backward.match.sparseCases false
variable {G:Glob}
variable {n:Nat} {σ:Sto} {Q:D→Sto→Prop} {E:Exn→Sto→Prop}
noncomputable def D.isInt:D→Bool
 | .int _=>true
 | _=>false
noncomputable def okP:List Nat→List D→Bool
 | c::cs,a::as=>c != 119&&(c != 110 || a.isInt)&&okP cs as
 | _,_=>true
theorem isInt_ok {a:D} (h:a.isInt=true):∃k,a=D.int k:=by
 cases a with
 | int k=>exact ⟨k,rfl⟩
 | _=>exact nomatch h
theorem okP_at (cs:List Nat):∀{as:List D},okP cs as=true→∀(i:Nat) c a,cs[i]?=some c→as[i]?=some a→c≠119∧(c=110→∃k,a=D.int k):=by
 induction cs with
 | nil=>exact fun _ i c a e=>nomatch e
 | cons c cs ih=>
  intro as h i c' a' e1 e2
  cases as with
  | nil=>exact nomatch e2
  | cons a as=>
   replace h:(c != 119&&(c != 110 || a.isInt)&&okP cs as)=true:=h
   induction i with
   | zero=>
    refine rwL (Option.some.inj e1) ?_;refine rwL (Option.some.inj e2) ?_
    exact ⟨bne_iff_ne.mp (andL (andL h)),fun e=>isInt_ok ((Bool.or_eq_true_iff.mp (andR (andL h))).resolve_left fun z=>bne_iff_ne.mp z e)⟩
   | succ i=>exact ih (andR h) i c' a' e1 e2
theorem PartsOk.of {parts:Str} {as:List D} (hl:parts.cps.size=as.length) (hz:as.length≤100) (h:okP parts.cps.toList as=true):PartsOk parts as:=
 ⟨hl,hz,fun i c a e1 e2=>okP_at _ h i c a (by refine rwG Array.getElem?_toList ?_;exact e1) e2⟩
theorem RowOk.of (i:Nat) {w:Str} {as:List D} {t l taken:Int} {parts:Str} (hs:shapes[i]?=some (w,D.tup [.int t,.int l,.str parts])) (hl:parts.cps.size=as.length) (hz:as.length≤100) (h:okP parts.cps.toList as=true) (he:taken=t + nsum parts.cps.toList as):
  RowOk (.tup (.str w::as)) taken l:=⟨w,as,t,l,parts,rfl,List.mem_of_getElem? hs,.of hl hz h,he,rfl⟩
noncomputable def noJ:List Nat→Bool
 | c::cs=>c != 106&&c != 74&&noJ cs
 | []=>true
theorem noJ_jumps:∀{cs:List Nat} {as:List D},noJ cs=true→jumpsP cs as=[]
 | [],_,_=>by simp [jumpsP]
 | _::_,[],_=>by simp [jumpsP]
 | c::cs,a::as,h=>by
  simp only [noJ,Bool.and_eq_true,bne_iff_ne,ne_eq] at h
  simp [jumpsP,h.1.1,h.1.2,noJ_jumps (cs:=cs) (as:=as) h.2]
theorem noJ_take:∀{cs:List Nat} (i:Nat),noJ cs=true→noJ (cs.take i)=true
 | [],i,_=>by simp [noJ]
 | c::cs,0,_=>by simp [noJ]
 | c::cs,i + 1,h=>by
  simp only [noJ,Bool.and_eq_true] at h
  simp only [List.take_succ_cons,noJ,Bool.and_eq_true]
  exact ⟨h.1,noJ_take i h.2⟩
theorem noJ_wj:∀{cs:List Nat} {as pl:List D} {u:Nat},noJ cs=true→cs.length=as.length→wjP u cs as pl=as
 | [],[],_,_,_,_=>by simp [wjP]
 | [],_::_,_,_,_,h=>nomatch h
 | _::_,[],_,_,_,h=>nomatch h
 | c::cs,a::as,pl,u,h,hl=>by
  simp only [noJ,Bool.and_eq_true,bne_iff_ne,ne_eq] at h
  rewrite [wjP];refine rwG (if_neg h.1.1) ?_;refine rwG (if_neg h.1.2) ?_;refine rwG (noJ_wj h.2 (by exact Nat.succ.inj hl)) ?_;rfl
theorem noJ_at:∀{cs:List Nat} {i:Nat},noJ cs=true→cs[i]?≠some 74
 | [],_,_=>by simp
 | c::cs,0,h=>by
  simp only [noJ,Bool.and_eq_true,bne_iff_ne,ne_eq] at h
  intro e;cases e;exact h.1.2 rfl
 | c::cs,i + 1,h=>by
  simp only [noJ,Bool.and_eq_true] at h
  simpa using noJ_at (i:=i) h.2
theorem RowJ.plain {marks:List Int} (i:Nat) {w:Str} {as:List D} {t l:Int} {parts:Str} (hs:shapes[i]?=some (w,D.tup [.int t,.int l,.str parts])) (hl:parts.cps.size=as.length) (hz:as.length≤100) (h:okP parts.cps.toList as=true) (hj:noJ parts.cps.toList=true):
  RowJ marks (.tup (.str w::as)) (.tup (.str w::as)):=by
 refine ⟨w,as,t,l,parts,[],rfl,List.mem_of_getElem? hs,.of hl hz h,noJ_jumps hj,fun _ h=>(nomatch h),fun i a e _=>absurd (by refine rwG Array.getElem?_toList ?_;exact e) (noJ_at (i:=i) hj),fun i=>by refine rwG (noJ_jumps (noJ_take i hj)) ?_;exact Nat.le_refl _,by simp,?_⟩
 refine rwG (noJ_wj hj (by refine rwG Array.length_toList ?_;exact hl)) ?_;rfl
noncomputable abbrev row_const (i:Int):D:=.tup [.str (S_ "const"),.int i]
theorem ok_const (i:Int):RowOk (row_const i) (0) 1:=.of 0 (parts:=S_ "-") rfl rfl (Nat.le_of_ble_eq_true rfl) rfl rfl
theorem rj_const {marks:List Int} (i:Int):RowJ marks (row_const i) (row_const i):=.plain 0 (parts:=S_ "-") rfl rfl (Nat.le_of_ble_eq_true rfl) rfl rfl
noncomputable abbrev row_obj (k:Int) (s:Str):D:=.tup [.str (S_ "obj"),.int k,.str s]
theorem ok_obj (k:Int) (s:Str):RowOk (row_obj k s) (0) 1:=.of 1 (parts:=S_ "--") rfl rfl (Nat.le_of_ble_eq_true rfl) rfl rfl
theorem rj_obj {marks:List Int} (k:Int) (s:Str):RowJ marks (row_obj k s) (row_obj k s):=.plain 1 (parts:=S_ "--") rfl rfl (Nat.le_of_ble_eq_true rfl) rfl rfl
noncomputable abbrev row_callf (u:Int) (s:Str) (m:Int):D:=.tup [.str (S_ "callf"),.int u,.str s,.int m]
theorem ok_callf (u:Int) (s:Str) (m:Int):RowOk (row_callf u s m) (m) 1:=.of 21 (parts:=S_ "--n") rfl rfl (Nat.le_of_ble_eq_true rfl) rfl (by refine (?_:_=_ + nsum [45,45,110] _);simp [nsum,nAt,D.asInt])
theorem rj_callf {marks:List Int} (u:Int) (s:Str) (m:Int):RowJ marks (row_callf u s m) (row_callf u s m):=.plain 21 (parts:=S_ "--n") rfl rfl (Nat.le_of_ble_eq_true rfl) rfl rfl
noncomputable abbrev row_dispatchf (s:Str) (x:Int) (m:Int):D:=.tup [.str (S_ "dispatchf"),.str s,.int x,.int m]
theorem ok_dispatchf (s:Str) (x:Int) (m:Int):RowOk (row_dispatchf s x m) (m) 1:=.of 22 (parts:=S_ "--n") rfl rfl (Nat.le_of_ble_eq_true rfl) rfl (by refine (?_:_=_ + nsum [45,45,110] _);simp [nsum,nAt,D.asInt])
theorem rj_dispatchf {marks:List Int} (s:Str) (x:Int) (m:Int):RowJ marks (row_dispatchf s x m) (row_dispatchf s x m):=.plain 22 (parts:=S_ "--n") rfl rfl (Nat.le_of_ble_eq_true rfl) rfl rfl
noncomputable abbrev row_place (k:Int) (s:Str):D:=.tup [.str (S_ "place"),.int k,.str s]
theorem ok_place (k:Int) (s:Str):RowOk (row_place k s) (0) 1:=.of 24 (parts:=S_ "--") rfl rfl (Nat.le_of_ble_eq_true rfl) rfl rfl
theorem rj_place {marks:List Int} (k:Int) (s:Str):RowJ marks (row_place k s) (row_place k s):=.plain 24 (parts:=S_ "--") rfl rfl (Nat.le_of_ble_eq_true rfl) rfl rfl
noncomputable abbrev row_placecomp (s:Str):D:=.tup [.str (S_ "placecomp"),.str s]
theorem ok_placecomp (s:Str):RowOk (row_placecomp s) (1) 1:=.of 25 (parts:=S_ "-") rfl rfl (Nat.le_of_ble_eq_true rfl) rfl rfl
theorem rj_placecomp {marks:List Int} (s:Str):RowJ marks (row_placecomp s) (row_placecomp s):=.plain 25 (parts:=S_ "-") rfl rfl (Nat.le_of_ble_eq_true rfl) rfl rfl
noncomputable abbrev row_placederef:D:=.tup [.str (S_ "placederef")]
theorem ok_placederef:RowOk (row_placederef ) (1) 1:=.of 28 (parts:=S_ "") rfl rfl (Nat.le_of_ble_eq_true rfl) rfl rfl
theorem rj_placederef {marks:List Int}:RowJ marks (row_placederef ) (row_placederef ):=.plain 28 (parts:=S_ "") rfl rfl (Nat.le_of_ble_eq_true rfl) rfl rfl
noncomputable abbrev row_target (d:D):D:=.tup [.str (S_ "target"),d]
theorem ok_target (d:D):RowOk (row_target d) (1) 1:=.of 30 (parts:=S_ "-") rfl rfl (Nat.le_of_ble_eq_true rfl) rfl rfl
theorem rj_target {marks:List Int} (d:D):RowJ marks (row_target d) (row_target d):=.plain 30 (parts:=S_ "-") rfl rfl (Nat.le_of_ble_eq_true rfl) rfl rfl
noncomputable abbrev row_actual:D:=.tup [.str (S_ "actual")]
theorem ok_actual:RowOk (row_actual ) (1) 1:=.of 32 (parts:=S_ "") rfl rfl (Nat.le_of_ble_eq_true rfl) rfl rfl
theorem rj_actual {marks:List Int}:RowJ marks (row_actual ) (row_actual ):=.plain 32 (parts:=S_ "") rfl rfl (Nat.le_of_ble_eq_true rfl) rfl rfl
noncomputable abbrev row_actualout:D:=.tup [.str (S_ "actualout")]
theorem ok_actualout:RowOk (row_actualout ) (1) 1:=.of 33 (parts:=S_ "") rfl rfl (Nat.le_of_ble_eq_true rfl) rfl rfl
theorem rj_actualout {marks:List Int}:RowJ marks (row_actualout ) (row_actualout ):=.plain 33 (parts:=S_ "") rfl rfl (Nat.le_of_ble_eq_true rfl) rfl rfl
noncomputable abbrev row_copy:D:=.tup [.str (S_ "copy")]
theorem ok_copy:RowOk (row_copy ) (1) 1:=.of 17 (parts:=S_ "") rfl rfl (Nat.le_of_ble_eq_true rfl) rfl rfl
theorem rj_copy {marks:List Int}:RowJ marks (row_copy ) (row_copy ):=.plain 17 (parts:=S_ "") rfl rfl (Nat.le_of_ble_eq_true rfl) rfl rfl
noncomputable abbrev row_jump (m:Int):D:=.tup [.str (S_ "jump"),.int m]
theorem ok_jump (m:Int):RowOk (row_jump m) (0) 0:=.of 34 (parts:=S_ "j") rfl rfl (Nat.le_of_ble_eq_true rfl) rfl rfl
noncomputable abbrev row_step (l:Int):D:=.tup [.str (S_ "step"),.int l]
theorem ok_step (l:Int):RowOk (row_step l) (0) 0:=.of 39 (parts:=S_ "-") rfl rfl (Nat.le_of_ble_eq_true rfl) rfl rfl
theorem rj_step {marks:List Int} (l:Int):RowJ marks (row_step l) (row_step l):=.plain 39 (parts:=S_ "-") rfl rfl (Nat.le_of_ble_eq_true rfl) rfl rfl
noncomputable abbrev row_line (l:Int):D:=.tup [.str (S_ "line"),.int l]
theorem ok_line (l:Int):RowOk (row_line l) (0) 0:=.of 40 (parts:=S_ "-") rfl rfl (Nat.le_of_ble_eq_true rfl) rfl rfl
theorem rj_line {marks:List Int} (l:Int):RowJ marks (row_line l) (row_line l):=.plain 40 (parts:=S_ "-") rfl rfl (Nat.le_of_ble_eq_true rfl) rfl rfl
noncomputable abbrev row_store:D:=.tup [.str (S_ "store")]
theorem ok_store:RowOk (row_store ) (2) 0:=.of 41 (parts:=S_ "") rfl rfl (Nat.le_of_ble_eq_true rfl) rfl rfl
theorem rj_store {marks:List Int}:RowJ marks (row_store ) (row_store ):=.plain 41 (parts:=S_ "") rfl rfl (Nat.le_of_ble_eq_true rfl) rfl rfl
noncomputable abbrev row_result:D:=.tup [.str (S_ "result")]
theorem ok_result:RowOk (row_result ) (1) 0:=.of 47 (parts:=S_ "") rfl rfl (Nat.le_of_ble_eq_true rfl) rfl rfl
theorem rj_result {marks:List Int}:RowJ marks (row_result ) (row_result ):=.plain 47 (parts:=S_ "") rfl rfl (Nat.le_of_ble_eq_true rfl) rfl rfl
noncomputable abbrev row_arm:D:=.tup [.str (S_ "arm"),.lst [],.lst []]
theorem ok_arm:RowOk (row_arm ) (0) 0:=.of 49 (parts:=S_ "-J") rfl rfl (Nat.le_of_ble_eq_true rfl) rfl rfl
noncomputable abbrev row_pack:D:=.tup [.str (S_ "pack")]
theorem ok_pack:RowOk (row_pack ) (0) 0:=.of 51 (parts:=S_ "") rfl rfl (Nat.le_of_ble_eq_true rfl) rfl rfl
theorem rj_pack {marks:List Int}:RowJ marks (row_pack ) (row_pack ):=.plain 51 (parts:=S_ "") rfl rfl (Nat.le_of_ble_eq_true rfl) rfl rfl
noncomputable abbrev row_endpack:D:=.tup [.str (S_ "endpack")]
theorem ok_endpack:RowOk (row_endpack ) (0) 0:=.of 52 (parts:=S_ "") rfl rfl (Nat.le_of_ble_eq_true rfl) rfl rfl
theorem rj_endpack {marks:List Int}:RowJ marks (row_endpack ) (row_endpack ):=.plain 52 (parts:=S_ "") rfl rfl (Nat.le_of_ble_eq_true rfl) rfl rfl
noncomputable abbrev row_endsub:D:=.tup [.str (S_ "endsub")]
theorem ok_endsub:RowOk (row_endsub ) (0) 0:=.of 53 (parts:=S_ "") rfl rfl (Nat.le_of_ble_eq_true rfl) rfl rfl
theorem rj_endsub {marks:List Int}:RowJ marks (row_endsub ) (row_endsub ):=.plain 53 (parts:=S_ "") rfl rfl (Nat.le_of_ble_eq_true rfl) rfl rfl
noncomputable abbrev row_endbody:D:=.tup [.str (S_ "endbody")]
theorem ok_endbody:RowOk (row_endbody ) (0) 0:=.of 54 (parts:=S_ "") rfl rfl (Nat.le_of_ble_eq_true rfl) rfl rfl
theorem rj_endbody {marks:List Int}:RowJ marks (row_endbody ) (row_endbody ):=.plain 54 (parts:=S_ "") rfl rfl (Nat.le_of_ble_eq_true rfl) rfl rfl
noncomputable abbrev row_sub (u:Int) (s:Str):D:=.tup [.str (S_ "sub"),.int u,.str s]
theorem ok_sub (u:Int) (s:Str):RowOk (row_sub u s) (0) 1:=.of 60 (parts:=S_ "--") rfl rfl (Nat.le_of_ble_eq_true rfl) rfl rfl
theorem rj_sub {marks:List Int} (u:Int) (s:Str):RowJ marks (row_sub u s) (row_sub u s):=.plain 60 (parts:=S_ "--") rfl rfl (Nat.le_of_ble_eq_true rfl) rfl rfl
noncomputable abbrev row_callp (m:Int):D:=.tup [.str (S_ "callp"),.int m]
theorem ok_callp (m:Int):RowOk (row_callp m) (1 + m) 0:=.of 61 (parts:=S_ "n") rfl rfl (Nat.le_of_ble_eq_true rfl) rfl (by refine (?_:_=_ + nsum [110] _);simp [nsum,nAt,D.asInt])
theorem rj_callp {marks:List Int} (m:Int):RowJ marks (row_callp m) (row_callp m):=.plain 61 (parts:=S_ "n") rfl rfl (Nat.le_of_ble_eq_true rfl) rfl rfl
noncomputable abbrev row_dispatchp (s:Str) (x:Int) (m:Int):D:=.tup [.str (S_ "dispatchp"),.str s,.int x,.int m]
theorem ok_dispatchp (s:Str) (x:Int) (m:Int):RowOk (row_dispatchp s x m) (m) 0:=.of 62 (parts:=S_ "--n") rfl rfl (Nat.le_of_ble_eq_true rfl) rfl (by refine (?_:_=_ + nsum [45,45,110] _);simp [nsum,nAt,D.asInt])
theorem rj_dispatchp {marks:List Int} (s:Str) (x:Int) (m:Int):RowJ marks (row_dispatchp s x m) (row_dispatchp s x m):=.plain 62 (parts:=S_ "--n") rfl rfl (Nat.le_of_ble_eq_true rfl) rfl rfl
noncomputable abbrev row_begincell (s:Str):D:=.tup [.str (S_ "begincell"),.str s]
theorem ok_begincell (s:Str):RowOk (row_begincell s) (0) 1:=.of 63 (parts:=S_ "-") rfl rfl (Nat.le_of_ble_eq_true rfl) rfl rfl
theorem rj_begincell {marks:List Int} (s:Str):RowJ marks (row_begincell s) (row_begincell s):=.plain 63 (parts:=S_ "-") rfl rfl (Nat.le_of_ble_eq_true rfl) rfl rfl
noncomputable abbrev row_initcell (s:Str):D:=.tup [.str (S_ "initcell"),.str s]
theorem ok_initcell (s:Str):RowOk (row_initcell s) (2) 0:=.of 64 (parts:=S_ "-") rfl rfl (Nat.le_of_ble_eq_true rfl) rfl rfl
theorem rj_initcell {marks:List Int} (s:Str):RowJ marks (row_initcell s) (row_initcell s):=.plain 64 (parts:=S_ "-") rfl rfl (Nat.le_of_ble_eq_true rfl) rfl rfl
noncomputable abbrev row_firstcell (s:Str):D:=.tup [.str (S_ "firstcell"),.str s]
theorem ok_firstcell (s:Str):RowOk (row_firstcell s) (1) 0:=.of 65 (parts:=S_ "-") rfl rfl (Nat.le_of_ble_eq_true rfl) rfl rfl
theorem rj_firstcell {marks:List Int} (s:Str):RowJ marks (row_firstcell s) (row_firstcell s):=.plain 65 (parts:=S_ "-") rfl rfl (Nat.le_of_ble_eq_true rfl) rfl rfl
noncomputable abbrev row_laysubtype (s:Str) (s':Str):D:=.tup [.str (S_ "laysubtype"),.str s,.str s']
theorem ok_laysubtype (s:Str) (s':Str):RowOk (row_laysubtype s s') (0) 0:=.of 66 (parts:=S_ "--") rfl rfl (Nat.le_of_ble_eq_true rfl) rfl rfl
theorem rj_laysubtype {marks:List Int} (s:Str) (s':Str):RowJ marks (row_laysubtype s s') (row_laysubtype s s'):=.plain 66 (parts:=S_ "--") rfl rfl (Nat.le_of_ble_eq_true rfl) rfl rfl
noncomputable abbrev row_laytype (s:Str):D:=.tup [.str (S_ "laytype"),.str s]
theorem ok_laytype (s:Str):RowOk (row_laytype s) (0) 0:=.of 67 (parts:=S_ "-") rfl rfl (Nat.le_of_ble_eq_true rfl) rfl rfl
theorem rj_laytype {marks:List Int} (s:Str):RowJ marks (row_laytype s) (row_laytype s):=.plain 67 (parts:=S_ "-") rfl rfl (Nat.le_of_ble_eq_true rfl) rfl rfl
noncomputable abbrev row_laysub (m:Int):D:=.tup [.str (S_ "laysub"),.int m]
theorem ok_laysub (m:Int):RowOk (row_laysub m) (0) 0:=.of 68 (parts:=S_ "-") rfl rfl (Nat.le_of_ble_eq_true rfl) rfl rfl
theorem rj_laysub {marks:List Int} (m:Int):RowJ marks (row_laysub m) (row_laysub m):=.plain 68 (parts:=S_ "-") rfl rfl (Nat.le_of_ble_eq_true rfl) rfl rfl
noncomputable abbrev row_layplace (s:Str):D:=.tup [.str (S_ "layplace"),.str s]
theorem ok_layplace (s:Str):RowOk (row_layplace s) (1) 0:=.of 71 (parts:=S_ "-") rfl rfl (Nat.le_of_ble_eq_true rfl) rfl rfl
theorem rj_layplace {marks:List Int} (s:Str):RowJ marks (row_layplace s) (row_layplace s):=.plain 71 (parts:=S_ "-") rfl rfl (Nat.le_of_ble_eq_true rfl) rfl rfl
theorem rj_jump {marks:List Int} (m:Int) (h0:0≤m) (h1:m < marks.length):RowJ marks (row_jump m) (row_jump (marks.getD m.toNat 0)):=by
 refine ⟨_,_,0,0,S_ "j",[m],rfl,List.mem_of_getElem? (i:=34) rfl,.of rfl (by simp) rfl,rfl,fun x hx=>by rw [List.mem_singleton] at hx;subst hx;exact ⟨h0,h1⟩,fun i a e _=>?_,fun i=>?_,by simp,rfl⟩
 ·match i,e with
  | 0,e=>exact absurd e (by decide)
  | i + 1,e=>exact absurd e (by refine (?_:(#[106]:Array Nat)[i + 1]?≠some 74);simp)
 ·match i with
  | 0=>exact Nat.zero_le _
  | i + 1=>refine (?_:(jumpsP (106::List.take i []) (D.int m::List.take i [])).length≤1);simp [jumpsP]
theorem rj_arm {marks:List Int}:RowJ marks row_arm row_arm:=by
 refine ⟨_,_,0,0,S_ "-J",[],rfl,List.mem_of_getElem? (i:=49) rfl,.of rfl (by simp) rfl,rfl,fun x hx=>(nomatch hx),fun i a e e'=>?_,fun i=>?_,by decide,rfl⟩
 ·match i,e,e' with
  | 0,e,_=>exact absurd e (by decide)
  | 1,_,e'=>cases e';exact ⟨rfl,rfl⟩
  | i + 2,e,_=>exact absurd e (by refine (?_:(#[45,74]:Array Nat)[i + 2]?≠some 74);simp)
 ·match i with
  | 0=>exact Nat.zero_le _
  | 1=>exact Nat.zero_le _
  | i + 2=>refine (?_:(jumpsP (45::74::List.take i []) (D.lst []::D.lst []::List.take i [])).length≤0);simp [jumpsP,D.asList]
end Mine
end
section
open PySem PySem.W PySem.Calls PyProof.Rows
namespace Mine
set_option backward.match.sparseCases false
variable {G:Glob}
variable {n:Nat} {σ:Sto} {Q:D→Sto→Prop} {E:Exn→Sto→Prop}
inductive V where
 | lit (i:Int) | obj (k:Int) | disp (as:List V) (ix:Int) | call (u:Int) (s:Str) (as:List V)
mutual
noncomputable def encV:V→D
 | .lit i=>.tup [.str (S_ "lit"),.int 0,.int i]
 | .obj k=>.tup [.str (S_ "obj"),.int 0,.int k,.str (S_ "x#1")]
 | .disp as ix=>.tup [.str (S_ "dispatch"),.int 0,.str (S_ "area"),.lst (encVs as),.int ix]
 | .call u s as=>.tup [.str (S_ "call"),.int 0,.int u,.str s,.lst (encVs as)]
noncomputable def encVs:List V→List D
 | []=>[]
 | a::as=>.tup [.str (S_ "in"),encV a]::encVs as
end
mutual
noncomputable def rowsV:V→List D
 | .lit i=>[row_const i]
 | .obj k=>[row_obj k (S_ "x#1")]
 | .disp as ix=>rowsVs as++[row_dispatchf (S_ "area") ix as.length]
 | .call u s as=>rowsVs as++[row_callf u s as.length]
noncomputable def rowsVs:List V→List D
 | []=>[]
 | a::as=>rowsV a++[row_copy]++rowsVs as
end
mutual
noncomputable def vdepth:V→Nat
 | .lit _ | .obj _=>0
 | .disp as _=>vdepths as + 1
 | .call _ _ as=>vdepths as + 1
noncomputable def vdepths:List V→Nat
 | []=>0
 | a::as=>max (vdepth a) (vdepths as)
end
mutual
noncomputable def vslim:V→Prop
 | .lit _ | .obj _=>True
 | .disp as _=>as.length≤100∧vslims as
 | .call _ _ as=>as.length≤100∧vslims as
noncomputable def vslims:List V→Prop
 | []=>True
 | a::as=>vslim a∧vslims as
end
theorem encVs_map:∀as:List V,encVs as=as.map fun a=>D.tup [.str (S_ "in"),encV a]
 | []=>by rw [encVs];rfl
 | a::as=>by (rewrite [encVs];refine rwG List.map_cons ?_;refine rwG (encVs_map as) ?_;rfl)
theorem encVs_len (as:List V):(encVs as).length=as.length:=by rw [encVs_map,List.length_map]
noncomputable def nodesT:List (Str×D):=[(S_ "lit",.fn 58 0),(S_ "null",.fn 59 0),(S_ "obj",.fn 60 0),(S_ "disc",.fn 61 0),(S_ "comp",.fn 62 0),(S_ "index",.fn 63 0),(S_ "slice",.fn 64 0),(S_ "deref",.fn 65 0),(S_ "call",.fn 32 0),(S_ "dispatch",.fn 33 0),(S_ "protcall",.fn 34 0)]
noncomputable def placesT:List (Str×D):=[(S_ "obj",.fn 67 0),(S_ "comp",.fn 68 0),(S_ "index",.fn 69 0),(S_ "slice",.fn 70 0),(S_ "deref",.fn 71 0),(S_ "qual",.fn 72 0),(S_ "conv",.fn 72 0)]
noncomputable def stmtsT:List (Str×D):=[(S_ "null",.fn 75 0),(S_ "assign",.fn 76 0),(S_ "if",.fn 77 0),(S_ "case",.fn 78 0),(S_ "loop",.fn 79 0),(S_ "exit",.fn 81 0),(S_ "block",.fn 82 0),(S_ "raise",.fn 83 0),(S_ "return",.fn 85 0),(S_ "pcall",.fn 35 0),(S_ "pdispatch",.fn 36 0)]
noncomputable def declsT:List (Str×D):=[(S_ "var",.fn 42 0),(S_ "subtype",.fn 43 0),(S_ "type",.fn 44 0),(S_ "exception",.fn 45 0),(S_ "rename",.fn 46 0),(S_ "sub",.fn 48 0),(S_ "task",.fn 49 0),(S_ "protected",.fn 50 0),(S_ "package",.fn 51 0)]
noncomputable def tabT:List (Str×D):=[(S_ "nodes",.dct nodesT),(S_ "places",.dct placesT),(S_ "statements",.dct stmtsT),(S_ "declarations",.dct declsT)]
noncomputable def big:Nat:=2 ^ 20
theorem big_size:big≤sizeLine:=by refine rwG sizeLine_eq ?_;decide
noncomputable abbrev Gs.add (st:Gs) (rows:List D) (h:Int):Gs:={ st with rows:=st.rows++rows,height:=st.height + h }
theorem c_lay1 (C:Consts G) (hn:n < 970) {g:GA} {st:Gs} {rows:List D} {h0:Int} {row:D} {t l:Int} (ok:GOk g) (hr:RowOk row t l) (hz:(st.rows++rows).length≤big)
  (h:Q .none (gput σ g (st.add (rows++[row]) (h0 + (l - t))))):WC G n (.fn 17 0) [.ref g.i,row] (gput σ g (st.add rows h0)) Q E:=by
 refine c_lay C hn ok hr (Nat.le_trans hz big_size) ?_
 have e:({ st.add rows h0 with rows:=(st.add rows h0).rows++[row],height:=(st.add rows h0).height + (l - t) }:Gs)=st.add (rows++[row]) (h0 + (l - t)):=by
  simp [Gs.add,Int.add_assoc]
 refine rwG e ?_;exact h
theorem c_lay0 (C:Consts G) (hn:n < 970) {g:GA} {st:Gs} {row:D} {t l:Int} (ok:GOk g) (hr:RowOk row t l) (hz:st.rows.length≤big)
  (h:Q .none (gput σ g (st.add [row] (l - t)))):WC G n (.fn 17 0) [.ref g.i,row] (gput σ g st) Q E:=c_lay C hn ok hr (Nat.le_trans hz big_size) h
theorem c_gen_lit (C:Consts G) (hn:n < 960) {g:GA} {st:Gs} {i:Int} (ok:GOk g) (hz:st.rows.length < big) (h:Q .none (gput σ g (st.add [row_const i] 1))):
  WC G n (.fn 58 0) [.ref g.i,encV (.lit i)] (gput σ g st) Q E:=by
 rw [encV]
 refine WC.fnV k58 (dn' 2 hn) ?_
 refine Vm.at rfl ?_
 exact Vm.fn (c_lay0 C (dn 1 hn) ok (ok_const i) (Nat.le_of_lt hz) h)
theorem c_gen_obj (C:Consts G) (hn:n < 960) {g:GA} {st:Gs} {i:Int} (ok:GOk g) (hz:st.rows.length < big) (h:Q .none (gput σ g (st.add [row_obj i (S_ "x#1")] 1))):
  WC G n (.fn 60 0) [.ref g.i,encV (.obj i)] (gput σ g st) Q E:=by
 rw [encV]
 refine WC.fnV k60 (dn' 2 hn) ?_
 refine Vm.at rfl ?_
 refine Vm.at rfl ?_
 exact Vm.fn (c_lay0 C (dn 1 hn) ok (ok_obj i _) (Nat.le_of_lt hz) h)
end Mine
end
section
open PySem PySem.W PySem.Calls PyProof.Rows
namespace Mine
set_option backward.match.sparseCases false
variable {G:Glob}
variable {n:Nat} {σ:Sto} {Q:D→Sto→Prop} {E:Exn→Sto→Prop}
theorem rowsVs_append:∀(as bs:List V),rowsVs (as++bs)=rowsVs as++rowsVs bs
 | [],bs=>by rw [List.nil_append,rowsVs,List.nil_append]
 | a::as,bs=>by (refine rwG List.cons_append ?_;rewrite [rowsVs,rowsVs];refine rwG (rowsVs_append as bs) ?_);exact (List.append_assoc _ _ _).symm
theorem vdepths_mem {d:Nat}:∀{as:List V},vdepths as≤d→∀a∈as,vdepth a≤d
 | [],_,_,h=>nomatch h
 | b::as,h,a,ha=>by
  rw [vdepths] at h
  rcases List.mem_cons.mp ha with rfl | ha
  ·exact Nat.le_trans (Nat.le_max_left _ _) h
  ·exact vdepths_mem (by exact Nat.le_trans (Nat.le_max_right _ _) h) a ha
theorem vslims_mem:∀{as:List V},vslims as→∀a∈as,vslim a
 | [],_,_,h=>nomatch h
 | b::as,h,a,ha=>by
  rw [vslims] at h
  rcases List.mem_cons.mp ha with rfl | ha
  ·exact h.1
  ·exact vslims_mem h.2 a ha
theorem Gs.add_add (st:Gs) (r r':List D) (h h':Int):(st.add r h).add r' h'=st.add (r++r') (h + h'):=by simp [Gs.add,Int.add_assoc]
theorem Gs.add_nil (st:Gs):st.add [] 0=st:=by simp [Gs.add]
noncomputable def ValOk (G:Glob) (d:Nat):Prop:=∀v,vdepth v≤d→vslim v→∀(n:Nat) σ (Q:D→Sto→Prop) E (g:GA) (st:Gs),GOk g→st.tables=.dct tabT→n + 3 * d < 940→st.rows.length + (rowsV v).length≤big→
 Q .none (gput σ g (st.add (rowsV v) 1))→WC G n (.fn 21 0) [.ref g.i,encV v] (gput σ g st) Q E
theorem c_copies (C:Consts G) {d:Nat} (ih:ValOk G d) {as:List V} (hd:vdepths as≤d) (hs:vslims as) (hn:n + 1 + 3 * d < 940) {g:GA} {st:Gs} (ok:GOk g) (ht:st.tables=.dct tabT) (hz:st.rows.length + (rowsVs as).length≤big)
  (h:Q .none (gput σ g (st.add (rowsVs as) as.length))):WC G n (.fn 31 0) [.ref g.i,.lst (encVs as)] (gput σ g st) Q E:=by
 refine WC.fnV k31 (dx' 1 hn) ?_
 refine Vm.forT (fun a=>D.tup [.str (S_ "in"),encV a]) (fun a=>[.str (S_ "in"),encV a]) as [1,0] (fun _=>[(1,.lst (encVs as)),(0,.ref g.i)]) (fun done σ'=>σ'=gput σ g (st.add (rowsVs done) done.length))
  (fun _=>⟨rfl,rfl⟩) (by rw [encVs_map];exact .lst) rfl (by refine (?_:_=gput σ g (st.add (rowsVs []) 0));rw [rowsVs,Gs.add_nil]) (fun done a rest σ₀ e q=>?_) fun σ₀ q=>by refine rwG q ?_;exact h
 have ha:a∈as:=by refine rwG e ?_;exact List.mem_append_right _ (.head _)
 have hl:(rowsVs as).length=(rowsVs done).length + (rowsV a).length + 1 + (rowsVs rest).length:=by
  (refine rwG e ?_;rewrite [rowsVs_append,rowsVs]);simp;simp +arith only
 refine rwG q ?_
 refine Vm.fn (ih a (vdepths_mem hd a ha) (vslims_mem hs a ha) (n + 1) σ _ _ g _ ok ht hn (by simp only [List.length_append];lia) ?_)
 rw [Gs.add_add]
 refine Vm.fn (c_lay1 C (dx 0 hn) ok ok_copy (by simp only [List.length_append];lia) ?_)
 refine ⟨rfl,?_⟩
 rw [rowsVs_append,rowsVs,rowsVs]
 simp
theorem c_gen_call (C:Consts G) {d:Nat} (ih:ValOk G d) {u:Int} {s:Str} {as:List V} (hd:vdepths as≤d) (hs:vslims as) (hl:as.length≤100) (hn:n + 2 + 3 * d < 940) {g:GA} {st:Gs} (ok:GOk g) (ht:st.tables=.dct tabT)
  (hz:st.rows.length + (rowsV (.call u s as)).length≤big) (h:Q .none (gput σ g (st.add (rowsV (.call u s as)) 1))):WC G n (.fn 32 0) [.ref g.i,encV (.call u s as)] (gput σ g st) Q E:=by
 rw [encV]
 rw [rowsV] at h hz
 rw [List.length_append] at hz
 refine WC.fnV k32 (dx' 0 hn) ?_
 refine Vm.at rfl ?_
 refine Vm.fn (c_copies C ih hd hs hn ok ht (by exact Nat.le_of_lt hz) ?_)
 refine Vm.at rfl ?_
 refine Vm.at rfl ?_
 refine Vm.at rfl ?_
 refine Vm.blt (CallB.len .lst (by rw [encVs_len];exact sl hl) ?_)
 rw [encVs_len]
 refine Vm.fn (c_lay1 C (Nat.lt_of_succ_lt (dx 0 hn)) ok (ok_callf _ _ _) (by simp only [List.length_append] at *;simp at hz;exact Nat.le_of_lt hz) ?_)
 refine rwG (show (as.length:Int) + (1 - as.length)=1 by simp +arith only) ?_
 exact h
theorem c_gen_dispatch (C:Consts G) {d:Nat} (ih:ValOk G d) {ix:Int} {as:List V} (hd:vdepths as≤d) (hs:vslims as) (hl:as.length≤100) (hn:n + 2 + 3 * d < 940) {g:GA} {st:Gs} (ok:GOk g) (ht:st.tables=.dct tabT)
  (hz:st.rows.length + (rowsV (.disp as ix)).length≤big) (h:Q .none (gput σ g (st.add (rowsV (.disp as ix)) 1))):WC G n (.fn 33 0) [.ref g.i,encV (.disp as ix)] (gput σ g st) Q E:=by
 rw [encV]
 rw [rowsV] at h hz
 rw [List.length_append] at hz
 refine WC.fnV k33 (dx' 0 hn) ?_
 refine Vm.at rfl ?_
 refine Vm.fn (c_copies C ih hd hs hn ok ht (by exact Nat.le_of_lt hz) ?_)
 refine Vm.at rfl ?_
 refine Vm.at rfl ?_
 refine Vm.at rfl ?_
 refine Vm.blt (CallB.len .lst (by rw [encVs_len];exact sl hl) ?_)
 rw [encVs_len]
 refine Vm.fn (c_lay1 C (Nat.lt_of_succ_lt (dx 0 hn)) ok (ok_dispatchf _ _ _) (by simp only [List.length_append] at *;simp at hz;exact Nat.le_of_lt hz) ?_)
 refine rwG (show (as.length:Int) + (1 - as.length)=1 by simp +arith only) ?_
 exact h
theorem word_lit {i:Int}:encV (.lit i)=.tup (.str (S_ "lit")::[.int 0,.int i]):=by rw [encV]
theorem c_value_by {g:GA} {st:Gs} {w:Str} {as:List D} {i:Nat} (hw:nodesT[i]?=some (w,D.fn (i':Nat) 0)) (hn:n < 950) (ok:GOk g) (ht:st.tables=.dct tabT)
  (h:WC G (n + 1) (.fn i' 0) [.ref g.i,.tup (.str w::as)] (gput σ g st) (fun _ σ'=>Q .none σ') E):WC G n (.fn 21 0) [.ref g.i,.tup (.str w::as)] (gput σ g st) Q E:=by
 have hm:=List.mem_of_getElem? hw
 refine WC.fnV k21 (dn' 2 hn) ?_
 refine Vm.att (g_tables ok) ?_
 refine rwG ht ?_
 refine Vm.sub (.dctK (List.mem_of_getElem? (i:=0) rfl)) ?_
 refine Vm.at rfl ?_
 refine Vm.cmp (.inDT (List.mem_map.mpr ⟨_,hm,rfl⟩)) ?_
 refine Vm.at rfl ?_
 refine Vm.sub (.dctK hm) ?_
 refine Vm.dyI trivial ?_
 exact Vm.dyn (WC.conseq h (fun d σ' q=>q) fun _ _ x=>x)
theorem c_value (C:Consts G):∀d,ValOk G d
 | d,.lit i,hd,hs,n,σ,Q,E,g,st,ok,ht,hn,hz,h=>by
  refine rwG word_lit ?_
  refine c_value_by (i:=0) rfl (dx 0 hn) ok ht ?_
  refine rwL word_lit ?_
  rw [rowsV] at h hz
  exact c_gen_lit C (by exact dx _ hn) ok (by simp at hz;exact hz) h
 | d,.obj k,hd,hs,n,σ,Q,E,g,st,ok,ht,hn,hz,h=>by
  have e:encV (.obj k)=.tup (.str (S_ "obj")::[.int 0,.int k,.str (S_ "x#1")]):=by rw [encV]
  refine rwG e ?_
  refine c_value_by (i:=2) rfl (dx 0 hn) ok ht ?_
  refine rwL e ?_
  rw [rowsV] at h hz
  exact c_gen_obj C (by exact dx _ hn) ok (by simp at hz;exact hz) h
 | 0,.disp as ix,hd,hs,n,σ,Q,E,g,st,ok,ht,hn,hz,h=>by rw [vdepth] at hd;lia
 | d + 1,.disp as ix,hd,hs,n,σ,Q,E,g,st,ok,ht,hn,hz,h=>by
  have e:encV (.disp as ix)=.tup (.str (S_ "dispatch")::[.int 0,.str (S_ "area"),.lst (encVs as),.int ix]):=by rw [encV]
  refine rwG e ?_
  refine c_value_by (i:=9) rfl (by exact lx hn) ok ht ?_
  refine rwL e ?_
  rw [vdepth] at hd
  rw [vslim] at hs
  exact c_gen_dispatch C (c_value C d) (by exact Nat.le_of_lt_succ hd) hs.2 hs.1 (by exact lin1 hn (by simp +arith only)) ok ht hz h
 | 0,.call u s as,hd,hs,n,σ,Q,E,g,st,ok,ht,hn,hz,h=>by rw [vdepth] at hd;lia
 | d + 1,.call u s as,hd,hs,n,σ,Q,E,g,st,ok,ht,hn,hz,h=>by
  have e:encV (.call u s as)=.tup (.str (S_ "call")::[.int 0,.int u,.str s,.lst (encVs as)]):=by rw [encV]
  refine rwG e ?_
  refine c_value_by (i:=8) rfl (by exact lx hn) ok ht ?_
  refine rwL e ?_
  rw [vdepth] at hd
  rw [vslim] at hs
  exact c_gen_call C (c_value C d) (by exact Nat.le_of_lt_succ hd) hs.2 hs.1 (by exact lin1 hn (by simp +arith only)) ok ht hz h
end Mine
end
section
open PySem PySem.W PySem.Calls PyProof.Rows
namespace Mine
set_option backward.match.sparseCases false
variable {G:Glob}
variable {n:Nat} {σ:Sto} {Q:D→Sto→Prop} {E:Exn→Sto→Prop}
theorem bind_loc {k:Sk} {Γ:Loc} {X:Cx} {φ:Fz} {s:Shared} {x:Str} {d:D} {v:Value} (hX:CxOk k X) (R:Real G X φ Γ σ s) (V:VR G φ v d) (hk:k.sc.names.lookup x=some .local) (hd:(x==S_ "__debug__")=false) (hf:(Γ.all fun q=>q.1 != x)=true)
  {Z:Unit→Shared→Prop} {F:Value→Shared→Prop} (h:∀s',Real G X φ ((x,d)::Γ) σ s'→Z () s'):wpAny (M G) X.A (bindName X.env x v) Z F s:=by
 obtain ⟨m,hn,hb⟩:=R.ns
 have hkx:X.env.kindOf x=some .local:=by refine (?_:X.env.scope.names.lookup x=_);refine rwG hX.scope ?_;exact hk
 refine wpAny_bindName (wpAny_storeName_local hkx hn (fun h' hn' hs=>?_) (by (refine rwG hX.scope ?_;refine rwG hX.kind ?_);rfl))
 refine h _ ⟨R.core.ext (tk:=s.toks + 1) (fun b o hb hbo=>(hs.2 b hb).trans hbo) R.lf R.ls hX.lk hX.lh,R.lf,R.ls,_,hn',fun q hq=>?_⟩
 rcases List.mem_cons.mp hq with rfl | hq
 ·exact ⟨hd,v,V,.inl ⟨hkx,if_pos rfl⟩⟩
 ·obtain ⟨a,w,b,c⟩:=hb q hq
  have hne:q.1≠x:=by have:=List.all_eq_true.mp hf q hq;simpa using this
  exact ⟨a,w,b,c.imp (And.imp id (if_neg hne).trans) id⟩
theorem W1.swap {k:Sk} {Γ:Loc} {x y:Str} {px py tp pos:Pos} {kk:Nat} {value:Expr} {Q:Out→Loc→Sto→Prop}
  (h:WE G k Γ σ value (fun d σ₁=>∃a b,d=.tup [a,b]∧Q .next ((x,a)::(y,b)::Γ) σ₁) E)
  (hx:k.sc.names.lookup x=some .local) (hy:k.sc.names.lookup y=some .local) (dx:(x==S_ "__debug__")=false) (dy:(y==S_ "__debug__")=false) (fy:(Γ.all fun q=>q.1 != y)=true) (fx:(((y,D.none)::Γ).all fun q=>q.1 != x)=true)
  (hs:∀env:Env,env.scope=k.sc→swapsWith value (some (.Tuple [.Name x px,.Name y py] kk tp)) pos.line env=pure false)
  (hw:∀env:Env,env.scope=k.sc→swappedStores [.Tuple [.Name x px,.Name y py] kk tp] value env=pure (some [x,y])):
  W1 G k Γ σ (.Assign [.Tuple [.Name x px,.Name y py] kk tp] value pos) Q E:=fun X hX φ s R=>by
 refine Assign_Tuple_swapped (names:=[x,y]) (then_ (h X hX φ s R) (fun φ₁ σ₁ d v s₁ l₁ R₁ V q=>?_) fun _ _ x=>x) (hs _ hX.scope) (hw _ hX.scope)
 refine ex22 q ?_;clear q;rintro a b rfl q
 refine V.tupE fun ra o vs n h1 h2 h3 h4=>?_
 refine ex23 (two h4) ?_;rintro v w rfl V1 V2
 refine unpackItems_tuple (items:=#[_,_]) hX.handled ⟨_,R₁.core.frz _ _ h1,h2,_,h3⟩ fun h' k'=>?_
 refine ex05 R₁.size ?_;intro z1 z2 z3 z4 z5
 have R₂:=R₁.ext (tk:=s₁.toks) k' z1 z2 z3 z4 z5
 refine wpAny_assignInOrder_more (bind_loc hX R₂ V2 hy dy fy fun s₃ R₃=>?_)
 refine wpAny_assignInOrder_more (bind_loc hX R₃ V1 hx dx ?_ fun s₄ R₄=>?_)
 ·trivial
 ·exact wpAny_assignInOrder_none ⟨φ₁,σ₁,_,.next,l₁,R₄,.next,q⟩
end Mine
end
section
open PySem PySem.W PySem.Calls PyProof.Rows
namespace Mine
set_option backward.match.sparseCases false
variable {G:Glob}
variable {n:Nat} {σ:Sto} {Q:D→Sto→Prop} {E:Exn→Sto→Prop}
inductive P where
 | y | r | der (v:V)
noncomputable def encP:P→D
 | .y=>.tup [.str (S_ "obj"),.int 0,.int 0,.str (S_ "y#2")]
 | .r=>.tup [.str (S_ "comp"),.int 0,.tup [.str (S_ "obj"),.int 0,.int 1,.str (S_ "r#3")],.str (S_ "f")]
 | .der v=>.tup [.str (S_ "deref"),.int 0,encV v]
noncomputable def rowsP:P→List D
 | .y=>[row_place 0 (S_ "y#2")]
 | .r=>[row_place 1 (S_ "r#3"),row_placecomp (S_ "f")]
 | .der v=>rowsV v++[row_placederef]
noncomputable def vok (v:V):Prop:=vdepth v≤2∧vslim v
noncomputable def pok:P→Prop
 | .y | .r=>True
 | .der v=>vok v
theorem c_valueV (C:Consts G) {v:V} (hv:vok v) (hn:n < 930) {g:GA} {st:Gs} (ok:GOk g) (ht:st.tables=.dct tabT) (hz:st.rows.length + (rowsV v).length≤big)
  (h:Q .none (gput σ g (st.add (rowsV v) 1))):WC G n (.fn 21 0) [.ref g.i,encV v] (gput σ g st) Q E:=c_value C 2 v hv.1 hv.2 n σ Q E g st ok ht (dn 6 hn) hz h
theorem c_valueV1 (C:Consts G) {v:V} (hv:vok v) (hn:n < 930) {g:GA} {st:Gs} {rows:List D} {h0:Int} (ok:GOk g) (ht:st.tables=.dct tabT) (hz:(st.rows++rows).length + (rowsV v).length≤big)
  (h:Q .none (gput σ g (st.add (rows++rowsV v) (h0 + 1)))):WC G n (.fn 21 0) [.ref g.i,encV v] (gput σ g (st.add rows h0)) Q E:=
 c_valueV C hv hn ok ht hz (by rw [Gs.add_add];exact h)
theorem c_place_by {g:GA} {st:Gs} {w:Str} {as:List D} {i i':Nat} (hw:placesT[i]?=some (w,D.fn i' 0)) (hn:n < 950) (ok:GOk g) (ht:st.tables=.dct tabT)
  (h:WC G (n + 1) (.fn i' 0) [.ref g.i,.tup (.str w::as)] (gput σ g st) (fun _ σ'=>Q .none σ') E):WC G n (.fn 22 0) [.ref g.i,.tup (.str w::as)] (gput σ g st) Q E:=by
 have hm:=List.mem_of_getElem? hw
 refine WC.fnV k22 (dn' 2 hn) ?_
 refine Vm.att (g_tables ok) ?_
 refine rwG ht ?_
 refine Vm.sub (.dctK (List.mem_of_getElem? (i:=1) rfl)) ?_
 refine Vm.at rfl ?_
 refine Vm.cmp (.inDT (List.mem_map.mpr ⟨_,hm,rfl⟩)) ?_
 refine Vm.at rfl ?_
 refine Vm.sub (.dctK hm) ?_
 refine Vm.dyI trivial ?_
 exact Vm.dyn (WC.conseq h (fun d σ' q=>q) fun _ _ x=>x)
theorem c_place_o (C:Consts G) (hn:n < 940) {k:Int} {x:Str} {g:GA} {st:Gs} (ok:GOk g) (ht:st.tables=.dct tabT) (hz:st.rows.length + 1≤big)
  (h:Q .none (gput σ g (st.add [row_place k x] 1))):WC G n (.fn 22 0) [.ref g.i,.tup [.str (S_ "obj"),.int 0,.int k,.str x]] (gput σ g st) Q E:=by
 refine c_place_by (i:=0) rfl (dn 0 hn) ok ht ?_
 refine WC.fnV k67 (dn' 3 hn) ?_
 refine Vm.at rfl ?_
 refine Vm.at rfl ?_
 refine Vm.fn (c_lay0 C (dn 2 hn) ok (ok_place k x) (Nat.le_of_succ_le hz) ?_)
 exact h
theorem c_place (C:Consts G) (hn:n < 920) {p:P} (hp:pok p) {g:GA} {st:Gs} (ok:GOk g) (ht:st.tables=.dct tabT) (hz:st.rows.length + (rowsP p).length≤big)
  (h:Q .none (gput σ g (st.add (rowsP p) 1))):WC G n (.fn 22 0) [.ref g.i,encP p] (gput σ g st) Q E:=by
 cases p with
 | y=>exact c_place_o C (dn 0 hn) ok ht hz h
 | r=>
  rw [encP]
  rw [rowsP] at h hz
  have hz':st.rows.length + 2≤big:=hz
  refine c_place_by (i:=1) rfl (dn 0 hn) ok ht ?_
  refine WC.fnV k68 (dn' 3 hn) ?_
  refine Vm.at rfl ?_
  refine Vm.fn (c_place_o C (dn 2 hn) ok ht (Nat.le_of_succ_le hz') ?_)
  refine Vm.at rfl ?_
  refine Vm.fn (c_lay1 C (dn 2 hn) ok (ok_placecomp _) (by refine rwG List.length_append ?_;exact Nat.le_of_succ_le hz') ?_)
  exact h
 | der v=>
  rw [encP]
  rw [rowsP] at h hz
  rw [List.length_append] at hz
  have hz':st.rows.length + (rowsV v).length≤big:=Nat.le_of_succ_le hz
  refine c_place_by (i:=4) rfl (dn 0 hn) ok ht ?_
  refine WC.fnV k71 (dn' 3 hn) ?_
  refine Vm.at rfl ?_
  refine Vm.fn (c_valueV C hp (dn 2 hn) ok ht hz' ?_)
  refine Vm.fn (c_lay1 C (dn 2 hn) ok ok_placederef (by refine rwG List.length_append ?_;exact hz') ?_)
  exact h
theorem c_target (C:Consts G) (hn:n < 910) {p:P} (hp:pok p) {g:GA} {st:Gs} (ok:GOk g) (ht:st.tables=.dct tabT) (hz:st.rows.length + (rowsP p).length + 1≤big)
  (h:Q .none (gput σ g (st.add (rowsP p++[row_target (encP p)]) 1))):WC G n (.fn 23 0) [.ref g.i,encP p] (gput σ g st) Q E:=by
 refine WC.fnV k23 (dn' 2 hn) ?_
 refine Vm.fn (c_place C (dn 1 hn) hp ok ht (Nat.le_of_succ_le hz) ?_)
 refine Vm.fn (c_lay1 C (dn 1 hn) ok (ok_target _) (by refine rwG List.length_append ?_;exact Nat.le_of_succ_le hz) ?_)
 exact h
theorem c_target1 (C:Consts G) (hn:n < 910) {p:P} (hp:pok p) {g:GA} {st:Gs} {rows:List D} {h0:Int} (ok:GOk g) (ht:st.tables=.dct tabT) (hz:(st.rows++rows).length + (rowsP p).length + 1≤big)
  (h:Q .none (gput σ g (st.add (rows++(rowsP p++[row_target (encP p)])) (h0 + 1)))):WC G n (.fn 23 0) [.ref g.i,encP p] (gput σ g (st.add rows h0)) Q E:=
 c_target C hn hp ok ht hz (by rw [Gs.add_add];exact h)
inductive A where
 | inn (v:V) | out (b:Bool) (p:P)
noncomputable def encA:A→D
 | .inn v=>.tup [.str (S_ "in"),encV v]
 | .out b p=>.tup [.str (if b then S_ "inout" else S_ "out"),encP p]
noncomputable def rowsA:A→List D
 | .inn v=>rowsV v++[row_actual]
 | .out b p=>rowsP p++[row_target (encP p)]++[row_actualout]
noncomputable def rowsAs:List A→List D
 | []=>[]
 | a::as=>rowsA a++rowsAs as
noncomputable def aok:A→Prop
 | .inn v=>vok v
 | .out _ p=>pok p
theorem rowsAs_append:∀(as bs:List A),rowsAs (as++bs)=rowsAs as++rowsAs bs
 | [],bs=>by rw [List.nil_append,rowsAs,List.nil_append]
 | a::as,bs=>by (refine rwG List.cons_append ?_;rewrite [rowsAs,rowsAs];refine rwG (rowsAs_append as bs) ?_);exact (List.append_assoc _ _ _).symm
theorem c_actuals (C:Consts G) (hn:n < 900) {as:List A} (ha:∀a∈as,aok a) {g:GA} {st:Gs} {rows:List D} {h0:Int} (ok:GOk g) (ht:st.tables=.dct tabT) (hz:(st.rows++rows).length + (rowsAs as).length≤big)
  (h:Q .none (gput σ g (st.add (rows++rowsAs as) (h0 + as.length)))):WC G n (.fn 30 0) [.ref g.i,.lst (as.map encA)] (gput σ g (st.add rows h0)) Q E:=by
 refine WC.fnV k30 (dn' 2 hn) ?_
 refine Vm.forT encA (fun a=>match a with | .inn v=>[.str (S_ "in"),encV v] | .out b p=>[.str (if b then S_ "inout" else S_ "out"),encP p]) as [1,0] (fun _=>[(1,.lst (as.map encA)),(0,.ref g.i)])
  (fun done σ'=>σ'=gput σ g (st.add (rows++rowsAs done) (h0 + done.length))) (fun a=>by cases a<;>exact ⟨rfl,rfl⟩) .lst rfl (by simp [rowsAs]) (fun done a rest σ₀ e q=>?_) fun σ₀ q=>by refine rwG q ?_;exact h
 have hm:aok a:=ha a (by refine rwG e ?_;exact List.mem_append_right _ (.head _))
 have hl:(rowsAs as).length=(rowsAs done).length + (rowsA a).length + (rowsAs rest).length:=by
  (refine rwG e ?_;rewrite [rowsAs_append,rowsAs]);simp;exact (Nat.add_assoc _ _ _).symm
 rw [List.length_append] at hz
 refine rwG q ?_;rewrite [rowsAs_append,rowsAs,rowsAs,List.append_nil];refine rwG List.length_append ?_
 cases a with
 | inn v=>
  rw [rowsA,List.length_append] at hl
  refine Vm.cmp .eqS ?_
  rw [beq_self_eq_true]
  refine Vm.fn (c_valueV1 C hm (dn 1 hn) ok ht (by simp only [List.length_append];lia) ?_)
  refine Vm.fn (c_lay1 C (dn 1 hn) ok ok_actual (by simp only [List.length_append] at *;simp at *;lia) ?_)
  refine ⟨rfl,?_⟩
  rw [rowsA]
  congr 2
  ·simp
  ·simp;simp +arith only
 | out b p=>
  rw [rowsA,List.length_append,List.length_append] at hl
  refine Vm.cmp .eqS ?_
  refine rwG (show ((if b=true then S_ "inout" else S_ "out")==S_ "in")=false by cases b<;>decide +kernel) ?_
  refine Vm.fn (c_target1 C (dn 1 hn) hm ok ht (by simp only [List.length_append] at *;simp at *;lia) ?_)
  refine Vm.fn (c_lay1 C (dn 1 hn) ok ok_actualout (by simp only [List.length_append] at *;simp at *;lia) ?_)
  refine ⟨rfl,?_⟩
  rw [rowsA]
  congr 2
  ·simp
  ·simp;simp +arith only
end Mine
end
section
open PySem PySem.W PySem.Calls PyProof.Rows
namespace Mine
set_option backward.match.sparseCases false
variable {G:Glob}
variable {n:Nat} {σ:Sto} {Q:D→Sto→Prop} {E:Exn→Sto→Prop}
theorem gput_set_blocks {g:GA} {st:Gs} (ok:GOk g):(gput σ g st).set g.dx (.dict (dput (gdict g st) (S_ "blocks") (.int 0)))=gput σ g st:=by
 have e0:dput (gdict g st) (S_ "blocks") (.int 0)=gdict g st:=rfl
 refine rwG e0 ?_
 funext b;unfold gput Sto.set
 by_cases e:b=g.dx
 ·subst e;(refine rwG (if_pos rfl) ?_;refine rwG (if_neg ok.h1) ?_;refine rwG (if_pos rfl) ?_;rfl)
 ·exact if_neg e
theorem c_blocks_left (C:Consts G) (hn:n < 970) {g:GA} {st:Gs} (ok:GOk g) (h0:st.height=0)
  (h:Q .none (gput σ g st)):WC G n (.fn 27 0) [.ref g.i,.int 0,.int 0] (gput σ g st) Q E:=by
 refine WC.fnV k27 (dn' 2 hn) ?_
 refine Vm.rawS rfl (W1.swap ?h rfl rfl (by decide +kernel) (by decide +kernel) rfl rfl ?hs ?hw)
 case hs=>intro env he;rfl
 case hw=>
  intro env he
  unfold swappedStores Env.blockKind Env.kindOf
  refine rwG he ?_
  rfl
 case h=>
  refine WE.tup (WA.cons (WE.attr (WE.var (.head _) ⟨_,g_height ok,?_⟩) fun _=>rfl) fun _=>rfl)
  refine WA.cons (WE.attr (WE.var (.head _) ⟨_,g_blocks ok,?_⟩) fun _=>rfl) fun _=>rfl
  refine WA.nil ⟨Nat.le_of_ble_eq_true rfl,_,_,rfl,[(3,.int st.height),(4,.int 0),(0,.ref g.i),(1,.int 0),(2,.int 0)],fun p h=>h,?_⟩
  refine Vm.att (g_blocks ok) ?_
  refine Vm.bin .subI ?_
  refine Vm.blt (CallB.range ?_)
  refine Vm.forN 0 [3,4,0,1,2] (fun _=>[(3,.int st.height),(4,.int 0),(0,.ref g.i),(1,.int 0),(2,.int 0)]) (fun _ σ'=>σ'=gput σ g st) (Nat.zero_le _) rfl rfl (fun i σ' hi e=>nomatch hi) fun σ' e=>?_
  refine rwG e ?_
  refine Vm.whl [3,4,0,1,2] 1 ?_
  refine Vm.att (g_height ok) ?_
  refine Vm.cmp (c:=false) (by refine rwG h0 ?_;exact .gtI) ?_
  refine Vm.rawS rfl (W1.assign ?_ (fun _=>rfl) (fun env=>?hw) fun _=>rfl)
  case hw=>
   unfold swappedStores
   dsimp only
   split<;>rfl
  refine WE.tup (WA.cons (WE.var (.head _) (WA.cons (WE.var (.tail _ (.head _)) (WA.nil ⟨Nat.le_of_ble_eq_true rfl,?_⟩)) fun _=>rfl)) fun _=>rfl)
  refine WAsg.tup (WAsgs.cons (WAsg.att (WE.var (.tail _ (.tail _ (.head _))) (.ins (by decide +kernel) (gput_i ok) (gput_dx ok) (Nat.le_of_ble_eq_true rfl) ?_))) fun _=>rfl) (fun _=>rfl) fun _=>rfl
  refine rwG (gput_set_height ok) ?_
  refine WAsgs.cons (WAsg.att (WE.var (.tail _ (.tail _ (.head _))) (.ins (by decide +kernel) (gput_i ok) (gput_dx ok) (Nat.le_of_ble_eq_true rfl) ?_))) fun _=>rfl
  refine rwG (gput_set_blocks ok) ?_
  exact WAsgs.nil ⟨_,fun _ h=>h,h⟩
theorem c_leave (C:Consts G) (hn:n < 960) {g:GA} {st:Gs} {rows:List D} (ok:GOk g) (h0:st.height=0) (hz:(st.rows++rows).length≤big)
  (h:Q .none (gput σ g (st.add (rows++[row_jump st.ended]) 0))):WC G n (.fn 84 0) [.ref g.i] (gput σ g (st.add rows 0)) Q E:=by
 refine WC.fnV k84 (dn' 2 hn) ?_
 refine Vm.att (g_accepts ok) ?_
 refine Vm.cmp (.neD rfl rfl rfl rfl (by decide)) ?_
 refine rwG (show (!PyData.eqv _ _)=false from by decide +kernel) ?_
 refine Vm.fn (c_blocks_left C (dn 1 hn) ok ((Int.add_zero _).trans h0) ?_)
 refine Vm.att (g_ended ok) ?_
 refine Vm.fn (c_lay1 C (dn 1 hn) ok (ok_jump _) hz ?_)
 exact h
end Mine
end
section
open PySem PySem.W PySem.Calls PyProof.Rows
namespace Mine
set_option backward.match.sparseCases false
variable {G:Glob}
variable {n:Nat} {σ:Sto} {Q:D→Sto→Prop} {E:Exn→Sto→Prop}
inductive S where
 | pcall (l u:Int) (s:Str) (as:List A) | pdisp (l:Int) (as:List A) (ix:Int) | asg (l:Int) (v:V) | ret (l:Int) (o:Option V) | null (l:Int)
noncomputable def encO:Option V→D
 | none=>.none
 | some v=>encV v
noncomputable def encS:S→D
 | .pcall l u s as=>.tup [.str (S_ "pcall"),.int l,.int u,.str s,.lst (as.map encA)]
 | .pdisp l as ix=>.tup [.str (S_ "pdispatch"),.int l,.str (S_ "draw"),.lst (as.map encA),.int ix]
 | .asg l v=>.tup [.str (S_ "assign"),.int l,encP .y,encV v]
 | .ret l o=>.tup [.str (S_ "return"),.int l,encO o]
 | .null l=>.tup [.str (S_ "null"),.int l]
noncomputable def lineS:S→Int
 | .pcall l _ _ _ | .pdisp l _ _ | .asg l _ | .ret l _ | .null l=>l
noncomputable def rowsS1 (e:Int):S→List D
 | .pcall _ u s as=>[row_sub u s]++rowsAs as++[row_callp as.length]
 | .pdisp _ as ix=>rowsAs as++[row_dispatchp (S_ "draw") ix as.length]
 | .asg _ v=>rowsV v++(rowsP .y++[row_target (encP .y)])++[row_store]
 | .ret _ none=>[row_jump e]
 | .ret _ (some v)=>rowsV v++[row_result]++[row_jump e]
 | .null _=>[]
noncomputable def rowsS (e:Int) (s:S):List D:=row_step (lineS s)::rowsS1 e s
noncomputable def rowsSs (e:Int):List S→List D
 | []=>[]
 | s::ss=>rowsS e s++rowsSs e ss
noncomputable def sok:S→Prop
 | .pcall _ _ _ as | .pdisp _ as _=>as.length≤100∧∀a∈as,aok a
 | .asg _ v=>vok v
 | .ret _ (some v)=>vok v
 | .ret _ none | .null _=>True
theorem rowsSs_append {e:Int}:∀(as bs:List S),rowsSs e (as++bs)=rowsSs e as++rowsSs e bs
 | [],bs=>by rw [List.nil_append,rowsSs,List.nil_append]
 | a::as,bs=>by (refine rwG List.cons_append ?_;rewrite [rowsSs,rowsSs];refine rwG (rowsSs_append as bs) ?_);exact (List.append_assoc _ _ _).symm
theorem encV_isNone:∀v:V,(encV v).isNone=false
 | .lit _=>by rw [encV];rfl
 | .obj _=>by rw [encV];rfl
 | .disp _ _=>by rw [encV];rfl
 | .call _ _ _=>by rw [encV];rfl
theorem c_stmt_by {g:GA} {st:Gs} {rows:List D} {w:Str} {as:List D} {i i':Nat} {l:Int} (C:Consts G) (hw:stmtsT[i]?=some (w,D.fn i' 0)) (hn:n < 940) (ok:GOk g) (ht:st.tables=.dct tabT) (hz:(st.rows++rows).length≤big)
  (h:WC G (n + 1) (.fn i' 0) [.ref g.i,.tup (.str w::.int l::as)] (gput σ g (st.add (rows++[row_step l]) 0)) (fun _ σ'=>Q .none σ') E):WC G n (.fn 24 0) [.ref g.i,.tup (.str w::.int l::as)] (gput σ g (st.add rows 0)) Q E:=by
 have hm:=List.mem_of_getElem? hw
 refine WC.fnV k24 (dn' 2 hn) ?_
 refine Vm.at rfl ?_
 refine Vm.fn (c_lay1 C (dn 1 hn) ok (ok_step l) hz ?_)
 refine Vm.att (g_tables ok) ?_
 refine rwG (show (st.add (rows++[row_step l]) (0 + (0 - 0))).tables=.dct tabT from ht) ?_
 refine Vm.sub (.dctK (List.mem_of_getElem? (i:=2) rfl)) ?_
 refine Vm.at rfl ?_
 refine Vm.sub (.dctK hm) ?_
 refine Vm.dyI trivial ?_
 exact Vm.dyn (WC.conseq h (fun d σ' q=>q) fun _ _ x=>x)
theorem c_statement (C:Consts G) (hn:n < 870) {s:S} (hs:sok s) {g:GA} {st:Gs} {rows:List D} (ok:GOk g) (ht:st.tables=.dct tabT) (h0:st.height=0) (hz:(st.rows++rows).length + (rowsS st.ended s).length≤big)
  (h:Q .none (gput σ g (st.add (rows++rowsS st.ended s) 0))):WC G n (.fn 24 0) [.ref g.i,encS s] (gput σ g (st.add rows 0)) Q E:=by
 cases s with
 | null l=>
  refine c_stmt_by C (i:=0) rfl (dn 0 hn) ok ht (Nat.le_trans (Nat.le_add_right _ _) hz) ?_
  refine WC.fnV k75 (dn' 3 hn) ?_
  exact h
 | asg l v=>
  rw [encS]
  have hz':=Nat.le_trans (Nat.le_add_right _ _) hz
  simp only [rowsS,rowsS1,List.length_cons,List.length_append] at hz
  refine c_stmt_by C (i:=1) rfl (dn 0 hn) ok ht hz' ?_
  refine WC.fnV k76 (dn' 3 hn) ?_
  refine Vm.at rfl ?_
  refine Vm.fn (c_valueV1 C hs (dn 2 hn) ok ht (by simp only [List.length_append,List.length_cons,List.length_nil];exact lin1 hz (by simp +arith only)) ?_)
  refine Vm.at rfl ?_
  refine Vm.fn (c_target1 C (p:=.y) (dn 2 hn) trivial ok ht (by simp only [List.length_append,List.length_cons,List.length_nil] at *;exact lin1 hz (by simp +arith only)) ?_)
  refine Vm.fn (c_lay1 C (dn 2 hn) ok ok_store (by simp only [List.length_append,List.length_cons,List.length_nil] at *;exact lin1 hz (by simp +arith only)) ?_)
  refine (?_:Q .none _)
  simpa [rowsS,rowsS1,lineS] using h
 | ret l o=>
  rw [encS]
  cases o with
  | none=>
   have hz':=Nat.le_trans (Nat.le_add_right _ _) hz
   simp only [rowsS,rowsS1,List.length_cons,List.length_append] at hz
   refine c_stmt_by C (i:=8) rfl (dn 0 hn) ok ht hz' ?_
   refine WC.fnV k85 (dn' 3 hn) ?_
   refine Vm.at rfl ?_
   refine Vm.cmp .isNotN ?_
   rewrite [encO];refine rwG (show (!D.isNone .none)=false from rfl) ?_
   refine Vm.fn (c_leave C (dn 2 hn) ok h0 (by simp only [List.length_append,List.length_cons,List.length_nil] at *;exact Nat.lt_of_succ_lt hz) ?_)
   refine (?_:Q .none _)
   simpa [rowsS,rowsS1,lineS] using h
  | some v=>
   have hz':=Nat.le_trans (Nat.le_add_right _ _) hz
   simp only [rowsS,rowsS1,List.length_cons,List.length_append] at hz
   refine c_stmt_by C (i:=8) rfl (dn 0 hn) ok ht hz' ?_
   refine WC.fnV k85 (dn' 3 hn) ?_
   refine Vm.at rfl ?_
   refine Vm.cmp .isNotN ?_
   rewrite [encO,encV_isNone];refine rwG (show (!false)=true from rfl) ?_
   refine Vm.at rfl ?_
   refine Vm.fn (c_valueV1 C hs (dn 2 hn) ok ht (by simp only [List.length_append,List.length_cons,List.length_nil];exact lin1 hz (by simp +arith only)) ?_)
   refine Vm.fn (c_lay1 C (dn 2 hn) ok ok_result (by simp only [List.length_append,List.length_cons,List.length_nil] at *;exact lin1 hz (by simp +arith only)) ?_)
   refine Vm.fn (c_leave C (dn 2 hn) ok h0 (by simp only [List.length_append,List.length_cons,List.length_nil] at *;exact lin1 hz (by simp +arith only)) ?_)
   refine (?_:Q .none _)
   simpa [rowsS,rowsS1,lineS] using h
 | pdisp l as ix=>
  rw [encS]
  have hz':=Nat.le_trans (Nat.le_add_right _ _) hz
  simp only [rowsS,rowsS1,List.length_cons,List.length_append] at hz
  refine c_stmt_by C (i:=10) rfl (dn 0 hn) ok ht hz' ?_
  refine WC.fnV k36 (dn' 3 hn) ?_
  refine Vm.fn (c_actuals C (dn 2 hn) hs.2 ok ht (by simp only [List.length_append,List.length_cons,List.length_nil];exact lin1 hz (by simp +arith only)) ?_)
  refine Vm.blt (CallB.len .lst (by rw [List.length_map];exact sl hs.1) ?_)
  rw [List.length_map]
  refine Vm.fn (c_lay1 C (dn 2 hn) ok (ok_dispatchp _ _ _) (by simp only [List.length_append,List.length_cons,List.length_nil] at *;exact lin1 hz (by simp +arith only)) ?_)
  refine rwG (show (0:Int) + as.length + (0 - as.length)=0 by simp +arith only) ?_
  refine (?_:Q .none _)
  simpa [rowsS,rowsS1,lineS] using h
 | pcall l u s as=>
  rw [encS]
  have hz':=Nat.le_trans (Nat.le_add_right _ _) hz
  simp only [rowsS,rowsS1,List.length_cons,List.length_append] at hz
  refine c_stmt_by C (i:=9) rfl (dn 0 hn) ok ht hz' ?_
  refine WC.fnV k35 (dn' 3 hn) ?_
  refine Vm.fn (c_lay1 C (dn 2 hn) ok (ok_sub _ _) (by simp only [List.length_append,List.length_cons,List.length_nil] at *;exact lx hz) ?_)
  refine Vm.fn (c_actuals C (dn 2 hn) hs.2 ok ht (by simp only [List.length_append,List.length_cons,List.length_nil] at *;exact lin1 hz (by simp +arith only)) ?_)
  refine Vm.blt (CallB.len .lst (by rw [List.length_map];exact sl hs.1) ?_)
  rw [List.length_map]
  refine Vm.fn (c_lay1 C (dn 2 hn) ok (ok_callp _) (by simp only [List.length_append,List.length_cons,List.length_nil] at *;exact lin1 hz (by simp +arith only)) ?_)
  refine rwG (show (0:Int) + (1 - 0) + as.length + (0 - (1 + as.length))=0 by simp +arith only) ?_
  refine (?_:Q .none _)
  simpa [rowsS,rowsS1,lineS] using h
theorem c_statements (C:Consts G) (hn:n < 860) {ss:List S} (hs:∀s∈ss,sok s) {g:GA} {st:Gs} {rows:List D} (ok:GOk g) (ht:st.tables=.dct tabT) (h0:st.height=0) (hz:(st.rows++rows).length + (rowsSs st.ended ss).length≤big)
  (h:Q .none (gput σ g (st.add (rows++rowsSs st.ended ss) 0))):WC G n (.fn 25 0) [.ref g.i,.lst (ss.map encS)] (gput σ g (st.add rows 0)) Q E:=by
 refine WC.fnV k25 (dn' 2 hn) ?_
 refine Vm.forL encS ss [1,0] (fun _=>[(1,.lst (ss.map encS)),(0,.ref g.i)]) (fun done σ'=>σ'=gput σ g (st.add (rows++rowsSs st.ended done) 0)) .lst rfl (by simp [rowsSs]) (fun done a rest σ₀ e q=>?_) fun σ₀ q=>by refine rwG q ?_;exact h
 have hm:sok a:=hs a (by refine rwG e ?_;exact List.mem_append_right _ (.head _))
 have hl:(rowsSs st.ended ss).length=(rowsSs st.ended done).length + (rowsS st.ended a).length + (rowsSs st.ended rest).length:=by
  (refine rwG e ?_;rewrite [rowsSs_append,rowsSs]);simp;exact (Nat.add_assoc _ _ _).symm
 rw [List.length_append] at hz
 refine rwG q ?_
 refine Vm.fn (c_statement C (dn 1 hn) hm ok ht h0 (by simp only [List.length_append];lia) ?_)
 refine ⟨rfl,?_⟩
 rw [rowsSs_append,rowsSs,rowsSs]
 simp
end Mine
end
section
open PySem PySem.W PySem.Calls PyProof.Rows
namespace Mine
variable {G:Glob}
variable {n:Nat} {σ:Sto} {Q:D→Sto→Prop} {E:Exn→Sto→Prop}
inductive Dc where
 | var (l:Int) (x:Str) (o:Option V) | ren (l:Int) (x:Str) (v:V) | subt (l:Int) | typ (l:Int) | exc (l:Int)
 | pack (l:Int) (a b c:List Dc) (ss:List S) | sub (l:Int) (name:Str) (ds:List Dc) (ss:List S)
noncomputable def lineD:Dc→Int
 | .var l _ _ | .ren l _ _ | .subt l | .typ l | .exc l | .pack l _ _ _ _ | .sub l _ _ _=>l
noncomputable def subF (name:Str) (ds ss:List D):List (Str×D):=[(S_ "name",.str name),(S_ "params",.lst []),(S_ "result",.none),(S_ "decls",.lst ds),(S_ "stmts",.lst ss),(S_ "handlers",.lst []),
 (S_ "ups",.int 0),(S_ "operation",.str (S_ "")),(S_ "control",.lst [])]
mutual
noncomputable def encDc:Dc→D
 | .var l x o=>.tup [.str (S_ "var"),.int l,.str x,.str (S_ "S"),encO o,.bool false]
 | .ren l x v=>.tup [.str (S_ "rename"),.int l,.str x,encP (.der v)]
 | .subt l=>.tup [.str (S_ "subtype"),.int l,.str (S_ "t#4"),.str (S_ "S")]
 | .typ l=>.tup [.str (S_ "type"),.int l,.str (S_ "T")]
 | .exc l=>.tup [.str (S_ "exception"),.int l,.str (S_ "e")]
 | .pack l a b c ss=>.tup [.str (S_ "package"),.int l,.str (S_ "p"),.lst (encDs a),.lst (encDs b),.lst (encDs c),.lst (ss.map encS),.lst []]
 | .sub l x ds ss=>.tup [.str (S_ "sub"),.int l,.ins 55 (subF x (encDs ds) (ss.map encS))]
noncomputable def encDs:List Dc→List D
 | []=>[]
 | d::ds=>encDc d::encDs ds
end
noncomputable def encSub (x:Str) (ds:List Dc) (ss:List S):D:=.ins 55 (subF x (encDs ds) (ss.map encS))
noncomputable def codeF (rows:List D) (source:D) (codes:List D):List (Str×D):=[(S_ "rows",.lst rows),(S_ "source",source),(S_ "codes",.lst codes),(S_ "barrier",.none),(S_ "operations",.lst [])]
noncomputable def subsD:Dc→Nat
 | .sub _ _ _ _=>1
 | _=>0
noncomputable def packFree:List Dc→Prop:=fun ds=>∀d∈ds,subsD d=0
mutual
noncomputable def rowsD (e:Int) (c:Nat):Dc→List D
 | .var _ x none=>[row_begincell (S_ "S"),row_firstcell x]
 | .var _ x (some v)=>[row_begincell (S_ "S")]++rowsV v++[row_initcell x]
 | .ren _ x v=>rowsP (.der v)++[row_layplace x]
 | .subt _=>[row_laysubtype (S_ "t#4") (S_ "S")]
 | .typ _=>[row_laytype (S_ "T")]
 | .exc _=>[]
 | .pack _ a b d ss=>[row_pack]++(rowsDs e c a++rowsDs e c b++rowsDs e c d++[row_arm]++rowsSs e ss++[row_endpack])
 | .sub _ _ _ _=>[row_laysub c]
noncomputable def rowsDs (e:Int) (c:Nat):List Dc→List D
 | []=>[]
 | d::ds=>row_line (lineD d)::(rowsD e c d++rowsDs e (c + subsD d) ds)
end
noncomputable def rowsW (e:Int) (ds:List Dc) (ss:List S) (w:D):List D:=rowsDs e 0 ds++[row_arm]++rowsSs e ss++[w]
noncomputable def endW (ds:List Dc) (ss:List S):Int:=((rowsDs 0 0 ds++[row_arm]++rowsSs 0 ss).length:Nat)
noncomputable def codesD:Dc→List D
 | .sub _ x ds ss=>[.ins 8 (codeF (rowsW (endW ds ss) ds ss row_endsub) (encSub x ds ss) [])]
 | _=>[]
noncomputable def codesDs:List Dc→List D
 | []=>[]
 | d::ds=>codesD d++codesDs ds
theorem codesD_len (d:Dc):(codesD d).length=subsD d:=by cases d<;>rfl
noncomputable def cntDs:List Dc→Nat
 | []=>0
 | d::ds=>subsD d + cntDs ds
theorem codesDs_len:∀ds:List Dc,(codesDs ds).length=cntDs ds
 | []=>rfl
 | d::ds=>by (rewrite [codesDs,cntDs];refine rwG List.length_append ?_;rewrite [codesD_len];refine rwG (codesDs_len ds) ?_;rfl)
theorem cntDs_append:∀as bs:List Dc,cntDs (as++bs)=cntDs as + cntDs bs
 | [],bs=>by rw [List.nil_append,cntDs,Nat.zero_add]
 | a::as,bs=>by (refine rwG List.cons_append ?_;rewrite [cntDs,cntDs];refine rwG (cntDs_append as bs) ?_);exact (Nat.add_assoc _ _ _).symm
theorem codesDs_append:∀as bs:List Dc,codesDs (as++bs)=codesDs as++codesDs bs
 | [],bs=>by rw [List.nil_append,codesDs,List.nil_append]
 | a::as,bs=>by (refine rwG List.cons_append ?_;rewrite [codesDs,codesDs];refine rwG (codesDs_append as bs) ?_;rewrite [List.append_assoc];rfl)
theorem rowsDs_append {e:Int}:∀{c:Nat} (as bs:List Dc),rowsDs e c (as++bs)=rowsDs e c as++rowsDs e (c + cntDs as) bs
 | c,[],bs=>by rw [List.nil_append,rowsDs,List.nil_append,cntDs,Nat.add_zero]
 | c,a::as,bs=>by (refine rwG List.cons_append ?_;rewrite [rowsDs,rowsDs];refine rwG (rowsDs_append as bs) ?_;rewrite [cntDs,Nat.add_assoc]);simp
theorem encDs_map:∀ds:List Dc,encDs ds=ds.map encDc
 | []=>by rw [encDs];rfl
 | d::ds=>by (rewrite [encDs];refine rwG List.map_cons ?_;refine rwG (encDs_map ds) ?_;rfl)
theorem encDs_len (ds:List Dc):(ds).length=(encDs ds).length:=by rw [encDs_map,List.length_map]
theorem encDs_append (as bs:List Dc):encDs (as++bs)=encDs as++encDs bs:=by (rewrite [encDs_map,encDs_map,encDs_map];refine rwG List.map_append ?_;rfl)
theorem cnt_le {e:Int}:∀{c:Nat} (ds:List Dc),cntDs ds≤(rowsDs e c ds).length
 | _,[]=>by rw [cntDs];lia
 | c,d::ds=>by
  rewrite [cntDs,rowsDs];refine rwG List.length_cons ?_;refine rwG List.length_append ?_
  have:=cnt_le (e:=e) (c:=c + subsD d) ds
  have h1:subsD d≤1:=by cases d<;>simp [subsD]
  exact lin2 this h1 (by simp +arith only)
theorem cnt_free {ds:List Dc}:packFree ds→cntDs ds=0:=by
 induction ds with
 | nil=>intro _;rfl
 | cons d ds ih=>intro h;(rewrite [cntDs];refine rwG (h d (.head _)) ?_;refine rwG (ih fun x hx=>h x (.tail _ hx)) ?_;rfl)
noncomputable def dok:Nat→Dc→Prop
 | _,.var _ _ none | _,.subt _ | _,.typ _ | _,.exc _=>True
 | _,.var _ _ (some v) | _,.ren _ _ v=>vok v
 | k + 1,.pack _ a b c ss=>(∀d∈a++b++c,dok k d)∧packFree (a++b++c)∧(∀s∈ss,sok s)∧a.length + b.length + c.length≤1000
 | k + 1,.sub _ _ ds ss=>(∀d∈ds,dok k d)∧packFree ds∧(∀s∈ss,sok s)∧(rowsDs 0 0 ds).length + (rowsSs 0 ss).length + 10≤big
 | 0,.pack _ _ _ _ _ | 0,.sub _ _ _ _=>False
noncomputable abbrev Gs.dec (st:Gs) (rows:List D) (ms:List Int) (cs:List D):Gs:={ st with rows:=st.rows++rows,marks:=ms,height:=0,codes:=st.codes++cs }
theorem Gs.dec_dec (st:Gs) (r r':List D) (m m':List Int) (c c':List D):(st.dec r m c).dec r' m' c'=st.dec (r++r') m' (c++c'):=by simp [Gs.dec]
theorem Gs.dec_nil (st:Gs) (h:st.height=0):st.dec [] st.marks []=st:=by simp [Gs.dec,←h]
theorem Gs.add_dec (st:Gs) (h:st.height=0) (rows:List D):st.add rows 0=st.dec rows st.marks []:=by simp [Gs.dec,Gs.add,h]
theorem Gs.dec_add (st:Gs) (r r':List D) (m:List Int) (c:List D):(st.dec r m c).add r' 0=st.dec (r++r') m c:=by simp [Gs.dec,Gs.add]
theorem c_layd (C:Consts G) (hn:n < 970) {g:GA} {st:Gs} {rows:List D} {ms:List Int} {cs:List D} {row:D} {t:Int} (ok:GOk g) (hr:RowOk row t t) (hz:(st.rows++rows).length≤big)
  (h:Q .none (gput σ g (st.dec (rows++[row]) ms cs))):WC G n (.fn 17 0) [.ref g.i,row] (gput σ g (st.dec rows ms cs)) Q E:=by
 refine c_lay C hn ok hr (Nat.le_trans hz big_size) ?_
 have e:({ st.dec rows ms cs with rows:=(st.dec rows ms cs).rows++[row],height:=(st.dec rows ms cs).height + (t - t) }:Gs)=st.dec (rows++[row]) ms cs:=by
  simp [Gs.dec]
 refine rwG e ?_;exact h
theorem c_statementsd (C:Consts G) (hn:n < 860) {ss:List S} (hs:∀s∈ss,sok s) {g:GA} {st:Gs} {rows:List D} {ms:List Int} {cs:List D} (ok:GOk g) (ht:st.tables=.dct tabT) (he:st.ended=0)
  (hz:(st.rows++rows).length + (rowsSs 0 ss).length≤big)
  (h:Q .none (gput σ g (st.dec (rows++rowsSs 0 ss) ms cs))):WC G n (.fn 25 0) [.ref g.i,.lst (ss.map encS)] (gput σ g (st.dec rows ms cs)) Q E:=by
 refine rwL (Gs.add_nil (st.dec rows ms cs)) ?_
 refine c_statements C hn hs ok ht rfl (by refine (?_:((st.rows++rows)++[]).length + (rowsSs st.ended ss).length≤_);(rewrite [List.append_nil];refine rwG he ?_);exact hz) ?_
 rw [Gs.dec_add]
 refine (?_:Q _ (gput σ g (st.dec (rows++([]++rowsSs st.ended ss)) ms cs)))
 refine rwG he ?_;rewrite [List.nil_append]
 exact h
structure Mid (g:GA) (st:Gs):Prop where
 ok:GOk g
 ht:st.tables=.dct tabT
 h0:st.height=0
 he:st.ended=0
 m0:0 < st.marks.length
 m1:st.marks.length≤st.rows.length + 2
 cs:st.codes.length≤st.rows.length
noncomputable def DOk (G:Glob) (i:Nat) (x:D) (m:Nat) (rows:Nat→List D) (cs:List D):Prop:=∀(n:Nat) σ (Q:D→Sto→Prop) E (g:GA) (st:Gs),Mid g st→n + m < 800→st.rows.length + (rows st.codes.length).length≤big→
 (∀ms:List Int,st.marks.length≤ms.length→ms.length≤(st.rows++rows st.codes.length).length + 2→Q .none (gput σ g (st.dec (rows st.codes.length) ms cs)))→WC G n (.fn i 0) [.ref g.i,x] (gput σ g st) Q E
noncomputable def DeclsOk (G:Glob) (k:Nat):Prop:=∀ds,(∀d∈ds,dok k d)→DOk G 26 (.lst (encDs ds)) (6 * k + 1) (fun c=>rowsDs 0 c ds) (codesDs ds)
end Mine
end
section
open PySem PySem.W PySem.Calls PyProof.Rows
namespace Mine
set_option backward.match.sparseCases false
variable {G:Glob}
variable {n:Nat} {σ:Sto} {Q:D→Sto→Prop} {E:Exn→Sto→Prop}
theorem c_new_markd (hn:n < 970) {g:GA} {st:Gs} {rows:List D} {ms:List Int} {cs:List D} (ok:GOk g) (hz:ms.length≤2 * big) (h:Q (.int ms.length) (gput σ g (st.dec rows (ms++[-1]) cs))):WC G n (.fn 18 0) [.ref g.i] (gput σ g (st.dec rows ms cs)) Q E:=by
 refine c_new_markG hn ok (Nat.lt_of_le_of_lt hz (by refine rwG sizeLine_eq ?_;decide)) ?_
 exact h
theorem c_put_markd (hn:n < 970) {g:GA} {st:Gs} {rows:List D} {ms:List Int} {cs:List D} {m:Nat} (ok:GOk g) (hm:m < ms.length) (hz:ms.length≤2 * big) (hr:(st.rows++rows).length≤big)
  (h:Q .none (gput σ g (st.dec rows (ms.set m (st.rows++rows).length) cs))):WC G n (.fn 19 0) [.ref g.i,.int m,.int 0] (gput σ g (st.dec rows ms cs)) Q E:=by
 refine c_put_mark hn ok (Int.natCast_nonneg m) (Int.ofNat_lt.mpr hm) (sl hz) (Nat.le_trans hr big_size) ?_
 exact h
theorem c_handled (C:Consts G) {k:Nat} (ih:DeclsOk G k) {ds:List Dc} (hd:∀d∈ds,dok k d) {ss:List S} (hs:∀s∈ss,sok s) {g:GA} {st:Gs} (M:Mid g st) {m:Nat} (hm:m < st.marks.length) {row:D} (hr:RowOk row 0 0)
  (hn:n + 6 * k + 2 < 800) (hz:st.rows.length + (rowsDs 0 st.codes.length ds).length + (rowsSs 0 ss).length + 2≤big)
  (h:∀ms:List Int,st.marks.length≤ms.length→ms.length≤st.rows.length + (rowsDs 0 st.codes.length ds).length + (rowsSs 0 ss).length + 4→
   (ms.getD m 0=(st.rows++(rowsDs 0 st.codes.length ds++[row_arm]++rowsSs 0 ss)).length)→Q .none (gput σ g (st.dec (rowsDs 0 st.codes.length ds++[row_arm]++rowsSs 0 ss++[row]) ms (codesDs ds)))):
  WC G n (.fn 28 0) [.ref g.i,.lst (encDs ds),.lst (ss.map encS),.lst [],row,.int m] (gput σ g st) Q E:=by
 have hb:big=2 ^ 20:=rfl
 have ok:=M.ok
 have hn1:n + 1 < 800:=Nat.lt_of_le_of_lt (Nat.add_le_add_left (Nat.le_trans (by decide) (Nat.le_add_left 2 (6 * k))) n) (by rw [←Nat.add_assoc];exact hn)
 refine WC.fnV k28 (Nat.le_trans (Nat.succ_le_succ (Nat.le_of_lt hn1)) (by decide)) ?_
 refine Vm.fn (ih ds hd (n + 1) σ _ _ g st M (by exact lin1 hn (by simp +arith only)) (by dsimp only;exact lin1 hz (by simp +arith only)) fun ms a1 a2=>?_)
 dsimp only at a2 ⊢
 rw [List.length_append] at a2
 refine Vm.lcS [] (fun ds' acc σ'=>ds'=[]∧acc=[]∧σ'=gput σ g (st.dec (rowsDs 0 st.codes.length ds) ms (codesDs ds))) .lst (Nat.zero_le _) ⟨rfl,rfl,rfl⟩ (fun d ds acc σ₀ q=>nomatch q.1) fun acc σ₀ q=>?_
 refine rwG q.2.1 ?_;refine rwG q.2.2 ?_
 refine Vm.fn (c_new_markd (dn 0 hn1) ok (by exact lin2 hz a2 (by simp +arith only)) ?_)
 refine Vm.att (g_height ok) ?_
 refine Vm.lc [] (fun ds' acc σ'=>ds'=[]∧acc=[]∧σ'=gput σ g (st.dec (rowsDs 0 st.codes.length ds) (ms++[-1]) (codesDs ds))) .lst (Nat.zero_le _) ⟨rfl,rfl,rfl⟩ (fun d ds acc σ₀ q=>nomatch q.1) fun acc σ₀ q=>?_
 refine rwG q.2.1 ?_;refine rwG q.2.2 ?_
 refine Vm.fn (c_layd C (dn 0 hn1) ok ok_arm (by refine rwG List.length_append ?_;exact lin1 hz (by simp +arith only)) ?_)
 refine Vm.fn (c_statementsd C (dn 0 hn1) hs ok M.ht M.he (by simp only [List.length_append,List.length_cons,List.length_nil];exact lin1 hz (by simp +arith only)) ?_)
 refine Vm.fn (c_put_markd (dn 0 hn1) ok (by refine rwG List.length_append ?_;exact lin2 hm a1 (by simp +arith only)) (by (refine rwG List.length_append ?_;refine rwG List.length_cons ?_;refine rwG List.length_nil ?_);lia) (by simp only [List.length_append,List.length_cons,List.length_nil];exact lin1 hz (by simp +arith only)) ?_)
 refine Vm.fn (c_layd C (dn 0 hn1) ok hr (by simp only [List.length_append,List.length_cons,List.length_nil];exact lin1 hz (by simp +arith only)) ?_)
 refine Vm.cmp (.neD rfl rfl rfl rfl (by decide)) ?_
 refine rwG (show (!PyData.eqv _ _)=false from by decide +kernel) ?_
 refine Vm.blt (CallB.len .lst (Nat.zero_le _) ?_)
 refine Vm.blt (CallB.range ?_)
 refine Vm.forN 0 [8,7,0] (fun _=>[(8,.int 0),(7,.int ms.length),(0,.ref g.i)]) (fun _ σ'=>σ'=_) (Nat.zero_le _) rfl rfl (fun i σ' hi e=>nomatch hi) fun σ' e=>?_
 refine rwG e ?_
 refine Vm.fn (c_put_markd (dn 0 hn1) ok (by (refine rwG List.length_set ?_;refine rwG List.length_append ?_);exact Nat.le_refl _) (by (refine rwG List.length_set ?_;refine rwG List.length_append ?_;refine rwG List.length_cons ?_;refine rwG List.length_nil ?_);lia) (by simp only [List.length_append,List.length_cons,List.length_nil];exact lin1 hz (by simp +arith only)) ?_)
 refine h _ ?_ ?_ ?_
 ·simp;exact Nat.le_succ_of_le a1
 ·simp;exact lin1 a2 (by simp +arith only)
 ·have hlt:m < ms.length:=by exact Nat.lt_of_lt_of_le hm a1
  simp only [List.getD_eq_getElem?_getD]
  refine rwG (List.getElem?_set_ne (by exact Nat.ne_of_gt hlt)) ?_;refine rwG List.getElem?_set ?_;refine rwG (if_pos rfl) ?_;refine rwG (if_pos (by refine rwG List.length_append ?_;exact lin2 hm a1 (by simp +arith only))) ?_
  rfl
end Mine
end
section
open PySem PySem.W PySem.Calls PyProof.Rows
namespace Mine
set_option backward.match.sparseCases false
variable {G:Glob}
variable {n:Nat} {σ:Sto} {Q:D→Sto→Prop} {E:Exn→Sto→Prop}
theorem DOk.plain {i:Nat} {x:D} {m:Nat} {rows:List D} (h:∀(n:Nat) σ (Q:D→Sto→Prop) E (g:GA) (st:Gs),Mid g st→n + m < 800→st.rows.length + rows.length≤big→Q .none (gput σ g (st.add rows 0))→WC G n (.fn i 0) [.ref g.i,x] (gput σ g st) Q E):
  DOk G i x m (fun _=>rows) []:=fun n σ Q E g st M hn hz q=>by
 refine h n σ Q E g st M hn hz ?_
 rw [Gs.add_dec st M.h0]
 exact q _ (Nat.le_refl _) (by have:=M.m1;refine rwG List.length_append ?_;exact lin1 this (by simp +arith only))
theorem c_decl_var (C:Consts G) {l:Int} {x:Str} {o:Option V} (ho:∀v,o=some v→vok v):DOk G 42 (encDc (.var l x o)) 0 (fun c=>rowsD 0 c (.var l x o)) []:=by
 cases o with
 | none=>
  refine DOk.plain fun n σ Q E g st M hn hz h=>?_
  have ok:=M.ok
  rw [encDc]
  refine WC.fnV k42 (dx' 2 hn) ?_
  refine Vm.fn (c_lay0 C (dx 1 hn) ok (ok_begincell _) (Nat.le_trans (Nat.le_add_right _ 2) hz) ?_)
  refine Vm.cmp .isN ?_
  refine Vm.fn (c_lay1 C (dx 1 hn) ok (ok_firstcell _) (by refine rwG List.length_append ?_;exact Nat.le_of_succ_le hz) ?_)
  exact h
 | some v=>
  refine DOk.plain (rows:=[row_begincell (S_ "S")]++rowsV v++[row_initcell x]) fun n σ Q E g st M hn hz h=>?_
  have ok:=M.ok
  rw [encDc]
  simp only [List.length_append,List.length_cons,List.length_nil] at hz
  refine WC.fnV k42 (dx' 2 hn) ?_
  refine Vm.fn (c_lay0 C (dx 1 hn) ok (ok_begincell _) (by exact lx' hz) ?_)
  refine Vm.cmp .isN ?_
  rw [encO,encV_isNone]
  refine Vm.fn (c_valueV1 C (ho v rfl) (dx 1 hn) ok M.ht (by simp only [List.length_append,List.length_cons,List.length_nil];exact lin1 hz (by simp +arith only)) ?_)
  refine Vm.fn (c_lay1 C (dx 1 hn) ok (ok_initcell _) (by simp only [List.length_append,List.length_cons,List.length_nil];exact Nat.le_of_lt hz) ?_)
  exact h
theorem c_decl_subtype (C:Consts G) {l:Int}:DOk G 43 (encDc (.subt l)) 0 (fun c=>rowsD 0 c (.subt l)) []:=by
 refine DOk.plain fun n σ Q E g st M hn hz h=>?_
 have ok:=M.ok
 rw [encDc]
 refine WC.fnV k43 (dx' 2 hn) ?_
 refine Vm.at rfl ?_
 refine Vm.at rfl ?_
 refine Vm.fn (c_lay0 C (dx 1 hn) ok (ok_laysubtype _ _) (Nat.le_of_succ_le hz) ?_)
 exact h
theorem c_decl_type (C:Consts G) {l:Int}:DOk G 44 (encDc (.typ l)) 0 (fun c=>rowsD 0 c (.typ l)) []:=by
 refine DOk.plain fun n σ Q E g st M hn hz h=>?_
 have ok:=M.ok
 rw [encDc]
 refine WC.fnV k44 (dx' 2 hn) ?_
 refine Vm.at rfl ?_
 refine Vm.fn (c_lay0 C (dx 1 hn) ok (ok_laytype _) (Nat.le_of_succ_le hz) ?_)
 exact h
theorem c_decl_exc (C:Consts G) {l:Int}:DOk G 45 (encDc (.exc l)) 0 (fun c=>rowsD 0 c (.exc l)) []:=by
 refine DOk.plain fun n σ Q E g st M hn hz h=>?_
 rw [encDc]
 refine WC.fnV k45 (dx' 2 hn) ?_
 refine rwL (Gs.add_nil st) ?_
 exact h
theorem c_decl_rename (C:Consts G) {l:Int} {x:Str} {v:V} (hv:vok v):DOk G 46 (encDc (.ren l x v)) 0 (fun c=>rowsD 0 c (.ren l x v)) []:=by
 refine DOk.plain (rows:=rowsP (.der v)++[row_layplace x]) fun n σ Q E g st M hn hz h=>?_
 have ok:=M.ok
 rw [encDc]
 simp only [List.length_append,List.length_cons,List.length_nil] at hz
 refine WC.fnV k46 (dx' 2 hn) ?_
 refine Vm.at rfl ?_
 refine Vm.fn (c_place C (p:=.der v) (dx 1 hn) hv ok M.ht (by exact Nat.le_of_lt hz) ?_)
 refine Vm.at rfl ?_
 refine Vm.fn (c_lay1 C (dx 1 hn) ok (ok_layplace _) (by simp only [List.length_append];exact Nat.le_of_lt hz) ?_)
 exact h
theorem c_decl_pack (C:Consts G) {k:Nat} (ih:DeclsOk G k) {l:Int} {a b d:List Dc} {ss:List S} (hd:dok (k + 1) (.pack l a b d ss)):DOk G 51 (encDc (.pack l a b d ss)) (6 * k + 4) (fun c=>rowsD 0 c (.pack l a b d ss)) []:=fun n σ Q E g st M hn hz h=>by
 have hb:big=2 ^ 20:=rfl
 have ok:=M.ok
 refine ex04 hd ?_;clear hd;intro h1 h2 h3 h4
 have e0:cntDs (a++b++d)=0:=cnt_free h2
 have ea:cntDs a=0:=by rw [cntDs_append,cntDs_append] at e0;lia
 have eb:cntDs b=0:=by rw [cntDs_append,cntDs_append] at e0;lia
 have er:∀c,rowsDs 0 c a++rowsDs 0 c b++rowsDs 0 c d=rowsDs 0 c (a++b++d):=fun c=>by
  (rewrite [rowsDs_append,rowsDs_append,cntDs_append];refine rwG ea ?_;refine rwG eb ?_);rfl
 have ec:codesDs (a++b++d)=[]:=List.length_eq_zero_iff.mp (by (rewrite [codesDs_len];refine rwG e0 ?_;rfl))
 simp only [rowsD,er] at hz h
 simp only [List.length_append,List.length_cons,List.length_nil] at hz h
 rw [encDc]
 refine WC.fnV k51 (dx' 2 hn) ?_
 refine Vm.fn (c_lay0 C (dx 1 hn) ok ok_pack (by exact lx' hz) ?_)
 refine Vm.bin (.addL (by (rewrite [←encDs_len,←encDs_len];refine rwG sizeLine_eq ?_);exact lx' h4)) ?_
 refine Vm.bin (.addL (by (refine rwG List.length_append ?_;rewrite [←encDs_len,←encDs_len,←encDs_len];refine rwG sizeLine_eq ?_);exact Nat.le_trans h4 (Nat.le_of_ble_eq_true rfl))) ?_
 have e1:(st.add [row_pack] (0 - 0))=st.dec [row_pack] st.marks []:=Gs.add_dec st M.h0 _
 refine rwG e1 ?_
 refine Vm.fn (c_new_markd (dx 1 hn) ok (by have:=M.m1;exact lin2 hz this (by simp +arith only)) ?_)
 rw [←encDs_append,←encDs_append]
 have M':Mid g (st.dec [row_pack] (st.marks++[-1]) []):=⟨ok,M.ht,rfl,M.he,by simp,by have:=M.m1;simp;exact this,by have:=M.cs;simp;exact Nat.le_succ_of_le this⟩
 have hcl:(st.dec [row_pack] (st.marks++[-1]) []).codes.length=st.codes.length:=by exact List.length_append
 refine Vm.fn (c_handled C ih h1 h3 M' (by simp) ok_endpack (by refine (?_:n + 1 + 6 * k + 2 < 800);exact lin1 hn (by simp +arith only)) (by refine rwG hcl ?_;simp only [List.length_append,List.length_cons,List.length_nil];exact lin1 hz (by simp +arith only)) fun ms a1 a2 _=>?_)
 rewrite [Gs.dec_dec];refine rwG ec ?_
 rw [hcl] at a2 ⊢
 simp only [List.length_append,List.length_cons,List.length_nil] at a1 a2
 refine (?_:Q .none _)
 simpa using h ms (by exact Nat.le_of_lt a1) (by exact lin1 a2 (by simp +arith only))
end Mine
end
section
open PySem PySem.W PySem.Calls PyProof.Rows
namespace Mine
set_option backward.match.sparseCases false
variable {G:Glob}
variable {n:Nat} {σ:Sto} {Q:D→Sto→Prop} {E:Exn→Sto→Prop}
noncomputable def gpre (σ:Sto) (c:Nat) (x dx:Addr) (fs:List (Str×D)):Sto:=fun b=>if b=x then some (.inst c dx) else if b=dx then some (.dict fs) else σ b
theorem gpre_new {c:Nat} {x dx:Addr}:(σ.set dx (.dict [])).set x (.inst c dx)=gpre σ c x dx []:=rfl
theorem gpre_x {c:Nat} {x dx:Addr} {fs:List (Str×D)}:gpre σ c x dx fs x=some (.inst c dx):=if_pos rfl
theorem gpre_dx {c:Nat} {x dx:Addr} {fs:List (Str×D)} (ne:x≠dx):gpre σ c x dx fs dx=some (.dict fs):=by unfold gpre;(refine rwG (if_neg (Ne.symm ne)) ?_;refine rwG (if_pos rfl) ?_;rfl)
theorem gpre_ne {c:Nat} {x dx b:Addr} {fs:List (Str×D)} (h1:b≠x) (h2:b≠dx):gpre σ c x dx fs b=σ b:=by unfold gpre;(refine rwG (if_neg h1) ?_;refine rwG (if_neg h2) ?_;rfl)
theorem gpre_set {c:Nat} {x dx:Addr} {fs fs':List (Str×D)} (ne:x≠dx):(gpre σ c x dx fs).set dx (.dict fs')=gpre σ c x dx fs':=by
 funext b;unfold gpre Sto.set
 by_cases e:b=dx
 ·subst e;(refine rwG (if_pos rfl) ?_;refine rwG (if_neg (Ne.symm ne)) ?_;refine rwG (if_pos rfl) ?_;rfl)
 ·simp only [if_neg e]
theorem gpre_put {c:Nat} {x dx b:Addr} {o:AObj} {fs:List (Str×D)} (h1:b≠x) (h2:b≠dx):(gpre σ c x dx fs).set b o=gpre (σ.set b o) c x dx fs:=by
 funext d;unfold gpre Sto.set
 by_cases e:d=b
 ·subst e;(refine rwG (if_pos rfl) ?_;refine rwG (if_neg h1) ?_;refine rwG (if_neg h2) ?_;refine rwG (if_pos rfl) ?_;rfl)
 ·simp only [if_neg e]
theorem gpre_none {c:Nat} {x dx b:Addr} {fs:List (Str×D)} (h:gpre σ c x dx fs b=none):b≠x∧b≠dx∧σ b=none:=by
 unfold gpre at h
 by_cases e:b=x
 ·rw [if_pos e] at h;cases h
 ·rw [if_neg e] at h
  by_cases e':b=dx
  ·rw [if_pos e'] at h;cases h
  ·rw [if_neg e'] at h;exact ⟨e,e',h⟩
theorem Sto.set_none {b d:Addr} {o:AObj} (h:(σ.set b o) d=none):d≠b∧σ d=none:=by
 unfold Sto.set at h
 by_cases e:d=b
 ·rw [if_pos e] at h;cases h
 ·rw [if_neg e] at h;exact ⟨e,h⟩
theorem Vm.pre {C:Vc} {K:List Fr} {st:List D} {Γ:Ix} {d:D} {c:Nat} {x dx:Addr} {f:Str} {fs:List (Str×D)} (ne:x≠dx) (q:Ks G C K st Γ (gpre σ c x dx (dput fs f d))) (hc:attrTab.contains (c,f)=true:=by rfl) (hl:Nat.ble fs.length 1000=true:=by rfl):
  Vm G C ⟨.setA f::K,.ref x::d::st,Γ⟩ (gpre σ c x dx fs):=Vm.setA (.ins (mem_of_contains hc) gpre_x (gpre_dx ne) (Nat.le_of_ble_eq_true hl) (by refine rwG (gpre_set ne) ?_;exact q))
theorem gput_eq {g:GA} {st:Gs} (ok:GOk g):gpre (((σ.set g.rows (.list st.rows)).set g.marks (.list (st.marks.map .int))).set g.codes (.list st.codes)) 15 g.i g.dx (gdict g st)=gput σ g st:=by
 funext b;unfold gpre gput Sto.set
 by_cases h1:b=g.i
 ·simp [h1]
 ·by_cases h2:b=g.dx
  ·simp [h2]
  ·by_cases h3:b=g.rows
   ·subst h3;simp [h1,h2,Ne.symm ok.h6,Ne.symm ok.h9]
   ·by_cases h4:b=g.marks
    ·subst h4;simp [h1,h2,h3,Ne.symm ok.h10]
    ·simp [h1,h2,h3,h4]
noncomputable def Fresh (σ:Sto) (g:GA):Prop:=σ g.i=none∧σ g.dx=none∧σ g.rows=none∧σ g.marks=none∧σ g.codes=none
theorem c_Gen (hn:n < 950) {T:D} (h:∀g,GOk g→Fresh σ g→Q (.ref g.i) (gput σ g ⟨T,[],[-1],0,0,[]⟩)):WC G n (.cls 15) [T] σ Q E:=by
 refine WC.cls (p:=(S_ "Gen",15)) k_Gen fun x dx ne hx hdx=>?_
 refine rwG gpre_new ?_
 refine WC.fnV k15_1 (dn' 3 hn) ?_
 refine Vm.pre ne ?_
 refine Vm.lstN fun ra h1=>?_
 have ⟨r1,r2,r3⟩:=gpre_none h1
 refine rwG (gpre_put r1 r2) ?_
 refine Vm.pre ne ?_
 refine Vm.lstN fun ma h2=>?_
 have ⟨m1,m2,m3⟩:=gpre_none h2
 have ⟨m4,m5⟩:=Sto.set_none m3
 refine rwG (gpre_put m1 m2) ?_
 refine Vm.pre ne ?_
 refine Vm.pre ne ?_
 refine Vm.pre ne ?_
 refine Vm.pre ne ?_
 refine Vm.pre ne ?_
 refine Vm.fn (c_new_mark (dn 2 hn) gpre_x (gpre_dx ne) (List.mem_of_getElem? (i:=2) rfl) ((gpre_ne m1 m2).trans Sto.at_set) (by decide) ?_)
 refine rwG (gpre_put m1 m2) ?_;refine rwG Sto.set_set ?_
 refine Vm.pre ne ?_
 refine Vm.lstN fun ca h3=>?_
 have ⟨c1,c2,c3⟩:=gpre_none h3
 have ⟨c4,c5⟩:=Sto.set_none c3
 have ⟨c6,c7⟩:=Sto.set_none c5
 refine rwG (gpre_put c1 c2) ?_
 refine Vm.pre ne ?_
 have ok:GOk ⟨x,dx,ra,ma,ca⟩:=⟨Ne.symm ne,r1,r2,m1,m2,m4,c1,c2,c6,c4⟩
 have:=h ⟨x,dx,ra,ma,ca⟩ ok ⟨hx,hdx,r3,m5,c7⟩
 rw [←gput_eq ok] at this
 exact ⟨rfl,this⟩
end Mine
end
section
open PySem PySem.W PySem.Calls PyProof.Rows
namespace Mine
set_option backward.match.sparseCases false
variable {G:Glob}
variable {n:Nat} {σ:Sto} {Q:D→Sto→Prop} {E:Exn→Sto→Prop}
theorem Rows2.append {ms:List Int} {a b c d:List D} (h:Rows2 ms a b) (h':Rows2 ms c d):Rows2 ms (a++c) (b++d):=by
 induction h with
 | nil=>exact h'
 | cons x _ ih=>exact .cons x ih
theorem Rows2.one {ms:List Int} {a b:D} (h:RowJ ms a b):Rows2 ms [a] [b]:=.cons h .nil
mutual
theorem r2_V {ms:List Int}:∀v:V,Rows2 ms (rowsV v) (rowsV v)
 | .lit i=>by rw [rowsV];exact .one (rj_const i)
 | .obj k=>by rw [rowsV];exact .one (rj_obj k _)
 | .disp as ix=>by rw [rowsV];exact (r2_Vs as).append (.one (rj_dispatchf _ _ _))
 | .call u s as=>by rw [rowsV];exact (r2_Vs as).append (.one (rj_callf _ _ _))
theorem r2_Vs {ms:List Int}:∀vs:List V,Rows2 ms (rowsVs vs) (rowsVs vs)
 | []=>by rw [rowsVs];exact .nil
 | a::as=>by rw [rowsVs];exact ((r2_V a).append (.one rj_copy)).append (r2_Vs as)
end
theorem r2_P {ms:List Int} (p:P):Rows2 ms (rowsP p) (rowsP p):=by
 cases p with
 | y=>exact .one (rj_place _ _)
 | r=>exact .cons (rj_place _ _) (.one (rj_placecomp _))
 | der v=>exact (r2_V v).append (.one rj_placederef)
theorem r2_As {ms:List Int}:∀as:List A,Rows2 ms (rowsAs as) (rowsAs as)
 | []=>.nil
 | .inn v::as=>((r2_V v).append (.one rj_actual)).append (r2_As as)
 | .out _ p::as=>(((r2_P p).append (.one (rj_target _))).append (.one rj_actualout)).append (r2_As as)
theorem r2_S {ms:List Int} (h:0 < ms.length) (s:S):Rows2 ms (rowsS 0 s) (rowsS (ms.getD 0 0) s):=by
 refine .cons (rj_step _) ?_
 cases s with
 | null l=>exact .nil
 | asg l v=>exact ((r2_V v).append ((r2_P .y).append (.one (rj_target _)))).append (.one rj_store)
 | pdisp l as ix=>exact (r2_As as).append (.one (rj_dispatchp _ _ _))
 | pcall l u s as=>exact ((Rows2.one (rj_sub _ _)).append (r2_As as)).append (.one (rj_callp _))
 | ret l o=>
  cases o with
  | none=>exact .one (rj_jump 0 (by lia) (by exact Int.ofNat_lt.mpr h))
  | some v=>exact ((r2_V v).append (.one rj_result)).append (.one (rj_jump 0 (by lia) (by exact Int.ofNat_lt.mpr h)))
theorem r2_Ss {ms:List Int} (h:0 < ms.length):∀ss:List S,Rows2 ms (rowsSs 0 ss) (rowsSs (ms.getD 0 0) ss)
 | []=>.nil
 | s::ss=>(r2_S h s).append (r2_Ss h ss)
mutual
theorem r2_D {ms:List Int} (h:0 < ms.length):∀(c:Nat) (d:Dc),Rows2 ms (rowsD 0 c d) (rowsD (ms.getD 0 0) c d)
 | _,.var _ x none=>by rw [rowsD,rowsD];exact .cons (rj_begincell _) (.one (rj_firstcell _))
 | _,.var _ x (some v)=>by rw [rowsD,rowsD];exact ((Rows2.one (rj_begincell _)).append (r2_V v)).append (.one (rj_initcell _))
 | _,.ren _ x v=>by rw [rowsD,rowsD];exact (r2_P (.der v)).append (.one (rj_layplace _))
 | _,.subt _=>by rw [rowsD,rowsD];exact .one (rj_laysubtype _ _)
 | _,.typ _=>by rw [rowsD,rowsD];exact .one (rj_laytype _)
 | _,.exc _=>by rw [rowsD,rowsD];exact .nil
 | c,.pack _ a b d ss=>by
  rw [rowsD,rowsD]
  exact .append (.one rj_pack) ((((((r2_Ds h c a).append (r2_Ds h c b)).append (r2_Ds h c d)).append (.one rj_arm)).append (r2_Ss h ss)).append (.one rj_endpack))
 | _,.sub _ _ _ _=>by rw [rowsD,rowsD];exact .one (rj_laysub _)
theorem r2_Ds {ms:List Int} (h:0 < ms.length):∀(c:Nat) (ds:List Dc),Rows2 ms (rowsDs 0 c ds) (rowsDs (ms.getD 0 0) c ds)
 | _,[]=>by rw [rowsDs,rowsDs];exact .nil
 | c,d::ds=>by rw [rowsDs,rowsDs];exact .cons (rj_line _) ((r2_D h c d).append (r2_Ds h _ ds))
end
theorem Rows2.len {ms:List Int} {a b:List D} (h:Rows2 ms a b):b.length=a.length:=by
 induction h with
 | nil=>rfl
 | cons _ _ ih=>exact congrArg (· + 1) ih
theorem c_Code (hn:n < 970) {a b c:D} (h:∀x dx,x≠dx→σ x=none→σ dx=none→Q (.ref x) (gpre σ 8 x dx [(S_ "rows",a),(S_ "source",b),(S_ "codes",c),(S_ "barrier",.none),(S_ "operations",.lst [])])):
  WC G n (.cls 8) [a,b,c] σ Q E:=by
 refine WC.cls (p:=(S_ "Code",8)) k_Code fun x dx ne hx hdx=>?_
 refine rwG gpre_new ?_
 refine WC.fnV k8_1 (dn' 3 hn) ?_
 refine Vm.pre ne ?_
 refine Vm.pre ne ?_
 refine Vm.pre ne ?_
 refine Vm.pre ne ?_
 refine Vm.pre ne ?_
 exact ⟨rfl,h x dx ne hx hdx⟩
theorem gpre_del {c:Nat} {x dx:Addr} {fs:List (Str×D)} (h1:σ x=none) (h2:σ dx=none):((gpre σ c x dx fs).del x).del dx=σ:=by
 funext b;unfold gpre Sto.del
 by_cases e:b=dx
 ·refine rwG (if_pos e) ?_;refine rwG e ?_;refine rwG h2 ?_;rfl
 ·refine rwG (if_neg e) ?_
  by_cases e':b=x
  ·refine rwG (if_pos e') ?_;refine rwG e' ?_;refine rwG h1 ?_;rfl
  ·simp only [if_neg e',if_neg e]
theorem subF_at {name:Str} {ds ss:List D} (i:Nat) {f:Str} {d:D} (h:(subF name ds ss)[i]?=some (f,d)) (ha:(55,f)∈attrTab):AttrR σ (.ins 55 (subF name ds ss)) f d:=.ins ha (List.mem_of_getElem? h)
theorem codeF_at {rows:List D} {source:D} {codes:List D} (i:Nat) {f:Str} {d:D} (h:(codeF rows source codes)[i]?=some (f,d)) (ha:(8,f)∈attrTab):AttrR σ (.ins 8 (codeF rows source codes)) f d:=.ins ha (List.mem_of_getElem? h)
theorem gput_fresh {g:GA} {st:Gs} (f:Fresh σ g):∀a x,σ a=some x→(((gput σ g st).del g.rows).del g.codes) a=some x:=fun a x h=>by
 refine ex05 f ?_;clear f;intro f1 f2 f3 f4 f5
 have ne:∀b,σ b=none→a≠b:=fun b hb e=>by rw [e,hb] at h;cases h
 unfold Sto.del gput
 refine rwG (if_neg (ne _ f5)) ?_;refine rwG (if_neg (ne _ f3)) ?_;refine rwG (if_neg (ne _ f1)) ?_;refine rwG (if_neg (ne _ f2)) ?_;refine rwG (if_neg (ne _ f3)) ?_;refine rwG (if_neg (ne _ f4)) ?_;refine rwG (if_neg (ne _ f5)) ?_
 exact h
end Mine
end
section
open PySem PySem.W PySem.Calls PyProof.Rows
namespace Mine
set_option backward.match.sparseCases false
variable {G:Glob}
variable {n:Nat} {σ:Sto} {Q:D→Sto→Prop} {E:Exn→Sto→Prop}
theorem c_kept (hn:n < 970) {g:GA} {st:Gs} {d:D} (ok:GOk g) (hz:st.codes.length < big) (h:Q (.int st.codes.length) (gput σ g { st with codes:=st.codes++[d] })):WC G n (.fn 47 0) [.ref g.i,d] (gput σ g st) Q E:=by
 have hb:big=2 ^ 20:=rfl
 refine WC.fnV k47 (dn' 2 hn) ?_
 refine Vm.att (g_codes ok) ?_
 refine Vm.isT (.lst (gput_codes ok)) ?_
 refine Vm.met (CallB.append (gput_codes ok) (sl (Nat.le_of_lt hz)) ?_)
 refine rwG (gput_set_codes ok) ?_
 refine Vm.att (g_codes ok) ?_
 refine Vm.blt (CallB.len (.ref (gput_codes ok)) (by refine (?_:(st.codes++[d]).length≤_);refine rwG List.length_append ?_;exact sl hz) ?_)
 refine Vm.bin .subI ?_
 refine rwG List.length_append ?_;refine rwG (show ((st.codes.length + [d].length:Nat):Int) - 1=st.codes.length from Int.add_sub_cancel (st.codes.length:Int) 1) ?_
 exact h
theorem c_whole (C:Consts G) {k:Nat} (ih:DeclsOk G k) {x:Str} {ds:List Dc} {ss:List S} (hd:∀d∈ds,dok k d) (hf:packFree ds) (hs:∀s∈ss,sok s) (hz:(rowsDs 0 0 ds).length + (rowsSs 0 ss).length + 10≤big)
  (hn:n + 6 * k + 3 < 800) (h:Q (.ins 8 (codeF (rowsW (endW ds ss) ds ss row_endsub) (encSub x ds ss) [])) σ):
  WC G n (.fn 39 0) [.dct tabT,encSub x ds ss,.str (S_ "endsub")] σ Q E:=by
 have hb:big=2 ^ 20:=rfl
 have ec:codesDs ds=[]:=List.length_eq_zero_iff.mp (by (rewrite [codesDs_len];refine rwG (cnt_free hf) ?_;rfl))
 refine WC.fnV k39 (dz' 2 hn) ?_
 refine Vm.cls (c_Gen (dz 1 hn) fun g ok fr=>?_)
 refine Vm.att (subF_at 3 rfl (by decide +kernel)) ?_
 refine Vm.att (subF_at 4 rfl (by decide +kernel)) ?_
 refine Vm.att (subF_at 5 rfl (by decide +kernel)) ?_
 refine Vm.att (g_ended ok) ?_
 refine Vm.fn (c_handled C ih hd hs (m:=0) ⟨ok,rfl,rfl,rfl,by decide,by decide,by decide⟩ (by decide) ok_endsub (by refine (?_:n + 1 + 6 * k + 2 < 800);exact dm _ hn) (by refine (?_:0 + _ + _ + 2≤_);dsimp only [List.length_nil];exact lin1 hz (by simp +arith only)) fun ms a1 a2 a3=>?_)
 dsimp only [List.length_nil,List.length_cons] at a1 a2 a3 ⊢
 have hr:=r2_Ds (ms:=ms) (by exact a1) 0 ds
 have hr2:=r2_Ss (ms:=ms) (by exact a1) ss
 refine Vm.fn (c_placed_rows C (dz 1 hn) ok (((hr.append (.one rj_arm)).append hr2).append (.one rj_endsub)) (by refine (?_:([]++_:List D).length≤_);simp only [List.nil_append,List.length_append,List.length_cons,List.length_nil];lia) (by refine (?_:ms.length≤_);lia) ?_)
 refine Vm.att (.ref (c:=15) (by decide +kernel) ((Sto.at_del (Ne.symm ok.h2)).trans (gput_i ok)) ((Sto.at_del (Ne.symm ok.h3)).trans (gput_dx ok)) (List.mem_of_getElem? (i:=8) rfl)) ?_
 refine Vm.fz (.L ((Sto.at_del ok.h9).trans (gput_codes ok))) ?_
 refine Vm.cls (c_Code (dz 1 hn) fun x' dx ne hx hdx=>?_)
 refine Vm.fz (.I gpre_x (gpre_dx ne)) ?_
 refine Vm.fz (.F (σ':=σ) ?_) ?_
 ·refine rwG (gpre_del hx hdx) ?_
  exact gput_fresh fr
 ·have a4:ms.getD 0 0=endW ds ss:=a3
  refine rwG a4 ?_
  refine (?_:Q (.ins 8 (codeF (rowsW (endW ds ss) ds ss row_endsub) (encSub x ds ss) ([]++codesDs ds))) σ)
  refine rwG ec ?_
  exact h
theorem c_decl_sub (C:Consts G) {k:Nat} (ih:DeclsOk G k) {l:Int} {x:Str} {ds:List Dc} {ss:List S} (hd:dok (k + 1) (.sub l x ds ss)):DOk G 48 (encDc (.sub l x ds ss)) (6 * k + 5) (fun c=>rowsD 0 c (.sub l x ds ss)) (codesD (.sub l x ds ss)):=fun n σ Q E g st M hn hz h=>by
 have hb:big=2 ^ 20:=rfl
 have ok:=M.ok
 refine ex04 hd ?_;clear hd;intro h1 h2 h3 h4
 have hm:=M.m1
 have hc:=M.cs
 rw [encDc]
 simp only [rowsD,codesD,List.length_append,List.length_cons,List.length_nil] at hz h
 refine WC.fnV k48 (dx' 2 hn) ?_
 refine Vm.att (g_tables ok) ?_
 refine rwG M.ht ?_
 refine Vm.at rfl ?_
 refine Vm.fn (c_whole C ih h1 h2 h3 h4 (by refine (?_:n + 1 + 6 * k + 3 < 800);exact lin1 hn (by simp +arith only)) ?_)
 refine Vm.fn (c_kept (dx 1 hn) ok (by exact Nat.lt_of_le_of_lt hc hz) ?_)
 refine rwG (show ({ st with codes:=st.codes++[D.ins 8 (codeF (rowsW (endW ds ss) ds ss row_endsub) (encSub x ds ss) [])] }:Gs)=st.dec [] st.marks [D.ins 8 (codeF (rowsW (endW ds ss) ds ss row_endsub) (encSub x ds ss) [])] by simp [Gs.dec,←M.h0]) ?_
 refine Vm.fn (c_layd C (dx 1 hn) ok (ok_laysub _) (by rw [List.append_nil];exact Nat.le_of_lt hz) ?_)
 exact h _ (Nat.le_refl _) (by exact Nat.le_succ_of_le hm)
theorem decl_ok (C:Consts G) {k:Nat} (ih:∀j,k=j + 1→DeclsOk G j) {d:Dc} (h:dok k d):∃(i i':Nat) (w:Str) (as:List D),encDc d=.tup (.str w::.int (lineD d)::as)∧declsT[i]?=some (w,D.fn i' 0)∧DOk G i' (encDc d) (6 * k) (fun c=>rowsD 0 c d) (codesD d):=by
 have lift:∀{i':Nat} {m:Nat} {rows:Nat→List D} {cs:List D},m≤6 * k→DOk G i' (encDc d) m rows cs→DOk G i' (encDc d) (6 * k) rows cs:=fun hm q n σ Q E g st M hn hz h=>q n σ Q E g st M (by exact lin2 hm hn (by simp +arith only)) hz h
 cases d with
 | var l x o=>
  refine ⟨0,42,_,_,by rw [encDc];rfl,rfl,lift (Nat.zero_le _) (c_decl_var C fun v e=>?_)⟩
  subst e
  cases k<;>exact h
 | ren l x v=>exact ⟨4,46,_,_,by rw [encDc];rfl,rfl,lift (Nat.zero_le _) (c_decl_rename C (by cases k<;>exact h))⟩
 | subt l=>exact ⟨1,43,_,_,by rw [encDc];rfl,rfl,lift (Nat.zero_le _) (c_decl_subtype C)⟩
 | typ l=>exact ⟨2,44,_,_,by rw [encDc];rfl,rfl,lift (Nat.zero_le _) (c_decl_type C)⟩
 | exc l=>exact ⟨3,45,_,_,by rw [encDc];rfl,rfl,lift (Nat.zero_le _) (c_decl_exc C)⟩
 | pack l a b c ss=>
  cases k with
  | zero=>exact h.elim
  | succ k=>exact ⟨8,51,_,_,by rw [encDc];rfl,rfl,lift (by simp +arith only) (c_decl_pack C (ih k rfl) h)⟩
 | sub l x ds ss=>
  cases k with
  | zero=>exact h.elim
  | succ k=>exact ⟨5,48,_,_,by rw [encDc];rfl,rfl,lift (by exact Nat.le_succ _) (c_decl_sub C (ih k rfl) h)⟩
inductive DeclJ (σ:Sto) (g:GA) (st:Gs) (done:List Dc) (σ':Sto):Prop
 | mk (ms:List Int):σ'=gput σ g (st.dec (rowsDs 0 st.codes.length done) ms (codesDs done))→st.marks.length≤ms.length→ms.length≤(st.rows++rowsDs 0 st.codes.length done).length + 2→DeclJ σ g st done σ'
theorem decls_step (C:Consts G) {k:Nat} (ih:∀j,k=j + 1→DeclsOk G j):∀ds,(∀d∈ds,dok k d)→DOk G 26 (.lst (encDs ds)) (6 * k + 1) (fun c=>rowsDs 0 c ds) (codesDs ds):=fun ds hd n σ Q E g st M hn hz h=>by
 have hb:big=2 ^ 20:=rfl
 have ok:=M.ok
 dsimp only at hz h
 have hn':=Nat.lt_of_le_of_lt (Nat.add_le_add_left (Nat.le_add_left 1 (6 * k)) n) hn
 refine WC.fnV k26 (dn' 1 hn') ?_
 refine Vm.forL encDc ds [1,0] (fun _=>[(1,.lst (encDs ds)),(0,.ref g.i)]) (DeclJ σ g st)
  (by rw [encDs_map];exact .lst) rfl ⟨st.marks,by (rewrite [rowsDs,codesDs];refine rwG (Gs.dec_nil _ M.h0) ?_;rfl),Nat.le_refl _,by rw [rowsDs,List.append_nil];exact M.m1⟩ (fun done d rest σ₀ e q=>?_) fun σ₀ q=>by (obtain ⟨ms,q,b1,b2⟩:=q);refine rwG q ?_;exact h ms b1 b2
 obtain ⟨ms,q,b1,b2⟩:=q
 have hl:(rowsDs 0 st.codes.length ds).length=(rowsDs 0 st.codes.length done).length + 1 + (rowsD 0 (st.codes.length + cntDs done) d).length + (rowsDs 0 (st.codes.length + cntDs done + subsD d) rest).length:=by
  (refine rwG e ?_;rewrite [rowsDs_append,rowsDs]);simp;simp +arith only
 refine ex43 (decl_ok C ih (hd d (by refine rwG e ?_;exact List.mem_append_right _ (.head _)))) ?_;intro i i' w as e1 e2 e3
 have hm:=List.mem_of_getElem? e2
 rw [List.length_append] at b2
 refine rwG q ?_;refine rwG e1 ?_
 rw [e1] at e3
 refine Vm.at rfl ?_
 refine Vm.fn (c_layd C (dn 0 hn') ok (ok_line _) (by refine rwG List.length_append ?_;lia) ?_)
 refine Vm.att (g_tables ok) ?_
 refine rwG (show (st.dec (rowsDs 0 st.codes.length done++[row_line (lineD d)]) ms (codesDs done)).tables=.dct tabT from M.ht) ?_
 refine Vm.sub (.dctK (List.mem_of_getElem? (i:=3) rfl)) ?_
 refine Vm.at rfl ?_
 refine Vm.sub (.dctK hm) ?_
 refine Vm.dyI trivial ?_
 have hcl:(st.dec (rowsDs 0 st.codes.length done++[row_line (lineD d)]) ms (codesDs done)).codes.length=st.codes.length + cntDs done:=by
  refine (?_:(st.codes++codesDs done).length=_)
  refine rwG List.length_append ?_;rewrite [codesDs_len];rfl
 have hcnt:=cnt_le (e:=0) (c:=st.codes.length) done
 have M':Mid g (st.dec (rowsDs 0 st.codes.length done++[row_line (lineD d)]) ms (codesDs done)):=⟨ok,M.ht,rfl,M.he,Nat.lt_of_lt_of_le M.m0 b1,by simp;exact Nat.le_succ_of_le b2,by refine rwG hcl ?_;have:=M.cs;simp;exact lin2 hcnt this (by simp +arith only)⟩
 refine Vm.dyn (e3 (n + 1) σ _ _ g _ M' (by exact lin1 hn (by simp +arith only)) ?_ fun ms' c1 c2=>?_)
 ·dsimp only
  refine rwG hcl ?_
  simp only [List.length_append,List.length_cons,List.length_nil];lia
 ·refine ⟨rfl,ms',?_,Nat.le_trans b1 c1,?_⟩
  ·refine rwG hcl ?_;rewrite [Gs.dec_dec,rowsDs_append,rowsDs,rowsDs,codesDs_append,codesDs,codesDs]
   simp
  ·rw [hcl] at c2
   rw [rowsDs_append,rowsDs,rowsDs]
   simp only [List.length_append,List.length_cons,List.length_nil] at c2 ⊢;exact lin1 c2 (by simp +arith only)
theorem c_declsK (C:Consts G):∀k,DeclsOk G k
 | 0=>decls_step C (fun j e=>by cases e)
 | k + 1=>decls_step C (fun j e=>by cases e;exact c_declsK C k)
end Mine
end
section
open PySem PySem.W PySem.Calls PyProof.Rows
namespace Mine
set_option backward.match.sparseCases false
variable {G:Glob}
variable {n:Nat} {σ:Sto} {Q:D→Sto→Prop} {E:Exn→Sto→Prop}
noncomputable def tailW (main:Str):List D:=[row_arm,row_step 0,row_sub 0 main,row_callp 0,row_endbody]
noncomputable def rowsM (e:Int) (ds:List Dc) (main:Str):List D:=rowsDs e 0 ds++tailW main
noncomputable def endM (ds:List Dc) (main:Str):Int:=((rowsDs 0 0 ds++tailW main).length:Nat)
theorem c_program (C:Consts G) {k:Nat} {ds:List Dc} {main:Str} (hd:∀d∈ds,dok k d) (hz:(rowsDs 0 0 ds).length + 10≤big)
  (hn:n + 6 * k + 3 < 800) (h:Q (.ins 8 (codeF (rowsM (endM ds main) ds main) .none (codesDs ds))) σ):
  WC G n (.fn 53 0) [.dct tabT,.lst (encDs ds),.str main] σ Q E:=by
 have hb:big=2 ^ 20:=rfl
 refine WC.fnV k53 (dz' 2 hn) ?_
 refine Vm.cls (c_Gen (dz 1 hn) fun g ok fr=>?_)
 refine Vm.fn (c_declsK C k ds hd (n + 1) σ _ _ g _ ⟨ok,rfl,rfl,rfl,by decide,by decide,by decide⟩ (by exact lin1 hn (by simp +arith only)) (by refine (?_:0 + (rowsDs 0 0 ds).length≤_);exact lin1 hz (by simp +arith only)) fun ms a1 a2=>?_)
 dsimp only [List.length_nil,List.length_cons] at a1 a2 ⊢
 rw [List.nil_append] at a2
 refine Vm.fn (c_layd C (dz 1 hn) ok ok_arm (by refine (?_:([]++_:List D).length≤_);simp only [List.nil_append,List.length_append,List.length_cons,List.length_nil];exact lx' hz) ?_)
 refine Vm.fn (c_layd C (dz 1 hn) ok (ok_step 0) (by refine (?_:([]++_:List D).length≤_);simp only [List.nil_append,List.length_append,List.length_cons,List.length_nil];exact lx hz) ?_)
 refine rwL (Gs.add_nil (Gs.dec _ _ _ _)) ?_
 refine Vm.fn (c_lay1 C (dz 1 hn) ok (ok_sub 0 main) (by refine (?_:([]++_++[]:List D).length≤_);simp only [List.nil_append,List.append_nil,List.length_append,List.length_cons,List.length_nil];exact dk _ hz) ?_)
 refine Vm.fn (c_lay1 C (dz 1 hn) ok (ok_callp 0) (by refine (?_:([]++_++_:List D).length≤_);simp only [List.nil_append,List.append_nil,List.length_append,List.length_cons,List.length_nil];exact dk _ hz) ?_)
 refine Vm.fn (c_lay1 C (dz 1 hn) ok ok_endbody (by refine (?_:([]++_++_:List D).length≤_);simp only [List.nil_append,List.append_nil,List.length_append,List.length_cons,List.length_nil];exact dk _ hz) ?_)
 refine Vm.att (g_ended ok) ?_
 refine rwG (show (0:Int) + (1 - 0) + (0 - (1 + 0)) + (0 - 0)=0 from rfl) ?_;rewrite [Gs.dec_add]
 refine Vm.fn (c_put_markd (m:=0) (dz 1 hn) ok (by exact a1) (by exact lin2 hz a2 (by simp +arith only)) (by refine (?_:([]++_:List D).length≤_);simp only [List.nil_append,List.append_nil,List.length_append,List.length_cons,List.length_nil];exact dk _ hz) ?_)
 generalize hms:ms.set 0 _=ms'
 have a3:ms'.getD 0 0=endM ds main:=by
  refine rwL hms ?_;refine rwG List.getD_eq_getElem?_getD ?_;refine rwG List.getElem?_set ?_;refine rwG (if_pos rfl) ?_;refine rwG (if_pos (by exact a1)) ?_
  refine (?_:_=((rowsDs 0 0 ds++tailW main).length:Int))
  simp [tailW]
 have a4:ms'.length=ms.length:=by (refine rwL hms ?_;refine rwG List.length_set ?_;rfl)
 have hr:=r2_Ds (ms:=ms') (by exact a4▸a1) 0 ds
 refine Vm.fn (c_placed_rows C (dz 1 hn) ok (((hr.append (.one rj_arm)).append (.one (rj_step 0))).append (((Rows2.one (rj_sub 0 main)).append (.one (rj_callp 0))).append (.one rj_endbody))) (by refine (?_:([]++_:List D).length≤_);simp only [List.nil_append,List.length_append,List.length_cons,List.length_nil];exact dk _ hz) (by refine (?_:ms'.length≤_);lia) ?_)
 refine Vm.att (.ref (c:=15) (by decide +kernel) ((Sto.at_del (Ne.symm ok.h2)).trans (gput_i ok)) ((Sto.at_del (Ne.symm ok.h3)).trans (gput_dx ok)) (List.mem_of_getElem? (i:=8) rfl)) ?_
 refine Vm.fz (.L ((Sto.at_del ok.h9).trans (gput_codes ok))) ?_
 refine Vm.cls (c_Code (dz 1 hn) fun x' dx ne hx hdx=>?_)
 refine Vm.fz (.I gpre_x (gpre_dx ne)) ?_
 refine Vm.fz (.F (σ':=σ) ?_) ?_
 ·refine rwG (gpre_del hx hdx) ?_
  exact gput_fresh fr
 ·refine rwG a3 ?_
  refine (?_:Q (.ins 8 (codeF _ _ _)) σ)
  simpa [rowsM,tailW] using h
end Mine
end
section
open PySem PySem.W PySem.Calls PyProof.Rows
namespace Mine
set_option backward.match.sparseCases false
variable {G:Glob}
variable {n:Nat} {σ:Sto} {Q:D→Sto→Prop} {E:Exn→Sto→Prop}
noncomputable def callT:List (Str×D):=[(S_ "call",.fn 32 0),(S_ "dispatch",.fn 33 0),(S_ "protcall",.fn 34 0)]
noncomputable def pcallT:List (Str×D):=[(S_ "pcall",.fn 35 0),(S_ "pdispatch",.fn 36 0)]
noncomputable def dicE:Expr→List (Option Expr)×List Expr×Pos
 | .Dict ks vs p=>(ks,vs,p)
 | _=>([],[],default)
noncomputable def defN (i:Nat):Str:=((defTab.find? fun p=>p.2==i).getD default).1
noncomputable def fnI:D→Nat
 | .fn i _=>i
 | _=>0
noncomputable def dicK:List (Str×D)→List (Option Expr)→List (Option Expr)
 | [],_=>[]
 | p::T,ks=>some (.Constant (.str p.1) (kk ((ks.headD none).getD default)) (ps ((ks.headD none).getD default)))::dicK T ks.tail
noncomputable def dicV:List (Str×D)→List Expr→List Expr
 | [],_=>[]
 | p::T,vs=>.Name (defN (fnI p.2)) (ps (hdE vs))::dicV T (tlE vs)
noncomputable def dicT (T:List (Str×D)) (e:Expr):Expr:=.Dict (dicK T (dicE e).1) (dicV T (dicE e).2.1) (dicE e).2.2
noncomputable def isFnD:D→Bool
 | .fn _ 0=>true
 | _=>false
noncomputable def chkT (sc:Scope) (T:List (Str×D)):Bool:=T.all fun p=>isFnD p.2&&(defTab.contains (defN (fnI p.2),fnI p.2)&&isGl sc (defN (fnI p.2)))
theorem WD.tab {k:Sk} {Γ:Loc}:∀{T:List (Str×D)} {ks:List (Option Expr)} {vs:List Expr} {Q:List (Str×D)→Sto→Prop},chkT k.sc T=true→Q T σ→WD G k Γ σ (dicK T ks) (dicV T vs) Q E
 | [],_,_,_,_,q=>WD.nil q
 | (x,d)::T,ks,vs,Q,h,q=>by
  have h':(isFnD d&&(defTab.contains (defN (fnI d),fnI d)&&isGl k.sc (defN (fnI d))))=true:=andL h
  refine WD.cons (WE.defn (mem_of_contains (andL (andR h'))) (isGl_k (andR (andR h'))) (isGl_d (andR (andR h'))) (WD.tab (T:=T) (andR h) ?_))
  cases d with
  | fn i j=>cases j with
   | zero=>exact q
   | succ=>exact noTrue (andL h')
  | _=>exact noTrue (andL h')
theorem dicK_all:∀(T:List (Str×D)) (ks:List (Option Expr)),(dicK T ks).all (·.isSome)=true
 | [],_=>rfl
 | _::T,ks=>dicK_all T _
theorem dicK_len:∀(T:List (Str×D)) (ks:List (Option Expr)),(dicK T ks).length=T.length
 | [],_=>rfl
 | _::T,ks=>congrArg Nat.succ (dicK_len T _)
theorem dicV_len:∀(T:List (Str×D)) (ks:List Expr),(dicV T ks).length=T.length
 | [],_=>rfl
 | _::T,ks=>congrArg Nat.succ (dicV_len T _)
structure TabOk (sc:Scope) (T:List (Str×D)) (e:Expr):Prop where
 eq:e=dicT T e
 ok:chkT sc T=true
 nd:(T.map (·.1)).Nodup
 h0:Nat.blt 0 T.length=true
 h1:Nat.ble T.length 15=true
theorem WE.tab {k:Sk} {Γ:Loc} {T:List (Str×D)} {e:Expr} (h:TabOk k.sc T e) (q:∀a,σ a=none→Q (.ref a) (σ.set a (.dict T))):WE G k Γ σ e Q E:=by
 refine rwG h.eq ?_
 refine WE.dct (dicK_all _ _) ((dicK_len _ _).trans (dicV_len _ _).symm) (fun z=>?_) (by rw [dicK_len];exact Nat.le_of_ble_eq_true h.h1) (WD.tab h.ok ⟨h.nd,q⟩)
 have:=congrArg List.length z
 rw [dicK_len] at this
 exact absurd (Nat.le_of_ble_eq_true h.h0) (by refine rwG this ?_;exact Nat.not_succ_le_zero _)
theorem WC.tab {i:Nat} {T:List (Str×D)} (hc:FnOk i 0 [] [] (.cons (.ret (.raw (sp (hdS (sBody (stAt i 0)))).v)) .nil)) (hT:TabOk (sScope (stAt i 0)) T (sp (hdS (sBody (stAt i 0)))).v) (hn:n < 970) (h:∀a,σ a=none→Q (.ref a) (σ.set a (.dict T))):WC G n (.fn i 0) [] σ Q E:=
 WC.fnV hc (dn' 2 hn) (Vm.rawE rfl (WE.tab hT fun a ha=>h a ha))
theorem t66:TabOk (sScope (stAt 66 0)) (nodesT.take 8) (sp (hdS (sBody (stAt 66 0)))).v:=⟨by kernel_rfl,by decide +kernel,by decide +kernel,rfl,rfl⟩
theorem c_name_gens (hn:n < 970) (h:∀a,σ a=none→Q (.ref a) (σ.set a (.dict (nodesT.take 8)))):WC G n (.fn 66 0) [] σ Q E:=WC.tab k66 t66 hn h
theorem t37:TabOk (sScope (stAt 37 0)) (callT) (sp (hdS (sBody (stAt 37 0)))).v:=⟨by kernel_rfl,by decide +kernel,by decide +kernel,rfl,rfl⟩
theorem c_call_gens (hn:n < 970) (h:∀a,σ a=none→Q (.ref a) (σ.set a (.dict (callT)))):WC G n (.fn 37 0) [] σ Q E:=WC.tab k37 t37 hn h
theorem t38:TabOk (sScope (stAt 38 0)) (pcallT) (sp (hdS (sBody (stAt 38 0)))).v:=⟨by kernel_rfl,by decide +kernel,by decide +kernel,rfl,rfl⟩
theorem c_call_statement_gens (hn:n < 970) (h:∀a,σ a=none→Q (.ref a) (σ.set a (.dict (pcallT)))):WC G n (.fn 38 0) [] σ Q E:=WC.tab k38 t38 hn h
theorem t52:TabOk (sScope (stAt 52 0)) (declsT) (sp (hdS (sBody (stAt 52 0)))).v:=⟨by kernel_rfl,by decide +kernel,by decide +kernel,rfl,rfl⟩
theorem c_declaration_gens (hn:n < 970) (h:∀a,σ a=none→Q (.ref a) (σ.set a (.dict (declsT)))):WC G n (.fn 52 0) [] σ Q E:=WC.tab k52 t52 hn h
theorem t73:TabOk (sScope (stAt 73 0)) (placesT) (sp (hdS (sBody (stAt 73 0)))).v:=⟨by kernel_rfl,by decide +kernel,by decide +kernel,rfl,rfl⟩
theorem c_place_gens (hn:n < 970) (h:∀a,σ a=none→Q (.ref a) (σ.set a (.dict (placesT)))):WC G n (.fn 73 0) [] σ Q E:=WC.tab k73 t73 hn h
theorem t86:TabOk (sScope (stAt 86 0)) (stmtsT.take 9) (sp (hdS (sBody (stAt 86 0)))).v:=⟨by kernel_rfl,by decide +kernel,by decide +kernel,rfl,rfl⟩
theorem c_plain_gens (hn:n < 970) (h:∀a,σ a=none→Q (.ref a) (σ.set a (.dict (stmtsT.take 9)))):WC G n (.fn 86 0) [] σ Q E:=WC.tab k86 t86 hn h
theorem nodesT_join:nodesT.take 8++callT=nodesT:=rfl
theorem stmtsT_join:stmtsT.take 9++pcallT=stmtsT:=rfl
end Mine
end
section
open PySem PySem.W PySem.Calls PyProof.Rows
namespace Mine
set_option backward.match.sparseCases false
variable {G:Glob}
variable {n:Nat} {σ:Sto} {Q:D→Sto→Prop} {E:Exn→Sto→Prop}
noncomputable abbrev Dd:={ d:List Str // d.length≤91 }
inductive Res (α:Type) where
 | ok (a:α) (d:Dd) | err (e:Exn) (d:Dd)
noncomputable def M' (α:Type):=Dd→Res α
noncomputable def ret' {α:Type} (a:α):M' α:=fun d=>.ok a d
noncomputable def bind' {α β:Type} (m:M' α) (f:α→M' β):M' β:=fun d=>match m d with
 | .ok a d'=>f a d'
 | .err e d'=>.err e d'
noncomputable def wpM {α:Type} (m:M' α) (Q:α→Dd→Prop) (E:Exn→Dd→Prop) (d:Dd):Prop:=match m d with
 | .ok a d'=>Q a d'
 | .err e d'=>E e d'
theorem wpM_bind {α β:Type} {m:M' α} {f:α→M' β} {Q:β→Dd→Prop} {E:Exn→Dd→Prop} {d:Dd}:wpM (bind' m f) Q E d=wpM m (fun a d'=>wpM (f a) Q E d') E d:=by
 unfold wpM bind'
 cases m d<;>rfl
theorem wpB {α β:Type} {m:M' α} {f:α→M' β} {Q:β→Dd→Prop} {E:Exn→Dd→Prop} {d:Dd} (h:wpM (bind' m f) Q E d):wpM m (fun a d'=>wpM (f a) Q E d') E d:=wpM_bind▸h
theorem wpM_mono {α:Type} {m:M' α} {Q Q':α→Dd→Prop} {E E':Exn→Dd→Prop} {d:Dd} (h:wpM m Q E d) (hq:∀a d,Q a d→Q' a d) (he:∀e d,E e d→E' e d):wpM m Q' E' d:=by
 unfold wpM at *
 cases h':m d<;>rw [h'] at h
 ·exact hq _ _ h
 ·exact he _ _ h
noncomputable def tell (x:Str):M' Unit:=fun d=>if h:90 < d.1.length then .err .fin d else .ok () ⟨d.1++[x],by refine rwG List.length_append ?_;simp;exact Nat.not_lt.mp h⟩
noncomputable abbrev Body:=List Dc×List S
noncomputable abbrev Laid:=List (Str×Body)
noncomputable def look (l:Laid) (x:Str):M' Body:=fun d=>match l.lookup x with
 | some b=>.ok b d
 | none=>.err .ada d
noncomputable def found (l:Laid) (x:Str):M' Body:=bind' (tell (S_ "look for "++x)) fun _=>look l x
noncomputable def madeT (word what:Str) (taken:List Str):Str:=word++S_ " "++what++S_ "("++Txt.join (S_ ", ") taken++S_ ")"
noncomputable def made (word what:Str) (taken:List Str):M' Str:=bind' (tell (madeT word what taken)) fun _=>ret' (madeT word what taken)
structure BA where
 b:Addr
 dl:Addr
 ld:Addr
noncomputable def bput (σ:Sto) (a:BA) (ds:Dd) (es:List (Str×D)):Sto:=fun c=>
 if c=a.b then some (.dict [(S_ "deeds",.ref a.dl),(S_ "laid",.ref a.ld)]) else if c=a.dl then some (.list (ds.1.map .str)) else if c=a.ld then some (.dict es) else σ c
structure BOk (a:BA):Prop where
 h1:a.dl≠a.b
 h2:a.ld≠a.b
 h3:a.ld≠a.dl
section
variable {a:BA} {ds:Dd} {es:List (Str×D)} (ok:BOk a)
include ok
theorem bput_b:bput σ a ds es a.b=some (.dict [(S_ "deeds",.ref a.dl),(S_ "laid",.ref a.ld)]):=if_pos rfl
theorem bput_dl:bput σ a ds es a.dl=some (.list (ds.1.map .str)):=by unfold bput;(refine rwG (if_neg ok.h1) ?_;refine rwG (if_pos rfl) ?_;rfl)
theorem bput_ld:bput σ a ds es a.ld=some (.dict es):=by unfold bput;(refine rwG (if_neg ok.h2) ?_;refine rwG (if_neg ok.h3) ?_;refine rwG (if_pos rfl) ?_;rfl)
theorem bput_set_dl {l:Dd}:(bput σ a ds es).set a.dl (.list (l.1.map .str))=bput σ a l es:=by
 funext b;unfold bput Sto.set
 by_cases e:b=a.dl
 ·subst e;(refine rwG (if_pos rfl) ?_;refine rwG (if_neg ok.h1) ?_;refine rwG (if_pos rfl) ?_;rfl)
 ·simp only [if_neg e]
theorem bput_set_ld {l:List (Str×D)}:(bput σ a ds es).set a.ld (.dict l)=bput σ a ds l:=by
 funext b;unfold bput Sto.set
 by_cases e:b=a.ld
 ·subst e;(refine rwG (if_pos rfl) ?_;refine rwG (if_neg ok.h2) ?_;refine rwG (if_neg ok.h3) ?_;refine rwG (if_pos rfl) ?_;rfl)
 ·simp only [if_neg e]
end
theorem bput_put {a:BA} {ds:Dd} {es:List (Str×D)} {b:Addr} {o:AObj} (h1:b≠a.b) (h2:b≠a.dl) (h3:b≠a.ld):(bput σ a ds es).set b o=bput (σ.set b o) a ds es:=by
 funext c;unfold bput Sto.set
 by_cases e:c=b
 ·subst e;(refine rwG (if_pos rfl) ?_;refine rwG (if_neg h1) ?_;refine rwG (if_neg h2) ?_;refine rwG (if_neg h3) ?_;refine rwG (if_pos rfl) ?_;rfl)
 ·simp only [if_neg e]
theorem x_EndRun:(S_ "EndRun",4)∈excTab:=List.mem_of_getElem? (i:=2) rfl
theorem x_AdaRaise:(S_ "AdaRaise",2)∈excTab:=List.mem_of_getElem? (i:=1) rfl
theorem c_AdaError {i j:Nat} (hij:i=2∧j=4∨i=4∧j=2) (hn:n < 970) {e:Addr} {t:Str} (he:σ e=some (.exc i none))
  (h:∀dx,σ dx=none→dx≠e→Q .none ((σ.set e (.exc i (some dx))).set dx (.dict [(S_ "text",.str t)]))):WC G n (.fn 1 1) [.ref e,.str t] σ Q E:=by
 refine WC.fnV k1_1 (dn' 2 hn) ?_
 refine Vm.rawS rfl (W1.expr (WE.excInit rfl (WA.cons (WE.var (.head _) (WA.cons (WE.var (.tail _ (.head _)) (WA.nil ⟨e,i,j,none,_,rfl,hij,he,[(0,.ref e),(1,.str t)],fun _ h=>h,?_⟩)) fun _=>rfl)) fun _=>rfl)) fun _=>rfl)
 exact Vm.setA (.exc hij (by rcases hij with h | h<;>refine rwG h.1 ?_<;>decide +kernel) (.first he fun dx h1 h2=>h dx h1 h2))
end Mine
end
section
open PySem PySem.W PySem.Calls PyProof.Rows
namespace Mine
set_option backward.match.sparseCases false
variable {G:Glob}
variable {n:Nat} {σ:Sto} {Q:D→Sto→Prop} {E:Exn→Sto→Prop}
noncomputable def epre (σ:Sto) (e:Addr) (i:Nat) (dx:Addr) (fs:List (Str×D)):Sto:=(σ.set e (.exc i (some dx))).set dx (.dict fs)
theorem epre_dx {e dx:Addr} {i:Nat} {fs:List (Str×D)}:epre σ e i dx fs dx=some (.dict fs):=Sto.at_set
theorem epre_e {e dx:Addr} {i:Nat} {fs:List (Str×D)} (ne:dx≠e):epre σ e i dx fs e=some (.exc i (some dx)):=(Sto.at_ne (Ne.symm ne)).trans Sto.at_set
theorem epre_set {e dx:Addr} {i:Nat} {fs fs':List (Str×D)}:(epre σ e i dx fs).set dx (.dict fs')=epre σ e i dx fs':=Sto.set_set
theorem epre_del {e dx:Addr} {i:Nat} {fs:List (Str×D)} (h1:σ e=none) (h2:σ dx=none):((epre σ e i dx fs).del dx).del e=σ:=by
 funext b;unfold epre Sto.del Sto.set
 by_cases x:b=e
 ·refine rwG (if_pos x) ?_;refine rwG x ?_;refine rwG h1 ?_;rfl
 ·by_cases y:b=dx
  ·refine rwG (if_neg x) ?_;refine rwG (if_pos y) ?_;refine rwG y ?_;refine rwG h2 ?_;rfl
  ·simp only [if_neg x,if_neg y]
theorem epre_pre {e dx:Addr} {i:Nat} {fs:List (Str×D)}:((σ.set e (.exc i none)).set e (.exc i (some dx))).set dx (.dict fs)=epre σ e i dx fs:=by refine rwG Sto.set_set ?_;rfl
theorem Vm.exs {C:Vc} {K:List Fr} {st:List D} {Γ:Ix} {d:D} {i j:Nat} {e dx:Addr} {f:Str} {fs:List (Str×D)} (hij:i=2∧j=4∨i=4∧j=2) (ne:dx≠e) (q:Ks G C K st Γ (epre σ e i dx (dput fs f d))) (hc:excAttrTab.contains (i,f)=true:=by rfl) (hl:Nat.ble fs.length 1000=true:=by rfl):
  Vm G C ⟨.setA f::K,.ref e::d::st,Γ⟩ (epre σ e i dx fs):=Vm.setA (.exc hij (mem_of_contains hc) (.more (epre_e ne) epre_dx (Nat.le_of_ble_eq_true hl) (by refine rwG epre_set ?_;exact q)))
theorem c_EndRun (hn:n < 960) {t:Str} (h:∀e dx,σ e=none→σ dx=none→dx≠e→Q (.ref e) (epre σ e 4 dx [(S_ "text",.str (S_ "the run is over")),(S_ "how",.str t)])):WC G n (.cls 4) [.str t] σ Q E:=by
 refine WC.exc (.inr ⟨rfl,rfl⟩) (Nat.le_of_ble_eq_true rfl) (G.excs _ x_EndRun).2 fun e he=>?_
 refine WC.fnV k4_1 (dn' 3 hn) ?_
 refine Vm.rawS rfl (W1.expr (WE.adaInit rfl (WA.cons (WE.var (.head _) (WA.cons (WE.str (WA.nil ?_)) fun _=>rfl)) fun _=>rfl)) fun _=>rfl)
 refine c_AdaError (.inr ⟨rfl,rfl⟩) (dn 2 hn) Sto.at_set fun dx h1 h2=>⟨[(0,.ref e),(1,.str t)],fun _ h=>h,?_⟩
 have h3:=(Sto.set_none h1).2
 refine rwG epre_pre ?_
 refine Vm.exs (.inr ⟨rfl,rfl⟩) h2 ?_
 exact ⟨rfl,h e dx he h3 h2⟩
theorem c_AdaRaise (hn:n < 960) {x y:Str} {l:Int} (h:∀e dx,σ e=none→σ dx=none→dx≠e→Q (.ref e) (epre σ e 2 dx [(S_ "text",.str y),(S_ "name",.str x),(S_ "word",.str x),(S_ "line",.int l)])):WC G n (.cls 2) [.str x,.int l,.str y] σ Q E:=by
 refine WC.exc (.inl ⟨rfl,rfl⟩) (Nat.le_of_ble_eq_true rfl) (G.excs _ x_AdaRaise).2 fun e he=>?_
 refine WC.fnV k2_1 (dn' 3 hn) ?_
 refine Vm.rawS rfl (W1.expr (WE.adaInit rfl (WA.cons (WE.var (.head _) (WA.cons (WE.var (.tail _ (.tail _ (.tail _ (.head _)))) (WA.nil ?_)) fun _=>rfl)) fun _=>rfl)) fun _=>rfl)
 refine c_AdaError (.inl ⟨rfl,rfl⟩) (dn 2 hn) Sto.at_set fun dx h1 h2=>⟨[(0,.ref e),(1,.str x),(2,.int l),(3,.str y)],fun _ h=>h,?_⟩
 have h3:=(Sto.set_none h1).2
 refine rwG epre_pre ?_
 refine Vm.exs (.inl ⟨rfl,rfl⟩) h2 ?_
 refine Vm.exs (.inl ⟨rfl,rfl⟩) h2 ?_
 refine Vm.exs (.inl ⟨rfl,rfl⟩) h2 ?_
 exact ⟨rfl,h e dx he h3 h2⟩
theorem c_tell (hn:n < 950) {a:BA} (ok:BOk a) {d:Dd} {es:List (Str×D)} {x:Str} (h:wpM (tell x) (fun _ d'=>Q .none (bput σ a d' es)) (fun e d'=>E e (bput σ a d' es)) d):WC G n (.fn 95 0) [.ref a.b,.str x] (bput σ a d es) Q E:=by
 refine WC.fnV k95 (dn' 2 hn) ?_
 refine Vm.sub (.dctM (bput_b ok) (.head _)) ?_
 refine Vm.blt (CallB.len (.ref (bput_dl ok)) (by rw [List.length_map];exact sl d.2) ?_)
 refine Vm.cmp .gtI ?_
 rw [List.length_map]
 unfold wpM tell at h
 by_cases hl:90 < d.1.length
 ·rw [dif_pos hl] at h
  refine rwG (decide_eq_true (show (90:Int) < d.1.length from Int.ofNat_lt.mpr hl)) ?_
  refine Vm.cls (c_EndRun (dn 1 hn) fun e dx h1 h2 h3=>?_)
  refine Vm.raise (.mk (x:=.fin) (epre_e h3) epre_dx (fun q=>nomatch q) ?_)
  refine rwG (epre_del h1 h2) ?_
  exact h
 ·rw [dif_neg hl] at h
  refine rwG (decide_eq_false (show ¬ (90:Int) < d.1.length from fun z=>hl (Int.ofNat_lt.mp z))) ?_
  refine Vm.sub (.dctM (bput_b ok) (.head _)) ?_
  refine Vm.isT (.lst (bput_dl ok)) ?_
  refine Vm.met (CallB.append (bput_dl ok) (by rw [List.length_map];exact sl d.2) ?_)
  refine rwG (show d.1.map D.str++[D.str x]=(d.1++[x]).map D.str by refine rwG List.map_append ?_;rfl) ?_;refine rwG (bput_set_dl (l:=⟨d.1++[x],by refine rwG List.length_append ?_;exact Nat.succ_le_succ (Nat.le_of_not_lt hl)⟩) ok) ?_
  exact h
end Mine
end
section
open PySem PySem.W PySem.Calls PyProof.Rows
namespace Mine
set_option backward.match.sparseCases false
variable {G:Glob}
variable {n:Nat} {σ:Sto} {Q:D→Sto→Prop} {E:Exn→Sto→Prop}
noncomputable abbrev layD (f:Str→Body→D) (l:Laid):List (Str×D):=l.map fun p=>(p.1,f p.1 p.2)
theorem lay_keys {f:Str→Body→D} {l:Laid}:(layD f l).map (·.1)=l.map (·.1):=by exact List.map_map
theorem lookup_mem' {l:Laid} {x:Str} {b:Body} (h:l.lookup x=some b):(x,b)∈l:=by
 induction l with
 | nil=>cases h
 | cons p r ih=>
  rw [List.lookup_cons] at h
  by_cases e:x==p.1
  ·rw [e] at h;cases h;refine rwG (eq_of_beq e) ?_;exact .head _
  ·rw [Bool.not_eq_true] at e;rw [e] at h;exact .tail _ (ih h)
theorem lookup_none' {l:Laid} {x:Str} (h:l.lookup x=none):x∉l.map (·.1):=by
 induction l with
 | nil=>exact List.not_mem_nil
 | cons p r ih=>
  rw [List.lookup_cons] at h
  by_cases e:x==p.1
  ·rw [e] at h;cases h
  ·rw [Bool.not_eq_true] at e;rw [e] at h
   refine rwG List.map_cons ?_;rewrite [List.mem_cons,not_or]
   exact ⟨by simpa using e,ih h⟩
theorem c_found (hn:n < 940) {a:BA} (ok:BOk a) {d:Dd} {f:Str→Body→D} {l:Laid} {x:Str} (hx:x.length≤1000) (h:wpM (found l x) (fun b d'=>Q (f x b) (bput σ a d' (layD f l))) (fun e d'=>E e (bput σ a d' (layD f l))) d):
  WC G n (.fn 96 0) [.ref a.b,.str x] (bput σ a d (layD f l)) Q E:=by
 unfold found at h
 rw [wpM_bind] at h
 refine WC.fnV k96 (dn' 2 hn) ?_
 refine Vm.bin (.addS (show 9 + x.length≤sizeLine from sl (Nat.add_le_add_left hx 9))) ?_
 refine Vm.fn (c_tell (dn 1 hn) ok (wpM_mono h (fun _ d' q=>?_) fun _ _ x=>x))
 unfold wpM look at q
 refine Vm.sub (.dctM (bput_b ok) (.tail _ (.head _))) ?_
 refine Vm.cmp (.notInM (bput_ld ok)) ?_
 refine rwG lay_keys ?_
 cases hl:l.lookup x with
 | none=>
  rw [hl] at q
  refine rwG (decide_eq_false (lookup_none' hl)) ?_
  refine Vm.cls (c_AdaRaise (dn 1 hn) fun e dx h1 h2 h3=>?_)
  refine Vm.raise (.mk (x:=.ada) (epre_e h3) epre_dx (fun _=>List.mem_of_getElem? (i:=2) rfl) ?_)
  refine rwG (epre_del h1 h2) ?_
  exact q
 | some b=>
  rw [hl] at q
  have hm:=lookup_mem' hl
  refine rwG (decide_eq_true (List.mem_map.mpr ⟨_,hm,rfl⟩)) ?_
  refine Vm.sub (.dctM (bput_b ok) (.tail _ (.head _))) ?_
  refine Vm.sub (.dctM (bput_ld ok) (List.mem_map.mpr ⟨_,hm,rfl⟩)) ?_
  exact q
noncomputable def Short (ts:List Str):Prop:=ts.length≤4∧∀t∈ts,t.length≤2 ^ 16
end Mine
end
section
open PySem PySem.W PySem.Calls PyProof.Rows
namespace Mine
set_option backward.match.sparseCases false
variable {G:Glob}
variable {n:Nat} {σ:Sto} {Q:D→Sto→Prop} {E:Exn→Sto→Prop}
theorem len_append (a b:Str):(a++b).length=a.length + b.length:=Str.length_append a b
theorem short_join {ts:List Str} (h:Short ts):JoinOk (S_ ", ") ts=true:=by
 unfold JoinOk
 rw [StrLaws.joinFits (B:=2 ^ 16) h.2 (by
  have h1:=h.1
  have:(S_ ", ").length=2:=rfl
  refine rwG this ?_;lia)]
 rfl
theorem short_len {ts:List Str} (h:Short ts):(Txt.join (S_ ", ") ts).length≤2 ^ 19:=by
 have h1:(Str.join (S_ ", ") ts).length≤_:=StrLaws.join_length_le (S_ ", ") ts
 have h2:=StrLaws.sumLen_le ts h.2
 have h3:=h.1
 have:(S_ ", ").length=2:=rfl
 rw [this] at h1
 have e:(Txt.join (S_ ", ") ts).length=(Str.join (S_ ", ") ts).length:=by
  unfold Txt.join
  rw [StrLaws.glued_eq_join]
 refine rwG e ?_
 have h4:ts.length * 2 ^ 16≤4 * 2 ^ 16:=Nat.mul_le_mul_right _ h3
 lia
theorem c_made (hn:n < 930) {a:BA} (ok:BOk a) {d:Dd} {es:List (Str×D)} {w x:Str} {L:D} {ts:List Str} (hw:w.length≤1000) (hx:x.length≤1000) (ht:Short ts)
  (hL:SeqD (bput σ a d es) L "list" (ts.map .str))
  (h:wpM (made w x ts) (fun t d'=>Q (.str t) (bput σ a d' es)) (fun e d'=>E e (bput σ a d' es)) d):WC G n (.fn 97 0) [.ref a.b,.str w,.str x,L] (bput σ a d es) Q E:=by
 unfold made at h
 rw [wpM_bind] at h
 have hj:=short_len ht
 have l1:(w++S_ " ").length≤1001:=by rw [len_append];exact Nat.succ_le_succ hw
 have l2:((w++S_ " ")++x).length≤2001:=by rw [len_append];exact Nat.add_le_add l1 hx
 have l3:(((w++S_ " ")++x)++S_ "(").length≤2002:=by rw [len_append];exact Nat.succ_le_succ l2
 have l4:((((w++S_ " ")++x)++S_ "(")++Txt.join (S_ ", ") ts).length≤2002 + 2 ^ 19:=by rw [len_append];exact Nat.add_le_add l3 hj
 refine WC.fnV k97 (dn' 2 hn) ?_
 refine Vm.bin (.addS (sl (c:=1001) (Nat.succ_le_succ hw))) ?_
 refine Vm.bin (.addS (sl (Nat.add_le_add l1 hx))) ?_
 refine Vm.bin (.addS (sl (Nat.succ_le_succ l2))) ?_
 refine Vm.isT .str ?_
 refine Vm.met (CallB.join hL (short_join ht) ?_)
 refine Vm.bin (.addS (sl (Nat.add_le_add l3 hj))) ?_
 refine Vm.bin (.addS (sl (Nat.succ_le_succ l4))) ?_
 exact Vm.fn (c_tell (dn 1 hn) ok (wpM_mono h (fun _ d' q=>q) fun _ _ x=>x))
end Mine
end
section
open PySem PySem.W PySem.Calls PyProof.Rows
namespace Mine
set_option backward.match.sparseCases false
variable {G:Glob}
variable {n:Nat} {σ:Sto} {Q:D→Sto→Prop} {E:Exn→Sto→Prop}
noncomputable def Sm (i:Int):Prop:=0≤i∧i < 1000
noncomputable def SmS (x:Str):Prop:=x.length≤20∧∀c∈x.cps.toList,c < 16 ^ 8
noncomputable def leafChk (p:PyData):Bool:=p.showable&&!p.hasDict&&decide (p.depth≤1)&&p.leavesShort 8&&decide (p.weight≤21)
theorem int_fin:∀i:Fin 1000,leafChk (.int (i.1:Int))=true:=by decide +kernel
theorem int_chk {i:Int} (h:Sm i):leafChk (.int i)=true:=by
 refine ex02 h ?_;clear h;intro h0 h1
 have e:i=((i.toNat:Nat):Int):=by exact (Int.toNat_of_nonneg h0).symm
 refine rwG e ?_
 exact int_fin ⟨i.toNat,by lia⟩
theorem str_chk {x:Str} (h:SmS x):leafChk (.str x)=true:=by
 unfold leafChk
 have h1:(PyData.str x).weight≤21:=by refine (?_:x.cps.size≤21);exact Nat.le_trans h.1 (by decide)
 have h2:(PyData.str x).leavesShort 8=true:=by
  refine (?_:(x.cps.toList.all fun c=>decide (c < 16 ^ 8))=true)
  rw [List.all_eq_true]
  exact fun c hc=>decide_eq_true (h.2 c hc)
 refine rwG h2 ?_;refine rwG (decide_eq_true h1) ?_
 rfl
inductive Leaf:D→PyData→Prop
 | int {i:Int}:Sm i→Leaf (.int i) (.int i)
 | str {x:Str}:SmS x→Leaf (.str x) (.str x)
inductive Leaves:List D→List PyData→Prop
 | nil:Leaves [] []
 | cons {d:D} {p:PyData} {ds:List D} {ps:List PyData}:Leaf d p→Leaves ds ps→Leaves (d::ds) (p::ps)
theorem Leaf.ok {d:D} {p:PyData} (h:Leaf d p):pyD d=some p∧p.showable=true∧p.hasDict=false∧p.depth≤1∧p.leavesShort 8=true∧p.weight≤21:=by
 have:pyD d=some p∧leafChk p=true:=by
  induction h with
  | int h=>exact ⟨by rw [pyD],int_chk h⟩
  | str h=>exact ⟨by rw [pyD],str_chk h⟩
 refine ⟨this.1,?_⟩
 have h:=this.2
 unfold leafChk at h
 simp only [Bool.and_eq_true,decide_eq_true_eq,Bool.not_eq_true'] at h
 exact ⟨h.1.1.1.1,h.1.1.1.2,h.1.1.2,h.1.2,h.2⟩
theorem Leaves.ok {ds:List D} {ps:List PyData} (h:Leaves ds ps):pyDs ds=some ps∧PyData.showableAll ps=true∧PyData.hasDictAll ps=false∧PyData.depthAll ps≤1∧PyData.leavesShortAll 8 ps=true∧PyData.weightAll ps≤22 * ds.length:=by
 induction h with
 | nil=>exact ⟨by rw [pyDs],rfl,rfl,by decide,rfl,by decide⟩
 | cons h _ ih=>
  refine ex06 h.ok ?_;intro a1 a2 a3 a4 a5 a6
  refine ex06 ih ?_;clear ih;intro b1 b2 b3 b4 b5 b6
  refine ⟨by (rewrite [pyDs];refine rwG a1 ?_;refine rwG b1 ?_;rfl),?_,?_,?_,?_,?_⟩
  ·(rewrite [PyData.showableAll];refine rwG a2 ?_;refine rwG b2 ?_);rfl
  ·(rewrite [PyData.hasDictAll];refine rwG a3 ?_;refine rwG b3 ?_);rfl
  ·rw [PyData.depthAll];exact Nat.max_le.mpr ⟨a4,b4⟩
  ·(rewrite [PyData.leavesShortAll];refine rwG a5 ?_;refine rwG b5 ?_);rfl
  ·(rewrite [PyData.weightAll];refine rwG List.length_cons ?_);exact lin2 a6 b6 (by simp +arith only)
theorem lst_ok {ds:List D} {ps:List PyData} (h:Leaves ds ps) (hl:ds.length≤4):pyD (.lst ds)=some (.list ps)∧PyData.showable (.list ps)=true∧PyData.hasDict (.list ps)=false∧PyData.depth (.list ps)≤100∧(PyData.shown (.list ps)).length≤900:=by
 refine ex06 h.ok ?_;intro a1 a2 a3 a4 a5 a6
 have hs:=PyData.shown_le 8 (by decide) (.list ps) (by rw [PyData.leavesShort];exact a5)
 have hw:PyData.weight (.list ps)=PyData.weightAll ps:=by rw [PyData.weight]
 rw [hw] at hs
 refine ⟨by (rewrite [pyD];refine rwG a1 ?_);rfl,by rw [PyData.showable];exact a2,by rw [PyData.hasDict];exact a3,by rw [PyData.depth];exact Nat.lt_of_le_of_lt a4 (Nat.le_of_ble_eq_true rfl),by lia⟩
theorem tup_ok {ds:List D} {ps:List PyData} (h:Leaves ds ps) (hl:ds.length≤4):pyD (.tup ds)=some (.tuple ps)∧PyData.showable (.tuple ps)=true∧PyData.hasDict (.tuple ps)=false∧PyData.depth (.tuple ps)≤100∧(PyData.shown (.tuple ps)).length≤900:=by
 refine ex06 h.ok ?_;intro a1 a2 a3 a4 a5 a6
 have hs:=PyData.shown_le 8 (by decide) (.tuple ps) (by rw [PyData.leavesShort];exact a5)
 have hw:PyData.weight (.tuple ps)=PyData.weightAll ps:=by rw [PyData.weight]
 rw [hw] at hs
 refine ⟨by (rewrite [pyD];refine rwG a1 ?_);rfl,by rw [PyData.showable];exact a2,by rw [PyData.hasDict];exact a3,by rw [PyData.depth];exact Nat.lt_of_le_of_lt a4 (Nat.le_of_ble_eq_true rfl),by lia⟩
theorem CallB.strLst {k:Sk} {Q:D→Sto→Prop} {ds:List D} {ps:List PyData} (h:Leaves ds ps) (hl:ds.length≤4) (hn:k.n≤1000) (q:(PyData.shown (.list ps)).length≤900→Q (.str (PyData.shown (.list ps))) σ):CallB G k σ (.type "str") [.lst ds] Q:=by
 refine ex05 (lst_ok h hl) ?_;intro a1 a2 a3 a4 a5
 exact CallB.strD (T:="list") (ds:=ds) (.inr rfl) a1 a2 a3 a4 (Nat.le_trans a5 (by refine rwG sizeLine_eq ?_;decide)) hn (q a5)
theorem CallB.strTup {k:Sk} {Q:D→Sto→Prop} {ds:List D} {ps:List PyData} (h:Leaves ds ps) (hl:ds.length≤4) (hn:k.n≤1000) (q:(PyData.shown (.tuple ps)).length≤900→Q (.str (PyData.shown (.tuple ps))) σ):CallB G k σ (.type "str") [.tup ds] Q:=by
 refine ex05 (tup_ok h hl) ?_;intro a1 a2 a3 a4 a5
 exact CallB.strD (T:="tuple") (ds:=ds) (.inl rfl) a1 a2 a3 a4 (Nat.le_trans a5 (by refine rwG sizeLine_eq ?_;decide)) hn (q a5)
end Mine
end
section
open PySem PySem.W PySem.Calls PyProof.Rows
namespace Mine
set_option backward.match.sparseCases false
variable {G:Glob}
variable {n:Nat} {σ:Sto} {Q:D→Sto→Prop} {E:Exn→Sto→Prop}
noncomputable def shL (ps:List PyData):Str:=PyData.shown (.list ps)
noncomputable def shT (ps:List PyData):Str:=PyData.shown (.tuple ps)
noncomputable def iS (i:Int):Str:=toString i
theorem iS_fin:∀i:Fin 1000,(iS (i.1:Int)).length≤8:=by decide +kernel
theorem iS_len {i:Int} (h:Sm i):(iS i).length≤8:=by
 refine ex02 h ?_;clear h;intro h0 h1
 have e:i=((i.toNat:Nat):Int):=by exact (Int.toNat_of_nonneg h0).symm
 refine rwG e ?_
 exact iS_fin ⟨i.toNat,by lia⟩
theorem Sm.log {i:Int} (h:Sm i):i.natAbs.log2 < 1920:=by
 refine ex02 h ?_;clear h;intro h0 h1
 refine Nat.lt_of_le_of_lt (Nat.log2_le_self _) (by lia)
section
variable (l:Laid) (ent:Body→M' Unit)
mutual
noncomputable def says:V→M' Str
 | .lit i=>ret' (S_ "const"++shL [.int i])
 | .obj k=>ret' (S_ "obj"++shL [.int k,.str (S_ "x#1")])
 | .disp as ix=>bind' (saysAs as) fun ts=>made (S_ "by tag "++iS ix) (S_ "area") ts
 | .call _ s as=>bind' (saysAs as) fun ts=>bind' (found l s) fun b=>bind' (made (S_ "call") s ts) fun t=>bind' (ent b) fun _=>ret' t
noncomputable def saysAs:List V→M' (List Str)
 | []=>ret' []
 | a::as=>bind' (says a) fun t=>bind' (made (S_ "copy") (S_ "") [t]) fun c=>bind' (saysAs as) fun r=>ret' (c::r)
end
end
mutual
noncomputable def vsm:V→Prop
 | .lit i=>Sm i
 | .obj k=>Sm k
 | .disp as ix=>Sm ix∧as.length≤2∧vsms as
 | .call u s as=>Sm u∧SmS s∧as.length≤2∧vsms as
noncomputable def vsms:List V→Prop
 | []=>True
 | a::as=>vsm a∧vsms as
end
theorem wpM_and {α:Type} {m:M' α} {Q:α→Dd→Prop} {P:α→Prop} {E F:Exn→Dd→Prop} {d:Dd} (h:wpM m Q E d) (hp:wpM m (fun a _=>P a) F d):wpM m (fun a d'=>P a∧Q a d') E d:=by
 unfold wpM at *
 cases e:m d<;>rw [e] at h hp
 ·exact ⟨hp,h⟩
 ·exact h
noncomputable def Len {α:Type} (m:M' α) (P:α→Prop):Prop:=∀d,wpM m (fun a _=>P a) (fun _ _=>True) d
theorem Len.bind {α β:Type} {m:M' α} {f:α→M' β} {P:α→Prop} {R:β→Prop} (h:Len m P) (hf:∀a,P a→Len (f a) R):Len (bind' m f) R:=fun d=>by
 refine rwG wpM_bind ?_
 exact wpM_mono (h d) (fun a d' pa=>hf a pa d') fun _ _ _=>trivial
theorem Len.ret {α:Type} {a:α} {P:α→Prop} (h:P a):Len (ret' a) P:=fun _=>h
theorem Len.any {α:Type} (m:M' α):Len m fun _=>True:=fun d=>by unfold wpM;cases m d<;>trivial
theorem madeT_len {w x:Str} {ts:List Str} {B:Nat} (h:∀t∈ts,t.length≤B):(madeT w x ts).length≤w.length + x.length + 3 + ts.length * B + ts.length * 2:=by
 have h1:(Str.join (S_ ", ") ts).length≤_:=StrLaws.join_length_le (S_ ", ") ts
 have h2:=StrLaws.sumLen_le ts h
 have e:(Txt.join (S_ ", ") ts).length=(Str.join (S_ ", ") ts).length:=by
  unfold Txt.join
  rw [StrLaws.glued_eq_join]
 have s0:(S_ ", ").length=2:=rfl
 have s1:(S_ " ").length=1:=rfl
 have s2:(S_ "(").length=1:=rfl
 have s3:(S_ ")").length=1:=rfl
 rw [s0] at h1
 unfold madeT
 simp only [len_append]
 lia
theorem Len.made {w x:Str} {ts:List Str} {P:Str→Prop} (h:P (madeT w x ts)):Len (made w x ts) P:=Len.bind (Len.any _) fun _ _=>Len.ret h
noncomputable def TB:Nat→Nat
 | 0=>1000
 | d + 1=>4 * TB d
theorem TB_low:∀d,1000≤TB d
 | 0=>Nat.le_refl _
 | d + 1=>by have:=TB_low d;rw [TB];exact lin1 this (by simp +arith only)
theorem TB_mono:∀{a b:Nat},a≤b→TB a≤TB b
 | a,0,h=>by refine rwG (Nat.le_zero.mp h) ?_;exact Nat.le_refl _
 | a,b + 1,h=>by
  rcases Nat.lt_or_ge a (b + 1) with h' | h'
  ·have:=TB_mono (a:=a) (b:=b) (by exact Nat.le_of_lt_succ h')
   rw [TB];exact lin1 this (by simp +arith only)
  ·refine rwG (Nat.le_antisymm h h') ?_;exact Nat.le_refl _
mutual
theorem says_len {l:Laid} {ent:Body→M' Unit}:∀v:V,vsm v→Len (says l ent v) fun t=>t.length≤TB (vdepth v)
 | .lit i,h=>by
  rw [says]
  refine Len.ret ?_
  have:=(lst_ok (.cons (.int (by rw [vsm] at h;exact h)) .nil) (Nat.le_of_ble_eq_true rfl:[D.int i].length≤4)).2.2.2.2
  have e:(S_ "const").length=5:=rfl
  rewrite [len_append];refine rwG e ?_;rewrite [vdepth,TB]
  unfold shL
  exact lin1 this (by simp +arith only)
 | .obj k,h=>by
  rw [says]
  refine Len.ret ?_
  have:=(lst_ok (.cons (.int (by rw [vsm] at h;exact h)) (.cons (.str (x:=S_ "x#1") ⟨by decide,by decide⟩) .nil)) (Nat.le_of_ble_eq_true rfl:[D.int k,D.str (S_ "x#1")].length≤4)).2.2.2.2
  have e:(S_ "obj").length=3:=rfl
  rewrite [len_append];refine rwG e ?_;rewrite [vdepth,TB]
  unfold shL
  exact lin1 this (by simp +arith only)
 | .disp as ix,h=>by
  rw [vsm] at h
  rw [says]
  refine Len.bind (says_lens as h.2.2) fun ts ht=>Len.made ?_
  have h1:=madeT_len (w:=S_ "by tag "++iS ix) (x:=S_ "area") ht.2
  have h2:=iS_len h.1
  have e1:(S_ "by tag ").length=7:=rfl
  have e2:(S_ "area").length=4:=rfl
  rw [len_append,e1,e2,ht.1] at h1
  have h3:as.length * (TB (vdepths as) + 10)≤2 * (TB (vdepths as) + 10):=Nat.mul_le_mul_right _ h.2.1
  have h4:=TB_low (vdepths as)
  rw [vdepth,TB]
  lia
 | .call u s as,h=>by
  rw [vsm] at h
  rw [says]
  refine Len.bind (says_lens as h.2.2.2) fun ts ht=>Len.bind (Len.any _) fun b _=>Len.bind (P:=fun t=>t.length≤TB (vdepth (.call u s as))) (Len.made ?_) fun t q=>Len.bind (Len.any _) fun _ _=>Len.ret q
  have h1:=madeT_len (w:=S_ "call") (x:=s) ht.2
  have e1:(S_ "call").length=4:=rfl
  rw [e1,ht.1] at h1
  have h2:=h.2.1.1
  have h3:as.length * (TB (vdepths as) + 10)≤2 * (TB (vdepths as) + 10):=Nat.mul_le_mul_right _ h.2.2.1
  have h4:=TB_low (vdepths as)
  rw [vdepth,TB]
  lia
theorem says_lens {l:Laid} {ent:Body→M' Unit}:∀as:List V,vsms as→Len (saysAs l ent as) fun ts=>ts.length=as.length∧∀t∈ts,t.length≤TB (vdepths as) + 10
 | [],_=>by rw [saysAs];exact Len.ret ⟨rfl,fun _ h=>nomatch h⟩
 | a::as,h=>by
  rw [vsms] at h
  rw [saysAs]
  refine Len.bind (says_len a h.1) fun t ht=>Len.bind (P:=fun c=>c.length≤TB (vdepths (a::as)) + 10) (Len.made ?_) fun c hc=>Len.bind (says_lens as h.2) fun r hr=>Len.ret ⟨by simp [hr.1],fun y hy=>?_⟩
  ·have h1:=madeT_len (w:=S_ "copy") (x:=S_ "") (ts:=[t]) (B:=TB (vdepth a)) (by simpa using ht)
   have e1:(S_ "copy").length=4:=rfl
   have e2:(S_ "").length=0:=rfl
   have h2:=TB_mono (a:=vdepth a) (b:=vdepths (a::as)) (by rw [vdepths];exact Nat.le_max_left _ _)
   rw [e1,e2] at h1
   simp only [List.length_cons,List.length_nil] at h1
   exact lin2 h1 h2 (by simp +arith only)
  ·rcases List.mem_cons.mp hy with rfl | hy
   ·exact hc
   ·have h2:=TB_mono (a:=vdepths as) (b:=vdepths (a::as)) (by rw [vdepths];exact Nat.le_max_right _ _)
    have:=hr.2 y hy
    exact lin2 h2 this (by simp +arith only)
end
end Mine
end
section
open PySem PySem.W PySem.Calls PyProof.Rows
namespace Mine
set_option backward.match.sparseCases false
variable {G:Glob}
variable {n:Nat} {σ:Sto} {Q:D→Sto→Prop} {E:Exn→Sto→Prop}
noncomputable def Sub' (σ σ':Sto):Prop:=∀a x,σ a=some x→σ' a=some x
theorem Sub'.refl:Sub' σ σ:=fun _ _ e=>e
theorem Sub'.none {σ':Sto} (h:Sub' σ σ') {a:Addr} (e:σ' a=Option.none):σ a=Option.none:=by
 cases q:σ a with
 | none=>rfl
 | some x=>rw [h a x q] at e;cases e
theorem ExcAt.forget {φ:Fz} {σ':Sto} {held:Objs} {here:Option Addr} {x:Exn} {v:Value} {hp:Heap} (hs:Sub' σ σ') (h:ExcAt G φ σ' held here x v hp):ExcAt G φ σ held here x v hp:=h.to (fun _=>hs.none) fun _ h=>h
theorem WC.forget {f:D} {args:List D} (h:WC G n f args σ (fun d σ'=>∃σ'',Sub' σ'' σ'∧Q d σ'') (fun e σ'=>∃σ'',Sub' σ'' σ'∧E e σ'')):WC G n f args σ Q E:=fun A kept held hA φ s R fv vs V W=>by
 refine codeAny_mono (h A kept held hA φ s R fv vs V W) fun r s' z=>?_
 refine z.on (P:=fun r=>PostC G kept held φ Q E r s') (fun v φ' σ' d l C V' qq=>?_) fun e φ' σ' x l C X qq=>?_
 ·refine ex12 qq ?_;clear qq;intro σ'' hs q
  exact ⟨φ',σ'',d,l,C.forget hs,V',q⟩
 ·refine ex12 qq ?_;clear qq;intro σ'' hs q
  exact ⟨φ',σ'',x,l,C.forget hs,X.forget hs,q⟩
end Mine
end
section
open PySem PySem.W PySem.Calls PyProof.Rows
namespace Mine
variable {G:Glob}
variable {n:Nat} {σ:Sto} {Q:D→Sto→Prop} {E:Exn→Sto→Prop}
section
variable (l:Laid) (ent:Body→M' Unit)
noncomputable def sPlace (k:Int) (x:Str):Str:=S_ "place"++shL [.int k,.str x]
noncomputable def wher:P→M' Str
 | .y=>ret' (sPlace 0 (S_ "y#2"))
 | .r=>made (S_ "placecomp") (shT [.str (S_ "f")]) [sPlace 1 (S_ "r#3")]
 | .der v=>bind' (says l ent v) fun t=>made (S_ "placederef") (S_ "") [t]
noncomputable def act1:A→M' Str
 | .inn v=>bind' (says l ent v) fun t=>made (S_ "actual") (S_ "") [t]
 | .out _ p=>bind' (wher l ent p) fun t=>bind' (made (S_ "target") (S_ "") [t]) fun u=>made (S_ "actualout") (S_ "") [u]
noncomputable def acts:List A→M' (List Str)
 | []=>ret' []
 | a::as=>bind' (act1 l ent a) fun t=>bind' (acts as) fun r=>ret' (t::r)
noncomputable def goB:S→M' Bool
 | .pcall _ u s as=>bind' (found l s) fun b=>bind' (acts l ent as) fun ts=>bind' (made (S_ "call") s ts) fun _=>bind' (ent b) fun _=>ret' false
 | .pdisp _ as ix=>bind' (acts l ent as) fun ts=>bind' (made (S_ "by tag "++iS ix) (S_ "draw") ts) fun _=>ret' false
 | .asg _ v=>bind' (says l ent v) fun t=>bind' (wher l ent .y) fun p=>bind' (made (S_ "target") (S_ "") [p]) fun u=>bind' (made (S_ "store") (S_ "()") [t,u]) fun _=>ret' false
 | .ret _ none=>ret' true
 | .ret _ (some v)=>bind' (says l ent v) fun t=>bind' (made (S_ "result") (S_ "()") [t]) fun _=>ret' true
 | .null _=>ret' false
noncomputable def tStep (i:Int):Str:=S_ "step "++shT [.int i]
noncomputable def tLine (i:Int):Str:=S_ "line "++shT [.int i]
noncomputable def go1 (s:S):M' Bool:=bind' (tell (tStep (lineS s))) fun _=>goB l ent s
noncomputable def go:List S→M' Bool
 | []=>ret' false
 | s::ss=>bind' (go1 l ent s) fun b=>if b=true then ret' true else go ss
noncomputable def cellT:Str:=S_ "begincell['S']"
mutual
noncomputable def decB:Dc→M' Unit
 | .var _ x none=>bind' (made (S_ "firstcell") (shT [.str x]) [cellT]) fun _=>ret' ()
 | .var _ x (some v)=>bind' (says l ent v) fun t=>bind' (made (S_ "initcell") (shT [.str x]) [cellT,t]) fun _=>ret' ()
 | .ren _ x v=>bind' (wher l ent (.der v)) fun t=>bind' (made (S_ "layplace") (shT [.str x]) [t]) fun _=>ret' ()
 | .subt _=>tell (S_ "laysubtype ('t#4', 'S')")
 | .typ _=>tell (S_ "laytype ('T',)")
 | .exc _=>ret' ()
 | .pack _ a b c ss=>bind' (tell (S_ "pack ()")) fun _=>bind' (decs a) fun _=>bind' (decs b) fun _=>bind' (decs c) fun _=>bind' (tell (S_ "arm ")) fun _=>bind' (go l ent ss) fun _=>tell (S_ "endpack ()")
 | .sub _ _ _ _=>ret' ()
noncomputable def decs:List Dc→M' Unit
 | []=>ret' ()
 | d::ds=>bind' (tell (tLine (lineD d))) fun _=>bind' (decB d) fun _=>decs ds
end
end
noncomputable def entF (l:Laid):Nat→Body→M' Unit
 | 0,_=>ret' ()
 | f + 1,b=>bind' (decs l (entF l f) b.1) fun _=>bind' (tell (S_ "arm ")) fun _=>bind' (go l (entF l f) b.2) fun _=>tell (S_ "endsub 0")
noncomputable def lput:Laid→Str→Body→Laid
 | [],x,b=>[(x,b)]
 | (y,c)::r,x,b=>if y=x then (y,b)::r else (y,c)::lput r x b
noncomputable def tops (f:Nat):Laid→List Dc→M' Laid
 | l,[]=>ret' l
 | l,.sub i x ds ss::r=>bind' (tell (tLine i)) fun _=>bind' (tell (S_ "lay "++x)) fun _=>tops f (lput l x (ds,ss)) r
 | l,d::r=>bind' (tell (tLine (lineD d))) fun _=>bind' (decB l (entF l f) d) fun _=>tops f l r
noncomputable def program (f:Nat) (ds:List Dc) (main:Str):M' Unit:=
 bind' (tops f [] ds) fun l=>bind' (tell (S_ "arm ")) fun _=>bind' (tell (S_ "step (0,)")) fun _=>bind' (found l main) fun b=>bind' (made (S_ "call") main []) fun _=>bind' (entF l f b) fun _=>tell (S_ "endbody 0")
theorem bind'_assoc {α β γ:Type} {m:M' α} {f:α→M' β} {g:β→M' γ}:bind' (bind' m f) g=bind' m fun a=>bind' (f a) g:=by
 funext d
 unfold bind'
 cases m d<;>rfl
theorem decs_append {l:Laid} {ent:Body→M' Unit}:∀(as bs:List Dc),decs l ent (as++bs)=bind' (decs l ent as) fun _=>decs l ent bs
 | [],bs=>by rw [List.nil_append,decs];rfl
 | a::as,bs=>by (refine rwG List.cons_append ?_;rewrite [decs,decs];refine rwG bind'_assoc ?_);congr 1;funext _;refine rwG bind'_assoc ?_;congr 1;funext _;exact decs_append as bs
mutual
noncomputable def vall (Cl:Str→Prop):V→Prop
 | .lit _ | .obj _=>True
 | .disp as _=>valls Cl as
 | .call _ s as=>Cl s∧valls Cl as
noncomputable def valls (Cl:Str→Prop):List V→Prop
 | []=>True
 | a::as=>vall Cl a∧valls Cl as
end
noncomputable def vgood (Cl:Str→Prop) (v:V):Prop:=vdepth v≤2∧vsm v∧vall Cl v
noncomputable def pgood (Cl:Str→Prop):P→Prop
 | .y | .r=>True
 | .der v=>vgood Cl v
noncomputable def agood (Cl:Str→Prop):A→Prop
 | .inn v=>vgood Cl v
 | .out _ p=>pgood Cl p
noncomputable def sgood (Cl:Str→Prop):S→Prop
 | .pcall l u s as=>Sm l∧Sm u∧SmS s∧Cl s∧as.length≤2∧∀a∈as,agood Cl a
 | .pdisp l as ix=>Sm l∧Sm ix∧as.length≤2∧∀a∈as,agood Cl a
 | .asg l v=>Sm l∧vgood Cl v
 | .ret l none=>Sm l
 | .ret l (some v)=>Sm l∧vgood Cl v
 | .null l=>Sm l
noncomputable def noRet:S→Prop
 | .ret _ _=>False
 | _=>True
noncomputable def dgood (Cl:Str→Prop):Nat→Dc→Prop
 | _,.var l x none=>Sm l∧SmS x
 | _,.var l x (some v)=>Sm l∧SmS x∧vgood Cl v
 | _,.ren l x v=>Sm l∧SmS x∧vgood Cl v
 | _,.subt l | _,.typ l | _,.exc l=>Sm l
 | k + 1,.pack l a b c ss=>Sm l∧(∀d∈a++b++c,dgood Cl k d)∧(∀s∈ss,sgood Cl s∧noRet s)∧(a++b++c).length≤6∧ss.length≤2
 | 0,.pack _ _ _ _ _=>False
 | _,.sub _ _ _ _=>False
theorem valls_mem {Cl:Str→Prop}:∀{as:List V},valls Cl as→∀a∈as,vall Cl a
 | [],_,_,h=>nomatch h
 | b::as,h,a,ha=>by
  rw [valls] at h
  rcases List.mem_cons.mp ha with rfl | ha
  ·exact h.1
  ·exact valls_mem h.2 a ha
theorem vsms_mem:∀{as:List V},vsms as→∀a∈as,vsm a
 | [],_,_,h=>nomatch h
 | b::as,h,a,ha=>by
  rw [vsms] at h
  rcases List.mem_cons.mp ha with rfl | ha
  ·exact h.1
  ·exact vsms_mem h.2 a ha
theorem says_len2 {l:Laid} {ent:Body→M' Unit} {Cl:Str→Prop} {v:V} (h:vgood Cl v):Len (says l ent v) fun t=>t.length≤16000:=fun d=>
 wpM_mono (says_len v h.2.1 d) (fun _ _ q=>Nat.le_trans q (TB_mono (b:=2) h.1)) fun _ _ x=>x
theorem sPlace_len {k:Int} {x:Str} (hk:Sm k) (hx:SmS x):(sPlace k x).length≤1000:=by
 have:=(lst_ok (.cons (.int hk) (.cons (.str hx) .nil)) (Nat.le_of_ble_eq_true rfl:[D.int k,D.str x].length≤4)).2.2.2.2
 have e:(S_ "place").length=5:=rfl
 unfold sPlace shL
 rewrite [len_append];refine rwG e ?_
 exact lin1 this (by simp +arith only)
theorem sm_lit (i:Nat) (h:i < 1000:=by decide):Sm (i:Int):=⟨by lia,by exact Int.ofNat_lt.mpr h⟩
theorem sms_y:SmS (S_ "y#2"):=⟨by decide,by decide⟩
theorem sms_r:SmS (S_ "r#3"):=⟨by decide,by decide⟩
theorem sms_f:SmS (S_ "f"):=⟨by decide,by decide⟩
theorem wher_len {l:Laid} {ent:Body→M' Unit} {Cl:Str→Prop} {p:P} (h:pgood Cl p):Len (wher l ent p) fun t=>t.length≤16100:=by
 cases p with
 | y=>
  rw [wher]
  exact Len.ret (Nat.le_trans (sPlace_len (sm_lit 0) sms_y) (by decide))
 | r=>
  rw [wher]
  refine Len.made ?_
  have h1:=sPlace_len (sm_lit 1) sms_r
  have h2:=madeT_len (w:=S_ "placecomp") (x:=shT [.str (S_ "f")]) (ts:=[sPlace 1 (S_ "r#3")]) (B:=1000) (by simpa using h1)
  have h3:(shT [.str (S_ "f")]).length≤900:=(tup_ok (.cons (.str sms_f) .nil) (Nat.le_of_ble_eq_true rfl:[D.str (S_ "f")].length≤4)).2.2.2.2
  have e1:(S_ "placecomp").length=9:=rfl
  rw [e1] at h2
  simp only [List.length_cons,List.length_nil] at h2
  exact lin2 h2 h3 (by simp +arith only)
 | der v=>
  rw [wher]
  refine Len.bind (says_len2 h) fun t ht=>Len.made ?_
  have h2:=madeT_len (w:=S_ "placederef") (x:=S_ "") (ts:=[t]) (B:=16000) (by simpa using ht)
  have e1:(S_ "placederef").length=10:=rfl
  have e2:(S_ "").length=0:=rfl
  rw [e1,e2] at h2
  simp only [List.length_cons,List.length_nil] at h2
  exact Nat.le_trans h2 (Nat.le_of_ble_eq_true rfl)
theorem made1_len {w:Str} {t:Str} {B:Nat} (hw:w.length≤20) (ht:t.length≤B):Len (made w (S_ "") [t]) fun c=>c.length≤B + 30:=by
 refine Len.made ?_
 have h2:=madeT_len (w:=w) (x:=S_ "") (ts:=[t]) (B:=B) (by simpa using ht)
 have e2:(S_ "").length=0:=rfl
 rw [e2] at h2
 simp only [List.length_cons,List.length_nil] at h2
 exact lin2 hw h2 (by simp +arith only)
theorem act1_len {l:Laid} {ent:Body→M' Unit} {Cl:Str→Prop} {a:A} (h:agood Cl a):Len (act1 l ent a) fun t=>t.length≤17000:=by
 cases a with
 | inn v=>
  rw [act1]
  exact Len.bind (says_len2 h) fun t ht d=>wpM_mono (made1_len (by decide) ht d) (fun _ _ q=>Nat.le_trans q (by decide)) fun _ _ x=>x
 | out b p=>
  rw [act1]
  exact Len.bind (wher_len h) fun t ht=>Len.bind (made1_len (by decide) ht) fun u hu d=>wpM_mono (made1_len (by decide) hu d) (fun _ _ q=>Nat.le_trans q (by decide)) fun _ _ x=>x
theorem bput_none {a:BA} {d:Dd} {es:List (Str×D)} {x:Addr} (h:bput σ a d es x=none):x≠a.b∧x≠a.dl∧x≠a.ld∧σ x=none:=by
 unfold bput at h
 by_cases h1:x=a.b
 ·rw [if_pos h1] at h;cases h
 ·rw [if_neg h1] at h
  by_cases h2:x=a.dl
  ·rw [if_pos h2] at h;cases h
  ·rw [if_neg h2] at h
   by_cases h3:x=a.ld
   ·rw [if_pos h3] at h;cases h
   ·rw [if_neg h3] at h;exact ⟨h1,h2,h3,h⟩
theorem sub_bput {σ σ':Sto} {a:BA} {d:Dd} {es:List (Str×D)} (h:Sub' σ σ'):Sub' (bput σ a d es) (bput σ' a d es):=fun b x hb=>by
 unfold Mine.bput at *
 by_cases h1:b=a.b
 ·rw [if_pos h1] at hb ⊢;exact hb
 ·rw [if_neg h1] at hb ⊢
  by_cases h2:b=a.dl
  ·rw [if_pos h2] at hb ⊢;exact hb
  ·rw [if_neg h2] at hb ⊢
   by_cases h3:b=a.ld
   ·rw [if_pos h3] at hb ⊢;exact hb
   ·rw [if_neg h3] at hb ⊢;exact h b x hb
theorem sub_set {x:Addr} {o:AObj} (h:σ x=none):Sub' σ (σ.set x o):=Sto.le_set h
theorem bput_beside {a:BA} {d:Dd} {es:List (Str×D)} {x:Addr} {o:AObj} (h:x≠a.b∧x≠a.dl∧x≠a.ld∧σ x=none):bput (σ.set x o) a d es x=some o:=by
 unfold bput
 refine rwG (if_neg h.1) ?_;refine rwG (if_neg h.2.1) ?_;refine rwG (if_neg h.2.2.1) ?_
 exact Sto.at_set
theorem bput_beside_set {a:BA} {d:Dd} {es:List (Str×D)} {x:Addr} {o o':AObj} (h:x≠a.b∧x≠a.dl∧x≠a.ld∧σ x=none):(bput (σ.set x o) a d es).set x o'=bput (σ.set x o') a d es:=by
 refine rwG (bput_put h.1 h.2.1 h.2.2.1) ?_;refine rwG Sto.set_set ?_;rfl
section
variable {k:Sk} {Γ:Loc}
noncomputable def words:List D→Option (List Str)
 | []=>some []
 | .str x::r=>(words r).map (x::·)
 | _=>none
noncomputable def among (x:Str) (ds:List D):Option Bool:=if PyData.canLay0 (.str x)=true then (words ds).bind fun l=>if (l.all fun y=>PyData.canLay0 (.str y))=true then some (l.any fun y=>y==x) else none else none
theorem CmpR.amg {x:Str} {ds:List D} {b:Bool} (h:among x ds=some b):CmpR σ .In (.str x) (.tup ds) b:=by
 unfold among at h
 split at h
 case isFalse=>cases h
 rename_i hx
 refine ex12 (Option.bind_eq_some_iff.mp h) ?_;intro l hl h
 split at h
 case isFalse=>cases h
 rename_i hall
 cases h
 have:∀{ds:List D} {l:List Str},words ds=some l→(l.all fun y=>PyData.canLay0 (.str y))=true→pyDs ds=some (l.map .str)∧PyData.canLayAll0 (l.map .str)=true∧((l.map PyData.str).any fun y=>PyData.eqv y (.str x))=l.any fun y=>y==x:=by
  intro ds
  induction ds with
  | nil=>intro l e _;rw [words] at e;cases e;exact ⟨by rw [pyDs];rfl,rfl,rfl⟩
  | cons d r ih=>
   intro l e k
   cases d with
   | str y=>
    rw [words] at e
    refine ex12 (Option.map_eq_some_iff.mp e) ?_;rintro l' hl' rfl
    rw [List.all_cons,Bool.and_eq_true] at k
    refine ex03 (ih hl' k.2) ?_;intro a b c
    refine ⟨by (rewrite [pyDs,pyD];refine rwG a ?_);rfl,?_,?_⟩
    ·(refine rwG List.map_cons ?_;rewrite [PyData.canLayAll0];refine rwG b ?_;refine rwG k.1 ?_);rfl
    ·refine rwG List.map_cons ?_;refine rwG List.any_cons ?_;refine rwG List.any_cons ?_;refine rwG c ?_
     have:PyData.eqv (.str y) (.str x)=(y==x):=by rw [PyData.eqv]
     refine rwG this ?_;rfl
   | _=>exact absurd e (by trivial)
 refine ex03 (this hl hall) ?_;intro a b c
 have:=CmpR.inT (σ:=σ) (d:=.str x) (ds:=ds) (p:=.str x) (by rw [pyD]) a b hx (by rw [PyData.depth];lia)
 rw [c] at this
 exact this
end
end Mine
end
section
open PySem PySem.W PySem.Calls PyProof.Rows
namespace Mine
set_option backward.match.sparseCases false
variable {G:Glob}
variable {n:Nat} {σ:Sto} {Q:D→Sto→Prop} {E:Exn→Sto→Prop}
noncomputable abbrev fW:Str→Body→D:=fun x b=>encSub x b.1 b.2
noncomputable def EntC (G:Glob) (l:Laid) (ent:Body→M' Unit) (m:Nat) (b:Body):Prop:=∀(x:Str) (n:Nat) (σ:Sto) (Q:D→Sto→Prop) (E:Exn→Sto→Prop) (a:BA) (d:Dd),BOk a→n + m < 900→
 wpM (ent b) (fun _ d'=>Q .none (bput σ a d' (layD fW l))) (fun e d'=>E e (bput σ a d' (layD fW l))) d→WC G n (.fn 106 0) [.ref a.b,fW x b] (bput σ a d (layD fW l)) Q E
noncomputable def Ents (G:Glob) (l:Laid) (ent:Body→M' Unit) (m:Nat) (s:Str):Prop:=∀b,l.lookup s=some b→EntC G l ent m b
noncomputable def SaysOk (G:Glob) (l:Laid) (ent:Body→M' Unit) (m k:Nat):Prop:=∀v,vdepth v≤k→k≤2→vsm v→vall (Ents G l ent m) v→∀(n:Nat) (σ:Sto) (Q:D→Sto→Prop) (E:Exn→Sto→Prop) (a:BA) (d:Dd),BOk a→n + k + 2 + m < 900→
 wpM (says l ent v) (fun t d'=>Q (.str t) (bput σ a d' (layD fW l))) (fun e d'=>E e (bput σ a d' (layD fW l))) d→WC G n (.fn 101 0) [.ref a.b,encV v] (bput σ a d (layD fW l)) Q E
theorem dd {n x y z a b:Nat} (k:Nat) (h:n + x + y + z < a) (e:Nat.ble (a + k) b=true:=by rfl):n + k < b:=dz k (Nat.lt_of_le_of_lt (Nat.le_add_right _ z) h) e
theorem c_lit (hn:n < 950) {a:BA} {d:Dd} {es:List (Str×D)} {i:Int} (hi:Sm i) (h:Q (.str (S_ "const"++shL [.int i])) (bput σ a d es)):WC G n (.fn 101 0) [.ref a.b,encV (.lit i)] (bput σ a d es) Q E:=by
 rw [encV]
 refine WC.fnV k101 (dn' 2 hn) ?_
 refine Vm.at rfl ?_
 refine Vm.eqT (by decide) ?_
 refine Vm.at rfl ?_
 refine Vm.blt (CallB.strLst (.cons (.int hi) .nil) (Nat.le_of_ble_eq_true rfl) (dn' 1 hn) fun hl=>?_)
 exact Vm.bin (.addS (sl (Nat.add_le_add_left hl 5))) h
theorem c_objV (hn:n < 950) {a:BA} {d:Dd} {es:List (Str×D)} {i:Int} (hi:Sm i) (h:Q (.str (S_ "obj"++shL [.int i,.str (S_ "x#1")])) (bput σ a d es)):WC G n (.fn 101 0) [.ref a.b,encV (.obj i)] (bput σ a d es) Q E:=by
 rw [encV]
 refine WC.fnV k101 (dn' 2 hn) ?_
 refine Vm.at rfl ?_
 refine Vm.eqF (by decide) ?_
 refine Vm.eqT (by decide) ?_
 refine Vm.slc .int .none .none ?_
 refine Vm.sub (.tupF (n:=2) (by decide) (Nat.le_of_ble_eq_true rfl) (sl (c:=4) (Nat.le_refl _))) ?_
 refine Vm.blt (CallB.list .tup (sl (c:=2) (Nat.le_refl _)) fun z hz=>?_)
 refine Vm.fz (.L Sto.at_set) ?_
 refine rwG (Sto.del_set hz) ?_
 refine Vm.blt (CallB.strLst (.cons (.int hi) (.cons (.str ⟨by decide,by decide⟩) .nil)) (Nat.le_of_ble_eq_true rfl) (dn' 1 hn) fun hl=>?_)
 exact Vm.bin (.addS (sl (Nat.add_le_add_left hl 3))) h
noncomputable abbrev B101:R:=.cons (.expr (.me1 0 (.v 4) (.dfn (S_ "_law_made") 97 (.cons (.v 0) (.cons (.cs (S_ "copy")) (.cons (.cs (S_ "")) (.cons (.lstF (.cons (.dfn (S_ "_law_says") 101 (.cons (.v 0) (.cons (.v 6) .nil))) .nil)) .nil))))))) .nil
theorem short_one {t:Str} (h:t.length≤65536):Short [t]:=⟨Nat.le_of_ble_eq_true rfl,fun y hy=>by refine rwG (List.mem_singleton.mp hy) ?_;exact h⟩
inductive SaysJ (σ:Sto) (x:Addr) (a:BA) (l:Laid) (ent:Body→M' Unit) (as:List V) (F:List Str→Dd→Prop) (Err:Exn→Dd→Prop) (done:List V) (σ':Sto):Prop
 | mk (ts:List Str) (d':Dd):σ'=bput (σ.set x (.list (ts.map .str))) a d' (layD fW l)→ts.length=done.length→(∀t∈ts,t.length≤2 ^ 16)→wpM (saysAs l ent (as.drop done.length)) (fun r d''=>F (ts++r) d'') Err d'→SaysJ σ x a l ent as F Err done σ'
inductive WpJ (σ:Sto) (a:BA) (l:Laid) {α:Type} (m:M' α) (P:α→Dd→Prop) (Err:Exn→Dd→Prop) (σ':Sto):Prop
 | mk (d':Dd):σ'=bput σ a d' (layD fW l)→wpM m P Err d'→WpJ σ a l m P Err σ'
theorem says_loop {l:Laid} {ent:Body→M' Unit} {m k:Nat} (ih:SaysOk G l ent m k) (hk:k≤2) {as:List V} (hd:vdepths as≤k) (hs:vsms as) (hl:as.length≤2) (hv:valls (Ents G l ent m) as) {a:BA} (ok:BOk a) {d:Dd} {x:Addr} {W N:D}
  {F:List Str→Dd→Prop} {Err:Exn→Dd→Prop} (hn:n + k + 3 + m < 900) (hx:x≠a.b∧x≠a.dl∧x≠a.ld∧σ x=none)
  {C:Vc} (hC:C.k.n=n + 1) {K:List Fr} {st:List D} {Γ:Ix} (hΓ:pickI [4,3,2,0,1] Γ=[(4,.ref x),(3,.lst (encVs as)),(2,W),(0,.ref a.b),(1,N)])
  (h:wpM (saysAs l ent as) F Err d)
  (hE:∀e d' ts,Err e d'→C.E e (bput (σ.set x (.list ts)) a d' (layD fW l)))
  (hF:∀ts d',ts.length=as.length→(∀t∈ts,t.length≤2 ^ 16)→F ts d'→Ks G C K st [(4,.ref x),(3,.lst (encVs as)),(2,W),(0,.ref a.b),(1,N)] (bput (σ.set x (.list (ts.map .str))) a d' (layD fW l))):
  Vm G C ⟨.forT [5,6] B101::K,.lst (encVs as)::st,Γ⟩ (bput (σ.set x (.list [])) a d (layD fW l)):=by
 refine Vm.forT (fun v=>D.tup [.str (S_ "in"),encV v]) (fun v=>[.str (S_ "in"),encV v]) as [4,3,2,0,1] (fun _=>[(4,.ref x),(3,.lst (encVs as)),(2,W),(0,.ref a.b),(1,N)])
  (SaysJ σ x a l ent as F Err)
  (fun _=>⟨rfl,rfl⟩) (by rw [encVs_map];exact .lst) hΓ ⟨[],d,rfl,rfl,(fun _ h=>nomatch h),h⟩ (fun done v rest σ₀ e q=>?_) fun σ₀ q=>?_
 ·obtain ⟨ts,d',rfl,hlen,hts,q⟩:=q
  have hm:v∈as:=by refine rwG e ?_;exact List.mem_append_right _ (.head _)
  rw [drop_here e,saysAs,wpM_bind] at q
  have hvd:=vdepths_mem hd v hm
  have q:=wpM_and q (says_len (l:=l) (ent:=ent) v (vsms_mem hs v hm) d')
  have hn2:n + 1 + k + 2 + m < 900:=by exact lin1 hn (by simp +arith only)
  refine Vm.isT (.lst (bput_beside hx)) ?_
  refine Vm.fn (ih v hvd hk (vsms_mem hs v hm) (valls_mem hv v hm) C.k.n _ _ _ a d' ok (by refine rwG hC ?_;exact hn2) (wpM_mono q (fun t d₁ q=>?_) (fun e d₁ q=>hE e d₁ _ q)))
  have ht:t.length≤16000:=Nat.le_trans q.1 (TB_mono (b:=2) (Nat.le_trans hvd hk))
  have q:=q.2
  rw [wpM_bind] at q
  have q:=wpM_and q (made1_len (w:=S_ "copy") (by decide) ht d₁)
  refine Vm.fn (c_made (ts:=[t]) (by refine (?_:C.k.n < _);refine rwG hC ?_;exact Nat.lt_of_lt_of_le (Nat.lt_of_le_of_lt (Nat.le_trans (Nat.le_add_right _ k) (Nat.le_trans (Nat.le_add_right _ 2) (Nat.le_add_right _ m))) hn2) (by decide)) ok (by decide) (by decide) (short_one (Nat.le_trans ht (by decide))) .lst (wpM_mono q (fun c d₂ q=>?_) (fun e d₁ q=>hE e d₁ _ q)))
  have hc:=q.1
  have q:=q.2
  rw [wpM_bind] at q
  have hle:ts.length≤2:=by refine rwG hlen ?_;rw [e,List.length_append] at hl;exact Nat.le_trans (Nat.le_add_right _ _) hl
  refine Vm.met (CallB.append (bput_beside hx) (by rw [List.length_map];exact sl hle) ?_)
  refine rwG (bput_beside_set hx) ?_
  refine ⟨rfl,ts++[c],d₂,by refine rwG List.map_append ?_;rfl,by (refine rwG List.length_append ?_;refine rwG List.length_append ?_;refine rwG hlen ?_);rfl,fun y hy=>?_,?_⟩
  ·rcases List.mem_append.mp hy with hy | hy
   ·exact hts y hy
   ·refine rwG (List.mem_singleton.mp hy) ?_;exact Nat.le_trans hc (by decide)
  ·refine rwG (drop_snoc e) ?_
   refine wpM_mono q (fun r d₃ q=>?_) fun _ _ x=>x
   have q:F (ts++(c::r)) d₃:=q
   rw [List.append_assoc];exact q
 ·obtain ⟨ts,d',rfl,hlen,hts,q⟩:=q
  rw [List.drop_length,saysAs] at q
  have q:F (ts++[]) d':=q
  rw [List.append_nil] at q
  exact hF ts d' hlen hts q
theorem out_of {a:BA} {es:List (Str×D)} {x:Addr} {o:AObj} (hx:x≠a.b∧x≠a.dl∧x≠a.ld∧σ x=none) {e:Exn} {d':Dd} (q:E e (bput σ a d' es)):∃σ'',Sub' σ'' (bput (σ.set x o) a d' es)∧E e σ'':=
 ⟨_,sub_bput (sub_set hx.2.2.2),q⟩
theorem out_ofQ {a:BA} {es:List (Str×D)} {x:Addr} {o:AObj} (hx:x≠a.b∧x≠a.dl∧x≠a.ld∧σ x=none) {r:D} {d':Dd} (q:Q r (bput σ a d' es)):∃σ'',Sub' σ'' (bput (σ.set x o) a d' es)∧Q r σ'':=
 ⟨_,sub_bput (sub_set hx.2.2.2),q⟩
theorem c_disp {l:Laid} {ent:Body→M' Unit} {m k:Nat} (ih:SaysOk G l ent m k) (hk:k≤2) {as:List V} {ix:Int} (hd:vdepths as≤k) (hs:vsm (.disp as ix)) (hv:valls (Ents G l ent m) as) {a:BA} (ok:BOk a) {d:Dd}
  (hn:n + k + 3 + m < 900) (h:wpM (says l ent (.disp as ix)) (fun t d'=>Q (.str t) (bput σ a d' (layD fW l))) (fun e d'=>E e (bput σ a d' (layD fW l))) d):WC G n (.fn 101 0) [.ref a.b,encV (.disp as ix)] (bput σ a d (layD fW l)) Q E:=by
 rw [says,wpM_bind] at h
 rw [vsm] at hs
 refine WC.forget ?_
 rw [encV]
 refine WC.fnV k101 (Nat.le_of_lt (dd 2 hn)) ?_
 refine Vm.at rfl ?_
 refine Vm.eqF (by decide) ?_
 refine Vm.eqF (by decide) ?_
 refine Vm.eqF (by decide) ?_
 refine Vm.at rfl ?_
 refine Vm.lstN fun x hx0=>?_
 have hx:=bput_none hx0
 refine rwG (bput_put hx.1 hx.2.1 hx.2.2.1) ?_
 refine says_loop ih hk hd hs.2.2 hs.2.1 hv ok hn hx rfl rfl h (fun e d' ts q=>out_of hx q) (fun ts d' hlen hts q=>?_)
 refine Vm.eqT (by decide) ?_
 refine Vm.at rfl ?_
 refine Vm.blt (CallB.strI (Sm.log hs.1) ?_)
 have hil:(iS ix).length≤8:=iS_len hs.1
 refine Vm.bin (.addS (sl (Nat.add_le_add_left hil 7))) ?_
 refine Vm.at rfl ?_
 refine Vm.fn (c_made (dd 1 hn) ok (by rw [len_append];exact Nat.le_trans (Nat.add_le_add_left hil 7) (by decide)) (by decide) ⟨by refine rwG hlen ?_;exact Nat.le_trans hs.2.1 (by decide),hts⟩ (.ref (bput_beside hx)) (wpM_mono q (fun t d₁ q=>?_) fun e d₁ q=>out_of hx q))
 exact out_ofQ hx q
theorem c_callV {l:Laid} {ent:Body→M' Unit} {m k:Nat} (ih:SaysOk G l ent m k) (hk:k≤2) {as:List V} {u:Int} {s:Str} (hd:vdepths as≤k) (hs:vsm (.call u s as)) (he:Ents G l ent m s) (hv:valls (Ents G l ent m) as) {a:BA} (ok:BOk a) {d:Dd}
  (hn:n + k + 3 + m < 900) (h:wpM (says l ent (.call u s as)) (fun t d'=>Q (.str t) (bput σ a d' (layD fW l))) (fun e d'=>E e (bput σ a d' (layD fW l))) d):WC G n (.fn 101 0) [.ref a.b,encV (.call u s as)] (bput σ a d (layD fW l)) Q E:=by
 rw [says,wpM_bind] at h
 rw [vsm] at hs
 refine WC.forget ?_
 rw [encV]
 refine WC.fnV k101 (Nat.le_of_lt (dd 2 hn)) ?_
 refine Vm.at rfl ?_
 refine Vm.eqF (by decide) ?_
 refine Vm.eqF (by decide) ?_
 refine Vm.eqT (by decide) ?_
 refine Vm.at rfl ?_
 refine Vm.lstN fun x hx0=>?_
 have hx:=bput_none hx0
 refine rwG (bput_put hx.1 hx.2.1 hx.2.2.1) ?_
 refine says_loop ih hk hd hs.2.2.2 hs.2.2.1 hv ok hn hx rfl rfl h (fun e d' ts q=>out_of hx q) (fun ts d' hlen hts q=>?_)
 rw [wpM_bind] at q
 have hsl:s.length≤1000:=Nat.le_trans hs.2.1.1 (by decide)
 have q:=wpM_and q (P:=fun b=>l.lookup s=some b) (F:=fun _ _=>True) (by
  unfold found
  refine rwG wpM_bind ?_
  unfold wpM tell look
  split
  ·rename_i e
   split at e
   ·cases e
   ·cases e
    cases hb:l.lookup s<;>trivial
  ·trivial)
 refine Vm.eqF (by decide) ?_
 refine Vm.at rfl ?_
 refine Vm.fn (c_found (f:=fW) (dd 1 hn) ok hsl (wpM_mono q (fun b d₁ q=>?_) fun e d₁ q=>out_of hx q))
 have hb:=q.1
 have q:=q.2
 rw [wpM_bind] at q
 refine Vm.at rfl ?_
 refine Vm.fn (c_made (dd 1 hn) ok (by decide) hsl ⟨by refine rwG hlen ?_;exact Nat.le_trans hs.2.2.1 (by decide),hts⟩ (.ref (bput_beside hx)) (wpM_mono q (fun t d₁ q=>?_) fun e d₁ q=>out_of hx q))
 rw [wpM_bind] at q
 refine Vm.fn (he b hb s (n + 1) _ _ _ a d₁ ok (by exact lin1 hn (by simp +arith only)) (wpM_mono q (fun _ d₂ q=>?_) fun e d₁ q=>out_of hx q))
 exact out_ofQ hx q
theorem c_says {l:Laid} {ent:Body→M' Unit} {m:Nat}:∀k,SaysOk G l ent m k
 | k,.lit i,hd,hk,hs,hv,n,σ,Q,E,a,d,ok,hn,h=>by
  rw [vsm] at hs
  rw [says] at h
  exact c_lit (by exact lin1 hn (by simp +arith only)) hs h
 | k,.obj i,hd,hk,hs,hv,n,σ,Q,E,a,d,ok,hn,h=>by
  rw [vsm] at hs
  rw [says] at h
  exact c_objV (by exact lin1 hn (by simp +arith only)) hs h
 | 0,.disp as ix,hd,hk,hs,hv,n,σ,Q,E,a,d,ok,hn,h=>by rw [vdepth] at hd;lia
 | k + 1,.disp as ix,hd,hk,hs,hv,n,σ,Q,E,a,d,ok,hn,h=>by
  rw [vdepth] at hd
  rw [vall] at hv
  exact c_disp (c_says k) (by exact Nat.le_of_lt hk) (by exact Nat.le_of_lt_succ hd) hs hv ok (by exact hn) h
 | 0,.call u s as,hd,hk,hs,hv,n,σ,Q,E,a,d,ok,hn,h=>by rw [vdepth] at hd;lia
 | k + 1,.call u s as,hd,hk,hs,hv,n,σ,Q,E,a,d,ok,hn,h=>by
  rw [vdepth] at hd
  rw [vall] at hv
  exact c_callV (c_says k) (by exact Nat.le_of_lt hk) (by exact Nat.le_of_lt_succ hd) hs hv.1 hv.2 ok (by exact hn) h
theorem c_saysV {l:Laid} {ent:Body→M' Unit} {m:Nat} {v:V} (hv:vgood (Ents G l ent m) v) {a:BA} (ok:BOk a) {d:Dd} (hn:n + m + 4 < 900)
  (h:wpM (says l ent v) (fun t d'=>t.length≤16000→Q (.str t) (bput σ a d' (layD fW l))) (fun e d'=>E e (bput σ a d' (layD fW l))) d):WC G n (.fn 101 0) [.ref a.b,encV v] (bput σ a d (layD fW l)) Q E:=
 c_says 2 v hv.1 (by decide) hv.2.1 hv.2.2 n σ Q E a d ok (by exact lin1 hn (by simp +arith only)) (wpM_mono (wpM_and h (says_len2 hv d)) (fun _ _ ⟨a,b⟩=>b a) fun _ _ x=>x)
end Mine
end
section
open PySem PySem.W PySem.Calls PyProof.Rows
namespace Mine
set_option backward.match.sparseCases false
variable {G:Glob}
variable {n:Nat} {σ:Sto} {Q:D→Sto→Prop} {E:Exn→Sto→Prop}
theorem c_where_o (hn:n < 950) {a:BA} {d:Dd} {es:List (Str×D)} {i:Int} {x:Str} (hi:Sm i) (hx:SmS x) (h:Q (.str (sPlace i x)) (bput σ a d es)):WC G n (.fn 102 0) [.ref a.b,.tup [.str (S_ "obj"),.int 0,.int i,.str x]] (bput σ a d es) Q E:=by
 refine WC.fnV k102 (dn' 2 hn) ?_
 refine Vm.at rfl ?_
 refine Vm.eqT (by decide) ?_
 refine Vm.slc .int .none .none ?_
 refine Vm.sub (.tupF (n:=2) (by decide) (Nat.le_of_ble_eq_true rfl) (sl (c:=4) (Nat.le_refl _))) ?_
 refine Vm.blt (CallB.list .tup (sl (c:=2) (Nat.le_refl _)) fun z hz=>?_)
 refine Vm.fz (.L Sto.at_set) ?_
 refine rwG (Sto.del_set hz) ?_
 refine Vm.blt (CallB.strLst (.cons (.int hi) (.cons (.str hx) .nil)) (Nat.le_of_ble_eq_true rfl) (dn' 1 hn) fun hl=>?_)
 exact Vm.bin (.addS (sl (Nat.add_le_add_left hl 5))) h
theorem c_where {l:Laid} {ent:Body→M' Unit} {m:Nat} {p:P} (hp:pgood (Ents G l ent m) p) {a:BA} (ok:BOk a) {d:Dd} (hn:n + m + 5 < 900)
  (h:wpM (wher l ent p) (fun t d'=>t.length≤16100→Q (.str t) (bput σ a d' (layD fW l))) (fun e d'=>E e (bput σ a d' (layD fW l))) d):WC G n (.fn 102 0) [.ref a.b,encP p] (bput σ a d (layD fW l)) Q E:=by
 have h:=wpM_mono (wpM_and h (wher_len hp d)) (fun _ _ q=>q.2 q.1) fun _ _ x=>x
 cases p with
 | y=>
  rw [encP]
  exact c_where_o (dz 0 hn) (sm_lit 0) sms_y h
 | r=>
  rw [encP]
  refine WC.fnV k102 (dz' 2 hn) ?_
  refine Vm.at rfl ?_
  refine Vm.eqF (by decide) ?_
  refine Vm.at rfl ?_
  refine Vm.eqT (by decide) ?_
  refine Vm.at rfl ?_
  refine Vm.blt (CallB.strTup (.cons (.str sms_f) .nil) (Nat.le_of_ble_eq_true rfl) (dz' 1 hn) fun hl=>?_)
  refine Vm.at rfl ?_
  refine Vm.fn (c_where_o (dz 1 hn) (sm_lit 1) sms_r ?_)
  exact Vm.fn (c_made (ts:=[sPlace 1 (S_ "r#3")]) (dz 1 hn) ok (by decide) (Nat.le_trans hl (by decide)) (short_one (Nat.le_trans (sPlace_len (sm_lit 1) sms_r) (by decide))) .lst (wpM_mono h (fun t d₁ q=>q) fun e d₁ q=>q))
 | der v=>
  rw [encP]
  refine WC.fnV k102 (dz' 2 hn) ?_
  refine Vm.at rfl ?_
  refine Vm.eqF (by decide) ?_
  refine Vm.at rfl ?_
  refine Vm.eqF (by decide) ?_
  refine Vm.at rfl ?_
  refine Vm.fn (c_saysV hp ok (by refine (?_:n + 1 + m + 4 < 900);exact dm _ hn) (wpM_mono (wpB h) (fun t d₁ q ht=>?_) fun e d₁ q=>q))
  exact Vm.fn (c_made (ts:=[t]) (dz 1 hn) ok (by decide) (by decide) (short_one (Nat.le_trans ht (by decide))) .lst (wpM_mono q (fun t d₁ q=>q) fun e d₁ q=>q))
theorem bput_beside_del {a:BA} {d:Dd} {es:List (Str×D)} {x:Addr} {o:AObj} (h:x≠a.b∧x≠a.dl∧x≠a.ld∧σ x=none):(bput (σ.set x o) a d es).del x=bput σ a d es:=by
 funext b;unfold bput Sto.del Sto.set
 by_cases e:b=x
 ·subst e;(refine rwG (if_pos rfl) ?_;refine rwG (if_neg h.1) ?_;refine rwG (if_neg h.2.1) ?_;refine rwG (if_neg h.2.2.1) ?_;refine rwG h.2.2.2 ?_;rfl)
 ·simp only [if_neg e]
inductive ActsJ (σ:Sto) (x:Addr) (a:BA) (l:Laid) (ent:Body→M' Unit) (as:List A) (P:List Str→Dd→Prop) (Err:Exn→Dd→Prop) (done:List A) (σ':Sto):Prop
 | mk (ts:List Str) (d':Dd):σ'=bput (σ.set x (.list (ts.map .str))) a d' (layD fW l)→ts.length=done.length→(∀t∈ts,t.length≤2 ^ 16)→
   wpM (acts l ent (as.drop done.length)) (fun r d''=>(ts++r).length=as.length→(∀t∈ts++r,t.length≤2 ^ 16)→P (ts++r) d'') Err d'→ActsJ σ x a l ent as P Err done σ'
theorem c_acts {l:Laid} {ent:Body→M' Unit} {m:Nat} {as:List A} (hl:as.length≤2) (ha:∀a∈as,agood (Ents G l ent m) a) {a:BA} (ok:BOk a) {d:Dd} (hn:n + m + 7 < 900)
  (h:wpM (acts l ent as) (fun ts d'=>ts.length=as.length→(∀t∈ts,t.length≤2 ^ 16)→Q (.lst (ts.map .str)) (bput σ a d' (layD fW l))) (fun e d'=>E e (bput σ a d' (layD fW l))) d):WC G n (.fn 103 0) [.ref a.b,.lst (as.map encA)] (bput σ a d (layD fW l)) Q E:=by
 refine WC.forget ?_
 have hn1:n + 1 + m + 5 < 900:=by exact dm _ hn
 refine WC.fnV k103 (dz' 2 hn) ?_
 refine Vm.lstN fun x hx0=>?_
 have hx:=bput_none hx0
 refine rwG (bput_put hx.1 hx.2.1 hx.2.2.1) ?_
 refine Vm.forT encA (fun a=>match a with | .inn v=>[.str (S_ "in"),encV v] | .out b p=>[.str (if b then S_ "inout" else S_ "out"),encP p]) as [2,0,1] (fun _=>[(2,.ref x),(0,.ref a.b),(1,.lst (as.map encA))])
  (ActsJ σ x a l ent as (fun r d''=>Q (.lst (r.map .str)) (bput σ a d'' (layD fW l))) (fun e d'=>E e (bput σ a d' (layD fW l))))
  (fun a=>by cases a<;>exact ⟨rfl,rfl⟩) .lst rfl ⟨[],d,rfl,rfl,(fun _ h=>nomatch h),h⟩ (fun done v rest σ₀ e q=>?_) fun σ₀ q=>?_
 ·obtain ⟨ts,d',rfl,hlen,hts,q⟩:=q
  have hm:=ha v (by refine rwG e ?_;exact List.mem_append_right _ (.head _))
  have hle:(ts.map D.str).length≤2:=by (rewrite [List.length_map];refine rwG hlen ?_);rw [e,List.length_append] at hl;exact Nat.le_trans (Nat.le_add_right _ _) hl
  rw [drop_here e,acts] at q
  have q:=wpM_and (wpB q) (act1_len hm d')
  have more:∀(c:Str) d₂,c.length≤17000∧wpM (bind' (acts l ent rest) fun r=>ret' (c::r)) (fun r d''=>(ts++r).length=as.length→(∀t∈ts++r,t.length≤2 ^ 16)→Q (.lst ((ts++r).map .str)) (bput σ a d'' (layD fW l))) (fun e d'=>E e (bput σ a d' (layD fW l))) d₂→
    ActsJ σ x a l ent as (fun r d''=>Q (.lst (r.map .str)) (bput σ a d'' (layD fW l))) (fun e d'=>E e (bput σ a d' (layD fW l))) (done++[v]) (bput (σ.set x (.list ((ts.map D.str)++[.str c]))) a d₂ (layD fW l)):=fun c d₂ q=>by
   refine ⟨ts++[c],d₂,by refine rwG List.map_append ?_;rfl,by (refine rwG List.length_append ?_;refine rwG List.length_append ?_;refine rwG hlen ?_);rfl,fun y hy=>?_,?_⟩
   ·rcases List.mem_append.mp hy with hy | hy
    ·exact hts y hy
    ·refine rwG (List.mem_singleton.mp hy) ?_;exact Nat.le_trans q.1 (by decide)
   ·refine rwG (drop_snoc e) ?_
    refine wpM_mono (wpB q.2) (fun r d₃ q=>?_) fun _ _ x=>x
    have q:(ts++(c::r)).length=as.length→(∀t∈ts++(c::r),t.length≤2 ^ 16)→Q (.lst ((ts++(c::r)).map .str)) (bput σ a d₃ (layD fW l)):=q
    rw [List.append_assoc];exact q
  cases v with
  | inn v=>
   refine Vm.eqT (by decide) ?_
   refine Vm.isT (.lst (bput_beside hx)) ?_
   refine Vm.fn (c_saysV hm ok (by refine (?_:n + 1 + m + 4 < 900);exact Nat.lt_of_succ_lt hn1) (wpM_mono (wpB q) (fun t d₁ q ht=>?_) fun e d₁ q=>out_of hx q))
   refine Vm.fn (c_made (ts:=[t]) (dz 0 hn1) ok (by decide) (by decide) (short_one (Nat.le_trans ht (by decide))) .lst (wpM_mono q (fun c d₂ q=>?_) fun e d₁ q=>out_of hx q))
   refine Vm.met (CallB.append (bput_beside hx) (sl hle) ?_)
   refine rwG (bput_beside_set hx) ?_
   exact ⟨rfl,more c d₂ q⟩
  | out b p=>
   refine Vm.eqF (by cases b<;>decide) ?_
   refine Vm.fn (c_where hm ok hn1 (wpM_mono (wpB q) (fun t d₁ q ht=>?_) fun e d₁ q=>out_of hx q))
   have q:=wpM_and (wpB q) (made1_len (w:=S_ "target") (by decide) ht d₁)
   refine Vm.fn (c_made (ts:=[t]) (dz 0 hn1) ok (by decide) (by decide) (short_one (Nat.le_trans ht (by decide))) .lst (wpM_mono q (fun c d₂ q=>?_) fun e d₁ q=>out_of hx q))
   refine Vm.isT (.lst (bput_beside hx)) ?_
   refine Vm.fn (c_made (ts:=[c]) (dz 0 hn1) ok (by decide) (by decide) (short_one (Nat.le_trans q.1 (by decide))) .lst (wpM_mono q.2 (fun c d₂ q=>?_) fun e d₁ q=>out_of hx q))
   refine Vm.met (CallB.append (bput_beside hx) (sl hle) ?_)
   refine rwG (bput_beside_set hx) ?_
   exact ⟨rfl,more c d₂ q⟩
 ·obtain ⟨ts,d',rfl,hlen,hts,q⟩:=q
  rw [List.drop_length,acts] at q
  have q:(ts++[]).length=as.length→(∀t∈ts++[],t.length≤2 ^ 16)→Q (.lst ((ts++[]).map .str)) (bput σ a d' (layD fW l)):=q
  rw [List.append_nil] at q
  refine Vm.fz (.L (bput_beside hx)) ?_
  refine rwG (bput_beside_del hx) ?_
  exact ⟨_,.refl,q hlen hts⟩
end Mine
end
section
open PySem PySem.W PySem.Calls PyProof.Rows
namespace Mine
set_option backward.match.sparseCases false
variable {G:Glob}
variable {n:Nat} {σ:Sto} {Q:D→Sto→Prop} {E:Exn→Sto→Prop}
theorem found_lookup {l:Laid} {s:Str} {d:Dd}:wpM (found l s) (fun b _=>l.lookup s=some b) (fun _ _=>True) d:=by
 unfold found
 refine rwG wpM_bind ?_
 unfold wpM tell look
 split
 ·rename_i e
  split at e
  ·cases e
  ·cases e
   cases hb:l.lookup s<;>trivial
 ·trivial
theorem short_two {t u:Str} (h:t.length≤65536) (h':u.length≤65536):Short [t,u]:=⟨Nat.le_of_ble_eq_true rfl,fun y hy=>by cases hy with | head=>exact h | tail _ hy=>refine rwG (List.mem_singleton.mp hy) ?_;exact h'⟩
theorem line_S:∀s:S,SubR σ (encS s) (.int 1) (.int (lineS s))
 | .pcall _ _ _ _=>.tupAt (i:=1) (by decide) (by decide) rfl
 | .pdisp _ _ _=>.tupAt (i:=1) (by decide) (by decide) rfl
 | .asg _ _=>.tupAt (i:=1) (by decide) (by decide) rfl
 | .ret _ _=>.tupAt (i:=1) (by decide) (by decide) rfl
 | .null _=>.tupAt (i:=1) (by decide) (by decide) rfl
theorem sgood_line {C:Str→Prop} {s:S} (h:sgood C s):Sm (lineS s):=by
 cases s with
 | pcall=>exact h.1
 | pdisp=>exact h.1
 | asg=>exact h.1
 | null=>exact h
 | ret i o=>cases o with
  | none=>exact h
  | some=>exact h.1
noncomputable abbrev B104:R:=(.cons (.expr (.dfn (S_ "_law_tell") 95 (.cons (.v 0) (.cons (.bin .Add (.cs (S_ "step ")) (.blt 2 (.cons (.tup (.cons (.sub (.v 2) (.ci 1)) .nil)) .nil))) .nil)))) (.cons (.ifs (.cmp .Eq (.sub (.v 2) (.ci 0)) (.cs (S_ "pcall"))) (.cons (.asg 3 (.dfn (S_ "_law_found") 96 (.cons (.v 0) (.cons (.sub (.v 2) (.ci 3)) .nil)))) (.cons (.expr (.dfn (S_ "_law_made") 97 (.cons (.v 0) (.cons (.cs (S_ "call")) (.cons (.sub (.v 2) (.ci 3)) (.cons (.dfn (S_ "_law_actuals") 103 (.cons (.v 0) (.cons (.sub (.v 2) (.ci 4)) .nil))) .nil)))))) (.cons (.expr (.dfn (S_ "_law_enter") 106 (.cons (.v 0) (.cons (.v 3) .nil)))) .nil))) (.cons (.ifs (.cmp .Eq (.sub (.v 2) (.ci 0)) (.cs (S_ "pdispatch"))) (.cons (.expr (.dfn (S_ "_law_made") 97 (.cons (.v 0) (.cons (.bin .Add (.cs (S_ "by tag ")) (.blt 2 (.cons (.sub (.v 2) (.ci 4)) .nil))) (.cons (.sub (.v 2) (.ci 2)) (.cons (.dfn (S_ "_law_actuals") 103 (.cons (.v 0) (.cons (.sub (.v 2) (.ci 3)) .nil))) .nil)))))) .nil) (.cons (.ifs (.cmp .Eq (.sub (.v 2) (.ci 0)) (.cs (S_ "assign"))) (.cons (.asg 4 (.dfn (S_ "_law_says") 101 (.cons (.v 0) (.cons (.sub (.v 2) (.ci 3)) .nil)))) (.cons (.expr (.dfn (S_ "_law_made") 97 (.cons (.v 0) (.cons (.cs (S_ "store")) (.cons (.cs (S_ "()")) (.cons (.lstF (.cons (.v 4) (.cons (.dfn (S_ "_law_made") 97 (.cons (.v 0) (.cons (.cs (S_ "target")) (.cons (.cs (S_ "")) (.cons (.lstF (.cons (.dfn (S_ "_law_where") 102 (.cons (.v 0) (.cons (.sub (.v 2) (.ci 2)) .nil))) .nil)) .nil))))) .nil))) .nil)))))) .nil)) (.cons (.ifs (.cmp .Eq (.sub (.v 2) (.ci 0)) (.cs (S_ "return"))) (.cons (.ifs (.cmp .IsNot (.sub (.v 2) (.ci 2)) .cn) (.cons (.expr (.dfn (S_ "_law_made") 97 (.cons (.v 0) (.cons (.cs (S_ "result")) (.cons (.cs (S_ "()")) (.cons (.lstF (.cons (.dfn (S_ "_law_says") 101 (.cons (.v 0) (.cons (.sub (.v 2) (.ci 2)) .nil))) .nil)) .nil)))))) .nil) .nil) (.cons (.ret (.cb true)) .nil)) .nil) .nil)) .nil)) .nil)) .nil))
theorem go_turn {l:Laid} {ent:Body→M' Unit} {m:Nat} {s:S} (hm:sgood (Ents G l ent m) s) {a:BA} (ok:BOk a) {d:Dd} {C:Vc} (hC:C.k.n=n + 1) {X:D} {J:Sto→Prop} (hn:n + 1 + m + 8 < 900)
  (h:wpM (go1 l ent s) (fun b d'=>if b=true then C.R (.bool true) (bput σ a d' (layD fW l)) else J (bput σ a d' (layD fW l))) (fun e d'=>C.E e (bput σ a d' (layD fW l))) d):
  Turn G C B104 [(2,encS s),(0,.ref a.b),(1,X)] [0,1] [(0,.ref a.b),(1,X)] J (bput σ a d (layD fW l)):=by
 have h1:C.k.n < 900:=by refine rwG hC ?_;exact dz 0 hn
 have h4:C.k.n + m + 4 < 900:=by refine rwG hC ?_;exact dk 4 hn
 have h5:C.k.n + m + 5 < 900:=by refine rwG hC ?_;exact dk 5 hn
 have h7:C.k.n + m + 7 < 900:=by refine rwG hC ?_;exact dk 7 hn
 refine Vm.sub (line_S s) ?_
 refine Vm.blt (CallB.strTup (.cons (.int (sgood_line hm)) .nil) (Nat.le_of_ble_eq_true rfl) (dn' 0 h1) fun hl=>?_)
 refine Vm.bin (.addS (sl (Nat.add_le_add_left hl 5))) ?_
 refine Vm.fn (c_tell (dn 0 h1) ok (wpM_mono (wpB h) (fun _ d₁ q=>?_) fun _ _ x=>x))
 cases s with
 | null i=>
  refine Vm.wF (by decide) ?_
  refine Vm.wF (by decide) ?_
  refine Vm.wF (by decide) ?_
  refine Vm.wF (by decide) ?_
  exact ⟨rfl,q⟩
 | ret i o=>
  refine Vm.wF (by decide) ?_
  refine Vm.wF (by decide) ?_
  refine Vm.wF (by decide) ?_
  refine Vm.wT (by decide) ?_
  refine Vm.at rfl ?_
  cases o with
  | none=>exact Vm.cmp .isNotN q
  | some v=>
   refine Vm.cmp (b:=.none) (c:=true) (by have:=CmpR.isNotN (σ:=bput σ a d₁ (layD fW l)) (d:=encV v);rw [encV_isNone] at this;exact this) ?_
   refine Vm.at rfl ?_
   refine Vm.fn (c_saysV hm.2 ok h4 (wpM_mono (wpB q) (fun t d₁ q ht=>?_) fun e d₁ q=>q))
   exact Vm.fn (c_made (ts:=[t]) (dn 0 h1) ok (by decide) (by decide) (short_one (Nat.le_trans ht (by decide))) .lst (wpM_mono (wpB q) (fun t d₁ q=>q) fun e d₁ q=>q))
 | asg i v=>
  refine Vm.wF (by decide) ?_
  refine Vm.wF (by decide) ?_
  refine Vm.wT (by decide) ?_
  refine Vm.at rfl ?_
  refine Vm.fn (c_saysV hm.2 ok h4 (wpM_mono (wpB q) (fun t d₁ q ht=>?_) fun e d₁ q=>q))
  refine Vm.at rfl ?_
  refine Vm.fn (c_where (l:=l) (ent:=ent) (m:=m) (p:=.y) trivial ok h5 (wpM_mono (wpB q) (fun p d₁ q hp=>?_) fun e d₁ q=>q))
  have q:=wpM_and (wpB q) (made1_len (w:=S_ "target") (by decide) hp d₁)
  refine Vm.fn (c_made (ts:=[p]) (dn 0 h1) ok (by decide) (by decide) (short_one (Nat.le_trans hp (by decide))) .lst (wpM_mono q (fun u d₁ q=>?_) fun e d₁ q=>q))
  exact Vm.fn (c_made (ts:=[t,u]) (dn 0 h1) ok (by decide) (by decide) (short_two (Nat.le_trans ht (by decide)) (Nat.le_trans q.1 (by decide))) .lst (wpM_mono (wpB q.2) (fun t d₁ q=>⟨rfl,q⟩) fun e d₁ q=>q))
 | pdisp i as ix=>
  refine Vm.wF (by decide) ?_
  refine Vm.wT (by decide) ?_
  refine Vm.at rfl ?_
  refine Vm.blt (CallB.strI (Sm.log hm.2.1) ?_)
  have hil:(iS ix).length≤8:=iS_len hm.2.1
  refine Vm.bin (.addS (sl (Nat.add_le_add_left hil 7))) ?_
  refine Vm.at rfl ?_
  refine Vm.at rfl ?_
  refine Vm.fn (c_acts hm.2.2.1 hm.2.2.2 ok h7 (wpM_mono (wpB q) (fun ts d₁ q hlen hts=>?_) fun e d₁ q=>q))
  exact Vm.fn (c_made (ts:=ts) (dn 0 h1) ok (by rw [len_append];exact Nat.le_trans (Nat.add_le_add_left hil 7) (by decide)) (by decide) ⟨by refine rwG hlen ?_;exact Nat.le_trans hm.2.2.1 (by decide),hts⟩ .lst (wpM_mono (wpB q) (fun t d₁ q=>⟨rfl,q⟩) fun e d₁ q=>q))
 | pcall i u s as=>
  have hsl:s.length≤1000:=Nat.le_trans hm.2.2.1.1 (by decide)
  refine Vm.wT (by decide) ?_
  refine Vm.at rfl ?_
  refine Vm.fn (c_found (f:=fW) (dn 0 h1) ok hsl (wpM_mono (wpM_and (wpB q) found_lookup) (fun b d₁ q=>?_) fun e d₁ q=>q))
  have hb:=q.1
  refine Vm.at rfl ?_
  refine Vm.at rfl ?_
  refine Vm.fn (c_acts hm.2.2.2.2.1 hm.2.2.2.2.2 ok h7 (wpM_mono (wpB q.2) (fun ts d₁ q hlen hts=>?_) fun e d₁ q=>q))
  refine Vm.fn (c_made (ts:=ts) (dn 0 h1) ok (by decide) hsl ⟨by refine rwG hlen ?_;exact Nat.le_trans hm.2.2.2.2.1 (by decide),hts⟩ .lst (wpM_mono (wpB q) (fun t d₁ q=>?_) fun e d₁ q=>q))
  exact Vm.fn (hm.2.2.2.1 b hb s C.k.n _ _ _ a d₁ ok (by refine rwG hC ?_;exact Nat.lt_of_le_of_lt (Nat.le_add_right _ 8) hn) (wpM_mono (wpB q) (fun _ d₂ q=>⟨rfl,q⟩) fun e d₁ q=>q))
theorem c_go {l:Laid} {ent:Body→M' Unit} {m:Nat} {ss:List S} (hs:∀s∈ss,sgood (Ents G l ent m) s) {a:BA} (ok:BOk a) {d:Dd} (hn:n + m + 9 < 900)
  (h:wpM (go l ent ss) (fun b d'=>Q (.bool b) (bput σ a d' (layD fW l))) (fun e d'=>E e (bput σ a d' (layD fW l))) d):WC G n (.fn 104 0) [.ref a.b,.lst (ss.map encS)] (bput σ a d (layD fW l)) Q E:=by
 have hn1:n + 1 + m + 8 < 900:=by exact dm _ hn
 refine WC.fnV k104 (dz' 2 hn) ?_
 refine Vm.forL encS ss [0,1] (fun _=>[(0,.ref a.b),(1,.lst (ss.map encS))]) (fun done σ'=>WpJ σ a l (go l ent (ss.drop done.length)) (fun b d'=>Q (.bool b) (bput σ a d' (layD fW l))) (fun e d'=>E e (bput σ a d' (layD fW l))) σ') .lst rfl ⟨d,rfl,h⟩ (fun done s rest σ₀ e q=>?_) fun σ₀ q=>?_
 ·obtain ⟨d',rfl,q⟩:=q
  have hm:=hs s (by refine rwG e ?_;exact List.mem_append_right _ (.head _))
  rw [drop_here e,go] at q
  refine rwG (drop_snoc e) ?_
  exact go_turn hm ok rfl hn1 (wpM_mono (wpB q) (fun b d₂ q=>by cases b with | true=>exact q | false=>exact ⟨d₂,rfl,q⟩) fun _ _ x=>x)
 ·obtain ⟨d',rfl,q⟩:=q
  rw [List.drop_length] at q
  exact q
end Mine
end
section
open PySem PySem.W PySem.Calls PyProof.Rows
namespace Mine
set_option backward.match.sparseCases false
variable {G:Glob}
variable {n:Nat} {σ:Sto} {Q:D→Sto→Prop} {E:Exn→Sto→Prop}
noncomputable def DecsOk (G:Glob) (l:Laid) (ent:Body→M' Unit) (m k:Nat):Prop:=∀ds,(∀d∈ds,dgood (Ents G l ent m) k d)→∀(n:Nat) (σ:Sto) (Q:D→Sto→Prop) (E:Exn→Sto→Prop) (a:BA) (d:Dd),BOk a→n + m + 2 * k + 12 < 900→
 wpM (decs l ent ds) (fun _ d'=>Q .none (bput σ a d' (layD fW l))) (fun e d'=>E e (bput σ a d' (layD fW l))) d→WC G n (.fn 105 0) [.ref a.b,.lst (encDs ds)] (bput σ a d (layD fW l)) Q E
theorem line_D:∀d:Dc,SubR σ (encDc d) (.int 1) (.int (lineD d))
 | .var _ _ _=>by rw [encDc];exact .tupAt (i:=1) (by decide) (by decide) rfl
 | .ren _ _ _=>by rw [encDc];exact .tupAt (i:=1) (by decide) (by decide) rfl
 | .subt _=>by rw [encDc];exact .tupAt (i:=1) (by decide) (by decide) rfl
 | .typ _=>by rw [encDc];exact .tupAt (i:=1) (by decide) (by decide) rfl
 | .exc _=>by rw [encDc];exact .tupAt (i:=1) (by decide) (by decide) rfl
 | .pack _ _ _ _ _=>by rw [encDc];exact .tupAt (i:=1) (by decide) (by decide) rfl
 | .sub _ _ _ _=>by rw [encDc];exact .tupAt (i:=1) (by decide) (by decide) rfl
theorem dgood_line {C:Str→Prop} {k:Nat} {d:Dc} (h:dgood C k d):Sm (lineD d):=by
 cases d with
 | sub _ _ _ _=>cases k<;>exact h.elim
 | exc i=>cases k<;>exact h
 | typ i=>cases k<;>exact h
 | subt i=>cases k<;>exact h
 | ren i x v=>cases k<;>exact h.1
 | var i x o=>cases o<;>cases k<;>exact h.1
 | pack i x y z ss=>cases k with
  | zero=>exact h.elim
  | succ k=>exact h.1
noncomputable abbrev B105:R:=(.cons (.expr (.dfn (S_ "_law_tell") 95 (.cons (.v 0) (.cons (.bin .Add (.cs (S_ "line ")) (.blt 2 (.cons (.tup (.cons (.sub (.v 2) (.ci 1)) .nil)) .nil))) .nil)))) (.cons (.ifs (.and (.cons (.cmp .Eq (.sub (.v 2) (.ci 0)) (.cs (S_ "var"))) (.cons (.cmp .Is (.sub (.v 2) (.ci 4)) .cn) .nil))) (.cons (.expr (.dfn (S_ "_law_made") 97 (.cons (.v 0) (.cons (.cs (S_ "firstcell")) (.cons (.blt 2 (.cons (.tup (.cons (.sub (.v 2) (.ci 2)) .nil)) .nil)) (.cons (.lstF (.cons (.cs (S_ "begincell['S']")) .nil)) .nil)))))) .nil) (.cons (.ifs (.cmp .Eq (.sub (.v 2) (.ci 0)) (.cs (S_ "var"))) (.cons (.expr (.dfn (S_ "_law_made") 97 (.cons (.v 0) (.cons (.cs (S_ "initcell")) (.cons (.blt 2 (.cons (.tup (.cons (.sub (.v 2) (.ci 2)) .nil)) .nil)) (.cons (.lstF (.cons (.cs (S_ "begincell['S']")) (.cons (.dfn (S_ "_law_says") 101 (.cons (.v 0) (.cons (.sub (.v 2) (.ci 4)) .nil))) .nil))) .nil)))))) .nil) (.cons (.ifs (.cmp .Eq (.sub (.v 2) (.ci 0)) (.cs (S_ "subtype"))) (.cons (.expr (.dfn (S_ "_law_tell") 95 (.cons (.v 0) (.cons (.cs (S_ "laysubtype ('t#4', 'S')")) .nil)))) .nil) (.cons (.ifs (.cmp .Eq (.sub (.v 2) (.ci 0)) (.cs (S_ "type"))) (.cons (.expr (.dfn (S_ "_law_tell") 95 (.cons (.v 0) (.cons (.cs (S_ "laytype ('T',)")) .nil)))) .nil) (.cons (.ifs (.cmp .Eq (.sub (.v 2) (.ci 0)) (.cs (S_ "rename"))) (.cons (.expr (.dfn (S_ "_law_made") 97 (.cons (.v 0) (.cons (.cs (S_ "layplace")) (.cons (.blt 2 (.cons (.tup (.cons (.sub (.v 2) (.ci 2)) .nil)) .nil)) (.cons (.lstF (.cons (.dfn (S_ "_law_where") 102 (.cons (.v 0) (.cons (.sub (.v 2) (.ci 3)) .nil))) .nil)) .nil)))))) .nil) (.cons (.ifs (.cmp .Eq (.sub (.v 2) (.ci 0)) (.cs (S_ "sub"))) (.cons (.asgI (.sub (.v 0) (.cs (S_ "laid"))) (.att (.sub (.v 2) (.ci 2)) (S_ "name")) (.sub (.v 2) (.ci 2))) (.cons (.expr (.dfn (S_ "_law_tell") 95 (.cons (.v 0) (.cons (.bin .Add (.cs (S_ "lay ")) (.att (.sub (.v 2) (.ci 2)) (S_ "name"))) .nil)))) .nil)) (.cons (.ifs (.cmp .Eq (.sub (.v 2) (.ci 0)) (.cs (S_ "package"))) (.cons (.expr (.dfn (S_ "_law_tell") 95 (.cons (.v 0) (.cons (.cs (S_ "pack ()")) .nil)))) (.cons (.expr (.dfn (S_ "_law_declare") 105 (.cons (.v 0) (.cons (.bin .Add (.bin .Add (.sub (.v 2) (.ci 3)) (.sub (.v 2) (.ci 4))) (.sub (.v 2) (.ci 5))) .nil)))) (.cons (.expr (.dfn (S_ "_law_tell") 95 (.cons (.v 0) (.cons (.cs (S_ "arm ")) .nil)))) (.cons (.expr (.dfn (S_ "_law_go") 104 (.cons (.v 0) (.cons (.sub (.v 2) (.ci 6)) .nil)))) (.cons (.expr (.dfn (S_ "_law_tell") 95 (.cons (.v 0) (.cons (.cs (S_ "endpack ()")) .nil)))) .nil))))) .nil) .nil)) .nil)) .nil)) .nil)) .nil)) .nil)) .nil))
theorem Vm.isP {C:Vc} {K:List Fr} {st:List D} {Γ:Ix} {d:D} {b:Bool} (h:d.isNone=b) (q:Kn G C K st Γ (.bool b) σ):Vm G C ⟨.cmp .Is::K,.none::d::st,Γ⟩ σ:=Vm.cmp (h▸.isN) q
theorem decl_turn {l:Laid} {ent:Body→M' Unit} {m k:Nat} (ih:∀j,k=j + 1→DecsOk G l ent m j) {dc:Dc} (hm:dgood (Ents G l ent m) k dc) {a:BA} (ok:BOk a) {d:Dd} {C:Vc} (hC:C.k.n=n + 1) {X:D} {J:Sto→Prop} (hn:n + m + 2 * k + 12 < 900)
  (q:wpM (bind' (tell (tLine (lineD dc))) fun _=>decB l ent dc) (fun _ d'=>J (bput σ a d' (layD fW l))) (fun e d'=>C.E e (bput σ a d' (layD fW l))) d):
  Turn G C B105 [(2,encDc dc),(0,.ref a.b),(1,X)] [0,1] [(0,.ref a.b),(1,X)] J (bput σ a d (layD fW l)):=by
 have h1:C.k.n < 900:=by lia
 have hm10:C.k.n + m + 10 < 900:=by lia
 refine Vm.sub (line_D dc) ?_
 refine Vm.blt (CallB.strTup (.cons (.int (dgood_line hm)) .nil) (Nat.le_of_ble_eq_true rfl) (dn' 0 h1) fun hl=>?_)
 refine Vm.bin (.addS (sl (Nat.add_le_add_left hl 5))) ?_
 refine Vm.fn (c_tell (dn 0 h1) ok (wpM_mono (wpB q) (fun _ d₁ q=>?_) fun _ _ x=>x))
 cases dc with
 | sub _ _ _ _=>cases k<;>exact hm.elim
 | exc i=>
  rw [encDc]
  rw [decB] at q
  refine Vm.wF (by decide) ?_
  refine Vm.wF (by decide) ?_
  refine Vm.wF (by decide) ?_
  refine Vm.wF (by decide) ?_
  refine Vm.wF (by decide) ?_
  refine Vm.wF (by decide) ?_
  refine Vm.wF (by decide) ?_
  exact ⟨rfl,q⟩
 | typ i=>
  rw [encDc]
  rw [decB] at q
  refine Vm.wF (by decide) ?_
  refine Vm.wF (by decide) ?_
  refine Vm.wF (by decide) ?_
  refine Vm.wT (by decide) ?_
  exact Vm.fn (c_tell (dn 0 h1) ok (wpM_mono q (fun _ d₁ q=>⟨rfl,q⟩) fun _ _ x=>x))
 | subt i=>
  rw [encDc]
  rw [decB] at q
  refine Vm.wF (by decide) ?_
  refine Vm.wF (by decide) ?_
  refine Vm.wT (by decide) ?_
  exact Vm.fn (c_tell (dn 0 h1) ok (wpM_mono q (fun _ d₁ q=>⟨rfl,q⟩) fun _ _ x=>x))
 | ren i x v=>
  have hm:Sm i∧SmS x∧vgood (Ents G l ent m) v:=by cases k<;>exact hm
  rw [encDc]
  rw [decB] at q
  refine Vm.wF (by decide) ?_
  refine Vm.wF (by decide) ?_
  refine Vm.wF (by decide) ?_
  refine Vm.wF (by decide) ?_
  refine Vm.wT (by decide) ?_
  refine Vm.at rfl ?_
  refine Vm.blt (CallB.strTup (.cons (.str hm.2.1) .nil) (Nat.le_of_ble_eq_true rfl) (dn' 0 h1) fun hl2=>?_)
  refine Vm.at rfl ?_
  refine Vm.fn (c_where (p:=.der v) hm.2.2 ok (dk 5 hm10) (wpM_mono (wpB q) (fun t d₁ q ht=>?_) fun e d₁ q=>q))
  exact Vm.fn (c_made (ts:=[t]) (dn 0 h1) ok (by decide) (Nat.le_trans hl2 (by decide)) (short_one (Nat.le_trans ht (by decide))) .lst (wpM_mono (wpB q) (fun _ d₁ q=>⟨rfl,q⟩) fun e d₁ q=>q))
 | var i x o=>
  have ct:cellT.length≤65536:=by decide
  rw [encDc]
  refine Vm.wT (by decide) ?_
  refine Vm.at rfl ?_
  cases o with
  | none=>
   have hm:Sm i∧SmS x:=by cases k<;>exact hm
   rw [decB] at q
   refine Vm.isP (b:=true) rfl ?_
   refine Vm.at rfl ?_
   refine Vm.blt (CallB.strTup (.cons (.str hm.2) .nil) (Nat.le_of_ble_eq_true rfl) (dn' 0 h1) fun hl2=>?_)
   exact Vm.fn (c_made (ts:=[cellT]) (dn 0 h1) ok (by decide) (Nat.le_trans hl2 (by decide)) (short_one ct) .lst (wpM_mono (wpB q) (fun _ d₁ q=>⟨rfl,q⟩) fun e d₁ q=>q))
  | some v=>
   have hm:Sm i∧SmS x∧vgood (Ents G l ent m) v:=by cases k<;>exact hm
   rw [decB] at q
   refine Vm.isP (encV_isNone v) ?_
   refine Vm.wT (by decide) ?_
   refine Vm.at rfl ?_
   refine Vm.blt (CallB.strTup (.cons (.str hm.2.1) .nil) (Nat.le_of_ble_eq_true rfl) (dn' 0 h1) fun hl2=>?_)
   refine Vm.at rfl ?_
   refine Vm.fn (c_saysV hm.2.2 ok (dk 4 hm10) (wpM_mono (wpB q) (fun t d₁ q ht=>?_) fun e d₁ q=>q))
   exact Vm.fn (c_made (ts:=[cellT,t]) (dn 0 h1) ok (by decide) (Nat.le_trans hl2 (by decide)) (short_two ct (Nat.le_trans ht (by decide))) .lst (wpM_mono (wpB q) (fun _ d₁ q=>⟨rfl,q⟩) fun e d₁ q=>q))
 | pack i x y z ss=>
  cases k with
  | zero=>exact hm.elim
  | succ k=>
   refine ex05 hm ?_;clear hm;intro hm h2 h3 h4 h5
   rw [List.length_append,List.length_append] at h4
   have l1:(encDs x).length + (encDs y).length≤sizeLine:=by rw [←encDs_len,←encDs_len];exact sl (Nat.le_trans (Nat.le_add_right _ _) h4)
   have l2:(encDs x++encDs y).length + (encDs z).length≤sizeLine:=by (refine rwG List.length_append ?_;rewrite [←encDs_len,←encDs_len,←encDs_len]);exact sl h4
   rw [encDc]
   rw [decB] at q
   refine Vm.wF (by decide) ?_
   refine Vm.wF (by decide) ?_
   refine Vm.wF (by decide) ?_
   refine Vm.wF (by decide) ?_
   refine Vm.wF (by decide) ?_
   refine Vm.wF (by decide) ?_
   refine Vm.wT (by decide) ?_
   refine Vm.fn (c_tell (dn 0 h1) ok (wpM_mono (wpB q) (fun _ d₁ q=>?_) fun _ _ x=>x))
   rw [←bind'_assoc,←bind'_assoc,←decs_append,←decs_append] at q
   refine Vm.at rfl ?_
   refine Vm.at rfl ?_
   refine Vm.bin (.addL l1) ?_
   refine Vm.at rfl ?_
   refine Vm.bin (.addL l2) ?_
   rw [←encDs_append,←encDs_append]
   refine Vm.fn (ih k rfl _ h2 C.k.n _ _ _ a d₁ ok (by lia) (wpM_mono (wpB q) (fun _ d₁ q=>?_) fun e d₁ q=>q))
   refine Vm.fn (c_tell (dn 0 h1) ok (wpM_mono (wpB q) (fun _ d₁ q=>?_) fun _ _ x=>x))
   refine Vm.at rfl ?_
   refine Vm.fn (c_go (fun s hs=>(h3 s hs).1) ok (dk 9 hm10) (wpM_mono (wpB q) (fun _ d₁ q=>?_) fun _ _ x=>x))
   exact Vm.fn (c_tell (dn 0 h1) ok (wpM_mono q (fun _ d₁ q=>⟨rfl,q⟩) fun _ _ x=>x))
theorem decs_step {l:Laid} {ent:Body→M' Unit} {m k:Nat} (ih:∀j,k=j + 1→DecsOk G l ent m j):DecsOk G l ent m k:=fun ds hd n σ Q E a d ok hn h=>by
 refine WC.fnV k105 (Nat.le_of_lt (dd 2 hn)) ?_
 refine Vm.forL encDc ds [0,1] (fun _=>[(0,.ref a.b),(1,.lst (encDs ds))]) (fun done σ'=>WpJ σ a l (decs l ent (ds.drop done.length)) (fun _ d'=>Q .none (bput σ a d' (layD fW l))) (fun e d'=>E e (bput σ a d' (layD fW l))) σ') (by rw [encDs_map];exact .lst) rfl ⟨d,rfl,h⟩ (fun done s rest σ₀ e q=>?_) fun σ₀ q=>?_
 ·obtain ⟨d',rfl,q⟩:=q
  have hm:=hd s (by refine rwG e ?_;exact List.mem_append_right _ (.head _))
  rw [drop_here e,decs,←bind'_assoc] at q
  refine rwG (drop_snoc e) ?_
  exact decl_turn ih hm ok rfl hn (wpM_mono (wpB q) (fun _ d₁ q=>⟨d₁,rfl,q⟩) fun _ _ x=>x)
 ·obtain ⟨d',rfl,q⟩:=q
  rw [List.drop_length,decs] at q
  exact q
theorem c_decs {l:Laid} {ent:Body→M' Unit} {m:Nat}:∀k,DecsOk G l ent m k
 | 0=>decs_step (fun j e=>by cases e)
 | k + 1=>decs_step (fun j e=>by cases e;exact c_decs k)
noncomputable def bgood (Cl:Str→Prop) (b:Body):Prop:=(∀d∈b.1,dgood Cl 0 d)∧∀s∈b.2,sgood Cl s
theorem c_enter {l:Laid} {f m:Nat} {b:Body} (hb:bgood (Ents G l (entF l f) m) b):EntC G l (entF l (f + 1)) (m + 20) b:=fun x n σ Q E a d ok hn h=>by
 rw [entF] at h
 refine WC.fnV k106 (Nat.le_of_lt (dn 2 (Nat.lt_of_le_of_lt (Nat.le_add_right n (m + 20)) hn))) ?_
 have h1:n + 1 < 900:=by exact dk _ hn
 refine Vm.att (subF_at 3 rfl (by decide +kernel)) ?_
 refine Vm.fn (c_decs 0 _ hb.1 (n + 1) _ _ _ a d ok (by exact lin1 hn (by simp +arith only)) (wpM_mono (wpB h) (fun _ d₁ q=>?_) fun e d₁ q=>q))
 refine Vm.fn (c_tell (dn 0 h1) ok (wpM_mono (wpB q) (fun _ d₁ q=>?_) fun _ _ x=>x))
 refine Vm.att (subF_at 4 rfl (by decide +kernel)) ?_
 refine Vm.fn (c_go hb.2 ok (by refine (?_:n + 1 + m + 9 < 900);exact lin1 hn (by simp +arith only)) (wpM_mono (wpB q) (fun _ d₁ q=>?_) fun _ _ x=>x))
 exact Vm.fn (c_tell (dn 0 h1) ok (wpM_mono q (fun _ d₁ q=>q) fun _ _ x=>x))
end Mine
end
section
open PySem PySem.W PySem.Calls PyProof.Rows
namespace Mine
set_option backward.match.sparseCases false
variable {G:Glob}
variable {n:Nat} {σ:Sto} {Q:D→Sto→Prop} {E:Exn→Sto→Prop}
noncomputable def sN (j:Nat):Str:=S_ "s#"++iS (j:Nat)
noncomputable def Cl (j:Nat) (s:Str):Prop:=∃i,j≤i∧i≤3∧s=sN i
theorem sN_inj_fin:∀i j:Fin 4,sN i.1=sN j.1→i=j:=by decide +kernel
theorem sN_inj {i j:Nat} (hi:i≤3) (hj:j≤3) (h:sN i=sN j):i=j:=by
 have:=sN_inj_fin ⟨i,by exact Nat.lt_succ_of_le hi⟩ ⟨j,by exact Nat.lt_succ_of_le hj⟩ h
 exact Fin.mk.inj this
theorem sN_sm_fin:∀i:Fin 4,(sN i.1).length≤20∧(sN i.1).cps.toList.all (fun c=>decide (c < 16 ^ 8))=true:=by decide +kernel
theorem sN_sm {i:Nat} (hi:i≤3):SmS (sN i):=by
 refine ex02 (sN_sm_fin ⟨i,by exact Nat.lt_succ_of_le hi⟩) ?_;intro a b
 exact ⟨a,fun c hc=>by simpa using List.all_eq_true.mp b c hc⟩
noncomputable def LOk (l:Laid):Prop:=∀s b,l.lookup s=some b→∃j,j≤2∧s=sN j∧bgood (Cl (j + 1)) b
section
variable {C C':Str→Prop} (h:∀s,C s→C' s)
include h
mutual
theorem vall_mono:∀v:V,vall C v→vall C' v
 | .lit _,_=>by rw [vall];trivial
 | .obj _,_=>by rw [vall];trivial
 | .disp as _,q=>by rw [vall] at q ⊢;exact valls_mono as q
 | .call _ s as,q=>by rw [vall] at q ⊢;exact ⟨h s q.1,valls_mono as q.2⟩
theorem valls_mono:∀as:List V,valls C as→valls C' as
 | [],_=>by rw [valls];trivial
 | a::as,q=>by rw [valls] at q ⊢;exact ⟨vall_mono a q.1,valls_mono as q.2⟩
end
theorem vgood_mono {v:V} (q:vgood C v):vgood C' v:=⟨q.1,q.2.1,vall_mono h v q.2.2⟩
theorem pgood_mono {p:P} (q:pgood C p):pgood C' p:=by
 cases p with
 | y=>trivial
 | r=>trivial
 | der v=>exact vgood_mono h q
theorem agood_mono {a:A} (q:agood C a):agood C' a:=by
 cases a with
 | inn v=>exact vgood_mono h q
 | out _ p=>exact pgood_mono h q
theorem sgood_mono {s:S} (q:sgood C s):sgood C' s:=by
 cases s with
 | pcall i u x as=>exact ⟨q.1,q.2.1,q.2.2.1,h _ q.2.2.2.1,q.2.2.2.2.1,fun a ha=>agood_mono h (q.2.2.2.2.2 a ha)⟩
 | pdisp i as ix=>exact ⟨q.1,q.2.1,q.2.2.1,fun a ha=>agood_mono h (q.2.2.2 a ha)⟩
 | asg i v=>exact ⟨q.1,vgood_mono h q.2⟩
 | ret i o=>
  cases o with
  | none=>exact q
  | some v=>exact ⟨q.1,vgood_mono h q.2⟩
 | null i=>exact q
theorem dgood_mono:∀{k:Nat} {d:Dc},dgood C k d→dgood C' k d
 | k,.var i x none,q=>by cases k<;>exact q
 | 0,.var i x (some v),q=>⟨q.1,q.2.1,vgood_mono h q.2.2⟩
 | k + 1,.var i x (some v),q=>⟨q.1,q.2.1,vgood_mono h q.2.2⟩
 | 0,.ren i x v,q=>⟨q.1,q.2.1,vgood_mono h q.2.2⟩
 | k + 1,.ren i x v,q=>⟨q.1,q.2.1,vgood_mono h q.2.2⟩
 | k,.subt i,q=>by cases k<;>exact q
 | k,.typ i,q=>by cases k<;>exact q
 | k,.exc i,q=>by cases k<;>exact q
 | 0,.pack i a b c ss,q=>q.elim
 | k + 1,.pack i a b c ss,q=>⟨q.1,fun d hd=>dgood_mono (q.2.1 d hd),fun s hs=>⟨sgood_mono h (q.2.2.1 s hs).1,(q.2.2.1 s hs).2⟩,q.2.2.2⟩
 | 0,.sub _ _ _ _,q=>q.elim
 | k + 1,.sub _ _ _ _,q=>q.elim
theorem bgood_mono {b:Body} (q:bgood C b):bgood C' b:=⟨fun d hd=>dgood_mono h (q.1 d hd),fun s hs=>sgood_mono h (q.2 s hs)⟩
end
theorem ents_of {l:Laid} (L:LOk l):∀(f j:Nat),3≤j + f→∀s,Cl j s→Ents G l (entF l f) (20 * f) s
 | 0,j,hj,s,⟨i,h1,h2,e⟩=>fun b hb=>by
  refine ex13 (L s b hb) ?_;intro j' h3 e' _
  have:=sN_inj h2 (by exact Nat.le_succ_of_le h3) (e.symm.trans e')
  lia
 | f + 1,j,hj,s,⟨i,h1,h2,e⟩=>fun b hb=>by
  refine ex13 (L s b hb) ?_;intro j' h3 e' g
  have:=sN_inj h2 (by exact Nat.le_succ_of_le h3) (e.symm.trans e')
  subst this
  exact c_enter (bgood_mono (ents_of L f (i + 1) (by exact lin2 hj h1 (by simp +arith only))) g)
theorem lput_lookup {l:Laid} {x:Str} {b:Body} {s:Str}:(lput l x b).lookup s=if s=x then some b else l.lookup s:=by
 induction l with
 | nil=>
  rewrite [lput];refine rwG List.lookup_cons ?_
  by_cases e:s=x
  ·subst e;simp
  ·refine rwG (if_neg e) ?_
   have:(s==x)=false:=by simpa using e
   refine rwG this ?_;rfl
 | cons p r ih=>
  obtain ⟨y,c⟩:=p
  rw [lput]
  by_cases e:y=x
  ·subst e
   refine rwG (if_pos rfl) ?_;refine rwG List.lookup_cons ?_;refine rwG List.lookup_cons ?_
   by_cases e:s=y
   ·subst e;simp
   ·have:(s==y)=false:=by simpa using e
    refine rwG this ?_;refine rwG (if_neg e) ?_;rfl
  ·refine rwG (if_neg e) ?_;refine rwG List.lookup_cons ?_;refine rwG List.lookup_cons ?_;refine rwG ih ?_
   by_cases e':s=y
   ·subst e';simp [e]
   ·have:(s==y)=false:=by simpa using e'
    refine rwG this ?_;rfl
theorem LOk.put {l:Laid} {j:Nat} {b:Body} (L:LOk l) (hj:j≤2) (hb:bgood (Cl (j + 1)) b):LOk (lput l (sN j) b):=fun s c h=>by
 rw [lput_lookup] at h
 split at h
 ·rename_i e
  cases h
  exact ⟨j,hj,e,hb⟩
 ·exact L s c h
theorem lput_lay {f:Str→Body→D} {l:Laid} {x:Str} {b:Body}:dput (layD f l) x (f x b)=layD f (lput l x b):=by
 induction l with
 | nil=>rfl
 | cons p r ih=>
  obtain ⟨y,c⟩:=p
  unfold layD at *
  refine rwG List.map_cons ?_;rewrite [dput,lput]
  split
  ·rename_i e;subst e;rfl
  ·refine rwG List.map_cons ?_;refine rwG ih ?_;rfl
theorem lput_len {l:Laid} {x:Str} {b:Body}:(lput l x b).length≤l.length + 1:=by
 induction l with
 | nil=>exact Nat.le_refl _
 | cons p r ih=>
  obtain ⟨y,c⟩:=p
  rw [lput]
  split
  ·exact Nat.le_succ _
  ·(refine rwG List.length_cons ?_;refine rwG List.length_cons ?_);exact Nat.lt_succ_of_le ih
noncomputable def tgood:Dc→Prop
 | .sub i x ds ss=>Sm i∧∃j,j≤2∧x=sN j∧bgood (Cl (j + 1)) (ds,ss)
 | d=>dgood (Cl 0) 2 d
theorem LOk.nil:LOk []:=fun s b h=>nomatch h
theorem tops_cons {f:Nat} {l:Laid} {d:Dc} {r:List Dc} (h:∀i x ds ss,d≠.sub i x ds ss):tops f l (d::r)=bind' (bind' (tell (tLine (lineD d))) fun _=>decB l (entF l f) d) fun _=>tops f l r:=by
 cases d with
 | sub i x ds ss=>exact absurd rfl (h i x ds ss)
 | _=>(refine rwG bind'_assoc ?_;rewrite [tops];rfl)<;>first | rfl | nofun | (intros;contradiction)
inductive TopsJ (σ:Sto) (a:BA) (P:Laid→Dd→Prop) (Err:Exn→Dd→Prop) (rest:List Dc) (σ':Sto):Prop
 | mk (d':Dd) (l':Laid):σ'=bput σ a d' (layD fW l')→LOk l'→l'.length + rest.length≤1000→wpM (tops 3 l' rest) P Err d'→TopsJ σ a P Err rest σ'
theorem c_tops {ds:List Dc} (hd:∀d∈ds,tgood d) {a:BA} (ok:BOk a) {d:Dd} {l:Laid} {Err:Exn→Dd→Prop} (hE:∀e d' es,Err e d'→E e (bput σ a d' es)) (L:LOk l) (hl:l.length + ds.length≤1000) (hn:n < 800)
  (h:wpM (tops 3 l ds) (fun l' d'=>LOk l'→Q .none (bput σ a d' (layD fW l'))) Err d):WC G n (.fn 105 0) [.ref a.b,.lst (encDs ds)] (bput σ a d (layD fW l)) Q E:=by
 have h1:n + 1 < 900:=dn 1 hn
 refine WC.fnV k105 (dn' 2 hn) ?_
 refine Vm.forL encDc ds [0,1] (fun _=>[(0,.ref a.b),(1,.lst (encDs ds))]) (fun done=>TopsJ σ a (fun l' d'=>LOk l'→Q .none (bput σ a d' (layD fW l'))) Err (ds.drop done.length)) (by rw [encDs_map];exact .lst) rfl ⟨d,l,rfl,L,hl,h⟩ (fun done s rest σ₀ e q=>?_) fun σ₀ q=>?_
 ·obtain ⟨d',l',rfl,L',hl',q⟩:=q
  have hm:=hd s (by refine rwG e ?_;exact List.mem_append_right _ (.head _))
  rw [drop_here e] at q hl'
  refine rwG (drop_snoc e) ?_
  by_cases hsub:∃i x ds ss,s=.sub i x ds ss
  ·refine ex41 hsub ?_;clear hsub;rintro i x ds' ss rfl
   obtain ⟨hi,j,hj,rfl,hb⟩:=hm
   have hsn:(sN j).length≤20:=(sN_sm (i:=j) (Nat.le_trans hj (by decide))).1
   rw [tops] at q
   rw [encDc]
   refine Vm.at rfl ?_
   refine Vm.blt (CallB.strTup (.cons (.int hi) .nil) (Nat.le_of_ble_eq_true rfl) (dn' 0 h1) fun hl=>?_)
   refine Vm.bin (.addS (sl (Nat.add_le_add_left hl 5))) ?_
   refine Vm.fn (c_tell (dn 0 h1) ok (wpM_mono (wpB q) (fun _ d₁ q=>?_) fun e d₁ q=>hE _ _ _ q))
   refine Vm.wF (by decide) ?_
   refine Vm.wF (by decide) ?_
   refine Vm.wF (by decide) ?_
   refine Vm.wF (by decide) ?_
   refine Vm.wF (by decide) ?_
   refine Vm.wT (by decide) ?_
   refine Vm.at rfl ?_
   refine Vm.sub (.dctM (bput_b ok) (.tail _ (.head _))) ?_
   refine Vm.at rfl ?_
   refine Vm.att (subF_at 0 rfl (by decide +kernel)) ?_
   refine Vm.setI (.dict (bput_ld ok) (by rw [List.length_map];exact Nat.le_trans (Nat.le_add_right _ _) hl')) ?_
   refine rwG (bput_set_ld ok) ?_
   have e1:dput (layD fW l') (sN j) (.ins 55 (subF (sN j) (encDs ds') (ss.map encS)))=layD fW (lput l' (sN j) (ds',ss)):=lput_lay (f:=fW) (b:=(ds',ss))
   refine rwG e1 ?_
   refine Vm.at rfl ?_
   refine Vm.att (subF_at 0 rfl (by decide +kernel)) ?_
   refine Vm.bin (.addS (sl (Nat.add_le_add_left hsn 4))) ?_
   have:=lput_len (l:=l') (x:=sN j) (b:=(ds',ss))
   rw [List.length_cons] at hl'
   exact Vm.fn (c_tell (dn 0 h1) ok (wpM_mono (wpB q) (fun _ d₁ q=>⟨rfl,d₁,_,rfl,L'.put hj hb,by exact lin2 hl' this (by simp +arith only),q⟩) fun e d₁ q=>hE _ _ _ q))
  ·have hns:∀i x ds ss,s≠.sub i x ds ss:=fun i x ds ss e=>hsub ⟨i,x,ds,ss,e⟩
   rw [tops_cons hns] at q
   have hm':dgood (Cl 0) 2 s:=by
    cases s with
    | sub i x ds ss=>exact absurd rfl (hns i x ds ss)
    | _=>exact hm
   exact decl_turn (m:=60) (fun j _=>c_decs j) (dgood_mono (ents_of L' 3 0 (by decide)) hm') ok rfl (by exact lin1 hn (by simp +arith only)) (wpM_mono (wpB q) (fun _ d₁ q=>⟨d₁,l',rfl,L',Nat.le_of_succ_le hl',q⟩) fun e d₁ q=>hE _ _ _ q)
 ·obtain ⟨d',l',rfl,L',hl',q⟩:=q
  rw [List.drop_length,tops] at q
  exact q L'
theorem c_lprogram {ds:List Dc} (hd:∀d∈ds,tgood d) {a:BA} (ok:BOk a) {d:Dd} {Err:Exn→Dd→Prop} (hE:∀e d' es,Err e d'→E e (bput σ a d' es)) (hl:ds.length≤1000) (hn:n < 790)
  (h:wpM (program 3 ds (sN 0)) (fun _ d'=>∀l',Q .none (bput σ a d' (layD fW l'))) Err d):WC G n (.fn 107 0) [.ref a.b,.lst (encDs ds),.str (sN 0)] (bput σ a d []) Q E:=by
 have hsn:(sN 0).length≤1000:=Nat.le_trans (sN_sm (i:=0) (by decide)).1 (by decide)
 have h1:n + 1 < 791:=Nat.succ_lt_succ hn
 rw [program] at h
 refine WC.fnV k107 (dn' 2 hn) ?_
 refine Vm.fn (c_tops (l:=[]) hd ok hE LOk.nil (by (refine rwG List.length_nil ?_;rewrite [Nat.zero_add]);exact hl) (dn 0 h1) (wpM_mono (wpB h) (fun l d₁ q L=>?_) fun _ _ x=>x))
 refine Vm.forL D.str [S_ "arm ",S_ "step (0,)"] [0,1,2] (fun _=>[(0,.ref a.b),(1,.lst (encDs ds)),(2,.str (sN 0))]) (fun done σ'=>WpJ σ a l (([S_ "arm ",S_ "step (0,)"].drop done.length).foldr (fun x m=>bind' (tell x) fun _=>m) (bind' (found l (sN 0)) fun b=>bind' (made (S_ "call") (sN 0) []) fun _=>bind' (entF l 3 b) fun _=>tell (S_ "endbody 0"))) (fun _ d'=>∀l',Q .none (bput σ a d' (layD fW l'))) Err σ')
  .tup rfl ⟨d₁,rfl,q⟩ (fun done s rest σ₀ e q=>?_) fun σ₀ q=>?_
 ·obtain ⟨d',rfl,q⟩:=q
  rw [drop_here e,List.foldr_cons] at q
  refine rwG (drop_snoc e) ?_
  exact Vm.fn (c_tell (dn 0 h1) ok (wpM_mono (wpB q) (fun _ d₁ q=>⟨rfl,d₁,rfl,q⟩) fun e d₁ q=>hE _ _ _ q))
 ·obtain ⟨d',rfl,q⟩:=q
  rw [List.drop_length,List.foldr_nil] at q
  refine Vm.fn (c_found (f:=fW) (dn 0 h1) ok hsn (wpM_mono (wpM_and (wpB q) found_lookup) (fun b d₁ q=>?_) fun e d₁ q=>hE _ _ _ q))
  have hb:=q.1
  refine Vm.fn (c_made (ts:=[]) (dn 0 h1) ok (by decide) hsn ⟨by decide,fun _ h=>nomatch h⟩ .lst (wpM_mono (wpB q.2) (fun t d₁ q=>?_) fun e d₁ q=>hE _ _ _ q))
  refine Vm.fn (ents_of L 3 0 (by decide) (sN 0) ⟨0,by decide,by decide,rfl⟩ b hb (sN 0) (n + 1) _ _ _ a d₁ ok (Nat.add_lt_add_right h1 60 |> fun z=>Nat.lt_of_lt_of_le z (by decide)) (wpM_mono (wpB q) (fun _ d₂ q=>?_) fun e d₁ q=>hE _ _ _ q))
  exact Vm.fn (c_tell (dn 0 h1) ok (wpM_mono q (fun _ d₁ q=>q l) fun e d₁ q=>hE _ _ _ q))
end Mine
end
section
open PySem PySem.W PySem.Calls PyProof.Rows
namespace Mine
set_option backward.match.sparseCases false
variable {G:Glob}
variable {n:Nat} {σ:Sto} {Q:D→Sto→Prop} {E:Exn→Sto→Prop}
theorem filterMap_some {α β:Type} {f:α→Option β} {g:α→β}:∀{l:List α},(∀x∈l,f x=some (g x))→l.filterMap f=l.map g
 | [],_=>rfl
 | x::l,h=>by
  refine rwG List.filterMap_cons ?_;refine rwG (h x (.head _)) ?_;refine rwG List.map_cons ?_;refine rwG (filterMap_some fun y hy=>h y (.tail _ hy)) ?_;rfl
theorem pick_rev (ds:List D):pick ds none none (some (-1))=ds.reverse:=by
 have e:sliceRange (sliceBounds none none (some (-1)) ds.length).1 (sliceBounds none none (some (-1)) ds.length).2.1 (sliceBounds none none (some (-1)) ds.length).2.2=(List.range ds.length).map fun k=>ds.length - 1 - k:=by
  unfold sliceBounds sliceRange
  simp only [Option.getD_some]
  have:¬ ((-1:Int) > 0):=by decide
  simp only [if_neg this]
  rcases Nat.eq_zero_or_pos ds.length with h | h
  ·refine rwG h ?_;rfl
  ·have h1:((ds.length:Int) - 1 > -1):=by lia
   refine rwG (if_pos h1) ?_
   have h2:(((ds.length:Int) - 1 - -1 - -1 - 1) / (- -1)).toNat=ds.length:=by
    refine rwG (show (- -1:Int)=1 from rfl) ?_;rewrite [Int.ediv_one]
    lia
   refine rwG h2 ?_
   refine List.map_congr_left fun k hk=>?_
   lia
 unfold pick
 refine rwG e ?_;refine rwG List.filterMap_map ?_
 rw (config:={}) [filterMap_some (g:=fun k=>ds.getD (ds.length - 1 - k) .none) fun k hk=>?_]
 ·refine List.ext_getElem (by simp) fun i h1 h2=>?_
  simp at h1
  have:ds.length - 1 - i < ds.length:=by lia
  simp [this]
 ·have:=List.mem_range.mp hk
  have h2:ds.length - 1 - k < ds.length:=by lia
  simp [h2]
theorem pick_tail (d:D) (ds:List D):pick (d::ds) (some 1) none none=ds:=by
 have e:sliceRange (sliceBounds (some 1) none none (d::ds).length).1 (sliceBounds (some 1) none none (d::ds).length).2.1 (sliceBounds (some 1) none none (d::ds).length).2.2=(List.range ds.length).map fun k=>1 + k:=by
  unfold sliceBounds sliceRange
  simp only [Option.getD_none]
  have h0:((1:Int) > 0):=by decide
  have h1:¬ ((1:Int) < 0):=by decide
  simp only [if_pos h0,if_neg h1]
  have hl:((d::ds).length:Int)=ds.length + 1:=by simp
  refine rwG hl ?_
  have h2:max 0 (min (1:Int) (ds.length + 1))=1:=by lia
  refine rwG h2 ?_
  rcases Nat.eq_zero_or_pos ds.length with h | h
  ·refine rwG h ?_;rfl
  ·have h3:((1:Int) < ds.length + 1):=by lia
   refine rwG (if_pos h3) ?_
   have h4:(((ds.length:Int) + 1 - 1 + 1 - 1) / 1).toNat=ds.length:=by lia
   refine rwG h4 ?_
   refine List.map_congr_left fun k hk=>?_
   lia
 unfold pick
 refine rwG e ?_;refine rwG List.filterMap_map ?_
 rw (config:={}) [filterMap_some (g:=fun k=>ds.getD k .none) fun k hk=>?_]
 ·refine List.ext_getElem (by simp) fun i h1 h2=>?_
  simp [h2]
 ·have:=List.mem_range.mp hk
  refine (?_:(d::ds)[1 + k]?=_)
  rewrite [Nat.add_comm];refine rwG List.getElem?_cons_succ ?_
  simp [this]
noncomputable abbrev fP:Str→Body→D:=fun x b=>.ins 8 (codeF (rowsW (endW b.1 b.2) b.1 b.2 row_endsub) (encSub x b.1 b.2) [])
noncomputable def PlayC (G:Glob) (l:Laid) (ent:Body→M' Unit) (m:Nat) (b:Body):Prop:=∀(x:Str) (n:Nat) (σ:Sto) (Q:D→Sto→Prop) (E:Exn→Sto→Prop) (a:BA) (d:Dd),BOk a→n + m < 900→
 wpM (ent b) (fun _ d'=>Q .none (bput σ a d' (layD fP l))) (fun e d'=>E e (bput σ a d' (layD fP l))) d→WC G n (.fn 100 0) [.ref a.b,fP x b] (bput σ a d (layD fP l)) Q E
noncomputable def Plays (G:Glob) (l:Laid) (ent:Body→M' Unit) (m:Nat) (s:Str):Prop:=∀b,l.lookup s=some b→PlayC G l ent m b
noncomputable def Beside (σ:Sto) (a:BA) (x:Addr):Prop:=x≠a.b∧x≠a.dl∧x≠a.ld∧σ x=none
noncomputable abbrev pput (σ:Sto) (x:Addr) (stk:List Str) (a:BA) (d:Dd) (es:List (Str×D)):Sto:=bput (σ.set x (.list (stk.map .str))) a d es
theorem pput_x {x:Addr} {stk:List Str} {a:BA} {d:Dd} {es:List (Str×D)} (h:Beside σ a x):pput σ x stk a d es x=some (.list (stk.map .str)):=bput_beside h
theorem pput_set {x:Addr} {stk stk':List Str} {a:BA} {d:Dd} {es:List (Str×D)} (h:Beside σ a x):(pput σ x stk a d es).set x (.list (stk'.map .str))=pput σ x stk' a d es:=bput_beside_set h
theorem pput_push {x:Addr} {stk:List Str} {t:Str} {a:BA} {d:Dd} {es:List (Str×D)} (h:Beside σ a x):(pput σ x stk a d es).set x (.list (stk.map .str++[.str t]))=pput σ x (stk++[t]) a d es:=by
 refine rwG (show stk.map D.str++[D.str t]=(stk++[t]).map D.str by simp) ?_;refine rwG (pput_set h) ?_;rfl
inductive PopsJ (σ:Sto) (x:Addr) (stk ts:List Str) (a:BA) (d:Dd) (es:List (Str×D)) (ds acc:List D) (σ':Sto):Prop
 | mk (rest done:List Str):ts=rest++done→acc=done.reverse.map .str→ds.length=rest.length→σ'=pput σ x (stk++rest) a d es→PopsJ σ x stk ts a d es ds acc σ'
theorem Vm.pops {C:Vc} {K:List Fr} {st:List D} {Γ:Ix} {s:Scope} {x:Addr} {stk ts:List Str} {a:BA} {d:Dd} {es:List (Str×D)} (hx:Beside σ a x) (hΓ:pickI [3] Γ=[(3,.ref x)]) (hz:(stk++ts).length≤big)
  (h:Kn G C K st Γ (.lst (ts.reverse.map .str)) (pput σ x stk a d es)):Vm G C ⟨.lc 9 [3] s (.me0 2 (.v 3))::K,.rng ts.length::st,Γ⟩ (pput σ x (stk++ts) a d es):=by
 have hl:ts.length≤big:=Nat.le_trans (by refine rwG List.length_append ?_;exact Nat.le_add_left _ _) hz
 refine Vm.lc _ (PopsJ σ x stk ts a d es) (.rng (Int.natCast_nonneg _) (Int.ofNat_le.mpr (Nat.le_trans hl (by decide)))) (by (rewrite [List.length_map];refine rwG List.length_range ?_);exact Nat.le_trans hl big_size)
  ⟨ts,[],(List.append_nil _).symm,rfl,by (rewrite [List.length_map];refine rwG List.length_range ?_);rfl,rfl⟩ (fun e ds acc σ₀ q=>?_) fun acc σ₀ q=>?_
 ·obtain ⟨rest,done,e1,e2,e3,rfl⟩:=q
  refine rwG hΓ ?_
  rcases List.eq_nil_or_concat rest with r | ⟨rest',t,r⟩
  ·rw [r] at e3;cases e3
  ·rw [r,List.concat_eq_append] at e1 e3 ⊢
   refine Vm.isT (.lst (pput_x hx)) ?_
   refine Vm.met (CallB.pop (ds:=(stk++rest').map .str) (d:=.str t) (by (refine rwG (pput_x hx) ?_;rewrite [←List.append_assoc];refine rwG (List.map_append (l₁:=stk++rest')) ?_);rfl) (Nat.le_trans ?_ big_size) ?_)
   ·refine rwG List.length_append ?_;rewrite [List.length_map]
    refine Nat.le_trans ?_ hz
    refine rwG e1 ?_;rewrite [←List.append_assoc,←List.append_assoc];refine rwG (List.length_append (bs:=done)) ?_;refine rwG (List.length_append (bs:=[t])) ?_
    exact Nat.le_add_right _ _
   ·refine rwG (pput_set hx) ?_
    exact ⟨rest',t::done,by (refine rwG e1 ?_;rewrite [List.append_assoc]);rfl,by (refine rwG e2 ?_;refine rwG List.reverse_cons ?_;refine rwG List.map_append ?_);rfl,by rw [List.length_cons,List.length_append] at e3;exact Nat.succ.inj e3,rfl⟩
 ·obtain ⟨rest,done,e1,e2,e3,rfl⟩:=q
  have:rest=[]:=List.length_eq_zero_iff.mp e3.symm
  rw [this,List.nil_append] at e1
  refine rwG e2 ?_;refine rwG this ?_;rewrite [List.append_nil];refine rwL e1 ?_
  exact h
end Mine
end
section
open PySem PySem.W PySem.Calls PyProof.Rows
namespace Mine
set_option backward.match.sparseCases false
variable {G:Glob}
variable {n:Nat} {σ:Sto} {Q:D→Sto→Prop} {E:Exn→Sto→Prop}
noncomputable abbrev W1s:List D:=[.str (S_ "step"),.str (S_ "line"),.str (S_ "arm"),.str (S_ "pack"),.str (S_ "endpack"),.str (S_ "laysubtype"),.str (S_ "laytype")]
noncomputable abbrev W2s:List D:=[.str (S_ "callp"),.str (S_ "callf"),.str (S_ "dispatchp"),.str (S_ "dispatchf")]
noncomputable abbrev W3s:List D:=[.str (S_ "const"),.str (S_ "obj"),.str (S_ "place"),.str (S_ "begincell")]
noncomputable abbrev W4s:List D:=[.str (S_ "actual"),.str (S_ "actualout"),.str (S_ "copy"),.str (S_ "target"),.str (S_ "placecomp"),.str (S_ "placederef")]
noncomputable abbrev W5s:List D:=[.str (S_ "store"),.str (S_ "initcell")]
theorem pr_tell (hn:n < 900) {a:BA} (ok:BOk a) {x:Addr} {stk:List Str} {d:Dd} {es:List (Str×D)} {C:D} {w:Str} (hw:w.length≤20) {as:List D} {ps:List PyData} (hl:Leaves as ps) (hz:as.length≤2) (h1:among w W1s=some true) (ha:(w != S_ "arm")=true)
  (h:wpM (tell (w++S_ " "++shT ps)) (fun _ d'=>Q .none (pput σ x stk a d' es)) (fun e d'=>E e (pput σ x stk a d' es)) d):WC G n (.fn 99 0) [.ref a.b,C,.tup (.str w::as),.ref x] (pput σ x stk a d es) Q E:=by
 refine WC.fnV k99 (dn' 2 hn) ?_
 refine Vm.at rfl ?_
 refine Vm.cmp (.amg h1) ?_
 refine Vm.bin (.addS (sl (c:=21) (Nat.add_le_add_right hw 1))) ?_
 refine Vm.neT ha ?_
 refine Vm.slc .int .int .none ?_
 refine Vm.sub (.tupT (n:=1) (m:=3) (by decide) (Nat.succ_le_succ (Nat.zero_le _)) (sl (Nat.succ_le_succ hz))) ?_
 refine rwG (show ((D.str w::as).drop 1).take (min 3 (D.str w::as).length - 1)=as by (refine rwG List.drop_one ?_;refine rwG List.tail_cons ?_;rewrite [List.take_of_length_le];rfl);exact Nat.le_sub_of_add_le (Nat.le_min.mpr ⟨Nat.succ_le_succ hz,Nat.le_refl _⟩)) ?_
 refine Vm.blt (CallB.strTup hl (Nat.le_trans hz (by decide)) (dn' 1 hn) fun hl=>?_)
 refine Vm.bin (.addS (sl (c:=921) (by rw [len_append];exact Nat.add_le_add (Nat.add_le_add_right hw 1) hl))) ?_
 exact Vm.fn (c_tell (dn 1 hn) ok (wpM_mono h (fun _ d₁ q=>q) fun _ _ q=>q))
theorem pr_arm (hn:n < 900) {a:BA} (ok:BOk a) {x:Addr} {stk:List Str} {d:Dd} {es:List (Str×D)} {C:D} (h:wpM (tell (S_ "arm ")) (fun _ d'=>Q .none (pput σ x stk a d' es)) (fun e d'=>E e (pput σ x stk a d' es)) d):WC G n (.fn 99 0) [.ref a.b,C,row_arm,.ref x] (pput σ x stk a d es) Q E:=by
 refine WC.fnV k99 (dn' 2 hn) ?_
 refine Vm.at rfl ?_
 refine Vm.cmp (.amg (b:=true) (by decide +kernel)) ?_
 refine Vm.bin (.addS (a:=S_ "arm") (b:=S_ " ") (by refine rwG sizeLine_eq ?_;decide)) ?_
 refine Vm.cmp (op:=.NotEq) (c:=false) .neS ?_
 refine Vm.blt (CallB.strS ?_)
 refine Vm.bin (.addS (by refine rwG sizeLine_eq ?_;decide)) ?_
 refine rwG (show (S_ "arm"++S_ " ":Str)++S_ ""=S_ "arm " by decide +kernel) ?_
 exact Vm.fn (c_tell (dn 1 hn) ok (wpM_mono h (fun _ d₁ q=>q) fun _ _ q=>q))
theorem pr_push (hn:n < 900) {a:BA} (ok:BOk a) {x:Addr} {stk:List Str} {d:Dd} {es:List (Str×D)} {C:D} (hx:Beside σ a x) (hz:stk.length + 10≤2 ^ 20) {w:Str} (hw:w.length≤20) {as:List D} {ps:List PyData} (hl:Leaves as ps) (hz2:as.length≤4) (h1:among w W1s=some false) (h2:(w==S_ "laysub")=false) (h3:(w==S_ "sub")=false) (h4:among w W2s=some false) (h5:among w W3s=some true)
  (h:Q .none (pput σ x (stk++[w++shL ps]) a d es)):WC G n (.fn 99 0) [.ref a.b,C,.tup (.str w::as),.ref x] (pput σ x stk a d es) Q E:=by
 refine WC.fnV k99 (dn' 2 hn) ?_
 refine Vm.at rfl ?_
 refine Vm.cmp (.amg h1) ?_
 refine Vm.eqF h2 ?_
 refine Vm.eqF h3 ?_
 refine Vm.cmp (.amg h4) ?_
 refine Vm.cmp (.amg h5) ?_
 refine Vm.isT (.lst (pput_x hx)) ?_
 refine Vm.slc .int .none .none ?_
 refine Vm.sub (.tupF (n:=1) (by decide) (Nat.succ_le_succ (Nat.zero_le _)) (sl (Nat.succ_le_succ hz2))) ?_
 refine rwG List.drop_one ?_;refine rwG List.tail_cons ?_
 refine Vm.blt (CallB.list .tup (sl hz2) fun z hz'=>?_)
 refine Vm.fz (.L Sto.at_set) ?_
 refine rwG (Sto.del_set hz') ?_
 refine Vm.blt (CallB.strLst hl hz2 (dn' 1 hn) fun hl=>?_)
 refine Vm.bin (.addS (sl (c:=920) (Nat.add_le_add hw hl))) ?_
 refine Vm.met (CallB.append (pput_x hx) (by rw [List.length_map];exact sl (c:=2 ^ 20) (Nat.le_trans (Nat.le_add_right _ 10) hz)) ?_)
 refine rwG (pput_push hx) ?_
 exact h
theorem pr_made (hn:n < 900) {a:BA} (ok:BOk a) {x:Addr} {stk:List Str} {d:Dd} {es:List (Str×D)} {C:D} (hx:Beside σ a x) (hz:stk.length + 10≤2 ^ 20) {w:Str} (hw:w.length≤20) {as:List D} (h1:among w W1s=some false) (h2:(w==S_ "laysub")=false) (h3:(w==S_ "sub")=false) (h4:among w W2s=some false) (h5:among w W3s=some false) (h6:among w W4s=some true) (hc:(w==S_ "placecomp")=false) {t:Str} (ht:t.length≤2 ^ 16) (h:wpM (made (w) (S_ "") [t]) (fun c d'=>Q .none (pput σ x (stk++[c]) a d' es)) (fun e d'=>∀ts,E e (pput σ x ts a d' es)) d):WC G n (.fn 99 0) [.ref a.b,C,.tup (.str w::as),.ref x] (pput σ x (stk++[t]) a d es) Q E:=by
 refine WC.fnV k99 (dn' 2 hn) ?_
 refine Vm.at rfl ?_
 refine Vm.cmp (.amg h1) ?_
 refine Vm.eqF h2 ?_
 refine Vm.eqF h3 ?_
 refine Vm.cmp (.amg h4) ?_
 refine Vm.cmp (.amg h5) ?_
 refine Vm.cmp (.amg h6) ?_
 refine Vm.isT (.lst (pput_x hx)) ?_
 refine Vm.eqF hc ?_
 refine Vm.blt (CallB.strS ?_)
 refine Vm.isT (.lst (pput_x hx)) ?_
 refine Vm.met (CallB.pop (ds:=stk.map .str) (d:=.str t) (by (refine rwG (pput_x hx) ?_;refine rwG List.map_append ?_);rfl) (by (refine rwG List.length_append ?_;rewrite [List.length_map]);exact sl (c:=2 ^ 20) (Nat.le_trans (Nat.add_le_add_left (Nat.le_of_ble_eq_true rfl) _) hz)) ?_)
 refine rwG (pput_set hx) ?_
 refine Vm.fn (c_made (ts:=[t]) (dn 1 hn) ok (Nat.le_trans hw (by decide)) (by decide) (short_one ht) .lst (wpM_mono h (fun c d₂ q=>?_) fun _ _ q=>q stk))
 refine Vm.met (CallB.append (pput_x hx) (by rw [List.length_map];exact sl (c:=2 ^ 20) (Nat.le_trans (Nat.le_add_right _ 10) hz)) ?_)
 refine rwG (pput_push hx) ?_
 exact q
theorem pr_placecomp (hn:n < 900) {a:BA} (ok:BOk a) {x:Addr} {stk:List Str} {d:Dd} {es:List (Str×D)} {C:D} (hx:Beside σ a x) (hz:stk.length + 10≤2 ^ 20)  {t:Str} (ht:t.length≤2 ^ 16) (h:wpM (made (S_ "placecomp") (shT [.str (S_ "f")]) [t]) (fun c d'=>Q .none (pput σ x (stk++[c]) a d' es)) (fun e d'=>∀ts,E e (pput σ x ts a d' es)) d):WC G n (.fn 99 0) [.ref a.b,C,row_placecomp (S_ "f"),.ref x] (pput σ x (stk++[t]) a d es) Q E:=by
 refine WC.fnV k99 (dn' 2 hn) ?_
 refine Vm.at rfl ?_
 refine Vm.cmp (.amg (b:=false) (by decide +kernel)) ?_
 refine Vm.eqF (by decide) ?_
 refine Vm.eqF (by decide) ?_
 refine Vm.cmp (.amg (b:=false) (by decide +kernel)) ?_
 refine Vm.cmp (.amg (b:=false) (by decide +kernel)) ?_
 refine Vm.cmp (.amg (b:=true) (by decide +kernel)) ?_
 refine Vm.isT (.lst (pput_x hx)) ?_
 refine Vm.eqT (by decide) ?_
 refine Vm.slc .int .none .none ?_
 refine Vm.sub (.tupF (n:=1) (by decide) (Nat.le_of_ble_eq_true rfl) (sl (c:=2) (Nat.le_refl _))) ?_
 refine Vm.blt (CallB.strTup (ds:=[.str (S_ "f")]) (.cons (.str sms_f) .nil) (Nat.le_of_ble_eq_true rfl) (dn' 1 hn) fun hl=>?_)
 refine Vm.isT (.lst (pput_x hx)) ?_
 refine Vm.met (CallB.pop (ds:=stk.map .str) (d:=.str t) (by (refine rwG (pput_x hx) ?_;refine rwG List.map_append ?_);rfl) (by (refine rwG List.length_append ?_;rewrite [List.length_map]);exact sl (c:=2 ^ 20) (Nat.le_trans (Nat.add_le_add_left (Nat.le_of_ble_eq_true rfl) _) hz)) ?_)
 refine rwG (pput_set hx) ?_
 refine Vm.fn (c_made (ts:=[t]) (dn 1 hn) ok (by decide) (Nat.le_trans hl (by decide)) (short_one ht) .lst (wpM_mono h (fun c d₂ q=>?_) fun _ _ q=>q stk))
 refine Vm.met (CallB.append (pput_x hx) (by rw [List.length_map];exact sl (c:=2 ^ 20) (Nat.le_trans (Nat.le_add_right _ 10) hz)) ?_)
 refine rwG (pput_push hx) ?_
 exact q
theorem pr_rest2 (hn:n < 900) {a:BA} (ok:BOk a) {x:Addr} {stk:List Str} {d:Dd} {es:List (Str×D)} {C:D} (hx:Beside σ a x) (hz:stk.length + 10≤2 ^ 20) {w:Str} (hw:w.length≤20) {as:List D} {ps:List PyData} (hl:Leaves as ps) (hz2:as.length≤4) (h1:among w W1s=some false) (h2:(w==S_ "laysub")=false) (h3:(w==S_ "sub")=false) (h4:among w W2s=some false) (h5:among w W3s=some false) (h6:among w W4s=some false) (h7:among w W5s=some true) {t u:Str} (ht:t.length≤2 ^ 16) (hu:u.length≤2 ^ 16)
  (h:wpM (made w (shT ps) [t,u]) (fun c d'=>Q .none (pput σ x stk a d' es)) (fun e d'=>∀ts,E e (pput σ x ts a d' es)) d):WC G n (.fn 99 0) [.ref a.b,C,.tup (.str w::as),.ref x] (pput σ x (stk++[t,u]) a d es) Q E:=by
 refine WC.fnV k99 (dn' 2 hn) ?_
 refine Vm.at rfl ?_
 refine Vm.cmp (.amg h1) ?_
 refine Vm.eqF h2 ?_
 refine Vm.eqF h3 ?_
 refine Vm.cmp (.amg h4) ?_
 refine Vm.cmp (.amg h5) ?_
 refine Vm.cmp (.amg h6) ?_
 refine Vm.cmp (.amg h7) ?_
 refine Vm.blt (CallB.range ?_)
 refine Vm.pops (ts:=[t,u]) hx rfl (by refine rwG List.length_append ?_;exact Nat.le_trans (Nat.add_le_add_left (Nat.le_of_ble_eq_true rfl) _) hz) ?_
 refine Vm.slc .none .none .int ?_
 refine Vm.sub (.lstS (by decide) (sl (c:=2) (Nat.le_of_ble_eq_true rfl))) ?_
 rewrite [pick_rev];refine rwG (show (([t,u]:List Str).reverse.map D.str).reverse=([t,u]:List Str).map D.str from rfl) ?_
 refine Vm.slc .int .none .none ?_
 refine Vm.sub (.tupF (n:=1) (by decide) (Nat.succ_le_succ (Nat.zero_le _)) (sl (Nat.succ_le_succ hz2))) ?_
 refine rwG List.drop_one ?_;refine rwG List.tail_cons ?_
 refine Vm.blt (CallB.strTup hl hz2 (dn' 1 hn) fun hl=>?_)
 exact Vm.fn (c_made (ts:=[t,u]) (dn 1 hn) ok (Nat.le_trans hw (by decide)) (Nat.le_trans hl (by decide)) (short_two ht hu) .lst (wpM_mono h (fun c d₂ q=>q) fun _ _ q=>q stk))
theorem pr_rest1 (hn:n < 900) {a:BA} (ok:BOk a) {x:Addr} {stk:List Str} {d:Dd} {es:List (Str×D)} {C:D} (hx:Beside σ a x) (hz:stk.length + 10≤2 ^ 20) {w:Str} (hw:w.length≤20) {as:List D} {ps:List PyData} (hl:Leaves as ps) (hz2:as.length≤4) (h1:among w W1s=some false) (h2:(w==S_ "laysub")=false) (h3:(w==S_ "sub")=false) (h4:among w W2s=some false) (h5:among w W3s=some false) (h6:among w W4s=some false) (h7:among w W5s=some false) {t:Str} (ht:t.length≤2 ^ 16)
  (h:wpM (made w (shT ps) [t]) (fun c d'=>Q .none (pput σ x stk a d' es)) (fun e d'=>∀ts,E e (pput σ x ts a d' es)) d):WC G n (.fn 99 0) [.ref a.b,C,.tup (.str w::as),.ref x] (pput σ x (stk++[t]) a d es) Q E:=by
 refine WC.fnV k99 (dn' 2 hn) ?_
 refine Vm.at rfl ?_
 refine Vm.cmp (.amg h1) ?_
 refine Vm.eqF h2 ?_
 refine Vm.eqF h3 ?_
 refine Vm.cmp (.amg h4) ?_
 refine Vm.cmp (.amg h5) ?_
 refine Vm.cmp (.amg h6) ?_
 refine Vm.cmp (.amg h7) ?_
 refine Vm.blt (CallB.range ?_)
 refine Vm.pops (ts:=[t]) hx rfl (by refine rwG List.length_append ?_;exact Nat.le_trans (Nat.add_le_add_left (Nat.le_of_ble_eq_true rfl) _) hz) ?_
 refine Vm.slc .none .none .int ?_
 refine Vm.sub (.lstS (by decide) (sl (c:=2) (Nat.le_of_ble_eq_true rfl))) ?_
 rewrite [pick_rev];refine rwG (show (([t]:List Str).reverse.map D.str).reverse=([t]:List Str).map D.str from rfl) ?_
 refine Vm.slc .int .none .none ?_
 refine Vm.sub (.tupF (n:=1) (by decide) (Nat.succ_le_succ (Nat.zero_le _)) (sl (Nat.succ_le_succ hz2))) ?_
 refine rwG List.drop_one ?_;refine rwG List.tail_cons ?_
 refine Vm.blt (CallB.strTup hl hz2 (dn' 1 hn) fun hl=>?_)
 exact Vm.fn (c_made (ts:=[t]) (dn 1 hn) ok (Nat.le_trans hw (by decide)) (Nat.le_trans hl (by decide)) (short_one ht) .lst (wpM_mono h (fun c d₂ q=>q) fun _ _ q=>q stk))
end Mine
end
section
open PySem PySem.W PySem.Calls PyProof.Rows
namespace Mine
set_option backward.match.sparseCases false
variable {G:Glob}
variable {n:Nat} {σ:Sto} {Q:D→Sto→Prop} {E:Exn→Sto→Prop}
theorem SubR.lstAt {ds:List D} {i:Int} {d:D} (h0:0≤i) (h1:i < 2 ^ 63) (h:ds[i.toNat]?=some d):SubR σ (.lst ds) (.int i) d:=.lstI h0 h1 h
theorem laid_mem {f:Str→Body→D} {l:Laid} {s:Str} {b:Body} (h:l.lookup s=some b):(s,f s b)∈layD f l:=List.mem_map.mpr ⟨_,lookup_mem' h,rfl⟩
theorem c_call_p {l:Laid} {ent:Body→M' Unit} {m:Nat} {s:Str} {ts:List Str} {b:Body} {k:Int} (hb:l.lookup s=some b) (he:Plays G l ent m s) (hs:s.length≤1000) (ht:Short ts) {a:BA} (ok:BOk a) {d:Dd} (hn:n + m + 5 < 900)
  (h:wpM (bind' (made (S_ "call") s ts) fun _=>ent b) (fun _ d'=>Q .none (bput σ a d' (layD fP l))) (fun e d'=>E e (bput σ a d' (layD fP l))) d):WC G n (.fn 98 0) [.ref a.b,row_callp k,.lst ((s::ts).map .str)] (bput σ a d (layD fP l)) Q E:=by
 have hl:=ht.1
 have h1:n + 1 < 900:=by exact lin1 hn (by simp +arith only)
 refine WC.fnV k98 (dz' 2 hn) ?_
 refine Vm.wT (by decide) ?_
 refine Vm.sub (.lstAt (by decide) (by decide) (d:=.str s) rfl) ?_
 refine Vm.slc .int .none .none ?_
 refine Vm.sub (.lstS (by decide) (by rw [List.length_map];exact sl (Nat.succ_le_succ hl))) ?_
 refine rwG List.map_cons ?_;rewrite [pick_tail]
 refine Vm.fn (c_made (ts:=ts) (dn 0 h1) ok (by decide) hs ht .lst (wpM_mono (wpB h) (fun t d₁ q=>?_) fun _ _ q=>q))
 refine Vm.sub (.dctM (bput_b ok) (.tail _ (.head _))) ?_
 refine Vm.sub (.lstAt (by decide) (by decide) (d:=.str s) rfl) ?_
 refine Vm.sub (.dctM (bput_ld ok) (laid_mem hb)) ?_
 exact Vm.fn (he b hb s (n + 1) _ _ _ a d₁ ok (by exact lin1 hn (by simp +arith only)) (wpM_mono q (fun _ d₂ q=>q) fun _ _ q=>q))
theorem c_call_f {l:Laid} {ent:Body→M' Unit} {m:Nat} {s:Str} {ts:List Str} {u k:Int} (he:Plays G l ent m s) (hs:s.length≤1000) (ht:Short ts) {a:BA} (ok:BOk a) {d:Dd} (hn:n + m + 5 < 900)
  (h:wpM (bind' (found l s) fun b=>bind' (made (S_ "call") s ts) fun t=>bind' (ent b) fun _=>ret' t) (fun t d'=>Q (.str t) (bput σ a d' (layD fP l))) (fun e d'=>E e (bput σ a d' (layD fP l))) d):WC G n (.fn 98 0) [.ref a.b,row_callf u s k,.lst (ts.map .str)] (bput σ a d (layD fP l)) Q E:=by
 have h1:n + 1 < 900:=by exact lin1 hn (by simp +arith only)
 refine WC.fnV k98 (dz' 2 hn) ?_
 refine Vm.wF (by decide) ?_
 refine Vm.at rfl ?_
 refine Vm.cmp (.amg (b:=false) (by decide +kernel)) ?_
 refine Vm.at rfl ?_
 refine Vm.fn (c_found (f:=fP) (dn 0 h1) ok hs (wpM_mono (wpM_and (wpB h) found_lookup) (fun b d₁ q=>?_) fun e d₁ q=>q))
 have hb:=q.1
 refine Vm.at rfl ?_
 refine Vm.fn (c_made (ts:=ts) (dn 0 h1) ok (by decide) hs ht .lst (wpM_mono (wpB q.2) (fun t d₁ q=>?_) fun _ _ q=>q))
 exact Vm.fn (he b hb s (n + 1) _ _ _ a d₁ ok (by exact lin1 hn (by simp +arith only)) (wpM_mono (wpB q) (fun _ d₂ q=>q) fun _ _ q=>q))
theorem c_call_df {ts:List Str} {ix k:Int} (hi:Sm ix) (ht:Short ts) {a:BA} (ok:BOk a) {d:Dd} {es:List (Str×D)} (hn:n + 5 < 900)
  (h:wpM (made (S_ "by tag "++iS ix) (S_ "area") ts) (fun t d'=>Q (.str t) (bput σ a d' es)) (fun e d'=>E e (bput σ a d' es)) d):WC G n (.fn 98 0) [.ref a.b,row_dispatchf (S_ "area") ix k,.lst (ts.map .str)] (bput σ a d es) Q E:=by
 have hil:(iS ix).length≤8:=iS_len hi
 refine WC.fnV k98 (dx' 2 hn) ?_
 refine Vm.wF (by decide) ?_
 refine Vm.at rfl ?_
 refine Vm.cmp (.amg (b:=true) (by decide +kernel)) ?_
 refine Vm.at rfl ?_
 refine Vm.blt (CallB.strI (Sm.log hi) ?_)
 refine Vm.bin (.addS (sl (Nat.add_le_add_left hil 7))) ?_
 refine Vm.at rfl ?_
 refine Vm.fn (c_made (ts:=ts) (dx 1 hn) ok (by rw [len_append];exact Nat.le_trans (Nat.add_le_add_left hil 7) (by decide)) (by decide) ht .lst (wpM_mono h (fun t d₁ q=>?_) fun _ _ q=>q))
 exact Vm.wT (by decide) q
theorem c_call_dp {ts:List Str} {ix k:Int} (hi:Sm ix) (ht:Short ts) {a:BA} (ok:BOk a) {d:Dd} {es:List (Str×D)} (hn:n + 5 < 900)
  (h:wpM (made (S_ "by tag "++iS ix) (S_ "draw") ts) (fun t d'=>Q .none (bput σ a d' es)) (fun e d'=>E e (bput σ a d' es)) d):WC G n (.fn 98 0) [.ref a.b,row_dispatchp (S_ "draw") ix k,.lst (ts.map .str)] (bput σ a d es) Q E:=by
 have hil:(iS ix).length≤8:=iS_len hi
 refine WC.fnV k98 (dx' 2 hn) ?_
 refine Vm.wF (by decide) ?_
 refine Vm.at rfl ?_
 refine Vm.cmp (.amg (b:=true) (by decide +kernel)) ?_
 refine Vm.at rfl ?_
 refine Vm.blt (CallB.strI (Sm.log hi) ?_)
 refine Vm.bin (.addS (sl (Nat.add_le_add_left hil 7))) ?_
 refine Vm.at rfl ?_
 refine Vm.fn (c_made (ts:=ts) (dx 1 hn) ok (by rw [len_append];exact Nat.le_trans (Nat.add_le_add_left hil 7) (by decide)) (by decide) ht .lst (wpM_mono h (fun t d₁ q=>?_) fun _ _ q=>q))
 exact Vm.wF (by decide) q
theorem pr_sub {l:Laid} (hn:n < 900) {a:BA} (ok:BOk a) {x:Addr} {stk:List Str} {d:Dd} {C:D} (hx:Beside σ a x) (hz:stk.length + 10≤2 ^ 20) {u:Int} {s:Str} (hs:s.length≤1000)
  (h:wpM (found l s) (fun _ d'=>Q .none (pput σ x (stk++[s]) a d' (layD fP l))) (fun e d'=>E e (pput σ x stk a d' (layD fP l))) d):WC G n (.fn 99 0) [.ref a.b,C,row_sub u s,.ref x] (pput σ x stk a d (layD fP l)) Q E:=by
 refine WC.fnV k99 (dn' 2 hn) ?_
 refine Vm.at rfl ?_
 refine Vm.cmp (.amg (b:=false) (by decide +kernel)) ?_
 refine Vm.eqF (by decide) ?_
 refine Vm.eqT (by decide) ?_
 refine Vm.at rfl ?_
 refine Vm.fn (c_found (f:=fP) (dn 1 hn) ok hs (wpM_mono h (fun b d₁ q=>?_) fun e d₁ q=>q))
 refine Vm.isT (.lst (pput_x hx)) ?_
 refine Vm.at rfl ?_
 refine Vm.met (CallB.append (pput_x hx) (by rw [List.length_map];exact sl (c:=2 ^ 20) (Nat.le_trans (Nat.le_add_right _ 10) hz)) ?_)
 refine rwG (pput_push hx) ?_
 exact q
theorem pr_laysub {l:Laid} (hn:n < 900) {a:BA} (ok:BOk a) {x:Addr} {stk:List Str} {d:Dd} {rows:List D} {src:D} {codes:List D} {i:Nat} {y:Str} {b:Body} (hi:i < 2 ^ 40) (hc:codes[i]?=some (fP y b)) (hl:l.length≤1000) (hy:y.length≤1000)
  (h:wpM (tell (S_ "lay "++y)) (fun _ d'=>Q .none (pput σ x stk a d' (layD fP (lput l y b)))) (fun e d'=>E e (pput σ x stk a d' (layD fP (lput l y b)))) d):WC G n (.fn 99 0) [.ref a.b,.ins 8 (codeF rows src codes),row_laysub i,.ref x] (pput σ x stk a d (layD fP l)) Q E:=by
 refine WC.fnV k99 (dn' 2 hn) ?_
 refine Vm.at rfl ?_
 refine Vm.cmp (.amg (b:=false) (by decide +kernel)) ?_
 refine Vm.eqT (by decide) ?_
 refine Vm.att (codeF_at 2 rfl (by decide +kernel)) ?_
 refine Vm.at rfl ?_
 refine Vm.sub (.lstAt (Int.natCast_nonneg _) (Int.lt_trans (Int.ofNat_lt.mpr hi) (by decide)) (d:=fP y b) hc) ?_
 refine Vm.sub (.dctM (bput_b ok) (.tail _ (.head _))) ?_
 refine Vm.att (codeF_at 1 rfl (by decide +kernel)) ?_
 refine Vm.att (subF_at 0 rfl (by decide +kernel)) ?_
 refine Vm.setI (.dict (bput_ld ok) (by rw [List.length_map];exact hl)) ?_
 refine rwG (bput_set_ld ok) ?_;refine rwG (lput_lay (f:=fP)) ?_
 refine Vm.att (codeF_at 1 rfl (by decide +kernel)) ?_
 refine Vm.att (subF_at 0 rfl (by decide +kernel)) ?_
 refine Vm.bin (.addS (sl (Nat.add_le_add_left hy 4))) ?_
 exact Vm.fn (c_tell (dn 1 hn) ok (wpM_mono h (fun _ d₁ q=>q) fun _ _ q=>q))
theorem pr_callp {l:Laid} {ent:Body→M' Unit} {m:Nat} (hn:n + m + 9 < 900) {a:BA} (ok:BOk a) {x:Addr} {stk:List Str} {d:Dd} {C:D} (hx:Beside σ a x) (hz:stk.length + 10≤2 ^ 20) {s:Str} {b:Body} (hb:l.lookup s=some b) (he:Plays G l ent m s) (hs:s.length≤1000) {ts:List Str} (ht:Short ts)
  (h:wpM (bind' (made (S_ "call") s ts) fun _=>ent b) (fun _ d'=>Q .none (pput σ x (stk) a d' (layD fP l))) (fun e d'=>∀ts,E e (pput σ x ts a d' (layD fP l))) d):WC G n (.fn 99 0) [.ref a.b,C,row_callp ts.length,.ref x] (pput σ x (stk++(s::ts)) a d (layD fP l)) Q E:=by
 have hl:((s::ts)).length≤5:=Nat.succ_le_succ ht.1
 refine WC.fnV k99 (dz' 2 hn) ?_
 refine Vm.at rfl ?_
 refine Vm.cmp (.amg (b:=false) (by decide +kernel)) ?_
 refine Vm.eqF (by decide) ?_
 refine Vm.eqF (by decide) ?_
 refine Vm.cmp (.amg (b:=true) (by decide +kernel)) ?_
 refine Vm.sub (.tupLast (ds:=[.str (S_ "callp")])) ?_
 refine Vm.eqT (by decide) ?_
 refine Vm.bin .addI ?_
 refine rwG (show ((ts.length:Nat):Int) + 1=((s::ts).length:Nat) from rfl) ?_
 refine Vm.blt (CallB.range ?_)
 refine Vm.pops (ts:=(s::ts)) hx rfl (by refine rwG List.length_append ?_;exact Nat.le_trans (Nat.add_le_add_left (Nat.le_trans hl (by decide)) _) hz) ?_
 refine Vm.slc .none .none .int ?_
 refine Vm.sub (.lstS (by decide) (by (rewrite [List.length_map];refine rwG List.length_reverse ?_);exact sl hl)) ?_
 rewrite [pick_rev];refine rwL List.map_reverse ?_;rewrite [List.reverse_reverse]
 refine Vm.fn (c_call_p hb he hs ht ok (dm 5 hn) (wpM_mono h (fun t d₂ q=>?_) fun _ _ q=>q stk))
 exact Vm.cmp (c:=false) .isNotN q
theorem pr_callf {l:Laid} {ent:Body→M' Unit} {m:Nat} (hn:n + m + 9 < 900) {a:BA} (ok:BOk a) {x:Addr} {stk:List Str} {d:Dd} {C:D} (hx:Beside σ a x) (hz:stk.length + 10≤2 ^ 20) {u:Int} {s:Str} (he:Plays G l ent m s) (hs:s.length≤1000) {ts:List Str} (ht:Short ts)
  (h:wpM (bind' (found l s) fun b=>bind' (made (S_ "call") s ts) fun t=>bind' (ent b) fun _=>ret' t) (fun t d'=>Q .none (pput σ x (stk++[t]) a d' (layD fP l))) (fun e d'=>∀ts,E e (pput σ x ts a d' (layD fP l))) d):WC G n (.fn 99 0) [.ref a.b,C,row_callf u s ts.length,.ref x] (pput σ x (stk++ts) a d (layD fP l)) Q E:=by
 have hl:ts.length≤5:=Nat.le_trans ht.1 (by decide)
 refine WC.fnV k99 (dz' 2 hn) ?_
 refine Vm.at rfl ?_
 refine Vm.cmp (.amg (b:=false) (by decide +kernel)) ?_
 refine Vm.eqF (by decide) ?_
 refine Vm.eqF (by decide) ?_
 refine Vm.cmp (.amg (b:=true) (by decide +kernel)) ?_
 refine Vm.sub (.tupLast (ds:=[.str (S_ "callf"),.int u,.str s])) ?_
 refine Vm.eqF (by decide) ?_
 refine Vm.bin .addI ?_
 rw [Int.add_zero]
 refine Vm.blt (CallB.range ?_)
 refine Vm.pops (ts:=ts) hx rfl (by refine rwG List.length_append ?_;exact Nat.le_trans (Nat.add_le_add_left (Nat.le_trans hl (by decide)) _) hz) ?_
 refine Vm.slc .none .none .int ?_
 refine Vm.sub (.lstS (by decide) (by (rewrite [List.length_map];refine rwG List.length_reverse ?_);exact sl hl)) ?_
 rewrite [pick_rev];refine rwL List.map_reverse ?_;rewrite [List.reverse_reverse]
 refine Vm.fn (c_call_f he hs ht ok (dm 5 hn) (wpM_mono h (fun t d₂ q=>?_) fun _ _ q=>q stk))
 refine Vm.cmp (c:=true) .isNotN ?_
 refine Vm.isT (.lst (pput_x hx)) ?_
 refine Vm.met (CallB.append (pput_x hx) (by rw [List.length_map];exact sl (c:=2 ^ 20) (Nat.le_trans (Nat.le_add_right _ 10) hz)) ?_)
 refine rwG (pput_push hx) ?_
 exact q
theorem pr_dispatchf {es:List (Str×D)} (hn:n + 9 < 900) {a:BA} (ok:BOk a) {x:Addr} {stk:List Str} {d:Dd} {C:D} (hx:Beside σ a x) (hz:stk.length + 10≤2 ^ 20) {ix:Int} (hi:Sm ix) {ts:List Str} (ht:Short ts)
  (h:wpM (made (S_ "by tag "++iS ix) (S_ "area") ts) (fun t d'=>Q .none (pput σ x (stk++[t]) a d' es)) (fun e d'=>∀ts,E e (pput σ x ts a d' es)) d):WC G n (.fn 99 0) [.ref a.b,C,row_dispatchf (S_ "area") ix ts.length,.ref x] (pput σ x (stk++ts) a d es) Q E:=by
 have hl:ts.length≤5:=Nat.le_trans ht.1 (by decide)
 refine WC.fnV k99 (dx' 2 hn) ?_
 refine Vm.at rfl ?_
 refine Vm.cmp (.amg (b:=false) (by decide +kernel)) ?_
 refine Vm.eqF (by decide) ?_
 refine Vm.eqF (by decide) ?_
 refine Vm.cmp (.amg (b:=true) (by decide +kernel)) ?_
 refine Vm.sub (.tupLast (ds:=[.str (S_ "dispatchf"),.str (S_ "area"),.int ix])) ?_
 refine Vm.eqF (by decide) ?_
 refine Vm.bin .addI ?_
 rw [Int.add_zero]
 refine Vm.blt (CallB.range ?_)
 refine Vm.pops (ts:=ts) hx rfl (by refine rwG List.length_append ?_;exact Nat.le_trans (Nat.add_le_add_left (Nat.le_trans hl (by decide)) _) hz) ?_
 refine Vm.slc .none .none .int ?_
 refine Vm.sub (.lstS (by decide) (by (rewrite [List.length_map];refine rwG List.length_reverse ?_);exact sl hl)) ?_
 rewrite [pick_rev];refine rwL List.map_reverse ?_;rewrite [List.reverse_reverse]
 refine Vm.fn (c_call_df hi ht ok (dj 5 hn) (wpM_mono h (fun t d₂ q=>?_) fun _ _ q=>q stk))
 refine Vm.cmp (c:=true) .isNotN ?_
 refine Vm.isT (.lst (pput_x hx)) ?_
 refine Vm.met (CallB.append (pput_x hx) (by rw [List.length_map];exact sl (c:=2 ^ 20) (Nat.le_trans (Nat.le_add_right _ 10) hz)) ?_)
 refine rwG (pput_push hx) ?_
 exact q
theorem pr_dispatchp {es:List (Str×D)} (hn:n + 9 < 900) {a:BA} (ok:BOk a) {x:Addr} {stk:List Str} {d:Dd} {C:D} (hx:Beside σ a x) (hz:stk.length + 10≤2 ^ 20) {ix:Int} (hi:Sm ix) {ts:List Str} (ht:Short ts)
  (h:wpM (made (S_ "by tag "++iS ix) (S_ "draw") ts) (fun _ d'=>Q .none (pput σ x (stk) a d' es)) (fun e d'=>∀ts,E e (pput σ x ts a d' es)) d):WC G n (.fn 99 0) [.ref a.b,C,row_dispatchp (S_ "draw") ix ts.length,.ref x] (pput σ x (stk++ts) a d es) Q E:=by
 have hl:ts.length≤5:=Nat.le_trans ht.1 (by decide)
 refine WC.fnV k99 (dx' 2 hn) ?_
 refine Vm.at rfl ?_
 refine Vm.cmp (.amg (b:=false) (by decide +kernel)) ?_
 refine Vm.eqF (by decide) ?_
 refine Vm.eqF (by decide) ?_
 refine Vm.cmp (.amg (b:=true) (by decide +kernel)) ?_
 refine Vm.sub (.tupLast (ds:=[.str (S_ "dispatchp"),.str (S_ "draw"),.int ix])) ?_
 refine Vm.eqF (by decide) ?_
 refine Vm.bin .addI ?_
 rw [Int.add_zero]
 refine Vm.blt (CallB.range ?_)
 refine Vm.pops (ts:=ts) hx rfl (by refine rwG List.length_append ?_;exact Nat.le_trans (Nat.add_le_add_left (Nat.le_trans hl (by decide)) _) hz) ?_
 refine Vm.slc .none .none .int ?_
 refine Vm.sub (.lstS (by decide) (by (rewrite [List.length_map];refine rwG List.length_reverse ?_);exact sl hl)) ?_
 rewrite [pick_rev];refine rwL List.map_reverse ?_;rewrite [List.reverse_reverse]
 refine Vm.fn (c_call_dp hi ht ok (dj 5 hn) (wpM_mono h (fun t d₂ q=>?_) fun _ _ q=>q stk))
 exact Vm.cmp (c:=false) .isNotN q
end Mine
end
section
open PySem PySem.W PySem.Calls PyProof.Rows
namespace Mine
set_option backward.match.sparseCases false
variable {G:Glob}
variable {n:Nat} {σ:Sto} {Q:D→Sto→Prop} {E:Exn→Sto→Prop}
theorem CmpR.namg {x:Str} {ds:List D} {b:Bool} (h:among x ds=some b):CmpR σ .NotIn (.str x) (.tup ds) (!b):=by
 cases CmpR.amg (σ:=σ) h with
 | inT h1 h2 h3 h4 h5=>exact .notInT h1 h2 h3 h4 h5
theorem Vm.tst {C:Vc} {Γ:Ix} {Z:Bool→Ix→Sto→Prop} {b:Bool} (h:Z b Γ σ):Kn G (C.test Z) [] [] Γ (.bool b) σ:=h
noncomputable abbrev tW:R:=(.cmp .NotIn (.sub (.sub (.att (.v 1) (S_ "rows")) (.v 3)) (.ci 0)) (.tup (.cons (.cs (S_ "endsub")) (.cons (.cs (S_ "endbody")) .nil))))
noncomputable abbrev bW:R:=(.cons (.asg 4 (.sub (.att (.v 1) (S_ "rows")) (.v 3))) (.cons (.asg 3 (.bin .Add (.v 3) (.ci 1))) (.cons (.ifs (.cmp .Eq (.sub (.v 4) (.ci 0)) (.cs (S_ "jump"))) (.cons (.asg 3 (.sub (.v 4) (.ci 1))) .nil) (.cons (.expr (.dfn (S_ "_law_row") 99 (.cons (.v 0) (.cons (.v 1) (.cons (.v 4) (.cons (.v 2) .nil)))))) .nil)) .nil)))
noncomputable abbrev rW:R:=(.cons (.expr (.dfn (S_ "_law_tell") 95 (.cons (.v 0) (.cons (.bin .Add (.bin .Add (.sub (.sub (.att (.v 1) (S_ "rows")) (.v 3)) (.ci 0)) (.cs (S_ " "))) (.blt 2 (.cons (.blt 0 (.cons (.v 2) .nil)) .nil))) .nil)))) .nil)
structure Pc where
 n:Nat
 σ:Sto
 a:BA
 x:Addr
 rows:List D
 src:D
 codes:List D
 Q:D→Sto→Prop
 E:Exn→Sto→Prop
 Err:Exn→Dd→Laid→Prop
noncomputable abbrev Pc.code (pc:Pc):D:=.ins 8 (codeF pc.rows pc.src pc.codes)
noncomputable abbrev Pc.st (pc:Pc) (stk:List Str) (d:Dd) (l:Laid):Sto:=pput pc.σ pc.x stk pc.a d (layD fP l)
structure PcOk (pc:Pc):Prop where
 ok:BOk pc.a
 hx:Beside pc.σ pc.a pc.x
 hz:pc.rows.length≤2 ^ 19
 hE:∀e d l ts,pc.Err e d l→pc.E e (pc.st ts d l)
 hn:pc.n < 890
noncomputable abbrev Γp (pc:Pc) (i:Nat):Ix:=[(3,.int i),(2,.ref pc.x),(0,.ref pc.a.b),(1,pc.code)]
noncomputable abbrev Pc.C (pc:Pc) (hn:pc.n + 2≤1000):Vc:=fnC 100 0 pc.n ([S_ "book",S_ "code"]++[S_ "stack",S_ "at",S_ "row"]) k100.nd hn pc.Q pc.E
noncomputable abbrev Loop (G:Glob) (pc:Pc) (hn:pc.n + 2≤1000) (N i:Nat) (σ:Sto):Prop:=VL G (pc.C hn) tW bW [.ss rW] [] [3,2,0,1] N (Γp pc i) σ
noncomputable def Run (G:Glob) (pc:Pc) (i:Nat) (stk:List Str) (d:Dd) (l:Laid):Prop:=∀hn,∃N,Loop G pc hn N i (pc.st stk d l)
noncomputable abbrev Ends:List D:=[.str (S_ "endsub"),.str (S_ "endbody")]
section
variable {pc:Pc} (ok:PcOk pc)
include ok
theorem run_at {i:Nat} {d:D} (hi:pc.rows[i]?=some d):SubR σ (.lst pc.rows) (.int i) d:=
 .lstAt (Int.natCast_nonneg i) (Int.lt_of_lt_of_le (Int.ofNat_lt.mpr (Nat.lt_of_lt_of_le (List.getElem?_eq_some_iff.mp hi).1 ok.hz)) (by decide)) hi
theorem run_test {i:Nat} {w:Str} {as:List D} {b:Bool} (hi:pc.rows[i]?=some (.tup (.str w::as))) (h1:among w Ends=some b) {hn:pc.n + 2≤1000} {Z:Bool→Ix→Sto→Prop} {σ':Sto} (h:Z (!b) (Γp pc i) σ'):Vm G ((pc.C hn).test Z) (adv F [.t tW] [] (Γp pc i)) σ':=by
 refine Vm.att (codeF_at 0 rfl (by decide +kernel)) ?_
 refine Vm.sub (run_at ok hi) ?_
 refine Vm.at rfl ?_
 exact Vm.cmp (.namg h1) (Vm.tst h)
theorem run_row {i:Nat} {w:Str} {as:List D} (hi:pc.rows[i]?=some (.tup (.str w::as))) (h1:among w Ends=some false) (h2:(w==S_ "jump")=false) {α:Type} {m:M' α} {F:α→List Str×Laid} {stk:List Str} {d:Dd} {l:Laid}
  (hrow:∀(Qr:D→Sto→Prop),wpM m (fun r d'=>Qr .none (pc.st (F r).1 d' (F r).2)) (fun e d'=>pc.Err e d' l) d→WC G (pc.n + 1) (.fn 99 0) [.ref pc.a.b,pc.code,.tup (.str w::as),.ref pc.x] (pc.st stk d l) Qr pc.E)
  (h:wpM m (fun r d'=>Run G pc (i + 1) (F r).1 d' (F r).2) (fun e d'=>pc.Err e d' l) d):Run G pc i stk d l:=fun hn=>by
 have:∃N,wpM m (fun r d'=>Loop G pc hn N (i + 1) (pc.st (F r).1 d' (F r).2)) (fun e d'=>pc.Err e d' l) d:=by
  unfold wpM at h ⊢
  split at h
  ·(refine ex11 (h hn) ?_;intro N hN);exact ⟨N,hN⟩
  ·exact ⟨0,h⟩
 refine ex11 this ?_;clear this;intro N hN
 refine ⟨N + 1,run_test ok hi h1 ?_⟩
 refine Vm.att (codeF_at 0 rfl (by decide +kernel)) ?_
 refine Vm.sub (run_at ok hi) ?_
 refine Vm.bin .addI ?_
 refine Vm.at rfl ?_
 refine Vm.eqF h2 ?_
 exact Vm.fn (hrow _ (wpM_mono hN (fun r d' q=>q) fun _ _ q=>q))
theorem run_jump {i t:Nat} (hi:pc.rows[i]?=some (row_jump t)) {stk:List Str} {d:Dd} {l:Laid} (h:Run G pc t stk d l):Run G pc i stk d l:=fun hn=>by
 refine ex11 (h hn) ?_;intro N hN
 refine ⟨N + 1,run_test ok hi (b:=false) (by decide +kernel) ?_⟩
 refine Vm.att (codeF_at 0 rfl (by decide +kernel)) ?_
 refine Vm.sub (run_at ok hi) ?_
 refine Vm.bin .addI ?_
 refine Vm.wT (by decide) ?_
 exact Vm.at rfl hN
theorem run_end {i:Nat} {w:Str} (hi:pc.rows[i]?=some (.tup [.str w])) (h1:among w Ends=some true) (hw:w.length≤20) {d:Dd} {l:Laid}
  (h:wpM (tell (w++S_ " "++iS 0)) (fun _ d'=>pc.Q .none (pc.st [] d' l)) (fun e d'=>pc.Err e d' l) d):Run G pc i [] d l:=fun hn=>by
 refine ⟨1,run_test ok hi h1 ?_⟩
 refine Vm.att (codeF_at 0 rfl (by decide +kernel)) ?_
 refine Vm.sub (run_at ok hi) ?_
 refine Vm.at rfl ?_
 refine Vm.bin (.addS (sl (c:=21) (Nat.add_le_add_right hw 1))) ?_
 refine Vm.blt (CallB.len (.ref (pput_x ok.hx)) (Nat.zero_le _) ?_)
 refine Vm.blt (CallB.strI (by decide) ?_)
 refine Vm.bin (.addS (sl (c:=22) (by rw [len_append];exact Nat.add_le_add (Nat.add_le_add_right hw 1) (show (iS 0).length≤1 by decide +kernel)))) ?_
 exact Vm.fn (c_tell (dn 1 ok.hn) ok.ok (wpM_mono h (fun _ d₁ q=>q) fun e d₁ q=>ok.hE _ _ _ _ q))
end
theorem c_played {rows:List D} {src:D} {codes:List D} {a:BA} (ok:BOk a) {d:Dd} {l:Laid} (hn:n < 890)
  (h:∀x (hx:Beside σ a x),Run G ⟨n,σ,a,x,rows,src,codes,fun d σ'=>∃σ'',Sub' σ'' σ'∧Q d σ'',fun e σ'=>∃σ'',Sub' σ'' σ'∧E e σ'',fun e d l=>E e (bput σ a d (layD fP l))⟩ 0 [] d l):
  WC G n (.fn 100 0) [.ref a.b,.ins 8 (codeF rows src codes)] (bput σ a d (layD fP l)) Q E:=by
 refine WC.forget ?_
 refine WC.fnV k100 (dn' 2 hn) ?_
 refine Vm.lstN fun x hx0=>?_
 have hx:=bput_none hx0
 refine rwG (bput_put hx.1 hx.2.1 hx.2.2.1) ?_
 refine ex11 (h x hx (dn' 2 hn)) ?_;intro N hN
 exact Vm.whl [3,2,0,1] N hN
end Mine
end
section
open PySem PySem.W PySem.Calls PyProof.Rows
namespace Mine
set_option backward.match.sparseCases false
variable {G:Glob}
variable {n:Nat} {σ:Sto} {Q:D→Sto→Prop} {E:Exn→Sto→Prop}
noncomputable def At (rows:List D) (i:Nat) (seg:List D):Prop:=∃pre post,rows=pre++(seg++post)∧pre.length=i
theorem At.app {rows:List D} {i:Nat} {s t:List D} (h:At rows i (s++t)):At rows i s∧At rows (i + s.length) t:=by
 refine ex22 h ?_;clear h;intro pre post e hl
 exact ⟨⟨pre,t++post,by refine rwG e ?_;simp,hl⟩,⟨pre++s,post,by refine rwG e ?_;simp,by simp [hl]⟩⟩
theorem At.head {rows:List D} {i:Nat} {r:D} {s:List D} (h:At rows i (r::s)):rows[i]?=some r:=by
 refine ex22 h ?_;clear h;intro pre post e hl
 subst hl
 refine rwG e ?_;refine rwG (List.getElem?_append_right (Nat.le_refl _)) ?_
 simp
theorem At.tail {rows:List D} {i:Nat} {r:D} {s:List D} (h:At rows i (r::s)):At rows (i + 1) s:=by
 refine ex22 h ?_;clear h;intro pre post e hl
 exact ⟨pre++[r],post,by refine rwG e ?_;simp,by simp [hl]⟩
theorem At.le {rows:List D} {i:Nat} {s:List D} (h:At rows i s):i + s.length≤rows.length:=by
 refine ex22 h ?_;clear h;intro pre post e hl
 refine rwG e ?_;simp;lia
section
variable {pc:Pc} (ok:PcOk pc)
include ok
theorem room {i:Nat} {stk:List Str} {r:D} (hi:pc.rows[i]?=some r) (hs:stk.length≤i):stk.length + 10≤2 ^ 20:=by
 have hlt:=(List.getElem?_eq_some_iff.mp hi).1
 have hz:=ok.hz
 lia
theorem run_push {i:Nat} {w:Str} {as:List D} {ps:List PyData} (hi:pc.rows[i]?=some (.tup (.str w::as))) (hw:w.length≤20) (hl:Leaves as ps) (hz2:as.length≤4) (h0:among w Ends=some false) (hj:(w==S_ "jump")=false)
  (h1:among w W1s=some false) (h2:(w==S_ "laysub")=false) (h3:(w==S_ "sub")=false) (h4:among w W2s=some false) (h5:among w W3s=some true) {stk:List Str} {d:Dd} {l:Laid} (hs:stk.length≤i)
  (h:Run G pc (i + 1) (stk++[w++shL ps]) d l):Run G pc i stk d l:=by
 have hn:=ok.hn
 exact run_row ok hi h0 hj (m:=ret' ()) (F:=fun _=>(stk++[w++shL ps],l)) (fun Qr q=>pr_push (by exact dn _ hn) ok.ok ok.hx (room ok hi hs) hw hl hz2 h1 h2 h3 h4 h5 q) h
theorem run_made {i:Nat} {w:Str} {as:List D} (hi:pc.rows[i]?=some (.tup (.str w::as))) (hw:w.length≤20) (h0:among w Ends=some false) (hj:(w==S_ "jump")=false)
  (h1:among w W1s=some false) (h2:(w==S_ "laysub")=false) (h3:(w==S_ "sub")=false) (h4:among w W2s=some false) (h5:among w W3s=some false) (h6:among w W4s=some true) (hc:(w==S_ "placecomp")=false)
  {stk:List Str} {d:Dd} {l:Laid} {t:Str} (ht:t.length≤2 ^ 16) (hs:stk.length≤i)
  (h:wpM (made w (S_ "") [t]) (fun c d'=>Run G pc (i + 1) (stk++[c]) d' l) (fun e d'=>pc.Err e d' l) d):Run G pc i (stk++[t]) d l:=by
 have hn:=ok.hn
 exact run_row ok hi h0 hj (F:=fun c=>(stk++[c],l)) (fun Qr q=>pr_made (by exact dn _ hn) ok.ok ok.hx (room ok hi hs) hw h1 h2 h3 h4 h5 h6 hc ht (wpM_mono q (fun _ _ q=>q) fun e d' q ts=>ok.hE _ _ _ _ q)) h
theorem run_rest1 {i:Nat} {w:Str} {as:List D} {ps:List PyData} (hi:pc.rows[i]?=some (.tup (.str w::as))) (hw:w.length≤20) (hl:Leaves as ps) (hz2:as.length≤4) (h0:among w Ends=some false) (hj:(w==S_ "jump")=false)
  (h1:among w W1s=some false) (h2:(w==S_ "laysub")=false) (h3:(w==S_ "sub")=false) (h4:among w W2s=some false) (h5:among w W3s=some false) (h6:among w W4s=some false) (h7:among w W5s=some false)
  {stk:List Str} {d:Dd} {l:Laid} {t:Str} (ht:t.length≤2 ^ 16) (hs:stk.length≤i)
  (h:wpM (made w (shT ps) [t]) (fun _ d'=>Run G pc (i + 1) stk d' l) (fun e d'=>pc.Err e d' l) d):Run G pc i (stk++[t]) d l:=by
 have hn:=ok.hn
 exact run_row ok hi h0 hj (F:=fun _=>(stk,l)) (fun Qr q=>pr_rest1 (by exact dn _ hn) ok.ok ok.hx (room ok hi hs) hw hl hz2 h1 h2 h3 h4 h5 h6 h7 ht (wpM_mono q (fun _ _ q=>q) fun e d' q ts=>ok.hE _ _ _ _ q)) h
theorem run_rest2 {i:Nat} {w:Str} {as:List D} {ps:List PyData} (hi:pc.rows[i]?=some (.tup (.str w::as))) (hw:w.length≤20) (hl:Leaves as ps) (hz2:as.length≤4) (h0:among w Ends=some false) (hj:(w==S_ "jump")=false)
  (h1:among w W1s=some false) (h2:(w==S_ "laysub")=false) (h3:(w==S_ "sub")=false) (h4:among w W2s=some false) (h5:among w W3s=some false) (h6:among w W4s=some false) (h7:among w W5s=some true)
  {stk:List Str} {d:Dd} {l:Laid} {t u:Str} (ht:t.length≤2 ^ 16) (hu:u.length≤2 ^ 16) (hs:stk.length≤i)
  (h:wpM (made w (shT ps) [t,u]) (fun _ d'=>Run G pc (i + 1) stk d' l) (fun e d'=>pc.Err e d' l) d):Run G pc i (stk++[t,u]) d l:=by
 have hn:=ok.hn
 exact run_row ok hi h0 hj (F:=fun _=>(stk,l)) (fun Qr q=>pr_rest2 (by exact dn _ hn) ok.ok ok.hx (room ok hi hs) hw hl hz2 h1 h2 h3 h4 h5 h6 h7 ht hu (wpM_mono q (fun _ _ q=>q) fun e d' q ts=>ok.hE _ _ _ _ q)) h
theorem run_tell {i:Nat} {w:Str} {as:List D} {ps:List PyData} (hi:pc.rows[i]?=some (.tup (.str w::as))) (hw:w.length≤20) (hl:Leaves as ps) (hz2:as.length≤2) (h0:among w Ends=some false) (hj:(w==S_ "jump")=false)
  (h1:among w W1s=some true) (ha:(w != S_ "arm")=true) {stk:List Str} {d:Dd} {l:Laid}
  (h:wpM (tell (w++S_ " "++shT ps)) (fun _ d'=>Run G pc (i + 1) stk d' l) (fun e d'=>pc.Err e d' l) d):Run G pc i stk d l:=by
 have hn:=ok.hn
 exact run_row ok hi h0 hj (F:=fun _=>(stk,l)) (fun Qr q=>pr_tell (by exact dn _ hn) ok.ok hw hl hz2 h1 ha (wpM_mono q (fun _ _ q=>q) fun e d' q=>ok.hE _ _ _ _ q)) h
theorem run_arm {i:Nat} (hi:pc.rows[i]?=some row_arm) {stk:List Str} {d:Dd} {l:Laid}
  (h:wpM (tell (S_ "arm ")) (fun _ d'=>Run G pc (i + 1) stk d' l) (fun e d'=>pc.Err e d' l) d):Run G pc i stk d l:=by
 have hn:=ok.hn
 exact run_row ok hi (by decide +kernel) (by decide +kernel) (F:=fun _=>(stk,l)) (fun Qr q=>pr_arm (by exact dn _ hn) ok.ok (wpM_mono q (fun _ _ q=>q) fun e d' q=>ok.hE _ _ _ _ q)) h
section
variable {l:Laid} {ent:Body→M' Unit} {m:Nat} (hm:pc.n + m + 20 < 900)
include hm
theorem sim_calls {s:Str} (he:Plays G l ent m s) (hs:s.length≤1000) {ts:List Str} (ht:Short ts) {i:Nat} {u:Int} (hi:pc.rows[i]?=some (row_callf u s ts.length)) {stk:List Str} (hsl:stk.length≤i) {d:Dd}
  (h:wpM (bind' (found l s) fun b=>bind' (made (S_ "call") s ts) fun t=>bind' (ent b) fun _=>ret' t) (fun t d'=>Run G pc (i + 1) (stk++[t]) d' l) (fun e d'=>pc.Err e d' l) d):Run G pc i (stk++ts) d l:=
 run_row ok hi (by decide +kernel) (by decide +kernel) (F:=fun t=>(stk++[t],l)) (fun Qr q=>pr_callf (by exact dm _ hm) ok.ok ok.hx (room ok hi hsl) he hs ht (wpM_mono q (fun _ _ q=>q) fun e d' q ts=>ok.hE _ _ _ _ q)) h
end
end
end Mine
end
section
open PySem PySem.W PySem.Calls PyProof.Rows
namespace Mine
set_option backward.match.sparseCases false
variable {G:Glob}
variable {n:Nat} {σ:Sto} {Q:D→Sto→Prop} {E:Exn→Sto→Prop}
theorem rowsVs_ge:∀as:List V,as.length≤(rowsVs as).length
 | []=>Nat.zero_le _
 | a::as=>by
  have:=rowsVs_ge as
  rw [rowsVs];simp only [List.length_append,List.length_cons,List.length_nil];exact lin1 this (by simp +arith only)
section
variable {pc:Pc} (ok:PcOk pc) {l:Laid} {ent:Body→M' Unit} {m:Nat} (hm:pc.n + m + 20 < 900)
include ok hm
mutual
theorem sim_V:∀v:V,vdepth v≤2→vsm v→vall (Plays G l ent m) v→∀{i:Nat} {stk:List Str} {d:Dd},At pc.rows i (rowsV v)→stk.length≤i→
  wpM (says l ent v) (fun t d'=>Run G pc (i + (rowsV v).length) (stk++[t]) d' l) (fun e d'=>pc.Err e d' l) d→Run G pc i stk d l
 | .lit k,hd,hs,hv,i,stk,d,A,hsl,h=>by
  rw [rowsV] at A h
  rw [vsm] at hs
  rw [says] at h
  exact run_push ok A.head (by decide) (.cons (.int hs) .nil) (Nat.le_of_ble_eq_true rfl) (by decide +kernel) (by decide +kernel) (by decide +kernel) (by decide +kernel) (by decide +kernel) (by decide +kernel) (by decide +kernel) hsl h
 | .obj k,hd,hs,hv,i,stk,d,A,hsl,h=>by
  rw [rowsV] at A h
  rw [vsm] at hs
  rw [says] at h
  exact run_push ok A.head (by decide) (.cons (.int hs) (.cons (.str ⟨by decide,by decide⟩) .nil)) (Nat.le_of_ble_eq_true rfl) (by decide +kernel) (by decide +kernel) (by decide +kernel) (by decide +kernel) (by decide +kernel) (by decide +kernel) (by decide +kernel) hsl h
 | .disp as ix,hd,hs,hv,i,stk,d,A,hsl,h=>by
  rw [rowsV] at A h
  rw [vsm] at hs
  rw [vall] at hv
  rw [vdepth] at hd
  rw [says,wpM_bind] at h
  refine sim_Vs as (by exact Nat.le_of_lt hd) hs.2.2 hv A.app.1 hsl (wpM_mono (wpM_and h (says_lens as hs.2.2 d)) (fun ts d' ⟨ht,q⟩=>?_) fun _ _ q=>q)
  have hb:=TB_mono (a:=vdepths as) (b:=2) (by exact Nat.le_of_lt hd)
  have hi:=A.app.2.head
  rw [←ht.1] at hi
  have hge:=rowsVs_ge as
  have hn:=ok.hn
  have hlen:=hs.2.1
  refine run_row ok hi (by decide +kernel) (by decide +kernel) (F:=fun t=>(stk++[t],l)) (fun Qr q=>pr_dispatchf (by exact lin1 hm (by simp +arith only)) ok.ok ok.hx (room ok hi (by exact Nat.le_trans hsl (Nat.le_add_right _ _))) hs.1 ⟨by lia,fun t h=>Nat.le_trans (ht.2 t h) (Nat.le_trans (Nat.add_le_add_right hb _) (by decide))⟩ (wpM_mono q (fun _ _ q=>q) fun e d' q ts=>ok.hE _ _ _ _ q)) (wpM_mono q (fun t d₂ q=>?_) fun _ _ q=>q)
  rw [List.length_append,←Nat.add_assoc] at q
  exact q
 | .call u s as,hd,hs,hv,i,stk,d,A,hsl,h=>by
  rw [rowsV] at A h
  rw [vsm] at hs
  rw [vall] at hv
  rw [vdepth] at hd
  rw [says,wpM_bind] at h
  refine sim_Vs as (by exact Nat.le_of_lt hd) hs.2.2.2 hv.2 A.app.1 hsl (wpM_mono (wpM_and h (says_lens as hs.2.2.2 d)) (fun ts d' ⟨ht,q⟩=>?_) fun _ _ q=>q)
  have hb:=TB_mono (a:=vdepths as) (b:=2) (by exact Nat.le_of_lt hd)
  have hi:=A.app.2.head
  rw [←ht.1] at hi
  have hge:=rowsVs_ge as
  have hlen:=hs.2.2.1
  have hsn:=hs.2.1.1
  refine sim_calls ok hm hv.1 (by exact Nat.le_trans hsn (Nat.le_of_ble_eq_true rfl)) ⟨by lia,fun t h=>Nat.le_trans (ht.2 t h) (Nat.le_trans (Nat.add_le_add_right hb _) (by decide))⟩ hi (by exact Nat.le_trans hsl (Nat.le_add_right _ _)) (wpM_mono q (fun t d₂ q=>?_) fun _ _ q=>q)
  rw [List.length_append,←Nat.add_assoc] at q
  exact q
theorem sim_Vs:∀as:List V,vdepths as≤2→vsms as→valls (Plays G l ent m) as→∀{i:Nat} {stk:List Str} {d:Dd},At pc.rows i (rowsVs as)→stk.length≤i→
  wpM (saysAs l ent as) (fun ts d'=>Run G pc (i + (rowsVs as).length) (stk++ts) d' l) (fun e d'=>pc.Err e d' l) d→Run G pc i stk d l
 | [],hd,hs,hv,i,stk,d,A,hsl,h=>by
  rw [saysAs,rowsVs] at h
  have h:Run G pc (i + 0) (stk++[]) d l:=h
  rw [List.append_nil] at h
  exact h
 | a::as,hd,hs,hv,i,stk,d,A,hsl,h=>by
  rw [rowsVs] at A h
  rw [vsms] at hs
  rw [valls] at hv
  rw [vdepths] at hd
  rw [saysAs,wpM_bind] at h
  have A1:=A.app.1.app
  refine sim_V a (by exact Nat.le_trans (Nat.le_max_left _ _) hd) hs.1 hv.1 A1.1 hsl (wpM_mono (wpM_and h (says_len a hs.1 d)) (fun t d₁ ⟨ht,q⟩=>?_) fun _ _ q=>q)
  have hb:=TB_mono (a:=vdepth a) (b:=2) (by exact Nat.le_trans (Nat.le_max_left _ _) hd)
  rw [wpM_bind] at q
  have hr:1≤(rowsV a).length:=by
   cases a<;>rw [rowsV]<;>simp<;>lia
  refine run_made ok A1.2.head (by decide) (by decide +kernel) (by decide +kernel) (by decide +kernel) (by decide +kernel) (by decide +kernel) (by decide +kernel) (by decide +kernel) (by decide +kernel) (by decide +kernel) (Nat.le_trans ht (Nat.le_trans hb (by decide))) (by exact Nat.le_trans hsl (Nat.le_add_right _ _)) (wpM_mono q (fun c d₂ q=>?_) fun _ _ q=>q)
  rw [wpM_bind] at q
  have A2:=A.app.2
  rw [List.length_append,←Nat.add_assoc] at A2
  refine sim_Vs as (by exact Nat.le_trans (Nat.le_max_right _ _) hd) hs.2 hv.2 A2 (by refine rwG List.length_append ?_;simp;exact Nat.le_trans hsl (Nat.le_add_right _ _)) (wpM_mono q (fun r d₃ q=>?_) fun _ _ q=>q)
  have q:Run G pc (i + (rowsV a++[row_copy]++rowsVs as).length) (stk++(c::r)) d₃ l:=q
  rewrite [List.append_assoc];refine rwG (show i + (rowsV a).length + 1 + (rowsVs as).length=i + (rowsV a++[row_copy]++rowsVs as).length by simp only [List.length_append,List.length_cons,List.length_nil];simp +arith only) ?_
  exact q
end
end
end Mine
end
section
open PySem PySem.W PySem.Calls PyProof.Rows
namespace Mine
set_option backward.match.sparseCases false
variable {G:Glob}
variable {n:Nat} {σ:Sto} {Q:D→Sto→Prop} {E:Exn→Sto→Prop}
theorem goB_noRet {l:Laid} {ent:Body→M' Unit} {s:S} (h:noRet s):Len (go1 l ent s) fun b=>b=false:=by
 unfold go1
 refine Len.bind (Len.any _) fun _ _=>?_
 cases s with
 | ret i o=>exact h.elim
 | null i=>exact Len.ret rfl
 | asg i v=>exact Len.bind (Len.any _) fun _ _=>Len.bind (Len.any _) fun _ _=>Len.bind (Len.any _) fun _ _=>Len.bind (Len.any _) fun _ _=>Len.ret rfl
 | pdisp i as ix=>exact Len.bind (Len.any _) fun _ _=>Len.bind (Len.any _) fun _ _=>Len.ret rfl
 | pcall i u x as=>exact Len.bind (Len.any _) fun _ _=>Len.bind (Len.any _) fun _ _=>Len.bind (Len.any _) fun _ _=>Len.bind (Len.any _) fun _ _=>Len.ret rfl
theorem go_noRet {l:Laid} {ent:Body→M' Unit}:∀{ss:List S},(∀s∈ss,noRet s)→Len (go l ent ss) fun b=>b=false
 | [],_=>by rw [go];exact Len.ret rfl
 | s::ss,h=>by
  rw [go]
  refine Len.bind (goB_noRet (h s (.head _))) fun b hb=>?_
  subst hb
  exact go_noRet fun x hx=>h x (.tail _ hx)
theorem acts_len {l:Laid} {ent:Body→M' Unit} {C:Str→Prop}:∀{as:List A},(∀a∈as,agood C a)→Len (acts l ent as) fun ts=>ts.length=as.length∧∀t∈ts,t.length≤2 ^ 16
 | [],_=>by rw [acts];exact Len.ret ⟨rfl,fun _ h=>nomatch h⟩
 | a::as,h=>by
  rw [acts]
  refine Len.bind (act1_len (h a (.head _))) fun t ht=>Len.bind (acts_len fun x hx=>h x (.tail _ hx)) fun r hr=>Len.ret ⟨by simp [hr.1],fun y hy=>?_⟩
  rcases List.mem_cons.mp hy with rfl | hy
  ·exact Nat.le_trans ht (by decide)
  ·exact hr.2 y hy
theorem rowsP_ge (p:P):1≤(rowsP p).length:=by
 cases p<;>simp [rowsP]
theorem rowsA_ge (a:A):1≤(rowsA a).length:=by
 cases a<;>simp [rowsA]
theorem rowsAs_ge:∀as:List A,as.length≤(rowsAs as).length
 | []=>Nat.zero_le _
 | a::as=>by
  have:=rowsAs_ge as
  have:=rowsA_ge a
  rw [rowsAs];simp only [List.length_append,List.length_cons];lia
section
variable {pc:Pc} (ok:PcOk pc) {l:Laid} {ent:Body→M' Unit} {m:Nat} (hm:pc.n + m + 20 < 900)
include ok hm
theorem sim_Vg {v:V} (hv:vgood (Plays G l ent m) v) {i:Nat} {stk:List Str} {d:Dd} (A:At pc.rows i (rowsV v)) (hs:stk.length≤i)
  (h:wpM (says l ent v) (fun t d'=>t.length≤16000→Run G pc (i + (rowsV v).length) (stk++[t]) d' l) (fun e d'=>pc.Err e d' l) d):Run G pc i stk d l:=
 sim_V ok hm v hv.1 hv.2.1 hv.2.2 A hs (wpM_mono (wpM_and h (says_len2 hv d)) (fun _ _ ⟨a,b⟩=>b a) fun _ _ x=>x)
theorem sim_P {p:P} (hp:pgood (Plays G l ent m) p) {i:Nat} {stk:List Str} {d:Dd} (A:At pc.rows i (rowsP p)) (hs:stk.length≤i)
  (h:wpM (wher l ent p) (fun t d'=>t.length≤16100→Run G pc (i + (rowsP p).length) (stk++[t]) d' l) (fun e d'=>pc.Err e d' l) d):Run G pc i stk d l:=by
 have h:=wpM_mono (wpM_and h (wher_len hp d)) (fun _ _ ⟨a,b⟩=>b a) fun _ _ x=>x
 cases p with
 | y=>
  rw [rowsP] at A h
  rw [wher] at h
  exact run_push ok A.head (by decide) (.cons (.int (sm_lit 0)) (.cons (.str sms_y) .nil)) (Nat.le_of_ble_eq_true rfl) (by decide +kernel) (by decide +kernel) (by decide +kernel) (by decide +kernel) (by decide +kernel) (by decide +kernel) (by decide +kernel) hs h
 | r=>
  rw [rowsP] at A h
  rw [wher] at h
  have hn:=ok.hn
  refine run_push ok A.head (by decide) (.cons (.int (sm_lit 1)) (.cons (.str sms_r) .nil)) (Nat.le_of_ble_eq_true rfl) (by decide +kernel) (by decide +kernel) (by decide +kernel) (by decide +kernel) (by decide +kernel) (by decide +kernel) (by decide +kernel) hs ?_
  exact run_row ok A.tail.head (by decide +kernel) (by decide +kernel) (F:=fun c=>(stk++[c],l)) (fun Qr q=>pr_placecomp (by exact lin1 hm (by simp +arith only)) ok.ok ok.hx (room ok A.head hs) (Nat.le_trans (sPlace_len (sm_lit 1) sms_r) (by decide)) (wpM_mono q (fun _ _ q=>q) fun e d' q ts=>ok.hE _ _ _ _ q)) h
 | der v=>
  rw [rowsP] at A h
  rw [wher,wpM_bind] at h
  have hr:1≤(rowsV v).length:=by
   cases v<;>rw [rowsV]<;>simp<;>lia
  refine sim_Vg ok hm hp A.app.1 hs (wpM_mono h (fun t d₁ q ht=>?_) fun _ _ q=>q)
  refine run_made ok A.app.2.head (by decide) (by decide +kernel) (by decide +kernel) (by decide +kernel) (by decide +kernel) (by decide +kernel) (by decide +kernel) (by decide +kernel) (by decide +kernel) (by decide +kernel) (by exact Nat.le_trans ht (Nat.le_of_ble_eq_true rfl)) (by exact Nat.le_trans hs (Nat.le_add_right _ _)) (wpM_mono q (fun c d₂ q=>?_) fun _ _ q=>q)
  rw [List.length_append,←Nat.add_assoc] at q
  exact q
theorem sim_target {p:P} (hp:pgood (Plays G l ent m) p) {x:D} {i:Nat} {stk:List Str} {d:Dd} (A:At pc.rows i (rowsP p++[row_target x])) (hs:stk.length≤i)
  (h:wpM (bind' (wher l ent p) fun t=>made (S_ "target") (S_ "") [t]) (fun t d'=>t.length≤16200→Run G pc (i + (rowsP p++[row_target x]).length) (stk++[t]) d' l) (fun e d'=>pc.Err e d' l) d):Run G pc i stk d l:=by
 rw [wpM_bind] at h
 have hr:=rowsP_ge p
 refine sim_P ok hm hp A.app.1 hs (wpM_mono h (fun t d₁ q ht=>?_) fun _ _ q=>q)
 have q:=wpM_and q (made1_len (w:=S_ "target") (by decide) ht d₁)
 refine run_made ok A.app.2.head (by decide) (by decide +kernel) (by decide +kernel) (by decide +kernel) (by decide +kernel) (by decide +kernel) (by decide +kernel) (by decide +kernel) (by decide +kernel) (by decide +kernel) (by exact Nat.le_trans ht (Nat.le_of_ble_eq_true rfl)) (by exact Nat.le_trans hs (Nat.le_add_right _ _)) (wpM_mono q (fun c d₂ ⟨hc,q⟩=>?_) fun _ _ q=>q)
 rw [List.length_append,←Nat.add_assoc] at q
 exact q (by lia)
theorem sim_A {a:A} (ha:agood (Plays G l ent m) a) {i:Nat} {stk:List Str} {d:Dd} (A:At pc.rows i (rowsA a)) (hs:stk.length≤i)
  (h:wpM (act1 l ent a) (fun t d'=>Run G pc (i + (rowsA a).length) (stk++[t]) d' l) (fun e d'=>pc.Err e d' l) d):Run G pc i stk d l:=by
 cases a with
 | inn v=>
  rw [rowsA] at A h
  rw [act1,wpM_bind] at h
  have hr:1≤(rowsV v).length:=by
   cases v<;>rw [rowsV]<;>simp<;>lia
  refine sim_Vg ok hm ha A.app.1 hs (wpM_mono h (fun t d₁ q ht=>?_) fun _ _ q=>q)
  refine run_made ok A.app.2.head (by decide) (by decide +kernel) (by decide +kernel) (by decide +kernel) (by decide +kernel) (by decide +kernel) (by decide +kernel) (by decide +kernel) (by decide +kernel) (by decide +kernel) (by exact Nat.le_trans ht (Nat.le_of_ble_eq_true rfl)) (by exact Nat.le_trans hs (Nat.le_add_right _ _)) (wpM_mono q (fun c d₂ q=>?_) fun _ _ q=>q)
  rw [List.length_append,←Nat.add_assoc] at q
  exact q
 | out b p=>
  rw [rowsA] at A h
  rw [act1,←bind'_assoc,wpM_bind] at h
  have hr:=rowsP_ge p
  refine sim_target ok hm ha A.app.1 hs (wpM_mono h (fun t d₁ q ht=>?_) fun _ _ q=>q)
  refine run_made ok A.app.2.head (by decide) (by decide +kernel) (by decide +kernel) (by decide +kernel) (by decide +kernel) (by decide +kernel) (by decide +kernel) (by decide +kernel) (by decide +kernel) (by decide +kernel) (by exact Nat.le_trans ht (Nat.le_of_ble_eq_true rfl)) (by refine rwG List.length_append ?_;exact Nat.le_trans hs (Nat.le_add_right _ _)) (wpM_mono q (fun c d₂ q=>?_) fun _ _ q=>q)
  rw [List.length_append,←Nat.add_assoc] at q
  exact q
theorem sim_As:∀{as:List A},(∀a∈as,agood (Plays G l ent m) a)→∀{i:Nat} {stk:List Str} {d:Dd},At pc.rows i (rowsAs as)→stk.length≤i→
  wpM (acts l ent as) (fun ts d'=>Run G pc (i + (rowsAs as).length) (stk++ts) d' l) (fun e d'=>pc.Err e d' l) d→Run G pc i stk d l
 | [],ha,i,stk,d,A,hs,h=>by
  rw [acts,rowsAs] at h
  have h:Run G pc (i + 0) (stk++[]) d l:=h
  rw [List.append_nil] at h
  exact h
 | a::as,ha,i,stk,d,A,hs,h=>by
  rw [rowsAs] at A h
  rw [acts,wpM_bind] at h
  have hr:=rowsA_ge a
  refine sim_A ok hm (ha a (.head _)) A.app.1 hs (wpM_mono h (fun t d₁ q=>?_) fun _ _ q=>q)
  rw [wpM_bind] at q
  refine sim_As (fun x hx=>ha x (.tail _ hx)) A.app.2 (by refine rwG List.length_append ?_;simp;exact Nat.add_le_add hs hr) (wpM_mono q (fun r d₂ q=>?_) fun _ _ q=>q)
  have q:Run G pc (i + (rowsA a++rowsAs as).length) (stk++(t::r)) d₂ l:=q
  rw [List.length_append,←Nat.add_assoc] at q
  rw [List.append_assoc]
  exact q
end
end Mine
end
section
open PySem PySem.W PySem.Calls PyProof.Rows
namespace Mine
set_option backward.match.sparseCases false
variable {G:Glob}
variable {n:Nat} {σ:Sto} {Q:D→Sto→Prop} {E:Exn→Sto→Prop}
theorem step_text {i:Int}:S_ "step"++S_ " "++shT [.int i]=tStep i:=by
 refine rwG (show (S_ "step"++S_ " ":Str)=S_ "step " by decide +kernel) ?_;rfl
theorem line_text {i:Int}:S_ "line"++S_ " "++shT [.int i]=tLine i:=by
 refine rwG (show (S_ "line"++S_ " ":Str)=S_ "line " by decide +kernel) ?_;rfl
section
variable {pc:Pc} (ok:PcOk pc) {l:Laid} {ent:Body→M' Unit} {m:Nat} (hm:pc.n + m + 20 < 900)
include ok hm
noncomputable def After (G:Glob) (pc:Pc) (e:Int) (j:Nat) (l:Laid) (b:Bool) (d:Dd):Prop:=if b=true then ∃t:Nat,e=t∧Run G pc t [] d l else Run G pc j [] d l
theorem sim_S {e:Int} {s:S} (hs:sgood (Plays G l ent m) s) {i:Nat} {d:Dd} (A:At pc.rows i (rowsS e s))
  (h:wpM (go1 l ent s) (After G pc e (i + (rowsS e s).length) l) (fun e d'=>pc.Err e d' l) d):Run G pc i [] d l:=by
 rw [rowsS] at A h
 rw [go1,wpM_bind] at h
 have hn:=ok.hn
 refine run_tell ok A.head (by decide) (.cons (.int (sgood_line hs)) .nil) (Nat.le_of_ble_eq_true rfl) (by decide +kernel) (by decide +kernel) (by decide +kernel) (by decide +kernel) ?_
 refine rwG step_text ?_
 refine wpM_mono h (fun _ d₁ q=>?_) fun _ _ q=>q
 have A:=A.tail
 rw [List.length_cons,show i + ((rowsS1 e s).length + 1)=i + 1 + (rowsS1 e s).length by simp +arith only] at q
 generalize i + 1=i at A q
 clear h
 cases s with
 | null k=>exact q
 | asg k v=>
  have hv:vgood (Plays G l ent m) v:=hs.2
  rw [rowsS1] at A q
  rw [goB,wpM_bind] at q
  have hr:1≤(rowsV v).length:=by
   cases v<;>rw [rowsV]<;>simp<;>lia
  have A1:=A.app.1.app
  refine sim_Vg ok hm hv A1.1 (Nat.zero_le _) (wpM_mono q (fun t d₁ q ht=>?_) fun _ _ q=>q)
  rw [←bind'_assoc,wpM_bind] at q
  refine sim_target ok hm (p:=.y) trivial A1.2 (by simp;exact Nat.le_trans hr (Nat.le_add_left _ _)) (wpM_mono q (fun u d₁ q hu=>?_) fun _ _ q=>q)
  rw [wpM_bind] at q
  have A2:=A.app.2
  rw [List.length_append,←Nat.add_assoc] at A2
  refine run_rest2 ok (ps:=[]) A2.head (by decide) .nil (by decide) (by decide +kernel) (by decide +kernel) (by decide +kernel) (by decide +kernel) (by decide +kernel) (by decide +kernel) (by decide +kernel) (by decide +kernel) (by decide +kernel) (stk:=[]) (by exact Nat.le_trans ht (Nat.le_of_ble_eq_true rfl)) (by exact Nat.le_trans hu (Nat.le_of_ble_eq_true rfl)) (Nat.zero_le _) ?_
  refine rwG (show shT []=S_ "()" by decide +kernel) ?_
  refine wpM_mono q (fun t d₁ q=>?_) fun _ _ q=>q
  have q:Run G pc _ [] d₁ l:=q
  rw [List.length_append,List.length_append,←Nat.add_assoc,←Nat.add_assoc] at q
  exact q
 | ret k o=>
  cases o with
  | none=>
   rw [rowsS1] at A q
   refine ex12 (q:∃t:Nat,e=t∧Run G pc t [] d₁ l) ?_;clear (q:∃t:Nat,e=t∧Run G pc t [] d₁ l);rintro t rfl q
   exact run_jump ok A.head q
  | some v=>
   have hv:vgood (Plays G l ent m) v:=hs.2
   rw [rowsS1] at A q
   rw [goB,wpM_bind] at q
   have hr:1≤(rowsV v).length:=by
    cases v<;>rw [rowsV]<;>simp<;>lia
   have A1:=A.app.1.app
   refine sim_Vg ok hm hv A1.1 (Nat.zero_le _) (wpM_mono q (fun t d₁ q ht=>?_) fun _ _ q=>q)
   rw [wpM_bind] at q
   refine run_rest1 ok (ps:=[]) A1.2.head (by decide) .nil (by decide) (by decide +kernel) (by decide +kernel) (by decide +kernel) (by decide +kernel) (by decide +kernel) (by decide +kernel) (by decide +kernel) (by decide +kernel) (by decide +kernel) (stk:=[]) (by exact Nat.le_trans ht (Nat.le_of_ble_eq_true rfl)) (Nat.zero_le _) ?_
   refine rwG (show shT []=S_ "()" by decide +kernel) ?_
   refine wpM_mono q (fun t d₁ q=>?_) fun _ _ q=>q
   refine ex12 (q:∃t:Nat,e=t∧Run G pc t [] d₁ l) ?_;clear (q:∃t:Nat,e=t∧Run G pc t [] d₁ l);intro t₂ he q₂
   subst he
   have A2:=A.app.2
   rw [List.length_append,←Nat.add_assoc] at A2
   exact run_jump ok A2.head q₂
 | pdisp k as ix=>
  refine ex04 hs ?_;clear hs;intro _ h2 h3 h4
  rw [rowsS1] at A q
  rw [goB,wpM_bind] at q
  have hge:=rowsAs_ge as
  refine sim_As ok hm h4 A.app.1 (Nat.zero_le _) (wpM_mono (wpM_and q (acts_len h4 d₁)) (fun ts d₁ ⟨ht,q⟩=>?_) fun _ _ q=>q)
  rw [wpM_bind] at q
  have hi:=A.app.2.head
  rw [←ht.1] at hi
  refine run_row ok hi (by decide +kernel) (by decide +kernel) (F:=fun _=>([],l)) (fun Qr q=>pr_dispatchp (by exact lin1 hm (by simp +arith only)) ok.ok ok.hx (stk:=[]) (by decide) h2 ⟨by lia,ht.2⟩ (wpM_mono q (fun _ _ q=>q) fun e d' q ts=>ok.hE _ _ _ _ q)) (wpM_mono q (fun t d₂ q=>?_) fun _ _ q=>q)
  have q:Run G pc _ [] d₂ l:=q
  rw [List.length_append,←Nat.add_assoc] at q
  exact q
 | pcall k u x as=>
  refine ex06 hs ?_;clear hs;intro _ h2 h3 h4 h5 h6
  have hxl:=h3.1
  rw [rowsS1] at A q
  rw [goB,wpM_bind] at q
  have hge:=rowsAs_ge as
  have q:=wpM_and q found_lookup
  have A1:=A.app.1.app
  have hi0:=A1.1.head
  refine run_row ok hi0 (by decide +kernel) (by decide +kernel) (F:=fun _=>([x],l)) (fun Qr q=>pr_sub (by exact lin1 hm (by simp +arith only)) ok.ok ok.hx (stk:=[]) (by decide) (by exact Nat.le_trans hxl (Nat.le_of_ble_eq_true rfl)) (wpM_mono q (fun _ _ q=>q) fun e d' q=>ok.hE _ _ _ _ q)) (wpM_mono q (fun b d₂ ⟨hb,q⟩=>?_) fun _ _ q=>q)
  rw [wpM_bind] at q
  refine sim_As ok hm h6 (stk:=[x]) A1.2 (by exact Nat.succ_pos _) (wpM_mono (wpM_and q (acts_len h6 d₂)) (fun ts d₁ ⟨ht,q⟩=>?_) fun _ _ q=>q)
  rw [←bind'_assoc,wpM_bind] at q
  have hi:=A.app.2.head
  rw [←ht.1] at hi
  rw [List.length_append,←Nat.add_assoc] at hi
  refine run_row ok hi (by decide +kernel) (by decide +kernel) (F:=fun _=>([],l)) (fun Qr q=>pr_callp (by exact dm _ hm) ok.ok ok.hx (stk:=[]) (by decide) hb h4 (by exact Nat.le_trans hxl (Nat.le_of_ble_eq_true rfl)) ⟨by lia,ht.2⟩ (wpM_mono q (fun _ _ q=>q) fun e d' q ts=>ok.hE _ _ _ _ q)) (wpM_mono q (fun t d₂ q=>?_) fun _ _ q=>q)
  have q:Run G pc _ [] d₂ l:=q
  rw [List.length_append,List.length_append,←Nat.add_assoc,←Nat.add_assoc] at q
  exact q
theorem sim_Ss {e:Int}:∀{ss:List S},(∀s∈ss,sgood (Plays G l ent m) s)→∀{i:Nat} {d:Dd},At pc.rows i (rowsSs e ss)→
  wpM (go l ent ss) (After G pc e (i + (rowsSs e ss).length) l) (fun e d'=>pc.Err e d' l) d→Run G pc i [] d l
 | [],hs,i,d,A,h=>by
  rw [go,rowsSs] at h
  exact h
 | s::ss,hs,i,d,A,h=>by
  rw [rowsSs] at A h
  rw [go,wpM_bind] at h
  refine sim_S ok hm (hs s (.head _)) A.app.1 (wpM_mono h (fun b d₁ q=>?_) fun _ _ q=>q)
  cases b with
  | true=>exact q
  | false=>
   rw [List.length_append,←Nat.add_assoc] at q
   exact sim_Ss (fun x hx=>hs x (.tail _ hx)) A.app.2 q
noncomputable def SimD (G:Glob) (pc:Pc) (l:Laid) (ent:Body→M' Unit) (m k:Nat):Prop:=∀ds,(∀d∈ds,dgood (Plays G l ent m) k d)→∀(e:Int) (c i:Nat) (d:Dd),At pc.rows i (rowsDs e c ds)→
 wpM (decs l ent ds) (fun _ d'=>Run G pc (i + (rowsDs e c ds).length) [] d' l) (fun e d'=>pc.Err e d' l) d→Run G pc i [] d l
theorem sim_decl {k:Nat} (ih:∀j,k=j + 1→SimD G pc l ent m j) {dc:Dc} (hd:dgood (Plays G l ent m) k dc) {e:Int} {c i:Nat} {d:Dd} (A:At pc.rows i (row_line (lineD dc)::rowsD e c dc))
  (h:wpM (bind' (tell (tLine (lineD dc))) fun _=>decB l ent dc) (fun _ d'=>Run G pc (i + (row_line (lineD dc)::rowsD e c dc).length) [] d' l) (fun e d'=>pc.Err e d' l) d):Run G pc i [] d l:=by
 rw [wpM_bind] at h
 have hn:=ok.hn
 refine run_tell ok A.head (by decide) (.cons (.int (dgood_line hd)) .nil) (Nat.le_of_ble_eq_true rfl) (by decide +kernel) (by decide +kernel) (by decide +kernel) (by decide +kernel) ?_
 refine rwG line_text ?_
 refine wpM_mono h (fun _ d₁ q=>?_) fun _ _ q=>q
 have A:=A.tail
 rw [List.length_cons,show i + ((rowsD e c dc).length + 1)=i + 1 + (rowsD e c dc).length by simp +arith only] at q
 generalize i + 1=i at A q
 clear h
 have ct:(S_ "begincell"++shL [.str (S_ "S")]:Str)=cellT:=by decide +kernel
 have cl:cellT.length≤2 ^ 16:=by decide
 cases dc with
 | sub _ _ _ _=>cases k<;>exact hd.elim
 | exc j=>
  rw [rowsD] at q
  rw [decB] at q
  exact q
 | typ j=>
  rw [rowsD] at A q
  rw [decB] at q
  refine run_tell ok A.head (by decide) (.cons (.str ⟨by decide,by decide⟩) .nil) (Nat.le_of_ble_eq_true rfl) (by decide +kernel) (by decide +kernel) (by decide +kernel) (by decide +kernel) ?_
  refine rwG (show (S_ "laytype"++S_ " "++shT [.str (S_ "T")]:Str)=S_ "laytype ('T',)" by decide +kernel) ?_
  exact q
 | subt j=>
  rw [rowsD] at A q
  rw [decB] at q
  refine run_tell ok A.head (by decide) (.cons (.str ⟨by decide,by decide⟩) (.cons (.str ⟨by decide,by decide⟩) .nil)) (Nat.le_of_ble_eq_true rfl) (by decide +kernel) (by decide +kernel) (by decide +kernel) (by decide +kernel) ?_
  refine rwG (show (S_ "laysubtype"++S_ " "++shT [.str (S_ "t#4"),.str (S_ "S")]:Str)=S_ "laysubtype ('t#4', 'S')" by decide +kernel) ?_
  exact q
 | ren j x v=>
  have hd:Sm j∧SmS x∧vgood (Plays G l ent m) v:=by cases k<;>exact hd
  rw [rowsD] at A q
  rw [decB,wpM_bind] at q
  have hr:=rowsP_ge (.der v)
  refine sim_P ok hm (p:=.der v) hd.2.2 A.app.1 (Nat.zero_le _) (wpM_mono q (fun t d₁ q ht=>?_) fun _ _ q=>q)
  rw [wpM_bind] at q
  refine run_rest1 ok A.app.2.head (by decide) (.cons (.str hd.2.1) .nil) (Nat.le_of_ble_eq_true rfl) (by decide +kernel) (by decide +kernel) (by decide +kernel) (by decide +kernel) (by decide +kernel) (by decide +kernel) (by decide +kernel) (by decide +kernel) (by decide +kernel) (stk:=[]) (by exact Nat.le_trans ht (Nat.le_of_ble_eq_true rfl)) (Nat.zero_le _) (wpM_mono q (fun _ d₁ q=>?_) fun _ _ q=>q)
  have q:Run G pc _ [] d₁ l:=q
  rw [List.length_append,←Nat.add_assoc] at q
  exact q
 | var j x o=>
  cases o with
  | none=>
   have hd:Sm j∧SmS x:=by cases k<;>exact hd
   rw [rowsD] at A q
   rw [decB,wpM_bind] at q
   refine run_push ok A.head (by decide) (.cons (.str ⟨by decide,by decide⟩) .nil) (Nat.le_of_ble_eq_true rfl) (by decide +kernel) (by decide +kernel) (by decide +kernel) (by decide +kernel) (by decide +kernel) (by decide +kernel) (by decide +kernel) (Nat.zero_le _) ?_
   refine rwG ct ?_
   exact run_rest1 ok A.tail.head (by decide) (.cons (.str hd.2) .nil) (Nat.le_of_ble_eq_true rfl) (by decide +kernel) (by decide +kernel) (by decide +kernel) (by decide +kernel) (by decide +kernel) (by decide +kernel) (by decide +kernel) (by decide +kernel) (by decide +kernel) (stk:=[]) cl (Nat.zero_le _) q
  | some v=>
   have hd:Sm j∧SmS x∧vgood (Plays G l ent m) v:=by cases k<;>exact hd
   rw [rowsD] at A q
   rw [decB,wpM_bind] at q
   have hr:1≤(rowsV v).length:=by
    cases v<;>rw [rowsV]<;>simp<;>lia
   have A1:=A.app.1.app
   refine run_push ok A1.1.head (by decide) (.cons (.str ⟨by decide,by decide⟩) .nil) (Nat.le_of_ble_eq_true rfl) (by decide +kernel) (by decide +kernel) (by decide +kernel) (by decide +kernel) (by decide +kernel) (by decide +kernel) (by decide +kernel) (Nat.zero_le _) ?_
   refine rwG ct ?_
   refine sim_Vg ok hm hd.2.2 (stk:=[cellT]) A1.2 (by exact Nat.succ_pos _) (wpM_mono q (fun t d₁ q ht=>?_) fun _ _ q=>q)
   rw [wpM_bind] at q
   have A2:=A.app.2
   rw [List.length_append,←Nat.add_assoc] at A2
   refine run_rest2 ok A2.head (by decide) (.cons (.str hd.2.1) .nil) (Nat.le_of_ble_eq_true rfl) (by decide +kernel) (by decide +kernel) (by decide +kernel) (by decide +kernel) (by decide +kernel) (by decide +kernel) (by decide +kernel) (by decide +kernel) (by decide +kernel) (stk:=[]) cl (by exact Nat.le_trans ht (Nat.le_of_ble_eq_true rfl)) (Nat.zero_le _) (wpM_mono q (fun _ d₁ q=>?_) fun _ _ q=>q)
   have q:Run G pc _ [] d₁ l:=q
   rw [List.length_append,List.length_append,←Nat.add_assoc,←Nat.add_assoc] at q
   exact q
 | pack j x y z ss=>
  cases k with
  | zero=>exact hd.elim
  | succ k=>
   refine ex05 hd ?_;clear hd;intro _ h2 h3 h4 h5
   have ih:=ih k rfl
   rw [rowsD] at A q
   rw [decB,wpM_bind] at q
   rw [List.cons_append,List.nil_append] at A q
   refine run_tell ok A.head (by decide) .nil (Nat.le_of_ble_eq_true rfl) (by decide +kernel) (by decide +kernel) (by decide +kernel) (by decide +kernel) ?_
   refine rwG (show (S_ "pack"++S_ " "++shT []:Str)=S_ "pack ()" by decide +kernel) ?_
   refine wpM_mono q (fun _ d₁ q=>?_) fun _ _ q=>q
   have A:=A.tail
   rw [List.length_cons,Nat.add_comm _ 1,←Nat.add_assoc] at q
   generalize i + 1=i at A q
   have A5:=A.app.1.app
   have A4:=A5.1.app
   have A3:=A4.1.app
   have A2:=A3.1.app
   rw [wpM_bind] at q
   refine ih x (fun d hd=>h2 d (by simp [hd])) e c i d₁ A2.1 (wpM_mono q (fun _ d₁ q=>?_) fun _ _ q=>q)
   rw [wpM_bind] at q
   refine ih y (fun d hd=>h2 d (by simp [hd])) e c _ d₁ A2.2 (wpM_mono q (fun _ d₁ q=>?_) fun _ _ q=>q)
   rw [wpM_bind] at q
   have B3:=A3.2
   rw [List.length_append,←Nat.add_assoc] at B3
   refine ih z (fun d hd=>h2 d (by exact List.mem_append_right _ hd)) e c _ d₁ B3 (wpM_mono q (fun _ d₁ q=>?_) fun _ _ q=>q)
   rw [wpM_bind] at q
   have B4:=A4.2
   rw [List.length_append,List.length_append,←Nat.add_assoc,←Nat.add_assoc] at B4
   refine run_arm ok B4.head (wpM_mono q (fun _ d₁ q=>?_) fun _ _ q=>q)
   rw [wpM_bind] at q
   have B5:=A5.2
   rw [List.length_append,List.length_append,List.length_append,←Nat.add_assoc,←Nat.add_assoc,←Nat.add_assoc] at B5
   refine sim_Ss ok hm (fun s hs=>(h3 s hs).1) B5 (wpM_mono (wpM_and q (go_noRet (fun s hs=>(h3 s hs).2) d₁)) (fun b d₁ ⟨hb,q⟩=>?_) fun _ _ q=>q)
   subst hb
   have B6:=A.app.2
   rw [List.length_append,List.length_append,List.length_append,List.length_append,←Nat.add_assoc,←Nat.add_assoc,←Nat.add_assoc,←Nat.add_assoc] at B6
   refine (?_:Run G pc _ [] d₁ l)
   refine run_tell ok B6.head (by decide) .nil (Nat.le_of_ble_eq_true rfl) (by decide +kernel) (by decide +kernel) (by decide +kernel) (by decide +kernel) ?_
   refine rwG (show (S_ "endpack"++S_ " "++shT []:Str)=S_ "endpack ()" by decide +kernel) ?_
   refine wpM_mono q (fun _ d₁ q=>?_) fun _ _ q=>q
   rw [List.length_append,List.length_append,List.length_append,List.length_append,List.length_append,←Nat.add_assoc,←Nat.add_assoc,←Nat.add_assoc,←Nat.add_assoc,←Nat.add_assoc] at q
   exact q
theorem simD_step {k:Nat} (ih:∀j,k=j + 1→SimD G pc l ent m j):SimD G pc l ent m k
 | [],hd,e,c,i,d,A,h=>by
  rw [decs,rowsDs] at h
  exact h
 | dc::ds,hd,e,c,i,d,A,h=>by
  rw [rowsDs,←List.cons_append] at A h
  rw [decs,←bind'_assoc,wpM_bind] at h
  refine sim_decl ok hm ih (hd dc (.head _)) A.app.1 (wpM_mono h (fun _ d₁ q=>?_) fun _ _ q=>q)
  rw [List.length_append,←Nat.add_assoc] at q
  exact simD_step ih ds (fun x hx=>hd x (.tail _ hx)) e _ _ d₁ A.app.2 q
theorem simD:∀k,SimD G pc l ent m k
 | 0=>simD_step ok hm (fun j e=>by cases e)
 | k + 1=>simD_step ok hm (fun j e=>by cases e;exact simD k)
end
end Mine
end
section
open PySem PySem.W PySem.Calls PyProof.Rows
namespace Mine
set_option backward.match.sparseCases false
variable {G:Glob}
variable {n:Nat} {σ:Sto} {Q:D→Sto→Prop} {E:Exn→Sto→Prop}
theorem rowsDs_len (e:Int) (c:Nat) (ds:List Dc):(rowsDs e c ds).length=(rowsDs 0 c ds).length:=by
 have:=(r2_Ds (ms:=[e]) (by simp) c ds).len
 exact this
theorem rowsSs_len (e:Int) (ss:List S):(rowsSs e ss).length=(rowsSs 0 ss).length:=by
 have:=(r2_Ss (ms:=[e]) (by simp) ss).len
 exact this
noncomputable def wlen (b:Body):Nat:=(rowsW (endW b.1 b.2) b.1 b.2 row_endsub).length
theorem c_playsub {l:Laid} {f m:Nat} {b:Body} (hb:bgood (Plays G l (entF l f) m) b) (hz:wlen b≤2 ^ 19):PlayC G l (entF l (f + 1)) (m + 25) b:=fun x n σ Q E a d ok hn h=>by
 rw [entF,wpM_bind] at h
 refine c_played ok (by exact lin1 hn (by simp +arith only)) fun x hx=>?_
 generalize hpc:Pc.mk n σ a x _ _ _ _ _ _=pc
 have P:PcOk pc:=by subst hpc;exact ⟨ok,hx,hz,fun e d l ts q=>out_of hx q,by refine (?_:n < 890);exact lin1 hn (by simp +arith only)⟩
 have hm:pc.n + m + 20 < 900:=by subst hpc;refine (?_:n + m + 20 < 900);exact lin1 hn (by simp +arith only)
 have A:At pc.rows 0 (rowsDs (endW b.1 b.2) 0 b.1++[row_arm]++rowsSs (endW b.1 b.2) b.2++[row_endsub]):=by subst hpc;exact ⟨[],[],by exact (List.append_nil _).symm,rfl⟩
 have hE:∀e d',E e (bput σ a d' (layD fP l))→pc.Err e d' l:=by subst hpc;exact fun _ _ q=>q
 have hQ:∀d',Q .none (bput σ a d' (layD fP l))→pc.Q .none (pc.st [] d' l):=by subst hpc;exact fun _ q=>out_ofQ hx q
 clear hpc
 have A3:=A.app.1.app
 have A2:=A3.1.app
 refine simD P hm 0 _ hb.1 _ 0 0 d A2.1 (wpM_mono h (fun _ d₁ q=>?_) fun e d' q=>hE _ _ q)
 rw [wpM_bind] at q
 refine run_arm P A2.2.head (wpM_mono q (fun _ d₁ q=>?_) fun e d' q=>hE _ _ q)
 rw [wpM_bind] at q
 have B3:=A3.2
 rw [List.length_append,←Nat.add_assoc] at B3
 have ee:endW b.1 b.2=((0 + (rowsDs (endW b.1 b.2) 0 b.1++[row_arm]++rowsSs (endW b.1 b.2) b.2).length:Nat):Int):=by
  refine (?_:((rowsDs 0 0 b.1++[row_arm]++rowsSs 0 b.2).length:Int)=_)
  simp only [List.length_append,List.length_cons,List.length_nil,rowsDs_len (endW b.1 b.2),rowsSs_len (endW b.1 b.2)]
  simp +arith only
 have fin:∀d',wpM (tell (S_ "endsub 0")) (fun _ d'=>Q .none (bput σ a d' (layD fP l))) (fun e d'=>E e (bput σ a d' (layD fP l))) d'→Run G pc (0 + (rowsDs (endW b.1 b.2) 0 b.1++[row_arm]++rowsSs (endW b.1 b.2) b.2).length) [] d' l:=fun d' q=>by
  refine run_end P A.app.2.head (by decide +kernel) (by decide) ?_
  refine rwG (show (S_ "endsub"++S_ " "++iS 0:Str)=S_ "endsub 0" by decide +kernel) ?_
  exact wpM_mono q (fun _ d' q=>hQ d' q) fun e d' q=>hE _ _ q
 refine sim_Ss P hm hb.2 B3 (wpM_mono q (fun r d₁ q=>?_) fun e d' q=>hE _ _ q)
 unfold After
 split
 ·exact ⟨_,ee,fin d₁ q⟩
 ·have:=fin d₁ q
  rw [List.length_append,List.length_append,←Nat.add_assoc,←Nat.add_assoc] at this
  exact this
noncomputable def LOk2 (l:Laid):Prop:=LOk l∧∀s b,l.lookup s=some b→wlen b≤2 ^ 19
theorem plays_of {l:Laid} (L:LOk2 l):∀(f j:Nat),3≤j + f→∀s,Cl j s→Plays G l (entF l f) (25 * f) s
 | 0,j,hj,s,⟨i,h1,h2,e⟩=>fun b hb=>by
  refine ex13 (L.1 s b hb) ?_;intro j' h3 e' _
  have:=sN_inj h2 (by exact Nat.le_succ_of_le h3) (e.symm.trans e')
  lia
 | f + 1,j,hj,s,⟨i,h1,h2,e⟩=>fun b hb=>by
  refine ex13 (L.1 s b hb) ?_;intro j' h3 e' g
  have:=sN_inj h2 (by exact Nat.le_succ_of_le h3) (e.symm.trans e')
  subst this
  exact c_playsub (bgood_mono (plays_of L f (i + 1) (by exact lin2 hj h1 (by simp +arith only))) g) (L.2 s b hb)
theorem LOk2.put {l:Laid} {j:Nat} {b:Body} (L:LOk2 l) (hj:j≤2) (hb:bgood (Cl (j + 1)) b) (hz:wlen b≤2 ^ 19):LOk2 (lput l (sN j) b):=⟨L.1.put hj hb,fun s c h=>by
 rw [lput_lookup] at h
 split at h
 ·cases h;exact hz
 ·exact L.2 s c h⟩
noncomputable def tsize:Dc→Prop
 | .sub _ _ ds ss=>wlen (ds,ss)≤2 ^ 19
 | _=>True
section
variable {pc:Pc} (ok:PcOk pc) (hn:pc.n < 790) {Err:Exn→Dd→Prop} (hErr:∀e d l,pc.Err e d l=Err e d)
include ok hn hErr
theorem sim_tops {e:Int}:∀(ds:List Dc),(∀d∈ds,tgood d∧tsize d)→∀{l:Laid} {i:Nat} {d:Dd} {pre:List D},At pc.rows i (rowsDs e pre.length ds)→pre.length≤i→pc.codes=pre++codesDs ds→LOk2 l→l.length + ds.length≤1000→
  wpM (tops 3 l ds) (fun l' d'=>LOk2 l'→Run G pc (i + (rowsDs e pre.length ds).length) [] d' l') Err d→Run G pc i [] d l
 | [],hd,l,i,d,pre,A,hpi,hc,L,hl,h=>by
  rw [tops,rowsDs] at h
  exact h L
 | s::ds,hd,l,i,d,pre,A,hpi,hc,L,hl,h=>by
  have hm:=hd s (.head _)
  rw [List.length_cons] at hl
  rw [rowsDs,←List.cons_append] at A h
  have hlt:=A.le
  have hz:=ok.hz
  by_cases hsub:∃i x ds ss,s=.sub i x ds ss
  ·refine ex41 hsub ?_;clear hsub;rintro k x ds' ss rfl
   refine ex02 hm ?_;clear hm;rintro ⟨hi,j,hj,rfl,hb⟩ hs
   have hsn:=(sN_sm (i:=j) (by exact Nat.le_succ_of_le hj)).1
   rw [tops,wpM_bind] at h
   have A1:=A.app.1
   refine run_tell ok A1.head (by decide) (.cons (.int hi) .nil) (Nat.le_of_ble_eq_true rfl) (by decide +kernel) (by decide +kernel) (by decide +kernel) (by decide +kernel) ?_
   refine rwG line_text ?_
   refine wpM_mono h (fun _ d₁ q=>?_) fun e d q=>(hErr _ _ _).mpr q
   rw [wpM_bind] at q
   have hcl:pc.codes[pre.length]?=some (fP (sN j) (ds',ss)):=by
    (refine rwG hc ?_;rewrite [codesDs];refine rwG (List.getElem?_append_right (Nat.le_refl _)) ?_;rewrite [Nat.sub_self]);rfl
   have A2:=A1.tail
   have A3:=A.app.2
   rw [rowsD] at A2 A3 q
   have hlput:=lput_len (l:=l) (x:=sN j) (b:=(ds',ss))
   refine run_row ok A2.head (by decide +kernel) (by decide +kernel) (F:=fun _=>([],lput l (sN j) (ds',ss))) (fun Qr q=>pr_laysub (by exact dn _ hn) ok.ok (by lia) hcl (by exact lx' hl) (by exact Nat.le_trans hsn (Nat.le_of_ble_eq_true rfl)) (wpM_mono q (fun _ _ q=>q) fun e d' q=>ok.hE _ _ _ _ (by rw [hErr] at q ⊢;exact q))) (wpM_mono q (fun _ d₁ q=>?_) fun e d q=>(hErr _ _ _).mpr q)
   have el:(pre++codesD (.sub k (sN j) ds' ss)).length=pre.length + subsD (.sub k (sN j) ds' ss):=by (refine rwG List.length_append ?_;rewrite [codesD_len];rfl)
   rw [←el] at A3 q
   refine sim_tops ds (fun x hx=>hd x (.tail _ hx)) A3 (by refine rwG el ?_;simp [subsD];exact Nat.le_succ_of_le hpi) (by (refine rwG hc ?_;rewrite [codesDs,List.append_assoc];rfl)) (L.put hj hb hs) (Nat.le_trans (Nat.add_le_add_right hlput _) (by exact lin1 hl (by simp +arith only))) (wpM_mono q (fun l' d' q L'=>?_) fun _ _ q=>q)
   have q:=q L'
   rw [List.length_append,←Nat.add_assoc] at q
   exact q
  ·have hns:∀i x ds ss,s≠.sub i x ds ss:=fun i x ds ss e=>hsub ⟨i,x,ds,ss,e⟩
   rw [tops_cons hns,wpM_bind] at h
   have hm':dgood (Cl 0) 2 s:=by
    cases s with
    | sub i x ds ss=>exact absurd rfl (hns i x ds ss)
    | _=>exact hm.1
   have h0:subsD s=0:=by
    cases s with
    | sub i x ds ss=>exact absurd rfl (hns i x ds ss)
    | _=>rfl
   have hc0:codesD s=[]:=List.length_eq_zero_iff.mp (by (rewrite [codesD_len];refine rwG h0 ?_;rfl))
   have A3:=A.app.2
   rw [h0,Nat.add_zero] at A3 h
   refine sim_decl ok (m:=75) (by exact lin1 hn (by simp +arith only)) (fun j _=>simD ok (by exact lin1 hn (by simp +arith only)) j) (dgood_mono (plays_of L 3 0 (by decide)) hm') A.app.1 (wpM_mono h (fun _ d₁ q=>?_) fun e d q=>(hErr _ _ _).mpr q)
   refine sim_tops ds (fun x hx=>hd x (.tail _ hx)) A3 (by exact Nat.le_trans hpi (Nat.le_add_right _ _)) (by (refine rwG hc ?_;rewrite [codesDs];refine rwG hc0 ?_;rewrite [List.nil_append];rfl)) L (by exact Nat.le_of_lt hl) (wpM_mono q (fun l' d' q L'=>?_) fun _ _ q=>q)
   have q:=q L'
   rw [List.length_append,←Nat.add_assoc] at q
   exact q
end
theorem c_playmain {ds:List Dc} (hd:∀d∈ds,tgood d∧tsize d) {a:BA} (ok:BOk a) {d:Dd} {Err:Exn→Dd→Prop} (hE:∀e d' es,Err e d'→E e (bput σ a d' es)) (hl:ds.length≤1000) (hz:(rowsM (endM ds (sN 0)) ds (sN 0)).length≤2 ^ 19) (hn:n < 790)
  (h:wpM (program 3 ds (sN 0)) (fun _ d'=>∀l',Q .none (bput σ a d' (layD fP l'))) Err d):WC G n (.fn 100 0) [.ref a.b,.ins 8 (codeF (rowsM (endM ds (sN 0)) ds (sN 0)) .none (codesDs ds))] (bput σ a d []) Q E:=by
 have hsn:=(sN_sm (i:=0) (by lia)).1
 rw [program,wpM_bind] at h
 refine c_played (l:=[]) ok (by exact Nat.lt_of_lt_of_le hn (Nat.le_of_ble_eq_true rfl)) fun x hx=>?_
 refine (?_:Run G (Pc.mk n σ a x _ _ _ _ _ fun e d _=>Err e d) 0 [] d [])
 generalize hpc:Pc.mk n σ a x _ _ _ _ _ _=pc
 have P:PcOk pc:=by subst hpc;exact ⟨ok,hx,hz,fun e d l ts q=>out_of hx (hE _ _ _ q),by refine (?_:n < 890);exact Nat.lt_of_lt_of_le hn (Nat.le_of_ble_eq_true rfl)⟩
 have hm:pc.n < 790:=by subst hpc;exact hn
 have hm2:pc.n + 75 + 20 < 900:=by lia
 have A:At pc.rows 0 (rowsDs (endM ds (sN 0)) 0 ds++tailW (sN 0)):=by subst hpc;exact ⟨[],[],by simp [rowsM],rfl⟩
 have hEr:∀e d l,pc.Err e d l=Err e d:=by subst hpc;exact fun _ _ _=>rfl
 have hQ:∀d' l,Q .none (bput σ a d' (layD fP l))→pc.Q .none (pc.st [] d' l):=by subst hpc;exact fun _ _ q=>out_ofQ hx q
 have hco:pc.codes=[]++codesDs ds:=by subst hpc;rfl
 clear hpc
 refine sim_tops P hm hEr ds hd (pre:=[]) A.app.1 (Nat.le_refl _) hco ⟨LOk.nil,fun _ _ h=>nomatch h⟩ (by simpa using hl) (wpM_mono h (fun l d₁ q L=>?_) fun _ _ q=>q)
 have A:=A.app.2
 unfold tailW at A
 change Run G pc (0 + (rowsDs (endM ds (sN 0)) 0 ds).length) [] d₁ l
 generalize 0 + (rowsDs (endM ds (sN 0)) 0 ds).length=i at A ⊢
 rw [wpM_bind] at q
 refine run_arm P A.head (wpM_mono q (fun _ d₁ q=>?_) fun e d q=>(hEr _ _ _).mpr q)
 rw [wpM_bind] at q
 refine run_tell P A.tail.head (by decide) (.cons (.int (sm_lit 0)) .nil) (Nat.le_of_ble_eq_true rfl) (by decide +kernel) (by decide +kernel) (by decide +kernel) (by decide +kernel) ?_
 refine rwG (show (S_ "step"++S_ " "++shT [.int 0]:Str)=S_ "step (0,)" by decide +kernel) ?_
 refine wpM_mono q (fun _ d₁ q=>?_) fun e d q=>(hEr _ _ _).mpr q
 rw [wpM_bind] at q
 have q:=wpM_and q found_lookup
 refine run_row P A.tail.tail.head (by decide +kernel) (by decide +kernel) (F:=fun _=>([sN 0],l)) (fun Qr q=>pr_sub (by exact dn _ hm) P.ok P.hx (stk:=[]) (by decide) (by lia) (wpM_mono q (fun _ _ q=>q) fun e d' q=>P.hE _ _ _ _ q)) (wpM_mono q (fun b d₂ ⟨hb,q⟩=>?_) fun e d q=>(hEr _ _ _).mpr q)
 rw [←bind'_assoc,wpM_bind] at q
 refine run_row P A.tail.tail.tail.head (by decide +kernel) (by decide +kernel) (F:=fun _=>([],l)) (fun Qr q=>pr_callp (ts:=[]) (by exact lin1 hm (by simp +arith only)) P.ok P.hx (stk:=[]) (by decide) hb (plays_of L 3 0 (by decide) (sN 0) ⟨0,by decide,by decide,rfl⟩) (by lia) ⟨by decide,fun _ h=>nomatch h⟩ (wpM_mono q (fun _ _ q=>q) fun e d' q ts=>P.hE _ _ _ _ q)) (wpM_mono q (fun _ d₂ q=>?_) fun e d q=>(hEr _ _ _).mpr q)
 refine run_end P A.tail.tail.tail.tail.head (by decide +kernel) (by decide) ?_
 refine rwG (show (S_ "endbody"++S_ " "++iS 0:Str)=S_ "endbody 0" by decide +kernel) ?_
 exact wpM_mono q (fun _ d' q=>hQ d' l (q l)) fun e d q=>(hEr _ _ _).mpr q
end Mine
end
section
open PySem PySem.W PySem.Calls PyProof.Rows
namespace Mine
set_option backward.match.sparseCases false
variable {G:Glob}
variable {n:Nat} {σ:Sto} {Q:D→Sto→Prop} {E:Exn→Sto→Prop}
structure St where
 u:Nat
 ln:Nat
 lf:Int
noncomputable def sD (scr:List D) (st:St):List (Str×D):=[(S_ "script",.lst scr),(S_ "used",.int st.u),(S_ "line",.int st.ln),(S_ "left",.int st.lf)]
noncomputable def sput (σ:Sto) (s:Addr) (scr:List D) (st:St):Sto:=σ.set s (.dict (sD scr st))
structure ScrOk (scr:List D):Prop where
 len:scr.length≤1000
 allI:∀d∈scr,∃i,d=D.int i
section
variable {s:Addr} {scr:List D} {st:St}
theorem sput_s:sput σ s scr st s=some (.dict (sD scr st)):=Sto.at_set
theorem sput_used {u:Nat}:(sput σ s scr st).set s (.dict (dput (sD scr st) (S_ "used") (.int u)))=sput σ s scr { st with u:=u }:=by
 unfold sput;refine rwG Sto.set_set ?_;rfl
theorem sput_line {u:Nat}:(sput σ s scr st).set s (.dict (dput (sD scr st) (S_ "line") (.int u)))=sput σ s scr { st with ln:=u }:=by
 unfold sput;refine rwG Sto.set_set ?_;rfl
theorem sput_left {u:Int}:(sput σ s scr st).set s (.dict (dput (sD scr st) (S_ "left") (.int u)))=sput σ s scr { st with lf:=u }:=by
 unfold sput;refine rwG Sto.set_set ?_;rfl
theorem s_script:SubR (sput σ s scr st) (.ref s) (.str (S_ "script")) (.lst scr):=.dctM sput_s (List.mem_of_getElem? (i:=0) rfl)
theorem s_used:SubR (sput σ s scr st) (.ref s) (.str (S_ "used")) (.int st.u):=.dctM sput_s (List.mem_of_getElem? (i:=1) rfl)
theorem s_line:SubR (sput σ s scr st) (.ref s) (.str (S_ "line")) (.int st.ln):=.dctM sput_s (List.mem_of_getElem? (i:=2) rfl)
theorem s_left:SubR (sput σ s scr st) (.ref s) (.str (S_ "left")) (.int st.lf):=.dctM sput_s (List.mem_of_getElem? (i:=3) rfl)
theorem sput_none {x:Addr} (h:sput σ s scr st x=none):x≠s∧σ x=none:=Sto.set_none h
theorem sput_put {x:Addr} {o:AObj} (h:x≠s):(sput σ s scr st).set x o=sput (σ.set x o) s scr st:=Sto.set_comm (Ne.symm h)
theorem sput_x {x:Addr} {o:AObj} (h:x≠s):sput (σ.set x o) s scr st x=some o:=by unfold sput;refine rwG (Sto.at_ne h) ?_;exact Sto.at_set
theorem sput_set {x:Addr} {o o':AObj} (h:x≠s):(sput (σ.set x o) s scr st).set x o'=sput (σ.set x o') s scr st:=by (refine rwG (sput_put h) ?_;refine rwG Sto.set_set ?_;rfl)
theorem sput_del {x:Addr} {o:AObj} (h:x≠s) (h':σ x=none):(sput (σ.set x o) s scr st).del x=sput σ s scr st:=by
 funext b;unfold sput Sto.del Sto.set
 by_cases e:b=x
 ·subst e;(refine rwG (if_pos rfl) ?_;refine rwG (if_neg h) ?_;refine rwG h' ?_;rfl)
 ·simp only [if_neg e]
end
theorem c_digit (hn:n < 970) {s:Addr} {scr:List D} {st:St} (ok:ScrOk scr) {m:Int} (hm:0 < m) (hm2:m < 1000) (h:∀r st',0≤r→r < m→st'.ln=st.ln→Q (.int r) (sput σ s scr st')):WC G n (.fn 88 0) [.ref s,.int m] (sput σ s scr st) Q E:=by
 have hl:=ok.len
 have hp:∀a,Builtin.divisionGoesByPylong a m=false:=fun a=>PyProof.noPylong_small (by lia)
 have md:∀a:Int,0≤a.fmod m∧a.fmod m < m:=fun a=>⟨Int.fmod_nonneg_of_pos a hm,Int.fmod_lt_of_pos a hm⟩
 refine WC.fnV k88 (dn' 2 hn) ?_
 refine Vm.sub s_used ?_
 refine Vm.bin .addI ?_
 refine Vm.setI (.dict sput_s (Nat.le_of_ble_eq_true rfl)) ?_
 refine rwG (show ((st.u:Int) + 1)=((st.u + 1:Nat):Int) from rfl) ?_;refine rwG sput_used ?_
 refine Vm.sub s_used ?_
 refine Vm.sub s_script ?_
 refine Vm.blt (CallB.len .lst (sl hl) ?_)
 have hm0:m≠0:=fun e=>by rw [e] at hm;exact absurd hm (by decide)
 by_cases hle:((st.u + 1:Nat):Int)≤scr.length
 ·refine Vm.cmp (.b (decide_eq_true hle) .leI) ?_
  refine Vm.sub s_script ?_
  refine Vm.sub s_used ?_
  refine Vm.bin .subI ?_
  have hlt:st.u < scr.length:=Int.ofNat_le.mp hle
  refine ex11 (ok.allI scr[st.u] (List.getElem_mem hlt)) ?_;intro i hi
  refine rwG (show (((st.u + 1:Nat):Int) - 1)=(st.u:Int) from Int.add_sub_cancel (st.u:Int) 1) ?_
  refine Vm.sub (.lstAt (d:=.int i) (Int.natCast_nonneg _) (Int.lt_of_lt_of_le (Int.ofNat_lt.mpr (Nat.lt_of_lt_of_le hlt hl)) (by decide)) (by refine (?_:scr[st.u]?=_);(refine rwG (List.getElem?_eq_getElem hlt) ?_;refine rwG hi ?_;rfl))) ?_
  exact Vm.bin (.modI hm0) (h _ _ (md i).1 (md i).2 rfl)
 ·refine Vm.cmp (.b (decide_eq_false hle) .leI) ?_
  refine Vm.sub s_used ?_
  refine Vm.sub s_used ?_
  refine Vm.bin (.divI (by decide) (PyProof.noPylong_small (by decide))) ?_
  refine Vm.bin (.mulI (PySem.IntMulOk.of_right (PySem.intBits_le_64 (by decide) (by decide)))) ?_
  refine Vm.bin .addI ?_
  exact Vm.bin (.modI hm0) (h _ _ (md _).1 (md _).2 rfl)
theorem sN_add {f r:Nat} (h:f + r≤3):S_ "s#"++(toString ((f:Int) + (r:Int)):Str)=sN (f + r):=rfl
theorem c_goal (hn:n < 960) {s:Addr} {scr:List D} {st:St} (ok:ScrOk scr) {f:Nat} (hf:f≤3) (h:∀g st',Cl f g→st'.ln=st.ln→Q (.str g) (sput σ s scr st')):WC G n (.fn 90 0) [.ref s,.int f] (sput σ s scr st) Q E:=by
 refine WC.fnV k90 (dn' 2 hn) ?_
 refine Vm.cmp (.b (decide_eq_true (show (f:Int) < 4 by lia)) .ltI) ?_
 refine Vm.bin .subI ?_
 refine Vm.fn (c_digit (dn 1 hn) ok (by lia) (by lia) fun r st' h0 h1 e=>?_)
 refine ex11 (Int.eq_ofNat_of_zero_le h0) ?_;rintro r rfl
 refine Vm.bin .addI ?_
 have hsm:Sm ((f:Int) + (r:Int)):=⟨by lia,by lia⟩
 refine Vm.blt (CallB.strI hsm.log ?_)
 have hle:(iS ((f:Int) + (r:Int))).length≤8:=iS_len hsm
 refine Vm.bin (.addS (sl (Nat.add_le_add_left hle 2))) ?_
 refine rwG (sN_add (by lia)) ?_
 exact h _ _ ⟨f + r,by lia,by lia,rfl⟩ e
end Mine
end
section
open PySem PySem.W PySem.Calls PyProof.Rows
namespace Mine
set_option backward.match.sparseCases false
variable {G:Glob}
variable {n:Nat} {σ:Sto} {Q:D→Sto→Prop} {E:Exn→Sto→Prop}
noncomputable def vread (f k:Nat) (v:V):Prop:=vdepth v≤k∧vsm v∧vall (Cl f) v
noncomputable def RValOk (G:Glob) (k:Nat):Prop:=∀(n:Nat) (σ:Sto) (Q:D→Sto→Prop) (E:Exn→Sto→Prop) (s:Addr) (scr:List D) (st:St) (f:Nat),ScrOk scr→f≤3→k≤2→n + 2 * k < 940→
 (∀v st',vread f k v→st'.ln=st.ln→Q (encV v) (sput σ s scr st'))→WC G n (.fn 89 0) [.ref s,.int f,.int k] (sput σ s scr st) Q E
theorem vdepths_all {k:Nat}:∀{vs:List V},(∀v∈vs,vdepth v≤k)→vdepths vs≤k
 | [],_=>by rw [vdepths];exact Nat.zero_le _
 | v::vs,h=>by
  rw [vdepths]
  exact Nat.max_le.mpr ⟨h v (.head _),vdepths_all fun x hx=>h x (.tail _ hx)⟩
theorem vsms_all:∀{vs:List V},(∀v∈vs,vsm v)→vsms vs
 | [],_=>by rw [vsms];trivial
 | v::vs,h=>by rw [vsms];exact ⟨h v (.head _),vsms_all fun x hx=>h x (.tail _ hx)⟩
theorem valls_all {C:Str→Prop}:∀{vs:List V},(∀v∈vs,vall C v)→valls C vs
 | [],_=>by rw [valls];trivial
 | v::vs,h=>by rw [valls];exact ⟨h v (.head _),valls_all fun x hx=>h x (.tail _ hx)⟩
noncomputable def R89r:R:=(.cons (.ifs (.cmp .Eq (.v 3) (.ci 0)) (.cons (.ret (.tup (.cons (.cs (S_ "lit")) (.cons (.ci 0) (.cons (.dfn (S_ "_law_digit") 88 (.cons (.v 0) (.cons (.ci 9) .nil))) .nil))))) .nil) .nil) (.cons (.ifs (.cmp .Lt (.v 3) (.ci 3)) (.cons (.ret (.tup (.cons (.cs (S_ "obj")) (.cons (.ci 0) (.cons (.dfn (S_ "_law_digit") 88 (.cons (.v 0) (.cons (.ci 2) .nil))) (.cons (.cs (S_ "x#1")) .nil)))))) .nil) .nil) (.cons (.asgC 4 5 [0,1,2] (scOf (sp (hdS (tlS (tlS (tlS (tlS (sBody (stAt 89 0)))))))).v) (.blt 1 (.cons (.dfn (S_ "_law_digit") 88 (.cons (.v 0) (.cons (.ci 3) .nil))) .nil)) (.tup (.cons (.cs (S_ "in")) (.cons (.dfn (S_ "_law_value") 89 (.cons (.v 0) (.cons (.v 1) (.cons (.bin .Sub (.v 2) (.ci 1)) .nil)))) .nil)))) (.cons (.ifs (.cmp .Eq (.v 3) (.ci 4)) (.cons (.ret (.tup (.cons (.cs (S_ "dispatch")) (.cons (.ci 0) (.cons (.cs (S_ "area")) (.cons (.v 4) (.cons (.dfn (S_ "_law_digit") 88 (.cons (.v 0) (.cons (.ci 2) .nil))) .nil))))))) .nil) .nil) (.cons (.ret (.tup (.cons (.cs (S_ "call")) (.cons (.ci 0) (.cons (.dfn (S_ "_law_digit") 88 (.cons (.v 0) (.cons (.ci 3) .nil))) (.cons (.dfn (S_ "_law_goal") 90 (.cons (.v 0) (.cons (.v 1) .nil))) (.cons (.v 4) .nil))))))) .nil)))))
inductive ValsJ (σ:Sto) (s:Addr) (scr:List D) (f j ln:Nat) (ds acc:List D) (σ':Sto):Prop
 | mk (vs:List V) (st':St):acc=vs.map (fun v=>D.tup [.str (S_ "in"),encV v])→ds.length + vs.length≤2→(∀v∈vs,vread f j v)→st'.ln=ln→σ'=sput σ s scr st'→ValsJ σ s scr f j ln ds acc σ'
theorem rvalue_rest {k:Nat} (ih:∀j,k=j + 1→RValOk G j) {s:Addr} {scr:List D} {st:St} (ok:ScrOk scr) {f:Nat} (hf:f≤3) (hk:k≤2) (hn:n + 2 * k < 940) {r:Int} (h0:0≤r) (h1:r < 2∨(r < 5∧∃j,k=j + 1)) {ln:Nat} (hln:st.ln=ln) {nd:([S_ "strip",S_ "first",S_ "deep"]++[S_ "way",S_ "args",S_ "_"]).Nodup} {hn2:n + 2≤1000}
  (h:∀v st',vread f k v→st'.ln=ln→Q (encV v) (sput σ s scr st')):
  Kn G (fnC 89 0 n ([S_ "strip",S_ "first",S_ "deep"]++[S_ "way",S_ "args",S_ "_"]) nd hn2 Q E) [.set 3,.ss R89r] [] [(0,.ref s),(1,.int f),(2,.int k)] (.int r) (sput σ s scr st):=by
 have dn1:n + 1 < 970:=by exact dx _ hn
 by_cases e0:r=0
 ·refine Vm.cmp (.b (beq_iff_eq.mpr e0) .eqI) ?_
  refine Vm.fn (c_digit dn1 ok (by decide) (by decide) fun i st' i0 i1 e=>?_)
  exact h (.lit i) st' ⟨Nat.zero_le _,⟨i0,Int.lt_trans i1 (by decide)⟩,trivial⟩ (e.trans hln)
 refine Vm.cmp (.b (beq_eq_false_iff_ne.mpr e0) .eqI) ?_
 by_cases e1:r < 3
 ·refine Vm.cmp (.b (decide_eq_true e1) .ltI) ?_
  refine Vm.fn (c_digit dn1 ok (by decide) (by decide) fun i st' i0 i1 e=>?_)
  exact h (.obj i) st' ⟨Nat.zero_le _,⟨i0,Int.lt_trans i1 (by decide)⟩,trivial⟩ (e.trans hln)
 refine Vm.cmp (.b (decide_eq_false e1) .ltI) ?_
 have hj:∃j,k=j + 1:=h1.elim (fun h1=>absurd (Int.lt_trans h1 (by decide)) e1) (·.2)
 refine ex11 hj ?_;clear hj;intro j hj
 rw [hj] at h hn hk ih ⊢
 clear hj h1
 refine Vm.fn (c_digit dn1 ok (by decide) (by decide) fun i st' i0 i1 e=>?_)
 refine Vm.blt (CallB.range ?_)
 have hi:(i.toNat:Int) < 3:=by refine rwG (Int.toNat_of_nonneg i0) ?_;exact i1
 refine Vm.lcS _ (ValsJ σ s scr f j ln) (.rng i0 (Int.le_of_lt (Int.lt_trans i1 (by decide)))) (by (rewrite [List.length_map];refine rwG List.length_range ?_);exact sl (c:=2) (Nat.le_of_lt_succ (Int.ofNat_lt.mp hi)))
  ⟨[],st',rfl,by (rewrite [List.length_map];refine rwG List.length_range ?_);exact Nat.le_of_lt_succ (Int.ofNat_lt.mp hi),(fun _ h=>nomatch h),e.trans hln,rfl⟩ (fun d ds acc σ₀ q=>?_) fun acc σ₀ q=>?_
 ·obtain ⟨vs,st',q1,hl,hv,e,q2⟩:=q
  refine rwG q1 ?_;refine rwG q2 ?_
  rw [List.length_cons] at hl
  refine Vm.bin .subI ?_
  refine rwG (show ((j + 1:Nat):Int) - 1=(j:Int) from Int.add_sub_cancel (j:Int) 1) ?_
  refine Vm.fn (ih j rfl _ σ _ _ s scr st' f ok hf (Nat.le_of_succ_le hk) (by refine (?_:n + 1 + 2 * j < 940);exact lin1 hn (by simp +arith only)) fun v st'' hr e'=>?_)
  exact ⟨vs++[v],st'',(List.map_append (l₂:=[v])).symm,by (refine rwG List.length_append ?_;rewrite [←Nat.add_assoc,Nat.add_right_comm]);exact hl,fun x hx=>(List.mem_append.mp hx).elim (hv x) fun hx=>(List.mem_singleton.mp hx)▸hr,e'.trans e,rfl⟩
 ·obtain ⟨vs,st',q1,hl,hv,e,q2⟩:=q
  refine rwG q1 ?_;refine rwG q2 ?_;rewrite [←encVs_map]
  rw [List.length_nil,Nat.zero_add] at hl
  have d1:vdepths vs≤j:=vdepths_all fun v hv'=>(hv v hv').1
  have d2:vsms vs:=vsms_all fun v hv'=>(hv v hv').2.1
  have d3:valls (Cl f) vs:=valls_all fun v hv'=>(hv v hv').2.2
  by_cases e4:r=4
  ·refine Vm.cmp (.b (beq_iff_eq.mpr e4) .eqI) ?_
   refine Vm.fn (c_digit dn1 ok (by decide) (by decide) fun i st'' i0 i1 e'=>?_)
   exact h (.disp vs i) st'' ⟨Nat.succ_le_succ d1,⟨⟨i0,Int.lt_trans i1 (by decide)⟩,hl,d2⟩,d3⟩ (e'.trans e)
  ·refine Vm.cmp (.b (beq_eq_false_iff_ne.mpr e4) .eqI) ?_
   refine Vm.fn (c_digit dn1 ok (by decide) (by decide) fun i st'' i0 i1 e'=>?_)
   refine Vm.fn (c_goal (by refine (?_:n + 1 < 960);exact dx _ hn) ok hf fun g st₃ hg e''=>?_)
   have hsm:SmS g:=by (refine ex13 hg ?_;clear hg;intro i _ b e);exact e▸sN_sm b
   exact h (.call i g vs) st₃ ⟨Nat.succ_le_succ d1,⟨⟨i0,Int.lt_trans i1 (by decide)⟩,hsm,hl,d2⟩,⟨hg,d3⟩⟩ (e''.trans (e'.trans e))
theorem rvalue_step {k:Nat} (ih:∀j,k=j + 1→RValOk G j):RValOk G k:=fun n σ Q E s scr st f ok hf hk hn h=>by
 have hn3:n < 960:=by exact lx hn
 refine WC.fnV k89 (dn' 2 hn3) ?_
 refine Vm.sub s_left ?_
 refine Vm.bin .subI ?_
 refine Vm.setI (.dict sput_s (Nat.le_of_ble_eq_true rfl)) ?_
 refine rwG sput_left ?_
 by_cases hk0:(0:Int) < k
 ·refine Vm.cmp (.b (decide_eq_true hk0) .gtI) ?_
  refine Vm.sub s_left ?_
  by_cases hl:(0:Int) < st.lf - 1
  ·refine Vm.cmp (.b (decide_eq_true hl) .gtI) ?_
   refine Vm.fn (c_digit (dn 1 hn3) ok (by decide) (by decide) fun i st' i0 i1 e=>?_)
   exact rvalue_rest ih ok hf hk hn i0 (.inr ⟨i1,k - 1,(Nat.succ_pred_eq_of_pos (Int.ofNat_lt.mp hk0)).symm⟩) e h
  ·refine Vm.cmp (.b (decide_eq_false hl) .gtI) ?_
   refine Vm.fn (c_digit (dn 1 hn3) ok (by decide) (by decide) fun i st' i0 i1 e=>?_)
   exact rvalue_rest ih ok hf hk hn i0 (.inl i1) e h
 ·refine Vm.cmp (.b (decide_eq_false hk0) .gtI) ?_
  refine Vm.fn (c_digit (dn 1 hn3) ok (by decide) (by decide) fun i st' i0 i1 e=>?_)
  exact rvalue_rest ih ok hf hk hn i0 (.inl i1) e h
theorem c_rvalue:∀k,RValOk G k
 | 0=>rvalue_step fun j e=>nomatch e
 | k + 1=>rvalue_step fun j e=>(Nat.succ.inj e)▸c_rvalue k
end Mine
end
section
open PySem PySem.W PySem.Calls PyProof.Rows
namespace Mine
set_option backward.match.sparseCases false
variable {G:Glob}
variable {n:Nat} {σ:Sto} {Q:D→Sto→Prop} {E:Exn→Sto→Prop}
theorem SubR.pick2 {σ:Sto} {p:D→Prop} {a b:D} {j:Int} (h0:0≤j) (h1:j < 2) (ha:p a) (hb:p b):∃d,SubR σ (.lst [a,b]) (.int j) d∧p d:=by
 refine ex11 (Int.eq_ofNat_of_zero_le h0) ?_;intro m hm
 rw [hm] at h1 ⊢
 clear hm
 match m,h1 with
 | 0,_=>exact ⟨a,.lstAt (by decide) (by decide) rfl,ha⟩
 | 1,_=>exact ⟨b,.lstAt (by decide) (by decide) rfl,hb⟩
theorem SubR.pick3 {σ:Sto} {p:D→Prop} {a b c:D} {j:Int} (h0:0≤j) (h1:j < 3) (ha:p a) (hb:p b) (hc:p c):∃d,SubR σ (.lst [a,b,c]) (.int j) d∧p d:=by
 refine ex11 (Int.eq_ofNat_of_zero_le h0) ?_;intro m hm
 rw [hm] at h1 ⊢
 clear hm
 match m,h1 with
 | 0,_=>exact ⟨a,.lstAt (by decide) (by decide) rfl,ha⟩
 | 1,_=>exact ⟨b,.lstAt (by decide) (by decide) rfl,hb⟩
 | 2,_=>exact ⟨c,.lstAt (by decide) (by decide) rfl,hc⟩
theorem vread_good {f k:Nat} {v:V} (h:vread f k v) (hk:k≤2):vgood (Cl f) v:=⟨Nat.le_trans h.1 hk,h.2⟩
inductive ArgsJ (σ:Sto) (x s:Addr) (scr:List D) (ln f j:Nat) (σ':Sto):Prop
 | mk (as:List A) (st':St):as.length=j→(∀a∈as,agood (Cl f) a)→st'.ln=ln→σ'=sput (σ.set x (.list (as.map encA))) s scr st'→ArgsJ σ x s scr ln f j σ'
theorem c_rargs (hn:n < 920) {s:Addr} {scr:List D} {st:St} (ok:ScrOk scr) {f:Nat} (hf:f≤3)
  (h:∀(as:List A) (st':St),as.length≤2→(∀a∈as,agood (Cl f) a)→st'.ln=st.ln→Q (.lst (as.map encA)) (sput σ s scr st')):WC G n (.fn 91 0) [.ref s,.int f] (sput σ s scr st) Q E:=by
 refine WC.fnV k91 (dn' 2 hn) ?_
 refine Vm.lstN fun x hx0=>?_
 have hx:=(sput_none hx0).1
 have hx1:=(sput_none hx0).2
 refine rwG (sput_put hx) ?_
 refine Vm.fn (c_digit (dn 1 hn) ok (by decide) (by decide) fun i st' i0 i1 e=>?_)
 refine ex11 (Int.eq_ofNat_of_zero_le i0) ?_;intro m hm
 rw [hm] at i1 ⊢
 clear hm i0
 refine Vm.blt (CallB.range ?_)
 refine Vm.forN m [2,0,1] (fun _=>[(2,.ref x),(0,.ref s),(1,.int f)]) (ArgsJ σ x s scr st.ln f)
  (Nat.le_trans (Nat.le_of_lt (Int.ofNat_lt.mp i1)) (by decide)) rfl ⟨[],st',rfl,(fun _ h=>nomatch h),e,rfl⟩ (fun j σ₀ hj q=>?_) fun σ₀ q=>?_
 ·obtain ⟨as,st',hl,ha,e,q⟩:=q
  refine rwG q ?_
  have hl2:(as.map encA).length≤2:=by (rewrite [List.length_map];refine rwG hl ?_);exact Nat.le_of_lt_succ (Nat.lt_of_lt_of_le hj (Nat.le_of_lt_succ (Nat.lt_succ_of_lt (Int.ofNat_lt.mp i1))))
  have more:∀{c:A} {st'':St},agood (Cl f) c→st''.ln=st'.ln→ArgsJ σ x s scr st.ln f (j + 1) (sput (σ.set x (.list (as.map encA++[encA c]))) s scr st''):=fun {c st''} hc e'=>
   ⟨as++[c],st'',by (refine rwG List.length_append ?_;refine rwG hl ?_);rfl,fun a h=>(List.mem_append.mp h).elim (ha a) fun h=>(List.mem_singleton.mp h)▸hc,e'.trans e,by refine rwG List.map_append ?_;rfl⟩
  refine Vm.fn (c_digit (dn 1 hn) ok (by decide) (by decide) fun i st' i0 i1 e1=>?_)
  by_cases hi:0 < i
  ·refine Vm.cmp (.b (decide_eq_true hi) .gtI) ?_
   refine Vm.isT (.lst (sput_x hx)) ?_
   refine Vm.fn (c_rvalue 2 _ _ _ _ s scr st' f ok hf (by decide) (by refine (?_:n + 1 + 2 * 2 < 940);exact lin1 hn (by simp +arith only)) fun v st₂ hv e2=>?_)
   refine Vm.met (CallB.append (sput_x hx) (Nat.le_trans hl2 (by decide)) ?_)
   refine rwG (sput_set hx) ?_
   exact ⟨rfl,more (c:=.inn v) (vread_good hv (by decide)) (e2.trans e1)⟩
  ·refine Vm.cmp (.b (decide_eq_false hi) .gtI) ?_
   refine Vm.fn (c_rvalue 1 _ _ _ _ s scr st' f ok hf (by decide) (by refine (?_:n + 1 + 2 * 1 < 940);exact lin1 hn (by simp +arith only)) fun v st₂ hv e2=>?_)
   refine Vm.fn (c_digit (dn 1 hn) ok (by decide) (by decide) fun j st₃ j0 j1 e3=>?_)
   obtain ⟨d,hd,p,hp,pg⟩:=SubR.pick3 (p:=fun d=>∃p,d=encP p∧pgood (Cl f) p) j0 j1 ⟨.y,rfl,trivial⟩ ⟨.r,rfl,trivial⟩ ⟨.der v,rfl,vread_good hv (by decide)⟩
   refine Vm.sub hd ?_
   refine rwG hp ?_
   refine Vm.isT (.lst (sput_x hx)) ?_
   refine Vm.fn (c_digit (dn 1 hn) ok (by decide) (by decide) fun g st₄ g0 g1 e4=>?_)
   obtain ⟨w,hw,b,hb⟩:=SubR.pick2 (p:=fun d=>∃b:Bool,d=.str (if b then S_ "inout" else S_ "out")) g0 g1 ⟨false,rfl⟩ ⟨true,rfl⟩
   refine Vm.sub hw ?_
   refine rwG hb ?_
   refine Vm.met (CallB.append (sput_x hx) (Nat.le_trans hl2 (by decide)) ?_)
   refine rwG (sput_set hx) ?_
   exact ⟨rfl,more (c:=.out b p) pg (e4.trans (e3.trans (e2.trans e1)))⟩
 ·obtain ⟨as,st',hl,ha,e,q⟩:=q
  refine rwG q ?_
  refine Vm.fz (.L (sput_x hx)) ?_
  refine rwG (sput_del hx hx1) ?_
  exact h as st' (hl▸Nat.le_of_lt_succ (Int.ofNat_lt.mp i1)) ha e
end Mine
end
section
open PySem PySem.W PySem.Calls PyProof.Rows
namespace Mine
set_option backward.match.sparseCases false
variable {G:Glob}
variable {n:Nat} {σ:Sto} {Q:D→Sto→Prop} {E:Exn→Sto→Prop}
inductive StmtsJ (σ:Sto) (x s:Addr) (scr:List D) (ln f j:Nat) (σ':Sto):Prop
 | mk (ss:List S) (st':St):ss.length=j→(∀y∈ss,sgood (Cl f) y∧(f=0→noRet y))→st'.ln=ln + j→σ'=sput (σ.set x (.list (ss.map encS))) s scr st'→StmtsJ σ x s scr ln f j σ'
theorem c_rstmts (hn:n < 910) {s:Addr} {scr:List D} {st:St} (ok:ScrOk scr) {f:Nat} (hf:f≤3) (hln:st.ln + 2 < 1000)
  (h:∀(ss:List S) (st':St),ss.length≤2→(∀x∈ss,sgood (Cl f) x∧(f=0→noRet x))→st'.ln≤st.ln + 2→Q (.lst (ss.map encS)) (sput σ s scr st')):WC G n (.fn 92 0) [.ref s,.int f] (sput σ s scr st) Q E:=by
 refine WC.fnV k92 (dn' 2 hn) ?_
 refine Vm.lstN fun x hx0=>?_
 have hx:=(sput_none hx0).1
 have hx1:=(sput_none hx0).2
 refine rwG (sput_put hx) ?_
 refine Vm.fn (c_digit (dn 1 hn) ok (by decide) (by decide) fun i st' i0 i1 e=>?_)
 refine ex11 (Int.eq_ofNat_of_zero_le i0) ?_;intro m hm
 rw [hm] at i1 ⊢
 clear hm i0
 refine Vm.blt (CallB.range ?_)
 refine Vm.forN m [2,0,1] (fun _=>[(2,.ref x),(0,.ref s),(1,.int f)]) (StmtsJ σ x s scr st.ln f)
  (Nat.le_trans (Nat.le_of_lt (Int.ofNat_lt.mp i1)) (by decide)) rfl ⟨[],st',rfl,(fun _ h=>nomatch h),e,rfl⟩ (fun j σ₀ hj q=>?_) fun σ₀ q=>?_
 ·obtain ⟨ss,st',hl,hs,e,q⟩:=q
  refine rwG q ?_
  have hj2:j < 2:=Nat.lt_of_lt_of_le hj (Nat.le_of_lt_succ (Int.ofNat_lt.mp i1))
  have hl2:(ss.map encS).length≤2:=by (rewrite [List.length_map];refine rwG hl ?_);exact Nat.le_of_lt hj2
  have more:∀{c:S} {st'':St},sgood (Cl f) c→(f=0→noRet c)→st''.ln=st'.ln + 1→StmtsJ σ x s scr st.ln f (j + 1) (sput (σ.set x (.list (ss.map encS++[encS c]))) s scr st''):=fun {c st''} hc hr e'=>
   ⟨ss++[c],st'',by (refine rwG List.length_append ?_;refine rwG hl ?_);rfl,fun a h=>(List.mem_append.mp h).elim (hs a) fun h=>(List.mem_singleton.mp h)▸⟨hc,hr⟩,by (refine rwG e' ?_;refine rwG e ?_);rfl,by refine rwG List.map_append ?_;rfl⟩
  refine Vm.sub s_line ?_
  refine Vm.bin .addI ?_
  refine Vm.setI (.dict sput_s (Nat.le_of_ble_eq_true rfl)) ?_
  refine rwG (show ((st'.ln:Int) + 1)=((st'.ln + 1:Nat):Int) from rfl) ?_;refine rwG sput_line ?_
  refine Vm.fn (c_digit (dn 1 hn) ok (by decide) (by decide) fun i st₁ i0 i1 e1=>?_)
  have sm:Sm (st₁.ln:Int):=by
   have e1:st₁.ln=st'.ln + 1:=e1
   exact ⟨by lia,by lia⟩
  by_cases h2:i < 2
  ·refine Vm.cmp (.b (decide_eq_true h2) .ltI) ?_
   refine Vm.isT (.lst (sput_x hx)) ?_
   refine Vm.sub s_line ?_
   refine Vm.fn (c_digit (dn 1 hn) ok (by decide) (by decide) fun u st₂ u0 u1 e2=>?_)
   refine Vm.fn (c_goal (dn 1 hn) ok hf fun g st₃ hg e3=>?_)
   refine Vm.fn (c_rargs (dn 1 hn) ok hf fun as st₄ a1 a2 e4=>?_)
   refine Vm.met (CallB.append (sput_x hx) (Nat.le_trans hl2 (by decide)) ?_)
   refine rwG (sput_set hx) ?_
   have hsm:SmS g:=by (refine ex13 hg ?_;clear hg;intro i _ b e);exact e▸sN_sm b
   exact ⟨rfl,more (c:=.pcall st₁.ln u g as) ⟨sm,⟨u0,Int.lt_trans u1 (by decide)⟩,hsm,hg,a1,a2⟩ (fun _=>trivial) (e4.trans (e3.trans (e2.trans e1)))⟩
  refine Vm.cmp (.b (decide_eq_false h2) .ltI) ?_
  by_cases h3:i=2
  ·refine Vm.cmp (.b (beq_iff_eq.mpr h3) .eqI) ?_
   refine Vm.isT (.lst (sput_x hx)) ?_
   refine Vm.sub s_line ?_
   refine Vm.fn (c_rargs (dn 1 hn) ok hf fun as st₄ a1 a2 e4=>?_)
   refine Vm.fn (c_digit (dn 1 hn) ok (by decide) (by decide) fun u st₂ u0 u1 e2=>?_)
   refine Vm.met (CallB.append (sput_x hx) (Nat.le_trans hl2 (by decide)) ?_)
   refine rwG (sput_set hx) ?_
   exact ⟨rfl,more (c:=.pdisp st₁.ln as u) ⟨sm,⟨u0,Int.lt_trans u1 (by decide)⟩,a1,a2⟩ (fun _=>trivial) (e2.trans (e4.trans e1))⟩
  refine Vm.cmp (.b (beq_eq_false_iff_ne.mpr h3) .eqI) ?_
  by_cases h4:i=3
  ·refine Vm.cmp (.b (beq_iff_eq.mpr h4) .eqI) ?_
   refine Vm.isT (.lst (sput_x hx)) ?_
   refine Vm.sub s_line ?_
   refine Vm.fn (c_rvalue 2 _ _ _ _ s scr st₁ f ok hf (by decide) (by refine (?_:n + 1 + 2 * 2 < 940);exact lin1 hn (by simp +arith only)) fun v st₂ hv e2=>?_)
   refine Vm.met (CallB.append (sput_x hx) (Nat.le_trans hl2 (by decide)) ?_)
   refine rwG (sput_set hx) ?_
   exact ⟨rfl,more (c:=.asg st₁.ln v) ⟨sm,vread_good hv (by decide)⟩ (fun _=>trivial) (e2.trans e1)⟩
  refine Vm.cmp (.b (beq_eq_false_iff_ne.mpr h4) .eqI) ?_
  by_cases h5:i=4
  ·refine Vm.cmp (.b (beq_iff_eq.mpr h5) .eqI) ?_
   by_cases h6:(0:Int) < f
   ·refine Vm.cmp (.b (decide_eq_true h6) .gtI) ?_
    refine Vm.isT (.lst (sput_x hx)) ?_
    refine Vm.sub s_line ?_
    refine Vm.fn (c_rvalue 1 _ _ _ _ s scr st₁ f ok hf (by decide) (by refine (?_:n + 1 + 2 * 1 < 940);exact lin1 hn (by simp +arith only)) fun v st₂ hv e2=>?_)
    refine Vm.fn (c_digit (dn 1 hn) ok (by decide) (by decide) fun u st₃ u0 u1 e3=>?_)
    obtain ⟨d,hd,o,ho,og⟩:=SubR.pick2 (p:=fun d=>∃o,d=encO o∧sgood (Cl f) (.ret st₁.ln o)) u0 u1 ⟨none,rfl,sm⟩ ⟨some v,rfl,sm,vread_good hv (by decide)⟩
    refine Vm.sub hd ?_
    refine rwG ho ?_
    refine Vm.met (CallB.append (sput_x hx) (Nat.le_trans hl2 (by decide)) ?_)
    refine rwG (sput_set hx) ?_
    exact ⟨rfl,more (c:=.ret st₁.ln o) og (fun h0=>absurd h6 (h0▸by decide)) (e3.trans (e2.trans e1))⟩
   ·refine Vm.cmp (.b (decide_eq_false h6) .gtI) ?_
    refine Vm.isT (.lst (sput_x hx)) ?_
    refine Vm.sub s_line ?_
    refine Vm.met (CallB.append (sput_x hx) (Nat.le_trans hl2 (by decide)) ?_)
    refine rwG (sput_set hx) ?_
    exact ⟨rfl,more (c:=.null st₁.ln) sm (fun _=>trivial) e1⟩
  ·refine Vm.cmp (.b (beq_eq_false_iff_ne.mpr h5) .eqI) ?_
   refine Vm.isT (.lst (sput_x hx)) ?_
   refine Vm.sub s_line ?_
   refine Vm.met (CallB.append (sput_x hx) (Nat.le_trans hl2 (by decide)) ?_)
   refine rwG (sput_set hx) ?_
   exact ⟨rfl,more (c:=.null st₁.ln) sm (fun _=>trivial) e1⟩
 ·obtain ⟨ss,st',hl,hs,e,q⟩:=q
  refine rwG q ?_
  have hm:m≤2:=Nat.le_of_lt_succ (Int.ofNat_lt.mp i1)
  refine Vm.fz (.L (sput_x hx)) ?_
  refine rwG (sput_del hx hx1) ?_
  exact h ss st' (hl▸hm) hs (e▸Nat.add_le_add_left hm _)
end Mine
end
section
open PySem PySem.W PySem.Calls PyProof.Rows
namespace Mine
set_option backward.match.sparseCases false
variable {G:Glob}
variable {n:Nat} {σ:Sto} {Q:D→Sto→Prop} {E:Exn→Sto→Prop}
noncomputable def xN (i:Nat):Str:=S_ "x#"++iS (i:Nat)
noncomputable def wN (i:Nat):Str:=S_ "w#"++iS (i:Nat)
theorem xN_fin:∀i:Fin 1000,(xN i.1).length≤20∧(xN i.1).cps.toList.all (fun c=>decide (c < 16 ^ 8))=true∧(wN i.1).length≤20∧(wN i.1).cps.toList.all (fun c=>decide (c < 16 ^ 8))=true:=by decide +kernel
theorem xN_sm {i:Nat} (hi:i < 1000):SmS (xN i):=by
 refine ex03 (xN_fin ⟨i,hi⟩) ?_;intro a b _
 exact ⟨a,fun c hc=>by simpa using List.all_eq_true.mp b c hc⟩
theorem wN_sm {i:Nat} (hi:i < 1000):SmS (wN i):=by
 refine ex04 (xN_fin ⟨i,hi⟩) ?_;intro _ _ a b
 exact ⟨a,fun c hc=>by simpa using List.all_eq_true.mp b c hc⟩
noncomputable def per:Nat→Nat
 | 0=>1
 | k + 1=>3 + 3 * (2 * per k)
theorem per_ge:∀k,1≤per k
 | 0=>Nat.le_refl _
 | k + 1=>by rw [per];simp +arith only
noncomputable def RDeclsOk (G:Glob) (k:Nat):Prop:=∀(n:Nat) (σ:Sto) (Q:D→Sto→Prop) (E:Exn→Sto→Prop) (s:Addr) (scr:List D) (st:St) (f:Nat) (C:Str→Prop),ScrOk scr→f≤3→n + k < 900→(∀y,Cl f y→C y)→(0 < k→∀y,Cl 0 y→C y)→st.ln + 2 * per k < 1000→
 (∀(ds:List Dc) (st':St) (x:Addr),x≠s→σ x=none→ds.length≤2→(∀d∈ds,dgood C k d)→st'.ln≤st.ln + 2 * per k→Q (.ref x) (sput (σ.set x (.list (encDs ds))) s scr st'))→WC G n (.fn 93 0) [.ref s,.int f,.int k] (sput σ s scr st) Q E
theorem dg_var {C:Str→Prop} {k:Nat} {l:Int} {x:Str} {o:Option V} (h1:Sm l) (h2:SmS x) (h3:∀v,o=some v→vgood C v):dgood C k (.var l x o):=by
 cases k with
 | zero=>cases o with | none=>exact ⟨h1,h2⟩ | some v=>exact ⟨h1,h2,h3 v rfl⟩
 | succ k=>cases o with | none=>exact ⟨h1,h2⟩ | some v=>exact ⟨h1,h2,h3 v rfl⟩
theorem dg_ren {C:Str→Prop} {k:Nat} {l:Int} {x:Str} {v:V} (h1:Sm l) (h2:SmS x) (h3:vgood C v):dgood C k (.ren l x v):=by cases k with | zero=>exact ⟨h1,h2,h3⟩ | succ k=>exact ⟨h1,h2,h3⟩
theorem dg_subt {C:Str→Prop} {k:Nat} {l:Int} (h1:Sm l):dgood C k (.subt l):=by cases k with | zero=>exact h1 | succ k=>exact h1
theorem dg_typ {C:Str→Prop} {k:Nat} {l:Int} (h1:Sm l):dgood C k (.typ l):=by cases k with | zero=>exact h1 | succ k=>exact h1
theorem dg_exc {C:Str→Prop} {k:Nat} {l:Int} (h1:Sm l):dgood C k (.exc l):=by cases k with | zero=>exact h1 | succ k=>exact h1
noncomputable abbrev N93:List Str:=[S_ "strip",S_ "first",S_ "deep"]++[S_ "found",S_ "_",S_ "line",S_ "way",S_ "parts"]
noncomputable def R93v:R:=(.cons (.expr (.me1 0 (.v 3) (.tup (.cons (.cs (S_ "var")) (.cons (.v 5) (.cons (.bin .Add (.cs (S_ "x#")) (.blt 2 (.cons (.v 5) .nil))) (.cons (.cs (S_ "S")) (.cons (.sub (.lstF (.cons .cn (.cons (.dfn (S_ "_law_value") 89 (.cons (.v 0) (.cons (.v 1) (.cons (.ci 2) .nil)))) .nil))) (.bin .Mod (.v 6) (.ci 2))) (.cons (.cb false) .nil))))))))) .nil)
noncomputable def R93b:R:=(.cons (.asgI (.v 0) (.cs (S_ "line")) (.bin .Add (.sub (.v 0) (.cs (S_ "line"))) (.ci 1))) (.cons (.asgI (.v 0) (.cs (S_ "left")) (.bin .Sub (.sub (.v 0) (.cs (S_ "left"))) (.ci 1))) (.cons (.asg 5 (.sub (.v 0) (.cs (S_ "line")))) (.cons (.asg 6 (.dfn (S_ "_law_digit") 88 (.cons (.v 0) (.cons (.ci 7) .nil)))) (.cons (.ifs (.and (.cons (.cmp .Eq (.v 6) (.ci 5)) (.cons (.cmp .Gt (.v 2) (.ci 0)) .nil))) (.cons (.asgC 7 4 [0,1,2] (scOf (sp (hdS (sp (hdS (tlS (tlS (tlS (tlS (sp (hdS (tlS (sBody (stAt 93 0))))).a)))))).a)).v) (.blt 1 (.cons (.ci 3) .nil)) (.fz (.dfn (S_ "_law_decls") 93 (.cons (.v 0) (.cons (.v 1) (.cons (.bin .Sub (.v 2) (.ci 1)) .nil)))))) (.cons (.expr (.me1 0 (.v 3) (.tup (.cons (.cs (S_ "package")) (.cons (.v 5) (.cons (.cs (S_ "p")) (.cons (.sub (.v 7) (.ci 0)) (.cons (.sub (.v 7) (.ci 1)) (.cons (.sub (.v 7) (.ci 2)) (.cons (.dfn (S_ "_law_stmts") 92 (.cons (.v 0) (.cons (.ci 0) .nil))) (.cons (.lstF .nil) .nil))))))))))) .nil)) (.cons (.ifs (.or (.cons (.cmp .Lt (.v 6) (.ci 2)) (.cons (.cmp .Eq (.v 6) (.ci 5)) .nil))) (.cons (.expr (.me1 0 (.v 3) (.tup (.cons (.cs (S_ "var")) (.cons (.v 5) (.cons (.bin .Add (.cs (S_ "x#")) (.blt 2 (.cons (.v 5) .nil))) (.cons (.cs (S_ "S")) (.cons (.sub (.lstF (.cons .cn (.cons (.dfn (S_ "_law_value") 89 (.cons (.v 0) (.cons (.v 1) (.cons (.ci 2) .nil)))) .nil))) (.bin .Mod (.v 6) (.ci 2))) (.cons (.cb false) .nil))))))))) .nil) (.cons (.ifs (.cmp .Eq (.v 6) (.ci 6)) (.cons (.expr (.me1 0 (.v 3) (.tup (.cons (.cs (S_ "rename")) (.cons (.v 5) (.cons (.bin .Add (.cs (S_ "w#")) (.blt 2 (.cons (.v 5) .nil))) (.cons (.tup (.cons (.cs (S_ "deref")) (.cons (.ci 0) (.cons (.dfn (S_ "_law_value") 89 (.cons (.v 0) (.cons (.v 1) (.cons (.ci 1) .nil)))) .nil)))) .nil))))))) .nil) (.cons (.expr (.me1 0 (.v 3) (.sub (.lstF (.cons (.tup (.cons (.cs (S_ "subtype")) (.cons (.v 5) (.cons (.cs (S_ "t#4")) (.cons (.cs (S_ "S")) .nil))))) (.cons (.tup (.cons (.cs (S_ "type")) (.cons (.v 5) (.cons (.cs (S_ "T")) .nil)))) (.cons (.tup (.cons (.cs (S_ "exception")) (.cons (.v 5) (.cons (.cs (S_ "e")) .nil)))) .nil)))) (.bin .Sub (.v 6) (.ci 2))))) .nil)) .nil)) .nil)) .nil)))))
theorem xN_bin {i:Nat} (sm:Sm (i:Int)):BinR .Add (.str (S_ "x#")) (.str (toString (i:Int))) (.str (xN i)):=BinR.addS (a:=S_ "x#") (b:=iS i) (sl (c:=10) (Nat.add_le_add_left (iS_len sm) 2))
theorem wN_bin {i:Nat} (sm:Sm (i:Int)):BinR .Add (.str (S_ "w#")) (.str (toString (i:Int))) (.str (wN i)):=BinR.addS (a:=S_ "w#") (b:=iS i) (sl (c:=10) (Nat.add_le_add_left (iS_len sm) 2))
section
variable {s x:Addr} {scr:List D} {f k L:Nat} {st₁:St} {nd:N93.Nodup} {hn2:n + 2≤1000} {I:Ix→Sto→Prop} {w:Int} {d:D}
theorem rdecls_var {es:List D} (hn:n < 900) (ok:ScrOk scr) (hf:f≤3) (hx:x≠s) (sm:Sm (L:Int)) (hel:es.length≤2)
  (h:∀(o:Option V) st₂,st₂.ln=st₁.ln→(∀v,o=some v→vgood (Cl f) v)→I [(6,.int w),(5,.int L),(4,d),(3,.ref x),(0,.ref s),(1,.int f),(2,.int k)] (sput (σ.set x (.list (es++[encDc (.var L (xN L) o)]))) s scr st₂))
  {S:Cf} (hS:adv F [.ss R93v,.ss .nil,.ss .nil] [] [(6,.int w),(5,.int L),(4,d),(3,.ref x),(0,.ref s),(1,.int f),(2,.int k)]=S):Vm G ((fnC 93 0 n N93 nd hn2 Q E).loop I) S (sput (σ.set x (.list es)) s scr st₁):=by
 refine rwL hS ?_
 refine Vm.isT (.lst (sput_x hx)) ?_
 refine Vm.blt (CallB.strI sm.log ?_)
 refine Vm.bin (xN_bin sm) ?_
 refine Vm.fn (c_rvalue 2 _ _ _ _ s scr st₁ f ok hf (by decide) (by refine (?_:n + 1 + 2 * 2 < 940);exact lin1 hn (by simp +arith only)) fun v st₂ hv e2=>?_)
 refine Vm.bin (.modI (by decide)) ?_
 obtain ⟨d,hd,o,ho,og⟩:=SubR.pick2 (p:=fun d=>∃o,d=encO o∧∀u,o=some u→u=v) (Int.fmod_nonneg_of_pos w (by decide)) (Int.fmod_lt_of_pos w (by decide)) ⟨none,rfl,fun _ h=>nomatch h⟩ ⟨some v,rfl,fun u h=>(Option.some.inj h).symm⟩
 refine Vm.sub hd ?_
 refine rwG ho ?_
 refine Vm.met (CallB.append (sput_x hx) (Nat.le_trans hel (by decide)) ?_)
 refine rwG (sput_set hx) ?_;refine rwG (show D.tup [.str (S_ "var"),.int L,.str (xN L),.str (S_ "S"),encO o,.bool false]=encDc (.var L (xN L) o) by rw [encDc]) ?_
 exact h o st₂ e2 fun u hu=>og u hu▸vread_good hv (by decide)
inductive DeclsJ (σ:Sto) (x s:Addr) (scr:List D) (C:Str→Prop) (ln k j:Nat) (σ':Sto):Prop
 | mk (es:List Dc) (st':St):es.length=j→(∀y∈es,dgood C k y)→st'.ln≤ln + j * per k→σ'=sput (σ.set x (.list (encDs es))) s scr st'→DeclsJ σ x s scr C ln k j σ'
inductive PartsJ (τ:Sto) (s:Addr) (scr:List D) (C:Str→Prop) (L j':Nat) (es' acc:List D) (σ':Sto):Prop
 | mk (ps:List (List Dc)) (st₂:St):acc=ps.map (fun p=>D.lst (encDs p))→es'.length + ps.length=3→(∀p∈ps,p.length≤2∧∀y∈p,dgood C j' y)→st₂.ln≤L + ps.length * (2 * per j')→σ'=sput τ s scr st₂→PartsJ τ s scr C L j' es' acc σ'
theorem rdecls_turn (ih:∀j,k=j + 1→RDeclsOk G j) {C:Str→Prop} (ok:ScrOk scr) (hf:f≤3) (hn:n + k < 900) (hC:∀y,Cl f y→C y) (hC0:0 < k→∀y,Cl 0 y→C y) {st st':St} (hln:st.ln + 2 * per k < 1000) (hx:x≠s) (hx1:σ x=none)
  {j:Nat} (hj:j < 2) {es:List Dc} (hl:es.length=j) (hs:∀y∈es,dgood C k y) (e:st'.ln≤st.ln + j * per k):
  Turn G (fnC 93 0 n N93 nd hn2 Q E) R93b [(4,.int j),(3,.ref x),(0,.ref s),(1,.int f),(2,.int k)] [3,0,1,2] [(3,.ref x),(0,.ref s),(1,.int f),(2,.int k)]
   (DeclsJ σ x s scr C st.ln k (j + 1)) (sput (σ.set x (.list (encDs es))) s scr st'):=by
 have hper:=per_ge k
 have hn3:n < 900:=Nat.lt_of_le_of_lt (Nat.le_add_right n k) hn
 have hjk:st'.ln + per k≤st.ln + (j + 1) * per k:=by rw [Nat.add_mul,Nat.one_mul,←Nat.add_assoc];exact Nat.add_le_add_right e _
 have hj2:st.ln + (j + 1) * per k < 1000:=Nat.lt_of_le_of_lt (Nat.add_le_add_left (Nat.mul_le_mul_right _ hj) _) hln
 have more:∀{c:Dc} {st'':St},dgood C k c→st''.ln≤st'.ln + per k→DeclsJ σ x s scr C st.ln k (j + 1) (sput (σ.set x (.list (encDs es++[encDc c]))) s scr st''):=fun {c st''} hc e'=>
  ⟨es++[c],st'',by (refine rwG List.length_append ?_;refine rwG hl ?_);rfl,fun a h=>(List.mem_append.mp h).elim (hs a) fun h=>(List.mem_singleton.mp h)▸hc,Nat.le_trans e' hjk,by rw [encDs_append,encDs,encDs]⟩
 have hel:(encDs es).length≤2:=by (rewrite [←encDs_len];refine rwG hl ?_);exact Nat.le_of_lt hj
 refine Vm.sub s_line ?_
 refine Vm.bin .addI ?_
 refine Vm.setI (.dict sput_s (Nat.le_of_ble_eq_true rfl)) ?_
 refine rwG (show ((st'.ln:Int) + 1)=((st'.ln + 1:Nat):Int) from rfl) ?_;refine rwG sput_line ?_
 refine Vm.sub s_left ?_
 refine Vm.bin .subI ?_
 refine Vm.setI (.dict sput_s (Nat.le_of_ble_eq_true rfl)) ?_
 refine rwG sput_left ?_
 refine Vm.sub s_line ?_
 generalize hL:st'.ln + 1=L
 have hLp:L≤st'.ln + per k:=hL▸Nat.add_le_add_left hper _
 have hL2:L < 1000:=Nat.lt_of_le_of_lt (Nat.le_trans hLp hjk) hj2
 have sm:Sm (L:Int):=⟨Int.natCast_nonneg _,Int.ofNat_lt.mpr hL2⟩
 refine Vm.fn (c_digit (dn 1 hn3) ok (by decide) (by decide) fun w st₁ w0 w1 e1=>?_)
 have e1:st₁.ln=L:=e1
 have var:∀(o:Option V) (st₂:St),st₂.ln=st₁.ln→(∀v,o=some v→vgood (Cl f) v)→dgood C k (.var L (xN L) o)∧st₂.ln≤st'.ln + per k:=fun o st₂ e2 og=>⟨dg_var sm (xN_sm hL2) fun v hv=>vgood_mono hC (og v hv),by (refine rwG e2 ?_;refine rwG e1 ?_);exact hLp⟩
 by_cases h5:w=5
 ·refine Vm.cmp (.b (beq_iff_eq.mpr h5) .eqI) ?_
  by_cases hk:0 < k
  ·refine Vm.cmp (.b (decide_eq_true (Int.ofNat_lt.mpr hk)) .gtI) ?_
   obtain ⟨j',hj'⟩:∃j,k=j + 1:=⟨k - 1,(Nat.succ_pred_eq_of_pos hk).symm⟩
   have ih:=ih j' hj'
   have C0:=hC0 hk
   rw [hj'] at more hLp hjk hn hj2 ⊢
   have hpk:per (j' + 1)=3 + 3 * (2 * per j'):=by rw [per]
   rw [hpk] at hjk hLp hj2
   clear hj' hper hC0
   refine Vm.blt (CallB.range ?_)
   refine Vm.lcS _ (PartsJ (σ.set x (.list (encDs es))) s scr C L j') (.rng (by decide) (by decide)) (sl (c:=3) (by (rewrite [List.length_map];refine rwG List.length_range ?_);decide))
    ⟨[],st₁,rfl,by (rewrite [List.length_map];refine rwG List.length_range ?_);rfl,(fun _ h=>nomatch h),by refine rwG e1 ?_;exact Nat.le_add_right _ _,rfl⟩ (fun d' es' acc σ₀ q=>?_) fun acc σ₀ q=>?_
   ·obtain ⟨ps,st₂,q1,pl,pg,pe,q2⟩:=q
    refine rwG q1 ?_;refine rwG q2 ?_
    rw [List.length_cons] at pl
    refine Vm.bin .subI ?_
    refine rwG (show ((j' + 1:Nat):Int) - 1=(j':Int) from Int.add_sub_cancel (j':Int) 1) ?_
    have hps:ps.length * (2 * per j')≤2 * (2 * per j'):=Nat.mul_le_mul_right _ (by lia)
    refine Vm.fn (ih _ _ _ _ s scr st₂ f C ok hf (by refine (?_:n + 1 + j' < 900);exact lin1 hn (by simp +arith only)) hC (fun _=>C0) (lin3 (Nat.le_trans pe (Nat.add_le_add_left hps _)) (Nat.le_of_eq hL.symm) (Nat.lt_of_le_of_lt hjk hj2) (by simp +arith only)) fun ds' st₃ y hy hy1 dl dg de=>?_)
    refine Vm.fz (.L (sput_x hy)) ?_
    refine rwG (sput_del hy hy1) ?_
    refine ⟨ps++[ds'],st₃,(List.map_append (l₂:=[ds'])).symm,by (refine rwG List.length_append ?_;rewrite [←Nat.add_assoc,Nat.add_right_comm]);exact pl,fun p hp=>(List.mem_append.mp hp).elim (pg p) fun hp=>(List.mem_singleton.mp hp)▸⟨dl,dg⟩,?_,rfl⟩
    refine rwG List.length_append ?_;refine rwG List.length_singleton ?_;rewrite [Nat.add_mul,Nat.one_mul,←Nat.add_assoc]
    exact Nat.le_trans de (Nat.add_le_add_right pe _)
   ·obtain ⟨ps,st₂,q1,pl,pg,pe,q2⟩:=q
    rw [List.length_nil,Nat.zero_add] at pl
    refine rwG q2 ?_
    match ps,q1,pl with
    | [a,b,c],q1,_=>
    refine rwG q1 ?_
    have ga:=pg a (.head _)
    have gb:=pg b (.tail _ (.head _))
    have gc:=pg c (.tail _ (.tail _ (.head _)))
    refine Vm.isT (.lst (sput_x hx)) ?_
    refine Vm.sub (.lstAt (d:=.lst (encDs a)) (by decide) (by decide) rfl) ?_
    refine Vm.sub (.lstAt (d:=.lst (encDs b)) (by decide) (by decide) rfl) ?_
    refine Vm.sub (.lstAt (d:=.lst (encDs c)) (by decide) (by decide) rfl) ?_
    have pe:st₂.ln≤L + 3 * (2 * per j'):=pe
    refine Vm.fn (c_rstmts (f:=0) (dn 1 hn3) ok (by decide) (by lia) fun ss st₃ sl sg se=>?_)
    refine Vm.met (CallB.append (sput_x hx) (Nat.le_trans hel (by decide)) ?_)
    refine rwG (sput_set hx) ?_;refine rwG (show D.tup [.str (S_ "package"),.int L,.str (S_ "p"),.lst (encDs a),.lst (encDs b),.lst (encDs c),.lst (ss.map encS),.lst []]=encDc (.pack L a b c ss) by rw [encDc]) ?_
    exact ⟨rfl,more (c:=.pack L a b c ss) ⟨sm,fun d hd=>(List.mem_append.mp hd).elim (fun hd=>(List.mem_append.mp hd).elim (ga.2 d) (gb.2 d)) (gc.2 d),fun y hy=>⟨sgood_mono C0 (sg y hy).1,(sg y hy).2 rfl⟩,by (refine rwG List.length_append ?_;refine rwG List.length_append ?_);exact Nat.add_le_add (Nat.add_le_add ga.1 gb.1) gc.1,sl⟩ (by lia)⟩
  ·refine Vm.cmp (.b (decide_eq_false (fun h=>hk (Int.ofNat_lt.mp h))) .gtI) ?_
   refine Vm.cmp (.b (decide_eq_false (fun h=>absurd (h5▸h) (by decide))) .ltI) ?_
   refine Vm.cmp (.b (beq_iff_eq.mpr h5) .eqI) ?_
   exact rdecls_var (w:=w) (L:=L) (d:=.int j) (x:=x) (s:=s) (f:=f) (k:=k) hn3 ok hf hx sm hel (fun o st₂ e2 og=>⟨rfl,more (var o st₂ e2 og).1 (var o st₂ e2 og).2⟩) (by kernel_rfl)
 refine Vm.cmp (.b (beq_eq_false_iff_ne.mpr h5) .eqI) ?_
 by_cases h2:w < 2
 ·refine Vm.cmp (.b (decide_eq_true h2) .ltI) ?_
  exact rdecls_var (w:=w) (L:=L) (d:=.int j) (x:=x) (s:=s) (f:=f) (k:=k) hn3 ok hf hx sm hel (fun o st₂ e2 og=>⟨rfl,more (var o st₂ e2 og).1 (var o st₂ e2 og).2⟩) (by kernel_rfl)
 refine Vm.cmp (.b (decide_eq_false h2) .ltI) ?_
 refine Vm.cmp (.b (beq_eq_false_iff_ne.mpr h5) .eqI) ?_
 by_cases h6:w=6
 ·refine Vm.cmp (.b (beq_iff_eq.mpr h6) .eqI) ?_
  refine Vm.isT (.lst (sput_x hx)) ?_
  refine Vm.blt (CallB.strI sm.log ?_)
  refine Vm.bin (wN_bin sm) ?_
  refine Vm.fn (c_rvalue 1 _ _ _ _ s scr st₁ f ok hf (by decide) (by refine (?_:n + 1 + 2 * 1 < 940);exact lin1 hn3 (by simp +arith only)) fun v st₂ hv e2=>?_)
  refine Vm.met (CallB.append (sput_x hx) (Nat.le_trans hel (by decide)) ?_)
  refine rwG (sput_set hx) ?_;refine rwG (show D.tup [.str (S_ "rename"),.int L,.str (wN L),.tup [.str (S_ "deref"),.int 0,encV v]]=encDc (.ren L (wN L) v) by rw [encDc,encP]) ?_
  exact ⟨rfl,more (c:=.ren L (wN L) v) (dg_ren sm (wN_sm hL2) (vgood_mono hC (vread_good hv (by decide)))) (by (refine rwG e2 ?_;refine rwG e1 ?_);exact hLp)⟩
 ·refine Vm.cmp (.b (beq_eq_false_iff_ne.mpr h6) .eqI) ?_
  refine Vm.isT (.lst (sput_x hx)) ?_
  refine Vm.bin .subI ?_
  obtain ⟨d,hd,c,hc,cg⟩:=SubR.pick3 (σ:=sput (σ.set x (.list (encDs es))) s scr st₁) (p:=fun d=>∃c,d=encDc c∧dgood C k c) (Int.sub_nonneg_of_le (Int.not_lt.mp h2)) (show w - 2 < 3 by lia) ⟨.subt L,by rw [encDc],dg_subt sm⟩ ⟨.typ L,by rw [encDc],dg_typ sm⟩ ⟨.exc L,by rw [encDc],dg_exc sm⟩
  refine Vm.sub hd ?_
  refine rwG hc ?_
  refine Vm.met (CallB.append (sput_x hx) (Nat.le_trans hel (by decide)) ?_)
  refine rwG (sput_set hx) ?_
  exact ⟨rfl,more cg (by refine rwG e1 ?_;exact hLp)⟩
end
theorem rdecls_step {k:Nat} (ih:∀j,k=j + 1→RDeclsOk G j):RDeclsOk G k:=fun n σ Q E s scr st f C ok hf hn hC hC0 hln h=>by
 have hn3:n < 900:=Nat.lt_of_le_of_lt (Nat.le_add_right n k) hn
 refine WC.fnV k93 (dn' 2 hn3) ?_
 refine Vm.lstN fun x hx0=>?_
 have hx:=(sput_none hx0).1
 have hx1:=(sput_none hx0).2
 refine rwG (sput_put hx) ?_
 refine Vm.sub s_left ?_
 have fin:∀{m:Nat} {σ':Sto},m≤2→DeclsJ σ x s scr C st.ln k m σ'→Q (.ref x) σ':=fun {m σ'} hm q=>by
  obtain ⟨es,st',hl,hs,e,q⟩:=q
  exact q▸h es st' x hx hx1 (hl▸hm) hs (Nat.le_trans e (Nat.add_le_add_left (Nat.mul_le_mul_right _ hm) _))
 by_cases hl:(0:Int) < st.lf
 ·refine Vm.cmp (.b (decide_eq_true hl) .gtI) ?_
  refine Vm.fn (c_digit (dn 1 hn3) ok (by decide) (by decide) fun i st' i0 i1 e=>?_)
  refine ex11 (Int.eq_ofNat_of_zero_le i0) ?_;intro m hm
  rw [hm] at i1 ⊢
  clear hm i0
  have hm:m≤2:=Nat.le_of_lt_succ (Int.ofNat_lt.mp i1)
  refine Vm.blt (CallB.range ?_)
  refine Vm.forN m [3,0,1,2] (fun _=>[(3,.ref x),(0,.ref s),(1,.int f),(2,.int k)]) (DeclsJ σ x s scr C st.ln k)
   (Nat.le_trans hm (by decide)) rfl ⟨[],st',rfl,(fun _ h=>nomatch h),by refine rwG e ?_;exact Nat.le_add_right _ _,by rw [encDs]⟩ (fun j σ₀ hj q=>?_) fun σ₀ q=>fin hm q
  obtain ⟨es,st',hl,hs,e,q⟩:=q
  refine rwG q ?_
  exact rdecls_turn ih ok hf hn hC hC0 hln hx hx1 (Nat.lt_of_lt_of_le hj hm) hl hs e
 ·refine Vm.cmp (.b (decide_eq_false hl) .gtI) ?_
  refine Vm.blt (CallB.range ?_)
  refine Vm.forN 0 [3,0,1,2] (fun _=>[(3,.ref x),(0,.ref s),(1,.int f),(2,.int k)]) (fun j σ'=>σ'=sput (σ.set x (.list (encDs []))) s scr st) (Nat.zero_le _) rfl (by rw [encDs]) (fun j σ₀ hj q=>nomatch hj) fun σ₀ q=>?_
  exact fin (m:=0) (Nat.zero_le _) ⟨[],st,rfl,(fun _ h=>nomatch h),Nat.le_add_right _ _,q⟩
theorem c_rdecls:∀k,RDeclsOk G k
 | 0=>rdecls_step fun j e=>nomatch e
 | k + 1=>rdecls_step fun j e=>(Nat.succ.inj e)▸c_rdecls k
end Mine
end
section
open PySem PySem.W PySem.Calls PyProof.Rows
namespace Mine
set_option backward.match.sparseCases false
variable {G:Glob}
variable {n:Nat} {σ:Sto} {Q:D→Sto→Prop} {E:Exn→Sto→Prop}
theorem c_Sub (hn:n < 970) {y:Str} (h:∀x dx,x≠dx→σ x=none→σ dx=none→Q (.ref x) (gpre σ 55 x dx (subF y [] []))):WC G n (.cls 55) [.str y] σ Q E:=by
 refine WC.cls (p:=(S_ "Sub",55)) k_Sub fun x dx ne hx hdx=>?_
 refine rwG gpre_new ?_
 refine WC.fnV k55_1 (dn' 3 hn) ?_
 refine Vm.pre ne ?_
 refine Vm.pre ne ?_
 refine Vm.pre ne ?_
 refine Vm.pre ne ?_
 refine Vm.pre ne ?_
 refine Vm.pre ne ?_
 refine Vm.pre ne ?_
 refine Vm.pre ne ?_
 refine Vm.pre ne ?_
 exact ⟨rfl,h x dx ne hx hdx⟩
theorem sput_gpre {s x dx:Addr} {scr:List D} {st:St} {c:Nat} {fs:List (Str×D)} (h1:x≠s) (h2:dx≠s):gpre (sput σ s scr st) c x dx fs=sput (gpre σ c x dx fs) s scr st:=by
 unfold sput
 refine rwG (gpre_put (Ne.symm h1) (Ne.symm h2)) ?_;rfl
theorem sN_bin {i:Nat} (sm:Sm (i:Int)):BinR .Add (.str (S_ "s#")) (.str (toString (i:Int))) (.str (sN i)):=BinR.addS (a:=S_ "s#") (b:=iS i) (sl (c:=10) (Nat.add_le_add_left (iS_len sm) 2))
theorem c_rsub (hn:n < 880) {s:Addr} {scr:List D} {st:St} (ok:ScrOk scr) {j:Nat} (hj:j≤2) (hln:st.ln + 4 < 1000)
  (h:∀(ds:List Dc) (ss:List S) (st':St),ds.length≤2→ss.length≤2→bgood (Cl (j + 1)) (ds,ss)→st'.ln≤st.ln + 4→Q (encSub (sN j) ds ss) (sput σ s scr st')):WC G n (.fn 94 0) [.ref s,.int j] (sput σ s scr st) Q E:=by
 refine WC.fnV k94 (dn' 2 hn) ?_
 have hsm:Sm (j:Int):=⟨Int.natCast_nonneg _,Int.lt_of_le_of_lt (Int.ofNat_le.mpr hj) (by decide)⟩
 refine Vm.blt (CallB.strI hsm.log ?_)
 refine Vm.bin (sN_bin hsm) ?_
 refine Vm.cls (c_Sub (dn 1 hn) fun x dx ne hx0 hdx0=>?_)
 have hx:=(sput_none hx0).1
 have hdx:=(sput_none hdx0).1
 refine rwG (sput_gpre hx hdx) ?_
 refine Vm.bin .addI ?_
 refine rwG (show ((j:Int) + 1)=((j + 1:Nat):Int) from rfl) ?_
 refine Vm.fn (c_rdecls 0 _ _ _ _ s scr st (j + 1) (Cl (j + 1)) ok (Nat.succ_le_succ hj) (dn 1 hn) (fun _ h=>h) (fun h=>nomatch h) (dk (c:=4) 2 hln) fun ds st' y hy hy1 dl dg de=>?_)
 have de:st'.ln≤st.ln + 2:=de
 refine Vm.fz (.L (sput_x hy)) ?_
 refine rwG (sput_del hy hy1) ?_;refine rwL (sput_gpre hx hdx) ?_
 refine Vm.pre ne ?_
 refine rwG (show dput (subF (sN j) [] []) (S_ "decls") (.lst (encDs ds))=subF (sN j) (encDs ds) [] from rfl) ?_;refine rwG (sput_gpre hx hdx) ?_
 refine Vm.bin .addI ?_
 refine rwG (show ((j:Int) + 1)=((j + 1:Nat):Int) from rfl) ?_
 refine Vm.fn (c_rstmts (dn 1 hn) ok (Nat.succ_le_succ hj) (Nat.lt_of_le_of_lt (Nat.add_le_add_right de 2) hln) fun ss st₂ sl sg se=>?_)
 refine rwL (sput_gpre hx hdx) ?_
 refine Vm.pre ne ?_
 refine rwG (show dput (subF (sN j) (encDs ds) []) (S_ "stmts") (.lst (ss.map encS))=subF (sN j) (encDs ds) (ss.map encS) from rfl) ?_
 refine Vm.fz (.I gpre_x (gpre_dx ne)) ?_
 refine rwG (gpre_del (by unfold sput;refine rwG (Sto.at_ne hx) ?_;exact (sput_none hx0).2) (by unfold sput;refine rwG (Sto.at_ne hdx) ?_;exact (sput_none hdx0).2)) ?_
 exact h ds ss st₂ dl sl ⟨dg,fun y hy=>(sg y hy).1⟩ (Nat.le_trans se (Nat.add_le_add_right de 2))
end Mine
end
section
open PySem PySem.W PySem.Calls PyProof.Rows
namespace Mine
set_option backward.match.sparseCases false
variable {G:Glob}
variable {n:Nat} {σ:Sto} {Q:D→Sto→Prop} {E:Exn→Sto→Prop}
mutual
theorem slim_of:∀v:V,vsm v→vslim v
 | .lit _,_=>by rw [vslim];trivial
 | .obj _,_=>by rw [vslim];trivial
 | .disp as _,h=>by rw [vsm] at h;rw [vslim];exact ⟨Nat.le_trans h.2.1 (by decide),slims_of as h.2.2⟩
 | .call _ _ as,h=>by rw [vsm] at h;rw [vslim];exact ⟨Nat.le_trans h.2.2.1 (by decide),slims_of as h.2.2.2⟩
theorem slims_of:∀as:List V,vsms as→vslims as
 | [],_=>by rw [vslims];trivial
 | a::as,h=>by rw [vsms] at h;rw [vslims];exact ⟨slim_of a h.1,slims_of as h.2⟩
end
noncomputable def RV:Nat→Nat
 | 0=>1
 | k + 1=>2 * (RV k + 1) + 1
theorem RV_mono {a b:Nat} (h:a≤b):RV a≤RV b:=by
 induction h with
 | refl=>exact Nat.le_refl _
 | step h ih=>rw [RV];exact lin1 ih (by simp +arith only)
mutual
theorem rowsV_len:∀v:V,vsm v→(rowsV v).length≤RV (vdepth v)
 | .lit _,_=>by rw [rowsV,vdepth];exact Nat.le_refl _
 | .obj _,_=>by rw [rowsV,vdepth];exact Nat.le_refl _
 | .disp as _,h=>by
  rw [vsm] at h
  rewrite [rowsV,vdepth,RV];refine rwG List.length_append ?_
  have:=rowsVs_len as h.2.2
  have:=Nat.mul_le_mul_right (RV (vdepths as) + 1) h.2.1
  simp;lia
 | .call _ _ as,h=>by
  rw [vsm] at h
  rewrite [rowsV,vdepth,RV];refine rwG List.length_append ?_
  have:=rowsVs_len as h.2.2.2
  have:=Nat.mul_le_mul_right (RV (vdepths as) + 1) h.2.2.1
  simp;lia
theorem rowsVs_len:∀as:List V,vsms as→(rowsVs as).length≤as.length * (RV (vdepths as) + 1)
 | [],_=>by rw [rowsVs];simp
 | a::as,h=>by
  rw [vsms] at h
  rewrite [rowsVs,vdepths];refine rwG (show (a::as).length * (RV (max (vdepth a) (vdepths as)) + 1)=as.length * (RV (max (vdepth a) (vdepths as)) + 1) + (RV (max (vdepth a) (vdepths as)) + 1) by (refine rwG List.length_cons ?_;rewrite [Nat.add_mul,Nat.one_mul];rfl)) ?_
  simp only [List.length_append,List.length_cons,List.length_nil]
  have h1:=rowsV_len a h.1
  have h2:=rowsVs_len as h.2
  have h3:=RV_mono (Nat.le_max_left (vdepth a) (vdepths as))
  have h4:=RV_mono (Nat.le_max_right (vdepth a) (vdepths as))
  have h5:=Nat.mul_le_mul_left as.length (Nat.add_le_add_right h4 1)
  lia
end
section
variable {C:Str→Prop}
theorem lenV {v:V} (h:vgood C v):(rowsV v).length≤13:=Nat.le_trans (rowsV_len v h.2.1) (RV_mono (b:=2) h.1)
theorem okV {v:V} (h:vgood C v):vok v:=⟨h.1,slim_of v h.2.1⟩
theorem lenP {p:P} (h:pgood C p):(rowsP p).length≤14:=by
 cases p with
 | y=>exact Nat.le_of_ble_eq_true rfl
 | r=>exact Nat.le_of_ble_eq_true rfl
 | der v=>(rewrite [rowsP];refine rwG List.length_append ?_);have:=lenV h;simp;exact this
theorem okP' {p:P} (h:pgood C p):pok p:=by
 cases p with
 | y=>trivial
 | r=>trivial
 | der v=>exact okV h
theorem lenA {a:A} (h:agood C a):(rowsA a).length≤16:=by
 cases a with
 | inn v=>(rewrite [rowsA];refine rwG List.length_append ?_);have:=lenV h;simp;exact Nat.le_trans this (Nat.le_of_ble_eq_true rfl)
 | out b p=>(rewrite [rowsA];refine rwG List.length_append ?_;refine rwG List.length_append ?_);have:=lenP h;simp;exact this
theorem okA {a:A} (h:agood C a):aok a:=by
 cases a with
 | inn v=>exact okV h
 | out b p=>exact okP' h
theorem lenAs:∀{as:List A},(∀a∈as,agood C a)→(rowsAs as).length≤as.length * 16
 | [],_=>Nat.le_refl _
 | a::as,h=>by
  have h1:=lenA (h a (.head _))
  have h2:=lenAs fun x hx=>h x (.tail _ hx)
  (rewrite [rowsAs];refine rwG List.length_append ?_;refine rwG List.length_cons ?_);exact lin2 h1 h2 (by simp +arith only)
theorem okS {s:S} (h:sgood C s):sok s:=by
 cases s with
 | pcall i u x as=>exact ⟨Nat.le_trans h.2.2.2.2.1 (by decide),fun a ha=>okA (h.2.2.2.2.2 a ha)⟩
 | pdisp i as ix=>exact ⟨Nat.le_trans h.2.2.1 (by decide),fun a ha=>okA (h.2.2.2 a ha)⟩
 | asg i v=>exact okV h.2
 | ret i o=>cases o with
  | none=>trivial
  | some v=>exact okV h.2
 | null i=>trivial
theorem lenS {e:Int} {s:S} (h:sgood C s):(rowsS e s).length≤40:=by
 rewrite [rowsS];refine rwG List.length_cons ?_
 cases s with
 | pcall i u x as=>
  have h1:=lenAs h.2.2.2.2.2
  have h2:=h.2.2.2.2.1
  (rewrite [rowsS1];refine rwG List.length_append ?_;refine rwG List.length_append ?_);simp;lia
 | pdisp i as ix=>
  have h1:=lenAs h.2.2.2
  have h2:=h.2.2.1
  (rewrite [rowsS1];refine rwG List.length_append ?_);simp;lia
 | asg i v=>
  have h1:=lenV h.2
  have h2:=lenP (C:=C) (p:=.y) trivial
  (rewrite [rowsS1];refine rwG List.length_append ?_;refine rwG List.length_append ?_;refine rwG List.length_append ?_);simp;exact lin2 h1 h2 (by simp +arith only)
 | ret i o=>cases o with
  | none=>exact Nat.le_of_ble_eq_true rfl
  | some v=>
   have h1:=lenV h.2
   (rewrite [rowsS1];refine rwG List.length_append ?_;refine rwG List.length_append ?_);simp;exact Nat.le_trans h1 (Nat.le_of_ble_eq_true rfl)
 | null i=>exact Nat.le_of_ble_eq_true rfl
theorem lenSs {e:Int}:∀{ss:List S},(∀s∈ss,sgood C s)→(rowsSs e ss).length≤ss.length * 40
 | [],_=>Nat.le_refl _
 | a::as,h=>by
  have h1:=lenS (e:=e) (h a (.head _))
  have h2:=lenSs (e:=e) fun x hx=>h x (.tail _ hx)
  rw (config:={}) [rowsSs,List.length_append,List.length_cons];exact lin2 h1 h2 (by simp +arith only)
noncomputable def BD:Nat→Nat
 | 0=>16
 | k + 1=>99 + 6 * (BD k + 1)
theorem dsLen {e:Int} {B:Nat}:∀{ds:List Dc} {c:Nat},(∀d∈ds,∀c,(rowsD e c d).length≤B)→(rowsDs e c ds).length≤ds.length * (B + 1)
 | [],c,_=>by rw [rowsDs];exact Nat.le_add_left _ _
 | d::ds,c,h=>by
  have h1:=h d (.head _) c
  have h2:=dsLen (B:=B) (ds:=ds) (c:=c + subsD d) fun x hx=>h x (.tail _ hx)
  (rewrite [rowsDs];refine rwG List.length_cons ?_;refine rwG List.length_append ?_;refine rwG List.length_cons ?_;rewrite [Nat.add_mul]);exact lin2 h1 h2 (by simp +arith only)
theorem lenD {e:Int}:∀{k:Nat} {d:Dc},dgood C k d→∀c,(rowsD e c d).length≤BD k
 | k,d,h,c=>by
  have hB:16≤BD k:=by cases k<;>simp [BD]<;>simp +arith only
  cases d with
  | var i x o=>
   cases o with
   | none=>rw [rowsD];simp;exact Nat.le_trans (Nat.le_add_left _ _) hB
   | some v=>
    have hv:vgood C v:=by cases k<;>exact h.2.2
    have:=lenV hv
    (rewrite [rowsD];refine rwG List.length_append ?_;refine rwG List.length_append ?_);simp;exact lin2 hB this (by simp +arith only)
  | ren i x v=>
   have hv:vgood C v:=by cases k<;>exact h.2.2
   have:=lenP (p:=.der v) hv
   (rewrite [rowsD];refine rwG List.length_append ?_);simp;exact lin2 hB this (by simp +arith only)
  | subt i=>rw [rowsD];simp;exact Nat.le_trans (Nat.le_add_left _ _) hB
  | typ i=>rw [rowsD];simp;exact Nat.le_trans (Nat.le_add_left _ _) hB
  | exc i=>rw [rowsD];simp
  | sub i x ds ss=>cases k<;>exact h.elim
  | pack i a b d ss=>
   cases k with
   | zero=>exact h.elim
   | succ k=>
    refine ex05 h ?_;clear h;intro h1 h2 h3 h4 h5
    have l1:=dsLen (e:=e) (ds:=a) (c:=c) fun d hd=>lenD (h2 d (by simp [hd]))
    have l2:=dsLen (e:=e) (ds:=b) (c:=c) fun d hd=>lenD (h2 d (by simp [hd]))
    have l3:=dsLen (e:=e) (ds:=d) (c:=c) fun d hd=>lenD (h2 d (by exact List.mem_append_right _ hd))
    have l4:=lenSs (e:=e) fun s hs=>(h3 s hs).1
    simp only [List.length_append] at h4
    have l5:(a.length + b.length + d.length) * (BD k + 1)≤6 * (BD k + 1):=Nat.mul_le_mul_right _ h4
    rw [Nat.add_mul,Nat.add_mul] at l5
    rw [rowsD]
    simp only [List.length_append,List.length_cons,List.length_nil]
    rw [BD]
    lia
theorem free_of {k:Nat} {d:Dc} (h:dgood C k d):subsD d=0:=by
 cases d with
 | sub i x ds ss=>cases k<;>exact h.elim
 | _=>rfl
theorem okD:∀{k:Nat} {d:Dc},dgood C k d→∀j,k≤j→dok j d
 | k,d,h,j,hj=>by
  cases d with
  | var i x o=>
   cases o with
   | none=>cases j<;>trivial
   | some v=>
    have hv:vgood C v:=by cases k<;>exact h.2.2
    cases j<;>exact okV hv
  | ren i x v=>
   have hv:vgood C v:=by cases k<;>exact h.2.2
   cases j<;>exact okV hv
  | subt i=>cases j<;>trivial
  | typ i=>cases j<;>trivial
  | exc i=>cases j<;>trivial
  | sub i x ds ss=>cases k<;>exact h.elim
  | pack i a b d ss=>
   cases k with
   | zero=>exact h.elim
   | succ k=>
    refine ex05 h ?_;clear h;intro h1 h2 h3 h4 h5
    obtain ⟨j,rfl⟩:∃i,j=i + 1:=⟨j - 1,by lia⟩
    simp only [List.length_append] at h4
    exact ⟨fun x hx=>okD (h2 x hx) j (by exact Nat.le_of_lt_succ hj),fun x hx=>free_of (h2 x hx),fun s hs=>okS (h3 s hs).1,by exact Nat.le_trans h4 (Nat.le_of_ble_eq_true rfl)⟩
end
theorem wlen_ok {C:Str→Prop} {ds:List Dc} {ss:List S} (h:bgood C (ds,ss)) (h1:ds.length≤2) (h2:ss.length≤2):(rowsDs 0 0 ds).length + (rowsSs 0 ss).length≤200:=by
 have l1:=dsLen (e:=0) (ds:=ds) (c:=0) fun d hd=>lenD (h.1 d hd)
 have l2:=lenSs (e:=0) h.2
 have:ds.length * (BD 0 + 1)≤2 * (BD 0 + 1):=Nat.mul_le_mul_right _ h1
 have:BD 0=16:=rfl
 dsimp only at l2
 lia
noncomputable def tops1:Dc→Prop
 | .sub i x ds ss=>Sm i∧ds.length≤2∧ss.length≤2∧∃j,j≤2∧x=sN j∧bgood (Cl (j + 1)) (ds,ss)
 | d=>dgood (Cl 0) 2 d
theorem tops1_good {d:Dc} (h:tops1 d):(tgood d∧tsize d)∧dok 2 d∧∀e c,(rowsD e c d).length≤2000:=by
 have hb:big=2 ^ 20:=rfl
 by_cases hsub:∃i x ds ss,d=.sub i x ds ss
 ·refine ex41 hsub ?_;clear hsub;rintro i x ds ss rfl
  obtain ⟨h1,h2,h3,j,h4,h5,h6⟩:=h
  have hw:=wlen_ok h6 h2 h3
  refine ⟨⟨⟨h1,j,h4,h5,h6⟩,?_⟩,⟨fun d hd=>okD (h6.1 d hd) 1 (by lia),fun d hd=>free_of (h6.1 d hd),fun s hs=>okS (h6.2 s hs),by lia⟩,fun e c=>by rw [rowsD];simp⟩
  refine (?_:(rowsW (endW ds ss) ds ss row_endsub).length≤_)
  unfold rowsW
  simp only [List.length_append,List.length_cons,List.length_nil,rowsDs_len (endW ds ss),rowsSs_len (endW ds ss)]
  lia
 ·have hm:dgood (Cl 0) 2 d:=by
   cases d with
   | sub i x ds ss=>exact absurd ⟨i,x,ds,ss,rfl⟩ hsub
   | _=>exact h
  refine ⟨⟨?_,?_⟩,okD hm 2 (Nat.le_refl _),fun e c=>Nat.le_trans (lenD hm c) (by decide)⟩
  ·cases d with
   | sub i x ds ss=>exact absurd ⟨i,x,ds,ss,rfl⟩ hsub
   | _=>exact hm
  ·cases d with
   | sub i x ds ss=>exact absurd ⟨i,x,ds,ss,rfl⟩ hsub
   | _=>trivial
theorem tops_rows {ds:List Dc} (h:∀d∈ds,tops1 d) (hl:ds.length≤20) (e:Int):(rowsDs e 0 ds).length≤50000:=by
 have:=dsLen (e:=e) (ds:=ds) (c:=0) (B:=2000) fun d hd c=>(tops1_good (h d hd)).2.2 e c
 have:ds.length * (2000 + 1)≤20 * (2000 + 1):=Nat.mul_le_mul_right _ hl
 lia
end Mine
end
section
open PySem PySem.W PySem.Calls PyProof.Rows
namespace Mine
set_option backward.match.sparseCases false
variable {G:Glob}
section
variable {n:Nat} {σ:Sto} {Q:D→Sto→Prop} {E:Exn→Sto→Prop}
theorem texts_of {φ:Fz}:∀{vs:List Value} {ts:List Str},VRs G φ vs (ts.map .str)→∀j (h:j < vs.length),∃t u,vs[j]=.str t u∧ts[j]?=some t
 | v::vs,t::ts,h,0,_=>by
  cases h with
  | cons a b=>(refine ex11 a.inv ?_;intro u e);exact ⟨_,u,e,rfl⟩
 | v::vs,t::ts,h,j + 1,hj=>by
  cases h with
  | cons a b=>
   refine ex22 (texts_of b j (by exact Nat.lt_of_succ_lt_succ hj)) ?_;intro x u e1 e2
   exact ⟨x,u,by trivial,by trivial⟩
 | [],_,_,j,hj=>absurd hj (Nat.not_lt_zero _)
 | v::vs,[],h,_,_=>nomatch h
theorem WE.eqL {k:Sk} {Γ:Loc} {l r:Expr} {p:Pos} (hn:k.n≤1000) (h:WE G k Γ σ l (fun d₁ σ₁=>WE G k Γ σ₁ r (fun d₂ σ₂=>∃ts:List Str,d₁=.lst (ts.map .str)∧d₂=.lst (ts.map .str)∧Q (.bool true) σ₂) E) E)
  (hm:behindInMarks .Eq r=false):WE G k Γ σ (.Compare l [.Eq] [r] p) Q E:=fun X hX φ s R=>by
 refine wpAny_Compare1 (then_ (h X hX φ s R) (fun φ₁ σ₁ d₁ v₁ s₁ l₁ R₁ V₁ q=>?_) fun _ _ x=>x) hm
 refine then_ (q X hX φ₁ s₁ R₁) (fun φ₂ σ₂ d₂ v₂ s₂ l₂ R₂ V₂ q₂=>?_) fun _ _ x=>x.le l₁
 refine ex13 q₂ ?_;clear q₂;rintro ts rfl rfl hq
 refine (V₁.mono l₂).lstE fun a o vs m g1 g2 g3 g4=>V₂.lstE fun b o' ws m' f1 f2 f3 f4=>?_
 have hu:=hX.units
 refine SeqAt.eq_listAt (items:=vs.toArray) (items2:=ws.toArray) (e:=fun _=>true) ⟨o,R₂.core.frz _ _ g1,g2,m,g3⟩ ⟨o',R₂.core.frz _ _ f1,f2,m',f3⟩ (by (refine rwG List.size_toArray ?_;refine rwG List.size_toArray ?_;refine rwG g4.length ?_;refine rwG f4.length ?_;rfl)) (by refine rwG cLine_is ?_;lia) (fun j h1 h2=>?_) ?_
 ·refine ex22 (texts_of g4 j (by trivial)) ?_;intro t u q1 q2
  refine ex22 (texts_of f4 j (by trivial)) ?_;intro t' u' q3 q4
  obtain rfl:=Option.some.inj (q2.symm.trans q4)
  have:=SeqRoads2.EqGives.str t t u u'
  rw [beq_self_eq_true] at this
  simp only [List.getElem_toArray]
  refine rwG q1 ?_;refine rwG q3 ?_
  exact this.at _ _
 ·refine rwG (List.all_eq_true.mpr fun _ _=>rfl) ?_
  exact ⟨φ₂,σ₂,_,l₁.trans l₂,R₂,.bool _,hq⟩
noncomputable def wordE:Exn→Str
 | .ada=>S_ "program_error"
 | .fin=>S_ "long"
noncomputable def outcome (m:M' Unit) (d:Dd):Str×Dd:=match m d with
 | .ok _ d'=>(S_ "done",d')
 | .err e d'=>(wordE e,d')
theorem wp_outcome {m:M' Unit} {d:Dd}:wpM m (fun _ d'=>(S_ "done",d')=outcome m d) (fun e d'=>(wordE e,d')=outcome m d) d:=by
 unfold wpM outcome
 cases m d<;>rfl
theorem c_how (hn:n < 900) {body:Expr} {sc:Scope} {cells:List (Str×Addr)} {E₀:Exn→Sto→Prop} (h:WC G (n + 1) (.clo body sc cells) [] σ (fun _ σ'=>Q (.str (S_ "done")) σ') E₀) (hE:∀e σ',E₀ e σ'→Q (.str (wordE e)) σ'):
  WC G n (.fn 108 0) [.clo body sc cells] σ Q E:=by
 refine WC.fn [S_ "work"] (by decide +kernel) rfl (by exact Nat.lt_of_lt_of_le hn (Nat.le_of_ble_eq_true rfl)) ?_
 simp only [List.zip_cons_cons,List.zip_nil_right]
 refine WS.cons ?_
 refine W1.how (E₀:=E₀) rfl (by decide +kernel) (by decide +kernel) (by decide +kernel) rfl rfl rfl (by decide +kernel) ?_ ?_ ?_
 ·refine WS.cons ?_
  refine W1.expr ?_ ?hs
  case hs=>intro _;rfl
  refine WE.call ?_ (fun _=>rfl) (fun _=>rfl)
  ((with_reducible refine WE.var (d:=?d1) ?hm1 ?_);(case hm1=>(exact List.mem_cons_self)))
  refine ⟨trivial,?_⟩
  ((with_reducible refine WA.nil ?_))
  refine WC.conseq h (fun d σ' q=>?_) fun _ _ x=>x
  ((with_reducible refine Then.next ?_);(with_reducible refine WS.nil ?_);(with_reducible refine Then.next ?_);(with_reducible refine WS.cons ?_))
  ((with_reducible refine W1.ret ?_);(with_reducible refine WE.str ?_);(with_reducible refine Then.ret ?_);(with_reducible refine Back.ret ?_))
  exact q
 ·intro σ' q
  ((with_reducible refine Then.ret ?_);(with_reducible refine Back.ret ?_))
  exact hE _ _ q
 ·intro σ' q
  ((with_reducible refine Then.ret ?_);(with_reducible refine Back.ret ?_))
  exact hE _ _ q
theorem bput_eta {a:BA} {d:Dd} {es:List (Str×D)} (h1:σ a.b=some (.dict [(S_ "deeds",.ref a.dl),(S_ "laid",.ref a.ld)])) (h2:σ a.dl=some (.list (d.1.map .str))) (h3:σ a.ld=some (.dict es)):σ=bput σ a d es:=by
 funext b
 unfold bput
 split
 ·rename_i e;(refine rwG e ?_;refine rwG h1 ?_;rfl)
 ·split
  ·rename_i e;(refine rwG e ?_;refine rwG h2 ?_;rfl)
  ·split
   ·rename_i e;(refine rwG e ?_;refine rwG h3 ?_;rfl)
   ·rfl
theorem bput_other {a:BA} {d:Dd} {es:List (Str×D)} {b:Addr} (h1:b≠a.b) (h2:b≠a.dl) (h3:b≠a.ld):bput σ a d es b=σ b:=by
 unfold bput;(refine rwG (if_neg h1) ?_;refine rwG (if_neg h2) ?_;refine rwG (if_neg h3) ?_;rfl)
end
section
variable {n:Nat} {σ:Sto} {Q:D→Sto→Prop} {E:Exn→Sto→Prop}
noncomputable abbrev kL (n:Nat) (cB cC cD c:Addr):Sk:={ sc:=sScope (stAt 109 0),cells:=[(S_ "books",cB),(S_ "code",cC),(S_ "decls",cD)],n:=n,code:=some c }
noncomputable def asgV:Stmt→Expr
 | .Assign _ v _=>v
 | _=>.Constant .none 0 default
noncomputable def forBody:Stmt→List Stmt
 | .For _ _ b _ _=>b
 | _=>[]
noncomputable def lawFor:List Stmt:=forBody (((sBody (stAt 109 0)).drop 2).headD (.Pass default))
noncomputable def cellR (σ:Sto) (cD x:Addr):Sto:=σ.set cD (.cell (some (.ref x)))
noncomputable def listR (σ:Sto) (cD x:Addr) (ds:List D):Sto:=(cellR σ cD x).set x (.list ds)
theorem listR_cD {cD x:Addr} {ds:List D} (h:x≠cD):listR σ cD x ds cD=some (.cell (some (.ref x))):=by
 unfold listR cellR;refine rwG (Sto.at_ne (Ne.symm h)) ?_;exact Sto.at_set
theorem dgood_lift {C:Str→Prop}:∀{k:Nat} {d:Dc},dgood C k d→∀j,k≤j→dgood C j d
 | k,d,h,j,hj=>by
  cases d with
  | var i x o=>
   cases o with
   | none=>
    have h:Sm i∧SmS x:=by cases k<;>exact h
    cases j<;>exact h
   | some v=>
    have h:Sm i∧SmS x∧vgood C v:=by cases k<;>exact h
    cases j<;>exact h
  | ren i x v=>
   have h:Sm i∧SmS x∧vgood C v:=by cases k<;>exact h
   cases j<;>exact h
  | subt i=>
   have h:Sm i:=by cases k<;>exact h
   cases j<;>exact h
  | typ i=>
   have h:Sm i:=by cases k<;>exact h
   cases j<;>exact h
  | exc i=>
   have h:Sm i:=by cases k<;>exact h
   cases j<;>exact h
  | sub i x ds ss=>cases k<;>exact h.elim
  | pack i a b d ss=>
   cases k with
   | zero=>exact h.elim
   | succ k=>
    refine ex03 h ?_;clear h;intro h1 h2 h3
    obtain ⟨j,rfl⟩:∃i,j=i + 1:=⟨j - 1,by lia⟩
    exact ⟨h1,fun x hx=>dgood_lift (h2 x hx) j (by exact Nat.le_of_lt_succ hj),h3⟩
section
variable {cB cC cD c s x:Addr} {scr:List D} {st:St} {SC:D}
theorem law_first (hn:n < 800) (hs:cD≠s) (hc:σ cD=some (.cell none)) (ok:ScrOk scr) {Γ:Loc} (hΓ:(S_ "strip",D.ref s)∈Γ) {R:Out→Loc→Sto→Prop} (hln:st.ln=0)
  (h:∀(ds:List Dc) (st':St) (x:Addr),x≠s→x≠cD→σ x=none→ds.length≤2→(∀d∈ds,dgood (Cl 0) 2 d)→st'.ln≤2 * per 2→R .next Γ (sput (listR σ cD x (encDs ds)) s scr st')) {stm:Stmt} (hst:(sBody (stAt 109 0))[1]?=some stm):
  W1 G (kL n cB cC cD c) Γ (sput σ s scr st) stm R E:=by
 cases hst
 refine W1.assign ?_ ?hs ?hw ?he
 case hs=>intro _;rfl
 case hw=>intro _;rfl
 case he=>intro _;rfl
 refine WE.callD d_law_decls rfl (by decide +kernel) ?_ (by intro _;rfl)
 refine WA.cons (WE.var hΓ ?_) (by intro _;rfl)
 ((with_reducible refine WA.cons ?_ ?he1);(case he1=>first | (intro _;rfl) | (intro _ _;rfl) | rfl | decide +kernel);(with_reducible refine WE.int ?_);(with_reducible refine WA.cons ?_ ?he3);(case he3=>first | (intro _;rfl) | (intro _ _;rfl) | rfl | decide +kernel);(with_reducible refine WE.int ?_);(with_reducible refine WA.nil ?_))
 refine c_rdecls 2 _ _ _ _ s scr st 3 (Cl 0) ok (by decide) (by refine (?_:n + 2 < 900);exact dn _ hn) (fun y ⟨i,_,b,e⟩=>⟨i,Nat.zero_le _,b,e⟩) (fun _ _ h=>h) (by refine rwG hln ?_;decide) fun ds st' x hx hx1 dl dg de=>?_
 have hxD:x≠cD:=fun e=>by rw [e,hc] at hx1;cases hx1
 refine WAsg.cell (c:=cD) (o:=none) (by simp) rfl ?_ ?_
 ·unfold sput
  (refine rwG (Sto.at_ne hs) ?_;refine rwG (Sto.at_ne (Ne.symm hxD)) ?_);exact hc
 ·have:=h ds st' x hx hxD hx1 dl dg (by lia)
  refine rwG (sput_put hs) ?_
  unfold listR cellR at this
  rw [Sto.set_comm (Ne.symm hxD)] at this
  exact this
theorem law_append (hn:n < 800) (hs:cD≠s) (hx:x≠s) (hxD:x≠cD) (ok:ScrOk scr) {ds:List Dc} (hl:ds.length≤100) {j:Nat} (hj:j≤2) (hln:st.ln + 4 < 1000) {Γ:Loc} (h1:(S_ "strip",D.ref s)∈Γ) (h2:(S_ "number",D.int j)∈Γ) {R:Out→Loc→Sto→Prop}
  (h:∀(d:Dc) (st':St),tops1 d→st'.ln≤st.ln + 4→R .next Γ (sput (listR σ cD x (encDs (ds++[d]))) s scr st')) {stm:Stmt} (hst:lawFor[0]?=some stm):
  W1 G (kL n cB cC cD c) Γ (sput (listR σ cD x (encDs ds)) s scr st) stm R E:=by
 cases hst
 refine W1.expr ?_ ?hs
 case hs=>intro _;rfl
 refine WE.mappend ?_ ?hb ?hf ?hl ?hp
 case hb=>intro _;rfl
 case hf=>intro _;rfl
 case hl=>rfl
 case hp=>intro _;rfl
 refine WE.cellv (c:=cD) (d:=.ref x) (by simp) ?_ ?_
 ·unfold sput;refine rwG (Sto.at_ne hs) ?_;exact listR_cD hxD
 refine ⟨x,_,rfl,sput_x hx,?_⟩
 refine WA.cons ?_ (by intro _;rfl)
 refine WE.tup (WA.cons ?_ (by intro _;rfl))
 ((with_reducible refine WE.str ?_))
 refine WA.cons ?_ (by intro _;rfl)
 refine WE.bin ?_
 ((with_reducible refine WE.int ?_))
 refine WE.var h2 ?_
 refine ⟨_,.addI,?_⟩
 refine WA.cons ?_ (by intro _;rfl)
 refine WE.callD d_law_sub rfl (by decide +kernel) ?_ (by intro _;rfl)
 refine WA.cons (WE.var h1 ?_) (by intro _;rfl)
 refine WA.cons (WE.var h2 ?_) (by intro _;rfl)
 ((with_reducible refine WA.nil ?_))
 refine c_rsub (by refine (?_:n < 880);exact Nat.lt_of_lt_of_le hn (Nat.le_of_ble_eq_true rfl)) ok hj hln fun ds' ss st' dl sl hb de=>?_
 ((with_reducible refine WA.nil ?_);(with_reducible refine ⟨by exact Nat.le_of_ble_eq_true rfl,?_⟩);(with_reducible refine WA.nil ?_))
 refine ⟨_,_,rfl,sput_x hx,by (rewrite [←encDs_len];refine rwG sizeLine_eq ?_);exact Nat.le_trans hl (Nat.le_of_ble_eq_true rfl),?_⟩
 refine rwG (show (sput (listR σ cD x (encDs ds)) s scr st').set x (.list (encDs ds++[D.tup [.str (S_ "sub"),.int (50 + (j:Int)),encSub (sN j) ds' ss]]))=_ from sput_set hx) ?_
 have hc:encDc (.sub (50 + (j:Int)) (sN j) ds' ss)=.tup [.str (S_ "sub"),.int (50 + (j:Int)),encSub (sN j) ds' ss]:=by rw [encDc];rfl
 refine rwL hc ?_
 have:=h (.sub (50 + (j:Int)) (sN j) ds' ss) st' ⟨⟨by lia,by lia⟩,dl,sl,j,hj,rfl,hb⟩ de
 rw [encDs_append,encDs,encDs] at this
 exact this
theorem law_add (hn:n < 800) (hs:cD≠s) (hx:x≠s) (hxD:x≠cD) (hx0:σ x=none) (ok:ScrOk scr) {ds:List Dc} (hl:ds.length≤100) {j:Nat} (hj:j≤2) (hln:st.ln + 2 * per 1 < 1000) {Γ:Loc} (h1:(S_ "strip",D.ref s)∈Γ) (h2:(S_ "number",D.int j)∈Γ)
  (h:∀(ds':List Dc) (st':St) (y:Addr),y≠s→y≠cD→σ y=none→ds'.length≤2→(∀d∈ds',dgood (Cl 0) 2 d)→st'.ln≤st.ln + 2 * per 1→Q (.ref y) ((sput (cellR σ cD x) s scr st').set y (.list (encDs (ds++ds'))))):
  WE G (kL n cB cC cD c) Γ (sput (listR σ cD x (encDs ds)) s scr st) (asgV (lawFor[1]?.getD (.Pass default))) Q E:=by
 have eta:(sput (listR σ cD x (encDs ds)) s scr st).del x=sput (cellR σ cD x) s scr st:=sput_del hx (by unfold cellR;refine rwG (Sto.at_ne hxD) ?_;exact hx0)
 refine WE.addNew ?_
 refine WX.frzL ?_
 refine WE.cellv (c:=cD) (d:=.ref x) (by simp) ?_ ?_
 ·unfold sput;refine rwG (Sto.at_ne hs) ?_;exact listR_cD hxD
 refine ⟨x,_,rfl,sput_x hx,?_⟩
 refine rwG eta ?_
 refine WX.frzL ?_
 refine WE.callD d_law_decls rfl (by decide +kernel) ?_ (by intro _;rfl)
 refine WA.cons (WE.var h1 ?_) (by intro _;rfl)
 refine WA.cons (WE.var h2 ?_) (by intro _;rfl)
 ((with_reducible refine WA.cons ?_ ?he12);(case he12=>first | (intro _;rfl) | (intro _ _;rfl) | rfl | decide +kernel);(with_reducible refine WE.int ?_);(with_reducible refine WA.nil ?_))
 refine c_rdecls 1 _ _ _ _ s scr st j (Cl 0) ok (by exact Nat.le_succ_of_le hj) (by refine (?_:n + 1 < 900);exact dn _ hn) (fun y ⟨i,_,b,e⟩=>⟨i,Nat.zero_le _,b,e⟩) (fun _ _ h=>h) hln fun ds' st' y hy hy1 dl dg de=>?_
 refine ⟨y,_,rfl,sput_x hy,?_⟩
 refine rwG (sput_del hy hy1) ?_
 refine ⟨_,_,rfl,rfl,by (rewrite [←encDs_len,←encDs_len];refine rwG sizeLine_eq ?_);exact lin2 hl dl (by simp +arith only),fun z hz=>?_⟩
 refine ex02 (sput_none hz) ?_;intro z1 z2
 unfold cellR at z2
 refine ex02 (Sto.set_none z2) ?_;intro z3 z4
 rw [←encDs_append]
 exact h ds' st' z z1 z3 z4 dl (fun d hd=>dgood_lift (dg d hd) 2 (by decide)) de
end
end
section
variable {n:Nat} {σ:Sto} {Q:D→Sto→Prop} {E:Exn→Sto→Prop}
theorem dgood_tops {d:Dc} (h:dgood (Cl 0) 2 d):tops1 d:=by
 cases d with
 | sub i x ds ss=>exact h.elim
 | _=>exact h
noncomputable def topR (σ:Sto) (cD:Addr) (ds:List Dc):Sto:=σ.set cD (.cell (some (.lst (encDs ds))))
inductive LawAt (σ:Sto) (s cD:Addr) (scr:List D) (ds:List Dc) (st':St) (rest:List Nat) (σ':Sto):Prop
 | more (x:Addr):rest≠[]→x≠s→x≠cD→σ x=none→σ'=sput (listR σ cD x (encDs ds)) s scr st'→LawAt σ s cD scr ds st' rest σ'
 | last:rest=[]→σ'=sput (topR σ cD ds) s scr st'→LawAt σ s cD scr ds st' rest σ'
inductive LawI (Γ₀:Loc) (σ:Sto) (s cD:Addr) (scr:List D) (rest:List Nat) (Γ':Loc) (σ':Sto):Prop
 | mk (ds:List Dc) (st':St):Γ'=Γ₀→(∀j∈rest,j≤2)→(∀d∈ds,tops1 d)→ds.length + 3 * rest.length≤11→st'.ln + 22 * rest.length≤180→LawAt σ s cD scr ds st' rest σ'→LawI Γ₀ σ s cD scr rest Γ' σ'
theorem law_for {cB cC cD c s x:Addr} {scr:List D} {st:St} {SC:D} (hn:n < 800) (hs:cD≠s) (hx:x≠s) (hxD:x≠cD) (hx0:σ x=none) (ok:ScrOk scr) {ds:List Dc} (hl:ds.length≤2) (hd:∀d∈ds,dgood (Cl 0) 2 d) (hln:st.ln≤2 * per 2) {R:Out→Loc→Sto→Prop}
  (h:∀(ds:List Dc) (st':St),ds.length≤11→(∀d∈ds,tops1 d)→R .next [(S_ "strip",.ref s),(S_ "script",SC)] (sput (topR σ cD ds) s scr st')) {stm:Stmt} (hst:(sBody (stAt 109 0))[2]?=some stm):
  W1 G (kL n cB cC cD c) [(S_ "strip",.ref s),(S_ "script",SC)] (sput (listR σ cD x (encDs ds)) s scr st) stm R E:=by
 cases hst
 have p1:per 1=9:=rfl
 have p2:per 2=57:=rfl
 refine W1.forL (fun j:Nat=>D.int j) [2,1,0] (LawI [(S_ "strip",.ref s),(S_ "script",SC)] σ s cD scr) rfl ?h ?hstep ?hend ?hs
 case hs=>intro _ _;rfl
 case h=>
  refine WE.tup ?_
  repeat ((with_reducible refine WA.cons ?_ ?he1);(case he1=>first | (intro _;rfl) | (intro _ _;rfl) | rfl | decide +kernel);(with_reducible refine WE.int ?_);(with_reducible refine WA.cons ?_ ?he3);(case he3=>first | (intro _;rfl) | (intro _ _;rfl) | rfl | decide +kernel);(with_reducible refine WE.int ?_);(with_reducible refine WA.cons ?_ ?he5);(case he5=>first | (intro _;rfl) | (intro _ _;rfl) | rfl | decide +kernel);(with_reducible refine WE.int ?_);(with_reducible refine WA.nil ?_))
  refine ⟨by simp,.inr rfl,ds,st,rfl,by decide,fun d h=>dgood_tops (hd d h),by refine (?_:ds.length + 3 * 3≤11);exact Nat.add_le_add_right hl _,by refine (?_:st.ln + 22 * 3≤180);exact Nat.add_le_add_right hln _,.more x (by simp) hx hxD hx0 rfl⟩
 case hend=>
  rintro Γ₀ σ₀ ⟨ds,st',rfl,_,hd,hl,_,hh⟩
  rcases hh with ⟨_,hne⟩ | ⟨_,rfl⟩
  ·exact absurd rfl hne
  ·exact h ds st' hl hd
 case hstep=>
  rintro j rest Γ₀ σ₀ ⟨ds,st',rfl,hj,hd,hl,hln,hh⟩
  rcases hh with ⟨x,_,hx,hxD,hx0,rfl⟩ | ⟨hne,_⟩
  case last=>cases hne
  rw [List.length_cons] at hl hln
  refine WAsg.new rfl (by decide +kernel) rfl ?_
  refine WS.cons (law_append hn hs hx hxD ok (by exact lx' hl) (hj j (.head _)) (by exact dx _ hln) (.tail _ (.head _)) (.head _) (fun d st₁ td e1=>?_) rfl)
  refine Then.next (WS.cons ?_)
  have hd2:∀(ds':List Dc),(∀d∈ds',dgood (Cl 0) 2 d)→∀y∈ds++[d]++ds',tops1 y:=fun ds' hd' y hy=>by
   simp only [List.mem_append,List.mem_singleton] at hy
   rcases hy with (hy | rfl) | hy
   ·exact hd y hy
   ·exact td
   ·exact dgood_tops (hd' y hy)
  by_cases hr:rest=[]
  ·subst hr
   refine W1.assign (WX.frzL (law_add hn hs hx hxD hx0 ok (by refine rwG List.length_append ?_;simp;exact lx' hl) (hj j (.head _)) (by lia) (.tail _ (.head _)) (.head _) fun ds' st₂ y y1 y2 y3 dl dg de=>?_)) ?hs ?hw ?he
   case hs=>intro _;rfl
   case hw=>intro _;rfl
   case he=>intro _;rfl
   refine ⟨y,_,rfl,Sto.at_set,?_⟩
   refine rwG (Sto.del_set (by unfold sput cellR;(refine rwG (Sto.at_ne y1) ?_;refine rwG (Sto.at_ne y2) ?_);exact y3)) ?_
   refine WAsg.cell (c:=cD) (o:=some (.ref x)) (by simp) rfl (by unfold sput cellR;refine rwG (Sto.at_ne hs) ?_;exact Sto.at_set) ?_
   refine rwG (sput_put hs) ?_
   refine Then.next (WS.nil ?_)
   refine LoopQ.next _ (by (intro p hp;first | exact hp | exact .tail _ hp | exact .tail _ (.tail _ hp) | exact .tail _ (.tail _ (.tail _ hp)) | exact .tail _ (.tail _ (.tail _ (.tail _ hp))))) ⟨ds++[d]++ds',st₂,rfl,(fun _ h=>nomatch h),hd2 ds' dg,by (refine rwG List.length_append ?_;refine rwG List.length_append ?_);simp at hl ⊢;exact lin2 dl hl (by simp +arith only),by simp at hln ⊢;lia,.last rfl ?_⟩
   unfold cellR topR
   refine rwG Sto.set_set ?_;rfl
  ·refine W1.assign (law_add hn hs hx hxD hx0 ok (by refine rwG List.length_append ?_;simp;exact lx' hl) (hj j (.head _)) (by lia) (.tail _ (.head _)) (.head _) fun ds' st₂ y y1 y2 y3 dl dg de=>?_) ?hs ?hw ?he
   case hs=>intro _;rfl
   case hw=>intro _;rfl
   case he=>intro _;rfl
   refine WAsg.cell (c:=cD) (o:=some (.ref x)) (by simp) rfl (by unfold sput cellR;(refine rwG (Sto.at_ne (Ne.symm y2)) ?_;refine rwG (Sto.at_ne hs) ?_);exact Sto.at_set) ?_
   refine Then.next (WS.nil ?_)
   refine LoopQ.next _ (by (intro p hp;first | exact hp | exact .tail _ hp | exact .tail _ (.tail _ hp) | exact .tail _ (.tail _ (.tail _ hp)) | exact .tail _ (.tail _ (.tail _ (.tail _ hp))))) ⟨ds++[d]++ds',st₂,rfl,fun i hi=>hj i (.tail _ hi),hd2 ds' dg,by (refine rwG List.length_append ?_;refine rwG List.length_append ?_);simp at hl ⊢;exact lin2 hl dl (by simp +arith only),by lia,.more y hr y1 y2 y3 ?_⟩
   refine rwG (sput_put y1) ?_;refine rwG (sput_put hs) ?_
   unfold cellR listR cellR
   refine rwG (Sto.set_comm y2) ?_;refine rwG Sto.set_set ?_;rfl
end
section
variable {n:Nat} {σ:Sto} {Q:D→Sto→Prop} {E:Exn→Sto→Prop}
theorem Sub'.put {τ:Sto} (h:Sub' τ σ) {a:Addr} {x:AObj} (e:τ a=Option.none):Sub' τ (σ.set a x):=fun b y hb=>by
 unfold Sto.set
 split
 ·rename_i q;rw [q,e] at hb;cases hb
 ·exact h b y hb
theorem Sub'.cut {τ:Sto} (h:Sub' τ σ) {a:Addr} (e:τ a=Option.none):Sub' τ (σ.del a):=fun b y hb=>by
 unfold Sto.del
 split
 ·rename_i q;rw [q,e] at hb;cases hb
 ·exact h b y hb
section
variable {cB cC cD c s:Addr} {SC:D} {τ:Sto}
theorem law_tables (hn:n < 800) {R:Out→Loc→Sto→Prop}
  (h:∀a b,WS G (kL n cB cC cD c) [(S_ "tables",.dct tabT),(S_ "statements",.ref b),(S_ "nodes",.ref a),(S_ "strip",.ref s),(S_ "script",SC)] τ ((sBody (stAt 109 0)).drop 8) R E):
  WS G (kL n cB cC cD c) [(S_ "strip",.ref s),(S_ "script",SC)] τ ((sBody (stAt 109 0)).drop 3) R E:=by
 refine WS.cons ?_
 ((with_reducible refine W1.assign ?_ ?hs1 ?hw1 ?he1);(case hs1=>first | (intro _;rfl) | (intro _ _;rfl) | rfl | decide +kernel);(case hw1=>first | (intro _;rfl) | (intro _ _;rfl) | rfl | decide +kernel);(case he1=>first | (intro _;rfl) | (intro _ _;rfl) | rfl | decide +kernel);(with_reducible refine WE.callD (i:=?i2) ?hi2 ?hk2 ?hd2 ?_ ?hp2);(case hi2=>exact d_name_gens);(case hk2=>first | rfl | decide +kernel);(case hd2=>decide +kernel);(case hp2=>first | (intro _;rfl) | (intro _ _;rfl) | rfl | decide +kernel);(with_reducible refine WA.nil ?_))
 refine c_name_gens (by refine (?_:n < 970);exact Nat.lt_of_lt_of_le hn (Nat.le_of_ble_eq_true rfl)) fun a ha=>?_
 have S1:Sub' τ (τ.set a (.dict (nodesT.take 8))):=Sub'.refl.put ha
 ((with_reducible refine WAsg.new ?hk4 ?hd4 ?hf4 ?_);(case hk4=>first | rfl | decide +kernel);(case hd4=>decide +kernel);(case hf4=>rfl);(with_reducible refine Then.next ?_);(with_reducible refine WS.cons ?_);(with_reducible refine W1.expr ?_ ?hs7);(case hs7=>first | (intro _;rfl) | (intro _ _;rfl) | rfl | decide +kernel);(with_reducible refine WE.mupdate ?_ ?hb8 ?hf8 ?hl8 ?hp8);(case hb8=>first | (intro _;rfl) | (intro _ _;rfl) | rfl | decide +kernel);(case hf8=>first | (intro _;rfl) | (intro _ _;rfl) | rfl | decide +kernel);(case hl8=>first | (intro _;rfl) | (intro _ _;rfl) | rfl | decide +kernel);(case hp8=>first | (intro _;rfl) | (intro _ _;rfl) | rfl | decide +kernel);(with_reducible refine WE.var (d:=?d9) ?hm9 ?_);(case hm9=>(exact List.mem_cons_self)))
 refine ⟨a,_,rfl,Sto.at_set,?_⟩
 ((with_reducible refine WA.cons ?_ ?he10);(case he10=>first | (intro _;rfl) | (intro _ _;rfl) | rfl | decide +kernel);(with_reducible refine WE.callD (i:=?i11) ?hi11 ?hk11 ?hd11 ?_ ?hp11);(case hi11=>exact d_call_gens);(case hk11=>first | rfl | decide +kernel);(case hd11=>decide +kernel);(case hp11=>first | (intro _;rfl) | (intro _ _;rfl) | rfl | decide +kernel);(with_reducible refine WA.nil ?_))
 refine c_call_gens (by refine (?_:n < 970);exact Nat.lt_of_lt_of_le hn (Nat.le_of_ble_eq_true rfl)) fun b hb=>?_
 have hb0:=S1.none hb
 have nb:b≠a:=(Sto.set_none hb).1
 have S2:=S1.put (x:=.dict callT) hb0
 ((with_reducible refine WA.nil ?_))
 refine ⟨b,nodesT.take 8,callT,rfl,(Sto.at_ne (Ne.symm nb)).trans Sto.at_set,Sto.at_set,Ne.symm nb,by decide +kernel,by decide,?_⟩
 refine rwG nodesT_join ?_
 have S3:=S2.put (x:=.dict nodesT) ha
 have A3:((τ.set a (.dict (nodesT.take 8))).set b (.dict callT)).set a (.dict nodesT) a=some (.dict nodesT):=Sto.at_set
 generalize hσ:((τ.set a (.dict (nodesT.take 8))).set b (.dict callT)).set a (.dict nodesT)=σ₁ at S3 A3 ⊢
 clear hσ S1 S2 hb hb0 nb
 ((with_reducible refine Then.next ?_);(with_reducible refine WS.cons ?_);(with_reducible refine W1.assign ?_ ?hs16 ?hw16 ?he16);(case hs16=>first | (intro _;rfl) | (intro _ _;rfl) | rfl | decide +kernel);(case hw16=>first | (intro _;rfl) | (intro _ _;rfl) | rfl | decide +kernel);(case he16=>first | (intro _;rfl) | (intro _ _;rfl) | rfl | decide +kernel);(with_reducible refine WE.callD (i:=?i17) ?hi17 ?hk17 ?hd17 ?_ ?hp17);(case hi17=>exact d_plain_gens);(case hk17=>first | rfl | decide +kernel);(case hd17=>decide +kernel);(case hp17=>first | (intro _;rfl) | (intro _ _;rfl) | rfl | decide +kernel);(with_reducible refine WA.nil ?_))
 refine c_plain_gens (by refine (?_:n < 970);exact Nat.lt_of_lt_of_le hn (Nat.le_of_ble_eq_true rfl)) fun d hd=>?_
 have hd0:=S3.none hd
 have nd:d≠a:=fun e=>by rw [e,A3] at hd;cases hd
 have S4:=S3.put (x:=.dict (stmtsT.take 9)) hd0
 have A4:(σ₁.set d (.dict (stmtsT.take 9))) a=some (.dict nodesT):=(Sto.at_ne (Ne.symm nd)).trans A3
 ((with_reducible refine WAsg.new ?hk19 ?hd19 ?hf19 ?_);(case hk19=>first | rfl | decide +kernel);(case hd19=>decide +kernel);(case hf19=>rfl);(with_reducible refine Then.next ?_);(with_reducible refine WS.cons ?_);(with_reducible refine W1.expr ?_ ?hs22);(case hs22=>first | (intro _;rfl) | (intro _ _;rfl) | rfl | decide +kernel);(with_reducible refine WE.mupdate ?_ ?hb23 ?hf23 ?hl23 ?hp23);(case hb23=>first | (intro _;rfl) | (intro _ _;rfl) | rfl | decide +kernel);(case hf23=>first | (intro _;rfl) | (intro _ _;rfl) | rfl | decide +kernel);(case hl23=>first | (intro _;rfl) | (intro _ _;rfl) | rfl | decide +kernel);(case hp23=>first | (intro _;rfl) | (intro _ _;rfl) | rfl | decide +kernel);(with_reducible refine WE.var (d:=?d24) ?hm24 ?_);(case hm24=>(exact List.mem_cons_self)))
 refine ⟨d,_,rfl,Sto.at_set,?_⟩
 ((with_reducible refine WA.cons ?_ ?he25);(case he25=>first | (intro _;rfl) | (intro _ _;rfl) | rfl | decide +kernel);(with_reducible refine WE.callD (i:=?i26) ?hi26 ?hk26 ?hd26 ?_ ?hp26);(case hi26=>exact d_call_statement_gens);(case hk26=>first | rfl | decide +kernel);(case hd26=>decide +kernel);(case hp26=>first | (intro _;rfl) | (intro _ _;rfl) | rfl | decide +kernel);(with_reducible refine WA.nil ?_))
 refine c_call_statement_gens (by refine (?_:n < 970);exact Nat.lt_of_lt_of_le hn (Nat.le_of_ble_eq_true rfl)) fun e he=>?_
 have he0:=S4.none he
 have ne:e≠d:=(Sto.set_none he).1
 have nea:e≠a:=fun q=>by rw [q,A4] at he;cases he
 have S5:=S4.put (x:=.dict pcallT) he0
 have A5:((σ₁.set d (.dict (stmtsT.take 9))).set e (.dict pcallT)) a=some (.dict nodesT):=(Sto.at_ne (Ne.symm nea)).trans A4
 ((with_reducible refine WA.nil ?_))
 refine ⟨e,stmtsT.take 9,pcallT,rfl,(Sto.at_ne (Ne.symm ne)).trans Sto.at_set,Sto.at_set,Ne.symm ne,by decide +kernel,by decide,?_⟩
 refine rwG stmtsT_join ?_
 have S6:=S5.put (x:=.dict stmtsT) hd0
 have A6:(((σ₁.set d (.dict (stmtsT.take 9))).set e (.dict pcallT)).set d (.dict stmtsT)) a=some (.dict nodesT):=(Sto.at_ne (Ne.symm nd)).trans A5
 have D6:(((σ₁.set d (.dict (stmtsT.take 9))).set e (.dict pcallT)).set d (.dict stmtsT)) d=some (.dict stmtsT):=Sto.at_set
 generalize hσ:((σ₁.set d (.dict (stmtsT.take 9))).set e (.dict pcallT)).set d (.dict stmtsT)=σ₂ at S6 A6 D6 ⊢
 clear hσ S4 S5 he he0 ne nea A4 A5 hd A3 S3
 refine Then.next (WS.cons (W1.assign ?_ ?hs ?hw ?he))
 case hs=>intro _;rfl
 case hw=>intro _;rfl
 case he=>intro _;rfl
 refine WX.forget (WX.frzD ?_)
 refine WE.dct ?ha ?hb ?hc ?hd ?_
 case ha=>rfl
 case hb=>rfl
 case hc=>intro e;cases e
 case hd=>exact Nat.le_of_ble_eq_true rfl
 refine WD.cons (WX.frzD ?_)
 ((with_reducible refine WE.var (d:=?d29) ?hm29 ?_);(case hm29=>((refine List.mem_cons_of_mem _ ?_);exact List.mem_cons_self)))
 refine ⟨a,_,rfl,A6,?_⟩
 refine WD.cons (WX.frzD ?_)
 ((with_reducible refine WE.callD (i:=?i30) ?hi30 ?hk30 ?hd30 ?_ ?hp30);(case hi30=>exact d_place_gens);(case hk30=>first | rfl | decide +kernel);(case hd30=>decide +kernel);(case hp30=>first | (intro _;rfl) | (intro _ _;rfl) | rfl | decide +kernel);(with_reducible refine WA.nil ?_))
 refine c_place_gens (by refine (?_:n < 970);exact Nat.lt_of_lt_of_le hn (Nat.le_of_ble_eq_true rfl)) fun p hp=>?_
 have hp1:σ₂ p=none∨p=a:=by
  by_cases q:p=a
  ·exact .inr q
  ·unfold Sto.del at hp;rw [if_neg q] at hp;exact .inl hp
 have hp0:τ p=none:=by
  rcases hp1 with q | q
  ·exact S6.none q
  ·refine rwG q ?_;exact ha
 have npd:p≠d:=fun q=>by
  rcases hp1 with r | r
  ·rw [q,D6] at r;cases r
  ·exact nd (q.symm.trans r)
 refine ⟨p,_,rfl,Sto.at_set,?_⟩
 refine rwG (Sto.del_set hp) ?_
 refine WD.cons (WX.frzD ?_)
 ((with_reducible refine WE.var (d:=?d32) ?hm32 ?_);(case hm32=>(exact List.mem_cons_self)))
 refine ⟨d,_,rfl,by unfold Sto.del;refine rwG (if_neg nd) ?_;exact D6,?_⟩
 refine WD.cons (WX.frzD ?_)
 ((with_reducible refine WE.callD (i:=?i33) ?hi33 ?hk33 ?hd33 ?_ ?hp33);(case hi33=>exact d_declaration_gens);(case hk33=>first | rfl | decide +kernel);(case hd33=>decide +kernel);(case hp33=>first | (intro _;rfl) | (intro _ _;rfl) | rfl | decide +kernel);(with_reducible refine WA.nil ?_))
 refine c_declaration_gens (by refine (?_:n < 970);exact Nat.lt_of_lt_of_le hn (Nat.le_of_ble_eq_true rfl)) fun r hr=>?_
 have S7:=((S6.cut ha).cut hd0)
 refine ⟨r,_,rfl,Sto.at_set,?_⟩
 refine rwG (Sto.del_set hr) ?_
 refine WD.nil ?_
 refine ⟨by decide +kernel,fun t ht=>?_⟩
 refine ⟨t,_,rfl,Sto.at_set,τ,?_,?_⟩
 ·refine rwG (Sto.del_set ht) ?_;exact S7
 ·refine WAsg.new rfl (by decide +kernel) rfl ?_
  exact Then.next (h a d)
theorem law_code (C:Consts G) (hn:n < 700) {Γ:Loc} (hΓ:(S_ "tables",D.dct tabT)∈Γ) {ds:List Dc} (hd:∀d∈ds,tops1 d) (hl:ds.length≤11) {oC:Option D} (fD:τ cD=some (.cell (some (.lst (encDs ds))))) (fC:τ cC=some (.cell oC)) {R:Out→Loc→Sto→Prop}
  (h:R .next Γ (τ.set cC (.cell (some (.ins 8 (codeF (rowsM (endM ds (sN 0)) ds (sN 0)) .none (codesDs ds))))))) {stm:Stmt} (hst:(sBody (stAt 109 0))[8]?=some stm):W1 G (kL n cB cC cD c) Γ τ stm R E:=by
 cases hst
 refine W1.assign ?_ ?hs ?hw ?he
 case hs=>intro _;rfl
 case hw=>intro _;rfl
 case he=>intro _;rfl
 refine WE.callD d_program_code rfl (by decide +kernel) ?_ (by intro _;rfl)
 refine WA.cons (WE.var hΓ ?_) (by intro _;rfl)
 refine WA.cons (WE.cellv (c:=cD) (by simp) fD ?_) (by intro _;rfl)
 ((with_reducible refine WA.cons ?_ ?he35);(case he35=>first | (intro _;rfl) | (intro _ _;rfl) | rfl | decide +kernel);(with_reducible refine WE.str ?_);(with_reducible refine WA.nil ?_))
 refine rwG (show (S_ "s#0":Str)=sN 0 by decide +kernel) ?_
 have hb:big=2 ^ 20:=rfl
 have hr:=tops_rows hd (by exact Nat.le_trans hl (Nat.le_of_ble_eq_true rfl)) 0
 refine c_program C (k:=2) (fun d h=>(tops1_good (hd d h)).2.1) (by lia) (by refine (?_:n + 6 * 2 + 3 < 800);exact lin1 hn (by simp +arith only)) ?_
 exact WAsg.cell (c:=cC) (by simp) rfl fC h
end
end
section
variable {n:Nat} {σ:Sto} {Q:D→Sto→Prop} {E:Exn→Sto→Prop}
theorem W1.assignS {k:Sk} {Γ:Loc} {t value:Expr} {pos:Pos} {Q:Out→Loc→Sto→Prop} (h:WE G k Γ σ value (fun d σ₁=>WAsg G k Γ σ₁ t d (Q .next) E) E) (hs:∀env:Env,env.scope=k.sc→swapsWith value (some t) pos.line env=pure false)
  (hw:∀env,swappedStores [t] value env=pure none) (he:∀env,(assignEach [t] env).map (·.2)=[PySem.assign t env]):W1 G k Γ σ (.Assign [t] value pos) Q E:=fun X hX φ s R=>by
 refine wpAny_Assign_stores (then_ (h X hX φ s R) (fun φ₁ σ₁ d v s₁ l₁ R₁ V q=>?_) fun _ _ x=>x) (hs _ hX.scope) (hw _)
 rw [he]
 refine thA (q X hX φ₁ s₁ R₁ v V) (fun _ s₂ φ₂ σ₂ Γ₂ l₂ R₂ q₂=>?_) fun _ _ x=>x.le l₁
 exact ⟨φ₂,σ₂,Γ₂,.next,l₁.trans l₂,R₂,.next,q₂⟩
theorem WC.at {f:D} {args:List D} {σ':Sto} (e:σ=σ') (h:WC G n f args σ' Q E):WC G n f args σ Q E:=e▸h
noncomputable def d0:Dd:=⟨[],by decide⟩
noncomputable def Free (τ:Sto) (a:BA):Prop:=τ a.b=none∧τ a.dl=none∧τ a.ld=none
theorem mk_book {dl ld b:Addr} (h1:ld≠dl) (h2:b≠dl) (h3:b≠ld):((σ.set dl (.list [])).set ld (.dict [])).set b (.dict [(S_ "deeds",.ref dl),(S_ "laid",.ref ld)])=bput σ ⟨b,dl,ld⟩ d0 []:=by
 funext c
 unfold bput Sto.set
 by_cases e1:c=b
 ·simp [e1]
 ·by_cases e2:c=dl
  ·subst e2;simp [e1,Ne.symm h1,Ne.symm h2];rfl
  ·by_cases e3:c=ld
   ·subst e3;simp [e1,e2]
   ·simp [e1,e2,e3]
structure Two (τ:Sto) (a a':BA):Prop where
 ok:BOk a
 ok':BOk a'
 f:Free τ a
 f':Free (bput τ a d0 []) a'
noncomputable def books (τ:Sto) (a a':BA):Sto:=bput (bput τ a d0 []) a' d0 []
section
variable {cB cC cD c:Addr} {τ:Sto}
inductive BooksI (τ:Sto) (ds acc:List D) (σ':Sto):Prop
 | zero:ds.length=2→acc=[]→σ'=τ→BooksI τ ds acc σ'
 | one (a:BA):ds.length=1→BOk a→Free τ a→acc=[.ref a.b]→σ'=bput τ a d0 []→BooksI τ ds acc σ'
 | two (a a':BA):ds.length=0→Two τ a a'→acc=[.ref a.b,.ref a'.b]→σ'=books τ a a'→BooksI τ ds acc σ'
theorem law_books {Γ:Loc} {oB:Option D} (fB:τ cB=some (.cell oB)) {R:Out→Loc→Sto→Prop} (h:∀a a',Two τ a a'→R .next Γ ((books τ a a').set cB (.cell (some (.lst [.ref a.b,.ref a'.b]))))) {stm:Stmt} (hst:(sBody (stAt 109 0))[9]?=some stm):
  W1 G (kL n cB cC cD c) Γ τ stm R E:=by
 cases hst
 refine W1.assignS ?_ ?hs ?hw ?he
 case hs=>
  intro env he
  unfold swapsWith Env.blockKind Env.kindOf
  refine rwG he ?_
  rfl
 case hw=>intro _;rfl
 case he=>intro _;rfl
 refine WE.comp [] ?ck (BooksI τ) ?h ?hstep ?hend ?hs2
 case ck=>exact ⟨rfl,by decide +kernel,by decide +kernel,rfl,by decide +kernel,fun q hq hf=>absurd hf ((by decide +kernel:∀q∈[(S_ ".0",NameKind.local),(S_ "_",NameKind.local)],q.2≠.free) q hq),fun q hq=>nomatch hq⟩
 case hs2=>intro _ _;rfl
 case h=>
  ((with_reducible refine WE.bcall (v:=?v1) ?hi1 ?hk1 ?hd1 ?_ ?hp1);(case hi1=>exact b_range);(case hk1=>first | rfl | decide +kernel);(case hd1=>decide +kernel);(case hp1=>first | (intro _;rfl) | (intro _ _;rfl) | rfl | decide +kernel);(with_reducible refine WA.cons ?_ ?he2);(case he2=>first | (intro _;rfl) | (intro _ _;rfl) | rfl | decide +kernel);(with_reducible refine WE.int ?_);(with_reducible refine WA.nil ?_))
  refine CallB.range ?_
  exact ⟨_,.rng (by decide) (by decide),by refine rwG sizeLine_eq ?_;decide,.zero rfl rfl rfl⟩
 case hstep=>
  rintro d ds acc σ₀ hh
  refine WE.dct ?ha ?hb ?hc ?hd ?_
  case ha=>rfl
  case hb=>rfl
  case hc=>intro e;cases e
  case hd=>exact Nat.le_of_ble_eq_true rfl
  refine WD.cons (WE.lstN (WA.nil ?_))
  refine ⟨Nat.zero_le _,fun dl hdl=>?_⟩
  refine WD.cons (WE.dctNil fun ld hld=>?_)
  refine WD.nil ?_
  refine ⟨by refine (?_:[S_ "deeds",S_ "laid"].Nodup);decide +kernel,fun b hb=>?_⟩
  refine ex02 (Sto.set_none hld) ?_;intro n1 hld0
  refine ex02 (Sto.set_none hb) ?_;intro n2 hb1
  refine ex02 (Sto.set_none hb1) ?_;intro n3 hb0
  refine rwG (mk_book n1 n3 n2) ?_
  have ok:BOk ⟨b,dl,ld⟩:=⟨Ne.symm n3,Ne.symm n2,n1⟩
  have fr:Free σ₀ ⟨b,dl,ld⟩:=⟨hb0,hdl,hld0⟩
  rcases hh with ⟨e1,rfl,rfl⟩ | ⟨a,e1,oka,fa,rfl,rfl⟩ | ⟨_,_,e1,_⟩
  ·exact .one _ (Nat.succ.inj e1) ok fr rfl rfl
  ·exact .two a _ (Nat.succ.inj e1) ⟨oka,ok,fa,fr⟩ rfl rfl
  ·cases e1
 case hend=>
  rintro acc σ₀ hh
  rcases hh with ⟨e1,_⟩ | ⟨_,e1,_⟩ | ⟨a,a',_,T,rfl,rfl⟩
  ·cases e1
  ·cases e1
  ·have ne:∀x,τ x=none→cB≠x:=fun x hx e=>by rw [e,hx] at fB;cases fB
   have f1:bput τ a d0 [] cB=some (.cell oB):=(bput_other (ne _ T.f.1) (ne _ T.f.2.1) (ne _ T.f.2.2)).trans fB
   have ne':∀x,bput τ a d0 [] x=none→cB≠x:=fun x hx e=>by rw [e,hx] at f1;cases f1
   refine WAsg.cell (c:=cB) (o:=oB) (by exact List.mem_cons_self) rfl ((bput_other (ne' _ T.f'.1) (ne' _ T.f'.2.1) (ne' _ T.f'.2.2)).trans f1) (h a a' T)
noncomputable def tab1 (c':Addr):Array Value:=#[rawInt ((634:Nat):Int),rawInt ((20:Nat):Int),.ref c']
theorem law_told (hn:n < 700) {P:Addr} (L:LamOk G c P) {a a':BA} (ok:BOk a) {ds:List Dc} (hd:∀d∈ds,tops1 d) (hl:ds.length≤11) {Γ:Loc} (hΓ:(Γ.all fun q=>q.1 != S_ "told")=true)
  (nB:cB≠P) (nC:cC≠P) (na:P≠a.b∧P≠a.dl∧P≠a.ld)
  (fB:τ cB=some (.cell (some (.lst [.ref a.b,.ref a'.b])))) (fC:τ cC=some (.cell (some (.ins 8 (codeF (rowsM (endM ds (sN 0)) ds (sN 0)) .none (codesDs ds)))))) (fP:τ P=some (.tab #[]))
  (b1:τ a.b=some (.dict [(S_ "deeds",.ref a.dl),(S_ "laid",.ref a.ld)])) (b2:τ a.dl=some (.list [])) (b3:τ a.ld=some (.dict [])) {R:Out→Loc→Sto→Prop}
  (h:∀c' t d es,(t,d)=outcome (program 3 ds (sN 0)) d0→R .next ((S_ "told",.str t)::Γ) (bput (τ.set P (.tab (tab1 c'))) a d es)) {stm:Stmt} (hst:(sBody (stAt 109 0))[10]?=some stm):
  W1 G (kL n cB cC cD c) Γ τ stm R E:=by
 cases hst
 refine W1.assign ?_ ?hs ?hw ?he
 case hs=>intro _;rfl
 case hw=>intro _;rfl
 case he=>intro _;rfl
 refine WE.callD d_law_how rfl (by decide +kernel) ?_ (by intro _;rfl)
 refine WA.cons (WE.lam (P:=P) (ps:=#[]) rfl L fP trivial rfl ?_ fun c'=>?_) (by intro _;rfl)
 ·intro q hq hf
  simp only [List.mem_cons,List.mem_nil_iff,or_false] at hq
  rcases hq with rfl | rfl | rfl
  ·exact ⟨cB,rfl⟩
  ·exact ⟨cC,rfl⟩
  ·cases hf
 refine WA.nil ?_
 refine rwG (show clOf (kL n cB cC cD c).cells _ []=[(S_ "code",cC),(S_ "books",cB)] from rfl) ?_
 have hrow:=tops_rows hd (by exact Nat.le_trans hl (Nat.le_of_ble_eq_true rfl)) (endM ds (sN 0))
 change WC G n _ _ (τ.set P (.tab (tab1 c'))) _ _
 have fin:∀t d es,(t,d)=outcome (program 3 ds (sN 0)) d0→WAsg G (kL n cB cC cD c) Γ (bput (τ.set P (.tab (tab1 c'))) a d es) (.Name (S_ "told") { line:=634,col:=4,endLine:=634,endCol:=8 }) (.str t) (R .next) E:=
  fun t d es e=>WAsg.new rfl (by decide +kernel) hΓ (h c' t d es e)
 refine c_how (E₀:=fun e σ'=>∃d es,(wordE e,d)=outcome (program 3 ds (sN 0)) d0∧σ'=bput (τ.set P (.tab (tab1 c'))) a d es) (by exact Nat.lt_of_lt_of_le hn (Nat.le_of_ble_eq_true rfl)) ?_ ?_
 ·refine WC.clo (by exact dn _ hn) rfl rfl rfl (by decide +kernel) ?_ ?_
  ·intro p hp
   simp only [List.mem_cons,List.mem_nil_iff,or_false] at hp
   rcases hp with rfl | rfl
   ·exact ⟨rfl,rfl,by refine (?_:(S_ "code"==S_ "__classdict__")=false);decide +kernel,by refine (?_:(S_ "code"==S_ "__debug__")=false);decide +kernel⟩
   ·exact ⟨rfl,rfl,by refine (?_:(S_ "books"==S_ "__classdict__")=false);decide +kernel,by refine (?_:(S_ "books"==S_ "__debug__")=false);decide +kernel⟩
  ·refine WE.callD d_law_played rfl (by decide +kernel) ?_ (by intro _;rfl)
   refine WA.cons ?_ (by intro _;rfl)
   refine WE.sub (WE.cellv (c:=cB) (by simp) ((Sto.at_ne nB).trans fB) ?_)
   ((with_reducible refine WE.int ?_))
   refine ⟨_,.lstAt (by decide) (by decide) rfl,?_⟩
   refine WA.cons (WE.cellv (c:=cC) (by exact List.mem_cons_self) ((Sto.at_ne nC).trans fC) ?_) (by intro _;rfl)
   refine WA.nil ?_
   have eta:τ.set P (.tab (tab1 c'))=bput (τ.set P (.tab (tab1 c'))) a d0 []:=bput_eta ((Sto.at_ne (Ne.symm na.1)).trans b1) ((Sto.at_ne (Ne.symm na.2.1)).trans b2) ((Sto.at_ne (Ne.symm na.2.2)).trans b3)
   refine WC.at eta ?_
   refine c_playmain (σ:=τ.set P (.tab (tab1 c'))) (fun d h=>(tops1_good (hd d h)).1) ok (Err:=fun e d'=>(wordE e,d')=outcome (program 3 ds (sN 0)) d0) (fun e d' es q=>⟨d',es,q,rfl⟩) (by exact Nat.le_trans hl (Nat.le_of_ble_eq_true rfl)) ?_ (by refine (?_:n + 1 + 1 < 790);exact lin1 hn (by simp +arith only)) (wpM_mono wp_outcome (fun _ d' q l'=>?_) fun _ _ q=>q)
   ·refine (?_:(rowsDs (endM ds (sN 0)) 0 ds++tailW (sN 0)).length≤_)
    refine rwG List.length_append ?_
    have:(tailW (sN 0)).length=5:=rfl
    lia
   ·exact fin _ _ _ q
 ·rintro e σ' ⟨d,es,q,rfl⟩
  exact fin _ _ _ q
end
end
section
variable {n:Nat} {σ:Sto} {Q:D→Sto→Prop} {E:Exn→Sto→Prop}
noncomputable def tab2 (c' c'':Addr):Array Value:=tab1 c'++#[rawInt ((635:Nat):Int),rawInt ((19:Nat):Int),.ref c'']
section
variable {cB cC cD c:Addr} {τ:Sto}
theorem law_due (hn:n < 700) {P c₁:Addr} (L:LamOk G c P) {a a':BA} (ok:BOk a') {ds:List Dc} (hd:∀d∈ds,tops1 d) (hl:ds.length≤11) {Γ:Loc} (hΓ:(Γ.all fun q=>q.1 != S_ "due")=true)
  (nB:cB≠P) (nD:cD≠P) (na:P≠a'.b∧P≠a'.dl∧P≠a'.ld)
  (fB:τ cB=some (.cell (some (.lst [.ref a.b,.ref a'.b])))) (fD:τ cD=some (.cell (some (.lst (encDs ds))))) (fP:τ P=some (.tab (tab1 c₁)))
  (b1:τ a'.b=some (.dict [(S_ "deeds",.ref a'.dl),(S_ "laid",.ref a'.ld)])) (b2:τ a'.dl=some (.list [])) (b3:τ a'.ld=some (.dict [])) {R:Out→Loc→Sto→Prop}
  (h:∀c' t d es,(t,d)=outcome (program 3 ds (sN 0)) d0→R .next ((S_ "due",.str t)::Γ) (bput (τ.set P (.tab (tab2 c₁ c'))) a' d es)) {stm:Stmt} (hst:(sBody (stAt 109 0))[11]?=some stm):
  W1 G (kL n cB cC cD c) Γ τ stm R E:=by
 cases hst
 refine W1.assign ?_ ?hs ?hw ?he
 case hs=>intro _;rfl
 case hw=>intro _;rfl
 case he=>intro _;rfl
 refine WE.callD d_law_how rfl (by decide +kernel) ?_ (by intro _;rfl)
 refine WA.cons (WE.lam (P:=P) (ps:=tab1 c₁) rfl L fP trivial rfl ?_ fun c'=>?_) (by intro _;rfl)
 ·intro q hq hf
  simp only [List.mem_cons,List.mem_nil_iff,or_false] at hq
  rcases hq with rfl | rfl | rfl
  ·exact ⟨cB,rfl⟩
  ·exact ⟨cD,rfl⟩
  ·cases hf
 refine WA.nil ?_
 refine rwG (show clOf (kL n cB cC cD c).cells _ []=[(S_ "decls",cD),(S_ "books",cB)] from rfl) ?_
 change WC G n _ _ (τ.set P (.tab (tab2 c₁ c'))) _ _
 have fin:∀t d es,(t,d)=outcome (program 3 ds (sN 0)) d0→WAsg G (kL n cB cC cD c) Γ (bput (τ.set P (.tab (tab2 c₁ c'))) a' d es) (.Name (S_ "due") { line:=635,col:=4,endLine:=635,endCol:=7 }) (.str t) (R .next) E:=
  fun t d es e=>WAsg.new rfl (by decide +kernel) hΓ (h c' t d es e)
 refine c_how (E₀:=fun e σ'=>∃d es,(wordE e,d)=outcome (program 3 ds (sN 0)) d0∧σ'=bput (τ.set P (.tab (tab2 c₁ c'))) a' d es) (by exact Nat.lt_of_lt_of_le hn (Nat.le_of_ble_eq_true rfl)) ?_ ?_
 ·refine WC.clo (by exact dn _ hn) rfl rfl rfl (by decide +kernel) ?_ ?_
  ·intro p hp
   simp only [List.mem_cons,List.mem_nil_iff,or_false] at hp
   rcases hp with rfl | rfl
   ·exact ⟨rfl,rfl,by refine (?_:(S_ "decls"==S_ "__classdict__")=false);decide +kernel,by refine (?_:(S_ "decls"==S_ "__debug__")=false);decide +kernel⟩
   ·exact ⟨rfl,rfl,by refine (?_:(S_ "books"==S_ "__classdict__")=false);decide +kernel,by refine (?_:(S_ "books"==S_ "__debug__")=false);decide +kernel⟩
  ·refine WE.callD d_law_program rfl (by decide +kernel) ?_ (by intro _;rfl)
   refine WA.cons ?_ (by intro _;rfl)
   refine WE.sub (WE.cellv (c:=cB) (by simp) ((Sto.at_ne nB).trans fB) ?_)
   ((with_reducible refine WE.int ?_))
   refine ⟨_,.lstAt (by decide) (by decide) rfl,?_⟩
   refine WA.cons (WE.cellv (c:=cD) (by exact List.mem_cons_self) ((Sto.at_ne nD).trans fD) ?_) (by intro _;rfl)
   ((with_reducible refine WA.cons ?_ ?he2);(case he2=>first | (intro _;rfl) | (intro _ _;rfl) | rfl | decide +kernel);(with_reducible refine WE.str ?_);(with_reducible refine WA.nil ?_))
   have eta:τ.set P (.tab (tab2 c₁ c'))=bput (τ.set P (.tab (tab2 c₁ c'))) a' d0 []:=bput_eta ((Sto.at_ne (Ne.symm na.1)).trans b1) ((Sto.at_ne (Ne.symm na.2.1)).trans b2) ((Sto.at_ne (Ne.symm na.2.2)).trans b3)
   refine rwG (show (S_ "s#0":Str)=sN 0 by decide +kernel) ?_
   refine WC.at eta ?_
   refine c_lprogram (σ:=τ.set P (.tab (tab2 c₁ c'))) (fun d h=>(tops1_good (hd d h)).1.1) ok (Err:=fun e d'=>(wordE e,d')=outcome (program 3 ds (sN 0)) d0) (fun e d' es q=>⟨d',es,q,rfl⟩) (by exact Nat.le_trans hl (Nat.le_of_ble_eq_true rfl)) (by refine (?_:n + 1 + 1 < 790);exact lin1 hn (by simp +arith only)) (wpM_mono wp_outcome (fun _ d' q l'=>?_) fun _ _ q=>q)
   exact fin _ _ _ q
 ·rintro e σ' ⟨d,es,q,rfl⟩
  exact fin _ _ _ q
theorem law_return (hn:n < 700) {a a':BA} {Γ:Loc} {t:Str} {d:Dd} (h1:(S_ "told",D.str t)∈Γ) (h2:(S_ "due",D.str t)∈Γ) (ne:a'.b≠a.dl∧a'.dl≠a.dl) (nc:cB≠a.dl) {P:Addr} {ps:Array Value} (nP:P≠a.dl∧P≠a'.dl) (fP:τ P=some (.tab ps))
  (fB:τ cB=some (.cell (some (.lst [.ref a.b,.ref a'.b]))))
  (b1:τ a.b=some (.dict [(S_ "deeds",.ref a.dl),(S_ "laid",.ref a.ld)])) (b2:τ a.dl=some (.list (d.1.map .str)))
  (b1':τ a'.b=some (.dict [(S_ "deeds",.ref a'.dl),(S_ "laid",.ref a'.ld)])) (b2':τ a'.dl=some (.list (d.1.map .str))) {stm:Stmt} (hst:(sBody (stAt 109 0))[12]?=some stm) {rest:List Stmt}:
  W1 G (kL n cB cC cD c) Γ τ stm (Then G (kL n cB cC cD c) rest (Back fun r σ'=>r=.bool true∧∃ps,σ' P=some (.tab ps)) E) E:=by
 cases hst
 refine W1.ret ?_
 refine WE.and2 (WE.cmp (by refine (?_:n≤1000);exact lin1 hn (by simp +arith only)) (WE.var h1 (WE.var h2 ⟨_,.eqS,_,rfl,?_⟩)) (by with_unfolding_all rfl))
 rewrite [beq_self_eq_true];refine rwG (if_pos rfl) ?_
 refine WE.eqL (by refine (?_:n≤1000);exact lin1 hn (by simp +arith only)) (WX.frzL ?_) (by with_unfolding_all rfl)
 refine WE.sub (WE.sub (WE.cellv (c:=cB) (by exact List.mem_cons_self) fB ?_))
 ((with_reducible refine WE.int ?_))
 refine ⟨_,.lstAt (by decide) (by decide) rfl,?_⟩
 ((with_reducible refine WE.str ?_))
 refine ⟨_,.dctM b1 (.head _),?_⟩
 refine ⟨a.dl,_,rfl,b2,?_⟩
 have q1:∀{x:Addr},x≠a.dl→(τ.del a.dl) x=τ x:=fun hx=>if_neg hx
 refine WX.frzL ?_
 refine WE.sub (WE.sub (WE.cellv (c:=cB) (by exact List.mem_cons_self) ((q1 nc).trans fB) ?_))
 ((with_reducible refine WE.int ?_))
 refine ⟨_,.lstAt (by decide) (by decide) rfl,?_⟩
 ((with_reducible refine WE.str ?_))
 refine ⟨_,.dctM ((q1 ne.1).trans b1') (.head _),?_⟩
 refine ⟨a'.dl,_,rfl,(q1 ne.2).trans b2',d.1,rfl,rfl,?_⟩
 ((with_reducible refine Then.ret ?_);(with_reducible refine Back.ret ?_);(with_reducible refine ⟨by simp,?_⟩))
 refine ⟨ps,?_⟩
 unfold Sto.del
 refine rwG (if_neg nP.2) ?_;refine rwG (if_neg nP.1) ?_
 exact fP
end
end
section
variable {n:Nat} {σ:Sto} {Q:D→Sto→Prop} {E:Exn→Sto→Prop}
theorem sep {x y:Addr} {o:AObj} (hx:σ x=some o) (hy:σ y=none):x≠y:=fun e=>by rw [e,hy] at hx;cases hx
theorem pick_mem {ds:List D} {lo hi st:Option Int} {d:D} (h:d∈pick ds lo hi st):d∈ds:=by
 unfold pick at h
 refine ex12 (List.mem_filterMap.mp h) ?_;intro i _ hi
 exact List.mem_of_getElem? hi
theorem pick_len {ds:List D}:(pick ds none (some 70) none).length≤1000:=by
 unfold pick
 refine Nat.le_trans (List.length_filterMap_le _ _) ?_
 unfold sliceBounds sliceRange
 simp only [Option.getD_none]
 have h0:((1:Int) > 0):=by decide
 have h1:¬ ((70:Int) < 0):=by decide
 simp only [if_pos h0,if_neg h1,Int.ediv_one,List.length_map,List.length_range]
 split
 ·lia
 ·decide
theorem law_body (C:Consts G) (hn:n < 600) {cB cC cD c P:Addr} (L:LamOk G c P) {xs:List D} (hi:∀d∈xs,∃i,d=D.int i) (hz:xs.length≤1000) (fB:σ cB=some (.cell none)) (fC:σ cC=some (.cell none)) (fD:σ cD=some (.cell none)) (fP:σ P=some (.tab #[]))
  (n1:cB≠cC) (n2:cB≠cD) (n3:cC≠cD):WS G (kL n cB cC cD c) [(S_ "script",.lst xs)] σ (sBody (stAt 109 0)) (Back fun r σ'=>r=.bool true∧∃ps,σ' P=some (.tab ps)) E:=by
 have nBP:cB≠P:=fun e=>by rw [e,fP] at fB;cases fB
 have nCP:cC≠P:=fun e=>by rw [e,fP] at fC;cases fC
 have nDP:cD≠P:=fun e=>by rw [e,fP] at fD;cases fD
 refine WS.cons (W1.assign ?_ ?hs ?hw ?he)
 case hs=>intro _;rfl
 case hw=>intro _;rfl
 case he=>intro _;rfl
 refine WE.dct ?ha ?hb ?hc ?hd ?_
 case ha=>rfl
 case hb=>rfl
 case hc=>intro e;cases e
 case hd=>exact Nat.le_of_ble_eq_true rfl
 refine WD.cons (WE.sub (WE.var (.head _) ?_))
 ((with_reducible refine WE.slice ?_);(with_reducible refine WP.none ?_);(with_reducible refine WP.some ?_);(with_reducible refine WE.int ?_);(with_reducible refine WP.none ?_))
 refine ⟨_,_,_,.none,.int,.none,?_⟩
 refine ⟨_,.lstS (by decide) (by refine rwG sizeLine_eq ?_;exact Nat.le_trans hz (Nat.le_of_ble_eq_true rfl)),?_⟩
 have ok:ScrOk (pick xs none (some 70) none):=⟨pick_len,fun d hd=>hi d (pick_mem hd)⟩
 generalize pick xs none (some 70) none=scr at ok ⊢
 refine WD.cons (WE.int ?_)
 refine WD.cons (WE.int ?_)
 refine WD.cons (WE.int ?_)
 refine WD.nil ?_
 refine ⟨by refine (?_:[S_ "script",S_ "used",S_ "line",S_ "left"].Nodup);decide +kernel,fun s hs=>?_⟩
 change WAsg G _ _ (sput σ s scr ⟨0,0,16⟩) _ _ _ _
 refine WAsg.new rfl (by decide +kernel) rfl ?_
 refine Then.next ?_
 have nBs:=sep fB hs
 have nCs:=sep fC hs
 have nDs:=sep fD hs
 have nPs:=sep fP hs
 refine WS.cons (law_first (by exact Nat.lt_of_lt_of_le hn (Nat.le_of_ble_eq_true rfl)) nDs fD ok (.head _) rfl (fun ds st' x x1 x2 x3 dl dg de=>?_) rfl)
 refine Then.next ?_
 refine WS.cons (law_for (by exact Nat.lt_of_lt_of_le hn (Nat.le_of_ble_eq_true rfl)) nDs x1 x2 x3 ok dl dg de (fun ds st' dl hd=>?_) rfl)
 refine Then.next ?_
 have hB:sput (topR σ cD ds) s scr st' cB=some (.cell none):=by unfold sput topR;(refine rwG (Sto.at_ne nBs) ?_;refine rwG (Sto.at_ne n2) ?_);exact fB
 have hC:sput (topR σ cD ds) s scr st' cC=some (.cell none):=by unfold sput topR;(refine rwG (Sto.at_ne nCs) ?_;refine rwG (Sto.at_ne n3) ?_);exact fC
 have hD:sput (topR σ cD ds) s scr st' cD=some (.cell (some (.lst (encDs ds)))):=by unfold sput topR;refine rwG (Sto.at_ne nDs) ?_;exact Sto.at_set
 have hP:sput (topR σ cD ds) s scr st' P=some (.tab #[]):=by unfold sput topR;(refine rwG (Sto.at_ne nPs) ?_;refine rwG (Sto.at_ne (Ne.symm nDP)) ?_);exact fP
 generalize sput (topR σ cD ds) s scr st'=τ at hB hC hD hP ⊢
 refine law_tables (by exact Nat.lt_of_lt_of_le hn (Nat.le_of_ble_eq_true rfl)) fun ta tb=>?_
 refine WS.cons (law_code C (by exact Nat.lt_of_lt_of_le hn (Nat.le_of_ble_eq_true rfl)) (.head _) hd dl hD hC ?_ rfl)
 refine Then.next ?_
 have hB2:(τ.set cC (.cell (some (.ins 8 (codeF (rowsM (endM ds (sN 0)) ds (sN 0)) .none (codesDs ds)))))) cB=some (.cell none):=(Sto.at_ne n1).trans hB
 have hC2:(τ.set cC (.cell (some (.ins 8 (codeF (rowsM (endM ds (sN 0)) ds (sN 0)) .none (codesDs ds)))))) cC=some (.cell (some (.ins 8 (codeF (rowsM (endM ds (sN 0)) ds (sN 0)) .none (codesDs ds))))):=Sto.at_set
 have hD2:(τ.set cC (.cell (some (.ins 8 (codeF (rowsM (endM ds (sN 0)) ds (sN 0)) .none (codesDs ds)))))) cD=some (.cell (some (.lst (encDs ds)))):=(Sto.at_ne (Ne.symm n3)).trans hD
 have hP2:(τ.set cC (.cell (some (.ins 8 (codeF (rowsM (endM ds (sN 0)) ds (sN 0)) .none (codesDs ds)))))) P=some (.tab #[]):=(Sto.at_ne (Ne.symm nCP)).trans hP
 generalize τ.set cC (.cell (some (.ins 8 (codeF (rowsM (endM ds (sN 0)) ds (sN 0)) .none (codesDs ds)))))=ρ at hB2 hC2 hD2 hP2 ⊢
 refine WS.cons (law_books hB2 (fun a a' T=>?_) rfl)
 refine Then.next ?_
 obtain ⟨oka,oka',⟨fa1,fa2,fa3⟩,⟨fb1,fb2,fb3⟩⟩:=T
 have up:∀{x:Addr} {o:AObj},ρ x=some o→bput ρ a d0 [] x=some o:=fun {x o} h=>(bput_other (sep h fa1) (sep h fa2) (sep h fa3)).trans h
 have up2:∀{x:Addr} {o:AObj},bput ρ a d0 [] x=some o→books ρ a a' x=some o:=fun {x o} h=>(bput_other (sep h fb1) (sep h fb2) (sep h fb3)).trans h
 have a1:bput ρ a d0 [] a.b=_:=bput_b oka
 have a2:bput ρ a d0 [] a.dl=_:=bput_dl oka
 have a3:bput ρ a d0 [] a.ld=_:=bput_ld oka
 have hC3:=up2 (up hC2)
 have hD3:=up2 (up hD2)
 have hP3:=up2 (up hP2)
 have e1:=up2 a1
 have e2:=up2 a2
 have e3:=up2 a3
 have e1':books ρ a a' a'.b=_:=bput_b oka'
 have e2':books ρ a a' a'.dl=_:=bput_dl oka'
 have e3':books ρ a a' a'.ld=_:=bput_ld oka'
 have nBa:cB≠a.b∧cB≠a.dl∧cB≠a.ld:=⟨sep hB2 fa1,sep hB2 fa2,sep hB2 fa3⟩
 have nPa:P≠a.b∧P≠a.dl∧P≠a.ld:=⟨sep hP2 fa1,sep hP2 fa2,sep hP2 fa3⟩
 have nDa:cD≠a.b∧cD≠a.dl∧cD≠a.ld:=⟨sep hD2 fa1,sep hD2 fa2,sep hD2 fa3⟩
 have nBa':cB≠a'.b∧cB≠a'.dl∧cB≠a'.ld:=⟨sep (up hB2) fb1,sep (up hB2) fb2,sep (up hB2) fb3⟩
 have nPa':P≠a'.b∧P≠a'.dl∧P≠a'.ld:=⟨sep (up hP2) fb1,sep (up hP2) fb2,sep (up hP2) fb3⟩
 have naa:(a'.b≠a.b∧a'.b≠a.dl∧a'.b≠a.ld)∧(a'.dl≠a.b∧a'.dl≠a.dl∧a'.dl≠a.ld)∧(a'.ld≠a.b∧a'.ld≠a.dl∧a'.ld≠a.ld):=
  ⟨⟨(sep a1 fb1).symm,(sep a2 fb1).symm,(sep a3 fb1).symm⟩,⟨(sep a1 fb2).symm,(sep a2 fb2).symm,(sep a3 fb2).symm⟩,⟨(sep a1 fb3).symm,(sep a2 fb3).symm,(sep a3 fb3).symm⟩⟩
 generalize books ρ a a'=ω at hC3 hD3 hP3 e1 e2 e3 e1' e2' e3' ⊢
 have sB:∀{x:Addr} {o:AObj},x≠cB→ω x=some o→(ω.set cB (.cell (some (.lst [.ref a.b,.ref a'.b])))) x=some o:=fun h q=>(Sto.at_ne h).trans q
 refine WS.cons (law_told (by exact Nat.lt_of_lt_of_le hn (Nat.le_of_ble_eq_true rfl)) L oka hd dl rfl nBP nCP nPa Sto.at_set (sB (Ne.symm n1) hC3) (sB (Ne.symm nBP) hP3) (sB (Ne.symm nBa.1) e1) (sB (Ne.symm nBa.2.1) e2) (sB (Ne.symm nBa.2.2) e3) (fun c' t d es ho=>?_) rfl)
 refine Then.next ?_
 have s2:∀{x:Addr} {o:AObj},x≠P→(x≠a.b∧x≠a.dl∧x≠a.ld)→(ω.set cB (.cell (some (.lst [.ref a.b,.ref a'.b])))) x=some o→(bput ((ω.set cB (.cell (some (.lst [.ref a.b,.ref a'.b])))).set P (.tab (tab1 c'))) a d es) x=some o:=fun h1 h2 q=>
  (bput_other h2.1 h2.2.1 h2.2.2).trans ((Sto.at_ne h1).trans q)
 have g1:=s2 nBP nBa Sto.at_set
 have g2:=s2 nDP nDa (sB (Ne.symm n2) hD3)
 have g3:(bput ((ω.set cB (.cell (some (.lst [.ref a.b,.ref a'.b])))).set P (.tab (tab1 c'))) a d es) P=some (.tab (tab1 c')):=(bput_other nPa.1 nPa.2.1 nPa.2.2).trans Sto.at_set
 have g4:=s2 (Ne.symm nPa'.1) naa.1 (sB (Ne.symm nBa'.1) e1')
 have g5:=s2 (Ne.symm nPa'.2.1) naa.2.1 (sB (Ne.symm nBa'.2.1) e2')
 have g6:=s2 (Ne.symm nPa'.2.2) naa.2.2 (sB (Ne.symm nBa'.2.2) e3')
 have k1:(bput ((ω.set cB (.cell (some (.lst [.ref a.b,.ref a'.b])))).set P (.tab (tab1 c'))) a d es) a.b=_:=bput_b oka
 have k2:(bput ((ω.set cB (.cell (some (.lst [.ref a.b,.ref a'.b])))).set P (.tab (tab1 c'))) a d es) a.dl=_:=bput_dl oka
 generalize bput ((ω.set cB (.cell (some (.lst [.ref a.b,.ref a'.b])))).set P (.tab (tab1 c'))) a d es=π at g1 g2 g3 g4 g5 g6 k1 k2 ⊢
 refine WS.cons (law_due (by exact Nat.lt_of_lt_of_le hn (Nat.le_of_ble_eq_true rfl)) L oka' hd dl rfl nBP nDP nPa' g1 g2 g3 g4 g5 g6 (fun c'' t' d' es' ho'=>?_) rfl)
 refine Then.next ?_
 have ht:t'=t∧d'=d:=by
  rw [←ho] at ho'
  cases ho'
  exact ⟨rfl,rfl⟩
 refine ex02 ht ?_;clear ht;rintro rfl rfl
 have s3:∀{x:Addr} {o:AObj},x≠P→(x≠a'.b∧x≠a'.dl∧x≠a'.ld)→π x=some o→(bput (π.set P (.tab (tab2 c' c''))) a' d' es') x=some o:=fun h1 h2 q=>
  (bput_other h2.1 h2.2.1 h2.2.2).trans ((Sto.at_ne h1).trans q)
 refine WS.cons (law_return (t:=t') (by exact Nat.lt_of_lt_of_le hn (Nat.le_of_ble_eq_true rfl)) (.tail _ (.head _)) (.head _) ⟨naa.1.2.1,naa.2.1.2.1⟩ nBa.2.1 (P:=P) (ps:=tab2 c' c'') ⟨nPa.2.1,nPa'.2.1⟩ ((bput_other nPa'.1 nPa'.2.1 nPa'.2.2).trans Sto.at_set) (s3 nBP nBa' g1)
  (s3 (Ne.symm nPa.1) ⟨naa.1.1.symm,naa.2.1.1.symm,naa.2.2.1.symm⟩ k1) (s3 (Ne.symm nPa.2.1) ⟨naa.1.2.1.symm,naa.2.1.2.1.symm,naa.2.2.2.1.symm⟩ k2) (bput_b oka') (bput_dl oka') rfl)
end
section
variable {n:Nat} {σ:Sto} {Q:D→Sto→Prop} {E:Exn→Sto→Prop}
inductive LawObj (φ:Fz) (fa c:Addr):Prop
 | mk (o:Obj) (fd:FuncData) (oc:Obj) (vs:Array Value) (t:Tok):φ fa=some o→o.data=.func fd→fd.params=sParams (stAt 109 0)→fd.body=.stmts (sBody (stAt 109 0))→fd.scope=sScope (stAt 109 0)→fd.closure=[]→
  fd.defaults=.none→fd.globals=mainGlobals→fd.builtins=builtinsNs→fd.code=.ref c→φ c=some oc→oc.data=.fields vs→vs[1]?=some (.str fd.qualname t)→LawObj φ fa c
structure LawFn (G:Glob) (φ:Fz) (fa c P:Addr):Prop where
 obj:LawObj φ fa c
 lam:LamOk G c P
theorem enter_law (C:Consts G) {A:Around} (hA:ACtx n A []) (hn:n < 590) {φ:Fz} {s:Shared} (R:RealC G [] [] φ σ s) {fa c P:Addr} (F:LawFn G φ fa c P) (hP:σ P=some (.tab #[])) {v:Value} {xs:List D} (V:VR G φ v (.lst xs)) (hi:∀d∈xs,∃i,d=D.int i) (hz:xs.length≤1000):
  codeAny (M G) A (.call (.ref fa) ⟨[v],[]⟩) (fun r s'=>∃φ' σ',r=.ok (.ret (.bool true))∧φ.le φ'∧RealC G [] [] φ' σ' s'∧∃ps,σ' P=some (.tab ps)) s:=by
 obtain ⟨o,fd,oc,ws,t,f1,f2,f3,f4,f5,f6,f7,f8,f9,f10,f11,f12,f13⟩:=F.obj
 have hp:∃as ds,sParams (stAt 109 0)=⟨[],as,none,[],[],none,ds⟩∧as.map (·.arg)=[S_ "script"]:=⟨_,_,rfl,rfl⟩
 refine ex22 hp ?_;clear hp;intro as ds hp hnm
 have base:∀b o,G.h₀.get? b=some o→s.heap.get? b=some o:=fun b o e=>R.frz b o (R.base b o e)
 have hbind:bindArgs fd ⟨[v],[]⟩=pure [(S_ "script",v)]:=by
  have:=bind_plain (fd:=fd) (vs:=[v]) (f3.trans hp) f7 (by refine rwG hnm ?_;rfl) (by refine rwG hnm ?_;decide +kernel)
  rw [hnm] at this;exact this
 have hkind:(sScope (stAt 109 0)).kind=.function:=rfl
 refine codeAny_call_cells (binds:=[(S_ "script",v)]) (Nat.lt_of_le_of_lt hA.depth (by refine (?_:n < 1000);exact Nat.lt_of_lt_of_le hn (Nat.le_of_ble_eq_true rfl))) (R.frz _ _ f1) f2 (G.nolimit.keeps base) ⟨c,oc,ws,t,f10,R.frz _ _ f11,f12,f13⟩ f4 hbind f6 (fun x hx=>by rw [List.mem_singleton] at hx;subst hx;refine rwG f5 ?_;exact .inl rfl) (fun s₁ I=>?_) (by refine rwG f5 ?_;rfl) (by refine rwG f5 ?_;rfl) (by refine rwG f5 ?_;rfl)
 generalize hL:s.heap.objs.size=L at I
 generalize hev:callEnvC fd L fa=env at I ⊢
 have k1:env.scope=sScope (stAt 109 0):=by subst hev;exact f5
 have k2:env.locals=L:=by subst hev;rfl
 have k3:env.globals=mainGlobals:=by subst hev;exact f8
 have k4:env.builtins=builtinsNs:=by subst hev;exact f9
 have k5:env.frame=some L:=by subst hev;rfl
 have k6:env.cells=cellsFrom (L + 1) (sScope (stAt 109 0)).names []:=by subst hev;refine (?_:cellsFrom (L + 1) fd.scope.names []=_);(refine rwG f5 ?_;rfl)
 have k7:env.code=.ref c:=by subst hev;exact f10
 have k8:env.cells=[(S_ "decls",L + 1 + 1 + 1),(S_ "code",L + 1 + 1),(S_ "books",L + 1)]:=by refine rwG k6 ?_;rfl
 rw [k2] at I
 obtain ⟨⟨⟨h₁,tk,rfl⟩,hns,hkeep,hfresh⟩,hcell,happ,habove⟩:=I
 have R₁:=R.keeps (tk:=tk) hkeep
 have untr:∀a,L≤a→φ a=none∧σ a=none∧Objs.free [] a∧Objs.free [] a:=fun a ha=>R.above fun o e=>Nat.not_lt.mpr (by refine rwG hL ?_;exact ha) (Heap.lt_size e)
 have free:∀a,Objs.free [] a:=fun a p hp=>nomatch hp
 have kd:∀x,env.kindOf x=(sScope (stAt 109 0)).names.lookup x:=fun x=>by refine (?_:env.scope.names.lookup x=_);(refine rwG k1 ?_;rfl)
 have cell0:∀x c',env.cells.lookup x=some c'→x≠S_ "script"→∃o,h₁.get? c'=some o∧o.data=.cell none:=fun x c' hx hne=>by
  have:=hcell x c' hx
  unfold bindC at this
  rw [show env.kindOf (S_ "script")=some .local by rw [kd];rfl] at this
  rw [if_pos rfl] at this
  exact this
 refine ex12 (cell0 (S_ "books") (L + 1) (by refine rwG k8 ?_;rfl) (by decide +kernel)) ?_;intro oB hB1 hB2
 refine ex12 (cell0 (S_ "code") (L + 1 + 1) (by refine rwG k8 ?_;rfl) (by decide +kernel)) ?_;intro oC hC1 hC2
 refine ex12 (cell0 (S_ "decls") (L + 1 + 1 + 1) (by refine rwG k8 ?_;rfl) (by decide +kernel)) ?_;intro oD hD1 hD2
 have u1:=untr (L + 1) (by exact Nat.le_succ _)
 have u2:=untr (L + 1 + 1) (by simp +arith only)
 have u3:=untr (L + 1 + 1 + 1) (by simp +arith only)
 have u0:=untr L (Nat.le_refl _)
 have nb:L + 1 + 1≠L + 1:=by lia
 have l1:L≠L + 1:=by lia
 have l2:L≠L + 1 + 1:=by lia
 have l3:L≠L + 1 + 1 + 1:=by lia
 have nd1:L + 1 + 1 + 1≠L + 1:=by lia
 have nd2:L + 1 + 1 + 1≠L + 1 + 1:=by lia
 have R₂:=R₁.new (tk:=tk) (x:=.cell none) (fun _ _ e=>e) u1.1 u1.2.1 (free _) (free _) hB1 (.cellN hB2)
 have R₃:=R₂.new (tk:=tk) (x:=.cell none) (fun _ _ e=>e) u2.1 ((Sto.at_ne nb).trans u2.2.1) (free _) (free _) hC1 (.cellN hC2)
 have R₄:=R₃.new (tk:=tk) (x:=.cell none) (fun _ _ e=>e) u3.1 ((Sto.at_ne nd2).trans ((Sto.at_ne nd1).trans u3.2.1)) (free _) (free _) hD1 (.cellN hD2)
 have pne:∀a,L≤a→P≠a:=fun a ha e=>by rw [e,(untr a ha).2.1] at hP;cases hP
 have hP':(((σ.set (L + 1) (.cell none)).set (L + 1 + 1) (.cell none)).set (L + 1 + 1 + 1) (.cell none)) P=some (.tab #[]):=
  (Sto.at_ne (pne _ (by simp +arith only))).trans ((Sto.at_ne (pne _ (by simp +arith only))).trans ((Sto.at_ne (pne _ (by exact Nat.le_succ _))).trans hP))
 let X:Cx:={ A:=A.deeper env,env:=env,kept:=[],held:=[] }
 have hX:CxOk (kL (n + 1) (L + 1) (L + 1 + 1) (L + 1 + 1 + 1) c) X:=by
  refine ex12 hA.frames ?_;intro l hl' hfr
  have hfr':(A.deeper env).frames=some (env::l):=Around.frames_deeper hl'
  refine ⟨k1,hkind,k3,k4,fun p hp=>?_,fun p hp=>(nomatch hp),hA.handled,?_,?_,hA.guards,free _,free _,⟨env::l,hfr',fun e he=>?_⟩,fun _=>⟨l,hfr',by refine rwG k2 ?_;exact k5⟩,fun _ h=>by cases h;exact k7⟩
  ·simp only [List.mem_cons,List.mem_nil_iff,or_false] at hp
   rcases hp with rfl | rfl | rfl
   ·exact ⟨by refine (?_:env.cells.lookup (S_ "books")=_);refine rwG k8 ?_;rfl,.inl (by refine (?_:env.kindOf (S_ "books")=_);rw [kd];rfl),by refine (?_:(S_ "books"==S_ "__debug__")=false);decide +kernel⟩
   ·exact ⟨by refine (?_:env.cells.lookup (S_ "code")=_);refine rwG k8 ?_;rfl,.inl (by refine (?_:env.kindOf (S_ "code")=_);rw [kd];rfl),by refine (?_:(S_ "code"==S_ "__debug__")=false);decide +kernel⟩
   ·exact ⟨by refine (?_:env.cells.lookup (S_ "decls")=_);refine rwG k8 ?_;rfl,.inl (by refine (?_:env.kindOf (S_ "decls")=_);rw [kd];rfl),by refine (?_:(S_ "decls"==S_ "__debug__")=false);decide +kernel⟩
  ·refine (?_:A.depth + 1≤n + 1)
   have:=hA.depth;exact Nat.lt_succ_of_le this
  ·refine (?_:A.units + 3≤8 * (n + 1))
   have:=hA.units;exact lin1 this (by simp +arith only)
  ·rcases List.mem_cons.mp he with rfl | he
   ·exact ⟨by refine rwG k1 ?_;decide,L,k5,.inl k2.symm⟩
   ·obtain ⟨_,L',b,p,hp,_⟩:=hfr e he
    exact nomatch hp
 have hR:Real G X φ [(S_ "script",.lst xs)] (((σ.set (L + 1) (.cell none)).set (L + 1 + 1) (.cell none)).set (L + 1 + 1 + 1) (.cell none)) { s with heap:=h₁,toks:=tk }:=by
  refine ⟨R₄,by refine (?_:φ env.locals=none);refine rwG k2 ?_;exact u0.1,?_,⟨_,by refine (?_:h₁.Ns env.locals _);refine rwG k2 ?_;exact hns,fun p hp=>?_⟩⟩
  ·refine (?_:(((σ.set (L + 1) (.cell none)).set (L + 1 + 1) (.cell none)).set (L + 1 + 1 + 1) (.cell none)) env.locals=none)
   refine rwG k2 ?_
   exact (Sto.at_ne l3).trans ((Sto.at_ne l2).trans ((Sto.at_ne l1).trans u0.2.1))
  ·rw [List.mem_singleton] at hp
   subst hp
   refine ⟨by refine (?_:(S_ "script"==S_ "__debug__")=false);decide +kernel,v,V,.inl ⟨by refine (?_:env.kindOf _=_);rw [kd];rfl,?_⟩⟩
   have:env.kindOf (S_ "script")=some .local:=by rw [kd];rfl
   unfold bindL
   refine rwG (if_pos this) ?_
   unfold bindL
   exact if_pos rfl
 have law:=law_body (n:=n + 1) (E:=fun _ _=>False) (cB:=L + 1) (cC:=L + 1 + 1) (cD:=L + 1 + 1 + 1) C (by exact dn _ hn) F.lam hi hz ((Sto.at_ne (Ne.symm nd1)).trans ((Sto.at_ne (Ne.symm nb)).trans Sto.at_set)) ((Sto.at_ne (Ne.symm nd2)).trans Sto.at_set) Sto.at_set hP' (Ne.symm nb) (Ne.symm nd1) (Ne.symm nd2)
 refine thS (law X hX φ _ hR) (fun f s' φ' σ' Γ' out le R' O q=>?_) fun e s' hE=>?_
 ·cases O with
  | next=>exact absurd q.1 (by intro e;cases e)
  | brk=>exact absurd q.1 (by intro e;cases e)
  | cont=>exact absurd q.1 (by intro e;cases e)
  | ret W=>
   refine ex02 q ?_;clear q;intro q1 q2
   subst q1
   obtain rfl:=W.inv
   exact ⟨φ',σ',rfl,le,R'.core,q2⟩
 ·obtain ⟨_,_,_,_,_,h⟩:=hE
  exact h.elim
end
end Mine
end
section
open PySem PySem.W PySem.Calls PyProof.Rows
set_option maxHeartbeats 0
set_option backward.match.sparseCases false
namespace Mine.Hd
noncomputable def sName:Stmt→Str
 | .FunctionDef n .. | .ClassDef n ..=>n
 | _=>Str.empty
noncomputable def sPos:Stmt→Pos
 | .FunctionDef _ _ _ _ _ _ _ _ _ p | .ClassDef _ _ _ _ _ _ _ _ _ _ p=>p
 | _=>default
noncomputable def sStat:Stmt→List Str
 | .ClassDef _ _ _ _ _ _ _ _ _ s _=>s
 | _=>[]
noncomputable def sBody2:Stmt→List Stmt
 | .ClassDef _ _ _ b ..=>b
 | _=>[]
noncomputable def qs (x:String):Str:=S_ x
noncomputable def svs:List Str→Nat→List Value
 | [],_=>[]
 | x::xs,t=>.str x t::svs xs (t + 1)
noncomputable def tuO (vs:List Value):Obj:={ cls:=.type "tuple",data:=.seq ⟨vs⟩ }
noncomputable def flO (vs:List Value):Obj:={ cls:=.none,data:=.fields ⟨vs⟩ }
noncomputable def fls (T:String) (vs:List Value):Obj:={ cls:=.type T,data:=.fields ⟨vs⟩ }
noncomputable def dcO (es:List DictEntry) (n:Nat):Obj:={ cls:=.type "dict",data:=.dict ⟨es⟩ n }
noncomputable def en (P:Params) (x:Str) (t:Nat) (v:Value):DictEntry:=⟨PyData.keyHash P x,.str x t,v⟩
noncomputable def fst:Str:=qs "/claim/cut.py"
noncomputable def cdO (nm ql:Str) (ln ac fl:Int) (b:Bool) (t u a:Nat) (x y z:Value):Obj:=
 fls "code" [.str nm t,.str ql (t + 1),.str fst (t + 2),.int ln 0,.int ac 0,.int 0 0,.int 0 0,.int fl 0,.ref a,.bool b,.int 181 0,.ref (a + 1),.none,x,y,z,.int u 0,.int ln 0,.str fst (u + 1)]
noncomputable def fdN (q:Str) (st:Stmt):FuncData:={ name:=sName st,qualname:=q,params:=sParams st,body:=.stmts (sBody st),scope:=sScope st,globals:=0,closure:=[],defaults:=.none,kwdefaults:=.none }
noncomputable def fnO (q:Str) (st:Stmt) (mn:Value) (c:Addr):Obj:={ cls:=.type "function",data:=.func { name:=sName st,qualname:=q,params:=sParams st,body:=.stmts (sBody st),scope:=sScope st,globals:=3,closure:=[],defaults:=.none,kwdefaults:=.none,pyModule:=mn,code:=.ref c } }
noncomputable def isLoc:NameKind→Bool
 | .local=>true
 | _=>false
noncomputable def lcs (st:Stmt):List Str:=((sScope st).names.filter fun q=>isLoc q.2).map (·.1)
noncomputable def big (st:Stmt):Bool:=(sScope st).more.isEmpty
noncomputable def sLen:List Str→Nat
 | []=>0
 | _::l=>sLen l + 1
noncomputable def lct (st:Stmt):Nat:=bif big st then sLen (lcs st) else 0
noncomputable def dfO (q:Str) (st:Stmt) (mn:Value) (a t:Nat):List Obj:=
 let cd:=cdO (sName st) q (sPos st).line (sParams st).args.length 3 true t (t + 3 + lct st) a
 tuO []::flO []::bif big st then [tuO (svs (lcs st) (t + 3)),tuO [],{ cls:=.none,data:=.func (fdN q st) },cd (.ref (a + 2)) (.ref (a + 3)) (.ref (a + 4)),fnO q st mn (a + 5)]
  else [{ cls:=.none,data:=.func (fdN q st) },cd .none .none (.ref (a + 2)),fnO q st mn (a + 3)]
noncomputable def clO (P:Params) (k:Nat) (st:Stmt) (mn:Value) (a t:Nat) (subs:List Value):List Obj:=
 let nm:=sName st
 let ini:=sBody2 st
 let bs:List Value:=match k with | 0=>[.type "object"] | 1=>[.type "Exception"] | _=>[.ref 31]
 let mr:List Value:=match k with | 0=>bs | 1=>[.type "Exception",.type "BaseException",.type "object"] | _=>[.ref 31,.type "Exception",.type "BaseException",.type "object"]
 let (d,sa,u):List Stmt×Nat×Nat:=match ini with
  | .FunctionDef n x y z u v w c b p::_=>([.FunctionDef n x y z u v w c b p],a + 14,t + 18 + lct (.FunctionDef n x y z u v w c b p))
  | _=>([],a + 7,t + 12)
 let v:=u + sLen (sStat st)
 let ln:Int:=(sPos st).line
 let es (q:List DictEntry):=en P (qs "__module__") (t + 7) mn::q++en P (qs "__firstlineno__") (t + 11) (.int ln (t + 10))::(d.map fun _=>en P (qs "__init__") (u - 1) (.ref (a + 13)))++[en P (qs "__static_attributes__") v (.ref sa)]
 let T:=sa + 2
 let gs (i:Nat) (x:String) (f g:Value):Obj:=fls "getset_descriptor" [.str (qs x) (v + i),.ref T,f,g]
 let wk:Value:=.builtin "ExceptionGroup.__weakref__"
 let (m,gd,ge):List DictEntry×List Obj×Nat:=match k with
  | 0=>([en P (qs "__dict__") (v + 2) (.ref (T + 1)),en P (qs "__weakref__") (v + 4) (.ref (T + 2)),en P (qs "__doc__") (v + 5) .none],
    [gs 1 "__dict__" (.builtin "function.__dict__") (.builtin "function.__dict__#set"),gs 3 "__weakref__" wk .none],4)
  | 1=>([en P (qs "__weakref__") (v + 2) (.ref (T + 1)),en P (qs "__doc__") (v + 3) .none],[gs 1 "__weakref__" wk .none],3)
  | _=>([en P (qs "__doc__") (v + 1) .none],[],2)
 [tuO (match k with | 0=>[] | _=>bs),fls "builtin_function_or_method" [.builtin "type.__prepare__",.type "type"],
  dcO (es [en P (qs "__qualname__") (t + 9) (.str nm (t + 8))]) (4 + d.length),tuO [],
  flO (d.flatMap fun d=>[.int (sPos d).line 0,.int (sPos d).col 0,.ref (a + 12)]),cdO nm nm ln 0 0 false (t + 2) (t + 5) (a + 3) .none .none .none,
  { cls:=.type "frame",slots:=#[some (.ref (a + 5)),some (.ref 3),some (.ref (a + 2)),none,some mn,none,some (.ref 0)] }]
 ++d.flatMap (fun d=>dfO (nm.append (qs ".__init__")) d mn (a + 7) (t + 12))
 ++[tuO (svs (sStat st) u),dcO (es []++m) ge,
  { cls:=.type "type",data:=.cls { name:=nm,bases:=bs,mro:=.ref T::mr,ns:=sa + 1,qualname:=nm,subclasses:=subs },slots:=#[match k with | 0=>none | _=>some (.ref a),none,some (.str nm t),some (.str nm (t + 8)),some (.builtin (match k with | 0=>"object.__new__" | _=>"Exception.__new__")),some (.bool true)] }]
 ++gd++[fls "super" [.ref T,.ref T,.ref T],fls "builtin_function_or_method" [.builtin "object.__init_subclass__",.ref T]]
noncomputable def cV:Expr→Nat→Value
 | .Constant (.int i) _ _,t=>.int i t
 | .Constant (.str s) _ _,t=>.str s t
 | _,_=>.none
noncomputable def cVs:List Expr→Nat→List Value
 | [],_=>[]
 | e::l,t=>cV e t::cVs l (t + 1)
noncomputable def tpE:Expr→List Expr
 | .Tuple l _ _=>l
 | _=>[]
noncomputable def cS:Expr→Str
 | .Constant (.str s) _ _=>s
 | _=>Str.empty
noncomputable def aVal (i:Nat):Expr:=match stAt i 0 with
 | .Assign _ v _=>v
 | _=>.Constant .none 0 default
noncomputable def kS:Option Expr→Str
 | some e=>cS e
 | none=>Str.empty
noncomputable def shL:List (Str×Expr):=match aVal 6 with
 | .Dict ks vs _=>(ks.map kS).zip vs
 | _=>[]
noncomputable def shE (P:Params):Nat→List (Str×Expr)→List DictEntry
 | _,[]=>[]
 | i,p::l=>en P p.1 (290 + 5 * i) (.ref (86 + i + i / 17))::shE P (i + 1) l
noncomputable def shT:Nat→List (Str×Expr)→List Obj
 | _,[]=>[]
 | i,p::l=>tuO (cVs (tpE p.2) (291 + 5 * i))::shT (i + 1) l
noncomputable def shO (P:Params):Nat→List Obj
 | 0=>dcO (shE P 0 shL) 85::shT 0 (shL.take 17)
 | i=>dcO (shE P (17 * i) ((shL.drop (17 * i)).take 17)) 17::shT (17 * i) ((shL.drop (17 * i)).take 17)
noncomputable def mnS (i t:Nat):Value:=.str (cS (aVal i)) t
noncomputable def sNm (i:Nat):Str:=match i with
 | 6=>qs "SHAPES"
 | 7=>qs "LEAVING"
 | i=>sName (stAt i 0)
noncomputable def tb:List (Nat×Nat×Nat×Nat):=[(1,217,31,20),(2,246,51,40),(3,262,63,59),(4,287,82,71),(6,715,85,0),(7,726,175,0),(8,761,192,181),(9,769,203,202),(10,780,210,209),(11,790,217,216),(12,803,224,223),(13,810,231,230),(15,849,248,237),(16,882,269,258),(17,892,280,279),(18,899,287,286),(19,908,294,293),(20,914,299,298),(21,923,306,305),(22,932,313,312),(23,940,320,319),(24,948,327,326),(25,957,334,333),(26,966,341,340),(27,978,348,347),(28,984,353,352),(30,996,360,359),(31,1006,367,366),(32,1014,374,373),(33,1022,381,380),(34,1030,388,387),(35,1043,395,394),(36,1056,402,401),(37,1062,409,408),(38,1068,416,415),(39,1078,423,422),(40,1088,430,429),(41,1094,435,434),(42,1108,442,441),(43,1116,449,448),(44,1124,456,455),(45,1132,463,462),(46,1140,470,469),(47,1148,477,476),(48,1156,484,483),(49,1164,491,490),(50,1172,498,497),(51,1188,505,504),(52,1194,512,511),(53,1204,519,518),(55,1243,536,525),(57,1254,547,546),(58,1262,554,553),(59,1270,561,560),(60,1278,568,567),(61,1286,575,574),(62,1294,582,581),(63,1302,589,588),(64,1310,596,595),(65,1318,603,602),(66,1324,610,609),(67,1332,617,616),(68,1340,624,623),(69,1348,631,630),(70,1356,638,637),(71,1364,645,644),(72,1372,652,651),(73,1378,659,658),(75,1388,666,665),(76,1396,673,672),(77,1409,680,679),(78,1415,685,684),(79,1430,692,691),(80,1439,699,698),(81,1450,706,705),(82,1464,713,712),(83,1472,720,719),(84,1480,727,726),(85,1488,734,733),(86,1494,741,740),(88,1504,748,747),(89,1510,753,752),(90,1518,760,759),(91,1529,767,766),(92,1540,774,773),(93,1546,779,778),(94,1555,786,785),(95,1563,793,792),(96,1571,800,799),(97,1582,807,806),(98,1593,814,813),(99,1599,819,818),(100,1610,826,825),(101,1625,833,832),(102,1633,840,839),(103,1645,847,846),(104,1656,854,853),(105,1665,861,860),(106,1673,868,867),(107,1684,875,874),(108,1692,882,881),(109,1698,887,886)]
noncomputable def mnO (P:Params) (m:Value) (c:Nat):Obj:=
 dcO ([en P (qs "__name__") 165 m,en P (qs "__doc__") 166 .none,en P (qs "__package__") 167 .none,en P (qs "__loader__") 168 (.builtin "__main__.__loader__#opaque"),en P (qs "__spec__") 169 .none,
  en P (qs "__annotations__") 170 (.ref 6),en P (qs "__builtins__") 171 (.ref 4),en P (qs "__file__") 173 (.str fst 172),en P (qs "__cached__") 174 .none]++(tb.take c).map fun x=>en P (sNm x.1) x.2.1 (.ref x.2.2.1)) (9 + c)
noncomputable def tbV (x:Nat×Nat×Nat×Nat):List Value:=match x.2.2.2 with
 | 0=>[]
 | c=>[.int (sPos (stAt x.1 0)).line 0,.int (sPos (stAt x.1 0)).col 0,.ref c]
noncomputable def tbO (c:Nat):Obj:=flO ((tb.take c).flatMap tbV)
noncomputable def up:BT→Nat→List Obj→BT
 | t,_,[]=>t
 | t,n,o::l=>up (t.ins n o) (n + 1) l
noncomputable def dfs (m:Value):Nat→Nat→Nat→Nat→List Obj
 | _,0,_,_=>[]
 | i,k + 1,a,t=>dfO (sName (stAt i 0)) (stAt i 0) m a t++dfs m (i + 1) k (bif big (stAt i 0) then a + 7 else a + 5) (t + 6 + lct (stAt i 0))
noncomputable def ada (P:Params) (subs:List Value):List Obj:=clO P 1 (stAt 1 0) (mnS 0 187) 15 189 subs
noncomputable def adT (P:Params) (subs:List Value):Obj:=((ada P subs)[16]?).getD default
noncomputable def fnl (P:Params) (t:BT) (m:Value) (c:Nat):BT:=(t.ins 3 (mnO P m c)).ins 12 (tbO c)
noncomputable def cd0:Obj:=cdO (qs "<module>") (qs "<module>") 1 0 0 false 182 185 11 .none .none .none
noncomputable def obs0 (P:Params):List Obj:=[boot_o_0 P,boot_o_1 P,boot_o_2 P,boot_o_3 P,boot_o_4 P,boot_o_5 P,boot_o_6 P,boot_o_7 P,boot_o_8 P,boot_o_9 P,boot_o_10 P,tuO [],flO [],cd0,
 { cls:=.type "frame",slots:=#[some (.ref 13),some (.ref 3),some (.ref 3),none,some (.str (qs "__main__") 164),none,some (.ref 0)] }]
noncomputable def tr0 (P:Params):BT:=up .nil 0 (obs0 P)
noncomputable def tr1 (P:Params):BT:=fnl P ((up (tr0 P) 15 (ada P [])).ins 2 { cls:=.none,data:=.dict #[en P (qs "type.__subclasses__.Exception.0") 214 (.int 31 0),en P (qs "type.__subclasses__.Exception.n") 215 (.int 1 0)] 2 }) (mnS 0 187) 1
noncomputable def tr2 (P:Params):BT:=fnl P ((up (tr1 P) 35 (clO P 2 (stAt 2 0) (mnS 0 187) 35 218 [])).ins 31 (adT P [.ref 51])) (mnS 0 187) 2
noncomputable def tr3 (P:Params):BT:=fnl P ((up (tr2 P) 54 (clO P 2 (stAt 3 0) (mnS 0 187) 54 247 [])).ins 31 (adT P [.ref 51,.ref 63])) (mnS 0 187) 3
noncomputable def tr4 (P:Params):BT:=fnl P ((up (tr3 P) 66 (clO P 2 (stAt 4 0) (mnS 0 187) 66 263 [])).ins 31 (adT P [.ref 51,.ref 63,.ref 82])) (mnS 5 288) 4
noncomputable def tr5 (P:Params):BT:=fnl P (up (tr4 P) 85 (shO P 0++shO P 1++shO P 2++shO P 3++shO P 4)) (mnS 5 288) 5
noncomputable def tr6 (P:Params):BT:=fnl P (up (up ((tr5 P).ins 175 (tuO (cVs (tpE (aVal 7)) 716))) 176 (clO P 0 (stAt 8 0) (mnS 5 288) 176 727 [])) 197 (dfs (mnS 5 288) 9 4 197 762)) (mnS 5 288) 11
noncomputable def tr7 (P:Params):BT:=fnl P (up (up (tr6 P) 225 (dfs (mnS 5 288) 13 1 225 804)) 232 (clO P 0 (stAt 15 0) (mnS 14 811) 232 813 [])) (mnS 14 811) 13
noncomputable def tr8 (P:Params):BT:=fnl P (up (up (tr7 P) 253 (clO P 0 (stAt 16 0) (mnS 14 811) 253 850 [])) 274 (dfs (mnS 14 811) 17 5 274 883)) (mnS 14 811) 19
noncomputable def tr9 (P:Params):BT:=fnl P (up (up (tr8 P) 307 (dfs (mnS 14 811) 22 7 307 924)) 354 (dfs (mnS 29 985) 30 5 354 987)) (mnS 29 985) 31
noncomputable def tr10 (P:Params):BT:=fnl P (up (tr9 P) 389 (dfs (mnS 29 985) 35 12 389 1031)) (mnS 29 985) 43
noncomputable def tr11 (P:Params):BT:=fnl P (up (tr10 P) 471 (dfs (mnS 29 985) 47 7 471 1141)) (mnS 54 1205) 50
noncomputable def tr12 (P:Params):BT:=fnl P (up (up (tr11 P) 520 (clO P 0 (stAt 55 0) (mnS 54 1205) 520 1207 [])) 541 (dfs (mnS 56 1244) 57 5 541 1246)) (mnS 56 1244) 56
noncomputable def tr13 (P:Params):BT:=fnl P (up (up (tr12 P) 576 (dfs (mnS 56 1244) 62 12 576 1287)) 660 (dfs (mnS 74 1379) 75 1 660 1381)) (mnS 74 1379) 69
noncomputable def tr14 (P:Params):BT:=fnl P (up (up (tr13 P) 667 (dfs (mnS 74 1379) 76 11 667 1389)) 742 (dfs (mnS 87 1495) 88 1 742 1497)) (mnS 87 1495) 81
noncomputable def tr15 (P:Params):BT:=fnl P (up (tr14 P) 749 (dfs (mnS 87 1495) 89 12 749 1505)) (mnS 87 1495) 93
noncomputable def tr16 (P:Params):BT:=fnl P (up (tr15 P) 827 (dfs (mnS 87 1495) 101 9 827 1611)) (mnS 87 1495) 102
noncomputable abbrev RW:=PySem.Challenge.rw_pb0038_01
noncomputable abbrev PR:Program:=RW.row.toRowW.1
noncomputable abbrev PQ:Program:=(PySem.W.Fast.tw2368527892694137696 RW).toRowW.1
noncomputable def BD:List Stmt:=behindTheImports PR
noncomputable def ev:Env:={ scope:=PR.main.scope,locals:=mainNs,globals:=mainNs,cells:=[],code:=.ref 13,frame:=some 14 }
noncomputable abbrev cB:Code:=.body BD ev
noncomputable abbrev p0:Pos:=⟨0,0,0,0⟩
noncomputable abbrev an:Option Value:=some (.ref 6)
noncomputable abbrev sT (t:BT) (n k:Nat) (os:OsState):SharedT:=⟨t,n,{},#[],{},k,os⟩
noncomputable abbrev rn (w:World) (N:Nat) (s:SharedT) (i m:Nat) (p:Pos):=PySem.W.Fast.tw10110043849684766642 PySem.W.Fast.tw14364793385576792824 PQ w 11 an 1 N s (piecesOf ((BD.drop i).take m) ev cB p [topFrame p0])
noncomputable abbrev rs (s:SharedT) (p:Pos):Option (Flow×SharedT×Code×Pos):=some (.next,s,cB,p)
theorem g1 (w:World) (os:OsState):rn w 238 (sT (tr0 w.params) 15 187 os) 0 2 ⟨0,0,0,0⟩=rs (sT (tr1 w.params) 35 218 os) ⟨2,0,6,24⟩:=by kernel_rfl
theorem g2 (w:World) (os:OsState):rn w 250 (sT (tr1 w.params) 35 218 os) 2 1 ⟨2,0,6,24⟩=rs (sT (tr2 w.params) 54 247 os) ⟨7,0,13,24⟩:=by kernel_rfl
theorem g3 (w:World) (os:OsState):rn w 214 (sT (tr2 w.params) 54 247 os) 3 1 ⟨7,0,13,24⟩=rs (sT (tr3 w.params) 66 263 os) ⟨14,0,15,8⟩:=by kernel_rfl
theorem g4 (w:World) (os:OsState):rn w 255 (sT (tr3 w.params) 66 263 os) 4 2 ⟨14,0,15,8⟩=rs (sT (tr4 w.params) 85 290 os) ⟨21,0,21,8⟩:=by kernel_rfl
noncomputable abbrev G5 (w:World):Prop:=∀os,rn w 2063 (sT (tr4 w.params) 85 290 os) 6 1 ⟨21,0,21,8⟩=rs (sT (tr5 w.params) 175 716 os) ⟨22,0,22,6⟩
theorem g5f (w:World):G5 (w.withFollow "special-get-raises" false):=by intro os;kernel_rfl
theorem g5t (w:World):G5 (w.withFollow "special-get-raises" true):=by intro os;kernel_rfl
theorem g5 (w:World):G5 w:=byRow2 "special-get-raises" g5f g5t w
theorem g6 (w:World) (os:OsState):rn w 379 (sT (tr5 w.params) 175 716 os) 7 6 ⟨22,0,22,6⟩=rs (sT (tr6 w.params) 225 804 os) ⟨56,0,70,22⟩:=by kernel_rfl
theorem g7 (w:World) (os:OsState):rn w 269 (sT (tr6 w.params) 225 804 os) 13 3 ⟨56,0,70,22⟩=rs (sT (tr7 w.params) 253 850 os) ⟨74,0,85,23⟩:=by kernel_rfl
theorem g8 (w:World) (os:OsState):rn w 376 (sT (tr7 w.params) 253 850 os) 16 6 ⟨74,0,85,23⟩=rs (sT (tr8 w.params) 307 924 os) ⟨105,0,110,50⟩:=by kernel_rfl
theorem g9 (w:World) (os:OsState):rn w 377 (sT (tr8 w.params) 307 924 os) 22 13 ⟨105,0,110,50⟩=rs (sT (tr9 w.params) 389 1031 os) ⟨173,0,176,49⟩:=by kernel_rfl
theorem g10 (w:World) (os:OsState):rn w 373 (sT (tr9 w.params) 389 1031 os) 35 12 ⟨173,0,176,49⟩=rs (sT (tr10 w.params) 471 1141 os) ⟨223,0,225,35⟩:=by kernel_rfl
theorem g11 (w:World) (os:OsState):rn w 228 (sT (tr10 w.params) 471 1141 os) 47 8 ⟨223,0,225,35⟩=rs (sT (tr11 w.params) 520 1207 os) ⟨251,0,251,8⟩:=by kernel_rfl
theorem g12 (w:World) (os:OsState):rn w 391 (sT (tr11 w.params) 520 1207 os) 55 7 ⟨251,0,251,8⟩=rs (sT (tr12 w.params) 576 1287 os) ⟨274,0,275,31⟩:=by kernel_rfl
theorem g13 (w:World) (os:OsState):rn w 396 (sT (tr12 w.params) 576 1287 os) 62 14 ⟨274,0,275,31⟩=rs (sT (tr13 w.params) 667 1389 os) ⟨312,0,313,8⟩:=by kernel_rfl
theorem g14 (w:World) (os:OsState):rn w 386 (sT (tr13 w.params) 667 1389 os) 76 13 ⟨312,0,313,8⟩=rs (sT (tr14 w.params) 749 1505 os) ⟨404,0,408,58⟩:=by kernel_rfl
theorem g15 (w:World) (os:OsState):rn w 365 (sT (tr14 w.params) 749 1505 os) 89 12 ⟨404,0,408,58⟩=rs (sT (tr15 w.params) 827 1611 os) ⟨519,0,529,61⟩:=by kernel_rfl
theorem g16 (w:World) (os:OsState):rn w 285 (sT (tr15 w.params) 827 1611 os) 101 9 ⟨519,0,529,61⟩=rs (sT (tr16 w.params) 888 1699 os) ⟨621,0,636,65⟩:=by kernel_rfl
theorem law_tw:PR=PQ:=congrArg (fun f=>(f RW).toRowW.1) PySem.W.Fast.te2368527892694137696
noncomputable abbrev sr (w:World) (os:OsState) (N:Nat) (s:SharedT) (i:Nat) (p:Pos) (r:Shared):Prop:=topRun treeTable PR w 11 an N s.abs (restOf (BD.drop i) ev cB p [topFrame p0])=some r
theorem pc {w:World} {os:OsState} {s s':SharedT} {r:Shared} {n N i m:Nat} {p p':Pos} (h:rn w n s i m p=rs s' p') (k:sr w os N s' (i + m) p' r):sr w os (n + N) s i p r:=by
 have h:segRunT treeTable PR w 11 an 1 n s (piecesOf ((BD.drop i).take m) ev cB p [topFrame p0])=rs s' p':=by
  rw [PySem.W.Fast.te10110043849684766642,PySem.W.Fast.te14364793385576792824,law_tw];exact h
 have k:topRun treeTable PR w 11 an N s'.abs (restOf ((BD.drop i).drop m) ev cB p' [topFrame p0])=some r:=by rw [List.drop_drop];exact k
 have:=piece_app (segRun_of h) k
 rw [List.take_append_drop] at this;exact this
theorem sr0 {w:World} {os:OsState} {s:SharedT} {r:Shared} {N:Nat} {p:Pos} (k:sr w os N s 0 p r):topRun treeTable PR w 11 an N s.abs (restOf BD ev cB p [topFrame p0])=some r:=by
 unfold sr at k;rw [List.drop_zero] at k;exact k
noncomputable def Hp (P:Params):Heap:=⟨⟨obs0 P⟩,{}⟩
noncomputable def H1 (P:Params):Heap:=absHeap (tr16 P) 888 {}
noncomputable abbrev S1 (w:World) (os:OsState):Shared:=⟨H1 w.params,#[],{},1699,os⟩
theorem g_pre (w:World) (os:OsState):PySem.W.Fast.tw15667345088766844465 PySem.W.Fast.tw14364793385576792824 PQ w 11 an 12 ⟨boot_heap w.params,#[],boot_drawn,boot_toks,os⟩ (topStub PQ)=some (⟨Hp w.params,#[],{},187,os⟩,⟨PySem.W.Fast.tw11892475500146522536 PySem.W.Fast.tw14364793385576792824 cB,cB,p0,[topFrame p0]⟩):=by kernel_rfl
theorem g_block (w:World) (os:OsState):PySem.W.Fast.tw14374325043358763698 PySem.W.Fast.tw14364793385576792824 PQ w 11 an 1 1 ⟨Hp w.params,#[],{},187,os⟩ (blockOf BD ev cB p0 [topFrame p0])=some (.next,(sT (tr0 w.params) 15 187 os).abs,cB,p0):=by kernel_rfl
theorem g_fin (w:World) (os:OsState):sr w os 2 (sT (tr16 w.params) 888 1699 os) 110 ⟨621,0,636,65⟩ (S1 w os):=by kernel_rfl
theorem g_run (w:World) (os:OsState):topRun treeTable PR w 11 an (12 + (1 + (238 + (250 + (214 + (255 + (2063 + (379 + (269 + (376 + (377 + (373 + (228 + (391 + (396 + (386 + (365 + (285 + (2))))))))))))))))))) ⟨boot_heap w.params,#[],boot_drawn,boot_toks,os⟩ (topStub PR)=some (S1 w os):=by
 refine go_top (s':=⟨Hp w.params,#[],{},187,os⟩) (t':=⟨denote treeTable cB,cB,p0,[topFrame p0]⟩) ?_ ?_
 ·rw [PySem.W.Fast.te15667345088766844465,PySem.W.Fast.te11892475500146522536,PySem.W.Fast.te14364793385576792824,law_tw];exact g_pre w os
 ·refine piece_block (s':=(sT (tr0 w.params) 15 187 os).abs) (p':=p0) ?_ ?_
  ·rw [PySem.W.Fast.te14374325043358763698,PySem.W.Fast.te14364793385576792824,law_tw];exact g_block w os
  ·exact sr0 (pc (g1 w os) (pc (g2 w os) (pc (g3 w os) (pc (g4 w os) (pc (g5 w os) (pc (g6 w os) (pc (g7 w os) (pc (g8 w os) (pc (g9 w os) (pc (g10 w os) (pc (g11 w os) (pc (g12 w os) (pc (g13 w os) (pc (g14 w os) (pc (g15 w os) (pc (g16 w os) (g_fin w os)))))))))))))))))
noncomputable def keep:List Nat:=(List.range 110).filter fun i=>!([0,5,14,29,54,56,74,87].contains i)
noncomputable def vq:Program:=view PR keep
noncomputable def loo:List Str:=[⟨#[83,72,65,80,69,83]⟩]
noncomputable def Xq (s:Shared):Bool:=xlAt vq [] s&&recOk (RowW.records RW.row.toRowW) s
theorem l_top (w:World) (os:OsState):(staticsOk (importedModules PR.main.body) (boot_heap w.params) (H1 w.params)&&namesBound PR (H1 w.params)&&gensDone (S1 w os)&&laidKept (boot_heap w.params) (H1 w.params))=true:=by
 rw [PySem.W.Fast.te5923862056798008813,law_tw];kernel_rfl
theorem l_seen (w:World) (os:OsState):seen ((recsOf vq).map (·.name)) (ownsOf vq) [] { S1 w os with gens:=#[] }=expectedOf vq:=by
 rw [PySem.W.Fast.te5160383126252970620,PySem.W.R.mapR_eq,PySem.W.Fast.te3399658132070893891,PySem.W.Fast.te5991557255702980513];kernel_rfl
theorem l_blt (w:World) (os:OsState):(S1 w os).heap.bltView=bltViewBooted:=by kernel_rfl
theorem l_keys (w:World) (os:OsState):(H1 w.params).keysOk (looseW vq loo) ((recsOf vq).map (·.name)) ((litsOf vq).map (·.1)) ((clssOf vq (looseW vq loo)).map (·.name))=true:=by
 rw [PySem.W.Fast.te10880121769531294198,PySem.W.Fast.te821141287760084731,PySem.W.R.mapR_eq,PySem.W.Fast.te3399658132070893891,PySem.W.Fast.te7409074990110511671,PySem.W.Fast.te13664370479719496447];kernel_rfl
theorem l_acc (w:World) (os:OsState):(H1 w.params).accountedOkI (importedModules PR.main.body)=true:=by
 rw [PySem.W.Fast.te14722251495701143533,PySem.W.Fast.te5923862056798008813,law_tw];kernel_rfl
theorem l_tabl (w:World) (os:OsState):tablesOk vq (H1 w.params)=true:=by rw [PySem.W.Fast.te10994771534591457954];kernel_rfl
theorem l_x (w:World) (os:OsState):((H1 w.params).isNs mainGlobals&&(H1 w.params).isNs builtinsNs&&Xq (S1 w os)&&(S1 w os).gens.size==0)=true:=by unfold Xq;rw [PySem.W.Fast.te2368527892694137696];kernel_rfl
theorem l_tabs (w:World) (os:OsState):tabsOk vq (S1 w os)=true:=by rw [PySem.W.Fast.te479339242167458305];kernel_rfl
theorem l_pin (w:World) (os:OsState):pinSeenD vq (drecsOf vq) (S1 w os)=pinGoodD (drecsOf vq):=by rw [PySem.W.Fast.te16090120013241838585,PySem.W.Fast.te3247288618530077131];kernel_rfl
theorem l_plE (w:World) (os:OsState):plainSeenE vq (looseW vq loo) (S1 w os)=plainGoodE vq (looseW vq loo):=by rw [PySem.W.Fast.te2386780881361962483,PySem.W.Fast.te821141287760084731];kernel_rfl
theorem l_plD (w:World) (os:OsState):plainSeenD vq loo (S1 w os)=plainGoodD vq loo:=by rw [PySem.W.Fast.te11698064438423848299];kernel_rfl
theorem l_wide (w:World) (os:OsState):wideSeen vq (S1 w os)=wideGood vq:=by rw [PySem.W.Fast.te7317090234206586261];kernel_rfl
theorem l_cls (w:World) (os:OsState):clsSeenW vq loo (S1 w os)=clsGoodW vq loo:=by rw [PySem.W.Fast.te7369524293546568484];kernel_rfl
theorem h_left:LeftO PR vq loo Xq (fun s=>s.heap) (fun w=>H1 w.params) 13784:=
 LeftO.of_pieces (boot_open (by rfl) (by rfl) (fun _=>by rfl)) (fun w=>by rw [PySem.W.Fast.te8920871248978507458];kernel_rfl) g_run (by rfl)
  fun w=>funext fun os=>looks_pair (l_top w os) (looks_pair (looks_pair (l_seen w os) (looks_pair (l_blt w os) (looks_pair (by
   rw [show (S1 w os).heap=H1 w.params from rfl,l_keys w os,l_acc w os,l_tabl w os]
   have h:=l_x w os
   simp only [Bool.and_eq_true] at h
   rw [h.1.1.1,h.1.1.2,h.1.2];exact h.2) (looks_pair (l_tabs w os) (looks_pair (l_pin w os) (looks_pair (l_plE w os) (looks_pair (l_plD w os) (looks_pair (l_wide w os) (l_cls w os))))))))) rfl)
noncomputable def lk (i:Nat):Addr:=((tb.find? (·.1==i)).map (·.2.2.1)).getD 0
noncomputable def Fa (i j:Nat):Addr:=match j with
 | 0=>lk i
 | _=>lk i - 3
noncomputable def tabs:List (Addr×Addr):=[(886,884)]
noncomputable def ks:List Nat:=[2,3,28,30,31,48,50,51,79,81,82,189,191,192,245,247,248,533,535,536]
noncomputable def Kf (P:Params):Frag:=ks.map fun a=>(a,((tr16 P).get a).getD default)
noncomputable def lwO:Obj:=cdO (sName (stAt 109 0)) (sName (stAt 109 0)) (sPos (stAt 109 0)).line (sParams (stAt 109 0)).args.length 3 true 1693 (1693 + 3 + lct (stAt 109 0)) 883 .none .none (.ref 885)
noncomputable def fnI (o:Option Obj):FuncData:=match o with
 | some ⟨_,_,.func fd,_⟩=>fd
 | _=>fdN Str.empty (stAt 0 0)
noncomputable def vsO (o:Option Obj):List Value:=match o with
 | some ⟨_,_,.fields vs,_⟩=>vs.toList
 | _=>[]
noncomputable def tkO (v:Option Value):Nat:=match v with
 | some (.str _ t)=>t
 | _=>0
noncomputable def fnL:List (Nat×Nat):=defTab.map (fun p=>(p.2,0))++(clsTab++excTab).map (fun p=>(p.2,1))++[(109,0)]
noncomputable def mgL:List (Str×Nat):=defTab++clsTab++excTab++[(S_ "law",109),(S_ "SHAPES",6),(S_ "LEAVING",7)]
theorem K_in (P:Params):(Kf P).In (H1 P):=Frag.in_of (as:=ks) (by kernel_rfl) (by kernel_rfl)
theorem K_no (P:Params):noTabs (Kf P)=true:=by kernel_rfl
theorem h_tab (P:Params):(H1 P).get? 884=some (tabObj #[])∧(H1 P).get? 886=some lwO∧((H1 P).get? sysModules).isSome=true∧(H1 P).get? 4=some { cls:=.type "module",dict:=some 0 }:=⟨by kernel_rfl,by kernel_rfl,by kernel_rfl,by kernel_rfl⟩
theorem h_ns (P:Params):(H1 P).isNs mainGlobals=true∧(H1 P).isNs builtinsNs=true∧(H1 P).isNs cStatics=true∧(H1 P).nsMap cStatics "sys.recursionlimit"=none:=⟨by kernel_rfl,by kernel_rfl,by kernel_rfl,by kernel_rfl⟩
theorem h_fn (P:Params):fnL.map (fun p=>(H1 P).get? (Fa p.1 p.2))=fnL.map fun p=>let fd:=fnI ((H1 P).get? (Fa p.1 p.2));some (fnO fd.qualname (stAt p.1 p.2) fd.pyModule (Fa p.1 p.2 - 1)):=by kernel_rfl
theorem h_cd (P:Params):fnL.map (fun p=>((H1 P).get? (Fa p.1 p.2 - 1),(vsO ((H1 P).get? (Fa p.1 p.2 - 1)))[1]?))=fnL.map fun p=>(some (fls "code" (vsO ((H1 P).get? (Fa p.1 p.2 - 1)))),some (.str (fnI ((H1 P).get? (Fa p.1 p.2))).qualname (tkO (vsO ((H1 P).get? (Fa p.1 p.2 - 1)))[1]?))):=by kernel_rfl
theorem h_mg (P:Params):mgL.map (fun p=>(H1 P).nsMap mainGlobals p.1)=mgL.map fun p=>some (.ref (lk p.2)):=by
 rw [PySem.W.Fast.te8920871248978507458];kernel_rfl
theorem h_blt (P:Params):bltTab.map (fun p=>((H1 P).nsMap mainGlobals p.1,(H1 P).nsMap builtinsNs p.1))=bltTab.map fun p=>(none,some p.2):=by
 rw [PySem.W.Fast.te8920871248978507458];kernel_rfl
theorem h_bm (P:Params):(H1 P).nsMap mainGlobals "__builtins__"=some (.ref 4):=by rw [PySem.W.Fast.te8920871248978507458];kernel_rfl
theorem k_cls (P:Params):clsTab.map (fun p=>(makesIn (Kf P) (lk p.2),keepIn (Kf P) (.ref (lk p.2)),findIn (Kf P) (.ref (lk p.2)) "__init__",isFn (Kf P) (.ref (Fa p.2 1)),findIn (Kf P) (.ref (lk p.2)) "__setattr__",plainOver (Kf P) (lk p.2)))=
  clsTab.map fun p=>(true,true,some (some (.ref (Fa p.2 1))),true,some (some (.builtin "object.__setattr__")),true):=by kernel_rfl
theorem k_exc (P:Params):excTab.map (fun p=>keepIn (Kf P) (.ref (lk p.2)))=excTab.map fun _=>true:=by kernel_rfl
theorem k_exs (P:Params):[2,4].map (fun i=>(findIn (Kf P) (.ref (lk i)) "__setattr__",excOver (Kf P) (lk i),hasDictIn (Kf P) (lk i)))=[2,4].map fun _=>(some (some (.builtin "object.__setattr__")),true,true):=by kernel_rfl
theorem k_attr (P:Params):attrTab.map (fun p=>(plainGet (Kf P) (lk p.1) p.2,hasDictIn (Kf P) (lk p.1),findIn (Kf P) (.ref (lk p.1)) p.2,takerIn (Kf P) (lk p.1) p.2))=attrTab.map fun _=>(true,true,some none,some none):=by kernel_rfl
theorem k_xat (P:Params):excAttrTab.map (fun p=>takerIn (Kf P) (lk p.1) p.2)=excAttrTab.map fun _=>some none:=by kernel_rfl
theorem k_exm (P:Params):(exmOne (Kf P) (.ref (lk 2)) (.ref (lk 2)),exmOne (Kf P) (.ref (lk 4)) (.ref (lk 2)),exmOne (Kf P) (.ref (lk 4)) (.ref (lk 4)))=(some true,some false,some true):=by kernel_rfl
theorem k_word (P:Params):(findIn (Kf P) (.ref (lk 2)) "__getattribute__",findIn (Kf P) (.ref (lk 2)) "__getattr__",subIn (Kf P) (.ref (lk 2)) (.type "BaseException"),findIn (Kf P) (.ref (lk 2)) "word",hasDictIn (Kf P) (lk 2))=(some (some (.builtin "BaseException.__getattribute__")),some none,some true,some none,true):=by kernel_rfl
theorem k_ini (P:Params):(specialIn (Kf P) (.ref (lk 1)) "__getattribute__",readsIn (Kf P) (lk 1) (.type "type"),findCls (Kf P) (.ref (lk 1)) (.type "type") "__init__")=(some (some (.builtin "type.__getattribute__")),true,some (.val (.ref (Fa 1 1)))):=by kernel_rfl
theorem k_xini (P:Params):findCls (Kf P) (.type "Exception") (.type "type") "__init__"=some (.val (.builtin "Exception.__init__")):=by kernel_rfl
theorem k_exo (P:Params):(H1 P).get? 51=some (excClassObj (qs "AdaRaise") (qs "AdaRaise") 51 50 [.ref 31] [.ref 31,.type "Exception",.type "BaseException",.type "object"] true [] [] false none none (some (.ref 35)) none (some (.str (qs "AdaRaise") 218)) (some (.str (qs "AdaRaise") 226)) (some (.bool true)) "Exception.__new__")∧
  (H1 P).get? 82=some (excClassObj (qs "EndRun") (qs "EndRun") 82 81 [.ref 31] [.ref 31,.type "Exception",.type "BaseException",.type "object"] true [] [] false none none (some (.ref 66)) none (some (.str (qs "EndRun") 263)) (some (.str (qs "EndRun") 271)) (some (.bool true)) "Exception.__new__"):=⟨by kernel_rfl,by kernel_rfl⟩
theorem k_exn (P:Params):(H1 P).isNs 50=true∧(H1 P).isNs 81=true∧(H1 P).nsMap 50 "__init__"=some (.ref 48)∧(H1 P).nsMap 81 "__init__"=some (.ref 79):=⟨by kernel_rfl,by kernel_rfl,by kernel_rfl,by kernel_rfl⟩
theorem h_law (P:Params):(H1 P).get? 887=some (fnO (sName (stAt 109 0)) (stAt 109 0) (mnS 87 1495) 886)∧(H1 P).get? 85=some (dcO (shE P 0 shL) 85)∧(H1 P).get? 175=some (tuO (cVs (tpE (aVal 7)) 716)):=⟨by kernel_rfl,by kernel_rfl,by kernel_rfl⟩
noncomputable def shA:Nat→List (Str×Expr)→List Addr
 | _,[]=>[]
 | i,_::l=>(86 + i + i / 17)::shA (i + 1) l
theorem h_sh (P:Params):(shA 0 shL).map (H1 P).get?=(shT 0 shL).map some:=by kernel_rfl
theorem l_at:(lk 1=31∧lk 2=51∧lk 4=82)∧(lk 6=85∧lk 7=175∧lk 109=887):=⟨⟨by kernel_rfl,by kernel_rfl,by kernel_rfl⟩,by kernel_rfl,by kernel_rfl,by kernel_rfl⟩
noncomputable abbrev gh (P:Params):Heap:=ghostOf (H1 P) tabs
theorem hT (P:Params):TabsAt tabs (H1 P):=fun q hq=>by
 rw [List.mem_singleton.mp hq]
 exact ⟨⟨lwO,_,_,_,_,_,_,_,_,(h_tab P).2.1,rfl,rfl,rfl,rfl,rfl,rfl,rfl,rfl,by decide⟩,(h_tab P).1⟩
theorem gk {P:Params} {a:Addr} {o:Obj} (e:(H1 P).get? a=some o) (h:o≠tabObj #[]):(gh P).get? a=some o:=ghost_get (hT P) e h
theorem fn_of {φ:Fz} {a c:Addr} {q:Str} {st:Stmt} {m:Value} {oc:Obj} {vs:Array Value} {t:Tok} (h1:φ a=some (fnO q st m c)) (h2:φ c=some oc) (h3:oc.data=.fields vs) (h4:(vs[1]?:Option Value)=some (.str q t)):IsFn φ a st:=
 ⟨_,_,c,oc,vs,t,h1,rfl,rfl,rfl,rfl,rfl,rfl,rfl,rfl,rfl,rfl,rfl,h2,h3,h4⟩
theorem fn_at (P:Params) (p:Nat×Nat) (hp:p∈fnL):IsFn (gh P).get? (Fa p.1 p.2) (stAt p.1 p.2):=by
 have a:=List.map_inj_left.mp (h_fn P) p hp
 have b:=List.map_inj_left.mp (h_cd P) p hp
 dsimp only at a b
 generalize fnI ((H1 P).get? (Fa p.1 p.2))=fd at a b
 generalize vsO ((H1 P).get? (Fa p.1 p.2 - 1))=vs at b
 exact fn_of (gk a fun e=>by cases e) (gk (congrArg Prod.fst b) fun e=>by cases e) rfl (List.getElem?_toArray.trans (congrArg Prod.snd b))
theorem mg_at (P:Params) (p:Str×Nat) (hp:p∈mgL):(H1 P).nsMap mainGlobals p.1=some (.ref (lk p.2)):=List.map_inj_left.mp (h_mg P) p hp
theorem ex_at (P:Params) (i j C:Addr) (nm:Str) (b:Option Value) (s0 s1 s2:Option Value) (f N:Addr) (hC:lk i=C) (hf:Fa i 1=f) (hn:C≠lk j) (ho:(H1 P).get? C=some (excClassObj nm nm C N [.ref 31] [.ref 31,.type "Exception",.type "BaseException",.type "object"] true [] [] false none none s0 none s1 s2 b "Exception.__new__"))
  (hN:(H1 P).isNs N=true) (hm:(H1 P).nsMap N "__init__"=some (.ref f)) (hj:lk j≠31):ExcCls (gh P) (lk i) (Fa i 1) (lk j):=by
 rw [hC,hf]
 exact ⟨_,_,N,_,_,_,_,_,_,_,_,_,_,_,_,_,_,gk ho (fun e=>by cases e),ghost_ns (hT P) (.of_isNs hN),hm,rfl,rfl,rfl,rfl,by
  refine Bool.eq_false_iff.mpr fun h=>?_
  simp only [List.contains_iff_mem,List.mem_cons,Value.ref.injEq,reduceCtorEq,List.mem_nil_iff,or_false] at h
  exact hj h,hn⟩
noncomputable def gG (w:World) (os:OsState):Glob where
 w:=w
 h₀:=gh w.params
 K:=Kf w.params
 mg:=(H1 w.params).nsMap mainGlobals
 mb:=(H1 w.params).nsMap builtinsNs
 fa:=Fa
 cad:=lk
 os:=os
 X:=ghost_K (hT w.params) (K_in w.params) (K_no w.params)
 nsG:=ghost_ns (hT _) (.of_isNs (h_ns _).1)
 nsB:=ghost_ns (hT _) (.of_isNs (h_ns _).2.1)
 nolimit:=⟨_,ghost_ns (hT _) (.of_isNs (h_ns _).2.2.1),(h_ns _).2.2.2⟩
 low:=by
  obtain ⟨o,e⟩:=Option.isSome_iff_exists.mp (h_tab w.params).2.2.1
  rw [ghost_ne e (by decide)];rfl
 defs:=fun p hp=>⟨mg_at _ p (List.mem_append_left _ (List.mem_append_left _ (List.mem_append_left _ hp))),fn_at _ (p.2,0) (List.mem_append_left _ (List.mem_append_left _ (List.mem_map_of_mem hp)))⟩
 clss:=fun p hp=>by
  have k:=List.map_inj_left.mp (k_cls w.params) p hp
  simp only [Prod.mk.injEq] at k
  obtain ⟨k1,k2,k3,k4,k5,k6⟩:=k
  exact ⟨mg_at _ p (List.mem_append_left _ (List.mem_append_left _ (List.mem_append_right _ hp))),fn_at _ (p.2,1) (List.mem_append_left _ (List.mem_append_right _ (List.mem_map_of_mem (List.mem_append_left _ hp)))),k1,k2,k3,k4,k5,k6⟩
 excs:=fun p hp=>⟨mg_at _ p (List.mem_append_left _ (List.mem_append_right _ hp)),fn_at _ (p.2,1) (List.mem_append_left _ (List.mem_append_right _ (List.mem_map_of_mem (List.mem_append_right _ hp))))⟩
 excKeep:=fun p hp=>List.map_inj_left.mp (k_exc w.params) p hp
 excCls:=fun i j hij=>by
  have k:=List.map_inj_left.mp (k_exs w.params)
  obtain ⟨⟨l1,l2,l4⟩,_⟩:=l_at
  rcases hij with ⟨rfl,rfl⟩ | ⟨rfl,rfl⟩
  ·have k:=k 2 (.head _)
   simp only [Prod.mk.injEq] at k
   exact ⟨ex_at _ 2 4 51 _ _ _ _ _ _ 50 l2 (by kernel_rfl) (by rw [l4];decide) (k_exo _).1 (k_exn _).1 (k_exn _).2.2.1 (by rw [l4];decide),k⟩
  ·have k:=k 4 (.tail _ (.head _))
   simp only [Prod.mk.injEq] at k
   exact ⟨ex_at _ 4 2 82 _ _ _ _ _ _ 81 l4 (by kernel_rfl) (by rw [l2];decide) (k_exo _).2 (k_exn _).2.1 (k_exn _).2.2.2 (by rw [l2];decide),k⟩
 excAttr:=fun p hp=>List.map_inj_left.mp (k_xat w.params) p hp
 exm:=by have k:=k_exm w.params;simp only [Prod.mk.injEq] at k;exact k
 word:=by have k:=k_word w.params;simp only [Prod.mk.injEq] at k;exact ⟨⟨k.1,k.2.1,k.2.2.1⟩,k.2.2.2⟩
 adaInit:=by have k:=k_ini w.params;simp only [Prod.mk.injEq] at k;exact k
 exInit:=k_xini _
 attrs:=fun p hp=>by have k:=List.map_inj_left.mp (k_attr w.params) p hp;simp only [Prod.mk.injEq] at k;exact k
 blts:=fun p hp=>by have k:=List.map_inj_left.mp (h_blt w.params) p hp;simp only [Prod.mk.injEq] at k;exact k
noncomputable def isI:Expr→Bool
 | .Constant (.int _) _ _=>true
 | _=>false
noncomputable def cI:Expr→Int
 | .Constant (.int i) _ _=>i
 | _=>0
noncomputable def rc (e:Expr):Expr:=.Constant (bif isI e then .int (cI e) else .str (cS e)) (kk e) (ps e)
noncomputable def rcT (e:Expr):Expr:=.Tuple ((tpE e).map rc) (kk e) (ps e)
theorem rc_of {G:Glob} {φ:Fz} (e:Expr) (t:Nat):VR G φ (cV (rc e) t) (litD (rc e)):=by
 unfold rc
 cases isI e
 ·exact .str _ _
 ·exact .int _ _
theorem vrs_of {G:Glob} {φ:Fz} (es:List Expr):∀t,VRs G φ (cVs (es.map rc) t) (litDs (es.map rc)):=by
 induction es with
 | nil=>exact fun _=>.nil
 | cons e es ih=>exact fun t=>.cons (rc_of e t) (ih (t + 1))
theorem okT_of {G:Glob} {φ:Fz} {e:Expr} {a:Addr} {t:Nat} (h:e=rcT e) (k:φ a=some (tuO (cVs (tpE e) t))):VR G φ (.ref a) (litD e):=by
 rw [h] at k ⊢
 exact .tup k rfl rfl (vrs_of _ t)
theorem vre_of {G:Glob} {φ:Fz} {h:Heap} (lift:∀a vs,h.get? a=some (tuO vs)→φ a=some (tuO vs)) (l:List (Str×Expr)):∀i,(shA i l).map h.get?=(shT i l).map some→(l.map fun p=>p.2)=(l.map fun p=>rcT p.2)→VRe G φ (shE G.w.params i l) (l.map fun p=>(p.1,litD p.2)):=by
 induction l with
 | nil=>exact fun _ _ _=>.nil
 | cons p l ih=>
  intro i e k
  obtain ⟨a,b⟩:=List.cons_eq_cons.mp k
  obtain ⟨e1,e2⟩:=List.cons_eq_cons.mp e
  exact .cons rfl (okT_of a (lift _ _ e1)) (ih (i + 1) e2 b)
theorem sh_all:(shL.map fun p=>p.2)=(shL.map fun p=>rcT p.2)∧shapes=shL.map (fun p=>(p.1,litD p.2))∧leavingD=litD (aVal 7)∧aVal 7=rcT (aVal 7):=⟨by kernel_rfl,by kernel_rfl,by kernel_rfl,by kernel_rfl⟩
theorem sh_nodup:(shapes.map (·.1)).Nodup:=by decide +kernel
theorem gG_mg (w:World) (os:OsState):(gG w os).mg=(H1 w.params).nsMap mainGlobals:=by kernel_rfl
theorem gC (w:World) (os:OsState):Consts (gG w os):=by
 have lift:∀a vs,(H1 w.params).get? a=some (tuO vs)→(gh w.params).get? a=some (tuO vs):=fun a vs e=>gk e fun q=>by cases q
 refine ⟨⟨.ref 85,?_,?_⟩,⟨.ref 175,?_,?_⟩⟩
 ·rw [gG_mg,←l_at.2.1];exact mg_at w.params (S_ "SHAPES",6) (List.mem_append_right _ (.tail _ (.head _)))
 ·have e:=vre_of (G:=gG w os) lift shL 0 (h_sh w.params) sh_all.1
  rw [←sh_all.2.1] at e
  exact .dct (l:=shE (gG w os).w.params 0 shL) (n:=85) (gk (h_law w.params).2.1 fun q=>by cases q) ⟨rfl,rfl,rfl⟩ rfl e sh_nodup (by decide)
 ·rw [gG_mg,←l_at.2.2.1];exact mg_at w.params (S_ "LEAVING",7) (List.mem_append_right _ (.tail _ (.tail _ (.head _))))
 ·rw [sh_all.2.2.1]
  exact okT_of sh_all.2.2.2 (lift _ _ (h_law w.params).2.2)
theorem ints_vr {G:Glob} {φ:Fz} {vs:List Value} {xs:List Int} (h:IntsAre vs xs):VRs G φ vs (xs.map D.int):=by
 induction h with
 | nil=>exact .nil
 | cons n t _ ih=>exact .cons (.int n t) ih
theorem hT_keeps {P:Params} {h:Heap} (k:∀b o,(H1 P).get? b=some o→h.get? b=some o):TabsAt tabs h:=fun q hq=>⟨(hT P q hq).1.keeps k,k _ _ (hT P q hq).2⟩
noncomputable def fz (h:Heap):Fz:=fun b=>if b=884 then none else h.get? b
noncomputable def st0:Sto:=fun b=>if b=884 then some (.tab #[]) else none
theorem fz_ne {h:Heap} {b:Addr} (n:b≠884):fz h b=h.get? b:=if_neg n
theorem law_ends {w:World} {s1:Shared} (hk:∀b o,(H1 w.params).get? b=some o→s1.heap.get? b=some o) (hg:s1.gens=#[]) {a:Addr} {vs:List Value} {xs:List Int} (hL:s1.heap.IsList a vs.toArray) (hI:IntsAre vs xs) (hz:xs.length≤1000):
  codeAny (model pw w) callerA (.call (.ref 887) ⟨[.ref a],[]⟩) (fun r s'=>r=.ok (.ret (.bool true))∧(∀b o,b≠884→s1.heap.get? b=some o→s'.heap.get? b=some o)∧(∃ps,s'.heap.get? 884=some (tabObj ps))∧s'.gens=#[]∧s'.os=s1.os) s1:=by
 have h8:=hk _ _ (h_tab w.params).1
 have R:RealC (gG w s1.os) [] [] (fz s1.heap) st0 s1:=by
  refine ⟨fun a o e=>?_,fun a o e=>?_,fun a x e=>?_,fun p hp=>(nomatch hp),fun p hp=>(nomatch hp),hg,rfl⟩
  ·have n:a≠884:=fun q=>by
    rw [q] at e
    have z:(gh w.params).get? 884=none:=hideAll_none _ (.head _)
    exact nomatch z.symm.trans e
   exact (fz_ne n).trans (hk _ _ (of_hideAll _ e))
  ·by_cases n:a=884
   ·rw [n] at e;exact nomatch (if_pos rfl:fz s1.heap 884=none).symm.trans e
   ·exact (fz_ne n).symm.trans e
  ·by_cases n:a=884
   ·rw [n] at e ⊢
    cases (if_pos rfl:st0 884=some (.tab #[])).symm.trans e
    exact .mk (if_pos rfl) _ h8 .tab
   ·exact nomatch (if_neg n:st0 a=none).symm.trans e
 obtain ⟨o,e,hc,n,hd⟩:=hL
 have ne:a≠884:=fun q=>by
  rw [q,h8] at e
  cases e
  cases hc
 have at_:∀{b:Addr} {o:Obj},b≠884→(H1 w.params).get? b=some o→fz s1.heap b=some o:=fun n e=>(fz_ne n).trans (hk _ _ e)
 have F:LawFn (gG w s1.os) (fz s1.heap) 887 886 884:=
  ⟨⟨_,_,lwO,_,_,at_ (by decide) (h_law w.params).1,rfl,rfl,rfl,rfl,rfl,rfl,rfl,rfl,rfl,at_ (by decide) (h_tab w.params).2.1,rfl,rfl⟩,
   ⟨(ghost_code (hT w.params)).1,4,_,by rw [gG_mg];exact h_bm _,by decide,gk (h_tab w.params).2.2.2 (fun q=>by cases q),rfl,rfl,rfl⟩⟩
 have hA:ACtx 301 callerA []:=⟨rfl,Nat.le_refl _,by decide,rfl,[],rfl,fun e he=>nomatch he⟩
 refine codeAny_mono (enter_law (gC w s1.os) hA (by decide) R F (if_pos rfl) (v:=.ref a) (xs:=xs.map D.int) (.lst ((fz_ne ne).trans e) hc hd (ints_vr hI)) (fun d hd=>?_) (by rw [List.length_map];exact hz)) fun r s' q=>?_
 ·obtain ⟨i,_,rfl⟩:=List.mem_map.mp hd
  exact ⟨i,rfl⟩
 ·obtain ⟨φ',σ',hr,le,R',ps,hp⟩:=q
  obtain ⟨_,o,ho,r⟩:=R'.sto _ _ hp
  obtain rfl:=r.inv
  exact ⟨hr,fun b o hb e=>R'.frz _ _ (le _ _ ((fz_ne hb).trans e)),⟨ps,ho⟩,R'.gens,R'.os⟩
theorem good {cl:Str→Option Addr} {mean:ExcName→Option Value} {args:List WData} {s1 s':Shared} (ht:TabsAt tabs s1.heap) (keep:∀b o,b≠884→s1.heap.get? b=some o→s'.heap.get? b=some o) (tab:∃ps,s'.heap.get? 884=some (tabObj ps)) (hg:s'.gens=#[]) (ho:s'.os=s1.os):
  GoodWG RW.row.claim cl mean args s1 (.ok (.ret (.bool true))) s':=by
 have t:=ht _ (.head _)
 obtain ⟨ps,hP⟩:=tab
 refine ⟨.inl ⟨.bool true,.bool true,[],rfl,fun _=>rfl,.bool _,by kernel_rfl,fun _=>⟨List.nodup_nil,fun _ h=>nomatch h⟩⟩,⟨fun b o e=>?_,fun b o e=>?_⟩,ho,.of_eq hg⟩
 ·by_cases hb:b=884
  ·subst hb
   cases t.2.symm.trans e
   exact .inr (.inl ⟨(t.1.tab t.2).isCodeTable,rfl,#[],ps,rfl,by rw [Array.empty_append];exact hP⟩)
  ·exact .inl (keep b o hb e)
 ·by_cases hb:b=884
  ·exact ⟨_,hb▸hP⟩
  ·exact ⟨o,keep b o hb e⟩
theorem law_fa {w:World} {s1:Shared} (hk:∀b o,(H1 w.params).get? b=some o→s1.heap.get? b=some o) {mg:Str→Option Value} (hm:s1.heap.Ns mainGlobals mg) {fa:Addr} (h:mg RW.name=some (.ref fa)):fa=887:=by
 obtain ⟨o,es,ep,e1,e2,_,e3⟩:=hm
 obtain ⟨o',es',ep',f1,f2,_,f3⟩:=(Heap.Ns.of_isNs (h_ns w.params).1).keeps hk
 cases e1.symm.trans f1
 cases e2.symm.trans f2
 have m:=mg_at w.params (S_ "law",109) (List.mem_append_right _ (.head _))
 rw [l_at.2.2.2,←f3] at m
 have h:mg (S_ "law")=some (.ref fa):=h
 rw [←e3,m] at h
 cases h;rfl
noncomputable def dL:DefRec:={ name:=RW.name,params:=sParams (stAt 109 0),body:=sBody (stAt 109 0),scope:=sScope (stAt 109 0),pos:=sPos (stAt 109 0) }
theorem fin.tw4077276001267931887:True:=trivial
theorem fin.tw14425372257497369089:True:=trivial
set_option Elab.async true in
theorem fin:PySem.Challenge.rw_pb0038_01.Holds:=by
 w_on;o_law
 refine holds_openX (q:=vq) (loose:=loo) (Xt:=Xq) (XP:=XL vq []) (Yf:=fun s=>s.heap) (Ya:=fun w=>H1 w.params) (d:=dL) (kwd:=[]) (N:=13784) h_left (fun s e=>xl_of s (Bool.and_eq_true_iff.mp e).1) XL.keeps (by kernel_rfl) (by kernel_rfl) (by kernel_rfl) (fun s e=>recFacts_of (Bool.and_eq_true_iff.mp e).2) (by rfl) (by first | assumption | decide +kernel) (by decide +kernel) ⟨rfl,rfl,rfl,rfl,rfl,by decide +kernel⟩ ?hw ?hc
 case hw=>w_witness2
 k_fill
 intro w s0 s1 mg mb G y fa o pm cd doc dV kV ho hd hcd hD hmg hg args vals as L hpre hlay hrd hwl hlo
 refine Ground.open G ?_;intro T B D TE TW;wrow_args hpre hlay hrd hwl hlo
 rename_i hL _ _ _ hI _ hz _
 have hk:∀b o,(H1 w.params).get? b=some o→s1.heap.get? b=some o:=fun b o e=>L.keeps b o ((congrArg (fun h=>h.get? b) y).trans e)
 obtain rfl:=law_fa hk T.g hmg
 refine wpAny_call (codeAny_mono (law_ends hk hg hL hI (by omega)) fun r s' q=>?_)
 obtain ⟨rfl,q1,q2,q3,q4⟩:=q
 exact good (hT_keeps hk) q1 q2 q3 q4
end Mine.Hd
end
theorem PySem.Challenge.cw_pb0038_01_holds : PySem.Challenge.rw_pb0038_01.Holds :=
 Mine.Hd.fin
