import PyProof.Rows.All
import Wide.All
import OpenK.AllK
import Wide.FinOn
import Lean
import PySem.Challenge.RW_qd0083_01
open PySem PySem.W PyProof.Rows
set_option Elab.async false
set_option maxRecDepth 100000
set_option linter.all false
set_option autoImplicit false
section
namespace Wk
inductive ZI {α:Type} (p0 p1:α→Prop):Prop
 | mk (a0:α) (h0:p0 a0) (h1:p1 a0):ZI p0 p1
inductive X1_3 {α:Type} (p0 p1 p2:α→Prop):Prop
 | mk (a0:α) (h0:p0 a0) (h1:p1 a0) (h2:p2 a0):X1_3 p0 p1 p2
inductive X1_4 {α:Type} (p0 p1 p2 p3:α→Prop):Prop
 | mk (a0:α) (h0:p0 a0) (h1:p1 a0) (h2:p2 a0) (h3:p3 a0):X1_4 p0 p1 p2 p3
inductive X1_5 {α:Type} (p0 p1 p2 p3 p4:α→Prop):Prop
 | mk (a0:α) (h0:p0 a0) (h1:p1 a0) (h2:p2 a0) (h3:p3 a0) (h4:p4 a0):X1_5 p0 p1 p2 p3 p4
inductive X1_6 {α:Type} (p0 p1 p2 p3 p4 p5:α→Prop):Prop
 | mk (a0:α) (h0:p0 a0) (h1:p1 a0) (h2:p2 a0) (h3:p3 a0) (h4:p4 a0) (h5:p5 a0):X1_6 p0 p1 p2 p3 p4 p5
inductive X2_2 {α β:Type} (p0 p1:α→β→Prop):Prop
 | mk (a0:α) (a1:β) (h0:p0 a0 a1) (h1:p1 a0 a1):X2_2 p0 p1
inductive WP {α β:Type} (p0 p1 p2:α→β→Prop):Prop
 | mk (a0:α) (a1:β) (h0:p0 a0 a1) (h1:p1 a0 a1) (h2:p2 a0 a1):WP p0 p1 p2
inductive X2_4 {α β:Type} (p0 p1 p2 p3:α→β→Prop):Prop
 | mk (a0:α) (a1:β) (h0:p0 a0 a1) (h1:p1 a0 a1) (h2:p2 a0 a1) (h3:p3 a0 a1):X2_4 p0 p1 p2 p3
inductive X2_5 {α β:Type} (p0 p1 p2 p3 p4:α→β→Prop):Prop
 | mk (a0:α) (a1:β) (h0:p0 a0 a1) (h1:p1 a0 a1) (h2:p2 a0 a1) (h3:p3 a0 a1) (h4:p4 a0 a1):X2_5 p0 p1 p2 p3 p4
inductive X2_6 {α β:Type} (p0 p1 p2 p3 p4 p5:α→β→Prop):Prop
 | mk (a0:α) (a1:β) (h0:p0 a0 a1) (h1:p1 a0 a1) (h2:p2 a0 a1) (h3:p3 a0 a1) (h4:p4 a0 a1) (h5:p5 a0 a1):X2_6 p0 p1 p2 p3 p4 p5
inductive X3_2 {α β γ:Type} (p0 p1:α→β→γ→Prop):Prop
 | mk (a0:α) (a1:β) (a2:γ) (h0:p0 a0 a1 a2) (h1:p1 a0 a1 a2):X3_2 p0 p1
inductive X3_4 {α β γ:Type} (p0 p1 p2 p3:α→β→γ→Prop):Prop
 | mk (a0:α) (a1:β) (a2:γ) (h0:p0 a0 a1 a2) (h1:p1 a0 a1 a2) (h2:p2 a0 a1 a2) (h3:p3 a0 a1 a2):X3_4 p0 p1 p2 p3
inductive X3_5 {α β γ:Type} (p0 p1 p2 p3 p4:α→β→γ→Prop):Prop
 | mk (a0:α) (a1:β) (a2:γ) (h0:p0 a0 a1 a2) (h1:p1 a0 a1 a2) (h2:p2 a0 a1 a2) (h3:p3 a0 a1 a2) (h4:p4 a0 a1 a2):X3_5 p0 p1 p2 p3 p4
inductive X3_6 {α β γ:Type} (p0 p1 p2 p3 p4 p5:α→β→γ→Prop):Prop
 | mk (a0:α) (a1:β) (a2:γ) (h0:p0 a0 a1 a2) (h1:p1 a0 a1 a2) (h2:p2 a0 a1 a2) (h3:p3 a0 a1 a2) (h4:p4 a0 a1 a2) (h5:p5 a0 a1 a2):X3_6 p0 p1 p2 p3 p4 p5
inductive X3_7 {α β γ:Type} (p0 p1 p2 p3 p4 p5 p6:α→β→γ→Prop):Prop
 | mk (a0:α) (a1:β) (a2:γ) (h0:p0 a0 a1 a2) (h1:p1 a0 a1 a2) (h2:p2 a0 a1 a2) (h3:p3 a0 a1 a2) (h4:p4 a0 a1 a2) (h5:p5 a0 a1 a2) (h6:p6 a0 a1 a2):X3_7 p0 p1 p2 p3 p4 p5 p6
inductive X4_4 {α β γ δ:Type} (p0 p1 p2 p3:α→β→γ→δ→Prop):Prop
 | mk (a0:α) (a1:β) (a2:γ) (a3:δ) (h0:p0 a0 a1 a2 a3) (h1:p1 a0 a1 a2 a3) (h2:p2 a0 a1 a2 a3) (h3:p3 a0 a1 a2 a3):X4_4 p0 p1 p2 p3
inductive X4_5 {α β γ δ:Type} (p0 p1 p2 p3 p4:α→β→γ→δ→Prop):Prop
 | mk (a0:α) (a1:β) (a2:γ) (a3:δ) (h0:p0 a0 a1 a2 a3) (h1:p1 a0 a1 a2 a3) (h2:p2 a0 a1 a2 a3) (h3:p3 a0 a1 a2 a3) (h4:p4 a0 a1 a2 a3):X4_5 p0 p1 p2 p3 p4
inductive X4_6 {α β γ δ:Type} (p0 p1 p2 p3 p4 p5:α→β→γ→δ→Prop):Prop
 | mk (a0:α) (a1:β) (a2:γ) (a3:δ) (h0:p0 a0 a1 a2 a3) (h1:p1 a0 a1 a2 a3) (h2:p2 a0 a1 a2 a3) (h3:p3 a0 a1 a2 a3) (h4:p4 a0 a1 a2 a3) (h5:p5 a0 a1 a2 a3):X4_6 p0 p1 p2 p3 p4 p5
inductive X4_7 {α β γ δ:Type} (p0 p1 p2 p3 p4 p5 p6:α→β→γ→δ→Prop):Prop
 | mk (a0:α) (a1:β) (a2:γ) (a3:δ) (h0:p0 a0 a1 a2 a3) (h1:p1 a0 a1 a2 a3) (h2:p2 a0 a1 a2 a3) (h3:p3 a0 a1 a2 a3) (h4:p4 a0 a1 a2 a3) (h5:p5 a0 a1 a2 a3) (h6:p6 a0 a1 a2 a3):X4_7 p0 p1 p2 p3 p4 p5 p6
inductive X4_8 {α β γ δ:Type} (p0 p1 p2 p3 p4 p5 p6 p7:α→β→γ→δ→Prop):Prop
 | mk (a0:α) (a1:β) (a2:γ) (a3:δ) (h0:p0 a0 a1 a2 a3) (h1:p1 a0 a1 a2 a3) (h2:p2 a0 a1 a2 a3) (h3:p3 a0 a1 a2 a3) (h4:p4 a0 a1 a2 a3) (h5:p5 a0 a1 a2 a3) (h6:p6 a0 a1 a2 a3) (h7:p7 a0 a1 a2 a3):X4_8 p0 p1 p2 p3 p4 p5 p6 p7
inductive X4_9 {α β γ δ:Type} (p0 p1 p2 p3 p4 p5 p6 p7 p8:α→β→γ→δ→Prop):Prop
 | mk (a0:α) (a1:β) (a2:γ) (a3:δ) (h0:p0 a0 a1 a2 a3) (h1:p1 a0 a1 a2 a3) (h2:p2 a0 a1 a2 a3) (h3:p3 a0 a1 a2 a3) (h4:p4 a0 a1 a2 a3) (h5:p5 a0 a1 a2 a3) (h6:p6 a0 a1 a2 a3) (h7:p7 a0 a1 a2 a3) (h8:p8 a0 a1 a2 a3):X4_9 p0 p1 p2 p3 p4 p5 p6 p7 p8
inductive X4_10 {α β γ δ:Type} (p0 p1 p2 p3 p4 p5 p6 p7 p8 p9:α→β→γ→δ→Prop):Prop
 | mk (a0:α) (a1:β) (a2:γ) (a3:δ) (h0:p0 a0 a1 a2 a3) (h1:p1 a0 a1 a2 a3) (h2:p2 a0 a1 a2 a3) (h3:p3 a0 a1 a2 a3) (h4:p4 a0 a1 a2 a3) (h5:p5 a0 a1 a2 a3) (h6:p6 a0 a1 a2 a3) (h7:p7 a0 a1 a2 a3) (h8:p8 a0 a1 a2 a3) (h9:p9 a0 a1 a2 a3):X4_10 p0 p1 p2 p3 p4 p5 p6 p7 p8 p9
inductive X5_4 {α β γ δ ε:Type} (p0 p1 p2 p3:α→β→γ→δ→ε→Prop):Prop
 | mk (a0:α) (a1:β) (a2:γ) (a3:δ) (a4:ε) (h0:p0 a0 a1 a2 a3 a4) (h1:p1 a0 a1 a2 a3 a4) (h2:p2 a0 a1 a2 a3 a4) (h3:p3 a0 a1 a2 a3 a4):X5_4 p0 p1 p2 p3
inductive X5_6 {α β γ δ ε:Type} (p0 p1 p2 p3 p4 p5:α→β→γ→δ→ε→Prop):Prop
 | mk (a0:α) (a1:β) (a2:γ) (a3:δ) (a4:ε) (h0:p0 a0 a1 a2 a3 a4) (h1:p1 a0 a1 a2 a3 a4) (h2:p2 a0 a1 a2 a3 a4) (h3:p3 a0 a1 a2 a3 a4) (h4:p4 a0 a1 a2 a3 a4) (h5:p5 a0 a1 a2 a3 a4):X5_6 p0 p1 p2 p3 p4 p5
inductive X5_9 {α β γ δ ε:Type} (p0 p1 p2 p3 p4 p5 p6 p7 p8:α→β→γ→δ→ε→Prop):Prop
 | mk (a0:α) (a1:β) (a2:γ) (a3:δ) (a4:ε) (h0:p0 a0 a1 a2 a3 a4) (h1:p1 a0 a1 a2 a3 a4) (h2:p2 a0 a1 a2 a3 a4) (h3:p3 a0 a1 a2 a3 a4) (h4:p4 a0 a1 a2 a3 a4) (h5:p5 a0 a1 a2 a3 a4) (h6:p6 a0 a1 a2 a3 a4) (h7:p7 a0 a1 a2 a3 a4) (h8:p8 a0 a1 a2 a3 a4):X5_9 p0 p1 p2 p3 p4 p5 p6 p7 p8
inductive X5_10 {α β γ δ ε:Type} (p0 p1 p2 p3 p4 p5 p6 p7 p8 p9:α→β→γ→δ→ε→Prop):Prop
 | mk (a0:α) (a1:β) (a2:γ) (a3:δ) (a4:ε) (h0:p0 a0 a1 a2 a3 a4) (h1:p1 a0 a1 a2 a3 a4) (h2:p2 a0 a1 a2 a3 a4) (h3:p3 a0 a1 a2 a3 a4) (h4:p4 a0 a1 a2 a3 a4) (h5:p5 a0 a1 a2 a3 a4) (h6:p6 a0 a1 a2 a3 a4) (h7:p7 a0 a1 a2 a3 a4) (h8:p8 a0 a1 a2 a3 a4) (h9:p9 a0 a1 a2 a3 a4):X5_10 p0 p1 p2 p3 p4 p5 p6 p7 p8 p9
inductive X6_5 {α β γ δ ε ζ:Type} (p0 p1 p2 p3 p4:α→β→γ→δ→ε→ζ→Prop):Prop
 | mk (a0:α) (a1:β) (a2:γ) (a3:δ) (a4:ε) (a5:ζ) (h0:p0 a0 a1 a2 a3 a4 a5) (h1:p1 a0 a1 a2 a3 a4 a5) (h2:p2 a0 a1 a2 a3 a4 a5) (h3:p3 a0 a1 a2 a3 a4 a5) (h4:p4 a0 a1 a2 a3 a4 a5):X6_5 p0 p1 p2 p3 p4
inductive X6_11 {α β γ δ ε ζ:Type} (p0 p1 p2 p3 p4 p5 p6 p7 p8 p9 p10:α→β→γ→δ→ε→ζ→Prop):Prop
 | mk (a0:α) (a1:β) (a2:γ) (a3:δ) (a4:ε) (a5:ζ) (h0:p0 a0 a1 a2 a3 a4 a5) (h1:p1 a0 a1 a2 a3 a4 a5) (h2:p2 a0 a1 a2 a3 a4 a5) (h3:p3 a0 a1 a2 a3 a4 a5) (h4:p4 a0 a1 a2 a3 a4 a5) (h5:p5 a0 a1 a2 a3 a4 a5) (h6:p6 a0 a1 a2 a3 a4 a5) (h7:p7 a0 a1 a2 a3 a4 a5) (h8:p8 a0 a1 a2 a3 a4 a5) (h9:p9 a0 a1 a2 a3 a4 a5) (h10:p10 a0 a1 a2 a3 a4 a5):X6_11 p0 p1 p2 p3 p4 p5 p6 p7 p8 p9 p10
theorem ltb {a b:Nat} (h:Nat.ble (a+1) b=true):a < b:=Nat.le_of_ble_eq_true h
theorem ne_off {t a b:Nat} (h:a≠b):t+a≠t+b:=fun q=>h (Nat.add_left_cancel q)
theorem mI {α:Type} {l:List α} {x:α} {n:Nat} (h:l[n]? =some x):x∈l:=List.mem_of_getElem? h
inductive All {α:Type} (Q:α→Prop):List α→Prop
 | nil:All Q []
 | cons {a:α} {l:List α}:Q a→All Q l→All Q (a::l)
theorem All.mem {α:Type} {Q:α→Prop} {l:List α} (h:All Q l):∀x∈l,Q x:=by
 induction h with
 | nil=>exact fun _ h=>nomatch h
 | cons a _ ih=>exact fun x h=>(List.mem_cons.mp h).elim (fun e=>e▸a) (ih x)
end Wk
end
section
namespace Mine
noncomputable abbrev pw:Program:=PySem.Challenge.pw_qd0083_01
noncomputable def st (i:Nat):Stmt:=pw.main.body.getD i (.Pass ⟨0,0,0,0⟩)
noncomputable def clsBody:Stmt→List Stmt
 | .ClassDef _ _ _ body _ _ _ _ _ _ _=>body
 | _=>[]
noncomputable def sm (i j:Nat):Stmt:=(clsBody (st i)).getD j (.Pass ⟨0,0,0,0⟩)
noncomputable def zc:Stmt→Str
 | .FunctionDef n _ _ _ _ _ _ _ _ _=>n
 | _=>Str.empty
noncomputable def jJ:Stmt→Arguments
 | .FunctionDef _ a _ _ _ _ _ _ _ _=>a
 | _=>⟨[],[],none,[],[],none,[]⟩
noncomputable def YB:Stmt→List Stmt
 | .FunctionDef _ _ b _ _ _ _ _ _ _=>b
 | _=>[]
noncomputable def zn:Stmt→Scope
 | .FunctionDef _ _ _ _ _ _ s _ _ _=>s
 | _=>⟨.function,[],false,false,[]⟩
noncomputable abbrev N:Value:=.none
noncomputable abbrev tt:Value:=.bool true
noncomputable abbrev ff:Value:=.bool false
noncomputable abbrev J (i:Int):Value:=.int i 0
noncomputable abbrev I (i:Int) (t:Nat):Value:=.int i t
noncomputable abbrev S (s:String) (t:Nat):Value:=.str (Str.ofString s) t
noncomputable abbrev Y (n:String):Value:=.type n
noncomputable abbrev U (n:String):Value:=.builtin n
noncomputable abbrev R (a:Nat):Value:=.ref a
noncomputable abbrev E (P:Params) (x:String) (t:Nat) (v:Value):DictEntry:=⟨PyData.keyHash P (Str.ofString x),.str (Str.ofString x) t,v⟩
noncomputable abbrev F (i:Int) (t:Nat) (v:Value):DictEntry:=⟨i,.int i t,v⟩
noncomputable abbrev tup (l:List Value):Obj:={cls:=.type "tuple",data:=.seq l.toArray 0}
noncomputable abbrev rec (c:Value) (l:List Value):Obj:={cls:=c,data:=.fields l.toArray}
noncomputable abbrev dic (c:Value) (l:List DictEntry) (n:Nat):Obj:={cls:=c,data:=.dict l.toArray n}
noncomputable abbrev pln (c:Value) (d:Option Nat) (l:List (Option Value)):Obj:={cls:=c,dict:=d,data:=.plain,slots:=l.toArray}
noncomputable abbrev fun_ (c:Value) (s:Stmt) (q:Str) (g:Nat) (dV pm cd:Value):Obj:=
 {cls:=c,data:=.func {name:=zc s,qualname:=q,params:=jJ s,body:=.stmts (YB s),scope:=zn s,globals:=g,closure:=[],defaults:=dV,kwdefaults:=N,pyModule:=pm,code:=cd,builtins:=0}}
noncomputable def dPos:Stmt→Pos
 | .FunctionDef _ _ _ _ _ _ _ _ _ p=>p
 | .ClassDef _ _ _ _ _ _ _ _ _ _ p=>p
 | _=>⟨0,0,0,0⟩
noncomputable def cName:Stmt→Str
 | .ClassDef n _ _ _ _ _ _ _ _ _ _=>n
 | _=>Str.empty
noncomputable def cStat:Stmt→List Str
 | .ClassDef _ _ _ _ _ _ _ _ _ l _=>l
 | _=>[]
noncomputable abbrev ES (P:Params) (x:Str) (t:Nat) (v:Value):DictEntry:=⟨PyData.keyHash P x,.str x t,v⟩
noncomputable abbrev Q (s:Str) (t:Nat):Value:=.str s t
noncomputable def qs (t:Nat):List Str→List Value
 | []=>[]
 | s::r=>Q s t::qs (t+1) r
noncomputable def fl:Str:=Str.ofString "/claim/cut.py"
noncomputable abbrev ln (s:Stmt):Value:=J (Int.ofNat (dPos s).line)
noncomputable def coD (n q:Str) (t u:Nat) (l:Value) (ac fg:Int) (xs:List Value):Obj:=rec (Y "code") ([Q n t,Q q (t+1),Q fl (t+2),l,J ac,J 0,J 0,J fg]++(xs++[J u,l,Q fl (u+1)]))
noncomputable abbrev ac (s:Stmt):Int:=(jJ s).args.length
noncomputable def vn (s:Stmt):List Str:=((localNames (jJ s) (zn s) (.stmts (YB s))).getD ([],[])).1
noncomputable def F7 (a t:Nat) (s:Stmt) (q:Str) (m d:Value):List Obj:=
 [tup [],rec N [],tup (qs (t+3) (vn s)),tup [],fun_ N s q 0 N N N,coD (zc s) q t (t+3+(vn s).length) (ln s) (ac s) 3 [R a,tt,J 181,R (a+1),N,R (a+2),R (a+3),R (a+4)],fun_ (Y "function") s q 3 d m (R (a+5))]
noncomputable def F5 (a t:Nat) (s:Stmt) (q:Str) (m d:Value):List Obj:=
 [tup [],rec N [],fun_ N s q 0 N N N,coD (zc s) q t (t+3) (ln s) (ac s) 3 [R a,tt,J 181,R (a+1),N,N,N,R (a+2)],fun_ (Y "function") s q 3 d m (R (a+3))]
noncomputable def qn (i j:Nat):Str:=⟨((cName (st i)).cps.toList++46::(zc (sm i j)).cps.toList).toArray⟩
noncomputable def G7 (i j a t:Nat):Value→Value→List Obj:=F7 a t (sm i j) (qn i j)
noncomputable def G5 (i j a t:Nat):Value→Value→List Obj:=F5 a t (sm i j) (qn i j)
noncomputable abbrev Ms:=List (Nat×Nat×Nat)
section
variable (P:Params)
noncomputable def mE (i:Nat) (ms:Ms):List DictEntry:=ms.map fun x=>ES P (zc (sm i x.1)) x.2.1 (R x.2.2)
noncomputable def cA (a t i:Nat) (m:Value) (bs:List Value) (ms:Ms) (k x:Nat):List Obj:=
 [tup bs,rec (Y "builtin_function_or_method") [U "type.__prepare__",Y "type"],
  dic (Y "dict") (E P "__module__" (t+7) m::E P "__qualname__" (t+9) (Q (cName (st i)) (t+8))::E P "__firstlineno__" (t+11) (I (Int.ofNat (dPos (st i)).line) (t+10))::(mE P i ms++[E P "__static_attributes__" k (R x)])) (ms.length+4),
  tup [],rec N (ms.flatMap fun y=>[ln (sm i y.1),J 4,R (y.2.2 - 1)]),coD (cName (st i)) (cName (st i)) (t+2) (t+5) (ln (st i)) 0 0 [R (a+3),ff,J 181,R (a+4),N,N,N,N],
  pln (Y "frame") none [some (R (a+5)),some (R 3),some (R (a+2)),none,some m,none,some (R 0)]]
noncomputable def gS (k c:Nat):Nat→List Obj
 | 0=>[]
 | 1=>[rec (Y "getset_descriptor") [S "__weakref__" (k+1),R c,U "ExceptionGroup.__weakref__",N]]
 | _=>[rec (Y "getset_descriptor") [S "__dict__" (k+1),R c,U "function.__dict__",U "function.__dict__#set"],rec (Y "getset_descriptor") [S "__weakref__" (k+3),R c,U "ExceptionGroup.__weakref__",N]]
noncomputable def gE (k c:Nat):Nat→List DictEntry
 | 0=>[E P "__doc__" (k+1) N]
 | 1=>[E P "__weakref__" (k+2) (R (c+1)),E P "__doc__" (k+3) N]
 | _=>[E P "__dict__" (k+2) (R (c+1)),E P "__weakref__" (k+4) (R (c+2)),E P "__doc__" (k+5) N]
noncomputable def cZ (a t i:Nat) (m:Value) (bs mro:List Value) (nw:String) (sub:List Value) (b:Bool) (ms:Ms) (k x g:Nat):List Obj:=
 let c:=x+2
 let n:=cName (st i)
 [tup (qs (k - (cStat (st i)).length) (cStat (st i))),dic (Y "dict") (E P "__module__" (t+7) m::E P "__firstlineno__" (t+11) (I (Int.ofNat (dPos (st i)).line) (t+10))::(mE P i ms++E P "__static_attributes__" k (R x)::gE P k c g)) (g+2),
  {cls:=Y "type",data:=.cls {name:=n,bases:=bs,mro:=R c::mro,ns:=x+1,qualname:=n,subclasses:=sub},slots:=[bif b then some (R a) else none,none,some (Q n t),some (Q n (t+8)),some (U nw),some tt].toArray}]++(gS k c g++
 [rec (Y "super") [R c,R c,R c],rec (Y "builtin_function_or_method") [U "object.__init_subclass__",R c]])
noncomputable def ci (t:Nat):List (String×Int)→List DictEntry
 | []=>[]
 | (n,v)::r=>E P n (t+1) (I v t)::ci (t+2) r
noncomputable def cr (l:List (String×Nat×Nat)):List DictEntry:=l.map fun x=>E P x.1 x.2.1 (R x.2.2)
end
noncomputable def flat (l:List (Int×Nat)):List Value:=l.flatMap fun x=>[J x.1,J 0,R x.2]
noncomputable def nw (d t:Nat):List (Int×String)→List DictEntry
 | []=>[]
 | (k,s)::r=>F k t (S s (t+1))::nw d (t+d) r
noncomputable def alt:List Obj→List Obj
 | x::_::r=>x::alt r
 | l=>l
noncomputable def mkT:Nat→List Obj→BT
 | f+1,x::r=>.node x (mkT f (alt r)) (mkT f (alt r.tail))
 | _,_=>.nil
noncomputable def q0:Value:=S "kindkeep.nodes" 194
noncomputable def q1:Value:=S "kindkeep.diags" 554
noncomputable def q2:Value:=S "kindkeep.types" 790
noncomputable def q3:Value:=S "kindkeep.binder" 1122
noncomputable def q4:Value:=S "kindkeep.ccore" 1158
noncomputable def q5:Value:=S "kindkeep.cstmt" 1938
noncomputable def q6:Value:=S "kindkeep.hosts" 2141
noncomputable def q7:Value:=S "__main__" 164
noncomputable def q8:Value:=S "law_qd0083_01" 2332
noncomputable def gl (P:Params) (m:Value):List DictEntry:=E P "__name__" 165 m::([E P "__doc__" 166 N,E P "__package__" 167 N,E P "__loader__" 168 (U "__main__.__loader__#opaque"),E P "__spec__" 169 N]++cr P [("__annotations__",170,6),("__builtins__",171,4)]++[E P "__file__" 173 (S "/claim/cut.py" 172),E P "__cached__" 174 N]++cr P [("_wall",193,21)]++ci P 196 [("K_NULL",6),("K_NAME",8),("K_FUNC",27),("K_EXPRST",43),("K_SWITCH",50),("K_CASE",51),("K_BREAK",53),("K_THROW",56),("K_TRY",57),("K_CATCH",58),("K_BLOCK",59),("K_CLASS",61),("K_ENUM",66),("K_EXPORT",70),("K_LIST",71),("F_DECL",16),("F_AMBIENT",4194304)]++cr P [("NODE_WORDS",497,22),("Node",535,44),("twig",545,55),("has",553,62)]++ci P 556 [("U_ANY",1),("U_DECL",19)]++cr P [("KeepError",590,80),("TooDeep",619,101),("HostFault",646,121),("Diag",688,147),("Diags",735,181),("Notes",789,223)]++ci P 792 [("Y_KEY",1),("Y_BOOL",2),("Y_STR",3),("Y_NUM",4),("Y_ENUM",5),("Y_UNION",6),("Y_OBJ",8),("Y_ARRAY",11),("Y_TUPLE",12),("Y_SIG",13),("Y_TPL",18),("ANY",0),("UNKNOWN",1),("NEVER",2),("VOID",3),("UNDEF",4),("NULLT",5),("STRING",6),("NUMBER",7),("FALSE_T",8),("TRUE_T",9),("ERR",13),("FRESH_F",14),("FRESH_T",15),("P_READONLY",2),("E_NEED",0),("E_OPT",1),("E_REST",2),("E_SPREAD",3),("MAX_UNION",400)]++cr P [("FIRST_ROWS",873,250),("MARKED_ROWS",874,251),("TypeTable",929,282),("kind_of",937,293),("str_type",947,301),("num_type",957,309),("bool_type",967,317),("array_type",977,325),("last_mark",987,332),("needed_to_last",1000,339),("one_rest",1014,346),("tuple_type",1021,352),("sig_type",1034,361),("parts_of",1043,368),("whole_of_row",1051,375),("regular_twin",1060,382),("join_bools",1067,389),("stays_beside",1076,396),("top_of",1084,403),("union",1090,408),("add_undef",1098,415),("is_fresh",1107,422),("regular_one",1115,429),("regular",1121,434),("Bound",1157,451)]++ci P 1160 [("MOST_DEEP",50)]++cr P [("StmtRule",1190,472),("Guard",1242,507),("Judge",1351,584),("PlainJudge",1397,619),("plain_part",1406,628),("ccore_plain_fits",1419,635),("ccore_plain_meets",1430,642),("Patterns",1481,673),("Giver",1511,694),("Places",1549,722),("FuncRule",1579,743),("Sheet",1868,918),("expr_kind",1878,929),("check_stmt",1888,936),("stays_told",1894,941),("take_back",1900,946),("tried_kind",1911,953),("given_kind",1922,960),("want_fit",1937,967),("ExprStRule",1964,984),("NothingRule",1989,1003),("inner_stmt",1996,1012),("is_head",2003,1019),("follow_fault",2013,1026),("check_rows",2019,1031),("BlockRule",2044,1048),("case_fault",2054,1057),("SwitchRule",2081,1074),("ThrowRule",2106,1093),("check_catch",2115,1102),("TryRule",2140,1119)]++ci P 2143 [("MOST_ROUNDS",200),("MOST_SHAPES",40)]++cr P [("Thin",2331,1264),("_law_masks",2353,1269),("_law_draw",2364,1276),("_law_next",2371,1283),("_law_join",2377,1288),("_law_plain",2387,1295),("_law_cells",2393,1300),("_law_expr",2405,1307),("_law_rows",2416,1314),("_law_stmt",2438,1321),("_law_atom",2447,1328),("_law_type",2453,1333),("_law_node",2464,1340),("_law_value",2472,1347),("_law_block",2478,1352),("_law_made",2497,1359),("_law_seen",2505,1366),("_law_room",2513,1373),("_law_meets",2519,1378),("_law_check",2534,1385),("_law_look",2555,1392),("_law_sheet",2564,1399),("law",2570,1404)])
noncomputable def ps:List Value:=flat [(1,20),(23,33),(32,54),(34,61),(39,68),(44,89),(49,109),(54,129),(64,157),(75,191),(124,257),(150,292),(152,300),(154,308),(156,316),(158,324),(160,331),(166,338),(176,345),(187,351),(195,360),(197,367),(204,374),(213,381),(218,388),(222,395),(226,402),(231,407),(248,414),(250,421),(253,428),(257,433),(262,440),(273,461),(277,482),(287,517),(315,594),(325,627),(333,634),(346,641),(354,648),(367,683),(371,704),(378,732),(383,753),(515,928),(530,935),(546,940),(550,945),(569,952),(578,959),(591,966),(602,973),(606,992),(610,1011),(612,1018),(616,1025),(624,1030),(633,1037),(637,1056),(642,1063),(650,1082),(654,1101),(660,1108),(671,1127),(734,1275),(739,1282),(742,1287),(763,1294),(768,1299),(771,1306),(780,1313),(786,1320),(814,1327),(822,1332),(828,1339),(832,1346),(837,1351),(839,1358),(865,1365),(870,1372),(873,1377),(882,1384),(893,1391),(916,1398),(927,1403)]
noncomputable def wds:List DictEntry:=nw 3 230 [(1,"number"),(2,"text"),(3,"template"),(4,"true"),(5,"false"),(6,"null"),(7,"undefined"),(8,"name"),(9,"this"),(10,"super"),(11,"array literal"),(12,"object literal"),(13,"property"),(14,"short property"),(15,"spread"),(16,"member"),(17,"index"),(18,"call"),(19,"new"),(20,"optional chain"),(21,"unary operator"),(22,"update"),(23,"binary operator"),(24,"logical operator"),(25,"assignment"),(26,"choice"),(27,"function"),(28,"parameter"),(29,"as"),(30,"as const"),(31,"satisfies"),(32,"non-null mark"),(33,"parentheses"),(34,"object pattern"),(35,"array pattern"),(36,"binding"),(40,"file"),(41,"variable statement"),(42,"declarator"),(43,"expression statement"),(44,"if"),(45,"while"),(46,"do"),(47,"for"),(48,"for of"),(49,"for in"),(50,"switch"),(51,"case"),(52,"return"),(53,"break"),(54,"continue"),(55,"label"),(56,"throw"),(57,"try"),(58,"catch"),(59,"block"),(60,"empty statement"),(61,"class"),(62,"field"),(63,"index signature"),(64,"interface"),(65,"type alias"),(66,"enum"),(67,"enum member"),(68,"impor\x74"),(69,"imported name"),(70,"export"),(71,"row of nodes"),(80,"keyword type"),(81,"type name"),(82,"literal type"),(83,"union type"),(84,"intersection type"),(85,"array type"),(86,"tuple type"),(87,"tuple element"),(88,"object type"),(89,"keyof"),(90,"indexed type"),(91,"mapped type"),(92,"conditional type"),(93,"infer"),(94,"template type"),(95,"typeof type"),(96,"predicate")]++nw 2 485 [(97,"readonly type"),(98,"type parentheses"),(99,"property signature"),(100,"type parameter")]
noncomputable abbrev wd (i:Nat):Obj:=dic (Y "dict") ((wds.drop (17*i)).take 17) (min 17 (89 - 17*i))
noncomputable def l_o (P:Params):List Obj:=
 [boot_o_0 P,dic (Y "dict") [E P "builtins" 162 (R 4),E P "__main__" 163 (R 5)] 2,dic N [E P "type.__subclasses__.Exception.0" 587 (J 80),E P "type.__subclasses__.Exception.n" 588 (J 1)] 2,dic (Y "dict") (gl P q8) 151,pln (Y "module") (some 0) [],pln (Y "module") (some 3) [],dic (Y "dict") [] 0,tup [],rec N [],rec (Y "code") [S "<module>" 176,S "<module>" 177,S "/claim/cut.py" 178,J 1,J 0,J 0,J 0,J 0,R 7,ff,J 175,R 8,N,N,N,N,J 179,J 1,S "/claim/cut.py" 180],pln (Y "frame") none [some (R 9),some (R 3),some (R 3),none,some q7,none,some (R 0)],tup [],rec N ps,rec (Y "code") [S "<module>" 182,S "<module>" 183,S "/claim/cut.py" 184,J 1,J 0,J 0,J 0,J 0,R 11,ff,J 181,R 12,N,N,N,N,J 185,J 1,S "/claim/cut.py" 186],pln (Y "frame") none [some (R 13),some (R 3),some (R 3),none,some q7,none,some (R 0)]]++(
 F7 15 187 (st 0) (zc (st 0)) q7 N++(
 [dic (Y "dict") wds 89,wd 1,wd 2,wd 3,wd 4,wd 5]++(
 cA P 28 498 20 q0 [] [(0,521,41)] 528 42++(
 G7 20 0 35 510 q0 N++(
 cZ P 28 498 20 q0 [Y "object"] [Y "object"] "object.__new__" [] false [(0,521,41)] 528 42 2++(
 F7 49 536 (st 21) (zc (st 21)) q0 N++(
 F7 56 546 (st 22) (zc (st 22)) q0 N++(
 cA P 63 560 26 q1 [Y "Exception"] [(0,580,77)] 583 78++(
 [tup [S "" 572]]++(
 G7 26 0 71 573 q1 (R 70)++(
 cZ P 63 560 26 q1 [Y "Exception"] [Y "Exception",Y "BaseException",Y "object"] "Exception.__new__" [R 101,R 121] true [(0,580,77)] 583 78 1++(
 cA P 84 591 27 q1 [R 80] [(0,613,98)] 616 99++(
 [tup [I 2589 603,S "" 604]]++(
 G7 27 0 92 605 q1 (R 91)++(
 cZ P 84 591 27 q1 [R 80] [R 80,Y "Exception",Y "BaseException",Y "object"] "Exception.__new__" [] true [(0,613,98)] 616 99 0++(
 cA P 104 620 28 q1 [R 80] [(0,640,118)] 643 119++(
 [tup [S "" 632]]++(
 G7 28 0 112 633 q1 (R 111)++(
 cZ P 104 620 28 q1 [R 80] [R 80,Y "Exception",Y "BaseException",Y "object"] "Exception.__new__" [] true [(0,640,118)] 643 119 0++(
 cA P 124 647 29 q1 [] [(0,669,137),(1,676,144)] 681 145++(
 G7 29 0 131 659 q1 N++(
 G7 29 1 138 670 q1 N++(
 cZ P 124 647 29 q1 [Y "object"] [Y "object"] "object.__new__" [] false [(0,669,137),(1,676,144)] 681 145 2++(
 cA P 152 689 30 q1 [] [(0,709,166),(1,719,173),(2,725,178)] 728 179++(
 [tup [S "" 701]]++(
 G7 30 0 160 702 q1 (R 159)++(
 G7 30 1 167 710 q1 N++(
 G5 30 2 174 720 q1 N++(
 cZ P 152 689 30 q1 [Y "object"] [Y "object"] "object.__new__" [] false [(0,709,166),(1,719,173),(2,725,178)] 728 179 2++(
 cA P 186 736 31 q1 [] [(0,754,199),(1,763,206),(2,773,213),(3,780,220)] 782 221++(
 G7 31 0 193 748 q1 N++(
 G7 31 1 200 755 q1 N++(
 G7 31 2 207 764 q1 N++(
 G7 31 3 214 774 q1 N++(
 cZ P 186 736 31 q1 [Y "object"] [Y "object"] "object.__new__" [] false [(0,754,199),(1,763,206),(2,773,213),(3,780,220)] 782 221 2++(
 [tup [I 1 792,S "any" 852],tup [I 1 792,S "unknown" 853],tup [I 1 792,S "never" 854],tup [I 1 792,S "void" 855],tup [I 1 792,S "undefined" 856],tup [I 1 792,S "null" 857],tup [I 1 792,S "string" 858],tup [I 1 792,S "number" 859],tup [I 2 794,I 0 860,I 0 861],tup [I 2 794,I 1 862,I 0 863],tup [I 1 792,S "object" 864],tup [],tup [],tup [],tup [],tup [],tup [I 8 804,R 239,R 240,R 241,R 242,R 243,I 0 865],tup [I 8 866,I 9 867],tup [I 6 802,R 245],tup [I 1 792,S "error" 868],tup [I 2 794,I 0 869,I 1 870],tup [I 2 794,I 1 871,I 1 872],tup [R 228,R 229,R 230,R 231,R 232,R 233,R 234,R 235,R 236,R 237,R 238,R 244,R 246,R 247,R 248,R 249],tup [I 2 794,I 3 796,I 4 798,I 5 800,I 8 804]]++(
 cA P 252 875 65 q2 [] [(0,894,265),(1,902,272),(2,911,279)] 922 280++(
 G7 65 0 259 887 q2 N++(
 G7 65 1 266 895 q2 N++(
 G7 65 2 273 903 q2 N++(
 cZ P 252 875 65 q2 [Y "object"] [Y "object"] "object.__new__" [] false [(0,894,265),(1,902,272),(2,911,279)] 922 280 2++(
 F7 287 930 (st 66) (zc (st 66)) q2 N++(
 [tup [I 0 938]]++(
 F7 295 939 (st 67) (zc (st 67)) q2 (R 294)++(
 [tup [I 0 948]]++(
 F7 303 949 (st 68) (zc (st 68)) q2 (R 302)++(
 [tup [I 0 958]]++(
 F7 311 959 (st 69) (zc (st 69)) q2 (R 310)++(
 [tup [I 0 968]]++(
 F7 319 969 (st 70) (zc (st 70)) q2 (R 318)++(
 F7 326 978 (st 71) (zc (st 71)) q2 N++(
 F7 333 988 (st 72) (zc (st 72)) q2 N++(
 F7 340 1001 (st 73) (zc (st 73)) q2 N++(
 [tup [I 0 1015]]++(
 F5 348 1016 (st 74) (zc (st 74)) q2 (R 347)++(
 [tup [],tup [R 353,I 0 1022]]++(
 F7 355 1023 (st 75) (zc (st 75)) q2 (R 354)++(
 F7 362 1035 (st 76) (zc (st 76)) q2 N++(
 F7 369 1044 (st 77) (zc (st 77)) q2 N++(
 F7 376 1052 (st 78) (zc (st 78)) q2 N++(
 F7 383 1061 (st 79) (zc (st 79)) q2 N++(
 F7 390 1068 (st 80) (zc (st 80)) q2 N++(
 F7 397 1077 (st 81) (zc (st 81)) q2 N++(
 F5 404 1085 (st 82) (zc (st 82)) q2 N++(
 F7 409 1091 (st 83) (zc (st 83)) q2 N++(
 F7 416 1099 (st 84) (zc (st 84)) q2 N++(
 F7 423 1108 (st 85) (zc (st 85)) q2 N++(
 F5 430 1116 (st 86) (zc (st 86)) q2 N++(
 cA P 435 1124 88 q3 [] [(0,1143,448)] 1150 449++(
 G7 88 0 442 1136 q3 N++(
 cZ P 435 1124 88 q3 [Y "object"] [Y "object"] "object.__new__" [] false [(0,1143,448)] 1150 449 2++(
 cA P 456 1162 91 q4 [] [(0,1182,469)] 1183 470++(
 G7 91 0 463 1174 q4 N++(
 cZ P 456 1162 91 q4 [Y "object"] [Y "object"] "object.__new__" [R 984,R 1003,R 1048,R 1074,R 1093,R 1119] false [(0,1182,469)] 1183 470 2++(
 cA P 477 1191 92 q4 [] [(0,1213,490),(1,1223,497),(2,1234,504)] 1235 505++(
 G7 92 0 484 1203 q4 N++(
 G7 92 1 491 1214 q4 N++(
 G7 92 2 498 1224 q4 N++(
 cZ P 477 1191 92 q4 [Y "object"] [Y "object"] "object.__new__" [] false [(0,1213,490),(1,1223,497),(2,1234,504)] 1235 505 2++(
 cA P 512 1243 93 q4 [] [(0,1261,525),(1,1271,532),(2,1281,539),(3,1291,546),(4,1301,553),(5,1311,560),(6,1320,567),(7,1329,574),(8,1342,581)] 1344 582++(
 G7 93 0 519 1255 q4 N++(
 G7 93 1 526 1262 q4 N++(
 G7 93 2 533 1272 q4 N++(
 G7 93 3 540 1282 q4 N++(
 G7 93 4 547 1292 q4 N++(
 G7 93 5 554 1302 q4 N++(
 G7 93 6 561 1312 q4 N++(
 G7 93 7 568 1321 q4 N++(
 G7 93 8 575 1330 q4 N++(
 cZ P 512 1243 93 q4 [Y "object"] [Y "object"] "object.__new__" [R 619] false [(0,1261,525),(1,1271,532),(2,1281,539),(3,1291,546),(4,1301,553),(5,1311,560),(6,1320,567),(7,1329,574),(8,1342,581)] 1344 582 2++(
 cA P 589 1352 94 q4 [R 584] [(0,1373,602),(1,1383,609),(2,1393,616)] 1394 617++(
 G7 94 0 596 1364 q4 N++(
 G7 94 1 603 1374 q4 N++(
 G7 94 2 610 1384 q4 N++(
 cZ P 589 1352 94 q4 [R 584] [R 584,Y "object"] "object.__new__" [] true [(0,1373,602),(1,1383,609),(2,1393,616)] 1394 617 0++(
 F7 622 1398 (st 95) (zc (st 95)) q4 N++(
 F7 629 1407 (st 96) (zc (st 96)) q4 N++(
 F7 636 1420 (st 97) (zc (st 97)) q4 N++(
 cA P 643 1431 98 q4 [] [(0,1453,656),(1,1463,663),(2,1473,670)] 1474 671++(
 G7 98 0 650 1443 q4 N++(
 G7 98 1 657 1454 q4 N++(
 G7 98 2 664 1464 q4 N++(
 cZ P 643 1431 98 q4 [Y "object"] [Y "object"] "object.__new__" [] false [(0,1453,656),(1,1463,663),(2,1473,670)] 1474 671 2++(
 cA P 678 1482 99 q4 [] [(0,1503,691)] 1504 692++(
 G7 99 0 685 1494 q4 N++(
 cZ P 678 1482 99 q4 [Y "object"] [Y "object"] "object.__new__" [] false [(0,1503,691)] 1504 692 2++(
 cA P 699 1512 100 q4 [] [(0,1532,712),(1,1541,719)] 1542 720++(
 G7 100 0 706 1524 q4 N++(
 G7 100 1 713 1533 q4 N++(
 cZ P 699 1512 100 q4 [Y "object"] [Y "object"] "object.__new__" [] false [(0,1532,712),(1,1541,719)] 1542 720 2++(
 cA P 727 1550 101 q4 [] [(0,1571,740)] 1572 741++(
 G7 101 0 734 1562 q4 N++(
 cZ P 727 1550 101 q4 [Y "object"] [Y "object"] "object.__new__" [] false [(0,1571,740)] 1572 741 2++(
 cA P 748 1580 102 q4 [] [(0,1605,761),(1,1614,768),(2,1622,775),(3,1630,782),(4,1640,789),(5,1651,796),(6,1663,803),(7,1672,810),(8,1680,817),(9,1690,824),(10,1701,831),(11,1709,838),(12,1718,845),(13,1727,852),(14,1736,859),(15,1744,866),(16,1752,873),(17,1761,880),(18,1770,887),(19,1778,894),(20,1786,901),(21,1795,908),(22,1804,915)] 1861 916++(
 G7 102 0 755 1592 q4 N++(
 G7 102 1 762 1606 q4 N++(
 G7 102 2 769 1615 q4 N++(
 G7 102 3 776 1623 q4 N++(
 G7 102 4 783 1631 q4 N++(
 G7 102 5 790 1641 q4 N++(
 G7 102 6 797 1652 q4 N++(
 G7 102 7 804 1664 q4 N++(
 G7 102 8 811 1673 q4 N++(
 G7 102 9 818 1681 q4 N++(
 G7 102 10 825 1691 q4 N++(
 G7 102 11 832 1702 q4 N++(
 G7 102 12 839 1710 q4 N++(
 G7 102 13 846 1719 q4 N++(
 G7 102 14 853 1728 q4 N++(
 G7 102 15 860 1737 q4 N++(
 G7 102 16 867 1745 q4 N++(
 G7 102 17 874 1753 q4 N++(
 G7 102 18 881 1762 q4 N++(
 G7 102 19 888 1771 q4 N++(
 G7 102 20 895 1779 q4 N++(
 G7 102 21 902 1787 q4 N++(
 G7 102 22 909 1796 q4 N++(
 cZ P 748 1580 102 q4 [Y "object"] [Y "object"] "object.__new__" [] false [(0,1605,761),(1,1614,768),(2,1622,775),(3,1630,782),(4,1640,789),(5,1651,796),(6,1663,803),(7,1672,810),(8,1680,817),(9,1690,824),(10,1701,831),(11,1709,838),(12,1718,845),(13,1727,852),(14,1736,859),(15,1744,866),(16,1752,873),(17,1761,880),(18,1770,887),(19,1778,894),(20,1786,901),(21,1795,908),(22,1804,915)] 1861 916 2++(
 F7 923 1869 (st 103) (zc (st 103)) q4 N++(
 F7 930 1879 (st 104) (zc (st 104)) q4 N++(
 F5 937 1889 (st 105) (zc (st 105)) q4 N++(
 F5 942 1895 (st 106) (zc (st 106)) q4 N++(
 F7 947 1901 (st 107) (zc (st 107)) q4 N++(
 F7 954 1912 (st 108) (zc (st 108)) q4 N++(
 F7 961 1923 (st 109) (zc (st 109)) q4 N++(
 cA P 968 1940 111 q5 [R 472] [(0,1960,981)] 1961 982++(
 G7 111 0 975 1952 q5 N++(
 cZ P 968 1940 111 q5 [R 472] [R 472,Y "object"] "object.__new__" [] true [(0,1960,981)] 1961 982 0++(
 cA P 987 1965 112 q5 [R 472] [(0,1985,1000)] 1986 1001++(
 G7 112 0 994 1977 q5 N++(
 cZ P 987 1965 112 q5 [R 472] [R 472,Y "object"] "object.__new__" [] true [(0,1985,1000)] 1986 1001 0++(
 F7 1006 1990 (st 113) (zc (st 113)) q5 N++(
 F7 1013 1997 (st 114) (zc (st 114)) q5 N++(
 F7 1020 2004 (st 115) (zc (st 115)) q5 N++(
 F5 1027 2014 (st 116) (zc (st 116)) q5 N++(
 cA P 1032 2020 117 q5 [R 472] [(0,2040,1045)] 2041 1046++(
 G7 117 0 1039 2032 q5 N++(
 cZ P 1032 2020 117 q5 [R 472] [R 472,Y "object"] "object.__new__" [] true [(0,2040,1045)] 2041 1046 0++(
 F7 1051 2045 (st 118) (zc (st 118)) q5 N++(
 cA P 1058 2055 119 q5 [R 472] [(0,2077,1071)] 2078 1072++(
 G7 119 0 1065 2067 q5 N++(
 cZ P 1058 2055 119 q5 [R 472] [R 472,Y "object"] "object.__new__" [] true [(0,2077,1071)] 2078 1072 0++(
 cA P 1077 2082 120 q5 [R 472] [(0,2102,1090)] 2103 1091++(
 G7 120 0 1084 2094 q5 N++(
 cZ P 1077 2082 120 q5 [R 472] [R 472,Y "object"] "object.__new__" [] true [(0,2102,1090)] 2103 1091 0++(
 F7 1096 2107 (st 121) (zc (st 121)) q5 N++(
 cA P 1103 2116 122 q5 [R 472] [(0,2136,1116)] 2137 1117++(
 G7 122 0 1110 2128 q5 N++(
 cZ P 1103 2116 122 q5 [R 472] [R 472,Y "object"] "object.__new__" [] true [(0,2136,1116)] 2137 1117 0++(
 cA P 1122 2147 126 q6 [] [(0,2166,1135),(1,2174,1142),(2,2182,1149),(3,2191,1156),(4,2200,1163),(5,2208,1170),(6,2216,1177),(7,2225,1184),(8,2234,1191),(9,2244,1198),(10,2253,1205),(11,2262,1212),(12,2271,1219),(13,2280,1226),(14,2287,1233),(15,2296,1240),(16,2304,1247),(17,2312,1254),(18,2319,1261)] 2324 1262++(
 G7 126 0 1129 2159 q6 N++(
 G7 126 1 1136 2167 q6 N++(
 G7 126 2 1143 2175 q6 N++(
 G7 126 3 1150 2183 q6 N++(
 G7 126 4 1157 2192 q6 N++(
 G7 126 5 1164 2201 q6 N++(
 G7 126 6 1171 2209 q6 N++(
 G7 126 7 1178 2217 q6 N++(
 G7 126 8 1185 2226 q6 N++(
 G7 126 9 1192 2235 q6 N++(
 G7 126 10 1199 2245 q6 N++(
 G7 126 11 1206 2254 q6 N++(
 G7 126 12 1213 2263 q6 N++(
 G7 126 13 1220 2272 q6 N++(
 G7 126 14 1227 2281 q6 N++(
 G7 126 15 1234 2288 q6 N++(
 G7 126 16 1241 2297 q6 N++(
 G7 126 17 1248 2305 q6 N++(
 G7 126 18 1255 2313 q6 N++(
 cZ P 1122 2147 126 q6 [Y "object"] [Y "object"] "object.__new__" [] false [(0,2166,1135),(1,2174,1142),(2,2182,1149),(3,2191,1156),(4,2200,1163),(5,2208,1170),(6,2216,1177),(7,2225,1184),(8,2234,1191),(9,2244,1198),(10,2253,1205),(11,2262,1212),(12,2271,1219),(13,2280,1226),(14,2287,1233),(15,2296,1240),(16,2304,1247),(17,2312,1254),(18,2319,1261)] 2324 1262 2++(
 [tup [I 4 2334,I 1 2335,I 3 2336,I 0 2337,I 32 2338,I 8 2339,I 24 2340,I 256 2341,I 512 2342,I 1024 2343,I 64 2344,I 192 2345,I 257 2346,I 513 2347,I 36 2348,I 1536 2349,I 4096 2350,I 2048 2351,I 8192 2352]]++(
 F7 1270 2354 (st 129) (zc (st 129)) q8 N++(
 F7 1277 2365 (st 130) (zc (st 130)) q8 N++(
 F5 1284 2372 (st 131) (zc (st 131)) q8 N++(
 F7 1289 2378 (st 132) (zc (st 132)) q8 N++(
 F5 1296 2388 (st 133) (zc (st 133)) q8 N++(
 F7 1301 2394 (st 134) (zc (st 134)) q8 N++(
 F7 1308 2406 (st 135) (zc (st 135)) q8 N++(
 F7 1315 2417 (st 136) (zc (st 136)) q8 N++(
 F7 1322 2439 (st 137) (zc (st 137)) q8 N++(
 F5 1329 2448 (st 138) (zc (st 138)) q8 N++(
 F7 1334 2454 (st 139) (zc (st 139)) q8 N++(
 F7 1341 2465 (st 140) (zc (st 140)) q8 N++(
 F5 1348 2473 (st 141) (zc (st 141)) q8 N++(
 F7 1353 2479 (st 142) (zc (st 142)) q8 N++(
 F7 1360 2498 (st 143) (zc (st 143)) q8 N++(
 F7 1367 2506 (st 144) (zc (st 144)) q8 N++(
 F5 1374 2514 (st 145) (zc (st 145)) q8 N++(
 F7 1379 2520 (st 146) (zc (st 146)) q8 N++(
 F7 1386 2535 (st 147) (zc (st 147)) q8 N++(
 F7 1393 2556 (st 148) (zc (st 148)) q8 N++(
 F5 1400 2565 (st 149) (zc (st 149)) q8 N))))))))))))))))))))))))))))))))))))))))))))))))))))))))))))))))))))))))))))))))))))))))))))))))))))))))))))))))))))))))))))))))))))))))))))))))))))))))))))))))))))))))))))))))))))))))))))))))))))))))))))))))))))
noncomputable def fr (P:Params) (l:List Nat):Frag:=l.map fun a=>(a,(l_o P).getD a (tup []))
noncomputable def pf (P:Params) (n:Nat) (m:Value) (g e:Nat):List Obj:=((((l_o P).take n).set 2 (dic N [] 0)).set 3 (dic (Y "dict") ((gl P m).take g) g)).set 12 (rec N (ps.take e))
noncomputable abbrev m0:Nat:=11
noncomputable abbrev ann:Option Value:=some (R 6)
noncomputable abbrev bd:List Stmt:=behindTheImports pw
noncomputable def env:Env:={scope:=pw.main.scope,locals:=mainNs,globals:=mainNs,cells:=[],code:=R 13,frame:=some 14}
noncomputable abbrev cd0:Code:=.body bd env
noncomputable abbrev p0:Pos:=⟨0,0,0,0⟩
noncomputable abbrev B:List Frame:=[topFrame p0]
noncomputable abbrev g0:Array GenState:=⟨[]⟩
noncomputable abbrev H1 (P:Params):Heap:=⟨⟨l_o P⟩,{}⟩
noncomputable abbrev Sb (w:World) (os:OsState):Shared:=⟨⟨⟨pf w.params 15 (S "__main__" 164) 9 0⟩,{}⟩,g0,{},187,os⟩
noncomputable abbrev Sc (w:World) (os:OsState):SharedT:=⟨mkT 12 (pf w.params 15 (S "__main__" 164) 9 0),15,{},g0,{},187,os⟩
noncomputable abbrev Sd (w:World) (os:OsState):SharedT:=⟨mkT 12 (pf w.params 22 q0 27 3),22,{},g0,{},230,os⟩
noncomputable abbrev Se (w:World) (os:OsState):SharedT:=⟨mkT 12 (pf w.params 28 q0 28 3),28,{},g0,{},498,os⟩
noncomputable abbrev So (w:World) (os:OsState):SharedT:=⟨mkT 12 (l_o w.params),1405,{},g0,{},2571,os⟩
noncomputable abbrev tT:String→Option Builtin:=PySem.W.Fast.tw14364793385576792824
noncomputable def sts (a n:Nat):List Stmt:=(bd.drop a).take n
noncomputable abbrev th (l:List Stmt) (p:Pos):Thread:=⟨Sem.wrap doneF deadEnd id id (PySem.W.Fast.tw12563942051412417395 l env),cd0,p,B⟩
theorem pre_q:∀ (w:World) (os:OsState),PySem.W.Fast.tw15667345088766844465 tT pw w m0 ann 12 ⟨boot_heap w.params,g0,boot_drawn,boot_toks,os⟩ (topStub pw)=some (Sb w os,⟨PySem.W.Fast.tw11892475500146522536 tT cd0,cd0,p0,B⟩):=by
 intro w os; kernel_rfl
theorem block_q:∀ (w:World) (os:OsState),PySem.W.Fast.tw14374325043358763698 tT pw w m0 ann 1 1 (Sb w os) (blockOf bd env cd0 p0 B)=some (.next,(Sc w os).abs,cd0,p0):=by
 intro w os; kernel_rfl
theorem run1_q:∀ (w:World) (os:OsState),PySem.W.Fast.tw10110043849684766642 tT pw w m0 ann 1 192 (Sc w os) (th (sts 0 19) p0)=some (.next,Sd w os,cd0,⟨21,0,21,9⟩):=by
 intro w os; kernel_rfl
noncomputable abbrev run2P (w:World):Prop:=∀os:OsState,PySem.W.Fast.tw10110043849684766642 tT pw w m0 ann 1 1635 (Sd w os) (th (sts 19 1) ⟨21,0,21,9⟩)=some (.next,Se w os,cd0,⟨22,0,22,10⟩)
theorem run2_f (w:World):run2P (w.withFollow "special-get-raises" false):=by
 intro os; kernel_rfl
theorem run2_t (w:World):run2P (w.withFollow "special-get-raises" true):=by
 intro os; kernel_rfl
theorem run2_q:∀w:World,run2P w:=byRow2 "special-get-raises" run2_f run2_t
noncomputable def noSub (o:Obj):Obj:=match o.data with
 | .cls c=>{o with data:=.cls {c with subclasses:=[]}}
 | _=>o
noncomputable def pg (P:Params) (m:Value) (n g e:Nat):List Obj:=(((l_o P).take n).set 3 (dic (Y "dict") ((gl P m).take g) g)).set 12 (rec N (ps.take e))
noncomputable abbrev Sg (w:World) (os:OsState) (l:List Obj) (n t:Nat):SharedT:=⟨mkT 12 l,n,{},g0,{},t,os⟩
noncomputable abbrev Sg1 (w:World) (os:OsState):=Sg w os (pg w.params q2 287 72 33) 287 930
noncomputable abbrev Sg2 (w:World) (os:OsState):=Sg w os ((pg w.params q4 643 102 120).modify 472 noSub) 643 1431
noncomputable abbrev Sg3 (w:World) (os:OsState):=Sg w os ((pg w.params q4 942 110 144).modify 472 noSub) 942 1895
noncomputable abbrev Sg4 (w:World) (os:OsState):=Sg w os (pg w.params q6 1122 128 192) 1122 2147
noncomputable abbrev runP (S S':World→OsState→SharedT) (n a k:Nat) (p p':Pos):Prop:=∀ (w:World) (os:OsState),PySem.W.Fast.tw10110043849684766642 tT pw w m0 ann 1 n (S w os) (th (sts a k) p)=some (.next,S' w os,cd0,p')
theorem r3a:runP Se Sg1 2617 20 46 ⟨22,0,22,10⟩ ⟨124,0,149,16⟩:=by
 intro w os; kernel_rfl
theorem r3b:runP Sg1 Sg2 2333 66 32 ⟨124,0,149,16⟩ ⟨346,0,353,16⟩:=by
 intro w os; kernel_rfl
theorem r3c:runP Sg2 Sg3 2094 98 8 ⟨346,0,353,16⟩ ⟨546,0,549,77⟩:=by
 intro w os; kernel_rfl
theorem r3d:runP Sg3 Sg4 1817 106 20 ⟨546,0,549,77⟩ ⟨670,0,670,11⟩:=by
 intro w os; kernel_rfl
theorem r3e:runP Sg4 So 1516 126 24 ⟨670,0,670,11⟩ ⟨927,0,956,63⟩:=by
 intro w os; kernel_rfl
theorem fin_q:∀ (w:World) (os:OsState),PySem.W.Fast.tw14082659384304107361 tT pw w m0 ann 2 (So w os).abs ⟨doneF .next,cd0,⟨927,0,956,63⟩,B⟩=some ⟨H1 w.params,g0,{},2571,os⟩:=by
 intro w os; kernel_rfl
theorem XA {w:World} {n:Nat} {s s':SharedT} {l:List Stmt} {p p':Pos} {c:Code} (h:PySem.W.Fast.tw10110043849684766642 tT pw w m0 ann 1 n s (th l p)=some (.next,s',c,p')):
  segRun treeTable pw w m0 ann 1 n s.abs (piecesOf l env cd0 p B)=some (.next,s'.abs,c,p'):=by
 refine segRun_of ?_
 rw [PySem.W.Fast.te10110043849684766642,PySem.W.Fast.te14364793385576792824]
 unfold piecesOf
 rw [PySem.W.Fast.te12563942051412417395]
 exact h
theorem bd_is:bd=sts 0 19++(sts 19 1++(sts 20 46++(sts 66 32++(sts 98 8++(sts 106 20++(sts 126 24++[])))))):=by kernel_rfl
theorem run_all (w:World) (os:OsState):topRun treeTable pw w m0 ann (12+(1+(192+(1635+(2617+(2333+(2094+(1817+(1516+2))))))))) ⟨boot_heap w.params,g0,boot_drawn,boot_toks,os⟩ (topStub pw)=some ⟨H1 w.params,g0,{},2571,os⟩:=by
 have h1:topGo treeTable pw w m0 ann 12 ⟨boot_heap w.params,g0,boot_drawn,boot_toks,os⟩ (topStub pw)=some (Sb w os,⟨denote treeTable cd0,cd0,p0,B⟩):=by
  rw [PySem.W.Fast.te15667345088766844465,PySem.W.Fast.te11892475500146522536,PySem.W.Fast.te14364793385576792824]
  exact pre_q w os
 refine go_top h1 ?_
 have h2:segRun treeTable pw w m0 ann 1 1 (Sb w os) (blockOf bd env cd0 p0 B)=some (.next,(Sc w os).abs,cd0,p0):=by
  rw [PySem.W.Fast.te14374325043358763698,PySem.W.Fast.te14364793385576792824]
  exact block_q w os
 refine piece_block h2 ?_
 rw [show restOf bd env cd0 p0 [topFrame p0]=restOf (sts 0 19++(sts 19 1++(sts 20 46++(sts 66 32++(sts 98 8++(sts 106 20++(sts 126 24++[]))))))) env cd0 p0 [topFrame p0] from congrArg (fun x=>restOf x env cd0 p0 [topFrame p0]) bd_is]
 refine piece_app (XA (run1_q w os)) ?_
 refine piece_app (XA (run2_q w os)) ?_
 refine piece_app (XA (r3a w os)) ?_
 refine piece_app (XA (r3b w os)) ?_
 refine piece_app (XA (r3c w os)) ?_
 refine piece_app (XA (r3d w os)) ?_
 refine piece_app (XA (r3e w os)) ?_
 have h3:topRun treeTable pw w m0 ann 2 (So w os).abs ⟨doneF .next,cd0,⟨927,0,956,63⟩,B⟩=some ⟨H1 w.params,g0,{},2571,os⟩:=by
  rw [PySem.W.Fast.te14082659384304107361,PySem.W.Fast.te14364793385576792824]
  exact fin_q w os
 exact piece_nil h3
theorem lo_len (P:Params):(l_o P).length=1405:=by kernel_rfl
noncomputable def lvO (o:Obj):Bool:=match o with
 | ⟨_,_,.freed,_⟩=>false
 | _=>true
theorem lo_live (P:Params):(l_o P).all lvO=true:=by kernel_rfl
theorem lv_get {h:Heap} {a:Nat} {o:Obj} (e:h.objs[a]? =some o) (v:lvO o=true):h.get? a=some o:=by
 unfold Heap.get?
 rw [e]
 rcases o with ⟨c,d,x,t⟩
 cases x<;>first | rfl | cases v
theorem fr_in (P:Params) {l:List Nat} (h:l.all (fun a=>Nat.blt a 1405)=true):(fr P l).In (H1 P):=by
 refine Frag.in_of (as:=(fr P l).map (·.1)) rfl ?_
 unfold fr
 rw [List.map_map,List.map_map,List.map_map]
 refine List.map_congr_left fun a m=>?_
 have k:a < (l_o P).length:=Nat.lt_of_lt_of_le (Nat.le_of_ble_eq_true (List.all_eq_true.mp h a m)) (Nat.le_of_eq (lo_len P).symm)
 have e:(l_o P)[a]? =some ((l_o P).getD a (tup [])):=by rw [List.getD_eq_getElem?_getD,List.getElem?_eq_getElem k]; rfl
 exact lv_get (show (l_o P).toArray[a]? =_ from List.getElem?_toArray.trans e) (List.all_eq_true.mp (lo_live P) _ (List.mem_of_getElem? e))
noncomputable def qv:Program:={pw with main:={pw.main with body:=pw.main.body.drop 149}}
noncomputable def loose:List Str:=pw.boundNames.filter fun n=>n !=Str.ofString "law"
noncomputable abbrev Sf (w:World) (os:OsState):Shared:=⟨H1 w.params,g0,{},2571,os⟩
theorem lk_names:∀w:World,namesBound pw (H1 w.params)=true:=by intro w; kernel_rfl
theorem lk_statics:∀w:World,staticsOk (importedModules pw.main.body) (boot_heap w.params) (H1 w.params)=true:=by intro w; kernel_rfl
theorem lk_laid:∀w:World,laidKept (boot_heap w.params) (H1 w.params)=true:=by intro w; kernel_rfl
theorem lk_open:∀ (w:World) (os:OsState),openSeen qv loose (importedModules pw.main.body) (fun _=>true) true (Sf w os)=openGood qv loose:=by intro w os; kernel_rfl
theorem left:LeftO pw qv loose (fun _=>true) (fun s=>s.heap.objs) (fun w=>(H1 w.params).objs) 30000:=by
 refine LeftO.of_pieces (H₀:=boot_heap) (H₁:=H1) (gs₀:=g0) (gs₁:=g0) (d₀:=boot_drawn) (d₁:={}) (k₀:=boot_toks) (k₁:=2571) (m₀:=m0) (ann:=ann) (M:=12+(1+(192+(1635+(2617+(2333+(2094+(1817+(1516+2))))))))) ?_ ?_ run_all ?_ ?_
 ·exact boot_open (by kernel_rfl) (by kernel_rfl) (by intro s; kernel_rfl)
 ·intro w; kernel_rfl
 ·kernel_rfl
 ·intro w
  funext os
  refine Prod.ext ?_ (Prod.ext (lk_open w os) rfl)
  show (staticsOk _ _ _&&namesBound _ _&&gensDone _&&laidKept _ _)=true
  rw [lk_statics,lk_names,lk_laid]
  rfl
end Mine
end
section
namespace Wk
open Mine (zc jJ YB zn st sm)
inductive V where
 | none | bool (b:Bool) | int (i:Int) | str (s:Str) | tup (l:List V) | ref (n:Nat) | cdict (l:List (V×V)) | rng (n:Nat)
 deriving Inhabited
inductive O where
 | list (l:List V) | dict (l:List (V×V)) (e:Option Nat) | inst (c:Nat) (fs:List (Str×V)) | lit (o:Obj) (l:List V)
 deriving Inhabited
noncomputable abbrev zG:=List O
noncomputable abbrev Res:=Option (V×zG)
noncomputable abbrev K (α:Type):=α→zG→Res
noncomputable abbrev M (α:Type):=K α→zG→Res
noncomputable abbrev C:=zG→Res
noncomputable abbrev nS (s:String):Str:=Str.ofString s
noncomputable abbrev Loc:=List (Str×V)
noncomputable abbrev CF:=Nat→List V→M V
inductive GV where
 | val (v:V) | fn (i:Nat) | cls (c:Nat) | blt (b:Nat)
structure Zm where
 init:Option Nat
 attrs:List Str
 meths:List (Str×Nat)
structure Prg where
 glob:List (Nat×Str×GV)
 cls:List Zm
noncomputable def zO {α:Type} (x:Str):List (Str×α)→Option α
 | []=>.none
 | (y,a)::r=>match Fast.sEq x y with
  | true=>some a
  | false=>zO x r
noncomputable def ZJ (x:Str) (v:V):Loc→Loc
 | []=>[(x,v)]
 | (y,b)::r=>match Fast.sEq x y with
  | true=>(y,v)::r
  | false=>(y,b)::ZJ x v r
noncomputable def W6 (x:Str):Loc→Loc
 | []=>[]
 | (y,b)::r=>match Fast.sEq x y with
  | true=>W6 x r
  | false=>(y,b)::W6 x r
noncomputable def globK (c:Nat) (x:Str):List (Nat×Str×GV)→Option GV
 | []=>.none
 | (d,y,g)::r=>match Nat.beq c d with
  | true=>(match Fast.sEq x y with | true=>some g | false=>.none)
  | false=>globK c x r
noncomputable def Prg.get (P:Prg) (x:Str):Option GV:=globK (Fast.code x.cps.toList) x P.glob
noncomputable def isNone:V→Bool
 | .none=>true
 | _=>false
noncomputable def eqV (a:V):V→Bool:=match a with
 | .int x=>fun b=>match b with
  | .int y=>decide (x=y)
  | _=>false
 | a=>fun b=>@decide (a=b) (Classical.propDecidable _)
noncomputable def eqVL (a b:List V):Bool:=@decide (a=b) (Classical.propDecidable _)
mutual
noncomputable def Yu:V→Nat
 | .tup l=>Js l+1
 | _=>0
noncomputable def Js:List V→Nat
 | []=>0
 | v::r=>max (Yu v) (Js r)
end
mutual
noncomputable def yW:V→Bool
 | .none=>true
 | .int _=>true
 | .str s=>s.cps.all (· < 0x110000)
 | .tup l=>jK l
 | _=>false
noncomputable def jK:List V→Bool
 | []=>true
 | v::r=>yW v&&jK r
end
mutual
noncomputable def jE:V→Bool
 | .int _=>true
 | .str _=>true
 | .tup l=>yn l
 | _=>false
noncomputable def yn:List V→Bool
 | []=>true
 | v::r=>jE v&&yn r
end
noncomputable def eqOk (a b:V):Bool:=yW a&&yW b&&decide (Yu a≤60)&&decide (Yu b≤60)
noncomputable def J5 (a b:List V):Bool:=jK a&&jK b&&decide (Js a≤50)&&decide (Js b≤50)
noncomputable def JW:V→Nat
 | .int _=>1
 | .str _=>2
 | .tup _=>3
 | _=>0
noncomputable def fitK (x:V):Bool:=jE x&&yW x&&decide (Yu x≤7)
noncomputable def yP (x:V) (l:List (V×V)):Bool:=fitK x&&l.all fun e=>JW e.1==JW x
noncomputable def yk (x:V) (l:List (V×V)):Option V:=(l.find? fun e=>eqV e.1 x).map (·.2)
noncomputable def dHas (x:V) (l:List (V×V)):Bool:=l.any fun e=>eqV e.1 x
noncomputable def putE (x v:V) (e:V×V):V×V:=(e.1,match eqV e.1 x with | true=>v | false=>e.2)
noncomputable def ZH (x v:V) (l:List (V×V)):List (V×V):=match dHas x l with
 | true=>l.map (putE x v)
 | false=>l++[(x,v)]
noncomputable def Yh (x:V) (l:List (V×V)):List (V×V):=l.filter fun e=>!eqV e.1 x
noncomputable def fail {α:Type}:M α:=fun _ _=>.none
noncomputable def jW:C:=fun _=>.none
noncomputable def pIf (b:Bool) (x y:C):C:=fun σ=>match b with | true=>x σ | false=>y σ
noncomputable def constV:Const→Option V
 | .none=>some .none
 | .bool b=>some (.bool b)
 | .int i=>some (.int i)
 | .str s=>some (.str s)
 | _=>.none
section
variable {α β:Type}
noncomputable def ret (a:α):M α:=fun k=>k a
noncomputable def onRef (a:V) (f:Nat→M α):M α:=match a with
 | .ref n=>f n
 | _=>fail
noncomputable def ZD (a:V) (f:Int→M α):M α:=match a with
 | .int i=>f i
 | _=>fail
noncomputable def onTup (a:V) (f:List V→M α):M α:=match a with
 | .tup l=>f l
 | _=>fail
noncomputable def YL (a:V) (m:M α):M α:=match a with
 | .none=>m
 | _=>fail
noncomputable def ya (o:Option β) (f:β→M α):M α:=match o with
 | some x=>f x
 | .none=>fail
noncomputable def onO (n:Nat) (f:O→M α):M α:=fun k σ=>ya (σ[n]?) f k σ
noncomputable def Uw (a:V) (f:Nat→O→M α):M α:=onRef a fun n=>onO n (f n)
noncomputable def on0 (l:List β) (m:M α):M α:=match l with
 | []=>m
 | _=>fail
noncomputable def onC (l:List β) (f:β→List β→M α):M α:=match l with
 | x::r=>f x r
 | _=>fail
noncomputable def on1 (l:List β) (f:β→M α):M α:=onC l fun x r=>on0 r (f x)
noncomputable def on2 (l:List β) (f:β→β→M α):M α:=onC l fun x r=>on1 r (f x)
noncomputable def when (p:Prop) [Decidable p] (m:M α):M α:=fun k σ=>if p then m k σ else .none
noncomputable def chk (b:Bool) (m:M α):M α:=match b with
 | true=>m
 | false=>fail
noncomputable def bi (b:Bool) (x y:M α):M α:=match b with
 | true=>x
 | false=>y
noncomputable def Us (n:Nat) (o:O) (a:α):M α:=fun k σ=>k a (σ.set n o)
end
noncomputable def zU (o:O):M V:=fun k σ=>k (.ref σ.length) (σ++[o])
noncomputable def truthO:O→M Bool
 | .list l=>when (l.length < 2^40) (ret (!l.isEmpty))
 | _=>fail
noncomputable def zE (v:V):M Bool:=match v with
 | .none=>ret false
 | .bool b=>ret b
 | .int i=>ret (i !=0)
 | .ref n=>onO n truthO
 | _=>fail
noncomputable def binI (op:Operator) (x y:Int):M V:=match op with
 | .Add=>ret (.int (x+y))
 | .Sub=>ret (.int (x - y))
 | .Mult=>when (x.natAbs < 2^60∧y.natAbs < 2^60) (ret (.int (x*y)))
 | .Mod=>when (y≠0) (ret (.int (x.fmod y)))
 | .FloorDiv=>when (y≠0∧y.natAbs < 1073741824) (ret (.int (x.fdiv y)))
 | .BitAnd=>ret (.int (Builtin.bitAnd x y))
 | .BitOr=>ret (.int (Builtin.bitOr x y))
 | .RShift=>when (0≤y) (ret (.int (x.fdiv (2^y.toNat))))
 | _=>fail
noncomputable def onAdd (op:Operator) (m:M V):M V:=match op with
 | .Add=>m
 | _=>fail
noncomputable def onMul (op:Operator) (m:M V):M V:=match op with
 | .Mult=>m
 | _=>fail
noncomputable def onL (o:O) {α:Type} (f:List V→M α):M α:=match o with
 | .list l=>f l
 | _=>fail
noncomputable def onD (o:O) {α:Type} (f:List (V×V)→Option Nat→M α):M α:=match o with
 | .dict l e=>f l e
 | _=>fail
noncomputable def onI (o:O) {α:Type} (f:Nat→List (Str×V)→M α):M α:=match o with
 | .inst c fs=>f c fs
 | _=>fail
noncomputable def addL (m n:Nat):M V:=onO m fun o=>onL o fun x=>onO n fun o=>onL o fun y=>when (x.length+y.length < 1000000) (zU (.list (x++y)))
noncomputable def mulL (m:Nat) (y:Int):M V:=onO m fun o=>onL o fun l=>on1 l fun x=>when (0≤y∧y < 16) (zU (.list (List.replicate y.toNat x)))
noncomputable def binR (op:Operator) (m:Nat) (b:V):M V:=match b with
 | .ref n=>onAdd op (addL m n)
 | .int y=>onMul op (mulL m y)
 | _=>fail
noncomputable def zT (op:Operator) (a b:V):M V:=match a with
 | .int x=>ZD b (binI op x)
 | .tup x=>onTup b fun y=>onAdd op (when (x.length+y.length < 1000000) (ret (.tup (x++y))))
 | .ref m=>binR op m b
 | _=>fail
noncomputable def pUn (op:UnaryOp) (a:V):M V:=ZD a fun x=>match op with
 | .USub=>ret (.int (-x))
 | .Invert=>ret (.int (Builtin.bitNot x))
 | _=>fail
noncomputable def Ui (y:List (V×V)) (e:V×V):Bool:=match yk e.1 y with
 | some u=>eqV e.2 u
 | .none=>false
noncomputable def isInt:V→Bool
 | .int _=>true
 | _=>false
noncomputable def ZG (l:List (V×V)):Bool:=l.all fun e=>isInt e.1&&isInt e.2
noncomputable def eqP (a b:V):M Bool:=when (eqOk a b=true) (ret (eqV a b))
noncomputable def eqO:O→O→M Bool
 | .list x,o=>onL o fun y=>when (J5 x y=true) (ret (eqVL x y))
 | .dict x _,o=>onD o fun y _=>when (ZG x=true∧ZG y=true) (ret (decide (x.length=y.length)&&x.all (Ui y)))
 | _,_=>fail
noncomputable def pEq (a b:V):M Bool:=match a with
 | .ref m=>(match b with
   | .ref n=>onO m fun o=>onO n (eqO o)
   | b=>eqP (.ref m) b)
 | a=>eqP a b
noncomputable def inL (a:V) (l:List V):M Bool:=when (J5 [a] l=true) (ret (l.any fun y=>eqV y a))
noncomputable def inO (a:V):O→M Bool
 | .list l=>inL a l
 | .dict l _=>when (yP a l=true) (ret (dHas a l))
 | _=>fail
noncomputable def pIn (a b:V):M Bool:=match b with
 | .tup l=>inL a l
 | .ref n=>onO n (inO a)
 | _=>fail
noncomputable def cmpI (f:Int→Int→Bool) (a b:V):M V:=ZD a fun x=>ZD b fun y=>ret (.bool (f x y))
noncomputable def pLt:V→V→M V:=cmpI fun x y=>decide (x < y)
noncomputable def pLe:V→V→M V:=cmpI fun x y=>decide (x≤y)
noncomputable def pGt:V→V→M V:=cmpI fun x y=>decide (x > y)
noncomputable def pGe:V→V→M V:=cmpI fun x y=>decide (x≥y)
noncomputable def pIs (a b:V):M V:=YL b (ret (.bool (isNone a)))
noncomputable def Ym (a b:V):M V:=YL b (ret (.bool (!isNone a)))
@[irreducible] noncomputable def zL (op:CmpOp) (a b:V):M V:=match op with
 | .Eq=>fun k=>pEq a b fun r=>k (.bool r)
 | .NotEq=>fun k=>pEq a b fun r=>k (.bool (!r))
 | .In=>fun k=>pIn a b fun r=>k (.bool r)
 | .NotIn=>fun k=>pIn a b fun r=>k (.bool (!r))
 | .Is=>YL b (ret (.bool (isNone a)))
 | .IsNot=>YL b (ret (.bool (!isNone a)))
 | .Lt=>cmpI (fun x y=>decide (x < y)) a b
 | .LtE=>cmpI (fun x y=>decide (x≤y)) a b
 | .Gt=>cmpI (fun x y=>decide (x > y)) a b
 | .GtE=>cmpI (fun x y=>decide (x≥y)) a b
noncomputable def wv (i:Int) (n:Nat):Option Nat:=if 2^40≤n then .none else if 0≤i then (if i < n then some i.toNat else .none) else if 0≤i+n then some (i+n).toNat else .none
noncomputable def getL (l:List V) (i:V):M V:=ZD i fun x=>ya ((wv x l.length).bind (l[·]?)) ret
noncomputable def getD (l:List (V×V)) (x:V):M V:=when (yP x l=true) (ya (yk x l) ret)
noncomputable def getO (i:V):O→M V
 | .list l=>getL l i
 | .dict l _=>getD l i
 | _=>fail
noncomputable def zC (a i:V):M V:=match a with
 | .tup l=>getL l i
 | .str s=>ZD i fun x=>ya ((wv x s.cps.size).bind (s.cps[·]?)) fun c=>ret (.str ⟨#[c]⟩)
 | .cdict l=>getD l i
 | .ref n=>onO n (getO i)
 | _=>fail
noncomputable def tailT (l:List V) (i:Int):M V:=when (1≤i∧i≤l.length∧l.length < 1000000) (ret (.tup (l.drop i.toNat)))
noncomputable def headT (l:List V) (i:Int):M V:=fun k σ=>if 0≤i∧i < l.length∧l.length < 1000000 then k (.tup (l.take i.toNat)) σ else if i < 0∧0≤i+l.length∧l.length < 1000000 then k (.tup (l.take (i+l.length).toNat)) σ else .none
noncomputable def tailO (i:Int) (o:O):M V:=onL o fun l=>when (0≤i∧l.length < 1000000) (zU (.list (l.drop i.toNat)))
noncomputable def headO (i:Int):O→M V
 | .list l=>when (0≤i∧l.length < 1000000) (zU (.list (l.take i.toNat)))
 | .lit _ l=>when (0≤i∧l.length < 1000000) (zU (.list (l.take i.toNat)))
 | _=>fail
noncomputable def sliceT (l:List V) (lo hi:V):M V:=match lo with
 | .int i=>YL hi (tailT l i)
 | .none=>ZD hi (headT l)
 | _=>fail
noncomputable def sliceR (n:Nat) (lo hi:V):M V:=match lo with
 | .int i=>YL hi (onO n (tailO i))
 | .none=>ZD hi fun i=>onO n (headO i)
 | _=>fail
noncomputable def yA (a lo hi:V):M V:=match a with
 | .tup l=>sliceT l lo hi
 | .ref n=>sliceR n lo hi
 | _=>fail
noncomputable def setO (n:Nat) (i v:V):O→M Unit
 | .list l=>ZD i fun x=>when (0≤x∧x < l.length∧l.length < 2^40) (Us n (.list (l.set x.toNat v)) ())
 | .dict l e=>when (yP i l=true∧l.length < 1000000) (Us n (.dict (ZH i v l) e) ())
 | _=>fail
noncomputable def zV (a i v:V) (k:C):C:=Uw a (fun n=>setO n i v) fun _=>k
noncomputable def tailM (n m:Nat) (x:Int) (l u:List V):M Unit:=when (0≤x∧x≤l.length∧u.length=0∧n≠m∧l.length < 1000000) (Us n (.list (l.take x.toNat)) ())
noncomputable def ZC (a lo v:V) (k:C):C:=onRef a (fun n=>ZD lo fun x=>onRef v fun m=>onO n fun o=>onL o fun l=>onO m fun o=>onL o fun u=>tailM n m x l u) fun _=>k
noncomputable def jX (a lo:V) (k:C):C:=onRef a (fun n=>ZD lo fun x=>onO n fun o=>onL o fun l=>when (0≤x∧x≤l.length∧l.length < 1000000) (Us n (.list (l.take x.toNat)) ())) fun _=>k
noncomputable def WN (P:Prg) (c:Nat) (x:Str):Bool:=match P.cls[c]? with
 | some r=>r.attrs.any (Fast.sEq x)
 | .none=>false
noncomputable def zD (P:Prg) (a:V) (x:Str):M V:=Uw a fun _ o=>onI o fun c fs=>chk (WN P c x) (ya (zO x fs) ret)
noncomputable def zK (P:Prg) (a:V) (x:Str) (v:V) (k:C):C:=Uw a (fun n o=>onI o fun c fs=>chk (WN P c x) (when (fs.length < 900) (Us n (.inst c (ZJ x v fs)) ()))) fun _=>k
noncomputable def Qm (x:V) (l:List (V×V)) (e:Option Nat):Option Nat:=match dHas x l with
 | true=>e.map (·+1)
 | false=>e
inductive BM where
 | fn (i:Nat) (self:V) | append (n:Nat) | pop (n:Nat) | dget (n:Nat) | dpop (n:Nat)
noncomputable def uM (x:Str) (s:String) (b b':BM):M BM:=bi (Fast.sEq x s) (ret b) (chk (Fast.sEq x "pop") (ret b'))
noncomputable def isNil {α:Type}:Option α→Bool
 | .none=>true
 | _=>false
noncomputable def bindO (P:Prg) (x:Str) (n:Nat):O→M BM
 | .inst c fs=>chk (isNil (zO x fs)) (ya ((P.cls[c]?).bind fun r=>zO x r.meths) fun i=>ret (.fn i (.ref n)))
 | .list _=>uM x "append" (.append n) (.pop n)
 | .dict _ _=>uM x "get" (.dget n) (.dpop n)
 | _=>fail
noncomputable def zR (P:Prg) (a:V) (x:Str):M BM:=Uw a (bindO P x)
noncomputable def appM (n:Nat) (v:V):M V:=onO n fun o=>onL o fun l=>when (l.length < 1000000) (Us n (.list (l++[v])) .none)
noncomputable def popM (n:Nat):M V:=onO n fun o=>onL o fun l=>ya l.getLast? fun v=>when (l.length < 1000000) (Us n (.list l.dropLast) v)
noncomputable def getM (n:Nat) (x d:V):M V:=onO n fun o=>onD o fun l _=>when (yP x l=true) (ret ((yk x l).getD d))
noncomputable def dpopM (n:Nat) (x d:V):M V:=ZD x fun i=>onO n fun o=>onD o fun l e=>when (yP (.int i) l=true∧l.length < 1000000) (Us n (.dict (Yh (.int i) l) (Qm (.int i) l e)) ((yk (.int i) l).getD d))
noncomputable def getA (n:Nat) (x:V) (r:List V):M V:=match r with
 | []=>getM n x .none
 | d::r=>on0 r (getM n x d)
noncomputable def zN (cf:CF) (b:BM) (vs:List V):M V:=match b with
 | .fn i self=>cf i (self::vs)
 | .append n=>on1 vs (appM n)
 | .pop n=>on0 vs (popM n)
 | .dget n=>onC vs (getA n)
 | .dpop n=>on2 vs (dpopM n)
noncomputable def instR (cf:CF) (c:Nat) (vs:List V) (r:Option Nat):M V:=fun k σ=>match r with
 | some i=>cf i (.ref σ.length::vs) (fun u=>YL u (ret (.ref σ.length)) k) (σ++[.inst c []])
 | .none=>on0 vs (zU (.inst c [])) k σ
noncomputable def zp (P:Prg) (cf:CF) (c:Nat) (vs:List V):M V:=ya (P.cls[c]?) fun r=>instR cf c vs r.init
noncomputable def yf (l:List (V×V)):Bool:=l.all fun e=>isInt e.1
noncomputable def lim (l:List V) (n:Nat):Option (List V×Nat):=if l.length < 1000000 then some (l,n) else .none
noncomputable def itemsD (l:List (V×V)):Option Nat→Option (List V×Nat)
 | some e=>bif' (yf l) (lim (l.map (·.1)) (e+1))
 | .none=>.none
where bif' (b:Bool) (x:Option (List V×Nat)):Option (List V×Nat):=match b with
 | true=>x
 | false=>.none
noncomputable def U5:O→Option (List V×Nat)
 | .list l=>lim l 0
 | .dict l e=>itemsD l e
 | _=>.none
noncomputable def zz (a:V) (σ:zG):Option (List V×Nat):=match a with
 | .tup l=>lim l 0
 | .rng n=>if n < 100000 then some ((List.range n).map fun (i:Nat)=>V.int i,0) else .none
 | .ref n=>(σ[n]?).bind U5
 | _=>.none
noncomputable def wE (i:Int):List Int→List Int
 | []=>[i]
 | j::r=>if i≤j then i::j::r else j::wE i r
noncomputable def Wh:List Int→List Int
 | []=>[]
 | i::r=>wE i (Wh r)
noncomputable def intOf:V→Option Int
 | .int i=>some i
 | _=>.none
noncomputable def intsOf:List V→Option (List Int)
 | []=>some []
 | v::r=>(intOf v).bind fun i=>(intsOf r).map (i::·)
noncomputable def len1 (n:Nat):M V:=when (n < 2^40) (ret (.int n))
noncomputable def lenO:O→M V
 | .list l=>len1 l.length
 | .dict l _=>len1 l.length
 | _=>fail
noncomputable def bLen (v:V):M V:=match v with
 | .tup l=>len1 l.length
 | .ref n=>onO n lenO
 | _=>fail
noncomputable def Qw (v:V):M V:=ZD v fun x=>when (-100000 < x∧x < 100000) (ret (.rng x.toNat))
noncomputable def bTup (v:V):M V:=match v with
 | .tup l=>ret (.tup l)
 | .ref n=>onO n fun o=>onL o fun l=>when (l.length < 1000000) (ret (.tup l))
 | _=>fail
noncomputable def bDict (v:V):M V:=Uw v fun _ o=>onD o fun l _=>when (ZG l=true∧l.length < 1000000) (zU (.dict l .none))
noncomputable def bSort (v:V):M V:=Uw v fun _ o=>onD o fun l _=>ya (intsOf (l.map (·.1))) fun is=>when (l.length < 64) (zU (.list ((Wh is).map V.int)))
noncomputable def bStr (v:V):M V:=ZD v fun x=>when (x.natAbs < 10^9) (ret (.str (Str.ofString (toString x))))
noncomputable def blt (b:Nat) (v:V):M V:=match b with
 | 0=>bLen v
 | 1=>Qw v
 | 2=>bTup v
 | 3=>bDict v
 | 4=>bSort v
 | 5=>bStr v
 | _=>fail
noncomputable def zj (b:Nat) (vs:List V):M V:=on1 vs (blt b)
noncomputable def same (src:V) (all:List V×Nat) (σ:zG):Bool:=match src with
 | .ref n=>@decide (zz (.ref n) σ=some all) (Classical.propDecidable _)
 | _=>true
noncomputable def yO {α:Type} (src:V) (all:List V×Nat) (body:V→α→(α→C)→C) (kn:α→C):List V→α→C
 | [],a=>kn a
 | v::r,a=>body v a fun a' σ=>match same src all σ with
  | true=>yO src all body kn r a' σ
  | false=>.none
noncomputable def jY (src:V) (f:List V×Nat→C):C:=fun σ=>match zz src σ with
 | some l=>f l σ
 | .none=>.none
noncomputable def rFor0 (src:V) (body:V→C→C) (kn:C):C:=jY src fun l=>yO (α:=Unit) src l (fun v _ k=>body v (k ())) (fun _=>kn) l.1 ()
@[irreducible] noncomputable def yL (src:V) (body:V→C→C) (kn:C):C:=rFor0 src body kn
noncomputable def rFor1 (src:V) (a:V) (body:V→V→(V→C)→C) (kn:V→C):C:=jY src fun l=>yO src l body kn l.1 a
@[irreducible] noncomputable def Uu (src:V) (a:V) (body:V→V→(V→C)→C) (kn:V→C):C:=rFor1 src a body kn
noncomputable def rFor3 (src:V) (a b c:V) (body:V→V→V→V→(V→V→V→C)→C) (kn:V→V→V→C):C:=jY src fun l=>yO (α:=V×V×V) src l (fun v s k=>body v s.1 s.2.1 s.2.2 fun a b c=>k (a,b,c)) (fun s=>kn s.1 s.2.1 s.2.2) l.1 (a,b,c)
@[irreducible] noncomputable def we (src:V) (a b c:V) (body:V→V→V→V→(V→V→V→C)→C) (kn:V→V→V→C):C:=rFor3 src a b c body kn
noncomputable def JZ (acc:List V):Option V→List V
 | some u=>acc++[u]
 | .none=>acc
noncomputable def WK (k:K V) (acc:List V):C:=when (acc.length < 1000000) (zU (.list acc)) k
@[irreducible] noncomputable def ye (src:V) (body:V→(Option V→C)→C) (k:K V):C:=jY src fun l=>yO (α:=List V) src l (fun v acc k=>body v fun x=>k (JZ acc x)) (WK k) l.1 []
noncomputable def YK (test:M Bool) (body:C→C) (kn:C):Nat→C
 | 0=>jW
 | n+1=>test fun b=>pIf b (body (YK test body kn n)) kn
noncomputable def unp2 (a:V):M (V×V):=onTup a fun l=>on2 l fun x y=>ret (x,y)
noncomputable def unp5 (a:V):M (V×V×V×V×V):=onTup a fun l=>onC l fun x r=>onC r fun y r=>onC r fun z r=>on2 r fun u v=>ret (x,y,z,u,v)
noncomputable def yZ (a:V) (k:V→V→C):C:=unp2 a fun p=>k p.1 p.2
noncomputable def YU (a:V) (k:V→V→V→V→V→C):C:=unp5 a fun p=>k p.1 p.2.1 p.2.2.1 p.2.2.2.1 p.2.2.2.2
noncomputable def ct (n:Nat) (x:Expr):Bool:=Nat.beq x.ctorIdx n
noncomputable def Yn (x:Expr):Bool:=!ct 22 x
noncomputable def YW (x:Expr):Bool:=!ct 7 x
noncomputable def WV (x:Expr):Bool:=!(ct 8 x||(ct 9 x||ct 10 x))
noncomputable def noTup (x:Expr):Bool:=!ct 25 x
inductive Vw where
 | name (n:Str) (p:Pos) | attr (o:Expr) (n:Str) (p:Pos) | sub (o i:Expr) | slice (lo hi sp:Option Expr) | const (c:Const) | tup (es:List Expr) | call (f:Expr) (args:List Expr) (kws:List Keyword) | other
noncomputable def vw:Expr→Vw
 | .Name n p=>.name n p
 | .Attribute o n p=>.attr o n p
 | .Subscript o i _=>.sub o i
 | .Slice lo hi sp _=>.slice lo hi sp
 | .Constant c _ _=>.const c
 | .Tuple es _ _=>.tup es
 | .Call f args kws _=>.call f args kws
 | _=>.other
noncomputable def UU (x:Expr):Bool:=match vw x with
 | .call f args kws=>!(ct 23 f&&(args.isEmpty&&kws.isEmpty))
 | _=>true
noncomputable def isFun:ScopeKind→Bool
 | .function=>true
 | _=>false
noncomputable def YD (args:List Expr):Bool:=args.all Yn&&Nat.ble args.length 20
noncomputable def nmOk (x:Str):Bool:=!Fast.sEq x (nS "__debug__")&&!Fast.sEq x (nS "__classdict__")
noncomputable def Z5:Option NameKind→Bool
 | some .local=>true
 | _=>false
noncomputable def isFree:Option NameKind→Bool
 | some .free=>true
 | _=>false
noncomputable def isCellish:Option NameKind→Bool
 | some .cell=>true
 | some .free=>true
 | _=>false
noncomputable def compOk (sc sc':Scope) (iter:Expr) (as:Int):Bool:=YW iter&&decide (as=0)&&isFun sc'.kind&&sc'.names.all fun e=>match e.2 with
 | .local=>Z5 (zO e.1 sc'.names)
 | .free=>isFree (zO e.1 sc'.names)&&isCellish (zO e.1 sc.names)
 | .globalImplicit=>true
 | _=>false
noncomputable def Uv (sc':Scope) (ρ:Loc):Loc:=ρ.filter fun e=>!Z5 (zO e.1 sc'.names)
noncomputable def wI (b:Bool) (m:C):C:=match b with
 | true=>m
 | false=>jW
noncomputable def wC (op:Operator) (a b:V):M V:=ZD a fun x=>ZD b fun y=>match op with
 | .Add=>ret (.int (x+y))
 | .Sub=>ret (.int (x - y))
 | _=>fail
noncomputable def ZA {β:Type} (o:Option β) (f:β→C):C:=match o with
 | some x=>f x
 | .none=>jW
noncomputable def c0 {β:Type} (l:List β) (c:C):C:=match l with
 | []=>c
 | _=>jW
noncomputable def cC {β:Type} (l:List β) (f:β→List β→C):C:=match l with
 | x::r=>f x r
 | _=>jW
noncomputable def c1 {β:Type} (l:List β) (f:β→C):C:=cC l fun x r=>c0 r (f x)
noncomputable def nmE (x:Expr):Option (Str×Pos):=match vw x with
 | .name a p=>some (a,p)
 | _=>none
noncomputable def nmL:List Expr→Option (List (Str×Pos))
 | []=>some []
 | x::r=>(nmE x).bind fun a=>(nmL r).map (a::·)
structure Ev where
 e:Scope→Expr→Loc→M V
 t:Scope→Expr→Loc→M Bool
 s:Stmt→Loc→(Loc→C)→(V→C)→C
section
variable (P:Prg) (cf:CF) (sc:Scope) (I:Ev)
noncomputable def evL (f:Expr→M V):List Expr→M (List V)
 | []=>fun k=>k []
 | x::r=>fun k=>f x fun v=>evL f r fun vs=>k (v::vs)
noncomputable def andL (f:Expr→M V):List Expr→M V
 | []=>fail
 | x::r=>match r with
  | []=>f x
  | y::s=>fun k=>f x fun v=>zE v fun b=>pIf b (andL f (y::s) k) (k v)
noncomputable def orL (f:Expr→M V):List Expr→M V
 | []=>fail
 | x::r=>match r with
  | []=>f x
  | y::s=>fun k=>f x fun v=>zE v fun b=>pIf b (k v) (orL f (y::s) k)
noncomputable def andT (f:Expr→M Bool):List Expr→M Bool
 | []=>fun k=>k true
 | x::r=>fun k=>f x fun b=>pIf b (andT f r k) (k false)
noncomputable def orT (f:Expr→M Bool):List Expr→M Bool
 | []=>fun k=>k false
 | x::r=>fun k=>f x fun b=>pIf b (k true) (orT f r k)
noncomputable def glM (g:GV):M V:=match g with
 | .val v=>ret v
 | _=>fail
noncomputable def nameM (x:Str) (ρ:Loc) (q:NameKind):M V:=match q with
 | .globalImplicit=>ya (P.get x) glM
 | .local=>ya (zO x ρ) ret
 | .cell=>ya (zO x ρ) ret
 | .free=>ya (zO x ρ) ret
 | _=>fail
noncomputable def evName (sc:Scope) (x:Str) (ρ:Loc):M V:=chk (nmOk x) (ya (zO x sc.names) (nameM P x ρ))
noncomputable def isBd:NameKind→Bool
 | .local=>true
 | .cell=>true
 | _=>false
noncomputable def wJ (n:Str) (v:V) (ρ:Loc):M Loc:=ya (zO n sc.names) fun q=>chk (isBd q) (ret (ZJ n v ρ))
noncomputable def asg2 (a b:Str) (v:V) (ρ:Loc):M Loc:=fun kn=>yZ v fun x y=>wJ sc a x ρ fun ρ=>wJ sc b y ρ kn
noncomputable def asg5 (a b c d e:Str) (v:V) (ρ:Loc):M Loc:=fun kn=>YU v fun x y z u w=>wJ sc a x ρ fun ρ=>wJ sc b y ρ fun ρ=>wJ sc c z ρ fun ρ=>wJ sc d u ρ fun ρ=>wJ sc e w ρ kn
noncomputable def asgT (v:V) (ρ:Loc) (ns:List (Str×Pos)):M Loc:=onC ns fun a r=>onC r fun b r=>match r with
 | []=>asg2 sc a.1 b.1 v ρ
 | c::r=>on2 r fun d e=>asg5 sc a.1 b.1 c.1 d.1 e.1 v ρ
noncomputable def noneO (o:Option Expr) (x:Option Expr):Option Expr:=match o with
 | .none=>x
 | _=>.none
noncomputable def Jd (i:Expr):Option Expr:=match vw i with
 | .slice lo hi sp=>noneO hi (noneO sp lo)
 | _=>.none
noncomputable def asgS (o i:Expr) (v:V) (ρ:Loc):M Loc:=match Jd i with
 | some lo=>fun kn=>I.e sc o ρ fun ov=>I.e sc lo ρ fun l=>ZC ov l v (kn ρ)
 | .none=>fun kn=>I.e sc o ρ fun ov=>I.e sc i ρ fun iv=>zV ov iv v (kn ρ)
noncomputable def asg (x:Expr) (v:V) (ρ:Loc):M Loc:=match vw x with
 | .name n _=>wJ sc n v ρ
 | .tup es=>ya (nmL es) (asgT sc v ρ)
 | .attr o n _=>fun kn=>I.e sc o ρ fun ov=>zK P ov n v (kn ρ)
 | .sub o i=>asgS sc I o i v ρ
 | _=>fail
noncomputable def optE (o:Option Expr) (f:Expr→M V):M V:=match o with
 | .none=>ret .none
 | some x=>f x
noncomputable def Qt (elt:Expr) (ρ:Loc) (add:Option V→C) (ifs:List Expr):C:=match ifs with
 | []=>I.e sc elt ρ fun x=>add (some x)
 | t::r=>c0 r (I.t sc t ρ fun b=>pIf b (I.e sc elt ρ fun x=>add (some x)) (add .none))
noncomputable def compM (elt:Expr) (sc':Scope) (ρ:Loc) (g:Comprehension):M V:=chk (compOk sc sc' g.iter g.is_async) fun k=>I.e sc g.iter ρ fun it=>ye it (fun v add=>asg P sc' I g.target v (Uv sc' ρ) fun ρ1=>Qt sc' I elt ρ1 add g.ifs) k
noncomputable def cmp1 (l:Expr) (op:CmpOp) (r:Expr) (ρ:Loc):M V:=chk (YW r) fun k=>I.e sc l ρ fun a=>I.e sc r ρ fun b=>zL op a b k
noncomputable def cmp2 (l:Expr) (op op':CmpOp) (r r':Expr) (ρ:Loc):M V:=chk (YW r&&YW r') fun k=>I.e sc l ρ fun a=>I.e sc r ρ fun b=>zL op a b fun c=>zE c fun t=>pIf t (I.e sc r' ρ fun b'=>zL op' b b' k) (k c)
noncomputable def isGl:NameKind→Bool
 | .globalImplicit=>true
 | _=>false
noncomputable def isCl:GV→Bool
 | .val _=>false
 | _=>true
noncomputable def callG (vs:List V) (g:GV):M V:=match g with
 | .fn i=>cf i vs
 | .cls c=>zp P cf c vs
 | .blt b=>zj b vs
 | _=>fail
noncomputable def callE (f:Expr) (args:List Expr) (p:Pos) (ρ:Loc):M V:=match vw f with
 | .name f _=>chk (nmOk f&&YD args) (ya (zO f sc.names) fun q=>chk (isGl q) (ya (P.get f) fun g=>chk (isCl g) fun k=>evL (fun y=>I.e sc y ρ) args fun vs=>callG P cf vs g k))
 | .attr o m ap=>chk (UU o&&(Nat.beq ap.endLine p.line&&YD args)) fun k=>I.e sc o ρ fun ov=>zR P ov m fun bm=>evL (fun y=>I.e sc y ρ) args fun vs=>zN cf bm vs k
 | _=>fail
noncomputable def subI (o i:Expr) (ρ:Loc):M V:=fun k=>I.e sc o ρ fun ov=>I.e sc i ρ fun iv=>zC ov iv k
noncomputable def sliE (o:Expr) (lo hi:Option Expr) (ρ:Loc) (sp:Option Expr):M V:=match sp with
 | .none=>fun k=>I.e sc o ρ fun ov=>optE lo (fun y=>I.e sc y ρ) fun l=>optE hi (fun y=>I.e sc y ρ) fun h=>yA ov l h k
 | _=>fail
noncomputable def subE (o i:Expr) (ρ:Loc):M V:=match vw i with
 | .slice lo hi sp=>sliE sc I o lo hi ρ sp
 | _=>subI sc I o i ρ
noncomputable def unE (op:UnaryOp) (v:V):M V:=match op with
 | .Not=>fun k=>zE v fun b=>k (.bool (!b))
 | op=>pUn op v
noncomputable def stepE (sc:Scope) (x:Expr) (ρ:Loc):M V:=match x with
 | .Constant c _ _=>ya (constV c) ret
 | .Name x _=>evName P sc x ρ
 | .BoolOp op vs _=>(match op with
   | .And=>andL (fun y=>I.e sc y ρ) vs
   | .Or=>orL (fun y=>I.e sc y ρ) vs)
 | .BinOp l op r _=>fun k=>I.e sc l ρ fun a=>I.e sc r ρ fun b=>zT op a b k
 | .UnaryOp op y _=>fun k=>I.e sc y ρ fun v=>unE op v k
 | .IfExp t a b _=>fun k=>I.t sc t ρ fun c=>pIf c (I.e sc a ρ k) (I.e sc b ρ k)
 | .Dict ks vs _=>on0 ks (on0 vs (zU (.dict [] (some 0))))
 | .List es _=>chk (YD es) fun k=>evL (fun y=>I.e sc y ρ) es fun vs=>zU (.list vs) k
 | .Tuple es _ _=>chk (YD es) fun k=>evL (fun y=>I.e sc y ρ) es fun vs=>k (.tup vs)
 | .ListComp elt gs sc' _=>on1 gs (compM P sc I elt sc' ρ)
 | .Compare l ops rs _=>onC ops fun op ops=>onC rs fun r rs=>(match ops with
   | []=>on0 rs (cmp1 sc I l op r ρ)
   | op'::ops=>on0 ops (on1 rs fun r'=>cmp2 sc I l op op' r r' ρ))
 | .Call f args kws p=>on0 kws (callE P cf sc I f args p ρ)
 | .Attribute o n _=>chk (UU o) fun k=>I.e sc o ρ fun ov=>zD P ov n k
 | .Subscript o i _=>subE sc I o i ρ
 | _=>fail
noncomputable def plainT (x:Expr) (ρ:Loc):M Bool:=fun k=>I.e sc x ρ fun v=>zE v k
noncomputable def stepT (sc:Scope) (x:Expr) (ρ:Loc):M Bool:=match x with
 | .UnaryOp op y p=>(match op with
   | .Not=>fun k=>I.t sc y ρ fun b=>k (!b)
   | op=>plainT sc I (.UnaryOp op y p) ρ)
 | .BoolOp op vs _=>(match op with
   | .And=>andT (fun y=>I.t sc y ρ) vs
   | .Or=>orT (fun y=>I.t sc y ρ) vs)
 | .IfExp t a b _=>fun k=>I.t sc t ρ fun c=>pIf c (I.t sc a ρ k) (I.t sc b ρ k)
 | .Compare l ops rs _=>on1 ops fun op=>on1 rs fun r=>chk (YW r) fun k=>I.e sc l ρ fun a=>I.e sc r ρ fun b=>zL op a b fun c=>zE c k
 | y=>plainT sc I y ρ
noncomputable def evB (f:Stmt→Loc→(Loc→C)→(V→C)→C):List Stmt→Loc→(Loc→C)→(V→C)→C
 | [],ρ,kn,_=>kn ρ
 | x::r,ρ,kn,kr=>f x ρ (fun ρ'=>evB f r ρ' kn kr) kr
noncomputable def zu (x:Expr):List Str:=match vw x with
 | .name a _=>[a]
 | .tup es=>es.filterMap fun e=>(nmE e).map (·.1)
 | _=>[]
mutual
noncomputable def bindsS:Stmt→List Str
 | .Assign ts _ _=>ts.flatMap zu
 | .If _ a b _=>yH a++yH b
 | .For t _ a _ _=>zu t++yH a
 | .While _ a _ _=>yH a
 | .Try a _ _ b _=>yH a++yH b
 | _=>[]
noncomputable def yH:List Stmt→List Str
 | []=>[]
 | x::r=>bindsS x++yH r
end
noncomputable def YN:List Str→List Str
 | []=>[]
 | x::r=>match (YN r).any (Fast.sEq x) with
  | true=>YN r
  | false=>x::YN r
noncomputable def YC (ρ:Loc) (tgt:Expr) (body:List Stmt):List Str:=
 (YN (yH body)).filter fun x=>(zO x ρ).isSome&&!(zu tgt).any (Fast.sEq x)
section
variable (tgt:Expr) (body:List Stmt) (kn:Loc→C) (kr:V→C) (it:V) (ρ:Loc)
noncomputable def for0:C:=yL it (fun v k=>asg P sc I tgt v ρ fun ρ1=>evB I.s body ρ1 (fun _=>k) kr) (kn ρ)
noncomputable def for1 (a:Str):C:=ZA (zO a ρ) fun u=>Uu it u (fun v u k=>asg P sc I tgt v (ZJ a u ρ) fun ρ1=>evB I.s body ρ1 (fun ρ2=>ZA (zO a ρ2) k) kr) (fun u=>kn (ZJ a u ρ))
noncomputable def set3 (a b c:Str) (u v w:V):Loc:=ZJ c w (ZJ b v (ZJ a u ρ))
noncomputable def get3 (a b c:Str) (ρ:Loc) (k:V→V→V→C):C:=ZA (zO a ρ) fun u=>ZA (zO b ρ) fun v=>ZA (zO c ρ) fun w=>k u v w
noncomputable def for3 (a b c:Str):C:=get3 a b c ρ fun u v w=>we it u v w (fun x u v w k=>asg P sc I tgt x (set3 ρ a b c u v w) fun ρ1=>evB I.s body ρ1 (fun ρ2=>get3 a b c ρ2 k) kr) (fun u v w=>kn (set3 ρ a b c u v w))
noncomputable def forS (cs:List Str):C:=match cs with
 | []=>for0 P sc I tgt body kn kr it ρ
 | a::r=>(match r with
   | []=>for1 P sc I tgt body kn kr it ρ a
   | b::r=>c1 r fun c=>for3 P sc I tgt body kn kr it ρ a b c)
end
noncomputable def augS (tg:Expr) (op:Operator) (y:Expr) (ρ:Loc) (kn:Loc→C):C:=match vw tg with
 | .attr o a _=>I.e sc o ρ fun ov=>zD P ov a fun old=>I.e sc y ρ fun v=>wC op old v fun new=>zK P ov a new (kn ρ)
 | _=>jW
noncomputable def delS (t:Expr) (c:C) (ρ:Loc):C:=match vw t with
 | .sub o i=>ZA (Jd i) fun lo=>I.e sc o ρ fun ov=>I.e sc lo ρ fun l=>jX ov l c
 | _=>jW
noncomputable def jf (ρ:Loc) (tgt:Expr):Loc:=(zu tgt).foldl (fun r x=>W6 x r) ρ
noncomputable def stepS (sc:Scope) (x:Stmt) (ρ:Loc) (kn:Loc→C) (kr:V→C):C:=match x with
 | .Expr y _=>wI (WV y) (I.e sc y ρ fun _=>kn ρ)
 | .Pass _=>kn ρ
 | .Return o _=>(match o with
   | .none=>kr .none
   | some y=>I.e sc y ρ kr)
 | .Assign ts y _=>c1 ts fun t=>wI (noTup t||noTup y) (I.e sc y ρ fun v=>asg P sc I t v ρ kn)
 | .AugAssign tg op y _=>augS P sc I tg op y ρ kn
 | .If t a b _=>I.t sc t ρ fun c=>pIf c (evB I.s a ρ kn kr) (evB I.s b ρ kn kr)
 | .For tgt iter body els _=>c0 els (wI (YW iter) (I.e sc iter ρ fun it=>forS P sc I tgt body kn kr it (jf ρ tgt) (YC (jf ρ tgt) tgt body)))
 | .While t body els _=>c0 els (wI ((yH body).all fun x=>(zO x ρ).isNone) (YK (I.t sc t ρ) (fun k=>evB I.s body ρ (fun _=>k) kr) (kn ρ) 64))
 | .Try body _ els final _=>c0 els (wI (!final.isEmpty) (evB I.s body ρ (fun ρ'=>evB I.s final ρ' kn kr) (fun _=>jW)))
 | .Delete ts _=>c1 ts fun t=>delS sc I t (kn ρ) ρ
 | _=>jW
end
noncomputable def ev (P:Prg) (cf:CF) (sc:Scope):Nat→Ev
 | 0=>⟨fun _ _ _=>fail,fun _ _ _=>fail,fun _ _ _ _=>jW⟩
 | n+1=>⟨stepE P cf (ev P cf sc n),stepT (ev P cf sc n),stepS P (ev P cf sc n) sc⟩
noncomputable def constOf (x:Expr):Option V:=match vw x with
 | .const c=>constV c
 | _=>.none
noncomputable def dfltV (ds:List Expr):Option V:=match ds with
 | d::r=>(match r with
   | []=>constOf d
   | _=>.none)
 | _=>.none
noncomputable def bindD (p:Arg) (ds:List Expr) (ps:List Arg):Option Loc:=match ps with
 | []=>(dfltV ds).map fun v=>[(p.arg,v)]
 | _=>.none
noncomputable def isNilL (vs:List V):Option Loc:=match vs with
 | []=>some []
 | _=>.none
noncomputable def uL (ds:List Expr):List Arg→List V→Option Loc
 | []=>isNilL
 | p::ps=>fun vs=>match vs with
  | []=>bindD p ds ps
  | v::vs=>(uL ds ps vs).map ((p.arg,v)::·)
noncomputable def zQ (P:Prg) (cf:CF) (d:Stmt) (vs:List V):M V:=fun k=>ZA (uL (jJ d).defaults (jJ d).args vs) fun ρ=>evB (ev P cf (zn d) 24).s (YB d) ρ (fun _=>k .none) k
end Wk
end
section
namespace Wk
open Mine (st sm)
noncomputable def Zc:V:=(.tup [(.tup [(.int 1),(.str (nS "any"))]),(.tup [(.int 1),(.str (nS "unknown"))]),(.tup [(.int 1),(.str (nS "never"))]),(.tup [(.int 1),(.str (nS "void"))]),(.tup [(.int 1),(.str (nS "undefined"))]),(.tup [(.int 1),(.str (nS "null"))]),(.tup [(.int 1),(.str (nS "string"))]),(.tup [(.int 1),(.str (nS "number"))]),(.tup [(.int 2),(.int 0),(.int 0)]),(.tup [(.int 2),(.int 1),(.int 0)]),(.tup [(.int 1),(.str (nS "object"))]),(.tup [(.int 8),(.tup []),(.tup []),(.tup []),(.tup []),(.tup []),(.int 0)]),(.tup [(.int 6),(.tup [(.int 8),(.int 9)])]),(.tup [(.int 1),(.str (nS "error"))]),(.tup [(.int 2),(.int 0),(.int 1)]),(.tup [(.int 2),(.int 1),(.int 1)])])
noncomputable def ZF:V:=(.tup [(.int 2),(.int 3),(.int 4),(.int 5),(.int 8)])
noncomputable def Zb:V:=(.cdict [((.int 1),(.str (nS "number"))),((.int 2),(.str (nS "text"))),((.int 3),(.str (nS "template"))),((.int 4),(.str (nS "true"))),((.int 5),(.str (nS "false"))),((.int 6),(.str (nS "null"))),((.int 7),(.str (nS "undefined"))),((.int 8),(.str (nS "name"))),((.int 9),(.str (nS "this"))),((.int 10),(.str (nS "super"))),((.int 11),(.str (nS "array literal"))),((.int 12),(.str (nS "object literal"))),((.int 13),(.str (nS "property"))),((.int 14),(.str (nS "short property"))),((.int 15),(.str (nS "spread"))),((.int 16),(.str (nS "member"))),((.int 17),(.str (nS "index"))),((.int 18),(.str (nS "call"))),((.int 19),(.str (nS "new"))),((.int 20),(.str (nS "optional chain"))),((.int 21),(.str (nS "unary operator"))),((.int 22),(.str (nS "update"))),((.int 23),(.str (nS "binary operator"))),((.int 24),(.str (nS "logical operator"))),((.int 25),(.str (nS "assignment"))),((.int 26),(.str (nS "choice"))),((.int 27),(.str (nS "function"))),((.int 28),(.str (nS "parameter"))),((.int 29),(.str (nS "as"))),((.int 30),(.str (nS "as const"))),((.int 31),(.str (nS "satisfies"))),((.int 32),(.str (nS "non-null mark"))),((.int 33),(.str (nS "parentheses"))),((.int 34),(.str (nS "object pattern"))),((.int 35),(.str (nS "array pattern"))),((.int 36),(.str (nS "binding"))),((.int 40),(.str (nS "file"))),((.int 41),(.str (nS "variable statement"))),((.int 42),(.str (nS "declarator"))),((.int 43),(.str (nS "expression statement"))),((.int 44),(.str (nS "if"))),((.int 45),(.str (nS "while"))),((.int 46),(.str (nS "do"))),((.int 47),(.str (nS "for"))),((.int 48),(.str (nS "for of"))),((.int 49),(.str (nS "for in"))),((.int 50),(.str (nS "switch"))),((.int 51),(.str (nS "case"))),((.int 52),(.str (nS "return"))),((.int 53),(.str (nS "break"))),((.int 54),(.str (nS "continue"))),((.int 55),(.str (nS "label"))),((.int 56),(.str (nS "throw"))),((.int 57),(.str (nS "try"))),((.int 58),(.str (nS "catch"))),((.int 59),(.str (nS "block"))),((.int 60),(.str (nS "empty statement"))),((.int 61),(.str (nS "class"))),((.int 62),(.str (nS "field"))),((.int 63),(.str (nS "index signature"))),((.int 64),(.str (nS "interface"))),((.int 65),(.str (nS "type alias"))),((.int 66),(.str (nS "enum"))),((.int 67),(.str (nS "enum member"))),((.int 68),(.str (nS "impor\x74"))),((.int 69),(.str (nS "imported name"))),((.int 70),(.str (nS "export"))),((.int 71),(.str (nS "row of nodes"))),((.int 80),(.str (nS "keyword type"))),((.int 81),(.str (nS "type name"))),((.int 82),(.str (nS "literal type"))),((.int 83),(.str (nS "union type"))),((.int 84),(.str (nS "intersection type"))),((.int 85),(.str (nS "array type"))),((.int 86),(.str (nS "tuple type"))),((.int 87),(.str (nS "tuple element"))),((.int 88),(.str (nS "object type"))),((.int 89),(.str (nS "keyof"))),((.int 90),(.str (nS "indexed type"))),((.int 91),(.str (nS "mapped type"))),((.int 92),(.str (nS "conditional type"))),((.int 93),(.str (nS "infer"))),((.int 94),(.str (nS "template type"))),((.int 95),(.str (nS "typeof type"))),((.int 96),(.str (nS "predicate"))),((.int 97),(.str (nS "readonly type"))),((.int 98),(.str (nS "type parentheses"))),((.int 99),(.str (nS "property signature"))),((.int 100),(.str (nS "type parameter")))])
noncomputable def WZ:V:=(.tup [(.int 4),(.int 1),(.int 3),(.int 0),(.int 32),(.int 8),(.int 24),(.int 256),(.int 512),(.int 1024),(.int 64),(.int 192),(.int 257),(.int 513),(.int 36),(.int 1536),(.int 4096),(.int 2048),(.int 8192)])
noncomputable def globs:List (Nat×Str×GV):=[(219501841958175804875346968999071977633109365842469519430,nS "FIRST_ROWS",.val Zc),
 (126336738128558339923050585,nS "Y_STR",.val (.int 3)),
 (118633286952537216972161113,nS "Y_NUM",.val (.int 4)),
 (130454257561662887507969277100121,nS "Y_BOOL",.val (.int 2)),
 (170201507882125456700725644040826978393,nS "Y_ARRAY",.val (.int 11)),
 (116722227855059392565417528459333,nS "E_NEED",.val (.int 0)),
 (129418113620567723544084549,nS "E_OPT",.val (.int 1)),
 (144186278024095654072291548921925,nS "E_REST",.val (.int 2)),
 (131954021975016658732035442818610561113,nS "Y_TUPLE",.val (.int 12)),
 (144880938091729994531648125206893448404074565,nS "E_SPREAD",.val (.int 3)),
 (126336717385263654938935374,nS "NEVER",.val (.int 2)),
 (149165404279392656666609533901847068761,nS "Y_UNION",.val (.int 6)),
 (121871747083661235747616321699923,nS "STRING",.val (.int 6)),
 (140753252879503203410045550526542,nS "NUMBER",.val (.int 7)),
 (132170768593265143843015984349273,nS "Y_ENUM",.val (.int 5)),
 (117092589526331566087667801,nS "Y_TPL",.val (.int 18)),
 (244549636147707162321282562325466615094609695855788739341123661,nS "MARKED_ROWS",.val ZF),
 (160639683180002706877994178458856521798,nS "FALSE_T",.val (.int 8)),
 (144186296512381795439560797323348,nS "TRUE_T",.val (.int 9)),
 (160639683180007328949529510656538181702,nS "FRESH_T",.val (.int 15)),
 (133866429827969563888881055875789357126,nS "FRESH_F",.val (.int 14)),
 (110470940721217,nS "ANY",.val (.int 0)),
 (101782226337861,nS "ERR",.val (.int 13)),
 (149165418011416200494228492148431257685,nS "UNKNOWN",.val (.int 1)),
 (185150894058562263159311209436658329517804758302797,nS "MAX_UNION",.val (.int 400)),
 (107848431243877767002849365,nS "UNDEF",.val (.int 4)),
 (94036376730415857750,nS "VOID",.val (.int 3)),
 (219501796857364387963471930351362017058922122271730368590,nS "NODE_WORDS",.val Zb),
 (189898327258732243599105032241328120723305568075853,nS "MOST_DEEP",.val (.int 50)),
 (178970573846178228172012273150823745683652683,nS "K_EXPORT",.val (.int 70)),
 (115005739933835556227005193060427,nS "K_FUNC",.val (.int 27)),
 (130454239073362917281300447428678,nS "F_DECL",.val (.int 16)),
 (199393255446493383367767505068114119422338361393222,nS "F_AMBIENT",.val (.int 4194304)),
 (130454239073362917281300447428693,nS "U_DECL",.val (.int 19)),
 (158727287342543825646540945796570742859,nS "K_CLASS",.val (.int 61)),
 (132170768593265143843015984349259,nS "K_ENUM",.val (.int 66)),
 (129418108089017757478486094,nS "NULLT",.val (.int 5)),
 (244549585900342458106530865870131078008273962680799660357910605,nS "MOST_ROUNDS",.val (.int 200)),
 (244549588544945222912840311066819445538787669452453676834553933,nS "MOST_SHAPES",.val (.int 40)),
 (304129025989418857363295055874377778997369473924430823519,nS "_law_masks",.val WZ),
 (130454252939599649501341318840395,nS "K_NULL",.val (.int 6)),
 (118438741968038523797649681743947,nS "K_NAME",.val (.int 8)),
 (143428257963086644481381602473039298635,nS "K_BLOCK",.val (.int 59)),
 (118438751212181594465768743829579,nS "K_CASE",.val (.int 51)),
 (153403342727519220480631457831094667925454923,nS "K_SWITCH",.val (.int 50)),
 (137121568945248528233332811,nS "K_TRY",.val (.int 57)),
 (137691132244800541120018369857910145099,nS "K_CATCH",.val (.int 58)),
 (144186278024101185611086393442379,nS "K_LIST",.val (.int 71)),
 (166376781434287943269049385458179440715,nS "K_THROW",.val (.int 56)),
 (178970575758558617108643587759893133812236363,nS "K_EXPRST",.val (.int 43)),
 (143428254530067662663424046660336943179,nS "K_BREAK",.val (.int 53)),
 (142437446070598828148,nS "twig",.fn 1),
 (142743346151528,nS "has",.fn 2),
 (195062464953834205016168456649484861547,nS "kind_of",.fn 10),
 (215190834664312752427992465901504758874898547,nS "str_type",.fn 11),
 (215190834664312752427992465901498552648269934,nS "num_type",.fn 12),
 (239746691189526809233055542170448972594061261078626,nS "bool_type",.fn 13),
 (267104665614546092488257976198623274712007515419459059809,nS "array_type",.fn 14),
 (253989058969220290193039918246303646405596283994220,nS "last_mark",.fn 15),
 (472643241029126439166272791721212221857226593367089907346173984152560495452553326,nS "needed_to_last",.fn 16),
 (247149843442702889083592784274042163083214959,nS "one_rest",.fn 17),
 (267104665614546092488257976198592460916983659194134888564,nS "tuple_type",.fn 18),
 (217321432954646133842083837548705844651163760,nS "parts_of",.fn 19),
 (390629193545015966172326197096533164293880271569730015502537136275575,nS "whole_of_row",.fn 20),
 (361085816215746918416568885253732003589094599837684817005990974390386,nS "regular_twin",.fn 21),
 (304129028363137588079086022553064430978714009041459150954,nS "join_bools",.fn 22),
 (331542441832806009601585907402747264827294314645789220683105736851571,nS "stays_beside",.fn 23),
 (175083353337756172658371058401396,nS "top_of",.fn 24),
 (169476109796371055881617525,nS "union",.fn 25),
 (242120395005974247802187423617681639924637261627489,nS "add_undef",.fn 26),
 (221582641009663890363093504309078095860793449,nS "is_fresh",.fn 27),
 (297584507927933404088174038206642782960720870567855085629800562,nS "regular_one",.fn 28),
 (218010943796004436763212690449795186802,nS "regular",.fn 29),
 (306773640622865693500113206300389501352468053437692248176,nS "plain_part",.fn 35),
 (647977409953314571801698846747795828406107256533952987764699257656193748247862688166660893383524451,nS "ccore_plain_meets",.fn 36),
 (237372959675205976962068596981741479184834537980005,nS "expr_kind",.fn 47),
 (306773628754269909460558917727942566133562284423881687139,nS "check_stmt",.fn 48),
 (264460058102221358843934574959281076076263836640932528243,nS "stays_told",.fn 49),
 (253989027010217248875409997960104592746859207917684,nS "take_back",.fn 50),
 (306773628754269909460558917727953350969910530784480854121,nS "inner_stmt",.fn 53),
 (191237690443955886851004238383341043817,nS "is_head",.fn 54),
 (380781398155551423350568187989492580383355230394812777983892038549606,nS "follow_fault",.fn 55),
 (304129054474137372072939340407033900055369399656551809123,nS "check_rows",.fn 56),
 (306773626380544786936510183475825075460096927842497003619,nS "case_fault",.fn 58),
 (306423613996433061789389755252132297707022847494727865142345827,nS "check_catch",.fn 61),
 (282473749786127298693906450942179705085833627041887,nS "_law_draw",.fn 64),
 (275352617030637614922083183798008299012204459196511,nS "_law_next",.fn 65),
 (261110221553114724897616636420807337020030504927327,nS "_law_join",.fn 66),
 (290906031154953923986119700196907202844420335854070530143,nS "_law_plain",.fn 67),
 (304129028363131196259354012125573404300282613073862983775,nS "_law_cells",.fn 68),
 (270605145479692670519769230723536695837201516986463,nS "_law_expr",.fn 69),
 (272978887646966707182885868213476193002808513658975,nS "_law_rows",.fn 70),
 (275352593594064070273508334644955852209596417179743,nS "_law_stmt",.fn 71),
 (258736507083635674532656894879208949080732713353311,nS "_law_atom",.fn 72),
 (239746691189526809233055542170464184328850194038879,nS "_law_type",.fn 73),
 (239746665622305252431363498257082093339083983814751,nS "_law_node",.fn 74),
 (267104677483154660098430819919026588239641359625703129183,nS "_law_value",.fn 75),
 (282972222860436988001043086689644104789905671330252718175,nS "_law_block",.fn 76),
 (239746665622278479176294958704560876348192448053343,nS "_law_made",.fn 77),
 (261110213030694790147671266318860204180288639336543,nS "_law_seen",.fn 78),
 (258736507083626112685640268921374096889337252413535,nS "_law_room",.fn 79),
 (304129047352934306776564718203274044421229636176136896607,nS "_law_meets",.fn 80),
 (282972222860415681991366054949487067110822727764792836191,nS "_law_check",.fn 81),
 (253989052577446455184925774099085463670969623904351,nS "_law_look",.fn 82),
 (306773609764419925717851564013878854611566837735868858463,nS "_law_sheet",.fn 83),
 (147708328345708,nS "law",.fn 84),
 (139671666743203266638,nS "Node",.cls 0),
 (142437436140618842180,nS "Diag",.cls 1),
 (177179551292170118578634820,nS "Diags",.cls 2),
 (177179548526420581091835982,nS "Notes",.cls 3),
 (239746682667082013556935498575872865961559515005012,nS "TypeTable",.cls 4),
 (154069203295696435644661826,nS "Bound",.cls 5),
 (155609884127249705881370698,nS "Judge",.cls 6),
 (267104644250956072077453790274060746768027164167340032080,nS "PlainJudge",.cls 7),
 (178720239038182257861328979,nS "Sheet",.cls 8),
 (267104656119628557663111260273897426635631458082662907973,nS "ExprStRule",.cls 9),
 (297584502638751611635164187545440642711775716963752895278153806,nS "NothingRule",.cls 10),
 (239746682667118348660737201309568508852390471663682,nS "BlockRule",.cls 11),
 (267104656119628557663111239675900628159763273913026936915,nS "SwitchRule",.cls 12),
 (239746682667118348660737219797871244858386683527252,nS "ThrowRule",.cls 13),
 (193150084564931468867926609324768624724,nS "TryRule",.cls 14),
 (152117651994638286932,nS "Thin",.cls 15),
 (154069208827217853058187335,nS "Guard",.cls 16),
 (245019233678095756537081218731435329007452240,nS "Patterns",.cls 17),
 (175638858014642768115728455,nS "Giver",.cls 18),
 (215190827014804928643383420144527324335112262,nS "FuncRule",.cls 19),
 (197397861167843977352480314622032,nS "Places",.cls 20),
 (136537122865260,nS "len",.blt 0),
 (155609884127262118314573938,nS "range",.blt 1),
 (155609891041697403725217908,nS "tuple",.blt 2),
 (160414963910642827364,nS "dict",.blt 3),
 (171650334355958958403449538936947,nS "sorted",.blt 4),
 (141502121771123,nS "str",.blt 5)]
noncomputable def clss:List Zm:=[⟨(some 0),[nS "kind",nS "a",nS "kids",nS "flags",nS "at",nS "nid"],[]⟩,
 ⟨(some 3),[nS "number",nS "at",nS "args",nS "file"],[]⟩,
 ⟨(some 4),[nS "rows",nS "file"],[(nS "put",5)]⟩,
 ⟨(some 6),[nS "rows"],[(nS "put",7)]⟩,
 ⟨(some 8),[nS "rows",nS "index",nS "decls",nS "bounds",nS "defaults",nS "names",nS "origins",nS "renamed",nS "shaping",nS "putting"],[(nS "put",9)]⟩,
 ⟨(some 30),[nS "symbols",nS "scopes",nS "of_node",nS "use",nS "decl",nS "diags"],[]⟩,
 ⟨(some 31),[nS "given"],[(nS "meets",32),(nS "words",33)]⟩,
 ⟨(some 31),[nS "given"],[(nS "meets",34),(nS "words",33)]⟩,
 ⟨(some 37),[nS "tab",nS "host",nS "bound",nS "graph",nS "namer",nS "diags",nS "notes",nS "exprs",nS "stmts",nS "sorts",nS "types",nS "declared",nS "busy",nS "called",nS "consts",nS "sigs",nS "bound_decls",nS "inside",nS "rets",nS "chains",nS "trail",nS "later",nS "late",nS "targets",nS "globals",nS "loops",nS "roots",nS "inits",nS "paired",nS "got_by",nS "under",nS "drawn",nS "dropped",nS "marks",nS "owners",nS "this_of",nS "func_at",nS "selves_of",nS "rounds",nS "callees",nS "heads",nS "banged",nS "told_names",nS "guesses",nS "ready",nS "const_enums",nS "preset",nS "asker",nS "stops",nS "judge",nS "guard",nS "patterns",nS "giver",nS "funcs",nS "places",nS "deep"],[(nS "expr",38),(nS "stmt",39),(nS "fault",40),(nS "tell",41),(nS "words",42),(nS "note",43),(nS "declare",44),(nS "mark",45),(nS "back",46)]⟩,
 ⟨.none,[],[(nS "check",51)]⟩,
 ⟨.none,[],[(nS "check",52)]⟩,
 ⟨.none,[],[(nS "check",57)]⟩,
 ⟨.none,[],[(nS "check",59)]⟩,
 ⟨.none,[],[(nS "check",60)]⟩,
 ⟨.none,[],[(nS "check",62)]⟩,
 ⟨(some 63),[nS "tab",nS "deep",nS "most_rounds",nS "most_deep"],[]⟩,
 ⟨.none,[],[]⟩,
 ⟨.none,[],[]⟩,
 ⟨.none,[],[]⟩,
 ⟨.none,[],[]⟩,
 ⟨.none,[],[]⟩]
noncomputable def P0:Prg:=⟨globs,clss⟩
noncomputable def defAt:Nat→Option Stmt
 | 0=>some (sm 20 0)
 | 1=>some (st 21)
 | 2=>some (st 22)
 | 3=>some (sm 29 0)
 | 4=>some (sm 30 0)
 | 5=>some (sm 30 1)
 | 6=>some (sm 31 0)
 | 7=>some (sm 31 1)
 | 8=>some (sm 65 0)
 | 9=>some (sm 65 2)
 | 10=>some (st 66)
 | 11=>some (st 67)
 | 12=>some (st 68)
 | 13=>some (st 69)
 | 14=>some (st 70)
 | 15=>some (st 71)
 | 16=>some (st 72)
 | 17=>some (st 73)
 | 18=>some (st 74)
 | 19=>some (st 76)
 | 20=>some (st 77)
 | 21=>some (st 78)
 | 22=>some (st 79)
 | 23=>some (st 80)
 | 24=>some (st 81)
 | 25=>some (st 82)
 | 26=>some (st 83)
 | 27=>some (st 84)
 | 28=>some (st 85)
 | 29=>some (st 86)
 | 30=>some (sm 88 0)
 | 31=>some (sm 93 0)
 | 32=>some (sm 93 4)
 | 33=>some (sm 93 7)
 | 34=>some (sm 94 2)
 | 35=>some (st 95)
 | 36=>some (st 97)
 | 37=>some (sm 102 0)
 | 38=>some (sm 102 1)
 | 39=>some (sm 102 2)
 | 40=>some (sm 102 9)
 | 41=>some (sm 102 10)
 | 42=>some (sm 102 11)
 | 43=>some (sm 102 12)
 | 44=>some (sm 102 14)
 | 45=>some (sm 102 15)
 | 46=>some (sm 102 16)
 | 47=>some (st 103)
 | 48=>some (st 104)
 | 49=>some (st 105)
 | 50=>some (st 106)
 | 51=>some (sm 111 0)
 | 52=>some (sm 112 0)
 | 53=>some (st 113)
 | 54=>some (st 114)
 | 55=>some (st 115)
 | 56=>some (st 116)
 | 57=>some (sm 117 0)
 | 58=>some (st 118)
 | 59=>some (sm 119 0)
 | 60=>some (sm 120 0)
 | 61=>some (st 121)
 | 62=>some (sm 122 0)
 | 63=>some (sm 126 0)
 | 64=>some (st 129)
 | 65=>some (st 130)
 | 66=>some (st 131)
 | 67=>some (st 132)
 | 68=>some (st 133)
 | 69=>some (st 134)
 | 70=>some (st 135)
 | 71=>some (st 136)
 | 72=>some (st 137)
 | 73=>some (st 138)
 | 74=>some (st 139)
 | 75=>some (st 140)
 | 76=>some (st 141)
 | 77=>some (st 142)
 | 78=>some (st 143)
 | 79=>some (st 144)
 | 80=>some (st 145)
 | 81=>some (st 146)
 | 82=>some (st 147)
 | 83=>some (st 148)
 | 84=>some (st 149)
 | _=>.none
noncomputable def yu:List Nat:=[44,147,181,223,282,451,584,619,918,984,1003,1048,1074,1093,1119,1264,507,673,694,743,722]
noncomputable def jF:List Nat:=[41,55,62,137,166,173,199,206,265,279,293,301,309,317,325,332,339,346,352,368,375,382,389,396,403,408,415,422,429,434,448,525,553,574,616,628,642,761,768,775,824,831,838,845,859,866,873,929,936,941,946,981,1000,1012,1019,1026,1031,1045,1057,1071,1090,1102,1116,1135,1276,1283,1288,1295,1300,1307,1314,1321,1328,1333,1340,1347,1352,1359,1366,1373,1378,1385,1392,1399,1404]
noncomputable def W3 (cf:CF) (zB ze v_a yJ Zw zP:V) (k:K V):C:=zK P0 zB (nS "kind") ze (zK P0 zB (nS "a") v_a (zK P0 zB (nS "kids") yJ (zK P0 zB (nS "flags") Zw (zK P0 zB (nS "at") zP (zK P0 zB (nS "nid") (.int 0) (k .none))))))
theorem q_Node_init (cf:CF) (zB ze v_a yJ Zw zP:V) (k:K V):zQ P0 cf (sm 20 0) [zB,ze,v_a,yJ,Zw,zP] k=W3 cf zB ze v_a yJ Zw zP k:=by kernel_rfl
noncomputable def f_twig (cf:CF) (ze v_a yJ zP:V) (k:K V):C:=zp P0 cf 0 [ze,v_a,yJ,(.int 0),zP] fun x1=>k x1
theorem q_twig (cf:CF) (ze v_a yJ zP:V) (k:K V):zQ P0 cf (st 21) [ze,v_a,yJ,zP] k=f_twig cf ze v_a yJ zP k:=by kernel_rfl
noncomputable def f_has (cf:CF) (zF JG:V) (k:K V):C:=zD P0 zF (nS "flags") fun x3=>zT .BitAnd x3 JG fun x2=>zL .NotEq x2 (.int 0) fun x1=>k x1
theorem q_has (cf:CF) (zF JG:V) (k:K V):zQ P0 cf (st 22) [zF,JG] k=f_has cf zF JG k:=by kernel_rfl
noncomputable def W5 (cf:CF) (zB zY zP zi jA:V) (k:K V):C:=zK P0 zB (nS "number") zY (zK P0 zB (nS "at") zP (zK P0 zB (nS "args") zi (zK P0 zB (nS "file") jA (k .none))))
theorem q_Diag_init (cf:CF) (zB zY zP zi jA:V) (k:K V):zQ P0 cf (sm 29 0) [zB,zY,zP,zi,jA] k=W5 cf zB zY zP zi jA k:=by kernel_rfl
noncomputable def je (cf:CF) (zB jA:V) (k:K V):C:=zU (.list []) fun x1=>zK P0 zB (nS "rows") x1 (zK P0 zB (nS "file") jA (k .none))
theorem q_Diags_init (cf:CF) (zB jA:V) (k:K V):zQ P0 cf (sm 30 0) [zB,jA] k=je cf zB jA k:=by kernel_rfl
noncomputable def W4 (cf:CF) (zB zY zP zi:V) (k:K V):C:=zD P0 zB (nS "rows") fun x3=>zR P0 x3 (nS "append") fun b2=>zD P0 zB (nS "file") fun x5=>zp P0 cf 1 [zY,zP,zi,x5] fun x4=>zN cf b2 [x4] fun x1=>k .none
theorem q_Diags_put (cf:CF) (zB zY zP zi:V) (k:K V):zQ P0 cf (sm 30 1) [zB,zY,zP,zi] k=W4 cf zB zY zP zi k:=by kernel_rfl
noncomputable def Ys (cf:CF) (zB:V) (k:K V):C:=zU (.list []) fun x1=>zK P0 zB (nS "rows") x1 (k .none)
theorem q_Notes_init (cf:CF) (zB:V) (k:K V):zQ P0 cf (sm 31 0) [zB] k=Ys cf zB k:=by kernel_rfl
noncomputable def W2 (cf:CF) (zB jB zP:V) (k:K V):C:=zD P0 zB (nS "rows") fun x3=>zR P0 x3 (nS "append") fun b2=>zN cf b2 [(.tup [jB,zP])] fun x1=>k .none
theorem q_Notes_put (cf:CF) (zB jB zP:V) (k:K V):zQ P0 cf (sm 31 1) [zB,jB,zP] k=W2 cf zB jB zP k:=by kernel_rfl
noncomputable def Yc (cf:CF) (zB:V) (k:K V):C:=zU (.list []) fun x1=>zK P0 zB (nS "rows") x1 (zU (.dict [] (some 0)) fun x2=>zK P0 zB (nS "index") x2 (zU (.list [.none]) fun x3=>zK P0 zB (nS "decls") x3 (zU (.list []) fun x4=>zK P0 zB (nS "bounds") x4 (zU (.list []) fun x5=>zK P0 zB (nS "defaults") x5 (zU (.list []) fun x6=>zK P0 zB (nS "names") x6 (zU (.dict [] (some 0)) fun x7=>zK P0 zB (nS "origins") x7 (zU (.dict [] (some 0)) fun x8=>zK P0 zB (nS "renamed") x8 (zK P0 zB (nS "shaping") (.int 0) (zK P0 zB (nS "putting") (.int 0) (yL Zc (fun v9 k10=>zR P0 zB (nS "put") fun b12=>zN cf b12 [v9] fun x11=>k10) (k .none)))))))))))
theorem WU (cf:CF) (zB:V) (k:K V):zQ P0 cf (sm 65 0) [zB] k=Yc cf zB k:=by kernel_rfl
noncomputable def Y9 (cf:CF) (zB jT:V) (k:K V):C:=zD P0 zB (nS "index") fun x3=>zL .In jT x3 fun x2=>zE x2 fun c1=>pIf c1 (zD P0 zB (nS "index") fun x5=>zC x5 jT fun x4=>k x4) (zD P0 zB (nS "rows") fun x7=>zj 0 [x7] fun x6=>zD P0 zB (nS "rows") fun x10=>zR P0 x10 (nS "append") fun b9=>zN cf b9 [jT] fun x8=>zD P0 zB (nS "index") fun x11=>zV x11 jT x6 (k x6))
theorem UB (cf:CF) (zB jT:V) (k:K V):zQ P0 cf (sm 65 2) [zB,jT] k=Y9 cf zB jT k:=by kernel_rfl
noncomputable def uD (cf:CF) (zH v_t:V) (k:K V):C:=zD P0 zH (nS "rows") fun x3=>zC x3 v_t fun x2=>zC x2 (.int 0) fun x1=>k x1
theorem q_kind_of (cf:CF) (zH v_t:V) (k:K V):zQ P0 cf (st 66) [zH,v_t] k=uD cf zH v_t k:=by kernel_rfl
noncomputable def QM (cf:CF) (zH JE zf:V) (k:K V):C:=zR P0 zH (nS "put") fun b2=>zN cf b2 [(.tup [(.int 3),JE,zf])] fun x1=>k x1
theorem q_str_type (cf:CF) (zH JE zf:V) (k:K V):zQ P0 cf (st 67) [zH,JE,zf] k=QM cf zH JE zf k:=by kernel_rfl
noncomputable def QP (cf:CF) (zH v_n zf:V) (k:K V):C:=zR P0 zH (nS "put") fun b2=>zN cf b2 [(.tup [(.int 4),v_n,zf])] fun x1=>k x1
theorem q_num_type (cf:CF) (zH v_n zf:V) (k:K V):zQ P0 cf (st 68) [zH,v_n,zf] k=QP cf zH v_n zf k:=by kernel_rfl
noncomputable def W0 (cf:CF) (zH v_b zf:V) (k:K V):C:=zR P0 zH (nS "put") fun b2=>(let j3:K V:=fun x4=>zN cf b2 [(.tup [(.int 2),x4,zf])] fun x1=>k x1; zE v_b fun c6=>pIf c6 (j3 (.int 1)) (j3 (.int 0)))
theorem q_bool_type (cf:CF) (zH v_b zf:V) (k:K V):zQ P0 cf (st 69) [zH,v_b,zf] k=W0 cf zH v_b zf k:=by kernel_rfl
noncomputable def X7 (cf:CF) (zH JH JC:V) (k:K V):C:=zR P0 zH (nS "put") fun b2=>zN cf b2 [(.tup [(.int 11),JH,JC])] fun x1=>k x1
theorem q_array_type (cf:CF) (zH JH JC:V) (k:K V):zQ P0 cf (st 70) [zH,JH,JC] k=X7 cf zH JH JC k:=by kernel_rfl
noncomputable def Wy (cf:CF) (zZ Zt:V) (k:K V):C:=pUn .USub (.int 1) fun x1=>zj 0 [zZ] fun x6=>zj 1 [x6] fun x5=>Uu x5 x1 (fun v2 a4 k3=>(let j8:V→C:=fun p9=>k3 p9; zC zZ v2 fun x13=>zC x13 (.int 1) fun x12=>zL .In x12 Zt fun x11=>zE x11 fun c10=>pIf c10 (j8 v2) (j8 a4))) (fun a7=>k a7)
theorem q_last_mark (cf:CF) (zZ Zt:V) (k:K V):zQ P0 cf (st 71) [zZ,Zt] k=Wy cf zZ Zt k:=by kernel_rfl
noncomputable def Yb (cf:CF) (zH zZ:V) (k:K V):C:=cf 15 [zZ,(.tup [(.int 0)])] fun x1=>zU (.list []) fun x2=>zj 0 [zZ] fun x6=>zj 1 [x6] fun x5=>yL x5 (fun v3 k4=>zC zZ v3 fun x7=>yZ x7 fun u8 u9=>(let j10:C:=k4; (let j11:K Bool:=fun c12=>pIf c12 (zR P0 x2 (nS "append") fun b14=>cf 26 [zH,u8] fun x15=>zN cf b14 [(.tup [x15,(.int 0)])] fun x13=>j10) (zR P0 x2 (nS "append") fun b17=>zN cf b17 [(.tup [u8,u9])] fun x16=>j10); zL .Eq u9 (.int 1) fun x19=>zE x19 fun c18=>pIf c18 (pLt v3 x1 fun x21=>zE x21 fun c20=>pIf c20 (j11 true) (j11 false)) (j11 false)))) (k x2)
theorem WT (cf:CF) (zH zZ:V) (k:K V):zQ P0 cf (st 72) [zH,zZ] k=Yb cf zH zZ k:=by kernel_rfl
noncomputable def QO (cf:CF) (zH zZ YF:V) (k:K V):C:=pUn .USub (.int 1) fun x1=>zj 0 [zZ] fun x6=>zj 1 [x6] fun x5=>Uu x5 x1 (fun v2 a4 k3=>(let j8:V→C:=fun p9=>k3 p9; (let j10:K Bool:=fun c11=>pIf c11 (j8 v2) (j8 a4); pLt a4 (.int 0) fun x13=>zE x13 fun c12=>pIf c12 (zC zZ v2 fun x17=>zC x17 (.int 1) fun x16=>zL .Eq x16 (.int 2) fun x15=>zE x15 fun c14=>pIf c14 (j10 true) (j10 false)) (j10 false)))) (fun a7=>(let j18:K Bool:=fun c19=>pIf c19 (k zZ) (zU (.list []) fun x20=>zT .Add YF (.int 1) fun x24=>yA zZ a7 x24 fun x23=>yL x23 (fun v21 k22=>yZ v21 fun u25 u26=>zR P0 x20 (nS "append") fun b28=>(let j29:K V:=fun x30=>zN cf b28 [x30] fun x27=>k22; zL .Eq u26 (.int 1) fun x33=>zE x33 fun c32=>pIf c32 (cf 26 [zH,u25] fun x34=>j29 x34) (j29 u25))) (yA zZ .none a7 fun x37=>cf 25 [zH,x20] fun x39=>zU (.list [(.tup [x39,(.int 2)])]) fun x38=>zT .Add x37 x38 fun x36=>zT .Add YF (.int 1) fun x41=>yA zZ x41 .none fun x40=>zT .Add x36 x40 fun x35=>k x35)); pLt a7 (.int 0) fun x43=>zE x43 fun c42=>pIf c42 (j18 true) (pLe YF a7 fun x45=>zE x45 fun c44=>pIf c44 (j18 true) (j18 false))))
theorem q_one_rest (cf:CF) (zH zZ YF:V) (k:K V):zQ P0 cf (st 73) [zH,zZ,YF] k=QO cf zH zZ YF k:=by kernel_rfl
noncomputable def Xs (cf:CF) (zH zZ JC:V) (k:K V):C:=ye zZ (fun v1 add2=>yZ v1 fun u4 u5=>add2 (some (.tup [u4,u5]))) fun x3=>(let j6:V→C:=fun p7=>zR P0 zH (nS "put") fun b9=>zj 2 [p7] fun x10=>zN cf b9 [(.tup [(.int 12),x10,JC])] fun x8=>k x8; cf 15 [x3,(.tup [(.int 3)])] fun x13=>pLt x13 (.int 0) fun x12=>zE x12 fun c11=>pIf c11 (cf 15 [x3,(.tup [(.int 2),(.int 1)])] fun x14=>cf 16 [zH,x3] fun x16=>cf 17 [zH,x16,x14] fun x15=>(let j17:K Bool:=fun c18=>pIf c18 (zC x15 (.int 0) fun x21=>zC x21 (.int 0) fun x20=>cf 14 [zH,x20,JC] fun x19=>k x19) (j6 x15); zj 0 [x15] fun x24=>zL .Eq x24 (.int 1) fun x23=>zE x23 fun c22=>pIf c22 (zC x15 (.int 0) fun x28=>zC x28 (.int 1) fun x27=>zL .Eq x27 (.int 2) fun x26=>zE x26 fun c25=>pIf c25 (j17 true) (j17 false)) (j17 false))) (j6 x3))
theorem q_tuple_type (cf:CF) (zH zZ JC:V) (k:K V):zQ P0 cf (st 74) [zH,zZ,JC] k=Xs cf zH zZ JC k:=by kernel_rfl
noncomputable def QN (cf:CF) (zH v_t:V) (k:K V):C:=zL .Eq v_t (.int 2) fun x2=>zE x2 fun c1=>pIf c1 (k (.tup [])) (zD P0 zH (nS "rows") fun x4=>zC x4 v_t fun x3=>zC x3 (.int 0) fun x7=>zL .Eq x7 (.int 6) fun x6=>zE x6 fun c5=>pIf c5 (zC x3 (.int 1) fun x8=>k x8) (k (.tup [v_t])))
theorem q_parts_of (cf:CF) (zH v_t:V) (k:K V):zQ P0 cf (st 76) [zH,v_t] k=QN cf zH v_t k:=by kernel_rfl
noncomputable def Zd (cf:CF) (jT:V) (k:K V):C:=zC jT (.int 0) fun x1=>(let j2:K Bool:=fun c3=>pIf c3 (k (.int 6)) (zL .Eq x1 (.int 4) fun x5=>zE x5 fun c4=>pIf c4 (k (.int 7)) (zL .Eq x1 (.int 5) fun x7=>zE x7 fun c6=>pIf c6 ((let j8:K V:=fun x9=>k x9; jW)) (pUn .USub (.int 1) fun x13=>k x13))); zL .Eq x1 (.int 3) fun x15=>zE x15 fun c14=>pIf c14 (j2 true) (zL .Eq x1 (.int 18) fun x17=>zE x17 fun c16=>pIf c16 (j2 true) (j2 false)))
theorem Uo (cf:CF) (jT:V) (k:K V):zQ P0 cf (st 77) [jT] k=Zd cf jT k:=by kernel_rfl
noncomputable def JP (cf:CF) (zH v_t:V) (k:K V):C:=zD P0 zH (nS "rows") fun x2=>zC x2 v_t fun x1=>(let j3:K Bool:=fun c4=>pIf c4 (zD P0 zH (nS "index") fun x7=>zR P0 x7 (nS "get") fun b6=>pUn .USub (.int 1) fun x10=>yA x1 .none x10 fun x9=>zT .Add x9 (.tup [(.int 0)]) fun x8=>pUn .USub (.int 1) fun x11=>zN cf b6 [x8,x11] fun x5=>k x5) (pUn .USub (.int 1) fun x12=>k x12); zC x1 (.int 0) fun x15=>zL .In x15 ZF fun x14=>zE x14 fun c13=>pIf c13 (pUn .USub (.int 1) fun x19=>zC x1 x19 fun x18=>zL .Eq x18 (.int 1) fun x17=>zE x17 fun c16=>pIf c16 (j3 true) (j3 false)) (j3 false))
theorem Uq (cf:CF) (zH v_t:V) (k:K V):zQ P0 cf (st 78) [zH,v_t] k=JP cf zH v_t k:=by kernel_rfl
noncomputable def Xw (cf:CF) (yS:V) (k:K V):C:=(let j1:C:=k .none; (let j2:K Bool:=fun c3=>pIf c3 (zV yS (.int 8) (.int 1) (zV yS (.int 9) (.int 1) (j1))) (j1); (let j4:K Bool:=fun c5=>pIf c5 ((let j6:K Bool:=fun c7=>pIf c7 (j2 true) (j2 false); zL .In (.int 9) yS fun x9=>zE x9 fun c8=>pIf c8 (j6 true) (zL .In (.int 15) yS fun x11=>zE x11 fun c10=>pIf c10 (j6 true) (j6 false)))) (j2 false); zL .In (.int 8) yS fun x13=>zE x13 fun c12=>pIf c12 (j4 true) (zL .In (.int 14) yS fun x15=>zE x15 fun c14=>pIf c14 (j4 true) (j4 false)))))
theorem q_join_bools (cf:CF) (yS:V) (k:K V):zQ P0 cf (st 79) [yS] k=Xw cf yS k:=by kernel_rfl
noncomputable def JO (cf:CF) (zH yS v_t:V) (k:K V):C:=cf 21 [zH,v_t] fun x3=>zL .In x3 yS fun x2=>zE x2 fun c1=>pIf c1 (k (.bool false)) (zD P0 zH (nS "rows") fun x7=>zC x7 v_t fun x6=>cf 20 [x6] fun x5=>zL .NotIn x5 yS fun x4=>k x4)
theorem Up (cf:CF) (zH yS v_t:V) (k:K V):zQ P0 cf (st 80) [zH,yS,v_t] k=JO cf zH yS v_t k:=by kernel_rfl
noncomputable def f_top_of (cf:CF) (yS:V) (k:K V):C:=yL (.tup [(.int 0),(.int 13),(.int 1)]) (fun v1 k2=>zL .In v1 yS fun x4=>zE x4 fun c3=>pIf c3 (k v1) (k2)) (pUn .USub (.int 1) fun x5=>k x5)
theorem q_top_of (cf:CF) (yS:V) (k:K V):zQ P0 cf (st 81) [yS] k=f_top_of cf yS k:=by kernel_rfl
noncomputable def f_union (cf:CF) (zH Zq:V) (k:K V):C:=zU (.dict [] (some 0)) fun x1=>yL Zq (fun v2 k3=>cf 19 [zH,v2] fun x6=>yL x6 (fun v4 k5=>zV x1 v4 (.int 1) (k5)) (k3)) (cf 24 [x1] fun x7=>pGe x7 (.int 0) fun x9=>zE x9 fun c8=>pIf c8 (k x7) (cf 22 [x1] fun x10=>zj 4 [x1] fun x14=>ye x14 (fun v11 add12=>cf 23 [zH,x1,v11] fun x16=>zE x16 fun c15=>pIf c15 (add12 (some v11)) (add12 .none)) fun x13=>zE x13 fun c17=>pIf (!c17) (k (.int 2)) (zj 0 [x13] fun x20=>zL .Eq x20 (.int 1) fun x19=>zE x19 fun c18=>pIf c18 (zC x13 (.int 0) fun x21=>k x21) (zj 0 [x13] fun x24=>pGt x24 (.int 400) fun x23=>zE x23 fun c22=>pIf c22 (jW) (zR P0 zH (nS "put") fun b26=>zj 2 [x13] fun x27=>zN cf b26 [(.tup [(.int 6),x27])] fun x25=>k x25)))))
theorem q_union (cf:CF) (zH Zq:V) (k:K V):zQ P0 cf (st 82) [zH,Zq] k=f_union cf zH Zq k:=by kernel_rfl
noncomputable def W1 (cf:CF) (zH v_t:V) (k:K V):C:=cf 25 [zH,(.tup [v_t,(.int 4)])] fun x1=>k x1
theorem q_add_undef (cf:CF) (zH v_t:V) (k:K V):zQ P0 cf (st 83) [zH,v_t] k=W1 cf zH v_t k:=by kernel_rfl
noncomputable def Qd (cf:CF) (zH v_t:V) (k:K V):C:=zD P0 zH (nS "rows") fun x2=>zC x2 v_t fun x1=>(let j3:K V:=fun x4=>k x4; zC x1 (.int 0) fun x7=>zL .In x7 ZF fun x6=>zE x6 fun b5=>pIf b5 (pUn .USub (.int 1) fun x10=>zC x1 x10 fun x9=>zL .Eq x9 (.int 1) fun x8=>j3 x8) (j3 x6))
theorem q_is_fresh (cf:CF) (zH v_t:V) (k:K V):zQ P0 cf (st 84) [zH,v_t] k=Qd cf zH v_t k:=by kernel_rfl
noncomputable def Jz (cf:CF) (zH v_t:V) (k:K V):C:=cf 27 [zH,v_t] fun x2=>zE x2 fun c1=>pIf c1 (zR P0 zH (nS "put") fun b4=>zD P0 zH (nS "rows") fun x8=>zC x8 v_t fun x7=>pUn .USub (.int 1) fun x9=>yA x7 .none x9 fun x6=>zT .Add x6 (.tup [(.int 0)]) fun x5=>zN cf b4 [x5] fun x3=>k x3) (k v_t)
theorem Q5 (cf:CF) (zH v_t:V) (k:K V):zQ P0 cf (st 85) [zH,v_t] k=Jz cf zH v_t k:=by kernel_rfl
noncomputable def uB (cf:CF) (zH v_t:V) (k:K V):C:=cf 10 [zH,v_t] fun x3=>zL .Eq x3 (.int 6) fun x2=>zE x2 fun c1=>pIf c1 (cf 19 [zH,v_t] fun x8=>ye x8 (fun v5 add6=>cf 28 [zH,v5] fun x9=>add6 (some x9)) fun x7=>cf 25 [zH,x7] fun x4=>k x4) (cf 28 [zH,v_t] fun x10=>k x10)
theorem q_regular (cf:CF) (zH v_t:V) (k:K V):zQ P0 cf (st 86) [zH,v_t] k=uB cf zH v_t k:=by kernel_rfl
noncomputable def Yt (cf:CF) (zB yc:V) (k:K V):C:=zU (.list [.none]) fun x1=>zK P0 zB (nS "symbols") x1 (zU (.list []) fun x2=>zK P0 zB (nS "scopes") x2 (zU (.dict [] (some 0)) fun x3=>zK P0 zB (nS "of_node") x3 (zU (.dict [] (some 0)) fun x4=>zK P0 zB (nS "use") x4 (zU (.dict [] (some 0)) fun x5=>zK P0 zB (nS "decl") x5 (zK P0 zB (nS "diags") yc (k .none))))))
theorem q_Bound_init (cf:CF) (zB yc:V) (k:K V):zQ P0 cf (sm 88 0) [zB,yc] k=Yt cf zB yc k:=by kernel_rfl
noncomputable def WE (cf:CF) (zB:V) (k:K V):C:=zU (.dict [] (some 0)) fun x1=>zK P0 zB (nS "given") x1 (k .none)
theorem q_Judge_init (cf:CF) (zB:V) (k:K V):zQ P0 cf (sm 93 0) [zB] k=WE cf zB k:=by kernel_rfl
noncomputable def J4 (cf:CF) (zB zI v_s v_t:V) (k:K V):C:=zL .Eq v_s v_t fun x1=>k x1
theorem wA (cf:CF) (zB zI v_s v_t:V) (k:K V):zQ P0 cf (sm 93 4) [zB,zI,v_s,v_t] k=J4 cf zB zI v_s v_t k:=by kernel_rfl
noncomputable def J3 (cf:CF) (zB zI v_t:V) (k:K V):C:=zj 5 [v_t] fun x1=>k x1
theorem Q9 (cf:CF) (zB zI v_t:V) (k:K V):zQ P0 cf (sm 93 7) [zB,zI,v_t] k=J3 cf zB zI v_t k:=by kernel_rfl
noncomputable def Zh (cf:CF) (zB zI v_s v_t:V) (k:K V):C:=zD P0 zI (nS "tab") fun x2=>cf 36 [x2,v_s,v_t] fun x1=>k x1
theorem XF (cf:CF) (zB zI v_s v_t:V) (k:K V):zQ P0 cf (sm 94 2) [zB,zI,v_s,v_t] k=Zh cf zB zI v_s v_t k:=by kernel_rfl
noncomputable def Xv (cf:CF) (zH v_s v_t:V) (k:K V):C:=(let j1:K Bool:=fun c2=>pIf c2 (k (.bool true)) (zL .Eq v_s (.int 0) fun x4=>zE x4 fun c3=>pIf c3 (zL .NotEq v_t (.int 2) fun x5=>k x5) ((let j6:K Bool:=fun c7=>pIf c7 (k (.bool true)) (zD P0 zH (nS "rows") fun x11=>zC x11 v_s fun x10=>cf 20 [x10] fun x9=>zL .Eq x9 v_t fun x8=>k x8); zL .Eq v_s (.int 4) fun x13=>zE x13 fun c12=>pIf c12 (zL .Eq v_t (.int 3) fun x15=>zE x15 fun c14=>pIf c14 (j6 true) (j6 false)) (j6 false)))); zL .Eq v_s v_t fun x17=>zE x17 fun c16=>pIf c16 (j1 true) (zL .In v_t (.tup [(.int 0),(.int 1),(.int 13)]) fun x19=>zE x19 fun c18=>pIf c18 (j1 true) (zL .In v_s (.tup [(.int 2),(.int 13)]) fun x21=>zE x21 fun c20=>pIf c20 (j1 true) (j1 false))))
theorem q_plain_part (cf:CF) (zH v_s v_t:V) (k:K V):zQ P0 cf (st 95) [zH,v_s,v_t] k=Xv cf zH v_s v_t k:=by kernel_rfl
noncomputable def ZN (cf:CF) (zH v_s v_t:V) (k:K V):C:=(let j1:K Bool:=fun c2=>pIf c2 (k (.bool true)) (cf 29 [zH,v_s] fun x6=>cf 19 [zH,x6] fun x5=>yL x5 (fun v3 k4=>cf 29 [zH,v_t] fun x10=>cf 19 [zH,x10] fun x9=>yL x9 (fun v7 k8=>(let j11:K Bool:=fun c12=>pIf c12 (k (.bool true)) (k8); cf 35 [zH,v3,v7] fun x14=>zE x14 fun c13=>pIf c13 (j11 true) (cf 35 [zH,v7,v3] fun x16=>zE x16 fun c15=>pIf c15 (j11 true) (j11 false)))) (k4)) (k (.bool false))); zL .Eq v_s (.int 2) fun x18=>zE x18 fun c17=>pIf c17 (j1 true) (zL .Eq v_t (.int 2) fun x20=>zE x20 fun c19=>pIf c19 (j1 true) (j1 false)))
theorem Jn (cf:CF) (zH v_s v_t:V) (k:K V):zQ P0 cf (st 97) [zH,v_s,v_t] k=ZN cf zH v_s v_t k:=by kernel_rfl
noncomputable def Yr (cf:CF) (zB zH JF Zx Zv Zs yc zl:V) (k:K V):C:=zK P0 zB (nS "tab") zH (zK P0 zB (nS "host") JF (zK P0 zB (nS "bound") Zx (zK P0 zB (nS "graph") Zv (zK P0 zB (nS "namer") Zs (zK P0 zB (nS "diags") yc (zK P0 zB (nS "notes") zl (zU (.dict [] (some 0)) fun x1=>zK P0 zB (nS "exprs") x1 (zU (.dict [] (some 0)) fun x2=>zK P0 zB (nS "stmts") x2 (zU (.dict [] (some 0)) fun x3=>zK P0 zB (nS "sorts") x3 (zU (.dict [] (some 0)) fun x4=>zK P0 zB (nS "types") x4 (zU (.dict [] (some 0)) fun x5=>zK P0 zB (nS "declared") x5 (zU (.dict [] (some 0)) fun x6=>zK P0 zB (nS "busy") x6 (zU (.dict [] (some 0)) fun x7=>zK P0 zB (nS "called") x7 (zU (.dict [] (some 0)) fun x8=>zK P0 zB (nS "consts") x8 (zU (.dict [] (some 0)) fun x9=>zK P0 zB (nS "sigs") x9 (zU (.dict [] (some 0)) fun x10=>zK P0 zB (nS "bound_decls") x10 (zU (.list []) fun x11=>zK P0 zB (nS "inside") x11 (zU (.list []) fun x12=>zK P0 zB (nS "rets") x12 (zU (.list []) fun x13=>zK P0 zB (nS "chains") x13 (zU (.list []) fun x14=>zK P0 zB (nS "trail") x14 (zU (.list []) fun x15=>zK P0 zB (nS "later") x15 (zU (.list []) fun x16=>zK P0 zB (nS "late") x16 (zU (.dict [] (some 0)) fun x17=>zK P0 zB (nS "targets") x17 (zU (.dict [] (some 0)) fun x18=>zK P0 zB (nS "globals") x18 (zU (.dict [] (some 0)) fun x19=>zK P0 zB (nS "loops") x19 (zU (.dict [] (some 0)) fun x20=>zK P0 zB (nS "roots") x20 (zU (.dict [] (some 0)) fun x21=>zK P0 zB (nS "inits") x21 (zU (.dict [] (some 0)) fun x22=>zK P0 zB (nS "paired") x22 (zU (.dict [] (some 0)) fun x23=>zK P0 zB (nS "got_by") x23 (zU (.dict [] (some 0)) fun x24=>zK P0 zB (nS "under") x24 (zU (.dict [] (some 0)) fun x25=>zK P0 zB (nS "drawn") x25 (zU (.dict [] (some 0)) fun x26=>zK P0 zB (nS "dropped") x26 (zU (.dict [] (some 0)) fun x27=>zK P0 zB (nS "marks") x27 (zU (.dict [] (some 0)) fun x28=>zK P0 zB (nS "owners") x28 (zU (.dict [] (some 0)) fun x29=>zK P0 zB (nS "this_of") x29 (zU (.dict [] (some 0)) fun x30=>zK P0 zB (nS "func_at") x30 (zU (.dict [] (some 0)) fun x31=>zK P0 zB (nS "selves_of") x31 (zU (.dict [] (some 0)) fun x32=>zK P0 zB (nS "rounds") x32 (zU (.dict [] (some 0)) fun x33=>zK P0 zB (nS "callees") x33 (zU (.dict [] (some 0)) fun x34=>zK P0 zB (nS "heads") x34 (zU (.dict [] (some 0)) fun x35=>zK P0 zB (nS "banged") x35 (zU (.dict [] (some 0)) fun x36=>zK P0 zB (nS "told_names") x36 (zU (.dict [] (some 0)) fun x37=>zK P0 zB (nS "guesses") x37 (zK P0 zB (nS "ready") (.int 0) (zU (.dict [] (some 0)) fun x38=>zK P0 zB (nS "const_enums") x38 (zU (.dict [] (some 0)) fun x39=>zK P0 zB (nS "preset") x39 (zK P0 zB (nS "asker") .none (zK P0 zB (nS "stops") .none (zp P0 cf 6 [] fun x40=>zK P0 zB (nS "judge") x40 (zp P0 cf 16 [] fun x41=>zK P0 zB (nS "guard") x41 (zp P0 cf 17 [] fun x42=>zK P0 zB (nS "patterns") x42 (zp P0 cf 18 [] fun x43=>zK P0 zB (nS "giver") x43 (zp P0 cf 19 [] fun x44=>zK P0 zB (nS "funcs") x44 (zp P0 cf 20 [] fun x45=>zK P0 zB (nS "places") x45 (zK P0 zB (nS "deep") (.int 0) (k .none))))))))))))))))))))))))))))))))))))))))))))))))))))))))
theorem q_Sheet_init (cf:CF) (zB zH JF Zx Zv Zs yc zl:V) (k:K V):zQ P0 cf (sm 102 0) [zB,zH,JF,Zx,Zv,Zs,yc,zl] k=Yr cf zB zH JF Zx Zv Zs yc zl k:=by kernel_rfl
noncomputable def WC (cf:CF) (zB zF yX:V) (k:K V):C:=cf 47 [zB,zF,yX] fun x1=>k x1
theorem q_Sheet_expr (cf:CF) (zB zF yX:V) (k:K V):zQ P0 cf (sm 102 1) [zB,zF,yX] k=WC cf zB zF yX k:=by kernel_rfl
noncomputable def X9 (cf:CF) (zB zF:V) (k:K V):C:=cf 48 [zB,zF] fun x1=>k .none
theorem q_Sheet_stmt (cf:CF) (zB zF:V) (k:K V):zQ P0 cf (sm 102 2) [zB,zF] k=X9 cf zB zF k:=by kernel_rfl
noncomputable def J2 (cf:CF) (zB zY zF zi:V) (k:K V):C:=zR P0 zB (nS "tell") fun b2=>zD P0 zF (nS "at") fun x3=>zN cf b2 [zY,x3,zi] fun x1=>k .none
theorem Q8 (cf:CF) (zB zY zF zi:V) (k:K V):zQ P0 cf (sm 102 9) [zB,zY,zF,zi] k=J2 cf zB zY zF zi k:=by kernel_rfl
noncomputable def jQ (k2:C) (k:K V):K Bool:=fun c6=>pIf c6 (k .none) (k2)
noncomputable def UQ (v1 zi:V) (k2:C) (k:K V):C:=zD P0 v1 (nS "args") fun x15=>zL .Eq x15 zi fun x14=>zE x14 fun c13=>pIf c13 ((jQ k2 k) true) ((jQ k2 k) false)
noncomputable def UP (v1 zP zi:V) (k2:C) (k:K V):C:=zD P0 v1 (nS "at") fun x12=>zL .Eq x12 zP fun x11=>zE x11 fun c10=>pIf c10 (UQ v1 zi k2 k) ((jQ k2 k) false)
noncomputable def X8 (cf:CF) (zB zY zP zi:V) (k:K V):C:=zD P0 zB (nS "diags") fun x4=>zD P0 x4 (nS "rows") fun x3=>yL x3 (fun v1 k2=>(zD P0 v1 (nS "number") fun x9=>zL .Eq x9 zY fun x8=>zE x8 fun c7=>pIf c7 (UP v1 zP zi k2 k) ((jQ k2 k) false))) (zD P0 zB (nS "diags") fun x18=>zR P0 x18 (nS "put") fun b17=>zN cf b17 [zY,zP,zi] fun x16=>k .none)
theorem q_Sheet_tell (cf:CF) (zB zY zP zi:V) (k:K V):zQ P0 cf (sm 102 10) [zB,zY,zP,zi] k=X8 cf zB zY zP zi k:=by kernel_rfl
noncomputable def J1 (cf:CF) (zB v_t:V) (k:K V):C:=zD P0 zB (nS "judge") fun x3=>zR P0 x3 (nS "words") fun b2=>zN cf b2 [zB,v_t] fun x1=>k x1
theorem Q7 (cf:CF) (zB v_t:V) (k:K V):zQ P0 cf (sm 102 11) [zB,v_t] k=J1 cf zB v_t k:=by kernel_rfl
noncomputable def WA (cf:CF) (zB jB zF:V) (k:K V):C:=zD P0 zB (nS "notes") fun x3=>zR P0 x3 (nS "put") fun b2=>zD P0 zF (nS "at") fun x4=>zN cf b2 [jB,x4] fun x1=>k .none
theorem q_Sheet_note (cf:CF) (zB jB zF:V) (k:K V):zQ P0 cf (sm 102 12) [zB,jB,zF] k=WA cf zB jB zF k:=by kernel_rfl
noncomputable def JB (cf:CF) (zB XU v_t:V) (k:K V):C:=zD P0 zB (nS "declared") fun x1=>zV x1 XU v_t (zD P0 zB (nS "trail") fun x4=>zR P0 x4 (nS "append") fun b3=>zN cf b3 [(.tup [(.int 1),XU])] fun x2=>k .none)
theorem UD (cf:CF) (zB XU v_t:V) (k:K V):zQ P0 cf (sm 102 14) [zB,XU,v_t] k=JB cf zB XU v_t k:=by kernel_rfl
noncomputable def WB (cf:CF) (zB:V) (k:K V):C:=zD P0 zB (nS "trail") fun x2=>zj 0 [x2] fun x1=>zD P0 zB (nS "diags") fun x5=>zD P0 x5 (nS "rows") fun x4=>zj 0 [x4] fun x3=>zD P0 zB (nS "notes") fun x8=>zD P0 x8 (nS "rows") fun x7=>zj 0 [x7] fun x6=>zD P0 zB (nS "later") fun x11=>zj 0 [x11] fun x10=>zD P0 zB (nS "called") fun x13=>zj 0 [x13] fun x12=>zT .Add (.tup [x1,x3,x6]) (.tup [x10,x12]) fun x9=>k x9
theorem q_Sheet_mark (cf:CF) (zB:V) (k:K V):zQ P0 cf (sm 102 15) [zB] k=WB cf zB k:=by kernel_rfl
noncomputable def WD (cf:CF) (zB yb:V) (k:K V):C:=cf 50 [zB,yb] fun x1=>k .none
theorem q_Sheet_back (cf:CF) (zB yb:V) (k:K V):zQ P0 cf (sm 102 16) [zB,yb] k=WD cf zB yb k:=by kernel_rfl
noncomputable def Qh (cf:CF) (zI zF yX:V) (k:K V):C:=zD P0 zI (nS "deep") fun x19=>wC .Add x19 (.int 1) fun x20=>zK P0 zI (nS "deep") x20 (zD P0 zI (nS "exprs") fun x24=>zD P0 zF (nS "kind") fun x25=>zC x24 x25 fun x23=>zR P0 x23 (nS "kind_of") fun b22=>zN cf b22 [zI,zF,yX] fun x21=>zD P0 zI (nS "deep") fun x26=>wC .Sub x26 (.int 1) fun x27=>zK P0 zI (nS "deep") x27 (zR P0 zI (nS "keep") fun b29=>zN cf b29 [zF,x21] fun x28=>k x21))
noncomputable def Qg (cf:CF) (zI zF yX:V) (k:K V):C:=zD P0 zI (nS "deep") fun x18=>pGe x18 (.int 50) fun x17=>zE x17 fun c16=>pIf c16 (jW) (Qh cf zI zF yX k)
noncomputable def Qf (cf:CF) (zI zF:V) (k:K V):C:=zR P0 zI (nS "fault") fun b13=>zD P0 zF (nS "kind") fun x15=>zC Zb x15 fun x14=>zN cf b13 [(.int 9002),zF,(.tup [x14])] fun x12=>k (.int 13)
noncomputable def Qe (cf:CF) (zF zI yX:V) (k:K V):C:=zD P0 zF (nS "kind") fun x10=>zD P0 zI (nS "exprs") fun x11=>zL .NotIn x10 x11 fun x9=>zE x9 fun c8=>pIf c8 (Qf cf zI zF k) (Qg cf zI zF yX k)
noncomputable def Wz (cf:CF) (zI zF yX:V) (k:K V):C:=zD P0 zF (nS "nid") fun x3=>zD P0 zI (nS "types") fun x4=>zL .In x3 x4 fun x2=>zE x2 fun c1=>pIf c1 (zD P0 zI (nS "types") fun x6=>zD P0 zF (nS "nid") fun x7=>zC x6 x7 fun x5=>k x5) (Qe cf zF zI yX k)
theorem q_expr_kind (cf:CF) (zI zF yX:V) (k:K V):zQ P0 cf (st 103) [zI,zF,yX] k=Wz cf zI zF yX k:=by kernel_rfl
noncomputable def jq (tk22:K Bool):K Bool:=fun c24=>tk22 c24
noncomputable def UK (zI x9:V) (tk22:K Bool):C:=zD P0 zI (nS "later") fun x31=>zj 0 [x31] fun x30=>pGt x30 x9 fun x29=>zE x29 fun c28=>pIf c28 ((jq tk22) true) ((jq tk22) false)
noncomputable def UJ (cf:CF) (zI zF x9:V) (k:K V):C:=zD P0 zI (nS "stmts") fun x19=>zD P0 zF (nS "kind") fun x20=>zC x19 x20 fun x18=>zR P0 x18 (nS "check") fun b17=>zN cf b17 [zI,zF] fun x16=>YK (fun tk22=>(zD P0 zI (nS "deep") fun x27=>zL .Eq x27 (.int 1) fun x26=>zE x26 fun c25=>pIf c25 (UK zI x9 tk22) ((jq tk22) false))) (fun k21=>zD P0 zI (nS "later") fun x36=>zR P0 x36 (nS "pop") fun b35=>zN cf b35 [] fun x34=>zR P0 x34 (nS "run") fun b33=>zN cf b33 [zI] fun x32=>k21) (zD P0 zI (nS "deep") fun x37=>wC .Sub x37 (.int 1) fun x38=>zK P0 zI (nS "deep") x38 (k .none)) 64
noncomputable def UI (cf:CF) (zI zF:V) (k:K V):C:=zD P0 zI (nS "later") fun x10=>zj 0 [x10] fun x9=>zD P0 zI (nS "deep") fun x11=>wC .Add x11 (.int 1) fun x12=>zK P0 zI (nS "deep") x12 (zD P0 zI (nS "deep") fun x15=>pGt x15 (.int 50) fun x14=>zE x14 fun c13=>pIf c13 (jW) (UJ cf zI zF x9 k))
noncomputable def UH (cf:CF) (zI zF:V) (k:K V):C:=zR P0 zI (nS "fault") fun b6=>zD P0 zF (nS "kind") fun x8=>zC Zb x8 fun x7=>zN cf b6 [(.int 9002),zF,(.tup [x7])] fun x5=>k .none
noncomputable def X4 (cf:CF) (zI zF:V) (k:K V):C:=zD P0 zF (nS "kind") fun x3=>zD P0 zI (nS "stmts") fun x4=>zL .NotIn x3 x4 fun x2=>zE x2 fun c1=>pIf c1 (UH cf zI zF k) (UI cf zI zF k)
theorem q_check_stmt (cf:CF) (zI zF:V) (k:K V):zQ P0 cf (st 104) [zI,zF] k=X4 cf zI zF k:=by kernel_rfl
noncomputable def UG (zt zI:V) (k:K V):C:=ye zt (fun v5 add6=>zD P0 v5 (nS "number") fun x10=>zD P0 v5 (nS "at") fun x11=>zD P0 zI (nS "namer") fun x13=>zD P0 x13 (nS "told") fun x12=>zL .In (.tup [x10,x11]) x12 fun x9=>zE x9 fun c8=>pIf c8 (add6 (some v5)) (add6 .none)) fun x7=>k x7
noncomputable def Xu (cf:CF) (zI zt:V) (k:K V):C:=zD P0 zI (nS "namer") fun x3=>pIs x3 .none fun x2=>zE x2 fun c1=>pIf c1 (zU (.list []) fun x4=>k x4) (UG zt zI k)
theorem q_stays_told (cf:CF) (zI zt:V) (k:K V):zQ P0 cf (st 105) [zI,zt] k=Xu cf zI zt k:=by kernel_rfl
noncomputable def Y6 (k1:C):C:=k1
noncomputable def Y5 (k1:C):C:=(Y6 k1)
noncomputable def Y4 (k1:C):C:=(Y5 k1)
noncomputable def Y3 (k1:C):C:=(Y4 k1)
noncomputable def Y0 (k1:C):C:=(Y3 k1)
noncomputable def QL (cf:CF) (zI u12:V) (k1:C):C:=zD P0 zI (nS "guesses") fun x42=>zR P0 x42 (nS "pop") fun b41=>zN cf b41 [u12,.none] fun x40=>(Y0 k1)
noncomputable def QK (cf:CF) (zI u12:V) (k1:C):C:=zD P0 zI (nS "sigs") fun x36=>zR P0 x36 (nS "pop") fun b35=>zN cf b35 [u12,.none] fun x34=>(Y3 k1)
noncomputable def QJ (cf:CF) (u11 zI u12:V) (k1:C):C:=(zL .Eq u11 (.int 3) fun x33=>zE x33 fun c32=>pIf c32 (QK cf zI u12 k1) ((zL .Eq u11 (.int 4) fun x39=>zE x39 fun c38=>pIf c38 (QL cf zI u12 k1) ((Y0 k1)))))
noncomputable def QI (cf:CF) (zI u12:V) (k1:C):C:=zD P0 zI (nS "bound_decls") fun x30=>zR P0 x30 (nS "pop") fun b29=>zN cf b29 [u12,.none] fun x28=>(Y4 k1)
noncomputable def QH (cf:CF) (u11 zI u12:V) (k1:C):C:=(zL .Eq u11 (.int 2) fun x27=>zE x27 fun c26=>pIf c26 (QI cf zI u12 k1) (QJ cf u11 zI u12 k1))
noncomputable def QG (cf:CF) (zI u12:V) (k1:C):C:=zD P0 zI (nS "declared") fun x24=>zR P0 x24 (nS "pop") fun b23=>zN cf b23 [u12,.none] fun x22=>(Y5 k1)
noncomputable def QF (cf:CF) (u11 zI u12:V) (k1:C):C:=(zL .Eq u11 (.int 1) fun x21=>zE x21 fun c20=>pIf c20 (QG cf zI u12 k1) (QH cf u11 zI u12 k1))
noncomputable def QE (cf:CF) (zI u12:V) (k1:C):C:=zD P0 zI (nS "types") fun x18=>zR P0 x18 (nS "pop") fun b17=>zN cf b17 [u12,.none] fun x16=>(Y6 k1)
noncomputable def Wq (cf:CF) (zI yb:V) (k:K V):C:=YK (fun tk2=>zD P0 zI (nS "trail") fun x6=>zj 0 [x6] fun x5=>zC yb (.int 0) fun x7=>pGt x5 x7 fun x4=>zE x4 fun c3=>tk2 c3) (fun k1=>zD P0 zI (nS "trail") fun x10=>zR P0 x10 (nS "pop") fun b9=>zN cf b9 [] fun x8=>yZ x8 fun u11 u12=>(zL .Eq u11 (.int 0) fun x15=>zE x15 fun c14=>pIf c14 (QE cf zI u12 k1) (QF cf u11 zI u12 k1))) (zD P0 zI (nS "diags") fun x46=>zD P0 x46 (nS "rows") fun x45=>zC yb (.int 1) fun x47=>yA x45 x47 .none fun x44=>cf 49 [zI,x44] fun x43=>zD P0 zI (nS "diags") fun x49=>zD P0 x49 (nS "rows") fun x48=>zC yb (.int 1) fun x50=>ZC x48 x50 x43 (zD P0 zI (nS "notes") fun x52=>zD P0 x52 (nS "rows") fun x51=>zC yb (.int 2) fun x53=>jX x51 x53 (zD P0 zI (nS "later") fun x54=>zC yb (.int 3) fun x55=>jX x54 x55 (zD P0 zI (nS "called") fun x59=>ye x59 (fun v56 add57=>add57 (some v56)) fun x58=>zC yb (.int 4) fun x63=>yA x58 x63 .none fun x62=>yL x62 (fun v60 k61=>jW) (k .none))))) 64
theorem q_take_back (cf:CF) (zI yb:V) (k:K V):zQ P0 cf (st 106) [zI,yb] k=Wq cf zI yb k:=by kernel_rfl
noncomputable def jS (cf:CF) (zB zI zF:V) (k:K V):C:=zR P0 zI (nS "expr") fun b2=>zD P0 zF (nS "kids") fun x4=>zC x4 (.int 0) fun x3=>pUn .USub (.int 1) fun x5=>zN cf b2 [x3,x5] fun x1=>k .none
theorem XG (cf:CF) (zB zI zF:V) (k:K V):zQ P0 cf (sm 111 0) [zB,zI,zF] k=jS cf zB zI zF k:=by kernel_rfl
noncomputable def ZO (cf:CF) (zB zI zF:V) (k:K V):C:=k .none
theorem Jo (cf:CF) (zB zI zF:V) (k:K V):zQ P0 cf (sm 112 0) [zB,zI,zF] k=ZO cf zB zI zF k:=by kernel_rfl
noncomputable def Y7 (k:K V):K V:=fun x2=>k x2
noncomputable def Xx (cf:CF) (zF:V) (k:K V):C:=(zD P0 zF (nS "kind") fun x6=>zL .Eq x6 (.int 70) fun x5=>zE x5 fun c4=>pIf c4 (zD P0 zF (nS "kids") fun x8=>zC x8 (.int 0) fun x7=>(Y7 k) x7) ((Y7 k) zF))
theorem q_inner_stmt (cf:CF) (zF:V) (k:K V):zQ P0 cf (st 113) [zF] k=Xx cf zF k:=by kernel_rfl
noncomputable def ZT (zF:V) (k:K V):K Bool:=fun c2=>pIf c2 (k (.bool false)) (zD P0 zF (nS "kids") fun x5=>zC x5 (.int 3) fun x4=>pIs x4 .none fun x3=>k x3)
noncomputable def f_is_head_b1 (cf:CF) (zF:V) (k:K V):C:=cf 2 [zF,(.int 4194304)] fun x12=>zE x12 fun c11=>pIf c11 ((ZT zF k) true) ((ZT zF k) false)
noncomputable def f_is_head_b2 (cf:CF) (zF:V) (k:K V):C:=cf 2 [zF,(.int 16)] fun x10=>zE x10 fun c9=>pIf (!c9) ((ZT zF k) true) (f_is_head_b1 cf zF k)
noncomputable def uE (cf:CF) (zF:V) (k:K V):C:=(zD P0 zF (nS "kind") fun x8=>zL .NotEq x8 (.int 27) fun x7=>zE x7 fun c6=>pIf c6 ((ZT zF k) true) (f_is_head_b2 cf zF k))
theorem q_is_head (cf:CF) (zF:V) (k:K V):zQ P0 cf (st 114) [zF] k=uE cf zF k:=by kernel_rfl
noncomputable def Z6 (k:K V):C:=k .none
noncomputable def X3 (cf:CF) (zI zF zg:V) (k:K V):C:=zR P0 zI (nS "fault") fun b9=>zD P0 zF (nS "a") fun x10=>zN cf b9 [(.int 2389),zg,(.tup [x10])] fun x8=>(Z6 k)
noncomputable def yx (cf:CF) (zI zF zg:V) (k:K V):K Bool:=fun c7=>pIf c7 (X3 cf zI zF zg k) (zR P0 zI (nS "fault") fun b12=>zN cf b12 [(.int 2391),zF,(.tup [])] fun x11=>(Z6 k))
noncomputable def X2 (cf:CF) (zg zI zF:V) (k:K V):C:=zD P0 zg (nS "kids") fun x17=>zC x17 (.int 3) fun x16=>Ym x16 .none fun x15=>zE x15 fun c14=>pIf c14 ((yx cf zI zF zg k) true) ((yx cf zI zF zg k) false)
noncomputable def X1 (cf:CF) (x2 zg zI zF:V) (k:K V):C:=((zE x2 fun c13=>pIf c13 (X2 cf zg zI zF k) ((yx cf zI zF zg k) false)))
noncomputable def yy (cf:CF) (x2 zg zI zF:V) (k:K V):K Bool:=fun c4=>pIf c4 (k .none) (X1 cf x2 zg zI zF k)
noncomputable def X0 (cf:CF) (zg zF x2 zI:V) (k:K V):C:=zD P0 zg (nS "a") fun x21=>zD P0 zF (nS "a") fun x22=>zL .Eq x21 x22 fun x20=>zE x20 fun c19=>pIf c19 ((yy cf x2 zg zI zF k) true) ((yy cf x2 zg zI zF k) false)
noncomputable def jc (cf:CF) (zg zF zI:V) (k:K V):K V:=fun x2=>(zE x2 fun c18=>pIf c18 (X0 cf zg zF x2 zI k) ((yy cf x2 zg zI zF k) false))
noncomputable def Xz (cf:CF) (zg zF zI:V) (k:K V):C:=cf 2 [zg,(.int 4194304)] fun x29=>zE x29 fun x28=>(jc cf zg zF zI k) (.bool (!x28))
noncomputable def Xy (cf:CF) (zg zF zI:V) (k:K V):C:=zD P0 zg (nS "kind") fun x27=>zL .Eq x27 (.int 27) fun x26=>zE x26 fun b25=>pIf b25 (Xz cf zg zF zI k) ((jc cf zg zF zI k) x26)
noncomputable def JR (cf:CF) (zI zF zg:V) (k:K V):C:=(Ym zg .none fun x24=>zE x24 fun b23=>pIf b23 (Xy cf zg zF zI k) ((jc cf zg zF zI k) x24))
theorem Ur (cf:CF) (zI zF zg:V) (k:K V):zQ P0 cf (st 115) [zI,zF,zg] k=JR cf zI zF zg k:=by kernel_rfl
noncomputable def jH (cf:CF) (zI x9:V) (k6:C):C:=zR P0 zI (nS "stmt") fun b13=>zN cf b13 [x9] fun x12=>k6
noncomputable def jt (cf:CF) (zI x9:V) (k6:C):K Bool:=fun c15=>pIf c15 (zR P0 zI (nS "note") fun b17=>zN cf b17 [(.int 19),x9] fun x16=>(jH cf zI x9 k6)) ((jH cf zI x9 k6))
noncomputable def UL (cf:CF) (x9 zI:V) (k6:C):C:=zD P0 x9 (nS "kind") fun x22=>zL .In x22 (.tup [(.int 27),(.int 61),(.int 66)]) fun x21=>zE x21 fun c20=>pIf c20 ((jt cf zI x9 k6) true) ((jt cf zI x9 k6) false)
noncomputable def zr (cf:CF) (x9 zI:V) (k6:C):C:=((cf 2 [x9,(.int 4194304)] fun x19=>zE x19 fun c18=>pIf c18 (UL cf x9 zI k6) ((jt cf zI x9 k6) false)))
noncomputable def jr (cf:CF) (zI x9:V) (k6:C):K V:=fun x27=>cf 55 [zI,x9,x27] fun x25=>(zr cf x9 zI k6)
noncomputable def yt (cf:CF) (v5 x3 zI x9:V) (k6:C):C:=(zT .Add v5 (.int 1) fun x31=>zj 0 [x3] fun x32=>pLt x31 x32 fun x30=>zE x30 fun c29=>pIf c29 (zT .Add v5 (.int 1) fun x34=>zC x3 x34 fun x33=>(jr cf zI x9 k6) x33) ((jr cf zI x9 k6) .none))
noncomputable def X5 (cf:CF) (zI Zr:V) (k:K V):C:=ye Zr (fun v1 add2=>cf 53 [v1] fun x4=>add2 (some x4)) fun x3=>zj 0 [x3] fun x8=>zj 1 [x8] fun x7=>yL x7 (fun v5 k6=>zC x3 v5 fun x9=>(cf 54 [x9] fun x24=>zE x24 fun c23=>pIf c23 (yt cf v5 x3 zI x9 k6) ((zr cf x9 zI k6)))) (k .none)
theorem q_check_rows (cf:CF) (zI Zr:V) (k:K V):zQ P0 cf (st 116) [zI,Zr] k=X5 cf zI Zr k:=by kernel_rfl
noncomputable def Z9 (cf:CF) (zB zI zF:V) (k:K V):C:=zD P0 zF (nS "kids") fun x2=>cf 56 [zI,x2] fun x1=>k .none
theorem Xe (cf:CF) (zB zI zF:V) (k:K V):zQ P0 cf (sm 117 0) [zB,zI,zF] k=Z9 cf zB zI zF k:=by kernel_rfl
noncomputable def Y8 (k:K V):C:=k .none
noncomputable def UO (cf:CF) (zI v_s v_t zF:V) (k:K V):C:=zR P0 zI (nS "fault") fun b9=>zR P0 zI (nS "words") fun b11=>zN cf b11 [v_s] fun x10=>zR P0 zI (nS "words") fun b13=>zN cf b13 [v_t] fun x12=>zN cf b9 [(.int 2367),zF,(.tup [x10,x12])] fun x8=>(Y8 k)
noncomputable def UN (cf:CF) (zI v_s v_t zF:V) (k:K V):C:=(zD P0 zI (nS "judge") fun x7=>zR P0 x7 (nS "meets") fun b6=>zN cf b6 [zI,v_s,v_t] fun x5=>zE x5 fun c4=>pIf (!c4) (UO cf zI v_s v_t zF k) ((Y8 k)))
noncomputable def ZL (cf:CF) (zI v_s v_t zF:V) (k:K V):K Bool:=fun c2=>pIf c2 (k .none) (UN cf zI v_s v_t zF k)
noncomputable def UM (cf:CF) (v_t zI v_s zF:V) (k:K V):C:=zL .In v_t (.tup [(.int 0),(.int 13),(.int 1)]) fun x17=>zE x17 fun c16=>pIf c16 ((ZL cf zI v_s v_t zF k) true) ((ZL cf zI v_s v_t zF k) false)
noncomputable def X6 (cf:CF) (zI zF v_s v_t:V) (k:K V):C:=(zL .In v_s (.tup [(.int 5),(.int 4),(.int 0),(.int 13),(.int 1)]) fun x15=>zE x15 fun c14=>pIf c14 ((ZL cf zI v_s v_t zF k) true) (UM cf v_t zI v_s zF k))
theorem q_case_fault (cf:CF) (zI zF v_s v_t:V) (k:K V):zQ P0 cf (st 118) [zI,zF,v_s,v_t] k=X6 cf zI zF v_s v_t k:=by kernel_rfl
noncomputable def yC (cf:CF) (v6 zI:V) (k7:C):C:=zD P0 v6 (nS "kids") fun x13=>yA x13 (.int 1) .none fun x12=>cf 56 [zI,x12] fun x11=>k7
noncomputable def jm (cf:CF) (v6 zI x1:V) (k7:C):C:=zD P0 v6 (nS "kids") fun x20=>zC x20 (.int 0) fun x19=>zR P0 zI (nS "expr") fun b22=>zD P0 v6 (nS "kids") fun x24=>zC x24 (.int 0) fun x23=>pUn .USub (.int 1) fun x25=>zN cf b22 [x23,x25] fun x21=>cf 58 [zI,x19,x21,x1] fun x18=>(yC cf v6 zI k7)
noncomputable def Zg (cf:CF) (zB zI zF:V) (k:K V):C:=zR P0 zI (nS "expr") fun b2=>zD P0 zF (nS "kids") fun x4=>zC x4 (.int 0) fun x3=>pUn .USub (.int 1) fun x5=>zN cf b2 [x3,x5] fun x1=>zD P0 zF (nS "kids") fun x9=>yA x9 (.int 1) .none fun x8=>yL x8 (fun v6 k7=>(zD P0 v6 (nS "kids") fun x17=>zC x17 (.int 0) fun x16=>Ym x16 .none fun x15=>zE x15 fun c14=>pIf c14 (jm cf v6 zI x1 k7) ((yC cf v6 zI k7)))) (k .none)
theorem XE (cf:CF) (zB zI zF:V) (k:K V):zQ P0 cf (sm 119 0) [zB,zI,zF] k=Zg cf zB zI zF k:=by kernel_rfl
noncomputable def Z8 (cf:CF) (zB zI zF:V) (k:K V):C:=zR P0 zI (nS "expr") fun b2=>zD P0 zF (nS "kids") fun x4=>zC x4 (.int 0) fun x3=>pUn .USub (.int 1) fun x5=>zN cf b2 [x3,x5] fun x1=>k .none
theorem Xd (cf:CF) (zB zI zF:V) (k:K V):zQ P0 cf (sm 120 0) [zB,zI,zF] k=Z8 cf zB zI zF k:=by kernel_rfl
noncomputable def jv (cf:CF) (zI zF:V) (k:K V):C:=zR P0 zI (nS "stmt") fun b3=>zD P0 zF (nS "kids") fun x5=>zC x5 (.int 1) fun x4=>zN cf b3 [x4] fun x2=>k .none
noncomputable def Z7 (cf:CF) (zI zF:V) (k:K V):C:=(jv cf zI zF k)
noncomputable def Wb (cf:CF) (zI zF:V) (k:K V):C:=zD P0 zI (nS "bound") fun x13=>zD P0 x13 (nS "decl") fun x12=>zR P0 x12 (nS "get") fun b11=>zD P0 zF (nS "kids") fun x16=>zC x16 (.int 0) fun x15=>zD P0 x15 (nS "nid") fun x14=>zN cf b11 [x14,(.int 0)] fun x10=>(zL .NotEq x10 (.int 0) fun x19=>zE x19 fun c18=>pIf c18 (zR P0 zI (nS "declare") fun b21=>zN cf b21 [x10,(.int 1)] fun x20=>(Z7 cf zI zF k)) ((Z7 cf zI zF k)))
noncomputable def J0 (cf:CF) (zI zF:V) (k:K V):C:=(zD P0 zF (nS "kids") fun x9=>zC x9 (.int 0) fun x8=>Ym x8 .none fun x7=>zE x7 fun c6=>pIf c6 (Wb cf zI zF k) ((jv cf zI zF k)))
theorem Q6 (cf:CF) (zI zF:V) (k:K V):zQ P0 cf (st 121) [zI,zF] k=J0 cf zI zF k:=by kernel_rfl
noncomputable def Ze (k:K V):C:=k .none
noncomputable def XO (cf:CF) (zI zF:V) (k:K V):C:=zR P0 zI (nS "stmt") fun b12=>zD P0 zF (nS "kids") fun x14=>zC x14 (.int 2) fun x13=>zN cf b12 [x13] fun x11=>(Ze k)
noncomputable def yG (cf:CF) (zF zI:V) (k:K V):C:=(zD P0 zF (nS "kids") fun x10=>zC x10 (.int 2) fun x9=>Ym x9 .none fun x8=>zE x8 fun c7=>pIf c7 (XO cf zI zF k) ((Ze k)))
noncomputable def Zf (cf:CF) (zF zI:V) (k:K V):C:=zD P0 zF (nS "kids") fun x21=>zC x21 (.int 1) fun x20=>cf 61 [zI,x20] fun x19=>(yG cf zF zI k)
noncomputable def JA (cf:CF) (zB zI zF:V) (k:K V):C:=zR P0 zI (nS "stmt") fun b2=>zD P0 zF (nS "kids") fun x4=>zC x4 (.int 0) fun x3=>zN cf b2 [x3] fun x1=>(zD P0 zF (nS "kids") fun x18=>zC x18 (.int 1) fun x17=>Ym x17 .none fun x16=>zE x16 fun c15=>pIf c15 (Zf cf zF zI k) ((yG cf zF zI k)))
theorem UC (cf:CF) (zB zI zF:V) (k:K V):zQ P0 cf (sm 122 0) [zB,zI,zF] k=JA cf zB zI zF k:=by kernel_rfl
noncomputable def JS (cf:CF) (zB zH:V) (k:K V):C:=zK P0 zB (nS "tab") zH (zK P0 zB (nS "deep") (.int 0) (zK P0 zB (nS "most_rounds") (.int 200) (zK P0 zB (nS "most_deep") (.int 40) (k .none))))
theorem q_Thin_init (cf:CF) (zB zH:V) (k:K V):zQ P0 cf (sm 126 0) [zB,zH] k=JS cf zB zH k:=by kernel_rfl
noncomputable def Qb (cf:CF) (zM zP v_n:V) (k:K V):C:=zC zP (.int 0) fun x1=>zT .Add x1 (.int 1) fun x2=>zV zP (.int 0) x2 (zj 0 [zM] fun x3=>zT .Mod x1 x3 fun x7=>zC zM x7 fun x6=>zT .FloorDiv x1 x3 fun x9=>zC zM (.int 0) fun x12=>zT .Mod x12 (.int 7) fun x11=>zT .Mult (.int 3) x1 fun x13=>zT .Add x11 x13 fun x10=>zT .Mult x9 x10 fun x8=>zT .Add x6 x8 fun x5=>zT .Mod x5 v_n fun x4=>k x4)
theorem q_law_draw (cf:CF) (zM zP v_n:V) (k:K V):zQ P0 cf (st 129) [zM,zP,v_n] k=Qb cf zM zP v_n k:=by kernel_rfl
noncomputable def QV (cf:CF) (zP:V) (k:K V):C:=zC zP (.int 1) fun x2=>zT .Add x2 (.int 1) fun x1=>zV zP (.int 1) x1 (zC zP (.int 1) fun x3=>k x3)
theorem q_law_next (cf:CF) (zP:V) (k:K V):zQ P0 cf (st 130) [zP] k=QV cf zP k:=by kernel_rfl
noncomputable def QY (cf:CF) (Zu:V) (k:K V):C:=zU (.list []) fun x1=>we Zu (.int 0) (.int 0) x1 (fun v2 a4 a5 a6 k3=>zC v2 (.int 0) fun x11=>zT .BitOr a4 x11 fun x10=>zC v2 (.int 1) fun x13=>zT .BitOr a5 x13 fun x12=>zC v2 (.int 2) fun x18=>ye x18 (fun v15 add16=>zL .NotIn v15 a6 fun x20=>zE x20 fun c19=>pIf c19 (add16 (some v15)) (add16 .none)) fun x17=>zT .Add a6 x17 fun x14=>k3 x10 x12 x14) (fun a7 a8 a9=>yL (.tup [(.int 4096),(.int 8192),(.int 2048)]) (fun v21 k22=>zT .BitAnd a7 v21 fun x24=>zE x24 fun c23=>pIf c23 (k (.tup [v21,(.int 0),(.tup [])])) (k22)) ((let j25:V→C:=fun p26=>pUn .Invert p26 fun x28=>zT .BitAnd a8 x28 fun x27=>(let j29:V→V→C:=fun p30 p31=>(let j32:V→V→C:=fun p33 p34=>zj 2 [a9] fun x35=>k (.tup [p33,p34,x35]); zT .BitAnd p30 (.int 32) fun x37=>zE x37 fun c36=>pIf c36 (pUn .Invert (.int 24) fun x39=>zT .BitAnd p30 x39 fun x38=>pUn .Invert (.int 24) fun x41=>zT .BitAnd p31 x41 fun x40=>j32 x38 x40) (j32 p30 p31)); zT .BitAnd p26 (.int 4) fun x43=>zE x43 fun c42=>pIf c42 (pUn .Invert (.int 3) fun x45=>zT .BitAnd p26 x45 fun x44=>pUn .Invert (.int 3) fun x47=>zT .BitAnd x27 x47 fun x46=>j29 x44 x46) (j29 p26 x27)); zT .BitOr a7 a8 fun x51=>zT .BitAnd x51 (.int 192) fun x50=>zL .Eq x50 (.int 192) fun x49=>zE x49 fun c48=>pIf c48 (zT .BitOr a7 (.int 192) fun x52=>j25 x52) (j25 a7))))
theorem q_law_join (cf:CF) (Zu:V) (k:K V):zQ P0 cf (st 131) [Zu] k=QY cf Zu k:=by kernel_rfl
noncomputable def Wt (cf:CF) (zM zP v_n:V) (k:K V):C:=cf 64 [zM,zP,v_n] fun x2=>zC WZ x2 fun x1=>cf 64 [zM,zP,(.int 2)] fun x4=>zE x4 fun c3=>pIf c3 (pUn .Invert (.int 219) fun x8=>zT .BitAnd x1 x8 fun x7=>zT .BitAnd x1 (.int 219) fun x9=>zU (.list [(.tup [x7,x9,(.tup [])])]) fun x6=>cf 66 [x6] fun x5=>k x5) (zU (.list [(.tup [x1,(.int 0),(.tup [])])]) fun x11=>cf 66 [x11] fun x10=>k x10)
theorem q_law_plain (cf:CF) (zM zP v_n:V) (k:K V):zQ P0 cf (st 132) [zM,zP,v_n] k=Wt cf zM zP v_n k:=by kernel_rfl
noncomputable def Ww (cf:CF) (zM zP:V) (k:K V):C:=zU (.list [(.int 0)]) fun x4=>cf 64 [zM,zP,(.int 3)] fun x5=>zT .Mult x4 x5 fun x3=>zU (.list [(.int 1)]) fun x7=>cf 64 [zM,zP,(.int 2)] fun x8=>zT .Mult x7 x8 fun x6=>zT .Add x3 x6 fun x2=>zU (.list [(.int 2)]) fun x10=>cf 64 [zM,zP,(.int 2)] fun x11=>zT .Mult x10 x11 fun x9=>zT .Add x2 x9 fun x1=>cf 64 [zM,zP,(.int 2)] fun x12=>ye x1 (fun v14 add15=>cf 67 [zM,zP,(.int 18)] fun x17=>add15 (some (.tup [x17,v14]))) fun x16=>zj 2 [x16] fun x13=>k (.tup [x12,x13])
theorem q_law_cells (cf:CF) (zM zP:V) (k:K V):zQ P0 cf (st 133) [zM,zP] k=Ww cf zM zP k:=by kernel_rfl
noncomputable def Qa (cf:CF) (zM zP:V) (k:K V):C:=cf 65 [zP] fun x1=>cf 67 [zM,zP,(.int 19)] fun x3=>zU (.list [x3]) fun x2=>cf 64 [zM,zP,(.int 6)] fun x4=>zL .Eq x4 (.int 5) fun x6=>zE x6 fun c5=>pIf c5 (k (.tup [x1,.none])) (zC (.tup [(.int 0),(.int 1),(.int 2),(.int 1),(.int 0)]) x4 fun x10=>zj 1 [x10] fun x9=>yL x9 (fun v7 k8=>zR P0 x2 (nS "append") fun b12=>cf 68 [zM,zP] fun x13=>zN cf b12 [(.tup [(.int 0),(.int 0),(.tup [x13])])] fun x11=>k8) (cf 66 [x2] fun x14=>k (.tup [x1,x14])))
theorem q_law_expr (cf:CF) (zM zP:V) (k:K V):zQ P0 cf (st 134) [zM,zP] k=Qa cf zM zP k:=by kernel_rfl
noncomputable def QS (cf:CF) (zM zP zm:V) (k:K V):C:=zU (.list []) fun x1=>cf 64 [zM,zP,(.int 4)] fun x5=>zj 1 [x5] fun x4=>yL x4 (fun v2 k3=>(let j6:C:=k3; zC zP (.int 2) fun x9=>pGt x9 (.int 0) fun x8=>zE x8 fun c7=>pIf c7 (zR P0 x1 (nS "append") fun b11=>cf 71 [zM,zP,zm] fun x12=>zN cf b11 [x12] fun x10=>j6) (j6))) (cf 65 [zP] fun x13=>zj 2 [x1] fun x14=>k (.tup [x13,x14]))
theorem q_law_rows (cf:CF) (zM zP zm:V) (k:K V):zQ P0 cf (st 135) [zM,zP,zm] k=QS cf zM zP zm k:=by kernel_rfl
noncomputable def XN (cf:CF) (zM zP zm:V) (k:K V):C:=zC zP (.int 2) fun x2=>zT .Sub x2 (.int 1) fun x1=>zV zP (.int 2) x1 (cf 65 [zP] fun x3=>cf 64 [zM,zP,(.int 11)] fun x4=>(let j5:V→C:=fun p6=>pLt p6 (.int 4) fun x8=>zE x8 fun c7=>pIf c7 (cf 69 [zM,zP] fun x9=>zU (.list []) fun x10=>cf 64 [zM,zP,(.int 3)] fun x15=>zT .Add (.int 1) x15 fun x14=>zj 1 [x14] fun x13=>yL x13 (fun v11 k12=>(let j16:K V:=fun x17=>zR P0 x10 (nS "append") fun b20=>zT .Add zm (.int 1) fun x22=>cf 70 [zM,zP,x22] fun x21=>zN cf b20 [(.tup [x17,x21])] fun x19=>k12; cf 64 [zM,zP,(.int 5)] fun x25=>zL .Eq x25 (.int 4) fun x24=>zE x24 fun c23=>pIf c23 (j16 .none) (cf 69 [zM,zP] fun x26=>j16 x26))) (zj 2 [x10] fun x27=>k (.tup [(.str (nS "switch")),x3,x9,x27]))) (pLt p6 (.int 6) fun x29=>zE x29 fun c28=>pIf c28 (zT .Add zm (.int 1) fun x31=>cf 70 [zM,zP,x31] fun x30=>cf 64 [zM,zP,(.int 5)] fun x32=>cf 65 [zP] fun x33=>(let j34:K V:=fun x35=>(let j37:K V:=fun x38=>(let j40:K V:=fun x41=>(let j43:K V:=fun x44=>k (.tup [(.str (nS "try")),x3,x30,x41,x44,x35,x38]); zL .NotEq x32 (.int 3) fun x47=>zE x47 fun c46=>pIf c46 (zT .Add (.int 10) x33 fun x48=>j43 x48) (j43 (.int 0))); zL .NotEq x32 (.int 2) fun x50=>zE x50 fun c49=>pIf c49 (j40 x33) (j40 (.int 0))); zL .In x32 (.tup [(.int 0),(.int 4)]) fun x52=>zE x52 fun c51=>pIf c51 (zT .Add zm (.int 1) fun x54=>cf 70 [zM,zP,x54] fun x53=>j37 x53) (j37 .none)); pGt x32 (.int 0) fun x56=>zE x56 fun c55=>pIf c55 (zT .Add zm (.int 1) fun x58=>cf 70 [zM,zP,x58] fun x57=>j34 x57) (j34 .none))) (pLt p6 (.int 8) fun x60=>zE x60 fun c59=>pIf c59 (cf 64 [zM,zP,(.int 2)] fun x62=>zC (.str (nS "fg")) x62 fun x61=>cf 64 [zM,zP,(.int 3)] fun x63=>cf 64 [zM,zP,(.int 4)] fun x65=>zL .Eq x65 (.int 3) fun x64=>cf 64 [zM,zP,(.int 3)] fun x67=>zL .Eq x67 (.int 2) fun x66=>k (.tup [(.str (nS "func")),x3,x61,x63,x64,x66])) (pLt p6 (.int 10) fun x69=>zE x69 fun c68=>pIf c68 (zT .Sub p6 (.int 8) fun x70=>cf 69 [zM,zP] fun x71=>k (.tup [(.str (nS "plain")),x3,x70,x71])) (k (.tup [(.str (nS "odd")),x3]))))); (let j72:K Bool:=fun c73=>pIf c73 (zT .Mod x4 (.int 5) fun x75=>zT .Add (.int 6) x75 fun x74=>j5 x74) (j5 x4); pGt zm (.int 2) fun x77=>zE x77 fun c76=>pIf c76 (pLt x4 (.int 6) fun x79=>zE x79 fun c78=>pIf c78 (j72 true) (j72 false)) (j72 false))))
theorem q_law_stmt (cf:CF) (zM zP zm:V) (k:K V):zQ P0 cf (st 136) [zM,zP,zm] k=XN cf zM zP zm k:=by kernel_rfl
noncomputable def Qc (cf:CF) (zH v_i zf:V) (k:K V):C:=pLt v_i (.int 2) fun x2=>zE x2 fun c1=>pIf c1 (zC (.str (nS "ab")) v_i fun x4=>cf 11 [zH,x4,zf] fun x3=>k x3) ((let j5:K Bool:=fun c6=>pIf c6 (zT .Sub v_i (.int 3) fun x8=>cf 12 [zH,x8,zf] fun x7=>k x7) ((let j9:K Bool:=fun c10=>pIf c10 (zT .Sub v_i (.int 6) fun x12=>cf 13 [zH,x12,zf] fun x11=>k x11) (zC (.tup [(.int 0),(.int 0),(.int 6),(.int 0),(.int 0),(.int 7),(.int 0),(.int 0),(.int 5),(.int 4),(.int 3),(.int 1),(.int 0),(.int 13)]) v_i fun x13=>k x13); zL .Eq v_i (.int 6) fun x15=>zE x15 fun c14=>pIf c14 (j9 true) (zL .Eq v_i (.int 7) fun x17=>zE x17 fun c16=>pIf c16 (j9 true) (j9 false)))); zL .Eq v_i (.int 3) fun x19=>zE x19 fun c18=>pIf c18 (j5 true) (zL .Eq v_i (.int 4) fun x21=>zE x21 fun c20=>pIf c20 (j5 true) (j5 false))))
theorem q_law_atom (cf:CF) (zH v_i zf:V) (k:K V):zQ P0 cf (st 137) [zH,v_i,zf] k=Qc cf zH v_i zf k:=by kernel_rfl
noncomputable def QQ (cf:CF) (zH ze:V) (k:K V):C:=zj 1 [(.int 14)] fun x4=>ye x4 (fun v1 add2=>zC ze (.int 0) fun x8=>zT .RShift x8 v1 fun x7=>zT .BitAnd x7 (.int 1) fun x6=>zE x6 fun c5=>pIf c5 (cf 72 [zH,v1,(.int 0)] fun x9=>add2 (some x9)) (add2 .none)) fun x3=>zj 1 [(.int 14)] fun x14=>ye x14 (fun v11 add12=>zC ze (.int 1) fun x18=>zT .RShift x18 v11 fun x17=>zT .BitAnd x17 (.int 1) fun x16=>zE x16 fun c15=>pIf c15 (cf 72 [zH,v11,(.int 1)] fun x19=>add12 (some x19)) (add12 .none)) fun x13=>zT .Add x3 x13 fun x10=>zC ze (.int 2) fun x22=>yL x22 (fun v20 k21=>yZ v20 fun u23 u24=>zR P0 x10 (nS "append") fun b26=>ye u24 (fun v28 add29=>yZ v28 fun u31 u32=>cf 73 [zH,u31] fun x33=>add29 (some (.tup [x33,u32]))) fun x30=>cf 18 [zH,x30,u23] fun x27=>zN cf b26 [x27] fun x25=>k21) (cf 25 [zH,x10] fun x34=>k x34)
theorem q_law_type (cf:CF) (zH ze:V) (k:K V):zQ P0 cf (st 138) [zH,ze] k=QQ cf zH ze k:=by kernel_rfl
noncomputable def QU (cf:CF) (ze v_a yJ v_n:V) (k:K V):C:=cf 1 [ze,v_a,yJ,v_n] fun x1=>zK P0 x1 (nS "nid") v_n (k x1)
theorem q_law_node (cf:CF) (ze v_a yJ v_n:V) (k:K V):zQ P0 cf (st 139) [ze,v_a,yJ,v_n] k=QU cf ze v_a yJ v_n k:=by kernel_rfl
noncomputable def Ws (cf:CF) (zI v_e:V) (k:K V):C:=zC v_e (.int 1) fun x3=>pIs x3 .none fun x2=>zE x2 fun c1=>pIf c1 (zU (.list []) fun x5=>zC v_e (.int 0) fun x6=>cf 74 [(.int 6),(.str (nS "")),x5,x6] fun x4=>k x4) (zD P0 zI (nS "tab") fun x8=>zC v_e (.int 1) fun x9=>cf 73 [x8,x9] fun x7=>zD P0 zI (nS "types") fun x10=>zC v_e (.int 0) fun x11=>zV x10 x11 x7 (zU (.list []) fun x13=>zC v_e (.int 0) fun x14=>cf 74 [(.int 8),(.str (nS "e")),x13,x14] fun x12=>k x12))
theorem q_law_value (cf:CF) (zI v_e:V) (k:K V):zQ P0 cf (st 140) [zI,v_e] k=Ws cf zI v_e k:=by kernel_rfl
noncomputable def Wx (cf:CF) (zI zt:V) (k:K V):C:=zC zt (.int 1) fun x5=>ye x5 (fun v2 add3=>cf 77 [zI,v2] fun x6=>add3 (some x6)) fun x4=>zC zt (.int 0) fun x7=>cf 74 [(.int 59),(.str (nS "")),x4,x7] fun x1=>k x1
theorem q_law_block (cf:CF) (zI zt:V) (k:K V):zQ P0 cf (st 141) [zI,zt] k=Wx cf zI zt k:=by kernel_rfl
noncomputable def QW (cf:CF) (zI yr:V) (k:K V):C:=zC yr (.int 1) fun x1=>zC yr (.int 0) fun x4=>zL .Eq x4 (.str (nS "switch")) fun x3=>zE x3 fun c2=>pIf c2 (zC yr (.int 2) fun x7=>cf 75 [zI,x7] fun x6=>zU (.list [x6]) fun x5=>zC yr (.int 3) fun x10=>yL x10 (fun v8 k9=>yZ v8 fun u11 u12=>(let j13:K V:=fun x14=>zR P0 x5 (nS "append") fun b17=>zU (.list [x14]) fun x20=>cf 76 [zI,u12] fun x22=>zD P0 x22 (nS "kids") fun x21=>zT .Add x20 x21 fun x19=>cf 74 [(.int 51),(.str (nS "")),x19,(.int 0)] fun x18=>zN cf b17 [x18] fun x16=>k9; pIs u11 .none fun x24=>zE x24 fun c23=>pIf c23 (j13 .none) (cf 75 [zI,u11] fun x25=>j13 x25))) (cf 74 [(.int 50),(.str (nS "")),x5,x1] fun x26=>k x26)) (zC yr (.int 0) fun x29=>zL .Eq x29 (.str (nS "try")) fun x28=>zE x28 fun c27=>pIf c27 (yA yr (.int 2) .none fun x30=>YU x30 fun u31 u32 u33 u34 u35=>cf 76 [zI,u31] fun x37=>zU (.list [x37,.none,.none]) fun x36=>(let j38:C:=(let j39:C:=cf 74 [(.int 57),(.str (nS "")),x36,x1] fun x40=>k x40; Ym u35 .none fun x42=>zE x42 fun c41=>pIf c41 (cf 76 [zI,u35] fun x43=>zV x36 (.int 2) x43 (j39)) (j39)); Ym u34 .none fun x45=>zE x45 fun c44=>pIf c44 ((let j46:C:=(let j49:K V:=fun x50=>cf 76 [zI,u34] fun x52=>zU (.list [x50,x52]) fun x48=>cf 74 [(.int 58),(.str (nS "")),x48,(.int 0)] fun x47=>zV x36 (.int 1) x47 (j38); zE u32 fun c53=>pIf c53 (zU (.list []) fun x55=>cf 74 [(.int 8),(.str (nS "x")),x55,u32] fun x54=>j49 x54) (j49 .none)); (let j56:K Bool:=fun c57=>pIf c57 (zD P0 zI (nS "bound") fun x59=>zD P0 x59 (nS "decl") fun x58=>zV x58 u32 u33 (j46)) (j46); pGt u32 (.int 0) fun x61=>zE x61 fun c60=>pIf c60 (pGt u33 (.int 0) fun x63=>zE x63 fun c62=>pIf c62 (j56 true) (j56 false)) (j56 false)))) (j38))) (zC yr (.int 0) fun x66=>zL .Eq x66 (.str (nS "func")) fun x65=>zE x65 fun c64=>pIf c64 ((let j67:K V:=fun x68=>zC yr (.int 2) fun x71=>zU (.list []) fun x74=>cf 74 [(.int 71),(.str (nS "")),x74,(.int 0)] fun x73=>zU (.list [.none,x73,.none,x68]) fun x72=>cf 74 [(.int 27),x71,x72,x1] fun x70=>(let j75:K V:=fun x76=>zK P0 x70 (nS "flags") x76 ((let j78:K V:=fun x79=>k x79; zC yr (.int 5) fun x82=>zE x82 fun c81=>pIf c81 (zU (.list [x70]) fun x84=>cf 74 [(.int 70),(.str (nS "")),x84,(.int 0)] fun x83=>j78 x83) (j78 x70))); zC yr (.int 4) fun x86=>zE x86 fun c85=>pIf c85 (zT .BitOr (.int 16) (.int 4194304) fun x87=>j75 x87) (j75 (.int 16))); zC yr (.int 3) fun x89=>zE x89 fun c88=>pIf c88 (zU (.list []) fun x91=>cf 74 [(.int 59),(.str (nS "")),x91,(.int 0)] fun x90=>j67 x90) (j67 .none))) (zC yr (.int 0) fun x94=>zL .Eq x94 (.str (nS "plain")) fun x93=>zE x93 fun c92=>pIf c92 ((let j96:K V:=fun x97=>zC yr (.int 3) fun x101=>cf 75 [zI,x101] fun x100=>zU (.list [x100]) fun x99=>cf 74 [x97,(.str (nS "")),x99,x1] fun x95=>k x95; zC yr (.int 2) fun x103=>zE x103 fun c102=>pIf c102 (j96 (.int 56)) (j96 (.int 43)))) (zU (.list []) fun x105=>cf 74 [(.int 53),(.str (nS "")),x105,x1] fun x104=>k x104))))
theorem q_law_made (cf:CF) (zI yr:V) (k:K V):zQ P0 cf (st 142) [zI,yr] k=QW cf zI yr k:=by kernel_rfl
noncomputable def QR (cf:CF) (v_e zq:V) (k:K V):C:=zC v_e (.int 1) fun x3=>pIs x3 .none fun x2=>zE x2 fun c1=>pIf c1 (zR P0 zq (nS "append") fun b5=>zC v_e (.int 0) fun x6=>zN cf b5 [(.tup [(.int 9002),x6])] fun x4=>k (.tup [(.int 8192),(.int 0),(.tup [])])) (zC v_e (.int 1) fun x7=>k x7)
theorem q_law_seen (cf:CF) (v_e zq:V) (k:K V):zQ P0 cf (st 143) [v_e,zq] k=QR cf v_e zq k:=by kernel_rfl
noncomputable def QT (cf:CF) (ze:V) (k:K V):C:=zC ze (.int 0) fun x2=>zC ze (.int 1) fun x3=>zT .BitOr x2 x3 fun x1=>(let j7:K V:=fun x8=>zT .BitOr x1 x8 fun x6=>(let j10:K V:=fun x11=>zT .BitOr x6 x11 fun x5=>(let j13:K V:=fun x14=>zT .BitOr x5 x14 fun x4=>k x4; zT .BitAnd x1 (.int 1024) fun x17=>zE x17 fun c16=>pIf c16 (j13 (.int 512)) (j13 (.int 0))); zT .BitAnd x1 (.int 32) fun x19=>zE x19 fun c18=>pIf c18 (j10 (.int 24)) (j10 (.int 0))); zT .BitAnd x1 (.int 4) fun x21=>zE x21 fun c20=>pIf c20 (j7 (.int 3)) (j7 (.int 0)))
theorem q_law_room (cf:CF) (ze:V) (k:K V):zQ P0 cf (st 144) [ze] k=QT cf ze k:=by kernel_rfl
noncomputable def Wu (cf:CF) (v_s v_t zd:V) (k:K V):C:=zC v_s (.int 2) fun x4=>ye x4 (fun v1 add2=>zC v_t (.int 2) fun x7=>zL .In v1 x7 fun x6=>zE x6 fun c5=>pIf c5 (add2 (some v1)) (add2 .none)) fun x3=>zE zd fun c8=>pIf (!c8) ((let j9:K V:=fun x10=>k x10; yA v_s .none (.int 2) fun x13=>yA v_t .none (.int 2) fun x14=>zL .Eq x13 x14 fun x12=>zE x12 fun b11=>pIf b11 ((let j15:K V:=fun x16=>j9 x16; zj 0 [x3] fun x20=>zC v_s (.int 2) fun x22=>zj 0 [x22] fun x21=>zL .Eq x20 x21 fun c17=>zE c17 fun t18=>pIf t18 (zC v_t (.int 2) fun x24=>zj 0 [x24] fun x23=>zL .Eq x21 x23 j15) (j15 c17))) (j9 x12))) ((let j25:K Bool:=fun c26=>pIf c26 (k (.bool true)) ((let j27:K Bool:=fun c28=>pIf c28 (k (.bool true)) (zj 0 [x3] fun x30=>pGt x30 (.int 0) fun x29=>k x29); zC v_s (.int 0) fun x34=>zC v_s (.int 1) fun x35=>zT .BitOr x34 x35 fun x33=>cf 79 [v_t] fun x36=>zT .BitAnd x33 x36 fun x32=>zE x32 fun c31=>pIf c31 (j27 true) (zC v_t (.int 0) fun x40=>zC v_t (.int 1) fun x41=>zT .BitOr x40 x41 fun x39=>cf 79 [v_s] fun x42=>zT .BitAnd x39 x42 fun x38=>zE x38 fun c37=>pIf c37 (j27 true) (j27 false)))); zL .Eq v_s (.tup [(.int 0),(.int 0),(.tup [])]) fun x44=>zE x44 fun c43=>pIf c43 (j25 true) (zL .Eq v_t (.tup [(.int 0),(.int 0),(.tup [])]) fun x46=>zE x46 fun c45=>pIf c45 (j25 true) (j25 false))))
theorem q_law_meets (cf:CF) (v_s v_t zd:V) (k:K V):zQ P0 cf (st 145) [v_s,v_t,zd] k=Wu cf v_s v_t zd k:=by kernel_rfl
noncomputable def Wv (cf:CF) (zt zq zl yh zd:V) (k:K V):C:=zj 0 [zt] fun x4=>zj 1 [x4] fun x3=>yL x3 (fun v1 k2=>zC zt v1 fun x5=>(let j6:C:=(let j7:C:=cf 82 [x5,zq,zl,yh,zd] fun x8=>k2; (let j9:K Bool:=fun c10=>pIf c10 (zR P0 zl (nS "append") fun b12=>zC x5 (.int 1) fun x13=>zN cf b12 [(.tup [(.int 19),x13])] fun x11=>j7) (j7); zC x5 (.int 0) fun x16=>zL .Eq x16 (.str (nS "func")) fun x15=>zE x15 fun c14=>pIf c14 (zC x5 (.int 4) fun x18=>zE x18 fun c17=>pIf c17 (j9 true) (j9 false)) (j9 false))); (let j19:K Bool:=fun c20=>pIf c20 ((let j21:K V:=fun x22=>(let j24:K V:=fun x25=>(let j26:C:=j6 ; (let j27:K Bool:=fun c28=>pIf c28 (zR P0 zq (nS "append") fun b30=>(let j31:K V:=fun x32=>zN cf b30 [x32] fun x29=>j26 ; (let j34:K Bool:=fun c35=>pIf c35 (zC x22 (.int 1) fun x36=>j31 (.tup [(.int 2389),x36])) (zC x5 (.int 1) fun x37=>j31 (.tup [(.int 2391),x37])); zE x25 fun c38=>pIf c38 (zC x22 (.int 3) fun x40=>zE x40 fun c39=>pIf c39 (j34 true) (j34 false)) (j34 false)))) (j26); zE x25 fun c41=>pIf (!c41) (j27 true) (zC x22 (.int 2) fun x44=>zC x5 (.int 2) fun x45=>zL .NotEq x44 x45 fun x43=>zE x43 fun c42=>pIf c42 (j27 true) (j27 false)))); zC x22 (.int 0) fun x48=>zL .Eq x48 (.str (nS "func")) fun x47=>zE x47 fun b46=>pIf b46 (zC x22 (.int 4) fun x50=>zE x50 fun x49=>j24 (.bool (!x49))) (j24 x47)); zT .Add v1 (.int 1) fun x53=>zj 0 [zt] fun x54=>pLt x53 x54 fun x52=>zE x52 fun c51=>pIf c51 (zT .Add v1 (.int 1) fun x56=>zC zt x56 fun x55=>j21 x55) (j21 (.tup [(.str (nS "odd")),(.int 0)])))) (j6); zC x5 (.int 0) fun x59=>zL .Eq x59 (.str (nS "func")) fun x58=>zE x58 fun c57=>pIf c57 (zC x5 (.int 4) fun x61=>zE x61 fun c60=>pIf (!c60) (zC x5 (.int 3) fun x63=>zE x63 fun c62=>pIf (!c62) (j19 true) (j19 false)) (j19 false)) (j19 false)))) (k .none)
theorem q_law_check (cf:CF) (zt zq zl yh zd:V) (k:K V):zQ P0 cf (st 146) [zt,zq,zl,yh,zd] k=Wv cf zt zq zl yh zd k:=by kernel_rfl
noncomputable def QX (cf:CF) (yr zq zl yh zd:V) (k:K V):C:=(let j1:C:=(let j2:C:=(let j3:C:=(let j4:C:=k .none; zC yr (.int 0) fun x7=>zL .Eq x7 (.str (nS "odd")) fun x6=>zE x6 fun c5=>pIf c5 (zR P0 zq (nS "append") fun b9=>zC yr (.int 1) fun x10=>zN cf b9 [(.tup [(.int 9002),x10])] fun x8=>j4) (j4)); zC yr (.int 0) fun x13=>zL .Eq x13 (.str (nS "plain")) fun x12=>zE x12 fun c11=>pIf c11 (zC yr (.int 3) fun x15=>cf 78 [x15,zq] fun x14=>j3) (j3)); zC yr (.int 0) fun x18=>zL .Eq x18 (.str (nS "try")) fun x17=>zE x17 fun c16=>pIf c16 (yA yr (.int 2) .none fun x19=>YU x19 fun u20 u21 u22 u23 u24=>zC u20 (.int 1) fun x26=>cf 81 [x26,zq,zl,yh,zd] fun x25=>(let j27:C:=(let j28:C:=j2 ; Ym u24 .none fun x30=>zE x30 fun c29=>pIf c29 (zC u24 (.int 1) fun x32=>cf 81 [x32,zq,zl,yh,zd] fun x31=>j28) (j28)); Ym u23 .none fun x34=>zE x34 fun c33=>pIf c33 ((let j35:C:=zC u23 (.int 1) fun x37=>cf 81 [x37,zq,zl,yh,zd] fun x36=>j27 ; (let j38:K Bool:=fun c39=>pIf c39 (zV yh u22 (.tup [(.int 2048),(.int 0),(.tup [])]) (j35)) (j35); pGt u21 (.int 0) fun x41=>zE x41 fun c40=>pIf c40 (pGt u22 (.int 0) fun x43=>zE x43 fun c42=>pIf c42 (j38 true) (j38 false)) (j38 false)))) (j27))) (j2)); zC yr (.int 0) fun x46=>zL .Eq x46 (.str (nS "switch")) fun x45=>zE x45 fun c44=>pIf c44 (zC yr (.int 2) fun x48=>cf 78 [x48,zq] fun x47=>zC yr (.int 3) fun x51=>yL x51 (fun v49 k50=>yZ v49 fun u52 u53=>(let j54:C:=zC u53 (.int 1) fun x56=>cf 81 [x56,zq,zl,yh,zd] fun x55=>k50; Ym u52 .none fun x58=>zE x58 fun c57=>pIf c57 (cf 78 [u52,zq] fun x59=>(let j60:K V:=fun x61=>(let j62:C:=j54 ; (let j63:K Bool:=fun c64=>pIf c64 (zR P0 zq (nS "append") fun b66=>zC u52 (.int 0) fun x67=>zN cf b66 [(.tup [(.int 2367),x67])] fun x65=>j62) (j62); zE x61 fun c68=>pIf (!c68) (cf 80 [x59,x47,zd] fun x70=>zE x70 fun c69=>pIf (!c69) (j63 true) (j63 false)) (j63 false))); zL .In x59 (.tup [(.tup [(.int 256),(.int 0),(.tup [])]),(.tup [(.int 512),(.int 0),(.tup [])])]) fun x72=>zE x72 fun b71=>pIf b71 (j60 x72) (zC x59 (.int 0) fun x76=>zC x47 (.int 0) fun x77=>zT .BitOr x76 x77 fun x75=>zT .BitAnd x75 (.int 14336) fun x74=>pGt x74 (.int 0) fun x73=>j60 x73))) (j54))) (j1)) (j1))
theorem q_law_look (cf:CF) (yr zq zl yh zd:V) (k:K V):zQ P0 cf (st 147) [yr,zq,zl,yh,zd] k=QX cf yr zq zl yh zd k:=by kernel_rfl
noncomputable def JQ (cf:CF) (zH zd:V) (k:K V):C:=zp P0 cf 15 [zH] fun x2=>zp P0 cf 2 [] fun x4=>zp P0 cf 5 [x4] fun x3=>zp P0 cf 2 [] fun x5=>zp P0 cf 3 [] fun x6=>zp P0 cf 8 [zH,x2,x3,.none,.none,x5,x6] fun x1=>(let j7:C:=zp P0 cf 11 [] fun x8=>zD P0 x1 (nS "stmts") fun x9=>zV x9 (.int 59) x8 (zp P0 cf 9 [] fun x10=>zD P0 x1 (nS "stmts") fun x11=>zV x11 (.int 43) x10 (zp P0 cf 10 [] fun x12=>zD P0 x1 (nS "stmts") fun x13=>zV x13 (.int 27) x12 (zp P0 cf 12 [] fun x14=>zD P0 x1 (nS "stmts") fun x15=>zV x15 (.int 50) x14 (zp P0 cf 13 [] fun x16=>zD P0 x1 (nS "stmts") fun x17=>zV x17 (.int 56) x16 (zp P0 cf 14 [] fun x18=>zD P0 x1 (nS "stmts") fun x19=>zV x19 (.int 57) x18 (k x1)))))); zE zd fun c20=>pIf c20 (zp P0 cf 7 [] fun x21=>zK P0 x1 (nS "judge") x21 (j7)) (j7))
theorem q_law_sheet (cf:CF) (zH zd:V) (k:K V):zQ P0 cf (st 148) [zH,zd] k=JQ cf zH zd k:=by kernel_rfl
noncomputable def uC (k:K V):K V:=fun x55=>k x55
noncomputable def f_law_b1 (cf:CF) (x27 x20 x17 x21 x25 x23:V) (k:K V):C:=yL x27 (fun v43 k44=>zD P0 x20 (nS "declared") fun x49=>zR P0 x49 (nS "get") fun b48=>zN cf b48 [v43] fun x47=>zC x27 v43 fun x51=>cf 73 [x17,x51] fun x50=>zL .NotEq x47 x50 fun x46=>zE x46 fun c45=>pIf c45 (k (.bool false)) (k44)) (zD P0 x21 (nS "kids") fun x53=>cf 56 [x20,x53] fun x52=>(zD P0 x20 (nS "diags") fun x60=>zD P0 x60 (nS "rows") fun x59=>zj 0 [x59] fun x58=>zj 0 [x25] fun x61=>zL .Eq x58 x61 fun x57=>zE x57 fun b56=>pIf b56 (zD P0 x20 (nS "types") fun x63=>zL .Eq x63 x23 fun x62=>(uC k) x62) ((uC k) x57)))
noncomputable def Wa (cf:CF) (x27 x20 x17 x21 x25 x23:V) (k:K V):K Bool:=fun c42=>pIf c42 (k (.bool false)) (f_law_b1 cf x27 x20 x17 x21 x25 x23 k)
noncomputable def f_law_b2 (cf:CF) (x20 x27 x17 x21 x25 x23:V) (k:K V):C:=zD P0 x20 (nS "declared") fun x70=>zj 0 [x70] fun x69=>zj 0 [x27] fun x71=>zL .NotEq x69 x71 fun x68=>zE x68 fun c67=>pIf c67 ((Wa cf x27 x20 x17 x21 x25 x23 k) true) ((Wa cf x27 x20 x17 x21 x25 x23 k) false)
noncomputable def f_law_b3 (cf:CF) (x20 x23 x27 x17 x21 x25:V) (k:K V):C:=(zD P0 x20 (nS "types") fun x66=>zL .NotEq x66 x23 fun x65=>zE x65 fun c64=>pIf c64 ((Wa cf x27 x20 x17 x21 x25 x23 k) true) (f_law_b2 cf x20 x27 x17 x21 x25 x23 k))
noncomputable def Jk (cf:CF) (x20 x23 x27 x17 x21 x25:V) (k:K V):K Bool:=fun c40=>pIf c40 (k (.bool false)) (f_law_b3 cf x20 x23 x27 x17 x21 x25 k)
noncomputable def f_law_b4 (cf:CF) (x20 x23 x27 x17 x21 x25:V) (k:K V):C:=zD P0 x20 (nS "deep") fun x87=>zL .NotEq x87 (.int 0) fun x86=>zE x86 fun c85=>pIf c85 ((Jk cf x20 x23 x27 x17 x21 x25 k) true) ((Jk cf x20 x23 x27 x17 x21 x25 k) false)
noncomputable def f_law_b5 (cf:CF) (x20 x26 x23 x27 x17 x21 x25:V) (k:K V):C:=zD P0 x20 (nS "notes") fun x84=>zD P0 x84 (nS "rows") fun x83=>zL .NotEq x83 x26 fun x82=>zE x82 fun c81=>pIf c81 ((Jk cf x20 x23 x27 x17 x21 x25 k) true) (f_law_b4 cf x20 x23 x27 x17 x21 x25 k)
noncomputable def f_law_b6 (cf:CF) (x21 x20 x25 x23 x27 x17 x26:V) (k:K V):C:=zD P0 x21 (nS "kids") fun x38=>cf 56 [x20,x38] fun x37=>(zD P0 x20 (nS "diags") fun x78=>zD P0 x78 (nS "rows") fun x77=>ye x77 (fun v74 add75=>zD P0 v74 (nS "number") fun x79=>zD P0 v74 (nS "at") fun x80=>add75 (some (.tup [x79,x80]))) fun x76=>zL .NotEq x76 x25 fun x73=>zE x73 fun c72=>pIf c72 ((Jk cf x20 x23 x27 x17 x21 x25 k) true) (f_law_b5 cf x20 x26 x23 x27 x17 x21 x25 k))
noncomputable def jG (cf:CF) (x21 x20 x25 x23 x27 x17 x26:V) (k:K V):K Bool:=fun c36=>pIf c36 (k (.bool false)) (f_law_b6 cf x21 x20 x25 x23 x27 x17 x26 k)
noncomputable def f_law_b7 (cf:CF) (x20 x21 x25 x23 x27 x17 x26:V) (k:K V):C:=zD P0 x20 (nS "notes") fun x107=>zD P0 x107 (nS "rows") fun x106=>zU (.list []) fun x108=>zL .NotEq x106 x108 fun x105=>zE x105 fun c104=>pIf c104 ((jG cf x21 x20 x25 x23 x27 x17 x26 k) true) ((jG cf x21 x20 x25 x23 x27 x17 x26 k) false)
noncomputable def f_law_b8 (cf:CF) (x20 x21 x25 x23 x27 x17 x26:V) (k:K V):C:=zD P0 x20 (nS "diags") fun x102=>zD P0 x102 (nS "rows") fun x101=>zU (.list []) fun x103=>zL .NotEq x101 x103 fun x100=>zE x100 fun c99=>pIf c99 ((jG cf x21 x20 x25 x23 x27 x17 x26 k) true) (f_law_b7 cf x20 x21 x25 x23 x27 x17 x26 k)
noncomputable def f_law_b9 (cf:CF) (x20 x21 x25 x23 x27 x17 x26:V) (k:K V):C:=zD P0 x20 (nS "bound_decls") fun x97=>zU (.dict [] (some 0)) fun x98=>zL .NotEq x97 x98 fun x96=>zE x96 fun c95=>pIf c95 ((jG cf x21 x20 x25 x23 x27 x17 x26 k) true) (f_law_b8 cf x20 x21 x25 x23 x27 x17 x26 k)
noncomputable def Jl (cf:CF) (x20 x21 x25 x23 x27 x17 x26:V) (k:K V):C:=zD P0 x20 (nS "declared") fun x93=>zU (.dict [] (some 0)) fun x94=>zL .NotEq x93 x94 fun x92=>zE x92 fun c91=>pIf c91 ((jG cf x21 x20 x25 x23 x27 x17 x26 k) true) (f_law_b9 cf x20 x21 x25 x23 x27 x17 x26 k)
noncomputable def QZ (cf:CF) (k:K V):V→C:=fun p7=>zU (.list [(.int 0),(.int 0),(.int 9)]) fun x8=>cf 64 [p7,x8,(.int 3)] fun x15=>zT .Add (.int 1) x15 fun x14=>zj 1 [x14] fun x13=>ye x13 (fun v10 add11=>cf 71 [p7,x8,(.int 0)] fun x16=>add11 (some x16)) fun x12=>zj 2 [x12] fun x9=>zp P0 cf 4 [] fun x17=>cf 64 [p7,x8,(.int 3)] fun x19=>zL .NotEq x19 (.int 1) fun x18=>cf 83 [x17,x18] fun x20=>cf 65 [x8] fun x22=>cf 76 [x20,(.tup [x22,x9])] fun x21=>zD P0 x20 (nS "types") fun x24=>zj 3 [x24] fun x23=>zU (.list []) fun x25=>zU (.list []) fun x26=>zU (.dict [] (some 0)) fun x27=>cf 81 [x9,x25,x26,x27,x18] fun x28=>zR P0 x20 (nS "mark") fun b30=>zN cf b30 [] fun x29=>zD P0 x21 (nS "kids") fun x32=>cf 56 [x20,x32] fun x31=>zR P0 x20 (nS "back") fun b34=>zN cf b34 [x29] fun x33=>(zD P0 x20 (nS "types") fun x90=>zL .NotEq x90 x23 fun x89=>zE x89 fun c88=>pIf c88 ((jG cf x21 x20 x25 x23 x27 x17 x26 k) true) (Jl cf x20 x21 x25 x23 x27 x17 x26 k))
noncomputable def f_law (cf:CF) (jz:V) (k:K V):C:=yA jz .none (.int 40) fun x4=>ye x4 (fun v1 add2=>zT .Mod v1 (.int 999983) fun x5=>add2 (some x5)) fun x3=>(zj 0 [x3] fun x111=>zL .Eq x111 (.int 0) fun x110=>zE x110 fun c109=>pIf c109 (zU (.list [(.int 7),(.int 3)]) fun x112=>(QZ cf k) x112) ((QZ cf k) x3))
theorem q_law (cf:CF) (jz:V) (k:K V):zQ P0 cf (st 149) [jz] k=f_law cf jz k:=by kernel_rfl
end Wk
end
section
namespace Wk
open Mine (st sm jJ YB zn)
noncomputable def zA:Nat→CF
 | 0=>fun _ _=>fail
 | n+1=>fun i vs=>match defAt i with
  | some d=>zQ P0 (zA n) d vs
  | none=>fail
section
variable {n:Nat} {σ:zG}
theorem cl0 {zB ze v_a yJ Zw zP:V} {k:K V}:zA (n+1) 0 [zB,ze,v_a,yJ,Zw,zP] k σ=W3 (zA n) zB ze v_a yJ Zw zP k σ:=congrFun (q_Node_init (zA n) zB ze v_a yJ Zw zP k) σ
theorem cl1 {ze v_a yJ zP:V} {k:K V}:zA (n+1) 1 [ze,v_a,yJ,zP] k σ=f_twig (zA n) ze v_a yJ zP k σ:=congrFun (q_twig (zA n) ze v_a yJ zP k) σ
theorem cl2 {zF JG:V} {k:K V}:zA (n+1) 2 [zF,JG] k σ=f_has (zA n) zF JG k σ:=congrFun (q_has (zA n) zF JG k) σ
theorem cl3 {zB zY zP zi jA:V} {k:K V}:zA (n+1) 3 [zB,zY,zP,zi,jA] k σ=W5 (zA n) zB zY zP zi jA k σ:=congrFun (q_Diag_init (zA n) zB zY zP zi jA k) σ
theorem cl4 {zB jA:V} {k:K V}:zA (n+1) 4 [zB,jA] k σ=je (zA n) zB jA k σ:=congrFun (q_Diags_init (zA n) zB jA k) σ
theorem cl5 {zB zY zP zi:V} {k:K V}:zA (n+1) 5 [zB,zY,zP,zi] k σ=W4 (zA n) zB zY zP zi k σ:=congrFun (q_Diags_put (zA n) zB zY zP zi k) σ
theorem cl6 {zB:V} {k:K V}:zA (n+1) 6 [zB] k σ=Ys (zA n) zB k σ:=congrFun (q_Notes_init (zA n) zB k) σ
theorem cl7 {zB jB zP:V} {k:K V}:zA (n+1) 7 [zB,jB,zP] k σ=W2 (zA n) zB jB zP k σ:=congrFun (q_Notes_put (zA n) zB jB zP k) σ
theorem cl8 {zB:V} {k:K V}:zA (n+1) 8 [zB] k σ=Yc (zA n) zB k σ:=congrFun (WU (zA n) zB k) σ
theorem cl9 {zB jT:V} {k:K V}:zA (n+1) 9 [zB,jT] k σ=Y9 (zA n) zB jT k σ:=congrFun (UB (zA n) zB jT k) σ
theorem cl10 {zH v_t:V} {k:K V}:zA (n+1) 10 [zH,v_t] k σ=uD (zA n) zH v_t k σ:=congrFun (q_kind_of (zA n) zH v_t k) σ
theorem cl11 {zH JE zf:V} {k:K V}:zA (n+1) 11 [zH,JE,zf] k σ=QM (zA n) zH JE zf k σ:=congrFun (q_str_type (zA n) zH JE zf k) σ
theorem cl12 {zH v_n zf:V} {k:K V}:zA (n+1) 12 [zH,v_n,zf] k σ=QP (zA n) zH v_n zf k σ:=congrFun (q_num_type (zA n) zH v_n zf k) σ
theorem cl13 {zH v_b zf:V} {k:K V}:zA (n+1) 13 [zH,v_b,zf] k σ=W0 (zA n) zH v_b zf k σ:=congrFun (q_bool_type (zA n) zH v_b zf k) σ
theorem cl14 {zH JH JC:V} {k:K V}:zA (n+1) 14 [zH,JH,JC] k σ=X7 (zA n) zH JH JC k σ:=congrFun (q_array_type (zA n) zH JH JC k) σ
theorem cl15 {zZ Zt:V} {k:K V}:zA (n+1) 15 [zZ,Zt] k σ=Wy (zA n) zZ Zt k σ:=congrFun (q_last_mark (zA n) zZ Zt k) σ
theorem cl16 {zH zZ:V} {k:K V}:zA (n+1) 16 [zH,zZ] k σ=Yb (zA n) zH zZ k σ:=congrFun (WT (zA n) zH zZ k) σ
theorem cl17 {zH zZ YF:V} {k:K V}:zA (n+1) 17 [zH,zZ,YF] k σ=QO (zA n) zH zZ YF k σ:=congrFun (q_one_rest (zA n) zH zZ YF k) σ
theorem cl18 {zH zZ JC:V} {k:K V}:zA (n+1) 18 [zH,zZ,JC] k σ=Xs (zA n) zH zZ JC k σ:=congrFun (q_tuple_type (zA n) zH zZ JC k) σ
theorem cl19 {zH v_t:V} {k:K V}:zA (n+1) 19 [zH,v_t] k σ=QN (zA n) zH v_t k σ:=congrFun (q_parts_of (zA n) zH v_t k) σ
theorem cl20 {jT:V} {k:K V}:zA (n+1) 20 [jT] k σ=Zd (zA n) jT k σ:=congrFun (Uo (zA n) jT k) σ
theorem cl21 {zH v_t:V} {k:K V}:zA (n+1) 21 [zH,v_t] k σ=JP (zA n) zH v_t k σ:=congrFun (Uq (zA n) zH v_t k) σ
theorem cl22 {yS:V} {k:K V}:zA (n+1) 22 [yS] k σ=Xw (zA n) yS k σ:=congrFun (q_join_bools (zA n) yS k) σ
theorem cl23 {zH yS v_t:V} {k:K V}:zA (n+1) 23 [zH,yS,v_t] k σ=JO (zA n) zH yS v_t k σ:=congrFun (Up (zA n) zH yS v_t k) σ
theorem cl24 {yS:V} {k:K V}:zA (n+1) 24 [yS] k σ=f_top_of (zA n) yS k σ:=congrFun (q_top_of (zA n) yS k) σ
theorem cl25 {zH Zq:V} {k:K V}:zA (n+1) 25 [zH,Zq] k σ=f_union (zA n) zH Zq k σ:=congrFun (q_union (zA n) zH Zq k) σ
theorem cl26 {zH v_t:V} {k:K V}:zA (n+1) 26 [zH,v_t] k σ=W1 (zA n) zH v_t k σ:=congrFun (q_add_undef (zA n) zH v_t k) σ
theorem cl27 {zH v_t:V} {k:K V}:zA (n+1) 27 [zH,v_t] k σ=Qd (zA n) zH v_t k σ:=congrFun (q_is_fresh (zA n) zH v_t k) σ
theorem cl28 {zH v_t:V} {k:K V}:zA (n+1) 28 [zH,v_t] k σ=Jz (zA n) zH v_t k σ:=congrFun (Q5 (zA n) zH v_t k) σ
theorem cl29 {zH v_t:V} {k:K V}:zA (n+1) 29 [zH,v_t] k σ=uB (zA n) zH v_t k σ:=congrFun (q_regular (zA n) zH v_t k) σ
theorem cl30 {zB yc:V} {k:K V}:zA (n+1) 30 [zB,yc] k σ=Yt (zA n) zB yc k σ:=congrFun (q_Bound_init (zA n) zB yc k) σ
theorem cl31 {zB:V} {k:K V}:zA (n+1) 31 [zB] k σ=WE (zA n) zB k σ:=congrFun (q_Judge_init (zA n) zB k) σ
theorem cl32 {zB zI v_s v_t:V} {k:K V}:zA (n+1) 32 [zB,zI,v_s,v_t] k σ=J4 (zA n) zB zI v_s v_t k σ:=congrFun (wA (zA n) zB zI v_s v_t k) σ
theorem cl33 {zB zI v_t:V} {k:K V}:zA (n+1) 33 [zB,zI,v_t] k σ=J3 (zA n) zB zI v_t k σ:=congrFun (Q9 (zA n) zB zI v_t k) σ
theorem cl34 {zB zI v_s v_t:V} {k:K V}:zA (n+1) 34 [zB,zI,v_s,v_t] k σ=Zh (zA n) zB zI v_s v_t k σ:=congrFun (XF (zA n) zB zI v_s v_t k) σ
theorem cl35 {zH v_s v_t:V} {k:K V}:zA (n+1) 35 [zH,v_s,v_t] k σ=Xv (zA n) zH v_s v_t k σ:=congrFun (q_plain_part (zA n) zH v_s v_t k) σ
theorem cl36 {zH v_s v_t:V} {k:K V}:zA (n+1) 36 [zH,v_s,v_t] k σ=ZN (zA n) zH v_s v_t k σ:=congrFun (Jn (zA n) zH v_s v_t k) σ
theorem cl37 {zB zH JF Zx Zv Zs yc zl:V} {k:K V}:zA (n+1) 37 [zB,zH,JF,Zx,Zv,Zs,yc,zl] k σ=Yr (zA n) zB zH JF Zx Zv Zs yc zl k σ:=congrFun (q_Sheet_init (zA n) zB zH JF Zx Zv Zs yc zl k) σ
theorem cl38 {zB zF yX:V} {k:K V}:zA (n+1) 38 [zB,zF,yX] k σ=WC (zA n) zB zF yX k σ:=congrFun (q_Sheet_expr (zA n) zB zF yX k) σ
theorem cl39 {zB zF:V} {k:K V}:zA (n+1) 39 [zB,zF] k σ=X9 (zA n) zB zF k σ:=congrFun (q_Sheet_stmt (zA n) zB zF k) σ
theorem cl40 {zB zY zF zi:V} {k:K V}:zA (n+1) 40 [zB,zY,zF,zi] k σ=J2 (zA n) zB zY zF zi k σ:=congrFun (Q8 (zA n) zB zY zF zi k) σ
theorem cl41 {zB zY zP zi:V} {k:K V}:zA (n+1) 41 [zB,zY,zP,zi] k σ=X8 (zA n) zB zY zP zi k σ:=congrFun (q_Sheet_tell (zA n) zB zY zP zi k) σ
theorem cl42 {zB v_t:V} {k:K V}:zA (n+1) 42 [zB,v_t] k σ=J1 (zA n) zB v_t k σ:=congrFun (Q7 (zA n) zB v_t k) σ
theorem cl43 {zB jB zF:V} {k:K V}:zA (n+1) 43 [zB,jB,zF] k σ=WA (zA n) zB jB zF k σ:=congrFun (q_Sheet_note (zA n) zB jB zF k) σ
theorem cl44 {zB XU v_t:V} {k:K V}:zA (n+1) 44 [zB,XU,v_t] k σ=JB (zA n) zB XU v_t k σ:=congrFun (UD (zA n) zB XU v_t k) σ
theorem cl45 {zB:V} {k:K V}:zA (n+1) 45 [zB] k σ=WB (zA n) zB k σ:=congrFun (q_Sheet_mark (zA n) zB k) σ
theorem cl46 {zB yb:V} {k:K V}:zA (n+1) 46 [zB,yb] k σ=WD (zA n) zB yb k σ:=congrFun (q_Sheet_back (zA n) zB yb k) σ
theorem cl47 {zI zF yX:V} {k:K V}:zA (n+1) 47 [zI,zF,yX] k σ=Wz (zA n) zI zF yX k σ:=congrFun (q_expr_kind (zA n) zI zF yX k) σ
theorem cl48 {zI zF:V} {k:K V}:zA (n+1) 48 [zI,zF] k σ=X4 (zA n) zI zF k σ:=congrFun (q_check_stmt (zA n) zI zF k) σ
theorem cl49 {zI zt:V} {k:K V}:zA (n+1) 49 [zI,zt] k σ=Xu (zA n) zI zt k σ:=congrFun (q_stays_told (zA n) zI zt k) σ
theorem cl50 {zI yb:V} {k:K V}:zA (n+1) 50 [zI,yb] k σ=Wq (zA n) zI yb k σ:=congrFun (q_take_back (zA n) zI yb k) σ
theorem cl51 {zB zI zF:V} {k:K V}:zA (n+1) 51 [zB,zI,zF] k σ=jS (zA n) zB zI zF k σ:=congrFun (XG (zA n) zB zI zF k) σ
theorem cl52 {zB zI zF:V} {k:K V}:zA (n+1) 52 [zB,zI,zF] k σ=ZO (zA n) zB zI zF k σ:=congrFun (Jo (zA n) zB zI zF k) σ
theorem cl53 {zF:V} {k:K V}:zA (n+1) 53 [zF] k σ=Xx (zA n) zF k σ:=congrFun (q_inner_stmt (zA n) zF k) σ
theorem cl54 {zF:V} {k:K V}:zA (n+1) 54 [zF] k σ=uE (zA n) zF k σ:=congrFun (q_is_head (zA n) zF k) σ
theorem cl55 {zI zF zg:V} {k:K V}:zA (n+1) 55 [zI,zF,zg] k σ=JR (zA n) zI zF zg k σ:=congrFun (Ur (zA n) zI zF zg k) σ
theorem cl56 {zI Zr:V} {k:K V}:zA (n+1) 56 [zI,Zr] k σ=X5 (zA n) zI Zr k σ:=congrFun (q_check_rows (zA n) zI Zr k) σ
theorem cl57 {zB zI zF:V} {k:K V}:zA (n+1) 57 [zB,zI,zF] k σ=Z9 (zA n) zB zI zF k σ:=congrFun (Xe (zA n) zB zI zF k) σ
theorem cl58 {zI zF v_s v_t:V} {k:K V}:zA (n+1) 58 [zI,zF,v_s,v_t] k σ=X6 (zA n) zI zF v_s v_t k σ:=congrFun (q_case_fault (zA n) zI zF v_s v_t k) σ
theorem cl59 {zB zI zF:V} {k:K V}:zA (n+1) 59 [zB,zI,zF] k σ=Zg (zA n) zB zI zF k σ:=congrFun (XE (zA n) zB zI zF k) σ
theorem cl60 {zB zI zF:V} {k:K V}:zA (n+1) 60 [zB,zI,zF] k σ=Z8 (zA n) zB zI zF k σ:=congrFun (Xd (zA n) zB zI zF k) σ
theorem cl61 {zI zF:V} {k:K V}:zA (n+1) 61 [zI,zF] k σ=J0 (zA n) zI zF k σ:=congrFun (Q6 (zA n) zI zF k) σ
theorem cl62 {zB zI zF:V} {k:K V}:zA (n+1) 62 [zB,zI,zF] k σ=JA (zA n) zB zI zF k σ:=congrFun (UC (zA n) zB zI zF k) σ
theorem cl63 {zB zH:V} {k:K V}:zA (n+1) 63 [zB,zH] k σ=JS (zA n) zB zH k σ:=congrFun (q_Thin_init (zA n) zB zH k) σ
theorem c64 {zM zP v_n:V} {k:K V}:zA (n+1) 64 [zM,zP,v_n] k σ=Qb (zA n) zM zP v_n k σ:=congrFun (q_law_draw (zA n) zM zP v_n k) σ
theorem c65 {zP:V} {k:K V}:zA (n+1) 65 [zP] k σ=QV (zA n) zP k σ:=congrFun (q_law_next (zA n) zP k) σ
theorem c66 {Zu:V} {k:K V}:zA (n+1) 66 [Zu] k σ=QY (zA n) Zu k σ:=congrFun (q_law_join (zA n) Zu k) σ
theorem c67 {zM zP v_n:V} {k:K V}:zA (n+1) 67 [zM,zP,v_n] k σ=Wt (zA n) zM zP v_n k σ:=congrFun (q_law_plain (zA n) zM zP v_n k) σ
theorem c68 {zM zP:V} {k:K V}:zA (n+1) 68 [zM,zP] k σ=Ww (zA n) zM zP k σ:=congrFun (q_law_cells (zA n) zM zP k) σ
theorem c69 {zM zP:V} {k:K V}:zA (n+1) 69 [zM,zP] k σ=Qa (zA n) zM zP k σ:=congrFun (q_law_expr (zA n) zM zP k) σ
theorem c70 {zM zP zm:V} {k:K V}:zA (n+1) 70 [zM,zP,zm] k σ=QS (zA n) zM zP zm k σ:=congrFun (q_law_rows (zA n) zM zP zm k) σ
theorem c71 {zM zP zm:V} {k:K V}:zA (n+1) 71 [zM,zP,zm] k σ=XN (zA n) zM zP zm k σ:=congrFun (q_law_stmt (zA n) zM zP zm k) σ
theorem c72 {zH v_i zf:V} {k:K V}:zA (n+1) 72 [zH,v_i,zf] k σ=Qc (zA n) zH v_i zf k σ:=congrFun (q_law_atom (zA n) zH v_i zf k) σ
theorem c73 {zH ze:V} {k:K V}:zA (n+1) 73 [zH,ze] k σ=QQ (zA n) zH ze k σ:=congrFun (q_law_type (zA n) zH ze k) σ
theorem c74 {ze v_a yJ v_n:V} {k:K V}:zA (n+1) 74 [ze,v_a,yJ,v_n] k σ=QU (zA n) ze v_a yJ v_n k σ:=congrFun (q_law_node (zA n) ze v_a yJ v_n k) σ
theorem c75 {zI v_e:V} {k:K V}:zA (n+1) 75 [zI,v_e] k σ=Ws (zA n) zI v_e k σ:=congrFun (q_law_value (zA n) zI v_e k) σ
theorem c76 {zI zt:V} {k:K V}:zA (n+1) 76 [zI,zt] k σ=Wx (zA n) zI zt k σ:=congrFun (q_law_block (zA n) zI zt k) σ
theorem c77 {zI yr:V} {k:K V}:zA (n+1) 77 [zI,yr] k σ=QW (zA n) zI yr k σ:=congrFun (q_law_made (zA n) zI yr k) σ
theorem c78 {v_e zq:V} {k:K V}:zA (n+1) 78 [v_e,zq] k σ=QR (zA n) v_e zq k σ:=congrFun (q_law_seen (zA n) v_e zq k) σ
theorem c79 {ze:V} {k:K V}:zA (n+1) 79 [ze] k σ=QT (zA n) ze k σ:=congrFun (q_law_room (zA n) ze k) σ
theorem c80 {v_s v_t zd:V} {k:K V}:zA (n+1) 80 [v_s,v_t,zd] k σ=Wu (zA n) v_s v_t zd k σ:=congrFun (q_law_meets (zA n) v_s v_t zd k) σ
theorem c81 {zt zq zl yh zd:V} {k:K V}:zA (n+1) 81 [zt,zq,zl,yh,zd] k σ=Wv (zA n) zt zq zl yh zd k σ:=congrFun (q_law_check (zA n) zt zq zl yh zd k) σ
theorem c82 {yr zq zl yh zd:V} {k:K V}:zA (n+1) 82 [yr,zq,zl,yh,zd] k σ=QX (zA n) yr zq zl yh zd k σ:=congrFun (q_law_look (zA n) yr zq zl yh zd k) σ
theorem c83 {zH zd:V} {k:K V}:zA (n+1) 83 [zH,zd] k σ=JQ (zA n) zH zd k σ:=congrFun (q_law_sheet (zA n) zH zd k) σ
theorem c84 {jz:V} {k:K V}:zA (n+1) 84 [jz] k σ=f_law (zA n) jz k σ:=congrFun (q_law (zA n) jz k) σ
end
end Wk
end
section
namespace Mine
noncomputable abbrev lw:OpenLaw:=PySem.Challenge.rw_qd0083_01
noncomputable abbrev pz:Program:=lw.row.prog
theorem w1a:sreFenced pz.main=true:=by rw [PySem.W.Fast.te11788848310118352699]; kernel_rfl
theorem w1b:((moduleNames pz.main.body).isEmpty||lookedIntoSs (moduleNames pz.main.body) pz.main.body)=true:=by rw [PySem.W.Fast.te12862048085361865435,PySem.W.Fast.te9807087744658564304]; kernel_rfl
theorem w1c:namesResolve pz=true:=by rw [PySem.W.Fast.te8377067652309620493]; kernel_rfl
theorem w1d:pz.boundNames.all (fun n=>!worldNames.contains n)=true:=by rw [PySem.W.Fast.te18344453789297297638,PySem.W.Fast.te14412699480532031325,PySem.W.Fast.sDec_eq]; kernel_rfl
theorem w1u:readsOut pz pz.main.body "vars"=false:=by rw [PySem.W.Fast.te13343964577679436407]; kernel_rfl
theorem w1v:readsOut pz pz.main.body "dir"=false:=by rw [PySem.W.Fast.te13343964577679436407]; kernel_rfl
theorem w1w:readsOut pz pz.main.body "locals"=false:=by rw [PySem.W.Fast.te13343964577679436407]; kernel_rfl
theorem w1e:(["vars","dir","locals"]:List Str).filter (readsOut pz pz.main.body)=[]:=by rw [List.filter_cons_of_neg (by rw [w1u]; exact Bool.false_ne_true),List.filter_cons_of_neg (by rw [w1v]; exact Bool.false_ne_true),List.filter_cons_of_neg (by rw [w1w]; exact Bool.false_ne_true)]; rfl
theorem w1g:(importedModules pz.main.body).all cThrough.contains=true:=by rw [PySem.W.Fast.te5923862056798008813]; kernel_rfl
theorem w1f:noRoadLSs {strict:=!true,foot:=none,bare:=[]} pz.main.body=true:=by rw [PySem.W.Fast.te8326940854005059898]; kernel_rfl
theorem w1h:(namesMeet pz pz.main.body fun _ n=>attrL n)=true:=by rw [PySem.W.Fast.te17119622794617984870,PySem.W.Fast.te17868728402115742887]; kernel_rfl
theorem w1l:looksOpen pz=true:=by
 unfold looksOpen
 rw [w1a,w1b,w1c,w1d,w1e,w1g,w1f,w1h]
 rfl
theorem w1:lw.row.partSaid=true:=by
 unfold OpenRow.partSaid
 rw [w1l]
 kernel_rfl
theorem w2:(lw.row.prog.boundNames.contains lw.row.name)=true:=by kernel_rfl
theorem w3:(!startupNames.contains lw.row.name)=true:=by kernel_rfl
theorem w4:decide (lw.foot≤(behindTheImports lw.prog).length)=true:=by kernel_rfl
theorem w5:lw.footing.all footLine=true:=by rw [PySem.W.Fast.te10501279942588096481]; kernel_rfl
theorem w6:noClassBlock lw.prog lw.footing=true:=by rw [PySem.W.Fast.te8179353310426384613]; kernel_rfl
theorem w7:lw.most.all (fun n=>decide (63≤n))=true:=by kernel_rfl
theorem w8:lw.bound.all (fun n=>decide (2^63≤n))=true:=by kernel_rfl
theorem w9:noRoadLSs {strict:=true,foot:=some lw.bound',writes:=lw.writes,may:=lw.may} lw.footing=true:=by rw [PySem.W.Fast.te8326940854005059898,PySem.W.Fast.te797321630700447069,PySem.W.Fast.te9572597257264208301]; kernel_rfl
theorem w10:defStands lw.about lw.above=true:=by rw [PySem.W.Fast.te9558739934217749035]; kernel_rfl
theorem w11:lw.namesIt=true:=by rw [PySem.W.Fast.te16286561074155671207]; kernel_rfl
theorem w12:(["type","isinstance","issubclass","getattr","hasattr"]:List Str).all (fun n=>lw.about !=[n])=true:=by kernel_rfl
theorem w13:lw.bound'.all (fun n=>!builtinNamed n||lw.about==[n]||!lw.reads n)=true:=by rw [PySem.W.Fast.te797321630700447069,PySem.W.Fast.named_eq,PySem.W.Fast.te6984425678791042302]; kernel_rfl
theorem w14:(!lw.writes||(lw.prog.main.body.flatMap importedNames).all fun n=>!lw.reads n)=true:=by kernel_rfl
theorem w15:(lw.prog.main.body.flatMap importedNames).all (fun n=>!lw.reads n||(drawsOf n lw.prog.main.body).all fun mn=>mn.2 !=("attrgetter":Str)&&mn.2 !=("methodcaller":Str))=true:=by rw [PySem.W.Fast.te12879404354523853263]; kernel_rfl
theorem w16:namesMeet lw.prog lw.footing (fun sc n=>(!(["type","isinstance","issubclass","getattr","hasattr"]:List Str).contains n||sc.names.lookup n==some .globalImplicit)&&
  (lw.may !=some n||sc.kind==.module||sc.names.lookup n==some .globalImplicit))=true:=by rw [PySem.W.Fast.te17119622794617984870,PySem.W.Fast.te9572597257264208301,PySem.W.Fast.sDec_eq]; kernel_rfl
theorem w17:lw.own.contains lw.name=true:=by rw [PySem.W.Fast.te10792542408131684335]; kernel_rfl
theorem w18:(lw.own.eraseDups.length==lw.own.length)=true:=by rw [PySem.W.Fast.te10792542408131684335,PySem.W.Fast.sDec_eq]; kernel_rfl
theorem w19:lw.own.all (fun n=>!builtinNamed n)=true:=by rw [PySem.W.Fast.te10792542408131684335,PySem.W.Fast.named_eq]; kernel_rfl
theorem w20:namesMeet lw.prog lw.above (fun _ n=>!lw.own.contains n)=true:=by rw [PySem.W.Fast.te17119622794617984870,PySem.W.Fast.te10792542408131684335,PySem.W.Fast.sDec_eq]; kernel_rfl
theorem w21:(namesMeet lw.prog lw.footing fun sc n=>sc.kind==.module||sc.names.lookup n !=some .globalExplicit)=true:=by rw [PySem.W.Fast.te17119622794617984870,PySem.W.Fast.sDec_eq]; kernel_rfl
theorem ws:lw.wellSaid=true:=by
 unfold OpenLaw.wellSaid OpenRow.wellSaid
 rw [w1,w2,w3,w4,w5,w6,w7,w8,w9,w10,w11,w12,w13,w14,w15,w16,w17,w18,w19,w20,w21]
 rfl
end Mine
end
section
namespace Mine
noncomputable def YP (w:World) (h:Heap):Prop:=∀b o,(H1 w.params).get? b=some o→h.get? b=some o
noncomputable def lawSt:Stmt:=st 149
noncomputable def We:DefRec:={pos:=dPos lawSt,name:=Str.ofString "law",params:=jJ lawSt,body:=YB lawSt,scope:=zn lawSt}
theorem hY:∀ (w:World) (s:Shared),s.heap.objs=(H1 w.params).objs→YP w s.heap:=by
 intro w s e b o h
 have:s.heap.get? b=(H1 w.params).get? b:=by unfold Heap.get?; rw [e]
 rw [this]; exact h
theorem defLaw:defOf qv lw.row.name=some (We,[]):=by kernel_rfl
theorem theDefLaw:lw.row.prog.theDef lw.row.name=some (We.params,We.body,We.scope):=by kernel_rfl
theorem kwLaw:kwWritten? We.params.kwonlyargs We.params.kw_defaults=some []:=by kernel_rfl
theorem okLaw:(chainsOk qv&&opensWell lw.row.prog&&(frees lw.row.toRowW&&lw.row.within.isEmpty))=true:=by kernel_rfl
theorem bwApp {A:TablesWhole.Alg Bool} (hb:∀a b,A.both a b=(a&&b)) (hu:A.unit=true) {top:Scope} {cx:TablesWhole.Ctx} {sc:Scope} {m:List Stmt}:∀l:List Stmt,TablesWhole.wSs A top cx sc (l++m)=(TablesWhole.wSs A top cx sc l&&TablesWhole.wSs A top cx sc m)
 | []=>by rw [TablesWhole.wSs,hu]; rfl
 | s::r=>by rw [List.cons_append,TablesWhole.wSs,TablesWhole.wSs,hb,hb,bwApp hb hu r,Bool.and_assoc]
noncomputable abbrev bwS:Scope:=pw.main.scope
theorem bwT:TablesWhole.wSs TablesWhole.gather bwS ⟨bwS,[],[],[],none⟩ bwS pw.main.body=[]:=by rw [PySem.W.Fast.te12652042256554560961,PySem.W.Fast.te16421684217811934046]; kernel_rfl
noncomputable abbrev bwH (l:List Stmt):Bool:=TablesWhole.wSs TablesWhole.holds bwS ⟨bwS,[],[],[],none⟩ bwS l
theorem bwA:bwH (pw.main.body.take 90)=true:=by unfold bwH TablesWhole.holds; rw [PySem.W.Fast.te15985051520779696433,PySem.W.Fast.te16421684217811934046]; kernel_rfl
theorem bwB:bwH (pw.main.body.drop 90)=true:=by unfold bwH TablesWhole.holds; rw [PySem.W.Fast.te15985051520779696433,PySem.W.Fast.te16421684217811934046]; kernel_rfl
theorem bwAll:pw.tablesWhole=true:=by
 have h:bwH pw.main.body=true:=by rw [← List.take_append_drop 90 pw.main.body]; exact (bwApp (fun _ _=>rfl) rfl _).trans (by rw [show TablesWhole.wSs _ _ _ _ (pw.main.body.take 90)=true from bwA,show TablesWhole.wSs _ _ _ _ (pw.main.body.drop 90)=true from bwB]; rfl)
 unfold bwH at h
 unfold Program.tablesWhole TablesWhole.wProgram TablesWhole.wModule
 rw [bwT]
 dsimp only
 rw [h,PySem.W.Fast.te8331962902438777018]
 kernel_rfl
theorem bareLaw:lw.row.prog.bare:=⟨rfl,rfl,rfl,rfl,rfl,bwAll⟩
theorem promLaw:lw.row.toRowW.promised:=⟨[.list [.int 3]],by decide+kernel,by decide+kernel⟩
theorem top_of (walk:WalkO qv loose (fun _ _=>True) YP lw.row.toRowW We [] fun f vs=>PySem.call f vs):PySem.Challenge.rw_qd0083_01.Holds:=by
 refine holds_law ws fun k1=>?_
 exact holds_open (r:=lw.row) (q:=qv) (loose:=loose) (Xt:=fun _=>true) (XP:=fun _ _=>True) (Yf:=fun s=>s.heap.objs) (Ya:=fun w=>(H1 w.params).objs) (YP:=YP) (d:=We) (kwd:=[]) (N:=30000)
  left hY (fun w h h' y k b o e=>k b o (y b o e)) (fun _ _=>trivial) (fun _ _ _ _ _=>trivial) defLaw theDefLaw kwLaw (fun s _=>recFacts_of (by rfl)) (by rfl) k1 okLaw bareLaw promLaw walk
end Mine
end
section
namespace Wk
inductive X5_5 {α β γ δ ε:Type} (p0 p1 p2 p3 p4:α→β→γ→δ→ε→Prop):Prop
 | mk (a0:α) (a1:β) (a2:γ) (a3:δ) (a4:ε) (h0:p0 a0 a1 a2 a3 a4) (h1:p1 a0 a1 a2 a3 a4) (h2:p2 a0 a1 a2 a3 a4) (h3:p3 a0 a1 a2 a3 a4) (h4:p4 a0 a1 a2 a3 a4):X5_5 p0 p1 p2 p3 p4
open Mine (st sm H1 YP pw)
noncomputable abbrev Phi:=List (Nat×Nat)
noncomputable def ZE (φ:Phi) (b:Addr):Prop:=∃p∈φ,b=p.1∨b=p.2
mutual
noncomputable def Wo (P:Params):V→Int
 | .int i=>hashInt i
 | .str s=>PyData.keyHash P s
 | .tup l=>reduceHash (Builtin.Tuple.tupleHashOf (Jx P l))
 | _=>0
noncomputable def Jx (P:Params):List V→List Int
 | []=>[]
 | v::r=>Wo P v::Jx P r
end
noncomputable def jD (l:List (V×V)):Prop:=(l.map (·.1)).Nodup∧(∃c:Nat,∀e∈l,fitK e.1=true∧JW e.1=c)
mutual
noncomputable def zo (P:Params) (φ:Phi) (h:Heap):V→Value→Prop
 | .none,v=>v=.none
 | .bool b,v=>v=.bool b
 | .int i,v=>∃t,v=.int i t
 | .str s,v=>∃t,v=.str s t
 | .tup l,v=>WP (fun a _=>v=.ref a) (fun a vs=>IsTup h a vs.toArray) (fun _ vs=>za P φ h l vs)
 | .ref n,v=>ZI (fun p=>φ[n]? =some p) (fun p=>v=.ref p.1)
 | .rng n,v=>X5_5 (fun a _ _ _ _=>v=.ref a) (fun a x t u b=>h.get? a=some {cls:=.type "range",data:=.fields #[.int 0 t,.int x u,.int 1 b]}) (fun _ x _ _ _=>n=x.toNat) (fun _ x _ _ _=> -100000 < x) (fun _ x _ _ _=>x < 100000)
 | .cdict l,v=>X3_4 (fun a _ _=>v=.ref a) (fun a es n=>(H1 P).get? a=some ⟨.type "dict",none,.dict es n,#[]⟩) (fun _ _ _=>jD l) (fun _ es _=>zy P φ h l es.toList)
noncomputable def za (P:Params) (φ:Phi) (h:Heap):List V→List Value→Prop
 | [],vs=>vs=[]
 | v::r,vs=>WP (fun x xs=>vs=x::xs) (fun x _=>zo P φ h v x) (fun _ xs=>za P φ h r xs)
noncomputable def zy (P:Params) (φ:Phi) (h:Heap):List (V×V)→List DictEntry→Prop
 | [],es=>es=[]
 | (k,v)::r,es=>X2_5 (fun e xs=>es=e::xs) (fun e _=>e.hash=Wo P k) (fun e _=>zo P φ h k e.key) (fun e _=>zo P φ h v e.val) (fun _ xs=>zy P φ h r xs)
end
noncomputable def jI (P:Params) (φ:Phi) (h:Heap):List (Str×V)→List DictEntry→Prop
 | [],es=>es=[]
 | (x,v)::r,es=>X3_5 (fun e xs _=>es=e::xs) (fun e _ _=>e.hash=PyData.keyHash P x) (fun e _ t=>e.key=.str x t) (fun e _ _=>zo P φ h v e.val) (fun _ xs _=>jI P φ h r xs)
noncomputable def clsAddr:Nat→Option Nat:=fun c=>(yu[c]?)
noncomputable def EpOk:Option Nat→List (V×V)→Nat→Prop
 | some d,l,n=>n=l.length+2*d
 | none,_,_=>True
noncomputable def YR (P:Params) (φ:Phi) (h:Heap):O→Nat×Nat→Prop
 | .list l,p=>p.2=p.1∧ZI (fun vs=>h.PlainList p.1 vs.toArray) (fun vs=>za P φ h l vs)
 | .dict l e,p=>p.2=p.1∧jD l∧X2_2 (fun (es:Array DictEntry) (n:{n:Nat // EpOk e l n})=>h.get? p.1=some ⟨.type "dict",none,.dict es n.1,#[]⟩) (fun (es:Array DictEntry) (n:{n:Nat // EpOk e l n})=>zy P φ h l es.toList)
 | .inst c fs,p=>X3_4 (fun C _ _=>clsAddr c=some C) (fun C _ _=>h.get? p.1=some (instObj C p.2)) (fun _ es n=>h.get? p.2=some ⟨.type "dict",none,.dict es n,#[]⟩) (fun _ es _=>jI P φ h fs es.toList)
 | .lit ob l,p=>p.2=p.1∧h.get? p.1=some ob∧ob.cls=.type "list"∧X2_2 (fun vs n=>ob.data=.seq vs.toArray n) (fun vs _=>za P φ h l vs)
noncomputable def Apart (φ:Phi):Prop:=∀ (i j:Nat) (p q:Nat×Nat),φ[i]? =some p→φ[j]? =some q→(p.1=q.1∨p.1=q.2∨p.2=q.1∨p.2=q.2)→i=j
structure Sim (w:World) (φ:Phi) (σ:zG) (h:Heap):Prop where
 base:YP w h
 len:φ.length=σ.length
 objs:∀ (n:Nat) (o:O),σ[n]? =some o→∃p,φ[n]? =some p∧YR w.params φ h o p
 apart:Apart φ
 above:∀p∈φ,(H1 w.params).get? p.1=none∧(H1 w.params).get? p.2=none
structure Ext (X:Addr→Prop) (φ:Phi) (h:Heap) (φ':Phi) (h':Heap):Prop where
 pre:φ<+:φ'
 keep:∀b o,h.get? b=some o→¬ZE φ b→¬X b→h'.get? b=some o
 live:∀b o,h.get? b=some o→∃o',h'.get? b=some o'
 new:∀b,ZE φ' b→ZE φ b∨h.get? b=none
theorem Ext.rfl {X:Addr→Prop} {φ:Phi} {h:Heap}:Ext X φ h φ h:=⟨List.prefix_rfl,fun _ _ e _ _=>e,fun _ o e=>⟨o,e⟩,fun _ h=>.inl h⟩
theorem ZE.mono {φ φ':Phi} (x:φ<+:φ') {b:Addr} (h:ZE φ b):ZE φ' b:=let ⟨p,hp,q⟩:=h; ⟨p,x.subset hp,q⟩
theorem UV:Value.type "list"≠.type "tuple"∧Value.type "list"≠.type "range":=by decide
theorem ne_dict:Value.type "dict"≠.type "tuple"∧Value.type "dict"≠.type "range":=by decide
theorem Sim.obj {w:World} {φ:Phi} {σ:zG} {h:Heap} (S:Sim w φ σ h) {b:Addr} (hb:ZE φ b):∃o,h.get? b=some o∧o.cls≠.type "tuple"∧o.cls≠.type "range":=by
 obtain ⟨p,hp,hb⟩:=hb
 obtain ⟨n,hn,rfl⟩:=List.getElem_of_mem hp
 have hn':n < σ.length:=S.len▸hn
 obtain ⟨p',hp',R⟩:=S.objs n σ[n] (List.getElem?_eq_getElem hn')
 rw [List.getElem?_eq_getElem hn] at hp'
 obtain rfl:=Option.some.inj hp'
 generalize σ[n]=o at R
 rcases o with l | ⟨l,ep⟩ | ⟨c,fs⟩ | ⟨ob,l⟩
 ·obtain ⟨e,vs,⟨n,q⟩,-⟩:=R
  rw [e] at hb
  rcases hb with rfl | rfl<;>exact ⟨_,q,UV⟩
 ·obtain ⟨e,-,es,n,q,-⟩:=R
  rw [e] at hb
  rcases hb with rfl | rfl<;>exact ⟨_,q,ne_dict⟩
 ·obtain ⟨C,es,n,-,q1,q2,-⟩:=R
  rcases hb with rfl | rfl
  ·exact ⟨_,q1,by constructor<;>intro e<;>cases e⟩
  ·exact ⟨_,q2,ne_dict⟩
 ·obtain ⟨e,q,hc,-⟩:=R
  rw [e] at hb
  rcases hb with rfl | rfl<;>exact ⟨_,q,by rw [hc]; exact UV⟩
theorem Sim.tup {w:World} {φ:Phi} {σ:zG} {h:Heap} (S:Sim w φ σ h) {a:Addr} {items:Array Value} (t:IsTup h a items):¬ZE φ a:=fun hb=>by
 obtain ⟨o,e,hc,-⟩:=S.obj hb
 obtain ⟨o',e',hc',-⟩:=t
 rw [e] at e'
 obtain rfl:=Option.some.inj e'
 exact hc hc'
theorem V.ind {p:V→Prop} {q:List V→Prop} {e:List (V×V)→Prop} (none:p .none) (bool:∀b,p (.bool b)) (int:∀i,p (.int i)) (str:∀s,p (.str s)) (tup:∀l,q l→p (.tup l)) (ref:∀n,p (.ref n)) (cdict:∀l,e l→p (.cdict l)) (rng:∀n,p (.rng n))
  (n:q []) (c:∀v l,p v→q l→q (v::l)) (n':e []) (c':∀k v l,p k→p v→e l→e ((k,v)::l)):(∀v,p v)∧(∀l,q l)∧∀l,e l:=
 have P:∀v,p v:=fun v=>V.rec (motive_1:=p) (motive_2:=q) (motive_3:=e) (motive_4:=fun x=>p x.1∧p x.2) none bool int str tup ref cdict rng n c n' (fun x l h=>c' x.1 x.2 l h.1 h.2) (fun _ _ h k=>⟨h,k⟩) v
 ⟨P,fun l=>List.rec n (fun v l=>c v l (P v)) l,fun l=>List.rec n' (fun x l=>c' x.1 x.2 l (P x.1) (P x.2)) l⟩
noncomputable def Fix (o:Obj):Prop:=(o.cls=.type "tuple"∧∃xs n,o.data=.seq xs n)∨(o.cls=.type "range"∧∃xs,o.data=.fields xs)
noncomputable def YE (X:Addr→Prop) (h:Heap):Prop:=∀b,X b→∀o,h.get? b=some o→¬ (o.cls=.type "tuple"∧∃xs n,o.data=.seq xs n)∧¬ (o.cls=.type "range"∧∃xs,o.data=.fields xs)
section
variable {P:Params} {φ φ':Phi} {h h':Heap} (px:φ<+:φ') (k:∀b o,Fix o→h.get? b=some o→h'.get? b=some o)
include px k
theorem zo.gen:(∀v a,zo P φ h v a→zo P φ' h' v a)∧(∀l a,za P φ h l a→za P φ' h' l a)∧∀l a,zy P φ h l a→zy P φ' h' l a:=
 V.ind (fun _ r=>r) (fun _ _ r=>r) (fun _ _ r=>r) (fun _ _ r=>r) (fun _ g _ ⟨a,vs,e,⟨o,ho,hc,n,hd⟩,r⟩=>⟨a,vs,e,⟨o,k a o (.inl ⟨hc,_,_,hd⟩) ho,hc,n,hd⟩,g _ r⟩)
  (fun n _ ⟨p,hp,e⟩=>⟨p,px.elim fun t e=>e▸(List.getElem?_append_left (List.getElem?_eq_some_iff.mp hp).1).trans hp,e⟩) (fun _ g _ ⟨a,es,n,e,q,d,r⟩=>⟨a,es,n,e,q,d,g _ r⟩)
  (fun n _ ⟨a,x,t,u,b,e,q,z,y,y'⟩=>⟨a,x,t,u,b,e,k a _ (.inr ⟨rfl,_,rfl⟩) q,z,y,y'⟩) (fun _ r=>r) (fun _ _ g1 g2 _ ⟨x,xs,e,r1,r2⟩=>⟨x,xs,e,g1 _ r1,g2 _ r2⟩) (fun _ r=>r) (fun _ _ _ g1 g2 g3 _ ⟨x,xs,e,r0,r1,r2,r3⟩=>⟨x,xs,e,r0,g1 _ r1,g2 _ r2,g3 _ r3⟩)
theorem jI.gen:∀ (l:List (Str×V)) (vs:List DictEntry),jI P φ h l vs→jI P φ' h' l vs
 | [],_,r=>r
 | (x,v)::l,vs,⟨y,ys,t,e,r1,r2,r3,r4⟩=>⟨y,ys,t,e,r1,r2,(zo.gen px k).1 v _ r3,jI.gen l ys r4⟩
end
section
variable {w:World} {X:Addr→Prop} {φ φ':Phi} {σ:zG} {h h':Heap} (S:Sim w φ σ h) (x:Ext X φ h φ' h') (sp:YE X h)
include S x sp
theorem JN:∀b o,Fix o→h.get? b=some o→h'.get? b=some o:=fun b o f e=>x.keep b o e (fun hb=>by
 obtain ⟨o',e',c1,c2⟩:=S.obj hb
 obtain rfl:=Option.some.inj (e.symm.trans e')
 exact f.elim (fun q=>c1 q.1) fun q=>c2 q.1) fun hx=>f.elim (sp b hx o e).1 (sp b hx o e).2
theorem zo.ext (v:V) (a:Value) (r:zo w.params φ h v a):zo w.params φ' h' v a:=(zo.gen x.pre (JN S x sp)).1 v a r
theorem za.ext (v:List V) (a:List Value) (r:za w.params φ h v a):za w.params φ' h' v a:=(zo.gen x.pre (JN S x sp)).2.1 v a r
theorem zy.ext (v:List (V×V)) (a:List DictEntry) (r:zy w.params φ h v a):zy w.params φ' h' v a:=(zo.gen x.pre (JN S x sp)).2.2 v a r
theorem jI.ext (l:List (Str×V)) (vs:List DictEntry) (r:jI w.params φ h l vs):jI w.params φ' h' l vs:=jI.gen x.pre (JN S x sp) l vs r
end
theorem Ext.trans {X:Addr→Prop} {φ φ' φ'':Phi} {h h' h'':Heap} (x:Ext X φ h φ' h') (y:Ext X φ' h' φ'' h''):Ext X φ h φ'' h'':=by
 refine ⟨x.pre.trans y.pre,fun b o e n1 n2=>y.keep b o (x.keep b o e n1 n2) (fun q=>?_) n2,fun b o e=>(let ⟨o',e'⟩:=x.live b o e; y.live b o' e'),fun b q=>?_⟩
 ·rcases x.new b q with q | q
  ·exact n1 q
  ·rw [e] at q; cases q
 ·rcases y.new b q with q | q
  ·exact x.new b q
  ·rcases e:h.get? b with _ | o
   ·exact .inr (_root_.rfl)
   ·obtain ⟨o',e'⟩:=x.live b o e
    rw [e'] at q; cases q
theorem Ext.mono {X Y:Addr→Prop} {φ φ':Phi} {h h':Heap} (x:Ext X φ h φ' h') (i:∀b,X b→Y b):Ext Y φ h φ' h':=⟨x.pre,fun b o e n1 n2=>x.keep b o e n1 fun q=>n2 (i b q),x.live,x.new⟩
structure wK (s s':Shared):Prop where
 gens:s'.gens=s.gens
 os:s'.os=s.os
theorem wK.rfl {s:Shared}:wK s s:=⟨_root_.rfl,_root_.rfl⟩
theorem wK.trans {s s' s'':Shared} (x:wK s s') (y:wK s' s''):wK s s'':=⟨y.gens.trans x.gens,y.os.trans x.os⟩
structure jO (A:Around) (d:Nat):Prop where
 handled:A.handled=none
 depth:A.depth+3*d < 900
 units:A.units+24*d+200 < 9000
noncomputable def YQ (w:World) (X:Addr→Prop) (A:Around) {α:Type} (t:Sem α) (φ:Phi) (s:Shared) (σ':zG) (Rl:Phi→Heap→α→Prop):Prop:=
 ∀Q:α→Shared→Prop,(∀a s' φ',Sim w φ' σ' s'.heap→Ext X φ s.heap φ' s'.heap→wK s s'→Rl φ' s'.heap a→Q a s')→wpAny (model pw w) A t Q (fun _ _=>False) s
section
variable {w:World} {X:Addr→Prop} {A:Around} {α β:Type} {φ:Phi} {s:Shared} {σ₁ σ₂:zG}
theorem YQ.bind {t:Sem α} {f:α→Sem β} {R₁:Phi→Heap→α→Prop} {R₂:Phi→Heap→β→Prop} (h:YQ w X A t φ s σ₁ R₁)
  (k:∀a s₁ φ₁,Sim w φ₁ σ₁ s₁.heap→Ext X φ s.heap φ₁ s₁.heap→wK s s₁→R₁ φ₁ s₁.heap a→YQ w X A (f a) φ₁ s₁ σ₂ R₂):YQ w X A (t >>=f) φ s σ₂ R₂:=fun Q hQ=>
 wpAny_bind (h _ fun a s₁ φ₁ S₁ x₁ m₁ r₁=>k a s₁ φ₁ S₁ x₁ m₁ r₁ Q fun b s₂ φ₂ S₂ x₂ m₂ r₂=>hQ b s₂ φ₂ S₂ (x₁.trans x₂) (m₁.trans m₂) r₂)
theorem YQ.pure {a:α} {R:Phi→Heap→α→Prop} (S:Sim w φ σ₁ s.heap) (r:R φ s.heap a):YQ w X A (pure a) φ s σ₁ R:=fun Q hQ=>wpAny_pure (hQ a s φ S .rfl .rfl r)
theorem YQ.holding {t:Sem α} {vs:List Value} {R:Phi→Heap→α→Prop} (h:YQ w X A t φ s σ₁ R):YQ w X A (holding vs t) φ s σ₁ R:=fun Q hQ=>wpAny_holding (h Q hQ)
theorem YQ.standAt {f:Unit→Sem α} {p:Pos} {R:Phi→Heap→α→Prop} (h:YQ w X A (f ()) φ s σ₁ R):YQ w X A (PySem.standAt p >>=f) φ s σ₁ R:=fun Q hQ=>wpAny_bind (wpAny_standAt (h Q hQ))
theorem YQ.mono {t:Sem α} {R R':Phi→Heap→α→Prop} (h:YQ w X A t φ s σ₁ R) (i:∀φ' h' a,R φ' h' a→R' φ' h' a):YQ w X A t φ s σ₁ R':=fun Q hQ=>h Q fun a s' φ' S x m r=>hQ a s' φ' S x m (i _ _ _ r)
theorem YQ.wider {Y:Addr→Prop} {t:Sem α} {R:Phi→Heap→α→Prop} (h:YQ w X A t φ s σ₁ R) (i:∀b,X b→Y b):YQ w Y A t φ s σ₁ R:=fun Q hQ=>h Q fun a s' φ' S x m r=>hQ a s' φ' S (x.mono i) m r
theorem YQ.of_eq {t t':Sem α} {R:Phi→Heap→α→Prop} (e:t=t') (h:YQ w X A t' φ s σ₁ R):YQ w X A t φ s σ₁ R:=e▸h
end
end Wk
end
section
namespace Wk
open Mine (st sm H1 YP pw)
noncomputable def Nox:Addr→Prop:=fun _=>False
theorem zb {h:Heap}:YE Nox h:=fun _ x=>x.elim
theorem XJ {φ:Phi} {p:Nat×Nat} {b:Addr}:ZE (φ++[p]) b↔ZE φ b∨b=p.1∨b=p.2:=by
 constructor
 ·rintro ⟨q,hq,e⟩
  rcases List.mem_append.mp hq with hq | hq
  ·exact .inl ⟨q,hq,e⟩
  ·obtain rfl:q=p:=by simpa using hq
   exact .inr e
 ·rintro (⟨q,hq,e⟩ | e)
  ·exact ⟨q,List.mem_append_left _ hq,e⟩
  ·exact ⟨p,List.mem_append_right _ (.head _),e⟩
theorem Sim.phi_lt {w:World} {φ:Phi} {σ:zG} {h:Heap} (S:Sim w φ σ h) {b:Addr} (hb:ZE φ b):b < h.objs.size:=let ⟨_,e,_⟩:=S.obj hb; Heap.lt_size e
theorem Ext.push {X:Addr→Prop} {φ:Phi} {h:Heap} (o:Obj):Ext X φ h φ (h.push o):=
 ⟨List.prefix_rfl,fun _ _ e _ _=>Heap.get?_push_of_some _ e,fun _ o e=>⟨o,Heap.get?_push_of_some _ e⟩,fun _ h=>.inl h⟩
theorem YR.gen {P:Params} {φ φ':Phi} {h h':Heap} {o:O} {p:Nat×Nat} (px:φ<+:φ') (fx:∀b o,Fix o→h.get? b=some o→h'.get? b=some o) (k1:∀o,h.get? p.1=some o→h'.get? p.1=some o) (k2:∀o,h.get? p.2=some o→h'.get? p.2=some o) (R:YR P φ h o p):YR P φ' h' o p:=by
 rcases o with l | ⟨l,ep⟩ | ⟨c,fs⟩ | ⟨ob,l⟩
 ·obtain ⟨q,vs,hl,r⟩:=R; exact ⟨q,vs,hl.at k1,(zo.gen px fx).2.1 l vs r⟩
 ·obtain ⟨q,d,es,n,hl,r⟩:=R; exact ⟨q,d,es,n,k1 _ hl,(zo.gen px fx).2.2 l _ r⟩
 ·obtain ⟨C,es,n,a,b,d,r⟩:=R; exact ⟨C,es,n,a,k1 _ b,k2 _ d,jI.gen px fx fs _ r⟩
 ·obtain ⟨q,a,b,vs,n,e,r⟩:=R; exact ⟨q,k1 _ a,b,vs,n,e,(zo.gen px fx).2.1 l vs r⟩
theorem Sim.gen {w:World} {φ:Phi} {σ:zG} {h h':Heap} (S:Sim w φ σ h) (fx:∀b o,Fix o→h.get? b=some o→h'.get? b=some o) (kp:∀b o,(ZE φ b∨(H1 w.params).get? b=some o)→h.get? b=some o→h'.get? b=some o):Sim w φ σ h':=
 ⟨fun b o e=>kp b o (.inr e) (S.base b o e),S.len,fun n o e=>by
  obtain ⟨p,hp,R⟩:=S.objs n o e
  have m:=List.mem_of_getElem? hp
  exact ⟨p,hp,R.gen List.prefix_rfl fx (fun o=>kp _ o (.inl ⟨p,m,.inl rfl⟩)) fun o=>kp _ o (.inl ⟨p,m,.inr rfl⟩)⟩,S.apart,S.above⟩
theorem Sim.ext_same {w:World} {φ:Phi} {σ:zG} {h h':Heap} (S:Sim w φ σ h) (k:∀b o,h.get? b=some o→h'.get? b=some o):Sim w φ σ h':=S.gen (fun b o _=>k b o) fun b o _=>k b o
theorem Sim.push {w:World} {φ:Phi} {σ:zG} {h:Heap} (S:Sim w φ σ h) (o:Obj):Sim w φ σ (h.push o):=S.ext_same fun _ _ e=>Heap.get?_push_of_some _ e
theorem base_none {w:World} {h:Heap} (y:YP w h) {b:Addr} (hb:h.get? b=none):(H1 w.params).get? b=none:=by
 rcases e:(H1 w.params).get? b with _ | o
 ·rfl
 ·rw [y b o e] at hb; cases hb
theorem Ext.alloc {X:Addr→Prop} {φ:Phi} {h h':Heap} {p:Nat×Nat} (k:∀b o,h.get? b=some o→h'.get? b=some o) (h1:h.get? p.1=none) (h2:h.get? p.2=none):Ext X φ h (φ++[p]) h':=
 ⟨⟨[p],_root_.rfl⟩,fun b o e _ _=>k b o e,fun b o e=>⟨o,k b o e⟩,fun b q=>by
  rcases XJ.mp q with q | rfl | rfl
  ·exact .inl q
  ·exact .inr h1
  ·exact .inr h2⟩
theorem XY {α:Type} {l:List α} {a b:α} {i:Nat} (h:(l++[a])[i]? =some b):l[i]? =some b∨(i=l.length∧b=a):=by
 rcases Nat.lt_or_ge i l.length with q | q
 ·exact .inl ((List.getElem?_append_left q).symm.trans h)
 ·have e:i=l.length:=by
   have:=(List.getElem?_eq_some_iff.mp h).1
   rw [List.length_append,List.length_singleton] at this
   lia
  subst e
  rw [List.getElem?_concat_length] at h
  exact .inr ⟨rfl,(Option.some.inj h).symm⟩
theorem snoc_old {α:Type} {l:List α} {a b:α} {i:Nat} (h:l[i]? =some b):(l++[a])[i]? =some b:=(List.getElem?_append_left (List.getElem?_eq_some_iff.mp h).1).trans h
theorem Apart.add {φ:Phi} {p:Nat×Nat} (a:Apart φ) (n1:¬ZE φ p.1) (n2:¬ZE φ p.2):Apart (φ++[p]):=by
 have old:∀ {q:Nat×Nat} {i:Nat},φ[i]? =some q→¬ (q.1=p.1∨q.1=p.2∨q.2=p.1∨q.2=p.2):=fun {q i} e z=>by
  have m:=List.mem_of_getElem? e
  rcases z with z | z | z | z
  ·exact n1 ⟨q,m,.inl z.symm⟩
  ·exact n2 ⟨q,m,.inl z.symm⟩
  ·exact n1 ⟨q,m,.inr z.symm⟩
  ·exact n2 ⟨q,m,.inr z.symm⟩
 intro i j q r hq hr e
 rcases XY hq with hq | ⟨hi,eq⟩
 ·rcases XY hr with hr | ⟨hj,er⟩
  ·exact a i j q r hq hr e
  ·exact (old hq (er▸e)).elim
 ·rcases XY hr with hr | ⟨hj,er⟩
  ·refine (old hr (eq▸?_)).elim
   rcases e with e | e | e | e
   ·exact .inl e.symm
   ·exact .inr (.inr (.inl e.symm))
   ·exact .inr (.inl e.symm)
   ·exact .inr (.inr (.inr e.symm))
  ·exact hi.trans hj.symm
noncomputable def Wg (w:World) (φ:Phi) (b:Addr):Prop:=¬ZE φ b∧(H1 w.params).get? b=none
theorem Sim.free {w:World} {φ:Phi} {σ:zG} {h:Heap} (S:Sim w φ σ h) {b:Addr} (e:h.get? b=none):Wg w φ b:=⟨fun q=>(let ⟨_,e',_⟩:=S.obj q; nomatch e.symm.trans e'),base_none S.base e⟩
theorem Sim.add {w:World} {φ:Phi} {σ:zG} {h h':Heap} {p:Nat×Nat} {o:O} (S:Sim w φ σ h) (k:∀b o,h.get? b=some o→h'.get? b=some o) (f1:Wg w φ p.1) (f2:Wg w φ p.2) (R:YR w.params (φ++[p]) h' o p):Sim w (φ++[p]) (σ++[o]) h':=by
 refine ⟨fun b o e=>k b o (S.base b o e),by rw [List.length_append,List.length_append,S.len]; rfl,fun n o' e=>?_,S.apart.add f1.1 f2.1,fun q hq=>?_⟩
 ·rcases XY e with e | ⟨hn,eo⟩
  ·obtain ⟨q,hq,R⟩:=S.objs n o' e
   exact ⟨q,snoc_old hq,R.gen ⟨[p],rfl⟩ (fun b o _=>k b o) (k _) (k _)⟩
  ·exact ⟨p,by rw [hn,← S.len]; exact List.getElem?_concat_length,eo▸R⟩
 ·rcases List.mem_append.mp hq with hq | hq
  ·exact S.above q hq
  ·obtain rfl:=List.mem_singleton.mp hq
   exact ⟨f1.2,f2.2⟩
theorem Sim.alloc {w:World} {φ:Phi} {σ:zG} {h h':Heap} {p:Nat×Nat} {o:O} (S:Sim w φ σ h) (k:∀b o,h.get? b=some o→h'.get? b=some o) (h1:h.get? p.1=none) (h2:h.get? p.2=none) (R:YR w.params (φ++[p]) h' o p):Sim w (φ++[p]) (σ++[o]) h':=S.add k (S.free h1) (S.free h2) R
theorem Sim.room {w:World} {φ:Phi} {σ:zG} {h:Heap} (S:Sim w φ σ h) {n:Nat} {o:O} (e:σ[n]? =some o):n < φ.length:=by rw [S.len]; exact (List.getElem?_eq_some_iff.mp e).1
set_option genInjectivity false in
set_option genSizeOf false in
structure Sx (w:World) (σ:zG) where
 φ:Phi
 s:Shared
 S:Sim w φ σ s.heap
section
variable {w:World} {X Y:Addr→Prop} {A:Around} {α β γ δ:Type} {σ σ' σ'':zG}
structure Le (X:Addr→Prop) (P:Sx w σ) (P':Sx w σ'):Prop where
 x:Ext X P.φ P.s.heap P'.φ P'.s.heap
 m:wK P.s P'.s
theorem Le.rfl {P:Sx w σ}:Le X P P:=⟨.rfl,.rfl⟩
theorem Le.trans {P:Sx w σ} {P':Sx w σ'} {P'':Sx w σ''} (l:Le X P P') (k:Le X P' P''):Le X P P'':=⟨l.x.trans k.x,l.m.trans k.m⟩
theorem Le.up {P:Sx w σ} {P':Sx w σ'} (l:Le Nox P P'):Le X P P':=⟨l.x.mono fun _ h=>h.elim,l.m⟩
noncomputable abbrev Sx.R (P:Sx w σ) (v:V) (x:Value):Prop:=zo w.params P.φ P.s.heap v x
noncomputable abbrev Sx.RL (P:Sx w σ) (v:List V) (x:List Value):Prop:=za w.params P.φ P.s.heap v x
theorem Le.v {P:Sx w σ} {P':Sx w σ'} (l:Le Nox P P') {v:V} {x:Value} (r:P.R v x):P'.R v x:=zo.ext P.S l.x zb _ _ r
noncomputable abbrev Rl (w:World) (β α:Type):=(σ:zG)→Sx w σ→β→α→Prop
noncomputable def RV:Rl w V Value:=fun _ P v x=>P.R v x
noncomputable def RB:Rl w Bool Bool:=fun _ _ b c=>c=b
noncomputable def RS:Rl w (List V) (List Value):=fun _ P v x=>P.RL v x
noncomputable def RU:Rl w Unit Unit:=fun _ _ _ _=>True
noncomputable def Snd (X:Addr→Prop) (A:Around) (m:M β) (t:Sem α) (P:Sx w σ) (R:Rl w β α):Prop:=
 ∀ (k:K β) (r:Res),m k σ=r→r≠none→∀Q:α→Shared→Prop,(∀ (σ':zG) (P':Sx w σ') b a,Le X P P'→R σ' P' b a→k b σ'=r→Q a P'.s)→wpAny (model pw w) A t Q (fun _ _=>False) P.s
variable {P:Sx w σ} {m:M β} {t:Sem α} {R:Rl w β α} {R':Rl w δ γ}
theorem Snd.bind {f:α→Sem γ} {g:β→M δ} (h:Snd X A m t P R) (k:∀ (σ':zG) (P':Sx w σ') b a,Le X P P'→R σ' P' b a→Snd X A (g b) (f a) P' R'):Snd X A (fun k=>m fun b=>g b k) (t >>=f) P R':=
 fun _ _ e hr _ q=>wpAny_bind (h _ _ e hr _ fun σ' P' b a l z e'=>k σ' P' b a l z _ _ e' hr _ fun σ'' P'' d c l' z' e''=>q σ'' P'' d c (l.trans l') z' e'')
theorem Snd.on {f:α→Sem γ} {R':Rl w β γ} (h:Snd X A m t P R) (k:∀ (σ':zG) (P':Sx w σ') b a,Le X P P'→R σ' P' b a→Snd X A (fun k=>k b) (f a) P' R'):Snd X A m (t >>=f) P R':=h.bind (g:=fun b k=>k b) k
theorem Snd.up (h:Snd Nox A m t P R):Snd X A m t P R:=fun _ _ e hr _ q=>h _ _ e hr _ fun _ P' _ _ l z e'=>q _ P' _ _ l.up z e'
theorem Snd.pure {b:β} {a:α} (z:R σ P b a):Snd X A (fun k=>k b) (pure a) P R:=fun _ _ e _ _ q=>wpAny_pure (q σ P b a .rfl z e)
theorem Snd.eq {t':Sem α} (e:t=t') (h:Snd X A m t' P R):Snd X A m t P R:=e▸h
theorem Snd.no (h:∀k,m k σ=none):Snd X A m t P R:=fun k _ e hr=>absurd (e.symm.trans (h k)) hr
theorem Snd.hold {vs:List Value} (h:Snd X A m t P R):Snd X A m (holding vs t) P R:=fun k r e hr Q q=>wpAny_holding (h k r e hr Q q)
theorem Snd.stand {p:Pos} (h:Snd X A m t P R):Snd X A m (PySem.standAt p >>=fun _=>t) P R:=fun k r e hr Q q=>wpAny_bind (wpAny_standAt (h k r e hr Q q))
theorem Snd.rel {vs ks:List Value} (h:Snd X A m t P R):Snd X A m (release vs ks >>=fun _=>t) P R:=fun k r e hr Q q=>wpAny_bind fun Γ p hΓ=>by rw [Sem.wp_release]; exact h k r e hr Q q
theorem Snd.relE {vs ks:List Value} {b:β} {R:Rl w β Unit} (z:R σ P b ()):Snd X A (fun k=>k b) (release vs ks) P R:=fun k r e _ _ q Γ p hΓ=>by rw [Sem.wp_release]; exact q σ P b () .rfl z e
theorem Snd.letGo {b:Expr} {o r:Value} (h:Snd X A m t P R):Snd X A m (letTemporaryGo b o r >>=fun _=>t) P R:=fun k r e hr Q q=>wpAny_bind (wpAny_letTemporaryGo (h k r e hr Q q))
theorem Snd.oper {m:M β} {t:Sem Value} {R:Rl w β Value} {vs:List Value} (h:Snd X A m t P R):Snd X A m (operate vs t) P R:=fun k r e hr Q q Γ p hΓ=>by rw [Sem.wp_operate]; exact h k r e hr Q q Γ p hΓ
theorem Snd.chk {b:Bool} (h:b=true→Snd X A m t P R):Snd X A (chk b m) t P R:=by
 rcases b with _ | _
 ·exact .no fun _=>rfl
 ·exact h rfl
theorem Snd.pb {f:γ→Sem α} {a:γ} (h:Snd X A m (f a) P R):Snd X A m (Pure.pure a >>=f) P R:=fun k r e hr Q q=>wpAny_bind (wpAny_pure (h k r e hr Q q))
theorem Snd.tr {m:M Bool} {t:Sem Bool} {x y:M β} {f:Bool→Sem α} (h:Snd X A m t P RB) (h1:∀ (σ':zG) (P':Sx w σ'),Le X P P'→Snd X A x (f true) P' R) (h2:∀ (σ':zG) (P':Sx w σ'),Le X P P'→Snd X A y (f false) P' R):Snd X A (fun k=>m fun b=>pIf b (x k) (y k)) (t >>=f) P R:=
 h.bind (g:=fun b k=>pIf b (x k) (y k)) fun σ' P' b a l z=>by
  obtain rfl:a=b:=z
  rcases a with _ | _
  ·exact h2 σ' P' l
  ·exact h1 σ' P' l
theorem Snd.fail:Snd X A fail t P R:=.no fun _=>rfl
theorem Snd.when {p:Prop} [Decidable p] (h:p→Snd X A m t P R):Snd X A (when p m) t P R:=fun k r e hr Q q=>by
 unfold Wk.when at e
 by_cases c:p
 ·rw [if_pos c] at e; exact h c k r e hr Q q
 ·rw [if_neg c] at e; exact absurd e.symm hr
theorem Snd.bi {b:Bool} {x y:M β} (h1:b=true→Snd X A x t P R) (h2:b=false→Snd X A y t P R):Snd X A (bi b x y) t P R:=by
 rcases b with _ | _
 ·exact h2 rfl
 ·exact h1 rfl
theorem Snd.sm {o:Option γ} {f:γ→M β} (h:∀x,o=some x→Snd X A (f x) t P R):Snd X A (ya o f) t P R:=by
 rcases o with _ | x
 ·exact .fail
 ·exact h x rfl
theorem Snd.n0 {l:List γ} (h:l=[]→Snd X A m t P R):Snd X A (on0 l m) t P R:=by
 rcases l with _ | ⟨x,r⟩
 ·exact h rfl
 ·exact .fail
theorem Snd.nC {l:List γ} {f:γ→List γ→M β} (h:∀x r,l=x::r→Snd X A (f x r) t P R):Snd X A (onC l f) t P R:=by
 rcases l with _ | ⟨x,r⟩
 ·exact .fail
 ·exact h x r rfl
theorem Snd.n1 {l:List γ} {f:γ→M β} (h:∀x,l=[x]→Snd X A (f x) t P R):Snd X A (on1 l f) t P R:=.nC fun x r e=>.n0 fun e'=>h x (e'▸e)
theorem Snd.n2 {l:List γ} {f:γ→γ→M β} (h:∀x y,l=[x,y]→Snd X A (f x y) t P R):Snd X A (on2 l f) t P R:=.nC fun x r e=>.n1 fun y e'=>h x y (e'▸e)
theorem Snd.int {a:V} {x:Value} {f:Int→M β} (r:P.R a x) (h:∀i t',x=.int i t'→a=.int i→Snd X A (f i) t P R):Snd X A (ZD a f) t P R:=by
 cases a with
 | int i=>obtain ⟨t',e⟩:=r; exact h i t' e rfl
 | _=>exact .fail
theorem Snd.nn {a:V} {x:Value} (r:P.R a x) (h:x=.none→Snd X A m t P R):Snd X A (YL a m) t P R:=by
 cases a with
 | none=>exact h r
 | _=>exact .fail
theorem Snd.o {n:Nat} {p:Nat×Nat} {f:O→M β} (hp:P.φ[n]? =Option.some p) (h:∀o,σ[n]? =Option.some o→YR w.params P.φ P.s.heap o p→Snd X A (f o) t P R):Snd X A (onO n f) t P R:=fun k r e hr Q q=>by
 unfold onO at e
 rcases e0:σ[n]? with _ | o
 ·rw [e0] at e; exact absurd e.symm hr
 ·rw [e0] at e
  obtain ⟨p',hp',R⟩:=P.S.objs n o e0
  exact h o e0 (Option.some.inj (hp'.symm.trans hp)▸R) k r e hr Q q
theorem Snd.rf {a:V} {x:Value} {f:Nat→M β} (r:P.R a x) (h:∀n p,x=.ref p.1→P.φ[n]? =Option.some p→a=.ref n→Snd X A (f n) t P R):Snd X A (onRef a f) t P R:=by
 cases a with
 | ref n=>obtain ⟨p,hp,e⟩:=r; exact h n p e hp rfl
 | _=>exact .fail
theorem Snd.ob {a:V} {x:Value} {f:Nat→O→M β} (r:P.R a x) (h:∀n p o,x=.ref p.1→P.φ[n]? =Option.some p→a=.ref n→σ[n]? =Option.some o→YR w.params P.φ P.s.heap o p→Snd X A (f n o) t P R):Snd X A (Uw a f) t P R:=
 .rf r fun n p e hp ea=>.o hp fun o e0 R=>h n p o e hp ea e0 R
theorem Snd.l {o:O} {f:List V→M β} (h:∀l,o=.list l→Snd X A (f l) t P R):Snd X A (onL o f) t P R:=by
 cases o with
 | list l=>exact h l rfl
 | _=>exact .fail
theorem Snd.d {o:O} {f:List (V×V)→Option Nat→M β} (h:∀l e,o=.dict l e→Snd X A (f l e) t P R):Snd X A (onD o f) t P R:=by
 cases o with
 | dict l e=>exact h l e rfl
 | _=>exact .fail
theorem Snd.i {o:O} {f:Nat→List (Str×V)→M β} (h:∀c fs,o=.inst c fs→Snd X A (f c fs) t P R):Snd X A (onI o f) t P R:=by
 cases o with
 | inst c fs=>exact h c fs rfl
 | _=>exact .fail
theorem Snd.now {b:β} {a:α} (h:∀Q:α→Shared→Prop,(∀tk,Q a {P.s with toks:=tk})→wpAny (model pw w) A t Q (fun _ _=>False) P.s) (z':∀tk,R σ ⟨P.φ,{P.s with toks:=tk},P.S⟩ b a):Snd X A (ret b) t P R:=fun _ _ e _ Q q=>
 h Q fun tk=>q σ ⟨P.φ,{P.s with toks:=tk},P.S⟩ b a ⟨.rfl,rfl,rfl⟩ (z' tk) e
end
section
variable {w:World} {φ:Phi}
theorem za.length {P:Params} {h:Heap}:∀ {l:List V} {vs:List Value},za P φ h l vs→vs.length=l.length
 | [],_,r=>by rw [show _=[] from r]; rfl
 | _::l,_,r=>by obtain ⟨x,xs,e,_,r⟩:=r; subst e; simp [za.length r]
theorem za.append {P:Params} {h:Heap}:∀ {l m:List V} {vs ws:List Value},za P φ h l vs→za P φ h m ws→za P φ h (l++m) (vs++ws)
 | [],_,_,_,r,q=>by rw [show _=[] from r]; exact q
 | _::l,_,_,_,r,q=>by obtain ⟨x,xs,e,r0,r⟩:=r; subst e; exact ⟨x,xs++_,rfl,r0,za.append r q⟩
theorem za.replicate {P:Params} {h:Heap} {v:V} {x:Value} (r:zo P φ h v x):∀n:Nat,za P φ h (List.replicate n v) (List.replicate n x)
 | 0=>rfl
 | n+1=>⟨x,List.replicate n x,by rw [List.replicate_succ],r,za.replicate r n⟩
theorem za.get {P:Params} {h:Heap}:∀ {l:List V} {vs:List Value},za P φ h l vs→∀ {n:Nat} {v:V},l[n]? =some v→∃x,vs[n]? =some x∧zo P φ h v x
 | [],_,_,n,v,e=>by simp at e
 | u::l,_,r,n,v,e=>by
  obtain ⟨x,xs,e',r0,r⟩:=r
  subst e'
  rcases n with _ | n
  ·simp at e; subst e; exact ⟨x,rfl,r0⟩
  ·simp at e; simpa using za.get r e
end
end Wk
end
section
namespace Wk
open Mine (st sm H1 YP pw)
section
variable {w:World} {X:Addr→Prop} {A:Around} {σ:zG} {P:Sx w σ}
noncomputable def Sx.at (P:Sx w σ) (tk:Nat):Sx w σ:=⟨P.φ,{P.s with toks:=tk},P.S⟩
noncomputable def Sx.pu (P:Sx w σ) (o:Obj):Sx w σ:=⟨P.φ,{P.s with heap:=P.s.heap.push o},P.S.push o⟩
theorem Sx.puL {o:Obj}:Le X P (P.pu o):=⟨Ext.push _,rfl,rfl⟩
noncomputable def Sx.nw (P:Sx w σ) {b:O} (o:Obj) (h:YR w.params (P.φ++[(P.s.heap.objs.size,P.s.heap.objs.size)]) (P.s.heap.push o) b (P.s.heap.objs.size,P.s.heap.objs.size)):Sx w (σ++[b]):=
 ⟨P.φ++[(P.s.heap.objs.size,P.s.heap.objs.size)],{P.s with heap:=P.s.heap.push o},P.S.alloc (fun _ _ e=>Heap.get?_push_of_some _ e) (Heap.get?_none_of_le (Nat.le_refl _)) (Heap.get?_none_of_le (Nat.le_refl _)) h⟩
theorem newX (P:Sx w σ) (o:Obj):Ext X P.φ P.s.heap (P.φ++[(P.s.heap.objs.size,P.s.heap.objs.size)]) (P.s.heap.push o):=Ext.alloc (fun _ _ e=>Heap.get?_push_of_some _ e) (Heap.get?_none_of_le (Nat.le_refl _)) (Heap.get?_none_of_le (Nat.le_refl _))
theorem Snd.nw {b:O} {t:Sem Value} (o:Obj) (h:YR w.params (P.φ++[(P.s.heap.objs.size,P.s.heap.objs.size)]) (P.s.heap.push o) b (P.s.heap.objs.size,P.s.heap.objs.size)) (g:∀Q:Value→Shared→Prop,Q (.ref P.s.heap.objs.size) {P.s with heap:=P.s.heap.push o}→wpAny (model pw w) A t Q (fun _ _=>False) P.s):Snd X A (zU b) t P RV:=fun _ _ e _ Q q=>
 g Q (q _ (P.nw o h) (.ref σ.length) _ ⟨newX P o,rfl,rfl⟩ ⟨(P.s.heap.objs.size,P.s.heap.objs.size),by rw [← P.S.len]; exact List.getElem?_concat_length,rfl⟩ e)
noncomputable def lObj (vs:List Value):Obj:={cls:=.type "list",data:=.seq vs.toArray}
noncomputable def tObj (vs:List Value):Obj:={cls:=.type "tuple",data:=.seq vs.toArray}
theorem Snd.newL {l:List V} {vs:List Value} {t:Sem Value} (r:P.RL l vs) (g:∀Q:Value→Shared→Prop,Q (.ref P.s.heap.objs.size) {P.s with heap:=P.s.heap.push (lObj vs)}→wpAny (model pw w) A t Q (fun _ _=>False) P.s):Snd X A (zU (.list l)) t P RV:=
 .nw (lObj vs) ⟨rfl,vs,⟨0,Heap.get?_push_size _ rfl⟩,za.ext P.S (newX (X:=Nox) P _) zb _ _ r⟩ g
theorem Snd.newT {l:List V} {vs:List Value} {t:Sem Value} (r:P.RL l vs) (g:∀Q:Value→Shared→Prop,Q (.ref P.s.heap.objs.size) {P.s with heap:=P.s.heap.push (tObj vs)}→wpAny (model pw w) A t Q (fun _ _=>False) P.s):Snd X A (ret (.tup l)) t P RV:=fun _ _ e _ Q q=>
 g Q (q _ (P.pu (tObj vs)) (.tup l) _ Sx.puL ⟨_,vs,rfl,⟨_,Heap.get?_push_size _ rfl,rfl,0,rfl⟩,za.ext P.S (Ext.push (X:=Nox) _) zb _ _ r⟩ e)
theorem Snd.v {v:V} {x:Value} {t:Sem Value} (r:P.R v x) (h:∀Q:Value→Shared→Prop,(∀tk,Q x {P.s with toks:=tk})→wpAny (model pw w) A t Q (fun _ _=>False) P.s):Snd X A (ret v) t P RV:=.now h fun _=>r
theorem Snd.vi {i:Int} {tk:Nat} {t:Sem Value} (h:∀Q:Value→Shared→Prop,(∀t',Q (.int i tk) {P.s with toks:=t'})→wpAny (model pw w) A t Q (fun _ _=>False) P.s):Snd X A (ret (.int i)) t P RV:=.v ⟨tk,rfl⟩ h
theorem Snd.vb {b:Bool} {t:Sem Value} (h:∀Q:Value→Shared→Prop,(∀t',Q (.bool b) {P.s with toks:=t'})→wpAny (model pw w) A t Q (fun _ _=>False) P.s):Snd X A (ret (.bool b)) t P RV:=.v rfl h
theorem natAbs_bits {x:Int} (h:x.natAbs < 2^60):Builtin.Int.intBits x≤64:=by
 refine intBits_le_64 ?_ ?_<;>lia
theorem sndBinI {op:Operator} {a b:Int} {t u:Nat}:Snd X A (binI op a b) (binaryOp op (.int a t) (.int b u)) P RV:=by
 cases op with
 | Add=>exact .vi fun Q q=>add_int (q _)
 | Sub=>exact .vi fun Q q=>sub_int (q _)
 | Mult=>exact .when fun c=>.vi fun Q q=>mul_int (q _) (.of_left (natAbs_bits c.1))
 | Mod=>exact .when fun c=>.vi fun Q q=>mod_int' c (q _)
 | FloorDiv=>exact .when fun c=>.vi fun Q q=>floordiv_int c.1 (q _) (.inl (PyProof.noPylong_small c.2))
 | BitAnd=>exact .vi fun Q q=>and_int (q _)
 | BitOr=>exact .vi fun Q q=>or_int (q _)
 | RShift=>exact .when fun c=>.vi fun Q q=>rshift_int c (q _)
 | _=>exact .fail
theorem Snd.add {op:Operator} {m:M V} {x y:Value} (h:Snd X A m (binaryOp .Add x y) P RV):Snd X A (onAdd op m) (binaryOp op x y) P RV:=by
 cases op with
 | Add=>exact h
 | _=>exact .fail
theorem Snd.mul {op:Operator} {m:M V} {x y:Value} (h:Snd X A m (binaryOp .Mult x y) P RV):Snd X A (onMul op m) (binaryOp op x y) P RV:=by
 cases op with
 | Mult=>exact h
 | _=>exact .fail
theorem rep_flat (z:Value):∀n:Nat,(List.replicate n [z]).flatten=List.replicate n z
 | 0=>rfl
 | n+1=>by rw [List.replicate_succ,List.flatten_cons,rep_flat z n,List.replicate_succ]; rfl
theorem nil_of {l:List V} {vs:List Value} (r:P.RL l vs) (h:vs=[]):l=[]:=List.length_eq_zero_iff.mp (by rw [← za.length r,h]; rfl)
theorem sndAddT {l m:List V} {a b:Addr} {vs ws:List Value} (ha:IsTup P.s.heap a vs.toArray) (hb:IsTup P.s.heap b ws.toArray) (ra:P.RL l vs) (rb:P.RL m ws) (hc:l.length+m.length < 1000000):Snd X A (ret (.tup (l++m))) (binaryOp .Add (.ref a) (.ref b)) P RV:=by
 have l1:=za.length ra
 have l2:=za.length rb
 obtain ⟨⟨cls,dd,data,sl⟩,ho,hc',n,hd⟩:=id ha
 obtain ⟨⟨cls2,dd2,data2,sl2⟩,ho2,hc2,n2,hd2⟩:=id hb
 simp only at hc' hd hc2 hd2
 subst hc' hd hc2 hd2
 by_cases hv:vs=[]
 ·obtain rfl:=nil_of ra hv
  exact .v (show P.R (.tup _) (.ref b) from ⟨b,ws,rfl,hb,rb⟩) fun Q q=>concat_meets ⟨_,ho,rfl⟩ ⟨_,ho2,rfl⟩ noFill_tuple_add seq_tuple_add PySem.F.slot_tuple_add PySem.F.entry_tuple_add (PySem.F.args_tuple_add_2 _ _) (tuple_addW0 a b vs.toArray ws.toArray n n2 dd dd2 sl sl2 (by simp [hv])) ⟨ho,ho2,q P.s.toks⟩
 by_cases hw:ws=[]
 ·obtain rfl:=nil_of rb hw
  rw [List.append_nil]
  exact .v (show P.R (.tup _) (.ref a) from ⟨a,vs,rfl,ha,ra⟩) fun Q q=>concat_meets ⟨_,ho,rfl⟩ ⟨_,ho2,rfl⟩ noFill_tuple_add seq_tuple_add PySem.F.slot_tuple_add PySem.F.entry_tuple_add (PySem.F.args_tuple_add_2 _ _) (tuple_addW1 a b vs.toArray ws.toArray n n2 dd dd2 sl sl2 (by simpa using hv) (by simp [hw])) ⟨ho,ho2,q P.s.toks⟩
 refine .newT (za.append ra rb) fun Q q=>concat_meets ⟨_,ho,rfl⟩ ⟨_,ho2,rfl⟩ noFill_tuple_add seq_tuple_add PySem.F.slot_tuple_add PySem.F.entry_tuple_add (PySem.F.args_tuple_add_2 _ _) (tuple_addW2 a b vs.toArray ws.toArray n n2 dd dd2 sl sl2 (by simpa using hv) (by simpa using hw) (by rw [List.size_toArray,List.size_toArray,l1,l2]; simp only [sizeLine]; lia)) ⟨ho,ho2,?_⟩
 rw [List.append_toArray]
 exact q
theorem sndBin {op:Operator} {a b:V} {x y:Value} (ra:P.R a x) (rb:P.R b y):Snd X A (zT op a b) (binaryOp op x y) P RV:=by
 cases a with
 | int i=>
  obtain ⟨t,rfl⟩:=ra
  exact .int rb fun j u e _=>e▸sndBinI
 | tup l=>
  obtain ⟨a,vs,rfl,ha,ra⟩:=ra
  cases b with
  | tup m=>
   obtain ⟨b,ws,rfl,hb,rb⟩:=rb
   exact .add (.when fun c=>sndAddT ha hb ra rb c)
  | _=>exact .fail
 | ref m=>
  obtain ⟨p,hp,rfl⟩:=ra
  cases b with
  | ref n=>
   obtain ⟨p',hp',rfl⟩:=rb
   refine .add (.o hp fun o e1 R1=>.l fun l e=>?_)
   subst e
   refine .o hp' fun o e2 R2=>.l fun l' e=>?_
   subst e
   obtain ⟨-,vs,⟨n1,hv⟩,ra⟩:=R1
   obtain ⟨-,ws,⟨n2,hw⟩,rb⟩:=R2
   refine .when fun c=>.newL (za.append ra rb) fun Q q=>concat_meets ⟨_,hv,rfl⟩ ⟨_,hw,rfl⟩ noFill_list_add seq_list_add PySem.F.slot_list_add PySem.F.entry_list_add (PySem.F.args_list_add_2 _ _) (list_addW p.1 p'.1 vs.toArray ws.toArray n1 n2 none none #[] #[] (by rw [List.size_toArray,List.size_toArray,za.length ra,za.length rb]; simp only [sizeLine]; lia)) ⟨hv,hw,?_⟩
   rw [List.append_toArray]
   exact q
  | int y=>
   obtain ⟨u,rfl⟩:=rb
   refine .mul (.o hp fun o e1 R1=>.l fun l e=>.n1 fun z e'=>.when fun c=>?_)
   subst e e'
   obtain ⟨-,vs,⟨k,hv⟩,z',zs,rfl,rz,rzs⟩:=R1
   obtain rfl:zs=[]:=rzs
   have hz:[z'].toArray.size=1:=rfl
   refine .newL (za.replicate rz _) fun Q q=>wpAny_binaryOp_repeat_ref (T:="list") (U:="int") (by decide) ⟨_,hv,rfl⟩ (fun s'=>typeIs_int s' _ u) noFill_list_mul PySem.F.fills_int_mul PySem.F.slot_int_rmul repeat_list PySem.F.slot_int_index.lookup
    (call_meets PySem.F.slot_int_rmul (typeIs_int P.s _ u) PySem.F.entry_int_rmul (PySem.F.args_int_rmul_2 _ _) (lm_int_rmul_list_any _ u p.1 [z'].toArray k none #[])
     ⟨hv,rfl,⟨_,hv,rfl⟩,call_meets PySem.F.slot_list_mul ⟨_,hv,rfl⟩ PySem.F.entry_list_mul (PySem.F.args_list_mul_2 _ _)
      (lm_list_mul_any p.1 [z'].toArray k none #[] _ u (by simp [Builtin.List.listFitsIndex]; lia) (by rw [hz]; lia) (by rw [hz]; simp [Builtin.List.listTooLong,sizeLine]; try lia))
      ⟨hv,?_⟩⟩)
   rw [listMul_foldl_if]
   show Q _ {P.s with heap:=P.s.heap.push {cls:=.type "list",data:=.seq ((List.replicate y.toNat [z']).flatten).toArray}}
   rw [rep_flat]
   exact q
  | _=>exact .fail
 | _=>exact .fail
end
end Wk
end
section
namespace Wk
open Mine (st sm H1 YP pw)
mutual
noncomputable def drawsV:V→Nat
 | .tup l=>Wc l+1
 | _=>1
noncomputable def Wc:List V→Nat
 | []=>0
 | v::r=>drawsV v+Wc r
end
mutual
noncomputable def toD:V→PyData
 | .bool b=>.bool b
 | .int i=>.int i
 | .str s=>.str s
 | .tup l=>.tuple (XV l)
 | _=>.none
noncomputable def XV:List V→List PyData
 | []=>[]
 | v::r=>toD v::XV r
end
theorem zW {a b:Bool} (h:(a&&b)=true):a=true∧b=true:=Bool.and_eq_true_iff.mp h
theorem no {p:Prop} (h:false=true):p:=nomatch h
theorem nN {α:Type} {a:α} {p:Prop} (h:none=some a):p:=nomatch h
theorem zo.reads {P:Params} {φ:Phi} {h:Heap}:(∀v,yW v=true→∀x,zo P φ h v x→∃as,Reads h x (toD v) as)∧(∀l,jK l=true→∀x,za P φ h l x→∃as,ReadsAll h x (XV l) as)∧∀_:List (V×V),True:=
 V.ind (fun _ x r=>by rw [show x=Value.none from r]; exact ⟨_,.none⟩) (fun _ f=>no f) (fun i _ x r=>by obtain ⟨t,rfl⟩:=r; exact ⟨_,.int _ _⟩) (fun s _ x r=>by obtain ⟨t,rfl⟩:=r; exact ⟨_,.str _ _⟩)
  (fun l g f x r=>by
   obtain ⟨a,vs,rfl,⟨o,ho,hc,n,hd⟩,r⟩:=r
   obtain ⟨as,r⟩:=g f vs r
   exact ⟨as,.tuple ho hc hd r⟩)
  (fun _ f=>no f) (fun _ _ f=>no f) (fun _ f=>no f) (fun _ x r=>by rw [show x=[] from r]; exact ⟨_,.nil⟩)
  (fun v l g1 g2 f x r=>by
   obtain ⟨y,ys,rfl,r1,r2⟩:=r
   obtain ⟨as,r1⟩:=g1 (zW f).1 _ r1
   obtain ⟨bs,r2⟩:=g2 (zW f).2 _ r2
   exact ⟨_,.cons r1 r2⟩) trivial fun _ _ _ _ _ _=>trivial
theorem jh:(∀v,yW v=true→(toD v).canLay0=true)∧(∀l,jK l=true→PyData.canLayAll0 (XV l)=true)∧∀_:List (V×V),True:=
 V.ind (fun _=>rfl) (fun _=>no) (fun _ _=>rfl) (fun _ f=>f) (fun _ g f=>g f) (fun _=>no) (fun _ _=>no) (fun _=>no) (fun _=>rfl) (fun _ _ g1 g2 f=>Bool.and_eq_true_iff.mpr ⟨g1 (zW f).1,g2 (zW f).2⟩) trivial fun _ _ _ _ _ _=>trivial
theorem depthD:(∀v,(toD v).depth=Yu v)∧(∀l,PyData.depthAll (XV l)=Js l)∧∀_:List (V×V),True:=
 V.ind rfl (fun _=>rfl) (fun _=>rfl) (fun _=>rfl) (fun l g=>congrArg (·+1) g) (fun _=>rfl) (fun _ _=>rfl) (fun _=>rfl) rfl (fun v l g1 g2=>congr (congrArg max g1) g2) trivial fun _ _ _ _ _ _=>trivial
theorem eqI {a b:V}:eqV a b=true↔a=b:=by
 cases a with
 | int x=>cases b with
  | int y=>exact decide_eq_true_iff.trans ⟨congrArg _,V.int.inj⟩
  | _=>exact ⟨no,nofun⟩
 | _=>exact @decide_eq_true_iff _ (Classical.propDecidable _)
theorem jw {a b:V} (f:yW a=true):eqV a b=true↔a=b:=eqI
theorem WG {i j:Int}:eqV (.int i) (.int j)=decide (i=j):=rfl
theorem eqv_iff:(∀a,yW a=true→∀b,yW b=true→(PyData.eqv (toD a) (toD b)=true↔a=b))∧(∀a,jK a=true→∀b,jK b=true→(PyData.eqvAll (XV a) (XV b)=true↔a=b))∧∀_:List (V×V),True:=
 V.ind (fun _ b g=>by cases b<;>first | exact no g | exact ⟨fun _=>rfl,fun _=>rfl⟩ | exact ⟨no,nofun⟩) (fun _ f=>no f)
  (fun i _ b g=>by cases b<;>first | exact no g | exact decide_eq_true_iff.trans ⟨congrArg _,fun e=>V.int.inj e⟩ | exact ⟨no,nofun⟩)
  (fun i _ b g=>by cases b<;>first | exact no g | exact beq_iff_eq.trans ⟨congrArg _,fun e=>V.str.inj e⟩ | exact ⟨no,nofun⟩)
  (fun l h f b g=>by cases b<;>first | exact no g | exact (h f _ g).trans ⟨congrArg _,fun e=>V.tup.inj e⟩ | exact ⟨no,nofun⟩)
  (fun _ f=>no f) (fun _ _ f=>no f) (fun _ f=>no f) (fun _ b g=>by cases b<;>first | exact ⟨fun _=>rfl,fun _=>rfl⟩ | exact ⟨no,nofun⟩)
  (fun v l g1 g2 f b g=>by
   cases b with
   | nil=>exact ⟨no,nofun⟩
   | cons y m=>
    refine Bool.and_eq_true_iff.trans ⟨fun h=>?_,fun e=>?_⟩
    ·rw [(g1 (zW f).1 y (zW g).1).mp h.1,(g2 (zW f).2 m (zW g).2).mp h.2]
    ·injection e with e1 e2
     exact ⟨(g1 (zW f).1 y (zW g).1).mpr e1,(g2 (zW f).2 m (zW g).2).mpr e2⟩) trivial fun _ _ _ _ _ _=>trivial
theorem eqv' {a b:V} (f:yW a=true) (g:yW b=true):PyData.eqv (toD a) (toD b)=eqV a b:=Bool.eq_iff_iff.mpr ((eqv_iff.1 a f b g).trans (jw f).symm)
theorem eqvL {a b:List V} (f:jK a=true) (g:jK b=true):PyData.eqvAll (XV a) (XV b)=eqVL a b:=Bool.eq_iff_iff.mpr ((eqv_iff.2.1 a f b g).trans (@decide_eq_true_iff _ (Classical.propDecidable _)).symm)
theorem kB {v:V} (h:jE v=true):(∃i,v=.int i)∨(∃i,v=.str i)∨∃l,v=.tup l∧yn l=true:=by
 cases v<;>first | exact no h | exact .inl ⟨_,rfl⟩ | exact .inr (.inl ⟨_,rfl⟩) | exact .inr (.inr ⟨_,rfl,h⟩)
theorem toD_inj:(∀a,jE a=true→∀b,jE b=true→toD a=toD b→a=b)∧(∀a,yn a=true→∀b,yn b=true→XV a=XV b→a=b)∧∀_:List (V×V),True:=
 V.ind (fun f=>no f) (fun _ f=>no f) (fun i _ b g e=>by rcases kB g with ⟨_,rfl⟩ | ⟨_,rfl⟩ | ⟨_,rfl,_⟩<;>first | (cases e; done) | (cases e; rfl))
  (fun i _ b g e=>by rcases kB g with ⟨_,rfl⟩ | ⟨_,rfl⟩ | ⟨_,rfl,_⟩<;>first | (cases e; done) | (cases e; rfl))
  (fun l h f b g e=>by rcases kB g with ⟨_,rfl⟩ | ⟨_,rfl⟩ | ⟨_,rfl,k⟩<;>first | (cases e; done) | (injection e with e; rw [h f _ k e]))
  (fun _ f=>no f) (fun _ _ f=>no f) (fun _ f=>no f) (fun _ b _ e=>by cases b<;>first | rfl | cases e)
  (fun v l g1 g2 f b g e=>by
   cases b with
   | nil=>cases e
   | cons y m=>
    injection e with e1 e2
    rw [g1 (zW f).1 y (zW g).1 e1,g2 (zW f).2 m (zW g).2 e2]) trivial fun _ _ _ _ _ _=>trivial
structure KeyV (v:V):Prop where
 k:jE v=true
 f:yW v=true
 d:Yu v≤7
noncomputable def RepK (P:Params) (h:Heap) (v:V) (x:Value):Prop:=∃φ,zo P φ h v x
theorem RepK.inj {P:Params} {h:Heap} {x y:V} {v:Value} (a:KeyV x) (b:KeyV y) (r:RepK P h x v) (r':RepK P h y v):x=y:=by
 obtain ⟨_,r⟩:=r
 obtain ⟨_,r'⟩:=r'
 obtain ⟨_,r⟩:=zo.reads.1 x a.f v r
 obtain ⟨_,r'⟩:=zo.reads.1 y b.f v r'
 exact toD_inj.1 x a.k y b.k (r.unique _ _ r').1
section
variable {prog:Program} {w:World} {φ:Phi}
noncomputable def HashN (prog:Program) (w:World) (φ:Phi) (n:Nat):Prop:=∀ {A:Around} {E:Value→Shared→Prop} {s:Shared} {x:V} {v:Value} {Q:Int→Shared→Prop},jE x=true→Yu x≤n→A.units+n < cLine→zo w.params φ s.heap x v→
  Q (Wo w.params x) {s with toks:=s.toks+drawsV x}→wpAny (model prog w) A (pyHash v) Q E s
noncomputable def QuietN (prog:Program) (w:World) (φ:Phi) (n:Nat):Prop:=∀ {A:Around} {E:Value→Shared→Prop} {s:Shared} {x:V} {v:Value} {Q:Bool→Shared→Prop},jE x=true→Yu x≤n→zo w.params φ s.heap x v→Q true s→
  wpAny (model prog w) A (eqIsQuiet n v) Q E s
theorem hash_at (n:Nat) (ih:∀m,n=m+1→HashN prog w φ m):HashN prog w φ n:=fun {A E s x v Q} k hn hu r h=>by
 rcases kB k with ⟨i,rfl⟩ | ⟨i,rfl⟩ | ⟨l,rfl,kl⟩
 ·obtain ⟨t,rfl⟩:=r; exact wpAny_pyHash_int h
 ·obtain ⟨t,rfl⟩:=r; exact wpAny_pyHash_str h
 cases n with
 | zero=>exact absurd hn (Nat.not_succ_le_zero _)
 | succ n=>
  obtain ⟨a,vs,rfl,ht,hi⟩:=r
  obtain ⟨o,ho,hc,kk,hd⟩:=id ht
  have hT:s.TypeIs (.ref a) "tuple":=⟨o,ho,hc⟩
  unfold pyHash
  first | unfold pyHashByItsType | skip
  first | refine wpAny_bind (wpAny_cRoomFor_or (.inr (by lia)) ?_) | skip
  refine wpAny_bind (wpAny_specialOf hT PySem.F.slot_tuple_hash.lookup ?_)
  show wpAny _ _ (if (some (Value.builtin "tuple.__hash__")==some Value.none)=true then _ else _) Q E s
  rw [if_neg (by rw [beq_builtin_none]; exact Bool.false_ne_true)]
  refine wpAny_bind (wpAny_specialOf hT PySem.F.slot_tuple_hash.lookup ?_)
  show wpAny _ _ (callSpecialIfBoundUnlessNone? (.ref a) "__hash__" _ >>=_) Q E s
  refine wpAny_bind (wpAny_callSpecialIfBoundUnlessNone?_slot hT PySem.F.slot_tuple_hash (wpAny_call_entry PySem.F.slot_tuple_hash hT PySem.F.entry_tuple_hash ?_ (PySem.F.args_tuple_hash_1 _)))
  show wpAny _ _ (Builtin.Tuple.tupleItemsOf (.ref a) >>=_) _ _ s
  refine wpAny_bind (wpAny_tupleItemsOf ho hd ?_)
  refine wpAny_bind ?_
  rw [← Array.forIn_toList]
  refine wpAny_forIn_list _
   (fun rest (b:Array Int) s'=>X2_6 (fun left _=>za w.params φ s.heap left rest) (fun left _=>yn left=true) (fun left _=>Js left≤n) (fun left _=>b.toList++Jx w.params left=Jx w.params l) (fun left (k:Nat)=>s'={s with toks:=s.toks+k}) (fun left k=>k+Wc left=Wc l))
   _ ?_ ?_ _ _ ⟨l,0,hi,kl,Nat.le_of_succ_le_succ hn,rfl,rfl,Nat.zero_add _⟩
  ·rintro y rest b s' ⟨left,k,hl,kl,hdep,hb,rfl,hk⟩
   rcases left with _ | ⟨z,left⟩
   ·cases (show _=[] from hl)
   ·obtain ⟨y',ys,e,r1,r2⟩:=hl
    injection e with e1 e2
    subst e1 e2
    refine wpAny_bind (ih n rfl (s:={s with toks:=s.toks+k}) (zW kl).1 (Nat.le_trans (Nat.le_max_left _ _) hdep) (show A.units+1+n < cLine by lia) r1 ?_)
    refine wpAny_bind (wpAny_pure (wpAny_pure ⟨left,k+drawsV z,r2,(zW kl).2,Nat.le_trans (Nat.le_max_right _ _) hdep,?_,?_,?_⟩))
    ·rw [← hb,Array.toList_push,List.append_assoc]; rfl
    ·rw [Nat.add_assoc]
    ·rw [← hk,Nat.add_assoc]; rfl
  ·rintro b s' ⟨left,k,hl,kl,hdep,hb,rfl,hk⟩
   cases left with
   | cons z left=>obtain ⟨_,_,e,_⟩:=hl; cases e
   | nil=>
   rw [show Jx w.params []=[] from rfl,List.append_nil] at hb
   obtain rfl:k=Wc l:=hk
   show wpAny _ _ (retInt (Builtin.Tuple.tupleHashOf b.toList)) _ _ _
   rw [hb]
   refine wpAny_ret_mkInt ?_
   have h:Q (reduceHash (Builtin.Tuple.tupleHashOf (Jx w.params l))) {s with toks:=s.toks+(Wc l+1)}:=h
   show wpAny _ _ (if (decide (-(2:Int)^63≤Builtin.Tuple.tupleHashOf (Jx w.params l))&&decide (Builtin.Tuple.tupleHashOf (Jx w.params l) < 2^63))=true then _ else _) Q E _
   unfold reduceHash at h
   by_cases hr:(decide (-(2:Int)^63≤Builtin.Tuple.tupleHashOf (Jx w.params l))&&decide (Builtin.Tuple.tupleHashOf (Jx w.params l) < 2^63))=true
   ·rw [if_pos hr] at h ⊢
    exact wpAny_pure h
   ·rw [if_neg hr] at h ⊢
    exact wpAny_bind (wpAny_rule (wpAny_pure h))
theorem hash_rep:∀n:Nat,HashN prog w φ n:=fun n=>by
 induction n with
 | zero=>exact hash_at 0 nofun
 | succ m ih=>exact hash_at (m+1) fun k e=>by cases e; exact @ih
theorem quiet_at (n:Nat) (ih:∀m,n=m+1→QuietN prog w φ m):QuietN prog w φ n:=fun {A E s x v Q} k hn r h=>by
 rcases kB k with ⟨i,rfl⟩ | ⟨i,rfl⟩ | ⟨l,rfl,kl⟩
 ·obtain ⟨t,rfl⟩:=r; cases n<;>exact wpAny_pure h
 ·obtain ⟨t,rfl⟩:=r; cases n<;>exact wpAny_pure h
 cases n with
 | zero=>exact absurd hn (Nat.not_succ_le_zero _)
 | succ n=>
  obtain ⟨a,vs,rfl,ht,hi⟩:=r
  obtain ⟨o,ho,hc,kk,hd⟩:=id ht
  have hT:s.TypeIs (.ref a) "tuple":=⟨o,ho,hc⟩
  unfold eqIsQuiet
  refine wpAny_bind (wpAny_specialOf hT PySem.F.slot_tuple_eq.lookup ?_)
  show wpAny _ _ (isInstance (.ref a) (.type "tuple") >>=_) _ _ s
  refine wpAny_bind (wpAny_isInstance hT isSubtype_tuple_tuple ?_)
  simp only [Bool.not_true,Bool.false_eq_true,if_false]
  refine wpAny_bind (wpAny_seqItems ho hd ?_)
  refine wpAny_bind ?_
  show wpAny _ _ (forIn vs.toArray _ _) _ _ s
  rw [← Array.forIn_toList]
  refine wpAny_forIn_list _ (fun rest r s'=>r.1=none∧s'=s∧X1_3 (fun left=>yn left=true) (fun left=>Js left≤n) (fun left=>za w.params φ s.heap left rest)) _ ?_ ?_ _ _ ⟨rfl,rfl,l,kl,Nat.le_of_succ_le_succ hn,hi⟩
  ·rintro v rest r s' ⟨hr,rfl,left,kl,hdep,hl⟩
   cases left with
   | nil=>cases (show _=[] from hl)
   | cons z left=>
    obtain ⟨y',ys,e,r1,r2⟩:=hl
    injection e with e1 e2
    subst e1 e2
    refine wpAny_bind (ih n rfl (zW kl).1 (Nat.le_trans (Nat.le_max_left _ _) hdep) r1 ?_)
    simp only [Bool.not_true,Bool.false_eq_true,if_false]
    exact wpAny_pure ⟨rfl,rfl,left,(zW kl).2,Nat.le_trans (Nat.le_max_right _ _) hdep,r2⟩
  ·rintro ⟨r1,r2⟩ s' ⟨hr,rfl,_⟩
   simp only at hr
   subst hr
   exact wpAny_pure h
theorem quiet_rep:∀n:Nat,QuietN prog w φ n:=fun n=>by
 induction n with
 | zero=>exact quiet_at 0 nofun
 | succ m ih=>exact quiet_at (m+1) fun k e=>by cases e; exact @ih
open Classical in
noncomputable def tupKey (prog:Program) (w:World):HeapKind prog w V where
 is:=fun h k a=>RepK w.params h k (.ref a)∧KeyV k
 hash:=Wo w.params
 draws:=drawsV
 room:=fun A=>A.units+16 < cLine
 inj:=fun x y=>RepK.inj x.2 y.2 x.1 y.1
 keeps:=fun {h h' k a d o es ep} x ho hd hs=>⟨let ⟨φ,r⟩:=x.1; ⟨φ,(zo.gen List.prefix_rfl fun b o' f e=>(hs.2 b fun q=>by
  subst q
  obtain rfl:=Option.some.inj (e.symm.trans ho)
  rcases f with ⟨-,_,_,z⟩ | ⟨-,_,z⟩<;>(rw [hd] at z; cases z)).trans e).1 _ _ r⟩,x.2⟩
 pyHash:=fun {A} {_ _ _ _ _} hu hk h=>hk.1.elim fun φ r=>hash_rep 7 hk.2.k hk.2.d (by have:A.units+16 < cLine:=hu; lia) r h
 eqBool:=fun {A E s x y a b Q} hu hx hy h=>by
  obtain ⟨⟨_,rx⟩,kx⟩:=hx
  obtain ⟨⟨_,ry⟩,ky⟩:=hy
  obtain ⟨as,ra⟩:=zo.reads.1 _ kx.f _ rx
  obtain ⟨bs,rb⟩:=zo.reads.1 _ ky.f _ ry
  refine PySem.SeqAt.eqBoolOverData prog w A E s _ _ (toD x) (toD y) as bs Q ra rb (jh.1 _ kx.f) (jh.1 _ ky.f) ?_ ?_
  ·have:A.units+16 < cLine:=hu
   have h1:=depthD.1 x
   have:=Nat.min_le_left (toD x).depth (toD y).depth
   have:=kx.d
   lia
  ·rw [eqv' kx.f ky.f]
   have e:eqV x y=decide (x=y):=Bool.eq_iff_iff.mpr ((jw kx.f).trans decide_eq_true_iff.symm)
   rw [e]; exact h
 quiet:=fun hk h=>hk.1.elim fun φ r=>quiet_rep 8 hk.2.k (Nat.le_succ_of_le hk.2.d) r h
end
end Wk
end
section
namespace Wk
open Mine (st sm H1 YP pw)
noncomputable def jb (x:V) (l:List (V×V)):Option Nat:=l.findIdx? fun e=>eqV e.1 x
theorem fitK_key {x:V} (h:fitK x=true):KeyV x:=⟨(zW (zW h).1).1,(zW (zW h).1).2,of_decide_eq_true (zW h).2⟩
theorem jD.fit {l:List (V×V)} (d:jD l) {e:V×V} (h:e∈l):KeyV e.1:=by
 obtain ⟨-,c,q⟩:=d
 exact fitK_key (q e h).1
theorem Jg {x:V} {l:List (V×V)} (h:yP x l=true):KeyV x:=fitK_key (zW h).1
theorem Jh {x:V} {l:List (V×V)} (h:yP x l=true) {e:V×V} (he:e∈l):JW e.1=JW x:=by
 simp only [yP,Bool.and_eq_true,List.all_eq_true,beq_iff_eq] at h
 exact h.2 e he
theorem idxD_none {x:V} {l:List (V×V)} (f:∀e∈l,yW e.1=true) (h:x∉l.map (·.1)):jb x l=none:=by
 rw [jb,List.findIdx?_eq_none_iff]
 intro e he
 cases q:eqV e.1 x with
 | false=>rfl
 | true=>exact absurd (List.mem_map.mpr ⟨e,he,(jw (f e he)).mp q⟩) h
theorem ww {x:V}:∀ {l:List (V×V)} {j:Nat} {v:V},(∀e∈l,yW e.1=true)→(l.map (·.1)).Nodup→l[j]? =some (x,v)→jb x l=some j
 | [],j,v,_,_,h=>by simp at h
 | e::l,j,v,f,nd,h=>by
  rw [jb,List.findIdx?_cons]
  cases j with
  | zero=>
   simp at h
   subst h
   rw [show eqV (x,v).1 x=true from (jw (f _ (.head _))).mpr rfl]
   rfl
  | succ j=>
   simp only [List.getElem?_cons_succ] at h
   rw [List.map_cons,List.nodup_cons] at nd
   have hne:¬e.1=x:=fun q=>nd.1 (List.mem_map.mpr ⟨_,List.mem_of_getElem? h,q.symm⟩)
   have:eqV e.1 x=false:=by
    cases q:eqV e.1 x with
    | false=>rfl
    | true=>exact absurd ((jw (f _ (.head _))).mp q) hne
   rw [this]
   have ih:=ww (fun e he=>f e (.tail _ he)) nd.2 h
   rw [jb] at ih
   rw [ih]
   rfl
theorem findIdx?_toList' {α:Type} (es:Array α) (p:α→Bool):es.findIdx? p=es.toList.findIdx? p:=by obtain ⟨l⟩:=es; simp
section
variable {prog:Program} {w:World} {φ:Phi}
theorem Xn {h:Heap}:∀ {l:List (V×V)} {es:List DictEntry},(∀e∈l,JW e.1=1)→zy w.params φ h l es→
  (∀e∈es,∃k,(intKind prog w).is k e.key=true∧e.hash=(intKind prog w).hash k)∧∀i:Int,es.findIdx? (fun e=>(intKind prog w).is i e.key)=jb (.int i) l
 | [],es,_,r=>by rw [show es=[] from r]; exact ⟨fun _ h=>(by cases h),fun _=>rfl⟩
 | (k,v)::l,es,c,r=>by
  obtain ⟨e,xs,rfl,r0,r1,-,r3⟩:=r
  have c0:=c _ (.head _)
  obtain ⟨a,b⟩:=Xn (fun e h=>c e (.tail _ h)) r3
  cases k with
  | int j=>
   obtain ⟨t,rk⟩:=r1
   refine ⟨fun q hq=>?_,fun i=>?_⟩
   ·rcases List.mem_cons.mp hq with rfl | hq
    ·exact ⟨j,by rw [rk]; simp [intKind,Value.isInt],r0⟩
    ·exact a q hq
   ·have e1:(intKind prog w).is i e.key=eqV (.int j) (.int i):=by
     rw [rk]
     exact WG.symm
    have b:=b i
    rw [jb] at b ⊢
    rw [List.findIdx?_cons,List.findIdx?_cons,e1,b]
  | _=>simp [JW] at c0
theorem keys_str {h:Heap}:∀ {l:List (V×V)} {es:List DictEntry},(∀e∈l,JW e.1=2)→zy w.params φ h l es→
  (∀e∈es,∃k,(PySem.strKind prog w).is k e.key=true∧e.hash=(PySem.strKind prog w).hash k)∧∀i:Str,es.findIdx? (fun e=>(PySem.strKind prog w).is i e.key)=jb (.str i) l
 | [],es,_,r=>by rw [show es=[] from r]; exact ⟨fun _ h=>(by cases h),fun _=>rfl⟩
 | (k,v)::l,es,c,r=>by
  obtain ⟨e,xs,rfl,r0,r1,-,r3⟩:=r
  have c0:=c _ (.head _)
  obtain ⟨a,b⟩:=keys_str (fun e h=>c e (.tail _ h)) r3
  cases k with
  | str j=>
   obtain ⟨t,rk⟩:=r1
   refine ⟨fun q hq=>?_,fun i=>?_⟩
   ·rcases List.mem_cons.mp hq with rfl | hq
    ·exact ⟨j,by rw [rk]; simp [PySem.strKind,Value.isStrOf],r0⟩
    ·exact a q hq
   ·have e1:(PySem.strKind prog w).is i e.key=eqV (.str j) (.str i):=by
     rw [rk]
     exact Bool.eq_iff_iff.mpr ((show (j==i)=true↔j=i from beq_iff_eq).trans (eqI.trans ⟨V.str.inj,congrArg _⟩).symm)
    have b:=b i
    rw [jb] at b ⊢
    rw [List.findIdx?_cons,List.findIdx?_cons,e1,b]
  | _=>simp [JW] at c0
open Classical in
theorem keys_tup {h:Heap}:∀ {l:List (V×V)} {es:List DictEntry},(∀e∈l,JW e.1=3∧KeyV e.1)→zy w.params φ h l es→
  ∃xs:List (V×Addr×Value),es=xs.map (entryOfKey (tupKey prog w))∧(∀x∈xs,(tupKey prog w).is h x.1 x.2.1)∧xs.map (·.1)=l.map (·.1)
 | [],es,_,r=>by rw [show es=[] from r]; exact ⟨[],rfl,fun _ h=>(by cases h),rfl⟩
 | (k,v)::l,es,c,r=>by
  obtain ⟨e,xs,rfl,r0,r1,-,r3⟩:=r
  have c0:=c _ (.head _)
  obtain ⟨ys,a,b,d⟩:=keys_tup (fun e h=>c e (.tail _ h)) r3
  cases k with
  | tup j=>
   obtain ⟨p,vs,q,t,r⟩:=id r1
   refine ⟨(.tup j,p,e.val)::ys,?_,fun y hy=>?_,by simp [d]⟩
   ·rw [List.map_cons,← a]
    obtain ⟨eh,ek,ev⟩:=e
    simp only at q r0
    subst q r0
    rfl
   ·rcases List.mem_cons.mp hy with rfl | hy
    ·exact ⟨⟨φ,q▸r1⟩,c0.2⟩
    ·exact b y hy
  | _=>simp [JW] at c0
theorem QD {A:Around} {E:Value→Shared→Prop} {s:Shared} {d:Addr} {es:Array DictEntry} {n:Nat} {l:List (V×V)} {x:V} {kx:Value} {Q:Option Nat→Shared→Prop}
  (hu:A.units+16 < cLine) (ho:s.heap.get? d=some ⟨.type "dict",none,.dict es n,#[]⟩) (hD:jD l) (hE:zy w.params φ s.heap l es.toList) (hk:yP x l=true) (hx:zo w.params φ s.heap x kx)
  (h:Q (jb x l) s):wpAny (model prog w) A (dictFind d kx (Wo w.params x)) Q E s:=by
 classical
 have hf:=Jg hk
 have hfa:∀e∈l,yW e.1=true:=fun e he=>(hD.fit he).f
 cases x with
 | int i=>
  obtain ⟨t,rfl⟩:=hx
  obtain ⟨a,b⟩:=Xn (prog:=prog) (fun e he=>Jh hk he) hE
  refine wpAny_dictFind_of (knd:=intKind prog w) (k:=i) (by simp [intKind,Value.isInt]) ho rfl (fun e he=>a e (Array.mem_toList_iff.mpr he)) ?_
  have:=b i
  rw [findIdx?_toList',this]
  exact h
 | str i=>
  obtain ⟨t,rfl⟩:=hx
  obtain ⟨a,b⟩:=keys_str (prog:=prog) (fun e he=>Jh hk he) hE
  refine wpAny_dictFind_of (knd:=PySem.strKind prog w) (k:=i) (by simp [PySem.strKind,Value.isStrOf]) ho rfl (fun e he=>a e (Array.mem_toList_iff.mpr he)) ?_
  have:=b i
  rw [findIdx?_toList',this]
  exact h
 | tup j=>
  obtain ⟨p,vs,rfl,t,r⟩:=id hx
  obtain ⟨xs,a,b,c⟩:=keys_tup (prog:=prog) (fun e he=>⟨Jh hk he,hD.fit he⟩) hE
  refine wpAny_dictFind_heap (knd:=tupKey prog w) (k:=.tup j) hu ⟨⟨φ,hx⟩,hf⟩ ho rfl a b (c▸hD.1) (fun hno=>?_) fun q v hq=>?_
  ·rw [idxD_none hfa ?_] at h
   ·exact h
   ·rw [← c]
    exact not_mem_keys_of_get hno
  ·have hq':(l.map (·.1))[q]? =some (.tup j):=by rw [← c,List.getElem?_map,hq]; rfl
   rw [List.getElem?_map] at hq'
   obtain ⟨⟨y,v'⟩,hy,e⟩:=Option.map_eq_some_iff.mp hq'
   simp only at e
   subst e
   rw [ww hfa hD.1 hy] at h
   exact h
 | _=>exact no hf.k
end
theorem Sim.ne_sys {w:World} {φ:Phi} {σ:zG} {h:Heap} (S:Sim w φ σ h) {p:Nat×Nat} (hp:p∈φ):(p.1==sysModules)=false:=by
 have a:=(S.above p hp).1
 refine beq_eq_false_iff_ne.mpr fun e=>?_
 rw [e] at a
 cases a
theorem Sim.at {w:World} {φ:Phi} {σ:zG} {h:Heap} (S:Sim w φ σ h) {n:Nat} {p:Nat×Nat} {o:O} (hp:φ[n]? =some p) (ho:σ[n]? =some o):YR w.params φ h o p:=by
 obtain ⟨q,hq,R⟩:=S.objs n o ho
 obtain rfl:p=q:=Option.some.inj (hp.symm.trans hq)
 exact R
theorem Sim.turn {w:World} {φ:Phi} {σ:zG} {h h':Heap} (S:Sim w φ σ h) {n:Nat} {p:Nat×Nat} {o':O} {d:Addr} (hp:φ[n]? =some p) (hd:d=p.1∨d=p.2) (sb:Heap.SameBut d h h') (hs:∃o',h'.get? d=some o')
  (R:Ext Nox φ h φ h'→YR w.params φ h' o' p):Sim w φ (σ.set n o') h'∧Ext Nox φ h φ h':=by
 have mp:p∈φ:=List.mem_of_getElem? hp
 have ind:ZE φ d:=⟨p,mp,hd⟩
 have x:Ext Nox φ h φ h':=⟨List.prefix_rfl,fun b o e nb _=>(sb.2 b (fun q=>nb (q▸ind))).trans e,fun b o e=>(by
  by_cases q:b=d
  ·subst q; exact hs
  ·exact ⟨o,(sb.2 b q).trans e⟩),fun b q=>.inl q⟩
 refine ⟨⟨fun b o e=>?_,by simp [S.len],fun m o e=>?_,S.apart,S.above⟩,x⟩
 ·refine (sb.2 b fun q=>?_).trans (S.base b o e)
  subst q
  rcases hd with rfl | rfl
  ·rw [(S.above p mp).1] at e; cases e
  ·rw [(S.above p mp).2] at e; cases e
 ·by_cases hm:m=n
  ·subst hm
   have hl:m < σ.length:=by rw [← S.len]; exact (List.getElem?_eq_some_iff.mp hp).1
   rw [List.getElem?_set_self hl] at e
   obtain rfl:=Option.some.inj e
   exact ⟨p,hp,R x⟩
  ·rw [List.getElem?_set_ne (Ne.symm hm)] at e
   obtain ⟨q,hq,r⟩:=S.objs m o e
   have na:q.1≠d∧q.2≠d:=by
    constructor<;>intro z<;>rcases hd with rfl | rfl<;>exact hm (S.apart m n q p hq hp (by simp [z]))
   refine ⟨q,hq,?_⟩
   rcases o with l | ⟨l,ep⟩ | ⟨c,fs⟩ | ⟨ob,l⟩
   ·obtain ⟨z,vs,⟨k,hl⟩,r⟩:=r; exact ⟨z,vs,⟨k,(sb.2 _ na.1).trans hl⟩,za.ext S x zb l vs r⟩
   ·obtain ⟨z,dk,es,k,hl,r⟩:=r; exact ⟨z,dk,es,k,(sb.2 _ na.1).trans hl,zy.ext S x zb l _ r⟩
   ·obtain ⟨C,es,k,a,b,dd,r⟩:=r; exact ⟨C,es,k,a,(sb.2 _ na.1).trans b,(sb.2 _ na.2).trans dd,jI.ext S x zb fs _ r⟩
   ·obtain ⟨z,a,b,vs,n,e,r⟩:=r; exact ⟨z,(sb.2 _ na.1).trans a,b,vs,n,e,za.ext S x zb l vs r⟩
theorem zy.get {P:Params} {φ:Phi} {h:Heap}:∀ {l:List (V×V)} {es:List DictEntry} {j:Nat} {e:V×V},zy P φ h l es→l[j]? =some e→∃d,es[j]? =some d∧d.hash=Wo P e.1∧zo P φ h e.1 d.key∧zo P φ h e.2 d.val
 | [],_,j,e,_,q=>by simp at q
 | (k,v)::l,_,j,e,⟨y,ys,e',r0,r1,r2,r3⟩,q=>by
  subst e'
  rcases j with _ | j
  ·simp at q; subst q; exact ⟨y,rfl,r0,r1,r2⟩
  ·simp at q; simpa using zy.get r3 q
theorem zy.length {P:Params} {φ:Phi} {h:Heap}:∀ {l:List (V×V)} {es:List DictEntry},zy P φ h l es→es.length=l.length
 | [],_,r=>by rw [show _=[] from r]; rfl
 | (k,v)::l,_,⟨y,ys,e',r0,r1,r2,r3⟩=>by subst e'; simp [zy.length r3]
theorem zy.append {P:Params} {φ:Phi} {h:Heap}:∀ {l m:List (V×V)} {es fs:List DictEntry},zy P φ h l es→zy P φ h m fs→zy P φ h (l++m) (es++fs)
 | [],_,_,_,r,q=>by rw [show _=[] from r]; exact q
 | (k,v)::l,_,_,_,⟨y,ys,e',r0,r1,r2,r3⟩,q=>by subst e'; exact ⟨y,_,rfl,r0,r1,r2,zy.append r3 q⟩
theorem zy.modify {P:Params} {φ:Phi} {h:Heap} {u:V} {x:Value} (ru:zo P φ h u x):∀ {l:List (V×V)} {es:List DictEntry} (j:Nat),zy P φ h l es→zy P φ h (l.modify j fun e=>(e.1,u)) (es.modify j fun e=>{e with val:=x})
 | [],es,j,r=>by rw [show es=[] from r]; cases j<;>rfl
 | (k,v)::l,_,j,⟨y,ys,e',r0,r1,r2,r3⟩=>by
  subst e'
  rcases j with _ | j
  ·exact ⟨_,_,rfl,r0,r1,ru,r3⟩
  ·exact ⟨_,_,rfl,r0,r1,r2,zy.modify ru j r3⟩
theorem zy.erase {P:Params} {φ:Phi} {h:Heap}:∀ {l:List (V×V)} {es:List DictEntry} (j:Nat),zy P φ h l es→zy P φ h (l.eraseIdx j) (es.eraseIdx j)
 | [],es,j,r=>by rw [show es=[] from r]; cases j<;>rfl
 | (k,v)::l,_,j,⟨y,ys,e',r0,r1,r2,r3⟩=>by
  subst e'
  rcases j with _ | j
  ·exact r3
  ·exact ⟨_,_,rfl,r0,r1,r2,zy.erase j r3⟩
theorem yT {x:V} {l:List (V×V)} (h:jb x l=none):yk x l=none∧dHas x l=false:=by
 rw [jb,List.findIdx?_eq_none_iff] at h
 refine ⟨?_,?_⟩
 ·rw [yk,Option.map_eq_none_iff,List.find?_eq_none]
  intro e he; rw [h e he]; exact Bool.false_ne_true
 ·rw [dHas,List.any_eq_false]
  intro e he; rw [h e he]; exact Bool.false_ne_true
theorem yw {x:V}:∀ {l:List (V×V)} {j:Nat},jb x l=some j→∃e,l[j]? =some e∧eqV e.1 x=true∧yk x l=some e.2∧dHas x l=true
 | [],j,h=>by simp [jb] at h
 | e::l,j,h=>by
  rw [jb,List.findIdx?_cons] at h
  rcases q:eqV e.1 x with _ | _
  ·rw [q] at h
   simp only [Bool.false_eq_true,if_false,Option.map_eq_some_iff] at h
   obtain ⟨i,hi,rfl⟩:=h
   obtain ⟨e',a,b,c,d⟩:=yw (l:=l) (j:=i) hi
   refine ⟨e',by simpa using a,b,?_,?_⟩
   ·rw [yk] at c ⊢; rw [List.find?_cons,q]; exact c
   ·rw [dHas] at d ⊢; rw [List.any_cons,q,d]; rfl
  ·rw [q] at h
   obtain rfl:0=j:=by simpa using h
   exact ⟨e,rfl,q,by simp [yk,q],by simp [dHas,q]⟩
theorem J6 {x v:V}:∀ {l:List (V×V)} {j:Nat},(∀e∈l,yW e.1=true)→(l.map (·.1)).Nodup→jb x l=some j→l.map (putE x v)=l.modify j fun e=>(e.1,v)
 | [],j,_,_,h=>by simp [jb] at h
 | e::l,j,f,nd,h=>by
  rw [jb,List.findIdx?_cons] at h
  rw [List.map_cons,List.nodup_cons] at nd
  rcases q:eqV e.1 x with _ | _
  ·rw [q] at h
   simp only [Bool.false_eq_true,if_false,Option.map_eq_some_iff] at h
   obtain ⟨i,hi,rfl⟩:=h
   rw [List.map_cons,List.modify_succ_cons,putE,q,J6 (fun e he=>f e (.tail _ he)) nd.2 hi]
  ·rw [q] at h
   obtain rfl:0=j:=by simpa using h
   have ex:=(jw (f _ (.head _))).mp q
   rw [List.map_cons,List.modify_zero_cons,putE,q]
   congr 1
   refine (List.map_congr_left fun e' he'=>?_).trans (List.map_id _)
   have:eqV e'.1 x=false:=by
    rcases q':eqV e'.1 x with _ | _
    ·rfl
    ·exact absurd (List.mem_map.mpr ⟨e',he',((jw (f _ (.tail _ he'))).mp q').trans ex.symm⟩) nd.1
   rw [putE,this]
   rfl
theorem JV {x:V}:∀ {l:List (V×V)} {j:Nat},(∀e∈l,yW e.1=true)→(l.map (·.1)).Nodup→jb x l=some j→Yh x l=l.eraseIdx j
 | [],j,_,_,h=>by simp [jb] at h
 | e::l,j,f,nd,h=>by
  rw [jb,List.findIdx?_cons] at h
  rw [List.map_cons,List.nodup_cons] at nd
  rcases q:eqV e.1 x with _ | _
  ·rw [q] at h
   simp only [Bool.false_eq_true,if_false,Option.map_eq_some_iff] at h
   obtain ⟨i,hi,rfl⟩:=h
   rw [Yh,List.filter_cons_of_pos (by simp [q]),List.eraseIdx_cons_succ]
   have:=JV (x:=x) (fun e he=>f e (.tail _ he)) nd.2 hi
   rw [Yh] at this
   rw [this]
  ·rw [q] at h
   obtain rfl:0=j:=by simpa using h
   have ex:=(jw (f _ (.head _))).mp q
   rw [Yh,List.filter_cons_of_neg (by simp [q]),List.eraseIdx_zero,List.tail_cons,List.filter_eq_self]
   intro e' he'
   have:eqV e'.1 x=false:=by
    rcases q':eqV e'.1 x with _ | _
    ·rfl
    ·exact absurd (List.mem_map.mpr ⟨e',he',((jw (f _ (.tail _ he'))).mp q').trans ex.symm⟩) nd.1
   rw [this]
   rfl
theorem Qs {x:V} {l:List (V×V)} (h:jb x l=none):Yh x l=l:=by
 rw [jb,List.findIdx?_eq_none_iff] at h
 rw [Yh,List.filter_eq_self]
 intro e he; rw [h e he]; rfl
theorem jD.put {l:List (V×V)} (d:jD l) {x v:V} (k:yP x l=true):jD (ZH x v l):=by
 obtain ⟨nd,c,q⟩:=id d
 have hf:∀e∈l,yW e.1=true:=fun e he=>(d.fit he).f
 rw [ZH]
 rcases h:jb x l with _ | j
 ·rw [(yT h).2]
  refine ⟨?_,JW x,fun e he=>?_⟩
  ·rw [List.map_append,List.nodup_append]
   refine ⟨nd,by simp,fun a ha b hb e=>?_⟩
   obtain rfl:b=x:=by simpa using hb
   subst e
   obtain ⟨e,he,hx⟩:=List.mem_map.mp ha
   rw [jb,List.findIdx?_eq_none_iff] at h
   have:=h e he
   rw [(jw (hf e he)).mpr hx] at this
   cases this
  ·rcases List.mem_append.mp he with he | he
   ·exact ⟨(q e he).1,Jh k he⟩
   ·obtain rfl:e=(x,v):=by simpa using he
    simp only [yP,Bool.and_eq_true] at k
    exact ⟨k.1,rfl⟩
 ·obtain ⟨e,-,-,-,hh⟩:=yw h
  rw [hh]
  refine ⟨?_,c,fun e he=>?_⟩
  ·rw [List.map_map]
   exact nd
  ·obtain ⟨e',he',rfl⟩:=List.mem_map.mp he
   exact q e' he'
theorem jD.sub {l m:List (V×V)} (d:jD l) (s:m.Sublist l):jD m:=by
 obtain ⟨nd,c,q⟩:=d
 exact ⟨List.Nodup.sublist (s.map _) nd,c,fun e he=>q e (s.subset he)⟩
end Wk
end
section
namespace Wk
open Mine (st sm H1 YP pw)
theorem jO.line {A:Around} (r:jO A 1):A.units+100 < cLine:=by have:=r.units; show A.units+100 < 9900; lia
section
variable {w:World} {A:Around} {E:Value→Shared→Prop} {φ:Phi} {s:Shared} {σ σ':zG}
theorem putE_len {x v:V} {l:List (V×V)}:(ZH x v l).length=l.length+(match dHas x l with | true=>0 | false=>1):=by
 rw [ZH]
 cases dHas x l<;>simp
theorem EpOk.put {e:Option Nat} {l:List (V×V)} {n n':Nat} {x v:V} (h:EpOk e l n) (q:n'=n+(match dHas x l with | true=>0 | false=>1)):EpOk e (ZH x v l) n':=by
 cases e with
 | none=>trivial
 | some d=>
  have h:n=l.length+2*d:=h
  show n'=(ZH x v l).length+2*d
  rw [putE_len,q,h]; lia
noncomputable abbrev RepOpt (P:Params) (φ:Phi) (h:Heap):Option V→Option Value→Prop
 | none,none=>True
 | some v,some y=>zo P φ h v y
 | _,_=>False
theorem QA {x:V} {kx:Value} {Q:Int→Shared→Prop} (hu:A.units+16 < cLine) (hk:KeyV x) (hx:zo w.params φ s.heap x kx)
  (h:∀tk,Q (Wo w.params x) {s with toks:=tk}):wpAny (model pw w) A (pyHash kx) Q E s:=
 hash_rep 7 hk.k hk.d (by lia) hx (h _)
theorem get_rep {d:Addr} {es:Array DictEntry} {n:Nat} {l:List (V×V)} {x:V} {kx:Value} {Q:Option Value→Shared→Prop}
  (hu:A.units+16 < cLine) (ho:s.heap.get? d=some ⟨.type "dict",none,.dict es n,#[]⟩) (hD:jD l) (hE:zy w.params φ s.heap l es.toList) (hk:yP x l=true) (hx:zo w.params φ s.heap x kx)
  (h:∀tk r,RepOpt w.params φ s.heap (yk x l) r→Q r {s with toks:=tk}):wpAny (model pw w) A (dictGet d kx) Q E s:=by
 unfold dictGet
 try with_reducible refine wpAny_holding ?_
 refine wpAny_bind (QA hu (Jg hk) hx fun tk=>wpAny_bind (QD (s:={s with toks:=tk}) hu ho hD hE hk hx ?_))
 cases q:jb x l with
 | none=>exact wpAny_pure (h tk none (by rw [(yT q).1]; trivial))
 | some j=>
  refine wpAny_bind (wpAny_dictEntries (s:={s with toks:=tk}) ho rfl (wpAny_pure (h tk _ ?_)))
  obtain ⟨e,he,-,hg,-⟩:=yw q
  obtain ⟨y,hy,-,-,rv⟩:=zy.get hE he
  rw [hg,← Array.getElem?_toList,hy]
  exact rv
theorem set_rep {d:Addr} {es:Array DictEntry} {n:Nat} {l:List (V×V)} {x v:V} {kx y:Value} {Q:Unit→Shared→Prop}
  (hu:A.units+16 < cLine) (ho:s.heap.get? d=some ⟨.type "dict",none,.dict es n,#[]⟩) (hD:jD l) (hE:zy w.params φ s.heap l es.toList) (hk:yP x l=true) (hx:zo w.params φ s.heap x kx)
  (hsz:l.length < 1000000)
  (h:∀tk h' es' n',Heap.SameBut d s.heap h'→h'.get? d=some ⟨.type "dict",none,.dict es' n',#[]⟩→n'=n+(match dHas x l with | true=>0 | false=>1)→
   (∀φ' h'',zy w.params φ' h'' l es.toList→zo w.params φ' h'' x kx→zo w.params φ' h'' v y→zy w.params φ' h'' (ZH x v l) es'.toList)→Q () {s with heap:=h',toks:=tk}):
  wpAny (model pw w) A (dictSet d kx y) Q E s:=by
 have hes:es.size≤sizeLine:=by
  have:=zy.length hE
  have e2:es.toList.length=es.size:=by simp
  show es.size≤2^24
  lia
 have hf:∀e∈l,yW e.1=true:=fun e he=>(hD.fit he).f
 unfold dictSet
 try with_reducible refine wpAny_holding ?_
 refine wpAny_bind (QA hu (Jg hk) hx fun tk=>?_)
 unfold dictSetHashed
 try with_reducible refine wpAny_holding ?_
 refine wpAny_bind (QD (s:={s with toks:=tk}) hu ho hD hE hk hx ?_)
 cases q:jb x l with
 | none=>
  refine wpAny_bind (wpAny_rule (wpAny_updateDictKeys (hz:=hes) (s:={s with toks:=tk}) ho rfl (h tk _ _ _ (Heap.SameBut.update ..) (Heap.get?_update_self _ ho rfl) (by rw [(yT q).2]) fun φ' h'' rl rx rv=>?_)))
  rw [ZH,(yT q).2,Array.toList_push]
  exact zy.append rl ⟨_,[],rfl,rfl,rx,rv,rfl⟩
 | some j=>
  obtain ⟨e,-,-,-,hh⟩:=yw q
  refine wpAny_bind (wpAny_rule (wpAny_bind (wpAny_updateDict (s:={s with toks:=tk}) ho rfl (wpAny_point (h tk _ _ _ (Heap.SameBut.update ..) (Heap.get?_update_self _ ho rfl) (by rw [hh]; rfl) fun φ' h'' rl rx rv=>?_)))))
  rw [ZH,hh,Array.toList_modify]
  show zy _ _ _ (l.map (putE x v)) _
  rw [J6 hf hD.1 q]
  exact zy.modify rv j rl
end
theorem ZK {x:Int} {n j:Nat} (h:wv x n=some j):seqIndex? x n=some j∧ -(2^63)≤x∧x < 2^63∧(0≤x→j=x.toNat)∧(x < 0→j=(x+n).toNat)∧ -(n:Int)≤x:=by
 unfold wv at h
 unfold seqIndex?
 split at h
 ·cases h
 ·rename_i hn
  split at h
  ·rename_i h0
   split at h
   ·rename_i h1
    cases h
    have:¬x < 0:=by lia
    refine ⟨by simp [this,h0,h1],by lia,by lia,fun _=>rfl,fun q=>absurd q this,by lia⟩
   ·cases h
  ·rename_i h0
   split at h
   ·rename_i h1
    cases h
    have:x < 0:=by lia
    have h2:x+n < n:=by lia
    refine ⟨by simp [this,h1,h2],by lia,by lia,fun q=>absurd q h0,fun _=>rfl,by lia⟩
   ·cases h
theorem za.set {P:Params} {φ:Phi} {h:Heap} {v:V} {x:Value}:∀ {l:List V} {vs:List Value},za P φ h l vs→zo P φ h v x→∀j,za P φ h (l.set j v) (vs.set j x)
 | [],vs,r,_,j=>by rw [show vs=[] from r]; cases j<;>exact rfl
 | u::l,_,⟨y,ys,e,r1,r2⟩,rv,j=>by
  subst e
  cases j with
  | zero=>exact ⟨x,ys,rfl,rv,r2⟩
  | succ j=>exact ⟨y,_,rfl,r1,za.set r2 rv j⟩
section
variable {w:World} {X:Addr→Prop} {A:Around} {σ:zG} {P:Sx w σ} {α β:Type} {t:Sem α} {R:Rl w β α} {a b i v:V} {x y z:Value}
theorem Snd.tn {n:Nat} {p:Nat×Nat} {o':O} {d:Addr} {u:α} {e:β} (hp:P.φ[n]? =some p) (hd:d=p.1∨d=p.2) (z:∀P':Sx w (σ.set n o'),Le Nox P P'→R _ P' e u)
  (g:∀Q:α→Shared→Prop,(∀h' tk,Heap.SameBut d P.s.heap h'→(∃o,h'.get? d=some o)→(Ext Nox P.φ P.s.heap P.φ h'→YR w.params P.φ h' o' p)→Q u {P.s with heap:=h',toks:=tk})→wpAny (model pw w) A t Q (fun _ _=>False) P.s):Snd X A (Us n o' e) t P R:=fun k r h hr Q q=>
 g Q fun h' tk sb ho RO=>by
  obtain ⟨S',x'⟩:=P.S.turn hp hd sb ho RO
  have l:Le Nox P (⟨P.φ,{P.s with heap:=h',toks:=tk},S'⟩:Sx w (σ.set n o')):=⟨x',rfl,rfl⟩
  exact q _ _ _ _ l.up (z _ l) h
theorem sndT (r:P.R a x):Snd X A (zE a) (truthy x) P RB:=by
 cases a with
 | none=>rw [show x=.none from r]; exact fun k _ e _ Q q=>truthy_none (q _ P false false .rfl rfl e)
 | bool c=>rw [show x=.bool c from r]; exact fun k _ e _ Q q=>wpAny_truthy_bool (q _ P c c .rfl rfl e)
 | int i=>obtain ⟨t,rfl⟩:=r; exact fun k _ e _ Q q=>truthy_int (q _ P _ _ .rfl rfl e)
 | ref n=>
  obtain ⟨p,hp,rfl⟩:=r
  refine .o hp fun o e0 R=>?_
  cases o with
  | list l=>
   obtain ⟨-,vs,⟨k,hv⟩,ra⟩:=R
   have l1:=za.length ra
   refine .when fun c=>.now (fun Q q=>wpAny_truthy_list ⟨_,hv,rfl,k,rfl⟩ (by rw [List.size_toArray,l1]; lia) (q _)) fun _=>?_
   show (!vs.toArray.isEmpty)=!l.isEmpty
   cases l<;>cases vs<;>first | rfl | cases l1
  | _=>exact .fail
 | _=>exact .fail
theorem sndUn {op:UnaryOp} (r:P.R a x):Snd X A (pUn op a) (unaryOp op x) P RV:=.int r fun i t e _=>by
 subst e
 cases op with
 | USub=>exact .vi fun Q q=>neg_int (q _)
 | Invert=>exact .vi fun Q q=>invert_int (q _)
 | _=>exact .fail
theorem sndGetD {d:Addr} {es:Array DictEntry} {n:Nat} {l:List (V×V)} (ro:jO A 1) (ho:P.s.heap.get? d=some ⟨.type "dict",none,.dict es n,#[]⟩) (hD:jD l) (hE:zy w.params P.φ P.s.heap l es.toList) (ri:P.R i y):Snd X A (getD l i) (getItem (.ref d) y) P RV:=.when fun hk=>.sm fun v e k r h hr Q q=>by
 unfold getItem
 try with_reducible refine wpAny_holding ?_
 refine wpAny_bind (wpAny_sequenceKey (T:="dict") ⟨_,ho,rfl⟩ (by decide) ?_)
 refine wpAny_bind (wpAny_callSpecial?_slot (name:=Str.ofString "__getitem__") (T:="dict") ⟨_,ho,rfl⟩ slot_dict_getitem (wpAny_call_entry slot_dict_getitem ⟨_,ho,rfl⟩ entry_dict_getitem ?_ (args_dict_getitem _ _)))
 show wpAny _ _ (dictGet d _ >>=_) _ _ P.s
 refine wpAny_bind (get_rep (by have:=ro.line; show A.units+1+16 < cLine; lia) ho hD hE hk ri fun tk o hq=>?_)
 rw [e] at hq
 cases o with
 | none=>exact hq.elim
 | some u=>exact wpAny_pure ⟨u,rfl,wpAny_pure (q _ (P.at tk) v u ⟨.rfl,rfl,rfl⟩ hq h)⟩
theorem sndItem (ro:jO A 1) (ra:P.R a x) (ri:P.R i y):Snd X A (zC a i) (getItem x y) P RV:=by
 cases a with
 | tup l=>
  obtain ⟨p,vs,rfl,ht,rl⟩:=ra
  refine .int ri fun z t e _=>.sm fun v e'=>?_
  subst e
  obtain ⟨j,hj,hv⟩:=Option.bind_eq_some_iff.mp e'
  obtain ⟨a1,a2,a3,-⟩:=ZK hj
  obtain ⟨u,hu,ru⟩:=za.get rl hv
  exact .v ru fun Q q=>PyProof.Rows.getItem_tuple ht a2 a3 (by rw [List.size_toArray,za.length rl]; exact a1) (List.getElem?_toArray.trans hu) (q P.s.toks)
 | str s=>
  obtain ⟨t',rfl⟩:=ra
  refine .int ri fun z t e _=>.sm fun v e'=>?_
  subst e
  obtain ⟨j,hj,hv⟩:=Option.bind_eq_some_iff.mp e'
  obtain ⟨a1,a2,a3,-⟩:=ZK hj
  refine .now (a:=.str ⟨#[v]⟩ _) (fun Q q=>PyProof.Rows.getItem_str (c:=v) ?_ ?_ (q _)) fun _=>⟨_,rfl⟩
  ·simp only [Bool.or_eq_false_iff,decide_eq_false_iff_not]; lia
  ·rw [show seqIndex? z s.length=some j from a1]; exact hv
 | cdict l=>
  obtain ⟨p,es,n,rfl,ho,hD,hE⟩:=ra
  exact sndGetD ro (P.S.base _ _ ho) hD hE ri
 | ref m=>
  obtain ⟨p,hp,rfl⟩:=ra
  refine .o hp fun o e0 R=>?_
  cases o with
  | list l=>
   obtain ⟨-,vs,⟨kk,hl⟩,rl⟩:=R
   refine .int ri fun z t e _=>.sm fun v e'=>?_
   subst e
   obtain ⟨j,hj,hv⟩:=Option.bind_eq_some_iff.mp e'
   obtain ⟨a1,a2,a3,a4,a5,a6⟩:=ZK hj
   obtain ⟨u,hu,ru⟩:=za.get rl hv
   refine .v ru fun Q q=>?_
   by_cases hz:0≤z
   ·have:=a4 hz
    subst this
    exact wpAny_getItem_list ⟨_,hl,rfl,kk,rfl⟩ hz a3 (List.getElem?_toArray.trans hu) (q P.s.toks)
   ·have:=a5 (by lia)
    subst this
    refine wpAny_getItem_list_neg ⟨_,hl,rfl,kk,rfl⟩ (by lia) ?_ (by lia) ?_ (q P.s.toks)
    ·rw [List.size_toArray,za.length rl]; exact a6
    ·rw [List.size_toArray,za.length rl]; exact List.getElem?_toArray.trans hu
  | dict l ep=>
   obtain ⟨-,hD,es,n,ho,hE⟩:=R
   exact sndGetD ro ho hD hE ri
  | _=>exact .fail
 | _=>exact .fail
theorem sndSetL {n:Nat} {p:Nat×Nat} {l:List V} (hp:P.φ[n]? =some p) (RO:YR w.params P.φ P.s.heap (.list l) p) (ri:P.R i y) (rz:P.R v z):Snd X A (setO n i v (.list l)) (setItem (.ref p.1) y z) P RU:=by
 obtain ⟨pe,vs,⟨kk,hl⟩,rl⟩:=RO
 refine .int ri fun jx t e _=>.when fun ⟨h0,h1,h2⟩=>.tn (o':=.list (l.set jx.toNat v)) (u:=()) hp (.inl rfl) (fun _ _=>trivial) fun Q q=>?_
 subst e
 have ll:=za.length rl
 have hlt:Heap.IsList P.s.heap p.1 vs.toArray:=⟨_,hl,rfl,kk,rfl⟩
 unfold setItem
 try with_reducible refine wpAny_holding ?_
 first | refine wpAny_bind (wpAny_pure ?_) | skip
 refine wpAny_bind (wpAny_sequenceKey hlt.typeIs (by decide) ?_)
 refine wpAny_bind (wpAny_callSpecial?_slot (name:=Str.ofString "__setitem__") hlt.typeIs slot_list_setitem (wpAny_call_entry slot_list_setitem hlt.typeIs entry_list_setitem ?_ (args_list_setitem _ _ _)))
 show wpAny _ _ (Builtin.List.listSubscript? (.int jx t) >>=_) _ _ P.s
 refine wpAny_bind (wpAny_listSubscript_int (fitsIndex_of h0 (by lia)) ?_)
 obtain ⟨j,rfl⟩:=Int.eq_ofNat_of_zero_le h0
 have hj:j < vs.toArray.size:=by rw [List.size_toArray,ll]; lia
 show wpAny _ _ ((seqItemAt p.1 j >>=fun r=>pure (r.map (j,·))) >>=_) _ _ P.s
 refine wpAny_bind (wpAny_bind (wpAny_seqItemAt hl rfl (wpAny_pure ?_)))
 rw [Array.getElem?_eq_getElem hj]
 show wpAny _ _ (setSeqItemAt p.1 j z >>=_) _ _ P.s
 have fin:Q () {P.s with heap:=P.s.heap.update p.1 (Obj.mapSeq (·.setIfInBounds j z))}:=q _ _ (Heap.SameBut.update ..) ⟨_,Heap.get?_update_self _ hl rfl⟩ fun x'=>⟨pe,vs.set j z,⟨_,(Heap.get?_update_self _ hl rfl).trans (show some (⟨.type "list",none,.seq (vs.toArray.setIfInBounds j z) _,#[]⟩:Obj)=_ by rw [List.setIfInBounds_toArray])⟩,za.set (za.ext P.S x' zb _ _ rl) (zo.ext P.S x' zb _ _ rz) j⟩
 refine wpAny_bind (wpAny_setSeqItemAt hl rfl ?_)
 first
  | exact wpAny_bind (wpAny_pure (wpAny_pure ⟨.none,rfl,wpAny_pure fin⟩))
  | exact wpAny_pure ⟨.none,rfl,wpAny_pure fin⟩
theorem sndSetD {n:Nat} {p:Nat×Nat} {l:List (V×V)} {ep:Option Nat} (ro:jO A 1) (hp:P.φ[n]? =some p) (RO:YR w.params P.φ P.s.heap (.dict l ep) p) (ri:P.R i y) (rz:P.R v z):Snd X A (setO n i v (.dict l ep)) (setItem (.ref p.1) y z) P RU:=by
 obtain ⟨pe,hD,es,m,ho,hE⟩:=RO
 refine .when fun ⟨hk,hs⟩=>.tn (o':=.dict (ZH i v l) ep) (u:=()) hp (.inl rfl) (fun _ _=>trivial) fun Q q=>?_
 unfold setItem
 try with_reducible refine wpAny_holding ?_
 refine wpAny_bind (wpAny_sequenceKey (T:="dict") ⟨_,ho,rfl⟩ (by decide) ?_)
 refine wpAny_bind (wpAny_callSpecial?_slot (name:=Str.ofString "__setitem__") (T:="dict") ⟨_,ho,rfl⟩ slot_dict_setitem (wpAny_call_entry slot_dict_setitem ⟨_,ho,rfl⟩ entry_dict_setitem ?_ (args_dict_setitem _ _ _)))
 show wpAny _ _ (Builtin.Dict.notOrdered "__setitem__" ⟨[.ref p.1,y,z],[]⟩ >>=_) _ _ P.s
 refine wpAny_bind (wpAny_notOrdered_dict ⟨_,ho,rfl⟩ ?_)
 show wpAny _ _ (dictSet p.1 y z >>=_) _ _ P.s
 exact wpAny_bind (set_rep (v:=v) (by have:=ro.line; show A.units+1+16 < cLine; lia) ho hD hE hk ri hs fun tk h' es' n' sb ho' hn' hE'=>wpAny_pure ⟨.none,rfl,wpAny_pure (q h' tk sb ⟨_,ho'⟩ fun x'=>⟨pe,hD.put hk,es',⟨n',m.2.put hn'⟩,ho',hE' _ _ (zy.ext P.S x' zb _ _ hE) (zo.ext P.S x' zb _ _ ri) (zo.ext P.S x' zb _ _ rz)⟩)⟩)
theorem sndSet (ro:jO A 1) (ra:P.R a x) (ri:P.R i y) (rz:P.R v z):Snd X A (fun k=>zV a i v (k ())) (setItem x y z) P RU:=.ob ra fun n p o e hp _ e0 RO=>by
 subst e
 cases o with
 | list l=>exact sndSetL hp RO ri rz
 | dict l ep=>exact sndSetD ro hp RO ri rz
 | _=>exact .fail
end
end Wk
end
section
namespace Wk
open Mine (st sm H1 YP pw)
noncomputable def keyI (v:V):Int:=(intOf v).getD 0
noncomputable def zh:List (V×V)→List DictEntry→List (Int×Value)
 | []=>fun _=>[]
 | k::l=>fun es=>match es with
  | []=>[]
  | e::es=>(keyI k.1,e.val)::zh l es
theorem Xf {k v:V} {l:List (V×V)} (ok:ZG ((k,v)::l)=true):∃i j,k=.int i∧v=.int j∧ZG l=true:=by
 obtain ⟨o1,o2⟩:=zW (show (isInt k&&isInt v&&ZG l)=true from ok)
 obtain ⟨o1,o3⟩:=zW o1
 cases k<;>first | exact no o1 | skip
 cases v<;>first | exact no o3 | exact ⟨_,_,rfl,rfl,o2⟩
theorem jV {w:World} {φ:Phi} {h:Heap}:∀ {l:List (V×V)} {es:List DictEntry},ZG l=true→zy w.params φ h l es→
  Pairs (intKind pw w) es (zh l es)∧(zh l es).length=l.length∧(∀k:Int,valueAt (zh l es) k=(es.find? fun e=>(intKind pw w).is k e.key).map (·.val))∧
   (∀k:Int,RepOpt w.params φ h (yk (.int k) l) (valueAt (zh l es) k))∧(zh l es).map (fun e=>V.int e.1)=l.map (·.1)
 | [],es,_,r=>by
  rw [show es=[] from r]
  exact ⟨.nil,rfl,fun _=>rfl,fun _=>trivial,rfl⟩
 | (k,v)::l,_,ok,r=>by
  obtain ⟨e,es,rfl,r0,r1,r2,r3⟩:=r
  obtain ⟨i,j,rfl,rfl,ok'⟩:=Xf ok
  obtain ⟨a1,a2,a3,a4,a5⟩:=jV ok' r3
  obtain ⟨t,rk⟩:=r1
  have e1:∀k,(intKind pw w).is k e.key=decide (i=k):=fun k=>by rw [rk]; rfl
  show Pairs (intKind pw w) (e::es) ((i,e.val)::zh l es)∧(zh l es).length+1=l.length+1∧(∀k:Int,valueAt ((i,e.val)::zh l es) k=((e::es).find? fun e=>(intKind pw w).is k e.key).map (·.val))∧(∀k:Int,RepOpt w.params φ h (yk (.int k) ((.int i,.int j)::l)) (valueAt ((i,e.val)::zh l es) k))∧V.int i::(zh l es).map (fun e=>V.int e.1)=V.int i::l.map (·.1)
  refine ⟨.cons (kv:=(i,e.val)) (e:=e) ((e1 i).trans (decide_eq_true rfl)) rfl a1,by rw [a2],fun k=>?_,fun k=>?_,by rw [a5]⟩
  ·rw [List.find?_cons,e1,valueAt,List.find?_cons]
   by_cases hq:i=k
   ·rw [decide_eq_true hq]; rfl
   ·rw [decide_eq_false hq]
    exact a3 k
  ·rw [valueAt,List.find?_cons,yk,List.find?_cons]
   rw [show eqV (V.int i,V.int j).1 (.int k)=decide (i=k) from WG]
   by_cases hq:i=k
   ·rw [decide_eq_true hq]; exact r2
   ·rw [decide_eq_false hq]
    exact a4 k
theorem ok_vals:∀ {l:List (V×V)},ZG l=true→∀e∈l,(∃i,e.1=.int i)∧∃j,e.2=.int j
 | (k,v)::l,ok,e,he=>by
  obtain ⟨i,j,rfl,rfl,ok'⟩:=Xf ok
  rcases List.mem_cons.mp he with rfl | he
  ·exact ⟨⟨_,rfl⟩,_,rfl⟩
  ·exact ok_vals ok' e he
theorem hits_of {w:World} {φ:Phi} {s:Shared} {A:Around} {y:List (V×V)} {fs:List DictEntry} (oky:ZG y=true) (ry:zy w.params φ s.heap y fs):
  ∀ {l:List (V×V)} {es:List DictEntry},ZG l=true→zy w.params φ s.heap l es→
   KeqHits A s (zh y fs) (zh l es) (l.all (Ui y))
 | [],es,_,r=>by rw [show es=[] from r]; exact .nil
 | (k,v)::l,_,ok,r=>by
  obtain ⟨e,es,rfl,r0,r1,r2,r3⟩:=r
  obtain ⟨i,j,rfl,rfl,ok'⟩:=Xf ok
  have ih:=hits_of (A:=A) oky ry ok' r3
  show KeqHits A s (zh y fs) ((i,e.val)::zh l es) ((match yk (.int i) y with | some u=>eqV (.int j) u | none=>false)&&l.all (Ui y))
  have hv:=(jV oky ry).2.2.2.1 i
  rcases q:yk (.int i) y with _ | u
  ·rw [q] at hv
   rcases q':valueAt (zh y fs) i with _ | z
   ·exact .miss q'
   ·rw [q'] at hv; exact hv.elim
  ·rw [q] at hv
   rcases q':valueAt (zh y fs) i with _ | z
   ·rw [q'] at hv; exact hv.elim
   ·rw [q'] at hv
    have:∃j',u=.int j':=by
     obtain ⟨e',he',rfl⟩:=Option.map_eq_some_iff.mp (show (y.find? fun e=>eqV e.1 (.int i)).map (·.2)=some u from q)
     exact (ok_vals oky e' (List.mem_of_find?_eq_some he')).2
    obtain ⟨j',rfl⟩:=this
    obtain ⟨t,rfl⟩:=hv
    obtain ⟨t',r2⟩:=r2
    refine .hit q' ?_ ih
    rw [r2]
    intro prog w' E Q hq
    exact wpAny_eqBool_int (show Q (decide (j=j')) s from WG▸hq)
theorem Wd {w:World} {φ:Phi} {h:Heap} {d:Addr} {es:Array DictEntry} {n:Nat} {l:List (V×V)} (ho:h.get? d=some ⟨.type "dict",none,.dict es n,#[]⟩) (hD:jD l) (ok:ZG l=true) (r:zy w.params φ h l es.toList):
  h.DictOf (intKind pw w) d (zh l es.toList):=by
 obtain ⟨a1,-,-,-,a5⟩:=jV ok r
 obtain ⟨k1,-⟩:=Xn (prog:=pw) (fun e he=>by obtain ⟨⟨i,hi⟩,-⟩:=ok_vals ok e he; rw [hi]; rfl) r
 refine ⟨_,es,n,ho,⟨rfl,rfl,rfl⟩,rfl,fun e he=>k1 e (Array.mem_toList_iff.mpr he),a1,?_⟩
 have nd:=hD.1
 rw [← a5] at nd
 have:(((zh l es.toList).map (·.1)).map V.int).Nodup:=by rw [List.map_map]; exact nd
 exact (List.pairwise_map.mp this).imp fun h e=>h (congrArg V.int e)
theorem any_eqv {a:V} (fa:yW a=true):∀ {l:List V},jK l=true→((XV l).any fun y=>PyData.eqv y (toD a))=l.any fun y=>eqV y a
 | [],_=>rfl
 | v::l,f=>congr (congrArg or (eqv' (a:=v) (zW f).1 fa)) (any_eqv fa (zW f).2)
noncomputable def opE:Bool→CmpOp
 | true=>.NotEq
 | false=>.Eq
noncomputable def opN:Bool→CmpOp
 | true=>.NotIn
 | false=>.In
noncomputable def xorB:Bool→Bool→Bool
 | true,c=>!c
 | false,c=>c
noncomputable def RX (w:World) (ng:Bool):Rl w Bool Value:=fun _ _ c x=>x=.bool (xorB ng c)
section
variable {w:World} {X:Addr→Prop} {A:Around} {σ:zG} {P:Sx w σ} {α β γ:Type} {t:Sem α} {R:Rl w β α} {a b i v:V} {x y z:Value}
theorem Snd.map {m:M β} {R':Rl w γ α} {f:β→γ} (h:Snd X A m t P R) (g:∀ (σ':zG) (P':Sx w σ') b a,R σ' P' b a→R' σ' P' (f b) a):Snd X A (fun k=>m fun b=>k (f b)) t P R':=fun k r e hr Q q=>h _ r e hr Q fun σ' P' b a l z e'=>q σ' P' _ a l (g σ' P' b a z) e'
theorem eqReads {ng:Bool} {d d':PyData} {as bs:List Addr} (ra:Reads P.s.heap x d as) (rb:Reads P.s.heap y d' bs) (c1:d.canLay0=true) (c2:d'.canLay0=true) (hr:A.units+d.depth < cLine) {c:Bool} (hc:PyData.eqv d d'=c):Snd X A (ret c) (compareOp (opE ng) x y) P (RX w ng):=by
 have hr:A.units+min d.depth d'.depth < cLine:=Nat.lt_of_le_of_lt (Nat.add_le_add_left (Nat.min_le_left _ _) _) hr
 subst hc
 cases ng with
 | false=>exact fun k r e _ Q q=>SeqAt.compareEq_reads ra rb c1 c2 hr (q _ P _ _ .rfl rfl e)
 | true=>exact fun k r e _ Q q=>SeqAt.compareNe_reads ra rb c1 c2 hr (q _ P _ _ .rfl rfl e)
theorem okL {l m:List V} (h:J5 l m=true):jK l=true∧jK m=true∧Js l≤50:=⟨(zW (zW (zW h).1).1).1,(zW (zW (zW h).1).1).2,of_decide_eq_true (zW (zW h).1).2⟩
theorem sndEqP {ng:Bool} (ro:jO A 1) (ra:P.R a x) (rb:P.R b y):Snd X A (eqP a b) (compareOp (opE ng) x y) P (RX w ng):=.when fun ok=>by
 obtain ⟨ok,-⟩:=zW ok
 obtain ⟨ok,d1⟩:=zW ok
 obtain ⟨f1,f2⟩:=zW ok
 obtain ⟨as,ra⟩:=zo.reads.1 a f1 x ra
 obtain ⟨bs,rb⟩:=zo.reads.1 b f2 y rb
 have hu:=ro.line
 have hd:=of_decide_eq_true d1
 exact eqReads ra rb (jh.1 a f1) (jh.1 b f2) (by rw [depthD.1]; lia) (eqv' f1 f2)
theorem sndEq {ng:Bool} (ro:jO A 1) (ra:P.R a x) (rb:P.R b y):Snd X A (pEq a b) (compareOp (opE ng) x y) P (RX w ng):=by
 cases a with
 | ref m=>cases b with
  | ref n=>
   obtain ⟨p,hp,rfl⟩:=ra
   obtain ⟨p',hp',rfl⟩:=rb
   refine .o hp fun o e1 R1=>.o hp' fun o' e2 R2=>?_
   cases o with
   | list l=>
    refine .l fun m e=>.when fun ok=>?_
    subst e
    obtain ⟨-,vs,⟨k1,h1⟩,r1⟩:=R1
    obtain ⟨-,ws,⟨k2,h2⟩,r2⟩:=R2
    obtain ⟨f1,f2,d1⟩:=okL ok
    obtain ⟨as,q1⟩:=zo.reads.2.1 l f1 vs r1
    obtain ⟨bs,q2⟩:=zo.reads.2.1 m f2 ws r2
    have hu:=ro.line
    exact eqReads (.list h1 rfl rfl q1) (.list h2 rfl rfl q2) (jh.2.1 l f1) (jh.2.1 m f2) (by rw [PyData.depth,depthD.2.1]; lia) (eqvL f1 f2)
   | dict l ep=>
    refine .d fun m ep' e=>.when fun ⟨ok1,ok2⟩=>?_
    subst e
    obtain ⟨-,D1,es,n1,h1,r1⟩:=R1
    obtain ⟨-,D2,fs,n2,h2,r2⟩:=R2
    have hu:=ro.line
    have n1:=P.S.ne_sys (List.mem_of_getElem? hp)
    have n2:=P.S.ne_sys (List.mem_of_getElem? hp')
    have da:=Wd h1 D1 ok1 r1
    have db:=Wd h2 D2 ok2 r2
    have hits:=hits_of (A:=A.in1) ok2 r2 ok1 r1
    have hl:((zh l es.toList).length==(zh m fs.toList).length)=decide (l.length=m.length):=by rw [(jV ok1 r1).2.1,(jV ok2 r2).2.1]; rfl
    cases ng with
    | false=>exact fun k r e _ Q q=>keq_eq n1 n2 da db (by lia) (fun _=>hits) (by rw [hl]; exact q _ P _ _ .rfl rfl e)
    | true=>exact fun k r e _ Q q=>keq_ne n1 n2 da db (by lia) (fun _=>hits) (by rw [hl]; exact q _ P _ _ .rfl rfl e)
   | _=>exact .fail
  | _=>exact sndEqP ro ra rb
 | _=>exact sndEqP ro ra rb
theorem inReads {ng:Bool} {l:List V} (ro:jO A 1) (ra:P.R a x) {o:Obj} {d:Addr} {vs:List Value} {n:Nat} (ho:P.s.heap.get? d=some o) (hc:o.cls=.type "tuple"∨o.cls=.type "list") (hd:o.data=.seq vs.toArray n) (rl:P.RL l vs):Snd X A (inL a l) (compareOp (opN ng) x (.ref d)) P (RX w ng):=.when fun ok=>by
 obtain ⟨f1,f2,d1⟩:=okL ok
 have f1:=(zW (show (yW a&&jK [])=true from f1)).1
 have d1:Yu a≤50:=Nat.le_trans (Nat.le_max_left _ _) d1
 obtain ⟨as,ra⟩:=zo.reads.1 a f1 x ra
 obtain ⟨bs,rb⟩:=zo.reads.2.1 l f2 vs rl
 have hu:=ro.line
 have dd:=depthD.1 a
 have hroom:A.units+1+min (PyData.depthAll (XV l)) (toD a).depth < cLine:=by
  have:=Nat.min_le_right (PyData.depthAll (XV l)) (toD a).depth
  lia
 rw [← any_eqv f1 f2]
 rcases hc with hc | hc<;>cases ng
 ·exact fun k r e _ Q q=>SeqAt.in_tuple_reads (.tuple ho hc hd rb) ra (jh.2.1 l f2) (jh.1 a f1) hroom (q _ P _ _ .rfl rfl e)
 ·exact fun k r e _ Q q=>SeqAt.notIn_tuple_reads (.tuple ho hc hd rb) ra (jh.2.1 l f2) (jh.1 a f1) hroom (q _ P _ _ .rfl rfl e)
 ·exact fun k r e _ Q q=>SeqAt.in_list_reads (.list ho hc hd rb) ra (jh.2.1 l f2) (jh.1 a f1) hroom (q _ P _ _ .rfl rfl e)
 ·exact fun k r e _ Q q=>SeqAt.notIn_list_reads (.list ho hc hd rb) ra (jh.2.1 l f2) (jh.1 a f1) hroom (q _ P _ _ .rfl rfl e)
theorem has_get {x:V} {l:List (V×V)}:dHas x l=(yk x l).isSome:=by
 rcases q:jb x l with _ | j
 ·rw [(yT q).1,(yT q).2]; rfl
 ·obtain ⟨e,-,-,x1,x2⟩:=yw q; rw [x1,x2]; rfl
theorem sndHas {p:Nat×Nat} {l:List (V×V)} {ep:Option Nat} (ro:jO A 1) (ra:P.R a x) (hp:p∈P.φ) (RO:YR w.params P.φ P.s.heap (.dict l ep) p):Snd X A (when (yP a l=true) (ret (dHas a l))) (contains (.ref p.1) x) P RB:=.when fun hk k r e hr Q q=>by
 obtain ⟨-,hD,es,n,ho,hE⟩:=RO
 have hT:P.s.TypeIs (.ref p.1) "dict":=⟨_,ho,rfl⟩
 unfold contains
 try with_reducible refine wpAny_holding ?_
 refine wpAny_bind (wpAny_specialOf hT slot_dict_contains.lookup ?_)
 show wpAny _ _ (if (some (Value.builtin "dict.__contains__")==some Value.none)=true then _ else _) _ _ P.s
 rw [if_neg (by rw [beq_builtin_none]; exact Bool.false_ne_true)]
 refine wpAny_bind (wpAny_callSpecialUnlessNone?_slot (name:=Str.ofString "__contains__") hT slot_dict_contains (wpAny_call_entry slot_dict_contains hT entry_dict_contains ?_ (args_dict_contains _ _)))
 show wpAny _ _ (dictGet p.1 x >>=_) _ _ P.s
 refine wpAny_bind (get_rep (by have:=ro.line; show A.units+1+16 < cLine; lia) ho hD hE hk ra fun tk o hq=>?_)
 have fin:∀c,(yk a l).isSome=c→Q c {P.s with toks:=tk}:=fun c h=>q _ (P.at tk) _ c ⟨.rfl,rfl,rfl⟩ (h.symm.trans has_get.symm) e
 rcases o with _ | v
 ·rcases g:yk a l with _ | u
  ·show wpAny _ _ (Builtin.Dict.pendingKey? p.1 x >>=_) _ _ _
   exact wpAny_bind (wpAny_pendingKey_other (P.S.ne_sys hp) (wpAny_pure ⟨_,rfl,wpAny_truthy_bool (fin _ (g▸rfl))⟩))
  ·rw [g] at hq; exact hq.elim
 ·rcases g:yk a l with _ | u
  ·rw [g] at hq; exact hq.elim
  ·show wpAny _ _ (PySem.ret (.bool true)) _ _ _
   exact wpAny_pure ⟨_,rfl,wpAny_truthy_bool (fin _ (g▸rfl))⟩
theorem sndIn {ng:Bool} (ro:jO A 1) (ra:P.R a x) (rb:P.R b y):Snd X A (pIn a b) (compareOp (opN ng) x y) P (RX w ng):=by
 cases b with
 | tup l=>
  obtain ⟨p,vs,rfl,⟨o,ho,hc,n,hd⟩,rl⟩:=rb
  exact inReads ro ra ho (.inl hc) hd rl
 | ref m=>
  obtain ⟨p,hp,rfl⟩:=rb
  refine .o hp fun o e0 R=>?_
  cases o with
  | list l=>
   obtain ⟨-,vs,⟨n,ho⟩,rl⟩:=R
   exact inReads ro ra ho (.inr rfl) rfl rl
  | dict l ep=>
   have h:=sndHas (X:=X) ro ra (List.mem_of_getElem? hp) R
   cases ng with
   | false=>exact fun k r e hr Q q=>show wpAny _ _ (do return .bool (← contains (.ref p.1) x)) Q _ P.s from wpAny_bind (h k r e hr _ fun σ' P' b c l z e'=>wpAny_pure (q σ' P' b _ l (congrArg Value.bool z) e'))
   | true=>exact fun k r e hr Q q=>show wpAny _ _ (do return .bool (!(← contains (.ref p.1) x))) Q _ P.s from wpAny_bind (h k r e hr _ fun σ' P' b c l z e'=>wpAny_pure (q σ' P' b _ l (congrArg (fun b=>Value.bool (!b)) z) e'))
  | _=>exact .fail
 | _=>exact .fail
theorem Ji (r:P.R a x):plainIs x .none=true∧(x==.none)=isNone a:=by
 cases a with
 | none=>rw [show x=.none from r]; exact ⟨rfl,rfl⟩
 | bool b=>rw [show x=.bool b from r]; exact ⟨rfl,rfl⟩
 | int i=>obtain ⟨t,rfl⟩:=r; exact ⟨rfl,rfl⟩
 | str i=>obtain ⟨t,rfl⟩:=r; exact ⟨rfl,rfl⟩
 | tup l=>obtain ⟨p,_,rfl,_⟩:=r; exact ⟨rfl,rfl⟩
 | ref l=>obtain ⟨p,_,rfl⟩:=r; exact ⟨rfl,rfl⟩
 | cdict l=>obtain ⟨p,_,_,rfl,_⟩:=r; exact ⟨rfl,rfl⟩
 | rng l=>obtain ⟨p,_,_,_,_,rfl,_⟩:=r; exact ⟨rfl,rfl⟩
theorem sndI {f:Int→Int→Bool} {op:CmpOp} (ra:P.R a x) (rb:P.R b y) (h:∀ (i j:Int) (t u:Nat) (Q:Value→Shared→Prop),Q (.bool (f i j)) P.s→wpAny (model pw w) A (compareOp op (.int i t) (.int j u)) Q (fun _ _=>False) P.s):Snd X A (cmpI f a b) (compareOp op x y) P RV:=.int ra fun i t e _=>.int rb fun j u e' _=>by
 subst e e'
 exact .vb fun Q q=>h i j t u Q (q P.s.toks)
theorem sndCmp {op:CmpOp} (ro:jO A 1) (ra:P.R a x) (rb:P.R b y):Snd X A (zL op a b) (compareOp op x y) P RV:=by
 unfold zL
 cases op with
 | Eq=>exact (sndEq (ng:=false) ro ra rb).map fun _ _ _ _ z=>z
 | NotEq=>exact (sndEq (ng:=true) ro ra rb).map fun _ _ _ _ z=>z
 | In=>exact (sndIn (ng:=false) ro ra rb).map fun _ _ _ _ z=>z
 | NotIn=>exact (sndIn (ng:=true) ro ra rb).map fun _ _ _ _ z=>z
 | Is=>exact .nn rb fun e=>.vb fun Q q=>e▸wpAny_is_plain (Ji ra).1 (by rw [(Ji ra).2]; exact q P.s.toks)
 | IsNot=>exact .nn rb fun e=>.vb fun Q q=>e▸wpAny_isNot_plain (Ji ra).1 (by rw [(Ji ra).2]; exact q P.s.toks)
 | Lt=>exact sndI ra rb fun i j t u Q q=>lt_int q
 | LtE=>exact sndI ra rb fun i j t u Q q=>le_int q
 | Gt=>exact sndI ra rb fun i j t u Q q=>gt_int q
 | GtE=>exact sndI ra rb fun i j t u Q q=>ge_int q
end
end Wk
end
section
namespace Wk
open Mine (st sm H1 YP pw)
theorem inv_if {c:Prop} [Decidable c] {x r:Res} (h:(if c then x else none)=r) (hr:r≠none):c∧x=r:=by
 by_cases q:c
 ·rw [if_pos q] at h; exact ⟨q,h⟩
 ·rw [if_neg q] at h; exact absurd h.symm hr
theorem za.drop {P:Params} {φ:Phi} {h:Heap}:∀ {l:List V} {vs:List Value} (k:Nat),za P φ h l vs→za P φ h (l.drop k) (vs.drop k)
 | _,_,0,r=>r
 | [],vs,_+1,r=>by rw [show vs=[] from r]; exact rfl
 | _::_,_,k+1,r=>by obtain ⟨_,_,rfl,_,r⟩:=r; exact za.drop k r
theorem za.take {P:Params} {φ:Phi} {h:Heap}:∀ {l:List V} {vs:List Value} (k:Nat),za P φ h l vs→za P φ h (l.take k) (vs.take k)
 | _,_,0,r=>rfl
 | [],vs,_+1,r=>by rw [show vs=[] from r]; exact rfl
 | _::_,_,k+1,r=>by obtain ⟨x,xs,rfl,r0,r⟩:=r; exact ⟨x,xs.take k,rfl,r0,za.take k r⟩
section
variable {prog:Program} {w:World} {A:Around} {E:Value→Shared→Prop} {s:Shared}
theorem adjust_upto (b:Int) (c n:Nat) (h:(0≤b∧b < n∧b=c)∨(b < 0∧b+n=c)):Builtin.Slice.sliceAdjust none (some b) 1 (n:Int)=(0,(c:Int)):=by
 unfold Builtin.Slice.sliceAdjust
 have h1:¬ ((1:Int) < 0):=by lia
 simp only [h1,if_false]
 congr 1
 rcases h with ⟨h0,h2,h3⟩ | ⟨h0,h2⟩
 ·rw [if_neg (by lia)]; lia
 ·rw [if_pos h0]; lia
theorem places_upto (c:Nat):Builtin.Slice.slicePlaces 0 (c:Int) 1=c:=by
 unfold Builtin.Slice.slicePlaces
 have h1:(1:Int) > 0:=by lia
 simp only [h1,if_true,Int.ediv_one]
 split<;>lia
theorem XZ {sl:Addr} {b:Int} {c n:Nat} {u:Tok} {Q:Int×Int×Nat→Shared→Prop} (hs:s.heap.IsSliceOf sl .none (.int b u) .none) (hb:(0≤b∧b < n∧b=c)∨(b < 0∧b+n=c)) (h:Q (0,1,c) s):
  wpAny (model prog w) A (Builtin.Slice.sliceApplied (.ref sl) (pure (n:Int))) Q E s:=by
 obtain ⟨os,hos,hcs,hds⟩:=id hs
 unfold Builtin.Slice.sliceApplied Builtin.Slice.sliceFields
 refine wpAny_bind (wpAny_bind (wpAny_field hos hds (x:=.none) rfl (wpAny_bind (wpAny_field hos hds (x:=.int b u) rfl (wpAny_bind (wpAny_field hos hds (x:=.none) rfl (wpAny_pure ?_)))))))
 refine wpAny_bind (slicePart_none ?_)
 show wpAny _ _ (if ((1:Int)==0)=true then _ else _) _ _ s
 rw [if_neg (by decide)]
 refine wpAny_bind (slicePart_none (wpAny_bind (slicePart_int (wpAny_bind (wpAny_pure ?_)))))
 show wpAny _ _ (match Builtin.Slice.sliceAdjust none (some b) 1 (n:Int) with | (lo,hi)=>pure (lo,(1:Int),Builtin.Slice.slicePlaces lo hi 1)) _ _ s
 rw [adjust_upto b c n hb]
 show wpAny _ _ (pure ((0:Int),(1:Int),Builtin.Slice.slicePlaces 0 (c:Int) 1)) _ _ s
 rw [places_upto c]
 exact wpAny_pure h
theorem pick_upto (xs:Array Value) (c:Nat):((List.range c).filterMap fun (k:Nat)=>xs[((0:Int)+(k:Int)*1).toNat]?).toArray=(xs.toList.take c).toArray:=by
 have e:(fun (k:Nat)=>xs[((0:Int)+(k:Int)*1).toNat]?)=fun k=>xs[0+k]?:=by
  funext k
  have:((0:Int)+(k:Int)*1).toNat=0+k:=by lia
  rw [this]
 rw [e]
 have:=pick_run xs 0 c
 rw [List.filterMap_map] at this
 have e2:((fun x=>xs[x]?)∘fun x=>0+x)=fun k=>xs[0+k]?:=rfl
 rw [e2] at this
 rw [this,List.drop_zero]
theorem XK {t sl:Addr} {items:Array Value} {b:Int} {c:Nat} {u:Tok} {Q:Value→Shared→Prop} (ht:IsTup s.heap t items) (hs:s.heap.IsSliceOf sl .none (.int b u) .none)
  (hb:(0≤b∧b < items.size∧b=c)∨(b < 0∧b+items.size=c)) (hsz:items.size≤sizeLine)
  (h:Q (.ref s.heap.objs.size) {s with heap:=s.heap.push {cls:=.type "tuple",data:=.seq (items.toList.take c).toArray}}):
  wpAny (model prog w) A (getItem (.ref t) (.ref sl)) Q E s:=by
 have hdrop:sizeOk (.seq (items.toList.take c).toArray):=by
  show (items.toList.take c).toArray.size≤sizeLine
  rw [List.size_toArray,List.length_take,Array.length_toList]
  lia
 obtain ⟨os,hos,hcs,hds⟩:=id hs
 have hTs:s.TypeIs (.ref sl) "slice":=⟨os,hos,hcs⟩
 unfold getItem
 try with_reducible refine wpAny_holding ?_
 first | refine wpAny_bind (wpAny_pure ?_) | skip
 refine wpAny_bind (wpAny_sequenceKey ht.typeIs (by decide) ?_)
 refine wpAny_bind (wpAny_callSpecial?_slot (name:=Str.ofString "__getitem__") ht.typeIs slot_tuple_getitem
  (wpAny_call_entry slot_tuple_getitem ht.typeIs entry_tuple_getitem ?_ (args_tuple_getitem _ _)))
 show wpAny _ _ (Builtin.Tuple.tupleItemsOf (.ref t) >>=_) _ _ s
 refine wpAny_bind (tupleItemsOf_ ht ?_)
 refine wpAny_bind (wpAny_typeOf hTs ?_)
 rw [if_pos (by decide)]
 refine wpAny_bind (XZ hs hb ?_)
 have hno:¬ (((0:Int)==0&&(1:Int)==1&&c==items.size)=true):=by
  have:(c==items.size)=false:=by rw [beq_eq_false_iff_ne]; lia
  rw [this]; simp
 show wpAny _ _ (if ((0:Int)==0&&(1:Int)==1&&c==items.size)=true then _ else _) _ _ s
 rw [if_neg hno,pick_upto items c]
 first
  | exact wpAny_bind (m:=Builtin.Tuple.tupleExact _) (wpAny_newObj_type (wpAny_pure ⟨_,rfl,wpAny_pure h⟩) hdrop)
  | exact wpAny_bind (m:=Builtin.Tuple.tupleExact _) (wpAny_newObj_type (wpAny_bind (wpAny_pure (wpAny_pure ⟨_,rfl,wpAny_pure h⟩))) hdrop)
  | exact wpAny_bind (wpAny_bind (m:=Builtin.Tuple.tupleExact _) (wpAny_newObj_type (wpAny_pure (wpAny_pure ⟨_,rfl,wpAny_pure h⟩)) hdrop))
  | exact wpAny_bind (wpAny_bind (m:=Builtin.Tuple.tupleExact _) (wpAny_newObj_type (wpAny_pure ⟨_,rfl,wpAny_pure h⟩) hdrop))
end
section
variable {prog:Program} {w:World} {A:Around} {E:Value→Shared→Prop} {s:Shared}
theorem Ue {α:Type} {l sl:Addr} {items:Array Value} {x:Int} {u:Tok} {o:Obj} {n:Nat} {k:Value×Value×Value→Sem α} {Q:α→Shared→Prop} (hl:s.heap.get? l=some o)
  (hs:s.heap.IsSliceOf sl (.int x u) .none .none) (h:wpAny (model prog w) A (k (rawPart (some x),rawPart none,rawPart none)) Q E s):
  wpAny (model prog w) A (Builtin.List.listSliceParts (.ref sl) >>=k) Q E s:=by
 obtain ⟨os,hos,hcs,hds⟩:=id hs
 rw [listSliceParts_eq]
 have hstep:¬ ((rawPart none==rawInt 0)=true):=Bool.false_ne_true
 refine wpAny_bind (wpAny_bind (wpAny_field hos hds (x:=.none) rfl (wpAny_bind (wpAny_listPart .none ?_))))
 rw [if_neg hstep]
 refine wpAny_bind (wpAny_field hos hds (x:=.int x u) rfl (wpAny_bind (wpAny_listPart (.int _ _) ?_)))
 refine wpAny_bind (wpAny_field hos hds (x:=.none) rfl (wpAny_bind (wpAny_listPart .none (wpAny_pure ?_))))
 exact h
theorem wU {α:Type} {sl:Addr} {vl vu vs:Value} {k:Option Int→Sem α} {Q:α→Shared→Prop}
  (hs:s.heap.IsSliceOf sl vl vu vs) (h:wpAny (model prog w) A (k none) Q E s):wpAny (model prog w) A (Builtin.List.listSubscript? (.ref sl) >>=k) Q E s:=by
 obtain ⟨os,hos,hcs,hds⟩:=id hs
 have hTs:s.TypeIs (.ref sl) "slice":=⟨os,hos,hcs⟩
 refine wpAny_bind ?_
 unfold Builtin.List.listSubscript?
 refine wpAny_bind (wpAny_specialOf hTs slice_no_index ?_)
 simp only [Option.isNone_none,if_true]
 exact wpAny_pure h
theorem W7 (j n:Nat) (h:j≤n):sliceBounds (some (j:Int)) none none n=((j:Int),(n:Int),1):=by
 unfold sliceBounds
 have h1:(1:Int) > 0:=by lia
 simp only [Option.getD_none,h1,if_true]
 have h2:¬ ((j:Int) < 0):=by lia
 simp only [h2,if_false]
 congr 1
 lia
end
theorem del_take_go {g:Value×Nat→Option Value} {j:Nat}:∀ (xs:List Value) (i:Nat),(∀x k,i≤k→k < i+xs.length→g (x,k)=if j≤k then none else some x)→(xs.zipIdx i).filterMap g=xs.take (j - i):=by
 intro xs
 induction xs with
 | nil=>exact fun i _=>by rw [List.take_nil]; rfl
 | cons x xs ih=>
  intro i hp
  have hi:=hp x i (Nat.le_refl _) (Nat.lt_add_of_pos_right (Nat.zero_lt_succ _))
  have ih:=ih (i+1) fun y k h1 h2=>hp y k (Nat.le_of_succ_le h1) (by rw [Nat.add_right_comm] at h2; exact h2)
  rw [List.zipIdx_cons,List.filterMap_cons,hi,ih]
  by_cases h:j≤i
  ·rw [if_pos h,Nat.sub_eq_zero_of_le h,Nat.sub_eq_zero_of_le (Nat.le_succ_of_le h),List.take_zero]; rfl
  ·rw [if_neg h,show j - i=(j - (i+1))+1 by rw [Nat.sub_add_eq,Nat.sub_add_cancel (Nat.sub_pos_of_lt (Nat.lt_of_not_le h))],List.take_succ_cons]
section
variable {w:World} {X:Addr→Prop} {A:Around} {σ:zG} {P:Sx w σ} {a b v:V} {x y z:Value} {sl:Addr}
theorem ZR {l:List V} {vs:List Value} (rl:P.RL l vs) (h:l.length < 1000000):vs.toArray.size≤sizeLine:=by rw [List.size_toArray,za.length rl]; show l.length≤2^24; lia
theorem sndHeadT {l:List V} {vs:List Value} {t:Addr} {i:Int} {u:Tok} (ht:IsTup P.s.heap t vs.toArray) (rl:P.RL l vs) (hs:P.s.heap.IsSliceOf sl .none (.int i u) .none):Snd X A (headT l i) (getItem (.ref t) (.ref sl)) P RV:=fun k r h hr=>by
 have ll:=za.length rl
 unfold headT at h
 have go:∀j:Nat,(0≤i∧i < vs.toArray.size∧i=j)∨(i < 0∧i+vs.toArray.size=j)→l.length < 1000000→k (.tup (l.take j)) σ=r→∀Q:Value→Shared→Prop,(∀ (σ':zG) (P':Sx w σ') b a,Le X P P'→RV σ' P' b a→k b σ'=r→Q a P'.s)→wpAny (model pw w) A (getItem (.ref t) (.ref sl)) Q (fun _ _=>False) P.s:=fun j hb hl e=>
  (Snd.newT (X:=X) (za.take j rl) fun Q q=>XK (c:=j) ht hs hb (ZR rl hl) q) k r e hr
 by_cases c:0≤i∧i < l.length∧l.length < 1000000
 ·rw [if_pos c] at h
  obtain ⟨j,rfl⟩:=Int.eq_ofNat_of_zero_le c.1
  exact go j (.inl ⟨c.1,by rw [List.size_toArray,ll]; exact c.2.1,rfl⟩) c.2.2 h
 ·rw [if_neg c] at h
  obtain ⟨⟨h0,h1,h2⟩,h⟩:=inv_if h hr
  obtain ⟨j,hj⟩:=Int.eq_ofNat_of_zero_le h1
  rw [hj] at h
  exact go j (.inr ⟨h0,by rw [List.size_toArray,ll]; exact hj⟩) h2 h
theorem sndSlice (ra:P.R a x) (rb:P.R b y) (rv:P.R v z) (hs:P.s.heap.IsSliceOf sl y z .none):Snd X A (yA a b v) (getItem x (.ref sl)) P RV:=by
 cases a with
 | tup l=>
  obtain ⟨p,vs,rfl,ht,rl⟩:=ra
  cases b with
  | int i=>
   obtain ⟨t,rfl⟩:=rb
   refine .nn rv fun e=>.when fun ⟨h0,h1,h2⟩=>?_
   subst e
   obtain ⟨j,rfl⟩:=Int.eq_ofNat_of_zero_le (show 0≤i by lia)
   exact .newT (za.drop j rl) fun Q q=>getItem_tuple_from (a:=j) ht hs (by lia) (by rw [List.size_toArray,za.length rl]; lia) q (ZR rl h2)
  | none=>
   obtain rfl:y=.none:=rb
   exact .int rv fun i t e _=>sndHeadT ht rl (e▸hs)
  | _=>exact .fail
 | ref m=>
  obtain ⟨p,hp,rfl⟩:=ra
  cases b with
  | int i=>
   obtain ⟨t,rfl⟩:=rb
   refine .nn rv fun e=>.o hp fun o e0 R=>.l fun l e'=>.when fun c=>?_
   subst e e'
   obtain ⟨-,vs,⟨kk,hl⟩,rl⟩:=R
   obtain ⟨j,rfl⟩:=Int.eq_ofNat_of_zero_le c.1
   refine .newL (za.drop j rl) fun Q q=>wpAny_getItem_list_slice (lo:=some (j:Int)) (hi:=none) (st:=none) ⟨_,hl,rfl,kk,rfl⟩ hs (.int _ _) .none .none nofun ?_ (ZR rl c.2)
   rw [slicePick_from']
   exact q
  | none=>
   obtain rfl:y=.none:=rb
   refine .int rv fun i t e _=>.o hp fun o e0 R=>?_
   subst e
   have go:∀ {l:List V} {vs:List Value} {o:Obj} {kk:Nat},P.s.heap.get? p.1=some o→o.cls=.type "list"→o.data=.seq vs.toArray kk→P.RL l vs→Snd X A (when (0≤i∧l.length < 1000000) (zU (.list (l.take i.toNat)))) (getItem (.ref p.1) (.ref sl)) P RV:=fun {l vs o kk} ho hc hd rl=>.when fun c=>by
    obtain ⟨j,rfl⟩:=Int.eq_ofNat_of_zero_le c.1
    refine .newL (za.take j rl) fun Q q=>wpAny_getItem_list_slice (lo:=none) (hi:=some (j:Int)) (st:=none) ⟨_,ho,hc,kk,hd⟩ hs .none (.int _ _) .none nofun ?_ (ZR rl c.2)
    rw [slicePick_upto']
    exact q
   cases o with
   | list l=>
    obtain ⟨-,vs,⟨kk,hl⟩,rl⟩:=R
    exact go hl rfl rfl rl
   | lit ob l=>
    obtain ⟨-,hl,hcl,vs,kk,hk,rl⟩:=R
    exact go hl hcl hk rl
   | _=>exact .fail
  | _=>exact .fail
 | _=>exact .fail
theorem Snd.tail {n:Nat} {p:Nat×Nat} {l:List V} {vs:List Value} {kk j:Nat} {t:Sem Unit} (hp:P.φ[n]? =some p) (pe:p.2=p.1) (hl:P.s.heap.get? p.1=some ⟨.type "list",none,.seq vs.toArray kk,#[]⟩) (rl:P.RL l vs)
  (g:∀Q:Unit→Shared→Prop,(∀f,f vs.toArray=(vs.take j).toArray→Q () {P.s with heap:=P.s.heap.update p.1 (Obj.mapSeq f)})→wpAny (model pw w) A t Q (fun _ _=>False) P.s):Snd X A (Us n (.list (l.take j)) ()) t P RU:=
 .tn hp (.inl rfl) (fun _ _=>trivial) fun Q q=>g Q fun f hf=>q _ _ (Heap.SameBut.update ..) ⟨_,Heap.get?_update_self _ hl rfl⟩ fun x'=>
  ⟨pe,vs.take j,⟨_,(Heap.get?_update_self _ hl rfl).trans (show some (⟨.type "list",none,.seq (f vs.toArray) _,#[]⟩:Obj)=_ by rw [hf])⟩,za.take _ (za.ext P.S x' zb _ _ rl)⟩
theorem sndDel (ra:P.R a x) (rb:P.R b y) (hs:P.s.heap.IsSliceOf sl y .none .none):Snd X A (fun k=>jX a b (k ())) (delItem x (.ref sl)) P RU:=.rf ra fun n p ex hp _=>.int rb fun i t ey _=>.o hp fun o e0 RO=>.l fun l e=>.when fun ⟨h0,h1,h2⟩=>by
 subst ex ey e
 obtain ⟨pe,vs,⟨kk,hl⟩,rl⟩:=RO
 have ll:=za.length rl
 obtain ⟨j,rfl⟩:=Int.eq_ofNat_of_zero_le h0
 have hj:j≤l.length:=Int.ofNat_le.mp h1
 have hT:P.s.TypeIs (.ref p.1) "list":=⟨_,hl,rfl⟩
 obtain ⟨os,hos,hcs,hds⟩:=id hs
 have hTs:P.s.TypeIs (.ref sl) "slice":=⟨os,hos,hcs⟩
 have sz:vs.toArray.size=vs.length:=List.size_toArray ..
 refine .tail hp pe hl rl fun Q q=>?_
 refine wpAny_delItem_slot hT (by decide) PySem.F.slot_list_delitem (wpAny_call_entry PySem.F.slot_list_delitem hT PySem.F.entry_list_delitem ?_ (PySem.F.args_list_delitem_2 _ _))
 unfold Builtin.«list.__delitem__»
 refine wpAny_bind (wpAny_pure ?_)
 refine wU hs ?_
 refine wpAny_bind (wpAny_typeOf hTs ?_)
 rw [if_neg (by decide)]
 refine Ue hl hs ?_ (n:=0) (items:= #[])
 refine wpAny_bind (listItems_at hl rfl ?_)
 refine wpAny_bind (wpAny_of_eq (sliceIndices_raw (some (j:Int)) none none vs.toArray.size nofun) ?_)
 rw [W7 j _ (by rw [sz,ll]; exact hj)]
 refine wpAny_bind (wpAny_rule ?_)
 refine wpAny_bind (listUpdate_at hl rfl ?_ (ZR rl h2) (by
  refine Nat.le_trans (Nat.le_of_eq (List.size_toArray ..)) (Nat.le_trans (List.length_filterMap_le ..) ?_)
  rw [List.length_zipIdx,List.toList_toArray,ll]; show l.length≤2^24+1; lia))
 refine wpAny_bind (wpAny_letGo (wpAny_pure ⟨.none,rfl,q _ ?_⟩))
 refine congrArg List.toArray ((del_take_go (j:=j) vs 0 fun y k _ hk=>?_).trans (by rw [Nat.sub_zero]; rfl))
 rw [Nat.zero_add] at hk
 change (if (if (1:Int) > 0 then decide ((j:Int)≤(k:Int))&&decide ((k:Int) < ((vs.toArray.size:Nat):Int))&&(((k:Int) - (j:Int)) % 1==0)
  else decide (((vs.toArray.size:Nat):Int) < (k:Int))&&decide ((k:Int)≤(j:Int))&&(((j:Int) - (k:Int)) % (-1)==0))=true then none else some y)=if j≤k then none else some y
 rw [if_pos (by decide:(1:Int) > 0),sz,Int.emod_one,decide_eq_true (Int.ofNat_lt.mpr hk)]
 by_cases h:j≤k
 ·rw [if_pos h,decide_eq_true (Int.ofNat_le.mpr h)]; rfl
 ·rw [if_neg h,decide_eq_false fun q=>h (Int.ofNat_le.mp q)]; rfl
theorem sndTail (ra:P.R a x) (rb:P.R b y) (rv:P.R v z) (hs:P.s.heap.IsSliceOf sl y .none .none):Snd X A (fun k=>ZC a b v (k ())) (setItem x (.ref sl) z) P RU:=.rf ra fun n p ex hp _=>.int rb fun i t ey _=>.rf rv fun m p2 ez hp2 _=>.o hp fun o e0 RO=>.l fun l e=>.o hp2 fun o' e0' RO'=>.l fun u e'=>.when fun ⟨h0,h1,h2,h3,h4⟩=>by
 subst ex ey ez e e'
 obtain ⟨pe,vs,⟨kk,hl⟩,rl⟩:=RO
 obtain ⟨-,us,⟨kk2,hl2⟩,rl2⟩:=RO'
 have ll:=za.length rl
 obtain rfl:us=[]:=List.length_eq_zero_iff.mp ((za.length rl2).trans h2)
 obtain ⟨j,rfl⟩:=Int.eq_ofNat_of_zero_le h0
 have hj:j≤l.length:=Int.ofNat_le.mp h1
 have hT:P.s.TypeIs (.ref p.1) "list":=⟨_,hl,rfl⟩
 have hT2:P.s.TypeIs (.ref p2.1) "list":=⟨_,hl2,rfl⟩
 obtain ⟨os,hos,hcs,hds⟩:=id hs
 have hTs:P.s.TypeIs (.ref sl) "slice":=⟨os,hos,hcs⟩
 have sz:vs.toArray.size=vs.length:=List.size_toArray ..
 refine .tail hp pe hl rl fun Q q=>?_
 unfold setItem
 try with_reducible refine wpAny_holding ?_
 refine wpAny_bind (wpAny_sequenceKey hT (by decide) ?_)
 refine wpAny_bind (wpAny_callSpecial?_slot (name:=Str.ofString "__setitem__") hT slot_list_setitem (wpAny_call_entry slot_list_setitem hT entry_list_setitem ?_ (args_list_setitem _ _ _)))
 unfold Builtin.«list.__setitem__»
 refine wpAny_bind (wpAny_pure ?_)
 refine wU hs ?_
 refine wpAny_bind (wpAny_typeOf hTs ?_)
 rw [if_neg (by decide)]
 refine Ue hl hs ?_ (n:=0) (items:= #[])
 rw [show Builtin.List.listSameRef (.ref p.1) (.ref p2.1)=false from beq_eq_false_iff_ne.mpr fun e=>h3 (P.S.apart n m p p2 hp hp2 (.inl e))]
 simp only [Bool.false_eq_true,if_false]
 unfold Builtin.List.listAllItems
 refine wpAny_bind (wpAny_bind (wpAny_typeOf hT2 ?_))
 rw [if_pos (by decide)]
 refine listItems_at hl2 rfl ?_
 refine wpAny_bind (listItems_at hl rfl ?_)
 refine wpAny_bind (wpAny_of_eq (sliceIndices_raw (some (j:Int)) none none vs.toArray.size nofun) ?_)
 rw [W7 j _ (by rw [sz,ll]; exact hj)]
 rw [if_pos (show ((1:Int)==1)=true from rfl)]
 refine wpAny_bind (wpAny_rule ?_)
 rw [if_neg (by rw [sz,ll]; simp [Builtin.List.listTooLong,sizeLine]; lia)]
 have hmx:max (j:Int) ((vs.toArray.size:Nat):Int)=((vs.toArray.size:Nat):Int):=Int.max_eq_right (by rw [sz,ll]; exact h1)
 have hff:∀xs:Array Value,xs=vs.toArray→xs.extract 0 (j:Int).toNat++(#[]:Array Value)++xs.extract (max (j:Int) ((vs.toArray.size:Nat):Int)).toNat xs.size=(vs.take j).toArray:=by
  rintro xs rfl
  rw [hmx,Int.toNat_natCast,Int.toNat_natCast]
  apply Array.toList_inj.mp
  simp
 refine wpAny_bind (listUpdate_at hl rfl ?_ (ZR rl h4) (by
  show (vs.toArray.extract 0 (j:Int).toNat++(#[]:Array Value)++vs.toArray.extract (max (j:Int) ((vs.toArray.size:Nat):Int)).toNat vs.toArray.size).size≤_
  rw [hff _ rfl,List.size_toArray,List.length_take]; show _≤2^24+1; lia))
 exact wpAny_bind (wpAny_letGo (wpAny_pure ⟨.none,rfl,wpAny_pure (q _ (hff _ rfl))⟩))
end
end Wk
end
section
namespace Wk
open Mine
noncomputable def KA (P:Params):Frag:=fr P [43,44,146,147,180,181,222,223,281,282,450,451,471,472,506,507,583,584,618,619,672,673,693,694,721,722,742,743,917,918,983,984,1002,1003,1047,1048,1073,1074,1092,1093,1118,1119,1263,1264]
theorem KA_in {w:World} {h:Heap} (y:YP w h):(KA w.params).In h:=by
 have k:(KA w.params).In (H1 w.params):=fr_in w.params rfl
 exact fun a o e=>y a o (k a o e)
noncomputable def yes:Option (Option Value)→Bool
 | some none=>true
 | _=>false
noncomputable def isBlt (x:String):Option (Option Value)→Bool
 | some (some (.builtin y))=>x==y
 | _=>false
noncomputable def clsOk (P:Params) (c:Nat):Bool:=match yu[c]?,P0.cls[c]? with
 | some C,some r=>isBlt "object.__getattribute__" (findIn (KA P) (.ref C) "__getattribute__")&&yes (findIn (KA P) (.ref C) "__getattr__")&&isBlt "object.__setattr__" (findIn (KA P) (.ref C) "__setattr__")&&
   plainOver (KA P) C&&(clsIn (KA P) C).any (·.hasDict)&&r.attrs.all fun x=>yes (findIn (KA P) (.ref C) x)
 | _,_=>false
theorem clsOk_all (P:Params):(List.range 21).all (clsOk P)=true:=by kernel_rfl
theorem of_yes {x:Option (Option Value)} (h:yes x=true):x=some none:=by
 cases x with
 | none=>cases h
 | some a=>cases a with | none=>rfl | some _=>cases h
theorem of_isBlt {n:String} {x:Option (Option Value)} (h:isBlt n x=true):x=some (some (.builtin n)):=by
 cases x with
 | none=>cases h
 | some a=>cases a with
  | none=>cases h
  | some v=>cases v<;>first | (rw [eq_of_beq h]) | cases h
structure ClsFacts (P:Params) (C:Nat):Prop where
 ga:findIn (KA P) (.ref C) "__getattribute__"=some (some (.builtin "object.__getattribute__"))
 gt:findIn (KA P) (.ref C) "__getattr__"=some none
 sa:findIn (KA P) (.ref C) "__setattr__"=some (some (.builtin "object.__setattr__"))
 over:plainOver (KA P) C=true
 dict:(clsIn (KA P) C).any (·.hasDict)=true
theorem uI {P:Params} {c C:Nat} (hc:clsAddr c=some C):ClsFacts P C∧∀x,WN P0 c x=true→findIn (KA P) (.ref C) x=some none:=by
 have h:=List.all_eq_true.mp (clsOk_all P) c (List.mem_range.mpr (List.getElem?_eq_some_iff.mp (show yu[c]? =some C from hc)).1)
 unfold clsOk at h
 rw [show yu[c]? =some C from hc] at h
 rcases hr:P0.cls[c]? with _ | r
 ·rw [hr] at h; exact no h
 rw [hr] at h
 obtain ⟨h,h6⟩:=zW h
 obtain ⟨h,h5⟩:=zW h
 obtain ⟨h,h4⟩:=zW h
 obtain ⟨h,h3⟩:=zW h
 obtain ⟨h1,h2⟩:=zW h
 refine ⟨⟨of_isBlt h1,of_yes h2,of_isBlt h3,h4,h5⟩,fun x hx=>?_⟩
 unfold WN at hx
 rw [hr] at hx
 obtain ⟨y,hy,e⟩:=List.any_eq_true.mp hx
 obtain rfl:=Fast.sEq_iff.mp e
 exact of_yes (List.all_eq_true.mp h6 _ hy)
theorem isStr_eq {x y:Str} {t:Tok} {k:Value} (h:k=.str y t):k.isStr x=Fast.sEq x y:=by
 rw [h,Bool.eq_iff_iff,Fast.sEq_iff]
 show (y==x)=true↔x=y
 rw [beq_iff_eq]
 exact ⟨Eq.symm,Eq.symm⟩
section
variable {P:Params} {φ:Phi} {h:Heap} {x:Str}
theorem jI.find:∀ {fs:List (Str×V)} {es:List DictEntry},jI P φ h fs es→(∀v,zO x fs=some v→ZI (fun e=>es.find? (·.key.isStr x)=some e) (fun e=>zo P φ h v e.val))∧(zO x fs=none→es.find? (·.key.isStr x)=none∧es.any (·.refKey)=false)
 | [],es,r=>by rw [show es=[] from r]; exact ⟨nofun,fun _=>⟨rfl,rfl⟩⟩
 | (y,a)::fs,_,r=>by
  obtain ⟨e,xs,t,rfl,r0,r1,r2,r3⟩:=r
  obtain ⟨i1,i2⟩:=jI.find r3
  rw [List.find?_cons,isStr_eq r1,zO]
  cases Fast.sEq x y with
  | true=>exact ⟨fun v hv=>⟨e,rfl,Option.some.inj hv▸r2⟩,nofun⟩
  | false=>exact ⟨i1,fun hv=>⟨(i2 hv).1,by rw [List.any_cons,(i2 hv).2,show e.refKey=false by unfold DictEntry.refKey; rw [r1]]; rfl⟩⟩
theorem jI.length:∀ {fs:List (Str×V)} {es:List DictEntry},jI P φ h fs es→es.length=fs.length
 | [],es,r=>by rw [show es=[] from r]; rfl
 | (y,a)::fs,_,r=>by obtain ⟨e,xs,t,rfl,r0,r1,r2,r3⟩:=r; exact congrArg (·+1) (jI.length r3)
theorem jI.put {v:V} {y:Value} {tk:Tok} (rv:zo P φ h v y):∀ {fs:List (Str×V)} {es:List DictEntry},jI P φ h fs es→(∀i,es.findIdx? (·.key.isStr x)=some i→jI P φ h (ZJ x v fs) (es.modify i fun e=>{e with val:=y}))∧(es.findIdx? (·.key.isStr x)=none→jI P φ h (ZJ x v fs) (es++[⟨PyData.keyHash P x,.str x tk,y⟩]))
 | [],es,r=>by
  rw [show es=[] from r]
  exact ⟨nofun,fun _=>⟨_,[],tk,rfl,rfl,rfl,rv,rfl⟩⟩
 | (z,a)::fs,_,r=>by
  obtain ⟨e,xs,t,rfl,r0,r1,r2,r3⟩:=r
  obtain ⟨i1,i2⟩:=jI.put (tk:=tk) rv r3
  rw [List.findIdx?_cons,isStr_eq r1,ZJ]
  cases Fast.sEq x z with
  | true=>exact ⟨fun i hi=>Option.some.inj hi▸⟨_,_,t,rfl,r0,r1,rv,r3⟩,nofun⟩
  | false=>
   refine ⟨fun i hi=>?_,fun hi=>⟨_,_,t,rfl,r0,r1,r2,i2 (Option.map_eq_none_iff.mp hi)⟩⟩
   obtain ⟨j,hj,rfl⟩:=Option.map_eq_some_iff.mp hi
   exact ⟨_,_,t,rfl,r0,r1,r2,i1 j hj⟩
theorem jI.name {fs:List (Str×V)} {es:Array DictEntry} {m:Nat} {z:Value} {tk:Tok} {v:V}:WP (fun es' n'=>Obj.putName x (PyData.keyHash P x) (.str x tk) z ⟨.type "dict",none,.dict es m,#[]⟩=⟨.type "dict",none,.dict es' n',#[]⟩) (fun es' _=>es'.size≤es.size+1) (fun es' _=>∀φ' h',jI P φ' h' fs es.toList→zo P φ' h' v z→jI P φ' h' (ZJ x v fs) es'.toList):=by
 rw [Obj.putName_eq]
 unfold Obj.putNameByArray
 rcases hi:es.findIdx? (·.key.isStr x) with _ | i
 ·refine ⟨es.push ⟨PyData.keyHash P x,.str x tk,z⟩,m+1,by dsimp only; rw [hi],by rw [Array.size_push]; exact Nat.le_refl _,fun φ' h' rf rv=>?_⟩
  rw [Array.toList_push]
  exact (jI.put (tk:=tk) rv rf).2 (by rw [← findIdx?_toList']; exact hi)
 ·refine ⟨es.modify i fun e=>{e with val:=z},m,by dsimp only; rw [hi],by rw [Array.size_modify]; exact Nat.le_succ _,fun φ' h' rf rv=>?_⟩
  rw [Array.toList_modify]
  exact (jI.put (tk:=tk) rv rf).1 i (by rw [← findIdx?_toList']; exact hi)
end
section
variable {w:World} {X:Addr→Prop} {A:Around} {σ:zG} {P:Sx w σ} {a v:V} {y z:Value} {x:Str}
theorem handed_of (r:P.R a y):handedIn y=true:=by
 cases a with
 | none=>rw [show y=.none from r]; rfl
 | bool b=>rw [show y=.bool b from r]; rfl
 | int i=>obtain ⟨t,rfl⟩:=r; rfl
 | str i=>obtain ⟨t,rfl⟩:=r; rfl
 | tup l=>obtain ⟨p,_,rfl,_⟩:=r; rfl
 | ref n=>obtain ⟨p,_,rfl⟩:=r; rfl
 | cdict l=>obtain ⟨p,_,_,rfl,_⟩:=r; rfl
 | rng n=>obtain ⟨p,_,_,_,_,rfl,_⟩:=r; rfl
theorem sndAttr {ex:Bool} (ra:P.R a y):Snd X A (zD P0 a x) (getAttr y x ex) P RV:=.ob ra fun n p o ey hp _ e0 RO=>.i fun c fs eo=>.chk fun hat=>.sm fun v hl=>by
 subst ey eo
 obtain ⟨C,es,m,hC,h1,h2,rf⟩:=RO
 obtain ⟨F,fa⟩:=uI (P:=w.params) hC
 obtain ⟨e,he,rv⟩:=(jI.find rf).1 v hl
 obtain ⟨cd,hcd,hdict⟩:=any_some F.dict
 refine .v rv fun Q q=>get_value (KA_in P.S.base) (⟨h1,rfl,rfl,h2⟩:InstAt P.s.heap p.1 (instObj C p.2) C (some ⟨.type "dict",none,.dict es m,#[]⟩)) F.ga ?_ (handed_of rv) (q _)
 have lk:lookIn x ⟨.type "dict",none,.dict es m,#[]⟩=some (some e.val):=by simp only [lookIn,he]
 simp only [findObj,hcd,fa x hat,Option.bind_some,PySem.W.ownOf,hdict,if_true,lk]
theorem sndSetA (ra:P.R a y) (rz:P.R v z):Snd X A (fun k=>zK P0 a x v (k ())) (setAttr y x z) P RU:=.ob ra fun n p o ey hp _ e0 RO=>.i fun c fs eo=>.chk fun hat=>.when fun hsz=>by
 subst ey eo
 obtain ⟨C,es,m,hC,h1,h2,rf⟩:=RO
 obtain ⟨F,fa⟩:=uI (P:=w.params) hC
 have Xa:=KA_in P.S.base
 have ll:=jI.length rf
 have hany:(!es.any (·.key.isStr x)&&es.any (·.refKey))=false:=by
  rw [← Array.any_toList,← Array.any_toList]
  obtain ⟨f1,f2⟩:=jI.find (x:=x) rf
  rcases hl:zO x fs with _ | v
  ·rw [(f2 hl).2,Bool.and_false]
  ·obtain ⟨e,he,-⟩:=f1 v hl; rw [List.any_eq_true.mpr ⟨e,List.mem_of_find?_eq_some he,List.find?_some he⟩]; rfl
 obtain ⟨es',n',e1,hz,rf'⟩:=jI.name (P:=w.params) (x:=x) (fs:=fs) (es:=es) (m:=m) (z:=z) (tk:=P.s.toks+1) (v:=v)
 have hdx:p.1≠p.2:=fun q=>by
  rw [q] at h1
  rw [h1] at h2
  cases h2
 have D':(P.s.heap.update p.2 (Obj.putName x (PyData.keyHash w.params x) (.str x (P.s.toks+1)) z)).get? p.2=some ⟨.type "dict",none,.dict es' n',#[]⟩:=(Heap.get?_update_self _ h2 (by rw [e1]; rfl)).trans (congrArg some e1)
 refine .tn (o':=.inst c (ZJ x v fs)) (u:=()) hp (.inr rfl) (fun _ _=>trivial) fun Q q=>?_
 have fin:=fun tk'=>q _ tk' (Heap.SameBut.update ..) ⟨_,D'⟩ fun x'=>⟨C,es',n',hC,(Heap.get?_update_ne _ _ _ _ hdx).trans h1,D',rf' _ _ (jI.ext P.S x' zb _ _ rf) (zo.ext P.S x' zb _ _ rz)⟩
 have I:InstAt P.s.heap p.1 (instObj C p.2) C (some ⟨.type "dict",none,.dict es m,#[]⟩):=⟨h1,rfl,rfl,h2⟩
 refine set_plain Xa I F.sa ?_
 refine osa_open (r:=none) Xa I F.over (by unfold takerIn; rw [fa x hat]; rfl) fun b=>?_
 obtain ⟨cd,hc,hd'⟩:=any_some F.dict
 refine wpAny_bind (wpAny_pure (wpAny_bind (wpAny_bind (wpAny_loadPart h1 (wpAny_bind (looks_clsIn Xa hc _ _ _ _ (fun _ _ e=>e) ?_))))))
 rw [hd']
 refine wpAny_pure (a:=some p.2) (wpAny_bind (wpAny_pure (wpAny_bind ?_)))
 unfold nsSet
 refine wpAny_bind (wpAny_bind (wpAny_askSetting (wpAny_pure (wpAny_bind (wpAny_mkText (wpAny_bind (wpAny_loadPart h2 ?_)))))))
 dsimp only
 rw [aRefKeyMayBeTheName_at,hany]
 refine wpAny_updatePart h2 ?_
 refine wpAny_bind (wpAny_lookBehind D' (pastItsLine_dict (by
  have e2:es.toList.length=es.size:=Array.length_toList
  rw [sizeLine_eq]; lia)) ?_)
 exact wpAny_pure (fin _)
end
end Wk
end
section
namespace Wk
open Mine (st sm H1 YP pw)
theorem intKeys_cons {k v:V} {l:List (V×V)} (ok:yf ((k,v)::l)=true):∃i,k=.int i∧yf l=true:=by
 obtain ⟨o1,o2⟩:=zW (show (isInt k&&yf l)=true from ok)
 cases k<;>first | exact no o1 | exact ⟨_,rfl,o2⟩
theorem Z3 {w:World} {φ:Phi} {h:Heap}:∀ {l:List (V×V)} {es:List DictEntry},yf l=true→zy w.params φ h l es→
  Pairs (intKind pw w) es (zh l es)∧(zh l es).length=l.length∧(zh l es).map (fun e=>V.int e.1)=l.map (·.1)∧(∀e∈l,JW e.1=1)∧IntsAre (es.map (·.key)) ((zh l es).map (·.1))
 | [],es,_,r=>by
  rw [show es=[] from r]
  exact ⟨.nil,rfl,rfl,fun _ h=>(by cases h),.nil⟩
 | (k,v)::l,_,ok,r=>by
  obtain ⟨e,es,rfl,r0,r1,r2,r3⟩:=r
  obtain ⟨i,rfl,ok'⟩:=intKeys_cons ok
  obtain ⟨a1,a2,a5,a6,a7⟩:=Z3 ok' r3
  obtain ⟨t,rk⟩:=r1
  refine ⟨.cons (kv:=(i,e.val)) (e:=e) (by rw [rk]; exact decide_eq_true rfl) rfl a1,congrArg (·+1) a2,congrArg (V.int i::·) a5,fun e he=>?_,?_⟩
  ·rcases List.mem_cons.mp he with rfl | he
   ·rfl
   ·exact a6 e he
  ·rw [List.map_cons,rk]; exact .cons _ _ a7
theorem uG {w:World} {φ:Phi} {h:Heap} {d:Addr} {es:Array DictEntry} {n:Nat} {l:List (V×V)} (ho:h.get? d=some ⟨.type "dict",none,.dict es n,#[]⟩) (hD:jD l) (ok:yf l=true) (r:zy w.params φ h l es.toList):
  h.DictAt (intKind pw w) d (zh l es.toList) n:=by
 obtain ⟨a1,-,a5,a6,-⟩:=Z3 ok r
 obtain ⟨k1,-⟩:=Xn (prog:=pw) a6 r
 refine ⟨_,es,ho,⟨rfl,rfl,rfl⟩,rfl,fun e he=>k1 e (Array.mem_toList_iff.mpr he),a1,?_⟩
 have nd:=hD.1
 rw [← a5] at nd
 have:(((zh l es.toList).map (·.1)).map V.int).Nodup:=by rw [List.map_map]; exact nd
 exact (List.pairwise_map.mp this).imp fun h e=>h (congrArg V.int e)
theorem U6:∀ (vs:List Value) (ns:List Int),vs.length=ns.length→(∀ (j:Nat) (v:Value),vs[j]? =some v→∃k:Int,ns[j]? =some k∧Value.isInt k v=true)→IntsAre vs ns
 | [],[],_,_=>.nil
 | [],_::_,e,_=>by cases e
 | _::_,[],e,_=>by cases e
 | v::vs,n::ns,e,h=>by
  obtain ⟨k,h1,h2⟩:=h 0 v rfl
  obtain rfl:n=k:=by simpa using h1
  obtain ⟨t,rfl⟩:=Value.isInt_shape h2
  exact .cons _ _ (U6 vs ns (by simpa using e) fun j x hj=>h (j+1) x (by simpa using hj))
theorem Qn:splitId "dict.__len__"=some ("dict","__len__"):=by decide+kernel
section
variable {w:World} {A:Around} {E:Value→Shared→Prop} {s:Shared}
theorem ite_yes {α:Type} {M:Model} {c:Prop} [Decidable c] {a b:Sem α} {Q:α→Shared→Prop} (hc:c) (h:wpAny M A a Q E s):wpAny M A (if c then a else b) Q E s:=by rw [if_pos hc]; exact h
theorem collect_dict {d:Addr} {kvs:List (Int×Value)} {ep:Nat} {Q:List Value→Shared→Prop} (hh:A.handled=none) (hd:(d==sysModules)=false) (hm:s.heap.DictAt (intKind pw w) d kvs ep) (hsz:kvs.length≤sizeLine)
  (h:∀s' vs,(∀b o,s.heap.get? b=some o→s'.heap.get? b=some o)→s'.gens=s.gens→s'.os=s.os→IntsAre vs (kvs.map (·.1))→Q vs s'):
  wpAny (model pw w) A (collect (.ref d)) Q E s:=by
 unfold collect
 refine wpAny_bind (wpAny_runValue (codeAny_builtin entry_proto_collect' ?_))
 show wpAny _ _ (do again (.builtin "list.__iadd__" ⟨[← newList [],.ref d],[]⟩)) _ _ s
 refine wpAny_bind (wpAny_newList (wpAny_pure ⟨Code.quiet_builtin _ (by decide+kernel),codeAny_builtin entry_list_iadd' ?_⟩))
 show wpAny _ _ (Builtin.List.listExtendWith (.ref s.heap.objs.size) (.ref d) (.ref s.heap.objs.size)) _ _ {s with heap:=s.heap.push (seqObj "list" #[] 0)}
 unfold Builtin.List.listExtendWith
 have hm1:=hm.push (seqObj "list" #[] 0)
 have hT:∀s:Shared,s.heap.DictAt (intKind pw w) d kvs ep→s.TypeIs (.ref d) "dict":=fun s x=>x.dictOf.typeIs
 have hne:s.heap.objs.size≠d:=fun e=>Nat.lt_irrefl _ (e▸hm.lt_size)
 refine wpAny_bind (wpAny_typeOf (hT _ hm1) ?_)
 have hs:Builtin.List.listSameRef (.ref s.heap.objs.size) (.ref d)=false:=beq_eq_false_iff_ne.mpr hne
 rw [if_neg (by rw [hs]; decide)]
 refine wpAny_bind (wpAny_pyIter_dict hd hm1 ?_)
 have hsz1:(s.heap.push (seqObj "list" #[] 0)).objs.size=s.heap.objs.size+1:=size_push' ..
 have hm2:=hm1.push {cls:=.type "dict_keyiterator",data:=.fields #[.ref d,.int 0 0,.int kvs.length 0,.int ep 0]}
 refine wpAny_bind (wpAny_holding ?_)
 unfold Builtin.List.listLengthHint
 refine wpAny_bind (wpAny_specialOf (hT _ hm2) PySem.F.slot_dict_len.lookup ?_)
 dsimp only
 rw [Qn]
 refine wpAny_bind (wpAny_isInstance (b:=true) (hT _ hm2) (by rw [isSubtype_type]; kernel_rfl) ?_)
 rw [if_neg (show ¬ ((!true)=true) from Bool.false_ne_true)]
 refine ite_yes (by decide+kernel) ?_
 refine wpAny_bind (wpAny_typeOf (hT _ hm2) ?_)
 refine wpAny_pure ?_
 refine ite_yes (by decide+kernel) ?_
 refine wpAny_bind (wpAny_rule ?_)
 have hL:((s.heap.push (seqObj "list" #[] 0)).push {cls:=.type "dict_keyiterator",data:=.fields #[.ref d,.int 0 0,.int kvs.length 0,.int ep 0]}).get? s.heap.objs.size=some (seqObj "list" #[] 0):=Heap.get?_push_of_some _ (Heap.get?_push_size _ rfl)
 unfold Builtin.List.listTouch
 refine wpAny_bind (wpAny_bind (listUpdate_at hL rfl ?_))
 obtain ⟨e1,hL1⟩:∃e1,(((s.heap.push (seqObj "list" #[] 0)).push {cls:=.type "dict_keyiterator",data:=.fields #[.ref d,.int 0 0,.int kvs.length 0,.int ep 0]}).update s.heap.objs.size (Obj.mapSeq (·.push .none))).get? s.heap.objs.size=some (seqObj "list" #[.none] e1):=⟨_,get?_update_seq hL (·.push .none)⟩
 refine listUpdate_at hL1 rfl ?_
 obtain ⟨e2,hL2⟩:∃e2,((((s.heap.push (seqObj "list" #[] 0)).push {cls:=.type "dict_keyiterator",data:=.fields #[.ref d,.int 0 0,.int kvs.length 0,.int ep 0]}).update s.heap.objs.size (Obj.mapSeq (·.push .none))).update s.heap.objs.size (Obj.mapSeq (·.pop))).get? s.heap.objs.size=some (seqObj "list" #[] e2):=⟨_,get?_update_seq hL1 (·.pop)⟩
 generalize hH:(((s.heap.push (seqObj "list" #[] 0)).push {cls:=.type "dict_keyiterator",data:=.fields #[.ref d,.int 0 0,.int kvs.length 0,.int ep 0]}).update s.heap.objs.size (Obj.mapSeq (·.push .none))).update s.heap.objs.size (Obj.mapSeq (·.pop))=H at hL2 ⊢
 have keep:∀b o,b≠s.heap.objs.size→((s.heap.push (seqObj "list" #[] 0)).push {cls:=.type "dict_keyiterator",data:=.fields #[.ref d,.int 0 0,.int kvs.length 0,.int ep 0]}).get? b=some o→H.get? b=some o:=fun b o nb e=>by
  rw [← hH,Heap.get?_update_ne _ _ _ _ nb,Heap.get?_update_ne _ _ _ _ nb]; exact e
 have hitm:H.IsKeyIter (s.heap.objs.size+1) d 0 kvs.length ep:=⟨_,keep _ _ (by lia) (by rw [← hsz1]; exact Heap.get?_push_size _ rfl),rfl,rfl⟩
 have hdm:H.DictAt (intKind pw w) d kvs ep:=hm2.at' fun o e=>keep _ o (Ne.symm hne) e
 have hdI:d≠s.heap.objs.size+1:=Nat.ne_of_lt (Nat.lt_succ_of_lt hm.lt_size)
 refine wpAny_pure ⟨plainId_quiet PySem.F.plain_extend_loop _,?_⟩
 rw [hsz1]
 refine codeAny_extend_loopS (Walks.dictKeys (prog:=pw) (w:=w) (knd:=intKind pw w) (A:=A.in1) hh (s.heap.objs.size+1) d hdI kvs ep).toS hsz _ (by simp [hne]) _ kvs.length 0 {s with heap:=H} #[] e2 rfl (Nat.zero_le _) ⟨hitm,hdm⟩ hL2 (ItemsOf.nil _) fun s' acc' c' hm' hS' hacc=>?_
 show wpAny _ A (load s.heap.objs.size >>=_) _ _ s'
 refine wpAny_bind (wpAny_load hS' ?_)
 refine wpAny_pure (h s' acc'.toList (fun b o e=>?_) hm'.gens hm'.os (U6 _ _ (by simp [hacc.1]) fun j v hj=>?_))
 ·have hb:b < s.heap.objs.size:=Heap.lt_size e
  have n1:b≠s.heap.objs.size:=Nat.ne_of_lt hb
  have n2:b≠s.heap.objs.size+1:=Nat.ne_of_lt (Nat.lt_succ_of_lt hb)
  refine hm'.heap b o (by simp [n1,n2]) (keep b o n1 (Heap.get?_push_of_some _ (Heap.get?_push_of_some _ e)))
 ·obtain ⟨k,x,hk,hv⟩:=hacc.2 j v (by simpa using hj)
  exact ⟨k,by rw [List.getElem?_map,hk]; rfl,hv⟩
theorem WY (i:Int):∀l,(wE i l).Perm (i::l)
 | []=>.refl _
 | j::r=>by
  rw [wE]
  split
  ·exact .refl _
  ·exact ((WY i r).cons j).trans (.swap ..)
theorem Uc:∀l,(Wh l).Perm l
 | []=>.refl _
 | i::r=>(WY i _).trans ((Uc r).cons i)
theorem Wn {i:Int}:∀ {l:List Int},l.Pairwise (·≤·)→(wE i l).Pairwise (·≤·)
 | [],_=>List.pairwise_singleton ..
 | j::r,h=>by
  rw [wE]
  obtain ⟨a,b⟩:=List.pairwise_cons.mp h
  split
  ·rename_i hij
   refine List.pairwise_cons.mpr ⟨fun x hx=>?_,h⟩
   rcases List.mem_cons.mp hx with rfl | hx
   ·exact hij
   ·exact Int.le_trans hij (a x hx)
  ·rename_i hij
   refine List.pairwise_cons.mpr ⟨fun x hx=>?_,Wn b⟩
   rcases List.mem_cons.mp ((WY i r).mem_iff.mp hx) with rfl | hx
   ·lia
   ·exact a x hx
theorem XX:∀l:List Int,(Wh l).Pairwise (·≤·)
 | []=>.nil
 | i::r=>Wn (XX r)
theorem Q3 {l m:List Int} (p:l.Perm m) (h:l.Pairwise (·≤·)) (h':m.Pairwise (·≤·)):l=m:=p.eq_of_pairwise (fun a b _ _ x y=>Int.le_antisymm x y) h h'
theorem sorted_dict {d:Addr} {kvs:List (Int×Value)} {ep:Nat} {Q:Value→Shared→Prop} (hh:A.handled=none) (hd:(d==sysModules)=false) (hm:s.heap.DictAt (intKind pw w) d kvs ep) (hsz:kvs.length < 64)
  (h:∀ (s':Shared) (l:Addr) (vs:List Value) (e:Nat),s.heap.get? l=none→s'.heap.get? l=some (seqObj "list" vs.toArray e)→(∀b o,s.heap.get? b=some o→s'.heap.get? b=some o)→s'.gens=s.gens→s'.os=s.os→IntsAre vs (Wh (kvs.map (·.1)))→Q (.ref l) s'):
  wpAny (model pw w) A (call (.builtin "sorted") [.ref d]) Q E s:=by
 refine Calls.call_function_entry kind_sorted plain_sorted entry_sorted (args_sorted1 _) ?_
 unfold Builtin.«sorted»
 refine wpAny_bind (m:=checkCount "sorted" 1 1 _) (wpAny_pure ?_)
 refine wpAny_bind (collect_dict hh hd hm (by rw [sizeLine_eq]; lia) fun s1 vs k1 g1 o1 i1=>?_)
 refine wpAny_bind (wpAny_newList ?_)
 have hl1:vs.length < 64:=by rw [IntsAre.length i1,List.length_map]; exact hsz
 have hoL:(s1.heap.push (seqObj "list" vs.toArray 0)).get? s1.heap.objs.size=some (seqObj "list" vs.toArray 0):=Heap.get?_push_size _ rfl
 refine wpAny_bind (wpAny_holding (wpAny_call_entry slot_list_sort ⟨_,hoL,rfl⟩ entry_list_sort (list_sort_tree hoL i1 hl1 fun out ns' a1 a2 a3=>⟨_,rfl,?_⟩) (args_list_sort _)))
 obtain ⟨e,he⟩:=sortedHeap_at (out:=out) hoL
 have hns:s.heap.get? s1.heap.objs.size=none:=by
  cases q:s.heap.get? s1.heap.objs.size with
  | none=>rfl
  | some o=>exact absurd (Heap.lt_size (k1 _ _ q)) (Nat.lt_irrefl _)
 have kp:∀b o,s.heap.get? b=some o→(sortedHeap (s1.heap.push (seqObj "list" vs.toArray 0)) s1.heap.objs.size vs out).get? b=some o:=fun b o q=>by
  have hb:=Heap.lt_size (k1 _ _ q)
  have e1:=sortedHeap_old (h:=s1.heap.push (seqObj "list" vs.toArray 0)) (vs:=vs) (out:=out) (Nat.ne_of_lt hb) (by rw [size_push']; exact Nat.lt_succ_of_lt hb)
  rw [e1]
  exact Heap.get?_push_of_some _ (k1 _ _ q)
 have io:IntsAre out.toList (Wh (kvs.map (·.1))):=by
  rw [← Q3 (a2.trans (Uc _).symm) a3 (XX _)]; exact a1
 have fin:Q (.ref s1.heap.objs.size) {s1 with heap:=sortedHeap (s1.heap.push (seqObj "list" vs.toArray 0)) s1.heap.objs.size vs out}:=
  h {s1 with heap:=sortedHeap (s1.heap.push (seqObj "list" vs.toArray 0)) s1.heap.objs.size vs out} s1.heap.objs.size out.toList e hns (by rw [Array.toArray_toList]; exact he) kp g1 o1 io
 exact wpAny_pure ⟨_,rfl,fin⟩
end
noncomputable def Qv:Nat→Value
 | 0=>.builtin "len"
 | 1=>.type "range"
 | 2=>.type "tuple"
 | 3=>.type "dict"
 | 4=>.builtin "sorted"
 | _=>.type "str"
theorem za.one {P:Params} {φ:Phi} {h:Heap} {v:V} {xs:List Value} (r:za P φ h [v] xs):∃x,xs=[x]∧zo P φ h v x:=by
 obtain ⟨x,ys,e,r0,r1⟩:=r
 rw [show ys=[] from r1] at e
 exact ⟨x,e,r0⟩
theorem zy.copy {w:World} {φ:Phi} {h:Heap}:∀ {l:List (V×V)} {es fs:List DictEntry},zy w.params φ h l es→ZG l=true→(∀e∈fs,∃k,(intKind pw w).is k e.key=true∧e.hash=(intKind pw w).hash k)→Pairs (intKind pw w) fs (zh l es)→zy w.params φ h l fs
 | [],es,fs,r,_,_,p=>by
  rw [show es=[] from r] at p
  cases p; exact rfl
 | (a,v)::l,_,fs,r,ok,hk,p=>by
  obtain ⟨e,xs,rfl,r0,r1,r2,r3⟩:=r
  obtain ⟨i,j,rfl,rfl,ok'⟩:=Xf ok
  change Pairs (intKind pw w) fs ((i,e.val)::zh l xs) at p
  cases p with
  | @cons f _ fs' _ h1 h2 h3=>
   obtain ⟨t,ht⟩:=Value.isInt_shape (show Value.isInt i f.key=true from h1)
   obtain ⟨k',hk1,hk2⟩:=hk f (.head _)
   obtain ⟨t',ht'⟩:=Value.isInt_shape (show Value.isInt k' f.key=true from hk1)
   rw [ht] at ht'
   injection ht' with e1
   subst e1
   exact ⟨f,fs',rfl,hk2,⟨t,ht⟩,by rw [h2]; exact r2,zy.copy r3 ok' (fun e he=>hk e (.tail _ he)) h3⟩
theorem Wm:∀ {l:List (V×V)} {is:List Int},intsOf (l.map (·.1))=some is→yf l=true∧l.map (·.1)=is.map V.int
 | [],is,h=>by cases h; exact ⟨rfl,rfl⟩
 | (k,v)::l,is,h=>by
  obtain ⟨i,hi,h⟩:=Option.bind_eq_some_iff.mp h
  obtain ⟨js,hj,rfl⟩:=Option.map_eq_some_iff.mp h
  cases k<;>first | (cases hi; done) | skip
  cases hi
  obtain ⟨a,b⟩:=Wm hj
  exact ⟨a,congrArg (V.int i::·) b⟩
theorem map_int_inj {a b:List Int} (h:a.map V.int=b.map V.int):a=b:=(List.map_inj_right fun _ _ e=>V.int.inj e).mp h
theorem repL_ints {P:Params} {φ:Phi} {h:Heap} {vs:List Value} {ns:List Int} (r:IntsAre vs ns):za P φ h (ns.map V.int) vs:=by
 induction r with
 | nil=>rfl
 | cons _ t _ ih=>exact ⟨_,_,rfl,⟨t,rfl⟩,ih⟩
section
variable {w:World} {X:Addr→Prop} {A:Around} {σ:zG} {P:Sx w σ} {v:V} {x:Value}
theorem Sx.ad {o:O} {p:Nat×Nat} {s':Shared} {k:K V} {r:Res} {Q:Value→Shared→Prop} (kp:∀b o,P.s.heap.get? b=some o→s'.heap.get? b=some o) (h1:P.s.heap.get? p.1=none) (h2:P.s.heap.get? p.2=none) (g:s'.gens=P.s.gens) (os:s'.os=P.s.os) (R:Ext Nox P.φ P.s.heap (P.φ++[p]) s'.heap→YR w.params (P.φ++[p]) s'.heap o p)
  (h:k (.ref σ.length) (σ++[o])=r) (q:∀ (σ':zG) (P':Sx w σ') b a,Le X P P'→RV σ' P' b a→k b σ'=r→Q a P'.s):Q (.ref p.1) s':=
 q (σ++[o]) ⟨P.φ++[p],s',P.S.alloc kp h1 h2 (R (Ext.alloc kp h1 h2))⟩ (.ref σ.length) _ ⟨Ext.alloc kp h1 h2,g,os⟩ ⟨p,by rw [← P.S.len]; exact List.getElem?_concat_length,rfl⟩ h
theorem sndLen (ra:P.R v x):Snd X A (bLen v) (call (Qv 0) [x]) P RV:=by
 cases v with
 | tup l=>
  obtain ⟨p,us,rfl,ht,rv⟩:=ra
  have ll:=za.length rv
  refine .when fun hl=>.vi fun Q q=>PyProof.Rows.len_tuple ht (by rw [List.size_toArray,ll]; lia) (by rw [List.size_toArray,ll]; exact q _)
 | ref n=>
  obtain ⟨p,hp,rfl⟩:=ra
  refine .o hp fun o e0 RO=>?_
  cases o with
  | list l=>
   obtain ⟨-,us,⟨kk,hv⟩,rv⟩:=RO
   have ll:=za.length rv
   exact .when fun hl=>.vi fun Q q=>PyProof.Rows.len_list ⟨_,hv,rfl,kk,rfl⟩ (by rw [List.size_toArray,ll]; lia) (by rw [List.size_toArray,ll]; exact q _)
  | dict l ep=>
   obtain ⟨-,hD,es,m,ho,hE⟩:=RO
   have e2:es.size=l.length:=Array.length_toList.symm.trans (zy.length hE)
   have hT:P.s.TypeIs (.ref p.1) "dict":=⟨_,ho,rfl⟩
   refine .when fun hl=>.vi fun Q q=>call_len_slot hT PySem.F.slot_dict_len (fun Q' hq=>wpAny_call_entry PySem.F.slot_dict_len hT PySem.F.entry_dict_len ?_ (PySem.F.args_dict_len_1 _)) (by lia) (by lia) (q _)
   show wpAny _ _ (dictSize p.1 >>=_) _ _ P.s
   unfold dictSize
   refine wpAny_bind (wpAny_bind (wpAny_dictEntries ho rfl (wpAny_pure ?_)))
   show wpAny _ _ (Builtin.Dict.pendingCount p.1 >>=_) _ _ P.s
   refine wpAny_bind (wpAny_pendingCount_other (P.S.ne_sys (List.mem_of_getElem? hp)) ?_)
   refine wpAny_ret_mkInt ?_
   have e3:((es.size:Nat):Int)+((0:Nat):Int)=(l.length:Int):=by lia
   first
    | (rw [e3]; exact hq)
    | (rw [e2]; simpa using hq)
    | exact ⟨_,rfl,by rw [e3]; exact hq⟩
  | _=>exact .fail
 | _=>exact .fail
theorem sndTup (ra:P.R v x):Snd X A (bTup v) (call (Qv 2) [x]) P RV:=by
 cases v with
 | tup l=>
  obtain ⟨p,us,rfl,ht,rv⟩:=ra
  exact .v (show P.R (.tup _) (.ref p) from ⟨p,us,rfl,ht,rv⟩) fun Q q=>call_tuple_tup ht (q P.s.toks)
 | ref n=>
  obtain ⟨p,hp,rfl⟩:=ra
  refine .o hp fun o e0 RO=>.l fun l e=>.when fun hl k r h hr Q q=>?_
  subst e
  obtain ⟨-,us,⟨kk,hv⟩,rv⟩:=RO
  refine call_tuple_list ⟨_,hv,rfl,kk,rfl⟩ (fun h' hk=>?_) (ZR rv hl)
  have kp:∀b o,P.s.heap.get? b=some o→(h'.push {cls:=.type "tuple",data:=.seq us.toArray}).get? b=some o:=fun b o e=>Heap.get?_push_of_some _ (hk b o e)
  have x:Ext Nox P.φ P.s.heap P.φ (h'.push {cls:=.type "tuple",data:=.seq us.toArray}):=⟨List.prefix_rfl,fun b o e _ _=>kp b o e,fun b o e=>⟨o,kp b o e⟩,fun _ h=>.inl h⟩
  exact q σ ⟨P.φ,{P.s with heap:=h'.push {cls:=.type "tuple",data:=.seq us.toArray}},P.S.ext_same kp⟩ (.tup l) _ (Le.up ⟨x,rfl,rfl⟩) ⟨_,us,rfl,⟨_,Heap.get?_push_size _ rfl,rfl,0,rfl⟩,za.ext P.S x zb _ _ rv⟩ h
 | _=>exact .fail
theorem sndDict (ra:P.R v x):Snd X A (bDict v) (call (Qv 3) [x]) P RV:=.ob ra fun n p o ex hp _ e0 RO=>.d fun l ep eo=>.when fun ⟨ok,hl⟩ k r h hr Q q=>by
 subst ex eo
 obtain ⟨-,hD,es,m,ho,hE⟩:=RO
 refine kt_call_dict (P.S.ne_sys (List.mem_of_getElem? hp)) (Wd ho hD ok hE) (by rw [(jV ok hE).2.1]; show l.length≤2^24; lia) fun h' dm sb=>?_
 obtain ⟨o,fs,ep,ho',⟨c1,c2,c3⟩,hdat,hk,hps,-⟩:=dm
 obtain ⟨cls,dd,data,sl⟩:=o
 simp only at c1 c2 c3 hdat
 subst c1 c2 c3 hdat
 have hn:P.s.heap.get? P.s.heap.objs.size=none:=Heap.get?_none_of_le (Nat.le_refl _)
 exact Sx.ad (o:=.dict l none) (p:=(P.s.heap.objs.size,P.s.heap.objs.size)) (s':={P.s with heap:=h'}) (fun b o e=>(sb.2 b (Nat.ne_of_lt (Heap.lt_size e))).trans (Heap.get?_push_of_some _ e)) hn hn rfl rfl (fun x=>⟨rfl,hD,fs,⟨ep,trivial⟩,ho',zy.copy (zy.ext P.S x zb _ _ hE) ok (fun e he=>hk e (Array.mem_toList_iff.mp he)) hps⟩) h q
theorem sndSort (hh:A.handled=none) (ra:P.R v x):Snd X A (bSort v) (call (Qv 4) [x]) P RV:=.ob ra fun n p o ex hp _ e0 RO=>.d fun l ep eo=>.sm fun is hi=>.when fun hl k r h hr Q q=>by
 subst ex eo
 obtain ⟨-,hD,es,m,ho,hE⟩:=RO
 obtain ⟨ik,e1⟩:=Wm hi
 obtain ⟨-,l1,e2,-,-⟩:=Z3 ik hE
 have e3:(zh l es.toList).map (·.1)=is:=map_int_inj (by rw [List.map_map]; exact e2.trans e1)
 refine sorted_dict hh (P.S.ne_sys (List.mem_of_getElem? hp)) (uG ho hD ik hE) (by rw [l1]; exact hl) fun s' a vs e hn ha kp g1 o1 ia=>?_
 rw [e3] at ia
 exact Sx.ad (o:=.list ((Wh is).map V.int)) (p:=(a,a)) kp hn hn g1 o1 (fun x=>⟨rfl,vs,⟨e,ha⟩,repL_ints ia⟩) h q
theorem sndRange (ra:P.R v x):Snd X A (Qw v) (call (Qv 1) [x]) P RV:=.int ra fun i t e _=>.when fun hx k r h hr Q q=>by
 subst e
 exact call_range_1 (q _ ((P.pu _).at (P.s.toks+1+1)) (.rng i.toNat) _ ⟨Ext.push _,rfl,rfl⟩ ⟨_,i,P.s.toks,t,P.s.toks+1,rfl,Heap.get?_push_size _ rfl,rfl,hx.1,hx.2⟩ h)
theorem sndStr (ra:P.R v x):Snd X A (bStr v) (call (Qv 5) [x]) P RV:=.int ra fun i t e _=>.when fun hx=>.now (a:=.str _ _) (fun Q q=>e▸PySem.P.str_of_int (by
 by_cases h0:i.natAbs=0
 ·rw [h0]; decide
 ·have:=(Nat.log2_lt h0 (k:=30)).mpr (by lia)
  lia) (q _)) fun _=>⟨_,rfl⟩
theorem sndBlt {b:Nat} {vs:List V} {xs:List Value} (hh:A.handled=none) (rl:P.RL vs xs):Snd X A (zj b vs) (call (Qv b) xs) P RV:=.n1 fun v e=>by
 subst e
 obtain ⟨x,rfl,ra⟩:=za.one rl
 rcases b with _ | _ | _ | _ | _ | _ | b
 ·exact sndLen ra
 ·exact sndRange ra
 ·exact sndTup ra
 ·exact sndDict ra
 ·exact sndSort hh ra
 ·exact sndStr ra
 ·exact .fail
end
end Wk
end
section
namespace Wk
theorem Q4 {n:Nat} (h:0 < n):seqIndex? (-1) n=some (n - 1):=by
 unfold seqIndex?
 have h1:¬ ((-1:Int)+n < 0):=by lia
 simp
 lia
open Mine (st sm H1 YP pw)
section
variable {w:World} {X:Addr→Prop} {A:Around} {σ:zG} {P:Sx w σ} {n:Nat} {p:Nat×Nat} {v d:V} {x z:Value}
theorem sndApp (hp:P.φ[n]? =some p) (rx:P.R v x):Snd X A (appM n v) (call (.builtin "list.append") [.ref p.1,x]) P RV:=.o hp fun o e0 RO=>.l fun l e=>.when fun hl=>by
 subst e
 obtain ⟨pe,vs,hv,rl⟩:=RO
 refine .tn (o':=.list (l++[v])) (u:=Value.none) hp (.inl rfl) (fun _ _=>show Value.none=Value.none from rfl) fun Q q=>wpAny_list_append_plain hv (fun h' hl' sb=>?_) (ZR rl hl)
 obtain ⟨k,hl'⟩:=hl'
 exact q h' _ sb ⟨_,hl'⟩ fun x'=>⟨pe,vs++[x],⟨k,by rw [hl',List.push_toArray]⟩,za.append (za.ext P.S x' zb _ _ rl) ⟨x,[],rfl,zo.ext P.S x' zb _ _ rx,rfl⟩⟩
theorem sndGetM {ys:List Value} (ro:jO A 1) (hp:P.φ[n]? =some p) (rx:P.R v x) (hy:ys=[]∧d=.none∨∃z,ys=[z]∧P.R d z):Snd X A (getM n v d) (call (.builtin "dict.get") (.ref p.1::x::ys)) P RV:=.o hp fun o e0 RO=>.d fun l ep eo=>.when fun hk k r h hr Q q=>by
 subst eo
 obtain ⟨pe,hD,es,m,ho,hE⟩:=RO
 have hd:=P.S.ne_sys (List.mem_of_getElem? hp)
 have hT:P.s.TypeIs (.ref p.1) "dict":=⟨_,ho,rfl⟩
 have ha:argsOk "dict.get" ⟨.ref p.1::x::ys,[]⟩:=by
  rcases hy with ⟨rfl,-⟩ | ⟨z,rfl,-⟩
  ·exact PySem.F.args_dict_get_2 _ _
  ·exact PySem.F.args_dict_get_3 _ _ _
 refine wpAny_call_entry PySem.F.slot_dict_get hT PySem.F.entry_dict_get ?_ ha
 have fin:∀tk y,P.R ((yk v l).getD d) y→Q y {P.s with toks:=tk}:=fun tk y ry=>q σ (P.at tk) _ y ⟨.rfl,rfl,rfl⟩ ry h
 have g:∀ {α:Type} {f:Option Value→Sem α} {Q':α→Shared→Prop},(∀tk o,RepOpt w.params P.φ P.s.heap (yk v l) o→wpAny (model pw w) A.in1 (f o) Q' (fun _ _=>False) {P.s with toks:=tk})→wpAny (model pw w) A.in1 (dictGet p.1 x >>=f) Q' (fun _ _=>False) P.s:=fun h'=>wpAny_bind (get_rep (by have:=ro.line; show A.units+1+16 < cLine; lia) ho hD hE hk rx h')
 rcases hy with ⟨rfl,rfl⟩ | ⟨z,rfl,rz⟩
 ·show wpAny _ _ (dictGet p.1 x >>=_) _ _ P.s
  refine g fun tk o hq=>?_
  rcases e:yk v l with _ | u<;>rcases o with _ | y<;>rw [e] at hq fin
  ·exact wpAny_bind (wpAny_missed_other hd (wpAny_pure ⟨.none,rfl,fin tk .none rfl⟩))
  ·exact hq.elim
  ·exact hq.elim
  ·exact wpAny_pure ⟨y,rfl,fin tk y hq⟩
 ·show wpAny _ _ (dictGet p.1 x >>=_) _ _ P.s
  refine g fun tk o hq=>?_
  rcases e:yk v l with _ | u<;>rcases o with _ | y<;>rw [e] at hq fin
  ·exact wpAny_bind (wpAny_missed_other hd (wpAny_pure ⟨z,rfl,fin tk z rz⟩))
  ·exact hq.elim
  ·exact hq.elim
  ·exact wpAny_pure ⟨y,rfl,fin tk y hq⟩
theorem set_same {σ:zG} {n:Nat} {o:O} (h:σ[n]? =some o):σ.set n o=σ:=by
 obtain ⟨q,e⟩:=List.getElem?_eq_some_iff.mp h
 exact e▸List.set_getElem_self q
theorem sndPopD (ro:jO A 1) (hp:P.φ[n]? =some p) (rx:P.R v x) (rz:P.R d z):Snd X A (dpopM n v d) (call (.builtin "dict.pop") [.ref p.1,x,z]) P RV:=.int rx fun i t ex ev=>.o hp fun o e0 RO=>.d fun l ep eo=>.when fun ⟨hk,hsz⟩ k r h hr Q q=>by
 subst ex ev eo
 obtain ⟨pe,hD,es,m,ho,hE⟩:=RO
 have hd:=P.S.ne_sys (List.mem_of_getElem? hp)
 have hT:P.s.TypeIs (.ref p.1) "dict":=⟨_,ho,rfl⟩
 have hu:=ro.line
 have ll:=zy.length hE
 refine wpAny_call_entry PySem.F.slot_dict_pop hT PySem.F.entry_dict_pop ?_ (PySem.F.args_dict_pop_3 _ _ _)
 unfold Builtin.«dict.pop»
 refine wpAny_bind ?_
 unfold Builtin.Dict.keyAndDefault
 refine wpAny_bind (wpAny_notOrdered_dict hT ?_)
 show wpAny _ _ (pure (p.1,Value.int i t,some z)) _ _ P.s
 refine wpAny_pure ?_
 simp only [show (keyPart (Value.int i t)).isSome=true from rfl,if_true]
 refine wpAny_bind (wpAny_pure ?_)
 simp only [Bool.false_eq_true,if_false]
 unfold Builtin.Dict.takeOut
 refine wpAny_bind (wpAny_holding (wpAny_bind (QA (by show A.units+1+16 < cLine; lia) (Jg hk) rx fun tk=>wpAny_bind (QD (s:={P.s with toks:=tk}) (by show A.units+1+16 < cLine; lia) ho hD hE hk rx ?_))))
 unfold Us at h
 rcases hi:jb (.int i) l with _ | j
 ·rw [(yT hi).1,Qs hi,Qm,(yT hi).2] at h
  rw [set_same e0] at h
  refine wpAny_pure ?_
  simp only [Option.isNone_none,if_true]
  exact wpAny_bind (wpAny_missedRemoval_other hd (wpAny_bind (wpAny_rule (wpAny_pure ⟨z,rfl,q σ (P.at tk) d z ⟨.rfl,rfl,rfl⟩ rz h⟩))))
 ·obtain ⟨e,he,hv,hg,hh⟩:=yw hi
  obtain ⟨y,hy,hyh,hyk,hyv⟩:=zy.get hE he
  rw [hg] at h
  have hy':es[j]? =some y:=Array.getElem?_toList.symm.trans hy
  have hjl:j < es.size:=(Array.getElem?_eq_some_iff.mp hy').1
  have ez:(es.eraseIdxIfInBounds j).size≤es.size:=by
   rw [Array.eraseIdxIfInBounds,dif_pos hjl,Array.size_eraseIdx]; exact Nat.sub_le _ _
  have hes:es.size≤sizeLine:=by
   rw [← Array.length_toList,ll]
   show l.length≤2^24
   lia
  refine wpAny_bind (wpAny_dictEntries (s:={P.s with toks:=tk}) ho rfl ?_)
  rw [hy']
  refine wpAny_bind (wpAny_updateDictKeysTo (s:={P.s with toks:=tk}) ho rfl (wpAny_pure ?_) (by lia))
  have ed:Yh (.int i) l=l.eraseIdx j:=JV (fun e he=>(hD.fit he).f) hD.1 hi
  have ep':EpOk (Qm (.int i) l ep) (Yh (.int i) l) (m.1+1):=by
   rw [Qm,hh,ed]
   obtain ⟨m,hm⟩:=m
   rcases ep with _ | d
   ·trivial
   ·have hm:m=l.length+2*d:=hm
    have:=(List.getElem?_eq_some_iff.mp he).1
    show m+1=(l.eraseIdx j).length+2*(d+1)
    rw [List.length_eraseIdx,if_pos this,hm]; lia
  have ed2:(es.eraseIdxIfInBounds j).toList=es.toList.eraseIdx j:=by
   rw [Array.eraseIdxIfInBounds,dif_pos hjl,Array.toList_eraseIdx]
  simp only [Option.isNone_some,Bool.false_eq_true,if_false]
  refine wpAny_bind (wpAny_letGo (wpAny_pure ⟨_,rfl,?_⟩))
  obtain ⟨S',x'⟩:=P.S.turn (n:=n) (o':=.dict (Yh (.int i) l) (Qm (.int i) l ep)) (h':=P.s.heap.update p.1 (Obj.mapDictKeys (·.eraseIdxIfInBounds j))) hp (.inl rfl) (Heap.SameBut.update ..) ⟨_,Heap.get?_update_self _ ho rfl⟩ fun x'=>
   ⟨pe,hD.sub (by rw [ed]; exact List.eraseIdx_sublist ..),_,⟨_,ep'⟩,Heap.get?_update_self _ ho rfl,by rw [ed2,ed]; exact zy.erase j (zy.ext P.S x' zb _ _ hE)⟩
  exact q _ ⟨P.φ,{P.s with heap:=P.s.heap.update p.1 (Obj.mapDictKeys (·.eraseIdxIfInBounds j)),toks:=tk},S'⟩ _ _ (Le.up ⟨x',rfl,rfl⟩) (zo.ext P.S x' zb _ _ hyv) h
theorem sndPop (hp:P.φ[n]? =some p):Snd X A (popM n) (call (.builtin "list.pop") [.ref p.1]) P RV:=.o hp fun o e0 RO=>.l fun l eo=>.sm fun v hv=>.when fun hsz=>by
 subst eo
 obtain ⟨pe,vs,⟨kk,hl⟩,rl⟩:=RO
 have ll:=za.length rl
 have hT:P.s.TypeIs (.ref p.1) "list":=⟨_,hl,rfl⟩
 have hpos:0 < l.length:=List.length_pos_iff.mpr fun e=>by rw [e] at hv; cases hv
 obtain ⟨x,hx,rx⟩:=za.get rl (List.getLast?_eq_getElem?.symm.trans hv)
 refine .tn (o':=.list l.dropLast) (u:=x) hp (.inl rfl) (fun _ l=>l.v rx) fun Q q=>?_
 refine wpAny_call_entry PySem.F.slot_list_pop hT PySem.F.entry_list_pop ?_ (PySem.F.args_list_pop_1 _)
 unfold Builtin.«list.pop»
 refine wpAny_bind (wpAny_pure ?_)
 refine wpAny_bind (wpAny_pure ?_)
 have hfit:Builtin.List.listFitsIndex (-1)=true:=by decide
 simp only [hfit,Bool.not_true,Bool.false_eq_true,if_false]
 refine wpAny_bind (listItems_at hl rfl ?_)
 rw [show vs.toArray.isEmpty=false by cases vs with | nil=>rw [← ll] at hpos; cases hpos | cons _ _=>rfl]
 have hi:seqIndex? (-1) vs.toArray.size=some (l.length - 1):=by
  rw [List.size_toArray,ll]
  exact Q4 hpos
 rw [hi]
 have hx':vs.toArray[l.length - 1]? =some x:=List.getElem?_toArray.trans hx
 simp only [Bool.false_eq_true,if_false,Option.bind_some,hx',Option.map_some]
 have hjl:l.length - 1 < vs.toArray.size:=by rw [List.size_toArray,ll]; exact Nat.sub_lt hpos Nat.zero_lt_one
 refine wpAny_bind (listUpdate_at hl rfl ?_ (ZR rl hsz) (by rw [Array.eraseIdxIfInBounds,dif_pos hjl,Array.size_eraseIdx,List.size_toArray,ll]; exact Nat.le_trans (Nat.sub_le _ _) (Nat.le_of_lt (Nat.lt_trans hsz (by decide)))))
 have ed2:vs.toArray.eraseIdxIfInBounds (l.length - 1)=vs.dropLast.toArray:=by
  apply Array.toList_inj.mp
  rw [Array.eraseIdxIfInBounds,dif_pos hjl,Array.toList_eraseIdx,List.toList_toArray,← ll,List.eraseIdx_length_sub_one]
 refine wpAny_pure ⟨_,rfl,q _ _ (Heap.SameBut.update ..) ⟨_,Heap.get?_update_self _ hl rfl⟩ fun x'=>⟨pe,vs.dropLast,⟨_,(Heap.get?_update_self _ hl rfl).trans (show some (⟨.type "list",none,.seq (vs.toArray.eraseIdxIfInBounds (l.length - 1)) _,#[]⟩:Obj)=_ by rw [ed2])⟩,?_⟩⟩
 rw [List.dropLast_eq_take,List.dropLast_eq_take,ll]
 exact za.take _ (za.ext P.S x' zb _ _ rl)
end
end Wk
end
section
namespace Wk
open Mine (st sm H1 YP pw)
theorem Um {x y:Str}:Fast.sEq x y=false↔x≠y:=by rw [← Bool.not_eq_true,Fast.sEq_iff]
theorem sEq_ite {α:Type} {x y:Str} {a b:α}:(match Fast.sEq x y with | true=>a | false=>b)=if x=y then a else b:=by
 by_cases e:x=y
 ·rw [if_pos e,Fast.sEq_iff.mpr e]
 ·rw [if_neg e,Um.mpr e]
theorem yj {α:Type} {x y:Str} {a:α} {r:List (Str×α)}:zO x ((y,a)::r)=if x=y then some a else zO x r:=sEq_ite
theorem setK_cons {y z:Str} {v b:V} {r:Loc}:ZJ y v ((z,b)::r)=if y=z then (z,v)::r else (z,b)::ZJ y v r:=sEq_ite
theorem dropK_cons {y z:Str} {b:V} {r:Loc}:W6 y ((z,b)::r)=if y=z then W6 y r else (z,b)::W6 y r:=sEq_ite
theorem YX {α:Type} (x:Str) (l:List (Str×α)):zO x l=l.lookup x:=by
 induction l with
 | nil=>rfl
 | cons e r ih=>
  rw [yj,List.lookup_cons,ih]
  by_cases h:x=e.1
  ·rw [if_pos h,beq_iff_eq.mpr h]
  ·rw [if_neg h,beq_false_of_ne h]
theorem Je {x y:Str} {v:V} {ρ:Loc}:zO x (ZJ y v ρ)=if x=y then some v else zO x ρ:=by
 induction ρ with
 | nil=>exact yj
 | cons e r ih=>
  obtain ⟨z,b⟩:=e
  rw [setK_cons]
  by_cases h:y=z
  ·rw [if_pos h,yj,yj,h]
   by_cases g:x=z
   ·rw [if_pos g,if_pos g]
   ·rw [if_neg g,if_neg g,if_neg g]
  ·rw [if_neg h,yj,yj,ih]
   by_cases g:x=z
   ·rw [if_pos g,if_pos g,if_neg fun e=>h (e.symm.trans g)]
   ·rw [if_neg g,if_neg g]
theorem Yo {p:Str→Bool} {x:Str} {ρ:Loc}:zO x (ρ.filter fun e=>p e.1)=if p x=true then zO x ρ else none:=by
 induction ρ with
 | nil=>by_cases h:p x=true<;>simp [zO,h]
 | cons e r ih=>
  rw [List.filter_cons,yj]
  by_cases g:x=e.1
  ·by_cases h:p e.1=true
   ·rw [if_pos h,yj,if_pos g,g,if_pos h,if_pos rfl]
   ·rw [if_neg h,ih,g,if_neg h,if_neg h]
  ·rw [if_neg g]
   by_cases h:p e.1=true
   ·rw [if_pos h,yj,if_neg g,ih]
   ·rw [if_neg h,ih]
theorem dropK_eq {y:Str} {ρ:Loc}:W6 y ρ=ρ.filter fun e=>!Fast.sEq y e.1:=by
 induction ρ with
 | nil=>rfl
 | cons e r ih=>
  obtain ⟨z,b⟩:=e
  rw [dropK_cons,List.filter_cons,ih]
  by_cases h:y=z
  ·rw [if_pos h,Fast.sEq_iff.mpr h]; rfl
  ·rw [if_neg h,Um.mpr h]; rfl
theorem lookK_drop {x y:Str} {ρ:Loc}:zO x (W6 y ρ)=if y=x then none else zO x ρ:=by
 rw [dropK_eq,Yo (p:=fun z=>!Fast.sEq y z)]
 by_cases h:y=x
 ·rw [if_pos h,Fast.sEq_iff.mpr h]; rfl
 ·rw [if_neg h,Um.mpr h]; rfl
noncomputable def FX (env:Env) (b:Addr):Prop:=b=env.locals∨∃n,env.cells.lookup n=some b
noncomputable def FW (sc:Scope) (env:Env) (b:Addr):Prop:=b=env.locals∨∃x,zO x sc.names=some .cell∧env.cells.lookup x=some b
noncomputable def inFr (sc:Scope) (x:Str):Bool:=Z5 (zO x sc.names)||isCellish (zO x sc.names)
noncomputable def isCel (env:Env) (x:Str):Prop:=env.kindOf x=some .cell∨env.kindOf x=some .free
inductive Holds (env:Env) (h:Heap) (x:Str) (y:Value):Prop
 | loc (m:Str→Option Value):env.kindOf x=some .local→h.Ns env.locals m→m x=some y→Holds env h x y
 | cell (c:Addr):isCel env x→env.cells.lookup x=some c→h.IsCell c (some y)→Holds env h x y
structure Fk (sc:Scope) (env:Env):Prop where
 kind:env.scope.kind=.function
 globals:env.globals=mainGlobals
 builtins:env.builtins=builtinsNs
 gl:∀x,zO x sc.names=some .globalImplicit→env.kindOf x=some .globalImplicit
 lo:∀x,zO x sc.names=some .local→env.kindOf x=some .local
 ce:∀x,zO x sc.names=some .cell→env.kindOf x=some .cell∧∃c,env.cells.lookup x=some c
 fr:∀x,zO x sc.names=some .free→isCel env x∧∃c,env.cells.lookup x=some c
 apart:∀x y c,env.cells.lookup x=some c→env.cells.lookup y=some c→x=y
noncomputable def Vars (w:World) (sc:Scope) (env:Env) (ρ:Loc) (φ:Phi) (h:Heap):Prop:=∀x v,inFr sc x=true→zO x ρ=some v→∃y,Holds env h x y∧zo w.params φ h v y
noncomputable def Cells (env:Env) (h:Heap):Prop:=∀x c,env.cells.lookup x=some c→∃v,h.IsCell c v
noncomputable def Out (w:World) (env:Env) (φ:Phi):Prop:=∀b,FX env b→Wg w φ b
structure Fr (w:World) (sc:Scope) (env:Env) (ρ:Loc) (φ:Phi) (h:Heap):Prop where
 k:Fk sc env
 ns:∃m,h.Ns env.locals m
 cells:Cells env h
 out:Out w env φ
 vars:Vars w sc env ρ φ h
section
variable {w:World} {sc:Scope} {env:Env} {ρ ρ':Loc} {φ φ':Phi} {σ:zG} {h h':Heap} {X:Addr→Prop}
theorem FW.fx {b:Addr} (x:FW sc env b):FX env b:=x.imp id fun ⟨n,_,e⟩=>⟨n,e⟩
theorem cell_obj {c:Addr} {v:Option Value} (x:h.IsCell c v):∃o,h.get? c=some o:=let ⟨o,ho,_⟩:=x; ⟨o,ho⟩
theorem Ns_inj {a:Addr} {m m':Str→Option Value} (x:h.Ns a m) (y:h.Ns a m'):m=m':=by
 obtain ⟨o1,es1,ep1,h1,d1,_,f1⟩:=x
 obtain ⟨o2,es2,ep2,h2,d2,_,f2⟩:=y
 obtain rfl:o1=o2:=Option.some.inj (h1.symm.trans h2)
 obtain rfl:es1=es2:=(Data.dict.inj (d1.symm.trans d2)).1
 funext nm
 rw [← f1,← f2]
theorem cell_ns {a c:Addr} {m:Str→Option Value} {v:Option Value} (x:h.Ns a m) (y:h.IsCell c v):c≠a:=fun e=>by
 subst e
 obtain ⟨o1,h1,d1⟩:=y
 obtain ⟨o2,_,_,h2,d2,_⟩:=x
 obtain rfl:o1=o2:=Option.some.inj (h1.symm.trans h2)
 exact Data.noConfusion (d1.symm.trans d2)
theorem Fr.obj (F:Fr w sc env ρ φ h) {b:Addr} (hb:FX env b):∃o,h.get? b=some o∧(∀xs n,o.data≠.seq xs n)∧∀xs,o.data≠.fields xs:=by
 rcases hb with rfl | ⟨n,hn⟩
 ·obtain ⟨m,o,es,ep,ho,hd,-⟩:=F.ns
  exact ⟨o,ho,fun _ _ e=>Data.noConfusion (hd.symm.trans e),fun _ e=>Data.noConfusion (hd.symm.trans e)⟩
 ·obtain ⟨v,o,ho,hd⟩:=F.cells n b hn
  exact ⟨o,ho,fun _ _ e=>Data.noConfusion (hd.symm.trans e),fun _ e=>Data.noConfusion (hd.symm.trans e)⟩
theorem Fr.spare (F:Fr w sc env ρ φ h):YE (FX env) h:=fun b hb o ho=>by
 obtain ⟨o',ho',r⟩:=F.obj hb
 obtain rfl:o=o':=Option.some.inj (ho.symm.trans ho')
 exact ⟨fun ⟨_,_,_,e⟩=>r.1 _ _ e,fun ⟨_,_,e⟩=>r.2 _ e⟩
theorem Holds.keep {x:Str} {y:Value} (H:Holds env h x y) (k:∀b,FX env b→∀o,h.get? b=some o→h'.get? b=some o):Holds env h' x y:=by
 cases H with
 | loc m e l q=>obtain ⟨o,es,ep,ho,r⟩:=l; exact .loc m e ⟨o,es,ep,k _ (.inl rfl) _ ho,r⟩ q
 | cell c e l q=>obtain ⟨o,ho,hd⟩:=q; exact .cell c e l ⟨o,k _ (.inr ⟨x,l⟩) _ ho,hd⟩
theorem Fr.weaken (F:Fr w sc env ρ φ h) (k:∀x v,zO x ρ'=some v→zO x ρ=some v):Fr w sc env ρ' φ h:=⟨F.k,F.ns,F.cells,F.out,fun x v i e=>F.vars x v i (k x v e)⟩
theorem Fr.gen (F:Fr w sc env ρ φ h) (px:φ<+:φ') (fx:∀b o,Fix o→h.get? b=some o→h'.get? b=some o) (k:∀b,FX env b→∀o,h.get? b=some o→h'.get? b=some o) (no:∀b,FX env b→¬ZE φ' b):Fr w sc env ρ φ' h':=by
 refine ⟨F.k,?_,fun n c hc=>?_,fun b hb=>⟨no b hb,(F.out b hb).2⟩,fun n v i e=>?_⟩
 ·obtain ⟨m,o,es,ep,ho,r⟩:=F.ns
  exact ⟨m,o,es,ep,k _ (.inl rfl) _ ho,r⟩
 ·obtain ⟨v,o,ho,hd⟩:=F.cells n c hc
  exact ⟨v,o,k _ (.inr ⟨n,hc⟩) _ ho,hd⟩
 ·obtain ⟨y,H,r⟩:=F.vars n v i e
  exact ⟨y,H.keep k,(zo.gen px fx).1 v y r⟩
theorem Ext.free {b:Addr} {o:Obj} (x:Ext X φ h φ' h') (f:Wg w φ b) (e:h.get? b=some o):Wg w φ' b:=⟨fun q=>(x.new b q).elim f.1 (fun z=>nomatch z.symm.trans e),f.2⟩
theorem Fr.ext (F:Fr w sc env ρ φ h) (S:Sim w φ σ h) (x:Ext X φ h φ' h') (sp:YE X h) (hX:∀b,FX env b→¬X b):Fr w sc env ρ φ' h':=
 F.gen x.pre (JN S x sp) (fun b hb o e=>x.keep b o e (F.out b hb).1 (hX b hb)) fun b hb=>let ⟨_,ho,_⟩:=F.obj hb; (x.free (F.out b hb) ho).1
theorem Fr.ext0 (F:Fr w sc env ρ φ h) (S:Sim w φ σ h) (x:Ext Nox φ h φ' h'):Fr w sc env ρ φ' h':=F.ext S x zb fun _ _ q=>q
section
variable {I:Addr} (sp:YE (fun b=>b=I) h) (k:∀b o,b≠I→h.get? b=some o→h'.get? b=some o)
include sp k
theorem bt_fix:∀b o,Fix o→h.get? b=some o→h'.get? b=some o:=fun b o f e=>k b o (fun q=>f.elim (sp b q o e).1 (sp b q o e).2) e
theorem Sim.bt (S:Sim w φ σ h) (f:Wg w φ I):Sim w φ σ h':=S.gen (bt_fix sp k) fun b o z e=>k b o (fun q=>z.elim (fun z=>f.1 (q▸z)) fun z=>nomatch (q▸f.2).symm.trans z) e
theorem Fr.bt (F:Fr w sc env ρ φ h) (nI:¬FX env I):Fr w sc env ρ φ h':=F.gen List.prefix_rfl (bt_fix sp k) (fun b hb o=>k b o fun q=>nI (q▸hb)) fun b hb=>(F.out b hb).1
end
structure Bt (I:Addr) (P P':Sx w σ):Prop where
 e:P'.φ=P.φ
 k:∀b o,b≠I→P.s.heap.get? b=some o→P'.s.heap.get? b=some o
 sp:YE (fun b=>b=I) P.s.heap
 m:wK P.s P'.s
noncomputable def Sx.bt {I:Addr} (P:Sx w σ) (s':Shared) (sp:YE (fun b=>b=I) P.s.heap) (k:∀b o,b≠I→P.s.heap.get? b=some o→s'.heap.get? b=some o) (f:Wg w P.φ I):Sx w σ:=⟨P.φ,s',P.S.bt sp k f⟩
theorem Bt.v {I:Addr} {P P':Sx w σ} (b:Bt I P P') {v:V} {x:Value} (r:P.R v x):P'.R v x:=by
 unfold Sx.R
 rw [b.e]
 exact (zo.gen List.prefix_rfl (bt_fix b.sp b.k)).1 v x r
theorem Bt.fr {I:Addr} {P P':Sx w σ} (b:Bt I P P') (F:Fr w sc env ρ P.φ P.s.heap) (nI:¬FX env I):Fr w sc env ρ P'.φ P'.s.heap:=by
 rw [b.e]
 exact F.bt b.sp b.k nI
theorem Bt.le {I:Addr} {σ':zG} {P:Sx w σ} {P' P'':Sx w σ'} (b:Bt I P' P'') (l:Le X P P') (dead:P.s.heap.get? I=none):Le X P P'':=by
 have ne:∀b o,P.s.heap.get? b=some o→b≠I:=fun b o e q=>nomatch (q▸dead).symm.trans e
 exact ⟨⟨b.e▸l.x.pre,fun c o e n1 n2=>b.k c o (ne c o e) (l.x.keep c o e n1 n2),fun c o e=>let ⟨o',e'⟩:=l.x.live c o e; ⟨o',b.k c o' (ne c o e) e'⟩,fun c q=>l.x.new c (b.e▸q)⟩,l.m.trans b.m⟩
theorem Ext.sameBut {a:Addr} (hs:Heap.SameBut a h h') (ha:∃o,h'.get? a=some o):Ext (fun b=>b=a) φ h φ h':=
 ⟨List.prefix_rfl,fun b o e _ n=>(hs.2 b n).trans e,fun b o e=>by
  by_cases q:b=a
  ·subst q; exact ha
  ·exact ⟨o,(hs.2 b q).trans e⟩,fun b q=>.inl q⟩
theorem nm_ok {x:Str} (hn:nmOk x=true):(x==("__debug__":Str))=false∧(x==("__classdict__":Str))=false:=by
 have h:=zW hn
 simp only [Bool.not_eq_true'] at h
 exact ⟨beq_false_of_ne (Um.mp h.1),beq_false_of_ne (Um.mp h.2)⟩
variable {A:Around} {P:Sx w σ} {x:Str} {v:V} {y:Value}
theorem Fr.load {pos:Pos} (F:Fr w sc env ρ P.φ P.s.heap) (hn:nmOk x=true) (i:inFr sc x=true) (e:zO x ρ=some v):Snd X A (ret v) (eval (.Name x pos) env) P RV:=fun k r er hr Q q=>by
 obtain ⟨y,H,rv⟩:=F.vars x v i e
 have q:Q y P.s:=q σ P v y .rfl rv er
 refine wpAny_Name ?_ (nm_ok hn).1
 cases H with
 | loc m k hm e=>exact wpAny_loadName_local F.k.kind k hm e q
 | cell c k l z=>
  rcases k with k | k
  ·exact wpAny_loadName_cell F.k.kind k l z q
  ·exact wpAny_loadName_free F.k.kind k l z q (nm_ok hn).2
theorem Fr.turn {s':Shared} {c:Addr} {k:K Unit} {r:Res} {Q:Unit→Shared→Prop} (F:Fr w sc env ρ P.φ P.s.heap) (hc:FW sc env c) (g:s'.gens=P.s.gens) (os:s'.os=P.s.os) (sb:Heap.SameBut c P.s.heap s'.heap) (ho:∃o,s'.heap.get? c=some o) (ns:∃m,s'.heap.Ns env.locals m)
  (cl:Cells env s'.heap) (rv:P.R v y) (H:Holds env s'.heap x y) (old:∀n z,n≠x→Holds env P.s.heap n z→Holds env s'.heap n z) (hr:k () σ=r)
  (q:∀ (σ':zG) (P':Sx w σ') (b a:Unit),Le (FW sc env) P P'→Fr w sc env (ZJ x v ρ) P'.φ P'.s.heap→k b σ'=r→Q a P'.s):Q () s':=by
 have x1:Ext (fun b=>b=c) P.φ P.s.heap P.φ s'.heap:=Ext.sameBut sb ho
 have sp:YE (fun b=>b=c) P.s.heap:=fun b e=>F.spare b (e▸hc.fx)
 refine q σ ⟨P.φ,s',P.S.bt sp (fun b o n e=>(sb.2 b n).trans e) (F.out c hc.fx)⟩ () () ⟨x1.mono fun b e=>e▸hc,g,os⟩ ⟨F.k,ns,cl,F.out,fun n u i e=>?_⟩ hr
 rw [Je] at e
 by_cases en:n=x
 ·rw [if_pos en] at e
  exact ⟨y,en▸H,zo.ext P.S x1 sp u y (Option.some.inj e▸rv)⟩
 ·rw [if_neg en] at e
  obtain ⟨z,H,rz⟩:=F.vars n u i e
  exact ⟨z,old n z en H,zo.ext P.S x1 sp u z rz⟩
theorem Fr.store (F:Fr w sc env ρ P.φ P.s.heap) (i:∃q,zO x sc.names=some q∧isBd q=true) (rv:P.R v y):Snd (FW sc env) A (ret ()) (bindName env x y) P fun _ P' _ _=>Fr w sc env (ZJ x v ρ) P'.φ P'.s.heap:=fun k r er hr Q q=>by
 refine wpAny_bindName ?_
 obtain ⟨q0,i,hq⟩:=i
 obtain ⟨m,hm⟩:=F.ns
 cases q0<;>try (exact no hq)
 ·have hk:=F.k.lo x i
  refine wpAny_storeName_local hk hm (fun h' hn sb=>?_) (by rw [F.k.kind]; rfl)
  refine F.turn (s':={P.s with heap:=h',toks:=P.s.toks+1}) (.inl rfl) rfl rfl sb (let ⟨o,_,_,ho,_⟩:=hn; ⟨o,ho⟩) ⟨_,hn⟩ (fun n c hc=>?_) rv (.loc _ hk hn (if_pos rfl)) (fun n z en H=>?_) er q
  ·obtain ⟨u,z⟩:=F.cells n c hc
   exact ⟨u,z.sameBut sb (cell_ns hm z)⟩
  ·cases H with
   | loc m' k hm' e'=>exact .loc _ k hn ((if_neg en).trans (Ns_inj hm' hm▸e'))
   | cell c k l t=>exact .cell c k l (t.sameBut sb (cell_ns hm t))
 ·obtain ⟨hk,c,hc⟩:=F.k.ce x i
  obtain ⟨v0,z0⟩:=F.cells x c hc
  refine wpAny_storeName_cell F.k.kind hk hc z0 fun h' hn sb=>?_
  have ncl:=cell_ns hm z0
  refine F.turn (s':={P.s with heap:=h'}) (.inr ⟨x,i,hc⟩) rfl rfl sb (cell_obj hn) ⟨m,hm.sameBut sb (Ne.symm ncl)⟩ (fun n c' hc'=>?_) rv (.cell c (.inl hk) hc hn) (fun n z en H=>?_) er q
  ·by_cases ec:c'=c
   ·exact ⟨_,ec▸hn⟩
   ·obtain ⟨u,z⟩:=F.cells n c' hc'
    exact ⟨u,z.sameBut sb ec⟩
  ·cases H with
   | loc m' k l e'=>exact .loc m' k (l.sameBut sb (Ne.symm ncl)) e'
   | cell c' k l t=>exact .cell c' k l (t.sameBut sb fun ec=>en (F.k.apart n x c (ec▸l) hc))
end
end Wk
end
section
namespace Wk
open Mine (st sm H1 YP pw)
inductive XI (σ:zG) (a:V) (l:List V×Nat):Prop
 | tup (u:List V) (e:a=.tup u) (el:l=(u,0))
 | rng (n:Nat) (e:a=.rng n) (c:n < 100000) (el:l=((List.range n).map fun (i:Nat)=>V.int i,0))
 | lst (n:Nat) (u:List V) (e:a=.ref n) (e0:σ[n]? =some (.list u)) (el:l=(u,0))
 | dct (n:Nat) (u:List (V×V)) (ep:Nat) (e:a=.ref n) (e0:σ[n]? =some (.dict u (some ep))) (k:yf u=true) (el:l=(u.map (·.1),ep+1))
theorem U1 {u:List V} {n:Nat} {l:List V×Nat} (h:lim u n=some l):l.1.length < 1000000∧l=(u,n):=by
 unfold lim at h
 by_cases c:u.length < 1000000
 ·rw [if_pos c] at h; cases h; exact ⟨c,rfl⟩
 ·rw [if_neg c] at h; cases h
theorem Xo {a:V} {σ:zG} {l:List V×Nat} (h:zz a σ=some l):l.1.length < 1000000∧XI σ a l:=by
 cases a with
 | tup u=>exact (U1 h).imp id fun e=>.tup u rfl e
 | rng n=>
  change (if n < 100000 then _ else _)=_ at h
  by_cases c:n < 100000
  ·rw [if_pos c] at h; cases h; exact ⟨by rw [List.length_map,List.length_range]; lia,.rng n rfl c rfl⟩
  ·rw [if_neg c] at h; cases h
 | ref n=>
  obtain ⟨o,e0,h⟩:=Option.bind_eq_some_iff.mp h
  cases o with
  | list u=>exact (U1 h).imp id fun e=>.lst n u rfl e0 e
  | dict u ep=>
   rcases ep with _ | ep
   ·cases h
   ·cases k:yf u with
    | false=>rw [show U5 (.dict u (some ep))=itemsD.bif' (yf u) _ from rfl,k] at h; cases h
    | true=>
     rw [show U5 (.dict u (some ep))=itemsD.bif' (yf u) _ from rfl,k] at h
     exact (U1 h).imp id fun e=>.dct n u ep rfl e0 k e
  | _=>cases h
 | _=>cases h
theorem Uh {a:V} {l:List V×Nat} {σ σ':zG} (h:zz a σ=some l) (q:same a l σ'=true):zz a σ'=some l:=by
 cases a<;>first | exact @of_decide_eq_true _ (Classical.propDecidable _) q | exact h
noncomputable def ItR (h:Heap) (t I:Addr) (i:Nat) (l:List V×Nat):Prop:=match l.2 with
 | 0=>h.IsListIter I t i
 | e+1=>h.IsKeyIter I t i l.1.length (l.1.length+2*e)
noncomputable def ItAt (a:V) (x:Value) (l:List V×Nat) (I:Addr) (i:Nat) (h:Heap):Prop:=match a with
 | .tup _=>∃t,x=.ref t∧IsTupIter h I t i
 | .rng n=>IsRangeIter h I (i:Int) ((n:Int) - i) 1
 | .ref _=>∃t,x=.ref t∧ItR h t I i l
 | _=>False
noncomputable def iterCs:List String:=["tuple_iterator","range_iterator","list_iterator","dict_keyiterator"]
structure ItObj (h h':Heap) (I:Addr) (a:V) (x:Value) (l:List V×Nat) (i:Nat):Prop where
 mk::
 o:∃o T fs,h.get? I=some o∧o.cls=.type T∧T∈iterCs∧o.data=.fields fs
 keep:(∀o,h.get? I=some o→h'.get? I=some o)→ItAt a x l I i h'
theorem ItAt.obj {a:V} {x:Value} {l:List V×Nat} {I:Addr} {i:Nat} {h:Heap} (t:ItAt a x l I i h) (h':Heap):ItObj h h' I a x l i:=by
 cases a with
 | tup u=>obtain ⟨t,e,o,ho,hc,hd⟩:=t; exact ⟨⟨o,_,_,ho,hc,.head _,hd⟩,fun k=>⟨t,e,o,k o ho,hc,hd⟩⟩
 | rng n=>exact ⟨⟨_,"range_iterator",_,t,rfl,.tail _ (.head _),rfl⟩,fun k=>k _ t⟩
 | ref n=>
  obtain ⟨t,e,q⟩:=t
  obtain ⟨l,_ | ep⟩:=l
  ·obtain ⟨o,ho,hc,hd⟩:=q; exact ⟨⟨o,_,_,ho,hc,.tail _ (.tail _ (.head _)),hd⟩,fun k=>⟨t,e,o,k o ho,hc,hd⟩⟩
  ·obtain ⟨o,ho,hc,hd⟩:=q; exact ⟨⟨o,_,_,ho,hc,.tail _ (.tail _ (.tail _ (.head _))),hd⟩,fun k=>⟨t,e,o,k o ho,hc,hd⟩⟩
 | _=>exact t.elim
section
variable {w:World} {X:Addr→Prop} {A:Around} {E:Value→Shared→Prop} {σ σ':zG} {P:Sx w σ} {P':Sx w σ'} {a:V} {x:Value} {l:List V×Nat} {I:Addr} {i:Nat}
structure It (a:V) (x:Value) (l:List V×Nat) (I:Addr) (i:Nat) (P:Sx w σ):Prop where
 r:P.R a x
 t:ItAt a x l I i P.s.heap
 f:Wg w P.φ I
theorem It.has (t:It a x l I i P):∃o,P.s.heap.get? I=some o:=let ⟨o,_,_,ho,_⟩:=(t.t.obj P.s.heap).o; ⟨o,ho⟩
theorem It.spare (t:It a x l I i P):YE (fun b=>b=I) P.s.heap:=by
 rintro b rfl o ho
 obtain ⟨o',T,fs,ho',hc,hT,hd⟩:=(t.t.obj P.s.heap).o
 obtain rfl:o=o':=Option.some.inj (ho.symm.trans ho')
 refine ⟨fun ⟨_,_,_,e⟩=>(nomatch hd.symm.trans e),fun ⟨e,_⟩=>?_⟩
 obtain rfl:T="range":=Value.type.inj (hc.symm.trans e)
 exact absurd hT (by decide)
theorem It.le (t:It a x l I i P) (k:Le X P P') (sp:YE X P.s.heap) (n:¬X I):It a x l I i P':=let ⟨_,ho⟩:=t.has; ⟨zo.ext P.S k.x sp _ _ t.r,(t.t.obj _).keep fun o e=>k.x.keep I o e t.f.1 n,k.x.free t.f ho⟩
theorem It.self {Q:Value→Shared→Prop} (t:It a x l I i P) (q:Q (.ref I) P.s):wpAny (model pw w) A (pyIter (.ref I)) Q E P.s:=by
 have t:=t.t
 cases a with
 | tup u=>obtain ⟨_,_,t⟩:=t; exact wpAny_pyIter_tupleiter t q
 | rng n=>exact wpAny_pyIter_rangeiter t q
 | ref n=>
  obtain ⟨_,_,t⟩:=t
  obtain ⟨l,_ | ep⟩:=l
  ·exact wpAny_pyIter_listiter t q
  ·exact wpAny_pyIter_keyiter t q
 | _=>exact t.elim
theorem dict_it {d:Addr} {u:List (V×V)} {ep:Nat} (k:yf u=true) (R:YR w.params P.φ P.s.heap (.dict u (some ep)) (d,d)):X1_3 (fun kvs:List (Int×Value)=>kvs.map (fun e=>V.int e.1)=u.map (·.1)) (fun kvs=>kvs.length=u.length) fun kvs=>P.s.heap.DictAt (intKind pw w) d kvs (u.length+2*ep):=by
 obtain ⟨-,hD,es,⟨m,hm⟩,ho,hE⟩:=R
 obtain rfl:m=u.length+2*ep:=hm
 obtain ⟨-,l1,e2,-,-⟩:=Z3 k hE
 exact ⟨_,e2,l1,uG ho hD k hE⟩
theorem iter_new {Q:Value→Shared→Prop} (hi:zz a σ=some l) (r:P.R a x) (q:∀o,It a x l P.s.heap.objs.size 0 (P.pu o)→Q (.ref P.s.heap.objs.size) (P.pu o).s):wpAny (model pw w) A (pyIter x) Q E P.s:=by
 have q:∀o,ItAt a x l P.s.heap.objs.size 0 (P.s.heap.push o)→Q (.ref P.s.heap.objs.size) {P.s with heap:=P.s.heap.push o}:=fun o t=>q o ⟨(Sx.puL (X:=Nox)).v r,t,P.S.free (Heap.get?_none_of_le (Nat.le_refl _))⟩
 obtain ⟨-,c⟩:=Xo hi
 rcases c with ⟨u,rfl,rfl⟩ | ⟨n,rfl,c,rfl⟩ | ⟨n,u,rfl,e0,rfl⟩ | ⟨n,u,ep,rfl,e0,k,rfl⟩
 ·obtain ⟨t,vs,rfl,ht,rl⟩:=r
  exact iter_tuple ht (q _ ⟨t,rfl,_,Heap.get?_push_size _ rfl,rfl,rfl⟩)
 ·obtain ⟨b,y,t,u,v,rfl,hr,hn,h1,h2⟩:=r
  have hs:Builtin.Range.rangeSize 0 y 1=(n:Int):=by
   unfold Builtin.Range.rangeSize
   rw [if_pos (by decide)]
   split<;>lia
  refine wpAny_pyIter_range hr ?_ (by rw [hs]; exact q _ (show IsRangeIter _ _ ((0:Nat):Int) ((n:Int) - ((0:Nat):Int)) 1 by simpa using Heap.get?_push_size _ rfl))
  unfold Builtin.Range.small
  rw [hs]
  simp [Builtin.Range.rangeFitsLong]
  lia
 ·obtain ⟨p,hp,rfl⟩:=r
  obtain ⟨-,vs,⟨kk,hl⟩,rl⟩:=P.S.at hp e0
  exact wpAny_pyIter_list ⟨_,hl,rfl,kk,rfl⟩ (q _ ⟨_,rfl,_,Heap.get?_push_size _ rfl,rfl,rfl⟩)
 ·obtain ⟨p,hp,rfl⟩:=r
  have R:=P.S.at hp e0
  have hd:=P.S.ne_sys (List.mem_of_getElem? hp)
  obtain ⟨kvs,e2,l1,D⟩:=dict_it k (show YR w.params P.φ P.s.heap (.dict u (some ep)) (p.1,p.1) from ⟨rfl,R.2⟩)
  refine wpAny_pyIter_dict hd D (q _ ⟨_,rfl,_,Heap.get?_push_size _ rfl,rfl,?_⟩)
  rw [l1,← List.length_map (f:=(·.1))]
  rfl
noncomputable abbrev Sx.mv (P:Sx w σ) (h:Heap) (n:Nat):Shared:={P.s with heap:=h,toks:=n}
theorem it_next {v:V} {Q:Option Value→Shared→Prop} (hi:zz a σ=some l) (it:It a x l I i P) (hv:l.1[i]? =some v) (q:∀ (P':Sx w σ) y,Bt I P P'→It a x l I (i+1) P'→P'.R v y→Q (some y) P'.s):wpAny (model pw w) A (pyNext (.ref I)) Q E P.s:=by
 have q:∀y h' tk,P.R v y→ItAt a x l I (i+1) h'→Heap.SameBut I P.s.heap h'→Q (some y) (P.mv h' tk):=fun y h' tk ry t sb=>by
  have B:Bt I P (P.bt (P.mv h' tk) it.spare (fun b o n e=>(sb.2 b n).trans e) it.f):=⟨rfl,fun b o n e=>(sb.2 b n).trans e,it.spare,rfl,rfl⟩
  exact q _ y B ⟨B.v it.r,t,it.f⟩ (B.v ry)
 obtain ⟨-,c⟩:=Xo hi
 obtain ⟨r,t,-⟩:=it
 rcases c with ⟨u,rfl,rfl⟩ | ⟨n,rfl,c,rfl⟩ | ⟨n,u,rfl,e0,rfl⟩ | ⟨n,u,ep,rfl,e0,k,rfl⟩
 ·obtain ⟨b,vs,rfl,ht,rl⟩:=r
  obtain ⟨_,e,t⟩:=t
  cases e
  obtain ⟨y,hy,ry⟩:=za.get rl hv
  exact next_tuple_item t ht (by simpa using hy) fun h' t' sb=>q y h' P.s.toks ry ⟨_,rfl,t'⟩ sb
 ·obtain ⟨hlt,hv⟩:=List.getElem?_eq_some_iff.mp hv
  have hlt:i < n:=by simpa using hlt
  obtain rfl:V.int i=v:=by simpa using hv
  refine wpAny_pyNext_range_item (show IsRangeIter P.s.heap I (i:Int) ((n:Int) - i) 1 from t) (by lia) fun h' t' sb=>q _ h' _ ⟨_,rfl⟩ ?_ sb
  show IsRangeIter h' I ((i+1:Nat):Int) ((n:Int) - ((i+1:Nat):Int)) 1
  rw [show ((i+1:Nat):Int)=(i:Int)+1 by lia,show (n:Int) - ((i:Int)+1)=(n:Int) - i - 1 by lia]
  exact t'
 ·obtain ⟨p,hp,rfl⟩:=r
  obtain ⟨_,e,t⟩:=t
  cases e
  obtain ⟨-,vs,⟨kk,hl⟩,rl⟩:=P.S.at hp e0
  obtain ⟨y,hy,ry⟩:=za.get rl hv
  exact wpAny_pyNext_list_item t ⟨_,hl,rfl,kk,rfl⟩ (by simpa using hy) fun h' t' sb=>q y h' P.s.toks ry ⟨_,rfl,t'⟩ sb
 ·obtain ⟨p,hp,rfl⟩:=r
  obtain ⟨_,e,t⟩:=t
  cases e
  obtain ⟨kvs,e2,l1,D⟩:=dict_it k (show YR w.params P.φ P.s.heap (.dict u (some ep)) (p.1,p.1) from ⟨rfl,(P.S.at hp e0).2⟩)
  have hl:kvs.length=(u.map (·.1)).length:=l1.trans (List.length_map _).symm
  change P.s.heap.IsKeyIter I p.1 i (u.map (·.1)).length ((u.map (·.1)).length+2*ep) at t
  have go:∀h',h'.IsKeyIter I p.1 (i+1) kvs.length (kvs.length+2*ep)→ItAt (.ref n) (.ref p.1) (u.map (·.1),ep+1) I (i+1) h':=fun h' t=>⟨_,rfl,by rw [hl] at t; exact t⟩
  rw [← hl] at t
  rw [← l1] at D
  rw [← e2,List.getElem?_map] at hv
  obtain ⟨⟨k,y⟩,hky,rfl⟩:=Option.map_eq_some_iff.mp hv
  refine wpAny_pyNext_dict_item t D hky fun key h' hkey t' sb=>?_
  obtain ⟨tk,rfl⟩:=Value.isInt_shape (show Value.isInt k key=true from hkey)
  exact q _ h' P.s.toks ⟨_,rfl⟩ (go h' t') sb
theorem it_done {Q:Option Value→Shared→Prop} (hh:A.handled=none) (hi:zz a σ=some l) (it:It a x l I l.1.length P) (q:∀P':Sx w σ,Bt I P P'→Q none P'.s):wpAny (model pw w) A (pyNext (.ref I)) Q E P.s:=by
 have q:∀h',Heap.ExtBut I P.s.heap h'→Q none {P.s with heap:=h'}:=fun h' xb=>q (P.bt {P.s with heap:=h'} it.spare (fun b o n e=>xb b o n e) it.f) ⟨rfl,fun b o n e=>xb b o n e,it.spare,rfl,rfl⟩
 obtain ⟨-,c⟩:=Xo hi
 obtain ⟨r,t,-⟩:=it
 rcases c with ⟨u,rfl,rfl⟩ | ⟨n,rfl,c,rfl⟩ | ⟨n,u,rfl,e0,rfl⟩ | ⟨n,u,ep,rfl,e0,k,rfl⟩
 ·obtain ⟨b,vs,rfl,ht,rl⟩:=r
  obtain ⟨_,e,t⟩:=t
  cases e
  exact next_tuple_end hh t ht (List.getElem?_toArray.trans (List.getElem?_eq_none (Nat.le_of_eq (za.length rl)))) q
 ·exact wpAny_pyNext_range_end hh t (by simp) q
 ·obtain ⟨p,hp,rfl⟩:=r
  obtain ⟨_,e,t⟩:=t
  cases e
  obtain ⟨-,vs,⟨kk,hl⟩,rl⟩:=P.S.at hp e0
  exact wpAny_pyNext_list_end hh t ⟨_,hl,rfl,kk,rfl⟩ (List.getElem?_toArray.trans (List.getElem?_eq_none (Nat.le_of_eq (za.length rl)))) q
 ·obtain ⟨p,hp,rfl⟩:=r
  obtain ⟨_,e,t⟩:=t
  cases e
  obtain ⟨kvs,e2,l1,D⟩:=dict_it k (show YR w.params P.φ P.s.heap (.dict u (some ep)) (p.1,p.1) from ⟨rfl,(P.S.at hp e0).2⟩)
  have hl:kvs.length=(u.map (·.1)).length:=l1.trans (List.length_map _).symm
  change P.s.heap.IsKeyIter I p.1 (u.map (·.1)).length (u.map (·.1)).length ((u.map (·.1)).length+2*ep) at t
  rw [← hl] at t
  rw [← l1] at D
  exact wpAny_pyNext_dict_end hh t D (List.getElem?_eq_none (Nat.le_refl _)) q
end
end Wk
end
section
namespace Wk
open Mine
noncomputable def KG (P:Params):Frag:=fr P [0,2,3,22,228,229,230,231,232,233,234,235,236,237,238,239,240,241,242,243,244,245,246,247,248,249,250,251,1269,41,55,62,137,166,173,199,206,265,279,293,301,309,317,325,332,339,346,352,368,375,382,389,396,403,408,415,422,429,434,448,525,553,574,616,628,642,761,768,775,824,831,838,845,859,866,873,929,936,941,946,981,1000,1012,1019,1026,1031,1045,1057,1071,1090,1102,1116,1135,1276,1283,1288,1295,1300,1307,1314,1321,1328,1333,1340,1347,1352,1359,1366,1373,1378,1385,1392,1399,1404]++KA P
theorem frs (P:Params) {l m:List Nat}:fr P l++fr P m=fr P (l++m):=List.map_append.symm
theorem KG_in1 (P:Params):(KG P).In (H1 P):=by
 unfold KG KA
 rw [frs]
 exact fr_in P rfl
theorem Jb {w:World} {h:Heap} (y:YP w h):(KG w.params).In h:=fun a o e=>y a o (KG_in1 w.params a o e)
noncomputable def fdOf (d:Stmt) (q:Str) (dV pm cd:Value):FuncData:={name:=zc d,qualname:=q,params:=jJ d,body:=.stmts (YB d),scope:=zn d,globals:=3,closure:=[],defaults:=dV,kwdefaults:=.none,pyModule:=pm,code:=cd,builtins:=0}
noncomputable abbrev fnObj (d:Stmt) (q:Str) (dV pm cd:Value):Obj:={cls:=.type "function",data:=.func (fdOf d q dV pm cd)}
noncomputable def yB (d:Stmt):List Str:=(jJ d).args.map (·.arg)
noncomputable def dOf (i:Nat):Stmt:=(defAt i).getD (st 21)
noncomputable def UF (i:Nat):Nat:=jF.getD i 0
noncomputable def fdD (x:Data):FuncData:=match x with
 | .func fd=>fd
 | _=>fdOf (st 21) (nS "") .none .none .none
noncomputable def fOf (P:Params) (i:Nat):FuncData:=fdD (((H1 P).get? (UF i)).elim (.seq #[] 0) (·.data))
noncomputable def seqD (x:Data):Option (Array Value):=match x with
 | .seq xs _=>some xs
 | _=>none
noncomputable def refOf (v:Value):Option Addr:=match v with
 | .ref a=>some a
 | _=>none
theorem Xc {v:Value} {a:Addr} (h:refOf v=some a):v=.ref a:=by
 cases v<;>first | exact congrArg Value.ref (Option.some.inj h) | exact nN h
theorem seqD_ok {x:Data} {ys:Array Value} (h:seqD x=some ys):∃n,x=.seq ys n:=by
 cases x<;>first | exact ⟨_,congrArg (Data.seq · _) (Option.some.inj h)⟩ | exact nN h
noncomputable def seqOf (h:Heap) (v:Value):Option (Array Value):=(refOf v).bind fun a=>(h.get? a).bind fun o=>seqD o.data
noncomputable def dfl (P:Params) (i:Nat):Option (Array Value):=seqOf (H1 P) (fOf P i).defaults
noncomputable def upTo (x:Nat→Value) (n:Nat):List Value:=(List.range n).map x
theorem upTo_of (xs:List Value):xs=upTo (fun i=>xs.getD i .none) xs.length:=List.ext_getElem (by simp [upTo]) fun i h1 h2=>by simp [upTo,h1]
noncomputable def e1 (x:Nat→Value) (i:Nat):Sem (List (Str×Value)):=pure ((yB (dOf i)).zip (upTo x (yB (dOf i)).length))
noncomputable def e2 (x:Nat→Value) (i:Nat) (m:Sem (List (Str×Value))) (o:Option (Array Value)):Sem (List (Str×Value)):=match o with
 | some ys=>pure ((yB (dOf i)).zip (upTo x ((yB (dOf i)).length - 1)++ys.toList))
 | _=>m
theorem bind_k:∃k:FuncData→List Value→Option (Array Value)→Sem (List (Str×Value)),(∀fd xs,bindArgs fd ⟨xs,[]⟩=(seqItems? fd.defaults >>=k fd xs))∧
  (∀P x,((List.range 85).map fun i=>k (fOf P i) (upTo x (yB (dOf i)).length) (dfl P i))=(List.range 85).map (e1 x))∧
  ∀P x,((List.range 85).map fun i=>k (fOf P i) (upTo x ((yB (dOf i)).length - 1)) (dfl P i))=(List.range 85).map fun i=>e2 x i (k (fOf P i) (upTo x ((yB (dOf i)).length - 1)) (dfl P i)) (dfl P i):=
 ⟨_,fun _ _=>rfl,fun P x=>by kernel_rfl,fun P x=>by kernel_rfl⟩
end Wk
end
section
namespace Wk
open Mine
theorem any_some {α:Type} {o:Option α} {p:α→Bool} (h:o.any p=true):∃x,o=some x∧p x=true:=by
 cases o with
 | none=>cases h
 | some x=>exact ⟨x,rfl,h⟩
noncomputable def strIs (q:Str) (v:Value):Bool:=match v with
 | .str s _=>Fast.sEq s q
 | _=>false
noncomputable def fldD (x:Data):Option (Array Value):=match x with
 | .fields vs=>some vs
 | _=>none
theorem strIs_ok {q:Str} {v:Value} (h:strIs q v=true):∃t,v=.str q t:=by
 cases v<;>first | exact ⟨_,congrArg (Value.str · _) (Fast.sEq_iff.mp h)⟩ | exact no h
theorem fldD_ok {x:Data} {ys:Array Value} (h:fldD x=some ys):x=.fields ys:=by
 cases x<;>first | exact congrArg Data.fields (Option.some.inj h) | exact nN h
noncomputable def recB (h:Heap) (cd:Value) (q:Str):Bool:=(refOf cd).any fun c=>(h.get? c).any fun o=>(fldD o.data).any fun vs=>vs[1]?.any (strIs q)
theorem recB_rec {h:Heap} {cd:Value} {q:Str} (k:recB h cd q=true):h.CodeRec cd q:=by
 obtain ⟨c,hc,k⟩:=any_some k
 obtain ⟨o,ho,k⟩:=any_some k
 obtain ⟨vs,hv,k⟩:=any_some k
 obtain ⟨v,hw,k⟩:=any_some k
 obtain ⟨t,rfl⟩:=strIs_ok k
 exact ⟨c,o,vs,t,Xc hc,ho,fldD_ok hv,hw⟩
noncomputable def litI (i:Int) (x:Value):Bool:=match x with
 | .int j _=>decide (i=j)
 | _=>false
noncomputable def litS (s:Str) (x:Value):Bool:=match x with
 | .str t _=>Fast.sEq s t
 | _=>false
noncomputable def litN (x:Value):Bool:=match x with
 | .none=>true
 | _=>false
theorem litI_ok {i:Int} {x:Value} (h:litI i x=true):∃t,x=.int i t:=by
 cases x<;>first | exact no h | exact ⟨_,congrArg (Value.int · _) (of_decide_eq_true h).symm⟩
theorem litS_ok {i:Str} {x:Value} (h:litS i x=true):∃t,x=.str i t:=by
 cases x<;>first | exact no h | exact ⟨_,congrArg (Value.str · _) (Fast.sEq_iff.mp h).symm⟩
noncomputable def wj {α β:Type} (f:α→β→Bool) (l:List α):List β→Bool:=match l with
 | []=>fun xs=>xs.isEmpty
 | v::r=>fun xs=>match xs with
  | x::s=>f v x&&wj f r s
  | _=>false
noncomputable def clsT (x:String) (v:Value):Bool:=match v with
 | .type c=>decide (c=x)
 | _=>false
theorem clsT_ok {x:String} {v:Value} (h:clsT x v=true):v=.type x:=by
 cases v<;>first | exact congrArg Value.type (of_decide_eq_true h) | exact no h
noncomputable def tupC (o:Obj) (f:List Value→Bool):Bool:=clsT "tuple" o.cls&&(seqD o.data).any fun xs=>f xs.toList
noncomputable def repC (K:Frag):Nat→V→Value→Bool
 | 0=>fun _ _=>false
 | n+1=>fun v=>match v with
  | .none=>litN
  | .int i=>litI i
  | .str s=>litS s
  | .tup l=>fun x=>((refOf x).bind fun a=>K.lookup a).any fun o=>tupC o (wj (repC K n) l)
  | _=>fun _=>false
theorem listC_ok {P:Params} {φ:Phi} {h:Heap} {f:V→Value→Bool} (hf:∀v x,f v x=true→zo P φ h v x) {l:List V}:∀ {vs:List Value},wj f l vs=true→za P φ h l vs:=by
 induction l with
 | nil=>exact fun {vs} e=>List.isEmpty_iff.mp e
 | cons v l ih=>
  intro vs e
  cases vs with
  | nil=>exact no e
  | cons x s=>exact ⟨x,s,rfl,hf v x (zW e).1,ih (zW e).2⟩
theorem repC_ok {K:Frag} {P:Params} {φ:Phi} {h:Heap} (X:K.In h) (n:Nat):∀ (v:V) (x:Value),repC K n v x=true→zo P φ h v x:=by
 induction n with
 | zero=>exact fun _ _=>no
 | succ n ih=>
  intro v x e
  cases v with
  | none=>cases x<;>first | rfl | exact no e
  | int i=>exact litI_ok e
  | str s=>exact litS_ok e
  | tup l=>
   obtain ⟨o,ho,c⟩:=any_some e
   obtain ⟨a,ha,ho⟩:=Option.bind_eq_some_iff.mp ho
   obtain ⟨xs,hx,c'⟩:=any_some (zW c).2
   obtain ⟨m,hd⟩:=seqD_ok hx
   exact ⟨a,xs.toList,Xc ha,⟨o,X _ _ ho,clsT_ok (zW c).1,m,hd⟩,listC_ok ih c'⟩
  | _=>exact no e
noncomputable def bdO (o:Option NameKind):Bool:=match o with
 | some q=>isBd q
 | _=>false
noncomputable def dOk (P:Params) (i:Nat):Bool:=match dfltV (jJ (dOf i)).defaults with
 | some u=>(dfl P i).any fun ys=>wj (repC [] 1) [u] ys.toList
 | none=>true
noncomputable def noneOr (v:Value) (b:Bool):Bool:=match v with
 | .none=>true
 | _=>b
noncomputable def okB (d:Stmt):Bool:=(decide (yB d).Nodup&&(yB d).all fun x=>bdO (zO x (zn d).names))&&((isFun (zn d).kind&&(!(zn d).isCoroutine&&!(zn d).isGenerator))&&
 ((zn d).names.all fun e=>isBd e.2||isGl e.2))
theorem fn_obj (P:Params):((List.range 85).map fun i=>(H1 P).get? (UF i))=(List.range 85).map fun i=>some (fnObj (dOf i) (fOf P i).qualname (fOf P i).defaults (fOf P i).pyModule (fOf P i).code):=by kernel_rfl
theorem fn_ok:((List.range 85).all fun i=>okB (dOf i))=true:=by kernel_rfl
theorem fn_ok1 (P:Params):((List.range 85).all fun i=>noneOr (fOf P i).defaults (dfl P i).isSome&&dOk P i)=true:=by kernel_rfl
theorem fn_ok2 (P:Params):((List.range 85).all fun i=>recB (H1 P) (fOf P i).code (fOf P i).qualname)=true:=by kernel_rfl
theorem fn_ok3 (P:Params):((List.range 85).all fun i=>fnIn (KG P) (UF i))=true:=by kernel_rfl
theorem jZ {α β:Type} {f g:α→β} {l:List α} (h:l.map f=l.map g) {x:α} (hx:x∈l):f x=g x:=List.map_inj_left.mp h x hx
noncomputable def Binds (P:Params) (fd:FuncData) (xs:List Value) (out:List (Str×Value)):Prop:=∀s:Shared,(∀b o,(H1 P).get? b=some o→s.heap.get? b=some o)→BindsTo s fd ⟨xs,[]⟩ out
theorem noneOr_ok {v:Value} {b:Bool} (h:noneOr v b=true):v=.none∨b=true:=by
 cases v<;>first | exact .inl rfl | exact .inr h
structure Fn (P:Params) (fa:Nat) (d:Stmt) (q:Str) (dV pm cd:Value):Prop where
 obj:(H1 P).get? fa=some (fnObj d q dV pm cd)
 code:(H1 P).CodeRec cd q
 fn:fnIn (KG P) fa=true
 names:(yB d).Nodup
 kinds:∀x∈yB d,∃k,zO x (zn d).names=some k∧isBd k=true
 kind:(zn d).kind=.function
 plain:(zn d).isCoroutine=false∧(zn d).isGenerator=false
 all:∀x∈(zn d).names,(isBd x.2||isGl x.2)=true
 b0:∀xs,xs.length=(yB d).length→Binds P (fdOf d q dV pm cd) xs ((yB d).zip xs)
 b1:∀u,dfltV (jJ d).defaults=some u→∃y,(∀φ h,zo P φ h u y)∧∀xs,xs.length+1=(yB d).length→Binds P (fdOf d q dV pm cd) xs ((yB d).zip (xs++[y]))
theorem binds_of {P:Params} {fd:FuncData} {xs:List Value} {out:List (Str×Value)} {k:Option (Array Value)→Sem (List (Str×Value))} (kb:bindArgs fd ⟨xs,[]⟩=(seqItems? fd.defaults >>=k)) (hn:noneOr fd.defaults (seqOf (H1 P) fd.defaults).isSome=true) (h:k (seqOf (H1 P) fd.defaults)=pure out):Binds P fd xs out:=fun s hs=>by
 rcases noneOr_ok hn with e | hn
 ·refine BindsTo.of_eq ?_
  rw [kb,e]
  rw [e] at h
  exact h
 ·obtain ⟨ys,hy⟩:=Option.isSome_iff_exists.mp hn
  rw [hy] at h
  obtain ⟨a,ha,hy⟩:=Option.bind_eq_some_iff.mp hy
  obtain ⟨o,ho,hy⟩:=Option.bind_eq_some_iff.mp hy
  obtain ⟨n,hd⟩:=seqD_ok hy
  exact BindsTo.of_defaults (Xc ha) (hs _ _ ho) hd kb h
theorem fn_all (P:Params) {i:Nat} (hi:i < 85):Fn P (UF i) (dOf i) (fOf P i).qualname (fOf P i).defaults (fOf P i).pyModule (fOf P i).code:=by
 have m:=List.mem_range.mpr hi
 have ho:=jZ (fn_obj P) m
 obtain ⟨⟨nd,ki⟩,⟨k1,k2⟩,al⟩:=(zW (List.all_eq_true.mp fn_ok i m)).imp zW fun h=>(zW h).imp zW id
 obtain ⟨hn,dk⟩:=zW (List.all_eq_true.mp (fn_ok1 P) i m)
 have rc:recB (H1 P) (fOf P i).code (fOf P i).qualname=true:=List.all_eq_true.mp (fn_ok2 P) i m
 have fn:fnIn (KG P) (UF i)=true:=List.all_eq_true.mp (fn_ok3 P) i m
 obtain ⟨k,hk,h1,h2⟩:=bind_k
 have eq:fdOf (dOf i) (fOf P i).qualname (fOf P i).defaults (fOf P i).pyModule (fOf P i).code=fOf P i:=by
  conv=>rhs; unfold fOf; rw [ho]
  rfl
 refine ⟨ho,recB_rec rc,fn,of_decide_eq_true nd,fun x hx=>?_,?_,?_,fun x hx=>List.all_eq_true.mp al x hx,fun xs hx=>?_,fun u hu=>?_⟩
 ·have:=List.all_eq_true.mp ki x hx
  cases e:zO x (zn (dOf i)).names with
  | none=>rw [e] at this; cases this
  | some q=>rw [e] at this; exact ⟨q,rfl,this⟩
 ·cases e:(zn (dOf i)).kind<;>(rw [e] at k1)<;>first | rfl | exact no k1
 ·simpa using k2
 ·rw [eq]
  refine binds_of (hk _ _) hn ?_
  have:=jZ (h1 P fun j=>xs.getD j .none) m
  unfold e1 at this
  rw [← hx,← upTo_of] at this
  exact this
 ·unfold dOk at dk
  rw [hu] at dk
  obtain ⟨ys,hy,c⟩:=any_some dk
  rcases e:ys.toList with _ | ⟨y,_ | ⟨_,_⟩⟩<;>rw [e] at c
  ·exact no c
  ·refine ⟨y,fun φ h=>repC_ok (K:=[]) (fun _ _ e=>by cases e) 1 u y (zW c).1,fun xs hx=>?_⟩
   rw [eq]
   refine binds_of (hk _ _) hn ?_
   have:=jZ (h2 P fun j=>xs.getD j .none) m
   unfold e2 at this
   rw [hy,← hx,Nat.add_sub_cancel,← upTo_of] at this
   change k _ xs (dfl P i)=_
   rw [hy]
   refine this.trans ?_
   show pure ((yB (dOf i)).zip (xs++ys.toList))=_
   rw [e]
  ·exact no (zW c).2
end Wk
end
section
namespace Wk
open Mine
noncomputable def expG (P:Params) (e:Nat×Str×GV):Option (Option Value):=match e.2.2 with
 | .val _=>nsIn (KG P) 3 e.2.1
 | .fn i=>(jF[i]?).map fun a=>some (.ref a)
 | .cls c=>(yu[c]?).map fun a=>some (.ref a)
 | .blt _=>some none
noncomputable def expB (P:Params) (e:Nat×Str×GV):Option (Option Value):=match e.2.2 with
 | .blt b=>some (some (Qv b))
 | _=>nsIn (KG P) 0 e.2.1
noncomputable def entC (e:V×V) (d:DictEntry):Bool:=match e.1 with
 | .int i=>match e.2 with
  | .str s=>(litI i d.key&&decide (d.hash=hashInt i))&&litS s d.val
  | _=>false
 | _=>false
noncomputable def dctD (x:Data):Option (Array DictEntry):=match x with
 | .dict es _=>some es
 | _=>none
theorem dctD_ok {x:Data} {ys:Array DictEntry} (h:dctD x=some ys):∃n,x=.dict ys n:=by
 cases x<;>first | exact ⟨_,congrArg (Data.dict · _) (Option.some.inj h)⟩ | exact nN h
noncomputable def intK (v:V) (i:Int):Bool:=match v with
 | .int j=>!decide (j=i)
 | _=>false
noncomputable def nodI:List (V×V)→Bool
 | []=>true
 | e::r=>(match e.1 with
  | .int i=>r.all fun e=>intK e.1 i
  | _=>false)&&nodI r
noncomputable def dctO (l:List (V×V)) (o:Obj):Bool:=(clsT "dict" o.cls&&(o.dict.isNone&&o.slots.isEmpty))&&(((dctD o.data).any fun es=>wj entC l es.toList)&&nodI l)
noncomputable def valC (P:Params) (v:V) (x:Value):Bool:=match v with
 | .cdict l=>((refOf x).bind fun a=>(KG P).lookup a).any (dctO l)
 | v=>repC (KG P) 8 v x
noncomputable def valG (P:Params) (e:Nat×Str×GV):Bool:=match e.2.2 with
 | .val v=>(nsIn (KG P) 3 e.2.1).any fun o=>o.any (valC P v)
 | _=>true
theorem glob_exp (P:Params):(P0.glob.map fun e=>nsIn (KG P) 3 e.2.1)=P0.glob.map (expG P):=by kernel_rfl
theorem glob_blts (P:Params):(P0.glob.map fun e=>nsIn (KG P) 0 e.2.1)=P0.glob.map (expB P):=by kernel_rfl
theorem wx (P:Params):(P0.glob.all fun e=>valG P e&&(expG P e).isSome)=true:=by kernel_rfl
theorem entC_ok {P:Params} {φ:Phi} {h:Heap} {e:V×V} {d:DictEntry} (c:entC e d=true):d.hash=Wo P e.1∧zo P φ h e.1 d.key∧zo P φ h e.2 d.val∧fitK e.1=true∧JW e.1=1:=by
 obtain ⟨k,v⟩:=e
 cases k<;>try (exact no c)
 cases v<;>try (exact no c)
 exact ⟨of_decide_eq_true (zW (zW c).1).2,litI_ok (zW (zW c).1).1,litS_ok (zW c).2,rfl,rfl⟩
theorem entC_all {P:Params} {φ:Phi} {h:Heap} {l:List (V×V)}:∀ {es:List DictEntry},wj entC l es=true→zy P φ h l es∧∀e∈l,fitK e.1=true∧JW e.1=1:=by
 induction l with
 | nil=>exact fun {es} e=>⟨List.isEmpty_iff.mp e,fun _ h=>nomatch h⟩
 | cons a l ih=>
  intro es e
  cases es with
  | nil=>exact no e
  | cons d es=>
   obtain ⟨h1,h2,h3,h4⟩:=entC_ok (P:=P) (φ:=φ) (h:=h) (zW e).1
   exact ⟨⟨d,es,rfl,h1,h2,h3,(ih (zW e).2).1⟩,fun b hb=>(List.mem_cons.mp hb).elim (fun q=>q▸h4) fun q=>(ih (zW e).2).2 b q⟩
theorem nodI_ok {l:List (V×V)}:nodI l=true→(l.map (·.1)).Nodup:=by
 induction l with
 | nil=>exact fun _=>List.nodup_nil
 | cons a l ih=>
  intro h
  rw [List.map_cons,List.nodup_cons]
  refine ⟨fun hm=>?_,ih (zW h).2⟩
  obtain ⟨e,he,q⟩:=List.mem_map.mp hm
  have h:=(zW h).1
  cases k:a.1<;>(rw [k] at h)<;>try (exact no h)
  have:=List.all_eq_true.mp h e he
  rw [show e.1=_ from q.trans k] at this
  exact absurd this (by simp [intK])
theorem glob_of {x:Str} {g:GV} (h:P0.get x=some g):∃e∈P0.glob,e.2.1=x∧e.2.2=g:=by
 unfold Prg.get at h
 generalize P0.glob=l at h
 induction l with
 | nil=>cases h
 | cons a r ih=>
  unfold globK at h
  cases q:Nat.beq (Fast.code x.cps.toList) a.1 with
  | false=>
   rw [q] at h
   obtain ⟨e,he,q⟩:=ih h
   exact ⟨e,.tail _ he,q⟩
  | true=>
   rw [q] at h
   cases q:Fast.sEq x a.2.1 with
   | false=>rw [q] at h; cases h
   | true=>rw [q] at h; exact ⟨a,.head _,(Fast.sEq_iff.mp q).symm,Option.some.inj h⟩
section
variable {x:Str} {i:Nat} (P:Params)
theorem glob_go {g:GV} {a:Option Addr} (h:P0.get x=some g) (ha:∀e:Nat×Str×GV,e.2.2=g→expG P e=a.map fun a=>some (.ref a)):∃fa,a=some fa∧nsIn (KG P) 3 x=some (some (.ref fa)):=by
 obtain ⟨e,m,rfl,b⟩:=glob_of h
 have h1:=jZ (glob_exp P) m
 have h2:=(zW (List.all_eq_true.mp (wx P) e m)).2
 rw [ha e b] at h1 h2
 cases a with
 | none=>cases h2
 | some a=>exact ⟨a,rfl,h1⟩
theorem glob_fn (h:P0.get x=some (.fn i)):∃fa,jF[i]? =some fa∧nsIn (KG P) 3 x=some (some (.ref fa)):=glob_go P h fun e b=>by unfold expG; rw [b]
theorem glob_cls (h:P0.get x=some (.cls i)):∃fa,yu[i]? =some fa∧nsIn (KG P) 3 x=some (some (.ref fa)):=glob_go P h fun e b=>by unfold expG; rw [b]
theorem glob_blt (h:P0.get x=some (.blt i)):nsIn (KG P) 3 x=some none∧nsIn (KG P) 0 x=some (some (Qv i)):=by
 obtain ⟨e,m,rfl,b⟩:=glob_of h
 exact ⟨(jZ (glob_exp P) m).trans (by unfold expG; rw [b]),(jZ (glob_blts P) m).trans (by unfold expB; rw [b])⟩
include P in
theorem dctO_ok {l:List (V×V)} {o:Obj} (h:dctO l o=true):WP (fun es n=>o=⟨.type "dict",none,.dict es n,#[]⟩) (fun es _=>∀ (P:Params) (φ:Phi) (h:Heap),zy P φ h l es.toList) fun _ _=>jD l:=by
 obtain ⟨⟨h1,h2,h3⟩,h4,h5⟩:=(zW h).imp (fun h=>(zW h).imp id zW) zW
 obtain ⟨es,h6,h7⟩:=any_some h4
 obtain ⟨n,hd⟩:=dctD_ok h6
 obtain ⟨c,d,dt,sl⟩:=o
 obtain rfl:c=_:=clsT_ok h1
 obtain rfl:dt=_:=hd
 obtain rfl:d=none:=Option.isNone_iff_eq_none.mp h2
 obtain rfl:sl= #[]:=Array.isEmpty_iff.mp h3
 exact ⟨es,n,rfl,fun P φ h=>(entC_all h7).1,nodI_ok h5,1,(entC_all (P:=P) (φ:=[]) (h:=H1 P) h7).2⟩
theorem glob_val {v:V} (h:P0.get x=some (.val v)):∃y,nsIn (KG P) 3 x=some (some y)∧∀φ h',(KG P).In h'→zo P φ h' v y:=by
 obtain ⟨e,m,rfl,b⟩:=glob_of h
 have c:=(zW (List.all_eq_true.mp (wx P) e m)).1
 unfold valG at c
 rw [b] at c
 obtain ⟨o,ho,c⟩:=any_some c
 obtain ⟨y,hy,c⟩:=any_some c
 refine ⟨y,hy▸ho,fun φ h' X=>?_⟩
 cases v with
 | cdict l=>
  obtain ⟨o,ho,c⟩:=any_some c
  obtain ⟨a,ha,ho⟩:=Option.bind_eq_some_iff.mp ho
  obtain ⟨es,n,rfl,h1,h2⟩:=dctO_ok P c
  exact ⟨a,es,n,Xc ha,KG_in1 P a _ ho,h2,h1 _ _ _⟩
 | _=>exact repC_ok X 8 _ _ c
end
end Wk
end
section
namespace Wk
open Mine (st sm H1 YP pw)
theorem ZW {α:Type} {x:Str} {a:α} {l:List (Str×α)} (h:zO x l=some a):(x,a)∈l:=mem_of_lookup ((YX x l).symm.trans h)
noncomputable def cA (c:Nat):Nat:=yu.getD c 0
noncomputable def cRec (c:Nat):Zm:=(P0.cls[c]?).getD ⟨none,[],[]⟩
noncomputable def initV (o:Option Nat):Value:=o.elim (.builtin "object.__init__") fun i=>.ref (UF i)
theorem cls_eq (P:Params):((List.range 21).map fun c=>(findIn (KG P) (.ref (cA c)) "__getattribute__",findIn (KG P) (.ref (cA c)) "__getattr__",findIn (KG P) (.ref (cA c)) "__init__"))=(List.range 21).map fun c=>(some (some (.builtin "object.__getattribute__")),some none,some (some (initV (cRec c).init))):=by kernel_rfl
theorem cls_ms (P:Params):((List.range 21).map fun c=>(cRec c).meths.map fun e=>findIn (KG P) (.ref (cA c)) e.1)=(List.range 21).map fun c=>(cRec c).meths.map fun e=>some (some (.ref (UF e.2))):=by kernel_rfl
theorem cls_ok (P:Params):((List.range 21).all fun c=>(makesIn (KG P) (cA c)&&keepIn (KG P) (.ref (cA c)))&&((cRec c).init.all (Nat.blt · 85)&&(cRec c).meths.all fun e=>Nat.blt e.2 85))=true:=by kernel_rfl
theorem fnTy_all (P:Params):(jF.map fun f=>(typeIn (KG P) (.ref f),keepIn (KG P) (.ref f)))=jF.map fun _=>(some (.type "function"),true):=by kernel_rfl
theorem fn_len:jF.length=85:=by kernel_rfl
theorem fa_of {i:Nat} (h:i < 85):jF[i]? =some (UF i):=by
 have h:i < jF.length:=fn_len▸h
 unfold UF
 rw [List.getD_eq_getElem?_getD,List.getElem?_eq_getElem h]
 rfl
theorem fa_eq {i fa:Nat} (h:jF[i]? =some fa):i < 85∧fa=UF i:=by
 have l:i < 85:=fn_len▸(List.getElem?_eq_some_iff.mp h).1
 exact ⟨l,Option.some.inj (h.symm.trans (fa_of l))⟩
theorem fnTy {P:Params} {i f:Nat} (h:jF[i]? =some f):typeIn (KG P) (.ref f)=some (.type "function"):=congrArg Prod.fst (jZ (fnTy_all P) (List.mem_of_getElem? h))
theorem keep_fn {P:Params} {i f:Nat} (h:jF[i]? =some f):keepIn (KG P) (.ref f)=true:=congrArg Prod.snd (jZ (fnTy_all P) (List.mem_of_getElem? h))
theorem cA_eq {c C:Nat} (hC:yu[c]? =some C):cA c=C∧c∈List.range 21:=⟨by unfold cA; rw [List.getD_eq_getElem?_getD,hC]; rfl,List.mem_range.mpr (List.getElem?_eq_some_iff.mp hC).1⟩
theorem keep_cls {P:Params} {c C:Nat} (hC:yu[c]? =some C):keepIn (KG P) (.ref C)=true:=by
 have h:=(zW (zW (List.all_eq_true.mp (cls_ok P) c (cA_eq hC).2)).1).2
 rw [(cA_eq hC).1] at h
 exact h
structure Cls (P:Params) (C:Nat) (r:Zm):Prop where
 ga:findIn (KG P) (.ref C) "__getattribute__"=some (some (.builtin "object.__getattribute__"))
 gt:findIn (KG P) (.ref C) "__getattr__"=some none
 ini:findIn (KG P) (.ref C) "__init__"=some (some (initV r.init))
 mks:makesIn (KG P) C=true
 kp:keepIn (KG P) (.ref C)=true
 ib:∀i,r.init=some i→i < 85
 ms:∀e∈r.meths,e.2 < 85∧findIn (KG P) (.ref C) e.1=some (some (.ref (UF e.2)))
theorem cls_of {P:Params} {c C:Nat} {r:Zm} (hC:yu[c]? =some C) (hr:P0.cls[c]? =some r):Cls P C r:=by
 obtain ⟨e1,m⟩:=cA_eq hC
 have e2:cRec c=r:=by unfold cRec; rw [hr]; rfl
 have h1:=jZ (cls_eq P) m
 have h2:=jZ (cls_ms P) m
 have h3:=zW (List.all_eq_true.mp (cls_ok P) c m)
 rw [e1,e2] at h1 h2 h3
 exact ⟨congrArg (·.1) h1,congrArg (·.2.1) h1,congrArg (·.2.2) h1,(zW h3.1).1,(zW h3.1).2,fun i hi=>by
  have:=(zW h3.2).1
  rw [hi] at this
  exact Nat.blt_eq.mp this,fun e he=>⟨Nat.blt_eq.mp (List.all_eq_true.mp (zW h3.2).2 e he),jZ h2 he⟩⟩
set_option genInjectivity false in
set_option genSizeOf false in
structure Ctx (N:Nat) (sc:Scope) (ρ:Loc) (w:World) (σ:zG) where
 A:Around
 env:Env
 P:Sx w σ
 ro:jO A N
 F:Fr w sc env ρ P.φ P.s.heap
section
variable {N:Nat} {sc:Scope} {ρ:Loc} {w:World} {σ σ':zG}
noncomputable def Ctx.nx (c:Ctx N sc ρ w σ) (P':Sx w σ') (l:Le Nox c.P P'):Ctx N sc ρ w σ':=⟨c.A,c.env,P',c.ro,c.F.ext0 c.P.S l.x⟩
theorem jO.le {A:Around} {d e:Nat} (r:jO A d) (h:e≤d):jO A e:=⟨r.handled,Nat.lt_of_le_of_lt (Nat.add_le_add_left (Nat.mul_le_mul_left 3 h) _) r.depth,Nat.lt_of_le_of_lt (Nat.add_le_add_right (Nat.add_le_add_left (Nat.mul_le_mul_left 24 h) _) _) r.units⟩
end
theorem YG {x:Expr} {r:List Expr} {env:Env} (h:Yn x=true):starEach (x::r) env=(false,eval x env)::starEach r env:=by
 cases x<;>first | rfl | cases h
noncomputable def SndC {w:World} {σ:zG} (A:Around) (m:M V) (c:Code) (P:Sx w σ):Prop:=
 ∀ (k:K V) (r:Res),m k σ=r→r≠none→∀R:Result→Shared→Prop,(∀ (σ':zG) (P':Sx w σ') v y,Le Nox P P'→P'.R v y→k v σ'=r→R (.ok (.ret y)) P'.s)→codeAny (model pw w) A c R P.s
noncomputable def OkC (N:Nat) (cf:CF):Prop:=∀ {w σ} (A:Around) (P:Sx w σ) (i:Nat) (vs:List V) (xs:List Value) (fa:Addr),jF[i]? =some fa→jO A N→P.RL vs xs→SndC A (cf i vs) (.call (.ref fa) ⟨xs,[]⟩) P
section
variable {w:World} {A:Around} {σ:zG} {P:Sx w σ} {m:M V}
theorem SndC.call {f:Value} {xs:List Value} (h:SndC A m (.call f ⟨xs,[]⟩) P):Snd Nox A m (call f xs) P RV:=fun k r e hr Q q=>wpAny_call (h k r e hr _ fun σ' P' v y l z e'=>q σ' P' v y l z e')
theorem ZX {env:Env} {pos:Pos}:∀ {es:List Expr},es.all Yn=true→(backTo pos (starEach es env)).any (·.1)=false
 | [],_=>rfl
 | x::es,h=>by
  rw [List.all_cons,Bool.and_eq_true] at h
  rw [YG h.1]
  exact ZX (es:=es) h.2
variable {env:Env} {pos p:Pos} {es:List Expr} {ml:M (List V)} {g:List V→M V} {f:Value} {first:List Value} (hs:es.all Yn=true) (h:Snd Nox A ml (spliced (backTo pos (starEach es env))) P RS)
include hs h
theorem args_go {k:K (List V)} {r:Res} (e:ml k σ=r) (hr:r≠none) {Q:Args→Shared→Prop} (q:∀ (σ':zG) (P':Sx w σ') vs xs,Le Nox P P'→P'.RL vs xs→k vs σ'=r→Q ⟨xs,[]⟩ P'.s):wpAny (model pw w) A (evalArgs f true (backTo pos (starEach es env)) []) Q (fun _ _=>False) P.s:=by
 rcases es with _ | ⟨x,es⟩
 ·unfold evalArgs
  exact wpAny_bind (h k r e hr _ fun σ' P' vs xs l z e'=>wpAny_holding (wpAny_bind (wpAny_pure (wpAny_bind (wpAny_pure (wpAny_pure (q σ' P' vs xs l z e')))))))
 ·rw [List.all_cons,Bool.and_eq_true] at hs
  rw [YG hs.1] at h ⊢
  exact Calls.evalArgs_plain (h k r e hr _ fun σ' P' vs xs l z e'=>q σ' P' vs xs l z e')
theorem sndCall (hk:keepIn (KG w.params) f=true) (h2:∀ (σ':zG) (P':Sx w σ') vs xs,Le Nox P P'→P'.RL vs xs→Snd Nox A (g vs) (call f (first++xs)) P' RV):Snd Nox A (fun k=>ml fun vs=>g vs k) (callWith p f first (backTo pos (starEach es env)) []) P RV:=fun k r e hr Q q=>
 callWith_of (P:=(KG w.params).In) (by rw [ZX hs]; rfl) (keeps_K hk) (args_go hs h e hr fun σ' P' vs xs l z e'=>⟨Jb P'.S.base,h2 σ' P' vs xs l z _ _ e' hr Q fun σ'' P'' v y l' z' e''=>q σ'' P'' v y (l.trans l') z' e''⟩)
theorem sndCallB {x:String} (ef:f=.builtin x∨f=.type x) (h2:∀ (σ':zG) (P':Sx w σ') vs xs,Le Nox P P'→P'.RL vs xs→Snd Nox A (g vs) (call f (first++xs)) P' RV):Snd Nox A (fun k=>ml fun vs=>g vs k) (callWith p f first (backTo pos (starEach es env)) []) P RV:=fun k r e hr Q q=>by
 have z:=args_go (f:=f) hs h e hr (Q:=fun a s=>wpAny (model pw w) A (call f (first++a.pos) a.kw) Q (fun _ _=>False) s) fun σ' P' vs xs l z e'=>h2 σ' P' vs xs l z _ _ e' hr Q fun σ'' P'' v y l' z' e''=>q σ'' P'' v y (l.trans l') z' e''
 rcases ef with ef | ef
 ·subst ef; exact Calls.callWith_builtin (ZX hs) z
 ·subst ef; exact PyProof.Rows.callWith_type (ZX hs) z
end
section
variable {N:Nat} {sc:Scope} {ρ:Loc} {w:World} {σ:zG} (c:Ctx N sc ρ w σ) {α β:Type} {m:M β} {R:Rl w β α} {x:Str} {pos:Pos} {y:Value} {f:Value→Sem α} (hn:nmOk x=true) (hk:zO x sc.names=some .globalImplicit)
include hn hk
theorem wi {Q:Value→Shared→Prop} (e:nsIn (KG w.params) 3 x=some (some y)) (q:Q y c.P.s):wpAny (model pw w) c.A (eval (.Name x pos) c.env) Q (fun _ _=>False) c.P.s:=by
 refine Calls.Name_function_global c.F.k.kind (c.F.k.gl x hk) ?_ (nm_ok hn).1
 unfold loadGlobal
 rw [c.F.k.globals]
 exact wpAny_bind ((looks_nsIn (Jb c.P.S.base) (show nsIn (KG w.params) mainGlobals x=_ from e)).here (wpAny_pure q))
theorem sndG (e:nsIn (KG w.params) 3 x=some (some y)) (h:Snd Nox c.A m (f y) c.P R):Snd Nox c.A m (eval (.Name x pos) c.env >>=f) c.P R:=fun k r e' hr Q q=>wpAny_bind (wi c hn hk e (h k r e' hr Q q))
theorem sndB (e:nsIn (KG w.params) 3 x=some none) (e2:nsIn (KG w.params) 0 x=some (some y)) (h:Snd Nox c.A m (f y) c.P R):Snd Nox c.A m (eval (.Name x pos) c.env >>=f) c.P R:=fun k r e' hr Q q=>by
 refine wpAny_bind (Calls.Name_function_global c.F.k.kind (c.F.k.gl x hk) ?_ (nm_ok hn).1)
 unfold loadGlobal
 rw [c.F.k.globals,c.F.k.builtins]
 exact wpAny_bind ((looks_nsIn (Jb c.P.S.base) (show nsIn (KG w.params) mainGlobals x=_ from e)).here (wpAny_bind ((looks_nsIn (Jb c.P.S.base) (show nsIn (KG w.params) builtinsNs x=_ from e2)).here (wpAny_pure (h k r e' hr Q q)))))
end
theorem OkC.le {M N:Nat} {cf:CF} (h:OkC M cf) (l:M≤N):OkC N cf:=fun A P i vs xs fa hfa ro rl=>h A P i vs xs fa hfa (ro.le l) rl
section
variable {w:World} {A:Around} {σ:zG} {c:Nat} {C:Addr}
noncomputable def Sx.inst (P:Sx w σ) (hC:yu[c]? =some C):Sx w (σ++[.inst c []]):=⟨P.φ++[(P.s.heap.objs.size+1,P.s.heap.objs.size)],{P.s with heap:=(P.s.heap.push emptyDict).push (instObj C P.s.heap.objs.size)},by
 refine P.S.alloc (fun b o e=>Heap.get?_push_of_some _ (Heap.get?_push_of_some _ e)) (Heap.get?_none_of_le (Nat.le_succ _)) (Heap.get?_none_of_le (Nat.le_refl _)) ⟨C,#[],0,hC,?_,Heap.get?_push_of_some _ (Heap.get?_push_size _ rfl),rfl⟩
 have:=Heap.get?_push_size (P.s.heap.push emptyDict) (o:=instObj C P.s.heap.objs.size) rfl
 rwa [Heap.size_push] at this⟩
variable {P:Sx w σ} (hC:yu[c]? =some C)
theorem inst_le:Le Nox P (P.inst hC):=⟨Ext.alloc (fun b o e=>Heap.get?_push_of_some _ (Heap.get?_push_of_some _ e)) (Heap.get?_none_of_le (Nat.le_succ _)) (Heap.get?_none_of_le (Nat.le_refl _)),rfl,rfl⟩
theorem U7:(P.inst hC).R (.ref σ.length) (.ref (P.s.heap.objs.size+1)):=⟨(P.s.heap.objs.size+1,P.s.heap.objs.size),by rw [← P.S.len]; exact List.getElem?_concat_length,rfl⟩
theorem initOf {P:Params} {r:Zm} (K:Cls P C r):r.init=none∧findIn (KG P) (.ref C) "__init__"=some (some (.builtin "object.__init__"))∨∃i,r.init=some i∧i < 85∧findIn (KG P) (.ref C) "__init__"=some (some (.ref (UF i))):=by
 have h:=K.ini
 rcases e:r.init with _ | i
 ·rw [e] at h; exact .inl ⟨rfl,h⟩
 ·rw [e] at h; exact .inr ⟨i,rfl,K.ib i e,h⟩
include hC in
theorem inst0 {r:Zm} (K:Cls w.params C r) (hi:findIn (KG w.params) (.ref C) "__init__"=some (some (.builtin "object.__init__"))):Snd Nox A (zU (.inst c [])) (call (.ref C) []) P RV:=fun k r h hr Q q=>by
 have X:=Jb P.S.base
 have Y:=makes_of (M:=model pw w) X K.mks
 refine wpAny_call (make_core Y (looks_findIn X hi) (fun self=>Looks.of_pure (oi_bind self)) (.inr ⟨rfl,rfl⟩) ?_)
 have t1:Looks (model pw w) (P.inst hC).s.heap (typeOf (.ref (P.s.heap.objs.size+1))) (.ref C):=(Looks.ld (by
  have:=Heap.get?_push_size (P.s.heap.push emptyDict) (o:=instObj C P.s.heap.objs.size) rfl
  rw [Heap.size_push] at this
  exact this)).andThen .now
 refine codeAny_call_builtin oi_plain entry_oi (@check_slot (model pw w) _ _ _ "object.__init__" "object" "__init__" (.ref (P.s.heap.objs.size+1)) [] [] _ oi_kind oi_split (t1.andThen (Y.top.keeps fun b o e=>Heap.get?_push_of_some _ (Heap.get?_push_of_some _ e))) (oi_args (.ref (P.s.heap.objs.size+1))) ?_)
 rw [oi_run]
 exact wpAny_pure (And.intro rfl (q _ (P.inst hC) (.ref σ.length) _ (inst_le hC) (U7 (P:=P) hC) h))
theorem jO.init {N:Nat} {xs:List Value} (ro:jO A (N+1)):jO (A.under (.builtin "type.__call__" ⟨.ref C::xs,[]⟩)) N:=⟨ro.handled,by
  have:=ro.depth
  show A.depth+1+3*N < 900
  lia,by
  have:=ro.units
  show A.units+1+24*N+200 < 9000
  lia⟩
include hC in
theorem sndInst {cf:CF} {N:Nat} (hcf:OkC N cf) (ro:jO A (N+1)) {vs:List V} {xs:List Value} (rl:P.RL vs xs):Snd Nox A (zp P0 cf c vs) (call (.ref C) xs) P RV:=.sm fun rc hrc=>by
 have K:=cls_of (P:=w.params) hC hrc
 rcases initOf K with ⟨e,hi⟩ | ⟨i,e,hi,hf⟩
 ·rw [e]
  intro k
  revert k
  refine (Snd.n0 fun ev=>?_:Snd Nox A (on0 vs (zU (.inst c []))) (call (.ref C) xs) P RV)
  subst ev
  obtain rfl:xs=[]:=rl
  exact inst0 hC K hi
 ·rw [e]
  intro k r h hr Q q
  refine wpAny_call (make_core (makes_of (Jb P.S.base) K.mks) (looks_findIn (Jb P.S.base) hf) (fun self=>bind_fn (Jb P.S.base) self (fnTy (fa_of hi))) (.inl rfl) ?_)
  refine hcf (A.under (.builtin "type.__call__" ⟨.ref C::xs,[]⟩)) (P.inst hC) i (.ref σ.length::vs) (.ref (P.s.heap.objs.size+1)::xs) _ (fa_of hi) ro.init ⟨_,xs,rfl,U7 (P:=P) hC,za.ext P.S (inst_le hC).x zb _ _ rl⟩ _ r h hr _ fun σ' P' v y l z e'=>?_
  cases v<;>first | exact absurd e'.symm hr | skip
  obtain rfl:y=.none:=z
  exact ⟨rfl,q _ P' (.ref σ.length) _ ((inst_le hC).trans l) (l.v (U7 (P:=P) hC)) e'⟩
end
end Wk
end
section
namespace Wk
open Mine (st sm H1 YP pw)
noncomputable def VwOk (x:Expr) (v:Vw):Prop:=match v with
 | .name n p=>x=.Name n p
 | .attr o n p=>x=.Attribute o n p
 | .sub o i=>∃p,x=.Subscript o i p
 | .slice lo hi sp=>∃p,x=.Slice lo hi sp p
 | .const c=>∃a b,x=.Constant c a b
 | .tup es=>∃a b,x=.Tuple es a b
 | .call f a k=>∃p,x=.Call f a k p
 | .other=>True
theorem vw_ok (x:Expr):VwOk x (vw x):=by
 cases x<;>first | exact trivial | exact (rfl:_=_) | exact ⟨_,rfl⟩ | exact ⟨_,_,rfl⟩
theorem JD {x:Expr} {v:Vw} (e:vw x=v):VwOk x v:=e▸vw_ok x
inductive BmR {w:World} {σ:zG} (P:Sx w σ):BM→Value→List Value→Prop
 | fn {i:Nat} {self:V} {fa:Addr} {y:Value} (h:jF[i]? =some fa) (r:P.R self y):BmR P (.fn i self) (.ref fa) [y]
 | append {n:Nat} {y:Value} (r:P.R (.ref n) y):BmR P (.append n) (.builtin "list.append") [y]
 | pop {n:Nat} {y:Value} (r:P.R (.ref n) y):BmR P (.pop n) (.builtin "list.pop") [y]
 | dget {n:Nat} {y:Value} (r:P.R (.ref n) y):BmR P (.dget n) (.builtin "dict.get") [y]
 | dpop {n:Nat} {y:Value} (r:P.R (.ref n) y):BmR P (.dpop n) (.builtin "dict.pop") [y]
noncomputable def RM (w:World):Rl w BM (Value×List Value):=fun _ P b t=>BmR P b t.1 t.2
section
variable {w:World} {X:Addr→Prop} {A:Around} {σ σ':zG} {P:Sx w σ} {P':Sx w σ'} {α:Type} {t:Sem α}
theorem BmR.le {b:BM} {f:Value} {vs:List Value} (h:BmR P b f vs) (l:Le Nox P P'):BmR P' b f vs:=by
 cases h with
 | fn h r=>exact .fn h (l.v r)
 | append r=>exact .append (l.v r)
 | pop r=>exact .pop (l.v r)
 | dget r=>exact .dget (l.v r)
 | dpop r=>exact .dpop (l.v r)
theorem BmR.k {b:BM} {f:Value} {vs:List Value} (h:BmR P b f vs):keepIn (KG w.params) f=true∨∃x,f=.builtin x∨f=.type x:=by
 cases h with
 | fn h r=>exact .inl (keep_fn h)
 | _=>exact .inr ⟨_,.inl rfl⟩
theorem US {n:Nat} {p:Nat×Nat} {m:String} {b:BM} {o:Obj} {id:String} {pl:Sem Bool} (hp:P.φ[n]? =some p) (ho:P.s.heap.get? p.1=some o) (hd:o.dict=none) (h:∀Q:Value×List Value→Shared→Prop,(∀a',Value.ref p.1=.ref a'→∃o,P.s.heap.get? a'=some o∧o.dict=none)→Q (.builtin id,[.ref p.1]) P.s→wpAny (model pw w) A (getMethod (.ref p.1) m pl) Q (fun _ _=>False) P.s) (z:BmR P b (.builtin id) [.ref p.1]):Snd Nox A (ret b) (getMethod (.ref p.1) m pl) P (RM w):=
 fun k r e hr Q q=>h Q (fun a' e=>by cases e; exact ⟨o,ho,hd⟩) (q σ P b (_,_) .rfl z e)
theorem sndBind {a:V} {n:Str} {x:Value} {pl:Sem Bool} (ra:P.R a x):Snd Nox A (zR P0 a n) (getMethod x n pl) P (RM w):=.ob ra fun m p o ex hp ea e0 R=>by
 subst ex ea
 cases o with
 | lit ob l=>exact .fail
 | list l=>
  obtain ⟨-,vs,⟨kk,hv⟩,-⟩:=R
  refine .bi (fun q=>?_) fun _=>.chk fun q=>?_
  ·obtain rfl:=Fast.sEq_iff.mp q
   exact US hp hv rfl (fun Q d q=>getMethod_builtin (T:="list") ⟨_,hv,rfl⟩ PySem.F.plainAttrs_list PySem.F.slot_list_append PySem.F.type_list_append d q) (.append ra)
  ·obtain rfl:=Fast.sEq_iff.mp q
   exact US hp hv rfl (fun Q d q=>getMethod_builtin (T:="list") ⟨_,hv,rfl⟩ PySem.F.plainAttrs_list PySem.F.slot_list_pop PySem.F.type_list_pop d q) (.pop ra)
 | dict l e=>
  obtain ⟨-,-,es,m,ho,-⟩:=R
  refine .bi (fun q=>?_) fun _=>.chk fun q=>?_
  ·obtain rfl:=Fast.sEq_iff.mp q
   exact US hp ho rfl (fun Q d q=>getMethod_builtin (T:="dict") ⟨_,ho,rfl⟩ PySem.F.plainAttrs_dict PySem.F.slot_dict_get PySem.F.type_dict_get d q) (.dget ra)
  ·obtain rfl:=Fast.sEq_iff.mp q
   exact US hp ho rfl (fun Q d q=>getMethod_builtin (T:="dict") ⟨_,ho,rfl⟩ PySem.F.plainAttrs_dict PySem.F.slot_dict_pop PySem.F.type_dict_pop d q) (.dpop ra)
 | inst c fs=>
  obtain ⟨C,es,m,hC,h1,h2,rf⟩:=R
  refine .chk fun hl=>.sm fun i hm k r e hr Q q=>?_
  obtain ⟨rc,hrc,hm⟩:=Option.bind_eq_some_iff.mp hm
  have K:=cls_of (P:=w.params) hC hrc
  obtain ⟨hi,hf⟩:=K.ms _ (ZW hm)
  refine method_fn (Jb P.S.base) (⟨h1,rfl,rfl,h2⟩:InstAt P.s.heap p.1 (instObj C p.2) C (some ⟨.type "dict",none,.dict es m,#[]⟩)) K.ga K.gt hf (fnTy (fa_of hi)) ?_ (q σ P (.fn i (.ref _)) (_,_) .rfl (.fn (fa_of hi) ra) e)
  have hl:zO n fs=none:=by
   rcases e:zO n fs with _ | v
   ·rfl
   ·rw [e] at hl; exact no hl
  obtain ⟨j1,j2⟩:=(jI.find rf).2 hl
  show (lookIn n ⟨.type "dict",none,.dict es m,#[]⟩).map _=_
  simp only [lookIn,j1,j2]
  rfl
theorem za.cons1 {v:V} {l:List V} {xs:List Value} (r:P.RL (v::l) xs):∃x ys,xs=x::ys∧P.R v x∧P.RL l ys:=let ⟨x,ys,e,a,b⟩:=r; ⟨x,ys,e,a,b⟩
theorem sndCallM {N:Nat} {cf:CF} {bm:BM} {f:Value} {first xs:List Value} {vs:List V} (r1:jO A 1) (hcf:OkC N cf) (ro:jO A N) (b:BmR P bm f first) (rl:P.RL vs xs):Snd Nox A (zN cf bm vs) (call f (first++xs)) P RV:=by
 cases b with
 | fn h r=>exact (hcf A P _ (_::vs) (_::xs) _ h ro ⟨_,xs,rfl,r,rl⟩).call
 | append r=>
  obtain ⟨p,hp,rfl⟩:=r
  refine .n1 fun v e=>?_
  subst e
  obtain ⟨x,rfl,rx⟩:=za.one rl
  exact sndApp hp rx
 | pop r=>
  obtain ⟨p,hp,rfl⟩:=r
  refine .n0 fun e=>?_
  subst e
  obtain rfl:xs=[]:=rl
  exact sndPop hp
 | dget r=>
  obtain ⟨p,hp,rfl⟩:=r
  refine .nC fun v l e=>?_
  subst e
  obtain ⟨x,ys,rfl,rx,ry⟩:=za.cons1 rl
  cases l with
  | nil=>
   obtain rfl:ys=[]:=ry
   exact sndGetM r1 hp rx (.inl ⟨rfl,rfl⟩)
  | cons d l=>
   refine .n0 fun e=>?_
   subst e
   obtain ⟨z,rfl,rz⟩:=za.one ry
   exact sndGetM r1 hp rx (.inr ⟨z,rfl,rz⟩)
 | dpop r=>
  obtain ⟨p,hp,rfl⟩:=r
  refine .n2 fun v d e=>?_
  subst e
  obtain ⟨x,ys,rfl,rx,ry⟩:=za.cons1 rl
  obtain ⟨z,rfl,rz⟩:=za.one ry
  exact sndPopD r1 hp rx rz
end
end Wk
end
section
namespace Wk
open Mine (st sm H1 YP pw)
noncomputable def yl (N:Nat) (f:Scope→Expr→Loc→M V):Prop:=∀ {sc x ρ w σ} (c:Ctx N sc ρ w σ),Snd Nox c.A (f sc x ρ) (eval x c.env) c.P RV
noncomputable def jj (N:Nat) (f:Scope→Expr→Loc→M Bool):Prop:=∀ {sc x ρ w σ} (c:Ctx N sc ρ w σ),Snd Nox c.A (f sc x ρ) (isTrue x c.env (eval x c.env)) c.P RB
theorem W8 (pos:Pos) (op:BoolOp) (x:Sem Value) (y:Sem Value) (r:List (Sem Value)):boolOp pos op (x::y::r)=(x >>=fun v=>standAt pos >>=fun _=>holding [v] (truthy v) >>=fun t=>match op,t with
  | .And,false | .Or,true=>pure v
  | _,_=>boolOp pos op (y::r)):=rfl
theorem WO (op:BoolOp) (x:Expr) (r:List Expr) (env:Env):allTrue op (x::r) env=(isTrue x env (eval x env) >>=fun t=>match op,t with
  | .And,false=>pure false
  | .Or,true=>pure true
  | _,_=>allTrue op r env):=rfl
theorem XH {op:CmpOp} {r:Expr} {t:Sem Value} (h:YW r=true):markedBehindIn op r t=t:=by
 refine markedBehindIn_of_false ?_
 unfold behindInMarks
 cases r<;>first | rfl | exact no h
theorem Xh {o:Expr} {attr:Str} {env:Env} {whole:Sem Value} (h:UU o=true):attributeBase o attr env whole=whole:=by
 cases o with
 | Call f args kws p=>
  cases f with
  | Name=>cases args<;>cases kws<;>first | rfl | exact no h
  | _=>rfl
 | _=>rfl
theorem XW (i:Expr) (o x:Value):∃l,subscripted i false o x=operate l (getItem o x):=by
 cases i with
 | Slice _ _ s=>cases s<;>exact ⟨_,rfl⟩
 | _=>exact ⟨_,rfl⟩
noncomputable def subO (o:O):Bool:=match o with
 | .inst _ _=>false
 | _=>true
noncomputable def Subb (a:V) (σ:zG):Prop:=match a with
 | .tup _=>True
 | .str _=>True
 | .cdict _=>True
 | .ref n=>∃o,σ[n]? =some o∧subO o=true
 | _=>False
theorem onO_sub {n:Nat} {f:O→M V} {k:K V} {σ:zG} {r:Res} (h:onO n f k σ=r) (hr:r≠none) (hf:∀c fs,f (.inst c fs) k σ=none):Subb (.ref n) σ:=by
 unfold onO at h
 rcases e:σ[n]? with _ | o
 ·rw [e] at h; exact absurd h.symm hr
 ·rw [e] at h
  cases o with
  | inst c fs=>exact absurd (h.symm.trans (hf c fs)) hr
  | _=>exact ⟨_,e,rfl⟩
theorem getItem_sub {a i:V} {k:K V} {σ:zG} {r:Res} (h:zC a i k σ=r) (hr:r≠none):Subb a σ:=by
 cases a with
 | tup | str | cdict=>exact trivial
 | ref n=>exact onO_sub h hr fun _ _=>rfl
 | _=>exact absurd h.symm hr
theorem slice_subb {a lo hi:V} {k:K V} {σ:zG} {r:Res} (h:yA a lo hi k σ=r) (hr:r≠none):Subb a σ:=by
 cases a with
 | tup=>exact trivial
 | ref n=>
  cases lo with
  | int i=>cases hi with
   | none=>exact onO_sub (f:=tailO i) h hr fun _ _=>rfl
   | _=>exact absurd h.symm hr
  | none=>cases hi with
   | int i=>exact onO_sub (f:=headO i) h hr fun _ _=>rfl
   | _=>exact absurd h.symm hr
  | _=>exact absurd h.symm hr
 | _=>exact absurd h.symm hr
section
variable {w:World} {X:Addr→Prop} {A:Around} {σ:zG} {P:Sx w σ} {a:V} {x:Value}
theorem notPy {E:Value→Shared→Prop} {Q:Bool→Shared→Prop} (hs:Subb a σ) (r:P.R a x) (q:Q false P.s):wpAny (model pw w) A (getitemInPython x) Q E P.s:=by
 have go:∀ {T id},P.s.TypeIs x T→Slot T "__getitem__" id→wpAny (model pw w) A (getitemInPython x) Q E P.s:=fun {T id} hT sl=>by
  unfold getitemInPython
  exact wpAny_bind (wpAny_specialOf hT sl.lookup (wpAny_pure q))
 cases a with
 | str l=>obtain ⟨t,rfl⟩:=r; exact go (T:="str") rfl PySem.F.slot_str_getitem
 | tup l=>obtain ⟨t,vs,rfl,ht,-⟩:=r; exact go ht.typeIs PySem.F.slot_tuple_getitem
 | ref n=>
  obtain ⟨p,hp,rfl⟩:=r
  obtain ⟨o,e0,hs⟩:=hs
  have R:=P.S.at hp e0
  cases o with
  | list l=>obtain ⟨-,vs,⟨kk,hl⟩,-⟩:=R; exact go ⟨_,hl,rfl⟩ slot_list_getitem
  | dict l e=>obtain ⟨-,-,es,n,ho,-⟩:=R; exact go ⟨_,ho,rfl⟩ slot_dict_getitem
  | inst=>exact no hs
  | lit ob l=>obtain ⟨-,hl,hcl,-⟩:=R; exact go ⟨_,hl,hcl⟩ slot_list_getitem
 | cdict l=>obtain ⟨t,es,n,rfl,ho,-⟩:=r; exact go ⟨_,P.S.base _ _ ho,rfl⟩ slot_dict_getitem
 | _=>exact hs.elim
theorem sndSub {m:M V} {i:Expr} {y:Value} {o:Expr} (r:P.R a x) (hs:∀k r,m k σ=r→r≠none→Subb a σ) (h:Snd X A m (getItem x y) P RV):Snd X A m (getitemInPython x >>=fun py=>subscripted i py x y >>=fun r=>letTemporaryGo o x r >>=fun _=>pure r) P RV:=fun k r' e hr Q q=>by
 refine wpAny_bind (notPy (hs k r' e hr) r ?_)
 obtain ⟨l,e'⟩:=XW i x y
 rw [e']
 exact (h.oper.on fun _ P' v z l z'=>.letGo (.pure z')) k r' e hr Q q
end
section
variable {N:Nat} {sc:Scope} {ρ:Loc} {w:World} {f:Scope→Expr→Loc→M V} {g:Scope→Expr→Loc→M Bool} {σ:zG}
theorem sndLn (hf:yl N f) {pos:Pos} {es:List Expr}:∀ {σ:zG} (c:Ctx N sc ρ w σ),es.all Yn=true→Snd Nox c.A (evL (fun y=>f sc y ρ) es) (spliced (backTo pos (starEach es c.env))) c.P (fun _ P v x=>P.RL v x∧v.length=es.length):=by
 induction es with
 | nil=>exact fun _ _=>.pure ⟨rfl,rfl⟩
 | cons x es ih=>
  intro σ c h
  rw [List.all_cons] at h
  rw [YG (zW h).1]
  exact (hf c).bind fun _ P1 v a l1 r1=>.pb (((ih (c.nx P1 l1) (zW h).2).hold).bind fun _ P2 vs xs l2 r2=>.pure ⟨⟨a,xs,rfl,l2.v r1,r2.1⟩,congrArg (·+1) r2.2⟩)
theorem sndL (hf:yl N f) {pos:Pos} {es:List Expr} (c:Ctx N sc ρ w σ) (h:es.all Yn=true):Snd Nox c.A (evL (fun y=>f sc y ρ) es) (spliced (backTo pos (starEach es c.env))) c.P RS:=(sndLn hf c h).map (f:=fun v=>v) fun _ _ _ _ z=>z.1
theorem sndAnd (hf:yl N f) {pos:Pos} {es:List Expr}:∀ {σ:zG} (c:Ctx N sc ρ w σ),Snd Nox c.A (andL (fun y=>f sc y ρ) es) (boolOp pos .And (evalEach es c.env)) c.P RV:=by
 induction es with
 | nil=>exact fun _=>.no fun _=>rfl
 | cons x es ih=>
  intro σ c
  cases es with
  | nil=>exact hf c
  | cons y es=>exact .eq (W8 _ _ _ _ _) ((hf c).bind fun _ P1 v a l1 r1=>.stand ((sndT r1).hold.tr (fun _ P2 l2=>ih (c.nx P2 (l1.trans l2))) fun _ P2 l2=>.pure (l2.v r1)))
theorem sndOr (hf:yl N f) {pos:Pos} {es:List Expr}:∀ {σ:zG} (c:Ctx N sc ρ w σ),Snd Nox c.A (orL (fun y=>f sc y ρ) es) (boolOp pos .Or (evalEach es c.env)) c.P RV:=by
 induction es with
 | nil=>exact fun _=>.no fun _=>rfl
 | cons x es ih=>
  intro σ c
  cases es with
  | nil=>exact hf c
  | cons y es=>exact .eq (W8 _ _ _ _ _) ((hf c).bind fun _ P1 v a l1 r1=>.stand ((sndT r1).hold.tr (fun _ P2 l2=>.pure (l2.v r1)) fun _ P2 l2=>ih (c.nx P2 (l1.trans l2))))
theorem sndAndT (hf:jj N g) {es:List Expr}:∀ {σ:zG} (c:Ctx N sc ρ w σ),Snd Nox c.A (andT (fun y=>g sc y ρ) es) (allTrue .And es c.env) c.P RB:=by
 induction es with
 | nil=>exact fun _=>.pure rfl
 | cons x es ih=>exact fun c=>.eq (WO _ _ _ _) ((hf c).tr (fun _ P2 l2=>ih (c.nx P2 l2)) fun _ P2 l2=>.pure rfl)
theorem sndOrT (hf:jj N g) {es:List Expr}:∀ {σ:zG} (c:Ctx N sc ρ w σ),Snd Nox c.A (orT (fun y=>g sc y ρ) es) (allTrue .Or es c.env) c.P RB:=by
 induction es with
 | nil=>exact fun _=>.pure rfl
 | cons x es ih=>exact fun c=>.eq (WO _ _ _ _) ((hf c).tr (fun _ P2 l2=>.pure rfl) fun _ P2 l2=>ih (c.nx P2 l2))
theorem sndName (c:Ctx N sc ρ w σ) {x:Str} {p:Pos}:Snd Nox c.A (evName P0 sc x ρ) (eval (.Name x p) c.env) c.P RV:=.chk fun hn=>.sm fun q hk=>by
 have loc:(Z5 (some q)||isCellish (some q))=true→Snd Nox c.A (ya (zO x ρ) ret) (eval (.Name x p) c.env) c.P RV:=fun i=>.sm fun v hv=>c.F.load hn (by unfold inFr; rw [hk]; exact i) hv
 cases q with
 | «local» | cell | free=>exact loc rfl
 | globalImplicit=>
  refine .sm fun g hg=>?_
  cases g with
  | val v=>
   obtain ⟨z,hz,rz⟩:=glob_val w.params hg
   exact .v (rz _ _ (Jb c.P.S.base)) fun Q q=>wi c hn hk hz (q c.P.s.toks)
  | _=>exact .fail
 | _=>exact .fail
theorem sndConst {env:Env} {A:Around} {P:Sx w σ} {c:Const}:Snd Nox A (ya (constV c) ret) (constValue env c) P RV:=.sm fun v h=>by
 cases c<;>cases h
 ·exact .pure rfl
 ·exact .pure rfl
 ·exact .now (a:=.int _ _) (fun Q q=>wpAny_mkInt (q _)) fun _=>⟨_,rfl⟩
 ·exact .now (a:=.str _ _) (fun Q q=>wpAny_mkText (q _)) fun _=>⟨_,rfl⟩
end
end Wk
end
section
namespace Wk
open Mine (st sm H1 YP pw)
theorem bltV_or (b:Nat):∃x,Qv b=.builtin x∨Qv b=.type x:=by
 rcases b with _ | _ | _ | _ | _ | b<;>first | exact ⟨_,.inl rfl⟩ | exact ⟨_,.inr rfl⟩
noncomputable def slM (I:Ev) (sc:Scope) (ρ:Loc) (lo hi:Option Expr):M (V×V):=fun k=>optE lo (fun y=>I.e sc y ρ) fun l=>optE hi (fun y=>I.e sc y ρ) fun h=>k (l,h)
theorem plain_all {es:List Expr} {env:Env} {pos:Pos} (hs:es.all Yn=true):(backTo pos (starEach es env)).all (!·.1)=true:=by
 have:=ZX (env:=env) (pos:=pos) hs
 rw [← Bool.not_eq_true',← List.not_any_eq_all_not] at*
 simpa using this
theorem Zi {es:List Expr} (h:YD es=true):es.all Yn=true∧es.length≤20:=⟨(zW h).1,Nat.le_of_ble_eq_true (zW h).2⟩
section
variable {N M':Nat} {sc:Scope} {ρ:Loc} {w:World} {I:Ev} {cf:CF} {σ:zG} (hE:yl N I.e) (hT:jj N I.t) (hN:1≤N) (hM:M'+1≤N) (hcf:OkC M' cf) (c:Ctx N sc ρ w σ)
theorem noneOf {env:Env}:valueOrNone (evalOpt none env)=pure .none:=rfl
include hE
theorem sndO {x:Option Expr}:Snd Nox c.A (optE x fun y=>I.e sc y ρ) (valueOrNone (evalOpt x c.env)) c.P (fun _ P v y=>P.R v y∧(x=none→v=.none)):=by
 cases x with
 | none=>exact .pure ⟨rfl,fun _=>rfl⟩
 | some x=>exact (hE c).map (f:=fun v=>v) fun _ _ _ _ z=>⟨z,nofun⟩
structure Sl (P:Sx w σ) (a b:V) (y:Value):Prop where
 o:∃sl x z,y=.ref sl∧P.s.heap.IsSliceOf sl x z .none∧P.R a x∧P.R b z
noncomputable def RSl (w:World) (hi:Option Expr):Rl w (V×V) Value:=fun _ P b y=>Sl P b.1 b.2 y∧(hi=none→b.2=.none)
theorem sndSlO {lo hi:Option Expr} {p:Pos}:Snd Nox c.A (slM I sc ρ lo hi) (eval (.Slice lo hi none p) c.env) c.P (RSl w hi):=
 (sndO hE c).bind fun _ P1 l a l1 r1=>(sndO hE (c.nx P1 l1)).hold.bind fun σ2 P2 h b l2 r2 k r e hr Q q=>
  wpAny_bind (wpAny_holding (wpAny_pure (wpAny_newObj_type (q σ2 (P2.pu {cls:=.type "slice",data:=.fields #[a,b,.none]}) (l,h) _ Sx.puL ⟨⟨_,a,b,rfl,Heap.IsSliceOf.new ..,Sx.puL.v (l2.v r1.1),Sx.puL.v r2.1⟩,r2.2⟩ e))))
include hN
theorem sBin {l r:Expr} {op:Operator} {p:Pos}:Snd Nox c.A (fun k=>I.e sc l ρ fun a=>I.e sc r ρ fun b=>zT op a b k) (eval (.BinOp l op r p) c.env) c.P RV:=.eq (eval_BinOp ..) ((hE c).bind fun _ P1 a x l1 r1=>(hE (c.nx P1 l1)).hold.bind fun _ P2 b y l2 r2=>.stand (.oper (sndBin (l2.v r1) r2)))
theorem sUn {y:Expr} {op:UnaryOp} {p:Pos}:Snd Nox c.A (fun k=>I.e sc y ρ fun v=>unE op v k) (eval (.UnaryOp op y p) c.env) c.P RV:=
 (hE c).bind (f:=fun v=>standAt p >>=fun _=>holding [v] (unaryOp op v)) fun _ P1 a x l1 r1=>.stand (.hold (by
  cases op with
  | Not=>exact fun k r e hr Q q=>not_of (sndT r1 _ r e hr _ fun σ' P' b a l z e'=>q σ' P' (.bool !b) (.bool !a) l (congrArg (fun t=>Value.bool !t) z) e')
  | UAdd=>exact sndUn (op:=.UAdd) r1
  | USub=>exact sndUn (op:=.USub) r1
  | Invert=>exact sndUn (op:=.Invert) r1))
theorem sCmp {l r:Expr} {op:CmpOp} {p:Pos}:Snd Nox c.A (cmp1 sc I l op r ρ) (eval (.Compare l [op] [r] p) c.env) c.P RV:=.chk fun hs=>by
 rw [eval_Compare1,XH hs]
 exact (hE c).bind fun _ P1 a x l1 r1=>(hE (c.nx P1 l1)).hold.bind fun _ P2 b y l2 r2=>.stand (.oper (sndCmp (c.ro.le hN) (l2.v r1) r2))
theorem sCmpT {l r:Expr} {op:CmpOp} {p:Pos}:Snd Nox c.A (chk (YW r) fun k=>I.e sc l ρ fun a=>I.e sc r ρ fun b=>zL op a b fun c=>zE c k) (isTrue (.Compare l [op] [r] p) c.env (eval (.Compare l [op] [r] p) c.env)) c.P RB:=
 .chk fun hs=>by
 rw [isTrue_Compare1,XH hs]
 exact (hE c).bind fun _ P1 a x l1 r1=>(hE (c.nx P1 l1)).hold.bind fun _ P2 b y l2 r2=>.stand ((sndCmp (c.ro.le hN) (l2.v r1) r2).oper.bind fun _ P3 d z l3 r3=>.hold (sndT r3))
theorem sCmp2 {l r r':Expr} {op op':CmpOp} {p:Pos}:Snd Nox c.A (cmp2 sc I l op op' r r' ρ) (eval (.Compare l [op,op'] [r,r'] p) c.env) c.P RV:=.chk fun hs=>
 (hE c).bind (f:=fun a=>holding [a] (eval r c.env) >>=fun rv=>standAt p >>=fun _=>holding [a,rv] (compareOp op a rv) >>=fun d=>release [a,rv] [d] >>=fun _=>
  holding [d,rv] (truthy d) >>=fun t=>if t=true then (holding [rv] (markedBehindIn op' r' (eval r' c.env)) >>=fun rv'=>standAt p >>=fun _=>operate [rv,rv'] (compareOp op' rv rv')) else pure d) fun _ P1 a x l1 r1=>
 (hE (c.nx P1 l1)).hold.bind fun _ P2 b y l2 r2=>.stand ((sndCmp (c.ro.le hN) (l2.v r1) r2).hold.bind fun _ P3 d z l3 r3=>.rel ((sndT r3).hold.tr (fun _ P4 l4=>by
  rw [if_pos rfl,XH (zW hs).2]
  have l:=(l2.trans l3).trans l4
  exact (hE ((c.nx P1 l1).nx P4 l)).hold.bind fun _ P5 b' y' l5 r5=>.stand (.oper (sndCmp (c.ro.le hN) (l5.v (l4.v (l3.v r2))) r5))) fun _ P4 l4=>.pure (l4.v r3)))
theorem sAttr {o:Expr} {n:Str} {p:Pos}:Snd Nox c.A (chk (UU o) fun k=>I.e sc o ρ fun ov=>zD P0 ov n k) (eval (.Attribute o n p) c.env) c.P RV:=.chk fun hs=>.eq (t':=eval o c.env >>=fun ov=>standAt p.atName >>=fun _=>holding [ov] (getAttr ov n true) >>=fun r=>letTemporaryGo o ov r >>=fun _=>pure r) (congrArg (· >>=_) (Xh hs))
 ((hE c).bind fun _ P1 a x l1 r1=>.stand ((sndAttr r1).hold.on fun _ P2 b y l2 r2=>.letGo (.pure r2)))
theorem sSub {o i:Expr} {p:Pos}:Snd Nox c.A (subI sc I o i ρ) (eval (.Subscript o i p) c.env) c.P RV:=
 (hE c).bind (f:=fun ov=>holding [ov] (eval i c.env) >>=fun iv=>standAt p >>=fun _=>getitemInPython ov >>=fun py=>subscripted i py ov iv >>=fun r=>letTemporaryGo o ov r >>=fun _=>pure r) fun _ P1 a x l1 r1=>(hE (c.nx P1 l1)).hold.bind fun _ P2 b y l2 r2=>.stand (sndSub (l2.v r1) (fun _ _=>getItem_sub) (sndItem (c.ro.le hN) (l2.v r1) r2))
theorem sSli {o:Expr} {lo hi:Option Expr} {p p':Pos} {sp:Option Expr}:Snd Nox c.A (sliE sc I o lo hi ρ sp) (eval (.Subscript o (.Slice lo hi sp p') p) c.env) c.P RV:=by
 cases sp with
 | some=>exact .fail
 | none=>
  refine (hE c).bind (g:=fun ov k=>slM I sc ρ lo hi fun b=>yA ov b.1 b.2 k) (f:=fun ov=>holding [ov] (eval (.Slice lo hi none p') c.env) >>=fun iv=>standAt p >>=fun _=>getitemInPython ov >>=fun py=>subscripted (.Slice lo hi none p') py ov iv >>=fun r=>letTemporaryGo o ov r >>=fun _=>pure r) fun _ P1 a x l1 r1=>(sndSlO hE (c.nx P1 l1)).hold.bind fun _ P2 b y l2 r2=>.stand ?_
  obtain ⟨sl,u,z,rfl,hsl,ru,rz⟩:=r2.1.o
  exact sndSub (l2.v r1) (fun _ _=>slice_subb) (sndSlice (l2.v r1) ru rz hsl)
theorem sSubE {o i:Expr} {p:Pos}:Snd Nox c.A (subE sc I o i ρ) (eval (.Subscript o i p) c.env) c.P RV:=by
 unfold subE
 cases e:vw i with
 | slice lo hi sp=>
  obtain ⟨p',rfl⟩:=JD e
  exact sSli hE hN c
 | _=>exact sSub hE hN c
include hM hcf
theorem sCallN {x:Str} {p0 p:Pos} {es:List Expr}:Snd Nox c.A (callE P0 cf sc I (.Name x p0) es p ρ) (eval (.Call (.Name x p0) es [] p) c.env) c.P RV:=.chk fun h=>.sm fun q hk=>.chk fun hq=>.sm fun g hg=>.chk fun hg'=>by
 obtain ⟨hn,hs⟩:=(zW h).imp id Zi
 have hk:zO x sc.names=some .globalImplicit:=by cases q<;>first | exact hk | exact no hq
 rw [arm_eval_Call_Name']
 cases g with
 | val=>exact no hg'
 | fn i=>
  obtain ⟨fa,hfa,hns⟩:=glob_fn w.params hg
  exact sndG c hn hk hns (sndCall (first:=[]) hs.1 (sndL hE c hs.1) (keep_fn hfa) fun _ P' vs xs l rl=>(hcf c.A P' i vs xs fa hfa (c.ro.le (Nat.le_of_succ_le hM)) rl).call)
 | cls i=>
  obtain ⟨C,hC,hns⟩:=glob_cls w.params hg
  exact sndG c hn hk hns (sndCall (first:=[]) hs.1 (sndL hE c hs.1) (keep_cls hC) fun _ P' vs xs l rl=>sndInst hC hcf (c.ro.le hM) rl)
 | blt b=>
  obtain ⟨h3,h0⟩:=glob_blt w.params hg
  obtain ⟨x,hx⟩:=bltV_or b
  exact sndB c hn hk h3 h0 (sndCallB (first:=[]) hs.1 (sndL hE c hs.1) hx fun _ P' vs xs l rl=>sndBlt c.ro.handled rl)
theorem sCallEnd {p:Pos} {es:List Expr} {b:BM} {f:Value} {first:List Value} (hs:es.all Yn=true) (r:BmR c.P b f first):Snd Nox c.A (fun k=>evL (fun y=>I.e sc y ρ) es fun vs=>zN cf b vs k) (callWith p f first (backTo p (starEach es c.env)) []) c.P RV:=by
 have go:∀ (σ':zG) (P':Sx w σ') vs xs,Le Nox c.P P'→P'.RL vs xs→Snd Nox c.A (zN cf b vs) (call f (first++xs)) P' RV:=fun _ P' vs xs l rl=>sndCallM (c.ro.le hN) hcf (c.ro.le (Nat.le_of_succ_le hM)) (r.le l) rl
 rcases r.k with h | ⟨x,h⟩
 ·exact sndCall hs (sndL hE c hs) h go
 ·exact sndCallB hs (sndL hE c hs) h go
theorem sCallA {o:Expr} {m:Str} {ap p:Pos} {es:List Expr}:Snd Nox c.A (callE P0 cf sc I (.Attribute o m ap) es p ρ) (eval (.Call (.Attribute o m ap) es [] p) c.env) c.P RV:=.chk fun h=>by
 obtain ⟨hso,hp,hs,hl⟩:=(zW h).imp id fun h=>(zW h).imp id Zi
 have form:methodCallForm (es.length+0) (backTo p (starEach es c.env)) []=true:=by
  unfold methodCallForm
  rw [plain_all hs]
  simp
  lia
 have hcp:methodCallPos true o c.env ap p=pure p:=by
  unfold methodCallPos
  rw [if_pos (by rw [Nat.eq_of_beq_eq_true hp]; simp)]
 refine .eq (t':=eval o c.env >>=fun ov=>standAt ap.atName >>=fun _=>holding [ov] (calleeOf true o c.env ov m) >>=fun t=>methodCallPos true o c.env ap p >>=fun cp=>callWith cp t.1 t.2 (backTo p (starEach es c.env)) []) ?_ ?_
 ·rw [← form]
  exact congrArg (· >>=_) (Xh hso)
 rw [hcp]
 exact (hE c).bind fun _ P1 a x l1 r1=>.stand ((sndBind r1).hold.bind fun _ P2 b y l2 r2=>.pb (sCallEnd hE hN hM hcf ((c.nx P1 l1).nx P2 l2) hs r2))
end
end Wk
end
section
namespace Wk
open Mine (st sm H1 YP pw)
noncomputable def YS (B:List Str) (ρ ρ':Loc):Prop:=∀y,y∉B→zO y ρ'=zO y ρ
noncomputable def Bd (sc:Scope) (n:Str):Prop:=∃q,zO n sc.names=some q∧isBd q=true
structure Asd (w:World) (sc:Scope) (env:Env) (B:List Str) (ρ ρ':Loc) (φ:Phi) (h:Heap):Prop where
 F:Fr w sc env ρ' φ h
 k:YS B ρ ρ'
 b:∀n∈B,Bd sc n
noncomputable def RA (w:World) (sc:Scope) (env:Env) (B:List Str) (ρ:Loc):Rl w Loc Unit:=fun _ P ρ' _=>Asd w sc env B ρ ρ' P.φ P.s.heap
noncomputable def asgNs (sc:Scope):List (Str×Pos)→List V→Loc→M Loc
 | []=>fun _ ρ=>ret ρ
 | n::ns=>fun us ρ=>onC us fun u us=>fun k=>wJ sc n.1 u ρ fun ρ=>asgNs sc ns us ρ k
theorem nmE_ok {x:Expr} {a:Str×Pos} (h:nmE x=some a):x=.Name a.1 a.2:=by
 unfold nmE at h
 cases e:vw x with
 | name n p=>rw [e] at h; cases h; exact JD e
 | _=>rw [e] at h; exact nN h
theorem nmL_ok {es:List Expr}:∀ {ns:List (Str×Pos)},nmL es=some ns→es=(ns.map fun n=>.Name n.1 n.2)∧(es.filterMap fun e=>(nmE e).map (·.1))=ns.map (·.1):=by
 induction es with
 | nil=>exact fun h=>by cases h; exact ⟨rfl,rfl⟩
 | cons x r ih=>
  intro ns h
  obtain ⟨a,h1,h⟩:=Option.bind_eq_some_iff.mp h
  obtain ⟨l,h2,rfl⟩:=Option.map_eq_some_iff.mp h
  obtain ⟨e1,e2⟩:=ih h2
  exact ⟨by rw [nmE_ok h1,e1]; rfl,by rw [List.filterMap_cons,h1,e2]; rfl⟩
theorem noneO_ok {o x:Option Expr} {y:Expr} (h:noneO o x=some y):o=none∧x=some y:=by
 cases o with
 | none=>exact ⟨rfl,h⟩
 | some=>exact nN h
theorem Uf {i lo:Expr} (h:Jd i=some lo):∃p,i=.Slice (some lo) none none p:=by
 unfold Jd at h
 cases e:vw i with
 | slice l hi sp=>
  rw [e] at h
  obtain ⟨p,rfl⟩:=JD e
  obtain ⟨e1,h⟩:=noneO_ok h
  obtain ⟨e2,e3⟩:=noneO_ok h
  exact ⟨p,by rw [e1,e2,e3]⟩
 | _=>rw [e] at h; exact nN h
theorem unp2_ok {a:V} {k:K (V×V)} {σ:zG} {r:Res} (h:unp2 a k σ=r) (hr:r≠none):∃x y,a=.tup [x,y]∧k (x,y) σ=r:=by
 cases a with
 | tup l=>rcases l with _ | ⟨x,_ | ⟨y,_ | ⟨_,_⟩⟩⟩<;>first | exact absurd h.symm hr | exact ⟨x,y,rfl,h⟩
 | _=>exact absurd h.symm hr
theorem unp5_ok {a:V} {k:K (V×V×V×V×V)} {σ:zG} {r:Res} (h:unp5 a k σ=r) (hr:r≠none):∃x y z u v,a=.tup [x,y,z,u,v]∧k (x,y,z,u,v) σ=r:=by
 cases a with
 | tup l=>rcases l with _ | ⟨x,_ | ⟨y,_ | ⟨z,_ | ⟨u,_ | ⟨v,_ | ⟨_,_⟩⟩⟩⟩⟩⟩<;>first | exact absurd h.symm hr | exact ⟨x,y,z,u,v,rfl,h⟩
 | _=>exact absurd h.symm hr
section
variable {N:Nat} {sc:Scope} {ρ:Loc} {w:World} {I:Ev} {σ:zG} {A:Around} {env:Env} {P:Sx w σ} {v:V} {y:Value}
theorem Fr.spareW {φ:Phi} {h:Heap} (F:Fr w sc env ρ φ h):YE (FW sc env) h:=fun b hb=>F.spare b hb.fx
theorem sndAsgN (F:Fr w sc env ρ P.φ P.s.heap) {n:Str} {p:Pos} (rv:P.R v y):Snd (FW sc env) A (wJ sc n v ρ) (assign (.Name n p) env y) P (RA w sc env [n] ρ):=.sm fun q hq=>.chk fun hb=>by
 rw [PySem.assign_Name]
 refine .stand (.map (f:=fun _=>ZJ n v ρ) (F.store ⟨q,hq,hb⟩ rv) fun _ P' _ _ F=>⟨F,fun z hz=>?_,fun m hm=>List.mem_singleton.mp hm▸⟨q,hq,hb⟩⟩)
 rw [Je,if_neg fun e=>hz (List.mem_singleton.mpr e)]
theorem sndNames {ns:List (Str×Pos)}:∀ {σ:zG} {P:Sx w σ} {ρ:Loc} {us:List V} {ys:List Value},Fr w sc env ρ P.φ P.s.heap→P.RL us ys→Snd (FW sc env) A (asgNs sc ns us ρ) (assignInOrder (ns.map fun n=>assign (.Name n.1 n.2) env) ys) P (RA w sc env (ns.map (·.1)) ρ):=by
 induction ns with
 | nil=>
  intro σ P ρ us ys F r
  have z:RA w sc env [] ρ σ P ρ ():=⟨F,fun _ _=>rfl,fun _ h=>nomatch h⟩
  cases ys<;>exact .pure z
 | cons n ns ih=>
  intro σ P ρ us ys F r
  refine .nC fun u us e=>?_
  subst e
  obtain ⟨y,ys,rfl,r1,r2⟩:=za.cons1 r
  refine (sndAsgN F r1).hold.bind (f:=fun _=>assignInOrder (ns.map fun n=>assign (.Name n.1 n.2) env) ys) fun _ P1 ρ1 _ l1 z1=>?_
  refine fun k r e hr Q q=>ih z1.F (za.ext P.S l1.x F.spareW _ _ r2) k r e hr Q fun σ' P' ρ2 b l2 z2 e'=>q σ' P' ρ2 b l2 ⟨z2.F,fun m hm=>?_,fun m hm=>?_⟩ e'
  ·rw [List.map_cons,List.mem_cons,not_or] at hm
   exact (z2.k m hm.2).trans (z1.k m fun h=>hm.1 (List.mem_singleton.mp h))
  ·rcases List.mem_cons.mp hm with rfl | hm
   ·exact z1.b _ (.head _)
   ·exact z2.b m hm
theorem sndTupA {ns:List (Str×Pos)} {us:List V} {kk:Nat} {p:Pos} (hh:A.handled=none) (F:Fr w sc env ρ P.φ P.s.heap) (hl:ns.length=us.length) (rv:P.R (.tup us) y):Snd (FW sc env) A (asgNs sc ns us ρ) (assign (.Tuple (ns.map fun n=>.Name n.1 n.2) kk p) env y) P (RA w sc env (ns.map (·.1)) ρ):=fun k r e hr Q q=>by
 obtain ⟨t,ys,rfl,ht,ry⟩:=rv
 have each:∀ns:List (Str×Pos),assignEach (ns.map fun n=>Expr.Name n.1 n.2) env=ns.map fun n=>(false,assign (.Name n.1 n.2) env):=fun ns=>by
  induction ns with
  | nil=>rfl
  | cons n ns ih=>rw [List.map_cons,List.map_cons,← ih]; rfl
 have hll:=za.length ry
 refine assign_Tuple_tuple hh ht (by rw [each]; simp [hll,hl]) (by rw [each,List.findIdx?_eq_none_iff]; simp) fun h' xb=>?_
 have k':∀b o,P.s.heap.get? b=some o→h'.get? b=some o:=fun b o e=>xb b o (Nat.ne_of_lt (Heap.lt_size e)) e
 have l:Le Nox P (⟨P.φ,{P.s with heap:=h'},P.S.ext_same k'⟩:Sx w σ):=⟨⟨List.prefix_rfl,fun b o e _ _=>k' b o e,fun b o e=>⟨o,k' b o e⟩,fun _ h=>.inl h⟩,rfl,rfl⟩
 rw [each,List.map_map]
 exact sndNames (F.ext0 P.S l.x) (za.ext P.S l.x zb _ _ ry) k r e hr Q fun σ' P' b a l' z e'=>q σ' P' b a (l.up.trans l') z e'
theorem assign_sub (o i:Expr) (p:Pos) (env:Env) (y:Value):∃l:Value→Value→List Value,assign (.Subscript o i p) env y=(holding [y] (eval o env) >>=fun ov=>holding [y,ov] (eval i env) >>=fun iv=>standAt p >>=fun _=>holding [y,ov,iv] (setItem ov iv y) >>=fun _=>release (l ov iv) []):=
 ⟨_,rfl⟩
variable (hE:yl N I.e) (hN:1≤N) (c:Ctx N sc ρ w σ) (rv:c.P.R v y)
theorem Ctx.asd {σ':zG} {P':Sx w σ'} (l:Le Nox c.P P'):RA w sc c.env [] ρ σ' P' ρ ():=⟨c.F.ext0 c.P.S l.x,fun _ _=>rfl,fun _ h=>nomatch h⟩
theorem Snd.as {m:M Unit} {t:Sem Unit} (h:Snd Nox c.A m t c.P RU):Snd (FW sc c.env) c.A (fun k=>m fun _=>k ρ) t c.P (RA w sc c.env [] ρ):=fun k r e hr Q q=>h (fun _=>k ρ) r e hr Q fun σ' P' b a l z e'=>q σ' P' ρ a l.up (c.asd l) e'
include hE rv
theorem asgAttr {o:Expr} {n:Str} {p:Pos}:Snd (FW sc c.env) c.A (fun kn=>I.e sc o ρ fun ov=>zK P0 ov n v (kn ρ)) (assign (.Attribute o n p) c.env y) c.P (RA w sc c.env [] ρ):=
 .as c (m:=fun k=>I.e sc o ρ fun ov=>zK P0 ov n v (k ())) ((hE c).hold.bind (g:=fun ov k=>zK P0 ov n v (k ())) (f:=fun ov=>standAt p.atName >>=fun _=>holding [y,ov] (setAttr ov n y) >>=fun _=>release [y,ov] []) fun _ P1 a x l1 r1=>.stand ((sndSetA r1 (l1.v rv)).hold.on fun _ P2 _ _ l2 _=>.relE trivial))
include hN
theorem asgSub {o i:Expr} {p:Pos}:Snd (FW sc c.env) c.A (fun kn=>I.e sc o ρ fun ov=>I.e sc i ρ fun iv=>zV ov iv v (kn ρ)) (assign (.Subscript o i p) c.env y) c.P (RA w sc c.env [] ρ):=by
 obtain ⟨l,e⟩:=assign_sub o i p c.env y
 rw [e]
 exact .as c (m:=fun k=>I.e sc o ρ fun ov=>I.e sc i ρ fun iv=>zV ov iv v (k ())) ((hE c).hold.bind (g:=fun ov k=>I.e sc i ρ fun iv=>zV ov iv v (k ())) (f:=fun ov=>holding [y,ov] (eval i c.env) >>=fun iv=>standAt p >>=fun _=>holding [y,ov,iv] (setItem ov iv y) >>=fun _=>release (l ov iv) []) fun _ P1 a x l1 r1=>
  (hE (c.nx P1 l1)).hold.bind (g:=fun iv k=>zV a iv v (k ())) (f:=fun iv=>standAt p >>=fun _=>holding [y,x,iv] (setItem x iv y) >>=fun _=>release (l x iv) []) fun _ P2 b z l2 r2=>.stand ((sndSet (c.ro.le hN) (l2.v r1) r2 (l2.v (l1.v rv))).hold.on fun _ P3 _ _ l3 _=>.relE trivial))
theorem asgSli {o lo:Expr} {p p':Pos}:Snd (FW sc c.env) c.A (fun kn=>I.e sc o ρ fun ov=>I.e sc lo ρ fun l=>ZC ov l v (kn ρ)) (assign (.Subscript o (.Slice (some lo) none none p') p) c.env y) c.P (RA w sc c.env [] ρ):=
 .as c (m:=fun k=>I.e sc o ρ fun ov=>slM I sc ρ (some lo) none fun b=>ZC ov b.1 v (k ())) ((hE c).hold.bind (g:=fun ov k=>slM I sc ρ (some lo) none fun b=>ZC ov b.1 v (k ())) (f:=fun ov=>holding [y,ov] (eval (.Slice (some lo) none none p') c.env) >>=fun iv=>standAt p >>=fun _=>holding [y,ov,iv] (setItem ov iv y) >>=fun _=>release [iv,y,ov] []) fun _ P1 a x l1 r1=>
  (sndSlO hE (c.nx P1 l1)).hold.bind (g:=fun (b:V×V) k=>ZC a b.1 v (k ())) (f:=fun iv=>standAt p >>=fun _=>holding [y,x,iv] (setItem x iv y) >>=fun _=>release [iv,y,x] []) fun _ P2 b z l2 r2=>.stand (by
   obtain ⟨sl,u,z,rfl,hsl,ru,rz⟩:=r2.1.o
   rw [r2.2 rfl] at rz
   rw [show z=.none from rz] at hsl
   exact (sndTail (l2.v r1) ru (l2.v (l1.v rv)) hsl).hold.on fun _ P3 _ _ l3 _=>.relE trivial))
theorem asgSubE {o i:Expr} {p:Pos}:Snd (FW sc c.env) c.A (asgS sc I o i v ρ) (assign (.Subscript o i p) c.env y) c.P (RA w sc c.env [] ρ):=by
 unfold asgS
 cases e:Jd i with
 | none=>exact asgSub hE hN c rv
 | some lo=>
  obtain ⟨p',rfl⟩:=Uf e
  exact asgSli hE hN c rv
omit hE hN in
theorem asgTup {ns:List (Str×Pos)} {a:Nat} {b:Pos}:Snd (FW sc c.env) c.A (asgT sc v ρ ns) (assign (.Tuple (ns.map fun n=>.Name n.1 n.2) a b) c.env y) c.P (RA w sc c.env (ns.map (·.1)) ρ):=.nC fun a1 r1 h1=>.nC fun a2 r2 h2=>by
 subst h1 h2
 cases r2 with
 | nil=>
  intro k r h hr Q q
  obtain ⟨x,y,rfl,h⟩:=unp2_ok h hr
  exact sndTupA (ns:=[a1,a2]) (us:=[x,y]) c.ro.handled c.F rfl rv k r h hr Q q
 | cons a3 r3=>
  refine .n2 fun a4 a5 h3 k r h hr Q q=>?_
  subst h3
  obtain ⟨x,y,z,u,t,rfl,h⟩:=unp5_ok h hr
  exact sndTupA (ns:=[a1,a2,a3,a4,a5]) (us:=[x,y,z,u,t]) c.ro.handled c.F rfl rv k r h hr Q q
theorem sndAsg {x:Expr}:Snd (FW sc c.env) c.A (asg P0 sc I x v ρ) (assign x c.env y) c.P (RA w sc c.env (zu x) ρ):=by
 unfold asg zu
 cases e:vw x with
 | name n p=>rw [JD e]; exact sndAsgN c.F rv
 | attr o n p=>rw [JD e]; exact asgAttr hE c rv
 | sub o i=>
  obtain ⟨p,rfl⟩:=JD e
  exact asgSubE hE hN c rv
 | tup es=>
  obtain ⟨a,b,rfl⟩:=JD e
  refine .sm fun ns hn=>?_
  obtain ⟨e1,e2⟩:=nmL_ok hn
  show Snd _ _ _ _ _ (RA w sc c.env (es.filterMap fun e=>(nmE e).map (·.1)) ρ)
  rw [e2,e1]
  exact asgTup c rv
 | _=>exact .fail
end
end Wk
end
section
namespace Wk
open Mine (st sm H1 YP pw)
noncomputable abbrev No {α:Type}:α→Shared→Prop:=fun _ _=>False
section
variable {w:World} {A:Around} {E:Value→Shared→Prop} {s:Shared}
theorem ite_no {α:Type} {M:Model} {c:Prop} [Decidable c] {a b:Sem α} {Q:α→Shared→Prop} (hc:¬c) (h:wpAny M A b Q E s):wpAny M A (if c then a else b) Q E s:=by rw [if_neg hc]; exact h
theorem no_own {T:String} (h:T∈iterCs):(["enumerate","zip","dict_itemiterator","dict_reverseitemiterator","odict_iterator","itertools.zip_longest","itertools.pairwise"].contains T)=false:=by
 have:iterCs.all (fun T=>!(["enumerate","zip","dict_itemiterator","dict_reverseitemiterator","odict_iterator","itertools.zip_longest","itertools.pairwise"].contains T))=true:=by decide
 exact Bool.not_eq_true' _▸List.all_eq_true.mp this T h
theorem letOwned {a:V} {x:Value} {l:List V×Nat} {I:Addr} {i:Nat} {tgt:Expr} {v:Value} {Q:Unit→Shared→Prop} (t:ItAt a x l I i s.heap) (q:Q () s):wpAny (model pw w) A (letOwnedTupleGo tgt (.ref I) v) Q E s:=by
 have key:∀es n p,wpAny (model pw w) A (letOwnedTupleGo (.Tuple es n p) (.ref I) v) Q E s:=fun _ _ _=>by
  cases v with
  | ref b=>
   obtain ⟨o,T,fs,ho,hc,hT,hd⟩:=(t.obj s.heap).o
   refine wpAny_bind (wpAny_load ho ?_)
   rw [hc,hd]
   refine ite_no ?_ (wpAny_pure q)
   rw [no_own hT,Bool.false_and]; exact Bool.false_ne_true
  | _=>exact wpAny_pure q
 cases tgt with
 | Tuple=>exact key _ _ _
 | List es p=>exact key es 0 p
 | _=>exact wpAny_pure q
theorem any_no {α:Type} {t:Sem α} {Q:α→Shared→Prop} (h:wpAny (model pw w) A t Q No s):wpAny (model pw w) A t Q E s:=wpAny_mono h (fun _ _ z=>z) fun _ _ z=>z.elim
theorem Xq {R:Result→Shared→Prop} {target it body env}
  (h:wpAny (model pw w) A (pyNext it) (fun r s₁=>match r with
   | none=>R (.ok .next) s₁
   | some v=>wpAny (model pw w) A (letOwnedTupleGo target it v) (fun _ s₂=>wpAny (model pw w) A (assign target env v) (fun _ s₃=>wpAny (model pw w) A (execs body env) (fun f s₄=>match f with
     | .next=>codeAny (model pw w) A (.forLoop target it body [] env) R s₄
     | .ret v=>R (.ok (.ret v)) s₄
     | _=>False) No s₃) No s₂) No s₁) No s):codeAny (model pw w) A (.forLoop target it body [] env) R s:=by
 refine codeAny_of_tree ?_
 show wpAny _ A ((forTurn target it body [] env).onRaise (fun x=>do noteFrame x env; theTreesLotGoes x)) _ _ s
 refine wpAny_noted (any_no ?_)
 simp only [forTurn]
 refine wpAny_bind (wpAny_standAt (wpAny_bind (wpAny_onRaise (wpAny_mono h (fun r s₁ h₁=>?_) fun _ _ z=>z.elim))))
 cases r with
 | none=>exact wpAny_pure ⟨rfl,codeAny_block (wpAny_execs_nil h₁)⟩
 | some v=>
  refine wpAny_bind (wpAny_mono h₁ (fun _ s₂ h₂=>?_) fun _ _ z=>z)
  refine wpAny_bind (wpAny_mono h₂ (fun _ s₃ h₃=>wpAny_bind (wpAny_mono h₃ (fun f s₄ h₄=>?_) fun _ _ z=>z)) fun _ _ z=>z)
  cases f with
  | next=>exact wpAny_pure ⟨rfl,h₄⟩
  | cont=>exact h₄.elim
  | brk=>exact h₄.elim
  | ret v=>exact wpAny_pure h₄
theorem UZ {R:Result→Shared→Prop} {test body env}
  (h:wpAny (model pw w) A (isTrue test env (eval test env)) (fun b s₁=>match b with
   | false=>R (.ok .next) s₁
   | true=>wpAny (model pw w) A (execs body env) (fun f s₄=>match f with
     | .next=>codeAny (model pw w) A (.whileLoop test body [] env) R s₄
     | .ret v=>R (.ok (.ret v)) s₄
     | _=>False) No s₁) No s):codeAny (model pw w) A (.whileLoop test body [] env) R s:=by
 refine codeAny_of_tree ?_
 show wpAny _ A ((whileTurn test body [] env).onRaise (fun x=>do noteFrame x env; theTreesLotGoes x)) _ _ s
 refine wpAny_noted (any_no ?_)
 simp only [whileTurn]
 refine wpAny_bind (wpAny_mono h (fun b s₁ h₁=>?_) fun _ _ z=>z)
 cases b with
 | false=>
  simp only [Bool.false_eq_true,if_false]
  exact wpAny_bind (wpAny_execs_nil (wpAny_pure h₁))
 | true=>
  simp only [if_true]
  refine wpAny_bind (wpAny_mono h₁ (fun f s₄ h₄=>?_) fun _ _ z=>z)
  cases f with
  | next=>exact wpAny_pure ⟨rfl,h₄⟩
  | cont=>exact h₄.elim
  | brk=>exact h₄.elim
  | ret v=>exact wpAny_pure h₄
theorem J7 {R:Result→Shared→Prop} {elt target iter ifs scope pos it acc env}
  (h:wpAny (model pw w) A (pyNext it) (fun r s₁=>match r with
   | none=>R (.ok .next) s₁
   | some v=>wpAny (model pw w) A (letOwnedTupleGo target it v) (fun _ s₂=>wpAny (model pw w) A (assign target env v) (fun _ s₃=>
     wpAny (model pw w) A (forIn ifs true fun c r=>if r=true then do let ok ← isTrue c env (eval c env); pure (ForInStep.yield ok) else pure (ForInStep.yield r)) (fun ok s₄=>
      if ok=true then wpAny (model pw w) A (eval elt env) (fun x s₅=>wpAny (model pw w) A (call (.builtin "list.append") [acc,x]) (fun _ s₆=>codeAny (model pw w) A (.compLoop (.ListComp elt [⟨target,iter,ifs,0⟩] scope pos) 0 it acc env) R s₆) No s₅) No s₄
      else codeAny (model pw w) A (.compLoop (.ListComp elt [⟨target,iter,ifs,0⟩] scope pos) 0 it acc env) R s₄) No s₃) No s₂) No s₁) No s):
  codeAny (model pw w) A (.compLoop (.ListComp elt [⟨target,iter,ifs,0⟩] scope pos) 0 it acc env) R s:=by
 refine codeAny_of_tree ?_
 show wpAny _ A ((compTurn (.ListComp elt [⟨target,iter,ifs,0⟩] scope pos) 0 it acc env).onRaise (fun x=>do noteFrame x env; theTreesLotGoes x)) _ _ s
 refine wpAny_noted (any_no ?_)
 rw [compTurn_list]
 refine wpAny_bind (wpAny_standAt (wpAny_bind (wpAny_mono h (fun r s₁ h₁=>?_) fun _ _ z=>z)))
 cases r with
 | none=>exact wpAny_pure h₁
 | some v=>
  refine wpAny_bind (wpAny_mono h₁ (fun _ s₂ h₂=>?_) fun _ _ z=>z)
  refine wpAny_bind (wpAny_mono h₂ (fun _ s₃ h₃=>wpAny_bind (wpAny_mono h₃ (fun ok s₄ h₄=>?_) fun _ _ z=>z)) fun _ _ z=>z)
  cases ok with
  | true=>
   simp only [if_true] at h₄ ⊢
   exact wpAny_bind (wpAny_bind (wpAny_mono h₄ (fun x s₅ h₅=>wpAny_bind (wpAny_mono h₅ (fun _ s₆ h₆=>wpAny_pure (wpAny_pure ⟨rfl,h₆⟩)) fun _ _ z=>z)) fun _ _ z=>z))
  | false=>
   simp only [Bool.false_eq_true,if_false] at h₄ ⊢
   first
    | exact wpAny_pure ⟨rfl,h₄⟩
    | exact wpAny_bind (wpAny_pure (wpAny_pure ⟨rfl,h₄⟩))
end
noncomputable def RE (w:World) (sc:Scope) (env:Env) (B:List Str) (ρ:Loc):Rl w (Loc ⊕ V) Flow:=fun _ P e f=>match e with
 | .inl ρ'=>f=.next∧Fr w sc env ρ' P.φ P.s.heap∧YS B ρ ρ'
 | .inr v=>∃y,f=.ret y∧P.R v y
noncomputable def stM (f:Stmt→Loc→(Loc→C)→(V→C)→C) (x:Stmt) (ρ:Loc):M (Loc ⊕ V):=fun k=>f x ρ (fun ρ'=>k (.inl ρ')) fun v=>k (.inr v)
noncomputable def blM (f:Stmt→Loc→(Loc→C)→(V→C)→C) (l:List Stmt) (ρ:Loc):M (Loc ⊕ V):=fun k=>evB f l ρ (fun ρ'=>k (.inl ρ')) fun v=>k (.inr v)
noncomputable def Ja (N:Nat) (sc:Scope) (f:Stmt→Loc→(Loc→C)→(V→C)→C):Prop:=∀ {x ρ w σ} (c:Ctx N sc ρ w σ),Snd (FW sc c.env) c.A (stM f x ρ) (exec x c.env) c.P (RE w sc c.env (bindsS x) ρ)
noncomputable def Ctx.fw {N:Nat} {sc:Scope} {ρ ρ':Loc} {w:World} {σ σ':zG} (c:Ctx N sc ρ w σ) (P':Sx w σ') (F:Fr w sc c.env ρ' P'.φ P'.s.heap):Ctx N sc ρ' w σ':=⟨c.A,c.env,P',c.ro,F⟩
noncomputable def oth (f:Loc→(Loc ⊕ V→C)→C) (k:Loc ⊕ V→C):Loc ⊕ V→C:=Sum.elim (fun ρ=>f ρ k) fun v=>k (.inr v)
section
variable {N:Nat} {sc:Scope} {w:World} {f:Stmt→Loc→(Loc→C)→(V→C)→C}
theorem YS.mono {B B':List Str} {ρ ρ':Loc} (h:YS B ρ ρ') (i:∀y∈B,y∈B'):YS B' ρ ρ':=fun y hy=>h y fun q=>hy (i y q)
theorem YS.trans {B:List Str} {ρ ρ' ρ'':Loc} (h:YS B ρ ρ') (h':YS B ρ' ρ''):YS B ρ ρ'':=fun y hy=>(h' y hy).trans (h y hy)
theorem Ud (hS:Ja N sc f) {l:List Stmt}:∀ {ρ:Loc} {σ:zG} (c:Ctx N sc ρ w σ),Snd (FW sc c.env) c.A (blM f l ρ) (execs l c.env) c.P (RE w sc c.env (yH l) ρ):=by
 induction l with
 | nil=>exact fun {ρ σ} c k r e hr Q q=>wpAny_execs_nil (q σ c.P (.inl ρ) _ .rfl ⟨rfl,c.F,fun _ _=>rfl⟩ e)
 | cons x l ih=>
  intro ρ σ c k r e hr Q q
  refine wpAny_execs_cons (hS c (oth (fun ρ=>blM f l ρ) k) r e hr _ fun σ1 P1 b fl l1 z e1=>?_)
  cases b with
  | inl ρ1=>
   obtain ⟨rfl,F1,k1⟩:=z
   refine ih (c.fw P1 F1) k r e1 hr Q fun σ2 P2 b fl l2 z e2=>q σ2 P2 b fl (l1.trans l2) ?_ e2
   cases b with
   | inl ρ2=>exact ⟨z.1,z.2.1,(k1.mono fun _ h=>List.mem_append_left _ h).trans (z.2.2.mono fun _ h=>List.mem_append_right _ h)⟩
   | inr v=>exact z
  | inr v=>
   obtain ⟨y,rfl,ry⟩:=z
   exact q σ1 P1 (.inr v) _ l1 ⟨y,rfl,ry⟩ e1
end
theorem U4 {v:V} {items:List V} {i:Nat} {l:List V} (h:l.drop i=v::items):l[i]? =some v∧l.drop (i+1)=items:=by
 have e:l[i]? =some v:=by rw [← List.head?_drop,h]; rfl
 refine ⟨e,?_⟩
 rw [← List.tail_drop,h]; rfl
section
variable {α:Type} {N:Nat} {sc:Scope} {w:World} {I:Ev} {tgt:Expr} {bdy:List Stmt} {loc:α→Loc} {after:Loc→(α→C)→C} {B:List Str} {src:V} {x:Value} {l:List V×Nat} {kn:α→C} {kr:V→C} {r:Res} {R:Result→Shared→Prop} {A:Around} {env:Env} {σ0:zG} {S0:Sx w σ0} {J:Addr}
 (hE:yl N I.e) (hS:Ja N sc I.s) (hN:1≤N) (ro:jO A N) (hB:∀y,y∈zu tgt∨y∈yH bdy→y∈B) (ha:∀a ρ2 k σ r,YS B (loc a) ρ2→after ρ2 k σ=r→r≠none→∃a',k a' σ=r∧∀x v,zO x (loc a')=some v→zO x ρ2=some v)
 (dead:S0.s.heap.get? J=none) (nJ:¬FX env J) (hr:r≠none) (q1:∀a' (σ':zG) (P':Sx w σ'),Le (FW sc env) S0 P'→Fr w sc env (loc a') P'.φ P'.s.heap→kn a' σ'=r→R (.ok .next) P'.s) (q2:∀v y (σ':zG) (P':Sx w σ'),Le (FW sc env) S0 P'→P'.R v y→kr v σ'=r→R (.ok (.ret y)) P'.s)
include hE hS hN ro hB ha dead nJ hr q1 q2 in
theorem for_go:∀ (items:List V) (i:Nat) (a:α) (σ:zG) (P:Sx w σ),Le (FW sc env) S0 P→Fr w sc env (loc a) P.φ P.s.heap→It src x l J i P→zz src σ=some l→l.1.drop i=items→i≤l.1.length→
  yO src l (fun v a k=>asg P0 sc I tgt v (loc a) fun ρ1=>evB I.s bdy ρ1 (fun ρ2=>after ρ2 k) kr) kn items a σ=r→codeAny (model pw w) A (.forLoop tgt (.ref J) bdy [] env) R P.s:=by
 intro items
 induction items with
 | nil=>
  intro i a σ P lp F t hi hd hle h
  obtain rfl:i=l.1.length:=Nat.le_antisymm hle (List.drop_eq_nil_iff.mp hd)
  exact Xq (it_done ro.handled hi t fun P' b=>q1 a σ P' (b.le lp dead) (b.fr F nJ) h)
 | cons v items ih=>
  intro i a σ P lp F t hi hd hle h
  obtain ⟨hv,hd⟩:=U4 hd
  refine Xq (it_next hi t hv fun P1 y b t1 ry=>letOwned t1.t ?_)
  have F1:=b.fr F nJ
  have l1:=b.le lp dead
  refine sndAsg hE hN (⟨A,env,P1,ro,F1⟩:Ctx N sc (loc a) w σ) ry (x:=tgt) _ r h hr _ fun σ2 P2 ρ1 _ l2 z2 h2=>?_
  have t2:=t1.le l2 F1.spareW fun z=>nJ z.fx
  refine Ud hS (⟨A,env,P2,ro,z2.F⟩:Ctx N sc ρ1 w σ2) (Sum.elim (fun ρ2=>after ρ2 fun a' σ=>match same src l σ with
   | true=>yO src l (fun v a k=>asg P0 sc I tgt v (loc a) fun ρ1=>evB I.s bdy ρ1 (fun ρ2=>after ρ2 k) kr) kn items a' σ
   | false=>none) kr) r h2 hr _ fun σ3 P3 e f l3 z3 h3=>?_
  have t3:=t2.le l3 z2.F.spareW fun z=>nJ z.fx
  have lq:=(l1.trans l2).trans l3
  cases e with
  | inr v=>
   obtain ⟨y,rfl,ry⟩:=z3
   exact q2 v y σ3 P3 lq ry h3
  | inl ρ2=>
   obtain ⟨rfl,F3,k3⟩:=z3
   obtain ⟨a',h4,hw⟩:=ha a ρ2 _ σ3 r ((z2.k.mono fun y hy=>hB y (.inl hy)).trans (k3.mono fun y hy=>hB y (.inr hy))) h3 hr
   cases q:same src l σ3 with
   | false=>rw [q] at h4; exact absurd h4.symm hr
   | true=>
    rw [q] at h4
    exact ih (i+1) a' σ3 P3 lq (F3.weaken hw) t3 (Uh hi q) hd (List.getElem?_eq_some_iff.mp hv).1 h4
end
end Wk
end
section
namespace Wk
open Mine (st sm H1 YP pw)
section
variable {w:World} {X:Addr→Prop} {σ σ' σ'':zG} {P:Sx w σ} {P':Sx w σ'} {P'':Sx w σ''}
theorem Le.drop (l:Le Nox P P') (k:Le X P' P'') (f:∀b,X b→P.s.heap.get? b=none):Le Nox P P'':=by
 refine ⟨⟨l.x.pre.trans k.x.pre,fun b o e n _=>k.x.keep b o (l.x.keep b o e n fun q=>q) (fun q=>(l.x.new b q).elim n fun z=>nN (z.symm.trans e)) fun q=>nN ((f b q).symm.trans e),fun b o e=>(let ⟨o',e'⟩:=l.x.live b o e; k.x.live b o' e'),fun b q=>(k.x.new b q).elim (l.x.new b) fun z=>?_⟩,l.m.trans k.m⟩
 cases e:P.s.heap.get? b with
 | none=>exact .inr (_root_.rfl)
 | some o=>obtain ⟨o',e'⟩:=l.x.live b o e; exact nN (z.symm.trans e')
theorem Bt.l {I:Addr} {P P':Sx w σ} (b:Bt I P P') {v:List V} {x:List Value} (r:P.RL v x):P'.RL v x:=by
 unfold Sx.RL
 rw [b.e]
 exact (zo.gen List.prefix_rfl (bt_fix b.sp b.k)).2.1 v x r
theorem It.bt {J:Addr} {P P':Sx w σ} {a:V} {x:Value} {l:List V×Nat} {I:Addr} {i:Nat} (t:It a x l I i P) (b:Bt J P P') (n:I≠J):It a x l I i P':=⟨b.v t.r,(t.t.obj _).keep fun o e=>b.k I o n e,by rw [b.e]; exact t.f⟩
structure LA (D:Addr) (l:List V) (P:Sx w σ):Prop where
 o:∃ys:List Value,P.s.heap.PlainList D ys.toArray∧P.RL l ys
 f:Wg w P.φ D
variable {D:Addr} {l:List V}
theorem LA.le (t:LA D l P) (k:Le X P P') (sp:YE X P.s.heap) (n:¬X D):LA D l P':=let ⟨ys,⟨m,e⟩,r⟩:=t.o; ⟨⟨ys,⟨m,k.x.keep D _ e t.f.1 n⟩,za.ext P.S k.x sp _ _ r⟩,k.x.free t.f e⟩
theorem LA.bt {J:Addr} {P P':Sx w σ} (t:LA D l P) (b:Bt J P P') (n:D≠J):LA D l P':=let ⟨ys,⟨m,e⟩,r⟩:=t.o; ⟨⟨ys,⟨m,b.k D _ n e⟩,b.l r⟩,by rw [b.e]; exact t.f⟩
theorem U0 {h:Heap} {xs:Array Value} (e:h.PlainList D xs):YE (fun b=>b=D) h:=by
 rintro b rfl o ho
 obtain ⟨n,e⟩:=e
 obtain rfl:=Option.some.inj (ho.symm.trans e)
 exact ⟨fun q=>UV.1 q.1,fun q=>UV.2 q.1⟩
end
section
variable {N:Nat} {w:World} {sc:Scope} {I:Ev} {A:Around} {env:Env} {elt tgt iter:Expr} {ifs:List Expr} {pos:Pos} {src:V} {x:Value} {l:List V×Nat} {σ0:zG} {S0:Sx w σ0} {J D:Addr} {ρ0 ρ1:Loc} {r:Res} {R:Result→Shared→Prop} {kn:List V→C}
structure CI (S0:Sx w σ0) (sc:Scope) (env:Env) (J D:Addr) (src:V) (x:Value) (l:List V×Nat) (ρ:Loc) (i:Nat) (acc:List V) {σ:zG} (P:Sx w σ):Prop where
 le:Le Nox S0 P
 F:Fr w sc env ρ P.φ P.s.heap
 t:It src x l J i P
 d:LA D acc P
structure CS (S0:Sx w σ0) (sc:Scope) (env:Env) (J D:Addr):Prop where
 j:S0.s.heap.get? J=none
 d:S0.s.heap.get? D=none
 nj:¬FX env J
 nd:¬FX env D
 ne:J≠D
 fw:∀b,FW sc env b→S0.s.heap.get? b=none
variable {σ σ':zG} {P:Sx w σ} {P':Sx w σ'} {i:Nat} {acc:List V}
theorem CI.nox (k:CI S0 sc env J D src x l ρ1 i acc P) (m:Le Nox P P'):CI S0 sc env J D src x l ρ1 i acc P':=⟨k.le.trans m,k.F.ext0 P.S m.x,k.t.le m zb fun q=>q,k.d.le m zb fun q=>q⟩
theorem CI.push (s:CS S0 sc env J D) (k:CI S0 sc env J D src x l ρ1 i acc P) (hl:acc.length < 1000000) {u:V} {z:Value} (rz:P.R u z) {Q:Shared→Prop} (q:∀P':Sx w σ,CI S0 sc env J D src x l ρ1 i (acc++[u]) P'→Q P'.s):wpAny (model pw w) A (call (.builtin "list.append") [.ref D,z]) (fun _ s=>Q s) No P.s:=by
 obtain ⟨ys,hys,rys⟩:=k.d.o
 refine wpAny_list_append_plain hys (fun h5 hl5 sb=>?_) (Nat.le_trans (Nat.le_of_lt (show ys.toArray.size < 1000000 by rw [List.size_toArray,za.length rys]; exact hl)) (by decide))
 have b:Bt D P (P.bt {P.s with heap:=h5} (U0 hys) (fun b o n e=>(sb.2 b n).trans e) k.d.f):=⟨rfl,fun b o n e=>(sb.2 b n).trans e,U0 hys,rfl,rfl⟩
 obtain ⟨n5,e5⟩:=hl5
 exact q _ ⟨b.le k.le s.d,b.fr k.F s.nd,k.t.bt b s.ne,⟨ys++[z],⟨n5,by rw [← List.push_toArray]; exact e5⟩,za.append (b.l rys) ⟨z,[],rfl,b.v rz,rfl⟩⟩,k.d.f⟩
theorem el_run (hE:yl N I.e) (hT:jj N I.t) (ro:jO A N) (s:CS S0 sc env J D) (k:CI S0 sc env J D src x l ρ1 i acc P) (hl:acc.length < 1000000) {add:Option V→C} (h:Qt sc I elt ρ1 add ifs σ=r) (hr:r≠none) {Q:Shared→Prop}
  (q:∀o (σ':zG) (P':Sx w σ'),CI S0 sc env J D src x l ρ1 i (JZ acc o) P'→add o σ'=r→Q P'.s):wpAny (model pw w) A (forIn ifs true fun c r=>if r=true then do let ok ← isTrue c env (eval c env); pure (ForInStep.yield ok) else pure (ForInStep.yield r))
   (fun ok s=>if ok=true then wpAny (model pw w) A (eval elt env) (fun x s=>wpAny (model pw w) A (call (.builtin "list.append") [.ref D,x]) (fun _ s=>Q s) No s) No s else Q s) No P.s:=by
 have ap:∀ {σ:zG} {P:Sx w σ},CI S0 sc env J D src x l ρ1 i acc P→(I.e sc elt ρ1 fun x=>add (some x)) σ=r→wpAny (model pw w) A (eval elt env) (fun x s=>wpAny (model pw w) A (call (.builtin "list.append") [.ref D,x]) (fun _ s=>Q s) No s) No P.s:=fun {σ P} k h=>
  hE (⟨A,env,P,ro,k.F⟩:Ctx N sc ρ1 w σ) _ r h hr _ fun σ' P' u z l' rz h'=>(k.nox l').push s hl rz fun P'' k'=>q (some u) σ' P'' k' h'
 cases ifs with
 | nil=>
  refine wpAny_tests_nil ?_
  rw [if_pos rfl]
  exact ap k h
 | cons t ts=>
  cases ts with
  | cons=>exact absurd h.symm hr
  | nil=>
   refine wpAny_tests_one (hT (⟨A,env,P,ro,k.F⟩:Ctx N sc ρ1 w σ) _ r h hr _ fun σ' P' b b' l' z h'=>?_)
   obtain rfl:b'=b:=z
   cases b' with
   | true=>
    rw [if_pos rfl]
    exact ap (k.nox l') h'
   | false=>
    rw [if_neg Bool.false_ne_true]
    exact q none σ' P' (k.nox l') h'
theorem comp_go (hE:yl N I.e) (hT:jj N I.t) (hN:1≤N) (ro:jO A N) (s:CS S0 sc env J D) (h0:∀n,Bd sc n→zO n ρ0=none) (hlen:l.1.length < 1000000) (hr:r≠none) (q:∀acc' (σ':zG) (P':Sx w σ'),Le Nox S0 P'→Fr w sc env ρ0 P'.φ P'.s.heap→LA D acc' P'→kn acc' σ'=r→R (.ok .next) P'.s):
  ∀ (items:List V) (i:Nat) (acc:List V) (σ:zG) (P:Sx w σ),CI S0 sc env J D src x l ρ0 i acc P→zz src σ=some l→l.1.drop i=items→i≤l.1.length→acc.length≤i→
   yO src l (fun v acc k=>asg P0 sc I tgt v ρ0 fun ρ1=>Qt sc I elt ρ1 (fun x=>k (JZ acc x)) ifs) kn items acc σ=r→codeAny (model pw w) A (.compLoop (.ListComp elt [⟨tgt,iter,ifs,0⟩] sc pos) 0 (.ref J) (.ref D) env) R P.s:=by
 intro items
 induction items with
 | nil=>
  intro i acc σ P k hi hd hle hal h
  obtain rfl:i=l.1.length:=Nat.le_antisymm hle (List.drop_eq_nil_iff.mp hd)
  exact J7 (it_done ro.handled hi k.t fun P' b=>q acc σ P' (b.le k.le s.j) (b.fr k.F s.nj) (k.d.bt b (Ne.symm s.ne)) h)
 | cons v items ih=>
  intro i acc σ P k hi hd hle hal h
  obtain ⟨hv,hd⟩:=U4 hd
  have hlt:=(List.getElem?_eq_some_iff.mp hv).1
  refine J7 (it_next hi k.t hv fun P1 y b t1 ry=>letOwned t1.t ?_)
  have F1:=b.fr k.F s.nj
  refine sndAsg hE hN (⟨A,env,P1,ro,F1⟩:Ctx N sc ρ0 w σ) ry (x:=tgt) _ r h hr _ fun σ2 P2 ρ1 _ l2 z2 h2=>?_
  have sp:=F1.spareW
  have k2:CI S0 sc env J D src x l ρ1 (i+1) acc P2:=⟨(b.le k.le s.j).drop l2 s.fw,z2.F,t1.le l2 sp fun z=>s.nj z.fx,(k.d.bt b (Ne.symm s.ne)).le l2 sp fun z=>s.nd z.fx⟩
  refine el_run hE hT ro s k2 (Nat.lt_of_le_of_lt hal (Nat.lt_trans hlt hlen)) h2 hr fun o σ3 P3 k3 h3=>?_
  dsimp only at h3
  cases e:same src l σ3 with
  | false=>rw [e] at h3; exact absurd h3.symm hr
  | true=>
   rw [e] at h3
   refine ih (i+1) (JZ acc o) σ3 P3 ⟨k3.le,k3.F.weaken fun n u e=>?_,k3.t,k3.d⟩ (Uh hi e) hd hlt ?_ h3
   ·exact (z2.k n fun m=>nN ((h0 n (z2.b n m)).symm.trans e)).trans e
   ·cases o with
    | none=>exact Nat.le_succ_of_le hal
    | some u=>rw [show JZ acc (some u)=acc++[u] from rfl,List.length_append]; exact Nat.succ_le_succ hal
end
end Wk
end
section
namespace Wk
open Mine (st sm H1 YP pw)
noncomputable def YO (env:Env):List (Str×NameKind)→List (Str×Addr)→List (Str×Addr)
 | [],acc=>acc
 | (n,k)::r,acc=>if (k==.free)=true then YO env r ((n,(env.cells.lookup n).getD 0)::acc) else YO env r acc
theorem XR {env:Env} {f:Str×NameKind→List (Str×Addr)→Sem (ForInStep (List (Str×Addr)))} (hf:∀n k cs,f (n,k) cs=if (k==.free)=true then (do let c ← cellOf env n; pure (.yield ((n,c)::cs))) else pure (.yield cs)):
  ∀ (names:List (Str×NameKind)) (acc:List (Str×Addr)),(∀n,(n,NameKind.free)∈names→∃c,env.cells.lookup n=some c)→forIn names acc f=pure (YO env names acc)
 | [],acc,_=>by rw [List.forIn_nil]; rfl
 | (n,k)::r,acc,h=>by
  rw [List.forIn_cons,hf,YO]
  by_cases q:(k==.free)=true
  ·rw [if_pos q,if_pos q]
   have hk:k=.free:=by simpa using q
   obtain ⟨c,hc⟩:=h n (hk▸.head _)
   have e:cellOf env n=pure c:=by unfold cellOf; rw [hc]
   rw [e,hc]
   simp only [pure_bind,Option.getD_some]
   exact XR hf r _ fun m hm=>h m (.tail _ hm)
  ·rw [if_neg q,if_neg q]
   simp only [pure_bind]
   exact XR hf r _ fun m hm=>h m (.tail _ hm)
theorem closFor {env:Env} {sc:Scope} (h:∀n,(n,NameKind.free)∈sc.names→∃c,env.cells.lookup n=some c):closureFor sc env=pure (YO env sc.names []):=by
 unfold closureFor
 dsimp only
 rw [XR (env:=env) (fun n k cs=>by cases q:k==NameKind.free<;>simp) sc.names [] h]
 rfl
theorem clos_get {env:Env} {names:List (Str×NameKind)}:∀ {acc:List (Str×Addr)},(∀n,(n,NameKind.free)∈names→∃c,env.cells.lookup n=some c)→(∀x c,acc.lookup x=some c→env.cells.lookup x=some c)→
  (∀x c,(YO env names acc).lookup x=some c→env.cells.lookup x=some c)∧∀x,((x,NameKind.free)∈names∨∃c,acc.lookup x=some c)→∃c,(YO env names acc).lookup x=some c:=by
 induction names with
 | nil=>exact fun _ ha=>⟨ha,fun x h=>h.resolve_left fun h=>nomatch h⟩
 | cons e r ih=>
  intro acc hn ha
  obtain ⟨n,k⟩:=e
  have hn':∀m,(m,NameKind.free)∈r→∃c,env.cells.lookup m=some c:=fun m hm=>hn m (.tail _ hm)
  rw [YO]
  by_cases q:(k==.free)=true
  ·rw [if_pos q]
   obtain rfl:k=.free:=eq_of_beq q
   obtain ⟨c,hc⟩:=hn n (.head _)
   rw [hc]
   have look:∀x,List.lookup x ((n,c)::acc)=if x=n then some c else acc.lookup x:=fun x=>by
    rw [List.lookup_cons]
    by_cases e:x=n
    ·rw [if_pos e,beq_iff_eq.mpr e]
    ·rw [if_neg e,beq_false_of_ne e]
   obtain ⟨h1,h2⟩:=ih (acc:=(n,c)::acc) hn' fun x d h=>by
    rw [look] at h
    by_cases e:x=n
    ·rw [if_pos e] at h; exact e▸hc.trans h
    ·rw [if_neg e] at h; exact ha x d h
   refine ⟨h1,fun x h=>h2 x ?_⟩
   rw [look]
   by_cases e:x=n
   ·exact .inr ⟨c,if_pos e⟩
   ·rw [if_neg e]
    exact h.imp (fun h=>(List.mem_cons.mp h).resolve_left fun h=>e (congrArg Prod.fst h)) id
  ·rw [if_neg q]
   obtain ⟨h1,h2⟩:=ih hn' ha
   exact ⟨h1,fun x h=>h2 x (h.imp (fun h=>(List.mem_cons.mp h).resolve_left fun h=>q (by cases h; rfl)) id)⟩
theorem of_isLocal {q:Option NameKind} (h:Z5 q=true):q=some .local:=by
 rcases q with _ | q
 ·exact no h
 ·cases q<;>first | rfl | exact no h
theorem of_isFree {q:Option NameKind} (h:isFree q=true):q=some .free:=by
 rcases q with _ | q
 ·exact no h
 ·cases q<;>first | rfl | exact no h
theorem of_isCel {q:Option NameKind} (h:isCellish q=true):q=some .cell∨q=some .free:=by
 rcases q with _ | q
 ·exact no h
 ·cases q<;>first | exact .inl rfl | exact .inr rfl | exact no h
noncomputable def relK (env:Env) (e:Str×NameKind):Str×NameKind:=if (e.2==NameKind.free&&env.scope.kind==.function&&env.kindOf e.1==some .cell)=true then (e.1,NameKind.cell) else e
theorem lookup_relK {env:Env} {x:Str} {k:NameKind} {names:List (Str×NameKind)} (h:names.lookup x=some k):(names.map (relK env)).lookup x=some k∨k=.free∧(names.map (relK env)).lookup x=some .cell:=by
 induction names with
 | nil=>cases h
 | cons e r ih=>
  rw [List.lookup_cons] at h
  rw [List.map_cons]
  unfold relK
  by_cases c:(e.2==NameKind.free&&env.scope.kind==.function&&env.kindOf e.1==some .cell)=true
  ·rw [if_pos c,List.lookup_cons]
   cases q:x==e.1 with
   | true=>
    rw [q] at h
    obtain rfl:=Option.some.inj h
    exact .inr ⟨eq_of_beq (zW (zW c).1).1,rfl⟩
   | false=>rw [q] at h; exact ih h
  ·rw [if_neg c,List.lookup_cons]
   cases q:x==e.1 with
   | true=>rw [q] at h; exact .inl h
   | false=>rw [q] at h; exact ih h
inductive CK (sc sc':Scope) (n:Str) (k:NameKind):Prop
 | loc (e:k=.local) (h:zO n sc'.names=some .local)
 | free (e:k=.free) (h:zO n sc'.names=some .free) (c:isCellish (zO n sc.names)=true)
 | gl (e:k=.globalImplicit)
theorem XQ {sc sc':Scope} {iter:Expr} {as:Int} (h:compOk sc sc' iter as=true):(YW iter=true∧as=0∧sc'.kind=.function)∧∀n k,(n,k)∈sc'.names→CK sc sc' n k:=by
 obtain ⟨⟨⟨h1,h2⟩,h3⟩,h4⟩:=(zW h).imp (fun h=>(zW h).imp zW id) id
 refine ⟨⟨h1,of_decide_eq_true h2,?_⟩,fun n k m=>?_⟩
 ·generalize sc'.kind=q at h3
  cases q<;>first | rfl | exact no h3
 ·have:=List.all_eq_true.mp h4 _ m
  cases k with
  | «local»=>exact .loc rfl (of_isLocal this)
  | globalImplicit=>exact .gl rfl
  | free=>exact .free rfl (of_isFree (zW this).1) (zW this).2
  | _=>exact no this
theorem ZQ {iter:Expr} {env:Env} {x:Value} (h:YW iter=true):foldedSetIterable iter env x=pure x:=by
 unfold foldedSetIterable
 cases iter<;>first | rfl | exact no h
noncomputable def cEnv (sc':Scope) (env:Env) (L:Addr):Env:={newEnv sc' L env.globals (YO env sc'.names []) env.qual none .none (some env) builtinsNs with scope:=relabel sc' env}
section
variable {w:World} {sc sc':Scope} {env:Env} {ρ:Loc} {φ:Phi} {h:Heap} {L:Addr} (F:Fr w sc env ρ φ h) (K:∀n k,(n,k)∈sc'.names→CK sc sc' n k)
include F
theorem cel_of {x:Str} (e:isCellish (zO x sc.names)=true):isCel env x∧∃c,env.cells.lookup x=some c:=(of_isCel e).elim (fun q=>(F.k.ce x q).imp .inl id) fun q=>F.k.fr x q
include K
theorem free_of {n:Str} (m:(n,NameKind.free)∈sc'.names):isCel env n∧∃c,env.cells.lookup n=some c:=by
 rcases K n _ m with e | ⟨-,-,e⟩ | e
 ·cases e
 ·exact cel_of F e
 ·cases e
theorem no_cel {x:Str} (e:zO x sc'.names=some .cell):False:=by
 rcases K x _ (ZW e) with e | e | e<;>cases e
theorem ce_clos:(∀x c,(cEnv sc' env L).cells.lookup x=some c→env.cells.lookup x=some c)∧∀x,zO x sc'.names=some .free→∃c,(cEnv sc' env L).cells.lookup x=some c:=by
 have g:=clos_get (env:=env) (names:=sc'.names) (acc:=[]) (fun n m=>(free_of F K m).2) fun _ _ h=>nN h
 exact ⟨g.1,fun x e=>g.2 x (.inl (ZW e))⟩
omit F K in
theorem ce_kind {x:Str} {k:NameKind} (e:zO x sc'.names=some k):(cEnv sc' env L).kindOf x=some k∨k=.free∧(cEnv sc' env L).kindOf x=some .cell:=lookup_relK (env:=env) ((YX _ _).symm.trans e)
theorem comp_frame (hk:sc'.kind=.function) (hns:∃m,h.Ns L m) (fL:Wg w φ L):Fr w sc' (cEnv sc' env L) (Uv sc' ρ) φ h:=by
 obtain ⟨cl,cf⟩:=ce_clos (L:=L) F K
 have kf:∀x,zO x sc'.names=some .free→isCel (cEnv sc' env L) x:=fun x e=>(ce_kind e).elim .inr fun h=>.inl h.2
 refine ⟨⟨hk,F.k.globals,F.k.builtins,fun x e=>(ce_kind e).resolve_right fun h=>(nomatch h.1),fun x e=>(ce_kind e).resolve_right fun h=>(nomatch h.1),fun x e=>(no_cel F K e).elim,fun x e=>⟨kf x e,cf x e⟩,fun x y c e e'=>F.k.apart x y c (cl x c e) (cl y c e')⟩,hns,fun x c e=>F.cells x c (cl x c e),fun b hb=>hb.elim (fun e=>e▸fL) fun ⟨n,hn⟩=>F.out b (.inr ⟨n,cl n b hn⟩),fun x v i e=>?_⟩
 unfold Uv at e
 rw [Yo (p:=fun n=>!Z5 (zO n sc'.names))] at e
 by_cases hl:Z5 (zO x sc'.names)=true
 ·rw [hl] at e; exact nN e
 rw [Bool.not_eq_true] at hl
 rw [hl] at e
 unfold inFr at i
 rw [hl] at i
 have hfr:zO x sc'.names=some .free:=(of_isCel i).resolve_left fun q=>no_cel F K q
 rcases K x _ (ZW hfr) with q | ⟨-,-,q⟩ | q
 ·cases q
 ·obtain ⟨y,H,ry⟩:=F.vars x v (by unfold inFr; rw [q]; exact Bool.or_true _) e
  obtain ⟨c',hc'⟩:=cf x hfr
  refine ⟨y,?_,ry⟩
  cases H with
  | loc m k=>rcases (cel_of F q).1 with z | z<;>exact nomatch k.symm.trans z
  | cell c k l z=>
   obtain rfl:c=c':=Option.some.inj (l.symm.trans (cl x c' hc'))
   exact .cell c (kf x hfr) hc' z
 ·cases q
end
end Wk
end
section
namespace Wk
open Mine (st sm H1 YP pw)
section
variable {w:World} {σ σ':zG} {P:Sx w σ} {P':Sx w σ'} {D:Addr} {acc:List V}
noncomputable def LA.ad (d:LA D acc P):Sx w (σ++[.list acc]):=⟨P.φ++[(D,D)],P.s,P.S.add (fun _ _ e=>e) d.f d.f (let ⟨ys,hy,r⟩:=d.o; ⟨rfl,ys,hy,(zo.gen ⟨[(D,D)],rfl⟩ fun _ _ _ e=>e).2.1 _ _ r⟩)⟩
theorem LA.ref (d:LA D acc P):d.ad.R (.ref σ.length) (.ref D):=⟨(D,D),by rw [← P.S.len]; exact List.getElem?_concat_length,rfl⟩
theorem LA.ad_le {S0:Sx w σ'} (d:LA D acc P) (l:Le Nox S0 P) (dead:S0.s.heap.get? D=none):Le Nox S0 d.ad:=⟨⟨l.x.pre.trans ⟨[(D,D)],rfl⟩,l.x.keep,l.x.live,fun b z=>by
 rcases XJ.mp z with z | z | z
 ·exact l.x.new b z
 ·exact .inr (z▸dead)
 ·exact .inr (z▸dead)⟩,l.m⟩
theorem Sx.fresh {b:Nat} (P:Sx w σ) (h:P.s.heap.objs.size≤b):P.s.heap.get? b=none:=Heap.get?_none_of_le h
noncomputable def Sx.mr (P:Sx w σ) (s':Shared) (k:∀b o,P.s.heap.get? b=some o→s'.heap.get? b=some o):Sx w σ:=⟨P.φ,s',P.S.ext_same k⟩
theorem Sx.mrL {s':Shared} (k:∀b o,P.s.heap.get? b=some o→s'.heap.get? b=some o) (g:s'.gens=P.s.gens) (os:s'.os=P.s.os):Le Nox P (P.mr s' k):=⟨⟨List.prefix_rfl,fun b o e _ _=>k b o e,fun b o e=>⟨o,k b o e⟩,fun _ h=>.inl h⟩,g,os⟩
section
variable {A:Around} {E:Value→Shared→Prop}
theorem iter_st {a:V} {x:Value} {l:List V×Nat} {Q:Value→Shared→Prop} (hi:zz a σ=some l) (r:P.R a x) (q:∀P':Sx w σ,Le Nox P P'→P'.s.heap.objs.size=P.s.heap.objs.size+1→It a x l P.s.heap.objs.size 0 P'→Q (.ref P.s.heap.objs.size) P'.s):wpAny (model pw w) A (pyIter x) Q E P.s:=iter_new hi r fun o t=>q (P.pu o) Sx.puL (Heap.size_push ..) t
theorem list_st {Q:Value→Shared→Prop} (q:∀P':Sx w σ,Le Nox P P'→P'.s.heap.objs.size=P.s.heap.objs.size+1→LA P.s.heap.objs.size [] P'→Q (.ref P.s.heap.objs.size) P'.s):wpAny (model pw w) A (newList []) Q E P.s:=
 wpAny_newList (q (P.pu (lObj [])) Sx.puL (Heap.size_push ..) ⟨⟨[],⟨0,Heap.get?_push_size _ rfl⟩,rfl⟩,P.S.free (P.fresh (Nat.le_refl _))⟩)
theorem env_st {env:Env} {sc:Scope} {cl:List (Str×Addr)} {Q:Env→Shared→Prop} (hk:sc.kind=.function) (hc:∀x∈sc.names,x.2≠.cell) (q:∀P':Sx w σ,Le Nox P P'→(∃m,P'.s.heap.Ns P.s.heap.objs.size m)→Wg w P'.φ P.s.heap.objs.size→Q (newEnv sc P.s.heap.objs.size env.globals cl env.qual none .none (some env) builtinsNs) P'.s):wpAny (model pw w) A (newFunctionEnv sc env.globals cl [] env.qual none .none (some env)) Q E P.s:=
 wpAny_newFunctionEnv hc (fun y hy=>nomatch hy) (fun h' hns sb=>by
  have k:∀b o,P.s.heap.get? b=some o→h'.get? b=some o:=fun b o e=>sb.extBut b o (Nat.ne_of_lt (Heap.lt_size e)) (Heap.get?_push_of_some _ e)
  exact q (P.mr {P.s with heap:=h',toks:=P.s.toks+([]:List (Str×Value)).length} k) (Sx.mrL k rfl rfl) ⟨_,hns⟩ (P.S.free (P.fresh (Nat.le_refl _)))) hk
end
theorem Le.dead {b:Nat} (l:Le Nox P P') (h:P'.s.heap.objs.size≤b):P.s.heap.get? b=none:=by
 cases e:P.s.heap.get? b with
 | none=>rfl
 | some o=>obtain ⟨o',e'⟩:=l.x.live b o e; exact nN ((P'.fresh h).symm.trans e')
end
theorem Uz {h:Heap} {L:Addr} {m:Str→Option Value} (n:h.Ns L m):YE (fun b=>b=L) h:=by
 obtain ⟨o,es,ep,ho,hd,-⟩:=n
 rintro b rfl o1 h1
 obtain rfl:o=o1:=Option.some.inj (ho.symm.trans h1)
 exact ⟨fun ⟨_,_,_,z⟩=>(nomatch hd.symm.trans z),fun ⟨_,_,z⟩=>(nomatch hd.symm.trans z)⟩
section
variable {N:Nat} {w:World} {sc sc':Scope} {I:Ev} {elt tgt iter:Expr} {ifs:List Expr} {pos:Pos} {ρ:Loc} {σ:zG} (hE:yl N I.e) (hT:jj N I.t) (hN:1≤N) (c:Ctx N sc ρ w σ) {k:K V} {r:Res} (hr:r≠none) {use:Option (Value→Sem Unit)} {Q:Value→Shared→Prop}
structure CE (P:Sx w σ) (L:Addr) {σ':zG} (P':Sx w σ') (v:V) (y:Value):Prop where
 le:Le Nox P P'
 r:P'.R v y
 ns:∃m,P'.s.heap.Ns L m
 dead:P.s.heap.get? L=none
 f:Wg w P'.φ L
include hE hT hN hr
theorem comp_turns (hok:YW iter=true∧0=(0:Int)∧sc'.kind=.function) (K:∀n k,(n,k)∈sc'.names→CK sc sc' n k) {σ1:zG} (P1:Sx w σ1) (l1:Le Nox c.P P1) {src:V} {x:Value} (rx:P1.R src x)
  (h:ye src (fun v add=>asg P0 sc' I tgt v (Uv sc' ρ) fun ρ1=>Qt sc' I elt ρ1 add ifs) k σ1=r) (hQ:∀ (σ':zG) (P':Sx w σ') v y L,CE c.P L P' v y→k v σ'=r→compPost (model pw w) c.A No use Q y L (.ok .next) P'.s):
  wpAny (model pw w) c.A (pyIter x) (fun it s₂=>wpAny (model pw w) c.A (newList []) (fun acc s₃=>wpAny (model pw w) c.A (newFunctionEnv sc' c.env.globals (YO c.env sc'.names []) [] c.env.qual none .none (some c.env)) (fun cenv s₄=>
    codeAny (model pw w) c.A (.compStart (.ListComp elt [⟨tgt,iter,ifs,0⟩] sc' pos) 0 it acc {cenv with scope:=relabel sc' c.env}) (compPost (model pw w) c.A No use Q acc cenv.locals) s₄) No s₃) No s₂) No P1.s:=by
 unfold ye jY at h
 cases hi:zz src σ1 with
 | none=>rw [hi] at h; exact absurd h.symm hr
 | some l=>
 rw [hi] at h
 have hnc:∀x∈sc'.names,x.2≠.cell:=fun x m e=>by
  rcases K x.1 x.2 m with e' | e' | e'<;>rw [e] at e'<;>cases e'
 refine iter_st hi rx fun P2 l2 z2 t2=>list_st fun P3 l3 z3 d3=>env_st hok.2.2 hnc fun P4 l4 n4 f4=>?_
 have t4:=(t2.le l3 zb fun q=>q).le l4 zb fun q=>q
 have lq:=((l1.trans l2).trans l3).trans l4
 have F4:=c.F.ext0 c.P.S lq.x
 have F1:=c.F.ext0 c.P.S l1.x
 obtain ⟨cl,-⟩:=ce_clos (L:=P3.s.heap.objs.size) c.F K
 have fx:∀b:Nat,FX (cEnv sc' c.env P3.s.heap.objs.size) b→b=P3.s.heap.objs.size∨b < P1.s.heap.objs.size:=fun b hb=>hb.imp id fun ⟨n,hn⟩=>by
  obtain ⟨v,o,ho,-⟩:=F1.cells n b (cl n b hn)
  exact Heap.lt_size ho
 have dD:=(l1.trans l2).dead (Nat.le_refl _)
 have dL:=((l1.trans l2).trans l3).dead (Nat.le_refl _)
 have n1:P1.s.heap.objs.size < P2.s.heap.objs.size:=Nat.lt_of_succ_le (Nat.le_of_eq z2.symm)
 have n2:P2.s.heap.objs.size < P3.s.heap.objs.size:=Nat.lt_of_succ_le (Nat.le_of_eq z3.symm)
 have cs:CS c.P sc' (cEnv sc' c.env P3.s.heap.objs.size) P1.s.heap.objs.size P2.s.heap.objs.size:=⟨l1.dead (Nat.le_refl _),dD,fun q=>(fx _ q).elim (Nat.ne_of_lt (Nat.lt_trans n1 n2)) (Nat.lt_irrefl _),fun q=>(fx _ q).elim (Nat.ne_of_lt n2) (Nat.not_lt_of_lt n1),Nat.ne_of_lt n1,fun b q=>q.elim (fun e=>e▸dL) fun ⟨x,hx,_⟩=>(no_cel c.F K hx).elim⟩
 have h0:∀n,Bd sc' n→zO n (Uv sc' ρ)=none:=fun n ⟨q,hq,hb⟩=>by
  unfold Uv
  rw [Yo (p:=fun n=>!Z5 (zO n sc'.names)),hq]
  cases q<;>first | rfl | exact no hb | exact (no_cel c.F K hq).elim
 have lp:=comp_go (tgt:=tgt) (elt:=elt) (iter:=iter) (ifs:=ifs) (pos:=pos) (kn:=WK k) (R:=compPost (model pw w) c.A No use Q (.ref P2.s.heap.objs.size) P3.s.heap.objs.size) hE hT hN c.ro cs h0 (Xo hi).1 hr (fun acc' σ' P' l' F' d' hk=>by
  obtain ⟨-,e⟩:=inv_if hk hr
  exact hQ _ d'.ad (.ref σ'.length) (.ref P2.s.heap.objs.size) P3.s.heap.objs.size ⟨d'.ad_le l' dD,d'.ref,F'.ns,dL,fun q=>(XJ.mp q).elim (F'.out _ (.inl rfl)).1 fun q=>q.elim (Nat.ne_of_gt n2) (Nat.ne_of_gt n2),(F'.out _ (.inl rfl)).2⟩ e) l.1 0 [] σ1 P4 ⟨lq,comp_frame F4 K hok.2.2 n4 f4,t4,d3.le l4 zb fun q=>q⟩ hi rfl (Nat.zero_le _) (Nat.le_refl _) h
 exact codeAny_compStart_list lp (t4.self lp)
theorem comp_run {as:Int} {pos':Pos} (hok:compOk sc sc' iter as=true) (h:(fun k=>I.e sc iter ρ fun it=>ye it (fun v add=>asg P0 sc' I tgt v (Uv sc' ρ) fun ρ1=>Qt sc' I elt ρ1 add ifs) k) k σ=r) (hQ:∀ (σ':zG) (P':Sx w σ') v y L,CE c.P L P' v y→k v σ'=r→compPost (model pw w) c.A No use Q y L (.ok .next) P'.s):
  wpAny (model pw w) c.A (comprehension (.ListComp elt [⟨tgt,iter,ifs,0⟩] sc' pos) sc' c.env pos' (newList []) false (eval iter c.env) use) Q No c.P.s:=by
 obtain ⟨⟨h1,h2,h3⟩,K⟩:=XQ hok
 refine wpAny_comprehension_free (g:=⟨tgt,iter,ifs,0⟩) (gs:=[]) rfl (fun x=>ZQ h1) (closFor fun n m=>(free_of c.F K m).2) h3 (fun x m e=>?_) ?_
 ·rcases K x.1 x.2 m with ⟨-,e'⟩ | ⟨e',-,-⟩ | e'
  ·exact (YX _ _).symm.trans e'
  ·exact nomatch e.symm.trans e'
  ·exact nomatch e.symm.trans e'
 exact hE c _ r h hr _ fun σ1 P1 src x l1 rx h=>comp_turns hE hT hN c hr ⟨h1,rfl,h3⟩ K P1 l1 rx h hQ
omit hr
theorem sComp {gs:List Comprehension}:Snd Nox c.A (on1 gs (compM P0 sc I elt sc' ρ)) (eval (.ListComp elt gs sc' pos) c.env) c.P RV:=.n1 fun g e=>.chk fun hok k r h hr Q q=>by
 subst e
 obtain ⟨tgt,iter,ifs,as⟩:=g
 obtain rfl:as=0:=(XQ hok).1.2.1
 rw [eval_ListComp]
 refine comp_run (use:=none) hE hT hN c hr hok h fun σ' P' v y L e hk=>?_
 obtain ⟨m,n⟩:=e.ns
 refine ⟨m,n,fun h' sb=>?_⟩
 have sp:=Uz n
 have b:Bt L P' (P'.bt {P'.s with heap:=h'} sp (fun b o n e=>(sb.2 b n).trans e) e.f):=⟨rfl,fun b o n e=>(sb.2 b n).trans e,sp,rfl,rfl⟩
 exact q σ' _ v y (b.le e.le e.dead) (b.v e.r) hk
end
end Wk
end
section
namespace Wk
open Mine (st sm H1 YP pw)
section
variable {N:Nat} {sc:Scope} {ρ:Loc} {w:World} {I:Ev} {σ:zG} (hE:yl N I.e) (c:Ctx N sc ρ w σ)
theorem line_20 {es:List Expr} {vs:List V} {xs:List Value} (h:YD es=true) (r:c.P.RL vs xs) (e:vs.length=es.length):xs.length≤sizeLine:=Nat.le_trans (za.length r▸e▸(Zi h).2) (by decide)
include hE
theorem sList {es:List Expr} {p:Pos}:Snd Nox c.A (chk (YD es) fun k=>evL (fun y=>I.e sc y ρ) es fun vs=>zU (.list vs) k) (eval (.List es p) c.env) c.P RV:=.chk fun h=>.stand ((sndLn hE (pos:=p) c (Zi h).1).bind (f:=newList) fun _ P1 vs xs l1 r1=>.newL r1.1 fun Q q=>wpAny_newList q (line_20 (c.nx P1 l1) h r1.1 r1.2))
theorem sTup {es:List Expr} {n:Nat} {p:Pos}:Snd Nox c.A (chk (YD es) fun k=>evL (fun y=>I.e sc y ρ) es fun vs=>k (.tup vs)) (eval (.Tuple es n p) c.env) c.P RV:=.chk fun h=>.stand ((sndLn hE (pos:=p) c (Zi h).1).bind (g:=fun vs=>ret (V.tup vs)) (f:=newTuple) fun _ P1 vs xs l1 r1=>.newT r1.1 fun Q q=>wpAny_newTuple q (line_20 (c.nx P1 l1) h r1.1 r1.2))
omit hE in
theorem sDict {p:Pos}:Snd Nox c.A (zU (.dict [] (some 0))) (eval (.Dict [] [] p) c.env) c.P RV:=.stand (.nw {cls:=.type "dict",data:=.dict #[]} ⟨rfl,⟨List.nodup_nil,0,fun _ h=>nomatch h⟩,#[],⟨0,rfl⟩,Heap.get?_push_size _ rfl,rfl⟩ fun Q q=>wpAny_newObj_type q)
end
section
variable {N M':Nat} {w:World} {I:Ev} {cf:CF}
theorem stepE_ok (hE:yl N I.e) (hT:jj N I.t) (hN:1≤N) (hM:M'+1≤N) (hcf:OkC M' cf):yl N (stepE P0 cf I):=by
 intro sc x ρ w σ c
 cases x with
 | Constant=>exact sndConst
 | Name=>exact sndName c
 | BoolOp op=>cases op with
  | And=>exact sndAnd hE c
  | Or=>exact sndOr hE c
 | BinOp=>exact sBin hE hN c
 | UnaryOp=>exact sUn hE hN c
 | IfExp t a b p=>exact (hT c).tr (f:=fun t=>if t=true then eval a c.env else eval b c.env) (fun _ P1 l1=>hE (c.nx P1 l1)) fun _ P1 l1=>hE (c.nx P1 l1)
 | Dict ks vs p=>exact .n0 fun e=>.n0 fun e'=>by subst e e'; exact sDict c
 | List=>exact sList hE c
 | Tuple=>exact sTup hE c
 | ListComp=>exact sComp hE hT hN c
 | Compare l ops rs p=>
  refine .nC fun op ops e=>.nC fun r rs e'=>?_
  subst e e'
  cases ops with
  | nil=>exact .n0 fun e=>by subst e; exact sCmp hE hN c
  | cons op' ops=>exact .n0 fun e=>.n1 fun r' e'=>by subst e e'; exact sCmp2 hE hN c
 | Call f args kws p=>
  refine .n0 fun e=>?_
  subst e
  cases e:vw f with
  | name x p=>rw [JD e]; exact sCallN hE hN hM hcf c
  | attr o m p=>rw [JD e]; exact sCallA hE hN hM hcf c
  | _=>
   refine .no fun k=>?_
   show callE P0 cf sc I .. =_
   unfold callE
   rw [e]
   rfl
 | Attribute=>exact sAttr hE hN c
 | Subscript=>exact sSubE hE hN c
 | _=>exact .fail
theorem wY (hE:yl N I.e) {sc:Scope} {ρ:Loc} {σ:zG} {x:Expr} (c:Ctx N sc ρ w σ) (e:isTrue x c.env (eval x c.env)=(eval x c.env >>=fun v=>standAt x.pos >>=fun _=>holding [v] (truthy v))):Snd Nox c.A (plainT sc I x ρ) (isTrue x c.env (eval x c.env)) c.P RB:=.eq e ((hE c).bind fun _ P1 v y l1 r1=>.stand (.hold (sndT r1)))
theorem stepT_ok (hE:yl N I.e) (hT:jj N I.t) (hN:1≤N):jj N (stepT I):=by
 intro sc x ρ w σ c
 cases x with
 | UnaryOp op y p=>cases op with
  | Not=>exact (hT c).bind (f:=fun t=>pure (!t)) fun _ P1 b b' l1 z=>.pure (congrArg not z)
  | _=>exact wY hE c rfl
 | BoolOp op=>cases op with
  | And=>exact sndAndT hT c
  | Or=>exact sndOrT hT c
 | IfExp t a b p=>exact (hT c).tr (f:=fun t=>if t=true then isTrue a c.env (eval a c.env) else isTrue b c.env (eval b c.env)) (fun _ P1 l1=>hT (c.nx P1 l1)) fun _ P1 l1=>hT (c.nx P1 l1)
 | Compare l ops rs p=>exact .n1 fun op e=>.n1 fun r e'=>by subst e e'; exact sCmpT hE hN c
 | _=>exact wY hE c rfl
end
end Wk
end
section
namespace Wk
open Mine (st sm H1 YP pw)
theorem tf {p:Prop} (h:true=false):p:=nomatch h
section
variable {w:World} {X:Addr→Prop} {A:Around} {α β γ:Type} {σ:zG} {P:Sx w σ} {t:Sem α} {R:Rl w β α}
theorem Snd.ck {b:Bool} {m:K β→C} (h:b=true→Snd X A (fun k=>m k) t P R):Snd X A (fun k=>wI b (m k)) t P R:=by
 rcases b with _ | _
 ·exact .no fun _=>rfl
 ·exact h rfl
theorem Snd.c0 {l:List γ} {m:K β→C} (h:l=[]→Snd X A (fun k=>m k) t P R):Snd X A (fun k=>Wk.c0 l (m k)) t P R:=by
 rcases l with _ | ⟨x,r⟩
 ·exact h rfl
 ·exact .no fun _=>rfl
theorem Snd.c1 {l:List γ} {f:γ→K β→C} (h:∀x,l=[x]→Snd X A (fun k=>f x k) t P R):Snd X A (fun k=>Wk.c1 l fun x=>f x k) t P R:=by
 rcases l with _ | ⟨x,_ | ⟨y,r⟩⟩
 ·exact .no fun _=>rfl
 ·exact h x rfl
 ·exact .no fun _=>rfl
theorem Snd.sc {o:Option γ} {f:γ→K β→C} (h:∀x,o=some x→Snd X A (fun k=>f x k) t P R):Snd X A (fun k=>ZA o fun x=>f x k) t P R:=by
 rcases o with _ | x
 ·exact .no fun _=>rfl
 ·exact h x rfl
theorem Snd.bn {δ:Type} {m:M β} {f:α→Sem γ} {g:β→M δ} {R':Rl w δ γ} (h:Snd Nox A m t P R) (k:∀ (σ':zG) (P':Sx w σ') b a,Le Nox P P'→R σ' P' b a→Snd X A (g b) (f a) P' R'):Snd X A (fun k=>m fun b=>g b k) (t >>=f) P R':=
 fun _ _ e hr _ q=>wpAny_bind (h _ _ e hr _ fun σ' P' b a l z e'=>k σ' P' b a l z _ _ e' hr _ fun σ'' P'' d c l' z' e''=>q σ'' P'' d c (l.up.trans l') z' e'')
theorem Snd.mp {m:M β} {R':Rl w β α} (h:Snd X A m t P R) (i:∀ (σ':zG) (P':Sx w σ') b a,R σ' P' b a→R' σ' P' b a):Snd X A m t P R':=h.map (f:=fun b=>b) i
end
theorem Ub {y:Expr} {t:Option Expr} {n:Nat} {env:Env} (h:WV y=true):swapsWith y t n env=pure false:=by
 cases y<;>first | rfl | exact no h
noncomputable def uAll (t:Expr) (env:Env) (v:Value):Sem Unit:=assignAll v ((assignEach [t] env).map (·.2))
theorem WF (t y:Expr) (p:Pos) (env:Env):exec (.Assign [t] y p) env=(standAt p >>=fun _=>swapsWith y (some t) p.line env >>=fun b=>if b=true then (evalThenUse y env (uAll t env) >>=fun _=>pure .next) else eval y env >>=fun v=>swappedStores [t] y env >>=fun sw=>assignStores env v sw ((assignEach [t] env).map (·.2))):=rfl
theorem evalUse {elt:Expr} {g:Comprehension} {sc':Scope} {pos:Pos} {env:Env} {u:Value→Sem Unit} (h:g.is_async=0):evalThenUse (.ListComp elt [g] sc' pos) env u=(comprehension (.ListComp elt [g] sc' pos) sc' env (firstIterPos [g] pos) (newList []) false (eval g.iter env) (some u) >>=fun _=>pure ()):=by
 obtain ⟨a,b,c,d⟩:=g
 obtain rfl:d=0:=h
 rfl
noncomputable def tgtOk (t:Expr):Bool:=!(ct 22 t||ct 24 t)
theorem swapped_none {t y:Expr} {env:Env} (h:(noTup t||noTup y)=true) (ht:tgtOk t=true):swappedStores [t] y env=pure none:=by
 cases t<;>first | rfl | exact no ht | skip
 cases y<;>first | rfl | exact no h
theorem each_one {t:Expr} {env:Env} (ht:tgtOk t=true):(assignEach [t] env).map (·.2)=[assign t env]:=by
 cases t<;>first | rfl | exact no ht
theorem asg_tgt {sc:Scope} {I:Ev} {t:Expr} {v:V} {ρ:Loc} (h:tgtOk t=false):asg P0 sc I t v ρ=fail:=by
 cases t<;>first | rfl | exact tf h
section
variable {N:Nat} {sc:Scope} {ρ:Loc} {w:World} {I:Ev} {σ:zG} {X:Addr→Prop} {m:M (Loc ⊕ V)} (hE:yl N I.e) (hT:jj N I.t) (hS:Ja N sc I.s) (hN:1≤N) (c:Ctx N sc ρ w σ)
theorem sndAug {P:Sx w σ} {A:Around} {op:Operator} {a b:V} {x y:Value} (ra:P.R a x) (rb:P.R b y):Snd X A (wC op a b) (inplaceOp op x y) P RV:=.int ra fun i t e _=>.int rb fun j u e' _=>by
 subst e e'
 cases op with
 | Add=>exact .now (a:=.int _ _) (fun Q q=>iadd_int (q _)) fun _=>⟨_,rfl⟩
 | Sub=>exact .now (a:=.int _ _) (fun Q q=>isub_int (q _)) fun _=>⟨_,rfl⟩
 | _=>exact .fail
theorem Ctx.nxt {σ':zG} {P':Sx w σ'} (l:Le Nox c.P P') (B:List Str):RE w sc c.env B ρ σ' P' (.inl ρ) .next:=⟨rfl,c.F.ext0 c.P.S l.x,fun _ _=>rfl⟩
include hE
theorem sExpr {y:Expr} {p:Pos} {B:List Str}:Snd (FW sc c.env) c.A (fun k=>wI (WV y) (I.e sc y ρ fun _=>k (.inl ρ))) (exec (.Expr y p) c.env) c.P (RE w sc c.env B ρ):=.ck fun hc=>by
 rw [exec_Expr c.env y p (by unfold interactive; rw [c.F.k.kind]; rfl) (Ub hc)]
 exact .stand ((hE c).bn (g:=fun _ k=>k (Sum.inl ρ)) fun σ1 P1 v a l1 r1 k r e hr Q q=>wpAny_dropValue (q σ1 P1 (Sum.inl ρ) .next .rfl (c.nxt l1 B) e))
theorem sRet {y:Expr} {p:Pos} {B:List Str}:Snd (FW sc c.env) c.A (fun k=>I.e sc y ρ fun v=>k (Sum.inr v)) (exec (.Return (some y) p) c.env) c.P (RE w sc c.env B ρ):=by
 rw [exec_Return_some]
 exact .stand ((hE c).bn (g:=fun v k=>k (Sum.inr v)) fun σ1 P1 v a l1 r1=>.pure ⟨a,rfl,r1⟩)
include hN
theorem sAsgE {t y:Expr} {v:V} {a:Value} (ht:(noTup t||noTup y)=true) (rv:c.P.R v a):Snd (FW sc c.env) c.A (fun k=>asg P0 sc I t v ρ fun ρ'=>k (Sum.inl ρ')) (swappedStores [t] y c.env >>=fun sw=>assignStores c.env a sw ((assignEach [t] c.env).map (·.2))) c.P (RE w sc c.env (zu t) ρ):=by
 cases h:tgtOk t with
 | false=>exact .no fun k=>by rw [asg_tgt h]; rfl
 | true=>
  rw [swapped_none ht h,each_one h]
  exact (sndAsg hE hN c rv).bind (g:=fun ρ' k=>k (Sum.inl ρ')) (f:=fun _=>pure Flow.next) fun _ P1 ρ1 _ l1 z=>.pure ⟨rfl,z.F,z.k⟩
theorem sAsg {t y:Expr} {p:Pos} (hc:WV y=true) (ht:(noTup t||noTup y)=true):Snd (FW sc c.env) c.A (fun k=>I.e sc y ρ fun v=>asg P0 sc I t v ρ fun ρ'=>k (Sum.inl ρ')) (exec (.Assign [t] y p) c.env) c.P (RE w sc c.env (zu t) ρ):=by
 rw [WF,Ub hc]
 exact .stand ((hE c).bn (g:=fun v k=>asg P0 sc I t v ρ fun ρ'=>k (Sum.inl ρ')) (f:=fun v=>swappedStores [t] y c.env >>=fun sw=>assignStores c.env v sw ((assignEach [t] c.env).map (·.2))) fun _ P1 v a l1 r1=>sAsgE hE hN (c.nx P1 l1) ht r1)
theorem sAug {o y:Expr} {a:Str} {op:Operator} {p p':Pos} {B:List Str}:Snd (FW sc c.env) c.A (fun k=>augS P0 sc I (.Attribute o a p') op y ρ fun ρ'=>k (Sum.inl ρ')) (exec (.AugAssign (.Attribute o a p') op y p) c.env) c.P (RE w sc c.env B ρ):=
 .up (.stand ((hE c).bind (g:=fun ov k=>zD P0 ov a fun old=>I.e sc y ρ fun v=>wC op old v fun new=>zK P0 ov a new (k (Sum.inl ρ))) (f:=fun o'=>holding [o'] (standAt p'.atName >>=fun _=>getAttr o' a true >>=fun old=>holding [old] (eval y c.env) >>=fun v=>standAt p >>=fun _=>operate [old,v] (inplaceOp op old v)) >>=fun new=>standAt p'.atName >>=fun _=>holding [new,o'] (setAttr o' a new) >>=fun _=>release [new,o'] [] >>=fun _=>pure Flow.next) fun _ P1 ov x l1 r1=>
  Snd.bind (m:=fun k=>zD P0 ov a fun old=>I.e sc y ρ fun v=>wC op old v k) (R:=RV) (.hold (.stand ((sndAttr r1).bind (g:=fun old k=>I.e sc y ρ fun v=>wC op old v k) fun _ P2 old x2 l2 r2=>(hE (c.nx P2 (l1.trans l2))).hold.bind fun _ P3 v x3 l3 r3=>.stand (.oper (sndAug (l3.v r2) r3))))) fun _ P4 new x4 l4 r4=>
  .stand ((sndSetA (l4.v r1) r4).hold.bind (g:=fun _ k=>k (Sum.inl ρ)) fun _ P5 _ _ l5 _=>.rel (.pure (c.nxt ((l1.trans l4).trans l5) B)))))
theorem sDel {o i:Expr} {p p2:Pos} {B:List Str}:Snd (FW sc c.env) c.A (fun k=>ZA (Jd i) fun lo=>I.e sc o ρ fun ov=>I.e sc lo ρ fun l=>jX ov l (k (Sum.inl ρ))) (exec (.Delete [.Subscript o i p2] p) c.env) c.P (RE w sc c.env B ρ):=.sc fun lo hlo=>by
 obtain ⟨p1,rfl⟩:=Uf hlo
 have go:Snd Nox c.A (fun k=>I.e sc o ρ fun ov=>I.e sc lo ρ fun l=>jX ov l (k ())) (eval o c.env >>=fun ov=>holding [ov] (eval (.Slice (some lo) none none p1) c.env) >>=fun iv=>standAt p2 >>=fun _=>holding [ov,iv] (delItem ov iv) >>=fun _=>release [ov,iv] []) c.P RU:=
  (hE c).bind (g:=fun ov k=>slM I sc ρ (some lo) none fun b=>jX ov b.1 (k ())) fun _ P1 a x l1 r1=>(sndSlO hE (c.nx P1 l1)).hold.bind (g:=fun (b:V×V) k=>jX a b.1 (k ())) fun _ P2 b z l2 r2=>.stand (by
   obtain ⟨sl,u,z,rfl,hsl,ru,rz⟩:=r2.1.o
   rw [r2.2 rfl] at rz
   rw [show z=.none from rz] at hsl
   exact (sndDel (l2.v r1) ru hsl).hold.on fun _ P3 _ _ l3 _=>.relE trivial)
 exact .stand (.bn (g:=fun _ k=>k (Sum.inl ρ)) (f:=fun _=>pure Flow.next) (.bind (g:=fun _ k=>k ()) (f:=fun _=>pure ()) go fun _ P1 _ _ _ _=>.pure (R:=RU) trivial) fun _ P1 _ _ l1 _=>.pure (c.nxt l1 B))
include hT hS
omit hE hN in
theorem sIf {t:Expr} {a b:List Stmt} {p:Pos}:Snd (FW sc c.env) c.A (fun k=>I.t sc t ρ fun c=>pIf c (blM I.s a ρ k) (blM I.s b ρ k)) (exec (.If t a b p) c.env) c.P (RE w sc c.env (yH a++yH b) ρ):=by
 have mono:∀ {σ':zG} {P':Sx w σ'} {B:List Str} {e:Loc ⊕ V} {f:Flow},(∀y∈B,y∈yH a++yH b)→RE w sc c.env B ρ σ' P' e f→RE w sc c.env (yH a++yH b) ρ σ' P' e f:=fun {σ' P' B e f} i h=>by
  cases e with
  | inl ρ'=>exact ⟨h.1,h.2.1,h.2.2.mono i⟩
  | inr v=>exact h
 rw [exec_If]
 refine .stand (.bn (g:=fun c k=>pIf c (blM I.s a ρ k) (blM I.s b ρ k)) (hT c) fun _ P1 d d' l1 z=>?_)
 obtain rfl:d'=d:=z
 cases d' with
 | true=>exact (Ud hS (c.nx P1 l1)).mp fun _ _ _ _=>mono fun _=>List.mem_append_left _
 | false=>exact (Ud hS (c.nx P1 l1)).mp fun _ _ _ _=>mono fun _=>List.mem_append_right _
omit hT hE hN in
theorem sTry {bdy final:List Stmt} {hs:List ExceptHandler} {p:Pos}:Snd (FW sc c.env) c.A (fun k=>wI (!final.isEmpty) (evB I.s bdy ρ (fun ρ'=>blM I.s final ρ' k) fun _=>jW)) (exec (.Try bdy hs [] final p) c.env) c.P (RE w sc c.env (yH bdy++yH final) ρ):=.ck fun hf k r h hr Q q=>by
 cases final with
 | nil=>exact no hf
 | cons x xs=>
 show wpAny _ _ (standAt p >>=fun _=>tryStmt false (execs bdy c.env) hs (execs [] c.env) (x::xs) c.env) Q _ c.P.s
 refine wpAny_bind (wpAny_standAt (wpAny_bind (wpAny_attempt (wpAny_bind (wpAny_attempt ?_)))))
 refine wpAny_mono (Ud hS c (Sum.elim (fun ρ'=>blM I.s (x::xs) ρ' k) fun _=>jW) r h hr _ fun σ1 P1 e f l1 z h1=>?_) (fun _ _ z=>z) fun _ _ z=>z.elim
 cases e with
 | inr v=>exact absurd h1.symm hr
 | inl ρ1=>
  obtain ⟨rfl,F1,k1⟩:=z
  refine wpAny_execs_nil (wpAny_bind (wpAny_holding (wpAny_runOwn (codeAny_block ?_))))
  rw [Around.mark_none]
  refine wpAny_mono (Ud hS (c.fw P1 F1) k r h1 hr _ fun σ2 P2 e f l2 z h2=>?_) (fun _ _ z=>z) fun _ _ z=>z.elim
  cases e with
  | inl ρ2=>
   obtain ⟨rfl,F2,k2⟩:=z
   exact wpAny_pure (q σ2 P2 (.inl ρ2) _ (l1.trans l2) ⟨rfl,F2,(k1.mono fun _=>List.mem_append_left _).trans (k2.mono fun _=>List.mem_append_right _)⟩ h2)
  | inr v=>
   obtain ⟨y,rfl,ry⟩:=z
   exact wpAny_bind (wpAny_rule (wpAny_pure (q σ2 P2 (.inr v) _ (l1.trans l2) ⟨y,rfl,ry⟩ h2)))
end
end Wk
end
section
namespace Wk
open Mine (st sm H1 YP pw)
theorem Xm {x:Str} {tgt:Expr} {ρ:Loc}:zO x (jf ρ tgt)=if x∈zu tgt then none else zO x ρ:=by
 unfold jf
 generalize zu tgt=ns
 induction ns generalizing ρ with
 | nil=>rw [if_neg fun h=>nomatch h]; rfl
 | cons n ns ih=>
  rw [List.foldl_cons,ih,lookK_drop]
  by_cases h:x∈ns
  ·rw [if_pos h,if_pos (.tail _ h)]
  ·rw [if_neg h]
   by_cases e:n=x
   ·rw [if_pos e,if_pos (e▸.head _)]
   ·rw [if_neg e,if_neg fun q=>(List.mem_cons.mp q).elim (fun q=>e q.symm) h]
theorem wg {x:Str} {l:List Str}:x∈YN l↔x∈l:=by
 induction l with
 | nil=>exact Iff.rfl
 | cons y r ih=>
  rw [List.mem_cons,← ih]
  have e:YN (y::r)=(match (YN r).any (Fast.sEq y) with | true=>YN r | false=>y::YN r):=rfl
  rw [e]
  cases q:(YN r).any (Fast.sEq y) with
  | false=>exact List.mem_cons
  | true=>
   obtain ⟨z,hz,e⟩:=List.any_eq_true.mp q
   obtain rfl:=Fast.sEq_iff.mp e
   exact ⟨.inr,fun h=>h.elim (fun h=>h▸hz) id⟩
theorem carried_in {ρ:Loc} {tgt:Expr} {body:List Stmt} {x:Str} (h:x∈YC ρ tgt body):x∈yH body:=wg.mp (List.mem_filter.mp h).1
theorem WM {ρ:Loc} {tgt:Expr} {body:List Stmt} {x:Str} (h:x∈YC ρ tgt body):∃v,zO x ρ=some v:=Option.isSome_iff_exists.mp (zW (List.mem_filter.mp h).2).1
theorem carried_of {ρ:Loc} {tgt:Expr} {body:List Stmt} {x:Str} {v:V} (h:x∈yH body) (hv:zO x ρ=some v) (ht:x∉zu tgt):x∈YC ρ tgt body:=by
 refine List.mem_filter.mpr ⟨wg.mpr h,?_⟩
 rw [hv]
 cases q:(zu tgt).any (Fast.sEq x) with
 | false=>rfl
 | true=>
  obtain ⟨z,hz,e⟩:=List.any_eq_true.mp q
  exact (ht (Fast.sEq_iff.mp e▸hz)).elim
noncomputable def setsK:List Str→List V→Loc→Loc
 | []=>fun _ ρ=>ρ
 | a::cs=>fun us ρ=>match us with
  | u::us=>setsK cs us (ZJ a u ρ)
  | []=>ρ
theorem sets_out {cs:List Str} {x:Str} (h:x∉cs):∀ {us:List V} {ρ:Loc},zO x (setsK cs us ρ)=zO x ρ:=by
 induction cs with
 | nil=>exact fun {_ _}=>rfl
 | cons a cs ih=>
  intro us ρ
  rw [List.mem_cons,not_or] at h
  cases us with
  | nil=>rfl
  | cons u us=>exact (ih h.2).trans (Je.trans (if_neg h.1))
theorem sets_get {cs:List Str} {ρ2:Loc}:∀ {us:List V} {ρ:Loc},(∀e∈cs.zip us,zO e.1 ρ2=some e.2)→cs.length=us.length→(∀x v,x∉cs→zO x ρ=some v→zO x ρ2=some v)→∀x v,zO x (setsK cs us ρ)=some v→zO x ρ2=some v:=by
 induction cs with
 | nil=>exact fun {us ρ} _ _ h x v e=>h x v (fun h=>nomatch h) e
 | cons a cs ih=>
  intro us ρ hz hl h x v e
  cases us with
  | nil=>cases hl
  | cons u us=>
   refine ih (fun e he=>hz e (.tail _ he)) (Nat.succ.inj hl) (fun y z hy q=>?_) x v e
   rw [Je] at q
   by_cases ey:y=a
   ·rw [if_pos ey] at q
    exact ey▸q▸hz (a,u) (.head _)
   ·rw [if_neg ey] at q
    exact h y z (fun m=>(List.mem_cons.mp m).elim ey hy) q
section
variable {N:Nat} {sc:Scope} {ρ:Loc} {w:World} {I:Ev} {σ:zG} {tgt iter:Expr} {bdy:List Stmt} {p:Pos} {cs:List Str} (hE:yl N I.e) (hT:jj N I.t) (hS:Ja N sc I.s) (hN:1≤N) (c:Ctx N sc ρ w σ)
noncomputable def loopM (sc:Scope) (I:Ev) (tgt iter:Expr) (bdy:List Stmt) (ρ:Loc) {α:Type} (loc:α→Loc) (after:Loc→(α→C)→C) (a0:α):M (Loc ⊕ V):=fun kk=>I.e sc iter ρ fun it=>jY it fun l=>yO it l (fun v a k=>asg P0 sc I tgt v (loc a) fun ρ1=>evB I.s bdy ρ1 (fun ρ2=>after ρ2 k) fun v=>kk (.inr v)) (fun a=>kk (.inl (loc a))) l.1 a0
include hE hS hN in
theorem sFor {α:Type} (enc:α→List V) (after:Loc→(α→C)→C) (a0:α) (hc:YC (jf ρ tgt) tgt bdy=cs) (hs:YW iter=true) (hl:∀a,cs.length=(enc a).length) (ha:∀ρ2 k (σ:zG) (r:Res),after ρ2 k σ=r→r≠none→∃a',k a' σ=r∧∀e∈cs.zip (enc a'),zO e.1 ρ2=some e.2)
  (h0:∀e∈cs.zip (enc a0),zO e.1 (jf ρ tgt)=some e.2):Snd (FW sc c.env) c.A (loopM sc I tgt iter bdy ρ (fun a=>setsK cs (enc a) (jf ρ tgt)) after a0) (exec (.For tgt iter bdy [] p) c.env) c.P (RE w sc c.env (zu tgt++yH bdy) ρ):=fun k r h hr Q q=>by
 have sub:∀x v,zO x (jf ρ tgt)=some v→x∉zu tgt∧zO x ρ=some v:=fun x v e=>by
  rw [Xm] at e
  by_cases m:x∈zu tgt
  ·rw [if_pos m] at e; exact nN e
  ·rw [if_neg m] at e; exact ⟨m,e⟩
 have csB:∀ {x},x∈cs→x∈yH bdy:=fun {x} m=>carried_in (ρ:=jf ρ tgt) (tgt:=tgt) (hc▸m)
 refine wpAny_For (hE c _ r h hr _ fun σ1 P1 it x l1 rx h1=>?_) fun x=>ZQ hs
 unfold jY at h1
 cases hi:zz it σ1 with
 | none=>rw [hi] at h1; exact absurd h1.symm hr
 | some l=>
 rw [hi] at h1
 refine iter_st hi rx fun P2 l2 z2 t2=>for_go (B:=zu tgt++yH bdy) (S0:=c.P) hE hS hN c.ro (fun y=>List.mem_append.mpr) (fun a ρ2 k σ r kk e hr=>?_) (l1.dead (Nat.le_refl _)) (fun z=>?_) hr (fun a' σ' P' l F e=>q σ' P' (.inl _) .next l ⟨rfl,F,fun x hx=>?_⟩ e) (fun v y σ' P' l ry e=>q σ' P' (.inr v) _ l ⟨y,rfl,ry⟩ e) l.1 0 a0 σ1 P2 (l1.trans l2).up ?_ t2 hi rfl (Nat.zero_le _) h1
 ·obtain ⟨a',e',hz⟩:=ha ρ2 k σ r e hr
  refine ⟨a',e',sets_get hz (hl a') fun x v hx e=>?_⟩
  obtain ⟨m,-⟩:=sub x v e
  rw [kk x fun q=>(List.mem_append.mp q).elim m fun q=>hx (hc▸carried_of q e m),sets_out hx]
  exact e
 ·obtain ⟨o,ho,-⟩:=(c.F.ext0 c.P.S l1.x).obj z
  exact nN ((P1.fresh (Nat.le_refl _)).symm.trans ho)
 ·rw [List.mem_append,not_or] at hx
  rw [sets_out fun m=>hx.2 (csB m),Xm,if_neg hx.1]
 ·refine (c.F.ext0 c.P.S (l1.trans l2).x).weaken (sets_get (fun e he=>(sub _ _ (h0 e he)).2) (hl a0) fun x v _ e=>(sub x v e).2)
theorem JI {β:Type} {o:Option β} {f:β→C} {σ:zG} {r:Res} (h:ZA o f σ=r) (hr:r≠none):∃x,o=some x∧f x σ=r:=by
 cases o with
 | none=>exact absurd h.symm hr
 | some x=>exact ⟨x,rfl,h⟩
theorem Snd.meq {X:Addr→Prop} {A:Around} {α β:Type} {P:Sx w σ} {t:Sem α} {R:Rl w β α} {m m':M β} (e:∀k,m k=m' k) (h:Snd X A m' t P R):Snd X A m t P R:=by
 obtain rfl:m=m':=funext e
 exact h
section
variable {kn:Loc→C} {kr:V→C} {it:V} {ρ0:Loc} {a b d:Str} {u v z:V} (hu:zO a ρ0=some u) (hv:zO b ρ0=some v) (hz:zO d ρ0=some z)
theorem for0_eq:forS P0 sc I tgt bdy kn kr it ρ0 []=rFor0 it (fun v k=>asg P0 sc I tgt v ρ0 fun ρ1=>evB I.s bdy ρ1 (fun _=>k) kr) (kn ρ0):=by
 show yL _ _ _=_
 unfold yL; rfl
include hu
theorem for1_eq:forS P0 sc I tgt bdy kn kr it ρ0 [a]=rFor1 it u (fun v u k=>asg P0 sc I tgt v (ZJ a u ρ0) fun ρ1=>evB I.s bdy ρ1 (fun ρ2=>ZA (zO a ρ2) k) kr) fun u=>kn (ZJ a u ρ0):=by
 show ZA (zO a ρ0) _=_
 rw [hu]; show Uu _ _ _ _=_; unfold Uu; rfl
include hv hz
theorem for3_eq:forS P0 sc I tgt bdy kn kr it ρ0 [a,b,d]=rFor3 it u v z (fun x u v w k=>asg P0 sc I tgt x (set3 ρ0 a b d u v w) fun ρ1=>evB I.s bdy ρ1 (fun ρ2=>get3 a b d ρ2 k) kr) (fun u v w=>kn (set3 ρ0 a b d u v w)):=by
 show (ZA (zO a ρ0) fun u=>ZA (zO b ρ0) fun v=>ZA (zO d ρ0) fun w=>_)=_
 rw [hu,hv,hz]; show we _ _ _ _ _ _=_; unfold we; rfl
end
include hE hS hN in
theorem sFors:Snd (FW sc c.env) c.A (fun k=>wI (YW iter) (I.e sc iter ρ fun it=>forS P0 sc I tgt bdy (fun ρ'=>k (.inl ρ')) (fun v=>k (.inr v)) it (jf ρ tgt) (YC (jf ρ tgt) tgt bdy))) (exec (.For tgt iter bdy [] p) c.env) c.P (RE w sc c.env (zu tgt++yH bdy) ρ):=.ck fun hs=>by
 rcases hc:YC (jf ρ tgt) tgt bdy with _ | ⟨a,_ | ⟨b,_ | ⟨d,_ | ⟨f,r⟩⟩⟩⟩
 ·exact .meq (fun k=>congrArg (I.e sc iter ρ) (funext fun it=>for0_eq)) <| sFor hE hS hN c (α:=Unit) (fun _=>[]) (fun _ k=>k ()) () hc hs (fun _=>rfl) (fun ρ2 k σ r e hr=>⟨(),e,fun _ h=>nomatch h⟩) fun _ h=>nomatch h
 ·obtain ⟨u,hu⟩:=WM (hc▸List.mem_cons_self:a∈YC (jf ρ tgt) tgt bdy)
  refine .meq (fun k=>congrArg (I.e sc iter ρ) (funext fun it=>for1_eq hu)) (sFor hE hS hN c (α:=V) (fun u=>[u]) (fun ρ2 k=>ZA (zO a ρ2) k) u hc hs (fun _=>rfl) (fun ρ2 k σ r e hr=>?_) fun e he=>List.mem_singleton.mp he▸hu)
  obtain ⟨x,hx,e⟩:=JI e hr
  exact ⟨x,e,fun e he=>List.mem_singleton.mp he▸hx⟩
 ·exact fun k r h hr Q q=>wpAny_For (hE c _ r h hr _ fun σ1 P1 it x l1 rx h1=>absurd h1.symm hr) fun x=>ZQ hs
 ·have m:∀x∈[a,b,d],∃v,zO x (jf ρ tgt)=some v:=fun x hx=>WM (hc▸hx)
  obtain ⟨u,hu⟩:=m a (.head _)
  obtain ⟨v,hv⟩:=m b (.tail _ (.head _))
  obtain ⟨z,hz⟩:=m d (.tail _ (.tail _ (.head _)))
  have zip:∀ {ρ:Loc} {x y z:V},zO a ρ=some x→zO b ρ=some y→zO d ρ=some z→∀e∈[a,b,d].zip [x,y,z],zO e.1 ρ=some e.2:=fun h1 h2 h3 e he=>(List.mem_cons.mp he).elim (fun h=>h▸h1) fun he=>(List.mem_cons.mp he).elim (fun h=>h▸h2) fun he=>List.mem_singleton.mp he▸h3
  refine .meq (fun k=>congrArg (I.e sc iter ρ) (funext fun it=>for3_eq hu hv hz)) (sFor hE hS hN c (α:=V×V×V) (fun s=>[s.1,s.2.1,s.2.2]) (fun ρ2 k=>get3 a b d ρ2 fun u v w=>k (u,v,w)) (u,v,z) hc hs (fun _=>rfl) (fun ρ2 k σ r e hr=>?_) (zip hu hv hz))
  obtain ⟨x,hx,e⟩:=JI e hr
  obtain ⟨y,hy,e⟩:=JI e hr
  obtain ⟨z,hz,e⟩:=JI e hr
  exact ⟨(x,y,z),e,zip hx hy hz⟩
 ·exact fun k r h hr Q q=>wpAny_For (hE c _ r h hr _ fun σ1 P1 it x l1 rx h1=>absurd h1.symm hr) fun x=>ZQ hs
include hT hS in
theorem while_go {t:Expr} {S0:Sx w σ} {A:Around} {env:Env} {r:Res} {R:Result→Shared→Prop} {kn:C} {kr:V→C} (ro:jO A N) (hw:∀y∈yH bdy,zO y ρ=none) (hr:r≠none) (q1:∀ (σ':zG) (P':Sx w σ'),Le (FW sc env) S0 P'→Fr w sc env ρ P'.φ P'.s.heap→kn σ'=r→R (.ok .next) P'.s) (q2:∀v y (σ':zG) (P':Sx w σ'),Le (FW sc env) S0 P'→P'.R v y→kr v σ'=r→R (.ok (.ret y)) P'.s):
  ∀ (n:Nat) (σ:zG) (P:Sx w σ),Le (FW sc env) S0 P→Fr w sc env ρ P.φ P.s.heap→YK (I.t sc t ρ) (fun k=>evB I.s bdy ρ (fun _=>k) kr) kn n σ=r→codeAny (model pw w) A (.whileLoop t bdy [] env) R P.s:=by
 intro n
 induction n with
 | zero=>exact fun _ _ _ _ h=>absurd h.symm hr
 | succ n ih=>
  intro σ P l F h
  refine UZ (hT (⟨A,env,P,ro,F⟩:Ctx N sc ρ w σ) _ r h hr _ fun σ1 P1 b b' l1 z h1=>?_)
  obtain rfl:b'=b:=z
  have F1:=F.ext0 P.S l1.x
  cases b' with
  | false=>exact q1 σ1 P1 (l.trans l1.up) F1 h1
  | true=>
   refine Ud hS (⟨A,env,P1,ro,F1⟩:Ctx N sc ρ w σ1) (Sum.elim (fun _=>YK (I.t sc t ρ) (fun k=>evB I.s bdy ρ (fun _=>k) kr) kn n) kr) r h1 hr _ fun σ2 P2 e f l2 z h2=>?_
   have lq:=(l.trans l1.up).trans l2
   cases e with
   | inr v=>
    obtain ⟨y,rfl,ry⟩:=z
    exact q2 v y σ2 P2 lq ry h2
   | inl ρ2=>
    obtain ⟨rfl,F2,k2⟩:=z
    exact ih σ2 P2 lq (F2.weaken fun x v e=>(k2 x fun m=>nN ((hw x m).symm.trans e)).trans e) h2
include hT hS in
theorem sWhile {t:Expr} {B:List Str}:Snd (FW sc c.env) c.A (fun k=>wI ((yH bdy).all fun x=>(zO x ρ).isNone) (YK (I.t sc t ρ) (fun j=>evB I.s bdy ρ (fun _=>j) fun v=>k (.inr v)) (k (.inl ρ)) 64)) (exec (.While t bdy [] p) c.env) c.P (RE w sc c.env B ρ):=.ck fun hs k r h hr Q q=>
 wpAny_While (while_go hT hS c.ro (fun y hy=>Option.isNone_iff_eq_none.mp (List.all_eq_true.mp hs y hy)) hr (fun σ' P' l F e=>q σ' P' (.inl ρ) .next l ⟨rfl,F,fun _ _=>rfl⟩ e) (fun v y σ' P' l ry e=>q σ' P' (.inr v) _ l ⟨y,rfl,ry⟩ e) 64 σ c.P .rfl c.F h)
end
end Wk
end
section
namespace Wk
open Mine (st sm H1 YP pw)
theorem on1_ok {α β:Type} {l:List β} {f:β→M α} {k:K α} {σ:zG} {r:Res} (h:on1 l f k σ=r) (hr:r≠none):∃x,l=[x]∧f x k σ=r:=by
 rcases l with _ | ⟨x,_ | ⟨y,l⟩⟩
 ·exact absurd h.symm hr
 ·exact ⟨x,rfl,h⟩
 ·exact absurd h.symm hr
theorem chk_ok {α:Type} {b:Bool} {m:M α} {k:K α} {σ:zG} {r:Res} (h:chk b m k σ=r) (hr:r≠none):b=true∧m k σ=r:=by
 cases b with
 | false=>exact absurd h.symm hr
 | true=>exact ⟨rfl,h⟩
theorem swaps_pure {elt:Expr} {gens:List Comprehension} {sc':Scope} {pos:Pos} {t:Expr} {n:Nat} {env:Env}:∃b,swapsWith (.ListComp elt gens sc' pos) (some t) n env=pure b:=by
 cases t<;>exact ⟨_,rfl⟩
noncomputable def SoundC (N:Nat) (I:Ev):Prop:=∀ {sc ρ w σ} (c:Ctx N sc ρ w σ) {t y p},WV y=false→Snd (FW sc c.env) c.A (fun k=>I.e sc y ρ fun v=>asg P0 sc I t v ρ fun ρ'=>k (Sum.inl ρ')) (exec (.Assign [t] y p) c.env) c.P (RE w sc c.env (zu t) ρ)
section
variable {N:Nat} {sc:Scope} {ρ:Loc} {w:World} {I0 I:Ev} {σ:zG} {cf:CF} (hE0:yl N I0.e) (hT0:jj N I0.t) (hE:yl N I.e) (hT:jj N I.t) (hC:SoundC N I) (hS:Ja N sc I.s) (hN:1≤N)
include hE0 hT0 hE hN
theorem compUse (c:Ctx N sc ρ w σ) {gs:List Comprehension} {elt t:Expr} {sc':Scope} {pos p:Pos}:Snd (FW sc c.env) c.A (fun k=>on1 gs (compM P0 sc I0 elt sc' ρ) fun v=>asg P0 sc I t v ρ fun ρ'=>k (Sum.inl ρ')) (exec (.Assign [t] (.ListComp elt gs sc' pos) p) c.env) c.P (RE w sc c.env (zu t) ρ):=by
 obtain ⟨b,hb⟩:=swaps_pure (elt:=elt) (gens:=gs) (sc':=sc') (pos:=pos) (t:=t) (n:=p.line) (env:=c.env)
 rw [WF,hb]
 cases b with
 | false=>exact .stand (.bn (g:=fun v k=>asg P0 sc I t v ρ fun ρ'=>k (Sum.inl ρ')) (f:=fun v=>swappedStores [t] (.ListComp elt gs sc' pos) c.env >>=fun sw=>assignStores c.env v sw ((assignEach [t] c.env).map (·.2))) (sComp hE0 hT0 hN c) fun _ P1 v a l1 r1=>sAsgE hE hN (c.nx P1 l1) (Bool.or_true _) r1)
 | true=>
  refine .stand fun k r h hr Q q=>?_
  obtain ⟨⟨tgt,iter,ifs,as⟩,rfl,h⟩:=on1_ok h hr
  obtain ⟨hok,h⟩:=chk_ok h hr
  obtain rfl:as=0:=(XQ hok).1.2.1
  refine wpAny_bind (wpAny_pure ?_)
  rw [if_pos rfl,evalUse rfl]
  refine wpAny_bind (wpAny_bind (comp_run (use:=some (uAll t c.env)) hE0 hT0 hN c hr hok h fun σ' P' v y L e hk=>?_))
  cases ht:tgtOk t with
  | false=>rw [asg_tgt ht] at hk; exact absurd hk.symm hr
  | true=>
   obtain ⟨m,n⟩:=e.ns
   have nL:¬FX c.env L:=fun z=>by
    obtain ⟨o,ho,-⟩:=c.F.obj z
    exact nN (e.dead.symm.trans ho)
   show wpAny _ _ (uAll t c.env y) _ _ _
   unfold uAll
   rw [each_one ht]
   refine sndAsg hE hN (c.nx P' e.le) e.r _ r hk hr _ fun σ3 P3 ρ1 _ l3 z3 h3=>?_
   obtain ⟨o,es,ep,ho,n⟩:=n
   have n3:P3.s.heap.Ns L m:=⟨o,es,ep,l3.x.keep L o ho e.f.1 fun z=>nL z.fx,n⟩
   refine ⟨m,n3,fun h' sb=>wpAny_pure (wpAny_pure ?_)⟩
   have b:Bt L P3 (P3.bt {P3.s with heap:=h'} (Uz n3) (fun b o n e=>(sb.2 b n).trans e) (l3.x.free e.f ho)):=⟨rfl,fun b o n e=>(sb.2 b n).trans e,Uz n3,rfl,rfl⟩
   exact q σ3 _ (.inl ρ1) .next (b.le (e.le.up.trans l3) e.dead) ⟨rfl,b.fr z3.F nL,z3.k⟩ h3
theorem stepE_comp (hI:I.e=stepE P0 cf I0):SoundC N I:=fun {sc ρ w σ} c {t y p} hy=>by
 rw [hI]
 cases y with
 | ListComp=>exact compUse hE0 hT0 hE hN c
 | SetComp | DictComp=>exact .no fun _=>rfl
 | _=>exact tf hy
omit hE0 hT0
include hT hC hS
theorem stepS_ok:Ja N sc (stepS P0 I sc):=by
 intro x ρ w σ c
 cases x with
 | Expr=>exact sExpr hE c
 | Pass=>exact fun k r e hr Q q=>wpAny_Pass (q σ c.P (.inl ρ) .next .rfl ⟨rfl,c.F,fun _ _=>rfl⟩ e)
 | Return y=>cases y with
  | none=>exact fun k r e hr Q q=>wpAny_Return_none (q σ c.P (.inr .none) _ .rfl ⟨_,rfl,rfl⟩ e)
  | some y=>exact sRet hE c
 | Assign ts y p=>
  refine .c1 fun t e=>.ck fun ht=>?_
  subst e
  show Snd _ _ _ _ _ (RE w sc c.env (zu t++[]) ρ)
  rw [List.append_nil]
  cases hc:WV y with
  | false=>exact hC c hc
  | true=>exact sAsg hE hN c hc ht
 | AugAssign tg op y p=>
  cases e:vw tg with
  | attr o a p'=>rw [JD e]; exact sAug hE hN c
  | _=>
   exact .no fun k=>congrFun (show augS P0 sc I tg op y ρ (fun ρ'=>k (Sum.inl ρ'))=jW by unfold augS; rw [e]) σ
 | If=>exact sIf hT hS c
 | For=>exact .c0 fun e=>by subst e; exact sFors hE hS hN c
 | While=>exact .c0 fun e=>by subst e; exact sWhile hT hS c
 | Try=>exact .c0 fun e=>by subst e; exact sTry hS c
 | Delete ts p=>
  refine .c1 fun t e=>?_
  subst e
  cases e:vw t with
  | sub o i=>
   obtain ⟨p',rfl⟩:=JD e
   exact sDel hE hN c
  | _=>
   exact .no fun k=>congrFun (show delS sc I t (k (Sum.inl ρ)) ρ=jW by unfold delS; rw [e]) σ
 | _=>exact .no fun _=>rfl
end
end Wk
end
section
namespace Wk
open Mine (st sm H1 YP pw zc jJ YB zn)
theorem bindL_out {f:Str→Option NameKind} {x:Str} {bs:List (Str×Value)}:∀ {m:Str→Option Value},x∉bs.map (·.1)→bindL f bs m x=m x:=by
 induction bs with
 | nil=>exact fun {_} _=>rfl
 | cons e r ih=>
  intro m h
  rw [List.map_cons,List.mem_cons,not_or] at h
  rw [bindL,ih h.2]
  split
  ·exact if_neg h.1
  ·rfl
theorem bindC_out {f:Str→Option NameKind} {x:Str} {bs:List (Str×Value)}:∀ {m:Str→Option Value},x∉bs.map (·.1)→bindC f bs m x=m x:=by
 induction bs with
 | nil=>exact fun {_} _=>rfl
 | cons e r ih=>
  intro m h
  rw [List.map_cons,List.mem_cons,not_or] at h
  rw [bindC,ih h.2]
  split
  ·rfl
  ·exact if_neg h.1
theorem bindL_get {f:Str→Option NameKind} {x:Str} {y:Value} (hx:f x=some .local) {bs:List (Str×Value)}:∀ {m:Str→Option Value},(bs.map (·.1)).Nodup→(x,y)∈bs→bindL f bs m x=some y:=by
 induction bs with
 | nil=>exact fun {_} _ h=>nomatch h
 | cons e r ih=>
  intro m nd h
  rw [List.map_cons,List.nodup_cons] at nd
  rw [bindL]
  rcases List.mem_cons.mp h with h | h
  ·subst h
   rw [bindL_out nd.1,if_pos hx]
   exact if_pos rfl
  ·exact ih nd.2 h
theorem bindC_get {f:Str→Option NameKind} {x:Str} {y:Value} (hx:f x≠some .local) {bs:List (Str×Value)}:∀ {m:Str→Option Value},(bs.map (·.1)).Nodup→(x,y)∈bs→bindC f bs m x=some y:=by
 induction bs with
 | nil=>exact fun {_} _ h=>nomatch h
 | cons e r ih=>
  intro m nd h
  rw [List.map_cons,List.nodup_cons] at nd
  rw [bindC]
  rcases List.mem_cons.mp h with h | h
  ·subst h
   rw [bindC_out nd.1,if_neg hx]
   exact if_pos rfl
  ·exact ih nd.2 h
theorem cells_some {x:Str} {names:List (Str×NameKind)}:∀ {n:Nat} {acc:List (Str×Addr)},((x,NameKind.cell)∈names∨(acc.lookup x).isSome=true)→((cellsFrom n names acc).lookup x).isSome=true:=by
 induction names with
 | nil=>exact fun {_ _} h=>h.resolve_left fun h=>nomatch h
 | cons e r ih=>
  intro n acc h
  obtain ⟨y,k⟩:=e
  unfold cellsFrom
  split
  ·rename_i hk
   refine ih ?_
   rw [List.lookup_cons]
   rcases h with h | h
   ·rcases List.mem_cons.mp h with e | h
    ·cases e
     exact .inr (by rw [beq_self_eq_true]; rfl)
    ·exact .inl h
   ·refine .inr ?_
    split
    ·rfl
    ·exact h
  ·rename_i hk
   exact ih (h.imp (fun h=>(List.mem_cons.mp h).resolve_left fun e=>hk (by cases e; rfl)) id)
theorem Qu {x:Str} {names:List (Str×NameKind)} {n:Nat} (h:zO x names=some .cell):∃c,(cellsFrom n names []).lookup x=some c:=Option.isSome_iff_exists.mp (cells_some (.inl (ZW h)))
theorem binds_zip {ds:List Expr} {ps:List Arg}:∀ {vs:List V} {ρ:Loc},uL ds ps vs=some ρ→∃us,ρ=(ps.map (·.arg)).zip us∧us.length=ps.length∧(us=vs∨∃u,dfltV ds=some u∧us=vs++[u]):=by
 induction ps with
 | nil=>
  intro vs ρ h
  cases vs with
  | nil=>cases h; exact ⟨[],rfl,rfl,.inl rfl⟩
  | cons=>cases h
 | cons p ps ih=>
  intro vs ρ h
  cases vs with
  | nil=>cases ps with
   | nil=>
    obtain ⟨u,hu,rfl⟩:=Option.map_eq_some_iff.mp h
    exact ⟨[u],rfl,rfl,.inr ⟨u,hu,rfl⟩⟩
   | cons=>cases h
  | cons v vs=>
   obtain ⟨ρ',h',rfl⟩:=Option.map_eq_some_iff.mp h
   obtain ⟨us,rfl,e2,e3⟩:=ih h'
   exact ⟨v::us,rfl,congrArg (·+1) e2,e3.imp (fun e=>by rw [e]) fun ⟨u,a,b⟩=>⟨u,a,by rw [b]; rfl⟩⟩
theorem lookK_zip {x:Str} {v:V} {ns:List Str}:∀ {us:List V},zO x (ns.zip us)=some v→∃j:Nat,ns[j]? =some x∧us[j]? =some v:=by
 induction ns with
 | nil=>exact fun {_} h=>nN h
 | cons n ns ih=>
  intro us h
  cases us with
  | nil=>exact nN h
  | cons u us=>
   rw [List.zip_cons_cons,yj] at h
   by_cases e:x=n
   ·rw [if_pos e] at h; exact ⟨0,by rw [e]; rfl,h⟩
   ·rw [if_neg e] at h
    obtain ⟨j,a,b⟩:=ih h
    exact ⟨j+1,a,b⟩
noncomputable def flowV (f:Flow):Value:=match f with
 | .ret y=>y
 | _=>.none
section
variable {w:World} {A:Around} {σ:zG} {P:Sx w σ} {i:Nat} {vs:List V} {xs:List Value} {ρ:Loc} (hi:i < 85) (rl:P.RL vs xs)
include rl
theorem frame_vals {d:Stmt} {fa:Addr} {q:Str} {dV pm cd:Value} (F:Fn w.params fa d q dV pm cd) (hb:uL (jJ d).defaults (jJ d).args vs=some ρ):∃us ys,ρ=(yB d).zip us∧P.RL us ys∧BindsTo P.s (fdOf d q dV pm cd) ⟨xs,[]⟩ ((yB d).zip ys)∧ys.length=(yB d).length:=by
 obtain ⟨us,hρ,hl,hu⟩:=binds_zip hb
 have hl:us.length=(yB d).length:=hl.trans (List.length_map _).symm
 have hx:=za.length rl
 rcases hu with rfl | ⟨u,hu,rfl⟩
 ·exact ⟨us,xs,hρ,rl,F.b0 xs (hx.trans hl) P.s P.S.base,hx.trans hl⟩
 ·obtain ⟨y,ry,hb⟩:=F.b1 u hu
  rw [List.length_append] at hl
  have hl:xs.length+1=(yB d).length:=hx▸hl
  exact ⟨_,xs++[y],hρ,za.append rl ⟨y,[],rfl,ry _ _,rfl⟩,hb xs hl P.s P.S.base,by rw [List.length_append]; exact hl⟩
end
theorem noLimit {w:World} {σ:zG} (P:Sx w σ):P.s.heap.NoLimit:=by
 refine ⟨fun x=>nsFind #[Mine.E w.params "type.__subclasses__.Exception.0" 587 (Mine.J 80),Mine.E w.params "type.__subclasses__.Exception.n" 588 (Mine.J 1)] x,⟨_,_,_,P.S.base cStatics (Mine.dic Mine.N [Mine.E w.params "type.__subclasses__.Exception.0" 587 (Mine.J 80),Mine.E w.params "type.__subclasses__.Exception.n" 588 (Mine.J 1)] 2) (by kernel_rfl),rfl,?_,fun _=>rfl⟩,by kernel_rfl⟩
 intro e he
 simp at he
 rcases he with rfl | rfl<;>exact ⟨_,_,rfl⟩
end Wk
end
section
namespace Wk
open Mine (st sm H1 YP pw zc jJ YB zn)
section
variable {w:World} {A:Around} {σ:zG} {P:Sx w σ} {fa:Addr} {d:Stmt} {q:Str} {dV pm cd:Value} {vs us:List V} {xs ys:List Value} {ρ:Loc}
structure NewFr (P:Sx w σ) (d:Stmt) (bs:List (Str×Value)) (env:Env):Prop where
 k:env.scope=zn d
 L:env.locals=P.s.heap.objs.size
 c:env.cells=cellsFrom (P.s.heap.objs.size+1) (zn d).names []
 g:env.globals=mainGlobals∧env.builtins=builtinsNs
theorem new_fr (F:Fn w.params fa d q dV pm cd) {env:Env} {s₁:Shared} (E:NewFr P d ((yB d).zip ys) env) (x:InCallC P.s env.locals (bindL env.kindOf ((yB d).zip ys) fun _=>none) env.cells (bindC env.kindOf ((yB d).zip ys) fun _=>none) s₁) (hl:ys.length=(yB d).length) (ry:P.RL us ys) (hρ:ρ=(yB d).zip us):
  Fr w (zn d) env ρ P.φ s₁.heap∧∀b,FX env b→P.s.heap.get? b=none:=by
 have ek:∀ {n k},zO n (zn d).names=some k→env.kindOf n=some k:=fun {n k} h=>by unfold Env.kindOf; rw [E.k,← YX]; exact h
 have cl:∀ {n},zO n (zn d).names=some .cell→∃c,env.cells.lookup n=some c:=fun h=>by rw [E.c]; exact Qu h
 have fx:∀b,FX env b→P.s.heap.get? b=none:=fun b hb=>by
  rcases hb with rfl | ⟨n,hn⟩
  ·rw [E.L]; exact P.fresh (Nat.le_refl _)
  ·have:=x.above n b (mem_of_lookup hn)
   rw [E.L] at this
   exact P.fresh (Nat.le_of_lt this)
 have nofree:∀n,zO n (zn d).names≠some .free:=fun n e=>no (F.all _ (ZW e))
 refine ⟨⟨⟨by rw [E.k]; exact F.kind,E.g.1,E.g.2,fun _=>ek,fun _=>ek,fun n e=>⟨ek e,cl e⟩,fun n e=>(nofree n e).elim,fun n m c h1 h2=>name_of_addr x.apart (mem_of_lookup h1) (mem_of_lookup h2)⟩,⟨_,x.toInCall.ns⟩,fun n c hc=>⟨_,x.cell n c hc⟩,fun b hb=>P.S.free (fx b hb),fun n u i e=>?_⟩,fx⟩
 rw [hρ] at e
 obtain ⟨j,a,b⟩:=lookK_zip e
 obtain ⟨y,hy,ryj⟩:=za.get ry b
 have hz:(n,y)∈(yB d).zip ys:=List.mem_of_getElem? (i:=j) (List.getElem?_zip_eq_some.mpr ⟨a,hy⟩)
 have nd:(((yB d).zip ys).map (·.1)).Nodup:=by rw [List.map_fst_zip (Nat.le_of_eq hl.symm)]; exact F.names
 refine ⟨y,?_,(zo.gen List.prefix_rfl fun b o _=>x.toInCall.keep b o).1 _ _ ryj⟩
 obtain ⟨k,hk,hb⟩:=F.kinds n (List.mem_of_getElem? a)
 cases k<;>try (exact no hb)
 ·exact .loc _ (ek hk) x.toInCall.ns (bindL_get (ek hk) nd hz)
 ·obtain ⟨c,hc⟩:=cl hk
  have:=x.cell n c hc
  rw [bindC_get (fun h=>nomatch (ek hk).symm.trans h) nd hz] at this
  exact .cell c (.inl (ek hk)) hc this
theorem sndFrame (F:Fn w.params fa d q dV pm cd) (hb:uL (jJ d).defaults (jJ d).args vs=some ρ) (rl:P.RL vs xs) (hroom:A.depth < recursionLimit) {m:M V} (h:∀env (P1:Sx w σ),Fr w (zn d) env ρ P1.φ P1.s.heap→Snd (FW (zn d) env) (A.deeper env) m (execs (YB d) env) P1 fun _ P v f=>P.R v (flowV f)):SndC A m (.call (.ref fa) ⟨xs,[]⟩) P:=fun k r e hr R q0=>by
 obtain ⟨us,ys,hρ,ry,hbd,hl⟩:=frame_vals rl F hb
 refine codeAny_call_function (fd:=fdOf d q dV pm cd) (body:=YB d) hroom (P.S.base _ _ F.obj) rfl F.plain.1 F.plain.2 rfl (F.code.keeps P.S.base) (hbd _ _ _ _ ?_)
 refine wpAny_newFunctionEnv_cells F.kind (fun x hx=>?_) fun env he s₁ x=>⟨(noLimit P).keeps x.toInCall.keep,codeAny_func ?_⟩
 ·obtain ⟨k,hk,hb⟩:=F.kinds x.1 (List.of_mem_zip (a:=x.1) (b:=x.2) hx).1
  cases k<;>try (exact no hb)
  ·exact .inl ((YX _ _).symm.trans hk)
  ·obtain ⟨c,hc⟩:=Qu (n:=P.s.heap.objs.size+1) hk
   exact .inr ⟨(YX _ _).symm.trans hk,by rw [show (fdOf d q dV pm cd).scope=zn d from rfl,hc]; rfl⟩
 ·have E:NewFr P d ((yB d).zip ys) env:=by subst he; exact ⟨rfl,rfl,rfl,rfl,rfl⟩
  clear he
  obtain ⟨F1,fx⟩:=new_fr F E x hl ry hρ
  have g:s₁.gens=P.s.gens∧s₁.os=P.s.os:=by obtain ⟨_,_,e⟩:=x.toInCall.same; rw [e]; exact ⟨rfl,rfl⟩
  exact wpAny_mono (h env (P.mr s₁ x.toInCall.keep) F1 k r e hr _ fun σ2 P2 v f l2 z e2=>q0 σ2 P2 v _ ((Sx.mrL x.toInCall.keep g.1 g.2).drop l2 fun b hb=>fx b hb.fx) z e2) (fun f s z=>z) fun _ _ z=>z.elim
end
section
variable {N M':Nat} {cf:CF} {sc:Scope}
theorem ev_ok (hN:1≤N) (hM:M'+1≤N) (hcf:OkC M' cf) (n:Nat):(yl N (ev P0 cf sc n).e∧jj N (ev P0 cf sc n).t)∧SoundC N (ev P0 cf sc n)∧Ja N sc (ev P0 cf sc n).s:=by
 induction n with
 | zero=>exact ⟨⟨fun _=>.fail,fun _=>.fail⟩,fun {_ _ _ _} _ {_ _ _} _=>.no fun _=>rfl,fun {_ _ _ _} _=>.no fun _=>rfl⟩
 | succ n ih=>
  obtain ⟨⟨hE,hT⟩,hC,hS⟩:=ih
  have hE':yl N (stepE P0 cf (ev P0 cf sc n)):=stepE_ok hE hT hN hM hcf
  exact ⟨⟨hE',stepT_ok hE hT hN⟩,stepE_comp (cf:=cf) (I:=ev P0 cf sc (n+1)) hE hT hE' hN rfl,stepS_ok hE hT hC hS hN⟩
theorem jO.deeper {A:Around} {env:Env} (ro:jO A (N+1)):jO (A.deeper env) N:=⟨ro.handled,by
  have:=ro.depth
  show A.depth+1+3*N < 900
  lia,by
  have:=ro.units
  show A.units+3+24*N+200 < 9000
  lia⟩
theorem callN_ok (n:Nat):OkC (2*n) (zA n):=by
 induction n with
 | zero=>exact fun A P i vs xs fa hfa ro rl k r h hr=>absurd h.symm hr
 | succ n ih=>
  intro w σ A P i vs xs fa hfa ro rl k r h hr
  obtain ⟨hi,rfl⟩:=fa_eq hfa
  change (match defAt i with | some d=>zQ P0 (zA n) d vs | none=>fail) k σ=r at h
  cases hd:defAt i with
  | none=>rw [hd] at h; exact absurd h.symm hr
  | some d=>
   rw [hd] at h
   have F:=fn_all w.params hi
   rw [show dOf i=d by unfold dOf; rw [hd]; rfl] at F
   obtain ⟨ρ,hb,h⟩:=JI (show ZA (uL (jJ d).defaults (jJ d).args vs) _ σ=r from h) hr
   refine sndFrame (m:=fun k=>evB (ev P0 (zA n) (zn d) 24).s (YB d) ρ (fun _=>k .none) k) F hb rl (Nat.lt_of_le_of_lt (Nat.le_add_right _ _) (Nat.lt_trans ro.depth (by decide))) (fun env P1 F1 k r h hr Q q=>?_) k r h hr
   have S:Ja (2*n+1) (zn d) (ev P0 (zA n) (zn d) 24).s:=(ev_ok (N:=2*n+1) (M':=2*n) (sc:=zn d) (Nat.succ_le_succ (Nat.zero_le _)) (Nat.le_refl _) ih 24).2.2
   refine Ud S (⟨A.deeper env,env,P1,ro.deeper,F1⟩:Ctx (2*n+1) (zn d) ρ w σ) (Sum.elim (fun _=>k .none) k) r h hr Q fun σ2 P2 e f l2 z e2=>?_
   cases e with
   | inl ρ2=>
    obtain ⟨rfl,-⟩:=z
    exact q σ2 P2 .none .next l2 rfl e2
   | inr v=>
    obtain ⟨y,rfl,ry⟩:=z
    exact q σ2 P2 v (.ret y) l2 ry e2
end
end Wk
end
section
namespace Wk
open Mine (st sm H1 YP pw jJ YB zn We qv loose lw)
open Mine (st sm H1 YP pw jJ YB zn We qv loose lw)
noncomputable def notList (o:Obj):Bool:=!clsT "list" o.cls
theorem noList (P:Params):(Mine.l_o P).all notList=true:=by kernel_rfl
theorem get_mem {h:Heap} {b:Addr} {o:Obj} (e:h.get? b=some o):o∈h.objs.toList:=by
 unfold Heap.get? at e
 refine Array.mem_toList_iff.mpr (Array.mem_of_getElem? (i:=b) ?_)
 cases q:h.objs[b]? with
 | none=>rw [q] at e; cases e
 | some o'=>
  rw [q] at e
  obtain ⟨c,d,dt,sl⟩:=o'
  cases dt<;>first | exact e | cases e
theorem none_of_list {w:World} {h:Heap} {b:Addr} {o:Obj} (Y:YP w h) (ho:h.get? b=some o) (hc:o.cls=.type "list"):(H1 w.params).get? b=none:=by
 cases e:(H1 w.params).get? b with
 | none=>rfl
 | some o'=>
  obtain rfl:=Option.some.inj (ho.symm.trans (Y b o' e))
  have:=List.all_eq_true.mp (noList w.params) o (get_mem e)
  unfold notList at this
  rw [hc] at this
  cases this
theorem ns_of {K:Frag} {h:Heap} {ns:Addr} {name:Str} {v:Value} {mg:Str→Option Value} (x:K.In h) (e:nsIn K ns name=some (some v)) (g:h.Ns ns mg):mg name=some v:=by
 obtain ⟨o,es,ep,ho,hd,-,hm⟩:=g
 unfold nsIn at e
 cases hk:K.lookup ns with
 | none=>rw [hk] at e; cases e
 | some o'=>
  rw [hk] at e
  obtain rfl:o=o':=Option.some.inj (ho.symm.trans (x _ _ hk))
  obtain ⟨c,d,dt,sl⟩:=o
  obtain rfl:dt=.dict es ep:=hd
  rw [← hm]
  unfold nsFind findBy
  rw [← Array.find?_toList]
  dsimp only at e
  cases hf:es.toList.find? (·.key.isStr name) with
  | some en=>rw [hf] at e; exact Option.some.inj e
  | none=>
   rw [hf] at e
   dsimp only at e
   by_cases q:(es.toList.any fun x=>x.refKey)=true
   ·rw [if_pos q] at e; cases e
   ·rw [if_neg q] at e; cases e
theorem repl_ints {P:Params} {φ:Phi} {h:Heap} {vs:List Value} {ns:List Int} (i:IntsAre vs ns):za P φ h (ns.map V.int) vs:=by
 induction i with
 | nil=>rfl
 | cons n t _ ih=>exact ⟨_,_,rfl,⟨t,rfl⟩,ih⟩
noncomputable def Q0 (n:Nat):Prop:=∀ (ns:List Int) (ob:Obj),ns.length≤63→∃σ',zA n 84 [.ref 0] (fun v σ=>some (v,σ)) [.lit ob (ns.map V.int)]=some (.bool true,σ')∧σ'[0]? =some (.lit ob (ns.map V.int))
theorem law_get:P0.get (nS "law")=some (.fn 84):=by kernel_rfl
theorem walk_of {n:Nat} (hn:n≤90) (H:Q0 n):WalkO qv loose (fun _ _=>True) YP lw.row.toRowW We [] fun f vs=>PySem.call f vs:=by
 intro w s₀ s₁ mg mb G YY fa o pm cd doc dV kV ho hd hcd hD hmg hg args vals as hpre hlay hrd hwl hlo
 refine Ground.open G ?_
 intro T B D TE TW
 clear D
 wrow_args hpre hlay hrd hwl hlo
 rename_i ns hs hl0 hl hr hl2 a1 a2 L vs a3 hL ra w1 r0 hI hrA hc1 hc2
 obtain ⟨ob,hob,hcl,kk,hdt⟩:=id hL
 have hlen:ns.length≤63:=by lia
 obtain ⟨σ',hσ,hσ0⟩:=H ns ob hlen
 obtain ⟨fa',hfa,hns⟩:=glob_fn w.params law_get
 have e1:mg We.name=some (.ref fa'):=ns_of (Jb YY) (show nsIn (KG w.params) mainGlobals We.name=_ from hns) T.g
 rw [hmg] at e1
 obtain rfl:fa=fa':=by injection e1 with e1; injection e1
 have oL:=none_of_list YY hob hcl
 have S:Sim w [(L,L)] [.lit ob (ns.map V.int)] s₁.heap:=by
  refine ⟨YY,rfl,fun n o e=>?_,fun i j p q hi hj _=>?_,fun p hp=>?_⟩
  ·cases n with
   | zero=>
    simp at e; subst e
    exact ⟨(L,L),rfl,rfl,hob,hcl,_,kk,hdt,repl_ints hI⟩
   | succ n=>simp at e
  ·cases i with
   | zero=>cases j with
    | zero=>rfl
    | succ j=>simp at hj
   | succ i=>simp at hi
  ·simp at hp; subst hp; exact ⟨oL,oL⟩
 have ro:jO callerA (2*n):=by
  refine ⟨rfl,?_,?_⟩
  ·show 1+300+3*(2*n) < 900; lia
  ·show 4+24*(2*n)+200 < 9000; lia
 show wpAny _ callerA (call (.ref fa) [.ref L]) _ _ s₁
 refine wpAny_mono ((callN_ok n callerA ⟨_,s₁,S⟩ 84 [.ref 0] [.ref L] fa hfa ro ⟨_,[],rfl,⟨(L,L),rfl,rfl⟩,rfl⟩).call (fun v σ=>some (v,σ)) _ hσ (fun h=>nomatch h) _ fun σ2 P2 v y l2 z e2=>?_) (fun _ _ z=>z) fun _ _ z=>z.elim
 obtain ⟨rfl,rfl⟩:=Prod.mk.inj (Option.some.inj e2)
 obtain ⟨φ',s',S'⟩:=P2
 obtain ⟨x',m'⟩:=l2
 change Ext Nox [(L,L)] s₁.heap φ' s'.heap at x'
 obtain rfl:y=.bool true:=z
 have keep:∀b o,s₁.heap.get? b=some o→s'.heap.get? b=some o:=fun b o e=>by
  by_cases q:b=L
  ·subst q
   obtain ⟨p,hp,-,h1,-⟩:=S'.objs 0 _ hσ0
   obtain ⟨t,ht⟩:=x'.pre
   rw [← ht] at hp
   simp at hp
   subst hp
   rw [hob] at e
   obtain rfl:=Option.some.inj e
   exact h1
  ·refine x'.keep b o e (fun z=>?_) fun z=>z
   obtain ⟨p,hp,z⟩:=z
   simp at hp
   subst hp
   rcases z with z | z<;>exact q z
 exact ⟨.inl ⟨.bool true,.bool true,[],rfl,fun _=>rfl,.bool true,by wrow_post,fun _=>⟨List.nodup_nil,fun a ha=>by cases ha⟩⟩,OldK.of_keep keep,m'.os,AllBare.of_eq (m'.gens.trans hg)⟩
theorem holds_of {n:Nat} (hn:n≤90) (H:Q0 n):PySem.Challenge.rw_qd0083_01.Holds:=Mine.top_of (walk_of hn H)
end Wk
end
section
namespace Wk
section
variable {σ:zG} {k:K V}
theorem s_o {α:Type} {n:Nat} {o:O} {f:O→M α} {k:K α} (h:σ[n]? =some o):onO n f k σ=f o k σ:=by unfold onO; rw [h]; rfl
theorem yo {α:Type} {p:Prop} [Decidable p] {m:M α} {k:K α} (h:p):when p m k σ=m k σ:=if_pos h
theorem Uj {α β:Type} {o:Option β} {x:β} {f:β→M α} {k:K α} (h:o=some x):ya o f k σ=f x k σ:=by rw [h]; rfl
theorem s_ck {α:Type} {b:Bool} {m:M α} {k:K α} (h:b=true):chk b m k σ=m k σ:=by rw [h]; rfl
theorem s_bi {α:Type} {b:Bool} {x y:M α} {k:K α} (h:b=true):bi b x y k σ=x k σ:=by rw [h]; rfl
theorem s_bj {α:Type} {b:Bool} {x y:M α} {k:K α} (h:b=false):bi b x y k σ=y k σ:=by rw [h]; rfl
theorem s_eqP {a b:V} {kb:K Bool} (h:eqOk a b=true):eqP a b kb σ=kb (eqV a b) σ:=yo h
theorem eqV_str {a b:Str}:eqV (.str a) (.str b)=decide (a=b):=Bool.eq_iff_iff.mpr (eqI.trans (Iff.trans ⟨V.str.inj,congrArg _⟩ decide_eq_true_iff.symm))
theorem s_neG {a b:V} (h:eqOk a b=true):zL .NotEq a b k σ=k (.bool (!eqV a b)) σ:=by
 unfold zL
 cases a<;>first | exact s_eqP (kb:=fun r=>k (.bool (!r))) h | exact no (zW (zW (zW h).1).1).1
theorem s_eqG {a b:V} (h:eqOk a b=true):zL .Eq a b k σ=k (.bool (eqV a b)) σ:=by
 unfold zL
 cases a<;>first | exact s_eqP (kb:=fun r=>k (.bool r)) h | exact no (zW (zW (zW h).1).1).1
theorem s_add (x y:Int):zT .Add (.int x) (.int y) k σ=k (.int (x+y)) σ:=rfl
theorem s_sub (x y:Int):zT .Sub (.int x) (.int y) k σ=k (.int (x - y)) σ:=rfl
theorem s_and (x y:Int):zT .BitAnd (.int x) (.int y) k σ=k (.int (Builtin.bitAnd x y)) σ:=rfl
theorem s_or (x y:Int):zT .BitOr (.int x) (.int y) k σ=k (.int (Builtin.bitOr x y)) σ:=rfl
theorem s_mul {x y:Int} (h:x.natAbs < 2^60∧y.natAbs < 2^60):zT .Mult (.int x) (.int y) k σ=k (.int (x*y)) σ:=if_pos h
theorem s_mod {x y:Int} (h:y≠0):zT .Mod (.int x) (.int y) k σ=k (.int (x.fmod y)) σ:=yo h
theorem s_fdiv {x y:Int} (h:y≠0∧y.natAbs < 1073741824):zT .FloorDiv (.int x) (.int y) k σ=k (.int (x.fdiv y)) σ:=if_pos h
theorem s_shr {x y:Int} (h:0≤y):zT .RShift (.int x) (.int y) k σ=k (.int (x.fdiv (2^y.toNat))) σ:=if_pos h
theorem s_addT {x y:List V} (h:x.length+y.length < 1000000):zT .Add (.tup x) (.tup y) k σ=k (.tup (x++y)) σ:=if_pos h
theorem WS {m n:Nat} {x y:List V} (hm:σ[m]? =some (.list x)) (hn:σ[n]? =some (.list y)) (h:x.length+y.length < 1000000):zT .Add (.ref m) (.ref n) k σ=k (.ref σ.length) (σ++[.list (x++y)]):=(s_o hm).trans ((s_o hn).trans (yo h))
theorem s_mulL {m:Nat} {x:V} {y:Int} (hm:σ[m]? =some (.list [x])) (h:0≤y∧y < 16):zT .Mult (.ref m) (.int y) k σ=k (.ref σ.length) (σ++[.list (List.replicate y.toNat x)]):=(s_o hm).trans (yo h)
theorem s_neg (x:Int):pUn .USub (.int x) k σ=k (.int (-x)) σ:=rfl
theorem s_inv (x:Int):pUn .Invert (.int x) k σ=k (.int (Builtin.bitNot x)) σ:=rfl
theorem s_lt (x y:Int):pLt (.int x) (.int y) k σ=k (.bool (decide (x < y))) σ:=rfl
theorem s_le (x y:Int):pLe (.int x) (.int y) k σ=k (.bool (decide (x≤y))) σ:=rfl
theorem s_gt (x y:Int):pGt (.int x) (.int y) k σ=k (.bool (decide (x > y))) σ:=rfl
theorem s_ge (x y:Int):pGe (.int x) (.int y) k σ=k (.bool (decide (x≥y))) σ:=rfl
theorem ym (x y:Int):zL .Eq (.int x) (.int y) k σ=k (.bool (decide (x=y))) σ:=(s_eqG rfl).trans (congrArg (fun b=>k (.bool b) σ) WG)
theorem ZB (x y:Int):zL .NotEq (.int x) (.int y) k σ=k (.bool (!decide (x=y))) σ:=(s_neG rfl).trans (congrArg (fun b=>k (.bool (!b)) σ) WG)
theorem s_is (x:V):pIs x .none k σ=k (.bool (isNone x)) σ:=rfl
theorem jp (x:V):Ym x .none k σ=k (.bool (!isNone x)) σ:=rfl
theorem s_tb {b:Bool} {kb:K Bool}:zE (.bool b) kb σ=kb b σ:=rfl
theorem s_ti {i:Int} {kb:K Bool}:zE (.int i) kb σ=kb (i !=0) σ:=rfl
theorem s_tl {n:Nat} {l:List V} {kb:K Bool} (h:σ[n]? =some (.list l)) (hl:l.length < 2^40):zE (.ref n) kb σ=kb (!l.isEmpty) σ:=(s_o h).trans (yo hl)
theorem s_ift {x y:C}:pIf true x y σ=x σ:=rfl
theorem s_iff {x y:C}:pIf false x y σ=y σ:=rfl
theorem ZY {o:O}:zU o k σ=k (.ref σ.length) (σ++[o]):=rfl
theorem wu {i n:Nat} (h:i < n) (hn:n < 2^40):wv (i:Int) n=some i:=by
 unfold wv
 rw [if_neg (by lia),if_pos (by lia),if_pos (by lia)]; rfl
theorem YJ {n i:Nat} {l:List V} {v:V} (h:σ[n]? =some (.list l)) (hv:l[i]? =some v) (hl:l.length < 2^40):zC (.ref n) (.int (i:Int)) k σ=k v σ:=(s_o h).trans (Uj (by rw [wu (List.getElem?_eq_some_iff.mp hv).1 hl]; exact hv))
theorem YI {i:Nat} {l:List V} {v:V} (hv:l[i]? =some v) (hl:l.length < 2^40):zC (.tup l) (.int (i:Int)) k σ=k v σ:=Uj (by rw [wu (List.getElem?_eq_some_iff.mp hv).1 hl]; exact hv)
theorem s_t0 {a:V} {l:List V} (hl:l.length < 1000):zC (.tup (a::l)) (.int 0) k σ=k a σ:=YI (i:=0) rfl (by simp; lia)
theorem XC {a b:V} {l:List V} (hl:l.length < 1000):zC (.tup (a::b::l)) (.int 1) k σ=k b σ:=YI (i:=1) rfl (by simp; lia)
theorem s_t2 {a b c:V} {l:List V} (hl:l.length < 1000):zC (.tup (a::b::c::l)) (.int 2) k σ=k c σ:=YI (i:=2) rfl (by simp; lia)
theorem s_t3 {a b c d:V} {l:List V} (hl:l.length < 1000):zC (.tup (a::b::c::d::l)) (.int 3) k σ=k d σ:=YI (i:=3) rfl (by simp; lia)
theorem s_t4 {a b c d e:V} {l:List V} (hl:l.length < 1000):zC (.tup (a::b::c::d::e::l)) (.int 4) k σ=k e σ:=YI (i:=4) rfl (by simp; lia)
theorem s_t5 {a b c d e f:V} {l:List V} (hl:l.length < 1000):zC (.tup (a::b::c::d::e::f::l)) (.int 5) k σ=k f σ:=YI (i:=5) rfl (by simp; lia)
theorem s_l0 {n:Nat} {a:V} {l:List V} (h:σ[n]? =some (.list (a::l))) (hl:l.length < 1000):zC (.ref n) (.int 0) k σ=k a σ:=YJ (i:=0) h rfl (by simp; lia)
theorem s_l1 {n:Nat} {a b:V} {l:List V} (h:σ[n]? =some (.list (a::b::l))) (hl:l.length < 1000):zC (.ref n) (.int 1) k σ=k b σ:=YJ (i:=1) h rfl (by simp; lia)
theorem s_l2 {n:Nat} {a b c:V} {l:List V} (h:σ[n]? =some (.list (a::b::c::l))) (hl:l.length < 1000):zC (.ref n) (.int 2) k σ=k c σ:=YJ (i:=2) h rfl (by simp; lia)
theorem s_l3 {n:Nat} {a b c d:V} {l:List V} (h:σ[n]? =some (.list (a::b::c::d::l))) (hl:l.length < 1000):zC (.ref n) (.int 3) k σ=k d σ:=YJ (i:=3) h rfl (by simp; lia)
theorem s_setL {n i:Nat} {l:List V} {v:V} {c:C} (h:σ[n]? =some (.list l)) (hi:i < l.length) (hl:l.length < 2^40):zV (.ref n) (.int (i:Int)) v c σ=c (σ.set n (.list (l.set i v))):=(s_o h).trans (yo ⟨Int.natCast_nonneg i,Int.ofNat_lt.mpr hi,hl⟩)
theorem s_set0 {n:Nat} {a:V} {l:List V} {v:V} {c:C} (h:σ[n]? =some (.list (a::l))) (hl:l.length < 1000):zV (.ref n) (.int 0) v c σ=c (σ.set n (.list (v::l))):=s_setL (i:=0) h (ltb rfl) (by simp; lia)
theorem s_set1 {n:Nat} {a b:V} {l:List V} {v:V} {c:C} (h:σ[n]? =some (.list (a::b::l))) (hl:l.length < 1000):zV (.ref n) (.int 1) v c σ=c (σ.set n (.list (a::v::l))):=s_setL (i:=1) h (ltb rfl) (by simp; lia)
theorem s_set2 {n:Nat} {a b d:V} {l:List V} {v:V} {c:C} (h:σ[n]? =some (.list (a::b::d::l))) (hl:l.length < 1000):zV (.ref n) (.int 2) v c σ=c (σ.set n (.list (a::b::v::l))):=s_setL (i:=2) h (ltb rfl) (by simp; lia)
theorem XD {n:Nat} {l:List (V×V)} {e:Option Nat} {i v:V} {c:C} (h:σ[n]? =some (.dict l e)) (hk:yP i l=true) (hl:l.length < 1000000):zV (.ref n) i v c σ=c (σ.set n (.dict (ZH i v l) e)):=(s_o h).trans (yo ⟨hk,hl⟩)
theorem s_getD {n:Nat} {l:List (V×V)} {e:Option Nat} {i v:V} (h:σ[n]? =some (.dict l e)) (hk:yP i l=true) (hv:yk i l=some v):zC (.ref n) i k σ=k v σ:=(s_o h).trans ((yo hk).trans (Uj hv))
theorem yQ {n c:Nat} {fs:List (Str×V)} {x:Str} {v:V} (h:σ[n]? =some (.inst c fs)) (ha:WN P0 c x=true) (hv:zO x fs=some v):zD P0 (.ref n) x k σ=k v σ:=(s_o h).trans ((s_ck ha).trans (Uj hv))
theorem WR {n c:Nat} {fs:List (Str×V)} {x:Str} {v:V} {kc:C} (h:σ[n]? =some (.inst c fs)) (ha:WN P0 c x=true) (hl:fs.length < 900):zK P0 (.ref n) x v kc σ=kc (σ.set n (.inst c (ZJ x v fs))):=(s_o h).trans ((s_ck ha).trans (yo hl))
theorem yd {n:Nat} {l:List V} {kb:K BM} (h:σ[n]? =some (.list l)):zR P0 (.ref n) (nS "append") kb σ=kb (.append n) σ:=(s_o h).trans (show uM (nS "append") "append" (.append n) (.pop n) kb σ=_ from s_bi (Fast.sEq_iff.mpr rfl))
theorem s_bindF {n c i:Nat} {fs:List (Str×V)} {x:Str} {r:Zm} {kb:K BM} (h:σ[n]? =some (.inst c fs)) (hx:zO x fs=none) (hr:P0.cls[c]? =some r) (hm:zO x r.meths=some i):zR P0 (.ref n) x kb σ=kb (.fn i (.ref n)) σ:=(s_o h).trans ((s_ck (by rw [hx]; rfl)).trans (Uj (by rw [hr]; exact hm)))
theorem yK {cf:CF} {n:Nat} {l:List V} {v:V} (h:σ[n]? =some (.list l)) (hl:l.length < 1000000):zN cf (.append n) [v] k σ=k .none (σ.set n (.list (l++[v]))):=(s_o h).trans (yo hl)
theorem zv {cf:CF} {i:Nat} {a:V} {vs:List V}:zN cf (.fn i a) vs k σ=cf i (a::vs) k σ:=rfl
theorem yY {n:Nat} {l:List V} (h:σ[n]? =some (.list l)) (hl:l.length < 2^40):zj 0 [.ref n] k σ=k (.int l.length) σ:=(s_o h).trans (yo hl)
theorem s_lenD {n:Nat} {l:List (V×V)} {e:Option Nat} (h:σ[n]? =some (.dict l e)) (hl:l.length < 2^40):zj 0 [.ref n] k σ=k (.int l.length) σ:=(s_o h).trans (yo hl)
theorem Ul {l:List V} (hl:l.length < 2^40):zj 0 [.tup l] k σ=k (.int l.length) σ:=if_pos hl
theorem s_rng {i:Int} (h: -100000 < i∧i < 100000):Qw (.int i) k σ=k (.rng i.toNat) σ:=by
 unfold Qw
 exact yo (m:=ret (V.rng i.toNat)) h
theorem blt1 {v:V}:blt 1 v=Qw v:=rfl
theorem s_blt {b:Nat} {v:V}:zj b [v] k σ=blt b v k σ:=rfl
theorem Zz {n:Nat} (h:n < 100000):zj 1 [.int (n:Int)] k σ=k (.rng n) σ:=by
 rw [s_blt,blt1,s_rng ⟨by lia,by lia⟩,Int.toNat_natCast]
theorem XB {n:Nat} {l:List V} (h:σ[n]? =some (.list l)) (hl:l.length < 1000000):zj 2 [.ref n] k σ=k (.tup l) σ:=(s_o h).trans (yo hl)
theorem jP {src:V} {all:List V×Nat} {body:V→C→C} {kn:C} (h:zz src σ=some all):yL src body kn σ=yO (α:=Unit) src all (fun v _ k=>body v (k ())) (fun _=>kn) all.1 () σ:=by unfold yL rFor0 jY; rw [h]
theorem s_for1 {src a:V} {all:List V×Nat} {body:V→V→(V→C)→C} {kn:V→C} (h:zz src σ=some all):Uu src a body kn σ=yO src all body kn all.1 a σ:=by unfold Uu rFor1 jY; rw [h]
theorem s_for3 {src a b c:V} {all:List V×Nat} {body:V→V→V→V→(V→V→V→C)→C} {kn:V→V→V→C} (h:zz src σ=some all):we src a b c body kn σ=yO (α:=V×V×V) src all (fun v s k=>body v s.1 s.2.1 s.2.2 fun a b c=>k (a,b,c)) (fun s=>kn s.1 s.2.1 s.2.2) all.1 (a,b,c) σ:=by unfold we rFor3 jY; rw [h]
theorem Za {src:V} {all:List V×Nat} {body:V→(Option V→C)→C} (h:zz src σ=some all):ye src body k σ=yO (α:=List V) src all (fun v acc k=>body v fun x=>k (JZ acc x)) (WK k) all.1 [] σ:=by unfold ye jY; rw [h]
theorem yF {l:List V} (h:l.length < 1000000):zz (.tup l) σ=some (l,0):=if_pos h
theorem jU {n:Nat} (h:n < 100000):zz (.rng n) σ=some ((List.range n).map fun (i:Nat)=>V.int i,0):=if_pos h
theorem yN {n:Nat} {l:List V} (h:σ[n]? =some (.list l)) (hl:l.length < 1000000):zz (.ref n) σ=some (l,0):=by
 show (σ[n]?).bind U5=_
 rw [h]; exact if_pos hl
end
end Wk
end
section
namespace Wk
structure Kp (X:Nat→Prop) (σ σ':zG):Prop where
 le:σ.length≤σ'.length
 old:∀i,i < σ.length→¬X i→σ'[i]? =σ[i]?
theorem yV {σ:zG} {n:Nat} {o:O} (h:σ[n]? =some o):n < σ.length:=(List.getElem?_eq_some_iff.mp h).1
namespace Kp
variable {X Y:Nat→Prop} {σ σ' σ'':zG} {n:Nat} {o:O}
theorem rfl:Kp X σ σ:=⟨Nat.le_refl _,fun _ _ _=>_root_.rfl⟩
theorem trans (a:Kp X σ σ') (b:Kp X σ' σ''):Kp X σ σ'':=⟨Nat.le_trans a.le b.le,fun i h n=>(b.old i (Nat.lt_of_lt_of_le h a.le) n).trans (a.old i h n)⟩
theorem mono (a:Kp X σ σ') (h:∀i,X i→Y i):Kp Y σ σ':=⟨a.le,fun i l n=>a.old i l fun q=>n (h i q)⟩
theorem push:Kp X σ (σ++[o]):=⟨by rw [List.length_append]; exact Nat.le_add_right _ _,fun i h _=>List.getElem?_append_left h⟩
theorem set (h:X n):Kp X σ (σ.set n o):=⟨Nat.le_of_eq List.length_set.symm,fun i _ q=>List.getElem?_set_ne fun (e:n=i)=>q (e▸h)⟩
theorem snew (a:Kp X σ σ') (h:σ.length≤n):Kp X σ (σ'.set n o):=⟨Nat.le_trans a.le (Nat.le_of_eq List.length_set.symm),fun i l q=>(List.getElem?_set_ne (Nat.ne_of_gt (Nat.lt_of_lt_of_le l h))).trans (a.old i l q)⟩
theorem two (a:Kp X σ σ') (b:Kp (fun i=>X i∨i=n) σ' σ'') (h:σ.length≤n):Kp X σ σ'':=
 ⟨Nat.le_trans a.le b.le,fun i l q=>(b.old i (Nat.lt_of_lt_of_le l a.le) fun h'=>h'.elim q fun e=>Nat.lt_irrefl _ (Nat.lt_of_lt_of_le (e▸l) h)).trans (a.old i l q)⟩
theorem or (a:Kp X σ σ'):Kp (fun i=>X i∨i=n) σ σ':=a.mono fun _=>.inl
theorem get (a:Kp X σ σ') (h:σ[n]? =some o) (x:¬X n):σ'[n]? =some o:=(a.old n (yV h) x).trans h
end Kp
theorem zS {σ:zG} {o:O}:(σ++[o])[σ.length]? =some o:=by rw [List.getElem?_append_right (Nat.le_refl _),Nat.sub_self]; rfl
theorem yE {σ:zG} {n:Nat} {o o':O} (h:σ[n]? =some o):(σ.set n o')[n]? =some o':=List.getElem?_set_self (yV h)
noncomputable def yR:Nat→Prop:=fun _=>False
theorem kp0 {X:Nat→Prop} {σ σ':zG} (K:Kp yR σ σ'):Kp X σ σ':=K.mono fun _ h=>h.elim
section
variable {src:V} {all:List V×Nat}
theorem Ug {l:List V} {σ:zG}:same (.tup l) all σ=true:=rfl
theorem same_rng {n:Nat} {σ:zG}:same (.rng n) all σ=true:=rfl
theorem turn {α:Type} {body:V→α→(α→C)→C} {kn:α→C} {rest:List V} {a:α} {σ:zG} {r:Res} (h:same src all σ=true) (e:yO src all body kn rest a σ=r):(match same src all σ with | true=>yO src all body kn rest a σ | false=>none)=r:=by rw [h]; exact e
end
theorem yv {n:Nat} {l:List V} {σ:zG} (h:σ[n]? =some (.list l)) (hl:l.length < 1000000):same (.ref n) (l,0) σ=true:=@decide_eq_true _ (Classical.propDecidable _) (yN h hl)
noncomputable def Cl (N i:Nat) (vs:List V) (σ:zG) (v:V) (σ':zG):Prop:=∀k,zA N i vs k σ=k v σ'
theorem suc {n N:Nat} (h:n+1≤N):∃M,N=M+1∧n≤M:=⟨N - 1,(Nat.sub_add_cancel (Nat.le_trans (Nat.le_add_left _ _) h)).symm,Nat.le_sub_of_add_le h⟩
theorem leb {a b:Nat} (h:Nat.ble a b=true):a≤b:=Nat.le_of_ble_eq_true h
theorem lm {a b c:Nat} (h:a≤b) (e:Nat.ble (b+1) c=true):a < c:=Nat.lt_of_le_of_lt h (ltb e)
theorem lv {α β:Type} {l:List α} {f:α→β} {c:Nat} (h:l.length < c):(l.map f).length < c:=by rw [List.length_map]; exact h
noncomputable def it (g:Nat→Nat):Nat→Nat→Nat
 | 0,w=>w
 | n+1,w=>g (it g n w)
theorem Jw {g:Nat→Nat} (hg:∀w,w≤g w) {n m w:Nat} (h:n≤m):it g n w≤it g m w:=by
 induction h with
 | refl=>exact Nat.le_refl _
 | step _ ih=>exact Nat.le_trans ih (hg _)
structure Nums (ns:List Nat):Prop where
 ne:0 < ns.length
 le:ns.length≤63
 bd:∀n∈ns,n < 999983
noncomputable def zk (ns:List Nat):List V:=ns.map fun n:Nat=>V.int n
structure At (A B:Nat) (ns:List Nat) (σ:zG) (z:Int×Int) (w:Nat):Prop where
 cnt:∃a:Nat,a+w≤999000000∧σ[A]? =some (.list [.int a,.int z.1,.int z.2])
 nums:σ[B]? =some (.list (zk ns))
 ne:A≠B
 ok:Nums ns
noncomputable def Go (A B:Nat) (ns:List Nat) (σ:zG) (z:Int×Int) (w N i:Nat) (vs:List V) (v:V) (G:Prop):Prop:=∀σ',Kp (·=A) σ σ'→At A B ns σ' z w→Cl N i vs σ v σ'→G
theorem s_modN {a n:Nat} {k:K V} {σ:zG} (h:0 < n):zT .Mod (.int a) (.int n) k σ=k (.int (a % n:Nat)) σ:=by
 rw [Int.ofNat_fmod]; exact s_mod (Int.natCast_ne_zero.mpr (Nat.ne_of_gt h))
theorem s_fdivN {a n:Nat} {k:K V} {σ:zG} (h:0 < n) (h2:n≤63):zT .FloorDiv (.int a) (.int n) k σ=k (.int (a / n:Nat)) σ:=by
 rw [Int.ofNat_fdiv]; exact s_fdiv ⟨Int.natCast_ne_zero.mpr (Nat.ne_of_gt h),lm h2 rfl⟩
section
variable {σ σ':zG} {A B N:Nat} {ns:List Nat} {z:Int×Int} {w:Nat}
theorem At.lt (S:At A B ns σ z w):A < σ.length:=let ⟨_,_,g⟩:=S.cnt; yV g
theorem At.le (S:At A B ns σ z w) {w':Nat} (h:w'≤w):At A B ns σ z w':=⟨let ⟨a,l,g⟩:=S.cnt; ⟨a,Nat.le_trans (Nat.add_le_add_left h a) l,g⟩,S.nums,S.ne,S.ok⟩
theorem At.kpX {X:Nat→Prop} (S:At A B ns σ z w) (K:Kp X σ σ') (ha:¬X A) (hb:¬X B):At A B ns σ' z w:=⟨let ⟨a,l,g⟩:=S.cnt; ⟨a,l,K.get g ha⟩,K.get S.nums hb,S.ne,S.ok⟩
theorem At.kp (S:At A B ns σ z w) (K:Kp yR σ σ'):At A B ns σ' z w:=S.kpX K id id
theorem At.app (S:At A B ns σ z w) {τ:zG} {n:Nat} {o:O} (S0:At A B ns τ z w) (h:τ.length≤n):At A B ns (σ.set n o) z w:=S.kpX (Kp.set (X:=(·=n)) rfl) (Nat.ne_of_lt (Nat.lt_of_lt_of_le S0.lt h)) (Nat.ne_of_lt (Nat.lt_of_lt_of_le (yV S0.nums) h))
theorem kpA {o:O}:Kp (·=A) σ (σ.set A o):=Kp.set rfl
theorem At.put (S:At A B ns σ z w) {a:Nat} {z':Int×Int} {w':Nat} (h:a+w'≤999000000):At A B ns (σ.set A (.list [.int a,.int z'.1,.int z'.2])) z' w':=
 ⟨⟨a,h,let ⟨_,_,g⟩:=S.cnt; yE g⟩,(List.getElem?_set_ne S.ne).trans S.nums,S.ne,S.ok⟩
theorem Jr (S:At A B ns σ z (w+1)) (hN:1≤N) (n:Nat) (hn:0 < n) {G:Prop} (out:∀r:Nat,r < n→Go A B ns σ z w N 64 [.ref B,.ref A,.int n] (.int r) G):G:=by
 obtain ⟨m,rfl,-⟩:=suc hN
 obtain ⟨a,l,g⟩:=S.cnt
 obtain ⟨h0,h1,-⟩:=S.ok
 have S1:At A B ns (σ.set A (.list [.int ((a+1:Nat):Int),.int z.1,.int z.2])) z w:=S.put (by rw [Nat.add_assoc,Nat.add_comm 1]; exact l)
 have hj:=Nat.mod_lt a h0
 have la:a≤999000000:=Nat.le_trans (Nat.le_add_right _ _) l
 have lq:ns[0] % 7+3*a < 2^60:=by have:=Nat.mod_lt ns[0] (by decide:7 > 0); lia
 have ll:(zk ns).length < 2^40:=lv (lm h1 rfl)
 have gt:∀j (h:j < ns.length) (k:K V),zC (.ref B) (.int (j:Nat)) k (σ.set A (.list [.int ((a+1:Nat):Int),.int z.1,.int z.2]))=k (.int (ns[j]:Nat)) _:=fun j h k=>YJ S1.nums (by unfold zk; rw [List.getElem?_map,List.getElem?_eq_getElem h]; rfl) ll
 refine out ((ns[a % ns.length]+a / ns.length*(ns[0] % 7+3*a)) % n) (Nat.mod_lt _ hn) _ kpA S1 fun k=>c64.trans ((s_l0 g (ltb rfl)).trans ((s_set0 g (ltb rfl)).trans ((yY S1.nums ll).trans ?_)))
 rw [show (zk ns).length=ns.length from List.length_map _]
 exact (s_modN h0).trans ((gt _ hj _).trans ((s_fdivN h0 h1).trans ((gt 0 h0 _).trans ((s_modN (n:=7) (by decide)).trans ((s_mul (x:=3) ⟨by decide,Nat.lt_of_le_of_lt la (by decide)⟩).trans ((s_mul (y:=((ns[0] % 7+3*a:Nat):Int)) ⟨Nat.lt_of_le_of_lt (Nat.le_trans (Nat.div_le_self _ _) la) (by decide),lq⟩).trans (s_modN (a:=ns[a % ns.length]+a / ns.length*(ns[0] % 7+3*a)) hn)))))))
theorem next (S:At A B ns σ z w) (hN:1≤N) {G:Prop} (out:Go A B ns σ (z.1+1,z.2) w N 65 [.ref A] (.int (z.1+1)) G):G:=by
 obtain ⟨_,rfl,-⟩:=suc hN
 obtain ⟨_,l,g⟩:=S.cnt
 exact out _ kpA (S.put (z':=(z.1+1,z.2)) l) fun _=>c65.trans ((s_l1 g (ltb rfl)).trans ((s_set1 g (ltb rfl)).trans (s_l1 (yE g) (ltb rfl))))
end
end Wk
end
section
namespace Wk
structure Kd where
 reg:Int
 new:Int
 rows:List V
noncomputable def zx (k:Kd):V:=.tup [.int k.reg,.int k.new,.tup k.rows]
noncomputable def Yv (rows new:List V):List V:=rows++new.filter fun v=>!(rows.any fun y=>eqV y v)
noncomputable def bitsQ (q:Int×Int):Int×Int:=bif Builtin.bitAnd q.1 32 !=0 then (Builtin.bitAnd q.1 (Builtin.bitNot 24),Builtin.bitAnd q.2 (Builtin.bitNot 24)) else q
noncomputable def bitsN (p n:Int):Int×Int:=bitsQ (bif Builtin.bitAnd p 4 !=0 then (Builtin.bitAnd p (Builtin.bitNot 3),Builtin.bitAnd n (Builtin.bitNot 3)) else (p,n))
noncomputable def bits (reg new:Int):Int×Int:=(fun p=>bitsN p (Builtin.bitAnd new (Builtin.bitNot p))) (bif decide (Builtin.bitAnd (Builtin.bitOr reg new) 192=192) then Builtin.bitOr reg 192 else reg)
noncomputable def Z4 (reg new:Int) (rows:List V):Kd:=
 bif Builtin.bitAnd reg 4096 !=0 then ⟨4096,0,[]⟩ else bif Builtin.bitAnd reg 8192 !=0 then ⟨8192,0,[]⟩ else bif Builtin.bitAnd reg 2048 !=0 then ⟨2048,0,[]⟩ else ⟨(bits reg new).1,(bits reg new).2,rows⟩
noncomputable def Wf (s:Int×Int×List V) (k:Kd):Int×Int×List V:=(Builtin.bitOr s.1 k.reg,Builtin.bitOr s.2.1 k.new,Yv s.2.2 k.rows)
noncomputable def JM (ks:List Kd):Int×Int×List V:=ks.foldl Wf (0,0,[])
noncomputable def wq (ks:List Kd):Kd:=Z4 (JM ks).1 (JM ks).2.1 (JM ks).2.2
noncomputable def Ux (v:V):Bool:=yW v&&decide (Yu v≤40)
theorem QC {l:List V} (h:∀v∈l,yW v=true):jK l=true:=by
 induction l with
 | nil=>rfl
 | cons a r ih=>rw [jK,h a (.head _),ih fun v hv=>h v (.tail _ hv)]; rfl
theorem Qp {l:List V} {n:Nat} (h:∀v∈l,Yu v≤n):Js l≤n:=by
 induction l with
 | nil=>exact Nat.zero_le _
 | cons a r ih=>rw [Js]; exact Nat.max_le.mpr ⟨h a (.head _),ih fun v hv=>h v (.tail _ hv)⟩
theorem wf {v:V} (h:Ux v=true):yW v=true∧Yu v≤40:=(zW h).imp id of_decide_eq_true
noncomputable def yq (l:List V):Prop:=∀v∈l,Ux v=true
theorem yq.fit {l:List V} (h:yq l):jK l=true:=QC fun v q=>(wf (h v q)).1
theorem yq.dep {l:List V} (h:yq l):Js l≤40:=Qp fun v q=>(wf (h v q)).2
theorem okRow1 {v:V} (h:Ux v=true):yq [v]:=fun u q=>by cases q with
 | head=>exact h
 | tail _ q=>cases q
theorem eqOkL_of {a b:List V} (ha:yq a) (hb:yq b):J5 a b=true:=by
 unfold J5
 rw [ha.fit,hb.fit,decide_eq_true (Nat.le_trans ha.dep (by decide)),decide_eq_true (Nat.le_trans hb.dep (by decide))]; rfl
theorem s_notInL {σ:zG} {k:K V} {n:Nat} {l:List V} {v:V} (h:σ[n]? =some (.list l)) (hv:Ux v=true) (hl:yq l):zL .NotIn v (.ref n) k σ=k (.bool (!(l.any fun y=>eqV y v))) σ:=by
 unfold zL
 exact (s_o h).trans (yo (m:=ret _) (eqOkL_of (okRow1 hv) hl))
theorem s_inT {σ:zG} {k:K V} {l:List V} {v:V} (hv:Ux v=true) (hl:yq l):zL .In v (.tup l) k σ=k (.bool (l.any fun y=>eqV y v)) σ:=by
 unfold zL
 exact yo (m:=ret _) (k:=fun r=>k (.bool r)) (eqOkL_of (okRow1 hv) hl)
theorem Jm {σ:zG} {k:K V} {src:V} {body:V→(Option V→C)→C} (p:V→Bool) (l:List V) (hi:zz src σ=some (l,0)) (hs:same src (l,0) σ=true) (hl:l.length < 1000000) (hb:∀v∈l,∀add,body v add σ=pIf (p v) (add (some v)) (add .none) σ):ye src body k σ=k (.ref σ.length) (σ++[.list (l.filter p)]):=by
 refine (Za hi).trans ?_
 have key:∀ (rest acc:List V),(∀v∈rest,v∈l)→acc.length+rest.length≤l.length→yO (α:=List V) src (l,0) (fun v acc k=>body v fun x=>k (JZ acc x)) (WK k) rest acc σ=k (.ref σ.length) (σ++[.list (acc++rest.filter p)]):=by
  intro rest
  induction rest with
  | nil=>exact fun acc _ hle=>(yo (Nat.lt_of_le_of_lt hle hl)).trans (by rw [List.filter_nil,List.append_nil]; rfl)
  | cons v r ih=>
   intro acc hm hle
   refine (hb v (hm v (.head _)) _).trans ?_
   rw [List.filter_cons]
   have hm':∀u∈r,u∈l:=fun u hu=>hm u (.tail _ hu)
   cases p v with
   | true=>exact turn hs ((ih (acc++[v]) hm' (by rw [List.length_append,Nat.add_assoc,Nat.add_comm [v].length]; exact hle)).trans (by rw [List.append_assoc]; rfl))
   | false=>exact turn hs (ih acc hm' (Nat.le_of_succ_le hle))
 exact key l [] (fun _ h=>h) (Nat.le_of_eq (Nat.zero_add _))
theorem Qx {a b:List V} (ha:yq a) (hb:yq b):yq (Yv a b):=fun v h=>(List.mem_append.mp h).elim (ha v) fun h=>hb v (List.mem_filter.mp h).1
theorem W9 {a b:List V}:(Yv a b).length≤a.length+b.length:=by
 unfold Yv
 rw [List.length_append]
 exact Nat.add_le_add_left (List.length_filter_le _ _) _
noncomputable def KindOk (k:Kd):Prop:=k.rows.length≤4∧yq k.rows
theorem joinS_ok:∀ {ks:List Kd} {s:Int×Int×List V},(∀k∈ks,KindOk k)→yq s.2.2→yq (ks.foldl Wf s).2.2∧(ks.foldl Wf s).2.2.length≤s.2.2.length+4*ks.length
 | [],_,_,hs=>⟨hs,Nat.le_refl _⟩
 | k::ks,s,h,hs=>by
  have hk:=h k (.head _)
  have q:=joinS_ok (s:=Wf s k) (fun k m=>h k (.tail _ m)) (Qx hs hk.2)
  refine ⟨q.1,Nat.le_trans q.2 ?_⟩
  have a:=Nat.le_trans (W9 (a:=s.2.2)) (Nat.add_le_add_left hk.1 _)
  exact Nat.le_trans (Nat.add_le_add_right a _) (by rw [Nat.add_assoc,Nat.add_comm 4]; exact Nat.le_refl _)
structure UY (ks:List Kd):Prop where
 len:ks.length≤4
 ok:∀k∈ks,KindOk k
theorem UY.join {ks:List Kd} (h:UY ks):yq (JM ks).2.2∧(JM ks).2.2.length≤16:=(joinS_ok (s:=(0,0,[])) h.ok nofun).imp id fun q=>Nat.le_trans q (by rw [List.length_nil,Nat.zero_add]; exact Nat.mul_le_mul_left 4 h.len)
section
variable (q:V) (k:K V)
noncomputable def jc29 (p r:V):C:=zT .BitAnd p (.int 32) fun x=>zE x fun c=>pIf c (pUn .Invert (.int 24) fun x=>zT .BitAnd p x fun y=>pUn .Invert (.int 24) fun x=>zT .BitAnd r x fun z=>zj 2 [q] fun x=>k (.tup [y,z,x])) (zj 2 [q] fun x=>k (.tup [p,r,x]))
noncomputable def jc25 (a p:V):C:=pUn .Invert p fun x=>zT .BitAnd a x fun n=>zT .BitAnd p (.int 4) fun x=>zE x fun c=>pIf c (pUn .Invert (.int 3) fun x=>zT .BitAnd p x fun y=>pUn .Invert (.int 3) fun x=>zT .BitAnd n x fun z=>jc29 q k y z) (jc29 q k p n)
noncomputable def jc7 (r a:V):C:=zT .BitOr r a fun x=>zT .BitAnd x (.int 192) fun x=>zL .Eq x (.int 192) fun x=>zE x fun c=>pIf c (zT .BitOr r (.int 192) fun x=>jc25 q k a x) (jc25 q k a r)
end
theorem Z0 {α:Type} (f:α→Res) {b:Bool} {X Y:C} {σ:zG} {a c:α} (h1:X σ=f a) (h2:Y σ=f c):pIf b X Y σ=f (bif b then a else c):=match b with | true=>h1 | false=>h2
section
variable {σ:zG} {n:Nat} {l:List V} {k:K V}
theorem jc25_go (h:σ[n]? =some (.list l)) (hl:l.length < 1000000) (y p:Int):jc25 (.ref n) k (.int y) (.int p) σ=(fun q:Int×Int=>k (zx ⟨q.1,q.2,l⟩) σ) (bitsN p (Builtin.bitAnd y (Builtin.bitNot p))):=
 have fin:∀q:Int×Int,zj 2 [.ref n] (fun x=>k (.tup [.int q.1,.int q.2,x])) σ=k (zx ⟨q.1,q.2,l⟩) σ:=fun _=>XB h hl
 have g:∀q:Int×Int,jc29 (.ref n) k (.int q.1) (.int q.2) σ=(fun q:Int×Int=>k (zx ⟨q.1,q.2,l⟩) σ) (bitsQ q):=fun q=>Z0 (fun q:Int×Int=>k (zx ⟨q.1,q.2,l⟩) σ) (fin (_,_)) (fin q)
 Z0 (fun q=>(fun q:Int×Int=>k (zx ⟨q.1,q.2,l⟩) σ) (bitsQ q)) (g (_,_)) (g (_,_))
theorem jc7_go (h:σ[n]? =some (.list l)) (hl:l.length < 1000000) (x y:Int):jc7 (.ref n) k (.int x) (.int y) σ=k (zx ⟨(bits x y).1,(bits x y).2,l⟩) σ:=
 (ym _ _).trans (Z0 (fun p=>(fun q:Int×Int=>k (zx ⟨q.1,q.2,l⟩) σ) (bitsN p (Builtin.bitAnd y (Builtin.bitNot p)))) (jc25_go h hl y _) (jc25_go h hl y _))
noncomputable def jcB:V→V→V→V→(V→V→V→C)→C:=fun v a b c k=>zC v (.int 0) fun x=>zT .BitOr a x fun d=>zC v (.int 1) fun x=>zT .BitOr b x fun e=>zC v (.int 2) fun x=>ye x (fun u add=>zL .NotIn u c fun x=>zE x fun c=>pIf c (add (some u)) (add .none)) fun x=>zT .Add c x fun f=>k d e f
theorem wo {src:V} {all:List V×Nat} (hs:∀τ,Kp yR σ τ→same src all τ=true) {G:Prop}:∀ (ks:List Kd) {τ:zG} {s:Int×Int×List V} {q:Nat},(∀k∈ks,KindOk k)→Kp yR σ τ→τ[q]? =some (.list s.2.2)→yq s.2.2→s.2.2.length+4*ks.length≤16→
  (∀ (τ':zG) (q':Nat),Kp yR σ τ'→τ'[q']? =some (.list (ks.foldl Wf s).2.2)→(∀kn,yO (α:=V×V×V) src all (fun v s k=>jcB v s.1 s.2.1 s.2.2 fun a b c=>k (a,b,c)) kn (ks.map zx) (.int s.1,.int s.2.1,.ref q) τ=kn (.int (ks.foldl Wf s).1,.int (ks.foldl Wf s).2.1,.ref q') τ')→G)→G
 | [],τ,_,q,_,K,g,_,_,out=>out τ q K g fun _=>rfl
 | x::ks,τ,s,q,hk,K,g,ok,hl,out=>by
  obtain ⟨r1,r2⟩:=hk x (.head _)
  have l1:s.2.2.length≤16:=Nat.le_trans (Nat.le_add_right _ _) hl
  have l2:=Nat.le_trans (List.length_filter_le (fun v=>!(s.2.2.any fun y=>eqV y v)) x.rows) r1
  have K2:Kp yR τ (τ++[.list (x.rows.filter fun v=>!(s.2.2.any fun y=>eqV y v))]):=Kp.push
  have K3:=K.trans (K2.trans (Kp.push (o:=.list (Wf s x).2.2)))
  have hl':(Wf s x).2.2.length+4*ks.length≤16:=Nat.le_trans (Nat.add_le_add_right (Nat.le_trans W9 (Nat.add_le_add_left r1 _)) _) (by rw [Nat.add_assoc,Nat.add_comm 4]; exact hl)
  refine wo hs ks (s:=Wf s x) (fun k m=>hk k (.tail _ m)) K3 zS (Qx ok r2) hl' fun τ' q' K' g' e=>out τ' q' K' g' fun kn=>.trans ?_ (turn (hs _ K3) (e kn))
  exact (Jm (k:=fun y=>zT .Add (.ref q) y _) (fun v=>!(s.2.2.any fun y=>eqV y v)) x.rows (yF (lm r1 rfl)) rfl (lm r1 rfl) fun v hv add=>s_notInL (k:=fun x=>zE x fun c=>pIf c (add (some v)) (add none)) g (r2 v hv) ok).trans (WS (K2.get g id) zS (lm (Nat.add_le_add l1 l2) rfl))
end
theorem join {σ:zG} {n N:Nat} {ks:List Kd} (hN:1≤N) (h:σ[n]? =some (.list (ks.map zx))) (hk:UY ks) {G:Prop} (out:∀σ',Kp yR σ σ'→Cl N 66 [.ref n] σ (zx (wq ks)) σ'→G):G:=by
 obtain ⟨m,rfl,-⟩:=suc hN
 have hl:=lv (f:=zx) (lm hk.len (rfl:Nat.ble _ 1000000=true))
 obtain ⟨j1,j2⟩:=hk.join
 refine wo (σ:=σ) (fun τ K=>yv (K.get h id) hl) ks (s:=(0,0,[])) hk.ok (Kp.push (o:=.list [])) zS nofun (by rw [List.length_nil,Nat.zero_add]; exact Nat.mul_le_mul_left 4 hk.len) fun τ q K' g e=>out τ K' fun k=>c66.trans (ZY.trans ((s_for3 (yN (Kp.push.get (X:=yR) h id) hl)).trans ((e _).trans ((jP (yF (ltb rfl))).trans ?_))))
 exact Z0 (fun x=>k (zx x) τ) (a:=⟨4096,0,[]⟩) (b:=Builtin.bitAnd (JM ks).1 4096 !=0) rfl (Z0 (fun x=>k (zx x) τ) (a:=⟨8192,0,[]⟩) (b:=Builtin.bitAnd (JM ks).1 8192 !=0) rfl (Z0 (fun x=>k (zx x) τ) (a:=⟨2048,0,[]⟩) (b:=Builtin.bitAnd (JM ks).1 2048 !=0) rfl (jc7_go (k:=k) g (lm j2 rfl) (JM ks).1 (JM ks).2.1)))
end Wk
end
section
namespace Wk
noncomputable def Xi:List Int:=[4,1,3,0,32,8,24,256,512,1024,64,192,257,513,36,1536,4096,2048,8192]
noncomputable def zJ (r:Nat) (f:Bool):Kd:=match f with
 | true=>wq [⟨Builtin.bitAnd (Xi.getD r 0) (Builtin.bitNot 219),Builtin.bitAnd (Xi.getD r 0) 219,[]⟩]
 | false=>wq [⟨Xi.getD r 0,0,[]⟩]
theorem joinF_nil {x y:Int}:(Z4 x y []).rows=[]:=by
 unfold Z4
 rcases (Builtin.bitAnd x 4096 !=0) with _ | _<;>rcases (Builtin.bitAnd x 8192 !=0) with _ | _<;>rcases (Builtin.bitAnd x 2048 !=0) with _ | _<;>rfl
theorem jR {r:Nat} {f:Bool}:(zJ r f).rows=[]:=by
 cases f<;>exact joinF_nil
section
variable {σ:zG} {A B N:Nat} {ns:List Nat} {z:Int×Int} {w:Nat} {G:Prop}
theorem join1 (hN:1≤N) {kd:Kd} (h:kd.rows=[]) (out:∀σ',Kp yR σ σ'→(∀k,(zU (.list [zx kd]) fun x=>zA N 66 [x] k) σ=k (zx (wq [kd])) σ')→G):G:=
 join hN (ks:=[kd]) (zS (σ:=σ) (o:=.list [zx kd])) ⟨leb rfl,fun k q=>by
  cases q with
  | head=>exact ⟨by rw [h]; exact leb rfl,h▸nofun⟩
  | tail _ q=>cases q⟩ fun σ' K e=>out σ' (Kp.push.trans K) e
theorem plain (S:At A B ns σ z (w+2)) (hN:2≤N) (n:Nat) (hn:0 < n) (hn2:n≤19) (out:∀ (r:Nat) (f:Bool),r < n→Go A B ns σ z w N 67 [.ref B,.ref A,.int n] (zx (zJ r f)) G):G:=by
 obtain ⟨M,rfl,hM⟩:=suc hN
 refine Jr (w:=w+1) S hM n hn fun r hr σ1 K1 S1 e1=>Jr S1 hM 2 (leb rfl) fun r2 _ σ2 K2 S2 e2=>?_
 have g:∀k:K V,zC WZ (.int (r:Int)) k σ1=k (.int (Xi.getD r 0)) σ1:=fun k=>YI (l:=Xi.map V.int) (by
  have q:r < Xi.length:=Nat.lt_of_lt_of_le hr hn2
  rw [List.getElem?_map,List.getD_eq_getElem?_getD,List.getElem?_eq_getElem q]; rfl) (ltb rfl)
 have K12:=K1.trans K2
 rcases r2 with _ | r2
 ·exact join1 hM (kd:=⟨Xi.getD r 0,0,[]⟩) rfl fun σ3 K3 e3=>out r false hr σ3 (K12.trans (kp0 K3)) (S2.kp K3) fun k=>c67.trans ((e1 _).trans ((g _).trans ((e2 _).trans (e3 k))))
 ·exact join1 hM (kd:=⟨Builtin.bitAnd (Xi.getD r 0) (Builtin.bitNot 219),Builtin.bitAnd (Xi.getD r 0) 219,[]⟩) rfl fun σ3 K3 e3=>out r true hr σ3 (K12.trans (kp0 K3)) (S2.kp K3) fun k=>c67.trans ((e1 _).trans ((g _).trans ((e2 _).trans (e3 k))))
end
structure Yi where
 ro:Nat
 cs:List (Nat×Bool×Nat)
noncomputable def Yd (x:Nat×Bool×Nat):V:=.tup [zx (zJ x.1 x.2.1),.int x.2.2]
noncomputable def jM (c:Yi):V:=.tup [.int c.ro,.tup (c.cs.map Yd)]
noncomputable def Z2 (a b c:Nat):List Nat:=List.replicate a 0++List.replicate b 1++List.replicate c 2
structure Yy (c:Yi):Prop where
 ro:c.ro < 2
 marks:X3_4 (fun a _ _=>a < 3) (fun _ b _=>b < 2) (fun _ _ c=>c < 2) fun d1 d2 d3=>c.cs.map (·.2.2)=Z2 d1 d2 d3
 kinds:∀x∈c.cs,x.1 < 18
theorem WW {a b c:Nat} (ha:a < 3) (hb:b < 2) (hc:c < 2):(Z2 a b c).length≤4:=by
 unfold Z2
 rw [List.length_append,List.length_append,List.length_replicate,List.length_replicate,List.length_replicate]
 exact Nat.add_le_add (Nat.add_le_add (Nat.le_of_lt_succ ha) (Nat.le_of_lt_succ hb)) (Nat.le_of_lt_succ hc)
theorem Yy.len {c:Yi} (h:Yy c):c.cs.length≤4:=by
 obtain ⟨d1,d2,d3,h1,h2,h3,e⟩:=h.marks
 rw [← List.length_map (f:=(·.2.2)),e]
 exact WW h1 h2 h3
theorem encP_ok {x:Nat×Bool×Nat}:yW (Yd x)=true∧Yu (Yd x)≤3:=by
 unfold Yd zx
 rw [jR]
 exact ⟨rfl,leb rfl⟩
theorem encC_ok {c:Yi}:Ux (jM c)=true:=by
 have h1:jK (c.cs.map Yd)=true:=QC fun v hv=>let ⟨_,_,e⟩:=List.mem_map.mp hv; e▸encP_ok.1
 have h2:Js (c.cs.map Yd)≤3:=Qp fun v hv=>let ⟨_,_,e⟩:=List.mem_map.mp hv; e▸encP_ok.2
 unfold Ux jM
 rw [show yW (.tup [.int c.ro,.tup (c.cs.map Yd)])=(jK (c.cs.map Yd)&&true) from rfl,h1]
 exact decide_eq_true (Nat.succ_le_succ (Nat.max_le.mpr ⟨Nat.zero_le _,Nat.max_le.mpr ⟨Nat.le_trans (Nat.succ_le_succ h2) (by decide),Nat.zero_le _⟩⟩))
section
variable {σ:zG} {A B N:Nat} {ns:List Nat} {z:Int×Int} {w:Nat} {G:Prop}
theorem rep (S:At A B ns σ z (w+1)) (hN:1≤N) (x:Int) (n:Nat) (hn:0 < n) (h4:n≤15) (out:∀ (d q:Nat) σ',d < n→Kp (·=A) σ σ'→At A B ns σ' z w→σ'[q]? =some (.list (List.replicate d (.int x)))→¬q=A→(∀k:K V,(zU (.list [.int x]) fun x4=>zA N 64 [.ref B,.ref A,.int n] fun x5=>zT .Mult x4 x5 k) σ=k (.ref q) σ')→G):G:=
 Jr (S.kp (Kp.push (o:=.list [.int x]))) hN n hn fun d hd σ1 K1 S1 e1=>out d σ1.length (σ1++[O.list (List.replicate d (.int x))]) hd ((Kp.push.trans K1).trans Kp.push) (S1.kp Kp.push) zS (Nat.ne_of_gt S1.lt) fun k=>(e1 _).trans (s_mulL (K1.get zS (Nat.ne_of_gt S.lt)) ⟨Int.natCast_nonneg d,Int.ofNat_lt.mpr (Nat.lt_of_lt_of_le hd (Nat.le_succ_of_le h4))⟩)
theorem cellL {σ0:zG} {src:V} {all:List V×Nat} (hs:∀τ,Kp (·=A) σ0 τ→same src all τ=true) (hN:2≤N):∀ (rest:List Nat) {σ:zG} (acc:List V),At A B ns σ z (it (·+2) rest.length w)→Kp (·=A) σ0 σ→
  (∀ (cs:List (Nat×Bool×Nat)) σ',cs.map (·.2.2)=rest→(∀x∈cs,x.1 < 18)→Kp (·=A) σ0 σ'→At A B ns σ' z w→(∀kn,yO (α:=List V) src all (fun v acc k=>zA N 67 [.ref B,.ref A,.int 18] fun x=>k (JZ acc (some (.tup [x,v])))) kn (rest.map fun j:Nat=>V.int j) acc σ=kn (acc++cs.map Yd) σ')→G)→G
 | [],σ,acc,S,K,out=>out [] σ rfl nofun K S fun kn=>congrArg (kn · σ) (List.append_nil acc).symm
 | j::rest,σ,acc,S,K,out=>plain S hN 18 (leb rfl) (leb rfl) fun r f hr σ1 K1 S1 e1=>cellL hs hN rest (acc++[Yd (r,f,j)]) S1 (K.trans K1) fun cs σ2 h h2 K2 S2 e2=>out ((r,f,j)::cs) σ2 (congrArg (j::·) h) (fun y m=>by
   cases m with
   | head=>exact hr
   | tail _ m=>exact h2 y m) K2 S2 fun kn=>(e1 _).trans (turn (hs _ (K.trans K1)) ((e2 kn).trans (by rw [List.append_assoc]; rfl)))
theorem cells (S:At A B ns σ z (w+12)) (hN:3≤N) (out:∀c,Yy c→Go A B ns σ z w N 68 [.ref B,.ref A] (jM c) G):G:=by
 obtain ⟨M,rfl,hM⟩:=suc hN
 have h1:1≤M:=Nat.le_trans (leb rfl) hM
 refine rep (w:=w+11) S h1 0 3 (leb rfl) (leb rfl) fun d1 q1 σ1 hd1 K1 S1 g1 n1 e1=>rep (w:=w+10) S1 h1 1 2 (leb rfl) (leb rfl) fun d2 q2 σ2 hd2 K2 S2 g2 n2 e2=>?_
 refine rep (w:=w+9) (S2.kp (Kp.push (o:=.list (List.replicate d1 (.int 0)++List.replicate d2 (.int 1))))) h1 2 2 (leb rfl) (leb rfl) fun d3 q4 σ4 hd3 K4 S4 g4 n4 e4=>?_
 have l4:=WW hd1 hd2 hd3
 have g3:=K4.get (zS (σ:=σ2) (o:=.list (List.replicate d1 (.int 0)++List.replicate d2 (.int 1)))) (Nat.ne_of_gt S2.lt)
 have K14:=(K1.trans K2).trans (Kp.push.trans K4)
 have eM:List.replicate d1 (V.int 0)++List.replicate d2 (V.int 1)++List.replicate d3 (V.int 2)=(Z2 d1 d2 d3).map fun j:Nat=>V.int j:=by
  unfold Z2
  rw [List.map_append,List.map_append,List.map_replicate,List.map_replicate,List.map_replicate]; rfl
 have c3:(List.replicate d1 (V.int 0)).length+(List.replicate d2 (V.int 1)).length < 1000000:=by rw [List.length_replicate,List.length_replicate]; exact lm (Nat.le_of_lt (Nat.add_lt_add hd1 hd2)) rfl
 have c5:(List.replicate d1 (V.int 0)++List.replicate d2 (V.int 1)).length+(List.replicate d3 (V.int 2)).length < 1000000:=by rw [← List.length_append,eM]; exact lv (lm l4 rfl)
 generalize hL:Z2 d1 d2 d3=L at eM l4
 have lM:=lv (f:=fun j:Nat=>V.int j) (lm l4 (rfl:Nat.ble _ 1000000=true))
 refine Jr (w:=w+8) (S4.kp (Kp.push (o:=.list (L.map fun j:Nat=>V.int j)))) h1 2 (leb rfl) fun ro hro σ6 K6 S6 e6=>?_
 have g5:=K6.get (zS (σ:=σ4) (o:=.list (L.map fun j:Nat=>V.int j))) (Nat.ne_of_gt S4.lt)
 refine cellL (N:=M) (w:=w) (fun τ K=>yv (K.get g5 (Nat.ne_of_gt S4.lt)) lM) hM L [] (S6.le (Jw (g:=(·+2)) (fun _=>Nat.le_add_right _ _) l4)) Kp.rfl fun cs σ7 ec hc K7 S7 e7=>?_
 have lc:(cs.map Yd).length < 1000000:=lv (lm (by rw [← List.length_map (f:=(·.2.2)),ec]; exact l4) rfl)
 exact out ⟨ro,cs⟩ ⟨hro,⟨d1,d2,d3,hd1,hd2,hd3,ec.trans hL.symm⟩,hc⟩ _ ((K14.trans Kp.push).trans ((K6.trans K7).trans (Kp.push (o:=.list (cs.map Yd))))) (S7.kp Kp.push) fun k=>c68.trans ((e1 _).trans ((e2 _).trans ((WS (K2.get g1 n1) g2 c3).trans ((e4 _).trans ((WS g3 g4 c5).trans (eM▸(e6 _).trans ((Za (yN g5 lM)).trans ((e7 _).trans ((yo lc).trans (XB zS lc))))))))))
end
end Wk
end
section
namespace Wk
structure ExK where
 r:Nat
 f:Bool
 cs:List Yi
noncomputable def WL (c:Yi):Kd:=⟨0,0,[jM c]⟩
noncomputable def ExK.kd (e:ExK):Kd:=wq (zJ e.r e.f::e.cs.map WL)
structure ExK.Ok (e:ExK):Prop where
 r:e.r < 19
 len:e.cs.length≤2
 cs:∀c∈e.cs,Yy c
structure Ex where
 n:Int
 kd:Option ExK
noncomputable def encE (e:Ex):V:=.tup [.int e.n,match e.kd with | none=>.none | some k=>zx k.kd]
noncomputable def Ex.Ok (e:Ex):Prop:=∀k,e.kd=some k→k.Ok
theorem ZZ {x y:Int} {b:Bool} {k:K V} {σ:zG} (h:decide (x=y)=b):zL .Eq (.int x) (.int y) k σ=k (.bool b) σ:=h▸ym x y
section
variable {σ:zG} {A B N:Nat} {ns:List Nat} {z:Int×Int} {w:Nat}
theorem kinds_ok {r:Nat} {f:Bool} {cs:List Yi} (hl:cs.length≤2):UY (zJ r f::cs.map WL):=by
 refine ⟨Nat.succ_le_succ (by rw [List.length_map]; exact Nat.le_succ_of_le hl),fun k hk=>?_⟩
 rcases List.mem_cons.mp hk with rfl | hk
 ·exact ⟨by rw [jR]; exact leb rfl,by rw [jR]; exact nofun⟩
 ·obtain ⟨c,-,rfl⟩:=List.mem_map.mp hk
  exact ⟨leb rfl,okRow1 encC_ok⟩
variable {G:Prop}
theorem exprL {n m:Nat} {all:List V×Nat} (hN:3≤N) (hA:¬n=A) (hB:¬B=n):∀ (rest:List V) {σ:zG} {ks:List Kd},At A B ns σ z (it (·+12) rest.length w)→σ[n]? =some (.list (ks.map zx))→ks.length+rest.length≤10→
  (∀ (cs:List Yi) σ',cs.length=rest.length→(∀c∈cs,Yy c)→Kp (fun i=>i=A∨i=n) σ σ'→At A B ns σ' z w→σ'[n]? =some (.list ((ks++cs.map WL).map zx))→(∀kn:Unit→C,yO (.rng m) all (fun _ _ k=>zR P0 (.ref n) (nS "append") fun b=>zA N 68 [.ref B,.ref A] fun x=>zN (zA N) b [.tup [.int 0,.int 0,.tup [x]]] fun _=>k ()) kn rest () σ=kn () σ')→G)→G:=by
 intro rest
 induction rest with
 | nil=>intro σ ks S g _ out; exact out [] σ rfl nofun Kp.rfl S (by rw [List.map_nil,List.append_nil]; exact g) fun _=>rfl
 | cons v rest ih=>
  intro σ ks S g hl out
  refine cells S hN fun c hc σ1 K1 S1 e1=>?_
  have g1:=K1.get g hA
  have K2:Kp (·=n) σ1 (σ1.set n (.list (ks.map zx++[zx (WL c)]))):=Kp.set rfl
  refine ih (ks:=ks++[WL c]) (S1.kpX K2 (fun e=>hA e.symm) hB) (by rw [List.map_append]; exact yE g1) (by rw [List.length_append,Nat.add_assoc,Nat.add_comm [_].length]; exact hl) fun cs σ3 h1 h2 K3 S3 g3 e3=>?_
  exact out (c::cs) σ3 (congrArg (·+1) h1) (fun x q=>(List.mem_cons.mp q).elim (fun e=>e▸hc) (h2 x)) ((K1.or.trans (K2.mono fun _=>.inr)).trans K3) S3 (by rw [g3,List.append_assoc]; rfl) fun kn=>(yd g).trans ((e1 _).trans ((yK g1 (lv (lm (Nat.le_trans (Nat.le_add_right _ _) hl) rfl))).trans (e3 kn)))
theorem expr (S:At A B ns σ z (w+27)) (hN:4≤N) (out:∀e:Ex,e.n=z.1+1→e.Ok→Go A B ns σ (z.1+1,z.2) w N 69 [.ref B,.ref A] (encE e) G):G:=by
 obtain ⟨M,rfl,hM⟩:=suc hN
 have h1:1≤M:=Nat.le_trans (leb rfl) hM
 refine next S h1 fun σ1 K1 S1 e1=>plain (w:=w+25) S1 (Nat.le_trans (leb rfl) hM) 19 (leb rfl) (leb rfl) fun r f hr σ2 K2 S2 e2=>?_
 refine Jr (w:=w+24) (S2.kp (Kp.push (o:=.list [zx (zJ r f)]))) h1 6 (leb rfl) fun d hd σ4 K4 S4 e4=>?_
 have n0:¬σ2.length=A:=Nat.ne_of_gt S2.lt
 have K12:=K1.trans K2
 have K34:=Kp.push.trans K4
 by_cases h5:(d:Int)=5
 ·exact out ⟨z.1+1,none⟩ rfl nofun σ4 (K12.trans K34) (S4.le (Nat.le_add_right _ _)) fun k=>c69.trans ((e1 _).trans ((e2 _).trans ((e4 _).trans (ZZ (decide_eq_true h5)))))
 ·have hd:d < [0,1,2,1,0].length:=Nat.lt_of_le_of_ne (Nat.le_of_lt_succ hd) fun e=>h5 (e▸rfl)
  have hj:=(by decide:∀x∈[0,1,2,1,0],x≤2) _ (List.getElem_mem hd)
  have g:∀k:K V,zC (.tup [.int 0,.int 1,.int 2,.int 1,.int 0]) (.int d) k σ4=k (.int ([0,1,2,1,0][d]:Nat)) σ4:=fun k=>YI (l:=[0,1,2,1,0].map fun j:Nat=>V.int j) (by rw [List.getElem?_map,List.getElem?_eq_getElem hd]; rfl) (ltb rfl)
  generalize [0,1,2,1,0][d]=j at hj g
  have lj:((List.range j).map fun (i:Nat)=>V.int i).length≤2:=by rw [List.length_map,List.length_range]; exact hj
  refine exprL (w:=w) (m:=j) (all:=((List.range j).map fun (i:Nat)=>V.int i,0)) hM n0 (Nat.ne_of_lt (yV S2.nums)) ((List.range j).map fun (i:Nat)=>V.int i) (ks:=[zJ r f]) (S4.le (Jw (fun _=>Nat.le_add_right _ _) lj)) (K4.get zS n0) (Nat.le_trans (Nat.add_le_add_left lj 1) (leb rfl)) fun cs σ5 el hc K5 S5 g5 e5=>?_
  have lc:=Nat.le_trans (Nat.le_of_eq el) lj
  exact join h1 g5 (kinds_ok lc) fun σ6 K6 e6=>out ⟨z.1+1,some ⟨r,f,cs⟩⟩ rfl (fun k q=>by cases q; exact ⟨hr,lc,hc⟩) σ6 ((K12.trans (K34.two K5 (Nat.le_refl _))).trans (kp0 K6)) (S5.kp K6) fun k=>c69.trans ((e1 _).trans ((e2 _).trans ((e4 _).trans ((ZZ (decide_eq_false h5)).trans ((g _).trans ((Zz (lm hj rfl)).trans ((jP (jU (lm hj rfl))).trans ((e5 _).trans (e6 _)))))))))
end
mutual
inductive St where
 | sw (n:Int) (e:Ex) (ts:yg)
 | tr (n:Int) (first:Blk) (m sid:Int) (second last:jC)
 | fn (n:Int) (name:Bool) (body:Nat) (lone exp:Bool)
 | pl (n:Int) (c:Bool) (e:Ex)
 | od (n:Int)
inductive Sts where
 | nil
 | cons (s:St) (r:Sts)
inductive Blk where
 | mk (n:Int) (l:Sts)
inductive jC where
 | none
 | some (b:Blk)
inductive yg where
 | nil
 | cons (p:Option Ex) (b:Blk) (r:yg)
end
noncomputable def yz (b:Bool):V:=.str (if b=true then ⟨#['g'.toNat]⟩ else ⟨#['f'.toNat]⟩)
noncomputable def Qj:Option Ex→V
 | none=>.none
 | some e=>encE e
mutual
noncomputable def ZU:St→V
 | .sw n e ts=>.tup [.str (nS "switch"),.int n,encE e,.tup (YM ts)]
 | .tr n first m sid second last=>.tup [.str (nS "try"),.int n,Yg first,.int m,.int sid,JT second,JT last]
 | .fn n name body lone exp=>.tup [.str (nS "func"),.int n,yz name,.int body,.bool lone,.bool exp]
 | .pl n c e=>.tup [.str (nS "plain"),.int n,.int (if c=true then 1 else 0),encE e]
 | .od n=>.tup [.str (nS "odd"),.int n]
noncomputable def jL:Sts→List V
 | .nil=>[]
 | .cons s r=>ZU s::jL r
noncomputable def Yg:Blk→V
 | .mk n l=>.tup [.int n,.tup (jL l)]
noncomputable def JT:jC→V
 | .none=>.none
 | .some b=>Yg b
noncomputable def YM:yg→List V
 | .nil=>[]
 | .cons p b r=>.tup [Qj p,Yg b]::YM r
end
end Wk
end
section
namespace Wk
noncomputable def exN (lo:Int) (e:Ex):Prop:=e.n=lo+1∧e.Ok
noncomputable abbrev Z:=Int×Int
noncomputable def wOE (z:Z):Option Ex→Z→Prop
 | none,y=>y=z
 | some e,y=>exN z.1 e∧y=(z.1+1,z.2)
mutual
noncomputable def wS (z:Z):St→Z→Prop
 | .sw n e ts,y=>n=z.1+1∧exN (z.1+1) e∧wT (z.1+1+1,z.2 - 1) ts y∧(YM ts).length≤3
 | .tr n a m sid b c,y=>n=z.1+1∧X2_5 (fun p _=>wB (z.1+1,z.2 - 1) a p) (fun p _=>(m=p.1+1∨m=0)) (fun p _=>(sid=10+(p.1+1)∨sid=0)) (fun p q=>wO (p.1+1,p.2) b q) (fun _ q=>wO q c y)
 | .fn n _ body _ _,y=>n=z.1+1∧y=(z.1+1,z.2 - 1)∧body < 3
 | .pl n _ e,y=>n=z.1+1∧exN (z.1+1) e∧y=(z.1+1+1,z.2 - 1)
 | .od n,y=>n=z.1+1∧y=(z.1+1,z.2 - 1)
noncomputable def wL (z:Z):Sts→Z→Prop
 | .nil,y=>y=z
 | .cons s r,y=>ZI (fun p=>wS z s p) fun p=>wL p r y
noncomputable def wB (z:Z):Blk→Z→Prop
 | .mk n l,y=>X1_4 (fun p=>wL z l p) (fun p=>n=p.1+1) (fun p=>y=(p.1+1,p.2)) fun _=>(jL l).length≤3
noncomputable def wO (z:Z):jC→Z→Prop
 | .none,y=>y=z
 | .some b,y=>wB z b y
noncomputable def wT (z:Z):yg→Z→Prop
 | .nil,y=>y=z
 | .cons p b r,y=>WP (fun q _=>wOE z p q) (fun q t=>wB q b t) fun _ t=>wT t r y
end
mutual
noncomputable def szS:St→Int
 | .sw _ _ ts=>1+szT ts
 | .tr _ first _ _ second last=>1+szB first+szO second+szO last
 | .fn _ _ _ _ _=>1
 | .pl _ _ _=>1
 | .od _=>1
noncomputable def szL:Sts→Int
 | .nil=>0
 | .cons s r=>szS s+szL r
noncomputable def szB:Blk→Int
 | .mk _ l=>szL l
noncomputable def szO:jC→Int
 | .none=>0
 | .some b=>szB b
noncomputable def szT:yg→Int
 | .nil=>0
 | .cons _ b r=>szB b+szT r
end
mutual
noncomputable def htS:St→Nat
 | .sw _ _ ts=>htT ts+1
 | .tr _ first _ _ second last=>max (htB first) (max (htO second) (htO last))+1
 | .fn _ _ _ _ _=>1
 | .pl _ _ _=>1
 | .od _=>1
noncomputable def htL:Sts→Nat
 | .nil=>0
 | .cons s r=>max (htS s) (htL r)
noncomputable def htB:Blk→Nat
 | .mk _ l=>htL l
noncomputable def htO:jC→Nat
 | .none=>0
 | .some b=>htB b
noncomputable def htT:yg→Nat
 | .nil=>0
 | .cons _ b r=>max (htB b) (htT r)
end
noncomputable def Nl (a b:Int):Prop:=a≤b∨0≤b
theorem Nl.rfl {a:Int}:Nl a a:=.inl (Int.le_refl a)
theorem Nl.trans {a b c:Int} (h:Nl a b) (k:Nl b c):Nl a c:=k.elim (fun k=>h.imp (Int.le_trans · k) (Int.le_trans · k)) .inr
section
variable (g:Nat→Nat)
noncomputable def cR (w:Nat):Nat:=it g 3 w+1
noncomputable def cT (w:Nat):Nat:=cR g w+28
end
noncomputable def cS:Nat→Nat→Nat
 | 0,w=>w+60
 | f+1,w=>it (cT (cS f)) 3 w+60
theorem it_w {g:Nat→Nat} (hg:∀w,w≤g w) (n w:Nat):w≤it g n w:=Jw hg (Nat.zero_le n)
theorem uK:∀f w,w≤cS f w
 | 0,w=>Nat.le_add_right _ _
 | f+1,w=>Nat.le_trans (it_w (fun u=>Nat.le_trans (Nat.le_succ_of_le (it_w (uK f) 3 u)) (Nat.le_add_right _ _)) 3 w) (Nat.le_add_right _ _)
theorem cT_le (f w:Nat):w≤cT (cS f) w:=Nat.le_trans (Nat.le_succ_of_le (it_w (uK f) 3 w)) (Nat.le_add_right _ _)
noncomputable def gSw (cf:CF) (zM zP zm x3:V) (k:K V):C:=cf 69 [zM,zP] fun x9=>zU (.list []) fun x10=>cf 64 [zM,zP,(.int 3)] fun x15=>zT .Add (.int 1) x15 fun x14=>zj 1 [x14] fun x13=>yL x13 (fun v11 k12=>(let j16:K V:=fun x17=>zR P0 x10 (nS "append") fun b20=>zT .Add zm (.int 1) fun x22=>cf 70 [zM,zP,x22] fun x21=>zN cf b20 [(.tup [x17,x21])] fun x19=>k12; cf 64 [zM,zP,(.int 5)] fun x25=>zL .Eq x25 (.int 4) fun x24=>zE x24 fun c23=>pIf c23 (j16 .none) (cf 69 [zM,zP] fun x26=>j16 x26))) (zj 2 [x10] fun x27=>k (.tup [(.str (nS "switch")),x3,x9,x27]))
noncomputable def gTr (cf:CF) (zM zP zm x3:V) (k:K V):C:=zT .Add zm (.int 1) fun x31=>cf 70 [zM,zP,x31] fun x30=>cf 64 [zM,zP,(.int 5)] fun x32=>cf 65 [zP] fun x33=>(let j34:K V:=fun x35=>(let j37:K V:=fun x38=>(let j40:K V:=fun x41=>(let j43:K V:=fun x44=>k (.tup [(.str (nS "try")),x3,x30,x41,x44,x35,x38]); zL .NotEq x32 (.int 3) fun x47=>zE x47 fun c46=>pIf c46 (zT .Add (.int 10) x33 fun x48=>j43 x48) (j43 (.int 0))); zL .NotEq x32 (.int 2) fun x50=>zE x50 fun c49=>pIf c49 (j40 x33) (j40 (.int 0))); zL .In x32 (.tup [(.int 0),(.int 4)]) fun x52=>zE x52 fun c51=>pIf c51 (zT .Add zm (.int 1) fun x54=>cf 70 [zM,zP,x54] fun x53=>j37 x53) (j37 .none)); pGt x32 (.int 0) fun x56=>zE x56 fun c55=>pIf c55 (zT .Add zm (.int 1) fun x58=>cf 70 [zM,zP,x58] fun x57=>j34 x57) (j34 .none))
noncomputable def gFn (cf:CF) (zM zP zm x3:V) (k:K V):C:=cf 64 [zM,zP,(.int 2)] fun x62=>zC (.str (nS "fg")) x62 fun x61=>cf 64 [zM,zP,(.int 3)] fun x63=>cf 64 [zM,zP,(.int 4)] fun x65=>zL .Eq x65 (.int 3) fun x64=>cf 64 [zM,zP,(.int 3)] fun x67=>zL .Eq x67 (.int 2) fun x66=>k (.tup [(.str (nS "func")),x3,x61,x63,x64,x66])
noncomputable def gBody (cf:CF) (zM zP zm x3:V) (k:K V) (p6:V):C:=pLt p6 (.int 4) fun x8=>zE x8 fun c7=>pIf c7 (gSw cf zM zP zm x3 k) (pLt p6 (.int 6) fun x29=>zE x29 fun c28=>pIf c28 (gTr cf zM zP zm x3 k) (pLt p6 (.int 8) fun x60=>zE x60 fun c59=>pIf c59 (gFn cf zM zP zm x3 k) (pLt p6 (.int 10) fun x69=>zE x69 fun c68=>pIf c68 (zT .Sub p6 (.int 8) fun x70=>cf 69 [zM,zP] fun x71=>k (.tup [(.str (nS "plain")),x3,x70,x71])) (k (.tup [(.str (nS "odd")),x3])))))
theorem wG (cf:CF) (zM zP zm:V) (k:K V):XN cf zM zP zm k=zC zP (.int 2) fun x2=>zT .Sub x2 (.int 1) fun x1=>zV zP (.int 2) x1 (cf 65 [zP] fun x3=>cf 64 [zM,zP,(.int 11)] fun x4=>(let j72:K Bool:=fun c73=>pIf c73 (zT .Mod x4 (.int 5) fun x75=>zT .Add (.int 6) x75 fun x74=>gBody cf zM zP zm x3 k x74) (gBody cf zM zP zm x3 k x4); pGt zm (.int 2) fun x77=>zE x77 fun c76=>pIf c76 (pLt x4 (.int 6) fun x79=>zE x79 fun c78=>pIf c78 (j72 true) (j72 false)) (j72 false))):=rfl
theorem Wi {x y:Int} {c d:C} {σ:zG} (h:x < y):(pLt (.int x) (.int y) fun v=>zE v fun b=>pIf b c d) σ=c σ:=congrArg (fun b=>pIf b c d σ) (decide_eq_true h)
theorem Z1 {x y:Int} {c d:C} {σ:zG} (h:¬x < y):(pLt (.int x) (.int y) fun v=>zE v fun b=>pIf b c d) σ=d σ:=congrArg (fun b=>pIf b c d σ) (decide_eq_false h)
theorem Xb {x y:Int} {c d:C} {σ:zG} (h:x > y):(pGt (.int x) (.int y) fun v=>zE v fun b=>pIf b c d) σ=c σ:=congrArg (fun b=>pIf b c d σ) (decide_eq_true h)
theorem Wj {x y:Int} {c d:C} {σ:zG} (h:¬x > y):(pGt (.int x) (.int y) fun v=>zE v fun b=>pIf b c d) σ=d σ:=congrArg (fun b=>pIf b c d σ) (decide_eq_false h)
theorem fg (r:Nat) (h:r < 2) (k:K V) (σ:zG):zC (.str (nS "fg")) (.int (r:Int)) k σ=k (yz (r==1)) σ:=by
 match r,h with
 | 0,_=>rfl
 | 1,_=>rfl
section
variable (A B:Nat) (ns:List Nat)
noncomputable def GenS (f:Nat):Prop:=∀ {N deep:Nat} {σ:zG} {z:Z} {w:Nat} {G:Prop},2*f+5≤N→deep+f=3→At A B ns σ z (cS f w)→(∀s y,wS z s y→htS s≤f+1→Nl (z.2 - 1) y.2→Go A B ns σ y w N 71 [.ref B,.ref A,.int deep] (ZU s) G)→G
noncomputable def GenR (f:Nat):Prop:=∀ {N deep:Nat} {σ:zG} {z:Z} {w:Nat} {G:Prop},2*f+6≤N→deep+f=3→At A B ns σ z (cR (cS f) w)→(∀b y,wB z b y→htB b≤f+1→Nl z.2 y.2→Go A B ns σ y w N 70 [.ref B,.ref A,.int deep] (Yg b) G)→G
end
section
variable {A B N deep n m:Nat} {ns:List Nat} {σ:zG} {z:Z} {w f:Nat} {G:Prop} {all:List V×Nat}
theorem At.new (S:At A B ns σ z w):¬σ.length=A∧¬B=σ.length:=⟨Nat.ne_of_gt S.lt,Nat.ne_of_lt (yV S.nums)⟩
theorem rowsL (ih:GenS A B ns f) (hN:2*f+5≤N) (hd:deep+f=3) (hA:¬n=A) (hB:¬B=n):∀ (rest:List V) {σ:zG} {z:Z} {acc:List V},At A B ns σ z (it (cS f) rest.length w)→σ[n]? =some (.list acc)→acc.length+rest.length≤3→
  (∀r y σ',wL z r y→htL r≤f+1→Nl z.2 y.2→Kp (fun i=>i=A∨i=n) σ σ'→At A B ns σ' y w→σ'[n]? =some (.list (acc++jL r))→(jL r).length≤rest.length→(∀kn:Unit→C,yO (.rng m) all (fun _ _ k=>zC (.ref A) (.int 2) fun x=>pGt x (.int 0) fun x=>zE x fun c=>pIf c (zR P0 (.ref n) (nS "append") fun b=>zA N 71 [.ref B,.ref A,.int deep] fun x=>zN (zA N) b [x] fun _=>k ()) (k ())) kn rest () σ=kn () σ')→G)→G:=by
 intro rest
 induction rest with
 | nil=>intro σ z acc S g _ out; exact out .nil z σ rfl (Nat.zero_le _) .rfl .rfl S (by rw [jL,List.append_nil]; exact g) (Nat.le_refl _) fun _=>rfl
 | cons v rest ih2=>
  intro σ z acc S g hl out
  obtain ⟨a,_,ga⟩:=S.cnt
  by_cases h:z.2 > 0
  ·refine ih hN hd S fun s y ws hs ns σ1 K1 S1 e1=>?_
   have g1:=K1.get g hA
   have K2:Kp (·=n) σ1 (σ1.set n (.list (acc++[ZU s]))):=Kp.set rfl
   refine ih2 (S1.kpX K2 (fun e=>hA e.symm) hB) (yE g1) (by rw [List.length_append,Nat.add_assoc,Nat.add_comm [_].length]; exact hl) fun r y' σ3 wr hr nr K3 S3 g3 l3 e3=>?_
   exact out (.cons s r) y' σ3 ⟨y,ws,wr⟩ (Nat.max_le.mpr ⟨hs,hr⟩) (.inr (nr.elim (Int.le_trans (ns.elim (Int.le_trans (Int.le_sub_one_of_lt h)) id)) id)) ((K1.or.trans (K2.mono fun _=>.inr)).trans K3) S3 (by rw [g3,List.append_assoc]; rfl) (Nat.succ_le_succ l3) fun kn=>(s_l2 ga (ltb rfl)).trans ((Xb h).trans ((yd g).trans ((e1 _).trans ((yK g1 (lm (Nat.le_trans (Nat.le_add_right _ _) hl) rfl)).trans (e3 kn)))))
  ·exact ih2 (S.le (uK f _)) g (Nat.le_of_succ_le hl) fun r y σ' a b c d e f l q=>out r y σ' a b c d e f (Nat.le_succ_of_le l) fun kn=>(s_l2 ga (ltb rfl)).trans ((Wj h).trans (q kn))
theorem genR (ih:GenS A B ns f):GenR A B ns f:=fun {N deep σ z w G} hN hd S out=>by
 obtain ⟨M,rfl,hM⟩:=suc hN
 have h1:1≤M:=Nat.le_trans (Nat.le_trans (leb rfl) (Nat.le_add_left 5 (2*f))) hM
 obtain ⟨hA,hB⟩:=S.new
 refine Jr (S.kp (Kp.push (o:=.list []))) h1 4 (leb rfl) fun d hd4 σ2 K2 S2 e2=>?_
 have lr:((List.range d).map fun (i:Nat)=>V.int i).length≤3:=by rw [List.length_map,List.length_range]; exact Nat.le_of_lt_succ hd4
 have hd5:d < 100000:=Nat.lt_trans hd4 (ltb rfl)
 refine rowsL (n:=σ.length) (m:=d) (all:=((List.range d).map fun (i:Nat)=>V.int i,0)) ih hM hd hA hB ((List.range d).map fun (i:Nat)=>V.int i) (acc:=[]) (S2.le (Jw (uK f) lr)) (K2.get zS hA) (by rw [List.length_nil,Nat.zero_add]; exact lr) fun l y σ3 wl hl nl K3 S3 g3 ll e3=>?_
 refine next S3 h1 fun σ4 K4 S4 e4=>?_
 have l3:=Nat.le_trans ll lr
 exact out (.mk (y.1+1) l) (y.1+1,y.2) ⟨y,wl,rfl,rfl,l3⟩ hl nl σ4 (((Kp.push.trans K2).two K3 (Nat.le_refl _)).trans K4) S4 fun k=>c70.trans (ZY.trans ((e2 _).trans ((Zz hd5).trans ((jP (jU hd5)).trans ((e3 _).trans ((e4 _).trans (XB (K4.get g3 hA) (lm l3 rfl))))))))
theorem probe (S:At A B ns σ z (w+28)) (hN:4≤N) (out:∀p y σ',wOE z p y→y.2=z.2→Kp (·=A) σ σ'→At A B ns σ' y w→(∀k:K V,(zA N 64 [.ref B,.ref A,.int 5] fun x=>zL .Eq x (.int 4) fun x=>zE x fun c=>pIf c (k .none) (zA N 69 [.ref B,.ref A] fun x=>k x)) σ=k (Qj p) σ')→G):G:=by
 refine Jr (w:=w+27) S (Nat.le_trans (leb rfl) hN) 5 (leb rfl) fun d _ σ1 K1 S1 e1=>?_
 by_cases h:(d:Int)=4
 ·exact out none z σ1 rfl rfl K1 (S1.le (Nat.le_add_right _ _)) fun k=>(e1 _).trans (ZZ (decide_eq_true h))
 ·exact expr S1 hN fun e h1 h2 σ2 K2 S2 e2=>out (some e) _ σ2 ⟨⟨h1,h2⟩,rfl⟩ rfl (K1.trans K2) S2 fun k=>(e1 _).trans ((ZZ (decide_eq_false h)).trans (e2 _))
noncomputable def bTest (cf:CF) (nums at' deep x:V) (k:C):C:=(fun j:K V=>cf 64 [nums,at',.int 5] fun x=>zL .Eq x (.int 4) fun x=>zE x fun c=>pIf c (j .none) (cf 69 [nums,at'] fun x=>j x)) fun p=>zR P0 x (nS "append") fun b=>zT .Add deep (.int 1) fun y=>cf 70 [nums,at',y] fun y=>zN cf b [.tup [p,y]] fun _=>k
theorem testsL (ih:GenR A B ns f) (hN:2*f+6≤N) (hd:deep+1+f=3) (hA:¬n=A) (hB:¬B=n):∀ (rest:List V) {σ:zG} {z:Z} {acc:List V},At A B ns σ z (it (cT (cS f)) rest.length w)→σ[n]? =some (.list acc)→acc.length+rest.length≤3→
  (∀r y σ',wT z r y→htT r≤f+1→Nl z.2 y.2→Kp (fun i=>i=A∨i=n) σ σ'→At A B ns σ' y w→σ'[n]? =some (.list (acc++YM r))→(YM r).length=rest.length→(∀kn:Unit→C,yO (.rng m) all (fun _ _ k=>bTest (zA N) (.ref B) (.ref A) (.int deep) (.ref n) (k ())) kn rest () σ=kn () σ')→G)→G:=by
 intro rest
 induction rest with
 | nil=>intro σ z acc S g _ out; exact out .nil z σ rfl (Nat.zero_le _) .rfl .rfl S (by rw [YM,List.append_nil]; exact g) rfl fun _=>rfl
 | cons v rest ih2=>
  intro σ z acc S g hl out
  refine probe S (Nat.le_trans (Nat.le_trans (leb rfl) (Nat.le_add_left 6 (2*f))) hN) fun p y σ1 wp hy K1 S1 e1=>?_
  refine ih (deep:=deep+1) hN hd S1 fun b u wb hb nb σ2 K2 S2 e2=>?_
  have g2:=K2.get (K1.get g hA) hA
  have K3:Kp (·=n) σ2 (σ2.set n (.list (acc++[.tup [Qj p,Yg b]]))):=Kp.set rfl
  refine ih2 (S2.kpX K3 (fun e=>hA e.symm) hB) (yE g2) (by rw [List.length_append,Nat.add_assoc,Nat.add_comm [_].length]; exact hl) fun r t σ4 wr hr nr K4 S4 g4 l4 e4=>?_
  exact out (.cons p b r) t σ4 ⟨y,u,wp,wb,wr⟩ (Nat.max_le.mpr ⟨hb,hr⟩) ((hy▸nb).trans nr) (((K1.trans K2).or.trans (K3.mono fun _=>.inr)).trans K4) S4 (by rw [g4,List.append_assoc]; rfl) (congrArg (·+1) l4) fun kn=>(e1 fun p=>zR P0 (.ref n) (nS "append") fun b=>zA N 70 [.ref B,.ref A,.int (deep+1:Nat)] fun y=>zN (zA N) b [.tup [p,y]] _).trans ((yd (K1.get g hA)).trans ((e2 _).trans ((yK g2 (lm (Nat.le_trans (Nat.le_add_right _ _) hl) rfl)).trans (e4 kn))))
theorem s_range1 {d:Nat} {k:K V} (h:1+d < 100000):zj 1 [.int (1+(d:Int))] k σ=k (.rng (1+d)) σ:=by
 rw [show (1:Int)+d=((1+d:Nat):Int) from (Int.natCast_add 1 d).symm]; exact Zz h
theorem genSw (ih:GenR A B ns f) (hN:2*f+6≤N) (hd:deep+1+f=3) (x:Int) (S:At A B ns σ z (it (cT (cS f)) 3 w+28)) (out:∀e ts y σ',exN z.1 e→wT (z.1+1,z.2) ts y→(YM ts).length≤3→htT ts≤f+1→Nl z.2 y.2→Kp (·=A) σ σ'→At A B ns σ' y w→(∀k,gSw (zA N) (.ref B) (.ref A) (.int deep) (.int x) k σ=k (ZU (.sw x e ts)) σ')→G):G:=by
 have h4:4≤N:=Nat.le_trans (Nat.le_trans (leb rfl) (Nat.le_add_left 6 (2*f))) hN
 refine expr (w:=it (cT (cS f)) 3 w+1) S h4 fun e h1 h2 σ1 K1 S1 e1=>?_
 obtain ⟨hA,hB⟩:=S1.new
 refine Jr (S1.kp (Kp.push (o:=.list []))) (Nat.le_trans (leb rfl) h4) 3 (leb rfl) fun d hd3 σ2 K2 S2 e2=>?_
 have lr:((List.range (1+d)).map fun (i:Nat)=>V.int i).length=1+d:=by rw [List.length_map,List.length_range]
 have l3:1+d≤3:=Nat.add_comm 1 d▸hd3
 have hd5:1+d < 100000:=lm l3 rfl
 have lr3:=Nat.le_trans (Nat.le_of_eq lr) l3
 refine testsL (n:=σ1.length) (m:=1+d) (all:=((List.range (1+d)).map fun (i:Nat)=>V.int i,0)) ih hN hd hA hB ((List.range (1+d)).map fun (i:Nat)=>V.int i) (acc:=[]) (S2.le (Jw (cT_le f) lr3)) (K2.get zS hA) (by rw [List.length_nil,Nat.zero_add]; exact lr3) fun ts y σ3 wt ht nt K3 S3 g3 ll e3=>?_
 have lt:=Nat.le_trans (Nat.le_of_eq ll) lr3
 exact out e ts y σ3 ⟨h1,h2⟩ wt lt ht nt (K1.trans ((Kp.push.trans K2).two K3 (Nat.le_refl _))) S3 fun k=>(e1 _).trans ((e2 _).trans ((s_add _ _).trans ((s_range1 hd5).trans ((jP (jU hd5)).trans ((e3 _).trans (XB g3 (lm lt rfl)))))))
theorem optR (ih:GenR A B ns f) (hN:2*f+6≤N) (hd:deep+1+f=3) (S:At A B ns σ z (cR (cS f) w)) (b:Bool) (out:∀o y σ',wO z o y→htO o≤f+1→Nl z.2 y.2→Kp (·=A) σ σ'→At A B ns σ' y w→(∀k:K V,pIf b (zT .Add (.int deep) (.int 1) fun x=>zA N 70 [.ref B,.ref A,x] fun x=>k x) (k .none) σ=k (JT o) σ')→G):G:=by
 cases b with
 | true=>exact ih (deep:=deep+1) hN hd S fun b y wb hb nb σ1 K1 S1 e1=>out (.some b) y σ1 wb hb nb K1 S1 fun k=>e1 k
 | false=>exact out .none z σ rfl (Nat.zero_le _) .rfl Kp.rfl (S.le (Nat.le_succ_of_le (it_w (uK f) 3 w))) fun _=>rfl
theorem genTr (ih:GenR A B ns f) (hN:2*f+6≤N) (hd:deep+1+f=3) (x:Int) (S:At A B ns σ z (it (cT (cS f)) 3 w)) (out:∀a m sid b c p q y σ',wB z a p→(m=p.1+1∨m=0)→(sid=10+(p.1+1)∨sid=0)→wO (p.1+1,p.2) b q→wO q c y→max (htB a) (max (htO b) (htO c))≤f+1→Nl z.2 y.2→Kp (·=A) σ σ'→At A B ns σ' y w→(∀k,gTr (zA N) (.ref B) (.ref A) (.int deep) (.int x) k σ=k (ZU (.tr x a m sid b c)) σ')→G):G:=by
 have h1:1≤N:=Nat.le_trans (Nat.le_trans (leb rfl) (Nat.le_add_left 6 (2*f))) hN
 refine ih (deep:=deep+1) hN hd (S.le (Nat.le_add_right _ 28)) fun a p wa ha na σ1 K1 S1 e1=>?_
 refine Jr (w:=cR (cS f) (it (cT (cS f)) 1 w)+27) S1 h1 5 (leb rfl) fun d _ σ2 K2 S2 e2=>?_
 refine next (S2.le (Nat.le_add_right _ 27)) h1 fun σ3 K3 S3 e3=>?_
 refine optR ih hN hd S3 (decide ((d:Int) > 0)) fun b q σ4 wb hb nb K4 S4 e4=>?_
 refine optR ih hN hd (S4.le (Nat.le_add_right _ 28)) ([V.int 0,.int 4].any fun y=>eqV y (.int d)) fun c y σ5 wc hc nc K5 S5 e5=>?_
 have K12:=K1.trans K2
 have K15:=K12.trans (K3.trans (K4.trans K5))
 have mx:=Nat.max_le.mpr ⟨ha,Nat.max_le.mpr ⟨hb,hc⟩⟩
 have nz:=na.trans (nb.trans nc)
 have pre:∀ {k:K V},gTr (zA N) (.ref B) (.ref A) (.int deep) (.int x) k σ=(zL .NotEq (.int d) (.int 2) fun x50=>zE x50 fun c49=>pIf c49 ((fun x41=>zL .NotEq (.int d) (.int 3) fun x47=>zE x47 fun c46=>pIf c46 (k (.tup [.str (nS "try"),.int x,Yg a,x41,.int (10+(p.1+1)),JT b,JT c])) (k (.tup [.str (nS "try"),.int x,Yg a,x41,.int 0,JT b,JT c]))) (.int (p.1+1))) ((fun x41=>zL .NotEq (.int d) (.int 3) fun x47=>zE x47 fun c46=>pIf c46 (k (.tup [.str (nS "try"),.int x,Yg a,x41,.int (10+(p.1+1)),JT b,JT c])) (k (.tup [.str (nS "try"),.int x,Yg a,x41,.int 0,JT b,JT c]))) (.int 0))) σ5:=(e1 _).trans ((e2 _).trans ((e3 _).trans ((e4 _).trans ((s_inT (v:=.int d) rfl (List.all_eq_true.mp rfl)).trans (e5 _)))))
 by_cases h2:(d:Int)=2
 ·exact out a 0 (10+(p.1+1)) b c p q y σ5 wa (.inr rfl) (.inl rfl) wb wc mx nz K15 S5 fun k=>pre.trans ((ZB _ _).trans (by rw [h2]; exact ZB _ _))
 by_cases h3:(d:Int)=3
 ·exact out a (p.1+1) 0 b c p q y σ5 wa (.inl rfl) (.inr rfl) wb wc mx nz K15 S5 fun k=>pre.trans ((ZB _ _).trans (by rw [h3]; exact ZB _ _))
 ·exact out a (p.1+1) (10+(p.1+1)) b c p q y σ5 wa (.inl rfl) (.inl rfl) wb wc mx nz K15 S5 fun k=>pre.trans ((ZB _ _).trans (by rw [decide_eq_false h2]; exact (ZB _ _).trans (by rw [decide_eq_false h3]; rfl)))
theorem genFn (hN:1≤N) (x:Int) (S:At A B ns σ z (w+4)) (out:∀nm (bd:Nat) lone exp σ',bd < 3→Kp (·=A) σ σ'→At A B ns σ' z w→(∀k,gFn (zA N) (.ref B) (.ref A) (.int deep) (.int x) k σ=k (ZU (.fn x nm bd lone exp)) σ')→G):G:=by
 refine Jr (w:=w+3) S hN 2 (leb rfl) fun d1 hd1 σ1 K1 S1 e1=>Jr (w:=w+2) S1 hN 3 (leb rfl) fun d2 hd2 σ2 K2 S2 e2=>Jr (w:=w+1) S2 hN 4 (leb rfl) fun d3 _ σ3 K3 S3 e3=>Jr S3 hN 3 (leb rfl) fun d4 _ σ4 K4 S4 e4=>?_
 exact out (d1==1) d2 (decide ((d3:Int)=3)) (decide ((d4:Int)=2)) σ4 hd2 ((K1.trans K2).trans (K3.trans K4)) S4 fun k=>(e1 _).trans ((fg d1 hd1 _ _).trans ((e2 _).trans ((e3 _).trans ((ym _ _).trans ((e4 _).trans (ym _ _))))))
theorem genS' (f:Nat) (ih:∀f' < f,GenS A B ns f'):GenS A B ns f:=fun {N deep σ z w G} hN hd S out=>by
 obtain ⟨M,rfl,hM⟩:=suc hN
 have h4:4≤M:=Nat.le_trans (Nat.le_add_left 4 (2*f)) hM
 have h1:1≤M:=Nat.le_trans (leb rfl) h4
 obtain ⟨a,la,ga⟩:=S.cnt
 have S0:At A B ns _ (z.1,z.2 - 1) (cS f w):=S.put (z':=(z.1,z.2 - 1)) la
 have K0:Kp (·=A) σ (σ.set A (.list [.int a,.int z.1,.int (z.2 - 1)])):=kpA
 have room:∃u,cS f w=u+60∧w≤u∧∀f',f=f'+1→u=it (cT (cS f')) 3 w:=match f with
  | 0=>⟨w,rfl,Nat.le_refl _,nofun⟩
  | f+1=>⟨_,rfl,it_w (cT_le f) 3 w,fun _ e=>by cases e; rfl⟩
 obtain ⟨u,eu,lu,hu⟩:=room
 rw [eu] at S0
 refine next S0 h1 fun σ1 K1 S1 e1=>Jr (w:=u+59) S1 h1 11 (leb rfl) fun d hd11 σ3 K3 S3 e3=>?_
 have K03:=K0.trans (K1.trans K3)
 have pick:∃q:Nat,q < 11∧(q < 6→deep≤2)∧∀k,zA (M+1) 71 [.ref B,.ref A,.int deep] k σ=gBody (zA M) (.ref B) (.ref A) (.int deep) (.int (z.1+1)) k (.int q) σ3:=by
  have pre:∀k,zA (M+1) 71 [.ref B,.ref A,.int deep] k σ=(fun j:K Bool=>pGt (.int deep) (.int 2) fun x77=>zE x77 fun c76=>pIf c76 (pLt (.int d) (.int 6) fun x79=>zE x79 fun c78=>pIf c78 (j true) (j false)) (j false)) (fun c73=>pIf c73 (zT .Mod (.int d) (.int 5) fun x75=>zT .Add (.int 6) x75 fun x74=>gBody (zA M) (.ref B) (.ref A) (.int deep) (.int (z.1+1)) k x74) (gBody (zA M) (.ref B) (.ref A) (.int deep) (.int (z.1+1)) k (.int d))) σ3:=fun k=>c71.trans ((congrFun (wG _ _ _ _ _) _).trans ((s_l2 ga (ltb rfl)).trans ((s_set2 ga (ltb rfl)).trans ((e1 _).trans (e3 _)))))
  by_cases g1:(deep:Int) > 2
  ·by_cases g2:(d:Int) < 6
   ·exact ⟨6+d % 5,Nat.add_lt_add_left (Nat.mod_lt _ (leb rfl)) 6,fun h=>absurd h (Nat.not_lt.mpr (Nat.le_add_right _ _)),fun k=>(pre k).trans ((Xb g1).trans ((Wi g2).trans (s_modN (n:=5) (leb rfl))))⟩
   ·exact ⟨d,hd11,fun h=>absurd (Int.ofNat_lt.mpr h) g2,fun k=>(pre k).trans ((Xb g1).trans (Z1 g2))⟩
  ·exact ⟨d,hd11,fun _=>Int.ofNat_le.mp (Int.not_lt.mp g1),fun k=>(pre k).trans (Wj g1)⟩
 obtain ⟨q,hq,hq6,pre⟩:=pick
 have sub:(q:Int) < 6→∃f',f=f'+1:=fun h=>match f,hd with
  | 0,hd=>absurd (hq6 (Int.ofNat_lt.mp h)) (by rw [show deep=3 from hd]; decide)
  | f+1,_=>⟨f,rfl⟩
 by_cases q4:(q:Int) < 4
 ·obtain ⟨f,rfl⟩:=sub (Int.lt_trans q4 (by decide))
  refine genSw (genR (ih f (Nat.lt_succ_self f))) hM ((Nat.add_right_comm deep 1 f).trans hd) (z.1+1) (w:=w) (hu f rfl▸S3.le (Nat.add_le_add_left (leb rfl) u)) fun e ts y σ4 he wt lt ht nt K4 S4 e4=>?_
  exact out (.sw (z.1+1) e ts) y ⟨rfl,he,wt,lt⟩ (Nat.succ_le_succ ht) nt σ4 (K03.trans K4) S4 fun k=>(pre k).trans ((Wi q4).trans (e4 k))
 by_cases q6:(q:Int) < 6
 ·obtain ⟨f,rfl⟩:=sub q6
  refine genTr (genR (ih f (Nat.lt_succ_self f))) hM ((Nat.add_right_comm deep 1 f).trans hd) (z.1+1) (w:=w) (hu f rfl▸S3.le (Nat.le_add_right u _)) fun a m sid b c p q y σ4 wa hm hs wb wc ht nt K4 S4 e4=>?_
  exact out (.tr (z.1+1) a m sid b c) y ⟨rfl,p,q,wa,hm,hs,wb,wc⟩ (Nat.succ_le_succ ht) nt σ4 (K03.trans K4) S4 fun k=>(pre k).trans ((Z1 q4).trans ((Wi q6).trans (e4 k)))
 by_cases q8:(q:Int) < 8
 ·refine genFn (deep:=deep) h1 (z.1+1) (w:=w) (S3.le (Nat.le_trans (Nat.add_le_add_right lu 4) (Nat.add_le_add_left (leb rfl) u))) fun nm bd lone exp σ4 hb K4 S4 e4=>?_
  exact out (.fn (z.1+1) nm bd lone exp) _ ⟨rfl,rfl,hb⟩ (Nat.succ_le_succ (Nat.zero_le f)) .rfl σ4 (K03.trans K4) S4 fun k=>(pre k).trans ((Z1 q4).trans ((Z1 q6).trans ((Wi q8).trans (e4 k))))
 by_cases q10:(q:Int) < 10
 ·refine expr (w:=w) (S3.le (Nat.le_trans (Nat.add_le_add_right lu 27) (Nat.add_le_add_left (leb rfl) u))) h4 fun e he1 he2 σ4 K4 S4 e4=>?_
  have c2:∃c:Bool,(q:Int) - 8=if c=true then 1 else 0:=by
   rcases Int.lt_or_eq_of_le (Int.le_of_lt_add_one (b:=9) q10) with h | h
   ·exact ⟨false,by rw [Int.le_antisymm (Int.le_of_lt_add_one (b:=8) h) (Int.not_lt.mp q8)]; rfl⟩
   ·exact ⟨true,by rw [h]; rfl⟩
  obtain ⟨c,ec⟩:=c2
  exact out (.pl (z.1+1) c e) _ ⟨rfl,⟨he1,he2⟩,rfl⟩ (Nat.succ_le_succ (Nat.zero_le f)) .rfl σ4 (K03.trans K4) S4 fun k=>(pre k).trans ((Z1 q4).trans ((Z1 q6).trans ((Z1 q8).trans ((Wi q10).trans ((e4 _).trans (by rw [ec]; rfl))))))
 ·exact out (.od (z.1+1)) _ ⟨rfl,rfl⟩ (Nat.succ_le_succ (Nat.zero_le f)) .rfl σ3 K03 (S3.le (Nat.le_trans lu (Nat.le_add_right u _))) fun k=>(pre k).trans ((Z1 q4).trans ((Z1 q6).trans ((Z1 q8).trans (Z1 q10))))
theorem genS (f:Nat):GenS A B ns f:=Nat.strongRecOn (motive:=GenS A B ns) f fun f ih=>genS' f ih
end
end Wk
end
section
namespace Wk
noncomputable def jk (e:Ex):Kd:=match e.kd with
 | none=>⟨8192,0,[]⟩
 | some k=>k.kd
noncomputable def wN (e:Ex):List (Int×Int):=match e.kd with
 | none=>[(9002,e.n)]
 | some _=>[]
noncomputable def Jy (s t:Kd):Bool:=([V.tup [.int 256,.int 0,.tup []],.tup [.int 512,.int 0,.tup []]].any fun y=>eqV y (zx s))||decide (Builtin.bitAnd (Builtin.bitOr s.reg t.reg) 14336 > 0)
noncomputable def JY (s t:Kd):List V:=s.rows.filter fun v=>t.rows.any fun y=>eqV y v
noncomputable def isZ (s:Kd):Bool:=eqV (zx s) (.tup [.int 0,.int 0,.tup []])
noncomputable def Jv (k:Kd):Int:=
 let b:=Builtin.bitOr k.reg k.new
 Builtin.bitOr (Builtin.bitOr (Builtin.bitOr b (bif Builtin.bitAnd b 4 !=0 then 3 else 0)) (bif Builtin.bitAnd b 32 !=0 then 24 else 0)) (bif Builtin.bitAnd b 1024 !=0 then 512 else 0)
noncomputable def meetK (plain:Bool) (s t:Kd):Bool:=match plain with
 | false=>(decide (s.reg=t.reg)&&decide (s.new=t.new))&&(decide ((JY s t).length=s.rows.length)&&decide (s.rows.length=t.rows.length))
 | true=>isZ s||(isZ t||((Builtin.bitAnd (Builtin.bitOr s.reg s.new) (Jv t) !=0)||((Builtin.bitAnd (Builtin.bitOr t.reg t.new) (Jv s) !=0)||decide ((JY s t).length > 0))))
noncomputable def Yq:St→Sts→List (Int×Int)
 | .fn n name body lone _,r=>if lone=true∨body≠0 then [] else (match r with
   | .cons (.fn n' name' body' lone' _) _=>if lone'=true then [(2391,n)] else if name'=name then [] else if body'≠0 then [(2389,n')] else [(2391,n)]
   | _=>[(2391,n)])
 | _,_=>[]
section
variable (pl:Bool)
mutual
noncomputable def tlS:St→List (Int×Int)
 | .sw _ e ts=>wN e++tlT (jk e) ts
 | .tr _ first _ _ second last=>tlB first++(tlO second++tlO last)
 | .fn _ _ _ _ _=>[]
 | .pl _ _ e=>wN e
 | .od n=>[(9002,n)]
noncomputable def tlL:Sts→List (Int×Int)
 | .nil=>[]
 | .cons s r=>Yq s r++(tlS s++tlL r)
noncomputable def tlB:Blk→List (Int×Int)
 | .mk _ l=>tlL l
noncomputable def tlO:jC→List (Int×Int)
 | .none=>[]
 | .some b=>tlB b
noncomputable def tlT (t:Kd):yg→List (Int×Int)
 | .nil=>[]
 | .cons none b r=>tlB b++tlT t r
 | .cons (some e) b r=>wN e++((if (Jy (jk e) t||meetK pl (jk e) t)=true then [] else [(2367,e.n)])++(tlB b++tlT t r))
end
end
mutual
noncomputable def ntS:St→List Int
 | .sw _ _ ts=>ntT ts
 | .tr _ first _ _ second last=>ntB first++(ntO second++ntO last)
 | .fn n _ _ lone _=>if lone=true then [n] else []
 | .pl _ _ _=>[]
 | .od _=>[]
noncomputable def ntL:Sts→List Int
 | .nil=>[]
 | .cons s r=>ntS s++ntL r
noncomputable def ntB:Blk→List Int
 | .mk _ l=>ntL l
noncomputable def ntO:jC→List Int
 | .none=>[]
 | .some b=>ntB b
noncomputable def ntT:yg→List Int
 | .nil=>[]
 | .cons _ b r=>ntB b++ntT r
end
noncomputable def hdC (m sid:Int):List Int:=if m > 0∧sid > 0 then [sid] else []
mutual
noncomputable def hdS:St→List Int
 | .sw _ _ ts=>hdT ts
 | .tr _ first m sid second last=>hdB first++(hdP m sid second++hdO last)
 | .fn _ _ _ _ _=>[]
 | .pl _ _ _=>[]
 | .od _=>[]
noncomputable def hdL:Sts→List Int
 | .nil=>[]
 | .cons s r=>hdS s++hdL r
noncomputable def hdB:Blk→List Int
 | .mk _ l=>hdL l
noncomputable def hdO:jC→List Int
 | .none=>[]
 | .some b=>hdB b
noncomputable def hdP (m sid:Int):jC→List Int
 | .none=>[]
 | .some b=>hdC m sid++hdB b
noncomputable def hdT:yg→List Int
 | .nil=>[]
 | .cons _ b r=>hdB b++hdT r
end
noncomputable def jN (l:List Int) (s:Int):List Int:=if s∈l then l else l++[s]
noncomputable def UR (l:List Int):List (V×V):=l.map fun s=>(.int s,.tup [.int 2048,.int 0,.tup []])
noncomputable def JU (p:Int×Int):V:=.tup [.int p.1,.int p.2]
noncomputable def wH (n:Int):V:=.tup [.int 19,.int n]
theorem dGet_int {l:List Int} {s:Int} {f:Int→V}:dHas (.int s) (l.map fun s=>(V.int s,f s))=decide (s∈l):=by
 unfold dHas
 rw [List.any_map]
 induction l with
 | nil=>rfl
 | cons a r ih=>
  rw [List.any_cons,ih]
  simp [eqV,eq_comm]
theorem dPut_encD {l:List Int} {s:Int}:ZH (.int s) (.tup [.int 2048,.int 0,.tup []]) (UR l)=UR (jN l s):=by
 unfold ZH UR jN
 rw [dGet_int]
 by_cases h:s∈l
 ·rw [decide_eq_true h,if_pos h]
  simp only [List.map_map]
  refine List.map_congr_left fun x _=>?_
  simp only [Function.comp,putE]
  cases eqV (V.int x) (V.int s)<;>rfl
 ·rw [decide_eq_false h,if_neg h]
  simp
theorem wn {l:List Int} {s:Int} {f:Int→V}:yP (.int s) (l.map fun s=>(V.int s,f s))=true:=by
 unfold yP
 rw [List.all_map]
 exact List.all_eq_true.mpr fun _ _=>rfl
noncomputable def tgOk (a b:Str) (r:Bool):Bool:=yW (.str a)&&(yW (.str b)&&(decide (a=b)==r))
theorem tg {a b:Str} {r:Bool} (h:tgOk a b r=true) {k:K V} {σ:zG}:zL .Eq (.str a) (.str b) k σ=k (.bool r) σ:=by
 obtain ⟨h1,h2⟩:=zW h
 obtain ⟨h2,h3⟩:=zW h2
 refine (s_eqG (show (yW (.str a)&&yW (.str b)&&true&&true)=true by rw [h1,h2]; rfl)).trans ?_
 rw [eqV_str,eq_of_beq h3]
section
variable {k:K V} {σ:zG}
theorem t_11:zL .Eq (.str (nS "switch")) (.str (nS "switch")) k σ=k (.bool true) σ:=tg (by kernel_rfl)
theorem t_12:zL .Eq (.str (nS "switch")) (.str (nS "try")) k σ=k (.bool false) σ:=tg (by kernel_rfl)
theorem t_13:zL .Eq (.str (nS "switch")) (.str (nS "func")) k σ=k (.bool false) σ:=tg (by kernel_rfl)
theorem t_14:zL .Eq (.str (nS "switch")) (.str (nS "plain")) k σ=k (.bool false) σ:=tg (by kernel_rfl)
theorem t_15:zL .Eq (.str (nS "switch")) (.str (nS "odd")) k σ=k (.bool false) σ:=tg (by kernel_rfl)
theorem t_21:zL .Eq (.str (nS "try")) (.str (nS "switch")) k σ=k (.bool false) σ:=tg (by kernel_rfl)
theorem t_22:zL .Eq (.str (nS "try")) (.str (nS "try")) k σ=k (.bool true) σ:=tg (by kernel_rfl)
theorem t_23:zL .Eq (.str (nS "try")) (.str (nS "func")) k σ=k (.bool false) σ:=tg (by kernel_rfl)
theorem t_24:zL .Eq (.str (nS "try")) (.str (nS "plain")) k σ=k (.bool false) σ:=tg (by kernel_rfl)
theorem t_25:zL .Eq (.str (nS "try")) (.str (nS "odd")) k σ=k (.bool false) σ:=tg (by kernel_rfl)
theorem t_31:zL .Eq (.str (nS "func")) (.str (nS "switch")) k σ=k (.bool false) σ:=tg (by kernel_rfl)
theorem t_32:zL .Eq (.str (nS "func")) (.str (nS "try")) k σ=k (.bool false) σ:=tg (by kernel_rfl)
theorem t_33:zL .Eq (.str (nS "func")) (.str (nS "func")) k σ=k (.bool true) σ:=tg (by kernel_rfl)
theorem t_34:zL .Eq (.str (nS "func")) (.str (nS "plain")) k σ=k (.bool false) σ:=tg (by kernel_rfl)
theorem t_35:zL .Eq (.str (nS "func")) (.str (nS "odd")) k σ=k (.bool false) σ:=tg (by kernel_rfl)
theorem t_41:zL .Eq (.str (nS "plain")) (.str (nS "switch")) k σ=k (.bool false) σ:=tg (by kernel_rfl)
theorem t_42:zL .Eq (.str (nS "plain")) (.str (nS "try")) k σ=k (.bool false) σ:=tg (by kernel_rfl)
theorem t_43:zL .Eq (.str (nS "plain")) (.str (nS "func")) k σ=k (.bool false) σ:=tg (by kernel_rfl)
theorem t_44:zL .Eq (.str (nS "plain")) (.str (nS "plain")) k σ=k (.bool true) σ:=tg (by kernel_rfl)
theorem t_45:zL .Eq (.str (nS "plain")) (.str (nS "odd")) k σ=k (.bool false) σ:=tg (by kernel_rfl)
theorem t_51:zL .Eq (.str (nS "odd")) (.str (nS "switch")) k σ=k (.bool false) σ:=tg (by kernel_rfl)
theorem t_52:zL .Eq (.str (nS "odd")) (.str (nS "try")) k σ=k (.bool false) σ:=tg (by kernel_rfl)
theorem t_53:zL .Eq (.str (nS "odd")) (.str (nS "func")) k σ=k (.bool false) σ:=tg (by kernel_rfl)
theorem t_54:zL .Eq (.str (nS "odd")) (.str (nS "plain")) k σ=k (.bool false) σ:=tg (by kernel_rfl)
theorem t_55:zL .Eq (.str (nS "odd")) (.str (nS "odd")) k σ=k (.bool true) σ:=tg (by kernel_rfl)
end
end Wk
end
section
namespace Wk
structure Q2 (k:Kd):Prop where
 len:k.rows.length≤16
 ok:yq k.rows
theorem joinF_ok {x y:Int} {r:List V} (h:yq r∧r.length≤16):Q2 (Z4 x y r):=by
 unfold Z4
 rcases (Builtin.bitAnd x 4096 !=0) with _ | _<;>rcases (Builtin.bitAnd x 8192 !=0) with _ | _<;>rcases (Builtin.bitAnd x 2048 !=0) with _ | _<;>first | exact ⟨leb rfl,nofun⟩ | exact ⟨h.2,h.1⟩
theorem ExK.kd_ok {e:ExK} (h:e.Ok):Q2 e.kd:=joinF_ok (kinds_ok (r:=e.r) (f:=e.f) h.len).join
theorem kdOf_ok {e:Ex} (h:e.Ok):Q2 (jk e):=by
 unfold jk
 rcases q:e.kd with _ | k
 ·exact ⟨leb rfl,nofun⟩
 ·exact ExK.kd_ok (h k q)
noncomputable def fit60 (v:V):Prop:=yW v=true∧Yu v≤60
theorem Qk {k:Kd} (h:Q2 k):yW (zx k)=true∧Yu (zx k)≤42:=
 ⟨(Bool.and_true _).trans h.ok.fit,Nat.succ_le_succ (Nat.max_le.mpr ⟨Nat.zero_le _,Nat.max_le.mpr ⟨Nat.zero_le _,Nat.max_le.mpr ⟨Nat.succ_le_succ h.ok.dep,Nat.zero_le _⟩⟩⟩)⟩
theorem Q2.fit {k:Kd} (h:Q2 k):fit60 (zx k):=(Qk h).imp id (Nat.le_trans · (leb rfl))
theorem s_eqT {a b:V} {k:K V} {σ:zG} (ha:fit60 a) (hb:fit60 b):zL .Eq a b k σ=k (.bool (eqV a b)) σ:=s_eqG (by unfold eqOk; rw [ha.1,hb.1,decide_eq_true ha.2,decide_eq_true hb.2]; rfl)
theorem s_eqN {a b:Nat} {k:K V} {σ:zG}:zL .Eq (.int a) (.int b) k σ=k (.bool (decide (a=b))) σ:=(ym _ _).trans (congrArg (fun b=>k (.bool b) σ) (decide_eq_decide.mpr Int.ofNat_inj))
section
variable {σ:zG} {N:Nat} {k:K V}
theorem s_pand {b c:Bool} {X:C} (h:X σ=k (.bool c) σ):pIf b X (k (.bool b)) σ=k (.bool (b&&c)) σ:=by cases b with
 | true=>exact h
 | false=>rfl
theorem wW {b c:Bool} {X:C} (h:X σ=k (.bool c) σ):pIf b (k (.bool true)) X σ=k (.bool (b||c)) σ:=by cases b with
 | true=>rfl
 | false=>exact h
theorem room {t:Kd} (hN:1≤N):zA N 79 [zx t] k σ=k (.int (Jv t)) σ:=by
 obtain ⟨m,rfl,-⟩:=suc hN
 have st3:∀b y:Int,(zT .BitAnd (.int b) (.int 1024) fun x=>zE x fun c=>pIf c (zT .BitOr (.int y) (.int 512) fun x=>k x) (zT .BitOr (.int y) (.int 0) fun x=>k x)) σ=k (.int (Builtin.bitOr y (bif Builtin.bitAnd b 1024 !=0 then 512 else 0))) σ:=fun b y=>Z0 (fun x=>k (.int (Builtin.bitOr y x)) σ) rfl rfl
 have st2:∀b y:Int,(zT .BitAnd (.int b) (.int 32) fun x=>zE x fun c=>pIf c (zT .BitOr (.int y) (.int 24) fun z=>zT .BitAnd (.int b) (.int 1024) fun x=>zE x fun c=>pIf c (zT .BitOr z (.int 512) fun x=>k x) (zT .BitOr z (.int 0) fun x=>k x)) (zT .BitOr (.int y) (.int 0) fun z=>zT .BitAnd (.int b) (.int 1024) fun x=>zE x fun c=>pIf c (zT .BitOr z (.int 512) fun x=>k x) (zT .BitOr z (.int 0) fun x=>k x))) σ=k (.int (Builtin.bitOr (Builtin.bitOr y (bif Builtin.bitAnd b 32 !=0 then 24 else 0)) (bif Builtin.bitAnd b 1024 !=0 then 512 else 0))) σ:=fun b y=>Z0 (fun x=>k (.int (Builtin.bitOr (Builtin.bitOr y x) (bif Builtin.bitAnd b 1024 !=0 then 512 else 0))) σ) (st3 b _) (st3 b _)
 exact c79.trans (Z0 (fun x=>k (.int (Builtin.bitOr (Builtin.bitOr (Builtin.bitOr (Builtin.bitOr t.reg t.new) x) (bif Builtin.bitAnd (Builtin.bitOr t.reg t.new) 32 !=0 then 24 else 0)) (bif Builtin.bitAnd (Builtin.bitOr t.reg t.new) 1024 !=0 then 512 else 0))) σ) (st2 _ _) (st2 _ _))
theorem s_take2 {a b c:V}:yA (.tup [a,b,c]) .none (.int 2) k σ=k (.tup [a,b]) σ:=by
 show headT [a,b,c] 2 k σ=_
 exact if_pos ⟨by decide,(by decide:(2:Int) < 3),ltb rfl⟩
theorem fit2 {a b:Int}:fit60 (.tup [.int a,.int b]):=⟨rfl,leb rfl⟩
theorem meets {s t:Kd} {pl:Bool} (hs:Q2 s) (ht:Q2 t) (hN:2≤N) {G:Prop} (out:∀σ',Kp yR σ σ'→Cl N 80 [zx s,zx t,.bool pl] σ (.bool (meetK pl s t)) σ'→G):G:=by
 obtain ⟨M,rfl,hM⟩:=suc hN
 have hbl:(JY s t).length≤16:=Nat.le_trans (List.length_filter_le _ _) hs.len
 have g:(σ++[O.list (JY s t)])[σ.length]? =some (.list (JY s t)):=zS
 refine out (σ++[.list (JY s t)]) Kp.push fun k=>c80.trans ((Jm (fun v=>t.rows.any fun y=>eqV y v) s.rows (yF (lm hs.len rfl)) rfl (lm hs.len rfl) fun v hv add=>s_inT (k:=fun x=>zE x fun c=>pIf c (add (some v)) (add none)) (hs.ok v hv) ht.ok).trans ?_)
 have l40:∀ {l:List V},l.length≤16→l.length < 2^40:=fun h=>lm h rfl
 rcases pl with _ | _
 ·show (yA (zx s) .none (.int 2) fun x=>yA (zx t) .none (.int 2) fun y=>zL .Eq x y _) _=_
  refine s_take2.trans ?_
  refine s_take2.trans ?_
  refine (s_eqT fit2 fit2).trans ?_
  rw [show eqV (.tup [.int s.reg,.int s.new]) (.tup [.int t.reg,.int t.new])=(decide (s.reg=t.reg)&&decide (s.new=t.new)) by simp [eqV,eqVL]]
  exact s_pand ((yY g (l40 hbl)).trans ((Ul (l40 hs.len)).trans (s_eqN.trans (s_pand ((Ul (l40 ht.len)).trans s_eqN)))))
 ·have z:fit60 (.tup [.int 0,.int 0,.tup []]):=⟨rfl,leb rfl⟩
  refine (s_eqT hs.fit z).trans (wW ((s_eqT ht.fit z).trans (wW ((room hM).trans (wW ((room hM).trans (wW ((yY g (l40 hbl)).trans ?_))))))))
  exact congrArg (fun b=>k (.bool b) _) (decide_eq_decide.mpr Int.natCast_pos)
end
end Wk
end
section
namespace Wk
section
variable (PL:Sts→Prop) (PB:Blk→Prop) (PO:jC→Prop) (PT:yg→Prop)
noncomputable def hasB:Blk→Prop
 | .mk n l=>PB (.mk n l)∧PL l
noncomputable def hasS:St→Prop
 | .sw _ _ ts=>PT ts
 | .tr _ a _ _ b c=>hasB PL PB a∧PO b∧PO c
 | _=>True
end
theorem tree {PS:St→Prop} {PL:Sts→Prop} {PB:Blk→Prop} {PO:jC→Prop} {PT:yg→Prop} (sw:∀n e ts,PT ts→PS (.sw n e ts)) (tr:∀n a m sid b c,PB a→PO b→PO c→PS (.tr n a m sid b c)) (fn:∀n x b o e,PS (.fn n x b o e)) (pl:∀n c e,PS (.pl n c e)) (od:∀n,PS (.od n))
  (nil:PL .nil) (cons:∀s r,PS s→PL r→PL (.cons s r)) (mk:∀n l,PL l→PB (.mk n l)) (no:PO .none) (so:∀n l,PB (.mk n l)→PO (.some (.mk n l))) (tn:PT .nil) (tc:∀p n l r,PB (.mk n l)→PL l→PT r→PT (.cons p (.mk n l) r)):(∀s,PS s)∧(∀l,PL l)∧(∀b,PB b)∧(∀b,PO b)∧∀t,PT t:=by
 have q:∀s,PS s∧hasS PL PB PO PT s:=St.rec (motive_2:=PL) (motive_3:=hasB PL PB) (motive_4:=PO) (motive_5:=PT) (fun _ _ _ h=>⟨sw _ _ _ h,h⟩) (fun n a m sid b c h1 h2 h3=>⟨tr n a m sid b c (Blk.casesOn (motive_3:=fun a=>hasB PL PB a→PB a) a (fun _ _ h=>h.1) h1) h2 h3,h1,h2,h3⟩) (fun _ _ _ _ _=>⟨fn _ _ _ _ _,trivial⟩) (fun _ _ _=>⟨pl _ _ _,trivial⟩) (fun _=>⟨od _,trivial⟩)
  nil (fun _ _ h=>cons _ _ h.1) (fun _ _ h=>⟨mk _ _ h,h⟩) no (fun b=>Blk.casesOn b fun n l h=>so n l h.1) tn (fun p b r=>Blk.casesOn b fun n l h=>tc p n l r h.1 h.2)
 have qb:∀n l,PB (.mk n l)∧PL l:=fun n l=>(q (.tr 0 (.mk n l) 0 0 .none .none)).2.1
 exact ⟨fun s=>(q s).1,fun l=>(qb 0 l).2,fun b=>Blk.casesOn b fun n l=>(qb n l).1,fun b=>(q (.tr 0 (.mk 0 .nil) 0 0 .none b)).2.2.2,fun t=>(q (.sw 0 ⟨0,none⟩ t)).2⟩
mutual
noncomputable def coS:St→Nat→Nat
 | .sw _ _ ts,w=>coT ts w+1000
 | .tr _ a _ _ b c,w=>coB a (coO b (coO c w)+1000)
 | .fn _ _ _ _ _,w=>w
 | .pl _ _ _,w=>w+1000
 | .od _,w=>w+1000
noncomputable def coL:Sts→Nat→Nat
 | .nil,w=>w
 | .cons s r,w=>coS s (coL r w)+2000
noncomputable def coB:Blk→Nat→Nat
 | .mk _ l,w=>coL l w
noncomputable def coO:jC→Nat→Nat
 | .none,w=>w
 | .some b,w=>coB b w
noncomputable def coT:yg→Nat→Nat
 | .nil,w=>w
 | .cons _ b r,w=>coB b (coT r w)+4000
end
theorem co_le:(∀s w,w≤coS s w)∧(∀l w,2000*(jL l).length+w≤coL l w)∧(∀b w,w≤coB b w)∧(∀b w,w≤coO b w)∧∀t w,2000*(YM t).length+w≤coT t w:=
 have wk:∀ {a b c:Nat},a+b≤c→b≤c:=fun h=>Nat.le_trans (Nat.le_add_left _ _) h
 have sc:∀ {a b c d:Nat},2000*a+b≤c→c≤d→2000*(a+1)+b≤d+2000:=fun h k=>by lia
 have up:∀ {a b c:Nat},a≤b→a≤b+c:=fun h=>Nat.le_trans h (Nat.le_add_right _ _)
 tree (fun _ _ _ h w=>up (wk (h w))) (fun _ _ _ _ _ _ a b c w=>Nat.le_trans (up (Nat.le_trans (c w) (b _))) (a _)) (fun _ _ _ _ _ _=>Nat.le_refl _) (fun _ _ _ _=>up (Nat.le_refl _)) (fun _ _=>up (Nat.le_refl _))
  (fun w=>Nat.le_of_eq (Nat.zero_add w)) (fun _ _ a b w=>sc (b w) (a _)) (fun _ _ h w=>wk (h w)) (fun _=>Nat.le_refl _) (fun _ _ h w=>h w) (fun w=>Nat.le_of_eq (Nat.zero_add w)) (fun _ _ _ _ a _ b w=>Nat.le_trans (sc (b w) (a _)) (Nat.add_le_add_left (by decide) _))
structure LSt (T Q H:Nat) (e:Option Nat) (σ:zG) (tl:List (Int×Int)) (nl hl:List Int) (w:Nat):Prop where
 told:σ[T]? =some (.list (tl.map JU))
 notes:σ[Q]? =some (.list (nl.map wH))
 held:σ[H]? =some (.dict (UR hl) e)
 tq:¬T=Q
 th:¬T=H
 qh:¬Q=H
 rm:tl.length+(nl.length+(hl.length+w)) < 900000
noncomputable def XL (T Q H:Nat):Nat→Prop:=fun i=>i=T∨i=Q∨i=H
section
variable {σ σ':zG} {T Q H N:Nat} {tl:List (Int×Int)} {nl hl:List Int} {e:Option Nat} {w:Nat}
theorem LSt.kp (S:LSt T Q H e σ tl nl hl w) (K:Kp yR σ σ'):LSt T Q H e σ' tl nl hl w:=⟨K.get S.told id,K.get S.notes id,K.get S.held id,S.tq,S.th,S.qh,S.rm⟩
theorem LSt.le (S:LSt T Q H e σ tl nl hl w) {u:Nat} (h:u≤w):LSt T Q H e σ tl nl hl u:=⟨S.told,S.notes,S.held,S.tq,S.th,S.qh,Nat.lt_of_le_of_lt (Nat.add_le_add_left (Nat.add_le_add_left (Nat.add_le_add_left h _) _) _) S.rm⟩
theorem LSt.ltT (S:LSt T Q H e σ tl nl hl w):(tl.map JU).length < 1000000:=lv (lm (Nat.le_trans (Nat.le_add_right _ _) (Nat.le_of_lt S.rm)) rfl)
theorem LSt.ltQ (S:LSt T Q H e σ tl nl hl w):(nl.map wH).length < 1000000:=lv (lm (Nat.le_trans (Nat.le_trans (Nat.le_add_right _ _) (Nat.le_add_left _ _)) (Nat.le_of_lt S.rm)) rfl)
theorem LSt.ltH (S:LSt T Q H e σ tl nl hl w):(UR hl).length < 1000000:=by
 unfold UR
 rw [List.length_map]
 exact lm (Nat.le_trans (Nat.le_trans (Nat.le_trans (Nat.le_add_right _ _) (Nat.le_add_left _ _)) (Nat.le_add_left _ _)) (Nat.le_of_lt S.rm)) rfl
theorem LSt.tell (S:LSt T Q H e σ tl nl hl (w+1)) (x:Int×Int):LSt T Q H e (σ.set T (.list (tl.map JU++[JU x]))) (tl++[x]) nl hl w:=
 ⟨by rw [List.map_append]; exact yE S.told,(List.getElem?_set_ne S.tq).trans S.notes,(List.getElem?_set_ne S.th).trans S.held,S.tq,S.th,S.qh,by rw [List.length_append,Nat.add_assoc,Nat.add_comm [x].length]; exact S.rm⟩
theorem LSt.note (S:LSt T Q H e σ tl nl hl (w+1)) (x:Int):LSt T Q H e (σ.set Q (.list (nl.map wH++[wH x]))) tl (nl++[x]) hl w:=
 ⟨(List.getElem?_set_ne (Ne.symm S.tq)).trans S.told,by rw [List.map_append]; exact yE S.notes,(List.getElem?_set_ne S.qh).trans S.held,S.tq,S.th,S.qh,by rw [List.length_append,Nat.add_assoc,Nat.add_comm [x].length,Nat.add_assoc]; exact S.rm⟩
theorem Qz {l:List Int} {s:Int}:(jN l s).length≤l.length+1:=by
 unfold jN
 split
 ·exact Nat.le_succ _
 ·exact Nat.le_of_eq List.length_append
theorem LSt.hold (S:LSt T Q H e σ tl nl hl (w+1)) (x:Int):LSt T Q H e (σ.set H (.dict (UR (jN hl x)) e)) tl nl (jN hl x) w:=
 ⟨(List.getElem?_set_ne (Ne.symm S.th)).trans S.told,(List.getElem?_set_ne (Ne.symm S.qh)).trans S.notes,yE S.held,S.tq,S.th,S.qh,Nat.lt_of_le_of_lt (Nat.add_le_add_left (Nat.add_le_add_left (Nat.le_trans (Nat.add_le_add_right Qz _) (by rw [Nat.add_assoc,Nat.add_comm 1]; exact Nat.le_refl _)) _) _) S.rm⟩
theorem kT {o:O}:Kp (XL T Q H) σ (σ.set T o):=Kp.set (.inl rfl)
theorem kQ {o:O}:Kp (XL T Q H) σ (σ.set Q o):=Kp.set (.inr (.inl rfl))
theorem kH {o:O}:Kp (XL T Q H) σ (σ.set H o):=Kp.set (.inr (.inr rfl))
theorem seen (S:LSt T Q H e σ tl nl hl (w+1)) (x:Ex) (hN:1≤N) {G:Prop} (out:∀σ',Kp (XL T Q H) σ σ'→LSt T Q H e σ' (tl++wN x) nl hl w→Cl N 78 [encE x,.ref T] σ (zx (jk x)) σ'→G):G:=by
 obtain ⟨m,rfl,-⟩:=suc hN
 obtain ⟨n,_ | k⟩:=x
 ·exact out _ kT (S.tell (9002,n)) fun k=>c78.trans ((yd S.told).trans (yK (cf:=zA m) S.told S.ltT))
 ·exact out σ Kp.rfl ((List.append_nil tl).symm▸S.le (Nat.le_succ w)) fun k=>c78
end
end Wk
end
section
namespace Wk
noncomputable def ntF:St→List Int
 | .fn n _ _ lone _=>if lone=true then [n] else []
 | _=>[]
noncomputable def ntI:St→List Int
 | .sw _ _ ts=>ntT ts
 | .tr _ a _ _ b c=>ntB a++(ntO b++ntO c)
 | _=>[]
theorem ntFI:∀s,ntF s++ntI s=ntS s
 | .fn _ _ _ _ _=>List.append_nil _
 | .sw _ _ _ | .tr _ _ _ _ _ _ | .pl _ _ _ | .od _=>rfl
section
variable (cf:CF) (T Q H pl x5:V) (j:C)
noncomputable def nNo:C:=(fun n9:K Bool=>zC x5 (.int 0) fun y=>zL .Eq y (.str (nS "func")) fun y=>zE y fun c=>pIf c (zC x5 (.int 4) fun y=>zE y fun c=>pIf c (n9 true) (n9 false)) (n9 false)) fun c=>pIf c (zR P0 Q (nS "append") fun b=>zC x5 (.int 1) fun y=>zN cf b [.tup [.int 19,y]] fun _=>j) j
noncomputable def t34 (x22:V) (b:BM):K Bool:=fun c=>pIf c (zC x22 (.int 1) fun x=>zN cf b [.tup [.int 2389,x]] fun _=>j) (zC x5 (.int 1) fun x=>zN cf b [.tup [.int 2391,x]] fun _=>j)
noncomputable def t27 (x22 x25:V):C:=zR P0 T (nS "append") fun b=>zE x25 fun c=>pIf c (zC x22 (.int 3) fun x=>zE x fun c=>pIf c (t34 cf x5 j x22 b true) (t34 cf x5 j x22 b false)) (t34 cf x5 j x22 b false)
noncomputable def t24 (x22:V):K V:=fun x25=>zE x25 fun c=>pIf (!c) (t27 cf T x5 j x22 x25) (zC x22 (.int 2) fun x=>zC x5 (.int 2) fun y=>zL .NotEq x y fun x=>zE x fun c=>pIf c (t27 cf T x5 j x22 x25) j)
noncomputable def t21:K V:=fun x22=>zC x22 (.int 0) fun x=>zL .Eq x (.str (nS "func")) fun x=>zE x fun c=>pIf c (zC x22 (.int 4) fun y=>zE y fun y=>t24 cf T x5 j x22 (.bool (!y))) (t24 cf T x5 j x22 x)
noncomputable def t19 (rows v1:V):C:=zT .Add v1 (.int 1) fun x=>zj 0 [rows] fun y=>pLt x y fun x=>zE x fun c=>pIf c (zT .Add v1 (.int 1) fun x=>zC rows x fun x=>t21 cf T x5 j x) (t21 cf T x5 j (.tup [.str (nS "odd"),.int 0]))
noncomputable def t5 (rows v1:V):C:=zC x5 (.int 0) fun x=>zL .Eq x (.str (nS "func")) fun x=>zE x fun c=>pIf c (zC x5 (.int 4) fun x=>zE x fun c=>pIf (!c) (zC x5 (.int 3) fun x=>zE x fun c=>pIf (!c) (t19 cf T x5 j rows v1) j) j) j
noncomputable def bCheck (rows v1:V):C:=zC rows v1 fun x=>t5 cf T x (nNo cf Q x (cf 82 [x,T,Q,H,pl] fun _=>j)) rows v1
end
theorem check_eq {n:Nat} {rows T Q H pl:V} {k:K V} {σ:zG}:zA (n+1) 81 [rows,T,Q,H,pl] k σ=(zj 0 [rows] fun x=>zj 1 [x] fun x=>yL x (fun v j=>bCheck (zA n) T Q H pl j rows v) (k .none)) σ:=c81
section
variable {σ:zG} {T Q H:Nat} {tl:List (Int×Int)} {nl hl:List Int} {e:Option Nat} {pl:Bool} {w:Nat} {G:Prop}
noncomputable def isFn:St→Bool
 | .fn _ _ _ _ _=>true
 | _=>false
theorem Ju {g:K V}:∀s,(zC (ZU s) (.int 0) fun x=>zL .Eq x (.str (nS "func")) g) σ=g (.bool (isFn s)) σ
 | .sw _ _ _=>t_13
 | .tr _ _ _ _ _ _=>t_23
 | .fn _ _ _ _ _=>t_33
 | .pl _ _ _=>t_43
 | .od _=>t_53
theorem fnCases {P:St→Prop} (no:∀s,isFn s=false→(∀r,Yq s r=[])→ntF s=[]→P s) (fn:∀n x b l f,P (.fn n x b l f)):∀s,P s
 | .fn _ _ _ _ _=>fn _ _ _ _ _
 | .sw _ _ _ | .tr _ _ _ _ _ _ | .pl _ _ _ | .od _=>no _ rfl (fun _=>rfl) rfl
theorem name_ne (a b:Bool) {k:K V}:zL .NotEq (yz a) (yz b) k σ=k (.bool (!decide (a=b))) σ:=(s_neG (by cases a<;>cases b<;>kernel_rfl)).trans (congrArg (fun b=>k (.bool (!b)) σ) (by cases a<;>cases b<;>exact eqV_str.trans (by kernel_rfl)))
theorem noteL (S:LSt T Q H e σ tl nl hl (w+1)) (s:St) (out:∀σ',Kp (XL T Q H) σ σ'→LSt T Q H e σ' tl (nl++ntF s) hl w→(∀cf j,nNo cf (.ref Q) (ZU s) j σ=j σ')→G):G:=by
 have no:ntF s=[]→(∀cf j,nNo cf (.ref Q) (ZU s) j σ=j σ)→G:=fun h e=>out σ Kp.rfl (h▸(List.append_nil nl).symm▸S.le (Nat.le_succ w)) e
 cases s using fnCases with
 | no s h _ h2=>exact no h2 fun cf j=>(Ju s).trans (by rw [h]; rfl)
 | fn n x b l f=>
  rcases l with _ | _
  ·exact no rfl fun cf j=>(Ju (.fn n x b false f)).trans rfl
  ·exact out _ kQ (S.note n) fun cf j=>(Ju (.fn n x b true f)).trans ((yd S.notes).trans (yK (cf:=cf) S.notes S.ltQ))
noncomputable def nx:Sts→V
 | .nil=>.tup [.str (nS "odd"),.int 0]
 | .cons s _=>ZU s
theorem headL (S:LSt T Q H e σ tl nl hl (w+1)) (n:Int) (x f:Bool) (r:Sts) (out:∀σ',Kp (XL T Q H) σ σ'→LSt T Q H e σ' (tl++Yq (.fn n x 0 false f) r) nl hl w→(∀cf j,t21 cf (.ref T) (ZU (.fn n x 0 false f)) j (nx r) σ=j σ')→G):G:=by
 have e27:∀ {v:V} {cf:CF} {j:C},t27 cf (.ref T) (ZU (.fn n x 0 false f)) j v (.bool false) σ=j (σ.set T (.list (tl.map JU++[JU (2391,n)]))):=fun {v cf j}=>(yd S.told).trans (yK (cf:=cf) S.told S.ltT)
 rcases r with _ | ⟨s,r⟩
 ·exact out _ kT (S.tell (2391,n)) fun cf j=>t_53.trans e27
 cases s using fnCases with
 | no s h _ h2=>
  have q:Yq (.fn n x 0 false f) (.cons s r)=[(2391,n)]:=by cases s<;>first | rfl | cases h
  exact out _ kT (q▸S.tell (2391,n)) fun cf j=>(Ju s).trans (by rw [h]; exact e27)
 | fn n' x' b l f'=>
 rcases l with _ | _
 ·have pre:∀cf j,t21 cf (.ref T) (ZU (.fn n x 0 false f)) j (ZU (.fn n' x' b false f')) σ=pIf (!decide (x'=x)) (t27 cf (.ref T) (ZU (.fn n x 0 false f)) j (ZU (.fn n' x' b false f')) (.bool true)) j σ:=fun cf j=>(Ju (.fn n' x' b false f')).trans (name_ne x' x)
  by_cases hn:x'=x
  ·refine out σ Kp.rfl ?_ fun cf j=>(pre cf j).trans (by rw [decide_eq_true hn]; rfl)
   rw [show Yq (.fn n x 0 false f) (.cons (.fn n' x' b false f') r)=[] from if_pos hn,List.append_nil]
   exact S.le (Nat.le_succ w)
  ·have go:∀y,Yq (.fn n x 0 false f) (.cons (.fn n' x' b false f') r)=[y]→(∀cf j,t27 cf (.ref T) (ZU (.fn n x 0 false f)) j (ZU (.fn n' x' b false f')) (.bool true) σ=j (σ.set T (.list (tl.map JU++[JU y]))))→G:=fun y h e=>out _ kT (h▸S.tell y) fun cf j=>(pre cf j).trans (by rw [decide_eq_false hn]; exact e cf j)
   rcases b with _ | b
   ·exact go _ (if_neg hn) fun cf j=>(yd S.told).trans (yK (cf:=cf) S.told S.ltT)
   ·exact go _ (if_neg hn) fun cf j=>(yd S.told).trans (yK (cf:=cf) S.told S.ltT)
 ·exact out _ kT (S.tell (2391,n)) fun cf j=>(Ju (.fn n' x' b true f')).trans e27
theorem before (s:St) (r:Sts) {F:List V} {i:Nat} (hF:F.drop i=jL (.cons s r)) (h3:F.length≤3) (S:LSt T Q H e σ tl nl hl (w+2)) (out:∀σ',Kp (XL T Q H) σ σ'→LSt T Q H e σ' (tl++Yq s r) (nl++ntF s) hl w→(∀cf j,bCheck cf (.ref T) (.ref Q) (.ref H) (.bool pl) j (.tup F) (.int (i:Int)) σ=cf 82 [ZU s,.ref T,.ref Q,.ref H,.bool pl] (fun _=>j) σ')→G):G:=by
 have hi:F[i]? =some (ZU s):=(List.getElem?_drop (i:=i) (j:=0)).symm.trans (congrArg (·[0]?) hF)
 have h2:F[i+1]? =(jL r)[0]?:=(List.getElem?_drop (i:=i) (j:=1)).symm.trans (congrArg (·[1]?) hF)
 have l40:F.length < 2^40:=lm h3 rfl
 have fin:∀σ',Kp (XL T Q H) σ σ'→LSt T Q H e σ' (tl++Yq s r) nl hl (w+1)→(∀cf j,t5 cf (.ref T) (ZU s) j (.tup F) (.int (i:Int)) σ=j σ')→G:=fun σ1 K1 S1 e1=>noteL S1 s fun σ2 K2 S2 e2=>out σ2 (K1.trans K2) S2 fun cf j=>(YI hi l40).trans ((e1 cf _).trans (e2 cf _))
 have no:Yq s r=[]→(∀cf j,t5 cf (.ref T) (ZU s) j (.tup F) (.int (i:Int)) σ=j σ)→G:=fun h e=>fin σ Kp.rfl (h▸(List.append_nil tl).symm▸S.le (Nat.le_succ _)) e
 cases s using fnCases with
 | no s h h2 _=>exact no (h2 r) fun cf j=>(Ju s).trans (by rw [h]; rfl)
 | fn n x b l f=>
  rcases l with _ | _
  ·rcases b with _ | b
   ·refine headL S n x f r fun σ1 K1 S1 e1=>fin σ1 K1 S1 fun cf j=>(Ju (.fn n x 0 false f)).trans (.trans ?_ (e1 cf j))
    rcases r with _ | ⟨s',r⟩
    ·exact (Ul l40).trans (Z1 (x:=(i:Int)+1) (Int.not_lt.mpr (Int.ofNat_le.mpr (List.getElem?_eq_none_iff.mp h2))))
    ·exact (Ul l40).trans ((Wi (x:=(i:Int)+1) (Int.ofNat_lt.mpr (List.getElem?_eq_some_iff.mp h2).1)).trans (YI (i:=i+1) h2 l40))
   ·exact no rfl fun cf j=>(Ju (.fn n x (b+1) false f)).trans rfl
  ·exact no rfl fun cf j=>(Ju (.fn n x b true f)).trans rfl
end
end Wk
end
section
namespace Wk
theorem s_unp2 {x y:V} {σ:zG} {k:V→V→C}:yZ (.tup [x,y]) k σ=k x y σ:=rfl
theorem s_unp5 {x y z u v:V} {σ:zG} {k:V→V→V→V→V→C}:YU (.tup [x,y,z,u,v]) k σ=k x y z u v σ:=rfl
theorem s_drop2 {a b c d e f g:V} {k:K V} {σ:zG}:yA (.tup [a,b,c,d,e,f,g]) (.int 2) .none k σ=k (.tup [c,d,e,f,g]) σ:=by
 show tailT [a,b,c,d,e,f,g] 2 k σ=_
 unfold tailT
 exact yo ⟨by decide,(by decide:(2:Int)≤7),ltb rfl⟩
noncomputable def mIf (t:String) (st:V) (x y:C):C:=zC st (.int 0) fun z=>zL .Eq z (.str (nS t)) fun z=>zE z fun c=>pIf c x y
theorem yp {t:String} {s:Str} {l:List V} {x y:C} {σ:zG} (h:∀ {k:K V},zL .Eq (.str s) (.str (nS t)) k σ=k (.bool false) σ) (hl:l.length < 1000):mIf t (.tup (.str s::l)) x y σ=y σ:=(s_t0 hl).trans h
theorem Wl {t:String} {s:Str} {l:List V} {x y:C} {σ:zG} (h:∀ {k:K V},zL .Eq (.str s) (.str (nS t)) k σ=k (.bool true) σ) (hl:l.length < 1000):mIf t (.tup (.str s::l)) x y σ=x σ:=(s_t0 hl).trans h
noncomputable def null2:List V:=[.tup [.int 256,.int 0,.tup []],.tup [.int 512,.int 0,.tup []]]
theorem s_inK {s:Kd} (hs:Q2 s) {k:K V} {σ:zG}:zL .In (zx s) (.tup null2) k σ=k (.bool (null2.any fun y=>eqV y (zx s))) σ:=by
 unfold zL
 refine yo (p:=J5 [zx s] _=true) (m:=ret _) (k:=fun r=>k (.bool r)) ?_
 unfold J5
 rw [show jK [zx s]=true from (Bool.and_true _).trans (Qk hs).1,decide_eq_true (show Js [zx s]≤50 from Nat.max_le.mpr ⟨Nat.le_trans (Qk hs).2 (leb rfl),Nat.zero_le _⟩)]
 rfl
section
variable (cf:CF) (T Q H pl:V)
noncomputable def lkB (b:V) (j:C):C:=zC b (.int 1) fun x=>cf 81 [x,T,Q,H,pl] fun _=>j
noncomputable def lkO (u:V) (j:C):C:=Ym u .none fun x=>zE x fun c=>pIf c (lkB cf T Q H pl u j) j
noncomputable def lkC (m sid u:V) (j:C):C:=Ym u .none fun x=>zE x fun c=>pIf c ((fun j38:K Bool=>pGt m (.int 0) fun x=>zE x fun c=>pIf c (pGt sid (.int 0) fun x=>zE x fun c=>pIf c (j38 true) (j38 false)) (j38 false)) fun c=>pIf c (zV H sid (.tup [.int 2048,.int 0,.tup []]) (lkB cf T Q H pl u j)) (lkB cf T Q H pl u j)) j
noncomputable def lkF (s t p:V) (j:C):C:=(fun j63:K Bool=>(fun j60:K V=>zL .In s (.tup null2) fun x=>zE x fun b=>pIf b (j60 x) (zC s (.int 0) fun x=>zC t (.int 0) fun y=>zT .BitOr x y fun x=>zT .BitAnd x (.int 14336) fun x=>pGt x (.int 0) j60)) fun x=>zE x fun c=>pIf (!c) (cf 80 [s,t,pl] fun x=>zE x fun c=>pIf (!c) (j63 true) (j63 false)) (j63 false)) fun c=>pIf c (zR P0 T (nS "append") fun b=>zC p (.int 0) fun x=>zN cf b [.tup [.int 2367,x]] fun _=>j) j
noncomputable def bLook (t v:V) (j:C):C:=yZ v fun p b=>Ym p .none fun x=>zE x fun c=>pIf c (cf 78 [p,T] fun s=>lkF cf T pl s t p (lkB cf T Q H pl b j)) (lkB cf T Q H pl b j)
variable (st:V) (k:K V)
noncomputable def l3:C:=mIf "odd" st (zR P0 T (nS "append") fun b=>zC st (.int 1) fun x=>zN cf b [.tup [.int 9002,x]] fun _=>k .none) (k .none)
noncomputable def l2:C:=mIf "plain" st (zC st (.int 3) fun x=>cf 78 [x,T] fun _=>l3 cf T st k) (l3 cf T st k)
noncomputable def l1:C:=mIf "try" st (yA st (.int 2) .none fun x=>YU x fun a m s u v=>lkB cf T Q H pl a (lkC cf T Q H pl m s u (lkO cf T Q H pl v (l2 cf T st k)))) (l2 cf T st k)
noncomputable def l0:C:=mIf "switch" st (zC st (.int 2) fun x=>cf 78 [x,T] fun t=>zC st (.int 3) fun x=>yL x (fun v j=>bLook cf T Q H pl t v j) (l1 cf T Q H pl st k)) (l1 cf T Q H pl st k)
end
theorem Xl {n:Nat} {st T Q H pl:V} {k:K V} {σ:zG}:zA (n+1) 82 [st,T,Q,H,pl] k σ=l0 (zA n) T Q H pl st k σ:=c82
theorem s_por' {b c:Bool} {X:C} {k:K V} {σ:zG} (h:X σ=k (.bool c) σ):pIf b (k (.bool b)) X σ=k (.bool (b||c)) σ:=by cases b with
 | true=>rfl
 | false=>exact h
section
variable {T Q H:Nat} {pl:Bool} {e:Option Nat} {N w:Nat} {σ:zG} {tl:List (Int×Int)} {nl hl:List Int} {G:Prop}
theorem caseL (S:LSt T Q H e σ tl nl hl (w+1)) {x:Ex} {t:Kd} (hx:x.Ok) (ht:Q2 t) (hN:2≤N) (out:∀σ',Kp (XL T Q H) σ σ'→LSt T Q H e σ' (tl++if (Jy (jk x) t||meetK pl (jk x) t)=true then [] else [(2367,x.n)]) nl hl w→(∀j,lkF (zA N) (.ref T) (.bool pl) (zx (jk x)) (zx t) (encE x) j σ=j σ')→G):G:=by
 have hs:=kdOf_ok hx
 have pre:∀j,lkF (zA N) (.ref T) (.bool pl) (zx (jk x)) (zx t) (encE x) j σ=(fun j63:K Bool=>pIf (!Jy (jk x) t) (zA N 80 [zx (jk x),zx t,.bool pl] fun x=>zE x fun c=>pIf (!c) (j63 true) (j63 false)) (j63 false) σ) fun c=>pIf c (zR P0 (.ref T) (nS "append") fun b=>zC (encE x) (.int 0) fun x=>zN (zA N) b [.tup [.int 2367,x]] fun _=>j) j:=fun j=>(s_inK hs).trans (s_por' (c:=decide (Builtin.bitAnd (Builtin.bitOr (jk x).reg t.reg) 14336 > 0)) (k:=fun x=>zE x fun c=>pIf (!c) _ _) rfl)
 have S':LSt T Q H e σ (tl++[]) nl hl w:=(List.append_nil tl).symm▸S.le (Nat.le_succ w)
 rcases hf:Jy (jk x) t with _ | _
 ·refine meets (σ:=σ) (pl:=pl) hs ht hN fun σ2 K2 e2=>?_
  rcases hm:meetK pl (jk x) t with _ | _
  ·refine out _ ((kp0 K2).trans kT) ?_ fun j=>(pre j).trans (by rw [hf]; exact (e2 _).trans (by rw [hm]; exact (yd (S.kp K2).told).trans (yK (cf:=zA N) (S.kp K2).told S.ltT)))
   rw [hf,hm]
   exact (S.kp K2).tell (2367,x.n)
  ·refine out σ2 (kp0 K2) ?_ fun j=>(pre j).trans (by rw [hf]; exact (e2 _).trans (by rw [hm]; rfl))
   rw [hf,hm]
   exact S'.kp K2
 ·refine out σ Kp.rfl ?_ fun j=>(pre j).trans (by rw [hf]; rfl)
  rw [hf]
  exact S'
end
section
variable (T Q H:Nat) (pl:Bool) (e:Option Nat)
noncomputable def Lo (σ:zG) (tl:List (Int×Int)) (nl hl:List Int) (w:Nat) (G:Prop) (E:zG→Prop):Prop:=(∀σ',Kp (XL T Q H) σ σ'→LSt T Q H e σ' tl nl hl w→E σ'→G)→G
noncomputable def LkS (s:St):Prop:=∀ {h N w σ tl nl hl lo hi G},htS s≤h→2*h+3≤N→wS lo s hi→LSt T Q H e σ tl nl hl (coS s w)→Lo T Q H e σ (tl++tlS pl s) (nl++ntI s) ((hdS s).foldl jN hl) w G fun σ'=>∀k,zA N 82 [ZU s,.ref T,.ref Q,.ref H,.bool pl] k σ=k .none σ'
noncomputable def LkL (l:Sts):Prop:=∀ {h N i m w F all σ tl nl hl lo hi G},htL l≤h→2*h+3≤N→wL lo l hi→F.drop i=jL l→F.length≤3→LSt T Q H e σ tl nl hl (coL l w)→Lo T Q H e σ (tl++tlL pl l) (nl++ntL l) ((hdL l).foldl jN hl) w G fun σ'=>∀kn:Unit→C,yO (.rng m) all (fun v _ k=>bCheck (zA N) (.ref T) (.ref Q) (.ref H) (.bool pl) (k ()) (.tup F) v) kn ((List.range' i (jL l).length).map fun (j:Nat)=>V.int j) () σ=kn () σ'
noncomputable def LkB (b:Blk):Prop:=∀ {h N w σ tl nl hl lo hi G},htB b≤h→2*h+4≤N→wB lo b hi→LSt T Q H e σ tl nl hl (coB b w)→Lo T Q H e σ (tl++tlB pl b) (nl++ntB b) ((hdB b).foldl jN hl) w G fun σ'=>∀j,lkB (zA N) (.ref T) (.ref Q) (.ref H) (.bool pl) (Yg b) j σ=j σ'
noncomputable def LkO (o:jC):Prop:=∀ {h N w σ tl nl hl lo hi G},htO o≤h→2*h+4≤N→wO lo o hi→LSt T Q H e σ tl nl hl (coO o w)→Lo T Q H e σ (tl++tlO pl o) (nl++ntO o) ((hdO o).foldl jN hl) w G fun σ'=>∀j,lkO (zA N) (.ref T) (.ref Q) (.ref H) (.bool pl) (JT o) j σ=j σ'
noncomputable def LkC (o:jC):Prop:=∀ {h N w σ tl nl hl lo hi m sid G},htO o≤h→2*h+4≤N→wO lo o hi→LSt T Q H e σ tl nl hl (coO o w+1000)→Lo T Q H e σ (tl++tlO pl o) (nl++ntO o) ((hdP m sid o).foldl jN hl) w G fun σ'=>∀j,lkC (zA N) (.ref T) (.ref Q) (.ref H) (.bool pl) (.int m) (.int sid) (JT o) j σ=j σ'
noncomputable def LkT (ts:yg):Prop:=∀ {h N w σ tl nl hl lo hi t src all G},htT ts≤h→2*h+4≤N→wT lo ts hi→(∀σ,same src all σ=true)→Q2 t→LSt T Q H e σ tl nl hl (coT ts w)→Lo T Q H e σ (tl++tlT pl t ts) (nl++ntT ts) ((hdT ts).foldl jN hl) w G fun σ'=>∀kn:Unit→C,yO src all (fun v _ k=>bLook (zA N) (.ref T) (.ref Q) (.ref H) (.bool pl) (zx t) v (k ())) kn (YM ts) () σ=kn () σ'
variable {T Q H:Nat} {pl:Bool} {e:Option Nat}
theorem wF {h N c:Nat} (hN:2*(h+1)+c≤N):∃M,N=M+1∧2*h+(c+1)≤M:=suc (Nat.le_trans (Nat.le_of_eq (Nat.add_right_comm (2*h) c 2)) hN)
theorem ZM {h N c:Nat} (d:Nat) (hN:2*h+c≤N) (e:d≤c):d≤N:=Nat.le_trans e (Nat.le_trans (Nat.le_add_left c _) hN)
theorem lk_sw (n:Int) (x:Ex) (ts:yg) (ih:LkT T Q H pl e ts):LkS T Q H pl e (.sw n x ts):=by
 intro h N w σ tl nl hl lo hi G hh hN ⟨_,⟨_,hx⟩,wt,h3⟩ S out
 rcases h with _ | h
 ·exact absurd hh (Nat.not_succ_le_zero _)
 obtain ⟨M,rfl,hM⟩:=wF hN
 refine seen (w:=coT ts w) (S.le (Nat.add_le_add_left (leb rfl) _)) x (ZM 1 hM (leb rfl)) fun σ1 K1 S1 e1=>?_
 refine ih (N:=M) (src:=.tup (YM ts)) (all:=(YM ts,0)) (Nat.le_of_succ_le_succ hh) hM wt (fun _=>rfl) (kdOf_ok hx) S1 fun σ2 K2 S2 e2=>?_
 exact out σ2 (K1.trans K2) (List.append_assoc .. ▸S2) fun k=>Xl.trans ((Wl t_11 (ltb rfl)).trans ((e1 _).trans ((jP (yF (lm h3 rfl))).trans ((e2 _).trans ((yp t_12 (ltb rfl)).trans ((yp t_14 (ltb rfl)).trans (yp t_15 (ltb rfl))))))))
theorem lk_tr (n:Int) (a:Blk) (m sid:Int) (b c:jC) (h1:LkB T Q H pl e a) (h2:LkO T Q H pl e b∧LkC T Q H pl e b) (h3:LkO T Q H pl e c∧LkC T Q H pl e c):LkS T Q H pl e (.tr n a m sid b c):=by
 intro h N w σ tl nl hl lo hi G hh hN ⟨_,p,q,w1,_,_,w2,w3⟩ S out
 rcases h with _ | h
 ·exact absurd hh (Nat.not_succ_le_zero _)
 obtain ⟨M,rfl,hM⟩:=wF hN
 have hh:max (htB a) (max (htO b) (htO c))≤h:=Nat.le_of_succ_le_succ hh
 refine h1 (Nat.le_trans (Nat.le_max_left _ _) hh) hM w1 S fun σ1 K1 S1 e1=>?_
 refine h2.2 (m:=m) (sid:=sid) (Nat.le_trans (Nat.le_trans (Nat.le_max_left _ _) (Nat.le_max_right _ _)) hh) hM w2 S1 fun σ2 K2 S2 e2=>?_
 refine h3.1 (Nat.le_trans (Nat.le_trans (Nat.le_max_right _ _) (Nat.le_max_right _ _)) hh) hM w3 S2 fun σ3 K3 S3 e3=>?_
 rw [List.append_assoc,List.append_assoc,List.append_assoc,List.append_assoc,← List.foldl_append,← List.foldl_append] at S3
 refine out σ3 ((K1.trans K2).trans K3) S3 fun k=>Xl.trans ((yp t_21 (ltb rfl)).trans ((Wl t_22 (ltb rfl)).trans (s_drop2.trans ?_)))
 exact (e1 _).trans ((e2 _).trans ((e3 _).trans ((yp t_24 (ltb rfl)).trans (yp t_25 (ltb rfl)))))
theorem lk_fn (n:Int) (x:Bool) (b:Nat) (o f:Bool):LkS T Q H pl e (.fn n x b o f):=by
 intro h N w σ tl nl hl lo hi G hh hN _ S out
 rcases h with _ | h
 ·exact absurd hh (Nat.not_succ_le_zero _)
 obtain ⟨M,rfl,hM⟩:=wF hN
 exact out σ Kp.rfl ((List.append_nil tl).symm▸(List.append_nil nl).symm▸S) fun k=>Xl.trans ((yp t_31 (ltb rfl)).trans ((yp t_32 (ltb rfl)).trans ((yp t_34 (ltb rfl)).trans (yp t_35 (ltb rfl)))))
theorem lk_pl (n:Int) (c:Bool) (x:Ex):LkS T Q H pl e (.pl n c x):=by
 intro h N w σ tl nl hl lo hi G hh hN _ S out
 rcases h with _ | h
 ·exact absurd hh (Nat.not_succ_le_zero _)
 obtain ⟨M,rfl,hM⟩:=wF hN
 refine seen (w:=w) (S.le (Nat.add_le_add_left (leb rfl) _)) x (ZM 1 hM (leb rfl)) fun σ1 K1 S1 e1=>?_
 exact out σ1 K1 ((List.append_nil nl).symm▸S1) fun k=>Xl.trans ((yp t_41 (ltb rfl)).trans ((yp t_42 (ltb rfl)).trans ((Wl t_44 (ltb rfl)).trans ((e1 _).trans (yp t_45 (ltb rfl))))))
theorem lk_od (n:Int):LkS T Q H pl e (.od n):=by
 intro h N w σ tl nl hl lo hi G hh hN _ S out
 rcases h with _ | h
 ·exact absurd hh (Nat.not_succ_le_zero _)
 obtain ⟨M,rfl,hM⟩:=wF hN
 exact out _ kT ((List.append_nil nl).symm▸(S.le (u:=w+1) (Nat.add_le_add_left (leb rfl) _)).tell (9002,n)) fun k=>Xl.trans ((yp t_51 (ltb rfl)).trans ((yp t_52 (ltb rfl)).trans ((yp t_54 (ltb rfl)).trans ((Wl t_55 (ltb rfl)).trans ((yd S.told).trans (yK (cf:=zA M) S.told S.ltT))))))
theorem lk_nil:LkL T Q H pl e .nil:=by
 intro h N i m w F all σ tl nl hl lo hi G _ _ _ _ _ S out
 exact out σ Kp.rfl ((List.append_nil tl).symm▸(List.append_nil nl).symm▸S) fun _=>rfl
theorem lk_cons (s:St) (r:Sts) (h1:LkS T Q H pl e s) (h2:LkL T Q H pl e r):LkL T Q H pl e (.cons s r):=by
 intro h N i m w F all σ tl nl hl lo hi G hh hN ⟨p,w1,w2⟩ hF h3 S out
 refine before (pl:=pl) (w:=coS s (coL r w)) s r hF h3 (S.le (Nat.add_le_add_left (leb rfl) _)) fun σ1 K1 S1 e1=>?_
 refine h1 (Nat.le_trans (Nat.le_max_left _ _) hh) hN w1 S1 fun σ2 K2 S2 e2=>?_
 refine h2 (m:=m) (all:=all) (i:=i+1) (F:=F) (Nat.le_trans (Nat.le_max_right _ _) hh) hN w2 (List.tail_drop.symm.trans (congrArg List.tail hF)) h3 S2 fun σ3 K3 S3 e3=>?_
 rw [List.append_assoc,List.append_assoc,List.append_assoc nl,ntFI,List.append_assoc,← List.foldl_append] at S3
 exact out σ3 ((K1.trans K2).trans K3) S3 fun kn=>(e1 _ _).trans ((e2 _).trans (e3 kn))
theorem lk_mk (n:Int) (l:Sts) (ih:LkL T Q H pl e l):LkB T Q H pl e (.mk n l):=by
 intro h N w σ tl nl hl lo hi G hh hN ⟨p,w1,_,_,h3⟩ S out
 obtain ⟨M,rfl,hM⟩:=suc hN
 have l5:(jL l).length < 100000:=lm h3 rfl
 refine ih (N:=M) (i:=0) (F:=jL l) (all:=((List.range (jL l).length).map fun (i:Nat)=>V.int i,0)) (m:=(jL l).length) hh hM w1 rfl h3 S fun σ1 K1 S1 e1=>?_
 rw [← List.range_eq_range'] at e1
 exact out σ1 K1 S1 fun j=>check_eq.trans ((Ul (lm h3 rfl)).trans ((Zz l5).trans ((jP (jU l5)).trans (e1 _))))
theorem lk_no:LkO T Q H pl e .none∧LkC T Q H pl e .none:=by
 refine ⟨?_,?_⟩
 ·intro h N w σ tl nl hl lo hi G _ _ _ S out
  exact out σ Kp.rfl ((List.append_nil tl).symm▸(List.append_nil nl).symm▸S) fun _=>rfl
 ·intro h N w σ tl nl hl lo hi m sid G _ _ _ S out
  exact out σ Kp.rfl ((List.append_nil tl).symm▸(List.append_nil nl).symm▸S.le (Nat.le_add_right _ _)) fun _=>rfl
theorem lk_so (n:Int) (l:Sts) (ih:LkB T Q H pl e (.mk n l)):LkO T Q H pl e (.some (.mk n l))∧LkC T Q H pl e (.some (.mk n l)):=by
 refine ⟨fun {h N w σ tl nl hl lo hi G} hh hN w1 S out=>ih hh hN w1 S out,?_⟩
 intro h N w σ tl nl hl lo hi m sid G hh hN w1 S out
 have go:∀σ1,Kp (XL T Q H) σ σ1→LSt T Q H e σ1 tl nl ((hdC m sid).foldl jN hl) (coB (.mk n l) w)→(∀j,lkC (zA N) (.ref T) (.ref Q) (.ref H) (.bool pl) (.int m) (.int sid) (Yg (.mk n l)) j σ=lkB (zA N) (.ref T) (.ref Q) (.ref H) (.bool pl) (Yg (.mk n l)) j σ1)→G:=fun σ1 K1 S1 e1=>ih hh hN w1 S1 fun σ2 K2 S2 e2=>out σ2 (K1.trans K2) (List.foldl_append▸S2) fun j=>(e1 j).trans (e2 j)
 by_cases h1:m > 0
 ·by_cases h2:sid > 0
  ·refine go (σ.set H (.dict (UR (jN hl sid)) e)) kH ?_ fun j=>by
    rw [← dPut_encD]
    exact (Xb h1).trans ((Xb h2).trans (XD S.held wn S.ltH))
   rw [show hdC m sid=[sid] from if_pos ⟨h1,h2⟩]
   exact (S.le (u:=coB (.mk n l) w+1) (Nat.add_le_add_left (leb rfl) _)).hold sid
  ·refine go σ Kp.rfl ?_ fun j=>(Xb h1).trans (Wj h2)
   rw [show hdC m sid=[] from if_neg fun q=>h2 q.2]
   exact S.le (Nat.le_add_right _ _)
 ·refine go σ Kp.rfl ?_ fun j=>Wj h1
  rw [show hdC m sid=[] from if_neg fun q=>h1 q.1]
  exact S.le (Nat.le_add_right _ _)
theorem lk_tn:LkT T Q H pl e .nil:=by
 intro h N w σ tl nl hl lo hi t src all G _ _ _ _ _ S out
 exact out σ Kp.rfl ((List.append_nil tl).symm▸(List.append_nil nl).symm▸S) fun _=>rfl
theorem lk_tc (p:Option Ex) (n:Int) (l:Sts) (r:yg) (h1:LkB T Q H pl e (.mk n l)) (_:LkL T Q H pl e l) (h2:LkT T Q H pl e r):LkT T Q H pl e (.cons p (.mk n l) r):=by
 intro h N w σ tl nl hl lo hi t src all G hh hN ⟨q,u,wp,w1,w2⟩ hs ht S out
 have go:∀σ1 x,tlT pl t (.cons p (.mk n l) r)=x++(tlB pl (.mk n l)++tlT pl t r)→Kp (XL T Q H) σ σ1→LSt T Q H e σ1 (tl++x) nl hl (coB (.mk n l) (coT r w))→(∀j,bLook (zA N) (.ref T) (.ref Q) (.ref H) (.bool pl) (zx t) (.tup [Qj p,Yg (.mk n l)]) j σ=lkB (zA N) (.ref T) (.ref Q) (.ref H) (.bool pl) (Yg (.mk n l)) j σ1)→G:=fun σ1 x hx K1 S1 e1=>by
  refine h1 (Nat.le_trans (Nat.le_max_left _ _) hh) hN w1 S1 fun σ2 K2 S2 e2=>?_
  refine h2 (t:=t) (src:=src) (all:=all) (Nat.le_trans (Nat.le_max_right _ _) hh) hN w2 hs ht S2 fun σ3 K3 S3 e3=>?_
  rw [List.append_assoc,List.append_assoc,← hx,List.append_assoc,← List.foldl_append] at S3
  exact out σ3 (K1.trans (K2.trans K3)) S3 fun kn=>(e1 _).trans ((e2 _).trans (turn (hs _) (e3 kn)))
 rcases p with _ | x
 ·exact go σ [] rfl Kp.rfl ((List.append_nil tl).symm▸S.le (Nat.le_add_right _ _)) fun j=>rfl
 ·refine seen (w:=coB (.mk n l) (coT r w)+1) (S.le (show coB (.mk n l) (coT r w)+2≤coB (.mk n l) (coT r w)+4000 from Nat.add_le_add_left (leb rfl) _)) x (ZM 1 hN (leb rfl)) fun σ1 K1 S1 e1=>?_
  refine caseL (pl:=pl) S1 wp.1.2 ht (ZM 2 hN (leb rfl)) fun σ2 K2 S2 e2=>?_
  rw [List.append_assoc] at S2
  exact go σ2 _ (List.append_assoc ..).symm (K1.trans K2) S2 fun j=>(e1 _).trans (e2 _)
theorem look (T Q H:Nat) (pl:Bool) (e:Option Nat):(∀s,LkS T Q H pl e s)∧(∀l,LkL T Q H pl e l)∧(∀b,LkB T Q H pl e b)∧(∀b,LkO T Q H pl e b∧LkC T Q H pl e b)∧∀t,LkT T Q H pl e t:=tree lk_sw lk_tr lk_fn lk_pl lk_od lk_nil lk_cons lk_mk lk_no lk_so lk_tn lk_tc
end
end Wk
end
section
namespace Wk
theorem WI (a:V):eqV a a=true:=eqI.mpr rfl
theorem Qo {a b:V}:eqV a b=true↔a=b:=eqI
inductive Row where
 | key (k:Fin 10) | bol (b f:Bool) | str (b f:Bool) | num (b f:Bool) | un (l:List Nat) | obj | arr (e ro:Nat) | tup (cs:List (Nat×Nat)) (ro:Nat)
noncomputable def codR:Row→Nat×Nat×Nat×List (Nat×Nat)
 | .key k=>(1,k,0,[])
 | .bol b f=>(2,b.toNat,f.toNat,[])
 | .str b f=>(3,b.toNat,f.toNat,[])
 | .num b f=>(4,b.toNat,f.toNat,[])
 | .un l=>(6,0,0,l.map fun t=>(t,0))
 | .obj=>(8,0,0,[])
 | .arr e ro=>(11,e,ro,[])
 | .tup cs ro=>(12,0,ro,cs)
noncomputable def ucoR (x:Nat×Nat×Nat×List (Nat×Nat)):Row:=if x.1=1 then .key (Fin.ofNat 10 x.2.1) else if x.1=2 then .bol (x.2.1==1) (x.2.2.1==1) else if x.1=3 then .str (x.2.1==1) (x.2.2.1==1) else if x.1=4 then .num (x.2.1==1) (x.2.2.1==1) else if x.1=6 then .un (x.2.2.2.map (·.1)) else if x.1=8 then .obj else if x.1=11 then .arr x.2.1 x.2.2.1 else .tup x.2.2.2 x.2.2.1
theorem Xj {α β:Type} {f:α→β} {g:β→α} (h:∀x,g (f x)=x):∀l:List α,(l.map f).map g=l
 | []=>rfl
 | x::l=>by rw [List.map_cons,List.map_cons,h,Xj h l]
theorem ucoR_c:∀r,ucoR (codR r)=r
 | .key k=>congrArg Row.key (Fin.ext (Nat.mod_eq_of_lt k.2))
 | .bol b f | .str b f | .num b f=>by cases b<;>cases f<;>rfl
 | .un l=>congrArg Row.un (Xj (fun _=>rfl) l)
 | .obj | .arr _ _ | .tup _ _=>rfl
noncomputable instance:DecidableEq Row:=fun a b=>decidable_of_iff (codR a=codR b) ⟨fun h=>(ucoR_c a).symm.trans ((congrArg ucoR h).trans (ucoR_c b)),congrArg codR⟩
noncomputable def KT:List Str:=[nS "any",nS "unknown",nS "never",nS "void",nS "undefined",nS "null",nS "string",nS "number",nS "object",nS "error"]
noncomputable def wm (k:Fin 10):Str:=KT[k.1]?.getD (nS "")
noncomputable def bI (b:Bool):Int:=if b=true then 1 else 0
noncomputable def chr (b:Bool):Str:=if b=true then ⟨#['b'.toNat]⟩ else ⟨#['a'.toNat]⟩
noncomputable def yD:Row→V
 | .key k=>.tup [.int 1,.str (wm k)]
 | .bol b f=>.tup [.int 2,.int (bI b),.int (bI f)]
 | .str b f=>.tup [.int 3,.str (chr b),.int (bI f)]
 | .num b f=>.tup [.int 4,.int (bI b),.int (bI f)]
 | .un l=>.tup [.int 6,.tup (l.map fun (t:Nat)=>.int t)]
 | .obj=>.tup [.int 8,.tup [],.tup [],.tup [],.tup [],.tup [],.int 0]
 | .arr e ro=>.tup [.int 11,.int e,.int ro]
 | .tup cs ro=>.tup [.int 12,.tup (cs.map fun x=>.tup [.int x.1,.int x.2]),.int ro]
theorem ktext_fit (k:Fin 10):yW (.str (wm k))=true:=List.all_eq_true.mp (by kernel_rfl:((List.range 10).all fun i=>yW (.str (KT[i]?.getD (nS ""))))=true) k.1 (List.mem_range.mpr k.2)
theorem ktext_inj (a b:Fin 10) (e:wm a=wm b):a=b:=by
 have h:=List.all_eq_true.mp (List.all_eq_true.mp (by kernel_rfl:((List.range 10).all fun i=>(List.range 10).all fun j=>!decide (KT[i]?.getD (nS "")=KT[j]?.getD (nS ""))||decide (i=j))=true) a.1 (List.mem_range.mpr a.2)) b.1 (List.mem_range.mpr b.2)
 rw [decide_eq_true (show KT[a.1]?.getD (nS "")=KT[b.1]?.getD (nS "") from e)] at h
 exact Fin.ext (of_decide_eq_true h)
noncomputable def iV:V→Int
 | .int i=>i
 | _=>0
noncomputable def tV:V→List V
 | .tup l=>l
 | _=>[]
noncomputable def sV:V→Str
 | .str s=>s
 | _=>nS ""
noncomputable def at' (v:V) (i:Nat):V:=(tV v)[i]?.getD .none
noncomputable def bV (v:V):Bool:=decide (iV v=1)
noncomputable def kV (s:Str):Fin 10:=((List.finRange 10).find? fun k=>decide (wm k=s)).getD 0
noncomputable def nV (v:V):Nat:=(iV v).toNat
noncomputable def decR (v:V):Row:=(fun t:Int=>if t=1 then .key (kV (sV (at' v 1))) else if t=2 then .bol (bV (at' v 1)) (bV (at' v 2)) else if t=3 then .str (decide (sV (at' v 1)=chr true)) (bV (at' v 2)) else if t=4 then .num (bV (at' v 1)) (bV (at' v 2)) else if t=6 then .un ((tV (at' v 1)).map nV) else if t=8 then .obj else if t=11 then .arr (nV (at' v 1)) (nV (at' v 2)) else .tup ((tV (at' v 1)).map fun x=>(nV (at' x 0),nV (at' x 1))) (nV (at' v 2))) (iV (at' v 0))
theorem uH:∀r,decR (yD r)=r
 | .key k=>congrArg Row.key (of_decide_eq_true (List.all_eq_true.mp (by kernel_rfl:((List.finRange 10).all fun k=>decide (kV (wm k)=k))=true) k (List.mem_finRange k)))
 | .bol b f=>by cases b<;>cases f<;>rfl
 | .str b f=>by cases b<;>cases f<;>kernel_rfl
 | .num b f=>by cases b<;>cases f<;>rfl
 | .un l=>congrArg Row.un (Xj (fun _=>rfl) l)
 | .obj=>rfl
 | .arr _ _=>rfl
 | .tup l _=>congrArg (Row.tup · _) (Xj (fun _=>rfl) l)
theorem encR_inj {a b:Row} (h:yD a=yD b):a=b:=(uH a).symm.trans ((congrArg decR h).trans (uH b))
noncomputable def fitR (v:V):Bool:=jE v&&yW v&&decide (Yu v≤1)
theorem fitR_all {l:List V} (h:∀v∈l,fitR v=true):yn l=true∧jK l=true∧Js l≤1:=by
 induction l with
 | nil=>exact ⟨rfl,rfl,Nat.zero_le _⟩
 | cons a r ih=>
  obtain ⟨x,y,z⟩:=ih fun v hv=>h v (.tail _ hv)
  obtain ⟨q,c⟩:=zW (h a (.head _))
  obtain ⟨a,b⟩:=zW q
  exact ⟨show (jE _&&yn r)=true by rw [a,x]; rfl,show (yW _&&jK r)=true by rw [b,y]; rfl,Nat.max_le.mpr ⟨of_decide_eq_true c,z⟩⟩
theorem fitR_map {α:Type} {f:α→V} {l:List α} (h:∀x,fitR (f x)=true):yn (l.map f)=true∧jK (l.map f)=true∧Js (l.map f)≤1:=fitR_all fun _ hv=>let ⟨x,_,e⟩:=List.mem_map.mp hv; e▸h x
theorem fitK_tup {l:List V} {a b:V} (h:yn l=true∧jK l=true∧Js l≤1) (ha:fitR a=true) (hb:fitR b=true):fitK (.tup [a,.tup l,b])=true∧fitK (.tup [a,.tup l])=true:=by
 obtain ⟨q,c⟩:=zW ha
 obtain ⟨a1,a2⟩:=zW q
 obtain ⟨q',c'⟩:=zW hb
 obtain ⟨b1,b2⟩:=zW q'
 have d:Yu (.tup l)≤2:=Nat.succ_le_succ h.2.2
 have d1:=Nat.le_trans (of_decide_eq_true c) (leb rfl:1≤2)
 have d2:=Nat.le_trans (of_decide_eq_true c') (leb rfl:1≤2)
 refine ⟨show ((jE a&&(yn l&&(jE b&&true)))&&(yW a&&(jK l&&(yW b&&true)))&&_)=true by
  rw [a1,a2,b1,b2,h.1,h.2.1]
  exact decide_eq_true (Nat.le_trans (Nat.succ_le_succ (Nat.max_le.mpr ⟨d1,Nat.max_le.mpr ⟨d,Nat.max_le.mpr ⟨d2,Nat.zero_le _⟩⟩⟩)) (leb rfl)),show ((jE a&&(yn l&&true))&&(yW a&&(jK l&&true))&&_)=true by
  rw [a1,a2,h.1,h.2.1]
  exact decide_eq_true (Nat.le_trans (Nat.succ_le_succ (Nat.max_le.mpr ⟨d1,Nat.max_le.mpr ⟨d,Nat.zero_le _⟩⟩)) (leb rfl))⟩
theorem encR_fit:∀r,fitK (yD r)=true
 | .key k=>List.all_eq_true.mp (by kernel_rfl:((List.finRange 10).all fun k=>fitK (yD (.key k)))=true) k (List.mem_finRange k)
 | .bol b f=>rfl
 | .str b f=>by cases b<;>cases f<;>kernel_rfl
 | .num b f=>rfl
 | .un l=>(fitK_tup (a:=.int 6) (b:=.int 0) (fitR_map fun _=>rfl) rfl rfl).2
 | .obj=>rfl
 | .arr _ _=>rfl
 | .tup l ro=>(fitK_tup (a:=.int 12) (b:=.int ro) (fitR_map fun _=>rfl) rfl rfl).1
noncomputable def yU:List Row:=[.key 0,.key 1,.key 2,.key 3,.key 4,.key 5,.key 6,.key 7,.bol false false,.bol true false,.key 8,.obj,.un [8,9],.key 9,.bol false true,.bol true true]
theorem first_eq:Zc=.tup (yU.map yD):=by rfl
theorem encR_fitV (r:Row):yW (yD r)=true:=(zW (zW (encR_fit r)).1).2
theorem encR_eq {a b:Row}:eqV (yD a) (yD b)=decide (a=b):=Bool.eq_iff_iff.mpr (eqI.trans (Iff.trans ⟨encR_inj,congrArg _⟩ decide_eq_true_iff.symm))
noncomputable def jg:List Row→Nat→List (V×V)
 | [],_=>[]
 | r::R,i=>(yD r,.int i)::jg R (i+1)
theorem dIdx_len:∀ {R:List Row} {i:Nat},(jg R i).length=R.length
 | [],_=>rfl
 | _::_,_=>congrArg (·+1) dIdx_len
theorem dIdx_app {r:Row}:∀ {R:List Row} {i:Nat},jg (R++[r]) i=jg R i++[(yD r,.int ((i+R.length:Nat):Int))]
 | [],i=>rfl
 | a::R,i=>by
  rw [List.cons_append,jg,dIdx_app,jg,List.cons_append,List.length_cons,Nat.add_assoc,Nat.add_comm 1]
theorem WJ {r:Row}:∀ {R:List Row} {i:Nat},dHas (yD r) (jg R i)=decide (r∈R)
 | [],i=>rfl
 | a::R,i=>by
  refine (show dHas (yD r) (jg (a::R) i)=(eqV (yD a) (yD r)||dHas (yD r) (jg R (i+1))) from rfl).trans ?_
  rw [WJ,encR_eq,← Bool.decide_or]
  exact decide_eq_decide.mpr ((or_congr eq_comm Iff.rfl).trans List.mem_cons.symm)
theorem Qq {r:Row}:∀ {R:List Row} {i:Nat},r∈R→ZI (fun j=>R[j]? =some r) (fun j=>yk (yD r) (jg R i)=some (.int ((i+j:Nat):Int)))
 | [],_,h=>nomatch h
 | a::R,i,h=>by
  have e:yk (yD r) (jg (a::R) i)=(match eqV (yD a) (yD r) with | true=>some (V.int i) | false=>yk (yD r) (jg R (i+1))):=by
   unfold yk
   rw [jg,List.find?_cons]
   cases eqV (yD a) (yD r)<;>rfl
  rw [encR_eq] at e
  by_cases q:a=r
  ·exact ⟨0,congrArg some q,by rw [e,decide_eq_true q]; rfl⟩
  ·obtain ⟨j,h1,h2⟩:=Qq (i:=i+1) ((List.mem_cons.mp h).resolve_left (Ne.symm q))
   exact ⟨j+1,h1,by rw [e,decide_eq_false q,Nat.add_comm j,← Nat.add_assoc]; exact h2⟩
theorem dIdx_keys {R:List Row} {i:Nat}:(jg R i).all (fun e=>JW e.1==3)=true:=by
 induction R generalizing i with
 | nil=>rfl
 | cons a R ih=>rw [jg,List.all_cons,ih,Bool.and_true]; cases a<;>rfl
theorem UW {R:List Row} {i:Nat} {r:Row}:yP (yD r) (jg R i)=true:=by
 unfold yP
 rw [encR_fit,Bool.true_and,show JW (yD r)=3 by cases r<;>rfl]
 exact dIdx_keys
end Wk
end
section
namespace Wk
structure Tab (σ:zG) (tb rw ix:Nat) (R:List Row):Prop where
 obj:X1_4 (fun fs=>σ[tb]? =some (.inst 4 fs)) (fun fs=>zO (nS "rows") fs=some (.ref rw)) (fun fs=>zO (nS "index") fs=some (.ref ix)) (fun fs=>zO (nS "put") fs=none)
 rows:σ[rw]? =some (.list (R.map yD))
 idx:∃e,σ[ix]? =some (.dict (jg R 0) e)
 n1:tb≠rw
 n2:tb≠ix
 n3:rw≠ix
 nd:R.Nodup
noncomputable def XT (rw ix:Nat):Nat→Prop:=fun i=>i=rw∨i=ix
theorem Tab.kpX {X:Nat→Prop} {σ σ':zG} {tb rw ix:Nat} {R:List Row} (T:Tab σ tb rw ix R) (K:Kp X σ σ') (h1:¬X tb) (h2:¬X rw) (h3:¬X ix):Tab σ' tb rw ix R:=by
 obtain ⟨⟨fs,h0,h4,h5,h6⟩,hr,⟨e,he⟩,a,b,c,d⟩:=T
 exact ⟨⟨fs,K.get h0 h1,h4,h5,h6⟩,K.get hr h2,⟨e,K.get he h3⟩,a,b,c,d⟩
structure Tb (tb rw ix M:Nat) (σ:zG) (R:List Row) (w:Nat):Prop where
 tab:Tab σ tb rw ix R
 pre:yU<+:R
 rm:R.length+w≤M
 lt:M≤890000
noncomputable def To (tb rw ix M:Nat) (σ:zG) (R:List Row) (w N i:Nat) (vs:List V) (P:Nat→List Row→Prop) (G:Prop):Prop:=∀t R' σ',R<+:R'→P t R'→Kp (XT rw ix) σ σ'→Tb tb rw ix M σ' R' w→Cl N i vs σ (.int (t:Nat)) σ'→G
theorem zw {R R':List Row} (h:R<+:R') {i:Nat} {r:Row} (e:R[i]? =some r):R'[i]? =some r:=by
 obtain ⟨z,rfl⟩:=h
 rw [List.getElem?_append_left (List.getElem?_eq_some_iff.mp e).1]; exact e
section
variable {σ σ':zG} {tb rw ix M N w:Nat} {R:List Row} {k:K V} {G:Prop}
theorem Tb.kpX {X:Nat→Prop} (T:Tb tb rw ix M σ R w) (K:Kp X σ σ') (h1:¬X tb) (h2:¬X rw) (h3:¬X ix):Tb tb rw ix M σ' R w:=⟨T.tab.kpX K h1 h2 h3,T.pre,T.rm,T.lt⟩
theorem Tb.kp (T:Tb tb rw ix M σ R w) (K:Kp yR σ σ'):Tb tb rw ix M σ' R w:=T.kpX K id id id
theorem Tb.le (T:Tb tb rw ix M σ R w) {u:Nat} (h:u≤w):Tb tb rw ix M σ R u:=⟨T.tab,T.pre,Nat.le_trans (Nat.add_le_add_left h _) T.rm,T.lt⟩
theorem Tb.len (T:Tb tb rw ix M σ R w):R.length≤890000:=Nat.le_trans (Nat.le_add_right _ _) (Nat.le_trans T.rm T.lt)
theorem Tb.lts (T:Tb tb rw ix M σ R w):tb < σ.length∧rw < σ.length∧ix < σ.length:=by
 obtain ⟨⟨⟨fs,h0,-⟩,hr,⟨e,he⟩,-⟩,-⟩:=T
 exact ⟨yV h0,yV hr,yV he⟩
theorem Tb.app (T:Tb tb rw ix M σ R w) {τ:zG} {R0:List Row} {u n:Nat} {o:O} (T0:Tb tb rw ix M τ R0 u) (h:τ.length≤n):Tb tb rw ix M (σ.set n o) R w:=
 T.kpX (Kp.set (X:=(·=n)) rfl) (Nat.ne_of_lt (Nat.lt_of_lt_of_le T0.lts.1 h)) (Nat.ne_of_lt (Nat.lt_of_lt_of_le T0.lts.2.1 h)) (Nat.ne_of_lt (Nat.lt_of_lt_of_le T0.lts.2.2 h))
theorem Tb.new (T:Tb tb rw ix M σ R w) {n:Nat} (h:σ.length≤n):¬XT rw ix n:=fun q=>q.elim (fun e=>Nat.not_lt_of_le h (e▸T.lts.2.1)) fun e=>Nat.not_lt_of_le h (e▸T.lts.2.2)
theorem Tab.aR (T:Tab σ tb rw ix R):zD P0 (.ref tb) (nS "rows") k σ=k (.ref rw) σ:=by
 obtain ⟨fs,h0,h1,-⟩:=T.obj
 exact yQ h0 (by kernel_rfl) h1
theorem Tab.aI (T:Tab σ tb rw ix R):zD P0 (.ref tb) (nS "index") k σ=k (.ref ix) σ:=by
 obtain ⟨fs,h0,-,h1,-⟩:=T.obj
 exact yQ h0 (by kernel_rfl) h1
theorem Tab.bP (T:Tab σ tb rw ix R) {kb:K BM}:zR P0 (.ref tb) (nS "put") kb σ=kb (.fn 9 (.ref tb)) σ:=by
 obtain ⟨fs,h0,-,-,h1⟩:=T.obj
 exact s_bindF h0 h1 rfl (by kernel_rfl)
theorem Tb.row (T:Tb tb rw ix M σ R w) {t:Nat} {r:Row} (h:R[t]? =some r):(zD P0 (.ref tb) (nS "rows") fun x=>zC x (.int (t:Int)) k) σ=k (yD r) σ:=T.tab.aR.trans (YJ T.tab.rows (by rw [List.getElem?_map,h]; rfl) (lv (lm T.len rfl)))
theorem s_inD {n:Nat} {l:List (V×V)} {e:Option Nat} {v:V} (h:σ[n]? =some (.dict l e)) (hk:yP v l=true):zL .In v (.ref n) k σ=k (.bool (dHas v l)) σ:=by
 unfold zL
 exact (s_o h).trans (yo (m:=ret _) (k:=fun r=>k (.bool r)) hk)
theorem put0 (T:Tab σ tb rw ix R) (hl:R.length≤890000) (r:Row) (hN:1≤N) (out:∀t R' σ',(r∈R→R'=R)→(r∉R→R'=R++[r])→R'[t]? =some r→Kp (XT rw ix) σ σ'→Tab σ' tb rw ix R'→Cl N 9 [.ref tb,yD r] σ (.int (t:Nat)) σ'→G):G:=by
 obtain ⟨m,rfl,-⟩:=suc hN
 obtain ⟨e,he⟩:=T.idx
 have e0:∀k:K V,zA (m+1) 9 [.ref tb,yD r] k σ=_:=fun k=>cl9.trans (T.aI.trans (s_inD he UW))
 rw [WJ] at e0
 by_cases h:r∈R
 ·obtain ⟨j,h1,h2⟩:=Qq (i:=0) h
  rw [Nat.zero_add] at h2
  rw [decide_eq_true h] at e0
  exact out j R σ (fun _=>rfl) (fun q=>(q h).elim) h1 Kp.rfl T fun k=>(e0 k).trans (T.aI.trans (s_getD he UW h2))
 ·rw [decide_eq_false h] at e0
  have l6:(R.map yD).length < 1000000:=lv (lm hl rfl)
  have d6:(jg R 0).length < 1000000:=by rw [dIdx_len]; exact lm hl rfl
  have hD:ZH (yD r) (.int ((R.map yD).length:Int)) (jg R 0)=jg (R++[r]) 0:=by
   unfold ZH
   rw [WJ,decide_eq_false h,dIdx_app,Nat.zero_add,List.length_map]
  obtain ⟨fs,h0,h1,h2,h3⟩:=T.obj
  have g1:(σ.set rw (.list (R.map yD++[yD r])))[tb]? =some (.inst 4 fs):=(List.getElem?_set_ne (Ne.symm T.n1)).trans h0
  have g2:(σ.set rw (.list (R.map yD++[yD r])))[ix]? =some (.dict (jg R 0) e):=(List.getElem?_set_ne T.n3).trans he
  refine out R.length (R++[r]) _ (fun q=>(h q).elim) (fun _=>rfl) List.getElem?_concat_length ((Kp.set (.inl rfl)).trans (Kp.set (.inr rfl))) ⟨⟨fs,(List.getElem?_set_ne (Ne.symm T.n2)).trans g1,h1,h2,h3⟩,(List.getElem?_set_ne (Ne.symm T.n3)).trans (by rw [List.map_append]; exact yE T.rows),⟨e,yE g2⟩,T.n1,T.n2,T.n3,List.nodup_append.mpr ⟨T.nd,List.pairwise_singleton _ _,fun a ha b hb q=>h (List.mem_singleton.mp hb▸q▸ha)⟩⟩ fun k=>(e0 k).trans (T.aR.trans ((yY T.rows (Nat.lt_trans l6 (ltb rfl))).trans (T.aR.trans ((yd T.rows).trans ((yK (cf:=zA m) T.rows l6).trans ((yQ g1 (by kernel_rfl) h2).trans ((XD g2 UW d6).trans ?_)))))))
  rw [hD,List.length_map]
theorem put (T:Tb tb rw ix M σ R (w+1)) (r:Row) (hN:1≤N) (out:To tb rw ix M σ R w N 9 [.ref tb,yD r] (fun t R'=>R'[t]? =some r) G):G:=
 put0 T.tab T.len r hN fun t R' σ' a b g K T' e=>by
  by_cases h:r∈R
  ·obtain rfl:=a h
   exact out t R' σ' List.prefix_rfl g K ⟨T',T.pre,Nat.le_trans (Nat.le_succ _) T.rm,T.lt⟩ e
  ·obtain rfl:=b h
   exact out t _ σ' (List.prefix_append _ _) g K ⟨T',T.pre.trans (List.prefix_append _ _),by rw [List.length_append,Nat.add_assoc,Nat.add_comm [r].length]; exact T.rm,T.lt⟩ e
noncomputable def atomL (f:Bool):List Row:=[.str false f,.str true f,.key 6,.num false f,.num true f,.key 7,.bol false f,.bol true f,.key 5,.key 4,.key 3,.key 1,.key 0]
noncomputable def UX (i:Nat) (f:Bool):Row:=(atomL f)[i]?.getD (.key 9)
noncomputable def AtomP (tb rw ix M:Nat) (σ:zG) (R:List Row) (w N:Nat) (f:Bool) (G:Prop) (i:Nat):Prop:=To tb rw ix M σ R w N 72 [.ref tb,.int (i:Int),.int (bI f)] (fun t R'=>R'[t]? =some (UX i f)) G→G
theorem atom (T:Tb tb rw ix M σ R (w+1)) {i:Nat} (hi:i < 14) (f:Bool) (hN:3≤N):AtomP tb rw ix M σ R w N f G i:=by
 obtain ⟨N,rfl,h2⟩:=suc hN
 obtain ⟨m,hm,h1⟩:=suc h2
 have via:∀ {i:Nat} (r:Row),UX i f=r→(∀k:K V,zA (N+1) 72 [.ref tb,.int (i:Int),.int (bI f)] k σ=zA m 9 [.ref tb,yD r] k σ)→AtomP tb rw ix M σ R w (N+1) f G i:=fun r hr h out=>put T r h1 fun t R' σ' p g K T' e=>out t R' σ' p (hr▸g) K T' fun k=>(h k).trans (e k)
 have fixed:∀ {i:Nat} (j:Nat),yU[j]? =some (UX i f)→(∀k:K V,zA (N+1) 72 [.ref tb,.int (i:Int),.int (bI f)] k σ=k (.int (j:Nat)) σ)→AtomP tb rw ix M σ R w (N+1) f G i:=fun j hj h out=>out j R σ List.prefix_rfl (zw T.pre hj) Kp.rfl (T.le (Nat.le_succ w)) h
 have s1:∀ (b:Bool) {k:K V},zA N 11 [.ref tb,.str (chr b),.int (bI f)] k σ=zA m 9 [.ref tb,yD (.str b f)] k σ:=fun b=>hm▸cl11.trans T.tab.bP
 have s2:∀ (b:Bool) {k:K V},zA N 12 [.ref tb,.int (bI b),.int (bI f)] k σ=zA m 9 [.ref tb,yD (.num b f)] k σ:=fun b=>hm▸cl12.trans T.tab.bP
 have s3:∀ (b:Bool) {k:K V},zA N 13 [.ref tb,.int (bI b),.int (bI f)] k σ=zA m 9 [.ref tb,yD (.bol b f)] k σ:=fun b=>hm▸cl13.trans (T.tab.bP.trans (by cases b<;>rfl))
 exact All.mem (l:=List.range 14) (.cons (via _ rfl fun k=>c72.trans (s1 false)) <| .cons (via _ rfl fun k=>c72.trans (s1 true)) <| .cons (fixed 6 rfl fun k=>c72.trans (by kernel_rfl)) <| .cons (via _ rfl fun k=>c72.trans (.trans (by kernel_rfl) (s2 false))) <| .cons (via _ rfl fun k=>c72.trans (.trans (by kernel_rfl) (s2 true))) <| .cons (fixed 7 rfl fun k=>c72.trans (by kernel_rfl)) <| .cons (via _ rfl fun k=>c72.trans (.trans (by kernel_rfl) (s3 false))) <| .cons (via _ rfl fun k=>c72.trans (.trans (by kernel_rfl) (s3 true))) <| .cons (fixed 5 rfl fun k=>c72.trans (by kernel_rfl)) <| .cons (fixed 4 rfl fun k=>c72.trans (by kernel_rfl)) <| .cons (fixed 3 rfl fun k=>c72.trans (by kernel_rfl)) <| .cons (fixed 1 rfl fun k=>c72.trans (by kernel_rfl)) <| .cons (fixed 0 rfl fun k=>c72.trans (by kernel_rfl)) <| .cons (fixed 13 rfl fun k=>c72.trans (by kernel_rfl)) .nil) i (List.mem_range.mpr hi)
noncomputable def Ut (R:List Row) (t:Nat):List Nat:=if t=2 then [] else match R[t]? with
 | some (.un l)=>l
 | _=>[t]
theorem UT (T:Tb tb rw ix M σ R w) {t:Nat} {r:Row} (h:R[t]? =some r) (hN:1≤N):zA N 19 [.ref tb,.int (t:Int)] k σ=k (.tup (zk (Ut R t))) σ:=by
 obtain ⟨m,rfl,-⟩:=suc hN
 unfold Ut
 by_cases h2:t=2
 ·rw [if_pos h2,h2]; exact cl19.trans (ym _ _)
 ·rw [if_neg h2,h]
  refine cl19.trans ?_
  refine (ZZ (decide_eq_false fun e=>h2 (Int.ofNat.inj e))).trans ?_
  refine (T.row h).trans ?_
  cases r<;>exact (ym _ _).trans rfl
noncomputable def Yk:Row→Int
 | .str _ _=>6
 | .num _ _=>7
 | _=> -1
theorem whole (r:Row) (hN:1≤N):zA N 20 [yD r] k σ=k (.int (Yk r)) σ:=by
 obtain ⟨m,rfl,-⟩:=suc hN
 rw [cl20,Zd]
 cases r<;>kernel_rfl
noncomputable def Yz:Row→Option Row
 | .bol b true=>some (.bol b false)
 | .str b true=>some (.str b false)
 | .num b true=>some (.num b false)
 | _=>none
end
end Wk
end
section
namespace Wk
section
variable {σ σ':zG} {tb rw ix M N w:Nat} {R:List Row} {k:K V} {G:Prop}
theorem s_bindG {n:Nat} {l:List (V×V)} {e:Option Nat} {kb:K BM} (h:σ[n]? =some (.dict l e)):zR P0 (.ref n) (nS "get") kb σ=kb (.dget n) σ:=(s_o h).trans (show uM (nS "get") "get" (.dget n) (.dpop n) kb σ=_ from s_bi (Fast.sEq_iff.mpr rfl))
theorem s_dget2 {cf:CF} {n:Nat} {l:List (V×V)} {e:Option Nat} {x d:V} (h:σ[n]? =some (.dict l e)) (hk:yP x l=true):zN cf (.dget n) [x,d] k σ=k ((yk x l).getD d) σ:=(s_o h).trans (yo hk)
noncomputable def twC (cf:CF) (tb x:V) (k:K V):C:=(fun j3:K Bool=>zC x (.int 0) fun x15=>zL .In x15 ZF fun x14=>zE x14 fun c13=>pIf c13 (pUn .USub (.int 1) fun x19=>zC x x19 fun x18=>zL .Eq x18 (.int 1) fun x17=>zE x17 fun c16=>pIf c16 (j3 true) (j3 false)) (j3 false)) fun c4=>pIf c4 (zD P0 tb (nS "index") fun x7=>zR P0 x7 (nS "get") fun b6=>pUn .USub (.int 1) fun x10=>yA x .none x10 fun x9=>zT .Add x9 (.tup [(.int 0)]) fun x8=>pUn .USub (.int 1) fun x11=>zN cf b6 [x8,x11] fun x5=>k x5) (pUn .USub (.int 1) fun x12=>k x12)
noncomputable def twD (cf:CF) (tb:V) (k:K V):Option Row→C
 | none=>k (.int (-1))
 | some r=>zD P0 tb (nS "index") fun x=>zR P0 x (nS "get") fun b=>zN cf b [yD r,.int (-1)] k
theorem twC_eq {cf:CF} {tb:V}:∀r,twC cf tb (yD r) k σ=twD cf tb k (Yz r) σ
 | .key _=>by kernel_rfl
 | .bol _ false=>by kernel_rfl
 | .bol _ true=>by kernel_rfl
 | .str _ false=>by kernel_rfl
 | .str _ true=>by kernel_rfl
 | .num _ false=>by kernel_rfl
 | .num _ true=>by kernel_rfl
 | .un _=>by kernel_rfl
 | .obj=>by kernel_rfl
 | .arr _ _=>by kernel_rfl
 | .tup _ _=>by kernel_rfl
noncomputable def ixOf (R:List Row) (r:Row):Int:=iV ((yk (yD r) (jg R 0)).getD (.int (-1)))
theorem ixOf_get {r:Row} {t:Nat} (h:ixOf R r=t):R[t]? =some r:=by
 unfold ixOf at h
 by_cases m:r∈R
 ·obtain ⟨j,h1,h2⟩:=Qq (i:=0) m
  rw [h2,Nat.zero_add] at h
  exact Int.ofNat.inj h▸h1
 ·have e:yk (yD r) (jg R 0)=none:=by
   have q:=@WJ r R 0
   rw [decide_eq_false m] at q
   unfold yk
   rw [List.find?_eq_none.mpr fun x hx e=>by rw [show dHas (yD r) (jg R 0)=true from List.any_eq_true.mpr ⟨x,hx,e⟩] at q; cases q]; rfl
  rw [e] at h
  cases h
theorem dIdx_val:∀ {R:List Row} {i:Nat},∀x∈jg R i,x.2=.int (iV x.2):=by
 intro R
 induction R with
 | nil=>intro i x h; cases h
 | cons _ R ih=>
  intro i x h
  cases h with
  | head=>rfl
  | tail _ h=>exact ih x h
theorem dIdx_int {r:Row} {v:V} (h:yk (yD r) (jg R 0)=some v):v=.int (iV v):=by
 obtain ⟨x,hx,e⟩:=Option.map_eq_some_iff.mp h
 exact e▸dIdx_val x (List.mem_of_find?_eq_some hx)
noncomputable def wM (R:List Row) (r:Row):Int:=match Yz r with
 | none=> -1
 | some r'=>ixOf R r'
theorem twin (T:Tb tb rw ix M σ R w) {t:Nat} {r:Row} (h:R[t]? =some r) (hN:1≤N):zA N 21 [.ref tb,.int (t:Int)] k σ=k (.int (wM R r)) σ:=by
 obtain ⟨m,rfl,-⟩:=suc hN
 obtain ⟨e,he⟩:=T.tab.idx
 refine cl21.trans ((T.row h).trans ((twC_eq r).trans ?_))
 unfold wM
 rcases Yz r with _ | r'
 ·rfl
 ·refine T.tab.aI.trans ((s_bindG he).trans ((s_dget2 he UW).trans (congrArg (k · σ) ?_)))
  show _=V.int (ixOf R r')
  unfold ixOf
  cases q:yk (yD r') (jg R 0) with
  | none=>rfl
  | some v=>exact dIdx_int q
noncomputable def Zo (l:List Nat):List (V×V):=l.map fun p:Nat=>(.int p,.int 1)
noncomputable def has (l:List Nat) (x:Int):Bool:=l.any fun p=>decide ((p:Int)=x)
theorem Jj {l:List Nat} {j:Nat}:has l (j:Int)=true↔j∈l:=List.any_eq_true.trans ⟨fun ⟨_,h,e⟩=>Int.ofNat.inj (of_decide_eq_true e)▸h,fun h=>⟨j,h,decide_eq_true rfl⟩⟩
theorem has_no {l:List Nat} {j:Nat} (h:¬j∈l):has l (j:Int)=false:=Bool.eq_false_iff.mpr fun q=>h (Jj.mp q)
noncomputable def ZV (l:List Nat) (p:Nat):List Nat:=if p∈l then l else l++[p]
theorem Qr {l:List Nat} {x:Int}:dHas (.int x) (Zo l)=has l x:=List.any_map
theorem dPut_got {l:List Nat} {p:Nat}:ZH (.int p) (.int 1) (Zo l)=Zo (ZV l p):=by
 unfold ZH ZV
 rw [Qr]
 by_cases h:p∈l
 ·rw [Jj.mpr h,if_pos h]
  refine List.map_map.trans (List.map_congr_left fun x _=>?_)
  show (V.int x,match eqV (.int x) (.int p) with | true=>V.int 1 | false=>V.int 1)=_
  cases eqV (V.int x) (V.int p)<;>rfl
 ·rw [has_no h,if_neg h]
  unfold Zo
  rw [List.map_append]; rfl
theorem WX {l:List Nat} {x:Int}:yP (.int x) (Zo l)=true:=by
 unfold yP Zo
 rw [List.all_map]
 exact List.all_eq_true.mpr fun _ _=>rfl
variable {g:Nat} {l:List Nat} {e:Option Nat}
theorem wX {x:Int} (h:σ[g]? =some (.dict (Zo l) e)):zL .In (.int x) (.ref g) k σ=k (.bool (has l x)) σ:=(s_inD h WX).trans (congrArg (fun b=>k (.bool b) σ) Qr)
theorem s_ninG {x:Int} (h:σ[g]? =some (.dict (Zo l) e)):zL .NotIn (.int x) (.ref g) k σ=k (.bool (!has l x)) σ:=by
 unfold zL
 exact (s_o h).trans ((yo (m:=ret _) (k:=fun r=>k (.bool (!r))) WX).trans (congrArg (fun b=>k (.bool (!b)) σ) Qr))
theorem s_setG {p:Nat} {c:C} (h:σ[g]? =some (.dict (Zo l) e)) (hl:l.length < 910):zV (.ref g) (.int (p:Int)) (.int 1) c σ=c (σ.set g (.dict (Zo (ZV l p)) e)):=(XD h WX (lv (Nat.lt_trans hl (ltb rfl)))).trans (congrArg (fun d=>c (σ.set g (.dict d e))) dPut_got)
noncomputable def orG (g:V) (x y:Int) (f:K Bool):C:=zL .In (.int x) g fun v=>zE v fun c=>pIf c (f true) (zL .In (.int y) g fun v=>zE v fun c=>pIf c (f true) (f false))
theorem s_orG (h:σ[g]? =some (.dict (Zo l) e)) (x y:Int) (f:K Bool):orG (.ref g) x y f σ=f (has l x||has l y) σ:=(wX h).trans (by
 cases has l x with
 | true=>rfl
 | false=>exact (wX h).trans (by cases has l y<;>rfl))
noncomputable def joinB (l:List Nat):List Nat:=bif (has l 8||has l 14)&&(has l 9||has l 15) then ZV (ZV l 8) 9 else l
theorem Qy {l:List Nat} {p:Nat}:(ZV l p).length≤l.length+1:=by
 unfold ZV
 split
 ·exact Nat.le_succ _
 ·exact Nat.le_of_eq List.length_append
theorem joinBools (h:σ[g]? =some (.dict (Zo l) e)) (hl:l.length < 900) (hN:1≤N) (out:∀σ',Kp (·=g) σ σ'→σ'[g]? =some (.dict (Zo (joinB l)) e)→Cl N 22 [.ref g] σ .none σ'→G):G:=by
 obtain ⟨m,rfl,-⟩:=suc hN
 have pre:∀k:K V,zA (m+1) 22 [.ref g] k σ=pIf (has l 8||has l 14) (pIf (has l 9||has l 15) (zV (.ref g) (.int 8) (.int 1) (zV (.ref g) (.int 9) (.int 1) (k .none))) (k .none)) (k .none) σ:=fun k=>by
  refine (show zA (m+1) 22 [.ref g] k σ=orG (.ref g) 8 14 (fun c=>pIf c (orG (.ref g) 9 15 fun c=>pIf c (zV (.ref g) (.int 8) (.int 1) (zV (.ref g) (.int 9) (.int 1) (k .none))) (k .none)) (k .none)) σ from cl22).trans ((s_orG h 8 14 _).trans ?_)
  cases (has l 8||has l 14) with
  | false=>rfl
  | true=>exact s_orG h 9 15 fun c=>pIf c (zV (.ref g) (.int 8) (.int 1) (zV (.ref g) (.int 9) (.int 1) (k .none))) (k .none)
 unfold joinB at out
 cases q:((has l 8||has l 14)&&(has l 9||has l 15)) with
 | true=>
  obtain ⟨a,b⟩:=zW q
  rw [a,b] at pre
  exact out ((σ.set g (.dict (Zo (ZV l 8)) e)).set g (.dict (Zo (ZV (ZV l 8) 9)) e)) ((Kp.set (X:=(·=g)) rfl).trans (Kp.set rfl)) (by rw [q]; exact yE (yE h)) fun k=>(pre k).trans ((s_setG (p:=8) h (Nat.lt_trans hl (ltb rfl))).trans (s_setG (p:=9) (yE h) (Nat.lt_of_le_of_lt Qy (Nat.lt_trans (Nat.succ_lt_succ hl) (ltb rfl)))))
 | false=>
  refine out σ Kp.rfl (by rw [q]; exact h) fun k=>(pre k).trans ?_
  cases a:(has l 8||has l 14) with
  | false=>rfl
  | true=>rw [a,Bool.true_and] at q; rw [q]; rfl
noncomputable def topN (l:List Nat):Int:=bif has l 0 then 0 else bif has l 13 then 13 else bif has l 1 then 1 else -1
theorem topOf (h:σ[g]? =some (.dict (Zo l) e)) (hN:1≤N):zA N 24 [.ref g] k σ=k (.int (topN l)) σ:=by
 obtain ⟨m,rfl,-⟩:=suc hN
 exact cl24.trans ((jP (yF (ltb rfl))).trans ((wX h).trans (Z0 (fun x=>k (.int x) σ) rfl ((wX h).trans (Z0 (fun x=>k (.int x) σ) rfl ((wX h).trans (Z0 (fun x=>k (.int x) σ) rfl rfl)))))))
noncomputable def stayB (R:List Row) (got:List Nat) (r:Row):Bool:=!has got (wM R r)&&!has got (Yk r)
theorem stays (T:Tb tb rw ix M σ R w) (h:σ[g]? =some (.dict (Zo l) e)) {t:Nat} {r:Row} (hr:R[t]? =some r) (hN:2≤N):zA N 23 [.ref tb,.ref g,.int (t:Int)] k σ=k (.bool (stayB R l r)) σ:=by
 obtain ⟨m,rfl,h1⟩:=suc hN
 refine cl23.trans ((twin T hr h1).trans ((wX h).trans ?_))
 unfold stayB
 cases has l (wM R r) with
 | true=>rfl
 | false=>exact (T.row hr).trans ((whole r h1).trans (s_ninG h))
end
end Wk
end
section
namespace Wk
theorem YV {α:Type} {a:α}:∀ {l:List α} {i j:Nat},l.Nodup→l[i]? =some a→l[j]? =some a→i=j:=fun h hi hj=>(List.getElem?_inj (List.getElem?_eq_some_iff.mp hi).1 h).mp (hi.trans hj.symm)
noncomputable def wD (i:Nat):List Nat→List Nat
 | []=>[i]
 | j::r=>if i≤j then i::j::r else j::wD i r
noncomputable def YT:List Nat→List Nat
 | []=>[]
 | i::r=>wD i (YT r)
noncomputable def intL (l:List Nat):List Int:=l.map fun p:Nat=>(p:Int)
theorem insN_int {i:Nat}:∀ {l:List Nat},wE i (intL l)=intL (wD i l)
 | []=>rfl
 | j::r=>by
  rw [wD]
  refine (show wE (i:Int) (intL (j::r))=if (i:Int)≤(j:Int) then (i:Int)::j::intL r else (j:Int)::wE i (intL r) from rfl).trans ?_
  by_cases h:i≤j
  ·rw [if_pos h,if_pos (Int.ofNat_le.mpr h)]; rfl
  ·rw [if_neg h,if_neg fun q=>h (Int.ofNat_le.mp q),insN_int]; rfl
theorem wQ:∀ {l:List Nat},Wh (intL l)=intL (YT l)
 | []=>rfl
 | i::r=>(congrArg (wE i) wQ).trans insN_int
theorem U9 {i x:Nat}:∀ {l:List Nat},x∈wD i l↔x=i∨x∈l
 | []=>List.mem_cons
 | j::r=>by
  rw [wD]
  split
  ·exact List.mem_cons
  ·rw [List.mem_cons,U9,List.mem_cons]; exact or_left_comm
theorem Jc {x:Nat}:∀ {l:List Nat},x∈YT l↔x∈l
 | []=>Iff.rfl
 | i::r=>by rw [YT,U9,Jc,List.mem_cons]
theorem insN_len {i:Nat}:∀ {l:List Nat},(wD i l).length=l.length+1
 | []=>rfl
 | j::r=>by
  rw [wD]
  split
  ·rfl
  ·exact congrArg (·+1) insN_len
theorem WQ:∀ {l:List Nat},(YT l).length=l.length
 | []=>rfl
 | i::r=>insN_len.trans (congrArg (·+1) WQ)
theorem insN_lt {i:Nat}:∀ {l:List Nat},l.Pairwise (· < ·)→i∉l→(wD i l).Pairwise (· < ·)
 | [],_,_=>List.pairwise_singleton _ _
 | j::r,h,hi=>by
  obtain ⟨h1,h2⟩:=List.pairwise_cons.mp h
  have hne:i≠j:=fun e=>hi (e▸.head _)
  rw [wD]
  split
  ·rename_i hle
   have lt:=Nat.lt_of_le_of_ne hle hne
   exact List.pairwise_cons.mpr ⟨fun x hx=>(List.mem_cons.mp hx).elim (fun e=>e▸lt) fun q=>Nat.lt_trans lt (h1 x q),h⟩
  ·rename_i hle
   exact List.pairwise_cons.mpr ⟨fun x hx=>(U9.mp hx).elim (fun e=>e▸Nat.lt_of_not_le hle) (h1 x),insN_lt h2 fun q=>hi (.tail _ q)⟩
theorem sortN_lt:∀ {l:List Nat},l.Nodup→(YT l).Pairwise (· < ·)
 | [],_=>.nil
 | i::r,h=>insN_lt (sortN_lt (List.nodup_cons.mp h).2) fun q=>(List.nodup_cons.mp h).1 (Jc.mp q)
theorem addN_mem {l:List Nat} {s x:Nat}:x∈ZV l s↔x∈l∨x=s:=by
 unfold ZV
 split
 ·rename_i h
  exact ⟨.inl,fun q=>q.elim id fun e=>e▸h⟩
 ·exact List.mem_append.trans (or_congr Iff.rfl List.mem_singleton)
theorem wy {x:Nat}:∀ {hs l:List Nat},x∈hs.foldl ZV l↔x∈l∨x∈hs
 | [],l=>⟨.inl,fun q=>q.elim id nofun⟩
 | s::hs,l=>by rw [List.foldl_cons,wy,addN_mem,List.mem_cons,or_assoc]
theorem Wp:∀ {hs l:List Nat},l.Nodup→(hs.foldl ZV l).Nodup
 | [],l,h=>h
 | s::hs,l,h=>Wp (hs:=hs) (by
  unfold ZV
  split
  ·exact h
  ·rename_i q
   exact List.nodup_append.mpr ⟨h,List.pairwise_singleton _ _,fun a ha b hb e=>q (List.mem_singleton.mp hb▸e▸ha)⟩)
theorem wz:∀ {hs l:List Nat},(hs.foldl ZV l).length≤l.length+hs.length
 | [],l=>Nat.le_refl _
 | s::hs,l=>Nat.le_trans (wz (hs:=hs)) (Nat.le_trans (Nat.add_le_add_right Qy _) (by rw [Nat.add_assoc,Nat.add_comm 1]; exact Nat.le_refl _))
noncomputable def ja:Row→Bool
 | .un _=>false
 | .key 2=>false
 | _=>true
noncomputable def jy (R:List Row) (ps:List Nat):Prop:=∀p∈ps,ZI (fun r=>R[p]? =some r) fun r=>ja r=true
structure Ty (R:List Row) (ps:List Nat) (t:Nat):Prop where
 lt:ps.Pairwise (· < ·)
 ok:jy R ps
 len:ps.length≤38
 is:(ps=[]∧t=2)∨ps=[t]∨(2≤ps.length∧R[t]? =some (.un ps))
noncomputable def Yw (R:List Row) (ps:List Nat) (A:List Row):Prop:=∀r,r∈A↔∃p∈ps,R[p]? =some r
noncomputable def KR (R:List Row) (A:List Row) (t:Nat):Prop:=ZI (fun ps=>Ty R ps t) (fun ps=>Yw R ps A)
theorem jy.mono {R R':List Row} {ps:List Nat} (h:jy R ps) (x:R<+:R'):jy R' ps:=fun p hp=>let ⟨r,a,b⟩:=h p hp; ⟨r,zw x a,b⟩
theorem Yw.mono {R R' A:List Row} {ps:List Nat} (h:Yw R ps A) (k:jy R ps) (x:R<+:R'):Yw R' ps A:=fun r=>(h r).trans ⟨fun ⟨p,hp,e⟩=>⟨p,hp,zw x e⟩,fun ⟨p,hp,e⟩=>let ⟨r',a,_⟩:=k p hp; ⟨p,hp,a.trans ((zw x a).symm.trans e)⟩⟩
theorem Ty.mono {R R':List Row} {ps:List Nat} {t:Nat} (h:Ty R ps t) (x:R<+:R'):Ty R' ps t:=⟨h.lt,h.ok.mono x,h.len,h.is.imp id (Or.imp id fun q=>⟨q.1,zw x q.2⟩)⟩
theorem KR.mono {R R' A:List Row} {t:Nat} (h:KR R A t) (x:R<+:R'):KR R' A t:=let ⟨ps,a,b⟩:=h; ⟨ps,a.mono x,b.mono a.ok x⟩
theorem lt_ext:∀ {a b:List Nat},a.Pairwise (· < ·)→b.Pairwise (· < ·)→(∀x,x∈a↔x∈b)→a=b
 | [],[],_,_,_=>rfl
 | [],y::s,_,_,h=>nomatch (h y).mpr (.head _)
 | x::r,[],_,_,h=>nomatch (h x).mp (.head _)
 | x::r,y::s,ha,hb,h=>by
  obtain ⟨a1,a2⟩:=List.pairwise_cons.mp ha
  obtain ⟨b1,b2⟩:=List.pairwise_cons.mp hb
  have e:x=y:=by
   rcases List.mem_cons.mp ((h x).mp (.head _)) with q | q
   ·exact q
   ·rcases List.mem_cons.mp ((h y).mpr (.head _)) with q' | q'
    ·exact q'.symm
    ·exact absurd (b1 x q) (Nat.lt_asymm (a1 y q'))
  subst e
  exact congrArg (x::·) (lt_ext a2 b2 fun z=>⟨fun hz=>(List.mem_cons.mp ((h z).mp (.tail _ hz))).resolve_left (Nat.ne_of_gt (a1 z hz)),fun hz=>(List.mem_cons.mp ((h z).mpr (.tail _ hz))).resolve_left (Nat.ne_of_gt (b1 z hz))⟩)
section
variable {R A B:List Row} {t t':Nat}
theorem Ty.row {ps:List Nat} (F:yU<+:R) (h:Ty R ps t):∃r,R[t]? =some r∧Ut R t=ps:=by
 have h2:R[2]? =some (.key 2):=zw F (i:=2) rfl
 unfold Ut
 rcases h.is with ⟨rfl,rfl⟩ | rfl | ⟨_,e⟩
 ·exact ⟨_,h2,rfl⟩
 ·obtain ⟨r,a,b⟩:=h.ok t (.head _)
  have n2:¬t=2:=fun e=>by
   have q:ja (.key 2)=true:=Option.some.inj (a.symm.trans (e▸h2))▸b
   cases q
  refine ⟨r,a,?_⟩
  rw [if_neg n2,a]
  cases r with
  | un l=>cases b
  | _=>rfl
 ·have n2:¬t=2:=fun q=>Row.noConfusion (Option.some.inj (e.symm.trans (q▸h2)))
  exact ⟨_,e,by rw [if_neg n2,e]⟩
theorem KR.inj (F:yU<+:R) (h:KR R A t) (h':KR R B t):∀r,r∈A↔r∈B:=by
 obtain ⟨ps,hT,hA⟩:=h
 obtain ⟨ps',hT',hB⟩:=h'
 obtain ⟨_,_,e⟩:=hT.row F
 obtain ⟨_,_,e'⟩:=hT'.row F
 obtain rfl:=e.symm.trans e'
 exact fun r=>(hA r).trans (hB r).symm
theorem Ty.fn (nd:R.Nodup) {ps:List Nat} (h:Ty R ps t) (h':Ty R ps t'):t=t':=by
 rcases h.is with ⟨rfl,rfl⟩ | rfl | ⟨l,e⟩
 ·rcases h'.is with q | q | q
  ·exact q.2.symm
  ·cases q
  ·exact absurd q.1 (Nat.not_succ_le_zero 1)
 ·rcases h'.is with q | q | q
  ·cases q.1
  ·exact (List.cons.inj q).1
  ·exact absurd q.1 (Nat.not_succ_le_self 1)
 ·rcases h'.is with q | q | q
  ·exact absurd (Nat.le_trans l (Nat.le_of_eq (congrArg List.length q.1))) (Nat.not_succ_le_zero 1)
  ·exact absurd (Nat.le_trans l (Nat.le_of_eq (congrArg List.length q))) (Nat.not_succ_le_self 1)
  ·exact YV nd e q.2
theorem KR.fn (nd:R.Nodup) (h:KR R A t) (h':KR R B t') (e:∀r,r∈A↔r∈B):t=t':=by
 obtain ⟨ps,hT,hA⟩:=h
 obtain ⟨ps',hT',hB⟩:=h'
 have half:∀ {ps ps':List Nat},jy R ps→(∀r,(∃p∈ps,R[p]? =some r)→∃p∈ps',R[p]? =some r)→∀x,x∈ps→x∈ps':=fun ok h x hx=>let ⟨r,a,_⟩:=ok x hx; let ⟨p,hp,b⟩:=h r ⟨x,hx,a⟩; YV nd a b▸hp
 have:ps=ps':=lt_ext hT.lt hT'.lt fun x=>⟨half hT.ok (fun r q=>(hB r).mp ((e r).mp ((hA r).mpr q))) x,half hT'.ok (fun r q=>(hA r).mp ((e r).mpr ((hB r).mpr q))) x⟩
 subst this
 exact hT.fn nd hT'
structure Yj (A:List Row):Prop where
 top:∀r∈[Row.key 0,.key 9,.key 1],r∈A→∀r'∈A,r'=r
 bol:.bol false false∈A∨.bol false true∈A→.bol true false∈A∨.bol true true∈A→.bol false false∈A∧.bol true false∈A
 twin:∀r∈A,∀r'∈(Yz r).toList,r'∉A
 whole:∀r∈A,(Yk r=6→.key 6∉A)∧(Yk r=7→.key 7∉A)
 part:∀r∈A,ja r=true
end
end Wk
end
section
namespace Wk
theorem Kp.fresh {X:Nat→Prop} {σ σ':zG} {n:Nat} (a:Kp (·=n) σ σ') (h:σ.length≤n):Kp X σ σ':=⟨a.le,fun i l _=>a.old i l (Nat.ne_of_lt (Nat.lt_of_lt_of_le l h))⟩
theorem Tb.off {τ:zG} {tb rw ix M w u g:Nat} {σ σ':zG} {R R0:List Row} (T:Tb tb rw ix M σ R w) (T0:Tb tb rw ix M τ R0 u) (h:τ.length≤g) (K:Kp (·=g) σ σ'):Tb tb rw ix M σ' R w:=T.kpX K (Nat.ne_of_lt (Nat.lt_of_lt_of_le T0.lts.1 h)) (Nat.ne_of_lt (Nat.lt_of_lt_of_le T0.lts.2.1 h)) (Nat.ne_of_lt (Nat.lt_of_lt_of_le T0.lts.2.2 h))
section
variable {R A B:List Row} {l l':List Nat} {t:Nat} {r:Row}
structure jn (R:List Row) (l:List Nat) (A:List Row):Prop where
 ok:jy R l
 rows:Yw R l A
theorem jn.perm (P:jn R l A) (h:∀x,x∈l'↔x∈l):jn R l' A:=⟨fun p hp=>P.ok p ((h p).mp hp),fun r=>(P.rows r).trans ⟨fun ⟨p,a,b⟩=>⟨p,(h p).mpr a,b⟩,fun ⟨p,a,b⟩=>⟨p,(h p).mp a,b⟩⟩⟩
theorem jn.mono {R':List Row} (P:jn R l A) (x:R<+:R'):jn R' l A:=⟨P.ok.mono x,P.rows.mono P.ok x⟩
theorem jn.mem (P:jn R l A) (nd:R.Nodup) (h:R[t]? =some r):t∈l↔r∈A:=⟨fun q=>(P.rows r).mpr ⟨t,q,h⟩,fun q=>let ⟨_,a,b⟩:=(P.rows r).mp q; YV nd b h▸a⟩
theorem jn.one (h:R[t]? =some r) (ok:ja r=true):jn R [t] [r]:=⟨fun _ hp=>List.mem_singleton.mp hp▸⟨r,h,ok⟩,fun r'=>⟨fun q=>⟨t,.head _,(List.mem_singleton.mp q).symm▸h⟩,fun ⟨_,a,b⟩=>List.mem_singleton.mpr (Option.some.inj (b.symm.trans (List.mem_singleton.mp a▸h)))⟩⟩
theorem KR.cong (h:KR R A t) (e:∀r,r∈A↔r∈B):KR R B t:=let ⟨ps,a,b⟩:=h; ⟨ps,a,fun r=>(e r).symm.trans (b r)⟩
theorem KR.one (h:R[t]? =some r) (ok:ja r=true):KR R [r] t:=⟨[t],⟨List.pairwise_singleton _ _,(jn.one h ok).ok,leb rfl,.inr (.inl rfl)⟩,(jn.one h ok).rows⟩
theorem partsV_one (F:yU<+:R) (h:R[t]? =some r) (ok:ja r=true):Ut R t=[t]:=let ⟨_,_,e⟩:=(⟨List.pairwise_singleton _ _,(jn.one h ok).ok,leb rfl,.inr (.inl rfl)⟩:Ty R [t] t).row F; e
theorem has_ex {x:Int} (h:has l x=true):∃p∈l,(p:Int)=x:=let ⟨p,a,b⟩:=List.any_eq_true.mp h; ⟨p,a,of_decide_eq_true b⟩
theorem addN_in {p:Nat} (h:p∈l):ZV l p=l:=if_pos h
section
variable (P:jn R l A) (nd:R.Nodup) (F:yU<+:R) (C:Yj A)
include P nd F C
theorem joinB_canon:joinB l=l:=by
 have m:∀ {j:Nat} {r:Row},yU[j]? =some r→(has l (j:Int)=true↔r∈A):=fun h=>Jj.trans (P.mem nd (zw F h))
 unfold joinB
 cases q:((has l 8||has l 14)&&(has l 9||has l 15)) with
 | false=>rfl
 | true=>
  obtain ⟨a,b⟩:=zW q
  obtain ⟨x,y⟩:=C.bol (((Bool.or_eq_true _ _).mp a).imp (m (j:=8) rfl).mp (m (j:=14) rfl).mp) (((Bool.or_eq_true _ _).mp b).imp (m (j:=9) rfl).mp (m (j:=15) rfl).mp)
  have e:=addN_in ((P.mem nd (zw F (i:=8) rfl)).mpr x)
  exact (congrArg (ZV · 9) e).trans (addN_in ((P.mem nd (zw F (i:=9) rfl)).mpr y))
theorem stay_canon (hr:R[t]? =some r) (ht:t∈l):stayB R l r=true:=by
 have hA:=(P.mem nd hr).mp ht
 have a:has l (wM R r)=false:=Bool.eq_false_iff.mpr fun q=>by
  obtain ⟨p,hp,e⟩:=has_ex q
  unfold wM at e
  cases h:Yz r with
  | none=>rw [h] at e; cases e
  | some r'=>rw [h] at e; exact C.twin r hA r' (h▸.head _) ((P.mem nd (ixOf_get e.symm)).mp hp)
 have b:has l (Yk r)=false:=Bool.eq_false_iff.mpr fun q=>by
  have w:=C.whole r hA
  cases r with
  | str=>exact w.1 rfl ((P.mem nd (zw F (i:=6) rfl)).mp (Jj.mp q))
  | num=>exact w.2 rfl ((P.mem nd (zw F (i:=7) rfl)).mp (Jj.mp q))
  | _=>obtain ⟨p,_,e⟩:=has_ex q; cases e
 unfold stayB
 rw [a,b]; rfl
theorem top_canon {t:Nat} (h:topN l=t):KR R A t:=by
 have one:∀ {j:Nat} {r:Row},yU[j]? =some r→r∈[Row.key 0,.key 9,.key 1]→has l j=true→KR R A j:=fun {j r} hj hr h=>
  have hA:=(P.mem nd (zw F hj)).mp (Jj.mp h)
  (KR.one (zw F hj) (C.part r hA)).cong fun r'=>⟨fun q=>List.mem_singleton.mp q▸hA,fun q=>List.mem_singleton.mpr (C.top r hr hA r' q)⟩
 unfold topN at h
 cases a:has l 0 with
 | true=>rw [a] at h; exact Int.ofNat.inj h▸one (j:=0) rfl (.head _) a
 | false=>
  rw [a] at h
  cases b:has l 13 with
  | true=>rw [b] at h; exact Int.ofNat.inj h▸one (j:=13) rfl (.tail _ (.head _)) b
  | false=>
   rw [b] at h
   cases c:has l 1 with
   | true=>rw [c] at h; exact Int.ofNat.inj h▸one (j:=1) rfl (.tail _ (.tail _ (.head _))) c
   | false=>rw [c] at h; cases h
theorem topN_or:topN l= -1∨ZI (fun t:Nat=>topN l=t) (KR R A):=by
 by_cases h:topN l= -1
 ·exact .inl h
 ·have:∃t:Nat,topN l=t:=by
   revert h
   unfold topN
   cases has l 0 with
   | true=>exact fun _=>⟨0,rfl⟩
   | false=>
    cases has l 13 with
    | true=>exact fun _=>⟨13,rfl⟩
    | false=>
     cases has l 1 with
     | true=>exact fun _=>⟨1,rfl⟩
     | false=>exact fun h=>absurd rfl h
  obtain ⟨t,e⟩:=this
  exact .inr ⟨t,e,top_canon P nd F C e⟩
end
end
section
variable {σ σ':zG} {tb rw ix M N w g:Nat} {R A:List Row} {l:List Nat} {e:Option Nat} {k:K V} {G:Prop}
theorem ints_got:intsOf ((Zo l).map (·.1))=some (intL l):=by
 induction l with
 | nil=>rfl
 | cons i r ih=>exact (congrArg (fun o:Option (List Int)=>o.map ((i:Int)::·)) ih)
theorem s_sorted (h:σ[g]? =some (.dict (Zo l) e)) (hl:l.length < 64):zj 4 [.ref g] k σ=k (.ref σ.length) (σ++[.list (zk (YT l))]):=(s_o h).trans ((Uj ints_got).trans ((yo (lv hl)).trans (congrArg (fun x=>k (.ref σ.length) (σ++[O.list x])) ((congrArg (List.map V.int) wQ).trans List.map_map))))
theorem gather {τ:zG} {src:V} {all:List V×Nat} (T:Tb tb rw ix M τ R w) (hg:τ.length≤g) (hs:∀σ,Kp (·=g) τ σ→same src all σ=true) (hN:1≤N):∀ (ts:List Nat) {d:List Nat} {σ:zG},jy R ts→Kp (·=g) τ σ→σ[g]? =some (.dict (Zo d) e)→d.length+ts.length≤38→
  (∀σ',Kp (·=g) τ σ'→σ'[g]? =some (.dict (Zo (ts.foldl ZV d)) e)→(∀kn:Unit→C,yO src all (fun v _ k=>zA N 19 [.ref tb,v] fun x=>yL x (fun v k=>zV (.ref g) v (.int 1) k) (k ())) kn (zk ts) () σ=kn () σ')→G)→G:=by
 intro ts
 induction ts with
 | nil=>exact fun _ K h _ out=>out _ K h fun _=>rfl
 | cons t ts ih=>
  intro d σ ok K h hl out
  obtain ⟨r,hr,hp⟩:=ok t (.head _)
  have T':=T.off T hg K
  have K':=K.trans (Kp.set (X:=(·=g)) (o:=.dict (Zo (ZV d t)) e) rfl)
  refine ih (fun p q=>ok p (.tail _ q)) K' (yE h) (Nat.le_trans (Nat.add_le_add_right Qy _) (by rw [Nat.add_assoc,Nat.add_comm 1]; exact hl)) fun σ' K2 g2 e2=>out σ' K2 g2 fun kn=>?_
  refine (UT T' hr hN).trans ?_
  rw [partsV_one T.pre hr hp]
  refine (jP (yF (ltb rfl))).trans ((s_setG h ?_).trans (turn (hs _ K') (e2 kn)))
  exact lm (Nat.le_trans (Nat.le_add_right _ _) hl) rfl
noncomputable def un2 (cf:CF) (tb x13:V) (k:K V):C:=zE x13 fun c17=>pIf (!c17) (k (.int 2)) (zj 0 [x13] fun x20=>zL .Eq x20 (.int 1) fun x19=>zE x19 fun c18=>pIf c18 (zC x13 (.int 0) fun x21=>k x21) (zj 0 [x13] fun x24=>pGt x24 (.int 400) fun x23=>zE x23 fun c22=>pIf c22 (jW) (zR P0 tb (nS "put") fun b26=>zj 2 [x13] fun x27=>zN cf b26 [(.tup [(.int 6),x27])] fun x25=>k x25)))
theorem unEnd (T:Tb tb rw ix M σ R (w+1)) (P:jn R l A) (hs:l.Pairwise (· < ·)) (hl:l.length≤38) (h:σ[g]? =some (.list (zk l))) (hN:1≤N) (out:∀t R' σ',R<+:R'→KR R' A t→Kp (XT rw ix) σ σ'→Tb tb rw ix M σ' R' w→(∀k,un2 (zA N) (.ref tb) (.ref g) k σ=k (.int (t:Nat)) σ')→G):G:=by
 have ll:(zk l).length≤38:=Nat.le_trans (Nat.le_of_eq (List.length_map _)) hl
 have e0:∀k,un2 (zA N) (.ref tb) (.ref g) k σ=_:=fun k=>s_tl h (lm ll rfl)
 have fin:∀ {t:Nat},(l=[]∧t=2)∨l=[t]→(∀k,un2 (zA N) (.ref tb) (.ref g) k σ=k (.int (t:Nat)) σ)→G:=fun q=>out _ R σ List.prefix_rfl ⟨l,⟨hs,P.ok,hl,q.imp id .inl⟩,P.rows⟩ Kp.rfl (T.le (Nat.le_succ w))
 rcases l with _ | ⟨a,_ | ⟨b,l⟩⟩
 ·exact fin (.inl ⟨rfl,rfl⟩) e0
 ·exact fin (.inr rfl) fun k=>(e0 k).trans ((yY h (ltb rfl)).trans ((ym _ _).trans (s_l0 h (ltb rfl))))
 ·refine put T (.un (a::b::l)) hN fun t R' σ' x p K T' e=>out t R' σ' x ⟨_,⟨hs,P.ok.mono x,hl,.inr (.inr ⟨Nat.le_add_left 2 _,p⟩)⟩,(P.mono x).rows⟩ K T' fun k=>(e0 k).trans ((yY h (lm ll rfl)).trans ((ZZ (decide_eq_false fun q=>Nat.succ_ne_zero _ (Nat.succ.inj (Int.ofNat.inj q)))).trans ((yY h (lm ll rfl)).trans ((Wj (Int.not_lt.mpr (Int.ofNat_le.mpr (Nat.le_trans ll (leb rfl))))).trans (T.tab.bP.trans ((XB h (lm ll rfl)).trans (e k)))))))
theorem union (T:Tb tb rw ix M σ R (w+1)) {n:Nat} {ts:List Nat} (hs:σ[n]? =some (.list (zk ts))) (P:jn R ts A) (hl:ts.length≤38) (C:Yj A) (hN:3≤N) (out:To tb rw ix M σ R w N 25 [.ref tb,.ref n] (fun t R'=>KR R' A t) G):G:=by
 obtain ⟨N,rfl,h2⟩:=suc hN
 have h1:=Nat.le_of_succ_le h2
 have tl:(zk ts).length < 1000000:=lv (lm hl rfl)
 have K0:Kp (·=σ.length) σ (σ++[O.dict [] (some 0)]):=Kp.push
 have hn:¬n=σ.length:=Nat.ne_of_lt (yV hs)
 refine gather (d:=[]) T (Nat.le_refl σ.length) (fun _ K=>yv (K.get hs hn) tl) h1 ts P.ok K0 zS (by rw [List.length_nil,Nat.zero_add]; exact hl) fun σ2 K2 g2 e2=>?_
 have hm:∀x,x∈ts.foldl ZV []↔x∈ts:=fun x=>wy.trans ⟨fun q=>q.elim nofun id,.inr⟩
 have nd:(ts.foldl ZV []).Nodup:=Wp .nil
 have ln:(ts.foldl ZV []).length≤38:=Nat.le_trans wz (by rw [List.length_nil,Nat.zero_add]; exact hl)
 have P2:=P.perm hm
 generalize ts.foldl ZV []=l at*
 have T2:=T.off T (Nat.le_refl _) K2
 have start:∀k:K V,zA (N+1) 25 [.ref tb,.ref n] k σ=_:=fun k=>(cl25.trans (jP (yN (K0.get hs hn) tl))).trans ((e2 _).trans (topOf g2 h1))
 have nx:∀ {σ'},Kp (·=σ.length) σ σ'→Kp (XT rw ix) σ σ':=fun K=>K.fresh (Nat.le_refl _)
 rcases topN_or P2 T.tab.nd T.pre C with q | ⟨t,q,kr⟩
 ·rw [q] at start
  refine joinBools g2 (lm ln rfl) h1 fun σ3 K3 g3 e3=>?_
  rw [joinB_canon P2 T.tab.nd T.pre C] at g3
  have sl:(zk (YT l)).length < 1000000:=lv (lm (Nat.le_trans (Nat.le_of_eq WQ) ln) rfl)
  have T3:=T2.off T (Nat.le_refl _) K3
  have K4:Kp yR σ3 (σ3++[O.list (zk (YT l))]):=Kp.push
  have T4:=T3.kp K4
  have g4:=K4.get g3 id
  have c4:∀k:K V,(ye (.ref σ3.length) (fun v add=>zA N 23 [.ref tb,.ref σ.length,v] fun x=>zE x fun c=>pIf c (add (some v)) (add .none)) k) (σ3++[O.list (zk (YT l))])=_:=fun k=>Jm (fun _=>true) _ (yN zS sl) (yv zS sl) sl fun v hv add=>by
   obtain ⟨t,ht,rfl⟩:=List.mem_map.mp hv
   have ht:=Jc.mp ht
   obtain ⟨r,hr,_⟩:=P2.ok t ht
   exact (stays T4 g4 hr h2).trans (congrArg (fun b=>pIf b (add (some (.int (t:Nat)))) (add .none) _) (stay_canon P2 T.tab.nd T.pre C hr ht))
  have K5:Kp yR σ3 ((σ3++[O.list (zk (YT l))])++[O.list ((zk (YT l)).filter fun _=>true)]):=K4.trans Kp.push
  refine unEnd (T3.kp K5) (P2.perm fun _=>Jc) (sortN_lt nd) (Nat.le_trans (Nat.le_of_eq WQ) ln) (g:=(σ3++[O.list (zk (YT l))]).length) (zS.trans (by rw [List.filter_eq_self.mpr fun _ _=>rfl])) h1 fun t R' σ' x kr K T' e=>?_
  exact out t R' σ' x kr ((nx (K2.trans (K3.trans (kp0 K5)))).trans K) T' fun k=>(start k).trans ((e3 _).trans ((s_sorted g3 (lm ln rfl)).trans ((c4 _).trans (e k))))
 ·rw [q] at start
  exact out t R σ2 List.prefix_rfl kr (nx K2) (T2.le (Nat.le_succ w)) start
end
end Wk
end
section
namespace Wk
theorem yM {α:Type} {src:V} {all:List V×Nat} {body:V→α→(α→C)→C} {kn:α→C} {v:V} {r:List V} {a:α} {σ:zG}:yO src all body kn (v::r) a σ=body v a (fun a' σ'=>match same src all σ' with | true=>yO src all body kn r a' σ' | false=>none) σ:=rfl
inductive Al {α β:Type} (P:α→β→Prop):List α→List β→Prop
 | nil:Al P [] []
 | cons {a:α} {b:β} {l:List α} {m:List β}:P a b→Al P l m→Al P (a::l) (b::m)
section
variable {α β:Type} {P Q:α→β→Prop} {l l':List α} {m m':List β}
theorem Al.imp (h:Al P l m) (f:∀a b,P a b→Q a b):Al Q l m:=by
 induction h with
 | nil=>exact .nil
 | cons a _ ih=>exact .cons (f _ _ a) ih
theorem Al.app (h:Al P l m) (k:Al P l' m'):Al P (l++l') (m++m'):=by
 induction h with
 | nil=>exact k
 | cons a _ ih=>exact .cons a ih
theorem Al.map {γ:Type} {f:α→γ} {g:β→γ} (h:Al P l m) (e:∀a b,P a b→f a=g b):l.map f=m.map g:=by
 induction h with
 | nil=>rfl
 | cons a _ ih=>exact congr (congrArg List.cons (e _ _ a)) ih
theorem Al.left (h:Al P l m) {a:α} (k:a∈l):∃b∈m,P a b:=by
 induction h with
 | nil=>cases k
 | cons p _ ih=>cases k with
  | head=>exact ⟨_,.head _,p⟩
  | tail _ k=>obtain ⟨b,x,y⟩:=ih k; exact ⟨b,.tail _ x,y⟩
theorem Al.flip (h:Al P l m):Al (fun b a=>P a b) m l:=by
 induction h with
 | nil=>exact .nil
 | cons a _ ih=>exact .cons a ih
theorem Al.len (h:Al P l m):l.length=m.length:=by
 induction h with
 | nil=>rfl
 | cons _ _ ih=>exact congrArg (·+1) ih
end
theorem Al.mapl {α β γ:Type} {P:α→β→Prop} {Q:γ→β→Prop} {f:α→γ} {l:List α} {m:List β} (h:Al P l m) (k:∀a b,P a b→Q (f a) b):Al Q (l.map f) m:=by
 induction h with
 | nil=>exact .nil
 | cons a _ ih=>exact .cons (k _ _ a) ih
theorem Al.same {α β γ δ:Type} {P:α→β→Prop} {f:α→γ} {g:β→δ} {l l':List α} {m m':List β} (h:Al P l m) (h':Al P l' m') (e:l.map f=l'.map f) (k:∀a a' b b',P a b→P a' b'→f a=f a'→g b=g b'):m.map g=m'.map g:=by
 induction h generalizing l' m' with
 | nil=>cases h' with
  | nil=>rfl
  | cons=>cases e
 | cons a _ ih=>cases h' with
  | nil=>cases e
  | cons a' r=>exact List.cons_eq_cons.mpr ⟨k _ _ _ _ a a' (List.cons.inj e).1,ih r (List.cons.inj e).2⟩
noncomputable def Pt (R:List Row):List Nat→List Row→Prop:=Al fun t r=>R[t]? =some r
section
variable {R R' A B:List Row} {l m:List Nat} {t:Nat} {r:Row}
theorem Pt.mono (h:Pt R l A) (x:R<+:R'):Pt R' l A:=h.imp fun _ _=>zw x
theorem Pt.rows (h:Pt R l A):Yw R l A:=fun r=>⟨fun q=>h.flip.left q,fun ⟨_,a,b⟩=>let ⟨_,c,e⟩:=h.left a; Option.some.inj (e.symm.trans b)▸c⟩
theorem Pt.parts (h:Pt R l A) (k:∀r∈A,ja r=true):jn R l A:=⟨fun _ hp=>let ⟨r,a,b⟩:=h.left hp; ⟨r,b,k r a⟩,h.rows⟩
theorem Ye:zk l++zk m=zk (l++m):=List.map_append.symm
end
noncomputable def bitB (x:Int) (i:Nat):Bool:=Builtin.bitAnd (x.fdiv (2^i)) 1 !=0
noncomputable def ji (x:Int) (f:Bool):List Nat→List Row
 | []=>[]
 | i::d=>(bif bitB x i then [UX i f] else [])++ji x f d
noncomputable def zX (k:Kd):List Row:=ji k.reg false (List.range 14)++ji k.new true (List.range 14)
noncomputable abbrev canonP (A:List Row):Prop:=(∀r∈[Row.key 0,.key 9,.key 1],r∈A→∀r'∈A,r'=r)∧(.bol false false∈A∨.bol false true∈A→.bol true false∈A∨.bol true true∈A→.bol false false∈A∧.bol true false∈A)∧(∀r∈A,∀r'∈(Yz r).toList,r'∉A)∧(∀r∈A,(Yk r=6→.key 6∉A)∧(Yk r=7→.key 7∉A))∧∀r∈A,ja r=true
set_option synthInstance.maxHeartbeats 400000 in
set_option synthInstance.maxSize 2000 in
theorem canon_plains:∀r < 19,∀f∈[false,true],canonP (zX (zJ r f)):=by decide+kernel
theorem canonC {A:List Row} (q:canonP A):Yj A:=⟨q.1,q.2.1,q.2.2.1,q.2.2.2.1,q.2.2.2.2⟩
theorem JX {r:Nat} (h:r < 19) (f:Bool):Yj (zX (zJ r f)):=canonC (canon_plains r h f (by cases f<;>decide))
theorem atomRows_len {x:Int} {f:Bool}:∀d,(ji x f d).length≤d.length:=by
 intro d
 induction d with
 | nil=>exact Nat.le_refl _
 | cons i d ih=>
  unfold ji
  cases bitB x i with
  | true=>exact Nat.succ_le_succ ih
  | false=>exact Nat.le_succ_of_le ih
section
variable {σ:zG} {tb rw ix M N w n:Nat} {R A:List Row} {l:List Nat} {k:K V} {G:Prop} {kv:V} {j x:Int} {f:Bool} {all:List V×Nat}
noncomputable def bAtom (cf:CF) (tb kv v:V) (j f:Int) (add:Option V→C):C:=zC kv (.int j) fun x8=>zT .RShift x8 v fun x7=>zT .BitAnd x7 (.int 1) fun x6=>zE x6 fun c5=>pIf c5 (cf 72 [tb,v,.int f] fun x9=>add (some x9)) (add .none)
theorem atomsL (hg:∀ (k:K V) (τ:zG),zC kv (.int j) k τ=k (.int x) τ) (hN:3≤N):∀ (d:List Nat) {σ:zG} {R A:List Row} {l:List Nat} {acc:List V},(∀i∈d,i < 14)→acc=zk l→Tb tb rw ix M σ R (w+d.length)→Pt R l A→
  (∀l' R' σ',R<+:R'→Pt R' l' (A++ji x f d)→Kp (XT rw ix) σ σ'→Tb tb rw ix M σ' R' w→(∀kn,yO (α:=List V) (.rng n) all (fun v acc k=>bAtom (zA N) (.ref tb) kv v j (bI f) fun x=>k (JZ acc x)) kn (zk d) acc σ=kn (zk l') σ')→G)→G:=by
 intro d
 induction d with
 | nil=>exact fun _ ha T P out=>out _ _ _ List.prefix_rfl (by rw [ji,List.append_nil]; exact P) Kp.rfl T fun kn=>congrArg (kn · _) ha
 | cons i d ih=>
  intro σ R A l acc hd ha T P out
  have hd':∀i∈d,i < 14:=fun i h=>hd i (.tail _ h)
  have e0:∀ {add:Option V→C},bAtom (zA N) (.ref tb) kv (.int (i:Nat)) j (bI f) add σ=pIf (bitB x i) (zA N 72 [.ref tb,.int (i:Nat),.int (bI f)] fun x9=>add (some x9)) (add .none) σ:=(hg _ _).trans (s_shr (Int.natCast_nonneg i))
  unfold ji at out
  cases h:bitB x i with
  | true=>
   rw [h] at e0 out
   exact atom T (hd i (.head _)) f hN fun t R1 σ1 x1 p1 K1 T1 e1=>ih hd' (ha▸Ye (m:=[t])) T1 ((P.mono x1).app (.cons p1 .nil)) fun l' R' σ' x2 P2 K2 T2 e2=>out l' R' σ' (x1.trans x2) (by rw [← List.append_assoc]; exact P2) (K1.trans K2) T2 fun kn=>yM.trans (e0.trans ((e1 _).trans (e2 kn)))
  | false=>
   rw [h] at e0 out
   exact ih hd' ha (T.le (Nat.le_succ _)) P fun l' R' σ' x2 P2 K2 T2 e2=>out l' R' σ' x2 P2 K2 T2 fun kn=>yM.trans (e0.trans (e2 kn))
theorem atoms (T:Tb tb rw ix M σ R (w+14)) (hg:∀ (k:K V) (τ:zG),zC kv (.int j) k τ=k (.int x) τ) (hN:3≤N) (f:Bool)
  (out:∀l R' σ' n,R<+:R'→Pt R' l (ji x f (List.range 14))→l.length≤14→Kp (XT rw ix) σ σ'→¬XT rw ix n→Tb tb rw ix M σ' R' w→σ'[n]? =some (.list (zk l))→(∀k:K V,(zj 1 [.int 14] fun x=>ye x (fun v add=>bAtom (zA N) (.ref tb) kv v j (bI f) add) k) σ=k (.ref n) σ')→G):G:=
 atomsL (n:=14) (f:=f) (A:=[]) (l:=[]) (all:=(zk (List.range 14),0)) hg hN (List.range 14) (fun _=>List.mem_range.mp) rfl T .nil fun l R' σ' x1 P1 K1 T1 e1=>
  have hl:l.length≤14:=Nat.le_trans (Nat.le_of_eq P1.len) (atomRows_len _)
  out l R' _ σ'.length x1 P1 hl (K1.trans Kp.push) (T1.new (Nat.le_refl _)) (T1.kp Kp.push) zS fun k=>(Zz (n:=14) (ltb rfl)).trans ((Za (jU (ltb rfl))).trans ((e1 _).trans (yo (lv (lm hl rfl)))))
theorem typeP (T:Tb tb rw ix M σ R (w+29)) {kd:Kd} (hr:kd.rows=[]) (C:Yj (zX kd)) (hN:4≤N) (out:To tb rw ix M σ R w N 73 [.ref tb,zx kd] (fun t R'=>KR R' (zX kd) t) G):G:=by
 obtain ⟨N,rfl,h3⟩:=suc hN
 obtain ⟨a,b,c⟩:=kd
 obtain rfl:c=[]:=hr
 exact atoms (kv:=zx ⟨a,b,[]⟩) (j:=0) (w:=w+1+14) T (fun _ _=>s_t0 (ltb rfl)) h3 false fun l1 R1 σ1 n1 x1 P1 q1 K1 g1 T1 h1 e1=>atoms (kv:=zx ⟨a,b,[]⟩) (j:=1) (w:=w+1) T1 (fun _ _=>XC (ltb rfl)) h3 true fun l2 R2 σ2 n2 x2 P2 q2 K2 g2 T2 h2 e2=>
  have P:Pt R2 (l1++l2) (zX ⟨a,b,[]⟩):=(P1.mono x2).app P2
  have q:(l1++l2).length≤28:=Nat.le_trans (Nat.le_of_eq List.length_append) (Nat.add_le_add q1 q2)
  union (T2.kp (Kp.push (o:=.list (zk (l1++l2))))) (n:=σ2.length) zS (P.parts C.part) (Nat.le_trans q (leb rfl)) C h3 fun t R4 σ4 x4 p4 K4 T4 e4=>out t R4 σ4 (x1.trans (x2.trans x4)) p4 (K1.trans (K2.trans (Kp.push.trans K4))) T4 fun k=>c73.trans ((e1 _).trans ((e2 _).trans ((WS (K2.get h1 g1) h2 (lm (Nat.le_trans (Nat.le_of_eq ((congr (congrArg _ (List.length_map _)) (List.length_map _)).trans List.length_append.symm)) q) rfl)).trans (by
   rw [Ye]
   exact (jP (yF (ltb rfl))).trans (e4 k)))))
end
end Wk
end
section
namespace Wk
noncomputable def YA (x:Nat×Nat):V:=.tup [.int x.1,.int x.2]
noncomputable def JL (pl:List Nat):List Nat→Nat→Int→Int
 | [],_,acc=>acc
 | m::r,i,acc=>JL pl r (i+1) (bif decide (m∈pl) then (i:Int) else acc)
noncomputable def XM:List Nat→Nat→Int→Int
 | [],_,acc=>acc
 | m::r,i,acc=>XM r (i+1) (bif decide (acc < 0)&&decide ((m:Int)=2) then (i:Int) else acc)
noncomputable def Marks (ms:List Nat):Prop:=X3_4 (fun a _ _=>a < 3) (fun _ b _=>b < 2) (fun _ _ c=>c < 2) fun d1 d2 d3=>ms=Z2 d1 d2 d3
structure MarksOk (ms:List Nat):Prop where
 no3:JL [3] ms 0 (-1) < 0
 need:∀i:Nat,i < 4→ms[i]? =some 1→¬ (i:Int) < JL [0] ms 0 (-1)
 rest:XM ms 0 (-1) < 0∨JL [2,1] ms 0 (-1)≤XM ms 0 (-1)
noncomputable abbrev marksP (ms:List Nat):Prop:=JL [3] ms 0 (-1) < 0∧(∀i:Nat,i < 4→ms[i]? =some 1→¬ (i:Int) < JL [0] ms 0 (-1))∧(XM ms 0 (-1) < 0∨JL [2,1] ms 0 (-1)≤XM ms 0 (-1))
set_option synthInstance.maxHeartbeats 400000 in
set_option synthInstance.maxSize 2000 in
theorem marks_all:∀a < 3,∀b < 2,∀c < 2,marksP (Z2 a b c):=by decide+kernel
theorem marks_ok {ms:List Nat} (h:Marks ms):MarksOk ms∧ms.length≤4:=by
 obtain ⟨a,b,c,h1,h2,h3,rfl⟩:=h
 have q:=marks_all a h1 b h2 c h3
 exact ⟨⟨q.1,q.2.1,q.2.2⟩,WW h1 h2 h3⟩
section
variable {σ:zG} {n:Nat} {E:List (Nat×Nat)} {k:K V}
theorem Ql {α:Type} {F l:List α} {x:α} {i:Nat} (h:F.drop i=x::l):F[i]? =some x∧F.drop (i+1)=l:=⟨by
 have:=congrArg (·[0]?) h
 rw [List.getElem?_drop] at this
 exact this,(List.tail_drop).symm.trans (congrArg List.tail h)⟩
theorem U3 {n:Nat} (h:n < 100000):zz (.rng n) σ=some ((List.range' 0 n).map fun (i:Nat)=>V.int i,0):=(jU h).trans (by rw [List.range_eq_range'])
theorem s_inN {j:Nat} {pl:List Nat}:zL .In (.int (j:Int)) (.tup (zk pl)) k σ=k (.bool (decide (j∈pl))) σ:=(s_inT rfl fun _ h=>let ⟨_,_,e⟩:=List.mem_map.mp h; e▸rfl).trans (congrArg (fun b=>k (.bool b) σ) (Bool.eq_iff_iff.mpr (List.any_eq_true.trans ⟨fun ⟨_,h,e⟩=>decide_eq_true (let ⟨p,hp,q⟩:=List.mem_map.mp h; Int.ofNat.inj (V.int.inj (q.trans (Qo.mp e)))▸hp),fun h=>⟨_,List.mem_map.mpr ⟨j,of_decide_eq_true h,rfl⟩,WI _⟩⟩)))
structure Els (σ:zG) (n:Nat) (E:List (Nat×Nat)):Prop where
 is:σ[n]? =some (.list (E.map YA))
 ok:MarksOk (E.map (·.2))
 len:E.length≤4
theorem Els.lt (S:Els σ n E) {c:Nat} (h:Nat.ble 5 c=true):(E.map YA).length < c:=lv (lm S.len h)
theorem Els.get (S:Els σ n E) {i:Nat} {x:Nat×Nat} (h:E[i]? =some x):zC (.ref n) (.int (i:Int)) k σ=k (YA x) σ:=YJ S.is (by rw [List.getElem?_map,h]; rfl) (S.lt rfl)
theorem Els.idx (S:Els σ n E):(zj 0 [.ref n] fun x=>zj 1 [x] k) σ=k (.rng (E.map YA).length) σ:=(yY S.is (S.lt rfl)).trans (Zz (S.lt rfl))
theorem Els.kp (S:Els σ n E) {σ':zG} (K:Kp yR σ σ'):Els σ' n E:=⟨K.get S.is id,S.ok,S.len⟩
theorem lastL (S:Els σ n E) {pl:List Nat} {w:Nat} {all:List V×Nat} {kn:V→C}:∀ (l:List (Nat×Nat)) {i:Nat} {acc:Int},E.drop i=l→yO (α:=V) (.rng w) all (fun v a k=>zC (.ref n) v fun x=>zC x (.int 1) fun x=>zL .In x (.tup (zk pl)) fun x=>zE x fun c=>pIf c (k v) (k a)) kn ((List.range' i (l.map YA).length).map fun j:Nat=>V.int j) (.int acc) σ=kn (.int (JL pl (l.map (·.2)) i acc)) σ:=by
 intro l
 induction l with
 | nil=>exact fun _=>rfl
 | cons x r ih=>
  intro i acc h
  obtain ⟨h1,h2⟩:=Ql h
  exact yM.trans ((S.get h1).trans ((XC (ltb rfl)).trans (s_inN.trans ((Z0 (fun a:Int=>yO (.rng w) all _ kn _ (.int a) σ) rfl rfl).trans (ih h2)))))
theorem U2 {N:Nat} (S:Els σ n E) (pl:List Nat) (hN:1≤N):zA N 15 [.ref n,.tup (zk pl)] k σ=k (.int (JL pl (E.map (·.2)) 0 (-1))) σ:=by
 obtain ⟨m,rfl,-⟩:=suc hN
 exact cl15.trans (S.idx.trans ((s_for1 (U3 (S.lt rfl))).trans (lastL S E rfl)))
theorem s_pandC {b c:Bool} {X:C} {f:K Bool} (h:b=true→X σ=pIf c (f true) (f false) σ):pIf b X (f false) σ=f (b&&c) σ:=by cases b with
 | false=>rfl
 | true=>exact (h rfl).trans (by cases c<;>rfl)
noncomputable def fNeed (cf:CF) (tb q u w:V) (k:C):K Bool:=fun c=>pIf c (zR P0 q (nS "append") fun b=>cf 26 [tb,u] fun x=>zN cf b [.tup [x,.int 0]] fun _=>k) (zR P0 q (nS "append") fun b=>zN cf b [.tup [u,w]] fun _=>k)
noncomputable def bNeed (cf:CF) (tb n q v:V) (la:Int) (k:C):C:=zC n v fun x=>yZ x fun u w=>zL .Eq w (.int 1) fun x=>zE x fun c=>pIf c (pLt v (.int la) fun x=>zE x fun c=>pIf c (fNeed cf tb q u w k true) (fNeed cf tb q u w k false)) (fNeed cf tb q u w k false)
theorem needL {cf:CF} {tb:V} {q w:Nat} {all:List V×Nat} {G:Prop} (S:Els σ n E) (hq:σ.length≤q):∀ (l:List (Nat×Nat)) {i:Nat} {acc:List V} {τ:zG},E.drop i=l→acc.length+l.length≤4→Kp yR σ τ→τ[q]? =some (.list acc)→(∀σ',Kp yR σ σ'→σ'[q]? =some (.list (acc++l.map YA))→(∀kn:Unit→C,yO (.rng w) all (fun v _ k=>bNeed cf tb (.ref n) (.ref q) v (JL [0] (E.map (·.2)) 0 (-1)) (k ())) kn ((List.range' i (l.map YA).length).map fun j:Nat=>V.int j) () τ=kn () σ')→G)→G:=by
 intro l
 induction l with
 | nil=>exact fun _ _ K h out=>out _ K (by rw [List.map_nil,List.append_nil]; exact h) fun _=>rfl
 | cons x r ih=>
  intro i acc τ h hl K hg out
  obtain ⟨h1,h2⟩:=Ql h
  have hi:i < 4:=Nat.lt_of_lt_of_le (List.getElem?_eq_some_iff.mp h1).1 S.len
  refine ih (acc:=acc++[YA x]) h2 (by rw [List.length_append,Nat.add_assoc,Nat.add_comm [YA x].length]; exact hl) (K.snew hq) (yE hg) fun σ' K2 g2 e2=>out σ' K2 (by rw [List.append_assoc] at g2; exact g2) fun kn=>yM.trans (((S.kp K).get h1).trans ((ym _ _).trans ?_))
  refine (s_pandC (b:=decide ((x.2:Int)=1)) (c:=false) (f:=fNeed _ _ _ _ _ _) ?_).trans ?_
  ·exact fun q=>Z1 (S.ok.need i hi (by
    rw [List.getElem?_map,h1]
    exact congrArg some (Int.ofNat.inj (of_decide_eq_true q))))
  ·rw [Bool.and_false]
   exact (yd hg).trans ((yK hg (lm (Nat.le_trans (Nat.le_add_right _ _) hl) rfl)).trans (e2 kn))
theorem needed {tb:V} {N:Nat} {G:Prop} (S:Els σ n E) (hN:2≤N) (out:∀σ' q,Kp yR σ σ'→Els σ' q E→(∀k,zA N 16 [tb,.ref n] k σ=k (.ref q) σ')→G):G:=by
 obtain ⟨m,rfl,h1⟩:=suc hN
 have K:Kp yR σ (σ++[O.list []]):=Kp.push
 exact needL (acc:=[]) S (Nat.le_refl _) E rfl (by rw [List.length_nil,Nat.zero_add]; exact S.len) K zS fun σ' K2 g2 e2=>out σ' σ.length K2 ⟨g2,S.ok,S.len⟩ fun k=>cl16.trans ((U2 S [0] h1).trans ((S.kp K).idx.trans ((jP (U3 (S.lt rfl))).trans (e2 _))))
noncomputable def fRest (x y:C):K Bool:=fun c=>pIf c x y
theorem restL (S:Els σ n E) {w:Nat} {all:List V×Nat} {kn:V→C}:∀ (l:List (Nat×Nat)) {i:Nat} {acc:Int},E.drop i=l→yO (α:=V) (.rng w) all (fun v a k=>pLt a (.int 0) fun x=>zE x fun c=>pIf c (zC (.ref n) v fun x=>zC x (.int 1) fun x=>zL .Eq x (.int 2) fun x=>zE x fun c=>pIf c (fRest (k v) (k a) true) (fRest (k v) (k a) false)) (fRest (k v) (k a) false)) kn ((List.range' i (l.map YA).length).map fun j:Nat=>V.int j) (.int acc) σ=kn (.int (XM (l.map (·.2)) i acc)) σ:=by
 intro l
 induction l with
 | nil=>exact fun _=>rfl
 | cons x r ih=>
  intro i acc h
  obtain ⟨h1,h2⟩:=Ql h
  exact yM.trans ((s_pandC (b:=decide (acc < 0)) (c:=decide ((x.2:Int)=2)) (f:=fRest _ _) fun _=>(S.get h1).trans ((XC (ltb rfl)).trans (ym _ _))).trans ((Z0 (fun a:Int=>yO (.rng w) all _ kn _ (.int a) σ) rfl rfl).trans (ih h2)))
theorem oneRest {tb:V} {N:Nat} (S:Els σ n E) (hN:1≤N):zA N 17 [tb,.ref n,.int (JL [2,1] (E.map (·.2)) 0 (-1))] k σ=k (.ref n) σ:=by
 obtain ⟨m,rfl,-⟩:=suc hN
 refine cl17.trans (S.idx.trans ((s_for1 (U3 (S.lt rfl))).trans ((restL S E rfl).trans ?_)))
 by_cases h:XM (E.map (·.2)) 0 (-1) < 0
 ·exact Wi h
 ·exact (Z1 h).trans (congrArg (fun b=>pIf b _ _ σ) (decide_eq_true (S.ok.rest.resolve_left h)))
end
noncomputable def rowE (E:List (Nat×Nat)) (ro:Nat):Row:=match E with
 | []=>.tup [] ro
 | x::r=>bif r.isEmpty&&decide ((x.2:Int)=2) then .arr x.1 ro else .tup (x::r) ro
theorem rowE_one {x:Nat×Nat} {ro:Nat} {b:Bool} (h:decide ((x.2:Int)=2)=b):rowE [x] ro=bif b then .arr x.1 ro else .tup [x] ro:=congrArg (fun b=>bif b then Row.arr x.1 ro else .tup [x] ro) h
section
variable {σ:zG} {tb rw ix M N w n:Nat} {R:List Row} {G:Prop}
theorem tupleType (T:Tb tb rw ix M σ R (w+1)) {E:List (Nat×Nat)} (S:Els σ n E) (ro:Nat) (hN:3≤N) (out:To tb rw ix M σ R w N 18 [.ref tb,.ref n,.int (ro:Int)] (fun t R'=>R'[t]? =some (rowE E ro)) G):G:=by
 obtain ⟨N,rfl,h2⟩:=suc hN
 have h1:=Nat.le_of_succ_le h2
 have K1:Kp yR σ (σ++[O.list ((E.map YA).filter fun _=>true)]):=Kp.push
 have S1:Els (σ++[O.list ((E.map YA).filter fun _=>true)]) σ.length E:=⟨zS.trans (by rw [List.filter_eq_self.mpr fun _ _=>rfl]),S.ok,S.len⟩
 refine needed (tb:=.ref tb) S1 h2 fun σ2 q K2 S2 e2=>?_
 have T2:=T.kp (K1.trans K2)
 have pre:∀k:K V,zA (N+1) 18 [.ref tb,.ref n,.int (ro:Int)] k σ=_:=fun k=>cl18.trans ((Jm (fun _=>true) _ (yN S.is (S.lt rfl)) (yv S.is (S.lt rfl)) (S.lt rfl) fun v hv add=>by
  obtain ⟨x,-,rfl⟩:=List.mem_map.mp hv
  rfl).trans ((U2 S1 [3] h1).trans ((Wi S.ok.no3).trans ((U2 S1 [2,1] h1).trans ((e2 _).trans ((oneRest S2 h1).trans (yY S2.is (S.lt rfl))))))))
 have tup:rowE E ro=.tup E ro→(∀k:K V,zA (N+1) 18 [.ref tb,.ref n,.int (ro:Int)] k σ=(zR P0 (.ref tb) (nS "put") fun b=>zj 2 [.ref q] fun x=>zN (zA N) b [.tup [.int 12,x,.int (ro:Int)]] fun x=>k x) σ2)→G:=fun r e=>put T2 (.tup E ro) h1 fun t R' σ' x p K T' e'=>out t R' σ' x (r▸p) ((kp0 (K1.trans K2)).trans K) T' fun k=>(e k).trans (T2.tab.bP.trans ((XB S2.is (S.lt rfl)).trans (e' k)))
 rcases E with _ | ⟨x,_ | ⟨y,r⟩⟩
 ·exact tup rfl fun k=>(pre k).trans (ym _ _)
 ·cases h:decide ((x.2:Int)=2) with
  | true=>
   obtain ⟨m,hm,h1'⟩:=suc h2
   exact put T2 (.arr x.1 ro) h1' fun t R' σ' z p K T' e'=>out t R' σ' z (p.trans (congrArg some (rowE_one h).symm)) ((kp0 (K1.trans K2)).trans K) T' fun k=>(pre k).trans ((ym _ _).trans ((s_l0 S2.is (ltb rfl)).trans ((XC (ltb rfl)).trans ((ZZ h).trans ((s_l0 S2.is (ltb rfl)).trans ((s_t0 (ltb rfl)).trans (hm▸cl14.trans (T2.tab.bP.trans (e' k)))))))))
  | false=>exact tup (rowE_one h) fun k=>(pre k).trans ((ym _ _).trans ((s_l0 S2.is (ltb rfl)).trans ((XC (ltb rfl)).trans (ZZ h))))
 ·exact tup rfl fun k=>(pre k).trans (ZZ (decide_eq_false fun q=>Nat.succ_ne_zero _ (Nat.succ.inj (Int.ofNat.inj q))))
end
end Wk
end
section
namespace Wk
noncomputable def TsOk (R:List Row):List (Nat×Nat)→List (Nat×Bool×Nat)→Prop:=Al fun x y=>y.1 < 18∧KR R (zX (zJ y.1 y.2.1)) x.1∧x.2=y.2.2
theorem TsOk.mono {R R':List Row} {E:List (Nat×Nat)} {cs:List (Nat×Bool×Nat)} (h:TsOk R E cs) (x:R<+:R'):TsOk R' E cs:=h.imp fun _ _ q=>⟨q.1,q.2.1.mono x,q.2.2⟩
noncomputable def Yx (R:List Row) (c:Yi) (row:Row):Prop:=ZI (fun E=>TsOk R E c.cs) (fun E=>row=rowE E c.ro)
theorem Yx.mono {R R':List Row} (x:R<+:R') {c:Yi} {row:Row} (h:Yx R c row):Yx R' c row:=let ⟨E,a,b⟩:=h; ⟨E,a.mono x,b⟩
noncomputable def Zn (R:List Row):List Yi→List Row→Prop:=Al (Yx R)
theorem Zn.mono {R R':List Row} {cs:List Yi} {rs:List Row} (h:Zn R cs rs) (x:R<+:R'):Zn R' cs rs:=h.imp fun _ _=>Yx.mono x
noncomputable def yI:Row→Bool
 | .arr _ _=>true
 | .tup _ _=>true
 | _=>false
theorem rowE_tup {E:List (Nat×Nat)} {ro:Nat}:yI (rowE E ro)=true:=by
 unfold rowE
 rcases E with _ | ⟨x,r⟩
 ·rfl
 ·show yI (bif _ then _ else _)=true
  cases (r.isEmpty&&decide ((x.2:Int)=2))<;>rfl
theorem Zn.tup {R:List Row} {cs:List Yi} {rs:List Row} (h:Zn R cs rs):∀r∈rs,yI r=true:=fun r k=>by
 obtain ⟨_,_,E,_,e⟩:=h.flip.left k
 exact e▸rowE_tup
theorem uJ {A B:List Row} (C:Yj A) (hB:∀r∈B,yI r=true) (ht:∀r∈[Row.key 0,.key 9,.key 1],r∈A→B=[]):Yj (A++B):=by
 have only:∀ {r:Row},r∈A++B→yI r=false→r∈A:=fun h q=>(List.mem_append.mp h).elim id fun h=>nomatch (hB _ h).symm.trans q
 have k:∀r∈[Row.key 0,.key 9,.key 1],yI r=false:=List.forall_mem_cons.mpr ⟨rfl,List.forall_mem_cons.mpr ⟨rfl,List.forall_mem_singleton.mpr rfl⟩⟩
 have w:∀ {r:Row} {x:Int},Yk r=x→0≤x→yI r=false:=fun {r x} e h=>by
  subst e
  cases r<;>first | rfl | cases h
 have tw:∀r,∀r'∈(Yz r).toList,yI r=false∧yI r'=false:=fun r r' h=>by
  cases r with
  | bol b f=>cases f with
   | true=>exact ⟨rfl,List.mem_singleton.mp h▸rfl⟩
   | false=>cases h
  | str b f=>cases f with
   | true=>exact ⟨rfl,List.mem_singleton.mp h▸rfl⟩
   | false=>cases h
  | num b f=>cases f with
   | true=>exact ⟨rfl,List.mem_singleton.mp h▸rfl⟩
   | false=>cases h
  | _=>cases h
 refine ⟨fun r hr hm r' hm'=>?_,fun a b=>?_,fun r hr r' h h'=>C.twin r (only hr (tw r r' h).1) r' h (only h' (tw r r' h).2),fun r hr=>⟨fun e h=>(C.whole r (only hr (w e (by decide)))).1 e (only h rfl),fun e h=>(C.whole r (only hr (w e (by decide)))).2 e (only h rfl)⟩,fun r hr=>(List.mem_append.mp hr).elim (C.part r) fun h=>?_⟩
 ·have hA:=only hm (k r hr)
  rw [ht r hr hA,List.append_nil] at hm'
  exact C.top r hr hA r' hm'
 ·exact (C.bol (a.imp (only · rfl) (only · rfl)) (b.imp (only · rfl) (only · rfl))).imp (List.mem_append_left _) (List.mem_append_left _)
 ·have q:=hB r h
  cases r<;>first | rfl | cases q
section
variable {σ:zG} {tb rw ix M N w q:Nat} {R A:List Row} {l:List Nat} {G:Prop} {src:V} {all:List V×Nat}
noncomputable def bPair (cf:CF) (tb v:V) (add:Option V→C):C:=yZ v fun u31 u32=>cf 73 [tb,u31] fun x33=>add (some (.tup [x33,u32]))
theorem pairsL (hs:∀σ,same src all σ=true) (hN:4≤N):∀ (d:List (Nat×Bool×Nat)) {σ:zG} {R:List Row} {E:List (Nat×Nat)} {cs:List (Nat×Bool×Nat)} {acc:List V},(∀y∈d,y.1 < 18)→acc=E.map YA→Tb tb rw ix M σ R (it (·+29) d.length w)→TsOk R E cs→
  (∀E' R' σ',R<+:R'→TsOk R' E' (cs++d)→Kp (XT rw ix) σ σ'→Tb tb rw ix M σ' R' w→(∀kn,yO (α:=List V) src all (fun v acc k=>bPair (zA N) (.ref tb) v fun x=>k (JZ acc x)) kn (d.map Yd) acc σ=kn (E'.map YA) σ')→G)→G:=by
 intro d
 induction d with
 | nil=>exact fun _ ha T P out=>out _ _ _ List.prefix_rfl (by rw [List.append_nil]; exact P) Kp.rfl T fun kn=>congrArg (kn · _) ha
 | cons y d ih=>
  intro σ R E cs acc hd ha T P out
  exact typeP T jR (JX (Nat.lt_succ_of_lt (hd y (.head _))) _) hN fun t R1 σ1 x1 p1 K1 T1 e1=>ih (fun y h=>hd y (.tail _ h)) (by rw [ha]; exact (List.map_append (l₂:=[(t,y.2.2)])).symm) T1 ((P.mono x1).app (.cons ⟨hd y (.head _),p1,rfl⟩ .nil)) fun E' R' σ' x2 P2 K2 T2 e2=>out E' R' σ' (x1.trans x2) (by rw [List.append_assoc] at P2; exact P2) (K1.trans K2) T2 fun kn=>yM.trans ((e1 _).trans (turn (hs _) (e2 kn)))
theorem cellType (T:Tb tb rw ix M σ R (w+117)) {c:Yi} (hc:Yy c) (hN:4≤N) (out:∀t row R' σ',R<+:R'→Yx R' c row→R'[t]? =some row→Kp (XT rw ix) σ σ'→Tb tb rw ix M σ' R' w→(∀k:K V,(ye (.tup (c.cs.map Yd)) (fun v add=>bPair (zA N) (.ref tb) v add) fun x=>zA N 18 [.ref tb,x,.int (c.ro:Int)] k) σ=k (.int (t:Nat)) σ')→G):G:=
 pairsL (src:=.tup (c.cs.map Yd)) (all:=(c.cs.map Yd,0)) (fun _=>rfl) hN c.cs (E:=[]) (cs:=[]) hc.kinds rfl (w:=w+1) (T.le (Jw (fun _=>Nat.le_add_right _ 29) (n:=c.cs.length) (m:=4) hc.len)) .nil fun E R1 σ1 x1 P1 K1 T1 e1=>
  have m:E.map (·.2)=c.cs.map (·.2.2):=P1.map fun _ _ h=>h.2.2
  have q:=marks_ok (show Marks (E.map (·.2)) from m▸hc.marks)
  have le:E.length≤4:=(List.length_map (fun x:Nat×Nat=>x.2))▸q.2
  tupleType (T1.kp Kp.push) (n:=σ1.length) ⟨zS,q.1,le⟩ c.ro (Nat.le_of_succ_le hN) fun t R' σ' x2 p2 K2 T2 e2=>out t _ R' σ' (x1.trans x2) ⟨E,P1.mono x2,rfl⟩ p2 (K1.trans (Kp.push.trans K2)) T2 fun k=>(Za (yF (lv (lm hc.len rfl)))).trans ((e1 _).trans ((yo (lv (lm le rfl))).trans (e2 k)))
theorem cellsL {τ:zG} {R0:List Row} {u:Nat} (T0:Tb tb rw ix M τ R0 u) (hq:τ.length≤q) (hs:∀σ,same src all σ=true) (hN:4≤N):∀ (d:List Yi) {σ:zG} {R A:List Row} {l:List Nat},(∀c∈d,Yy c)→l.length+d.length≤30→Kp (XT rw ix) τ σ→σ[q]? =some (.list (zk l))→Tb tb rw ix M σ R (it (·+117) d.length w)→Pt R l A→
  (∀rs l' R' σ',R<+:R'→Zn R' d rs→l'.length≤30→Pt R' l' (A++rs)→Kp (XT rw ix) τ σ'→σ'[q]? =some (.list (zk l'))→Tb tb rw ix M σ' R' w→(∀kn:Unit→C,yO src all (fun v _ k=>yZ v fun u23 u24=>zR P0 (.ref q) (nS "append") fun b26=>ye u24 (fun v add=>bPair (zA N) (.ref tb) v add) fun x30=>zA N 18 [.ref tb,x30,u23] fun x27=>zN (zA N) b26 [x27] fun x25=>k ()) kn (d.map jM) () σ=kn () σ')→G)→G:=by
 intro d
 induction d with
 | nil=>exact fun _ hl K g T P out=>out [] _ _ _ List.prefix_rfl .nil hl (by rw [List.append_nil]; exact P) K g T fun _=>rfl
 | cons c d ih=>
  intro σ R A l hd hl K g T P out
  have nq:¬XT rw ix q:=T0.new hq
  exact cellType T (hd c (.head _)) hN fun t row R1 σ1 x1 c1 p1 K1 T1 e1=>
   have g1:=K1.get g nq
   ih (fun c h=>hd c (.tail _ h)) (by rw [List.length_append,Nat.add_assoc,Nat.add_comm [t].length]; exact hl) ((K.trans K1).snew hq) (yE g1) (T1.off T0 hq (Kp.set rfl)) ((P.mono x1).app (.cons p1 .nil)) fun rs l' R' σ' x2 c2 l2 P2 K2 g2 T2 e2=>out (row::rs) l' R' σ' (x1.trans x2) (.cons (c1.mono x2) c2) l2 (by rw [List.append_assoc] at P2; exact P2) K2 g2 T2 fun kn=>yM.trans ((yd g).trans ((e1 _).trans ((yK g1 (lv (lm (Nat.le_trans (Nat.le_add_right _ _) hl) rfl))).trans (by
     rw [show zk l++[V.int (t:Nat)]=zk (l++[t]) from Ye (m:=[t])]
     exact turn (hs _) (e2 kn)))))
theorem typeK (T:Tb tb rw ix M σ R (w+263)) {kd:Kd} {cs:List Yi} (hr:kd.rows=cs.map jM) (hl:cs.length≤2) (hc:∀c∈cs,Yy c) (C:Yj (zX kd)) (ht:∀r∈[Row.key 0,.key 9,.key 1],r∈zX kd→cs=[]) (hN:5≤N) (out:To tb rw ix M σ R w N 73 [.ref tb,zx kd] (fun t R'=>ZI (Zn R' cs) fun rs=>KR R' (zX kd++rs) t) G):G:=by
 obtain ⟨N,rfl,h4⟩:=suc hN
 have h3:=Nat.le_of_succ_le h4
 obtain ⟨a,b,c⟩:=kd
 obtain rfl:c=cs.map jM:=hr
 exact atoms (kv:=zx ⟨a,b,cs.map jM⟩) (j:=0) (w:=w+1+234+14) T (fun _ _=>s_t0 (ltb rfl)) h3 false fun l1 R1 σ1 n1 x1 P1 q1 K1 g1 T1 h1 e1=>atoms (kv:=zx ⟨a,b,cs.map jM⟩) (j:=1) (w:=w+1+234) T1 (fun _ _=>XC (ltb rfl)) h3 true fun l2 R2 σ2 n2 x2 P2 q2 K2 g2 T2 h2 e2=>
  have q:(l1++l2).length≤28:=Nat.le_trans (Nat.le_of_eq List.length_append) (Nat.add_le_add q1 q2)
  cellsL (q:=σ2.length) (l:=l1++l2) T2 (Nat.le_refl _) (src:=.tup (cs.map jM)) (all:=(cs.map jM,0)) (fun _=>rfl) h4 cs hc (Nat.add_le_add q hl) Kp.push zS ((T2.le (Jw (fun _=>Nat.le_add_right _ 117) (n:=cs.length) (m:=2) (w:=w+1) hl)).kp Kp.push) ((P1.mono x2).app P2) fun rs l3 R3 σ3 x3 c3 q3 P3 K3 g3 T3 e3=>
   have C':=uJ C c3.tup fun r a b=>by
    have e:=ht r a b
    rw [e] at c3
    cases c3
    rfl
   union T3 g3 (P3.parts C'.part) (Nat.le_trans q3 (leb rfl)) C' h3 fun t R4 σ4 x4 p4 K4 T4 e4=>out t R4 σ4 (x1.trans (x2.trans (x3.trans x4))) ⟨rs,c3.mono x4,p4⟩ (K1.trans (K2.trans (K3.trans K4))) T4 fun k=>c73.trans ((e1 _).trans ((e2 _).trans ((WS (K2.get h1 g1) h2 (lm (Nat.le_trans (Nat.le_of_eq ((congr (congrArg _ (List.length_map _)) (List.length_map _)).trans List.length_append.symm)) q) rfl)).trans (by
    rw [Ye]
    exact (jP (yF (lv (lm hl rfl)))).trans ((e3 _).trans (e4 k))))))
end
end Wk
end
section
namespace Wk
noncomputable def topB (x:Int):Bool:=Builtin.bitAnd x 4096 !=0||(Builtin.bitAnd x 8192 !=0||Builtin.bitAnd x 2048 !=0)
theorem joinF_rows {x y:Int} {rows:List V}:Z4 x y rows=⟨(Z4 x y []).reg,(Z4 x y []).new,bif topB x then [] else rows⟩:=by
 unfold Z4 topB
 cases (Builtin.bitAnd x 4096 !=0)<;>cases (Builtin.bitAnd x 8192 !=0)<;>cases (Builtin.bitAnd x 2048 !=0)<;>rfl
noncomputable def yi (r:Row):Row:=(Yz r).getD r
noncomputable def tops:List Row:=[.key 0,.key 9,.key 1]
noncomputable abbrev Zy (A B:List Row):Prop:=(∀x∈A,x∈B)∧∀x∈B,x∈A
theorem pl {P:Nat→Bool→Prop} [∀r f,Decidable (P r f)] (h:((List.range 19).all fun r=>decide (P r false)&&decide (P r true))=true) {r:Nat} (hr:r < 19) (f:Bool):P r f:=by
 have q:=zW (List.all_eq_true.mp h r (List.mem_range.mpr hr))
 cases f
 ·exact of_decide_eq_true q.1
 ·exact of_decide_eq_true q.2
section
variable {r r':Nat} (h:r < 19) (h':r' < 19) (f f':Bool)
include h
theorem f_or:Builtin.bitOr 0 (zJ r f).reg=(zJ r f).reg∧Builtin.bitOr (zJ r f).reg 0=(zJ r f).reg∧Builtin.bitOr 0 (zJ r f).new=(zJ r f).new∧Builtin.bitOr (zJ r f).new 0=(zJ r f).new∧(Z4 (zJ r f).reg (zJ r f).new []).reg=(zJ r f).reg∧(Z4 (zJ r f).reg (zJ r f).new []).new=(zJ r f).new:=
 pl (P:=fun r f=>Builtin.bitOr 0 (zJ r f).reg=(zJ r f).reg∧Builtin.bitOr (zJ r f).reg 0=(zJ r f).reg∧Builtin.bitOr 0 (zJ r f).new=(zJ r f).new∧Builtin.bitOr (zJ r f).new 0=(zJ r f).new∧(Z4 (zJ r f).reg (zJ r f).new []).reg=(zJ r f).reg∧(Z4 (zJ r f).reg (zJ r f).new []).new=(zJ r f).new) (by kernel_rfl) h f
theorem f_top:topB (zJ r f).reg=true↔∃x∈zX (zJ r f),x∈tops:=pl (P:=fun r f=>topB (zJ r f).reg=true↔∃x∈zX (zJ r f),x∈tops) (by kernel_rfl) h f
end
structure KdSh (kd:Kd) (r:Nat) (f:Bool) (cs:List Yi):Prop where
 hr:r < 19
 reg:kd.reg=(zJ r f).reg
 new:kd.new=(zJ r f).new
 rows:kd.rows=cs.map jM
 len:cs.length≤2
 ok:∀c∈cs,Yy c
 top:topB kd.reg=true→cs=[]
 nd:(cs.map jM).Nodup
theorem dedup {a b:Int} (ha:Builtin.bitOr a 0=a) (hb:Builtin.bitOr b 0=b):∀ (cs:List Yi) {L:List Yi},(L.map jM).Nodup→X1_4 (fun cs':List Yi=>(cs.map WL).foldl Wf (a,b,L.map jM)=(a,b,cs'.map jM)) (fun cs'=>(cs'.map jM).Nodup) (fun cs'=>cs'.length≤L.length+cs.length) fun cs'=>∀c∈cs',c∈L∨c∈cs:=by
 intro cs
 induction cs with
 | nil=>exact fun {L} h=>⟨L,rfl,h,Nat.le_refl _,fun _=>.inl⟩
 | cons c cs ih=>
  intro L h
  have e:Wf (a,b,L.map jM) (WL c)=(a,b,bif (L.map jM).any fun y=>eqV y (jM c) then L.map jM else L.map jM++[jM c]):=by
   show (Builtin.bitOr a 0,Builtin.bitOr b 0,Yv (L.map jM) [jM c])=_
   rw [ha,hb]
   unfold Yv
   rw [List.filter_cons]
   cases (L.map jM).any fun y=>eqV y (jM c) with
   | true=>exact congrArg (fun l=>(a,b,l)) (List.append_nil _)
   | false=>rfl
  rw [List.map_cons,List.foldl_cons,e]
  cases q:(L.map jM).any fun y=>eqV y (jM c) with
  | true=>
   obtain ⟨cs',p1,p2,p3,p4⟩:=ih h
   exact ⟨cs',p1,p2,Nat.le_succ_of_le p3,fun x hx=>(p4 x hx).imp id (.tail _)⟩
  | false=>
   have nd:((L++[c]).map jM).Nodup:=by
    rw [List.map_append]
    exact List.nodup_append.mpr ⟨h,List.pairwise_singleton _ _,fun x hx y hy e=>by
     have:=List.any_eq_false.mp q x hx
     rw [e,List.mem_singleton.mp hy] at this
     exact this (WI _)⟩
   obtain ⟨cs',p1,p2,p3,p4⟩:=ih nd
   rw [List.map_append] at p1
   exact ⟨cs',p1,p2,by rw [List.length_append,Nat.add_assoc,Nat.add_comm [c].length] at p3; exact p3,fun x hx=>(p4 x hx).elim (fun q=>(List.mem_append.mp q).elim .inl fun q=>.inr (List.mem_singleton.mp q▸.head _)) fun q=>.inr (.tail _ q)⟩
theorem kd_shape {e:ExK} (h:e.Ok):∃cs,KdSh e.kd e.r e.f cs:=by
 obtain ⟨p1,p2,p3,p4,p5,p6⟩:=f_or h.r e.f
 obtain ⟨cs,q1,q2,q3,q4⟩:=dedup p2 p4 e.cs (L:=[]) .nil
 have k:e.kd=Z4 (zJ e.r e.f).reg (zJ e.r e.f).new (cs.map jM):=by
  have s:JM (zJ e.r e.f::e.cs.map WL)=((zJ e.r e.f).reg,(zJ e.r e.f).new,cs.map jM):=by
   refine Eq.trans ?_ q1
   show (e.cs.map WL).foldl Wf (Builtin.bitOr 0 (zJ e.r e.f).reg,Builtin.bitOr 0 (zJ e.r e.f).new,Yv [] (zJ e.r e.f).rows)=_
   rw [p1,p3,jR]; rfl
  unfold ExK.kd wq
  rw [s]
 rw [joinF_rows,p5,p6] at k
 rw [k]
 cases t:topB (zJ e.r e.f).reg with
 | true=>exact ⟨[],h.r,rfl,rfl,rfl,Nat.zero_le _,nofun,fun _=>rfl,.nil⟩
 | false=>exact ⟨cs,h.r,rfl,rfl,rfl,Nat.le_trans q3 (by rw [List.length_nil,Nat.zero_add]; exact h.len),fun c hc=>h.cs c ((q4 c hc).elim nofun id),fun q=>(nomatch t.symm.trans q),q2⟩
theorem XS {k k':Kd} (h1:k.reg=k'.reg) (h2:k.new=k'.new):zX k=zX k':=by unfold zX; rw [h1,h2]
noncomputable def CV (R:List Row) (v:V) (r:Row):Prop:=ZI (fun c=>v=jM c) (fun c=>Yx R c r)
inductive jl (R:List Row) (kd:Kd) (t:Nat):Prop
 | mk (r:Nat) (f:Bool) (rs:List Row) (hr:r < 19) (reg:kd.reg=(zJ r f).reg) (new:kd.new=(zJ r f).new) (top:topB kd.reg=true→kd.rows=[]) (len:kd.rows.length≤2) (nd:kd.rows.Nodup) (cr:Al (CV R) kd.rows rs) (tup:∀r∈rs,yI r=true) (ty:KR R (zX (zJ r f)++rs) t):jl R kd t
theorem CV.mono {R R':List Row} {v:V} {r:Row} (x:R<+:R') (h:CV R v r):CV R' v r:=let ⟨c,a,b⟩:=h; ⟨c,a,b.mono x⟩
theorem jl.mono {R R':List Row} {kd:Kd} {t:Nat} (h:jl R kd t) (x:R<+:R'):jl R' kd t:=let ⟨r,f,rs,a,b,c,d,e,g,i,j,k⟩:=h; ⟨r,f,rs,a,b,c,d,e,g,i.imp fun _ _=>CV.mono x,j,k.mono x⟩
section
variable {σ:zG} {tb rw ix M N w:Nat} {R:List Row} {k:K V} {G:Prop}
theorem typeKd (T:Tb tb rw ix M σ R (w+263)) {e:ExK} (h:e.Ok) (hN:5≤N) (out:To tb rw ix M σ R w N 73 [.ref tb,zx e.kd] (fun t R'=>jl R' e.kd t) G):G:=by
 obtain ⟨cs,S⟩:=kd_shape h
 have a:=XS S.reg S.new
 exact typeK T S.rows S.len S.ok (a▸JX h.r _) (fun r x y=>S.top (S.reg▸(f_top h.r _).mpr ⟨r,a▸y,x⟩)) hN fun t R' σ' x ⟨rs,c,p⟩ K T' e=>out t R' σ' x ⟨_,_,rs,S.hr,S.reg,S.new,fun q=>by rw [S.rows,S.top q]; rfl,by rw [S.rows,List.length_map]; exact S.len,by rw [S.rows]; exact S.nd,by rw [S.rows]; exact Al.mapl c fun c _ q=>⟨c,rfl,q⟩,c.tup,a▸p⟩ K T' e
theorem fr_eq (k:K V) (σ:zG):∀r,(zC (yD r) (.int 0) fun x7=>zL .In x7 ZF fun x6=>zE x6 fun b5=>pIf b5 (pUn .USub (.int 1) fun x10=>zC (yD r) x10 fun x9=>zL .Eq x9 (.int 1) k) (k x6)) σ=k (.bool (Yz r).isSome) σ
 | .key _=>by kernel_rfl
 | .bol _ false=>by kernel_rfl
 | .bol _ true=>by kernel_rfl
 | .str _ false=>by kernel_rfl
 | .str _ true=>by kernel_rfl
 | .num _ false=>by kernel_rfl
 | .num _ true=>by kernel_rfl
 | .un _=>by kernel_rfl
 | .obj=>by kernel_rfl
 | .arr _ _=>by kernel_rfl
 | .tup _ _=>by kernel_rfl
noncomputable def isUn:Row→Bool
 | .un _=>true
 | _=>false
theorem un_eq (k:K V) (σ:zG) (r:Row):(zC (yD r) (.int 0) fun x=>zL .Eq x (.int 6) k) σ=k (.bool (isUn r)) σ:=by cases r<;>exact ym _ _
theorem ro_eq (k:K V) (σ:zG):∀r r',Yz r=some r'→(pUn .USub (.int 1) fun x9=>yA (yD r) .none x9 fun x6=>zT .Add x6 (.tup [.int 0]) k) σ=k (yD r') σ
 | .bol _ true,_,h=>Option.some.inj h▸rfl
 | .str _ true,_,h=>Option.some.inj h▸rfl
 | .num _ true,_,h=>Option.some.inj h▸rfl
 | .bol _ false,_,h=>nomatch h
 | .str _ false,_,h=>nomatch h
 | .num _ false,_,h=>nomatch h
 | .key _,_,h=>nomatch h
 | .un _,_,h=>nomatch h
 | .obj,_,h=>nomatch h
 | .arr _ _,_,h=>nomatch h
 | .tup _ _,_,h=>nomatch h
theorem isFresh (T:Tb tb rw ix M σ R w) {t:Nat} {r:Row} (h:R[t]? =some r) (hN:1≤N):zA N 27 [.ref tb,.int (t:Int)] k σ=k (.bool (Yz r).isSome) σ:=by
 obtain ⟨m,rfl,-⟩:=suc hN
 exact cl27.trans ((T.row h).trans (fr_eq _ _ r))
theorem Un (T:Tb tb rw ix M σ R (w+1)) {t:Nat} {r:Row} (h:R[t]? =some r) (hN:2≤N) (out:To tb rw ix M σ R w N 28 [.ref tb,.int (t:Int)] (fun t R'=>R'[t]? =some (yi r)) G):G:=by
 obtain ⟨N,rfl,h1⟩:=suc hN
 have e0:∀k:K V,zA (N+1) 28 [.ref tb,.int (t:Int)] k σ=_:=fun k=>cl28.trans (isFresh T h h1)
 unfold yi at out
 cases q:Yz r with
 | none=>
  rw [q] at e0 out
  exact out t R σ List.prefix_rfl h Kp.rfl (T.le (Nat.le_succ w)) e0
 | some r'=>
  rw [q] at e0 out
  exact put T r' h1 fun t' R' σ' x p K T' e'=>out t' R' σ' x p K T' fun k=>(e0 k).trans (T.tab.bP.trans ((T.row h).trans ((ro_eq _ _ r r' q).trans (e' k))))
theorem kindOf (T:Tb tb rw ix M σ R w) {t:Nat} {r:Row} (h:R[t]? =some r) (hN:1≤N):(zA N 10 [.ref tb,.int (t:Int)] fun x=>zL .Eq x (.int 6) k) σ=k (.bool (isUn r)) σ:=by
 obtain ⟨m,rfl,-⟩:=suc hN
 exact cl10.trans ((T.row h).trans (un_eq _ _ r))
end
end Wk
end
section
namespace Wk
theorem regR_part {r:Row} (h:ja r=true):ja (yi r)=true:=by
 cases r with
 | bol b f=>cases f<;>rfl
 | str b f=>cases f<;>rfl
 | num b f=>cases f<;>rfl
 | _=>exact h
theorem jy.pt {R:List Row}:∀ {ps:List Nat},jy R ps→∃B,Pt R ps B:=by
 intro ps
 induction ps with
 | nil=>exact fun _=>⟨[],.nil⟩
 | cons p ps ih=>
  intro h
  obtain ⟨B,b⟩:=ih fun p q=>h p (.tail _ q)
  obtain ⟨r,a,_⟩:=h p (.head _)
  exact ⟨r::B,.cons a b⟩
theorem map_iff {A B:List Row} (h:∀r,r∈A↔r∈B) (r:Row):r∈A.map yi↔r∈B.map yi:=List.mem_map.trans ((exists_congr fun x=>and_congr (h x) Iff.rfl).trans List.mem_map.symm)
theorem Yw.fn {R A B:List Row} {l:List Nat} (h:Yw R l A) (h':Yw R l B) (r:Row):r∈A↔r∈B:=(h r).trans (h' r).symm
theorem isUn_part {r:Row} (h:ja r=true):isUn r=false:=by
 cases r with
 | un=>cases h
 | _=>rfl
section
variable {σ:zG} {tb rw ix M N w:Nat} {R A:List Row} {t:Nat} {G:Prop} {src:V} {all:List V×Nat}
theorem regL (hs:∀σ,same src all σ=true) (hN:2≤N) {ps:List Nat} {B R0:List Row} (P:Pt R0 ps B):∀ {σ:zG} {R D:List Row} {l:List Nat} {acc:List V},R0<+:R→acc=zk l→Tb tb rw ix M σ R (w+ps.length)→Pt R l D→
  (∀l' R' σ',R<+:R'→Pt R' l' (D++B.map yi)→Kp (XT rw ix) σ σ'→Tb tb rw ix M σ' R' w→(∀kn,yO (α:=List V) src all (fun v acc k=>zA N 28 [.ref tb,v] fun x=>k (JZ acc (some x))) kn (zk ps) acc σ=kn (zk l') σ')→G)→G:=by
 induction P with
 | nil=>exact fun _ ha T P out=>out _ _ _ List.prefix_rfl (by rw [List.map_nil,List.append_nil]; exact P) Kp.rfl T fun kn=>congrArg (kn · _) ha
 | cons h _ ih=>
  intro σ R D l acc x ha T P out
  exact Un T (zw x h) hN fun t R1 σ1 x1 p1 K1 T1 e1=>ih (x.trans x1) (ha▸Ye (m:=[t])) T1 ((P.mono x1).app (.cons p1 .nil)) fun l' R' σ' x2 P2 K2 T2 e2=>out l' R' σ' (x1.trans x2) (by rw [List.append_assoc] at P2; exact P2) (K1.trans K2) T2 fun kn=>yM.trans ((e1 _).trans (turn (hs _) (e2 kn)))
theorem regular (T:Tb tb rw ix M σ R (w+39)) (h:KR R A t) (C:Yj (A.map yi)) (hN:4≤N) (out:To tb rw ix M σ R w N 29 [.ref tb,.int (t:Int)] (fun t R'=>KR R' (A.map yi) t) G):G:=by
 obtain ⟨N,rfl,h3⟩:=suc hN
 have h2:=Nat.le_of_succ_le h3
 have h1:=Nat.le_of_succ_le h2
 obtain ⟨ps,H,rows⟩:=h
 have one:∀ {r:Row},R[t]? =some r→isUn r=false→(∀t' R',R<+:R'→R'.Nodup→R'[t']? =some (yi r)→KR R' (A.map yi) t')→G:=fun {r} a u k=>Un (T.le (Nat.le_add_right (w+1) 38)) a h2 fun t' R' σ' x p K T' e=>out t' R' σ' x (k t' R' x T'.tab.nd p) K (T'.le (Nat.le_refl _)) fun k=>cl29.trans ((kindOf T a h1).trans (by rw [u]; exact e k))
 rcases H.is with ⟨rfl,rfl⟩ | rfl | ⟨_,u⟩
 ·obtain rfl:A=[]:=List.eq_nil_iff_forall_not_mem.mpr fun r q=>let ⟨_,a,_⟩:=(rows r).mp q; nomatch a
  exact one (zw T.pre (i:=2) rfl) rfl fun t' R' x nd e=>YV nd (zw (T.pre.trans x) (i:=2) rfl) e▸⟨[],H.mono x,rows.mono H.ok x⟩
 ·obtain ⟨r,a,b⟩:=H.ok t (.head _)
  exact one a (isUn_part b) fun t' R' x _ e=>(KR.one e (regR_part b)).cong (map_iff ((jn.one a b).rows.fn rows))
 ·obtain ⟨B,P⟩:=H.ok.pt
  have i:=map_iff (P.rows.fn rows)
  have ll:(zk ps).length < 1000000:=lv (lm H.len rfl)
  obtain ⟨_,_,pv⟩:=H.row T.pre
  exact regL (src:=.tup (zk ps)) (all:=(zk ps,0)) (fun _=>rfl) h2 P (D:=[]) (l:=[]) List.prefix_rfl rfl (T.le (Nat.le_trans (Nat.add_le_add_left H.len (w+1)) (Nat.le_of_eq (Nat.add_right_comm w 1 38)))) .nil fun l R1 σ1 x1 P1 K1 T1 e1=>
   have le:l.length≤38:=Nat.le_trans (Nat.le_of_eq (P1.len.trans ((List.length_map _).trans P.len.symm))) H.len
   union (T1.kp Kp.push) (n:=σ1.length) zS ⟨fun p hp=>let ⟨r,a,b⟩:=P1.left hp; ⟨r,b,C.part r ((i r).mp a)⟩,fun r=>(i r).symm.trans (P1.rows r)⟩ le C h3 fun t' R' σ' x2 p2 K2 T2 e2=>out t' R' σ' (x1.trans x2) p2 (K1.trans (Kp.push.trans K2)) T2 fun k=>cl29.trans ((kindOf T u h1).trans ((UT T u h1).trans (by
    rw [pv]
    exact (Za (yF ll)).trans ((e1 _).trans ((yo (lv (lm le rfl))).trans (e2 k))))))
end
end Wk
end
section
namespace Wk
noncomputable def wR:Row→Option Row
 | .str _ _=>some (.key 6)
 | .num _ _=>some (.key 7)
 | _=>none
noncomputable def ppR (r r':Row):Bool:=decide (r=r')||(decide (r=.key 4)&&decide (r'=.key 3)||decide (wR r=some r'))
noncomputable def meetR (A B:List Row):Bool:=A.any fun r=>B.any fun r'=>ppR r r'||ppR r' r
noncomputable def Jt (r:Row):Bool:=!ja r||decide (r∈tops)
theorem any_cong {A B:List Row} {p:Row→Bool} (h:∀r,r∈A↔r∈B):A.any p=B.any p:=Bool.eq_iff_iff.mpr (List.any_eq_true.trans ((exists_congr fun x=>and_congr (h x) Iff.rfl).trans List.any_eq_true.symm))
theorem s_inF {j:Nat} {pl:List Nat} {c d:C} {σ:zG} (h:¬j∈pl):(zL .In (.int (j:Int)) (.tup (zk pl)) fun v=>zE v fun b=>pIf b c d) σ=d σ:=s_inN.trans (congrArg (fun b=>pIf b c d σ) (decide_eq_false h))
theorem s_eqF {j i:Nat} {c d:C} {σ:zG} (h:¬j=i):(zL .Eq (.int (j:Int)) (.int (i:Int)) fun v=>zE v fun b=>pIf b c d) σ=d σ:=(ym _ _).trans (congrArg (fun b=>pIf b c d σ) (decide_eq_false fun e=>h (Int.ofNat.inj e)))
theorem s_eqY {j i:Nat} {c d:C} {σ:zG} (h:j=i):(zL .Eq (.int (j:Int)) (.int (i:Int)) fun v=>zE v fun b=>pIf b c d) σ=c σ:=(ym _ _).trans (congrArg (fun b=>pIf b c d σ) (decide_eq_true (congrArg Int.ofNat h)))
section
variable {σ:zG} {tb rw ix M N w:Nat} {R A B:List Row} {s t:Nat} {G:Prop} {k:K V}
theorem Tb.good (T:Tb tb rw ix M σ R w) {p:Nat} {r:Row} (h:R[p]? =some r) (n:Jt r=false):¬p∈[0,1,13,2]:=fun q=>by
 have k:∀j∈[0,1,13,2],∃r,yU[j]? =some r∧Jt r=true:=List.forall_mem_cons.mpr ⟨⟨_,rfl,by kernel_rfl⟩,List.forall_mem_cons.mpr ⟨⟨_,rfl,by kernel_rfl⟩,List.forall_mem_cons.mpr ⟨⟨_,rfl,by kernel_rfl⟩,List.forall_mem_singleton.mpr ⟨_,rfl,by kernel_rfl⟩⟩⟩⟩
 obtain ⟨r',a,b⟩:=k p q
 exact nomatch ((Option.some.inj (h.symm.trans (zw T.pre a))▸n).symm.trans b)
theorem Tb.id (T:Tb tb rw ix M σ R w) {p o:Nat} {r q:Row} (h:R[p]? =some r) (k:R[o]? =some q):decide ((p:Int)=(o:Int))=decide (r=q):=decide_eq_decide.mpr ⟨fun e=>Option.some.inj (h.symm.trans (Int.ofNat.inj e▸k)),fun e=>congrArg _ (YV T.tab.nd h (e▸k))⟩
theorem Tb.wh (T:Tb tb rw ix M σ R w) {o:Nat} {q:Row} (k:R[o]? =some q) (r:Row):decide (Yk r=(o:Int))=decide (wR r=some q):=by
 have one:∀ {j:Nat} {x:Row},yU[j]? =some x→decide ((j:Int)=(o:Int))=decide (some x=some q):=fun h=>(T.id (zw T.pre h) k).trans (decide_eq_decide.mpr ⟨congrArg some,Option.some.inj⟩)
 cases r with
 | str=>exact one (j:=6) rfl
 | num=>exact one (j:=7) rfl
 | _=>rfl
noncomputable def fPart (cf:CF) (tb s t:V) (k:K V):K Bool:=fun c7=>pIf c7 (k (.bool true)) (zD P0 tb (nS "rows") fun x11=>zC x11 s fun x10=>cf 20 [x10] fun x9=>zL .Eq x9 t fun x8=>k x8)
theorem wZ (T:Tb tb rw ix M σ R w) {p o:Nat} {r q:Row} (hp:R[p]? =some r) (ho:R[o]? =some q) (n1:Jt r=false) (n2:Jt q=false) (hN:2≤N):zA N 35 [.ref tb,.int (p:Int),.int (o:Int)] k σ=k (.bool (ppR r q)) σ:=by
 obtain ⟨N,rfl,h1⟩:=suc hN
 have g1:=T.good hp n1
 have g2:=T.good ho n2
 refine cl35.trans ((ym _ _).trans ?_)
 unfold ppR
 rw [T.id hp ho]
 refine wW ((s_inF (pl:=[0,1,13]) fun q=>g2 (List.mem_append_left [2] q)).trans ((s_inF (pl:=[2,13]) fun q=>g1 ((show ∀j∈[2,13],j∈[0,1,13,2] by decide) _ q)).trans ((s_eqF (i:=0) fun q=>g1 (q▸.head _)).trans ((ym _ _).trans ?_))))
 rw [show decide ((p:Int)=4)=_ from T.id hp (zw T.pre (i:=4) rfl)]
 refine (s_pandC (c:=decide (q=.key 3)) (f:=fPart _ _ _ _ _) fun _=>(ym _ _).trans ?_).trans ?_
 ·rw [show decide ((o:Int)=3)=_ from T.id ho (zw T.pre (i:=3) rfl)]; rfl
 ·exact wW ((T.row hp).trans ((whole r h1).trans ((ym _ _).trans (congrArg (fun b=>k (.bool b) σ) (T.wh ho r)))))
theorem partsM (T:Tb tb rw ix M σ R w) {p:Nat} {r:Row} (hp:R[p]? =some r) (n1:Jt r=false) (hN:2≤N) {ss:List V} {all:List V×Nat} {kn:Unit→C} {l:List Nat} {B:List Row} (P:Pt R l B):(∀q∈B,Jt q=false)→yO (α:=Unit) (.tup ss) all (fun v _ j=>zA N 35 [.ref tb,.int (p:Int),v] fun x=>zE x fun c=>pIf c (k (.bool true)) (zA N 35 [.ref tb,v,.int (p:Int)] fun x=>zE x fun c=>pIf c (k (.bool true)) (j ()))) kn (zk l) () σ=pIf (B.any fun q=>ppR r q||ppR q r) (k (.bool true)) (kn ()) σ:=by
 induction P with
 | nil=>exact fun _=>rfl
 | @cons o q l B ho _ ih=>
  intro n
  refine yM.trans ((wZ T hp ho n1 (n q (.head _)) hN).trans ?_)
  rw [List.any_cons]
  cases ppR r q with
  | true=>rfl
  | false=>
   refine (wZ T ho hp (n q (.head _)) n1 hN).trans ?_
   cases ppR q r with
   | true=>rfl
   | false=>exact ih fun q h=>n q (.tail _ h)
noncomputable def bMeet (cf:CF) (tb t v:V) (k:K V) (j:C):C:=cf 29 [tb,t] fun x10=>cf 19 [tb,x10] fun x9=>yL x9 (fun v7 k8=>cf 35 [tb,v,v7] fun x=>zE x fun c=>pIf c (k (.bool true)) (cf 35 [tb,v7,v] fun x=>zE x fun c=>pIf c (k (.bool true)) k8)) j
theorem meetL {ss:List V} {all:List V×Nat} (cB:Yj (B.map yi)) (n:∀q∈B.map yi,Jt q=false) (hN:4≤N) {R0:List Row} {l:List Nat} {A:List Row} (P:Pt R0 l A):∀ {σ:zG} {R:List Row},R0<+:R→Tb tb rw ix M σ R (it (·+39) l.length w)→KR R B t→(∀q∈A,Jt q=false)→
  (∀R' σ',R<+:R'→Kp (XT rw ix) σ σ'→Tb tb rw ix M σ' R' w→(∀ (k:K V) (kn:Unit→C),yO (α:=Unit) (.tup ss) all (fun v _ j=>bMeet (zA N) (.ref tb) (.int (t:Int)) v k (j ())) kn (zk l) () σ=pIf (meetR A (B.map yi)) (k (.bool true)) (kn ()) σ')→G)→G:=by
 induction P with
 | nil=>exact fun _ T _ _ out=>out _ _ List.prefix_rfl Kp.rfl T fun _ _=>rfl
 | @cons p r l A hp _ ih=>
  intro σ R x T h m out
  refine regular T h cB hN fun t' R1 σ1 x1 ⟨ps,H,rows⟩ K1 T1 e1=>?_
  obtain ⟨_,ht,pv⟩:=H.row T1.pre
  obtain ⟨B',P'⟩:=H.ok.pt
  have i:=P'.rows.fn rows
  have h2:2≤N:=Nat.le_trans (leb rfl) hN
  have hit:∀ (k:K V) (j:C),bMeet (zA N) (.ref tb) (.int (t:Int)) (.int (p:Int)) k j σ=pIf ((B.map yi).any fun q=>ppR r q||ppR q r) (k (.bool true)) j σ1:=fun k j=>(e1 _).trans ((UT T1 ht (Nat.le_of_succ_le h2)).trans (by
   rw [pv,show ((B.map yi).any fun q=>ppR r q||ppR q r)=_ from (any_cong i).symm]
   exact (jP (yF (lv (lm H.len rfl)))).trans (partsM T1 (zw (x.trans x1) hp) (m r (.head _)) h2 P' fun q a=>n q ((i q).mp a))))
  have e:meetR (r::A) (B.map yi)=(((B.map yi).any fun q=>ppR r q||ppR q r)||meetR A (B.map yi)):=List.any_cons
  rw [e] at out
  cases q:(B.map yi).any fun q=>ppR r q||ppR q r with
  | true=>
   rw [q] at hit out
   exact out R1 σ1 x1 K1 (T1.le (Jw (fun _=>Nat.le_add_right _ 39) (Nat.zero_le _))) fun k kn=>yM.trans (hit k _)
  | false=>
   rw [q] at hit out
   exact ih (x.trans x1) T1 (h.mono x1) (fun q a=>m q (.tail _ a)) fun R2 σ2 x2 K2 T2 e2=>out R2 σ2 (x1.trans x2) (K1.trans K2) T2 fun k kn=>yM.trans ((hit k _).trans (e2 k kn))
theorem plainMeets (T:Tb tb rw ix M σ R (w+1521)) (hA:KR R A s) (hB:KR R B t) (cA:Yj (A.map yi)) (cB:Yj (B.map yi)) (nA:∀q∈A.map yi,Jt q=false) (nB:∀q∈B.map yi,Jt q=false) (hN:5≤N) (out:∀R' σ',R<+:R'→Kp (XT rw ix) σ σ'→Tb tb rw ix M σ' R' w→Cl N 36 [.ref tb,.int (s:Int),.int (t:Int)] σ (.bool (decide (s=2)||(decide (t=2)||meetR (A.map yi) (B.map yi)))) σ'→G):G:=by
 obtain ⟨N,rfl,h4⟩:=suc hN
 by_cases hs:s=2
 ·rw [decide_eq_true hs] at out
  exact out R σ List.prefix_rfl Kp.rfl (T.le (Nat.le_add_right w _)) fun k=>cl36.trans (s_eqY (i:=2) hs)
 by_cases ht:t=2
 ·rw [decide_eq_false hs,decide_eq_true ht] at out
  exact out R σ List.prefix_rfl Kp.rfl (T.le (Nat.le_add_right w _)) fun k=>cl36.trans ((s_eqF (i:=2) hs).trans (s_eqY (i:=2) ht))
 rw [decide_eq_false hs,decide_eq_false ht] at out
 refine regular (w:=w+1482) T hA cA h4 fun s' R1 σ1 x1 ⟨ps,H,rows⟩ K1 T1 e1=>?_
 obtain ⟨_,hs',pv⟩:=H.row T1.pre
 obtain ⟨A',P⟩:=H.ok.pt
 have i:=P.rows.fn rows
 refine meetL (ss:=zk ps) (all:=(zk ps,0)) cB nB h4 P List.prefix_rfl (T1.le (Jw (fun _=>Nat.le_add_right _ 39) (m:=38) H.len)) (hB.mono x1) (fun q a=>nA q ((i q).mp a)) fun R2 σ2 x2 K2 T2 e2=>out R2 σ2 (x1.trans x2) (K1.trans K2) T2 fun k=>cl36.trans ((s_eqF (i:=2) hs).trans ((s_eqF (i:=2) ht).trans ((e1 _).trans ((UT T1 hs' (Nat.le_trans (leb rfl) h4)).trans ?_))))
 rw [pv]
 refine (jP (yF (lv (lm H.len rfl)))).trans ((e2 k _).trans ?_)
 rw [show meetR A' (B.map yi)=meetR (A.map yi) (B.map yi) from any_cong i]
 cases meetR (A.map yi) (B.map yi)<;>rfl
end
end Wk
end
section
namespace Wk
theorem pl2 {P:Nat→Bool→Nat→Bool→Prop} [∀r f r' f',Decidable (P r f r' f')] (h:((List.range 19).all fun r=>[false,true].all fun f=>(List.range 19).all fun r'=>decide (P r f r' false)&&decide (P r f r' true))=true) {r r':Nat} (hr:r < 19) (hr':r' < 19) (f f':Bool):P r f r' f':=by
 have q:=zW (List.all_eq_true.mp (List.all_eq_true.mp (List.all_eq_true.mp h r (List.mem_range.mpr hr)) f (by cases f; exact .head _; exact .tail _ (.head _))) r' (List.mem_range.mpr hr'))
 cases f'
 ·exact of_decide_eq_true q.1
 ·exact of_decide_eq_true q.2
section
variable {r r':Nat} (h:r < 19) (h':r' < 19) (f f':Bool)
include h
theorem f_one:(zX (zJ r f)=[]↔(zJ r f).reg=0∧(zJ r f).new=0)∧(Zy (zX (zJ r f)) [.key 5]↔(zJ r f).reg=256∧(zJ r f).new=0)∧(Zy (zX (zJ r f)) [.key 4]↔(zJ r f).reg=512∧(zJ r f).new=0)∧(Zy (zX (zJ r f)) [.key 0]∨Zy (zX (zJ r f)) [.key 9]∨Zy (zX (zJ r f)) [.key 1]↔topB (zJ r f).reg=true)∧∀x∈zX (zJ r f),yI x=false:=pl (P:=fun r f=>(zX (zJ r f)=[]↔(zJ r f).reg=0∧(zJ r f).new=0)∧(Zy (zX (zJ r f)) [.key 5]↔(zJ r f).reg=256∧(zJ r f).new=0)∧(Zy (zX (zJ r f)) [.key 4]↔(zJ r f).reg=512∧(zJ r f).new=0)∧(Zy (zX (zJ r f)) [.key 0]∨Zy (zX (zJ r f)) [.key 9]∨Zy (zX (zJ r f)) [.key 1]↔topB (zJ r f).reg=true)∧∀x∈zX (zJ r f),yI x=false) (by kernel_rfl) h f
set_option synthInstance.maxHeartbeats 400000 in
set_option synthInstance.maxSize 2000 in
theorem f_good:canonP ((zX (zJ r f)).map yi)∧(topB (zJ r f).reg=false→∀x∈(zX (zJ r f)).map yi,Jt x=false∧yI x=false):=pl (P:=fun r f=>canonP ((zX (zJ r f)).map yi)∧(topB (zJ r f).reg=false→∀x∈(zX (zJ r f)).map yi,Jt x=false∧yI x=false)) (by kernel_rfl) h f
include h'
theorem f_inj:Zy (zX (zJ r f)) (zX (zJ r' f'))→(zJ r f).reg=(zJ r' f').reg∧(zJ r f).new=(zJ r' f').new:=pl2 (P:=fun r f r' f'=>Zy (zX (zJ r f)) (zX (zJ r' f'))→(zJ r f).reg=(zJ r' f').reg∧(zJ r f).new=(zJ r' f').new) (by kernel_rfl) h h' f f'
theorem f_pair:decide (Builtin.bitAnd (Builtin.bitOr (zJ r f).reg (zJ r' f').reg) 14336 > 0)=(topB (zJ r f).reg||topB (zJ r' f').reg)∧(topB (zJ r f).reg=false→topB (zJ r' f').reg=false→meetR ((zX (zJ r f)).map yi) ((zX (zJ r' f')).map yi)=(Builtin.bitAnd (Builtin.bitOr (zJ r f).reg (zJ r f).new) (Jv (zJ r' f')) !=0||Builtin.bitAnd (Builtin.bitOr (zJ r' f').reg (zJ r' f').new) (Jv (zJ r f)) !=0)):=pl2 (P:=fun r f r' f'=>decide (Builtin.bitAnd (Builtin.bitOr (zJ r f).reg (zJ r' f').reg) 14336 > 0)=(topB (zJ r f).reg||topB (zJ r' f').reg)∧(topB (zJ r f).reg=false→topB (zJ r' f').reg=false→meetR ((zX (zJ r f)).map yi) ((zX (zJ r' f')).map yi)=(Builtin.bitAnd (Builtin.bitOr (zJ r f).reg (zJ r f).new) (Jv (zJ r' f')) !=0||Builtin.bitAnd (Builtin.bitOr (zJ r' f').reg (zJ r' f').new) (Jv (zJ r f)) !=0))) (by kernel_rfl) h h' f f'
end
noncomputable def elsR:Row→List (Nat×Nat)×Nat
 | .arr t ro=>([(t,2)],ro)
 | .tup E ro=>(E,ro)
 | _=>([],0)
theorem uF {E:List (Nat×Nat)} {ro:Nat}:elsR (rowE E ro)=(E,ro):=by
 rcases E with _ | ⟨x,r⟩
 ·rfl
 ·show elsR (bif r.isEmpty&&decide ((x.2:Int)=2) then .arr x.1 ro else .tup (x::r) ro)=_
  cases q:r.isEmpty&&decide ((x.2:Int)=2) with
  | true=>
   obtain ⟨a,b⟩:=zW q
   rw [List.isEmpty_iff.mp a]
   exact congrArg (fun m=>([(x.1,m)],ro)) (Int.ofNat.inj (of_decide_eq_true b)).symm
  | false=>rfl
theorem WH {k:Kd} {a b:Int} {l:List V}:zx k=.tup [.int a,.int b,.tup l]↔k.reg=a∧k.new=b∧k.rows=l:=⟨fun h=>let q:=List.cons.inj (V.tup.inj h); let p:=List.cons.inj q.2; ⟨V.int.inj q.1,V.int.inj p.1,V.tup.inj (List.cons.inj p.2).1⟩,fun ⟨a,b,c⟩=>by subst a b c; rfl⟩
section
variable {R:List Row} (nd:R.Nodup) (F:yU<+:R)
include nd F
theorem CV.iff {v v':V} {r r':Row} (h:CV R v r) (h':CV R v' r'):v=v'↔r=r':=by
 obtain ⟨c,rfl,E,a,rfl⟩:=h
 obtain ⟨c',rfl,E',a',rfl⟩:=h'
 constructor
 ·intro e
  have q:=List.cons.inj (V.tup.inj e)
  have m:E.map id=E'.map id:=Al.same a.flip a'.flip (V.tup.inj (List.cons.inj q.2).1) fun y y' x x' p p' e=>by
   have s:=List.cons.inj (V.tup.inj e)
   obtain ⟨e1,e2,-⟩:=WH.mp s.1
   exact Prod.ext (p.2.1.fn nd p'.2.1 fun r=>by rw [XS e1 e2]) (p.2.2.trans ((Int.ofNat.inj (V.int.inj (List.cons.inj s.2).1)).trans p'.2.2.symm))
  rw [List.map_id,List.map_id] at m
  rw [m,Int.ofNat.inj (V.int.inj q.1)]
 ·intro e
  have q:=uF.symm.trans ((congrArg elsR e).trans uF)
  have m:c.cs.map Yd=c'.cs.map Yd:=Al.same a a' (congrArg (List.map id) (congrArg Prod.fst q)) fun x x' y y' p p' e=>by
   have e:x=x':=e
   subst e
   have s:=p.2.1.inj F p'.2.1
   obtain ⟨e1,e2⟩:=f_inj (Nat.lt_succ_of_lt p.1) (Nat.lt_succ_of_lt p'.1) _ _ ⟨fun x=>(s x).mp,fun x=>(s x).mpr⟩
   show V.tup [zx _,.int y.2.2]=.tup [zx _,.int y'.2.2]
   rw [WH.mpr ⟨e1,e2,jR.trans jR.symm⟩,p.2.2.symm.trans p'.2.2]; rfl
  show V.tup [.int c.ro,.tup (c.cs.map Yd)]=.tup [.int c'.ro,.tup (c'.cs.map Yd)]
  rw [m,show c.ro=c'.ro from congrArg Prod.snd q]
theorem KR.nil:KR R [] 2:=⟨[],⟨.nil,nofun,leb rfl,.inl ⟨rfl,rfl⟩⟩,fun _=>⟨nofun,fun ⟨_,h,_⟩=>nomatch h⟩⟩
theorem KR.two {A:List Row} {t:Nat} (h:KR R A t):t=2↔A=[]:=⟨fun e=>List.eq_nil_iff_forall_not_mem.mpr fun r q=>List.not_mem_nil ((h.inj F (show KR R [] t from e▸KR.nil nd F) r).mp q),fun e=>h.fn nd (KR.nil nd F) fun r=>by rw [e]⟩
end
theorem Al.nil_iff {α β:Type} {P:α→β→Prop} {l:List α} {m:List β} (h:Al P l m):l=[]↔m=[]:=by
 cases h with
 | nil=>exact ⟨fun _=>rfl,fun _=>rfl⟩
 | cons=>exact ⟨nofun,nofun⟩
theorem Al.meet {α β:Type} {P Q:α→β→Prop} {l l':List α} {m m':List β} (h:Al P l m) (h':Al Q l' m') (k:∀a b b',P a b→Q a b'→b=b'):(∃a∈l,a∈l')→∃b∈m,b∈m':=fun ⟨_,x,y⟩=>let ⟨b,z,p⟩:=h.left x; let ⟨_,z',p'⟩:=h'.left y; ⟨b,z,k _ _ _ p p'▸z'⟩
theorem Al.sub {α β:Type} {P Q:α→β→Prop} {l l':List α} {m m':List β} (h:Al P l m) (h':Al Q l' m') (k:∀a b b',P a b→Q a b'→b=b') (s:∀a∈l,a∈l'):∀b∈m,b∈m':=fun _ x=>let ⟨a,z,p⟩:=h.flip.left x; let ⟨_,z',p'⟩:=h'.left (s a z); k _ _ _ p p'▸z'
theorem any_V {l:List V} {v:V}:(l.any fun y=>eqV y v)=true↔v∈l:=List.any_eq_true.trans ⟨fun ⟨_,h,e⟩=>Qo.mp e▸h,fun h=>⟨v,h,WI v⟩⟩
theorem reg_tup {rs:List Row} (h:∀r∈rs,yI r=true):rs.map yi=rs:=(List.map_congr_left fun r q=>by
 have:=h r q
 cases r<;>first | rfl | cases this).trans (List.map_id _)
theorem pp_tup {a b:Row} (h:ppR a b=true):a=b∨yI a=false∧yI b=false:=by
 refine ((Bool.or_eq_true _ _).mp h).imp of_decide_eq_true fun h=>((Bool.or_eq_true _ _).mp h).elim (fun h=>?_) fun h=>?_
 ·obtain ⟨p,q⟩:=zW h
  rw [of_decide_eq_true p,of_decide_eq_true q]
  exact ⟨rfl,rfl⟩
 ·have e:=of_decide_eq_true h
  cases a with
  | str=>exact ⟨rfl,Option.some.inj e▸rfl⟩
  | num=>exact ⟨rfl,Option.some.inj e▸rfl⟩
  | _=>cases e
theorem meet_app {X Y Z W:List Row} (x:∀r∈X,yI r=false) (y:∀r∈Y,yI r=true) (z:∀r∈Z,yI r=false) (w:∀r∈W,yI r=true):meetR (X++Y) (Z++W)=(meetR X Z||Y.any fun r=>decide (r∈W)):=by
 have i:∀ {A B:List Row},meetR A B=true↔∃a∈A,∃b∈B,(ppR a b||ppR b a)=true:=List.any_eq_true.trans (exists_congr fun _=>and_congr Iff.rfl List.any_eq_true)
 have s:∀ {a b:Row},(ppR a b||ppR b a)=true→a=b∨yI a=false∧yI b=false:=fun h=>((Bool.or_eq_true _ _).mp h).elim pp_tup fun h=>(pp_tup h).imp Eq.symm And.symm
 refine Bool.eq_iff_iff.mpr (i.trans ((Iff.trans ?_ (or_congr i List.any_eq_true).symm).trans (iff_of_eq (Bool.or_eq_true _ _)).symm))
 constructor
 ·rintro ⟨a,ha,b,hb,h⟩
  rcases List.mem_append.mp ha with p | p<;>rcases List.mem_append.mp hb with q | q
  ·exact .inl ⟨a,p,b,q,h⟩
  ·exact (s h).elim (fun e=>(Bool.false_ne_true ((x a p).symm.trans ((congrArg yI e).trans (w b q)))).elim) fun e=>nomatch e.2.symm.trans (w b q)
  ·exact (s h).elim (fun e=>(Bool.false_ne_true ((z b q).symm.trans ((congrArg yI e.symm).trans (y a p)))).elim) fun e=>nomatch e.1.symm.trans (y a p)
  ·exact (s h).elim (fun e=>.inr ⟨a,p,decide_eq_true (e▸q)⟩) fun e=>nomatch e.1.symm.trans (y a p)
 ·rintro (⟨a,p,b,q,h⟩ | ⟨a,p,q⟩)
  ·exact ⟨a,List.mem_append_left _ p,b,List.mem_append_left _ q,h⟩
  ·exact ⟨a,List.mem_append_right _ p,a,List.mem_append_right _ (of_decide_eq_true q),by unfold ppR; rw [decide_eq_true rfl]; rfl⟩
end Wk
end
section
namespace Wk
theorem tops_tup:∀r∈tops,yI r=false:=List.forall_mem_cons.mpr ⟨rfl,List.forall_mem_cons.mpr ⟨rfl,List.forall_mem_singleton.mpr rfl⟩⟩
theorem bad_tup {r:Row} (h:yI r=true):Jt r=false:=by
 unfold Jt
 rw [decide_eq_false fun q=>Bool.false_ne_true ((tops_tup r q).symm.trans h)]
 cases r<;>first | rfl | cases h
section
variable {X Y Z W:List Row} (x:∀r∈X,yI r=false) (y:∀r∈Y,yI r=true)
include x y
theorem mem_l {r:Row}:r∈X↔r∈X++Y∧yI r=false:=⟨fun h=>⟨List.mem_append_left _ h,x r h⟩,fun ⟨h,e⟩=>(List.mem_append.mp h).elim id fun h=>(Bool.false_ne_true (e.symm.trans (y r h))).elim⟩
theorem mem_r {r:Row}:r∈Y↔r∈X++Y∧yI r=true:=⟨fun h=>⟨List.mem_append_right _ h,y r h⟩,fun ⟨h,e⟩=>(List.mem_append.mp h).elim (fun h=>(Bool.false_ne_true ((x r h).symm.trans e)).elim) id⟩
end
theorem good_app {r:Nat} {f:Bool} {rs:List Row} (hr:r < 19) (n:topB (zJ r f).reg=false) (tup:∀q∈rs,yI q=true):(zX (zJ r f)++rs).map yi=(zX (zJ r f)).map yi++rs∧Yj ((zX (zJ r f)++rs).map yi)∧∀q∈(zX (zJ r f)++rs).map yi,Jt q=false:=by
 have g:=f_good hr f
 rw [List.map_append,reg_tup tup]
 refine ⟨rfl,uJ (canonC g.1) tup fun q a b=>?_,fun q h=>(List.mem_append.mp h).elim (fun h=>(g.2 n q h).1) fun h=>bad_tup (tup q h)⟩
 have:=(g.2 n q b).1
 unfold Jt at this
 rw [decide_eq_true (show q∈tops from a),Bool.or_true] at this
 cases this
section
variable {R:List Row} {k1 k2:Kd} {s t:Nat} (nd:R.Nodup) (F:yU<+:R)
include nd F
theorem rows_meet {l m:List Row} (a:Al (CV R) k1.rows l) (b:Al (CV R) k2.rows m):(∃r∈l,r∈m)↔(JY k1 k2).length > 0:=
 Iff.trans ⟨Al.meet a.flip b.flip fun _ _ _ p q=>(CV.iff nd F p q).mpr rfl,Al.meet a b fun _ _ _ p q=>(CV.iff nd F p q).mp rfl⟩ ((List.length_pos_iff_exists_mem (l:=JY k1 k2)).trans (exists_congr fun _=>List.mem_filter.trans (and_congr Iff.rfl any_V))).symm
theorem jl.zero (h:jl R k1 s):decide (s=2)=isZ k1:=by
 obtain ⟨r,f,rs,hr,reg,new,-,-,-,cr,-,ty⟩:=h
 refine Bool.eq_iff_iff.mpr (decide_eq_true_iff.trans ((ty.two nd F).trans (List.append_eq_nil_iff.trans (Iff.trans ?_ (Qo.trans WH).symm))))
 rw [reg,new]
 exact (and_congr (f_one hr f).1 cr.nil_iff.symm).trans and_assoc
end
theorem one_is {R:List Row} {k:Kd} {s j:Nat} {q:Row} {A rs:List Row} (nd:R.Nodup) (F:yU<+:R) (a:∀r∈A,yI r=false) (tup:∀r∈rs,yI r=true) (cr:Al (CV R) k.rows rs) (ty:KR R (A++rs) s) (hj:yU[j]? =some q) (hp:ja q=true) (hc:yI q=false):s=j↔Zy A [q]∧k.rows=[]:=by
 have one:=KR.one (zw F hj) hp
 constructor
 ·intro e
  have m:=ty.inj F (e▸one)
  have n:rs=[]:=List.eq_nil_iff_forall_not_mem.mpr fun r h=>Bool.false_ne_true (hc.symm.trans (List.mem_singleton.mp ((m r).mp (List.mem_append_right _ h))▸tup r h))
  exact ⟨⟨fun r h=>(m r).mp (List.mem_append_left _ h),fun r h=>(mem_l a tup).mpr ⟨(m r).mpr h,List.mem_singleton.mp h▸hc⟩⟩,cr.nil_iff.mpr n⟩
 ·intro ⟨e,n⟩
  refine ty.fn nd one fun r=>?_
  rw [cr.nil_iff.mp n,List.append_nil]
  exact ⟨e.1 r,e.2 r⟩
section
variable {R:List Row} {k1 k2:Kd} {s t:Nat} (nd:R.Nodup) (F:yU<+:R)
include nd F
theorem jl.one (h:jl R k1 s):(s=5↔zx k1=.tup [.int 256,.int 0,.tup []])∧(s=4↔zx k1=.tup [.int 512,.int 0,.tup []])∧(s∈[0,13,1]↔topB k1.reg=true):=by
 obtain ⟨r,f,rs,hr,reg,new,top,-,-,cr,tup,ty⟩:=h
 obtain ⟨-,f5,f4,ft,fa⟩:=f_one hr f
 have i:∀ {j:Nat} {q:Row},yU[j]? =some q→ja q=true→yI q=false→(s=j↔Zy (zX (zJ r f)) [q]∧k1.rows=[]):=fun hj hp hc=>one_is nd F fa tup cr ty hj hp hc
 rw [reg] at top
 rw [WH,WH,reg,new,← ft]
 refine ⟨(i (j:=5) rfl rfl rfl).trans ((and_congr f5 Iff.rfl).trans and_assoc),(i (j:=4) rfl rfl rfl).trans ((and_congr f4 Iff.rfl).trans and_assoc),(List.mem_cons.trans (or_congr (i (j:=0) rfl rfl rfl) (List.mem_cons.trans (or_congr (i (j:=13) rfl rfl rfl) (List.mem_singleton.trans (i (j:=1) rfl rfl rfl)))))).trans ⟨fun h=>h.imp And.left fun h=>h.imp And.left And.left,fun h=>?_⟩⟩
 have e:=top (ft.mp h)
 exact h.imp (⟨·,e⟩) fun h=>h.imp (⟨·,e⟩) (⟨·,e⟩)
theorem free_ids (h1:jl R k1 s) (h2:jl R k2 t):s∈[5,4,0,13,1]∨t∈[0,13,1]↔Jy k1 k2=true:=by
 obtain ⟨a5,a4,a⟩:=h1.one nd F
 obtain ⟨-,-,b⟩:=h2.one nd F
 have p:decide (Builtin.bitAnd (Builtin.bitOr k1.reg k2.reg) 14336 > 0)=(topB k1.reg||topB k2.reg):=by
  obtain ⟨r,f,-,hr,e,-⟩:=h1
  obtain ⟨r',f',-,hr',e',-⟩:=h2
  rw [e,e']
  exact (f_pair hr hr' f f').1
 unfold Jy
 have q:zx k1∈[V.tup [.int 256,.int 0,.tup []],.tup [.int 512,.int 0,.tup []]]↔s=5∨s=4:=List.mem_cons.trans (or_congr a5.symm (List.mem_singleton.trans a4.symm))
 rw [p,Bool.or_eq_true,Bool.or_eq_true,any_V,q,← a,← b]
 exact (or_congr (List.mem_cons.trans ((or_congr Iff.rfl List.mem_cons).trans or_assoc.symm)) Iff.rfl).trans or_assoc
theorem meet_ids (h1:jl R k1 s) (h2:jl R k2 t):decide (s=t)=meetK false k1 k2:=by
 obtain ⟨r,f,l,hr,a1,a2,-,-,n1,cr,tup,ty⟩:=h1
 obtain ⟨r',f',l',hr',b1,b2,-,-,n2,cr',tup',ty'⟩:=h2
 have fa:=(f_one hr f).2.2.2.2
 have fa':=(f_one hr' f').2.2.2.2
 have both:(JY k1 k2).length=k1.rows.length↔∀v∈k1.rows,v∈k2.rows:=List.length_filter_eq_length_iff.trans (forall_congr' fun _=>forall_congr' fun _=>any_V)
 have key:s=t↔(k1.reg=k2.reg∧k1.new=k2.new)∧((JY k1 k2).length=k1.rows.length∧k1.rows.length=k2.rows.length):=by
  rw [both]
  constructor
  ·intro e
   have m:=ty.inj F (e▸ty')
   have s1:∀r,r∈l↔r∈l':=fun r=>(mem_r fa tup).trans ((and_congr (m r) Iff.rfl).trans (mem_r fa' tup').symm)
   have t1:=Al.sub cr.flip cr'.flip (fun _ _ _ p q=>(CV.iff nd F p q).mpr rfl) fun r=>(s1 r).mp
   have t2:=Al.sub cr'.flip cr.flip (fun _ _ _ p q=>(CV.iff nd F p q).mpr rfl) fun r=>(s1 r).mpr
   have i:=f_inj hr hr' f f' ⟨fun x h=>(mem_l fa' tup').mpr (((mem_l fa tup).mp h).imp (m x).mp id),fun x h=>(mem_l fa tup).mpr (((mem_l fa' tup').mp h).imp (m x).mpr id)⟩
   exact ⟨⟨a1.trans (i.1.trans b1.symm),a2.trans (i.2.trans b2.symm)⟩,t1,Nat.le_antisymm (n1.length_le_of_subset t1) (n2.length_le_of_subset t2)⟩
  ·intro ⟨⟨e1,e2⟩,t1,hl⟩
   have t2:∀v∈k2.rows,v∈k1.rows:=fun v h=>Classical.byContradiction fun n=>Nat.not_succ_le_self k1.rows.length (Nat.le_trans ((List.nodup_cons.mpr ⟨n,n1⟩).length_le_of_subset (List.cons_subset.mpr ⟨h,t1⟩)) (Nat.le_of_eq hl.symm))
   refine ty.fn nd ty' fun x=>List.mem_append.trans ((or_congr ?_ ⟨Al.sub cr cr' (fun _ _ _ p q=>(CV.iff nd F p q).mp rfl) t1 x,Al.sub cr' cr (fun _ _ _ p q=>(CV.iff nd F p q).mp rfl) t2 x⟩).trans List.mem_append.symm)
   rw [XS (a1.symm.trans (e1.trans b1)) (a2.symm.trans (e2.trans b2))]
 refine Bool.eq_iff_iff.mpr (decide_eq_true_iff.trans (key.trans ?_))
 unfold meetK
 rw [Bool.and_eq_true,Bool.and_eq_true,Bool.and_eq_true,decide_eq_true_eq,decide_eq_true_eq,decide_eq_true_eq,decide_eq_true_eq]
end
theorem roomK_eq {k k':Kd} (h1:k.reg=k'.reg) (h2:k.new=k'.new):Jv k=Jv k':=by unfold Jv; rw [h1,h2]
theorem plainK {σ:zG} {tb rw ix M N w s t:Nat} {R:List Row} {k1 k2:Kd} {G:Prop} (T:Tb tb rw ix M σ R (w+1521)) (h1:jl R k1 s) (h2:jl R k2 t) (t1:topB k1.reg=false) (t2:topB k2.reg=false) (hN:5≤N) (out:∀R' σ',R<+:R'→Kp (XT rw ix) σ σ'→Tb tb rw ix M σ' R' w→Cl N 36 [.ref tb,.int (s:Int),.int (t:Int)] σ (.bool (meetK true k1 k2)) σ'→G):G:=by
 have z1:=h1.zero T.tab.nd T.pre
 have z2:=h2.zero T.tab.nd T.pre
 obtain ⟨r,f,l,hr,a1,a2,-,-,-,cr,tup,ty⟩:=h1
 obtain ⟨r',f',l',hr',b1,b2,-,-,-,cr',tup',ty'⟩:=h2
 have n1:=a1▸t1
 have n2:=b1▸t2
 obtain ⟨e1,c1,g1⟩:=good_app (f:=f) hr n1 tup
 obtain ⟨e2,c2,g2⟩:=good_app (f:=f') hr' n2 tup'
 refine plainMeets T ty ty' c1 c2 g1 g2 hN fun R' σ' x K T' e=>out R' σ' x K T' fun k=>(e k).trans (congrArg (fun b=>k (.bool b) σ') ?_)
 have any:(l.any fun r=>decide (r∈l'))=decide ((JY k1 k2).length > 0):=Bool.eq_iff_iff.mpr (List.any_eq_true.trans ((exists_congr fun _=>and_congr Iff.rfl decide_eq_true_iff).trans ((rows_meet T.tab.nd T.pre cr cr').trans decide_eq_true_iff.symm)))
 rw [e1,e2,meet_app (fun q h=>((f_good hr f).2 n1 q h).2) tup (fun q h=>((f_good hr' f').2 n2 q h).2) tup',(f_pair hr hr' f f').2 n1 n2,any,z1,z2,Bool.or_assoc]
 unfold meetK
 rw [a1,a2,b1,b2,roomK_eq a1 a2,roomK_eq b1 b2]
theorem kdTy_null {R:List Row} (F:yU<+:R):jl R ⟨8192,0,[]⟩ 13:=by
 refine ⟨18,false,[],ltb rfl,by kernel_rfl,by kernel_rfl,fun _=>rfl,Nat.zero_le _,.nil,.nil,fun _ h=>(List.not_mem_nil h).elim,?_⟩
 rw [show zX (zJ 18 false)++[]=[.key 9] by kernel_rfl]
 exact KR.one (zw F (i:=13) rfl) rfl
end Wk
end
section
namespace Wk
inductive IOp where
 | val (x:Str) (v:V)
 | new (x:Str) (o:O)
 | ins (x:Str) (c:Nat)
 | jud (x:Str)
noncomputable def jd (a:Nat) (c:Nat):List O:=[.inst c [(nS "given",.ref (a+1))],.dict [] (some 0)]
noncomputable def IOp.nm:IOp→Str
 | .val x _ | .new x _ | .ins x _ | .jud x=>x
noncomputable def IOp.os (a:Nat):IOp→List O
 | .val _ _=>[]
 | .new _ o=>[o]
 | .ins _ c=>[.inst c []]
 | .jud _=>jd a 6
noncomputable def IOp.fv (a:Nat):IOp→V
 | .val _ v=>v
 | _=>.ref a
noncomputable def IOp.go (cf:CF):IOp→(V→C)→C
 | .val _ v,k=>k v
 | .new _ o,k=>zU o k
 | .ins _ c,k=>zp P0 cf c [] k
 | .jud _,k=>zp P0 cf 6 [] k
noncomputable def noInit (c:Nat):Bool:=match P0.cls[c]? with
 | some r=>r.init.isNone
 | none=>false
noncomputable def IOp.ok:IOp→Bool
 | .ins _ c=>noInit c
 | _=>true
noncomputable def runI (cf:CF) (n:Nat):List IOp→C→C
 | [],kc=>kc
 | p::r,kc=>p.go cf fun v=>zK P0 (.ref n) p.nm v (runI cf n r kc)
noncomputable def ZS:Nat→List IOp→List (Str×V)
 | _,[]=>[]
 | a,p::r=>(p.nm,p.fv a)::ZS (a+(p.os a).length) r
noncomputable def Xg:Nat→List IOp→List O
 | _,[]=>[]
 | a,p::r=>p.os a++Xg (a+(p.os a).length) r
noncomputable def chkI (c:Nat):List Str→List IOp→Bool
 | s,[]=>Nat.ble s.length 899
 | s,p::r=>WN P0 c p.nm&&(!s.any (Fast.sEq p.nm)&&(p.ok&&chkI c (s++[p.nm]) r))
theorem setK_new {x:Str} {v:V}:∀ {fs:List (Str×V)},(fs.map (·.1)).any (Fast.sEq x)=false→ZJ x v fs=fs++[(x,v)]
 | [],_=>rfl
 | (y,b)::r,h=>by
  rw [List.map_cons,List.any_cons,Bool.or_eq_false_iff] at h
  rw [ZJ,h.1]
  exact congrArg _ (setK_new h.2)
theorem Xp {σ:zG} {o:O} {r:List O}:(σ++o::r)[σ.length]? =some o:=by simp
theorem set_mid {σ:zG} {o o':O} {r:List O}:(σ++o::r).set σ.length o'=σ++o'::r:=by
 rw [List.set_append_right _ _ (Nat.le_refl _),Nat.sub_self]; rfl
theorem instN {cf:CF} {c:Nat} {σ:zG} {k:K V} (h:noInit c=true):zp P0 cf c [] k σ=k (.ref σ.length) (σ++[.inst c []]):=by
 unfold noInit at h
 cases e:P0.cls[c]? with
 | none=>rw [e] at h; cases h
 | some r=>
  rw [e] at h
  refine (Uj e).trans ?_
  obtain ⟨i,a,m⟩:=r
  cases i with
  | none=>rfl
  | some i=>cases h
theorem chk_len {c:Nat}:∀ (ops:List IOp) (s:List Str),chkI c s ops=true→s.length < 900
 | [],s,h=>Nat.lt_succ_of_le (Nat.le_of_ble_eq_true h)
 | p::r,s,h=>by
  simp only [chkI,Bool.and_eq_true] at h
  have:=chk_len r _ h.2.2.2
  rw [List.length_append] at this
  exact Nat.lt_of_succ_lt this
section
variable {c N:Nat}
theorem runI_go (hj:∀ (σ:zG) (k:K V),zp P0 (zA N) 6 [] k σ=k (.ref σ.length) (σ++jd σ.length 6)) {σ:zG}:∀ (ops:List IOp) (fs:List (Str×V)) (suf:List O) (kc:C),chkI c (fs.map (·.1)) ops=true→
  runI (zA N) σ.length ops kc (σ++.inst c fs::suf)=kc (σ++.inst c (fs++ZS (σ.length+1+suf.length) ops)::(suf++Xg (σ.length+1+suf.length) ops))
 | [],fs,suf,kc,_=>by rw [runI,ZS,Xg,List.append_nil,List.append_nil]
 | p::r,fs,suf,kc,hc=>by
  have hl:=chk_len (p::r) _ hc
  simp only [chkI,Bool.and_eq_true,Bool.not_eq_true'] at hc
  obtain ⟨h1,h2,h3,h4⟩:=hc
  rw [List.length_map] at hl
  have hlen:(σ++O.inst c fs::suf).length=σ.length+1+suf.length:=by simp; lia
  have hg:p.go (zA N) (fun v=>zK P0 (.ref σ.length) p.nm v (runI (zA N) σ.length r kc)) (σ++.inst c fs::suf)=zK P0 (.ref σ.length) p.nm (p.fv (σ.length+1+suf.length)) (runI (zA N) σ.length r kc) (σ++.inst c fs::(suf++p.os (σ.length+1+suf.length))):=by
   rw [← hlen]
   rcases p with ⟨x,v⟩ | ⟨x,o⟩ | ⟨x,d⟩ | x
   ·exact congrArg _ (by rw [IOp.os,List.append_nil])
   ·delta IOp.go
    dsimp only
    rw [ZY]
    rw [List.append_assoc]; rfl
   ·delta IOp.go
    dsimp only
    rw [instN h3]
    rw [List.append_assoc]; rfl
   ·delta IOp.go
    dsimp only
    rw [hj]
    rw [List.append_assoc]; rfl
  refine hg.trans ?_
  rw [WR Xp h1 hl,set_mid,setK_new h2,runI_go hj r _ _ kc (by rw [List.map_append]; exact h4),ZS,Xg,List.length_append,List.append_assoc,List.append_assoc,Nat.add_assoc (σ.length+1)]
  rfl
theorem U8 {cf:CF} {c i:Nat} {vs:List V} {k:K V} {σ:zG}:instR cf c vs (some i) k σ=cf i (.ref σ.length::vs) (fun u=>YL u (ret (.ref σ.length)) k) (σ++[.inst c []]):=rfl
theorem instI {M i:Nat} {r:Zm} {vs:List V} (ops:List IOp) {σ:zG} {k:K V} (kc:C) (hc:P0.cls[c]? =some r) (hi:r.init=some i) (hj:∀ (σ:zG) (k:K V),zp P0 (zA M) 6 [] k σ=k (.ref σ.length) (σ++jd σ.length 6))
  (hrun:zA N i (.ref σ.length::vs) (fun u=>YL u (ret (.ref σ.length)) k)=runI (zA M) σ.length ops kc) (hk:chkI c [] ops=true):
  zp P0 (zA N) c vs k σ=kc (σ++.inst c (ZS (σ.length+1) ops)::Xg (σ.length+1) ops):=by
 refine (Uj hc).trans ?_
 show instR (zA N) c vs r.init k σ=_
 rw [hi]
 exact U8.trans ((congrFun hrun _).trans (runI_go hj ops [] [] kc hk))
end
end Wk
end
section
namespace Wk
noncomputable def nodeF (kind a kids flags at' nid:V):List (Str×V):=[(nS "kind",kind),(nS "a",a),(nS "kids",kids),(nS "flags",flags),(nS "at",at'),(nS "nid",nid)]
theorem judge0 {N c:Nat} {q:Zm} {σ:zG} {k:K V} (hc:P0.cls[c]? =some q) (hi:q.init=some 31) (h:WN P0 c (nS "given")=true):zp P0 (zA (N+1)) c [] k σ=k (.ref σ.length) (σ++jd σ.length c):=by
 refine (Uj hc).trans ?_
 show instR (zA (N+1)) c [] q.init k σ=_
 rw [hi]
 refine U8.trans (cl31.trans (ZY.trans ?_))
 rw [List.append_assoc,List.length_append]
 exact (WR Xp h (ltb rfl)).trans (congrArg _ set_mid)
theorem judge {N:Nat} (σ:zG) (k:K V):zp P0 (zA (N+1)) 6 [] k σ=k (.ref σ.length) (σ++jd σ.length 6):=judge0 rfl rfl (by kernel_rfl)
theorem node {σ:zG} {N:Nat} (kind a kids n:V) (k:K V):zA (N+3) 74 [kind,a,kids,n] k σ=k (.ref σ.length) (σ++[.inst 0 (nodeF kind a kids (.int 0) n n)]):=by
 refine c74.trans (cl1.trans ((instI (M:=1) [.val (nS "kind") kind,.val (nS "a") a,.val (nS "kids") kids,.val (nS "flags") (.int 0),.val (nS "at") n,.val (nS "nid") (.int 0)] (zK P0 (.ref σ.length) (nS "nid") n (k (.ref σ.length))) rfl rfl judge (funext fun τ=>cl0) (by kernel_rfl)).trans ((WR zS (by kernel_rfl) (ltb rfl)).trans (congrArg _ set_mid))))
noncomputable abbrev Kb (b:Nat):zG→zG→Prop:=Kp fun i=>i < b
section
variable {σ σ':zG} {b:Nat}
theorem Kp.hi {X:Nat→Prop} (K:Kp X σ σ') (h:∀i,X i→i < b):Kb b σ σ':=K.mono h
theorem Kb.new (K:Kp yR σ σ'):Kb b σ σ':=K.mono fun _ h=>h.elim
theorem Kb.wide {b':Nat} (K:Kb b σ σ') (h:b≤b'):Kb b' σ σ':=K.mono fun _ q=>Nat.lt_of_lt_of_le q h
theorem Kb.at (K:Kb b σ σ') {i:Nat} {o:O} (h:σ[i]? =some o) (q:b≤i):σ'[i]? =some o:=K.get h (Nat.not_lt_of_le q)
end
theorem upd {L:List (Nat×O)} {σ:zG} {n j:Nat} {o o':O} (p:∀x∈L,σ[x.1]? =some x.2) (nd:(L.map (·.1)).Nodup) (h:L[n]? =some (j,o)):∀x∈L.set n (j,o'),(σ.set j o')[x.1]? =some x.2:=fun x hx=>by
 obtain ⟨m,e⟩:=List.mem_iff_getElem?.mp hx
 by_cases q:n=m
 ·subst q
  rw [List.getElem?_set_self (List.getElem?_eq_some_iff.mp h).1] at e
  cases e
  exact yE (p _ (mI h))
 ·rw [List.getElem?_set_ne q] at e
  rw [List.getElem?_set_ne]
  ·exact p x (mI e)
  ·intro r
   have a:(L.map (·.1))[n]? =some j:=by rw [List.getElem?_map,h]; rfl
   have b:(L.map (·.1))[m]? =some j:=by rw [List.getElem?_map,e,r]; rfl
   exact q ((List.getElem?_inj (List.getElem?_eq_some_iff.mp a).1 nd).mp (a.trans b.symm))
noncomputable def tyD (l:List (Int×Int)):List (V×V):=l.map fun x=>(.int x.1,.int x.2)
theorem Jf {α:Type} {g:α→Int} {f:α→V} {l:List α} {n:Int}:yP (.int n) (l.map fun x=>(V.int (g x),f x))=true:=by
 unfold yP
 rw [List.all_map]
 exact List.all_eq_true.mpr fun _ _=>rfl
theorem YZ {l:List (Int×Int)} {n:Int}:yP (.int n) (tyD l)=true:=Jf (g:=fun x:Int×Int=>x.1)
theorem dHas_ty {l:List (Int×Int)} {n:Int}:dHas (.int n) (tyD l)=l.any fun x=>decide (x.1=n):=by
 unfold dHas tyD
 rw [List.any_map]; rfl
theorem dPut_new {l:List (Int×Int)} {n t:Int} (h:∀x∈l,x.1≠n):ZH (.int n) (.int t) (tyD l)=tyD (l++[(n,t)]):=by
 unfold ZH
 rw [dHas_ty,List.any_eq_false.mpr fun x hx=>by simpa using h x hx]
 unfold tyD
 rw [List.map_append]; rfl
structure Dg where
 num:Int
 pos:Int
 args:V
noncomputable def diagF (x:Dg):List (Str×V):=[(nS "number",.int x.num),(nS "at",.int x.pos),(nS "args",x.args),(nS "file",.str (nS ""))]
noncomputable def JJ (x y:Dg):Bool:=decide (y.num=x.num)&&(decide (y.pos=x.pos)&&eqV y.args x.args)
noncomputable def Zj (D:List Dg) (x:Dg):List Dg:=if (D.any (JJ x))=true then D else D++[x]
noncomputable def okA (v:V):Prop:=yW v=true∧Yu v≤60
noncomputable def DgL (b:Nat) (σ:zG) (is:List Nat) (D:List Dg):Prop:=is.length=D.length∧∀p∈is.zip D,b≤p.1∧σ[p.1]? =some (.inst 1 (diagF p.2))
noncomputable def enc1 (s:Int):V:=.tup [.int 1,.int s]
noncomputable def Jq (l:List Int):List (V×V):=l.map fun s=>(V.int s,V.int 1)
structure Ad where
 (tb t:Nat) (pl:Bool) (z:O)
noncomputable def jo (pl:Bool):Nat:=if pl=true then 60 else 53
noncomputable def uo (pl:Bool):Nat:=if pl=true then 62 else 60
namespace Ad
variable (A:Ad)
noncomputable def cx:Nat:=A.t+13
noncomputable def ju:Nat:=A.t+jo A.pl
noncomputable def b0:Nat:=A.t+(uo A.pl+6)
structure Ok:Prop where
 z:0 < A.tb
 t:A.tb+2 < A.t
end Ad
noncomputable def cfF (t tb ju:Nat) (n:Int):List (Str×V):=[(nS "tab",.ref tb),(nS "host",.ref t),(nS "bound",.ref (t+3)),(nS "graph",.none),(nS "namer",.none),(nS "diags",.ref (t+9)),(nS "notes",.ref (t+11)),(nS "exprs",.ref (t+14)),(nS "stmts",.ref (t+15)),(nS "sorts",.ref (t+16)),(nS "types",.ref (t+17)),(nS "declared",.ref (t+18)),(nS "busy",.ref (t+19)),(nS "called",.ref (t+20)),(nS "consts",.ref (t+21)),(nS "sigs",.ref (t+22)),(nS "bound_decls",.ref (t+23)),(nS "inside",.ref (t+24)),(nS "rets",.ref (t+25)),(nS "chains",.ref (t+26)),(nS "trail",.ref (t+27)),(nS "later",.ref (t+28)),(nS "late",.ref (t+29)),(nS "targets",.ref (t+30)),(nS "globals",.ref (t+31)),(nS "loops",.ref (t+32)),(nS "roots",.ref (t+33)),(nS "inits",.ref (t+34)),(nS "paired",.ref (t+35)),(nS "got_by",.ref (t+36)),(nS "under",.ref (t+37)),(nS "drawn",.ref (t+38)),(nS "dropped",.ref (t+39)),(nS "marks",.ref (t+40)),(nS "owners",.ref (t+41)),(nS "this_of",.ref (t+42)),(nS "func_at",.ref (t+43)),(nS "selves_of",.ref (t+44)),(nS "rounds",.ref (t+45)),(nS "callees",.ref (t+46)),(nS "heads",.ref (t+47)),(nS "banged",.ref (t+48)),(nS "told_names",.ref (t+49)),(nS "guesses",.ref (t+50)),(nS "ready",(.int 0)),(nS "const_enums",.ref (t+51)),(nS "preset",.ref (t+52)),(nS "asker",.none),(nS "stops",.none),(nS "judge",.ref ju),(nS "guard",.ref (t+55)),(nS "patterns",.ref (t+56)),(nS "giver",.ref (t+57)),(nS "funcs",.ref (t+58)),(nS "places",.ref (t+59)),(nS "deep",.int n)]
noncomputable def bdF (t:Nat):List (Str×V):=[(nS "symbols",.ref (t+4)),(nS "scopes",.ref (t+5)),(nS "of_node",.ref (t+6)),(nS "use",.ref (t+7)),(nS "decl",.ref (t+8)),(nS "diags",.ref (t+1))]
noncomputable def tbF (a:Nat):List (Str×V):=[(nS "rows",.ref (a+1)),(nS "index",.ref (a+2)),(nS "decls",.ref (a+3)),(nS "bounds",.ref (a+4)),(nS "defaults",.ref (a+5)),(nS "names",.ref (a+6)),(nS "origins",.ref (a+7)),(nS "renamed",.ref (a+8)),(nS "shaping",.int 0),(nS "putting",.int 0)]
noncomputable def dgF (r:Nat):List (Str×V):=[(nS "rows",.ref r),(nS "file",.str (nS ""))]
noncomputable def ntF' (r:Nat):List (Str×V):=[(nS "rows",.ref r)]
noncomputable def smD (u:Nat):List (V×V):=[(.int 59,.ref u),(.int 43,.ref (u+1)),(.int 27,.ref (u+2)),(.int 50,.ref (u+3)),(.int 56,.ref (u+4)),(.int 57,.ref (u+5))]
structure Q where
 (l d:List (Int×Int)) (D:List Dg) (nl dl tr:List Int) (dp:Int)
noncomputable def encN' (n:Int):V:=.tup [.int 19,.int n]
noncomputable def objs (A:Ad) (R:List Row) (q:Q) (is:List Nat) (eR eL eD eU:Option Nat):List (Nat×O):=
 [(A.tb+1,.list (R.map yD)),(A.tb+2,.dict (jg R 0) eR),(0,A.z),(A.tb,.inst 4 (tbF A.tb)),(A.t+3,.inst 5 (bdF A.t)),(A.t+8,.dict (tyD q.d) eD),(A.t+9,.inst 2 (dgF (A.t+10))),(A.t+10,.list (is.map V.ref)),(A.t+11,.inst 3 (ntF' (A.t+12))),(A.t+12,.list (q.nl.map wH)),(A.t+13,.inst 8 (cfF A.t A.tb A.ju q.dp)),(A.t+14,.dict [] (some 0)),(A.t+15,.dict (smD (A.t+uo A.pl)) (some 0)),(A.t+17,.dict (tyD q.l) eL),(A.t+18,.dict (Jq q.dl) eU),(A.t+20,.dict [] (some 0)),(A.t+23,.dict [] (some 0)),(A.t+27,.list (q.tr.map enc1)),(A.t+28,.list []),(A.ju,.inst (if A.pl=true then 7 else 6) [(nS "given",.ref (A.ju+1))]),(A.t+uo A.pl,.inst 11 []),(A.t+(uo A.pl+1),.inst 9 []),(A.t+(uo A.pl+2),.inst 10 []),(A.t+(uo A.pl+3),.inst 12 []),(A.t+(uo A.pl+4),.inst 13 []),(A.t+(uo A.pl+5),.inst 14 [])]
noncomputable def offs (pl:Bool):List Nat:=[3,8,9,10,11,12,13,14,15,17,18,20,23,27,28,jo pl,uo pl,uo pl+1,uo pl+2,uo pl+3,uo pl+4,uo pl+5]
section
variable {A:Ad} {R:List Row} {q:Q} {is:List Nat} {eR eL eD eU:Option Nat}
theorem Uy:(objs A R q is eR eL eD eU).map (·.1)=[A.tb+1,A.tb+2,0,A.tb]++(offs A.pl).map (A.t+·):=rfl
theorem objs_nd (h:A.Ok):((objs A R q is eR eL eD eU).map (·.1)).Nodup:=by
 have hz:=h.z
 have ht:=h.t
 have n:(offs A.pl).Nodup:=by rcases A.pl with _ | _<;>decide+kernel
 rw [Uy,List.nodup_append]
 refine ⟨by simp; lia,List.pairwise_map.mpr (n.imp ne_off),fun a ha b hb e=>?_⟩
 obtain ⟨c,-,rfl⟩:=List.mem_map.mp hb
 have:=All.mem (Q:=fun a=>a < A.t) (.cons (Nat.lt_trans (Nat.lt_succ_self _) ht) <| .cons ht <| .cons (Nat.lt_of_le_of_lt (Nat.zero_le _) ht) <| .cons (Nat.lt_trans (Nat.lt_add_of_pos_right (by decide)) ht) .nil) a ha
 exact Nat.lt_irrefl _ (Nat.lt_of_le_of_lt (e▸Nat.le_add_right A.t c) this)
theorem objs_lo (h:A.Ok):∀x∈objs A R q is eR eL eD eU,x.1 < A.b0:=fun x hx=>by
 have hx:x.1∈[A.tb+1,A.tb+2,0,A.tb]++(offs A.pl).map (A.t+·):=Uy (A:=A)▸List.mem_map_of_mem hx
 have ht:=h.t
 have o:(offs A.pl).all (Nat.blt · (uo A.pl+6))=true:=by rcases A.pl with _ | _<;>rfl
 rcases List.mem_append.mp hx with hx | hx
 ·have:x.1≤A.tb+2:=All.mem (Q:=fun a=>a≤A.tb+2) (.cons (Nat.le_succ _) <| .cons (Nat.le_refl _) <| .cons (Nat.zero_le _) <| .cons (Nat.le_add_right _ 2) .nil) x.1 hx
  exact Nat.lt_of_le_of_lt this (Nat.lt_of_lt_of_le ht (Nat.le_add_right _ _))
 ·obtain ⟨c,hc,e⟩:=List.mem_map.mp hx
  exact e▸Nat.add_lt_add_left (Nat.le_of_ble_eq_true (List.all_eq_true.mp o c hc)) A.t
end
end Wk
end
section
namespace Wk
noncomputable def Q.sz (q:Q):Nat:=q.D.length+(q.nl.length+(q.dl.length+(q.tr.length+(q.l.length+q.d.length))))
theorem mid0 {b c d e f:Nat} (h:b+e≤c+f):(b+d)+e≤(c+d)+f:=by lia
theorem Jp {a x y e f:Nat} (h:x+e≤y+f):(a+x)+e≤(a+y)+f:=by lia
theorem two {α β:Type} {a b:α} {u v:β} {L:List (α×β)} (nd:(((a,u)::(b,v)::L).map (·.1)).Nodup) {x:α×β} (hx:x∈L):¬ (x.1=a∨x.1=b):=by
 have hm:=List.mem_map_of_mem (f:=(·.1)) hx
 obtain ⟨n1,n2⟩:=List.nodup_cons.mp nd
 rintro (h | h)
 ·exact n1 (.tail _ (h▸hm))
 ·exact (List.nodup_cons.mp n2).1 (h▸hm)
inductive Ob (A:Ad) (σ:zG) (R:List Row) (q:Q):Prop
 | mk (is:List Nat) (eR eL eD eU:Option Nat) (p:∀x∈objs A R q is eR eL eD eU,σ[x.1]? =some x.2) (g:DgL A.b0 σ is q.D)
structure Ck (A:Ad) (σ:zG) (R:List Row) (q:Q) (w:Nat):Prop where
 ok:A.Ok
 obj:Ob A σ R q
 b0:A.b0≤σ.length
 nd:R.Nodup
 fst:yU<+:R
 rm:R.length+q.sz+w < 780000
 dok:∀x∈q.D,okA x.args
noncomputable def methK (c:Nat) (x:Str):Option Nat:=(P0.cls[c]?).bind fun r=>zO x r.meths
section
variable {A:Ad} {σ σ':zG} {R:List Row} {q:Q} {w:Nat} {k:K V} {kb:K BM}
theorem Yl {n c i:Nat} {fs:List (Str×V)} {x:Str} (h:σ[n]? =some (.inst c fs)) (hx:zO x fs=none) (hm:methK c x=some i):zR P0 (.ref n) x kb σ=kb (.fn i (.ref n)) σ:=(s_o h).trans ((s_ck (by rw [hx]; rfl)).trans (Uj hm))
theorem DgL.kp {b:Nat} {is:List Nat} {D:List Dg} (g:DgL b σ is D) (K:Kb b σ σ'):DgL b σ' is D:=⟨g.1,fun p hp=>⟨(g.2 p hp).1,K.at (g.2 p hp).2 (g.2 p hp).1⟩⟩
theorem Ck.at (S:Ck A σ R q w) {n i:Nat} {o:O} (h:∀is a b c d,(objs A R q is a b c d)[n]? =some (i,o)):σ[i]? =some o:=
 let ⟨_,_,_,_,_,p,_⟩:=S.obj
 p _ (mI (h _ _ _ _ _))
theorem Ck.le (S:Ck A σ R q w) {w':Nat} (h:w'≤w):Ck A σ R q w':=⟨S.ok,S.obj,S.b0,S.nd,S.fst,Nat.lt_of_le_of_lt (Nat.add_le_add_left h _) S.rm,S.dok⟩
theorem Ck.kp (S:Ck A σ R q w) (K:Kp yR σ σ'):Ck A σ' R q w:=
 let ⟨is,a,b,c,d,p,g⟩:=S.obj
 ⟨S.ok,⟨is,a,b,c,d,fun x h=>K.get (p x h) id,g.kp (Kb.new K)⟩,Nat.le_trans S.b0 K.le,S.nd,S.fst,S.rm,S.dok⟩
theorem Ck.kpA (S:Ck A σ R q w) {a:Nat} (h0:a≠0) (h:a < A.tb) (K:Kp (fun i=>i=a) σ σ'):Ck A σ' R q w:=by
 obtain ⟨is,x1,x2,x3,x4,p,g⟩:=S.obj
 have t:=S.ok.t
 refine ⟨S.ok,⟨is,x1,x2,x3,x4,fun x hx=>K.get (p x hx) fun e=>?_,g.kp (K.mono fun i e=>?_)⟩,Nat.le_trans S.b0 K.le,S.nd,S.fst,S.rm,S.dok⟩
 ·have hx:x.1∈[A.tb+1,A.tb+2,0,A.tb]++(offs A.pl).map (A.t+·):=Uy (A:=A)▸List.mem_map_of_mem hx
  rcases List.mem_append.mp hx with hx | hx
  ·simp only [List.mem_cons,List.not_mem_nil,or_false] at hx; lia
  ·obtain ⟨c,-,e'⟩:=List.mem_map.mp hx
   lia
 ·unfold Ad.b0; lia
theorem Ck.one (S:Ck A σ R q w) {is:List Nat} {a b c d:Option Nat} (p:∀x∈objs A R q is a b c d,σ[x.1]? =some x.2) {n j:Nat} {o o':O} (h:(objs A R q is a b c d)[n]? =some (j,o)) {q':Q} {w':Nat} (is':List Nat) (b' c' d':Option Nat) (e:(objs A R q is a b c d).set n (j,o')=objs A R q' is' a b' c' d') (g:DgL A.b0 σ is' q'.D) (ok:∀x∈q'.D,okA x.args)
  (rm:q'.sz+w'≤q.sz+w):Ck A (σ.set j o') R q' w'∧Kb A.b0 σ (σ.set j o'):=by
 have K:Kb A.b0 σ (σ.set j o'):=Kp.set (objs_lo S.ok _ (mI h))
 exact ⟨⟨S.ok,⟨is',a,b',c',d',e▸upd p (objs_nd S.ok) h,g.kp K⟩,Nat.le_trans S.b0 K.le,S.nd,S.fst,Nat.lt_of_le_of_lt (Jp rm) S.rm,ok⟩,K⟩
theorem Ck.setCx (S:Ck A σ R q w) (n:Int):Ck A (σ.set A.cx (.inst 8 (cfF A.t A.tb A.ju n))) R {q with dp:=n} w∧Kb A.b0 σ (σ.set A.cx (.inst 8 (cfF A.t A.tb A.ju n))):=
 let ⟨is,_,b,c,d,p,g⟩:=S.obj
 S.one p (n:=10) rfl is b c d rfl g S.dok (Nat.le_refl _)
theorem Ck.setNr (S:Ck A σ R q w) (l:List Int) {w':Nat} (h:l.length+w'≤q.nl.length+w):Ck A (σ.set (A.t+12) (.list (l.map wH))) R {q with nl:=l} w'∧Kb A.b0 σ (σ.set (A.t+12) (.list (l.map wH))):=
 let ⟨is,_,b,c,d,p,g⟩:=S.obj
 S.one p (n:=9) rfl is b c d rfl g S.dok (Jp (mid0 h))
theorem Ck.setDe (S:Ck A σ R q w) (l:List Int) (e:Option Nat) {w':Nat} (h:l.length+w'≤q.dl.length+w):Ck A (σ.set (A.t+18) (.dict (Jq l) e)) R {q with dl:=l} w'∧Kb A.b0 σ (σ.set (A.t+18) (.dict (Jq l) e)):=
 let ⟨is,_,b,c,_,p,g⟩:=S.obj
 S.one p (n:=14) rfl is b c e rfl g S.dok (Jp (Jp (mid0 h)))
theorem Ck.setTr (S:Ck A σ R q w) (l:List Int) {w':Nat} (h:l.length+w'≤q.tr.length+w):Ck A (σ.set (A.t+27) (.list (l.map enc1))) R {q with tr:=l} w'∧Kb A.b0 σ (σ.set (A.t+27) (.list (l.map enc1))):=
 let ⟨is,_,b,c,d,p,g⟩:=S.obj
 S.one p (n:=17) rfl is b c d rfl g S.dok (Jp (Jp (Jp (mid0 h))))
theorem Ck.setTy (S:Ck A σ R q w) (l:List (Int×Int)) (e:Option Nat) {w':Nat} (h:l.length+w'≤q.l.length+w):Ck A (σ.set (A.t+17) (.dict (tyD l) e)) R {q with l:=l} w'∧Kb A.b0 σ (σ.set (A.t+17) (.dict (tyD l) e)):=
 let ⟨is,_,_,c,d,p,g⟩:=S.obj
 S.one p (n:=13) rfl is e c d rfl g S.dok (Jp (Jp (Jp (Jp (mid0 h)))))
theorem Ck.setDc (S:Ck A σ R q w) (l:List (Int×Int)) (e:Option Nat) {w':Nat} (h:l.length+w'≤q.d.length+w):Ck A (σ.set (A.t+8) (.dict (tyD l) e)) R {q with d:=l} w'∧Kb A.b0 σ (σ.set (A.t+8) (.dict (tyD l) e)):=
 let ⟨is,_,b,_,d,p,g⟩:=S.obj
 S.one p (n:=5) rfl is b e d rfl g S.dok (Jp (Jp (Jp (Jp (Jp h)))))
theorem Ck.setDr (S:Ck A σ R q w) (is:List Nat) (D:List Dg) {w':Nat} (g:DgL A.b0 σ is D) (ok:∀x∈D,okA x.args) (h:D.length+w'≤q.D.length+w):Ck A (σ.set (A.t+10) (.list (is.map V.ref))) R {q with D:=D} w'∧Kb A.b0 σ (σ.set (A.t+10) (.list (is.map V.ref))):=
 let ⟨_,_,b,c,d,p,_⟩:=S.obj
 S.one p (n:=7) rfl is b c d rfl g ok (mid0 h)
theorem XT.lo (h:A.Ok):∀i,XT (A.tb+1) (A.tb+2) i→i < A.b0:=fun i q=>by
 have:=h.t
 unfold Ad.b0
 rcases q with rfl | rfl<;>lia
theorem Ck.tabs (S:Ck A σ R q w) {R':List Row} {w' M u:Nat} (T:Tb A.tb (A.tb+1) (A.tb+2) M σ' R' u) (K:Kp (XT (A.tb+1) (A.tb+2)) σ σ') (pre:R<+:R') (h:R'.length+w'≤R.length+w):Ck A σ' R' q w'∧Kb A.b0 σ σ':=by
 obtain ⟨is,a,b,c,d,p,g⟩:=S.obj
 obtain ⟨e,he⟩:=T.tab.idx
 have K':Kb A.b0 σ σ':=K.mono (XT.lo S.ok)
 have nd:=objs_nd (R:=R) (q:=q) (is:=is) (eR:=a) (eL:=b) (eD:=c) (eU:=d) S.ok
 exact ⟨⟨S.ok,⟨is,e,b,c,d,fun x hx=>(List.mem_cons.mp hx).elim (fun h=>h▸T.tab.rows) fun hx=>(List.mem_cons.mp hx).elim (fun h=>h▸he) fun hx=>K.get (p x (.tail _ (.tail _ hx))) (two nd hx),g.kp K'⟩,Nat.le_trans S.b0 K.le,T.tab.nd,S.fst.trans pre,Nat.lt_of_le_of_lt (mid0 h) S.rm,S.dok⟩,K'⟩
theorem Ck.tab (S:Ck A σ R q w):Tab σ A.tb (A.tb+1) (A.tb+2) R:=by
 obtain ⟨is,a,b,c,d,p,-⟩:=S.obj
 exact ⟨⟨tbF A.tb,p _ (mI (n:=3) rfl),by kernel_rfl,by kernel_rfl,by kernel_rfl⟩,p _ (mI (n:=0) rfl),⟨a,p _ (mI (n:=1) rfl)⟩,Nat.ne_of_lt (Nat.lt_succ_self _),Nat.ne_of_lt (Nat.lt_add_of_pos_right (by decide)),Nat.ne_of_lt (Nat.lt_succ_self _),S.nd⟩
theorem Ck.Tb (S:Ck A σ R q w) {n:Nat} (h:n≤3000):Tb A.tb (A.tb+1) (A.tb+2) (R.length+n) σ R n:=⟨S.tab,S.fst,Nat.le_refl _,Nat.le_trans (Nat.add_le_add (Nat.le_trans (Nat.le_add_right _ _) (Nat.le_trans (Nat.le_add_right _ _) (Nat.le_of_lt S.rm))) h) (leb rfl)⟩
theorem Ck.dr (S:Ck A σ R q w):∃is:List Nat,σ[A.t+10]? =some (.list (is.map V.ref))∧DgL A.b0 σ is q.D:=
 let ⟨is,_,_,_,_,p,g⟩:=S.obj
 ⟨is,p _ (mI (n:=7) rfl),g⟩
theorem Ck.ty (S:Ck A σ R q w):∃e,σ[A.t+17]? =some (.dict (tyD q.l) e):=
 let ⟨_,_,b,_,_,p,_⟩:=S.obj
 ⟨b,p _ (mI (n:=13) rfl)⟩
theorem Ck.dc (S:Ck A σ R q w):∃e,σ[A.t+8]? =some (.dict (tyD q.d) e):=
 let ⟨_,_,_,c,_,p,_⟩:=S.obj
 ⟨c,p _ (mI (n:=5) rfl)⟩
theorem Ck.de (S:Ck A σ R q w):∃e,σ[A.t+18]? =some (.dict (Jq q.dl) e):=
 let ⟨_,_,_,_,d,p,_⟩:=S.obj
 ⟨d,p _ (mI (n:=14) rfl)⟩
theorem Ck.nr (S:Ck A σ R q w):σ[A.t+12]? =some (.list (q.nl.map wH)):=S.at (n:=9) fun _ _ _ _ _=>rfl
theorem Ck.tr (S:Ck A σ R q w):σ[A.t+27]? =some (.list (q.tr.map enc1)):=S.at (n:=17) fun _ _ _ _ _=>rfl
theorem Ck.ox (S:Ck A σ R q w):σ[A.cx]? =some (.inst 8 (cfF A.t A.tb A.ju q.dp)):=S.at (n:=10) fun _ _ _ _ _=>rfl
theorem Ck.la (S:Ck A σ R q w):σ[A.t+28]? =some (.list []):=S.at (n:=18) fun _ _ _ _ _=>rfl
theorem Ck.ax (S:Ck A σ R q w) {x:Str} {v:V} (a:WN P0 8 x=true) (h:zO x (cfF A.t A.tb A.ju q.dp)=some v):zD P0 (.ref A.cx) x k σ=k v σ:=yQ S.ox a h
theorem Ck.a_tab (S:Ck A σ R q w):zD P0 (.ref A.cx) (nS "tab") k σ=k (.ref A.tb) σ:=S.ax (by kernel_rfl) (by kernel_rfl)
theorem Ck.a_exprs (S:Ck A σ R q w):zD P0 (.ref A.cx) (nS "exprs") k σ=k (.ref (A.t+14)) σ:=S.ax (by kernel_rfl) (by kernel_rfl)
theorem Ck.a_stmts (S:Ck A σ R q w):zD P0 (.ref A.cx) (nS "stmts") k σ=k (.ref (A.t+15)) σ:=S.ax (by kernel_rfl) (by kernel_rfl)
theorem Ck.a_types (S:Ck A σ R q w):zD P0 (.ref A.cx) (nS "types") k σ=k (.ref (A.t+17)) σ:=S.ax (by kernel_rfl) (by kernel_rfl)
theorem Ck.a_declared (S:Ck A σ R q w):zD P0 (.ref A.cx) (nS "declared") k σ=k (.ref (A.t+18)) σ:=S.ax (by kernel_rfl) (by kernel_rfl)
theorem Ck.a_called (S:Ck A σ R q w):zD P0 (.ref A.cx) (nS "called") k σ=k (.ref (A.t+20)) σ:=S.ax (by kernel_rfl) (by kernel_rfl)
theorem Ck.a_trail (S:Ck A σ R q w):zD P0 (.ref A.cx) (nS "trail") k σ=k (.ref (A.t+27)) σ:=S.ax (by kernel_rfl) (by kernel_rfl)
theorem Ck.a_later (S:Ck A σ R q w):zD P0 (.ref A.cx) (nS "later") k σ=k (.ref (A.t+28)) σ:=S.ax (by kernel_rfl) (by kernel_rfl)
theorem Ck.a_judge (S:Ck A σ R q w):zD P0 (.ref A.cx) (nS "judge") k σ=k (.ref A.ju) σ:=S.ax (by kernel_rfl) (by kernel_rfl)
theorem Ck.a_namer (S:Ck A σ R q w):zD P0 (.ref A.cx) (nS "namer") k σ=k .none σ:=S.ax (by kernel_rfl) (by kernel_rfl)
theorem Ck.a_bound_decls (S:Ck A σ R q w):zD P0 (.ref A.cx) (nS "bound_decls") k σ=k (.ref (A.t+23)) σ:=S.ax (by kernel_rfl) (by kernel_rfl)
theorem Ck.a_deep (S:Ck A σ R q w):zD P0 (.ref A.cx) (nS "deep") k σ=k (.int q.dp) σ:=S.ax (by kernel_rfl) (by kernel_rfl)
theorem Ck.a_diags (S:Ck A σ R q w):zD P0 (.ref A.cx) (nS "diags") k σ=k (.ref (A.t+9)) σ:=S.ax (by kernel_rfl) (by kernel_rfl)
theorem Ck.a_rows (S:Ck A σ R q w):zD P0 (.ref (A.t+9)) (nS "rows") k σ=k (.ref (A.t+10)) σ:=yQ (S.at (n:=6) fun _ _ _ _ _=>rfl) (by kernel_rfl) (by kernel_rfl)
theorem Ck.a_file (S:Ck A σ R q w):zD P0 (.ref (A.t+9)) (nS "file") k σ=k (.str (nS "")) σ:=yQ (S.at (n:=6) fun _ _ _ _ _=>rfl) (by kernel_rfl) (by kernel_rfl)
theorem Ck.a_drows (S:Ck A σ R q w):(zD P0 (.ref A.cx) (nS "diags") fun x=>zD P0 x (nS "rows") k) σ=k (.ref (A.t+10)) σ:=S.a_diags.trans S.a_rows
theorem Ck.a_notes (S:Ck A σ R q w):zD P0 (.ref A.cx) (nS "notes") k σ=k (.ref (A.t+11)) σ:=S.ax (by kernel_rfl) (by kernel_rfl)
theorem Ck.a_nrows (S:Ck A σ R q w):zD P0 (.ref (A.t+11)) (nS "rows") k σ=k (.ref (A.t+12)) σ:=yQ (S.at (n:=8) fun _ _ _ _ _=>rfl) (by kernel_rfl) (by kernel_rfl)
theorem Ck.a_decl (S:Ck A σ R q w):(zD P0 (.ref A.cx) (nS "bound") fun x=>zD P0 x (nS "decl") k) σ=k (.ref (A.t+8)) σ:=(S.ax (by kernel_rfl) (by kernel_rfl)).trans (yQ (S.at (n:=4) fun _ _ _ _ _=>rfl) (by kernel_rfl) (by kernel_rfl))
theorem Ck.bx (S:Ck A σ R q w) {x:Str} {i:Nat} (a:zO x (cfF A.t A.tb A.ju q.dp)=none) (h:methK 8 x=some i):zR P0 (.ref A.cx) x kb σ=kb (.fn i (.ref A.cx)) σ:=Yl S.ox a h
theorem Ck.b_expr (S:Ck A σ R q w):zR P0 (.ref A.cx) (nS "expr") kb σ=kb (.fn 38 (.ref A.cx)) σ:=S.bx (by kernel_rfl) (by kernel_rfl)
theorem Ck.b_stmt (S:Ck A σ R q w):zR P0 (.ref A.cx) (nS "stmt") kb σ=kb (.fn 39 (.ref A.cx)) σ:=S.bx (by kernel_rfl) (by kernel_rfl)
theorem Ck.b_fault (S:Ck A σ R q w):zR P0 (.ref A.cx) (nS "fault") kb σ=kb (.fn 40 (.ref A.cx)) σ:=S.bx (by kernel_rfl) (by kernel_rfl)
theorem Ck.b_tell (S:Ck A σ R q w):zR P0 (.ref A.cx) (nS "tell") kb σ=kb (.fn 41 (.ref A.cx)) σ:=S.bx (by kernel_rfl) (by kernel_rfl)
theorem Ck.b_words (S:Ck A σ R q w):zR P0 (.ref A.cx) (nS "words") kb σ=kb (.fn 42 (.ref A.cx)) σ:=S.bx (by kernel_rfl) (by kernel_rfl)
theorem Ck.b_note (S:Ck A σ R q w):zR P0 (.ref A.cx) (nS "note") kb σ=kb (.fn 43 (.ref A.cx)) σ:=S.bx (by kernel_rfl) (by kernel_rfl)
theorem Ck.b_declare (S:Ck A σ R q w):zR P0 (.ref A.cx) (nS "declare") kb σ=kb (.fn 44 (.ref A.cx)) σ:=S.bx (by kernel_rfl) (by kernel_rfl)
theorem Ck.b_mark (S:Ck A σ R q w):zR P0 (.ref A.cx) (nS "mark") kb σ=kb (.fn 45 (.ref A.cx)) σ:=S.bx (by kernel_rfl) (by kernel_rfl)
theorem Ck.b_back (S:Ck A σ R q w):zR P0 (.ref A.cx) (nS "back") kb σ=kb (.fn 46 (.ref A.cx)) σ:=S.bx (by kernel_rfl) (by kernel_rfl)
theorem Ck.b_dput (S:Ck A σ R q w):zR P0 (.ref (A.t+9)) (nS "put") kb σ=kb (.fn 5 (.ref (A.t+9))) σ:=Yl (S.at (n:=6) fun _ _ _ _ _=>rfl) (by kernel_rfl) (by kernel_rfl)
theorem Ck.b_nput (S:Ck A σ R q w):zR P0 (.ref (A.t+11)) (nS "put") kb σ=kb (.fn 7 (.ref (A.t+11))) σ:=Yl (S.at (n:=8) fun _ _ _ _ _=>rfl) (by kernel_rfl) (by kernel_rfl)
end
inductive Tr (A:Ad) (R:List Row) (q:Q) (w:Nat) (σ:zG) (r:Res) (c:C):Prop
 | mk (R':List Row) (σ':zG) (p:R<+:R') (S:Ck A σ' R' q w) (K:Kb A.b0 σ σ') (e:r=c σ')
section
variable {A:Ad} {σ:zG} {R:List Row} {q q':Q} {w w':Nat} {r:Res} {c c':C}
theorem Tr.here (S:Ck A σ R q w):Tr A R q w σ (c σ) c:=⟨R,σ,List.prefix_rfl,S,Kp.rfl,rfl⟩
theorem Tr.bind (h:Tr A R q w σ r c) (g:∀R' σ',R<+:R'→Ck A σ' R' q w→Kb A.b0 σ σ'→Tr A R' q' w' σ' (c σ') c'):Tr A R q' w' σ r c':=
 let ⟨R1,σ1,p1,S1,K1,e1⟩:=h
 let ⟨R2,σ2,p2,S2,K2,e2⟩:=g R1 σ1 p1 S1 K1
 ⟨R2,σ2,p1.trans p2,S2,K1.trans K2,e1.trans e2⟩
theorem Tr.eq {r':Res} (e:r=r') (h:Tr A R q w σ r' c):Tr A R q w σ r c:=e▸h
theorem Tr.set {σ':zG} (h:Ck A σ' R q w∧Kb A.b0 σ σ') (g:Tr A R q' w' σ' r c'):Tr A R q' w' σ r c':=
 let ⟨R2,σ2,p2,S2,K2,e2⟩:=g
 ⟨R2,σ2,p2,S2,h.2.trans K2,e2⟩
theorem Tr.push {o:O} (g:Tr A R q' w' (σ++[o]) r c'):Tr A R q' w' σ r c':=
 let ⟨R2,σ2,p2,S2,K2,e2⟩:=g
 ⟨R2,σ2,p2,S2,(Kb.new Kp.push).trans K2,e2⟩
theorem Tr.le (h:Tr A R q w σ r c) (l:w'≤w):Tr A R q w' σ r c:=
 let ⟨R2,σ2,p2,S2,K2,e2⟩:=h
 ⟨R2,σ2,p2,S2.le l,K2,e2⟩
end
end Wk
end
section
namespace Wk
noncomputable def oe:Option Ex→List Ex
 | none=>[]
 | some e=>[e]
mutual
noncomputable def exS:St→List Ex
 | .sw _ e ts=>e::exT ts
 | .tr _ a _ _ b c=>exB a++(exO b++exO c)
 | .fn _ _ _ _ _=>[]
 | .pl _ _ e=>[e]
 | .od _=>[]
noncomputable def exL:Sts→List Ex
 | .nil=>[]
 | .cons s r=>exS s++exL r
noncomputable def exB:Blk→List Ex
 | .mk _ l=>exL l
noncomputable def exO:jC→List Ex
 | .none=>[]
 | .some b=>exB b
noncomputable def exT:yg→List Ex
 | .nil=>[]
 | .cons p b r=>oe p++(exB b++exT r)
end
noncomputable def dcC (m sid:Int):List (Int×Int):=if m > 0∧sid > 0 then [(m,sid)] else []
noncomputable def isS:jC→Bool
 | .none=>false
 | .some _=>true
noncomputable def dcX (m sid:Int) (b:jC):List (Int×Int):=if isS b=true then dcC m sid else []
mutual
noncomputable def dcS:St→List (Int×Int)
 | .sw _ _ ts=>dcT ts
 | .tr _ a m sid b c=>dcB a++(dcX m sid b++(dcO b++dcO c))
 | .fn _ _ _ _ _=>[]
 | .pl _ _ _=>[]
 | .od _=>[]
noncomputable def dcL:Sts→List (Int×Int)
 | .nil=>[]
 | .cons s r=>dcS s++dcL r
noncomputable def dcB:Blk→List (Int×Int)
 | .mk _ l=>dcL l
noncomputable def dcO:jC→List (Int×Int)
 | .none=>[]
 | .some b=>dcB b
noncomputable def dcT:yg→List (Int×Int)
 | .nil=>[]
 | .cons _ b r=>dcB b++dcT r
end
inductive Nd (L:Nat→O→Prop) (i:Nat) (kind:Int) (a:V) (kids:List V) (fl n m:Int):Prop
 | mk (kl:Nat) (hl:kids.length < 900) (h:L i (.inst 0 (nodeF (.int kind) a (.ref kl) (.int fl) (.int n) (.int m)))) (g:L kl (.list kids))
inductive NE (L:Nat→O→Prop) (e:Ex) (i:Nat):Prop
 | mk (a:V) (kl:Nat) (h:L i (.inst 0 (nodeF (.int (if e.kd.isNone=true then 6 else 8)) a (.ref kl) (.int 0) (.int e.n) (.int e.n))))
noncomputable def Q1 (L:Nat→O→Prop):Option Ex→V→Prop
 | none,v=>v=.none
 | some e,v=>ZI (fun i=>v=.ref i) (fun i=>NE L e i)
noncomputable def J8 (L:Nat→O→Prop) (m:Int) (v:V):Prop:=if m=0 then v=.none else ZI (fun i=>v=.ref i) (fun i=>Nd L i 8 (.str (nS "x")) [] 0 m m)
noncomputable def isX:St→Bool
 | .fn _ _ _ _ e=>e
 | _=>false
noncomputable def Wr (L:Nat→O→Prop) (s:St) (i j:Nat):Prop:=if isX s=true then Nd L i 70 (.str (nS "")) [.ref j] 0 0 0 else i=j
mutual
noncomputable def Zk (L:Nat→O→Prop):St→Nat→Prop
 | .sw n e ts,i=>WP (fun ie cs=>Nd L i 50 (.str (nS "")) (.ref ie::cs) 0 n n) (fun ie _=>NE L e ie) (fun _ cs=>J9 L ts cs)
 | .tr n a m _ b c,i=>X3_4 (fun x1 x2 x3=>Nd L i 57 (.str (nS "")) [.ref x1,x2,x3] 0 n n) (fun x1 _ _=>UA L a x1) (fun _ x2 _=>uO L m b x2) (fun _ _ x3=>uN L c x3)
 | .fn n x b o _,i=>X2_2 (fun x1 x2=>Nd L i 27 (yz x) [.none,x1,.none,x2] (if o=true then 4194320 else 16) n n) (fun _ x2=>isNone x2=decide (b=0))
 | .pl n c e,i=>ZI (fun ie=>Nd L i (if c=true then 56 else 43) (.str (nS "")) [.ref ie] 0 n n) (fun ie=>NE L e ie)
 | .od n,i=>Nd L i 53 (.str (nS "")) [] 0 n n
noncomputable def Zl (L:Nat→O→Prop):Sts→List V→Prop
 | .nil,vs=>vs=[]
 | .cons s r,vs=>X3_4 (fun i _ ws=>vs=.ref i::ws) (fun i j _=>Wr L s i j) (fun _ j _=>Zk L s j) (fun _ _ ws=>Zl L r ws)
noncomputable def UA (L:Nat→O→Prop):Blk→Nat→Prop
 | .mk n l,i=>ZI (fun vs=>Nd L i 59 (.str (nS "")) vs 0 n n) (fun vs=>Zl L l vs)
noncomputable def uN (L:Nat→O→Prop):jC→V→Prop
 | .none,v=>v=.none
 | .some b,v=>ZI (fun i=>v=.ref i) (fun i=>UA L b i)
noncomputable def uO (L:Nat→O→Prop) (m:Int):jC→V→Prop
 | .none,v=>v=.none
 | .some b,v=>X3_4 (fun i _ _=>v=.ref i) (fun i x1 x2=>Nd L i 58 (.str (nS "")) [x1,.ref x2] 0 0 0) (fun _ x1 _=>J8 L m x1) (fun _ _ x2=>UA L b x2)
noncomputable def J9 (L:Nat→O→Prop):yg→List V→Prop
 | .nil,vs=>vs=[]
 | .cons p (.mk _ l) r,vs=>X4_5 (fun i _ _ ws=>vs=.ref i::ws) (fun i x1 kids _=>Nd L i 51 (.str (nS "")) (x1::kids) 0 0 0) (fun _ x1 _ _=>Q1 L p x1) (fun _ _ kids _=>Zl L l kids) (fun _ _ _ ws=>J9 L r ws)
end
section
variable {L L':Nat→O→Prop} (f:∀i o,L i o→L' i o)
include f
theorem Nd.up {i:Nat} {kind:Int} {a:V} {kids:List V} {fl n m:Int} (h:Nd L i kind a kids fl n m):Nd L' i kind a kids fl n m:=let ⟨kl,a,b,c⟩:=h; ⟨kl,a,f _ _ b,f _ _ c⟩
theorem NE.up {e:Ex} {i:Nat} (h:NE L e i):NE L' e i:=let ⟨a,kl,b⟩:=h; ⟨a,kl,f _ _ b⟩
theorem Q1.up:∀ {p:Option Ex} {v:V},Q1 L p v→Q1 L' p v
 | none,_,h=>h
 | some _,_,⟨i,a,b⟩=>⟨i,a,b.up f⟩
theorem J8.up {m:Int} {v:V} (h:J8 L m v):J8 L' m v:=by
 unfold J8 at*
 split
 ·rename_i q; rw [if_pos q] at h; exact h
 ·rename_i q; rw [if_neg q] at h; obtain ⟨i,a,b⟩:=h; exact ⟨i,a,b.up f⟩
theorem Wr.up {s:St} {i j:Nat} (h:Wr L s i j):Wr L' s i j:=by
 unfold Wr at*
 split
 ·rename_i q; rw [if_pos q] at h; exact h.up f
 ·rename_i q; rw [if_neg q] at h; exact h
theorem Node.up:(∀s j,Zk L s j→Zk L' s j)∧(∀l vs,Zl L l vs→Zl L' l vs)∧(∀b j,UA L b j→UA L' b j)∧(∀b,(∀v,uN L b v→uN L' b v)∧∀m v,uO L m b v→uO L' m b v)∧∀t vs,J9 L t vs→J9 L' t vs:=
 tree (fun _ _ _ h _ ⟨ie,cs,a,b,c⟩=>⟨ie,cs,a.up f,b.up f,h _ c⟩) (fun _ _ _ _ _ _ h1 h2 h3 _ ⟨x1,x2,x3,a,b,c,d⟩=>⟨x1,x2,x3,a.up f,h1 _ b,h2.2 _ _ c,h3.1 _ d⟩) (fun _ _ _ _ _ _ ⟨x1,x2,a,b⟩=>⟨x1,x2,a.up f,b⟩) (fun _ _ _ _ ⟨ie,a,b⟩=>⟨ie,a.up f,b.up f⟩) (fun _ _ h=>Nd.up f h)
  (fun _ h=>h) (fun _ _ h1 h2 _ ⟨i,j,ws,e,a,b,c⟩=>⟨i,j,ws,e,a.up f,h1 _ b,h2 _ c⟩) (fun _ _ h _ ⟨vs,a,b⟩=>⟨vs,a.up f,h _ b⟩) ⟨fun _ h=>h,fun _ _ h=>h⟩ (fun _ _ h=>⟨fun v ⟨i,e,a⟩=>⟨i,e,h _ a⟩,fun m v ⟨i,x1,x2,e,a,b,c⟩=>⟨i,x1,x2,e,a.up f,b.up f,h _ c⟩⟩)
  (fun _ h=>h) (fun _ _ _ _ _ h1 h2 _ ⟨i,x1,kids,ws,e,a,b,c,d⟩=>⟨i,x1,kids,ws,e,a.up f,b.up f,h1 _ c,h2 _ d⟩)
end
noncomputable abbrev Lv (b:Nat) (σ:zG):Nat→O→Prop:=fun i o=>b≤i∧σ[i]? =some o
section
variable {b:Nat} {σ σ':zG} {k:K V}
theorem Lv.up (K:Kb b σ σ'):∀i o,Lv b σ i o→Lv b σ' i o:=fun _ _ h=>⟨h.1,K.at h.2 h.1⟩
theorem Lv.low {b':Nat} (h:b≤b'):∀i o,Lv b' σ i o→Lv b σ i o:=fun _ _ q=>⟨Nat.le_trans h q.1,q.2⟩
variable {i:Nat} {kd:Int} {av:V} {ks:List V} {fl n m:Int}
theorem Nd.get (h:Nd (Lv b σ) i kd av ks fl n m) (K:Kb b σ σ'):∃kl,b≤i∧σ'[i]? =some (.inst 0 (nodeF (.int kd) av (.ref kl) (.int fl) (.int n) (.int m)))∧b≤kl∧σ'[kl]? =some (.list ks):=let ⟨kl,_,h,g⟩:=h; ⟨kl,h.1,K.at h.2 h.1,g.1,K.at g.2 g.1⟩
theorem Nd.kind (h:Nd (Lv b σ) i kd av ks fl n m) (K:Kb b σ σ'):zD P0 (.ref i) (nS "kind") k σ'=k (.int kd) σ':=let ⟨_,_,g,_⟩:=h.get K; yQ g (by kernel_rfl) (by kernel_rfl)
theorem Nd.a (h:Nd (Lv b σ) i kd av ks fl n m) (K:Kb b σ σ'):zD P0 (.ref i) (nS "a") k σ'=k av σ':=let ⟨_,_,g,_⟩:=h.get K; yQ g (by kernel_rfl) (by kernel_rfl)
theorem Nd.at (h:Nd (Lv b σ) i kd av ks fl n m) (K:Kb b σ σ'):zD P0 (.ref i) (nS "at") k σ'=k (.int n) σ':=let ⟨_,_,g,_⟩:=h.get K; yQ g (by kernel_rfl) (by kernel_rfl)
theorem Nd.nid (h:Nd (Lv b σ) i kd av ks fl n m) (K:Kb b σ σ'):zD P0 (.ref i) (nS "nid") k σ'=k (.int m) σ':=let ⟨_,_,g,_⟩:=h.get K; yQ g (by kernel_rfl) (by kernel_rfl)
theorem Nd.kids (h:Nd (Lv b σ) i kd av ks fl n m) (K:Kb b σ σ'):∃kl,b≤kl∧σ'[kl]? =some (.list ks)∧∀k,zD P0 (.ref i) (nS "kids") k σ'=k (.ref kl) σ':=let ⟨kl,_,g,r,s⟩:=h.get K; ⟨kl,r,s,fun _=>yQ g (by kernel_rfl) (by kernel_rfl)⟩
theorem Nd.len (h:Nd (Lv b σ) i kd av ks fl n m):ks.length < 900:=let ⟨_,h,_,_⟩:=h; h
theorem Nd.kid {j:Nat} {v:V} (h:Nd (Lv b σ) i kd av ks fl n m) (K:Kb b σ σ') (e:ks[j]? =some v):(zD P0 (.ref i) (nS "kids") fun x=>zC x (.int (j:Int)) k) σ'=k v σ':=
 let ⟨_,_,g,q⟩:=h.kids K
 (q _).trans (YJ g e (Nat.lt_trans h.len (by decide)))
theorem Nd.kid0 {v:V} (h:Nd (Lv b σ) i kd av ks fl n m) (K:Kb b σ σ') (e:ks[0]? =some v):(zD P0 (.ref i) (nS "kids") fun x=>zC x (.int 0) k) σ'=k v σ':=h.kid K e
theorem Nd.kid1 {v:V} (h:Nd (Lv b σ) i kd av ks fl n m) (K:Kb b σ σ') (e:ks[1]? =some v):(zD P0 (.ref i) (nS "kids") fun x=>zC x (.int 1) k) σ'=k v σ':=h.kid K e
theorem Nd.kid2 {v:V} (h:Nd (Lv b σ) i kd av ks fl n m) (K:Kb b σ σ') (e:ks[2]? =some v):(zD P0 (.ref i) (nS "kids") fun x=>zC x (.int 2) k) σ'=k v σ':=h.kid K e
theorem Nd.kid3 {v:V} (h:Nd (Lv b σ) i kd av ks fl n m) (K:Kb b σ σ') (e:ks[3]? =some v):(zD P0 (.ref i) (nS "kids") fun x=>zC x (.int 3) k) σ'=k v σ':=h.kid K e
end
end Wk
end
section
namespace Wk
noncomputable def tyO (R:List Row) (n:Int):Option ExK→List (Int×Int)→Prop
 | none,l=>l=[]
 | some k,l=>ZI (fun t:Nat=>l=[(n,(t:Int))]) fun t=>jl R k.kd t
noncomputable def TyE (R:List Row) (e:Ex) (l:List (Int×Int)):Prop:=tyO R e.n e.kd l
noncomputable def TyF (R:List Row):List Ex→List (Int×Int)→Prop
 | [],l=>l=[]
 | e::es,l=>WP (fun a b=>l=a++b) (fun a _=>TyE R e a) (fun _ b=>TyF R es b)
theorem tyO.mono {R R':List Row} (x:R<+:R') {n:Int}:∀ {o:Option ExK} {l:List (Int×Int)},tyO R n o l→tyO R' n o l
 | none,_,h=>h
 | some _,_,⟨t,a,b⟩=>⟨t,a,b.mono x⟩
theorem TyF.mono {R R':List Row} (x:R<+:R'):∀ {es:List Ex} {l:List (Int×Int)},TyF R es l→TyF R' es l
 | [],_,h=>h
 | _::_,_,⟨a,b,e,h,g⟩=>⟨a,b,e,tyO.mono x h,TyF.mono x g⟩
theorem TyF.app {R:List Row}:∀ {es fs:List Ex} {l m:List (Int×Int)},TyF R es l→TyF R fs m→TyF R (es++fs) (l++m)
 | [],_,_,_,h,g=>by rw [show _=[] from h]; exact g
 | _::_,_,_,_,⟨a,b,e,h,g⟩,q=>⟨a,b++_,by rw [e,List.append_assoc],h,TyF.app g q⟩
theorem tyO.keys {R:List Row} {n:Int}:∀ {o:Option ExK} {l:List (Int×Int)},tyO R n o l→(l.map (·.1)).Sublist [n]
 | none,_,h=>by rw [show _=[] from h]; exact .cons _ .slnil
 | some _,_,⟨t,h,_⟩=>by rw [h]; exact .refl _
theorem TyF.keys {R:List Row}:∀ {es:List Ex} {l:List (Int×Int)},TyF R es l→(l.map (·.1)).Sublist (es.map Ex.n)
 | [],_,h=>by rw [show _=[] from h]; exact .refl _
 | e::_,_,⟨a,b,q,h,g⟩=>by rw [q,List.map_append]; exact (tyO.keys h).append (TyF.keys g)
noncomputable def Fq (l:List (Int×Int)) (ns:List Int):Prop:=(l.map (·.1)++ns).Pairwise (· < ·)
theorem Fq.left {l:List (Int×Int)} {a b:List Int} (h:Fq l (a++b)):Fq l a:=h.sublist ((List.Sublist.refl _).append (List.sublist_append_left _ _))
theorem Fq.step {l m:List (Int×Int)} {a b:List Int} (h:Fq l (a++b)) (s:(m.map (·.1)).Sublist a):Fq (l++m) b:=by
 unfold Fq
 rw [List.map_append,List.append_assoc]
 exact h.sublist ((List.Sublist.refl _).append (s.append (.refl _)))
theorem Fq.new {l:List (Int×Int)} {n:Int} (h:Fq l [n]):∀x∈l,x.1≠n:=fun x hx e=>by
 have:=(List.pairwise_append.mp h).2.2 _ (List.mem_map_of_mem hx) n (.head _)
 exact absurd e (Int.ne_of_lt this)
noncomputable def Q.add (q:Q) (l d:List (Int×Int)):Q:={q with l:=q.l++l,d:=q.d++d}
theorem Q.add0 {q:Q}:q.add [] []=q:=by unfold Q.add; rw [List.append_nil,List.append_nil]
theorem Q.add1 {q:Q} {l:List (Int×Int)}:q.add l []={q with l:=q.l++l}:=by unfold Q.add; rw [List.append_nil]
theorem Q.addA {q:Q} {a b c d:List (Int×Int)}:(q.add a b).add c d=q.add (a++c) (b++d):=by unfold Q.add; rw [List.append_assoc,List.append_assoc]
theorem Ck.addA {A:Ad} {σ:zG} {R:List Row} {q:Q} {w:Nat} {a b c d:List (Int×Int)} (S:Ck A σ R ((q.add a b).add c d) w):Ck A σ R (q.add (a++c) (b++d)) w:=Q.addA▸S
inductive MR {α β:Type} (X:Nat→Prop) (A:Ad) (b:Nat) (R:List Row) (q:Q) (w:Nat) (es:List Ex) (dd:List (Int×Int)) (σ:zG) (P G:zG→α→Prop) (val:α→β) (f:(β→C)→Res):Prop
 | mk (v:α) (ls:List (Int×Int)) (R':List Row) (σ':zG) (p:R<+:R') (t:TyF R' es ls) (S:Ck A σ' R' (q.add ls dd) w) (K:Kp X σ σ') (n:∀τ,Kb b σ' τ→P τ v) (g:G σ' v) (e:∀k,f k=k (val v) σ'):MR X A b R q w es dd σ P G val f
noncomputable abbrev Yes {α:Type}:zG→α→Prop:=fun _ _=>True
noncomputable abbrev lo (A:Ad):Nat→Prop:=fun i=>i < A.b0
structure Rdy (A:Ad) (b:Nat) (σ:zG) (q:Q) (es:List Ex) (dd:List (Int×Int)):Prop where
 hb:A.b0≤b
 hl:b≤σ.length
 ok:∀e∈es,e.Ok
 fl:Fq q.l (es.map Ex.n)
 fd:Fq q.d (dd.map (·.1))
theorem Rdy.left {A:Ad} {b:Nat} {σ:zG} {q:Q} {e1 e2:List Ex} {d1 d2:List (Int×Int)} (Y:Rdy A b σ q (e1++e2) (d1++d2)):Rdy A b σ q e1 d1:=
 ⟨Y.hb,Y.hl,fun e h=>Y.ok e (List.mem_append_left _ h),(List.map_append▸Y.fl:Fq q.l (e1.map Ex.n++e2.map Ex.n)).left,(List.map_append▸Y.fd:Fq q.d (d1.map (·.1)++d2.map (·.1))).left⟩
theorem Rdy.step {A:Ad} {b:Nat} {σ σ':zG} {q:Q} {e1 e2:List Ex} {d1 d2 ls:List (Int×Int)} {R:List Row} (Y:Rdy A b σ q (e1++e2) (d1++d2)) (t:TyF R e1 ls) {b':Nat} (hb:b≤b') (hl:b'≤σ'.length):Rdy A b' σ' (q.add ls d1) e2 d2:=
 ⟨Nat.le_trans Y.hb hb,hl,fun e h=>Y.ok e (List.mem_append_right _ h),(List.map_append▸Y.fl:Fq q.l (e1.map Ex.n++e2.map Ex.n)).step t.keys,(List.map_append▸Y.fd:Fq q.d (d1.map (·.1)++d2.map (·.1))).step (.refl _)⟩
section
variable {A:Ad} {b w N:Nat} {σ σ':zG} {R:List Row} {q:Q}
theorem Kb.lv (K:Kb b σ σ') {i:Nat} {o:O} (h:σ[i]? =some o) (q:b≤i):Lv b σ' i o:=⟨q,K.at h q⟩
theorem JK (hb:b≤σ.length) (kind:Int) (a:V) (vs:List V) (n:Int) (hv:vs.length < 900) (hN:3≤N):WP (fun i σ'=>Kp yR σ σ') (fun i σ'=>∀τ,Kb b σ' τ→Nd (Lv b τ) i kind a vs 0 n n) (fun i σ'=>∀k,(zU (.list vs) fun x=>zA N 74 [.int kind,a,x,.int n] k) σ=k (.ref i) σ'):=by
 obtain ⟨m,rfl⟩:=Nat.exists_eq_add_of_le' hN
 have K1:Kp yR σ (σ++[O.list vs]):=Kp.push
 refine ⟨_,_,K1.trans Kp.push,fun τ K=>⟨σ.length,hv,K.lv zS (Nat.le_trans hb K1.le),K.lv ((Kp.push (X:=yR)).get zS id) hb⟩,fun k=>?_⟩
 rw [ZY,node]
theorem nodeK {kl:Nat} {vs:List V} (g:σ[kl]? =some (.list vs)) (hb:b≤kl) (kind:Int) (a:V) (n:Int) (hv:vs.length < 900) (hN:3≤N):WP (fun i σ'=>Kp yR σ σ') (fun i σ'=>∀τ,Kb b σ' τ→Nd (Lv b τ) i kind a vs 0 n n) (fun i σ'=>∀k,zA N 74 [.int kind,a,.ref kl,.int n] k σ=k (.ref i) σ'):=by
 obtain ⟨m,rfl⟩:=Nat.exists_eq_add_of_le' hN
 exact ⟨_,_,Kp.push,fun τ K=>⟨kl,hv,K.lv zS (Nat.le_trans hb (Nat.le_of_lt (yV g))),K.lv ((Kp.push (X:=yR)).get g id) hb⟩,fun k=>node _ _ _ _ _⟩
theorem valueM (S:Ck A σ R q (w+1000)) {e:Ex} (Y:Rdy A b σ q [e] []) (hN:6≤N):MR (lo A) A b R q w [e] [] σ (fun τ i=>NE (Lv b τ) e i) Yes V.ref (fun k=>zA N 75 [.ref A.cx,encE e] k σ):=by
 obtain ⟨N,rfl,h5⟩:=suc hN
 have rm:=S.rm
 rcases e with ⟨n,_ | kk⟩
 ·obtain ⟨i,σ',K,nd,e1⟩:=JK (N:=N) Y.hl 6 (.str (nS "")) [] n (ltb rfl) (Nat.le_trans (leb rfl) h5)
  exact ⟨i,[],R,σ',List.prefix_rfl,⟨[],[],rfl,rfl,rfl⟩,Q.add0.symm▸(S.le (Nat.le_add_right _ _)).kp K,Kb.new K,fun τ K'=>let ⟨kl,_,h,_⟩:=nd τ K'; ⟨_,kl,h⟩,trivial,fun k=>c75.trans (e1 k)⟩
 ·have hok:=Y.ok _ (.head _) kk rfl
  refine typeKd (w:=0) (S.Tb (leb rfl)) hok h5 fun t R' σ1 p1 hty K1 T1 e1=>?_
  obtain ⟨S1,K1⟩:=S.tabs (w':=w+1) T1 K1 p1 (Nat.le_trans (Nat.add_le_add_right T1.rm _) (by rw [Nat.add_assoc]; exact Nat.add_le_add_left (by rw [Nat.add_comm w,Nat.add_comm w,← Nat.add_assoc]; exact Nat.add_le_add_right (leb rfl) w) _))
  obtain ⟨et,het⟩:=S1.ty
  obtain ⟨S2,K2⟩:=S1.setTy (q.l++[(n,(t:Int))]) et (w':=w) (Nat.le_of_eq (by rw [List.length_append]; exact (Nat.add_assoc ..).trans (congrArg _ (Nat.add_comm ..))))
  have K12:=K1.trans K2
  obtain ⟨i,σ',K,nd,e2⟩:=JK (N:=N) (Nat.le_trans Y.hl K12.le) 8 (.str (nS "e")) [] n (ltb rfl) (Nat.le_trans (leb rfl) h5)
  have ltd:(tyD q.l).length < 1000000:=by
   unfold tyD Q.sz at*
   rw [List.length_map]
   lia
  exact ⟨i,[(n,(t:Int))],R',σ',p1,⟨_,[],rfl,⟨t,rfl,hty⟩,rfl⟩,Q.add1.symm▸S2.kp K,K12.trans (Kb.new K),fun τ K'=>let ⟨kl,_,h,_⟩:=nd τ K'; ⟨_,kl,h⟩,trivial,
   fun k=>c75.trans (S.a_tab.trans ((e1 _).trans (S1.a_types.trans ((XD het YZ ltd).trans ((dPut_new Y.fl.new).symm▸e2 k)))))⟩
end
end Wk
end
section
namespace Wk
noncomputable def jMade (cf:CF) (cx x5 u:V) (k:C):K V:=fun x=>zR P0 x5 (nS "append") fun b=>zU (.list [x]) fun y=>cf 76 [cx,u] fun z=>zD P0 z (nS "kids") fun z=>zT .Add y z fun z=>cf 74 [(.int 51),(.str (nS "")),z,(.int 0)] fun z=>zN cf b [z] fun _=>k
noncomputable def bMade (cf:CF) (cx x5 v:V) (k:C):C:=yZ v fun t u=>pIs t .none fun x=>zE x fun c=>pIf c (jMade cf cx x5 u k .none) (cf 75 [cx,t] fun x=>jMade cf cx x5 u k x)
section
variable (cf:CF) (cx x1:V) (k:K V)
noncomputable def m38 (x36 v:V) (j:C):C:=Ym v .none fun x=>zE x fun c=>pIf c (cf 76 [cx,v] fun x=>zV x36 (.int 2) x j) j
noncomputable def m49 (x36 u:V) (j:C):K V:=fun x50=>cf 76 [cx,u] fun x=>zU (.list [x50,x]) fun x=>cf 74 [.int 58,.str (nS ""),x,.int 0] fun x=>zV x36 (.int 1) x j
noncomputable def m46 (x36 m u:V) (j:C):C:=zE m fun c=>pIf c (zU (.list []) fun x=>cf 74 [.int 8,.str (nS "x"),x,m] fun x=>m49 cf cx x36 u j x) (m49 cf cx x36 u j .none)
noncomputable def m56 (x36 m sid u:V) (j:C):K Bool:=fun c=>pIf c (zD P0 cx (nS "bound") fun x=>zD P0 x (nS "decl") fun x=>zV x m sid (m46 cf cx x36 m u j)) (m46 cf cx x36 m u j)
noncomputable def m44 (x36 m sid u:V) (j:C):C:=Ym u .none fun x=>zE x fun c=>pIf c (pGt m (.int 0) fun x=>zE x fun c=>pIf c (pGt sid (.int 0) fun x=>zE x fun c=>pIf c (m56 cf cx x36 m sid u j true) (m56 cf cx x36 m sid u j false)) (m56 cf cx x36 m sid u j false)) j
noncomputable def mTry (st:V):C:=yA st (.int 2) .none fun x=>YU x fun a m s u v=>cf 76 [cx,a] fun x=>zU (.list [x,.none,.none]) fun x36=>m44 cf cx x36 m s u (m38 cf cx x36 v (cf 74 [.int 57,.str (nS ""),x36,x1] fun x=>k x))
noncomputable def mSw (st:V):C:=zC st (.int 2) fun x7=>cf 75 [cx,x7] fun x6=>zU (.list [x6]) fun x5=>zC st (.int 3) fun x10=>yL x10 (fun v8 k9=>bMade cf cx x5 v8 k9) (cf 74 [(.int 50),(.str (nS "")),x5,x1] fun x26=>k x26)
noncomputable def mFn (st:V):C:=(let j67:K V:=fun x68=>zC st (.int 2) fun x71=>zU (.list []) fun x74=>cf 74 [(.int 71),(.str (nS "")),x74,(.int 0)] fun x73=>zU (.list [.none,x73,.none,x68]) fun x72=>cf 74 [(.int 27),x71,x72,x1] fun x70=>(let j75:K V:=fun x76=>zK P0 x70 (nS "flags") x76 ((let j78:K V:=fun x79=>k x79; zC st (.int 5) fun x82=>zE x82 fun c81=>pIf c81 (zU (.list [x70]) fun x84=>cf 74 [(.int 70),(.str (nS "")),x84,(.int 0)] fun x83=>j78 x83) (j78 x70))); zC st (.int 4) fun x86=>zE x86 fun c85=>pIf c85 (zT .BitOr (.int 16) (.int 4194304) fun x87=>j75 x87) (j75 (.int 16))); zC st (.int 3) fun x89=>zE x89 fun c88=>pIf c88 (zU (.list []) fun x91=>cf 74 [(.int 59),(.str (nS "")),x91,(.int 0)] fun x90=>j67 x90) (j67 .none))
noncomputable def mPl (st:V):C:=(let j96:K V:=fun x97=>zC st (.int 3) fun x101=>cf 75 [cx,x101] fun x100=>zU (.list [x100]) fun x99=>cf 74 [x97,(.str (nS "")),x99,x1] fun x95=>k x95; zC st (.int 2) fun x103=>zE x103 fun c102=>pIf c102 (j96 (.int 56)) (j96 (.int 43)))
end
noncomputable def mAll (cf:CF) (cx st:V) (k:K V):C:=zC st (.int 1) fun x1=>mIf "switch" st (mSw cf cx x1 k st) (mIf "try" st (mTry cf cx x1 k st) (mIf "func" st (mFn cf x1 k st) (mIf "plain" st (mPl cf cx x1 k st) (zU (.list []) fun x=>cf 74 [.int 53,.str (nS ""),x,x1] fun x=>k x))))
theorem Xk {n:Nat} {cx st:V} {k:K V} {σ:zG}:zA (n+1) 77 [cx,st] k σ=mAll (zA n) cx st k σ:=c77
section
variable {A:Ad} {b w N:Nat} {σ σ':zG} {R:List Row} {q:Q}
theorem Ck.setHi (S:Ck A σ R q w) {n:Nat} {l:List V} {o:O} (hn:A.b0≤n) (g:σ[n]? =some (.list l)):Ck A (σ.set n o) R q w:=
 let ⟨is,a,b,c,d,p,D⟩:=S.obj
 have K:Kp (fun i=>i=n) σ (σ.set n o):=Kp.set rfl
 ⟨S.ok,⟨is,a,b,c,d,fun x h=>K.get (p x h) fun e=>Nat.not_le_of_lt (objs_lo S.ok x h) (e▸hn),D.1,fun p hp=>⟨(D.2 p hp).1,K.get (D.2 p hp).2 fun e=>by have:=e▸(D.2 p hp).2; rw [g] at this; cases this⟩⟩,Nat.le_trans S.b0 K.le,S.nd,S.fst,S.rm,S.dok⟩
theorem Ck.small (S:Ck A σ R q w) {n:Nat} (h:2000*n≤w):n < 390:=by
 have:=S.rm
 lia
noncomputable def NodeV (L:Nat→O→Prop) (s:St) (i:Nat):Prop:=ZI (fun j=>Wr L s i j) (fun j=>Zk L s j)
noncomputable def MdS (A:Ad) (s:St):Prop:=∀ {h N w b σ R q},htS s≤h→2*h+6≤N→Ck A σ R q (coS s w)→Rdy A b σ q (exS s) (dcS s)→MR (lo A) A b R q w (exS s) (dcS s) σ (fun τ i=>NodeV (Lv b τ) s i) Yes V.ref fun k=>zA N 77 [.ref A.cx,ZU s] k σ
noncomputable def MdL (A:Ad) (l:Sts):Prop:=∀ {h N w b σ R q acc src all},htL l≤h→2*h+6≤N→(∀σ,same src all σ=true)→Ck A σ R q (coL l w)→Rdy A b σ q (exL l) (dcL l)→MR (lo A) A b R q w (exL l) (dcL l) σ (fun τ vs=>Zl (Lv b τ) l vs) Yes (acc++·) fun kn:List V→C=>yO src all (fun v acc k=>zA N 77 [.ref A.cx,v] fun x=>k (acc++[x])) kn (jL l) acc σ
noncomputable def MdB (A:Ad) (l:Blk):Prop:=∀ {h N w b σ R q},htB l≤h→2*h+7≤N→Ck A σ R q (coB l w)→Rdy A b σ q (exB l) (dcB l)→MR (lo A) A b R q w (exB l) (dcB l) σ (fun τ i=>UA (Lv b τ) l i) Yes V.ref fun k=>zA N 76 [.ref A.cx,Yg l] k σ
noncomputable def MdT (A:Ad) (ts:yg):Prop:=∀ {h N w kl σ R q pre src all},htT ts≤h→2*h+7≤N→(∀σ,same src all σ=true)→Ck A σ R q (coT ts w)→Rdy A (kl+1) σ q (exT ts) (dcT ts)→A.b0≤kl→σ[kl]? =some (.list pre)→pre.length+(YM ts).length < 900→MR (fun i=>lo A i∨i=kl) A (kl+1) R q w (exT ts) (dcT ts) σ (fun τ vs=>J9 (Lv (kl+1) τ) ts vs) (fun σ vs=>σ[kl]? =some (.list (pre++vs))) (fun _=>()) fun kn:Unit→C=>yO src all (fun v _ k=>bMade (zA N) (.ref A.cx) (.ref kl) v (k ())) kn (YM ts) () σ
theorem Zl.len {L:Nat→O→Prop}:∀l {vs:List V},Zl L l vs→vs.length=(jL l).length
 | .nil,_,h=>by rw [show _=[] from h]; rfl
 | .cons _ r,_,⟨_,_,_,e,_,_,h⟩=>by rw [e]; exact congrArg (·+1) (Zl.len r h)
theorem J9.len {L:Nat→O→Prop}:∀l {vs:List V},J9 L l vs→vs.length=(YM l).length
 | .nil,_,h=>by rw [show _=[] from h]; rfl
 | .cons _ (.mk _ _) r,_,⟨_,_,_,_,e,_,_,_,h⟩=>by rw [e]; exact congrArg (·+1) (J9.len r h)
theorem fuel0 {h N c:Nat} (hN:2*h+(c+1)≤N):∃M,N=M+1∧2*h+c≤M:=suc hN
theorem md_nil:MdL A .nil:=fun _ _ _ S Y=>⟨[],[],_,_,List.prefix_rfl,rfl,Q.add0.symm▸S,Kp.rfl,fun _ _=>rfl,trivial,fun k=>by rw [List.append_nil]; rfl⟩
theorem md_cons (s:St) (r:Sts) (h1:MdS A s) (h2:MdL A r):MdL A (.cons s r):=fun {h N w b σ R q acc src all} hh hN hs S Y=>by
 obtain ⟨i,la,R1,σ1,p1,t1,S1,K1,n1,-,e1⟩:=h1 (Nat.le_trans (Nat.le_max_left _ _) hh) hN (S.le (Nat.le_add_right _ _)) Y.left
 obtain ⟨vs,lb,R2,σ2,p2,t2,S2,K2,n2,-,e2⟩:=h2 (acc:=acc++[.ref i]) (Nat.le_trans (Nat.le_max_right _ _) hh) hN hs S1 (Y.step t1 (Nat.le_refl _) (Nat.le_trans Y.hl K1.le))
 refine ⟨.ref i::vs,la++lb,R2,σ2,p1.trans p2,(t1.mono p2).app t2,Q.addA▸S2,K1.trans K2,fun τ K=>?_,trivial,fun kn=>?_⟩
 ·obtain ⟨j,a,c⟩:=n1 τ ((Kb.wide K2 Y.hb).trans K)
  exact ⟨i,j,vs,rfl,a,c,n2 τ K⟩
 ·refine (e1 _).trans ?_
  show (match same src all σ1 with | true=>_ | false=>_)=_
  rw [hs]
  refine (e2 kn).trans ?_
  rw [List.append_assoc]; rfl
theorem md_mk (n:Int) (l:Sts) (h1:MdL A l):MdB A (.mk n l):=fun {h N w b σ R q} hh hN S Y=>by
 obtain ⟨M,rfl,hM⟩:=fuel0 hN
 obtain ⟨vs,la,R1,σ1,p1,t1,S1,K1,n1,-,e1⟩:=h1 (N:=M) (acc:=[]) (src:=.tup (jL l)) (all:=(jL l,0)) hh hM (fun _=>Ug) S Y
 have hl:(jL l).length < 390:=S.small (Nat.le_trans (Nat.le_add_right _ _) (co_le.2.1 l w))
 have lv:vs.length < 390:=(Zl.len l (n1 σ1 Kp.rfl)).symm▸hl
 obtain ⟨i,σ2,K2,n2,e2⟩:=JK (N:=M) (Nat.le_trans Y.hl K1.le) 59 (.str (nS "")) vs n (Nat.lt_trans lv (ltb rfl)) (ZM 3 hM (ltb rfl))
 exact ⟨i,la,R1,σ2,p1,t1,S1.kp K2,K1.trans (K2.mono fun _ h=>h.elim),fun τ K=>⟨vs,n2 τ K,n1 τ ((Kb.new K2).trans K)⟩,trivial,fun k=>c76.trans ((XC (ltb rfl)).trans ((Za (yF (Nat.lt_trans hl (ltb rfl)))).trans ((e1 _).trans ((if_pos (Nat.lt_trans lv (ltb rfl))).trans (e2 k)))))⟩
theorem md_tn:MdT A .nil:=fun _ _ _ S Y _ g _=>⟨[],[],_,_,List.prefix_rfl,rfl,Q.add0.symm▸S,Kp.rfl,fun _ _=>rfl,by rw [List.append_nil]; exact g,fun _=>rfl⟩
noncomputable def MdO (A:Ad) (o:jC):Prop:=∀ {h N w kl σ R q x1 x2},htO o≤h→2*h+7≤N→Ck A σ R q (coO o w)→Rdy A (kl+1) σ q (exO o) (dcO o)→A.b0≤kl→σ[kl]? =some (.list [x1,x2,.none])→MR (fun i=>lo A i∨i=kl) A (kl+1) R q w (exO o) (dcO o) σ (fun τ v=>uN (Lv (kl+1) τ) o v) (fun σ v=>σ[kl]? =some (.list [x1,x2,v])) (fun _=>()) fun kn:Unit→C=>m38 (zA N) (.ref A.cx) (.ref kl) (JT o) (kn ()) σ
noncomputable def MdC (A:Ad) (o:jC):Prop:=∀ {h N w kl σ R q x1 m sid},htO o≤h→2*h+7≤N→Ck A σ R q (coO o w+1000)→Rdy A (kl+1) σ q (exO o) (dcX m sid o++dcO o)→A.b0≤kl→σ[kl]? =some (.list [x1,.none,.none])→MR (fun i=>lo A i∨i=kl) A (kl+1) R q w (exO o) (dcX m sid o++dcO o) σ (fun τ v=>uO (Lv (kl+1) τ) m o v) (fun σ v=>σ[kl]? =some (.list [x1,v,.none])) (fun _=>()) fun kn:Unit→C=>m44 (zA N) (.ref A.cx) (.ref kl) (.int m) (.int sid) (JT o) (kn ()) σ
theorem md_no:MdO A .none∧MdC A .none:=⟨fun _ _ S Y _ g=>⟨.none,[],_,_,List.prefix_rfl,rfl,Q.add0.symm▸S,Kp.rfl,fun _ _=>rfl,g,fun _=>rfl⟩,fun _ _ S Y _ g=>⟨.none,[],_,_,List.prefix_rfl,rfl,Q.add0.symm▸S.le (Nat.le_add_right _ _),Kp.rfl,fun _ _=>rfl,g,fun _=>rfl⟩⟩
theorem declM (S:Ck A σ R q (w+1000)) {m sid:Int} (hf:Fq q.d ((dcC m sid).map (·.1))) {n:Int} {l:Sts} {kl:V}:X1_3 (fun σ'=>Ck A σ' R (q.add [] (dcC m sid)) w) (fun σ'=>Kb A.b0 σ σ') (fun σ'=>∀j,m44 (zA N) (.ref A.cx) kl (.int m) (.int sid) (Yg (.mk n l)) j σ=m46 (zA N) (.ref A.cx) kl (.int m) (Yg (.mk n l)) j σ'):=by
 by_cases h1:m > 0∧sid > 0
 ·have hd:dcC m sid=[(m,sid)]:=if_pos h1
  rw [hd] at hf ⊢
  obtain ⟨e,he⟩:=S.dc
  obtain ⟨S1,K1⟩:=S.setDc (q.d++[(m,sid)]) e (w':=w) (by rw [List.length_append,Nat.add_assoc]; exact Nat.add_le_add_left (Nat.add_comm 1 w▸Nat.add_le_add_left (ltb rfl) w) _)
  have ltd:(tyD q.d).length < 1000000:=by
   have rm:=S.rm
   unfold tyD Q.sz at*
   rw [List.length_map]
   lia
  refine ⟨_,by unfold Q.add; rw [List.append_nil]; exact S1,K1,fun j=>?_⟩
  exact (Xb h1.1).trans ((Xb h1.2).trans (S.a_decl.trans ((XD he YZ ltd).trans (dPut_new (t:=sid) hf.new▸rfl))))
 ·have hd:dcC m sid=[]:=if_neg h1
  refine ⟨σ,by rw [hd,Q.add0]; exact S.le (Nat.le_add_right _ _),Kp.rfl,fun j=>?_⟩
  by_cases h:m > 0
  ·exact (Xb h).trans (Wj fun q=>h1 ⟨h,q⟩)
  ·exact Wj h
theorem nameN (hb:b≤σ.length) (m:Int) (hN:3≤N) {cx u kl:V}:WP (fun σ' _=>Kp yR σ σ') (fun σ' x50=>∀τ,Kb b σ' τ→J8 (Lv b τ) m x50) (fun σ' x50=>∀j,m46 (zA N) cx kl (.int m) u j σ=m49 (zA N) cx kl u j x50 σ'):=by
 by_cases h0:m=0
 ·exact ⟨σ,.none,Kp.rfl,fun _ _=>by unfold J8; rw [if_pos h0],fun j=>by rw [h0]; rfl⟩
 ·obtain ⟨i,σ',K,n,e⟩:=JK (σ:=σ) (b:=b) (N:=N) hb 8 (.str (nS "x")) [] m (ltb rfl) hN
  refine ⟨σ',.ref i,K,fun τ q=>by unfold J8; rw [if_neg h0]; exact ⟨i,rfl,n τ q⟩,fun j=>?_⟩
  unfold m46
  rw [s_ti,show (m !=0)=true from bne_iff_ne.mpr h0]
  exact e _
theorem md_so (n:Int) (l:Sts) (h1:MdB A (.mk n l)):MdO A (.some (.mk n l))∧MdC A (.some (.mk n l)):=by
 refine ⟨fun {h N w kl σ R q x1 x2} hh hN S Y hk g=>?_,fun {h N w kl σ R q x1 m sid} hh hN S Y hk g=>?_⟩
 ·obtain ⟨i,la,R1,σ1,p1,t1,S1,K1,n1,-,e1⟩:=h1 (N:=N) hh hN S Y
  have g1:=K1.get g (Nat.not_lt_of_le hk)
  exact ⟨.ref i,la,R1,_,p1,t1,S1.setHi hk g1,(K1.mono fun _ h=>.inl h).trans (Kp.set (.inr rfl)),fun τ K=>⟨i,rfl,n1 τ ((Kp.set (X:=fun i=>i < kl+1) (Nat.lt_succ_self kl)).trans K)⟩,yE g1,fun kn=>(e1 _).trans (s_set2 g1 (ltb rfl))⟩
 ·obtain ⟨σ1,S1,K1,e1⟩:=declM (N:=N) (n:=n) (l:=l) (kl:=.ref kl) S (Y.left (e1:=[])).fd
  have Y1:=Y.step (e1:=[]) (σ':=σ1) (ls:=[]) (R:=R) rfl (Nat.le_refl _) (Nat.le_trans Y.hl K1.le)
  obtain ⟨σ2,x,K2,n2,e2⟩:=nameN (b:=kl+1) (N:=N) (cx:=.ref A.cx) (u:=Yg (.mk n l)) (kl:=.ref kl) Y1.hl m (ZM 3 hN (ltb rfl))
  obtain ⟨i,la,R3,σ3,p3,t3,S3,K3,n3,-,e3⟩:=h1 (N:=N) hh hN (S1.kp K2) ⟨Y1.hb,Nat.le_trans Y1.hl K2.le,Y1.ok,Y1.fl,Y1.fd⟩
  have K13:=(K1.trans (K2.mono fun _ h=>h.elim)).trans K3
  obtain ⟨i4,σ4,K4,n4,e4⟩:=JK (σ:=σ3) (b:=kl+1) (N:=N) (Nat.le_trans Y.hl K13.le) 58 (.str (nS "")) [x,.ref i] 0 (ltb rfl) (ZM 3 hN (ltb rfl))
  have g4:=K4.get (K13.get g (Nat.not_lt_of_le hk)) id
  have K5:Kb (kl+1) σ4 (σ4.set kl (.list [x1,.ref i4,.none])):=Kp.set (Nat.lt_succ_self kl)
  have K3':=Kb.wide K3 Y.hb
  exact ⟨.ref i4,la,R3,_,p3,t3,(Q.addA▸S3.kp K4).setHi hk g4,((K13.trans (K4.mono fun _ h=>h.elim)).mono fun _ h=>.inl h).trans (Kp.set (.inr rfl)),fun τ K=>⟨i4,x,i,rfl,n4 τ (K5.trans K),n2 τ (K3'.trans ((Kb.new K4).trans (K5.trans K))),n3 τ ((Kb.new K4).trans (K5.trans K))⟩,yE g4,fun kn=>(e1 _).trans ((e2 _).trans ((e3 _).trans ((e4 _).trans (s_set1 g4 (ltb rfl)))))⟩
theorem abs {P:Prop} (h:∀G:Prop,(P→G)→G):P:=h P id
theorem Nd.inj {i:Nat} {kd kd':Int} {a a':V} {vs vs':List V} {f n m f' n' m':Int} (h:Nd (Lv b σ) i kd a vs f n m) (h':Nd (Lv b σ) i kd' a' vs' f' n' m'):vs=vs':=by
 obtain ⟨kl,-,h,g⟩:=h
 obtain ⟨kl',-,h',g'⟩:=h'
 injection Option.some.inj (h.2.symm.trans h'.2) with _ e
 injection congrArg (fun l:List (Str×V)=>((l[2]?.map (·.2)).getD .none)) e with e
 exact O.list.inj (Option.some.inj (g.2.symm.trans (e▸g'.2)))
theorem testM:∀ {p:Option Ex},Ck A σ R q (w+1000)→Rdy A b σ q (oe p) []→6≤N→MR (lo A) A b R q w (oe p) [] σ (fun τ v=>Q1 (Lv b τ) p v) Yes id fun j:K V=>(pIs (Qj p) .none fun x=>zE x fun c=>pIf c (j .none) (zA N 75 [.ref A.cx,Qj p] fun x=>j x)) σ
 | none,S,_,_=>⟨.none,[],_,_,List.prefix_rfl,rfl,Q.add0.symm▸S.le (Nat.le_add_right _ _),Kp.rfl,fun _ _=>rfl,trivial,fun _=>rfl⟩
 | some e,S,Y,hN=>let ⟨i,la,R1,σ1,p1,t1,S1,K1,n1,_,e1⟩:=valueM (N:=N) S Y hN; ⟨.ref i,la,R1,σ1,p1,t1,S1,K1,fun τ K=>⟨i,rfl,n1 τ K⟩,trivial,fun j=>e1 _⟩
theorem md_tc (p:Option Ex) (bn:Int) (bl:Sts) (r:yg) (h1:MdB A (.mk bn bl)) (h2:MdT A r):MdT A (.cons p (.mk bn bl) r):=fun {h N w kl σ R q pre src all} hh hN hs S Y hk g hl=>abs fun G out=>by
 obtain ⟨x1,la,R1,σ1,p1,t1,S1,K1,n1,-,e1⟩:=testM (N:=N) (S.le (Nat.add_le_add_left (by decide:1000≤4000) _)) (Y.left (d1:=[])) (ZM 6 hN (ltb rfl))
 have g1:=K1.get g (Nat.not_lt_of_le hk)
 have K2:Kp yR σ1 (σ1++[O.list [x1]]):=Kp.push
 have K12:=K1.trans (K2.mono fun _ h=>h.elim)
 have Y2:=Y.step (d1:=[]) (σ':=σ1++[O.list [x1]]) t1 (Nat.le_refl _) (Nat.le_trans Y.hl K12.le)
 obtain ⟨ib,lb,R3,σ3,p3,t3,S3,K3,n3,-,e3⟩:=h1 (N:=N) (Nat.le_trans (Nat.le_max_left _ _) hh) hN (S1.kp K2) Y2.left
 obtain ⟨vs,nd,nl⟩:=n3 σ3 Kp.rfl
 have hv:vs.length < 390:=(Zl.len bl nl).symm▸S.small (Nat.le_trans (Nat.le_trans (Nat.le_add_right _ _) (co_le.2.1 bl (coT r w))) (Nat.le_add_right _ _))
 obtain ⟨klb,hkb,gb,eb⟩:=nd.kids Kp.rfl
 have b1:A.b0≤σ1.length:=S1.b0
 have ga:=K3.get (zS (σ:=σ1) (o:=.list [x1])) (Nat.not_lt_of_le b1)
 have K4:Kp yR σ3 (σ3++[O.list ([x1]++vs)]):=Kp.push
 have K13:=K12.trans K3
 obtain ⟨i,σ5,K5,n5,e5⟩:=nodeK (σ:=σ3++[O.list ([x1]++vs)]) (b:=kl+1) (N:=N) zS (Nat.le_trans Y.hl K13.le) 51 (.str (nS "")) 0 (Nat.lt_trans (Nat.succ_lt_succ hv) (ltb rfl)) (ZM 3 hN (ltb rfl))
 have K45:=K4.trans K5
 have g5:=K45.get (K3.get (K2.get g1 id) (Nat.not_lt_of_le hk)) id
 have K6:Kp (fun i=>i=kl) σ5 (σ5.set kl (.list (pre++[.ref i]))):=Kp.set rfl
 have S6:=(S3.kp K45).setHi (o:=.list (pre++[.ref i])) hk g5
 have hlr:(pre++[V.ref i]).length+(YM r).length < 900:=by
  rw [List.length_append,Nat.add_assoc]
  show pre.length+(1+(YM r).length) < 900
  rw [Nat.add_comm 1]
  exact hl
 obtain ⟨ws,lc,R7,σ7,p7,t7,S7,K7,n7,g7,e7⟩:=h2 (N:=N) (src:=src) (all:=all) (Nat.le_trans (Nat.le_max_right _ _) hh) hN hs S6 (Y2.step t3 (Nat.le_refl _) (Nat.le_trans Y.hl (Nat.le_trans K13.le (Nat.le_trans K45.le K6.le)))) hk (yE g5) hlr
 have K7':Kb (kl+1) _ σ7:=K7.mono fun j h=>h.elim (fun h=>Nat.lt_succ_of_lt (Nat.lt_of_lt_of_le h hk)) fun h=>h▸Nat.lt_succ_self _
 have K67:Kb (kl+1) σ5 σ7:=(K6.mono fun j h=>h▸Nat.lt_succ_self _).trans K7'
 have K37:=(Kb.new K45).trans K67
 have hb1:A.b0≤kl+1:=Y.hb
 refine out ⟨.ref i::ws,la++(lb++lc),R7,σ7,p1.trans (p3.trans p7),(t1.mono (p3.trans p7)).app ((t3.mono p7).app t7),?_,?_,fun τ K=>⟨i,x1,vs,ws,rfl,n5 τ (K67.trans K),n1 τ ((Kb.wide ((K2.mono fun _ h=>h.elim).trans K3) hb1).trans (K37.trans K)),?_,n7 τ K⟩,?_,fun kn=>?_⟩
 ·exact S7.addA.addA
 ·exact ((K13.trans (K45.mono fun _ h=>h.elim)).mono fun _ h=>.inl h).trans ((K6.mono fun _ h=>.inr h).trans K7)
 ·obtain ⟨vs',nd',nl'⟩:=n3 τ (K37.trans K)
  rw [(nd.up (Lv.up (K37.trans K))).inj nd']
  exact nl'
 ·rw [g7,List.append_assoc]; rfl
 ·show bMade (zA N) (.ref A.cx) (.ref kl) (.tup [Qj p,Yg (.mk bn bl)]) _ σ=_
  refine Eq.trans (e1 (jMade _ _ _ _ _)) ((yd g1).trans ((e3 _).trans ((eb _).trans ((WS ga gb (Nat.lt_trans (Nat.add_lt_add_left nd.len 1) (ltb rfl))).trans ((e5 _).trans ((yK g5 (Nat.lt_trans (Nat.lt_of_le_of_lt (Nat.le_add_right _ _) hl) (ltb rfl))).trans ?_))))))
  show (match same src all _ with | true=>_ | false=>_)=_
  rw [hs]
  exact e7 kn
theorem YH {x y:C} {σ:zG}:zE (.bool false) (fun c=>pIf c x y) σ=y σ:=rfl
theorem ZP {x y:C} {σ:zG}:zE (.bool true) (fun c=>pIf c x y) σ=x σ:=rfl
theorem wr0 {L:Nat→O→Prop} {s:St} {i:Nat} (h:isX s=false):Wr L s i i:=by unfold Wr; rw [h]; rfl
theorem md_sw (n:Int) (e:Ex) (ts:yg) (h1:MdT A ts):MdS A (.sw n e ts):=fun {h N w b σ R q} hh hN S Y=>abs fun G out=>by
 rcases h with _ | h
 ·exact absurd hh (Nat.not_succ_le_zero _)
 obtain ⟨M,rfl,hM⟩:=wF hN
 obtain ⟨ie,la,R1,σ1,p1,t1,S1,K1,n1,-,e1⟩:=valueM (N:=M) S (Y.left (e1:=[e]) (d1:=[])) (ZM 6 hM (ltb rfl))
 have K2:Kp (lo A) σ1 (σ1++[O.list [V.ref ie]]):=Kp.push
 have hl:(YM ts).length < 390:=S1.small (Nat.le_trans (Nat.le_add_right _ _) (co_le.2.2.2.2 ts w))
 obtain ⟨cs,lb,R3,σ3,p3,t3,S3,K3,n3,g3,e3⟩:=h1 (N:=M) (kl:=σ1.length) (pre:=[.ref ie]) (src:=.tup (YM ts)) (all:=(YM ts,0)) (Nat.le_of_succ_le_succ hh) hM (fun _=>Ug) (S1.kp Kp.push) (Y.step (e1:=[e]) (d1:=[]) t1 (Nat.le_succ_of_le (Nat.le_trans Y.hl K1.le)) (by rw [List.length_append]; exact Nat.le_refl _)) S1.b0 zS (Nat.lt_trans (Nat.add_lt_add_left hl 1) (ltb rfl))
 have lv:=J9.len ts (n3 σ3 Kp.rfl)
 have hb:=Nat.le_trans Y.hl K1.le
 obtain ⟨i,σ4,K4,n4,e4⟩:=nodeK (N:=M) g3 hb 50 (.str (nS "")) n (Nat.lt_trans (Nat.succ_lt_succ (lv.symm▸hl)) (ltb rfl)) (ZM 3 hM (ltb rfl))
 have K14:=(K2.two K3 (Nat.le_refl _)).trans (K4.mono fun _ h=>h.elim)
 exact out ⟨i,la++lb,R3,σ4,p1.trans p3,(t1.mono p3).app t3,(S3.kp K4).addA,K1.trans K14,fun τ K=>⟨i,wr0 rfl,ie,cs,n4 τ K,n1 τ ((Kb.wide K14 Y.hb).trans K),(Node.up (Lv.low (Nat.le_succ_of_le hb))).2.2.2.2 _ _ (n3 τ ((Kb.new K4).trans (Kb.wide K (Nat.le_succ_of_le hb))))⟩,trivial,
  fun k=>Xk.trans ((XC (ltb rfl)).trans ((Wl t_11 (ltb rfl)).trans ((e1 _).trans ((jP (yF (Nat.lt_trans hl (ltb rfl)))).trans ((e3 _).trans (e4 k))))))⟩
theorem md_tr (n:Int) (a:Blk) (m sid:Int) (o1 o2:jC) (h1:MdB A a) (h2:MdC A o1) (h3:MdO A o2):MdS A (.tr n a m sid o1 o2):=fun {h N w b σ R q} hh hN S Y=>abs fun G out=>by
 rcases h with _ | h
 ·exact absurd hh (Nat.not_succ_le_zero _)
 obtain ⟨M,rfl,hM⟩:=wF hN
 have hh:max (htB a) (max (htO o1) (htO o2))≤h:=Nat.le_of_succ_le_succ hh
 obtain ⟨x1,la,R1,σ1,p1,t1,S1,K1,n1,-,e1⟩:=h1 (N:=M) (Nat.le_trans (Nat.le_max_left _ _) hh) hM S Y.left
 have K2:Kp (lo A) σ1 (σ1++[O.list [V.ref x1,.none,.none]]):=Kp.push
 have hb:=Nat.le_trans Y.hl K1.le
 have Y2:Rdy A (σ1.length+1) (σ1++[O.list [V.ref x1,.none,.none]]) (q.add la (dcB a)) (exO o1++exO o2) ((dcX m sid o1++dcO o1)++dcO o2):=by
  rw [List.append_assoc]
  exact Y.step t1 (Nat.le_succ_of_le hb) (by rw [List.length_append]; exact Nat.le_refl _)
 obtain ⟨x2,lb,R3,σ3,p3,t3,S3,K3,n3,g3,e3⟩:=h2 (N:=M) (Nat.le_trans (Nat.le_trans (Nat.le_max_left _ _) (Nat.le_max_right _ _)) hh) hM (S1.kp Kp.push) Y2.left S1.b0 zS
 obtain ⟨x3,lc,R4,σ4,p4,t4,S4,K4,n4,g4,e4⟩:=h3 (N:=M) (Nat.le_trans (Nat.le_trans (Nat.le_max_right _ _) (Nat.le_max_right _ _)) hh) hM S3 (Y2.step t3 (Nat.le_refl _) (Nat.le_trans Y2.hl K3.le)) S1.b0 g3
 obtain ⟨i,σ5,K5,n5,e5⟩:=nodeK (N:=M) g4 hb 57 (.str (nS "")) n (ltb rfl) (ZM 3 hM (ltb rfl))
 have up:∀ {τ τ':zG},Kp (fun i=>lo A i∨i=σ1.length) τ τ'→Kb (σ1.length+1) τ τ':=fun K=>K.mono fun i h=>h.elim (fun h=>Nat.lt_succ_of_lt (Nat.lt_of_lt_of_le h S1.b0)) fun h=>h▸Nat.lt_succ_self _
 have K15:=(K2.two (K3.trans K4) (Nat.le_refl _)).trans (K5.mono fun _ h=>h.elim)
 have w1:∀ {τ:zG},Kb b σ5 τ→Kb (σ1.length+1) σ4 τ:=fun K=>(Kb.new K5).trans (Kb.wide K (Nat.le_succ_of_le hb))
 have dn:=Node.up (Lv.low (σ:=σ5) (Nat.le_succ_of_le hb))
 refine out ⟨i,la++(lb++lc),R4,σ5,p1.trans (p3.trans p4),(t1.mono (p3.trans p4)).app ((t3.mono p4).app t4),?_,K1.trans K15,fun τ K=>⟨i,wr0 rfl,x1,x2,x3,n5 τ K,n1 τ ((Kb.wide K15 Y.hb).trans K),((Node.up (Lv.low (Nat.le_succ_of_le hb))).2.2.2.1 _).2 _ _ (n3 τ ((up K4).trans (w1 K))),((Node.up (Lv.low (Nat.le_succ_of_le hb))).2.2.2.1 _).1 _ (n4 τ (w1 K))⟩,trivial,fun k=>?_⟩
 ·have:=(S4.kp K5).addA.addA
  rw [List.append_assoc] at this
  exact this
 ·refine Xk.trans ((XC (ltb rfl)).trans ((yp t_21 (ltb rfl)).trans ((Wl t_22 (ltb rfl)).trans ?_)))
  show mTry (zA M) (.ref A.cx) (.int n) k (.tup [.str (nS "try"),.int n,Yg a,.int m,.int sid,JT o1,JT o2]) σ=_
  rw [mTry,s_drop2,s_unp5]
  refine (e1 _).trans ?_
  refine ZY.trans ?_
  exact (e3 fun _=>_).trans ((e4 fun _=>_).trans (e5 k))
theorem md_pl (n:Int) (c:Bool) (e:Ex):MdS A (.pl n c e):=fun {h N w b σ R q} hh hN S Y=>abs fun G out=>by
 rcases h with _ | h
 ·exact absurd hh (Nat.not_succ_le_zero _)
 obtain ⟨M,rfl,hM⟩:=wF hN
 obtain ⟨ie,la,R1,σ1,p1,t1,S1,K1,n1,-,e1⟩:=valueM (N:=M) S Y (ZM 6 hM (ltb rfl))
 obtain ⟨i,σ2,K2,n2,e2⟩:=JK (N:=M) (Nat.le_trans Y.hl K1.le) (if c=true then 56 else 43) (.str (nS "")) [.ref ie] n (ltb rfl) (ZM 3 hM (ltb rfl))
 refine out ⟨i,la,R1,σ2,p1,t1,S1.kp K2,K1.trans (K2.mono fun _ h=>h.elim),fun τ K=>⟨i,wr0 rfl,ie,n2 τ K,n1 τ ((Kb.new K2).trans K)⟩,trivial,fun k=>?_⟩
 refine Xk.trans ((XC (ltb rfl)).trans ((yp t_41 (ltb rfl)).trans ((yp t_42 (ltb rfl)).trans ((yp t_43 (ltb rfl)).trans ((Wl t_44 (ltb rfl)).trans ?_)))))
 rcases c with _ | _
 ·exact (e1 _).trans (e2 k)
 ·exact (e1 _).trans (e2 k)
theorem md_od (n:Int):MdS A (.od n):=fun {h N w b σ R q} hh hN S Y=>abs fun G out=>by
 rcases h with _ | h
 ·exact absurd hh (Nat.not_succ_le_zero _)
 obtain ⟨M,rfl,hM⟩:=wF hN
 obtain ⟨i,σ2,K2,n2,e2⟩:=JK (N:=M) Y.hl 53 (.str (nS "")) [] n (ltb rfl) (ZM 3 hM (ltb rfl))
 refine out ⟨i,[],R,σ2,List.prefix_rfl,rfl,Q.add0.symm▸(S.le (Nat.le_add_right _ _)).kp K2,K2.mono fun _ h=>h.elim,fun τ K=>⟨i,wr0 rfl,n2 τ K⟩,trivial,fun k=>?_⟩
 exact Xk.trans ((XC (ltb rfl)).trans ((yp t_51 (ltb rfl)).trans ((yp t_52 (ltb rfl)).trans ((yp t_53 (ltb rfl)).trans ((yp t_54 (ltb rfl)).trans (e2 k))))))
theorem setF {i:Nat} {kind:Int} {a:V} {vs:List V} {n:Int} (hb:b≤σ.length) (hn:∀τ,Kb σ.length σ' τ→Nd (Lv σ.length τ) i kind a vs 0 n n) (K:Kp yR σ σ') (f:Int):X1_3 (fun σ2=>Kp yR σ σ2) (fun σ2=>∀τ,Kb b σ2 τ→Nd (Lv b τ) i kind a vs f n n) (fun σ2=>∀c:C,zK P0 (.ref i) (nS "flags") (.int f) c σ'=c σ2):=by
 obtain ⟨kl,hl,h,g⟩:=hn σ' Kp.rfl
 have hne:i≠kl:=fun e=>by
  have:=h.2.symm.trans ((congrArg (fun i:Nat=>σ'[i]?) e).trans g.2)
  cases this
 exact ⟨_,K.snew h.1,fun τ q=>⟨kl,hl,Kb.lv q (yE h.2) (Nat.le_trans hb h.1),Kb.lv q ((List.getElem?_set_ne hne).trans g.2) (Nat.le_trans hb g.1)⟩,fun c=>WR h.2 (by kernel_rfl) (ltb rfl)⟩
theorem bodyM (bd:Nat) (hN:3≤N):WP (fun σ' _=>Kp yR σ σ') (fun _ v=>isNone v=decide (bd=0)) (fun σ' v=>∀j:K V,(zE (.int bd) fun c=>pIf c (zU (.list []) fun x=>zA N 74 [.int 59,.str (nS ""),x,.int 0] fun x=>j x) (j .none)) σ=j v σ'):=by
 rcases bd with _ | bd
 ·exact ⟨σ,.none,Kp.rfl,rfl,fun _=>rfl⟩
 ·obtain ⟨i,σ',K,-,e⟩:=JK (σ:=σ) (N:=N) (Nat.zero_le _) 59 (.str (nS "")) [] 0 (ltb rfl) hN
  exact ⟨σ',.ref i,K,rfl,fun j=>s_ti.trans (e _)⟩
theorem wrapM (hb:b≤σ.length) {s:St} (j:Nat) (hN:3≤N):WP (fun i σ'=>Kp yR σ σ') (fun i σ'=>∀τ,Kb b σ' τ→Wr (Lv b τ) s i j) (fun i σ'=>∀k:K V,(zE (.bool (isX s)) fun c=>pIf c (zU (.list [.ref j]) fun x=>zA N 74 [.int 70,.str (nS ""),x,.int 0] fun x=>k x) (k (.ref j))) σ=k (.ref i) σ'):=by
 rcases h:isX s with _ | _
 ·exact ⟨j,σ,Kp.rfl,fun _ _=>wr0 h,fun _=>rfl⟩
 ·obtain ⟨i,σ',K,n,e⟩:=JK (σ:=σ) (N:=N) hb 70 (.str (nS "")) [.ref j] 0 (ltb rfl) hN
  exact ⟨i,σ',K,fun τ q=>by unfold Wr; rw [if_pos h]; exact n τ q,fun k=>e k⟩
theorem md_fn (n:Int) (x:Bool) (bd:Nat) (o ex:Bool):MdS A (.fn n x bd o ex):=fun {h N w b σ R q} hh hN S Y=>abs fun G out=>by
 rcases h with _ | h
 ·exact absurd hh (Nat.not_succ_le_zero _)
 obtain ⟨M,rfl,hM⟩:=wF hN
 have hM:=ZM 3 hM (ltb rfl)
 obtain ⟨σ1,x68,K1,n1,e1⟩:=bodyM (σ:=σ) (N:=M) bd hM
 obtain ⟨i2,σ2,K2,-,e2⟩:=JK (σ:=σ1) (N:=M) (Nat.zero_le _) 71 (.str (nS "")) [] 0 (ltb rfl) hM
 have h2:=Nat.le_trans Y.hl (K1.trans K2).le
 obtain ⟨j,σ3,K3,n3,e3⟩:=JK (σ:=σ2) (N:=M) (Nat.le_refl _) 27 (yz x) [.none,.ref i2,.none,x68] n (ltb rfl) hM
 obtain ⟨σ4,K4,n4,e4⟩:=setF h2 n3 K3 (if o=true then 4194320 else 16)
 obtain ⟨i,σ5,K5,n5,e5⟩:=wrapM (s:=.fn n x bd o ex) (Nat.le_trans h2 K4.le) j hM
 have K:=(K1.trans K2).trans (K4.trans K5)
 refine out ⟨i,[],R,σ5,List.prefix_rfl,rfl,Q.add0.symm▸S.kp K,K.mono fun _ h=>h.elim,fun τ q=>⟨j,n5 τ q,.ref i2,x68,n4 τ ((Kb.new K5).trans q),n1⟩,trivial,fun k=>?_⟩
 refine Xk.trans ((XC (ltb rfl)).trans ((yp t_31 (ltb rfl)).trans ((yp t_32 (ltb rfl)).trans ((Wl t_33 (ltb rfl)).trans ?_))))
 refine (e1 _).trans ((e2 _).trans ((e3 _).trans ?_))
 rcases o with _ | _
 ·exact (e4 _).trans (e5 k)
 ·exact (e4 _).trans (e5 k)
theorem made (A:Ad):(∀s,MdS A s)∧(∀l,MdL A l)∧(∀b,MdB A b)∧(∀o,MdO A o∧MdC A o)∧∀t,MdT A t:=
 tree md_sw (fun n a m sid o1 o2 h1 h2 h3=>md_tr n a m sid o1 o2 h1 h2.2 h3.1) md_fn md_pl md_od md_nil md_cons md_mk md_no md_so md_tn (fun p n l r h _ h2=>md_tc p n l r h h2)
end
end Wk
end
section
namespace Wk
section
variable {σ:zG} {k:K V}
theorem s_eqv {a b:V} (ha:okA a) (hb:okA b):zL .Eq a b k σ=k (.bool (eqV a b)) σ:=s_eqG (by unfold eqOk; rw [ha.1,hb.1,decide_eq_true ha.2,decide_eq_true hb.2]; rfl)
theorem s_notinD {n:Nat} {l:List (V×V)} {e:Option Nat} {v:V} (h:σ[n]? =some (.dict l e)) (hk:yP v l=true):zL .NotIn v (.ref n) k σ=k (.bool (!dHas v l)) σ:=by
 unfold zL
 exact (s_o h).trans (yo (m:=ret _) (k:=fun r=>k (.bool (!r))) hk)
theorem s_inB {n:Nat} {l:List (V×V)} {e:Option Nat} {v:V} {b:Bool} (h:σ[n]? =some (.dict l e)) (hk:yP v l=true) (hb:dHas v l=b):zL .In v (.ref n) k σ=k (.bool b) σ:=hb▸s_inD h hk
theorem Uk {n:Nat} {l:List (V×V)} {e:Option Nat} {v:V} {b:Bool} (h:σ[n]? =some (.dict l e)) (hk:yP v l=true) (hb:(!dHas v l)=b):zL .NotIn v (.ref n) k σ=k (.bool b) σ:=hb▸s_notinD h hk
theorem s_str {x:Int} (h:x.natAbs < 10^9):zj 5 [.int x] k σ=k (.str (Str.ofString (toString x))) σ:=if_pos h
end
theorem dPut_encU {l:List Int} {s:Int}:ZH (.int s) (.int 1) (Jq l)=Jq (jN l s):=by
 unfold ZH Jq jN
 rw [dGet_int (f:=fun _=>V.int 1)]
 by_cases h:s∈l
 ·rw [decide_eq_true h,if_pos h]
  simp only [List.map_map]
  refine List.map_congr_left fun x _=>?_
  show (V.int x,match eqV (V.int x) (V.int s) with | true=>V.int 1 | false=>V.int 1)=_
  rcases eqV (V.int x) (V.int s) with _ | _<;>rfl
 ·rw [decide_eq_false h,if_neg h,List.map_append]; rfl
theorem okA_str (a:String) (h:yW (.str (Str.ofString a))=true):okA (.tup [.str (Str.ofString a)]):=⟨by rw [yW,jK,h]; rfl,Nat.le_of_ble_eq_true rfl⟩
theorem QB:okA (.tup [.str (nS "null")]):=okA_str _ (by kernel_rfl)
theorem uA:okA (.tup [.str (nS "break")]):=okA_str _ (by kernel_rfl)
theorem okA_nil:okA (.tup []):=⟨rfl,Nat.le_of_ble_eq_true rfl⟩
theorem okA_name (a:Bool):okA (.tup [yz a]):=by
 rcases a with _ | _<;>exact ⟨by kernel_rfl,Nat.le_of_ble_eq_true rfl⟩
theorem rowD {b:Nat} {σ:zG} {i:Nat} {x y:Dg} (h:σ[i]? =some (.inst 1 (diagF y))) (hx:okA x.args) (hy:okA y.args) (c d:C):(zD P0 (.ref i) (nS "number") fun x9=>zL .Eq x9 (.int x.num) fun x8=>zE x8 fun c7=>pIf c7 (zD P0 (.ref i) (nS "at") fun x12=>zL .Eq x12 (.int x.pos) fun x11=>zE x11 fun c10=>pIf c10 (zD P0 (.ref i) (nS "args") fun x15=>zL .Eq x15 x.args fun x14=>zE x14 fun c13=>pIf c13 (pIf true c d) (pIf false c d)) (pIf false c d)) (pIf false c d)) σ=pIf (JJ x y) c d σ:=by
 refine (yQ h (by kernel_rfl) (by kernel_rfl)).trans ((ym y.num x.num).trans ?_)
 unfold JJ
 rcases decide (y.num=x.num) with _ | _
 ·rfl
 refine (yQ h (by kernel_rfl) (by kernel_rfl)).trans ((ym y.pos x.pos).trans ?_)
 rcases decide (y.pos=x.pos) with _ | _
 ·rfl
 refine (yQ h (by kernel_rfl) (by kernel_rfl)).trans ((s_eqv hy hx).trans ?_)
 rcases eqV y.args x.args with _ | _<;>rfl
theorem rowsD {σ:zG} {x:Dg} (hx:okA x.args) {src:V} {all:List V×Nat} (hs:same src all σ=true) (c:C) (kn:Unit→C):∀ (ps:List (Nat×Dg)),(∀p∈ps,σ[p.1]? =some (.inst 1 (diagF p.2))∧okA p.2.args)→
  yO (α:=Unit) src all (fun v1 _ k2=>(let j5:K Bool:=fun c6=>pIf c6 c (k2 ()); zD P0 v1 (nS "number") fun x9=>zL .Eq x9 (.int x.num) fun x8=>zE x8 fun c7=>pIf c7 (zD P0 v1 (nS "at") fun x12=>zL .Eq x12 (.int x.pos) fun x11=>zE x11 fun c10=>pIf c10 (zD P0 v1 (nS "args") fun x15=>zL .Eq x15 x.args fun x14=>zE x14 fun c13=>pIf c13 (j5 true) (j5 false)) (j5 false)) (j5 false))) kn ((ps.map (·.1)).map V.ref) () σ=pIf (ps.any fun p=>JJ x p.2) c (kn ()) σ
 | [],_=>rfl
 | p::r,h=>by
  refine (rowD (b:=0) (h p (.head _)).1 hx (h p (.head _)).2 _ _).trans ?_
  rw [List.any_cons]
  rcases JJ x p.2 with _ | _
  ·show (match same src all σ with | true=>_ | false=>_)=_
   rw [hs]
   exact rowsD hx hs c kn r fun p q=>h p (.tail _ q)
  ·rfl
section
variable {A:Ad} {σ σ':zG} {R:List Row} {q:Q} {w N:Nat} {k:K V}
theorem Ck.mem (S:Ck A σ R q w) {l:List V} {n:Nat} (h:l.length=n) (h':n≤q.sz):l.length < 900000:=by
 have:=S.rm
 lia
theorem Q.szD (q:Q):q.D.length≤q.sz:=Nat.le_add_right _ _
theorem Q.szn (q:Q):q.nl.length≤q.sz:=Nat.le_trans (Nat.le_add_right _ _) (Nat.le_add_left _ _)
theorem Q.sze (q:Q):q.dl.length≤q.sz:=Nat.le_trans (Nat.le_trans (Nat.le_add_right _ _) (Nat.le_add_left _ _)) (Nat.le_add_left _ _)
theorem Q.szt (q:Q):q.tr.length≤q.sz:=Nat.le_trans (Nat.le_trans (Nat.le_trans (Nat.le_add_right _ _) (Nat.le_add_left _ _)) (Nat.le_add_left _ _)) (Nat.le_add_left _ _)
theorem tell (S:Ck A σ R q (w+1000)) (x:Dg) (hx:okA x.args) (hN:3≤N):Tr A R {q with D:=Zj q.D x} w σ (zA N 41 [.ref A.cx,.int x.num,.int x.pos,x.args] k σ) (k .none):=by
 obtain ⟨m,rfl⟩:=Nat.exists_eq_add_of_le' hN
 obtain ⟨is,hr,hl,hd⟩:=S.dr
 have hm:=S.mem (l:=is.map V.ref) (n:=q.D.length) (by rw [List.length_map,hl]) q.szD
 have z1:(is.zip q.D).map (·.1)=is:=List.map_fst_zip (Nat.le_of_eq hl)
 have z2:(is.zip q.D).map (·.2)=q.D:=List.map_snd_zip (Nat.le_of_eq hl.symm)
 have hz:∀p∈is.zip q.D,okA p.2.args:=fun p hp=>S.dok _ (z2▸List.mem_map_of_mem hp)
 have pre:∀c:C,_=_:=fun c=>rowsD hx (yv hr (Nat.lt_trans hm (ltb rfl))) (k .none) (fun _=>c) (is.zip q.D) fun p hp=>⟨(hd p hp).2,hz p hp⟩
 have an:((is.zip q.D).any fun p=>JJ x p.2)=q.D.any (JJ x):=by
  conv=>rhs; rw [← z2,List.any_map]
  rfl
 rw [z1,an] at pre
 refine Tr.eq (cl41.trans (S.a_drows.trans ((jP (yN hr (Nat.lt_trans hm (ltb rfl)))).trans (pre _)))) ?_
 unfold Zj
 rcases q.D.any (JJ x) with _ | _
 ·have K1:Kp yR σ (σ++[O.inst 1 (diagF x)]):=Kp.push
  have hr1:=K1.get hr id
  have S1:=S.kp K1
  have g1:DgL A.b0 (σ++[O.inst 1 (diagF x)]) (is++[σ.length]) (q.D++[x]):=⟨by rw [List.length_append,List.length_append,hl]; rfl,fun p hp=>by
   rw [List.zip_append hl] at hp
   rcases List.mem_append.mp hp with hp | hp
   ·exact (DgL.kp ⟨hl,hd⟩ (Kb.new K1)).2 p hp
   ·rw [List.mem_singleton.mp hp]; exact ⟨S.b0,zS⟩⟩
  have room:(q.D++[x]).length+w≤q.D.length+(w+1000):=by
   rw [List.length_append]
   show q.D.length+1+w≤_
   lia
  refine Tr.eq (S.a_diags.trans (S.b_dput.trans (zv.trans (cl5.trans (S.a_rows.trans ((yd hr).trans S.a_file)))))) ?_
  refine Tr.eq ((instI (M:=1) [.val (nS "number") (.int x.num),.val (nS "at") (.int x.pos),.val (nS "args") x.args,.val (nS "file") (.str (nS ""))] _ rfl rfl judge (funext fun τ=>cl3) (by kernel_rfl)).trans (yK (cf:=zA (m+1)) hr1 (Nat.lt_trans hm (ltb rfl)))) ?_
  have S2:=S1.setDr (is++[σ.length]) (q.D++[x]) g1 (fun y hy=>(List.mem_append.mp hy).elim (S.dok y) fun h=>List.mem_singleton.mp h▸hx) room
  rw [List.map_append] at S2
  exact Tr.push (Tr.set S2 (Tr.here S2.1))
 ·exact Tr.here (S.le (Nat.le_add_right _ _))
theorem fault (S:Ck A σ R q (w+1000)) (x:Dg) (hx:okA x.args) {i:Nat} (ha:∀k,zD P0 (.ref i) (nS "at") k σ=k (.int x.pos) σ) (hN:4≤N):Tr A R {q with D:=Zj q.D x} w σ (zA N 40 [.ref A.cx,.int x.num,.ref i,x.args] k σ) (k .none):=by
 obtain ⟨m,rfl⟩:=Nat.exists_eq_add_of_le' hN
 exact Tr.eq (cl40.trans (S.b_tell.trans ((ha _).trans zv))) (tell (N:=m+3) (k:=fun _=>k .none) S x hx (Nat.le_add_left 3 m))
theorem room1 {α:Type} {l:List α} {x:α}:(l++[x]).length+w≤l.length+(w+1000):=by
 rw [List.length_append]
 show l.length+1+w≤_
 lia
theorem noteC (S:Ck A σ R q (w+1000)) {n:Int} {i:Nat} (ha:∀k,zD P0 (.ref i) (nS "at") k σ=k (.int n) σ) (hN:2≤N):Tr A R {q with nl:=q.nl++[n]} w σ (zA N 43 [.ref A.cx,.int 19,.ref i] k σ) (k .none):=by
 obtain ⟨m,rfl⟩:=Nat.exists_eq_add_of_le' hN
 have hm:=S.mem (l:=q.nl.map wH) (List.length_map _) q.szn
 have S1:=S.setNr (q.nl++[n]) room1
 rw [List.map_append] at S1
 exact Tr.eq (cl43.trans (S.a_notes.trans (S.b_nput.trans ((ha _).trans (zv.trans (cl7.trans (S.a_nrows.trans ((yd S.nr).trans (yK S.nr (Nat.lt_trans hm (ltb rfl))))))))))) (Tr.set S1 (Tr.here S1.1))
theorem declareC (S:Ck A σ R q (w+1000)) (s:Int) (hN:1≤N):Tr A R {q with dl:=jN q.dl s,tr:=q.tr++[s]} w σ (zA N 44 [.ref A.cx,.int s,.int 1] k σ) (k .none):=by
 obtain ⟨m,rfl⟩:=Nat.exists_eq_add_of_le' hN
 obtain ⟨e,he⟩:=S.de
 have h1:=S.mem (l:=(Jq q.dl).map (·.1)) (n:=q.dl.length) (by unfold Jq; rw [List.length_map,List.length_map]) q.sze
 rw [List.length_map] at h1
 have h2:=S.mem (l:=q.tr.map enc1) (List.length_map _) q.szt
 obtain ⟨S1,K1⟩:=S.setDe (jN q.dl s) e (w':=w+500) (by have:=@Qz q.dl s; lia)
 have S2:=S1.setTr (q.tr++[s]) (w':=w) (by rw [List.length_append]; show q.tr.length+1+w≤q.tr.length+(w+500); lia)
 rw [List.map_append] at S2
 exact Tr.eq (cl44.trans (S.a_declared.trans ((XD he (wn (f:=fun _=>V.int 1)) (Nat.lt_trans h1 (ltb rfl))).trans (dPut_encU.symm▸S1.a_trail.trans ((yd S1.tr).trans (yK S1.tr (Nat.lt_trans h2 (ltb rfl)))))))) (Tr.set ⟨S1,K1⟩ (Tr.set S2 (Tr.here S2.1)))
end
noncomputable def tyO' (l:List (Int×Int)) (n:Int):Option ExK→Int
 | none=>13
 | some _=>((l.find? fun x=>decide (x.1=n)).map (·.2)).getD 0
noncomputable def tyN (l:List (Int×Int)) (e:Ex):Int:=tyO' l e.n e.kd
noncomputable def exO' (n:Int):Option ExK→List Dg
 | none=>[⟨9002,n,.tup [.str (nS "null")]⟩]
 | some _=>[]
noncomputable def exG (e:Ex):List Dg:=exO' e.n e.kd
noncomputable def okO (l:List (Int×Int)) (R:List Row) (n:Int):Option ExK→Prop
 | none=>∀x∈l,x.1≠n
 | some k=>ZI (fun t:Nat=>l.find? (fun x=>decide (x.1=n))=some (n,(t:Int))) fun t=>jl R k.kd t
noncomputable def okE (l:List (Int×Int)) (R:List Row) (e:Ex):Prop:=okO l R e.n e.kd
theorem Ua {l:List (Int×Int)} {n:Int}:yk (.int n) (tyD l)=(l.find? fun x=>decide (x.1=n)).map fun x=>V.int x.2:=by
 unfold yk tyD
 rw [List.find?_map,Option.map_map]
 rfl
theorem w_null {σ:zG} {k:K V}:zC Zb (.int 6) k σ=k (.str (nS "null")) σ:=by kernel_rfl
theorem w_break {σ:zG} {k:K V}:zC Zb (.int 53) k σ=k (.str (nS "break")) σ:=by kernel_rfl
inductive ExR (A:Ad) (R:List Row) (q:Q) (w:Nat) (σ:zG) (e:Ex) (i N:Nat):Prop
 | mk (t:Nat) (h:(t:Int)=tyN q.l e) (y:jl R (jk e) t) (e':∀want k,Tr A R {q with D:=(exG e).foldl Zj q.D} w σ (zA N 38 [.ref A.cx,.ref i,want] k σ) (k (.int (t:Int)))):ExR A R q w σ e i N
section
variable {A:Ad} {σ σ0:zG} {R R0:List Row} {q:Q} {w N:Nat} {k:K V}
theorem exprC (S:Ck A σ R q (w+1000)) (K0:Kb A.b0 σ0 σ) (x0:R0<+:R) {e:Ex} (h:okE q.l R0 e) {i:Nat} (n:NE (Lv A.b0 σ0) e i) (hN:6≤N):ExR A R q w σ e i N:=by
 obtain ⟨m,rfl⟩:=Nat.exists_eq_add_of_le' hN
 obtain ⟨et,het⟩:=S.ty
 obtain ⟨a,kl,g⟩:=n
 have g:=K0.at g.2 g.1
 have nid:∀k,zD P0 (.ref i) (nS "nid") k σ=k (.int e.n) σ:=fun k=>yQ g (by kernel_rfl) (by kernel_rfl)
 have kd:∀k,zD P0 (.ref i) (nS "kind") k σ=k (.int (if e.kd.isNone=true then 6 else 8)) σ:=fun k=>yQ g (by kernel_rfl) (by kernel_rfl)
 have at':∀k,zD P0 (.ref i) (nS "at") k σ=k (.int e.n) σ:=fun k=>yQ g (by kernel_rfl) (by kernel_rfl)
 clear g
 rcases e with ⟨en,_ | kk⟩
 ·refine ⟨13,rfl,kdTy_null S.fst,fun want k=>?_⟩
  have hno:(q.l.any fun x=>decide (x.1=en))=false:=List.any_eq_false.mpr fun x hx=>by simpa using h x hx
  exact Tr.eq (cl38.trans (cl47.trans ((nid _).trans (S.a_types.trans ((s_inB het YZ (dHas_ty.trans hno)).trans ((kd _).trans (S.a_exprs.trans ((Uk (b:=true) (S.at (n:=11) fun _ _ _ _ _=>rfl) rfl rfl).trans (ZP.trans (S.b_fault.trans ((kd _).trans (w_null.trans zv)))))))))))) (fault (N:=m+4) (k:=fun _=>k (.int 13)) (S.le (Nat.add_le_add_left (leb rfl) w)) ⟨9002,en,.tup [.str (nS "null")]⟩ QB at' (Nat.le_add_left 4 m))
 ·obtain ⟨t,hf,ht⟩:=h
  refine ⟨t,(show (t:Int)=((q.l.find? _).map _).getD 0 by rw [hf]; rfl),ht.mono x0,fun want k=>?_⟩
  have hi:(q.l.any fun x=>decide (x.1=en))=true:=List.any_eq_true.mpr ⟨_,List.mem_of_find?_eq_some hf,decide_eq_true rfl⟩
  exact Tr.eq (cl38.trans (cl47.trans ((nid _).trans (S.a_types.trans ((s_inB het YZ (dHas_ty.trans hi)).trans (S.a_types.trans ((nid _).trans (s_getD het YZ (by rw [Ua,hf]; rfl))))))))) (Tr.here (S.le (Nat.le_add_right _ _)))
end
end Wk
end
section
namespace Wk
theorem jl.lt {R:List Row} {kd:Kd} {t:Nat} (h:jl R kd t) (F:yU<+:R):t < R.length:=
 let ⟨_,_,_,_,_,_,_,_,_,_,_,_,H,_⟩:=h
 let ⟨_,e,_⟩:=H.row F
 (List.getElem?_eq_some_iff.mp e).1
noncomputable def cfG (pl:Bool) (ks kt:Kd) (n:Int) (s t:Int):List Dg:=if (Jy ks kt||meetK pl ks kt)=true then [] else [⟨2367,n,.tup [.str (Str.ofString (toString s)),.str (Str.ofString (toString t))]⟩]
theorem s_np {x y:C} {σ:zG}:zE (.bool false) (fun c=>pIf (!c) x y) σ=x σ:=rfl
theorem Xr (t:Int):yW (.str (Str.ofString (toString t)))=true:=by
 rw [yW,Str.ofString_eq_toList,List.all_toArray,List.all_map,List.all_eq_true]
 exact fun c hc=>decide_eq_true (Nat.lt_trans (int_ascii t c hc) (ltb rfl))
theorem s_inY {j:Nat} {pl:List Nat} {c d:C} {σ:zG} (h:j∈pl):(zL .In (.int (j:Int)) (.tup (zk pl)) fun v=>zE v fun b=>pIf b c d) σ=c σ:=s_inN.trans (congrArg (fun b=>pIf b c d σ) (decide_eq_true h))
section
variable {A:Ad} {σ σ0:zG} {R R0:List Row} {q:Q} {w N:Nat} {k:K V}
theorem Ck.oj (S:Ck A σ R q w):σ[A.ju]? =some (.inst (if A.pl=true then 7 else 6) [(nS "given",.ref (A.ju+1))]):=S.at (n:=19) fun _ _ _ _ _=>rfl
theorem wordsC (S:Ck A σ R q w) {t:Int} (h:t.natAbs < 10^9) (hN:2≤N):zA N 42 [.ref A.cx,.int t] k σ=k (.str (Str.ofString (toString t))) σ:=by
 obtain ⟨N,rfl,h1⟩:=suc hN
 obtain ⟨M,hM,-⟩:=suc h1
 have b:∀ {kb:K BM},zR P0 (.ref A.ju) (nS "words") kb σ=kb (.fn 33 (.ref A.ju)) σ:=by
  intro kb
  have g:=S.oj
  rcases hp:A.pl with _ | _<;>rw [hp] at g<;>exact Yl g (by kernel_rfl) (by kernel_rfl)
 exact cl42.trans (S.a_judge.trans (b.trans (zv.trans (hM▸cl33.trans (s_str h)))))
theorem meetsC (S:Ck A σ R q (w+2000)) {k1 k2:Kd} {s t:Nat} (h1:jl R k1 s) (h2:jl R k2 t) (n1:topB k1.reg=false) (n2:topB k2.reg=false) (hN:6≤N):Tr A R q w σ ((zR P0 (.ref A.ju) (nS "meets") fun b6=>zN (zA N) b6 [.ref A.cx,.int (s:Int),.int (t:Int)] k) σ) (k (.bool (meetK A.pl k1 k2))):=by
 obtain ⟨N,rfl,h5⟩:=suc hN
 have g:=S.oj
 rcases hp:A.pl with _ | _<;>rw [hp] at g
 ·refine Tr.eq ((Yl g (by kernel_rfl) (by kernel_rfl)).trans (zv.trans (cl32.trans (ym _ _)))) ?_
  rw [← meet_ids S.nd S.fst h1 h2,show decide ((s:Int)=t)=decide (s=t) from decide_eq_decide.mpr Int.ofNat_inj]
  exact Tr.here (S.le (Nat.le_add_right _ _))
 ·refine plainK (w:=0) (S.Tb (leb rfl)) h1 h2 n1 n2 h5 fun R' σ' p K T e=>?_
  obtain ⟨S1,K1⟩:=S.tabs (w':=w) T K p (Nat.le_trans (Nat.add_le_add_right T.rm _) (by rw [Nat.add_assoc,Nat.add_comm (0+1521)]; exact Nat.add_le_add_left (Nat.add_le_add_left (leb rfl) w) _))
  exact ⟨R',σ',p,S1,K1,(Yl g (by kernel_rfl) (by kernel_rfl)).trans (zv.trans (cl34.trans (S.a_tab.trans (e _))))⟩
theorem caseF (S:Ck A σ R q (w+3000)) {k1 k2:Kd} {s t:Nat} (h1:jl R k1 s) (h2:jl R k2 t) {n:Int} {i:Nat} (ha:∀σ',Kb A.b0 σ σ'→∀k,zD P0 (.ref i) (nS "at") k σ'=k (.int n) σ') (hN:7≤N):Tr A R {q with D:=(cfG A.pl k1 k2 n s t).foldl Zj q.D} w σ (zA N 58 [.ref A.cx,.ref i,.int (s:Int),.int (t:Int)] k σ) (k .none):=by
 obtain ⟨N,rfl,h6⟩:=suc hN
 have fr:=free_ids S.nd S.fst h1 h2
 have tp:=fun {t:Nat} {k:Kd} (h:jl R k t)=>(h.one S.nd S.fst).2.2
 have rm:=S.rm
 unfold cfG
 by_cases q1:s∈[5,4,0,13,1]
 ·rw [fr.mp (.inl q1)]
  exact Tr.eq (cl58.trans (s_inY (pl:=[5,4,0,13,1]) q1)) (Tr.here (S.le (Nat.le_add_right _ _)))
 by_cases q2:t∈[0,13,1]
 ·rw [fr.mp (.inr q2)]
  exact Tr.eq (cl58.trans ((s_inF (pl:=[5,4,0,13,1]) q1).trans (s_inY (pl:=[0,13,1]) q2))) (Tr.here (S.le (Nat.le_add_right _ _)))
 have nf:Jy k1 k2=false:=Bool.eq_false_iff.mpr fun h=>(fr.mpr h).elim q1 q2
 have n1:topB k1.reg=false:=Bool.eq_false_iff.mpr fun h=>q1 (.tail _ (.tail _ ((tp h1).mpr h)))
 have n2:topB k2.reg=false:=Bool.eq_false_iff.mpr fun h=>q2 ((tp h2).mpr h)
 refine Tr.eq (cl58.trans ((s_inF (pl:=[5,4,0,13,1]) q1).trans ((s_inF (pl:=[0,13,1]) q2).trans S.a_judge))) ((meetsC (N:=N) (w:=w+1000) S h1 h2 n1 n2 h6).bind fun R' σ' p S' K=>?_)
 rw [nf,Bool.false_or]
 rcases meetK A.pl k1 k2 with _ | _
 ·have bs:=fun {t:Nat} (h:t < R.length)=>show (t:Int).natAbs < 10^9 from Nat.lt_trans (Nat.lt_trans h (Nat.lt_of_le_of_lt (Nat.le_trans (Nat.le_add_right _ _) (Nat.le_add_right _ _)) rm)) (ltb rfl)
  exact Tr.eq (s_np.trans (S'.b_fault.trans (S'.b_words.trans (zv.trans ((wordsC S' (bs (h1.lt S.fst)) (Nat.le_trans (leb rfl) h6)).trans (S'.b_words.trans (zv.trans ((wordsC S' (bs (h2.lt S.fst)) (Nat.le_trans (leb rfl) h6)).trans zv)))))))) ((fault (N:=N) (k:=fun _=>k .none) S' ⟨2367,n,_⟩ ⟨by rw [yW,jK,jK,jK,Xr,Xr]; rfl,Nat.le_of_ble_eq_true rfl⟩ (ha σ' K) (Nat.le_trans (leb rfl) h6)))
 ·exact Tr.here (S'.le (Nat.le_add_right _ _))
end
end Wk
end
section
namespace Wk
noncomputable def isHd:St→Bool
 | .fn _ _ body lone _=>!lone&&decide (body=0)
 | _=>false
noncomputable def Zp:St→Sts→List Dg
 | .fn n name body lone _,r=>if lone=true∨body≠0 then [] else (match r with
   | .cons (.fn n' name' body' lone' _) _=>if lone'=true then [⟨2391,n,.tup []⟩] else if name'=name then [] else if body'≠0 then [⟨2389,n',.tup [yz name]⟩] else [⟨2391,n,.tup []⟩]
   | _=>[⟨2391,n,.tup []⟩])
 | _,_=>[]
section
variable (l:List (Int×Int)) (pl:Bool)
mutual
noncomputable def taS:St→List Dg
 | .sw _ e ts=>exG e++taT (jk e) (tyN l e) ts
 | .tr _ a _ _ b c=>taB a++(taO b++taO c)
 | .fn _ _ _ _ _=>[]
 | .pl _ _ e=>exG e
 | .od n=>[⟨9002,n,.tup [.str (nS "break")]⟩]
noncomputable def taL:Sts→List Dg
 | .nil=>[]
 | .cons s r=>Zp s r++(taS s++taL r)
noncomputable def taB:Blk→List Dg
 | .mk _ l=>taL l
noncomputable def taO:jC→List Dg
 | .none=>[]
 | .some b=>taB b
noncomputable def taT (t:Kd) (tn:Int):yg→List Dg
 | .nil=>[]
 | .cons none b r=>taB b++taT t tn r
 | .cons (some e) b r=>exG e++(cfG pl (jk e) t e.n (tyN l e) tn++(taB b++taT t tn r))
end
end
noncomputable def kindS:St→Int
 | .sw _ _ _=>50
 | .tr _ _ _ _ _ _=>57
 | .fn _ _ _ _ _=>27
 | .pl _ c _=>if c=true then 56 else 43
 | .od _=>53
noncomputable def flagS:St→Int
 | .fn _ _ _ o _=>if o=true then 4194320 else 16
 | _=>0
theorem kind70:∀s,kindS s≠70
 | .sw _ _ _=>by show (50:Int)≠70; decide
 | .tr _ _ _ _ _ _=>by show (57:Int)≠70; decide
 | .fn _ _ _ _ _=>by show (27:Int)≠70; decide
 | .pl _ true _=>by show (56:Int)≠70; decide
 | .pl _ false _=>by show (43:Int)≠70; decide
 | .od _=>by show (53:Int)≠70; decide
theorem Zk.nd {L:Nat→O→Prop}:∀ {s:St} {j:Nat},Zk L s j→∃av ks n,Nd L j (kindS s) av ks (flagS s) n n
 | .sw _ _ _,_,⟨_,_,a,_,_⟩=>⟨_,_,_,a⟩
 | .tr _ _ _ _ _ _,_,⟨_,_,_,a,_,_,_⟩=>⟨_,_,_,a⟩
 | .fn _ _ _ _ _,_,⟨_,_,a,_⟩=>⟨_,_,_,a⟩
 | .pl _ _ _,_,⟨_,a,_⟩=>⟨_,_,_,a⟩
 | .od _,_,a=>⟨_,_,_,a⟩
noncomputable def InL (L:Nat→O→Prop):Sts→List Nat→Prop
 | .nil,js=>js=[]
 | .cons s r,js=>WP (fun j ws=>js=j::ws) (fun j _=>Zk L s j) (fun _ ws=>InL L r ws)
theorem InL.len {L:Nat→O→Prop}:∀l {js:List Nat},InL L l js→js.length=(jL l).length
 | .nil,_,h=>by rw [show _=[] from h]; rfl
 | .cons _ r,_,⟨_,_,e,_,h⟩=>by rw [e]; exact congrArg (·+1) (InL.len r h)
section
variable {b:Nat} {σ σ0:zG} (K0:Kb b σ0 σ) {N:Nat} {k:K V}
include K0
theorem hasC {i:Nat} {kd:Int} {av:V} {ks:List V} {fl n m x:Int} (h:Nd (Lv b σ0) i kd av ks fl n m) {c:Bool} (hc:(!decide (Builtin.bitAnd fl x=0))=c):zA (N+1) 2 [.ref i,.int x] k σ=k (.bool c) σ:=by
 obtain ⟨kl,-,g,-⟩:=h.get K0
 exact cl2.trans ((yQ g (by kernel_rfl) (by kernel_rfl)).trans ((s_and fl x).trans ((ZB _ _).trans (hc▸rfl))))
theorem inner1 {s:St} {i j:Nat} (w:Wr (Lv b σ0) s i j) (h:Zk (Lv b σ0) s j):zA (N+1) 53 [.ref i] k σ=k (.ref j) σ:=by
 unfold Wr at w
 refine cl53.trans ?_
 by_cases q:isX s=true
 ·rw [if_pos q] at w
  exact (w.kind K0).trans ((ym 70 70).trans (w.kid0 K0 rfl))
 ·rw [if_neg q] at w
  subst w
  obtain ⟨_,_,_,n⟩:=h.nd
  refine (n.kind K0).trans ((ym _ 70).trans ?_)
  rw [decide_eq_false (kind70 s)]
  rfl
theorem innerL {src:V} {all:List V×Nat} (hs:same src all σ=true):∀ (l:Sts) {vs:List V},Zl (Lv b σ0) l vs→ZI (fun js=>InL (Lv b σ0) l js) (fun js=>∀acc (kn:List V→C),yO src all (fun v acc k=>zA (N+1) 53 [v] fun x=>k (acc++[x])) kn vs acc σ=kn (acc++js.map V.ref) σ)
 | .nil,vs,h=>by
  rw [show vs=[] from h]
  exact ⟨[],rfl,fun acc kn=>by rw [List.map_nil,List.append_nil]; rfl⟩
 | .cons s r,_,⟨i,j,ws,e,a,n,h⟩=>by
  obtain ⟨js,nj,ej⟩:=innerL hs r h
  rw [e]
  refine ⟨j::js,⟨j,js,rfl,n,nj⟩,fun acc kn=>(inner1 K0 a n).trans ?_⟩
  show (match same src all σ with | true=>_ | false=>_)=_
  rw [hs]
  refine (ej _ kn).trans ?_
  rw [List.append_assoc]; rfl
theorem headC:∀ {s:St} {j:Nat},Zk (Lv b σ0) s j→zA (N+2) 54 [.ref j] k σ=k (.bool (isHd s)) σ
 | .fn n x bd o e,j,h=>by
  obtain ⟨x1,x2,n,hx⟩:=h
  refine cl54.trans ((n.kind K0).trans ((ZB 27 27).trans ?_))
  rcases o with _ | _
  ·refine (hasC K0 n (c:=true) (by kernel_rfl)).trans ((hasC K0 n (c:=false) (by kernel_rfl)).trans ((n.kid3 K0 rfl).trans ((s_is x2).trans ?_)))
   rw [hx]; rfl
  ·exact (hasC K0 n (c:=true) (by kernel_rfl)).trans (hasC K0 n (c:=true) (by kernel_rfl))
 | .sw _ _ _,_,⟨_,_,n,_,_⟩=>cl54.trans ((n.kind K0).trans (ZB 50 27))
 | .tr _ _ _ _ _ _,_,⟨_,_,_,n,_,_,_⟩=>cl54.trans ((n.kind K0).trans (ZB 57 27))
 | .pl _ true _,_,⟨_,n,_⟩=>cl54.trans ((n.kind K0).trans (ZB 56 27))
 | .pl _ false _,_,⟨_,n,_⟩=>cl54.trans ((n.kind K0).trans (ZB 43 27))
 | .od _,_,n=>cl54.trans ((Nd.kind n K0).trans (ZB 53 27))
end
end Wk
end
section
namespace Wk
noncomputable def Q.tl (q:Q) (E:List Dg) (nt hd:List Int):Q:={q with D:=E.foldl Zj q.D,nl:=q.nl++nt,dl:=hd.foldl jN q.dl,tr:=q.tr++hd}
theorem Q.tlA {q:Q} {E E':List Dg} {n n' h h':List Int}:(q.tl E n h).tl E' n' h'=q.tl (E++E') (n++n') (h++h'):=by
 unfold Q.tl
 rw [List.append_assoc,List.append_assoc,List.foldl_append,List.foldl_append]
theorem Q.tlD {q:Q} {E:List Dg}:q.tl E [] []={q with D:=E.foldl Zj q.D}:=by
 unfold Q.tl
 rw [List.append_nil,List.append_nil]; rfl
theorem Q.tlN {q:Q} {n:List Int}:q.tl [] n []={q with nl:=q.nl++n}:=by
 unfold Q.tl
 rw [List.append_nil]; rfl
theorem Q.tlH {q:Q} {s:Int}:q.tl [] [] [s]={q with dl:=jN q.dl s,tr:=q.tr++[s]}:=by
 unfold Q.tl
 rw [List.append_nil]; rfl
theorem Q.tl0 {q:Q}:q.tl [] [] []=q:=Q.tlD
section
variable {σ:zG} {k:K V}
theorem s_while {test:M Bool} {body:C→C} {kn:C}:YK test body kn 64 σ=test (fun b=>pIf b (body (YK test body kn 63)) kn) σ:=rfl
theorem name_eq (a b:Bool):zL .Eq (yz a) (yz b) k σ=k (.bool (decide (a=b))) σ:=(s_eqG (by cases a<;>cases b<;>kernel_rfl)).trans (congrArg (fun b=>k (.bool b) σ) (by cases a<;>cases b<;>exact eqV_str.trans (by kernel_rfl)))
theorem s_ltB {x y:Int} {b:Bool} (h:decide (x < y)=b):pLt (.int x) (.int y) k σ=k (.bool b) σ:=h▸s_lt x y
theorem s_in27:zL .In (.int 27) (.tup [.int 27,.int 61,.int 66]) k σ=k (.bool true) σ:=(s_inN (j:=27) (pl:=[27,61,66])).trans (congrArg (fun b=>k (.bool b) σ) (decide_eq_true (.head _)))
end
noncomputable def Nx (L:Nat→O→Prop):Sts→V→Prop
 | .nil,v=>v=.none
 | .cons s _,v=>ZI (fun j=>v=.ref j) (fun j=>Zk L s j)
section
variable {A:Ad} {σ σ0:zG} {R:List Row} {q:Q} {w N:Nat} {k:K V}
theorem Tr.to {q':Q} {r:Res} {c:C} (e:q=q') (h:Tr A R q w σ r c):Tr A R q' w σ r c:=e▸h
theorem Ck.s_deep (S:Ck A σ R q w) {m:Int} {kc:C}:zK P0 (.ref A.cx) (nS "deep") (.int m) kc σ=kc (σ.set A.cx (.inst 8 (cfF A.t A.tb A.ju m))):=(WR S.ox (by kernel_rfl) (ltb rfl)).trans (congrArg (fun fs=>kc (σ.set A.cx (.inst 8 fs))) (by kernel_rfl))
section
variable (S:Ck A σ R q (w+1000)) (K0:Kb A.b0 σ0 σ)
include S K0
theorem fol0 {j:Nat} {kd:Int} {av:V} {ks:List V} {fl n m:Int} (nd:Nd (Lv A.b0 σ0) j kd av ks fl n m) (v:V):Tr A R {q with D:=Zj q.D ⟨2391,n,.tup []⟩} w σ (yx (zA (N+4)) (.ref A.cx) (.ref j) v k false σ) (k .none):=
 Tr.eq (s_iff.trans (S.b_fault.trans zv)) (fault (N:=N+4) (k:=fun _=>k .none) S ⟨2391,n,.tup []⟩ okA_nil (fun _=>nd.at K0) (Nat.le_add_left 4 N))
theorem followC {n:Int} {x e:Bool} {r:Sts} {j:Nat} {v:V} (h:Zk (Lv A.b0 σ0) (.fn n x 0 false e) j) (hv:Nx (Lv A.b0 σ0) r v):Tr A R {q with D:=(Zp (.fn n x 0 false e) r).foldl Zj q.D} w σ (zA (N+5) 55 [.ref A.cx,.ref j,v] k σ) (k .none):=by
 obtain ⟨x1,x2,nd,-⟩:=h
 have no:∀ {s:St} {r':Sts} {j':Nat} {kd:Int} {av:V} {ks:List V} {fl n' m:Int},v=.ref j'→Nd (Lv A.b0 σ0) j' kd av ks fl n' m→decide (kd=27)=false→Zp (.fn n x 0 false e) (.cons s r')=[⟨2391,n,.tup []⟩]→Tr A R {q with D:=(Zp (.fn n x 0 false e) (.cons s r')).foldl Zj q.D} w σ (zA (N+5) 55 [.ref A.cx,.ref j,v] k σ) (k .none):=@fun _ _ j' _ _ _ _ _ _ ev n2 hk ef=>by
  rw [ev,ef]
  exact Tr.eq (cl55.trans ((jp _).trans (ZP.trans ((n2.kind K0).trans (ZZ hk))))) (fol0 S K0 nd (.ref j'))
 rcases r with _ | ⟨s',r'⟩
 ·rw [show v=.none from hv]
  exact Tr.eq (cl55.trans (jp .none)) (fol0 S K0 nd .none)
 obtain ⟨j',ev,h'⟩:=hv
 rcases s' with _ | _ | ⟨n',x',b',_ | _,e'⟩ | ⟨_,_ | _,_⟩ | _
 ·obtain ⟨_,_,a,_,_⟩:=h'; exact no ev a rfl rfl
 ·obtain ⟨_,_,_,a,_,_,_⟩:=h'; exact no ev a rfl rfl
 ·obtain ⟨y1,y2,n2,hy⟩:=h'
  rw [ev]
  have st:zA (N+5) 55 [.ref A.cx,.ref j,.ref j'] k σ=yy (zA (N+4)) (.bool true) (.ref j') (.ref A.cx) (.ref j) k (decide (x'=x)) σ:=cl55.trans ((jp (.ref j')).trans (ZP.trans ((n2.kind K0).trans ((ym 27 27).trans (ZP.trans ((hasC K0 n2 (c:=false) (by kernel_rfl)).trans (s_tb.trans (ZP.trans ((n2.a K0).trans ((nd.a K0).trans ((name_eq _ _).trans (by rcases decide (x'=x) with _ | _<;>rfl))))))))))))
  by_cases q1:x'=x
  ·rw [decide_eq_true q1] at st
   rw [show Zp (.fn n x 0 false e) (.cons (.fn n' x' b' false e') r')=[] from if_pos q1]
   exact Tr.eq st (Tr.here (S.le (Nat.le_add_right _ _)))
  rw [decide_eq_false q1] at st
  have st:=st.trans (s_iff.trans (ZP.trans ((n2.kid3 K0 rfl).trans (jp y2))))
  rw [hy] at st
  by_cases q2:b'=0
  ·rw [decide_eq_true q2] at st
   rw [show Zp (.fn n x 0 false e) (.cons (.fn n' x' b' false e') r')=[⟨2391,n,.tup []⟩] from (if_neg q1).trans (if_neg fun h=>h q2)]
   exact Tr.eq st (fol0 S K0 nd (.ref j'))
  ·rw [decide_eq_false q2] at st
   rw [show Zp (.fn n x 0 false e) (.cons (.fn n' x' b' false e') r')=[⟨2389,n',.tup [yz x]⟩] from (if_neg q1).trans (if_pos q2)]
   exact Tr.eq (st.trans (ZP.trans (s_ift.trans (S.b_fault.trans ((nd.a K0).trans zv))))) (fault (N:=N+4) (k:=fun _=>k .none) S ⟨2389,n',.tup [yz x]⟩ (okA_name x) (fun _=>n2.at K0) (Nat.le_add_left 4 N))
 ·obtain ⟨y1,y2,n2,hy⟩:=h'
  rw [ev]
  exact Tr.eq (cl55.trans ((jp (.ref j')).trans (ZP.trans ((n2.kind K0).trans ((ym 27 27).trans (ZP.trans (hasC K0 n2 (c:=true) (by kernel_rfl)))))))) (fol0 S K0 nd (.ref j'))
 ·obtain ⟨_,a,_⟩:=h'; exact no ev a rfl rfl
 ·obtain ⟨_,a,_⟩:=h'; exact no ev a rfl rfl
 ·exact no ev h' rfl rfl
end
end
end Wk
end
section
namespace Wk
noncomputable def okC (d:List (Int×Int)) (m sid:Int):Prop:=m=0∨(yk (.int m) (tyD d)).getD (.int 0)=.int (if m > 0∧sid > 0 then sid else 0)
theorem Q.tlC {q:Q} {l:List Int} (h:l=[]∨∃s,l=[s]):q.tl [] [] l={q with dl:=l.foldl jN q.dl,tr:=q.tr++l}:=by
 unfold Q.tl
 rw [List.append_nil]; rfl
section
variable {A:Ad} {σ σ0:zG} {R:List Row} {q:Q} {w N:Nat} {k:K V} {k0:C}
theorem afterC {L:Nat→O→Prop} {cx:V} {a i j:Nat} {F ws:List Nat} (g:σ[a]? =some (.list (F.map V.ref))) (hl:F.length < 900) (hF:F.drop i=j::ws) {r:Sts} (h:InL L r ws):ZI (fun v=>Nx L r v) (fun v=>yt (zA N) (.int (i:Int)) (.ref a) cx (.ref j) k0 σ=jr (zA N) cx (.ref j) k0 v σ):=by
 have hd:F.length - i=ws.length+1:=by rw [← List.length_drop,hF]; rfl
 have hl':(F.map V.ref).length=F.length:=List.length_map _
 have hb:(F.map V.ref).length < 2^40:=Nat.lt_trans (hl'▸hl) (ltb rfl)
 rcases r with _ | ⟨s,r⟩
 ·rw [show ws=[] from h] at hd
  exact ⟨.none,rfl,(s_add _ _).trans ((yY g hb).trans ((s_ltB (b:=false) (decide_eq_false (by rw [hl']; change _=0+1 at hd; lia))).trans s_tb))⟩
 ·obtain ⟨j',us,e,n,-⟩:=h
  rw [e] at hd hF
  have e2:(F.map V.ref)[i+1]? =some (.ref j'):=by
   rw [List.getElem?_map,← List.getElem?_drop,hF]; rfl
  exact ⟨.ref j',⟨j',rfl,n⟩,(s_add _ _).trans ((yY g hb).trans ((s_ltB (b:=true) (decide_eq_true (by rw [hl']; rw [List.length_cons] at hd; lia))).trans (ZP.trans ((s_add _ _).trans (YJ g e2 hb)))))⟩
variable (K0:Kb A.b0 σ0 σ)
include K0
theorem rowHead (S:Ck A σ R q (w+1000)) {a i j:Nat} {F ws:List Nat} (g:σ[a]? =some (.list (F.map V.ref))) (hl:F.length < 900) (hF:F.drop i=j::ws) {r:Sts} (hr:InL (Lv A.b0 σ0) r ws):∀ (s:St),Zk (Lv A.b0 σ0) s j→Tr A R {q with D:=(Zp s r).foldl Zj q.D} w σ ((zA (N+5) 54 [.ref j] fun x24=>zE x24 fun c23=>pIf c23 (yt (zA (N+5)) (.int (i:Int)) (.ref a) (.ref A.cx) (.ref j) k0) (zr (zA (N+5)) (.ref j) (.ref A.cx) k0)) σ) (zr (zA (N+5)) (.ref j) (.ref A.cx) k0):=
 have no:∀ {s:St},Zk (Lv A.b0 σ0) s j→isHd s=false→Zp s r=[]→Tr A R {q with D:=(Zp s r).foldl Zj q.D} w σ ((zA (N+5) 54 [.ref j] fun x24=>zE x24 fun c23=>pIf c23 (yt (zA (N+5)) (.int (i:Int)) (.ref a) (.ref A.cx) (.ref j) k0) (zr (zA (N+5)) (.ref j) (.ref A.cx) k0)) σ) (zr (zA (N+5)) (.ref j) (.ref A.cx) k0):=fun n h1 h2=>
  Tr.eq ((headC K0 n).trans (h1▸YH)) (h2▸Tr.here (S.le (Nat.le_add_right _ _)))
 fun s n=>match s,n with
  | .sw _ _ _,n=>no n rfl rfl
  | .tr _ _ _ _ _ _,n=>no n rfl rfl
  | .pl _ _ _,n=>no n rfl rfl
  | .od _,n=>no n rfl rfl
  | .fn _ _ _ true _,n=>no n rfl rfl
  | .fn n0 x b false e,n=>by
   by_cases hb:b=0
   ·subst hb
    obtain ⟨v,hv,e1⟩:=afterC (N:=N+5) (cx:=.ref A.cx) (k0:=k0) g hl hF hr
    exact Tr.eq ((headC K0 n).trans (ZP.trans e1)) (followC (N:=N) (k:=fun _=>_) S K0 n hv)
   ·exact no n (decide_eq_false hb) (if_pos (.inr hb))
theorem rowNote (S:Ck A σ R q (w+1000)) {j:Nat}:∀ (s:St),Zk (Lv A.b0 σ0) s j→Tr A R {q with nl:=q.nl++ntF s} w σ (zr (zA (N+2)) (.ref j) (.ref A.cx) k0 σ) (jH (zA (N+2)) (.ref A.cx) (.ref j) k0):=
 have no:∀ {kd:Int} {av:V} {ks:List V} {fl n m:Int} {s:St},Nd (Lv A.b0 σ0) j kd av ks fl n m→(!decide (Builtin.bitAnd fl 4194304=0))=false→ntF s=[]→Tr A R {q with nl:=q.nl++ntF s} w σ (zr (zA (N+2)) (.ref j) (.ref A.cx) k0 σ) (jH (zA (N+2)) (.ref A.cx) (.ref j) k0):=fun n h1 h2=>
  Tr.eq ((hasC K0 n h1).trans YH) (by rw [h2,List.append_nil]; exact Tr.here (S.le (Nat.le_add_right _ _)))
 fun s n=>match s,n with
  | .sw _ _ _,⟨_,_,n,_,_⟩=>no n rfl rfl
  | .tr _ _ _ _ _ _,⟨_,_,_,n,_,_,_⟩=>no n rfl rfl
  | .pl _ _ _,⟨_,n,_⟩=>no n rfl rfl
  | .od _,n=>no n rfl rfl
  | .fn _ _ _ false _,⟨_,_,n,_⟩=>no n rfl rfl
  | .fn n0 x b true e,⟨_,_,n,_⟩=>Tr.eq ((hasC K0 n (c:=true) (by kernel_rfl)).trans (ZP.trans ((n.kind K0).trans (s_in27.trans (ZP.trans (s_ift.trans (S.b_note.trans zv))))))) (noteC (k:=fun _=>_) S (fun _=>n.at K0) (Nat.le_add_left 2 N))
theorem wP (S:Ck A σ R q w) {j:Nat} {kd:Int} {av:V} {ks:List V} {fl n m:Int} (nd:Nd (Lv A.b0 σ0) j kd av ks fl n m) {u c i:Nat} (h1:(!dHas (.int kd) (smD (A.t+uo A.pl)))=false) (h2:yk (.int kd) (smD (A.t+uo A.pl))=some (.ref u)) (h3:∀ {σ q},Ck A σ R q w→σ[u]? =some (.inst c [])) (h4:methK c (nS "check")=some i) (h5:q.dp+1≤50) {E:List Dg} {nt hd:List Int} {w':Nat}
  (hb:∀σ1,Ck A σ1 R {q with dp:=q.dp+1} w→Kb A.b0 σ0 σ1→∀k,Tr A R (Q.tl {q with dp:=q.dp+1} E nt hd) w' σ1 (zA N i [.ref u,.ref A.cx,.ref j] k σ1) (k .none)):Tr A R (q.tl E nt hd) w' σ (zA (N+2) 39 [.ref A.cx,.ref j] k σ) (k .none):=by
 obtain ⟨S1,K1⟩:=S.setCx (q.dp+1)
 refine Tr.set ⟨S1,K1⟩ (Tr.eq (cl39.trans (cl48.trans ((nd.kind K0).trans (S.a_stmts.trans ((Uk (S.at (n:=12) fun _ _ _ _ _=>rfl) rfl h1).trans (YH.trans (S.a_later.trans ((yY S.la (by decide)).trans (S.a_deep.trans (S.s_deep.trans (S1.a_deep.trans ((Wj (by lia)).trans ((S1.a_stmts.trans ((nd.kind (K0.trans K1)).trans ((s_getD (S1.at (n:=12) fun _ _ _ _ _=>rfl) rfl h2).trans ((Yl (h3 S1) rfl h4).trans zv))))))))))))))))) ((hb _ S1 (K0.trans K1) _).bind fun R' σ' p S' K=>?_))
 have fin:(zD P0 (.ref A.cx) (nS "deep") fun x37=>wC .Sub x37 (.int 1) fun x38=>zK P0 (.ref A.cx) (nS "deep") x38 (k .none)) σ'=k .none (σ'.set A.cx (.inst 8 (cfF A.t A.tb A.ju q.dp))):=S'.a_deep.trans ((S'.s_deep (m:=q.dp+1 - 1)).trans (by rw [Int.add_sub_cancel]))
 refine Tr.set (S'.setCx q.dp) (Tr.eq (s_while.trans (S'.a_deep.trans ((ym (q.dp+1) 1).trans ?_))) (Tr.here (S'.setCx q.dp).1))
 rcases decide (q.dp+1=1) with _ | _
 ·exact fin
 ·exact ZP.trans (S'.a_later.trans ((yY S'.la (Nat.zero_lt_succ _)).trans fin))
theorem catchC (S:Ck A σ R q (w+1000)) {i:Nat} {y1 y2:V} {m sid:Int} (nd:Nd (Lv A.b0 σ0) i 58 (.str (nS "")) [y1,y2] 0 0 0) (nx:J8 (Lv A.b0 σ0) m y1) (ok:okC q.d m sid):Tr A R (q.tl [] [] (hdC m sid)) w σ (zA (N+2) 61 [.ref A.cx,.ref i] k σ) (jv (zA (N+1)) (.ref A.cx) (.ref i) k):=by
 unfold J8 at nx
 unfold hdC
 by_cases h0:m=0
 ·rw [if_pos h0] at nx
  rw [if_neg (fun h=>absurd (h0▸h.1) (by decide)),Q.tl0]
  exact Tr.eq (cl61.trans ((nd.kid0 K0 rfl).trans ((jp y1).trans (by rw [nx]; exact YH)))) (Tr.here (S.le (Nat.le_add_right _ _)))
 rw [if_neg h0] at nx
 obtain ⟨iy,e,ay⟩:=nx
 subst e
 have ok:=ok.resolve_left h0
 obtain ⟨ed,hed⟩:=S.dc
 have st:=(cl61 (n:=N+1) (zI:=.ref A.cx) (zF:=.ref i) (k:=k) (σ:=σ)).trans ((nd.kid0 K0 rfl).trans ((jp (.ref iy)).trans (ZP.trans (S.a_decl.trans ((s_bindG hed).trans ((nd.kid0 K0 rfl).trans ((ay.nid K0).trans (s_dget2 hed YZ))))))))
 rw [ok] at st
 by_cases hs:m > 0∧sid > 0
 ·rw [if_pos hs] at st ⊢
  rw [Q.tlH]
  exact Tr.eq (st.trans ((ZB sid 0).trans (by rw [decide_eq_false (fun e=>absurd (e▸hs.2) (by decide))]; exact ZP.trans (S.b_declare.trans zv)))) (declareC (k:=fun _=>_) S sid (Nat.le_add_left 1 N))
 ·rw [if_neg hs] at st ⊢
  rw [Q.tl0]
  exact Tr.eq (st.trans ((ZB 0 0).trans YH)) (Tr.here (S.le (Nat.le_add_right _ _)))
end
end Wk
end
section
namespace Wk
mutual
noncomputable def caS:St→List (Int×Int)
 | .sw _ _ ts=>caT ts
 | .tr _ a m sid b c=>caB a++(caP m sid b++caO c)
 | .fn _ _ _ _ _=>[]
 | .pl _ _ _=>[]
 | .od _=>[]
noncomputable def caL:Sts→List (Int×Int)
 | .nil=>[]
 | .cons s r=>caS s++caL r
noncomputable def caB:Blk→List (Int×Int)
 | .mk _ l=>caL l
noncomputable def caO:jC→List (Int×Int)
 | .none=>[]
 | .some b=>caB b
noncomputable def caP (m sid:Int):jC→List (Int×Int)
 | .none=>[]
 | .some b=>(m,sid)::caB b
noncomputable def caT:yg→List (Int×Int)
 | .nil=>[]
 | .cons _ b r=>caB b++caT r
end
structure Hy (q:Q) (R0 R:List Row) (es:List Ex) (cs:List (Int×Int)) (n:Int):Prop where
 ex:∀e∈es,okE q.l R0 e
 ca:∀c∈cs,okC q.d c.1 c.2
 dp:q.dp+n≤50
 pre:R0<+:R
section
variable {q:Q} {R0 R R':List Row} {es es':List Ex} {cs cs':List (Int×Int)} {n:Int}
theorem Hy.left (y:Hy q R0 R (es++es') (cs++cs') n):Hy q R0 R es cs n:=⟨fun e h=>y.ex e (List.mem_append_left _ h),fun e h=>y.ca e (List.mem_append_left _ h),y.dp,y.pre⟩
theorem Hy.right (y:Hy q R0 R (es++es') (cs++cs') n) (p:R<+:R'):Hy q R0 R' es' cs' n:=⟨fun e h=>y.ex e (List.mem_append_right _ h),fun e h=>y.ca e (List.mem_append_right _ h),y.dp,y.pre.trans p⟩
end
section
variable (A:Ad)
noncomputable def bRow (cf:CF) (zI x3 v5:V) (k6:C):C:=zC x3 v5 fun x9=>(cf 54 [x9] fun x24=>zE x24 fun c23=>pIf c23 (yt cf v5 x3 zI x9 k6) (zr cf x9 zI k6))
noncomputable def bSw (cf:CF) (zI x1 v6:V) (k7:C):C:=zD P0 v6 (nS "kids") fun x17=>zC x17 (.int 0) fun x16=>Ym x16 .none fun x15=>zE x15 fun c14=>pIf c14 (jm cf v6 zI x1 k7) (yC cf v6 zI k7)
noncomputable def DS (s:St):Prop:=∀ {h N w σ σ0 R R0 q j k},htS s≤h→8*h+5≤N→Hy q R0 R (exS s) (caS s) (2*h)→Ck A σ R q (coS s w)→Kb A.b0 σ0 σ→Zk (Lv A.b0 σ0) s j→Tr A R (q.tl (taS q.l A.pl s) (ntI s) (hdS s)) w σ (zA N 39 [.ref A.cx,.ref j] k σ) (k .none)
noncomputable def DL (l:Sts):Prop:=∀ {h N w σ σ0 R R0 q a i js all kn} {F:List Nat},htL l≤h→8*h+5≤N→Hy q R0 R (exL l) (caL l) (2*h)→Ck A σ R q (coL l w)→Kb A.b0 σ0 σ→InL (Lv A.b0 σ0) l js→A.b0≤a→σ[a]? =some (.list (F.map V.ref))→F.length < 900→F.drop i=js→Tr A R (q.tl (taL q.l A.pl l) (ntL l) (hdL l)) w σ (yO (α:=Unit) (.rng F.length) all (fun v _ k=>bRow (zA N) (.ref A.cx) (.ref a) v (k ())) kn ((List.range' i js.length).map fun j:Nat=>V.int j) () σ) (kn ())
noncomputable def DB (b:Blk):Prop:=∀ {h N w σ σ0 R R0 q i k},htB b≤h→8*h+9≤N→Hy q R0 R (exB b) (caB b) (2*h+1)→Ck A σ R q (coB b w)→Kb A.b0 σ0 σ→UA (Lv A.b0 σ0) b i→Tr A R (q.tl (taB q.l A.pl b) (ntB b) (hdB b)) w σ (zA N 39 [.ref A.cx,.ref i] k σ) (k .none)
noncomputable def DO (b:jC):Prop:=∀ {h N w σ σ0 R R0 q i k},htO b≤h→8*h+9≤N→Hy q R0 R (exO b) (caO b) (2*h+1)→Ck A σ R q (coO b w)→Kb A.b0 σ0 σ→uN (Lv A.b0 σ0) b (.ref i)→Tr A R (q.tl (taO q.l A.pl b) (ntO b) (hdO b)) w σ (zA N 39 [.ref A.cx,.ref i] k σ) (k .none)
noncomputable def DC (b:jC):Prop:=∀ {h N w σ σ0 R R0 q i k m sid},htO b≤h→8*h+10≤N→Hy q R0 R (exO b) (caP m sid b) (2*h+1)→Ck A σ R q (coO b w+1000)→Kb A.b0 σ0 σ→uO (Lv A.b0 σ0) m b (.ref i)→Tr A R (q.tl (taO q.l A.pl b) (ntO b) (hdP m sid b)) w σ (zA N 61 [.ref A.cx,.ref i] k σ) (k .none)
noncomputable def DT (ts:yg):Prop:=∀ {h N w σ σ0 R R0 q vs src all kd kn} {t:Nat},htT ts≤h→8*h+10≤N→Hy q R0 R (exT ts) (caT ts) (2*h)→Ck A σ R q (coT ts w)→Kb A.b0 σ0 σ→J9 (Lv A.b0 σ0) ts vs→(∀σ',Kb A.b0 σ σ'→same src all σ'=true)→jl R kd t→Tr A R (q.tl (taT q.l A.pl kd t ts) (ntT ts) (hdT ts)) w σ (yO (α:=Unit) src all (fun v _ k=>bSw (zA N) (.ref A.cx) (.int (t:Int)) v (k ())) kn vs () σ) (kn ())
end
theorem fuel8 {h N c:Nat} (hN:8*(h+1)+c≤N):∃M,N=M+3∧8*h+(c+5)≤M:=⟨N - 3,by lia,by lia⟩
theorem s_slice1 {σ:zG} {k:K V} {n:Nat} {a:V} {l:List V} (h:σ[n]? =some (.list (a::l))) (hl:l.length < 900000):yA (.ref n) (.int 1) .none k σ=k (.ref σ.length) (σ++[.list l]):=(s_o h).trans (yo ⟨by decide,Nat.lt_trans (Nat.succ_lt_succ hl) (by decide)⟩)
section
variable {A:Ad}
theorem ck_od (n:Int):DS A (.od n):=fun {h N w σ σ0 R R0 q j k} hh hN Y S K0 nd=>by
 obtain ⟨M,rfl⟩:=Nat.exists_eq_add_of_le' (show 6≤N by change 1≤h at hh; lia)
 refine Tr.to Q.tlD.symm (Tr.eq (cl39.trans (cl48.trans ((Nd.kind nd K0).trans (S.a_stmts.trans ((Uk (b:=true) (S.at (n:=12) fun _ _ _ _ _=>rfl) rfl rfl).trans (ZP.trans (S.b_fault.trans ((Nd.kind nd K0).trans (w_break.trans zv))))))))) (fault (N:=M+4) (k:=fun _=>k .none) (S.le (Nat.add_le_add_left (by decide) w)) ⟨9002,n,.tup [.str (nS "break")]⟩ uA (fun _=>Nd.at nd K0) (Nat.le_add_left 4 M)))
theorem ck_fn (n:Int) (x:Bool) (b:Nat) (o e:Bool):DS A (.fn n x b o e):=fun {h N w σ σ0 R R0 q j k} hh hN Y S K0 nd=>by
 obtain ⟨M,rfl⟩:=Nat.exists_eq_add_of_le' (show 6≤N by change 1≤h at hh; lia)
 have hd:=Y.dp
 obtain ⟨_,_,a,_⟩:=nd
 exact wP K0 S a rfl rfl (fun S=>S.at (n:=22) fun _ _ _ _ _=>rfl) (by kernel_rfl) (by change 1≤h at hh; lia) fun σ1 S1 K1 k=>Tr.eq (cl52 (n:=M+3)) (Tr.here (Q.tl0.symm▸S1))
theorem ck_pl (n:Int) (c:Bool) (e:Ex):DS A (.pl n c e):=fun {h N w σ σ0 R R0 q j k} hh hN Y S K0 nd=>by
 obtain ⟨M,rfl⟩:=Nat.exists_eq_add_of_le' (show 9≤N by change 1≤h at hh; lia)
 have hd:=Y.dp
 obtain ⟨ie,a,nE⟩:=nd
 have key:∀ {cl:Nat} {kc:Int} (_:∀ {u:V} {k:K V} {σ:zG},zA (M+7) cl [u,.ref A.cx,.ref j] k σ=jS (zA (M+6)) u (.ref A.cx) (.ref j) k σ) (a:Nd (Lv A.b0 σ0) j kc (.str (nS "")) [.ref ie] 0 n n) {u:V},∀σ1,Ck A σ1 R {q with dp:=q.dp+1} (w+1000)→Kb A.b0 σ0 σ1→∀k,Tr A R (Q.tl {q with dp:=q.dp+1} (exG e) [] []) w σ1 (zA (M+7) cl [u,.ref A.cx,.ref j] k σ1) (k .none):=fun hcl a u σ1 S1 K1 k=>by
  obtain ⟨t,ht,y,e1⟩:=exprC (N:=M+6) S1 K1 Y.pre (Y.ex e (.head _)) nE (Nat.le_add_left 6 M)
  exact Tr.to Q.tlD.symm (Tr.eq (hcl.trans (S1.b_expr.trans ((a.kid0 K1 rfl).trans ((s_neg 1).trans zv)))) (e1 _ fun _=>k .none))
 have d1:q.dp+1≤50:=by change 1≤h at hh; lia
 rcases c with _ | _
 ·exact wP K0 S a rfl rfl (fun S=>S.at (n:=21) fun _ _ _ _ _=>rfl) (by kernel_rfl) d1 (key (cl:=51) cl51 a)
 ·exact wP K0 S a rfl rfl (fun S=>S.at (n:=24) fun _ _ _ _ _=>rfl) (by kernel_rfl) d1 (key (cl:=60) cl60 a)
end
end Wk
end
section
namespace Wk
section
variable {A:Ad}
theorem ck_nil:DL A .nil:=fun {h N w σ σ0 R R0 q a i js all kn F} hh hN Y S K0 n hb g hl hF=>by
 rw [show js=[] from n]
 exact Tr.here (c:=kn ()) (Q.tl0.symm▸S)
theorem ck_cons (s:St) (r:Sts) (h1:DS A s) (h2:DL A r):DL A (.cons s r):=fun {h N w σ σ0 R R0 q a i js all kn F} hh hN Y S K0 n hb g hl hF=>by
 obtain ⟨M,rfl⟩:=Nat.exists_eq_add_of_le' (show 5≤N by lia)
 obtain ⟨j,ws,e,nj,nr⟩:=n
 subst e
 have hb':(F.map V.ref).length < 2^40:=Nat.lt_trans (by rw [List.length_map]; exact hl) (by decide:900 < 2^40)
 have e1:(F.map V.ref)[i]? =some (.ref j):=by rw [List.getElem?_map,← Nat.add_zero i,← List.getElem?_drop,hF]; rfl
 have e2:F.drop (i+1)=ws:=by rw [← List.drop_drop,hF]; rfl
 refine Tr.eq (YJ g e1 hb') ((rowHead (N:=M) K0 (S.le (w':=coS s (coL r w)+1000+1000) (Nat.le_refl _)) g hl hF nr s nj).bind fun R1 σ1 p1 S1 K1=>(rowNote (N:=M+3) (K0.trans K1) S1 s nj).bind fun R2 σ2 p2 S2 K2=>Tr.eq (S2.b_stmt.trans zv) ((h1 (k:=fun _=>_) (Nat.le_trans (Nat.le_max_left _ _) hh) hN (by exact Hy.left ⟨Y.ex,Y.ca,Y.dp,(Y.pre.trans p1).trans p2⟩) S2 (K0.trans (K1.trans K2)) nj).bind fun R3 σ3 p3 S3 K3=>?_))
 have K:=K1.trans (K2.trans K3)
 refine Tr.to ?_ (h2 (all:=all) (kn:=kn) (Nat.le_trans (Nat.le_max_right _ _) hh) hN (by exact Hy.right ⟨Y.ex,Y.ca,Y.dp,Y.pre⟩ (p1.trans (p2.trans p3))) S3 (K0.trans K) nr hb (Kb.at K g hb) hl e2)
 have t:Q.mk q.l q.d ((Zp s r).foldl Zj q.D) (q.nl++ntF s) q.dl q.tr q.dp=q.tl (Zp s r) (ntF s) []:=by unfold Q.tl; rw [List.append_nil]; rfl
 refine (congrArg (fun q':Q=>(q'.tl (taS q.l A.pl s) (ntI s) (hdS s)).tl (taL q.l A.pl r) (ntL r) (hdL r)) t).trans ?_
 rw [Q.tlA,Q.tlA,← List.append_assoc (ntF s),ntFI]; rfl
theorem rowsW {l:Sts} (hl:DL A l) {h N w σ σ0 R R0 q kl k} {vs:List V} (hh:htL l≤h) (hN:8*h+5≤N) (Y:Hy q R0 R (exL l) (caL l) (2*h)) (S:Ck A σ R q (coL l w)) (K0:Kb A.b0 σ0 σ) (n:Zl (Lv A.b0 σ0) l vs) (g:σ[kl]? =some (.list vs)) (lv:vs.length < 900):Tr A R (q.tl (taL q.l A.pl l) (ntL l) (hdL l)) w σ (zA (N+1) 56 [.ref A.cx,.ref kl] k σ) (k .none):=by
 obtain ⟨M,rfl⟩:=Nat.exists_eq_add_of_le' (show 1≤N by lia)
 have lb:vs.length < 1000000:=Nat.lt_trans lv (by decide)
 obtain ⟨js,nj,ej⟩:=innerL (N:=M) K0 (yv g lb) l n
 have lj:js.length < 900:=by rw [nj.len l,← Zl.len l n]; exact lv
 have lm:(js.map V.ref).length=js.length:=List.length_map _
 have K1:Kp yR σ (σ++[O.list (js.map V.ref)]):=Kp.push
 refine Tr.eq (cl56.trans ((Za (yN g lb)).trans ((ej [] _).trans (if_pos (show (js.map V.ref).length < _ from lm▸Nat.lt_trans lj (by decide)))))) (Tr.push (Tr.eq ((yY zS (show (js.map V.ref).length < _ from lm▸Nat.lt_trans lj (by decide))).trans ?_) (hl (all:=((List.range js.length).map fun (i:Nat)=>V.int i,0)) (kn:=fun _=>k .none) hh hN Y (S.kp K1) (K0.trans (Kb.new K1)) nj S.b0 (zS (o:=O.list (js.map V.ref))) lj (i:=0) rfl)))
 show zj 1 [.int ((js.map V.ref).length:Int)] _ _=_
 rw [lm]
 refine (Zz (Nat.lt_trans lj (by decide))).trans ((jP (jU (Nat.lt_trans lj (by decide)))).trans ?_)
 rw [← List.range_eq_range']; rfl
theorem ck_mk (n:Int) (l:Sts) (h1:DL A l):DB A (.mk n l):=fun {h N w σ σ0 R R0 q i k} hh hN Y S K0 nd=>by
 obtain ⟨M,rfl⟩:=Nat.exists_eq_add_of_le' (show 4≤N by lia)
 obtain ⟨vs,a,nl⟩:=nd
 have hd:=Y.dp
 refine wP (N:=M+2) (i:=57) K0 S a rfl rfl (fun S=>S.at (n:=20) fun _ _ _ _ _=>rfl) (by kernel_rfl) (by lia) fun σ1 S1 K1 k=>?_
 obtain ⟨kl,hb,g,ek⟩:=a.kids K1
 exact Tr.eq (cl57.trans (ek _)) (rowsW (N:=M) (k:=fun _=>k .none) h1 hh (by lia) ⟨Y.ex,Y.ca,by change q.dp+1+_≤_; lia,Y.pre⟩ S1 K1 nl g a.len)
theorem ck_no:DO A .none∧DC A .none:=⟨fun _ _ _ _ _ nd=>(nomatch (show V.ref _=V.none from nd)),fun _ _ _ _ _ nd=>(nomatch (show V.ref _=V.none from nd))⟩
theorem ck_so (n:Int) (l:Sts) (h1:DB A (.mk n l)):DO A (.some (.mk n l))∧DC A (.some (.mk n l)):=by
 refine ⟨fun {h N w σ σ0 R R0 q i k} hh hN Y S K0 ⟨i',e,nb⟩=>?_,fun {h N w σ σ0 R R0 q i k m sid} hh hN Y S K0 ⟨i',x1,x2,e,a,nx,nb⟩=>?_⟩
 ·cases e
  exact h1 hh hN Y S K0 nb
 ·cases e
  obtain ⟨M,rfl⟩:=Nat.exists_eq_add_of_le' (show 2≤N by lia)
  refine Tr.to (Q.tlA (E:=[]) (n:=[]) (h:=hdC m sid)) ((catchC (N:=M) K0 S a nx (Y.ca _ (.head _))).bind fun R1 σ1 p1 S1 K1=>?_)
  exact Tr.eq (S1.b_stmt.trans ((a.kid1 (K0.trans K1) rfl).trans zv)) (h1 (k:=fun _=>k .none) hh (by lia) ⟨Y.ex,fun c hc=>Y.ca c (.tail _ hc),Y.dp,Y.pre.trans p1⟩ S1 (K0.trans K1) nb)
end
end Wk
end
section
namespace Wk
noncomputable def nxt (src:V) (all:List V×Nat) (body:V→Unit→(Unit→C)→C) (kn:Unit→C) (r:List V) (σ:zG):Res:=match same src all σ with
 | true=>yO src all body kn r () σ
 | false=>.none
section
variable {A:Ad}
theorem NE.at {b:Nat} {σ σ':zG} {e:Ex} {i:Nat} {k:K V} (h:NE (Lv b σ) e i) (K:Kb b σ σ'):zD P0 (.ref i) (nS "at") k σ'=k (.int e.n) σ':=let ⟨_,_,g⟩:=h; yQ (K.at g.2 g.1) (by kernel_rfl) (by kernel_rfl)
theorem ck_tn:DT A .nil:=fun {h N w σ σ0 R R0 q vs src all kd kn t} hh hN Y S K0 n hs y=>by
 rw [show vs=[] from n]
 exact Tr.here (c:=kn ()) (Q.tl0.symm▸S)
theorem testW {l:Sts} (h1:DL A l) {h N w σ σ0 R R0 q i x1 k0} {kids:List V} (hh:htL l≤h) (hN:8*h+6≤N) (Y:Hy q R0 R (exL l) (caL l) (2*h)) (S:Ck A σ R q (coL l w)) (K0:Kb A.b0 σ0 σ) (a:Nd (Lv A.b0 σ0) i 51 (.str (nS "")) (x1::kids) 0 0 0) (n:Zl (Lv A.b0 σ0) l kids):Tr A R (q.tl (taL q.l A.pl l) (ntL l) (hdL l)) w σ (yC (zA N) (.ref i) (.ref A.cx) k0 σ) k0:=by
 obtain ⟨M,rfl⟩:=Nat.exists_eq_add_of_le' (show 1≤N by lia)
 obtain ⟨kl,hb,g,ek⟩:=a.kids K0
 have lv:kids.length < 900:=Nat.lt_of_succ_lt a.len
 have K1:Kp yR σ (σ++[O.list kids]):=Kp.push
 exact Tr.eq ((ek _).trans (s_slice1 g (Nat.lt_trans lv (by decide)))) (Tr.push (rowsW (N:=M) (k:=fun _=>k0) h1 hh (by lia) Y (S.kp K1) (K0.trans (Kb.new K1)) n zS lv))
theorem ck_tc (p:Option Ex) (n:Int) (l:Sts) (r:yg) (_:DB A (.mk n l)) (h1:DL A l) (h2:DT A r):DT A (.cons p (.mk n l) r):=fun {h N w σ σ0 R R0 q vs src all kd kn t} hh hN Y S K0 nd hs y=>by
 obtain ⟨M,rfl⟩:=Nat.exists_eq_add_of_le' (show 7≤N by lia)
 obtain ⟨i,x1,kids,ws,e,a,nE,nL,nT⟩:=nd
 subst e
 have h1h:htL l≤h:=Nat.le_trans (Nat.le_max_left _ _) hh
 have h2h:htT r≤h:=Nat.le_trans (Nat.le_max_right _ _) hh
 have rest:∀ {R1 σ1 q1},R<+:R1→Ck A σ1 R1 q1 (coL l (coT r w))→Kb A.b0 σ σ1→Hy q1 R0 R1 (exL l++exT r) (caL l++caT r) (2*h)→Tr A R1 ((q1.tl (taL q1.l A.pl l) (ntL l) (hdL l)).tl (taT q1.l A.pl kd t r) (ntT r) (hdT r)) w σ1 (yC (zA (M+7)) (.ref i) (.ref A.cx) (nxt src all (fun v _ k=>bSw (zA (M+7)) (.ref A.cx) (.int (t:Int)) v (k ())) kn ws) σ1) (kn ()):=fun {R1 σ1 q1} p1 S1 K1 Y1=>
  (testW h1 h1h (Nat.le_trans (Nat.add_le_add_left (by decide) _) hN) Y1.left S1 (K0.trans K1) a nL).bind fun R2 σ2 p2 S2 K2=>by
   have K12:=K1.trans K2
   unfold nxt
   rw [hs σ2 K12]
   exact h2 h2h hN (by exact Hy.right ⟨Y1.ex,Y1.ca,Y1.dp,Y1.pre⟩ p2) S2 (K0.trans K12) nT (fun σ' K'=>hs σ' (K12.trans K')) (y.mono (p1.trans p2))
 rcases p with _ | e
 ·rw [show x1=.none from nE] at a
  exact Tr.to Q.tlA (Tr.eq ((a.kid0 K0 rfl).trans ((jp .none).trans YH)) (rest List.prefix_rfl (S.le (Nat.le_add_right _ _)) Kp.rfl Y))
 ·obtain ⟨ie,ex,nE⟩:=nE
  subst ex
  obtain ⟨t',ht,y',e1⟩:=exprC (N:=M+7) (w:=coL l (coT r w)+3000) S K0 Y.pre (Y.ex e (.head _)) nE (Nat.le_add_left 6 (M+1))
  refine Tr.to (q:=(Q.tl {q with D:=(cfG A.pl (jk e) kd e.n t' t).foldl Zj ((exG e).foldl Zj q.D)} (taL q.l A.pl l) (ntL l) (hdL l)).tl (taT q.l A.pl kd t r) (ntT r) (hdT r)) ?_ (Tr.eq ((a.kid0 K0 rfl).trans ((jp (.ref ie)).trans (ZP.trans ((a.kid0 K0 rfl).trans (S.b_expr.trans ((a.kid0 K0 rfl).trans ((s_neg 1).trans zv))))))) ((e1 _ fun _=>_).bind fun R2 σ2 p2 S2 K2=>(caseF (N:=M+7) (k:=fun _=>_) S2 (y'.mono p2) (y.mono p2) (fun σ' K' k=>nE.at (K0.trans (K2.trans K'))) (Nat.le_add_left 7 M)).bind fun R3 σ3 p3 S3 K3=>rest (p2.trans p3) S3 (K2.trans K3) ⟨fun e h=>Y.ex e (.tail _ h),Y.ca,Y.dp,Y.pre.trans (p2.trans p3)⟩))
  refine (congrArg (fun q':Q=>(q'.tl (taL q.l A.pl l) (ntL l) (hdL l)).tl (taT q.l A.pl kd t r) (ntT r) (hdT r)) (show _=(q.tl (exG e) [] []).tl (cfG A.pl (jk e) kd e.n (tyN q.l e) t) [] [] by rw [← ht,Q.tlD,Q.tlD])).trans ?_
  rw [Q.tlA,Q.tlA,Q.tlA]; rfl
theorem ck_sw (n:Int) (e:Ex) (ts:yg) (h1:DT A ts):DS A (.sw n e ts):=fun {h N w σ σ0 R R0 q j k} hh hN Y S K0 nd=>by
 obtain ⟨h,rfl⟩:=Nat.exists_eq_add_of_le' (Nat.le_trans (Nat.le_add_left 1 _) hh)
 obtain ⟨M,rfl,hM⟩:=fuel8 hN
 obtain ⟨M,rfl⟩:=Nat.exists_eq_add_of_le' (show 6≤M by lia)
 have hd:=Y.dp
 obtain ⟨ie,cs,a,nE,nT⟩:=nd
 refine wP (N:=M+7) (i:=59) K0 S a rfl rfl (fun S=>S.at (n:=23) fun _ _ _ _ _=>rfl) (by kernel_rfl) (by lia) fun σ1 S1 K1 k=>?_
 obtain ⟨t,ht,y,e1⟩:=exprC (N:=M+6) S1 K1 Y.pre (Y.ex e (.head _)) nE (Nat.le_add_left 6 M)
 refine Tr.to (q:=Q.tl {q with D:=(exG e).foldl Zj q.D,dp:=q.dp+1} (taT q.l A.pl (jk e) t ts) (ntT ts) (hdT ts)) ?_ (Tr.eq (cl59.trans (S1.b_expr.trans ((a.kid0 K1 rfl).trans ((s_neg 1).trans zv)))) ((e1 _ fun _=>_).bind fun R2 σ2 p2 S2 K2=>?_))
 rotate_left
 ·have K12:=K1.trans K2
  obtain ⟨kl,hb,g,ek⟩:=a.kids K12
  have lv:cs.length < 900:=Nat.lt_of_succ_lt a.len
  have K3:Kp yR σ2 (σ2++[O.list cs]):=Kp.push
  have S3:=S2.kp K3
  have g3:(σ2++[O.list cs])[σ2.length]? =some (.list cs):=zS
  exact Tr.eq ((ek _).trans (s_slice1 g (Nat.lt_trans lv (by decide)))) (Tr.push (Tr.eq (jP (yN g3 (Nat.lt_trans lv (by decide)))) (h1 (N:=M+6) (kn:=fun _=>k .none) (Nat.le_of_succ_le_succ hh) hM (by exact ⟨fun e h=>Y.ex e (.tail _ h),Y.ca,by change q.dp+1+_≤_; lia,Y.pre.trans p2⟩) S3 (K12.trans (Kb.new K3)) nT (fun σ' K'=>yv (Kb.at K' g3 S2.b0) (Nat.lt_trans lv (by decide))) (y.mono p2))))
 ·refine (congrArg (fun q':Q=>q'.tl (taT q.l A.pl (jk e) t ts) (ntT ts) (hdT ts)) (Q.tlD (q:={q with dp:=q.dp+1}) (E:=exG e)).symm).trans ?_
  rw [Q.tlA,ht]; rfl
end
end Wk
end
section
namespace Wk
section
variable {A:Ad}
section
variable {h N w j x1:Nat} {x2 x3:V} {σ σ0:zG} {R R0:List Row} {q:Q} {k:K V} {n m:Int} (K0:Kb A.b0 σ0 σ) (a:Nd (Lv A.b0 σ0) j 57 (.str (nS "")) [.ref x1,x2,x3] 0 n n)
include K0 a
theorem lastC:∀b:jC,DO A b→htO b≤h→8*h+9≤N→Hy q R0 R (exO b) (caO b) (2*h+1)→Ck A σ R q (coO b w)→uN (Lv A.b0 σ0) b x3→Tr A R (q.tl (taO q.l A.pl b) (ntO b) (hdO b)) w σ (yG (zA N) (.ref j) (.ref A.cx) k σ) (k .none)
 | .none,_,_,_,_,S,n=>Tr.eq ((a.kid2 K0 rfl).trans ((jp _).trans (by rw [show x3=.none from n]; exact YH))) (Tr.here (Q.tl0.symm▸S))
 | .some b,h1,hh,hN,Y,S,⟨i,e,nB⟩=>by
  subst e
  exact Tr.eq ((a.kid2 K0 rfl).trans ((jp (.ref i)).trans (ZP.trans (S.b_stmt.trans ((a.kid2 K0 rfl).trans zv))))) (h1 (k:=fun _=>k .none) hh hN Y S K0 ⟨i,rfl,nB⟩)
theorem midC {sid:Int}:∀b:jC,DC A b→htO b≤h→8*h+10≤N→Hy q R0 R (exO b) (caP m sid b) (2*h+1)→Ck A σ R q (coO b w+1000)→uO (Lv A.b0 σ0) m b x2→Tr A R (q.tl (taO q.l A.pl b) (ntO b) (hdP m sid b)) w σ ((zD P0 (.ref j) (nS "kids") fun x18=>zC x18 (.int 1) fun x17=>Ym x17 .none fun x16=>zE x16 fun c15=>pIf c15 (Zf (zA N) (.ref j) (.ref A.cx) k) (yG (zA N) (.ref j) (.ref A.cx) k)) σ) (yG (zA N) (.ref j) (.ref A.cx) k)
 | .none,_,_,_,_,S,n=>Tr.eq ((a.kid1 K0 rfl).trans ((jp _).trans (by rw [show x2=.none from n]; exact YH))) (Tr.here (Q.tl0.symm▸S.le (Nat.le_add_right _ _)))
 | .some b,h1,hh,hN,Y,S,⟨i,y1,y2,e,c1,c2,c3⟩=>by
  subst e
  exact Tr.eq ((a.kid1 K0 rfl).trans ((jp (.ref i)).trans (ZP.trans (a.kid1 K0 rfl)))) (h1 (k:=fun _=>yG (zA N) (.ref j) (.ref A.cx) k) hh hN Y S K0 ⟨i,y1,y2,rfl,c1,c2,c3⟩)
end
theorem ck_tr (n:Int) (a:Blk) (m sid:Int) (b c:jC) (h1:DB A a) (h2:DO A b∧DC A b) (h3:DO A c∧DC A c):DS A (.tr n a m sid b c):=fun {h N w σ σ0 R R0 q j k} hh hN Y S K0 nd=>by
 obtain ⟨h,rfl⟩:=Nat.exists_eq_add_of_le' (Nat.le_trans (Nat.le_add_left 1 _) hh)
 obtain ⟨M,rfl,hM⟩:=fuel8 hN
 have hd:=Y.dp
 have hh:=Nat.le_of_succ_le_succ hh
 have ha:htB a≤h:=Nat.le_trans (Nat.le_max_left _ _) hh
 have hbc:max (htO b) (htO c)≤h:=Nat.le_trans (Nat.le_max_right _ _) hh
 obtain ⟨x1,x2,x3,nj,nB,nC,nO⟩:=nd
 refine wP (N:=M+1) (i:=62) K0 S nj rfl rfl (fun S=>S.at (n:=25) fun _ _ _ _ _=>rfl) (by kernel_rfl) (by lia) fun σ1 S1 K1 k=>?_
 have Y1:Hy {q with dp:=q.dp+1} R0 R (exB a++(exO b++exO c)) (caB a++(caP m sid b++caO c)) (2*h+1):=⟨Y.ex,Y.ca,by change q.dp+1+_≤_; lia,Y.pre⟩
 refine Tr.to (Q.tlA.trans (congrArg (fun f=>f) Q.tlA)) (Tr.eq (cl62.trans (S1.b_stmt.trans ((nj.kid0 K1 rfl).trans zv))) ((h1 (k:=fun _=>_) ha (Nat.le_of_succ_le hM) Y1.left S1 K1 nB).bind fun R2 σ2 p2 S2 K2=>(midC (K1.trans K2) nj b h2.2 (Nat.le_trans (Nat.le_max_left _ _) hbc) hM (by exact Hy.left (Hy.right ⟨Y1.ex,Y1.ca,Y1.dp,Y1.pre⟩ p2)) S2 nC).bind fun R3 σ3 p3 S3 K3=>lastC (K1.trans (K2.trans K3)) nj c h3.1 (Nat.le_trans (Nat.le_max_right _ _) hbc) (Nat.le_of_succ_le hM) (by exact Hy.right (Hy.right ⟨Y1.ex,Y1.ca,Y1.dp,Y1.pre⟩ p2) p3) S3 nO))
theorem check:(∀s,DS A s)∧(∀l,DL A l)∧(∀b,DB A b)∧(∀b,DO A b∧DC A b)∧∀t,DT A t:=tree ck_sw ck_tr ck_fn ck_pl ck_od ck_nil ck_cons ck_mk ck_no ck_so ck_tn ck_tc
end
end Wk
end
section
namespace Wk
structure Ri (a b:Int) (l:List Int):Prop where
 bd:∀x∈l,a < x∧x≤b
 pw:l.Pairwise (· < ·)
theorem Ri.nil {a b:Int}:Ri a b []:=⟨nofun,.nil⟩
theorem Ri.one {a b x:Int} (h:a < x) (q:x≤b):Ri a b [x]:=⟨fun _ m=>List.mem_singleton.mp m▸⟨h,q⟩,List.pairwise_singleton _ _⟩
theorem Ri.wide {a b a' b':Int} {l:List Int} (r:Ri a b l) (h:a'≤a) (q:b≤b'):Ri a' b' l:=⟨fun x m=>⟨Int.lt_of_le_of_lt h (r.bd x m).1,Int.le_trans (r.bd x m).2 q⟩,r.pw⟩
theorem Ri.app {a p p' b:Int} {l m:List Int} (r:Ri a p l) (s:Ri p' b m) (h1:a≤p) (h2:p≤p') (h3:p'≤b):Ri a b (l++m):=
 ⟨fun x q=>(List.mem_append.mp q).elim ((r.wide (Int.le_refl _) (Int.le_trans h2 h3)).bd x) ((s.wide (Int.le_trans h1 h2) (Int.le_refl _)).bd x),List.pairwise_append.mpr ⟨r.pw,s.pw,fun x hx y hy=>Int.lt_of_le_of_lt (Int.le_trans (r.bd x hx).2 h2) (s.bd y hy).1⟩⟩
noncomputable def pr (x:Dg):Int×Int:=(x.num,x.pos)
noncomputable def dk (x:Dg):Int:=if x.num=2389∨x.num=9002 then 2*x.pos else 2*x.pos+1
noncomputable def nz (cs:List (Int×Int)):List Int:=(cs.map (·.1)).filter fun m=>!decide (m=0)
noncomputable def ps (c:Int×Int):Bool:=decide (c.1 > 0∧c.2 > 0)
structure Rs (a lo hi:Int) (es:List Ex) (cs ds:List (Int×Int)) (E:List Dg) (F:List (Int×Int)):Prop where
 le:lo≤hi
 al:a≤2*hi+1
 ex:Ri lo hi (es.map Ex.n)
 ok:∀e∈es,e.Ok
 ca:Ri lo hi (nz cs)
 dc:ds=cs.filter ps
 ta:Ri a (2*hi+1) (E.map dk)
 ar:∀x∈E,okA x.args
 pr:E.map pr=F
theorem Rs.nil {a lo hi:Int} (h:lo≤hi) (q:a≤2*hi+1):Rs a lo hi [] [] [] [] []:=⟨h,q,.nil,nofun,.nil,rfl,.nil,nofun,rfl⟩
section
variable {a lo hi b p p':Int} {es es':List Ex} {cs cs' ds ds':List (Int×Int)} {E E':List Dg} {F F':List (Int×Int)}
theorem Rs.low (r:Rs a lo hi es cs ds E F) {a' lo':Int} (h:a'≤a) (q:lo'≤lo):Rs a' lo' hi es cs ds E F:=⟨Int.le_trans q r.le,Int.le_trans h r.al,r.ex.wide q (Int.le_refl _),r.ok,r.ca.wide q (Int.le_refl _),r.dc,r.ta.wide h (Int.le_refl _),r.ar,r.pr⟩
theorem Rs.app (r:Rs a lo p es cs ds E F) (s:Rs b p' hi es' cs' ds' E' F') (h:p≤p') (q:2*p+1≤b):Rs a lo hi (es++es') (cs++cs') (ds++ds') (E++E') (F++F'):=
 ⟨Int.le_trans r.le (Int.le_trans h s.le),Int.le_trans r.al (Int.le_trans q s.al),List.map_append▸r.ex.app s.ex r.le h s.le,fun e m=>(List.mem_append.mp m).elim (r.ok e) (s.ok e),(by unfold nz; rw [List.map_append,List.filter_append]; exact r.ca.app s.ca r.le h s.le),(by rw [r.dc,s.dc,List.filter_append]),List.map_append▸r.ta.app s.ta r.al q s.al,fun e m=>(List.mem_append.mp m).elim (r.ar e) (s.ar e),(by rw [List.map_append,r.pr,s.pr])⟩
theorem Rs.one {x:Dg} (h:lo≤hi) (h1:a < dk x) (h2:dk x≤2*hi+1) (o:okA x.args):Rs a lo hi [] [] [] [x] [Wk.pr x]:=⟨h,Int.le_trans (Int.le_of_lt h1) h2,.nil,nofun,.nil,rfl,.one h1 h2,fun _ m=>List.mem_singleton.mp m▸o,rfl⟩
theorem Rs.ct {m sid:Int} (h:m=p+1∨m=0):Rs (2*p+1) p (p+1) [] [(m,sid)] (dcC m sid) [] []:=by
 refine ⟨by lia,by lia,.nil,nofun,?_,?_,.nil,nofun,rfl⟩
 ·show Ri p (p+1) (List.filter _ [m])
  rw [List.filter_cons]
  split
  ·rename_i q
   exact .one (by simp at q; lia) (by simp at q; lia)
  ·exact .nil
 ·unfold dcC
  rw [List.filter_cons]
  by_cases q:m > 0∧sid > 0
  ·rw [if_pos q,if_pos (show ps (m,sid)=true from decide_eq_true q)]; rfl
  ·rw [if_neg q,if_neg (show ¬ps (m,sid)=true from fun h=>q (of_decide_eq_true h))]; rfl
end
theorem okA_two (a b:Int):okA (.tup [.str (Str.ofString (toString a)),.str (Str.ofString (toString b))]):=⟨by rw [yW,jK,jK,jK,Xr,Xr]; rfl,Nat.le_of_ble_eq_true rfl⟩
theorem Rs.ex1 {lo:Int} {e:Ex} (w:exN lo e):Rs (2*lo+1) lo (lo+1) [e] [] [] (exG e) (wN e):=by
 obtain ⟨h,o⟩:=w
 have e1:Ri lo (lo+1) [e.n]:=.one (by lia) (by lia)
 have o1:∀e'∈[e],e'.Ok:=fun _ m=>List.mem_singleton.mp m▸o
 rcases e with ⟨n,_ | k⟩
 ·have h:n=lo+1:=h
  refine ⟨by lia,by lia,e1,o1,.nil,rfl,?_,?_,rfl⟩
  ·show Ri _ _ [2*n]
   exact .one (by lia) (by lia)
  ·exact fun _ m=>List.mem_singleton.mp m▸QB
 ·exact ⟨by lia,by lia,e1,o1,.nil,rfl,.nil,nofun,rfl⟩
theorem Rs.tell {a b lo hi:Int} {es:List Ex} {cs ds:List (Int×Int)} {E:List Dg} {F:List (Int×Int)} (r:Rs b lo hi es cs ds E F) {x:Dg} (h1:a < dk x) (h2:dk x≤b) (o:okA x.args):Rs a lo hi es cs ds (x::E) (Wk.pr x::F):=
 ⟨r.le,Int.le_trans (Int.le_of_lt h1) (Int.le_trans h2 r.al),r.ex,r.ok,r.ca,r.dc,(Ri.one h1 (Int.le_refl _)).app (r.ta.wide h2 (Int.le_refl _)) (Int.le_of_lt h1) (Int.le_refl _) (Int.le_trans h2 r.al),fun y m=>(List.mem_cons.mp m).elim (fun q=>q▸o) (r.ar y),congrArg (Wk.pr x::·) r.pr⟩
theorem Rs.high {a lo hi hi':Int} {es:List Ex} {cs ds:List (Int×Int)} {E:List Dg} {F:List (Int×Int)} (r:Rs a lo hi es cs ds E F) (h:hi≤hi'):Rs a lo hi' es cs ds E F:=⟨Int.le_trans r.le h,Int.le_trans r.al (by lia),r.ex.wide (Int.le_refl _) h,r.ok,r.ca.wide (Int.le_refl _) h,r.dc,r.ta.wide (Int.le_refl _) (by lia),r.ar,r.pr⟩
theorem Rs.cf1 {lo:Int} {e:Ex} {pl:Bool} {t:Kd} {s u:Int} (w:exN lo e):Rs (2*lo+1) lo (lo+1) [e] [] [] (exG e++cfG pl (jk e) t e.n s u) (wN e++if (Jy (jk e) t||meetK pl (jk e) t)=true then [] else [(2367,e.n)]):=by
 obtain ⟨h,o⟩:=w
 have e1:Ri lo (lo+1) [e.n]:=.one (by lia) (by lia)
 have o1:∀e'∈[e],e'.Ok:=fun _ m=>List.mem_singleton.mp m▸o
 have c:Rs (2*e.n) lo (lo+1) [e] [] [] (cfG pl (jk e) t e.n s u) (if (Jy (jk e) t||meetK pl (jk e) t)=true then [] else [(2367,e.n)]):=by
  unfold cfG
  have n:Rs (2*e.n+1) lo (lo+1) [e] [] [] [] []:=⟨by lia,by lia,e1,o1,.nil,rfl,.nil,nofun,rfl⟩
  split
  ·exact n.low (by lia) (Int.le_refl _)
  ·exact n.tell (show 2*e.n < 2*e.n+1 by lia) (Int.le_refl _) (okA_two _ _)
 rcases e with ⟨n,_ | k⟩
 ·exact c.tell (show 2*lo+1 < 2*n by have h:n=lo+1:=h; lia) (Int.le_refl _) QB
 ·exact c.low (by have h:n=lo+1:=h; show 2*lo+1≤2*n; lia) (Int.le_refl _)
inductive FolC (n:Int) (x:Bool) (b:Nat):Sts→List Dg→List (Int×Int)→Prop
 | no (r):FolC n x b r [] []
 | one (r) (h:b=0):FolC n x b r [⟨2391,n,.tup []⟩] [(2391,n)]
 | two (n' x' b' o' e' r) (h:b=0) (q:b'≠0):FolC n x b (.cons (.fn n' x' b' o' e') r) [⟨2389,n',.tup [yz x]⟩] [(2389,n')]
theorem folC {n:Int} {x:Bool} {b:Nat} {o e:Bool} (r:Sts):FolC n x b r (Zp (.fn n x b o e) r) (Yq (.fn n x b o e) r):=by
 by_cases h:o=true∨b≠0
 ·rw [show Zp (.fn n x b o e) r=[] from if_pos h,show Yq (.fn n x b o e) r=[] from if_pos h]; exact .no r
 have h0:b=0:=Nat.eq_zero_of_not_pos fun q=>h (.inr (Nat.ne_of_gt q))
 have e1:∀ {α:Type} {u v:List α},(if o=true∨b≠0 then u else v)=v:=if_neg h
 rcases r with _ | ⟨⟨⟩ | ⟨⟩ | ⟨n',x',b',o',e'⟩ | ⟨⟩ | ⟨⟩,r⟩
 ·exact (show Zp (.fn n x b o e) .nil=_ from e1)▸(show Yq (.fn n x b o e) .nil=_ from e1)▸.one _ h0
 ·exact (show Zp (.fn n x b o e) (.cons _ _)=_ from e1)▸(show Yq (.fn n x b o e) (.cons _ _)=_ from e1)▸.one _ h0
 ·exact (show Zp (.fn n x b o e) (.cons _ _)=_ from e1)▸(show Yq (.fn n x b o e) (.cons _ _)=_ from e1)▸.one _ h0
 ·rw [show Zp (.fn n x b o e) (.cons (.fn n' x' b' o' e') r)=(if o'=true then [⟨2391,n,.tup []⟩] else if x'=x then [] else if b'≠0 then [⟨2389,n',.tup [yz x]⟩] else [⟨2391,n,.tup []⟩]) from e1,show Yq (.fn n x b o e) (.cons (.fn n' x' b' o' e') r)=(if o'=true then [(2391,n)] else if x'=x then [] else if b'≠0 then [(2389,n')] else [(2391,n)]) from e1]
  by_cases q1:o'=true
  ·rw [if_pos q1,if_pos q1]; exact .one _ h0
  rw [if_neg q1,if_neg q1]
  by_cases q2:x'=x
  ·rw [if_pos q2,if_pos q2]; exact .no _
  rw [if_neg q2,if_neg q2]
  by_cases q3:b'≠0
  ·rw [if_pos q3,if_pos q3]; exact .two _ _ _ _ _ _ h0 q3
  ·rw [if_neg q3,if_neg q3]; exact .one _ h0
 ·exact (show Zp (.fn n x b o e) (.cons _ _)=_ from e1)▸(show Yq (.fn n x b o e) (.cons _ _)=_ from e1)▸.one _ h0
 ·exact (show Zp (.fn n x b o e) (.cons _ _)=_ from e1)▸(show Yq (.fn n x b o e) (.cons _ _)=_ from e1)▸.one _ h0
end Wk
end
section
namespace Wk
noncomputable def bod:Sts→Bool
 | .cons (.fn _ _ b _ _) _=>decide (b≠0)
 | _=>false
section
variable (l:List (Int×Int)) (pl:Bool)
noncomputable def RiS (s:St):Prop:=∀ {lo hi:Z},wS lo s hi→Rs (2*lo.1+1) lo.1 hi.1 (exS s) (caS s) (dcS s) (taS l pl s) (tlS pl s)
noncomputable def RiL (s:Sts):Prop:=∀ {lo hi:Z},wL lo s hi→Rs (if bod s=true then 2*lo.1+2 else 2*lo.1+1) lo.1 hi.1 (exL s) (caL s) (dcL s) (taL l pl s) (tlL pl s)
noncomputable def RiB (b:Blk):Prop:=∀ {lo hi:Z},wB lo b hi→Rs (2*lo.1+1) lo.1 hi.1 (exB b) (caB b) (dcB b) (taB l pl b) (tlB pl b)
noncomputable def RiO (b:jC):Prop:=∀ {lo hi:Z},wO lo b hi→Rs (2*lo.1+1) lo.1 hi.1 (exO b) (caO b) (dcO b) (taO l pl b) (tlO pl b)
noncomputable def RiC (b:jC):Prop:=∀ {lo hi:Z} {m sid},m=lo.1+1∨m=0→wO (lo.1+1,lo.2) b hi→Rs (2*lo.1+1) lo.1 hi.1 (exO b) (caP m sid b) (dcX m sid b++dcO b) (taO l pl b) (tlO pl b)
noncomputable def RiT (ts:yg):Prop:=∀ {lo hi:Z} {t tn},wT lo ts hi→Rs (2*lo.1+1) lo.1 hi.1 (exT ts) (caT ts) (dcT ts) (taT l pl t tn ts) (tlT pl t ts)
variable {l pl}
theorem r_sw (n:Int) (e:Ex) (ts:yg) (h:RiT l pl ts):RiS l pl (.sw n e ts):=fun {lo hi} ⟨hn,he,w,_⟩=>
 ((Rs.ex1 he).app (h w) (Int.le_refl _) (Int.le_refl _)).low (by lia) (by lia)
theorem r_tr (n:Int) (a:Blk) (m sid:Int) (b c:jC) (h1:RiB l pl a) (h2:RiO l pl b∧RiC l pl b) (h3:RiO l pl c∧RiC l pl c):RiS l pl (.tr n a m sid b c):=fun {lo hi} ⟨hn,p,q,w1,hm,_,w2,w3⟩=>by
 have r:=(h2.2 (sid:=sid) hm w2).app (h3.1 w3) (Int.le_refl _) (Int.le_refl _)
 rw [List.append_assoc] at r
 exact ((h1 w1).app r (Int.le_refl _) (Int.le_refl _)).low (show 2*lo.1+1≤2*(lo.1+1)+1 by lia) (show lo.1≤lo.1+1 by lia)
theorem r_fn (n:Int) (x:Bool) (b:Nat) (o e:Bool):RiS l pl (.fn n x b o e):=fun {lo hi} ⟨_,h,_⟩=>by subst h; exact .nil (show lo.1≤lo.1+1 by lia) (show 2*lo.1+1≤2*(lo.1+1)+1 by lia)
theorem r_pl (n:Int) (c:Bool) (e:Ex):RiS l pl (.pl n c e):=fun {lo hi} ⟨_,he,h⟩=>by subst h; exact (Rs.ex1 he).low (by lia) (by lia)
theorem r_od (n:Int):RiS l pl (.od n):=fun {lo hi} ⟨hn,h⟩=>by subst h; exact Rs.one (show lo.1≤lo.1+1 by lia) (show 2*lo.1+1 < 2*n by lia) (show 2*n≤2*(lo.1+1)+1 by lia) uA
theorem r_nil:RiL l pl .nil:=fun {lo hi} w=>by obtain rfl:hi=lo:=w; exact .nil (Int.le_refl _) (Int.le_refl _)
theorem two_up {a:Int} (k m:Int) (h:k≤2+m):2*a+k≤2*(a+1)+m:=by lia
theorem two_lt {a:Int} (k m:Int) (h:k < 2+m):2*a+k < 2*(a+1)+m:=by lia
theorem two_lt2 {a:Int}:2*a+1 < 2*(a+1+1):=by lia
theorem two_le2 {a:Int}:2*(a+1+1)≤2*(a+1)+2:=by lia
theorem bod_le {s:Sts} {a:Int}:2*a+1≤if bod s=true then 2*a+2 else 2*a+1:=by split<;>lia
theorem bod_ge {s:Sts} {a:Int}:(if bod s=true then 2*a+2 else 2*a+1)≤2*a+2:=by split<;>lia
theorem r_cons (s:St) (r:Sts) (h1:RiS l pl s) (h2:RiL l pl r):RiL l pl (.cons s r):=fun {lo hi} ⟨p,w1,w2⟩=>by
 have h2':Rs (2*p.1+1) p.1 hi.1 (exL r) (caL r) (dcL r) (taL l pl r) (tlL pl r):=(h2 w2).low bod_le (Int.le_refl _)
 rcases s with _ | _ | ⟨n,x,b,o,e⟩ | _ | _
 ·exact (h1 w1).app h2' (Int.le_refl _) (Int.le_refl _)
 ·exact (h1 w1).app h2' (Int.le_refl _) (Int.le_refl _)
 ·obtain ⟨rfl,rfl,_⟩:=w1
  have le:lo.1≤lo.1+1:=Int.le_add_of_nonneg_right (by decide)
  show Rs _ lo.1 hi.1 (exL r) (caL r) (dcL r) (Zp (.fn (lo.1+1) x b o e) r++taL l pl r) (Yq (.fn (lo.1+1) x b o e) r++tlL pl r)
  have f:=folC (n:=lo.1+1) (x:=x) (b:=b) (o:=o) (e:=e) r
  generalize Zp (.fn (lo.1+1) x b o e) r=G at f
  generalize Yq (.fn (lo.1+1) x b o e) r=T at f
  rcases f with _ | ⟨_,h⟩ | ⟨n',x',b',o',e',r',h,q⟩
  ·exact h2'.low (Int.le_trans bod_ge (two_up 2 1 (by decide))) le
  ·subst h
   exact (h2'.low (Int.le_refl _) le).tell (two_lt 1 1 (by decide)) (Int.le_refl _) okA_nil
  ·subst h
   have h3:=h2 w2
   rw [if_pos (show bod (.cons (.fn n' x' b' o' e') r')=true from decide_eq_true q)] at h3
   obtain ⟨p',⟨rfl,_,_⟩,_⟩:=w2
   exact (h3.low (Int.le_refl _) le).tell (show 2*lo.1+1 < 2*(lo.1+1+1) from two_lt2) (show 2*(lo.1+1+1)≤2*(lo.1+1)+2 from two_le2) (okA_name x)
 ·exact (h1 w1).app h2' (Int.le_refl _) (Int.le_refl _)
 ·exact (h1 w1).app h2' (Int.le_refl _) (Int.le_refl _)
theorem r_mk (n:Int) (s:Sts) (h:RiL l pl s):RiB l pl (.mk n s):=fun {lo hi} ⟨p,w,_,hp,_⟩=>by subst hp; exact ((h w).low (by split<;>lia) (Int.le_refl _)).high (show p.1≤p.1+1 by lia)
theorem r_no:RiO l pl .none∧RiC l pl .none:=⟨fun {lo hi} w=>by obtain rfl:hi=lo:=w; exact .nil (Int.le_refl _) (Int.le_refl _),fun {lo hi m sid} _ w=>by obtain rfl:hi=(lo.1+1,lo.2):=w; exact .nil (show lo.1≤lo.1+1 by lia) (show 2*lo.1+1≤2*(lo.1+1)+1 by lia)⟩
theorem r_so (n:Int) (s:Sts) (h:RiB l pl (.mk n s)):RiO l pl (.some (.mk n s))∧RiC l pl (.some (.mk n s)):=⟨fun w=>h w,fun hm w=>(Rs.ct hm).app (h w) (Int.le_refl _) (Int.le_refl _)⟩
theorem r_tn:RiT l pl .nil:=fun {lo hi t tn} w=>by obtain rfl:hi=lo:=w; exact .nil (Int.le_refl _) (Int.le_refl _)
theorem r_tc (p:Option Ex) (n:Int) (s:Sts) (r:yg) (h1:RiB l pl (.mk n s)) (_:RiL l pl s) (h2:RiT l pl r):RiT l pl (.cons p (.mk n s) r):=fun {lo hi t tn} ⟨q,u,wp,w1,w2⟩=>by
 have r:=(h1 w1).app (h2 (t:=t) (tn:=tn) w2) (Int.le_refl _) (Int.le_refl _)
 rcases p with _ | e
 ·obtain rfl:q=lo:=wp
  exact r
 ·have c:=(Rs.cf1 (pl:=pl) (t:=t) (s:=tyN l e) (u:=tn) wp.1).app r (by rw [wp.2]; exact Int.le_refl _) (by rw [wp.2]; exact Int.le_refl _)
  rw [List.append_assoc,List.append_assoc] at c
  exact c
theorem rise (l:List (Int×Int)) (pl:Bool):(∀s,RiS l pl s)∧(∀s,RiL l pl s)∧(∀b,RiB l pl b)∧(∀b,RiO l pl b∧RiC l pl b)∧∀t,RiT l pl t:=tree r_sw r_tr r_fn r_pl r_od r_nil r_cons r_mk r_no r_so r_tn r_tc
end
end Wk
end
section
namespace Wk
section
variable {α:Type} {g:α→Int}
theorem uq:∀ {l:List α},(l.map g).Pairwise (· < ·)→∀ {x y:α},x∈l→y∈l→g x=g y→x=y
 | a::l,p,x,y,hx,hy,e=>by
  obtain ⟨h,p⟩:=List.pairwise_cons.mp p
  have lt:∀z∈l,g a < g z:=fun z m=>h _ (List.mem_map_of_mem m)
  rcases List.mem_cons.mp hx with q | q<;>rcases List.mem_cons.mp hy with r | r
  ·exact q.trans r.symm
  ·exact absurd (q▸e) (Int.ne_of_lt (lt y r))
  ·exact absurd (r▸e).symm (Int.ne_of_lt (lt x q))
  ·exact uq p q r e
theorem findK {l:List α} (p:(l.map g).Pairwise (· < ·)) {x:α} (h:x∈l):l.find? (fun y=>decide (g y=g x))=some x:=by
 rcases q:l.find? (fun y=>decide (g y=g x)) with _ | y
 ·exact absurd (decide_eq_true rfl) (List.find?_eq_none.mp q x h)
 ·have e:=List.find?_some q
  rw [uq p (List.mem_of_find?_eq_some q) h (of_decide_eq_true e)]
end
theorem TyF.mem {R:List Row}:∀ {es:List Ex} {l:List (Int×Int)},TyF R es l→(∀x∈l,∃e∈es,e.n=x.1∧e.kd≠none)∧∀e∈es,∀k,e.kd=some k→ZI (fun t:Nat=>(e.n,(t:Int))∈l) fun t=>jl R k.kd t
 | [],_,h=>by rw [show _=[] from h]; exact ⟨nofun,nofun⟩
 | ⟨n,o⟩::es,_,⟨a,b,q,h,g⟩=>by
  obtain ⟨g1,g2⟩:=TyF.mem g
  rw [q]
  refine ⟨fun x m=>(List.mem_append.mp m).elim (fun m=>?_) fun m=>let ⟨e,i,j⟩:=g1 x m; ⟨e,.tail _ i,j⟩,fun e m k hk=>?_⟩
  ·rcases o with _ | k
   ·rw [show a=[] from h] at m; cases m
   ·obtain ⟨t,h,_⟩:=h
    rw [h] at m
    exact ⟨_,.head _,(congrArg (·.1) (List.mem_singleton.mp m)).symm,nofun⟩
  ·rcases List.mem_cons.mp m with m | m
   ·subst m
    rw [show o=some k from hk] at h
    obtain ⟨t,h,y⟩:=h
    exact ⟨t,by rw [h]; exact .head _,y⟩
   ·obtain ⟨t,i,y⟩:=g2 e m k hk
    exact ⟨t,List.mem_append_right _ i,y⟩
theorem okE_of {R:List Row} {es:List Ex} {l:List (Int×Int)} (t:TyF R es l) (p:(es.map Ex.n).Pairwise (· < ·)):∀e∈es,okE l R e:=fun e m=>by
 obtain ⟨g1,g2⟩:=t.mem
 have pl:(l.map (·.1)).Pairwise (· < ·):=p.sublist t.keys
 rcases e with ⟨n,_ | k⟩
 ·intro x hx q
  obtain ⟨e,i,j,c⟩:=g1 x hx
  rw [uq p i m (j.trans q)] at c
  exact c rfl
 ·obtain ⟨t,i,y⟩:=g2 _ m k rfl
  exact ⟨t,findK (g:=fun x:Int×Int=>x.1) pl i,y⟩
theorem okC_of {cs:List (Int×Int)} (p:(nz cs).Pairwise (· < ·)):∀c∈cs,okC (cs.filter ps) c.1 c.2:=fun c m=>by
 by_cases h0:c.1=0
 ·exact .inl h0
 have pz:((cs.filter ((fun m=>!decide (m=0))∘(·.1))).map (·.1)).Pairwise (· < ·):=List.filter_map▸p
 have iz:∀ {x:Int×Int},x∈cs→x.1≠0→x∈cs.filter ((fun m=>!decide (m=0))∘(·.1)):=fun i q=>List.mem_filter.mpr ⟨i,by simpa using q⟩
 refine .inr ?_
 rw [Ua]
 rcases q:(cs.filter ps).find? (fun x=>decide (x.1=c.1)) with _ | y
 ·rw [q,if_neg]; rfl
  exact fun h=>absurd (decide_eq_true rfl) (List.find?_eq_none.mp q c (List.mem_filter.mpr ⟨m,decide_eq_true h⟩))
 ·have hy:=List.mem_filter.mp (List.mem_of_find?_eq_some q)
  have e:=List.find?_some q
  have e:y.1=c.1:=of_decide_eq_true e
  have e:y=c:=uq (g:=(·.1)) pz (iz hy.1 (e▸h0)) (iz m h0) e
  subst e
  rw [q,if_pos (of_decide_eq_true hy.2)]; rfl
theorem hdP_len {m sid:Int}:∀b,(hdP m sid b).length≤1+(hdO b).length
 | .none=>Nat.zero_le _
 | .some b=>by
  show (hdC m sid++hdB b).length≤1+(hdB b).length
  rw [List.length_append]
  refine Nat.add_le_add_right ?_ _
  unfold hdC
  split
  ·exact Nat.le_refl _
  ·exact Nat.zero_le _
noncomputable def Rm (lo hi:Z) (c:Nat) (k:Int) (H:List Int) (w:Nat):Prop:=(c:Int)+12000*(H.length:Nat)+k≤15000*(lo.2 - hi.2)+w
section
variable {lo p hi:Z} {c c' w m:Nat} {k k':Int} {H H':List Int}
theorem Rm.nil:Rm lo lo w 0 [] w:=by unfold Rm; rw [List.length_nil]; lia
theorem Rm.app (a:Rm lo p c k H c') (b:Rm p hi c' k' H' w):Rm lo hi c (k+k') (H++H') w:=by
 unfold Rm at*
 rw [List.length_append]
 lia
theorem Rm.up (a:Rm lo hi c k H w) (h:k'+m≤k):Rm lo hi (c+m) k' H w:=by
 unfold Rm at*
 lia
theorem Rm.dn (a:Rm lo hi c k H (w+m)) (h:k'+m≤k):Rm lo hi c k' H w:=by
 unfold Rm at*
 lia
theorem Rm.st {x:Int} (a:Rm (x,lo.2 - 1) hi c k H w) (h:k'≤k+15000):Rm lo hi c k' H w:=by
 unfold Rm at*
 lia
theorem Rm.hd (a:Rm lo hi c k H w) (h:H'.length≤1+H.length):Rm lo hi c (k - 12000) H' w:=by
 unfold Rm at*
 lia
end
theorem coS_le:(∀s lo hi,wS lo s hi→∀w,Rm lo hi (coS s w) 2000 (hdS s) w)∧(∀l lo hi,wL lo l hi→∀w,Rm lo hi (coL l w) 0 (hdL l) w)∧(∀b lo hi,wB lo b hi→∀w,Rm lo hi (coB b w) 0 (hdB b) w)∧(∀b lo hi,wO lo b hi→∀w,Rm lo hi (coO b w) 0 (hdO b) w)∧∀t lo hi,wT lo t hi→∀w,Rm lo hi (coT t w) 0 (hdT t) (w+4000*(YM t).length):=
 have z:∀ {lo hi:Z} {w:Nat},hi=lo→Rm lo hi w 0 [] w:=fun e=>e▸Rm.nil
 have o:∀ {lo hi:Z} {x:Int} {w:Nat} (m:Nat),hi=(x,lo.2 - 1)→m≤13000→Rm lo hi (w+m) 2000 [] w:=fun m e h=>e▸(Rm.st Rm.nil (Int.le_refl _)).up (by lia)
 tree (fun n e ts h lo hi ⟨_,_,w,l⟩ u=>(((h _ _ w u).dn (k':= -12000) (by lia)).st (k':=3000) (by decide)).up (by decide))
  (fun n a m sid b c h1 h2 h3 lo hi ⟨_,p,q,w1,_,_,w2,w3⟩ u=>(((h1 _ _ w1 (coO b (coO c u)+1000)).dn (k':= -1000) (by decide)).app ((Rm.hd (lo:=p) (h2 _ _ w2 (coO c u)) (hdP_len b)).app (h3 _ _ w3 u))).st (by decide))
  (fun n x b o' e lo hi ⟨_,w,_⟩ u=>o 0 w (Nat.zero_le _)) (fun n c e lo hi ⟨_,_,w⟩ u=>o 1000 w (leb rfl)) (fun n lo hi ⟨_,w⟩ u=>o 1000 w (leb rfl))
  (fun lo hi w u=>z w)
  (fun s r h1 h2 lo hi ⟨p,w1,w2⟩ u=>((h1 _ _ w1 (coL r u)).app (h2 _ _ w2 u)).up (by decide))
  (fun n l h lo hi ⟨p,w,_,e,_⟩ u=>e▸h _ _ w u) (fun lo hi w u=>z w) (fun n l h lo hi w u=>h _ _ w u)
  (fun lo hi w u=>z w)
  (fun p n l r h1 _ h2 lo hi ⟨q,v,e,w1,w2⟩ u=>by
   have e:q.2=lo.2:=by
    rcases p with _ | p
    ·rw [show q=lo from e]
    ·rw [e.2]
   have a:=((h1 _ _ w1 (coT r u)).app (h2 _ _ w2 u)).up (k':= -4000) (m:=4000) (by decide)
   unfold Rm at a ⊢
   rw [e] at a
   show (((coB (.mk n l) (coT r u)+4000:Nat):Int))+_+_≤15000*(lo.2 - hi.2)+(u+4000*((YM r).length+1):Nat)
   refine Int.le_trans ?_ (Int.le_trans (Int.add_le_add_right a 4000) ?_)
   ·exact Int.le_of_eq (Int.add_assoc _ (-4000) 4000).symm
   ·exact Int.le_of_eq (Int.add_assoc _ _ _))
theorem sameD_key {x y:Dg} (h:JJ x y=true):dk x=dk y:=by
 unfold JJ at h
 simp only [Bool.and_eq_true,decide_eq_true_eq] at h
 unfold dk
 rw [h.1,h.2.1]
theorem add_new:∀ (E D:List Dg),((D++E).map dk).Pairwise (· < ·)→E.foldl Zj D=D++E
 | [],D,_=>(List.append_nil D).symm
 | x::r,D,h=>by
  have e:Zj D x=D++[x]:=if_neg fun q=>by
   obtain ⟨y,hy,e⟩:=List.any_eq_true.mp q
   rw [List.map_append] at h
   exact absurd (sameD_key e).symm (Int.ne_of_lt ((List.pairwise_append.mp h).2.2 _ (List.mem_map_of_mem hy) _ (.head _)))
  rw [List.foldl_cons,e,add_new r _ (by rw [List.append_assoc]; exact h),List.append_assoc]; rfl
theorem add_old:∀ (E D:List Dg),(∀x∈E,x∈D∧okA x.args)→E.foldl Zj D=D
 | [],D,_=>rfl
 | x::r,D,h=>by
  rw [List.foldl_cons,show Zj D x=D from if_pos (List.any_eq_true.mpr ⟨x,(h x (.head _)).1,by unfold JJ; rw [decide_eq_true rfl,decide_eq_true rfl,WI _]; rfl⟩)]
  exact add_old r D fun y hy=>h y (.tail _ hy)
theorem addI_sub:∀ (hs l:List Int) (x:Int),x∈hs.foldl jN l→x∈l∨x∈hs
 | [],l,x,h=>.inl h
 | s::hs,l,x,h=>by
  rcases addI_sub hs (jN l s) x h with h | h
  ·unfold jN at h
   split at h
   ·exact .inl h
   ·exact (List.mem_append.mp h).imp id fun h=>by rw [List.mem_singleton.mp h]; exact .head _
  ·exact .inr (.tail _ h)
end Wk
end
section
namespace Wk
theorem Tab.empty {σ:zG} {tb rw ix:Nat} {fs:List (Str×V)} {e:Option Nat} (h0:σ[tb]? =some (.inst 4 fs)) (h1:zO (nS "rows") fs=some (.ref rw)) (h2:zO (nS "index") fs=some (.ref ix)) (h3:zO (nS "put") fs=none) (hr:σ[rw]? =some (.list [])) (hi:σ[ix]? =some (.dict [] e)) (n1:tb≠rw) (n2:tb≠ix) (n3:rw≠ix):Tab σ tb rw ix []:=
 ⟨⟨fs,h0,h1,h2,h3⟩,hr,⟨e,hi⟩,n1,n2,n3,.nil⟩
theorem fst_nd:yU.Nodup:=by decide
theorem putAll {N tb rw ix:Nat} {all:List V×Nat} {src:V} {G:Prop} (hs:∀τ,same src all τ=true) (hN:1≤N):∀ (rest:List Row) {R:List Row} {σ:zG},R++rest=yU→Tab σ tb rw ix R→(∀σ',Tab σ' tb rw ix yU→Kp (XT rw ix) σ σ'→(∀kn:Unit→C,yO (α:=Unit) src all (fun v9 _ k10=>zR P0 (.ref tb) (nS "put") fun b12=>zN (zA N) b12 [v9] fun x11=>k10 ()) kn (rest.map yD) () σ=kn () σ')→G)→G:=by
 intro rest
 induction rest with
 | nil=>exact fun h T out=>out _ ((List.append_nil _).symm.trans h▸T) Kp.rfl fun _=>rfl
 | cons r rest ih=>
  intro R σ h T out
  have hl:R.length≤890000:=Nat.le_trans (Nat.le_trans (Nat.le_add_right _ _) (Nat.le_of_eq (List.length_append.symm.trans (congrArg List.length h)))) (leb (by kernel_rfl))
  refine put0 T hl r hN fun t R' σ1 _ hr _ K1 T1 e1=>?_
  obtain rfl:=hr fun q=>(List.nodup_append.mp (h▸fst_nd)).2.2 r q r (.head _) rfl
  exact ih (by rw [List.append_assoc]; exact h) T1 fun σ2 T2 K2 e2=>out σ2 T2 (K1.trans K2) fun kn=>yM.trans (T.bP.trans ((e1 _).trans (turn (hs _) (e2 kn))))
theorem Yp {σ L:List O} (j:Nat):(σ++L)[σ.length+j]? =L[j]?:=by
 rw [List.getElem?_append_right (Nat.le_add_right _ _),Nat.add_sub_cancel_left]
noncomputable def ob (c a:Nat) (ops:List IOp):List O:=.inst c (ZS (a+1) ops)::Xg (a+1) ops
theorem instB {c N M i:Nat} {r:Zm} {vs:List V} (ops:List IOp) {σ L:zG} {k:K V} (hc:P0.cls[c]? =some r) (hi:r.init=some i) (hrun:∀n k',zA N i (.ref n::vs) k'=runI (zA (M+1)) n ops (k' .none)) (hk:chkI c [] ops=true):
  zp P0 (zA N) c vs k (σ++L)=k (.ref (σ.length+L.length)) (σ++(L++ob c (σ.length+L.length) ops)):=by
 rw [← List.length_append,instI ops _ hc hi judge (hrun _ _) hk,List.append_assoc]; rfl
noncomputable def nw (s:String):IOp:=.new (nS s) (.dict [] (some 0))
noncomputable def nl' (s:String):IOp:=.new (nS s) (.list [])
noncomputable def opT:List IOp:=[nl' "rows",nw "index",.new (nS "decls") (.list [.none]),nl' "bounds",nl' "defaults",nl' "names",nw "origins",nw "renamed",.val (nS "shaping") (.int 0),.val (nS "putting") (.int 0)]
noncomputable def opH (tb:Nat):List IOp:=[.val (nS "tab") (.ref tb),.val (nS "deep") (.int 0),.val (nS "most_rounds") (.int 200),.val (nS "most_deep") (.int 40)]
noncomputable def opD:List IOp:=[nl' "rows",.val (nS "file") (.str (nS ""))]
noncomputable def opB (dg:V):List IOp:=[.new (nS "symbols") (.list [.none]),nl' "scopes",nw "of_node",nw "use",nw "decl",.val (nS "diags") dg]
noncomputable def opS (tb host bd dg nt:V):List IOp:=[.val (nS "tab") tb,.val (nS "host") host,.val (nS "bound") bd,.val (nS "graph") .none,.val (nS "namer") .none,.val (nS "diags") dg,.val (nS "notes") nt,nw "exprs",nw "stmts",nw "sorts",nw "types",nw "declared",nw "busy",nw "called",nw "consts",nw "sigs",nw "bound_decls",nl' "inside",nl' "rets",nl' "chains",nl' "trail",nl' "later",nl' "late",nw "targets",nw "globals",nw "loops",nw "roots",nw "inits",nw "paired",nw "got_by",nw "under",nw "drawn",nw "dropped",nw "marks",nw "owners",nw "this_of",nw "func_at",nw "selves_of",nw "rounds",nw "callees",nw "heads",nw "banged",nw "told_names",nw "guesses",.val (nS "ready") (.int 0),nw "const_enums",nw "preset",.val (nS "asker") .none,.val (nS "stops") .none,.jud (nS "judge"),.ins (nS "guard") 16,.ins (nS "patterns") 17,.ins (nS "giver") 18,.ins (nS "funcs") 19,.ins (nS "places") 20,.val (nS "deep") (.int 0)]
inductive TabI (σ:zG) (N:Nat):Prop
 | mk (σ':zG) (K:Kp yR σ σ') (T:Tab σ' σ.length (σ.length+1) (σ.length+2) yU) (g:σ'[σ.length]? =some (.inst 4 (tbF σ.length))) (l:σ.length+9≤σ'.length) (e:∀k,zp P0 (zA N) 4 [] k σ=k (.ref σ.length) σ'):TabI σ N
theorem tableI {σ:zG} {N:Nat}:TabI σ (N+2):=by
 have K1:Kp yR σ (σ++.inst 4 (ZS (σ.length+1) opT)::Xg (σ.length+1) opT):=⟨by rw [List.length_append]; exact Nat.le_add_right _ _,fun i h _=>List.getElem?_append_left h⟩
 have gt:∀j o,(O.inst 4 (ZS (σ.length+1) opT)::Xg (σ.length+1) opT)[j]? =some o→(σ++.inst 4 (ZS (σ.length+1) opT)::Xg (σ.length+1) opT)[σ.length+j]? =some o:=fun j o h=>(Yp j).trans h
 have ne:∀ {a b c:Nat},b≠c→a+b≠a+c:=fun h q=>h (Nat.add_left_cancel q)
 refine putAll (N:=N+1) (tb:=σ.length) (rw:=σ.length+1) (ix:=σ.length+2) (src:=Zc) (all:=(yU.map yD,0)) (fun τ=>by rw [first_eq]; exact Ug) (Nat.le_add_left 1 N) yU (R:=[]) rfl (Tab.empty (e:=some 0) Xp (by kernel_rfl) (by kernel_rfl) (by kernel_rfl) (gt 1 _ (by kernel_rfl)) (gt 2 _ (by kernel_rfl)) (ne (b:=0) (by decide)) (ne (b:=0) (by decide)) (ne (by decide))) fun σ' T K e=>?_
 have nx:∀i,i≤σ.length→¬XT (σ.length+1) (σ.length+2) i:=fun i h q=>q.elim (fun q=>absurd h (by lia)) fun q=>absurd h (by lia)
 refine ⟨σ',⟨Nat.le_trans K1.le K.le,fun i h q=>(K.old i (Nat.lt_of_lt_of_le h K1.le) (nx i (Nat.le_of_lt h))).trans (K1.old i h q)⟩,T,(K.get Xp (nx _ (Nat.le_refl _))).trans (by kernel_rfl),Nat.le_trans (Nat.le_of_eq (by rw [List.length_append]; kernel_rfl)) K.le,fun k=>(instI (M:=1) opT (yL Zc (fun v9 k10=>zR P0 (.ref σ.length) (nS "put") fun b12=>zN (zA (N+1)) b12 [v9] fun x11=>k10) (k (.ref σ.length))) rfl rfl judge (funext fun τ=>cl8) (by kernel_rfl)).trans ?_⟩
 rw [first_eq] at e ⊢
 exact (jP (yF (ltb (by kernel_rfl)))).trans (e _)
end Wk
end
section
namespace Wk
theorem q_Diags_d (cf:CF) (zB:V) (k:K V):zQ P0 cf (Mine.sm 30 0) [zB] k=je cf zB (.str (nS "")) k:=by kernel_rfl
theorem cl4d {n:Nat} {zB:V} {k:K V}:zA (n+1) 4 [zB] k=je (zA n) zB (.str (nS "")) k:=q_Diags_d (zA n) zB k
noncomputable def shL (t tb:Nat):List O:=ob 15 t (opH tb)++(ob 2 (t+1) opD++(ob 5 (t+3) (opB (.ref (t+1)))++(ob 2 (t+9) opD++(ob 3 (t+11) [nl' "rows"]++ob 8 (t+13) (opS (.ref tb) (.ref t) (.ref (t+3)) (.ref (t+9)) (.ref (t+11)))))))
section
variable {σ L:zG} {N:Nat} {k:K V}
theorem iH {tb:Nat}:zp P0 (zA (N+2)) 15 [.ref tb] k (σ++L)=k (.ref (σ.length+L.length)) (σ++(L++ob 15 (σ.length+L.length) (opH tb))):=
 instB (M:=0) (opH tb) rfl rfl (fun n k'=>funext fun τ=>by rw [cl63,JS]; rfl) (by kernel_rfl)
theorem iD:zp P0 (zA (N+2)) 2 [] k (σ++L)=k (.ref (σ.length+L.length)) (σ++(L++ob 2 (σ.length+L.length) opD)):=
 instB (M:=0) opD rfl rfl (fun n k'=>funext fun τ=>by rw [cl4d,je]; rfl) (by kernel_rfl)
theorem iB {d:V}:zp P0 (zA (N+2)) 5 [d] k (σ++L)=k (.ref (σ.length+L.length)) (σ++(L++ob 5 (σ.length+L.length) (opB d))):=
 instB (M:=0) (opB d) rfl rfl (fun n k'=>funext fun τ=>by rw [cl30,Yt]; rfl) (by kernel_rfl)
theorem iN:zp P0 (zA (N+2)) 3 [] k (σ++L)=k (.ref (σ.length+L.length)) (σ++(L++ob 3 (σ.length+L.length) [nl' "rows"])):=
 instB (M:=0) [nl' "rows"] rfl rfl (fun n k'=>funext fun τ=>by rw [cl6,Ys]; rfl) (by kernel_rfl)
theorem iS {tb host bd dg nt:V}:zp P0 (zA (N+2)) 8 [tb,host,bd,.none,.none,dg,nt] k (σ++L)=k (.ref (σ.length+L.length)) (σ++(L++ob 8 (σ.length+L.length) (opS tb host bd dg nt))):=
 instB (M:=N) (opS tb host bd dg nt) rfl rfl (fun n k'=>funext fun τ=>by rw [cl37,Yr]; rfl) (by kernel_rfl)
end
theorem wV {σ:zG} {n:Nat} {o:O} (h:σ[n]? =some o):σ.set n o=σ:=by
 obtain ⟨q,e⟩:=List.getElem?_eq_some_iff.mp h
 exact e▸List.set_getElem_self q
noncomputable def ruC (cf:CF) (cx:V):List (Int×Nat)→C→C
 | [],kc=>kc
 | r::rs,kc=>zp P0 cf r.2 [] fun x8=>zD P0 cx (nS "stmts") fun x9=>zV x9 (.int r.1) x8 (ruC cf cx rs kc)
noncomputable def ruD:Nat→List (V×V)→List (Int×Nat)→List (V×V)
 | _,D,[]=>D
 | n,D,r::rs=>ruD (n+1) (ZH (.int r.1) (.ref n) D) rs
noncomputable def ruO:Nat→List (V×V)→List (Int×Nat)→Bool
 | _,_,[]=>true
 | n,D,r::rs=>noInit r.2&&(yP (.int r.1) D&&(Nat.ble D.length 99&&ruO (n+1) (ZH (.int r.1) (.ref n) D) rs))
noncomputable def six:List (Int×Nat):=[(59,11),(43,9),(27,10),(50,12),(56,13),(57,14)]
theorem rules {N cx sm:Nat} {fs:List (Str×V)} {e:Option Nat} {kc:C} (hl:zO (nS "stmts") fs=some (.ref sm)) (hn:cx≠sm):∀ (rs:List (Int×Nat)) (σ:zG) (D:List (V×V)),σ[cx]? =some (.inst 8 fs)→σ[sm]? =some (.dict D e)→ruO σ.length D rs=true→
  ruC (zA N) (.ref cx) rs kc σ=kc (σ.set sm (.dict (ruD σ.length D rs) e)++rs.map fun r=>.inst r.2 [])
 | [],σ,D,_,g,_=>by rw [ruC,ruD,wV g,List.map_nil,List.append_nil]
 | r::rs,σ,D,h,g,o=>by
  simp only [ruO,Bool.and_eq_true] at o
  obtain ⟨o1,o2,o3,o4⟩:=o
  have g1:=(Kp.push (X:=yR) (o:=.inst r.2 [])).get g id
  have h1:=(Kp.push (X:=yR) (o:=.inst r.2 [])).get h id
  have n1:((σ++[O.inst r.2 []]).set sm (.dict (ZH (.int r.1) (.ref σ.length) D) e)).length=σ.length+1:=by simp
  rw [ruC,instN o1,yQ h1 (by kernel_rfl) hl,XD g1 o2 (Nat.lt_of_le_of_lt (Nat.le_of_ble_eq_true o3) (by decide)),rules hl hn rs _ (ZH (.int r.1) (.ref σ.length) D) ((List.getElem?_set_ne (Ne.symm hn)).trans h1) (yE g1) (n1▸o4),List.set_set,n1,List.set_append_left _ _ (List.getElem?_eq_some_iff.mp g).1,List.append_assoc]
  rfl
noncomputable def rsO:List O:=six.map fun r=>.inst r.2 []
noncomputable def shF (pl:Bool) (t tb:Nat):List O:=(if pl=true then (shL t tb).set 13 (.inst 8 (cfF t tb (t+60) 0))++jd (t+60) 7 else shL t tb).set 15 (.dict (smD (t+uo pl)) (some 0))++rsO
theorem setA {σ L:zG} {j:Nat} {o:O}:(σ++L).set (σ.length+j) o=σ++L.set j o:=by
 rw [List.set_append_right _ _ (Nat.le_add_right _ _),Nat.add_sub_cancel_left]
theorem shRules {σ L:zG} {N tb ju n:Nat} {kc:C} (hL:L.length=n) (h13:L[13]? =some (.inst 8 (cfF σ.length tb ju 0))) (h15:L[15]? =some (.dict [] (some 0))):
  ruC (zA N) (.ref (σ.length+13)) six kc (σ++L)=kc (σ++(L.set 15 (.dict (smD (σ.length+n)) (some 0))++rsO)):=by
 have e:(σ++L).length=σ.length+n:=by rw [List.length_append,hL]
 rw [rules (sm:=σ.length+15) (by kernel_rfl) (ne_off (by decide)) six _ [] ((Yp 13).trans h13) ((Yp 15).trans h15) (by rw [e]; kernel_rfl),setA,e,List.append_assoc]
 rfl
theorem sheetI {σ:zG} {N tb:Nat} {k:K V}:∀pl,zA (N+3) 83 [.ref tb,.bool pl] k σ=k (.ref (σ.length+13)) (σ++shF pl σ.length tb):=by
 have h0:∀k,zp P0 (zA (N+2)) 15 [.ref tb] k σ=k (.ref σ.length) (σ++ob 15 σ.length (opH tb)):=fun k=>by
  have:=iH (σ:=σ) (L:=[]) (N:=N) (tb:=tb) (k:=k)
  rwa [List.append_nil] at this
 have h1:∀k,(zp P0 (zA (N+2)) 15 [.ref tb] fun x2=>zp P0 (zA (N+2)) 2 [] fun x4=>zp P0 (zA (N+2)) 5 [x4] fun x3=>zp P0 (zA (N+2)) 2 [] fun x5=>zp P0 (zA (N+2)) 3 [] fun x6=>zp P0 (zA (N+2)) 8 [.ref tb,x2,x3,.none,.none,x5,x6] k) σ=k (.ref (σ.length+13)) (σ++shL σ.length tb):=fun k=>
  (h0 _).trans (iD.trans (iB.trans (iD.trans (iN.trans (iS.trans (by kernel_rfl))))))
 rintro (_ | _)
 all_goals
  rw [c83,JQ]
  refine (h1 _).trans ?_
 ·exact YH.trans (shRules (tb:=tb) (ju:=σ.length+53) (n:=60) (by kernel_rfl) (by kernel_rfl) (by kernel_rfl))
 ·have hj:∀k,zp P0 (zA (N+2)) 7 [] k (σ++shL σ.length tb)=k (.ref (σ.length+60)) (σ++(shL σ.length tb++jd (σ.length+60) 7)):=fun k=>by
   rw [judge0 rfl rfl (by kernel_rfl),List.length_append,List.append_assoc]; rfl
  refine ZP.trans ((hj _).trans ?_)
  rw [WR (fs:=cfF σ.length tb (σ.length+53) 0) ((Yp 13).trans (by kernel_rfl)) (by kernel_rfl) (ltb (by kernel_rfl)),setA]
  exact shRules (tb:=tb) (ju:=σ.length+60) (n:=62) (by kernel_rfl) (by kernel_rfl) (by kernel_rfl)
theorem sheetC {σ:zG} {tb w:Nat} {z:O} (pl:Bool) (T:Tab σ tb (tb+1) (tb+2) yU) (gt:σ[tb]? =some (.inst 4 (tbF tb))) (h0:σ[0]? =some z) (hz:0 < tb) (ht:tb+2 < σ.length) (hw:w < 700000):
  Ck ⟨tb,σ.length,pl,z⟩ (σ++shF pl σ.length tb) yU ⟨[],[],[],[],[],[],0⟩ w:=by
 obtain ⟨e,he⟩:=T.idx
 have lf:∀ {i o},σ[i]? =some o→(σ++shF pl σ.length tb)[i]? =some o:=fun h=>(List.getElem?_append_left (List.getElem?_eq_some_iff.mp h).1).trans h
 refine ⟨⟨hz,ht⟩,⟨[],e,some 0,some 0,some 0,fun x hx=>?_,rfl,nofun⟩,?_,T.nd,List.prefix_rfl,?_,nofun⟩
 ·have eq:objs ⟨tb,σ.length,pl,z⟩ yU ⟨[],[],[],[],[],[],0⟩ [] e (some 0) (some 0) (some 0)=[(tb+1,.list (yU.map yD)),(tb+2,.dict (jg yU 0) e),(0,z),(tb,.inst 4 (tbF tb))]++(offs pl).map fun c=>(σ.length+c,((shF pl σ.length tb)[c]?).getD z):=by
   rcases pl with _ | _<;>kernel_rfl
  rw [eq] at hx
  rcases List.mem_append.mp hx with hx | hx
  ·exact All.mem (Q:=fun x:Nat×O=>(σ++shF pl σ.length tb)[x.1]? =some x.2) (.cons (lf T.rows) <| .cons (lf he) <| .cons (lf h0) <| .cons (lf gt) .nil) x hx
  ·obtain ⟨c,hc,rfl⟩:=List.mem_map.mp hx
   have o:(offs pl).all (Nat.blt · (shF pl σ.length tb).length)=true:=by rcases pl with _ | _<;>kernel_rfl
   have:=Nat.le_of_ble_eq_true (List.all_eq_true.mp o c hc)
   exact (Yp c).trans (by rw [List.getElem?_eq_getElem this]; rfl)
 ·rw [List.length_append]
  refine Nat.add_le_add_left (Nat.le_of_eq ?_) _
  rcases pl with _ | _<;>kernel_rfl
 ·exact Nat.lt_of_lt_of_le (Nat.add_lt_add_left hw _) (by decide)
end Wk
end
section
namespace Wk
section
variable {σ:zG} {k:K V} {kb:K BM} {n:Nat} {c:C} {cf:CF} {a:List V} {l:List (V×V)} {e:Option Nat}
theorem s_bindPop (h:σ[n]? =some (.list a)):zR P0 (.ref n) (nS "pop") kb σ=kb (.pop n) σ:=(s_o h).trans (show uM (nS "pop") "append" (.append n) (.pop n) kb σ=_ from (s_bj (by kernel_rfl)).trans (s_ck (Fast.sEq_iff.mpr rfl)))
theorem s_bindPopD (h:σ[n]? =some (.dict l e)):zR P0 (.ref n) (nS "pop") kb σ=kb (.dpop n) σ:=(s_o h).trans (show uM (nS "pop") "get" (.dget n) (.dpop n) kb σ=_ from (s_bj (by kernel_rfl)).trans (s_ck (Fast.sEq_iff.mpr rfl)))
theorem s_pop {v:V} (h:σ[n]? =some (.list (a++[v]))) (hl:(a++[v]).length < 1000000):zN cf (.pop n) [] k σ=k v (σ.set n (.list a)):=(s_o h).trans ((Uj (List.getLast?_concat)).trans ((yo hl).trans (by rw [List.dropLast_concat]; rfl)))
theorem s_dpop {x:Int} {d:V} (h:σ[n]? =some (.dict l e)) (hk:yP (.int x) l=true) (hl:l.length < 1000000):zN cf (.dpop n) [.int x,d] k σ=k ((yk (.int x) l).getD d) (σ.set n (.dict (Yh (.int x) l) (Qm (.int x) l e))):=(s_o h).trans (yo ⟨hk,hl⟩)
theorem s_slice0 (h:σ[n]? =some (.list a)) (hl:a.length < 1000000):yA (.ref n) (.int 0) .none k σ=k (.ref σ.length) (σ++[.list a]):=(s_o h).trans (yo ⟨Int.le_refl _,hl⟩)
theorem s_del0 (h:σ[n]? =some (.list a)) (hl:a.length < 1000000):jX (.ref n) (.int 0) c σ=c (σ.set n (.list [])):=(s_o h).trans (yo ⟨Int.le_refl _,Int.natCast_nonneg _,hl⟩)
theorem items_D {e:Nat} (h:σ[n]? =some (.dict l (some e))) (g:yf l=true∧l.length < 1000000):zz (.ref n) σ=some (l.map (·.1),e+1):=by
 show (σ[n]?).bind U5=_
 rw [h]
 show itemsD.bif' (yf l) _=_
 rw [g.1]
 exact if_pos (by rw [List.length_map]; exact g.2)
theorem comp0 {src:V} {m:Nat} {body:V→(Option V→C)→C} (h:zz src σ=some ([],m)):ye src body k σ=k (.ref σ.length) (σ++[.list []]):=Za h
theorem s_tail0 {m:Nat} (h:σ[n]? =some (.list a)) (g:σ[m]? =some (.list [])) (hn:n≠m) (hl:a.length < 1000000):ZC (.ref n) (.int 0) (.ref m) c σ=c (σ.set n (.list [])):=(s_o h).trans ((s_o g).trans (yo ⟨Int.le_refl _,Int.natCast_nonneg _,rfl,hn,hl⟩))
end
section
variable {A:Ad} {σ:zG} {R:List Row} {q:Q} {w N:Nat} {k:K V} {l d:List (Int×Int)} {D:List Dg} {nl dl tr:List Int} {dp:Int}
noncomputable def mk0:V:=.tup [.int 0,.int 0,.int 0,.int 0,.int 0]
theorem Ck.nil (S:Ck A σ R ⟨l,d,[],nl,dl,tr,dp⟩ w):σ[A.t+10]? =some (.list []):=by
 obtain ⟨is,h,g,_⟩:=S.dr
 rw [List.length_eq_zero_iff.mp g] at h
 exact h
theorem markC (S:Ck A σ R ⟨l,d,[],[],dl,[],dp⟩ w):zA (N+1) 45 [.ref A.cx] k σ=k mk0 σ:=
 cl45.trans (S.a_trail.trans ((yY S.tr (ltb rfl)).trans (S.a_drows.trans ((yY S.nil (ltb rfl)).trans (S.a_notes.trans (S.a_nrows.trans ((yY S.nr (ltb rfl)).trans (S.a_later.trans ((yY S.la (ltb rfl)).trans (S.a_called.trans ((s_lenD (S.at (n:=15) fun _ _ _ _ _=>rfl) (ltb rfl)).trans (s_addT (ltb rfl)))))))))))))
theorem Ck.lt (S:Ck A σ R q w):(q.D.length < 900000∧q.nl.length < 900000)∧q.dl.length < 900000∧q.tr.length < 900000∧q.l.length < 900000:=
 have b:∀ {x:Nat},x≤q.sz→x < 900000:=fun h=>lm (Nat.le_trans h (Nat.le_trans (Nat.le_add_left _ _) (Nat.le_trans (Nat.le_add_right _ w) (Nat.le_of_lt S.rm)))) rfl
 ⟨⟨b q.szD,b q.szn⟩,b q.sze,b q.szt,b (Nat.le_trans (Nat.le_trans (Nat.le_trans (Nat.le_trans (Nat.le_add_right _ _) (Nat.le_add_left _ _)) (Nat.le_add_left _ _)) (Nat.le_add_left _ _)) (Nat.le_add_left _ _))⟩
theorem UE {α β:Type} {f:α→β} {l:List α} {n:Nat} (h:l.length < 900000) (g:Nat.ble 900000 n=true):(l.map f).length < n:=by
 rw [List.length_map]
 exact Nat.lt_of_lt_of_le h (Nat.le_of_ble_eq_true g)
theorem dDrop_encU {s:Int}:Yh (.int s) (Jq dl)=Jq (dl.filter fun x=>!decide (x=s)):=by
 unfold Yh Jq
 rw [List.filter_map]
 rfl
theorem backW {T:M Bool} {B:C→C} {kn:C} (hT:∀ {R σ dl tr kb},Ck A σ R ⟨l,d,D,nl,dl,tr,dp⟩ w→T kb σ=kb (decide ((tr.length:Int) > 0)) σ)
  (hB:∀ {R σ dl tr s kc},Ck A σ R ⟨l,d,D,nl,dl,tr++[s],dp⟩ w→Tr A R ⟨l,d,D,nl,dl.filter fun x=>!decide (x=s),tr,dp⟩ w σ (B kc σ) kc):∀ (f:Nat) {R σ dl tr},Ck A σ R ⟨l,d,D,nl,dl,tr,dp⟩ w→tr.length < f→(∀x∈dl,x∈tr)→Tr A R ⟨l,d,D,nl,[],[],dp⟩ w σ (YK T B kn f σ) kn
 | 0,_,_,_,_,_,h,_=>absurd h (Nat.not_lt_zero _)
 | f+1,R,σ,dl,tr,S,h,hs=>by
  rcases List.eq_nil_or_concat tr with e | ⟨tr,s,e⟩
  ·subst e
   have:=List.eq_nil_iff_forall_not_mem.mpr fun x m=>nomatch hs x m
   subst this
   exact Tr.eq (hT S) (Tr.here S)
  ·rw [List.concat_eq_append] at e
   subst e
   rw [List.length_append] at h
   refine Tr.eq ((hT S).trans (by rw [decide_eq_true (by rw [List.length_append]; exact Int.natCast_pos.mpr (Nat.succ_pos _))]; exact s_ift)) ((hB S).bind fun R1 σ1 p1 S1 K1=>?_)
   refine backW hT hB f S1 (Nat.lt_of_succ_lt_succ h) fun x m=>?_
   obtain ⟨m1,m2⟩:=List.mem_filter.mp m
   refine (List.mem_append.mp (hs x m1)).elim id fun m3=>?_
   rw [decide_eq_true (List.mem_singleton.mp m3)] at m2
   cases m2
theorem backC (S:Ck A σ R q w) (h1:q.tr.length < 64) (hs:∀x∈q.dl,x∈q.tr):Tr A R ⟨q.l,q.d,[],[],[],[],q.dp⟩ w σ (zA (N+3) 46 [.ref A.cx,mk0] k σ) (k .none):=by
 obtain ⟨l,d,D,nl,dl,tr,dp⟩:=q
 refine Tr.eq (cl46.trans cl50) ((backW (fun {R σ dl tr kb} S=>?_) (fun {R σ dl tr s kc} S=>?_) 64 S h1 hs).bind fun R1 σ1 p1 S1 K1=>?_)
 ·exact S.a_trail.trans ((yY S.tr (UE S.lt.2.2.1 rfl)).trans ((s_t0 (ltb rfl)).trans ((s_gt _ _).trans (by rw [List.length_map]; rfl))))
 ·have g:=S.tr
  change σ[A.t+27]? =some (.list ((tr++[s]).map enc1)) at g
  have S1:=S.setTr tr (w':=w) (by rw [List.length_append]; exact Nat.add_le_add_right (Nat.le_add_right _ _) _)
  obtain ⟨e,he⟩:=S1.1.de
  have S2:=S1.1.setDe (w':=w) (dl.filter fun x=>!decide (x=s)) (Qm (.int s) (Jq dl) e) (Nat.add_le_add_right (List.length_filter_le _ _) _)
  have lg:=UE (f:=enc1) (n:=1000000) S.lt.2.2.1 rfl
  rw [List.map_append] at g lg
  refine Tr.eq (S.a_trail.trans ((s_bindPop g).trans ((s_pop g lg).trans (s_unp2.trans ((ZZ (x:=1) (y:=0) (b:=false) rfl).trans (YH.trans ((ZZ (x:=1) (y:=1) (b:=true) rfl).trans (ZP.trans (S1.1.a_declared.trans ((s_bindPopD he).trans ((s_dpop he (Jf (g:=fun x:Int=>x) (f:=fun _=>V.int 1)) (UE S1.1.lt.2.1 rfl)).trans ?_))))))))))) (Tr.set S1 (Tr.set S2 (Tr.here S2.1)))
  rw [dDrop_encU]
  rfl
 ·obtain ⟨is,hr,hd,_⟩:=S1.dr
  have ll:(is.map V.ref).length < 1000000:=UE (hd▸S1.lt.1.1) rfl
  have K2:Kp yR σ1 (σ1++[.list (is.map V.ref)]++[.list []]):=Kp.push.trans Kp.push
  have S2:=S1.kp (Kp.push (o:=.list (is.map V.ref)))
  have S3:=S2.kp (Kp.push (o:=.list []))
  have S4:Ck A _ R1 ⟨l,d,[],nl,[],[],dp⟩ w∧_:=S3.setDr [] [] ⟨rfl,nofun⟩ nofun (Nat.add_le_add_right (Nat.zero_le _) _)
  have S5:Ck A _ R1 ⟨l,d,[],[],[],[],dp⟩ w∧_:=S4.1.setNr [] (Nat.add_le_add_right (Nat.zero_le _) _)
  have lb:A.t+10 < σ1.length+1:=Nat.lt_of_lt_of_le (Nat.lt_of_lt_of_le (Nat.add_lt_add_left (Nat.lt_of_lt_of_le (by decide:10 < 66) (Nat.add_le_add_right (by rcases A.pl with _ | _<;>decide:60≤uo A.pl) 6)) _) S1.b0) (Nat.le_succ _)
  refine Tr.push (Tr.push (Tr.set S4 (Tr.set S5 (Tr.push (Tr.push (Tr.eq ?_ (Tr.here ((S5.1.kp (Kp.push (o:=.list []))).kp (Kp.push (o:=.list []))))))))))
  refine S1.a_drows.trans ((XC (ltb rfl)).trans ((s_slice0 hr ll).trans (cl49.trans (S2.a_namer.trans ((s_is _).trans (ZP.trans (ZY.trans (S3.a_drows.trans ((XC (ltb rfl)).trans ((s_tail0 (K2.get hr id) zS ?_ ll).trans ?_))))))))))
  ·rw [List.length_append]; exact Nat.ne_of_lt lb
  refine S4.1.a_notes.trans (S4.1.a_nrows.trans ((s_t2 (ltb rfl)).trans ((s_del0 S4.1.nr (UE S1.lt.1.2 rfl)).trans (S5.1.a_later.trans ((s_t3 (ltb rfl)).trans ((s_del0 S5.1.la (ltb rfl)).trans ?_))))))
  rw [wV S5.1.la]
  exact S5.1.a_called.trans ((comp0 (items_D (S5.1.at (n:=15) fun _ _ _ _ _=>rfl) ⟨rfl,ltb rfl⟩)).trans ((s_t4 (ltb rfl)).trans ((s_slice0 zS (ltb rfl)).trans (jP (yN zS (ltb rfl))))))
end
end Wk
end
section
namespace Wk
section
variable {σ:zG} {k:K V} {m n:Nat} {x y:List (V×V)} {e e':Option Nat}
noncomputable def dE (x y:List (V×V)):Bool:=ZG x&&(ZG y&&(decide (x.length=y.length)&&x.all (Ui y)))
theorem py_D {kb:K Bool} (h:σ[m]? =some (.dict x e)) (h':σ[n]? =some (.dict y e')) (q:dE x y=true):pEq (.ref m) (.ref n) kb σ=kb true σ:=(s_o h).trans ((s_o h').trans ((yo ⟨(zW q).1,(zW (zW q).2).1⟩).trans (congrArg (fun b=>kb b σ) (zW (zW q).2).2)))
theorem s_eqD (h:σ[m]? =some (.dict x e)) (h':σ[n]? =some (.dict y e')) (q:dE x y=true):zL .Eq (.ref m) (.ref n) k σ=k (.bool true) σ:=by unfold zL; exact py_D (kb:=fun r=>k (.bool r)) h h' q
theorem s_neD (h:σ[m]? =some (.dict x e)) (h':σ[n]? =some (.dict y e')) (q:dE x y=true):zL .NotEq (.ref m) (.ref n) k σ=k (.bool false) σ:=by unfold zL; exact py_D (kb:=fun r=>k (.bool (!r))) h h' q
theorem s_neL {l:List V} (h:σ[m]? =some (.list l)) (h':σ[n]? =some (.list l)) (q:J5 l l=true):zL .NotEq (.ref m) (.ref n) k σ=k (.bool false) σ:=by unfold zL; exact (s_o h).trans ((s_o h').trans ((yo (m:=ret _) (k:=fun r=>k (.bool (!r))) q).trans (congrArg (fun b=>k (.bool (!b)) σ) (@decide_eq_true _ (Classical.propDecidable _) rfl))))
theorem s_dget1 {cf:CF} {v:V} (h:σ[n]? =some (.dict x e)) (hk:yP v x=true):zN cf (.dget n) [v] k σ=k ((yk v x).getD .none) σ:=(s_o h).trans (yo hk)
theorem s_dict (h:σ[n]? =some (.dict x e)) (ho:ZG x=true) (hl:x.length < 1000000):zj 3 [.ref n] k σ=k (.ref σ.length) (σ++[.dict x none]):=(s_o h).trans (yo ⟨ho,hl⟩)
end
theorem tyD_ok {l:List (Int×Int)}:ZG (tyD l)=true:=by
 unfold ZG tyD
 rw [List.all_map]
 exact List.all_eq_true.mpr fun _ _=>rfl
theorem ty_same {l:List (Int×Int)} (pw:(l.map (·.1)).Pairwise (· < ·)):dE (tyD l) (tyD l)=true:=by
 unfold dE
 rw [tyD_ok,decide_eq_true rfl]
 refine List.all_eq_true.mpr fun e he=>?_
 obtain ⟨x,hx,rfl⟩:=List.mem_map.mp he
 unfold Ui
 rw [Ua,findK (g:=fun x:Int×Int=>x.1) pw hx]
 exact decide_eq_true rfl
theorem two_ok {α:Type} {f g:α→Int} {l:List α}:J5 (l.map fun x=>.tup [.int (f x),.int (g x)]) (l.map fun x=>.tup [.int (f x),.int (g x)])=true:=by
 have h:∀v∈l.map (fun x=>V.tup [.int (f x),.int (g x)]),yW v=true∧Yu v≤50:=fun v hv=>by
  obtain ⟨x,-,rfl⟩:=List.mem_map.mp hv
  exact ⟨rfl,Nat.le_of_ble_eq_true rfl⟩
 unfold J5
 rw [QC fun v q=>(h v q).1,decide_eq_true (Qp fun v q=>(h v q).2)]; rfl
theorem dGet_fix {l:List Int} {s:Int} {v:V} (h:s∈l):yk (.int s) (l.map fun s=>(V.int s,v))=some v:=by
 unfold yk
 rw [List.find?_map]
 have:(l.find? ((fun e:V×V=>eqV e.1 (.int s))∘fun s=>(V.int s,v))).isSome=true:=List.find?_isSome.mpr ⟨s,h,decide_eq_true rfl⟩
 obtain ⟨y,hy⟩:=Option.isSome_iff_exists.mp this
 rw [hy]; rfl
structure Cx (b:Nat) (σ:zG) (pl:Bool) (l:List (Int×Int)) (s:Blk) (i L T Q G:Nat):Prop where
 root:UA (Lv b σ) s i
 laid:Lv b σ L (.dict (tyD l) none)
 told:Lv b σ T (.list ((tlB pl s).map JU))
 notes:Lv b σ Q (.list ((ntB s).map wH))
 held:Lv b σ G (.dict (UR ((hdB s).foldl jN [])) (some 0))
section
variable {A:Ad} {σ σ':zG} {R R0:List Row} {q:Q} {w N i L T G Qi:Nat} {k:K V} {l d:List (Int×Int)} {s:Blk} {pl:Bool}
theorem Cx.kp {b:Nat} (C:Cx b σ pl l s i L T Qi G) (K:Kb b σ σ'):Cx b σ' pl l s i L T Qi G:=
 ⟨(Node.up (Lv.up K)).2.2.1 _ _ C.root,Lv.up K _ _ C.laid,Lv.up K _ _ C.told,Lv.up K _ _ C.notes,Lv.up K _ _ C.held⟩
theorem runC {h:Nat} (C:Cx A.b0 σ pl l s i L T Qi G) (S:Ck A σ R q (coB s w)) (Y:Hy q R0 R (exB s) (caB s) (2*h)) (hh:htB s≤h) (hN:8*h+5≤N):
  Tr A R (q.tl (taB q.l A.pl s) (ntB s) (hdB s)) w σ ((zD P0 (.ref i) (nS "kids") fun x=>zA (N+1) 56 [.ref A.cx,x] k) σ) (k .none):=by
 obtain ⟨n,s⟩:=s
 obtain ⟨vs,nd,nl⟩:=C.root
 obtain ⟨kl,hb,g,ek⟩:=nd.kids Kp.rfl
 exact Tr.eq (ek _) (rowsW (check.2.1 s) hh hN Y S Kp.rfl nl g nd.len)
theorem trialC {h:Nat} (C:Cx A.b0 σ pl l s i L T Qi G) (S:Ck A σ R ⟨l,d,[],[],[],[],0⟩ (coB s w)) (Y:Hy ⟨l,d,[],[],[],[],0⟩ R0 R (exB s) (caB s) (2*h)) (hh:htB s≤h) (hN:8*h+5≤N) (hs:(hdB s).length < 64):
  Tr A R ⟨l,d,[],[],[],[],0⟩ w σ ((zR P0 (.ref A.cx) (nS "mark") fun b30=>zN (zA (N+3)) b30 [] fun x29=>zD P0 (.ref i) (nS "kids") fun x32=>zA (N+3) 56 [.ref A.cx,x32] fun x31=>zR P0 (.ref A.cx) (nS "back") fun b34=>zN (zA (N+3)) b34 [x29] k) σ) (k .none):=
 Tr.eq (S.b_mark.trans (zv.trans (markC S))) ((runC (N:=N+2) (k:=fun _=>_) C S Y hh (Nat.le_add_right_of_le hN)).bind fun R1 σ1 p1 S1 K1=>Tr.eq (S1.b_back.trans zv) (backC S1 hs fun x m=>(addI_sub _ _ _ m).elim nofun id))
theorem cmp35 {cf:CF} {x21 x25 x23 x27 x17 x26:V} (S:Ck A σ R ⟨l,d,[],[],[],[],0⟩ w):Tr A R ⟨l,d,[],[],[],[],0⟩ w σ (Jl cf (.ref A.cx) x21 x25 x23 x27 x17 x26 k σ) (jG cf x21 (.ref A.cx) x25 x23 x27 x17 x26 k false):=by
 have S1:=S.kp (Kp.push (o:=.dict [] (some 0)))
 have S2:=S1.kp (Kp.push (o:=.dict [] (some 0)))
 have S3:=S2.kp (Kp.push (o:=.list []))
 have S4:=S3.kp (Kp.push (o:=.list []))
 obtain ⟨ed,he⟩:=S1.de
 refine Tr.push (Tr.push (Tr.push (Tr.push (Tr.eq ?_ (Tr.here S4)))))
 exact S.a_declared.trans (ZY.trans ((s_neD he zS rfl).trans (YH.trans (S1.a_bound_decls.trans (ZY.trans ((s_neD (S2.at (n:=16) fun _ _ _ _ _=>rfl) zS rfl).trans (YH.trans (S2.a_drows.trans (ZY.trans ((s_neL S3.nil zS rfl).trans (YH.trans (S3.a_notes.trans (S3.a_nrows.trans (ZY.trans ((s_neL S4.nr zS rfl).trans YH)))))))))))))))
theorem rowsOf {b:Nat} {src:V} {all:List V×Nat} (hs:same src all σ=true):∀ (is:List Nat) (D:List Dg) (acc:List V) (kn:List V→C),DgL b σ is D→yO src all (fun v acc k=>zD P0 v (nS "number") fun x79=>zD P0 v (nS "at") fun x80=>k (acc++[.tup [x79,x80]])) kn (is.map V.ref) acc σ=kn (acc++(D.map pr).map JU) σ
 | [],[],acc,kn,_=>congrArg (kn · σ) (List.append_nil _).symm
 | i::r,x::D,acc,kn,⟨h,g⟩=>by
  have gi:=(g (i,x) (.head _)).2
  refine (yQ (v:=.int x.num) gi (by kernel_rfl) (by kernel_rfl)).trans ((yQ (v:=.int x.pos) gi (by kernel_rfl) (by kernel_rfl)).trans ?_)
  show (match same src all σ with | true=>_ | false=>_)=_
  rw [hs]
  refine (rowsOf hs r D _ kn ⟨Nat.succ.inj h,fun p m=>g p (.tail _ m)⟩).trans ?_
  rw [List.append_assoc]; rfl
 | [],_::_,_,_,h=>nomatch h.1
 | _::_,[],_,_,h=>nomatch h.1
theorem s_neB {x y:Int} {b:Bool} (h:(!decide (x=y))=b):zL .NotEq (.int x) (.int y) k σ=k (.bool b) σ:=h▸ZB x y
theorem intLoop {B:V→C→C} {kn:C} {e:Nat} {x:List (V×V)} {hl:List Int} (hx:yf x=true∧x.length < 1000000) (ek:x.map (·.1)=hl.map V.int) (hB:∀ {R σ x kc w},x∈hl→Ck A σ R q (30+w)→Kb A.b0 σ' σ→Tr A R q w σ (B (.int x) kc σ) kc) (g:Lv A.b0 σ' G (.dict x (some e))):∀ (r:List Int) {R σ},(∀x∈r,x∈hl)→Kb A.b0 σ' σ→Ck A σ R q (30*r.length+w)→
  Tr A R q w σ (yO (α:=Unit) (.ref G) (x.map (·.1),e+1) (fun v _ k=>B v (k ())) (fun _=>kn) (r.map V.int) () σ) kn
 | [],R,σ,_,K,S=>Tr.here (S.le (Nat.le_add_left _ _))
 | y::r,R,σ,h,K,S=>by
  refine (hB (w:=30*r.length+w) (h y (.head _)) (S.le (by rw [List.length_cons]; lia)) K).bind fun R1 σ1 p1 S1 K1=>?_
  have hs:same (.ref G) (x.map (·.1),e+1) σ1=true:=@decide_eq_true _ (Classical.propDecidable _) (items_D (Lv.up (K.trans K1) _ _ g).2 hx)
  show Tr A R1 q w σ1 (match same (.ref G) _ σ1 with | true=>_ | false=>_) kn
  rw [hs]
  exact intLoop hx ek hB g r (fun y m=>h y (.tail _ m)) (K.trans K1) S1
theorem forInt {B:V→C→C} {kn:C} {e:Nat} {x:List (V×V)} {hl:List Int} (hx:yf x=true∧x.length < 1000000) (ek:x.map (·.1)=hl.map V.int) (g:Lv A.b0 σ G (.dict x (some e))) (S:Ck A σ R q (30*hl.length+w)) (hB:∀ {R σ' x kc w},x∈hl→Ck A σ' R q (30+w)→Kb A.b0 σ σ'→Tr A R q w σ' (B (.int x) kc σ') kc):Tr A R q w σ (yL (.ref G) B kn σ) kn:=
 Tr.eq ((jP (items_D g.2 hx)).trans (by rw [ek])) (ek▸intLoop hx ek hB g hl (fun _ h=>h) Kp.rfl S)
theorem hatP:zX ⟨2048,0,[]⟩=[.key 1]:=by kernel_rfl
theorem heldB {hl:List Int} {x:Int} {kc:C} (hx:x∈hl) (hq:q.dl=hl) (hN:4≤N) (S:Ck A σ R q (30+w)) (g:Lv A.b0 σ G (.dict (UR hl) (some 0))):
  Tr A R q w σ ((zD P0 (.ref A.cx) (nS "declared") fun x49=>zR P0 x49 (nS "get") fun b48=>zN (zA N) b48 [.int x] fun x47=>zC (.ref G) (.int x) fun x51=>zA N 73 [.ref A.tb,x51] fun x50=>zL .NotEq x47 x50 fun x46=>zE x46 fun c45=>pIf c45 (k (.bool false)) kc) σ) kc:=by
 obtain ⟨ed,he⟩:=S.de
 have hr:=S.rm
 have C:=JX (r:=17) (leb rfl) false
 rw [show zX (zJ 17 false)=[.key 1] by kernel_rfl] at C
 refine typeP (N:=N) (w:=0) (kd:=⟨2048,0,[]⟩) (S.Tb (leb rfl)) rfl (hatP▸C) hN fun t R1 σ1 p1 hk K1 T1 e1=>?_
 rw [hatP] at hk
 obtain rfl:t=1:=hk.fn T1.tab.nd (KR.one (zw T1.pre (i:=1) rfl) rfl) fun r=>Iff.rfl
 have S1:=S.tabs (w':=w) T1 K1 p1 (Nat.le_trans (Nat.add_le_add_right T1.rm _) (by rw [Nat.add_assoc]; exact Nat.add_le_add_left (Nat.add_le_add_right (leb rfl) w) _))
 have d1:yk (.int x) (Jq q.dl)=some (.int 1):=dGet_fix (hq▸hx)
 exact ⟨R1,σ1,p1,S1.1,S1.2,S.a_declared.trans ((s_bindG he).trans ((s_dget1 he (Jf (g:=fun x:Int=>x) (f:=fun _=>V.int 1))).trans ((s_getD g.2 (Jf (g:=fun x:Int=>x)) (dGet_fix hx)).trans ((e1 _).trans (by rw [d1]; exact (s_neB (x:=1) (y:=1) (b:=false) rfl).trans YH)))))⟩
end
end Wk
end
section
namespace Wk
structure Lw (A:Ad) (l d:List (Int×Int)) (s:Blk) (R0:List Row):Prop where
 ex:∀e∈exB s,okE l R0 e
 ca:∀c∈caB s,okC d c.1 c.2
 pw:(l.map (·.1)).Pairwise (· < ·)
 up:((taB l A.pl s).map dk).Pairwise (· < ·)
 ar:∀x∈taB l A.pl s,okA x.args
 pr:(taB l A.pl s).map pr=tlB A.pl s
 hs:(hdB s).length < 64
 hh:htB s≤5
section
variable {A:Ad} {σ:zG} {R R0:List Row} {w i L T G Qi:Nat} {k:K V} {l d:List (Int×Int)} {s:Blk}
theorem Lw.hy (F:Lw A l d s R0) {D:List Dg} {n h t:List Int} (p:R0<+:R):Hy ⟨l,d,D,n,h,t,0⟩ R0 R (exB s) (caB s) (2*(5:Nat)):=⟨F.ex,F.ca,(by decide:(0:Int)+2*(5:Nat)≤50),p⟩
theorem rows0 {b:Nat} {src:V} {all:List V×Nat} {is:List Nat} {D:List Dg} {t:List (Int×Int)} {kn:List V→C} (hs:same src all σ=true) (h:D.map pr=t) (g:DgL b σ is D):yO src all (fun v acc k=>zD P0 v (nS "number") fun x79=>zD P0 v (nS "at") fun x80=>k (acc++[.tup [x79,x80]])) kn (is.map V.ref) [] σ=kn (t.map JU) σ:=h▸rowsOf hs is D [] kn g
theorem lawEnd (F:Lw A l d s R0) (C:Cx A.b0 σ A.pl l s i L T Qi G) (S:Ck A σ R0 ⟨l,d,[],[],[],[],0⟩ (coB s (coB s (30*((hdB s).foldl jN []).length+coB s w)))):
  Tr A R0 ⟨l,d,taB l A.pl s,ntB s++ntB s,(hdB s).foldl jN ((hdB s).foldl jN []),hdB s++hdB s,0⟩ w σ ((zR P0 (.ref A.cx) (nS "mark") fun b30=>zN (zA 60) b30 [] fun x29=>zD P0 (.ref i) (nS "kids") fun x32=>zA 60 56 [.ref A.cx,x32] fun x31=>zR P0 (.ref A.cx) (nS "back") fun b34=>zN (zA 60) b34 [x29] fun x33=>zD P0 (.ref A.cx) (nS "types") fun x90=>zL .NotEq x90 (.ref L) fun x89=>zE x89 fun c88=>pIf c88 (jG (zA 60) (.ref i) (.ref A.cx) (.ref T) (.ref L) (.ref G) (.ref A.tb) (.ref Qi) k true) (Jl (zA 60) (.ref A.cx) (.ref i) (.ref T) (.ref L) (.ref G) (.ref A.tb) (.ref Qi) k)) σ) (k (.bool true)):=by
 refine (trialC (N:=57) (h:=5) (k:=fun _=>_) C S (F.hy List.prefix_rfl) F.hh (by decide) F.hs).bind fun R1 σ1 p1 S1 K1=>?_
 have C1:=C.kp K1
 obtain ⟨e1,h1⟩:=S1.ty
 refine Tr.eq (S1.a_types.trans ((s_neD h1 C1.laid.2 (ty_same F.pw)).trans YH)) ((cmp35 S1).bind fun R2 σ2 p2 S2 K2=>Tr.eq s_iff ((runC (N:=59) (h:=5) (k:=fun _=>_) (C1.kp K2) S2 (F.hy (p1.trans p2)) F.hh (by decide)).bind fun R3 σ3 p3 S3 K3=>?_))
 have C3:=(C1.kp K2).kp K3
 have p3:=(p1.trans p2).trans p3
 have eE:(taB l A.pl s).foldl Zj []=taB l A.pl s:=add_new _ [] F.up
 change Ck A σ3 R3 ⟨l,d,(taB l A.pl s).foldl Zj [],[]++ntB s,(hdB s).foldl jN [],[]++hdB s,0⟩ _ at S3
 rw [eE,List.nil_append,List.nil_append] at S3
 generalize ehl:(hdB s).foldl jN []=hl at*
 obtain ⟨is,hr,hg⟩:=S3.dr
 have lr:=UE (f:=V.ref) (n:=1000000) (hg.1▸S3.lt.1.1) rfl
 have S4:=S3.kp (Kp.push (o:=.list ((tlB A.pl s).map JU)))
 have C4:=C3.kp (Kb.new (Kp.push (o:=.list ((tlB A.pl s).map JU))))
 obtain ⟨e4,h4⟩:=S4.ty
 obtain ⟨e5,h5⟩:=S4.de
 have g4:=C4.held.2
 rw [ehl] at g4
 have lt:((tlB A.pl s).map JU).length < 1000000:=by rw [← F.pr]; exact List.length_map JU▸UE S3.lt.1.1 rfl
 have ll:(Jq hl).length < 2^40:=UE S3.lt.2.1 rfl
 have ld:(UR hl).length < 2^40:=UE S3.lt.2.1 rfl
 have le:(Jq hl).length=(UR hl).length:=(List.length_map _).trans (List.length_map _).symm
 refine Tr.push (o:=.list ((tlB A.pl s).map JU)) (Tr.eq (S3.a_drows.trans ((Za (yN hr lr)).trans ((rows0 (yv hr lr) F.pr hg).trans ((if_pos lt).trans ((s_neL zS C4.told.2 two_ok).trans (YH.trans (S4.a_notes.trans (S4.a_nrows.trans ((s_neL S4.nr C4.notes.2 two_ok).trans (YH.trans (S4.a_deep.trans ((s_neB (x:=0) (y:=0) (b:=false) rfl).trans (YH.trans (s_iff.trans (S4.a_types.trans ((s_neD h4 C4.laid.2 (ty_same F.pw)).trans (YH.trans (S4.a_declared.trans ((s_lenD h5 ll).trans ((s_lenD g4 ld).trans ((s_neB (b:=false) (by rw [le,decide_eq_true rfl]; rfl)).trans (YH.trans (s_iff.trans rfl))))))))))))))))))))))) ((forInt ⟨?_,UE S3.lt.2.1 rfl⟩ ?_ ⟨C4.held.1,g4⟩ S4 fun m S K=>heldB m rfl (by decide) S (Lv.up K _ _ ⟨C4.held.1,g4⟩)).bind fun R5 σ5 p5 S5 K5=>(runC (N:=59) (h:=5) (k:=fun _=>_) (C4.kp K5) S5 (F.hy (p3.trans p5)) F.hh (by decide)).bind fun R6 σ6 p6 S6 K6=>?_))
 ·unfold yf
  rw [List.all_map]
  exact List.all_eq_true.mpr fun _ _=>rfl
 ·rw [List.map_map]
  rfl
 have C6:=(C4.kp K5).kp K6
 change Ck A σ6 R6 ⟨l,d,(taB l A.pl s).foldl Zj (taB l A.pl s),ntB s++ntB s,(hdB s).foldl jN hl,hdB s++hdB s,0⟩ _ at S6
 rw [add_old _ _ fun x m=>⟨m,F.ar x m⟩] at S6
 obtain ⟨js,h7,h8⟩:=S6.dr
 obtain ⟨e9,h9⟩:=S6.ty
 have lj:(js.map V.ref).length < 2^40:=UE (h8.1▸S6.lt.1.1) rfl
 have lq:((tlB A.pl s).map JU).length=(js.map V.ref).length:=by rw [← F.pr,List.length_map,List.length_map,List.length_map]; exact h8.1.symm
 exact Tr.eq (S6.a_drows.trans ((yY h7 lj).trans ((yY C6.told.2 (lq▸lj)).trans ((ZZ (b:=true) (by rw [lq]; exact decide_eq_true rfl)).trans (ZP.trans (S6.a_types.trans (s_eqD h9 C6.laid.2 (ty_same F.pw)))))))) (Tr.here S6)
end
end Wk
end
section
namespace Wk
theorem dc_sub (cs:List (Int×Int)):((cs.filter ps).map (·.1)).Sublist (nz cs):=by
 have e:cs.filter ps=(cs.filter ((fun m=>!decide (m=0))∘(·.1))).filter ps:=by
  rw [List.filter_filter]
  refine List.filter_congr fun x _=>?_
  unfold ps
  by_cases h:x.1 > 0∧x.2 > 0
  ·have:decide (x.1=0)=false:=decide_eq_false (by lia)
   simp [h,this]
  ·simp [h]
 unfold nz
 rw [e,List.filter_map]
 exact List.filter_sublist.map _
theorem kpP {σ:zG} {L:List O}:Kp yR σ (σ++L):=⟨by rw [List.length_append]; exact Nat.le_add_right _ _,fun i h _=>List.getElem?_append_left h⟩
theorem new3 {a b c:O} {f:V→V→V→C} {σ:zG}:(zU a fun x=>zU b fun y=>zU c fun z=>f x y z) σ=f (.ref σ.length) (.ref (σ.length+1)) (.ref (σ.length+2)) (σ++[a,b,c]):=by
 rw [ZY,ZY,ZY,List.length_append,List.length_append,List.length_append,List.append_assoc,List.append_assoc]; rfl
theorem addI_fold:∀ (hs l:List Int),(hs.foldl jN l).length≤l.length+hs.length:=by
 intro hs
 induction hs with
 | nil=>exact fun l=>Nat.le_refl _
 | cons s hs ih=>exact fun l=>Nat.le_trans (ih _) (Nat.le_trans (Nat.add_le_add_right Qz _) (by rw [Nat.add_assoc,Nat.add_comm 1]; exact Nat.le_refl _))
section
variable {A:Ad} {σ:zG} {k:K V} {n:Int} {lo hi:Z} {s:Sts}
theorem lawB (S:Ck A σ yU ⟨[],[],[],[],[],[],0⟩ 690000) (wb:wB lo (.mk n s) hi) (hz:lo.2 - hi.2≤11) (hh:htL s≤4):
  ZI (fun σ'=>σ'[0]? =some A.z) fun σ'=>(zA 60 76 [.ref A.cx,.tup [.int n,.tup (jL s)]] fun x21=>zD P0 (.ref A.cx) (nS "types") fun x24=>zj 3 [x24] fun x23=>zU (.list []) fun x25=>zU (.list []) fun x26=>zU (.dict [] (some 0)) fun x27=>zA 60 81 [.tup (jL s),x25,x26,x27,.bool A.pl] fun x28=>zR P0 (.ref A.cx) (nS "mark") fun b30=>zN (zA 60) b30 [] fun x29=>zD P0 x21 (nS "kids") fun x32=>zA 60 56 [.ref A.cx,x32] fun x31=>zR P0 (.ref A.cx) (nS "back") fun b34=>zN (zA 60) b34 [x29] fun x33=>zD P0 (.ref A.cx) (nS "types") fun x90=>zL .NotEq x90 x23 fun x89=>zE x89 fun c88=>pIf c88 (jG (zA 60) x21 (.ref A.cx) x25 x23 x27 (.ref A.tb) x26 k true) (Jl (zA 60) (.ref A.cx) x21 x25 x23 x27 (.ref A.tb) x26 k)) σ=k (.bool true) σ':=by
 have cn:∀w,coB (.mk n s) w+12000*(hdL s).length≤165000+w:=fun w=>by
  have:((coB (.mk n s) w:Nat):Int)+12000*((hdL s).length:Nat)+0≤15000*(lo.2 - hi.2)+w:=coS_le.2.2.1 (.mk n s) lo hi wb w
  lia
 have co:∀w,coB (.mk n s) w≤165000+w:=fun w=>Nat.le_trans (Nat.le_add_right _ _) (cn w)
 have hl:(hdL s).length < 14:=Nat.lt_of_not_le fun h=>Nat.not_le.mpr (Nat.lt_of_lt_of_le (show 165000+0 < 12000*14 by decide) (Nat.mul_le_mul_left 12000 h)) (Nat.le_trans (Nat.le_add_left _ _) (cn 0))
 have r0:=(rise [] true).2.2.1 _ wb
 have room:∀H < 14,coB (.mk n s) (coB (.mk n s) (coB (.mk n s) (30*H+coB (.mk n s) 0)))≤690000:=fun H h=>Nat.le_trans (co _) (Nat.le_trans (Nat.add_le_add_left (Nat.le_trans (co _) (Nat.add_le_add_left (Nat.le_trans (co _) (Nat.add_le_add_left (Nat.add_le_add (Nat.mul_le_mul_left 30 (Nat.le_of_lt h)) (co 0)) _)) _)) _) (leb rfl))
 have room:=room ((hdB (.mk n s)).foldl jN []).length (Nat.lt_of_le_of_lt (addI_fold _ []) (by rw [List.length_nil,Nat.zero_add]; exact hl))
 obtain ⟨i,ls,R0,σ1,p1,t1,S1,K1,n1,-,e1⟩:=(made A).2.2.1 (.mk n s) (h:=4) (N:=60) hh (by decide) (S.le room) ⟨Nat.le_refl _,S.b0,r0.ok,r0.ex.pw,by rw [r0.dc]; exact r0.ca.pw.sublist (dc_sub _)⟩
 have r1:=(rise ls A.pl).2.2.1 _ wb
 have pd:(nz (caB (.mk n s))).Pairwise (· < ·):=r1.ca.pw
 have S1:Ck A σ1 R0 ⟨ls,dcB (.mk n s),[],[],[],[],0⟩ _:=S1
 have F:Lw A ls (dcB (.mk n s)) (.mk n s) R0:=⟨okE_of t1 r1.ex.pw,by rw [r1.dc]; exact okC_of pd,r1.ex.pw.sublist t1.keys,r1.ta.pw,r1.ar,r1.pr,Nat.lt_trans hl (ltb rfl),Nat.le_succ_of_le hh⟩
 obtain ⟨et,ht⟩:=S1.ty
 have e2:∀k,zj 3 [.ref (A.t+17)] k σ1=k (.ref σ1.length) (σ1++[.dict (tyD ls) none]):=fun k=>s_dict ht tyD_ok (UE S1.lt.2.2.2 rfl)
 have K2:Kp yR σ1 (σ1++[.dict (tyD ls) none]):=Kp.push
 have g2:(σ1++[O.dict (tyD ls) none])[σ1.length]? =some (.dict (tyD ls) none):=zS
 have l2:(σ1++[O.dict (tyD ls) none]).length=σ1.length+1:=List.length_append
 generalize σ1++[O.dict (tyD ls) none]=σ2 at e2 K2 g2 l2
 have K3:Kp yR σ2 (σ2++[.list [],.list [],.dict [] (some 0)]):=kpP
 have LS:LSt σ2.length (σ2.length+1) (σ2.length+2) (some 0) (σ2++[.list [],.list [],.dict [] (some 0)]) [] [] [] (coB (.mk n s) 0):=⟨Xp,Yp 1,Yp 2,by lia,by lia,by lia,by show 0+(0+(0+coB (.mk n s) 0)) < 900000; rw [Nat.zero_add,Nat.zero_add,Nat.zero_add]; exact lm (co 0) rfl⟩
 refine (look _ _ _ A.pl _).2.2.1 (.mk n s) (h:=4) (N:=60) hh (leb rfl) wb LS fun σ4 K4 L4 e4=>?_
 have X:∀j,j < σ2.length→¬XL σ2.length (σ2.length+1) (σ2.length+2) j:=fun j h q=>by rcases q with q | q | q<;>lia
 have K:Kp yR σ1 σ4:=⟨Nat.le_trans K2.le (Nat.le_trans K3.le K4.le),fun j h _=>(K4.old j (Nat.lt_of_lt_of_le (Nat.lt_of_lt_of_le h K2.le) K3.le) (X j (Nat.lt_of_lt_of_le h K2.le))).trans ((K3.old j (Nat.lt_of_lt_of_le h K2.le) id).trans (K2.old j h id))⟩
 have b1:=S1.b0
 have C:Cx A.b0 σ4 A.pl ls (.mk n s) i σ1.length σ2.length (σ2.length+1) (σ2.length+2):=⟨n1 σ4 (Kb.new K),⟨b1,K4.get (K3.get g2 id) (X _ (by lia))⟩,⟨by lia,L4.told⟩,⟨by lia,L4.notes⟩,by lia,L4.held⟩
 obtain ⟨R5,σ5,-,S5,-,e5⟩:=lawEnd (k:=k) F C (S1.kp K)
 refine ⟨σ5,S5.at (n:=2) fun _ _ _ _ _=>rfl,(e1 _).trans (S1.a_types.trans ((e2 _).trans (new3.trans (.trans ?_ e5))))⟩
 exact (XC (a:=.int n) (l:=[]) (ltb rfl)).symm.trans (e4 _)
end
end Wk
end
section
namespace Wk
noncomputable def Nm (a b:Int) (n:Nat):Prop:=a≤b+n∨1≤b+n
theorem Nm.step {a b c:Int} {n:Nat} (k:Nm b c n) (h:Nl (a - 1) b):Nm a c (n+1):=by
 have e:c+(n+1:Nat)=c+n+1:=(Int.add_assoc c n 1).symm
 unfold Nm
 rw [e]
 rcases k with k | k
 ·rcases h with h | h
  ·exact .inl (Int.le_add_of_sub_right_le (Int.le_trans h k))
  ·exact .inr (Int.le_add_of_nonneg_left (Int.le_trans h k))
 ·exact .inr (Int.le_trans k (Int.le_add_of_nonneg_right (by decide)))
theorem rowsG {A B:Nat} {ns:List Nat} {src:V} {all:List V×Nat} {w:Nat} {G:Prop} {N:Nat} (hs:∀τ,same src all τ=true) (hN:11≤N):∀ (items:List V) {σ:zG} {z:Z} {acc:List V},At A B ns σ z (it (cS 3) items.length w)→
  (∀s y σ',wL z s y→Kp (·=A) σ σ'→At A B ns σ' y w→Nm z.2 y.2 items.length→htL s≤4→(jL s).length=items.length→(∀kn:List V→C,yO src all (fun v acc k=>zA N 71 [.ref B,.ref A,.int 0] fun x=>k (acc++[x])) kn items acc σ=kn (acc++jL s) σ')→G)→G:=by
 intro items
 induction items with
 | nil=>exact fun {σ z acc} S out=>out .nil z σ rfl Kp.rfl S (.inl (Int.le_add_of_nonneg_right (Int.le_refl 0))) (Nat.zero_le _) rfl fun kn=>congrArg (kn · σ) (List.append_nil _).symm
 | cons v items ih=>
  intro σ z acc S out
  exact genS 3 (A:=A) (B:=B) (ns:=ns) (deep:=0) hN rfl S fun s y ws hs1 nl σ1 K1 S1 e1=>ih S1 fun l y' σ2 wl K2 S2 m2 h2 l2 e2=>out (.cons s l) y' σ2 ⟨y,ws,wl⟩ (K1.trans K2) S2 (m2.step nl) (Nat.max_le.mpr ⟨hs1,h2⟩) (congrArg (·+1) l2) fun kn=>yM.trans ((e1 _).trans (turn (hs _) ((e2 kn).trans (by rw [List.append_assoc]; rfl))))
theorem numsC {src:V} {all:List V×Nat} {σ:zG} (hs:same src all σ=true):∀ (l:List Int) (acc:List V) (kn:List V→C),yO src all (fun v acc k=>zT .Mod v (.int 999983) fun x5=>k (acc++[x5])) kn (l.map V.int) acc σ=kn (acc++zk (l.map fun n=>(n.fmod 999983).toNat)) σ
 | [],acc,kn=>congrArg (kn · σ) (List.append_nil _).symm
 | n::l,acc,kn=>yM.trans ((s_mod (by decide)).trans (turn hs ((numsC hs l _ kn).trans (by
  rw [List.append_assoc]
  show kn (acc++(V.int (n.fmod 999983)::_)) σ=kn (acc++(V.int ((n.fmod 999983).toNat:Nat)::_)) σ
  rw [Int.toNat_of_nonneg (Int.fmod_nonneg_of_pos n (by decide))]; rfl))))
inductive St0 (N:Nat) (z:O) (r:K V→Res):Prop
 | mk (σ:zG) (p:Nat) (ms:List Nat) (h:Nums ms) (g:σ[p]? =some (.list (zk ms))) (g0:σ[0]? =some z) (hp:0 < p) (e:∀k,r k=QZ (zA N) k (.ref p) σ):St0 N z r
theorem lawStart {N:Nat} {ns:List Int} {ob:Obj} (hl:ns.length≤63):St0 N (.lit ob (ns.map V.int)) fun k=>zA (N+1) 84 [.ref 0] k [.lit ob (ns.map V.int)]:=by
 have l4:(ns.take 40).length≤63:=Nat.le_trans (List.length_take_le _ _) (leb rfl)
 have g1:([O.lit ob (ns.map V.int)]++[O.list ((ns.map V.int).take 40)])[1]? =some (.list ((ns.take 40).map V.int)):=congrArg (fun l=>some (O.list l)) List.map_take.symm
 have l1:((ns.take 40).map V.int).length < 1000000:=lv (lm l4 rfl)
 have sl:∀k:K V,yA (.ref 0) .none (.int 40) k [.lit ob (ns.map V.int)]=k (.ref 1) ([O.lit ob (ns.map V.int)]++[O.list ((ns.map V.int).take 40)]):=fun k=>if_pos ⟨by decide,lv (lm hl rfl)⟩
 have lm':((ns.take 40).map fun n:Int=>(n.fmod 999983).toNat).length≤63:=by rw [List.length_map]; exact l4
 have bd:∀n∈(ns.take 40).map (fun n:Int=>(n.fmod 999983).toNat),n < 999983:=fun n hn=>by
  obtain ⟨m,-,rfl⟩:=List.mem_map.mp hn
  exact (Int.toNat_lt (Int.fmod_nonneg_of_pos m (by decide))).mpr (Int.fmod_lt_of_pos m (by decide))
 have pre:∀k:K V,zA (N+1) 84 [.ref 0] k [.lit ob (ns.map V.int)]=_:=fun k=>c84.trans ((sl _).trans ((Za (yN g1 l1)).trans ((numsC (yv g1 l1) _ _ _).trans (yo (lv (lm lm' rfl))))))
 generalize (ns.take 40).map (fun n:Int=>(n.fmod 999983).toNat)=ms at*
 have g2:([O.lit ob (ns.map V.int)]++[O.list ((ns.map V.int).take 40)]++[O.list (zk ms)])[2]? =some (.list (zk ms)):=rfl
 have g3:(zk ms).length < 2^40:=lv (lm lm' rfl)
 rcases ms with _ | ⟨m,ms⟩
 ·exact ⟨_,3,[7,3],⟨Nat.zero_lt_succ _,by decide,by decide⟩,rfl,rfl,by decide,fun k=>(pre k).trans ((yY g2 g3).trans (ZZ (b:=true) rfl))⟩
 ·exact ⟨_,2,m::ms,⟨Nat.zero_lt_succ _,lm',bd⟩,rfl,rfl,by decide,fun k=>(pre k).trans ((yY g2 g3).trans (ZZ (b:=false) (decide_eq_false fun h=>Nat.succ_ne_zero _ (Int.ofNat.inj h))))⟩
theorem lawC (ns:List Int) (ob:Obj) (k:K V) (hl:ns.length≤63):ZI (fun σ'=>σ'[0]? =some (.lit ob (ns.map V.int))) fun σ'=>zA 61 84 [.ref 0] k [.lit ob (ns.map V.int)]=k (.bool true) σ':=by
 obtain ⟨σ1,p,ms,hms,g1,g0,hp,e0⟩:=lawStart (N:=60) (ob:=ob) hl
 generalize O.lit ob (ns.map V.int)=z at e0 g0 ⊢
 have K2:Kp yR σ1 (σ1++[O.list [.int 0,.int 0,.int 9]]):=Kp.push
 have S2:At σ1.length p ms (σ1++[O.list [.int 0,.int 0,.int 9]]) (0,9) (it (cS 3) 3 1+1):=⟨⟨0,leb (by kernel_rfl),zS⟩,K2.get g1 id,Nat.ne_of_gt (yV g1),hms⟩
 have ha:0 < σ1.length:=Nat.lt_trans hp (yV g1)
 have z2:=K2.get g0 id
 have kz:∀ {τ τ':zG},Kp (fun i=>i=σ1.length) τ τ'→τ[0]? =some z→τ'[0]? =some z:=fun K h=>K.get h (Nat.ne_of_lt ha)
 have e2:∀ {kn:K V},(zU (.list [.int 0,.int 0,.int 9]) kn) σ1=kn (.ref σ1.length) (σ1++[O.list [.int 0,.int 0,.int 9]]):=ZY
 generalize σ1.length=a at*
 refine Jr S2 (N:=60) (leb rfl) 3 (leb rfl) fun r hr σ3 K3 S3 e1=>?_
 have ln:(zk (List.range (1+r))).length=1+r:=(List.length_map _).trans List.length_range
 refine rowsG (src:=.rng (1+r)) (all:=(zk (List.range (1+r)),0)) (fun τ=>same_rng) (N:=60) (leb rfl) (zk (List.range (1+r))) (acc:=[]) (w:=1) (S3.le (Jw (uK 3) (Nat.le_trans (Nat.le_of_eq ln) (Nat.add_le_add_left (Nat.le_of_lt_succ hr) 1)))) fun s y σ4 ws K4 S4 hm hh hlen e4=>?_
 rw [ln] at hm hlen
 have l5:(jL s).length≤3:=hlen▸Nat.add_le_add_left (Nat.le_of_lt_succ hr) 1
 have g5:(σ4++[O.list (jL s)])[σ4.length]? =some (.list (jL s)):=zS
 have S5:=S4.kp (Kp.push (o:=.list (jL s)))
 have z5:=(Kp.push (X:=yR) (o:=.list (jL s))).get (kz (K3.trans K4) z2) id
 have e5:∀kn:K V,_=kn (.tup (jL s)) (σ4++[O.list (jL s)]):=fun kn=>(e4 (WK fun x=>zj 2 [x] kn)).trans ((yo (lm l5 rfl)).trans (XB g5 (lm l5 rfl)))
 generalize σ4++[O.list (jL s)]=σ5 at S5 z5 e5
 obtain ⟨σ6,K6,T6,f6,l6,e6⟩:=tableI (σ:=σ5) (N:=58)
 have hat:a < σ5.length:=S5.lt
 refine Jr (S5.kp K6) (N:=60) (leb rfl) 3 (leb rfl) fun r2 hr2 σ7 K7 S7 e7=>?_
 have z7:=kz K7 (K6.get z5 id)
 have na:∀j,σ5.length+j≠a:=fun j q=>by lia
 have T7:=T6.kpX K7 (na 0) (na 1) (na 2)
 have f7:=K7.get f6 (na 0)
 have l7:σ5.length+2 < σ7.length:=by have:=K7.le; lia
 generalize hpl:(!decide ((r2:Int)=1))=pl
 have S8:=sheetC (w:=690000) pl T7 f7 z7 (Nat.lt_trans ha hat) l7 (by decide)
 have A8:=S7.kp (kpP (L:=shF pl σ7.length σ5.length))
 refine next A8 (N:=60) (leb rfl) fun σ8 K8 _ e8=>?_
 obtain ⟨σ9,z9,e9⟩:=lawB (k:=k) (n:=y.1+1) (lo:=(0,9)) (hi:=(y.1+1,y.2)) (S8.kpA (a:=a) (Nat.ne_of_gt ha) hat K8) ⟨y,ws,rfl,rfl,l5⟩ (show 9 - y.2≤11 by rcases hm with hm | hm<;>(change (_:Int)≤y.2+(1+r:Nat) at hm; lia)) hh
 refine ⟨σ9,z9,(e0 k).trans (e2.trans ((e1 _).trans ((s_add _ _).trans ?_)))⟩
 rw [show (1+(r:Int))=((1+r:Nat):Int) by lia]
 refine (Zz (by lia)).trans ((Za (jU (by lia))).trans ((e5 _).trans ((e6 _).trans ((e7 _).trans ((ZB _ _).trans ?_)))))
 rw [hpl]
 exact (sheetI pl).trans ((e8 _).trans e9)
end Wk
end
namespace Wk
theorem plain61:Q0 61:=fun ns ob hl=>by
 obtain ⟨σ',h,e⟩:=lawC ns ob (fun v s=>some (v,s)) hl
 exact ⟨σ',e,h⟩
end Wk
theorem PySem.Challenge.cw_qd0083_01_holds : PySem.Challenge.rw_qd0083_01.Holds := by
  exact Wk.holds_of (by decide) Wk.plain61
