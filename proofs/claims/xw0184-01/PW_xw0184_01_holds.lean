import PyProof.Rows.All
import Wide.All
import OpenK.AllK
import Wide.FinOn
import Lean
import PySem.Challenge.RW_xw0184_01
set_option Elab.async false
set_option linter.all false
set_option maxRecDepth 100000
set_option maxHeartbeats 8000000
set_option tactic.hygienic false
namespace Mine
section
open PySem
theorem nos {α:Type}{a:α}{p:Prop}(h:(none:Option α)=some a):p:=nomatch h
theorem nob {p:Prop}(h:false=true):p:=nomatch h
theorem byK {G:Prop}(h:∀ P:Prop,(G->P)->P):G:=h G id
inductive Ex2 {α:Type}{β:Type}(p:α->β->Prop):Prop | mk (a0:α) (a1:β) (h:p a0 a1):Ex2 p
inductive Ex3 {α:Type}{β:Type}{γ:Type}(p:α->β->γ->Prop):Prop | mk (a0:α) (a1:β) (a2:γ) (h:p a0 a1 a2):Ex3 p
inductive Ex4 {α:Type}{β:Type}{γ:Type}{δ:Type}(p:α->β->γ->δ->Prop):Prop | mk (a0:α) (a1:β) (a2:γ) (a3:δ) (h:p a0 a1 a2 a3):Ex4 p
inductive Ex5 {α:Type}{β:Type}{γ:Type}{δ:Type}{ε:Type}(p:α->β->γ->δ->ε->Prop):Prop | mk (a0:α) (a1:β) (a2:γ) (a3:δ) (a4:ε) (h:p a0 a1 a2 a3 a4):Ex5 p
inductive Ex6 {α:Type}{β:Type}{γ:Type}{δ:Type}{ε:Type}{ζ:Type}(p:α->β->γ->δ->ε->ζ->Prop):Prop | mk (a0:α) (a1:β) (a2:γ) (a3:δ) (a4:ε) (a5:ζ) (h:p a0 a1 a2 a3 a4 a5):Ex6 p
inductive Ex7 {α:Type}{β:Type}{γ:Type}{δ:Type}{ε:Type}{ζ:Type}{η:Type}(p:α->β->γ->δ->ε->ζ->η->Prop):Prop | mk (a0:α) (a1:β) (a2:γ) (a3:δ) (a4:ε) (a5:ζ) (a6:η) (h:p a0 a1 a2 a3 a4 a5 a6):Ex7 p
inductive Ex8 {α:Type}{β:Type}{γ:Type}{δ:Type}{ε:Type}{ζ:Type}{η:Type}{θ:Type}(p:α->β->γ->δ->ε->ζ->η->θ->Prop):Prop | mk (a0:α) (a1:β) (a2:γ) (a3:δ) (a4:ε) (a5:ζ) (a6:η) (a7:θ) (h:p a0 a1 a2 a3 a4 a5 a6 a7):Ex8 p
inductive Ex9 {α:Type}{β:Type}{γ:Type}{δ:Type}{ε:Type}{ζ:Type}{η:Type}{θ:Type}{κ:Type}(p:α->β->γ->δ->ε->ζ->η->θ->κ->Prop):Prop | mk (a0:α) (a1:β) (a2:γ) (a3:δ) (a4:ε) (a5:ζ) (a6:η) (a7:θ) (a8:κ) (h:p a0 a1 a2 a3 a4 a5 a6 a7 a8):Ex9 p
inductive Ex10 {α:Type}{β:Type}{γ:Type}{δ:Type}{ε:Type}{ζ:Type}{η:Type}{θ:Type}{κ:Type}{μ:Type}(p:α->β->γ->δ->ε->ζ->η->θ->κ->μ->Prop):Prop | mk (a0:α) (a1:β) (a2:γ) (a3:δ) (a4:ε) (a5:ζ) (a6:η) (a7:θ) (a8:κ) (a9:μ) (h:p a0 a1 a2 a3 a4 a5 a6 a7 a8 a9):Ex10 p
inductive Ex11 {α:Type}{β:Type}{γ:Type}{δ:Type}{ε:Type}{ζ:Type}{η:Type}{θ:Type}{κ:Type}{μ:Type}{ν:Type}(p:α->β->γ->δ->ε->ζ->η->θ->κ->μ->ν->Prop):Prop | mk (a0:α) (a1:β) (a2:γ) (a3:δ) (a4:ε) (a5:ζ) (a6:η) (a7:θ) (a8:κ) (a9:μ) (a10:ν) (h:p a0 a1 a2 a3 a4 a5 a6 a7 a8 a9 a10):Ex11 p
inductive Ex12 {α:Type}{β:Type}{γ:Type}{δ:Type}{ε:Type}{ζ:Type}{η:Type}{θ:Type}{κ:Type}{μ:Type}{ν:Type}{ξ:Type}(p:α->β->γ->δ->ε->ζ->η->θ->κ->μ->ν->ξ->Prop):Prop | mk (a0:α) (a1:β) (a2:γ) (a3:δ) (a4:ε) (a5:ζ) (a6:η) (a7:θ) (a8:κ) (a9:μ) (a10:ν) (a11:ξ) (h:p a0 a1 a2 a3 a4 a5 a6 a7 a8 a9 a10 a11):Ex12 p
structure And3 (A B C:Prop):Prop where
 h1:A
 h2:B
 h3:C
structure And4 (A B C D:Prop):Prop where
 h1:A
 h2:B
 h3:C
 h4:D
structure And5 (A B C D E:Prop):Prop where
 h1:A
 h2:B
 h3:C
 h4:D
 h5:E
structure And6 (A B C D E F:Prop):Prop where
 h1:A
 h2:B
 h3:C
 h4:D
 h5:E
 h6:F
structure And7 (A B C D E F G:Prop):Prop where
 h1:A
 h2:B
 h3:C
 h4:D
 h5:E
 h6:F
 h7:G
structure And8 (A B C D E F G H:Prop):Prop where
 h1:A
 h2:B
 h3:C
 h4:D
 h5:E
 h6:F
 h7:G
 h8:H
structure And9 (A B C D E F G H I:Prop):Prop where
 h1:A
 h2:B
 h3:C
 h4:D
 h5:E
 h6:F
 h7:G
 h8:H
 h9:I
structure And10 (A B C D E F G H I J:Prop):Prop where
 h1:A
 h2:B
 h3:C
 h4:D
 h5:E
 h6:F
 h7:G
 h8:H
 h9:I
 h10:J
structure And11 (A B C D E F G H I J K:Prop):Prop where
 h1:A
 h2:B
 h3:C
 h4:D
 h5:E
 h6:F
 h7:G
 h8:H
 h9:I
 h10:J
 h11:K
structure And12 (A B C D E F G H I J K L:Prop):Prop where
 h1:A
 h2:B
 h3:C
 h4:D
 h5:E
 h6:F
 h7:G
 h8:H
 h9:I
 h10:J
 h11:K
 h12:L
set_option genSizeOf false in
inductive V where
 | none | bool (b:Bool) | int (i:Int) | str (s:List Nat) | tup (l:List V) | lst (l:List V) | ref (i:Nat) | fn (k:Nat)
inductive BI where
 | len | min | max | int | str | tuple | list | range
 deriving DecidableEq
inductive Op2 where
 | add | sub | mul | mod | fdiv | pow
 deriving DecidableEq
inductive Cm where
 | eq | ne | lt | le | gt | ge | is | isnot | in | notin
 deriving DecidableEq
set_option genInjectivity false in
set_option genSizeOf false in
inductive CE where
 | k (v:V)
 | loc (i:Nat)
 | cel (i:Nat)
 | glob (g:Nat)
 | bin (op:Op2) (a b:CE)
 | neg (a:CE)
 | cmp (op:Cm) (a b:CE)
 | and (l:List CE)
 | or (l:List CE)
 | not (a:CE)
 | ite (t a b:CE)
 | tup (l:List CE)
 | lst (l:List CE)
 | call (f:CE) (args:List CE)
 | bi (b:BI) (args:List CE)
 | meth (o:CE) (f:Nat) (args:List CE)
 | app (o x:CE)
 | ext (o x:CE)
 | mkw (x:CE)
 | attr (o:CE) (a:Nat)
 | idx (o i:CE)
 | slc (o:CE) (lo hi:Option CE)
 | lam (ps:List Nat) (n:Nat) (frees:List (Nat×Nat)) (body:CE)
 | comp (elt:CE) (tgt:List Nat) (single:Bool) (iter:CE) (ifs:List CE) (n:Nat) (frees:List (Nat×Nat))
 | bad
set_option genInjectivity false in
set_option genSizeOf false in
inductive CT where
 | loc (i:Nat) | cel (i:Nat) | attr (o:CE) (a:Nat) | idx (o i:CE) | tup (l:List CT)
set_option genInjectivity false in
set_option genSizeOf false in
inductive CS where
 | expr (e:CE)
 | ret (e:CE)
 | asg (t:CT) (e:CE)
 | swp (ts:List Nat) (e:CE)
 | aug (t:CT) (op:Op2) (e:CE)
 | iff (t:CE) (a b:List CS)
 | whl (t:CE) (b:List CS)
 | for (t:CT) (e:CE) (b:List CS)
 | forR (t:CT) (e:CE) (b:List CS)
 | brk
 | raise (m s:CE)
 | tryR (b:List CS)
 | bad
noncomputable abbrev Env:=List (Option V)
set_option genSizeOf false in
inductive O where
 | list (l:List V)
 | inst (j:Nat)
 | dict (l:List (Nat×V))
 | cell (v:Option V)
 | clo (ps:List Nat) (ρ:Env) (body:CE)
noncomputable def gnames:List Str:=(["INT_KINDS", "KEYWORDS", "SIGNS", "NAME_BEGINS", "NAME_SIGNS", "FIGURES", "BLANKS", "MOST_DEEP", "PATH_WORDS",
 "run_end", "blank_end", "read_sign", "read_word", "word_rows", "read_words",
 "read_type", "read_shallow_type", "read_spath", "read_segment", "read_path_name", "is_closed", "read_generics", "read_param",
 "read_pub", "read_fn", "read_params", "read_self", "read_named_fields", "read_tuple_fields", "read_form", "read_struct", "read_fns",
 "_law_pool", "_law_take", "_law_one", "_law_written", "_law_heard", "_law_type", "_law_first", "_law_fields", "_law_row_of",
 "_law_fields_right", "_law_struct_right", "_law_fns_right", "_law_text_right", "_law_told_right", "law"]:List String).map Str.ofString
noncomputable def mnames:List Str:=(["__init__", "deeper", "shallower", "peek", "take", "looks", "expect", "name", "split_close"]:List String).map Str.ofString
noncomputable def m0:Nat:=60
noncomputable def anames:List Str:=(["rows", "at", "deep"]:List String).map Str.ofString
noncomputable def bnames:List (Str×BI):=[("len", .len),("min", .min),("max", .max),("int", .int),("str", .str),("tuple", .tuple),("list", .list),("range", .range)]
noncomputable def Qcy (l:List Str) (x:Str):Option Nat:=l.findIdx? (·==x)
noncomputable def Qaf (sc:Scope) (x:Str):Option Nat:=sc.names.findIdx? (·.1==x)
noncomputable def kindOf (sc:Scope) (x:Str):Option NameKind:=sc.names.lookup x
noncomputable def op2:Operator->Option Op2
 | .Add=>some .add | .Sub=>some .sub | .Mult=>some .mul | .Mod=>some .mod | .FloorDiv=>some .fdiv | .Pow=>some .pow
 | _=>none
noncomputable def cmOf:CmpOp->Cm
 | .Eq=>.eq | .NotEq=>.ne | .Lt=>.lt | .LtE=>.le | .Gt=>.gt | .GtE=>.ge | .Is=>.is | .IsNot=>.isnot | .In=>.in | .NotIn=>.notin
noncomputable def constOf:Const->Option V
 | .none=>some .none | .bool b=>some (.bool b) | .int i=>some (.int i) | .str s=>some (.str s.cps.toList) | _=>none
noncomputable def qNm (e:Expr):Option (Str×Pos):=if h:e.ctorIdx=23 then Expr.Name.elim (motive_1:=λ _=>Option (Str×Pos)) e h λ x p=>some (x,p) else none
theorem Qbw {e:Expr}{q:Str×Pos}(h:qNm e=some q):e=.Name q.1 q.2:=by
 unfold qNm at h
 split at h
 ·rename_i hi
  exact Expr.Name.elim (motive_1:=λ e=>∀ hi:e.ctorIdx=23,Expr.Name.elim (motive_1:=λ _=>Option (Str×Pos)) e hi (λ x p=>some (x,p))=some q->e=.Name q.1 q.2) e hi (λ x p _ h=>Option.some.inj h▸rfl) hi h
 ·exact nomatch h
noncomputable def qAt (e:Expr):Option (Expr×Str×Pos):=if h:e.ctorIdx=20 then Expr.Attribute.elim (motive_1:=λ _=>Option (Expr×Str×Pos)) e h λ o a p=>some (o,a,p) else none
theorem QgL {e:Expr}{q:Expr×Str×Pos}(h:qAt e=some q):e=.Attribute q.1 q.2.1 q.2.2:=by
 unfold qAt at h
 split at h
 ·rename_i hi
  exact Expr.Attribute.elim (motive_1:=λ e=>∀ hi:e.ctorIdx=20,Expr.Attribute.elim (motive_1:=λ _=>Option (Expr×Str×Pos)) e hi (λ o a p=>some (o,a,p))=some q->e=.Attribute q.1 q.2.1 q.2.2) e hi (λ o a p _ h=>Option.some.inj h▸rfl) hi h
 ·exact nomatch h
noncomputable def qTu (e:Expr):Option (List Expr×Nat×Pos):=if h:e.ctorIdx=25 then Expr.Tuple.elim (motive_1:=λ _=>Option (List Expr×Nat×Pos)) e h λ l k p=>some (l,k,p) else none
theorem Qfa {e:Expr}{q:List Expr×Nat×Pos}(h:qTu e=some q):e=.Tuple q.1 q.2.1 q.2.2:=by
 unfold qTu at h
 split at h
 ·rename_i hi
  exact Expr.Tuple.elim (motive_1:=λ e=>∀ hi:e.ctorIdx=25,Expr.Tuple.elim (motive_1:=λ _=>Option (List Expr×Nat×Pos)) e hi (λ l k p=>some (l,k,p))=some q->e=.Tuple q.1 q.2.1 q.2.2) e hi (λ l k p _ h=>Option.some.inj h▸rfl) hi h
 ·exact nomatch h
noncomputable def qLC (e:Expr):Option (Expr×List Comprehension×Scope×Pos):=if h:e.ctorIdx=8 then Expr.ListComp.elim (motive_1:=λ _=>Option (Expr×List Comprehension×Scope×Pos)) e h λ e g s p=>some (e,g,s,p) else none
theorem QmN {e:Expr}{q:Expr×List Comprehension×Scope×Pos}(h:qLC e=some q):e=.ListComp q.1 q.2.1 q.2.2.1 q.2.2.2:=by
 unfold qLC at h
 split at h
 ·rename_i hi
  exact Expr.ListComp.elim (motive_1:=λ e=>∀ hi:e.ctorIdx=8,Expr.ListComp.elim (motive_1:=λ _=>Option (Expr×List Comprehension×Scope×Pos)) e hi (λ e g s p=>some (e,g,s,p))=some q->e=.ListComp q.1 q.2.1 q.2.2.1 q.2.2.2) e hi (λ e g s p _ h=>Option.some.inj h▸rfl) hi h
 ·exact nomatch h
noncomputable def Qgx (e:Expr):Option (Expr×List Expr×List Keyword×Pos):=if h:e.ctorIdx=16 then Expr.Call.elim (motive_1:=λ _=>Option (Expr×List Expr×List Keyword×Pos)) e h λ f a k p=>some (f,a,k,p) else none
theorem QdC {e:Expr}{q:Expr×List Expr×List Keyword×Pos}(h:Qgx e=some q):e=.Call q.1 q.2.1 q.2.2.1 q.2.2.2:=by
 unfold Qgx at h
 split at h
 ·rename_i hi
  exact Expr.Call.elim (motive_1:=λ e=>∀ hi:e.ctorIdx=16,Expr.Call.elim (motive_1:=λ _=>Option (Expr×List Expr×List Keyword×Pos)) e hi (λ f a k p=>some (f,a,k,p))=some q->e=.Call q.1 q.2.1 q.2.2.1 q.2.2.2) e hi (λ f a k p _ h=>Option.some.inj h▸rfl) hi h
 ·exact nomatch h
noncomputable def Qln (e:Expr):Option (Const×Nat×Pos):=if h:e.ctorIdx=19 then Expr.Constant.elim (motive_1:=λ _=>Option (Const×Nat×Pos)) e h λ c k p=>some (c,k,p) else none
theorem QkI {e:Expr}{q:Const×Nat×Pos}(h:Qln e=some q):e=.Constant q.1 q.2.1 q.2.2:=by
 unfold Qln at h
 split at h
 ·rename_i hi
  exact Expr.Constant.elim (motive_1:=λ e=>∀ hi:e.ctorIdx=19,Expr.Constant.elim (motive_1:=λ _=>Option (Const×Nat×Pos)) e hi (λ c k p=>some (c,k,p))=some q->e=.Constant q.1 q.2.1 q.2.2) e hi (λ c k p _ h=>Option.some.inj h▸rfl) hi h
 ·exact nomatch h
noncomputable def Qlm (e:Expr):Option (Option Expr×Option Expr×Option Expr×Pos):=if h:e.ctorIdx=26 then Expr.Slice.elim (motive_1:=λ _=>Option (Option Expr×Option Expr×Option Expr×Pos)) e h λ a b c p=>some (a,b,c,p) else none
theorem QkE {e:Expr}{q:Option Expr×Option Expr×Option Expr×Pos}(h:Qlm e=some q):e=.Slice q.1 q.2.1 q.2.2.1 q.2.2.2:=by
 unfold Qlm at h
 split at h
 ·rename_i hi
  exact Expr.Slice.elim (motive_1:=λ e=>∀ hi:e.ctorIdx=26,Expr.Slice.elim (motive_1:=λ _=>Option (Option Expr×Option Expr×Option Expr×Pos)) e hi (λ a b c p=>some (a,b,c,p))=some q->e=.Slice q.1 q.2.1 q.2.2.1 q.2.2.2) e hi (λ a b c p _ h=>Option.some.inj h▸rfl) hi h
 ·exact nomatch h
noncomputable def QnM (e:Expr):Option (List Expr×Pos):=if h:e.ctorIdx=24 then Expr.List.elim (motive_1:=λ _=>Option (List Expr×Pos)) e h λ l p=>some (l,p) else none
theorem QkG {e:Expr}{q:List Expr×Pos}(h:QnM e=some q):e=.List q.1 q.2:=by
 unfold QnM at h
 split at h
 ·rename_i hi
  exact Expr.List.elim (motive_1:=λ e=>∀ hi:e.ctorIdx=24,Expr.List.elim (motive_1:=λ _=>Option (List Expr×Pos)) e hi (λ l p=>some (l,p))=some q->e=.List q.1 q.2) e hi (λ l p _ h=>Option.some.inj h▸rfl) hi h
 ·exact nomatch h
noncomputable def Qlv (e:Expr):Option (Expr×Expr×Pos):=if h:e.ctorIdx=21 then Expr.Subscript.elim (motive_1:=λ _=>Option (Expr×Expr×Pos)) e h λ o i p=>some (o,i,p) else none
theorem QkD {e:Expr}{q:Expr×Expr×Pos}(h:Qlv e=some q):e=.Subscript q.1 q.2.1 q.2.2:=by
 unfold Qlv at h
 split at h
 ·rename_i hi
  exact Expr.Subscript.elim (motive_1:=λ e=>∀ hi:e.ctorIdx=21,Expr.Subscript.elim (motive_1:=λ _=>Option (Expr×Expr×Pos)) e hi (λ o i p=>some (o,i,p))=some q->e=.Subscript q.1 q.2.1 q.2.2) e hi (λ o i p _ h=>Option.some.inj h▸rfl) hi h
 ·exact nomatch h
noncomputable def QnL (e:Stmt):Option (Option Expr×Pos):=if h:e.ctorIdx=3 then Stmt.Return.elim (motive_2:=λ _=>Option (Option Expr×Pos)) e h λ v p=>some (v,p) else none
theorem QkF {e:Stmt}{q:Option Expr×Pos}(h:QnL e=some q):e=.Return q.1 q.2:=by
 unfold QnL at h
 split at h
 ·rename_i hi
  exact Stmt.Return.elim (motive_2:=λ e=>∀ hi:e.ctorIdx=3,Stmt.Return.elim (motive_2:=λ _=>Option (Option Expr×Pos)) e hi (λ v p=>some (v,p))=some q->e=.Return q.1 q.2) e hi (λ v p _ h=>Option.some.inj h▸rfl) hi h
 ·exact nomatch h
noncomputable def Qbu (sc:Scope):List Expr->Option (List Nat)
 | []=>some []
 | e::r=>match qNm e with
  | some q=>if kindOf sc q.1=some .local then (do let i <- Qaf sc q.1;let l <- Qbu sc r;pure (i::l)) else none
  | none=>none
noncomputable def QaE (inner outer:Scope):Option (List (Nat×Nat)):=
 if inner.names.all (λ q=>kindOf inner q.1==some q.2)=false then none else
 (inner.names.filter (·.2==.free)).mapM λ q=>
  match Qaf inner q.1,Qaf outer q.1 with
  | some i,some o=>if kindOf outer q.1=some .cell∨kindOf outer q.1=some .free then some (i,o) else none
  | _,_=>none
noncomputable def QaN (a:Arguments):Option (List Str):=
 if a.posonlyargs.isEmpty&&a.vararg.isNone&&a.kwonlyargs.isEmpty&&a.kw_defaults.isEmpty&&a.kwarg.isNone then some (a.args.map (·.arg)) else none
noncomputable def name? (sc:Scope) (x:Str):CE:=
 if x==("__debug__" : Str)||x==("__classdict__" : Str) then .bad else
 match kindOf sc x with
 | some .local=>(match Qaf sc x with | some i=>.loc i | none=>.bad)
 | some .cell | some .free=>(match Qaf sc x with | some i=>.cel i | none=>.bad)
 | some .globalImplicit=>(match Qcy gnames x with | some g=>.glob g | none=>.bad)
 | _=>.bad
noncomputable def QaZ (s:Scope):Bool:=s.kind==.function&&!s.isCoroutine&&!s.isGenerator&&s.names.all (λ q=>q.2 != .cell)
noncomputable def QbW (e:Expr):Bool:=!Nat.beq e.ctorIdx 22
noncomputable def QaB (l:List Expr):Bool:=l.all QbW&&decide (l.length<28)
noncomputable def QbS (e:Expr):Bool:=Nat.beq e.ctorIdx 7
noncomputable def cU (c:Expr->CE) (op:UnaryOp) (a:Expr):CE:=match op with
 | .Not=>.not (c a)
 | .USub=>(match Qln a with
  | some q=>(match q.1 with | .int i=>.k (.int (-i)) | _=>.bad)
  | none=>.bad)
 | _=>.bad
noncomputable def QnY (c:Expr->CE) (a:Expr) (ops:List CmpOp) (rs:List Expr):CE:=match ops,rs with
 | [op],[b]=>if QbS b then .bad else .cmp (cmOf op) (c a) (c b)
 | _,_=>.bad
noncomputable def Qkb (c:Expr->CE) (op:BoolOp) (l:List Expr):CE:=match op with
 | .And=>.and (l.map c)
 | .Or=>.or (l.map c)
noncomputable def cCN (c:Expr->CE) (sc:Scope) (f:Str) (p:Pos) (args:List Expr):CE:=
 if !QaB args then .bad else if kindOf sc f=some .globalImplicit&&f == "Words" then (match args with | [x]=>.mkw (c x) | _=>.bad)
 else match (if kindOf sc f=some .globalImplicit then bnames.lookup f else none) with
  | some b=>.bi b (args.map c)
  | none=>.call (c (.Name f p)) (args.map c)
noncomputable def cCA (c:Expr->CE) (o:Str) (op:Pos) (m:Str) (ap:Pos) (args:List Expr) (p:Pos):CE:=
 if !QaB args||!(ap.endLine==p.line) then .bad else
 if m == "append" then (match args with | [x]=>.app (c (.Name o op)) (c x) | _=>.bad)
 else if m == "extend" then (match args with | [x]=>.ext (c (.Name o op)) (c x) | _=>.bad)
 else match Qcy mnames m with
  | some f=>.meth (c (.Name o op)) (m0+f) (args.map c)
  | none=>.bad
noncomputable def QgC (c:Expr->CE) (sc:Scope) (f:Expr) (args:List Expr) (ks:List Keyword) (p:Pos):CE:=match ks with
 | []=>(match qNm f with
  | some q=>cCN c sc q.1 q.2 args
  | none=>(match qAt f with
   | some z=>(match qNm z.1 with
    | some q=>cCA c q.1 q.2 z.2.1 z.2.2 args p
    | none=>.bad)
   | none=>.bad))
 | _::_=>.bad
noncomputable def Qik (c:Expr->CE) (o:Expr) (a:Str):CE:=match qNm o with
 | some q=>(match Qcy anames a with | some a=>.attr (c (.Name q.1 q.2)) a | none=>.bad)
 | none=>.bad
noncomputable def QnC (c:Expr->CE) (o i:Expr):CE:=match Qlm i with
 | some q=>(match q.2.2.1 with | none=>.slc (c o) (q.1.map c) (q.2.1.map c) | some _=>.bad)
 | none=>.idx (c o) (c i)
noncomputable def Qlx (cb:Scope->Expr->CE) (b:Bool) (sc:Scope) (ps:Arguments) (body:Expr) (s:Scope):CE:=if !b||!QaZ s then .bad else
   (match QaN ps,ps.defaults,QaE s sc with
    | some xs,[],some fr=>if xs.all (λ x=>kindOf s x==some .local)&&decide xs.Nodup then (match xs.mapM (Qaf s) with | some is=>.lam is s.names.length fr (cb s body) | none=>.bad) else .bad
    | _,_,_=>.bad)
noncomputable def QnX (c:Expr->CE) (cb:Scope->Expr->CE) (sc:Scope) (elt t iter:Expr) (ifs:List Expr) (s:Scope):CE:=if !QaZ s||decide (1<ifs.length)||QbS iter then .bad else
   (match QaE s sc with
    | none=>.bad
    | some fr=>match qTu t with
     | some q=>(match Qbu s q.1 with | some ts=>.comp (cb s elt) ts false (c iter) (ifs.map (cb s)) s.names.length fr | none=>.bad)
     | none=>(match Qbu s [t] with | some ts=>.comp (cb s elt) ts true (c iter) (ifs.map (cb s)) s.names.length fr | none=>.bad))
noncomputable def cLC (c:Expr->CE) (cb:Scope->Expr->CE) (sc:Scope) (elt:Expr) (gens:List Comprehension) (s:Scope):CE:=match gens with
 | [⟨t,iter,ifs,a⟩]=>if a=0 then QnX c cb sc elt t iter ifs s else .bad
 | _=>.bad
noncomputable def comp:Nat->Bool->Scope->Expr->CE
 | 0,_,_,_=>.bad
 | n+1,b,sc,e=>
  match e with
  | .Constant v _ _=>(match constOf v with | some v=>.k v | none=>.bad)
  | .Name x _=>name? sc x
  | .BinOp a op r _=>(match op2 op with | some op=>.bin op (comp n b sc a) (comp n b sc r) | none=>.bad)
  | .UnaryOp op a _=>cU (comp n b sc) op a
  | .Compare a ops rs _=>QnY (comp n b sc) a ops rs
  | .BoolOp op l _=>Qkb (comp n b sc) op l
  | .IfExp t a r _=>.ite (comp n b sc t) (comp n b sc a) (comp n b sc r)
  | .Tuple l _ _=>if QaB l then .tup (l.map (comp n b sc)) else .bad
  | .List l _=>if QaB l then .lst (l.map (comp n b sc)) else .bad
  | .Call f args ks p=>QgC (comp n b sc) sc f args ks p
  | .Attribute o a _=>Qik (comp n b sc) o a
  | .Subscript o i _=>QnC (comp n b sc) o i
  | .Lambda ps body s _=>Qlx (comp n false) b sc ps body s
  | .ListComp elt gens s _=>cLC (comp n b sc) (comp n false) sc elt gens s
  | _=>.bad
noncomputable def Qny (e:Expr):Bool:=(qNm e).isSome
noncomputable def QgR (sc:Scope) (o:Expr) (a:Str):Option CT:=if Qny o then (Qcy anames a).map (.attr (comp 20 true sc o)) else none
noncomputable def nmT (sc:Scope) (x:Str):Option CT:=if x==("__debug__" : Str)||x==("__classdict__" : Str) then none else match kindOf sc x with
 | some .local=>(Qaf sc x).map .loc
 | some .cell=>(Qaf sc x).map .cel
 | _=>none
noncomputable def cT (sc:Scope) (c:Expr->Option CT) (a:Option (Str×Pos)) (b:Option (Expr×Str×Pos)) (d:Option (Expr×Expr×Pos)) (e:Option (List Expr×Nat×Pos)):Option CT:=match a with
 | some q=>nmT sc q.1
 | none=>match b with
  | some q=>QgR sc q.1 q.2.1
  | none=>match d with
   | some q=>some (.idx (comp 20 true sc q.1) (comp 20 true sc q.2.1))
   | none=>match e with
    | some q=>if q.1.all Qny then (q.1.mapM c).map .tup else none
    | none=>none
noncomputable def compT:Nat->Scope->Expr->Option CT
 | 0,_,_=>none
 | n+1,sc,e=>cT sc (compT n sc) (qNm e) (qAt e) (Qlv e) (qTu e)
noncomputable def Qbd (sc:Scope) (ts:List Expr):List Str:=ts.filterMap fun
 | .Name id pos=>if kindOf sc id==some .local&&pos.line==((ts.head?.map (·.pos.line)).getD 0) then some id else none
 | _=>none
noncomputable def Qdf (sc:Scope) (ts vs:List Expr):Option Bool:=
 if !(ts.length==2||ts.length==3)||vs.length != ts.length then some false
 else if vs.any λ | .Starred .. => true | _=>false then some false
 else if (Qbd sc ts).length != ts.length||(Qbd sc ts).eraseDups.length != (Qbd sc ts).length then some false
 else if vs.all (foldedForSure 8) then some false
 else if vs.all (constantsAlone 8) then none
 else some true
noncomputable def Qlp (e:Expr):Bool:=Nat.beq e.ctorIdx 8||Nat.beq e.ctorIdx 9||Nat.beq e.ctorIdx 10
noncomputable def sPl (c:Expr->CE) (sc:Scope) (t e:Expr):CS:=if Qlp e then .bad else (match compT 5 sc t with | some t=>.asg t (c e) | none=>.bad)
noncomputable def Qo5 (c:Expr->CE) (sc:Scope) (ts:List Expr) (k:Nat) (p:Pos) (vs:List Expr) (k':Nat) (p':Pos):CS:=
 match Qdf sc ts vs with
  | some true=>(match Qbu sc ts with | some is=>.swp is (c (.Tuple vs k' p')) | none=>.bad)
  | some false=>(match compT 5 sc (.Tuple ts k p) with | some t=>.asg t (c (.Tuple vs k' p')) | none=>.bad)
  | none=>.bad
noncomputable def sLC (c:Expr->CE) (sc:Scope) (x:Str) (p:Pos) (elt:Expr) (gens:List Comprehension) (s:Scope) (pos:Pos):CS:=
 if kindOf sc x=some .local&&p.line==pos.line&&!(s.names.any λ (n,k)=>n==x&&(k==.local||k==.cell)) then
    (match Qaf sc x with | some i=>.asg (.loc i) (c (.ListComp elt gens s pos)) | none=>.bad) else .bad
noncomputable def QjY (c:Expr->CE) (sc:Scope) (t e:Expr):CS:=match qTu t with
 | some q=>(match qTu e with | some q'=>Qo5 c sc q.1 q.2.1 q.2.2 q'.1 q'.2.1 q'.2.2 | none=>sPl c sc t e)
 | none=>match qNm t with
  | some q=>(match qLC e with | some q'=>sLC c sc q.1 q.2 q'.1 q'.2.1 q'.2.2.1 q'.2.2.2 | none=>sPl c sc t e)
  | none=>sPl c sc t e
noncomputable def rgE (sc:Scope) (e:Expr):Option Expr:=match Qgx e with
 | none=>none
 | some q=>match qNm q.1 with
  | none=>none
  | some f=>match q.2.1 with
   | []=>none
   | a::r=>if kindOf sc f.1=some .globalImplicit&&f.1 == "range" && QaB [a]&&r.isEmpty&&q.2.2.1.isEmpty then some a else none
noncomputable def rsE (sc:Scope) (e:Expr):Option (Expr×Expr):=match Qgx e with
 | none=>none
 | some q=>match qNm q.1 with
  | none=>none
  | some f=>match q.2.1 with
   | []=>none
   | a::r=>match r with
    | []=>none
    | b::r=>if kindOf sc f.1=some .globalImplicit&&f.1 == "GrammarFault" && QaB [a,b]&&r.isEmpty&&q.2.2.1.isEmpty then some (a,b) else none
noncomputable def nmE (x:Str) (e:Expr):Bool:=match qNm e with
 | some q=>q.1==x
 | none=>false
noncomputable def atE (x:Str) (n:String) (e:Expr):Bool:=match qAt e with
 | some q=>nmE x q.1&&q.2.1==(n:Str)
 | none=>false
noncomputable def liE (x:Str) (e:Expr):Bool:=match QnM e with
 | none=>false
 | some q=>match q.1 with
  | []=>false
  | a::r=>match r with
   | []=>false
   | b::r=>atE x "message" a&&atE x "spot" b&&r.isEmpty
noncomputable def reE (x:Str) (s:Stmt):Bool:=match QnL s with
 | some q=>(match q.1 with | some e=>liE x e | none=>false)
 | none=>false
noncomputable def bdE (x:Str):List Stmt->Bool
 | []=>false
 | s::r=>r.isEmpty&&reE x s
noncomputable def gfE (sc:Scope) (e:Expr):Bool:=match qNm e with
 | some q=>decide (kindOf sc q.1=some .globalImplicit)&&q.1 == "GrammarFault"
 | none=>false
noncomputable def haE (sc:Scope):ExceptHandler->Bool
 | .ExceptHandler t nm bd _=>(match t with | some f=>gfE sc f | none=>false)&&(match nm with | some x=>kindOf sc x==some .local&&!(x==("__debug__" : Str))&&bdE x bd | none=>false)
noncomputable def hsE (sc:Scope):List ExceptHandler->Bool
 | []=>false
 | h::r=>r.isEmpty&&haE sc h
noncomputable def compS:Nat->Scope->Stmt->CS
 | 0,_,_=>.bad
 | n+1,sc,s=>
  match s with
  | .Expr e _=>if Qlp e then .bad else .expr (comp 20 true sc e)
  | .Return v _=>(match v with | some e=>.ret (comp 20 true sc e) | none=>.bad)
  | .Assign ts e _=>(match ts with | [t]=>QjY (comp 20 true sc) sc t e | _=>.bad)
  | .AugAssign t op e _=>(match compT 5 sc t,op2 op with | some t,some op=>.aug t op (comp 20 true sc e) | _,_=>.bad)
  | .If t a b _=>.iff (comp 20 true sc t) (a.map (compS n sc)) (b.map (compS n sc))
  | .While t b els _=>(match els with | []=>.whl (comp 20 true sc t) (b.map (compS n sc)) | _::_=>.bad)
  | .For t e b els _=>(match els with
   | []=>(match rgE sc e with
    | some a=>(match compT 5 sc t with | some t=>.forR t (comp 20 true sc a) (b.map (compS n sc)) | none=>.bad)
    | none=>if QbS e then .bad else (match compT 5 sc t with | some t=>.for t (comp 20 true sc e) (b.map (compS n sc)) | none=>.bad))
   | _::_=>.bad)
  | .Break _=>.brk
  | .Raise e cz _=>(match e with
   | some e=>(match cz with
    | none=>(match rsE sc e with | some q=>.raise (comp 20 true sc q.1) (comp 20 true sc q.2) | none=>.bad)
    | some _=>.bad)
   | none=>.bad)
  | .Try b hs els fin _=>if els.isEmpty&&fin.isEmpty&&hsE sc hs then .tryR (b.map (compS n sc)) else .bad
  | _=>.bad
structure Fn where
 ps:List Nat
 n:Nat
 cells:List Nat
 dfl:List V
 body:List CS
noncomputable def constsOf:List Expr->Option (List V)
 | []=>some []
 | e::r=>match Qln e with
  | some q=>do let v <- constOf q.1;let l <- constsOf r;pure (v::l)
  | none=>none
noncomputable def Qj8 (args:Arguments) (body:List Stmt) (sc:Scope):Option Fn:=do
 let xs <- QaN args
 let is <- xs.mapM (Qaf sc)
 let ds <- constsOf args.defaults
 let cells <- (sc.names.filter (·.2==.cell)).mapM λ q=>Qaf sc q.1
 pure ⟨is,sc.names.length,cells,ds,body.map (compS 30 sc)⟩
end
section
open PySem
inductive RS (α:Type) where
 | ok (a:α) (σ:List O)
 | exc (m s:V) (σ:List O)
 | bad
noncomputable abbrev M (α:Type):=List O->RS α
noncomputable def M.ret {α}(a:α):M α:=λ σ=>.ok a σ
noncomputable def M.bind {α β}(m:M α) (f:α->M β):M β:=λ σ=>
 match m σ with
 | .ok a σ=>f a σ
 | .exc m s σ=>.exc m s σ
 | .bad=>.bad
noncomputable def M.stuck {α}:M α:=λ _=>.bad
noncomputable def M.raise {α}(m s:V):M α:=λ σ=>.exc m s σ
noncomputable def M.noExc {α}(m:M α):M α:=λ σ=>match m σ with
 | .exc _ _ _=>.bad
 | r=>r
noncomputable def Qbk {α}:Option α->M α
 | some a=>M.ret a
 | none=>M.stuck
noncomputable def QfT (eq:V->V->Option Bool):List V->List V->Option Bool
 | a::r,b::s=>match eq a b,QfT eq r s with
  | some x,some y=>some (x&&y)
  | _,_=>none
 | [],[]=>some true
 | _,_=>none
noncomputable def eqS (r:List V->List V->Option Bool):V->V->Option Bool
 | .none,.none=>some true
 | .bool a,.bool b=>some (a==b)
 | .int a,.int b=>some (a==b)
 | .str a,.str b=>some (a==b)
 | .tup a,.tup b=>r a b
 | _,_=>none
noncomputable def eqV:Nat->V->V->Option Bool
 | 0=>eqS λ _ _=>none
 | n+1=>eqS (QfT (eqV n))
noncomputable def getO (i:Nat):M O:=λ σ=>match σ[i]? with | some o=>.ok o σ | none=>.bad
noncomputable def Qcg (i:Nat) (o:O):M Unit:=λ σ=>if i<σ.length then .ok () (σ.set i o) else .bad
noncomputable def Qgt (o:O):M Nat:=λ σ=>.ok σ.length (σ++[o])
noncomputable def cap:Nat:=1000000
noncomputable def getL (i:Nat):M (List V):=M.bind (getO i) λ x=>match x with
 | .list l=>M.ret l
 | _=>M.stuck
noncomputable def getD (i:Nat):M (List (Nat×V)):=M.bind (getO i) λ x=>match x with
 | .dict l=>M.ret l
 | _=>M.stuck
noncomputable def QaQ (l:List V):M V:=if l.length<=cap then M.bind (Qgt (.list l)) λ k=>M.ret (.ref k) else M.stuck
noncomputable def mkS (s:List Nat):M V:=if s.length<=cap then M.ret (.str s) else M.stuck
noncomputable def truth:V->M Bool
 | .bool b=>M.ret b
 | .int i=>M.ret (decide (i≠0))
 | _=>M.stuck
noncomputable def Qbf (a:Nat):List (Nat×V)->Option V
 | []=>none
 | (b,v)::r=>if a=b then some v else Qbf a r
noncomputable def Qgr (a:Nat) (v:V):List (Nat×V)->List (Nat×V)
 | []=>[(a,v)]
 | (b,w)::r=>if a=b then (a,v)::r else (b,w)::Qgr a v r
noncomputable def QaV (i:Int):Bool:=Nat.blt i.natAbs 4611686018427387904
theorem small_iff {i:Int}:QaV i=true ↔ -(2 ^ 62)<i/\i<2 ^ 62:=by
 unfold QaV;refine Nat.blt_eq.substr ?_;omega
noncomputable def Qlz (f:Int->Int->M V) (a b:V):M V:=match a with
 | .int a=>(match b with | .int b=>f a b | _=>M.stuck)
 | _=>M.stuck
noncomputable def Qn0 (a b:V):M V:=match a with
 | .int a=>(match b with | .int b=>M.ret (.int (a+b)) | _=>M.stuck)
 | .str a=>(match b with | .str b=>mkS (a++b) | _=>M.stuck)
 | .ref i=>(match b with | .ref j=>M.bind (getL i) λ a=>M.bind (getL j) λ b=>QaQ (a++b) | _=>M.stuck)
 | _=>M.stuck
noncomputable def QnZ (a b:V):M V:=match b with
 | .int b=>(match a with
  | .int a=>if QaV b then M.ret (.int (a * b)) else M.stuck
  | .str l=>(match l with | [c]=>if 0<=b/\b<=100 then M.ret (.str (List.replicate b.toNat c)) else M.stuck | _=>M.stuck)
  | .ref i=>M.bind (getL i) λ a=>if a.length<=cap then (if b=0 then QaQ [] else if b=1 then QaQ a else M.stuck) else M.stuck
  | _=>M.stuck)
 | _=>M.stuck
noncomputable def QbP (op:Op2) (a b:V):M V:=match op with
 | .add=>Qn0 a b
 | .sub=>Qlz (λ a b=>M.ret (.int (a - b))) a b
 | .mul=>QnZ a b
 | .mod=>Qlz (λ a b=>if 0<b then M.ret (.int (Int.fmod a b)) else M.stuck) a b
 | .fdiv=>Qlz (λ a b=>if 0<b&&QaV b then M.ret (.int (Int.fdiv a b)) else M.stuck) a b
 | .pow=>Qlz (λ a b=>if a=10/\b=18 then M.ret (.int 1000000000000000000) else M.stuck) a b
noncomputable def aug2:Op2->V->V->M V
 | .add,.int a,.int b=>M.ret (.int (a+b))
 | .sub,.int a,.int b=>M.ret (.int (a - b))
 | _,_,_=>M.stuck
noncomputable def inL (v:V):List V->Option Bool
 | []=>some false
 | x::r=>match eqV 3 x v,inL v r with
  | some a,some b=>some (a||b)
  | _,_=>none
noncomputable def notO:Option Bool->Option Bool
 | some b=>some (!b)
 | none=>none
noncomputable def asB:Option Bool->M V
 | some b=>M.ret (.bool b)
 | none=>M.stuck
noncomputable def eqO (a b:V):M V:=match a,b with
 | .ref i,.ref j=>M.bind (getL i) λ p=>M.bind (getL j) λ q=>if p.length=q.length then asB (QfT (eqV 8) p q) else M.ret (.bool false)
 | a,b=>asB (eqV 9 a b)
noncomputable def isNone:V->Bool
 | .none=>true
 | _=>false
noncomputable def allInts:List V->Option (List Int)
 | []=>some []
 | .int i::r=>(allInts r).map (i::·)
 | _=>none
noncomputable def Qly (f:Int->Int->Bool) (a b:V):M V:=match a with
 | .int a=>(match b with | .int b=>M.ret (.bool (f a b)) | _=>M.stuck)
 | _=>M.stuck
noncomputable def cIn (a b:V):M V:=match a with
 | .str s=>(match b with
  | .str t=>(match s with | [c]=>M.ret (.bool (t.contains c)) | _=>M.stuck)
  | .tup l=>asB (inL (.str s) l)
  | _=>M.stuck)
 | _=>M.stuck
noncomputable def QjF (a b:V):M V:=match a with
 | .str s=>(match b with | .tup l=>asB (notO (inL (.str s) l)) | _=>M.stuck)
 | _=>M.stuck
noncomputable def cNe (a b:V):M V:=match a with
 | .int a=>(match b with | .int b=>M.ret (.bool (a != b)) | _=>M.stuck)
 | .str a=>(match b with | .str b=>M.ret (.bool (a != b)) | _=>M.stuck)
 | .lst p=>(match b with | .ref j=>M.bind (getL j) λ q=>if (allInts p).isSome&&q.isEmpty then M.ret (.bool (!p.isEmpty)) else M.stuck | _=>M.stuck)
 | _=>M.stuck
noncomputable def QaJ (op:Cm) (a b:V):M V:=match op with
 | .lt=>Qly (λ a b=>decide (a<b)) a b
 | .le=>Qly (λ a b=>decide (a<=b)) a b
 | .gt=>Qly (λ a b=>decide (b<a)) a b
 | .ge=>Qly (λ a b=>decide (b<=a)) a b
 | .is=>(match b with | .none=>M.ret (.bool (isNone a)) | _=>M.stuck)
 | .isnot=>(match b with | .none=>M.ret (.bool (!isNone a)) | _=>M.stuck)
 | .in=>cIn a b
 | .notin=>QjF a b
 | .eq=>eqO a b
 | .ne=>cNe a b
noncomputable def QaG (s:List Nat) (lo hi:Option Int):List Nat:=
 let a:=match lo with | some i=>i.toNat | none=>0
 let b:=match hi with | some i=>i.toNat | none=>s.length
 (s.take b).drop a
noncomputable def atI {α}(l:List α) (i:Int):Option α:=
 if i<0 then (if i+l.length<0 then none else l[(i+l.length).toNat]?) else l[i.toNat]?
noncomputable def QaK (o i:V):M V:=match o,i with
 | .str s,.int i=>if QaV i then (match atI s i with | some c=>M.ret (.str [c]) | none=>M.stuck) else M.stuck
 | .tup l,.int i=>if QaV i then Qbk (atI l i) else M.stuck
 | .lst l,.int i=>if QaV i then Qbk (atI l i) else M.stuck
 | .ref r,.int i=>if QaV i then M.bind (getL r) λ l=>Qbk (atI l i) else M.stuck
 | _,_=>M.stuck
noncomputable def asI:V->M Int
 | .int i=>M.ret i
 | _=>M.stuck
noncomputable def asRef:V->M Nat
 | .ref i=>M.ret i
 | _=>M.stuck
noncomputable def Qeu (i:Int):List Nat:=(toString i).toList.map Char.toNat
noncomputable def minI:List Int->Option Int
 | []=>none
 | a::r=>some (r.foldl (λ x y=>if y<x then y else x) a)
noncomputable def Qgu (n:Nat):M V:=if n<=cap then M.ret (.int n) else M.stuck
noncomputable def one (f:V->M V) (vs:List V):M V:=match vs with
 | [v]=>f v
 | _=>M.stuck
noncomputable def Qme (v:V):M V:=match v with
 | .str s=>Qgu s.length
 | .tup s=>Qgu s.length
 | .ref i=>M.bind (getL i) λ l=>Qgu l.length
 | _=>M.stuck
noncomputable def two (f:Int->Int->V) (vs:List V):M V:=match vs with
 | [x,y]=>(match x with
  | .int a=>(match y with | .int b=>M.ret (f a b) | _=>M.stuck)
  | _=>M.stuck)
 | _=>M.stuck
noncomputable def QjG (v:V):M V:=match v with
 | .ref i=>M.bind (getL i) λ l=>(match allInts l with
  | some l=>(match minI l with | some a=>if l.length<=cap then M.ret (.int a) else M.stuck | none=>M.stuck)
  | none=>M.stuck)
 | _=>M.stuck
noncomputable def QoG (vs:List V):M V:=match vs with
 | [v]=>QjG v
 | vs=>two (λ a b=>.int (if b<a then b else a)) vs
noncomputable def Qmf (v:V):M V:=match v with
 | .bool b=>M.ret (.int (if b then 1 else 0))
 | _=>M.stuck
noncomputable def Qmd (v:V):M V:=match v with
 | .int i=>if 0<=i/\i<1000 then M.ret (.str (Qeu i)) else M.stuck
 | _=>M.stuck
noncomputable def Qmc (v:V):M V:=match v with
 | .ref i=>M.bind (getL i) λ l=>if l.length<=cap then M.ret (.tup l) else M.stuck
 | _=>M.stuck
noncomputable def QjH (v:V):M V:=match v with
 | .ref i=>M.bind (getL i) λ l=>QaQ l
 | _=>M.stuck
noncomputable def builtin (b:BI) (vs:List V):M V:=match b with
 | .len=>one Qme vs
 | .min=>QoG vs
 | .max=>two (λ a b=>.int (if b > a then b else a)) vs
 | .int=>one Qmf vs
 | .str=>one Qmd vs
 | .tuple=>one Qmc vs
 | .list=>one QjH vs
 | .range=>M.stuck
noncomputable def QcJ (ρ:Env):List Nat->List V->Option Env
 | [],[]=>some ρ
 | i::is,v::vs=>if i<ρ.length then QcJ (ρ.set i (some v)) is vs else none
 | _,_=>none
structure Cx where
 gv:Nat->Option V
 fns:Nat->Option Fn
 W:Nat
noncomputable def getAttr (o:V) (a:Nat):M V:=M.bind (asRef o) λ i=>M.bind (getO i) λ x=>match x with
 | .inst j=>M.bind (getO j) λ y=>match y with
  | .dict l=>Qbk (Qbf a l)
  | _=>M.stuck
 | _=>M.stuck
noncomputable def setAttr (o:V) (a:Nat) (v:V):M Unit:=M.bind (asRef o) λ i=>M.bind (getO i) λ x=>match x with
 | .inst j=>M.bind (getO j) λ y=>match y with
  | .dict l=>if l.length<=100/\a<3 then Qcg j (.dict (Qgr a v l)) else M.stuck
  | _=>M.stuck
 | _=>M.stuck
noncomputable def Qcr (ev:CE->M V):List CE->M (List V)
 | []=>M.ret []
 | e::r=>M.bind (ev e) λ v=>M.bind (Qcr ev r) λ vs=>M.ret (v::vs)
noncomputable def QlA (ev:CE->M V):List CE->M V
 | []=>M.stuck
 | [e]=>ev e
 | e::r=>M.bind (ev e) λ v=>M.bind (truth v) λ b=>if b then QlA ev r else M.ret v
noncomputable def orE (ev:CE->M V):List CE->M V
 | []=>M.stuck
 | [e]=>ev e
 | e::r=>M.bind (ev e) λ v=>M.bind (truth v) λ b=>if b then M.ret v else orE ev r
noncomputable def Qe5 (tr:CE->M Bool):List CE->M Bool
 | []=>M.ret true
 | e::r=>M.bind (tr e) λ b=>if b then Qe5 tr r else M.ret false
noncomputable def orT (tr:CE->M Bool):List CE->M Bool
 | []=>M.ret false
 | e::r=>M.bind (tr e) λ b=>if b then M.ret true else orT tr r
noncomputable def Qgs (ev:CE->M V):Option CE->M (Option Int)
 | none=>M.ret none
 | some e=>M.bind (ev e) λ v=>M.bind (asI v) λ i=>if 0<=i then M.ret (some i) else M.stuck
noncomputable def Qae (ρ:Env):List (Nat×Nat)->Env->Option Env
 | [],ρ'=>some ρ'
 | (i,o)::r,ρ'=>match ρ[o]? with
  | some (some (.ref c))=>if i<ρ'.length then Qae ρ r (ρ'.set i (some (.ref c))) else none
  | _=>none
noncomputable def compLoop (bd:Env->V->M (Env×List V)) (i:Nat):Nat->Nat->Env->M (List V)
 | 0,_,_=>M.stuck
 | w+1,k,ρ=>M.bind (getL i) λ l=>match l[k]? with
  | none=>M.ret []
  | some v=>M.bind (bd ρ v) λ p=>M.bind (compLoop bd i w (k+1) p.1) λ l=>M.ret (p.2++l)
noncomputable def Qaq (i:Nat) (v:V) (ρ:Env):M Env:=if i<ρ.length then M.ret (ρ.set i (some v)) else M.stuck
noncomputable def setLocs:List Nat->List V->Env->M Env
 | [],[],ρ=>M.ret ρ
 | i::is,v::vs,ρ=>M.bind (Qaq i v ρ) λ ρ=>setLocs is vs ρ
 | _,_,_=>M.stuck
noncomputable def tgt (ts:List Nat) (single:Bool) (ρ:Env) (v:V):M Env:=
 if single then setLocs ts [v] ρ else match v with | .tup l=>if l.length=ts.length then setLocs ts l ρ else M.stuck | _=>M.stuck
section
variable (cx:Cx) (call:V->List V->M V)
noncomputable def QjU (i:Nat):List V->M V
 | [y]=>M.bind (getL i) λ l=>if l.length<=cap then M.bind (Qcg i (.list (l++[y]))) λ _=>M.ret .none else M.stuck
 | _=>M.stuck
noncomputable def QjT (i:Nat):List V->M V
 | [.ref j]=>M.bind (getL j) λ more=>M.bind (getL i) λ l=>
   if l.length+more.length<=cap then M.bind (Qcg i (.list (l++more))) λ _=>M.ret .none else M.stuck
 | _=>M.stuck
noncomputable def mkW:List V->M V
 | [y]=>M.bind (Qgt (.dict [])) λ j=>M.bind (Qgt (.inst j)) λ i=>
   M.bind (call (.fn m0) [.ref i,y]) λ r=>if isNone r then M.ret (.ref i) else M.stuck
 | _=>M.stuck
mutual
noncomputable def ev:Nat->Env->CE->M V
 | 0,_,_=>M.stuck
 | n+1,ρ,e=>
  match e with
  | .k v=>M.ret v
  | .loc i=>(match ρ[i]? with | some (some v)=>M.ret v | _=>M.stuck)
  | .cel i=>(match ρ[i]? with
   | some (some (.ref c))=>M.bind (getO c) λ x=>match x with | .cell (some v)=>M.ret v | _=>M.stuck
   | _=>M.stuck)
  | .glob g=>Qbk (cx.gv g)
  | .bin op a b=>M.bind (ev n ρ a) λ x=>M.bind (ev n ρ b) λ y=>QbP op x y
  | .cmp op a b=>M.bind (ev n ρ a) λ x=>M.bind (ev n ρ b) λ y=>QaJ op x y
  | .and l=>QlA (ev n ρ) l
  | .or l=>orE (ev n ρ) l
  | .not a=>M.bind (ev n ρ a) λ x=>M.bind (truth x) λ b=>M.ret (.bool (!b))
  | .ite t a b=>M.bind (tr n ρ t) λ c=>if c then ev n ρ a else ev n ρ b
  | .tup l=>M.bind (Qcr (ev n ρ) l) λ vs=>if vs.length<=cap then M.ret (.tup vs) else M.stuck
  | .lst l=>M.bind (Qcr (ev n ρ) l) λ vs=>QaQ vs
  | .call f args=>M.bind (ev n ρ f) λ v=>M.bind (Qcr (ev n ρ) args) λ vs=>call v vs
  | .bi b args=>M.bind (Qcr (ev n ρ) args) λ vs=>builtin b vs
  | .meth o f args=>M.bind (ev n ρ o) λ v=>M.bind (asRef v) λ i=>M.bind (getO i) λ x=>match x with
   | .inst j=>M.bind (getD j) λ _=>M.bind (Qcr (ev n ρ) args) λ vs=>call (.fn f) (v::vs)
   | _=>M.stuck
  | .app o x=>M.bind (ev n ρ o) λ v=>M.bind (asRef v) λ i=>M.bind (getL i) λ _=>M.bind (Qcr (ev n ρ) [x]) λ vs=>QjU i vs
  | .ext o x=>M.bind (ev n ρ o) λ v=>M.bind (asRef v) λ i=>M.bind (getL i) λ _=>M.bind (Qcr (ev n ρ) [x]) λ vs=>QjT i vs
  | .mkw x=>M.bind (Qcr (ev n ρ) [x]) λ vs=>mkW call vs
  | .attr o a=>M.bind (ev n ρ o) λ v=>getAttr v a
  | .idx o i=>M.bind (ev n ρ o) λ v=>M.bind (ev n ρ i) λ w=>QaK v w
  | .slc o lo hi=>M.bind (ev n ρ o) λ v=>M.bind (Qgs (ev n ρ) lo) λ a=>M.bind (Qgs (ev n ρ) hi) λ b=>match v with
   | .str s=>mkS (QaG s a b)
   | _=>M.stuck
  | .lam ps m fr body=>(match Qae ρ fr (List.replicate m none) with
   | some ρ'=>M.bind (Qgt (.clo ps ρ' body)) λ k=>M.ret (.ref k)
   | none=>M.stuck)
  | .comp elt ts single iter ifs m fr=>(match Qae ρ fr (List.replicate m none) with
    | some ρ'=>M.bind (ev n ρ iter) λ v=>M.bind (asRef v) λ i=>M.bind (getL i) λ _=>
     M.bind (M.noExc (compLoop (λ ρ v=>M.bind (tgt ts single ρ v) λ ρ=>M.bind (Qe5 (tr n ρ) ifs) λ b=>if b then M.bind (ev n ρ elt) λ x=>M.ret (ρ,[x]) else M.ret (ρ,[])) i cx.W 0 ρ')) QaQ
    | none=>M.stuck)
  | _=>M.stuck
noncomputable def tr:Nat->Env->CE->M Bool
 | 0,_,_=>M.stuck
 | n+1,ρ,e=>
  match e with
  | .not a=>M.bind (tr n ρ a) λ b=>M.ret (!b)
  | .and l=>Qe5 (tr n ρ) l
  | .or l=>orT (tr n ρ) l
  | .ite t a b=>M.bind (tr n ρ t) λ c=>if c then tr n ρ a else tr n ρ b
  | e=>M.bind (ev n ρ e) truth
end
inductive Fl where | next | brk | ret (v:V)
noncomputable abbrev X:=Env->M (Fl×Env)
noncomputable def Qa6 (i:Nat) (v:V) (ρ:Env):M Env:=match ρ[i]? with
 | some (some (.ref c))=>M.bind (getO c) λ x=>(match x with | .cell _=>M.bind (Qcg c (.cell (some v))) λ _=>M.ret ρ | _=>M.stuck)
 | _=>M.stuck
noncomputable def Qau (ex:CS->X):List CS->X
 | [],ρ=>M.ret (.next,ρ)
 | s::r,ρ=>M.bind (ex s ρ) λ p=>match p.1 with
  | .next=>Qau ex r p.2
  | _=>M.ret p
noncomputable def Qe8 (o i v:V):M Unit:=match o,i with
 | .ref r,.int i=>M.bind (getL r) λ l=>if 0<=i/\i<l.length/\i<2 ^ 62 then Qcg r (.list (l.set i.toNat v)) else M.stuck
 | _,_=>M.stuck
noncomputable def Qb7 (as:CT->V->Env->M Env):List CT->List V->Env->M Env
 | [],[],ρ=>M.ret ρ
 | t::ts,v::vs,ρ=>M.bind (as t v ρ) λ ρ=>Qb7 as ts vs ρ
 | _,_,_=>M.stuck
noncomputable def assign (n:Nat):Nat->CT->V->Env->M Env
 | 0,_,_,_=>M.stuck
 | d+1,t,v,ρ=>match t with
  | .loc i=>Qaq i v ρ
  | .cel i=>Qa6 i v ρ
  | .attr o a=>M.bind (ev cx call n ρ o) λ w=>M.bind (setAttr w a v) λ _=>M.ret ρ
  | .idx o i=>M.bind (ev cx call n ρ o) λ w=>M.bind (ev cx call n ρ i) λ j=>M.bind (Qe8 w j v) λ _=>M.ret ρ
  | .tup ts=>match v with
   | .tup l=>if l.length=ts.length then Qb7 (assign n d) ts l ρ else M.stuck
   | _=>M.stuck
noncomputable def Qat (t:Env->M Bool) (b:X):Nat->X
 | 0,_=>M.stuck
 | k+1,ρ=>M.bind (t ρ) λ c=>if c then M.bind (b ρ) λ p=>(match p.1 with
  | .next=>Qat t b k p.2
  | .brk=>M.ret (.next,p.2)
  | .ret _=>M.ret p) else M.ret (.next,ρ)
theorem whl1 {t:Env->M Bool}{b:X}{ρ:Env}{k:Nat}:Qat t b (k+1) ρ=M.bind (t ρ) λ c=>if c then M.bind (b ρ) λ p=>(match p.1 with
  | .next=>Qat t b k p.2
  | .brk=>M.ret (.next,p.2)
  | .ret _=>M.ret p) else M.ret (.next,ρ):=rfl
noncomputable def Qb1 (as:V->Env->M Env) (b:X):List V->X
 | [],ρ=>M.ret (.next,ρ)
 | v::r,ρ=>M.bind (as v ρ) λ ρ=>M.bind (b ρ) λ p=>(match p.1 with
  | .next=>Qb1 as b r p.2
  | .brk=>M.ret (.next,p.2)
  | .ret _=>M.ret p)
noncomputable def Qes (as:V->Env->M Env) (b:X) (i:Nat):Nat->Nat->X
 | 0,_,_=>M.stuck
 | w+1,k,ρ=>M.bind (getL i) λ l=>match l[k]? with
  | none=>M.ret (.next,ρ)
  | some v=>M.bind (as v ρ) λ ρ=>M.bind (b ρ) λ p=>(match p.1 with
   | .next=>Qes as b i w (k+1) p.2
   | .brk=>M.ret (.next,p.2)
   | .ret _=>M.ret p)
theorem QgO {as:V->Env->M Env}{b:X}{i w k:Nat}{ρ:Env}:Qes as b i (w+1) k ρ=M.bind (getL i) λ l=>match l[k]? with
  | none=>M.ret (.next,ρ)
  | some v=>M.bind (as v ρ) λ ρ=>M.bind (b ρ) λ p=>(match p.1 with
   | .next=>Qes as b i w (k+1) p.2
   | .brk=>M.ret (.next,p.2)
   | .ret _=>M.ret p):=rfl
noncomputable def QaA (n:Nat):List V:=(List.range n).map λ (i:Nat)=>V.int (Int.ofNat i)
noncomputable def ex (n:Nat):Nat->CS->X
 | 0,_,_=>M.stuck
 | d+1,s,ρ=>match s with
  | .expr e=>M.bind (ev cx call n ρ e) λ _=>M.ret (.next,ρ)
  | .ret e=>M.bind (ev cx call n ρ e) λ v=>M.ret (.ret v,ρ)
  | .asg t e=>M.bind (ev cx call n ρ e) λ v=>M.bind (assign cx call n 3 t v ρ) λ ρ=>M.ret (.next,ρ)
  | .swp ts e=>M.bind (ev cx call n ρ e) λ v=>(match v with
   | .tup l=>if l.length=ts.length then M.bind (setLocs ts.reverse l.reverse ρ) λ ρ=>M.ret (.next,ρ) else M.stuck
   | _=>M.stuck)
  | .aug t op e=>(match t with
   | .loc i=>M.bind (ev cx call n ρ (.loc i)) λ old=>M.bind (ev cx call n ρ e) λ v=>M.bind (aug2 op old v) λ new=>M.bind (Qaq i new ρ) λ ρ=>M.ret (.next,ρ)
   | .attr o a=>M.bind (ev cx call n ρ o) λ w=>M.bind (getAttr w a) λ old=>M.bind (ev cx call n ρ e) λ v=>M.bind (aug2 op old v) λ new=>
     M.bind (setAttr w a new) λ _=>M.ret (.next,ρ)
   | _=>M.stuck)
  | .iff t a b=>M.bind (tr cx call n ρ t) λ c=>if c then Qau (ex n d) a ρ else Qau (ex n d) b ρ
  | .whl t b=>Qat (λ ρ=>tr cx call n ρ t) (Qau (ex n d) b) cx.W ρ
  | .for t e b=>M.bind (ev cx call n ρ e) λ v=>(match v with
   | .tup l=>Qb1 (assign cx call n 3 t) (Qau (ex n d) b) l ρ
   | .ref i=>M.bind (getL i) λ _=>Qes (assign cx call n 3 t) (Qau (ex n d) b) i cx.W 0 ρ
   | _=>M.stuck)
  | .forR t e b=>M.bind (ev cx call n ρ e) λ v=>M.bind (asI v) λ i=>if 0<=i/\i<=1000 then Qb1 (assign cx call n 3 t) (Qau (ex n d) b) (QaA i.toNat) ρ else M.stuck
  | .brk=>M.ret (.brk,ρ)
  | .raise m s=>M.bind (ev cx call n ρ m) λ m=>M.bind (ev cx call n ρ s) λ s=>M.raise m s
  | .tryR b=>λ σ=>(match Qau (ex n d) b ρ σ with
   | .exc m s σ=>M.bind (QaQ [m,s]) (λ v=>M.ret (.ret v,ρ)) σ
   | r=>r)
  | .bad=>M.stuck
end
noncomputable def entCells:List Nat->Env->M Env
 | [],ρ=>M.ret ρ
 | i::r,ρ=>M.bind (Qgt (.cell none)) λ c=>M.bind (Qaq i (.ref c) ρ) λ ρ=>entCells r ρ
noncomputable def Qa2 (cells:List Nat):List Nat->List V->Env->M Env
 | [],[],ρ=>M.ret ρ
 | i::is,v::vs,ρ=>M.bind (if cells.contains i then Qa6 i v ρ else Qaq i v ρ) λ ρ=>Qa2 cells is vs ρ
 | _,_,_=>M.stuck
noncomputable def flV:Fl->M V
 | .next=>M.ret .none
 | .ret v=>M.ret v
 | .brk=>M.stuck
noncomputable def Qbi (cx:Cx) (call:V->List V->M V) (f:Fn) (args:List V):M V:=
 if f.ps.length<args.length then M.stuck else
 M.bind (entCells f.cells (List.replicate f.n none)) λ ρ=>
 M.bind (Qa2 f.cells f.ps (args++f.dfl.drop (f.dfl.length - (f.ps.length - args.length))) ρ) λ ρ=>
 M.bind (Qau (ex cx call 20 20) f.body ρ) λ p=>flV p.1
noncomputable def Qab (cx:Cx):Nat->V->List V->M V
 | 0,_,_=>M.stuck
 | d+1,v,args=>match v with
  | .fn k=>(match cx.fns k with | some f=>Qbi cx (Qab cx d) f args | none=>M.stuck)
  | .ref i=>M.bind (getO i) λ x=>match x with
   | .clo ps ρ body=>(match QcJ ρ ps args with
    | some ρ=>ev cx (Qab cx d) 20 ρ body
    | none=>M.stuck)
   | _=>M.stuck
  | _=>M.stuck
theorem M.bind_ret {α}(m:M α):M.bind m M.ret=m:=by funext σ;unfold M.bind;cases m σ<;>rfl
theorem Qcx {ρ:Env}{i o c:Nat}{ρ0:Env}(h:ρ[o]?=some (some (.ref c))) (hi:i<ρ0.length):Qae ρ [(i,o)] ρ0=some (ρ0.set i (some (.ref c))):=by
 show (match ρ[o]? with
  | some (some (.ref c))=>if i<ρ0.length then some (ρ0.set i (some (.ref c))) else none
  | _=>none)=_
 rw [h];exact if_pos hi
end
section
open PySem
noncomputable def G0:V:=(.tup [(.str [105,56]),(.str [105,49,54]),(.str [105,51,50]),(.str [105,54,52]),(.str [117,56]),(.str [117,49,54]),(.str [117,51,50]),(.str [117,54,52]),(.str [117,115,105,122,101])])
noncomputable def G1:V:=(.tup [(.str [95]),(.str [83,101,108,102]),(.str [97,98,115,116,114,97,99,116]),(.str [97,115]),(.str [97,115,121,110,99]),(.str [97,119,97,105,116]),(.str [98,101,99,111,109,101]),(.str [98,111,120]),(.str [98,114,101,97,107]),(.str [99,111,110,115,116]),(.str [99,111,110,116,105,110,117,101]),(.str [99,114,97,116,101]),(.str [100,111]),(.str [100,121,110]),(.str [101,108,115,101]),(.str [101,110,117,109]),(.str [101,120,116,101,114,110]),(.str [102,97,108,115,101]),(.str [102,105,110,97,108]),(.str [102,110]),(.str [102,111,114]),(.str [105,102]),(.str [105,109,112,108]),(.str [105,110]),(.str [108,101,116]),(.str [108,111,111,112]),(.str [109,97,99,114,111]),(.str [109,97,116,99,104]),(.str [109,111,100]),(.str [109,111,118,101]),(.str [109,117,116]),(.str [111,118,101,114,114,105,100,101]),(.str [112,114,105,118]),(.str [112,117,98]),(.str [114,101,102]),(.str [114,101,116,117,114,110]),(.str [115,101,108,102]),(.str [115,116,97,116,105,99]),(.str [115,116,114,117,99,116]),(.str [115,117,112,101,114]),(.str [116,114,97,105,116]),(.str [116,114,117,101]),(.str [116,114,121]),(.str [116,121,112,101]),(.str [116,121,112,101,111,102]),(.str [117,110,115,97,102,101]),(.str [117,110,115,105,122,101,100]),(.str [117,115,101]),(.str [118,105,114,116,117,97,108]),(.str [119,104,101,114,101]),(.str [119,104,105,108,101]),(.str [121,105,101,108,100])])
noncomputable def G2:V:=(.tup [(.str [60,60,61]),(.str [62,62,61]),(.str [46,46,61]),(.str [58,58]),(.str [45,62]),(.str [61,62]),(.str [61,61]),(.str [33,61]),(.str [60,61]),(.str [62,61]),(.str [38,38]),(.str [124,124]),(.str [60,60]),(.str [62,62]),(.str [46,46]),(.str [43,61]),(.str [45,61]),(.str [42,61]),(.str [47,61]),(.str [37,61]),(.str [38,61]),(.str [124,61]),(.str [94,61]),(.str [40]),(.str [41]),(.str [123]),(.str [125]),(.str [91]),(.str [93]),(.str [44]),(.str [59]),(.str [58]),(.str [46]),(.str [61]),(.str [60]),(.str [62]),(.str [43]),(.str [45]),(.str [42]),(.str [47]),(.str [37]),(.str [38]),(.str [124]),(.str [94]),(.str [33]),(.str [64])])
noncomputable def G3:V:=(.str [97,98,99,100,101,102,103,104,105,106,107,108,109,110,111,112,113,114,115,116,117,118,119,120,121,122,65,66,67,68,69,70,71,72,73,74,75,76,77,78,79,80,81,82,83,84,85,86,87,88,89,90,95])
noncomputable def G4:V:=(.str [97,98,99,100,101,102,103,104,105,106,107,108,109,110,111,112,113,114,115,116,117,118,119,120,121,122,65,66,67,68,69,70,71,72,73,74,75,76,77,78,79,80,81,82,83,84,85,86,87,88,89,90,95,48,49,50,51,52,53,54,55,56,57])
noncomputable def G5:V:=(.str [48,49,50,51,52,53,54,55,56,57])
noncomputable def G6:V:=(.str [32,9,13,10,11,12,133,8206,8207,8232,8233])
noncomputable def G7:V:=(.int 60)
noncomputable def G8:V:=(.tup [(.str [83,101,108,102]),(.str [99,114,97,116,101]),(.str [115,101,108,102]),(.str [115,117,112,101,114])])
noncomputable def B9:List CS:=[(.aug (.loc 1) .add (.k (.int 1)))]
noncomputable def F9:Fn:=⟨[0,1,2],4,[],[],
 [(.whl (.and [(.cmp .lt (.loc 1) (.bi .len [(.loc 0)])),(.cmp .in (.idx (.loc 0) (.loc 1)) (.loc 2))]) B9),
 (.ret (.loc 1))]⟩
noncomputable def B10:List CS:=[(.iff (.cmp .in (.idx (.loc 0) (.loc 1)) (.glob 6)) [(.asg (.loc 1) (.call (.glob 9) [(.loc 0),(.loc 1),(.glob 6)]))] [(.iff (.cmp .eq (.slc (.loc 0) (some (.loc 1)) (some (.bin .add (.loc 1) (.k (.int 2))))) (.k (.str [47,47]))) [(.asg (.loc 2) .bad),
 (.asg (.loc 1) (.ite (.cmp .lt (.loc 2) (.k (.int 0))) (.bi .len [(.loc 0)]) (.loc 2)))] [(.iff (.cmp .eq (.slc (.loc 0) (some (.loc 1)) (some (.bin .add (.loc 1) (.k (.int 2))))) (.k (.str [47,42]))) [(.asg (.loc 1) (.call .bad [(.loc 0),(.loc 1)]))] [(.ret (.loc 1))])])])]
noncomputable def F10:Fn:=⟨[0,1],7,[],[],
 [(.whl (.cmp .lt (.loc 1) (.bi .len [(.loc 0)])) B10),
 (.ret (.loc 1))]⟩
noncomputable def B11:List CS:=[(.iff (.cmp .eq (.slc (.loc 0) (some (.loc 1)) (some (.bin .add (.loc 1) (.bi .len [(.loc 2)])))) (.loc 2)) [(.ret (.tup [(.tup [(.k (.str [115,105,103,110])),(.loc 2),(.loc 1),(.k .none),(.k .none)]),(.bin .add (.loc 1) (.bi .len [(.loc 2)]))]))] [])]
noncomputable def F11:Fn:=⟨[0,1],6,[],[],
 [(.for (.loc 2) (.glob 2) B11),
 .bad]⟩
noncomputable def F12:Fn:=⟨[0,1],10,[],[],
 [(.iff (.cmp .in (.idx (.loc 0) (.loc 1)) (.glob 3)) [(.asg (.loc 2) (.call (.glob 9) [(.loc 0),(.loc 1),(.glob 4)])),
 (.iff (.cmp .eq (.slc (.loc 0) (some (.loc 2)) (some (.bin .add (.loc 2) (.k (.int 1))))) (.k (.str [39]))) [.bad] []),
 (.ret (.tup [(.tup [(.k (.str [110,97,109,101])),(.slc (.loc 0) (some (.loc 1)) (some (.loc 2))),(.loc 1),(.k .none),(.k .none)]),(.loc 2)]))] []),
 (.iff (.cmp .in (.idx (.loc 0) (.loc 1)) (.glob 5)) [(.ret (.call .bad [(.loc 0),(.loc 1)]))] []),
 (.iff (.cmp .eq (.idx (.loc 0) (.loc 1)) (.k (.str [39]))) [(.asg (.loc 2) (.call (.glob 9) [(.loc 0),(.bin .add (.loc 1) (.k (.int 1))),(.glob 4)])),
 (.iff (.or [(.cmp .eq (.loc 2) (.bin .add (.loc 1) (.k (.int 1)))),(.cmp .in (.idx (.loc 0) (.bin .add (.loc 1) (.k (.int 1)))) (.glob 5))]) [.bad] []),
 (.ret (.tup [(.tup [(.k (.str [114,101,103,105,111,110])),(.slc (.loc 0) (some (.loc 1)) (some (.loc 2))),(.loc 1),(.k .none),(.k .none)]),(.loc 2)]))] []),
 (.ret (.call (.glob 11) [(.loc 0),(.loc 1)]))]⟩
noncomputable def B13:List CS:=[(.asg (.tup [(.loc 3),(.loc 2)]) (.call (.glob 12) [(.loc 0),(.loc 2)])),
 (.expr (.app (.loc 1) (.loc 3))),
 (.asg (.loc 2) (.call (.glob 10) [(.loc 0),(.loc 2)]))]
noncomputable def F13:Fn:=⟨[0],7,[],[],
 [(.asg (.loc 1) (.lst [])),
 (.asg (.loc 2) (.call (.glob 10) [(.loc 0),(.k (.int 0))])),
 (.whl (.cmp .lt (.loc 2) (.bi .len [(.loc 0)])) B13),
 (.expr (.app (.loc 1) (.tup [(.k (.str [101,110,100])),(.k (.str [])),(.bi .len [(.loc 0)]),(.k .none),(.k .none)]))),
 (.ret (.loc 1))]⟩
noncomputable def F14:Fn:=⟨[0],3,[],[],
 [(.ret (.mkw (.call (.glob 13) [(.loc 0)])))]⟩
noncomputable def F15:Fn:=⟨[0],3,[],[],
 [(.expr (.meth (.loc 0) 61 [])),
 (.asg (.loc 1) (.call (.glob 16) [(.loc 0)])),
 (.expr (.meth (.loc 0) 62 [])),
 (.ret (.loc 1))]⟩
noncomputable def F16:Fn:=⟨[0],7,[],[],
 [(.asg (.loc 1) (.meth (.loc 0) 63 [])),
 (.asg (.loc 2) (.idx (.loc 1) (.k (.int 2)))),
 (.iff (.meth (.loc 0) 65 [(.k (.str [40]))]) [(.ret (.call .bad [(.loc 0)]))] []),
 (.iff (.or [(.meth (.loc 0) 65 [(.k (.str [38]))]),(.meth (.loc 0) 65 [(.k (.str [38,38]))])]) [(.ret (.call .bad [(.loc 0)]))] []),
 (.iff (.meth (.loc 0) 65 [(.k (.str [91]))]) [(.ret (.call .bad [(.loc 0)]))] []),
 (.iff (.meth (.loc 0) 65 [(.k (.str [33]))]) [(.expr (.meth (.loc 0) 64 [])),
 (.ret (.tup [(.k (.str [110,101,118,101,114])),(.loc 2)]))] []),
 (.iff (.meth (.loc 0) 65 [(.k (.str [95]))]) [(.expr (.meth (.loc 0) 64 [])),
 (.ret (.tup [(.k (.str [105,110,102,101,114])),(.loc 2)]))] []),
 (.ret (.tup [(.k (.str [112,97,116,104])),(.loc 2),(.call (.glob 17) [(.loc 0)])]))]⟩
noncomputable def B17:List CS:=[(.expr (.meth (.loc 0) 64 [])),
 (.expr (.app (.loc 2) (.call (.glob 18) [(.loc 0),(.bi .tuple [(.comp (.idx (.loc 1) (.k (.int 0))) [1] true (.loc 2) [] 2 [])]),(.loc 1)])))]
noncomputable def F17:Fn:=⟨[0,1],5,[],[(.bool false)],
 [(.asg (.loc 2) (.lst [(.call (.glob 18) [(.loc 0),(.tup []),(.loc 1)])])),
 (.whl (.meth (.loc 0) 65 [(.k (.str [58,58]))]) B17),
 (.ret (.bi .tuple [(.loc 2)]))]⟩
noncomputable def F18:Fn:=⟨[0,1,2],6,[],[],
 [(.asg (.loc 3) (.call (.glob 19) [(.loc 0),(.loc 1)])),
 (.iff (.and [(.meth (.loc 0) 65 [(.k (.str [58,58]))]),(.meth (.loc 0) 65 [(.k (.str [60])),(.k (.int 1))])]) [(.expr (.meth (.loc 0) 64 [])),
 (.ret (.bin .add (.tup [(.loc 3)]) (.call .bad [(.loc 0)])))] []),
 (.iff (.and [(.not (.loc 2)),(.meth (.loc 0) 65 [(.k (.str [60]))])]) [(.ret (.bin .add (.tup [(.loc 3)]) (.call .bad [(.loc 0)])))] []),
 (.ret (.tup [(.loc 3),(.tup []),(.tup [])]))]⟩
noncomputable def F19:Fn:=⟨[0,1],5,[],[],
 [(.asg (.loc 2) (.meth (.loc 0) 63 [])),
 (.iff (.and [(.cmp .eq (.idx (.loc 2) (.k (.int 0))) (.k (.str [110,97,109,101]))),(.cmp .in (.idx (.loc 2) (.k (.int 1))) (.glob 8))]) [(.iff (.or [(.cmp .eq (.loc 1) (.tup [])),(.and [(.cmp .eq (.idx (.loc 2) (.k (.int 1))) (.k (.str [115,117,112,101,114]))),(.cmp .in (.idx (.loc 1) (.k (.int (-1)))) (.tup [(.k (.str [115,117,112,101,114])),(.k (.str [115,101,108,102]))]))])]) [(.expr (.meth (.loc 0) 64 [])),
 (.ret (.idx (.loc 2) (.k (.int 1))))] []),
 (.raise (.bin .add (.idx (.loc 2) (.k (.int 1))) (.k (.str [32,115,116,97,110,100,115,32,97,116,32,116,104,101,32,98,101,103,105,110,32,111,102,32,97,32,112,97,116,104,32,97,108,111,110,101]))) (.idx (.loc 2) (.k (.int 2))))] []),
 (.ret (.idx (.meth (.loc 0) 67 []) (.k (.int 0))))]⟩
noncomputable def F20:Fn:=⟨[0],2,[],[],
 [(.asg (.loc 1) (.meth (.loc 0) 63 [])),
 (.ret (.and [(.cmp .eq (.idx (.loc 1) (.k (.int 0))) (.k (.str [115,105,103,110]))),(.cmp .eq (.slc (.idx (.loc 1) (.k (.int 1))) none (some (.k (.int 1)))) (.k (.str [62])))]))]⟩
noncomputable def B21:List CS:=[(.iff (.cmp .eq (.idx (.meth (.loc 0) 63 []) (.k (.int 0))) (.k (.str [114,101,103,105,111,110]))) [(.iff (.cmp .ne (.loc 2) (.lst [])) [(.raise (.k (.str [114,101,103,105,111,110,115,32,115,116,97,110,100,32,97,104,101,97,100,32,111,102,32,116,121,112,101,115])) (.idx (.meth (.loc 0) 63 []) (.k (.int 2))))] []),
 (.expr (.app (.loc 1) (.call .bad [(.loc 0)])))] [(.expr (.app (.loc 2) (.call (.glob 22) [(.loc 0)])))]),
 (.iff (.not (.meth (.loc 0) 65 [(.k (.str [44]))])) [.brk] []),
 (.expr (.meth (.loc 0) 64 []))]
noncomputable def F21:Fn:=⟨[0],8,[],[],
 [(.iff (.not (.meth (.loc 0) 65 [(.k (.str [60]))])) [(.ret (.tup [(.tup []),(.tup [])]))] []),
 (.expr (.meth (.loc 0) 64 [])),
 (.swp [1,2] (.tup [(.lst []),(.lst [])])),
 (.whl (.not (.call (.glob 20) [(.loc 0)])) B21),
 (.expr (.meth (.loc 0) 68 [])),
 (.ret (.tup [(.bi .tuple [(.loc 1)]),(.bi .tuple [(.loc 2)])]))]⟩
noncomputable def B22:List CS:=[(.expr (.meth (.loc 0) 64 [])),
 (.expr (.app (.loc 2) (.call (.glob 17) [(.loc 0)])))]
noncomputable def F22:Fn:=⟨[0],5,[],[],
 [(.asg (.loc 1) (.idx (.meth (.loc 0) 67 []) (.k (.int 0)))),
 (.asg (.loc 2) (.lst [])),
 (.iff (.meth (.loc 0) 65 [(.k (.str [58]))]) [(.expr (.meth (.loc 0) 64 [])),
 (.expr (.app (.loc 2) (.call (.glob 17) [(.loc 0)]))),
 (.whl (.meth (.loc 0) 65 [(.k (.str [43]))]) B22)] []),
 (.ret (.tup [(.loc 1),(.bi .tuple [(.loc 2)])]))]⟩
noncomputable def F23:Fn:=⟨[0,1],3,[],[(.bool true)],
 [(.iff (.not (.meth (.loc 0) 65 [(.k (.str [112,117,98]))])) [(.ret (.k (.bool false)))] []),
 (.iff (.not (.loc 1)) [(.raise (.k (.str [112,117,98,32,99,97,110,110,111,116,32,115,116,97,110,100,32,104,101,114,101])) (.idx (.meth (.loc 0) 63 []) (.k (.int 2))))] []),
 (.expr (.meth (.loc 0) 64 [])),
 (.ret (.k (.bool true)))]⟩
noncomputable def F24:Fn:=⟨[0,1],13,[],[],
 [(.asg (.loc 2) (.idx (.meth (.loc 0) 66 [(.k (.str [102,110]))]) (.k (.int 2)))),
 (.asg (.loc 3) (.idx (.meth (.loc 0) 67 []) (.k (.int 0)))),
 (.asg (.loc 4) (.call (.glob 21) [(.loc 0)])),
 (.asg (.tup [(.loc 5),(.loc 6)]) (.call (.glob 25) [(.loc 0)])),
 (.asg (.tup [(.loc 7),(.loc 8)]) (.tup [(.k .none),(.k .none)])),
 (.iff (.meth (.loc 0) 65 [(.k (.str [45,62]))]) [(.expr (.meth (.loc 0) 64 [])),
 (.asg (.loc 7) (.call (.glob 15) [(.loc 0)]))] []),
 (.iff (.meth (.loc 0) 65 [(.k (.str [59]))]) [(.expr (.meth (.loc 0) 64 []))] [(.asg (.loc 8) (.call .bad [(.loc 0)]))]),
 (.ret (.tup [(.k (.str [102,110])),(.loc 2),(.loc 3),(.loc 4),(.loc 5),(.loc 6),(.loc 7),(.loc 8),(.loc 1)]))]⟩
noncomputable def B25:List CS:=[(.asg (.loc 3) (.call .bad [(.loc 0)])),
 (.expr (.meth (.loc 0) 66 [(.k (.str [58]))])),
 (.expr (.app (.loc 2) (.tup [(.loc 3),(.call (.glob 15) [(.loc 0)])]))),
 (.iff (.not (.meth (.loc 0) 65 [(.k (.str [44]))])) [.brk] []),
 (.expr (.meth (.loc 0) 64 []))]
noncomputable def F25:Fn:=⟨[0],8,[],[],
 [(.expr (.meth (.loc 0) 66 [(.k (.str [40]))])),
 (.asg (.loc 1) (.call (.glob 26) [(.loc 0)])),
 (.asg (.loc 2) (.lst [])),
 (.iff (.and [(.cmp .isnot (.loc 1) (.k .none)),(.not (.meth (.loc 0) 65 [(.k (.str [41]))]))]) [(.expr (.meth (.loc 0) 66 [(.k (.str [44]))]))] []),
 (.whl (.not (.meth (.loc 0) 65 [(.k (.str [41]))])) B25),
 (.expr (.meth (.loc 0) 66 [(.k (.str [41]))])),
 (.ret (.tup [(.loc 1),(.bi .tuple [(.loc 2)])]))]⟩
noncomputable def F26:Fn:=⟨[0],1,[],[],
 [(.iff (.and [(.meth (.loc 0) 65 [(.k (.str [115,101,108,102]))]),(.not (.meth (.loc 0) 65 [(.k (.str [58,58])),(.k (.int 1))]))]) [(.expr (.meth (.loc 0) 64 [])),
 (.ret (.k (.str [118,97,108,117,101])))] []),
 (.iff (.and [(.meth (.loc 0) 65 [(.k (.str [38]))]),(.meth (.loc 0) 65 [(.k (.str [115,101,108,102])),(.k (.int 1))]),(.not (.meth (.loc 0) 65 [(.k (.str [58,58])),(.k (.int 2))]))]) [(.expr (.meth (.loc 0) 64 [])),
 (.expr (.meth (.loc 0) 64 [])),
 (.ret (.k (.str [114,101,102])))] []),
 (.iff (.and [(.meth (.loc 0) 65 [(.k (.str [38]))]),(.meth (.loc 0) 65 [(.k (.str [109,117,116])),(.k (.int 1))]),(.meth (.loc 0) 65 [(.k (.str [115,101,108,102])),(.k (.int 2))]),(.not (.meth (.loc 0) 65 [(.k (.str [58,58])),(.k (.int 3))]))]) [(.expr (.meth (.loc 0) 64 [])),
 (.expr (.meth (.loc 0) 64 [])),
 (.expr (.meth (.loc 0) 64 [])),
 (.ret (.k (.str [109,117,116])))] []),
 (.ret (.k .none))]⟩
noncomputable def B27:List CS:=[(.asg (.loc 3) (.call (.glob 23) [(.loc 0),(.loc 1)])),
 (.asg (.loc 4) (.idx (.meth (.loc 0) 67 []) (.k (.int 0)))),
 (.expr (.meth (.loc 0) 66 [(.k (.str [58]))])),
 (.expr (.app (.loc 2) (.tup [(.loc 4),(.call (.glob 15) [(.loc 0)]),(.loc 3)]))),
 (.iff (.not (.meth (.loc 0) 65 [(.k (.str [44]))])) [.brk] []),
 (.expr (.meth (.loc 0) 64 []))]
noncomputable def F27:Fn:=⟨[0,1],8,[],[],
 [(.expr (.meth (.loc 0) 66 [(.k (.str [123]))])),
 (.asg (.loc 2) (.lst [])),
 (.whl (.not (.meth (.loc 0) 65 [(.k (.str [125]))])) B27),
 (.expr (.meth (.loc 0) 66 [(.k (.str [125]))])),
 (.ret (.bi .tuple [(.loc 2)]))]⟩
noncomputable def B28:List CS:=[(.asg (.loc 3) (.call (.glob 23) [(.loc 0),(.loc 1)])),
 (.expr (.app (.loc 2) (.tup [(.bi .str [(.bi .len [(.loc 2)])]),(.call (.glob 15) [(.loc 0)]),(.loc 3)]))),
 (.iff (.not (.meth (.loc 0) 65 [(.k (.str [44]))])) [.brk] []),
 (.expr (.meth (.loc 0) 64 []))]
noncomputable def F28:Fn:=⟨[0,1],9,[],[],
 [(.expr (.meth (.loc 0) 66 [(.k (.str [40]))])),
 (.asg (.loc 2) (.lst [])),
 (.whl (.not (.meth (.loc 0) 65 [(.k (.str [41]))])) B28),
 (.expr (.meth (.loc 0) 66 [(.k (.str [41]))])),
 (.ret (.bi .tuple [(.loc 2)]))]⟩
noncomputable def F29:Fn:=⟨[0,1],4,[],[],
 [(.iff (.meth (.loc 0) 65 [(.k (.str [123]))]) [(.ret (.tup [(.k (.str [110,97,109,101,100])),(.call (.glob 27) [(.loc 0),(.loc 1)])]))] []),
 (.iff (.meth (.loc 0) 65 [(.k (.str [40]))]) [(.ret (.tup [(.k (.str [116,117,112,108,101])),(.call (.glob 28) [(.loc 0),(.loc 1)])]))] []),
 (.ret (.tup [(.k (.str [117,110,105,116])),(.tup [])]))]⟩
noncomputable def F30:Fn:=⟨[0,1],9,[],[],
 [(.asg (.loc 2) (.idx (.meth (.loc 0) 66 [(.k (.str [115,116,114,117,99,116]))]) (.k (.int 2)))),
 (.asg (.loc 3) (.idx (.meth (.loc 0) 67 []) (.k (.int 0)))),
 (.asg (.loc 4) (.call (.glob 21) [(.loc 0)])),
 (.asg (.tup [(.loc 5),(.loc 6)]) (.call (.glob 29) [(.loc 0),(.k (.bool true))])),
 (.iff (.cmp .ne (.loc 5) (.k (.str [110,97,109,101,100]))) [(.expr (.meth (.loc 0) 66 [(.k (.str [59]))]))] []),
 (.ret (.tup [(.k (.str [115,116,114,117,99,116])),(.loc 2),(.loc 3),(.loc 4),(.loc 5),(.loc 6),(.loc 1)]))]⟩
noncomputable def B31:List CS:=[(.asg (.loc 3) (.call (.glob 23) [(.loc 0),(.loc 1)])),
 (.iff (.not (.meth (.loc 0) 65 [(.k (.str [102,110]))])) [(.raise (.k (.str [97,32,102,117,110,99,116,105,111,110,32,105,115,32,109,105,115,115,105,110,103])) (.idx (.meth (.loc 0) 63 []) (.k (.int 2))))] []),
 (.expr (.app (.loc 2) (.call (.glob 24) [(.loc 0),(.loc 3)])))]
noncomputable def F31:Fn:=⟨[0,1],8,[],[],
 [(.expr (.meth (.loc 0) 66 [(.k (.str [123]))])),
 (.asg (.loc 2) (.lst [])),
 (.whl (.not (.meth (.loc 0) 65 [(.k (.str [125]))])) B31),
 (.expr (.meth (.loc 0) 66 [(.k (.str [125]))])),
 (.ret (.bi .tuple [(.loc 2)]))]⟩
noncomputable def F32:Fn:=⟨[0],5,[],[],
 [(.asg (.loc 1) (.ite (.cmp .ne (.loc 0) (.lst [])) (.idx (.loc 0) (.k (.int 0))) (.k (.int 0)))),
 (.asg (.loc 2) (.bi .max [(.loc 1),(.bin .sub (.k (.int (-1))) (.loc 1))])),
 (.ret (.lst [(.bin .mul (.loc 2) (.bi .int [(.cmp .ge (.loc 2) (.bin .pow (.k (.int 10)) (.k (.int 18))))])),(.bin .mod (.bin .mul (.bin .add (.bin .mod (.loc 2) (.k (.int 2147483629))) (.k (.int 17))) (.k (.int 48271))) (.k (.int 2147483647)))]))]⟩
noncomputable def F33:Fn:=⟨[0,1],3,[],[],
 [(.iff (.cmp .gt (.idx (.loc 0) (.k (.int 0))) (.k (.int 0))) [(.asg (.loc 2) (.bin .mod (.idx (.loc 0) (.k (.int 0))) (.loc 1))),
 (.asg (.idx (.loc 0) (.k (.int 0))) (.bin .fdiv (.idx (.loc 0) (.k (.int 0))) (.loc 1))),
 (.ret (.loc 2))] []),
 (.asg (.idx (.loc 0) (.k (.int 1))) (.bin .mod (.bin .add (.bin .mul (.idx (.loc 0) (.k (.int 1))) (.k (.int 39373))) (.k (.int 7))) (.k (.int 2147483647)))),
 (.ret (.bin .mod (.bin .fdiv (.bin .mod (.bin .mul (.idx (.loc 0) (.k (.int 1))) (.idx (.loc 0) (.k (.int 1)))) (.k (.int 2147483629))) (.k (.int 32))) (.loc 1)))]⟩
noncomputable def F34:Fn:=⟨[0,1],4,[],[],
 [(.ret (.idx (.loc 1) (.call (.glob 33) [(.loc 0),(.bi .len [(.loc 1)])])))]⟩
noncomputable def B35:List CS:=[(.expr (.app (.loc 3) (.bi .len [(.loc 2)]))),
 (.asg (.loc 2) (.bin .add (.bin .add (.loc 2) (.loc 4)) (.bin .mul (.k (.str [32])) (.bin .add (.k (.int 1)) (.call (.glob 33) [(.loc 0),(.k (.int 2))])))))]
noncomputable def F35:Fn:=⟨[0,1],7,[],[],
 [(.swp [2,3] (.tup [(.bin .mul (.k (.str [32])) (.call (.glob 33) [(.loc 0),(.k (.int 2))])),(.lst [])])),
 (.for (.loc 4) (.loc 1) B35),
 (.ret (.tup [(.loc 2),(.bin .add (.loc 3) (.lst [(.bi .len [(.loc 2)])]))]))]⟩
noncomputable def F36:Fn:=⟨[0,1],5,[],[],
 [(.tryR [(.asg (.loc 2) (.call (.loc 0) []))]),
 (.ret (.tup [(.loc 2),(.attr (.loc 1) 1)]))]⟩
noncomputable def F37:Fn:=⟨[0,1],2,[],[],
 [(.iff (.cmp .eq (.loc 0) (.k (.str [33]))) [(.ret (.tup [(.k (.str [110,101,118,101,114])),(.loc 1)]))] []),
 (.ret (.ite (.cmp .eq (.loc 0) (.k (.str [95]))) (.tup [(.k (.str [105,110,102,101,114])),(.loc 1)]) (.tup [(.k (.str [112,97,116,104])),(.loc 1),(.tup [(.tup [(.loc 0),(.tup []),(.tup [])])])])))]⟩
noncomputable def F38:Fn:=⟨[0,1],4,[2],[],
 [(.iff (.cmp .eq (.loc 0) (.lst [])) [(.ret (.k .none))] []),
 (.asg (.cel 2) (.bi .min [(.comp (.loc 1) [1,2] false (.loc 0) [] 3 [])])),
 (.ret (.lst [(.idx (.comp (.loc 2) [1,2] false (.loc 0) [(.cmp .eq (.loc 1) (.cel 3))] 4 [(3,2)]) (.k (.int 0))),(.idx (.loc 1) (.cel 2))]))]⟩
noncomputable def B39:List CS:=[(.swp [10,11,12] (.tup [(.cmp .eq (.call (.glob 33) [(.loc 0),(.k (.int 3))]) (.k (.int 0))),(.idx (.lst [(.k (.str [97])),(.k (.str [98,49])),(.k (.str [95,99]))]) (.loc 9)),(.ite (.cmp .eq (.loc 9) (.loc 7)) (.call (.glob 33) [(.loc 0),(.k (.int 4))]) (.k (.int 9)))])),
 (.iff (.loc 10) [(.iff (.not (.loc 2)) [(.expr (.app (.loc 5) (.tup [(.bi .len [(.loc 3)]),(.k (.str [112,117,98,32,99,97,110,110,111,116,32,115,116,97,110,100,32,104,101,114,101]))])))] []),
 (.expr (.app (.loc 3) (.k (.str [112,117,98]))))] []),
 (.iff (.cmp .eq (.idx (.loc 1) (.k (.int 0))) (.k (.str [123]))) [(.iff (.cmp .eq (.loc 12) (.k (.int 0))) [(.expr (.app (.loc 5) (.tup [(.bi .len [(.loc 3)]),(.k (.str [97,32,110,97,109,101,32,105,115,32,109,105,115,115,105,110,103]))])))] []),
 (.expr (.app (.loc 3) (.ite (.cmp .eq (.loc 12) (.k (.int 0))) (.k (.str [102,110])) (.loc 11)))),
 (.iff (.cmp .eq (.loc 12) (.k (.int 1))) [(.expr (.app (.loc 5) (.tup [(.bi .len [(.loc 3)]),(.k (.str [58,32,105,115,32,109,105,115,115,105,110,103]))])))] []),
 (.expr (.ext (.loc 3) (.bin .mul (.lst [(.k (.str [58]))]) (.bi .int [(.cmp .ne (.loc 12) (.k (.int 1)))]))))] []),
 (.iff (.cmp .eq (.loc 12) (.k (.int 2))) [(.expr (.app (.loc 5) (.tup [(.bi .len [(.loc 3)]),(.k (.str [97,32,110,97,109,101,32,105,115,32,109,105,115,115,105,110,103]))])))] []),
 (.expr (.app (.loc 4) (.tup [(.ite (.cmp .eq (.idx (.loc 1) (.k (.int 0))) (.k (.str [123]))) (.loc 11) (.bi .str [(.loc 9)])),(.bi .len [(.loc 3)]),(.loc 10)]))),
 (.expr (.app (.loc 3) (.ite (.cmp .eq (.loc 12) (.k (.int 2))) (.k (.str [59])) (.call (.glob 34) [(.loc 0),(.lst [(.k (.str [117,56])),(.k (.str [98,111,111,108])),(.k (.str [80])),(.k (.str [33])),(.k (.str [95]))])])))),
 (.iff (.and [(.cmp .lt (.bin .add (.loc 9) (.k (.int 1))) (.loc 6)),(.cmp .eq (.loc 12) (.k (.int 3)))]) [(.expr (.app (.loc 5) (.tup [(.bi .len [(.loc 3)]),(.bin .add (.idx (.loc 1) (.k (.int 1))) (.k (.str [32,105,115,32,109,105,115,115,105,110,103])))])))] [(.iff (.or [(.cmp .lt (.bin .add (.loc 9) (.k (.int 1))) (.loc 6)),(.loc 8)]) [(.expr (.app (.loc 3) (.k (.str [44]))))] [])])]
noncomputable def F39:Fn:=⟨[0,1,2],21,[],[],
 [(.asg (.tup [(.loc 3),(.loc 4),(.loc 5),(.loc 6)]) (.tup [(.lst [(.idx (.loc 1) (.k (.int 0)))]),(.lst []),(.lst []),(.call (.glob 33) [(.loc 0),(.k (.int 4))])])),
 (.swp [7,8] (.tup [(.call (.glob 34) [(.loc 0),(.lst [(.k (.int (-1))),(.k (.int (-1))),(.call (.glob 33) [(.loc 0),(.k (.int 3))])])]),(.cmp .eq (.call (.glob 33) [(.loc 0),(.k (.int 2))]) (.k (.int 0)))])),
 (.forR (.loc 9) (.loc 6) B39),
 (.asg (.loc 13) (.call (.glob 34) [(.loc 0),(.lst [(.idx (.loc 1) (.k (.int 1))),(.idx (.loc 1) (.k (.int 1))),(.idx (.loc 1) (.k (.int 1))),(.k (.str [59]))])])),
 (.iff (.cmp .eq (.loc 13) (.k (.str [59]))) [(.asg (.loc 14) (.or [(.cmp .eq (.loc 6) (.k (.int 0))),(.cmp .eq (.idx (.loc 3) (.k (.int (-1)))) (.k (.str [44])))])),
 (.expr (.app (.loc 5) (.tup [(.bi .len [(.loc 3)]),(.ite (.loc 14) (.k (.str [97,32,110,97,109,101,32,105,115,32,109,105,115,115,105,110,103])) (.bin .add (.idx (.loc 1) (.k (.int 1))) (.k (.str [32,105,115,32,109,105,115,115,105,110,103]))))])))] []),
 (.ret (.tup [(.bin .add (.loc 3) (.lst [(.loc 13)])),(.loc 4),(.loc 5)]))]⟩
noncomputable def F40:Fn:=⟨[0,1,2],4,[0,2],[],
 [(.ret (.bi .tuple [(.comp (.tup [(.loc 1),(.call (.glob 37) [(.idx (.cel 6) (.loc 2)),(.idx (.cel 5) (.loc 2))]),(.loc 3)]) [1,2,3] false (.loc 1) [] 7 [(5,2),(6,0)])]))]⟩
noncomputable def F41:Fn:=⟨[0,1],18,[8,9],[],
 [(.asg (.cel 8) (.cmp .eq (.call (.glob 33) [(.loc 0),(.k (.int 2))]) (.k (.int 0)))),
 (.asg (.tup [(.loc 2),(.loc 3),(.loc 4)]) (.call (.glob 39) [(.loc 0),(.loc 1),(.cel 8)])),
 (.asg (.tup [(.loc 5),(.loc 6)]) (.call (.glob 35) [(.loc 0),(.loc 2)])),
 (.asg (.tup [(.cel 9),(.loc 7)]) (.tup [(.call (.glob 14) [(.loc 5)]),(.call (.glob 38) [(.loc 4),(.loc 6)])])),
 (.iff (.cmp .is (.loc 7) (.k .none)) [(.asg (.loc 7) (.tup [(.call (.glob 40) [(.loc 2),(.loc 3),(.loc 6)]),(.bi .len [(.loc 2)])]))] []),
 (.iff (.cmp .eq (.idx (.loc 1) (.k (.int 0))) (.k (.str [123]))) [(.ret (.cmp .eq (.call (.glob 36) [(.lam [] 3 [(0,8),(1,9)] (.call (.glob 27) [(.cel 1),(.cel 0)])),(.cel 9)]) (.loc 7)))] []),
 (.ret (.cmp .eq (.call (.glob 36) [(.lam [] 3 [(0,8),(1,9)] (.call (.glob 28) [(.cel 1),(.cel 0)])),(.cel 9)]) (.loc 7)))]⟩
noncomputable def F42:Fn:=⟨[0],27,[7,10,17],[],
 [(.swp [1,2,3] (.tup [(.call (.glob 34) [(.loc 0),(.lst [(.k (.str [83])),(.k (.str [84,49])),(.k (.str [102,110]))])]),(.call (.glob 33) [(.loc 0),(.k (.int 2))]),(.call (.glob 33) [(.loc 0),(.k (.int 3))])])),
 (.swp [4,5] (.tup [(.bin .add (.lst [(.k (.str [115,116,114,117,99,116])),(.loc 1)]) (.bin .mul (.lst [(.k (.str [60])),(.k (.str [88])),(.k (.str [62]))]) (.loc 2))),(.lst [])])),
 (.iff (.cmp .eq (.loc 1) (.k (.str [102,110]))) [(.expr (.app (.loc 5) (.tup [(.k (.int 1)),(.k (.str [97,32,110,97,109,101,32,105,115,32,109,105,115,115,105,110,103]))])))] []),
 (.asg (.tup [(.loc 6),(.cel 7)]) (.tup [(.lst []),(.bi .len [(.loc 4)])])),
 (.iff (.cmp .lt (.loc 3) (.k (.int 2))) [(.asg (.tup [(.loc 8),(.loc 6),(.loc 9)]) (.call (.glob 39) [(.loc 0),(.idx (.lst [(.tup [(.k (.str [123])),(.k (.str [125]))]),(.tup [(.k (.str [40])),(.k (.str [41]))])]) (.loc 3)),(.k (.bool true))])),
 (.swp [4,5] (.tup [(.bin .add (.loc 4) (.loc 8)),(.bin .add (.loc 5) (.comp (.tup [(.bin .add (.cel 3) (.loc 1)),(.loc 2)]) [1,2] false (.loc 9) [] 4 [(3,7)]))]))] []),
 (.asg (.loc 6) (.comp (.tup [(.loc 1),(.bin .add (.cel 4) (.loc 2)),(.loc 3)]) [1,2,3] false (.loc 6) [] 5 [(4,7)])),
 (.iff (.cmp .gt (.loc 3) (.k (.int 0))) [(.asg (.loc 11) (.call (.glob 34) [(.loc 0),(.lst [(.k (.str [59])),(.k (.str [59])),(.k (.str [41]))])])),
 (.iff (.cmp .ne (.loc 11) (.k (.str [59]))) [(.expr (.app (.loc 5) (.tup [(.bi .len [(.loc 4)]),(.k (.str [59,32,105,115,32,109,105,115,115,105,110,103]))])))] []),
 (.asg (.loc 4) (.bin .add (.loc 4) (.lst [(.loc 11)])))] []),
 (.asg (.tup [(.loc 12),(.loc 13)]) (.call (.glob 35) [(.loc 0),(.loc 4)])),
 (.asg (.tup [(.cel 17),(.cel 10),(.loc 14)]) (.tup [(.call (.glob 14) [(.loc 12)]),(.cmp .eq (.call (.glob 33) [(.loc 0),(.k (.int 2))]) (.k (.int 0))),(.call (.glob 38) [(.loc 5),(.loc 13)])])),
 (.iff (.cmp .is (.loc 14) (.k .none)) [(.asg (.loc 15) (.ite (.cmp .eq (.loc 2) (.k (.int 1))) (.tup [(.tup []),(.tup [(.tup [(.k (.str [88])),(.tup [])])])]) (.tup [(.tup []),(.tup [])]))),
 (.asg (.loc 16) (.call (.glob 40) [(.loc 4),(.loc 6),(.loc 13)])),
 (.asg (.loc 14) (.tup [(.tup [(.k (.str [115,116,114,117,99,116])),(.idx (.loc 13) (.k (.int 0))),(.loc 1),(.loc 15),(.idx (.lst [(.k (.str [110,97,109,101,100])),(.k (.str [116,117,112,108,101])),(.k (.str [117,110,105,116]))]) (.loc 3)),(.loc 16),(.cel 10)]),(.bi .len [(.loc 4)])]))] []),
 (.ret (.cmp .eq (.call (.glob 36) [(.lam [] 3 [(0,10),(1,17)] (.call (.glob 30) [(.cel 1),(.cel 0)])),(.cel 17)]) (.loc 14)))]⟩
noncomputable def B43:List CS:=[(.swp [5,6,7] (.tup [(.cmp .eq (.call (.glob 33) [(.loc 0),(.k (.int 3))]) (.k (.int 0))),(.cmp .gt (.call (.glob 33) [(.loc 0),(.k (.int 6))]) (.k (.int 0))),(.cmp .eq (.call (.glob 33) [(.loc 0),(.k (.int 2))]) (.k (.int 0)))])),
 (.iff (.loc 5) [(.iff (.not (.cel 14)) [(.expr (.app (.loc 3) (.tup [(.bi .len [(.loc 1)]),(.k (.str [112,117,98,32,99,97,110,110,111,116,32,115,116,97,110,100,32,104,101,114,101]))])))] []),
 (.expr (.app (.loc 1) (.k (.str [112,117,98]))))] []),
 (.iff (.not (.loc 6)) [(.expr (.app (.loc 3) (.tup [(.bi .len [(.loc 1)]),(.k (.str [97,32,102,117,110,99,116,105,111,110,32,105,115,32,109,105,115,115,105,110,103]))])))] []),
 (.expr (.app (.loc 2) (.tup [(.bi .len [(.loc 1)]),(.loc 5),(.loc 7)]))),
 (.expr (.ext (.loc 1) (.bin .add (.bin .add (.lst [(.ite (.loc 6) (.k (.str [102,110])) (.k (.str [117,115,101]))),(.k (.str [102])),(.k (.str [40])),(.k (.str [41]))]) (.bin .mul (.lst [(.k (.str [45,62])),(.k (.str [117,56]))]) (.bi .int [(.loc 7)]))) (.lst [(.k (.str [59]))]))))]
noncomputable def QnK:List CS:=[(.asg (.loc 13) (.ite (.loc 7) (.call (.glob 37) [(.k (.str [117,56])),(.idx (.loc 9) (.bin .add (.loc 12) (.k (.int 5))))]) (.k .none))),
 (.expr (.app (.loc 11) (.tup [(.k (.str [102,110])),(.idx (.loc 9) (.loc 12)),(.k (.str [102])),(.tup [(.tup []),(.tup [])]),(.k .none),(.tup []),(.loc 13),(.k .none),(.loc 5)])))]
noncomputable def F43:Fn:=⟨[0],26,[14,15],[],
 [(.asg (.tup [(.cel 14),(.loc 1),(.loc 2),(.loc 3)]) (.tup [(.cmp .eq (.call (.glob 33) [(.loc 0),(.k (.int 2))]) (.k (.int 0))),(.lst [(.k (.str [123]))]),(.lst []),(.lst [])])),
 (.forR (.loc 4) (.call (.glob 33) [(.loc 0),(.k (.int 4))]) B43),
 (.expr (.app (.loc 1) (.k (.str [125])))),
 (.asg (.tup [(.loc 8),(.loc 9)]) (.call (.glob 35) [(.loc 0),(.loc 1)])),
 (.asg (.tup [(.cel 15),(.loc 10)]) (.tup [(.call (.glob 14) [(.loc 8)]),(.call (.glob 38) [(.loc 3),(.loc 9)])])),
 (.iff (.cmp .is (.loc 10) (.k .none)) [(.asg (.loc 11) (.lst [])),
 (.for (.tup [(.loc 12),(.loc 5),(.loc 7)]) (.loc 2) QnK),
 (.asg (.loc 10) (.tup [(.bi .tuple [(.loc 11)]),(.bi .len [(.loc 1)])]))] []),
 (.ret (.cmp .eq (.call (.glob 36) [(.lam [] 3 [(0,14),(1,15)] (.call (.glob 31) [(.cel 1),(.cel 0)])),(.cel 15)]) (.loc 10)))]⟩
noncomputable def F44:Fn:=⟨[0,1,2],6,[0,3],[],
 [(.asg (.cel 3) (.call (.glob 14) [(.loc 1)])),
 (.ret (.cmp .eq (.call (.glob 36) [(.lam [] 2 [(0,0),(1,3)] (.call (.cel 0) [(.cel 1)])),(.cel 3)]) (.loc 2)))]⟩
noncomputable def F45:Fn:=⟨[],6,[],[],
 [(.asg (.tup [(.loc 0),(.loc 1)]) (.tup [(.tup [(.k (.str [112,97,116,104])),(.k (.int 7)),(.tup [(.tup [(.k (.str [117,56])),(.tup []),(.tup [])])])]),(.tup [(.k (.str [112,97,116,104])),(.k (.int 5)),(.tup [(.tup [(.k (.str [80])),(.tup []),(.tup [])])])])])),
 (.iff (.not (.call (.glob 44) [(.lam [0] 2 [] (.call (.glob 27) [(.loc 0),(.k (.bool true))])),(.k (.str [123,112,117,98,32,97,58,117,56,44,125])),(.tup [(.tup [(.tup [(.k (.str [97])),(.loc 0),(.k (.bool true))])]),(.k (.int 7))])])) [(.ret (.k (.bool false)))] []),
 (.iff (.not (.call (.glob 44) [(.lam [0] 2 [] (.call (.glob 27) [(.loc 0),(.k (.bool false))])),(.k (.str [123,112,117,98,32,97,58,117,56,125])),(.lst [(.k (.str [112,117,98,32,99,97,110,110,111,116,32,115,116,97,110,100,32,104,101,114,101])),(.k (.int 1))])])) [(.ret (.k (.bool false)))] []),
 (.iff (.not (.call (.glob 44) [(.lam [0] 2 [] (.call (.glob 28) [(.loc 0),(.k (.bool true))])),(.k (.str [40,112,117,98,32,80,41])),(.tup [(.tup [(.tup [(.k (.str [48])),(.loc 1),(.k (.bool true))])]),(.k (.int 4))])])) [(.ret (.k (.bool false)))] []),
 (.iff (.not (.call (.glob 44) [(.lam [0] 2 [] (.call (.glob 28) [(.loc 0),(.k (.bool false))])),(.k (.str [40,41])),(.tup [(.tup []),(.k (.int 2))])])) [(.ret (.k (.bool false)))] []),
 (.iff (.not (.call (.glob 44) [(.lam [0] 2 [] (.call (.glob 28) [(.loc 0),(.k (.bool false))])),(.k (.str [40,80,32,80,41])),(.lst [(.k (.str [41,32,105,115,32,109,105,115,115,105,110,103])),(.k (.int 3))])])) [(.ret (.k (.bool false)))] []),
 (.asg (.loc 2) (.tup [(.k (.str [115,116,114,117,99,116])),(.k (.int 0)),(.k (.str [83])),(.tup [(.tup []),(.tup [])]),(.k (.str [117,110,105,116])),(.tup []),(.k (.bool true))])),
 (.iff (.not (.call (.glob 44) [(.lam [0] 2 [] (.call (.glob 30) [(.loc 0),(.k (.bool true))])),(.k (.str [115,116,114,117,99,116,32,83,59])),(.tup [(.loc 2),(.k (.int 3))])])) [(.ret (.k (.bool false)))] []),
 (.iff (.not (.call (.glob 44) [(.lam [0] 2 [] (.call (.glob 30) [(.loc 0),(.k (.bool true))])),(.k (.str [115,116,114,117,99,116,32,83,40,41])),(.lst [(.k (.str [59,32,105,115,32,109,105,115,115,105,110,103])),(.k (.int 10))])])) [(.ret (.k (.bool false)))] []),
 (.asg (.loc 3) (.tup [(.k (.str [115,116,114,117,99,116])),(.k (.int 0)),(.k (.str [83])),(.tup [(.tup []),(.tup [])]),(.k (.str [110,97,109,101,100])),(.tup []),(.k (.bool false))])),
 (.iff (.not (.call (.glob 44) [(.lam [0] 2 [] (.call (.glob 30) [(.loc 0),(.k (.bool false))])),(.k (.str [115,116,114,117,99,116,32,83,123,125])),(.tup [(.loc 3),(.k (.int 4))])])) [(.ret (.k (.bool false)))] []),
 (.iff (.not (.call (.glob 44) [(.lam [0] 2 [] (.call (.glob 31) [(.loc 0),(.k (.bool false))])),(.k (.str [123,120,125])),(.lst [(.k (.str [97,32,102,117,110,99,116,105,111,110,32,105,115,32,109,105,115,115,105,110,103])),(.k (.int 1))])])) [(.ret (.k (.bool false)))] []),
 (.asg (.loc 4) (.tup [(.k (.str [102,110])),(.k (.int 5)),(.k (.str [102])),(.tup [(.tup []),(.tup [])]),(.k .none),(.tup []),(.k .none),(.k .none),(.k (.bool true))])),
 (.ret (.call (.glob 44) [(.lam [0] 2 [] (.call (.glob 31) [(.loc 0),(.k (.bool true))])),(.k (.str [123,112,117,98,32,102,110,32,102,40,41,59,125])),(.tup [(.tup [(.loc 4)]),(.k (.int 8))])]))]⟩
noncomputable def F46:Fn:=⟨[0],7,[],[],
 [(.iff (.not (.call (.glob 45) [])) [(.ret (.k (.bool false)))] []),
 (.asg (.loc 1) (.call (.glob 32) [(.loc 0)])),
 (.iff (.or [(.not (.call (.glob 41) [(.loc 1),(.tup [(.k (.str [123])),(.k (.str [125]))])])),(.not (.call (.glob 41) [(.loc 1),(.tup [(.k (.str [40])),(.k (.str [41]))])]))]) [(.ret (.k (.bool false)))] []),
 (.ret (.and [(.call (.glob 42) [(.loc 1)]),(.call (.glob 43) [(.loc 1)])]))]⟩
noncomputable def F60:Fn:=⟨[0,1],3,[],[],
 [(.asg (.attr (.loc 0) 0) (.bi .list [(.loc 1)])),
 (.asg (.attr (.loc 0) 1) (.k (.int 0))),
 (.asg (.attr (.loc 0) 2) (.k (.int 0)))]⟩
noncomputable def F61:Fn:=⟨[0],3,[],[],
 [(.aug (.attr (.loc 0) 2) .add (.k (.int 1))),
 (.iff (.cmp .gt (.attr (.loc 0) 2) (.glob 7)) [(.raise (.k (.str [116,111,111,32,109,97,110,121,32,112,97,114,116,115,32,119,105,116,104,105,110,32,111,110,101,32,97,110,111,116,104,101,114])) (.idx (.meth (.loc 0) 63 []) (.k (.int 2))))] [])]⟩
noncomputable def F62:Fn:=⟨[0],1,[],[],
 [(.aug (.attr (.loc 0) 2) .sub (.k (.int 1)))]⟩
noncomputable def F63:Fn:=⟨[0,1],4,[],[(.int 0)],
 [(.ret (.idx (.attr (.loc 0) 0) (.bi .min [(.bin .add (.attr (.loc 0) 1) (.loc 1)),(.bin .sub (.bi .len [(.attr (.loc 0) 0)]) (.k (.int 1)))])))]⟩
noncomputable def F64:Fn:=⟨[0],2,[],[],
 [(.asg (.loc 1) (.meth (.loc 0) 63 [])),
 (.iff (.cmp .ne (.idx (.loc 1) (.k (.int 0))) (.k (.str [101,110,100]))) [(.aug (.attr (.loc 0) 1) .add (.k (.int 1)))] []),
 (.ret (.loc 1))]⟩
noncomputable def F65:Fn:=⟨[0,1,2],4,[],[(.int 0)],
 [(.asg (.loc 3) (.meth (.loc 0) 63 [(.loc 2)])),
 (.ret (.and [(.cmp .in (.idx (.loc 3) (.k (.int 0))) (.tup [(.k (.str [115,105,103,110])),(.k (.str [110,97,109,101]))])),(.cmp .eq (.idx (.loc 3) (.k (.int 1))) (.loc 1))]))]⟩
noncomputable def F66:Fn:=⟨[0,1],3,[],[],
 [(.iff (.not (.meth (.loc 0) 65 [(.loc 1)])) [(.raise (.bin .add (.loc 1) (.k (.str [32,105,115,32,109,105,115,115,105,110,103]))) (.idx (.meth (.loc 0) 63 []) (.k (.int 2))))] []),
 (.ret (.meth (.loc 0) 64 []))]⟩
noncomputable def F67:Fn:=⟨[0],4,[],[],
 [(.asg (.loc 1) (.meth (.loc 0) 63 [])),
 (.iff (.or [(.cmp .ne (.idx (.loc 1) (.k (.int 0))) (.k (.str [110,97,109,101]))),(.cmp .in (.idx (.loc 1) (.k (.int 1))) (.glob 1))]) [(.raise (.k (.str [97,32,110,97,109,101,32,105,115,32,109,105,115,115,105,110,103])) (.idx (.loc 1) (.k (.int 2))))] []),
 (.aug (.attr (.loc 0) 1) .add (.k (.int 1))),
 (.ret (.tup [(.idx (.loc 1) (.k (.int 1))),(.idx (.loc 1) (.k (.int 2)))]))]⟩
noncomputable def F68:Fn:=⟨[0],3,[],[],
 [(.asg (.loc 1) (.meth (.loc 0) 63 [])),
 (.iff (.or [(.cmp .ne (.idx (.loc 1) (.k (.int 0))) (.k (.str [115,105,103,110]))),(.cmp .ne (.slc (.idx (.loc 1) (.k (.int 1))) none (some (.k (.int 1)))) (.k (.str [62])))]) [(.raise (.k (.str [62,32,105,115,32,109,105,115,115,105,110,103])) (.idx (.loc 1) (.k (.int 2))))] []),
 (.iff (.cmp .eq (.idx (.loc 1) (.k (.int 1))) (.k (.str [62]))) [(.aug (.attr (.loc 0) 1) .add (.k (.int 1)))] [(.asg (.idx (.attr (.loc 0) 0) (.attr (.loc 0) 1)) (.tup [(.k (.str [115,105,103,110])),(.slc (.idx (.loc 1) (.k (.int 1))) (some (.k (.int 1))) none),(.bin .add (.idx (.loc 1) (.k (.int 2))) (.k (.int 1))),(.k .none),(.k .none)]))]),
 (.ret (.tup [(.k (.str [115,105,103,110])),(.k (.str [62])),(.idx (.loc 1) (.k (.int 2))),(.k .none),(.k .none)]))]⟩
noncomputable def fnT:List (Option Fn):=List.replicate 9 none++[F9,F10,F11,F12,F13,F14,F15,F16,F17,F18,F19,F20,F21,F22,F23,F24,F25,F26,F27,F28,F29,F30,F31,F32,F33,F34,F35,F36,F37,F38,F39,F40,F41,F42,F43,F44,F45,F46].map some++(List.replicate 13 none++[F60,F61,F62,F63,F64,F65,F66,F67,F68].map some)
noncomputable def fnL (k:Nat):Option Fn:=fnT[k]?.join
noncomputable def gvT:List V:=[G0,G1,G2,G3,G4,G5,G6,G7,G8,.fn 9,.fn 10,.fn 11,.fn 12,.fn 13,.fn 14,.fn 15,.fn 16,.fn 17,.fn 18,.fn 19,.fn 20,.fn 21,.fn 22,.fn 23,.fn 24,.fn 25,.fn 26,.fn 27,.fn 28,.fn 29,.fn 30,.fn 31,.fn 32,.fn 33,.fn 34,.fn 35,.fn 36,.fn 37,.fn 38,.fn 39,.fn 40,.fn 41,.fn 42,.fn 43,.fn 44,.fn 45,.fn 46]
noncomputable def gvL (k:Nat):Option V:=gvT[k]?
noncomputable def cL:Cx:=⟨gvL,fnL,2000⟩
end
section
open PySem PySem.W
noncomputable abbrev pw:=PySem.Challenge.pw_xw0184_01
noncomputable def ROWS:List (Nat×Nat×Nat×Nat×Nat×Nat):=[(9,17,69,68,64,0),(10,19,83,82,78,0),(11,23,111,110,106,0),(12,24,118,117,113,0),(13,25,125,124,120,0),(14,26,132,131,127,0),(15,31,219,218,214,0),(16,32,226,225,221,0),(17,37,260,259,257,255),(18,38,267,266,262,0),(19,39,274,273,269,0),(20,41,288,287,283,0),(21,42,295,294,290,0),(22,44,309,308,304,0),(23,103,659,658,654,652),(24,104,666,665,661,0),(25,105,673,672,668,0),(26,106,680,679,675,0),(27,107,687,686,682,0),(28,108,694,693,689,0),(29,109,701,700,696,0),(30,110,708,707,703,0),(31,111,715,714,710,0),(32,113,722,721,717,0),(33,114,729,728,724,0),(34,115,736,735,731,0),(35,116,743,742,738,0),(36,117,750,749,745,0),(37,118,757,756,752,0),(38,119,762,761,759,0),(39,120,769,768,764,0),(40,121,774,773,771,0),(41,122,781,780,776,0),(42,123,786,785,783,0),(43,124,793,792,788,0),(44,125,800,799,795,0),(45,126,807,806,802,0),(46,127,814,813,809,0),(60,1000,146,145,141,0),(61,1001,153,152,148,0),(62,1002,160,159,155,0),(63,1003,168,167,163,161),(64,1004,175,174,170,0),(65,1005,183,182,178,176),(66,1006,190,189,185,0),(67,1007,197,196,192,0),(68,1008,204,203,199,0)]
noncomputable def AS:List Nat:=[0,2,3,4,60,61,62,212,57,56,32,31,207,206,29,28,22]++ROWS.flatMap λ q=>[q.2.2.1,q.2.2.2.1]++(if q.2.2.2.2.2=0 then [] else [q.2.2.2.2.2])
noncomputable def PS:List Nat:=ROWS.map (·.2.2.2.2.1)
noncomputable def Qet (as:List Nat) (h:Heap):Frag:=as.filterMap λ a=>(h.get? a).map λ o=>(a,o)
noncomputable def Qj7 (d:Data):Array DictEntry:=d.casesOn #[] (λ _=>#[]) (λ _ _=>#[]) (λ es _=>es) (λ _ _ _=>#[]) (λ _ _=>#[]) (λ _=>#[]) (λ _=>#[]) (λ _=>#[]) (λ _=>#[]) #[]
noncomputable def Qnv (d:Data):Array Value:=d.casesOn #[] (λ _=>#[]) (λ its _=>its) (λ _ _=>#[]) (λ _ _ _=>#[]) (λ _ _=>#[]) (λ _=>#[]) (λ _=>#[]) (λ _=>#[]) (λ _=>#[]) #[]
noncomputable def QnA (d:Data):Array Value:=d.casesOn #[] (λ _=>#[]) (λ _ _=>#[]) (λ _ _=>#[]) (λ _ _ _=>#[]) (λ _ _=>#[]) (λ _=>#[]) (λ _=>#[]) (λ _=>#[]) (λ vs=>vs) #[]
noncomputable def fnO (d:Data):Option FuncData:=d.casesOn none (λ _=>none) (λ _ _=>none) (λ _ _=>none) (λ _ _ _=>none) (λ _ _=>none) (λ _=>none) (λ f=>some f) (λ _=>none) (λ _=>none) none
noncomputable def Qoq (d:Data):Bool:=d.ctorIdx==3&&(Qj7 d).toList.all λ e=>e.key.ctorIdx==6
noncomputable def gNs (G:Frag) (a:Nat) (x:Str):Option Value:=(G.lookup a).bind λ o=>nsFind (Qj7 o.data) x
noncomputable def nsB (G:Frag) (a:Nat):Bool:=(G.lookup a).any λ o=>Qoq o.data
noncomputable def fdB (G:Frag) (a:Nat):Option FuncData:=(G.lookup a).bind λ o=>fnO o.data
noncomputable def QgQ (v:V) (u:Value):Bool:=match v with
 | .none=>u.ctorIdx==0
 | .bool b=>u==.bool b
 | .int i=>(match u with | .int j _=>i==j | _=>false)
 | .str l=>(match u with | .str s _=>l==s.cps.toList | _=>false)
 | _=>false
noncomputable def QcP:List V->List Value->Bool
 | [],[]=>true
 | a::l,b::r=>QgQ a b&&QcP l r
 | _,_=>false
noncomputable def QgD (o:Obj) (c:Value) (k:Nat):Bool:=o.cls==c&&(o.dict==none&&(o.slots.isEmpty&&o.data.ctorIdx==k))
noncomputable def Qlt (G:Frag) (l:List V) (t:Nat):Bool:=(G.lookup t).any λ o=>QgD o (.type "tuple") 2&&QcP l (Qnv o.data).toList
noncomputable def Ql9 (vs:Array Value) (P:Nat) (q:Str):Bool:=
 (vs[1]?).any (·.isStr q)&&(vs[11]?==some (.ref P)&&((vs.getD 18 .none).ctorIdx==6&&((vs.getD 7 .none).ctorIdx==4&&((vs.getD 9 .none).ctorIdx==3&&(vs.getD 10 .none).ctorIdx==4))))
noncomputable def Qma (G:Frag) (c P:Nat) (q:Str):Bool:=(G.lookup c).any λ o=>o.cls==.type "code" && (o.data.ctorIdx==9&&(Ql9 (QnA o.data) P q&&c != P))
noncomputable def fnB (G:Frag) (fd:FuncData) (c P:Nat):Bool:=fd.globals==mainGlobals&&(fd.builtins==builtinsNs&&(fd.closure.isEmpty&&(fd.code==.ref c&&Qma G c P fd.qualname)))
noncomputable def Qo7 (G:Frag) (q:Nat×Nat×Nat×Nat×Nat×Nat):Bool:=(fdB G q.2.2.1).any λ fd=>(cL.fns q.1).any λ f=>fnB G fd q.2.2.2.1 q.2.2.2.2.1 &&
  (if q.2.2.2.2.2=0 then fd.defaults==.none&&f.dfl.isEmpty else fd.defaults==.ref q.2.2.2.2.2&&Qlt G f.dfl q.2.2.2.2.2)
noncomputable def Qo1 (G:Frag) (faL:Nat->Option Nat) (v:V) (u:Value):Bool:=match v with
 | .fn k=>(match u with | .ref a=>faL k==some a | _=>false)
 | .tup l=>(match u with | .ref a=>Qlt G l a | _=>false)
 | v=>QgQ v u
noncomputable def faL (k:Nat):Option Nat:=(ROWS.lookup k).map (·.2.1)
noncomputable def Qj2 (G:Frag) (g:Nat):Bool:=match gnames[g]?,cL.gv g with
 | some x,some v=>(gNs G 3 x).any (Qo1 G faL v)
 | _,none=>true
 | none,_=>false
noncomputable def Qmb:BI->Value
 | .len=>.builtin "len" | .min=>.builtin "min" | .max=>.builtin "max"
 | .int=>.type "int" | .str=>.type "str" | .tuple=>.type "tuple" | .list=>.type "list" | .range=>.type "range"
noncomputable def Qfc (G:Frag):Bool:=nsB G 0&&nsB G 2&&nsB G 3&&(List.range 47).all (Qj2 G)&&bnames.all (λ x=>gNs G 3 x.1==none&&gNs G 0 x.1==some (Qmb x.2)) &&
 gNs G 3 "Words" == some (.ref 207)&&gNs G 3 "GrammarFault" == some (.ref 57)&&gNs G 3 "Exception" == none&&gNs G 0 "Exception" == some (.type "Exception") &&
 gNs G 3 "__builtins__" == some (.ref 4)&&gNs G 2 "sys.recursionlimit" == none &&
 (G.lookup 4).any λ o=>o.cls==.type "module" && (o.dict==some builtinsNs&&o.data.ctorIdx==0)
noncomputable def QnW (G:Frag):Bool:=
 findIn G (.ref 207) "__getattribute__" == some (some (.builtin "object.__getattribute__"))&&findIn G (.ref 207) "__getattr__" == some none&&findIn G (.ref 207) "__setattr__" == some (some (.builtin "object.__setattr__")) &&
 plainOver G 207&&hasDictIn G 207&&anames.all (λ x=>findIn G (.ref 207) x==some none&&takerIn G 207 x==some none) &&
 mnames.zipIdx.all (λ q=>(faL (m0+q.2)).any λ f=>findIn G (.ref 207) q.1==some (some (.ref f))&&typeIn G (.ref f)==some (.type "function")) &&
 keepIn G (.ref 207)&&makesIn G 207
noncomputable def QdY:List Value:=[.ref 57,.ref 32,.type "Exception", .type "BaseException", .type "object"]
noncomputable def Qlq (d:Data):ClassData:=d.casesOn default (λ _=>default) (λ _ _=>default) (λ _ _=>default) (λ _ _ _=>default) (λ _ _=>default) (λ _=>default) (λ _=>default) (λ c=>c) (λ _=>default) default
noncomputable def QnV (G:Frag):Bool:=
 (clsIn G 57).any (λ cd=>cd.mro==QdY&&cd.hasDict) &&
 findIn G (.ref 57) "__getattribute__" == some (some (.builtin "BaseException.__getattribute__"))&&findIn G (.ref 57) "__getattr__" == some none&&findIn G (.ref 57) "__setattr__" == some (some (.builtin "object.__setattr__")) &&
 findIn G (.ref 57) "message" == some none&&findIn G (.ref 57) "spot" == some none &&
 (G.lookup 57).any λ o=>o.cls==.type "type" && (o.data.ctorIdx==8&&((Qlq o.data).mro==QdY&&((Qlq o.data).hasDel==false&&(o.slots.size==6&&o.slots.getD 4 none==some (.builtin "Exception.__new__")))))
noncomputable def inB:Option W.CFound->Option String
 | some (.val (.builtin s))=>some s
 | _=>none
noncomputable def Qj0 (G:Frag):Bool:=
 findIn G (.type "type") "__getattribute__" == some (some (.builtin "type.__getattribute__"))&&inB (findCls G (.type "Exception") (.type "type") "__init__")==some "Exception.__init__" &&
 subIn G (.type "type") (.type "type")==some true&&findIn G (.ref 57) "__init__" == some (some (.ref 29))&&typeIn G (.ref 29)==some (.type "function") &&
 (fdB G 29).any (λ fd=>fnB G fd 28 24&&fd.defaults==.ref 22) &&
 (G.lookup 22).any λ o=>QgD o (.type "tuple") 2&&Nat.ble (Qnv o.data).size 3
noncomputable def chk (G:Frag):Bool:=Qfc G&&ROWS.all (Qo7 G)&&QnW G&&QnV G&&Qj0 G
noncomputable def Qdg (G:Frag) (a:Nat):Option (Arguments×FuncBody×Scope):=(fdB G a).map λ fd=>(fd.params,fd.body,fd.scope)
noncomputable def Qmy (i:Nat):Option Stmt:=if i<1000 then pw.main.body[i]? else
 match (pw.main.body[if i<2000 then 27 else 1]?:Option Stmt) with
 | some (.ClassDef _ _ _ b _ _ _ _ _ _ _)=>b[i % 1000]?
 | _=>none
noncomputable def Qds (i:Nat):Option (Arguments×List Stmt×Scope):=match Qmy i with
 | some (.FunctionDef _ a b _ _ _ sc _ _ _)=>some (a,b,sc)
 | _=>none
noncomputable def Qbz (G:Frag):List (Option (Arguments×FuncBody×Scope)):=(Qdg G 29)::ROWS.map λ q=>Qdg G q.2.2.1
noncomputable def partsDue:List (Option (Arguments×FuncBody×Scope)):=((Qds 2000)::ROWS.map λ q=>Qds q.2.1).map λ x=>x.map λ d=>(d.1,.stmts d.2.1,d.2.2)
noncomputable def qv:Program:={ pw with main:={ pw.main with body:=(pw.main.body[127]?).toList } }
noncomputable def loose:List Str:=pw.boundNames.filter (· != "law")
noncomputable def QfV (h:Heap):Bool:=PS.all λ P=>(h.get? P).any λ o=>QgD o .none 9&&(QnA o.data).isEmpty
end
section
open PySem PySem.W
noncomputable def Qh2 (thr:Thread->Bool) (ok:Thread->Bool) (stp:SharedT->Thread->Option (SharedT×Thread)):Nat->SharedT->Thread->Option SharedT
 | 0,_,_=>none
 | n+1,s,t=>match thr t with
  | true=>some s
  | false=>match ok t with
   | false=>none
   | true=>match stp s t with
    | some (s',t')=>Qh2 thr ok stp n s' t'
    | none=>none
theorem QmH (thr:Thread->Bool) (ok:Thread->Bool) (stp:SharedT->Thread->Option (SharedT×Thread)) (n:Nat) (s:SharedT) (t:Thread):Qh2 thr ok stp (n+1) s t=(match thr t with
  | true=>some s
  | false=>match ok t with
   | false=>none
   | true=>match stp s t with
    | some (s',t')=>Qh2 thr ok stp n s' t'
    | none=>none):=rfl
theorem Qhd {tb:String->Option Builtin}{p:Program}{w:World}{n₀:Nat}{ann:Option Value}:∀ {n:Nat}{s s':SharedT}{t:Thread},
  Qh2 through (stepOk n₀ ann) (stepT (denote tb) p w) n s t=some s'->topRun tb p w n₀ ann n s.abs t=some s'.abs
 | 0,_,_,_,h=>by contradiction
 | n+1,s,s',t,h=>by
  replace h:=(QmH ..).symm.trans h
  unfold topRun
  cases he:through t with
  | true=>rw [he] at h;obtain rfl:=Option.some.inj h;rfl
  | false=>
   simp only [he] at h
   cases hk:stepOk n₀ ann t with
   | false=>replace h:=hk▸h;contradiction
   | true=>
    replace h:=hk▸h
    cases hs:stepT (denote tb) p w s t with
    | none=>simp only [hs] at h;contradiction
    | some r=>simp only [hs] at h;simp only [stepT_spec hs];exact Qhd h
noncomputable def Qmv (l:List Obj):BT:=(l.zipIdx.foldl (λ t q=>t.ins q.2 q.1) BT.nil)
noncomputable def wb (b:Bool) (w:World):World:=w.withFollow "special-get-raises" b
noncomputable def shT (P:Params) (os:OsState):SharedT:=⟨Qmv (boot_heap P).objs.toList,11,(boot_heap P).life,Array.mk [],boot_drawn,boot_toks,os⟩
noncomputable def shB (P:Params) (os:OsState):Shared:=⟨boot_heap P,Array.mk [],boot_drawn,boot_toks,os⟩
theorem Qkn (P:Params) (os:OsState):(shT P os).abs=shB P os:=by kernel_rfl
noncomputable def Yf (s:Shared):Bool×List (Option (Arguments×FuncBody×Scope)):=(chk (Qet AS s.heap)&&QfV s.heap,Qbz (Qet AS s.heap))
noncomputable def Ya (_:World):Bool×List (Option (Arguments×FuncBody×Scope)):=(true,partsDue)
noncomputable def Qcs (P:Params) (s:Shared):=((staticsOk (importedModules pw.main.body) (boot_heap P) s.heap&&namesBound pw s.heap&&gensDone s&&laidKept (boot_heap P) s.heap),
 openSeen qv loose (importedModules pw.main.body) (λ _=>true) true s,Yf s)
noncomputable def RF (b:Bool) (w:World) (os:OsState):Option SharedT:=Qh2 through (PySem.W.Fast.tw6613529449190102663 11 (some (.ref 6))) (PySem.W.Fast.tw10156331382660048174 (PySem.W.Fast.tw11892475500146522536 PySem.W.Fast.tw14364793385576792824) pw (wb b w)) 6000 (shT (wb b w).params os) (topStub pw)
theorem Qml (b:Bool) (w:World) (os:OsState):Qh2 through (stepOk 11 (some (.ref 6))) (stepT (denote treeTable) pw (wb b w)) 6000 (shT (wb b w).params os) (topStub pw)=RF b w os:=by
 rw [PySem.W.Fast.te14364793385576792824,PySem.W.Fast.te11892475500146522536,PySem.W.Fast.te10156331382660048174,PySem.W.Fast.te6613529449190102663];rfl
noncomputable def Qew (P:Params) (s:Shared):=((staticsOk (importedModules pw.main.body) (boot_heap P) s.heap&&namesBound pw s.heap&&gensDone s&&laidKept (boot_heap P) s.heap),PySem.W.Fast.tw4187177175401517315 qv loose (importedModules pw.main.body) (λ _=>true) true s)
theorem QlU {R:Option SharedT}{P:Params}{a:Bool}{b:_}{c:Bool}{d:_}(x:R.map (λ s=>Qew P s.abs)=some (a,b)) (y:R.map (λ s=>chk (Qet AS s.abs.heap)&&QfV s.abs.heap)=some c) (z:R.map (λ s=>Qbz (Qet AS s.abs.heap))=some d):
  R.map (λ s=>Qcs P s.abs)=some (a,b,c,d):=by
 cases R with
 | none=>exact nos x
 | some s=>
  have e:Qcs P s.abs=((Qew P s.abs).1,(Qew P s.abs).2,(chk (Qet AS s.abs.heap)&&QfV s.abs.heap),Qbz (Qet AS s.abs.heap)):=by
   unfold Qcs Qew;rw [PySem.W.Fast.te4187177175401517315];rfl
  have hx:Qew P s.abs=(a,b):=Option.some.inj x
  have hy:(chk (Qet AS s.abs.heap)&&QfV s.abs.heap)=c:=Option.some.inj y
  have hz:Qbz (Qet AS s.abs.heap)=d:=Option.some.inj z
  exact congrArg some (e.trans (by rw [hx,hy,hz]))
end
section
open PySem PySem.W PyProof.Rows
noncomputable abbrev rwx:=PySem.Challenge.rw_xw0184_01
theorem lo1:sreFenced rwx.prog.main=true:=by kernel_rfl
theorem lo2:((moduleNames rwx.prog.main.body).isEmpty||lookedIntoSs (moduleNames rwx.prog.main.body) rwx.prog.main.body)=true:=by kernel_rfl
theorem lo3:namesResolve rwx.prog=true:=by kernel_rfl
theorem lo4:rwx.prog.boundNames.all (λ n=>!worldNames.contains n)=true:=by kernel_rfl
theorem lo5:noRoadLSs { strict:=!(importedModules rwx.prog.main.body).all cThrough.contains,foot:=none,bare:=(["vars", "dir", "locals"]:List Str).filter (readsOut rwx.prog rwx.prog.main.body) } rwx.prog.main.body=true:=by kernel_rfl
theorem lo6:(namesMeet rwx.prog rwx.prog.main.body λ _ n=>attrL n)=true:=by kernel_rfl
theorem QkQ:looksOpen rwx.row.prog=true:=look_both (look_both (look_both (look_both (look_both lo1 lo2) lo3) lo4) lo5) lo6
theorem QkC:rwx.row.wellSaid=true:=by
 unfold OpenRow.wellSaid OpenRow.partSaid
 rw [QkQ];kernel_rfl
theorem ws:OpenLaw.wellSaid rwx=true:=by
 unfold OpenLaw.wellSaid
 rw [QkC];kernel_rfl
end
section
open PySem PySem.W
theorem tA0 (w:World) (os:OsState):(RF false w os).map (λ s=>Qew (wb false w).params s.abs)=some (true,openGood qv loose):=by kernel_rfl
theorem tC0 (w:World) (os:OsState):(RF false w os).map (λ s=>chk (Qet AS s.abs.heap)&&QfV s.abs.heap)=some true:=by kernel_rfl
theorem tP0 (w:World) (os:OsState):(RF false w os).map (λ s=>Qbz (Qet AS s.abs.heap))=some partsDue:=by kernel_rfl
theorem top0 (w:World) (os:OsState):(Qh2 through (stepOk 11 (some (.ref 6))) (stepT (denote treeTable) pw (wb false w)) 6000 (shT (wb false w).params os) (topStub pw)).map (λ s=>Qcs (wb false w).params s.abs)=some (true,openGood qv loose,Ya w):=by
 rw [Qml];exact QlU (tA0 w os) (tC0 w os) (tP0 w os)
theorem tA1 (w:World) (os:OsState):(RF true w os).map (λ s=>Qew (wb true w).params s.abs)=some (true,openGood qv loose):=by kernel_rfl
theorem tC1 (w:World) (os:OsState):(RF true w os).map (λ s=>chk (Qet AS s.abs.heap)&&QfV s.abs.heap)=some true:=by kernel_rfl
theorem tP1 (w:World) (os:OsState):(RF true w os).map (λ s=>Qbz (Qet AS s.abs.heap))=some partsDue:=by kernel_rfl
theorem top1 (w:World) (os:OsState):(Qh2 through (stepOk 11 (some (.ref 6))) (stepT (denote treeTable) pw (wb true w)) 6000 (shT (wb true w).params os) (topStub pw)).map (λ s=>Qcs (wb true w).params s.abs)=some (true,openGood qv loose,Ya w):=by
 rw [Qml];exact QlU (tA1 w os) (tC1 w os) (tP1 w os)
end
section
open PySem
inductive PR (α:Type) where
 | ret (a:α)
 | exc (m s:V)
 | bad
 | get (i:Nat) (k:O->PR α)
 | set (i:Nat) (o:O) (k:PR α)
 | new (o:O) (k:Nat->PR α)
 | call (v:V) (vs:List V) (k:V->PR α)
 | ask (b:Bool) (k:Bool->PR α)
 | sub (m:M V) (k:V->PR α)
 | subU (m:M Unit) (k:PR α)
 | subX (m:M (Fl×Env)) (k:Fl×Env->PR α)
noncomputable def PR.bind {α β:Type}:PR α->(α->PR β)->PR β
 | .ret a,f=>f a
 | .exc m s,_=>.exc m s
 | .bad,_=>.bad
 | .get i k,f=>.get i λ o=>(k o).bind f
 | .set i o k,f=>.set i o (k.bind f)
 | .new o k,f=>.new o λ j=>(k j).bind f
 | .call v vs k,f=>.call v vs λ u=>(k u).bind f
 | .ask b k,f=>.ask b λ c=>(k c).bind f
 | .sub m k,f=>.sub m λ u=>(k u).bind f
 | .subU m k,f=>.subU m (k.bind f)
 | .subX m k,f=>.subX m λ u=>(k u).bind f
noncomputable def PR.run {α:Type}(call:V->List V->M V):PR α->M α
 | .ret a=>M.ret a
 | .exc m s=>M.raise m s
 | .bad=>M.stuck
 | .get i k=>M.bind (getO i) λ o=>(k o).run call
 | .set i o k=>M.bind (Qcg i o) λ _=>k.run call
 | .new o k=>M.bind (Qgt o) λ j=>(k j).run call
 | .call v vs k=>M.bind (call v vs) λ u=>(k u).run call
 | .ask b k=>(k b).run call
 | .sub m k=>M.bind m λ u=>(k u).run call
 | .subU m k=>M.bind m λ _=>k.run call
 | .subX m k=>M.bind m λ u=>(k u).run call
theorem M.asc {α β γ}(m:M α) (f:α->M β) (g:β->M γ):M.bind (M.bind m f) g=M.bind m λ a=>M.bind (f a) g:=by
 funext σ;unfold M.bind;cases m σ<;>rfl
theorem M.bindC {α β}{m:M α}{f g:α->M β}(h:∀ a,f a=g a):M.bind m f=M.bind m g:=by exact congrArg _ (show f=g from funext h)
theorem PR.run_bind {α β:Type}{call:V->List V->M V}(f:α->PR β):∀ p:PR α,(p.bind f).run call=M.bind (p.run call) λ a=>(f a).run call
 | .ret a=>rfl
 | .exc m s=>rfl
 | .bad=>rfl
 | .get i k=>(M.bindC λ o=>PR.run_bind f (k o)).trans (M.asc ..).symm
 | .set i o k=>(M.bindC λ _=>PR.run_bind f k).trans (M.asc ..).symm
 | .new o k=>(M.bindC λ o=>PR.run_bind f (k o)).trans (M.asc ..).symm
 | .call v vs k=>(M.bindC λ o=>PR.run_bind f (k o)).trans (M.asc ..).symm
 | .ask b k=>PR.run_bind f (k b)
 | .sub m k=>(M.bindC λ o=>PR.run_bind f (k o)).trans (M.asc ..).symm
 | .subU m k=>(M.bindC λ _=>PR.run_bind f k).trans (M.asc ..).symm
 | .subX m k=>(M.bindC λ o=>PR.run_bind f (k o)).trans (M.asc ..).symm
noncomputable def br {α:Type}(b:Bool) (p q:PR α):PR α:=.ask b λ c=>match c with | true=>p | false=>q
noncomputable def pIf {α:Type}(b:Bool) (p:PR α):PR α:=match b with | true=>p | false=>.bad
noncomputable def Qpa {α:Type}:Option α->PR α
 | some a=>.ret a
 | none=>.bad
noncomputable def QjZ (i:Nat):PR (List V):=.get i λ x=>match x with
 | .list l=>.ret l
 | _=>.bad
noncomputable def QlM (i:Nat):PR (List (Nat×V)):=.get i λ x=>match x with
 | .dict l=>.ret l
 | _=>.bad
noncomputable def pTruth:V->PR Bool
 | .bool b=>.ret b
 | .int i=>.ret (decide (i≠0))
 | _=>.bad
noncomputable def pRef:V->PR Nat
 | .ref i=>.ret i
 | _=>.bad
noncomputable def pInt:V->PR Int
 | .int i=>.ret i
 | _=>.bad
noncomputable def Qh3 (ev:CE->PR V):List CE->PR (List V)
 | []=>.ret []
 | e::r=>(ev e).bind λ v=>(Qh3 ev r).bind λ vs=>.ret (v::vs)
noncomputable def Qn3 (ev:CE->PR V):List CE->PR V
 | []=>.bad
 | e::r=>match r with
  | []=>ev e
  | _::_=>(ev e).bind λ v=>(pTruth v).bind λ b=>br b (Qn3 ev r) (.ret v)
noncomputable def orP (ev:CE->PR V):List CE->PR V
 | []=>.bad
 | e::r=>match r with
  | []=>ev e
  | _::_=>(ev e).bind λ v=>(pTruth v).bind λ b=>br b (.ret v) (orP ev r)
noncomputable def Qn2 (tr:CE->PR Bool):List CE->PR Bool
 | []=>.ret true
 | e::r=>(tr e).bind λ b=>br b (Qn2 tr r) (.ret false)
noncomputable def orQ (tr:CE->PR Bool):List CE->PR Bool
 | []=>.ret false
 | e::r=>(tr e).bind λ b=>br b (.ret true) (orQ tr r)
noncomputable def Qnw (ev:CE->PR V):Option CE->PR (Option Int)
 | none=>.ret none
 | some e=>(ev e).bind λ v=>(pInt v).bind λ i=>br (decide (0<=i)) (.ret (some i)) .bad
noncomputable def Qlo (i:Nat) (v:V) (ρ:Env):PR Env:=pIf (Nat.blt i ρ.length) (.ret (ρ.set i (some v)))
noncomputable def locsP:List Nat->List V->Env->PR Env
 | [],[],ρ=>.ret ρ
 | i::is,v::vs,ρ=>(Qlo i v ρ).bind λ ρ=>locsP is vs ρ
 | _,_,_=>.bad
noncomputable def QnB (i:Nat) (v:V) (ρ:Env):PR Env:=match ρ[i]? with
 | some (some (.ref c))=>.get c λ x=>(match x with | .cell _=>.set c (.cell (some v)) (.ret ρ) | _=>.bad)
 | _=>.bad
section
variable (cx:Cx) (call:V->List V->M V)
mutual
noncomputable def evF:Nat->Env->CE->PR V
 | 0,_,_=>.bad
 | n+1,ρ,e=>
  match e with
  | .k v=>.ret v
  | .loc i=>(match ρ[i]? with | some (some v)=>.ret v | _=>.bad)
  | .cel i=>(match ρ[i]? with
   | some (some (.ref c))=>.get c λ x=>match x with | .cell (some v)=>.ret v | _=>.bad
   | _=>.bad)
  | .glob g=>Qpa (cx.gv g)
  | .bin op a b=>(evF n ρ a).bind λ x=>(evF n ρ b).bind λ y=>.sub (QbP op x y) .ret
  | .cmp op a b=>(evF n ρ a).bind λ x=>(evF n ρ b).bind λ y=>.sub (QaJ op x y) .ret
  | .and l=>Qn3 (evF n ρ) l
  | .or l=>orP (evF n ρ) l
  | .not a=>(evF n ρ a).bind λ x=>(pTruth x).bind λ b=>.ret (.bool (!b))
  | .ite t a b=>(trF n ρ t).bind λ c=>br c (evF n ρ a) (evF n ρ b)
  | .tup l=>(Qh3 (evF n ρ) l).bind λ vs=>pIf (Nat.ble vs.length cap) (.ret (.tup vs))
  | .lst l=>(Qh3 (evF n ρ) l).bind λ vs=>.sub (QaQ vs) .ret
  | .call f args=>(evF n ρ f).bind λ v=>(Qh3 (evF n ρ) args).bind λ vs=>.call v vs .ret
  | .bi b args=>(Qh3 (evF n ρ) args).bind λ vs=>.sub (builtin b vs) .ret
  | .meth o f args=>(evF n ρ o).bind λ v=>(pRef v).bind λ i=>.get i λ x=>match x with
   | .inst j=>(QlM j).bind λ _=>(Qh3 (evF n ρ) args).bind λ vs=>.call (.fn f) (v::vs) .ret
   | _=>.bad
  | .app o x=>(evF n ρ o).bind λ v=>(pRef v).bind λ i=>(QjZ i).bind λ _=>(Qh3 (evF n ρ) [x]).bind λ vs=>.sub (QjU i vs) .ret
  | .ext o x=>(evF n ρ o).bind λ v=>(pRef v).bind λ i=>(QjZ i).bind λ _=>(Qh3 (evF n ρ) [x]).bind λ vs=>.sub (QjT i vs) .ret
  | .mkw x=>(Qh3 (evF n ρ) [x]).bind λ vs=>.sub (mkW call vs) .ret
  | .attr o a=>(evF n ρ o).bind λ v=>.sub (getAttr v a) .ret
  | .idx o i=>(evF n ρ o).bind λ v=>(evF n ρ i).bind λ w=>.sub (QaK v w) .ret
  | .slc o lo hi=>(evF n ρ o).bind λ v=>(Qnw (evF n ρ) lo).bind λ a=>(Qnw (evF n ρ) hi).bind λ b=>match v with
   | .str s=>.sub (mkS (QaG s a b)) .ret
   | _=>.bad
  | .lam ps m fr body=>(match Qae ρ fr (List.replicate m none) with
   | some ρ'=>.new (.clo ps ρ' body) λ k=>.ret (.ref k)
   | none=>.bad)
  | .comp elt ts single iter ifs m fr=>.sub (ev cx call (n+1) ρ (.comp elt ts single iter ifs m fr)) .ret
  | _=>.bad
noncomputable def trF:Nat->Env->CE->PR Bool
 | 0,_,_=>.bad
 | n+1,ρ,e=>
  match e with
  | .not a=>(trF n ρ a).bind λ b=>.ret (!b)
  | .and l=>Qn2 (trF n ρ) l
  | .or l=>orQ (trF n ρ) l
  | .ite t a b=>(trF n ρ t).bind λ c=>br c (trF n ρ a) (trF n ρ b)
  | e=>(evF n ρ e).bind pTruth
end
noncomputable abbrev XF:=Env->PR (Fl×Env)
noncomputable def Qgq (ex:CS->XF):List CS->XF
 | [],ρ=>.ret (.next,ρ)
 | s::r,ρ=>(ex s ρ).bind λ p=>match p.1 with
  | .next=>Qgq ex r p.2
  | _=>.ret p
noncomputable def Qkd (as:CT->V->Env->PR Env):List CT->List V->Env->PR Env
 | [],[],ρ=>.ret ρ
 | t::ts,v::vs,ρ=>(as t v ρ).bind λ ρ=>Qkd as ts vs ρ
 | _,_,_=>.bad
noncomputable def Qn1 (n:Nat):Nat->CT->V->Env->PR Env
 | 0,_,_,_=>.bad
 | d+1,t,v,ρ=>match t with
  | .loc i=>Qlo i v ρ
  | .cel i=>QnB i v ρ
  | .attr o a=>(evF cx call n ρ o).bind λ w=>.subU (setAttr w a v) (.ret ρ)
  | .idx o i=>(evF cx call n ρ o).bind λ w=>(evF cx call n ρ i).bind λ j=>.subU (Qe8 w j v) (.ret ρ)
  | .tup ts=>match v with
   | .tup l=>pIf (Nat.beq l.length ts.length) (Qkd (Qn1 n d) ts l ρ)
   | _=>.bad
noncomputable def exF (n:Nat):Nat->CS->XF
 | 0,_,_=>.bad
 | d+1,s,ρ=>match s with
  | .expr e=>(evF cx call n ρ e).bind λ _=>.ret (.next,ρ)
  | .ret e=>(evF cx call n ρ e).bind λ v=>.ret (.ret v,ρ)
  | .asg t e=>(evF cx call n ρ e).bind λ v=>(Qn1 cx call n 3 t v ρ).bind λ ρ=>.ret (.next,ρ)
  | .swp ts e=>(evF cx call n ρ e).bind λ v=>(match v with
   | .tup l=>pIf (Nat.beq l.length ts.length) ((locsP ts.reverse l.reverse ρ).bind λ ρ=>.ret (.next,ρ))
   | _=>.bad)
  | .aug t op e=>(match t with
   | .loc i=>(evF cx call n ρ (.loc i)).bind λ old=>(evF cx call n ρ e).bind λ v=>.sub (aug2 op old v) λ new=>(Qlo i new ρ).bind λ ρ=>.ret (.next,ρ)
   | .attr o a=>(evF cx call n ρ o).bind λ w=>.sub (getAttr w a) λ old=>(evF cx call n ρ e).bind λ v=>.sub (aug2 op old v) λ new=>
     .subU (setAttr w a new) (.ret (.next,ρ))
   | _=>.bad)
  | .iff t a b=>(trF cx call n ρ t).bind λ c=>br c (Qgq (exF n d) a ρ) (Qgq (exF n d) b ρ)
  | .whl t b=>.subX (ex cx call n (d+1) (.whl t b) ρ) .ret
  | .for t e b=>.subX (ex cx call n (d+1) (.for t e b) ρ) .ret
  | .forR t e b=>.subX (ex cx call n (d+1) (.forR t e b) ρ) .ret
  | .brk=>.ret (.brk,ρ)
  | .raise m s=>(evF cx call n ρ m).bind λ m=>(evF cx call n ρ s).bind λ s=>.exc m s
  | .tryR b=>.subX (ex cx call n (d+1) (.tryR b) ρ) .ret
  | .bad=>.bad
end
noncomputable def cellsF:List Nat->Env->PR Env
 | [],ρ=>.ret ρ
 | i::r,ρ=>.new (.cell none) λ c=>(Qlo i (.ref c) ρ).bind λ ρ=>cellsF r ρ
noncomputable def Qkc (cells:List Nat):List Nat->List V->Env->PR Env
 | [],[],ρ=>.ret ρ
 | i::is,v::vs,ρ=>(match cells.contains i with | true=>QnB i v ρ | false=>Qlo i v ρ).bind λ ρ=>Qkc cells is vs ρ
 | _,_,_=>.bad
noncomputable def flF:Fl->PR V
 | .next=>.ret .none
 | .ret v=>.ret v
 | .brk=>.bad
noncomputable def fnF (cx:Cx) (call:V->List V->M V) (f:Fn) (args:List V):PR V:=
 pIf (Nat.ble args.length f.ps.length) <|
 (cellsF f.cells (List.replicate f.n none)).bind λ ρ=>
 (Qkc f.cells f.ps (args++f.dfl.drop (f.dfl.length - (f.ps.length - args.length))) ρ).bind λ ρ=>
 (Qgq (exF cx call 20 20) f.body ρ).bind λ p=>flF p.1
section
variable {call:V->List V->M V}
theorem QdX {α:Type}(b:Bool) (c:Prop) [Decidable c] (h:b=true ↔ c) (p:PR α):(pIf b p).run call=if c then p.run call else M.stuck:=by
 cases b with
 | true=>refine (if_pos (h.mp rfl)).substr ?_;rfl
 | false=>refine (if_neg (λ q=>by cases h.mpr q)).substr ?_;rfl
theorem QcL {α:Type}(b:Bool) (p q:PR α):(br b p q).run call=if b then p.run call else q.run call:=by cases b<;>rfl
theorem Qkz {α:Type}(o:Option α):(Qpa o).run call=Qbk o:=by cases o<;>rfl
theorem Qfr (i:Nat):(QjZ i).run call=getL i:=M.bindC λ o=>by cases o<;>rfl
theorem QiI (i:Nat):(QlM i).run call=getD i:=M.bindC λ o=>by cases o<;>rfl
theorem Qcb (v:V):(pTruth v).run call=truth v:=by cases v<;>rfl
theorem QeG (v:V):(pRef v).run call=asRef v:=by cases v<;>rfl
theorem QkA (v:V):(pInt v).run call=asI v:=by cases v<;>rfl
theorem Qa9 (m:M V):(PR.sub m PR.ret).run call=m:=M.bind_ret m
theorem Qfs (v:V) (vs:List V):(PR.call v vs PR.ret).run call=call v vs:=M.bind_ret _
theorem Qal {α β:Type}{p:PR α}{m:M α}{f:α->PR β}{g:α->M β}(h:p.run call=m) (k:∀ a,(f a).run call=g a):(p.bind f).run call=M.bind m g:=by
 simp only [PR.run_bind,h];exact M.bindC k
theorem Qbm {f:CE->PR V}{g:CE->M V}(h:∀ e,(f e).run call=g e):∀ l,(Qh3 f l).run call=Qcr g l
 | []=>rfl
 | e::r=>Qal (h e) λ _=>Qal (Qbm h r) λ _=>rfl
theorem Qhc {f:CE->PR V}{g:CE->M V}(h:∀ e,(f e).run call=g e):∀ l,(Qn3 f l).run call=QlA g l
 | []=>rfl
 | [e]=>h e
 | e::a::r=>Qal (h e) λ v=>Qal (Qcb v) λ b=>(QcL b _ _).trans (by rw [Qhc h (a::r)];rfl)
theorem Qjm {f:CE->PR V}{g:CE->M V}(h:∀ e,(f e).run call=g e):∀ l,(orP f l).run call=orE g l
 | []=>rfl
 | [e]=>h e
 | e::a::r=>Qal (h e) λ v=>Qal (Qcb v) λ b=>(QcL b _ _).trans (by rw [Qjm h (a::r)];rfl)
theorem Qfu {f:CE->PR Bool}{g:CE->M Bool}(h:∀ e,(f e).run call=g e):∀ l,(Qn2 f l).run call=Qe5 g l
 | []=>rfl
 | e::r=>Qal (h e) λ b=>(QcL b _ _).trans (by rw [Qfu h r];rfl)
theorem Qg9 {f:CE->PR Bool}{g:CE->M Bool}(h:∀ e,(f e).run call=g e):∀ l,(orQ f l).run call=orT g l
 | []=>rfl
 | e::r=>Qal (h e) λ b=>(QcL b _ _).trans (by rw [Qg9 h r];rfl)
theorem Qfq {f:CE->PR V}{g:CE->M V}(h:∀ e,(f e).run call=g e):∀ o,(Qnw f o).run call=Qgs g o
 | none=>rfl
 | some e=>by
  simp only [Qnw,PR.run_bind,h,Qgs]
  refine M.bindC λ v=>?_
  simp only [PR.run_bind,QkA]
  exact M.bindC λ i=>by by_cases q:0<=i<;>simp [q]<;>rfl
theorem Qk5 {a b:Nat}:Nat.blt a b=true ↔ a<b:=by refine Nat.blt_eq.substr ?_;rfl
theorem QcO (i:Nat) (v:V) (ρ:Env):(Qlo i v ρ).run call=Qaq i v ρ:=QdX _ _ Qk5 _
theorem run_locs:∀ (is:List Nat) (vs:List V) (ρ:Env),(locsP is vs ρ).run call=setLocs is vs ρ
 | [],[],_=>rfl
 | i::is,v::vs,ρ=>Qal (QcO i v ρ) λ ρ=>run_locs is vs ρ
 | [],_::_,_=>rfl
 | _::_,[],_=>rfl
theorem Qha (i:Nat) (v:V) (ρ:Env):(QnB i v ρ).run call=Qa6 i v ρ:=by
 unfold QnB Qa6
 cases ρ[i]? with
 | none=>rfl
 | some x=>cases x with
  | none=>rfl
  | some u=>cases u with
   | ref c=>exact M.bindC λ o=>by cases o<;>rfl
   | _=>rfl
end
end
section
open PySem
section
variable {call:V->List V->M V}{cx:Cx}
set_option tactic.hygienic true in
theorem Qi3 (o:O):(match o with | .cell (some v)=>PR.ret v | _=>PR.bad).run call=(match o with | .cell (some v)=>M.ret v | _=>M.stuck):=by
 cases o<;>first | rfl | (rename_i x;cases x<;>rfl)
theorem QdA:∀ n ρ,(∀ e,(evF cx call n ρ e).run call=ev cx call n ρ e)/\(∀ e,(trF cx call n ρ e).run call=tr cx call n ρ e)
 | 0,ρ=>⟨λ _=>rfl,λ _=>rfl⟩
 | n+1,ρ=>by
  obtain ⟨h,ht⟩:=QdA n ρ
  have main:∀ e,(evF cx call (n+1) ρ e).run call=ev cx call (n+1) ρ e:=by
   intro e
   cases e with
   | k v=>rfl
   | loc i=>
    show (match ρ[i]? with | some (some v)=>PR.ret v | _=>PR.bad).run call=(match ρ[i]? with | some (some v)=>M.ret v | _=>M.stuck)
    cases ρ[i]? with
    | none=>rfl
    | some x=>cases x<;>rfl
   | cel i=>
    show (match ρ[i]? with | some (some (.ref c))=>PR.get c λ x=>(match x with | .cell (some v)=>.ret v | _=>.bad) | _=>PR.bad).run call=(match ρ[i]? with
     | some (some (.ref c))=>M.bind (getO c) λ x=>(match x with | .cell (some v)=>M.ret v | _=>M.stuck) | _=>M.stuck)
    cases ρ[i]? with
    | none=>rfl
    | some x=>cases x with
     | none=>rfl
     | some u=>cases u with
      | ref c=>exact M.bindC λ o=>Qi3 o
      | _=>rfl
   | glob g=>exact Qkz _
   | bin op a b=>exact Qal (h a) λ x=>Qal (h b) λ y=>Qa9 _
   | cmp op a b=>exact Qal (h a) λ x=>Qal (h b) λ y=>Qa9 _
   | and l=>exact Qhc h l
   | or l=>exact Qjm h l
   | not a=>exact Qal (h a) λ x=>Qal (Qcb x) λ b=>rfl
   | ite t a b=>exact Qal (ht t) λ c=>by simp only [QcL,h a,h b]
   | tup l=>exact Qal (Qbm h l) λ vs=>QdX _ _ (by refine Nat.ble_eq.substr ?_;rfl) _
   | lst l=>exact Qal (Qbm h l) λ vs=>Qa9 _
   | call f args=>exact Qal (h f) λ v=>Qal (Qbm h args) λ vs=>Qfs _ _
   | bi b args=>exact Qal (Qbm h args) λ vs=>Qa9 _
   | meth o f args=>
    exact Qal (h o) λ v=>Qal (QeG v) λ i=>M.bindC λ x=>by
     cases x<;>first | rfl | exact Qal (QiI _) λ _=>Qal (Qbm h args) λ vs=>Qfs _ _
   | app o x=>exact Qal (h o) λ v=>Qal (QeG v) λ i=>Qal (Qfr i) λ _=>Qal (Qbm h [x]) λ vs=>Qa9 _
   | ext o x=>exact Qal (h o) λ v=>Qal (QeG v) λ i=>Qal (Qfr i) λ _=>Qal (Qbm h [x]) λ vs=>Qa9 _
   | mkw x=>exact Qal (Qbm h [x]) λ vs=>Qa9 _
   | attr o a=>exact Qal (h o) λ v=>Qa9 _
   | idx o i=>exact Qal (h o) λ v=>Qal (h i) λ w=>Qa9 _
   | slc o lo hi=>
    exact Qal (h o) λ v=>Qal (Qfq h lo) λ a=>Qal (Qfq h hi) λ b=>by
     cases v<;>first | rfl | exact Qa9 _
   | lam ps m fr body=>
    show (match Qae ρ fr (List.replicate m none) with | some ρ'=>PR.new (.clo ps ρ' body) λ k=>.ret (V.ref k) | none=>PR.bad).run call=(match Qae ρ fr (List.replicate m none) with
     | some ρ'=>M.bind (Qgt (.clo ps ρ' body)) λ k=>M.ret (V.ref k) | none=>M.stuck)
    cases Qae ρ fr (List.replicate m none)<;>rfl
   | comp=>exact Qa9 _
   | _=>rfl
  refine ⟨main,λ e=>?_⟩
  have gen:((evF cx call n ρ e).bind pTruth).run call=M.bind (ev cx call n ρ e) truth:=Qal (h e) Qcb
  cases e with
  | not a=>exact Qal (ht a) λ b=>rfl
  | and l=>exact Qfu ht l
  | or l=>exact Qg9 ht l
  | ite t a b=>exact Qal (ht t) λ c=>by simp only [QcL,ht a,ht b]
  | _=>exact gen
theorem Qbb (n ρ e):(evF cx call n ρ e).run call=ev cx call n ρ e:=(QdA n ρ).1 e
theorem Qjl (n ρ e):(trF cx call n ρ e).run call=tr cx call n ρ e:=(QdA n ρ).2 e
theorem Qft {f:CT->V->Env->PR Env}{g:CT->V->Env->M Env}(h:∀ t v ρ,(f t v ρ).run call=g t v ρ):∀ (ts:List CT) (vs:List V) (ρ:Env),(Qkd f ts vs ρ).run call=Qb7 g ts vs ρ
 | [],[],_=>rfl
 | t::ts,v::vs,ρ=>Qal (h t v ρ) λ ρ=>Qft h ts vs ρ
 | [],_::_,_=>rfl
 | _::_,[],_=>rfl
theorem QfM {a b:Nat}:Nat.beq a b=true ↔ a=b:=⟨Nat.eq_of_beq_eq_true,λ h=>by subst h;exact Nat.beq_refl a⟩
theorem Qhb (n:Nat):∀ d t v ρ,(Qn1 cx call n d t v ρ).run call=assign cx call n d t v ρ
 | 0,_,_,_=>rfl
 | d+1,t,v,ρ=>by
  cases t with
  | loc i=>exact QcO ..
  | cel i=>exact Qha ..
  | attr o a=>exact Qal (Qbb ..) λ w=>rfl
  | idx o i=>exact Qal (Qbb ..) λ w=>Qal (Qbb ..) λ j=>rfl
  | tup ts=>cases v with
   | tup l=>exact (QdX _ _ QfM _).trans (by rw [Qft (Qhb n d)];rfl)
   | _=>rfl
theorem Qby {f:CS->XF}{g:CS->X}(h:∀ s ρ,(f s ρ).run call=g s ρ):∀ l ρ,(Qgq f l ρ).run call=Qau g l ρ
 | [],_=>rfl
 | s::r,ρ=>Qal (h s ρ) λ p=>by
  cases p.1 with
  | next=>exact Qby h r p.2
  | _=>rfl
theorem QcA (m:M (Fl×Env)):(PR.subX m PR.ret).run call=m:=M.bind_ret m
theorem Qb3 (n:Nat):∀ d s ρ,(exF cx call n d s ρ).run call=ex cx call n d s ρ
 | 0,_,_=>rfl
 | d+1,s,ρ=>by
  cases s with
  | expr e=>exact Qal (Qbb ..) λ _=>rfl
  | ret e=>exact Qal (Qbb ..) λ _=>rfl
  | asg t e=>exact Qal (Qbb ..) λ v=>Qal (Qhb ..) λ _=>rfl
  | swp ts e=>
   exact Qal (Qbb ..) λ v=>by
    cases v<;>first | rfl | exact (QdX _ _ QfM _).trans (by refine (Qal (run_locs ..) (λ _=>rfl)).substr ?_;rfl)
  | aug t op e=>
   cases t with
   | loc i=>exact Qal (Qbb ..) λ old=>Qal (Qbb ..) λ v=>M.bindC λ new=>Qal (QcO ..) λ _=>rfl
   | attr o a=>exact Qal (Qbb ..) λ w=>M.bindC λ old=>Qal (Qbb ..) λ v=>M.bindC λ new=>M.bindC λ _=>rfl
   | _=>rfl
  | iff t a b=>exact Qal (Qjl ..) λ c=>by simp only [QcL,Qby (Qb3 n d),Qby (Qb3 n d)]
  | whl t b=>exact QcA _
  | «for» t e b=>exact QcA _
  | forR t e b=>exact QcA _
  | brk=>rfl
  | raise m s=>exact Qal (Qbb ..) λ m=>Qal (Qbb ..) λ s=>rfl
  | tryR b=>exact QcA _
  | bad=>rfl
theorem run_cells:∀ l ρ,(cellsF l ρ).run call=entCells l ρ
 | [],_=>rfl
 | i::r,ρ=>M.bindC λ c=>Qal (QcO ..) λ ρ=>run_cells r ρ
theorem Qd4 (cs:List Nat):∀ l vs ρ,(Qkc cs l vs ρ).run call=Qa2 cs l vs ρ
 | [],[],_=>rfl
 | i::is,v::vs,ρ=>Qal (by cases q:cs.contains i<;>simp only [if_true,Bool.false_eq_true,if_false];exact QcO ..;exact Qha ..) λ ρ=>Qd4 cs is vs ρ
 | [],_::_,_=>rfl
 | _::_,[],_=>rfl
theorem QkB (f:Fl):(flF f).run call=flV f:=by cases f<;>rfl
theorem Qe9 (f:Fn) (args:List V):(fnF cx call f args).run call=Qbi cx call f args:=by
 unfold fnF Qbi
 rw [QdX _ (args.length<=f.ps.length) (by refine Nat.ble_eq.substr ?_;rfl)]
 by_cases h:f.ps.length<args.length
 ·refine (if_pos h).substr ?_;refine (if_neg (by simp_all)).substr ?_;rfl
 ·refine (if_neg h).substr ?_;refine (if_pos (by simp_all)).substr ?_
  exact Qal (run_cells ..) λ ρ=>Qal (Qd4 ..) λ ρ=>Qal (Qby (Qb3 20 20) ..) λ p=>QkB _
end
inductive An where | o (x:O) | u | n (j:Nat) | v (x:V) | b (x:Bool) | x (p:Fl×Env)
inductive Qn where | get (i:Nat) | set (i:Nat) (o:O) | new (o:O) | call (v:V) (vs:List V) | ask (b:Bool) | sub (m:M V) | subU (m:M Unit) | subX (m:M (Fl×Env))
noncomputable def Qdc {α:Type}(q:Qn) (z:List Qn×PR α):List Qn×PR α:=(q::z.1,z.2)
noncomputable def QbE {α:Type}:List An->PR α->List Qn×PR α
 | [],p=>([],p)
 | a::r,p=>match p with
  | .get i k=>(match a with | .o x=>Qdc (.get i) (QbE r (k x)) | _=>([],.bad))
  | .set i o k=>(match a with | .u=>Qdc (.set i o) (QbE r k) | _=>([],.bad))
  | .new o k=>(match a with | .n j=>Qdc (.new o) (QbE r (k j)) | _=>([],.bad))
  | .call f vs k=>(match a with | .v u=>Qdc (.call f vs) (QbE r (k u)) | _=>([],.bad))
  | .ask b k=>(match a with | .b c=>Qdc (.ask b) (QbE r (k c)) | _=>([],.bad))
  | .sub m k=>(match a with | .v u=>Qdc (.sub m) (QbE r (k u)) | _=>([],.bad))
  | .subU m k=>(match a with | .u=>Qdc (.subU m) (QbE r k) | _=>([],.bad))
  | .subX m k=>(match a with | .x y=>Qdc (.subX m) (QbE r (k y)) | _=>([],.bad))
  | _=>([],.bad)
inductive Ch (call:V->List V->M V):List O->List An->List Qn->List O->Prop
 | nil {σ}:Ch call σ [] [] σ
 | get {σ i x r qs σ'}(h:σ[i]?=some x) (c:Ch call σ r qs σ'):Ch call σ (.o x::r) (.get i::qs) σ'
 | set {σ i o r qs σ'}(h:i<σ.length) (c:Ch call (σ.set i o) r qs σ'):Ch call σ (.u::r) (.set i o::qs) σ'
 | new {σ o r qs σ'}(c:Ch call (σ++[o]) r qs σ'):Ch call σ (.n σ.length::r) (.new o::qs) σ'
 | call {σ f vs u σ1 r qs σ'}(h:call f vs σ=.ok u σ1) (c:Ch call σ1 r qs σ'):Ch call σ (.v u::r) (.call f vs::qs) σ'
 | ask {σ b c r qs σ'}(h:b=c) (k:Ch call σ r qs σ'):Ch call σ (.b c::r) (.ask b::qs) σ'
 | sub {σ m u σ1 r qs σ'}(h:m σ=.ok u σ1) (c:Ch call σ1 r qs σ'):Ch call σ (.v u::r) (.sub m::qs) σ'
 | subU {σ m σ1 r qs σ'}(h:m σ=.ok () σ1) (c:Ch call σ1 r qs σ'):Ch call σ (.u::r) (.subU m::qs) σ'
 | subX {σ m u σ1 r qs σ'}(h:m σ=.ok u σ1) (c:Ch call σ1 r qs σ'):Ch call σ (.x u::r) (.subX m::qs) σ'
theorem QaY {α:Type}{q q':Qn}{z:List Qn×PR α}{qs:List Qn}{p:PR α}(h:Qdc q z=(q'::qs,p)):q=q'/\z=(qs,p):=by
 unfold Qdc at h
 simp only [Prod.mk.injEq,List.cons.injEq] at h
 obtain ⟨⟨rfl,rfl⟩,rfl⟩:=h
 exact ⟨rfl,rfl⟩
theorem Qjf {α:Type}{q:Qn}{qs:List Qn}{p p':PR α}(h:(([]:List Qn),p)=(q::qs,p')):False:=by cases h
theorem QaU {α:Type}{call:V->List V->M V}{σ σ':List O}{as:List An}{qs:List Qn}(c:Ch call σ as qs σ'):∀ {p p':PR α},QbE as p=(qs,p')->p.run call σ=p'.run call σ':=by
 induction c with
 | nil=>intro p p' e;cases e;rfl
 | get h c ih=>
  intro p p' e
  cases p<;>first | exact (Qjf e).elim | skip
  refine byK λ Pz kz=>?_;obtain ⟨q,e2⟩:=QaY e
  injection q with q;subst q
  refine kz ?_;show M.bind (getO _) _ _=_
  unfold M.bind getO;refine (h).symm▸?_;exact ih e2
 | set h c ih=>
  intro p p' e
  cases p<;>first | exact (Qjf e).elim | skip
  all_goals (obtain ⟨q,e2⟩:=QaY e;cases q)
  show M.bind (Qcg _ _) _ _=_
  unfold M.bind Qcg;refine (if_pos h).substr ?_;exact ih e2
 | new c ih=>
  intro p p' e
  cases p<;>first | exact (Qjf e).elim | skip
  obtain ⟨q,e2⟩:=QaY e
  injection q with q;subst q
  exact ih e2
 | call h c ih=>
  intro p p' e
  cases p<;>first | exact (Qjf e).elim | skip
  all_goals (obtain ⟨q,e2⟩:=QaY e;cases q)
  show M.bind _ _ _=_
  unfold M.bind;refine h.substr ?_;exact ih e2
 | ask h c ih=>
  intro p p' e
  cases p<;>first | exact (Qjf e).elim | skip
  refine byK λ Pz kz=>?_;obtain ⟨q,e2⟩:=QaY e
  injection q with q;subst q
  subst h
  have z:=ih e2
  exact kz z
 | sub h c ih=>
  intro p p' e
  cases p<;>first | exact (Qjf e).elim | skip
  all_goals (obtain ⟨q,e2⟩:=QaY e;cases q)
  show M.bind _ _ _=_
  unfold M.bind;refine h.substr ?_;exact ih e2
 | subU h c ih=>
  intro p p' e
  cases p<;>first | exact (Qjf e).elim | skip
  all_goals (obtain ⟨q,e2⟩:=QaY e;cases q)
  show M.bind _ _ _=_
  unfold M.bind;refine (h).symm▸?_;exact ih e2
 | subX h c ih=>
  intro p p' e
  cases p<;>first | exact (Qjf e).elim | skip
  obtain ⟨q,e2⟩:=QaY e
  injection q with q;clear e c;subst q
  show M.bind _ _ _=_
  unfold M.bind;refine (h).symm▸?_;exact ih e2
noncomputable def hdC {α:Type}:PR α->Option (V×List V)
 | .call f vs _=>some (f,vs)
 | _=>none
theorem QfF {α:Type}{call:V->List V->M V}{σ σ1 σ2:List O}{as:List An}{qs:List Qn}{f:V}{vs:List V}{m s:V}(c:Ch call σ as qs σ1) (h:call f vs σ1=.exc m s σ2) {p:PR α}
  (e:((QbE as p).1,hdC (QbE as p).2)=(qs,some (f,vs))):p.run call σ=.exc m s σ2:=by
 simp only [Prod.mk.injEq] at e
 have q:=QaU c (p:=p) (p':=(QbE as p).2) (by refine e.1.symm.substr ?_;rfl)
 refine q.substr ?_
 generalize (QbE as p).2=p' at *
 cases p' with
 | call f' vs' k=>
  obtain ⟨rfl,rfl⟩:=Prod.mk.inj (Option.some.inj e.2)
  show M.bind _ _ _=_
  unfold M.bind;rw [h]
 | _=>exact nos e.2
section
variable {call:V->List V->M V}{cx:Cx}{σ σ':List O}{as:List An}{qs:List Qn}
theorem Qcz {σ2:List O}{g:V}{us:List V}{f:Fn}{vs:List V}{m s:V}(c:Ch call σ as qs σ') (h:call g us σ'=.exc m s σ2) (e:((QbE as (fnF cx call f vs)).1,hdC (QbE as (fnF cx call f vs)).2)=(qs,some (g,us))):Qbi cx call f vs σ=.exc m s σ2:=by
 rw [<- Qe9];exact QfF c h e
theorem Qct {σ2:List O}{g:V}{us:List V}{n d:Nat}{l:List CS}{ρ:Env}{m s:V}(c:Ch call σ as qs σ') (h:call g us σ'=.exc m s σ2) (e:((QbE as (Qgq (exF cx call n d) l ρ)).1,hdC (QbE as (Qgq (exF cx call n d) l ρ)).2)=(qs,some (g,us))):Qau (ex cx call n d) l ρ σ=.exc m s σ2:=by
 rw [<- Qby (Qb3 n d)];exact QfF c h e
theorem QaP {n d:Nat}{st:CS}{ρ ρ':Env}{f:Fl}(c:Ch call σ as qs σ') (e:QbE as (exF cx call n d st ρ)=(qs,.ret (f,ρ'))):ex cx call n d st ρ σ=.ok (f,ρ') σ':=by
 rw [<- Qb3];exact QaU c e
theorem Qqh {n d:Nat}{st:CS}{ρ:Env}{m s:V}(c:Ch call σ as qs σ') (e:QbE as (exF cx call n d st ρ)=(qs,.exc m s)):ex cx call n d st ρ σ=.exc m s σ':=by
 rw [<- Qb3];exact QaU c e
theorem Qbl {n d:Nat}{l:List CS}{ρ ρ':Env}{f:Fl}(c:Ch call σ as qs σ') (e:QbE as (Qgq (exF cx call n d) l ρ)=(qs,.ret (f,ρ'))):Qau (ex cx call n d) l ρ σ=.ok (f,ρ') σ':=by
 rw [<- Qby (Qb3 n d)];exact QaU c e
theorem QmZ {n d:Nat}{l:List CS}{ρ:Env}{m s:V}(c:Ch call σ as qs σ') (e:QbE as (Qgq (exF cx call n d) l ρ)=(qs,.exc m s)):Qau (ex cx call n d) l ρ σ=.exc m s σ':=by
 rw [<- Qby (Qb3 n d)];exact QaU c e
theorem QnR {n:Nat}{ce:CE}{ρ:Env}{v:V}(c:Ch call σ as qs σ') (e:QbE as (evF cx call n ρ ce)=(qs,.ret v)):ev cx call n ρ ce σ=.ok v σ':=by
 rw [<- Qbb];exact QaU c e
theorem Qh4 {n:Nat}{ce:CE}{ρ:Env}{v:Bool}(c:Ch call σ as qs σ') (e:QbE as (trF cx call n ρ ce)=(qs,.ret v)):tr cx call n ρ ce σ=.ok v σ':=by
 rw [<- Qjl];exact QaU c e
theorem QaC {f:Fn}{vs:List V}{v:V}(c:Ch call σ as qs σ') (e:QbE as (fnF cx call f vs)=(qs,.ret v)):Qbi cx call f vs σ=.ok v σ':=by
 rw [<- Qe9];exact QaU c e
theorem Qif {f:Fn}{vs:List V}{m s:V}(c:Ch call σ as qs σ') (e:QbE as (fnF cx call f vs)=(qs,.exc m s)):Qbi cx call f vs σ=.exc m s σ':=by
 rw [<- Qe9];exact QaU c e
end
end
section
open PySem
theorem Qap {σ:List O}{i:Nat}{l:List V}(h:σ[i]?=some (.list l)):getL i σ=.ok l σ:=by
 unfold getL M.bind getO;refine h.substr ?_;rfl
theorem bok {α β}{m:M α}{f:α->M β}{σ σ':List O}{a:α}{r:RS β}(h:m σ=.ok a σ') (k:f a σ'=r):M.bind m f σ=r:=by unfold M.bind;refine h.substr ?_;exact k
theorem QaD (l:List V) (n:l.length<=1000000) (σ:List O):QaQ l σ=.ok (.ref σ.length) (σ++[.list l]):=by unfold QaQ;refine (if_pos (show l.length<=cap from n)).substr ?_;rfl
theorem QbU {σ:List O}{i:Nat}{x:O}(h:σ[i]?=some x) (o:O):Qcg i o σ=.ok () (σ.set i o):=if_pos (List.getElem?_eq_some_iff.mp h).1
theorem QbG {α}{c:Prop} [Decidable c] {a b:M α}{σ:List O}{r:RS α}(h:c) (k:a σ=r):(if c then a else b) σ=r:=by refine (if_pos h).substr ?_;exact k
theorem Qk9 {σ:List O}{i j:Nat}{a b:List V}(h1:σ[i]?=some (.list a)) (h2:σ[j]?=some (.list b)) (n:(a++b).length<=1000000):QbP .add (.ref i) (.ref j) σ=.ok (.ref σ.length) (σ++[.list (a++b)]):=
 bok (Qap h1) (bok (Qap h2) (QaD _ n _))
theorem QdZ {σ:List O}{i:Nat}{l:List V}(y:V) (h:σ[i]?=some (.list l)) (n:l.length<=1000000):QjU i [y] σ=.ok .none (σ.set i (.list (l++[y]))):=
 bok (Qap h) (QbG (show l.length<=cap from n) (bok (QbU h _) rfl))
theorem QgP {σ:List O}{i j:Nat}{l m:List V}(h:σ[i]?=some (.list l)) (h2:σ[j]?=some (.list m)) (n:l.length+m.length<=1000000):QjT i [.ref j] σ=.ok .none (σ.set i (.list (l++m))):=
 bok (Qap h2) (bok (Qap h) (QbG (show l.length+m.length<=cap from n) (bok (QbU h _) rfl)))
theorem Qaz {σ:List O}{i k:Nat}{l:List V}{v:V}(h:σ[i]?=some (.list l)) (hk:l[k]?=some v) (n:k<1000000):QaK (.ref i) (.int (k:Nat)) σ=.ok v σ:=by
 show (if QaV (k:Int) then M.bind (getL i) λ l=>Qbk (atI l (k:Int)) else M.stuck) σ=_
 refine (if_pos (small_iff.mpr (by lia))).substr ?_
 unfold M.bind;refine (Qap h).substr ?_;dsimp only;unfold atI;refine (if_neg (by simp_all)).substr ?_;rw [Int.toNat_natCast,hk];rfl
theorem Qbj {σ:List O}{i:Nat}{l:List V}(h:σ[i]?=some (.list l)) (n:l.length<=1000000):builtin .len [.ref i] σ=.ok (.int (l.length:Nat)) σ:=by
 show M.bind (getL i) _ σ=_
 unfold M.bind;refine (Qap h).substr ?_;dsimp only;unfold Qgu;refine (if_pos (show l.length<=cap from n)).substr ?_;rfl
end
section
open PySem
section
variable {call:V->List V->M V}{σ σ1 σ':List O}{r:List An}{qs:List Qn}
theorem Ch.yes (c:Ch call σ r qs σ'):Ch call σ (.b true::r) (.ask true::qs) σ':=.ask rfl c
theorem Ch.no (c:Ch call σ r qs σ'):Ch call σ (.b false::r) (.ask false::qs) σ':=.ask rfl c
theorem Ch.val (u:V) (c:Ch call σ r qs σ'):Ch call σ (.v u::r) (.sub (M.ret u)::qs) σ':=.sub rfl c
theorem Ch.gO {i x}(h:getO i σ=.ok x σ1) (c:Ch call σ r qs σ'):Ch call σ (.o x::r) (.get i::qs) σ':=by
 refine .get ?_ c
 unfold getO at h
 split at h
 ·injection h with h;subst h;assumption
 ·contradiction
theorem Ch.sO {i o}(h:Qcg i o σ=.ok () σ1) (c:Ch call σ1 r qs σ'):Ch call σ (.u::r) (.set i o::qs) σ':=by
 unfold Qcg at h
 split at h
 ·cases h;exact .set (by assumption) c
 ·contradiction
theorem Ch.dT {p:Prop} [Decidable p] (h:p) (c:Ch call σ r qs σ'):Ch call σ (.b true::r) (.ask (decide p)::qs) σ':=.ask (decide_eq_true h) c
theorem Ch.dF {p:Prop} [Decidable p] (h:¬ p) (c:Ch call σ r qs σ'):Ch call σ (.b false::r) (.ask (decide p)::qs) σ':=.ask (decide_eq_false h) c
end
theorem Qaa {σ σ1:List O}{i x}(h:getO i σ=.ok x σ1):σ[i]?=some x:=by
 unfold getO at h
 split at h
 ·injection h with h;subst h;assumption
 ·contradiction
theorem Qak {σ σ1:List O}{i:Nat}{l:List V}{y:V}(h:σ[i]?=some (.list l)) (s:Qcg i (.list (l++[y])) σ=.ok () σ1) (n:l.length<=1000000):QjU i [y] σ=.ok .none σ1:=
 bok (Qap h) (QbG (show l.length<=cap from n) (bok s rfl))
theorem Qk0 {σ σ1:List O}{i j:Nat}{l m:List V}(h:σ[i]?=some (.list l)) (h2:σ[j]?=some (.list m)) (s:Qcg i (.list (l++m)) σ=.ok () σ1) (n:l.length+m.length<=1000000):QjT i [.ref j] σ=.ok .none σ1:=
 bok (Qap h2) (bok (Qap h) (QbG (show l.length+m.length<=cap from n) (bok s rfl)))
theorem Qa4 {σ σ1:List O}{i j:Nat}{a b:List V}{u:V}(h1:σ[i]?=some (.list a)) (h2:σ[j]?=some (.list b)) (n:QaQ (a++b) σ=.ok u σ1):QbP .add (.ref i) (.ref j) σ=.ok u σ1:=
 bok (Qap h1) (bok (Qap h2) n)
theorem QiR {σ σ1:List O}{i:Nat}{l:List V}{u:V}(h:σ[i]?=some (.list l)) (n:QaQ l σ=.ok u σ1):builtin .list [.ref i] σ=.ok u σ1:=bok (Qap h) n
theorem Qgy {σ σ1:List O}{i:Nat}{l:List V}{u:V}(h:σ[i]?=some (.list l)) (c:l.length<=1000000) (n:QaQ l σ=.ok u σ1):QbP .mul (.ref i) (.int 1) σ=.ok u σ1:=
 bok (Qap h) (QbG (show l.length<=cap from c) n)
theorem Qie {σ σ1:List O}{i:Nat}{l:List V}{u:V}(h:σ[i]?=some (.list l)) (c:l.length<=1000000) (n:QaQ [] σ=.ok u σ1):QbP .mul (.ref i) (.int 0) σ=.ok u σ1:=
 bok (Qap h) (QbG (show l.length<=cap from c) n)
theorem Qpc {b:Bool}(h:b=true) {σ:List O}:builtin .int [.bool b] σ=.ok (.int 1) σ:=by refine h.substr ?_;rfl
theorem QpP {b:Bool}(h:b=false) {σ:List O}:builtin .int [.bool b] σ=.ok (.int 0) σ:=by refine h.substr ?_;rfl
theorem nT {b:Bool}(h:b=false):(!b)=true:=by refine h.substr ?_;rfl
theorem nF {b:Bool}(h:b=true):(!b)=false:=by refine h.substr ?_;rfl
theorem bT {α} [BEq α] [LawfulBEq α] {a b:α}(h:a=b):(a==b)=true:=beq_iff_eq.mpr h
theorem bF {α} [BEq α] [LawfulBEq α] {a b:α}(h:¬ a=b):(a==b)=false:=beq_eq_false_iff_ne.mpr h
theorem QcG {σ:List O}{i:Nat}{x:O}(h:σ[i]?=some x) (l:List O):(σ++l)[i]?=some x:=by exact (List.getElem?_append_left (List.getElem?_eq_some_iff.mp h).1).trans h
theorem QaL (σ:List O) (x:O):(σ++[x])[σ.length]?=some x:=List.getElem?_concat_length ..
theorem QfS {σ:List O}{i j:Nat}{x:O}(o:O) (n:j≠i) (h:σ[i]?=some x):(σ.set j o)[i]?=some x:=by exact (List.getElem?_set_ne n).trans h
theorem Qdb {σ:List O}{i:Nat}{x:O}(o:O) (h:σ[i]?=some x):(σ.set i o)[i]?=some o:=List.getElem?_set_self (List.getElem?_eq_some_iff.mp h).1
theorem Qqf {σ:List O}{i:Nat}{x:O}(h:σ[i]?=some x):i<σ.length:=(List.getElem?_eq_some_iff.mp h).1
theorem Qjr (s:List Nat) (h:s.length<=1000000) (σ:List O):mkS s σ=.ok (.str s) σ:=by unfold mkS;refine (if_pos (show s.length<=cap from h)).substr ?_;rfl
theorem QcQ {a b:List Nat}(h:(a++b).length<=1000000) {σ:List O}:QbP .add (.str a) (.str b) σ=.ok (.str (a++b)) σ:=Qjr _ h σ
theorem Qjq {a b:Int}(h:0<b) {σ:List O}:QbP .mod (.int a) (.int b) σ=.ok (.int (Int.fmod a b)) σ:=QbG h rfl
theorem QkY {a b:Int}(h:0<b) (s:QaV b=true) {σ:List O}:QbP .fdiv (.int a) (.int b) σ=.ok (.int (Int.fdiv a b)) σ:=QbG (show (0<b&&QaV b)=true by refine s.substr ?_;refine (decide_eq_true h).substr ?_;rfl) rfl
theorem QmR {a b:Int}(s:QaV b=true) {σ:List O}:QbP .mul (.int a) (.int b) σ=.ok (.int (a * b)) σ:=QbG s rfl
theorem Qbn {a:List Nat}(h:a.length<=1000000) {σ:List O}:builtin .len [.str a] σ=.ok (.int (a.length:Nat)) σ:=by
 show Qgu a.length σ=_
 unfold Qgu;refine (if_pos (show a.length<=cap from h)).substr ?_;rfl
theorem QbI {σ:List O}{i:Nat}{l:List V}(h:σ[i]?=some (.list l)) (n:l.length<=1000000):builtin .tuple [.ref i] σ=.ok (.tup l) σ:=
 bok (Qap h) (QbG (show l.length<=cap from n) rfl)
theorem QoX {σ:List O}{i:Nat}{l:List V}(h:σ[i]?=some (.list l)) (n:l.length<=1000000):builtin .list [.ref i] σ=.ok (.ref σ.length) (σ++[.list l]):=
 bok (Qap h) (QaD _ n _)
theorem Qdx {σ:List O}{i:Nat}{x:O}(h:σ[i]?=some x):getO i σ=.ok x σ:=by unfold getO;refine h.substr ?_;rfl
theorem QbK {σ:List O}{i j a:Nat}{l:List (Nat×V)}{u:V}(h:σ[i]?=some (.inst j)) (h2:σ[j]?=some (.dict l)) (e:Qbf a l=some u):getAttr (.ref i) a σ=.ok u σ:=
 bok (m:=asRef (.ref i)) rfl (bok (Qdx h) (bok (Qdx h2) (by show Qbk (Qbf a l) σ=_;refine e.substr ?_;rfl)))
theorem QdW {σ:List O}{i j a:Nat}{l:List (Nat×V)}{u:V}(h:σ[i]?=some (.inst j)) (h2:σ[j]?=some (.dict l)) (c:(Nat.ble l.length 100&&Nat.blt a 3)=true):setAttr (.ref i) a u σ=.ok () (σ.set j (.dict (Qgr a u l))):=
 have q:=Bool.and_eq_true_iff.mp c
 bok (m:=asRef (.ref i)) rfl (bok (Qdx h) (bok (Qdx h2) (QbG ⟨Nat.le_of_ble_eq_true q.1,Nat.le_of_ble_eq_true q.2⟩ (QbU h2 _))))
theorem Qb0 {α β}{f:α->β}{l:List α}{n:Nat}(h:l.length<=n):(l.map f).length<=n:=by rw [List.length_map];exact h
theorem Qci {α}{σ:List O}{i:Nat}{f:α->V}{l:List α}(h:σ[i]?=some (.list (l.map f))) (n:l.length<=1000000):builtin .len [.ref i] σ=.ok (.int (l.length:Nat)) σ:=by
 refine (Qbj h (Qb0 n)).substr ?_;rw [List.length_map]
theorem Qpq {α}{σ:List O}{i:Nat}{f:α->V}{l:List α}{x:V}(h:σ[i]?=some (.list (l.map f++[x]))) (n:l.length+1<=1000000):builtin .len [.ref i] σ=.ok (.int (l.length+1:Nat)) σ:=by
 refine (Qbj h (by refine List.length_append.substr ?_;rw [List.length_map];exact n)).substr ?_;rw [List.length_append,List.length_map];rfl
theorem QqI {a b:Bool}(h:a=true):(a||b)=true:=by refine h.substr ?_;rfl
theorem QqH {a b:Bool}(h:b=true):(a||b)=true:=by refine h.substr ?_;cases a<;>rfl
theorem orF {a b:Bool}(h:a=false) (k:b=false):(a||b)=false:=by refine h.substr ?_;refine k.substr ?_;rfl
theorem QqC {a b:Bool}(h:a=true) (k:b=true):(a&&b)=true:=by refine h.substr ?_;refine k.substr ?_;rfl
theorem QqE {a b:Bool}(h:a=false):(a&&b)=false:=by refine h.substr ?_;rfl
theorem QqD {a b:Bool}(h:b=false):(a&&b)=false:=by refine h.substr ?_;cases a<;>rfl
noncomputable def hdX {α:Type}:PR α->Option (M (Fl×Env))
 | .subX m _=>some m
 | _=>none
theorem Qec {α:Type}{call:V->List V->M V}{σ σ1 σ2:List O}{as:List An}{qs:List Qn}{g:M (Fl×Env)}{m s:V}(c:Ch call σ as qs σ1) (h:g σ1=.exc m s σ2) {p:PR α}
  (e:((QbE as p).1,hdX (QbE as p).2)=(qs,some g)):p.run call σ=.exc m s σ2:=by
 simp only [Prod.mk.injEq] at e
 have q:=QaU c (p:=p) (p':=(QbE as p).2) (by refine e.1.symm.substr ?_;rfl)
 refine q.substr ?_
 generalize (QbE as p).2=p' at *
 clear q c;cases p' with
 | subX m k=>
  obtain rfl:=Option.some.inj e.2
  show M.bind _ _ _=_
  unfold M.bind;rw [h]
 | _=>exact nos e.2
section
variable {call:V->List V->M V}{cx:Cx}{σ σ':List O}{as:List An}{qs:List Qn}
theorem Qj1 {σ2:List O}{g:M (Fl×Env)}{f:Fn}{vs:List V}{m s:V}(c:Ch call σ as qs σ') (h:g σ'=.exc m s σ2) (e:((QbE as (fnF cx call f vs)).1,hdX (QbE as (fnF cx call f vs)).2)=(qs,some g)):Qbi cx call f vs σ=.exc m s σ2:=by
 rw [<- Qe9];exact Qec c h e
theorem Qpr {σ2:List O}{g:M (Fl×Env)}{n d:Nat}{l:List CS}{ρ:Env}{m s:V}(c:Ch call σ as qs σ') (h:g σ'=.exc m s σ2) (e:((QbE as (Qgq (exF cx call n d) l ρ)).1,hdX (QbE as (Qgq (exF cx call n d) l ρ)).2)=(qs,some g)):Qau (ex cx call n d) l ρ σ=.exc m s σ2:=by
 rw [<- Qby (Qb3 n d)];exact Qec c h e
end
theorem Qev {s u:List Nat}{a b:Option Int}(e:QaG s a b=u) (n:u.length<=1000000) {σ:List O}:mkS (QaG s a b) σ=.ok (.str u) σ:=by refine e.substr ?_;exact Qjr u n σ
theorem Qhg {c:Nat}{b:Int}(h:0<=b/\b<=100) {σ:List O}:QbP .mul (.str [c]) (.int b) σ=.ok (.str (List.replicate b.toNat c)) σ:=QbG h rfl
theorem Qdv {i:Int}(h:0<=i/\i<1000) {σ:List O}:builtin .str [.int i] σ=.ok (.str (Qeu i)) σ:=QbG h rfl
theorem Qcl {t:List Nat}{a c:Nat}(h:t[a]?=some c) (n:a<1000000) {σ:List O}:QaK (.str t) (.int (a:Nat)) σ=.ok (.str [c]) σ:=by
 show (if QaV (a:Int) then (match atI t (a:Int) with | some c=>M.ret (V.str [c]) | none=>M.stuck) else M.stuck) σ=_
 refine (if_pos (small_iff.mpr (by lia))).substr ?_;refine ((show atI t (a:Int)=some c from by exact h)).substr ?_;rfl
theorem Qg1 {σ:List O}{r:Nat}{l:List V}{i:Int}{v:V}(h:σ[r]?=some (.list l)) (c:0<=i/\i<l.length/\i<2 ^ 62):Qe8 (.ref r) (.int i) v σ=.ok () (σ.set r (.list (l.set i.toNat v))):=
 bok (Qap h) (QbG c (QbU h _))
theorem QqT {a b:List Nat}{c:Bool}(h:(a==b)=c):(b==a)=c:=by exact BEq.comm.trans h
theorem Qmu {cx:Cx}{call:V->List V->M V}{n d:Nat}{b:List CS}{ρ:Env}{σ σ':List O}{r:Fl×Env}(h:Qau (ex cx call n d) b ρ σ=.ok r σ'):ex cx call n (d+1) (.tryR b) ρ σ=.ok r σ':=by
 have e:ex cx call n (d+1) (.tryR b) ρ σ=(match Qau (ex cx call n d) b ρ σ with
   | .exc m s σ=>M.bind (QaQ [m,s]) (λ v=>M.ret (.ret v,ρ)) σ
   | r=>r):=rfl
 simp only [e,h]
theorem Qkk {cx:Cx}{call:V->List V->M V}{n d:Nat}{b:List CS}{ρ:Env}{σ σ':List O}{m s:V}(h:Qau (ex cx call n d) b ρ σ=.exc m s σ'):ex cx call n (d+1) (.tryR b) ρ σ=.ok (.ret (.ref σ'.length),ρ) (σ'++[.list [m,s]]):=by
 have e:ex cx call n (d+1) (.tryR b) ρ σ=(match Qau (ex cx call n d) b ρ σ with
   | .exc m s σ=>M.bind (QaQ [m,s]) (λ v=>M.ret (.ret v,ρ)) σ
   | r=>r):=rfl
 refine e.substr ?_;refine h.substr ?_;rfl
theorem Qn7 {cx:Cx}{call:V->List V->M V}{n d w:Nat}{t:CE}{b:List CS}{ρ:Env}{σ σ':List O}(hw:cx.W=w+1) (h:tr cx call n ρ t σ=.ok false σ'):ex cx call n (d+1) (.whl t b) ρ σ=.ok (.next,ρ) σ':=by
 have e:ex cx call n (d+1) (.whl t b) ρ=Qat (λ ρ=>tr cx call n ρ t) (Qau (ex cx call n d) b) cx.W ρ:=rfl
 refine e.substr ?_;refine hw.substr ?_;exact bok h rfl
theorem Qn8 {cx:Cx}{call:V->List V->M V}{n d w:Nat}{t:CE}{b:List CS}{ρ ρ':Env}{σ σ1 σ':List O}(hw:cx.W=w+1) (h:tr cx call n ρ t σ=.ok true σ1) (k:Qau (ex cx call n d) b ρ σ1=.ok (.brk,ρ') σ'):ex cx call n (d+1) (.whl t b) ρ σ=.ok (.next,ρ') σ':=by
 have e:ex cx call n (d+1) (.whl t b) ρ=Qat (λ ρ=>tr cx call n ρ t) (Qau (ex cx call n d) b) cx.W ρ:=rfl
 refine e.substr ?_;refine hw.substr ?_;exact bok h (bok k rfl)
theorem Qfe {c:Nat}{S:List Nat}{b:Bool}(h:S.contains c=b) {σ:List O}:QaJ .in (.str [c]) (.str S) σ=.ok (.bool b) σ:=by refine h.symm.substr ?_;rfl
theorem QeE {σ σ':List O}{i j a:Nat}{l:List (Nat×V)}{u:V}(h:getO i σ=.ok (.inst j) σ) (h2:getO j σ=.ok (.dict l) σ) (c:(Nat.ble l.length 100&&Nat.blt a 3)=true) (s:Qcg j (.dict (Qgr a u l)) σ=.ok () σ'):setAttr (.ref i) a u σ=.ok () σ':=
 have q:=Bool.and_eq_true_iff.mp c
 bok (m:=asRef (.ref i)) rfl (bok h (bok h2 (QbG ⟨Nat.le_of_ble_eq_true q.1,Nat.le_of_ble_eq_true q.2⟩ s)))
theorem decN {a b:Nat}:decide ((a:Int)<(b:Int))=decide (a<b):=decide_eq_decide.mpr (by simp_all)
end
section
open PySem
local macro_rules | `(tactic| walk_at "lb")=>`(tactic| first | assumption | lia | (simp;done) | (simp;lia))
section
variable {cx:Cx}{call:V->List V->M V}{n:Nat}{ρ:Env}
theorem QaM {α β}(m:M α) (f:α->M β) (σ):M.bind m f σ=(match m σ with | .ok a σ=>f a σ | .exc m s σ=>.exc m s σ | .bad=>.bad):=rfl
theorem Qlu {α}(a:α) (σ):M.ret a σ=.ok a σ:=rfl
theorem e_k (v):ev cx call (n+1) ρ (.k v)=M.ret v:=rfl
theorem Qii (i):ev cx call (n+1) ρ (.loc i)=(match ρ[i]? with | some (some v)=>M.ret v | _=>M.stuck):=rfl
theorem Qpu (g):ev cx call (n+1) ρ (.glob g)=Qbk (cx.gv g):=rfl
theorem Qqq (op a b):ev cx call (n+1) ρ (.bin op a b)=M.bind (ev cx call n ρ a) λ x=>M.bind (ev cx call n ρ b) λ y=>QbP op x y:=rfl
theorem QoB (op a b):ev cx call (n+1) ρ (.cmp op a b)=M.bind (ev cx call n ρ a) λ x=>M.bind (ev cx call n ρ b) λ y=>QaJ op x y:=rfl
theorem Qqs (l):ev cx call (n+1) ρ (.and l)=QlA (ev cx call n ρ) l:=rfl
theorem QqM (l):ev cx call (n+1) ρ (.or l)=orE (ev cx call n ρ) l:=rfl
theorem Qqk (a):ev cx call (n+1) ρ (.not a)=M.bind (ev cx call n ρ a) λ x=>M.bind (truth x) λ b=>M.ret (.bool (!b)):=rfl
theorem Qqn (t a b):ev cx call (n+1) ρ (.ite t a b)=M.bind (tr cx call n ρ t) λ c=>if c then ev cx call n ρ a else ev cx call n ρ b:=rfl
theorem Qqi (l):ev cx call (n+1) ρ (.tup l)=M.bind (Qcr (ev cx call n ρ) l) λ vs=>if vs.length<=cap then M.ret (.tup vs) else M.stuck:=rfl
theorem Qqm (l):ev cx call (n+1) ρ (.lst l)=M.bind (Qcr (ev cx call n ρ) l) λ vs=>QaQ vs:=rfl
theorem Qpv (f args):ev cx call (n+1) ρ (.call f args)=M.bind (ev cx call n ρ f) λ v=>M.bind (Qcr (ev cx call n ρ) args) λ vs=>call v vs:=rfl
theorem QpS (b args):ev cx call (n+1) ρ (.bi b args)=M.bind (Qcr (ev cx call n ρ) args) λ vs=>builtin b vs:=rfl
theorem Qpt (o f args):ev cx call (n+1) ρ (.meth o f args)=M.bind (ev cx call n ρ o) λ v=>M.bind (asRef v) λ i=>M.bind (getO i) λ x=>match x with
   | .inst j=>M.bind (getD j) λ _=>M.bind (Qcr (ev cx call n ρ) args) λ vs=>call (.fn f) (v::vs)
   | _=>M.stuck:=rfl
theorem Qqr (o x):ev cx call (n+1) ρ (.app o x)=M.bind (ev cx call n ρ o) λ v=>M.bind (asRef v) λ i=>M.bind (getL i) λ _=>M.bind (Qcr (ev cx call n ρ) [x]) λ vs=>QjU i vs:=rfl
theorem Qqo (o x):ev cx call (n+1) ρ (.ext o x)=M.bind (ev cx call n ρ o) λ v=>M.bind (asRef v) λ i=>M.bind (getL i) λ _=>M.bind (Qcr (ev cx call n ρ) [x]) λ vs=>QjT i vs:=rfl
theorem Qpw (o a):ev cx call (n+1) ρ (.attr o a)=M.bind (ev cx call n ρ o) λ v=>getAttr v a:=rfl
theorem QoA (o i):ev cx call (n+1) ρ (.idx o i)=M.bind (ev cx call n ρ o) λ v=>M.bind (ev cx call n ρ i) λ w=>QaK v w:=rfl
theorem Qqj (o lo hi):ev cx call (n+1) ρ (.slc o lo hi)=M.bind (ev cx call n ρ o) λ v=>M.bind (Qgs (ev cx call n ρ) lo) λ a=>M.bind (Qgs (ev cx call n ρ) hi) λ b=>match v with
   | .str s=>mkS (QaG s a b)
   | _=>M.stuck:=rfl
theorem Qqb (a):tr cx call (n+1) ρ (.not a)=M.bind (tr cx call n ρ a) λ b=>M.ret (!b):=rfl
theorem Qof (l):tr cx call (n+1) ρ (.and l)=Qe5 (tr cx call n ρ) l:=rfl
theorem QqG (l):tr cx call (n+1) ρ (.or l)=orT (tr cx call n ρ) l:=rfl
theorem Qpo (o f args):tr cx call (n+1) ρ (.meth o f args)=M.bind (ev cx call n ρ (.meth o f args)) truth:=rfl
theorem Qoe (o f args):tr cx call (n+1) ρ (.cmp o f args)=M.bind (ev cx call n ρ (.cmp o f args)) truth:=rfl
theorem Qpp (o args):tr cx call (n+1) ρ (.call o args)=M.bind (ev cx call n ρ (.call o args)) truth:=rfl
theorem Qqc (o):tr cx call (n+1) ρ (.loc o)=M.bind (ev cx call n ρ (.loc o)) truth:=rfl
theorem Qqd (o):tr cx call (n+1) ρ (.cel o)=M.bind (ev cx call n ρ (.cel o)) truth:=rfl
variable {d:Nat}
theorem Qpj (e):ex cx call n (d+1) (.expr e) ρ=M.bind (ev cx call n ρ e) λ _=>M.ret (.next,ρ):=rfl
theorem Qp4 (e):ex cx call n (d+1) (.ret e) ρ=M.bind (ev cx call n ρ e) λ v=>M.ret (.ret v,ρ):=rfl
theorem Qp7 (t e):ex cx call n (d+1) (.asg t e) ρ=M.bind (ev cx call n ρ e) λ v=>M.bind (assign cx call n 3 t v ρ) λ ρ=>M.ret (.next,ρ):=rfl
theorem Qp5 (t a b):ex cx call n (d+1) (.iff t a b) ρ=M.bind (tr cx call n ρ t) λ c=>if c then Qau (ex cx call n d) a ρ else Qau (ex cx call n d) b ρ:=rfl
theorem QoV (m s):ex cx call n (d+1) (.raise m s) ρ=M.bind (ev cx call n ρ m) λ m=>M.bind (ev cx call n ρ s) λ s=>M.raise m s:=rfl
theorem Qpl (o a op e):ex cx call n (d+1) (.aug (.attr o a) op e) ρ=M.bind (ev cx call n ρ o) λ w=>M.bind (getAttr w a) λ old=>M.bind (ev cx call n ρ e) λ v=>M.bind (aug2 op old v) λ new=>
     M.bind (setAttr w a new) λ _=>M.ret (.next,ρ):=rfl
theorem Qpk (i op e):ex cx call n (d+1) (.aug (.loc i) op e) ρ=M.bind (ev cx call n ρ (.loc i)) λ old=>M.bind (ev cx call n ρ e) λ v=>M.bind (aug2 op old v) λ new=>M.bind (Qaq i new ρ) λ ρ=>M.ret (.next,ρ):=rfl
theorem Qp6:ex cx call n (d+1) .brk ρ=M.ret (.brk,ρ):=rfl
theorem Qp3 (ts e):ex cx call n (d+1) (.swp ts e) ρ=M.bind (ev cx call n ρ e) λ v=>(match v with
   | .tup l=>if l.length=ts.length then M.bind (setLocs ts.reverse l.reverse ρ) λ ρ=>M.ret (.next,ρ) else M.stuck
   | _=>M.stuck):=rfl
theorem Qmq (t e b):ex cx call n (d+1) (.forR t e b) ρ=M.bind (ev cx call n ρ e) λ v=>M.bind (asI v) λ i=>if 0<=i/\i<=1000 then Qb1 (assign cx call n 3 t) (Qau (ex cx call n d) b) (QaA i.toNat) ρ else M.stuck:=rfl
theorem Qn5 (t e b):ex cx call n (d+1) (.for t e b) ρ=M.bind (ev cx call n ρ e) λ v=>(match v with
   | .tup l=>Qb1 (assign cx call n 3 t) (Qau (ex cx call n d) b) l ρ
   | .ref i=>M.bind (getL i) λ _=>Qes (assign cx call n 3 t) (Qau (ex cx call n d) b) i cx.W 0 ρ
   | _=>M.stuck):=rfl
theorem Qp2 (b):ex cx call n (d+1) (.tryR b) ρ=λ σ=>(match Qau (ex cx call n d) b ρ σ with
   | .exc m s σ=>M.bind (QaQ [m,s]) (λ v=>M.ret (.ret v,ρ)) σ
   | r=>r):=rfl
theorem Qqp (i):ev cx call (n+1) ρ (.cel i)=(match ρ[i]? with
   | some (some (.ref c))=>M.bind (getO c) λ x=>match x with | .cell (some v)=>M.ret v | _=>M.stuck
   | _=>M.stuck):=rfl
theorem Qql (x):ev cx call (n+1) ρ (.mkw x)=M.bind (Qcr (ev cx call n ρ) [x]) λ vs=>mkW call vs:=rfl
theorem Qp1 (t b):ex cx call n (d+1) (.whl t b) ρ=Qat (λ ρ=>tr cx call n ρ t) (Qau (ex cx call n d) b) cx.W ρ:=rfl
end
theorem Qqz (a b):QbP .add (.int a) (.int b)=M.ret (.int (a+b)):=rfl
theorem Qqw (a b):QbP .sub (.int a) (.int b)=M.ret (.int (a - b)):=rfl
theorem Qqx (a b):QbP .mul (.int a) (.int b)=if QaV b then M.ret (.int (a * b)) else M.stuck:=rfl
theorem Qqy (a b):QbP .mod (.int a) (.int b)=if 0<b then M.ret (.int (Int.fmod a b)) else M.stuck:=rfl
theorem QpA (a b):QbP .fdiv (.int a) (.int b)=if 0<b&&QaV b then M.ret (.int (Int.fdiv a b)) else M.stuck:=rfl
theorem QpB (a b):QbP .add (.str a) (.str b)=mkS (a++b):=rfl
theorem Qpy (c b):QbP .mul (.str [c]) (.int b)=if 0<=b/\b<=100 then M.ret (.str (List.replicate b.toNat c)) else M.stuck:=rfl
theorem QpC (i j):QbP .add (.ref i) (.ref j)=M.bind (getL i) λ a=>M.bind (getL j) λ b=>QaQ (a++b):=rfl
theorem Qpz (i b):QbP .mul (.ref i) (.int b)=M.bind (getL i) λ a=>if a.length<=cap then (if b=0 then QaQ [] else if b=1 then QaQ a else M.stuck) else M.stuck:=rfl
theorem QpT (a b):QaJ .lt (.int a) (.int b)=M.ret (.bool (decide (a<b))):=rfl
theorem QqN (a b):QaJ .le (.int a) (.int b)=M.ret (.bool (decide (a<=b))):=rfl
theorem QqQ (a b):QaJ .gt (.int a) (.int b)=M.ret (.bool (decide (b<a))):=rfl
theorem QqR (a b):QaJ .ge (.int a) (.int b)=M.ret (.bool (decide (b<=a))):=rfl
theorem QqO (v):QaJ .is v .none=M.ret (.bool (isNone v)):=rfl
theorem Qo0 (v):QaJ .isnot v .none=M.ret (.bool (!isNone v)):=rfl
theorem QoF (c b):QaJ .in (.str [c]) (.str b)=M.ret (.bool (b.contains c)):=rfl
theorem QqP (a l):QaJ .in (.str a) (.tup l)=asB (inL (.str a) l):=rfl
theorem QqS (a b):QaJ .eq a b=eqO a b:=rfl
theorem Qqv (a b):QaJ .ne (.int a) (.int b)=M.ret (.bool (a != b)):=rfl
theorem Qqu (a b):QaJ .ne (.str a) (.str b)=M.ret (.bool (a != b)):=rfl
theorem q_s (x y):eqO (.str x) (.str y)=M.ret (.bool (x==y)):=rfl
theorem q_i (x y):eqO (.int x) (.int y)=M.ret (.bool (x==y)):=rfl
theorem QqL (l):QaK (.tup l) (.int 0)=Qbk l[0]?:=rfl
theorem QqK (l):QaK (.tup l) (.int 1)=Qbk l[1]?:=rfl
theorem QqJ (l):QaK (.tup l) (.int 2)=Qbk l[2]?:=rfl
theorem i_r (r i):QaK (.ref r) (.int i)=if QaV i then M.bind (getL r) λ l=>Qbk (atI l i) else M.stuck:=rfl
theorem i_s (s i):QaK (.str s) (.int i)=if QaV i then (match atI s i with | some c=>M.ret (.str [c]) | none=>M.stuck) else M.stuck:=rfl
theorem Qmr (s):builtin .len [.str s]=Qgu s.length:=rfl
theorem Qpn (i):builtin .len [.ref i]=M.bind (getL i) λ l=>Qgu l.length:=rfl
theorem Qob (a b):builtin .min [.int a,.int b]=M.ret (.int (if b<a then b else a)):=rfl
theorem QlE (a b):builtin .max [.int a,.int b]=M.ret (.int (if b > a then b else a)):=rfl
theorem Qqa (b):builtin .int [.bool b]=M.ret (.int (if b then 1 else 0)):=rfl
theorem Qp9 (i):builtin .str [.int i]=if 0<=i/\i<1000 then M.ret (.str (Qeu i)) else M.stuck:=rfl
theorem Qp8 (i):builtin .tuple [.ref i]=M.bind (getL i) λ l=>if l.length<=cap then M.ret (.tup l) else M.stuck:=rfl
theorem Qpm (i):builtin .list [.ref i]=M.bind (getL i) λ l=>QaQ l:=rfl
theorem Qpx (n:Nat):(n<=cap)=(n<=1000000):=rfl
theorem Qoc (b):truth (.bool b)=M.ret b:=rfl
theorem QqB (a b):aug2 .add (.int a) (.int b)=M.ret (.int (a+b)):=rfl
theorem QqA (a b):aug2 .sub (.int a) (.int b)=M.ret (.int (a - b)):=rfl
theorem QcN {cx:Cx}{d k:Nat}{f:Fn}(e:cx.fns k=some f) (args:List V):Qab cx (d+1) (.fn k) args=Qbi cx (Qab cx d) f args:=by
 show (match cx.fns k with | some f=>Qbi cx (Qab cx d) f args | none=>M.stuck)=_
 refine e.substr ?_;rfl
noncomputable def kS:List Nat:=[115,105,103,110]
noncomputable def kN:List Nat:=[110,97,109,101]
noncomputable def kE:List Nat:=[101,110,100]
noncomputable def tk (kd s:List Nat) (q:Nat):V:=.tup [.str kd,.str s,.int q,.none,.none]
noncomputable def lk (kd s x:List Nat):Bool:=(kd==kS||kd==kN)&&s==x
noncomputable def wd (r p:Nat) (dp:Int):O:=.dict [(0,.ref r),(1,.int p),(2,.int dp)]
structure W (σ:List O) (i j r:Nat) (rows:List V) (p:Nat) (dp:Int):Prop where
 wi:σ[i]?=some (.inst j)
 wj:σ[j]?=some (wd r p dp)
 wr:σ[r]?=some (.list rows)
 ij:i≠j
 jr:j≠r
 len:rows.length<=cap
noncomputable def Keep (j:Nat) (σ σ':List O):Prop:=σ.length<=σ'.length/\∀ k,k≠j->k<σ.length->σ'[k]?=σ[k]?
theorem Keep.refl (j σ):Keep j σ σ:=⟨Nat.le_refl _,λ _ _ _=>rfl⟩
theorem Keep.trans {j a b c}(x:Keep j a b) (y:Keep j b c):Keep j a c:=
 ⟨Nat.le_trans x.1 y.1,λ k n l=>(y.2 k n (Nat.lt_of_lt_of_le l x.1)).trans (x.2 k n l)⟩
theorem Keep.get {j σ σ' k o}(x:Keep j σ σ') (n:k≠j) (e:σ[k]?=some o):σ'[k]?=some o:=by
 simp only [x.2 k n (List.getElem?_eq_some_iff.mp e).1,e]
theorem Keep.set (j o σ):Keep j σ (σ.set j o):=⟨by simp,λ k n l=>by exact List.getElem?_set_ne (λ e=>n e.symm)⟩
theorem Keep.app (j σ l):Keep j σ (σ++l):=⟨by simp,λ k n m=>by exact List.getElem?_append_left m⟩
theorem W.set {σ i j r rows p dp}(h:W σ i j r rows p dp) (p' dp'):W (σ.set j (wd r p' dp')) i j r rows p' dp':=
 ⟨by exact (List.getElem?_set_ne (λ e=>h.ij e.symm)).trans h.wi,by exact List.getElem?_set_self (List.getElem?_eq_some_iff.mp h.wj).1,by exact (List.getElem?_set_ne h.jr).trans h.wr,h.ij,h.jr,h.len⟩
theorem W.app {σ i j r rows p dp}(h:W σ i j r rows p dp) (l):W (σ++l) i j r rows p dp:=
 ⟨(Keep.app (j+1+r+i) σ l).get (by lia) h.wi,(Keep.app (j+1+r+i) σ l).get (by lia) h.wj,(Keep.app (j+1+r+i) σ l).get (by lia) h.wr,h.ij,h.jr,h.len⟩
theorem W.setK {σ i j r rows p dp}(h:W σ i j r rows p dp) (k o) (a:k≠i) (b:k≠j) (c:k≠r):W (σ.set k o) i j r rows p dp:=
 ⟨by exact (List.getElem?_set_ne a).trans h.wi,by exact (List.getElem?_set_ne b).trans h.wj,by exact (List.getElem?_set_ne c).trans h.wr,h.ij,h.jr,h.len⟩
theorem Qac {σ:List O}{i o}(h:σ[i]?=some o):getO i σ=.ok o σ:=by simp only [getO,h]
theorem Qai {σ:List O}{i o}(h:σ[i]?=some o) (x:O):Qcg i x σ=.ok () (σ.set i x):=if_pos (List.getElem?_eq_some_iff.mp h).1
theorem W.gi {σ i j r rows p dp}(h:W σ i j r rows p dp):getO i σ=.ok (.inst j) σ:=Qac h.wi
theorem W.gj {σ i j r rows p dp}(h:W σ i j r rows p dp):getO j σ=.ok (.dict [(0,.ref r),(1,.int p),(2,.int dp)]) σ:=Qac h.wj
theorem W.gr {σ i j r rows p dp}(h:W σ i j r rows p dp):getO r σ=.ok (.list rows) σ:=Qac h.wr
theorem W.sj {σ i j r rows p dp}(h:W σ i j r rows p dp) (x:O):Qcg j x σ=.ok () (σ.set j x):=Qai h.wj x
theorem W.jl {σ i j r rows p dp}(h:W σ i j r rows p dp):j<σ.length:=(List.getElem?_eq_some_iff.mp h.wj).1
noncomputable def Qf1 (m:M V) (σ:List O) (i j r:Nat) (rows:List V) (p:Nat) (dp:Int) (v:V):Prop:=∃ σ',And3 (m σ=.ok v σ') (W σ' i j r rows p dp) (Keep j σ σ')
noncomputable def Qdu {α}(m:M α) (σ:List O) (j:Nat) (msg:List Nat) (q:Nat):Prop:=∃ σ',m σ=.exc (.str msg) (.int q) σ'/\Keep j σ σ'
section
variable {d:Nat}{σ:List O}{i j r:Nat}{rows:List V}{p:Nat}{dp:Int}(h:W σ i j r rows p dp)
include h
theorem QeF {t:V}(e:rows[p]?=some t):Qab cL (d+1) (.fn 63) [.ref i,.int 0] σ=.ok t σ:=by
 have hl:=(List.getElem?_eq_some_iff.mp e).1
 have a4:rows.length<=1000000:=h.len
 have mn:builtin .min [.int ((p:Int)+0),.int ((rows.length:Int) - 1)]=M.ret (.int (p:Nat)):=by rw [Qob,if_neg (by lia),Int.add_zero]
 exact QaC (.sub (QbK (a:=0) h.wi h.wj rfl)<|.sub (QbK (a:=1) h.wi h.wj rfl)<|.val (V.int ((p:Int)+0))<|.sub (QbK (a:=0) h.wi h.wj rfl)<|.sub (Qbj h.wr a4)<|.val (V.int ((rows.length:Int) - 1))<|.sub (congrFun mn _)<|.sub (Qaz h.wr e (by lia)) .nil) (by kernel_rfl)
theorem QaW {t:V}(e:rows[p]?=some t):Qab cL (d+1) (.fn 63) [.ref i] σ=.ok t σ:=(QeF h e)
variable {kd s:List Nat}{q:Nat}(e:rows[p]?=some (tk kd s q))
include e
theorem QiB (x:List Nat):Qab cL (d+2) (.fn 65) [.ref i,.str x,.int 0] σ=.ok (.bool (lk kd s x)) σ:=by
 have u2:QaJ .in (.str kd) (.tup [.str kS,.str kN])=M.ret (.bool (kd==kS||kd==kN)):=by
  refine BEq.comm.substr ?_;refine (BEq.comm (b:=kN)).substr ?_;exact congrArg (λ b=>M.ret (V.bool (kS==kd||b))) (Bool.or_false (kN==kd))
 unfold lk
 cases b:(kd==kS||kd==kN)
 ·exact QaC (.gO (h.gi)<|.gO (h.gj)<|.call (QeF (d:=d) h e)<|.val (V.str kd)<|.sub (m:=QaJ .in (.str kd) (.tup [.str kS,.str kN])) (congrFun u2 _)<|.ask b<|.nil) (by refine b.substr ?_;kernel_rfl)
 ·exact QaC (.gO (h.gi)<|.gO (h.gj)<|.call (QeF (d:=d) h e)<|.val (V.str kd)<|.sub (m:=QaJ .in (.str kd) (.tup [.str kS,.str kN])) (congrFun u2 _)<|.ask b<|.val (V.str s)<|.val (V.bool (s==x))<|.nil) (by kernel_rfl)
theorem Qad (x:List Nat):Qab cL (d+2) (.fn 65) [.ref i,.str x] σ=.ok (.bool (lk kd s x)) σ:=QiB h e x
theorem QbJ (n:(kd==kE)=false):Qab cL (d+2) (.fn 64) [.ref i] σ=.ok (tk kd s q) (σ.set j (wd r (p+1) dp)):=by
 have a1:=h.gi
 have a2:=h.gj
 have c:=QaW (d:=d) h e
 exact QaC (.gO a1<|.gO a2<|.call c<|.val (V.str kd)<|.sub (congrFun (rfl:QaJ .ne (.str kd) (.str [101,110,100])=M.ret (.bool (kd != kE))) _)<|.ask (show (kd != kE)=true from by simpa using n)<|.sub (QbK (a:=1) (Qaa a1) (Qaa a2) rfl)<|.val (V.int ((↑p:Int)+1))<|.subU (QdW (a:=1) (u:=V.int ((↑p:Int)+1)) (Qaa a1) (Qaa a2) rfl)<|.nil) (by kernel_rfl)
theorem Qay (x:List Nat) (n:(kd==kE)=false) (u:lk kd s x=true):Qab cL (d+3) (.fn 66) [.ref i,.str x] σ=.ok (tk kd s q) (σ.set j (wd r (p+1) dp)):=by
 have a1:=h.gi
 exact QaC (.gO a1<|.gO (h.gj)<|.call (Qad (d:=d) h e x)<|.ask (nF u)<|.gO a1<|.gO (h.gj)<|.call (QbJ (d:=d) h e n)<|.nil) (by kernel_rfl)
theorem Qca (x:List Nat) (l:x.length<=999989) (u:lk kd s x=false):
  Qab cL (d+3) (.fn 66) [.ref i,.str x] σ=.exc (.str (x++[32,105,115,32,109,105,115,115,105,110,103])) (.int q) σ:=by
 have a1:=h.gi
 exact Qif (.gO a1<|.gO (h.gj)<|.call (Qad (d:=d) h e x)<|.ask (nT u)<|.sub (QcQ (a:=x) (b:=[32,105,115,32,109,105,115,115,105,110,103]) (by walk_at "lb"))<|.gO a1<|.gO (h.gj)<|.call (QaW (d:=d+1) h e)<|.val (V.int ↑q)<|.nil) (by kernel_rfl)
theorem QcK (u:kd=kN) (n:QaJ .in (.str s) G1=M.ret (.bool false)):Qab cL (d+2) (.fn 67) [.ref i] σ=.ok (.tup [.str s,.int q]) (σ.set j (wd r (p+1) dp)):=by
 have a1:=h.gi
 have a2:=h.gj
 have c:=QaW (d:=d) h e
 simp only [tk,u] at c
 exact QaC (.gO a1<|.gO a2<|.call c<|.val (V.str kN)<|.sub (congrFun (rfl:QaJ .ne (.str kN) (.str [110,97,109,101])=M.ret (.bool false)) _)<|.no<|.val (V.str s)<|.sub (congrFun n _)<|.no<|.no<|.sub (QbK (a:=1) (Qaa a1) (Qaa a2) rfl)<|.val (V.int ((↑p:Int)+1))<|.subU (QdW (a:=1) (u:=V.int ((↑p:Int)+1)) (Qaa a1) (Qaa a2) rfl)<|.val (V.str s)<|.val (V.int ↑q)<|.nil) (by kernel_rfl)
end
end
section
open PySem
theorem Qqg (l:List V) (i:Int):QaK (.tup l) (.int i)=if QaV i then Qbk (atI l i) else M.stuck:=rfl
section
variable {d:Nat}{σ:List O}{i j r:Nat}{rows:List V}{p:Nat}{dp:Int}(h:W σ i j r rows p dp)
include h
theorem Qfp (l:dp<60):Qab cL (d+1) (.fn 61) [.ref i] σ=.ok .none (σ.set j (wd r p (dp+1))):=by
 exact QaC (.sub (QbK (a:=2) (Qaa (h.gi)) (Qaa (h.gj)) rfl)<|.val (V.int (dp+1))<|.subU (QdW (a:=2) (u:=V.int (dp+1)) (Qaa (h.gi)) (Qaa (h.gj)) rfl)<|.sub (QbK (a:=2) (Qaa ((h.set p (dp+1)).gi)) (Qaa ((h.set p (dp+1)).gj)) rfl)<|.val (V.bool (decide (60<dp+1)))<|.ask (decide_eq_false (show ¬ (60<dp+1) from by lia))<|.nil) (by kernel_rfl)
theorem QeR:Qab cL (d+1) (.fn 62) [.ref i] σ=.ok .none (σ.set j (wd r p (dp-1))):=by
 have a1:=h.gi
 exact QaC (.sub (QbK (a:=2) (Qaa a1) (Qaa (h.gj)) rfl)<|.val (V.int (dp - 1))<|.subU (QdW (a:=2) (u:=V.int (dp - 1)) (Qaa a1) (Qaa (h.gj)) rfl)<|.nil) (by kernel_rfl)
variable {kd s:List Nat}{q:Nat}(e:rows[p]?=some (tk kd s q))
include e
theorem Qg6 (u:(kd==kN)=false):Qab cL (d+2) (.fn 67) [.ref i] σ=.exc (.str [97,32,110,97,109,101,32,105,115,32,109,105,115,115,105,110,103]) (.int q) σ:=by
 exact Qif (.gO (h.gi)<|.gO (h.gj)<|.call (QaW (d:=d) h e)<|.val (V.str kd)<|.sub (congrFun (rfl:QaJ .ne (.str kd) (.str [110,97,109,101])=M.ret (.bool (kd != kN))) _)<|.ask (show (kd != kN)=true from by simpa using u)<|.yes<|.val (V.int ↑q)<|.nil) (by kernel_rfl)
theorem Qg5 (u:kd=kN) (n:QaJ .in (.str s) G1=M.ret (.bool true)):Qab cL (d+2) (.fn 67) [.ref i] σ=.exc (.str [97,32,110,97,109,101,32,105,115,32,109,105,115,115,105,110,103]) (.int q) σ:=by
 have c:=QaW (d:=d) h e
 simp only [tk,u] at c
 have u3:QaJ .ne (.str kN) (.str [110,97,109,101])=M.ret (.bool false):=rfl
 exact Qif (.gO (h.gi)<|.gO (h.gj)<|.call c<|.val (V.str kN)<|.sub (congrFun u3 _)<|.no<|.val (V.str s)<|.sub (congrFun n _)<|.yes<|.yes<|.val (V.int ↑q)<|.nil) (by kernel_rfl)
theorem Qf8 (u:kd=kN) (n:QaJ .in (.str s) G1=M.ret (.bool false)) (n8:QaJ .in (.str s) G8=M.ret (.bool false)):
  Qab cL (d+3) (.fn 19) [.ref i,.tup []] σ=.ok (.str s) (σ.set j (wd r (p+1) dp)):=by
 have c:=QaW (d:=d+1) h e
 have c2:=QcK (d:=d) h e u n
 simp only [tk,u] at c c2
 exact QaC (.gO (h.gi)<|.gO (h.gj)<|.call c<|.val (V.str kN)<|.val (V.bool true)<|.yes<|.val (V.str s)<|.sub (congrFun n8 _)<|.no<|.no<|.gO (h.gi)<|.gO (h.gj)<|.call c2<|.val (V.str s)<|.nil) (by kernel_rfl)
theorem QeT (u:(kd==kN)=false):
  Qab cL (d+3) (.fn 19) [.ref i,.tup []] σ=.exc (.str [97,32,110,97,109,101,32,105,115,32,109,105,115,115,105,110,103]) (.int q) σ:=by
 have a1:=h.gi
 have a2:=h.gj
 have c:=QaW (d:=d+1) h e
 have c2:=Qg6 (d:=d) h e u
 exact Qcz (.gO a1<|.gO a2<|.call c<|.val (V.str kd)<|.val (V.bool (kd==[110,97,109,101]))<|.ask u<|.no<|.gO a1<|.gO a2<|.nil) c2 (by kernel_rfl)
end
end
section
open PySem
noncomputable def gen (s:List Nat):V:=.tup [.tup [.str s,.tup [],.tup []]]
section
variable {d:Nat}{σ:List O}{i j r:Nat}{rows:List V}{p:Nat}{dp:Int}(h:W σ i j r rows p dp)
include h
variable {kd s:List Nat}{q:Nat}(e:rows[p]?=some (tk kd s q)) {kd2 s2:List Nat}{q2:Nat}(e2:rows[p+1]?=some (tk kd2 s2 q2))
include e
theorem Qf7 (u:(kd==kN)=false):
  Qab cL (d+4) (.fn 18) [.ref i,.tup [],.bool false] σ=.exc (.str [97,32,110,97,109,101,32,105,115,32,109,105,115,115,105,110,103]) (.int q) σ:=by
 exact Qcz (.nil) (QeT (d:=d) h e u) (by kernel_rfl)
theorem Qiz (u:(kd==kN)=false):
  Qab cL (d+5) (.fn 17) [.ref i] σ=.exc (.str [97,32,110,97,109,101,32,105,115,32,109,105,115,115,105,110,103]) (.int q) σ:=by
 exact Qcz (.nil) (Qf7 (d:=d) h e u) (by kernel_rfl)
include e2
theorem QhJ (u:kd=kN) (n:QaJ .in (.str s) G1=M.ret (.bool false)) (n8:QaJ .in (.str s) G8=M.ret (.bool false))
  (l1:lk kd2 s2 [58,58]=false) (l2:lk kd2 s2 [60]=false):
  Qab cL (d+4) (.fn 18) [.ref i,.tup [],.bool false] σ=.ok (.tup [.str s,.tup [],.tup []]) (σ.set j (wd r (p+1) dp)):=by
 have h1:=h.set (p+1) dp
 exact QaC (.call (Qf8 (d:=d) h e u n n8)<|.gO (h1.gi)<|.gO (h1.gj)<|.call (Qad (d:=d+1) h1 e2 [58,58])<|.ask l1<|.no<|.yes<|.gO (h1.gi)<|.gO (h1.gj)<|.call (Qad (d:=d+1) h1 e2 [60])<|.ask l2<|.no<|.nil) (by kernel_rfl)
theorem Qks (u:kd=kN) (n:QaJ .in (.str s) G1=M.ret (.bool false)) (n8:QaJ .in (.str s) G8=M.ret (.bool false))
  (l1:lk kd2 s2 [58,58]=false) (l2:lk kd2 s2 [60]=false):
  Qab cL (d+5) (.fn 17) [.ref i] σ=.ok (gen s) (σ.set j (wd r (p+1) dp)++[.list [.tup [.str s,.tup [],.tup []]]]):=by
 have c:=QhJ (d:=d) h e e2 u n n8 l1 l2
 have h1:=h.set (p+1) dp
 generalize hs:σ.set j (wd r (p+1) dp)=σ1 at *
 have h2:=h1.app [.list [.tup [.str s,.tup [],.tup []]]]
 have L:ex cL (Qab cL (d+4)) 20 20 (.whl (.meth (.loc 0) 65 [.k (.str [58,58])]) B17) [some (.ref i),some (.bool false),some (.ref σ1.length),none,none] (σ1++[.list [.tup [.str s,.tup [],.tup []]]])=.ok (.next,[some (.ref i),some (.bool false),some (.ref σ1.length),none,none]) (σ1++[.list [.tup [.str s,.tup [],.tup []]]]):=
  Qn7 rfl (Qh4 (.gO (h2.gi)<|.gO (h2.gj)<|.call (Qad (d:=d+2) h2 e2 [58,58])<|.nil) (by refine l1.substr ?_;kernel_rfl))
 exact QaC (.call c<|.sub (rfl:QaQ [.tup [.str s,.tup [],.tup []]] σ1=.ok (.ref σ1.length) (σ1++[.list [.tup [.str s,.tup [],.tup []]]]))<|.subX L<|.sub (QbI (QaL σ1 (.list [.tup [.str s,.tup [],.tup []]])) (Nat.le_of_ble_eq_true rfl))<|.nil) (by kernel_rfl)
end
end
section
open PySem
noncomputable def Qim:List Nat:=[110,101,118,101,114]
noncomputable def Qin:List Nat:=[105,110,102,101,114]
noncomputable def Qn4:List Nat:=[112,97,116,104]
noncomputable def tyV (s:List Nat) (q:Nat):V:=if s==[33] then .tup [.str Qim,.int q] else if s==[95] then .tup [.str Qin,.int q] else .tup [.str Qn4,.int q,gen s]
noncomputable def NAMEM:List Nat:=[97,32,110,97,109,101,32,105,115,32,109,105,115,115,105,110,103]
section
variable {d:Nat}{σ:List O}{i j r:Nat}{rows:List V}{p:Nat}{dp:Int}(h:W σ i j r rows p dp)
include h
variable {kd s:List Nat}{q:Nat}(e:rows[p]?=some (tk kd s q)) {kd2 s2:List Nat}{q2:Nat}(e2:rows[p+1]?=some (tk kd2 s2 q2))
include e
theorem QlH (hk:lk kd s [40]=false/\lk kd s [38]=false/\lk kd s [38,38]=false/\lk kd s [91]=false) (x:V)
  (hb:(lk kd s [33]=true/\x=.tup [.str Qim,.int q])∨(lk kd s [33]=false/\lk kd s [95]=true/\x=.tup [.str Qin,.int q])) (n:(kd==kE)=false):
  Qab cL (d+6) (.fn 16) [.ref i] σ=.ok x (σ.set j (wd r (p+1) dp)):=by
 have a1:=h.gi
 have a2:=h.gj
 rcases hb with ⟨g5,rfl⟩ | ⟨g5,g6,rfl⟩<;>simp only [Qim,Qin]
 ·exact QaC (.gO a1<|.gO a2<|.call (QaW (d:=d+4) h e)<|.val (V.int ↑q)<|.gO a1<|.gO a2<|.call (Qad (d:=d+3) h e [40])<|.ask hk.1<|.gO a1<|.gO a2<|.call (Qad (d:=d+3) h e [38])<|.ask hk.2.1<|.gO a1<|.gO a2<|.call (Qad (d:=d+3) h e [38,38])<|.ask hk.2.2.1<|.no<|.gO a1<|.gO a2<|.call (Qad (d:=d+3) h e [91])<|.ask hk.2.2.2<|.gO a1<|.gO a2<|.call (Qad (d:=d+3) h e [33])<|.ask g5<|.gO a1<|.gO a2<|.call (QbJ (d:=d+3) h e n)<|.nil) (by kernel_rfl)
 ·exact QaC (.gO a1<|.gO a2<|.call (QaW (d:=d+4) h e)<|.val (V.int ↑q)<|.gO a1<|.gO a2<|.call (Qad (d:=d+3) h e [40])<|.ask hk.1<|.gO a1<|.gO a2<|.call (Qad (d:=d+3) h e [38])<|.ask hk.2.1<|.gO a1<|.gO a2<|.call (Qad (d:=d+3) h e [38,38])<|.ask hk.2.2.1<|.no<|.gO a1<|.gO a2<|.call (Qad (d:=d+3) h e [91])<|.ask hk.2.2.2<|.gO a1<|.gO a2<|.call (Qad (d:=d+3) h e [33])<|.ask g5<|.gO a1<|.gO a2<|.call (Qad (d:=d+3) h e [95])<|.ask g6<|.gO a1<|.gO a2<|.call (QbJ (d:=d+3) h e n)<|.nil) (by kernel_rfl)
theorem Qoi (hk:∀ x,lk kd s x=(s==x)) (n:(s==[40])=false/\(s==[38])=false/\(s==[38,38])=false/\(s==[91])=false/\(s==[33])=false/\(s==[95])=false) (u:(kd==kN)=false):
  Qab cL (d+6) (.fn 16) [.ref i] σ=.exc (.str NAMEM) (.int q) σ:=by
 have a1:=h.gi
 have a2:=h.gj
 have c1:=Qad (d:=d+3) h e [40]
 have c2:=Qad (d:=d+3) h e [38]
 have c3:=Qad (d:=d+3) h e [38,38]
 have c4:=Qad (d:=d+3) h e [91]
 have c5:=Qad (d:=d+3) h e [33]
 have c6:=Qad (d:=d+3) h e [95]
 simp only [hk] at c1 c2 c3 c4 c5 c6
 rw [n.1] at c1
 rw [n.2.1] at c2
 rw [n.2.2.1] at c3
 rw [n.2.2.2.1] at c4
 rw [n.2.2.2.2.1] at c5
 rw [n.2.2.2.2.2] at c6
 exact Qcz (.gO a1<|.gO a2<|.call (QaW (d:=d+4) h e)<|.val (V.int ↑q)<|.gO a1<|.gO a2<|.call c1<|.no<|.gO a1<|.gO a2<|.call c2<|.no<|.gO a1<|.gO a2<|.call c3<|.no<|.no<|.gO a1<|.gO a2<|.call c4<|.no<|.gO a1<|.gO a2<|.call c5<|.no<|.gO a1<|.gO a2<|.call c6<|.no<|.nil) (Qiz (d:=d) h e u) (by kernel_rfl)
include e2
theorem Qoh (hk:∀ x,lk kd s x=(s==x)) (n:(s==[40])=false/\(s==[38])=false/\(s==[38,38])=false/\(s==[91])=false/\(s==[33])=false/\(s==[95])=false)
  (u:kd=kN) (n1:QaJ .in (.str s) G1=M.ret (.bool false)) (n8:QaJ .in (.str s) G8=M.ret (.bool false))
  (l1:lk kd2 s2 [58,58]=false) (l2:lk kd2 s2 [60]=false):
  Qab cL (d+6) (.fn 16) [.ref i] σ=.ok (.tup [.str Qn4,.int q,gen s]) (σ.set j (wd r (p+1) dp)++[.list [.tup [.str s,.tup [],.tup []]]]):=by
 have a1:=h.gi
 have a2:=h.gj
 have c1:=Qad (d:=d+3) h e [40]
 have c2:=Qad (d:=d+3) h e [38]
 have c3:=Qad (d:=d+3) h e [38,38]
 have c4:=Qad (d:=d+3) h e [91]
 have c5:=Qad (d:=d+3) h e [33]
 have c6:=Qad (d:=d+3) h e [95]
 simp only [hk] at c1 c2 c3 c4 c5 c6
 rw [n.1] at c1
 rw [n.2.1] at c2
 rw [n.2.2.1] at c3
 rw [n.2.2.2.1] at c4
 rw [n.2.2.2.2.1] at c5
 rw [n.2.2.2.2.2] at c6
 exact QaC (.gO a1<|.gO a2<|.call (QaW (d:=d+4) h e)<|.val (V.int ↑q)<|.gO a1<|.gO a2<|.call c1<|.no<|.gO a1<|.gO a2<|.call c2<|.no<|.gO a1<|.gO a2<|.call c3<|.no<|.no<|.gO a1<|.gO a2<|.call c4<|.no<|.gO a1<|.gO a2<|.call c5<|.no<|.gO a1<|.gO a2<|.call c6<|.no<|.call (Qks (d:=d) h e e2 u n1 n8 l1 l2)<|.nil) (by kernel_rfl)
end
noncomputable def Qnx (kd s:List Nat):Prop:=(kd=kS/\s=[33])∨(kd=kN/\(s=[95]∨s=[117,56]∨s=[98,111,111,108]∨s=[80]))
theorem QgJ {d:Nat}{σ:List O}{i j r:Nat}{rows:List V}{p:Nat}(h:W σ i j r rows p 0)
  {kd s:List Nat}{q:Nat}(e:rows[p]?=some (tk kd s q)) {kd2 s2:List Nat}{q2:Nat}(e2:rows[p+1]?=some (tk kd2 s2 q2))
  (t:Qnx kd s) (l1:lk kd2 s2 [58,58]=false) (l2:lk kd2 s2 [60]=false):
  Qf1 (Qab cL (d+7) (.fn 15) [.ref i]) σ i j r rows (p+1) 0 (tyV s q):=by
 have h1:=h.set p (0+1)
 have sh:∃ σ1,And3 (Qab cL (d+6) (.fn 16) [.ref i] (σ.set j (wd r p (0+1)))=.ok (tyV s q) σ1) (W σ1 i j r rows (p+1) 1) (Keep j σ σ1):=by
  have k1:Keep j σ ((σ.set j (wd r p (0+1))).set j (wd r (p+1) 1)):=(Keep.set j _ σ).trans (Keep.set j _ _)
  rcases t with ⟨rfl,rfl⟩ | ⟨rfl,rfl | t⟩
  ·exact ⟨_,QlH h1 e ⟨rfl,rfl,rfl,rfl⟩ _ (.inl ⟨rfl,rfl⟩) rfl,h1.set _ _,k1⟩
  ·exact ⟨_,QlH h1 e ⟨rfl,rfl,rfl,rfl⟩ _ (.inr ⟨rfl,rfl,rfl⟩) rfl,h1.set _ _,k1⟩
  ·have kk:=k1.trans (Keep.app j _ [.list [.tup [.str s,.tup [],.tup []]]])
   refine ⟨_,?_,(h1.set (p+1) (0+1)).app _,kk⟩
   clear kk k1;rcases t with rfl | rfl | rfl<;>exact Qoh h1 e e2 (λ x=>rfl) ⟨rfl,rfl,rfl,rfl,rfl,rfl⟩ rfl rfl rfl l1 l2
 refine byK λ Pz kz=>?_;obtain ⟨σ1,e3,h3,k3⟩:=sh
 refine kz ?_;refine ⟨σ1.set j (wd r (p+1) 0),?_,h3.set _ _,k3.trans (Keep.set ..)⟩
 have c1:=Qfp (d:=d+5) h (by decide)
 have c2:=QeR (d:=d+5) h3
 rw [show (1:Int) - 1=0 from rfl] at c2
 generalize σ.set j (wd r p (0+1))=σ0 at *
 generalize σ1.set j (wd r (p+1) 0)=σ2 at *
 generalize tyV s q=y at *
 exact QaC (.gO (h.gi)<|.gO (h.gj)<|.call c1<|.call e3<|.gO (h3.gi)<|.gO (h3.gj)<|.call c2<|.nil) (by kernel_rfl)
theorem Qg2 {d:Nat}{σ:List O}{i j r:Nat}{rows:List V}{p:Nat}(h:W σ i j r rows p 0)
  {kd s:List Nat}{q:Nat}(e:rows[p]?=some (tk kd s q)) (t:kd=kS) (t2:s=[59]):
  Qdu (Qab cL (d+7) (.fn 15) [.ref i]) σ j NAMEM q:=by
 subst t t2
 have h1:=h.set p (0+1)
 refine ⟨_,?_,Keep.set j (wd r p (0+1)) σ⟩
 have c1:=Qfp (d:=d+5) h (by decide)
 generalize σ.set j (wd r p (0+1))=σ0 at *
 exact Qcz (.gO (h.gi)<|.gO (h.gj)<|.call c1<|.nil) (Qoi (d:=d) h1 e (λ _=>rfl) ⟨rfl,rfl,rfl,rfl,rfl,rfl⟩ rfl) (by kernel_rfl)
end
section
open PySem
noncomputable def PUBM:List Nat:=[112,117,98,32,99,97,110,110,111,116,32,115,116,97,110,100,32,104,101,114,101]
noncomputable def PUB:List Nat:=[112,117,98]
theorem Qah (l:List V) (n:l.length<=1000000) (σ:List O):QaQ l σ=.ok (.ref σ.length) (σ++[.list l]):=by
 rw [QaQ];refine (if_pos (show l.length<=cap from n)).substr ?_;rfl
theorem QaX (σ:List O) (o:O):getO σ.length (σ++[o])=.ok o (σ++[o]):=Qac (by simp)
section
variable {d:Nat}{σ:List O}{i j r:Nat}{rows:List V}{p:Nat}{dp:Int}(h:W σ i j r rows p dp)
include h
variable {kd s:List Nat}{q:Nat}(e:rows[p]?=some (tk kd s q))
include e
theorem QmE (b:V) (l:lk kd s PUB=false):Qab cL (d+3) (.fn 23) [.ref i,b] σ=.ok (.bool false) σ:=by
 exact QaC (.gO (h.gi)<|.gO (h.gj)<|.call (Qad (d:=d) h e PUB)<|.ask (nT l)<|.nil) (by kernel_rfl)
theorem QgK (l:lk kd s PUB=true):Qab cL (d+3) (.fn 23) [.ref i,.bool false] σ=.exc (.str PUBM) (.int q) σ:=by
 have a1:=h.gi
 exact Qif (.gO a1<|.gO (h.gj)<|.call (Qad (d:=d) h e PUB)<|.ask (nF l)<|.yes<|.gO a1<|.gO (h.gj)<|.call (QaW (d:=d+1) h e)<|.val (V.int ↑q)<|.nil) (by kernel_rfl)
theorem QmD (l:lk kd s PUB=true) (n:(kd==kE)=false):Qab cL (d+3) (.fn 23) [.ref i,.bool true] σ=.ok (.bool true) (σ.set j (wd r (p+1) dp)):=by
 exact QaC (.gO (h.gi)<|.gO (h.gj)<|.call (Qad (d:=d) h e PUB)<|.ask (nF l)<|.no<|.gO (h.gi)<|.gO (h.gj)<|.call (QbJ (d:=d) h e n)<|.nil) (by kernel_rfl)
theorem QiH (b:Bool) (u:(kd==kS&&s.take 1==[62])=b) (len:s.length<=1000000):Qab cL (d+2) (.fn 20) [.ref i] σ=.ok (.bool b) σ:=by
 have u4:QaG s none (some 1)=s.take 1:=rfl
 subst u
 cases b:(kd==kS)
 ·exact QaC (.gO (h.gi)<|.gO (h.gj)<|.call (QaW (d:=d) h e)<|.val (V.str kd)<|.sub (m:=QaJ .eq (.str kd) (.str kS)) (congrFun rfl _)<|.ask b<|.nil) (by refine b.substr ?_;kernel_rfl)
 ·exact QaC (.gO (h.gi)<|.gO (h.gj)<|.call (QaW (d:=d) h e)<|.val (V.str kd)<|.sub (m:=QaJ .eq (.str kd) (.str kS)) (congrFun rfl _)<|.ask b<|.val (V.str s)<|.yes<|.sub (Qev u4 (by simp;lia))<|.val (V.bool (s.take 1==[62]))<|.nil) (by kernel_rfl)
end
end
section
open PySem
theorem QqF {t:Env->M Bool}{b:X}{ρ:Env}:Qat t b cL.W ρ=M.bind (t ρ) λ c=>if c then M.bind (b ρ) λ p=>(match p.1 with
  | .next=>Qat t b 1999 p.2
  | .brk=>M.ret (.next,p.2)
  | .ret _=>M.ret p) else M.ret (.next,ρ):=by
 refine (show cL.W=1999+1 from rfl).substr ?_;refine whl1.substr ?_;rfl
section
variable {d:Nat}{σ:List O}{i j r:Nat}{rows:List V}{p:Nat}{dp:Int}(h:W σ i j r rows p dp)
include h
theorem Qkr {q:Nat}(e:rows[p]?=some (tk kS [62] q)):Qab cL (d+2) (.fn 68) [.ref i] σ=.ok (tk kS [62] q) (σ.set j (wd r (p+1) dp)):=by
 have a1:=h.gi
 have a2:=h.gj
 have u3:QaJ .ne (.str kS) (.str [115,105,103,110])=M.ret (.bool false):=rfl
 exact QaC (.gO a1<|.gO a2<|.call (QaW (d:=d) h e)<|.val (V.str kS)<|.sub (congrFun u3 _)<|.no<|.val (V.str [62])<|.yes<|.val (V.str (QaG [62] none (some 1)))<|.val (V.bool false)<|.no<|.no<|.val (V.str [62])<|.val (V.bool true)<|.yes<|.sub (QbK (a:=1) (Qaa a1) (Qaa a2) rfl)<|.val (V.int ((↑p:Int)+1))<|.subU (QdW (a:=1) (u:=V.int ((↑p:Int)+1)) (Qaa a1) (Qaa a2) rfl)<|.val (V.int ↑q)<|.nil) (by kernel_rfl)
variable {q:Nat}(e:rows[p]?=some (tk kN [88] q)) {q2:Nat}(e2:rows[p+1]?=some (tk kS [62] q2))
include e e2
theorem Qkt:Qab cL (d+3) (.fn 22) [.ref i] σ=.ok (.tup [.str [88],.tup []]) (σ.set j (wd r (p+1) dp)++[.list []]):=by
 have c:=QcK (d:=d) h e rfl rfl
 have h1:=(h.set (p+1) dp).app [.list []]
 have u1:=Qah [] (by simp) (σ.set j (wd r (p+1) dp))
 have u2:=QaX (σ.set j (wd r (p+1) dp)) (.list [])
 generalize σ.set j (wd r (p+1) dp)=σ1 at *
 generalize hs:σ1++[.list []]=σ2 at *
 exact QaC (.gO (h.gi)<|.gO (h.gj)<|.call c<|.val (V.str [88])<|.sub u1<|.gO (h1.gi)<|.gO (h1.gj)<|.call (Qad (d:=d) h1 e2 [58])<|.no<|.sub (QbI (Qaa u2) (Nat.le_of_ble_eq_true rfl))<|.nil) (by kernel_rfl)
end
theorem Qc3 {d:Nat}{σ:List O}{i j r:Nat}{rows:List V}{p:Nat}{dp:Int}(h:W σ i j r rows p dp)
  {kd s:List Nat}{q:Nat}(e:rows[p]?=some (tk kd s q)) (l:lk kd s [60]=false):Qab cL (d+3) (.fn 21) [.ref i] σ=.ok (.tup [.tup [],.tup []]) σ:=by
 have a1:=h.gi
 have a2:=h.gj
 have c:=Qad (d:=d) h e [60]
 exact QaC (.gO a1<|.gO a2<|.call c<|.ask (nT l)<|.nil) (by kernel_rfl)
structure WF (σ:List O) (i j r:Nat) (f:Nat) (l:List V):Prop where
 e:σ[f]?=some (.list l)
 fi:f≠i
 fj:f≠j
 fr:f≠r
theorem WF.g {σ i j r f l}(x:WF σ i j r f l):getO f σ=.ok (.list l) σ:=Qac x.e
theorem WF.s {σ i j r f l}(x:WF σ i j r f l) (o):Qcg f o σ=.ok () (σ.set f o):=Qai x.e o
theorem WF.keep {σ σ' i j r f l}(x:WF σ i j r f l) (k:Keep j σ σ'):WF σ' i j r f l:=⟨k.get x.fj x.e,x.fi,x.fj,x.fr⟩
theorem WF.set {σ i j r f l}(x:WF σ i j r f l) (l'):WF (σ.set f (.list l')) i j r f l':=⟨List.getElem?_set_self (List.getElem?_eq_some_iff.mp x.e).1,x.fi,x.fj,x.fr⟩
theorem WF.setNe {σ i j r f l g}(x:WF σ i j r f l) (n:g≠f) (o):WF (σ.set g o) i j r f l:=⟨by exact (List.getElem?_set_ne n).trans x.e,x.fi,x.fj,x.fr⟩
theorem W.lt {σ i j r rows p dp}(h:W σ i j r rows p dp):i<σ.length/\j<σ.length/\r<σ.length:=
 ⟨(List.getElem?_eq_some_iff.mp h.wi).1,(List.getElem?_eq_some_iff.mp h.wj).1,(List.getElem?_eq_some_iff.mp h.wr).1⟩
theorem WF.new {σ i j r rows p dp}(h:W σ i j r rows p dp) (l):WF (σ++[.list l]) i j r σ.length l:=by
 have:=h.lt
 exact ⟨by simp,by lia,by lia,by lia⟩
theorem Keep.setNew {j σ0 σ f o}(k:Keep j σ0 σ) (n:σ0.length<=f):Keep j σ0 (σ.set f o):=
 ⟨by simp;exact k.1,λ a b c=>by exact (List.getElem?_set_ne (by lia)).trans (k.2 a b c)⟩
theorem QeU {d:Nat}{σ:List O}{i j r:Nat}{rows:List V}{p:Nat}{dp:Int}(h:W σ i j r rows p dp)
  {q0:Nat}(e0:rows[p]?=some (tk kS [60] q0)) {q1:Nat}(e1:rows[p+1]?=some (tk kN [88] q1)) {q2:Nat}(e2:rows[p+1+1]?=some (tk kS [62] q2)):
  Qf1 (Qab cL (d+4) (.fn 21) [.ref i]) σ i j r rows (p+1+1+1) dp (.tup [.tup [],.tup [.tup [.str [88],.tup []]]]):=by
 have h1:=h.set (p+1) dp
 have k1:=Keep.set j (wd r (p+1) dp) σ
 have c1:=QbJ (d:=d+1) h e0 rfl
 generalize σ.set j (wd r (p+1) dp)=σ1 at *
 have n1:=Qah [] (by simp) σ1
 have f1:=WF.new h1 []
 have h2:=h1.app [.list []]
 have k2:=Keep.app j σ1 [.list []]
 have l2:(σ1++[O.list []]).length=σ1.length+1:=by simp
 generalize σ1++[.list []]=σ2 at *
 have n2:=Qah [] (by simp) σ2
 have f2:=WF.new h2 []
 have h3:=h2.app [.list []]
 have f1:=f1.keep (Keep.app j σ2 [.list []])
 have k2:=k2.trans (Keep.app j σ2 [.list []])
 generalize σ2++[.list []]=σ3 at *
 have c4:=Qkt (d:=d) h3 e1 e2
 have h4:=(h3.set (p+1+1) dp).app [.list []]
 have k3:=(Keep.set j (wd r (p+1+1) dp) σ3).trans (Keep.app j _ [.list []])
 have gf2:=f2.g
 generalize σ3.set j (wd r (p+1+1) dp)++[.list []]=σ4 at *
 have f1:=f1.keep k3
 have f2:=f2.keep k3
 have gf3:=f2.g
 have sf3:=f2.s (.list [.tup [.str [88],.tup []]])
 have k4:=(k2.trans k3).setNew (f:=σ2.length) (o:=.list [.tup [.str [88],.tup []]]) (by simp_all)
 have h5:=h4.setK σ2.length (.list [.tup [.str [88],.tup []]]) f2.fi f2.fj f2.fr
 have f1:=f1.setNe (g:=σ2.length) (by simp_all) (.list [.tup [.str [88],.tup []]])
 have f2:=f2.set [.tup [.str [88],.tup []]]
 generalize σ4.set σ2.length (.list [.tup [.str [88],.tup []]])=σ5 at *
 have c6:=Qkr (d:=d+1) h5 e2
 have h6:=h5.set (p+1+1+1) dp
 have k5:=Keep.set j (wd r (p+1+1+1) dp) σ5
 generalize σ5.set j (wd r (p+1+1+1) dp)=σ6 at *
 refine ⟨σ6,?_,h6,k1.trans (k4.trans k5)⟩
 have L:ex cL (Qab cL (d+3)) 20 20 (.whl (.not (.call (.glob 20) [.loc 0])) B21) [some (.ref i),some (.ref σ1.length),some (.ref σ2.length),none,none,none,none,none] σ3=
   .ok (.next,[some (.ref i),some (.ref σ1.length),some (.ref σ2.length),none,none,none,none,none]) σ5:=by
  refine Qn8 rfl (Qh4 (.call (QiH (d:=d+1) h3 e1 false rfl (by decide)) .nil) (by kernel_rfl)) ?_
  exact Qbl (.gO (h3.gi)<|.gO (h3.gj)<|.call (QaW (d:=d+2) h3 e1)<|.val (V.str kN)<|.val (V.bool false)<|.no<|.gO gf2<|.call c4<|.sub (Qak (y:=V.tup [V.str [88],V.tup []]) (Qaa gf3) sf3 (Nat.le_of_ble_eq_true rfl))<|.gO (h5.gi)<|.gO (h5.gj)<|.call (Qad (d:=d+1) h5 e2 [44])<|.yes<|.nil) (by kernel_rfl)
 exact QaC (.gO (h.gi)<|.gO (h.gj)<|.call (Qad (d:=d+1) h e0 [60])<|.no<|.gO (h.gi)<|.gO (h.gj)<|.call c1<|.sub n1<|.sub n2<|.subX L<|.gO (h5.gi)<|.gO (h5.gj)<|.call c6<|.sub (QbI (Qaa ((f1.keep k5).g)) (Nat.le_of_ble_eq_true rfl))<|.sub (QbI (Qaa ((f2.keep k5).g)) (Nat.le_of_ble_eq_true rfl))<|.nil) (by kernel_rfl)
end
section
open PySem
noncomputable def COLON:List Nat:=[58]
noncomputable def COMMA:List Nat:=[44]
noncomputable def SEMI:List Nat:=[59]
noncomputable def MISS:List Nat:=[32,105,115,32,109,105,115,115,105,110,103]
structure PI (σ0 σ:List O) (i j r:Nat) (rows:List V) (p:Nat) (f:Nat) (l:List V):Prop where
 hw:W σ i j r rows p 0
 hf:WF σ i j r f l
 hk:Keep j σ0 σ
 hn:σ0.length<=f
theorem QbV {d:Nat}{σ:List O}{i j r:Nat}{rows:List V}{p:Nat}{dp:Int}(h:W σ i j r rows p dp) {kd s:List Nat}{q:Nat}(e:rows[p]?=some (tk kd s q))
  (b il:Bool) (l:lk kd s PUB=b) (n:(kd==kE)=false) (bl:b=true->il=true) {Z:Prop}(k0:∀ σ1,(Qab cL (d+3) (.fn 23) [.ref i,.bool il] σ=.ok (.bool b) σ1)->(W σ1 i j r rows (p+if b then 1 else 0) dp)->Keep j σ σ1->Z):Z:=by
 cases b
 ·exact k0 _ (QmE h e _ l) h (.refl ..)
 ·obtain rfl:=bl rfl;exact k0 _ (QmD h e l n) (h.set _ _) (.set ..)
theorem PI.app {σ0 σ i j r rows p f l}(x:PI σ0 σ i j r rows p f l) (l'):PI σ0 (σ.set f (.list l')) i j r rows p f l':=
 ⟨x.hw.setK f _ x.hf.fi x.hf.fj x.hf.fr,x.hf.set _,x.hk.setNew x.hn,x.hn⟩
theorem PI.step {σ0 σ σ' i j r rows p p' f l}(x:PI σ0 σ i j r rows p f l) (h:W σ' i j r rows p' 0) (k:Keep j σ σ'):PI σ0 σ' i j r rows p' f l:=
 ⟨h,x.hf.keep k,x.hk.trans k,x.hn⟩
section
variable {d:Nat}{σ0 σ:List O}{i j r:Nat}{rows:List V}{p f:Nat}{l:List V}(x:PI σ0 σ i j r rows p f l)
include x
theorem b27 (il b:Bool) (o3 o4:Option V) {kd s:List Nat}{q:Nat}(e:rows[p]?=some (tk kd s q)) (lp:lk kd s PUB=b) (n:(kd==kE)=false) (bl:b=true->il=true)
  {p1:Nat}(hp1:p+(if b then 1 else 0)=p1) {nm:List Nat}{qn:Nat}(en:rows[p1]?=some (tk kN nm qn)) (nn:QaJ .in (.str nm) G1=M.ret (.bool false))
  {qc:Nat}(ec:rows[p1+1]?=some (tk kS COLON qc)) {kt ty:List Nat}{qt:Nat}(et:rows[p1+1+1]?=some (tk kt ty qt)) (t:Qnx kt ty)
  {k2 s2:List Nat}{q2:Nat}(e2:rows[p1+1+1+1]?=some (tk k2 s2 q2)) (l1:lk k2 s2 [58,58]=false) (l2:lk k2 s2 [60]=false) (n2:(k2==kE)=false) (z:Bool) (hz:lk k2 s2 COMMA=z) (len:l.length<=1000) {Z:Prop}(k0:∀ σ',Qau (ex cL (Qab cL (d+7)) 20 19) B27 [some (.ref i),some (.bool il),some (.ref f),o3,o4,none,none,none] σ=.ok (if z then .next else .brk,[some (.ref i),some (.bool il),some (.ref f),some (.bool b),some (.str nm),none,none,none]) σ'->PI σ0 σ' i j r rows (p1+1+1+1+if z then 1 else 0) f (l++[.tup [.str nm,tyV ty qt,.bool b]])->Z):Z:=by
 refine QbV (d:=d+4) x.hw e b il lp n bl λ σ1 c1 h1 k1=>?_
 replace h1:=hp1▸h1
 have x1:=x.step h1 k1
 have c2:=QcK (d:=d+5) h1 en rfl nn
 have h2:=h1.set (p1+1) 0
 have k2':=Keep.set j (wd r (p1+1) 0) σ1
 have x2:=x1.step h2 k2'
 have c3:=Qay (d:=d+4) h2 ec COLON rfl rfl
 have h3:=h2.set (p1+1+1) 0
 have x3:=x2.step h3 (Keep.set j _ _)
 have g1:=h1.gi
 have g2:=h1.gj
 have g3:=h2.gi
 have g4:=h2.gj
 generalize (σ1.set j (wd r (p1+1) 0)).set j (wd r (p1+1+1) 0)=σ3 at *
 generalize σ1.set j (wd r (p1+1) 0)=σ2 at *
 obtain ⟨σ4,c4,h4,k4⟩:=QgJ (d:=d) h3 et e2 t l1 l2
 have x4:=x3.step h4 k4
 have f3:=x3.hf.g
 have f4:=x4.hf.g
 have f5:=x4.hf.s (.list (l++[.tup [.str nm,tyV ty qt,.bool b]]))
 have x5:=x4.app (l++[.tup [.str nm,tyV ty qt,.bool b]])
 generalize σ4.set f (.list (l++[.tup [.str nm,tyV ty qt,.bool b]]))=σ5 at *
 have c5:=Qad (d:=d+5) x5.hw e2 COMMA
 have g5:=x5.hw.gi
 have g6:=x5.hw.gj
 have c6:=QbJ (d:=d+5) x5.hw e2 n2
 have x6:=x5.step (x5.hw.set (p1+1+1+1+1) 0) (Keep.set j _ _)
 generalize σ5.set j (wd r (p1+1+1+1+1) 0)=σ6 at *
 have ln:l.length<=1000000:=by lia
 generalize tyV ty qt=y at *
 rw [hz] at c5
 refine k0 (if z then σ6 else σ5) ?_ ?_
 ·
  cases z<;>(first | exact Qbl (.call c1<|.gO g1<|.gO g2<|.call c2<|.val (V.str nm)<|.gO g3<|.gO g4<|.call c3<|.gO f3<|.call c4<|.sub (Qak (y:=V.tup [V.str nm,y,V.bool b]) (Qaa f4) f5 ln)<|.gO g5<|.gO g6<|.call c5<|.yes<|.nil) (by kernel_rfl) | exact Qbl (.call c1<|.gO g1<|.gO g2<|.call c2<|.val (V.str nm)<|.gO g3<|.gO g4<|.call c3<|.gO f3<|.call c4<|.sub (Qak (y:=V.tup [V.str nm,y,V.bool b]) (Qaa f4) f5 ln)<|.gO g5<|.gO g6<|.call c5<|.no<|.gO g5<|.gO g6<|.call c6<|.nil) (by kernel_rfl))
 ·clear f5 c4 ln c6 g6 g5 c5 f4 f3 x4 k4 h4 c3 g4 g3 x2 k2' h2 c2 x3 h3 g2 g1 x1 k1 h1 c1 len hz n2 l2 l1 e2 t et ec nn en hp1 bl n lp e x;cases z
  ·exact x5
  ·exact x6
end
end
section
open PySem
noncomputable def COLONM:List Nat:=COLON++MISS
section
variable {d:Nat}{σ:List O}{i j r:Nat}{rows:List V}{p f:Nat}{dp:Int}
theorem Qk7 {il b:Bool}(h:(b&&!il)=true) (x:W σ i j r rows p dp) (o3 o4:Option V) {kd s:List Nat}{q:Nat}(e:rows[p]?=some (tk kd s q)) (lp:lk kd s PUB=b):
  Qdu (Qau (ex cL (Qab cL (d+7)) 20 19) B27 [some (.ref i),some (.bool il),some (.ref f),o3,o4,none,none,none]) σ j PUBM q:=by
 obtain ⟨rfl,h⟩:=Bool.and_eq_true_iff.mp h
 obtain rfl:=(Bool.not_eq_true' _).mp h
 refine ⟨σ,?_,.refl ..⟩
 exact Qct (.nil) (QgK (d:=d+4) x e lp) (by kernel_rfl)
theorem QfO (x:W σ i j r rows p dp) (il b:Bool) (o3 o4:Option V) {kd s:List Nat}{q:Nat}(e:rows[p]?=some (tk kd s q)) (lp:lk kd s PUB=b) (n:(kd==kE)=false) (bl:b=true->il=true)
  {p1:Nat}(hp1:p+(if b then 1 else 0)=p1) {kn nm:List Nat}{qn:Nat}(en:rows[p1]?=some (tk kn nm qn)) (nn:(kn==kN)=false∨(kn=kN/\QaJ .in (.str nm) G1=M.ret (.bool true))):
  Qdu (Qau (ex cL (Qab cL (d+7)) 20 19) B27 [some (.ref i),some (.bool il),some (.ref f),o3,o4,none,none,none]) σ j NAMEM qn:=by
 refine byK λ Pz kz=>?_;refine QbV (d:=d+4) x e b il lp n bl λ σ1 c1 h1 k1=>?_
 replace h1:=hp1▸h1
 refine kz ?_;refine ⟨σ1,?_,k1⟩
 have c2:Qab cL (d+7) (.fn 67) [.ref i] σ1=.exc (.str NAMEM) (.int qn) σ1:=by
  rcases nn with u | ⟨u,u2⟩
  ·exact Qg6 (d:=d+5) h1 en u
  ·exact Qg5 (d:=d+5) h1 en u u2
 exact Qct (.call c1<|.gO (h1.gi)<|.gO (h1.gj)<|.nil) c2 (by kernel_rfl)
theorem QhS (x:W σ i j r rows p dp) (il b:Bool) (o3 o4:Option V) {kd s:List Nat}{q:Nat}(e:rows[p]?=some (tk kd s q)) (lp:lk kd s PUB=b) (n:(kd==kE)=false) (bl:b=true->il=true)
  {p1:Nat}(hp1:p+(if b then 1 else 0)=p1) {nm:List Nat}{qn:Nat}(en:rows[p1]?=some (tk kN nm qn)) (nn:QaJ .in (.str nm) G1=M.ret (.bool false))
  {kc sc:List Nat}{qc:Nat}(ec:rows[p1+1]?=some (tk kc sc qc)) (lc:lk kc sc COLON=false):
  Qdu (Qau (ex cL (Qab cL (d+7)) 20 19) B27 [some (.ref i),some (.bool il),some (.ref f),o3,o4,none,none,none]) σ j COLONM qc:=by
 refine byK λ Pz kz=>?_;refine QbV (d:=d+4) x e b il lp n bl λ σ1 c1 h1 k1=>?_
 replace h1:=hp1▸h1
 have c2:=QcK (d:=d+5) h1 en rfl nn
 have h2:=h1.set (p1+1) dp
 refine kz ?_;refine ⟨_,?_,k1.trans (Keep.set j (wd r (p1+1) dp) σ1)⟩
 generalize σ1.set j (wd r (p1+1) dp)=σ2 at *
 exact Qct (.call c1<|.gO (h1.gi)<|.gO (h1.gj)<|.call c2<|.val (V.str nm)<|.gO (h2.gi)<|.gO (h2.gj)<|.nil) (Qca (d:=d+4) h2 ec COLON (by decide) lc) (by kernel_rfl)
theorem Qi5 (x:W σ i j r rows p 0) (fx:WF σ i j r f l) (il b:Bool) (o3 o4:Option V) {kd s:List Nat}{q:Nat}(e:rows[p]?=some (tk kd s q)) (lp:lk kd s PUB=b) (n:(kd==kE)=false) (bl:b=true->il=true)
  {p1:Nat}(hp1:p+(if b then 1 else 0)=p1) {nm:List Nat}{qn:Nat}(en:rows[p1]?=some (tk kN nm qn)) (nn:QaJ .in (.str nm) G1=M.ret (.bool false))
  {qc:Nat}(ec:rows[p1+1]?=some (tk kS COLON qc)) {qt:Nat}(et:rows[p1+1+1]?=some (tk kS SEMI qt)):
  Qdu (Qau (ex cL (Qab cL (d+7)) 20 19) B27 [some (.ref i),some (.bool il),some (.ref f),o3,o4,none,none,none]) σ j NAMEM qt:=by
 refine byK λ Pz kz=>?_;refine QbV (d:=d+4) x e b il lp n bl λ σ1 c1 h1 k1=>?_
 replace h1:=hp1▸h1
 have c2:=QcK (d:=d+5) h1 en rfl nn
 have h2:=h1.set (p1+1) 0
 have c3:=Qay (d:=d+4) h2 ec COLON rfl rfl
 have k3:=(k1.trans (Keep.set j (wd r (p1+1) 0) σ1)).trans (Keep.set j (wd r (p1+1+1) 0) _)
 obtain ⟨σ4,c4,k4⟩:=Qg2 (d:=d) (h2.set (p1+1+1) 0) et rfl rfl
 refine kz ?_;generalize (σ1.set j (wd r (p1+1) 0)).set j (wd r (p1+1+1) 0)=σ3 at *
 generalize σ1.set j (wd r (p1+1) 0)=σ2 at *
 refine ⟨σ4,?_,k3.trans k4⟩
 exact Qct (.call c1<|.gO (h1.gi)<|.gO (h1.gj)<|.call c2<|.val (V.str nm)<|.gO (h2.gi)<|.gO (h2.gj)<|.call c3<|.gO ((fx.keep k3).g)<|.nil) c4 (by kernel_rfl)
end
section
variable {d:Nat}{σ0 σ:List O}{i j r:Nat}{rows:List V}{p f:Nat}{l:List V}(x:PI σ0 σ i j r rows p f l)
include x
theorem b28 (il b:Bool) (o3:Option V) {kd s:List Nat}{q:Nat}(e:rows[p]?=some (tk kd s q)) (lp:lk kd s PUB=b) (n:(kd==kE)=false) (bl:b=true->il=true)
  {p1:Nat}(hp1:p+(if b then 1 else 0)=p1) {kt ty:List Nat}{qt:Nat}(et:rows[p1]?=some (tk kt ty qt)) (t:Qnx kt ty)
  {k2 s2:List Nat}{q2:Nat}(e2:rows[p1+1]?=some (tk k2 s2 q2)) (l1:lk k2 s2 [58,58]=false) (l2:lk k2 s2 [60]=false) (n2:(k2==kE)=false) (z:Bool) (hz:lk k2 s2 COMMA=z) (len:l.length<=100) {Z:Prop}(k0:∀ σ',Qau (ex cL (Qab cL (d+7)) 20 19) B28 [some (.ref i),some (.bool il),some (.ref f),o3,none,none,none,none,none] σ=.ok (if z then .next else .brk,[some (.ref i),some (.bool il),some (.ref f),some (.bool b),none,none,none,none,none]) σ'->PI σ0 σ' i j r rows (p1+1+if z then 1 else 0) f (l++[.tup [.str (Qeu l.length),tyV ty qt,.bool b]])->Z):Z:=by
 refine QbV (d:=d+4) x.hw e b il lp n bl λ σ1 c1 h3 k1=>?_
 replace h3:=hp1▸h3
 have x3:=x.step h3 k1
 obtain ⟨σ4,c4,h4,k4⟩:=QgJ (d:=d) h3 et e2 t l1 l2
 have x4:=x3.step h4 k4
 have f3:=x3.hf.g
 have f4:=x4.hf.g
 have f5:=x4.hf.s (.list (l++[.tup [.str (Qeu l.length),tyV ty qt,.bool b]]))
 have x5:=x4.app (l++[.tup [.str (Qeu l.length),tyV ty qt,.bool b]])
 generalize σ4.set f (.list (l++[.tup [.str (Qeu l.length),tyV ty qt,.bool b]]))=σ5 at *
 have c5:=Qad (d:=d+5) x5.hw e2 COMMA
 have g5:=x5.hw.gi
 have g6:=x5.hw.gj
 have c6:=QbJ (d:=d+5) x5.hw e2 n2
 have x6:=x5.step (x5.hw.set (p1+1+1) 0) (Keep.set j _ _)
 generalize σ5.set j (wd r (p1+1+1) 0)=σ6 at *
 have v1:cL.gv 23=some (.fn 23):=rfl
 have v2:cL.gv 15=some (.fn 15):=rfl
 have ln:l.length<=1000000:=by lia
 have ln2:(l.length:Int)<1000:=by lia
 generalize tyV ty qt=y at *
 rw [hz] at c5
 refine k0 (if z then σ6 else σ5) ?_ ?_
 ·cases z
  ·exact Qbl (.call c1<|.gO f3<|.sub (Qbj (Qaa f3) ln)<|.sub (Qdv (i:=(l.length:Int)) ⟨Int.natCast_nonneg _,ln2⟩)<|.call c4<|.sub (Qak (y:=.tup [.str (Qeu (l.length:Int)),y,.bool b]) (Qaa f4) f5 ln)<|.gO g5<|.gO g6<|.call c5<|.yes<|.nil) (by kernel_rfl)
  ·exact Qbl (.call c1<|.gO f3<|.sub (Qbj (Qaa f3) ln)<|.sub (Qdv (i:=(l.length:Int)) ⟨Int.natCast_nonneg _,ln2⟩)<|.call c4<|.sub (Qak (y:=.tup [.str (Qeu (l.length:Int)),y,.bool b]) (Qaa f4) f5 ln)<|.gO g5<|.gO g6<|.call c5<|.no<|.gO g5<|.gO g6<|.call c6<|.nil) (by kernel_rfl)
 ·clear f5 c4 ln2 ln v2 v1 c6 g6 g5 c5 f4 f3 x4 k4 h4 x3 k1 h3 c1 len hz n2 l2 l1 e2 t et hp1 bl n lp e x;cases z
  ·exact x5
  ·exact x6
omit x in
theorem Qk6 {il b:Bool}(h:(b&&!il)=true) (x:W σ i j r rows p dp) (o3:Option V) {kd s:List Nat}{q:Nat}(e:rows[p]?=some (tk kd s q)) (lp:lk kd s PUB=b):
  Qdu (Qau (ex cL (Qab cL (d+7)) 20 19) B28 [some (.ref i),some (.bool il),some (.ref f),o3,none,none,none,none,none]) σ j PUBM q:=by
 obtain ⟨rfl,h⟩:=Bool.and_eq_true_iff.mp h
 obtain rfl:=(Bool.not_eq_true' _).mp h
 refine ⟨σ,?_,.refl ..⟩
 have c:=QgK (d:=d+4) x e lp
 exact Qct (.nil) c (by kernel_rfl)
theorem QfN (il b:Bool) (o3:Option V) {kd s:List Nat}{q:Nat}(e:rows[p]?=some (tk kd s q)) (lp:lk kd s PUB=b) (n:(kd==kE)=false) (bl:b=true->il=true)
  {p1:Nat}(hp1:p+(if b then 1 else 0)=p1) {qt:Nat}(et:rows[p1]?=some (tk kS SEMI qt)) (len:l.length<=100):
  Qdu (Qau (ex cL (Qab cL (d+7)) 20 19) B28 [some (.ref i),some (.bool il),some (.ref f),o3,none,none,none,none,none]) σ j NAMEM qt:=by
 refine QbV (d:=d+4) x.hw e b il lp n bl λ σ1 c1 h3 k1=>?_
 replace h3:=hp1▸h3
 refine byK λ Pz kz=>?_;obtain ⟨σ4,c4,k4⟩:=Qg2 (d:=d) h3 et rfl rfl
 have ln:l.length<=1000000:=by lia
 refine kz ?_;refine ⟨σ4,?_,k1.trans k4⟩
 exact Qct (.call c1<|.gO ((x.step h3 k1).hf.g)<|.sub (Qbj (Qaa ((x.step h3 k1).hf.g)) ln)<|.sub (Qdv (i:=(↑l.length:Int)) (by lia))<|.nil) c4 (by kernel_rfl)
end
end
section
open PySem
noncomputable def FN:List Nat:=[102,110]
noncomputable def nmW (k:Nat):List Nat:=if k=0 then [97] else if k=1 then [98,49] else [95,99]
noncomputable def TYS:List (List Nat):=[[117,56],[98,111,111,108],[80],[33],[95]]
structure Fd where
 pub:Bool
 way:Nat
 ty:List Nat
noncomputable def SGN:List (List Nat):=[[123],[125],[40],[41],[58],[44],[59],[33],[60],[62],[45,62]]
noncomputable def Qbt (w:List Nat):List Nat:=if SGN.contains w then kS else kN
theorem kdE (w):(Qbt w==kE)=false:=by unfold Qbt;split<;>rfl
theorem lkd (w x):lk (Qbt w) w x=(w==x):=by unfold Qbt lk;split<;>simp [kS,kN]
noncomputable def Qa7 (rows:List V) (ws:List (List Nat)) (sp:Nat->Nat):Prop:=∀ p w,ws[p]?=some w->rows[p]?=some (tk (Qbt w) w (sp p))
theorem Qag {α}{ws t:List α}{p:Nat}(h:ws.drop p=t) (n:Nat):ws[p+n]?=t[n]?:=by simp only [<- h,List.getElem?_drop]
section
variable (nmd il cm:Bool) (cl en:List Nat)
noncomputable def Qch (k:Nat) (fd:Fd):List (List Nat):=(if fd.pub then [PUB] else [])++(if nmd then (if fd.way=0 then FN else nmW k)::(if fd.way=1 then [] else [COLON]) else [])
noncomputable def fTy (fd:Fd):List Nat:=if fd.way=2 then SEMI else fd.ty
noncomputable def Qdp (fd:Fd) (r:List Fd):Bool:=if r.isEmpty then cm else !(fd.way==3)
noncomputable def fW (k:Nat) (fd:Fd) (r:List Fd):List (List Nat):=Qch nmd k fd++fTy fd::(if Qdp cm fd r then [COMMA] else [])
noncomputable def fF (k p:Nat) (fd:Fd) (r:List Fd):List (Nat×List Nat):=
 (if fd.pub&&!il then [(p,PUBM)] else []) ++
 ((if nmd then (if fd.way=0 then [(p+(if fd.pub then 1 else 0),NAMEM)] else [])++(if fd.way=1 then [(p+(if fd.pub then 1 else 0)+1,COLONM)] else []) else []) ++
 ((if fd.way=2 then [(p+(Qch nmd k fd).length,NAMEM)] else []) ++
 (if !r.isEmpty&&fd.way==3 then [(p+(Qch nmd k fd).length+1,cl++MISS)] else [])))
noncomputable def gW:Nat->List Fd->List (List Nat)
 | _,[]=>[en]
 | k,fd::r=>fW nmd cm k fd r++gW (k+1) r
noncomputable def gF:Bool->Nat->Nat->List Fd->List (Nat×List Nat)
 | o,_,p,[]=>if en=SEMI then [(p,if o then NAMEM else cl++MISS)] else []
 | _,k,p,fd::r=>fF nmd il cl k p fd r++gF (Qdp cm fd r) (k+1) (p+(fW nmd cm k fd r).length) r
noncomputable def fR (k p:Nat) (fd:Fd):List Nat×Nat×Bool×List Nat:=(if nmd then nmW k else Qeu k,p+(Qch nmd k fd).length,fd.pub,fTy fd)
noncomputable def gR:Nat->Nat->List Fd->List (List Nat×Nat×Bool×List Nat)
 | _,_,[]=>[]
 | k,p,fd::r=>fR nmd k p fd::gR (k+1) (p+(fW nmd cm k fd r).length) r
end
theorem Qe3 (nmd cm:Bool) (en:List Nat) (k:Nat):gW nmd cm en k []=[en]:=rfl
theorem Qer (nmd cm:Bool) (en:List Nat) (k:Nat) (fd:Fd) (r:List Fd):gW nmd cm en k (fd::r)=fW nmd cm k fd r++gW nmd cm en (k+1) r:=rfl
theorem Qib (nmd il cm:Bool) (cl en:List Nat) (o:Bool) (k p:Nat):gF nmd il cm cl en o k p []=if en=SEMI then [(p,if o then NAMEM else cl++MISS)] else []:=rfl
theorem Qh5 (nmd il cm:Bool) (cl en:List Nat) (o:Bool) (k p:Nat) (fd:Fd) (r:List Fd):gF nmd il cm cl en o k p (fd::r)=fF nmd il cl k p fd r++gF nmd il cm cl en (Qdp cm fd r) (k+1) (p+(fW nmd cm k fd r).length) r:=rfl
theorem QjS (nmd cm:Bool) (k p:Nat):gR nmd cm k p []=[]:=rfl
theorem Qjg (nmd cm:Bool) (k p:Nat) (fd:Fd) (r:List Fd):gR nmd cm k p (fd::r)=fR nmd k p fd::gR nmd cm (k+1) (p+(fW nmd cm k fd r).length) r:=rfl
noncomputable def QcF (sp:Nat->Nat) (x:List Nat×Nat×Bool×List Nat):V:=.tup [.str x.1,tyV x.2.2.2 (sp x.2.1),.bool x.2.2.1]
noncomputable def okW (w:List Nat):Bool:=!(w==[58,58])&&!(w==[60])&&!(w==COMMA)
noncomputable def StepTo (cl:List Nat) (σ0:List O) (i j r:Nat) (rows:List V) (f:Nat) (IsEnv:Env->Prop) (sp:Nat->Nat) (res:RS (Fl×Env)) (q:List Fd) (sep:Bool) (p':Nat) (l:List V):List (Nat×List Nat)->Prop
 | []=>Ex2 λ ρ' σ'=>And3 (res=.ok (if sep then .next else .brk,ρ') σ') (IsEnv ρ') (PI σ0 σ' i j r rows p' f l)
 | (a,m)::_=>(∃ σ',res=.exc (.str m) (.int (sp a)) σ'/\Keep j σ0 σ') ∨
   (m=cl++MISS/\q≠[]/\a=p'/\Ex3 λ ρ' σ' l'=>And3 (res=.ok (.brk,ρ') σ') (IsEnv ρ') (PI σ0 σ' i j r rows a f l'))
noncomputable def Qnq (cl en:List Nat) (σ0:List O) (i j r:Nat) (rows:List V) (f:Nat) (IsEnv:Env->Prop) (ws:List (List Nat)) (sp:Nat->Nat) (res:RS (Fl×Env)) (p':Nat) (l:List V):List (Nat×List Nat)->Prop
 | []=>Ex2 λ ρ' σ'=>And4 (res=.ok (.next,ρ') σ') (IsEnv ρ') (PI σ0 σ' i j r rows p' f l) (en=cl)
 | (a,m)::_=>(∃ σ',res=.exc (.str m) (.int (sp a)) σ'/\Keep j σ0 σ') ∨
   (m=cl++MISS/\Ex4 λ ρ' σ' l' w=>And5 (res=.ok (.next,ρ') σ') (IsEnv ρ') (PI σ0 σ' i j r rows a f l') (ws[a]?=some w) ((w==cl)=false))
structure Reader (nmd il cm:Bool) (cl:List Nat) (σ0:List O) (i j r:Nat) (rows:List V) (f:Nat) (T:Env->M Bool) (B:X) (IsEnv:Env->Prop) (ws:List (List Nat)) (sp:Nat->Nat):Prop where
 test:∀ p l σ ρ w,IsEnv ρ->PI σ0 σ i j r rows p f l->ws[p]?=some w->T ρ σ=.ok (!(w==cl)) σ
 step:∀ k p l σ ρ fd q w2 rest,IsEnv ρ->PI σ0 σ i j r rows p f l->k<=2->l.length=k->fd.ty∈TYS->ws.drop p=fW nmd cm k fd q++w2::rest->okW w2=true →
  StepTo cl σ0 i j r rows f IsEnv sp (B ρ σ) q (Qdp cm fd q) (p+(fW nmd cm k fd q).length) (l++[QcF sp (fR nmd k p fd)]) (fF nmd il cl k p fd q)
 fin:∀ p l σ ρ,IsEnv ρ->PI σ0 σ i j r rows p f l->l.length<=3->ws[p]?=some SEMI->∃ σ',B ρ σ=.exc (.str NAMEM) (.int (sp p)) σ'/\Keep j σ0 σ'
theorem Qjz (nmd cm:Bool) (en:List Nat) (he:okW en=true):∀ (k:Nat) (fds:List Fd),(∀ fd∈fds,fd.ty∈TYS)->∀ {Z:Prop},(∀ w rest,gW nmd cm en k fds=w::rest->okW w=true->Z)->Z
 | k,[],_,_,k0=>k0 en [] rfl he
 | k,fd::r,ht,_,k0=>by
  have ty:okW (fTy fd)=true:=by
   unfold fTy;split
   ·rfl
   ·have:=ht fd (by simp);simp only [TYS,List.mem_cons,List.not_mem_nil,or_false] at this
    rcases this with h | h | h | h | h<;>rw [h]<;>rfl
  obtain ⟨pub,way,t⟩:=fd
  cases pub<;>cases nmd
  ·exact k0 _ _ rfl ty
  ·exact k0 _ _ rfl (by split;rfl;unfold nmW;split;rfl;split<;>rfl)
  ·exact k0 PUB _ rfl rfl
  ·exact k0 PUB _ rfl rfl
theorem Qbp {T:Env->M Bool}{B:X}{ρ σ n}(t:T ρ σ=.ok false σ):Qat T B (n+1) ρ σ=.ok (.next,ρ) σ:=by rw [whl1,QaM];refine t.substr ?_;rfl
theorem Qb5 {T:Env->M Bool}{B:X}{ρ σ n ρ' σ'}(t:T ρ σ=.ok true σ) (e:B ρ σ=.ok (.next,ρ') σ'):Qat T B (n+1) ρ σ=Qat T B n ρ' σ':=by
 simp only [whl1,QaM,t];simp;simp only [QaM,e]
theorem QgX {T:Env->M Bool}{B:X}{ρ σ n ρ' σ'}(t:T ρ σ=.ok true σ) (e:B ρ σ=.ok (.brk,ρ') σ'):Qat T B (n+1) ρ σ=.ok (.next,ρ') σ':=by
 simp only [whl1,QaM,t];simp;simp only [QaM,e];rfl
theorem QeC {T:Env->M Bool}{B:X}{ρ σ n m s σ'}(t:T ρ σ=.ok true σ) (e:B ρ σ=.exc m s σ'):Qat T B (n+1) ρ σ=.exc m s σ':=by
 simp only [whl1,QaM,t];simp;simp only [QaM,e]
theorem QdB {nmd il cm:Bool}{cl en:List Nat}{σ0:List O}{i j r:Nat}{rows:List V}{f:Nat}{T:Env->M Bool}{B:X}{IsEnv:Env->Prop}{ws:List (List Nat)}{sp:Nat->Nat}
  (R:Reader nmd il cm cl σ0 i j r rows f T B IsEnv ws sp) (he:en=cl∨en=SEMI) (ho:okW cl=true) (nc:cl≠SEMI) (post:List (List Nat))
  (hcl:∀ k fds,(∀ fd∈fds,fd.ty∈TYS)->fds≠[]->∀ w,(gW nmd cm en k fds).head?=some w->(w==cl)=false):
  ∀ (fds:List Fd) (k p:Nat) (l:List V) (σ:List O) (ρ:Env) (fuel:Nat),fds.length<fuel->k+fds.length<=3->(∀ fd∈fds,fd.ty∈TYS)->l.length=k →
   ws.drop p=gW nmd cm en k fds++post->IsEnv ρ->PI σ0 σ i j r rows p f l →
   Qnq cl en σ0 i j r rows f IsEnv ws sp (Qat T B fuel ρ σ) (p+(gW nmd cm en k fds).length - 1) (l++(gR nmd cm k p fds).map (QcF sp)) (gF nmd il cm cl en true k p fds)
 | [],k,p,l,σ,ρ,fuel,hf,hk,ht,hl,hw,hE,hP=>by
  obtain ⟨n,rfl⟩:∃ n,fuel=n+1:=⟨fuel - 1,by lia⟩
  have w0:ws[p]?=some en:=by have:=Qag hw 0;exact this
  have t:=R.test p l σ ρ en hE hP w0
  rcases he with rfl | rfl
  ·simp only [Qib,Qh5,if_neg nc,QjS,Qjg,Qe3,Qer,List.map_nil,List.append_nil,List.length_singleton]
   exact ⟨ρ,σ,Qbp (by simpa using t),hE,by exact hP,rfl⟩
  ·obtain ⟨σ',e,k'⟩:=R.fin p l σ ρ hE hP (by simp at hk;simp_all) w0
   have z:(SEMI==cl)=false:=by simpa using λ h=>nc h.symm
   rw [z] at t
   exact .inl ⟨σ',QeC t e,k'⟩
 | fd::q,k,p,l,σ,ρ,fuel,hf,hk,ht,hl,hw,hE,hP=>by
  obtain ⟨n,rfl⟩:∃ n,fuel=n+1:=⟨fuel - 1,by lia⟩
  have heo:okW en=true:=by rcases he with rfl | rfl;exact ho;rfl
  have ht':∀ x∈q,x.ty∈TYS:=λ x m=>ht x (by simp [m])
  refine Qjz nmd cm en heo (k+1) q ht' λ w2 rest g2 o2=>?_
  have hw':ws.drop p=fW nmd cm k fd q++w2::(rest++post):=by simp only [hw,Qe3,Qer,g2];simp
  have hwn:ws.drop (p+(fW nmd cm k fd q).length)=gW nmd cm en (k+1) q++post:=by
   simp only [<- List.drop_drop,hw,Qe3,Qer];simp
  refine Qjz nmd cm en heo k (fd::q) ht λ w1 r1 g1 _=>?_
  have w0:ws[p]?=some w1:=by have:=Qag hw 0;replace this:=g1▸this;exact this
  have t:=R.test p l σ ρ w1 hE hP w0
  replace t:=(hcl k (fd::q) ht (by simp) w1 (by refine g1.substr ?_;rfl))▸t
  have st:=R.step k p l σ ρ fd q w2 (rest++post) hE hP (by simp at hk;lia) hl (ht fd (by simp)) hw' o2
  simp only [Qib,Qh5]
  cases hF:fF nmd il cl k p fd q with
  | nil=>
   simp only [hF] at st
   obtain ⟨ρ',σ',e,hE',hP'⟩:=st
   cases hs:Qdp cm fd q with
   | true=>
    rw [hs] at e
    have ih:=QdB R he ho nc post hcl q (k+1) (p+(fW nmd cm k fd q).length) _ σ' ρ' n (by simp at hf;simp_all) (by simp at hk;lia) ht' (by simp [hl]) hwn hE' hP'
    refine (Qb5 t e).symm▸?_
    cases hG:gF nmd il cm cl en true (k+1) (p+(fW nmd cm k fd q).length) q with
    | nil=>
     simp only [hG] at ih
     obtain ⟨ρ2,σ2,e2,hE2,hP2,h2⟩:=ih
     refine ⟨ρ2,σ2,e2,hE2,?_,h2⟩
     simp only [<- (show p+(fW nmd cm k fd q).length+(gW nmd cm en (k+1) q).length - 1=p+(gW nmd cm en k (fd::q)).length - 1 from by simp only [Qer,List.length_append];lia),<- (show l++[QcF sp (fR nmd k p fd)]++(gR nmd cm (k+1) (p+(fW nmd cm k fd q).length) q).map (QcF sp)=l++(gR nmd cm k p (fd::q)).map (QcF sp) from by simp [Qjg])];exact hP2
    | cons x y=>simp only [hG] at ih;exact ih
   | false=>
    rw [hs] at e
    refine (QgX t e).substr ?_
    have qe:q=[]:=by
     cases q with
     | nil=>rfl
     | cons y z=>
      simp only [Qdp,List.isEmpty_cons,Bool.false_eq_true,if_false,Bool.not_eq_false',beq_iff_eq] at hs
      simp [fF,hs] at hF
    subst qe
    clear hs g1 hw' hf hw ht hk w0 o2 heo hP hE hl ho R;rcases he with rfl | rfl
    ·simp only [Qib,Qh5,if_neg nc]
     refine ⟨ρ',σ',rfl,hE',?_,rfl⟩
     simpa [Qe3,Qer,QjS,Qjg] using hP'
    ·
     exact .inr ⟨rfl,ρ',σ',_,_,rfl,hE',hP',(by have:=Qag hwn 0;exact this),by simpa using λ h=>nc h.symm⟩
  | cons x y=>
   replace st:=hF▸st
   rcases st with ⟨σ',e,k'⟩ | ⟨hm,hq,ha,ρ',σ',l',e,hE',hP'⟩
   ·exact .inl ⟨σ',QeC t e,k'⟩
   ·refine .inr ⟨hm,ρ',σ',l',w2,QgX t e,hE',hP',?_,?_⟩
    ·have:=Qag hwn 0;rw [g2] at this;exact Eq.trans (congrArg _ ha) this
    ·exact hcl (k+1) q ht' hq w2 (by refine g2.substr ?_;rfl)
end
section
open PySem
noncomputable def T27 (call:V->List V->M V):Env->M Bool:=λ ρ=>tr cL call 20 ρ (.not (.meth (.loc 0) 65 [.k (.str [125])]))
noncomputable def T28 (call:V->List V->M V):Env->M Bool:=λ ρ=>tr cL call 20 ρ (.not (.meth (.loc 0) 65 [.k (.str [41])]))
noncomputable def E27 (i f:Nat) (il:Bool) (ρ:Env):Prop:=Ex2 λ o3 o4=>ρ=[some (.ref i),some (.bool il),some (.ref f),o3,o4,none,none,none]
noncomputable def E28 (i f:Nat) (il:Bool) (ρ:Env):Prop:=∃ o3,ρ=[some (.ref i),some (.bool il),some (.ref f),o3,none,none,none,none,none]
theorem tyK {ty}(h:ty∈TYS):Qnx (Qbt ty) ty/\(ty==PUB)=false/\(ty==COLON)=false/\ty≠SEMI:=by
 simp only [TYS,List.mem_cons,List.not_mem_nil,or_false] at h
 rcases h with rfl | rfl | rfl | rfl | rfl
 ·exact ⟨.inr ⟨rfl,.inr (.inl rfl)⟩,rfl,rfl,by decide⟩
 ·exact ⟨.inr ⟨rfl,.inr (.inr (.inl rfl))⟩,rfl,rfl,by decide⟩
 ·exact ⟨.inr ⟨rfl,.inr (.inr (.inr rfl))⟩,rfl,rfl,by decide⟩
 ·exact ⟨.inl ⟨rfl,rfl⟩,rfl,rfl,by decide⟩
 ·exact ⟨.inr ⟨rfl,.inl rfl⟩,rfl,rfl,by decide⟩
theorem nmK {k}:Qbt (nmW k)=kN/\QaJ .in (.str (nmW k)) G1=M.ret (.bool false)/\(nmW k==PUB)=false:=by
 unfold nmW
 split
 ·exact ⟨rfl,rfl,rfl⟩
 ·split<;>exact ⟨rfl,rfl,rfl⟩
theorem QmP {w}(h:okW w=true):lk (Qbt w) w [58,58]=false/\lk (Qbt w) w [60]=false/\lk (Qbt w) w COMMA=false:=by
 simp only [lkd];simp only [okW,Bool.and_eq_true,Bool.not_eq_true'] at h;exact ⟨h.1.1,h.1.2,h.2⟩
theorem QlK {rows:List V}{ws:List (List Nat)}{sp:Nat->Nat}(hr:Qa7 rows ws sp) {p:Nat}{x:List Nat}{y:List (List Nat)}(hx:(x==PUB)=false):∀ {pub:Bool},ws.drop p=(if pub then [PUB] else [])++x::y->∀ {Z:Prop},(∀ w,rows[p]?=some (tk (Qbt w) w (sp p))->lk (Qbt w) w PUB=pub->ws.drop (p+if pub then 1 else 0)=x::y->Z)->Z
 | false,h,_,k0=>k0 x (hr _ _ (Qag h 0)) ((lkd ..).trans hx) h
 | true,h,_,k0=>k0 PUB (hr _ _ (Qag h 0)) rfl (by rw [<- List.drop_drop,h];rfl)
theorem QgW {nmd cm:Bool}{k p:Nat}{ws:List (List Nat)}{fd:Fd}{q:List Fd}{w2:List Nat}{rest:List (List Nat)}(hw:ws.drop p=fW nmd cm k fd q++w2::rest):
  ws.drop p=(if fd.pub then [PUB] else [])++((if nmd then (if fd.way=0 then FN else nmW k)::(if fd.way=1 then [] else [COLON]) else [])++fTy fd::((if Qdp cm fd q then [COMMA] else [])++w2::rest)):=by
 simp only [hw,fW,Qch,List.append_assoc,List.cons_append]
theorem QlN {w2:List Nat}(ho:okW w2=true):∀ z:Bool,lk (Qbt (if z then COMMA else w2)) (if z then COMMA else w2) [58,58]=false/\lk (Qbt (if z then COMMA else w2)) (if z then COMMA else w2) [60]=false/\lk (Qbt (if z then COMMA else w2)) (if z then COMMA else w2) COMMA=z
 | true=>⟨rfl,rfl,rfl⟩
 | false=>QmP ho
theorem QlO {w2:List Nat}{rest:List (List Nat)}:∀ z:Bool,((if z then [COMMA] else [])++w2::rest)[0]?=some (if z then COMMA else w2)
 | true=>rfl
 | false=>rfl
theorem QnP {k p s:Nat}{rows:List V}(h:rows[p]?=some (tk (Qbt (nmW k)) (nmW k) s)):rows[p]?=some (tk kN (nmW k) s):=nmK.1▸h
theorem QjB {nmd il:Bool}{cl:List Nat}{k p:Nat}{fd:Fd}{q:List Fd}(h:(fd.pub&&!il)=true):∃ X,fF nmd il cl k p fd q=(p,PUBM)::X:=⟨_,by unfold fF;rw [h];rfl⟩
theorem Qez {nmd il:Bool}{cl:List Nat}{k p:Nat}{fd:Fd}{q:List Fd}(h:(fd.pub&&!il)=false):fF nmd il cl k p fd q=(if nmd then (if fd.way=0 then [(p+(if fd.pub then 1 else 0),NAMEM)] else [])++(if fd.way=1 then [(p+(if fd.pub then 1 else 0)+1,COLONM)] else []) else []) ++
  ((if fd.way=2 then [(p+(Qch nmd k fd).length,NAMEM)] else [])++(if !q.isEmpty&&fd.way==3 then [(p+(Qch nmd k fd).length+1,cl++MISS)] else [])):=by unfold fF;rw [h];rfl
theorem Qpe {pub il:Bool}(h:(pub&&!il)=false):pub=true->il=true:=by revert h;cases pub<;>cases il<;>decide
theorem QlL {k p way:Nat}{pub:Bool}{ty:List Nat}(h:way≠1):p+(Qch true k ⟨pub,way,ty⟩).length=p+(if pub then 1 else 0)+1+1:=by
 unfold Qch;rw [if_neg h];cases pub<;>rfl
theorem pre28 {k p way:Nat}{pub:Bool}{ty:List Nat}:p+(Qch false k ⟨pub,way,ty⟩).length=p+(if pub then 1 else 0):=by cases pub<;>rfl
theorem fWl {nmd cm:Bool}{k p:Nat}{fd:Fd}{q:List Fd}:p+(fW nmd cm k fd q).length=p+(Qch nmd k fd).length+1+(if Qdp cm fd q then 1 else 0):=by
 unfold fW;rw [List.length_append,<- Nat.add_assoc];cases Qdp cm fd q<;>rfl
theorem QlP {cm:Bool}{fd:Fd}{q:List Fd}(h:(!q.isEmpty&&fd.way==3)=true):q≠[]/\Qdp cm fd q=false:=by
 cases q with
 | nil=>exact nob h
 | cons=>exact ⟨nofun,congrArg Bool.not h⟩
section
variable {cl:List Nat}{σ0 σ:List O}{i j r:Nat}{rows:List V}{f:Nat}{IsEnv:Env->Prop}{sp:Nat->Nat}{B:X}{ρ:Env}{q:List Fd}{sep:Bool}{p':Nat}{l:List V}{F X:List (Nat×List Nat)}
theorem StepTo.exc {a:Nat}{m:List Nat}(hF:F=(a,m)::X) (k:Keep j σ0 σ) (h:Qdu (B ρ) σ j m (sp a)):StepTo cl σ0 i j r rows f IsEnv sp (B ρ σ) q sep p' l F:=
 hF.substr (.inl (h.elim λ σ' x=>⟨σ',x.1,k.trans x.2⟩))
theorem StepTo.ok {ρ':Env}{σ':List O}(hF:F=[]) (e:B ρ σ=.ok (if sep then .next else .brk,ρ') σ') (h:IsEnv ρ') (x:PI σ0 σ' i j r rows p' f l):StepTo cl σ0 i j r rows f IsEnv sp (B ρ σ) q sep p' l F:=
 hF.substr ⟨ρ',σ',e,h,x⟩
theorem StepTo.miss {ρ':Env}{σ':List O}{l':List V}(hF:F=(p',cl++MISS)::X) (hq:q≠[]) (e:B ρ σ=.ok (.brk,ρ') σ') (h:IsEnv ρ') (x:PI σ0 σ' i j r rows p' f l'):StepTo cl σ0 i j r rows f IsEnv sp (B ρ σ) q sep p' l F:=
 hF.substr (.inr ⟨rfl,hq,rfl,ρ',σ',l',e,h,x⟩)
end
theorem QiL {d:Nat}{σ0:List O}{i j r:Nat}{rows:List V}{f:Nat}{ws:List (List Nat)}{sp:Nat->Nat}(hr:Qa7 rows ws sp) (il cm:Bool):
  Reader true il cm [125] σ0 i j r rows f (T27 (Qab cL (d+7))) (Qau (ex cL (Qab cL (d+7)) 20 19) B27) (E27 i f il) ws sp where
 test:=by
  rintro p l σ ρ w ⟨o3,o4,rfl⟩ hP e
  have c:=Qad (d:=d+5) hP.hw (hr _ _ e) [125]
  rw [lkd] at c
  generalize (w==[125])=b at *
  exact Qh4 (.gO (hP.hw.gi)<|.gO (hP.hw.gj)<|.call c<|.nil) (by kernel_rfl)
 fin:=by
  rintro p l σ ρ ⟨o3,o4,rfl⟩ hP hl e
  exact (QfO (d:=d) (f:=f) hP.hw il false o3 o4 (hr _ _ e) rfl rfl nofun rfl (hr _ _ e) (.inl rfl)).elim λ σ' x=>⟨σ',x.1,hP.hk.trans x.2⟩
 step:=by
  rintro k p l σ ρ ⟨pub,way,ty⟩ q w2 rest ⟨o3,o4,rfl⟩ hP hk2 hl ht hw ho
  refine QlK hr (by split;rfl;exact nmK.2.2) (QgW hw) λ w e0 lp hT=>?_
  clear hw
  cases hpl:(pub&&!il) with
  | true=>exact (QjB (fd:=⟨pub,way,ty⟩) hpl).elim λ X hF=>.exc hF hP.hk (Qk7 (d:=d) (f:=f) hpl hP.hw o3 o4 e0 lp)
  | false=>
   have bl:=Qpe hpl
   rcases way with _ | _ | _ | way
   ·exact .exc ((Qez hpl).trans rfl) hP.hk (QfO (d:=d) (f:=f) hP.hw il pub o3 o4 e0 lp (kdE w) bl rfl (hr _ FN (Qag hT 0)) (.inr ⟨rfl,rfl⟩))
   ·exact .exc ((Qez hpl).trans rfl) hP.hk (QhS (d:=d) (f:=f) hP.hw il pub o3 o4 e0 lp (kdE w) bl rfl (QnP (hr _ _ (Qag hT 0))) nmK.2.1 (hr _ ty (Qag hT 1)) ((lkd ..).trans (tyK ht).2.2.1))
   ·exact .exc ((Qez hpl).trans rfl) hP.hk ((QlL (by decide)).substr (Qi5 (d:=d) hP.hw hP.hf il pub o3 o4 e0 lp (kdE w) bl rfl (QnP (hr _ _ (Qag hT 0))) nmK.2.1 (hr _ COLON (Qag hT 1)) (hr _ SEMI (Qag hT 2))))
   ·have z1:way+1+1+1≠1:=nofun
    have N:=QlN ho (Qdp cm ⟨pub,way+1+1+1,ty⟩ q)
    refine b27 (d:=d) hP il pub o3 o4 e0 lp (kdE w) bl rfl (QnP (hr _ _ (Qag hT 0))) nmK.2.1 (hr _ COLON (Qag hT 1)) (hr _ ty (Qag hT 2)) (tyK ht).1 (hr _ _ ((Qag hT 3).trans (QlO _))) N.1 N.2.1 (kdE _) _ N.2.2 (by lia) λ σ' e' x'=>?_
    have x':PI σ0 σ' i j r rows (p+(fW true cm k ⟨pub,way+1+1+1,ty⟩ q).length) f (l++[QcF sp (fR true k p ⟨pub,way+1+1+1,ty⟩)]):=by
     unfold fR QcF;rw [fWl,QlL z1];exact x'
    cases hb:(!q.isEmpty&&way+1+1+1==3) with
    | false=>exact .ok ((Qez hpl).trans (by rw [hb];rfl)) e' ⟨_,_,rfl⟩ x'
    | true=>
     have M:=QlP (cm:=cm) (fd:=⟨pub,way+1+1+1,ty⟩) hb
     exact .miss ((Qez hpl).trans (by rw [hb,fWl,M.2];rfl)) M.1 (M.2▸e') ⟨_,_,rfl⟩ x'
theorem QiK {d:Nat}{σ0:List O}{i j r:Nat}{rows:List V}{f:Nat}{ws:List (List Nat)}{sp:Nat->Nat}(hr:Qa7 rows ws sp) (il cm:Bool):
  Reader false il cm [41] σ0 i j r rows f (T28 (Qab cL (d+7))) (Qau (ex cL (Qab cL (d+7)) 20 19) B28) (E28 i f il) ws sp where
 test:=by
  rintro p l σ ρ w ⟨o3,rfl⟩ hP e
  have c:=Qad (d:=d+5) hP.hw (hr _ _ e) [41]
  rw [lkd] at c
  generalize (w==[41])=b at *
  exact Qh4 (.gO (hP.hw.gi)<|.gO (hP.hw.gj)<|.call c<|.nil) (by kernel_rfl)
 fin:=by
  rintro p l σ ρ ⟨o3,rfl⟩ hP hl e
  exact (QfN (d:=d) hP il false o3 (hr _ _ e) rfl rfl nofun rfl (hr _ _ e) (Nat.le_trans hl (by decide))).elim λ σ' x=>⟨σ',x.1,hP.hk.trans x.2⟩
 step:=by
  rintro k p l σ ρ ⟨pub,way,ty⟩ q w2 rest ⟨o3,rfl⟩ hP hk2 hl ht hw ho
  refine QlK hr (x:=fTy ⟨pub,way,ty⟩) (by unfold fTy;split;rfl;exact (tyK ht).2.1) (QgW hw) λ w e0 lp hT=>?_
  clear hw
  have len:l.length<=100:=by lia
  cases hpl:(pub&&!il) with
  | true=>exact (QjB (fd:=⟨pub,way,ty⟩) hpl).elim λ X hF=>.exc hF hP.hk (Qk6 (d:=d) (f:=f) hpl hP.hw o3 e0 lp)
  | false=>
   have bl:=Qpe hpl
   by_cases y2:way=2
   ·subst y2
    exact .exc ((Qez hpl).trans rfl) hP.hk (pre28.substr (QfN (d:=d) hP il pub o3 e0 lp (kdE w) bl rfl (hr _ SEMI (Qag hT 0)) len))
   ·have ft:fTy ⟨pub,way,ty⟩=ty:=if_neg y2
    rw [ft] at hT
    have N:=QlN ho (Qdp cm ⟨pub,way,ty⟩ q)
    refine b28 (d:=d) hP il pub o3 e0 lp (kdE w) bl rfl (hr _ ty (Qag hT 0)) (tyK ht).1 (hr _ _ ((Qag hT 1).trans (QlO _))) N.1 N.2.1 (kdE _) _ N.2.2 len λ σ' e' x'=>?_
    have x':PI σ0 σ' i j r rows (p+(fW false cm k ⟨pub,way,ty⟩ q).length) f (l++[QcF sp (fR false k p ⟨pub,way,ty⟩)]):=by
     unfold fR QcF;rw [fWl,pre28,ft,<- hl];exact x'
    have nF:fF false il [41] k p ⟨pub,way,ty⟩ q=(if !q.isEmpty&&way==3 then [(p+(Qch false k ⟨pub,way,ty⟩).length+1,[41]++MISS)] else []):=(Qez hpl).trans (by rw [if_neg y2];rfl)
    cases hb:(!q.isEmpty&&way==3) with
    | false=>exact .ok (nF.trans (by rw [hb];rfl)) e' ⟨_,rfl⟩ x'
    | true=>
     have M:=QlP (cm:=cm) (fd:=⟨pub,way,ty⟩) hb
     exact .miss (nF.trans (by rw [hb,fWl,M.2];rfl)) M.1 (M.2▸e') ⟨_,rfl⟩ x'
end
section
open PySem
theorem QjA (nmd cm:Bool) (en:List Nat) (k:Nat) (fds:List Fd) (ht:∀ fd∈fds,fd.ty∈TYS) (hn:fds≠[]) (w) (h:(gW nmd cm en k fds).head?=some w):(w==[125])=false/\(w==[41])=false:=by
 cases fds with
 | nil=>exact absurd rfl hn
 | cons fd r=>
  have ty:(fTy fd==[125])=false/\(fTy fd==[41])=false:=by
   unfold fTy;split
   ·exact ⟨rfl,rfl⟩
   ·have:=ht fd (by simp);simp only [TYS,List.mem_cons,List.not_mem_nil,or_false] at this
    rcases this with h | h | h | h | h<;>rw [h]<;>exact ⟨rfl,rfl⟩
  simp only [Qe3,Qer,fW,Qch] at h
  cases hp:fd.pub<;>cases nmd<;>simp only [hp,Bool.false_eq_true,if_true,if_false,List.nil_append,List.cons_append,List.head?_cons,Option.some.injEq] at h
  ·refine h.symm.substr ?_;exact ty
  ·refine h▸?_;split;exact ⟨rfl,rfl⟩;exact (show (nmW k==[125])=false/\(nmW k==[41])=false from by unfold nmW;split;exact ⟨rfl,rfl⟩;split<;>exact ⟨rfl,rfl⟩)
  ·rw [<- h];exact ⟨rfl,rfl⟩
  ·rw [<- h];exact ⟨rfl,rfl⟩
noncomputable def Ends (m:M V) (σ:List O) (i j r:Nat) (rows:List V) (sp:Nat->Nat) (F:List (Nat×List Nat)) (p:Nat) (v:V):Prop:=
 match F with
 | []=>Qf1 m σ i j r rows p 0 v
 | (a,msg)::_=>Qdu m σ j msg (sp a)
theorem Qgz (nmd cm:Bool) (en:List Nat):∀ k fds,1<=(gW nmd cm en k fds).length
 | _,[]=>by simp [Qe3,Qer]
 | k,fd::r=>by have:=Qgz nmd cm en (k+1) r;simp [Qe3,Qer];lia
theorem QfX (nmd cm:Bool):∀ k p fds,(gR nmd cm k p fds).length=fds.length
 | _,_,[]=>rfl
 | k,p,fd::r=>by simp [QjS,Qjg,QfX nmd cm (k+1) _ r]
theorem Qj3 (nmd cm:Bool) (en:List Nat) (post):∀ k fds,(gW nmd cm en k fds++post)[(gW nmd cm en k fds).length - 1]?=some en
 | _,[]=>by rfl
 | k,fd::r=>by
  have h1:=Qgz nmd cm en (k+1) r
  simp only [Qe3,Qer,List.append_assoc,List.length_append]
  exact (List.getElem?_append_right (by lia)).trans (Eq.trans (congrArg _ (show (fW nmd cm k fd r).length+(gW nmd cm en (k+1) r).length - 1 - (fW nmd cm k fd r).length=(gW nmd cm en (k+1) r).length - 1 from by lia)) (Qj3 nmd cm en post (k+1) r))
theorem Qg4 {d:Nat}{σ:List O}{i j r:Nat}{rows:List V}{p:Nat}(h:W σ i j r rows p 0) {ws:List (List Nat)}{sp:Nat->Nat}(hr:Qa7 rows ws sp) (il cm:Bool)
  {en:List Nat}(he:en=[125]∨en=SEMI) (fds:List Fd) (hk:fds.length<=3) (ht:∀ fd∈fds,fd.ty∈TYS) (post:List (List Nat)) (hw:ws.drop p=[123]::(gW true cm en 0 fds++post)):
  Ends (Qab cL (d+8) (.fn 27) [.ref i,.bool il]) σ i j r rows sp (gF true il cm [125] en true 0 (p+1) fds) (p+1+(gW true cm en 0 fds).length) (.tup ((gR true cm 0 (p+1) fds).map (QcF sp))):=by
 have e0:rows[p]?=some (tk kS [123] (sp p)):=hr _ _ (by have:=Qag hw 0;exact this)
 have c1:=Qay (d:=d+4) h e0 [123] rfl rfl
 have h1:=h.set (p+1) 0
 have k1:=Keep.set j (wd r (p+1) 0) σ
 have a1:=h.gi
 have a2:=h.gj
 generalize σ.set j (wd r (p+1) 0)=σ1 at *
 have n1:=Qah [] (by simp) σ1
 have x2:PI σ (σ1++[.list []]) i j r rows (p+1) σ1.length []:=⟨h1.app _,WF.new h1 [],k1.trans (Keep.app ..),k1.1⟩
 generalize σ1++[.list []]=σ2 at *
 generalize σ1.length=f at *
 have hw2:ws.drop (p+1)=gW true cm en 0 fds++post:=by refine List.drop_drop.symm.substr ?_;refine hw.substr ?_;rfl
 have L:=QdB (QiL (d:=d) (σ0:=σ) (i:=i) (j:=j) (r:=r) (f:=f) hr il cm) he rfl (by decide) post (λ k fds a b w c=>(QjA _ _ _ k fds a b w c).1) fds 0 (p+1) [] σ2
   [some (.ref i),some (.bool il),some (.ref f),none,none,none,none,none] cL.W (Nat.lt_of_le_of_lt hk (by decide)) (by simp_all) ht rfl hw2 ⟨none,none,rfl⟩ x2
 have LE:∀ ρ σ,ex cL (Qab cL (d+7)) 20 20 (.whl (.not (.meth (.loc 0) 65 [.k (.str [125])])) B27) ρ σ=Qat (T27 (Qab cL (d+7))) (Qau (ex cL (Qab cL (d+7)) 20 19) B27) cL.W ρ σ:=λ _ _=>rfl
 cases hF:gF true il cm [125] en true 0 (p+1) fds with
 | nil=>
  simp only [hF] at L
  refine byK λ Pz kz=>?_;obtain ⟨ρ',σ3,e3,⟨o3,o4,rfl⟩,x3,en'⟩:=L
  subst en'
  replace x3:=(show p+1+(gW true cm [125] 0 fds).length - 1=p+(gW true cm [125] 0 fds).length from by lia)▸x3
  have e4:rows[p+(gW true cm [125] 0 fds).length]?=some (tk kS [125] (sp (p+(gW true cm [125] 0 fds).length))):=by
   have l1:=Qgz true cm [125] 0 fds
   refine hr _ [125] ?_
   have:=Qag hw2 ((gW true cm [125] 0 fds).length - 1)
   simp only [Qj3] at this
   refine this.symm.substr ?_;congr 1;lia
  have c4:=Qay (d:=d+4) x3.hw e4 [125] rfl rfl
  have x4:=x3.step (x3.hw.set (p+(gW true cm [125] 0 fds).length+1) 0) (Keep.set j _ _)
  have b1:=x3.hw.gi
  have b2:=x3.hw.gj
  refine kz ?_;refine ⟨_,?_,?_,x4.hk⟩
  ·skip
   generalize σ3.set j (wd r (p+(gW true cm [125] 0 fds).length+1) 0)=σ4 at *
   exact QaC (.gO a1<|.gO a2<|.call c1<|.sub n1<|.subX e3<|.gO b1<|.gO b2<|.call c4<|.sub (QbI (Qaa (x4.hf.g)) (Qb0 (by rw [QfX];lia)))<|.nil) (by kernel_rfl)
  ·simp only [show p+1+(gW true cm [125] 0 fds).length=p+(gW true cm [125] 0 fds).length+1 from by lia];exact x4.hw
 | cons y ys=>
  obtain ⟨a,m⟩:=y
  simp only [hF] at L
  rcases L with ⟨σ3,e3,k3⟩ | ⟨hm,ρ',σ3,l',w,e3,⟨o3,o4,rfl⟩,x3,e4,nw⟩
  ·refine ⟨σ3,?_,k3⟩
   exact Qj1 (.gO a1<|.gO a2<|.call c1<|.sub n1<|.nil) e3 (by kernel_rfl)
  ·have c4:=Qca (d:=d+4) x3.hw (hr _ _ e4) [125] (by decide) (by rw [lkd];exact nw)
   have b1:=x3.hw.gi
   have b2:=x3.hw.gj
   refine ⟨σ3,?_,x3.hk⟩
   clear nw e4 x3 hF LE hw2 x2 k1 h1 e0 hw ht hk he hr h;subst hm
   exact Qcz (.gO a1<|.gO a2<|.call c1<|.sub n1<|.subX e3<|.gO b1<|.gO b2<|.nil) c4 (by kernel_rfl)
end
section
open PySem
theorem Qfm {d:Nat}{σ:List O}{i j r:Nat}{rows:List V}{p:Nat}(h:W σ i j r rows p 0) {ws:List (List Nat)}{sp:Nat->Nat}(hr:Qa7 rows ws sp) (il cm:Bool)
  {en:List Nat}(he:en=[41]∨en=SEMI) (fds:List Fd) (hk:fds.length<=3) (ht:∀ fd∈fds,fd.ty∈TYS) (post:List (List Nat)) (hw:ws.drop p=[40]::(gW false cm en 0 fds++post)):
  Ends (Qab cL (d+8) (.fn 28) [.ref i,.bool il]) σ i j r rows sp (gF false il cm [41] en true 0 (p+1) fds) (p+1+(gW false cm en 0 fds).length) (.tup ((gR false cm 0 (p+1) fds).map (QcF sp))):=by
 have e0:rows[p]?=some (tk kS [40] (sp p)):=hr _ _ (by have:=Qag hw 0;exact this)
 have c1:=Qay (d:=d+4) h e0 [40] rfl rfl
 have h1:=h.set (p+1) 0
 have k1:=Keep.set j (wd r (p+1) 0) σ
 have a1:=h.gi
 have a2:=h.gj
 generalize σ.set j (wd r (p+1) 0)=σ1 at *
 have n1:=Qah [] (by simp) σ1
 have x2:PI σ (σ1++[.list []]) i j r rows (p+1) σ1.length []:=⟨h1.app _,WF.new h1 [],k1.trans (Keep.app ..),k1.1⟩
 generalize σ1++[.list []]=σ2 at *
 generalize σ1.length=f at *
 have hw2:ws.drop (p+1)=gW false cm en 0 fds++post:=by refine List.drop_drop.symm.substr ?_;refine hw.substr ?_;rfl
 have L:=QdB (QiK (d:=d) (σ0:=σ) (i:=i) (j:=j) (r:=r) (f:=f) hr il cm) he rfl (by decide) post (λ k fds a b w c=>(QjA _ _ _ k fds a b w c).2) fds 0 (p+1) [] σ2
   [some (.ref i),some (.bool il),some (.ref f),none,none,none,none,none,none] cL.W (Nat.lt_of_le_of_lt hk (by decide)) (by simp_all) ht rfl hw2 ⟨none,rfl⟩ x2
 have LE:∀ ρ σ,ex cL (Qab cL (d+7)) 20 20 (.whl (.not (.meth (.loc 0) 65 [.k (.str [41])])) B28) ρ σ=Qat (T28 (Qab cL (d+7))) (Qau (ex cL (Qab cL (d+7)) 20 19) B28) cL.W ρ σ:=λ _ _=>rfl
 cases hF:gF false il cm [41] en true 0 (p+1) fds with
 | nil=>
  simp only [hF] at L
  refine byK λ Pz kz=>?_;obtain ⟨ρ',σ3,e3,⟨o3,rfl⟩,x3,en'⟩:=L
  subst en'
  replace x3:=(show p+1+(gW false cm [41] 0 fds).length - 1=p+(gW false cm [41] 0 fds).length from by lia)▸x3
  have e4:rows[p+(gW false cm [41] 0 fds).length]?=some (tk kS [41] (sp (p+(gW false cm [41] 0 fds).length))):=by
   have l1:=Qgz false cm [41] 0 fds
   refine hr _ [41] ?_
   have:=Qag hw2 ((gW false cm [41] 0 fds).length - 1)
   simp only [Qj3] at this
   refine this.symm.substr ?_;congr 1;lia
  have c4:=Qay (d:=d+4) x3.hw e4 [41] rfl rfl
  have x4:=x3.step (x3.hw.set (p+(gW false cm [41] 0 fds).length+1) 0) (Keep.set j _ _)
  have b1:=x3.hw.gi
  have b2:=x3.hw.gj
  refine kz ?_;refine ⟨_,?_,?_,x4.hk⟩
  ·skip
   generalize σ3.set j (wd r (p+(gW false cm [41] 0 fds).length+1) 0)=σ4 at *
   exact QaC (.gO a1<|.gO a2<|.call c1<|.sub n1<|.subX e3<|.gO b1<|.gO b2<|.call c4<|.sub (QbI (Qaa (x4.hf.g)) (Qb0 (by rw [QfX];lia)))<|.nil) (by kernel_rfl)
  ·simp only [show p+1+(gW false cm [41] 0 fds).length=p+(gW false cm [41] 0 fds).length+1 from by lia];exact x4.hw
 | cons y ys=>
  obtain ⟨a,m⟩:=y
  simp only [hF] at L
  rcases L with ⟨σ3,e3,k3⟩ | ⟨hm,ρ',σ3,l',w,e3,⟨o3,rfl⟩,x3,e4,nw⟩
  ·refine ⟨σ3,?_,k3⟩
   exact Qj1 (.gO a1<|.gO a2<|.call c1<|.sub n1<|.nil) e3 (by kernel_rfl)
  ·have c4:=Qca (d:=d+4) x3.hw (hr _ _ e4) [41] (by decide) (by rw [lkd];exact nw)
   have b1:=x3.hw.gi
   have b2:=x3.hw.gj
   refine ⟨σ3,?_,x3.hk⟩
   clear nw e4 x3 hF LE hw2 x2 k1 h1 e0 hw ht hk he hr h;subst hm
   exact Qcz (.gO a1<|.gO a2<|.call c1<|.sub n1<|.subX e3<|.gO b1<|.gO b2<|.nil) c4 (by kernel_rfl)
noncomputable def Qdt:List Nat:=[110,97,109,101,100]
noncomputable def QdU:List Nat:=[116,117,112,108,101]
noncomputable def Qjh:List Nat:=[117,110,105,116]
section
variable {d:Nat}{σ:List O}{i j r:Nat}{rows:List V}{p:Nat}(h:W σ i j r rows p 0) {kd w:List Nat}{q:Nat}(e:rows[p]?=some (tk kd w q))
include h e
theorem Qkw (b:V) (l1:lk kd w [123]=true) {v:V}{σ':List O}(hm:Qab cL (d+8) (.fn 27) [.ref i,b] σ=.ok v σ'):Qab cL (d+9) (.fn 29) [.ref i,b] σ=.ok (.tup [.str Qdt,v]) σ':=by
 exact QaC (.get h.wi<|.get h.wj<|.call (Qad (d:=d+6) h e [123])<|.ask l1<|.call hm .nil) (by kernel_rfl)
theorem QiE (b:V) (l1:lk kd w [123]=true) {m q:V}{σ':List O}(hm:Qab cL (d+8) (.fn 27) [.ref i,b] σ=.exc m q σ'):Qab cL (d+9) (.fn 29) [.ref i,b] σ=.exc m q σ':=by
 exact Qcz (.get h.wi<|.get h.wj<|.call (Qad (d:=d+6) h e [123])<|.ask l1 .nil) hm (by kernel_rfl)
theorem Qkv (b:V) (l1:lk kd w [123]=false) (l2:lk kd w [40]=true) {v:V}{σ':List O}(hm:Qab cL (d+8) (.fn 28) [.ref i,b] σ=.ok v σ'):Qab cL (d+9) (.fn 29) [.ref i,b] σ=.ok (.tup [.str QdU,v]) σ':=by
 exact QaC (.get h.wi<|.get h.wj<|.call (Qad (d:=d+6) h e [123])<|.ask l1<|.get h.wi<|.get h.wj<|.call (Qad (d:=d+6) h e [40])<|.ask l2<|.call hm .nil) (by kernel_rfl)
theorem QiD (b:V) (l1:lk kd w [123]=false) (l2:lk kd w [40]=true) {m q:V}{σ':List O}(hm:Qab cL (d+8) (.fn 28) [.ref i,b] σ=.exc m q σ'):Qab cL (d+9) (.fn 29) [.ref i,b] σ=.exc m q σ':=by
 exact Qcz (.get h.wi<|.get h.wj<|.call (Qad (d:=d+6) h e [123])<|.ask l1<|.get h.wi<|.get h.wj<|.call (Qad (d:=d+6) h e [40])<|.ask l2 .nil) hm (by kernel_rfl)
theorem Qku (b:V) (l1:lk kd w [123]=false) (l2:lk kd w [40]=false):Qab cL (d+9) (.fn 29) [.ref i,b] σ=.ok (.tup [.str Qjh,.tup []]) σ:=by
 have a1:=h.gi
 have a2:=h.gj
 have c:=Qad (d:=d+6) h e [123]
 exact QaC (.gO a1<|.gO a2<|.call c<|.ask l1<|.gO a1<|.gO a2<|.call (Qad (d:=d+6) h e [40])<|.ask l2<|.nil) (by kernel_rfl)
end
end
section
open PySem
noncomputable def STRUCT:List Nat:=[115,116,114,117,99,116]
noncomputable def SEMIM:List Nat:=SEMI++MISS
noncomputable def GEN (par:Bool):V:=if par then .tup [.tup [],.tup [.tup [.str [88],.tup []]]] else .tup [.tup [],.tup []]
noncomputable def sB (par:Bool):Nat:=2+if par then 3 else 0
noncomputable def QdR (par:Bool):List (List Nat):=if par then [[60],[88],[62]] else []
noncomputable def QbF (form:Nat) (cm:Bool) (en:List Nat) (fds:List Fd) (last:List Nat):List (List Nat):=
 if form=0 then [123]::gW true cm en 0 fds else if form=1 then [40]::(gW false cm en 0 fds++[last]) else [last]
noncomputable def sW (nm:List Nat) (par:Bool) (form:Nat) (cm:Bool) (en:List Nat) (fds:List Fd) (last:List Nat):List (List Nat):=
 STRUCT::nm::(QdR par++QbF form cm en fds last)
noncomputable def sG (par:Bool) (form:Nat) (cm:Bool) (en:List Nat) (fds:List Fd):List (Nat×List Nat):=
 if form=0 then gF true true cm [125] en true 0 (sB par+1) fds else if form=1 then gF false true cm [41] en true 0 (sB par+1) fds else []
noncomputable def sF (nm:List Nat) (par:Bool) (form:Nat) (cm:Bool) (en:List Nat) (fds:List Fd) (last:List Nat):List (Nat×List Nat):=
 (if nm=FN then [(1,NAMEM)] else [])++(sG par form cm en fds++(if form≠0/\last≠SEMI then [((sW nm par form cm en fds last).length - 1,SEMIM)] else []))
noncomputable def QcI (form:Nat):List Nat:=if form=0 then Qdt else if form=1 then QdU else Qjh
noncomputable def sR (par:Bool) (form:Nat) (cm:Bool) (fds:List Fd):List (List Nat×Nat×Bool×List Nat):=
 if form=0 then gR true cm 0 (sB par+1) fds else if form=1 then gR false cm 0 (sB par+1) fds else []
noncomputable def sV (sp:Nat->Nat) (nm:List Nat) (par:Bool) (form:Nat) (cm:Bool) (fds:List Fd) (b:V):V:=
 .tup [.str STRUCT,.int (sp 0),.str nm,GEN par,.str (QcI form),.tup ((sR par form cm fds).map (QcF sp)),b]
theorem Ends.map {m m':M V}{σ:List O}{i j r:Nat}{rows:List V}{sp:Nat->Nat}{F:List (Nat×List Nat)}{p:Nat}{v v':V}(x:Ends m σ i j r rows sp F p v) (h:∀ σ',m σ=.ok v σ'->m' σ=.ok v' σ') (k:∀ a b σ',m σ=.exc a b σ'->m' σ=.exc a b σ'):
  Ends m' σ i j r rows sp F p v':=by
 unfold Ends at x ⊢
 split at x
 ·obtain ⟨σ',e,y,z⟩:=x;exact ⟨σ',h _ e,y,z⟩
 ·obtain ⟨σ',e,y⟩:=x;exact ⟨σ',k _ _ _ e,y⟩
theorem QmG {d:Nat}{σ:List O}{i j r:Nat}{rows:List V}{sp:Nat->Nat}{nm:List Nat}{par:Bool}{form:Nat}{cm:Bool}{en:List Nat}{fds:List Fd}{last:List Nat}(h:W σ i j r rows (sB par) 0)
  (he:form=0->en=[125]∨en=SEMI) (he1:form=1->en=[41]∨en=SEMI) (hk:fds.length<=3) (ht:∀ fd∈fds,fd.ty∈TYS) (hl:last=SEMI∨last=[41]) (hr:Qa7 rows (sW nm par form cm en fds last) sp)
  {u:List Nat}{us:List (List Nat)}(hu:QbF form cm en fds last=u::us) (eu:rows[sB par]?=some (tk (Qbt u) u (sp (sB par)))) (dB:(sW nm par form cm en fds last).drop (sB par)=QbF form cm en fds last):
  Ends (Qab cL (d+9) (.fn 29) [.ref i,.bool true]) σ i j r rows sp (sG par form cm en fds) ((sW nm par form cm en fds last).length - if form=0 then 0 else 1)
   (.tup [.str (QcI form),.tup ((sR par form cm fds).map (QcF sp))]):=by
 have wl:(sW nm par form cm en fds last).length=sB par+(QbF form cm en fds last).length:=by
  cases par
  ·exact Nat.add_comm (QbF form cm en fds last).length 2
  ·exact Nat.add_comm (QbF form cm en fds last).length 5
 by_cases f0:form=0
 ·have hT:QbF form cm en fds last=[123]::gW true cm en 0 fds:=if_pos f0
  rw [hT] at hu dB wl
  injection hu with hu;subst hu
  rw [wl,if_pos f0,show sG par form cm en fds=_ from if_pos f0,show sR par form cm fds=_ from if_pos f0,show QcI form=Qdt from if_pos f0]
  have N:=Qg4 (d:=d) h hr true cm (he f0) fds hk ht [] (by simp only [dB,List.append_nil])
  simp only [show sB par+1+(gW true cm en 0 fds).length=sB par+([123]::gW true cm en 0 fds).length - 0 by simp only [List.length_cons];lia] at N
  exact N.map (λ _ e=>Qkw (d:=d) h eu (.bool true) rfl e) λ _ _ _ e=>QiE (d:=d) h eu (.bool true) rfl e
 ·by_cases f1:form=1
  ·have hT:QbF form cm en fds last=[40]::(gW false cm en 0 fds++[last]):=(if_neg f0).trans (if_pos f1)
   rw [hT] at hu dB wl
   cases hu
   rw [wl,if_neg f0,show sG par form cm en fds=_ from (if_neg f0).trans (if_pos f1),show sR par form cm fds=_ from (if_neg f0).trans (if_pos f1),show QcI form=QdU from (if_neg f0).trans (if_pos f1)]
   have N:=Qfm (d:=d) h hr true cm (he1 f1) fds hk ht [last] dB
   simp only [show sB par+1+(gW false cm en 0 fds).length=sB par+([40]::(gW false cm en 0 fds++[last])).length - 1 by refine List.length_cons.substr ?_;refine List.length_append.substr ?_;refine List.length_singleton.substr ?_;lia] at N
   exact N.map (λ _ e=>Qkv (d:=d) h eu (.bool true) rfl rfl e) λ _ _ _ e=>QiD (d:=d) h eu (.bool true) rfl rfl e
  ·have hT:QbF form cm en fds last=[last]:=(if_neg f0).trans (if_neg f1)
   rw [hT] at hu wl
   cases hu
   rw [wl,if_neg f0,show sG par form cm en fds=[] from (if_neg f0).trans (if_neg f1),show sR par form cm fds=[] from (if_neg f0).trans (if_neg f1),show QcI form=Qjh from (if_neg f0).trans (if_neg f1)]
   exact ⟨σ,Qku (d:=d) h eu (.bool true) (by rcases hl with h | h<;>rw [h]<;>rfl) (by rcases hl with h | h<;>rw [h]<;>rfl),h,.refl ..⟩
theorem Qiy {d:Nat}{σ:List O}{i j r:Nat}{rows:List V}(h:W σ i j r rows 0 0) {sp:Nat->Nat}
  (nm:List Nat) (hn:nm=[83]∨nm=[84,49]∨nm=FN) (par:Bool) (form:Nat) (cm:Bool) (en:List Nat) (fds:List Fd) (last:List Nat)
  (he:form=0->en=[125]∨en=SEMI) (he1:form=1->en=[41]∨en=SEMI) (hk:fds.length<=3) (ht:∀ fd∈fds,fd.ty∈TYS) (hl:last=SEMI∨last=[41])
  (hr:Qa7 rows (sW nm par form cm en fds last) sp) (b:V):
  Ends (Qab cL (d+10) (.fn 30) [.ref i,b]) σ i j r rows sp (sF nm par form cm en fds last) (sW nm par form cm en fds last).length (sV sp nm par form cm fds b):=by
 have e0:rows[0]?=some (tk kN STRUCT (sp 0)):=hr 0 STRUCT rfl
 have e1:rows[1]?=some (tk kN nm (sp 1)):=by
  have:=hr 1 nm rfl
  rcases hn with rfl | rfl | rfl<;>exact this
 have c1:=Qay (d:=d+6) h e0 STRUCT rfl rfl
 have h1:=h.set (0+1) 0
 have k1:=Keep.set j (wd r (0+1) 0) σ
 generalize σ.set j (wd r (0+1) 0)=σ1 at *
 by_cases hf:nm=FN
 ·have sFe:sF nm par form cm en fds last=(1,NAMEM)::(sG par form cm en fds++(if form≠0/\last≠SEMI then [((sW nm par form cm en fds last).length - 1,SEMIM)] else [])):=by unfold sF;refine (if_pos hf).substr ?_;rfl
  refine sFe.substr ?_;rw [QcN (f:=F30) rfl]
  exact ⟨σ1,Qcz (.get h.wi<|.get h.wj<|.call c1<|.sub (m:=QaK (tk kN STRUCT (sp 0)) (.int 2)) (u:=.int (sp 0)) rfl<|.get h1.wi<|.get h1.wj .nil) (Qg5 (d:=d+7) h1 e1 rfl (by refine hf.substr ?_;rfl)) (by kernel_rfl),k1⟩
 have c2:=QcK (d:=d+7) h1 e1 rfl (by clear e1 e0;rcases hn with rfl | rfl | rfl;rfl;rfl;exact absurd rfl hf)
 have h2:=h1.set (0+1+1) 0
 have k2:=k1.trans (Keep.set j (wd r (0+1+1) 0) σ1)
 generalize σ1.set j (wd r (0+1+1) 0)=σ2 at *
 have dB:(sW nm par form cm en fds last).drop (sB par)=QbF form cm en fds last:=by cases par<;>rfl
 obtain ⟨u,us,hu,u60⟩:Ex2 λ u us=>QbF form cm en fds last=u::us/\(u==[60])=false:=by
  unfold QbF
  split
  ·exact ⟨_,_,rfl,rfl⟩
  ·split
   ·exact ⟨_,_,rfl,rfl⟩
   ·rcases hl with rfl | rfl<;>exact ⟨_,_,rfl,rfl⟩
 have eu:rows[sB par]?=some (tk (Qbt u) u (sp (sB par))):=hr _ _ (by have:=Qag dB 0;rw [hu] at this;exact this)
 have c3:Qf1 (Qab cL (d+9) (.fn 21) [.ref i]) σ2 i j r rows (sB par) 0 (GEN par):=by
  cases par
  ·exact ⟨σ2,Qc3 (d:=d+6) h2 eu (by rw [lkd,u60]),h2,.refl ..⟩
  ·exact QeU (d:=d+5) h2 (hr 2 [60] rfl) (hr 3 [88] rfl) (hr 4 [62] rfl)
 refine byK λ Pz kz=>?_;obtain ⟨σ3,c3,h3,k3⟩:=c3
 have sFe:sF nm par form cm en fds last=sG par form cm en fds++(if form≠0/\last≠SEMI then [((sW nm par form cm en fds last).length - 1,SEMIM)] else []):=by
  simp only [sF,if_neg hf,List.nil_append]
 have FM:=QmG (d:=d) h3 he he1 hk ht hl hr hu eu dB
 refine kz ?_;refine sFe.substr ?_
 cases hG:sG par form cm en fds with
 | cons y ys=>
  obtain ⟨a,m⟩:=y
  simp only [hG] at FM
  obtain ⟨σ4,e4,k4⟩:=FM
  refine ⟨σ4,?_,(k2.trans k3).trans k4⟩
  exact Qcz (.get h.wi<|.get h.wj<|.call c1<|.sub (m:=QaK (tk kN STRUCT (sp 0)) (.int 2)) (u:=.int (sp 0)) rfl<|.get h1.wi<|.get h1.wj<|.call c2<|.sub (m:=QaK (.tup [.str nm,.int (sp 1)]) (.int 0)) (u:=.str nm) rfl<|.call c3 .nil) e4 (by kernel_rfl)
 | nil=>
  rw [hG] at FM
  obtain ⟨σ4,e4,h4,k4⟩:=FM
  have k4:=(k2.trans k3).trans k4
  generalize hL:(sW nm par form cm en fds last).length=L at *
  by_cases f0:form=0
  ·have u0:QaJ .ne (.str (QcI form)) (.str [110,97,109,101,100])=M.ret (.bool false):=by refine (show QcI form=Qdt from if_pos f0).substr ?_;rfl
   refine (if_neg (λ z=>z.1 f0)).substr ?_
   replace h4:=(if_pos f0)▸h4
   exact ⟨σ4,QaC (.get h.wi<|.get h.wj<|.call c1<|.sub (m:=QaK (tk kN STRUCT (sp 0)) (.int 2)) (u:=.int (sp 0)) rfl<|.get h1.wi<|.get h1.wj<|.call c2<|.sub (m:=QaK (.tup [.str nm,.int (sp 1)]) (.int 0)) (u:=.str nm) rfl<|.call c3<|.call e4<|.sub (congrFun u0 _)<|.ask (c:=false) rfl .nil) (by kernel_rfl),h4,k4⟩
  ·have u1:QaJ .ne (.str (QcI form)) (.str [110,97,109,101,100])=M.ret (.bool true):=by
    unfold QcI;refine (if_neg f0).substr ?_;split<;>rfl
   replace h4:=(if_neg f0)▸h4
   have hl1:L - 1+1=L:=by
    have:2<=L:=by refine hL▸?_;exact Nat.succ_le_succ (Nat.succ_le_succ (Nat.zero_le _))
    lia
   have el:(sW nm par form cm en fds last)[L - 1]?=some last:=by
    have:(sW nm par form cm en fds last).getLast?=some last:=by
     unfold sW QbF;refine (if_neg f0).substr ?_
     split
     ·exact Eq.trans (congrArg _ (show STRUCT::nm::(QdR par++[40]::(gW false cm en 0 fds++[last]))=(STRUCT::nm::(QdR par++[40]::gW false cm en 0 fds))++[last] by simp)) (List.getLast?_concat)
     ·exact Eq.trans (congrArg _ (show STRUCT::nm::(QdR par++[last])=(STRUCT::nm::QdR par)++[last] from rfl)) (List.getLast?_concat)
    refine hL▸?_;refine (List.getLast?_eq_getElem?)▸?_;exact this
   by_cases hs:last=SEMI
   ·have c5:=Qay (d:=d+6) h4 (hr _ _ el) SEMI (kdE _) (by rw [lkd];refine hs.substr ?_;rfl)
    have h5:=h4.set (L - 1+1) 0
    have k5:=k4.trans (Keep.set j (wd r (L - 1+1) 0) σ4)
    rw [hl1] at c5 h5 k5
    refine (if_neg (λ z=>z.2 hs)).substr ?_
    exact ⟨_,QaC (.get h.wi<|.get h.wj<|.call c1<|.sub (m:=QaK (tk kN STRUCT (sp 0)) (.int 2)) (u:=.int (sp 0)) rfl<|.get h1.wi<|.get h1.wj<|.call c2<|.sub (m:=QaK (.tup [.str nm,.int (sp 1)]) (.int 0)) (u:=.str nm) rfl<|.call c3<|.call e4<|.sub (congrFun u1 _)<|.ask (c:=true) rfl<|.get h4.wi<|.get h4.wj<|.call c5 .nil) (by kernel_rfl),h5,k5⟩
   ·skip
    refine (if_pos ⟨f0,hs⟩).substr ?_
    exact ⟨σ4,Qcz (.get h.wi<|.get h.wj<|.call c1<|.sub (m:=QaK (tk kN STRUCT (sp 0)) (.int 2)) (u:=.int (sp 0)) rfl<|.get h1.wi<|.get h1.wj<|.call c2<|.sub (m:=QaK (.tup [.str nm,.int (sp 1)]) (.int 0)) (u:=.str nm) rfl<|.call c3<|.call e4<|.sub (congrFun u1 _)<|.ask (c:=true) rfl<|.get h4.wi<|.get h4.wj .nil) (Qca (d:=d+6) h4 (hr _ _ el) SEMI (by decide) (by rw [lkd];exact bF hs)) (by kernel_rfl),k4⟩
end
section
open PySem
noncomputable def Qiq:List Nat:=[45,62]
noncomputable def USE:List Nat:=[117,115,101]
noncomputable def U8:List Nat:=[117,56]
noncomputable def FNM:List Nat:=[97,32,102,117,110,99,116,105,111,110,32,105,115,32,109,105,115,115,105,110,103]
theorem QmB {d:Nat}{σ:List O}{i j r:Nat}{rows:List V}{p:Nat}{dp:Int}(h:W σ i j r rows p dp) {q:Nat}(e:rows[p]?=some (tk kS [41] q)):
  Qab cL (d+3) (.fn 26) [.ref i] σ=.ok .none σ:=by
 have a1:=h.gi
 have a2:=h.gj
 exact QaC (.gO a1<|.gO a2<|.call (Qad (d:=d) h e [115,101,108,102])<|.no<|.no<|.gO a1<|.gO a2<|.call (Qad (d:=d) h e [38])<|.no<|.no<|.gO a1<|.gO a2<|.call (Qad (d:=d) h e [38])<|.no<|.no<|.nil) (by kernel_rfl)
theorem QiA {d:Nat}{σ:List O}{i j r:Nat}{rows:List V}{p:Nat}{dp:Int}(h:W σ i j r rows p dp) {q q2:Nat}(e:rows[p]?=some (tk kS [40] q)) (e2:rows[p+1]?=some (tk kS [41] q2)):
  Qf1 (Qab cL (d+4) (.fn 25) [.ref i]) σ i j r rows (p+1+1) dp (.tup [.none,.tup []]):=by
 have c1:=Qay (d:=d) h e [40] rfl rfl
 have h1:=h.set (p+1) dp
 have k1:=Keep.set j (wd r (p+1) dp) σ
 generalize σ.set j (wd r (p+1) dp)=σ1 at *
 have n1:=Qah [] (by simp) σ1
 have f1:=WF.new h1 []
 have h2:=h1.app [.list []]
 have k2:=k1.trans (Keep.app j σ1 [.list []])
 generalize σ1++[.list []]=σ2 at *
 have c4:=Qay (d:=d) h2 e2 [41] rfl rfl
 have h3:=h2.set (p+1+1) dp
 have k3:=Keep.set j (wd r (p+1+1) dp) σ2
 generalize σ2.set j (wd r (p+1+1) dp)=σ3 at *
 refine ⟨σ3,?_,h3,k2.trans k3⟩
 have T:tr cL (Qab cL (d+3)) 20 [some (.ref i),some .none,some (.ref σ1.length),none,none,none,none,none] (.not (.meth (.loc 0) 65 [.k (.str [41])])) σ2=.ok false σ2:=by
  exact Qh4 (.gO (h2.gi)<|.gO (h2.gj)<|.call (Qad (d:=d+1) h2 e2 [41])<|.nil) (by kernel_rfl)
 have LE:ex cL (Qab cL (d+3)) 20 20 (.whl (.not (.meth (.loc 0) 65 [.k (.str [41])])) B25) [some (.ref i),some .none,some (.ref σ1.length),none,none,none,none,none] σ2=
   .ok (.next,[some (.ref i),some .none,some (.ref σ1.length),none,none,none,none,none]) σ2:=by
  have:=Qbp (n:=1999) (B:=Qau (ex cL (Qab cL (d+3)) 20 19) B25) (T:=λ ρ=>tr cL (Qab cL (d+3)) 20 ρ (.not (.meth (.loc 0) 65 [.k (.str [41])]))) T
  exact this
 exact QaC (.gO (h.gi)<|.gO (h.gj)<|.call c1<|.call (QmB (d:=d) h1 e2)<|.sub n1<|.val (V.bool false)<|.no<|.no<|.subX LE<|.gO (h2.gi)<|.gO (h2.gj)<|.call c4<|.sub (QbI (Qaa ((f1.keep k3).g)) (Nat.le_of_ble_eq_true rfl))<|.nil) (by kernel_rfl)
noncomputable def fnV (sp:Nat->Nat) (p1:Nat) (res:Bool) (b:V):V:=
 .tup [.str FN,.int (sp p1),.str [102],.tup [.tup [],.tup []],.none,.tup [],if res then tyV U8 (sp (p1+5)) else .none,.none,b]
noncomputable def QcH (res:Bool):List (List Nat):=(if res then [Qiq,U8] else [])++[SEMI]
theorem QpM {d:Nat}{σ:List O}{i j r:Nat}{rows:List V}{p:Nat}(h:W σ i j r rows p 0) {ws:List (List Nat)}{sp:Nat->Nat}(hr:Qa7 rows ws sp) (res:Bool) {post:List (List Nat)}
  (hw:ws.drop p=FN::[102]::[40]::[41]::(QcH res++post)) (b:V):
  Qf1 (Qab cL (d+8) (.fn 24) [.ref i,b]) σ i j r rows (p+(if res then 7 else 5)) 0 (fnV sp p res b):=by
 have get:∀ n w,(FN::[102]::[40]::[41]::(QcH res++post))[n]?=some w->rows[p+n]?=some (tk (Qbt w) w (sp (p+n))):=λ n w e=>hr _ _ (by rw [Qag hw,e])
 have e0:=get 0 FN rfl
 have e1:=get 1 [102] rfl
 have e2:=get 2 [40] rfl
 have e3:=get 3 [41] rfl
 have c1:=Qay (d:=d+4) h e0 FN rfl rfl
 have h1:=h.set (p+1) 0
 have k1:=Keep.set j (wd r (p+1) 0) σ
 generalize σ.set j (wd r (p+1) 0)=σ1 at *
 have c2:=QcK (d:=d+5) h1 e1 rfl rfl
 have h2:=h1.set (p+1+1) 0
 have k2:=k1.trans (Keep.set j (wd r (p+1+1) 0) σ1)
 generalize σ1.set j (wd r (p+1+1) 0)=σ2 at *
 have c3:=Qc3 (d:=d+4) h2 e2 rfl
 obtain ⟨σ3,c4,h3,k3⟩:=QiA (d:=d+3) h2 e2 e3
 have k3:=k2.trans k3
 clear k2 h2 k1 e3 e2 e1 e0 hw hr;cases res with
 | false=>
  have e4:=get 4 SEMI rfl
  have c5:=Qad (d:=d+5) h3 e4 Qiq
  have c6:=Qad (d:=d+5) h3 e4 SEMI
  have c7:=QbJ (d:=d+5) h3 e4 rfl
  have h4:=h3.set (p+1+1+1+1+1) 0
  have k4:=k3.trans (Keep.set j (wd r (p+1+1+1+1+1) 0) σ3)
  generalize σ3.set j (wd r (p+1+1+1+1+1) 0)=σ4 at *
  refine ⟨σ4,?_,h4,k4⟩
  exact QaC (.get h.wi<|.get h.wj<|.call c1<|.sub (m:=QaK (tk kN FN (sp p)) (.int 2)) (u:=.int (sp p)) rfl<|.get h1.wi<|.get h1.wj<|.call c2<|.sub (m:=QaK (.tup [.str [102],.int (sp (p+1))]) (.int 0)) (u:=.str [102]) rfl<|.call c3<|.call c4<|.get h3.wi<|.get h3.wj<|.call c5<|.ask (c:=false) rfl<|.get h3.wi<|.get h3.wj<|.call c6<|.ask (c:=true) rfl<|.get h3.wi<|.get h3.wj<|.call c7 .nil) (by kernel_rfl)
 | true=>
  have e4:=get 4 Qiq rfl
  have e5:=get 5 U8 rfl
  have e6:=get 6 SEMI rfl
  have c7:=QbJ (d:=d+5) h3 e4 rfl
  have h4:=h3.set (p+1+1+1+1+1) 0
  have k4:=k3.trans (Keep.set j (wd r (p+1+1+1+1+1) 0) σ3)
  generalize σ3.set j (wd r (p+1+1+1+1+1) 0)=σ4 at *
  obtain ⟨σ5,c8,h5,k5⟩:=QgJ (d:=d) h4 e5 e6 (.inr ⟨rfl,.inr (.inl rfl)⟩) rfl rfl
  have c10:=QbJ (d:=d+5) h5 e6 rfl
  have h6:=h5.set (p+1+1+1+1+1+1+1) 0
  have k6:=(k4.trans k5).trans (Keep.set j (wd r (p+1+1+1+1+1+1+1) 0) σ5)
  generalize σ5.set j (wd r (p+1+1+1+1+1+1+1) 0)=σ6 at *
  refine ⟨σ6,?_,h6,k6⟩
  exact QaC (.get h.wi<|.get h.wj<|.call c1<|.sub (m:=QaK (tk kN FN (sp p)) (.int 2)) (u:=.int (sp p)) rfl<|.get h1.wi<|.get h1.wj<|.call c2<|.sub (m:=QaK (.tup [.str [102],.int (sp (p+1))]) (.int 0)) (u:=.str [102]) rfl<|.call c3<|.call c4<|.get h3.wi<|.get h3.wj<|.call (Qad (d:=d+5) h3 e4 Qiq)<|.ask (c:=true) rfl<|.get h3.wi<|.get h3.wj<|.call c7<|.call c8<|.get h5.wi<|.get h5.wj<|.call (Qad (d:=d+5) h5 e6 SEMI)<|.ask (c:=true) rfl<|.get h5.wi<|.get h5.wj<|.call c10 .nil) (by kernel_rfl)
end
section
open PySem
structure Gd where
 pub:Bool
 beg:Bool
 res:Bool
noncomputable def hW (g:Gd):List (List Nat):=(if g.pub then [PUB] else [])++(if g.beg then FN else USE)::[102]::[40]::[41]::QcH g.res
noncomputable def hF (il:Bool) (p:Nat) (g:Gd):List (Nat×List Nat):=
 (if g.pub&&!il then [(p,PUBM)] else [])++(if g.beg then [] else [(p+(if g.pub then 1 else 0),FNM)])
noncomputable def HW:List Gd->List (List Nat)
 | []=>[[125]]
 | g::r=>hW g++HW r
noncomputable def HF (il:Bool):Nat->List Gd->List (Nat×List Nat)
 | _,[]=>[]
 | p,g::r=>hF il p g++HF il (p+(hW g).length) r
noncomputable def HV (sp:Nat->Nat):Nat->List Gd->List V
 | _,[]=>[]
 | p,g::r=>fnV sp (p+(if g.pub then 1 else 0)) g.res (.bool g.pub)::HV sp (p+(hW g).length) r
theorem Qji:HW []=[[125]]:=rfl
theorem Qgv (g:Gd) (r:List Gd):HW (g::r)=hW g++HW r:=rfl
theorem Qic (il:Bool) (p:Nat):HF il p []=[]:=rfl
theorem Qid (il:Bool) (p:Nat) (g:Gd) (r:List Gd):HF il p (g::r)=hF il p g++HF il (p+(hW g).length) r:=rfl
theorem QnG (sp:Nat->Nat) (p:Nat):HV sp p []=[]:=rfl
theorem QnH (sp:Nat->Nat) (p:Nat) (g:Gd) (r:List Gd):HV sp p (g::r)=fnV sp (p+(if g.pub then 1 else 0)) g.res (.bool g.pub)::HV sp (p+(hW g).length) r:=rfl
theorem Qio:∀ gs,1<=(HW gs).length
 | []=>by trivial
 | g::r=>by have:=Qio r;simp [Qji,Qgv];lia
theorem Qkh (sp):∀ p gs,(HV sp p gs).length=gs.length
 | _,[]=>rfl
 | p,g::r=>by simp [QnG,QnH,Qkh sp _ r]
theorem Qmm:∀ gs,(HW gs)[(HW gs).length - 1]?=some [125]
 | []=>rfl
 | g::r=>by
  have h1:=Qio r
  simp only [Qji,Qgv,List.length_append]
  exact (List.getElem?_append_right (by lia)).trans (Eq.trans (congrArg _ (show (hW g).length+(HW r).length - 1 - (hW g).length=(HW r).length - 1 from by lia)) (Qmm r))
noncomputable def T31 (call:V->List V->M V):Env->M Bool:=λ ρ=>tr cL call 20 ρ (.not (.meth (.loc 0) 65 [.k (.str [125])]))
noncomputable def E31 (i f:Nat) (il:Bool) (ρ:Env):Prop:=∃ o3,ρ=[some (.ref i),some (.bool il),some (.ref f),o3,none,none,none,none]
section
variable {d:Nat}{σ0 σ:List O}{i j r:Nat}{rows:List V}{p f:Nat}{l:List V}(x:PI σ0 σ i j r rows p f l) {ws:List (List Nat)}{sp:Nat->Nat}(hr:Qa7 rows ws sp)
include x hr
theorem b31 (il:Bool) (g:Gd) {post:List (List Nat)}(hw:ws.drop p=hW g++post) (o3:Option V) (len:l.length<=1000):
  match hF il p g with
  | []=>∃ σ',Qau (ex cL (Qab cL (d+8)) 20 19) B31 [some (.ref i),some (.bool il),some (.ref f),o3,none,none,none,none] σ=
   .ok (.next,[some (.ref i),some (.bool il),some (.ref f),some (.bool g.pub),none,none,none,none]) σ' ∧
   PI σ0 σ' i j r rows (p+(hW g).length) f (l++[fnV sp (p+(if g.pub then 1 else 0)) g.res (.bool g.pub)])
  | (a,m)::_=>∃ σ',Qau (ex cL (Qab cL (d+8)) 20 19) B31 [some (.ref i),some (.bool il),some (.ref f),o3,none,none,none,none] σ=.exc (.str m) (.int (sp a)) σ'/\Keep j σ0 σ':=by
 obtain ⟨pub,beg,res⟩:=g
 have get:∀ n w,(hW ⟨pub,beg,res⟩++post)[n]?=some w->rows[p+n]?=some (tk (Qbt w) w (sp (p+n))):=λ n w e=>hr _ _ (by simp only [Qag hw,e])
 by_cases hpl:(pub&&!il)=true
 ·
  simp only [Bool.and_eq_true,Bool.not_eq_true'] at hpl
  obtain ⟨rfl,rfl⟩:=hpl
  have e0:=get 0 PUB (by rfl)
  refine ⟨σ,?_,x.hk⟩
  exact Qct (.nil) (QgK (d:=d+5) x.hw e0 rfl) (by kernel_rfl)
 ·have hpl2:pub=true->il=true:=by cases pub<;>cases il<;>simp at hpl ⊢
  have hpf:(pub&&!il)=false:=by simpa using hpl
  simp only [hF,hpf,Bool.false_eq_true,if_false,List.nil_append]
  obtain ⟨p1,hp1⟩:∃ p1,p+(if pub then 1 else 0)=p1:=⟨_,rfl⟩
  have e1:rows[p1]?=some (tk (Qbt (if beg then FN else USE)) (if beg then FN else USE) (sp p1)):=by
   refine hp1▸?_;exact get _ _ (by cases pub<;>simp [hW])
  have e0:∃ w,rows[p]?=some (tk (Qbt w) w (sp p))/\lk (Qbt w) w PUB=pub:=by
   cases pub
   ·exact ⟨(if beg then FN else USE),by replace e1:=(hp1).symm▸e1;exact e1,by cases beg<;>rfl⟩
   ·exact ⟨PUB,get 0 PUB (by rfl),rfl⟩
  obtain ⟨w,e0,lp⟩:=e0
  refine QbV (d:=d+5) x.hw e0 pub il lp (kdE w) hpl2 λ σ1 c1 h1 k1=>?_
  rw [hp1] at h1 ⊢
  have x1:=x.step h1 k1
  have a1:=h1.gi
  have a2:=h1.gj
  cases beg with
  | false=>
   have c3:=QaW (d:=d+7) h1 e1
   refine ⟨σ1,?_,x1.hk⟩
   exact QmZ (.call c1<|.gO a1<|.gO a2<|.call (Qad (d:=d+6) h1 e1 FN)<|.yes<|.gO a1<|.gO a2<|.call c3<|.val (V.int ↑(sp p1))<|.nil) (by kernel_rfl)
  | true=>
   have hw1:ws.drop p1=FN::[102]::[40]::[41]::(QcH res++post):=by
    refine hp1.symm.substr ?_;refine List.drop_drop.symm.substr ?_;refine hw.substr ?_;cases pub<;>simp [hW]
   obtain ⟨σ2,c3,h2,k2⟩:=QpM (d:=d) h1 hr res hw1 (.bool pub)
   have x2:=x1.step h2 k2
   have g3:=x2.hf.s (.list (l++[fnV sp p1 res (.bool pub)]))
   have x3:=x2.app (l++[fnV sp p1 res (.bool pub)])
   generalize σ2.set f (.list (l++[fnV sp p1 res (.bool pub)]))=σ3 at *
   have ll:p+(hW ⟨pub,true,res⟩).length=p1+(if res then 7 else 5):=by refine hp1▸?_;clear x2 k2 h2 hw1 e1 get hw x1 k1 h1 lp e0 hp1 hpf hpl2 hpl len hr x;cases pub<;>cases res<;>simp [hW,QcH]<;>lia
   refine ll.substr ?_
   refine ⟨σ3,?_,x3⟩
   generalize fnV sp p1 res (.bool pub)=y at *
   exact Qbl (.call c1<|.gO a1<|.gO a2<|.call (Qad (d:=d+6) h1 e1 FN)<|.no<|.gO (x1.hf.g)<|.call c3<|.sub (Qak (y:=y) (Qaa (x2.hf.g)) g3 (by lia))<|.nil) (by kernel_rfl)
end
theorem QmS {d:Nat}{σ0:List O}{i j r:Nat}{rows:List V}{f:Nat}{ws:List (List Nat)}{sp:Nat->Nat}(hr:Qa7 rows ws sp) (il:Bool):
  ∀ (gs:List Gd) (p:Nat) (l:List V) (σ:List O) (ρ:Env) (fuel:Nat),gs.length<fuel->l.length+gs.length<=1000->ws.drop p=HW gs->E31 i f il ρ->PI σ0 σ i j r rows p f l →
   match HF il p gs with
   | []=>Ex2 λ ρ' σ'=>And3 (Qat (T31 (Qab cL (d+8))) (Qau (ex cL (Qab cL (d+8)) 20 19) B31) fuel ρ σ=.ok (.next,ρ') σ') (E31 i f il ρ') (PI σ0 σ' i j r rows (p+(HW gs).length - 1) f (l++HV sp p gs))
   | (a,m)::_=>∃ σ',Qat (T31 (Qab cL (d+8))) (Qau (ex cL (Qab cL (d+8)) 20 19) B31) fuel ρ σ=.exc (.str m) (.int (sp a)) σ'/\Keep j σ0 σ':=by
 intro gs
 have test:∀ p l σ ρ w,E31 i f il ρ->PI σ0 σ i j r rows p f l->ws[p]?=some w->T31 (Qab cL (d+8)) ρ σ=.ok (!(w==[125])) σ:=by
  rintro p l σ ρ w ⟨o3,rfl⟩ hP e
  have c:=Qad (d:=d+6) hP.hw (hr _ _ e) [125]
  rw [lkd] at c
  generalize (w==[125])=b at *
  exact Qh4 (.gO (hP.hw.gi)<|.gO (hP.hw.gj)<|.call c<|.nil) (by kernel_rfl)
 induction gs with
 | nil=>
  intro p l σ ρ fuel hf hl hw hE hP
  obtain ⟨n,rfl⟩:∃ n,fuel=n+1:=⟨fuel - 1,by simp at hf;lia⟩
  have t:=test p l σ ρ [125] hE hP (by have:=Qag hw 0;exact this)
  simp only [Qic,Qid,Qji,Qgv,QnG,QnH,List.append_nil,List.length_singleton]
  exact ⟨ρ,σ,Qbp (by exact t),hE,by exact hP⟩
 | cons g q ih=>
  intro p l σ ρ fuel hf hl hw hE hP
  obtain ⟨n,rfl⟩:∃ n,fuel=n+1:=⟨fuel - 1,by lia⟩
  have w0:∃ w,ws[p]?=some w/\(w==[125])=false:=by
   have:=Qag hw 0
   obtain ⟨pub,beg,res⟩:=g
   cases pub<;>cases beg<;>simp [Qji,Qgv,hW] at this<;>exact ⟨_,this,rfl⟩
  obtain ⟨w,w0,nw⟩:=w0
  have t:=test p l σ ρ w hE hP w0
  rw [nw] at t
  obtain ⟨o3,rfl⟩:=hE
  have st:=b31 (d:=d) hP hr il g (post:=HW q) hw o3 (by simp at hl;lia)
  simp only [Qic,Qid]
  cases hF':hF il p g with
  | nil=>
   simp only [hF'] at st
   obtain ⟨σ',e,x'⟩:=st
   have:=ih (p+(hW g).length) _ σ' [some (.ref i),some (.bool il),some (.ref f),some (.bool g.pub),none,none,none,none] n (by simp at hf;simp_all) (by simp at hl ⊢;lia) (by refine List.drop_drop.symm.substr ?_;rw [hw,Qgv];simp) ⟨_,rfl⟩ x'
   refine (Qb5 t e).symm▸?_
   cases hG:HF il (p+(hW g).length) q with
   | nil=>
    simp only [hG] at this
    obtain ⟨ρ2,σ2,e2,E2,x2⟩:=this
    refine ⟨ρ2,σ2,e2,E2,?_⟩
    have l1:p+(hW g).length+(HW q).length - 1=p+(HW (g::q)).length - 1:=by simp only [Qji,Qgv,List.length_append];lia
    refine l1.symm.substr ?_
    simpa [QnG,QnH] using x2
   | cons x y=>replace this:=hG▸this;exact this
  | cons x y=>
   simp only [hF'] at st
   refine byK λ Pz kz=>?_;obtain ⟨σ',e,k'⟩:=st
   exact kz (⟨σ',QeC t e,k'⟩)
theorem Qok {d:Nat}{σ:List O}{i j r:Nat}{rows:List V}{p:Nat}(h:W σ i j r rows p 0) {ws:List (List Nat)}{sp:Nat->Nat}(hr:Qa7 rows ws sp) (il:Bool)
  (gs:List Gd) (hk:gs.length<=3) (hw:ws.drop p=[123]::HW gs):
  Ends (Qab cL (d+9) (.fn 31) [.ref i,.bool il]) σ i j r rows sp (HF il (p+1) gs) (p+1+(HW gs).length) (.tup (HV sp (p+1) gs)):=by
 have e0:rows[p]?=some (tk kS [123] (sp p)):=hr _ _ (by have:=Qag hw 0;exact this)
 have c1:=Qay (d:=d+5) h e0 [123] rfl rfl
 have h1:=h.set (p+1) 0
 have k1:=Keep.set j (wd r (p+1) 0) σ
 generalize σ.set j (wd r (p+1) 0)=σ1 at *
 have n1:=Qah [] (by simp) σ1
 have x2:PI σ (σ1++[.list []]) i j r rows (p+1) σ1.length []:=⟨h1.app _,WF.new h1 [],k1.trans (Keep.app ..),k1.1⟩
 generalize σ1++[.list []]=σ2 at *
 generalize σ1.length=f at *
 have hw2:ws.drop (p+1)=HW gs:=by refine List.drop_drop.symm.substr ?_;refine hw.substr ?_;rfl
 have L:=QmS (d:=d) (σ0:=σ) (i:=i) (j:=j) (r:=r) (f:=f) hr il gs (p+1) [] σ2
   [some (.ref i),some (.bool il),some (.ref f),none,none,none,none,none] cL.W (Nat.lt_of_le_of_lt hk (by decide)) (by simp;lia) hw2 ⟨none,rfl⟩ x2
 cases hF:HF il (p+1) gs with
 | nil=>
  simp only [hF] at L
  refine byK λ Pz kz=>?_;obtain ⟨ρ',σ3,e3,⟨o3,rfl⟩,x3⟩:=L
  have l1:=Qio gs
  have e4:rows[p+1+(HW gs).length - 1]?=some (tk kS [125] (sp (p+1+(HW gs).length - 1))):=by
   refine hr _ [125] ?_
   have:=Qag hw2 ((HW gs).length - 1)
   simp only [Qmm] at this
   refine this.symm.substr ?_;congr 1;lia
  have c4:=Qay (d:=d+5) x3.hw e4 [125] rfl rfl
  rw [show p+1+(HW gs).length - 1+1=p+1+(HW gs).length from by lia] at c4
  have x4:=x3.step (x3.hw.set (p+1+(HW gs).length) 0) (Keep.set j _ _)
  have gl:(HV sp (p+1) gs).length<=1000000:=by rw [Qkh];lia
  refine kz ?_;refine ⟨_,?_,x4.hw,x4.hk⟩
  generalize σ3.set j (wd r (p+1+(HW gs).length) 0)=σ4 at *
  exact QaC (.gO (h.gi)<|.gO (h.gj)<|.call c1<|.sub n1<|.subX e3<|.gO (x3.hw.gi)<|.gO (x3.hw.gj)<|.call c4<|.sub (QbI (Qaa (x4.hf.g)) gl)<|.nil) (by kernel_rfl)
 | cons y ys=>
  simp only [hF] at L
  obtain ⟨σ3,e3,k3⟩:=L
  refine ⟨σ3,?_,k3⟩
  exact Qj1 (.gO (h.gi)<|.gO (h.gj)<|.call c1<|.sub n1<|.nil) e3 (by kernel_rfl)
end
section
open PySem
noncomputable def T9 (call:V->List V->M V):Env->M Bool:=λ ρ=>tr cL call 20 ρ (.and [(.cmp .lt (.loc 1) (.bi .len [(.loc 0)])),(.cmp .in (.idx (.loc 0) (.loc 1)) (.loc 2))])
theorem sm {a:Nat}{n:Nat}(h:a<=n) (l:n<=1000000):QaV (a:Int)=true:=by rw [small_iff];lia
section
variable {call:V->List V->M V}{t S:List Nat}{a:Nat}{σ:List O}(ht:t.length<=1000000)
include ht
theorem Qmw (o3) (h:t.length<=a):T9 call [some (.str t),some (.int a),some (.str S),o3] σ=.ok false σ:=by
 exact Qh4 (.sub (Qbn ht)<|.val (V.bool (decide ((↑a:Int)<(↑t.length:Int))))<|.ask (decide_eq_false (show ¬ ((a:Int)<t.length) from by simp_all))<|.nil) (by kernel_rfl)
theorem QlG (o3) {c:Nat}(h:t[a]?=some c):T9 call [some (.str t),some (.int a),some (.str S),o3] σ=.ok (S.contains c) σ:=by
 have h0:=(List.getElem?_eq_some_iff.mp h).1
 have h6:Qgu t.length=M.ret (.int t.length):=if_pos ht
 simp only [T9]
 simp only [Qof,Qe5,Qoe,QaM,QoB,Qii,QpS,QoA,Qcr,Qlu,List.getElem?_cons_zero,List.getElem?_cons_succ,Qmr,h6,QpT,(show decide ((a:Int)<t.length)=true from by simpa using (by simp_all)),Qoc,(show QaK (.str t) (.int a)=M.ret (.str [c]) from by simp only [i_s,(sm (Nat.le_of_lt h0) ht),(show atI t (a:Int)=some c from by exact h)];rfl),QoF,if_true]
 cases S.contains c<;>rfl
omit ht in
theorem b9 (o3):Qau (ex cL call 20 19) B9 [some (.str t),some (.int a),some (.str S),o3] σ=.ok (.next,[some (.str t),some (.int ((a+1:Nat))),some (.str S),o3]) σ:=by
 exact Qbl (.val (V.int ((↑a:Int)+1))<|.nil) (by kernel_rfl)
theorem QlT (o3):∀ (u:List Nat) (a:Nat) (rest:List Nat) (fuel:Nat),t.drop a=u++rest->(∀ c∈u,S.contains c=true)->(∀ c,rest.head?=some c->S.contains c=false)->u.length<fuel →
  Qat (T9 call) (Qau (ex cL call 20 19) B9) fuel [some (.str t),some (.int a),some (.str S),o3] σ=.ok (.next,[some (.str t),some (.int ((a+u.length:Nat))),some (.str S),o3]) σ
 | [],a,rest,fuel,hd,hu,hr,hf=>by
  obtain ⟨n,rfl⟩:∃ n,fuel=n+1:=⟨fuel - 1,by lia⟩
  have e0:=Qag hd 0
  simp only [List.nil_append,Nat.add_zero] at e0
  cases hc:t[a]? with
  | none=>exact Qbp (Qmw ht o3 (by simpa using hc))
  | some c=>exact Qbp ((QlG ht o3 hc).trans (by refine (hr c (by simp only [List.head?_eq_getElem?,<- e0,hc])).substr ?_;rfl))
 | c::u,a,rest,fuel,hd,hu,hr,hf=>by
  obtain ⟨n,rfl⟩:∃ n,fuel=n+1:=⟨fuel - 1,by lia⟩
  have e0:=Qag hd 0
  simp only [List.cons_append,Nat.add_zero,List.getElem?_cons_zero] at e0
  refine (Qb5 ((QlG ht o3 e0).trans (by refine (hu c (by simp)).substr ?_;rfl)) (b9 o3)).substr ?_
  refine (QlT o3 u (a+1) rest n (by refine List.drop_drop.symm.substr ?_;refine hd.substr ?_;rfl) (λ c m=>hu c (by simp [m])) hr (by simp at hf;simp_all)).substr ?_
  simp only [List.length_cons,show a+1+u.length=a+(u.length+1) from by lia]
end
theorem Qfn {d:Nat}{t S:List Nat}{a:Nat}{σ:List O}(ht:t.length<=1000000) {u rest:List Nat}(hd:t.drop a=u++rest) (hu:∀ c∈u,S.contains c=true)
  (hr:∀ c,rest.head?=some c->S.contains c=false) (hl:u.length<2000):Qab cL (d+1) (.fn 9) [.str t,.int a,.str S] σ=.ok (.int ((a+u.length:Nat))) σ:=by
 generalize a+u.length=b at *
 exact QaC (.subX (QlT (call:=Qab cL d) (σ:=σ) (S:=S) ht none u a rest cL.W hd hu hr hl)<|.nil) (by kernel_rfl)
noncomputable def BL:List Nat:=[32,9,13,10,11,12,133,8206,8207,8232,8233]
theorem Qe7 (t:List Nat) (a n:Nat):QaG t (some (a:Int)) (some ((a:Int)+(n:Int)))=(t.drop a).take n:=by
 simp only [QaG]
 refine (show ((a:Int)+(n:Int)).toNat=a+n from by rfl).substr ?_;refine (show (a:Int).toNat=a from by rfl).substr ?_
 refine List.drop_take.substr ?_;congr 1;simp_all
end
section
open PySem
local macro_rules | `(tactic| walk_at "lb")=>`(tactic| first | assumption | lia | (simp;done) | (simp;lia))
theorem ixS {t:List Nat}{a c:Nat}(ht:t.length<=1000000) (h:t[a]?=some c):QaK (.str t) (.int a)=M.ret (.str [c]):=by
 simp only [i_s,sm (Nat.le_of_lt ((List.getElem?_eq_some_iff.mp h).1)) ht,(show atI t (a:Int)=some c from by exact h)];rfl
noncomputable def T10 (call:V->List V->M V):Env->M Bool:=λ ρ=>tr cL call 20 ρ (.cmp .lt (.loc 1) (.bi .len [(.loc 0)]))
section
variable {d:Nat}{t:List Nat}{a:Nat}{σ:List O}(ht:t.length<=1000000)
include ht
theorem t10 (ρ):T10 (Qab cL d) (some (.str t)::some (.int a)::ρ) σ=.ok (decide (a<t.length)) σ:=by
 refine decN.symm.substr ?_
 exact Qh4 (.sub (Qbn ht)<|.val (V.bool (decide ((a:Int)<(t.length:Int))))<|.nil) (by kernel_rfl)
theorem Qi6 (ρ) {c:Nat}(hc:t[a]?=some c) (hb:BL.contains c=false) (hs:(c==47)=false):
  Qau (ex cL (Qab cL d) 20 19) B10 (some (.str t)::some (.int a)::ρ) σ=.ok (.ret (.int a),some (.str t)::some (.int a)::ρ) σ:=by
 have h0:=(List.getElem?_eq_some_iff.mp hc).1
 have s1:QaG t (some (a:Int)) (some ((a:Int)+2))=(t.drop a).take 2:=Qe7 t a 2
 have hd:t.drop a=c::t.drop (a+1):=by refine (List.drop_eq_getElem_cons h0).substr ?_;congr 1;exact (List.getElem?_eq_some_iff.mp hc).2
 obtain ⟨u,hu⟩:∃ u,(t.drop a).take 2=c::u:=⟨_,by refine hd.substr ?_;rfl⟩
 simp only [hu] at s1
 exact Qbl (.sub (Qcl hc (by lia))<|.sub (Qfe (S:=BL) hb)<|.no<|.yes<|.val (V.int ((a:Int)+2))<|.yes<|.sub (Qev s1 (show u.length+1<=1000000 from by clear hd h0 ht;rw [<- List.length_cons (a:=c),<- hu];simp;omega))<|.val (V.bool (c::u==[47,47]))<|.ask (bF ((λ y e=>(show ¬ c=47 from by simpa using hs) (List.cons.inj e).1:∀ y,¬ c::u=47::y) [47]))<|.yes<|.val (V.int ((a:Int)+2))<|.yes<|.sub (Qev s1 (show u.length+1<=1000000 from by clear hd h0 ht;rw [<- List.length_cons (a:=c),<- hu];simp;omega))<|.val (V.bool (c::u==[47,42]))<|.ask (bF ((λ y e=>(show ¬ c=47 from by simpa using hs) (List.cons.inj e).1:∀ y,¬ c::u=47::y) [42]))<|.nil) (by kernel_rfl)
theorem QhT (ρ) {n:Nat}{rest:List Nat}(hd:t.drop a=List.replicate (n+1) 32++rest) (hn:n<100) (hr:∀ c,rest.head?=some c->BL.contains c=false):
  Qau (ex cL (Qab cL (d+1)) 20 19) B10 (some (.str t)::some (.int a)::ρ) σ=.ok (.next,some (.str t)::some (.int ((a+(n+1):Nat)))::ρ) σ:=by
 have hc:t[a]?=some 32:=by have:=Qag hd 0;exact this
 have h0:=(List.getElem?_eq_some_iff.mp hc).1
 have c:=Qfn (d:=d) (σ:=σ) (S:=BL) ht hd (by intro c m;refine (List.eq_of_mem_replicate m).substr ?_;rfl) hr (by simp;lia)
 rw [List.length_replicate] at c
 generalize a+(n+1)=b at *
 exact Qbl (.sub (Qcl hc (by walk_at "lb"))<|.val (V.bool true)<|.yes<|.call c<|.nil) (by kernel_rfl)
end
noncomputable def Beh (rest:List Nat):Prop:=rest=[]∨Ex2 λ c r=>And3 (rest=c::r) (BL.contains c=false) ((c==47)=false)
theorem Qg8 {d:Nat}{t:List Nat}{a:Nat}{σ:List O}(ht:t.length<=1000000) {n:Nat}{rest:List Nat}(hd:t.drop a=List.replicate n 32++rest) (hn:n<100) (ha:a<=t.length) (hr:Beh rest):
  Qab cL (d+2) (.fn 10) [.str t,.int a] σ=.ok (.int ((a+n:Nat))) σ:=by
 have hh:∀ c,rest.head?=some c->BL.contains c=false:=by
  intro c e
  rcases hr with rfl | ⟨c',r,rfl,h,-⟩
  ·trivial
  ·simp at e;refine e▸?_;exact h
 have fin:∀ k b (ρ:Env),t.drop b=rest->b<=t.length →
   Qat (T10 (Qab cL (d+1))) (Qau (ex cL (Qab cL (d+1)) 20 19) B10) (k+1) (some (.str t)::some (.int b)::ρ) σ=
    if rest=[] then .ok (.next,some (.str t)::some (.int b)::ρ) σ else .ok (.ret (.int b),some (.str t)::some (.int b)::ρ) σ:=by
  intro k b ρ e hb
  rcases hr with rfl | ⟨c,r,rfl,h1,h2⟩
  ·have:¬ b<t.length:=by have:=congrArg List.length e;simp at this;simp_all
   exact Qbp ((t10 ht ρ).trans (by refine (decide_eq_false this).substr ?_;rfl))
  ·have hc:t[b]?=some c:=by have:=Qag e 0;exact this
   rw [if_neg (by simp),whl1,QaM,t10 ht ρ,decide_eq_true ((List.getElem?_eq_some_iff.mp hc).1)]
   simp
   simp only [QaM,Qi6 ht ρ hc h1 h2];rfl
 have ln:a+n<=t.length:=by
  have:=congrArg List.length hd;simp at this;omega
 have L:∀ ρ:Env,Qat (T10 (Qab cL (d+1))) (Qau (ex cL (Qab cL (d+1)) 20 19) B10) cL.W (some (.str t)::some (.int a)::ρ) σ=
    if rest=[] then .ok (.next,some (.str t)::some (.int ((a+n:Nat)))::ρ) σ else .ok (.ret (.int ((a+n:Nat))),some (.str t)::some (.int ((a+n:Nat)))::ρ) σ:=by
  intro ρ
  cases n with
  | zero=>exact fin 1999 a ρ (by simpa using hd) ha
  | succ m=>
   simp only [show cL.W=1998+1+1 from rfl,Qb5 ((t10 ht ρ).trans (by refine (decide_eq_true (by lia)).substr ?_;rfl)) (QhT ht ρ hd (by exact Nat.le_of_lt ‹_›) hh)]
   exact fin 1998 (a+(m+1)) ρ (by refine List.drop_drop.symm.substr ?_;refine hd.substr ?_;simp) ln
 have L:=L [none,none,none,none,none]
 by_cases hz:rest=[]
 ·rw [if_pos hz] at L
  exact QaC (.subX L .nil) (by kernel_rfl)
 ·rw [if_neg hz] at L
  exact QaC (.subX L .nil) (by kernel_rfl)
end
section
open PySem
noncomputable def SIGS:List (List Nat):=match G2 with | .tup l=>l.map (λ v=>match v with | .str s=>s | _=>[]) | _=>[]
theorem G2e:G2=.tup (SIGS.map .str):=rfl
noncomputable def QlC (s:List Nat) (a:Nat):V:=.tup [tk kS s a,.int ((a+s.length:Nat))]
theorem b11 {call:V->List V->M V}{t:List Nat}{a:Nat}{σ:List O}(ht:t.length<=1000000) (s:List Nat) (ls:s.length<=10) (b:Bool) (hb:((t.drop a).take s.length==s)=b):
  Qau (ex cL call 20 19) B11 [some (.str t),some (.int a),some (.str s),none,none,none] σ=
   .ok (if b then .ret (QlC s a) else .next,[some (.str t),some (.int a),some (.str s),none,none,none]) σ:=by
 have s1:QaG t (some (a:Int)) (some ((a:Int)+s.length))=(t.drop a).take s.length:=Qe7 t a s.length
 have l1:((t.drop a).take s.length).length<=1000000:=by simp;omega
 have l2:s.length<=1000000:=by lia
 generalize (t.drop a).take s.length=u at *
 have nb:(u=s) ↔ b=true:=by refine hb▸?_;simp
 cases b
 ·have nb:¬ u=s:=by simpa using nb
  exact Qbl (.yes<|.sub (Qbn l2)<|.val (V.int ((↑a:Int)+(↑s.length:Int)))<|.yes<|.sub (Qev s1 l1)<|.val (V.bool (u==s))<|.ask (bF nb)<|.nil) (by kernel_rfl)
 ·have nb:u=s:=by simpa using nb
  clear hb l1 ls ht;subst nb
  exact Qbl (.yes<|.sub (Qbn l2)<|.val (V.int ((a:Int)+(u.length:Int)))<|.yes<|.sub (Qev s1 l2)<|.val (V.bool (u==u))<|.ask (BEq.refl u)<|.sub (Qbn l2)<|.val (V.int ((a:Int)+(u.length:Int)))<|.nil) (by kernel_rfl)
theorem Qjw {call:V->List V->M V}{t:List Nat}{a:Nat}{σ:List O}(ht:t.length<=1000000) (w:List Nat):∀ (l:List (List Nat)) (o:Option V),(∀ s∈l,s.length<=10)->l.find? (λ s=>(t.drop a).take s.length==s)=some w →
  Qb1 (assign cL call 20 3 (.loc 2)) (Qau (ex cL call 20 19) B11) (l.map .str) [some (.str t),some (.int a),o,none,none,none] σ=.ok (.ret (QlC w a),[some (.str t),some (.int a),some (.str w),none,none,none]) σ
 | [],_,_,h=>by trivial
 | s::r,o,hl,h=>by
  have as:assign cL call 20 3 (.loc 2) (.str s) [some (.str t),some (.int a),o,none,none,none] σ=.ok [some (.str t),some (.int a),some (.str s),none,none,none] σ:=rfl
  refine List.map_cons.substr ?_;rw [Qb1]
  rw [QaM];refine as.substr ?_
  simp only []
  rw [QaM];refine ((b11 (call:=call) (σ:=σ) (a:=a) ht s (hl s (by simp)) _ rfl)).substr ?_
  rw [List.find?_cons] at h
  cases hb:((t.drop a).take s.length==s) with
  | true=>
   rw [hb] at h
   simp only [Option.some.injEq] at h
   subst h
   rfl
  | false=>
   rw [hb] at h
   exact Qjw ht w r _ (λ x m=>hl x (by simp [m])) h
theorem QmA {d:Nat}{t:List Nat}{a:Nat}{σ:List O}(ht:t.length<=1000000) {w rest:List Nat}(hw:SGN.contains w=true) (hd:t.drop a=w++32::rest):
  Qab cL (d+1) (.fn 11) [.str t,.int a] σ=.ok (QlC w a) σ:=by
 have f:SIGS.find? (λ s=>(t.drop a).take s.length==s)=some w:=by
  refine hd.substr ?_
  simp only [SGN,List.contains_cons,List.contains_nil,Bool.or_false,Bool.or_eq_true,beq_iff_eq] at hw
  clear hd;rcases hw with rfl | rfl | rfl | rfl | rfl | rfl | rfl | rfl | rfl | rfl | rfl<;>rfl
 generalize QlC w a=y at *
 exact QaC (.subX (Qjw (call:=Qab cL d) (σ:=σ) ht w SIGS none (by decide) f)<|.nil) (by kernel_rfl)
noncomputable def QoY (w:List Nat):Bool:=match w with
 | []=>false
 | c::_=>(match G3 with | .str s=>s.contains c | _=>false)&&w.all (λ c=>match G4 with | .str s=>s.contains c | _=>false)
noncomputable def NB:List Nat:=match G3 with | .str s=>s | _=>[]
noncomputable def NS:List Nat:=match G4 with | .str s=>s | _=>[]
noncomputable def FG:List Nat:=match G5 with | .str s=>s | _=>[]
theorem Qkq {d:Nat}{t:List Nat}{a:Nat}{σ:List O}(ht:t.length<=1000000) {c:Nat}{u rest:List Nat}(hc:NB.contains c=true) (hu:∀ x∈c::u,NS.contains x=true) (lu:u.length<100) (hd:t.drop a=(c::u)++32::rest):
  Qab cL (d+2) (.fn 12) [.str t,.int a] σ=.ok (.tup [tk kN (c::u) a,.int ((a+(c::u).length:Nat))]) σ:=by
 have hc0:t[a]?=some c:=by have:=Qag hd 0;exact this
 have h0:=(List.getElem?_eq_some_iff.mp hc0).1
 have s1:QaG t (some ((a+(c::u).length:Nat):Int)) (some (((a+(c::u).length:Nat):Int)+1))=[32]:=by
  rw [show (((a+(c::u).length:Nat):Int)+1)=((a+(c::u).length:Nat):Int)+((1:Nat):Int) from rfl,Qe7,<- List.drop_drop];refine hd.substr ?_;simp
 have s2:QaG t (some (a:Int)) (some ((a+(c::u).length:Nat):Int))=c::u:=by
  have:=Qe7 t a (c::u).length
  rw [show (a:Int)+((c::u).length:Int)=((a+(c::u).length:Nat):Int) from by rfl] at this
  refine this.substr ?_;refine hd.substr ?_;simp
 exact QaC (.sub (Qcl hc0 (by lia))<|.sub (Qfe (S:=NB) hc)<|.yes<|.call (Qfn (d:=d) (σ:=σ) (S:=NS) ht hd hu (by intro x e;simp at e;refine e▸?_;rfl) (by simp;lia))<|.yes<|.val (V.int (((a+(c::u).length:Nat):Int)+1))<|.yes<|.sub (Qev s1 (by decide))<|.val (V.bool false)<|.no<|.yes<|.yes<|.sub (Qev s2 (by simp only [List.length_cons];lia))<|.nil) (by kernel_rfl)
theorem Qkp {d:Nat}{t:List Nat}{a:Nat}{σ:List O}(ht:t.length<=1000000) {w rest:List Nat}(hw:SGN.contains w=true) (hd:t.drop a=w++32::rest):
  Qab cL (d+2) (.fn 12) [.str t,.int a] σ=.ok (QlC w a) σ:=by
 obtain ⟨c,u,rfl,n1,n2,n3⟩:Ex2 λ c u=>And4 (w=c::u) (NB.contains c=false) (FG.contains c=false) (¬ [c]=[39]):=by
  have key:∀ w∈SGN,(match w with | []=>false | c::_=>!NB.contains c&&!FG.contains c&&c != 39)=true:=by decide +kernel
  have:=key w (by simpa using hw)
  clear key hw ht;cases w with
  | nil=>contradiction
  | cons c u=>
   simp only [Bool.and_eq_true,Bool.not_eq_true',bne_iff_ne] at this
   exact ⟨c,u,rfl,this.1.1,this.1.2,λ e=>this.2 (List.cons.inj e).1⟩
 have hc0:t[a]?=some c:=by have:=Qag hd 0;exact this
 have h0:=(List.getElem?_eq_some_iff.mp hc0).1
 exact QaC (.sub (Qcl hc0 (by lia))<|.sub (Qfe (S:=NB) n1)<|.no<|.sub (Qcl hc0 (by lia))<|.sub (Qfe (S:=FG) n2)<|.no<|.sub (Qcl hc0 (by lia))<|.val (V.bool ([c]==[39]))<|.ask (bF n3)<|.call (QmA (d:=d) (σ:=σ) ht hw hd)<|.nil) (by kernel_rfl)
end
section
open PySem
noncomputable def QbH (w:List Nat):Bool:=SGN.contains w||(match w with | c::u=>NB.contains c&&(c::u).all NS.contains&&decide (u.length<100) | []=>false)
theorem Qmz {d:Nat}{t:List Nat}{a:Nat}{σ:List O}(ht:t.length<=1000000) {w rest:List Nat}(hw:QbH w=true) (hd:t.drop a=w++32::rest):
  Qab cL (d+2) (.fn 12) [.str t,.int a] σ=.ok (.tup [tk (Qbt w) w a,.int ((a+w.length:Nat))]) σ:=by
 cases h:SGN.contains w with
 | true=>rw [Qbt];refine (if_pos h).substr ?_;exact Qkp ht h hd
 | false=>
  rw [Qbt];refine h.substr ?_
  simp only [QbH,h,Bool.false_or] at hw
  clear h;cases w with
  | nil=>simp at hw
  | cons c u=>
   simp only [Bool.and_eq_true,decide_eq_true_eq,List.all_eq_true] at hw
   exact Qkq ht hw.1.1 hw.1.2 hw.2 hd
theorem Qis {w:List Nat}(hw:QbH w=true):Ex2 λ c u=>And3 (w=c::u) (BL.contains c=false) ((c==47)=false):=by
 cases h:SGN.contains w with
 | true=>
  simp only [SGN,List.contains_cons,List.contains_nil,Bool.or_false,Bool.or_eq_true,beq_iff_eq] at h
  rcases h with rfl | rfl | rfl | rfl | rfl | rfl | rfl | rfl | rfl | rfl | rfl<;>exact ⟨_,_,rfl,rfl,rfl⟩
 | false=>
  simp only [QbH,h,Bool.false_or] at hw
  cases w with
  | nil=>simp at hw
  | cons c u=>
   simp only [Bool.and_eq_true] at hw
   exact ⟨c,u,rfl,((show ∀ x∈NB,BL.contains x=false/\(x==47)=false from by decide) c (by simpa using hw.1.1)).1,((show ∀ x∈NB,BL.contains x=false/\(x==47)=false from by decide) c (by simpa using hw.1.1)).2⟩
noncomputable def tbody:List (List Nat×Nat)->List Nat
 | []=>[]
 | (w,n)::r=>w++(List.replicate (n+1) 32++tbody r)
theorem Qck (w:List Nat) (n:Nat) (r:List (List Nat×Nat)):tbody ((w,n)::r)=w++(List.replicate (n+1) 32++tbody r):=rfl
noncomputable def toks:Nat->List (List Nat×Nat)->List V
 | _,[]=>[]
 | a,(w,n)::r=>tk (Qbt w) w a::toks (a+w.length+(n+1)) r
theorem QgG (a:Nat):toks a []=[]:=rfl
theorem QgH (a:Nat) (w:List Nat) (n:Nat) (r:List (List Nat×Nat)):toks a ((w,n)::r)=tk (Qbt w) w a::toks (a+w.length+(n+1)) r:=rfl
theorem begBody:∀ ps:List (List Nat×Nat),(∀ x∈ps,QbH x.1=true)->Beh (tbody ps)
 | [],_=>.inl rfl
 | (w,n)::r,h=>by
  obtain ⟨c,u,e,h1,h2⟩:=Qis (h (w,n) (by simp))
  exact .inr ⟨c,_,by simp only [] at e;simp only [Qck,e];rfl,h1,h2⟩
theorem QeD:∀ a ps,(toks a ps).length=ps.length
 | _,[]=>rfl
 | a,(w,n)::r=>by simp [QgG,QgH,QeD _ r]
noncomputable def T13 (call:V->List V->M V):Env->M Bool:=λ ρ=>tr cL call 20 ρ (.cmp .lt (.loc 2) (.bi .len [(.loc 0)]))
noncomputable def E13 (t:List Nat) (f a:Nat) (o:Option V):Env:=[some (.str t),some (.ref f),some (.int a),o,none,none,none]
section
variable {d:Nat}{t:List Nat}(ht:t.length<=1000000) {σ:List O}
include ht
theorem t13 (τ:List O) (f a o):T13 (Qab cL d) (E13 t f a o) τ=.ok (decide (a<t.length)) τ:=by
 refine decN.symm.substr ?_
 exact Qh4 (.sub (Qbn ht)<|.val (V.bool (decide ((a:Int)<(t.length:Int))))<|.nil) (by kernel_rfl)
theorem b13 {a:Nat}{w:List Nat}{n:Nat}{ps:List (List Nat×Nat)}(hd:t.drop a=tbody ((w,n)::ps)) (hw:∀ x∈(w,n)::ps,QbH x.1=true) (hn:n<50) (l:List V) (ll:l.length<=1000) (o:Option V):
  Qau (ex cL (Qab cL (d+2)) 20 19) B13 (E13 t σ.length a o) (σ++[.list l])=
   .ok (.next,E13 t σ.length (a+w.length+(n+1)) (some (tk (Qbt w) w a))) (σ++[.list (l++[tk (Qbt w) w a])]):=by
 have la:a+w.length<=t.length:=by
  have:=congrArg List.length (show t.drop a=w++32::(List.replicate n 32++tbody ps) from by rw [hd,Qck];rfl);simp at this;lia
 have c1:=Qmz (d:=d) (σ:=σ++[.list l]) ht (hw (w,n) (by simp)) (show t.drop a=w++32::(List.replicate n 32++tbody ps) from by rw [hd,Qck];rfl)
 have g:=QaX σ (.list l)
 have s:Qcg σ.length (.list (l++[tk (Qbt w) w a])) (σ++[.list l])=.ok () (σ++[.list (l++[tk (Qbt w) w a])]):=by
  rw [Qai (o:=.list l) (by simp)];simp
 have c2:=Qg8 (d:=d) (σ:=σ++[.list (l++[tk (Qbt w) w a])]) ht (show t.drop (a+w.length)=List.replicate (n+1) 32++tbody ps from by refine List.drop_drop.symm.substr ?_;rw [hd,Qck];simp) (by lia) la (begBody ps (λ x m=>hw x (by simp [m])))
 generalize tk (Qbt w) w a=y at *
 generalize σ++[.list l]=σ1 at *
 generalize σ++[.list (l++[y])]=σ2 at *
 generalize a+w.length+(n+1)=b at *
 generalize a+w.length=b' at *
 exact Qbl (.call c1<|.gO g<|.sub (Qak (y:=y) (Qaa g) s (by lia))<|.call c2<|.nil) (by kernel_rfl)
theorem Qjv:∀ (ps:List (List Nat×Nat)) (a:Nat) (l:List V) (o:Option V) (fuel:Nat),(∀ x∈ps,QbH x.1=true)->(∀ x∈ps,x.2<50)->t.drop a=tbody ps->a<=t.length->l.length+ps.length<=1000->ps.length<fuel->∀ {Z:Prop},(∀ o',Qat (T13 (Qab cL (d+2))) (Qau (ex cL (Qab cL (d+2)) 20 19) B13) fuel (E13 t σ.length a o) (σ++[.list l])=
   .ok (.next,E13 t σ.length t.length o') (σ++[.list (l++toks a ps)])->Z)->Z
 | [],a,l,o,fuel,hw,hn,hd,ha,hl,hf,_,k0=>by
  obtain ⟨n,rfl⟩:∃ n,fuel=n+1:=⟨fuel - 1,by simp at hf;lia⟩
  have:¬ a<t.length:=by have:=congrArg List.length (show t.drop a=[] from hd);simp at this;lia
  have e:a=t.length:=by lia
  subst e
  exact k0 o (by refine (Qbp ((t13 ht _ _ _ _).trans (by refine (decide_eq_false this).substr ?_;rfl))).substr ?_;simp [QgG,QgH])
 | (w,n)::r,a,l,o,fuel,hw,hn,hd,ha,hl,hf,_,k0=>by
  obtain ⟨k,rfl⟩:∃ n,fuel=n+1:=⟨fuel - 1,by lia⟩
  have ln:=congrArg List.length hd
  simp only [Qck,List.length_drop,List.length_append,List.length_replicate] at ln
  have lt:a<t.length:=by lia
  have hd2:t.drop (a+w.length+(n+1))=tbody r:=by
   have:t.drop (a+w.length+(n+1))=(t.drop (a+w.length)).drop (n+1):=List.drop_drop.symm
   simp only [this,(show t.drop (a+w.length)=List.replicate (n+1) 32++tbody r from by refine List.drop_drop.symm.substr ?_;rw [hd,Qck];simp)];simp
  refine Qjv r (a+w.length+(n+1)) (l++[tk (Qbt w) w a]) (some (tk (Qbt w) w a)) k (λ x m=>hw x (by simp [m])) (λ x m=>hn x (by simp [m])) hd2 (by lia) (by simp at hl ⊢;lia) (by simp at hf;simp_all) λ o' e=>?_
  refine k0 o' ?_
  refine (Qb5 ((t13 ht _ _ _ _).trans (by refine (decide_eq_true lt).substr ?_;rfl)) (b13 ht hd hw (hn (w,n) (by simp)) l (by lia) o)).substr ?_;refine e.substr ?_
  simp [QgG,QgH]
end
noncomputable def txt (n0:Nat) (ps:List (List Nat×Nat)):List Nat:=List.replicate n0 32++tbody ps
noncomputable def QbQ (n0:Nat) (ps:List (List Nat×Nat)):List V:=toks n0 ps++[tk kE [] (txt n0 ps).length]
theorem QmC {d n0:Nat}{ps:List (List Nat×Nat)}{σ:List O}(ht:(txt n0 ps).length<=1000000) (h0:n0<50) (hw:∀ x∈ps,QbH x.1=true) (hn:∀ x∈ps,x.2<50) (hl:ps.length<=900):
  Qab cL (d+3) (.fn 13) [.str (txt n0 ps)] σ=.ok (.ref σ.length) (σ++[.list (QbQ n0 ps)]):=by
 have n1:=Qah [] (by simp) σ
 have c1:=Qg8 (d:=d) (σ:=σ++[.list []]) (a:=0) ht (n:=n0) (rest:=tbody ps) (by simp only [List.drop_zero,txt]) (by lia) (by simp_all) (begBody ps hw)
 rw [Nat.zero_add,show ((0:Nat):Int)=0 from rfl] at c1
 clear h0;refine Qjv (d:=d) (σ:=σ) ht ps n0 [] none cL.W hw hn (by simp only [txt];simp) (by simp [txt]) (by simp;lia) (Nat.lt_of_le_of_lt hl (by decide)) λ o' L=>?_
 simp only [List.nil_append] at L
 have g:=QaX σ (.list (toks n0 ps))
 have s:Qcg σ.length (.list (QbQ n0 ps)) (σ++[.list (toks n0 ps)])=.ok () (σ++[.list (QbQ n0 ps)]):=by
  rw [Qai (o:=.list (toks n0 ps)) (by simp)];simp
 have ll:(toks n0 ps).length<=1000000:=by rw [QeD];lia
 simp only [QbQ,tk,kE] at *
 generalize txt n0 ps=t at *
 generalize toks n0 ps=l at *
 generalize σ++[.list []]=σ1 at *
 generalize σ++[.list l]=σ2 at *
 exact QaC (.sub n1<|.call c1<|.subX L<|.gO g<|.sub (Qbn ht)<|.sub (Qak (y:=V.tup [V.str kE,V.str [],V.int (↑t.length:Int),V.none,V.none]) (Qaa g) s ll)<|.nil) (by kernel_rfl)
theorem QeS {d n0:Nat}{ps:List (List Nat×Nat)}{σ:List O}(ht:(txt n0 ps).length<=1000000) (h0:n0<50) (hw:∀ x∈ps,QbH x.1=true) (hn:∀ x∈ps,x.2<50) (hl:ps.length<=900) {Z:Prop}(k0:∀ σ',(Qab cL (d+4) (.fn 14) [.str (txt n0 ps)] σ=.ok (.ref (σ.length+2)) σ')->(W σ' (σ.length+2) (σ.length+1) (σ.length+3) (QbQ n0 ps) 0 0)->(σ'.take σ.length=σ)->σ'.length=σ.length+4->Z):Z:=by
 have c:=QmC (d:=d) (σ:=σ) ht h0 hw hn hl
 have ll:(QbQ n0 ps).length<=1000000:=by simp [QbQ,QeD];lia
 generalize QbQ n0 ps=rows at *
 refine k0 (σ++[.list rows,wd (σ.length+3) 0 0,.inst (σ.length+1),.list rows]) ?_ ⟨by simp,by simp,by simp,by simp_all,by simp_all,ll⟩ (by simp) (by simp)
 have i:Qab cL (d+3) (.fn 60) [.ref (σ.length+2),.ref σ.length] (σ++[.list rows,.dict [],.inst (σ.length+1)])=.ok .none (σ++[.list rows,wd (σ.length+3) 0 0,.inst (σ.length+1),.list rows]):=by
  have gi:∀ x,getO (σ.length+2) (σ++[.list rows,x,.inst (σ.length+1),.list rows])=.ok (.inst (σ.length+1)) (σ++[.list rows,x,.inst (σ.length+1),.list rows]):=λ x=>Qac (by simp)
  have gj:∀ x,getO (σ.length+1) (σ++[.list rows,x,.inst (σ.length+1),.list rows])=.ok x (σ++[.list rows,x,.inst (σ.length+1),.list rows]):=λ x=>Qac (by simp)
  have sj:∀ x y,Qcg (σ.length+1) y (σ++[.list rows,x,.inst (σ.length+1),.list rows])=.ok () (σ++[.list rows,y,.inst (σ.length+1),.list rows]):=λ x y=>by
   rw [Qai (o:=x) (by simp)];simp
  exact QaC (.sub (QiR (Qaa (Qac (by simp):getO σ.length (σ++[.list rows,.dict [],.inst (σ.length+1)])=.ok (.list rows) (σ++[.list rows,.dict [],.inst (σ.length+1)]))) (show QaQ rows (σ++[.list rows,.dict [],.inst (σ.length+1)])=.ok (.ref (σ.length+3)) (σ++[.list rows,.dict [],.inst (σ.length+1),.list rows]) from by simp only [Qah rows ll];simp))<|.subU (QeE (a:=0) (gi _) (gj _) rfl (sj _ _))<|.subU (QeE (a:=1) (u:=.int 0) (gi _) (gj _) rfl (sj _ _))<|.subU (QeE (a:=2) (u:=.int 0) (gi _) (gj _) rfl (sj _ _))<|.nil) (by kernel_rfl)
 have m:mkW (Qab cL (d+3)) [.ref σ.length] (σ++[.list rows])=.ok (.ref (σ.length+2)) (σ++[.list rows,wd (σ.length+3) 0 0,.inst (σ.length+1),.list rows]):=by
  simp only [mkW,QaM,Qgt]
  simp only [m0,List.append_assoc,List.cons_append,List.nil_append,List.length_append,List.length_cons,List.length_nil,Nat.zero_add,Nat.reduceAdd,i,isNone]
  rfl
 generalize σ++[.list rows,wd (σ.length+3) 0 0,.inst (σ.length+1),.list rows]=σ2 at *
 generalize σ++[.list rows]=σ1 at *
 exact QaC (.call c<|.sub m<|.nil) (by kernel_rfl)
end
section
open PySem
local macro_rules | `(tactic| walk_at "lb")=>`(tactic| first | assumption | lia | (simp;done) | (simp;lia))
noncomputable def Src (σ:List O) (s:Nat):Prop:=Ex2 λ (a b:Int)=>And4 (σ[s]?=some (.list [.int a,.int b])) (0<=a) (0<=b) (b<2147483647)
theorem QgB {x t:Int}(ht:0<t):0<=Int.fmod x t/\Int.fmod x t<t:=⟨Int.fmod_nonneg_of_pos x ht,Int.fmod_lt_of_pos x ht⟩
theorem Qov {x t:Int}(hx:0<=x) (ht:0<t):0<=Int.fdiv x t:=Int.fdiv_nonneg hx (Int.le_of_lt ht)
theorem Qaw {d:Nat}{σ:List O}{s:Nat}(h:Src σ s) (top:Nat) (t1:0<top) (t2:top<100) {Z:Prop}(k0:∀ (r:Nat) (σ':List O),(Qab cL (d+1) (.fn 33) [.ref s,.int top] σ=.ok (.int r) σ')->(r<top)->(Src σ' s)->Keep s σ σ'->Z):Z:=by
 refine byK λ Pz kz=>?_;obtain ⟨a,b,e,ha,hb,hb2⟩:=h
 have tp:(0:Int)<top:=by simp_all
 have ts:QaV (top:Int)=true:=by rw [small_iff];lia
 refine kz ?_;by_cases h0:0<a
 ·have r0:=QgB (x:=a) tp
  refine k0 (Int.fmod a top).toNat (σ.set s (.list [.int (Int.fdiv a top),.int b])) ?_ (by simp_all) ⟨_,b,List.getElem?_set_self (List.getElem?_eq_some_iff.mp e).1,Qov ha tp,hb,hb2⟩ (Keep.set ..)
  refine (show (((Int.fmod a top).toNat:Nat):Int)=Int.fmod a top from by omega).symm▸?_
  exact QaC (.sub (Qaz (k:=0) e rfl (by decide))<|.val (V.bool (decide (0<a)))<|.ask (decide_eq_true h0)<|.sub (Qaz (k:=0) e rfl (by decide))<|.sub (Qjq (a:=a) (b:=(top:Int)) tp)<|.sub (Qaz (k:=0) e rfl (by decide))<|.sub (QkY (a:=a) (b:=(top:Int)) tp ts)<|.subU (Qg1 (i:=0) (v:=.int (Int.fdiv a top)) e ⟨Int.le_refl _,show (0:Int)<2 by decide,by decide⟩)<|.nil) (by kernel_rfl)
 ·have st:=Qai e (.list [.int a,.int (Int.fmod (b * 39373+7) 2147483647)])
  have b0:=QgB (x:=b * 39373+7) (t:=2147483647) (by decide)
  have e':(σ.set s (.list [.int a,.int (Int.fmod (b * 39373+7) 2147483647)]))[s]?=some (.list [.int a,.int (Int.fmod (b * 39373+7) 2147483647)]):=List.getElem?_set_self (List.getElem?_eq_some_iff.mp e).1
  have kk:=Keep.set s (.list [.int a,.int (Int.fmod (b * 39373+7) 2147483647)]) σ
  generalize hb1:Int.fmod (b * 39373+7) 2147483647=b1 at *
  have r0:=QgB (x:=Int.fdiv (Int.fmod (b1 * b1) 2147483629) 32) tp
  refine k0 (Int.fmod (Int.fdiv (Int.fmod (b1 * b1) 2147483629) 32) top).toNat _ ?_ (by simp_all) ⟨a,b1,e',ha,b0.1,b0.2⟩ kk
  refine (show (((Int.fmod (Int.fdiv (Int.fmod (b1 * b1) 2147483629) 32) top).toNat:Nat):Int)=Int.fmod (Int.fdiv (Int.fmod (b1 * b1) 2147483629) 32) top from by omega).symm▸?_
  exact QaC (.sub (Qaz (k:=0) e rfl (by decide))<|.val (V.bool (decide (0<a)))<|.ask (decide_eq_false (by omega))<|.sub (Qaz (k:=1) e rfl (by decide))<|.val (V.int (b * 39373))<|.val (V.int (b * 39373+7))<|.sub (show QbP .mod (.int (b * 39373+7)) (.int 2147483647) σ=.ok (.int b1) σ from by refine hb1▸?_;rfl)<|.subU (Qg1 (i:=1) (v:=.int b1) e ⟨by decide,show (1:Int)<2 by decide,by decide⟩)<|.sub (Qaz (k:=1) e' rfl (by decide))<|.sub (Qaz (k:=1) e' rfl (by decide))<|.sub (QmR (a:=b1) (b:=b1) (by clear st h0 ts hb2 hb t2 t1;rw [small_iff];omega))<|.val (V.int (Int.fmod (b1 * b1) 2147483629))<|.val (V.int (Int.fdiv (Int.fmod (b1 * b1) 2147483629) 32))<|.sub (Qjq (a:=Int.fdiv (Int.fmod (b1 * b1) 2147483629) 32) (b:=(top:Int)) tp)<|.nil) (by kernel_rfl)
theorem Qgw {d:Nat}{σ:List O}{s k:Nat}(h:Src σ s) {l:List V}(hk:σ[k]?=some (.list l)) (hn:k≠s) (l1:0<l.length) (l2:l.length<100) {Z:Prop}(k0:∀ (r:Nat) (v:V) (σ':List O),(Qab cL (d+2) (.fn 34) [.ref s,.ref k] σ=.ok v σ')->(r<l.length)->(l[r]?=some v)->(Src σ' s)->Keep s σ σ'->Z):Z:=by
 refine Qaw (d:=d) h l.length l1 l2 λ r σ' c hr hs kp=>?_
 obtain ⟨v,hv⟩:∃ v,l[r]?=some v:=⟨_,List.getElem?_eq_getElem hr⟩
 refine k0 r v σ' ?_ hr hv hs kp
 have g:=Qac hk
 have g':=Qac (kp.get hn hk)
 have ll:l.length<=1000000:=by lia
 exact QaC (.sub (Qbj (Qaa g) ll)<|.call c<|.sub (Qaz (Qaa g') hv (by walk_at "lb"))<|.nil) (by kernel_rfl)
theorem Qpg:∀ l:List Int,allInts (l.map .int)=some l
 | []=>rfl
 | a::r=>by show (allInts (r.map .int)).map (a::·)=_;rw [Qpg r];rfl
theorem Qaj {e:CS->X}{s r ρ ρ' τ τ'}(h:e s ρ τ=.ok (.next,ρ') τ'):Qau e (s::r) ρ τ=Qau e r ρ' τ':=by
 show M.bind (e s ρ) _ τ=_
 exact bok h rfl
theorem QhM {call:V->List V->M V}{σ:List O}(x:V) (c:Int) {Z:Prop}(k0:∀ (A B:Int),(0<=A)->(0<=B)->(B<2147483647)->Qau (ex cL call 20 20) (F32.body.drop 1) [some x,some (.int c),none,none,none] σ=.ok (.ret (.ref σ.length),[some x,some (.int c),some (.int (if -1 - c > c then -1 - c else c)),none,none]) (σ++[.list [.int A,.int B]])->Z):Z:=by
 generalize hg:(if -1 - c > c then -1 - c else c)=g
 refine k0 (g * (if 1000000000000000000<=g then 1 else 0)) _ (by split<;>simp [(show 0<=g from by split at hg<;>lia)]) (QgB (x:=(Int.fmod g 2147483629+17) * 48271) (t:=2147483647) (by decide)).1 (QgB (x:=(Int.fmod g 2147483629+17) * 48271) (t:=2147483647) (by decide)).2 ?_
 generalize hB:Int.fmod ((Int.fmod g 2147483629+17) * 48271) 2147483647=Bv
 by_cases h:1000000000000000000<=g
 ·refine (if_pos h).substr ?_
  exact Qbl (.val (V.int (-1 - c))<|.sub (congrFun (show builtin .max [.int c,.int (-1 - c)]=M.ret (.int g) from by simp only [QlE,hg]) _)<|.sub (congrFun (rfl:QbP .pow (.int 10) (.int 18)=M.ret (.int 1000000000000000000)) _)<|.val (V.bool (decide (1000000000000000000<=g)))<|.sub (Qpc (decide_eq_true h))<|.val (V.int (g * 1))<|.val (V.int (g.fmod 2147483629))<|.val (V.int (g.fmod 2147483629+17))<|.val (V.int ((g.fmod 2147483629+17) * 48271))<|.sub (show QbP .mod (.int ((Int.fmod g 2147483629+17) * 48271)) (.int 2147483647) σ=.ok (.int Bv) σ from by refine hB▸?_;rfl)<|.sub ((λ y=>Qah _ (by simp) σ:∀ y,QaQ [y,.int Bv] σ=.ok (.ref σ.length) (σ++[.list [y,.int Bv]])) _)<|.nil) (by kernel_rfl)
 ·refine (if_neg h).substr ?_
  exact Qbl (.val (V.int (-1 - c))<|.sub (congrFun (show builtin .max [.int c,.int (-1 - c)]=M.ret (.int g) from by simp only [QlE,hg]) _)<|.sub (congrFun (rfl:QbP .pow (.int 10) (.int 18)=M.ret (.int 1000000000000000000)) _)<|.val (V.bool (decide (1000000000000000000<=g)))<|.sub (QpP (decide_eq_false h))<|.val (V.int (g * 0))<|.val (V.int (g.fmod 2147483629))<|.val (V.int (g.fmod 2147483629+17))<|.val (V.int ((g.fmod 2147483629+17) * 48271))<|.sub (show QbP .mod (.int ((Int.fmod g 2147483629+17) * 48271)) (.int 2147483647) σ=.ok (.int Bv) σ from by refine hB▸?_;rfl)<|.sub ((λ y=>Qah _ (by simp) σ:∀ y,QaQ [y,.int Bv] σ=.ok (.ref σ.length) (σ++[.list [y,.int Bv]])) _)<|.nil) (by kernel_rfl)
theorem QmF {d:Nat}{σ:List O}(l:List Int):∃ σ',And3 (Qab cL (d+1) (.fn 32) [.lst (l.map .int)] σ=.ok (.ref (σ.length+1)) σ') (Src σ' (σ.length+1)) (σ.length+2=σ'.length):=by
 have ne:QaJ .ne (.lst (l.map .int)) (.ref σ.length) (σ++[.list []])=.ok (.bool (!l.isEmpty)) (σ++[.list []]):=by
  show M.bind (getL σ.length) (λ q=>if (allInts (l.map .int)).isSome&&q.isEmpty then M.ret (V.bool (!(l.map V.int).isEmpty)) else M.stuck) _=_
  refine bok (Qap (QaL σ (.list []))) ?_
  rw [Qpg];cases l<;>rfl
 have h1:∃ c:Int,ex cL (Qab cL d) 20 20 (F32.body.headD .bad) [some (.lst (l.map .int)),none,none,none,none] σ=.ok (.next,[some (.lst (l.map .int)),some (.int c),none,none,none]) (σ++[.list []]):=by
  cases l with
  | nil=>
   refine ⟨0,?_⟩
   exact QaP (.sub (Qah [] (by simp) σ)<|.sub ne<|.no<|.nil) (by kernel_rfl)
  | cons a r=>
   refine ⟨a,?_⟩
   generalize (a::r).map V.int=L at *
   exact QaP (.sub (Qah [] (by simp) σ)<|.sub ne<|.yes<|.sub (congrFun (rfl:QaK (.lst ((a::r).map .int)) (.int 0)=M.ret (.int a)) _)<|.nil) (by kernel_rfl)
 refine byK λ Pz kz=>?_;obtain ⟨c,h1⟩:=h1
 refine QhM (call:=Qab cL d) (σ:=σ++[.list []]) (.lst (l.map .int)) c λ A Bv a0 b0 b1 h2=>?_
 refine kz ?_;refine ⟨σ++[.list []]++[.list [.int A,.int Bv]],?_,⟨A,Bv,by simp,a0,b0,b1⟩,by simp⟩
 rw [QcN (f:=F32) rfl]
 have sq:=(Qaj (s:=F32.body.headD .bad) (r:=F32.body.drop 1) h1).trans h2
 have e:Qbi cL (Qab cL d) F32 [.lst (l.map .int)] σ=M.bind (Qau (ex cL (Qab cL d) 20 20) F32.body [some (.lst (l.map .int)),none,none,none,none]) (λ p=>flV p.1) σ:=rfl
 exact e.trans (bok sq (congrArg (λ n=>RS.ok (V.ref n) (σ++[O.list []]++[O.list [V.int A,V.int Bv]])) (List.length_append (as:=σ) (bs:=[O.list []]))))
end
section
open PySem
noncomputable def spI:Nat->List (List Nat×Nat)->List V
 | _,[]=>[]
 | a,(w,n)::r=>.int a::spI (a+w.length+(n+1)) r
theorem QjW (a:Nat):spI a []=[]:=rfl
theorem QjX (a:Nat) (x:List Nat×Nat) (r:List (List Nat×Nat)):spI a (x::r)=.int a::spI (a+x.1.length+(x.2+1)) r:=rfl
noncomputable def Qbv (n0:Nat) (ps:List (List Nat×Nat)):List V:=spI n0 ps++[.int (txt n0 ps).length]
theorem Src.keep {σ σ':List O}{s f:Nat}{o}(h:Src σ s) (n:f≠s):σ'=σ.set f o->Src σ' s:=by
 rintro rfl
 obtain ⟨a,b,e,r1,r2,r3⟩:=h
 exact ⟨a,b,by exact (List.getElem?_set_ne n).trans e,r1,r2,r3⟩
theorem Src.app {σ:List O}{s:Nat}(h:Src σ s) (l):Src (σ++l) s:=by
 obtain ⟨a,b,e,r1,r2,r3⟩:=h
 exact ⟨a,b,by exact (List.getElem?_append_left (List.getElem?_eq_some_iff.mp e).1).trans e,r1,r2,r3⟩
theorem Src.lt {σ:List O}{s:Nat}(h:Src σ s):s<σ.length:=by
 obtain ⟨a,b,e,r1,r2,r3⟩:=h
 exact (List.getElem?_eq_some_iff.mp e).1
theorem Src.step {σ σ':List O}{s j:Nat}(h:Src σ s) (n:s≠j) (k:Keep j σ σ'):Src σ' s:=by
 obtain ⟨a,b,e,r1,r2,r3⟩:=h
 exact ⟨a,b,k.get n e,r1,r2,r3⟩
theorem b35 {d:Nat}{σ0 τ:List O}{s k f:Nat}{l:List V}{T w:List Nat}(hs:Src τ s) (hf:τ[f]?=some (.list l)) (nf:f≠s) (hk:Keep s σ0 τ) (hn:σ0.length<=f)
  (hT:T.length<=10000) (hw:w.length<=100) (hl:l.length<=1000) {Z:Prop}(k0:∀ (n:Nat) (τ':List O),(Qau (ex cL (Qab cL (d+1)) 20 19) B35 [some (.ref s),some (.ref k),some (.str T),some (.ref f),some (.str w),none,none] τ=
   .ok (.next,[some (.ref s),some (.ref k),some (.str (T++w++List.replicate (n+1) 32)),some (.ref f),some (.str w),none,none]) τ')->(n<2)->(Src τ' s)->(τ'[f]?=some (.list (l++[.int T.length])))->Keep s σ0 τ'->Z):Z:=by
 have g:=Qac hf
 have st:=Qai hf (.list (l++[.int T.length]))
 have hs1:Src (τ.set f (.list (l++[.int T.length]))) s:=hs.keep nf rfl
 have hf1:(τ.set f (.list (l++[.int T.length])))[f]?=some (.list (l++[.int T.length])):=List.getElem?_set_self (List.getElem?_eq_some_iff.mp hf).1
 have k1:Keep s σ0 (τ.set f (.list (l++[.int T.length]))):=hk.setNew hn
 generalize τ.set f (.list (l++[.int T.length]))=τ1 at *
 clear hn hk hf hs;refine Qaw (d:=d) hs1 2 (by decide) (by decide) λ r τ2 c hr hs2 kp=>?_
 refine k0 r τ2 ?_ hr hs2 (kp.get nf hf1) (k1.trans kp)
 have l1:T.length<=1000000:=by lia
 have l2:l.length<=1000000:=by lia
 refine ((show ((1:Int)+r).toNat=r+1 from by lia)).symm.substr ?_
 exact Qbl (.gO g<|.sub (Qbn l1)<|.sub (Qak (y:=V.int (T.length:Int)) (Qaa g) st l2)<|.sub (QcQ (a:=T) (b:=w) (by refine List.length_append.substr ?_;exact (by lia)))<|.call c<|.val (V.int (1+(r:Int)))<|.sub (Qhg (c:=32) (b:=1+(r:Int)) (by lia))<|.sub (QcQ (a:=T++w) (b:=List.replicate (1+(r:Int)).toNat 32) (by simp only [(show ((1:Int)+r).toNat=r+1 from by lia),List.append_assoc,List.length_append,List.length_append,List.length_replicate];exact (by lia)))<|.nil) (by kernel_rfl)
end
section
open PySem
theorem QfD {as:V->Env->M Env}{b:X}{i w k ρ τ l}(g:getL i τ=.ok l τ) (n:l[k]?=none):Qes as b i (w+1) k ρ τ=.ok (.next,ρ) τ:=by
 rw [QgO];exact bok g (by rw [n];rfl)
theorem Qeb {as:V->Env->M Env}{b:X}{i w k ρ τ l v ρ1 τ1 ρ2 τ2}(g:getL i τ=.ok l τ) (n:l[k]?=some v) (a:as v ρ τ=.ok ρ1 τ1) (e:b ρ1 τ1=.ok (.next,ρ2) τ2):
  Qes as b i (w+1) k ρ τ=Qes as b i w (k+1) ρ2 τ2:=by
 rw [QgO];exact bok g (by rw [n];exact bok a (bok e rfl))
theorem QbX {σ:List O}{i l}(h:σ[i]?=some (.list l)):getL i σ=.ok l σ:=Qap h
noncomputable def E35 (s k f:Nat) (T:List Nat) (o:Option V):Env:=[some (.ref s),some (.ref k),some (.str T),some (.ref f),o,none,none]
theorem Qfl:∀ ps:List (List Nat×Nat),(∀ x∈ps,x.2<2/\x.1.length<=20)->(tbody ps).length<=22 * ps.length
 | [],_=>by simp [tbody]
 | (w,n)::r,h=>by
  have:=Qfl r (λ x m=>h x (by simp [m]))
  have:=h (w,n) (by simp)
  simp [tbody];simp at this;lia
theorem Qju {d:Nat}{σ0:List O}{s k f:Nat}{ws:List (List Nat)}(hk0:σ0[k]?=some (.list (ws.map .str))) (ks:k≠s) (nf:f≠s) (hn:σ0.length<=f) (hw:∀ w∈ws,w.length<=20) (hl:ws.length<=100):∀ (r:List (List Nat)) (q:Nat) (T:List Nat) (l:List V) (τ:List O) (o:Option V) (fuel:Nat),ws.drop q=r->q+r.length=ws.length->r.length<fuel->T.length<=22 * q+2->l.length<=q →
   Src τ s->τ[f]?=some (.list l)->Keep s σ0 τ->∀ {Z:Prop},(∀ (ps:List (List Nat×Nat)) (τ':List O) (o':Option V),(Qes (assign cL (Qab cL (d+1)) 20 3 (.loc 4)) (Qau (ex cL (Qab cL (d+1)) 20 19) B35) k fuel q (E35 s k f T o) τ=
    .ok (.next,E35 s k f (T++tbody ps) o') τ')->(ps.map (·.1)=r)->((∀ x∈ps,x.2<2))->(Src τ' s)->(τ'[f]?=some (.list (l++spI T.length ps)))->Keep s σ0 τ'->Z)->Z
 | [],q,T,l,τ,o,fuel,hd,hq,hf,hT,hll,hs,hfl,kp,_,k0=>by
  obtain ⟨n,rfl⟩:∃ n,fuel=n+1:=⟨fuel - 1,by simp at hf;lia⟩
  have g:=QbX (kp.get ks hk0)
  refine k0 [] τ o ?_ rfl (by trivial) hs (by simpa [QjW,QjX] using hfl) kp
  refine (QfD g (by simp at hq;simp_all)).substr ?_;simp [tbody]
 | w::r,q,T,l,τ,o,fuel,hd,hq,hf,hT,hll,hs,hfl,kp,_,k0=>by
  obtain ⟨n,rfl⟩:∃ n,fuel=n+1:=⟨fuel - 1,by simp at hf;lia⟩
  have e0:ws[q]?=some w:=by have:=Qag hd 0;exact this
  have wl:w.length<=20:=hw w (List.mem_of_getElem? e0)
  refine b35 (d:=d) (k:=k) (T:=T) (w:=w) hs hfl nf kp hn (by lia) (by lia) (by lia) λ m τ1 e hm hs1 hf1 k1=>?_
  refine Qju (d:=d) hk0 ks nf hn hw hl r (q+1) (T++w++List.replicate (m+1) 32) (l++[.int T.length]) τ1 (some (.str w)) n (by refine List.drop_drop.symm.substr ?_;refine hd.substr ?_;rfl) (by simp at hq;lia) (by simp at hf;simp_all)
   (by simp;lia) (by simp;simp_all) hs1 hf1 k1 λ ps τ2 o' e2 h1 h2 h3 h4 h5=>?_
  refine k0 ((w,m)::ps) τ2 o' ?_ (by simp [h1]) ?_ h3 ?_ h5
  ·refine (Qeb (QbX (kp.get ks hk0)) (v:=.str w) (by simp [e0]) (rfl:assign cL (Qab cL (d+1)) 20 3 (.loc 4) (.str w) (E35 s k f T o) τ=.ok (E35 s k f T (some (.str w))) τ) e).substr ?_
   have:T++tbody ((w,m)::ps)=T++w++List.replicate (m+1) 32++tbody ps:=by simp [tbody]
   refine (this).symm▸?_;exact e2
  ·intro x hx;simp at hx;rcases hx with rfl | hx;exact hm;exact h2 x hx
  ·refine h4.substr ?_;simp [QjW,QjX,Nat.add_assoc]
theorem QhI {d:Nat}{σ:List O}{s k:Nat}(hs:Src σ s) {ws:List (List Nat)}(hk:σ[k]?=some (.list (ws.map .str))) (ks:k≠s) (hw:∀ w∈ws,w.length<=20) (hl:ws.length<=100) {Z:Prop}(k0:∀ (n0:Nat) (ps:List (List Nat×Nat)) (m:Nat) (σ':List O),(Qab cL (d+2) (.fn 35) [.ref s,.ref k] σ=.ok (.tup [.str (txt n0 ps),.ref m]) σ')->(n0<2)->(ps.map (·.1)=ws)->((∀ x∈ps,x.2<2))->(Src σ' s)->(σ'[m]?=some (.list (Qbv n0 ps)))->(σ.length<=m)->(Keep s σ σ')->(txt n0 ps).length<=10000->Z):Z:=by
 refine Qaw (d:=d) hs 2 (by decide) (by decide) λ n0 σ1 c h0 hs1 kp=>?_
 have n1:=Qah [] (by simp) σ1
 have nf:σ1.length≠s:=by have:=hs1.lt;lia
 have k2:=kp.trans (Keep.app s σ1 [.list []])
 have f2:(σ1++[O.list []])[σ1.length]?=some (.list []):=by simp
 refine Qju (d:=d) hk ks nf kp.1 hw hl ws 0 (List.replicate n0 32) [] (σ1++[.list []]) none cL.W rfl (by simp) (Nat.lt_of_le_of_lt hl (by decide)) (by simp;exact Nat.le_of_lt ‹_›) (by simp) (hs1.app [.list []]) f2 k2 λ ps σ3 o' e h1 h2 hs3 f3 k3=>?_
 have lps:ps.length<=100:=by have:=congrArg List.length h1;simp at this;simp_all
 have lb:=Qfl ps (λ x hx=>⟨h2 x hx,hw x.1 (by refine h1.symm.substr ?_;exact List.mem_map_of_mem hx)⟩)
 have lt:(txt n0 ps).length<=10000:=by simp [txt];lia
 have n3:=Qah [.int (txt n0 ps).length] (by simp) σ3
 have g3':getO σ1.length (σ3++[.list [.int (txt n0 ps).length]])=.ok (.list ([]++spI (List.replicate n0 32).length ps)) (σ3++[.list [.int (txt n0 ps).length]]):=
  Qac ((Keep.app s σ3 _).get nf f3)
 have g4:=QaX σ3 (.list [.int (txt n0 ps).length])
 have spl:(spI n0 ps).length<=100:=by
  have:∀ (ps:List (List Nat×Nat)) a,(spI a ps).length=ps.length:=by
   intro ps;induction ps with
   | nil=>intro a;rfl
   | cons x r ih=>intro a;simp [QjW,QjX,ih]
  rw [this];exact lps
 have n5:=Qah (spI n0 ps++[.int (txt n0 ps).length]) (by simp;lia) (σ3++[.list [.int (txt n0 ps).length]])
 refine k0 n0 ps (σ3++[O.list [.int (txt n0 ps).length]]).length (σ3++[.list [.int (txt n0 ps).length]]++[.list (Qbv n0 ps)]) ?_ h0 h1 h2 ((hs3.app _).app _) (by simp) ?_ ((k3.trans (Keep.app ..)).trans (Keep.app ..)) lt
 ·have LE:∀ ρ τ,(∃ v,getL k τ=.ok v τ)->ρ[1]?=some (some (.ref k))->ex cL (Qab cL (d+1)) 20 20 (.for (.loc 4) (.loc 1) B35) ρ τ=Qes (assign cL (Qab cL (d+1)) 20 3 (.loc 4)) (Qau (ex cL (Qab cL (d+1)) 20 19) B35) k cL.W 0 ρ τ:=by
   rintro ρ τ ⟨v,hv⟩ hρ
   rw [Qn5,QaM,Qii];refine hρ.substr ?_;simp only [Qlu];simp only [QaM,hv]
  have L:=LE (E35 s k σ1.length (List.replicate n0 32) none) (σ1++[.list []]) ⟨_,QbX (k2.get ks hk)⟩ rfl
  simp only [e] at L
  have e35:List.replicate n0 32++tbody ps=txt n0 ps:=rfl
  have ll:(txt n0 ps).length<=1000000:=by lia
  simp only [List.length_replicate,List.nil_append] at g3'
  unfold Qbv
  generalize txt n0 ps=t at *
  generalize spI n0 ps=sv at *
  generalize σ1++[O.list []]=σ2 at *
  generalize σ3++[O.list [.int t.length]]=σ4 at *
  generalize hf:σ4++[O.list (sv++[.int t.length])]=σ5 at *
  exact QaC (.call c<|.sub (Qhg (c:=32) (b:=(↑n0:Int)) (by lia))<|.sub n1<|.subX L<|.sub (Qbn ll)<|.sub n3<|.sub (Qa4 (Qaa g3') (Qaa g4) n5)<|.nil) (by kernel_rfl)
 ·have:=k3.1;simp;lia
end
section
open PySem
noncomputable def spN:Nat->List (List Nat×Nat)->Nat->Nat
 | a,[],_=>a
 | a,_::_,0=>a
 | a,(w,n)::r,p+1=>spN (a+w.length+(n+1)) r p
theorem QgZ:∀ (ps:List (List Nat×Nat)) (a p:Nat) (w:List Nat),(ps.map (·.1))[p]?=some w->(toks a ps)[p]?=some (tk (Qbt w) w (spN a ps p))
 | [],_,_,_,h=>by trivial
 | (w',n)::r,a,0,w,h=>by simp at h;subst h;rfl
 | (w',n)::r,a,p+1,w,h=>by
  exact QgZ r _ p w (by exact h)
theorem QmK (n0:Nat) (ps:List (List Nat×Nat)):Qa7 (QbQ n0 ps) (ps.map (·.1)) (spN n0 ps):=by
 intro p w h
 have:=QgZ ps n0 p w h
 simp only [QbQ,List.getElem?_append_left (List.getElem?_eq_some_iff.mp this).1];exact this
theorem Qjk:∀ (ps:List (List Nat×Nat)) (a p:Nat),p<=ps.length->(spI a ps++[.int ((a+(tbody ps).length:Nat))])[p]?=some (.int (spN a ps p))
 | [],a,p,h=>by simp at h;subst h;rfl
 | (w,n)::r,a,0,h=>rfl
 | (w,n)::r,a,p+1,h=>by
  have:=Qjk r (a+w.length+(n+1)) p (by simpa using h)
  have e:a+(tbody ((w,n)::r)).length=a+w.length+(n+1)+(tbody r).length:=by
   show a+(w++(List.replicate (n+1) 32++tbody r)).length=_
   simp only [List.length_append,List.length_replicate,Nat.add_assoc]
  rw [e];exact this
theorem QhG (n0:Nat) (ps:List (List Nat×Nat)) (p:Nat) (h:p<=ps.length):(Qbv n0 ps)[p]?=some (.int (spN n0 ps p)):=by
 have:=Qjk ps n0 p h
 simp only [Qbv,txt,List.length_append,List.length_replicate];exact this
theorem Qg7 {d:Nat}{σ:List O}(w:List Nat) (q:Nat):Qab cL (d+1) (.fn 37) [.str w,.int q] σ=.ok (tyV w q) σ:=by
 unfold tyV gen Qim Qin Qn4
 by_cases h1:w=[33]
 ·refine (if_pos (bT h1)).substr ?_
  exact QaC (.val (V.bool (w==[33]))<|.ask (bT h1)<|.nil) (by kernel_rfl)
 ·refine (if_neg (by simpa using h1)).substr ?_
  by_cases h2:w=[95]
  ·refine (if_pos (bT h2)).substr ?_
   exact QaC (.val (V.bool (w==[33]))<|.ask (bF h1)<|.val (V.bool (w==[95]))<|.ask (bT h2)<|.nil) (by kernel_rfl)
  ·refine (if_neg (by simpa using h2)).substr ?_
   exact QaC (.val (V.bool (w==[33]))<|.ask (bF h1)<|.val (V.bool (w==[95]))<|.ask (bF h2)<|.nil) (by kernel_rfl)
theorem QhK {d:Nat}{σ σ':List O}{c i j r:Nat}{rows:List V}{p:Nat}{dp:Int}{v:V}(h:W σ' i j r rows p dp) (e:Qab cL d (.ref c) [] σ=.ok v σ'):
  Qab cL (d+1) (.fn 36) [.ref c,.ref i] σ=.ok (.tup [v,.int p]) σ':=by
 exact QaC (.subX (Qmu (Qbl (.call e .nil) (by kernel_rfl)):ex cL (Qab cL d) 20 20 (.tryR [.asg (.loc 2) (.call (.loc 0) [])]) [some (.ref c),some (.ref i),none,none,none] σ=.ok (.next,[some (.ref c),some (.ref i),some v,none,none]) σ')<|.sub (QbK (a:=1) h.wi h.wj rfl) .nil) (by kernel_rfl)
theorem QiC {d:Nat}{σ σ':List O}{c i:Nat}{m s:V}(e:Qab cL d (.ref c) [] σ=.exc m s σ'):
  Qab cL (d+1) (.fn 36) [.ref c,.ref i] σ=.ok (.ref σ'.length) (σ'++[.list [m,s]]):=by
 exact QaC (.subX (Qkk (Qct .nil e (by kernel_rfl)):ex cL (Qab cL d) 20 20 (.tryR [.asg (.loc 2) (.call (.loc 0) [])]) [some (.ref c),some (.ref i),none,none,none] σ=.ok (.ret (.ref σ'.length),[some (.ref c),some (.ref i),none,none,none]) (σ'++[.list [m,s]])) .nil) (by kernel_rfl)
end
section
open PySem
theorem QjE {α:Type}{bd:Env->V->M (Env×List V)}{i:Nat}{τ:List O}{F:List α}{f:α->V}{g:α->List V}(P:Env->Prop) (hl:τ[i]?=some (.list (F.map f)))
  (hb:∀ x∈F,∀ ρ,P ρ->∃ ρ',bd ρ (f x) τ=.ok (ρ',g x) τ/\P ρ'):∀ (r:List α) (k w:Nat) (ρ:Env),F.drop k=r->r.length<w->P ρ->compLoop bd i w k ρ τ=.ok (r.flatMap g) τ
 | [],k,n+1,ρ,hd,hw,hP=>by
  have e:(F.map f)[k]?=none:=by simp only [List.getElem?_map,show F[k]?=none by simpa using hd];rfl
  exact bok (Qap hl) (by refine e.substr ?_;rfl)
 | x::r,k,n+1,ρ,hd,hw,hP=>by
  have e:F[k]?=some x:=by have:=Qag hd 0;exact this
  have e':(F.map f)[k]?=some (f x):=by simp only [List.getElem?_map,e];rfl
  obtain ⟨ρ',b,hP'⟩:=hb x (List.mem_of_getElem? e) ρ hP
  exact bok (Qap hl) (by refine e'.substr ?_;exact bok b (bok (QjE P hl hb r (k+1) n ρ' (by refine List.drop_drop.symm.substr ?_;refine hd.substr ?_;rfl) (Nat.lt_of_succ_lt_succ hw) hP') rfl))
section
variable {α:Type}{cx:Cx}{call:V->List V->M V}{n:Nat}{ρ ρ':Env}{elt iter:CE}{ts:List Nat}{single:Bool}{ifs:List CE}{m:Nat}{fr:List (Nat×Nat)}{τ:List O}{kf:Nat}{F:List α}{f:α->V}(P:Env->Prop)
 (hE:Qae ρ fr (List.replicate m none)=some ρ') (hi:ev cx call n ρ iter τ=.ok (.ref kf) τ) (hl:τ[kf]?=some (.list (F.map f))) (hP:P ρ') (hw:F.length<cx.W)
include hE hi hl hP hw
theorem Ql8 (g:α->Bool) (u:α->V) (hb:∀ x∈F,∀ ρ,P ρ->∃ ρ1,And4 (tgt ts single ρ (f x) τ=.ok ρ1 τ) (Qe5 (tr cx call n ρ1) ifs τ=.ok (g x) τ) (g x=true->ev cx call n ρ1 elt τ=.ok (u x) τ) (P ρ1)):
  ev cx call (n+1) ρ (.comp elt ts single iter ifs m fr) τ=QaQ (F.flatMap λ x=>match g x with | true=>[u x] | false=>[]) τ:=by
 have L:=QjE (bd:=λ ρ v=>M.bind (tgt ts single ρ v) λ ρ=>M.bind (Qe5 (tr cx call n ρ) ifs) λ b=>if b then M.bind (ev cx call n ρ elt) λ x=>M.ret (ρ,[x]) else M.ret (ρ,[]))
  (g:=λ x=>match g x with | true=>[u x] | false=>[]) P hl (λ x hx ρ hρ=>by
   obtain ⟨ρ1,a,b,c,d⟩:=hb x hx ρ hρ
   refine ⟨ρ1,bok a (bok b ?_),d⟩
   cases hg:g x with
   | true=>exact bok (c hg) rfl
   | false=>rfl) F 0 cx.W ρ' rfl hw hP
 have e:ev cx call (n+1) ρ (.comp elt ts single iter ifs m fr)=(match Qae ρ fr (List.replicate m none) with
    | some ρ'=>M.bind (ev cx call n ρ iter) λ v=>M.bind (asRef v) λ i=>M.bind (getL i) λ _=>
     M.bind (M.noExc (compLoop (λ ρ v=>M.bind (tgt ts single ρ v) λ ρ=>M.bind (Qe5 (tr cx call n ρ) ifs) λ b=>if b then M.bind (ev cx call n ρ elt) λ x=>M.ret (ρ,[x]) else M.ret (ρ,[])) i cx.W 0 ρ')) QaQ
    | none=>M.stuck):=rfl
 refine e.substr ?_;refine hE.substr ?_
 exact bok hi (bok (m:=asRef (.ref kf)) rfl (bok (Qap hl) (bok (by unfold M.noExc;refine L.substr ?_;rfl) rfl)))
end
theorem fm1 {α:Type}(u:α->V):∀ F:List α,F.flatMap (λ x=>[u x])=F.map u
 | []=>rfl
 | x::r=>congrArg (u x::·) (fm1 u r)
theorem Qij {α:Type}{cx:Cx}{call:V->List V->M V}{n:Nat}{ρ ρ':Env}{elt iter:CE}{ts:List Nat}{single:Bool}{m:Nat}{fr:List (Nat×Nat)}{τ:List O}{kf:Nat}{F:List α}{f:α->V}(P:Env->Prop)
 (hE:Qae ρ fr (List.replicate m none)=some ρ') (hi:ev cx call n ρ iter τ=.ok (.ref kf) τ) (hl:τ[kf]?=some (.list (F.map f))) (hP:P ρ') (hw:F.length<cx.W) (u:α->V) (hn:F.length<=1000000)
 (hb:∀ x∈F,∀ ρ,P ρ->∃ ρ1,And3 (tgt ts single ρ (f x) τ=.ok ρ1 τ) (ev cx call n ρ1 elt τ=.ok (u x) τ) (P ρ1)):
  ev cx call (n+1) ρ (.comp elt ts single iter [] m fr) τ=.ok (.ref τ.length) (τ++[.list (F.map u)]):=by
 refine (Ql8 P hE hi hl hP hw (λ _=>true) u λ x hx ρ hρ=>by
  obtain ⟨ρ1,a,b,c⟩:=hb x hx ρ hρ
  exact ⟨ρ1,a,rfl,λ _=>b,c⟩).substr ?_
 rw [fm1];exact QaD _ (Qb0 hn) τ
noncomputable def fv (x:Nat×List Nat):V:=.tup [.int x.1,.str x.2]
theorem Qmh:∀ F:List (Nat×List Nat),allInts (F.map λ x=>V.int x.1)=some (F.map λ x=>(x.1:Int))
 | []=>rfl
 | a::r=>by show (allInts (r.map λ x=>V.int x.1)).map ((a.1:Int)::·)=_;rw [Qmh r];rfl
theorem Qhh (a:Int):∀ l:List Int,(∀ x∈l,a<=x)->l.foldl (λ x y=>if y<x then y else x) a=a
 | [],_=>rfl
 | y::r,h=>by
  have h1:=h y (by simp)
  refine List.foldl_cons.substr ?_;refine (if_neg (by simp_all)).substr ?_
  exact Qhh a r (λ x m=>h x (by simp [m]))
noncomputable def Fr (σ σ':List O):Prop:=σ.length<=σ'.length/\∀ k,k<σ.length->σ'[k]?=σ[k]?
theorem Fr.refl (σ):Fr σ σ:=⟨Nat.le_refl _,λ _ _=>rfl⟩
theorem Fr.trans {a b c}(x:Fr a b) (y:Fr b c):Fr a c:=⟨Nat.le_trans x.1 y.1,λ k l=>(y.2 k (Nat.lt_of_lt_of_le l x.1)).trans (x.2 k l)⟩
theorem Fr.app (σ l):Fr σ (σ++l):=⟨by simp,λ k m=>List.getElem?_append_left m⟩
theorem Fr.get {σ σ':List O}{k:Nat}{o:O}(x:Fr σ σ') (e:σ[k]?=some o):σ'[k]?=some o:=by simp only [x.2 k (List.getElem?_eq_some_iff.mp e).1,e]
theorem Fr.set {σ σ':List O}{k:Nat}{o:O}(x:Fr σ σ') (h:σ.length<=k):Fr σ (σ'.set k o):=⟨by simp;exact x.1,λ i l=>by exact (List.getElem?_set_ne (by lia)).trans (x.2 i l)⟩
theorem Fr.keep {σ σ'}(x:Fr σ σ') (j):Keep j σ σ':=⟨x.1,λ k _ l=>x.2 k l⟩
theorem Fr.src {σ σ' s}(x:Fr σ σ') (h:Src σ s):Src σ' s:=by
 obtain ⟨a,b,e,r1,r2,r3⟩:=h
 exact ⟨a,b,x.get e,r1,r2,r3⟩
theorem Qhq {σ:List O}{i j:Nat}{a b:List V}(h1:σ[i]?=some (.list a)) (h2:σ[j]?=some (.list b)) {r:RS V}(h:(if a.length=b.length then asB (QfT (eqV 8) a b) else M.ret (.bool false)) σ=r):QaJ .eq (.ref i) (.ref j) σ=r:=
 bok (Qap h1) (bok (Qap h2) h)
theorem QiF {d:Nat}{σ:List O}{k:Nat}{m:V}(hk:σ[k]?=some (.list [])):∃ σ',Qab cL (d+1) (.fn 38) [.ref k,m] σ=.ok .none σ'/\Fr σ σ':=by
 refine ⟨_,?_,(Fr.app σ [.cell none]).trans (Fr.app _ [.list []])⟩
 exact QaC (.new<|.sub (QaD [] (by decide) _)<|.sub (Qhq (QcG (QcG hk _) _) (QaL _ _) rfl)<|.ask (b:=true) (c:=true) rfl<|.nil) (by kernel_rfl)
theorem Qkx {d:Nat}{σ:List O}{k m:Nat}{a:Nat}{msg:List Nat}{r:List (Nat×List Nat)}(hk:σ[k]?=some (.list (((a,msg)::r).map fv))) (hr:∀ x∈r,a<=x.1) (lr:r.length<900)
  {sps:List V}{q:Nat}(hm:σ[m]?=some (.list sps)) (hq:sps[a]?=some (.int q)) (ha:a<1000) {Z:Prop}(k0:∀ e σ',(Qab cL (d+1) (.fn 38) [.ref k,.ref m] σ=.ok (.ref e) σ')->(σ'[e]?=some (.list [.str msg,.int q]))->Fr σ σ'->Z):Z:=by
 have lF:((a,msg)::r).length<1000:=by simp only [List.length_cons];lia
 have f2:=(Fr.app σ [.cell none]).trans (Fr.app (σ++[.cell none]) [.list []])
 have cC:(σ++[O.cell none]++[O.list []])[σ.length]?=some (.cell none):=QcG (QaL _ _) _
 have e0:=Qhq (f2.get hk) (QaL _ _) rfl
 have n0:=QaD [] (by decide) (σ++[.cell none])
 generalize σ++[.cell none]++[.list []]=σ2 at *
 have c1:ev cL (Qab cL d) 19 [some (.ref k),some (.ref m),some (.ref σ.length),none] (.comp (.loc 1) [1,2] false (.loc 0) [] 3 []) σ2=.ok (.ref σ2.length) (σ2++[.list (((a,msg)::r).map λ x=>V.int x.1)]):=
  Qij (λ ρ=>ρ.length=3) rfl rfl (f2.get hk) rfl (Nat.lt_trans lF (by decide)) (λ (x:Nat×List Nat)=>V.int x.1) (by lia) (λ (x:Nat×List Nat) _ ρ hρ=>match ρ,hρ with
   | [o1,_,_],_=>⟨[o1,some (.int x.1),some (.str x.2)],rfl,rfl,rfl⟩)
 have f3:=f2.trans (Fr.app σ2 [.list (((a,msg)::r).map λ x=>V.int x.1)])
 have cC3:=QcG cC [.list (((a,msg)::r).map λ x=>V.int x.1)]
 have mn:builtin .min [.ref σ2.length] (σ2++[.list (((a,msg)::r).map λ x=>V.int x.1)])=.ok (.int a) (σ2++[.list (((a,msg)::r).map λ x=>V.int x.1)]):=by
  have hmin:minI (((a,msg)::r).map λ x=>(x.1:Int))=some (a:Int):=congrArg some (Qhh _ _ λ x hx=>by obtain ⟨y,hy,rfl⟩:=List.mem_map.mp hx;have:=hr y hy;simp_all)
  refine bok (Qap (QaL _ _)) ?_
  rw [Qmh];dsimp only;refine hmin.substr ?_
  exact QbG (show _<=cap from by rw [List.length_map];unfold cap;lia) rfl
 generalize σ2++[.list (((a,msg)::r).map λ x=>V.int x.1)]=σ3 at *
 have f4:=f3.set (k:=σ.length) (o:=.cell (some (.int a))) (Nat.le_refl _)
 have cC4:=Qdb (.cell (some (.int a))) cC3
 have sC:=QbU cC3 (.cell (some (.int a)))
 generalize σ3.set σ.length (.cell (some (.int a)))=σ4 at *
 obtain ⟨y,c2,ly⟩:∃ y,ev cL (Qab cL d) 18 [some (.ref k),some (.ref m),some (.ref σ.length),none] (.comp (.loc 2) [1,2] false (.loc 0) [(.cmp .eq (.loc 1) (.cel 3))] 4 [(3,2)]) σ4=.ok (.ref σ4.length) (σ4++[.list (.str msg::y)])/\y.length<=1000:=by
  have ly:∀ r:List (Nat×List Nat),(r.flatMap (λ x=>match (x.1:Int)==(a:Int) with | true=>[V.str x.2] | false=>[])).length<=r.length:=by
   intro r;induction r with
   | nil=>exact Nat.le_refl _
   | cons x q ih=>
    refine List.flatMap_cons.substr ?_;rw [List.length_append,List.length_cons,Nat.add_comm]
    refine Nat.add_le_add ih ?_
    split<;>exact Nat.le_of_ble_eq_true rfl
  refine ⟨r.flatMap (λ x=>match (x.1:Int)==(a:Int) with | true=>[V.str x.2] | false=>[]),?_,Nat.le_trans (ly r) (by lia)⟩
  have T:∀ (x:Nat×List Nat) (o1:Option V),Qe5 (tr cL (Qab cL d) 17 [o1,some (.int x.1),some (.str x.2),some (.ref σ.length)]) [(.cmp .eq (.loc 1) (.cel 3))] σ4=.ok ((x.1:Int)==(a:Int)) σ4:=λ x o1=>
   bok (m:=tr cL (Qab cL d) 17 _ _) (Qh4 (v:=(x.1:Int)==(a:Int)) (.get cC4<|.val (V.bool ((x.1:Int)==(a:Int)))<|.nil) (by kernel_rfl)) (by cases (x.1:Int)==(a:Int)<;>rfl)
  refine (Ql8 (λ ρ=>Ex3 λ o1 o2 o3=>ρ=[o1,o2,o3,some (.ref σ.length)]) rfl rfl (f4.get hk) ⟨_,_,_,rfl⟩ (Nat.lt_trans lF (by decide)) (λ x=>(x.1:Int)==(a:Int)) (λ x=>V.str x.2)
   (λ x _ ρ ⟨o1,o2,o3,e⟩=>⟨[o1,some (.int x.1),some (.str x.2),some (.ref σ.length)],by refine e.substr ?_;rfl,T x o1,λ _=>rfl,_,_,_,rfl⟩)).substr ?_
  refine List.flatMap_cons.substr ?_;refine (show ((a:Int)==(a:Int))=true from BEq.refl _).substr ?_
  exact QaD _ (by have:=ly r;simp only [List.cons_append,List.nil_append,List.length_cons];lia) _
 have f5:=f4.trans (Fr.app σ4 [.list (.str msg::y)])
 refine k0 _ _ ?_ (QaL _ _) (f5.trans (Fr.app _ [.list [.str msg,.int q]]))
 exact QaC (.new<|.sub n0<|.sub e0<|.no<|.sub c1<|.sub mn<|.get cC3<|.sO sC<|.sub c2<|.sub (Qaz (k:=0) (QaL _ _) rfl (by decide))<|.get (QcG cC4 _)<|.sub (Qaz (f5.get hm) hq (by lia))<|.sub (QaD [.str msg,.int q] (Nat.le_of_ble_eq_true rfl) _)<|.nil) (by kernel_rfl)
end
section
open PySem
noncomputable abbrev Row:=List Nat×Nat×Bool×List Nat
noncomputable def rv (x:Row):V:=.tup [.str x.1,.int x.2.1,.bool x.2.2.1]
theorem Qg3 {d:Nat}{σ:List O}{wk rk m:Nat}{ws:List (List Nat)}{R:List Row}{sps:List V}{sp:Nat->Nat}
  (hw:σ[wk]?=some (.list (ws.map .str))) (hk:σ[rk]?=some (.list (R.map rv))) (hm:σ[m]?=some (.list sps))
  (hR:∀ x∈R,ws[x.2.1]?=some x.2.2.2/\sps[x.2.1]?=some (.int (sp x.2.1))/\x.2.1<1000) (lR:R.length<900) {Z:Prop}(k0:∀ σ',Qab cL (d+2) (.fn 40) [.ref wk,.ref rk,.ref m] σ=.ok (.tup (R.map (QcF sp))) σ'->Fr σ σ'->Z):Z:=by
 have f1:=(((Fr.app σ [.cell none]).trans (Fr.app _ [.cell none])).set (k:=σ.length) (o:=.cell (some (.ref wk))) (Nat.le_refl _)).set (k:=(σ++[O.cell none]).length) (o:=.cell (some (.ref m))) (by simp only [List.length_append];exact Nat.le_add_right _ _)
 have ne:(σ++[O.cell none]).length≠σ.length:=by simp only [List.length_append,List.length_cons,List.length_nil];lia
 have a0:(σ++[O.cell none]++[O.cell none])[σ.length]?=some (.cell none):=QcG (QaL _ _) _
 have a1:=QfS (.cell (some (.ref wk))) ne.symm (QaL (σ++[O.cell none]) (.cell none))
 have b0:=QfS (.cell (some (.ref m))) ne (Qdb (.cell (some (.ref wk))) a0)
 have b1:=Qdb (.cell (some (.ref m))) a1
 have s0:=QbU a0 (.cell (some (.ref wk)))
 have s1:=QbU a1 (.cell (some (.ref m)))
 generalize (σ++[O.cell none]++[O.cell none]).set σ.length (.cell (some (.ref wk)))=σ0 at *
 generalize σ0.set (σ++[O.cell none]).length (.cell (some (.ref m)))=σ1 at *
 have c:ev cL (Qab cL (d+1)) 19 [some (.ref σ.length),some (.ref rk),some (.ref (σ++[O.cell none]).length),none] (.comp (.tup [(.loc 1),(.call (.glob 37) [(.idx (.cel 6) (.loc 2)),(.idx (.cel 5) (.loc 2))]),(.loc 3)]) [1,2,3] false (.loc 1) [] 7 [(5,2),(6,0)]) σ1=
   .ok (.ref σ1.length) (σ1++[.list (R.map (QcF sp))]):=
  Qij (λ ρ=>Ex5 λ o1 o2 o3 o4 o5=>ρ=[o1,o2,o3,o4,o5,some (.ref (σ++[O.cell none]).length),some (.ref σ.length)]) rfl rfl (f1.get hk) ⟨_,_,_,_,_,rfl⟩ (Nat.lt_trans lR (by decide)) (QcF sp) (by lia)
   (λ (x:Row) hx ρ ⟨o1,o2,o3,o4,o5,e⟩=>by
    have zq:=hR x hx
    refine ⟨[o1,some (.str x.1),some (.int x.2.1),some (.bool x.2.2.1),o5,some (.ref (σ++[O.cell none]).length),some (.ref σ.length)],by refine e.substr ?_;rfl,?_,_,_,_,_,_,rfl⟩
    exact QnR (.get b0<|.sub (Qaz (f1.get hw) (show (ws.map V.str)[x.2.1]?=some (.str x.2.2.2) from by simp only [List.getElem?_map,zq.1];rfl) (by lia))<|.get b1<|.sub (Qaz (f1.get hm) zq.2.1 (by lia))<|.call (Qg7 x.2.2.2 (sp x.2.1)) .nil) (by kernel_rfl))
 refine k0 _ ?_ (f1.trans (Fr.app σ1 [.list (R.map (QcF sp))]))
 exact QaC (.new<|.new<|.get a0<|.sO s0<|.get a1<|.sO s1<|.sub c<|.sub (QbI (QaL _ _) (Qb0 (by lia))) .nil) (by kernel_rfl)
end
section
open PySem
structure FS (σ0 τ:List O) (s kw kr kf:Nat) (ws:List (List Nat)) (rs:List Row) (fs:List (Nat×List Nat)):Prop where
 src:Src τ s
 hw:τ[kw]?=some (.list (ws.map .str))
 hr:τ[kr]?=some (.list (rs.map rv))
 hf:τ[kf]?=some (.list (fs.map fv))
 kp:Keep s σ0 τ
 sl:s<σ0.length
 nw:σ0.length<=kw
 nr:σ0.length<=kr
 nf:σ0.length<=kf
 wr:kw≠kr
 wf:kw≠kf
 rf:kr≠kf
section
variable {σ0 τ τ':List O}{s kw kr kf:Nat}{ws:List (List Nat)}{rs:List Row}{fs:List (Nat×List Nat)}
theorem FS.step (x:FS σ0 τ s kw kr kf ws rs fs) (k:Keep s τ τ') (h:Src τ' s):FS σ0 τ' s kw kr kf ws rs fs:=
 have:=x.sl
 ⟨h,k.get (by have:=x.nw;lia) x.hw,k.get (by have:=x.nr;lia) x.hr,k.get (by have:=x.nf;lia) x.hf,x.kp.trans k,x.sl,x.nw,x.nr,x.nf,x.wr,x.wf,x.rf⟩
theorem FS.addW (x:FS σ0 τ s kw kr kf ws rs fs) (l):FS σ0 (τ.set kw (.list ((ws++l).map .str))) s kw kr kf (ws++l) rs fs:=
 have:=x.sl
 have:=x.nw
 ⟨x.src.keep (f:=kw) (by lia) rfl,List.getElem?_set_self (List.getElem?_eq_some_iff.mp x.hw).1,by exact (List.getElem?_set_ne x.wr).trans x.hr,by exact (List.getElem?_set_ne x.wf).trans x.hf,
  x.kp.setNew x.nw,x.sl,x.nw,x.nr,x.nf,x.wr,x.wf,x.rf⟩
theorem FS.addR (x:FS σ0 τ s kw kr kf ws rs fs) (l):FS σ0 (τ.set kr (.list ((rs++l).map rv))) s kw kr kf ws (rs++l) fs:=
 have:=x.sl
 have:=x.nr
 ⟨x.src.keep (f:=kr) (by lia) rfl,by exact (List.getElem?_set_ne x.wr.symm).trans x.hw,List.getElem?_set_self (List.getElem?_eq_some_iff.mp x.hr).1,by exact (List.getElem?_set_ne x.rf).trans x.hf,
  x.kp.setNew x.nr,x.sl,x.nw,x.nr,x.nf,x.wr,x.wf,x.rf⟩
theorem FS.addF (x:FS σ0 τ s kw kr kf ws rs fs) (l):FS σ0 (τ.set kf (.list ((fs++l).map fv))) s kw kr kf ws rs (fs++l):=
 have:=x.sl
 have:=x.nf
 ⟨x.src.keep (f:=kf) (by lia) rfl,by exact (List.getElem?_set_ne x.wf.symm).trans x.hw,by exact (List.getElem?_set_ne x.rf.symm).trans x.hr,List.getElem?_set_self (List.getElem?_eq_some_iff.mp x.hf).1,
  x.kp.setNew x.nf,x.sl,x.nw,x.nr,x.nf,x.wr,x.wf,x.rf⟩
end
noncomputable def S39 (i:Nat):CS:=B39.getD i .bad
theorem Qnu:B39=[S39 0,S39 1,S39 2,S39 3,S39 4,S39 5,S39 6]:=rfl
noncomputable def E39 (s kw kr kf many:Nat) (op cl:List Nat) (il cm:Bool) (bv:V) (o9 o10 o11 o12:Option V):Env:=
 [some (.ref s),some (.tup [.str op,.str cl]),some (.bool il),some (.ref kw),some (.ref kr),some (.ref kf),some (.int many),some bv,some (.bool cm),o9,o10,o11,o12,none,none,none,none,none,none,none,none]
section
variable {d:Nat}{σ0 τ:List O}{s kw kr kf:Nat}{ws:List (List Nat)}{rs:List Row}{fs:List (Nat×List Nat)}(x:FS σ0 τ s kw kr kf ws rs fs) (lw:ws.length<=1000) (lr:rs.length<=1000) (lf:fs.length<=1000)
 {many:Nat}{op cl:List Nat}{il cm:Bool}{bv:V}{o9 o10 o11 o12:Option V}
include x lw lr lf
theorem st1 (pub:Bool) (way:V) (nm:V) {Z:Prop}(k0:∀ τ',ex cL (Qab cL (d+2)) 20 19 (S39 1) (E39 s kw kr kf many op cl il cm bv o9 (some (.bool pub)) (some nm) (some way)) τ=.ok (.next,E39 s kw kr kf many op cl il cm bv o9 (some (.bool pub)) (some nm) (some way)) τ'->FS σ0 τ' s kw kr kf (ws++if pub then [PUB] else []) rs (fs++if pub&&!il then [(ws.length,PUBM)] else [])->Z):Z:=by
 have gw:=Qac x.hw
 have l1:ws.length<=1000000:=by lia
 cases pub
 ·refine k0 τ ?_ (by simpa using x)
  exact QaP (.no<|.nil) (by kernel_rfl)
 ·cases il
  ·have x1:=x.addF [(ws.length,PUBM)]
   have s1:=Qai x.hf (.list ((fs++[(ws.length,PUBM)]).map fv))
   generalize τ.set kf (.list ((fs++[(ws.length,PUBM)]).map fv))=τ1 at *
   have x2:=x1.addW [PUB]
   have s2:=Qai x1.hw (.list ((ws++[PUB]).map .str))
   generalize τ1.set kw (.list ((ws++[PUB]).map .str))=τ2 at *
   refine k0 τ2 ?_ (by exact x2)
   simp only [List.map_append,List.map_cons,List.map_nil,fv,PUB,PUBM] at *
   exact QaP (.yes<|.yes<|.gO (Qac x.hf)<|.sub (Qci (Qaa gw) l1)<|.sub (Qak (y:=V.tup [V.int ws.length,V.str PUBM]) (Qaa (Qac x.hf)) s1 (Qb0 (by lia)))<|.gO (Qac x1.hw)<|.sub (Qak (y:=V.str PUB) (Qaa (Qac x1.hw)) s2 (Qb0 l1))<|.nil) (by kernel_rfl)
  ·have x2:=x.addW [PUB]
   have s2:=Qai x.hw (.list ((ws++[PUB]).map .str))
   generalize τ.set kw (.list ((ws++[PUB]).map .str))=τ2 at *
   refine k0 τ2 ?_ (by simpa using x2)
   simp only [List.map_append,List.map_cons,List.map_nil,fv,PUB,PUBM] at *
   exact QaP (.yes<|.no<|.gO gw<|.sub (Qak (y:=V.str PUB) (Qaa gw) s2 (Qb0 l1))<|.nil) (by kernel_rfl)
end
end
section
open PySem
section
variable {d:Nat}{σ0 τ:List O}{s kw kr kf:Nat}{ws:List (List Nat)}{rs:List Row}{fs:List (Nat×List Nat)}(x:FS σ0 τ s kw kr kf ws rs fs)
 {many:Nat}{op cl:List Nat}{il cm:Bool}{bv:V}{o9 o10 o11 o12:Option V}
include x
theorem FS.pW (w:List Nat):FS σ0 (τ.set kw (.list (ws.map .str++[.str w]))) s kw kr kf (ws++[w]) rs fs:=by
 have:=x.addW [w];replace this:=List.map_append▸this;exact this
theorem FS.pF (y:Nat×List Nat):FS σ0 (τ.set kf (.list (fs.map fv++[fv y]))) s kw kr kf ws rs (fs++[y]):=by
 have:=x.addF [y];replace this:=List.map_append▸this;exact this
theorem FS.app (l:List O):FS σ0 (τ++l) s kw kr kf ws rs fs:=x.step ((Fr.app τ l).keep s) ((Fr.app τ l).src x.src)
variable (lw:ws.length<=1000) (lf:fs.length<=1000)
include lw lf
theorem st2 (way:Nat) (nm:List Nat) (ho:op=[123]) {Z:Prop}(k0:∀ τ',ex cL (Qab cL (d+2)) 20 19 (S39 2) (E39 s kw kr kf many op cl il cm bv o9 o10 (some (.str nm)) (some (.int way))) τ=.ok (.next,E39 s kw kr kf many op cl il cm bv o9 o10 (some (.str nm)) (some (.int way))) τ'->FS σ0 τ' s kw kr kf (ws++(if way=0 then FN else nm)::(if way=1 then [] else [COLON])) rs (fs++((if way=0 then [(ws.length,NAMEM)] else [])++(if way=1 then [(ws.length+1,COLONM)] else [])))->Z):Z:=by
 subst ho
 have l1:ws.length<=1000000:=by lia
 by_cases w0:way=0
 ·subst w0
  have x1:=x.pF (ws.length,NAMEM)
  have x2:=x1.pW FN
  have x3:=(x2.app [.list [.str COLON]]).app [.list [.str COLON]]
  exact k0 _ (QaP (.val (V.str [123])<|.val (V.bool true)<|.yes<|.val (V.bool true)<|.yes<|.get x.hf<|.sub (Qci x.hw l1)<|.sub (QdZ (fv (ws.length,NAMEM)) x.hf (Qb0 (by lia)))<|.get x1.hw<|.val (V.bool true)<|.yes<|.sub (QdZ (.str FN) x1.hw (Qb0 l1))<|.val (V.bool false)<|.no<|.get x2.hw <|
   .sub (QaD [.str COLON] (Nat.le_of_ble_eq_true rfl) _)<|.val (V.bool true)<|.val (V.int 1)<|.sub (Qgy (QaL _ _) (Nat.le_of_ble_eq_true rfl) (QaD [.str COLON] (Nat.le_of_ble_eq_true rfl) _))<|.sub (QgP x3.hw (QaL _ _) (by simp;lia))<|.nil) (by kernel_rfl)) (by simpa using x3.pW COLON)
 ·have x2:=x.pW nm
  have n0:¬ ((way:Int)=0):=by simp_all
  by_cases w1:way=1
  ·subst w1
   have x3:=x2.pF ((ws++[nm]).length,COLONM)
   exact k0 _ (QaP (.val (V.str [123])<|.val (V.bool true)<|.yes<|.val (V.bool false)<|.no<|.get x.hw<|.val (V.bool false)<|.no<|.sub (QdZ (.str nm) x.hw (Qb0 l1))<|.val (V.bool true)<|.yes<|.get x2.hf<|.sub (Qci x2.hw (by simp;lia)) <|
    .sub (QdZ (fv ((ws++[nm]).length,COLONM)) x2.hf (Qb0 (by lia)))<|.get x3.hw<|.sub (QaD [.str COLON] (Nat.le_of_ble_eq_true rfl) _)<|.val (V.bool false)<|.val (V.int 0)<|.sub (Qie (QaL _ _) (Nat.le_of_ble_eq_true rfl) (QaD [] (Nat.le_of_ble_eq_true rfl) _))<|.sub (QgP ((x3.app [.list [.str COLON]]).app [.list []]).hw (QaL _ _) (Nat.add_le_add (Qb0 (by simp;lia)) (Nat.le_refl 0)))<|.nil) (by kernel_rfl)) (by simpa using (((x3.app [.list [.str COLON]]).app [.list []]).addW []))
  ·skip
   exact k0 _ (QaP (.val (V.str [123])<|.val (V.bool true)<|.yes<|.val (V.bool ((way:Int)==0))<|.ask (bF n0)<|.get x.hw<|.val (V.bool ((way:Int)==0))<|.ask (bF n0)<|.sub (QdZ (.str nm) x.hw (Qb0 l1))<|.val (V.bool ((way:Int)==1))<|.ask (bF (show ¬ ((way:Int)=1) from by lia))<|.get x2.hw <|
    .sub (QaD [.str COLON] (Nat.le_of_ble_eq_true rfl) _)<|.val (V.bool ((way:Int) != 1))<|.sub (Qpc (nT (bF (show ¬ ((way:Int)=1) from by lia))))<|.sub (Qgy (QaL _ _) (Nat.le_of_ble_eq_true rfl) (QaD [.str COLON] (Nat.le_of_ble_eq_true rfl) _))<|.sub (QgP ((x2.app [.list [.str COLON]]).app [.list [.str COLON]]).hw (QaL _ _) (by simp;lia))<|.nil) (by kernel_rfl)) (by simpa [w0,w1] using ((x2.app [.list [.str COLON]]).app [.list [.str COLON]]).pW COLON)
omit lw lf x in
theorem QpJ (wy:Option V) (ho:op=[40]):ex cL (Qab cL (d+2)) 20 19 (S39 2) (E39 s kw kr kf many op cl il cm bv o9 o10 o11 wy) τ=
  .ok (.next,E39 s kw kr kf many op cl il cm bv o9 o10 o11 wy) τ:=by
 subst ho
 exact QaP (.val (V.str [40])<|.val (V.bool false)<|.no<|.nil) (by kernel_rfl)
theorem st3 (way:Nat) {Z:Prop}(k0:∀ τ',ex cL (Qab cL (d+2)) 20 19 (S39 3) (E39 s kw kr kf many op cl il cm bv o9 o10 o11 (some (.int way))) τ=
  .ok (.next,E39 s kw kr kf many op cl il cm bv o9 o10 o11 (some (.int way))) τ'->FS σ0 τ' s kw kr kf ws rs (fs++if way=2 then [(ws.length,NAMEM)] else [])->Z):Z:=by
 have l1:ws.length<=1000000:=by lia
 have l2:fs.length<=1000000:=by lia
 have gw:=Qac x.hw
 by_cases w2:way=2
 ·subst w2
  have x1:=x.addF [(ws.length,NAMEM)]
  have sf:=Qai x.hf (.list ((fs++[(ws.length,NAMEM)]).map fv))
  generalize τ.set kf (.list ((fs++[(ws.length,NAMEM)]).map fv))=τ1 at *
  refine k0 τ1 ?_ (by exact x1)
  simp only [List.map_append,List.map_cons,List.map_nil,fv,NAMEM] at *
  exact QaP (.val (V.bool true)<|.yes<|.gO (Qac x.hf)<|.sub (Qci (Qaa gw) l1)<|.sub (Qak (y:=V.tup [V.int ws.length,V.str NAMEM]) (Qaa (Qac x.hf)) sf (Qb0 l2))<|.nil) (by kernel_rfl)
 ·have n2:¬ ((way:Int)=2):=by lia
  refine k0 τ ?_ (by simpa [w2] using x)
  exact QaP (.val (V.bool ((↑way:Int)==2))<|.ask (bF n2)<|.nil) (by kernel_rfl)
end
end
section
open PySem
section
variable {d:Nat}{σ0 τ:List O}{s kw kr kf:Nat}{ws:List (List Nat)}{rs:List Row}{fs:List (Nat×List Nat)}(x:FS σ0 τ s kw kr kf ws rs fs)
 {many:Nat}{op cl:List Nat}{il cm:Bool}{bv:V}{o9 o10 o11 o12:Option V}
include x
theorem st0 (k:Nat) (hk:k<=2) (bi:Int) {Z:Prop}(k0:∀ (pub:Bool) (way:Nat) (τ':List O),ex cL (Qab cL (d+2)) 20 19 (S39 0) (E39 s kw kr kf many op cl il cm (.int bi) (some (.int k)) o10 o11 o12) τ=
  .ok (.next,E39 s kw kr kf many op cl il cm (.int bi) (some (.int k)) (some (.bool pub)) (some (.str (nmW k))) (some (.int way))) τ'->FS σ0 τ' s kw kr kf ws rs fs->Z):Z:=by
 refine Qaw (d:=d+1) x.src 3 (by decide) (by decide) λ r τ1 c1 _ hs1 k1=>?_
 have x1:=x.step k1 hs1
 have n:=Qah [.str [97],.str [98,49],.str [95,99]] (by trivial) τ1
 have x2:=x1.step (Keep.app s τ1 [.list [.str [97],.str [98,49],.str [95,99]]]) (x1.src.app _)
 have g:=QaX τ1 (.list [.str [97],.str [98,49],.str [95,99]])
 generalize τ1++[.list [.str [97],.str [98,49],.str [95,99]]]=τ2 at *
 have ix:QaK (.ref τ1.length) (.int k) τ2=.ok (.str (nmW k)) τ2:=by
  have:k=0∨k=1∨k=2:=by lia
  clear x1 k1 hs1 hk x;rcases this with rfl | rfl | rfl
  ·show M.bind (getL τ1.length) _ τ2=_
   rw [QaM,getL,QaM];refine g.substr ?_;rfl
  ·show M.bind (getL τ1.length) _ τ2=_
   rw [QaM,getL,QaM];refine g.substr ?_;rfl
  ·show M.bind (getL τ1.length) _ τ2=_
   rw [QaM,getL,QaM];refine g.substr ?_;rfl
 refine Qaw (d:=d+1) x2.src 4 (by decide) (by decide) λ r2 τ3 c2 _ hs3 k3=>?_
 generalize hnm:nmW k=nm at *
 by_cases hb:(k:Int)=bi
 ·refine k0 ((r:Int)==0) r2 τ3 ?_ (x2.step k3 hs3)
  generalize (k:Int)=κ at *
  subst hb
  exact QaP (.call c1<|.val (V.bool ((r:Int)==0))<|.sub n<|.sub ix<|.val (V.bool (κ==κ))<|.ask (BEq.refl κ)<|.call c2<|.nil) (by kernel_rfl)
 ·refine k0 ((r:Int)==0) 9 τ2 ?_ x2
  generalize (k:Int)=κ at *
  exact QaP (.call c1<|.val (V.bool ((↑r:Int)==0))<|.sub n<|.sub ix<|.val (V.bool (κ==bi))<|.ask (bF hb)<|.nil) (by kernel_rfl)
variable (lw:ws.length<=1000) (lr:rs.length<=900) (lf:fs.length<=1000)
include lw
include lr in
theorem st4 (nmd:Bool) (ho:op=if nmd then [123] else [40]) (k:Nat) (hk:k<=2) (pub:Bool) (nm w4:List Nat) {Z:Prop}(k0:∀ τ',ex cL (Qab cL (d+2)) 20 19 (S39 4) (E39 s kw kr kf many op cl il cm bv (some (.int k)) (some (.bool pub)) (some (.str nm)) o12) τ=
  .ok (.next,E39 s kw kr kf many op cl il cm bv (some (.int k)) (some (.bool pub)) (some (.str nm)) o12) τ'->FS σ0 τ' s kw kr kf ws (rs++[(if nmd then nm else Qeu k,ws.length,pub,w4)]) fs->Z):Z:=by
 have l1:ws.length<=1000000:=by lia
 have l2:rs.length<=1000000:=by lia
 have gw:=Qac x.hw
 have gr:=Qac x.hr
 have x1:=x.addR [(if nmd then nm else Qeu k,ws.length,pub,w4)]
 have sr:=Qai x.hr (.list ((rs++[(if nmd then nm else Qeu k,ws.length,pub,w4)]).map rv))
 generalize τ.set kr (.list ((rs++[(if nmd then nm else Qeu k,ws.length,pub,w4)]).map rv))=τ1 at *
 refine k0 τ1 ?_ x1
 have t1:tr cL (Qab cL (d+2)) 18 (E39 s kw kr kf many op cl il cm bv (some (.int k)) (some (.bool pub)) (some (.str nm)) o12) (.cmp .eq (.idx (.loc 1) (.k (.int 0))) (.k (.str [123]))) τ=.ok nmd τ:=by
  refine ho.substr ?_;cases nmd<;>rfl
 have k1:(k:Int)<1000:=by lia
 simp only [List.map_append,List.map_cons,List.map_nil,rv] at *
 clear t1 x1 hk lr lw x;cases nmd
 ·
  subst ho
  exact QaP (.gO gr<|.val (V.str [40])<|.val (V.bool false)<|.no<|.sub (Qdv (i:=(k:Int)) ⟨Int.natCast_nonneg _,k1⟩)<|.sub (Qci (Qaa gw) l1)<|.sub (Qak (y:=V.tup [V.str (Qeu (k:Int)),V.int (ws.length:Int),V.bool pub]) (Qaa gr) sr (Qb0 l2))<|.nil) (by kernel_rfl)
 ·
  subst ho
  exact QaP (.gO gr<|.val (V.str [123])<|.val (V.bool true)<|.yes<|.sub (Qci (Qaa gw) l1)<|.sub (Qak (y:=V.tup [V.str nm,V.int ws.length,V.bool pub]) (Qaa gr) sr (Qb0 l2))<|.nil) (by kernel_rfl)
end
end
section
open PySem
local macro_rules | `(tactic| walk_at "lb")=>`(tactic| first | assumption | lia | (simp;done) | (simp;lia))
section
variable {d:Nat}{σ0 τ:List O}{s kw kr kf:Nat}{ws:List (List Nat)}{rs:List Row}{fs:List (Nat×List Nat)}(x:FS σ0 τ s kw kr kf ws rs fs)
 {many:Nat}{op cl:List Nat}{il cm:Bool}{bv:V}{o9 o10 o11 o12:Option V}(lw:ws.length<=1000) (lf:fs.length<=1000)
include x
include lw in
theorem st5 (way:Nat) {Z:Prop}(k0:∀ (ty:List Nat) (τ':List O),(ex cL (Qab cL (d+2)) 20 19 (S39 5) (E39 s kw kr kf many op cl il cm bv o9 o10 o11 (some (.int way))) τ=
  .ok (.next,E39 s kw kr kf many op cl il cm bv o9 o10 o11 (some (.int way))) τ')->(ty∈TYS)->FS σ0 τ' s kw kr kf (ws++[if way=2 then SEMI else ty]) rs fs->Z):Z:=by
 have l1:ws.length<=1000000:=by lia
 have gw:=Qac x.hw
 by_cases w2:way=2
 ·subst w2
  have x1:=x.addW [SEMI]
  have sw:=Qai x.hw (.list ((ws++[SEMI]).map .str))
  generalize τ.set kw (.list ((ws++[SEMI]).map .str))=τ1 at *
  refine k0 [80] τ1 ?_ (by trivial) (by exact x1)
  simp only [List.map_append,List.map_cons,List.map_nil,SEMI] at *
  exact QaP (.gO gw<|.val (V.bool true)<|.yes<|.sub (Qak (y:=V.str [59]) (Qaa gw) sw (Qb0 l1))<|.nil) (by kernel_rfl)
 ·skip
  have n:=Qah (TYS.map .str) (by decide) τ
  have x2:=x.step (Keep.app s τ [.list (TYS.map .str)]) (x.src.app _)
  have hl:(τ++[O.list (TYS.map .str)])[τ.length]?=some (.list (TYS.map .str)):=by simp
  generalize τ++[.list (TYS.map .str)]=τ2 at *
  refine Qgw (d:=d) x2.src hl (by have:=x.src.lt;lia) (by decide) (by decide) λ r v τ3 c hr hv hs3 k3=>?_
  obtain ⟨ty,ht,rfl⟩:∃ ty,ty∈TYS/\v=.str ty:=by
   have:=List.mem_of_getElem? hv
   obtain ⟨ty,h,e⟩:=List.mem_map.mp this
   exact ⟨ty,h,e.symm⟩
  have x3:=x2.step k3 hs3
  have x4:=x3.addW [ty]
  have sw:=Qai x3.hw (.list ((ws++[ty]).map .str))
  generalize τ3.set kw (.list ((ws++[ty]).map .str))=τ4 at *
  refine k0 ty τ4 ?_ ht (by simpa [w2] using x4)
  rw [List.map_append,List.map_cons,List.map_nil,TYS] at *
  exact QaP (.gO gw<|.val (V.bool ((↑way:Int)==2))<|.ask (bF (show ¬ ((way:Int)=2) from by lia))<|.sub n<|.call c<|.sub (Qak (y:=V.str ty) (Qaa (Qac x3.hw)) sw (Qb0 l1))<|.nil) (by kernel_rfl)
include lw lf in
theorem st6 (way k:Nat) (last:Bool) (hl:(!decide ((k:Int)+1<many))=last) (lc:cl.length<=10) {Z:Prop}(k0:∀ τ',ex cL (Qab cL (d+2)) 20 19 (S39 6) (E39 s kw kr kf many op cl il cm bv (some (.int k)) o10 o11 (some (.int way))) τ=.ok (.next,E39 s kw kr kf many op cl il cm bv (some (.int k)) o10 o11 (some (.int way))) τ'->FS σ0 τ' s kw kr kf (ws++if (if last then cm else !(way==3)) then [COMMA] else []) rs (fs++if !last&&way==3 then [(ws.length,cl++MISS)] else [])->Z):Z:=by
 have l1:ws.length<=1000000:=by lia
 have l2:fs.length<=1000000:=by lia
 have gw:=Qac x.hw
 cases last
 ·have h1:(k:Int)+1<many:=by simpa using hl
  by_cases w3:way=3
  ·subst w3
   have x1:=x.addF [(ws.length,cl++MISS)]
   have sf:=Qai x.hf (.list ((fs++[(ws.length,cl++MISS)]).map fv))
   generalize τ.set kf (.list ((fs++[(ws.length,cl++MISS)]).map fv))=τ1 at *
   refine k0 τ1 ?_ (by simpa using x1)
   clear lf lw;simp only [List.map_append,List.map_cons,List.map_nil,fv,MISS] at *
   exact QaP (.val (V.int (k+1))<|.val (V.bool (decide (k+1<(↑many:Int))))<|.ask (decide_eq_true h1)<|.val (V.bool true)<|.yes<|.yes<|.gO (Qac x.hf)<|.sub (Qci (Qaa gw) l1)<|.val (V.str cl)<|.sub (QcQ (a:=cl) (b:=[32,105,115,32,109,105,115,115,105,110,103]) (by walk_at "lb"))<|.sub (Qak (y:=V.tup [V.int ws.length,V.str (cl++[32,105,115,32,109,105,115,115,105,110,103])]) (Qaa (Qac x.hf)) sf (Qb0 l2))<|.nil) (by kernel_rfl)
  ·skip
   have x1:=x.addW [COMMA]
   have sw:=Qai x.hw (.list ((ws++[COMMA]).map .str))
   generalize τ.set kw (.list ((ws++[COMMA]).map .str))=τ1 at *
   refine k0 τ1 ?_ (by simpa [w3] using x1)
   simp only [List.map_append,List.map_cons,List.map_nil,COMMA] at *
   exact QaP (.val (V.int (k+1))<|.val (V.bool (decide (k+1<(↑many:Int))))<|.ask (decide_eq_true h1)<|.val (V.bool ((↑way:Int)==3))<|.ask (bF (show ¬ ((way:Int)=3) from by lia))<|.no<|.val (V.int (k+1))<|.val (V.bool (decide (k+1<(↑many:Int))))<|.ask (decide_eq_true h1)<|.yes<|.gO gw<|.sub (Qak (y:=V.str [44]) (Qaa gw) sw (Qb0 l1))<|.nil) (by kernel_rfl)
 ·have h1:¬ ((k:Int)+1<many):=by simpa using hl
  cases cm
  ·refine k0 τ ?_ (by simpa using x)
   exact QaP (.val (V.int (k+1))<|.val (V.bool (decide (k+1<(↑many:Int))))<|.ask (decide_eq_false h1)<|.no<|.val (V.int (k+1))<|.val (V.bool (decide (k+1<(↑many:Int))))<|.ask (decide_eq_false h1)<|.no<|.no<|.nil) (by kernel_rfl)
  ·have x1:=x.addW [COMMA]
   have sw:=Qai x.hw (.list ((ws++[COMMA]).map .str))
   generalize τ.set kw (.list ((ws++[COMMA]).map .str))=τ1 at *
   refine k0 τ1 ?_ (by simpa using x1)
   simp only [List.map_append,List.map_cons,List.map_nil,COMMA] at *
   exact QaP (.val (V.int (k+1))<|.val (V.bool (decide (k+1<(↑many:Int))))<|.ask (decide_eq_false h1)<|.no<|.val (V.int (k+1))<|.val (V.bool (decide (k+1<(↑many:Int))))<|.ask (decide_eq_false h1)<|.yes<|.yes<|.gO gw<|.sub (Qak (y:=V.str [44]) (Qaa gw) sw (Qb0 l1))<|.nil) (by kernel_rfl)
end
end
section
open PySem
theorem Qhp (nmd:Bool) (k:Nat) (fd:Fd):(Qch nmd k fd).length<=3:=by
 unfold Qch;cases fd.pub<;>cases nmd<;>simp<;>split<;>simp
theorem FS.rows {σ0 τ:List O}{s kw kr kf:Nat}{ws:List (List Nat)}{rs rs':List Row}{fs:List (Nat×List Nat)}(x:FS σ0 τ s kw kr kf ws rs fs) (h:rs'.map rv=rs.map rv):FS σ0 τ s kw kr kf ws rs' fs:=
 ⟨x.src,x.hw,by refine h.substr ?_;exact x.hr,x.hf,x.kp,x.sl,x.nw,x.nr,x.nf,x.wr,x.wf,x.rf⟩
noncomputable def FA (nmd il:Bool) (n:Nat) (pub:Bool) (way:Nat):List (Nat×List Nat):=
 (if pub&&!il then [(n,PUBM)] else []) ++
 (if nmd then (if way=0 then [(n+(if pub then 1 else 0),NAMEM)] else [])++(if way=1 then [(n+(if pub then 1 else 0)+1,COLONM)] else []) else [])
theorem QoT (nmd il n pub way):(FA nmd il n pub way).length<=3:=by
 unfold FA
 have a1:(if pub&&!il then [(n,PUBM)] else []).length<=1:=by split<;>simp
 have a2:(if way=0 then [(n+(if pub then 1 else 0),NAMEM)] else []).length<=1:=by split<;>simp
 have a3:(if way=1 then [(n+(if pub then 1 else 0)+1,COLONM)] else []).length<=1:=by split<;>simp
 cases nmd<;>simp only [Bool.false_eq_true,if_true,if_false,List.length_append,List.length_nil]<;>lia
theorem Qna {d:Nat}{σ0 τ:List O}{s kw kr kf:Nat}{ws:List (List Nat)}{rs:List Row}{fs:List (Nat×List Nat)}(x:FS σ0 τ s kw kr kf ws rs fs)
  (lw:ws.length<=900) (lr:rs.length<=900) (lf:fs.length<=900) (nmd il cm:Bool) (cl:List Nat) (lc:cl.length<=10) (many k:Nat) (hk:k<=2) (bi:Int) (o10 o11 o12:Option V) {Z:Prop}(k0:∀ (fd:Fd) (τ':List O) (p10 p11 p12:Option V),(fd.ty∈TYS)->(Qau (ex cL (Qab cL (d+2)) 20 19) B39 (E39 s kw kr kf many (if nmd then [123] else [40]) cl il cm (.int bi) (some (.int k)) o10 o11 o12) τ=
    .ok (.next,E39 s kw kr kf many (if nmd then [123] else [40]) cl il cm (.int bi) (some (.int k)) p10 p11 p12) τ')->(∀ r:List Fd,r.isEmpty=!decide ((k:Int)+1<many) →
    FS σ0 τ' s kw kr kf (ws++fW nmd cm k fd r) (rs++[fR nmd k ws.length fd]) (fs++fF nmd il cl k ws.length fd r))->Z):Z:=by
 refine st0 (d:=d) (many:=many) (op:=if nmd then [123] else [40]) (cl:=cl) (il:=il) (cm:=cm) (o10:=o10) (o11:=o11) (o12:=o12) x k hk bi λ pub way τ0 e0 x0=>?_
 refine st1 (d:=d) (many:=many) (op:=if nmd then [123] else [40]) (cl:=cl) (il:=il) (cm:=cm) (bv:=.int bi) (o9:=some (.int k)) x0 (by lia) (by lia) (by lia) pub (.int way) (.str (nmW k)) λ τ1 e1 x1=>?_
 have st2':∃ τ2,ex cL (Qab cL (d+2)) 20 19 (S39 2) (E39 s kw kr kf many (if nmd then [123] else [40]) cl il cm (.int bi) (some (.int k)) (some (.bool pub)) (some (.str (nmW k))) (some (.int way))) τ1=
   .ok (.next,E39 s kw kr kf many (if nmd then [123] else [40]) cl il cm (.int bi) (some (.int k)) (some (.bool pub)) (some (.str (nmW k))) (some (.int way))) τ2 ∧
   FS σ0 τ2 s kw kr kf (ws++Qch nmd k ⟨pub,way,[]⟩) rs (fs++FA nmd il ws.length pub way):=by
  cases nmd
  ·exact ⟨τ1,QpJ (d:=d) _ rfl,by simpa [Qch,FA] using x1⟩
  ·refine st2 (d:=d) (many:=many) (op:=[123]) (cl:=cl) (il:=il) (cm:=cm) (bv:=.int bi) (o9:=some (.int k)) (o10:=some (.bool pub)) x1 (by cases pub<;>simp<;>lia) (by cases pub<;>cases il<;>simp<;>lia) way (nmW k) rfl λ τ2 e2 x2=>?_
   refine ⟨τ2,e2,?_⟩
   clear x1 x0 lf lr lw x;cases pub<;>simpa [Qch,FA] using x2
 obtain ⟨τ2,e2,x2⟩:=st2'
 have lp:=Qhp nmd k ⟨pub,way,[]⟩
 have la:=QoT nmd il ws.length pub way
 generalize hP:Qch nmd k ⟨pub,way,[]⟩=P at *
 generalize hA:FA nmd il ws.length pub way=A at *
 refine st3 (d:=d) (many:=many) (op:=if nmd then [123] else [40]) (cl:=cl) (il:=il) (cm:=cm) (bv:=.int bi) (o9:=some (.int k)) (o10:=some (.bool pub)) (o11:=some (.str (nmW k))) x2 (by simp;lia) (by simp;lia) way λ τ3 e3 x3=>?_
 refine st4 (d:=d) (many:=many) (cl:=cl) (il:=il) (cm:=cm) (bv:=.int bi) (o12:=some (.int way)) x3 (by simp;lia) (by simp_all) nmd rfl k hk pub (nmW k) [] λ τ4 e4 x4=>?_
 refine st5 (d:=d) (many:=many) (op:=if nmd then [123] else [40]) (cl:=cl) (il:=il) (cm:=cm) (bv:=.int bi) (o9:=some (.int k)) (o10:=some (.bool pub)) (o11:=some (.str (nmW k))) x4 (by simp;lia) way λ ty τ5 e5 ht x5=>?_
 have l2:(if way=2 then [((ws++P).length,NAMEM)] else []).length<=1:=by split<;>simp
 refine st6 (d:=d) (many:=many) (op:=if nmd then [123] else [40]) (cl:=cl) (il:=il) (cm:=cm) (bv:=.int bi) (o10:=some (.bool pub)) (o11:=some (.str (nmW k))) x5 (by simp;lia) (by simp only [List.length_append] at *;lia) way k _ rfl lc λ τ6 e6 x6=>?_
 refine k0 ⟨pub,way,ty⟩ τ6 (some (.bool pub)) (some (.str (nmW k))) (some (.int way)) ht ?_ ?_
 ·simp only [Qnu,Qaj e0,Qaj e1,Qaj e2,Qaj e3,Qaj e4,Qaj e5,Qaj e6];rfl
 ·intro r hr
  rw [<- hr] at x6
  have hP':Qch nmd k ⟨pub,way,ty⟩=P:=by refine hP.substr ?_;rfl
  have e1':ws++fW nmd cm k ⟨pub,way,ty⟩ r=ws++P++[if way=2 then SEMI else ty]++(if (if r.isEmpty then cm else !(way==3)) then [COMMA] else []):=by
   simp only [fW,hP'];simp [fTy,Qdp]
  have e2':fs++fF nmd il cl k ws.length ⟨pub,way,ty⟩ r=fs++A++(if way=2 then [((ws++P).length,NAMEM)] else [])++(if !r.isEmpty&&way==3 then [((ws++P++[if way=2 then SEMI else ty]).length,cl++MISS)] else []):=by
   rw [fF,hP'];refine hA.symm.substr ?_;simp only [FA,List.append_assoc,List.length_append,List.length_cons,List.length_nil,Nat.add_assoc,Nat.zero_add]
  simp only [e1',e2']
  refine x6.rows ?_
  simp only [List.map_append,List.map_cons,List.map_nil,rv,fR,hP',List.length_append]
end
section
open PySem
noncomputable def gW0 (nmd cm:Bool):Nat->List Fd->List (List Nat)
 | _,[]=>[]
 | k,fd::r=>fW nmd cm k fd r++gW0 nmd cm (k+1) r
noncomputable def gF0 (nmd il cm:Bool) (cl:List Nat):Nat->Nat->List Fd->List (Nat×List Nat)
 | _,_,[]=>[]
 | k,p,fd::r=>fF nmd il cl k p fd r++gF0 nmd il cm cl (k+1) (p+(fW nmd cm k fd r).length) r
noncomputable def gO (cm:Bool):Bool->List Fd->Bool
 | o,[]=>o
 | _,fd::r=>gO cm (Qdp cm fd r) r
theorem Qex (nmd cm:Bool) (k:Nat):gW0 nmd cm k []=[]:=rfl
theorem Qdr (nmd cm:Bool) (k:Nat) (fd:Fd) (r:List Fd):gW0 nmd cm k (fd::r)=fW nmd cm k fd r++gW0 nmd cm (k+1) r:=rfl
theorem QgA (nmd il cm:Bool) (cl:List Nat) (k p:Nat):gF0 nmd il cm cl k p []=[]:=rfl
theorem QfY (nmd il cm:Bool) (cl:List Nat) (k p:Nat) (fd:Fd) (r:List Fd):gF0 nmd il cm cl k p (fd::r)=fF nmd il cl k p fd r++gF0 nmd il cm cl (k+1) (p+(fW nmd cm k fd r).length) r:=rfl
theorem QnS (cm o:Bool):gO cm o []=o:=rfl
theorem Qlw (cm o:Bool) (fd:Fd) (r:List Fd):gO cm o (fd::r)=gO cm (Qdp cm fd r) r:=rfl
theorem Qj4 (nmd cm en):∀ k fds,gW nmd cm en k fds=gW0 nmd cm k fds++[en]
 | _,[]=>rfl
 | k,fd::r=>by simp only [Qe3,Qer,Qex,Qdr,Qj4 nmd cm en (k+1) r,List.append_assoc]
theorem Qih (nmd il cm cl en):∀ (o:Bool) (k p:Nat) fds,gF nmd il cm cl en o k p fds=gF0 nmd il cm cl k p fds++(if en=SEMI then [(p+(gW0 nmd cm k fds).length,if gO cm o fds then NAMEM else cl++MISS)] else [])
 | o,_,p,[]=>by
  simp only [Qib,Qh5,QgA,QfY,Qex,Qdr,QnS,Qlw,List.nil_append,List.length_nil,Nat.add_zero]
  by_cases h:en=SEMI
  ·rfl
  ·rw [if_neg h,if_neg h]
 | o,k,p,fd::r=>by
  rw [Qh5,QfY,Qdr,Qlw,Qih nmd il cm cl en _ (k+1) _ r,List.append_assoc,List.length_append,Nat.add_assoc]
theorem Qho (nmd cm:Bool):∀ (k:Nat) (fds:List Fd) (ws:List (List Nat)) (o:Bool),(∀ fd∈fds,fd.ty∈TYS)->fds≠[]->∃ w,(ws++gW0 nmd cm k fds).getLast?=some w/\(w==COMMA)=gO cm o fds
 | k,[],ws,o,ht,hn=>absurd rfl hn
 | k,[fd],ws,o,ht,_=>by
  have ty:(fTy fd==COMMA)=false:=by
   unfold fTy;split
   ·rfl
   ·have:=ht fd (by simp);simp only [TYS,List.mem_cons,List.not_mem_nil,or_false] at this
    rcases this with h | h | h | h | h<;>rw [h]<;>rfl
  simp only [Qex,Qdr,QnS,Qlw,fW,List.append_nil]
  cases Qdp cm fd [] with
  | true=>exact ⟨COMMA,by simp,rfl⟩
  | false=>exact ⟨fTy fd,by simp,ty⟩
 | k,fd::fd2::r,ws,o,ht,_=>by
  rw [Qdr,Qlw,<- List.append_assoc]
  exact Qho nmd cm (k+1) (fd2::r) (ws++fW nmd cm k fd (fd2::r)) _ (λ x m=>ht x (by simp [m])) (by simp)
theorem Qea {as:V->Env->M Env}{b:X}{v r ρ ρ1 ρ2 τ τ1 τ2}(a:as v ρ τ=.ok ρ1 τ1) (e:b ρ1 τ1=.ok (.next,ρ2) τ2):Qb1 as b (v::r) ρ τ=Qb1 as b r ρ2 τ2:=by
 show M.bind (as v ρ) _ τ=_
 exact bok a (bok e rfl)
theorem Ql3 (nmd cm k fd r):(fW nmd cm k fd r).length<=5:=by
 have:=Qhp nmd k fd
 unfold fW;split<;>simp<;>lia
theorem Ql5 (nmd il cl k p fd r):(fF nmd il cl k p fd r).length<=5:=by
 unfold fF
 have a1:(if fd.pub&&!il then [(p,PUBM)] else []).length<=1:=by split<;>simp
 have a2:(if fd.way=0 then [(p+(if fd.pub then 1 else 0),NAMEM)] else []).length<=1:=by split<;>simp
 have a3:(if fd.way=1 then [(p+(if fd.pub then 1 else 0)+1,COLONM)] else []).length<=1:=by split<;>simp
 have a4:(if fd.way=2 then [(p+(Qch nmd k fd).length,NAMEM)] else []).length<=1:=by split<;>simp
 have a5:(if !r.isEmpty&&fd.way==3 then [(p+(Qch nmd k fd).length+1,cl++MISS)] else []).length<=1:=by split<;>simp
 cases nmd<;>simp only [Bool.false_eq_true,if_true,if_false,List.length_append,List.length_nil]<;>lia
theorem Qjt {d:Nat}{σ0:List O}{s kw kr kf:Nat}(nmd il cm:Bool) (cl:List Nat) (lc:cl.length<=10) (many:Nat) (hm:many<=3) (bi:Int):∀ (m k:Nat) (τ:List O) (ws:List (List Nat)) (rs:List Row) (fs:List (Nat×List Nat)) (o9 o10 o11 o12:Option V),k+m=many->FS σ0 τ s kw kr kf ws rs fs->ws.length<=5 * k+1->rs.length<=k->fs.length<=5 * k->∀ {Z:Prop},(∀ (fds:List Fd) (τ':List O) (p9 p10 p11 p12:Option V),(fds.length=m)->((∀ fd∈fds,fd.ty∈TYS))->(Qb1 (assign cL (Qab cL (d+2)) 20 3 (.loc 9)) (Qau (ex cL (Qab cL (d+2)) 20 19) B39) ((List.range' k m).map λ (i:Nat)=>V.int (Int.ofNat i)) (E39 s kw kr kf many (if nmd then [123] else [40]) cl il cm (.int bi) o9 o10 o11 o12) τ=
     .ok (.next,E39 s kw kr kf many (if nmd then [123] else [40]) cl il cm (.int bi) p9 p10 p11 p12) τ')->FS σ0 τ' s kw kr kf (ws++gW0 nmd cm k fds) (rs++gR nmd cm k ws.length fds) (fs++gF0 nmd il cm cl k ws.length fds)->Z)->Z
 | 0,k,τ,ws,rs,fs,o9,o10,o11,o12,hk,x,lw,lr,lf,_,k0=>k0 [] τ o9 o10 o11 o12 rfl (by trivial) rfl (by simpa [Qex,Qdr,QjS,Qjg,QgA,QfY] using x)
 | m+1,k,τ,ws,rs,fs,o9,o10,o11,o12,hk,x,lw,lr,lf,_,k0=>by
  refine Qna (d:=d) x (by lia) (by lia) (by lia) nmd il cm cl lc many k (by lia) bi o10 o11 o12 λ fd τ1 q10 q11 q12 ht e hx=>?_
  have as:assign cL (Qab cL (d+2)) 20 3 (.loc 9) (.int (Int.ofNat k)) (E39 s kw kr kf many (if nmd then [123] else [40]) cl il cm (.int bi) o9 o10 o11 o12) τ=
    .ok (E39 s kw kr kf many (if nmd then [123] else [40]) cl il cm (.int bi) (some (.int k)) o10 o11 o12) τ:=rfl
  have hx1:=hx (List.replicate m ⟨false,0,[]⟩) (by
   cases m with
   | zero=>
    have:¬ ((k:Int)+1<many):=by lia
    simp [this]
   | succ n=>
    have:((k:Int)+1<many):=by lia
    simp [List.replicate_succ,this])
  have l1:=Ql3 nmd cm k fd (List.replicate m ⟨false,0,[]⟩)
  have l2:=Ql5 nmd il cl k ws.length fd (List.replicate m ⟨false,0,[]⟩)
  refine Qjt (d:=d) nmd il cm cl lc many hm bi m (k+1) τ1 _ _ _ (some (.int k)) q10 q11 q12 (by lia) hx1 (by simp;lia) (by simp;simp_all) (by simp;lia) λ fds τ2 p9 p10 p11 p12 hl ht2 e2 x2=>?_
  refine k0 (fd::fds) τ2 p9 p10 p11 p12 (by simp [hl]) (by intro y hy;simp at hy;rcases hy with rfl | hy;exact ht;exact ht2 y hy) ?_ ?_
  ·simp only [List.range'_succ,List.map_cons,Qea as e];exact e2
  ·have he:(List.replicate m (⟨false,0,[]⟩:Fd)).isEmpty=fds.isEmpty:=by clear e2 ht2 l2 l1 hx1 as hx e ht lf lr lw x hk hm lc;cases m<;>cases fds<;>simp [List.replicate_succ] at hl ⊢
   have e1:fW nmd cm k fd (List.replicate m ⟨false,0,[]⟩)=fW nmd cm k fd fds:=by unfold fW Qdp;refine he.substr ?_;rfl
   have e3:fF nmd il cl k ws.length fd (List.replicate m ⟨false,0,[]⟩)=fF nmd il cl k ws.length fd fds:=by unfold fF;simp only [he]
   rw [e1,e3] at x2
   simpa [Qex,Qdr,QjS,Qjg,QgA,QfY] using x2
end
section
open PySem
noncomputable def Q39 (i:Nat):CS:=F39.body.getD i .bad
theorem Qns:F39.body=[Q39 0,Q39 1,.forR (.loc 9) (.loc 6) B39,Q39 3,Q39 4,Q39 5]:=rfl
noncomputable def opW (nmd:Bool):List Nat:=if nmd then [123] else [40]
noncomputable def clW (nmd:Bool):List Nat:=if nmd then [125] else [41]
theorem q0 {d:Nat}{σ:List O}{s:Nat}(hs:Src σ s) (op cl:List Nat) (il:Bool) {Z:Prop}(k0:∀ (many:Nat) (τ:List O),(many<4)->(ex cL (Qab cL (d+2)) 20 20 (Q39 0) [some (.ref s),some (.tup [.str op,.str cl]),some (.bool il),none,none,none,none,none,none,none,none,none,none,none,none,none,none,none,none,none,none] σ=
   .ok (.next,[some (.ref s),some (.tup [.str op,.str cl]),some (.bool il),some (.ref σ.length),some (.ref (σ.length+1)),some (.ref (σ.length+2)),some (.int many),none,none,none,none,none,none,none,none,none,none,none,none,none,none]) τ)->FS σ τ s σ.length (σ.length+1) (σ.length+2) [op] [] []->Z):Z:=by
 have n1:=Qah [.str op] (by simp) σ
 have n2:=Qah [] (by simp) (σ++[O.list [.str op]])
 have n3:=Qah [] (by simp) (σ++[O.list [.str op]]++[O.list []])
 rw [(show (σ++[O.list [.str op]]).length=σ.length+1 from by simp)] at n2
 rw [(show (σ++[O.list [.str op]]++[O.list []]).length=σ.length+2 from by simp)] at n3
 have fs:FS σ (σ++[O.list [.str op]]++[O.list []]++[O.list []]) s σ.length (σ.length+1) (σ.length+2) [op] [] []:=
  ⟨((hs.app _).app _).app _,by simp,by simp,by simp,(((Keep.app s σ _).trans (Keep.app ..)).trans (Keep.app ..)),(hs.lt),by simp_all,by simp_all,by simp_all,by simp_all,by lia,by simp_all⟩
 generalize σ++[O.list [.str op]]++[O.list []]++[O.list []]=τ3 at *
 generalize σ++[O.list [.str op]]++[O.list []]=τ2 at *
 generalize σ++[O.list [.str op]]=τ1 at *
 refine Qaw (d:=d+1) fs.src 4 (by decide) (by decide) λ r τ4 c hr hs4 k4=>?_
 refine k0 r τ4 hr ?_ (fs.step k4 hs4)
 exact QaP (.val (V.str op)<|.sub n1<|.sub n2<|.sub n3<|.call c<|.nil) (by kernel_rfl)
theorem q1 {d:Nat}{σ0 τ:List O}{s kw kr kf:Nat}{ws:List (List Nat)}{rs:List Row}{fs:List (Nat×List Nat)}(x:FS σ0 τ s kw kr kf ws rs fs) (many:Nat) (op cl:List Nat) (il:Bool) {Z:Prop}(k0:∀ (bi:Int) (cm:Bool) (τ':List O),ex cL (Qab cL (d+2)) 20 20 (Q39 1) [some (.ref s),some (.tup [.str op,.str cl]),some (.bool il),some (.ref kw),some (.ref kr),some (.ref kf),some (.int many),none,none,none,none,none,none,none,none,none,none,none,none,none,none] τ=
   .ok (.next,E39 s kw kr kf many op cl il cm (.int bi) none none none none) τ'->FS σ0 τ' s kw kr kf ws rs fs->Z):Z:=by
 refine Qaw (d:=d+1) x.src 3 (by decide) (by decide) λ r τ1 c hr hs1 k1=>?_
 have x1:=x.step k1 hs1
 have n:=Qah [.int (-1),.int (-1),.int r] (by simp) τ1
 have x2:=x1.step (Keep.app s τ1 [.list [.int (-1),.int (-1),.int r]]) (x1.src.app _)
 have hl:(τ1++[O.list [.int (-1),.int (-1),.int r]])[τ1.length]?=some (.list [.int (-1),.int (-1),.int r]):=by simp
 have ns:τ1.length≠s:=by have:=hs1.lt;lia
 generalize τ1++[O.list [.int (-1),.int (-1),.int r]]=τ2 at *
 refine Qgw (d:=d) x2.src hl ns (by simp) (by simp) λ r2 v τ3 c2 hr2 hv hs3 k3=>?_
 obtain ⟨bi,rfl⟩:∃ bi:Int,v=.int bi:=by
  have:=List.mem_of_getElem? hv
  simp at this
  clear hv hr2 hl ns x1 k1 hs1 hr x;rcases this with rfl | rfl<;>exact ⟨_,rfl⟩
 have x3:=x2.step k3 hs3
 refine Qaw (d:=d+1) x3.src 2 (by decide) (by decide) λ r3 τ4 c3 hr3 hs4 k4=>?_
 refine k0 bi ((r3:Int)==0) τ4 ?_ (x3.step k4 hs4)
 exact QaP (.call c<|.sub n<|.call c2<|.call c3<|.val (V.bool ((↑r3:Int)==0))<|.nil) (by kernel_rfl)
end
section
open PySem
noncomputable def QlD (s kw kr kf many:Nat) (op cl:List Nat) (il cm:Bool) (bv:V) (o9 o10 o11 o12 o13 o14:Option V):Env:=
 [some (.ref s),some (.tup [.str op,.str cl]),some (.bool il),some (.ref kw),some (.ref kr),some (.ref kf),some (.int many),some bv,some (.bool cm),o9,o10,o11,o12,o13,o14,none,none,none,none,none,none]
section
variable {d:Nat}{σ0 τ:List O}{s kw kr kf:Nat}{ws:List (List Nat)}{rs:List Row}{fs:List (Nat×List Nat)}(x:FS σ0 τ s kw kr kf ws rs fs)
 (many:Nat) (op cl:List Nat) (il cm:Bool) (bv:V) (o9 o10 o11 o12:Option V)
include x
theorem q3 {Z:Prop}(k0:∀ (en:List Nat) (τ':List O),((en=cl∨en=SEMI))->(ex cL (Qab cL (d+2)) 20 20 (Q39 3) (E39 s kw kr kf many op cl il cm bv o9 o10 o11 o12) τ=
  .ok (.next,QlD s kw kr kf many op cl il cm bv o9 o10 o11 o12 (some (.str en)) none) τ')->FS σ0 τ' s kw kr kf ws rs fs->Z):Z:=by
 have n:=Qah [.str cl,.str cl,.str cl,.str [59]] (by simp) τ
 have x2:=x.step (Keep.app s τ [.list [.str cl,.str cl,.str cl,.str [59]]]) (x.src.app _)
 have hl:(τ++[O.list [.str cl,.str cl,.str cl,.str [59]]])[τ.length]?=some (.list [.str cl,.str cl,.str cl,.str [59]]):=by simp
 have ns:τ.length≠s:=by have:=x.src.lt;lia
 generalize τ++[O.list [.str cl,.str cl,.str cl,.str [59]]]=τ2 at *
 refine Qgw (d:=d) x2.src hl ns (by simp) (by simp) λ r2 v τ3 c2 hr2 hv hs3 k3=>?_
 have hv2:v=.str cl∨v=.str [59]:=by
  have:=List.mem_of_getElem? hv
  simpa using this
 obtain ⟨en,he,rfl⟩:∃ en,(en=cl∨en=SEMI)/\v=.str en:=by
  clear hv hr2 hl ns x;rcases hv2 with rfl | rfl
  ·exact ⟨cl,.inl rfl,rfl⟩
  ·exact ⟨SEMI,.inr rfl,rfl⟩
 refine k0 en τ3 he ?_ (x2.step k3 hs3)
 exact QaP (.val (V.str cl)<|.val (V.str cl)<|.val (V.str cl)<|.sub n<|.call c2<|.nil) (by kernel_rfl)
theorem q4 (en:List Nat) (lw:ws.length<=1000) (lf:fs.length<=1000) (lc:cl.length<=10) (o:Bool) (w:List Nat) (hw:ws.getLast?=some w) (ho:(decide (many=0)||w==COMMA)=o) {Z:Prop}(k0:∀ (τ':List O) (o14:Option V),ex cL (Qab cL (d+2)) 20 20 (Q39 4) (QlD s kw kr kf many op cl il cm bv o9 o10 o11 o12 (some (.str en)) none) τ=.ok (.next,QlD s kw kr kf many op cl il cm bv o9 o10 o11 o12 (some (.str en)) o14) τ'->FS σ0 τ' s kw kr kf ws rs (fs++if en=SEMI then [(ws.length,if o then NAMEM else cl++MISS)] else [])->Z):Z:=by
 have l1:ws.length<=1000000:=by lia
 have l2:fs.length<=1000000:=by lia
 have lm:cl.length<=999989:=by lia
 have gw:=Qac x.hw
 have gf:=Qac x.hf
 by_cases h:en=SEMI
 ·subst h
  have x1:=x.addF [(ws.length,if o then NAMEM else cl++MISS)]
  have sf:=Qai x.hf (.list ((fs++[(ws.length,if o then NAMEM else cl++MISS)]).map fv))
  generalize τ.set kf (.list ((fs++[(ws.length,if o then NAMEM else cl++MISS)]).map fv))=τ1 at *
  have ix:QaK (.ref kw) (.int (-1)) τ=.ok (.str w) τ:=by
   have s1:QaV (-1)=true:=rfl
   have hl:0<ws.length:=List.length_pos_iff.mpr (by rintro rfl;trivial)
   rw [i_r,s1,if_pos rfl,QaM,getL,QaM,gw]
   simp only [Qlu,atI]
   refine (if_pos (by decide)).substr ?_;refine (if_neg (by simp;lia)).substr ?_
   have:((-1:Int)+((ws.map V.str).length:Int)).toNat=ws.length - 1:=by simp;lia
   refine this.substr ?_
   rw [List.getLast?_eq_getElem?] at hw
   simp only [List.getElem?_map,hw,Option.map_some,Qbk,Qlu]
  refine k0 τ1 (some (.bool o)) ?_ (by exact x1)
  simp only [List.map_append,List.map_cons,List.map_nil,fv,MISS,NAMEM,SEMI,COMMA] at *
  by_cases m0:many=0
  ·subst m0
   subst ho
   exact QaP (.val (V.bool true)<|.yes<|.val (V.bool true)<|.yes<|.gO gf<|.sub (Qci (Qaa gw) l1)<|.yes<|.sub (Qak (y:=V.tup [V.int ws.length,V.str NAMEM]) (Qaa gf) sf (Qb0 l2))<|.nil) (by kernel_rfl)
  ·have m1:¬ ((many:Int)=0):=by simp_all
   simp only [m0,decide_false,Bool.false_or] at ho
   have m2:((many:Int)==0)=false:=by simpa using m0
   by_cases hc:w=[44]
   ·subst hc
    have:o=true:=by refine ho▸?_;rfl
    subst this
    exact QaP (.val (V.bool true)<|.yes<|.val (V.bool ((↑many:Int)==0))<|.ask m2<|.sub ix<|.val (V.bool true)<|.gO gf<|.sub (Qci (Qaa gw) l1)<|.yes<|.sub (Qak (y:=V.tup [V.int ws.length,V.str NAMEM]) (Qaa gf) sf (Qb0 l2))<|.nil) (by kernel_rfl)
   ·have hw:(w==[44])=false:=by simpa using hc
    have:o=false:=by exact (ho).symm.trans hw
    clear hc ho m1 m0 x1 lc lf lw;subst this
    have e44:QaJ .eq (.str w) (.str [44]) τ=.ok (.bool false) τ:=by show RS.ok (V.bool (w==[44])) τ=_;refine hw.substr ?_;rfl
    exact QaP (.val (V.bool true)<|.yes<|.val (V.bool ((many:Int)==0))<|.ask m2<|.sub ix<|.sub (m:=QaJ .eq (.str w) (.str [44])) e44<|.gO gf<|.sub (Qci (Qaa gw) l1)<|.no<|.val (V.str cl)<|.sub (QcQ (a:=cl) (b:=[32,105,115,32,109,105,115,115,105,110,103]) (by refine List.length_append.substr ?_;exact Nat.add_le_add lm (Nat.le_of_ble_eq_true (m:=11) rfl)))<|.sub (Qak (y:=V.tup [V.int (ws.length:Int),V.str (cl++[32,105,115,32,109,105,115,115,105,110,103])]) (Qaa gf) sf (Qb0 l2))<|.nil) (by kernel_rfl)
 ·have h':¬ en=[59]:=h
  refine k0 τ none ?_ (by simpa [h] using x)
  exact QaP (.val (V.bool (en==[59]))<|.ask (bF h')<|.nil) (by kernel_rfl)
theorem q5 (en:List Nat) (o13:Option V) (lw:ws.length<=1000) {Z:Prop}(k0:∀ (kn:Nat) (τ':List O),(Qau (ex cL (Qab cL (d+2)) 20 20) [Q39 5] (QlD s kw kr kf many op cl il cm bv o9 o10 o11 o12 (some (.str en)) o13) τ=
  .ok (.ret (.tup [.ref kn,.ref kr,.ref kf]),QlD s kw kr kf many op cl il cm bv o9 o10 o11 o12 (some (.str en)) o13) τ')->(FS σ0 τ' s kw kr kf ws rs fs)->(τ'[kn]?=some (.list ((ws++[en]).map .str)))->(σ0.length<=kn)->(kn≠kr)->kn≠kf->Z):Z:=by
 have n:=Qah [.str en] (by simp) τ
 have x2:=x.step (Keep.app s τ [.list [.str en]]) (x.src.app _)
 have g:=QaX τ (.list [.str en])
 generalize τ++[O.list [.str en]]=τ2 at *
 have gw:=Qac x2.hw
 have n2:=Qah ((ws++[en]).map .str) (by simp;lia) τ2
 have x3:=x2.step (Keep.app s τ2 [.list ((ws++[en]).map .str)]) (x2.src.app _)
 have hn:(τ2++[O.list ((ws++[en]).map .str)])[τ2.length]?=some (.list ((ws++[en]).map .str)):=by simp
 have lr:=(List.getElem?_eq_some_iff.mp x2.hr).1
 have lf:=(List.getElem?_eq_some_iff.mp x2.hf).1
 have lk:=x2.kp.1
 generalize τ2++[O.list ((ws++[en]).map .str)]=τ3 at *
 refine k0 τ2.length τ3 ?_ x3 hn lk (by lia) (by lia)
 simp only [List.map_append,List.map_cons,List.map_nil] at n2
 exact Qbl (.sub n<|.sub (Qa4 (Qaa gw) (Qaa g) n2)<|.nil) (by kernel_rfl)
end
end
section
open PySem
theorem QgN (nmd cm:Bool):∀ k fds,(gW0 nmd cm k fds).length<=5 * fds.length
 | _,[]=>by simp [Qex,Qdr]
 | k,fd::r=>by
  have:=QgN nmd cm (k+1) r
  have:=Ql3 nmd cm k fd r
  simp [Qex,Qdr];lia
theorem Qff (nmd il cm cl):∀ k p fds,(gF0 nmd il cm cl k p fds).length<=5 * fds.length
 | _,_,[]=>by simp [QgA,QfY]
 | k,p,fd::r=>by
  have:=Qff nmd il cm cl (k+1) (p+(fW nmd cm k fd r).length) r
  have:=Ql5 nmd il cl k p fd r
  simp [QgA,QfY];lia
theorem Qfo {d:Nat}{σ:List O}{s:Nat}(hs:Src σ s) (nmd il:Bool) {Z:Prop}(k0:∀ (fds:List Fd) (cm:Bool) (en:List Nat) (σ':List O) (kw kr kf:Nat),(Qab cL (d+3) (.fn 39) [.ref s,.tup [.str (opW nmd),.str (clW nmd)],.bool il] σ=.ok (.tup [.ref kw,.ref kr,.ref kf]) σ')->(fds.length<=3)->((∀ fd∈fds,fd.ty∈TYS))->((en=clW nmd∨en=SEMI))->(Src σ' s)->(Keep s σ σ')->(σ'[kw]?=some (.list ((opW nmd::gW nmd cm en 0 fds).map .str)))->(σ'[kr]?=some (.list ((gR nmd cm 0 1 fds).map rv)))->(σ'[kf]?=some (.list ((gF nmd il cm (clW nmd) en true 0 1 fds).map fv)))->(σ.length<=kw)->(σ.length<=kr)->(σ.length<=kf)->(kw≠kr)->(kw≠kf)->kr≠kf->Z):Z:=by
 refine q0 (d:=d) hs (opW nmd) (clW nmd) il λ many τ0 hm e0 x0=>?_
 refine q1 (d:=d) x0 many (opW nmd) (clW nmd) il λ bi cm τ1 e1 x1=>?_
 have lc:(clW nmd).length<=10:=by cases nmd<;>decide
 refine Qjt (d:=d) nmd il cm (clW nmd) lc many (by lia) bi many 0 τ1 [opW nmd] [] [] none none none none (by simp_all) x1 (by simp) (by simp) (by simp) λ fds τ2 p9 p10 p11 p12 hl ht e2 x2=>?_
 refine q3 (d:=d) x2 many (opW nmd) (clW nmd) il cm (.int bi) p9 p10 p11 p12 λ en τ3 hen e3 x3=>?_
 have lw0:=QgN nmd cm 0 fds
 have lf0:=Qff nmd il cm (clW nmd) 0 1 fds
 have last:∃ w,([opW nmd]++gW0 nmd cm 0 fds).getLast?=some w/\(decide (many=0)||w==COMMA)=gO cm true fds:=by
  by_cases h:fds=[]
  ·clear lf0 lw0 x2 x1 x0 hm hs;subst h
   have:many=0:=by simpa using hl.symm
   exact ⟨opW nmd,rfl,by simp [this,QnS,Qlw]⟩
  ·obtain ⟨w,h1,h2⟩:=Qho nmd cm 0 fds [opW nmd] true ht h
   have:¬ many=0:=by intro z;simp only [z] at hl;exact h (List.length_eq_zero_iff.mp hl)
   exact ⟨w,h1,by simp [this];simpa using h2⟩
 obtain ⟨w,hw,ho⟩:=last
 refine q4 (d:=d) x3 many (opW nmd) (clW nmd) il cm (.int bi) p9 p10 p11 p12 en (by simp;lia) (by simp;lia) lc (gO cm true fds) w hw ho λ τ4 o14 e4 x4=>?_
 refine q5 (d:=d) x4 many (opW nmd) (clW nmd) il cm (.int bi) p9 p10 p11 p12 en o14 (by simp;lia) λ kn τ5 e5 x5 hn l5 n1 n2=>?_
 refine k0 fds cm en τ5 kn (σ.length+1) (σ.length+2) ?_ (by lia) ht hen x5.src x5.kp ?_ ?_ ?_ l5 (by simp_all) (by simp_all) n1 n2 (by simp_all)
 ·rw [QcN (f:=F39) rfl]
  have eF:ex cL (Qab cL (d+2)) 20 20 (.forR (.loc 9) (.loc 6) B39) (E39 s σ.length (σ.length+1) (σ.length+2) many (opW nmd) (clW nmd) il cm (.int bi) none none none none) τ1=
    .ok (.next,E39 s σ.length (σ.length+1) (σ.length+2) many (opW nmd) (clW nmd) il cm (.int bi) p9 p10 p11 p12) τ2:=by
   have hx:ex cL (Qab cL (d+2)) 20 20 (.forR (.loc 9) (.loc 6) B39) (E39 s σ.length (σ.length+1) (σ.length+2) many (opW nmd) (clW nmd) il cm (.int bi) none none none none) τ1=
    (if (0:Int)<=many/\(many:Int)<=1000 then Qb1 (assign cL (Qab cL (d+2)) 20 3 (.loc 9)) (Qau (ex cL (Qab cL (d+2)) 20 19) B39) (QaA (many:Int).toNat) (E39 s σ.length (σ.length+1) (σ.length+2) many (opW nmd) (clW nmd) il cm (.int bi) none none none none) else M.stuck) τ1:=rfl
   simp only [hx,if_pos (show (0:Int)<=many/\(many:Int)<=1000 from by lia),QaA,Int.toNat_natCast,List.range_eq_range']
   exact e2
  have er:Qbi cL (Qab cL (d+2)) F39 [.ref s,.tup [.str (opW nmd),.str (clW nmd)],.bool il] σ=M.bind (Qau (ex cL (Qab cL (d+2)) 20 20) F39.body [some (.ref s),some (.tup [.str (opW nmd),.str (clW nmd)]),some (.bool il),none,none,none,none,none,none,none,none,none,none,none,none,none,none,none,none,none,none]) (λ p=>flV p.1) σ:=rfl
  simp only [er,QaM,Qns,Qaj e0,Qaj e1,Qaj eF,Qaj e3,Qaj e4,e5]
  rfl
 ·simp only [hn,Qj4];rfl
 ·have:=x5.hr;exact this
 ·have:=x5.hf
  simp only [this,Qih]
  simp [Nat.add_comm]
end
section
open PySem
noncomputable def Srt (l:List (Nat×List Nat)):Prop:=l.Pairwise (λ a b=>a.1<=b.1)
noncomputable abbrev Bd (a b:Nat) (l:List (Nat×List Nat)):Prop:=Srt l/\∀ x∈l,a<=x.1/\x.1<=b
theorem Bd.nil {a b:Nat}:Bd a b []:=⟨.nil,λ _ m=>nomatch m⟩
theorem Bd.one {a b:Nat}{x:Nat×List Nat}(h1:a<=x.1) (h2:x.1<=b):Bd a b [x]:=⟨List.pairwise_singleton _ _,λ y m=>by refine (List.mem_singleton.mp m).substr ?_;exact ⟨h1,h2⟩⟩
theorem Bd.ite {a b:Nat}{c:Prop} [Decidable c] {l l':List (Nat×List Nat)}(h:c->Bd a b l) (k:¬ c->Bd a b l'):Bd a b (if c then l else l'):=by
 split
 ·next q=>exact h q
 ·next q=>exact k q
theorem Bd.opt {a b:Nat}{c:Prop} [Decidable c] {x:Nat×List Nat}(h1:c->a<=x.1) (h2:c->x.1<=b):Bd a b (if c then [x] else []):=.ite (λ q=>.one (h1 q) (h2 q)) λ _=>.nil
theorem Bd.app {a m b:Nat}{l l':List (Nat×List Nat)}(x:Bd a m l) (y:Bd m b l') (am:a<=m) (mb:m<=b):Bd a b (l++l'):=
 ⟨List.pairwise_append.mpr ⟨x.1,y.1,λ _ ha _ hb=>Nat.le_trans (x.2 _ ha).2 (y.2 _ hb).1⟩,λ z hz=>by
  rcases List.mem_append.mp hz with h | h
  ·exact ⟨(x.2 z h).1,Nat.le_trans (x.2 z h).2 mb⟩
  ·exact ⟨Nat.le_trans am (y.2 z h).1,(y.2 z h).2⟩⟩
theorem Ql4 (nmd il:Bool) (cl) (cm:Bool) (k p:Nat) (fd:Fd) (r:List Fd):Srt (fF nmd il cl k p fd r)/\∀ x∈fF nmd il cl k p fd r,p<=x.1/\x.1<=p+(fW nmd cm k fd r).length:=by
 have hW:(Qch nmd k fd).length+1<=(fW nmd cm k fd r).length:=by unfold fW;simp only [List.length_append];exact Nat.add_le_add_left (Nat.succ_le_succ (Nat.zero_le _)) _
 have hP:(Qch nmd k fd).length=(if fd.pub then 1 else 0)+(if nmd then (if fd.way=1 then 1 else 2) else 0):=by
  unfold Qch;cases fd.pub<;>cases nmd<;>simp<;>split<;>simp
 unfold fF
 generalize (Qch nmd k fd).length=P at *
 generalize (if fd.pub=true then 1 else 0)=u at *
 refine Bd.app (m:=p+u) (.opt (λ _=>Nat.le_refl _) λ _=>Nat.le_add_right _ _) (Bd.app (m:=p+P) (.ite (λ q=>?_) λ _=>.nil) (Bd.app (m:=p+P) (.opt (λ _=>Nat.le_refl _) λ _=>Nat.le_refl _) (.opt (λ _=>Nat.le_add_right _ _) λ _=>Nat.add_le_add_left hW p) (Nat.le_refl _) (by lia)) (by simp_all) (by lia)) (Nat.le_add_right _ _) (by lia)
 replace hP:=(if_pos q)▸hP
 exact Bd.app (m:=p+u) (.opt (λ _=>Nat.le_refl _) λ _=>Nat.le_refl _) (.opt (λ _=>Nat.le_add_right _ _) λ w=>by rw [if_pos w] at hP;simp only [hP,Nat.add_assoc];exact Nat.le_refl _) (Nat.le_refl _) (by simp_all)
theorem Qig (nmd il cm:Bool) (cl en):∀ (o:Bool) (k p:Nat) (fds:List Fd),Srt (gF nmd il cm cl en o k p fds)/\∀ x∈gF nmd il cm cl en o k p fds,p<=x.1
 | o,k,p,[]=>by
  simp only [Qib,Qh5];split<;>simp [Srt]
 | o,k,p,fd::r=>by
  obtain ⟨h1,h2⟩:=Ql4 nmd il cl cm k p fd r
  obtain ⟨h3,h4⟩:=Qig nmd il cm cl en (Qdp cm fd r) (k+1) (p+(fW nmd cm k fd r).length) r
  refine ⟨List.pairwise_append.mpr ⟨h1,h3,λ a ha b hb=>Nat.le_trans (h2 a ha).2 (h4 b hb)⟩,λ x hx=>?_⟩
  rcases List.mem_append.mp hx with h | h
  ·exact (h2 x h).1
  ·exact Nat.le_trans (Nat.le_add_right _ _) (h4 x h)
theorem Ql0 (il:Bool) (p:Nat) (g:Gd):Srt (hF il p g)/\∀ x∈hF il p g,p<=x.1/\x.1<=p+(hW g).length:=by
 have hW:(if g.pub=true then 1 else 0)<=(hW g).length:=by unfold hW;cases g.pub<;>exact Nat.le_of_ble_eq_true rfl
 exact Bd.app (m:=p+(if g.pub=true then 1 else 0)) (.opt (λ _=>Nat.le_refl _) λ _=>Nat.le_add_right _ _) (.ite (λ _=>.nil) λ _=>.one (Nat.le_refl _) (Nat.add_le_add_left hW p)) (Nat.le_add_right _ _) (Nat.add_le_add_left hW p)
theorem Qmn (il:Bool):∀ (p:Nat) (gs:List Gd),Srt (HF il p gs)/\∀ x∈HF il p gs,p<=x.1
 | p,[]=>by simp [Qic,Qid,Srt]
 | p,g::r=>by
  obtain ⟨h1,h2⟩:=Ql0 il p g
  obtain ⟨h3,h4⟩:=Qmn il (p+(hW g).length) r
  refine ⟨List.pairwise_append.mpr ⟨h1,h3,λ a ha b hb=>Nat.le_trans (h2 a ha).2 (h4 b hb)⟩,λ x hx=>?_⟩
  rcases List.mem_append.mp hx with h | h
  ·exact (h2 x h).1
  ·exact Nat.le_trans (Nat.le_add_right _ _) (h4 x h)
end
section
open PySem
noncomputable def QdS:Nat->V->Bool
 | _,.none=>true
 | _,.bool _=>true
 | _,.int _=>true
 | _,.str _=>true
 | n+1,.tup l=>l.all (QdS n)
 | _,_=>false
theorem Qc0 {f:V->V->Option Bool}:∀ l:List V,(∀ v∈l,f v v=some true)->QfT f l l=some true
 | [],_=>rfl
 | v::r,h=>by
  show (match f v v,QfT f r r with | some x,some y=>some (x&&y) | _,_=>none)=_
  refine (h v (.head _)).substr ?_;refine (Qc0 r λ x m=>h x (.tail _ m)).substr ?_;rfl
theorem QdI:∀ (n:Nat) (v:V),QdS n v=true->eqV n v v=some true:=by
 intro n
 induction n with
 | zero=>
  intro v h
  cases v with
  | none=>rfl
  | bool b=>exact congrArg some (beq_self_eq_true b)
  | int b=>exact congrArg some (beq_self_eq_true b)
  | str b=>exact congrArg some (beq_self_eq_true b)
  | _=>exact nomatch h
 | succ n ih=>
  intro v h
  cases v with
  | none=>rfl
  | bool b=>exact congrArg some (beq_self_eq_true b)
  | int b=>exact congrArg some (beq_self_eq_true b)
  | str b=>exact congrArg some (beq_self_eq_true b)
  | tup l=>exact Qc0 l λ v hv=>ih v (List.all_eq_true.mp h v hv)
  | _=>exact nomatch h
theorem QkU (n:Nat) (s q):QdS (n+4) (tyV s q)=true:=by
 unfold tyV gen;split
 ·rfl
 ·split<;>rfl
theorem QiU (n:Nat) (sp) (x:Row):QdS (n+5) (QcF sp x)=true:=
 show (QdS (n+4) (tyV x.2.2.2 (sp x.2.1))&&true)=true by rw [QkU];rfl
theorem Qd9 (n:Nat) (sp) (R:List Row):QdS (n+6) (.tup (R.map (QcF sp)))=true:=List.all_eq_true.mpr λ v hv=>by
 obtain ⟨x,-,rfl⟩:=List.mem_map.mp hv
 exact QiU n sp x
theorem QkV (n:Nat) (sp p res b):QdS (n+5) (fnV sp p res (.bool b))=true:=by
 cases res with
 | false=>rfl
 | true=>rfl
theorem Qk4 {v:V}(h:QdS 9 v=true) (σ) (l:List V) (e:v=.tup l):eqO v v σ=.ok (.bool true) σ:=by
 subst e
 show asB (eqV 9 (.tup l) (.tup l)) σ=_
 refine (QdI 9 _ h).substr ?_;rfl
theorem Qi1 {σ:List O}{i j:Nat}{a b:V}(h1:σ[i]?=some (.list [a,b])) (h2:σ[j]?=some (.list [a,b])) (ga:QdS 8 a=true) (gb:QdS 8 b=true):eqO (.ref i) (.ref j) σ=.ok (.bool true) σ:=by
 show M.bind (getL i) _ σ=_
 rw [QaM];refine (QbX h1).substr ?_;simp only [QaM,QbX h2]
 refine (Qc0 [a,b] (by intro v hv;simp at hv;clear h2 h1;rcases hv with rfl | rfl;exact QdI 8 _ ga;exact QdI 8 _ gb)).substr ?_;rfl
theorem Qi2 {d:Nat}{σ:List O}{c c0 c1:Nat}{g:Nat}{a b:V}(hc:σ[c]?=some (.clo [] [some (.ref c0),some (.ref c1),none] (.call (.glob g) [(.cel 1),(.cel 0)])))
  (h0:σ[c0]?=some (.cell (some a))) (h1:σ[c1]?=some (.cell (some b))) (hg:cL.gv g=some (.fn g)):Qab cL (d+1) (.ref c) [] σ=Qab cL d (.fn g) [b,a] σ:=by
 have z:Qbk (cL.gv g) σ=.ok (.fn g) σ:=by rw [hg];rfl
 show M.bind (getO c) _ σ=_
 exact bok (Qac hc) (bok z (bok (a:=[b,a]) (bok (a:=b) (bok (Qac h1) rfl) (bok (a:=[a]) (bok (a:=a) (bok (Qac h0) rfl) rfl) rfl)) rfl))
end
section
open PySem
noncomputable def Due (σ:List O) (j:Nat) (sp:Nat->Nat) (F:List (Nat×List Nat)) (p:Nat) (v due:V):Prop:=
 match F with
 | []=>due=.tup [v,.int p]
 | (a,msg)::_=>∃ e,And3 (due=.ref e) (e≠j) (σ[e]?=some (.list [.str msg,.int (sp a)]))
theorem QkT {D g:Nat}{σ:List O}{i j r:Nat}{rows:List V}{sp:Nat->Nat}{F:List (Nat×List Nat)}{p:Nat}{v a due:V}{c c0 c1:Nat}
  (hE:Ends (Qab cL D (.fn g) [.ref i,a]) σ i j r rows sp F p v) (hg:cL.gv g=some (.fn g)) (hv:QdS 8 v=true)
  (hc:σ[c]?=some (.clo [] [some (.ref c0),some (.ref c1),none] (.call (.glob g) [(.cel 1),(.cel 0)]))) (h0:σ[c0]?=some (.cell (some a))) (h1:σ[c1]?=some (.cell (some (.ref i))))
  (hd:Due σ j sp F p v due) {Z:Prop}(k0:∀ h σ',(Qab cL (D+2) (.fn 36) [.ref c,.ref i] σ=.ok h σ')->(eqO h due σ'=.ok (.bool true) σ')->Keep j σ σ'->Z):Z:=by
 have cc:=Qi2 (d:=D) hc h0 h1 hg
 unfold Ends at hE
 unfold Due at hd
 split at hE
 ·obtain ⟨σ',e,hW,k⟩:=hE
  refine k0 _ σ' (QhK (d:=D+1) hW (cc.trans e)) ?_ k
  refine hd.substr ?_
  exact Qk4 (v:=.tup [v,.int p]) (show (QdS 8 v&&true)=true by refine hv.substr ?_;rfl) σ' _ rfl
 ·obtain ⟨σ',e,k⟩:=hE
  obtain ⟨q,rfl,n,hq⟩:=hd
  refine k0 _ _ (QiC (d:=D+1) (cc.trans e)) ?_ (k.trans (Keep.app j σ' _))
  exact Qi1 (List.getElem?_append_right (Nat.le_refl _) |>.trans (by simp)) ((Keep.app j σ' _).get n (k.get n hq)) rfl rfl
end
section
open PySem
theorem Qnz (nmd il cm:Bool) (cl en):∀ (o:Bool) (k p:Nat) (fds:List Fd),∀ x∈gF nmd il cm cl en o k p fds,x.1<p+(gW nmd cm en k fds).length
 | o,k,p,[],x,hx=>by
  simp only [Qib,Qh5] at hx
  split at hx
  ·simp at hx;subst hx;simp [Qe3,Qer]
  ·simp at hx
 | o,k,p,fd::r,x,hx=>by
  simp only [Qib,Qh5] at hx
  have l:=Qgz nmd cm en (k+1) r
  rcases List.mem_append.mp hx with h | h
  ·have:=((Ql4 nmd il cl cm k p fd r).2 x h).2
   simp only [Qe3,Qer,List.length_append];lia
  ·have:=Qnz nmd il cm cl en (Qdp cm fd r) (k+1) (p+(fW nmd cm k fd r).length) r x h
   simp only [Qe3,Qer,List.length_append];lia
theorem Qol (nm:List Nat) (par:Bool) (form:Nat) (cm:Bool) (en:List Nat) (fds:List Fd) (last:List Nat):
  Srt (sF nm par form cm en fds last)/\∀ x∈sF nm par form cm en fds last,x.1<(sW nm par form cm en fds last).length:=by
 have g0:=Qig true true cm [125] en true 0 (sB par+1) fds
 have g1:=Qig false true cm [41] en true 0 (sB par+1) fds
 have b0:=Qnz true true cm [125] en true 0 (sB par+1) fds
 have b1:=Qnz false true cm [41] en true 0 (sB par+1) fds
 have hG:Srt (sG par form cm en fds)/\(∀ x∈sG par form cm en fds,1<=x.1/\x.1+(if form=0 then 1 else 2)<=(sW nm par form cm en fds last).length):=by
  unfold sG
  by_cases f0:form=0
  ·subst f0
   have wl:(sW nm par 0 cm en fds last).length=sB par+1+(gW true cm en 0 fds).length:=by
    cases par<;>simp [sW,sB,QdR,QbF]<;>lia
   refine ⟨g0.1,λ x hx=>⟨by have:=g0.2 x hx;lia,by have:=b0 x hx;refine wl.substr ?_;assumption⟩⟩
  ·by_cases f1:form=1
   ·subst f1
    have wl:(sW nm par 1 cm en fds last).length=sB par+1+(gW false cm en 0 fds).length+1:=by
     cases par<;>simp [sW,sB,QdR,QbF]<;>lia
    refine ⟨g1.1,λ x hx=>⟨by have:=g1.2 x hx;lia,by have:=b1 x hx;refine wl.substr ?_;simp;assumption⟩⟩
   ·refine (if_neg f0).symm▸?_;refine (if_neg f1).symm▸?_
    exact ⟨by simp [Srt],by simp⟩
 have l2:2<=(sW nm par form cm en fds last).length:=by simp [sW]
 refine ⟨List.pairwise_append.mpr ⟨by split<;>simp,List.pairwise_append.mpr ⟨hG.1,by split<;>simp,?_⟩,?_⟩,?_⟩
 ·intro a ha b hb
  split at hb
  ·next h=>
   simp at hb;subst hb
   have:=(hG.2 a ha).2;rw [if_neg h.1] at this;lia
  ·simp at hb
 ·intro a ha b hb
  split at ha
  ·simp at ha;subst ha
   rcases List.mem_append.mp hb with h | h
   ·exact (hG.2 b h).1
   ·split at h
    ·simp at h;clear hb;subst h;simp;lia
    ·simp at h
  ·simp at ha
 ·intro x hx
  rcases List.mem_append.mp hx with h | h
  ·split at h
   ·simp at h;clear hx b1 b0 g1 g0;subst h;assumption
   ·simp at h
  ·rcases List.mem_append.mp h with h | h
   ·have:=(hG.2 x h).2;split at this<;>lia
   ·split at h
    ·simp at h;subst h;lia
    ·simp at h
theorem Qpi (il:Bool):∀ (p:Nat) (gs:List Gd),∀ x∈HF il p gs,x.1<p+(HW gs).length
 | p,[],x,hx=>by simp [Qic,Qid] at hx
 | p,g::r,x,hx=>by
  simp only [Qic,Qid] at hx
  have l:=Qio r
  rcases List.mem_append.mp hx with h | h
  ·have:=((Ql0 il p g).2 x h).2
   simp only [Qji,Qgv,List.length_append];lia
  ·have:=Qpi il (p+(hW g).length) r x h
   simp only [Qji,Qgv,List.length_append];lia
theorem Fr.ofTake {σ σ':List O}(h:σ'.take σ.length=σ) (l:σ.length<=σ'.length):Fr σ σ':=
 ⟨l,λ k lk=>by
  have:(σ'.take σ.length)[k]?=σ'[k]?:=List.getElem?_take_of_lt lk
  refine this.symm.substr ?_;refine h.substr ?_;rfl⟩
theorem W.fr {σ σ':List O}{i j r:Nat}{rows:List V}{p:Nat}{dp:Int}(h:W σ i j r rows p dp) (f:Fr σ σ'):W σ' i j r rows p dp:=
 ⟨f.get h.wi,f.get h.wj,f.get h.wr,h.ij,h.jr,h.len⟩
end
section
open PySem
noncomputable def Qh6 (g c8 c9:Nat):O:=.clo [] [some (.ref c8),some (.ref c9),none] (.call (.glob g) [(.cel 1),(.cel 0)])
end
section
open PySem
noncomputable def wOk (w:List Nat):Bool:=QbH w&&decide (w.length<=20)
theorem QkZ (nmd cm:Bool) (k:Nat) (fd:Fd) (r:List Fd) (ht:fd.ty∈TYS):∀ w∈fW nmd cm k fd r,wOk w=true:=by
 have h2:wOk (fTy fd)=true:=by
  unfold fTy;split
  ·rfl
  ·simp only [TYS,List.mem_cons,List.not_mem_nil,or_false] at ht
   rcases ht with h | h | h | h | h<;>rw [h]<;>rfl
 intro w hw
 simp only [fW,Qch,List.mem_append,List.mem_cons] at hw
 rcases hw with (hw | hw) | hw | hw
 ·split at hw
  ·simp at hw;refine hw.substr ?_;exact rfl
  ·simp at hw
 ·split at hw
  ·rcases List.mem_cons.mp hw with hw | hw
   ·refine hw.substr ?_;split;exact rfl;exact (by unfold nmW;split;rfl;split<;>rfl)
   ·split at hw
    ·simp at hw
    ·simp at hw;exact Eq.trans (congrArg _ hw) rfl
  ·simp at hw
 ·exact Eq.trans (congrArg _ hw) h2
 ·split at hw
  ·simp at hw;refine hw.substr ?_;exact rfl
  ·simp at hw
theorem Qdy (nmd cm:Bool) (en) (he:wOk en=true):∀ (k:Nat) (fds:List Fd),(∀ fd∈fds,fd.ty∈TYS)->∀ w∈gW nmd cm en k fds,wOk w=true
 | _,[],_,w,hw=>by simp [Qe3,Qer] at hw;exact Eq.trans (congrArg _ hw) he
 | k,fd::r,ht,w,hw=>by
  rcases List.mem_append.mp hw with h | h
  ·exact QkZ nmd cm k fd r (ht fd (by simp)) w h
  ·exact Qdy nmd cm en he (k+1) r (λ x m=>ht x (by simp [m])) w h
theorem QgM (nmd cm en k fds):(gW nmd cm en k fds).length<=5 * fds.length+1:=by
 rw [Qj4];have:=QgN nmd cm k fds;simp_all
theorem QeK (nmd cm:Bool) (en):∀ (k p:Nat) (fds:List Fd) (pre:List (List Nat)),pre.length=p->∀ x∈gR nmd cm k p fds,(pre++gW nmd cm en k fds)[x.2.1]?=some x.2.2.2/\x.2.1<p+(gW nmd cm en k fds).length
 | _,_,[],_,_,x,hx=>by simp [QjS,Qjg] at hx
 | k,p,fd::r,pre,hp,x,hx=>by
  rcases List.mem_cons.mp hx with h | h
  ·clear hx;subst h
   simp only [fR,Qe3,Qer,fW,List.length_append,List.length_cons]
   refine ⟨?_,by lia⟩
   simp only [<- hp,List.getElem?_append_right (Nat.le_add_right _ _),Nat.add_sub_cancel_left,List.append_assoc,List.getElem?_append_right (Nat.le_refl _)]
   simp
  ·have:=QeK nmd cm en (k+1) (p+(fW nmd cm k fd r).length) r (pre++fW nmd cm k fd r) (by simp [hp]) x h
   rw [Qer,<- List.append_assoc]
   exact ⟨this.1,by simp only [List.length_append];lia⟩
end
section
open PySem
noncomputable def DueF (τ':List O) (j:Nat) (sp:Nat->Nat) (F:List (Nat×List Nat)) (due:V):Prop:=
 match F with | []=>due=.none | (a,msg)::_=>∃ e,And3 (due=.ref e) (e≠j) (τ'[e]?=some (.list [.str msg,.int (sp a)]))
theorem Ql7 {d:Nat}{τ:List O}{kf m j r p:Nat}{dp:Int}{F:List (Nat×List Nat)}{sps:List V}{sp:Nat->Nat}(hj:τ[j]?=some (wd r p dp)) (hf:τ[kf]?=some (.list (F.map fv))) (hm:τ[m]?=some (.list sps))
  (hs:Srt F) (hq:∀ x∈F,sps[x.1]?=some (.int (sp x.1))/\x.1<1000) (lF:F.length<=900) {Z:Prop}(k0:∀ due τ',(Qab cL (d+1) (.fn 38) [.ref kf,.ref m] τ=.ok due τ')->(Fr τ τ')->DueF τ' j sp F due->Z):Z:=by
 cases F with
 | nil=>
  obtain ⟨τ',e,f⟩:=QiF (d:=d) (m:=.ref m) hf
  exact k0 (.none) τ' e f rfl
 | cons x q=>
  refine Qkx (d:=d) hf (λ x hx=>(List.pairwise_cons.mp hs).1 x hx) (by simp at lF;lia) hm (hq (x.1,x.2) (by simp)).1 (hq (x.1,x.2) (by simp)).2 λ e τ' c he f=>?_
  refine k0 (.ref e) τ' c f ⟨e,rfl,?_,he⟩
  rintro rfl
  simp only [f.get hj] at he
  simp [wd] at he
theorem Qfv {d:Nat}{σ:List O}{s k:Nat}(hs:Src σ s) {ws:List (List Nat)}(hk:σ[k]?=some (.list (ws.map .str))) (ks:k≠s) (hw:∀ w∈ws,wOk w=true) (hl:ws.length<=60) {Z:Prop}(k0:∀ n0 ps m τ τ',(Qab cL (d+4) (.fn 35) [.ref s,.ref k] σ=.ok (.tup [.str (txt n0 ps),.ref m]) τ)->(Qab cL (d+4) (.fn 14) [.str (txt n0 ps)] τ=.ok (.ref (τ.length+2)) τ')->(W τ' (τ.length+2) (τ.length+1) (τ.length+3) (QbQ n0 ps) 0 0)->(Src τ' s)->(Keep s σ τ')->(τ'[m]?=some (.list (Qbv n0 ps)))->(σ.length<=m/\m<τ.length)->(σ.length<=τ.length)->(Qa7 (QbQ n0 ps) ws (spN n0 ps))->(∀ p,p<=ws.length->(Qbv n0 ps)[p]?=some (.int (spN n0 ps p)))->Z):Z:=by
 refine QhI (d:=d+2) hs hk ks (λ w h=>of_decide_eq_true (Bool.and_eq_true_iff.mp (hw w h)).2) (Nat.le_trans hl (by decide)) ?_;rintro n0 ps m τ e1 h0 rfl hn hs1 hm lm k1 lt
 rw [List.length_map] at hl
 refine QeS (d:=d) (σ:=τ) (ps:=ps) (n0:=n0) (Nat.le_trans lt (by decide)) (Nat.lt_trans h0 (by decide)) (λ x hx=>(Bool.and_eq_true_iff.mp (hw x.1 (List.mem_map_of_mem hx))).1) (λ x hx=>Nat.lt_trans (hn x hx) (by decide)) (Nat.le_trans hl (by decide)) λ τ' e2 hW tk l2=>?_
 have f:=Fr.ofTake tk (by refine l2.substr ?_;exact Nat.le_add_right _ _)
 exact k0 n0 ps m τ τ' e1 e2 hW (f.src hs1) (k1.trans (f.keep s)) (f.get hm) ⟨lm,(List.getElem?_eq_some_iff.mp hm).1⟩ k1.1 (QmK n0 ps) (λ p hp=>QhG n0 ps p (by rwa [List.length_map] at hp))
theorem Qax {τ:List O}{c e:Nat}{x:Option V}{l:List V}(o:O) (h:τ[c]?=some (.cell x)) (he:τ[e]?=some (.list l)):(τ.set c o)[e]?=some (.list l):=
 QfS o (λ z=>by rw [z] at h;exact nomatch Option.some.inj (h.symm.trans he)) he
theorem DueF.set {τ:List O}{j c:Nat}{sp:Nat->Nat}{F:List (Nat×List Nat)}{due:V}{x:Option V}(o:O) (h:τ[c]?=some (.cell x)) (hd:DueF τ j sp F due):DueF (τ.set c o) j sp F due:=by
 cases F with
 | nil=>exact hd
 | cons=>obtain ⟨e,a,b,z⟩:=hd;exact ⟨e,a,b,Qax o h z⟩
theorem Due.fr {τ τ':List O}{j p:Nat}{sp:Nat->Nat}{F:List (Nat×List Nat)}{v due:V}(f:Fr τ τ') (hd:Due τ j sp F p v due):Due τ' j sp F p v due:=by
 cases F with
 | nil=>exact hd
 | cons=>obtain ⟨e,a,b,z⟩:=hd;exact ⟨e,a,b,f.get z⟩
theorem QlW {d:Nat}{σ:List O}{s k kf:Nat}(hs:Src σ s) {ws:List (List Nat)}{F:List (Nat×List Nat)}(hk:σ[k]?=some (.list (ws.map .str))) (ks:k≠s) (hw:∀ w∈ws,wOk w=true) (hl:ws.length<=60) (hf:σ[kf]?=some (.list (F.map fv))) (fs:kf≠s)
  (hF:Srt F) (hq:∀ x∈F,x.1<=ws.length) (lF:F.length<=900) {Z:Prop}(k0:∀ n0 ps m τ τ2 τ' due,(Qab cL (d+4) (.fn 35) [.ref s,.ref k] σ=.ok (.tup [.str (txt n0 ps),.ref m]) τ)->(Qab cL (d+4) (.fn 14) [.str (txt n0 ps)] τ=.ok (.ref (τ.length+2)) τ2)->(Qab cL (d+4) (.fn 38) [.ref kf,.ref m] τ2=.ok due τ')->(W τ' (τ.length+2) (τ.length+1) (τ.length+3) (QbQ n0 ps) 0 0)->(Src τ' s)->(Keep s σ τ')->(τ'[m]?=some (.list (Qbv n0 ps)))->(σ.length<=m)->(σ.length<=τ.length)->(Qa7 (QbQ n0 ps) ws (spN n0 ps))->(∀ p,p<=ws.length->(Qbv n0 ps)[p]?=some (.int (spN n0 ps p)))->DueF τ' (τ.length+1) (spN n0 ps) F due->Z):Z:=by
 refine Qfv (d:=d) hs hk ks hw hl λ n0 ps m τ τ2 e1 e2 hW hs2 k2 hm lm l2 hR hS=>?_
 refine Ql7 (d:=d+3) (sp:=spN n0 ps) hW.wj (k2.get fs hf) hm hF (λ x hx=>⟨hS _ (hq x hx),Nat.lt_of_le_of_lt (Nat.le_trans (hq x hx) hl) (by decide)⟩) lF λ due τ' e3 f hd=>?_
 exact k0 n0 ps m τ τ2 τ' due e1 e2 e3 (hW.fr f) (f.src hs2) (k2.trans (f.keep s)) (f.get hm) lm.1 l2 hR hS hd
theorem QeL {D g:Nat}{τ:List O}{i j r:Nat}{rows:List V}{sp:Nat->Nat}{F:List (Nat×List Nat)}{p:Nat}{v a due:V}{ca cb:Nat}(hE:Ends (Qab cL D (.fn g) [.ref i,a]) (τ++[Qh6 g ca cb]) i j r rows sp F p v) (hg:cL.gv g=some (.fn g)) (hv:QdS 8 v=true)
  (h0:τ[ca]?=some (.cell (some a))) (h1:τ[cb]?=some (.cell (some (.ref i)))) (hd:Due τ j sp F p v due) {Z:Prop}(k0:∀ h σ',(Qab cL (D+2) (.fn 36) [.ref τ.length,.ref i] (τ++[Qh6 g ca cb])=.ok h σ')->(eqO h due σ'=.ok (.bool true) σ')->Keep j (τ++[Qh6 g ca cb]) σ'->Z):Z:=
 QkT hE hg hv (QaL _ _) (QcG h0 _) (QcG h1 _) (hd.fr (Fr.app ..)) k0
end
section
open PySem
theorem Qm7 {nmd:Bool}{en:List Nat}(h:en=clW nmd∨en=SEMI):wOk en=true:=by
 rcases h with rfl | rfl
 ·cases nmd<;>rfl
 ·rfl
theorem QmO (nmd:Bool):wOk (opW nmd)=true:=by cases nmd<;>rfl
theorem QiG {d:Nat}{σ:List O}{i j r:Nat}{rows:List V}{p:Nat}(h:W σ i j r rows p 0) {ws:List (List Nat)}{sp:Nat->Nat}(hr:Qa7 rows ws sp) (nmd il cm:Bool) {g:Nat}(hg:nmd=true/\g=27∨nmd=false/\g=28)
  {en:List Nat}(he:en=clW nmd∨en=SEMI) (fds:List Fd) (hk:fds.length<=3) (ht:∀ fd∈fds,fd.ty∈TYS) (hw:ws.drop p=opW nmd::gW nmd cm en 0 fds) {Z:Prop}(k0:Ends (Qab cL (d+8) (.fn g) [.ref i,.bool il]) σ i j r rows sp (gF nmd il cm (clW nmd) en true 0 (p+1) fds) (p+1+(gW nmd cm en 0 fds).length) (.tup ((gR nmd cm 0 (p+1) fds).map (QcF sp)))->cL.gv g=some (.fn g)->Z):Z:=by
 rcases hg with ⟨rfl,rfl⟩ | ⟨rfl,rfl⟩
 ·exact k0 (Qg4 h hr il cm he fds hk ht [] (hw.trans (congrArg _ (List.append_nil _).symm))) rfl
 ·exact k0 (Qfm h hr il cm he fds hk ht [] (hw.trans (congrArg _ (List.append_nil _).symm))) rfl
theorem Qcf {d:Nat}{σ:List O}{s:Nat}(hs:Src σ s) (nmd:Bool) {Z:Prop}(k0:∀ σ',Qab cL (d+12) (.fn 41) [.ref s,.tup [.str (opW nmd),.str (clW nmd)]] σ=.ok (.bool true) σ'->Src σ' s->Z):Z:=by
 have sl:=hs.lt
 refine Qaw (d:=d+10) ((hs.app [.cell none]).app [.cell none]) 2 (by decide) (by decide) λ r τ1 e0 _ hs1 k1=>?_
 have lc:(σ++[O.cell none]).length=σ.length+1:=List.length_append
 have k8:=k1.get (Nat.ne_of_gt sl) (QcG (QaL σ (O.cell none)) [.cell none])
 have h9:=k1.get (by lia) (QaL (σ++[O.cell none]) (.cell none))
 obtain ⟨il,hil⟩:∃ il,((r:Int)==0)=il:=⟨_,rfl⟩
 have t0:Qcg σ.length (.cell (some (.bool ((r:Int)==0)))) τ1=.ok () (τ1.set σ.length (.cell (some (.bool il)))):=hil▸Qai k8 _
 have hs2:Src (τ1.set σ.length (.cell (some (.bool il)))) s:=hs1.keep (Nat.ne_of_gt sl) rfl
 have g2:=Qdb (.cell (some (.bool il))) k8
 have h9:=QfS (.cell (some (.bool il))) (by lia:σ.length≠(σ++[O.cell none]).length) h9
 have l2:=(List.getElem?_eq_some_iff.mp h9).1
 generalize τ1.set σ.length (.cell (some (.bool il)))=τ2 at *
 refine Qfo (d:=d+8) hs2 nmd il λ fds cm en τ3 kw kr kf e1 lf ht hen hs3 k3 hw hr hf lw lr lkf _ _ _=>?_
 have wws:∀ w∈opW nmd::gW nmd cm en 0 fds,wOk w=true:=λ w hw'=>by
  rcases List.mem_cons.mp hw' with h | h
  ·exact h.substr (QmO nmd)
  ·exact Qdy nmd cm en (Qm7 hen) 0 fds ht w h
 have lws:=QgM nmd cm en 0 fds
 have lF:(gF nmd il cm (clW nmd) en true 0 1 fds).length<=30:=by
  rw [Qih];have:=Qff nmd il cm (clW nmd) 0 1 fds;split<;>simp<;>lia
 refine QlW (d:=d+7) hs3 hw (by lia) wws (by simp only [List.length_cons];lia) hf (by lia) (Qig nmd il cm (clW nmd) en true 0 1 fds).1
  (λ x hx=>by have:=Qnz nmd il cm (clW nmd) en true 0 1 fds x hx;simp only [List.length_cons];lia) (by lia) λ n0 ps m τ4 τ5 τ6 due e2 e3 e4 hW hs6 k6 hm lm l4 hR hS hd=>?_
 have l3:=k3.1
 have h9':=k6.get (by lia) (k3.get (by lia) h9)
 have t9:=Qai h9' (.cell (some (.ref (τ4.length+2))))
 have hW:=hW.setK (σ++[O.cell none]).length (.cell (some (.ref (τ4.length+2)))) (by lia) (by lia) (by lia)
 have hs7:Src (τ6.set (σ++[O.cell none]).length (.cell (some (.ref (τ4.length+2))))) s:=hs6.keep (f:=(σ++[O.cell none]).length) (by lia) rfl
 have h8:=QfS (.cell (some (.ref (τ4.length+2)))) (by lia:(σ++[O.cell none]).length≠σ.length) (k6.get (by lia) (k3.get (by lia) g2))
 have hw7:=Qax (.cell (some (.ref (τ4.length+2)))) h9' (k6.get (by lia) hw)
 have hr7:=Qax (.cell (some (.ref (τ4.length+2)))) h9' (k6.get (by lia) hr)
 have hm7:=Qax (.cell (some (.ref (τ4.length+2)))) h9' hm
 have hd:=hd.set (.cell (some (.ref (τ4.length+2)))) h9'
 have g9:=Qdb (.cell (some (.ref (τ4.length+2)))) h9'
 generalize τ6.set (σ++[O.cell none]).length (.cell (some (.ref (τ4.length+2))))=τ7 at *
 have fin:∀ (g:Nat) (due2:V) (τ8:List O),(nmd=true/\g=27∨nmd=false/\g=28)->Fr τ7 τ8->Due τ8 (τ4.length+1) (spN n0 ps) (gF nmd il cm (clW nmd) en true 0 1 fds) (0+1+(gW nmd cm en 0 fds).length) (.tup ((gR nmd cm 0 1 fds).map (QcF (spN n0 ps)))) due2 →
   (∀ h τ9,τ8[(σ++[O.cell none]).length]?=some (.cell (some (.ref (τ4.length+2))))->Qab cL (d+11) (.fn 36) [.ref τ8.length,.ref (τ4.length+2)] (τ8++[Qh6 g σ.length (σ++[O.cell none]).length])=.ok h τ9->eqO h due2 τ9=.ok (.bool true) τ9->Qbi cL (Qab cL (d+11)) F41 [.ref s,.tup [.str (opW nmd),.str (clW nmd)]] σ=.ok (.bool true) τ9)->Z:=λ g due2 τ8 hg f hD go=>by
  refine QiG (d:=d+1) ((hW.fr f).app [Qh6 g σ.length (σ++[O.cell none]).length]) hR nmd il cm hg hen fds lf ht rfl λ hE hv=>?_
  refine QeL (D:=d+9) hE hv (Qd9 2 _ _) (f.get h8) (f.get g9) hD λ h τ9 e9 q9 k9=>?_
  exact k0 τ9 ((congrFun (QcN (cx:=cL) (d:=d+11) (k:=41) (f:=F41) rfl _) σ).trans (go h τ9 (f.get g9) e9 q9)) (((Fr.app ..).src (f.src hs7)).step (by lia) k9)
 cases hG:gF nmd il cm (clW nmd) en true 0 1 fds with
 | nil=>
  rw [hG] at hd fin
  have e4:=(show due=V.none from hd)▸e4
  refine Qg3 (d:=d+9) (sp:=spN n0 ps) hw7 hr7 hm7 (λ x hx=>by
   have:=QeK nmd cm en 0 1 fds [opW nmd] rfl x hx
   exact ⟨this.1,hS _ (by simp only [List.length_cons];lia),by lia⟩) (by rw [QfX];lia) λ τ8 e8 f8=>?_
  have e10:=Qbj (Qaa (Qac (f8.get hw7))) (by simp only [List.length_map,List.length_cons];lia)
  replace e10:=(show ((opW nmd::gW nmd cm en 0 fds).map V.str).length=0+1+(gW nmd cm en 0 fds).length by simp only [List.length_map,List.length_cons];lia)▸e10
  rcases (Bool.eq_false_or_eq_true nmd) with hn | hn
  ·exact fin 27 (.tup [_,.int (0+1+(gW nmd cm en 0 fds).length:Nat)]) τ8 (.inl ⟨hn,rfl⟩) f8 rfl λ h τ9 g9 e9 q9=>QaC (.new<|.new<|.call e0<|.val (V.bool ((r:Int)==0))<|.gO (Qac k8)<|.sO t0<|.gO (Qac g2)<|.call e1<|.call e2<|.call e3<|.call e4<|.gO (Qac h9')<|.sO t9<|.val (V.bool true)<|.yes<|.call e8<|.sub e10<|.val (V.str (opW nmd))<|.val (V.bool (opW nmd==[123]))<|.ask (b:=opW nmd==[123]) (c:=true) (by rw [hn];rfl)<|.new<|.gO (Qac (QcG g9 _))<|.call e9<|.sub (m:=QaJ .eq h _) q9<|.nil) (by kernel_rfl)
  ·exact fin 28 (.tup [_,.int (0+1+(gW nmd cm en 0 fds).length:Nat)]) τ8 (.inr ⟨hn,rfl⟩) f8 rfl λ h τ9 g9 e9 q9=>QaC (.new<|.new<|.call e0<|.val (V.bool ((r:Int)==0))<|.gO (Qac k8)<|.sO t0<|.gO (Qac g2)<|.call e1<|.call e2<|.call e3<|.call e4<|.gO (Qac h9')<|.sO t9<|.val (V.bool true)<|.yes<|.call e8<|.sub e10<|.val (V.str (opW nmd))<|.val (V.bool (opW nmd==[123]))<|.ask (b:=opW nmd==[123]) (c:=false) (by rw [hn];rfl)<|.new<|.gO (Qac (QcG g9 _))<|.call e9<|.sub (m:=QaJ .eq h _) q9<|.nil) (by kernel_rfl)
 | cons y ys=>
  rw [hG] at hd fin
  obtain ⟨e,hd,ne,he⟩:=hd
  rcases (Bool.eq_false_or_eq_true nmd) with hn | hn
  ·exact fin 27 (.ref e) τ7 (.inl ⟨hn,rfl⟩) (Fr.refl _) ⟨e,rfl,ne,he⟩ λ h τ9 g9 e9 q9=>QaC (.new<|.new<|.call e0<|.val (V.bool ((r:Int)==0))<|.gO (Qac k8)<|.sO t0<|.gO (Qac g2)<|.call e1<|.call e2<|.call e3<|.call (hd▸e4)<|.gO (Qac h9')<|.sO t9<|.val (V.bool false)<|.no<|.val (V.str (opW nmd))<|.val (V.bool (opW nmd==[123]))<|.ask (b:=opW nmd==[123]) (c:=true) (by rw [hn];rfl)<|.new<|.gO (Qac (QcG g9 _))<|.call e9<|.sub (m:=QaJ .eq h _) q9<|.nil) (by kernel_rfl)
  ·exact fin 28 (.ref e) τ7 (.inr ⟨hn,rfl⟩) (Fr.refl _) ⟨e,rfl,ne,he⟩ λ h τ9 g9 e9 q9=>QaC (.new<|.new<|.call e0<|.val (V.bool ((r:Int)==0))<|.gO (Qac k8)<|.sO t0<|.gO (Qac g2)<|.call e1<|.call e2<|.call e3<|.call (hd▸e4)<|.gO (Qac h9')<|.sO t9<|.val (V.bool false)<|.no<|.val (V.str (opW nmd))<|.val (V.bool (opW nmd==[123]))<|.ask (b:=opW nmd==[123]) (c:=false) (by rw [hn];rfl)<|.new<|.gO (Qac (QcG g9 _))<|.call e9<|.sub (m:=QaJ .eq h _) q9<|.nil) (by kernel_rfl)
end
section
open PySem
noncomputable def R42 (i:Nat):CS:=F42.body.getD i .bad
theorem Qnr:F42.body=[R42 0,R42 1,R42 2,R42 3,R42 4,R42 5,R42 6,R42 7,R42 8,R42 9,R42 10]:=rfl
noncomputable def E42 (s:Nat) (o1 o2 o3 o4 o5 o6 o8 o9 o11 o12 o13 o14 o15 o16:Option V) (c7 c10 c17:Nat):Env:=
 [some (.ref s),o1,o2,o3,o4,o5,o6,some (.ref c7),o8,o9,some (.ref c10),o11,o12,o13,o14,o15,o16,some (.ref c17),none,none,none,none,none,none,none,none,none]
theorem Qoz {call:V->List V->M V}{σ:List O}(s:Nat):Qbi cL call F42 [.ref s] σ=
  M.bind (Qau (ex cL call 20 20) F42.body (E42 s none none none none none none none none none none none none none none σ.length (σ.length+1) (σ.length+2))) (λ p=>flV p.1) (σ++[.cell none,.cell none,.cell none]):=by
 have e:Qbi cL call F42 [.ref s] σ=M.bind (Qau (ex cL call 20 20) F42.body (E42 s none none none none none none none none none none none none none none σ.length (σ++[O.cell none]).length (σ++[O.cell none]++[O.cell none]).length)) (λ p=>flV p.1) (σ++[.cell none]++[.cell none]++[.cell none]):=rfl
 simp only [e];simp
noncomputable def shF (b:Nat) (x:Nat×List Nat):Nat×List Nat:=(b+x.1,x.2)
noncomputable def shR (b:Nat) (x:Row):Row:=(x.1,b+x.2.1,x.2.2)
theorem Qow (nmd il:Bool) (cl) (b k p:Nat) (fd:Fd) (r:List Fd):fF nmd il cl k (b+p) fd r=(fF nmd il cl k p fd r).map (shF b):=by
 have hi:∀ (c:Prop) [Decidable c] (x y:List (Nat×List Nat)),(if c then x else y).map (shF b)=if c then x.map (shF b) else y.map (shF b):=λ c _ x y=>by split<;>rfl
 simp only [fF,List.map_append,hi,List.map_cons,List.map_nil,shF,Nat.add_assoc]
theorem Qj6 (nmd il cm:Bool) (cl en) (b:Nat):∀ (o:Bool) (k p:Nat) (fds:List Fd),gF nmd il cm cl en o k (b+p) fds=(gF nmd il cm cl en o k p fds).map (shF b)
 | o,k,p,[]=>by simp only [Qib,Qh5];split<;>rfl
 | o,k,p,fd::r=>by simp only [Qib,Qh5,List.map_append,Qow,Nat.add_assoc,Qj6 nmd il cm cl en b _ _ _ r]
theorem Qj5 (nmd cm:Bool) (b:Nat):∀ (k p:Nat) (fds:List Fd),gR nmd cm k (b+p) fds=(gR nmd cm k p fds).map (shR b)
 | k,p,[]=>rfl
 | k,p,fd::r=>by simp only [QjS,Qjg,List.map_cons,Nat.add_assoc,Qj5 nmd cm b _ _ r];simp only [fR,shR,Nat.add_assoc]
theorem QpL {call:V->List V->M V}{τ:List O}{ρ:Env}{kf c7 b:Nat}{F:List (Nat×List Nat)}(n:Nat) (r9:ρ[9]?=some (some (.ref kf))) (r7:ρ[7]?=some (some (.ref c7)))
  (hf:τ[kf]?=some (.list (F.map fv))) (hc:τ[c7]?=some (.cell (some (.int b)))) (lF:F.length<=900):
  ev cL call (n+4) ρ (.comp (.tup [(.bin .add (.cel 3) (.loc 1)),(.loc 2)]) [1,2] false (.loc 9) [] 4 [(3,7)]) τ=.ok (.ref τ.length) (τ++[.list ((F.map (shF b)).map fv)]):=by
 refine List.map_map.substr ?_
 exact Qij (λ ρ=>Ex3 λ o1 o2 o3=>ρ=[o1,o2,o3,some (.ref c7)]) (ρ':=[none,none,none,some (.ref c7)]) (Qcx r7 (by decide)) (by simp only [Qii,r9];rfl) hf ⟨_,_,_,rfl⟩ (Nat.lt_of_le_of_lt lF (by decide)) (fv ∘ shF b) (by lia)
  (λ (x:Nat×List Nat) _ ρ ⟨o1,o2,o3,e⟩=>⟨[o1,some (.int x.1),some (.str x.2),some (.ref c7)],by refine e.substr ?_;rfl,
   QnR (n:=n+3) (.get hc<|.val (V.int ((b+x.1:Nat):Int)) .nil) (by kernel_rfl),_,_,_,rfl⟩)
theorem QpK {call:V->List V->M V}{τ:List O}{ρ:Env}{kr c7 b:Nat}{R:List Row}(n:Nat) (r6:ρ[6]?=some (some (.ref kr))) (r7:ρ[7]?=some (some (.ref c7)))
  (hf:τ[kr]?=some (.list (R.map rv))) (hc:τ[c7]?=some (.cell (some (.int b)))) (lF:R.length<=900):
  ev cL call (n+4) ρ (.comp (.tup [(.loc 1),(.bin .add (.cel 4) (.loc 2)),(.loc 3)]) [1,2,3] false (.loc 6) [] 5 [(4,7)]) τ=.ok (.ref τ.length) (τ++[.list ((R.map (shR b)).map rv)]):=by
 refine List.map_map.substr ?_
 exact Qij (λ ρ=>Ex4 λ o1 o2 o3 o4=>ρ=[o1,o2,o3,o4,some (.ref c7)]) (ρ':=[none,none,none,none,some (.ref c7)]) (Qcx r7 (by decide)) (by simp only [Qii,r6];rfl) hf ⟨_,_,_,_,rfl⟩ (Nat.lt_of_le_of_lt lF (by decide)) (rv ∘ shR b) (by lia)
  (λ (x:Row) _ ρ ⟨o1,o2,o3,o4,e⟩=>⟨[o1,some (.str x.1),some (.int x.2.1),some (.bool x.2.2.1),some (.ref c7)],by refine e.substr ?_;rfl,
   QnR (n:=n+3) (.get hc<|.val (V.int ((b+x.2.1:Nat):Int)) .nil) (by kernel_rfl),_,_,_,_,rfl⟩)
end
section
open PySem
section
variable {call:V->List V->M V}{τ τ1 τ2 τ3:List O}{s:Nat}{c7 c10 c17:Nat}
theorem t0 {nm:List Nat}{pr fo:Nat}(h0:call (.fn 34) [.ref s,.ref τ.length] (τ++[.list [.str [83],.str [84,49],.str [102,110]]])=.ok (.str nm) τ1)
  (h1:call (.fn 33) [.ref s,.int 2] τ1=.ok (.int pr) τ2) (h2:call (.fn 33) [.ref s,.int 3] τ2=.ok (.int fo) τ3):
  ex cL call 20 20 (R42 0) (E42 s none none none none none none none none none none none none none none c7 c10 c17) τ=.ok (.next,E42 s (some (.str nm)) (some (.int pr)) (some (.int fo)) none none none none none none none none none none none c7 c10 c17) τ3:=by
 have n:=Qah [.str [83],.str [84,49],.str [102,110]] (by trivial) τ
 generalize τ++[.list [.str [83],.str [84,49],.str [102,110]]]=τ0 at *
 exact QaP (.sub n<|.call h0<|.call h1<|.call h2<|.nil) (by kernel_rfl)
theorem mkL (l:List V) (h:l.length<=1000000) {Z:Prop}(k0:∀ τ1,QaQ l τ=.ok (.ref τ.length) τ1->τ1[τ.length]?=some (.list l)->Fr τ τ1->Z):Z:=k0 _ (Qah l h τ) (QaL ..) (Fr.app ..)
theorem t1c (A B C:List V) (hA:A.length<=5) (hB:B.length<=5) (hC:C.length<=5) {Z:Prop}(k0:∀ τ1 τ2 τ3 τ4 τ5,QaQ A τ=.ok (.ref τ.length) τ1->QaQ B τ1=.ok (.ref τ1.length) τ2->τ2[τ1.length]?=some (.list B)->QaQ C τ2=.ok (.ref τ2.length) τ3->QbP .add (.ref τ.length) (.ref τ2.length) τ3=.ok (.ref τ3.length) τ4 →
  QaQ [] τ4=.ok (.ref τ4.length) τ5->Fr τ τ5->τ5[τ3.length]?=some (.list (A++C))->τ5[τ4.length]?=some (.list [])->τ.length<=τ3.length->τ.length<=τ4.length->Z):Z:=
 mkL A (Nat.le_trans hA (by decide)) λ τ1 n1 f1 g1=>mkL B (Nat.le_trans hB (by decide)) λ τ2 n2 f2 g2=>mkL C (Nat.le_trans hC (by decide)) λ τ3 n3 f3 g3=>
  mkL (A++C) (Nat.le_trans (List.length_append▸Nat.add_le_add hA hC:(A++C).length<=10) (by decide)) λ τ4 n4 f4 g4=>mkL [] (by decide) λ τ5 n5 f5 g5=>
   have g13:=g1.trans (g2.trans g3)
   k0 τ1 τ2 τ3 τ4 τ5 n1 n2 f2 n3 (Qa4 (g3.get (g2.get f1)) f3 n4) n5 (g13.trans (g4.trans g5)) (g5.get f4) f5 g13.1 (g13.trans g4).1
theorem t1:∀ (par:Bool) (nm:List Nat) (o3:Option V) {Z:Prop},(∀ kw kf τ',(ex cL call 20 20 (R42 1) (E42 s (some (.str nm)) (some (.int (if par then 1 else 0))) o3 none none none none none none none none none none none c7 c10 c17) τ=
   .ok (.next,E42 s (some (.str nm)) (some (.int (if par then 1 else 0))) o3 (some (.ref kw)) (some (.ref kf)) none none none none none none none none none c7 c10 c17) τ')->(Fr τ τ')->(τ'[kw]?=some (.list ((STRUCT::nm::QdR par).map .str)))->(τ'[kf]?=some (.list []))->(τ.length<=kw)->τ.length<=kf->Z)->Z
 | false,nm,o3,_,k0=>t1c [.str STRUCT,.str nm] [.str [60],.str [88],.str [62]] [] (Nat.le_of_ble_eq_true rfl) (by decide) (by decide) λ τ1 τ2 τ3 τ4 τ5 n1 n2 f2 n3 n4 n5 f a b c d=>k0 τ3.length τ4.length τ5 (QaP (.sub n1<|.sub n2<|.sub (Qie f2 (Nat.le_of_ble_eq_true rfl) n3)<|.sub n4<|.sub n5<|.nil) (by kernel_rfl)) f a b c d
 | true,nm,o3,_,k0=>t1c [.str STRUCT,.str nm] [.str [60],.str [88],.str [62]] [.str [60],.str [88],.str [62]] (Nat.le_of_ble_eq_true rfl) (by decide) (by decide) λ τ1 τ2 τ3 τ4 τ5 n1 n2 f2 n3 n4 n5 f a b c d=>k0 τ3.length τ4.length τ5 (QaP (.sub n1<|.sub n2<|.sub (Qgy f2 (Nat.le_of_ble_eq_true rfl) n3)<|.sub n4<|.sub n5<|.nil) (by kernel_rfl)) f a b c d
theorem t2 {nm:List Nat}{kf:Nat}{o2 o3 o4:Option V}(hf:τ[kf]?=some (.list [])):
  ex cL call 20 20 (R42 2) (E42 s (some (.str nm)) o2 o3 o4 (some (.ref kf)) none none none none none none none none none c7 c10 c17) τ=
   .ok (.next,E42 s (some (.str nm)) o2 o3 o4 (some (.ref kf)) none none none none none none none none none c7 c10 c17) (τ.set kf (.list ((if nm=FN then [(1,NAMEM)] else []).map fv))):=by
 by_cases h:nm=FN
 ·subst h
  have g:=Qac hf
  have st:=Qai hf (.list ((if FN=FN then [(1,NAMEM)] else []).map fv))
  generalize τ.set kf (.list ((if FN=FN then [(1,NAMEM)] else []).map fv))=τ2 at *
  exact QaP (.val (V.bool true)<|.yes<|.gO g<|.sub (Qak (y:=V.tup [V.int 1,V.str NAMEM]) (Qaa g) st (Nat.le_of_ble_eq_true rfl))<|.nil) (by kernel_rfl)
 ·have h':¬ nm=[102,110]:=h
  have hs:τ.set kf (.list ((if nm=FN then [(1,NAMEM)] else []).map fv))=τ:=by
   refine (if_neg h).substr ?_
   exact List.ext_getElem? λ i=>by
    by_cases e:kf=i
    ·subst e;simp only [List.getElem?_set_self (List.getElem?_eq_some_iff.mp hf).1,hf];rfl
    ·exact List.getElem?_set_ne e
  simp only [hs]
  exact QaP (.val (V.bool (nm==[102,110]))<|.ask (bF h')<|.nil) (by kernel_rfl)
theorem t3 {o1 o2 o3 o5:Option V}{kw n:Nat}{l:List V}(hw:τ[kw]?=some (.list l)) (ln:l.length=n) (hn:n<=1000) (hc:τ[c7]?=some (.cell none)):
  ex cL call 20 20 (R42 3) (E42 s o1 o2 o3 (some (.ref kw)) o5 none none none none none none none none none c7 c10 c17) τ=
   .ok (.next,E42 s o1 o2 o3 (some (.ref kw)) o5 (some (.ref τ.length)) none none none none none none none none c7 c10 c17) ((τ++[O.list []]).set c7 (.cell (some (.int n)))):=by
 subst ln
 have n1:=Qah [] (by simp) τ
 have f:=Fr.app τ [.list []]
 have st:=Qai (f.get hc) (.cell (some (.int (l.length:Nat))))
 generalize τ++[.list []]=σ1 at *
 generalize σ1.set c7 (.cell (some (.int (l.length:Nat))))=σ2 at *
 exact QaP (.sub n1<|.sub (Qbj (Qaa (Qac (f.get hw))) (by lia))<|.gO (Qac (f.get hc))<|.sO st<|.nil) (by kernel_rfl)
end
end
section
open PySem
local macro_rules | `(tactic| walk_at "lb")=>`(tactic| first | assumption | lia | (simp;done) | (simp;lia))
section
variable {call:V->List V->M V}{τ τ1 τ2 τ3:List O}{s:Nat}{c7 c10 c17:Nat}
theorem t4 {o1 o2:Option V}{fo kw kf k6 k8 k9 b o6:Nat}{W0 W1:List (List Nat)}{F0 F1:List (Nat×List Nat)}(hfo:fo<2)
  (h:call (.fn 39) [.ref s,.tup [.str (opW (decide (fo=0))),.str (clW (decide (fo=0)))],.bool true] (τ++[.list [.tup [.str [123],.str [125]],.tup [.str [40],.str [41]]]])=.ok (.tup [.ref k8,.ref k6,.ref k9]) τ1)
  (hw:τ1[kw]?=some (.list (W0.map .str))) (hf:τ1[kf]?=some (.list (F0.map fv))) (hw1:τ1[k8]?=some (.list (W1.map .str))) (hf1:τ1[k9]?=some (.list (F1.map fv))) (hc:τ1[c7]?=some (.cell (some (.int b))))
  (l1:W0.length<=100) (l2:W1.length<=100) (l3:F0.length<=100) (l4:F1.length<=100) {Z:Prop}(k0:∀ k4 k5 τ',(ex cL call 20 20 (R42 4) (E42 s o1 o2 (some (.int fo)) (some (.ref kw)) (some (.ref kf)) (some (.ref o6)) none none none none none none none none c7 c10 c17) τ=
   .ok (.next,E42 s o1 o2 (some (.int fo)) (some (.ref k4)) (some (.ref k5)) (some (.ref k6)) (some (.ref k8)) (some (.ref k9)) none none none none none none c7 c10 c17) τ')->(Fr τ1 τ')->(τ'[k4]?=some (.list ((W0++W1).map .str)))->(τ'[k5]?=some (.list ((F0++F1.map (shF b)).map fv)))->(τ1.length<=k4)->k4<k5->Z):Z:=by
 have n0:=Qah [.tup [.str [123],.str [125]],.tup [.str [40],.str [41]]] (by simp) τ
 have g0:getO τ.length (τ++[.list [.tup [.str [123],.str [125]],.tup [.str [40],.str [41]]]])=.ok _ _:=QaX ..
 generalize τ++[.list [.tup [.str [123],.str [125]],.tup [.str [40],.str [41]]]]=τ0 at *
 have gw:=Qac hw
 have gw1:=Qac hw1
 have n1:=Qah ((W0++W1).map .str) (by simp;lia) τ1
 have f1:=Fr.app τ1 [.list ((W0++W1).map .str)]
 have a1:(τ1++[O.list ((W0++W1).map .str)])[τ1.length]?=some (.list ((W0++W1).map .str)):=by simp
 have z1:(τ1++[O.list ((W0++W1).map .str)]).length=τ1.length+1:=by simp
 generalize τ1++[.list ((W0++W1).map .str)]=σ1 at *
 have cF:ev cL call 18 (E42 s o1 o2 (some (.int fo)) (some (.ref kw)) (some (.ref kf)) (some (.ref k6)) (some (.ref k8)) (some (.ref k9)) none none none none none none c7 c10 c17) (.comp (.tup [(.bin .add (.cel 3) (.loc 1)),(.loc 2)]) [1,2] false (.loc 9) [] 4 [(3,7)]) σ1=_:=QpL 14 rfl rfl (f1.get hf1) (f1.get hc) (by lia)
 have f2:=Fr.app σ1 [.list ((F1.map (shF b)).map fv)]
 have g2:getO σ1.length (σ1++[.list ((F1.map (shF b)).map fv)])=.ok _ _:=QaX ..
 have gf:=Qac (f2.get (f1.get hf))
 have z2:(σ1++[O.list ((F1.map (shF b)).map fv)]).length=σ1.length+1:=by simp
 generalize σ1++[.list ((F1.map (shF b)).map fv)]=σ2 at *
 have n3:=Qah ((F0++F1.map (shF b)).map fv) (by simp;lia) σ2
 have f3:=Fr.app σ2 [.list ((F0++F1.map (shF b)).map fv)]
 have a3:(σ2++[O.list ((F0++F1.map (shF b)).map fv)])[σ2.length]?=some (.list ((F0++F1.map (shF b)).map fv)):=by simp
 generalize σ2++[.list ((F0++F1.map (shF b)).map fv)]=σ3 at *
 refine k0 τ1.length σ2.length σ3 ?_ (f1.trans (f2.trans f3)) (f3.get (f2.get a1)) a3 (by lia) (by lia)
 simp only [List.map_append] at n1 n3
 generalize (F1.map (shF b)).map fv=FF at *
 generalize F0.map fv=F0' at *
 generalize F1.map fv=F1' at *
 have hh:fo=0∨fo=1:=by lia
 rcases hh with rfl | rfl
 ·
  exact QaP (.val (V.bool true)<|.yes<|.sub n0<|.sub (Qaz (k:=0) (Qaa g0) rfl (by walk_at "lb"))<|.call h<|.sub (Qa4 (Qaa gw) (Qaa gw1) n1)<|.sub cF<|.sub (Qa4 (Qaa gf) (Qaa g2) n3)<|.nil) (by kernel_rfl)
 ·
  exact QaP (.val (V.bool true)<|.yes<|.sub n0<|.sub (Qaz (k:=1) (Qaa g0) rfl (by walk_at "lb"))<|.call h<|.sub (Qa4 (Qaa gw) (Qaa gw1) n1)<|.sub cF<|.sub (Qa4 (Qaa gf) (Qaa g2) n3)<|.nil) (by kernel_rfl)
theorem t4n {o1 o2 o4 o5 o6:Option V}:ex cL call 20 20 (R42 4) (E42 s o1 o2 (some (.int 2)) o4 o5 o6 none none none none none none none none c7 c10 c17) τ=
   .ok (.next,E42 s o1 o2 (some (.int 2)) o4 o5 o6 none none none none none none none none c7 c10 c17) τ:=by
 exact QaP (.val (V.bool false)<|.no<|.nil) (by kernel_rfl)
theorem t5 {o1 o2 o3 o4 o5 o8 o9:Option V}{kr b:Nat}{R:List Row}(hf:τ[kr]?=some (.list (R.map rv))) (hc:τ[c7]?=some (.cell (some (.int b)))) (lF:R.length<=900):
  ex cL call 20 20 (R42 5) (E42 s o1 o2 o3 o4 o5 (some (.ref kr)) o8 o9 none none none none none none c7 c10 c17) τ=
   .ok (.next,E42 s o1 o2 o3 o4 o5 (some (.ref τ.length)) o8 o9 none none none none none none c7 c10 c17) (τ++[.list ((R.map (shR b)).map rv)]):=by
 have cR:ev cL call 20 (E42 s o1 o2 o3 o4 o5 (some (.ref kr)) o8 o9 none none none none none none c7 c10 c17) (.comp (.tup [(.loc 1),(.bin .add (.cel 4) (.loc 2)),(.loc 3)]) [1,2,3] false (.loc 6) [] 5 [(4,7)]) τ=_:=QpK 16 rfl rfl hf hc lF
 generalize τ++[.list ((R.map (shR b)).map rv)]=σ1 at *
 exact QaP (.sub cR<|.nil) (by kernel_rfl)
theorem addW {σ1:List O}{kw:Nat}{W0:List (List Nat)}{last:List Nat}(hw:σ1[kw]?=some (.list (W0.map .str))) (l1:W0.length<=200) {Z:Prop}(k0:∀ σ2 σ3,QaQ [.str last] σ1=.ok (.ref σ1.length) σ2->QbP .add (.ref kw) (.ref σ1.length) σ2=.ok (.ref σ2.length) σ3->Fr σ1 σ3 →
  σ3[σ2.length]?=some (.list ((W0++[last]).map .str))->σ1.length<=σ2.length->Z):Z:=by
 have g:=QcG hw [.list [.str last]]
 have e:(W0.map V.str++[.str last])=(W0++[last]).map .str:=(List.map_append (f:=V.str) (l₁:=W0) (l₂:=[last])).symm
 have n2:=Qk9 g (QaL σ1 (.list [.str last])) (by rw [e,List.length_map,List.length_append];exact Nat.le_trans (Nat.add_le_add_right l1 1) (by decide))
 rw [e] at n2
 exact k0 _ _ (Qah _ (Nat.le_of_ble_eq_true rfl) _) n2 ((Fr.app ..).trans (Fr.app ..)) (QaL ..) (Fr.app σ1 _).1
theorem t6 {o1 o2 o6 o8 o9:Option V}{fo kw kf:Nat}{last:List Nat}{W0:List (List Nat)}{F0:List (Nat×List Nat)}(hfo:0<fo)
  (h:call (.fn 34) [.ref s,.ref τ.length] (τ++[.list [.str [59],.str [59],.str [41]]])=.ok (.str last) τ1) (hw:τ1[kw]?=some (.list (W0.map .str))) (hf:τ1[kf]?=some (.list (F0.map fv))) (ne:kw≠kf)
  (l1:W0.length<=200) (l2:F0.length<=200) {Z:Prop}(k0:∀ k4 τ',(ex cL call 20 20 (R42 6) (E42 s o1 o2 (some (.int fo)) (some (.ref kw)) (some (.ref kf)) o6 o8 o9 none none none none none none c7 c10 c17) τ=
   .ok (.next,E42 s o1 o2 (some (.int fo)) (some (.ref k4)) (some (.ref kf)) o6 o8 o9 (some (.str last)) none none none none none c7 c10 c17) τ')->(Fr (τ1.set kf (.list ((F0++if last≠SEMI then [(W0.length,SEMIM)] else []).map fv))) τ')->(τ'[k4]?=some (.list ((W0++[last]).map .str)))->τ1.length<=k4->Z):Z:=by
 have n0:=Qah [.str [59],.str [59],.str [41]] (by decide) τ
 have fp:(0:Int)<fo:=Int.natCast_pos.mpr hfo
 by_cases hl:last=SEMI
 ·subst hl
  have hs:τ1.set kf (.list ((F0++if SEMI≠SEMI then [(W0.length,SEMIM)] else []).map fv))=τ1:=by
   rw [if_neg (λ h=>h rfl),List.append_nil]
   exact List.ext_getElem? λ i=>by
    by_cases e:kf=i
    ·subst e;exact (List.getElem?_set_self (List.getElem?_eq_some_iff.mp hf).1).trans hf.symm
    ·exact List.getElem?_set_ne e
  rw [hs] at k0
  exact addW hw l1 λ σ2 σ3 n1 n2 f a2 le=>k0 σ2.length σ3 (QaP (.val (V.bool (decide (0<(fo:Int))))<|.dT fp<|.sub n0<|.call h<|.val (V.bool false)<|.no<|.sub n1<|.sub n2<|.nil) (by kernel_rfl)) f a2 le
 ·have st:=Qai hf (.list ((F0++if last≠SEMI then [(W0.length,SEMIM)] else []).map fv))
  have e:(F0++if last≠SEMI then [(W0.length,SEMIM)] else []).map fv=F0.map fv++[V.tup [V.int (W0.map V.str).length,V.str SEMIM]]:=by rw [if_pos hl,List.map_append,List.length_map];rfl
  refine addW ((List.getElem?_set_ne ne.symm).trans hw) l1 λ σ2 σ3 n1 n2 f a2 le=>k0 σ2.length σ3 ?_ f a2 (by rwa [List.length_set] at le)
  generalize (F0++if last≠SEMI then [(W0.length,SEMIM)] else []).map fv=F1 at *
  subst e
  exact QaP (.val (V.bool (decide (0<(fo:Int))))<|.dT fp<|.sub n0<|.call h<|.val (V.bool (last != [59]))<|.ask (nT (bF hl))<|.gO (Qac hf)<|.sub (Qbj hw (by rw [List.length_map];exact Nat.le_trans l1 (by decide)))<|.sub (Qak (y:=V.tup [V.int (W0.map V.str).length,V.str SEMIM]) hf st (by rw [List.length_map];exact Nat.le_trans l2 (by decide)))<|.sub n1<|.sub n2<|.nil) (by kernel_rfl)
theorem t6n {o1 o2 o4 o5 o6 o8 o9:Option V}:ex cL call 20 20 (R42 6) (E42 s o1 o2 (some (.int 0)) o4 o5 o6 o8 o9 none none none none none none c7 c10 c17) τ=
   .ok (.next,E42 s o1 o2 (some (.int 0)) o4 o5 o6 o8 o9 none none none none none none c7 c10 c17) τ:=by
 exact QaP (.val (V.bool false)<|.no<|.nil) (by kernel_rfl)
end
end
section
open PySem
section
variable {call:V->List V->M V}{τ τ1 τ2 τ3:List O}{s:Nat}{c7 c10 c17:Nat}
theorem t7 {o1 o2 o3 o5 o6 o8 o9 o11:Option V}{k4:Nat}{b1 b2:V}(h:call (.fn 35) [.ref s,.ref k4] τ=.ok (.tup [b1,b2]) τ1):
  ex cL call 20 20 (R42 7) (E42 s o1 o2 o3 (some (.ref k4)) o5 o6 o8 o9 o11 none none none none none c7 c10 c17) τ=.ok (.next,E42 s o1 o2 o3 (some (.ref k4)) o5 o6 o8 o9 o11 (some b1) (some b2) none none none c7 c10 c17) τ1:=by
 exact QaP (.call h<|.nil) (by kernel_rfl)
theorem t8 {o1 o2 o3 o4 o6 o8 o9 o11:Option V}{b1 b2 i due:V}{kf r:Nat}(h1:call (.fn 14) [b1] τ=.ok i τ1) (h2:call (.fn 33) [.ref s,.int 2] τ1=.ok (.int r) τ2) (h3:call (.fn 38) [.ref kf,b2] τ2=.ok due τ3)
  (hc:τ3[c17]?=some (.cell none)) (hd:τ3[c10]?=some (.cell none)) (ne:c10≠c17):
  ex cL call 20 20 (R42 8) (E42 s o1 o2 o3 o4 (some (.ref kf)) o6 o8 o9 o11 (some b1) (some b2) none none none c7 c10 c17) τ=
   .ok (.next,E42 s o1 o2 o3 o4 (some (.ref kf)) o6 o8 o9 o11 (some b1) (some b2) (some due) none none c7 c10 c17) ((τ3.set c17 (.cell (some i))).set c10 (.cell (some (.bool ((r:Int)==0))))):=by
 have st:=Qai hc (.cell (some i))
 have hd':(τ3.set c17 (.cell (some i)))[c10]?=some (.cell none):=by exact (List.getElem?_set_ne ne.symm).trans hd
 generalize τ3.set c17 (.cell (some i))=τ4 at *
 have st':=Qai hd' (.cell (some (.bool ((r:Int)==0))))
 generalize τ4.set c10 (.cell (some (.bool ((r:Int)==0))))=τ5 at *
 exact QaP (.call h1<|.call h2<|.val (V.bool ((↑r:Int)==0))<|.call h3<|.gO (Qac hc)<|.sO st<|.gO (Qac hd')<|.sO st'<|.nil) (by kernel_rfl)
theorem t9 {o5 o8 o9 o11 o12:Option V}{nm:List Nat}{par:Bool}{fo k4 k6 m n p0:Nat}{rows:V}{l sps:List V}{b:Bool}(h:call (.fn 40) [.ref k4,.ref k6,.ref m] τ=.ok rows τ1)
  (hm:τ1[m]?=some (.list (.int p0::sps))) (hl:τ1[k4]?=some (.list l)) (ln:l.length=n) (hn:n<=1000) (hc:τ1[c10]?=some (.cell (some (.bool b)))) (f3:fo<3) {Z:Prop}(k0:∀ o15 o16 τ',ex cL call 20 20 (R42 9) (E42 s (some (.str nm)) (some (.int (if par then 1 else 0))) (some (.int fo)) (some (.ref k4)) o5 (some (.ref k6)) o8 o9 o11 o12 (some (.ref m)) (some .none) none none c7 c10 c17) τ=
   .ok (.next,E42 s (some (.str nm)) (some (.int (if par then 1 else 0))) (some (.int fo)) (some (.ref k4)) o5 (some (.ref k6)) o8 o9 o11 o12 (some (.ref m))
    (some (.tup [.tup [.str STRUCT,.int p0,.str nm,GEN par,.str (QcI fo),rows,.bool b],.int n])) o15 o16 c7 c10 c17) τ'->Fr τ1 τ'->Z):Z:=by
 subst ln
 have f1:=Fr.app τ1 [.list [.str Qdt,.str QdU,.str Qjh]]
 have hk:[V.str Qdt,.str QdU,.str Qjh][fo]?=some (.str (QcI fo)):=by
  rcases (show fo=0∨fo=1∨fo=2 from by lia) with rfl | rfl | rfl<;>rfl
 refine k0 (some (GEN par)) (some rows) (τ1++[.list [.str Qdt,.str QdU,.str Qjh]]) ?_ f1
 cases par with
 | false=>exact QaP (.sub (m:=QaJ .is .none .none) rfl<|.ask (c:=true) rfl<|.sub (m:=QaJ .eq (.int 0) (.int 1)) (u:=.bool false) rfl<|.ask (b:=false) rfl<|.call h<|.sub (Qaz (k:=0) hm rfl (by decide))<|.sub (QaD [.str Qdt,.str QdU,.str Qjh] (by decide) _) <|
   .sub (Qaz List.getElem?_concat_length hk (Nat.lt_of_lt_of_le f3 (by decide)))<|.get (f1.get hc)<|.sub (Qbj (f1.get hl) (Nat.le_trans hn (by decide))) .nil) (by kernel_rfl)
 | true=>exact QaP (.sub (m:=QaJ .is .none .none) rfl<|.ask (c:=true) rfl<|.sub (m:=QaJ .eq (.int 1) (.int 1)) (u:=.bool true) rfl<|.ask (b:=true) rfl<|.call h<|.sub (Qaz (k:=0) hm rfl (by decide))<|.sub (QaD [.str Qdt,.str QdU,.str Qjh] (by decide) _) <|
   .sub (Qaz List.getElem?_concat_length hk (Nat.lt_of_lt_of_le f3 (by decide)))<|.get (f1.get hc)<|.sub (Qbj (f1.get hl) (Nat.le_trans hn (by decide))) .nil) (by kernel_rfl)
theorem t9n {e:Nat}{o1 o2 o3 o4 o5 o6 o8 o9 o11 o12 o13:Option V}:ex cL call 20 20 (R42 9) (E42 s o1 o2 o3 o4 o5 o6 o8 o9 o11 o12 o13 (some (.ref e)) none none c7 c10 c17) τ=
  .ok (.next,E42 s o1 o2 o3 o4 o5 o6 o8 o9 o11 o12 o13 (some (.ref e)) none none c7 c10 c17) τ:=by
 exact QaP (.val (V.bool false)<|.no<|.nil) (by kernel_rfl)
theorem QpI {i:Nat}{h due:V}{o1 o2 o3 o4 o5 o6 o8 o9 o11 o12 o13 o15 o16:Option V}(hc:τ[c17]?=some (.cell (some (.ref i)))) (hh:call (.fn 36) [.ref τ.length,.ref i] (τ++[Qh6 30 c10 c17])=.ok h τ2) (he:eqO h due τ2=.ok (.bool true) τ2) {Z:Prop}(k0:∀ ρ',ex cL call 20 20 (R42 10) (E42 s o1 o2 o3 o4 o5 o6 o8 o9 o11 o12 o13 (some due) o15 o16 c7 c10 c17) τ=.ok (.ret (.bool true),ρ') τ2->Z):Z:=by
 refine k0 (E42 s o1 o2 o3 o4 o5 o6 o8 o9 o11 o12 o13 (some due) o15 o16 c7 c10 c17) ?_
 exact QaP (.new<|.gO (Qac ((Keep.app (c17+1) τ [Qh6 30 c10 c17]).get (by simp_all) hc))<|.call hh<|.sub (m:=QaJ .eq h due) he<|.nil) (by kernel_rfl)
end
end
section
open PySem
noncomputable def mW (fo:Nat) (cm:Bool) (en:List Nat) (fds:List Fd):List (List Nat):=if fo=0 then [123]::gW true cm en 0 fds else if fo=1 then [40]::gW false cm en 0 fds else []
noncomputable def mF (fo:Nat) (cm:Bool) (en:List Nat) (fds:List Fd):List (Nat×List Nat):=if fo=0 then gF true true cm [125] en true 0 1 fds else if fo=1 then gF false true cm [41] en true 0 1 fds else []
noncomputable def mR (fo:Nat) (cm:Bool) (fds:List Fd):List Row:=if fo=0 then gR true cm 0 1 fds else if fo=1 then gR false cm 0 1 fds else []
theorem QlR (par:Bool) (fo:Nat) (cm:Bool) (fds:List Fd):(mR fo cm fds).map (shR (sB par))=sR par fo cm fds:=by
 unfold mR sR
 split
 ·simp only [Qj5]
 ·split
  ·simp only [Qj5]
  ·rfl
theorem Qop (par:Bool) (fo:Nat) (cm:Bool) (en) (fds:List Fd):(mF fo cm en fds).map (shF (sB par))=sG par fo cm en fds:=by
 unfold mF sG
 split
 ·simp only [Qj6]
 ·split
  ·simp only [Qj6]
  ·rfl
theorem QfW (nm:List Nat) (par:Bool) (fo:Nat) (cm:Bool) (en) (fds:List Fd) (last):STRUCT::nm::QdR par++mW fo cm en fds++(if 0<fo then [last] else [])=sW nm par fo cm en fds last:=by
 unfold sW mW QbF
 by_cases h0:fo=0
 ·subst h0;simp
 ·have:0<fo:=by lia
  simp only [h0,if_false,this,if_true]
  split<;>simp
theorem QlI (nm:List Nat) (par:Bool) (fo:Nat) (cm:Bool) (en) (fds:List Fd) (last):
  (if nm=FN then [(1,NAMEM)] else [])++(mF fo cm en fds).map (shF (sB par))++(if 0<fo then (if last≠SEMI then [((STRUCT::nm::QdR par++mW fo cm en fds).length,SEMIM)] else []) else [])=sF nm par fo cm en fds last:=by
 unfold sF
 rw [Qop,List.append_assoc];refine ((QfW nm par fo cm en fds last)).symm.substr ?_
 congr 2
 by_cases h0:0<fo
 ·have h1:¬ fo=0:=by lia
  simp only [h0,if_true,h1,ne_eq,not_false_eq_true,true_and]
  split
  ·refine (List.length_append (as:=STRUCT::nm::QdR par++mW fo cm en fds)).substr ?_;rfl
  ·rfl
 ·have h1:fo=0:=by simp_all
  simp [h1]
theorem QlQ (fo cm en fds) (h:fds.length<=3):(mW fo cm en fds).length<=17:=by
 unfold mW
 have h1:=QgM true cm en 0 fds
 have h2:=QgM false cm en 0 fds
 split
 ·simp;lia
 ·clear h1;split
  ·simp;lia
  ·simp
theorem QlS (fo cm en fds) (h:fds.length<=3):(mF fo cm en fds).length<=30:=by
 have:∀ nmd cl,(gF nmd true cm cl en true 0 1 fds).length<=30:=λ nmd cl=>by
  rw [Qih];have:=Qff nmd true cm cl 0 1 fds;split<;>simp<;>lia
 unfold mF
 split
 ·exact this _ _
 ·split
  ·exact this _ _
  ·simp
theorem Qoo (fo cm fds) (h:fds.length<=3):(mR fo cm fds).length<=3:=by
 unfold mR
 split
 ·rw [QfX];exact h
 ·split
  ·rw [QfX];exact h
  ·simp
theorem QpN (nm:List Nat) (hn:nm=[83]∨nm=[84,49]∨nm=FN) (par fo cm en fds last) (he:fo=0->en=[125]∨en=SEMI) (he1:fo=1->en=[41]∨en=SEMI) (ht:∀ fd∈fds,fd.ty∈TYS) (hl:last=SEMI∨last=[41]):
  ∀ w∈sW nm par fo cm en fds last,wOk w=true:=by
 intro w hw
 rw [<- QfW] at hw
 have hnm:wOk nm=true:=by rcases hn with rfl | rfl | rfl<;>rfl
 have hla:wOk last=true:=by rcases hl with rfl | rfl<;>rfl
 simp only [List.mem_append,List.mem_cons] at hw
 rcases hw with ((rfl | rfl | hw) | hw) | hw
 ·rfl
 ·exact hnm
 ·cases par<;>simp [QdR] at hw
  rcases hw with rfl | rfl | rfl<;>rfl
 ·unfold mW at hw
  split at hw
  ·next h0=>
   rcases List.mem_cons.mp hw with rfl | h
   ·rfl
   ·exact Qdy true cm en (by rcases he h0 with rfl | rfl<;>rfl) 0 fds ht w h
  ·split at hw
   ·next h1=>
    rcases List.mem_cons.mp hw with rfl | h
    ·rfl
    ·exact Qdy false cm en (by clear hnm hl he hn;rcases he1 h1 with rfl | rfl<;>rfl) 0 fds ht w h
   ·simp at hw
 ·split at hw
  ·simp at hw;exact Eq.trans (congrArg _ hw) hla
  ·simp at hw
theorem Qky (nm:List Nat) (par fo cm en fds last):∀ x∈sR par fo cm fds,(sW nm par fo cm en fds last)[x.2.1]?=some x.2.2.2/\x.2.1<(sW nm par fo cm en fds last).length:=by
 have lp:(STRUCT::nm::QdR par).length=sB par:=by cases par<;>rfl
 have key:∀ (nmd:Bool) (op:List Nat),(sW nm par fo cm en fds last)=(STRUCT::nm::QdR par++[op])++gW nmd cm en 0 fds++(if 0<fo then [last] else [])->∀ x∈gR nmd cm 0 (sB par+1) fds,(sW nm par fo cm en fds last)[x.2.1]?=some x.2.2.2/\x.2.1<(sW nm par fo cm en fds last).length:=by
  intro nmd op e x hx
  have h:=QeK nmd cm en 0 (sB par+1) fds (STRUCT::nm::QdR par++[op]) (by refine List.length_append.substr ?_;refine lp.substr ?_;rfl) x hx
  have hl:x.2.1<((STRUCT::nm::QdR par++[op])++gW nmd cm en 0 fds).length:=by simp only [List.length_append,List.length_append,lp];exact h.2
  refine e.substr ?_
  refine ⟨?_,?_⟩
  ·exact (List.getElem?_append_left hl).trans h.1
  ·refine List.length_append.substr ?_;lia
 unfold sR
 split
 ·next h0=>subst h0;exact key true [123] (by rw [<- QfW];simp [mW])
 ·split
  ·next h1=>subst h1;exact key false [40] (by rw [<- QfW];simp [mW])
  ·simp
theorem QeX (sp nm par fo cm fds b):QdS 8 (sV sp nm par fo cm fds (.bool b))=true:=by
 have hR:QdS 7 (.tup ((sR par fo cm fds).map (QcF sp)))=true:=Qd9 1 sp _
 show (QdS 7 (GEN par)&&(QdS 7 (.tup ((sR par fo cm fds).map (QcF sp)))&&true))=true
 refine hR.substr ?_
 clear hR;cases par<;>rfl
end
section
open PySem
theorem Fr.set' {σ σ':List O}{k:Nat}{o:O}(x:Fr σ σ') (h:σ.length<=k):Fr σ (σ'.set k o):=x.set h
theorem D4 {d:Nat}{τ:List O}{s kw kf k6 c7 c10 c17 b:Nat}{W0:List (List Nat)}{F0:List (Nat×List Nat)}{o1 o2:Option V}(fo:Nat) (hfo:fo<3) (hs:Src τ s)
  (hw:τ[kw]?=some (.list (W0.map .str))) (hf:τ[kf]?=some (.list (F0.map fv))) (h6:τ[k6]?=some (.list [])) (hc:τ[c7]?=some (.cell (some (.int b)))) (l1:W0.length<=50) (l3:F0.length<=50)
  (ns:kw≠s/\kf≠s/\c7≠s) (nk:kw≠kf) {Z:Prop}(k0:∀ (fds:List Fd) (cm:Bool) (en:List Nat) (k4 k5 k6':Nat) (o8 o9:Option V) (τ':List O),(ex cL (Qab cL (d+12)) 20 20 (R42 4) (E42 s o1 o2 (some (.int fo)) (some (.ref kw)) (some (.ref kf)) (some (.ref k6)) none none none none none none none none c7 c10 c17) τ=
   .ok (.next,E42 s o1 o2 (some (.int fo)) (some (.ref k4)) (some (.ref k5)) (some (.ref k6')) o8 o9 none none none none none none c7 c10 c17) τ')->(fds.length<=3)->((∀ fd∈fds,fd.ty∈TYS))->((fo=0->en=[125]∨en=SEMI))->((fo=1->en=[41]∨en=SEMI))->(Src τ' s)->(Keep s τ τ')->(τ'[k4]?=some (.list ((W0++mW fo cm en fds).map .str)))->(τ'[k5]?=some (.list ((F0++(mF fo cm en fds).map (shF b)).map fv)))->(τ'[k6']?=some (.list ((mR fo cm fds).map rv)))->((kw<=k4∨τ.length<=k4))->((kf<=k5∨τ.length<=k5))->(k4≠k5)->(k4≠s)->k5≠s->Z):Z:=by
 by_cases h2:fo<2
 ·refine Qfo (d:=d+9) (hs.app [.list [.tup [.str [123],.str [125]],.tup [.str [40],.str [41]]]]) (decide (fo=0)) true λ fds cm en τ1 k8 k6' k9 e1 lf ht hen hs1 kk hw1 hr1 hf1 lw lr lkf _ _ _=>?_
  have kk:=(Keep.app s τ _).trans kk
  have eW:opW (decide (fo=0))::gW (decide (fo=0)) cm en 0 fds=mW fo cm en fds:=by
   by_cases h0:fo=0
   ·subst h0;rfl
   ·have h1:fo=1:=by lia
    subst h1;rfl
  have eF:gF (decide (fo=0)) true cm (clW (decide (fo=0))) en true 0 1 fds=mF fo cm en fds:=by
   by_cases h0:fo=0
   ·subst h0;rfl
   ·have h1:fo=1:=by lia
    subst h1;rfl
  have eR:gR (decide (fo=0)) cm 0 1 fds=mR fo cm fds:=by
   by_cases h0:fo=0
   ·subst h0;rfl
   ·have h1:fo=1:=by lia
    clear h0;subst h1;rfl
  replace hw1:=eW▸hw1
  replace hf1:=eF▸hf1
  replace hr1:=eR▸hr1
  have z1:=QlQ fo cm en fds lf
  have z2:=QlS fo cm en fds lf
  clear eR eF eW lkf lr lw;refine t4 (call:=Qab cL (d+12)) (o1:=o1) (o2:=o2) (o6:=k6) (c10:=c10) (c17:=c17) h2 e1 (kk.get ns.1 hw) (kk.get ns.2.1 hf) hw1 hf1 (kk.get ns.2.2 hc) (by lia) (by lia) (by lia) (by lia) λ k4 k5 τ' e f a1 a2 b1 b2=>?_
  have l1:=kk.1
  have l2:=hs.lt
  refine k0 fds cm en k4 k5 k6' _ _ τ' e lf ht ?_ ?_ (f.src hs1) (kk.trans (f.keep s)) a1 a2 (f.get hr1) (.inr (by lia)) (.inr (by lia)) (by lia) (by lia) (by lia)
  ·rintro rfl;exact hen
  ·rintro rfl;exact hen
 ·have h3:fo=2:=by lia
  clear h2 l3 l1 hc hfo;subst h3
  refine k0 [] false [] kw kf k6 none none τ t4n (by simp) (by trivial) (by lia) (by lia) hs (.refl ..) (by simpa [mW] using hw) (by simpa [mF] using hf) (by exact h6) (.inl (by lia)) (.inl (by lia)) nk ns.1 ns.2.1
theorem D6 {d:Nat}{τ:List O}{s kw kf c7 c10 c17:Nat}{W0:List (List Nat)}{F0:List (Nat×List Nat)}{o1 o2 o6 o8 o9:Option V}(fo:Nat) (hfo:fo<3) (hs:Src τ s)
  (hw:τ[kw]?=some (.list (W0.map .str))) (hf:τ[kf]?=some (.list (F0.map fv))) (ns:kw≠s/\kf≠s) (nk:kw≠kf) (l1:W0.length<=200) (l2:F0.length<=200) {Z:Prop}(k0:∀ (last:List Nat) (k4:Nat) (o11:Option V) (τ':List O),(ex cL (Qab cL (d+12)) 20 20 (R42 6) (E42 s o1 o2 (some (.int fo)) (some (.ref kw)) (some (.ref kf)) o6 o8 o9 none none none none none none c7 c10 c17) τ=
   .ok (.next,E42 s o1 o2 (some (.int fo)) (some (.ref k4)) (some (.ref kf)) o6 o8 o9 o11 none none none none none c7 c10 c17) τ')->((last=SEMI∨last=[41]))->(Src τ' s)->((∀ k o,k≠s->k≠kf->τ[k]?=some o->τ'[k]?=some o))->(τ.length<=τ'.length)->((∀ k o,k<τ.length->k≠s->k≠kf->τ'[k]?=some o->τ[k]?=some o))->(τ'[k4]?=some (.list ((W0++if 0<fo then [last] else []).map .str)))->(τ'[kf]?=some (.list ((F0++if 0<fo then (if last≠SEMI then [(W0.length,SEMIM)] else []) else []).map fv)))->(k4≠s)->k4≠kf->Z):Z:=by
 by_cases h0:0<fo
 ·have sl:=hs.lt
  have fl:=(List.getElem?_eq_some_iff.mp hf).1
  refine byK λ Pz kz=>?_;refine Qgw (d:=d+10) (hs.app [.list [.str [59],.str [59],.str [41]]]) (k:=τ.length) (l:=[.str [59],.str [59],.str [41]]) (by simp) (by lia) (by trivial) (by trivial) λ r v τ1 e hr hv hs1 kk=>?_
  obtain ⟨last,rfl,hl⟩:∃ last,v=.str last/\(last=SEMI∨last=[41]):=by
   have:=List.mem_of_getElem? hv
   simp only [List.mem_cons,List.not_mem_nil,or_false] at this
   clear hv hr fl sl;rcases this with rfl | rfl | rfl
   ·exact ⟨_,rfl,.inl rfl⟩
   ·exact ⟨_,rfl,.inl rfl⟩
   ·exact ⟨_,rfl,.inr rfl⟩
  have kk:=(Keep.app s τ _).trans kk
  refine kz ?_;refine byK λ Pz kz=>?_;refine t6 (call:=Qab cL (d+12)) (o1:=o1) (o2:=o2) (o6:=o6) (o8:=o8) (o9:=o9) (c7:=c7) (c10:=c10) (c17:=c17) h0 e (kk.get ns.1 hw) (kk.get ns.2 hf) nk l1 l2 λ k4 τ' e2 f a1 a2=>?_
  have l1:=kk.1
  have g:∀ k o,k≠kf->τ1[k]?=some o->τ'[k]?=some o:=λ k o n h=>f.get (by exact (List.getElem?_set_ne n.symm).trans h)
  refine kz ?_;refine k0 last k4 _ τ' e2 hl ?_ (λ k o n1 n2 h=>g k o n2 (kk.get n1 h)) ?_ ?_ ?_ ?_ (by lia) (by lia)
  ·obtain ⟨a,b,h1,h2,h3,h4⟩:=hs1
   exact ⟨a,b,g s _ ns.2.symm h1,h2,h3,h4⟩
  ·have:=f.1;simp at this;lia
  ·intro k o hk n1 n2 h
   rw [f.2 k (by simp;lia),List.getElem?_set_ne n2.symm,kk.2 k n1 hk] at h
   exact h
  ·refine (if_pos h0).substr ?_;exact a1
  ·refine (if_pos h0).substr ?_;exact f.get (List.getElem?_set_self (List.getElem?_eq_some_iff.mp (kk.get ns.2 hf)).1)
 ·have h3:fo=0:=by simp_all
  subst h3
  exact k0 SEMI kw none τ t6n (.inl rfl) hs (λ _ _ _ _ h=>h) (Nat.le_refl _) (λ _ _ _ _ _ h=>h) (by simpa using hw) (by simpa using hf) ns.1 nk
end
section
open PySem
theorem QpG {C:Prop}(h:∀ G:Prop,(C->G)->G):C:=h C id
theorem QdN {d:Nat}{σ:List O}{s:Nat}(hs:Src σ s):∃ σ',Qab cL (d+13) (.fn 42) [.ref s] σ=.ok (.bool true) σ'/\Src σ' s:=by
 refine QpG λ G kG=>?_
 have sl:=hs.lt
 have hs0:=hs.app [.cell none,.cell none,.cell none]
 have c7:(σ++[O.cell none,.cell none,.cell none])[σ.length]?=some (.cell none):=by simp
 have c10:(σ++[O.cell none,.cell none,.cell none])[σ.length+1]?=some (.cell none):=by simp
 have c17:(σ++[O.cell none,.cell none,.cell none])[σ.length+2]?=some (.cell none):=by simp
 have ent:=Qoz (call:=Qab cL (d+12)) (σ:=σ) s
 have L0:(σ++[O.cell none,.cell none,.cell none]).length=σ.length+3:=by simp
 generalize σ++[O.cell none,.cell none,.cell none]=τ0 at *
 refine Qgw (d:=d+10) (hs0.app [.list [.str [83],.str [84,49],.str [102,110]]]) (k:=τ0.length) (l:=[.str [83],.str [84,49],.str [102,110]]) (by simp) (by lia) (by simp) (by simp) λ r v τ1 e1 hr hv hs1 k1=>?_
 have k1:=(Keep.app s τ0 _).trans k1
 obtain ⟨nm,rfl,hn⟩:∃ nm,v=.str nm/\(nm=[83]∨nm=[84,49]∨nm=FN):=by
  have:=List.mem_of_getElem? hv
  simp only [List.mem_cons,List.not_mem_nil,or_false] at this
  rcases this with rfl | rfl | rfl
  ·exact ⟨_,rfl,.inl rfl⟩
  ·exact ⟨_,rfl,.inr (.inl rfl)⟩
  ·exact ⟨_,rfl,.inr (.inr rfl)⟩
 refine Qaw (d:=d+11) hs1 2 (by decide) (by decide) λ pr τ2 e2 hpr hs2 k2=>?_
 refine Qaw (d:=d+11) hs2 3 (by decide) (by decide) λ fo τ3 e3 hfo hs3 k3=>?_
 have q0:=t0 (call:=Qab cL (d+12)) (c7:=σ.length) (c10:=σ.length+1) (c17:=σ.length+2) e1 e2 e3
 obtain ⟨par,hpar⟩:∃ par:Bool,((pr:Nat):Int)=if par then 1 else 0:=by
  have:pr=0∨pr=1:=by lia
  rcases this with rfl | rfl
  ·exact ⟨false,rfl⟩
  ·exact ⟨true,rfl⟩
 rw [hpar] at q0
 have k3:=(k1.trans k2).trans k3
 have c7:=k3.get (by lia) c7
 have c10:=k3.get (by lia) c10
 have c17:=k3.get (by lia) c17
 have l3:=k3.1
 refine t1 (call:=Qab cL (d+12)) (τ:=τ3) (s:=s) (c7:=σ.length) (c10:=σ.length+1) (c17:=σ.length+2) par nm (some (.int fo)) λ kw kf τ4 q1 f4 hw hf lkw lkf=>?_
 have nk:kw≠kf:=by rintro rfl;rw [hw] at hf;simp at hf
 have q2:=t2 (call:=Qab cL (d+12)) (s:=s) (c7:=σ.length) (c10:=σ.length+1) (c17:=σ.length+2) (nm:=nm) (o2:=some (.int (if par then 1 else 0))) (o3:=some (.int fo)) (o4:=some (.ref kw)) hf
 have f5:Fr τ3 (τ4.set kf (.list ((if nm=FN then [(1,NAMEM)] else []).map fv))):=f4.set lkf
 have hw5:(τ4.set kf (.list ((if nm=FN then [(1,NAMEM)] else []).map fv)))[kw]?=some (.list ((STRUCT::nm::QdR par).map .str)):=by exact (List.getElem?_set_ne nk.symm).trans hw
 have hf5:(τ4.set kf (.list ((if nm=FN then [(1,NAMEM)] else []).map fv)))[kf]?=some (.list ((if nm=FN then [(1,NAMEM)] else []).map fv)):=List.getElem?_set_self (List.getElem?_eq_some_iff.mp hf).1
 generalize τ4.set kf (.list ((if nm=FN then [(1,NAMEM)] else []).map fv))=τ5 at *
 have hs5:=f5.src hs3
 have c7:=f5.get c7
 have c10:=f5.get c10
 have c17:=f5.get c17
 have l5:=f5.1
 have lp:((STRUCT::nm::QdR par).map V.str).length=sB par:=by cases par<;>rfl
 have lb:sB par<=5:=by cases par<;>decide
 have q3:=t3 (call:=Qab cL (d+12)) (s:=s) (c10:=σ.length+1) (c17:=σ.length+2) (o1:=some (.str nm)) (o2:=some (.int (if par then 1 else 0))) (o3:=some (.int fo)) (o5:=some (.ref kf)) hw5 lp (by lia) c7
 have f6:=Fr.app τ5 [.list []]
 have h66:(τ5++[O.list []])[τ5.length]?=some (.list []):=by simp
 have c7':=f6.get c7
 have c10':=f6.get c10
 have c17':=f6.get c17
 have hw6:=f6.get hw5
 have hf6:=f6.get hf5
 have hs6:=f6.src hs5
 have l6:=f6.1
 generalize hk6:τ5.length=k6 at *
 generalize τ5++[O.list []]=τ6 at *
 have c7:(τ6.set σ.length (.cell (some (.int (sB par)))))[σ.length]?=some (.cell (some (.int (sB par)))):=List.getElem?_set_self (List.getElem?_eq_some_iff.mp c7').1
 have setg:∀ {k o},k≠σ.length->τ6[k]?=some o->(τ6.set σ.length (.cell (some (.int (sB par)))))[k]?=some o:=λ n h=>by exact (List.getElem?_set_ne n.symm).trans h
 have c10:=setg (by lia) c10'
 have c17:=setg (by lia) c17'
 have hw:=setg (by lia) hw6
 have hf:=setg (by lia) hf6
 have h66:=setg (by lia) h66
 have hs7:Src (τ6.set σ.length (.cell (some (.int (sB par))))) s:=hs6.keep (f:=σ.length) (by lia) rfl
 have l7:(τ6.set σ.length (.cell (some (.int (sB par))))).length=τ6.length:=by simp
 generalize τ6.set σ.length (.cell (some (.int (sB par))))=τ7 at *
 clear setg c7' c10' c17' hw6 hf6 hw5 hf5 hs6 f6
 refine D4 (d:=d) (o1:=some (.str nm)) (o2:=some (.int (if par then 1 else 0))) (c10:=σ.length+1) (c17:=σ.length+2) fo hfo hs7 hw hf h66 c7
  (by simp at lp ⊢;lia) (by split<;>simp) (by lia) nk λ fds cm en k4 k5 k6' o8 o9 τ8 q4 lf ht he he1 hs8 kk8 hw8 hf8 hr8 lk4 lk5 n45 n4s n5s=>?_
 have c7:=kk8.get (by lia) c7
 have c10:=kk8.get (by lia) c10
 have c17:=kk8.get (by lia) c17
 have z1:=QlQ fo cm en fds lf
 have z2:=QlS fo cm en fds lf
 have z3:=Qoo fo cm fds lf
 have l8:=kk8.1
 have q5:=t5 (call:=Qab cL (d+12)) (s:=s) (c10:=σ.length+1) (c17:=σ.length+2) (o1:=some (.str nm)) (o2:=some (.int (if par then 1 else 0))) (o3:=some (.int fo)) (o4:=some (.ref k4)) (o5:=some (.ref k5)) (o8:=o8) (o9:=o9) hr8 c7 (by lia)
 rw [QlR] at q5
 have f9:=Fr.app τ8 [.list ((sR par fo cm fds).map rv)]
 have hr9:(τ8++[O.list ((sR par fo cm fds).map rv)])[τ8.length]?=some (.list ((sR par fo cm fds).map rv)):=by simp
 have c10:=f9.get c10
 have c17:=f9.get c17
 have hw9:=f9.get hw8
 have hf9:=f9.get hf8
 have hs9:=f9.src hs8
 have l9:=f9.1
 have k5l:=(List.getElem?_eq_some_iff.mp hf8).1
 generalize hkR:τ8.length=kR at *
 generalize τ8++[O.list ((sR par fo cm fds).map rv)]=τ9 at *
 refine D6 (d:=d) (o1:=some (.str nm)) (o2:=some (.int (if par then 1 else 0))) (o6:=some (.ref kR)) (o8:=o8) (o9:=o9) (c7:=σ.length) (c10:=σ.length+1) (c17:=σ.length+2) fo hfo hs9 hw9 hf9 ⟨n4s,n5s⟩ n45
  (by simp at lp;simp;lia) (by split<;>simp<;>lia) λ last k4' o11 τA q6 hl hsA gA lA _ hwA hfA n4s' n45'=>?_
 have c10:=gA _ _ (by lia) (by lia) c10
 have c17:=gA _ _ (by lia) (by lia) c17
 have hrA:=gA _ _ (by lia) (by lia) hr9
 rw [QlI] at hfA
 rw [QfW] at hwA
 have lWA:(sW nm par fo cm en fds last).length<=25:=by
  rw [<- QfW];simp at lp;simp;split<;>simp<;>lia
 have i1:∀ (c:Prop) [Decidable c] (x:Nat×List Nat),(if c then [x] else []).length<=1:=λ c _ x=>by split<;>simp
 have i2:∀ (c:Prop) [Decidable c] (x:List (Nat×List Nat)),x.length<=1->(if c then x else []).length<=1:=λ c _ x h=>by split<;>simp [h]
 have lFA:(sF nm par fo cm en fds last).length<=50:=by
  have i3:∀ (a b c:List (Nat×List Nat)) f,a.length<=1->b.length<=30->c.length<=1->(a++b.map f++c).length<=50:=λ a b c f h1 h2 h3=>by simp only [List.length_append,List.length_map];lia
  rw [<- QlI]
  exact i3 _ _ _ _ (i1 _ _) z2 (i2 _ _ (i1 _ _))
 clear i1 i2
 have hsr:=Qol nm par fo cm en fds last
 have wws:=QpN nm hn par fo cm en fds last he he1 ht hl
 have hRw:=Qky nm par fo cm en fds last
 have kRl:=(List.getElem?_eq_some_iff.mp hrA).1
 have k4l:=(List.getElem?_eq_some_iff.mp hwA).1
 have k5l:=(List.getElem?_eq_some_iff.mp hfA).1
 have lAA:σ.length+3<=τA.length:=by lia
 refine Qfv (d:=d+8) hsA hwA n4s' wws (Nat.le_trans lWA (by decide)) λ n0 ps m τB τC e7 e8 hW hsC kC hm lm lB hR hS=>?_
 have q7:=t7 (call:=Qab cL (d+12)) (s:=s) (c7:=σ.length) (c10:=σ.length+1) (c17:=σ.length+2) (o1:=some (.str nm)) (o2:=some (.int (if par then 1 else 0))) (o3:=some (.int fo)) (o5:=some (.ref k5)) (o6:=some (.ref kR)) (o8:=o8) (o9:=o9) (o11:=o11) e7
 have sA:=hsA.lt
 refine Qaw (d:=d+11) hsC 2 (by decide) (by decide) λ pb τD e9 _ hsD kD=>?_
 have kCD:=kC.trans kD
 have hW:W τD (τB.length+2) (τB.length+1) (τB.length+3) (QbQ n0 ps) 0 0:=⟨kD.get (by lia) hW.wi,kD.get (by lia) hW.wj,kD.get (by lia) hW.wr,hW.ij,hW.jr,hW.len⟩
 have hm:=kD.get (by lia) hm
 have nr:=(List.getElem?_eq_some_iff.mp hrA).1
 refine Ql7 (d:=d+11) (sp:=spN n0 ps) hW.wj (kCD.get (by lia) hfA) hm hsr.1 (λ x hx=>by
  have:=hsr.2 x hx;exact ⟨hS x.1 (by lia),by lia⟩) (by lia) λ due τE eE fE hd=>?_
 have c10:=fE.get (kCD.get (by lia) c10)
 have c17:=fE.get (kCD.get (by lia) c17)
 have q8:=t8 (call:=Qab cL (d+12)) (s:=s) (c7:=σ.length) (c10:=σ.length+1) (c17:=σ.length+2) (o1:=some (.str nm)) (o2:=some (.int (if par then 1 else 0))) (o3:=some (.int fo)) (o4:=some (.ref k4')) (o6:=some (.ref kR)) (o8:=o8) (o9:=o9) (o11:=o11) e8 e9 eE c17 c10 (by lia)
 obtain ⟨b,hb⟩:∃ b,((pb:Int)==0)=b:=⟨_,rfl⟩
 rw [hb] at q8
 have x10:=QfS (.cell (some (.ref (τB.length+2)))) (by lia:σ.length+2≠σ.length+1) c10
 have hW:=((hW.fr fE).setK (σ.length+2) (.cell (some (.ref (τB.length+2)))) (by lia) (by lia) (by lia)).setK (σ.length+1) (.cell (some (.bool b))) (by lia) (by lia) (by lia)
 have hsF:Src ((τE.set (σ.length+2) (.cell (some (.ref (τB.length+2))))).set (σ.length+1) (.cell (some (.bool b)))) s:=((fE.src hsD).keep (f:=σ.length+2) (by lia) rfl).keep (f:=σ.length+1) (by lia) rfl
 have hr:=Qax (.cell (some (.bool b))) x10 (Qax (.cell (some (.ref (τB.length+2)))) c17 (fE.get (kCD.get (by lia) hrA)))
 have hm:=Qax (.cell (some (.bool b))) x10 (Qax (.cell (some (.ref (τB.length+2)))) c17 (fE.get hm))
 have hw:=Qax (.cell (some (.bool b))) x10 (Qax (.cell (some (.ref (τB.length+2)))) c17 (fE.get (kCD.get n4s' hwA)))
 have hd:=(hd.set (.cell (some (.ref (τB.length+2)))) c17).set (.cell (some (.bool b))) x10
 have c17:=QfS (.cell (some (.bool b))) (by lia:σ.length+1≠σ.length+2) (Qdb (.cell (some (.ref (τB.length+2)))) c17)
 have c10:=Qdb (.cell (some (.bool b))) x10
 clear x10
 generalize (τE.set (σ.length+2) (.cell (some (.ref (τB.length+2))))).set (σ.length+1) (.cell (some (.bool b)))=τF at *
 have fin:∀ (due2:V) (o15 o16:Option V) (τG:List O),ex cL (Qab cL (d+12)) 20 20 (R42 9) (E42 s (some (.str nm)) (some (.int (if par then 1 else 0))) (some (.int fo)) (some (.ref k4')) (some (.ref k5)) (some (.ref kR)) o8 o9 o11 (some (.str (txt n0 ps))) (some (.ref m)) (some due) none none σ.length (σ.length+1) (σ.length+2)) τF=
   .ok (.next,E42 s (some (.str nm)) (some (.int (if par then 1 else 0))) (some (.int fo)) (some (.ref k4')) (some (.ref k5)) (some (.ref kR)) o8 o9 o11 (some (.str (txt n0 ps))) (some (.ref m)) (some due2) o15 o16 σ.length (σ.length+1) (σ.length+2)) τG->Fr τF τG->Due τG (τB.length+1) (spN n0 ps) (sF nm par fo cm en fds last) (sW nm par fo cm en fds last).length (sV (spN n0 ps) nm par fo cm fds (.bool b)) due2->G:=λ due2 o15 o16 τG q9 fG hD=>by
  refine QeL (D:=d+10) (Qiy (d:=d) ((hW.fr fG).app [Qh6 30 (σ.length+1) (σ.length+2)]) nm hn par fo cm en fds last he he1 lf ht hl hR (.bool b)) rfl (QeX (spN n0 ps) nm par fo cm fds b) (fG.get c10) (fG.get c17) hD λ h τH eH qH kH=>?_
  refine QpI (call:=Qab cL (d+12)) (s:=s) (c7:=σ.length) (c10:=σ.length+1) (c17:=σ.length+2) (o1:=some (.str nm)) (o2:=some (.int (if par then 1 else 0))) (o3:=some (.int fo)) (o4:=some (.ref k4')) (o5:=some (.ref k5)) (o6:=some (.ref kR)) (o8:=o8) (o9:=o9) (o11:=o11) (o12:=some (.str (txt n0 ps))) (o13:=some (.ref m)) (o15:=o15) (o16:=o16) (fG.get c17) eH qH λ ρ' q10=>?_
  refine kG ⟨τH,?_,((Fr.app ..).src (fG.src hsF)).step (by lia) kH⟩
  rw [QcN (f:=F42) rfl,ent,QaM,Qnr,Qaj q0,Qaj q1,Qaj q2,Qaj q3,Qaj q4,Qaj q5,Qaj q6,Qaj q7,Qaj q8,Qaj q9,Qau,QaM,q10]
  rfl
 cases hG:sF nm par fo cm en fds last with
 | nil=>
  rw [hG] at hd fin
  have hd:due=.none:=hd
  rw [hd] at fin
  refine Qg3 (d:=d+10) (sp:=spN n0 ps) hw hr hm (λ x hx=>by
   have:=hRw x hx
   exact ⟨this.1,hS _ (by lia),by lia⟩) (by rw [<- QlR,List.length_map];lia) λ τG eG fG=>?_
  obtain ⟨sps,hsp⟩:∃ sps,Qbv n0 ps=.int (spN n0 ps 0)::sps:=by
   have:=hS 0 (Nat.zero_le _)
   cases hq:Qbv n0 ps with
   | nil=>rw [hq] at this;exact nos this
   | cons x y=>rw [hq] at this;exact ⟨y,congrArg (·::y) (Option.some.inj this)⟩
  rw [hsp] at hm
  refine t9 (call:=Qab cL (d+12)) (s:=s) (c7:=σ.length) (c10:=σ.length+1) (c17:=σ.length+2) (nm:=nm) (par:=par) (o5:=some (.ref k5)) (o8:=o8) (o9:=o9) (o11:=o11) (o12:=some (.str (txt n0 ps))) eG (fG.get hm) (fG.get hw) (n:=(sW nm par fo cm en fds last).length) (List.length_map ..) (by lia) (fG.get c10) hfo λ o15 o16 τ' eq f'=>?_
  exact fin _ o15 o16 τ' eq (fG.trans f') rfl
 | cons y ys=>
  rw [hG] at hd fin
  obtain ⟨e,hd,ne,he⟩:=hd
  rw [hd] at fin
  exact fin (.ref e) none none τF t9n (Fr.refl _) ⟨e,rfl,ne,he⟩
end
section
open PySem
local macro_rules | `(tactic| walk_at "lb")=>`(tactic| first | assumption | lia | (simp;done) | (simp;lia))
noncomputable def gv (x:Nat×Bool×Bool):V:=.tup [.int x.1,.bool x.2.1,.bool x.2.2]
structure GS (σ0 τ:List O) (s kw kr kf:Nat) (ws:List (List Nat)) (rs:List (Nat×Bool×Bool)) (fs:List (Nat×List Nat)):Prop where
 src:Src τ s
 hw:τ[kw]?=some (.list (ws.map .str))
 hr:τ[kr]?=some (.list (rs.map gv))
 hf:τ[kf]?=some (.list (fs.map fv))
 kp:Keep s σ0 τ
 sl:s<σ0.length
 nw:σ0.length<=kw
 nr:σ0.length<=kr
 nf:σ0.length<=kf
 wr:kw≠kr
 wf:kw≠kf
 rf:kr≠kf
section
variable {σ0 τ τ':List O}{s kw kr kf:Nat}{ws:List (List Nat)}{rs:List (Nat×Bool×Bool)}{fs:List (Nat×List Nat)}
theorem GS.step (x:GS σ0 τ s kw kr kf ws rs fs) (k:Keep s τ τ') (h:Src τ' s):GS σ0 τ' s kw kr kf ws rs fs:=
 have:=x.sl
 ⟨h,k.get (by have:=x.nw;lia) x.hw,k.get (by have:=x.nr;lia) x.hr,k.get (by have:=x.nf;lia) x.hf,x.kp.trans k,x.sl,x.nw,x.nr,x.nf,x.wr,x.wf,x.rf⟩
theorem GS.addW (x:GS σ0 τ s kw kr kf ws rs fs) (l):GS σ0 (τ.set kw (.list ((ws++l).map .str))) s kw kr kf (ws++l) rs fs:=
 have:=x.sl
 have:=x.nw
 ⟨x.src.keep (f:=kw) (by lia) rfl,List.getElem?_set_self (List.getElem?_eq_some_iff.mp x.hw).1,by exact (List.getElem?_set_ne x.wr).trans x.hr,by exact (List.getElem?_set_ne x.wf).trans x.hf,
  x.kp.setNew x.nw,x.sl,x.nw,x.nr,x.nf,x.wr,x.wf,x.rf⟩
theorem GS.addR (x:GS σ0 τ s kw kr kf ws rs fs) (l):GS σ0 (τ.set kr (.list ((rs++l).map gv))) s kw kr kf ws (rs++l) fs:=
 have:=x.sl
 have:=x.nr
 ⟨x.src.keep (f:=kr) (by lia) rfl,by exact (List.getElem?_set_ne x.wr.symm).trans x.hw,List.getElem?_set_self (List.getElem?_eq_some_iff.mp x.hr).1,by exact (List.getElem?_set_ne x.rf).trans x.hf,
  x.kp.setNew x.nr,x.sl,x.nw,x.nr,x.nf,x.wr,x.wf,x.rf⟩
theorem GS.addF (x:GS σ0 τ s kw kr kf ws rs fs) (l):GS σ0 (τ.set kf (.list ((fs++l).map fv))) s kw kr kf ws rs (fs++l):=
 have:=x.sl
 have:=x.nf
 ⟨x.src.keep (f:=kf) (by lia) rfl,by exact (List.getElem?_set_ne x.wf.symm).trans x.hw,by exact (List.getElem?_set_ne x.rf.symm).trans x.hr,List.getElem?_set_self (List.getElem?_eq_some_iff.mp x.hf).1,
  x.kp.setNew x.nf,x.sl,x.nw,x.nr,x.nf,x.wr,x.wf,x.rf⟩
end
noncomputable def S43 (i:Nat):CS:=B43.getD i .bad
theorem Qnt:B43=[S43 0,S43 1,S43 2,S43 3,S43 4]:=rfl
noncomputable def E43 (s:Nat) (o1 o2 o3 o4 o5 o6 o7 o8 o9 o10 o11 o12 o13:Option V) (c14 c15:Nat):Env:=
 [some (.ref s),o1,o2,o3,o4,o5,o6,o7,o8,o9,o10,o11,o12,o13,some (.ref c14),some (.ref c15),none,none,none,none,none,none,none,none,none,none]
section
variable {call:V->List V->M V}{σ0 τ:List O}{s kw kr kf:Nat}{ws:List (List Nat)}{rs:List (Nat×Bool×Bool)}{fs:List (Nat×List Nat)}{o4 o8 o9 o10 o11 o12 o13:Option V}{c14 c15:Nat}
theorem u0 {a b c:Nat}{τ1 τ2 τ3:List O}{o1 o2 o3 o5 o6 o7:Option V}(h1:call (.fn 33) [.ref s,.int 3] τ=.ok (.int a) τ1) (h2:call (.fn 33) [.ref s,.int 6] τ1=.ok (.int b) τ2) (h3:call (.fn 33) [.ref s,.int 2] τ2=.ok (.int c) τ3):
  ex cL call 20 19 (S43 0) (E43 s o1 o2 o3 o4 o5 o6 o7 none none none none none none c14 c15) τ=.ok (.next,E43 s o1 o2 o3 o4 (some (.bool ((a:Int)==0))) (some (.bool (decide ((0:Int)<b)))) (some (.bool ((c:Int)==0))) none none none none none none c14 c15) τ3:=by
 exact QaP (.call h1<|.val (V.bool ((↑a:Int)==0))<|.call h2<|.val (V.bool (decide (0<(↑b:Int))))<|.call h3<|.val (V.bool ((↑c:Int)==0))<|.nil) (by kernel_rfl)
variable (x:GS σ0 τ s kw kr kf ws rs fs) (lw:ws.length<=1000) (lr:rs.length<=1000) (lf:fs.length<=1000)
include x lw lr lf
theorem u1 {il:Bool}(hc:τ[c14]?=some (.cell (some (.bool il)))) (hn:c14≠kf) (pub beg res:Bool) {Z:Prop}(k0:∀ τ',ex cL call 20 19 (S43 1) (E43 s (some (.ref kw)) (some (.ref kr)) (some (.ref kf)) o4 (some (.bool pub)) (some (.bool beg)) (some (.bool res)) none none none none none none c14 c15) τ=.ok (.next,E43 s (some (.ref kw)) (some (.ref kr)) (some (.ref kf)) o4 (some (.bool pub)) (some (.bool beg)) (some (.bool res)) none none none none none none c14 c15) τ'->GS σ0 τ' s kw kr kf (ws++if pub then [PUB] else []) rs (fs++if pub&&!il then [(ws.length,PUBM)] else [])->Z):Z:=by
 have gc:=Qac hc
 have gw:=Qac x.hw
 have l1:ws.length<=1000000:=by lia
 have l2:fs.length<=1000000:=by lia
 cases pub
 ·refine k0 τ ?_ (by simpa using x)
  exact QaP (.no<|.nil) (by kernel_rfl)
 ·clear hn hc lf lr lw;cases il
  ·have x1:=x.addF [(ws.length,PUBM)]
   have s1:=Qai x.hf (.list ((fs++[(ws.length,PUBM)]).map fv))
   generalize τ.set kf (.list ((fs++[(ws.length,PUBM)]).map fv))=τ1 at *
   have x2:=x1.addW [PUB]
   have s2:=Qai x1.hw (.list ((ws++[PUB]).map .str))
   generalize τ1.set kw (.list ((ws++[PUB]).map .str))=τ2 at *
   refine k0 τ2 ?_ (by exact x2)
   simp only [List.map_append,List.map_cons,List.map_nil,fv,PUB,PUBM] at *
   exact QaP (.yes<|.gO gc<|.yes<|.gO (Qac x.hf)<|.sub (Qci (Qaa gw) l1)<|.sub (Qak (y:=V.tup [V.int ws.length,V.str PUBM]) (Qaa (Qac x.hf)) s1 (Qb0 l2))<|.gO (Qac x1.hw)<|.sub (Qak (y:=V.str PUB) (Qaa (Qac x1.hw)) s2 (Qb0 l1))<|.nil) (by kernel_rfl)
  ·have x2:=x.addW [PUB]
   have s2:=Qai x.hw (.list ((ws++[PUB]).map .str))
   generalize τ.set kw (.list ((ws++[PUB]).map .str))=τ2 at *
   refine k0 τ2 ?_ (by simpa using x2)
   simp only [List.map_append,List.map_cons,List.map_nil,fv,PUB,PUBM] at *
   exact QaP (.yes<|.gO gc<|.no<|.gO gw<|.sub (Qak (y:=V.str PUB) (Qaa gw) s2 (Qb0 l1))<|.nil) (by kernel_rfl)
theorem u2 (pub beg res:Bool) {Z:Prop}(k0:∀ τ',ex cL call 20 19 (S43 2) (E43 s (some (.ref kw)) (some (.ref kr)) (some (.ref kf)) o4 (some (.bool pub)) (some (.bool beg)) (some (.bool res)) none none none none none none c14 c15) τ=.ok (.next,E43 s (some (.ref kw)) (some (.ref kr)) (some (.ref kf)) o4 (some (.bool pub)) (some (.bool beg)) (some (.bool res)) none none none none none none c14 c15) τ'->GS σ0 τ' s kw kr kf ws rs (fs++if beg then [] else [(ws.length,FNM)])->Z):Z:=by
 cases beg
 ·have x1:=x.addF [(ws.length,FNM)]
  have s1:=Qai x.hf (.list ((fs++[(ws.length,FNM)]).map fv))
  generalize τ.set kf (.list ((fs++[(ws.length,FNM)]).map fv))=τ1 at *
  refine k0 τ1 ?_ (by exact x1)
  simp only [List.map_append,List.map_cons,List.map_nil,fv,FNM] at *
  exact QaP (.yes<|.gO (Qac x.hf)<|.sub (Qci (Qaa (Qac x.hw)) (by lia))<|.sub (Qak (y:=V.tup [V.int ws.length,V.str FNM]) (Qaa (Qac x.hf)) s1 (Qb0 (by lia)))<|.nil) (by kernel_rfl)
 ·refine k0 τ ?_ (by simpa using x)
  exact QaP (.no<|.nil) (by kernel_rfl)
theorem u3 (pub beg res:Bool) {Z:Prop}(k0:∀ τ',ex cL call 20 19 (S43 3) (E43 s (some (.ref kw)) (some (.ref kr)) (some (.ref kf)) o4 (some (.bool pub)) (some (.bool beg)) (some (.bool res)) none none none none none none c14 c15) τ=.ok (.next,E43 s (some (.ref kw)) (some (.ref kr)) (some (.ref kf)) o4 (some (.bool pub)) (some (.bool beg)) (some (.bool res)) none none none none none none c14 c15) τ'->GS σ0 τ' s kw kr kf ws (rs++[(ws.length,pub,res)]) fs->Z):Z:=by
 have gw:=Qac x.hw
 have x1:=x.addR [(ws.length,pub,res)]
 have s1:=Qai x.hr (.list ((rs++[(ws.length,pub,res)]).map gv))
 generalize τ.set kr (.list ((rs++[(ws.length,pub,res)]).map gv))=τ1 at *
 refine k0 τ1 ?_ x1
 simp only [List.map_append,List.map_cons,List.map_nil,gv] at *
 exact QaP (.gO (Qac x.hr)<|.sub (Qci (Qaa gw) (by lia))<|.sub (Qak (y:=V.tup [V.int ws.length,V.bool pub,V.bool res]) (Qaa (Qac x.hr)) s1 (Qb0 (by lia)))<|.nil) (by kernel_rfl)
omit lw lr lf in
theorem GS.new (l:List V) (h:l.length<=1000000) {Z:Prop}(k0:∀ τ1,QaQ l τ=.ok (.ref τ.length) τ1->GS σ0 τ1 s kw kr kf ws rs fs->τ1[τ.length]?=some (.list l)->Fr τ τ1->Z):Z:=
 k0 _ (Qah l h τ) (x.step (Keep.app ..) (x.src.app _)) (QaL ..) (Fr.app ..)
omit lr lf in
theorem u4c (A B C:List V) (W:List (List Nat)) (hA:A.length<=5) (hB:B.length<=5) (hC:C.length<=5) (e:A++C++[V.str [59]]=W.map V.str) {Z:Prop}(k0:∀ τ1 τ2 τ3 τ4 τ5 τ6 τ7,QaQ A τ=.ok (.ref τ.length) τ1->QaQ B τ1=.ok (.ref τ1.length) τ2->τ2[τ1.length]?=some (.list B)->QaQ C τ2=.ok (.ref τ2.length) τ3 →
  QbP .add (.ref τ.length) (.ref τ2.length) τ3=.ok (.ref τ3.length) τ4->QaQ [V.str [59]] τ4=.ok (.ref τ4.length) τ5->QbP .add (.ref τ3.length) (.ref τ4.length) τ5=.ok (.ref τ5.length) τ6->QjT kw [.ref τ5.length] τ6=.ok .none τ7->GS σ0 τ7 s kw kr kf (ws++W) rs fs->Z):Z:=by
 have l1:(A++C).length<=10:=List.length_append▸Nat.add_le_add hA hC
 have l2:(A++C++[V.str [59]]).length<=11:=List.length_append▸Nat.add_le_add_right l1 1
 refine GS.new x A (Nat.le_trans hA (by decide)) λ τ1 n1 x1 f1 _=>GS.new x1 B (Nat.le_trans hB (by decide)) λ τ2 n2 x2 f2 k2=>GS.new x2 C (Nat.le_trans hC (by decide)) λ τ3 n3 x3 f3 k3=>?_
 have f13:=k3.get (k2.get f1)
 refine GS.new x3 (A++C) (Nat.le_trans l1 (by decide)) λ τ4 n4 x4 f4 _=>GS.new x4 [V.str [59]] (Nat.le_of_ble_eq_true rfl) λ τ5 n5 x5 f5 k5=>GS.new x5 (A++C++[V.str [59]]) (Nat.le_trans l2 (by decide)) λ τ6 n6 x6 f6 _=>?_
 have z:=Qk0 x6.hw f6 (Qai x6.hw _) (by rw [List.length_map];exact Nat.le_trans (Nat.add_le_add lw l2) (by decide))
 rw [e,<- List.map_append] at z
 exact k0 τ1 τ2 τ3 τ4 τ5 τ6 _ n1 n2 f2 n3 (Qa4 f13 f3 n4) n5 (Qa4 (k5.get f4) f5 n6) z (x6.addW W)
theorem u4 (pub:Bool):∀ (beg res:Bool) {Z:Prop},(∀ τ',ex cL call 20 19 (S43 4) (E43 s (some (.ref kw)) (some (.ref kr)) (some (.ref kf)) o4 (some (.bool pub)) (some (.bool beg)) (some (.bool res)) none none none none none none c14 c15) τ=.ok (.next,E43 s (some (.ref kw)) (some (.ref kr)) (some (.ref kf)) o4 (some (.bool pub)) (some (.bool beg)) (some (.bool res)) none none none none none none c14 c15) τ'->GS σ0 τ' s kw kr kf (ws++((if beg then FN else USE)::[102]::[40]::[41]::QcH res)) rs fs->Z)->Z
 | true,true,_,k0=>u4c x lw [.str FN,.str [102],.str [40],.str [41]] [.str [45,62],.str [117,56]] [.str [45,62],.str [117,56]] (FN::[102]::[40]::[41]::QcH true) (by decide) (by decide) (by decide) rfl λ τ1 τ2 τ3 τ4 τ5 τ6 τ7 n1 n2 f2 n3 n4 n5 n6 z x7=>k0 τ7 (QaP (.gO (Qac x.hw)<|.yes<|.sub n1<|.sub n2<|.val (V.int 1)<|.sub (Qgy f2 (Nat.le_of_ble_eq_true rfl) n3)<|.sub n4<|.sub n5<|.sub n6<|.sub z<|.nil) (by kernel_rfl)) x7
 | true,false,_,k0=>u4c x lw [.str FN,.str [102],.str [40],.str [41]] [.str [45,62],.str [117,56]] [] (FN::[102]::[40]::[41]::QcH false) (by decide) (by decide) (by decide) rfl λ τ1 τ2 τ3 τ4 τ5 τ6 τ7 n1 n2 f2 n3 n4 n5 n6 z x7=>k0 τ7 (QaP (.gO (Qac x.hw)<|.yes<|.sub n1<|.sub n2<|.val (V.int 0)<|.sub (Qie f2 (Nat.le_of_ble_eq_true rfl) n3)<|.sub n4<|.sub n5<|.sub n6<|.sub z<|.nil) (by kernel_rfl)) x7
 | false,true,_,k0=>u4c x lw [.str USE,.str [102],.str [40],.str [41]] [.str [45,62],.str [117,56]] [.str [45,62],.str [117,56]] (USE::[102]::[40]::[41]::QcH true) (by decide) (by decide) (by decide) rfl λ τ1 τ2 τ3 τ4 τ5 τ6 τ7 n1 n2 f2 n3 n4 n5 n6 z x7=>k0 τ7 (QaP (.gO (Qac x.hw)<|.no<|.sub n1<|.sub n2<|.val (V.int 1)<|.sub (Qgy f2 (Nat.le_of_ble_eq_true rfl) n3)<|.sub n4<|.sub n5<|.sub n6<|.sub z<|.nil) (by kernel_rfl)) x7
 | false,false,_,k0=>u4c x lw [.str USE,.str [102],.str [40],.str [41]] [.str [45,62],.str [117,56]] [] (USE::[102]::[40]::[41]::QcH false) (by decide) (by decide) (by decide) rfl λ τ1 τ2 τ3 τ4 τ5 τ6 τ7 n1 n2 f2 n3 n4 n5 n6 z x7=>k0 τ7 (QaP (.gO (Qac x.hw)<|.no<|.sub n1<|.sub n2<|.val (V.int 0)<|.sub (Qie f2 (Nat.le_of_ble_eq_true rfl) n3)<|.sub n4<|.sub n5<|.sub n6<|.sub z<|.nil) (by kernel_rfl)) x7
end
end
section
open PySem
noncomputable def HG:Nat->List Gd->List (Nat×Bool×Bool)
 | _,[]=>[]
 | p,g::r=>(p+(if g.pub then 1 else 0),g.pub,g.res)::HG (p+(hW g).length) r
noncomputable def HW0:List Gd->List (List Nat)
 | []=>[]
 | g::r=>hW g++HW0 r
theorem QnI (p:Nat):HG p []=[]:=rfl
theorem QnJ (p:Nat) (g:Gd) (r:List Gd):HG p (g::r)=(p+(if g.pub then 1 else 0),g.pub,g.res)::HG (p+(hW g).length) r:=rfl
theorem Qip:HW0 []=[]:=rfl
theorem QgF (g:Gd) (r:List Gd):HW0 (g::r)=hW g++HW0 r:=rfl
theorem Qkg:∀ gs,HW gs=HW0 gs++[[125]]
 | []=>rfl
 | g::r=>by simp only [Qgv,Qkg r,QgF,List.append_assoc]
theorem QlZ (g:Gd):(hW g).length<=8:=by obtain ⟨pub,beg,res⟩:=g;cases pub<;>cases beg<;>cases res<;>decide
theorem Ql1 (il p) (g:Gd):(hF il p g).length<=2:=by obtain ⟨pub,beg,res⟩:=g;cases pub<;>cases beg<;>cases il<;>simp [hF]
theorem QjP:∀ gs,(HW0 gs).length<=8 * gs.length
 | []=>by simp [Qip,QgF]
 | g::r=>by have:=QjP r;have:=QlZ g;simp [Qip,QgF];lia
theorem Qmo (il):∀ p gs,(HF il p gs).length<=2 * gs.length
 | _,[]=>by simp [Qic,Qid]
 | p,g::r=>by have:=Qmo il (p+(hW g).length) r;have:=Ql1 il p g;simp [Qic,Qid];lia
theorem QoS:∀ p gs,(HG p gs).length=gs.length
 | _,[]=>rfl
 | p,g::r=>by simp [QnI,QnJ,QoS _ r]
section
variable {d:Nat}{σ0 τ:List O}{s kw kr kf:Nat}{ws:List (List Nat)}{rs:List (Nat×Bool×Bool)}{fs:List (Nat×List Nat)}{c14 c15:Nat}
theorem Qm9 (x:GS σ0 τ s kw kr kf ws rs fs) (lw:ws.length<=100) (lr:rs.length<=100) (lf:fs.length<=100) {il:Bool}(hc:σ0[c14]?=some (.cell (some (.bool il)))) (hn:c14≠s) (o4 o5 o6 o7:Option V) {Z:Prop}(k0:∀ (g:Gd) (τ':List O) (p5 p6 p7:Option V),Qau (ex cL (Qab cL (d+2)) 20 19) B43 (E43 s (some (.ref kw)) (some (.ref kr)) (some (.ref kf)) o4 o5 o6 o7 none none none none none none c14 c15) τ=.ok (.next,E43 s (some (.ref kw)) (some (.ref kr)) (some (.ref kf)) o4 p5 p6 p7 none none none none none none c14 c15) τ'->GS σ0 τ' s kw kr kf (ws++hW g) (rs++[(ws.length+(if g.pub then 1 else 0),g.pub,g.res)]) (fs++hF il ws.length g)->Z):Z:=by
 have nf:=x.nf
 have cl:=(List.getElem?_eq_some_iff.mp hc).1
 refine Qaw (d:=d+1) x.src 3 (by decide) (by decide) λ a τ1 e1 _ hs1 k1=>?_
 refine Qaw (d:=d+1) hs1 6 (by decide) (by decide) λ b τ2 e2 _ hs2 k2=>?_
 refine Qaw (d:=d+1) hs2 2 (by decide) (by decide) λ c τ3 e3 _ hs3 k3=>?_
 have q0:=u0 (call:=Qab cL (d+2)) (o1:=some (.ref kw)) (o2:=some (.ref kr)) (o3:=some (.ref kf)) (o4:=o4) (o5:=o5) (o6:=o6) (o7:=o7) (c14:=c14) (c15:=c15) e1 e2 e3
 have x3:=x.step ((k1.trans k2).trans k3) hs3
 generalize ((a:Int)==0)=pub at *
 generalize decide ((0:Int)<b)=beg at *
 generalize ((c:Int)==0)=res at *
 refine u1 (call:=Qab cL (d+2)) (o4:=o4) (c15:=c15) x3 (by lia) (by lia) (by lia) (x3.kp.get hn hc) (by lia) pub beg res λ τ4 q1 x4=>?_
 have l4:(ws++if pub then [PUB] else []).length<=101:=by split<;>simp<;>lia
 have l4f:(fs++if pub&&!il then [(ws.length,PUBM)] else []).length<=101:=by split<;>simp<;>lia
 refine u2 (call:=Qab cL (d+2)) (o4:=o4) (c14:=c14) (c15:=c15) x4 (by lia) (by lia) (by lia) pub beg res λ τ5 q2 x5=>?_
 have l5f:(fs++(if pub&&!il then [(ws.length,PUBM)] else [])++(if beg then [] else [((ws++if pub then [PUB] else []).length,FNM)])).length<=102:=by
  have:∀ x:Nat×List Nat,(if beg then [] else [x]).length<=1:=λ x=>by cases beg<;>simp
  have:=this ((ws++if pub then [PUB] else []).length,FNM)
  refine List.length_append.substr ?_;lia
 refine u3 (call:=Qab cL (d+2)) (o4:=o4) (c14:=c14) (c15:=c15) x5 (by lia) (by lia) (by lia) pub beg res λ τ6 q3 x6=>?_
 refine u4 (call:=Qab cL (d+2)) (o4:=o4) (c14:=c14) (c15:=c15) x6 (by lia) (by simp;lia) (by lia) pub beg res λ τ7 q4 x7=>?_
 refine k0 ⟨pub,beg,res⟩ τ7 _ _ _ (by simp only [Qnt,Qaj q0,Qaj q1,Qaj q2,Qaj q3,Qaj q4];rfl) ?_
 have ew:ws++(if pub then [PUB] else [])++((if beg then FN else USE)::[102]::[40]::[41]::QcH res)=ws++hW ⟨pub,beg,res⟩:=by simp only [hW,List.append_assoc]
 have ep:(ws++if pub then [PUB] else []).length=ws.length+(if pub then 1 else 0):=by split<;>simp
 rw [ew,ep,List.append_assoc] at x7
 exact x7
theorem Qjs {il:Bool}(hc:σ0[c14]?=some (.cell (some (.bool il)))) (hn:c14≠s):∀ (m k:Nat) (τ:List O) (ws:List (List Nat)) (rs:List (Nat×Bool×Bool)) (fs:List (Nat×List Nat)) (o4 o5 o6 o7:Option V),
  GS σ0 τ s kw kr kf ws rs fs->ws.length+8 * m<=100->rs.length+m<=100->fs.length+2 * m<=100->∀ {Z:Prop},(∀ (gs:List Gd) (τ':List O) (p4 p5 p6 p7:Option V),(gs.length=m)->(Qb1 (assign cL (Qab cL (d+2)) 20 3 (.loc 4)) (Qau (ex cL (Qab cL (d+2)) 20 19) B43) ((List.range' k m).map λ (i:Nat)=>V.int (Int.ofNat i)) (E43 s (some (.ref kw)) (some (.ref kr)) (some (.ref kf)) o4 o5 o6 o7 none none none none none none c14 c15) τ=
    .ok (.next,E43 s (some (.ref kw)) (some (.ref kr)) (some (.ref kf)) p4 p5 p6 p7 none none none none none none c14 c15) τ')->GS σ0 τ' s kw kr kf (ws++HW0 gs) (rs++HG ws.length gs) (fs++HF il ws.length gs)->Z)->Z
 | 0,k,τ,ws,rs,fs,o4,o5,o6,o7,x,lw,lr,lf,_,k0=>k0 [] τ o4 o5 o6 o7 rfl rfl (by simpa [Qip,QgF,QnI,QnJ,Qic,Qid] using x)
 | m+1,k,τ,ws,rs,fs,o4,o5,o6,o7,x,lw,lr,lf,_,k0=>by
  have as:assign cL (Qab cL (d+2)) 20 3 (.loc 4) (.int (Int.ofNat k)) (E43 s (some (.ref kw)) (some (.ref kr)) (some (.ref kf)) o4 o5 o6 o7 none none none none none none c14 c15) τ=
    .ok (E43 s (some (.ref kw)) (some (.ref kr)) (some (.ref kf)) (some (.int k)) o5 o6 o7 none none none none none none c14 c15) τ:=rfl
  refine Qm9 (d:=d) (c15:=c15) x (by lia) (by lia) (by lia) hc hn (some (.int k)) o5 o6 o7 λ g τ1 p5 p6 p7 e x1=>?_
  have:=QlZ g
  have:=Ql1 il ws.length g
  refine Qjs hc hn m (k+1) τ1 _ _ _ (some (.int k)) p5 p6 p7 x1 (by simp;lia) (by simp;lia) (by simp;lia) λ gs τ2 q4 q5 q6 q7 hl e2 x2=>?_
  refine k0 (g::gs) τ2 q4 q5 q6 q7 (by simp [hl]) (by refine List.range'_succ.substr ?_;refine List.map_cons.substr ?_;refine (Qea as e).substr ?_;exact e2) ?_
  simpa [Qip,QgF,QnI,QnJ,Qic,Qid] using x2
end
theorem QpV {call:V->List V->M V}{sp:Nat->Nat}{s kr m c14 c15 k a:Nat}{sps l:List V}{o1 o3 o4 o6 o8 o10 o13:Option V}{τ:List O}(hcall:∀ (q:Nat) σ,call (.fn 37) [.str U8,.int q] σ=.ok (tyV U8 q) σ) (hm:τ[m]?=some (.list sps)) (hk:τ[k]?=some (.list l))
  (s0:sps[a]?=some (.int (sp a))) (hb:a+5<=900) (l1:l.length<=1000000) (pub:Bool):∀ (res:Bool),(res=true->sps[a+5]?=some (.int (sp (a+5))))->∃ p13,Qau (ex cL call 20 18) QnK (E43 s o1 (some (.ref kr)) o3 o4 (some (.bool pub)) o6 (some (.bool res)) o8 (some (.ref m)) o10 (some (.ref k)) (some (.int a)) o13 c14 c15) τ=
    .ok (.next,E43 s o1 (some (.ref kr)) o3 o4 (some (.bool pub)) o6 (some (.bool res)) o8 (some (.ref m)) o10 (some (.ref k)) (some (.int a)) p13 c14 c15) (τ.set k (.list (l++[fnV sp a res (.bool pub)])))
 | false,_=>⟨some .none,Qbl (.no<|.gO (Qac hk)<|.sub (Qaz hm s0 (Nat.lt_of_le_of_lt (Nat.le_of_add_right_le hb) (by decide)))<|.sub (Qak (y:=fnV sp a false (.bool pub)) hk (Qai hk _) l1)<|.nil) (by kernel_rfl)⟩
 | true,s5=>⟨some (tyV U8 (sp (a+5))),Qbl (.yes<|.val (V.int ((a:Int)+5))<|.sub (Qaz hm (s5 rfl) (Nat.lt_of_le_of_lt hb (by decide)))<|.call (hcall (sp (a+5)) τ)<|.gO (Qac hk)<|.sub (Qaz hm s0 (Nat.lt_of_le_of_lt (Nat.le_of_add_right_le hb) (by decide)))<|.sub (Qak (y:=fnV sp a true (.bool pub)) hk (Qai hk _) l1)<|.nil) (by kernel_rfl)⟩
theorem Qot (g:Gd):(if g.pub then 1 else 0)+5<=(hW g).length/\(g.res=true->(if g.pub then 1 else 0)+6<=(hW g).length):=by
 obtain ⟨pub,beg,res⟩:=g
 cases pub<;>cases beg<;>cases res<;>decide
theorem Qhi {call:V->List V->M V}{sp:Nat->Nat}{s kr m c14 c15 k n:Nat}{sps:List V}{o1 o3 o4 o6 o8 o10:Option V}{gl:List V}(hcall:∀ (q:Nat) σ,call (.fn 37) [.str U8,.int q] σ=.ok (tyV U8 q) σ) (n1:kr≠k) (n2:m≠k):∀ (gs:List Gd) (p q:Nat) (τ:List O) (l:List V) (o5 o7 o12 o13:Option V),gl.drop q=(HG p gs).map gv->l.length+gs.length<=100 →
   τ[kr]?=some (.list gl)->τ[m]?=some (.list sps)->τ[k]?=some (.list l)->(∀ i,i<p+(HW gs).length->sps[i]?=some (.int (sp i)))->p+(HW gs).length<=900->∀ {Z:Prop},(∀ (τ':List O) (p5 p7 p12 p13:Option V),(Qes (assign cL call 20 3 (.tup [(.loc 12),(.loc 5),(.loc 7)])) (Qau (ex cL call 20 18) QnK) kr (n+gs.length+1) q (E43 s o1 (some (.ref kr)) o3 o4 o5 o6 o7 o8 (some (.ref m)) o10 (some (.ref k)) o12 o13 c14 c15) τ=
    .ok (.next,E43 s o1 (some (.ref kr)) o3 o4 p5 o6 p7 o8 (some (.ref m)) o10 (some (.ref k)) p12 p13 c14 c15) τ')->(τ'[k]?=some (.list (l++HV sp p gs)))->Keep k τ τ'->Z)->Z
 | [],p,q,τ,l,o5,o7,o12,o13,hd,hl,hr,hm,hk,hsp,l9,_,k0=>k0 τ o5 o7 o12 o13 (QfD (QbX hr) (by simpa [QnI,QnJ] using hd)) (by simpa [QnG,QnH] using hk) (.refl ..)
 | g::r,p,q,τ,l,o5,o7,o12,o13,hd,hl,hr,hm,hk,hsp,l9,_,k0=>by
  have lh:(HW (g::r)).length=(hW g).length+(HW r).length:=List.length_append
  have lhw:=Qot g
  obtain ⟨p13,e2⟩:=QpV (s:=s) (kr:=kr) (c14:=c14) (c15:=c15) (o1:=o1) (o3:=o3) (o4:=o4) (o6:=o6) (o8:=o8) (o10:=o10) (o13:=o13) hcall hm hk (hsp (p+(if g.pub then 1 else 0)) (by lia)) (by lia) (by lia) g.pub g.res (λ h=>hsp _ (by lia))
  have kk:=Keep.set k (.list (l++[fnV sp (p+(if g.pub then 1 else 0)) g.res (.bool g.pub)])) τ
  refine Qhi (s:=s) (n:=n) (c14:=c14) (c15:=c15) (o1:=o1) (o3:=o3) (o4:=o4) (o6:=o6) (o8:=o8) (o10:=o10) hcall n1 n2 r (p+(hW g).length) (q+1) _ _ (some (.bool g.pub)) (some (.bool g.res)) (some (.int (p+(if g.pub then 1 else 0):Nat))) p13 (by rw [<- List.drop_drop,hd];rfl) (by rw [List.length_append];exact Nat.le_trans (by simp;lia) hl)
   (kk.get n1 hr) (kk.get n2 hm) (Qdb _ hk) (λ i hi=>hsp i (by lia)) (by lia) λ τ2 q5 q7 q12 q13 e3 hk2 kk2=>?_
  exact k0 τ2 q5 q7 q12 q13 ((Qeb (QbX hr) (by have:=Qag hd 0;exact this) rfl e2).trans e3) (by rw [List.append_assoc] at hk2;exact hk2) (kk.trans kk2)
end
section
open PySem
theorem Qph:∀ (gs:List Gd),∀ w∈HW gs,wOk w=true
 | [],w,hw=>by simp [Qji,Qgv] at hw;refine hw.substr ?_;rfl
 | g::r,w,hw=>by
  rw [Qgv] at hw
  rcases List.mem_append.mp hw with h | h
  ·obtain ⟨pub,beg,res⟩:=g
   have:∀ w∈hW ⟨pub,beg,res⟩,wOk w=true:=by cases pub<;>cases beg<;>cases res<;>decide
   exact this w h
  ·exact Qph r w h
theorem QfA (sp):∀ (p:Nat) (gs:List Gd),QdS 8 (.tup (HV sp p gs))=true
 | _,[]=>rfl
 | p,_::r=>Bool.and_eq_true_iff.mpr ⟨QkV 2 _ _ _ _,QfA sp _ r⟩
theorem Ch.newK {call:V->List V->M V}{σ σ':List O}{k:Nat}{o:O}{r:List An}{qs:List Qn}(h:σ.length=k) (c:Ch call (σ++[o]) r qs σ'):Ch call σ (.n k::r) (.new o::qs) σ':=h▸.new c
theorem mk3 {τ:List O}{c:Nat}{l:List V}(b:V) (hl:l.length<=1000000) (hc:τ[c]?=some (.cell none)) {Z:Prop}(k0:∀ kw kr kf σ1 σ2 σ3 τ',(QaQ l τ=.ok (.ref kw) σ1)->(QaQ [] σ1=.ok (.ref kr) σ2)->(QaQ [] σ2=.ok (.ref kf) σ3)->(getO c σ3=.ok (.cell none) σ3)->(Qcg c (.cell (some b)) σ3=.ok () τ')->(τ'[c]?=some (.cell (some b)))->(Keep c τ τ')->(τ'[kw]?=some (.list l))->(τ'[kr]?=some (.list []))->(τ'[kf]?=some (.list []))->τ.length<=kw->kw<kr->kr<kf->Z):Z:=by
 have cl:=(List.getElem?_eq_some_iff.mp hc).1
 have h3:=QcG (QcG (QcG hc [.list l]) [.list []]) [.list []]
 have l1:(τ++[O.list l]).length=τ.length+1:=List.length_append
 have l2:(τ++[O.list l]++[O.list []]).length=(τ++[O.list l]).length+1:=List.length_append
 exact k0 τ.length (τ++[O.list l]).length (τ++[O.list l]++[O.list []]).length _ _ _ _ (Qah l hl τ) (Qah [] (by decide) _) (Qah [] (by decide) _) (Qac h3) (Qai h3 _) (Qdb _ h3) (((Keep.app c τ _).trans ((Keep.app c _ _).trans (Keep.app c _ _))).trans (Keep.set c _ _)) (QfS _ (by lia) (QcG (QcG (QaL _ _) _) _)) (QfS _ (by lia) (QcG (QaL _ _) _)) (QfS _ (by lia) (QaL _ _)) (Nat.le_refl _) (by lia) (by lia)
theorem Qf9 {d:Nat}{σ:List O}{s:Nat}(hs:Src σ s):∃ σ',Qab cL (d+12) (.fn 43) [.ref s] σ=.ok (.bool true) σ'/\Src σ' s:=by
 refine byK λ P kP=>?_
 have sl:=hs.lt
 obtain ⟨c14,z14⟩:∃ c,σ.length=c:=⟨_,rfl⟩
 obtain ⟨c15,z15⟩:∃ c,(σ++[O.cell none]).length=c:=⟨_,rfl⟩
 have l15:c15=c14+1:=by refine z15.symm.substr ?_;refine z14.symm.substr ?_;exact List.length_append
 rw [z14] at sl
 refine Qaw (d:=d+10) ((hs.app [.cell none]).app [.cell none]) 2 (by decide) (by decide) λ r τ1 e0 _ hs1 k1=>?_
 have c0:=k1.get (by lia) (z14▸QcG (QaL σ (O.cell none)) [.cell none])
 have c1:=k1.get (by lia) (z15▸QaL (σ++[O.cell none]) (.cell none))
 have l1:=(List.getElem?_eq_some_iff.mp c1).1
 clear k1
 obtain ⟨il,hil⟩:∃ il,((r:Int)==0)=il:=⟨_,rfl⟩
 refine mk3 (.bool il) (show [V.str [123]].length<=1000000 by decide) c0 λ kw kr kf σ1 σ2 σ3 τ2 n1 n2 n3 gc st c0 k2 hw hr hf lw lwr lrf=>?_
 have st:Qcg c14 (.cell (some (.bool ((r:Int)==0)))) σ3=.ok () τ2:=hil▸st
 have c1:=k2.get (by lia) c1
 have hs2:=hs1.step (by lia) k2
 clear hil
 refine Qaw (d:=d+10) hs2 4 (by decide) (by decide) λ mm τ3 e1 hmm hs3 k3=>?_
 have c0:=k3.get (by lia) c0
 have c1:=k3.get (by lia) c1
 have hw:=k3.get (by lia) hw
 have lk0:=(List.getElem?_eq_some_iff.mp hw).1
 have lT:(τ3.take kw).length=kw:=by simp;lia
 have tk:∀ {k o},k<kw->τ3[k]?=some o->(τ3.take kw)[k]?=some o:=λ h e=>by exact (List.getElem?_take_of_lt h).trans e
 have xG:GS (τ3.take kw) τ3 s kw kr kf [[123]] [] []:=⟨hs3,hw,k3.get (by lia) hr,k3.get (by lia) hf,⟨by lia,λ k _ lk=>(List.getElem?_take_of_lt (by lia)).symm⟩,by lia,by lia,by lia,by lia,by lia,by lia,by lia⟩
 have c0:=tk (by lia) c0
 have c1:=tk (by lia) c1
 clear tk
 refine Qjs (d:=d+9) (c15:=c15) c0 (by lia) mm 0 τ3 [[123]] [] [] none none none none xG (by simp;lia) (by simp;lia) (by simp;lia) λ gs τ4 p4 p5 p6 p7 hgl e4 x4=>?_
 have z1:=QjP gs
 have z2:=Qmo il 1 gs
 have qL:ex cL (Qab cL (d+11)) 20 20 (.forR (.loc 4) (.call (.glob 33) [(.loc 0),(.k (.int 4))]) B43) (E43 s (some (.ref kw)) (some (.ref kr)) (some (.ref kf)) none none none none none none none none none none c14 c15) τ2=
   .ok (.next,E43 s (some (.ref kw)) (some (.ref kr)) (some (.ref kf)) p4 p5 p6 p7 none none none none none none c14 c15) τ4:=by
  have r1:(0:Int)<=mm/\(mm:Int)<=1000:=by lia
  rw [Qmq,QaM];refine (show ev cL (Qab cL (d+11)) 20 (E43 s (some (.ref kw)) (some (.ref kr)) (some (.ref kf)) none none none none none none none none none none c14 c15) (.call (.glob 33) [(.loc 0),(.k (.int 4))]) τ2=.ok (.int mm) τ3 from e1).substr ?_
  simp only [QaM,asI,Qlu]
  rw [if_pos r1,QaA,Int.toNat_natCast];refine List.range_eq_range'.substr ?_
  exact e4
 have c0:=x4.kp.get (by lia) c0
 have c1:=x4.kp.get (by lia) c1
 have hw4:=x4.hw
 have ll:(([[123]]++HW0 gs).map V.str).length<=1000000:=by simp;lia
 have eW:[[123]]++HW0 gs++[[125]]=[123]::HW gs:=by rw [Qkg];rfl
 have st2:Qcg kw (.list (([[123]]++HW0 gs).map V.str++[.str [125]])) τ4=.ok () (τ4.set kw (.list (([123]::HW gs).map .str))):=by
  refine eW.symm.substr ?_;refine (List.map_append (l₂:=[[125]])).substr ?_;exact Qai hw4 _
 have x5:=x4.addW [[125]]
 rw [eW] at x5
 have c0:=QfS (.list (([123]::HW gs).map .str)) (by lia:kw≠c14) c0
 have c1:=QfS (.list (([123]::HW gs).map .str)) (by lia:kw≠c15) c1
 generalize τ4.set kw (.list (([123]::HW gs).map .str))=τ5 at *
 have lHW:(HW gs).length<=30:=by rw [Qkg];simp;lia
 have l5:=x5.kp.1
 refine QlW (d:=d+7) (F:=HF il 1 gs) x5.src x5.hw (by lia) (λ w h=>by
  rcases List.mem_cons.mp h with rfl | h
  ·rfl
  ·exact Qph gs w h) (by simp only [List.length_cons];lia) x5.hf (by lia) (Qmn il 1 gs).1 (λ x hx=>by have:=Qpi il 1 gs x hx;simp only [List.length_cons];lia) (by lia) λ n0 ps m τ6 τ7 τ8 due e6 e7 e8 hW hs8 k8 hm lm l8 hR hS hd=>?_
 have c1:=k8.get (by lia) c1
 have t9:=Qai c1 (.cell (some (.ref (τ6.length+2))))
 have hW:=hW.setK c15 (.cell (some (.ref (τ6.length+2)))) (by lia) (by lia) (by lia)
 have hs9:Src (τ8.set c15 (.cell (some (.ref (τ6.length+2))))) s:=hs8.keep (f:=c15) (by lia) rfl
 have c0:=QfS (.cell (some (.ref (τ6.length+2)))) (by lia:c15≠c14) (k8.get (by lia) c0)
 have hw:=Qax (.cell (some (.ref (τ6.length+2)))) c1 (k8.get (by lia) x5.hw)
 have hr:=Qax (.cell (some (.ref (τ6.length+2)))) c1 (k8.get (by lia) x5.hr)
 have hm:=Qax (.cell (some (.ref (τ6.length+2)))) c1 hm
 have hd:=hd.set (.cell (some (.ref (τ6.length+2)))) c1
 have g1:=Qdb (.cell (some (.ref (τ6.length+2)))) c1
 generalize τ8.set c15 (.cell (some (.ref (τ6.length+2))))=τ9 at *
 have fin:∀ (due2:V) (τA:List O),Fr τ9 τA->Due τA (τ6.length+1) (spN n0 ps) (HF il 1 gs) (0+1+(HW gs).length) (.tup (HV (spN n0 ps) 1 gs)) due2 →
   (∀ h τB,τA[c15]?=some (.cell (some (.ref (τ6.length+2))))->Qab cL (d+11) (.fn 36) [.ref τA.length,.ref (τ6.length+2)] (τA++[Qh6 31 c14 c15])=.ok h τB->eqO h due2 τB=.ok (.bool true) τB->Qbi cL (Qab cL (d+11)) F43 [.ref s] σ=.ok (.bool true) τB)->P:=λ due2 τA f hD go=>by
  refine QeL (D:=d+9) (Qok (d:=d) ((hW.fr f).app [Qh6 31 c14 c15]) hR il gs (by lia) rfl) rfl (QfA _ _ _) (f.get c0) (f.get g1) hD λ h τB eB qB kB=>?_
  exact kP ⟨τB,(congrFun (QcN (cx:=cL) (d:=d+11) (k:=43) (f:=F43) rfl _) σ).trans (go h τB (f.get g1) eB qB),((Fr.app ..).src (f.src hs9)).step (by lia) kB⟩
 cases hG:HF il 1 gs with
 | nil=>
  rw [hG] at hd fin
  have e8:=(show due=V.none from hd)▸e8
  have f1:=Fr.app τ9 [.list []]
  refine Qhi (call:=Qab cL (d+11)) (s:=s) (n:=1999 - gs.length) (c14:=c14) (c15:=c15) (o1:=some (.ref kw)) (o3:=some (.ref kf)) (o4:=p4) (o6:=p6) (o8:=some (.str (txt n0 ps))) (o10:=some .none) (λ q σ=>Qg7 (d:=d+10) U8 q) (Nat.ne_of_lt (List.getElem?_eq_some_iff.mp hr).1) (Nat.ne_of_lt (List.getElem?_eq_some_iff.mp hm).1)
   gs 1 0 (τ9++[.list []]) [] p5 p7 none none rfl (by simp only [List.length_nil];lia) (f1.get hr) (f1.get hm) (QaL _ _) (λ i hi=>hS i (by simp only [List.length_cons];lia)) (by lia) λ τA q5 q7 q12 q13 e hk kk=>?_
  rw [show 1999 - gs.length+gs.length+1=cL.W from congrArg Nat.succ (Nat.sub_add_cancel (Nat.le_trans (by lia:gs.length<=100) (by decide)))] at e
  have FF:Fr τ9 τA:=⟨Nat.le_trans f1.1 kk.1,λ k hk=>(kk.2 k (Nat.ne_of_lt hk) (Nat.lt_of_lt_of_le hk f1.1)).trans (f1.2 k hk)⟩
  have eF:ex cL (Qab cL (d+11)) 20 19 (.for (.tup [(.loc 12),(.loc 5),(.loc 7)]) (.loc 2) QnK) (E43 s (some (.ref kw)) (some (.ref kr)) (some (.ref kf)) p4 p5 p6 p7 (some (.str (txt n0 ps))) (some (.ref m)) (some .none) (some (.ref τ9.length)) none none c14 c15) (τ9++[.list []])=_:=bok (Qap (f1.get hr)) e
  have e10:=Qbj (Qaa (Qac (FF.get hw))) (by simp only [List.length_map,List.length_cons];lia)
  rw [show (([123]::HW gs).map V.str).length=0+1+(HW gs).length by simp only [List.length_map,List.length_cons];lia] at e10
  exact fin (.tup [_,.int (0+1+(HW gs).length:Nat)]) τA FF rfl λ h τB g9 e9 q9=>QaC (.newK z14<|.newK z15<|.call e0<|.val (V.bool ((r:Int)==0))<|.sub n1<|.sub n2<|.sub n3<|.gO gc<|.sO st<|.subX qL<|.gO (Qac hw4)<|.sub (Qak (y:=V.str [125]) (Qaa (Qac hw4)) st2 ll)<|.call e6<|.call e7<|.call e8<|.gO (Qac c1)<|.sO t9 <|
   .val (V.bool true)<|.yes<|.sub (Qah [] (by decide) τ9)<|.subX eF<|.sub (QbI (Qaa (Qac hk)) (by simp only [List.nil_append,Qkh];lia))<|.sub e10<|.new<|.gO (Qac (QcG g9 _))<|.call e9<|.sub (m:=QaJ .eq h _) q9<|.nil) (by kernel_rfl)
 | cons y ys=>
  rw [hG] at hd fin
  obtain ⟨e,hd,ne,he⟩:=hd
  have e8:=hd▸e8
  exact fin (.ref e) τ9 (Fr.refl _) ⟨e,rfl,ne,he⟩ λ h τB g9 e9 q9=>QaC (.newK z14<|.newK z15<|.call e0<|.val (V.bool ((r:Int)==0))<|.sub n1<|.sub n2<|.sub n3<|.gO gc<|.sO st<|.subX qL<|.gO (Qac hw4)<|.sub (Qak (y:=V.str [125]) (Qaa (Qac hw4)) st2 ll)<|.call e6<|.call e7<|.call e8<|.gO (Qac c1)<|.sO t9 <|
   .val (V.bool false)<|.no<|.new<|.gO (Qac (QcG g9 _))<|.call e9<|.sub (m:=QaJ .eq h _) q9<|.nil) (by kernel_rfl)
end
section
open PySem
noncomputable def Qjo:RS V->Bool
 | .ok (.bool b) _=>b
 | _=>false
theorem Qgc {r:RS V}(h:Qjo r=true):∃ σ,r=.ok (.bool true) σ:=by
 cases r with
 | ok v σ=>cases v with
  | bool b=>exact ⟨σ,(show b=true from h)▸rfl⟩
  | _=>exact nob h
 | _=>exact nob h
theorem QpH:Qjo (Qab cL 29 (.fn 45) [] [])=true:=by kernel_rfl
theorem Qod:∃ σ,Qab cL 29 (.fn 45) [] []=.ok (.bool true) σ:=Qgc QpH
noncomputable def R46 (i:Nat):CS:=F46.body.getD i .bad
theorem QpE:F46.body=[R46 0,R46 1,R46 2,R46 3]:=rfl
theorem Qoj (l:List Int):∃ σ',Qab cL 30 (.fn 46) [.lst (l.map .int)] []=.ok (.bool true) σ':=by
 refine byK λ Pz kz=>?_;obtain ⟨τ0,e0⟩:=Qod
 obtain ⟨τ1,e1,hs1,-⟩:=QmF (d:=28) (σ:=τ0) l
 refine kz ?_;generalize τ0.length+1=s at *
 refine byK λ Pz kz=>?_;refine Qcf (d:=17) hs1 true λ τ2 e2 hs2=>?_
 refine Qcf (d:=17) hs2 false λ τ3 e3 hs3=>?_
 refine kz ?_;refine byK λ Pz kz=>?_;obtain ⟨τ4,e4,hs4⟩:=QdN (d:=16) hs3
 obtain ⟨τ5,e5,hs5⟩:=Qf9 (d:=17) hs4
 refine kz ?_;refine ⟨τ5,?_⟩
 rw [QcN (f:=F46) rfl]
 generalize V.lst (l.map .int)=y at *
 generalize Qab cL 29=call at *
 exact QaC (.call e0<|.no<|.call e1<|.call e2<|.no<|.call e3<|.no<|.no<|.call e4<|.yes<|.call e5<|.nil) (by kernel_rfl)
end
section
open PySem PySem.Calls PyProof.Rows
structure Bs where
 prog:Program
 w:World
 g:Heap
 mg:Str->Option Value
 fa:Nat->Option Addr
 tabs:List (Addr×Addr)
 tq:Addr->Str
 KW:Addr
 KE:Addr
 cx:Cx
variable (B:Bs)
mutual
noncomputable def Val (ι:List Addr) (h:Heap):V->Value->Prop
 | .none,v=>v=.none
 | .bool b,v=>v=.bool b
 | .int i,v=>∃ t,v=.int i t
 | .str s,v=>∃ t,v=.str ⟨s.toArray⟩ t
 | .ref i,v=>∃ a,ι[i]?=some a/\v=.ref a
 | .fn k,v=>∃ a,B.fa k=some a/\v=.ref a
 | .tup l,v=>Ex2 λ a its=>And4 (v=.ref a) (a ∉ ι) ((∃ n,h.get? a=some { cls:=.type "tuple", data:=.seq its.toArray n })) (Vals ι h l its)
 | .lst l,v=>Ex2 λ a its=>And3 (v=.ref a) ((∃ n,B.g.get? a=some { cls:=.type "list", data:=.seq its.toArray n })) (Vals ι h l its)
noncomputable def Vals (ι:List Addr) (h:Heap):List V->List Value->Prop
 | [],vs=>vs=[]
 | x::xs,vs=>Ex2 λ v r=>And3 (vs=v::r) (Val ι h x v) (Vals ι h xs r)
end
noncomputable def QbR (o:Obj):Prop:=o.cls=.type "tuple" /\ Ex2 λ its ep=>o.data=.seq its ep
noncomputable def Qfd (o:Obj):Prop:=Ex2 λ es ep=>o.data=.dict es ep
noncomputable def QlX (o:Obj):Prop:=Ex2 λ es ep=>StrKeys es/\o.data=.dict es ep
noncomputable def Slo (o o':Obj):Prop:=o'.cls=o.cls/\o'.dict=o.dict/\o'.data=o.data
theorem Slo.refl (o:Obj):Slo o o:=⟨rfl,rfl,rfl⟩
theorem Slo.trans {a b c:Obj}(x:Slo a b) (y:Slo b c):Slo a c:=⟨y.1.trans x.1,y.2.1.trans x.2.1,y.2.2.trans x.2.2⟩
noncomputable def frs (fr:List PySem.Env):List Addr:=fr.filterMap (·.frame)
noncomputable def Kept (X F:List Addr) (b:Addr) (o o':Obj):Prop:=((QbR o∨(b ∉ X/\(¬ Qfd o∨b ∉ F)))->o'=o)/\(b ∉ X->Slo o o')
theorem Kept.refl (X F:List Addr) (b:Addr) (o:Obj):Kept X F b o o:=⟨λ _=>rfl,λ _=>.refl o⟩
theorem Kept.trans {X F:List Addr}{b:Addr}{o₁ o₂ o₃:Obj}(x:Kept X F b o₁ o₂) (y:Kept X F b o₂ o₃):Kept X F b o₁ o₃:=by
 refine ⟨λ f=>?_,λ n=>(x.2 n).trans (y.2 n)⟩
 have e:=x.1 f
 clear x;subst e
 exact y.1 f
noncomputable def Step (F X ι:List Addr) (h h':Heap):Prop:=
 ∀ b o,h.get? b=some o->∃ o',h'.get? b=some o'/\(b ∉ ι->(∀ q∈B.tabs,b≠q.2)->Kept X F b o o')
structure Go (F X ι:List Addr) (h:Heap) (ι':List Addr) (h':Heap):Prop where
 pre:ι <+: ι'
 newf:∀ a∈ι',a ∉ ι->h.get? a=none
 step:Step B F X ι h h'
variable {B}
theorem Step.refl (F X ι:List Addr) (h:Heap):Step B F X ι h h:=λ _ o e=>⟨o,e,λ _ _=>.refl ..⟩
theorem Go.refl (F X ι:List Addr) (h:Heap):Go B F X ι h ι h:=⟨List.prefix_refl _,λ _ m n=>absurd m n,Step.refl F X ι h⟩
theorem Go.trans {F X ι ι₁ ι₂:List Addr}{h h₁ h₂:Heap}(x:Go B F X ι h ι₁ h₁) (y:Go B F X ι₁ h₁ ι₂ h₂):Go B F X ι h ι₂ h₂:=by
 refine ⟨x.pre.trans y.pre,λ a m n=>?_,λ b o e=>?_⟩
 ·by_cases q:a∈ι₁
  ·exact x.newf a q n
  ·have:=y.newf a m q
   cases e:h.get? a with
   | none=>rfl
   | some o=>obtain ⟨o',e',_⟩:=x.step a o e;rw [e'] at this;contradiction
 ·obtain ⟨o₁,e₁,k₁⟩:=x.step b o e
  obtain ⟨o₂,e₂,k₂⟩:=y.step b o₁ e₁
  refine ⟨o₂,e₂,λ n t=>(k₁ n t).trans (k₂ (λ q=>?_) t)⟩
  have:=x.newf b q n;rw [e] at this;contradiction
theorem Go.wide {F X Y ι ι':List Addr}{h h':Heap}(x:Go B F X ι h ι' h') (k:∀ a∈X,a∈Y):Go B F Y ι h ι' h':=
 ⟨x.pre,x.newf,λ b o e=>let ⟨o',e',f⟩:=x.step b o e;⟨o',e',λ n t=>
  ⟨λ q=>(f n t).1 (q.imp id λ z=>⟨λ m=>z.1 (k b m),z.2⟩),λ q=>(f n t).2 λ m=>q (k b m)⟩⟩⟩
theorem Go.drop {F F' X ι ι':List Addr}{h h':Heap}(x:Go B F' X ι h ι' h') (k:∀ a∈X,h.get? a=none) (kF:∀ a∈F',a ∉ F->h.get? a=none):Go B F [] ι h ι' h':=
 ⟨x.pre,x.newf,λ b o e=>let ⟨o',e',f⟩:=x.step b o e;⟨o',e',λ n t=>by
  exact ⟨λ q=>(f n t).1 (q.imp id λ z=>⟨(λ m=>by have:=k b m;rw [e] at this;contradiction),z.2.imp id λ w m=>by have:=kF b m w;rw [e] at this;contradiction⟩),λ _=>(f n t).2 (λ m=>by have:=k b m;rw [e] at this;contradiction)⟩⟩⟩
theorem Go.ext {F X ι:List Addr}{h h':Heap}(k:∀ b o,h.get? b=some o->h'.get? b=some o):Go B F X ι h ι h':=
 ⟨List.prefix_refl _,λ _ m n=>absurd m n,λ b o e=>⟨o,k b o e,λ _ _=>.refl ..⟩⟩
theorem QaR {ι ι':List Addr}(p:ι <+: ι') {i:Nat}{a:Addr}(e:ι[i]?=some a):ι'[i]?=some a:=by
 obtain ⟨t,rfl⟩:=p
 exact (List.getElem?_append_left (List.getElem?_eq_some_iff.mp e).1).trans e
theorem Go.get {F X ι ι':List Addr}{h h':Heap}(x:Go B F X ι h ι' h') {a:Addr}{o:Obj}(e:h.get? a=some o) (n:a ∉ ι) (t:∀ q∈B.tabs,a≠q.2) (f:QbR o∨(a ∉ X/\(¬ Qfd o∨a ∉ F))):
  h'.get? a=some o/\a ∉ ι':=by
 obtain ⟨o',e',k⟩:=x.step a o e
 refine ⟨by refine e'.substr ?_;refine ((k n t).1 f).substr ?_;rfl,λ m=>?_⟩
 have:=x.newf a m n;rw [e] at this;contradiction
noncomputable def Ent (B:Bs) (h:Heap) (P:Addr) (l:List Value):Prop:=
 ∀ pos cv,codeAmong pos l=some cv->Ex4 λ c' o vs t=>And5 (cv=.ref c') ((∀ q∈B.tabs,c'≠q.2)) (h.get? c'=some o) (o.data=.fields vs) (vs[1]?=some (.str (B.tq P) t))
noncomputable def TabsOk (B:Bs) (h:Heap):Prop:=∀ q∈B.tabs,B.g.get? q.2=none/\∃ ps,And3 (h.get? q.2=some (W.tabObj ps)) (TriplesOk ps.toList) (Ent B h q.2 ps.toList)
theorem Ent.ext {h h':Heap}{P:Addr}{l:List Value}(k:∀ b o vs,h.get? b=some o->o.data=.fields vs->(∀ q∈B.tabs,b≠q.2)->h'.get? b=some o) (x:Ent B h P l):Ent B h' P l:=
 λ pos cv e=>let ⟨c',o,vs,t,a,b,c,d,f⟩:=x pos cv e;⟨c',o,vs,t,a,b,k _ _ _ c d b,d,f⟩
theorem TabsOk.seq {h:Heap}(x:TabsOk B h) {a:Addr}{o:Obj}(e:h.get? a=some o) (s:QbR o):∀ q∈B.tabs,a≠q.2:=λ q m e'=>by
 obtain ⟨_,ps,e2,_⟩:=x q m
 rw [<- e',e] at e2
 clear e' m e x;obtain ⟨_,its,ep,s⟩:=s
 clear s;obtain rfl:=Option.some.inj e2;contradiction
noncomputable def QbT (B:Bs) (h:Heap):Prop:=∀ a o,h.get? a=some o->QbR o->∀ q∈B.tabs,a≠q.2
theorem TabsOk.nt {h:Heap}(x:TabsOk B h):QbT B h:=λ _ _ e s=>x.seq e s
structure Mo (B:Bs) (F X ι:List Addr) (h:Heap) (ι':List Addr) (h':Heap):Prop where
 pre:ι <+: ι'
 get:∀ a o,h.get? a=some o->a ∉ ι->(∀ q∈B.tabs,a≠q.2)->(QbR o∨(a ∉ X/\(¬ Qfd o∨a ∉ F)))->h'.get? a=some o/\a ∉ ι'
theorem Go.mo {F X ι ι':List Addr}{h h':Heap}(x:Go B F X ι h ι' h'):Mo B F X ι h ι' h':=⟨x.pre,λ _ _ e n t f=>x.get e n t f⟩
mutual
theorem Val.mono' {F X ι ι':List Addr}{h h':Heap}(x:Mo B F X ι h ι' h') (T:QbT B h):∀ {v:V}{u:Value},Val B ι h v u->Val B ι' h' v u
 | .none,_,e=>by exact e
 | .bool _,_,e=>by exact e
 | .int _,_,e=>by exact e
 | .str _,_,e=>by exact e
 | .fn _,_,e=>by exact e
 | .ref i,_,e=>by
  obtain ⟨a,e,r⟩:=e
  exact ⟨a,QaR x.pre e,r⟩
 | .tup l,_,e=>by
  obtain ⟨a,its,r,n,⟨k,e⟩,f⟩:=e
  have:=x.get _ _ e n (T _ _ e ⟨rfl,_,_,rfl⟩) (.inl ⟨rfl,_,_,rfl⟩)
  exact ⟨a,its,r,this.2,⟨k,this.1⟩,Vals.mono' x T f⟩
 | .lst l,_,e=>by
  obtain ⟨a,its,r,e,f⟩:=e
  exact ⟨a,its,r,e,Vals.mono' x T f⟩
theorem Vals.mono' {F X ι ι':List Addr}{h h':Heap}(x:Mo B F X ι h ι' h') (T:QbT B h):∀ {v:List V}{u:List Value},Vals B ι h v u->Vals B ι' h' v u
 | [],_,e=>by exact e
 | y::ys,_,e=>by
  obtain ⟨v,r,e,f,k⟩:=e
  exact ⟨v,r,e,Val.mono' x T f,Vals.mono' x T k⟩
end
theorem Val.mono {F X ι ι':List Addr}{h h':Heap}(x:Go B F X ι h ι' h') (T:QbT B h) {v:V}{u:Value}(e:Val B ι h v u):Val B ι' h' v u:=Val.mono' x.mo T e
theorem Vals.mono {F X ι ι':List Addr}{h h':Heap}(x:Go B F X ι h ι' h') (T:QbT B h) {v:List V}{u:List Value}(e:Vals B ι h v u):Vals B ι' h' v u:=Vals.mono' x.mo T e
theorem Vals.len {ι:List Addr}{h:Heap}:∀ {l:List V}{its:List Value},Vals B ι h l its->its.length=l.length
 | [],_,e=>by refine e.substr ?_;rfl
 | _::_,_,e=>by obtain ⟨v,r,rfl,_,k⟩:=e;simp [Vals.len k]
theorem Vals.get {ι:List Addr}{h:Heap}:∀ {l:List V}{its:List Value}{i:Nat}{x:V},Vals B ι h l its->l[i]?=some x->∃ v,its[i]?=some v/\Val B ι h x v
 | [],_,_,_,_,q=>by trivial
 | y::ys,_,0,x,e,q=>by
  obtain ⟨v,r,rfl,f,k⟩:=e
  simp at q;subst q;exact ⟨v,rfl,f⟩
 | y::ys,_,i+1,x,e,q=>by
  obtain ⟨v,r,rfl,f,k⟩:=e
  simp at q;obtain ⟨u,a,b⟩:=Vals.get k q;exact ⟨u,by exact a,b⟩
theorem Vals.app {ι:List Addr}{h:Heap}:∀ {l l':List V}{its its':List Value},Vals B ι h l its->Vals B ι h l' its'->Vals B ι h (l++l') (its++its')
 | [],_,_,_,e,f=>by subst e;exact f
 | y::ys,_,_,_,e,f=>by
  obtain ⟨v,r,rfl,g,k⟩:=e
  exact ⟨v,_,rfl,g,Vals.app k f⟩
theorem Vals.set {ι:List Addr}{h:Heap}{x:V}{v:Value}(hx:Val B ι h x v):∀ {l:List V}{its:List Value}(i:Nat),Vals B ι h l its->Vals B ι h (l.set i x) (its.set i v)
 | [],_,_,e=>by subst e;rfl
 | y::ys,_,0,e=>by
  obtain ⟨u,r,rfl,g,k⟩:=e
  exact ⟨_,_,rfl,hx,k⟩
 | y::ys,_,i+1,e=>by
  obtain ⟨u,r,rfl,g,k⟩:=e
  exact ⟨_,_,rfl,g,Vals.set hx i k⟩
theorem Vals.rev {ι:List Addr}{h:Heap}:∀ {l:List V}{its:List Value},Vals B ι h l its->Vals B ι h l.reverse its.reverse
 | [],_,e=>by subst e;rfl
 | y::ys,_,e=>by
  obtain ⟨u,r,rfl,g,k⟩:=e
  simp only [List.reverse_cons,List.reverse_cons]
  exact Vals.app (Vals.rev k) (by exact ⟨u,[],rfl,g,rfl⟩)
noncomputable def DictRel (B:Bs) (ι:List Addr) (h:Heap) (l:List (Nat×V)) (es:Array DictEntry):Prop:=
 ∀ (k:Nat) (x:Str),anames[k]?=some x->match Qbf k l with
  | some V=>∃ v,nsFind es x=some v/\Val B ι h V v
  | none=>nsFind es x=none
noncomputable def CellsRel (ι:List Addr) (sc:Scope) (cells:List (Str×Addr)) (ρ:Env):Prop:=
 ∀ (x:Str) (i:Nat),Qaf sc x=some i->(kindOf sc x=some .cell∨kindOf sc x=some .free)->Ex2 λ c ci=>And3 (cells.lookup x=some c) (ρ[i]?=some (some (.ref ci))) (ι[ci]?=some c)
noncomputable def QdD (sc:Scope) (ρ:Env):Prop:=∀ (x:Str) (i:Nat),Qaf sc x=some i->(kindOf sc x≠some .free)->ρ[i]?=some none
noncomputable def Qmp (B:Bs) (ι:List Addr) (h:Heap) (a:Addr) (ps:List Nat) (ρ:Env) (body:CE):Prop:=
 Ex11 λ (sc:Scope) (args:Arguments) (e:Expr) (cl:List (Str×Addr)) (pm ct:Value) (c':Addr) (nm q:Str) (n:Nat) (xs:List Str)=>
  And3 (h.get? a=some { cls:=.type "function", data:=.func (W.kla_fn nm q args e sc cl pm (.ref c') ct) })
  (Ex3 λ o vs t=>And5 (h.get? c'=some o) (o.data=.fields vs) (vs[1]?=some (.str q t)) (c' ∉ ι) (∀ q∈B.tabs,c'≠q.2))
  (And12 (QaN args=some xs) (args.defaults=[]) (xs.mapM (Qaf sc)=some ps) (sc.kind=.function) (sc.isCoroutine=false) (sc.isGenerator=false) (∀ y∈sc.names,y.2≠.cell)
  (∀ x∈xs,kindOf sc x=some .local)
  (ρ.length=sc.names.length) (CellsRel ι sc cl ρ) (QdD sc ρ) (xs.Nodup/\comp n false sc e=body))
noncomputable def ObjAt (B:Bs) (ι:List Addr) (h:Heap) (a:Addr):O->Prop
 | .list l=>Ex2 λ its n=>h.get? a=some { cls:=.type "list", data:=.seq its n }/\Vals B ι h l its.toList
 | .inst j=>∃ d,ι[j]?=some d/\h.get? a=some (W.instObj B.KW d)
 | .dict l=>Ex3 λ o es n=>And6 (h.get? a=some o) (o.data=.dict es n) (StrKeys es) (DictRel B ι h l es) (es.size=l.length) ((∀ x:Str,(∀ k:Nat,anames[k]?≠some x)->nsFind es x=none))
 | .cell v=>Ex2 λ o u=>And4 (h.get? a=some o) (o.data=.cell u) True ((match v with | some v=>∃ y,u=some y/\Val B ι h v y | none=>u=none))
 | .clo ps ρ body=>Qmp B ι h a ps ρ body
noncomputable def Frs (B:Bs) (ι:List Addr) (fr:List PySem.Env) (h:Heap):Prop:=
 ∀ env∈fr,env.scope.kind≠.module/\Ex4 λ L o es ep=>And7 (env.frame=some L) (B.g.get? L=none) (L ∉ ι) ((∀ q∈B.tabs,L≠q.2)) (StrKeys es) (h.get? L=some o) (o.data=.dict es ep)
structure Inv (B:Bs) (fr:List PySem.Env) (ι:List Addr) (σ:List O) (h:Heap):Prop where
 keep:B.g.StaysIn h
 fresh:∀ a∈ι,B.g.get? a=none
 nodup:ι.Nodup
 len:ι.length=σ.length
 objs:∀ (i:Nat) a o,ι[i]?=some a->σ[i]?=some o->ObjAt B ι h a o
 frames:Frs B ι fr h
 tabs:TabsOk B h
 notab:∀ q∈B.tabs,q.2 ∉ ι
theorem DictRel.mono' {F X ι ι':List Addr}{h h':Heap}(x:Mo B F X ι h ι' h') (T:QbT B h) {l:List (Nat×V)}{es:Array DictEntry}(d:DictRel B ι h l es):DictRel B ι' h' l es:=by
 intro k y e
 have:=d k y e
 split<;>rename_i q<;>rw [q] at this
 ·obtain ⟨v,a,b⟩:=this;exact ⟨v,a,b.mono' x T⟩
 ·exact this
theorem DictRel.mono {F X ι ι':List Addr}{h h':Heap}(x:Go B F X ι h ι' h') (T:QbT B h) {l:List (Nat×V)}{es:Array DictEntry}(d:DictRel B ι h l es):DictRel B ι' h' l es:=d.mono' x.mo T
theorem CellsRel.mono {ι ι':List Addr}(p:ι <+: ι') {sc:Scope}{cells:List (Str×Addr)}{ρ:Env}(x:CellsRel ι sc cells ρ):CellsRel ι' sc cells ρ:=
 λ y i e k=>let ⟨c,ci,a,b,d⟩:=x y i e k;⟨c,ci,a,b,QaR p d⟩
noncomputable def NoCode (X:List Addr) (h:Heap):Prop:=∀ b∈X,∀ o vs,h.get? b=some o->o.data=.fields vs->∀ q t,vs[1]?≠some (Value.str q t)
theorem NoCode.nil (h:Heap):NoCode [] h:=λ _ m=>by contradiction
theorem ObjAt.mono' {F X ι ι':List Addr}{h h':Heap}(x:Mo B F X ι h ι' h') (T:QbT B h) {a:Addr}(e:h'.get? a=h.get? a) (hX:NoCode X h):
  ∀ {o:O},ObjAt B ι h a o->ObjAt B ι' h' a o
 | .list l,q=>by
  obtain ⟨its,n,g,f⟩:=q
  exact ⟨its,n,e.trans g,f.mono' x T⟩
 | .inst j,q=>by
  obtain ⟨d,g,f⟩:=q
  exact ⟨d,QaR x.pre g,e.trans f⟩
 | .dict l,q=>by
  obtain ⟨o,es,n,g,d,k,f,s,s'⟩:=q
  exact ⟨o,es,n,e.trans g,d,k,f.mono' x T,s,s'⟩
 | .cell v,q=>by
  obtain ⟨o,u,g,k,c,f⟩:=q
  refine ⟨o,u,e.trans g,k,c,?_⟩
  cases v with
  | none=>exact f
  | some v=>obtain ⟨y,r,f⟩:=f;exact ⟨y,r,f.mono' x T⟩
 | .clo ps ρ body,q=>by
  refine byK λ Pz kz=>?_;obtain ⟨sc,args,ex,cl,pm,ct,c',nm,q,n,xs,g,⟨o,vs,t,h1,h2,h3,h4,h5⟩,r⟩:=q
  refine kz ?_;refine ⟨sc,args,ex,cl,pm,ct,c',nm,q,n,xs,e.trans g,⟨o,vs,t,(x.get _ _ h1 h4 h5 (.inr ⟨λ m=>hX c' m o vs h1 h2 _ _ h3,.inl λ ⟨es,ep,w⟩=>by replace w:=h2.symm.trans w;contradiction⟩)).1,h2,h3,(x.get _ _ h1 h4 h5 (.inr ⟨λ m=>hX c' m o vs h1 h2 _ _ h3,.inl λ ⟨es,ep,w⟩=>by replace w:=h2.symm.trans w;contradiction⟩)).2,h5⟩,?_⟩
  exact ⟨r.h1,r.h2,r.h3,r.h4,r.h5,r.h6,r.h7,r.h8,r.h9,r.h10.mono x.pre,r.h11,r.h12⟩
theorem ObjAt.mono {F X ι ι':List Addr}{h h':Heap}(x:Go B F X ι h ι' h') (T:QbT B h) {a:Addr}(e:h'.get? a=h.get? a) (hX:NoCode X h) {o:O}(q:ObjAt B ι h a o):ObjAt B ι' h' a o:=q.mono' x.mo T e hX
theorem Frs.fun {ι:List Addr}{h:Heap}:∀ {fr:List PySem.Env},Frs B ι fr h->h.FunFrames B.g fr
 | [],_=>trivial
 | env::r,f=>by
  obtain ⟨k,L,o,es,ep,e,n,_,_,_,g,d⟩:=f env (.head _)
  exact ⟨k,⟨L,o,e,n,g,λ vs q=>by replace q:=d.symm.trans q;contradiction⟩,Frs.fun λ y m=>f y (.tail _ m)⟩
theorem Frs.go {F X ι ι':List Addr}{h h':Heap}(x:Go B F X ι h ι' h') (hX:∀ b∈X,∀ o',h'.get? b=some o'->QlX o') {fr:List PySem.Env}(f:Frs B ι fr h):Frs B ι' fr h':=λ env m=>by
 refine byK λ Pz kz=>?_;obtain ⟨k,L,o,es,ep,e,n,ni,nt,sk,g,d⟩:=f env m
 obtain ⟨o',g',q⟩:=x.step L o g
 have ni':L ∉ ι':=λ m=>by have:=x.newf L m ni;rw [g] at this;contradiction
 refine kz ?_;by_cases w:L∈X
 ·refine byK λ Pz kz=>?_;obtain ⟨es',ep',sk',d'⟩:=hX L w o' g'
  exact kz (⟨k,L,o',es',ep',e,n,ni',nt,sk',g',d'⟩)
 ·exact ⟨k,L,o',es,ep,e,n,ni',nt,sk,g',((q ni nt).2 w).2.2.trans d⟩
theorem TabsOk.ext {h h':Heap}(k:∀ b o,h.get? b=some o->h'.get? b=some o) (T:TabsOk B h):TabsOk B h':=
 λ q m=>let ⟨a,ps,e,r,z⟩:=T q m;⟨a,ps,k _ _ e,r,z.ext λ b o _ e _ _=>k b o e⟩
variable {fr:List PySem.Env}{ι:List Addr}{σ:List O}{h h':Heap}
theorem Inv.get (I:Inv B fr ι σ h) {i:Nat}{o:O}(e:σ[i]?=some o):∃ a,ι[i]?=some a/\ObjAt B ι h a o:=by
 have hi:=(List.getElem?_eq_some_iff.mp e).1
 simp only [<- I.len] at hi
 exact ⟨ι[i],List.getElem?_eq_getElem hi,I.objs i _ o (List.getElem?_eq_getElem hi) e⟩
theorem ObjAt.some {o:O}{a:Addr}(x:ObjAt B ι h a o):∃ ob,h.get? a=some ob:=by
 cases o with
 | list _=>obtain ⟨_,_,e,_⟩:=x;exact ⟨_,e⟩
 | inst _=>obtain ⟨_,_,e⟩:=x;exact ⟨_,e⟩
 | dict _=>obtain ⟨_,_,_,e,_⟩:=x;exact ⟨_,e⟩
 | cell _=>obtain ⟨_,_,e,_⟩:=x;exact ⟨_,e⟩
 | clo _ _ _=>obtain ⟨_,_,_,_,_,_,_,_,_,_,_,e,_⟩:=x;exact ⟨_,e⟩
theorem QeV {o:O}{a:Addr}(x:ObjAt B ι h a o):∀ ob vs,h.get? a=some ob->ob.data≠.fields vs:=by
 intro ob vs q
 cases o with
 | list _=>obtain ⟨_,_,e,_⟩:=x;cases e.symm.trans q;exact λ z=>by contradiction
 | inst _=>obtain ⟨_,_,e⟩:=x;cases e.symm.trans q;exact λ z=>by contradiction
 | dict _=>obtain ⟨_,_,_,e,d,_⟩:=x;cases e.symm.trans q;refine d.substr ?_;exact λ z=>by contradiction
 | cell _=>obtain ⟨_,_,e,d,_⟩:=x;cases e.symm.trans q;refine d.substr ?_;exact λ z=>by contradiction
 | clo _ _ _=>obtain ⟨_,_,_,_,_,_,_,_,_,_,_,e,_⟩:=x;cases e.symm.trans q;exact λ z=>by contradiction
theorem Inv.noFields (I:Inv B fr ι σ h) {a:Addr}(m:a∈ι):∀ ob vs,h.get? a=some ob->ob.data≠.fields vs:=by
 obtain ⟨i,hi,rfl⟩:=List.mem_iff_getElem.mp m
 exact QeV (I.objs i _ _ (List.getElem?_eq_getElem hi) (List.getElem?_eq_getElem (I.len▸hi)))
theorem Inv.lt (I:Inv B fr ι σ h) {a:Addr}(m:a∈ι):∃ ob,h.get? a=some ob:=by
 obtain ⟨i,hi,rfl⟩:=List.mem_iff_getElem.mp m
 exact (I.objs i _ _ (List.getElem?_eq_getElem hi) (List.getElem?_eq_getElem (I.len▸hi))).some
theorem Inv.new_nin (I:Inv B fr ι σ h) {a:Addr}(e:h.get? a=none):a ∉ ι:=λ m=>by
 obtain ⟨_,q⟩:=I.lt m;rw [e] at q;contradiction
theorem Inv.ext (I:Inv B fr ι σ h) (k:∀ b o,h.get? b=some o->h'.get? b=some o):Inv B fr ι σ h' where
 keep:=λ b o e=>k b o (I.keep b o e)
 fresh:=I.fresh
 nodup:=I.nodup
 len:=I.len
 objs:=λ i a o e f=>by
  have q:=I.objs i a o e f
  obtain ⟨ob,g⟩:=q.some
  exact q.mono (F:=[]) (X:=[]) (Go.ext k) I.tabs.nt ((k _ _ g).trans g.symm) (NoCode.nil _)
 frames:=I.frames.go (F:=[]) (X:=[]) (Go.ext k) (by simp)
 tabs:=I.tabs.ext k
 notab:=I.notab
theorem Inv.notab_new (I:Inv B fr ι σ h) {a:Addr}(e:h.get? a=none):∀ q∈B.tabs,q.2≠a:=λ q m f=>by
 obtain ⟨_,ps,g,_⟩:=I.tabs q m;rw [f,e] at g;contradiction
theorem Inv.base_new (I:Inv B fr ι σ h) {a:Addr}(e:h.get? a=none):B.g.get? a=none:=by
 cases q:B.g.get? a with
 | none=>rfl
 | some o=>have:=I.keep a o q;rw [e] at this;contradiction
theorem Go.push {F:List Addr}(k:∀ b o,h.get? b=some o->h'.get? b=some o) {a:Addr}(e:h.get? a=none):Go B F [] ι h (ι++[a]) h':=by
 refine ⟨List.prefix_append _ _,λ b m n=>?_,λ b o q=>⟨o,k b o q,λ _ _=>.refl ..⟩⟩
 rcases List.mem_append.mp m with m | m
 ·exact absurd m n
 ·exact Eq.trans (congrArg _ (List.mem_singleton.mp m)) e
theorem Inv.new (I:Inv B fr ι σ h) (k:∀ b o,h.get? b=some o->h'.get? b=some o) {a:Addr}(e:h.get? a=none) {o:O}(ho:ObjAt B (ι++[a]) h' a o):Inv B fr (ι++[a]) (σ++[o]) h' where
 keep:=λ b o e=>k b o (I.keep b o e)
 fresh:=λ b m=>by
  rcases List.mem_append.mp m with m | m
  ·exact I.fresh b m
  ·exact Eq.trans (congrArg _ (List.mem_singleton.mp m)) (I.base_new e)
 nodup:=by
  rw [List.nodup_append]
  refine ⟨I.nodup,by simp,λ x m y n=>?_⟩
  simp only [List.mem_singleton.mp n]
  rintro rfl
  exact I.new_nin e m
 len:=by simp [I.len]
 objs:=λ i b o' e1 e2=>by
  rw [List.getElem?_append] at e1 e2
  replace e1:=I.len▸e1
  split at e1
  ·rename_i hi
   rw [if_pos hi] at e2
   have q:=I.objs i b o' e1 e2
   obtain ⟨ob,g⟩:=q.some
   exact q.mono (Go.push (F:=[]) k e) I.tabs.nt ((k _ _ g).trans g.symm) (NoCode.nil _)
  ·rename_i hi
   rw [if_neg hi] at e2
   have q:i - σ.length=0:=by
    have:=(List.getElem?_eq_some_iff.mp e1).1
    simpa using this
   rw [q] at e1 e2
   simp at e1 e2
   subst e1;subst e2;exact ho
 frames:=I.frames.go (F:=[]) (Go.push k e) (by simp)
 tabs:=I.tabs.ext k
 notab:=λ q m n=>by
  rcases List.mem_append.mp n with n | n
  ·exact I.notab q m n
  ·exact I.notab_new e q m (List.mem_singleton.mp n)
theorem Go.wrote {F:List Addr}{i:Nat}{a:Addr}(e:ι[i]?=some a) (s:Heap.SameBut a h h') (hs:∃ o',h'.get? a=some o'):Go B F [] ι h ι h':=by
 refine ⟨List.prefix_refl _,λ _ m n=>absurd m n,λ b o q=>?_⟩
 by_cases f:b=a
 ·subst f
  obtain ⟨o',hs⟩:=hs
  exact ⟨o',hs,λ n=>absurd (List.mem_of_getElem? e) n⟩
 ·exact ⟨o,(s.2 b f).trans q,λ _ _=>.refl ..⟩
theorem Inv.wrote (I:Inv B fr ι σ h) {i:Nat}{a:Addr}(e:ι[i]?=some a) (s:Heap.SameBut a h h') {o:O}(ho:ObjAt B ι h' a o):Inv B fr ι (σ.set i o) h' where
 keep:=λ b o q=>(s.2 b λ f=>by have:=I.fresh a (List.mem_of_getElem? e);rw [f,this] at q;contradiction).trans (I.keep b o q)
 fresh:=I.fresh
 nodup:=I.nodup
 len:=by simp [I.len]
 objs:=λ j b o' e1 e2=>by
  replace e2:=(List.getElem?_set).symm.trans e2
  split at e2
  ·rename_i q
   subst q
   rw [e] at e1;obtain rfl:=Option.some.inj e1
   split at e2<;>cases e2
   exact ho
  ·rename_i q
   have hb:b≠a:=λ f=>by
    subst f
    exact q ((List.getElem?_inj (List.getElem?_eq_some_iff.mp e).1 I.nodup).mp (e.trans e1.symm))
   exact (I.objs j b o' e1 e2).mono (Go.wrote (F:=[]) e s ho.some) I.tabs.nt (s.2 b hb) (NoCode.nil _)
 frames:=I.frames.go (F:=[]) (Go.wrote e s ho.some) (by simp)
 tabs:=λ q m=>by
  refine byK λ Pz kz=>?_;obtain ⟨x,ps,y,z,w⟩:=I.tabs q m
  exact kz (⟨x,ps,(s.2 _ λ f=>I.notab q m (by refine f.substr ?_;exact List.mem_of_getElem? e)).trans y,z,w.ext λ b ob vs g d _=>(s.2 b λ f=>by
   clear w z y x m ho s;subst f;exact I.noFields (List.mem_of_getElem? e) ob vs g d).trans g⟩)
 notab:=I.notab
theorem Inv.other {F X:List Addr}{a:Addr}(I:Inv B fr ι σ h) (s:Heap.SameBut a h h') (hn:a ∉ ι) (hg:B.g.get? a=none) (ht:∀ q∈B.tabs,a≠q.2)
  (hT:∀ o,h.get? a=some o->¬ QbR o) (hC:NoCode [a] h) (hs:∃ o',h'.get? a=some o') (hf:a∈frs fr->∃ o',h'.get? a=some o'/\QlX o'):Go B F (a::X) ι h ι h'/\Inv B fr ι σ h':=by
 have go:∀ F X,Go B F (a::X) ι h ι h':=λ F X=>⟨List.prefix_refl _,λ _ m n=>absurd m n,λ b o e=>by
  by_cases q:b=a
  ·subst q
   obtain ⟨o',e'⟩:=hs
   exact ⟨o',e',λ _ _=>⟨λ z=>by rcases z with z | z;exact absurd z (hT o e);exact absurd (.head _) z.1,λ z=>absurd (.head _) z⟩⟩
  ·exact ⟨o,(s.2 b q).trans e,λ _ _=>.refl ..⟩⟩
 refine ⟨go F X,?_⟩
 exact {
  keep:=λ b o e=>(s.2 b λ q=>by subst q;replace e:=hg.symm.trans e;contradiction).trans (I.keep b o e)
  fresh:=I.fresh
  nodup:=I.nodup
  len:=I.len
  objs:=λ i b o e1 e2=>by
   have n:b≠a:=λ z=>hn (by refine z.symm.substr ?_;exact List.mem_of_getElem? e1)
   exact (I.objs i b o e1 e2).mono (go [] []) I.tabs.nt (s.2 b n) hC
  frames:=λ env m=>by
   refine byK λ Pz kz=>?_;obtain ⟨k,L,o,es,ep,e,n,ni,nt,sk,g,d⟩:=I.frames env m
   refine kz ?_;by_cases q:L=a
   ·subst q
    refine byK λ Pz kz=>?_;obtain ⟨o',e',es',ep',sk',d'⟩:=hf (List.mem_filterMap.mpr ⟨env,m,e⟩)
    exact kz (⟨k,L,o',es',ep',e,n,ni,nt,sk',e',d'⟩)
   ·exact ⟨k,L,o,es,ep,e,n,ni,nt,sk,(s.2 L q).trans g,d⟩
  tabs:=λ q m=>by
   refine byK λ Pz kz=>?_;obtain ⟨x,ps,y,z,w⟩:=I.tabs q m
   refine kz ?_;refine ⟨x,ps,(s.2 _ λ f=>ht q m f.symm).trans y,z,λ pos cv e=>?_⟩
   obtain ⟨c',o,vs,t,a1,a2,a3,a4,a5⟩:=w pos cv e
   exact ⟨c',o,vs,t,a1,a2,(s.2 c' λ f=>by clear a2 a1 e w z y x m go hf hs hT ht hg hn s;subst f;exact hC c' (.head _) o vs a3 a4 _ _ a5).trans a3,a4,a5⟩
  notab:=I.notab }
theorem Inv.extBut {a:Addr}(I:Inv B fr ι σ h) (s:Heap.ExtBut a h h') (hn:a ∉ ι) (hg:B.g.get? a=none) (ht:∀ q∈B.tabs,a≠q.2)
  (hT:∀ o,h.get? a=some o->¬ QbR o) (hC:NoCode [a] h) (hf:a ∉ frs fr):Inv B fr ι σ h':=by
 have mo:Mo B [] [a] ι h ι h':=⟨List.prefix_refl _,λ b o e n t f=>by
  refine ⟨s b o (λ q=>?_) e,n⟩
  subst q
  rcases f with f | f
  ·exact hT o e f
  ·exact f.1 (.head _)⟩
 exact {
  keep:=λ b o e=>s b o (λ q=>by subst q;replace e:=hg.symm.trans e;contradiction) (I.keep b o e)
  fresh:=I.fresh
  nodup:=I.nodup
  len:=I.len
  objs:=λ i b o e1 e2=>by
   have n:b≠a:=λ z=>hn (by refine z▸?_;exact List.mem_of_getElem? e1)
   have q:=I.objs i b o e1 e2
   obtain ⟨ob,g⟩:=q.some
   exact q.mono' mo I.tabs.nt ((s b ob n g).trans g.symm) hC
  frames:=λ env m=>by
   refine byK λ Pz kz=>?_;obtain ⟨k,L,o,es,ep,e,n,ni,nt,sk,g,d⟩:=I.frames env m
   have q:L≠a:=λ z=>hf (by refine z▸?_;exact List.mem_filterMap.mpr ⟨env,m,e⟩)
   exact kz (⟨k,L,o,es,ep,e,n,ni,nt,sk,s L o q g,d⟩)
  tabs:=λ q m=>by
   obtain ⟨x,ps,y,z,w⟩:=I.tabs q m
   refine ⟨x,ps,s _ _ (λ f=>ht q m f.symm) y,z,λ pos cv e=>?_⟩
   obtain ⟨c',o,vs,t,a1,a2,a3,a4,a5⟩:=w pos cv e
   exact ⟨c',o,vs,t,a1,a2,s c' o (λ f=>by clear a2 a1 e w z y x m mo hf hT ht hg hn s;subst f;exact hC c' (.head _) o vs a3 a4 _ _ a5) a3,a4,a5⟩
  notab:=I.notab }
theorem Go.after {F X ι ι₁:List Addr}{h h₁ h₂:Heap}(x:Go B F X ι h ι₁ h₁) (k:∀ b o o₁,h.get? b=some o->h₁.get? b=some o₁->h₂.get? b=some o₁):Go B F X ι h ι₁ h₂:=
 ⟨x.pre,x.newf,λ b o e=>let ⟨o',e',f⟩:=x.step b o e;⟨o',k b o o' e e',f⟩⟩
end
section
open PySem PySem.Calls PyProof.Rows
noncomputable def Same (s s':Shared):Prop:=s'.gens=s.gens/\s'.drawn=s.drawn/\s'.os=s.os
theorem Same.refl (s:Shared):Same s s:=⟨rfl,rfl,rfl⟩
theorem Same.trans {a b c:Shared}(x:Same a b) (y:Same b c):Same a c:=⟨y.1.trans x.1,y.2.1.trans x.2.1,y.2.2.trans x.2.2⟩
inductive ExnAt (B:Bs) (h₀:Heap) (ι:List Addr) (h:Heap) (m sp:V) (e:Addr) (f:Value->Prop):Prop
 | mk (dx:Addr) (oe:Obj) (vs:Array Value) (es:Array DictEntry) (ep:Nat) (vm vsp:Value)
  (a1:h.get? e=some oe) (a2:h₀.get? e=none) (a3:e ∉ ι) (a4:oe.cls=.ref B.KE) (a5:oe.dict=some dx) (a6:oe.data=.fields vs) (a7:1<vs.size)
  (a8:vs[1]?=some .none∨Ex3 λ T oT ts=>And7 (vs[1]?=some (.ref T)) (h₀.get? T=none) (T ∉ ι) (T≠e) (h.get? T=some oT) (oT.data=.fields ts) (And3 (∃ fl,ts[3]?=some fl/\f fl) (∀ q∈B.tabs,T≠q.2) (∀ q t,ts[1]?≠some (Value.str q t))))
  (a9:∀ q∈B.tabs,e≠q.2) (a10:h.get? dx=some { cls:=.type "dict", data:=.dict es ep }) (a11:h₀.get? dx=none)
  (r:And6 (dx ∉ ι) (StrKeys es) (nsFind es "message" = some vm) (nsFind es "spot" = some vsp) (Val B ι h m vm) (Val B ι h sp vsp)):ExnAt B h₀ ι h m sp e f
noncomputable def flL (L:Addr) (v:Value):Prop:=v=.none∨v=rawInt L
noncomputable def Exn (B:Bs) (L:Addr) (h₀:Heap) (ι:List Addr) (h:Heap) (m sp:V) (ev:Value):Prop:=∃ e,ev=.ref e/\ExnAt B h₀ ι h m sp e (flL L)
section
variable (B:Bs) (fr:List PySem.Env) (A:Around) (L:Addr) (X:List Addr)
inductive TQ {α β:Type}(r:RS α) (rel:List Addr->Heap->α->β->Prop) (ι:List Addr) (s:Shared) (v:β) (s':Shared):Prop
 | mk (a:α) (σ':List O) (ι':List Addr) (hr:r=.ok a σ') (g:Go B (frs fr) X ι s.heap ι' s'.heap) (i:Inv B fr ι' σ' s'.heap) (x:rel ι' s'.heap a v) (sm:Same s s'):TQ r rel ι s v s'
inductive TE {α:Type}(r:RS α) (ι:List Addr) (s:Shared) (e:Value) (s':Shared):Prop
 | mk (m sp:V) (σ':List O) (ι':List Addr) (hr:r=.exc m sp σ') (g:Go B (frs fr) X ι s.heap ι' s'.heap) (i:Inv B fr ι' σ' s'.heap) (x:Exn B L s.heap ι' s'.heap m sp e) (sm:Same s s'):TE r ι s e s'
noncomputable def T {α β:Type}(t:Sem β) (m:M α) (rel:List Addr->Heap->α->β->Prop) (ι:List Addr) (σ:List O) (s:Shared):Prop:=
 m σ≠.bad->wpAny (model B.prog B.w) A t (TQ B fr X (m σ) rel ι s) (TE B fr L X (m σ) ι s) s
end
variable {B:Bs}{fr:List PySem.Env}{A:Around}{L:Addr}{X:List Addr}{ι:List Addr}{σ:List O}{s:Shared}
theorem ExnAt.older {h₀ h₁:Heap}{ι:List Addr}{h:Heap}{m sp:V}{e:Addr}{f:Value->Prop}(k:∀ a,h₁.get? a=none->h₀.get? a=none) (x:ExnAt B h₁ ι h m sp e f):ExnAt B h₀ ι h m sp e f:=by
 obtain ⟨dx,oe,vs,es,ep,vm,vsp,a1,a2,a3,a4,a5,a6,a7,a8,a9,a10,a11,r⟩:=x
 refine ⟨dx,oe,vs,es,ep,vm,vsp,a1,k _ a2,a3,a4,a5,a6,a7,?_,a9,a10,k _ a11,r⟩
 rcases a8 with a8 | ⟨T,oT,ts,b1,b2,b3,b4,b5,b6,b7⟩
 ·exact .inl a8
 ·exact .inr ⟨T,oT,ts,b1,k _ b2,b3,b4,b5,b6,b7⟩
theorem ExnAt.mon {h₀:Heap}{ι:List Addr}{h:Heap}{m sp:V}{e:Addr}{f f':Value->Prop}(k:∀ v,f v->f' v) (x:ExnAt B h₀ ι h m sp e f):ExnAt B h₀ ι h m sp e f':=by
 obtain ⟨dx,oe,vs,es,ep,vm,vsp,a1,a2,a3,a4,a5,a6,a7,a8,a9,a10,a11,r⟩:=x
 refine ⟨dx,oe,vs,es,ep,vm,vsp,a1,a2,a3,a4,a5,a6,a7,a8.imp id ?_,a9,a10,a11,r⟩
 exact λ ⟨T,oT,ts,b1,b2,b3,b4,b5,b6,⟨fl,b7,b8⟩,b9,b10⟩=>⟨T,oT,ts,b1,b2,b3,b4,b5,b6,⟨fl,b7,k _ b8⟩,b9,b10⟩
theorem Go.older {F ι ι':List Addr}{h h':Heap}(x:Go B F X ι h ι' h') (a:Addr) (e:h'.get? a=none):h.get? a=none:=by
 cases q:h.get? a with
 | none=>rfl
 | some o=>obtain ⟨o',e',_⟩:=x.step a o q;replace e':=e.symm.trans e';exact nos e'
theorem TQ.up {α β:Type}{r r':RS α}{rel:List Addr->Heap->α->β->Prop}{ι':List Addr}{s':Shared}(g:Go B (frs fr) X ι s.heap ι' s'.heap) (sm:Same s s') (e:r=r') {v:β}{t:Shared}(q:TQ B fr X r' rel ι' s' v t):TQ B fr X r rel ι s v t:=by
 obtain ⟨a',σ'',ι'',hr',g',i',r',sm'⟩:=q
 exact ⟨a',σ'',ι'',e.trans hr',g.trans g',i',r',sm.trans sm'⟩
theorem TE.up {α:Type}{r r':RS α}{ι':List Addr}{s':Shared}(g:Go B (frs fr) X ι s.heap ι' s'.heap) (sm:Same s s') (e:r=r') {v:Value}{t:Shared}(q:TE B fr L X r' ι' s' v t):TE B fr L X r ι s v t:=by
 obtain ⟨mm,sp,σ'',ι'',hr',g',i',⟨x,rfl,hx⟩,sm'⟩:=q
 exact ⟨mm,sp,σ'',ι'',e.trans hr',g.trans g',i',⟨x,rfl,hx.older g.older⟩,sm.trans sm'⟩
theorem TE.wide {α:Type}{r:RS α}{Y:List Addr}{v:Value}{t:Shared}(q:TE B fr L X r ι s v t) (k:∀ a∈X,a∈Y):TE B fr L Y r ι s v t:=by
 obtain ⟨mm,sp,σ'',ι'',hr',g,i,x,sm⟩:=q
 exact ⟨mm,sp,σ'',ι'',hr',g.wide k,i,x,sm⟩
theorem TE.bind {α β:Type}{m:M α}{f:α->M β}{v:Value}{t:Shared}(q:TE B fr L X (m σ) ι s v t):TE B fr L X (M.bind m f σ) ι s v t:=by
 obtain ⟨mm,sp,σ'',ι'',hr',g,i,x,sm⟩:=q
 exact ⟨mm,sp,σ'',ι'',by unfold M.bind;refine hr'.substr ?_;rfl,g,i,x,sm⟩
theorem Qan {α β:Type}{m:M α}{f:α->M β}{a:α}{σ':List O}(e:m σ=.ok a σ'):M.bind m f σ=f a σ':=by unfold M.bind;refine e.substr ?_;rfl
theorem T.bind {α β γ δ:Type}{t:Sem β}{k:β->Sem γ}{m:M α}{f:α->M δ}{rel rel'}
  (ht:T B fr A L X t m rel ι σ s)
  (hk:∀ a v ι' σ' s',m σ=.ok a σ'->Go B (frs fr) X ι s.heap ι' s'.heap->Inv B fr ι' σ' s'.heap->rel ι' s'.heap a v->Same s s'->T B fr A L X (k v) (f a) rel' ι' σ' s'):
  T B fr A L X (t >>= k) (M.bind m f) rel' ι σ s:=by
 intro hb
 have hm:m σ≠.bad:=λ q=>hb (by unfold M.bind;refine q.substr ?_;rfl)
 refine wpAny_bind (wpAny_mono (ht hm) (λ v s' hq=>?_) λ e s' he=>TE.bind he)
 obtain ⟨a,σ',ι',hr,g,i,r,sm⟩:=hq
 rw [Qan hr] at hb ⊢
 exact wpAny_mono (hk a v ι' σ' s' hr g i r sm hb) (λ _ _ z=>TQ.up g sm rfl z) λ _ _ z=>TE.up g sm rfl z
theorem T.pre {α β:Type}{t t':Sem β}{m:M α}{rel}(h:∀ (Q:β->Shared->Prop) (E:Value->Shared->Prop),wpAny (model B.prog B.w) A t Q E s->wpAny (model B.prog B.w) A t' Q E s) (x:T B fr A L X t m rel ι σ s):
  T B fr A L X t' m rel ι σ s:=λ hb=>h _ _ (x hb)
theorem T.eq {α β:Type}{t t':Sem β}{m:M α}{rel}(e:t'=t) (x:T B fr A L X t m rel ι σ s):T B fr A L X t' m rel ι σ s:=e▸x
theorem T.mon {α β:Type}{t:Sem β}{m:M α}{rel rel':List Addr->Heap->α->β->Prop}(x:T B fr A L X t m rel ι σ s) (k:∀ ι' h a v,rel ι' h a v->rel' ι' h a v):T B fr A L X t m rel' ι σ s:=
 λ hb=>wpAny_mono (x hb) (λ _ _ ⟨a,σ',ι',h1,h2,h3,h4,h5⟩=>⟨a,σ',ι',h1,h2,h3,k _ _ _ _ h4,h5⟩) λ _ _ e=>e
theorem T.at {α β:Type}{pos:Pos}{t:Sem β}{m:M α}{rel}(x:T B fr A L X t m rel ι σ s):T B fr A L X (do standAt pos;t) m rel ι σ s:=
 T.pre (λ _ _ h=>wpAny_bind (wpAny_standAt h)) x
theorem T.hold {α β:Type}{vs:List Value}{t:Sem β}{m:M α}{rel}(x:T B fr A L X t m rel ι σ s):T B fr A L X (holding vs t) m rel ι σ s:=
 T.pre (λ _ _ h=>wpAny_holding h) x
theorem T.operate {α:Type}{vs:List Value}{t:Sem Value}{m:M α}{rel}(x:T B fr A L X t m rel ι σ s):T B fr A L X (operate vs t) m rel ι σ s:=
 T.pre (λ _ _ h=>wpAny_operateT h) x
theorem T.ret {α β:Type}{v:β}{m:M α}{rel:List Addr->Heap->α->β->Prop}{a:α}(hm:m σ=.ok a σ) (I:Inv B fr ι σ s.heap) (r:rel ι s.heap a v):T B fr A L X (pure v) m rel ι σ s:=λ _=>
 wpAny_pure ⟨a,σ,ι,hm,.refl ..,I,r,.refl _⟩
theorem T.leaf {α β:Type}{t:Sem β}{m:M α}{rel:List Addr->Heap->α->β->Prop}(I:Inv B fr ι σ s.heap)
  (h:m σ≠.bad->∃ a,m σ=.ok a σ/\∀ (Q:β->Shared->Prop) (E:Value->Shared->Prop),(∀ v s',rel ι s.heap a v->s'.heap=s.heap->Same s s'->Q v s')->wpAny (model B.prog B.w) A t Q E s):T B fr A L X t m rel ι σ s:=λ hb=>by
 obtain ⟨a,hm,h⟩:=h hb
 refine h _ _ λ v s' r e sm=>⟨a,σ,ι,hm,e▸.refl ..,e▸I,e▸r,sm⟩
theorem T.leafX {α β:Type}{t:Sem β}{m:M α}{rel:List Addr->Heap->α->β->Prop}(I:Inv B fr ι σ s.heap)
  (h:m σ≠.bad->∃ a,m σ=.ok a σ/\∀ (Q:β->Shared->Prop) (E:Value->Shared->Prop),(∀ v s',(∀ b o,s.heap.get? b=some o->s'.heap.get? b=some o)->rel ι s'.heap a v->Same s s'->Q v s')->wpAny (model B.prog B.w) A t Q E s):T B fr A L X t m rel ι σ s:=λ hb=>by
 obtain ⟨a,hm,h⟩:=h hb
 refine h _ _ λ v s' k r sm=>⟨a,σ,ι,hm,.ext k,I.ext k,r,sm⟩
theorem T.leafN {β:Type}{t:Sem β}{m:M V}{rel:List Addr->Heap->V->β->Prop}(I:Inv B fr ι σ s.heap)
  (h:m σ≠.bad->∃ o,m σ=.ok (.ref σ.length) (σ++[o])/\∀ (Q:β->Shared->Prop) (E:Value->Shared->Prop),
   (∀ v s' a,(∀ b o,s.heap.get? b=some o->s'.heap.get? b=some o)->s.heap.get? a=none->ObjAt B (ι++[a]) s'.heap a o->rel (ι++[a]) s'.heap (.ref σ.length) v->Same s s'->Q v s')->wpAny (model B.prog B.w) A t Q E s):
  T B fr A L X t m rel ι σ s:=λ hb=>by
 obtain ⟨o,hm,h⟩:=h hb
 refine h _ _ λ v s' a k e ho r sm=>⟨_,_,_,hm,(Go.push k e).wide (by simp),I.new k e ho,r,sm⟩
theorem QfB (I:Inv B fr ι σ s.heap) (a:Addr):(ι++[a])[σ.length]?=some a:=by refine I.len.symm.substr ?_;simp
theorem Qam {α β:Type}{m:M α}{f:α->M β}(h:M.bind m f σ≠.bad):m σ≠.bad:=λ q=>h (by unfold M.bind;refine q.substr ?_;rfl)
structure FrameRel (B:Bs) (ι:List Addr) (h:Heap) (env:PySem.Env) (ρ:Env):Prop where
 kind:env.scope.kind=.function
 glob:env.globals=mainGlobals
 blt:env.builtins=builtinsNs
 len:ρ.length=env.scope.names.length
 Lni:env.locals ∉ ι
 Lg:B.g.get? env.locals=none
 Lt:∀ q∈B.tabs,env.locals≠q.2
 ns:∃ m,h.Ns env.locals m/\∀ x i,Qaf env.scope x=some i->kindOf env.scope x=some .local->match ρ[i]? with
  | some (some V)=>∃ v,m x=some v/\Val B ι h V v
  | _=>m x=none
 cells:CellsRel ι env.scope env.cells ρ
set_option tactic.hygienic true in
theorem FrameRel.mono {F ι ι':List Addr}{h h':Heap}{env:PySem.Env}{ρ:Env}(x:Go B F X ι h ι' h') (T:QbT B h) (n:env.locals ∉ X) (f:FrameRel B ι h env ρ):FrameRel B ι' h' env ρ:=by
 refine byK λ Pz kz=>?_;obtain ⟨m,⟨o,es,ep,e,d,k,ff⟩,r⟩:=f.ns
 obtain ⟨o',e',q⟩:=x.step _ o e
 refine kz ?_;refine ⟨f.kind,f.glob,f.blt,f.len,(λ m=>by have:=x.newf _ m f.Lni;replace this:=e.symm.trans this;contradiction),f.Lg,f.Lt,⟨m,⟨o',es,ep,e',((q f.Lni f.Lt).2 n).2.2.trans d,k,ff⟩,λ y i a b=>?_⟩,f.cells.mono x.pre⟩
 have:=r y i a b
 split<;>rename_i q<;>simp only [q] at this
 ·obtain ⟨v,e1,e2⟩:=this;exact ⟨v,e1,e2.mono x T⟩
 ·exact this
noncomputable def QpD (B:Bs) (x:Str) (v:Value):Prop:=B.mg x=some v∨(B.mg x=none/\∃ mb,B.g.Ns builtinsNs mb/\mb x=some v)
structure BsNames (B:Bs):Prop where
 main:B.g.Ns mainGlobals B.mg
 glob:∀ (g:Nat) (x:Str),gnames[g]?=some x->∀ V,B.cx.gv g=some V->∃ v,B.mg x=some v/\Val B [] B.g V v
theorem Val.base (I:Inv B fr ι σ s.heap) {v:V}{u:Value}(x:Val B [] B.g v u) (T:QbT B B.g):Val B ι s.heap v u:=by
 refine Val.mono (F:=[]) (X:=[]) ⟨List.nil_prefix,λ a m _=>I.fresh a m,λ b o e=>⟨o,I.keep b o e,λ _ _=>.refl ..⟩⟩ T x
noncomputable abbrev VR (B:Bs):List Addr->Heap->V->Value->Prop:=λ ι h a v=>Val B ι h a v
end
section
open PySem PySem.Calls PyProof.Rows
variable {B:Bs}{fr:List PySem.Env}{A:Around}{L:Addr}{X:List Addr}{ι:List Addr}{σ:List O}{s:Shared}
structure Room (A:Around):Prop where
 hand:A.handled=none
 units:A.units+100<cLine
theorem Qa3 (I:Inv B fr ι σ s.heap) {i:Nat}{l:List V}{u:Value}(e:σ[i]?=some (.list l)) (v:Val B ι s.heap (.ref i) u) {Z:Prop}(k0:∀ a its n,(u=.ref a)->(ι[i]?=some a)->(s.heap.get? a=some { cls:=.type "list", data:=.seq its n })->Vals B ι s.heap l its.toList->Z):Z:=by
 obtain ⟨a,e1,rfl⟩:=v
 obtain ⟨a',e2,its,n,g,f⟩:=I.get e
 rw [e1] at e2;obtain rfl:=Option.some.inj e2
 exact k0 a its n rfl e1 g f
theorem QkW {i:Nat}{l:List V}{σ':List O}(h:getL i σ=.ok l σ'):σ[i]?=some (.list l)/\σ'=σ:=by
 unfold getL M.bind getO at h
 cases e:σ[i]? with
 | none=>rw [e] at h;contradiction
 | some o=>
  replace h:=e▸h
  clear e;cases o<;>simp only [M.ret,M.stuck] at h<;>cases h
  exact ⟨rfl,rfl⟩
theorem Qbo {i:Nat}{l:List V}(e:σ[i]?=some (.list l)):getL i σ=.ok l σ:=by
 unfold getL M.bind getO;refine e.substr ?_;rfl
theorem QaH {i:Nat}(h:getL i σ≠.bad) {Z:Prop}(k0:∀ l,σ[i]?=some (.list l)->Z):Z:=by
 unfold getL M.bind getO at h
 cases e:σ[i]? with
 | none=>replace h:=e▸h;exact absurd rfl h
 | some o=>
  replace h:=e▸h
  cases o<;>first | exact absurd rfl h | exact k0 _ e
theorem QjV (a:List Nat):(⟨a.toArray⟩:Str).length=a.length:=by rfl
theorem Qa8 {n:Nat}(h:n<=cap):n<=sizeLine:=Nat.le_trans h (by decide)
theorem QiJ {a b:Int}(h:QaV b=true):IntMulOk a b:=by
 rw [small_iff] at h
 exact IntMulOk.of_right (intBits_le_64 (by lia) (by lia))
theorem QiN {a b:Int}(h:QaV b=true):Builtin.divisionGoesByPylong a b=false:=by
 rw [small_iff] at h
 unfold Builtin.divisionGoesByPylong
 have:b.natAbs<2 ^ 62:=by omega
 have h2:b.natAbs.log2<62:=by
  rcases Nat.eq_zero_or_pos b.natAbs with h0 | hp
  ·refine h0.substr ?_;decide
  ·exact (Nat.log2_lt (Nat.ne_of_gt hp)).mpr this
 simp only [Bool.and_eq_false_iff,decide_eq_false_iff_not]
 left
 split<;>lia
theorem QdV {ι h}{x:List Nat}{t:Tok}:Val B ι h (.str x) (.str ⟨x.toArray⟩ t):=by exact ⟨t,rfl⟩
theorem Qe6 {ι h}{x:Int}{t:Tok}:Val B ι h (.int x) (.int x t):=by exact ⟨t,rfl⟩
theorem QgY {ι h}{x:Bool}:Val B ι h (.bool x) (.bool x):=by rfl
theorem Qb2 {ι h}{i:Nat}{a:Addr}(e:ι[i]?=some a):Val B ι h (.ref i) (.ref a):=by exact ⟨a,e,rfl⟩
theorem Qmx (a b:List Nat):(⟨a.toArray⟩:Str)++⟨b.toArray⟩=⟨(a++b).toArray⟩:=by
 show Str.append _ _=_
 simp only [Str.append];simp
theorem QoL {t:Sem Value}{x:List Nat}(I:Inv B fr ι σ s.heap)
  (h:x.length<=cap->∀ (Q:Value->Shared->Prop) (E:Value->Shared->Prop),(∀ t k,Q (.str ⟨x.toArray⟩ t) { s with toks:=k })->wpAny (model B.prog B.w) A t Q E s):T B fr A L X t (mkS x) (VR B) ι σ s:=by
 unfold mkS
 by_cases q:x.length<=cap
 ·refine (if_pos q).substr ?_
  exact T.leaf I λ _=>⟨_,rfl,λ Q E k=>h q Q E λ t u=>k _ _ QdV rfl ⟨rfl,rfl,rfl⟩⟩
 ·refine (if_neg q).substr ?_;exact λ n=>absurd rfl n
theorem QbL {t:Sem Value}{x:Int}(I:Inv B fr ι σ s.heap)
  (h:∀ (Q:Value->Shared->Prop) (E:Value->Shared->Prop),(∀ t k,Q (.int x t) { s with toks:=k })->wpAny (model B.prog B.w) A t Q E s):T B fr A L X t (M.ret (.int x)) (VR B) ι σ s:=
 T.leaf I λ _=>⟨_,rfl,λ Q E k=>h Q E λ t u=>k _ _ Qe6 rfl ⟨rfl,rfl,rfl⟩⟩
theorem Qa0 {t:Sem Value}{x:Bool}(I:Inv B fr ι σ s.heap)
  (h:∀ (Q:Value->Shared->Prop) (E:Value->Shared->Prop),Q (.bool x) s->wpAny (model B.prog B.w) A t Q E s):T B fr A L X t (M.ret (.bool x)) (VR B) ι σ s:=
 T.leaf I λ _=>⟨_,rfl,λ Q E k=>h Q E (k _ _ QgY rfl ⟨rfl,rfl,rfl⟩)⟩
theorem Qi4 {α β:Type}{m:M α}{f:α->M β}{a:α}(e:m σ=.ok a σ):M.bind m f σ=f a σ:=by unfold M.bind;refine e.substr ?_;rfl
theorem T.skip {α β γ:Type}{t:Sem β}{m:M γ}{f:γ->M α}{rel}{a:γ}(e:m σ=.ok a σ) (x:T B fr A L X t (f a) rel ι σ s):T B fr A L X t (M.bind m f) rel ι σ s:=by
 unfold T at x ⊢
 refine (Qi4 e).substr ?_;exact x
theorem T.bad {α β:Type}{t:Sem β}{m:M α}{rel}(e:m σ=.bad):T B fr A L X t m rel ι σ s:=λ h=>absurd e h
theorem T.stuck {α β:Type}{t:Sem β}{rel:List Addr->Heap->α->β->Prop}:T B fr A L X t M.stuck rel ι σ s:=T.bad rfl
theorem Qd0 {t:Sem Value}{l:List V}(I:Inv B fr ι σ s.heap)
  (h:l.length<=cap->∀ (Q:Value->Shared->Prop) (E:Value->Shared->Prop),(∀ a s' its n,(∀ b o,s.heap.get? b=some o->s'.heap.get? b=some o)->s.heap.get? a=none →
   s'.heap.get? a=some { cls:=.type "list", data:=.seq its n }->Vals B ι s.heap l its.toList->Same s s'->Q (.ref a) s')->wpAny (model B.prog B.w) A t Q E s):T B fr A L X t (QaQ l) (VR B) ι σ s:=by
 unfold QaQ
 by_cases q:l.length<=cap
 ·refine (if_pos q).substr ?_
  refine T.leafN I λ _=>⟨.list l,rfl,λ Q E k=>h q Q E λ a s' its n ke e ho hv sm=>?_⟩
  exact k _ _ a ke e ⟨its,n,ho,hv.mono (F:=[]) (X:=[]) (Go.push ke e) I.tabs.nt⟩ (Qb2 (QfB I a)) sm
 ·refine (if_neg q).substr ?_;exact T.stuck
section ops
open PyProof.Rows
theorem QkP (c:Nat) (n:Nat):List.foldl (λ x y=>x++y) (#[]:Array Nat) (List.replicate n #[c])=(List.replicate n c).toArray:=by
 have h:∀ (n:Nat) (a:Array Nat),List.foldl (λ x y=>x++y) a (List.replicate n #[c])=a++(List.replicate n c).toArray:=by
  intro n
  induction n with
  | zero=>intro a;rfl
  | succ n ih=>intro a;simp only [List.replicate_succ,List.foldl_cons,ih,List.replicate_succ];apply Array.toList_inj.mp;simp
 rw [h];simp
theorem Qmt (c:Nat) (b:Int) (h:0<=b):Txt.mul ⟨#[c]⟩ b=⟨(List.replicate b.toNat c).toArray⟩:=by
 unfold Txt.mul
 split
 ·have:b=0:=by lia
  subst this;rfl
 ·split
  ·rename_i q
   have:b=1:=by simpa [Str.length] using q
   clear q h;subst this;rfl
  ·simp only [QkP]
theorem Qao (h:Heap):h.get? h.objs.size=none:=by
 cases q:h.get? h.objs.size with
 | none=>rfl
 | some o=>exact absurd (Heap.lt_size q) (Nat.lt_irrefl _)
theorem Qfj {f:Int->Int->M V}{t:Value->Value->Sem Value}{x y:V}{a b:Value}(hx:Val B ι s.heap x a) (hy:Val B ι s.heap y b)
  (h:∀ i j u w,T B fr A L X (t (.int i u) (.int j w)) (f i j) (VR B) ι σ s):T B fr A L X (t a b) (Qlz f x y) (VR B) ι σ s:=by
 cases x with
 | int i=>cases y with
  | int j=>obtain ⟨u,rfl⟩:=hx;obtain ⟨w,rfl⟩:=hy;exact h i j u w
  | _=>exact T.stuck
 | _=>exact T.stuck
theorem Qcj {α β:Type}{t:Sem β}{m:M α}{rel}{p:Prop} [Decidable p] (h:p->T B fr A L X t m rel ι σ s):T B fr A L X t (if p then m else M.stuck) rel ι σ s:=by
 split
 ·rename_i q;exact h q
 ·exact T.stuck
theorem Qbx {α β:Type}{i:Nat}{u:Value}{t:Value->Sem β}{f:List V->M α}{rel}(I:Inv B fr ι σ s.heap) (hx:Val B ι s.heap (.ref i) u)
  (h:∀ l a its n,s.heap.get? a=some { cls:=.type "list", data:=.seq its n }->Vals B ι s.heap l its.toList->its.size=l.length->T B fr A L X (t (.ref a)) (f l) rel ι σ s):T B fr A L X (t u) (M.bind (getL i) f) rel ι σ s:=by
 intro hb
 refine QaH (Qam hb) λ l el=>?_
 refine Qa3 I el hx λ a its n e _ g v=>?_
 exact e.substr (T.skip (Qbo el) (h l a its n g v v.len) hb)
theorem Qnn {i j:Nat}{a b:Value}(I:Inv B fr ι σ s.heap) (hx:Val B ι s.heap (.ref i) a) (hy:Val B ι s.heap (.ref j) b):
  T B fr A L X (binaryOp .Add a b) (Qn0 (.ref i) (.ref j)) (VR B) ι σ s:=by
 exact Qbx (t:=λ a=>binaryOp .Add a b) I hx λ l a its n g1 f1 h1=>Qbx (t:=λ b=>binaryOp .Add (.ref a) b) I hy λ l' b its' n' g2 f2 h2=>
  Qd0 I λ q Q E k=>P.add_list g1 g2 (k s.heap.objs.size _ (its++its') 0 (λ b o e=>Heap.get?_push_of_some _ e) (Qao _) (Heap.get?_push_size _ rfl) (Array.toList_append.symm▸f1.app f2) ⟨rfl,rfl,rfl⟩) (by
   rw [List.length_append,<- h1,<- h2] at q;exact Qa8 q)
theorem Qnl {x y:V}{a b:Value}(I:Inv B fr ι σ s.heap) (hx:Val B ι s.heap x a) (hy:Val B ι s.heap y b):
  T B fr A L X (binaryOp .Add a b) (Qn0 x y) (VR B) ι σ s:=by
 cases x with
 | int i=>cases y with
  | int j=>obtain ⟨t,rfl⟩:=hx;obtain ⟨u,rfl⟩:=hy;exact QbL I λ Q E k=>add_int (k _ _)
  | _=>exact T.stuck
 | str i=>cases y with
  | str j=>
   obtain ⟨t,rfl⟩:=hx;obtain ⟨u,rfl⟩:=hy
   refine QoL I λ q Q E k=>SB.add (λ t' u'=>?_) (by rw [List.length_append] at q;exact Qa8 q)
   rw [Qmx];exact k _ _
  | _=>exact T.stuck
 | ref i=>cases y with
  | ref j=>exact Qnn I hx hy
  | _=>exact T.stuck
 | _=>exact T.stuck
theorem Qnf {i:Nat}{n:Int}{a b:Value}(I:Inv B fr ι σ s.heap) (hx:Val B ι s.heap (.ref i) a) (hy:Val B ι s.heap (.int n) b):
  T B fr A L X (binaryOp .Mult a b) (QnZ (.ref i) (.int n)) (VR B) ι σ s:=by
 obtain ⟨u,rfl⟩:=hy
 refine Qbx (t:=λ a=>binaryOp .Mult a (.int n u)) I hx λ l a its k0 g1 f1 hl=>?_
 have core:∀ (Q:Value->Shared->Prop) (E:Value->Shared->Prop) (r:Array Value),(n=0∨n=1)->its.size<=cap->(List.replicate (if its.isEmpty=true then 0 else n.toNat) its).foldl (λ x1 x2=>x1++x2) #[]=r →
   Q (.ref s.heap.objs.size) { s with heap:=s.heap.push { cls:=.type "list", data:=.seq r } }->wpAny (model B.prog B.w) A (binaryOp .Mult (.ref a) (.int n u)) Q E s:=λ Q E r hn hs er h=>by
  have hc:its.size<=16777216:=Qa8 hs
  rw [<- er] at h
  exact wpAny_binaryOp_repeat_ref (T := "list") (U := "int") (by decide) ⟨_,g1,rfl⟩ (λ s'=>typeIs_int s' n u) noFill_list_mul F.fills_int_mul F.slot_int_rmul repeat_list F.slot_int_index.lookup
   (call_meets F.slot_int_rmul (typeIs_int s n u) F.entry_int_rmul (F.args_int_rmul_2 _ _) (int___rmul___int_list n u a its k0)
    ⟨g1,rfl,⟨_,g1,rfl⟩,call_meets F.slot_list_mul ⟨_,g1,rfl⟩ F.entry_list_mul (F.args_list_mul_2 _ _)
     (AutoListH.list___mul___list_int_3 a its k0 n u (by simp [Builtin.List.listFitsIndex];lia) (by lia) (by simp only [Builtin.List.listTooLong,sizeLine_eq,decide_eq_true_eq];lia))
     ⟨g1,h⟩⟩)
 refine Qcj λ hs=>?_
 split
 ·rename_i q
  refine Qd0 I λ _ Q E k=>core Q E #[] (.inl q) (hl▸hs) (by refine q.substr ?_;split<;>rfl) (k s.heap.objs.size _ #[] 0 (λ b o e=>Heap.get?_push_of_some _ e) (Qao _) (Heap.get?_push_size _ rfl) rfl ⟨rfl,rfl,rfl⟩)
 ·refine Qcj λ q=>?_
  refine Qd0 I λ _ Q E k=>core Q E its (.inr q) (hl▸hs) ?_ (k s.heap.objs.size _ its 0 (λ b o e=>Heap.get?_push_of_some _ e) (Qao _) (Heap.get?_push_size _ rfl) f1 ⟨rfl,rfl,rfl⟩)
  refine q.substr ?_
  split
  ·rename_i z;exact (Array.isEmpty_iff.mp z).symm
  ·exact Array.empty_append
theorem Qne {c:Nat}{n:Int}{a b:Value}(I:Inv B fr ι σ s.heap) (hx:Val B ι s.heap (.str [c]) a) (hy:Val B ι s.heap (.int n) b) (q:0<=n/\n<=100):
  T B fr A L X (binaryOp .Mult a b) (M.ret (.str (List.replicate n.toNat c))) (VR B) ι σ s:=by
 obtain ⟨t,rfl⟩:=hx;obtain ⟨u,rfl⟩:=hy
 refine T.leaf I λ _=>⟨_,rfl,λ Q E k=>SB.mul ⟨?_,?_,?_⟩ λ t' u'=>?_⟩
 ·lia
 ·intro h1 h2
  have:(1:Int)<=(2 ^ 63 - 1) / n:=Int.le_ediv_of_mul_le (by omega) (by lia)
  simp only [Str.length,List.size_toArray,List.length_cons,List.length_nil];simp_all
 ·intro h1 h2
  have:n.toNat<=100:=by simp_all
  simp only [Str.length,List.size_toArray,List.length_cons,List.length_nil,Builtin.Str.tooLong,sizeLine_eq,decide_eq_false_iff_not];lia
 ·show Q (.str (Txt.mul ⟨#[c]⟩ n) t') _
  refine (Qmt c n q.1).substr ?_;exact k _ _ QdV rfl ⟨rfl,rfl,rfl⟩
theorem Qnk {x y:V}{a b:Value}(I:Inv B fr ι σ s.heap) (hx:Val B ι s.heap x a) (hy:Val B ι s.heap y b):
  T B fr A L X (binaryOp .Mult a b) (QnZ x y) (VR B) ι σ s:=by
 cases y with
 | int n=>cases x with
  | int i=>obtain ⟨t,rfl⟩:=hx;obtain ⟨u,rfl⟩:=hy;exact Qcj λ q=>QbL I λ Q E k=>mul_int (k _ _) (QiJ q)
  | str l=>cases l with
   | nil=>exact T.stuck
   | cons c r=>cases r with
    | nil=>exact Qcj λ q=>Qne I hx hy q
    | cons=>exact T.stuck
  | ref i=>exact Qnf I hx hy
  | _=>exact T.stuck
 | _=>exact T.stuck
theorem Qnj {op:Operator}{op':Op2}(ho:op2 op=some op') {x y:V}{a b:Value}(R:Room A) (I:Inv B fr ι σ s.heap) (hx:Val B ι s.heap x a) (hy:Val B ι s.heap y b):
  T B fr A L X (binaryOp op a b) (QbP op' x y) (VR B) ι σ s:=by
 cases op with
 | Add=>exact Option.some.inj ho▸Qnl I hx hy
 | Sub=>exact Option.some.inj ho▸Qfj (t:=binaryOp .Sub) hx hy λ i j u w=>QbL I λ Q E k=>sub_int (k _ _)
 | Mult=>exact Option.some.inj ho▸Qnk I hx hy
 | Mod=>exact Option.some.inj ho▸Qfj (t:=binaryOp .Mod) hx hy λ i j u w=>Qcj λ q=>QbL I λ Q E k=>mod_int' (Int.ne_of_gt q) (k _ _)
 | Pow=>exact Option.some.inj ho▸Qfj (t:=binaryOp .Pow) hx hy λ i j u w=>Qcj λ q=>q.1▸q.2▸QbL I λ Q E k=>AutoIntOps.pow_4 (by decide) (by decide) (by decide) (by decide) (by decide +kernel) (k _ _)
 | FloorDiv=>
  exact Option.some.inj ho▸Qfj (t:=binaryOp .FloorDiv) hx hy λ i j u w=>Qcj λ q=>
   QbL I λ Q E k=>floordiv_int_or R.hand (λ q'=>absurd q' (Int.ne_of_gt (of_decide_eq_true (Bool.and_eq_true_iff.mp q).1))) (λ _=>k _ _) (λ _=>.inl (QiN (Bool.and_eq_true_iff.mp q).2))
 | _=>exact nos ho
end ops
end
section
open PySem PySem.Calls PyProof.Rows
open PySem.SeqAt
variable {B:Bs}{fr:List PySem.Env}{A:Around}{L:Addr}{X:List Addr}{ι:List Addr}{σ:List O}{s:Shared}
theorem QgI (a b:List Nat):((⟨a.toArray⟩:Str)==⟨b.toArray⟩)=(a==b):=by
 rw [<- str_beq]
theorem QdJ {r:List V->List V->Option Bool}{P:V->V->Bool->Prop}(h0:P .none .none true) (h1:∀ a b,P (.bool a) (.bool b) (a==b)) (h2:∀ a b,P (.int a) (.int b) (a==b)) (h3:∀ a b,P (.str a) (.str b) (a==b))
  (h4:∀ l l' c,r l l'=some c->P (.tup l) (.tup l') c) {a b:V}{c:Bool}(e:eqS r a b=some c):P a b c:=by
 cases a with
 | none=>cases b with
  | none=>exact (Option.some.inj e).symm.substr h0
  | _=>exact nos e
 | bool a=>cases b with
  | bool b=>exact (Option.some.inj e).symm.substr (h1 a b)
  | _=>exact nos e
 | int a=>cases b with
  | int b=>exact (Option.some.inj e).symm.substr (h2 a b)
  | _=>exact nos e
 | str a=>cases b with
  | str b=>exact (Option.some.inj e).symm.substr (h3 a b)
  | _=>exact nos e
 | tup l=>cases b with
  | tup l'=>exact h4 l l' c e
  | _=>exact nos e
 | _=>exact nos e
theorem Qed {f:V->V->Option Bool}{a b:V}{r s:List V}{c:Bool}(e:QfT f (a::r) (b::s)=some c):Ex2 λ x y=>And3 (f a b=some x) (QfT f r s=some y) ((x&&y)=c):=by
 have e:(match f a b,QfT f r s with | some x,some y=>some (x&&y) | _,_=>none)=some c:=e
 cases h1:f a b with
 | none=>replace e:=h1▸e;exact nos e
 | some x=>
  cases h2:QfT f r s with
  | none=>rw [h1,h2] at e;exact nos e
  | some y=>rw [h1,h2] at e;exact ⟨x,y,rfl,rfl,Option.some.inj e⟩
theorem QhH {h:Heap}{f:V->V->Option Bool}(hf:∀ a b x c,f a b=some c->Val B ι h a x->Val B ι h b x->c=true) (l:List V):∀ (l':List V) (its:List Value) (c:Bool),QfT f l l'=some c->Vals B ι h l its->Vals B ι h l' its->c=true:=by
 induction l with
 | nil=>
  intro l' its c e _ _
  cases l' with
  | nil=>obtain rfl:=Option.some.inj e;rfl
  | cons=>exact nos e
 | cons y ys ih=>
  intro l' its c e k1 k2
  cases l' with
  | nil=>exact nos e
  | cons z zs=>
   obtain ⟨v,r,rfl,f1,f2⟩:=k1
   obtain ⟨v',r',q,f1',f2'⟩:=k2
   obtain ⟨x,w,e1,e2,rfl⟩:=Qed e
   cases q
   refine (hf _ _ _ _ e1 f1 f1').substr ?_;refine (ih _ _ _ e2 f2 f2').substr ?_
   rfl
theorem Qko {its its':List Value}{k k':Nat}(e:Data.seq its.toArray k=.seq its'.toArray k'):its=its':=by
 injection e with e _
 exact Array.mk.inj e
theorem Vals.same {h:Heap}:∀ (n:Nat) (a b:V) (x:Value) (c:Bool),eqV n a b=some c->Val B ι h a x->Val B ι h b x->c=true:=by
 intro n
 have key:∀ (r:List V->List V->Option Bool),(∀ l l' its c,r l l'=some c->Vals B ι h l its->Vals B ι h l' its->c=true)->∀ (a b:V) (x:Value) (c:Bool),eqS r a b=some c->Val B ι h a x->Val B ι h b x->c=true:=by
  intro r hr a b x c e
  refine QdJ (P:=λ a b c=>Val B ι h a x->Val B ι h b x->c=true) (λ _ _=>rfl) (λ a b ha hb=>?_) (λ a b ha hb=>?_) (λ a b ha hb=>?_) (λ l l' c e ha hb=>?_) e
  ·cases ha.symm.trans hb;exact beq_self_eq_true _
  ·obtain ⟨t,ha⟩:=ha;obtain ⟨u,hb⟩:=hb;cases ha.symm.trans hb;exact beq_self_eq_true _
  ·obtain ⟨t,ha⟩:=ha;obtain ⟨u,hb⟩:=hb
   injection ha.symm.trans hb with h1 _
   injection h1 with h1
   exact beq_iff_eq.mpr (Array.mk.inj h1)
  ·obtain ⟨p,its,ha,_,⟨k,g⟩,f⟩:=ha
   obtain ⟨p',its',hb,_,⟨k',g'⟩,f'⟩:=hb
   cases ha.symm.trans hb
   obtain rfl:=Qko (congrArg Obj.data (Option.some.inj (g.symm.trans g')))
   exact hr l l' its c e f f'
 induction n with
 | zero=>exact key _ (λ _ _ _ _ e=>nomatch e)
 | succ n ih=>exact key _ (QhH ih)
theorem Qhr {f:V->V->Option Bool}(hf:∀ a b x y c,f a b=some c->Val B ι s.heap a x->Val B ι s.heap b y->EqAt A.in1 s x y c) (l:List V):∀ (l':List V) (its its':List Value) (c:Bool),QfT f l l'=some c->Vals B ι s.heap l its->Vals B ι s.heap l' its' →
  its.length=its'.length/\∃ e:Nat->Bool,(∀ (j:Nat) (h1:j<its.length) (h2:j<its'.length),EqAt A.in1 s its[j] its'[j] (e j))/\(List.range its.length).all e=c:=by
 induction l with
 | nil=>
  intro l' its its' c e k1 k2
  cases l' with
  | cons=>exact nos e
  | nil=>
   subst k1;subst k2
   obtain rfl:=Option.some.inj e
   exact ⟨rfl,λ _=>true,λ j h1=>absurd h1 (Nat.not_lt_zero j),rfl⟩
 | cons y ys ih=>
  intro l' its its' c e k1 k2
  cases l' with
  | nil=>exact nos e
  | cons z zs=>
   refine byK λ Pz kz=>?_;obtain ⟨v,r,rfl,f1,f2⟩:=k1
   obtain ⟨v',r',rfl,f1',f2'⟩:=k2
   obtain ⟨x,w,e1,e2,rfl⟩:=Qed e
   clear e;obtain ⟨hl,ee,h1,rfl⟩:=ih _ _ _ _ e2 f2 f2'
   refine kz ?_;refine ⟨congrArg (·+1) hl,Nat.rec x λ j _=>ee j,λ j q1 q2=>?_,?_⟩
   ·cases j with
    | zero=>exact hf _ _ _ _ _ e1 f1 f1'
    | succ j=>exact h1 j (Nat.lt_of_succ_lt_succ q1) (Nat.lt_of_succ_lt_succ q2)
   ·simp only [List.length_cons,List.range_succ_eq_map,List.all_cons,List.all_map]
    rfl
section
variable {x y:Value}
theorem eqN (ha:Val B ι s.heap .none x) (hb:Val B ι s.heap .none y):RcAt A s x y true/\EqAt A s x y true:=by
 subst ha;subst hb;exact ⟨RcAt.none_none,EqAt.same _⟩
theorem eqB (a b:Bool) (ha:Val B ι s.heap (.bool a) x) (hb:Val B ι s.heap (.bool b) y):RcAt A s x y (a==b)/\EqAt A s x y (a==b):=by
 subst ha;subst hb;exact ⟨RcAt.bool_bool _ _,EqAt.bool_bool _ _⟩
theorem eqI (a b:Int) (ha:Val B ι s.heap (.int a) x) (hb:Val B ι s.heap (.int b) y):RcAt A s x y (a==b)/\EqAt A s x y (a==b):=by
 obtain ⟨t,rfl⟩:=ha;obtain ⟨u,rfl⟩:=hb;exact ⟨RcAt.int_int _ _ _ _,EqAt.int_int _ _ _ _⟩
theorem eqT (a b:List Nat) (ha:Val B ι s.heap (.str a) x) (hb:Val B ι s.heap (.str b) y):RcAt A s x y (a==b)/\EqAt A s x y (a==b):=by
 obtain ⟨t,rfl⟩:=ha;obtain ⟨u,rfl⟩:=hb
 rw [<- QgI]
 exact ⟨RcAt.str_str _ _ _ _,EqAt.str_str _ _ _ _⟩
end
theorem Qpd:∀ (n:Nat) (A:Around) (a b:V) (x y:Value) (c:Bool),eqV n a b=some c->Val B ι s.heap a x->Val B ι s.heap b y->A.units+n<cLine->RcAt A s x y c/\EqAt A s x y c:=by
 intro n
 induction n with
 | zero=>
  intro A a b x y c e ha hb _
  revert ha hb
  exact QdJ (P:=λ a b c=>Val B ι s.heap a x->Val B ι s.heap b y->RcAt A s x y c/\EqAt A s x y c) eqN eqB eqI eqT (λ _ _ _ e=>by exact nos e) e
 | succ n ih=>
  intro A a b x y c e ha hb hu
  have hs:=λ z (h1:x=z) (h2:y=z)=>Vals.same (n+1) a b z c e (h1▸ha) (h2▸hb)
  revert ha hb hs
  refine QdJ (P:=λ a b c=>Val B ι s.heap a x->Val B ι s.heap b y->(∀ z:Value,x=z->y=z->c=true)->RcAt A s x y c/\EqAt A s x y c) (λ ha hb _=>eqN ha hb) (λ _ _ ha hb _=>eqB _ _ ha hb) (λ _ _ ha hb _=>eqI _ _ ha hb) (λ _ _ ha hb _=>eqT _ _ ha hb) (λ l l' c e ha hb hs=>?_) e
  refine byK λ Pz kz=>?_;obtain ⟨p,its,rfl,_,⟨k,g⟩,f⟩:=ha
  obtain ⟨p',its',rfl,_,⟨k',g'⟩,f'⟩:=hb
  obtain ⟨hl,ee,h1,h2⟩:=Qhr (A:=A) (λ a b x y c e h h'=>(ih A.in1 a b x y c e h h' (by lia)).2) l _ _ _ _ e f f'
  have rc:RcAt A s (.ref p) (.ref p') c:=by
   have:=RcAt.tuples (A:=A) (s:=s) (l:=p) (b:=p') (items:=its.toArray) (items2:=its'.toArray) (e:=ee) ⟨_,g,rfl,k,rfl⟩ ⟨_,g',rfl,k',rfl⟩ (by lia) h1
   simp only [List.size_toArray,List.size_toArray,<- hl,Nat.min_self,h2] at this
   simpa using this
  refine kz ?_;refine ⟨rc,?_⟩
  by_cases q:p=p'
  ·clear h2 h1 hl g' f' g f hu e ih;subst q
   refine (hs _ rfl rfl).substr ?_;exact EqAt.same _
  ·exact .of_refs q rc
theorem Qm4 {l l':List V}{its its':List Value}{c:Bool}{n:Nat}{A:Around}(e:QfT (eqV n) l l'=some c) (f:Vals B ι s.heap l its) (f':Vals B ι s.heap l' its') (hu:A.units+n+1<cLine):
  its.length=its'.length/\∃ e:Nat->Bool,(∀ (j:Nat) (h1:j<its.length) (h2:j<its'.length),EqAt A.in1 s its[j] its'[j] (e j))/\(List.range its.length).all e=c:=
 Qhr (λ a b x y c e h h'=>(Qpd n A.in1 a b x y c e h h' (by lia)).2) l _ _ _ _ e f f'
theorem Qil {t:Sem Value}{r:Option Bool}(I:Inv B fr ι σ s.heap)
  (h:∀ c,r=some c->∀ (Q:Value->Shared->Prop) (E:Value->Shared->Prop),Q (.bool c) s->wpAny (model B.prog B.w) A t Q E s):T B fr A L X t (asB r) (VR B) ι σ s:=by
 cases r with
 | none=>exact T.stuck
 | some c=>exact Qa0 I (h c rfl)
theorem QoN {x y:V}{a b:Value}(R:Room A) (I:Inv B fr ι σ s.heap) (hx:Val B ι s.heap x a) (hy:Val B ι s.heap y b):
  T B fr A L X (compareOp .Eq a b) (eqO x y) (VR B) ι σ s:=by
 have u:=R.units
 have gen:T B fr A L X (compareOp .Eq a b) (asB (eqV 9 x y)) (VR B) ι σ s:=Qil I λ c ec Q E k=>(Qpd 9 A _ _ _ _ _ ec hx hy (by lia)).1 _ _ _ _ k
 cases x with
 | ref i=>cases y with
  | ref j=>
   exact Qbx (t:=λ a=>compareOp .Eq a b) I hx λ l a its n g1 f1 h1=>Qbx (t:=λ b=>compareOp .Eq (.ref a) b) I hy λ l' b its' n' g2 f2 h2=>by
    split
    ·rename_i q
     refine Qil I λ c ec Q E k=>?_
     obtain ⟨hl,ee,k1,k2⟩:=Qm4 (A:=A) ec f1 f2 (by lia)
     exact eq_listAt (e:=ee) ⟨_,g1,rfl,n,rfl⟩ ⟨_,g2,rfl,n',rfl⟩ (h1.trans (q.trans h2.symm)) (by lia) k1 (by rw [Array.length_toList] at k2;refine k2.substr ?_;exact k)
    ·rename_i q
     exact Qa0 I λ Q E k=>eq_list_lengthsAt ⟨_,g1,rfl,n,rfl⟩ ⟨_,g2,rfl,n',rfl⟩ (by refine h1.substr ?_;refine h2.substr ?_;exact bne_iff_ne.mpr q) (by lia) k
  | _=>exact gen
 | _=>exact gen
theorem QcZ {x:V}{r:List V}{ns:List Int}(e:allInts (x::r)=some ns) {Z:Prop}(k0:∀ i ms,(x=.int i)->(allInts r=some ms)->ns=i::ms->Z):Z:=by
 cases x with
 | int i=>obtain ⟨ms,h,k⟩:=Option.map_eq_some_iff.mp (show (allInts r).map (i::·)=some ns from e);exact k0 i ms rfl h k.symm
 | _=>exact nos e
theorem Qhm {h:Heap}:∀ {l:List V}{ns:List Int}{its:List Value},allInts l=some ns->Vals B ι h l its->IntsAre its ns
 | [],_,_,e,f=>by cases e;subst f;exact .nil
 | x::r,_,_,e,f=>by
  refine QcZ e ?_;rintro i ms rfl q rfl
  obtain ⟨v,r',rfl,⟨t,rfl⟩,f⟩:=f
  exact .cons _ _ (Qhm q f)
theorem QlY {h:Heap}{a:List Nat}:∀ {l:List V}{c:Bool}{its:List Value},inL (.str a) l=some c->Vals B ι h l its->∃ ys,StrsAre its ys/\(ys.any λ y=>y==⟨a.toArray⟩)=c
 | [],_,_,e,f=>by obtain rfl:=Option.some.inj e;subst f;exact ⟨[],.nil,rfl⟩
 | x::r,_,_,e,f=>by
  have e:(match eqV 3 x (.str a),inL (.str a) r with | some a,some b=>some (a||b) | _,_=>none)=some _:=e
  cases e1:eqV 3 x (.str a) with
  | none=>replace e:=e1▸e;exact nos e
  | some p1=>
   cases e2:inL (.str a) r with
   | none=>rw [e1,e2] at e;exact nos e
   | some p2=>
    rw [e1,e2] at e;injection e with e;subst e
    cases x with
    | str b=>
     obtain ⟨v,r',rfl,⟨t,rfl⟩,f⟩:=f
     clear e;obtain ⟨ys,h1,h2⟩:=QlY e2 f
     refine ⟨⟨b.toArray⟩::ys,.cons _ _ h1,?_⟩
     simp only [List.any_cons,h2,QgI]
     injection e1 with e1;subst e1;rfl
    | _=>exact nos e1
theorem QoZ {a:List Nat}{x:List Nat}{t u:Tok}:EqAt A s (.str ⟨x.toArray⟩ t) (.str ⟨a.toArray⟩ u) (x==a):=by
 rw [<- QgI];exact EqAt.str_str _ _ _ _
theorem QhA {a:List Nat}{l:List V}{x y:Value}(I:Inv B fr ι σ s.heap) (hx:Val B ι s.heap (.str a) x) (hy:Val B ι s.heap (.tup l) y) (Q:Value->Shared->Prop) (E:Value->Shared->Prop) {c:Bool}(e:inL (.str a) l=some c):
  (Q (.bool c) s->wpAny (model B.prog B.w) A (compareOp .In x y) Q E s)/\(Q (.bool (!c)) s->wpAny (model B.prog B.w) A (compareOp .NotIn x y) Q E s):=by
 obtain ⟨t,rfl⟩:=hx
 refine byK λ Pz kz=>?_;obtain ⟨p,its,rfl,_,⟨k,g⟩,f⟩:=hy
 obtain ⟨ys,h1,h2⟩:=QlY e f
 refine kz ?_;let ee:Value->Bool:=λ v=>v.isStr ⟨a.toArray⟩
 have he0:∀ y,y∈its->EqAt A.in1 s y (.str ⟨a.toArray⟩ t) (ee y):=by
  intro y hy
  clear h2 g f
  induction h1 with
  | nil=>contradiction
  | cons z tk r ih=>
   rcases List.mem_cons.mp hy with rfl | hy
   ·exact EqAt.str_str _ _ _ _
   ·exact ih hy
 have he:∀ y,y∈its.toArray->EqAt A.in1 s y (.str ⟨a.toArray⟩ t) (ee y):=λ y hy=>he0 y (by simpa using hy)
 have hany:its.toArray.any ee=c:=by
  refine h2▸?_
  refine List.any_toArray.substr ?_
  clear he he0 h2 g f
  induction h1 with
  | nil=>rfl
  | cons z tk r ih=>simp only [List.any_cons,List.any_cons,ih];rfl
 exact ⟨λ h=>in_tupleAt ee ⟨_,g,rfl,k,rfl⟩ he (hany▸h),λ h=>notIn_tupleAt ee ⟨_,g,rfl,k,rfl⟩ he (hany▸h)⟩
end
section
open PySem PySem.Calls PyProof.Rows
open PySem.SeqAt
variable {B:Bs}{fr:List PySem.Env}{A:Around}{L:Addr}{X:List Addr}{ι:List Addr}{σ:List O}{s:Shared}
theorem Qcn {h:Heap}{x:V}{v:Value}(hv:Val B ι h x v):(v==Value.none)=isNone x:=by
 cases x with
 | none=>subst hv;rfl
 | bool=>subst hv;rfl
 | int=>obtain ⟨t,rfl⟩:=hv;rfl
 | str=>obtain ⟨t,rfl⟩:=hv;rfl
 | tup=>obtain ⟨a,its,rfl,_⟩:=hv;rfl
 | lst=>obtain ⟨a,its,rfl,_⟩:=hv;rfl
 | ref=>obtain ⟨a,_,rfl⟩:=hv;rfl
 | fn=>obtain ⟨a,_,rfl⟩:=hv;rfl
section
variable {x y:V}{a b:Value}
theorem Qfi {f:Int->Int->Bool}{t:Value->Value->Sem Value}(hx:Val B ι s.heap x a) (hy:Val B ι s.heap y b)
  (h:∀ i j u w,T B fr A L X (t (.int i u) (.int j w)) (M.ret (.bool (f i j))) (VR B) ι σ s):T B fr A L X (t a b) (Qly f x y) (VR B) ι σ s:=by
 cases x with
 | int i=>cases y with
  | int j=>obtain ⟨u,rfl⟩:=hx;obtain ⟨w,rfl⟩:=hy;exact h i j u w
  | _=>exact T.stuck
 | _=>exact T.stuck
theorem Qmk {m:M V}{t:Value->Value->Sem Value}(hy:Val B ι s.heap y b)
  (h:T B fr A L X (t a .none) m (VR B) ι σ s):T B fr A L X (t a b) (match y with | .none=>m | _=>M.stuck) (VR B) ι σ s:=by
 cases y with
 | none=>exact ((show b=Value.none from hy)).substr h
 | _=>exact T.stuck
theorem QoP (I:Inv B fr ι σ s.heap) (hx:Val B ι s.heap x a) (hy:Val B ι s.heap y b):T B fr A L X (compareOp .In a b) (cIn x y) (VR B) ι σ s:=by
 cases x with
 | str l'=>cases y with
  | str l=>cases l' with
   | nil=>exact T.stuck
   | cons c r=>cases r with
    | cons=>exact T.stuck
    | nil=>
     obtain ⟨t,rfl⟩:=hx;obtain ⟨u,rfl⟩:=hy
     refine Qa0 I λ Q E k=>SB.contains ?_
     have:Txt.contains ⟨l.toArray⟩ ⟨[c].toArray⟩=l.contains c:=by
      have:=StrLaws.found_one ⟨l.toArray⟩ c
      unfold Txt.contains
      refine this.substr ?_
      simp
     exact this.substr k
  | tup l=>exact Qil I λ c ec Q E k=>(QhA I hx hy Q E ec).1 k
  | _=>exact T.stuck
 | _=>exact T.stuck
theorem Qjc (I:Inv B fr ι σ s.heap) (hx:Val B ι s.heap x a) (hy:Val B ι s.heap y b):T B fr A L X (compareOp .NotIn a b) (QjF x y) (VR B) ι σ s:=by
 cases x with
 | str l'=>cases y with
  | tup l=>
   refine Qil I λ c ec Q E k=>?_
   cases q:inL (.str l') l with
   | none=>rw [q] at ec;exact nos ec
   | some c'=>rw [q] at ec;exact (QhA I hx hy Q E q).2 (Option.some.inj ec▸k)
  | _=>exact T.stuck
 | _=>exact T.stuck
theorem QiS {p:List V}{ns:List Int}(e:allInts p=some ns):(!decide (ns=[]))=(!p.isEmpty):=by
 cases p with
 | nil=>exact Option.some.inj e▸rfl
 | cons x r=>refine QcZ e ?_;rintro i ms _ _ rfl;rfl
theorem QoK {p:List V}{j:Nat}(R:Room A) (I:Inv B fr ι σ s.heap) (hx:Val B ι s.heap (.lst p) a) (hy:Val B ι s.heap (.ref j) b):T B fr A L X (compareOp .NotEq a b) (cNe (.lst p) (.ref j)) (VR B) ι σ s:=by
 refine Qbx (t:=λ b=>compareOp .NotEq a b) I hy λ l b its n g1 f1 _=>?_
 split
 ·rename_i q
  have zq:=Bool.and_eq_true_iff.mp q
  obtain ⟨ns,en⟩:=Option.isSome_iff_exists.mp zq.1
  rw [List.isEmpty_iff.mp zq.2] at f1
  obtain ⟨a,its',rfl,⟨n',g⟩,f⟩:=hx
  exact Qa0 I λ Q E k=>W.ke_ne_ints (ns:=ns) (ms:=[]) (ys:=[]) ⟨_,I.keep _ _ g,rfl,n',rfl⟩ ⟨_,g1,rfl,n,by refine f1.symm.substr ?_;rfl⟩ (Qhm en f) .nil (by have:=R.units;lia) ((QiS en).symm▸k)
 ·exact T.stuck
theorem QoO (R:Room A) (I:Inv B fr ι σ s.heap) (hx:Val B ι s.heap x a) (hy:Val B ι s.heap y b):T B fr A L X (compareOp .NotEq a b) (cNe x y) (VR B) ι σ s:=by
 cases x with
 | int i=>cases y with
  | int j=>obtain ⟨u,rfl⟩:=hx;obtain ⟨w,rfl⟩:=hy;exact Qa0 I λ Q E k=>ne_int k
  | _=>exact T.stuck
 | str i=>cases y with
  | str j=>obtain ⟨u,rfl⟩:=hx;obtain ⟨w,rfl⟩:=hy;exact Qa0 I λ Q E k=>P.ne_str k
  | _=>exact T.stuck
 | lst p=>cases y with
  | ref j=>exact QoK R I hx hy
  | _=>exact T.stuck
 | _=>exact T.stuck
theorem QjL {op:CmpOp}{op':Cm}(ho:cmOf op=op') (R:Room A) (I:Inv B fr ι σ s.heap) (hx:Val B ι s.heap x a) (hy:Val B ι s.heap y b):
  T B fr A L X (compareOp op a b) (QaJ op' x y) (VR B) ι σ s:=by
 subst ho
 cases op with
 | Lt=>exact Qfi (t:=compareOp .Lt) hx hy λ i j u w=>Qa0 I λ Q E k=>P.lt_int k
 | LtE=>exact Qfi (t:=compareOp .LtE) hx hy λ i j u w=>Qa0 I λ Q E k=>le_int k
 | Gt=>exact Qfi (t:=compareOp .Gt) hx hy λ i j u w=>Qa0 I λ Q E k=>gt_int k
 | GtE=>exact Qfi (t:=compareOp .GtE) hx hy λ i j u w=>Qa0 I λ Q E k=>ge_int k
 | Is=>exact Qmk (t:=compareOp .Is) hy (Qa0 I λ Q E k=>is_none_gen (Qcn hx▸k))
 | IsNot=>exact Qmk (t:=compareOp .IsNot) hy (Qa0 I λ Q E k=>isNot_none (Qcn hx▸k))
 | In=>exact QoP I hx hy
 | NotIn=>exact Qjc I hx hy
 | Eq=>exact QoN R I hx hy
 | NotEq=>exact QoO R I hx hy
end
end
section
open PySem PySem.Calls PyProof.Rows
open PySem.SeqAt
variable {B:Bs}{fr:List PySem.Env}{A:Around}{L:Addr}{X:List Addr}{ι:List Addr}{σ:List O}{s:Shared}
theorem Qhv {α}(l:List α) (i:Int):atI l i=(seqIndex? i l.length).bind (l[·]?):=by
 unfold atI seqIndex?
 by_cases h:i<0
 ·simp only [h,if_true]
  by_cases h2:i+l.length<0
  ·refine (if_pos h2).substr ?_
   have:¬ ((decide (0<=i+(l.length:Int))&&decide (i+(l.length:Int)<l.length))=true):=by simp;lia
   refine (if_neg this).substr ?_;rfl
  ·refine (if_neg h2).substr ?_
   have:(decide (0<=i+(l.length:Int))&&decide (i+(l.length:Int)<l.length))=true:=by lia
   refine (if_pos this).substr ?_;rfl
 ·simp only [h,if_false]
  by_cases h2:i<l.length
  ·have:(decide (0<=i)&&decide (i<(l.length:Int)))=true:=by simp;simp_all
   refine (if_pos this).substr ?_;rfl
  ·have:¬ ((decide (0<=i)&&decide (i<(l.length:Int)))=true):=by simp;simp_all
   refine (if_neg this).substr ?_
   simp only [Option.bind_none]
   rw [List.getElem?_eq_none];simp_all
noncomputable def QcB (e:Expr):Bool:=match Qlm e with
 | some q=>q.2.2.1.isSome
 | none=>true
set_option tactic.hygienic true in
theorem QaT {e:Expr}(h:QcB e=true) (o i:Value):subscripted e false o i=operate [o,i] (getItem o i):=by
 cases e<;>try rfl
 rename_i st _
 cases st
 ·exact nob h
 ·rfl
theorem Qdz {t:Sem Value}{r:Option V}(I:Inv B fr ι σ s.heap)
  (h:∀ x,r=some x->∀ (Q:Value->Shared->Prop) (E:Value->Shared->Prop),(∀ v s',Val B ι s.heap x v->s'.heap=s.heap->Same s s'->Q v s')->wpAny (model B.prog B.w) A t Q E s):T B fr A L X t (Qbk r) (VR B) ι σ s:=by
 cases r with
 | none=>exact T.stuck
 | some x=>exact T.leaf I λ _=>⟨x,rfl,λ Q E k=>h x rfl Q E k⟩
theorem QjI {l:List V}{its:List Value}{k:Int}{v:V}(f:Vals B ι s.heap l its) (e:atI l k=some v) {Z:Prop}(k0:∀ j u,(seqIndex? k its.length=some j)->(its[j]?=some u)->Val B ι s.heap v u->Z):Z:=by
 rw [Qhv,<- f.len] at e
 obtain ⟨j,e1,e2⟩:=Option.bind_eq_some_iff.mp e
 obtain ⟨u,e3,e4⟩:=f.get e2
 exact k0 j u e1 e3 e4
section
variable {value slice:Expr}(hsl:QcB slice=true) {k:Int}{u:Tok}
include hsl
theorem Qlc {l:List Nat}{t:Tok}(I:Inv B fr ι σ s.heap) (sm:QaV k=true):T B fr A L X (subscriptTail value slice (.str ⟨l.toArray⟩ t) (.int k u)) (match atI l k with | some c=>M.ret (.str [c]) | none=>M.stuck) (VR B) ι σ s:=by
 rw [small_iff] at sm
 cases ec:atI l k with
 | none=>exact T.stuck
 | some c=>
  refine T.leaf I λ _=>⟨_,rfl,λ Q E kk=>tail_any (typeIs_str s _ t) F.slot_str_getitem.lookup (P.getItem_str (c:=c) (by lia) ?_ (kk _ _ (QdV (x:=[c])) rfl ⟨rfl,rfl,rfl⟩)) (QaT hsl _ _)⟩
  rw [Qhv] at ec
  rw [QjV]
  simpa using ec
theorem Qlf {l:List V}{a:Addr}{its:List Value}{n:Nat}(I:Inv B fr ι σ s.heap) (g:s.heap.get? a=some { cls:=.type "tuple", data:=.seq its.toArray n }) (f:Vals B ι s.heap l its) (sm:QaV k=true):
  T B fr A L X (subscriptTail value slice (.ref a) (.int k u)) (Qbk (atI l k)) (VR B) ι σ s:=by
 rw [small_iff] at sm
 refine Qdz I λ v ev Q E kk=>?_
 refine QjI f ev λ j w e1 e2 e3=>?_
 exact item_tupleT ⟨_,g,rfl,n,rfl⟩ (by lia) (by lia) e1 e2 (kk _ _ e3 rfl ⟨rfl,rfl,rfl⟩) (QaT hsl _ _)
theorem Qhz {l:List V}{a:Addr}{its:Array Value}{n:Nat}(I:Inv B fr ι σ s.heap) (g:s.heap.get? a=some { cls:=.type "list", data:=.seq its n }) (f:Vals B ι s.heap l its.toList) (sm:QaV k=true):
  T B fr A L X (subscriptTail value slice (.ref a) (.int k u)) (Qbk (atI l k)) (VR B) ι σ s:=by
 rw [small_iff] at sm
 refine Qdz I λ v ev Q E kk=>?_
 refine QjI f ev λ j w e1 e2 e3=>?_
 rw [Array.getElem?_toList] at e2
 refine tail_any (T := "list") ⟨_,g,rfl⟩ list_getitem_lookup ?_ (QaT hsl _ _)
 unfold seqIndex? at e1
 have z:=kk _ _ e3 rfl ⟨rfl,rfl,rfl⟩
 by_cases h:k<0
 ·rw [if_pos h] at e1
  have e1:(if (decide (0<=k+(its.size:Int))&&decide (k+(its.size:Int)<its.size))=true then some (k+(its.size:Int)).toNat else none)=some j:=e1
  split at e1
  ·rename_i hh
   have hh:=of_decide_eq_true (Bool.and_eq_true_iff.mp hh).1
   exact wpAny_getItem_list_neg (items:=its) ⟨_,g,rfl,n,rfl⟩ h (by lia) (by lia) (Option.some.inj e1▸e2) z
  ·exact nos e1
 ·replace e1:=(if_neg h)▸e1
  have e1:(if (decide (0<=k)&&decide (k<(its.size:Int)))=true then some k.toNat else none)=some j:=e1
  split at e1
  ·exact wpAny_getItem_list (items:=its) ⟨_,g,rfl,n,rfl⟩ (by simp_all) (by lia) (Option.some.inj e1▸e2) z
  ·exact nos e1
theorem Qlg {x y:V}{o i:Value}(I:Inv B fr ι σ s.heap) (hx:Val B ι s.heap x o) (hy:Val B ι s.heap y i):
  T B fr A L X (subscriptTail value slice o i) (QaK x y) (VR B) ι σ s:=by
 cases x with
 | str l=>cases y with
  | int k=>obtain ⟨t,rfl⟩:=hx;obtain ⟨u,rfl⟩:=hy;exact Qcj λ sm=>Qlc hsl I sm
  | _=>exact T.stuck
 | tup l=>cases y with
  | int k=>obtain ⟨u,rfl⟩:=hy;obtain ⟨a,its,rfl,_,⟨n,g⟩,f⟩:=hx;exact Qcj λ sm=>Qlf hsl I g f sm
  | _=>exact T.stuck
 | lst l=>cases y with
  | int k=>obtain ⟨u,rfl⟩:=hy;obtain ⟨a,its,rfl,⟨n,g⟩,f⟩:=hx;exact Qcj λ sm=>Qhz (its:=its.toArray) hsl I (I.keep _ _ g) f sm
  | _=>exact T.stuck
 | ref r=>cases y with
  | int k=>obtain ⟨u,rfl⟩:=hy;exact Qcj λ sm=>Qbx (t:=λ o=>subscriptTail value slice o (.int k u)) I hx λ l a its n g f hl=>Qhz hsl I g f sm
  | _=>exact T.stuck
 | _=>exact T.stuck
end
end
section
open PySem PySem.Calls PyProof.Rows
open PySem.SeqAt
variable {B:Bs}{fr:List PySem.Env}{A:Around}{L:Addr}{X:List Addr}{ι:List Addr}{σ:List O}{s:Shared}
noncomputable def bval:BI->Value
 | .len=>.builtin "len" | .min=>.builtin "min" | .max=>.builtin "max"
 | .int=>.type "int" | .str=>.type "str" | .tuple=>.type "tuple" | .list=>.type "list" | .range=>.type "range"
theorem QhN:∀ {l:List Int}{m:Int},minI l=some m->m∈l/\∀ x∈l,m<=x
 | [],_,e=>by trivial
 | a::r,m,e=>by
  simp only [minI,Option.some.injEq] at e
  have key:∀ (r:List Int) (a m:Int),r.foldl (λ x y=>if y<x then y else x) a=m->m∈a::r/\∀ x∈a::r,m<=x:=by
   intro r
   induction r with
   | nil=>intro a m e;simp at e;subst e;simp
   | cons b r ih=>
    intro a m e
    simp only [List.foldl_cons] at e
    obtain ⟨h1,h2⟩:=ih _ _ e
    have h3:=h2 _ (List.mem_cons_self ..)
    constructor
    ·rcases List.mem_cons.mp h1 with h | h
     ·refine h.substr ?_;split<;>simp
     ·simp [h]
    ·intro x hx
     rcases List.mem_cons.mp hx with rfl | hx
     ·split at h3<;>lia
     ·clear h1 ih;rcases List.mem_cons.mp hx with rfl | hx
      ·split at h3<;>lia
      ·exact h2 x (List.mem_cons_of_mem _ hx)
  exact key r a m e
theorem Qhl {h:Heap}:∀ {l:List V}{ns:List Int}{its:List Value},allInts l=some ns->Vals B ι h l its->∃ xs:List (Int×Tok),its=xs.map (λ p=>.int p.1 p.2)/\ns=xs.map (·.1)
 | [],_,_,e,f=>by injection e with e;subst e;subst f;exact ⟨[],rfl,rfl⟩
 | x::r,_,_,e,f=>by
  refine QcZ e ?_;rintro i ms rfl q rfl
  obtain ⟨v,r',rfl,⟨t,rfl⟩,f⟩:=f
  clear e;obtain ⟨xs,rfl,rfl⟩:=Qhl q f
  exact ⟨(i,t)::xs,rfl,rfl⟩
theorem QgS {t:Sem Value}{n:Nat}(I:Inv B fr ι σ s.heap)
  (h:n<=cap->∀ (Q:Value->Shared->Prop) (E:Value->Shared->Prop),(∀ t k,Q (.int n t) { s with toks:=k })->wpAny (model B.prog B.w) A t Q E s):T B fr A L X t (Qgu n) (VR B) ι σ s:=by
 unfold Qgu
 split
 ·rename_i q
  exact QbL I λ Q E k=>h q Q E k
 ·exact T.stuck
theorem Qka {n:Nat}(h:n<=cap):(n:Int)<2 ^ 63:=by
 have:n<=1000000:=h
 lia
theorem QjJ {t:Sem Value}{l:List V}(I:Inv B fr ι σ s.heap)
  (h:∀ (Q:Value->Shared->Prop) (E:Value->Shared->Prop),(∀ a s' its n,(∀ b o,s.heap.get? b=some o->s'.heap.get? b=some o)->s.heap.get? a=none →
   s'.heap.get? a=some { cls:=.type "tuple", data:=.seq its n }->Vals B ι s.heap l its.toList->Same s s'->Q (.ref a) s')->wpAny (model B.prog B.w) A t Q E s):T B fr A L X t (M.ret (.tup l)) (VR B) ι σ s:=
 T.leafX I λ _=>⟨_,rfl,λ Q E k=>h Q E λ a s' its n kp e g f sm=>k _ _ kp (by
  exact ⟨a,its.toList,rfl,I.new_nin e,⟨n,by exact g⟩,f.mono (F:=[]) (X:=[]) (Go.ext kp) I.tabs.nt⟩) sm⟩
theorem Qf0 {h:Heap}{x:V}{us:List Value}(f:Vals B ι h [x] us) {Z:Prop}(k0:∀ u,us=[u]->Val B ι h x u->Z):Z:=by
 obtain ⟨v,r,rfl,a,rfl⟩:=f
 exact k0 v rfl a
theorem Qmi {h:Heap}{x y:V}{us:List Value}(f:Vals B ι h [x,y] us) {Z:Prop}(k0:∀ u v,(us=[u,v])->(Val B ι h x u)->Val B ι h y v->Z):Z:=by
 obtain ⟨v,r,rfl,a,w,r',rfl,b,rfl⟩:=f
 exact k0 v w rfl a b
section
variable {vs:List V}{us:List Value}
theorem QgE {f:V->M V}{t:List Value->Sem Value}(hv:Vals B ι s.heap vs us) (h:∀ x u,Val B ι s.heap x u->T B fr A L X (t [u]) (f x) (VR B) ι σ s):T B fr A L X (t us) (one f vs) (VR B) ι σ s:=by
 cases vs with
 | nil=>exact T.stuck
 | cons x r=>cases r with
  | nil=>refine Qf0 hv ?_;rintro u rfl hx;exact h x u hx
  | cons=>exact T.stuck
theorem Qmj {f:Int->Int->V}{t:List Value->Sem Value}(hv:Vals B ι s.heap vs us) (h:∀ i j u w,T B fr A L X (t [.int i u,.int j w]) (M.ret (f i j)) (VR B) ι σ s):T B fr A L X (t us) (two f vs) (VR B) ι σ s:=by
 cases vs with
 | nil=>exact T.stuck
 | cons x r=>cases r with
  | nil=>exact T.stuck
  | cons y r=>cases r with
   | cons=>exact T.stuck
   | nil=>cases x with
    | int i=>cases y with
     | int j=>refine Qmi hv ?_;rintro u v rfl hx hy;obtain ⟨t,rfl⟩:=hx;clear hv;obtain ⟨t',rfl⟩:=hy;exact h i j t t'
     | _=>exact T.stuck
    | _=>exact T.stuck
theorem Qjj {h:Heap}{c:Prop} [Decidable c] {i j:Int}{t w:Tok}:Val B ι h (.int (if c then i else j)) (if c then .int i t else .int j w):=by
 by_cases q:c
 ·refine (if_pos q).substr ?_;refine (if_pos q).substr ?_;exact ⟨_,rfl⟩
 ·refine (if_neg q).substr ?_;refine (if_neg q).substr ?_;exact ⟨_,rfl⟩
theorem QoM {x:V}{u:Value}(I:Inv B fr ι σ s.heap) (hx:Val B ι s.heap x u):T B fr A L X (call (bval .len) [u]) (Qme x) (VR B) ι σ s:=by
 cases x with
 | str l=>obtain ⟨t,rfl⟩:=hx;exact QgS I λ q Q E k=>SBL.len (by exact Qka q) (by exact k _ _)
 | tup l=>
  obtain ⟨a,its,rfl,_,⟨n,g⟩,f⟩:=hx
  exact QgS I λ q Q E k=>len_tuple (items:=its.toArray) ⟨_,g,rfl,n,rfl⟩ (by refine (List.size_toArray).symm▸?_;refine (f.len).symm▸?_;exact Qka q) (by refine (List.size_toArray).symm▸?_;refine (f.len).symm▸?_;exact k _ _)
 | ref i=>exact Qbx (t:=λ u=>call (bval .len) [u]) I hx λ l a its n g f hl=>QgS I λ q Q E k=>call_len_list (items:=its) ⟨_,g,rfl,n,rfl⟩ (by refine (hl).symm▸?_;exact Qka q) (by refine (hl).symm▸?_;exact k _ _)
 | _=>exact T.stuck
theorem Qng {x:V}{u:Value}(R:Room A) (I:Inv B fr ι σ s.heap) (hx:Val B ι s.heap x u):T B fr A L X (call (bval .min) [u]) (QjG x) (VR B) ι σ s:=by
 cases x with
 | ref i=>
  refine Qbx (t:=λ u=>call (bval .min) [u]) I hx λ l a its n g f hl=>?_
  cases en:allInts l with
  | none=>exact T.stuck
  | some ns=>
   dsimp only
   cases em:minI ns with
   | none=>exact T.stuck
   | some m=>
    dsimp only
    split
    ·refine byK λ Pz kz=>?_;obtain ⟨xs,h1,rfl⟩:=Qhl en f
     have hl:its=intItems xs.toArray:=by
      apply Array.toList_inj.mp
      refine h1.substr ?_;simp [intItems]
     clear en h1 f hx;obtain ⟨m1,m2⟩:=QhN em
     have hne:0<xs.length:=by
      cases xs with
      | nil=>contradiction
      | cons=>exact Nat.zero_lt_succ _
     refine kz ?_;refine T.leafX I λ _=>⟨_,rfl,λ Q E k=>min_intList (xs:=xs.toArray) R.hand (hl▸⟨_,g,rfl,n,rfl⟩) hne λ v h' tk hv kp=>?_⟩
     obtain ⟨b1,b2⟩:=argBest_lt (numAt xs.toArray) (xs.length - 1)
     obtain ⟨t,rfl⟩:=intItems_at hv
     rw [List.size_toArray] at hv ⊢
     have hn:∀ j,j<xs.length->numAt xs.toArray j∈xs.map (·.1):=λ j hj=>by
      unfold numAt;simp [hj];exact ⟨_,List.getElem_mem hj⟩
     have e:numAt xs.toArray (argBest (λ i j=>decide (numAt xs.toArray i<numAt xs.toArray j)) (xs.length - 1))=m:=by
      refine Int.le_antisymm ?_ (m2 _ (hn _ (by omega)))
      refine byK λ Pz kz=>?_;obtain ⟨j,hj,e⟩:=List.mem_iff_getElem.mp m1
      have hj':j<xs.length:=by simpa using hj
      have e2:numAt xs.toArray j=m:=by
       unfold numAt;simp [hj'];simpa using e
      exact kz (e2▸b2 j (by lia))
     exact k _ _ kp ⟨t,by refine e.substr ?_;rfl⟩ ⟨rfl,rfl,rfl⟩
    ·exact T.stuck
 | _=>exact T.stuck
theorem QoI {x:V}{u:Value}(I:Inv B fr ι σ s.heap) (hx:Val B ι s.heap x u):T B fr A L X (call (bval .str) [u]) (Qmd x) (VR B) ι σ s:=by
 cases x with
 | int i=>
  obtain ⟨t,rfl⟩:=hx
  refine Qcj λ q=>T.leaf I λ _=>⟨_,rfl,λ Q E k=>P.str_of_int ?_ (k _ _ ?_ rfl ⟨rfl,rfl,rfl⟩)⟩
  ·have:i.natAbs<2 ^ 1920:=Nat.lt_of_lt_of_le (show i.natAbs<1000 by lia) (by decide)
   rcases Nat.eq_zero_or_pos i.natAbs with h0 | hp
   ·refine h0.substr ?_;decide
   ·exact (Nat.log2_lt (Nat.ne_of_gt hp)).mpr this
  ·exact ⟨s.toks,by rw [Str.ofString_eq_toList];rfl⟩
 | _=>exact T.stuck
theorem Qla {x:V}{u:Value}(I:Inv B fr ι σ s.heap) (hx:Val B ι s.heap x u):T B fr A L X (call (bval .tuple) [u]) (Qmc x) (VR B) ι σ s:=by
 cases x with
 | ref i=>exact Qbx (t:=λ u=>call (bval .tuple) [u]) I hx λ l a its n g f hl=>Qcj λ q=>QjJ I λ Q E k=>call_tuple_list (items:=its) ⟨_,g,rfl,n,rfl⟩ (λ h' kp=>k h'.objs.size { s with heap:=h'.push { cls:=.type "tuple", data:=.seq its } } its 0 (λ b o e=>Heap.get?_push_of_some _ (kp b o e)) (by
   cases q:s.heap.get? h'.objs.size with
   | none=>rfl
   | some o=>exact nos ((Qao h').symm.trans (kp _ _ q))) (Heap.get?_push_size _ rfl) f ⟨rfl,rfl,rfl⟩) (by refine (hl).symm▸?_;exact Qa8 q)
 | _=>exact T.stuck
theorem Qle {x:V}{u:Value}(I:Inv B fr ι σ s.heap) (hx:Val B ι s.heap x u):T B fr A L X (call (bval .list) [u]) (QjH x) (VR B) ι σ s:=by
 cases x with
 | ref i=>exact Qbx (t:=λ u=>call (bval .list) [u]) I hx λ l a its n g f hl=>Qd0 I λ q Q E k=>call_list_seq (T := "list") a (.inl rfl) g rfl rfl (λ h' c' kp hn=>k _ _ its c' kp (Qao _) hn f ⟨rfl,rfl,rfl⟩) (by refine (hl).symm▸?_;exact Qa8 q)
 | _=>exact T.stuck
theorem Qnh {x:V}{u:Value}(I:Inv B fr ι σ s.heap) (hx:Val B ι s.heap x u):T B fr A L X (call (bval .int) [u]) (Qmf x) (VR B) ι σ s:=by
 cases x with
 | bool b=>subst hx;exact QbL I λ Q E k=>call_int_bool (k _ _)
 | _=>exact T.stuck
theorem QhZ {b:BI}(R:Room A) (I:Inv B fr ι σ s.heap) (hv:Vals B ι s.heap vs us):
  T B fr A L X (call (bval b) us) (builtin b vs) (VR B) ι σ s:=by
 cases b with
 | len=>exact QgE (t:=λ us=>call (bval .len) us) hv λ _ _ hx=>QoM I hx
 | min=>
  have two:=Qmj (L:=L) (X:=X) (f:=λ a b=>V.int (if b<a then b else a)) (t:=λ us=>call (bval .min) us) hv λ a b t t'=>T.leafX I λ _=>⟨_,rfl,λ Q E k=>min_two_ints R.hand λ h' tk kp=>k _ _ kp Qjj ⟨rfl,rfl,rfl⟩⟩
  cases vs with
  | nil=>exact two
  | cons x r=>cases r with
   | nil=>refine Qf0 hv ?_;rintro u rfl hx;exact Qng R I hx
   | cons=>exact two
 | max=>exact Qmj (f:=λ a b=>V.int (if b > a then b else a)) (t:=λ us=>call (bval .max) us) hv λ a b t t'=>T.leafX I λ _=>⟨_,rfl,λ Q E k=>max_two_ints R.hand λ h' tk kp=>k _ _ kp Qjj ⟨rfl,rfl,rfl⟩⟩
 | int=>exact QgE (t:=λ us=>call (bval .int) us) hv λ x _ hx=>Qnh I hx
 | str=>exact QgE (t:=λ us=>call (bval .str) us) hv λ _ _ hx=>QoI I hx
 | tuple=>exact QgE (t:=λ us=>call (bval .tuple) us) hv λ _ _ hx=>Qla I hx
 | list=>exact QgE (t:=λ us=>call (bval .list) us) hv λ _ _ hx=>Qle I hx
 | range=>exact T.stuck
end
end
section
open PySem PySem.Calls PyProof.Rows
variable {B:Bs}{fr:List PySem.Env}{A:Around}{L:Addr}{X:List Addr}{ι:List Addr}{σ:List O}{s:Shared}
structure ClsOk (B:Bs) (K:W.Frag):Prop where
 X:K.In B.g
 ga:W.findIn K (.ref B.KW) "__getattribute__" = some (some (.builtin "object.__getattribute__"))
 gk:W.findIn K (.ref B.KW) "__getattr__" = some none
 sa:W.findIn K (.ref B.KW) "__setattr__" = some (some (.builtin "object.__setattr__"))
 po:W.plainOver K B.KW=true
 hd:W.hasDictIn K B.KW=true
 attr:∀ (k:Nat) (x:Str),anames[k]?=some x->W.findIn K (.ref B.KW) x=some none/\W.takerIn K B.KW x=some none
 meth:∀ (k:Nat) (x:Str),mnames[k]?=some x->∃ f,And3 (W.findIn K (.ref B.KW) x=some (some (.ref f))) (B.fa (m0+k)=some f) (W.typeIn K (.ref f)=some (.type "function"))
theorem QbA {i:Nat}{o:O}(e:σ[i]?=some o):getO i σ=.ok o σ:=by unfold getO;refine e.substr ?_;rfl
theorem QaS {i:Nat}(h:getO i σ≠.bad) {Z:Prop}(k0:∀ o,σ[i]?=some o->Z):Z:=by
 unfold getO at h
 cases e:σ[i]? with
 | none=>rw [e] at h;exact absurd rfl h
 | some o=>exact k0 o e
theorem QeJ (I:Inv B fr ι σ s.heap) {i j:Nat}{l:List (Nat×V)}{u:Value}(e:σ[i]?=some (.inst j)) (f:σ[j]?=some (.dict l)) (v:Val B ι s.heap (.ref i) u) {Z:Prop}(k0:∀ a d o es n,(u=.ref a)->(ι[i]?=some a)->(ι[j]?=some d)->(s.heap.get? a=some (W.instObj B.KW d))->(s.heap.get? d=some o)->(o.data=.dict es n)->(StrKeys es)->(DictRel B ι s.heap l es)->(es.size=l.length)->((∀ x:Str,(∀ k:Nat,anames[k]?≠some x)->nsFind es x=none))->W.InstAt s.heap a (W.instObj B.KW d) B.KW (some o)->Z):Z:=by
 obtain ⟨a,e1,rfl⟩:=v
 obtain ⟨a',e2,d,e3,g⟩:=I.get e
 rw [e1] at e2;obtain rfl:=Option.some.inj e2
 obtain ⟨d',e4,o,es,n,g1,g2,g3,g4,g5,g6⟩:=I.get f
 rw [e3] at e4;obtain rfl:=Option.some.inj e4
 exact k0 a d o es n rfl e1 e3 g g1 g2 g3 g4 g5 g6 ⟨g,rfl,rfl,g1⟩
theorem Qcd {es:Array DictEntry}(h:StrKeys es):es.toList.any (·.refKey)=false:=by
 rw [List.any_eq_false]
 intro e he
 obtain ⟨n,t,h⟩:=h e (Array.mem_toList_iff.mp he)
 simp [DictEntry.refKey,h]
theorem QcY {o:Obj}{es:Array DictEntry}{n:Nat}{x:Str}(d:o.data=.dict es n) (k:StrKeys es):W.lookIn x o=some (nsFind es x):=by
 unfold W.lookIn
 refine d.substr ?_
 dsimp only
 unfold nsFind findBy
 refine (Array.find?_toList)▸?_
 cases q:List.find? (λ x_1=>x_1.key.isStr x) es.toList with
 | none=>simp [Qcd k]
 | some e=>rfl
theorem QcU {h:Heap}{x:V}{v:Value}(hv:Val B ι h x v):W.handedIn v=true:=by
 cases x
 ·obtain rfl:v=_:=hv;rfl
 ·obtain rfl:v=_:=hv;rfl
 ·obtain ⟨t,rfl⟩:=hv;rfl
 ·obtain ⟨t,rfl⟩:=hv;rfl
 ·obtain ⟨a,its,rfl,_⟩:=hv;rfl
 ·obtain ⟨a,its,rfl,_⟩:=hv;rfl
 ·obtain ⟨a,_,rfl⟩:=hv;rfl
 ·obtain ⟨a,_,rfl⟩:=hv;rfl
set_option tactic.hygienic true in
theorem Qen {K:W.Frag}(C:ClsOk B K) {x:V}{o:Value}{k:Nat}{nm:Str}{ex:Bool}(hk:anames[k]?=some nm) (I:Inv B fr ι σ s.heap) (hx:Val B ι s.heap x o):
  T B fr A L X (PySem.getAttr o nm ex) (getAttr x k) (VR B) ι σ s:=by
 cases x<;>first | exact T.stuck | skip
 rename_i i
 refine T.skip (a:=i) rfl ?_
 intro hb
 refine QaS (Qam hb) λ ob e=>?_
 revert hb
 refine T.skip (QbA e) ?_
 cases ob<;>first | exact T.stuck | skip
 rename_i j
 intro hb
 refine QaS (Qam hb) λ ob f=>?_
 revert hb
 refine T.skip (QbA f) ?_
 cases ob<;>first | exact T.stuck | skip
 rename_i l
 refine QeJ I e f hx ?_;rintro a d od es n rfl e1 e2 g1 g2 g3 g4 g5 g6 g7 IA
 refine Qdz I λ v ev Q E kk=>?_
 have:=g5 k nm hk
 simp only [ev] at this
 obtain ⟨u,h1,h2⟩:=this
 exact W.get_value (I.keep |> C.X.keeps) IA C.ga (W.findObj_own C.hd (C.attr k nm hk).1 rfl (by simp only [QcY g3 g4,h1])) (QcU h2) (kk _ _ h2 rfl ⟨rfl,rfl,rfl⟩)
theorem Qgl {k k':Nat}{x:Str}(h:anames[k]?=some x) (h':anames[k']?=some x):k=k':=by
 exact (List.getElem?_inj (List.getElem?_eq_some_iff.mp h).1 (by decide +kernel)).mp (h.trans h'.symm)
theorem QcX (a b:Nat) (v:V) (r:List (Nat×V)):Qbf a ((b,v)::r)=if a=b then some v else Qbf a r:=rfl
theorem Qjn (a b:Nat) (v w:V) (r:List (Nat×V)):Qgr a v ((b,w)::r)=if a=b then (a,v)::r else (b,w)::Qgr a v r:=rfl
theorem Qdh (a b:Nat) (v:V):∀ l,Qbf a (Qgr b v l)=if a=b then some v else Qbf a l
 | []=>by
  rfl
 | (c,w)::r=>by
  rw [Qjn]
  by_cases h:b=c
  ·subst h
   rw [if_pos rfl]
   simp only [QcX]
   split<;>rfl
  ·rw [if_neg h]
   simp only [QcX,Qdh a b v r]
   by_cases q:a=c
   ·subst q
    refine (if_pos rfl).substr ?_;refine (if_pos rfl).substr ?_;refine (if_neg (λ z=>h z.symm)).substr ?_;rfl
   ·refine (if_neg q).substr ?_;refine (if_neg q).substr ?_;rfl
theorem QeH (b:Nat) (v:V):∀ l,(Qgr b v l).length=match Qbf b l with | some _=>l.length | none=>l.length+1
 | []=>rfl
 | (c,w)::r=>by
  rw [Qjn,QcX]
  split
  ·rfl
  ·simp only [List.length_cons,QeH b v r]
   split<;>simp
theorem Qbs {o:Obj}{es:Array DictEntry}{n:Nat}{nm:Str}{hs:Int}{t:Tok}{v:Value}(d:o.data=.dict es n) (k:StrKeys es) {Z:Prop}(k0:∀ es' n',(Obj.putName nm hs (.str nm t) v o).data=.dict es' n'->StrKeys es'->(∀ x,nsFind es' x=if x=nm then some v else nsFind es x)->(es'.size=match nsFind es nm with | some _=>es.size | none=>es.size+1)->Z):Z:=by
 obtain ⟨c,dd,dt,sl⟩:=o
 simp only at d
 subst d
 cases hi:es.findIdx? (·.key.isStr nm) with
 | some i=>
  refine k0 _ _ (by simp only [Obj.putName_eq,Obj.putNameByArray,hi];rfl) (k.modify _ _) (λ x=>findBy_modify (λ n v=>v.isStr n) Value.isStr_inj es nm x v i hi) ?_
  have:nsFind es nm≠none:=λ q=>by
   unfold nsFind findBy at q
   rw [Option.map_eq_none_iff,Array.find?_eq_none] at q
   have zq:=Array.findIdx?_eq_some_iff_getElem.mp hi
   exact q _ (Array.getElem_mem zq.1) zq.2.1
  cases q:nsFind es nm with
  | none=>exact absurd q this
  | some _=>simp
 | none=>
  refine k0 _ _ (by simp only [Obj.putName_eq,Obj.putNameByArray,hi];rfl) (k.push _ _ _ _) (λ x=>findBy_push (λ n v=>v.isStr n) es nm x _ _ v (λ y=>by
   show (nm==y)=decide (y=nm)
   by_cases h:y=nm
   ·subst h;rfl
   ·have:¬ nm=y:=λ e=>h e.symm
    simp [h,this]) hi) ?_
  have:nsFind es nm=none:=by
   unfold nsFind findBy
   rw [Option.map_eq_none_iff,Array.find?_eq_none]
   intro e he hh
   rw [Array.findIdx?_eq_none_iff] at hi
   replace hh:=(hi e he).symm.trans hh;exact nob hh
  refine this.substr ?_;simp
theorem QcT {M:Model}{E:Value->Shared->Prop}{a:Addr}{o:Obj}{es:Array DictEntry}{n:Nat}{nm:Str}{v:Value}{Q:Unit->Shared->Prop}(g:s.heap.get? a=some o) (d:o.data=.dict es n) (k:StrKeys es)
  (h:∀ hs,Q () { s with heap:=s.heap.update a (Obj.putName nm hs (.str nm s.toks) v),toks:=s.toks+1 }):wpAny M A (nsSet a nm v) Q E s:=by
 refine wpAny_bind (wpAny_bind (wpAny_askSetting (wpAny_pure (wpAny_bind (wpAny_mkText (wpAny_bind (wpAny_loadPart g ?_)))))))
 refine d.substr ?_
 dsimp only
 have c:(!es.any (·.key.isStr nm)&&es.any (·.refKey))=false:=by
  have:es.any (·.refKey)=false:=by exact (Array.any_toList).symm.trans (Qcd k)
  simp only [this,Bool.and_false]
 rw [aRefKeyMayBeTheName_at];refine c.substr ?_
 exact wpAny_updatePart g (h _)
theorem QaO {o:Obj}{es:Array DictEntry}{n:Nat}(d:o.data=.dict es n):o.isFreed=false:=Obj.isFreed_of_dict d
theorem QeY {h:Heap}{l:List (Nat×V)}{es es':Array DictEntry}{k:Nat}{nm:Str}{x:V}{v:Value}(hk:anames[k]?=some nm) (d:DictRel B ι h l es) (f:∀ y,nsFind es' y=if y=nm then some v else nsFind es y) (hx:Val B ι h x v):
  DictRel B ι h (Qgr k x l) es':=by
 intro k' y hy
 rw [Qdh]
 by_cases q:k'=k
 ·subst q
  rw [hk] at hy;obtain rfl:=Option.some.inj hy
  rw [if_pos rfl,f];refine (if_pos rfl).substr ?_
  exact ⟨v,rfl,hx⟩
 ·rw [if_neg q,f];refine (if_neg (λ z=>q (by clear q hx f;subst z;exact Qgl hy hk))).substr ?_
  exact d k' y hy
set_option tactic.hygienic true in
theorem Qem {K:W.Frag}(C:ClsOk B K) {x y:V}{o v:Value}{k:Nat}{nm:Str}(hk:anames[k]?=some nm) (I:Inv B fr ι σ s.heap) (hx:Val B ι s.heap x o) (hy:Val B ι s.heap y v):
  T B fr A L X (PySem.setAttr o nm v) (setAttr x k y) (λ _ _ _ _=>True) ι σ s:=by
 cases x<;>first | exact T.stuck | skip
 rename_i i
 refine T.skip (a:=i) rfl ?_
 intro hb
 refine QaS (Qam hb) λ ob e=>?_
 revert hb
 refine T.skip (QbA e) ?_
 cases ob<;>first | exact T.stuck | skip
 rename_i j
 intro hb
 refine QaS (Qam hb) λ ob f=>?_
 revert hb
 refine T.skip (QbA f) ?_
 cases ob<;>first | exact T.stuck | skip
 rename_i l
 refine QeJ I e f hx ?_;rintro a d od es n rfl e1 e2 g1 g2 g3 g4 g5 g6 g7 IA
 dsimp only
 by_cases hl:l.length<=100/\k<3
 ·refine (if_pos hl).substr ?_
  intro _
  unfold Qcg
  refine (if_pos ((List.getElem?_eq_some_iff.mp f).1)).substr ?_
  have XK:=C.X.keeps I.keep
  refine W.set_plain XK IA C.sa ?_
  refine W.osa_open (s:={ s with toks:=s.toks+1 }) XK IA C.po (C.attr k nm hk).2 λ b=>?_
  obtain ⟨cd,hc,hd'⟩:=W.any_some C.hd
  refine wpAny_bind (wpAny_pure (wpAny_bind (wpAny_bind (wpAny_loadPart g1 (wpAny_bind (W.Looks.here (s:={ s with toks:=s.toks+1 }) (W.looks_clsIn XK hc) ?_))))))
  refine (hd').symm▸?_
  refine wpAny_pure (a:=some d) (wpAny_bind (wpAny_pure (wpAny_bind ?_)))
  refine QcT (s:={ s with toks:=s.toks+1 }) g2 g3 g4 λ hs=>?_
  refine Qbs (nm:=nm) (hs:=hs) (t:=s.toks+1) (v:=v) g3 g4 λ es' n' p1 p2 p3 p4=>?_
  have hg:(s.heap.update d (Obj.putName nm hs (.str nm (s.toks+1)) v)).get? d=some (Obj.putName nm hs (.str nm (s.toks+1)) v od):=Heap.get?_update_self _ g2 (QaO p1)
  have hsz:es'.size=(Qgr k y l).length:=by
   simp only [p4,QeH]
   have:=g5 k nm hk
   split at this<;>rename_i q
   ·refine byK λ Pz kz=>?_;obtain ⟨w,h1,_⟩:=this
    refine kz ?_;refine h1.substr ?_;refine q.substr ?_;exact g6
   ·simp only [this,q,g6]
  have hlen:(Qgr k y l).length<=101:=by
   rw [QeH];split
   ·exact Nat.le_succ_of_le hl.1
   ·exact Nat.succ_le_succ hl.1
  refine wpAny_bind (wpAny_lookBehind hg (by exact Eq.trans (congrArg _ p1) (pastItsLine_dict (by refine hsz.substr ?_;refine sizeLine_eq.substr ?_;lia))) ?_)
  refine wpAny_pure ?_
  have go:Go B (frs fr) [] ι s.heap ι (s.heap.update d (Obj.putName nm hs (.str nm (s.toks+1)) v)):=Go.wrote e2 (Heap.SameBut.update .. : Heap.SameBut d s.heap (s.heap.update d (Obj.putName nm hs (.str nm (s.toks+1)) v))) ⟨_,hg⟩
  refine ⟨(),_,ι,rfl,go.wide (by simp),I.wrote e2 (Heap.SameBut.update .. : Heap.SameBut d s.heap (s.heap.update d (Obj.putName nm hs (.str nm (s.toks+1)) v))) ⟨_,es',n',hg,p1,p2,?_,hsz,λ z hz=>?_⟩,trivial,⟨rfl,rfl,rfl⟩⟩
  ·exact QeY hk (g5.mono go I.tabs.nt) p3 (hy.mono go I.tabs.nt)
  ·rw [p3];refine (if_neg (λ q:z=nm=>hz k (by refine q.substr ?_;exact hk))).substr ?_;exact g7 z hz
 ·refine (if_neg hl).substr ?_;exact T.stuck
end
section
open PySem PySem.Calls PyProof.Rows
variable {B:Bs}{fr:List PySem.Env}{A:Around}{L:Addr}{X:List Addr}{ι:List Addr}{σ:List O}{s:Shared}
theorem T.wide {α β:Type}{t:Sem β}{m:M α}{rel}{X Y:List Addr}(k:∀ a∈X,a∈Y) (x:T B fr A L X t m rel ι σ s):T B fr A L Y t m rel ι σ s:=λ hb=>
 wpAny_mono (x hb) (λ _ _ ⟨a,σ',ι',h1,h2,h3,h4,h5⟩=>⟨a,σ',ι',h1,h2.wide k,h3,h4,h5⟩) λ _ _ ⟨a,b,σ',ι',h1,h2,h3,h4,h5⟩=>⟨a,b,σ',ι',h1,h2.wide k,h3,h4,h5⟩
structure NamesOk (B:Bs):Prop where
 main:B.g.Ns mainGlobals B.mg
 mb:∃ mb,B.g.Ns builtinsNs mb/\(∀ (x:Str) b,bnames.lookup x=some b->B.mg x=none/\mb x=some (bval b))
 glob:∀ (g:Nat) (x:Str),gnames[g]?=some x->∀ V,B.cx.gv g=some V->∃ v,B.mg x=some v/\Val B [] B.g V v
 words:B.mg "Words" = some (.ref B.KW)
 nt:QbT B B.g
noncomputable def KindEq (a b:Option NameKind):Prop:=a=b∨((a=some .cell∨a=some .free)/\(b=some .cell∨b=some .free))
noncomputable def ScRel (sc:Scope) (env:PySem.Env):Prop:=∀ x,Qaf env.scope x=Qaf sc x/\KindEq (kindOf env.scope x) (kindOf sc x)
theorem Qdw {l:List Str}{x:Str}{k:Nat}(h:Qcy l x=some k):l[k]?=some x:=by
 unfold Qcy at h
 have zq:=List.findIdx?_eq_some_iff_getElem.mp h
 refine (List.getElem?_eq_getElem zq.1).substr ?_
 simpa using zq.2.1
noncomputable def Qox (o:Option (Option V)):M V:=match o with | some (some v)=>M.ret v | _=>M.stuck
noncomputable def QoE (x:O):M V:=match x with | .cell (some v)=>M.ret v | _=>M.stuck
noncomputable def Qoy (o:Option (Option V)):M V:=match o with | some (some (.ref c))=>M.bind (getO c) QoE | _=>M.stuck
theorem Qd5 {sc:Scope}{x:Str}{P:CE->Prop}(h0:P .bad)
  (h:(x==("__debug__" : Str))=false->(x==("__classdict__" : Str))=false->And3 (∀ i,kindOf sc x=some .local->Qaf sc x=some i->P (.loc i))
   (∀ i,(kindOf sc x=some .cell∨kindOf sc x=some .free)->Qaf sc x=some i->P (.cel i)) (∀ g,kindOf sc x=some .globalImplicit->Qcy gnames x=some g->P (.glob g))):P (name? sc x):=by
 unfold name?
 split
 ·exact h0
 rename_i hd
 refine byK λ Pz kz=>?_;obtain ⟨d1,d2⟩:=Bool.or_eq_false_iff.mp (Bool.eq_false_iff.mpr hd)
 obtain ⟨k1,k2,k3⟩:=h d1 d2
 clear h hd d1 d2
 refine kz ?_;cases hk:kindOf sc x with
 | none=>exact h0
 | some k=>
  rw [hk] at k1 k2 k3
  clear hk;cases k with
  | «local»=>cases hl:Qaf sc x with | none=>exact h0 | some i=>exact k1 i rfl hl
  | cell=>cases hl:Qaf sc x with | none=>exact h0 | some i=>exact k2 i (.inl rfl) hl
  | free=>cases hl:Qaf sc x with | none=>exact h0 | some i=>exact k2 i (.inr rfl) hl
  | globalImplicit=>cases hl:Qcy gnames x with | none=>exact h0 | some i=>exact k3 i rfl hl
  | _=>exact h0
theorem KindEq.same {a b:Option NameKind}{k:NameKind}(h:KindEq a b) (e:b=some k) (n1:k≠.cell) (n2:k≠.free):a=some k:=by
 rcases h with h | ⟨_,h⟩
 ·exact h.trans e
 ·rcases h with h | h
  ·exact absurd (Option.some.inj (e.symm.trans h)) n1
  ·exact absurd (Option.some.inj (e.symm.trans h)) n2
theorem QjN (N:NamesOk B) {x:Str}{pos:Pos}{env:PySem.Env}{sc:Scope}{ρ:Env}{n k:Nat}{call:V->List V->M V}(S:ScRel sc env) (F:FrameRel B ι s.heap env ρ) (I:Inv B fr ι σ s.heap):
  T B fr A L X (eval (.Name x pos) env) (ev B.cx call (n+1) ρ (name? sc x)) (VR B) ι σ s:=by
 have zq:=S x
 refine Qd5 (P:=λ e=>T B fr A L X (eval (.Name x pos) env) (ev B.cx call (n+1) ρ e) (VR B) ι σ s) T.stuck λ hd1 hd2=>⟨λ i hk hi=>?_,λ i hk hi=>?_,λ g hk hg=>?_⟩
 ·have hk':=zq.2.same hk nofun nofun
  obtain ⟨m,hn,hm⟩:=F.ns
  have:=hm x i (zq.1▸hi) hk'
  revert this
  show _->T B fr A L X _ (Qox ρ[i]?) _ ι σ s
  cases ρ[i]? with
  | none=>exact λ _=>T.stuck
  | some w=>
   cases w with
   | none=>exact λ _=>T.stuck
   | some v=>
    intro this
    obtain ⟨u,h1,h2⟩:=this
    exact T.leaf I λ _=>⟨v,rfl,λ Q E kk=>wpAny_Name (wpAny_loadName_local F.kind hk' hn h1 (kk _ _ h2 rfl ⟨rfl,rfl,rfl⟩)) hd1⟩
 ·have hk':kindOf env.scope x=some .cell∨kindOf env.scope x=some .free:=by
   rcases zq.2 with h | ⟨h,_⟩
   ·refine h.substr ?_;exact hk
   ·exact h
  obtain ⟨c,ci,h1,h2,h3⟩:=F.cells x i (zq.1▸hi) hk'
  show T B fr A L X _ (Qoy ρ[i]?) _ ι σ s
  refine (h2).symm▸?_
  intro hb
  refine QaS (Qam hb) λ o e=>?_
  revert hb
  refine T.skip (QbA e) ?_
  cases o with
  | cell v=>
   cases v with
   | none=>exact T.stuck
   | some v=>
    refine byK λ Pz kz=>?_;obtain ⟨a,e1,ob,u,g1,g2,_,y,rfl,g3⟩:=I.get e
    refine kz ?_;cases h3.symm.trans e1
    refine T.leaf I λ _=>⟨v,rfl,λ Q E kk=>wpAny_Name ?_ hd1⟩
    rcases hk' with hk | hk
    ·exact wpAny_loadName_cell F.kind hk h1 ⟨ob,g1,g2⟩ (kk _ _ g3 rfl ⟨rfl,rfl,rfl⟩)
    ·exact wpAny_loadName_free F.kind hk h1 ⟨ob,g1,g2⟩ (kk _ _ g3 rfl ⟨rfl,rfl,rfl⟩) hd2
  | _=>exact T.stuck
 ·refine Qdz I λ V hV Q E kk=>?_
  obtain ⟨v,h1,h2⟩:=N.glob g x (Qdw hg) V hV
  refine Calls.Name_function_global F.kind (zq.2.same hk nofun nofun) (Calls.loadGlobal_global (mg:=B.mg) ?_ h1 (kk _ _ (Val.base I h2 N.nt) rfl ⟨rfl,rfl,rfl⟩)) hd1
  refine F.glob.substr ?_;exact N.main.keeps I.keep
theorem Qfy {x:Str}{env:PySem.Env}{sc:Scope}(S:ScRel sc env) (hk:kindOf sc x=some .globalImplicit):env.kindOf x=some .globalImplicit:=(S x).2.same hk nofun nofun
theorem Qhf (N:NamesOk B) {x:Str}{b:BI}{pos:Pos}{env:PySem.Env}{sc:Scope}{ρ:Env}(S:ScRel sc env) (F:FrameRel B ι s.heap env ρ) (I:Inv B fr ι σ s.heap) (hk:kindOf sc x=some .globalImplicit) (hb:bnames.lookup x=some b) (hd:(x==("__debug__" : Str))=false)
  (Q:Value->Shared->Prop) (E:Value->Shared->Prop) (h:Q (bval b) s):wpAny (model B.prog B.w) A (eval (.Name x pos) env) Q E s:=by
 refine byK λ Pz kz=>?_;obtain ⟨mb,h1,h2⟩:=N.mb
 refine kz ?_;refine Calls.Name_function_global F.kind (Qfy S hk) (Calls.loadGlobal_builtin (mg:=B.mg) (mb:=mb) ?_ (h2 x b hb).1 ?_ (h2 x b hb).2 h) hd
 ·refine F.glob.substr ?_;exact N.main.keeps I.keep
 ·refine F.blt.substr ?_;exact h1.keeps I.keep
theorem Qge (N:NamesOk B) {pos:Pos}{env:PySem.Env}{sc:Scope}{ρ:Env}(S:ScRel sc env) (F:FrameRel B ι s.heap env ρ) (I:Inv B fr ι σ s.heap) (hk:kindOf sc "Words" = some .globalImplicit)
  (Q:Value->Shared->Prop) (E:Value->Shared->Prop) (h:Q (.ref B.KW) s):wpAny (model B.prog B.w) A (eval (.Name "Words" pos) env) Q E s:=by
 refine Calls.Name_function_global F.kind (Qfy S hk) (Calls.loadGlobal_global (mg:=B.mg) ?_ N.words h) (by decide)
 refine F.glob.substr ?_;exact N.main.keeps I.keep
theorem QbN {env:PySem.Env}:∀ {l:List Expr},l.all QbW=true->starEach l env=l.map λ e=>(false,eval e env)
 | [],_=>rfl
 | e::r,h=>by
  simp only [List.all_cons,Bool.and_eq_true] at h
  simp only [List.map_cons,<- QbN h.2]
  cases e<;>first | rfl | exact nomatch h.1
theorem Qeq {pos:Pos}(l:List (Sem Value)):backTo pos (l.map λ t=>(false,t))=l.map λ t=>(false,t):=by
 unfold backTo
 refine List.map_map.substr ?_
 apply List.map_congr_left
 intro t _;rfl
theorem Qas {env:PySem.Env}{pos:Pos}{l:List Expr}(h:l.all QbW=true):backTo pos (starEach l env)=(l.map λ e=>eval e env).map λ t=>(false,t):=by
 refine (QbN h).substr ?_
 have:(l.map λ e=>((false,eval e env):Bool×Sem Value))=(l.map λ e=>eval e env).map λ t=>(false,t):=by simp only [List.map_map];rfl
 simp only [this,Qeq]
theorem QhX {cs:List CE}{f:CE->M V}:∀ {ts:List (Sem Value)}{ι:List Addr}{σ:List O}{s:Shared},ts.length=cs.length->Inv B fr ι σ s.heap →
  (∀ (i:Nat) t c,ts[i]?=some t->cs[i]?=some c->∀ ι' σ' s',Go B (frs fr) X ι s.heap ι' s'.heap->Inv B fr ι' σ' s'.heap->T B fr A L X t (f c) (VR B) ι' σ' s') →
  T B fr A L X (spliced (ts.map λ t=>(false,t))) (Qcr f cs) (λ ι h vs us=>Vals B ι h vs us) ι σ s:=by
 induction cs with
 | nil=>
  intro ts ι σ s hl I h
  cases ts with
  | cons=>contradiction
  | nil=>exact T.ret rfl I rfl
 | cons c cs ih=>
  intro ts ι σ s hl I h
  cases ts with
  | nil=>contradiction
  | cons t ts=>
   refine T.eq (t:=t >>= λ v=>holding [v] (spliced (ts.map λ t=>(false,t))) >>= λ vs=>pure (v::vs)) ?_ ?_
   ·
    rfl
   ·refine T.bind (h 0 t c rfl rfl ι σ s (.refl ..) I) λ v u ι₁ σ₁ s₁ _ g₁ I₁ r₁ _=>?_
    refine T.bind (T.hold<|ih (by simpa using hl) I₁ λ i t' c' h1 h2 ι' σ' s' g' I'=>h (i+1) t' c' (by exact h1) (by exact h2) ι' σ' s' (g₁.trans g') I') λ vs us ι₂ σ₂ s₂ _ g₂ I₂ r₂ _=>?_
    refine T.ret rfl I₂ ?_
    exact ⟨u,us,rfl,r₁.mono g₂ I₁.tabs.nt,r₂⟩
end
section
open PySem PySem.Calls PyProof.Rows
variable {B:Bs}{fr:List PySem.Env}{A:Around}{L:Addr}{X:List Addr}{ι:List Addr}{σ:List O}{s:Shared}
structure Amb (fr:List PySem.Env) (D U:Nat) (A:Around):Prop where
 hand:A.handled=none
 frames:A.frames=some fr
 depth:A.depth<=D
 units:A.units<=U
theorem Amb.room {D U:Nat}(x:Amb fr D U A) (h:U+100<cLine):Room A:=⟨x.hand,by have:=x.units;lia⟩
noncomputable def QnF (h:Heap) (u:Value):Prop:=Ex3 λ a o fd=>And3 (u=.ref a) (h.get? a=some o) (o.data=.func fd)
structure CallOk (B:Bs) (fr:List PySem.Env) (D U:Nat) (call:V->List V->M V):Prop where
 fn:∀ A L ι σ s v u vs us,Amb fr D U A->Inv B fr ι σ s.heap->Val B ι s.heap v u->Vals B ι s.heap vs us->call v vs σ≠.bad →
  QnF s.heap u/\T B fr A L [] (PySem.call u us []) (call v vs) (VR B) ι σ s
 new:∀ A L ι σ s y u,Amb fr D U A->Inv B fr ι σ s.heap->Val B ι s.heap y u->T B fr A L [] (PySem.call (.ref B.KW) [u] []) (mkW call [y]) (VR B) ι σ s
theorem Qcw {M:Model}{E:Value->Shared->Prop}{f:Value}{l:List (Sem Value)}{Q:Args->Shared->Prop}(h:wpAny M A (spliced (l.map λ t=>(false,t))) (λ vs s'=>Q ⟨vs,[]⟩ s') E s):
  wpAny M A (evalArgs f true (l.map λ t=>(false,t)) []) Q E s:=by
 cases l with
 | nil=>
  refine wpAny_bind (wpAny_mono h (λ vs s' h'=>?_) λ _ _ x=>x)
  refine wpAny_holding ?_
  exact wpAny_bind (wpAny_pure (wpAny_bind (wpAny_pure (wpAny_pure h'))))
 | cons t r=>exact Calls.evalArgs_plain h
theorem Qfz {M:Model}{u:Value}(h:Heap) (x:QnF h u):∃ k,(k=Keeper.frame∨k=Keeper.machine∨k=Keeper.boundFrame)/\W.Looks M h (keeperOf u) k:=by
 obtain ⟨a,o,fd,rfl,g,d⟩:=x
 refine ⟨.frame,.inl rfl,(W.Looks.ld (part:=none) g).andThen ?_⟩
 refine d.substr ?_;exact .now
theorem QaI {ts:List (Sem Value)}{cs:List CE}{f:CE->M V}{pos:Pos}{fv:Value}{first:List Value}{α:Type}{k:List V->M α}{rel:List Addr->Heap->α->Value->Prop}(P:Heap->Prop)
  (hP:∀ h,P h->∃ k,(k=Keeper.frame∨k=Keeper.machine∨k=Keeper.boundFrame)/\W.Looks (model B.prog B.w) h (keeperOf fv) k)
  (ha:T B fr A L X (spliced (ts.map λ t=>(false,t))) (Qcr f cs) (λ ι h vs us=>Vals B ι h vs us) ι σ s)
  (hk:∀ vs us ι' σ' s',Go B (frs fr) X ι s.heap ι' s'.heap->Inv B fr ι' σ' s'.heap->Vals B ι' s'.heap vs us->k vs σ'≠.bad->P s'.heap/\T B fr A L X (PySem.call fv (first++us) []) (k vs) rel ι' σ' s'):
  T B fr A L X (callWith pos fv first (ts.map λ t=>(false,t)) []) (M.bind (Qcr f cs) k) rel ι σ s:=by
 intro hb
 refine W.callWith_of (P:=P) ?_ hP (Qcw ?_)
 ·simp
 ·refine wpAny_mono (ha (Qam hb)) (λ us s' hq=>?_) λ e s' he=>?_
  ·obtain ⟨vs,σ',ι',hr,g,i,r,sm⟩:=hq
   rw [(show M.bind (Qcr f cs) k σ=k vs σ' from by unfold M.bind;refine hr.substr ?_;rfl)] at hb ⊢
   exact ⟨(hk vs us ι' σ' s' g i r hb).1,wpAny_mono ((hk vs us ι' σ' s' g i r hb).2 hb) (λ _ _ z=>TQ.up g sm rfl z) λ _ _ z=>TE.up g sm rfl z⟩
  ·exact TE.bind he
end
section
open PySem PySem.Calls PyProof.Rows
variable {B:Bs}{fr:List PySem.Env}{A:Around}{L:Addr}{X:List Addr}{ι:List Addr}{σ:List O}{s:Shared}
theorem T.cps {α β γ δ:Type}{t:Sem β}{t':Sem δ}{m:M α}{f:α->M γ}{rel:List Addr->Heap->α->β->Prop}{rel':List Addr->Heap->γ->δ->Prop}
  (ht:T B fr A L X t m rel ι σ s)
  (rule:∀ (Q:δ->Shared->Prop) (E:Value->Shared->Prop) (K:β->Shared->Prop),
   (∀ a v ι' σ' s',m σ=.ok a σ'->Go B (frs fr) X ι s.heap ι' s'.heap->Inv B fr ι' σ' s'.heap->rel ι' s'.heap a v->Same s s'->f a σ'≠.bad →
    (∀ w s'',TQ B fr X (f a σ') rel' ι' s' w s''->Q w s'')->(∀ w s'',TE B fr L X (f a σ') ι' s' w s''->E w s'')->K v s') →
   wpAny (model B.prog B.w) A t K E s->wpAny (model B.prog B.w) A t' Q E s):
  T B fr A L X t' (M.bind m f) rel' ι σ s:=by
 intro hb
 refine rule _ _ (TQ B fr X (m σ) rel ι s) (λ a v ι' σ' s' e g i r sm _ _ _=>⟨a,σ',ι',e,g,i,r,sm⟩) ?_
 exact wpAny_mono (ht (Qam hb)) (λ _ _ x=>x) λ _ _ e=>TE.bind e
end
section
open PySem PySem.Calls PyProof.Rows
variable {B:Bs}{fr:List PySem.Env}{A:Around}{L:Addr}{X:List Addr}{ι:List Addr}{σ:List O}{s:Shared}
theorem T.asRef {α β:Type}{t:Sem β}{v:V}{f:Nat->M α}{rel}(h:∀ i,v=.ref i->T B fr A L X t (f i) rel ι σ s):T B fr A L X t (M.bind (asRef v) f) rel ι σ s:=by
 cases v<;>first | exact T.stuck | exact T.skip (a:=_) rfl (h _ rfl)
theorem T.getL {α β:Type}{t:Sem β}{i:Nat}{f:List V->M α}{rel}(h:∀ l,σ[i]?=some (.list l)->T B fr A L X t (f l) rel ι σ s):T B fr A L X t (M.bind (getL i) f) rel ι σ s:=by
 intro hb
 refine QaH (Qam hb) λ l el=>?_
 exact T.skip (Qbo el) (h l el) hb
theorem T.getO {α β:Type}{t:Sem β}{i:Nat}{f:O->M α}{rel}(h:∀ o,σ[i]?=some o->T B fr A L X t (f o) rel ι σ s):T B fr A L X t (M.bind (getO i) f) rel ι σ s:=by
 intro hb
 refine QaS (Qam hb) λ o eo=>?_
 exact T.skip (QbA eo) (h o eo) hb
theorem T.getD {α β:Type}{t:Sem β}{i:Nat}{f:List (Nat×V)->M α}{rel}(h:∀ l,σ[i]?=some (.dict l)->T B fr A L X t (f l) rel ι σ s):T B fr A L X t (M.bind (getD i) f) rel ι σ s:=by
 have e:M.bind (Mine.getD i) f=M.bind (Mine.getO i) λ x=>M.bind (match x with | .dict l=>M.ret l | _=>M.stuck) f:=by
  funext σ;unfold Mine.getD M.bind;cases Mine.getO i σ<;>rfl
 refine e.substr ?_
 refine T.getO λ o eo=>?_
 cases o<;>first | exact T.stuck | exact T.skip (a:=_) rfl (h _ eo)
theorem Qg0 {i:Nat}{o:O}(h:i<σ.length):Qcg i o σ=.ok () (σ.set i o):=by exact if_pos h
theorem T.leafW {α β:Type}{t:Sem β}{m:M α}{rel:List Addr->Heap->α->β->Prop}{a:α}{σ':List O}(hm:m σ=.ok a σ')
  (h:∀ (Q:β->Shared->Prop) (E:Value->Shared->Prop),(∀ v s',Go B (frs fr) [] ι s.heap ι s'.heap->Inv B fr ι σ' s'.heap->rel ι s'.heap a v->Same s s'->Q v s')->wpAny (model B.prog B.w) A t Q E s):T B fr A L X t m rel ι σ s:=λ _=>
 h _ _ λ v s' g i r sm=>⟨a,σ',ι,hm,g.wide (by simp),i,r,sm⟩
theorem QdG {i:Nat}{a:Addr}{l':List V}{its:Array Value}{n:Nat}{f:Array Value->Array Value}(I:Inv B fr ι σ s.heap) (ea:ι[i]?=some a)
  (g:s.heap.get? a=some { cls:=.type "list", data:=.seq its n }) (hl:Vals B ι s.heap l' (f its).toList):
  Go B (frs fr) [] ι s.heap ι (s.heap.update a (Obj.mapSeq f))/\Inv B fr ι (σ.set i (.list l')) (s.heap.update a (Obj.mapSeq f)):=by
 have hg:∃ n',(s.heap.update a (Obj.mapSeq f)).get? a=some { cls:=.type "list", data:=.seq (f its) n' }:=by
  refine ⟨_,Heap.get?_update_self (Obj.mapSeq f) g rfl⟩
 obtain ⟨n',hg⟩:=hg
 have sb:Heap.SameBut a s.heap (s.heap.update a (Obj.mapSeq f)):=Heap.SameBut.update ..
 exact ⟨(Go.wrote ea sb ⟨_,hg⟩:Go B (frs fr) [] ι s.heap ι (s.heap.update a (Obj.mapSeq f))),I.wrote ea sb ⟨_,n',hg,hl.mono (Go.wrote ea sb ⟨_,hg⟩:Go B (frs fr) [] ι s.heap ι (s.heap.update a (Obj.mapSeq f))) I.tabs.nt⟩⟩
theorem Qc9 {its:Array Value}{n:Nat}{a:Addr}{v:Value}{Q:Value->Shared->Prop}{E:Value->Shared->Prop}(g:s.heap.get? a=some { cls:=.type "list", data:=.seq its n }) (hs:its.size<=sizeLine)
  (h:Q .none { s with heap:=s.heap.update a (Obj.mapSeq (·.push v)) }):wpAny (model B.prog B.w) A (call (.builtin "list.append") [.ref a,v]) Q E s:=by
 refine wpAny_call_entry slot_list_append (⟨_,g,rfl⟩:s.TypeIs (.ref a) "list") entry_list_append ?_ (args_list_append _ _)
 show wpAny _ _ (updateSeq a (·.push v) >>= λ _=>ret .none) _ _ s
 refine wpAny_bind ?_
 exact wpAny_updateSeq g rfl (wpAny_pure ⟨.none,rfl,h⟩)
theorem Qe0 {its its2:Array Value}{n n2:Nat}{a b:Addr}{Q:Value->Shared->Prop}{E:Value->Shared->Prop}(g:s.heap.get? a=some { cls:=.type "list", data:=.seq its n }) (g2:s.heap.get? b=some { cls:=.type "list", data:=.seq its2 n2 }) (hs:its.size+its2.size<=cap)
  (h:Q .none { s with heap:=s.heap.update a (Obj.mapSeq λ xs=>xs++its2) }):wpAny (model B.prog B.w) A (call (.builtin "list.extend") [.ref a,.ref b]) Q E s:=by
 have hc:its.size+its2.size<=1000000:=hs
 exact call_meets F.slot_list_extend ⟨_,g,rfl⟩ F.entry_list_extend (F.args_list_extend_2 _ _) (AutoSeq1.list_extend_list_list_0 a its n b its2 n2
  (by simp only [Builtin.List.listTooLong,sizeLine_eq,Bool.and_eq_true,decide_eq_true_eq];lia) (by refine sizeLine_eq.substr ?_;lia) (by refine sizeLine_eq.substr ?_;lia)) ⟨g,g2,h⟩
theorem Qnm {i:Nat}{a:Addr}{l0:List V}{vs:List V}{us:List Value}(e0:ι[i]?=some a) (I:Inv B fr ι σ s.heap) (hv:Vals B ι s.heap vs us):
  T B fr A L X (PySem.call (.builtin "list.append") ([.ref a]++us) []) (QjU i vs) (VR B) ι σ s:=by
 unfold QjU
 rcases vs with _ | ⟨y,_ | ⟨z,r⟩⟩
 ·exact T.stuck
 ·refine Qf0 hv ?_;rintro u rfl hx
  intro hb
  refine QaH (Qam hb) λ l el=>?_
  revert hb
  refine T.skip (Qbo el) ?_
  refine byK λ Pz kz=>?_;refine Qa3 I el (Qb2 e0) λ a' its n q e1 g f=>?_
  injection q with q;clear e1 hx;subst q
  have hl:=f.len
  simp only [Array.length_toList] at hl
  refine kz ?_;split
  ·rename_i hc
   refine T.leafW (a:=.none) (σ':=σ.set i (.list (l++_))) (by unfold M.bind;refine (Qg0 ((List.getElem?_eq_some_iff.mp el).1)).substr ?_;rfl) λ Q E k=>?_
   refine Qc9 g (by refine hl.substr ?_;exact Qa8 hc) ?_
   obtain ⟨go,I'⟩:=QdG (l':=l++[_]) (f:=(·.push u)) I e0 g (by
    simp only [Array.toList_push];exact f.app hv)
   exact k _ _ go I' (by rfl) ⟨rfl,rfl,rfl⟩
  ·exact T.stuck
 ·exact T.stuck
theorem Qni {i:Nat}{a:Addr}{vs:List V}{us:List Value}(e0:ι[i]?=some a) (I:Inv B fr ι σ s.heap) (hv:Vals B ι s.heap vs us):
  T B fr A L X (PySem.call (.builtin "list.extend") ([.ref a]++us) []) (QjT i vs) (VR B) ι σ s:=by
 rcases vs with _ | ⟨y,_ | ⟨z,r⟩⟩
 ·exact T.stuck
 ·cases y<;>first | exact T.stuck | skip
  refine Qf0 hv ?_;rintro u rfl hx
  intro hb
  refine QaH (Qam hb) λ l2 el2=>?_
  revert hb
  refine T.skip (Qbo el2) ?_
  intro hb
  refine QaH (Qam hb) λ l el=>?_
  revert hb
  refine T.skip (Qbo el) ?_
  refine byK λ Pz kz=>?_;refine Qa3 I el (Qb2 e0) λ a' its n q e1 g f=>?_
  injection q with q;subst q
  clear e1 hv;refine Qa3 I el2 hx ?_;rintro b its2 n2 rfl e2 g2 f2
  have hl:=f.len
  have hl2:=f2.len
  rw [Array.length_toList] at hl hl2
  refine kz ?_;split
  ·rename_i hc
   refine T.leafW (a:=.none) (σ':=σ.set i (.list (l++l2))) (by unfold M.bind;refine (Qg0 ((List.getElem?_eq_some_iff.mp el).1)).substr ?_;rfl) λ Q E k=>?_
   refine Qe0 g g2 (by refine hl.substr ?_;refine hl2.substr ?_;exact hc) ?_
   obtain ⟨go,I'⟩:=QdG (l':=l++l2) (f:=λ xs=>xs++its2) I e0 g (by
    simp only [Array.toList_append];exact f.app f2)
   exact k _ _ go I' (by rfl) ⟨rfl,rfl,rfl⟩
  ·exact T.stuck
 ·cases y<;>exact T.stuck
theorem Qbh {name:Str}{x:Str}{op apos pos:Pos}{env:PySem.Env}{ov f:Value}{first:List Value}{ts:List (Sem Value)}{n:Nat}(hl:(apos.endLine==pos.line)=true) (hn:n<28)
  (hm:∀ (pl:Sem Bool) (Q:Value×List Value->Shared->Prop) (E:Value->Shared->Prop),Q (f,first) s->wpAny (model B.prog B.w) A (getMethod ov name pl) Q E s)
  (Q:Value->Shared->Prop) (E:Value->Shared->Prop) (h:wpAny (model B.prog B.w) A (callWith pos f first (ts.map λ t=>(false,t)) []) Q E s):
  wpAny (model B.prog B.w) A (methodCall (.Name x op) name apos pos env ov n (ts.map λ t=>(false,t)) []) Q E s:=by
 have hform:methodCallForm n (ts.map λ t=>(false,t)) []=true:=by
  unfold methodCallForm
  simp;lia
 unfold methodCall
 refine hform.substr ?_
 refine wpAny_bind (wpAny_holding (hm _ _ _ ?_))
 exact wpAny_bind (wpAny_of_eq (by unfold methodCallPos;simp [hl]) h)
theorem Qgh {a:Addr}{its:Array Value}{n:Nat}(g:s.heap.get? a=some { cls:=.type "list", data:=.seq its n }) (pl:Sem Bool) (Q:Value×List Value->Shared->Prop) (E:Value->Shared->Prop)
  (h:Q (.builtin "list.append", [.ref a]) s):wpAny (model B.prog B.w) A (getMethod (.ref a) "append" pl) Q E s:=
 getMethod_builtin ⟨_,g,rfl⟩ F.plainAttrs_list slot_list_append rfl (λ b hb=>by injection hb with hb;subst hb;exact ⟨_,g,rfl⟩) h
theorem Qgg {a:Addr}{its:Array Value}{n:Nat}(g:s.heap.get? a=some { cls:=.type "list", data:=.seq its n }) (pl:Sem Bool) (Q:Value×List Value->Shared->Prop) (E:Value->Shared->Prop)
  (h:Q (.builtin "list.extend", [.ref a]) s):wpAny (model B.prog B.w) A (getMethod (.ref a) "extend" pl) Q E s:=
 getMethod_builtin ⟨_,g,rfl⟩ F.plainAttrs_list F.slot_list_extend rfl (λ b hb=>by injection hb with hb;subst hb;exact ⟨_,g,rfl⟩) h
theorem QiV {K:W.Frag}(C:ClsOk B K) (I:Inv B fr ι σ s.heap) {i j k:Nat}{l:List (Nat×V)}{u:Value}{nm:Str}(e:σ[i]?=some (.inst j)) (f:σ[j]?=some (.dict l)) (v:Val B ι s.heap (.ref i) u) (hk:mnames[k]?=some nm) {Z:Prop}(k0:∀ fa,B.fa (m0+k)=some fa->(∀ (pl:Sem Bool) (Q:Value×List Value->Shared->Prop) (E:Value->Shared->Prop),Q (.ref fa,[u]) s->wpAny (model B.prog B.w) A (getMethod u nm pl) Q E s)->Z):Z:=by
 refine QeJ I e f v ?_;rintro a d od es n rfl e1 e2 g1 g2 g3 g4 g5 g6 g7 IA
 obtain ⟨fa,h1,h2,h3⟩:=C.meth k nm hk
 refine k0 fa h2 (λ pl Q E h=>W.method_fn (C.X.keeps I.keep) IA C.ga C.gk h1 h3 ?_ h)
 show (W.lookIn nm od).map (·.isSome)=some false
 refine (QcY g3 g4).substr ?_;rw [g7 nm]
 ·rfl
 ·intro k' hk'
  have:∀ a∈mnames,a ∉ anames:=by decide +kernel
  exact this nm (List.mem_of_getElem? hk) (List.mem_of_getElem? hk')
end
section
open PySem PySem.Calls PyProof.Rows
variable {B:Bs}{fr:List PySem.Env}{A:Around}{L:Addr}{X:List Addr}{ι:List Addr}{σ:List O}{s:Shared}
theorem Qo9 (s:List Nat):∀ (c a:Nat),a+c<=s.length->((List.range c).map (a+·)).filterMap (λ i=>s[i]?)=(s.take (a+c)).drop a
 | 0,a,_=>by simp
 | c+1,a,h=>by
  refine List.range_succ_eq_map.substr ?_;refine List.map_cons.substr ?_;refine List.map_map.substr ?_;refine List.filterMap_cons.substr ?_
  refine ((show s[a+0]?=some (s[a]'(by lia)) from by simp)).substr ?_
  dsimp only
  have h2:(List.range c).map ((λ x=>a+x) ∘ Nat.succ)=(List.range c).map ((a+1)+·):=by
   apply List.map_congr_left;intro x _;lia
  simp only [h2,Qo9 s c (a+1) (by lia)]
  simp only [List.drop_eq_getElem_cons (show a<(s.take (a+(c+1))).length from by simp_all)]
  congr 1
  ·simp
  ·congr 2;lia
noncomputable def loN (a:Option Int):Nat:=match a with | some i=>i.toNat | none=>0
noncomputable def hiN (b:Option Int) (n:Nat):Nat:=match b with | some i=>i.toNat | none=>n
theorem QeP (p q:Nat):sliceRange (p:Int) (q:Int) 1=(List.range (q - p)).map (p+·):=by
 unfold sliceRange
 refine (if_pos (by decide)).substr ?_
 dsimp only
 refine ((show (if (p:Int)<(q:Int) then ((q:Int) - (p:Int)+1 - 1) / 1 else 0).toNat=q - p from by split<;>lia)).substr ?_
 apply List.map_congr_left
 intro x _
 lia
theorem QcD (i:Int) (n:Nat) (h:0<=i):max (0:Int) (min (if i<0 then i+(n:Int) else i) (n:Int))=((min i.toNat n:Nat):Int):=by
 refine (if_neg (by simp_all)).substr ?_;lia
theorem Qce {a b:Option Int}{n:Nat}(ha:∀ i,a=some i->0<=i) (hb:∀ i,b=some i->0<=i):
  Builtin.Str.strSliceIndices a b 1 n=(List.range (min (hiN b n) n - min (loN a) n)).map (min (loN a) n+·):=by
 rw [<- QeP]
 unfold Builtin.Str.strSliceIndices
 cases a with
 | none=>
  cases b with
  | none=>
   simp only [if_pos (show (1:Int) > 0 by decide),loN,hiN]
   congr 1<;>lia
  | some j=>
   refine ((QcD j n (hb j rfl)).symm).substr ?_
   congr 1<;>lia
 | some i=>
  cases b with
  | none=>
   simp only [if_pos (show (1:Int) > 0 by decide),loN,hiN]
   refine (QcD i n (ha i rfl)).substr ?_
   congr 1<;>lia
  | some j=>
   simp only [if_pos (show (1:Int) > 0 by decide),loN,hiN]
   simp only [QcD i n (ha i rfl),QcD j n (hb j rfl)]
theorem Qf6 {x:List Nat}{t:Tok}{l u:Option (Int×Tok)}(hl:∀ i,l.map (·.1)=some i->0<=i) (hu:∀ i,u.map (·.1)=some i->0<=i) {Q:Value->Shared->Prop}{s:Shared}(hc:(QaG x (l.map (·.1)) (u.map (·.1))).length<=cap)
  (h:∀ t k,Q (.str ⟨(QaG x (l.map (·.1)) (u.map (·.1))).toArray⟩ t) { s with toks:=k }):(sliceMade ⟨x.toArray⟩ t l u none).post Q s:=by
 have hp:(slicePicked ⟨x.toArray⟩ l u none).filterMap ((⟨x.toArray⟩:Str).cps[·]?)=QaG x (l.map (·.1)) (u.map (·.1)):=by
  show (Builtin.Str.strSliceIndices (l.map (·.1)) (u.map (·.1)) 1 (⟨x.toArray⟩:Str).length).filterMap _=_
  simp only [Qce hl hu,QjV]
  have:(λ i=>(⟨x.toArray⟩:Str).cps[i]?)=λ i:Nat=>x[i]?:=by funext i;simp
  refine this.substr ?_
  by_cases q:min (loN (l.map (·.1))) x.length<=min (hiN (u.map (·.1)) x.length) x.length
  ·refine (Qo9 x _ _ (by lia)).substr ?_
   show _=(x.take (hiN (u.map (·.1)) x.length)).drop (loN (l.map (·.1)))
   refine (Nat.add_sub_cancel' q).substr ?_
   refine (List.take_eq_take_min (i:=hiN (u.map (·.1)) x.length))▸?_
   by_cases q2:loN (l.map (·.1))<=x.length
   ·refine (Nat.min_eq_left q2).substr ?_;rfl
   ·skip
    refine (List.drop_eq_nil_of_le (by simp;lia)).substr ?_;refine (List.drop_eq_nil_of_le (by simp;lia)).substr ?_;rfl
  ·skip
   refine ((show min (hiN (u.map (·.1)) x.length) x.length - min (loN (l.map (·.1))) x.length=0 from by lia)).substr ?_
   show _=(x.take (hiN (u.map (·.1)) x.length)).drop (loN (l.map (·.1)))
   refine (List.drop_eq_nil_of_le (by refine List.length_take.substr ?_;lia)).substr ?_
   rfl
 refine post_val_or_made (λ _=>?_) λ t' k=>?_
 ·refine hp.substr ?_;exact Qa8 hc
 ·have e:(if ((Option.map (λ x=>x.fst) (none:Option (Int×Tok))).getD 1==1&&(slicePicked ⟨x.toArray⟩ l u none).length==(⟨x.toArray⟩:Str).length)=true then (⟨x.toArray⟩:Str) else ⟨((slicePicked ⟨x.toArray⟩ l u none).filterMap ((⟨x.toArray⟩:Str).cps[·]?)).toArray⟩)=⟨(QaG x (l.map (·.1)) (u.map (·.1))).toArray⟩:=by
   split
   ·rename_i q
    simp only [Bool.and_eq_true,beq_iff_eq] at q
    have q2:=q.2
    have q3:(Builtin.Str.strSliceIndices (l.map (·.1)) (u.map (·.1)) 1 (⟨x.toArray⟩:Str).length).length=(⟨x.toArray⟩:Str).length:=q2
    simp only [Qce hl hu,QjV,List.length_map,List.length_range] at q3
    have e1:QaG x (l.map (·.1)) (u.map (·.1))=x:=by
     show (x.take (hiN (u.map (·.1)) x.length)).drop (loN (l.map (·.1)))=x
     by_cases z:x.length=0
     ·have:x=[]:=List.eq_nil_of_length_eq_zero z
      clear z q3 q2 q hc hu hl;subst this;simp
     ·skip
      refine ((show loN (l.map (·.1))=0 from by omega)).substr ?_;refine List.drop_zero.substr ?_;refine (List.take_of_length_le (by lia)).substr ?_;rfl
    refine e1.substr ?_;rfl
   ·refine hp.substr ?_;rfl
  refine e.substr ?_;exact h t' k
theorem T.use {α β:Type}{t:Sem β}{m:M α}{rel:List Addr->Heap->α->β->Prop}{Q:β->Shared->Prop}{E:Value->Shared->Prop}(x:T B fr A L X t m rel ι σ s) (hb:m σ≠.bad)
  (hQ:∀ a v ι' σ' s',m σ=.ok a σ'->Go B (frs fr) X ι s.heap ι' s'.heap->Inv B fr ι' σ' s'.heap->rel ι' s'.heap a v->Same s s'->Q v s') (hE:∀ v s',TE B fr L X (m σ) ι s v s'->E v s'):wpAny (model B.prog B.w) A t Q E s:=
 wpAny_mono (x hb) (λ _ _ ⟨a,σ',ι',h1,h2,h3,h4,h5⟩=>hQ a _ ι' σ' _ h1 h2 h3 h4 h5) λ _ _ e=>hE _ _ e
theorem T.qe {α β:Type}{t:Sem β}{m:M α}{rel:List Addr->Heap->α->β->Prop}
  (h:∀ (Q:β->Shared->Prop) (E:Value->Shared->Prop),(∀ a v ι' σ' s',m σ=.ok a σ'->Go B (frs fr) X ι s.heap ι' s'.heap->Inv B fr ι' σ' s'.heap->rel ι' s'.heap a v->Same s s'->Q v s')->(∀ v s',TE B fr L X (m σ) ι s v s'->E v s')->m σ≠.bad->wpAny (model B.prog B.w) A t Q E s):
  T B fr A L X t m rel ι σ s:=λ hb=>h _ _ (λ a _ ι' σ' _ h1 h2 h3 h4 h5=>⟨a,σ',ι',h1,h2,h3,h4,h5⟩) (λ _ _ x=>x) hb
noncomputable def QjO (a:Option Int) (v:Value):Prop:=∃ p:Option (Int×Tok),And3 (v=partValue p) (p.map (·.1)=a) (∀ i,a=some i->0<=i)
theorem QjK {e:Option Expr}{env:PySem.Env}{f:Expr->CE}{g:CE->M V}(I:Inv B fr ι σ s.heap) (h:∀ x,e=some x->T B fr A L X (eval x env) (g (f x)) (VR B) ι σ s):
  T B fr A L X (evalPart e env) (Qgs g (e.map f)) (λ _ _ a v=>QjO a v) ι σ s:=by
 cases e with
 | none=>exact T.ret (a:=none) rfl I ⟨none,rfl,rfl,λ _ h=>by contradiction⟩
 | some x=>
  show T B fr A L X (eval x env) (M.bind (g (f x)) λ v=>M.bind (asI v) λ i=>if 0<=i then M.ret (some i) else M.stuck) _ ι σ s
  have:=T.bind (k:=λ v=>(pure v:Sem Value)) (f:=λ v=>M.bind (asI v) λ i=>if 0<=i then M.ret (some i) else M.stuck) (rel':=λ _ _ a v=>QjO a v) (h x rfl) λ a v ι' σ' s' _ g' I' r _=>by
   cases a<;>first | exact T.stuck | skip
   obtain ⟨t,rfl⟩:=r
   refine T.skip (a:=_) rfl ?_
   split
   ·rename_i q
    exact T.ret (a:=some _) rfl I' ⟨some (_,t),rfl,rfl,λ j hj=>by obtain rfl:=Option.some.inj hj;exact q⟩
   ·exact T.stuck
  refine T.eq ?_ this
  simp only [bind_pure]
noncomputable def Qqe (g:CE->M V) (f:Expr->CE) (lower upper:Option Expr):M (Option Int×Option Int):=M.bind (Qgs g (lower.map f)) λ a=>M.bind (Qgs g (upper.map f)) λ b=>M.ret (a,b)
set_option tactic.hygienic true in
theorem Qgb {α:Type}(x:M (Option Int)) (y:M (Option Int)) (k:Option Int->Option Int->M α):(M.bind x λ a=>M.bind y λ b=>k a b)=M.bind (M.bind x λ a=>M.bind y λ b=>M.ret (a,b)) λ p=>k p.1 p.2:=by
 funext σ
 unfold M.bind M.ret
 cases x σ<;>try rfl
 dsimp only
 rename_i a σ'
 cases y σ'<;>rfl
theorem Qgm {value:Expr}{lower upper:Option Expr}{p pos:Pos}{env:PySem.Env}{f:Expr->CE}{g:CE->M V}
  (hg:∀ e ι' σ' s',Go B (frs fr) X ι s.heap ι' s'.heap->Inv B fr ι' σ' s'.heap->T B fr A L X (eval e env) (g (f e)) (VR B) ι' σ' s') (I:Inv B fr ι σ s.heap):
  T B fr A L X (eval (.Subscript value (.Slice lower upper none p) pos) env) (M.bind (g (f value)) λ v=>M.bind (Qgs g (lower.map f)) λ a=>M.bind (Qgs g (upper.map f)) λ b=>match v with
   | .str s=>mkS (QaG s a b)
   | _=>M.stuck) (VR B) ι σ s:=by
 refine T.bind (hg value ι σ s (.refl ..) I) λ v o ι₁ σ₁ s₁ _ g₁ I₁ r₁ _=>?_
 rw [Qgb]
 have hL:eval (.Slice lower upper none p) env=(do let l <- evalPart lower env;let u <- holding [l] (evalPart upper env);let s <- holding [l,u] (evalPart none env);newFields "slice" [l,u,s]):=by
  cases lower<;>cases upper<;>rfl
 refine T.bind (rel:=λ _ h p iv=>Ex3 λ (sl:Addr) (l u:Option (Int×Tok))=>And6 (iv=.ref sl) (h.IsSlice sl l u none) (l.map (·.1)=p.1) (u.map (·.1)=p.2) ((∀ i,p.1=some i->0<=i)) ((∀ i,p.2=some i->0<=i))) (T.hold ?_) λ pr iv ι₂ σ₂ s₂ _ g₂ I₂ r₂ _=>?_
 ·skip
  refine T.bind (QjK I₁ λ x _=>hg x ι₁ σ₁ s₁ g₁ I₁) λ a vl ι₂ σ₂ s₂ _ g₂ I₂ r₂ _=>?_
  refine T.bind (T.hold (QjK I₂ λ x _=>hg x ι₂ σ₂ s₂ (g₁.trans g₂) I₂)) λ b vu ι₃ σ₃ s₃ _ g₃ I₃ r₃ _=>?_
  obtain ⟨l,rfl,h1,h2⟩:=r₂
  obtain ⟨u,rfl,h3,h4⟩:=r₃
  refine T.leafX I₃ λ _=>⟨_,rfl,λ Q E k=>wpAny_bind (wpAny_holding (wpAny_pure (wpAny_newObj_type (k _ _ (λ b o e=>Heap.get?_push_of_some _ e) ⟨_,l,u,rfl,⟨_,Heap.get?_push_size _ rfl,rfl,rfl⟩,h1,h3,h2,h4⟩ ⟨rfl,rfl,rfl⟩))))⟩
 ·refine T.at ?_
  have r₁':=r₁.mono g₂ I₁.tabs.nt
  obtain ⟨sl,l,u,rfl,hs,h1,h2,h3,h4⟩:=r₂
  obtain ⟨pa,pb⟩:=pr
  subst h1;subst h2
  cases v with
  | str x=>
   clear r₁ g₂ hL I₁ g₁ I hg;obtain ⟨t,rfl⟩:=r₁'
   dsimp only
   unfold mkS
   by_cases hc:(QaG x (Option.map (λ x=>x.fst) l) (Option.map (λ x=>x.fst) u)).length<=cap
   ·refine (if_pos hc).substr ?_
    refine T.leaf I₂ λ _=>⟨_,rfl,λ Q E k=>?_⟩
    refine wpAny_bind ?_
    refine wpAny_bind (wpAny_specialOf (typeIs_str s₂ ⟨x.toArray⟩ t) F.slot_str_getitem.lookup ?_)
    refine wpAny_pure ?_
    refine wpAny_bind (wpAny_operateT (wpAny_getItem_str_slice hs rfl (Qf6 h3 h4 hc λ t' k'=>?_)))
    refine wpAny_bind (wpAny_letTemporaryGo (wpAny_pure (k _ _ QdV rfl ⟨rfl,rfl,rfl⟩)))
   ·refine (if_neg hc).substr ?_;exact T.stuck
  | _=>exact T.stuck
end
section
open PySem PySem.Calls PyProof.Rows
variable {B:Bs}{fr:List PySem.Env}{A:Around}{L:Addr}{X:List Addr}{ι:List Addr}{σ:List O}{s:Shared}
noncomputable def Qcu (B:Bs) (env:PySem.Env):Prop:=Ex2 λ c P=>And3 (env.code=.ref c) ((c,P)∈B.tabs) (B.tq P=env.qual++("<lambda>" : Str))
noncomputable def QpZ (B:Bs) (fr:List PySem.Env) (D U:Nat) (call:V->List V->M V) (n:Nat) (p:Expr->Prop):Prop:=
 ∀ (A:Around) (L:Addr) (k:Nat) (b:Bool) (sc:Scope) (env:PySem.Env) (e:Expr) (ρ:Env) (ι:List Addr) (σ:List O) (s:Shared),p e →
  Amb fr D U { A with units:=A.units+8 * n }->ScRel sc env->(b=true->Qcu B env)->FrameRel B ι s.heap env ρ->Inv B fr ι σ s.heap →
  T B fr A L [] (eval e env) (ev B.cx call n ρ (comp k b sc e)) (VR B) ι σ s
noncomputable abbrev Qgp (B:Bs) (fr:List PySem.Env) (D U:Nat) (call:V->List V->M V) (n:Nat):Prop:=QpZ B fr D U call n λ _=>True
noncomputable def Qh7 (B:Bs) (fr:List PySem.Env) (D U:Nat) (call:V->List V->M V) (n:Nat):Prop:=
 ∀ (A:Around) (L:Addr) (k:Nat) (b:Bool) (sc:Scope) (env:PySem.Env) (e:Expr) (ρ:Env) (ι:List Addr) (σ:List O) (s:Shared),
  Amb fr D U { A with units:=A.units+8 * n }->ScRel sc env->(b=true->Qcu B env)->FrameRel B ι s.heap env ρ->Inv B fr ι σ s.heap →
  T B fr A L [] (isTrue e env (eval e env)) (tr B.cx call n ρ (comp k b sc e)) (λ _ _ b c=>b=c) ι σ s
theorem Amb.of {D U n:Nat}(x:Amb fr D U { A with units:=A.units+n }):Amb fr D U A:=⟨x.hand,x.frames,x.depth,by have:=x.units;clear x;simp only at this;lia⟩
theorem Amb.le {D U n m:Nat}(x:Amb fr D U { A with units:=A.units+n }) (h:m<=n):Amb fr D U { A with units:=A.units+m }:=⟨x.hand,x.frames,x.depth,by have:=x.units;clear x;simp only at this ⊢;lia⟩
theorem QcR {x:V}{v:Value}(I:Inv B fr ι σ s.heap) (hx:Val B ι s.heap x v):T B fr A L X (truthy v) (truth x) (λ _ _ b c=>b=c) ι σ s:=by
 cases x with
 | bool b=>
  obtain rfl:v=_:=hx
  exact T.leaf I λ _=>⟨_,rfl,λ Q E k=>wpAny_truthy_bool (k _ _ rfl rfl ⟨rfl,rfl,rfl⟩)⟩
 | int i=>
  obtain ⟨t,rfl⟩:=hx
  exact T.leaf I λ _=>⟨_,rfl,λ Q E k=>truthy_int (k _ _ (by by_cases h:i=0<;>simp [h]) rfl ⟨rfl,rfl,rfl⟩)⟩
 | _=>exact T.stuck
theorem Qav {l:List Expr}(h:QaB l=true):l.all QbW=true/\l.length<28:=by
 unfold QaB at h
 rw [Bool.and_eq_true,decide_eq_true_eq] at h
 exact h
theorem QbM {D U:Nat}{call:V->List V->M V}(n:Nat) (ih:Qgp B fr D U call n) {L:Addr}{k:Nat}{b:Bool}{sc:Scope}{env:PySem.Env}{l:List Expr}{ρ:Env}{ι:List Addr}{σ:List O}{s:Shared}{A:Around}
  (am:Amb fr D U { A with units:=A.units+8 * n }) (S:ScRel sc env) (hb:b=true->Qcu B env) (F:FrameRel B ι s.heap env ρ) (I:Inv B fr ι σ s.heap):
  T B fr A L [] (spliced ((l.map λ e=>eval e env).map λ t=>(false,t))) (Qcr (ev B.cx call n ρ) (l.map (comp k b sc))) (λ ι h vs us=>Vals B ι h vs us) ι σ s:=by
 refine QhX (by simp) I λ i t c h1 h2 ι' σ' s' g I'=>?_
 rw [List.getElem?_map] at h1 h2
 cases q:l[i]? with
 | none=>rw [q] at h1;contradiction
 | some e=>
  rw [q] at h1 h2;obtain rfl:=Option.some.inj h1;obtain rfl:=Option.some.inj h2
  exact ih A L k b sc env e ρ ι' σ' s' trivial am S hb (F.mono g I.tabs.nt (by simp)) I'
theorem Qd6 {op:CmpOp}{e:Expr}{t:Sem Value}(h:QbS e=false):markedEach [op] [e] [t]=[t]:=by
 have:behindInMarks op e=false:=by
  cases e<;>first | rfl | contradiction
 simp only [markedEach,markedBehindIn,this]
theorem Qfk {h:Heap}{vs:List V}{us:List Value}(hv:Vals B ι h vs us) (hc:vs.length<=cap):us.length<=sizeLine:=by
 refine hv.len.substr ?_;exact Qa8 hc
theorem QgT {op:BoolOp}{D U:Nat}{call:V->List V->M V}(n:Nat) (ih:Qgp B fr D U call n) {L:Addr}{k:Nat}{b:Bool}{sc:Scope}{env:PySem.Env}{pos:Pos}{ρ:Env}{A:Around}
  (am:Amb fr D U { A with units:=A.units+8 * n }) (S:ScRel sc env) (hb:b=true->Qcu B env):∀ (l:List Expr) {ι:List Addr}{σ:List O}{s:Shared},FrameRel B ι s.heap env ρ->Inv B fr ι σ s.heap →
  T B fr A L [] (boolOp pos op (evalEach l env)) ((match op with | .And=>QlA | .Or=>orE) (ev B.cx call n ρ) (l.map (comp k b sc))) (VR B) ι σ s
 | [],_,_,_,F,I=>by cases op<;>exact T.stuck
 | [e],_,_,_,F,I=>by
  cases op<;>exact ih A L k b sc env e ρ _ _ _ trivial am S hb F I
 | e::e'::r,ι,σ,s,F,I=>by
  have tail:=λ {ι σ s}=>@QgT op D U call n ih L k b sc env pos ρ A am S hb (e'::r) ι σ s
  have e1:boolOp pos op (evalEach (e::e'::r) env)=(do
    let v <- eval e env
    standAt pos
    let t <- holding [v] (truthy v)
    match op,t with
    | .And,false | .Or,true=>pure v
    | _,_=>boolOp pos op (evalEach (e'::r) env)):=rfl
  clear e1;cases op
  ·skip
   refine T.bind (ih A L k b sc env e ρ ι σ s trivial am S hb F I) λ x v ι₁ σ₁ s₁ _ g₁ I₁ r₁ _=>T.at ?_
   refine T.bind (T.hold (QcR I₁ r₁)) λ c t ι₂ σ₂ s₂ _ g₂ I₂ r₂ _=>?_
   subst r₂
   cases c
   ·exact T.ret rfl I₂ (r₁.mono g₂ I₁.tabs.nt)
   ·exact tail (F.mono (g₁.trans g₂) I.tabs.nt (by simp)) I₂
  ·skip
   refine T.bind (ih A L k b sc env e ρ ι σ s trivial am S hb F I) λ x v ι₁ σ₁ s₁ _ g₁ I₁ r₁ _=>T.at ?_
   refine T.bind (T.hold (QcR I₁ r₁)) λ c t ι₂ σ₂ s₂ _ g₂ I₂ r₂ _=>?_
   subst r₂
   cases c
   ·exact tail (F.mono (g₁.trans g₂) I.tabs.nt (by simp)) I₂
   ·exact T.ret rfl I₂ (r₁.mono g₂ I₁.tabs.nt)
theorem Qd7 {M:Model}{b:BI}(h:Heap) (_:True):∃ k,(k=Keeper.frame∨k=Keeper.machine∨k=Keeper.boundFrame)/\W.Looks M h (keeperOf (bval b)) k:=
 ⟨.machine,.inr (.inl rfl),by cases b<;>exact .now⟩
theorem QdH {M:Model}{i:String}(h:Heap) (_:True):∃ k,(k=Keeper.frame∨k=Keeper.machine∨k=Keeper.boundFrame)/\W.Looks M h (keeperOf (.builtin i)) k:=
 ⟨.machine,.inr (.inl rfl),.now⟩
end
section
open PySem PySem.Calls PyProof.Rows
variable {B:Bs}{fr:List PySem.Env}
theorem Qlh {A:Around}{L:Addr}{X:List Addr}{ι:List Addr}{σ:List O}{s:Shared}{v:Const}{x:V}{env:PySem.Env}(h:constOf v=some x) (I:Inv B fr ι σ s.heap):
  T B fr A L X (constValue env v) (M.ret x) (VR B) ι σ s:=by
 cases v with
 | none=>obtain rfl:=Option.some.inj h;exact T.ret rfl I rfl
 | bool b=>obtain rfl:=Option.some.inj h;exact T.ret rfl I rfl
 | int i=>cases h;exact T.leaf I λ _=>⟨_,rfl,λ Q E k=>wpAny_mkInt (k _ _ Qe6 rfl ⟨rfl,rfl,rfl⟩)⟩
 | str t=>cases h;exact T.leaf I λ _=>⟨_,rfl,λ Q E k=>wpAny_mkText (k _ _ QdV rfl ⟨rfl,rfl,rfl⟩)⟩
 | _=>exact nomatch h
theorem QoW:bnames.lookup ("__debug__" : Str)=none:=by decide +kernel
theorem QoJ {A:Around}{L:Addr}{X:List Addr}{ι:List Addr}{σ:List O}{s:Shared}{x:V}{v:Value}(I:Inv B fr ι σ s.heap) (hx:Val B ι s.heap x v):
  T B fr A L X (unaryOp .Not v) (M.bind (truth x) λ b=>M.ret (.bool (!b))) (VR B) ι σ s:=by
 intro hb
 refine not_of (T.use (QcR (A:=A) (L:=L) (X:=X) I hx) (Qam hb) (λ a c ι' σ' s' e g i r sm=>?_) λ v s' e=>TE.bind e)
 subst r
 exact ⟨.bool (!a),σ',ι',Qan e,g,i,QgY,sm⟩
theorem Qef {k:Nat}{b:Bool}{sc:Scope}{P:Expr->CE->Prop}
  (h1:∀ v kk p,P (.Constant v kk p) (match constOf v with | some v=>.k v | none=>.bad))
  (h2:∀ x p,P (.Name x p) (name? sc x))
  (h3:∀ a op r p,P (.BinOp a op r p) (match op2 op with | some op=>.bin op (comp k b sc a) (comp k b sc r) | none=>.bad))
  (h4:∀ op a p,P (.UnaryOp op a p) (cU (comp k b sc) op a))
  (h5:∀ a ops rs p,P (.Compare a ops rs p) (QnY (comp k b sc) a ops rs))
  (h6:∀ op l p,P (.BoolOp op l p) (Qkb (comp k b sc) op l))
  (h7:∀ t a r p,P (.IfExp t a r p) (.ite (comp k b sc t) (comp k b sc a) (comp k b sc r)))
  (h8:∀ l kk p,P (.Tuple l kk p) (if QaB l then .tup (l.map (comp k b sc)) else .bad))
  (h9:∀ l p,P (.List l p) (if QaB l then .lst (l.map (comp k b sc)) else .bad))
  (h10:∀ f args ks p,P (.Call f args ks p) (QgC (comp k b sc) sc f args ks p))
  (h11:∀ o a p,P (.Attribute o a p) (Qik (comp k b sc) o a))
  (h12:∀ o i p,P (.Subscript o i p) (QnC (comp k b sc) o i))
  (h13:∀ ps body s p,P (.Lambda ps body s p) (Qlx (comp k false) b sc ps body s))
  (h14:∀ elt gens s p,P (.ListComp elt gens s p) (cLC (comp k b sc) (comp k false) sc elt gens s))
  (h15:∀ e,P e .bad):∀ e,P e (comp (k+1) b sc e):=by
 intro e
 cases e<;>first
  | exact h15 _
  | exact h1 _ _ _ | exact h2 _ _ | exact h3 _ _ _ _ | exact h4 _ _ _ | exact h5 _ _ _ _ | exact h6 _ _ _ | exact h7 _ _ _ _ | exact h8 _ _ _ | exact h9 _ _
  | exact h10 _ _ _ _ | exact h11 _ _ _ | exact h12 _ _ _ | exact h13 _ _ _ _ | exact h14 _ _ _ _
theorem Qht {c:Expr->CE}{op:UnaryOp}{a:Expr}{P:UnaryOp->Expr->CE->Prop}(h0:∀ op a,P op a .bad) (h1:P .Not a (.not (c a))) (h2:∀ i k p,P .USub (.Constant (.int i) k p) (.k (.int (-i)))):P op a (cU c op a):=by
 cases op with
 | Not=>exact h1
 | USub=>
  show P .USub a (match Qln a with | some q=>(match q.1 with | .int i=>.k (.int (-i)) | _=>.bad) | none=>.bad)
  cases hq:Qln a with
  | none=>exact h0 _ _
  | some q=>
   refine (QkI hq).substr ?_
   obtain ⟨v,k,p⟩:=q
   clear hq h1;cases v with
   | int i=>exact h2 i k p
   | _=>exact h0 _ _
 | _=>exact h0 _ _
theorem QfK {c:Expr->CE}{sc:Scope}{f:Str}{p:Pos}{args:List Expr}{P:Str->List Expr->CE->Prop}(h0:∀ f args,P f args .bad) (h1:∀ x,kindOf sc "Words" = some .globalImplicit->QaB [x]=true->P "Words" [x] (.mkw (c x)))
  (h2:∀ b,kindOf sc f=some .globalImplicit->QaB args=true->bnames.lookup f=some b->P f args (.bi b (args.map c))) (h3:QaB args=true->P f args (.call (c (.Name f p)) (args.map c))):P f args (cCN c sc f p args):=by
 unfold cCN
 cases hn:QaB args with
 | false=>exact h0 _ _
 | true=>
  by_cases hk:kindOf sc f=some .globalImplicit
  ·refine (decide_eq_true hk).substr ?_;refine (if_pos hk).substr ?_
   by_cases hw:f = "Words"
   ·subst hw
    cases args with
    | nil=>exact h0 _ _
    | cons x r=>cases r with
     | nil=>exact h1 x hk hn
     | cons=>exact h0 _ _
   ·refine (beq_eq_false_iff_ne.mpr hw).symm▸?_
    cases hb:bnames.lookup f with
    | none=>exact h3 hn
    | some b=>exact h2 b hk hn hb
  ·refine (decide_eq_false hk).substr ?_;refine (if_neg hk).substr ?_
   exact h3 hn
theorem QfL {c:Expr->CE}{o m:Str}{op ap p:Pos}{args:List Expr}{P:Str->List Expr->CE->Prop}(h0:∀ m args,P m args .bad) (h:(ap.endLine==p.line)=true->QaB args=true->And3 (∀ x,QaB [x]=true->P "append" [x] (.app (c (.Name o op)) (c x)))
   (∀ x,QaB [x]=true->P "extend" [x] (.ext (c (.Name o op)) (c x))) (∀ f,Qcy mnames m=some f->P m args (.meth (c (.Name o op)) (m0+f) (args.map c)))):P m args (cCA c o op m ap args p):=by
 unfold cCA
 cases hn:QaB args with
 | false=>exact h0 _ _
 | true=>
  cases hl:(ap.endLine==p.line) with
  | false=>exact h0 _ _
  | true=>
   obtain ⟨h1,h2,h3⟩:=h hl hn
   by_cases ha:m = "append"
   ·refine (beq_iff_eq.mpr ha).substr ?_
    cases args with
    | nil=>exact h0 _ _
    | cons x r=>cases r with
     | nil=>exact ha.substr (h1 x hn)
     | cons=>exact h0 _ _
   ·refine (beq_eq_false_iff_ne.mpr ha).substr ?_
    by_cases hx:m = "extend"
    ·refine (beq_iff_eq.mpr hx).substr ?_
     cases args with
     | nil=>exact h0 _ _
     | cons x r=>clear h ha h1 hl;cases r with
      | nil=>exact hx.substr (h2 x hn)
      | cons=>exact h0 _ _
    ·refine (beq_eq_false_iff_ne.mpr hx).substr ?_
     cases hf:Qcy mnames m with
     | none=>exact h0 _ _
     | some f=>exact h3 f hf
theorem Qeh {c:Expr->CE}{a:Expr}{ops:List CmpOp}{rs:List Expr}{P:List CmpOp->List Expr->CE->Prop}(h0:∀ ops rs,P ops rs .bad) (h1:∀ op b,QbS b=false->P [op] [b] (.cmp (cmOf op) (c a) (c b))):P ops rs (QnY c a ops rs):=by
 cases ops with
 | nil=>exact h0 _ _
 | cons op r=>
  cases r with
  | cons=>exact h0 _ _
  | nil=>
   cases rs with
   | nil=>exact h0 _ _
   | cons b r=>
    cases r with
    | cons=>exact h0 _ _
    | nil=>
     show P [op] [b] (if QbS b then .bad else .cmp (cmOf op) (c a) (c b))
     cases hs:QbS b with
     | true=>exact h0 _ _
     | false=>exact h1 op b hs
theorem Qdj {c:Expr->CE}{sc:Scope}{f:Expr}{args:List Expr}{ks:List Keyword}{p:Pos}{P:Expr->List Keyword->CE->Prop}(h0:∀ f ks,P f ks .bad) (h1:∀ x q,P (.Name x q) [] (cCN c sc x q args))
  (h2:∀ o q m ap,P (.Attribute (.Name o q) m ap) [] (cCA c o q m ap args p)):P f ks (QgC c sc f args ks p):=by
 cases ks with
 | cons=>exact h0 _ _
 | nil=>
  unfold QgC
  cases hq:qNm f with
  | some q=>refine (Qbw hq).substr ?_;exact h1 _ _
  | none=>
   cases ha:qAt f with
   | none=>exact h0 _ _
   | some z=>
    cases hn:qNm z.1 with
    | none=>dsimp only;refine hn.substr ?_;exact h0 _ _
    | some q=>dsimp only;refine hn.substr ?_;refine (QgL ha).substr ?_;refine (Qbw hn).substr ?_;exact h2 ..
theorem Qdk {c:Expr->CE}{o:Expr}{a:Str}{P:Expr->CE->Prop}(h0:∀ o,P o .bad) (h1:∀ o p k,Qcy anames a=some k->P (.Name o p) (.attr (c (.Name o p)) k)):P o (Qik c o a):=by
 unfold Qik
 cases hq:qNm o with
 | none=>exact h0 _
 | some q=>
  refine (Qbw hq).substr ?_
  cases hk:Qcy anames a with
  | none=>exact h0 _
  | some k=>exact h1 _ _ _ hk
theorem Qeg {c:Expr->CE}{o i:Expr}{P:Expr->CE->Prop}(h0:∀ i,P i .bad) (h1:∀ lo hi p,P (.Slice lo hi none p) (.slc (c o) (lo.map c) (hi.map c))) (h2:Qlm i=none->P i (.idx (c o) (c i))):P i (QnC c o i):=by
 unfold QnC
 cases hq:Qlm i with
 | none=>exact h2 hq
 | some q=>
  refine (QkE hq).substr ?_
  obtain ⟨lo,hi,st,p⟩:=q
  clear hq h2;cases st with
  | some _=>exact h0 _
  | none=>exact h1 ..
set_option tactic.hygienic true in
theorem Qk3 {K:W.Frag}{D U:Nat}{call:V->List V->M V}(N:NamesOk B) (C:ClsOk B K) (hU:U+100<cLine) (hKW:W.keepIn K (.ref B.KW)=true) (H:CallOk B fr D U call)
  (n:Nat) (ih:Qgp B fr D U call n) (iht:Qh7 B fr D U call n)
  {A:Around}{L:Addr}{k:Nat}{b:Bool}{sc:Scope}{env:PySem.Env}{e:Expr}{ρ:Env}{ι:List Addr}{σ:List O}{s:Shared}(am:Amb fr D U { A with units:=A.units+8 * (n+1) }) (S:ScRel sc env) (hb:b=true->Qcu B env) (F:FrameRel B ι s.heap env ρ) (I:Inv B fr ι σ s.heap)
  (h13:∀ ps body s' p,T B fr A L [] (eval (.Lambda ps body s' p) env) (Mine.ev B.cx call (n+1) ρ (Qlx (comp k false) b sc ps body s')) (VR B) ι σ s)
  (h14:∀ elt gens s' p,T B fr A L [] (eval (.ListComp elt gens s' p) env) (Mine.ev B.cx call (n+1) ρ (cLC (comp k b sc) (comp k false) sc elt gens s')) (VR B) ι σ s):
  T B fr A L [] (eval e env) (Mine.ev B.cx call (n+1) ρ (comp (k+1) b sc e)) (VR B) ι σ s:=by
 have am':=am.le (m:=8 * n) (by lia)
 have am0:=am.of
 have R:=am0.room hU
 have mono:∀ {ι':List Addr}{s':Shared},Go B (frs fr) [] ι s.heap ι' s'.heap->FrameRel B ι' s'.heap env ρ:=λ g=>F.mono g I.tabs.nt (by simp)
 ·refine Qef (P:=λ e ce=>T B fr A L [] (eval e env) (Mine.ev B.cx call (n+1) ρ ce) (VR B) ι σ s) ?_ ?_ ?_ ?_ ?_ ?_ ?_ ?_ ?_ ?_ ?_ ?_ h13 h14 (λ _=>T.stuck) e
  ·intro v kk p
   split
   ·rename_i x hx;exact Qlh hx I
   ·exact T.stuck
  ·exact λ x p=>QjN (k:=0) N S F I
  ·intro a op r p
   split
   ·rename_i op' ho
    refine T.bind (ih A L k b sc env _ ρ ι σ s trivial am' S hb F I) λ x a ι₁ σ₁ s₁ _ g₁ I₁ r₁ _=>?_
    refine T.bind (T.hold (ih A L k b sc env _ ρ ι₁ σ₁ s₁ trivial am' S hb (mono g₁) I₁)) λ y c ι₂ σ₂ s₂ _ g₂ I₂ r₂ _=>?_
    exact T.at (T.operate (Qnj ho R I₂ (r₁.mono g₂ I₁.tabs.nt) r₂))
   ·exact T.stuck
  ·intro op a p
   refine Qht (P:=λ op a ce=>T B fr A L [] (eval (.UnaryOp op a p) env) (Mine.ev B.cx call (n+1) ρ ce) (VR B) ι σ s) (λ _ _=>T.stuck) ?_ λ i k p=>?_
   ·refine T.bind (ih A L k b sc env _ ρ ι σ s trivial am' S hb F I) λ x a ι₁ σ₁ s₁ _ g₁ I₁ r₁ _=>T.at (T.hold ?_)
    exact QoJ I₁ r₁
   ·refine T.leaf I λ _=>⟨_,rfl,λ Q E kk=>wpAny_UnaryOp ?_⟩
    exact wpAny_mkInt (P.neg_int (kk _ _ Qe6 rfl ⟨rfl,rfl,rfl⟩))
  ·intro a ops rs p
   refine Qeh (P:=λ ops rs ce=>T B fr A L [] (eval (.Compare a ops rs p) env) (Mine.ev B.cx call (n+1) ρ ce) (VR B) ι σ s) (λ _ _=>T.stuck) λ op r hs'=>?_
   ··skip
     refine T.bind (ih A L k b sc env _ ρ ι σ s trivial am' S hb F I) λ x a ι₁ σ₁ s₁ _ g₁ I₁ r₁ _=>?_
     refine (show evalEach [_] env=[eval _ env] from rfl).symm▸?_;refine (Qd6 hs').symm▸?_
     refine T.bind (T.hold (ih A L k b sc env _ ρ ι₁ σ₁ s₁ trivial am' S hb (mono g₁) I₁)) λ y c ι₂ σ₂ s₂ _ g₂ I₂ r₂ _=>?_
     exact T.at (T.operate (QjL rfl R I₂ (r₁.mono g₂ I₁.tabs.nt) r₂))
  ·intro op l p
   unfold Qkb
   split
   ·exact QgT (op:=.And) n ih am' S hb _ F I
   ·exact QgT (op:=.Or) n ih am' S hb _ F I
  ·intro t a r p
   refine T.bind (iht A L k b sc env _ ρ ι σ s am' S hb F I) λ c t ι₁ σ₁ s₁ _ g₁ I₁ r₁ _=>?_
   subst r₁
   cases c
   ·exact ih A L k b sc env _ ρ ι₁ σ₁ s₁ trivial am' S hb (mono g₁) I₁
   ·exact ih A L k b sc env _ ρ ι₁ σ₁ s₁ trivial am' S hb (mono g₁) I₁
  ·intro l kk p
   split
   ·rename_i hn
    refine byK λ Pz kz=>?_;have zq:=Qav hn
    refine kz ?_;simp only [arm_eval_Tuple];refine (Qas zq.1).substr ?_
    refine T.at (T.bind (QbM n ih am' S hb F I) λ vs us ι₁ σ₁ s₁ _ g₁ I₁ r₁ _=>?_)
    split
    ·rename_i hc
     exact QjJ I₁ λ Q E kk=>wpAny_newTuple (kk s₁.heap.objs.size _ us.toArray 0 (λ b o e=>Heap.get?_push_of_some _ e) (Qao _) (Heap.get?_push_size _ rfl) (by exact r₁) ⟨rfl,rfl,rfl⟩) (Qfk r₁ hc)
    ·exact T.stuck
   ·exact T.stuck
  ·intro l p
   split
   ·rename_i hn
    have zq:=Qav hn
    simp only [arm_eval_List];refine (Qas zq.1).substr ?_
    refine T.at (T.bind (QbM n ih am' S hb F I) λ vs us ι₁ σ₁ s₁ _ g₁ I₁ r₁ _=>?_)
    exact Qd0 I₁ λ hc Q E kk=>wpAny_newList (kk s₁.heap.objs.size _ us.toArray 0 (λ b o e=>Heap.get?_push_of_some _ e) (Qao _) (Heap.get?_push_size _ rfl) (by exact r₁) ⟨rfl,rfl,rfl⟩) (Qfk r₁ hc)
   ·exact T.stuck
  ·intro f0 args ks pos
   refine Qdj (P:=λ f ks ce=>T B fr A L [] (eval (.Call f args ks pos) env) (Mine.ev B.cx call (n+1) ρ ce) (VR B) ι σ s) (λ _ _=>T.stuck) (λ f p=>?_) λ o op m ap=>?_
   ·refine QfK (P:=λ f args ce=>T B fr A L [] (eval (.Call (.Name f p) args [] pos) env) (Mine.ev B.cx call (n+1) ρ ce) (VR B) ι σ s) (λ _ _=>T.stuck) (λ x hk hn=>?_) (λ bi hk hn hbi=>?_) λ hn=>?_
    ·simp only [arm_eval_Call_Name',Qas (Qav hn).1]
     refine T.pre (t:=callWith pos (.ref B.KW) [] (([x].map λ e=>eval e env).map λ t=>(false,t)) []) (λ Q E h=>wpAny_bind (Qge N S F I hk _ _ h)) ?_
     refine QaI (λ h=>K.In h) (W.keeps_K hKW) (QbM n ih am' S hb F I) λ vs us ι₁ σ₁ s₁ g₁ I₁ r₁ hb₁=>⟨C.X.keeps I₁.keep,?_⟩
     cases vs with
     | nil=>exact T.stuck
     | cons y r=>
      cases r with
      | nil=>
       refine Qf0 r₁ ?_;rintro u rfl hx
       exact H.new A L ι₁ σ₁ s₁ y u am0 I₁ hx
      | cons=>exact T.stuck
    ·simp only [arm_eval_Call_Name',Qas (Qav hn).1]
     refine T.pre (t:=callWith pos (bval bi) [] ((args.map λ e=>eval e env).map λ t=>(false,t)) []) (λ Q E h=>wpAny_bind (Qhf N S F I hk hbi (beq_eq_false_iff_ne.mpr λ z=>by subst z;exact nos hbi) _ _ h)) ?_
     exact QaI (λ _=>True) Qd7 (QbM n ih am' S hb F I) λ vs us ι₁ σ₁ s₁ g₁ I₁ r₁ hb₁=>⟨trivial,QhZ R I₁ r₁⟩
    ·simp only [arm_eval_Call_Name',Qas (Qav hn).1]
     refine T.bind (ih A L k b sc env _ ρ ι σ s trivial am' S hb F I) λ x v ι₁ σ₁ s₁ _ g₁ I₁ r₁ _=>?_
     refine QaI (λ h=>QnF h v) Qfz (QbM n ih am' S hb (mono g₁) I₁) λ vs us ι₂ σ₂ s₂ g₂ I₂ r₂ hb₂=>?_
     exact H.fn A L ι₂ σ₂ s₂ x v vs us am0 I₂ (r₁.mono g₂ I₁.tabs.nt) r₂ hb₂
   ·refine QfL (P:=λ m args ce=>T B fr A L [] (eval (.Call (.Attribute (.Name o op) m ap) args [] pos) env) (Mine.ev B.cx call (n+1) ρ ce) (VR B) ι σ s) (λ _ _=>T.stuck) λ hl hn=>⟨λ x hn=>?_,λ x hn=>?_,λ f hf=>?_⟩
    ·rw [arm_eval_Call];refine (Qas (Qav hn).1).substr ?_
     refine T.bind (ih A L k b sc env _ ρ ι σ s trivial am' S hb F I) λ v a ι₁ σ₁ s₁ _ g₁ I₁ r₁ _=>T.at ?_
     refine T.asRef λ i ei=>?_
     subst ei
     refine T.getL λ l0 el=>?_
     refine Qa3 I₁ el r₁ ?_;rintro a its nn rfl e1 gg ff
     refine T.pre (Qbh (f:=.builtin "list.append") (first:=[.ref a]) hl (by simp) (Qgh gg)) ?_
     exact QaI (λ _=>True) QdH (QbM (l:=[x]) n ih am' S hb (mono g₁) I₁) λ vs us ι₂ σ₂ s₂ g₂ I₂ r₂ hb₂=>⟨trivial,Qnm (l0:=l0) (QaR g₂.pre e1) I₂ r₂⟩
    ·rw [arm_eval_Call];refine (Qas (Qav hn).1).substr ?_
     refine T.bind (ih A L k b sc env _ ρ ι σ s trivial am' S hb F I) λ v a ι₁ σ₁ s₁ _ g₁ I₁ r₁ _=>T.at ?_
     refine T.asRef λ i ei=>?_
     subst ei
     refine T.getL λ l0 el=>?_
     refine Qa3 I₁ el r₁ ?_;rintro a its nn rfl e1 gg ff
     refine T.pre (Qbh (f:=.builtin "list.extend") (first:=[.ref a]) hl (by simp) (Qgg gg)) ?_
     exact QaI (λ _=>True) QdH (QbM (l:=[x]) n ih am' S hb (mono g₁) I₁) λ vs us ι₂ σ₂ s₂ g₂ I₂ r₂ hb₂=>⟨trivial,Qni (QaR g₂.pre e1) I₂ r₂⟩
    ·have zq:=Qav hn
     simp only [arm_eval_Call,Qas zq.1]
     refine T.bind (ih A L k b sc env _ ρ ι σ s trivial am' S hb F I) λ v u ι₁ σ₁ s₁ _ g₁ I₁ r₁ _=>T.at ?_
     refine T.asRef λ i ei=>?_
     subst ei
     refine T.getO λ ob eo=>?_
     cases ob with
     | inst j=>
      refine T.getD λ dl ed=>?_
      refine QiV (A:=A) C I₁ eo ed r₁ (Qdw hf) λ fa q1 q2=>?_
      refine T.pre (Qbh (f:=.ref fa) (first:=[u]) hl zq.2 q2) ?_
      refine QaI (λ h=>QnF h (.ref fa)) Qfz (QbM n ih am' S hb (mono g₁) I₁) λ vs us ι₂ σ₂ s₂ g₂ I₂ r₂ hb₂=>?_
      exact H.fn A L ι₂ σ₂ s₂ (.fn (m0+f)) (.ref fa) (.ref i::vs) (u::us) am0 I₂ ⟨fa,q1,rfl⟩ ⟨u,us,rfl,r₁.mono g₂ I₁.tabs.nt,r₂⟩ hb₂
     | _=>exact T.stuck
  ·intro o0 a pos
   refine Qdk (P:=λ o ce=>T B fr A L [] (eval (.Attribute o a pos) env) (Mine.ev B.cx call (n+1) ρ ce) (VR B) ι σ s) (λ _=>T.stuck) λ o op k' hk'=>?_
   ··skip
     refine T.bind (ih A L k b sc env _ ρ ι σ s trivial am' S hb F I) λ v u ι₁ σ₁ s₁ _ g₁ I₁ r₁ _=>T.at ?_
     refine T.pre (t:=PySem.getAttr u a true) (λ Q E h=>wpAny_bind (wpAny_holding (wpAny_mono h (λ _ _ q=>wpAny_bind (wpAny_pure (wpAny_pure q))) λ _ _ e=>e))) ?_
     exact Qen C (Qdw hk') I₁ r₁
  ·intro o i0 pos
   refine Qeg (P:=λ i ce=>T B fr A L [] (eval (.Subscript o i pos) env) (Mine.ev B.cx call (n+1) ρ ce) (VR B) ι σ s) (λ _=>T.stuck) (λ lo hi p=>?_) λ hi=>?_
   ··
     exact Qgm (f:=comp k b sc) (g:=ev B.cx call n ρ) (λ e ι' σ' s' g' I'=>ih A L k b sc env e ρ ι' σ' s' trivial am' S hb (mono g') I') I
   ·have hsl:QcB i0=true:=by unfold QcB;refine hi.substr ?_;rfl
    simp only [arm_eval_Subscript]
    refine T.bind (ih A L k b sc env _ ρ ι σ s trivial am' S hb F I) λ x a ι₁ σ₁ s₁ _ g₁ I₁ r₁ _=>?_
    refine T.bind (T.hold (ih A L k b sc env _ ρ ι₁ σ₁ s₁ trivial am' S hb (mono g₁) I₁)) λ y c ι₂ σ₂ s₂ _ g₂ I₂ r₂ _=>T.at ?_
    exact Qlg hsl I₂ (r₁.mono g₂ I₁.tabs.nt) r₂
end
section
open PySem PySem.Calls PyProof.Rows
variable {B:Bs}{fr:List PySem.Env}
noncomputable def isT:CE->Bool
 | .not _=>true
 | .and _=>true
 | .or _=>true
 | .ite _ _ _=>true
 | _=>false
theorem Qiv {cx:Cx}{call:V->List V->M V}{n:Nat}{ρ:Env}{c:CE}(h:isT c=false):tr cx call (n+1) ρ c=M.bind (ev cx call n ρ c) truth:=by
 cases c<;>first | rfl | contradiction
theorem Qhj {p:Prop} [Decidable p] {a b:CE}(h:isT a=false) (k:isT b=false):isT (if p then a else b)=false:=by split;exact h;exact k
theorem Qe1 (c:Expr->CE) (sc:Scope) (f:Expr) (args:List Expr) (ks:List Keyword) (p:Pos):isT (QgC c sc f args ks p)=false:=
 Qdj (P:=λ _ _ ce=>isT ce=false) (λ _ _=>rfl) (λ _ _=>QfK (P:=λ _ _ ce=>isT ce=false) (λ _ _=>rfl) (λ _ _ _=>rfl) (λ _ _ _ _=>rfl) λ _=>rfl)
  λ _ _ _ _=>QfL (P:=λ _ _ ce=>isT ce=false) (λ _ _=>rfl) λ _ _=>⟨λ _ _=>rfl,λ _ _=>rfl,λ _ _=>rfl⟩
theorem QfI {cb:Scope->Expr->CE}{b:Bool}{sc:Scope}{ps:Arguments}{body:Expr}{s:Scope}(P:CE->Prop) (hbad:P .bad)
  (h:∀ xs fr is,b=true->QaZ s=true->QaN ps=some xs->ps.defaults=[]->QaE s sc=some fr->(∀ x∈xs,kindOf s x=some .local)->xs.Nodup->xs.mapM (Qaf s)=some is->P (.lam is s.names.length fr (cb s body))):
  P (Qlx cb b sc ps body s):=by
 unfold Qlx
 cases b with
 | false=>exact hbad
 | true=>
  cases hs:QaZ s with
  | false=>exact hbad
  | true=>
   cases ha:QaN ps with
   | none=>exact hbad
   | some xs=>
    cases hd:ps.defaults with
    | cons=>exact hbad
    | nil=>
     cases hf:QaE s sc with
     | none=>exact hbad
     | some fr=>
      show P (if _ then (match xs.mapM (Qaf s) with | some is=>.lam is s.names.length fr (cb s body) | none=>.bad) else .bad)
      split
      ·rename_i hl
       simp only [Bool.and_eq_true,decide_eq_true_eq] at hl
       cases hi:xs.mapM (Qaf s) with
       | none=>exact hbad
       | some is=>exact h xs fr is rfl hs ha hd hf (λ x hx=>beq_iff_eq.mp (List.all_eq_true.mp hl.1 x hx)) hl.2 hi
      ·exact hbad
theorem QfJ {c:Expr->CE}{cb:Scope->Expr->CE}{sc:Scope}{elt:Expr}{gens:List Comprehension}{s:Scope}(P:CE->Prop) (hbad:P .bad)
  (h:∀ t iter ifs ts single fr,gens=[⟨t,iter,ifs,0⟩]->QaZ s=true->ifs.length<=1->QbS iter=false->QaE s sc=some fr->((∃ q,qTu t=some q/\Qbu s q.1=some ts/\single=false)∨(Qbu s [t]=some ts/\single=true)) →
   P (.comp (cb s elt) ts single (c iter) (ifs.map (cb s)) s.names.length fr)):P (cLC c cb sc elt gens s):=by
 cases gens with
 | nil=>exact hbad
 | cons g r=>
  obtain ⟨t,iter,ifs,a⟩:=g
  cases r with
  | cons=>exact hbad
  | nil=>
   show P (if a=0 then QnX c cb sc elt t iter ifs s else .bad)
   split
   ·rename_i ha
    subst ha
    unfold QnX
    split
    ·exact hbad
    ·rename_i hg
     simp only [Bool.or_eq_true,Bool.not_eq_true',decide_eq_true_eq,not_or,Bool.not_eq_false,Nat.not_lt,Bool.not_eq_true] at hg
     have h:=λ ts single fr=>h t iter ifs ts single fr rfl hg.1.1 hg.1.2 hg.2
     cases hfr:QaE s sc with
     | none=>exact hbad
     | some fr=>
      cases hq:qTu t with
      | none=>
       dsimp only
       cases ht:Qbu s [t] with
       | none=>exact hbad
       | some ts=>exact h ts true fr hfr (.inr ⟨ht,rfl⟩)
      | some q=>
       dsimp only
       cases ht:Qbu s q.1 with
       | none=>exact hbad
       | some ts=>exact h ts false fr hfr (.inl ⟨q,hq,ht,rfl⟩)
   ·exact hbad
theorem Qlb {A:Around}{L:Addr}{X:List Addr}{ι:List Addr}{σ:List O}{s:Shared}{e:Expr}{env:PySem.Env}{m:M V}(h:T B fr A L X (eval e env) m (VR B) ι σ s)
  (hv:isTrue e env (eval e env)=(do let v <- eval e env;standAt e.pos;holding [v] (truthy v))):T B fr A L X (isTrue e env (eval e env)) (M.bind m truth) (λ _ _ b c=>b=c) ι σ s:=by
 refine hv.substr ?_
 exact T.bind h λ x v ι₁ σ₁ s₁ _ g₁ I₁ r₁ _=>T.at (T.hold (QcR I₁ r₁))
theorem QgU {op:BoolOp}{D U:Nat}{call:V->List V->M V}(n:Nat) (ih:Qh7 B fr D U call n) {L:Addr}{k:Nat}{b:Bool}{sc:Scope}{env:PySem.Env}{ρ:Env}{A:Around}
  (am:Amb fr D U { A with units:=A.units+8 * n }) (S:ScRel sc env) (hb:b=true->Qcu B env):∀ (l:List Expr) {ι:List Addr}{σ:List O}{s:Shared},FrameRel B ι s.heap env ρ->Inv B fr ι σ s.heap →
  T B fr A L [] (allTrue op l env) ((match op with | .And=>Qe5 | .Or=>orT) (tr B.cx call n ρ) (l.map (comp k b sc))) (λ _ _ b c=>b=c) ι σ s
 | [],_,_,_,F,I=>by cases op<;>exact T.ret rfl I rfl
 | e::r,ι,σ,s,F,I=>by
  have tail:=λ {ι σ s}=>@QgU op D U call n ih L k b sc env ρ A am S hb r ι σ s
  cases op
  ·skip
   refine T.bind (ih A L k b sc env e ρ ι σ s am S hb F I) λ c t ι₁ σ₁ s₁ _ g₁ I₁ r₁ _=>?_
   subst r₁
   cases c
   ·exact T.ret rfl I₁ rfl
   ·exact tail (F.mono g₁ I.tabs.nt (by simp)) I₁
  ·skip
   refine T.bind (ih A L k b sc env e ρ ι σ s am S hb F I) λ c t ι₁ σ₁ s₁ _ g₁ I₁ r₁ _=>?_
   subst r₁
   cases c
   ·exact tail (F.mono g₁ I.tabs.nt (by simp)) I₁
   ·exact T.ret rfl I₁ rfl
theorem Qm6 {cx:Cx}{call:V->List V->M V}{n:Nat}{ρ:Env}{op:Cm}{a c:CE}:Mine.tr cx call (n+1+1) ρ (.cmp op a c)=M.bind (ev cx call n ρ a) λ x=>M.bind (ev cx call n ρ c) λ y=>M.bind (QaJ op x y) truth:=by
 show M.bind (M.bind (ev cx call n ρ a) λ x=>M.bind (ev cx call n ρ c) λ y=>QaJ op x y) truth=_
 funext σ
 unfold M.bind
 cases ev cx call n ρ a σ with
 | ok x σ'=>dsimp only;cases ev cx call n ρ c σ'<;>rfl
 | _=>rfl
theorem Qkm {D U:Nat}{call:V->List V->M V}(hU:U+100<cLine) (n:Nat) (ih:∀ m,m<=n->Qgp B fr D U call m) (iht:Qh7 B fr D U call n):Qh7 B fr D U call (n+1):=by
 intro A L k b sc env e ρ ι σ s am S hb F I
 have am':=am.le (m:=8 * n) (by lia)
 have mono:∀ {ι':List Addr}{s':Shared},Go B (frs fr) [] ι s.heap ι' s'.heap->FrameRel B ι' s'.heap env ρ:=λ g=>F.mono g I.tabs.nt (by simp)
 have stuck:∀ e,T B fr A L [] (isTrue e env (eval e env)) (Mine.tr B.cx call (n+1) ρ .bad) (λ _ _ b c=>b=c) ι σ s:=λ e=>T.bad (by cases n<;>rfl)
 cases k with
 | zero=>exact stuck e
 | succ k=>
  have gen:∀ e ce,isT ce=false->comp (k+1) b sc e=ce->isTrue e env (eval e env)=(do let v <- eval e env;standAt e.pos;holding [v] (truthy v)) →
    T B fr A L [] (isTrue e env (eval e env)) (Mine.tr B.cx call (n+1) ρ ce) (λ _ _ b c=>b=c) ι σ s:=λ e ce h1 h0 h2=>by
   refine (Qiv h1).substr ?_;refine h0.symm.substr ?_
   exact Qlb (ih n (Nat.le_refl _) A L (k+1) b sc env e ρ ι σ s trivial am' S hb F I) h2
  refine Qef (P:=λ e ce=>T B fr A L [] (isTrue e env (eval e env)) (Mine.tr B.cx call (n+1) ρ ce) (λ _ _ b c=>b=c) ι σ s)
   (λ v _ _=>gen _ _ (by cases constOf v<;>rfl) rfl rfl) (λ _ _=>gen _ _ (Qd5 (P:=λ ce=>isT ce=false) rfl λ _ _=>⟨λ _ _ _=>rfl,λ _ _ _=>rfl,λ _ _ _=>rfl⟩) rfl rfl) (λ _ op _ _=>gen _ _ (by cases op2 op<;>rfl) rfl rfl) ?_ ?_ ?_ ?_
   (λ _ _ _=>gen _ _ (Qhj rfl rfl) rfl rfl) (λ _ _=>gen _ _ (Qhj rfl rfl) rfl rfl) (λ _ _ _ _=>gen _ _ (Qe1 ..) rfl rfl) (λ _ _ _=>gen _ _ (Qdk (P:=λ _ ce=>isT ce=false) (λ _=>rfl) λ _ _ _ _=>rfl) rfl rfl)
   (λ _ _ _=>gen _ _ (Qeg (P:=λ _ ce=>isT ce=false) (λ _=>rfl) (λ _ _ _=>rfl) λ _=>rfl) rfl rfl) (λ _ _ _ _=>gen _ _ (QfI (λ ce=>isT ce=false) rfl λ _ _ _ _ _ _ _ _ _ _ _=>rfl) rfl rfl) (λ _ _ _ _=>gen _ _ (QfJ (λ ce=>isT ce=false) rfl λ _ _ _ _ _ _ _ _ _ _ _ _=>rfl) rfl rfl) stuck e
  ·intro op x pos
   cases op with
   | Not=>
    refine T.bind (f:=λ b=>M.ret (!b)) (iht A L k b sc env x ρ ι σ s am' S hb F I) λ c t ι₁ σ₁ s₁ _ g₁ I₁ r₁ _=>?_
    subst r₁
    exact T.ret rfl I₁ rfl
   | _=>exact gen _ _ (Qht (P:=λ op _ ce=>op≠.Not->isT ce=false) (λ _ _ _=>rfl) (λ h=>absurd rfl h) (λ _ _ _ _=>rfl) nofun) rfl rfl
  ·intro l ops rs pos
   refine Qeh (P:=λ ops rs ce=>T B fr A L [] (isTrue (.Compare l ops rs pos) env (eval (.Compare l ops rs pos) env)) (Mine.tr B.cx call (n+1) ρ ce) (λ _ _ b c=>b=c) ι σ s) (λ _ _=>stuck _) λ op r hs=>?_
   ··
     cases n with
     | zero=>exact T.stuck
     | succ n=>
      have am2:=am.le (m:=8 * n) (by lia)
      have R:=am.of.room hU
      simp only [arm_isTrue_Compare,show evalEach [r] env=[eval r env] from rfl,Qd6 hs]
      clear gen stuck am hs hU;refine (show Mine.tr B.cx call (n+1+1) ρ (.cmp (cmOf op) (comp k b sc l) (comp k b sc r))=
        M.bind (ev B.cx call n ρ (comp k b sc l)) λ x=>M.bind (ev B.cx call n ρ (comp k b sc r)) λ y=>M.bind (QaJ (cmOf op) x y) truth from (Qm6 ..)).substr ?_
      refine T.bind (ih n (by lia) A L k b sc env _ ρ ι σ s trivial am2 S hb F I) λ x a ι₁ σ₁ s₁ _ g₁ I₁ r₁ _=>?_
      refine T.bind (T.hold (ih n (by lia) A L k b sc env _ ρ ι₁ σ₁ s₁ trivial am2 S hb (mono g₁) I₁)) λ y c ι₂ σ₂ s₂ _ g₂ I₂ r₂ _=>T.at ?_
      exact T.bind (T.operate (QjL rfl R I₂ (r₁.mono g₂ I₁.tabs.nt) r₂)) λ z w ι₃ σ₃ s₃ _ g₃ I₃ r₃ _=>T.hold (QcR I₃ r₃)
  ·intro op l pos
   cases op
   ·exact QgU (op:=.And) n iht am' S hb l F I
   ·exact QgU (op:=.Or) n iht am' S hb l F I
  ·intro t x y pos
   refine T.bind (f:=λ c=>if c then tr B.cx call n ρ (comp k b sc x) else tr B.cx call n ρ (comp k b sc y)) (iht A L k b sc env t ρ ι σ s am' S hb F I) λ c t ι₁ σ₁ s₁ _ g₁ I₁ r₁ _=>?_
   subst r₁
   cases c
   ·exact iht A L k b sc env _ ρ ι₁ σ₁ s₁ am' S hb (mono g₁) I₁
   ·exact iht A L k b sc env _ ρ ι₁ σ₁ s₁ am' S hb (mono g₁) I₁
end
section
open PySem PySem.Calls PyProof.Rows
variable {B:Bs}{fr:List PySem.Env}
theorem Qar {sc:Scope}{x:Str}{i:Nat}(h:Qaf sc x=some i) {Z:Prop}(k0:∀ k,(sc.names[i]?=some (x,k))->(kindOf sc x=some k)->i<sc.names.length->Z):Z:=by
 unfold Qaf at h
 obtain ⟨h1,h2,h3⟩:=List.findIdx?_eq_some_iff_getElem.mp h
 refine k0 (sc.names[i].2) (by refine (List.getElem?_eq_getElem h1).substr ?_;refine (by simpa using h2)▸?_;rfl) ?_ h1
 have key:∀ (l:List (Str×NameKind)) (i:Nat) (h1:i<l.length),l[i].1=x->(∀ j (hj:j<i),¬ (l[j]'(by lia)).1=x)->l.lookup x=some l[i].2:=by
  intro l
  induction l with
  | nil=>intro i h1;exact absurd h1 (Nat.not_lt_zero _)
  | cons p r ih=>
   intro i h1 e ne
   obtain ⟨y,k⟩:=p
   cases i with
   | zero=>
    clear h2 h;subst e
    simp [List.lookup_cons]
   | succ i=>
    refine List.lookup_cons.substr ?_
    have:(x==y)=false:=beq_eq_false_iff_ne.mpr λ q=>(ne 0 (by simp_all)) q.symm
    refine this.substr ?_
    exact ih i (by simpa using h1) e λ j hj=>ne (j+1) (by simp_all)
 exact key _ _ h1 (by simpa using h2) λ j hj=>by
  have:=h3 j hj
  simpa using this
theorem Qba {sc:Scope}{x y:Str}{i:Nat}(h:Qaf sc x=some i) (h':Qaf sc y=some i):x=y:=by
 refine Qar h λ k h1 _ _=>?_
 refine Qar h' λ k' h2 _ _=>?_
 replace h2:=h1.symm.trans h2;clear h1 h' h;cases h2;rfl
theorem QjQ {sc:Scope}{x:Str}{k:NameKind}(h:(x,k)∈sc.names):∃ i,Qaf sc x=some i:=by
 unfold Qaf
 cases q:sc.names.findIdx? (·.1==x) with
 | some i=>exact ⟨i,rfl⟩
 | none=>
  rw [List.findIdx?_eq_none_iff] at q
  have:=q _ h
  simp at this
theorem Qkj {a b:Option Nat}{c:Prop} [Decidable c] {p:Nat×Nat}(h:(match a,b with | some i,some o=>if c then some (i,o) else none | _,_=>none)=some p):And3 (a=some p.1) (b=some p.2) c:=by
 cases a with
 | none=>exact nos h
 | some i=>cases b with
  | none=>exact nos h
  | some o=>
   by_cases hc:c
   ·obtain rfl:=Option.some.inj ((if_pos hc).symm.trans h);exact ⟨rfl,rfl,hc⟩
   ·exact nos ((if_neg hc).symm.trans h)
theorem QbY {inner outer:Scope}:∀ {l:List (Str×NameKind)}{fr:List (Nat×Nat)},
  l.mapM (λ q=>match Qaf inner q.1,Qaf outer q.1 with
   | some i,some o=>if kindOf outer q.1=some .cell∨kindOf outer q.1=some .free then some (i,o) else none
   | _,_=>none)=some fr →
  (∀ q∈l,Ex2 λ i o=>And4 (Qaf inner q.1=some i) (Qaf outer q.1=some o) ((kindOf outer q.1=some .cell∨kindOf outer q.1=some .free)) ((i,o)∈fr)) ∧
  (∀ p∈fr,∃ q∈l,Qaf inner q.1=some p.1/\Qaf outer q.1=some p.2)
 | [],fr,h=>by simp at h;subst h;exact ⟨by simp,by simp⟩
 | q::r,fr,h=>by
  rw [List.mapM_cons] at h
  obtain ⟨p,h1,h⟩:=Option.bind_eq_some_iff.mp h
  obtain ⟨ps,h2,h⟩:=Option.bind_eq_some_iff.mp h
  obtain rfl:=Option.some.inj h
  obtain ⟨ih1,ih2⟩:=QbY h2
  obtain ⟨ei,eo,hk⟩:=Qkj h1
  constructor
  ·intro q' hq
   rcases List.mem_cons.mp hq with rfl | hq
   ·exact ⟨p.1,p.2,ei,eo,hk,.head _⟩
   ·obtain ⟨i',o',a,b,c,d⟩:=ih1 q' hq
    exact ⟨i',o',a,b,c,.tail _ d⟩
  ·intro p' hp
   rcases List.mem_cons.mp hp with rfl | hp
   ·exact ⟨q,.head _,ei,eo⟩
   ·obtain ⟨q',a,b⟩:=ih2 p' hp
    exact ⟨q',.tail _ a,b⟩
theorem Qdd {ρ:Env}{i o:Nat}{r:List (Nat×Nat)}{ρ0 ρ':Env}(h:Qae ρ ((i,o)::r) ρ0=some ρ'):∃ c,And3 (ρ[o]?=some (some (.ref c))) (i<ρ0.length) (Qae ρ r (ρ0.set i (some (.ref c)))=some ρ'):=by
 have h:(match ρ[o]? with
  | some (some (.ref c))=>if i<ρ0.length then Qae ρ r (ρ0.set i (some (.ref c))) else none
  | _=>none)=some ρ':=h
 generalize ρ[o]?=z at h ⊢
 rcases z with _ | _ | x
 ·exact nos h
 ·exact nos h
 ·cases x with
  | ref c=>
   by_cases hi:i<ρ0.length
   ·exact ⟨c,rfl,hi,(if_pos hi).symm.trans h⟩
   ·exact nos ((if_neg hi).symm.trans h)
  | _=>exact nos h
theorem QbB {ρ:Env}:∀ {fr:List (Nat×Nat)}{ρ0 ρ':Env},Qae ρ fr ρ0=some ρ'->(∀ i o o',(i,o)∈fr->(i,o')∈fr->o=o') →
  ρ'.length=ρ0.length/\(∀ i,(∀ o,(i,o) ∉ fr)->ρ'[i]?=ρ0[i]?)/\(∀ i o,(i,o)∈fr->∃ c,ρ[o]?=some (some (.ref c))/\ρ'[i]?=some (some (.ref c)))
 | [],ρ0,ρ',h,_=>by obtain rfl:=Option.some.inj h;exact ⟨rfl,λ _ _=>rfl,by simp⟩
 | (i,o)::r,ρ0,ρ',h,hf=>by
  obtain ⟨c,hc,hi,h⟩:=Qdd h
  obtain ⟨a,b,d⟩:=QbB h λ i o o' m m'=>hf i o o' (.tail _ m) (.tail _ m')
  refine ⟨by refine a.substr ?_;simp,λ j hj=>?_,λ j o' hm=>?_⟩
  ·refine (b j λ o' m=>hj o' (.tail _ m)).substr ?_;rw [List.getElem?_set_ne]
   rintro rfl;exact hj o (.head _)
  ·by_cases q:(j,o')∈r
   ·exact d j o' q
   ·rcases List.mem_cons.mp hm with e | hm
    ·cases e
     by_cases z:∃ o2,(i,o2)∈r
     ·refine byK λ Pz kz=>?_;obtain ⟨o2,z⟩:=z
      have:=hf i o o2 (.head _) (.tail _ z)
      subst this
      exact kz (d i o z)
     ·refine ⟨c,hc,?_⟩
      simp only [b i λ o2 m=>z ⟨o2,m⟩,List.getElem?_set_self hi]
    ·exact absurd hm q
theorem Qco {inner outer:Scope}{fr:List (Nat×Nat)}(h:QaE inner outer=some fr):(∀ q∈inner.names,kindOf inner q.1=some q.2) ∧
  (inner.names.filter (·.2==.free)).mapM (λ q=>match Qaf inner q.1,Qaf outer q.1 with
   | some i,some o=>if kindOf outer q.1=some .cell∨kindOf outer q.1=some .free then some (i,o) else none
   | _,_=>none)=some fr:=by
 unfold QaE at h
 split at h
 ·exact nos h
 ·rename_i q
  simp only [Bool.not_eq_false] at q
  exact ⟨λ p hp=>by simpa using List.all_eq_true.mp q p hp,h⟩
theorem QhP {inner outer:Scope}{fr:List (Nat×Nat)}(h:QaE inner outer=some fr):∀ i o o',(i,o)∈fr->(i,o')∈fr->o=o':=by
 intro i o o' m m'
 obtain ⟨_,h2⟩:=QbY (Qco h).2
 obtain ⟨q,_,a,b⟩:=h2 _ m
 obtain ⟨q',_,a',b'⟩:=h2 _ m'
 have:=Qba a a'
 replace b:=this▸b
 clear this a' a h2 m' m h;simp only [b] at b';obtain rfl:=Option.some.inj b';rfl
noncomputable def Qbc (l:List (Str×NameKind)) (cells:List (Str×Addr)) (acc:List (Str×Addr)):List (Str×Addr):=
 match l with
 | []=>acc
 | (x,k)::r=>if k==.free then Qbc r cells ((x,(cells.lookup x).getD 0)::acc) else Qbc r cells acc
theorem QdK (x:Str) (k:NameKind) (r:List (Str×NameKind)) (cells acc:List (Str×Addr)):Qbc ((x,k)::r) cells acc=if k==.free then Qbc r cells ((x,(cells.lookup x).getD 0)::acc) else Qbc r cells acc:=rfl
theorem QdQ {scope:Scope}{env:PySem.Env}(h:∀ x,(x,NameKind.free)∈scope.names->∃ c,env.cells.lookup x=some c):closureFor scope env=pure (Qbc scope.names env.cells []):=by
 have key:∀ (l:List (Str×NameKind)) (acc:List (Str×Addr)),(∀ x,(x,NameKind.free)∈l->∃ c,env.cells.lookup x=some c) →
   (forIn l acc λ (p:Str×NameKind) (cs:List (Str×Addr))=>(match p with
    | (name,kind)=>if kind==.free then (do let c <- cellOf env name;pure (ForInStep.yield ((name,c)::cs))) else pure (ForInStep.yield cs):Sem (ForInStep (List (Str×Addr)))))=pure (Qbc l env.cells acc):=by
  intro l
  induction l with
  | nil=>intro acc _;rfl
  | cons p r ih=>
   intro acc hl
   obtain ⟨x,k⟩:=p
   simp only [List.forIn_cons]
   by_cases hk:k=.free
   ·subst hk
    obtain ⟨c,hc⟩:=hl x (.head _)
    simp only [beq_self_eq_true,if_true,(show cellOf env x=pure c from by unfold cellOf;refine hc.substr ?_;rfl),pure_bind,QdK,beq_self_eq_true,if_true,hc,Option.getD_some]
    exact ih _ λ y hy=>hl y (.tail _ hy)
   ·have:(k==NameKind.free)=false:=beq_eq_false_iff_ne.mpr hk
    simp only [this,Bool.false_eq_true,if_false,pure_bind,QdK]
    exact ih _ λ y hy=>hl y (.tail _ hy)
 unfold closureFor
 have:=key scope.names [] h
 rw [bind_pure]
 assumption
theorem Qa5 {cells:List (Str×Addr)}{x:Str}{c:Addr}(hc:cells.lookup x=some c):∀ (l:List (Str×NameKind)) (acc:List (Str×Addr)),((x,NameKind.free)∈l∨acc.lookup x=some c)->(∀ d,acc.lookup x=some d->d=c)->(Qbc l cells acc).lookup x=some c
 | [],acc,h,_=>by
  rcases h with h | h
  ·contradiction
  ·exact h
 | (y,k)::r,acc,h,hu=>by
  rw [QdK]
  split
  ·rename_i hk
   by_cases q:y=x
   ·subst q
    refine Qa5 hc r _ (.inr ?_) ?_
    ·refine hc.substr ?_;simp [List.lookup_cons]
    ·intro d hd;rw [hc] at hd;simp [List.lookup_cons] at hd;exact hd.symm
   ·skip
    refine Qa5 hc r _ ?_ ?_
    ·rcases h with h | h
     ·rcases List.mem_cons.mp h with h | h
      ·injection h with h;subst h;exact absurd rfl q
      ·exact .inl h
     ·right;simp only [List.lookup_cons,(beq_eq_false_iff_ne.mpr λ e=>q e.symm)];exact h
    ·intro d hd;simp only [List.lookup_cons,(beq_eq_false_iff_ne.mpr λ e=>q e.symm)] at hd;exact hu d hd
  ·rename_i hk
   refine Qa5 hc r _ ?_ hu
   rcases h with h | h
   ·rcases List.mem_cons.mp h with h | h
    ·refine byK λ Pz kz=>?_;obtain ⟨rfl,rfl⟩:=Prod.mk.inj h;exact kz (absurd rfl hk)
    ·exact .inl h
   ·exact .inr h
theorem Qc6 {ι:List Addr}{h:Heap}{sc inner:Scope}{env:PySem.Env}{ρ ρ':Env}{fr:List (Nat×Nat)}(S:ScRel sc env) (F:FrameRel B ι h env ρ) (hf:QaE inner sc=some fr) (he:Qae ρ fr (List.replicate inner.names.length none)=some ρ') {Z:Prop}(k0:closureFor inner env=pure (Qbc inner.names env.cells [])->ρ'.length=inner.names.length->QdD inner ρ'->(∀ x i,Qaf inner x=some i->kindOf inner x=some .free->Ex2 λ c ci=>And3 ((Qbc inner.names env.cells []).lookup x=some c) (ρ'[i]?=some (some (.ref ci))) (ι[ci]?=some c))->Z):Z:=by
 obtain ⟨m0,hf'⟩:=Qco hf
 obtain ⟨m1,m2⟩:=QbY hf'
 obtain ⟨s1,s2,s3⟩:=QbB he (QhP hf)
 have cellOf:∀ x,(x,NameKind.free)∈inner.names->Ex4 λ i o c ci=>And5 (Qaf inner x=some i) ((i,o)∈fr) (env.cells.lookup x=some c) (ρ[o]?=some (some (.ref ci))) (ι[ci]?=some c):=by
  intro x hx
  obtain ⟨i,o,a,b,k,d⟩:=m1 (x,.free) (List.mem_filter.mpr ⟨hx,rfl⟩)
  have k':kindOf env.scope x=some .cell∨kindOf env.scope x=some .free:=by
   rcases (S x).2 with h | ⟨h,_⟩
   ·refine h.substr ?_;exact k
   ·exact h
  obtain ⟨c,ci,e1,e2,e3⟩:=F.cells x o ((S x).1.trans b) k'
  exact ⟨i,o,c,ci,a,d,e1,e2,e3⟩
 refine k0 (QdQ λ x hx=>let ⟨_,_,c,_,_,_,e,_,_⟩:=cellOf x hx;⟨c,e⟩) (by refine s1.substr ?_;simp) (λ x i hx hk=>?_) (λ x i hx hk=>?_)
 ·rw [s2 i λ o m=>?_]
  ·refine (List.getElem?_replicate).substr ?_;refine (if_pos (Qar hx λ _ _ _ z=>z)).substr ?_;rfl
  ·obtain ⟨q,hq,a,_⟩:=m2 _ m
   obtain ⟨hq1,hq2⟩:=List.mem_filter.mp hq
   have e:=Qba a hx
   clear hq m s2 s1 m2 m1 hf' he hf F S;obtain ⟨y,k⟩:=q
   have hk2:k=.free:=beq_iff_eq.mp hq2
   have:=m0 _ hq1
   subst e
   exact hk (by simp only [this,hk2])
 ·refine Qar hx λ k g1 g2 g3=>?_
  rw [hk] at g2;obtain rfl:=Option.some.inj g2
  obtain ⟨i',o,c,ci,a,d,e1,e2,e3⟩:=cellOf x (List.mem_of_getElem? g1)
  rw [hx] at a;obtain rfl:=Option.some.inj a
  obtain ⟨c',f1,f2⟩:=s3 i o d
  replace f1:=e2.symm.trans f1;cases f1
  exact ⟨c,ci,Qa5 e1 _ _ (.inl (List.mem_of_getElem? g1)) (by simp),f2,e3⟩
end
section
open PySem PySem.Calls PyProof.Rows
variable {B:Bs}{fr:List PySem.Env}{A:Around}{L:Addr}{X:List Addr}{ι:List Addr}{σ:List O}{s:Shared}
structure LamOk (B:Bs):Prop where
 code:∀ q∈B.tabs,W.CodeHd B.g q.1 q.2/\mainGlobals≠q.2/\B.g.BuiltinsAt B.mg q.2
theorem QeN {P:List Value->Prop}(h0:P []) (h1:∀ i t j u x r,P r->P (.int i t::.int j u::x::r)):∀ (n:Nat) {l:List Value},l.length<=n->TriplesOk l->P l:=by
 intro n
 induction n with
 | zero=>intro l hn _;exact List.length_eq_zero_iff.mp (Nat.le_zero.mp hn)▸h0
 | succ n ih=>
  intro l hn h
  cases l with
  | nil=>exact h0
  | cons a l=>cases a with
   | int i t=>cases l with
    | nil=>exact False.elim h
    | cons b l=>cases b with
     | int j u=>cases l with
      | nil=>exact False.elim h
      | cons x r=>exact h1 i t j u x r (ih (Nat.le_trans (Nat.le_add_right _ 2) (Nat.le_of_succ_le_succ hn)) h)
     | _=>exact False.elim h
   | _=>exact False.elim h
theorem Qc1 {P:List Value->Prop}(h0:P []) (h1:∀ i t j u x r,P r->P (.int i t::.int j u::x::r)) {l:List Value}(h:TriplesOk l):P l:=QeN h0 h1 _ (Nat.le_refl _) h
theorem QeO {l:List Value}(a b:Int) (c:Value):TriplesOk l->TriplesOk (l++[rawInt a,rawInt b,c]):=
 Qc1 (P:=λ l=>TriplesOk (l++[rawInt a,rawInt b,c])) trivial λ _ _ _ _ _ _ ih=>ih
theorem QhU {pos:Pos}{l:List Value}{a b:Int}{c cv:Value}(h:TriplesOk l):codeAmong pos (l++[rawInt a,rawInt b,c])=some cv->codeAmong pos l=some cv∨cv=c:=by
 refine Qc1 (P:=λ l=>codeAmong pos (l++[rawInt a,rawInt b,c])=some cv->codeAmong pos l=some cv∨cv=c) (λ e=>?_) (λ i t j u x r ih e=>?_) h
 ·have e:(if _ then some c else none)=some cv:=e
  split at e
  ·exact .inr (Option.some.inj e).symm
  ·exact nos e
 ·have e:(if _ then some x else codeAmong pos (r++[rawInt a,rawInt b,c]))=some cv:=e
  show (if _ then some x else codeAmong pos r)=some cv∨cv=c
  split at e
  ·rename_i q;refine (if_pos q).substr ?_;exact .inl e
  ·rename_i q;refine (if_neg q).substr ?_;exact ih e
theorem Inv.tabbed {h h':Heap}{P:Addr}{ps:Array Value}(I:Inv B fr ι σ h) (hx:Heap.ExtBut P h h') (hP:∃ c,(c,P)∈B.tabs) (hp:h'.get? P=some (W.tabObj ps)) (ht:TriplesOk ps.toList) (he:Ent B h' P ps.toList):
  Go B (frs fr) [] ι h ι h'/\Inv B fr ι σ h':=by
 obtain ⟨c,hc⟩:=hP
 have go:∀ F,Go B F [] ι h ι h':=λ F=>⟨List.prefix_refl _,λ _ m n=>absurd m n,λ b o e=>by
  by_cases q:b=P
  ·subst q;exact ⟨_,hp,λ _ t=>absurd rfl (t _ hc)⟩
  ·exact ⟨o,hx b o q e,λ _ _=>.refl ..⟩⟩
 refine ⟨go _,?_⟩
 exact {
  keep:=λ b o e=>hx b o (λ q=>by subst q;have:=(I.tabs _ hc).1;replace e:=this.symm.trans e;exact nos e) (I.keep b o e)
  fresh:=I.fresh
  nodup:=I.nodup
  len:=I.len
  objs:=λ i a o e1 e2=>by
   have q:=I.objs i a o e1 e2
   obtain ⟨ob,g⟩:=q.some
   exact q.mono (go []) I.tabs.nt ((hx a ob (λ z=>I.notab _ hc (by refine z.symm.substr ?_;exact List.mem_of_getElem? e1)) g).trans g.symm) (NoCode.nil _)
  frames:=I.frames.go (go []) (by simp)
  tabs:=λ q m=>by
   refine byK λ Pz kz=>?_;obtain ⟨x,ps',y,z,w⟩:=I.tabs q m
   refine kz ?_;by_cases e:q.2=P
   ·exact ⟨x,ps,by exact Eq.trans (congrArg _ e) hp,ht,by refine e.substr ?_;exact he⟩
   ·exact ⟨x,ps',hx _ _ e y,z,w.ext λ b o vs g _ t=>hx b o (t _ hc) g⟩
  notab:=I.notab }
theorem QdP {ps:Arguments}{env:PySem.Env}{xs:List Str}(h:QaN ps=some xs) (hd:ps.defaults=[]):defaultsOf ps env=([],[]):=by
 obtain ⟨a,b,c,d,e,f,g⟩:=ps
 simp only [QaN] at h
 split at h
 ·rename_i q
  simp only [Bool.and_eq_true,List.isEmpty_iff] at q
  simp only at hd
  subst hd
  obtain ⟨⟨⟨⟨_,_⟩,_⟩,rfl⟩,_⟩:=q
  rfl
 ·exact nos h
theorem Qfw {s:Scope}(h:QaZ s=true):s.kind=.function/\s.isCoroutine=false/\s.isGenerator=false/\(∀ y∈s.names,y.2≠.cell):=by
 unfold QaZ at h
 simp only [Bool.and_eq_true,Bool.not_eq_true',beq_iff_eq,List.all_eq_true,bne_iff_ne,ne_eq] at h
 refine byK λ Pz kz=>?_;obtain ⟨⟨⟨a,b⟩,c⟩,d⟩:=h
 exact kz (⟨a,b,c,λ y hy=>d y hy⟩)
set_option tactic.hygienic true in
theorem Qjb (N:NamesOk B) (LO:LamOk B) {k:Nat}{sc inner:Scope}{env:PySem.Env}{ps:Arguments}{body:Expr}{pos:Pos}{ρ:Env}{xs:List Str}{is:List Nat}{frl:List (Nat×Nat)}
  (S:ScRel sc env) (hl:Qcu B env) (F:FrameRel B ι s.heap env ρ) (I:Inv B fr ι σ s.heap) (hs:QaZ inner=true) (ha:QaN ps=some xs) (hd:ps.defaults=[]) (hf:QaE inner sc=some frl)
  (hloc:∀ x∈xs,kindOf inner x=some .local) (hnd:xs.Nodup) (hi:xs.mapM (Qaf inner)=some is):
  T B fr A L [] (eval (.Lambda ps body inner pos) env) (match Qae ρ frl (List.replicate inner.names.length none) with
   | some ρ'=>M.bind (Qgt (.clo is ρ' (comp k false inner body))) λ k=>M.ret (.ref k)
   | none=>M.stuck) (VR B) ι σ s:=by
 split
 ·rename_i ρ' he
  intro _
  refine byK λ Pz kz=>?_;obtain ⟨hk,hco,hge,hnc⟩:=Qfw hs
  refine kz ?_;refine byK λ Pz kz=>?_;refine Qc6 S F hf he λ hcl hlen hno hce=>?_
  obtain ⟨c,P,hcode,hm,htq⟩:=hl
  have zq:=LO.code _ hm
  refine kz ?_;refine byK λ Pz kz=>?_;obtain ⟨hgP,tps,htp,htr,hent⟩:=I.tabs _ hm
  have hg:=N.main.keeps I.keep
  have C1':=zq.1.keeps I.keep
  have hb:s.heap.BuiltinsAt B.mg P:=by
   refine byK λ Pz kz=>?_;obtain ⟨bm,o,a,b,c,d,e,r⟩:=zq.2.2
   exact kz (⟨bm,o,a,b,c,d,I.keep _ _ e,r⟩)
  have fin:∀ (h':Heap) (c':Addr) (ctv:Value) (tk:Nat),Go B (frs fr) [] ι s.heap ι h'->Inv B fr ι σ h'->s.heap.objs.size<=h'.objs.size →
    (Ex3 λ o vs t=>And5 (h'.get? c'=some o) (o.data=.fields vs) (vs[1]?=some (.str (env.qual++("<lambda>" : Str)) t)) (c' ∉ ι) ((∀ q∈B.tabs,c'≠q.2))) →
    TQ B fr [] (M.bind (Qgt (.clo is ρ' (comp k false inner body))) (λ k=>M.ret (.ref k)) σ) (VR B) ι s (.ref h'.objs.size)
     { s with heap:=h'.push (W.kla_obj "<lambda>" (env.qual++("<lambda>" : Str)) ps body inner (Qbc inner.names env.cells []) ((B.mg "__name__").getD .none) c' ctv),toks:=tk }:=by
   intro h' c' ctv tk go I' hsz hrec
   have kp:∀ b o,h'.get? b=some o->(h'.push (W.kla_obj "<lambda>" (env.qual++("<lambda>" : Str)) ps body inner (Qbc inner.names env.cells []) ((B.mg "__name__").getD .none) c' ctv)).get? b=some o:=λ b o e=>Heap.get?_push_of_some _ e
   have new:=Qao h'
   have g2:Go B (frs fr) [] ι h' (ι++[h'.objs.size]) _:=Go.push kp new
   refine byK λ Pz kz=>?_;obtain ⟨o,vs,t,r1,r2,r3,r4,r5⟩:=hrec
   refine kz ?_;refine ⟨.ref σ.length,_,_,rfl,go.trans g2,I'.new kp new ?_,Qb2 (by refine I'.len.symm.substr ?_;simp),⟨rfl,rfl,rfl⟩⟩
   refine ⟨inner,ps,body,_,_,ctv,c',_,_,k,xs,Heap.get?_push_size _ rfl,⟨o,vs,t,kp _ _ r1,r2,r3,λ m=>?_,r5⟩,ha,hd,hi,hk,hco,hge,hnc,hloc,hlen,?_,hno,hnd,rfl⟩
   ·rcases List.mem_append.mp m with m | m
    ·exact r4 m
    ·rw [List.mem_singleton.mp m] at r1;replace r1:=new.symm.trans r1;exact nos r1
   ·intro x i hx hkx
    have hkx':kindOf inner x=some .free:=by
     rcases hkx with q | q
     ·refine Qar hx λ kk g1 g2 _=>?_
      replace g2:=q.symm.trans g2;obtain rfl:=Option.some.inj g2
      exact absurd rfl (hnc _ (List.mem_of_getElem? g1))
     ·exact q
    obtain ⟨cc,ci,e1,e2,e3⟩:=hce x i hx hkx'
    exact ⟨cc,ci,e1,e2,QaR g2.pre e3⟩
  refine kz ?_;refine W.kla_eval (QdP ha hd) ?_
  cases hq:codeAmong pos tps.toList with
  | some cv=>
   refine byK λ Pz kz=>?_;obtain ⟨c',o,vs,t,rfl,hnt,ho,hdv,hv⟩:=hent pos cv hq
   refine kz ?_;refine W.kla_makeFunctionHit hcl F.glob hg hcode C1' htp htr hq hb λ ctv h' tk kp hsz=>?_
   have I':=I.ext kp
   refine fin h' c' ctv tk (Go.ext kp) I' hsz ⟨o,vs,t,kp _ _ ho,hdv,by refine htq.symm.substr ?_;exact hv,λ m=>?_,hnt⟩
   exact I.noFields m o vs ho hdv
  | none=>
   refine W.kla_makeFunction hcl F.glob hg hcode C1' htp htr hq zq.2.1 hb λ c' ctv h' tk hx hge' hlt hrec htb=>?_
   refine byK λ Pz kz=>?_;obtain ⟨c2,o,vs,t,e,ho,hdv,hv⟩:=hrec
   injection e with e;subst e
   have hold:s.heap.get? c'=none:=by
    cases q:s.heap.get? c' with
    | none=>rfl
    | some o=>exact absurd (Heap.lt_size q) (Nat.not_lt.mpr hge')
   have hnt:∀ q∈B.tabs,c'≠q.2:=λ q m z=>by
    obtain ⟨_,ps',y,_⟩:=I.tabs q m
    simp only [<- z,hold] at y;contradiction
   obtain ⟨go,I'⟩:=I.tabbed hx ⟨c,hm⟩ htb (by simp only [Array.toList_append];exact QeO _ _ _ htr) (λ p cv hcv=>by
    rw [Array.toList_append] at hcv
    rcases QhU htr hcv with q | q
    ·obtain ⟨c1,o1,vs1,t1,a1,a2,a3,a4,a5⟩:=hent p cv q
     exact ⟨c1,o1,vs1,t1,a1,a2,hx _ _ (a2 _ hm) a3,a4,a5⟩
    ·exact ⟨c',o,vs,t,q,hnt,ho,hdv,by refine htq.substr ?_;exact hv⟩)
   exact kz (fin h' c' ctv tk go I' (Nat.le_trans hge' (Nat.le_of_lt hlt)) ⟨o,vs,t,ho,hdv,hv,I.new_nin hold,hnt⟩)
 ·exact T.stuck
end
section
open PySem PySem.Calls PyProof.Rows
variable {B:Bs}{fr:List PySem.Env}{A:Around}{L:Addr}{X:List Addr}{ι:List Addr}{σ:List O}{s:Shared}
theorem QaF {h:Heap}(I:Inv B fr ι σ h) {a:Addr}(m:a∈frs fr) {Z:Prop}(k0:∀ o,h.get? a=some o->Qfd o->Z):Z:=by
 obtain ⟨env,m,e⟩:=List.mem_filterMap.mp m
 obtain ⟨k,L,o,es,ep,e',n,ni,nt,sk,g,d⟩:=I.frames env m
 clear sk nt ni n k m I;rw [e] at e';obtain rfl:=Option.some.inj e'
 exact k0 o g ⟨es,ep,d⟩
theorem Qdl {x:Str}{i:Nat}{V0:V}{v:Value}{env:PySem.Env}{ρ:Env}(hX:env.locals∈X) (hi:Qaf env.scope x=some i) (hk:kindOf env.scope x=some .local)
  (F:FrameRel B ι s.heap env ρ) (I:Inv B fr ι σ s.heap) (hv:Val B ι s.heap V0 v):T B fr A L X (storeName env x v) (Qaq i V0 ρ) (λ ι h ρ' _=>FrameRel B ι h env ρ') ι σ s:=by
 obtain ⟨m,hn,hm⟩:=F.ns
 refine Qar hi λ kk g1 g2 g3=>?_
 have hlen:i<ρ.length:=by simp only [F.len];exact g3
 intro _
 unfold Qaq
 refine (if_pos hlen).substr ?_
 refine wpAny_storeName_local hk hn (λ h' hn' hs=>?_) (by refine F.kind.substr ?_;rfl)
 refine byK λ Pz kz=>?_;obtain ⟨o,es,ep,e,d,kkk⟩:=hn
 refine kz ?_;refine byK λ Pz kz=>?_;obtain ⟨o',es',ep',e',d',kkk'⟩:=id hn'
 obtain ⟨go,I'⟩:=I.other (F:=frs fr) (X:=X) hs F.Lni F.Lg F.Lt (λ o2 h2 ht=>by
  rw [e] at h2;obtain rfl:=Option.some.inj h2;obtain ⟨_,its,ep2,q⟩:=ht;replace q:=d.symm.trans q;contradiction) (λ b hb o2 vs h2 h3=>by
  rw [List.mem_singleton.mp hb,e] at h2;obtain rfl:=Option.some.inj h2;replace h3:=d.symm.trans h3;contradiction) ⟨o',e'⟩ (λ _=>⟨o',e',es',ep',kkk'.1,d'⟩)
 have go':Go B (frs fr) X ι s.heap ι h':=go.wide (λ a m=>by rcases List.mem_cons.mp m with rfl | m;exact hX;exact m)
 refine kz ?_;refine ⟨_,_,ι,rfl,go',I',?_,⟨rfl,rfl,rfl⟩⟩
 refine ⟨F.kind,F.glob,F.blt,by exact List.length_set.trans F.len,F.Lni,F.Lg,F.Lt,⟨_,hn',λ y j hj hky=>?_⟩,λ y j hj hky=>?_⟩
 ·by_cases q:j=i
  ·clear kz;subst q
   have:y=x:=Qba hj hi
   subst this
   refine (List.getElem?_set_self hlen).substr ?_
   exact ⟨v,if_pos rfl,hv.mono go I.tabs.nt⟩
  ·refine (List.getElem?_set_ne (λ z=>q z.symm)).substr ?_
   have hyx:y≠x:=λ z=>by subst z;replace hj:=hi.symm.trans hj;obtain rfl:=Option.some.inj hj;exact q rfl
   have:=hm y j hj hky
   split<;>rename_i z<;>simp only [z] at this
   ·obtain ⟨w,a,b⟩:=this
    exact ⟨w,by exact (if_neg hyx).trans a,b.mono go I.tabs.nt⟩
   ·exact (if_neg hyx).trans this
 ·obtain ⟨c,ci,a,b,d⟩:=F.cells y j hj hky
  refine ⟨c,ci,a,?_,d⟩
  have q:i≠j:=λ z=>by
   subst z
   have:y=x:=Qba hj hi
   clear hj a go' I' go kkk' d' e' kkk d e hs hn' hlen g3 g2 g1 hm hv I F hi hX;subst this
   rw [hk] at hky
   rcases hky with h | h<;>cases h
  exact (List.getElem?_set_ne q).trans b
theorem Qeo {x:Str}{i:Nat}{V0:V}{v:Value}{env:PySem.Env}{ρ:Env}(hX:env.locals∈X) (hi:Qaf env.scope x=some i) (hk:kindOf env.scope x=some .local)
  (F:FrameRel B ι s.heap env ρ) (I:Inv B fr ι σ s.heap) (hv:Val B ι s.heap V0 v):T B fr A L X (bindName env x v) (Qaq i V0 ρ) (λ ι h ρ' _=>FrameRel B ι h env ρ') ι σ s:=by
 refine T.pre (t:=storeName env x v) (λ Q E h=>?_) (Qdl hX hi hk F I hv)
 exact wpAny_bind (wpAny_holding (wpAny_point (wpAny_bind (wpAny_mono h (λ _ _ z=>wpAny_point z) λ _ _ z=>z))))
theorem Qb8 {x:Str}{i:Nat}{pos:Pos}{V0:V}{v:Value}{env:PySem.Env}{ρ:Env}(hX:env.locals∈X) (hi:Qaf env.scope x=some i) (hk:kindOf env.scope x=some .local)
  (F:FrameRel B ι s.heap env ρ) (I:Inv B fr ι σ s.heap) (hv:Val B ι s.heap V0 v):T B fr A L X (PySem.assign (.Name x pos) env v) (Qaq i V0 ρ) (λ ι h ρ' _=>FrameRel B ι h env ρ') ι σ s:=by
 exact T.at (Qeo hX hi hk F I hv)
theorem Qel {env:PySem.Env}(hX:env.locals∈X):∀ {xs:List (Str×Pos)}{is:List Nat}{ρ:Env}{Vs:List V}{vs:List Value}{ι:List Addr}{σ:List O}{s:Shared},
  (∀ (j:Nat) x i,xs[j]?=some x->is[j]?=some i->Qaf env.scope x.1=some i/\kindOf env.scope x.1=some .local)->xs.length=is.length->FrameRel B ι s.heap env ρ->Inv B fr ι σ s.heap->Vals B ι s.heap Vs vs →
  T B fr A L X (assignInOrder (xs.map λ x=>PySem.assign (.Name x.1 x.2) env) vs) (setLocs is Vs ρ) (λ ι h ρ' _=>FrameRel B ι h env ρ') ι σ s
 | [],is,ρ,Vs,vs,ι,σ,s,_,hl,F,I,hv=>by
  cases is with
  | cons=>contradiction
  | nil=>
   cases Vs with
   | nil=>exact T.ret rfl I F
   | cons=>exact T.stuck
 | x::xs,is,ρ,Vs,vs,ι,σ,s,h,hl,F,I,hv=>by
  cases is with
  | nil=>contradiction
  | cons i is=>
   cases Vs with
   | nil=>exact T.stuck
   | cons V0 Vs=>
    obtain ⟨v,r,rfl,h1,h2⟩:=hv
    have zq:=h 0 x i rfl rfl
    refine T.bind (T.hold (Qb8 hX zq.1 zq.2 F I h1)) λ ρ' _ ι₁ σ₁ s₁ _ g₁ I₁ r₁ _=>?_
    exact Qel hX (λ j y k hy hk=>h (j+1) y k hy hk) (by simpa using hl) r₁ I₁ (h2.mono g₁ I.tabs.nt)
theorem QbD {sc:Scope}:∀ {ts:List Expr}{is:List Nat},Qbu sc ts=some is->∀ {Z:Prop},(∀ xs:List (Str×Pos),(ts=xs.map (λ x=>.Name x.1 x.2))->(xs.length=is.length)->(∀ (j:Nat) x i,xs[j]?=some x->is[j]?=some i->Qaf sc x.1=some i/\kindOf sc x.1=some .local)->Z)->Z
 | [],is,h,_,k0=>by obtain rfl:=Option.some.inj h;exact k0 [] rfl rfl (by simp)
 | e::r,is,h,_,k0=>by
  change (match qNm e with | some q=>if kindOf sc q.1=some .local then (do let i <- Qaf sc q.1;let l <- Qbu sc r;pure (i::l)) else none | none=>none)=some is at h
  cases hq:qNm e with
  | none=>rw [hq] at h;exact nos h
  | some q=>
   replace h:=hq▸h
   dsimp only at h
   split at h
   ·rename_i hk
    obtain ⟨i,hi,h⟩:=Option.bind_eq_some_iff.mp h
    obtain ⟨l,hl,h⟩:=Option.bind_eq_some_iff.mp h
    obtain rfl:=Option.some.inj h
    refine QbD hl λ xs e1 e2 e3=>?_
    refine k0 (q::xs) (by simp only [e1,Qbw hq];rfl) (congrArg (·+1) e2) (λ j y k hy hk'=>?_)
    cases j with
    | zero=>obtain rfl:=Option.some.inj hy;obtain rfl:=Option.some.inj hk';exact ⟨hi,hk⟩
    | succ j=>exact e3 j y k hy hk'
   ·exact nos h
theorem Qa1 {env:PySem.Env}:∀ (xs:List (Str×Pos)),assignEach (xs.map (λ x=>Expr.Name x.1 x.2)) env=xs.map λ x=>(false,PySem.assign (.Name x.1 x.2) env)
 | []=>rfl
 | x::r=>by
  simp only [List.map_cons,List.map_cons,<- Qa1 r];rfl
theorem Qi8 {env:PySem.Env}{xs:List (Str×Pos)}{is:List Nat}{ρ:Env}{l:List V}{v:Value}{pos:Pos}{kk:Nat}(R:Room A) (hX:env.locals∈X)
  (h:∀ (j:Nat) x i,xs[j]?=some x->is[j]?=some i->Qaf env.scope x.1=some i/\kindOf env.scope x.1=some .local) (hl:xs.length=is.length) (F:FrameRel B ι s.heap env ρ) (I:Inv B fr ι σ s.heap)
  (hv:Val B ι s.heap (.tup l) v):
  T B fr A L X (PySem.assign (.Tuple (xs.map (λ x=>.Name x.1 x.2)) kk pos) env v) (if l.length=is.length then setLocs is l ρ else M.stuck) (λ ι h ρ' _=>FrameRel B ι h env ρ') ι σ s:=by
 by_cases hll:l.length=is.length
 ·refine (if_pos hll).substr ?_
  rw [arm_assign_Tuple,Qa1]
  refine T.at ?_
  obtain ⟨a,its,rfl,hni,⟨n,g⟩,f⟩:=hv
  intro hb
  refine wpAny_unpack_tuple (items:=its.toArray) R.hand ⟨_,g,rfl,n,rfl⟩ (by simp [f.len,hl,hll]) (by simp) λ h' hx=>?_
  have kp:∀ b o,s.heap.get? b=some o->h'.get? b=some o:=λ b o e=>hx b o (Nat.ne_of_lt (Heap.lt_size e)) e
  have go:Go B (frs fr) X ι s.heap ι h':=Go.ext kp
  have:=Qel (A:=A) (L:=L) hX h hl (F.mono (F:=frs fr) (X:=[]) (Go.ext kp) I.tabs.nt (by simp):FrameRel B ι h' env ρ) (s:={ s with heap:=h' }) (I.ext kp) (f.mono go I.tabs.nt)
  refine ((show (xs.map λ x=>((false,PySem.assign (.Name x.1 x.2) env):Bool×(Value->Sem Unit))).map (λ x=>x.2)=xs.map λ x=>PySem.assign (.Name x.1 x.2) env from by refine List.map_map.substr ?_;rfl)).symm▸?_
  exact wpAny_mono (this hb) (λ _ _ q=>TQ.up (ι:=ι) (s':={ s with heap:=h' }) go ⟨rfl,rfl,rfl⟩ rfl q) λ _ _ q=>TE.up (ι:=ι) (s':={ s with heap:=h' }) go ⟨rfl,rfl,rfl⟩ rfl q
 ·refine (if_neg hll).substr ?_;exact T.stuck
end
section
open PySem PySem.Calls PyProof.Rows
variable {B:Bs}{fr:List PySem.Env}
theorem Qbq (scope:Scope) (env:PySem.Env) (x:Str):Qaf (relabel scope env) x=Qaf scope x:=by
 unfold Qaf relabel
 refine (List.findIdx?_map).substr ?_
 congr 1
 funext p
 simp only [Function.comp]
 split<;>rfl
theorem Qbe (scope:Scope) (env:PySem.Env) (x:Str):kindOf (relabel scope env) x=kindOf scope x∨(kindOf scope x=some .free/\kindOf (relabel scope env) x=some .cell):=by
 have key:∀ l:List (Str×NameKind),(l.map λ (n,k)=>if (k==NameKind.free&&env.scope.kind==.function&&env.kindOf n==some .cell) then (n,NameKind.cell) else (n,k)).lookup x=l.lookup x ∨
   (l.lookup x=some .free/\(l.map λ (n,k)=>if (k==NameKind.free&&env.scope.kind==.function&&env.kindOf n==some .cell) then (n,NameKind.cell) else (n,k)).lookup x=some .cell):=by
  intro l
  induction l with
  | nil=>exact .inl rfl
  | cons p r ih=>
   obtain ⟨n,k⟩:=p
   refine List.map_cons.substr ?_
   by_cases hx:(x==n)=true
   ·by_cases hc:(k==NameKind.free&&env.scope.kind==.function&&env.kindOf n==some .cell)=true
    ·right
     dsimp only
     refine (if_pos hc).substr ?_;refine List.lookup_cons.substr ?_;refine List.lookup_cons.substr ?_;refine hx.substr ?_
     simp only [Bool.and_eq_true,beq_iff_eq] at hc
     exact ⟨by exact congrArg _ hc.1.1,rfl⟩
    ·left
     dsimp only
     refine (if_neg hc).substr ?_;refine List.lookup_cons.substr ?_;refine List.lookup_cons.substr ?_;refine hx.substr ?_;rfl
   ·skip
    have e1:∀ (c:Prop) [Decidable c],List.lookup x ((if c then (n,NameKind.cell) else (n,k))::List.map (λ p:Str×NameKind=>match p with | (n,k)=>if (k==NameKind.free&&env.scope.kind==.function&&env.kindOf n==some .cell)=true then (n,NameKind.cell) else (n,k)) r)=
      List.lookup x (List.map (λ p:Str×NameKind=>match p with | (n,k)=>if (k==NameKind.free&&env.scope.kind==.function&&env.kindOf n==some .cell)=true then (n,NameKind.cell) else (n,k)) r):=by
     intro c _
     split<;>rw [List.lookup_cons,(eq_false_of_ne_true hx)]
    simp only [e1,List.lookup_cons,(eq_false_of_ne_true hx)]
    exact ih
 exact key _
theorem M.assoc {α β γ:Type}(m:M α) (f:α->M β) (g:β->M γ):M.bind (M.bind m f) g=M.bind m λ a=>M.bind (f a) g:=by
 funext σ;unfold M.bind;cases m σ<;>rfl
theorem M.ret_bind {α β:Type}(a:α) (f:α->M β):M.bind (M.ret a) f=f a:=rfl
theorem QbC {α β:Type}{m:M α}{f:α->M β}{σ:List O}(h:M.noExc (M.bind m f) σ≠.bad) {Z:Prop}(k0:∀ a σ',m σ=.ok a σ'->M.noExc (M.bind m f) σ=M.noExc (f a) σ'->Z):Z:=by
 unfold M.noExc M.bind at h
 cases q:m σ with
 | ok a σ'=>exact k0 a σ' q (by unfold M.noExc M.bind;rw [q])
 | exc a b c=>rw [q] at h;exact absurd rfl h
 | bad=>rw [q] at h;exact absurd rfl h
theorem QiO {α:Type}{m:M α}{σ:List O}{a b:V}{c:List O}:M.noExc m σ≠.exc a b c:=by
 unfold M.noExc;cases m σ<;>nofun
theorem Qhy {ι:List Addr}{h:Heap}{a:Addr}{ob:Obj}(e:h.get? a=some ob) (hT:¬ QbR ob):Mo B [] [a] ι h (ι++[a]) h:=⟨List.prefix_append _ _,λ b o e' n t f=>by
   refine ⟨e',λ m=>?_⟩
   rcases List.mem_append.mp m with m | m
   ·exact n m
   ·have:=List.mem_singleton.mp m
    clear m t n;clear m;subst this
    rw [e] at e';obtain rfl:=Option.some.inj e'
    rcases f with f | f
    ·exact hT f
    ·exact f.1 (.head _)⟩
theorem Inv.adopt {ι:List Addr}{σ:List O}{h:Heap}{a:Addr}{o:O}{ob:Obj}(I:Inv B fr ι σ h) (hn:a ∉ ι) (hg:B.g.get? a=none) (ht:∀ q∈B.tabs,a≠q.2) (hf:a ∉ frs fr) (e:h.get? a=some ob) (hT:¬ QbR ob) (hD:∀ vs,ob.data≠.fields vs)
  (ho:ObjAt B (ι++[a]) h a o):Inv B fr (ι++[a]) (σ++[o]) h where
 keep:=I.keep
 fresh:=λ b m=>by
  rcases List.mem_append.mp m with m | m
  ·exact I.fresh b m
  ·exact Eq.trans (congrArg _ (List.mem_singleton.mp m)) hg
 nodup:=by
  rw [List.nodup_append]
  refine ⟨I.nodup,by simp,λ x m y n=>?_⟩
  simp only [List.mem_singleton.mp n]
  rintro rfl
  exact hn m
 len:=by simp [I.len]
 objs:=λ i b o' e1 e2=>by
  have mo:Mo B [] [a] ι h (ι++[a]) h:=⟨List.prefix_append _ _,λ b o e' n t f=>by
   refine ⟨e',λ m=>?_⟩
   rcases List.mem_append.mp m with m | m
   ·exact n m
   ·have:=List.mem_singleton.mp m
    clear t hg hn;subst this
    rw [e] at e';obtain rfl:=Option.some.inj e'
    rcases f with f | f
    ·exact hT f
    ·exact f.1 (.head _)⟩
  rw [List.getElem?_append] at e1 e2
  replace e1:=I.len▸e1
  split at e1
  ·rename_i hi
   rw [if_pos hi] at e2
   exact (I.objs i b o' e1 e2).mono' mo I.tabs.nt rfl (λ c hc o2 vs h1 h2=>by
    rw [List.mem_singleton.mp hc,e] at h1;obtain rfl:=Option.some.inj h1;exact absurd h2 (hD vs))
  ·rename_i hi
   rw [if_neg hi] at e2
   have q:i - σ.length=0:=by
    have:=(List.getElem?_eq_some_iff.mp e1).1
    simpa using this
   rw [q] at e1 e2
   simp at e1 e2
   subst e1;subst e2;exact ho
 frames:=λ env m=>by
  refine byK λ Pz kz=>?_;obtain ⟨k,L,o,es,ep,e',n,ni,nt,sk,g,d⟩:=I.frames env m
  refine kz ?_;refine ⟨k,L,o,es,ep,e',n,λ m'=>?_,nt,sk,g,d⟩
  rcases List.mem_append.mp m' with m' | m'
  ·exact ni m'
  ·exact hf (by refine (List.mem_singleton.mp m')▸?_;exact List.mem_filterMap.mpr ⟨env,m,e'⟩)
 tabs:=I.tabs
 notab:=λ q m n=>by
  rcases List.mem_append.mp n with n | n
  ·exact I.notab q m n
  ·exact ht q m (List.mem_singleton.mp n).symm
section
variable {D U:Nat}{call:V->List V->M V}
structure Aside (B:Bs) (fr:List PySem.Env) (s₁:Shared) (a:Addr):Prop where
 new:s₁.heap.get? a=none
 g:B.g.get? a=none
 t:∀ q∈B.tabs,a≠q.2
 f:a ∉ frs fr
structure CompAt (B:Bs) (fr:List PySem.Env) (cenv:PySem.Env) (a It Ac:Addr) (ι₁:List Addr) (s₁:Shared) (k:Nat) (ρ:Env) (ι:List Addr) (σ:List O) (vs:List V) (s:Shared):Prop where
 go:Go B (frs fr) [] ι₁ s₁.heap ι s.heap
 inv:Inv B fr ι σ s.heap
 fr:FrameRel B ι s.heap cenv ρ
 it:s.heap.IsListIter It a k
 itn:It ∉ ι
 ac:Ex2 λ ys n=>s.heap.get? Ac=some { cls:=.type "list", data:=.seq ys n }/\Vals B ι s.heap vs ys.toList
 acn:Ac ∉ ι
 same:Same s₁ s
 len:vs.length<=k
variable {cenv:PySem.Env}{a It Ac:Addr}{ι₁:List Addr}{s₁:Shared}{A:Around}
theorem CompAt.step {k:Nat}{ρ ρ':Env}{ι ι':List Addr}{σ σ':List O}{vs:List V}{s s':Shared}(x:CompAt B fr cenv a It Ac ι₁ s₁ k ρ ι σ vs s) (hI:Aside B fr s₁ It) (hA:Aside B fr s₁ Ac)
  (hIC:It≠cenv.locals) (hAC:Ac≠cenv.locals)
  (g:Go B (frs fr) [cenv.locals] ι s.heap ι' s'.heap) (i:Inv B fr ι' σ' s'.heap) (hC:Aside B fr s₁ cenv.locals) (f:FrameRel B ι' s'.heap cenv ρ') (sm:Same s s'):CompAt B fr cenv a It Ac ι₁ s₁ k ρ' ι' σ' vs s':=by
 refine byK λ Pz kz=>?_;obtain ⟨ys,n,ha,hv⟩:=x.ac
 refine kz ?_;refine byK λ Pz kz=>?_;obtain ⟨oi,e,hc,hd⟩:=x.it
 have gI:=g.get e x.itn hI.t (.inr ⟨by simpa using hIC,.inl λ ⟨es,ep,q⟩=>by rw [hd] at q;contradiction⟩)
 have gA:=g.get ha x.acn hA.t (.inr ⟨by simpa using hAC,.inl λ ⟨es,ep,q⟩=>by contradiction⟩)
 refine kz ?_;refine ⟨?_,i,f,⟨oi,gI.1,hc,hd⟩,gI.2,⟨ys,n,gA.1,hv.mono g x.inv.tabs.nt⟩,gA.2,x.same.trans sm,x.len⟩
 refine ⟨x.go.pre.trans g.pre,λ b m n=>?_,λ b o e=>?_⟩
 ·by_cases q:b∈ι
  ·exact x.go.newf b q n
  ·exact x.go.older b (g.newf b m q)
 ·obtain ⟨o₁,e₁,k₁⟩:=x.go.step b o e
  obtain ⟨o₂,e₂,k₂⟩:=g.step b o₁ e₁
  refine ⟨o₂,e₂,λ n t=>?_⟩
  have hbC:b≠cenv.locals:=λ q=>by clear e₂ e₁ gA gI hd hc hv ha sm f i g hAC hIC hA hI x;subst q;replace e:=hC.new.symm.trans e;contradiction
  exact (k₁ n t).trans (⟨λ z=>(k₂ (λ q=>by have:=x.go.newf b q n;replace this:=e.symm.trans this;contradiction) t).1 (z.imp id λ w=>⟨by simpa using hbC,w.2⟩),λ _=>(k₂ (λ q=>by have:=x.go.newf b q n;replace this:=e.symm.trans this;contradiction) t).2 (by simpa using hbC)⟩)
theorem CompAt.next {bd:Env->V->M (Env×List V)}{i:Nat}{tot:RS (List V)}{w k:Nat}{ρ:Env}{ι:List Addr}{σ:List O}{vs:List V}{s:Shared}(x:CompAt B fr cenv a It Ac ι₁ s₁ k ρ ι σ vs s) (R:Room A) (hI:Aside B fr s₁ It) (hA:Aside B fr s₁ Ac) (hIC:It≠cenv.locals) (hIA:It≠Ac)
  (hne:tot≠.bad) (ht:tot=M.noExc (M.bind (compLoop bd i w k ρ) λ l=>M.ret (vs++l)) σ) (hai:ι[i]?=some a) (hC:Aside B fr s₁ cenv.locals)
  (Q:Option Value->Shared->Prop) (E:Value->Shared->Prop)
  (h0:∀ s',Go B (frs fr) [] ι₁ s₁.heap ι s'.heap->Inv B fr ι σ s'.heap->(Ex2 λ ys n=>s'.heap.get? Ac=some { cls:=.type "list", data:=.seq ys n }/\Vals B ι s'.heap vs ys.toList)->Ac ∉ ι->Same s₁ s'->((∃ m,s'.heap.Ns cenv.locals m)/\cenv.locals ∉ ι)->tot=.ok vs σ->Q none s')
  (h1:∀ w' V0 v s',w=w'+1->CompAt B fr cenv a It Ac ι₁ s₁ (k+1) ρ ι σ vs s'->vs.length<=k->Val B ι s'.heap V0 v →
   tot=M.noExc (M.bind (bd ρ V0) λ p=>M.bind (compLoop bd i w' (k+1) p.1) λ l=>M.ret (vs++(p.2++l))) σ->Q (some v) s'):
  wpAny (model B.prog B.w) A (pyNext (.ref It)) Q E s:=by
 cases w with
 | zero=>replace hne:=ht▸hne;exact absurd rfl hne
 | succ w=>
  have e0:tot=M.noExc (M.bind (getL i) λ l=>M.bind (match l[k]? with
    | none=>M.ret []
    | some v=>M.bind (bd ρ v) λ p=>M.bind (compLoop bd i w (k+1) p.1) λ l=>M.ret (p.2++l)) λ l=>M.ret (vs++l)) σ:=by
   refine ht.substr ?_;refine (show compLoop bd i (w+1) k ρ=M.bind (getL i) λ l=>(match l[k]? with
    | none=>M.ret []
    | some v=>M.bind (bd ρ v) λ p=>M.bind (compLoop bd i w (k+1) p.1) λ l=>M.ret (p.2++l)) from rfl).substr ?_;rw [M.assoc]
  replace hne:=e0▸hne
  refine byK λ Pz kz=>?_;refine QbC hne λ l σ' q1 q2=>?_
  obtain ⟨el,rfl⟩:=QkW q1
  simp only [q2] at e0
  obtain ⟨oi,e,hc,hd⟩:=x.it
  have I:=x.inv
  refine kz ?_;refine byK λ Pz kz=>?_;obtain ⟨a',ea,its,n,g,f⟩:=I.get el
  rw [hai] at ea;obtain rfl:=Option.some.inj ea
  have hnT:∀ o,s.heap.get? It=some o->¬ QbR o:=λ o h z=>by replace h:=e.symm.trans h;obtain rfl:=Option.some.inj h;obtain ⟨_,a,b,z⟩:=z;rw [hd] at z;contradiction
  have hnC:NoCode [It] s.heap:=λ b hb o vs h1 h2 q t z=>by
   replace h1:=e▸(List.mem_singleton.mp hb)▸h1;obtain rfl:=Option.some.inj h1;rw [hd] at h2;injection h2 with h2;subst h2;simp at z
  obtain ⟨ys,n2,ha,hv⟩:=x.ac
  have hCdict:Ex3 λ o es ep=>s.heap.get? cenv.locals=some o/\o.data=.dict es ep:=by
   refine byK λ Pz kz=>?_;obtain ⟨m,⟨o,es,ep,z,d,_⟩,_⟩:=x.fr.ns;exact kz (⟨o,es,ep,z,d⟩)
  refine kz ?_;cases hk:l[k]? with
  | none=>
   rw [hk] at e0
   have hk':its[k]?=none:=by
    rw [List.getElem?_eq_none_iff] at hk
    have:=f.len
    simp only [Array.length_toList] at this
    rw [Array.getElem?_eq_none_iff];simp_all
   refine wpAny_pyNext_list_end R.hand x.it ⟨_,g,rfl,n,rfl⟩ hk' λ h' hx=>?_
   have I':=I.extBut hx x.itn hI.g hI.t hnT hnC hI.f
   refine h0 _ (x.go.after λ b o o₁ z1 z2=>hx b o₁ (λ q=>by rw [q,hI.new] at z1;contradiction) z2) I' ⟨ys,n2,hx _ _ (Ne.symm hIA) ha,?_⟩ x.acn x.same ?_ ?_
   ·have mo:Mo B [] [It] ι s.heap ι h':=⟨List.prefix_refl _,λ b o e2 n t f=>by
     refine ⟨hx b o (λ q=>?_) e2,n⟩
     clear t I' hk' hCdict hd hc e el q2 q1 ht hne h0 hC hai hA R;subst q
     rcases f with f | f
     ·exact hnT o e2 f
     ·exact f.1 (.head _)⟩
    exact Vals.mono' mo I.tabs.nt hv
   ·obtain ⟨m,hn,_⟩:=x.fr.ns
    exact ⟨⟨m,hn.extBut hx (Ne.symm hIC)⟩,x.fr.Lni⟩
   ·refine e0.substr ?_;simp [M.bind,M.ret,M.noExc]
  | some V0=>
   rw [hk] at e0
   refine byK λ Pz kz=>?_;obtain ⟨v,hv0,hval⟩:=f.get hk
   refine kz ?_;refine wpAny_pyNext_list_item x.it ⟨_,g,rfl,n,rfl⟩ (by simpa using hv0) λ h' hit hs=>?_
   have zq:=I.other (F:=frs fr) (X:=[]) hs x.itn hI.g hI.t hnT hnC (let ⟨o,z,_⟩:=hit;⟨o,z⟩) (λ m=>absurd m hI.f)
   refine h1 w V0 v _ rfl ⟨(x.go.after λ b o o₁ z1 z2=>(hs.2 b λ q=>by rw [q,hI.new] at z1;contradiction).trans z2),zq.2,x.fr.mono zq.1 I.tabs.nt (by simpa using Ne.symm hIC),hit,x.itn,⟨ys,n2,(hs.2 _ (Ne.symm hIA)).trans ha,hv.mono zq.1 I.tabs.nt⟩,x.acn,x.same,Nat.le_succ_of_le x.len⟩ x.len (hval.mono zq.1 I.tabs.nt) ?_
   refine e0.substr ?_
   rw [M.assoc]
   congr 1
   funext σ2
   unfold M.bind
   cases bd ρ V0 σ2 with
   | ok p σ3=>
    dsimp only
    cases compLoop bd i w (k+1) p.1 σ3<;>rfl
   | exc _ _ _=>rfl
   | bad=>rfl
end
end
section
open PySem PySem.Calls PyProof.Rows
variable {B:Bs}{fr:List PySem.Env}{cenv:PySem.Env}{a It Ac:Addr}{ι₁:List Addr}{s₁:Shared}{A:Around}
theorem CompAt.put {k:Nat}{ρ:Env}{ι:List Addr}{σ:List O}{vs:List V}{s:Shared}(x:CompAt B fr cenv a It Ac ι₁ s₁ k ρ ι σ vs s) (hA:Aside B fr s₁ Ac) (hAC:Ac≠cenv.locals) (hIA:It≠Ac) {V0:V}{v:Value}(hv:Val B ι s.heap V0 v) (hl:vs.length+1<=k) (hc:vs.length<=cap)
  (Q:Value->Shared->Prop) (E:Value->Shared->Prop) (h:∀ s',CompAt B fr cenv a It Ac ι₁ s₁ k ρ ι σ (vs++[V0]) s'->Q .none s'):wpAny (model B.prog B.w) A (call (.builtin "list.append") [.ref Ac,v]) Q E s:=by
 refine byK λ Pz kz=>?_;obtain ⟨ys,n,ha,hvs⟩:=x.ac
 have hlen:=hvs.len
 simp only [Array.length_toList] at hlen
 refine kz ?_;refine Qc9 ha (by refine hlen.substr ?_;exact Qa8 hc) ?_
 have sb:Heap.SameBut Ac s.heap (s.heap.update Ac (Obj.mapSeq (·.push v))):=Heap.SameBut.update ..
 have hg:∃ n',(s.heap.update Ac (Obj.mapSeq (·.push v))).get? Ac=some { cls:=.type "list", data:=.seq (ys.push v) n' }:=⟨_,Heap.get?_update_self (Obj.mapSeq (·.push v)) ha rfl⟩
 obtain ⟨n',hg⟩:=hg
 obtain ⟨go,I'⟩:=x.inv.other (F:=frs fr) (X:=[]) sb x.acn hA.g hA.t (λ o h2 z=>by rw [ha] at h2;obtain rfl:=Option.some.inj h2;exact absurd z.1 (by simp)) (λ b hb o vs h2 h3=>by
  rw [List.mem_singleton.mp hb,ha] at h2;obtain rfl:=Option.some.inj h2;contradiction) ⟨_,hg⟩ (λ m=>absurd m hA.f)
 refine byK λ Pz kz=>?_;obtain ⟨oi,e,hci,hd⟩:=x.it
 refine kz ?_;refine h _ ⟨x.go.after λ b o o₁ z1 z2=>(sb.2 b λ q=>by rw [q,hA.new] at z1;exact nos z1).trans z2,I',x.fr.mono go x.inv.tabs.nt (by simpa using Ne.symm hAC),⟨oi,(sb.2 _ hIA).trans e,hci,hd⟩,x.itn,
  ⟨ys.push v,n',hg,?_⟩,x.acn,x.same,by simpa using hl⟩
 simp only [Array.toList_push]
 refine (hvs.mono go x.inv.tabs.nt).app ?_
 exact ⟨v,[],rfl,hv.mono go x.inv.tabs.nt,rfl⟩
theorem Qgd {X:M (List V)}{p L:List V}{σ σ':List O}(h:M.noExc (M.bind X λ l=>M.ret (p++l)) σ=.ok L σ'):p.length<=L.length:=by
 unfold M.noExc M.bind at h
 cases q:X σ with
 | ok l σ2=>replace h:=q▸h;injection h with h;subst h;simp
 | exc _ _ _=>rw [q] at h;contradiction
 | bad=>rw [q] at h;contradiction
noncomputable def Qdq (cx:Cx) (call:V->List V->M V) (n:Nat) (ts:List Nat) (single:Bool) (ifs:List CE) (elt:CE) (ρ:Env) (v:V):M (Env×List V):=
 M.bind (tgt ts single ρ v) λ ρ=>M.bind (Qe5 (tr cx call n ρ) ifs) λ b=>if b then M.bind (ev cx call n ρ elt) λ x=>M.ret (ρ,[x]) else M.ret (ρ,[])
theorem Qls {M:Model}{env:PySem.Env}{E:Value->Shared->Prop}{v:Value}{s:Shared}(h:False):notedBy M A env E v s:=h.elim
noncomputable def QeA (sc:Scope) (t:Expr) (ts:List Nat) (single:Bool):Prop:=
 (single=true/\Ex3 λ x p i=>And4 (t=.Name x p) (ts=[i]) (Qaf sc x=some i) (kindOf sc x=some .local)) ∨
 (single=false/\Ex3 λ (xs:List (Str×Pos)) (kk:Nat) (pos:Pos)=>And3 (t=.Tuple (xs.map λ x=>.Name x.1 x.2) kk pos) (xs.length=ts.length) (∀ (j:Nat) x i,xs[j]?=some x->ts[j]?=some i->Qaf sc x.1=some i/\kindOf sc x.1=some .local))
theorem QoH {L:Addr}{t:Expr}{ts:List Nat}{single:Bool}{ρ:Env}{V0:V}{v:Value}{ι:List Addr}{σ:List O}{s:Shared}(R:Room A) (ht:QeA cenv.scope t ts single) (F:FrameRel B ι s.heap cenv ρ) (I:Inv B fr ι σ s.heap) (hv:Val B ι s.heap V0 v):
  T B fr A L [cenv.locals] (PySem.assign t cenv v) (tgt ts single ρ V0) (λ ι h ρ' _=>FrameRel B ι h cenv ρ') ι σ s:=by
 rcases ht with ⟨rfl,x,p,i,rfl,rfl,h1,h2⟩ | ⟨rfl,xs,kk,pos,rfl,h1,h2⟩
 ·have:=Qb8 (A:=A) (L:=L) (X:=[cenv.locals]) (pos:=p) (by simp) h1 h2 F I hv
  exact (show tgt [i] true ρ V0=Qaq i V0 ρ from M.bind_ret (Qaq i V0 ρ)).substr this
 ·skip
  cases V0<;>first | exact T.stuck | skip
  exact Qi8 R (by simp) h2 h1 F I hv
theorem QfG {D U:Nat}{call:V->List V->M V}{L:Addr}{n k:Nat}{inner:Scope}{elt:Expr}{ts:List Nat}{single:Bool}{ifs:List CE}{i wf kk:Nat}{ρ:Env}{ι:List Addr}{σ:List O}{vs:List V}{s:Shared}{tot:RS (List V)}{Lf:List V}{σf:List O}
  (ih:Qgp B fr D U call n) (am:Amb fr D U { A with units:=A.units+8 * n }) (S:ScRel inner cenv) (hI:Aside B fr s₁ It) (hA:Aside B fr s₁ Ac) (hC:Aside B fr s₁ cenv.locals) (hIC:It≠cenv.locals) (hAC:Ac≠cenv.locals) (hIA:It≠Ac)
  (hL:tot=.ok Lf σf) (hcap:Lf.length<=cap) (x:CompAt B fr cenv a It Ac ι₁ s₁ (kk+1) ρ ι σ vs s) (hlen:vs.length<=kk)
  (ht:tot=M.noExc (M.bind (M.bind (ev B.cx call n ρ (comp k false inner elt)) λ x=>M.ret (ρ,[x])) λ p=>M.bind (compLoop (Qdq B.cx call n ts single ifs (comp k false inner elt)) i wf (kk+1) p.1) λ l=>M.ret (vs++(p.2++l))) σ)
  (E:Value->Shared->Prop):
  wpAny (model B.prog B.w) A (eval elt cenv) (λ x s₄=>wpAny (model B.prog B.w) A (PySem.call (.builtin "list.append") [.ref Ac,x]) (λ _ s₅=>∃ m,m<wf+1/\Ex5 λ kk ρ ι σ vs=>CompAt B fr cenv a It Ac ι₁ s₁ kk ρ ι σ vs s₅ ∧
   tot=M.noExc (M.bind (compLoop (Qdq B.cx call n ts single ifs (comp k false inner elt)) i m kk ρ) λ l=>M.ret (vs++l)) σ) E s₄) E s:=by
 rw [M.assoc] at ht
 have hne:tot≠.bad:=by refine hL.substr ?_;nofun
 rw [ht] at hne
 refine byK λ Pz kz=>?_;refine QbC hne λ V0 σ2 q1 q2=>?_
 replace ht:=ht.trans q2
 refine kz ?_;refine T.use (ih A L k false inner cenv elt ρ ι σ s trivial am S (by simp) x.fr x.inv) (by refine q1.substr ?_;nofun) (λ V1 v ι2 σ3 s2 e g I r sm=>?_) (λ v s' e=>?_)
 ·replace e:=q1.symm.trans e;refine byK λ Pz kz=>?_;obtain ⟨rfl,rfl⟩:=RS.ok.inj e
  have hp:(vs++[V0]).length<=Lf.length:=by
   refine Qgd (X:=compLoop (Qdq B.cx call n ts single ifs (comp k false inner elt)) i wf (kk+1) ρ) (p:=vs++[V0]) (σ:=σ2) (σ':=σf) ?_
   simp only [<- hL,ht]
   simp only [M.ret_bind]
   simp
  rw [List.length_append] at hp
  refine kz ?_;refine (x.step hI hA hIC hAC (g.wide (by simp)) I hC (x.fr.mono g x.inv.tabs.nt (by simp)) sm).put hA hAC hIA r (by simp_all) (by lia) _ _ λ s' x3=>⟨wf,Nat.lt_succ_self _,kk+1,ρ,ι2,σ2,vs++[V0],x3,?_⟩
  simp only [ht,M.ret_bind]
  simp
 ·refine byK λ Pz kz=>?_;obtain ⟨_,_,_,_,e,_⟩:=e
  replace e:=q1.symm.trans e;refine kz ?_;contradiction
theorem QiT {ifs:List Expr}(h:ifs.length<=1):ifs=[]∨∃ c,ifs=[c]:=by
 cases ifs with
 | nil=>exact .inl rfl
 | cons c r=>cases r with
  | nil=>exact .inr ⟨c,rfl⟩
  | cons=>exact absurd h (Nat.not_succ_le_zero _ ∘ Nat.le_of_succ_le_succ)
theorem QeZ {D U:Nat}{call:V->List V->M V}{L:Addr}{n k:Nat}{inner:Scope}{elt t iter:Expr}{ifs:List Expr}{pos:Pos}{ts:List Nat}{single:Bool}{i wf:Nat}{ρ':Env}{σ₁:List O}{s₄:Shared}{tot:RS (List V)}{Lf:List V}{σf:List O}
  (hU:U+100<cLine) (ih:Qgp B fr D U call n) (iht:Qh7 B fr D U call n) (am:Amb fr D U { A with units:=A.units+8 * n }) (S:ScRel inner cenv) (htg:QeA cenv.scope t ts single) (hifs:ifs.length<=1)
  (hI:Aside B fr s₁ It) (hA:Aside B fr s₁ Ac) (hC:Aside B fr s₁ cenv.locals) (hIC:It≠cenv.locals) (hAC:Ac≠cenv.locals) (hIA:It≠Ac) (hai:ι₁[i]?=some a)
  (hL:tot=.ok Lf σf) (hcap:Lf.length<=cap) (x0:CompAt B fr cenv a It Ac ι₁ s₁ 0 ρ' ι₁ σ₁ [] s₄)
  (ht:tot=M.noExc (M.bind (compLoop (Qdq B.cx call n ts single (ifs.map (comp k false inner)) (comp k false inner elt)) i wf 0 ρ') λ l=>M.ret ([]++l)) σ₁) (R':Result->Shared->Prop)
  (hfin:∀ ι s',Go B (frs fr) [] ι₁ s₁.heap ι s'.heap->Inv B fr ι σf s'.heap->(Ex2 λ ys n=>s'.heap.get? Ac=some { cls:=.type "list", data:=.seq ys n }/\Vals B ι s'.heap Lf ys.toList)->Ac ∉ ι->Same s₁ s'->((∃ m,s'.heap.Ns cenv.locals m)/\cenv.locals ∉ ι)->R' (.ok .next) s'):
  codeAny (model B.prog B.w) A (.compLoop (.ListComp elt [⟨t,iter,ifs,0⟩] inner pos) 0 (.ref It) (.ref Ac) cenv) R' s₄:=by
 have R:=am.of.room hU
 have hne:tot≠.bad:=by refine hL.substr ?_;nofun
 let LI:Nat->Shared->Prop:=λ w s=>Ex5 λ kk ρ ι σ vs=>CompAt B fr cenv a It Ac ι₁ s₁ kk ρ ι σ vs s ∧
  tot=M.noExc (M.bind (compLoop (Qdq B.cx call n ts single (ifs.map (comp k false inner)) (comp k false inner elt)) i w kk ρ) λ l=>M.ret (vs++l)) σ
 have start:LI wf s₄:=⟨0,ρ',ι₁,σ₁,[],x0,ht⟩
 have fin:∀ {ι σ vs s'},Go B (frs fr) [] ι₁ s₁.heap ι s'.heap->Inv B fr ι σ s'.heap->(Ex2 λ ys n=>s'.heap.get? Ac=some { cls:=.type "list", data:=.seq ys n }/\Vals B ι s'.heap vs ys.toList)->Ac ∉ ι->Same s₁ s'->((∃ m,s'.heap.Ns cenv.locals m)/\cenv.locals ∉ ι)->tot=.ok vs σ->R' (.ok .next) s':=by
  intro ι σ vs s' a1 a2 a3 a4 a5 a6 a7
  replace a7:=hL.symm.trans a7;obtain ⟨rfl,rfl⟩:=RS.ok.inj a7
  exact hfin ι s' a1 a2 a3 a4 a5 a6
 have tgtT:∀ {kk ρ ι σ vs s w V0 v}(E:Value->Shared->Prop) (Q:Unit->Shared->Prop),CompAt B fr cenv a It Ac ι₁ s₁ (kk+1) ρ ι σ vs s->Val B ι s.heap V0 v →
   tot=M.noExc (M.bind (Qdq B.cx call n ts single (ifs.map (comp k false inner)) (comp k false inner elt) ρ V0) λ p=>M.bind (compLoop (Qdq B.cx call n ts single (ifs.map (comp k false inner)) (comp k false inner elt)) i w (kk+1) p.1) λ l=>M.ret (vs++(p.2++l))) σ →
   (∀ ρ2 ι2 σ2 s2,CompAt B fr cenv a It Ac ι₁ s₁ (kk+1) ρ2 ι2 σ2 vs s2 →
    tot=M.noExc (M.bind (M.bind (Qe5 (tr B.cx call n ρ2) (ifs.map (comp k false inner))) λ b=>if b then M.bind (ev B.cx call n ρ2 (comp k false inner elt)) λ x=>M.ret (ρ2,[x]) else M.ret (ρ2,[]))
     λ p=>M.bind (compLoop (Qdq B.cx call n ts single (ifs.map (comp k false inner)) (comp k false inner elt)) i w (kk+1) p.1) λ l=>M.ret (vs++(p.2++l))) σ2->Q () s2) →
   wpAny (model B.prog B.w) A (letOwnedTupleGo t (.ref It) v) (λ _ s₀=>wpAny (model B.prog B.w) A (PySem.assign t cenv v) Q E s₀) E s:=by
  intro kk ρ ι σ vs s w V0 v E Q x hv htt k2
  refine letGo_listiter x.it ?_
  unfold Qdq at htt
  rw [M.assoc] at htt
  have hne2:=hne
  rw [htt] at hne2
  refine byK λ Pz kz=>?_;refine QbC hne2 λ ρ2 σ2 q1 q2=>?_
  refine kz ?_;refine T.use (L:=L) (QoH R htg x.fr x.inv hv) (by refine q1.substr ?_;nofun) (λ ρ3 u ι2 σ3 s2 e g I r sm=>?_) (λ v s' e=>?_)
  ·replace e:=q1.symm.trans e;obtain ⟨rfl,rfl⟩:=RS.ok.inj e
   exact k2 ρ2 ι2 σ2 s2 (x.step hI hA hIC hAC g I hC r sm) (by simp only [htt,q2];rfl)
  ·obtain ⟨_,_,_,_,e,_⟩:=e
   replace e:=q1.symm.trans e;contradiction
 rcases QiT hifs with rfl | ⟨c,rfl⟩
 ·refine W.kcp_loop LI (λ w s hLI=>?_) wf start
  refine byK λ Pz kz=>?_;obtain ⟨kk,ρ,ι,σ,vs,x,htt⟩:=hLI
  refine kz ?_;refine x.next R hI hA hIC hIA hne htt (QaR x.go.pre hai) hC _ _ (λ s' a1 a2 a3 a4 a5 a6 a7=>fin a1 a2 a3 a4 a5 a6 a7) λ w' V0 v s' hw x' hl hv ht'=>?_
  subst hw
  refine tgtT _ _ x' hv ht' λ ρ2 ι2 σ2 s2 x2 ht2=>?_
  exact QfG (L:=L) ih am S hI hA hC hIC hAC hIA hL hcap x2 hl ht2 _
 ·refine W.kct_loop LI (λ w s hLI=>?_) wf start
  obtain ⟨kk,ρ,ι,σ,vs,x,htt⟩:=hLI
  refine x.next R hI hA hIC hIA hne htt (QaR x.go.pre hai) hC _ _ (λ s' a1 a2 a3 a4 a5 a6 a7=>fin a1 a2 a3 a4 a5 a6 a7) λ w' V0 v s' hw x' hl hv ht'=>?_
  subst hw
  refine tgtT _ _ x' hv ht' λ ρ2 ι2 σ2 s2 x2 ht2=>?_
  have e1:Qe5 (tr B.cx call n ρ2) ([c].map (comp k false inner))=M.bind (tr B.cx call n ρ2 (comp k false inner c)) λ b=>if b then M.ret true else M.ret false:=rfl
  rw [e1,M.assoc,M.assoc] at ht2
  have hne2:=hne
  rw [ht2] at hne2
  refine byK λ Pz kz=>?_;refine QbC hne2 λ b0 σ3 q1 q2=>?_
  refine kz ?_;refine T.use (L:=L) (iht A L k false inner cenv c ρ2 ι2 σ2 s2 am S (by simp) x2.fr x2.inv) (by refine q1.substr ?_;nofun) (λ b2 c2 ι3 σ4 s3 e g I r sm=>?_) (λ v s' e=>?_)
  ·replace e:=q1.symm.trans e;obtain ⟨rfl,rfl⟩:=RS.ok.inj e
   subst r
   have x3:=x2.step hI hA hIC hAC (g.wide (by simp)) I hC (x2.fr.mono g x2.inv.tabs.nt (by simp)) sm
   rw [q2] at ht2
   clear I sm g q2 hne2 e1 x2 htt ht' hv x' x tgtT start ht hifs fin hne R hfin x0 hai htg iht hU;cases b0 with
   | true=>
    exact QfG (L:=L) ih am S hI hA hC hIC hAC hIA hL hcap x3 hl ht2 _
   | false=>
    exact ⟨w',Nat.lt_succ_self _,kk+1,ρ2,ι3,σ3,vs,x3,ht2⟩
  ·obtain ⟨_,_,_,_,e,_⟩:=e
   rw [q1] at e;contradiction
theorem QhD {D U:Nat}{call:V->List V->M V}{L:Addr}{n k:Nat}{inner:Scope}{sc:Scope}{env:PySem.Env}{elt t iter:Expr}{ifs:List Expr}{pos:Pos}{ρ:Env}{ts:List Nat}{single:Bool}{frl:List (Nat×Nat)}{m0:M V}{use:Option (Value->Sem Unit)}{Q:Value->Shared->Prop}{E:Value->Shared->Prop}{ι:List Addr}{σ:List O}{s:Shared}(wf:Nat)
  (hU:U+100<cLine) (ih:Qgp B fr D U call n) (iht:Qh7 B fr D U call n) (am:Amb fr D U { A with units:=A.units+8 * n }) (S:ScRel sc env) (F:FrameRel B ι s.heap env ρ) (I:Inv B fr ι σ s.heap)
  (hsc:QaZ inner=true) (hset:QbS iter=false) (hf:QaE inner sc=some frl) (htg:QeA inner t ts single) (hifs:ifs.length<=1)
  (h0:T B fr A L [] (eval iter env) m0 (VR B) ι σ s)
  (hb:(match Qae ρ frl (List.replicate inner.names.length none) with
    | some ρ'=>M.bind m0 λ v=>M.bind (asRef v) λ i=>M.bind (getL i) λ _=>M.bind (M.noExc (compLoop (Qdq B.cx call n ts single (ifs.map (comp k false inner)) (comp k false inner elt)) i wf 0 ρ')) QaQ
    | none=>M.stuck) σ≠.bad)
  (hE:∀ v s',TE B fr L [] ((match Qae ρ frl (List.replicate inner.names.length none) with
    | some ρ'=>M.bind m0 λ v=>M.bind (asRef v) λ i=>M.bind (getL i) λ _=>M.bind (M.noExc (compLoop (Qdq B.cx call n ts single (ifs.map (comp k false inner)) (comp k false inner elt)) i wf 0 ρ')) QaQ
    | none=>M.stuck) σ) ι s v s'->E v s')
  (hL:∀ Lf σf ι' s' D C,(match Qae ρ frl (List.replicate inner.names.length none) with
    | some ρ'=>M.bind m0 λ v=>M.bind (asRef v) λ i=>M.bind (getL i) λ _=>M.bind (M.noExc (compLoop (Qdq B.cx call n ts single (ifs.map (comp k false inner)) (comp k false inner elt)) i wf 0 ρ')) QaQ
    | none=>M.stuck) σ=.ok (.ref σf.length) (σf++[.list Lf])->Go B (frs fr) [] ι s.heap ι' s'.heap->Inv B fr ι' σf s'.heap →
   (Ex2 λ ys n=>s'.heap.get? D=some { cls:=.type "list", data:=.seq ys n }/\Vals B ι' s'.heap Lf ys.toList)->D ∉ ι'->Same s s'->((∃ m,s'.heap.Ns C m)/\C ∉ ι')->Aside B fr s D->Aside B fr s C->D≠C →
   compPost (model B.prog B.w) A E use Q (.ref D) C (.ok .next) s'):
  wpAny (model B.prog B.w) A (comprehension (.ListComp elt [⟨t,iter,ifs,0⟩] inner pos) inner env (firstIterPos [⟨t,iter,ifs,0⟩] pos) (newList []) (firstAsync [⟨t,iter,ifs,0⟩]) (firstIter [⟨t,iter,ifs,0⟩] env) use) Q E s:=by
 obtain ⟨hk,hco,hge,hnc⟩:=Qfw hsc
 obtain ⟨hcons,_⟩:=Qco hf
 cases he:Qae ρ frl (List.replicate inner.names.length none) with
 | none=>rw [he] at hb;exact absurd rfl hb
 | some ρ'=>
 rw [he] at hb hE hL
 dsimp only at hb hE hL ⊢
 refine Qc6 S F hf he λ hcl hlen hno hce=>?_
 refine wpAny_comprehension_free (use:=use) rfl (λ x=>?_) hcl hk (λ x hx hl=>?_) ?_
 ·cases iter<;>first | rfl | (contradiction;done)
 ·have:=hcons x hx;simp only [hl] at this;exact this
 refine T.use h0 (Qam hb) (λ v x ι₁ σ₁ s₁ q0 g₁ I₁ r₁ sm₁=>?_) (λ v s' e=>hE v s' (TE.bind e))
 replace hb:=(Qan q0)▸hb
 cases v with
 | ref i=>
  refine QaH (Qam hb) λ l0 el=>?_
  replace hb:=(Qan (Qbo el))▸hb
  refine Qa3 I₁ el r₁ ?_;rintro a its nn rfl ea ga fa
  have htot:Ex2 λ Lf σf=>M.noExc (compLoop (Qdq B.cx call n ts single (ifs.map (comp k false inner)) (comp k false inner elt)) i wf 0 ρ') σ₁=.ok Lf σf/\Lf.length<=cap:=by
   cases q:M.noExc (compLoop (Qdq B.cx call n ts single (ifs.map (comp k false inner)) (comp k false inner elt)) i wf 0 ρ') σ₁ with
   | ok Lf σf=>
    rw [Qan q] at hb
    refine ⟨Lf,σf,rfl,?_⟩
    unfold QaQ at hb
    by_cases z:Lf.length<=cap
    ·exact z
    ·rw [if_neg z] at hb;exact absurd rfl hb
   | exc a b c=>exact absurd q QiO
   | bad=>exfalso;exact hb (by unfold M.bind;refine q.substr ?_;rfl)
  refine byK λ Pz kz=>?_;obtain ⟨Lf,σf,hLf,hcap⟩:=htot
  refine kz ?_;generalize htt:M.noExc (compLoop (Qdq B.cx call n ts single (ifs.map (comp k false inner)) (comp k false inner elt)) i wf 0 ρ') σ₁=tot at hLf
  have hfin:M.bind m0 (λ v=>M.bind (asRef v) λ i=>M.bind (getL i) λ _=>M.bind (M.noExc (compLoop (Qdq B.cx call n ts single (ifs.map (comp k false inner)) (comp k false inner elt)) i wf 0 ρ')) QaQ) σ=.ok (.ref σf.length) (σf++[.list Lf]):=by
   refine (Qan q0).substr ?_
   show M.bind (getL i) _ σ₁=_
   refine (Qan (Qbo el)).substr ?_;refine (Qan (htt.trans hLf)).substr ?_
   unfold QaQ
   refine (if_pos hcap).substr ?_;rfl
  have new1:=Qao s₁.heap
  refine wpAny_pyIter_list ⟨_,ga,rfl,nn,rfl⟩ (wpAny_newList ?_)
  refine wpAny_newFunctionEnv hnc (by simp) (λ h₄ hns hsb=>?_) hk
  generalize hio:({ cls:=.type "list_iterator", data:=.fields #[.ref a,.int 0 0] }:Obj)=io at *
  generalize hlo:({ cls:=.type "list", data:=.seq ([]:List Value).toArray }:Obj)=lo at *
  have kp1:∀ b o,s₁.heap.get? b=some o->(s₁.heap.push io).get? b=some o:=λ b o e=>Heap.get?_push_of_some _ e
  have kp2:∀ b o,(s₁.heap.push io).get? b=some o->((s₁.heap.push io).push lo).get? b=some o:=λ b o e=>Heap.get?_push_of_some _ e
  have new2:=Qao (s₁.heap.push io)
  have new3:=Qao ((s₁.heap.push io).push lo)
  have sz1:(s₁.heap.push io).objs.size=s₁.heap.objs.size+1:=Heap.size_push ..
  have sz2:((s₁.heap.push io).push lo).objs.size=s₁.heap.objs.size+1+1:=by simp only [Heap.size_push,sz1]
  have kp4:∀ b o,((s₁.heap.push io).push lo).get? b=some o->h₄.get? b=some o:=λ b o e=>by
   exact (hsb.2 b (Nat.ne_of_lt (Heap.lt_size e))).trans (Heap.get?_push_of_some _ e)
  have kpAll:∀ b o,s₁.heap.get? b=some o->h₄.get? b=some o:=λ b o e=>kp4 b o (kp2 b o (kp1 b o e))
  have gI:h₄.get? s₁.heap.objs.size=some io:=kp4 _ _ (kp2 _ _ (Heap.get?_push_size _ (by refine hio▸?_;rfl)))
  have gA:h₄.get? (s₁.heap.push io).objs.size=some lo:=kp4 _ _ (Heap.get?_push_size _ (by refine hlo▸?_;rfl))
  have oldNew:∀ b,(s₁.heap.push io).get? b=none->s₁.heap.get? b=none:=λ b e=>by
   cases q:s₁.heap.get? b with
   | none=>rfl
   | some o=>rw [kp1 b o q] at e;contradiction
  have oldNew2:∀ b,((s₁.heap.push io).push lo).get? b=none->s₁.heap.get? b=none:=λ b e=>by
   cases q:s₁.heap.get? b with
   | none=>rfl
   | some o=>rw [kp2 b o (kp1 b o q)] at e;contradiction
  have aside:∀ b,s₁.heap.get? b=none->Aside B fr s₁ b:=λ b e=>⟨e,I₁.base_new e,λ q m z=>I₁.notab_new e q m z.symm,λ m=>by
   refine QaF I₁ m λ o h _=>?_
   rw [e] at h;exact nos h⟩
  have hI:=aside _ new1
  have hA:=aside _ (oldNew _ new2)
  have hC:=aside _ (oldNew2 _ new3)
  have hIA:s₁.heap.objs.size≠(s₁.heap.push io).objs.size:=by simp_all
  have hIC:s₁.heap.objs.size≠((s₁.heap.push io).push lo).objs.size:=by lia
  have hAC:(s₁.heap.push io).objs.size≠((s₁.heap.push io).push lo).objs.size:=by simp_all
  have I₄:Inv B fr ι₁ σ₁ h₄:=I₁.ext kpAll
  generalize hcenv:({ newEnv inner ((s₁.heap.push io).push lo).objs.size env.globals (Qbc inner.names env.cells []) env.qual none .none (some env) 0 with scope:=relabel inner env }:PySem.Env)=cenv
  have c1:cenv.scope=relabel inner env:=by exact congrArg _ (hcenv).symm
  have c2:cenv.locals=((s₁.heap.push io).push lo).objs.size:=by refine hcenv▸?_;rfl
  have c3:cenv.cells=Qbc inner.names env.cells []:=by refine hcenv▸?_;rfl
  have c4:cenv.globals=env.globals:=by refine hcenv▸?_;rfl
  have c5:cenv.builtins=env.builtins:=by refine hcenv▸?_;rfl
  rw [<- c2] at hC hIC hAC hns
  have F₄:FrameRel B ι₁ h₄ cenv ρ':=by
   refine ⟨by exact Eq.trans (congrArg _ c1) hk,by exact c4.trans F.glob,by exact c5.trans F.blt,?_,I₁.new_nin hC.new,hC.g,hC.t,⟨_,hns,λ y j hj hky=>?_⟩,λ y j hj hky=>?_⟩
   ·refine hlen.substr ?_;refine c1.substr ?_;simp only [relabel];simp
   ·rw [c1,Qbq] at hj
    have hky':kindOf inner y=some .local:=by
     rw [c1] at hky
     rcases Qbe inner env y with z | ⟨_,z⟩
     ·exact (z).symm.trans hky
     ·rw [z] at hky;contradiction
    refine (hno y j hj (by refine hky'.substr ?_;nofun)).substr ?_
    rfl
   ·rw [c1,Qbq] at hj
    have hky':kindOf inner y=some .free:=by
     rw [c1] at hky
     rcases Qbe inner env y with z | ⟨z,_⟩
     ·rw [z] at hky
      rcases hky with w | w
      ·refine Qar hj λ k2 p1 p2 _=>?_
       replace p2:=w.symm.trans p2;obtain rfl:=Option.some.inj p2
       exact absurd rfl (hnc _ (List.mem_of_getElem? p1))
      ·exact w
     ·exact z
    obtain ⟨cc,ci,e1,e2,e3⟩:=hce y j hj hky'
    refine c3.substr ?_
    exact ⟨cc,ci,e1,e2,QaR g₁.pre e3⟩
  have S₄:ScRel inner cenv:=λ y=>by
   refine c1.substr ?_
   refine ⟨Qbq ..,?_⟩
   rcases Qbe inner env y with z | ⟨z,w⟩
   ·exact .inl z
   ·exact .inr ⟨.inl w,.inr z⟩
  have htg':QeA cenv.scope t ts single:=by
   have conv:∀ y j,Qaf inner y=some j->kindOf inner y=some .local->Qaf cenv.scope y=some j/\kindOf cenv.scope y=some .local:=λ y j h1 h2=>by
    refine c1.substr ?_
    refine ⟨(Qbq ..).trans h1,?_⟩
    rcases Qbe inner env y with z | ⟨z,_⟩
    ·exact z.trans h2
    ·rw [h2] at z;contradiction
   rcases htg with ⟨q1,x,p,j,q2,q3,q4,q5⟩ | ⟨q1,xs,kk,p,q2,q3,q4⟩
   ·skip
    exact .inl ⟨q1,x,p,j,q2,q3,(conv x j q4 q5).1,(conv x j q4 q5).2⟩
   ·refine .inr ⟨q1,xs,kk,p,q2,q3,λ j x i h1 h2=>?_⟩
    exact conv _ _ (q4 j x i h1 h2).1 (q4 j x i h1 h2).2
  have x0:CompAt B fr cenv a s₁.heap.objs.size (s₁.heap.push io).objs.size ι₁ s₁ 0 ρ' ι₁ σ₁ [] { s₁ with heap:=h₄,toks:=s₁.toks+0 }:=
   ⟨Go.ext kpAll,I₄,F₄,⟨io,gI,by exact congrArg _ (hio).symm,by refine hio.symm.substr ?_;rfl⟩,I₁.new_nin hI.new,⟨#[],0,by refine gA.substr ?_;refine hlo▸?_;rfl,by rfl⟩,I₁.new_nin hA.new,⟨rfl,rfl,rfl⟩,Nat.zero_le _⟩
  have fin:∀ (R':Result->Shared->Prop),(∀ ι' s',Go B (frs fr) [] ι₁ s₁.heap ι' s'.heap->Inv B fr ι' σf s'.heap->(Ex2 λ ys n=>s'.heap.get? (s₁.heap.push io).objs.size=some { cls:=.type "list", data:=.seq ys n }/\Vals B ι' s'.heap Lf ys.toList)->(s₁.heap.push io).objs.size ∉ ι'->Same s₁ s'->((∃ m,s'.heap.Ns cenv.locals m)/\cenv.locals ∉ ι')->R' (.ok .next) s') →
    codeAny (model B.prog B.w) A (.compLoop (.ListComp elt [⟨t,iter,ifs,0⟩] inner pos) 0 (.ref s₁.heap.objs.size) (.ref (s₁.heap.push io).objs.size) cenv) R' { s₁ with heap:=h₄,toks:=s₁.toks+0 }:=λ R' hR=>
   QeZ (L:=L) hU ih iht am S₄ htg' hifs hI hA hC hIC hAC hIA ea hLf hcap x0 (by
    refine htt.symm.substr ?_
    unfold M.noExc M.bind M.ret
    cases compLoop (Qdq B.cx call n ts single (ifs.map (comp k false inner)) (comp k false inner elt)) i wf 0 ρ' σ₁<;>simp) R' hR
  have aside0:∀ b,Aside B fr s₁ b->Aside B fr s b:=λ b x=>⟨g₁.older _ x.new,x.g,x.t,x.f⟩
  have last:∀ ι' (s':Shared),Go B (frs fr) [] ι₁ s₁.heap ι' s'.heap->Inv B fr ι' σf s'.heap->(Ex2 λ ys n=>s'.heap.get? (s₁.heap.push io).objs.size=some { cls:=.type "list", data:=.seq ys n }/\Vals B ι' s'.heap Lf ys.toList)->(s₁.heap.push io).objs.size ∉ ι'->Same s₁ s'->((∃ m,s'.heap.Ns cenv.locals m)/\cenv.locals ∉ ι') →
    compPost (model B.prog B.w) A E use Q (.ref (s₁.heap.push io).objs.size) cenv.locals (.ok .next) s':=λ ι' s' a1 a2 a3 a4 a5 a6=>
   hL Lf σf ι' s' _ _ hfin (g₁.trans a1) a2 a3 a4 (sm₁.trans a5) a6 (aside0 _ hA) (aside0 _ hC) hAC
  clear aside0 htg' S₄ F₄ c5 c4 c3 c2 c1 hC hIC hAC hns I₄ hIA hA hI aside oldNew2 oldNew gA gI kpAll kp4 sz2 sz1 new3 new2 kp2 kp1 hsb hlo hio new1 hfin hLf htt hcap r₁ fa ga ea el q0 sm₁ I₁ g₁ hce hno hlen hcl he hE hL hcons hnc hge hco hk h0 hifs htg hf hset hsc I F S am iht ih hU;subst hcenv
  exact codeAny_compStart_list (fin _ last) (wpAny_pyIter_listiter x0.it (fin _ last))
 | _=>exact absurd rfl hb
theorem Qgn {D U:Nat}{call:V->List V->M V}{L:Addr}{n k:Nat}{inner:Scope}{sc:Scope}{env:PySem.Env}{elt t iter:Expr}{ifs:List Expr}{pos:Pos}{ρ:Env}{ts:List Nat}{single:Bool}{frl:List (Nat×Nat)}{m0:M V}{ι:List Addr}{σ:List O}{s:Shared}(wf:Nat)
  (hU:U+100<cLine) (ih:Qgp B fr D U call n) (iht:Qh7 B fr D U call n) (am:Amb fr D U { A with units:=A.units+8 * n }) (S:ScRel sc env) (F:FrameRel B ι s.heap env ρ) (I:Inv B fr ι σ s.heap)
  (hsc:QaZ inner=true) (hset:QbS iter=false) (hf:QaE inner sc=some frl) (htg:QeA inner t ts single) (hifs:ifs.length<=1)
  (h0:T B fr A L [] (eval iter env) m0 (VR B) ι σ s):
  T B fr A L [] (eval (.ListComp elt [⟨t,iter,ifs,0⟩] inner pos) env)
   (match Qae ρ frl (List.replicate inner.names.length none) with
    | some ρ'=>M.bind m0 λ v=>M.bind (asRef v) λ i=>M.bind (getL i) λ _=>M.bind (M.noExc (compLoop (Qdq B.cx call n ts single (ifs.map (comp k false inner)) (comp k false inner elt)) i wf 0 ρ')) QaQ
    | none=>M.stuck) (VR B) ι σ s:=by
 intro hb
 refine QhD wf hU ih iht am S F I hsc hset hf htg hifs h0 hb (λ v s' e=>e) λ Lf σf ι' s' D C hfin g₁ I₁ hl hD sm₁ ⟨⟨m,a6⟩,hCn⟩ hA hC hAC=>?_
 refine ⟨m,a6,λ h' hs=>?_⟩
 refine byK λ Pz kz=>?_;obtain ⟨oC,esC,epC,eC,dC,_⟩:=a6
 have hnTC:∀ o,s'.heap.get? C=some o->¬ QbR o:=λ o h z=>by rw [eC] at h;obtain rfl:=Option.some.inj h;obtain ⟨_,x,y,z⟩:=z;replace z:=dC.symm.trans z;contradiction
 have hnCC:NoCode [C] s'.heap:=λ b hb o vs h1 h2=>by rw [List.mem_singleton.mp hb,eC] at h1;obtain rfl:=Option.some.inj h1;replace h2:=dC.symm.trans h2;contradiction
 have I5:=I₁.extBut hs.extBut hCn hC.g hC.t hnTC hnCC hC.f
 have go5:Go B (frs fr) [] ι s.heap ι' h':=g₁.after λ b o o₁ z1 z2=>(hs.2 b λ q=>by rw [q,hC.new] at z1;exact nos z1).trans z2
 refine kz ?_;refine byK λ Pz kz=>?_;obtain ⟨ys,nA,e5,v5⟩:=hl
 have e6:h'.get? D=some { cls:=.type "list", data:=.seq ys nA }:=(hs.2 _ hAC).trans e5
 have mo1:Mo B [] [C] ι' s'.heap ι' h':=⟨List.prefix_refl _,λ b o e2 n t f=>by
   refine ⟨(hs.2 b (λ q=>?_)).trans e2,n⟩
   clear t e5 hnCC dC eC hs hCn hAC hC g₁ hb h0 hifs htg hf hset hsc I F S am iht ih hU;subst q
   rcases f with f | f
   ·exact hnTC o e2 f
   ·exact f.1 (.head _)⟩
 have nT:¬ QbR ({ cls:=.type "list", data:=.seq ys nA }:Obj):=λ z=>absurd z.1 (by simp)
 have hlast:(ι'++[D])[σf.length]?=some D:=by refine I5.len.symm.substr ?_;simp
 refine kz ?_;refine ⟨_,_,_,hfin,⟨go5.pre.trans (List.prefix_append _ _),λ b m n=>?_,go5.step⟩,(I5.adopt (o:=.list Lf) hD hA.g hA.t hA.f e6 nT (λ vs q=>by contradiction) ⟨ys,nA,e6,Vals.mono' (Qhy e6 nT) I5.tabs.nt (Vals.mono' mo1 I₁.tabs.nt v5)⟩),Qb2 hlast,sm₁⟩
 rcases List.mem_append.mp m with m | m
 ·exact go5.newf b m n
 ·exact Eq.trans (congrArg _ (List.mem_singleton.mp m)) hA.new
end
section
open PySem PySem.Calls PyProof.Rows
variable {B:Bs}{fr:List PySem.Env}
theorem Qps {cx:Cx}{call:V->List V->M V}{n:Nat}{ρ:Env}:ev cx call n ρ .bad=M.stuck:=by cases n<;>rfl
theorem Qhu {c:Expr->CE}{cb:Scope->Expr->CE}{sc:Scope}{elt:Expr}{gens:List Comprehension}{s:Scope}(P:CE->Prop) (hbad:P .bad)
  (h:∀ t iter ifs ts single fr,gens=[⟨t,iter,ifs,0⟩]->QaZ s=true->ifs.length<=1->QbS iter=false->QaE s sc=some fr->QeA s t ts single->P (.comp (cb s elt) ts single (c iter) (ifs.map (cb s)) s.names.length fr)):
  P (cLC c cb sc elt gens s):=by
 refine QfJ P hbad λ t iter ifs ts single fr e1 e2 e3 e4 e5 e6=>h t iter ifs ts single fr e1 e2 e3 e4 e5 ?_
 rcases e6 with ⟨q,hq,ht,rfl⟩ | ⟨ht,rfl⟩
 ·refine QbD ht λ xs k1 k2 k3=>?_
  exact .inr ⟨rfl,xs,q.2.1,q.2.2,by refine k1.symm.substr ?_;exact Qfa hq,k2,k3⟩
 ·refine QbD ht λ xs k1 k2 k3=>?_
  obtain ⟨y,rfl,hy⟩:=List.map_eq_singleton_iff.mp k1.symm
  clear k1 ht e5 e4 e3 e2 e1 h hbad;obtain ⟨i,rfl⟩:=List.length_eq_one_iff.mp k2.symm
  exact .inl ⟨rfl,_,_,i,hy.symm,rfl,(k3 0 y i rfl rfl).1,(k3 0 y i rfl rfl).2⟩
theorem Qi0 {K:W.Frag}{D U:Nat}{call:V->List V->M V}(N:NamesOk B) (LO:LamOk B) (C:ClsOk B K) (hU:U+100<cLine) (hKW:W.keepIn K (.ref B.KW)=true) (H:CallOk B fr D U call)
  (n:Nat) (ih:Qgp B fr D U call n) (iht:Qh7 B fr D U call n):Qgp B fr D U call (n+1):=by
 intro A L k b sc env e ρ ι σ s _ am S hb F I
 cases k with
 | zero=>exact T.stuck
 | succ k=>
  refine Qk3 N C hU hKW H n ih iht am S hb F I (λ ps body inner pos=>?_) (λ elt gens inner pos=>?_)
  ·exact QfI (P:=λ ce=>T B fr A L [] (eval (.Lambda ps body inner pos) env) (Mine.ev B.cx call (n+1) ρ ce) (VR B) ι σ s) T.stuck
     λ xs fr is hb1 hs ha hd hf hl hn hi=>Qjb N LO S (hb hb1) F I hs ha hd hf hl hn hi
  ·refine Qhu (P:=λ ce=>T B fr A L [] (eval (.ListComp elt gens inner pos) env) (Mine.ev B.cx call (n+1) ρ ce) (VR B) ι σ s) T.stuck
     λ t iter ifs ts single frl hg hs hifs hset hf ht=>?_
   subst hg
   exact Qgn B.cx.W hU ih iht (am.le (m:=8 * n) (by lia)) S F I hs hset hf ht hifs (ih A L k b sc env iter ρ ι σ s trivial (am.le (m:=8 * n) (by lia)) S hb F I)
theorem QjD {K:W.Frag}{D U:Nat}{call:V->List V->M V}(N:NamesOk B) (LO:LamOk B) (C:ClsOk B K) (hU:U+100<cLine) (hKW:W.keepIn K (.ref B.KW)=true) (H:CallOk B fr D U call):
  ∀ n,(∀ m,m<=n->Qgp B fr D U call m)/\Qh7 B fr D U call n
 | 0=>by
  refine ⟨λ m hm=>?_,λ A L k b sc env e ρ ι σ s _ _ _ _ _=>T.stuck⟩
  obtain rfl:m=0:=by simp_all
  exact λ A L k b sc env e ρ ι σ s _ _ _ _ _ _=>T.stuck
 | n+1=>by
  obtain ⟨h1,h2⟩:=QjD N LO C hU hKW H n
  refine ⟨λ m hm=>?_,Qkm hU n h1 h2⟩
  rcases Nat.lt_or_ge m (n+1) with h | h
  ·exact h1 m (by lia)
  ·obtain rfl:m=n+1:=by lia
   exact Qi0 N LO C hU hKW H n (h1 n (Nat.le_refl _)) h2
end
section
open PySem PySem.Calls PyProof.Rows
variable {B:Bs}{fr:List PySem.Env}{A:Around}{L:Addr}{X:List Addr}{ι:List Addr}{σ:List O}{s:Shared}
theorem Go.narrow {F X Y ι ι':List Addr}{h h':Heap}(x:Go B F X ι h ι' h') (k:∀ a∈X,a ∉ Y->h.get? a=none):Go B F Y ι h ι' h':=
 ⟨x.pre,x.newf,λ b o e=>by
  obtain ⟨o',e',q⟩:=x.step b o e
  exact ⟨o',e',λ n t=>⟨λ z=>(q n t).1 (z.imp id λ z=>⟨(λ n m=>by replace e:=(k b m n).symm.trans e;contradiction) z.1,z.2⟩),λ z=>(q n t).2 ((λ n m=>by replace e:=(k b m n).symm.trans e;contradiction) z)⟩⟩⟩
theorem Inv.slots {h h':Heap}(I:Inv B fr ι σ h) (sl:Heap.SlotsOnly (frs fr) h h'):Go B (frs fr) X ι h ι h'/\Inv B fr ι σ h':=by
 have fd:∀ a∈frs fr,a ∉ ι/\B.g.get? a=none/\(∀ q∈B.tabs,a≠q.2)/\Ex3 λ o es ep=>h.get? a=some o/\o.data=.dict es ep:=λ a m=>by
  obtain ⟨env,m,e⟩:=List.mem_filterMap.mp m
  refine byK λ Pz kz=>?_;obtain ⟨k,L,o,es,ep,e',n,ni,nt,sk,g,d⟩:=I.frames env m
  replace e':=e.symm.trans e';obtain rfl:=Option.some.inj e'
  exact kz (⟨ni,n,nt,o,es,ep,g,d⟩)
 have same:∀ b,b ∉ frs fr->h'.get? b=h.get? b:=sl.2.1
 have go:∀ Y,Go B (frs fr) Y ι h ι h':=λ Y=>⟨List.prefix_refl _,λ _ m n=>absurd m n,λ b o e=>by
  by_cases q:b∈frs fr
  ·obtain ⟨x,e'⟩:=sl.2.2 b o e
   refine byK λ Pz kz=>?_;obtain ⟨_,_,_,o2,es,ep,e2,d⟩:=fd b q
   rw [e] at e2;obtain rfl:=Option.some.inj e2
   refine kz ?_;refine ⟨_,e',λ _ _=>⟨λ z=>?_,λ _=>⟨rfl,rfl,rfl⟩⟩⟩
   rcases z with z | z
   ·obtain ⟨_,its,p,z⟩:=z;rw [d] at z;contradiction
   ·rcases z.2 with z | z
    ·exact absurd ⟨es,ep,d⟩ z
    ·exact absurd q z
  ·exact ⟨o,(same b q).trans e,λ _ _=>.refl ..⟩⟩
 refine ⟨go X,?_⟩
 exact {
  keep:=λ b o e=>(same b λ m=>by replace e:=((fd b m).2.1).symm.trans e;contradiction).trans (I.keep b o e)
  fresh:=I.fresh
  nodup:=I.nodup
  len:=I.len
  objs:=λ i b o e1 e2=>by
   exact (I.objs i b o e1 e2).mono (go []) I.tabs.nt (same b (λ z=>(fd b z).1 (List.mem_of_getElem? e1))) (NoCode.nil h)
  frames:=I.frames.go (go []) (λ b m=>by contradiction)
  tabs:=λ q m=>by
   refine byK λ Pz kz=>?_;obtain ⟨x,ps,y,z,w⟩:=I.tabs q m
   refine kz ?_;refine ⟨x,ps,(same _ λ f=>(fd _ f).2.2.1 q m rfl).trans y,z,w.ext λ b o vs e d _=>(same b λ f=>?_).trans e⟩
   obtain ⟨_,_,_,o2,es,ep,e2,d2⟩:=fd b f
   rw [e] at e2;obtain rfl:=Option.some.inj e2;rw [d] at d2;contradiction
  notab:=I.notab }
theorem QbO (o:Obj) (f:Array Value->Array Value):(o.mapFields f).dict=o.dict:=by
 obtain ⟨c,d,dt,s⟩:=o;cases dt<;>rfl
theorem QhB {env:PySem.Env}{outer:List PySem.Env}{E:Value->Shared->Prop}{e:Addr}{oe:Obj}{vs:Array Value}{head:Value}{hadNext:Bool}{Q:Unit->Shared->Prop}
  (hfr:A.frames=some (env::outer)) (I:Inv B (env::outer) ι σ s.heap) (hf:env.frame=some L) (he:s.heap.get? e=some oe) (hd:oe.data=.fields vs) (hsz:1<vs.size)
  (hv:∀ q t,vs[1]?≠some (Value.str q t)) (hni:e ∉ ι) (hg:B.g.get? e=none) (ht:∀ q∈B.tabs,e≠q.2)
  (h:∀ h' T oT ts,Inv B (env::outer) ι σ h'->Go B (frs (env::outer)) [e] ι s.heap ι h'->h'.get? e=some (oe.mapFields (·.setIfInBounds 1 (.ref T)))->s.heap.get? T=none->T≠e →
   h'.get? T=some oT->oT.data=.fields ts->ts[3]?=some (rawInt L)->ts[1]?=some (.ref L)->(∀ b o,s.heap.get? b=some o->b ∉ frs (env::outer)->b≠e->h'.get? b=some o)->Q () { s with heap:=h' }):
  wpAny (model B.prog B.w) A (do let a <- frameOf env;let pl <- entryPlaceOf L hadNext;let b <- EntryCells.newEntry head a .none (rawInt L) .none pl;setField (.ref e) 1 b) Q E s:=by
 have hef:e ∉ frs (env::outer):=λ m=>by
  refine QaF I m ?_;rintro o g ⟨es,ep,d⟩
  replace g:=he.symm.trans g;obtain rfl:=Option.some.inj g;rw [hd] at d;contradiction
 refine wpAny_bind (wpAny_frameOf_fun hfr I.frames.fun hf λ h₁ hs₁=>?_)
 have zq:=I.slots (X:=[e]) hs₁
 refine wpAny_bind (wpAny_entryPlaceOf λ pl hpl=>?_)
 refine wpAny_bind (wpAny_newObj_type ?_ (hpl.sizeOk5 _ _ _ _ _))
 have he₁:h₁.get? e=some oe:=(hs₁.2.1 e hef).trans he
 generalize hob:({ cls:=.type "traceback", dict:=none,data:=.fields ([head,.ref L,.none,rawInt L,.none]++(if pl.isEmpty then List.replicate 6 Value.none else pl)).toArray }:Obj)=ob
 have k₂:∀ b o,h₁.get? b=some o->(h₁.push ob).get? b=some o:=λ b o e=>Heap.get?_push_of_some _ e
 have he₂:=k₂ e oe he₁
 refine wpAny_setField he₂ hd hsz ?_
 obtain ⟨go₃,I₃⟩:=(zq.2.ext k₂).other (F:=frs (env::outer)) (X:=[]) (a:=e) (h':=(h₁.push ob).update e (Obj.mapFields (·.setIfInBounds 1 (Value.ref h₁.objs.size)))) (Heap.SameBut.update ..) hni hg ht
  (λ o g z=>by rw [he₂] at g;obtain rfl:=Option.some.inj g;obtain ⟨_,its,p,z⟩:=z;rw [hd] at z;contradiction)
  (λ b m o vs' g d q t=>by simp only [List.mem_singleton.mp m,he₂] at g;obtain rfl:=Option.some.inj g;replace d:=hd.symm.trans d;injection d with d;subst d;exact hv q t)
  ⟨_,(Heap.get?_update_self (Obj.mapFields (·.setIfInBounds 1 (Value.ref h₁.objs.size))) he₂ (Obj.isFreed_of_fields (Obj.data_mapFields hd _)))⟩ (λ m=>absurd m hef)
 have hTn:s.heap.get? h₁.objs.size=none:=by
  cases q:s.heap.get? h₁.objs.size with
  | none=>rfl
  | some o=>obtain ⟨x,e'⟩:=hs₁.2.2 _ o q;exact absurd (Heap.lt_size e') (Nat.lt_irrefl _)
 refine h _ _ _ _ I₃ ((zq.1.trans (Go.ext k₂)).trans go₃) (Heap.get?_update_self (Obj.mapFields (·.setIfInBounds 1 (Value.ref h₁.objs.size))) he₂ (Obj.isFreed_of_fields (Obj.data_mapFields hd _))) hTn (Nat.ne_of_gt (Heap.lt_size he₁)) ((Heap.get?_update_other (h₁.push ob) (Obj.mapFields (·.setIfInBounds 1 (Value.ref h₁.objs.size))) (Ne.symm (Nat.ne_of_gt (Heap.lt_size he₁)))).trans (Heap.get?_push_size h₁ (by refine hob.symm.substr ?_;rfl))) (by exact congrArg _ (hob).symm) (by first | (rfl;done) | (rcases hpl with rfl | ⟨_,_,_,_,_,_,_,rfl⟩<;>simp)) (by first | (rfl;done) | (rcases hpl with rfl | ⟨_,_,_,_,_,_,_,rfl⟩<;>simp)) λ b o g nb ne=>?_
 exact (Heap.get?_update_other _ _ (Ne.symm ne)).trans (k₂ b o ((hs₁.2.1 b nb).trans g))
theorem Qfh {env:PySem.Env}{outer:List PySem.Env}{E:Value->Shared->Prop}{h₀:Heap}{ι₀:List Addr}{σ₀:List O}{m sp:V}{e:Addr}{f:Value->Prop}{Q:Unit->Shared->Prop}
  (hfr:A.frames=some (env::outer)) (hf:env.frame=some L) (I₀:Inv B (env::outer) ι₀ σ₀ h₀) (g₀:Go B (frs (env::outer)) X ι₀ h₀ ι s.heap) (I:Inv B (env::outer) ι σ s.heap)
  (x:ExnAt B h₀ ι s.heap m sp e f) (hfl:∀ v,f v->flL L v)
  (h:∀ h',Inv B (env::outer) ι σ h'->Go B (frs (env::outer)) X ι₀ h₀ ι h'->ExnAt B h₀ ι h' m sp e (·=rawInt L)->(Ex3 λ oe vs T=>And3 (h'.get? e=some oe) (oe.data=.fields vs) (vs[1]?=some (.ref T)))->Q () { s with heap:=h' }):
  wpAny (model B.prog B.w) A (noteFrame (.ref e) env) Q E s:=by
 obtain ⟨dx,oe,vs,es,ep,vm,vsp,a1,a2,a3,a4,a5,a6,a7,a8,a9,a10,a11,a12,a13,a14,a15,a16,a17⟩:=x
 have base:∀ b,h₀.get? b=none->B.g.get? b=none:=λ b e=>I₀.base_new e
 have dxf:dx ∉ frs (env::outer):=λ m=>by
  refine QaF I₀ m λ o g _=>?_
  replace g:=a11.symm.trans g;contradiction
 unfold noteFrame
 refine hf.substr ?_
 rcases a8 with a8 | ⟨T,oT,ts,b1,b2,b3,b4,b5,b6,⟨fl,b7,b8⟩,b9,b10⟩
 ·refine wpAny_bind (wpAny_field a1 a6 a8 ?_)
  refine QhB hfr I hf a1 a6 a7 (λ q t z=>by replace z:=a8.symm.trans z;cases z) a3 (base e a2) a9 λ h' T oT ts I' go' e1 e2 e3 e4 e5 e6 e7 e8=>?_
  refine h h' I' ((g₀.wide λ a m=>List.mem_append_left [e] m).trans (go'.wide λ a m=>List.mem_append_right X m) |>.narrow λ a m n=>?_) ?_ ⟨_,_,T,e1,Obj.data_mapFields a6 _,by simp [a7]⟩
  ·rcases List.mem_append.mp m with m | m
   ·exact absurd m n
   ·exact Eq.trans (congrArg _ (List.mem_singleton.mp m)) a2
  ·have hTn:h₀.get? T=none:=g₀.older T e2
   have hTi:T ∉ ι:=I.new_nin e2
   refine ⟨dx,_,_,es,ep,vm,vsp,e1,a2,a3,by rw [Obj.cls_mapFields];exact a4,by rw [QbO];exact a5,Obj.data_mapFields a6 _,by simpa using a7,
    .inr ⟨T,oT,ts,by simp [a7],hTn,hTi,e3,e4,e5,⟨_,e6,rfl⟩,λ q m z=>I.notab_new e2 q m z.symm,λ q t z=>by replace z:=e7.symm.trans z;cases z⟩,a9,e8 dx _ a10 dxf ?_,a11,a12,a13,a14,a15,a16.mono go' I.tabs.nt,a17.mono go' I.tabs.nt⟩
   intro z;subst z;rw [a1] at a10;obtain rfl:=Option.some.inj a10;contradiction
 ·refine wpAny_bind (wpAny_field a1 a6 b1 ?_)
  refine wpAny_bind (wpAny_field b5 b6 b7 ?_)
  rcases hfl fl b8 with z | z
  ·subst z
   refine wpAny_bind (wpAny_setField b5 b6 (Array.getElem?_eq_some_iff.mp b7).1 ?_)
   have hTf:T ∉ frs (env::outer):=λ m=>by
    refine QaF I m ?_;rintro o g ⟨es,ep,d⟩
    rw [b5] at g;obtain rfl:=Option.some.inj g;rw [b6] at d;contradiction
   have hd3:=Obj.data_mapFields b6 (·.setIfInBounds 3 Value.none)
   obtain ⟨go₁,I₁⟩:=I.other (F:=frs (env::outer)) (X:=[]) (a:=T) (h':=s.heap.update T (Obj.mapFields (·.setIfInBounds 3 Value.none))) (Heap.SameBut.update ..) b3 (base T b2) b9
    (λ o g z=>by rw [b5] at g;obtain rfl:=Option.some.inj g;obtain ⟨_,its,p,z⟩:=z;rw [b6] at z;contradiction)
    (λ b m o vs' g d q t=>by rw [List.mem_singleton.mp m,b5] at g;obtain rfl:=Option.some.inj g;replace d:=b6.symm.trans d;injection d with d;subst d;exact b10 q t)
    ⟨_,Heap.get?_update_self _ b5 (Obj.isFreed_of_fields hd3)⟩ (λ m=>absurd m hTf)
   have other:∀ b,b≠T->(s.heap.update T (Obj.mapFields (·.setIfInBounds 3 Value.none))).get? b=s.heap.get? b:=λ b hb=>Heap.get?_update_other _ _ (Ne.symm hb)
   have hdxT:dx≠T:=λ z=>by subst z;rw [b5] at a10;obtain rfl:=Option.some.inj a10;contradiction
   refine QhB (s:={ s with heap:=_ }) hfr I₁ hf ((other e (Ne.symm b4)).trans a1) a6 a7 (λ q t z=>by replace z:=b1.symm.trans z;cases z) a3 (base e a2) a9 λ h' T' oT' ts' I' go' e1 e2 e3 e4 e5 e6 e7 e8=>?_
   have go₂:=(go₁.wide (Y:=[T,e]) (by simp)).trans (go'.wide (Y:=[T,e]) (by simp))
   refine h h' I' ((g₀.wide λ a m=>List.mem_append_left [T,e] m).trans (go₂.wide λ a m=>List.mem_append_right X m) |>.narrow λ a m n=>?_) ?_ ⟨_,_,T',e1,Obj.data_mapFields a6 _,by simp [a7]⟩
   ·rcases List.mem_append.mp m with m | m
    ·exact absurd m n
    ·rcases List.mem_cons.mp m with rfl | m
     ·exact b2
     ·exact Eq.trans (congrArg _ (List.mem_singleton.mp m)) a2
   ·have e2':s.heap.get? T'=none:=by
     cases q:s.heap.get? T' with
     | none=>rfl
     | some o=>
      obtain ⟨o',g',_⟩:=go₁.step T' o q
      simp only [e2] at g';contradiction
    refine ⟨dx,_,_,es,ep,vm,vsp,e1,a2,a3,by rw [Obj.cls_mapFields];exact a4,by rw [QbO];exact a5,Obj.data_mapFields a6 _,by simpa using a7,
     .inr ⟨T',oT',ts',by simp [a7],g₀.older T' e2',I.new_nin e2',e3,e4,e5,⟨_,e6,rfl⟩,λ q m z=>I.notab_new e2' q m z.symm,λ q t z=>by replace z:=e7.symm.trans z;cases z⟩,a9,e8 dx _ ((other dx hdxT).trans a10) dxf ?_,a11,a12,a13,a14,a15,a16.mono go₂ I.tabs.nt,a17.mono go₂ I.tabs.nt⟩
    intro z;subst z;clear go₂ e8 e3 e1 go' e2' e7 e6 e5 e4 e2 I' hdxT other I₁ go₁ hd3 hTf b8 dxf base hfl I₀ hf hfr;rw [a1] at a10;obtain rfl:=Option.some.inj a10;contradiction
  ·subst z
   refine (if_pos (show (rawInt L==rawInt L)=true from by simp)).substr ?_
   exact wpAny_pure (h s.heap I g₀ ⟨dx,oe,vs,es,ep,vm,vsp,a1,a2,a3,a4,a5,a6,a7,.inr ⟨T,oT,ts,b1,b2,b3,b4,b5,b6,⟨_,b7,rfl⟩,b9,b10⟩,a9,a10,a11,a12,a13,a14,a15,a16,a17⟩ ⟨oe,vs,T,a1,a6,b1⟩)
theorem Qb9 {E:Value->Shared->Prop}{h₀:Heap}{ι₀:List Addr}{σ₀:List O}{m sp:V}{e:Addr}{f:Value->Prop}{Q:Unit->Shared->Prop}{w:Option Addr}
  (I₀:Inv B fr ι₀ σ₀ h₀) (g₀:Go B (frs fr) X ι₀ h₀ ι s.heap) (I:Inv B fr ι σ s.heap)
  (x:ExnAt B h₀ ι s.heap m sp e f)
  (h:∀ h',Inv B fr ι σ h'->Go B (frs fr) X ι₀ h₀ ι h'->ExnAt B h₀ ι h' m sp e (·=w.elim Value.none λ f=>rawInt f)->Q () { s with heap:=h' }):
  wpAny (model B.prog B.w) A (setFlight (.ref e) w) Q E s:=by
 refine byK λ Pz kz=>?_;obtain ⟨dx,oe,vs,es,ep,vm,vsp,a1,a2,a3,a4,a5,a6,a7,a8,a9,a10,a11,a12,a13,a14,a15,a16,a17⟩:=x
 have base:∀ b,h₀.get? b=none->B.g.get? b=none:=λ b e=>I₀.base_new e
 refine kz ?_;rcases a8 with a8 | ⟨T,oT,ts,b1,b2,b3,b4,b5,b6,⟨fl,b7,b8⟩,b9,b10⟩
 ·refine wpAny_bind (wpAny_field a1 a6 a8 ?_)
  exact wpAny_pure (h s.heap I g₀ ⟨dx,oe,vs,es,ep,vm,vsp,a1,a2,a3,a4,a5,a6,a7,.inl a8,a9,a10,a11,a12,a13,a14,a15,a16,a17⟩)
 ·refine wpAny_bind (wpAny_field a1 a6 b1 ?_)
  have h3:=(Array.getElem?_eq_some_iff.mp b7).1
  refine wpAny_setField b5 b6 h3 ?_
  have hTf:T ∉ frs fr:=λ m=>by
   refine byK λ Pz kz=>?_;refine QaF I m ?_;rintro o g ⟨es,ep,d⟩
   rw [b5] at g;obtain rfl:=Option.some.inj g;rw [b6] at d;refine kz ?_;contradiction
  generalize hfv:(w.elim Value.none λ f=>rawInt f:Value)=fv
  have hd3:=Obj.data_mapFields b6 (·.setIfInBounds 3 fv)
  obtain ⟨go₁,I₁⟩:=I.other (F:=frs fr) (X:=[]) (a:=T) (h':=s.heap.update T (Obj.mapFields (·.setIfInBounds 3 fv))) (Heap.SameBut.update ..) b3 (base T b2) b9
   (λ o g z=>by replace g:=b5.symm.trans g;obtain rfl:=Option.some.inj g;obtain ⟨_,its,p,z⟩:=z;rw [b6] at z;contradiction)
   (λ b m o vs' g d q t=>by rw [List.mem_singleton.mp m,b5] at g;obtain rfl:=Option.some.inj g;rw [b6] at d;injection d with d;subst d;exact b10 q t)
   ⟨_,(Heap.get?_update_self (Obj.mapFields (·.setIfInBounds 3 fv)) b5 (Obj.isFreed_of_fields hd3))⟩ (λ m=>absurd m hTf)
  have hdxT:dx≠T:=λ z=>by subst z;clear hTf b8 b7 b6 base I₀;rw [b5] at a10;obtain rfl:=Option.some.inj a10;contradiction
  refine h _ I₁ ((g₀.wide λ a m=>List.mem_append_left [T] m).trans (go₁.wide λ a m=>List.mem_append_right X m) |>.narrow λ a m n=>?_) ?_
  ·rcases List.mem_append.mp m with m | m
   ·exact absurd m n
   ·exact Eq.trans (congrArg _ (List.mem_singleton.mp m)) b2
  ·exact ⟨dx,oe,vs,es,ep,vm,vsp,((λ b hb=>Heap.get?_update_other _ _ (Ne.symm hb):∀ b,b≠T->(s.heap.update T (Obj.mapFields (·.setIfInBounds 3 fv))).get? b=s.heap.get? b) e (Ne.symm b4)).trans a1,a2,a3,a4,a5,a6,a7,
    .inr ⟨T,_,_,b1,b2,b3,b4,(Heap.get?_update_self (Obj.mapFields (·.setIfInBounds 3 fv)) b5 (Obj.isFreed_of_fields hd3)),hd3,⟨fv,by simp [h3],hfv.symm⟩,b9,λ q t=>by refine (Array.getElem?_setIfInBounds_ne (by decide)).substr ?_;exact b10 q t⟩,a9,((λ b hb=>Heap.get?_update_other _ _ (Ne.symm hb):∀ b,b≠T->(s.heap.update T (Obj.mapFields (·.setIfInBounds 3 fv))).get? b=s.heap.get? b) dx hdxT).trans a10,a11,a12,a13,a14,a15,a16.mono go₁ I.tabs.nt,a17.mono go₁ I.tabs.nt⟩
end
section
open PySem PySem.Calls PyProof.Rows
variable {B:Bs}{fr:List PySem.Env}{A:Around}{L:Addr}{X:List Addr}{ι:List Addr}{σ:List O}{s:Shared}
theorem QhF {M:Model}{E:Value->Shared->Prop}{env:PySem.Env}{name:Str}{c:Addr}{o:Obj}{v₀:Option Value}{v:Value}{Q:Unit->Shared->Prop}(hk:env.scope.kind=.function) (hl:env.kindOf name=some .cell)
  (hc:env.cells.lookup name=some c) (ho:s.heap.get? c=some o) (hd:o.data=.cell v₀)
  (h:∀ h',h'.get? c=some { o with data:=.cell (some v) }->Heap.SameBut c s.heap h'->Q () { s with heap:=h' }):wpAny M A (storeName env name v) Q E s:=by
 unfold storeName
 refine (hl).symm▸?_;refine (hk).symm▸?_
 refine wpAny_bind (wpAny_cellOf hc ?_)
 refine wpAny_bind (wpAny_load ho ?_)
 refine hd.substr ?_
 exact wpAny_update ho (h _ (Heap.get?_update_self _ ho rfl) (Heap.SameBut.update ..))
set_option tactic.hygienic true in
theorem Qdm {x:Str}{i:Nat}{V0:V}{v:Value}{env:PySem.Env}{ρ:Env}(hX:env.locals ∉ X) (hi:Qaf env.scope x=some i) (hk:kindOf env.scope x=some .cell)
  (F:FrameRel B ι s.heap env ρ) (I:Inv B fr ι σ s.heap) (hv:Val B ι s.heap V0 v):T B fr A L X (storeName env x v) (Qa6 i V0 ρ) (λ ι h ρ' _=>FrameRel B ι h env ρ') ι σ s:=by
 refine byK λ Pz kz=>?_;obtain ⟨c,ci,e1,e2,e3⟩:=F.cells x i hi (.inl hk)
 refine kz ?_;unfold Qa6
 refine e2.substr ?_
 refine T.getO λ o eo=>?_
 cases o<;>first | exact T.stuck | skip
 rename_i w
 dsimp only
 intro _
 refine byK λ Pz kz=>?_;obtain ⟨o,u,g,d,cl,hu⟩:=I.objs _ _ _ e3 eo
 refine kz ?_;refine QhF F.kind hk e1 g d λ h' g' hs=>?_
 have go:Go B (frs fr) [] ι s.heap ι h':=Go.wrote e3 hs ⟨_,g'⟩
 refine ⟨ρ,σ.set ci (.cell (some V0)),ι,?_,go.wide (by simp),(I.wrote e3 hs ⟨_,some v,g',rfl,cl,v,rfl,hv.mono go I.tabs.nt⟩),F.mono go I.tabs.nt (by simp),⟨rfl,rfl,rfl⟩⟩
 unfold M.bind Qcg
 refine (if_pos ((List.getElem?_eq_some_iff.mp eo).1)).substr ?_
 rfl
theorem Qja {x:Str}{i:Nat}{pos:Pos}{V0:V}{v:Value}{env:PySem.Env}{ρ:Env}(hX:env.locals ∉ X) (hi:Qaf env.scope x=some i) (hk:kindOf env.scope x=some .cell)
  (F:FrameRel B ι s.heap env ρ) (I:Inv B fr ι σ s.heap) (hv:Val B ι s.heap V0 v):T B fr A L X (PySem.assign (.Name x pos) env v) (Qa6 i V0 ρ) (λ ι h ρ' _=>FrameRel B ι h env ρ') ι σ s:=by
 refine T.at (T.pre (t:=storeName env x v) (λ Q E h=>?_) (Qdm hX hi hk F I hv))
 exact wpAny_bind (wpAny_holding (wpAny_point (wpAny_bind (wpAny_mono h (λ _ _ z=>wpAny_point z) λ _ _ z=>z))))
noncomputable def QeB (sc:Scope) (x:Str):CT->Prop
 | .loc i=>Qaf sc x=some i/\kindOf sc x=some .local
 | .cel i=>Qaf sc x=some i/\kindOf sc x=some .cell
 | _=>False
theorem Qek {cx:Cx}{call:V->List V->M V}{n d:Nat}{x:Str}{t:CT}{pos:Pos}{V0:V}{v:Value}{env:PySem.Env}{ρ:Env}(ht:QeB env.scope x t)
  (F:FrameRel B ι s.heap env ρ) (I:Inv B fr ι σ s.heap) (hv:Val B ι s.heap V0 v):T B fr A L [env.locals] (PySem.assign (.Name x pos) env v) (Mine.assign cx call n (d+1) t V0 ρ) (λ ι h ρ' _=>FrameRel B ι h env ρ') ι σ s:=by
 cases t with
 | loc i=>exact Qb8 (.head _) ht.1 ht.2 F I hv
 | cel i=>exact T.wide (X:=[]) (by simp) (Qja (by simp) ht.1 ht.2 F I hv)
 | _=>exact False.elim ht
theorem Qdn {cx:Cx}{call:V->List V->M V}{n d:Nat}{env:PySem.Env}:∀ {xs:List (Str×Pos)}{ts:List CT}{ρ:Env}{Vs:List V}{vs:List Value}{ι:List Addr}{σ:List O}{s:Shared},
  (∀ (j:Nat) x t,xs[j]?=some x->ts[j]?=some t->QeB env.scope x.1 t)->xs.length=ts.length->FrameRel B ι s.heap env ρ->Inv B fr ι σ s.heap->Vals B ι s.heap Vs vs →
  T B fr A L [env.locals] (assignInOrder (xs.map λ x=>PySem.assign (.Name x.1 x.2) env) vs) (Qb7 (Mine.assign cx call n (d+1)) ts Vs ρ) (λ ι h ρ' _=>FrameRel B ι h env ρ') ι σ s
 | [],ts,ρ,Vs,vs,ι,σ,s,_,hl,F,I,hv=>by
  cases ts with
  | cons=>contradiction
  | nil=>
   cases Vs with
   | nil=>exact T.ret rfl I F
   | cons=>exact T.stuck
 | x::xs,ts,ρ,Vs,vs,ι,σ,s,h,hl,F,I,hv=>by
  cases ts with
  | nil=>contradiction
  | cons t ts=>
   cases Vs with
   | nil=>exact T.stuck
   | cons V0 Vs=>
    obtain ⟨v,r,rfl,h1,h2⟩:=hv
    refine T.bind (T.hold (Qek (h 0 x t rfl rfl) F I h1)) λ ρ' _ ι₁ σ₁ s₁ _ g₁ I₁ r₁ _=>?_
    exact Qdn (λ j y k hy hk=>h (j+1) y k hy hk) (by simpa using hl) r₁ I₁ (h2.mono g₁ I.tabs.nt)
theorem Qjp {sc:Scope}{x:Str}{t:CT}(h:nmT sc x=some t):(x==("__debug__" : Str)||x==("__classdict__" : Str))=false/\QeB sc x t:=by
 unfold nmT at h
 split at h
 ·exact nos h
 ·rename_i hd
  refine ⟨eq_false_of_ne_true hd,?_⟩
  cases hk:kindOf sc x with
  | none=>rw [hk] at h;exact nos h
  | some k=>
   replace h:=hk▸h
   cases k with
   | «local»=>obtain ⟨i,hi,rfl⟩:=Option.map_eq_some_iff.mp h;exact ⟨hi,hk⟩
   | cell=>obtain ⟨i,hi,rfl⟩:=Option.map_eq_some_iff.mp h;exact ⟨hi,hk⟩
   | _=>exact nos h
theorem Qc8 {n:Nat}{sc:Scope}:∀ {ts:List Expr}{cs:List CT},(∀ e∈ts,Ex2 λ x p=>e=.Name x p)->ts.mapM (compT n sc)=some cs->∀ {Z:Prop},(∀ xs:List (Str×Pos),(ts=xs.map (λ x=>.Name x.1 x.2))->(xs.length=cs.length)->(∀ (j:Nat) x t,xs[j]?=some x->cs[j]?=some t->QeB sc x.1 t)->Z)->Z
 | [],cs,_,h,_,k0=>by obtain rfl:=Option.some.inj h;exact k0 [] rfl rfl (by simp)
 | e::r,cs,hn,h,_,k0=>by
  replace h:=List.mapM_cons.symm.trans h
  obtain ⟨t,ht,h⟩:=Option.bind_eq_some_iff.mp h
  obtain ⟨l,hl,h⟩:=Option.bind_eq_some_iff.mp h
  injection h with h;subst h
  refine Qc8 (λ e m=>hn e (.tail _ m)) hl λ xs e1 e2 e3=>?_
  obtain ⟨x,p,rfl⟩:=hn e (.head _)
  refine k0 ((x,p)::xs) (by refine e1.substr ?_;rfl) (by simp [e2]) (λ j y k hy hk'=>?_)
  cases j with
  | succ j=>exact e3 j y k hy hk'
  | zero=>
   obtain rfl:=Option.some.inj hy;injection hk' with hk';subst hk'
   clear hn e3 e2 e1 h hl;cases n with
   | zero=>exact nos ht
   | succ n=>exact (Qjp (show nmT sc x=some t from ht)).2
set_option tactic.hygienic true in
theorem QhV {cx:Cx}{call:V->List V->M V}{n d:Nat}{env:PySem.Env}{xs:List (Str×Pos)}{ts:List CT}{ρ:Env}{V0:V}{v:Value}{pos:Pos}{kk:Nat}(R:Room A)
  (h:∀ (j:Nat) x t,xs[j]?=some x->ts[j]?=some t->QeB env.scope x.1 t) (hl:xs.length=ts.length) (F:FrameRel B ι s.heap env ρ) (I:Inv B fr ι σ s.heap)
  (hv:Val B ι s.heap V0 v):
  T B fr A L [env.locals] (PySem.assign (.Tuple (xs.map (λ x=>.Name x.1 x.2)) kk pos) env v) (Mine.assign cx call n (d+2) (.tup ts) V0 ρ) (λ ι h ρ' _=>FrameRel B ι h env ρ') ι σ s:=by
 cases V0<;>first | exact T.stuck | skip
 rename_i l
 show T B fr A L [env.locals] _ (if l.length=ts.length then Qb7 (Mine.assign cx call n (d+1)) ts l ρ else M.stuck) _ ι σ s
 by_cases hll:l.length=ts.length
 ·refine (if_pos hll).substr ?_;rw [arm_assign_Tuple,Qa1]
  refine T.at ?_
  obtain ⟨a,its,rfl,hni,⟨n',g⟩,f⟩:=hv
  intro hb
  refine wpAny_unpack_tuple (items:=its.toArray) R.hand ⟨_,g,rfl,n',rfl⟩ (by simp [f.len,hl,hll]) (by simp) λ h' hx=>?_
  have kp:∀ b o,s.heap.get? b=some o->h'.get? b=some o:=λ b o e=>hx b o (Nat.ne_of_lt (Heap.lt_size e)) e
  have I':=I.ext kp
  have go:Go B (frs fr) [env.locals] ι s.heap ι h':=Go.ext kp
  have:=Qdn (A:=A) (L:=L) (cx:=cx) (call:=call) (n:=n) (d:=d) h hl (F.mono (F:=frs fr) (X:=[]) (Go.ext kp) I.tabs.nt (by simp):FrameRel B ι h' env ρ) (s:={ s with heap:=h' }) I' (f.mono go I.tabs.nt)
  simp only [List.map_map]
  refine wpAny_mono (this hb) (λ v s'' hq=>?_) λ e s'' he=>?_
  ·exact TQ.up (s':={ s with heap:=h' }) go ⟨rfl,rfl,rfl⟩ rfl hq
  ·exact TE.up (s':={ s with heap:=h' }) go ⟨rfl,rfl,rfl⟩ rfl he
 ·refine (if_neg hll).substr ?_;exact T.stuck
end
section
open PySem PySem.Calls PyProof.Rows
variable {B:Bs}{fr:List PySem.Env}{A:Around}{L:Addr}{X:List Addr}{ι:List Addr}{σ:List O}{s:Shared}{env:PySem.Env}
noncomputable def FlR (B:Bs) (ι:List Addr) (h:Heap):Fl->Flow->Prop
 | .next,.next=>True
 | .brk,.brk=>True
 | .ret v,.ret u=>Val B ι h v u
 | _,_=>False
noncomputable def FrO (B:Bs) (ι:List Addr) (h:Heap) (env:PySem.Env):Fl->Env->Prop
 | .next,ρ=>FrameRel B ι h env ρ
 | .brk,ρ=>FrameRel B ι h env ρ
 | .ret _,_=>True
noncomputable def SR (B:Bs) (env:PySem.Env):List Addr->Heap->(Fl×Env)->Flow->Prop:=λ ι h p f=>FlR B ι h p.1 f/\FrO B ι h env p.1 p.2
structure FnEnv (B:Bs) (fr:List PySem.Env) (env:PySem.Env):Prop where
 frame:env.frame=some env.locals
 lam:Qcu B env
 top:∃ outer,fr=env::outer
theorem ScRel.refl (env:PySem.Env):ScRel env.scope env:=λ _=>⟨rfl,.inl rfl⟩
structure Ev (B:Bs) (fr:List PySem.Env) (D U:Nat) (call:V->List V->M V) (n:Nat):Prop where
 ev:Qgp B fr D U call n
 tr:Qh7 B fr D U call n
 hU:U+100<cLine
theorem Ev.at {D U n:Nat}{call:V->List V->M V}(H:Ev B fr D U call n) (fe:FnEnv B fr env) (am:Amb fr D U { A with units:=A.units+8 * n }) {e:Expr}{k:Nat}{ρ:Env}(F:FrameRel B ι s.heap env ρ) (I:Inv B fr ι σ s.heap):
  T B fr A env.locals [env.locals] (eval e env) (Mine.ev B.cx call n ρ (comp k true env.scope e)) (VR B) ι σ s:=
 T.wide (X:=[]) (by simp) (H.ev A env.locals k true env.scope env e ρ ι σ s trivial am (ScRel.refl env) (λ _=>fe.lam) F I)
theorem FrameRel.next {ι ι':List Addr}{h h':Heap}{ρ:Env}(F:FrameRel B ι h env ρ) {f:List Addr}(g:Go B f [] ι h ι' h') (N:QbT B h):FrameRel B ι' h' env ρ:=F.mono g N (by simp)
theorem T.evThen {D U n:Nat}{call:V->List V->M V}(H:Ev B fr D U call n) (fe:FnEnv B fr env) (am:Amb fr D U { A with units:=A.units+8 * n }) {e:Expr}{k:Nat}{ρ:Env}(F:FrameRel B ι s.heap env ρ) (I:Inv B fr ι σ s.heap)
  {β γ:Type}{t:Value->Sem β}{m:V->M γ}{rel:List Addr->Heap->γ->β->Prop}
  (h:∀ v u ι' σ' s',Go B (frs fr) [] ι s.heap ι' s'.heap->FrameRel B ι' s'.heap env ρ->Inv B fr ι' σ' s'.heap->Val B ι' s'.heap v u->T B fr A env.locals [env.locals] (t u) (m v) rel ι' σ' s'):
  T B fr A env.locals [env.locals] (eval e env >>= t) (M.bind (Mine.ev B.cx call n ρ (comp k true env.scope e)) m) rel ι σ s:=by
 intro hb
 refine wpAny_bind (T.use (H.ev A env.locals k true env.scope env e ρ ι σ s trivial am (ScRel.refl env) (λ _=>fe.lam) F I) (Qam hb) (λ v u ι' σ' s' q g I' r sm=>?_) λ v s' q=>?_)
 ·rw [Qan q] at hb ⊢
  refine wpAny_mono (h v u ι' σ' s' g (F.next g I.tabs.nt) I' r hb) (λ w s'' z=>?_) λ w s'' z=>?_
  ·exact TQ.up (g.wide (by simp)) sm rfl z
  ·exact TE.up (g.wide (by simp)) sm rfl z
 ·exact TE.bind (q.wide (by simp))
theorem Qlk {D U n:Nat}{call:V->List V->M V}(H:Ev B fr D U call n) (fe:FnEnv B fr env) (am:Amb fr D U { A with units:=A.units+8 * n }) {e:Expr}{k:Nat}{ρ:Env}{pos:Pos}(F:FrameRel B ι s.heap env ρ) (I:Inv B fr ι σ s.heap) (hl:Qlp e=false):
  T B fr A env.locals [env.locals] (exec (.Expr e pos) env) (M.bind (Mine.ev B.cx call n ρ (comp k true env.scope e)) λ _=>M.ret (.next,ρ)) (SR B env) ι σ s:=by
 have hi:interactive env=false:=by unfold interactive;refine F.kind.substr ?_;rfl
 have hs:swapsWith e none pos.line env=pure false:=by cases e<;>first | rfl | (contradiction;done)
 refine (exec_Expr env e pos hi hs).symm▸?_
 refine T.at (T.evThen H fe am F I λ v u ι' σ' s' g F' I' r=>?_)
 exact T.leaf I' λ _=>⟨_,rfl,λ Q E k=>wpAny_dropValue (k _ _ ⟨trivial,F'⟩ rfl ⟨rfl,rfl,rfl⟩)⟩
theorem Qjd {D U n:Nat}{call:V->List V->M V}(H:Ev B fr D U call n) (fe:FnEnv B fr env) (am:Amb fr D U { A with units:=A.units+8 * n }) {e:Expr}{k:Nat}{ρ:Env}{pos:Pos}(F:FrameRel B ι s.heap env ρ) (I:Inv B fr ι σ s.heap):
  T B fr A env.locals [env.locals] (exec (.Return (some e) pos) env) (M.bind (Mine.ev B.cx call n ρ (comp k true env.scope e)) λ v=>M.ret (.ret v,ρ)) (SR B env) ι σ s:=by
 simp only [exec_Return_some]
 exact T.at (T.evThen H fe am F I λ v u ι' σ' s' g F' I' r=>T.ret rfl I' ⟨r,trivial⟩)
theorem Qll {ρ:Env}{pos:Pos}(F:FrameRel B ι s.heap env ρ) (I:Inv B fr ι σ s.heap):
  T B fr A L X (exec (.Break pos) env) (M.ret (.brk,ρ)) (SR B env) ι σ s:=by
 exact T.at (T.ret rfl I ⟨trivial,F⟩)
theorem QfR {D U n:Nat}{call:V->List V->M V}(H:Ev B fr D U call n) (fe:FnEnv B fr env) (am:Amb fr D U { A with units:=A.units+8 * n }) {t e:Expr}{k:Nat}{ρ:Env}{pos:Pos}{ct:CT}(F:FrameRel B ι s.heap env ρ) (I:Inv B fr ι σ s.heap)
  (hs:swapsWithSole [t] e pos.line env=pure false) (hw:swappedStores [t] e env=pure none) (he:(assignEach [t] env).map (·.2)=[PySem.assign t env])
  (ht:∀ v u ι σ s,FrameRel B ι s.heap env ρ->Inv B fr ι σ s.heap->Val B ι s.heap v u->T B fr A env.locals [env.locals] (PySem.assign t env u) (Mine.assign B.cx call n 3 ct v ρ) (λ ι h ρ' _=>FrameRel B ι h env ρ') ι σ s):
  T B fr A env.locals [env.locals] (exec (.Assign [t] e pos) env)
   (M.bind (Mine.ev B.cx call n ρ (comp k true env.scope e)) λ v=>M.bind (Mine.assign B.cx call n 3 ct v ρ) λ ρ=>M.ret (.next,ρ)) (SR B env) ι σ s:=by
 refine T.at ?_
 refine hs.substr ?_
 show T B fr A env.locals [env.locals] (eval e env >>= λ v=>do assignStores env v (<- swappedStores [t] e env) ((assignEach [t] env).map (·.2))) _ _ _ _ _
 refine hw.substr ?_;refine he.substr ?_
 refine T.evThen H fe am F I λ v u ι' σ' s' g F' I' r=>?_
 show T B fr A env.locals [env.locals] (do PySem.assign t env u;pure Flow.next) _ _ _ _ _
 exact T.bind (ht v u ι' σ' s' F' I' r) λ ρ' _ ι₂ σ₂ s₂ _ g₂ I₂ r₂ _=>T.ret rfl I₂ ⟨trivial,r₂⟩
theorem Qke {d:Nat}{ex:CS->Mine.X}{c:Stmt->CS}:∀ {l:List Stmt}{ρ:Env}{ι:List Addr}{σ:List O}{s:Shared},
  (∀ st∈l,∀ ρ ι σ s,FrameRel B ι s.heap env ρ->Inv B fr ι σ s.heap->T B fr A env.locals [env.locals] (exec st env) (ex (c st) ρ) (SR B env) ι σ s) →
  FrameRel B ι s.heap env ρ->Inv B fr ι σ s.heap->T B fr A env.locals [env.locals] (execs l env) (Qau ex (l.map c) ρ) (SR B env) ι σ s
 | [],ρ,ι,σ,s,_,F,I=>T.ret rfl I ⟨trivial,F⟩
 | st::r,ρ,ι,σ,s,h,F,I=>by
  refine T.bind (h st (.head _) ρ ι σ s F I) λ p f ι' σ' s' _ g I' r' _=>?_
  obtain ⟨fl,ρ'⟩:=p
  obtain ⟨h1,h2⟩:=r'
  cases fl<;>cases f<;>first | exact False.elim h1 | skip
  ·exact Qke (d:=d) (λ st m=>h st (.tail _ m)) h2 I'
  ·exact T.ret rfl I' ⟨trivial,h2⟩
  ·exact T.ret rfl I' ⟨h1,h2⟩
end
section
open PySem PySem.Calls PyProof.Rows
variable {B:Bs}{fr:List PySem.Env}{A:Around}{L:Addr}{X:List Addr}{ι:List Addr}{σ:List O}{s:Shared}{env:PySem.Env}
theorem QpW {D U n:Nat}{call:V->List V->M V}(H:Ev B fr D U call n) (fe:FnEnv B fr env) (am:Amb fr D U { A with units:=A.units+8 * n }) {e:Expr}{a b:List Stmt}{k:Nat}{ρ:Env}{pos:Pos}{xa xb:Mine.X}
  (F:FrameRel B ι s.heap env ρ) (I:Inv B fr ι σ s.heap)
  (ha:∀ ι σ s,FrameRel B ι s.heap env ρ->Inv B fr ι σ s.heap->T B fr A env.locals [env.locals] (execs a env) (xa ρ) (SR B env) ι σ s)
  (hb:∀ ι σ s,FrameRel B ι s.heap env ρ->Inv B fr ι σ s.heap->T B fr A env.locals [env.locals] (execs b env) (xb ρ) (SR B env) ι σ s):
  T B fr A env.locals [env.locals] (exec (.If e a b pos) env) (M.bind (Mine.tr B.cx call n ρ (comp k true env.scope e)) λ c=>if c then xa ρ else xb ρ) (SR B env) ι σ s:=by
 refine T.at ?_
 intro hbad
 refine wpAny_bind (T.use (H.tr A env.locals k true env.scope env e ρ ι σ s am (ScRel.refl env) (λ _=>fe.lam) F I) (Qam hbad) (λ v u ι' σ' s' q g I' r sm=>?_) λ v s' q=>?_)
 ·subst r
  rw [Qan q] at hbad ⊢
  cases v
  ·exact wpAny_mono (hb ι' σ' s' (F.next g I.tabs.nt) I' hbad) (λ w s'' z=>TQ.up (g.wide (by simp)) sm rfl z) λ w s'' z=>TE.up (g.wide (by simp)) sm rfl z
  ·exact wpAny_mono (ha ι' σ' s' (F.next g I.tabs.nt) I' hbad) (λ w s'' z=>TQ.up (g.wide (by simp)) sm rfl z) λ w s'' z=>TE.up (g.wide (by simp)) sm rfl z
 ·exact TE.bind (q.wide (by simp))
inductive TN (B:Bs) (fr:List PySem.Env) (L:Addr) (X:List Addr) {α:Type}(r:RS α) (ι:List Addr) (s:Shared) (e:Value) (s':Shared):Prop
 | mk (m sp:V) (σ':List O) (ι':List Addr) (a:Addr) (hr:r=.exc m sp σ') (g:Go B (frs fr) X ι s.heap ι' s'.heap) (i:Inv B fr ι' σ' s'.heap) (he:e=.ref a) (x:ExnAt B s.heap ι' s'.heap m sp a (·=rawInt L))
  (t:Ex3 λ oe vs T=>And3 (s'.heap.get? a=some oe) (oe.data=.fields vs) (vs[1]?=some (.ref T))) (sm:Same s s'):TN B fr L X r ι s e s'
theorem TE.note {α:Type}{r:RS α}{e:Value}{s':Shared}{E:Value->Shared->Prop}(fe:FnEnv B fr env) (hfr:A.frames=some fr) (I:Inv B fr ι σ s.heap) (x:TE B fr env.locals X r ι s e s')
  (h:∀ s'',TN B fr env.locals X r ι s e s''->E e s''):notedBy (model B.prog B.w) A env E e s':=by
 refine byK λ Pz kz=>?_;obtain ⟨outer,rfl⟩:=fe.top
 obtain ⟨m,sp,σ',ι',hr,g,I',⟨a,rfl,hx⟩,sm⟩:=x
 refine kz ?_;refine Qfh hfr fe.frame I g I' hx (λ v z=>z) λ h' I'' g' hx' ht=>h _ ⟨m,sp,σ',ι',a,hr,g',I'',rfl,hx',ht,sm.trans ⟨rfl,rfl,rfl⟩⟩
theorem TN.back {α β:Type}{r:RS α}{r':RS β}{e:Value}{s':Shared}{E:Value->Shared->Prop}(fe:FnEnv B fr env) (I:Inv B fr ι σ s.heap) (x:TN B fr env.locals X r ι s e s') (hr':∀ m sp σ',r=.exc m sp σ'->r'=.exc m sp σ')
  (h:∀ s'',TE B fr env.locals X r' ι s e s''->E e s''):cameBackBy (model B.prog B.w) A env E e s':=by
 obtain ⟨m,sp,σ',ι',a,hr,g,I',rfl,hx,⟨oe,vs,T,t1,t2,t3⟩,sm⟩:=x
 refine wpAny_bind (wpAny_field t1 t2 t3 ?_)
 refine Qb9 I g I' hx λ h' I'' g' hx'=>h _ ⟨m,sp,σ',ι',hr' _ _ _ hr,g',I'',⟨a,rfl,?_⟩,sm.trans ⟨rfl,rfl,rfl⟩⟩
 replace hx':=fe.frame▸hx'
 exact hx'.mon λ _ z=>.inr z
theorem TE.from {α:Type}{r:RS α}{e:Value}{s' s₁:Shared}{ι₁:List Addr}(g:Go B (frs fr) X ι s.heap ι₁ s₁.heap) (sm:Same s s₁) (x:TE B fr L X r ι₁ s₁ e s'):TE B fr L X r ι s e s':=TE.up g sm rfl x
theorem Qli {D U n:Nat}{call:V->List V->M V}(H:Ev B fr D U call n) (fe:FnEnv B fr env) (am:Amb fr D U { A with units:=A.units+8 * n }) {e:Expr}{body:List Stmt}{k:Nat}{ρ:Env}{pos:Pos}{xb:Mine.X}{w:Nat}
  (F:FrameRel B ι s.heap env ρ) (I:Inv B fr ι σ s.heap)
  (ha:∀ ρ ι σ s,FrameRel B ι s.heap env ρ->Inv B fr ι σ s.heap->T B fr A env.locals [env.locals] (execs body env) (xb ρ) (SR B env) ι σ s):
  T B fr A env.locals [env.locals] (exec (.While e body [] pos) env) (Qat (λ ρ=>Mine.tr B.cx call n ρ (comp k true env.scope e)) xb w ρ) (SR B env) ι σ s:=by
 intro hbad
 generalize htot:Qat (λ ρ=>Mine.tr B.cx call n ρ (comp k true env.scope e)) xb w ρ σ=tot at hbad
 refine wpAny_While (codeAny_whileLoop (λ (m:Nat) (s':Shared)=>Ex3 λ ρ' ι' σ'=>And5 (Go B (frs fr) [env.locals] ι s.heap ι' s'.heap) (Inv B fr ι' σ' s'.heap) (FrameRel B ι' s'.heap env ρ') (Same s s') (Qat (λ ρ=>Mine.tr B.cx call n ρ (comp k true env.scope e)) xb m ρ' σ'=tot)) (λ m s₁ ⟨ρ',ι₁,σ₁,g₁,I₁,F₁,sm₁,ht⟩=>?_) w ⟨ρ,ι,σ,.refl ..,I,F,.refl _,htot⟩)
 cases m with
 | zero=>exact absurd ht.symm hbad
 | succ m=>
  rw [whl1] at ht
  have hb1:Mine.tr B.cx call n ρ' (comp k true env.scope e) σ₁≠.bad:=λ q=>hbad (by refine ht.symm.substr ?_;rw [M.bind];refine q.substr ?_;rfl)
  have x:=H.tr A env.locals k true env.scope env e ρ' ι₁ σ₁ s₁ am (ScRel.refl env) (λ _=>fe.lam) F₁ I₁
  have fin:∀ {α:Type}{r:RS α}{v:Value}{ι₂:List Addr}{s₂:Shared}(s':Shared),Go B (frs fr) [env.locals] ι s.heap ι₂ s₂.heap->Same s s₂->TE B fr env.locals [env.locals] r ι₂ s₂ v s'->(∀ m sp σ',r=.exc m sp σ'->tot=.exc m sp σ') →
    notedBy (model B.prog B.w) A env (λ e s'=>cameBackBy (model B.prog B.w) A env (TE B fr env.locals [env.locals] tot ι s) e s') v s':=λ s' g sm z hr=>
   TE.note fe am.frames I (TE.from g sm z) λ s'' z'=>TN.back fe I z' hr λ s3 z3=>z3
  refine T.use x hb1 (λ v u ι₂ σ₂ s₂ q g I₂ r sm=>?_) λ v s' z=>?_
  ·subst r
   have F₂:=F₁.next g I₁.tabs.nt
   have g₂:=g₁.trans (g.wide (Y:=[env.locals]) (by simp))
   rw [Qan q] at ht
   cases v
   ·
    refine wpAny_execs_nil ?_
    exact ⟨(.next,ρ'),σ₂,ι₂,ht.symm,g₂,I₂,⟨trivial,F₂⟩,sm₁.trans sm⟩
   ·simp only [if_true] at ht ⊢
    have hb2:xb ρ' σ₂≠.bad:=λ q=>hbad (by refine ht.symm.substr ?_;unfold M.bind;refine q.substr ?_;rfl)
    refine T.use (ha ρ' ι₂ σ₂ s₂ F₂ I₂) hb2 (λ p f ι₃ σ₃ s₃ q g I₃ r sm3=>?_) λ v s' z=>?_
    ·rw [Qan q] at ht
     obtain ⟨fl,ρ₃⟩:=p
     obtain ⟨r1,r2⟩:=r
     have g₃:=g₂.trans g
     have sm₃:=(sm₁.trans sm).trans sm3
     clear sm3 hb2 q F₂ I₂ g x hb1 F₁ I₁ hbad htot ha I F am fe H;cases fl<;>cases f<;>first | exact False.elim r1 | skip
     ·exact ⟨m,Nat.lt_succ_self m,ρ₃,ι₃,σ₃,g₃,I₃,r2,sm₃,ht⟩
     ·exact ⟨(.next,ρ₃),σ₃,ι₃,ht.symm,g₃,I₃,⟨trivial,r2⟩,sm₃⟩
     ·exact ⟨_,σ₃,ι₃,ht.symm,g₃,I₃,⟨r1,r2⟩,sm₃⟩
    ·exact fin s' g₂ (sm₁.trans sm) z λ m sp σ' h=>by refine ht.symm.substr ?_;unfold M.bind;refine h.substr ?_;rfl
  ·exact fin s' g₁ sm₁ (z.wide (by simp)) λ m sp σ' h=>by refine ht.symm.substr ?_;unfold M.bind;refine h.substr ?_;rfl
end
section
open PySem PySem.Calls PyProof.Rows
variable {B:Bs}{fr:List PySem.Env}{A:Around}{L:Addr}{X:List Addr}{ι:List Addr}{σ:List O}{s:Shared}{env:PySem.Env}
set_option tactic.hygienic true in
theorem FrameRel.extBut {a:Addr}{h h':Heap}{ρ:Env}(F:FrameRel B ι h env ρ) (x:Heap.ExtBut a h h') (hne:env.locals≠a) (mo:Mo B [] [a] ι h ι h') (T:QbT B h):FrameRel B ι h' env ρ:=by
 refine byK λ Pz kz=>?_;obtain ⟨m,⟨o,es,ep,e,d,k,ff⟩,r⟩:=F.ns
 refine kz ?_;refine ⟨F.kind,F.glob,F.blt,F.len,F.Lni,F.Lg,F.Lt,⟨m,⟨o,es,ep,x _ _ hne e,d,k,ff⟩,λ y i a b=>?_⟩,F.cells⟩
 have:=r y i a b
 split<;>rename_i q<;>simp only [q] at this
 ·obtain ⟨v,e1,e2⟩:=this;exact ⟨v,e1,e2.mono' mo T⟩
 ·exact this
noncomputable def Qh8 (Sh:Nat->Obj->Prop) (It:Addr) (j:Nat) (h:Heap):Prop:=∃ o,h.get? It=some o/\Sh j o
noncomputable def QfU (as:V->Env->M Env) (xb:Mine.X) (k:Env->M (Fl×Env)) (v:V) (ρ:Env):M (Fl×Env):=
 M.bind (as v ρ) λ ρ=>M.bind (xb ρ) λ p=>(match p.1 with
  | .next=>k p.2
  | .brk=>M.ret (.next,p.2)
  | .ret _=>M.ret p)
noncomputable def QlB (B:Bs) (A:Around) (It:Addr) (Sh:Nat->Obj->Prop) (as:V->Env->M Env) (xb:Mine.X) (G:Nat->Nat->Env->M (Fl×Env)) (m j:Nat) (ρ:Env) (ι':List Addr) (σ':List O) (s':Shared):Prop:=
   (G m j ρ σ'=.ok (.next,ρ) σ'/\∀ (Q:Option Value->Shared->Prop) (E:Value->Shared->Prop),(∀ h',Heap.ExtBut It s'.heap h'->Q none { s' with heap:=h' })->wpAny (model B.prog B.w) A (pyNext (.ref It)) Q E s') ∨
   Ex3 λ m' v u=>And4 (m=m'+1) (G m j ρ σ'=QfU as xb (G m' (j+1)) v ρ σ') (Val B ι' s'.heap v u) (∀ (Q:Option Value->Shared->Prop) (E:Value->Shared->Prop),(∀ s'',Qh8 Sh It (j+1) s''.heap->Heap.SameBut It s'.heap s''.heap->Same s' s''->Q (some u) s'')->wpAny (model B.prog B.w) A (pyNext (.ref It)) Q E s')
theorem QcW {target:Expr}{It:Addr}{body:List Stmt}{Sh:Nat->Obj->Prop}{G:Nat->Nat->Env->M (Fl×Env)}{as:V->Env->M Env}{xb:Mine.X}{ι₁:List Addr}{σ₁:List O}{s₁:Shared}{ρ:Env}{w:Nat}{tot:RS (Fl×Env)}
  (fe:FnEnv B fr env) (hfr:A.frames=some fr) (I:Inv B fr ι σ s.heap) (hIt:Aside B fr s It) (hItL:env.locals≠It)
  (hSh:∀ j o,Sh j o->∃ vs,o.data=.fields vs/\∀ q t,vs[1]?≠some (Value.str q t))
  (hgo:∀ j (s':Shared) v (Q:Unit->Shared->Prop) (E:Value->Shared->Prop),Qh8 Sh It j s'.heap->Q () s'->wpAny (model B.prog B.w) A (letOwnedTupleGo target (.ref It) v) Q E s')
  (hG:∀ m j ρ ι' σ' (s':Shared),Go B (frs fr) [env.locals] ι s.heap ι' s'.heap->Inv B fr ι' σ' s'.heap->Qh8 Sh It j s'.heap->G m j ρ σ'≠.bad →
   QlB B A It Sh as xb G m j ρ ι' σ' s')
  (has:∀ v u ρ ι σ s,FrameRel B ι s.heap env ρ->Inv B fr ι σ s.heap->Val B ι s.heap v u->T B fr A env.locals [env.locals] (PySem.assign target env u) (as v ρ) (λ ι h ρ' _=>FrameRel B ι h env ρ') ι σ s)
  (hxb:∀ ρ ι σ s,FrameRel B ι s.heap env ρ->Inv B fr ι σ s.heap->T B fr A env.locals [env.locals] (execs body env) (xb ρ) (SR B env) ι σ s)
  (g:Go B (frs fr) [env.locals] ι s.heap ι₁ s₁.heap) (I₁:Inv B fr ι₁ σ₁ s₁.heap) (F₁:FrameRel B ι₁ s₁.heap env ρ) (sm:Same s s₁) (hi:Qh8 Sh It 0 s₁.heap) (hni:It ∉ ι₁) (ht:G w 0 ρ σ₁=tot) (hbad:tot≠.bad):
  codeAny (model B.prog B.w) A (.forLoop target (.ref It) body [] env) (λ r s'=>match r with
   | .ok f=>TQ B fr [env.locals] tot (SR B env) ι s f s'
   | .error e=>cameBackBy (model B.prog B.w) A env (TE B fr env.locals [env.locals] tot ι s) e s') s₁:=by
 refine codeAny_forLoop_any (λ (m:Nat) (s':Shared)=>Ex4 λ j ρ' ι' σ'=>And7 (Go B (frs fr) [env.locals] ι s.heap ι' s'.heap) (Inv B fr ι' σ' s'.heap) (FrameRel B ι' s'.heap env ρ') (Same s s') (It ∉ ι') (Qh8 Sh It j s'.heap) (G m j ρ' σ'=tot)) (λ m s₂ ⟨j,ρ₂,ι₂,σ₂,g₂,I₂,F₂,sm₂,hn₂,hi₂,ht₂⟩=>?_) w ⟨0,ρ,ι₁,σ₁,g,I₁,F₁,sm,hni,hi,ht⟩
 have fin:∀ {α:Type}{r:RS α}{v:Value}{ι₃:List Addr}{s₃:Shared}(s':Shared),Go B (frs fr) [env.locals] ι s.heap ι₃ s₃.heap->Same s s₃->TE B fr env.locals [env.locals] r ι₃ s₃ v s'->(∀ m sp σ',r=.exc m sp σ'->tot=.exc m sp σ') →
   notedBy (model B.prog B.w) A env (λ e s'=>cameBackBy (model B.prog B.w) A env (TE B fr env.locals [env.locals] tot ι s) e s') v s':=λ s' g sm z hr=>
  TE.note fe hfr I (TE.from g sm z) λ s'' z'=>TN.back fe I z' hr λ s3 z3=>z3
 obtain ⟨o,e,hs⟩:=id hi₂
 obtain ⟨vs,hd,hv⟩:=hSh j o hs
 have hnT:∀ o,s₂.heap.get? It=some o->¬ QbR o:=λ o' h z=>by rw [e] at h;refine byK λ Pz kz=>?_;obtain rfl:=Option.some.inj h;obtain ⟨_,a,b,z⟩:=z;rw [hd] at z;refine kz ?_;contradiction
 have hnC:NoCode [It] s₂.heap:=λ b hb o' vs h1 h2 q t z=>by
  rw [List.mem_singleton.mp hb,e] at h1;injection h1 with h1;subst h1;rw [hd] at h2;injection h2 with h2;subst h2;exact hv q t z
 rcases hG m j ρ₂ ι₂ σ₂ s₂ g₂ I₂ hi₂ (ht₂▸hbad) with ⟨q1,q2⟩ | ⟨m',v,u,rfl,q1,q2,q3⟩
 ·refine q2 _ _ λ h' hx=>?_
  refine wpAny_execs_nil ?_
  have I₃:=I₂.extBut hx hn₂ hIt.g hIt.t hnT hnC hIt.f
  have mo1:Mo B [] [It] ι₂ s₂.heap ι₂ h':=⟨List.prefix_refl _,λ b o e2 n t f=>by
   refine ⟨hx b o (λ q=>?_) e2,n⟩
   subst q
   rcases f with f | f
   ·exact hnT o e2 f
   ·exact f.1 (.head _)⟩
  have g₃:Go B (frs fr) [env.locals] ι s.heap ι₂ h':=g₂.after λ b o o₁ z1 z2=>hx b _ (λ q=>by rw [q,hIt.new] at z1;exact nos z1) z2
  exact ⟨(.next,ρ₂),σ₂,ι₂,ht₂.symm.trans q1,g₃,I₃,⟨trivial,F₂.extBut hx hItL mo1 I₂.tabs.nt⟩,sm₂.trans ⟨rfl,rfl,rfl⟩⟩
 ·refine q3 _ _ λ s₃ hi₃ sb sm₃=>?_
  obtain ⟨o3,e3,hs3⟩:=id hi₃
  obtain ⟨go₃,I₃⟩:=I₂.other (F:=frs fr) (X:=[]) sb hn₂ hIt.g hIt.t hnT hnC ⟨o3,e3⟩ (λ m=>absurd m hIt.f)
  have F₃:FrameRel B ι₂ s₃.heap env ρ₂:=F₂.mono go₃ I₂.tabs.nt (by simpa using hItL)
  have g₃:Go B (frs fr) [env.locals] ι s.heap ι₂ s₃.heap:=((g₂.wide (Y:=[env.locals,It]) (by simp)).trans (go₃.wide (by simp))).narrow λ a m n=>by
   simp at m n
   rcases m with rfl | rfl
   ·exact absurd rfl n
   ·exact hIt.new
  replace ht₂:=q1.symm.trans ht₂
  have ha:as v ρ₂ σ₂≠.bad:=λ q=>hbad (by refine ht₂.symm.substr ?_;unfold QfU M.bind;refine q.substr ?_;rfl)
  refine hgo (j+1) s₃ u _ _ hi₃ ?_
  have keepIt:∀ {ι ι':List Addr}{h h':Heap}{j:Nat},Go B (frs fr) [env.locals] ι h ι' h'->It ∉ ι->Qh8 Sh It j h->It ∉ ι'/\Qh8 Sh It j h':=λ {ι ι' h h' j} gg hn ⟨o,e,hs⟩=>by
   obtain ⟨vs,hd,_⟩:=hSh j o hs
   have:=gg.get e hn hIt.t (.inr ⟨by simpa using hItL.symm,.inl λ ⟨es,ep,q⟩=>by rw [hd] at q;contradiction⟩)
   exact ⟨this.2,o,this.1,hs⟩
  have smm:=sm₂.trans sm₃
  refine T.use (has v u ρ₂ ι₂ σ₂ s₃ F₃ I₃ (q2.mono go₃ I₂.tabs.nt)) ha (λ ρ₄ _ ι₄ σ₄ s₄ q4 g4 I₄ F₄ sm4=>?_) λ v s' z=>?_
  ·have g₄:=g₃.trans g4
   obtain ⟨hn₄,hi₄⟩:=keepIt g4 hn₂ hi₃
   unfold QfU at ht₂
   replace ht₂:=(Qan q4).symm.trans ht₂
   have hb2:xb ρ₄ σ₄≠.bad:=λ q=>hbad (by refine ht₂.symm.substr ?_;unfold M.bind;refine q.substr ?_;rfl)
   refine T.use (hxb ρ₄ ι₄ σ₄ s₄ F₄ I₄) hb2 (λ p f ι₅ σ₅ s₅ q5 g5 I₅ r5 sm5=>?_) λ v s' z=>?_
   ·rw [Qan q5] at ht₂
    obtain ⟨fl,ρ₅⟩:=p
    obtain ⟨r1,r2⟩:=r5
    have g₅:=g₄.trans g5
    have smm5:=(smm.trans sm4).trans sm5
    have zq:=keepIt g5 hn₄ hi₄
    clear q5 sm5 g5 hb2 hi₄ hn₄ sm4 F₄ I₄ g4 q4 keepIt ha F₃ I₃ go₃ hs3 e3 sm₃ sb hi₃ q1 q3 q2 hnC hnT hv hd hs e hi₂ hn₂ sm₂ F₂ I₂ g₂ hbad ht hni hi sm F₁ I₁ g hxb has hG hgo hSh hItL hIt I hfr fe;cases fl<;>cases f<;>first | exact False.elim r1 | skip
    ·exact ⟨m',Nat.lt_succ_self m',j+1,ρ₅,ι₅,σ₅,g₅,I₅,r2,smm5,zq.1,zq.2,ht₂⟩
    ·exact ⟨(.next,ρ₅),σ₅,ι₅,ht₂.symm,g₅,I₅,⟨trivial,r2⟩,smm5⟩
    ·exact ⟨_,σ₅,ι₅,ht₂.symm,g₅,I₅,⟨r1,r2⟩,smm5⟩
   ·exact fin s' g₄ (smm.trans sm4) z λ m sp σ' h=>by refine ht₂.symm.substr ?_;unfold M.bind;refine h.substr ?_;rfl
  ·exact fin s' g₃ smm z λ m sp σ' h=>by refine ht₂.symm.substr ?_;unfold QfU M.bind;refine h.substr ?_;rfl
end
section
open PySem PySem.Calls PyProof.Rows
variable {B:Bs}{fr:List PySem.Env}{A:Around}{L:Addr}{X:List Addr}{ι:List Addr}{σ:List O}{s:Shared}{env:PySem.Env}
theorem QeI {α:Type}{r r':RS (Fl×Env)}{ι₁:List Addr}{s₁ s₂:Shared}{c:Code}(g:Go B (frs fr) [env.locals] ι s.heap ι₁ s₁.heap) (sm:Same s s₁) (e:r'=r)
  (h:codeAny (model B.prog B.w) A c (λ r0 s'=>match r0 with
   | .ok f=>TQ B fr [env.locals] r (SR B env) ι₁ s₁ f s'
   | .error e=>cameBackBy (model B.prog B.w) A env (TE B fr env.locals [env.locals] r ι₁ s₁) e s') s₂):
  codeAny (model B.prog B.w) A c (λ r0 s'=>match r0 with
   | .ok f=>TQ B fr [env.locals] r' (SR B env) ι s f s'
   | .error e=>cameBackBy (model B.prog B.w) A env (TE B fr env.locals [env.locals] r' ι s) e s') s₂:=by
 subst e
 refine codeAny_mono h λ r0 s' q=>?_
 cases r0 with
 | ok f=>exact TQ.up g sm rfl q
 | error e=>
  exact wpAny_mono q (λ _ _ z=>TE.up g sm rfl z) λ _ _ z=>TE.up g sm rfl z
theorem Qej (I:Inv B fr ι σ s.heap):Aside B fr s s.heap.objs.size:=
 ⟨Qao s.heap,I.base_new (Qao s.heap),λ q m z=>I.notab_new (Qao s.heap) q m z.symm,λ m=>by
  refine QaF I m λ o h _=>?_
  replace h:=(Qao s.heap).symm.trans h;contradiction⟩
theorem Qf2 {a It:Addr}{its:List Value}{l:List V}{as:V->Env->M Env}{xb:Mine.X}{m j:Nat}{ρ:Env}(R:Room A) (hT:s.heap.IsTuple a its.toArray) (f:Vals B ι s.heap l its)
  (hi:Qh8 (λ j o=>o.cls=.type "tuple_iterator" /\ o.data=.fields #[.ref a,.int j 0]) It j s.heap) (hb:(if m+j=l.length then Qb1 as xb (l.drop j) ρ else M.stuck) σ≠.bad):
  QlB B A It (λ j o=>o.cls=.type "tuple_iterator" /\ o.data=.fields #[.ref a,.int j 0]) as xb (λ m j ρ=>if m+j=l.length then Qb1 as xb (l.drop j) ρ else M.stuck) m j ρ ι σ s:=by
 by_cases hmj:m+j=l.length
 ·have e0:(if m+j=l.length then Qb1 as xb (l.drop j) ρ else M.stuck) σ=Qb1 as xb (l.drop j) ρ σ:=by refine (if_pos hmj).substr ?_;rfl
  obtain ⟨o,e1,e2,e3⟩:=hi
  by_cases hj:j<l.length
  ·obtain ⟨u,hu,hvu⟩:=f.get (List.getElem?_eq_getElem hj)
   refine .inr ⟨m - 1,l[j],u,by lia,e0.trans ?_,hvu,λ Q E k=>wpAny_pyNext_tuple_item ⟨o,e1,e2,e3⟩ hT (by simpa using hu) λ h' hi' sb=>?_⟩
   ·have e1:(λ ρ=>if m - 1+(j+1)=l.length then Qb1 as xb (l.drop (j+1)) ρ else M.stuck)=Qb1 as xb (l.drop (j+1)):=funext λ _=>if_pos (by lia)
    refine (List.drop_eq_getElem_cons hj).substr ?_
    exact congrArg (λ z=>QfU as xb z l[j] ρ σ) e1.symm
   ·obtain ⟨o',w1,w2,w3⟩:=hi'
    exact k _ ⟨o',w1,w2,w3⟩ sb ⟨rfl,rfl,rfl⟩
  ·exact .inl ⟨e0.trans (by refine (List.drop_eq_nil_of_le (Nat.le_of_not_lt hj)).substr ?_;rfl),λ Q E k=>wpAny_pyNext_tuple_end R.hand ⟨o,e1,e2,e3⟩ hT (by have:=f.len;simp_all) k⟩
 ·rw [if_neg hmj] at hb;exact absurd rfl hb
theorem QhO {a It:Addr}{i:Nat}{as:V->Env->M Env}{xb:Mine.X}{m j:Nat}{ρ:Env}(R:Room A) (ea:ι[i]?=some a) (I:Inv B fr ι σ s.heap)
  (hi:Qh8 (λ j o=>o.cls=.type "list_iterator" /\ o.data=.fields #[.ref a,.int j 0]) It j s.heap) (hb:Qes as xb i m j ρ σ≠.bad):
  QlB B A It (λ j o=>o.cls=.type "list_iterator" /\ o.data=.fields #[.ref a,.int j 0]) as xb (λ m j ρ=>Qes as xb i m j ρ) m j ρ ι σ s:=by
 cases m with
 | zero=>exact absurd rfl hb
 | succ m=>
  unfold QlB
  simp only [QgO] at hb ⊢
  refine QaH (Qam hb) λ l el'=>?_
  rw [Qan (Qbo el')] at hb ⊢
  obtain ⟨a',ea',its',nn',ga',fa'⟩:=I.get el'
  obtain rfl:=Option.some.inj (ea.symm.trans ea')
  obtain ⟨o,e1,e2,e3⟩:=hi
  cases hj:l[j]? with
  | none=>
   refine .inl ⟨rfl,λ Q E k=>wpAny_pyNext_list_end R.hand ⟨o,e1,e2,e3⟩ (⟨_,ga',rfl,nn',rfl⟩) ?_ k⟩
   have h1:=fa'.len
   have h2:=List.getElem?_eq_none_iff.mp hj
   simp at h1 ⊢;simp_all
  | some v=>
   obtain ⟨u,hu,hvu⟩:=fa'.get hj
   refine .inr ⟨m,v,u,rfl,rfl,hvu,λ Q E k=>wpAny_pyNext_list_item ⟨o,e1,e2,e3⟩ (⟨_,ga',rfl,nn',rfl⟩) (by simpa using hu) λ h' hi' sb=>?_⟩
   obtain ⟨o',w1,w2,w3⟩:=hi'
   exact k _ ⟨o',w1,w2,w3⟩ sb ⟨rfl,rfl,rfl⟩
set_option tactic.hygienic true in
theorem QoR {D U n:Nat}{call:V->List V->M V}(H:Ev B fr D U call n) (fe:FnEnv B fr env) (am:Amb fr D U { A with units:=A.units+8 * n }) {target e:Expr}{body:List Stmt}{k:Nat}{ρ:Env}{pos:Pos}{as:V->Env->M Env}{xb:Mine.X}{w:Nat}
  (F:FrameRel B ι s.heap env ρ) (I:Inv B fr ι σ s.heap) (hset:QbS e=false)
  (has:∀ v u ρ ι σ s,FrameRel B ι s.heap env ρ->Inv B fr ι σ s.heap->Val B ι s.heap v u->T B fr A env.locals [env.locals] (PySem.assign target env u) (as v ρ) (λ ι h ρ' _=>FrameRel B ι h env ρ') ι σ s)
  (hxb:∀ ρ ι σ s,FrameRel B ι s.heap env ρ->Inv B fr ι σ s.heap->T B fr A env.locals [env.locals] (execs body env) (xb ρ) (SR B env) ι σ s):
  T B fr A env.locals [env.locals] (exec (.For target e body [] pos) env) (M.bind (Mine.ev B.cx call n ρ (comp k true env.scope e)) λ v=>(match v with
   | .tup l=>Qb1 as xb l ρ
   | .ref i=>M.bind (getL i) λ _=>Qes as xb i w 0 ρ
   | _=>M.stuck)) (SR B env) ι σ s:=by
 intro hbad
 have R:Room A:=am.of.room H.hU
 have x:=H.ev A env.locals k true env.scope env e ρ ι σ s trivial am (ScRel.refl env) (λ _=>fe.lam) F I
 refine wpAny_For (T.use x (Qam hbad) (λ v u ι₁ σ₁ s₁ q g I₁ r sm=>?_) λ v s' z=>?_) (λ x=>by cases e<;>first | rfl | (exact Bool.noConfusion hset;done))
 ·have e0:=Qan (f:=λ v=>(match v with
   | .tup l=>Qb1 as xb l ρ
   | .ref i=>M.bind (getL i) λ _=>Qes as xb i w 0 ρ
   | _=>M.stuck)) q
  rw [e0] at hbad
  have F₁:=F.next g I.tabs.nt
  have hA:=Qej I₁
  have hLn:env.locals≠s₁.heap.objs.size:=λ z=>by
   obtain ⟨m,⟨o,es,ep,e',_⟩,_⟩:=F₁.ns
   simp only [z,Qao s₁.heap] at e';contradiction
  cases v<;>first | exact absurd rfl hbad | skip
  ·rename_i l
   have hv:=r
   obtain ⟨a,its,rfl,hni,⟨nn,ga⟩,f⟩:=r
   refine wpAny_pyIter_tuple (items:=its.toArray) ⟨_,ga,rfl,nn,rfl⟩ ?_
   refine QeI (α:=Unit) (g.wide (by simp)) sm e0 ?_
   generalize hob:({ cls:=.type "tuple_iterator", data:=.fields #[.ref a,.int 0 0] }:Obj)=ob
   have kp:∀ b o,s₁.heap.get? b=some o->(s₁.heap.push ob).get? b=some o:=λ b o e=>Heap.get?_push_of_some _ e
   have gI:(s₁.heap.push ob).get? s₁.heap.objs.size=some ob:=Heap.get?_push_size _ (by refine hob▸?_;rfl)
   refine QcW (G:=λ m j ρ=>if m+j=l.length then Qb1 as xb (l.drop j) ρ else M.stuck) (Sh:=λ j o=>o.cls=.type "tuple_iterator" /\ o.data=.fields #[.ref a,.int j 0]) (w:=l.length) (as:=as) (xb:=xb) fe am.frames I₁ hA hLn
    (λ j o h=>⟨_,h.2,λ q t z=>by simp at z⟩) (λ j s' v Q E ⟨o,e1,e2,e3⟩ hQ=>letGo_tupleiter ⟨o,e1,e2,e3⟩ hQ) (λ m j ρ' ι' σ' s' g' I' hi hb=>?_) has hxb (Go.ext kp) (I₁.ext kp) (F₁.next (f:=frs fr) (Go.ext kp) I₁.tabs.nt) ⟨rfl,rfl,rfl⟩ ⟨ob,gI,by exact congrArg _ (hob).symm,by refine hob.symm.substr ?_;rfl⟩ (I₁.new_nin hA.new) (by simp) hbad
   have hv':=hv.mono g' I₁.tabs.nt
   obtain ⟨a',its',ea,hni',⟨nn',ga'⟩,f'⟩:=hv'
   injection ea with ea;subst ea
   exact Qf2 R ⟨_,ga',rfl,nn',rfl⟩ f' hi hb
  ·rename_i i
   dsimp only at hbad e0
   refine QaH (Qam hbad) λ l0 el=>?_
   rw [Qan (Qbo el)] at hbad e0
   refine Qa3 I₁ el r ?_;rintro a its nn rfl ea ga fa
   refine wpAny_pyIter_list ⟨_,ga,rfl,nn,rfl⟩ ?_
   refine QeI (α:=Unit) (g.wide (by simp)) sm e0 ?_
   generalize hob:({ cls:=.type "list_iterator", data:=.fields #[.ref a,.int 0 0] }:Obj)=ob
   have kp:∀ b o,s₁.heap.get? b=some o->(s₁.heap.push ob).get? b=some o:=λ b o e=>Heap.get?_push_of_some _ e
   have gI:(s₁.heap.push ob).get? s₁.heap.objs.size=some ob:=Heap.get?_push_size _ (by refine hob▸?_;rfl)
   refine QcW (G:=λ m j ρ=>Qes as xb i m j ρ) (Sh:=λ j o=>o.cls=.type "list_iterator" /\ o.data=.fields #[.ref a,.int j 0]) (w:=w) (as:=as) (xb:=xb) fe am.frames I₁ hA hLn
    (λ j o h=>⟨_,h.2,λ q t z=>by simp at z⟩) (λ j s' v Q E ⟨o,e1,e2,e3⟩ hQ=>letGo_listiter ⟨o,e1,e2,e3⟩ hQ) (λ m j ρ' ι' σ' s' g' I' hi hb=>?_) has hxb (Go.ext kp) (I₁.ext kp) (F₁.next (f:=frs fr) (Go.ext kp) I₁.tabs.nt) ⟨rfl,rfl,rfl⟩ ⟨ob,gI,by exact congrArg _ (hob).symm,by refine hob.symm.substr ?_;rfl⟩ (I₁.new_nin hA.new) rfl hbad
   exact QhO R (QaR g'.pre ea) I' hi hb
 ·exact TE.bind (z.wide (by simp))
end
section
open PySem PySem.Calls PyProof.Rows
variable {B:Bs}{fr:List PySem.Env}{A:Around}{L:Addr}{X:List Addr}{ι:List Addr}{σ:List O}{s:Shared}{env:PySem.Env}
theorem Qh9 (elt:Expr) (gens:List Comprehension) (inner:Scope) (pos:Pos) (env:PySem.Env) (use:Value->Sem Unit):evalThenUse (.ListComp elt gens inner pos) env use=(do
   let _ <- comprehension (.ListComp elt gens inner pos) inner env (firstIterPos gens pos) (newList []) (firstAsync gens) (firstIter gens env) (some use)
   pure ()):=by rfl
theorem Qje (v:Value) (t:Value->Sem Unit):assignAll v [t]=t v:=by rfl
theorem Qia (x:Str) (p:Pos) (env:PySem.Env):(assignEach [.Name x p] env).map (·.2)=[PySem.assign (.Name x p) env]:=by rfl
theorem Qgo {D U n:Nat}{call:V->List V->M V}(H:Ev B fr D U call n) (am:Amb fr D U { A with units:=A.units+8 * n }) {k:Nat}{inner:Scope}{elt t iter:Expr}{ifs:List Expr}{pos spos npos:Pos}{ρ:Env}{ts:List Nat}{single:Bool}{frl:List (Nat×Nat)}{m0:M V}{x:Str}{i:Nat}
  (wf:Nat) (F:FrameRel B ι s.heap env ρ) (I:Inv B fr ι σ s.heap)
  (hsc:QaZ inner=true) (hset:QbS iter=false) (hf:QaE inner env.scope=some frl) (htg:QeA inner t ts single) (hifs:ifs.length<=1)
  (h0:T B fr A env.locals [] (eval iter env) m0 (VR B) ι σ s) (hsw:swapsWithSole [.Name x npos] (.ListComp elt [⟨t,iter,ifs,0⟩] inner pos) spos.line env=pure true)
  (hi:Qaf env.scope x=some i) (hk:kindOf env.scope x=some .local) {MM:M V}
  (hMM:MM=(match Qae ρ frl (List.replicate inner.names.length none) with
    | some ρ'=>M.bind m0 λ v=>M.bind (asRef v) λ i=>M.bind (getL i) λ _=>M.bind (M.noExc (compLoop (Qdq B.cx call n ts single (ifs.map (comp k false inner)) (comp k false inner elt)) i wf 0 ρ')) QaQ
    | none=>M.stuck)):
  T B fr A env.locals [env.locals] (exec (.Assign [.Name x npos] (.ListComp elt [⟨t,iter,ifs,0⟩] inner pos) spos) env)
   (M.bind MM λ v=>M.bind (Qaq i v ρ) λ ρ=>M.ret (.next,ρ)) (SR B env) ι σ s:=by
 intro hb
 refine wpAny_bind (wpAny_standAt ?_)
 refine (hsw).symm▸?_
 refine wpAny_bind (wpAny_pure ?_)
 refine wpAny_bind ?_
 refine wpAny_bind (QhD wf H.hU H.ev H.tr am (ScRel.refl env) F I hsc hset hf htg hifs h0 (by have:=Qam hb;rw [hMM] at this;exact this) (λ v s' z=>?_) λ Lf σf ι' s' D C hfin g₁ I₁ hl hD sm₁ ⟨⟨m,a6⟩,hCn⟩ hA hC hAC=>?_)
 ·refine TE.bind ?_
  exact (show TE B fr env.locals [] (MM σ) ι s v s' from by refine hMM.substr ?_;exact z).wide (by simp)
 ·have hfin':MM σ=.ok (.ref σf.length) (σf++[.list Lf]):=by refine hMM.substr ?_;exact hfin
  rw [Qan hfin'] at hb ⊢
  obtain ⟨ys,nA,e5,v5⟩:=hl
  have nT:¬ QbR ({ cls:=.type "list", data:=.seq ys nA }:Obj):=λ z=>absurd z.1 (by simp)
  have I6:=I₁.adopt (o:=.list Lf) hD hA.g hA.t hA.f e5 nT (λ vs q=>by contradiction) ⟨ys,nA,e5,Vals.mono' (Qhy e5 nT) I₁.tabs.nt v5⟩
  have hlast:(ι'++[D])[σf.length]?=some D:=by refine I₁.len▸?_;simp
  have g6:Go B (frs fr) [] ι s.heap (ι'++[D]) s'.heap:=by
   refine ⟨g₁.pre.trans (List.prefix_append _ _),λ b m n=>?_,g₁.step⟩
   rcases List.mem_append.mp m with m | m
   ·exact g₁.newf b m n
   ·exact Eq.trans (congrArg _ (List.mem_singleton.mp m)) hA.new
  have F6:=F.next g6 I.tabs.nt
  have hLC:env.locals≠C:=λ z=>by
   obtain ⟨m,⟨o,es,ep,e',_⟩,_⟩:=F.ns
   simp only [z,hC.new] at e';contradiction
  have hCn6:C ∉ ι'++[D]:=λ m=>by
   rcases List.mem_append.mp m with m | m
   ·exact hCn m
   ·exact hAC (List.mem_singleton.mp m).symm
  have hbs:Qaq i (.ref σf.length) ρ (σf++[.list Lf])≠.bad:=Qam hb
  refine T.use (Qb8 (A:=A) (L:=env.locals) (X:=[env.locals]) (pos:=npos) (.head _) hi hk F6 I6 (Qb2 hlast)) hbs (λ ρ' _ ι₃ σ₃ s₃ q g₃ I₃ F₃ sm₃=>?_) (λ v s'' z=>?_)
  ·obtain ⟨oC,esC,epC,eC,dC,rC⟩:=a6
   obtain ⟨eC3,nC3⟩:=g₃.get eC hCn6 hC.t (.inr ⟨by simpa using hLC.symm,.inr hC.f⟩)
   refine ⟨m,⟨oC,esC,epC,eC3,dC,rC⟩,λ h' hs=>?_⟩
   have hnTC:∀ o,s₃.heap.get? C=some o->¬ QbR o:=λ o h z=>by rw [eC3] at h;obtain rfl:=Option.some.inj h;obtain ⟨_,x,y,z⟩:=z;replace z:=dC.symm.trans z;contradiction
   have hnCC:NoCode [C] s₃.heap:=λ b hb o vs h1 h2=>by rw [List.mem_singleton.mp hb,eC3] at h1;obtain rfl:=Option.some.inj h1;replace h2:=dC.symm.trans h2;contradiction
   have mo1:Mo B [] [C] ι₃ s₃.heap ι₃ h':=⟨List.prefix_refl _,λ b o e2 n t f=>by
     refine ⟨(hs.2 b (λ q=>?_)).trans e2,n⟩
     clear t n hnCC nC3 eC3 rC dC eC hbs hCn6 F6 hlast I6 nT v5 e5 hfin' hCn hAC hA hD I₁ g₁ hfin hb hMM hk hi hsw h0 hifs htg hf hset hsc I F am H;subst q
     rcases f with f | f
     ·exact hnTC o e2 f
     ·exact f.1 (.head _)⟩
   refine (Qan q).substr ?_
   exact wpAny_pure<|wpAny_pure ⟨(.next,ρ'),σ₃,ι₃,rfl,(((g6.wide (Y:=[env.locals]) (by simp)).trans g₃).after λ b o o₁ z1 z2=>(hs.2 b λ q=>by rw [q,hC.new] at z1;contradiction).trans z2),(I₃.extBut hs.extBut nC3 hC.g hC.t hnTC hnCC hC.f),⟨trivial,F₃.extBut hs.extBut hLC mo1 I₃.tabs.nt⟩,(sm₁.trans sm₃).trans ⟨rfl,rfl,rfl⟩⟩
  ·exact TE.up (g6.wide (by simp)) sm₁ rfl (TE.bind z)
end
section
open PySem PySem.Calls PyProof.Rows
variable {B:Bs}{fr:List PySem.Env}{A:Around}{L:Addr}{X:List Addr}{ι:List Addr}{σ:List O}{s:Shared}{env:PySem.Env}
theorem QeQ {E:Value->Shared->Prop}{a:Addr}{its:Array Value}{n:Nat}{i:Int}{t:Tok}{v:Value}{Q:Unit->Shared->Prop}(g:s.heap.get? a=some { cls:=.type "list", data:=.seq its n }) (h0:0<=i) (hi:i<its.size) (hf:i<2 ^ 63)
  (h:Q () { s with heap:=s.heap.update a (Obj.mapSeq (·.setIfInBounds i.toNat v)) }):wpAny (model B.prog B.w) A (setItem (.ref a) (.int i t) v) Q E s:=by
 have hl:s.heap.IsList a its:=⟨_,g,rfl,n,rfl⟩
 unfold setItem
 try with_reducible refine wpAny_holding ?_
 first | refine wpAny_bind (wpAny_pure ?_) | skip
 refine wpAny_bind (wpAny_sequenceKey hl.typeIs (by decide) ?_)
 refine wpAny_bind (wpAny_callSpecial?_slot (name:=Str.ofString "__setitem__") hl.typeIs slot_list_setitem
  (wpAny_call_entry slot_list_setitem hl.typeIs entry_list_setitem ?_ (args_list_setitem _ _ _)))
 show wpAny _ _ (Builtin.List.listSubscript? (.int i t) >>= _) _ _ s
 refine wpAny_bind (wpAny_listSubscript_int (fitsIndex_of h0 hf) ?_)
 clear hl hf;obtain ⟨k,rfl⟩:=Int.eq_ofNat_of_zero_le h0
 have hk:k<its.size:=by simp_all
 refine wpAny_bind (wpAny_bind (wpAny_seqItemAt g rfl (wpAny_pure ?_)))
 refine ((Array.getElem?_eq_getElem hk)).symm▸?_
 refine wpAny_bind (wpAny_setSeqItemAt g rfl ?_)
 first
  | exact wpAny_bind (wpAny_pure (wpAny_pure ⟨.none,rfl,wpAny_pure h⟩))
  | exact wpAny_pure ⟨.none,rfl,wpAny_pure h⟩
set_option tactic.hygienic true in
theorem Qix {o i v:V}{ov iv u:Value}(I:Inv B fr ι σ s.heap) (ho:Val B ι s.heap o ov) (hi:Val B ι s.heap i iv) (hv:Val B ι s.heap v u):
  T B fr A L X (setItem ov iv u) (Qe8 o i v) (λ _ _ _ _=>True) ι σ s:=by
 cases o<;>cases i<;>first | exact T.stuck | skip
 rename_i r k
 refine T.getL λ l el=>?_
 by_cases h:0<=k/\k<l.length/\k<2 ^ 62
 ·refine (if_pos h).substr ?_
  refine Qa3 I el ho ?_;rintro a its n rfl ea ga fa
  obtain ⟨t,rfl⟩:=hi
  have hl:=fa.len
  simp at hl
  have zq:=QdG (l':=l.set k.toNat v) (f:=(·.setIfInBounds k.toNat u)) I ea ga (by simpa using fa.set hv k.toNat)
  intro _
  refine QeQ ga h.1 (by simp_all) (by lia) ?_
  refine ⟨(),σ.set r (.list (l.set k.toNat v)),ι,?_,zq.1.wide (by simp),zq.2,trivial,⟨rfl,rfl,rfl⟩⟩
  exact if_pos ((List.getElem?_eq_some_iff.mp el).1)
 ·refine (if_neg h).substr ?_;exact T.stuck
end
section
open PySem PySem.Calls PyProof.Rows
variable {B:Bs}{fr:List PySem.Env}{A:Around}{L:Addr}{X:List Addr}{ι:List Addr}{σ:List O}{s:Shared}{env:PySem.Env}
theorem T.holdEv {vs:List Value}{D U n:Nat}{call:V->List V->M V}(H:Ev B fr D U call n) (fe:FnEnv B fr env) (am:Amb fr D U { A with units:=A.units+8 * n }) {e:Expr}{k:Nat}{ρ:Env}(F:FrameRel B ι s.heap env ρ) (I:Inv B fr ι σ s.heap)
  {β γ:Type}{t:Value->Sem β}{m:V->M γ}{rel:List Addr->Heap->γ->β->Prop}
  (h:∀ v u ι' σ' s',Go B (frs fr) [] ι s.heap ι' s'.heap->FrameRel B ι' s'.heap env ρ->Inv B fr ι' σ' s'.heap->Val B ι' s'.heap v u->T B fr A env.locals [env.locals] (t u) (m v) rel ι' σ' s'):
  T B fr A env.locals [env.locals] (holding vs (eval e env) >>= t) (M.bind (Mine.ev B.cx call n ρ (comp k true env.scope e)) m) rel ι σ s:=by
 refine T.pre (t:=eval e env >>= t) (λ Q E h=>?_) (T.evThen H fe am F I h)
 intro Γ p hΓ
 have:=h Γ p hΓ
 simp only [Sem.wp_bind',Sem.wp_holding] at this ⊢
 exact this
theorem QhW {K:W.Frag}{D U n d:Nat}{call:V->List V->M V}(C:ClsOk B K) (H:Ev B fr D U call n) (fe:FnEnv B fr env) (am:Amb fr D U { A with units:=A.units+8 * n }) {o:Expr}{nm:Str}{a k:Nat}{ρ:Env}{pos:Pos}{v:V}{u:Value}
  (hk:anames[a]?=some nm) (F:FrameRel B ι s.heap env ρ) (I:Inv B fr ι σ s.heap) (hv:Val B ι s.heap v u):
  T B fr A env.locals [env.locals] (PySem.assign (.Attribute o nm pos) env u) (Mine.assign B.cx call n (d+1) (.attr (comp k true env.scope o) a) v ρ) (λ ι h ρ' _=>FrameRel B ι h env ρ') ι σ s:=by
 refine T.holdEv H fe am F I λ w ov ι' σ' s' g F' I' r=>T.at ?_
 refine T.wide (X:=[]) (by simp) ?_
 refine T.bind (T.hold (Qem C hk I' r (hv.mono g I.tabs.nt))) λ _ _ ι₂ σ₂ s₂ q g₂ I₂ _ _=>?_
 exact T.leaf I₂ λ _=>⟨_,rfl,λ Q E k=>wpAny_release (k _ _ (F'.next g₂ I'.tabs.nt) rfl ⟨rfl,rfl,rfl⟩)⟩
theorem Qi9 {D U n d:Nat}{call:V->List V->M V}(H:Ev B fr D U call n) (fe:FnEnv B fr env) (am:Amb fr D U { A with units:=A.units+8 * n }) {o i:Expr}{k:Nat}{ρ:Env}{pos:Pos}{v:V}{u:Value}
  (F:FrameRel B ι s.heap env ρ) (I:Inv B fr ι σ s.heap) (hv:Val B ι s.heap v u):
  T B fr A env.locals [env.locals] (PySem.assign (.Subscript o i pos) env u) (Mine.assign B.cx call n (d+1) (.idx (comp k true env.scope o) (comp k true env.scope i)) v ρ) (λ ι h ρ' _=>FrameRel B ι h env ρ') ι σ s:=by
 refine T.holdEv H fe am F I λ w ov ι' σ' s' g F' I' r=>?_
 refine T.holdEv H fe am F' I' λ j iv ι₁ σ₁ s₁ g₁ F₁ I₁ r₁=>T.at ?_
 refine T.wide (X:=[]) (by simp) ?_
 refine T.bind (T.hold (Qix I₁ (r.mono g₁ I'.tabs.nt) r₁ ((hv.mono g I.tabs.nt).mono g₁ I'.tabs.nt))) λ _ _ ι₂ σ₂ s₂ q g₂ I₂ _ _=>?_
 exact T.leaf I₂ λ _=>⟨_,rfl,λ Q E k=>wpAny_release (k _ _ (F₁.next g₂ I₁.tabs.nt) rfl ⟨rfl,rfl,rfl⟩)⟩
end
section
open PySem PySem.Calls PyProof.Rows
variable {B:Bs}{fr:List PySem.Env}{A:Around}{L:Addr}{X:List Addr}{ι:List Addr}{σ:List O}{s:Shared}{env:PySem.Env}
theorem QkM {op:Operator}(h:op2 op=some .add):op=.Add:=by
 cases op<;>first | rfl | exact nos h | exact Op2.noConfusion (Option.some.inj h)
theorem QkL {op:Operator}(h:op2 op=some .sub):op=.Sub:=by
 cases op<;>first | rfl | exact nos h | exact Op2.noConfusion (Option.some.inj h)
theorem QjM {op:Operator}{op':Op2}(ho:op2 op=some op') {x y:V}{a b:Value}(I:Inv B fr ι σ s.heap) (hx:Val B ι s.heap x a) (hy:Val B ι s.heap y b):
  T B fr A L X (inplaceOp op a b) (aug2 op' x y) (VR B) ι σ s:=by
 cases op' with
 | add=>cases x with
  | int i=>cases y with
   | int j=>
    obtain ⟨t,rfl⟩:=hx;obtain ⟨u,rfl⟩:=hy
    obtain rfl:=QkM ho
    exact QbL I λ Q E k=>wpAny_iadd_int (k _ _)
   | _=>exact T.stuck
  | _=>exact T.stuck
 | sub=>cases x with
  | int i=>cases y with
   | int j=>
    obtain ⟨t,rfl⟩:=hx;obtain ⟨u,rfl⟩:=hy
    obtain rfl:=QkL ho
    exact QbL I λ Q E k=>isub_int (k _ _)
   | _=>exact T.stuck
  | _=>exact T.stuck
 | _=>exact T.stuck
end
section
open PySem PySem.Calls PyProof.Rows
variable {B:Bs}{fr:List PySem.Env}{A:Around}{L:Addr}{X:List Addr}{ι:List Addr}{σ:List O}{s:Shared}{env:PySem.Env}
theorem T.bind0 {α β γ δ:Type}{t:Sem β}{k:β->Sem γ}{m:M α}{f:α->M δ}{rel rel'}
  (ht:T B fr A L [] t m rel ι σ s)
  (hk:∀ a v ι' σ' s',m σ=.ok a σ'->Go B (frs fr) [] ι s.heap ι' s'.heap->Inv B fr ι' σ' s'.heap->rel ι' s'.heap a v->Same s s'->T B fr A L X (k v) (f a) rel' ι' σ' s'):
  T B fr A L X (t >>= k) (M.bind m f) rel' ι σ s:=by
 intro hb
 refine wpAny_bind (T.use ht (Qam hb) (λ v u ι' σ' s' q g I' r sm=>?_) λ v s' q=>?_)
 ·have:=hk v u ι' σ' s' q g I' r sm
  rw [Qan q] at hb ⊢
  exact wpAny_mono (this hb) (λ w s'' z=>TQ.up (g.wide (by simp)) sm rfl z) λ w s'' z=>TE.up (g.wide (by simp)) sm rfl z
 ·exact TE.bind (q.wide (by simp))
theorem QiP {sc:Scope}{x:Str}{i:Nat}(hd:(x==("__debug__" : Str)||x==("__classdict__" : Str))=false) (hi:Qaf sc x=some i) (hk:kindOf sc x=some .local):name? sc x=.loc i:=by
 unfold name?
 simp [hd,hi,hk]
theorem Qh0 {D U n:Nat}{call:V->List V->M V}(N:NamesOk B) (H:Ev B fr D U call (n+1)) (fe:FnEnv B fr env) (am:Amb fr D U { A with units:=A.units+8 * (n+1) }) {x:Str}{i:Nat}{op:Operator}{op':Op2}{e:Expr}{k:Nat}{ρ:Env}{pos npos:Pos}
  (hd:(x==("__debug__" : Str)||x==("__classdict__" : Str))=false) (hi:Qaf env.scope x=some i) (hk:kindOf env.scope x=some .local) (ho:op2 op=some op') (F:FrameRel B ι s.heap env ρ) (I:Inv B fr ι σ s.heap):
  T B fr A env.locals [env.locals] (exec (.AugAssign (.Name x npos) op e pos) env) (M.bind (Mine.ev B.cx call (n+1) ρ (.loc i)) λ old=>M.bind (Mine.ev B.cx call (n+1) ρ (comp k true env.scope e)) λ v=>M.bind (aug2 op' old v) λ new=>M.bind (Qaq i new ρ) λ ρ=>M.ret (.next,ρ)) (SR B env) ι σ s:=by
 have e0:exec (.AugAssign (.Name x npos) op e pos) env=(eval (.Name x npos) env >>= λ old=>holding [old] (eval e env) >>= λ v=>(do
   standAt pos
   let new <- operate [old,v] (inplaceOp op old v)
   PySem.assign (.Name x npos) env new
   pure Flow.next)):=by
  refine (eval_Name env x npos (by rw [Bool.or_eq_false_iff] at hd;exact hd.1)).substr ?_;rfl
 refine e0.substr ?_
 have hN:T B fr A env.locals [] (eval (.Name x npos) env) (Mine.ev B.cx call (n+1) ρ (.loc i)) (VR B) ι σ s:=by
  have:=QjN (A:=A) (L:=env.locals) (X:=[]) (pos:=npos) (n:=n) (k:=0) (call:=call) N (ScRel.refl env) F I (x:=x)
  rw [QiP hd hi hk] at this
  exact this
 intro hb
 refine wpAny_bind (T.use hN (Qam hb) (λ old o ι₁ σ₁ s₁ q g₁ I₁ r₁ sm₁=>?_) λ v s' z=>?_)
 ·skip
  rw [Qan q] at hb ⊢
  have t:=T.holdEv (vs:=[o]) (m:=λ v=>M.bind (aug2 op' old v) λ new=>M.bind (Qaq i new ρ) λ ρ=>M.ret (Fl.next,ρ)) (rel:=SR B env) H fe am (F.next g₁ I.tabs.nt) I₁ (t:=λ v=>(do
   standAt pos
   let new <- operate [o,v] (inplaceOp op o v)
   PySem.assign (.Name x npos) env new
   pure Flow.next)) (e:=e) (k:=k) λ v u ι₂ σ₂ s₂ g₂ F₂ I₂ r₂=>T.at (T.bind0 (T.operate (QjM ho I₂ (r₁.mono g₂ I₁.tabs.nt) r₂)) λ new nu ι₃ σ₃ s₃ _ g₃ I₃ r₃ _=>?_)
  ·exact wpAny_mono (t hb) (λ w s'' z=>TQ.up (g₁.wide (by simp)) sm₁ rfl z) λ w s'' z=>TE.up (g₁.wide (by simp)) sm₁ rfl z
  ·exact T.bind (Qb8 (.head _) hi hk (F₂.next g₃ I₂.tabs.nt) I₃ r₃) λ ρ' _ ι₄ σ₄ s₄ _ g₄ I₄ F₄ _=>T.ret rfl I₄ ⟨trivial,F₄⟩
 ·exact TE.bind (z.wide (by simp))
end
section
open PySem PySem.Calls PyProof.Rows
variable {B:Bs}{fr:List PySem.Env}{A:Around}{L:Addr}{X:List Addr}{ι:List Addr}{σ:List O}{s:Shared}{env:PySem.Env}
theorem Qh1 {K:W.Frag}{D U n:Nat}{call:V->List V->M V}(C:ClsOk B K) (H:Ev B fr D U call n) (fe:FnEnv B fr env) (am:Amb fr D U { A with units:=A.units+8 * n }) {o e:Expr}{nm:Str}{a:Nat}{op:Operator}{op':Op2}{k:Nat}{ρ:Env}{pos tpos:Pos}
  (hk:anames[a]?=some nm) (ho:op2 op=some op') (F:FrameRel B ι s.heap env ρ) (I:Inv B fr ι σ s.heap):
  T B fr A env.locals [env.locals] (exec (.AugAssign (.Attribute o nm tpos) op e pos) env) (M.bind (Mine.ev B.cx call n ρ (comp k true env.scope o)) λ w=>M.bind (getAttr w a) λ old=>M.bind (Mine.ev B.cx call n ρ (comp k true env.scope e)) λ v=>M.bind (aug2 op' old v) λ new=>
     M.bind (setAttr w a new) λ _=>M.ret (.next,ρ)) (SR B env) ι σ s:=by
 refine T.at (T.evThen H fe am F I λ w ov ι₁ σ₁ s₁ g₁ F₁ I₁ r₁=>?_)
 refine (show (M.bind (getAttr w a) λ old=>M.bind (Mine.ev B.cx call n ρ (comp k true env.scope e)) λ v=>M.bind (aug2 op' old v) λ new=>M.bind (setAttr w a new) λ _=>M.ret (Fl.next,ρ))=
  M.bind (M.bind (getAttr w a) λ old=>M.bind (Mine.ev B.cx call n ρ (comp k true env.scope e)) λ v=>aug2 op' old v) λ new=>M.bind (setAttr w a new) λ _=>M.ret (Fl.next,ρ) from by simp only [M.assoc]).substr ?_
 have inner:T B fr A env.locals [] (do
    standAt tpos.atName
    let old <- PySem.getAttr ov nm true
    let v <- holding [old] (eval e env)
    standAt pos
    operate [old,v] (inplaceOp op old v)) (M.bind (getAttr w a) λ old=>M.bind (Mine.ev B.cx call n ρ (comp k true env.scope e)) λ v=>aug2 op' old v) (VR B) ι₁ σ₁ s₁:=by
  refine T.at (T.bind (Qen C hk I₁ r₁) λ old ov' ι₂ σ₂ s₂ _ g₂ I₂ r₂ _=>?_)
  have F₂:=F₁.next g₂ I₁.tabs.nt
  refine T.bind (T.hold (H.ev A env.locals k true env.scope env e ρ ι₂ σ₂ s₂ trivial am (ScRel.refl env) (λ _=>fe.lam) F₂ I₂)) λ v u ι₃ σ₃ s₃ _ g₃ I₃ r₃ _=>?_
  exact T.at (T.operate (QjM ho I₃ (r₂.mono g₃ I₂.tabs.nt) r₃))
 refine T.bind0 (T.hold inner) λ new nu ι₂ σ₂ s₂ _ g₂ I₂ r₂ _=>T.at ?_
 refine T.bind0 (T.hold (Qem C hk I₂ (r₁.mono g₂ I₁.tabs.nt) r₂)) λ _ _ ι₃ σ₃ s₃ _ g₃ I₃ _ _=>?_
 exact T.leaf I₃ λ _=>⟨_,rfl,λ Q E k=>wpAny_bind (wpAny_release (wpAny_pure (k _ _ ⟨trivial,(F₁.next g₂ I₁.tabs.nt).next g₃ I₂.tabs.nt⟩ rfl ⟨rfl,rfl,rfl⟩)))⟩
end
section
open PySem PySem.Calls PyProof.Rows
variable {B:Bs}{fr:List PySem.Env}{A:Around}{L:Addr}{X:List Addr}{ι:List Addr}{σ:List O}{s:Shared}{env:PySem.Env}
theorem Qdo (hX:env.locals∈X):∀ {xs:List Str}{is:List Nat}{ρ:Env}{Vs:List V}{vs:List Value}{ι:List Addr}{σ:List O}{s:Shared},
  (∀ (j:Nat) x i,xs[j]?=some x->is[j]?=some i->Qaf env.scope x=some i/\kindOf env.scope x=some .local)->xs.length=is.length->FrameRel B ι s.heap env ρ->Inv B fr ι σ s.heap->Vals B ι s.heap Vs vs →
  T B fr A L X (assignInOrder (xs.map λ x=>bindName env x) vs) (setLocs is Vs ρ) (λ ι h ρ' _=>FrameRel B ι h env ρ') ι σ s
 | [],is,ρ,Vs,vs,ι,σ,s,_,hl,F,I,hv=>by
  cases is with
  | cons=>cases hl
  | nil=>
   cases Vs with
   | nil=>exact T.ret rfl I F
   | cons=>exact T.stuck
 | x::xs,is,ρ,Vs,vs,ι,σ,s,h,hl,F,I,hv=>by
  cases is with
  | nil=>cases hl
  | cons i is=>
   cases Vs with
   | nil=>exact T.stuck
   | cons V0 Vs=>
    obtain ⟨v,r,rfl,h1,h2⟩:=hv
    obtain ⟨p1,p2⟩:=h 0 x i rfl rfl
    show T B fr A L X (do holding r (bindName env x v);assignInOrder (xs.map λ x=>bindName env x) r) (M.bind (Qaq i V0 ρ) λ ρ=>setLocs is Vs ρ) _ ι σ s
    refine T.bind (T.hold (Qeo hX p1 p2 F I h1)) λ ρ' _ ι₁ σ₁ s₁ _ g₁ I₁ r₁ _=>?_
    exact Qdo hX (λ j y k hy hk=>h (j+1) y k hy hk) (by simpa using hl) r₁ I₁ (h2.mono g₁ I.tabs.nt)
theorem Qf4 {ts vs:List Expr}{k k':Nat}{p p':Pos}(hk:env.blockKind=.function) (hq:Qdf env.scope ts vs=some true):
  swappedStores [.Tuple ts k p] (.Tuple vs k' p') env=pure (some (Qbd env.scope ts))/\(Qbd env.scope ts).length=ts.length:=by
 unfold Qdf at hq
 split at hq
 ·cases hq
 split at hq
 ·cases hq
 split at hq
 ·cases hq
 split at hq
 ·cases hq
 split at hq
 ·cases hq
 rename_i h1 h2 h3 h4 h5
 have h3':=h3
 simp only [Bool.or_eq_true,not_or,bne_iff_ne,ne_eq,Decidable.not_not] at h3'
 refine ⟨?_,h3'.1⟩
 unfold swappedStores
 rw [hk]
 have e1:¬ ((!(ts.length==2||ts.length==3)||vs.length != ts.length||(ScopeKind.function:ScopeKind) != .function)=true):=by simpa using h1
 refine (if_neg e1).trans ((if_neg h2).trans ?_)
 exact (if_neg h3).trans ((if_neg h4).trans (if_neg h5))
theorem Qf3 {ts vs:List Expr}{k k':Nat}{p p':Pos}(hk:env.blockKind=.function) (hq:Qdf env.scope ts vs=some false):
  swappedStores [.Tuple ts k p] (.Tuple vs k' p') env=pure none:=by
 unfold swappedStores
 rw [hk]
 unfold Qdf at hq
 split at hq
 ·rename_i h1
  exact if_pos (by simpa using h1)
 rename_i h1
 refine (if_neg (by simpa using h1)).trans ?_
 split at hq
 ·rename_i h;exact if_pos h
 rename_i h;refine (if_neg h).trans ?_
 split at hq
 ·rename_i h;exact if_pos h
 rename_i h;refine (if_neg h).trans ?_
 split at hq
 ·rename_i h;exact if_pos h
 rename_i h;refine (if_neg h).trans ?_
 split at hq<;>cases hq
theorem Qjy {c:Str×Pos->Bool}:∀ {xs:List (Str×Pos)},(xs.filterMap λ x=>if c x=true then some x.1 else none).length=xs.length->(xs.filterMap λ x=>if c x=true then some x.1 else none)=xs.map (·.1)
 | [],_=>rfl
 | x::r,h=>by
  rw [List.filterMap_cons] at h ⊢
  cases hc:c x
  ·rw [hc] at h
   have:=List.length_filterMap_le (λ x=>if c x=true then some x.1 else none) r
   simp only [Bool.false_eq_true,if_false,List.length_cons] at h
   lia
  ·rw [hc] at h
   simp only [if_true,List.length_cons,Nat.add_right_cancel_iff] at h ⊢
   rw [Qjy h,List.map_cons]
theorem QeW {sc:Scope}{xs:List (Str×Pos)}(h:(Qbd sc (xs.map (λ x=>.Name x.1 x.2))).length=(xs.map (λ x=>(Expr.Name x.1 x.2))).length):Qbd sc (xs.map (λ x=>.Name x.1 x.2))=xs.map (·.1):=by
 unfold Qbd at h ⊢
 rw [List.filterMap_map] at h ⊢
 rw [List.length_map] at h
 exact Qjy (c:=λ x=>kindOf sc x.1==some .local&&x.2.line==(((xs.map (λ x=>(Expr.Name x.1 x.2))).head?.map (·.pos.line)).getD 0)) h
set_option tactic.hygienic true in
theorem Qno {D U n:Nat}{call:V->List V->M V}(H:Ev B fr D U call n) (fe:FnEnv B fr env) (am:Amb fr D U { A with units:=A.units+8 * n }) {ts vs:List Expr}{is:List Nat}{kk k k':Nat}{p p' pos:Pos}{ρ:Env}
  (F:FrameRel B ι s.heap env ρ) (I:Inv B fr ι σ s.heap) (hq:Qdf env.scope ts vs=some true) (hi:Qbu env.scope ts=some is):
  T B fr A env.locals [env.locals] (exec (.Assign [.Tuple ts k p] (.Tuple vs k' p') pos) env)
   (M.bind (Mine.ev B.cx call n ρ (comp kk true env.scope (.Tuple vs k' p'))) λ v=>(match v with
   | .tup l=>if l.length=is.length then M.bind (setLocs is.reverse l.reverse ρ) λ ρ=>M.ret (.next,ρ) else M.stuck
   | _=>M.stuck)) (SR B env) ι σ s:=by
 have R:Room A:=am.of.room H.hU
 have hkf:env.blockKind=.function:=by unfold Env.blockKind;rw [F.kind];rfl
 obtain ⟨hw,hlen⟩:=Qf4 (k:=k) (k':=k') (p:=p) (p':=p') hkf hq
 refine QbD hi ?_;rintro xs rfl e2 e3
 rw [QeW hlen] at hw
 rw [PyProof.Rows.exec_Assign]
 refine T.at ?_
 have hs:swapsWithSole [.Tuple (xs.map λ x=>.Name x.1 x.2) k p] (.Tuple vs k' p') pos.line env=pure false:=rfl
 rw [hs]
 show T B fr A env.locals [env.locals] (eval (.Tuple vs k' p') env >>= λ v=>do assignStores env v (<- swappedStores [.Tuple (xs.map λ x=>.Name x.1 x.2) k p] (.Tuple vs k' p') env) ((assignEach [.Tuple (xs.map λ x=>.Name x.1 x.2) k p] env).map (·.2))) _ _ _ _ _
 rw [hw]
 refine T.evThen H fe am F I λ v u ι' σ' s' g F' I' r=>?_
 simp only [pure_bind]
 unfold assignStores
 refine T.pre (λ _ _ h=>wpAny_bind (wpAny_rule h)) ?_
 split
 ·rename_i l
  by_cases hll:l.length=is.length
  ·rw [if_pos hll]
   obtain ⟨a,its,rfl,hni,⟨nn,ga⟩,f⟩:=r
   intro hb
   have hsz:(xs.map (·.1)).length=its.toArray.size:=by simp [f.len,e2,hll]
   rw [hsz]
   refine wpAny_bind (unpackItems_tuple (items:=its.toArray) R.hand ⟨_,ga,rfl,nn,rfl⟩ λ h' hx=>?_)
   have kp:∀ b o,s'.heap.get? b=some o->h'.get? b=some o:=λ b o e=>hx b o (Nat.ne_of_lt (Heap.lt_size e)) e
   have I₂:=I'.ext kp
   have go:Go B (frs fr) [env.locals] ι' s'.heap ι' h':=Go.ext kp
   have F₂:FrameRel B ι' h' env ρ:=F'.mono (F:=frs fr) (X:=[]) (Go.ext kp) I'.tabs.nt (by simp)
   have t:=Qdo (A:=A) (L:=env.locals) (X:=[env.locals]) (xs:=(xs.map (·.1)).reverse) (is:=is.reverse) (.head _) (λ j x i hx hi=>by
    have j1:j<xs.length:=by have:=(List.getElem?_eq_some_iff.mp hx).1;simpa using this
    rw [List.getElem?_reverse (by simpa using j1)] at hx
    rw [List.getElem?_reverse (by lia)] at hi
    simp only [List.length_map,List.getElem?_map] at hx
    rw [<- e2] at hi
    obtain ⟨y,hy,rfl⟩:=Option.map_eq_some_iff.mp hx
    exact e3 _ _ _ hy hi) (by simp [e2]) F₂ (s:={ s' with heap:=h' }) I₂ ((f.mono go I'.tabs.nt).rev)
   have t2:T B fr A env.locals [env.locals] (assignInOrder (((xs.map (·.1)).reverse).map λ n=>bindName env n) its.reverse >>= λ _=>pure Flow.next) (M.bind (setLocs is.reverse l.reverse ρ) λ ρ=>M.ret (.next,ρ)) (SR B env) ι' σ' { s' with heap:=h' }:=
    T.bind t λ ρ' _ ι₃ σ₃ s₃ _ g₃ I₃ F₃ _=>T.ret rfl I₃ ⟨trivial,F₃⟩
   rw [List.toList_toArray]
   exact wpAny_mono (t2 hb) (λ v s'' hq=>TQ.up (s':={ s' with heap:=h' }) go ⟨rfl,rfl,rfl⟩ rfl hq) λ e s'' he=>TE.up (s':={ s' with heap:=h' }) go ⟨rfl,rfl,rfl⟩ rfl he
  ·rw [if_neg hll];exact T.stuck
 ·exact T.stuck
end
section
open PySem PySem.Calls PyProof.Rows
variable {B:Bs}{fr:List PySem.Env}{A:Around}{L:Addr}{X:List Addr}{ι:List Addr}{σ:List O}{s:Shared}{env:PySem.Env}
noncomputable def Qo8 (f:CE->M V) (c:CE):M Int:=M.bind (Qcr f [c]) λ vs=>match vs with
 | [v]=>M.bind (asI v) λ i=>if 0<=i/\i<=1000 then M.ret i else M.stuck
 | _=>M.stuck
theorem QkX {α:Type}(f:CE->M V) (c:CE) (K:Int->M α):(M.bind (f c) λ v=>M.bind (asI v) λ i=>if 0<=i/\i<=1000 then K i else M.stuck)=M.bind (Qo8 f c) K:=by
 funext σ
 show M.bind (f c) _ σ=(M.bind (M.bind (M.bind (f c) λ v=>M.ret [v]) _) _) σ
 unfold M.bind
 cases f c σ with
 | ok v σ1=>
  cases v with
  | int i=>by_cases h:0<=i/\i<=1000<;>simp [M.ret,asI,h,M.stuck]
  | _=>rfl
 | _=>rfl
noncomputable def QpX (h:Heap) (i:Int) (v:Value):Prop:=0<=i/\i<=1000/\Ex4 λ r t u w=>v=.ref r/\IsRange h r 0 i 1 t u w
theorem Qda {prog:Program}{w:World}{E:Value->Shared->Prop}{target:Expr}{I:Addr}{x l st:Int}{v:Value}{Q':Unit->Shared->Prop}{s':Shared}(hit:IsRangeIter s'.heap I x l st) (h:Q' () s'):
  wpAny (model prog w) A (letOwnedTupleGo target (.ref I) v) Q' E s':=by
 cases target<;>first
  | exact wpAny_pure h
  | (cases v<;>first
    | exact wpAny_pure h
    | (refine wpAny_bind (wpAny_load hit ?_);exact wpAny_pure h))
theorem Qld {D U n:Nat}{call:V->List V->M V}(N:NamesOk B) (H:Ev B fr D U call n) (fe:FnEnv B fr env) (am:Amb fr D U { A with units:=A.units+8 * n }) {e:Expr}{k:Nat}{ρ:Env}{p cp:Pos}
  (hk:kindOf env.scope "range" = some .globalImplicit) (hns:QbW e=true) (F:FrameRel B ι s.heap env ρ) (I:Inv B fr ι σ s.heap):
  T B fr A L [] (eval (.Call (.Name "range" p) [e] [] cp) env) (Qo8 (Mine.ev B.cx call n ρ) (comp k true env.scope e)) (λ _ h i v=>QpX h i v) ι σ s:=by
 have hall:[e].all QbW=true:=by
  simp only [List.all_cons,List.all_nil,Bool.and_true];exact hns
 simp only [arm_eval_Call_Name',Qas hall]
 show T B fr A L [] (eval (.Name "range" p) env >>= λ v=>callWith cp v [] _ []) _ _ ι σ s
 refine T.pre (t:=callWith cp (bval .range) [] (([e].map λ e=>eval e env).map λ t=>(false,t)) []) (λ Q E h=>wpAny_bind (Qhf N (ScRel.refl env) F I hk (b:=.range) (by decide +kernel) (by decide +kernel) _ _ h)) ?_
 refine QaI (λ _=>True) Qd7 (QbM n H.ev (l:=[e]) am (ScRel.refl env) (λ _=>fe.lam) F I) λ vs us ι₁ σ₁ s₁ g₁ I₁ r₁ hb₁=>⟨trivial,?_⟩
 match vs,r₁ with
 | [],_=>exact T.stuck
 | [y],r₁=>
  refine Qf0 r₁ ?_;rintro u rfl hx
  cases y<;>first | exact T.stuck | skip
  rename_i i
  simp only [asI,M.ret_bind]
  by_cases hi:0<=i/\i<=1000
  ·refine (if_pos hi).substr ?_
   clear hb₁ r₁ g₁ hall I F hns hk am fe H N;obtain ⟨t,rfl⟩:=hx
   exact T.leafX I₁ λ _=>⟨_,rfl,λ Q E kk=>call_range_1 (kk _ _ (λ b o e=>Heap.get?_push_of_some _ e) ⟨hi.1,hi.2,_,_,_,_,rfl,Heap.get?_push_size _ rfl⟩ ⟨rfl,rfl,rfl⟩)⟩
  ·refine (if_neg hi).substr ?_;exact T.stuck
 | _::_::_,_=>exact T.stuck
theorem Qga {i:Int}{It:Addr}{as:V->Env->M Env}{xb:Mine.X}{m j:Nat}{ρ:Env}(R:Room A)
  (hi:Qh8 (λ j o=>o={ cls:=.type "range_iterator", data:=.fields #[rawInt j,rawInt (i - j),rawInt 1] }) It j s.heap) (hb:(if m+j=i.toNat then Qb1 as xb ((QaA i.toNat).drop j) ρ else M.stuck) σ≠.bad):
  QlB B A It (λ j o=>o={ cls:=.type "range_iterator", data:=.fields #[rawInt j,rawInt (i - j),rawInt 1] }) as xb (λ m j ρ=>if m+j=i.toNat then Qb1 as xb ((QaA i.toNat).drop j) ρ else M.stuck) m j ρ ι σ s:=by
 have hll:(QaA i.toNat).length=i.toNat:=by simp [QaA]
 by_cases hmj:m+j=i.toNat
 ·have e0:(if m+j=i.toNat then Qb1 as xb ((QaA i.toNat).drop j) ρ else M.stuck) σ=Qb1 as xb ((QaA i.toNat).drop j) ρ σ:=by refine (if_pos hmj).substr ?_;rfl
  obtain ⟨o,e1,rfl⟩:=hi
  by_cases hj:j<i.toNat
  ·have hd:(QaA i.toNat).drop j=V.int j::(QaA i.toNat).drop (j+1):=(List.drop_eq_getElem_cons (by lia)).trans (congrArg (·::_) (by simp [QaA]))
   refine .inr ⟨m - 1,V.int j,.int j s.toks,by lia,e0.trans ?_,Qe6,λ Q E k=>wpAny_pyNext_range_item (x:=(j:Int)) (left:=i - j) (step:=1) e1 (by lia) λ h' hi' sb=>?_⟩
   ·have e1:(λ ρ=>if m - 1+(j+1)=i.toNat then Qb1 as xb ((QaA i.toNat).drop (j+1)) ρ else M.stuck)=Qb1 as xb ((QaA i.toNat).drop (j+1)):=funext λ _=>if_pos (by lia)
    refine hd.substr ?_
    exact congrArg (λ z=>QfU as xb z (.int j) ρ σ) e1.symm
   ·refine k _ ⟨_,hi',?_⟩ sb ⟨rfl,rfl,rfl⟩
    refine (show i - (j:Int) - 1=i - ((j+1:Nat):Int) by lia).substr ?_
    rfl
  ·exact .inl ⟨e0.trans (by refine (List.drop_eq_nil_of_le (by lia)).substr ?_;rfl),λ Q E k=>wpAny_pyNext_range_end R.hand e1 (by lia) k⟩
 ·rw [if_neg hmj] at hb;exact absurd rfl hb
theorem Qnp {D U n:Nat}{call:V->List V->M V}(N:NamesOk B) (H:Ev B fr D U call n) (fe:FnEnv B fr env) (am:Amb fr D U { A with units:=A.units+8 * n }) {target e:Expr}{body:List Stmt}{k:Nat}{ρ:Env}{pos p cp:Pos}{as:V->Env->M Env}{xb:Mine.X}
  (hk:kindOf env.scope "range" = some .globalImplicit) (hns:QbW e=true) (F:FrameRel B ι s.heap env ρ) (I:Inv B fr ι σ s.heap)
  (has:∀ v u ρ ι σ s,FrameRel B ι s.heap env ρ->Inv B fr ι σ s.heap->Val B ι s.heap v u->T B fr A env.locals [env.locals] (PySem.assign target env u) (as v ρ) (λ ι h ρ' _=>FrameRel B ι h env ρ') ι σ s)
  (hxb:∀ ρ ι σ s,FrameRel B ι s.heap env ρ->Inv B fr ι σ s.heap->T B fr A env.locals [env.locals] (execs body env) (xb ρ) (SR B env) ι σ s):
  T B fr A env.locals [env.locals] (exec (.For target (.Call (.Name "range" p) [e] [] cp) body [] pos) env) (M.bind (Mine.ev B.cx call n ρ (comp k true env.scope e)) λ v=>M.bind (asI v) λ i=>if 0<=i/\i<=1000 then Qb1 as xb (QaA i.toNat) ρ else M.stuck) (SR B env) ι σ s:=by
 rw [QkX (Mine.ev B.cx call n ρ)]
 intro hbad
 have R:Room A:=am.of.room H.hU
 refine wpAny_For (T.use (Qld (L:=env.locals) N H fe am hk hns F I) (Qam hbad) (λ i v ι₁ σ₁ s₁ q g I₁ r sm=>?_) λ v s' z=>?_) (λ x=>rfl)
 ·have e0:=Qan (f:=λ i=>Qb1 as xb (QaA i.toNat) ρ) q
  rw [e0] at hbad
  have g1:Go B (frs fr) [env.locals] ι s.heap ι₁ s₁.heap:=g.wide (by simp)
  have F₁:=F.next g I.tabs.nt
  have hA:=Qej I₁
  have hLn:env.locals≠s₁.heap.objs.size:=λ z=>by
   obtain ⟨m,⟨o,es,ep,e',_⟩,_⟩:=F₁.ns
   simp only [z,Qao s₁.heap] at e';contradiction
  refine byK λ Pz kz=>?_;obtain ⟨hi0,hi1,r,t,u,w,rfl,hr⟩:=r
  refine kz ?_;refine wpAny_pyIter_range hr (small_one (by simp_all) (by simp_all) (by lia) (by lia)) ?_
  refine QeI (α:=Unit) g1 sm e0 ?_
  have hsz:Builtin.Range.rangeSize 0 i 1=i:=by rw [rangeSize_one];split<;>lia
  refine hsz.substr ?_
  generalize hob:({ cls:=.type "range_iterator", data:=.fields #[rawInt 0,rawInt i,rawInt 1] }:Obj)=ob
  have kp:∀ b o,s₁.heap.get? b=some o->(s₁.heap.push ob).get? b=some o:=λ b o e=>Heap.get?_push_of_some _ e
  have gI:(s₁.heap.push ob).get? s₁.heap.objs.size=some ob:=Heap.get?_push_size _ (by refine hob.symm.substr ?_;rfl)
  have hll:(QaA i.toNat).length=i.toNat:=by simp [QaA]
  refine QcW (G:=λ m j ρ=>if m+j=i.toNat then Qb1 as xb ((QaA i.toNat).drop j) ρ else M.stuck) (Sh:=λ j o=>o={ cls:=.type "range_iterator", data:=.fields #[rawInt j,rawInt (i - j),rawInt 1] }) (w:=i.toNat) (as:=as) (xb:=xb) fe am.frames I₁ hA hLn
   (λ j o h=>⟨#[rawInt j,rawInt (i - j),rawInt 1],by exact congrArg _ h,λ q t z=>by simp [rawInt] at z⟩) (λ j s' v Q E ⟨o,e1,e2⟩ hQ=>Qda (e2▸e1) hQ) (λ m j ρ' ι' σ' s' g' I' hi hb=>?_) has hxb (Go.ext kp) (I₁.ext kp) (F₁.next (f:=frs fr) (Go.ext kp) I₁.tabs.nt) ⟨rfl,rfl,rfl⟩ ⟨ob,gI,by refine hob.symm.substr ?_;simp⟩ (I₁.new_nin hA.new) (by simp) hbad
  exact Qga R hi hb
 ·exact TE.bind (z.wide (by simp))
end
section
open PySem PySem.Calls PyProof.Rows
structure ExcOk (B:Bs) (K:W.Frag):Prop where
 X:K.In B.g
 cls:Ex2 λ LE cd=>And3 (W.clsIn K B.KE=some cd) (cd.mro=[.ref B.KE,.ref LE,.type "Exception", .type "BaseException", .type "object"]) (cd.hasDict=true)
 ga:W.findIn K (.ref B.KE) "__getattribute__" = some (some (.builtin "BaseException.__getattribute__"))
 gk:W.findIn K (.ref B.KE) "__getattr__" = some none
 sa:W.findIn K (.ref B.KE) "__setattr__" = some (some (.builtin "object.__setattr__"))
 ms:W.findIn K (.ref B.KE) "message" = some none
 ss:W.findIn K (.ref B.KE) "spot" = some none
section
variable {prog:Program}{w:World}{A:Around}{E:Value->Shared->Prop}{s:Shared}{K:W.Frag}{x C:Addr}{ox:Obj}{od:Option Obj}{name:Str}{expr:Bool}{Q:Value->Shared->Prop}
theorem QdO {v:Value}{cd:ClassData}(X:K.In s.heap) (I:W.InstAt s.heap x ox C od) (hga:W.findIn K (.ref C) "__getattribute__" = some (some (.builtin "BaseException.__getattribute__")))
  (hgk:W.findIn K (.ref C) "__getattr__" = some none) (hc:W.clsIn K C=some cd) (hne:cd.mro.isEmpty=false) (hb:cd.mro.contains (.type "BaseException")=true)
  (hf:W.findObj K C od name=some (.value v)) (hh:W.handedIn v=true) (h:Q v { s with toks:=s.toks+1 }):wpAny (model prog w) A (PySem.getAttr (.ref x) name expr) Q E s:=by
 obtain ⟨hp,g,d,t,os⟩:=s
 have L0:=I.type (M:=model prog w)
 refine wpAny_bind (wpAny_mkText (wpAny_holding (wpAny_bind (L0.at (wpAny_bind ((W.looks_findIn (M:=model prog w) X hga).at ?_))))))
 refine wpAny_bind ((W.looks_findIn (M:=model prog w) X hgk).at (wpAny_bind (wpAny_attempt (wpAny_holding ?_))))
 unfold callGetattribute
 refine (show (expr&&onTheHeap (.builtin "BaseException.__getattribute__"))=false from by cases expr<;>rfl).substr ?_;refine (if_neg (by decide)).substr ?_
 refine wpAny_bind (wpAny_pure ?_)
 refine wpAny_call (codeAny_call_builtin PySem.F.attr_Exception.ga.plain PySem.F.entry_bexc_ga (@W.check_slot (model prog w) _ _ _ "BaseException.__getattribute__" "BaseException" "__getattribute__" (.ref x) [.str name t] [] _ (by decide +kernel) (by decide +kernel) (L0.andThen (W.looks_mroIn X (by unfold W.mroIn;refine hc.substr ?_;rw [Option.bind_some,if_neg (by refine hne.substr ?_;decide),hb]))) (PySem.F.args_bexc_ga _ _) ?_))
 refine wpAny_bind (wpAny_pure (wpAny_bind (wpAny_pure (wpAny_bind (L0.at (wpAny_bind ((W.looks_find (M:=model prog w) X I hf).at ?_)))))))
 refine wpAny_pure ?_
 show wpAny _ _ (handedOut v) _ _ _
 refine (W.handedOut_of hh).substr ?_;exact wpAny_pure h
theorem Qcv {v:Value}{cd:ClassData}{c₁ c₂:Addr}{QU:Unit->Shared->Prop}(X:K.In s.heap) (I:W.InstAt s.heap x ox C od) (hsa:W.findIn K (.ref C) "__setattr__" = some (some (.builtin "object.__setattr__")))
  (hc:W.clsIn K C=some cd) (hm:cd.mro=[.ref c₁,.ref c₂,.type "Exception", .type "BaseException", .type "object"]) (hn:W.findIn K (.ref C) name=some none)
  (h:∀ b A',wpAny (model prog w) A' (Builtin.ObjectAttr.storeInOwnDict (.ref x) (.ref C) (.str name s.toks) name v b) (λ fin s'=>fin=.done (.ret .none)/\QU () s') E { s with toks:=s.toks+1 }):
  wpAny (model prog w) A (PySem.setAttr (.ref x) name v) QU E s:=by
 refine W.set_plain X I hsa ?_
 have SF:=PySem.F.store_object
 refine codeAny_call_builtin SF.slot.plain SF.entry (@W.check_slot (model prog w) _ _ { s with toks:=s.toks+1 } "object.__setattr__" "object" "__setattr__" (.ref x) [.str name s.toks,v] [] _ SF.kind SF.split (I.type.andThen (W.looks_mroIn X (by unfold W.mroIn;refine hc.substr ?_;rw [Option.bind_some,if_neg (by refine ((show cd.mro.isEmpty=false from by refine hm.substr ?_;rfl)).substr ?_;decide),hm];rfl))) (SF.args (.ref x) (.str name s.toks) v) ?_)
 rw [W.osa_eq,refuse_eq]
 refine wpAny_bind (wpAny_bind (I.type.here (s:={ s with toks:=s.toks+1 }) (wpAny_bind (((W.looks_clsIn X hc).andThen .now:W.Looks (model prog w) s.heap (mroOf (.ref C)) cd.mro).here (s:={ s with toks:=s.toks+1 }) ?_))))
 refine hm.substr ?_;rw [refuseLoop_ref,refuseLoop_ref,PySem.F.store_Exception.passes]
 refine wpAny_pure (wpAny_bind (I.type.here (s:={ s with toks:=s.toks+1 }) (wpAny_bind ((W.looks_findIn X hn).here (s:={ s with toks:=s.toks+1 }) (wpAny_bind (wpAny_pure ?_))))))
 refine wpAny_mono (h _ _) (λ fin s' z=>?_) λ _ _ z=>z
 obtain ⟨rfl,z⟩:=z
 exact z
theorem Qc4 {o:Obj}{nm:Str}{hs:Int}{k v:Value}{es es':Array DictEntry}{ep n':Nat}(hd:o.data=.dict es ep) (p:(Obj.putName nm hs k v o).data=.dict es' n'):Obj.putName nm hs k v o={ o with data:=.dict es' n' }:=by
 obtain ⟨c,d,dt,sl⟩:=o
 subst hd
 unfold Obj.putName at p ⊢
 dsimp only at p ⊢
 revert p
 split
 ·intro p;dsimp only at p ⊢;refine p.substr ?_;rfl
 ·intro p;dsimp only at p ⊢;refine p.substr ?_;rfl
theorem QiX {v:Value}{cd:ClassData}{c₁ c₂:Addr}{vs:Array Value}{QU:Unit->Shared->Prop}(X:K.In s.heap) (hx:s.heap.get? x=some ox) (hcls:ox.cls=.ref C) (hd:ox.dict=none) (hdat:ox.data=.fields vs)
  (hsa:W.findIn K (.ref C) "__setattr__" = some (some (.builtin "object.__setattr__")))
  (hc:W.clsIn K C=some cd) (hm:cd.mro=[.ref c₁,.ref c₂,.type "Exception", .type "BaseException", .type "object"]) (hh:cd.hasDict=true) (hn:W.findIn K (.ref C) name=some none)
  (h:∀ h' dx es ep tk,h'.get? x=some { ox with dict:=some dx }->h'.get? dx=some { cls:=.type "dict", data:=.dict es ep }->s.heap.get? dx=none->StrKeys es->es.size=1->(∀ y,nsFind es y=if y=name then some v else none) →
   (∀ b o,b≠x->s.heap.get? b=some o->h'.get? b=some o)->QU () { s with heap:=h',toks:=tk }):
  wpAny (model prog w) A (PySem.setAttr (.ref x) name v) QU E s:=by
 have I:W.InstAt s.heap x ox C none:=⟨hx,hcls,by unfold W.notCls;refine hdat.substr ?_;rfl,by refine hd.substr ?_;trivial⟩
 refine Qcv X I hsa hc hm hn λ b A'=>?_
 refine wpAny_bind (wpAny_pure (wpAny_bind (wpAny_bind (wpAny_loadPart hx ?_))))
 refine hcls.substr ?_
 refine wpAny_bind (W.Looks.here (s:={ s with toks:=s.toks+1 }) (W.looks_clsIn X hc) ?_)
 refine hh.substr ?_;refine hd.substr ?_;refine (if_neg (by decide)).substr ?_
 refine (if_neg (by simp [typeHasDict])).substr ?_;refine hdat.substr ?_
 generalize hob:({ cls:=.type "dict", data:=.dict #[] }:Obj)=ob
 have hobd:ob.data=.dict #[] 0:=by exact congrArg _ (hob).symm
 have hobf:ob.isFreed=false:=by refine hob.symm.substr ?_;rfl
 have hx₁:(s.heap.push ob).get? x=some ox:=Heap.get?_push_of_some _ hx
 refine wpAny_bind (wpAny_alloc (wpAny_bind (wpAny_update hx₁ ?_)))
 refine wpAny_pure ?_
 generalize hh₂:((s.heap.push ob).update x λ o=>{ cls:=o.cls,dict:=some s.heap.objs.size,data:=o.data,slots:=o.slots })=h₂
 have hx₂:h₂.get? x=some { ox with dict:=some s.heap.objs.size }:=by
  refine hh₂▸?_;exact Heap.get?_update_self _ hx₁ (Obj.isFreed_of_fields hdat)
 have hd₂:h₂.get? s.heap.objs.size=some ob:=by
  refine hh₂▸?_;exact (Heap.get?_update_other _ _ (Nat.ne_of_lt (Heap.lt_size hx))).trans (Heap.get?_push_size _ hobf)
 show wpAny _ _ (Builtin.ObjectAttr.storeInDict s.heap.objs.size (.str name s.toks) name v) _ _ _
 refine wpAny_bind (wpAny_pure (wpAny_bind ?_))
 have hk0:StrKeys #[]:=λ e he=>absurd he (by simp)
 refine QcT (s:={ s with heap:=h₂,toks:=s.toks+1 }) hd₂ hobd hk0 λ hs=>?_
 refine byK λ Pz kz=>?_;refine Qbs (nm:=name) (hs:=hs) (t:=s.toks+1) (v:=v) hobd hk0 λ es' n' p1 p2 p3 p4=>?_
 have hsz:es'.size=1:=by refine p4.substr ?_;rfl
 refine kz ?_;refine wpAny_bind (wpAny_lookBehind (Heap.get?_update_self _ hd₂ (QaO p1):(h₂.update s.heap.objs.size (Obj.putName name hs (.str name (s.toks+1)) v)).get? s.heap.objs.size=some (Obj.putName name hs (.str name (s.toks+1)) v ob)) (by exact Eq.trans (congrArg _ p1) (pastItsLine_dict (by clear p4 hk0 hd₂ hx₁ hobf I hn hh hm hc hsa hdat hd hcls hx X;refine hsz.substr ?_;refine sizeLine_eq.substr ?_;lia))) ?_)
 refine wpAny_pure ⟨rfl,?_⟩
 have hob2:Obj.putName name hs (.str name (s.toks+1)) v ob={ cls:=.type "dict", data:=.dict es' n' }:=by
  refine (Qc4 hobd p1).substr ?_;refine hob.symm.substr ?_;rfl
 refine h _ s.heap.objs.size es' n' _ ((Heap.get?_update_other _ _ (Nat.ne_of_lt (Heap.lt_size hx)).symm).trans hx₂) ((Heap.get?_update_self _ hd₂ (QaO p1):(h₂.update s.heap.objs.size (Obj.putName name hs (.str name (s.toks+1)) v)).get? s.heap.objs.size=some (Obj.putName name hs (.str name (s.toks+1)) v ob)).trans (by exact congrArg _ hob2)) (Qao s.heap) p2 hsz (λ y=>p3 y) λ b o hb e=>?_
 refine (Heap.get?_update_other _ _ (Nat.ne_of_lt (Heap.lt_size e)).symm).substr ?_;refine hh₂.symm.substr ?_;refine (Heap.get?_update_other _ _ (Ne.symm hb)).substr ?_
 exact Heap.get?_push_of_some _ e
theorem QiW {v:Value}{cd:ClassData}{c₁ c₂ dx:Addr}{vs:Array Value}{es:Array DictEntry}{ep:Nat}{QU:Unit->Shared->Prop}(X:K.In s.heap) (hx:s.heap.get? x=some ox) (hcls:ox.cls=.ref C) (hd:ox.dict=some dx) (hdat:ox.data=.fields vs)
  (gd:s.heap.get? dx=some { cls:=.type "dict", data:=.dict es ep }) (hk:StrKeys es) (hsz0:es.size<=100)
  (hsa:W.findIn K (.ref C) "__setattr__" = some (some (.builtin "object.__setattr__")))
  (hc:W.clsIn K C=some cd) (hm:cd.mro=[.ref c₁,.ref c₂,.type "Exception", .type "BaseException", .type "object"]) (hh:cd.hasDict=true) (hn:W.findIn K (.ref C) name=some none)
  (h:∀ h' es' ep' tk,h'.get? x=some ox->h'.get? dx=some { cls:=.type "dict", data:=.dict es' ep' }->StrKeys es'->(∀ y,nsFind es' y=if y=name then some v else nsFind es y) →
   (∀ b o,b≠dx->s.heap.get? b=some o->h'.get? b=some o)->QU () { s with heap:=h',toks:=tk }):
  wpAny (model prog w) A (PySem.setAttr (.ref x) name v) QU E s:=by
 have I:W.InstAt s.heap x ox C (some { cls:=.type "dict", data:=.dict es ep }):=⟨hx,hcls,by unfold W.notCls;refine hdat.substr ?_;rfl,by refine hd.substr ?_;exact gd⟩
 refine Qcv X I hsa hc hm hn λ b A'=>?_
 have hxd:x≠dx:=λ z=>by subst z;clear I hn hm hsa hdat;rw [hx] at gd;obtain rfl:=Option.some.inj gd;contradiction
 refine wpAny_bind (wpAny_pure (wpAny_bind (wpAny_bind (wpAny_loadPart hx ?_))))
 refine hcls.substr ?_
 refine wpAny_bind (W.Looks.here (s:={ s with toks:=s.toks+1 }) (W.looks_clsIn X hc) ?_)
 refine hh.substr ?_;refine hd.substr ?_;refine (if_neg (by decide)).substr ?_
 refine wpAny_pure ?_
 refine wpAny_bind (wpAny_pure (wpAny_bind ?_))
 generalize hob:({ cls:=.type "dict", data:=.dict es ep }:Obj)=ob at gd
 have hobd:ob.data=.dict es ep:=by exact congrArg _ (hob).symm
 refine QcT (s:={ s with toks:=s.toks+1 }) gd hobd hk λ hs=>?_
 refine byK λ Pz kz=>?_;refine Qbs (nm:=name) (hs:=hs) (t:=s.toks+1) (v:=v) hobd hk λ es' n' p1 p2 p3 p4=>?_
 have hsz:es'.size<=101:=by
  refine p4.substr ?_;split
  ·exact Nat.le_succ_of_le hsz0
  ·exact Nat.succ_le_succ hsz0
 refine kz ?_;refine wpAny_bind (wpAny_lookBehind (Heap.get?_update_self _ gd (QaO p1):(s.heap.update dx (Obj.putName name hs (.str name (s.toks+1)) v)).get? dx=some (Obj.putName name hs (.str name (s.toks+1)) v ob)) (by exact Eq.trans (congrArg _ p1) (pastItsLine_dict (by refine sizeLine_eq.substr ?_;lia))) ?_)
 refine wpAny_pure ⟨rfl,?_⟩
 have hob2:Obj.putName name hs (.str name (s.toks+1)) v ob={ cls:=.type "dict", data:=.dict es' n' }:=by
  refine (Qc4 hobd p1).substr ?_;refine hob.symm.substr ?_;rfl
 exact h _ es' n' _ ((Heap.get?_update_other _ _ hxd.symm).trans hx) ((Heap.get?_update_self _ gd (QaO p1):(s.heap.update dx (Obj.putName name hs (.str name (s.toks+1)) v)).get? dx=some (Obj.putName name hs (.str name (s.toks+1)) v ob)).trans (by exact congrArg _ hob2)) p2 (λ y=>p3 y) λ b o hb e=>(Heap.get?_update_other _ _ (Ne.symm hb)).trans e
end
end
section
open PySem PySem.Calls PyProof.Rows
variable {B:Bs}{fr:List PySem.Env}{A:Around}{L:Addr}{X:List Addr}{ι:List Addr}{σ:List O}{s:Shared}{env:PySem.Env}
inductive ExcObj (B:Bs):Prop
 | mk (nm q:Str) (N LE:Addr) (bs:List Value) (hdct:Bool) (sn:List Str) (sub:List Value) (ab:Bool) (col:Option Bool) (dd:Option Addr) (k0 k1 k2 k3 k5:Option Value) (h:B.g.get? B.KE=some (excClassObj nm q B.KE N bs [.ref LE,.type "Exception", .type "BaseException", .type "object"] hdct sn sub ab col dd k0 k1 k2 k3 k5 "Exception.__new__")):ExcObj B
structure ExcAt (B:Bs):Prop where
 obj:ExcObj B
 name:B.mg "GrammarFault" = some (.ref B.KE)
theorem Qk2 {K:W.Frag}(C:ExcOk B K) {A:Around}{E:Value->Shared->Prop}{Q:Value->Shared->Prop}{e dx:Addr}{oe od:Obj}{vs:Array Value}{es:Array DictEntry}{ep:Nat}{nm:Str}{v:Value}
  (hnm:nm = "message" ∨ nm = "spot") (hk:B.g.StaysIn s.heap) (he:s.heap.get? e=some oe) (hc:oe.cls=.ref B.KE) (hd:oe.dict=some dx) (hf:oe.data=.fields vs) (hg:s.heap.get? dx=some od) (hes:od.data=.dict es ep) (sk:StrKeys es)
  (hv:nsFind es nm=some v) (hh:W.handedIn v=true) (h:Q v { s with toks:=s.toks+1 }):wpAny (model B.prog B.w) A (PySem.getAttr (.ref e) nm true) Q E s:=by
 obtain ⟨LE,cd,c1,c2,c3⟩:=C.cls
 have hn:W.findIn K (.ref B.KE) nm=some none:=by
  rcases hnm with rfl | rfl
  ·exact C.ms
  ·exact C.ss
 exact QdO (C.X.keeps hk) (⟨he,hc,by unfold W.notCls;refine hf.substr ?_;rfl,by refine hd.substr ?_;exact hg⟩:W.InstAt s.heap e oe B.KE (some od)) C.ga C.gk c1 (by refine c2.substr ?_;rfl) (by refine c2.substr ?_;rfl) (W.findObj_own (by unfold W.hasDictIn;exact Eq.trans (congrArg _ c1) c3) hn rfl (by refine (QcY hes sk).substr ?_;refine hv.substr ?_;rfl)) hh h
noncomputable def QjR (x:M (Fl×Env)) (ρ:Env):M (Fl×Env):=λ σ=>match x σ with
 | .exc m sp σ'=>M.bind (QaQ [m,sp]) (λ v=>M.ret (.ret v,ρ)) σ'
 | r=>r
theorem Qkl {x:M (Fl×Env)}{ρ:Env}{r:Fl×Env}{σ':List O}(h:x σ=.ok r σ'):QjR x ρ σ=.ok r σ':=by unfold QjR;refine h.substr ?_;rfl
theorem Qit {x:M (Fl×Env)}{ρ:Env}{m sp:V}{σ':List O}(h:x σ=.exc m sp σ'):QjR x ρ σ=.ok (.ret (.ref σ'.length),ρ) (σ'++[.list [m,sp]]):=by unfold QjR;refine h.substr ?_;rfl
theorem Qiu {x:M (Fl×Env)}{ρ:Env}(h:x σ=.bad):QjR x ρ σ=.bad:=by unfold QjR;refine h.substr ?_;rfl
theorem ExnAt.cls {h₀:Heap}{ι:List Addr}{h:Heap}{m sp:V}{e:Addr}{f:Value->Prop}(x:ExnAt B h₀ ι h m sp e f):∃ oe,h.get? e=some oe/\oe.cls=.ref B.KE:=by
 obtain ⟨_,oe,_,_,_,_,_,a1,_,_,a4⟩:=x
 exact ⟨oe,a1,a4⟩
theorem QbZ {outer:List PySem.Env}{h h':Heap}(I:Inv B (env::outer) ι σ h) (ef:env.frame=some env.locals) (hs:Heap.SameBut env.locals h h') {m:Str->Option Value}(hn:h'.Ns env.locals m):
  Go B (frs (env::outer)) [env.locals] ι h ι h'/\Inv B (env::outer) ι σ h':=by
 refine byK λ Pz kz=>?_;obtain ⟨_,L,o,es,ep,e,n,ni,nt,sk,g,d⟩:=I.frames env (.head _)
 replace e:=ef.symm.trans e;obtain rfl:=Option.some.inj e
 refine kz ?_;refine byK λ Pz kz=>?_;obtain ⟨o',es',ep',e',d',sk',f'⟩:=hn
 exact kz (I.other (X:=[]) hs ni n nt (λ o' g' z=>by rw [g] at g';obtain rfl:=Option.some.inj g';obtain ⟨_,its,p,z⟩:=z;rw [d] at z;contradiction)
  (λ b hb o' vs g' d'=>by rw [List.mem_singleton.mp hb,g] at g';obtain rfl:=Option.some.inj g';replace d':=d.symm.trans d';contradiction) ⟨o',e'⟩ (λ _=>⟨o',e',es',ep',sk',d'⟩))
theorem QfC {outer:List PySem.Env}{h:Heap}(I:Inv B (env::outer) ι σ h) (ef:env.frame=some env.locals):∃ m,h.Ns env.locals m:=by
 refine byK λ Pz kz=>?_;obtain ⟨_,L,o,es,ep,e,n,ni,nt,sk,g,d⟩:=I.frames env (.head _)
 clear nt ni n I;rw [ef] at e;obtain rfl:=Option.some.inj e
 exact kz (⟨_,o,es,ep,g,d,sk,λ _=>rfl⟩)
theorem QhY {K:W.Frag}(C:ExcOk B K) {outer:List PySem.Env}{x:Str}{p1 p2 q1 q2 lp rp:Pos}(ef:env.frame=some env.locals) (hkx:kindOf env.scope x=some .local) (hdx:(x==("__debug__" : Str))=false) (kF:env.scope.kind=.function)
  {h₀:Heap}{ι₀:List Addr}{σ₀:List O}(I₀:Inv B (env::outer) ι₀ σ₀ h₀) {m sp:V}{a:Addr}{f:Value->Prop}{Q:Flow->Shared->Prop}{E E1:Value->Shared->Prop}(I:Inv B (env::outer) ι σ s.heap) (hx:ExnAt B h₀ ι s.heap m sp a f)
  (kQ:∀ n h' tk,Go B (frs (env::outer)) [env.locals] ι s.heap (ι++[n]) h'->Inv B (env::outer) (ι++[n]) (σ++[.list [m,sp]]) h'->Q (.ret (.ref n)) { s with heap:=h',toks:=tk }):
  wpAny (model B.prog B.w) A (storeName env x (.ref a)) (λ _ s=>wpAny (model B.prog B.w) A (execs [.Return (some (.List [.Attribute (.Name x p1) "message" q1,.Attribute (.Name x p2) "spot" q2] lp)) rp] env) Q E s) E1 s:=by
 obtain ⟨mN,hNs⟩:=QfC I ef
 obtain ⟨hp,gg,dr,tk,os⟩:=s
 refine wpAny_storeName_local hkx hNs (λ h₄ hn₄ hs₄=>?_) (by refine kF.substr ?_;rfl)
 refine byK λ Pz kz=>?_;obtain ⟨go₅,I₅⟩:=QbZ I ef hs₄ hn₄
 obtain ⟨dx,oe,vs,es,ep,vm,vsp,a1,a2,a3,a4,a5,a6,a7,a8,a9,a10,a11,a12,a13,a14,a15,a16,a17⟩:=hx
 refine kz ?_;refine byK λ Pz kz=>?_;obtain ⟨_,L,oL,esL,epL,eL,_,niL,_,_,gL,dL⟩:=I.frames env (.head _)
 clear niL a12 a9 a8 a7 a3 a2 hNs;rw [ef] at eL;obtain rfl:=Option.some.inj eL
 have hed:dx≠env.locals:=λ z=>by
  obtain ⟨_,L',o',_,_,e',_,_,_,_,g',_⟩:=I₀.frames env (.head _)
  rw [ef] at e';obtain rfl:=Option.some.inj e'
  rw [z,g'] at a11;contradiction
 have a1':=(hs₄.2 a (λ z=>by replace a1:=gL▸z▸a1;obtain rfl:=Option.some.inj a1;rw [dL] at a6;contradiction)).trans a1
 have a10':=(hs₄.2 dx hed).trans a10
 have v1:=a16.mono go₅ I.tabs.nt
 have v2:=a17.mono go₅ I.tabs.nt
 have at1:∀ (nm:Str) v (tk:Nat) p q Q E,(nm = "message" ∨ nm = "spot")->nsFind es nm=some v->W.handedIn v=true->Q v ⟨h₄,gg,dr,tk+1,os⟩ →
   wpAny (model B.prog B.w) A (eval (.Attribute (.Name x p) nm q) env) Q E ⟨h₄,gg,dr,tk,os⟩:=λ nm v tk p q Q E hnm hv hh k=>by
  exact wpAny_bind (wpAny_Name (wpAny_loadName_local (s:=⟨h₄,gg,dr,tk,os⟩) kF hkx hn₄ (if_pos rfl) (wpAny_bind (wpAny_standAt (wpAny_bind (wpAny_holding (Qk2 C hnm I₅.keep a1' a4 a5 a6 a10' rfl a13 hv hh (wpAny_bind (wpAny_pure (wpAny_pure k))))))))) hdx)
 refine kz ?_;refine wpAny_bind ?_
 refine wpAny_bind (wpAny_standAt (wpAny_bind ?_))
 refine wpAny_bind (wpAny_standAt (wpAny_bind (Calls.spliced_cons (at1 _ vm _ _ _ _ _ (.inl rfl) a14 (QcU v1) (Calls.spliced_cons (at1 _ vsp _ _ _ _ _ (.inr rfl) a15 (QcU v2) (Calls.spliced_nil ?_)))))))
 refine wpAny_newList ?_ (Nat.le_trans (show 2<=1000000 by decide) (Qa8 (n:=1000000) (Nat.le_refl _)))
 generalize hob:({ cls:=.type "list", data:=.seq [vm,vsp].toArray }:Obj)=ob
 have kp:∀ b o,h₄.get? b=some o->(h₄.push ob).get? b=some o:=λ b o e=>Heap.get?_push_of_some _ e
 have go₆:Go B (frs (env::outer)) [] ι h₄ (ι++[h₄.objs.size]) (h₄.push ob):=Go.push kp (Qao h₄)
 exact wpAny_pure (wpAny_pure (kQ h₄.objs.size (h₄.push ob) _ (go₅.trans (go₆.wide (by simp))) (I₅.new kp (Qao h₄)
  ⟨[vm,vsp].toArray,0,by refine (Heap.get?_push_size _ (show ob.isFreed=false from by refine hob▸?_;rfl)).symm▸?_;refine hob▸?_;rfl,by exact ⟨vm,[vsp],rfl,v1.mono go₆ I₅.tabs.nt,vsp,[],rfl,v2.mono go₆ I₅.tabs.nt,rfl⟩⟩)))
theorem QoQ {K:W.Frag}{D U:Nat}(N:NamesOk B) (C:ExcOk B K) (G:ExcAt B) (fe:FnEnv B fr env) (am:Amb fr D U A) {body:List Stmt}{x:Str}{np p1 p2 q1 q2 lp rp hpos pos:Pos}{ρ:Env}{xb:Mine.X}
  (hkG:kindOf env.scope "GrammarFault" = some .globalImplicit) (hkx:kindOf env.scope x=some .local) (hdx:(x==("__debug__" : Str))=false) (F:FrameRel B ι s.heap env ρ) (I:Inv B fr ι σ s.heap)
  (hxb:T B fr A env.locals [env.locals] (execs body env) (xb ρ) (SR B env) ι σ s):
  T B fr A env.locals [env.locals] (exec (.Try body [.ExceptHandler (some (.Name "GrammarFault" np)) (some x) [.Return (some (.List [.Attribute (.Name x p1) "message" q1,.Attribute (.Name x p2) "spot" q2] lp)) rp] hpos] [] [] pos) env)
   (QjR (xb ρ) ρ) (SR B env) ι σ s:=by
 refine T.qe λ Q E kQ kE hbad=>?_
 refine wpAny_Try_except (T.use hxb (λ q=>hbad (Qiu q)) (λ p f ι₁ σ₁ s₁ q g I₁ r sm=>?_) λ v s₁ z=>?_)
 ·have k:=kQ p f ι₁ σ₁ s₁ (Qkl q) g I₁ r sm
  clear r;cases f<;>first | exact k | exact wpAny_execs_nil k
 ·obtain ⟨m,sp,σ₁,ι₁,hr,g,I₁,⟨a,rfl,hx⟩,sm⟩:=z
  obtain ⟨outer,rfl⟩:=fe.top
  refine Qfh am.frames fe.frame I g I₁ hx (λ v z=>z) λ h₁ I₂ g₂ hx₂ _=>?_
  refine Qb9 (s:={ s₁ with heap:=h₁ }) I g₂ I₂ hx₂ λ h₂ I₃ g₃ hx₃=>?_
  obtain ⟨nm,qn,NN,LE,bs,hdct,sn,sub,ab,col,dd,k0,k1,k2,k3,k5,hKE0⟩:=G.obj
  have hKE:=I₃.keep _ _ hKE0
  refine wpAny_handleBy_cons (codeAny_handlers_test (Calls.Name_function_global F.kind hkG (Calls.loadGlobal_global (mg:=B.mg) (by refine F.glob.substr ?_;exact N.main.keeps I₃.keep) G.name ?_) (by decide +kernel))) (by intro q;contradiction)
  refine byK λ Pz kz=>?_;obtain ⟨oe,a1,a4⟩:=hx₃.cls
  clear hKE0 hx₂ g₂ I₂ g kE hxb am hx hbad hkG G N;obtain ⟨hp,gg,dr,tk,os⟩:=s₁
  refine kz ?_;refine wpAny_excMatches_sub_self hKE a1 a4 (by rfl) (codeAny_handlers_suite_as ?_)
  refine Qb9 I g₃ I₃ hx₃ λ h₃ I₄ g₄ hx₄=>?_
  refine QhY (s:=⟨h₃,gg,dr,tk,os⟩) C fe.frame hkx hdx F.kind I I₄ hx₄ λ n h₄ tk' g₅ I₅=>?_
  obtain ⟨mN,hn₅⟩:=QfC I₅ fe.frame
  refine wpAny_nameGoes (s:=⟨h₄,gg,dr,_,os⟩) hkx hn₅ (by refine F.kind.substr ?_;rfl) λ h₆ m' hn₆ hs₆=>?_
  exact kQ (Fl.ret (.ref σ₁.length),ρ) _ _ _ _ (Qit hr) ((g₄.trans g₅).trans (QbZ I₅ fe.frame hs₆ hn₆).1) (QbZ I₅ fe.frame hs₆ hn₆).2 ⟨show Val B (ι₁++[n]) h₆ (.ref σ₁.length) (.ref n) from Qb2 (by refine I₁.len.symm.substr ?_;simp),trivial⟩ (sm.trans ⟨rfl,rfl,rfl⟩)
end
section
open PySem PySem.Calls PyProof.Rows
variable {B:Bs}{fr:List PySem.Env}{A:Around}{L:Addr}{X:List Addr}{ι:List Addr}{σ:List O}{s:Shared}{env:PySem.Env}
noncomputable def ExN (B:Bs) (h₀:Heap) (ι:List Addr) (h:Heap) (p:V×V) (v:Value):Prop:=
 ∃ e,And3 (v=.ref e) (ExnAt B h₀ ι h p.1 p.2 e (λ _=>False)) (Ex2 λ dx t=>h.get? e=some { cls:=.ref B.KE,dict:=some dx,data:=.fields #[.ref t,.none,.none,.none,.bool false,.none] })
theorem ExN.older {h₀ h₁ h:Heap}{ι:List Addr}{p:V×V}{v:Value}(k:∀ a,h₁.get? a=none->h₀.get? a=none) (x:ExN B h₁ ι h p v):ExN B h₀ ι h p v:=by
 obtain ⟨e,rfl,x,y⟩:=x
 exact ⟨e,rfl,x.older k,y⟩
noncomputable def QgV (B:Bs) (fr:List PySem.Env) (D U:Nat):Prop:=
 ∀ A L ι σ s m sp um usp,Amb fr D U A->Inv B fr ι σ s.heap->Val B ι s.heap m um->Val B ι s.heap sp usp →
  T B fr A L [] (PySem.call (.ref B.KE) [um,usp] []) (M.ret (m,sp)) (ExN B s.heap) ι σ s
theorem QhL {nm q:Str}{C N:Addr}{bs bm:List Value}{hdct:Bool}{sn:List Str}{sub:List Value}{ab:Bool}{col:Option Bool}{dd:Option Addr}{k0 k1 k2 k3 k5:Option Value}{newId:String}{E:Value->Shared->Prop}{QF:Flow->Shared->Prop}
  {x:Sem Value}(hbase:bm.contains (.type "BaseException")=true) (hh:A.handled=none)
  (h:wpAny (model B.prog B.w) A x (λ v s₁=>Ex3 λ e dx t=>And4 (v=.ref e) (s₁.heap.get? C=some (excClassObj nm q C N bs bm hdct sn sub ab col dd k0 k1 k2 k3 k5 newId)) (s₁.heap.get? e=some { cls:=.ref C,dict:=some dx,data:=.fields #[.ref t,.none,.none,.none,.bool false,.none] }) (E (.ref e) s₁)) E s):
  wpAny (model B.prog B.w) A (raiseStmt env (some x) none) QF E s:=by
 refine wpAny_bind (wpAny_mono h (λ v s₁ h₁=>?_) λ _ _ x=>x)
 obtain ⟨e,dx,t,rfl,hC,he,hE⟩:=h₁
 repeat (first | with_reducible refine wpAny_loadPart_at he ?_ | with_reducible refine wpAny_loadPart_at hC ?_ | (with_reducible refine wpAny_isSubtype_exc hC ?_;refine ((show (Value.ref C::bm).contains (.type "BaseException")=true from by simp only [List.contains_cons,hbase,Bool.or_true])).symm▸?_) | wp_step)
 exact wpAny_raiseNew_none hh hE
noncomputable def Qo2 (f:CE->M V) (c d:CE):M (V×V):=M.bind (Qcr f [c,d]) λ vs=>match vs with
 | [a,b]=>M.ret (a,b)
 | _=>M.stuck
theorem QiM {α:Type}(f:CE->M V) (c d:CE) (K:V->V->M α):(M.bind (f c) λ m=>M.bind (f d) λ s=>K m s)=M.bind (Qo2 f c d) λ p=>K p.1 p.2:=by
 funext σ
 show M.bind (f c) _ σ=(M.bind (M.bind (M.bind (f c) λ v=>M.bind (M.bind (f d) λ v=>M.ret [v]) λ vs=>M.ret (v::vs)) _) _) σ
 unfold M.bind
 cases f c σ with
 | ok v σ1=>dsimp only;cases f d σ1<;>rfl
 | _=>rfl
theorem QkR (G:ExcAt B) (h:Heap) (k:B.g.StaysIn h):∃ k,(k=Keeper.frame∨k=Keeper.machine∨k=Keeper.boundFrame)/\W.Looks (model B.prog B.w) h (keeperOf (.ref B.KE)) k:=by
 obtain ⟨nm,qn,NN,LE,bs,hdct,sn,sub,ab,col,dd,k0,k1,k2,k3,k5,hKE0⟩:=G.obj
 refine ⟨.machine,.inr (.inl rfl),λ A Q E s kk q=>?_⟩
 exact wpAny_keeperOf_exc (kk _ _ (k _ _ hKE0)) q
theorem Qlj {D U n:Nat}{call:V->List V->M V}(N:NamesOk B) (G:ExcAt B) (XN:QgV B fr D U) (H:Ev B fr D U call n) (fe:FnEnv B fr env) (am:Amb fr D U { A with units:=A.units+8 * n }) {e1 e2:Expr}{k:Nat}{ρ:Env}{p cp pos:Pos}
  (hk:kindOf env.scope "GrammarFault" = some .globalImplicit) (hns:QaB [e1,e2]=true) (F:FrameRel B ι s.heap env ρ) (I:Inv B fr ι σ s.heap):
  T B fr A env.locals [env.locals] (exec (.Raise (some (.Call (.Name "GrammarFault" p) [e1,e2] [] cp)) none pos) env)
   (M.bind (Mine.ev B.cx call n ρ (comp k true env.scope e1)) λ m=>M.bind (Mine.ev B.cx call n ρ (comp k true env.scope e2)) λ s=>M.raise m s) (SR B env) ι σ s:=by
 rw [QiM (Mine.ev B.cx call n ρ)]
 refine byK λ Pz kz=>?_;obtain ⟨h1,h2⟩:=Qav hns
 obtain ⟨nm,qn,NN,LE,bs,hdct,sn,sub,ab,col,dd,k0,k1,k2,k3,k5,hKE0⟩:=G.obj
 have ht:T B fr A env.locals [] (eval (.Call (.Name "GrammarFault" p) [e1,e2] [] cp) env) (Qo2 (Mine.ev B.cx call n ρ) (comp k true env.scope e1) (comp k true env.scope e2)) (ExN B s.heap) ι σ s:=by
  rw [arm_eval_Call_Name'];refine (Qas h1).substr ?_
  show T B fr A env.locals [] (eval (.Name "GrammarFault" p) env >>= λ v=>callWith cp v [] _ []) _ _ ι σ s
  refine T.pre (t:=callWith cp (.ref B.KE) [] (([e1,e2].map λ e=>eval e env).map λ t=>(false,t)) []) (λ Q E h=>wpAny_bind (Calls.Name_function_global F.kind hk (Calls.loadGlobal_global (mg:=B.mg) (by refine F.glob.substr ?_;exact N.main.keeps I.keep) G.name h) (by decide +kernel))) ?_
  refine QaI (λ h=>B.g.StaysIn h) (λ h q=>QkR G h q) (QbM n H.ev (l:=[e1,e2]) am (ScRel.refl env) (λ _=>fe.lam) F I) λ vs us ι₁ σ₁ s₁ g₁ I₁ r₁ hb₁=>⟨I₁.keep,?_⟩
  match vs,r₁ with
  | [],_=>exact T.stuck
  | [_],_=>exact T.stuck
  | [y,z],r₁=>
   refine Qmi r₁ ?_;rintro u v rfl hx hy
   exact (XN A env.locals ι₁ σ₁ s₁ y z u v am.of I₁ hx hy).mon λ _ _ _ _ r=>r.older g₁.older
  | _::_::_::_,_=>exact T.stuck
 refine kz ?_;intro hbad
 refine wpAny_bind (wpAny_standAt ?_)
 refine QhL (C:=B.KE) (nm:=nm) (q:=qn) (N:=NN) (bs:=bs) (bm:=[.ref LE,.type "Exception", .type "BaseException", .type "object"]) (hdct:=hdct) (sn:=sn) (sub:=sub) (ab:=ab) (col:=col) (dd:=dd) (k0:=k0) (k1:=k1) (k2:=k2) (k3:=k3) (k5:=k5) (newId := "Exception.__new__") (by rfl) am.hand ?_
 refine wpAny_bind (T.use ht (Qam hbad) (λ pr v ι₁ σ₁ s₁ q g I₁ r sm=>wpAny_bind (wpAny_standAt (wpAny_pure ?_))) λ v s' z=>?_)
 ·obtain ⟨e,rfl,hx,dx,t,he⟩:=r
  refine ⟨e,dx,t,rfl,I₁.keep _ _ hKE0,he,?_⟩
  refine (Qan q).substr ?_
  refine ⟨pr.1,pr.2,σ₁,ι₁,rfl,g.wide (by simp),I₁,⟨e,rfl,?_⟩,sm⟩
  exact hx.mon λ _ z=>z.elim
 ·exact TE.bind (z.wide (by simp))
end
section
open PySem PySem.Calls PyProof.Rows
variable {B:Bs}{fr:List PySem.Env}{A:Around}{L:Addr}{X:List Addr}{ι:List Addr}{σ:List O}{s:Shared}{env:PySem.Env}
structure Base (B:Bs) (K:W.Frag):Prop where
 N:NamesOk B
 LO:LamOk B
 C:ClsOk B K
 X:ExcOk B K
 G:ExcAt B
 hKW:W.keepIn K (.ref B.KW)=true
structure Al (B:Bs) (K:W.Frag) (fr:List PySem.Env) (D U:Nat) (call:V->List V->M V):Prop extends Base B K where
 XN:QgV B fr D U
 H:CallOk B fr D U call
 hU:U+100<cLine
theorem Al.ev {K:W.Frag}{D U:Nat}{call:V->List V->M V}(Z:Al B K fr D U call) (n:Nat):Ev B fr D U call n:=
 have h:=QjD Z.N Z.LO Z.C Z.hU Z.hKW Z.H n
 ⟨h.1 n (Nat.le_refl _),h.2,Z.hU⟩
inductive TgtK (sc:Scope):Expr->CT->Prop
 | attr (o:Str) (op:Pos) (a:Str) (k:Nat) (pos:Pos) (hk:anames[k]?=some a):TgtK sc (.Attribute (.Name o op) a pos) (.attr (comp 20 true sc (.Name o op)) k)
 | sub (o i:Expr) (pos:Pos):TgtK sc (.Subscript o i pos) (.idx (comp 20 true sc o) (comp 20 true sc i))
 | name (x:Str) (p:Pos) {ct:CT}(hd:(x==("__debug__" : Str)||x==("__classdict__" : Str))=false) (h:QeB sc x ct):TgtK sc (.Name x p) ct
 | tup (xs:List (Str×Pos)) (k:Nat) (p:Pos) (cs:List CT) (h1:xs.length=cs.length) (h2:∀ (j:Nat) x t,xs[j]?=some x->cs[j]?=some t->QeB sc x.1 t):TgtK sc (.Tuple (xs.map λ x=>.Name x.1 x.2) k p) (.tup cs)
theorem Qhk {e:Expr}(h:Qny e=true):Ex2 λ x p=>e=.Name x p:=by
 obtain ⟨q,hq⟩:=Option.isSome_iff_exists.mp h
 exact ⟨_,_,Qbw hq⟩
theorem QcC {sc:Scope}{t:Expr}{ct:CT}(h:compT 5 sc t=some ct):TgtK sc t ct:=by
 have h:cT sc (compT 4 sc) (qNm t) (qAt t) (Qlv t) (qTu t)=some ct:=h
 cases hq:qNm t with
 | some q=>
  replace h:=hq▸h
  obtain ⟨hd,hn⟩:=Qjp h
  exact (Qbw hq).substr (.name _ _ hd hn)
 | none=>
  replace h:=hq▸h
  cases ha:qAt t with
  | some q=>
   replace h:=ha▸h
   have h:QgR sc q.1 q.2.1=some ct:=h
   unfold QgR at h
   split at h
   ·rename_i hn
    obtain ⟨o,op,e⟩:=Qhk hn
    obtain ⟨k,hk,rfl⟩:=Option.map_eq_some_iff.mp h
    refine (QgL ha).substr ?_;refine e.substr ?_
    exact .attr _ _ _ _ _ (Qdw hk)
   ·exact nos h
  | none=>
   replace h:=ha▸h
   cases hs:Qlv t with
   | some q=>
    rw [hs] at h
    injection h with h;subst h
    exact (QkD hs).substr (.sub _ _ _)
   | none=>
    rw [hs] at h
    cases hu:qTu t with
    | none=>rw [hu] at h;exact nos h
    | some q=>
     replace h:=hu▸h
     have h:(if q.1.all Qny then (q.1.mapM (compT 4 sc)).map .tup else none)=some ct:=h
     split at h
     ·rename_i hall
      obtain ⟨cs,hc,rfl⟩:=Option.map_eq_some_iff.mp h
      refine Qc8 (λ e m=>Qhk (List.all_eq_true.mp hall e m)) hc λ xs e1 e2 e3=>?_
      refine (Qfa hu).substr ?_;refine e1.substr ?_
      exact .tup _ _ _ _ e2 e3
     ·exact nos h
theorem QcE {K:W.Frag}{D U n:Nat}{call:V->List V->M V}(Z:Al B K fr D U call) (fe:FnEnv B fr env) (am:Amb fr D U { A with units:=A.units+8 * n }) {t:Expr}{ct:CT}(h:compT 5 env.scope t=some ct) {ρ:Env}{v:V}{u:Value}
  (F:FrameRel B ι s.heap env ρ) (I:Inv B fr ι σ s.heap) (hv:Val B ι s.heap v u):
  T B fr A env.locals [env.locals] (PySem.assign t env u) (Mine.assign B.cx call n 3 ct v ρ) (λ ι h ρ' _=>FrameRel B ι h env ρ') ι σ s:=by
 cases QcC h with
 | attr o op a k pos hk=>exact QhW Z.C (Z.ev n) fe am hk F I hv
 | sub o i pos=>exact Qi9 (Z.ev n) fe am F I hv
 | name x p hd hn=>exact Qek hn F I hv
 | tup xs kk p cs e2 e3=>exact QhV (am.of.room Z.hU) e3 e2 F I hv
theorem Qf5 {t e:Expr}{l:Nat}(h:Qlp e=false):swapsWithSole [t] e l env=pure false:=by
 cases e<;>first | rfl | (contradiction;done)
noncomputable def QpY (B:Bs) (fr:List PySem.Env) (D U:Nat) (call:V->List V->M V) (n d:Nat):Prop:=
 ∀ (A:Around) (k:Nat) (st:Stmt) (env:PySem.Env) (ρ:Env) (ι:List Addr) (σ:List O) (s:Shared),
  Amb fr D U { A with units:=A.units+8 * n }->FnEnv B fr env->FrameRel B ι s.heap env ρ->Inv B fr ι σ s.heap →
  T B fr A env.locals [env.locals] (exec st env) (Mine.ex B.cx call n d (compS k env.scope st) ρ) (SR B env) ι σ s
theorem Qiw {t:Expr}{ct:CT}{sc:Scope}(h:compT 5 sc t=some ct):(assignEach [t] env).map (·.2)=[PySem.assign t env]:=by
 cases QcC h<;>rfl
theorem QhE {t e:Expr}{ct:CT}{sc:Scope}(h:compT 5 sc t=some ct) (hn:qTu t=none∨qTu e=none):swappedStores [t] e env=pure none:=by
 cases QcC h with
 | tup=>
  cases e<;>first | rfl | exact nomatch hn
 | _=>rfl
set_option tactic.hygienic true in
theorem QmL {sc:Scope}{e a:Expr}(h:rgE sc e=some a):Ex2 λ p cp=>And3 (e=.Call (.Name "range" p) [a] [] cp) (kindOf sc "range" = some .globalImplicit) (QaB [a]=true):=by
 unfold rgE at h
 split at h
 ·exact nos h
 ·rename_i q hq
  split at h
  ·exact nos h
  ·rename_i f hf
   split at h
   ·exact nos h
   ·rename_i a' r ha
    split at h
    ·rename_i hc
     simp only [Bool.and_eq_true,decide_eq_true_eq,beq_iff_eq,List.isEmpty_iff] at hc
     refine byK λ Pz kz=>?_;obtain ⟨⟨⟨⟨hk,hx⟩,hn⟩,hr⟩,hs⟩:=hc
     obtain rfl:=Option.some.inj h
     exact kz (⟨f.2,q.2.2.2,by simp only [QdC hq,Qbw hf,ha,hr,hs,hx],hx▸hk,hn⟩)
    ·exact nos h
set_option tactic.hygienic true in
theorem QmI {sc:Scope}{e a b:Expr}(h:rsE sc e=some (a,b)):Ex2 λ p cp=>And3 (e=.Call (.Name "GrammarFault" p) [a,b] [] cp) (kindOf sc "GrammarFault" = some .globalImplicit) (QaB [a,b]=true):=by
 unfold rsE at h
 split at h
 ·exact nos h
 ·rename_i q hq
  split at h
  ·exact nos h
  ·rename_i f hf
   split at h
   ·exact nos h
   ·rename_i a' r ha
    split at h
    ·exact nos h
    ·split at h
     ·rename_i hc
      simp only [Bool.and_eq_true,decide_eq_true_eq,beq_iff_eq,List.isEmpty_iff] at hc
      refine byK λ Pz kz=>?_;obtain ⟨⟨⟨⟨hk,hx⟩,hn⟩,hr⟩,hs⟩:=hc
      cases h
      exact kz (⟨f.2,q.2.2.2,by simp only [QdC hq,Qbw hf,ha,hr,hs,hx],hx▸hk,hn⟩)
     ·exact nos h
set_option tactic.hygienic true in
theorem Qfb {x:Str}{e:Expr}(h:nmE x e=true):∃ p,e=.Name x p:=by
 unfold nmE at h
 split at h
 ·rename_i q hq;exact ⟨q.2,eq_of_beq h▸Qbw hq⟩
 ·exact nob h
set_option tactic.hygienic true in
theorem Qfg {x:Str}{n:String}{e:Expr}(h:atE x n e=true):Ex2 λ p q=>e=.Attribute (.Name x p) n q:=by
 unfold atE at h
 split at h
 ·rename_i q hq
  have h:=Bool.and_eq_true_iff.mp h
  obtain ⟨p,hp⟩:=Qfb h.1
  exact ⟨p,_,by refine (QgL hq).substr ?_;refine hp.substr ?_;refine (eq_of_beq h.2).substr ?_;rfl⟩
 ·exact nob h
set_option tactic.hygienic true in
theorem QmU {x:Str}{e:Expr}(h:liE x e=true):Ex5 λ p1 q1 p2 q2 lp=>e=.List [.Attribute (.Name x p1) "message" q1,.Attribute (.Name x p2) "spot" q2] lp:=by
 unfold liE at h
 split at h
 ·exact nob h
 ·rename_i q hq
  split at h
  ·exact nob h
  ·rename_i a r ha
   split at h
   ·exact nob h
   ·rename_i b r
    have h:=Bool.and_eq_true_iff.mp h
    obtain ⟨p1,q1,rfl⟩:=Qfg (Bool.and_eq_true_iff.mp h.1).1
    refine byK λ Pz kz=>?_;obtain ⟨p2,q2,rfl⟩:=Qfg (Bool.and_eq_true_iff.mp h.1).2
    obtain rfl:=List.isEmpty_iff.mp h.2
    exact kz (⟨_,_,_,_,q.2,by refine (QkG hq).substr ?_;refine ha.substr ?_;rfl⟩)
set_option tactic.hygienic true in
theorem QmM {x:Str}{s:Stmt}(h:reE x s=true):Ex6 λ p1 q1 p2 q2 lp rp=>s=.Return (some (.List [.Attribute (.Name x p1) "message" q1,.Attribute (.Name x p2) "spot" q2] lp)) rp:=by
 unfold reE at h
 split at h
 ·rename_i q hq
  split at h
  ·rename_i hv
   refine byK λ Pz kz=>?_;obtain ⟨p1,q1,p2,q2,lp,rfl⟩:=QmU h
   exact kz (⟨_,_,_,_,_,q.2,by refine (QkF hq).substr ?_;refine hv.substr ?_;rfl⟩)
  ·exact nob h
 ·exact nob h
theorem Qnb {x:Str}{l:List Stmt}(h:bdE x l=true) {Z:Prop}(k0:∀ p1 q1 p2 q2 lp rp,l=[.Return (some (.List [.Attribute (.Name x p1) "message" q1,.Attribute (.Name x p2) "spot" q2] lp)) rp]->Z):Z:=by
 cases l with
 | nil=>exact nob h
 | cons s r=>
  have h:=Bool.and_eq_true_iff.mp h
  obtain rfl:=List.isEmpty_iff.mp h.1
  obtain ⟨p1,q1,p2,q2,lp,rp,rfl⟩:=QmM h.2
  exact k0 _ _ _ _ _ _ rfl
set_option tactic.hygienic true in
theorem Qm0 {sc:Scope}{e:Expr}(h:gfE sc e=true):∃ np,e=.Name "GrammarFault" np/\kindOf sc "GrammarFault" = some .globalImplicit:=by
 unfold gfE at h
 split at h
 ·rename_i q hq
  have g:=Bool.and_eq_true_iff.mp h
  exact ⟨q.2,(eq_of_beq g.2)▸Qbw hq,(eq_of_beq g.2)▸of_decide_eq_true g.1⟩
 ·exact nob h
theorem QmY {sc:Scope}{hs:List ExceptHandler}(h:hsE sc hs=true) {Z:Prop}(k0:∀ x np p1 p2 q1 q2 lp rp hpos,(hs=[.ExceptHandler (some (.Name "GrammarFault" np)) (some x) [.Return (some (.List [.Attribute (.Name x p1) "message" q1,.Attribute (.Name x p2) "spot" q2] lp)) rp] hpos])->(kindOf sc "GrammarFault" = some .globalImplicit)->(kindOf sc x=some .local)->(x==("__debug__" : Str))=false->Z):Z:=by
 cases hs with
 | nil=>exact nob h
 | cons a r=>
  have h:=Bool.and_eq_true_iff.mp h
  obtain rfl:=List.isEmpty_iff.mp h.1
  cases a with
  | ExceptHandler t nm bd hpos=>
   have h:=Bool.and_eq_true_iff.mp (show (_&&_)=true from h.2)
   cases t with
   | none=>cases h.1
   | some f=>
    obtain ⟨np,rfl,hk⟩:=Qm0 h.1
    cases nm with
    | none=>cases h.2
    | some x=>
     have k:=Bool.and_eq_true_iff.mp (show (_&&_)=true from h.2)
     clear h;clear h;refine Qnb k.2 ?_;rintro p1 q1 p2 q2 lp rp rfl
     exact k0 _ _ _ _ _ _ _ _ _ rfl hk (eq_of_beq (Bool.and_eq_true_iff.mp k.1).1) (by simpa using (Bool.and_eq_true_iff.mp k.1).2)
theorem Qgk {k:Nat}{sc:Scope}{P:Stmt->CS->Prop}(hbad:∀ s,P s .bad)
  (h1:∀ e p,Qlp e=false->P (.Expr e p) (.expr (comp 20 true sc e)))
  (h2:∀ e p,P (.Return (some e) p) (.ret (comp 20 true sc e)))
  (h3:∀ t e p,P (.Assign [t] e p) (QjY (comp 20 true sc) sc t e))
  (h4:∀ t op e p ct op',compT 5 sc t=some ct->op2 op=some op'->P (.AugAssign t op e p) (.aug ct op' (comp 20 true sc e)))
  (h5:∀ t a b p,P (.If t a b p) (.iff (comp 20 true sc t) (a.map (compS k sc)) (b.map (compS k sc))))
  (h6:∀ t b p,P (.While t b [] p) (.whl (comp 20 true sc t) (b.map (compS k sc))))
  (h7:∀ t e b p a ct,rgE sc e=some a->compT 5 sc t=some ct->P (.For t e b [] p) (.forR ct (comp 20 true sc a) (b.map (compS k sc))))
  (h8:∀ t e b p ct,QbS e=false->compT 5 sc t=some ct->P (.For t e b [] p) (.for ct (comp 20 true sc e) (b.map (compS k sc))))
  (h9:∀ p,P (.Break p) .brk)
  (h10:∀ e p q,rsE sc e=some q->P (.Raise (some e) none p) (.raise (comp 20 true sc q.1) (comp 20 true sc q.2)))
  (h11:∀ b hs p,hsE sc hs=true->P (.Try b hs [] [] p) (.tryR (b.map (compS k sc)))):∀ s,P s (compS (k+1) sc s):=by
 intro s
 cases s with
 | Expr e p=>
  show P _ (if Qlp e then _ else _)
  split
  ·exact hbad _
  ·rename_i h;exact h1 _ _ (eq_false_of_ne_true h)
 | Return v p=>cases v with
  | none=>exact hbad _
  | some e=>exact h2 _ _
 | Assign ts e p=>match ts with
  | []=>exact hbad _
  | [t]=>exact h3 _ _ _
  | _::_::_=>exact hbad _
 | AugAssign t op e p=>
  show P _ (match compT 5 sc t,op2 op with | some t,some op=>CS.aug t op (comp 20 true sc e) | _,_=>.bad)
  cases hc:compT 5 sc t with
  | none=>exact hbad _
  | some ct=>cases ho:op2 op with
   | none=>exact hbad _
   | some op'=>exact h4 _ _ _ _ _ _ hc ho
 | If t a b p=>exact h5 _ _ _ _
 | While t b els p=>cases els with
  | nil=>exact h6 _ _ _
  | cons=>exact hbad _
 | For t e b els p=>cases els with
  | cons=>exact hbad _
  | nil=>
   show P _ (match rgE sc e with
    | some a=>(match compT 5 sc t with | some t=>.forR t (comp 20 true sc a) (b.map (compS k sc)) | none=>.bad)
    | none=>if QbS e then .bad else (match compT 5 sc t with | some t=>.for t (comp 20 true sc e) (b.map (compS k sc)) | none=>.bad))
   cases hr:rgE sc e with
   | some a=>cases hc:compT 5 sc t with
    | none=>exact hbad _
    | some ct=>exact h7 _ _ _ _ _ _ hr hc
   | none=>
    dsimp only
    split
    ·exact hbad _
    ·rename_i hs
     cases hc:compT 5 sc t with
     | none=>exact hbad _
     | some ct=>exact h8 _ _ _ _ _ (eq_false_of_ne_true hs) hc
 | Break p=>exact h9 _
 | Raise e cz p=>cases e with
  | none=>exact hbad _
  | some e=>cases cz with
   | some c=>exact hbad _
   | none=>
    show P _ (match rsE sc e with | some q=>.raise (comp 20 true sc q.1) (comp 20 true sc q.2) | none=>.bad)
    cases hr:rsE sc e with
    | none=>exact hbad _
    | some q=>exact h10 _ _ _ hr
 | Try b hs els fin p=>
  show P _ (if els.isEmpty&&fin.isEmpty&&hsE sc hs then _ else _)
  split
  ·rename_i hc
   have hc:=Bool.and_eq_true_iff.mp hc
   obtain rfl:=List.isEmpty_iff.mp (Bool.and_eq_true_iff.mp hc.1).1
   obtain rfl:=List.isEmpty_iff.mp (Bool.and_eq_true_iff.mp hc.1).2
   exact h11 _ _ _ hc.2
  ·exact hbad _
 | _=>exact hbad _
set_option tactic.hygienic true in
theorem QjC {K:W.Frag}{D U m:Nat}{call:V->List V->M V}(Z:Al B K fr D U call):∀ d,QpY B fr D U call (m+1) d
 | 0=>λ _ _ _ _ _ _ _ _ _ _ _ _=>T.stuck
 | d+1=>by
  intro A k st env ρ ι σ s am fe F I
  have ih:=QjC Z (m:=m) d
  have seq:∀ (l:List Stmt) (k:Nat) ρ ι σ s,FrameRel B ι s.heap env ρ->Inv B fr ι σ s.heap->T B fr A env.locals [env.locals] (execs l env) (Qau (Mine.ex B.cx call (m+1) d) (l.map (compS k env.scope)) ρ) (SR B env) ι σ s:=λ l k ρ ι σ s F I=>
   Qke (d:=d) (λ st _ ρ ι σ s F I=>ih A k st env ρ ι σ s am fe F I) F I
  have H:=Z.ev (m+1)
  cases k with
  | zero=>exact T.stuck
  | succ k=>
   have plain:∀ (t e:Expr) (pos:Pos),(qTu t=none∨qTu e=none) →
     T B fr A env.locals [env.locals] (exec (.Assign [t] e pos) env) (Mine.ex B.cx call (m+1) (d+1) (sPl (comp 20 true env.scope) env.scope t e) ρ) (SR B env) ι σ s:=by
    intro t e pos h1
    unfold sPl
    split
    ·exact T.stuck
    ·rename_i hl
     split
     ·rename_i ct hct
      exact QfR H fe am F I (Qf5 (eq_false_of_ne_true hl)) (QhE hct h1) (Qiw hct) λ v u ι σ s F I hv=>QcE Z fe am hct F I hv
     ·exact T.stuck
   refine Qgk (P:=λ st cs=>T B fr A env.locals [env.locals] (exec st env) (Mine.ex B.cx call (m+1) (d+1) cs ρ) (SR B env) ι σ s) (λ _=>T.stuck) (λ e p h=>Qlk H fe am F I h) (λ e p=>Qjd H fe am F I) ?_ ?_
    (λ t a b p=>QpW H fe am F I (λ ι σ s F I=>seq _ _ ρ ι σ s F I) (λ ι σ s F I=>seq _ _ ρ ι σ s F I)) (λ t b p=>Qli H fe am F I (λ ρ ι σ s F I=>seq _ _ ρ ι σ s F I)) ?_
    (λ t e b p ct hs hct=>QoR H fe am F I hs (λ v u ρ ι σ s F I hv=>QcE Z fe am hct F I hv) (λ ρ ι σ s F I=>seq _ _ ρ ι σ s F I)) (λ p=>Qll F I) ?_ ?_ st
   ·intro t e spos
    unfold QjY
    split
    ·rename_i q hqt
     split
     ·rename_i q' hqe
      obtain ⟨ts,kk,p⟩:=q
      simp only [Qfa hqt,Qfa hqe]
      unfold Qo5
      split
      ·rename_i hq
       split
       ·rename_i is hi
        exact Qno H fe am F I hq hi
       ·exact T.stuck
      ·rename_i hq
       split
       ·rename_i ct hct
        exact QfR H fe am F I rfl (Qf3 (show env.blockKind=.function from by unfold Env.blockKind;refine (F.kind).symm▸?_;rfl) hq) rfl λ v u ι σ s F I hv=>QcE Z fe am hct F I hv
       ·exact T.stuck
      ·exact T.stuck
     ·rename_i hqe
      exact plain _ _ _ (.inr hqe)
    ·rename_i hqt
     split
     ·rename_i q hqn
      split
      ·rename_i q' hqe
       obtain ⟨x,p⟩:=q
       obtain ⟨elt,gens,inner,pos⟩:=q'
       simp only [Qbw hqn,QmN hqe]
       simp only [sLC]
       split
       ·rename_i hc
        split
        ·rename_i i hi
         simp only [Bool.and_eq_true,decide_eq_true_eq,beq_iff_eq,Bool.not_eq_true'] at hc
         obtain ⟨⟨hk,hp⟩,hnm⟩:=hc
         refine Qhu (c:=comp 19 true env.scope) (cb:=comp 19 false) (P:=λ ce=>T B fr A env.locals [env.locals] (exec (.Assign [.Name x p] (.ListComp elt gens inner pos) spos) env) (Mine.ex B.cx call (m+1) (d+1) (.asg (.loc i) ce) ρ) (SR B env) ι σ s) (T.bad rfl)
          λ t iter ifs ts single frl hg hs hifs hset hf ht=>?_
         clear hqe hqn ih;subst hg
         have hsw:swapsWithSole [.Name x p] (.ListComp elt [⟨t,iter,ifs,0⟩] inner pos) spos.line env=pure true:=by
          show (pure (env.blockKind==.function&&env.kindOf x==some .local&&p.line==pos.line&&!(inner.names.any λ (n,k)=>n==x&&(k==.local||k==.cell))):Sem Bool)=pure true
          have hk':env.kindOf x=some .local:=hk
          simp only [(show env.blockKind=.function from by unfold Env.blockKind;refine (F.kind).symm▸?_;rfl),hk',hnm]
          simp [hp]
         exact Qgo (Z.ev m) (am.le (m:=8 * m) (by lia)) B.cx.W F I hs hset hf ht hifs ((Z.ev m).ev A env.locals 19 true env.scope env iter ρ ι σ s trivial (am.le (m:=8 * m) (by lia)) (ScRel.refl env) (λ _=>fe.lam) F I) hsw hi hk rfl
        ·exact T.stuck
       ·exact T.stuck
      ·exact plain _ _ _ (.inl hqt)
     ·exact plain _ _ _ (.inl hqt)
   ·intro t op e pos ct op' hct hop
    cases QcC hct with
    | attr o xp a kk tpos hk=>exact Qh1 Z.C H fe am hk hop F I
    | sub=>exact T.stuck
    | tup=>exact T.stuck
    | name x np hd hn=>
     cases ct with
     | loc i=>exact Qh0 Z.N H fe am hd hn.1 hn.2 hop F I
     | cel i=>exact T.stuck
     | _=>exact False.elim hn
   ·intro t e b pos a ct hr hct
    obtain ⟨p,cp,rfl,hk,hn⟩:=QmL hr
    exact Qnp Z.N H fe am hk (by have:=(Qav hn).1;simp only [List.all_cons,List.all_nil,Bool.and_true] at this;exact this) F I (λ v u ρ ι σ s F I hv=>QcE Z fe am hct F I hv) (λ ρ ι σ s F I=>seq _ _ ρ ι σ s F I)
   ·intro e pos q hq
    obtain ⟨p,cp,rfl,hk,hn⟩:=QmI hq
    exact Qlj Z.N Z.G Z.XN H fe am hk hn F I
   ·intro b hs pos hh
    refine QmY hh ?_;rintro x np p1 p2 q1 q2 lp rp hpos rfl hk hx hd
    exact QoQ Z.N Z.X Z.G fe am.of hk hx hd F I (seq _ _ ρ ι σ s F I)
end
section
open PySem PySem.Calls PyProof.Rows
theorem Qcc {r:List (Str×Value)}{x y:Str}{u:Value}(h:x≠y):((y,u)::r).lookup x=r.lookup x:=by
 simp only [List.lookup_cons,beq_eq_false_iff_ne.mpr h]
theorem QdM {r:List (Str×Value)}{x:Str}{u:Value}:((x,u)::r).lookup x=some u:=by
 simp only [List.lookup_cons,beq_self_eq_true]
theorem Qcm {xs:List Str}:∀ {us:List Value}{i:Nat}{x:Str},xs.Nodup->xs[i]?=some x->(xs.zip us).lookup x=us[i]?:=by
 induction xs with
 | nil=>intro us i x _ h;exact absurd h nofun
 | cons y r ih=>
  intro us i x nd h
  cases us with
  | nil=>rfl
  | cons u us=>
   obtain ⟨n1,n2⟩:=List.nodup_cons.mp nd
   cases i with
   | zero=>obtain rfl:=Option.some.inj h;exact QdM
   | succ i=>exact (Qcc λ e=>n1 (by refine e▸?_;exact List.mem_of_getElem? h)).trans (ih n2 h)
theorem Qjx {f:Str->Option Value}:∀ {xs:List Str}{vs:List Value},(∀ (i:Nat) (x:Str),xs[i]?=some x->f x=vs[i]?)->vs.length=xs.length->xs.filterMap (λ n=>(f n).map (n,·))=xs.zip vs
 | [],_,_,_=>rfl
 | _::_,[],_,h=>nomatch h
 | y::r,w::ws,h,hl=>(List.filterMap_cons_some (by refine (h 0 y rfl).substr ?_;rfl)).trans (congrArg ((y,w)::·) (Qjx (λ i=>h (i+1)) (Nat.succ.inj hl)))
noncomputable def Qlr (slots:List (Str×Value)) (p:Str×Value):List (Str×Value):=if (slots.lookup p.1).isNone then slots++[p] else slots
theorem Qi7 (slots:List (Str×Value)) (p:Str×Value) (n:Str):(Qlr slots p).lookup n=(slots.lookup n).or ([p].lookup n):=by
 unfold Qlr
 split
 ·exact List.lookup_append
 ·rename_i h
  cases e:slots.lookup n with
  | some v=>rfl
  | none=>
   exact (Qcc (r:=[]) (u:=p.2) (λ z=>h (z▸e▸rfl):n≠p.1)).symm
theorem QfP (n:Str):∀ {l slots:List (Str×Value)},(l.foldl Qlr slots).lookup n=(slots.lookup n).or (l.lookup n)
 | [],_=>(Option.or_none).symm
 | p::r,slots=>by
  rw [List.foldl_cons,QfP n,Qi7,Option.or_assoc,<- List.lookup_append];rfl
theorem Qgi {l:List (Str×Value)}:∀ {slots:List (Str×Value)}{f:Str×Value->List (Str×Value)->Sem (ForInStep (List (Str×Value)))},
  (∀ n d r,f (n,d) r=if (r.lookup n).isNone then pure (.yield (r++[(n,d)])) else pure (.yield r))->(forIn l slots f:Sem (List (Str×Value)))=pure (l.foldl Qlr slots):=by
 induction l with
 | nil=>intro slots f _;rfl
 | cons p r ih=>
  intro slots f hf
  rw [List.forIn_cons,hf];refine List.foldl_cons.substr ?_
  unfold Qlr
  split
  ·rename_i h;exact ih hf
  ·rename_i h;exact ih hf
noncomputable def Qbr (p:Arguments):Prop:=p.posonlyargs=[]/\p.vararg=none/\p.kwonlyargs=[]/\p.kwarg=none
theorem QhQ {M:Model}{A:Around}{E:Value->Shared->Prop}{s:Shared}{dv:Value}{ds:List Value}{Q:Option (Array Value)->Shared->Prop}
  (h:(dv=.none/\ds=[])∨Ex3 λ t o n=>And3 (dv=.ref t) (s.heap.get? t=some o) (o.data=.seq ds.toArray n)) (hQ:∀ it:Option (Array Value),(it.getD #[]).toList=ds->Q it s):wpAny M A (seqItems? dv) Q E s:=by
 rcases h with ⟨h1,h2⟩ | ⟨t,o,n,h1,g,d⟩
 ·refine h1.substr ?_;exact wpAny_bind (wpAny_pure (wpAny_pure (hQ none (by refine h2.substr ?_;rfl))))
 ·refine h1.substr ?_;exact wpAny_seqItems g d (hQ (some ds.toArray) rfl)
theorem Qir {M:Model}{A:Around}{s:Shared}{α β:Type}{Q:β->Shared->Prop}{E}{c1 c2:Bool}{T1 T2:Sem β}{loop:Sem α}{G:α->Sem β}{v:α}(h1:c1=false) (h2:c2=false) (hl:loop=pure v) (h:wpAny M A (G v) Q E s):
  wpAny M A (if c1=true then T1 else if c2=true then T2 else loop >>= G) Q E s:=by
 subst h1 h2 hl;exact h
theorem Qn6 {M:Model}{A:Around}{s:Shared}{α β:Type}{Q:β->Shared->Prop}{E}{f:α->Sem β}{a:α}(h:wpAny M A (f a) Q E s):wpAny M A (pure a >>= f) Q E s:=h
theorem Qki {xs:List Str}{us ds:List Value}(nd:xs.Nodup) (hu:us.length<=xs.length) (hd:ds.length<=xs.length) (hs:xs.length<=us.length+ds.length) (i:Nat) (x:Str) (e:xs[i]?=some x):
  (((xs.drop (xs.length - ds.length)).zip ds).foldl Qlr (xs.zip us)).lookup x=(us++ds.drop (ds.length - (xs.length - us.length)))[i]?:=by
 rw [QfP];refine (Qcm nd e).substr ?_
 by_cases hi:i<us.length
 ·refine (List.getElem?_append_left hi).substr ?_;refine (List.getElem?_eq_getElem hi).substr ?_;rfl
 ·have hi:=Nat.le_of_not_lt hi
  refine (List.getElem?_append_right hi).substr ?_;refine (List.getElem?_eq_none hi).substr ?_;refine (List.getElem?_drop).substr ?_;refine (Qcm (i:=i - (xs.length - ds.length)) (nd.sublist (List.drop_sublist ..)) (by simp only [List.getElem?_drop,(Nat.add_sub_cancel' (Nat.sub_le_of_le_add (Nat.le_trans hs (Nat.add_le_add_right hi _))))];exact e)).substr ?_
  exact congrArg (ds[·]?) (by rw [Nat.sub_sub_right _ hd,Nat.sub_sub_right _ hu,<- Nat.sub_add_comm (Nat.add_comm .. ▸ hs),Nat.add_assoc,Nat.add_sub_cancel' hi,Nat.add_comm])
theorem QkO {xs:List Str}{us:List Value}(nd:xs.Nodup) {k:Nat}(hk:k<=us.length):(!((xs.take k).filter λ n=>((xs.zip us).lookup n).isNone).isEmpty)=false:=by
 rw [List.filter_eq_nil_iff.mpr λ n hn=>?_];rfl
 obtain ⟨i,hi,e⟩:=List.mem_iff_getElem.mp hn
 have hl:=Nat.lt_of_lt_of_le hi (List.length_take_le ..)
 rw [List.getElem_take] at e
 refine (Qcm nd (e▸List.getElem?_eq_getElem _)).symm▸?_;refine (List.getElem?_eq_getElem (Nat.lt_of_lt_of_le hl hk)).substr ?_
 exact nofun
theorem Qcp {s:Shared}{fd:FuncData}{us:List Value}{ds:List Value}(hp:Qbr fd.params) (nd:(fd.params.args.map (·.arg)).Nodup)
  (hdef:(fd.defaults=.none/\ds=[])∨Ex3 λ t o n=>And3 (fd.defaults=.ref t) (s.heap.get? t=some o) (o.data=.seq ds.toArray n))
  (hu:us.length<=(fd.params.args.map (·.arg)).length) (hd:ds.length<=(fd.params.args.map (·.arg)).length) (hs:(fd.params.args.map (·.arg)).length<=us.length+ds.length):
  BindsTo s fd ⟨us,[]⟩ ((fd.params.args.map (·.arg)).zip (us++ds.drop (ds.length - ((fd.params.args.map (·.arg)).length - us.length)))):=by
 intro M A E Q hQ
 obtain ⟨nm,qn,⟨po,as,va,ko,kd,kwa,df⟩,body,scope,gl,clo,dfl,kdfl,doc,pm,an,cd,ct,bl⟩:=fd
 obtain ⟨h1,h2,h3,h4⟩:=hp
 dsimp only at h1 h2 h3 h4 nd hu hd hs hQ hdef
 subst h1 h2 h3 h4
 refine Qn6 ?_
 refine wpAny_bind (QhQ hdef λ it hit=>?_)
 subst hit
 have e0:=congrArg (λ n=>(it.getD #[]).toList.drop n) (Nat.sub_eq_zero_of_le hd)
 refine Qir (Bool.and_eq_false_imp.mpr λ z=>absurd (of_decide_eq_true z) (Nat.not_lt_of_le hu)) (QkO nd (e0▸Nat.sub_le_of_le_add hs)) (Qgi λ _ _ _=>rfl) (show wpAny M A (pure (List.filterMap _ _)) Q E s from wpAny_pure ?_)
 exact (e0▸(List.append_nil _).symm▸(Qjx (Qki nd hu hd hs) (by simp only [List.length_append,List.length_drop,Nat.sub_sub_self (Nat.sub_le_of_le_add (Nat.add_comm .. ▸ hs)),Nat.add_sub_of_le hu])).symm▸hQ)
end
section
open PySem PySem.Calls PyProof.Rows
variable {B:Bs}{fr:List PySem.Env}{A:Around}{L:Addr}{X:List Addr}{ι:List Addr}{σ:List O}{s:Shared}{env:PySem.Env}
theorem Qe2 (I:Inv B fr ι σ s.heap):T B fr A L X (alloc { cls:=.type "cell", data:=.cell none }) (Qgt (.cell none)) (λ ι _ c a=>ι[c]?=some a) ι σ s:=by
 intro _
 refine wpAny_alloc ?_
 generalize hob:({ cls:=.type "cell", data:=.cell none }:Obj)=ob
 exact ⟨σ.length,σ++[O.cell none],ι++[s.heap.objs.size],rfl,(Go.push (λ b o e=>Heap.get?_push_of_some _ e) (Qao s.heap)).wide (by simp),I.new (o:=O.cell none) (λ b o e=>Heap.get?_push_of_some _ e) (Qao s.heap) ⟨ob,none,(Heap.get?_push_size _ (by refine hob.symm.substr ?_;rfl)),by exact congrArg _ (hob).symm,trivial,rfl⟩,QfB I _,⟨rfl,rfl,rfl⟩⟩
noncomputable def QeM (ι:List Addr) (sc:Scope) (cells:List (Str×Addr)) (ρ:Env) (P:Str->Prop):Prop:=
 ∀ x i,P x->Qaf sc x=some i->Ex2 λ c ci=>And3 (cells.lookup x=some c) (ρ[i]?=some (some (.ref ci))) (ι[ci]?=some c)
theorem QcS {i:Nat}{v:V}{ρ:Env}(h:i<ρ.length):Qaq i v ρ=M.ret (ρ.set i (some v)):=by exact if_pos h
theorem Qkf {sc:Scope}(hkk:∀ q∈sc.names,q.2=.cell->kindOf sc q.1=some .cell) {f:Str×NameKind->List (Str×Addr)->Sem (ForInStep (List (Str×Addr)))}
  (hf:∀ name kind cells,f (name,kind) cells=if kind==.cell then (do let a <- alloc { cls:=.type "cell", data:=.cell none };pure (.yield ((name,a)::cells))) else pure (.yield cells)):
  ∀ {r:List (Str×NameKind)}{cs:List Nat}{acc:List (Str×Addr)}{ρ:Env}{P:Str->Prop}{ι:List Addr}{σ:List O}{s:Shared},
  (∀ q∈r,q∈sc.names)->((r.filter (·.2==.cell)).mapM λ q=>Qaf sc q.1)=some cs->ρ.length=sc.names.length->QeM ι sc acc ρ P->Inv B fr ι σ s.heap →
  T B fr A L X (forIn r acc f) (entCells cs ρ) (λ ι _ ρ' cells=>ρ'.length=ρ.length/\QeM ι sc cells ρ' (λ x=>P x∨(x,NameKind.cell)∈r)/\∀ x i,Qaf sc x=some i->kindOf sc x=some .local->ρ'[i]?=ρ[i]?) ι σ s
 | [],cs,acc,ρ,P,ι,σ,s,_,hcs,_,hc,I=>by
  simp at hcs;subst hcs
  exact T.ret rfl I ⟨rfl,λ x i h hi=>hc x i (h.elim id λ m=>by cases m) hi,λ _ _ _ _=>rfl⟩
 | (n,k)::r,cs,acc,ρ,P,ι,σ,s,hr,hcs,hlen,hc,I=>by
  simp only [List.forIn_cons,hf]
  by_cases hk:k=.cell
  ·subst hk
   rw [List.filter_cons_of_pos (by rfl),List.mapM_cons] at hcs
   obtain ⟨i,hi,hcs⟩:=Option.bind_eq_some_iff.mp hcs
   obtain ⟨is,his,hcs⟩:=Option.bind_eq_some_iff.mp hcs
   obtain rfl:=Option.some.inj hcs
   refine Qar hi λ kk g1 g2 g3=>?_
   have hil:i<ρ.length:=by refine hlen.substr ?_;exact g3
   refine (if_pos (by rfl)).substr ?_
   simp only [bind_assoc,pure_bind,entCells]
   refine T.bind (Qe2 I) λ c a ι₁ σ₁ s₁ _ go₁ I₁ ha _=>?_
   simp only [QcS hil,M.ret_bind]
   have ih:=Qkf hkk hf (r:=r) (cs:=is) (acc:=(n,a)::acc) (ρ:=ρ.set i (some (.ref c))) (P:=λ x=>P x∨x=n) (λ q m=>hr q (.tail _ m)) his (by exact List.length_set.trans hlen) (λ x j hx hj=>?_) I₁
   ·refine ih.mon λ ι' h ρ' cells ⟨q1,q2,q3⟩=>⟨by simp only [q1,List.length_set],λ x j hx hj=>q2 x j ?_ hj,λ x j hj hjk=>(q3 x j hj hjk).trans ?_⟩
    ·rcases hx with hx | hx
     ·exact .inl (.inl hx)
     ·rcases List.mem_cons.mp hx with e | hx
      ·cases e;exact .inl (.inr rfl)
      ·exact .inr hx
    ·refine List.getElem?_set_ne λ e=>?_
     subst e
     have:=Qba hj hi
     clear ih;subst this
     have:=hkk _ (hr _ (.head _)) rfl
     replace hjk:=this.symm.trans hjk;contradiction
   ·by_cases e:x=n
    ·subst e
     rw [hi] at hj;obtain rfl:=Option.some.inj hj
     exact ⟨a,c,by simp,by exact List.getElem?_set_self hil,ha⟩
    ·obtain ⟨c',ci,e1,e2,e3⟩:=hc x j (hx.elim id λ z=>absurd z e) hj
     refine ⟨c',ci,?_,?_,QaR go₁.pre e3⟩
     ·simp only [List.lookup_cons,beq_eq_false_iff_ne.mpr e];exact e1
     ·rw [List.getElem?_set_ne λ z=>?_]
      ·exact e2
      ·clear e3 e2 e1 ha I₁ go₁ hil g3 g2 g1 his;subst z;exact e (Qba hj hi)
  ·have hkb:(k==NameKind.cell)=false:=beq_eq_false_iff_ne.mpr hk
   rw [List.filter_cons_of_neg (by simp [hkb])] at hcs
   refine hkb.substr ?_;rw [if_neg (by decide),pure_bind]
   refine (Qkf hkk hf (r:=r) (P:=P) (λ q m=>hr q (.tail _ m)) hcs hlen hc I).mon λ ι' h ρ' cells ⟨q1,q2,q3⟩=>⟨q1,λ x j hx hj=>q2 x j (hx.imp id λ m=>?_) hj,q3⟩
   rcases List.mem_cons.mp m with e | m
   ·clear hj hx q3 q2 q1 hkb I hc hlen hcs hr hf hkk;obtain ⟨rfl,rfl⟩:=Prod.mk.inj e;exact absurd rfl hk
   ·exact m
theorem QhC {cs:List Nat}(hX:env.locals∈X) {f:Str×Value->PUnit->Sem (ForInStep PUnit)}(hf:∀ n v u,f (n,v) u=(do storeName env n v;pure (.yield ⟨⟩))):
  ∀ {xs:List Str}{ps:List Nat}{us:List Value}{Vs:List V}{ρ:Env}{ι:List Addr}{σ:List O}{s:Shared},
  (∀ (j:Nat) x i,xs[j]?=some x->ps[j]?=some i->Qaf env.scope x=some i/\((cs.contains i=true/\kindOf env.scope x=some .cell)∨(cs.contains i=false/\kindOf env.scope x=some .local)))->xs.length=ps.length →
  FrameRel B ι s.heap env ρ->Inv B fr ι σ s.heap->Vals B ι s.heap Vs us →
  T B fr A L X (forIn (xs.zip us) ⟨⟩ f) (Qa2 cs ps Vs ρ) (λ ι h ρ' _=>FrameRel B ι h env ρ') ι σ s
 | [],ps,us,Vs,ρ,ι,σ,s,_,hl,F,I,hv=>by
  cases ps with
  | cons=>contradiction
  | nil=>
   cases Vs with
   | nil=>exact T.ret rfl I F
   | cons=>exact T.stuck
 | x::xs,ps,us,Vs,ρ,ι,σ,s,h,hl,F,I,hv=>by
  cases ps with
  | nil=>contradiction
  | cons i ps=>
   cases Vs with
   | nil=>exact T.stuck
   | cons V0 Vs=>
    obtain ⟨v,r,rfl,h1,h2⟩:=hv
    simp only [List.zip_cons_cons,List.forIn_cons,hf]
    simp
    have zq:=h 0 x i rfl rfl
    have hb:T B fr A L X (storeName env x v) (if cs.contains i then Qa6 i V0 ρ else Qaq i V0 ρ) (λ ι h ρ' _=>FrameRel B ι h env ρ') ι σ s:=by
     rcases zq.2 with ⟨q,k⟩ | ⟨q,k⟩
     ·refine (if_pos q).substr ?_
      exact T.wide (X:=[]) (by simp) (Qdm (by simp) zq.1 k F I h1)
     ·refine (if_neg (by refine q.substr ?_;decide)).substr ?_
      exact Qdl hX zq.1 k F I h1
    refine T.bind hb λ ρ' _ ι₁ σ₁ s₁ _ g₁ I₁ r₁ _=>?_
    exact QhC hX hf (λ j y k hy hk=>h (j+1) y k hy hk) (by simpa using hl) r₁ I₁ (h2.mono g₁ I.tabs.nt)
theorem QcV {sc:Scope}:∀ {l:List (Str×NameKind)}{cs:List Nat},(l.mapM λ q=>Qaf sc q.1)=some cs->∀ i∈cs,∃ q∈l,Qaf sc q.1=some i
 | [],cs,h,i,m=>by simp at h;subst h;contradiction
 | q::r,cs,h,i,m=>by
  replace h:=List.mapM_cons.symm.trans h
  refine byK λ Pz kz=>?_;obtain ⟨j,hj,h⟩:=Option.bind_eq_some_iff.mp h
  obtain ⟨js,hjs,h⟩:=Option.bind_eq_some_iff.mp h
  injection h with h;subst h
  clear h;refine kz ?_;clear h kz;rcases List.mem_cons.mp m with rfl | m
  ·exact ⟨q,.head _,hj⟩
  ·obtain ⟨p,hp,e⟩:=QcV hjs i m
   exact ⟨p,.tail _ hp,e⟩
theorem Qfx {sc:Scope}:∀ {l:List (Str×NameKind)}{cs:List Nat},(l.mapM λ q=>Qaf sc q.1)=some cs->∀ q∈l,∃ i∈cs,Qaf sc q.1=some i
 | [],cs,h,q,m=>by contradiction
 | p::r,cs,h,q,m=>by
  replace h:=List.mapM_cons.symm.trans h
  refine byK λ Pz kz=>?_;obtain ⟨j,hj,h⟩:=Option.bind_eq_some_iff.mp h
  obtain ⟨js,hjs,h⟩:=Option.bind_eq_some_iff.mp h
  obtain rfl:=Option.some.inj h
  refine kz ?_;rcases List.mem_cons.mp m with rfl | m
  ·exact ⟨j,.head _,hj⟩
  ·obtain ⟨i,hi,e⟩:=Qfx hjs q m
   exact ⟨i,.tail _ hi,e⟩
theorem QfQ {sc:Scope}{clo:List (Str×Addr)}{ρ0:Env}{cs ps:List Nat}{xs:List Str}{us:List Value}{Vs:List V}{qual:Str}{a:Addr}{code:Value}(hk:sc.kind=.function)
  (hclo:QeM ι sc clo ρ0 (λ x=>kindOf sc x=some .free)) (hno:QdD sc ρ0) (hlen:ρ0.length=sc.names.length) (hkk:∀ q∈sc.names,q.2=.cell->kindOf sc q.1=some .cell)
  (hcs:((sc.names.filter (·.2==.cell)).mapM λ q=>Qaf sc q.1)=some cs)
  (hps:∀ (j:Nat) x i,xs[j]?=some x->ps[j]?=some i->Qaf sc x=some i/\(kindOf sc x=some .local∨kindOf sc x=some .cell)) (hl:xs.length=ps.length) (I:Inv B fr ι σ s.heap) (hv:Vals B ι s.heap Vs us):
  T B fr A L [s.heap.objs.size] (newFunctionEnv sc mainGlobals clo (xs.zip us) qual (some a) code none builtinsNs) (M.bind (entCells cs ρ0) λ ρ=>Qa2 cs ps Vs ρ)
   (λ ι h ρ env=>∃ cells,env=newEnv sc s.heap.objs.size mainGlobals cells qual (some a) code none builtinsNs/\FrameRel B ι h env ρ) ι σ s:=by
 intro hb
 simp only [newFunctionEnv,Option.isSome_none,Bool.false_eq_true,if_false]
 refine wpAny_bind (wpAny_alloc ?_)
 generalize hob:({ cls:=.type "frame", data:=.dict #[] }:Obj)=ob
 have kp:∀ b o,s.heap.get? b=some o->(s.heap.push ob).get? b=some o:=λ b o e=>Heap.get?_push_of_some _ e
 have new:=Qao s.heap
 have hg:(s.heap.push ob).get? s.heap.objs.size=some ob:=Heap.get?_push_size _ (by refine hob.symm.substr ?_;rfl)
 have I₁:Inv B fr ι σ (s.heap.push ob):=I.ext kp
 have g₁:Go B (frs fr) [s.heap.objs.size] ι s.heap ι (s.heap.push ob):=Go.ext kp
 generalize hL:s.heap.objs.size=L0 at *
 have hside:∀ (j:Nat) x i,xs[j]?=some x->ps[j]?=some i->Qaf sc x=some i/\((cs.contains i=true/\kindOf sc x=some .cell)∨(cs.contains i=false/\kindOf sc x=some .local)):=λ j x i hx hi=>by
  obtain ⟨h1,h2⟩:=hps j x i hx hi
  refine ⟨h1,?_⟩
  refine Qar h1 λ k e1 e2 _=>?_
  rcases h2 with h2 | h2
  ·right
   refine ⟨?_,h2⟩
   cases q:cs.contains i with
   | false=>rfl
   | true=>
    obtain ⟨p,hp,e⟩:=QcV hcs i (by simpa using q)
    have:=Qba e h1
    subst this
    have:=hkk p (List.mem_filter.mp hp).1 (beq_iff_eq.mp (List.mem_filter.mp hp).2)
    replace this:=h2.symm.trans this;contradiction
  ·left
   refine ⟨?_,h2⟩
   rw [h2] at e2;obtain rfl:=Option.some.inj e2
   refine byK λ Pz kz=>?_;obtain ⟨i',hi',e⟩:=Qfx hcs (x,.cell) (List.mem_filter.mpr ⟨List.mem_of_getElem? e1,rfl⟩)
   rw [h1] at e;obtain rfl:=Option.some.inj e
   refine kz ?_;simpa using hi'
 have t:T B fr A L [L0] (do
   let cells <- forIn sc.names clo λ (x:Str×NameKind) (cells:List (Str×Addr))=>
    (if x.2==NameKind.cell then (do let a <- alloc { cls:=.type "cell", data:=.cell none };pure (ForInStep.yield ((x.1,a)::cells))) else pure (ForInStep.yield cells):Sem (ForInStep (List (Str×Addr))))
   forIn (xs.zip us) PUnit.unit λ (x:Str×Value) (_:PUnit)=>(do storeName (newEnv sc L0 mainGlobals cells qual (some a) code none builtinsNs) x.1 x.2;pure (ForInStep.yield PUnit.unit):Sem (ForInStep PUnit))
   pure (newEnv sc L0 mainGlobals cells qual (some a) code none builtinsNs)) (M.bind (entCells cs ρ0) λ ρ=>Qa2 cs ps Vs ρ)
   (λ ι h ρ env=>∃ cells,env=newEnv sc L0 mainGlobals cells qual (some a) code none builtinsNs/\FrameRel B ι h env ρ) ι σ { s with heap:=s.heap.push ob }:=by
  refine T.bind0 (Qkf hkk (λ _ _ _=>rfl) (λ q m=>m) hcs hlen hclo I₁) λ ρ cells ι₂ σ₂ s₂ _ g₂ I₂ ⟨r1,r2,r3⟩ _=>?_
  have hLf:L0 ∉ frs fr:=λ m=>by
   refine QaF I m λ o e _=>?_
   replace e:=new.symm.trans e;exact nos e
  have F:FrameRel B ι₂ s₂.heap (newEnv sc L0 mainGlobals cells qual (some a) code none builtinsNs) ρ:=by
   refine ⟨hk,rfl,rfl,r1.trans hlen,(g₂.get hg (I.new_nin new) (λ q m z=>I.notab_new new q m z.symm) (.inr ⟨by simp,.inr hLf⟩)).2,I.base_new new,λ q m z=>I.notab_new new q m z.symm,⟨λ _=>none,⟨ob,#[],0,(g₂.get hg (I.new_nin new) (λ q m z=>I.notab_new new q m z.symm) (.inr ⟨by simp,.inr hLf⟩)).1,by exact congrArg _ (hob).symm,λ e he=>absurd he (by simp),λ _=>rfl⟩,λ x i hi hkl=>?_⟩,λ x i hi hkc=>?_⟩
   ·have:=(r3 x i hi hkl).trans (hno x i hi (by refine (show kindOf sc x=_ from hkl).substr ?_;trivial))
    simp only [this]
   ·refine r2 x i ?_ hi
    rcases hkc with hkc | hkc
    ·right
     refine Qar hi λ k e1 e2 _=>?_
     rw [show kindOf (newEnv sc L0 mainGlobals cells qual (some a) code none builtinsNs).scope x=some .cell from hkc] at e2;obtain rfl:=Option.some.inj e2
     exact List.mem_of_getElem? e1
    ·exact .inl hkc
  have hbn:T B fr A L [L0] (forIn (xs.zip us) PUnit.unit λ (x:Str×Value) (_:PUnit)=>(do storeName (newEnv sc L0 mainGlobals cells qual (some a) code none builtinsNs) x.1 x.2;pure (ForInStep.yield PUnit.unit):Sem (ForInStep PUnit)))
    (Qa2 cs ps Vs ρ) (λ ι h ρ' _=>FrameRel B ι h (newEnv sc L0 mainGlobals cells qual (some a) code none builtinsNs) ρ') ι₂ σ₂ s₂:=by
   refine QhC (env:=newEnv sc L0 mainGlobals cells qual (some a) code none builtinsNs) (cs:=cs) (.head _) (λ _ _ _=>rfl) (λ j x i hx hi=>?_) hl F I₂ (hv.mono (g₁.trans (g₂.wide (by simp))) I.tabs.nt)
   exact hside j x i hx hi
  intro hb2
  refine wpAny_bind (T.use hbn hb2 (λ ρ' _ ι₃ σ₃ s₃ q g₃ I₃ F₃ sm=>wpAny_pure ⟨ρ',σ₃,ι₃,q,g₃,I₃,⟨cells,rfl,F₃⟩,sm⟩) λ v s' z=>z)
 exact wpAny_mono (t hb) (λ v s'' hq=>TQ.up (s':={ s with heap:=s.heap.push ob }) g₁ ⟨rfl,rfl,rfl⟩ rfl hq) λ e s'' he=>TE.up (s':={ s with heap:=s.heap.push ob }) g₁ ⟨rfl,rfl,rfl⟩ rfl he
end
section
open PySem PySem.Calls PyProof.Rows
variable {B:Bs}{fr:List PySem.Env}{A:Around}{L:Addr}{X:List Addr}{ι:List Addr}{σ:List O}{s:Shared}{env:PySem.Env}
structure FnAt (B:Bs) (f:Fn) (a:Addr) (o:Obj) (fd:FuncData) (body:List Stmt):Prop where
 get:B.g.get? a=some o
 data:o.data=.func fd
 bod:fd.body=.stmts body
 kind:fd.scope.kind=.function
 co:fd.scope.isCoroutine=false
 gen:fd.scope.isGenerator=false
 glob:fd.globals=mainGlobals
 blt:fd.builtins=builtinsNs
 clo:fd.closure=[]
 code:B.g.CodeRec fd.code fd.qualname
 tab:Ex2 λ c P=>And3 (fd.code=.ref c) ((c,P)∈B.tabs) (B.tq P=(fd.qualname++(".<locals>." : Str))++("<lambda>" : Str))
 pars:Qbr fd.params
 nodup:(fd.params.args.map (·.arg)).Nodup
 dfl:(fd.defaults=.none/\f.dfl=[])∨Ex3 λ t its n=>And3 (fd.defaults=.ref t) (B.g.get? t=some { cls:=.type "tuple", data:=.seq its n }) (Vals B [] B.g f.dfl its.toList)
 dlen:f.dfl.length<=(fd.params.args.map (·.arg)).length
 ps:(fd.params.args.map (·.arg)).mapM (Qaf fd.scope)=some f.ps
 n:f.n=fd.scope.names.length
 cells:((fd.scope.names.filter (·.2==.cell)).mapM λ q=>Qaf fd.scope q.1)=some f.cells
 bodyc:f.body=body.map (compS 30 fd.scope)
 kinds:∀ q∈fd.scope.names,kindOf fd.scope q.1=some q.2
 nofree:∀ q∈fd.scope.names,q.2≠.free
 par:∀ x∈fd.params.args.map (·.arg),kindOf fd.scope x=some .local∨kindOf fd.scope x=some .cell
structure FnsOk (B:Bs):Prop where
 lim:B.g.NoLimit
 fn:∀ k f,B.cx.fns k=some f->Ex4 λ a o fd body=>B.fa k=some a/\FnAt B f a o fd body
theorem Vals.base (I:Inv B fr ι σ s.heap) {v:List V}{u:List Value}(x:Vals B [] B.g v u) (T:QbT B B.g):Vals B ι s.heap v u:=
 Vals.mono (F:=[]) (X:=[]) ⟨List.nil_prefix,λ a m _=>I.fresh a m,λ b o e=>⟨o,I.keep b o e,λ _ _=>.refl ..⟩⟩ T x
theorem Vals.drop {ι:List Addr}{h:Heap}:∀ {l:List V}{its:List Value}(k:Nat),Vals B ι h l its->Vals B ι h (l.drop k) (its.drop k)
 | [],_,k,e=>by subst e;rw [List.drop_nil,List.drop_nil];rfl
 | y::ys,_,0,e=>e
 | y::ys,_,k+1,e=>by
  obtain ⟨v,r,rfl,f,q⟩:=e
  exact Vals.drop k q
theorem Qd2 {i:Nat}{v:V}{ρ:Env}{σ:List O}{a b:V}{c:List O}:Qaq i v ρ σ≠.exc a b c:=by
 unfold Qaq;split<;>(intro h;contradiction)
set_option tactic.hygienic true in
theorem Qd3 {i:Nat}{v:V}{ρ:Env}{σ:List O}{a b:V}{c:List O}:Qa6 i v ρ σ≠.exc a b c:=by
 unfold Qa6
 generalize ρ[i]?=z
 rcases z with _ | _ | w<;>first | (intro h;contradiction;done) | skip
 cases w<;>first | (intro h;contradiction;done) | skip
 rename_i k
 dsimp only
 unfold M.bind getO
 cases q:σ[k]? with
 | none=>intro h;contradiction
 | some o=>
  cases o<;>first | (intro h;contradiction;done) | skip
  rename_i w
  have:k<σ.length:=(List.getElem?_eq_some_iff.mp q).1
  simp only [Qcg,if_pos this]
  intro h;contradiction
theorem Qcq {cs:List Nat}:∀ {ps:List Nat}{Vs:List V}{ρ:Env}{σ:List O},Qa2 cs ps Vs ρ σ≠.bad->ps.length=Vs.length
 | [],[],_,_,_=>rfl
 | [],_::_,_,_,h=>absurd rfl h
 | _::_,[],_,_,h=>absurd rfl h
 | i::ps,v::vs,ρ,σ,h=>by
  have h:M.bind (if cs.contains i then Qa6 i v ρ else Qaq i v ρ) (λ ρ=>Qa2 cs ps vs ρ) σ≠.bad:=h
  have nx:∀ a b c,(if cs.contains i then Qa6 i v ρ else Qaq i v ρ) σ≠.exc a b c:=λ a b c=>by
   split
   ·exact Qd3
   ·exact Qd2
  cases q:(if cs.contains i then Qa6 i v ρ else Qaq i v ρ) σ with
  | ok ρ' σ'=>rw [Qan q] at h;simp [Qcq h]
  | exc a b c=>exact absurd q (nx a b c)
  | bad=>exact absurd (by unfold M.bind;refine q.substr ?_;rfl) h
theorem Qei {cs:List Nat}:∀ {ps:List Nat}{Vs:List V}{ρ:Env}{σ:List O}{a b:V}{c:List O},Qa2 cs ps Vs ρ σ≠.exc a b c
 | [],[],_,_,_,_,_=>by intro h;contradiction
 | [],_::_,_,_,_,_,_=>by intro h;contradiction
 | _::_,[],_,_,_,_,_=>by intro h;contradiction
 | i::ps,v::vs,ρ,σ,_,_,_=>by
  show M.bind (if cs.contains i then Qa6 i v ρ else Qaq i v ρ) (λ ρ=>Qa2 cs ps vs ρ) σ≠_
  cases q:(if cs.contains i then Qa6 i v ρ else Qaq i v ρ) σ with
  | ok ρ' σ'=>refine (Qan q).substr ?_;exact Qei
  | exc a b c=>
   exfalso
   revert q
   split
   ·exact Qd3
   ·exact Qd2
  | bad=>intro h;unfold M.bind at h;rw [q] at h;contradiction
theorem Qc7:∀ {cs:List Nat}{ρ:Env}{σ:List O},(∀ i∈cs,i<ρ.length)->Ex2 λ ρ' σ'=>entCells cs ρ σ=.ok ρ' σ'
 | [],ρ,σ,_=>⟨ρ,σ,rfl⟩
 | i::r,ρ,σ,h=>by
  obtain ⟨ρ',σ',e⟩:=Qc7 (cs:=r) (ρ:=ρ.set i (some (.ref σ.length))) (σ:=σ++[.cell none]) λ j hj=>by simp only [List.length_set];exact h j (.tail _ hj)
  refine ⟨ρ',σ',?_⟩
  refine e▸?_
  show M.bind (Qaq i (.ref σ.length) ρ) (λ ρ=>entCells r ρ) (σ++[.cell none])=_
  refine (QcS (h i (.head _))).substr ?_
  rfl
theorem Go.wideF {F F' X ι ι':List Addr}{h h':Heap}(x:Go B F X ι h ι' h') (k:∀ a∈F,a∈F'):Go B F' X ι h ι' h':=
 ⟨x.pre,x.newf,λ b o e=>let ⟨o',e',f⟩:=x.step b o e;⟨o',e',λ n t=>
  ⟨λ q=>(f n t).1 (q.imp id λ z=>⟨z.1,z.2.imp id λ w m=>w (k b m)⟩),(f n t).2⟩⟩⟩
theorem Inv.enter (I:Inv B fr ι σ s.heap) {ρ:Env}(F:FrameRel B ι s.heap env ρ) (hf:env.frame=some env.locals):Inv B (env::fr) ι σ s.heap where
 keep:=I.keep
 fresh:=I.fresh
 nodup:=I.nodup
 len:=I.len
 objs:=I.objs
 frames:=λ e m=>by
  rcases List.mem_cons.mp m with q | m
  ·refine byK λ Pz kz=>?_;obtain ⟨mm,⟨o,es,ep,g,d,k,_⟩,_⟩:=F.ns
   refine kz ?_;refine q.substr ?_
   exact ⟨by refine F.kind.substr ?_;decide,env.locals,o,es,ep,hf,F.Lg,F.Lni,F.Lt,k,g,d⟩
  ·exact I.frames e m
 tabs:=I.tabs
 notab:=I.notab
theorem Inv.leave (I:Inv B (env::fr) ι σ s.heap):Inv B fr ι σ s.heap where
 keep:=I.keep
 fresh:=I.fresh
 nodup:=I.nodup
 len:=I.len
 objs:=I.objs
 frames:=λ e m=>I.frames e (.tail _ m)
 tabs:=I.tabs
 notab:=I.notab
theorem QdE {α β:Type}{f:α->Option β}:∀ {l:List α}{r:List β},l.mapM f=some r->l.length=r.length
 | [],r,h=>by simp at h;subst h;rfl
 | x::l,r,h=>by
  replace h:=List.mapM_cons.symm.trans h
  obtain ⟨y,_,h⟩:=Option.bind_eq_some_iff.mp h
  obtain ⟨ys,hys,h⟩:=Option.bind_eq_some_iff.mp h
  obtain rfl:=Option.some.inj h
  simp [QdE hys]
theorem QdF {α β:Type}{f:α->Option β}:∀ {l:List α}{r:List β},l.mapM f=some r->∀ (j:Nat) x y,l[j]?=some x->r[j]?=some y->f x=some y
 | [],r,h,j,x,y,hx,_=>by trivial
 | z::l,r,h,j,x,y,hx,hy=>by
  replace h:=List.mapM_cons.symm.trans h
  obtain ⟨w,hw,h⟩:=Option.bind_eq_some_iff.mp h
  obtain ⟨ys,hys,h⟩:=Option.bind_eq_some_iff.mp h
  obtain rfl:=Option.some.inj h
  cases j with
  | zero=>simp at hx hy;subst hx hy;exact hw
  | succ j=>exact QdF hys j x y (by simpa using hx) (by simpa using hy)
noncomputable def CR (B:Bs) (fr:List PySem.Env) (L:Addr) (r:RS V) (ι:List Addr) (s:Shared) (q:Result) (s':Shared):Prop:=match q with
 | .ok (.ret v)=>TQ B fr [] r (VR B) ι s v s'
 | .ok _=>False
 | .error e=>TE B fr L [] r ι s e s'
theorem Qp0 {K:W.Frag}{D U:Nat}{call:V->List V->M V}{f:Fn}{a:Addr}{o:Obj}{fd:FuncData}{body:List Stmt}{Vs:List V}{us:List Value}(hlim:B.g.NoLimit) (N:NamesOk B) (FA:FnAt B f a o fd body)
  (Z:∀ env,Al B K (env::fr) (D+1) (U+163) call) (hD:D<recursionLimit) (am:Amb fr D U A) (I:Inv B fr ι σ s.heap) (hv:Vals B ι s.heap Vs us):
  Qbi B.cx call f Vs σ≠.bad->codeAny (model B.prog B.w) A (.call (.ref a) ⟨us,[]⟩) (CR B fr L (Qbi B.cx call f Vs σ) ι s) s:=by
 intro hb
 unfold Qbi at hb ⊢
 have hpl:=QdE FA.ps
 by_cases hlt:f.ps.length<Vs.length
 ·rw [if_pos hlt] at hb;exact absurd rfl hb
 rw [if_neg hlt] at hb ⊢
 generalize hall:Vs++f.dfl.drop (f.dfl.length - (f.ps.length - Vs.length))=all at hb ⊢
 refine byK λ Pz kz=>?_;obtain ⟨ds,hdef,hds⟩:∃ ds:List Value,((fd.defaults=.none/\ds=[])∨Ex3 λ t o n=>And3 (fd.defaults=.ref t) (s.heap.get? t=some o) (o.data=.seq ds.toArray n))/\Vals B ι s.heap f.dfl ds:=by
  rcases FA.dfl with ⟨h1,h2⟩ | ⟨t,its,n,h1,h2,h3⟩
  ·exact ⟨[],.inl ⟨h1,rfl⟩,by refine h2.substr ?_;rfl⟩
  ·exact ⟨its.toList,.inr ⟨t,_,n,h1,I.keep _ _ h2,by rfl⟩,Vals.base I h3 N.nt⟩
 have hul:=hv.len
 have hdl:=hds.len
 have hcl:∀ i∈f.cells,i<(List.replicate f.n (none:Option V)).length:=λ i m=>by
  obtain ⟨q,_,e⟩:=QcV FA.cells i m
  refine Qar e λ _ _ _ g=>?_
  refine List.length_replicate.substr ?_;refine FA.n.substr ?_;exact g
 obtain ⟨ρ1,σ1,hent⟩:=Qc7 (σ:=σ) hcl
 have hb1:=hb
 rw [Qan hent] at hb1
 have hbl:=Qcq (Qam hb1)
 have hal:all.length=Vs.length+(f.dfl.length - (f.dfl.length - (f.ps.length - Vs.length))):=by refine hall.symm.substr ?_;simp
 have hvall:Vals B ι s.heap all (us++ds.drop (ds.length - ((fd.params.args.map (·.arg)).length - us.length))):=by
  simp only [<- hall,hdl,hul,hpl]
  exact Vals.app hv (hds.drop _)
 have e1:(M.bind (entCells f.cells (List.replicate f.n none)) λ ρ=>M.bind (Qa2 f.cells f.ps all ρ) λ ρ=>M.bind (Qau (Mine.ex B.cx call 20 20) f.body ρ) λ p=>flV p.1)=
   M.bind (M.bind (entCells f.cells (List.replicate f.n none)) λ ρ=>Qa2 f.cells f.ps all ρ) λ ρ=>M.bind (Qau (Mine.ex B.cx call 20 20) f.body ρ) λ p=>flV p.1:=by
  simp only [M.assoc]
 refine kz ?_;rw [e1] at hb ⊢
 refine codeAny_call_function (fd:=fd) (body:=body) (by have:=am.depth;lia) (I.keep _ _ FA.get) FA.data FA.co FA.gen FA.bod (FA.code.keeps I.keep)
  (Qcp (ds:=ds) FA.pars FA.nodup hdef (by lia) (by refine hdl.substr ?_;exact FA.dlen) (by omega) _ _ _ _ ?_)
 simp only [FA.glob,FA.blt,FA.clo]
 have hno:∀ (x:Str) i,Qaf fd.scope x=some i->(List.replicate f.n (none:Option V))[i]?=some none:=λ x i hi=>by
  refine Qar hi λ _ _ _ g=>?_
  refine (List.getElem?_replicate).substr ?_;refine (if_pos (by simp only [FA.n];exact g)).substr ?_;rfl
 have tn:=QfQ (A:=A.in1) (L:=L) (qual:=fd.qualname ++ ".<locals>.") (a:=a) (code:=fd.code) (clo:=[]) (ρ0:=List.replicate f.n none) FA.kind (λ x i hx hi=>by
   refine byK λ Pz kz=>?_;refine Qar hi λ k q1 q2 _=>?_
   replace q2:=hx.symm.trans q2;obtain rfl:=Option.some.inj q2
   exact kz (absurd rfl (FA.nofree _ (List.mem_of_getElem? q1)))) (λ x i hi _=>hno x i hi) (by refine List.length_replicate.substr ?_;refine FA.n.substr ?_;rfl) (λ q m e=>by refine (FA.kinds q m).substr ?_;refine e.substr ?_;rfl) FA.cells
  (λ j x i hx hi=>⟨QdF FA.ps j x i hx hi,FA.par x (List.mem_of_getElem? hx)⟩) hpl I hvall
 have hLn:s.heap.get? s.heap.objs.size=none:=Qao s.heap
 refine T.use tn (Qam hb) (λ ρ env ι₁ σ₁ s₁ q g₁ I₁ r sm₁=>?_) λ v s' z=>?_
 ·obtain ⟨cells,rfl,F⟩:=r
  generalize henv:newEnv fd.scope s.heap.objs.size mainGlobals cells (fd.qualname ++ ".<locals>.") (some a) fd.code none builtinsNs=env at *
  have c1:env.frame=some env.locals:=by refine henv▸?_;rfl
  have c2:env.locals=s.heap.objs.size:=by refine henv▸?_;rfl
  have c3:env.scope=fd.scope:=by refine henv.symm.substr ?_;rfl
  have fe:FnEnv B (env::fr) env:=by
   obtain ⟨c,P,t1,t2,t3⟩:=FA.tab
   exact ⟨c1,⟨c,P,by refine henv▸?_;exact t1,t2,by refine henv▸?_;exact t3⟩,fr,rfl⟩
  refine ⟨hlim.keeps I₁.keep,codeAny_func ?_⟩
  rw [Qan q] at hb ⊢
  have I₂:=I₁.enter F c1
  have am':Amb (env::fr) (D+1) (U+163) { A.deeper env with units:=(A.deeper env).units+8 * (19+1) }:=by
   refine ⟨am.hand,?_,?_,?_⟩
   ·show A.frames.map (env::·)=_
    refine am.frames.substr ?_;rfl
   ·show A.depth+1<=_
    have:=am.depth;lia
   ·show A.units+3+8 * (19+1)<=_
    have:=am.units;lia
  have tb:T B (env::fr) (A.deeper env) env.locals [env.locals] (execs body env) (Qau (Mine.ex B.cx call 20 20) f.body ρ) (SR B env) ι₁ σ₁ s₁:=by
   refine (FA.bodyc).symm▸?_;refine c3▸?_
   exact Qke (d:=20) (λ st _ ρ ι σ s F I=>QjC (m:=19) (Z env) 20 (A.deeper env) 30 st env ρ ι σ s am' fe F I) F I₂
  have kF:∀ a∈frs (env::fr),a ∉ frs fr->s.heap.get? a=none:=λ b m n=>by
   obtain ⟨e,m,eb⟩:=List.mem_filterMap.mp m
   rcases List.mem_cons.mp m with rfl | m
   ·rw [c1,c2] at eb;obtain rfl:=Option.some.inj eb;exact hLn
   ·exact absurd (List.mem_filterMap.mpr ⟨e,m,eb⟩) n
  have kX:∀ a∈[env.locals],s.heap.get? a=none:=λ b m=>by refine (List.mem_singleton.mp m).substr ?_;refine c2.substr ?_;exact hLn
  have gW:Go B (frs (env::fr)) [env.locals] ι s.heap ι₁ s₁.heap:=(c2▸g₁).wideF λ a m=>by
   obtain ⟨e,m,eb⟩:=List.mem_filterMap.mp m
   exact List.mem_filterMap.mpr ⟨e,.tail _ m,eb⟩
  refine T.use tb (Qam hb) (λ p fl ι₂ σ₂ s₂ q2 g₂ I₃ r sm₂=>?_) λ v s₂ z=>?_
  ·rw [Qan q2] at hb ⊢
   obtain ⟨fl',ρ'⟩:=p
   obtain ⟨r1,r2⟩:=r
   have g:=(gW.trans g₂).drop kX kF
   clear r2 q2 tb fe c3 c2 F henv I₁ q hLn tn hno e1 hvall hal hbl hb1 hcl hdl hul hds hdef hall hlt hpl hv I am hD Z FA N hlim;cases fl'<;>cases fl<;>first | exact False.elim r1 | skip
   ·exact ⟨.none,σ₂,ι₂,rfl,g,I₃.leave,by rfl,sm₁.trans sm₂⟩
   ·exact absurd rfl hb
   ·exact ⟨_,σ₂,ι₂,rfl,g,I₃.leave,r1,sm₁.trans sm₂⟩
  ·obtain ⟨m,sp,σ₂,ι₂,hr,g₂,I₃,⟨e,rfl,hx⟩,sm₂⟩:=z
   refine wpAny_bind (Qfh am'.frames c1 I₂ g₂ I₃ hx (λ v z=>z) λ h₃ I₄ g₃ hx₃ _=>?_)
   refine Qb9 (s:={ s₂ with heap:=h₃ }) I₂ g₃ I₄ hx₃ λ h₄ I₅ g₄ hx₄=>?_
   refine ⟨m,sp,σ₂,ι₂,?_,(gW.trans g₄).drop kX kF,I₅.leave,⟨e,rfl,?_⟩,(sm₁.trans sm₂).trans ⟨rfl,rfl,rfl⟩⟩
   ·unfold M.bind;refine hr.substr ?_;rfl
   ·exact (hx₄.older g₁.older).mon λ _ z=>.inl z
 ·obtain ⟨m,sp,σ₂,ι₂,hr,_⟩:=z
  replace hr:=(Qan hent).symm.trans hr
  exact absurd hr Qei
end
section
open PySem PySem.Calls PyProof.Rows
section
variable {prog:Program}{w:World}{A:Around}{E:Value->Shared->Prop}{h:Heap}{g:Array GenState}{d:Drawn}{t:Nat}{os:OsState}
variable {nm q:Str}{C N LE:Addr}{bs:List Value}{hdct:Bool}{sn:List Str}{sub:List Value}{ab:Bool}{col:Option Bool}{dd:Option Addr}{k0 k1 k2 k3 k5:Option Value}
noncomputable abbrev Qbg (LE:Addr):List Value:=[.ref LE,.type "Exception", .type "BaseException", .type "object"]
theorem QhR {M:Model}{rest:List Value}{Q:Unit->Shared->Prop}(hC:h.get? C=some (excClassObj nm q C N bs (Qbg LE) hdct sn sub ab col dd k0 k1 k2 k3 k5 "Exception.__new__"))
  (hq:Q () ⟨h,g,d,t,os⟩):wpAny M A (checkBuiltinCall "Exception.__new__" ⟨.ref C::rest,[]⟩) Q E ⟨h,g,d,t,os⟩:=wpAny_check_new_subU (bmB:=Qbg LE) PySem.F.excBase_Exception rfl .base hC hq
theorem Qk1 {R:Result->Shared->Prop}{rest:List Value}(hC:h.get? C=some (excClassObj nm q C N bs (Qbg LE) hdct sn sub ab col dd k0 k1 k2 k3 k5 "Exception.__new__"))
  (hq:R (.ok (.ret (.ref (h.objs.size+1)))) ⟨(h.push { cls:=.type "tuple", data:=.seq rest.toArray }).push
   { cls:=.ref C,data:=.fields #[.ref h.objs.size,.none,.none,.none,.bool false,.none] },g,d,t,os⟩) (hrest:rest.length<=sizeLine):
  codeAny (model prog w) A (.builtin "Exception.__new__" ⟨.ref C::rest,[]⟩) R ⟨h,g,d,t,os⟩:=by
 have F:=PySem.F.excBase_Exception
 have hends:=F.ends
 have hcB:(Value.ref C::Qbg LE).contains (.type "Exception")=true:=by rfl
 have hcA:(Value.ref C::Qbg LE).contains (.type "AttributeError")=false:=by rfl
 have hcN:(Value.ref C::Qbg LE).contains (.type "NameError")=false:=by assumption
 refine codeAny_builtinAt F.entry ?_
 refine PySem.wpAt_bind ?_
 refine PySem.wpAt_bind (PySem.wpAt_stack λ p below=>PySem.wpAt_of_wpAny ?_)
 wp_walk
 refine PySem.wpAt_of_wpAny ?_
 refine (F.owner).symm▸?_
 repeat (first | with_reducible refine wpAny_madeHere_exc F.canon hC ?_ | with_reducible refine wpAny_loadPart_at hC ?_ | (with_reducible refine wpAny_isSubtype_exc hC ?_;first | rw [hcB] | rw [hcA] | refine (hcN).symm▸?_) | wp_step)
 show R _ _
 rw [Heap.size_push]
 exact hq
theorem QiY {K:W.Frag}{Q:Value->Shared->Prop}{rest:List Value}{fI:Addr}(X:K.In h) (hC:h.get? C=some (excClassObj nm q C N bs (Qbg LE) hdct sn sub ab col dd k0 k1 k2 k3 k5 "Exception.__new__"))
  (hi:W.findIn K (.ref C) "__init__" = some (some (.ref fI))) (hf:W.typeIn K (.ref fI)=some (.type "function")) (hrest:rest.length<=sizeLine)
  (hq:codeAny (model prog w) (A.under (.builtin "type.__call__" ⟨.ref C::rest,[]⟩)) (.call (.ref fI) ⟨.ref (h.objs.size+1)::rest,[]⟩)
   (λ r s'=>match r with | .ok (.ret v)=>v=.none/\Q (.ref (h.objs.size+1)) s' | .ok _=>False | .error e=>E e s')
   ⟨(h.push { cls:=.type "tuple", data:=.seq rest.toArray }).push { cls:=.ref C,data:=.fields #[.ref h.objs.size,.none,.none,.none,.bool false,.none] },g,d,t,os⟩):
  wpAny (model prog w) A (call (.ref C) rest) Q E ⟨h,g,d,t,os⟩:=by
 have f1:=tc_lookup
 have f2:=tc_bind (.ref C)
 refine wpAny_call (codeAny_of_tree ?_)
 show wpAny _ _ (callAny (.ref C) _) _ _ _
 repeat (any_goals (first | assumption | with_reducible refine wpAny_loadPart_at hC ?_ | wp_step))
 refine ⟨rfl,?_⟩
 refine codeAny_call_builtin_at (Code.quiet_builtin _ (by decide +kernel)) entry_typeCall (wpAny_check_type_call_sub hC ?_)
 repeat (first | with_reducible refine wpAny_loadPart_at hC ?_ | with_reducible refine wpAny_madeBy_exc hC ?_ | wp_step)
 refine codeAny_call_builtin_code (Code.quiet_builtin _ PySem.F.excBase_Exception.quiet) (QhR hC ?_)
 refine Qk1 hC ?_ hrest
 show wpAny _ _ _ _ _ ⟨(h.push { cls:=.type "tuple", data:=.seq rest.toArray }).push { cls:=.ref C,data:=.fields #[.ref h.objs.size,.none,.none,.none,.bool false,.none] },g,d,t,os⟩
 generalize hob1:({ cls:=.type "tuple", data:=.seq rest.toArray }:Obj)=ob1
 rw [hob1] at hq
 generalize hob2:({ cls:=.ref C,data:=.fields #[.ref h.objs.size,.none,.none,.none,.bool false,.none] }:Obj)=ob2
 rw [hob2] at hq
 have hget:((h.push ob1).push ob2).get? (h.objs.size+1)=some ob2:=by
  have:=Heap.get?_push_size (h.push ob1) (o:=ob2) (by refine hob2▸?_;rfl)
  rw [Heap.size_push] at this
  exact this
 refine wpAny_bind (wpAny_bind (((show ob2.cls=.ref C from by exact congrArg _ (hob2).symm)▸(W.Looks.ld hget).andThen .now:W.Looks (model prog w) ((h.push ob1).push ob2) (typeOf (.ref (h.objs.size+1))) (.ref C)).at ?_))
 refine wpAny_isSubtype_exc ((λ b o e=>Heap.get?_push_of_some _ (Heap.get?_push_of_some _ e):∀ b o,h.get? b=some o->((h.push ob1).push ob2).get? b=some o) _ _ hC) ?_
 refine ((show (Value.ref C::Qbg LE).contains (.ref C)=true from by simp)).symm▸?_;rw [if_neg (by decide)]
 refine wpAny_bind (wpAny_holding (W.special_fn (X.keeps (λ b o e=>Heap.get?_push_of_some _ (Heap.get?_push_of_some _ e):∀ b o,h.get? b=some o->((h.push ob1).push ob2).get? b=some o)) (⟨hget,(show ob2.cls=.ref C from by exact congrArg _ (hob2).symm),by refine hob2▸?_;rfl,by refine hob2▸?_;trivial⟩:W.InstAt ((h.push ob1).push ob2) (h.objs.size+1) ob2 C none) hi hf (wpAny_call (codeAny_mono hq λ r s' z=>?_))))
 rcases r with e | (v | _ | _ | _)<;>first | exact z | exact z.elim | skip
 obtain ⟨rfl,z⟩:=z
 exact wpAny_pure z
end
end
section
open PySem PySem.Calls PyProof.Rows
theorem QmQ:opaqueClassAbove (.type "Exception")=pure none:=by kernel_rfl
theorem Qms:typeOf (.type "Exception")=pure (.type "type"):=by kernel_rfl
theorem QiZ {prog:Program}{w:World}{A:Around}{Q:Value->Shared->Prop}{E:Value->Shared->Prop}{h:Heap}{g:Array GenState}{d:Drawn}{t:Nat}{os:OsState}{e C N LE t0:Addr}{m:Value}{nm q:Str}{bs:List Value}{hdct:Bool}{sn:List Str}{sub:List Value}{ab:Bool}{col:Option Bool}{dd:Option Addr}{k0 k1 k2 k3 k5:Option Value}
  (hC:h.get? C=some (excClassObj nm q C N bs (Qbg LE) hdct sn sub ab col dd k0 k1 k2 k3 k5 "Exception.__new__")) (he:h.get? e=some { cls:=.ref C,data:=.fields #[.ref t0,.none,.none,.none,.bool false,.none] })
  (hq:Q .none ⟨(h.push { cls:=.type "tuple", data:=.seq #[m] }).update e (Obj.mapFields λ x=>x.setIfInBounds 0 (.ref h.objs.size)),g,d,t,os⟩):
  wpAny (model prog w) A (call (.builtin "Exception.__init__") [.ref e,m]) Q E ⟨h,g,d,t,os⟩:=by
 have F:=PySem.F.excBase_Exception
 have hcB:(Value.ref C::Qbg LE).contains (.type "Exception")=true:=by simp
 refine wpAny_call (codeAny_call_builtin F.init.plain F.initEntry ?_)
 simp only [checkBuiltinCall,F.initKind,F.initSplit,F.initRow]
 repeat (first | (with_reducible refine wpAny_loadPart_at he ?_) | with_reducible refine wpAny_loadPart_at hC ?_ | (with_reducible refine wpAny_isSubtype_exc hC ?_;rw [hcB]) | wp_step)
 exact hq
theorem Qgj {K:W.Frag}{prog:Program}{w:World}{A:Around}{pl:Sem Bool}{Q:Value×List Value->Shared->Prop}{E:Value->Shared->Prop}{s:Shared}(X:K.In s.heap)
  (hga:W.findIn K (.type "type") "__getattribute__" = some (some (.builtin "type.__getattribute__"))) (hfc:W.findCls K (.type "Exception") (.type "type") "__init__" = some (.val (.builtin "Exception.__init__")))
  (hst:W.subIn K (.type "type") (.type "type")=some true) (h:Q (.builtin "Exception.__init__", []) { s with toks:=s.toks+1 }):
  wpAny (model prog w) A (getMethod (.type "Exception") "__init__" pl) Q E s:=by
 have L1:W.Looks (model prog w) s.heap (typeOf (.type "Exception")) (.type "type"):=W.Looks.of_pure Qms
 unfold getMethod
 refine wpAny_bind (W.Looks.here (s:=s) (L1.andThen (W.looks_findIn X hga)) ?_)
 dsimp only
 rw [if_pos W.canon_tga]
 refine wpAny_bind (W.cls_open X (W.Looks.of_pure QmQ) L1 hga (W.looks_hook X (r:=none) rfl) hst hfc (wpAny_pure ?_))
 show wpAny _ _ (handedOut (.builtin "Exception.__init__")) _ _ _
 exact W.handed_on rfl (wpAny_pure h)
theorem Qhw {prog:Program}{w:World}{A:Around}{E:Value->Shared->Prop}{s:Shared}{env:PySem.Env}{nm x y:Str}{v:Value}{e:Addr}{p7 p8 p9 p10:Pos}{Q:Flow->Shared->Prop}
  (hself:∀ Q E,Q (.ref e) s->wpAny (model prog w) A (eval (.Name y p7) env) Q E s) (hval:∀ Q E,Q v s->wpAny (model prog w) A (eval (.Name x p9) env) Q E s)
  (hset:wpAny (model prog w) A (PySem.setAttr (.ref e) nm v) (λ _ s'=>Q .next s') E s):
  wpAny (model prog w) A (exec (.Assign [.Attribute (.Name y p7) nm p8] (.Name x p9) p10) env) Q E s:=by
 rw [PyProof.Rows.exec_Assign]
 refine wpAny_bind (wpAny_standAt ?_)
 have hs:swapsWithSole [.Attribute (.Name y p7) nm p8] (.Name x p9) p10.line env=pure false:=rfl
 rw [hs]
 refine wpAny_bind (wpAny_pure ?_)
 rw [if_neg (by decide)]
 refine wpAny_bind (hval _ _ ?_)
 have hw:swappedStores [.Attribute (.Name y p7) nm p8] (.Name x p9) env=pure none:=rfl
 rw [hw]
 refine wpAny_bind (wpAny_pure ?_)
 show wpAny (model prog w) A (do PySem.assign (.Attribute (.Name y p7) nm p8) env v;pure Flow.next) Q E s
 rw [arm_assign_Attribute]
 refine wpAny_bind (wpAny_bind (wpAny_holding (hself _ _ (wpAny_bind (wpAny_standAt (wpAny_bind (wpAny_holding (wpAny_mono hset (λ _ s' z=>wpAny_release (wpAny_pure z)) λ _ _ z=>z))))))))
inductive InitFn (B:Bs) (K:W.Frag):Prop
 | mk (fI:Addr) (o:Obj) (fd:FuncData) (p1 p2 p3 p4 p5 p6 p7 p8 p9 p10 p11 p12 p13 p14:Pos) (t:Addr) (its:Array Value) (n:Nat)
  (i1:W.findIn K (.ref B.KE) "__init__" = some (some (.ref fI)))
  (i2:W.typeIn K (.ref fI)=some (.type "function"))
  (i3:B.g.get? fI=some o)
  (i4:o.data=.func fd)
  (i5:fd.body=.stmts [.Expr (.Call (.Attribute (.Name "Exception" p1) "__init__" p2) [.Name "self" p3,.Name "message" p4] [] p5) p6,
   .Assign [.Attribute (.Name "self" p7) "message" p8] (.Name "message" p9) p10,.Assign [.Attribute (.Name "self" p11) "spot" p12] (.Name "spot" p13) p14])
  (i6:(p2.endLine==p5.line)=true)
  (i7:fd.scope.kind=.function)
  (i8:fd.scope.isCoroutine=false)
  (i9:fd.scope.isGenerator=false)
  (i10:fd.globals=mainGlobals)
  (i11:fd.builtins=builtinsNs)
  (i12:fd.closure=[])
  (i13:B.g.CodeRec fd.code fd.qualname)
  (i14:Qbr fd.params)
  (i15:fd.params.args.map (·.arg)=[("self" : Str),("message" : Str),("spot" : Str)])
  (i16:fd.defaults=.ref t)
  (i17:B.g.get? t=some { cls:=.type "tuple", data:=.seq its n })
  (i18:its.size<=3)
  (i19:(∀ x∈fd.scope.names,x.2≠.cell))
  (i20:kindOf fd.scope "self" = some .local)
  (i21:kindOf fd.scope "message" = some .local)
  (i22:kindOf fd.scope "spot" = some .local)
  (i23:kindOf fd.scope "Exception" = some .globalImplicit):InitFn B K
structure InitOk (B:Bs) (K:W.Frag):Prop where
 exc:B.mg "Exception" = none/\∃ mb,B.g.Ns builtinsNs mb/\mb "Exception" = some (.type "Exception")
 ga:W.findIn K (.type "type") "__getattribute__" = some (some (.builtin "type.__getattribute__"))
 fc:W.findCls K (.type "Exception") (.type "type") "__init__" = some (.val (.builtin "Exception.__init__"))
 st:W.subIn K (.type "type") (.type "type")=some true
 lim:B.g.NoLimit
 fn:InitFn B K
variable {B:Bs}{fr:List PySem.Env}{A:Around}{L:Addr}{X:List Addr}{ι:List Addr}{σ:List O}{s:Shared}{env:PySem.Env}
noncomputable def Qb4 (n:Nat) (m s:Value):List (Str×Value):=[(("self" : Str),Value.ref (n+1)),("message", m),("spot", s)]
theorem Qm2 {K:W.Frag}{D U:Nat}(N0:NamesOk B) (C:ExcOk B K) (G:ExcAt B) (N:InitOk B K) (hD:D+2<=recursionLimit):QgV B fr D U:=by
 intro A L ι σ s m sp um usp am I hm hsp
 obtain ⟨nm,qn,NN,LE,bs,hdct,sn,sub,ab,col,dd,k0,k1,k2,k3,k5,hKE0⟩:=G.obj
 obtain ⟨fI,oI,fd,p1,p2,p3,p4,p5,p6,p7,p8,p9,p10,p11,p12,p13,p14,td,dits,dn,i1,i2,i3,i4,i5,i6,i7,i8,i9,i10,i11,i12,i13,i14,i15,i16,i17,i18,i19,i20,i21,i22,i23⟩:=N.fn
 obtain ⟨hEx,mb,hmb,hEx2⟩:=N.exc
 intro hb
 obtain ⟨hp,g,d,t,os⟩:=s
 have hKE:=I.keep _ _ hKE0
 refine QiY (C.X.keeps I.keep) hKE i1 i2 (Qa8 (show 2<=cap by decide)) ?_
 generalize hob1:({ cls:=.type "tuple", data:=.seq [um,usp].toArray }:Obj)=ob1
 generalize hob2:({ cls:=.ref B.KE,data:=.fields #[.ref hp.objs.size,.none,.none,.none,.bool false,.none] }:Obj)=ob2
 have kp:∀ b o,hp.get? b=some o->((hp.push ob1).push ob2).get? b=some o:=λ b o e=>Heap.get?_push_of_some _ (Heap.get?_push_of_some _ e)
 have he0:((hp.push ob1).push ob2).get? (hp.objs.size+1)=some ob2:=by
  have:=Heap.get?_push_size (hp.push ob1) (o:=ob2) (by rw [<- hob2];rfl)
  rw [Heap.size_push] at this
  exact this
 have enew:hp.get? (hp.objs.size+1)=none:=Heap.get?_none_of_le (Nat.le_succ _)
 refine codeAny_call_def (fd:=fd) (binds:=Qb4 hp.objs.size um usp) (by rw [W.depth_under_kw];have:=am.depth;lia) (kp _ _ (I.keep _ _ i3)) i4 ((N.lim.keeps I.keep).keeps kp) ((i13.keeps I.keep).keeps kp) i5 ?_ i19 ?_ (λ h₀ hns hk₀=>?_) i8 i9 i7
 ·have:=Qcp (s:=⟨(hp.push ob1).push ob2,g,d,t,os⟩) (fd:=fd) (us:=[.ref (hp.objs.size+1),um,usp]) (ds:=dits.toList) i14 (by rw [i15];decide +kernel) (.inr ⟨td,_,dn,i16,kp _ _ (I.keep _ _ i17),by simp⟩) (by rw [i15];exact Nat.le_refl _) (by rw [i15];simpa using i18) (by rw [i15];simp)
  rw [i15] at this
  have e0:dits.toList.drop (dits.toList.length - ([("self" : Str),("message" : Str),("spot" : Str)].length - [Value.ref (hp.objs.size+1),um,usp].length))=[]:=by
   rw [List.drop_eq_nil_of_le];simp
  rw [e0] at this
  exact this
 ·intro y hy
  unfold Qb4 at hy
  simp only [List.mem_cons,List.not_mem_nil,or_false] at hy
  rcases hy with rfl | rfl | rfl
  ·exact i20
  ·exact i21
  ·exact i22
 ·generalize hL:((hp.push ob1).push ob2).objs.size=L0 at *
  generalize henv:callEnv fd L0 fI=env
  have c1:env.scope=fd.scope:=by rw [<- henv];rfl
  have c2:env.locals=L0:=by rw [<- henv];rfl
  have c3:env.globals=mainGlobals:=by rw [<- henv,<- i10];rfl
  have c4:env.builtins=builtinsNs:=by rw [<- henv,<- i11];rfl
  have ck:env.scope.kind=.function:=by rw [c1];exact i7
  have eltL:hp.objs.size+1≠L0:=by rw [<- hL,Heap.size_push,Heap.size_push];lia
  have ld:∀ (h':Heap) tk (A:Around) p Q (E:Value->Shared->Prop) (x:Str) v,h'.Ns L0 (λ x=>(Qb4 hp.objs.size um usp).reverse.lookup x)->kindOf fd.scope x=some .local->(x==("__debug__" : Str))=false →
    (Qb4 hp.objs.size um usp).reverse.lookup x=some v->Q v ⟨h',g,d,tk,os⟩->wpAny (model B.prog B.w) A (eval (.Name x p) env) Q E ⟨h',g,d,tk,os⟩:=λ h' tk A p Q E x v hn hk hd hv k=>
   wpAny_Name (wpAny_loadName_local (s:=⟨h',g,d,tk,os⟩) ck (by rw [Env.kindOf,c1];exact hk) (by rw [c2];exact hn) hv k) hd
  have lk1:(Qb4 hp.objs.size um usp).reverse.lookup ("self" : Str)=some (Value.ref (hp.objs.size+1)):=by kernel_rfl
  have lk2:(Qb4 hp.objs.size um usp).reverse.lookup ("message" : Str)=some um:=by kernel_rfl
  have lk3:(Qb4 hp.objs.size um usp).reverse.lookup ("spot" : Str)=some usp:=by kernel_rfl
  have hkeep:∀ b o,hp.get? b=some o->h₀.get? b=some o:=λ b o e=>hk₀ b o (kp b o e)
  have bkeep:B.g.StaysIn h₀:=λ b o e=>hkeep b o (I.keep b o e)
  have he₀:=hk₀ _ _ he0
  rw [<- hob2] at he₀
  have hKE₀:=hkeep _ _ hKE
  rw [execs_cons]
  refine wpAny_bind ?_
  rw [exec_Expr env _ _ (by unfold interactive;rw [ck];rfl) rfl]
  refine wpAny_bind (wpAny_standAt (wpAny_bind ?_))
  rw [arm_eval_Call,Qas (by rfl)]
  refine wpAny_bind (Calls.Name_function_global ck (by rw [Env.kindOf,c1];exact i23) (Calls.loadGlobal_builtin (mg:=B.mg) (mb:=mb) (by rw [c3];exact N0.main.keeps bkeep) hEx (by rw [c4];exact hmb.keeps bkeep) hEx2 ?_) (by decide +kernel))
  refine wpAny_bind (wpAny_standAt ?_)
  have hform:∀ ts:List (Sem Value),methodCallForm ([Expr.Name "self" p3,Expr.Name "message" p4].length+0) (ts.map λ t=>(false,t)) []=true:=λ ts=>by
   unfold methodCallForm
   simp
  have hpos:methodCallPos true (.Name "Exception" p1) env p2 p5=pure p5:=by unfold methodCallPos;simp [i6]
  show wpAny _ _ (methodCall (.Name "Exception" p1) "__init__" p2 p5 env (.type "Exception") ([Expr.Name "self" p3,Expr.Name "message" p4].length+0) (([Expr.Name "self" p3,Expr.Name "message" p4].map λ e=>eval e env).map λ t=>(false,t)) []) _ _ _
  unfold methodCall
  rw [hform]
  refine wpAny_bind (wpAny_holding (Qgj (C.X.keeps bkeep) N.ga N.fc N.st ?_))
  refine wpAny_bind (wpAny_of_eq hpos ?_)
  refine W.callWith_of (P:=λ _=>True) (by simp) QdH (Qcw ?_)
  refine Calls.spliced_cons (ld _ _ _ _ _ _ _ _ hns i20 (by decide +kernel) lk1 ?_)
  refine Calls.spliced_cons (ld _ _ _ _ _ _ _ _ hns i21 (by decide +kernel) lk2 (Calls.spliced_nil ?_))
  refine ⟨trivial,?_⟩
  refine QiZ hKE₀ he₀ ?_
  generalize hob3:({ cls:=.type "tuple", data:=.seq #[um] }:Obj)=ob3
  generalize hh₁:((h₀.push ob3).update (hp.objs.size+1) (Obj.mapFields λ x=>x.setIfInBounds 0 (.ref h₀.objs.size)))=h₁
  have he₁:h₁.get? (hp.objs.size+1)=some { cls:=.ref B.KE,data:=.fields #[.ref h₀.objs.size,.none,.none,.none,.bool false,.none] }:=by
   rw [<- hh₁]
   exact Heap.get?_update_self _ (Heap.get?_push_of_some _ he₀) rfl
  have kp₁:∀ b o,b≠hp.objs.size+1->h₀.get? b=some o->h₁.get? b=some o:=λ b o hb e=>by
   rw [<- hh₁,Heap.get?_update_other _ _ (Ne.symm hb)]
   exact Heap.get?_push_of_some _ e
  have hns₁:h₁.Ns L0 (λ x=>(Qb4 hp.objs.size um usp).reverse.lookup x):=by
   obtain ⟨o,es,ep,e,r⟩:=hns
   exact ⟨o,es,ep,kp₁ _ _ eltL.symm e,r⟩
  have ne:∀ b o,hp.get? b=some o->b≠hp.objs.size+1:=λ b o e q=>by rw [q,enew] at e;cases e
  have hkeep₁:∀ b o,hp.get? b=some o->h₁.get? b=some o:=λ b o e=>kp₁ b o (ne b o e) (hkeep b o e)
  show wpAny _ _ (pure Flow.next) _ _ _
  refine wpAny_pure ?_
  rw [execs_cons]
  refine wpAny_bind ?_
  obtain ⟨LE',cd,q1,q2,q3⟩:=C.cls
  have X₁:K.In h₁:=C.X.keeps λ b o e=>hkeep₁ b o (I.keep b o e)
  refine Qhw (λ Q E k=>ld _ _ _ _ _ _ _ _ hns₁ i20 (by decide +kernel) lk1 k) (λ Q E k=>ld _ _ _ _ _ _ _ _ hns₁ i21 (by decide +kernel) lk2 k) ?_
  refine QiX (s:=⟨h₁,g,d,_,os⟩) X₁ he₁ rfl rfl rfl C.sa q1 q2 q3 C.ms λ h₂ dx es ep tk₂ x1 x2 x3 x4 x5 x6 x7=>?_
  have hns₂:h₂.Ns L0 (λ x=>(Qb4 hp.objs.size um usp).reverse.lookup x):=by
   obtain ⟨o,es,ep,e,r⟩:=hns₁
   exact ⟨o,es,ep,x7 _ _ eltL.symm e,r⟩
  have hkeep₂:∀ b o,hp.get? b=some o->h₂.get? b=some o:=λ b o e=>x7 b o (ne b o e) (hkeep₁ b o e)
  have X₂:K.In h₂:=C.X.keeps λ b o e=>hkeep₂ b o (I.keep b o e)
  have dxL:dx≠L0:=λ q=>by
   obtain ⟨o,es,ep,e,r⟩:=hns₁
   rw [<- q,x3] at e;cases e
  have dxn:hp.get? dx=none:=by
   cases q:hp.get? dx with
   | none=>rfl
   | some o=>rw [hkeep₁ _ _ q] at x3;cases x3
  rw [execs_cons]
  refine wpAny_bind ?_
  refine Qhw (λ Q E k=>ld _ _ _ _ _ _ _ _ hns₂ i20 (by decide +kernel) lk1 k) (λ Q E k=>ld _ _ _ _ _ _ _ _ hns₂ i22 (by decide +kernel) lk3 k) ?_
  refine QiW (s:=⟨h₂,g,d,tk₂,os⟩) X₂ x1 rfl rfl rfl x2 x4 (by rw [x5];decide) C.sa q1 q2 q3 C.ss λ h₃ es' ep' tk₃ y1 y2 y3 y4 y5=>?_
  have ned:∀ b o,hp.get? b=some o->b≠dx:=λ b o e q=>by rw [q,dxn] at e;cases e
  have hkeep₃:∀ b o,hp.get? b=some o->h₃.get? b=some o:=λ b o e=>y5 b o (ned b o e) (hkeep₂ b o e)
  refine wpAny_execs_nil ⟨rfl,?_⟩
  have I':Inv B fr ι σ h₃:=I.ext hkeep₃
  have go:Go B (frs fr) [] ι hp ι h₃:=Go.ext hkeep₃
  have hms:("message" : Str) ≠ "spot" := by decide +kernel
  refine ⟨(m,sp),σ,ι,rfl,go,I',⟨hp.objs.size+1,rfl,⟨dx,_,_,es',ep',um,usp,y1,enew,I.new_nin enew,rfl,rfl,rfl,by simp,.inl rfl,λ q m z=>I.notab_new enew q m z.symm,y2,dxn,I.new_nin dxn,y3,?_,?_,hm.mono go I.tabs.nt,hsp.mono go I.tabs.nt⟩,dx,_,y1⟩,⟨rfl,rfl,rfl⟩⟩
  ·rw [y4,if_neg hms,x6,if_pos rfl]
  ·rw [y4,if_pos rfl]
end
section
open PySem PySem.Calls PyProof.Rows
variable {B:Bs}{fr:List PySem.Env}{A:Around}{L:Addr}{X:List Addr}{ι:List Addr}{σ:List O}{s:Shared}{env:PySem.Env}
noncomputable def FnC (B:Bs) (fr:List PySem.Env) (D U:Nat) (call:V->List V->M V):Prop:=
 ∀ A L ι σ s k vs us a,Amb fr D U A->Inv B fr ι σ s.heap->B.fa k=some a->Vals B ι s.heap vs us->call (.fn k) vs σ≠.bad →
  codeAny (model B.prog B.w) A (.call (.ref a) ⟨us,[]⟩) (CR B fr L (call (.fn k) vs σ) ι s) s
set_option tactic.hygienic true in
theorem Qnd {K:W.Frag}{D U:Nat}{call:V->List V->M V}(C:ClsOk B K) (hm:W.makesIn K B.KW=true) (H:FnC B fr (D+1) (U+1) call) (am:Amb fr D U A) (I:Inv B fr ι σ s.heap) {y:V}{u:Value}(hy:Val B ι s.heap y u):
  T B fr A L [] (PySem.call (.ref B.KW) [u] []) (mkW call [y]) (VR B) ι σ s:=by
 intro hb
 obtain ⟨fI,h1,h2,h3⟩:=C.meth 0 "__init__" rfl
 obtain ⟨hp,g,d,t,os⟩:=s
 refine wpAny_call ?_
 refine W.make_core (W.makes_of (C.X.keeps I.keep) hm) (W.looks_findIn (C.X.keeps I.keep) h1) (λ self=>W.bind_fn (C.X.keeps I.keep) self h3) (.inl rfl) ?_
 generalize hob1:W.emptyDict=ob1
 generalize hob2:W.instObj B.KW hp.objs.size=ob2
 have kp1:∀ b o,hp.get? b=some o->(hp.push ob1).get? b=some o:=λ b o e=>Heap.get?_push_of_some _ e
 have I1:Inv B fr (ι++[hp.objs.size]) (σ++[.dict []]) (hp.push ob1):=I.new (o:=O.dict []) kp1 (Qao hp)
  ⟨ob1,#[],0,Heap.get?_push_size _ (by rw [<- hob1];rfl),by exact congrArg _ (hob1).symm,λ e he=>absurd he (by simp),λ k x hk=>by rfl,rfl,λ x _=>by rfl⟩
 have kp2:∀ b o,(hp.push ob1).get? b=some o->((hp.push ob1).push ob2).get? b=some o:=λ b o e=>Heap.get?_push_of_some _ e
 have go2:Go B (frs fr) [] (ι++[hp.objs.size]) (hp.push ob1) (ι++[hp.objs.size]++[(hp.push ob1).objs.size]) ((hp.push ob1).push ob2):=Go.push kp2 (Qao (hp.push ob1))
 have I2:Inv B fr (ι++[hp.objs.size]++[(hp.push ob1).objs.size]) (σ++[.dict []]++[.inst σ.length]) ((hp.push ob1).push ob2):=I1.new (o:=O.inst σ.length) kp2 (Qao (hp.push ob1))
  ⟨hp.objs.size,QaR go2.pre (by refine I.len▸?_;simp),by refine (Heap.get?_push_size _ (show ob2.isFreed=false from by rw [<- hob2];rfl)).symm▸?_;refine hob2▸?_;rfl⟩
 have go:=(Go.push kp1 (Qao hp)).trans go2
 have hx:(ι++[hp.objs.size]++[(hp.push ob1).objs.size])[(σ++[O.dict []]).length]?=some (hp.push ob1).objs.size:=by
  refine I1.len▸?_;simp
 have e1:mkW call [y] σ=M.bind (call (.fn m0) [.ref (σ++[O.dict []]).length,y]) (λ r=>if isNone r then M.ret (.ref (σ++[O.dict []]).length) else M.stuck) (σ++[O.dict []]++[O.inst σ.length]):=rfl
 rw [e1] at hb ⊢
 rw [Heap.size_push] at hx I2 go2 go
 refine codeAny_mono (H (A.under (.builtin "type.__call__" ⟨[.ref B.KW,u],[]⟩)) L _ _ ⟨(hp.push ob1).push ob2,g,d,t,os⟩ m0 [.ref (σ++[O.dict []]).length,y] [.ref (hp.objs.size+1),u] fI (⟨am.hand,am.frames,Nat.succ_le_succ am.depth,Nat.succ_le_succ am.units⟩) I2 h2 ?_ (Qam hb)) λ q s' z=>?_
 ·
  exact ⟨_,_,rfl,Qb2 hx,_,_,rfl,hy.mono go I.tabs.nt,rfl⟩
 ·skip
  rcases q with e | fl
  ·exact TE.up (s:=⟨hp,g,d,t,os⟩) (s':=⟨(hp.push ob1).push ob2,g,d,t,os⟩) go ⟨rfl,rfl,rfl⟩ rfl (TE.bind z)
  cases fl<;>first | exact z.elim | skip
  rename_i v
  obtain ⟨r,σ',ι',hr,g',I',hv,sm⟩:=z
  rw [Qan hr] at hb ⊢
  cases hn:isNone r with
  | false=>rw [hn] at hb;exact absurd rfl hb
  | true=>
   have hvn:=Qcn hv
   simp only [hn] at hvn
   have:v=Value.none:=by simpa using hvn
   refine ⟨this,⟨.ref (σ++[O.dict []]).length,σ',ι',rfl,go.trans g',I',Qb2 (QaR g'.pre hx),sm⟩⟩
end
section
open PySem PySem.Calls PyProof.Rows
variable {B:Bs}{fr:List PySem.Env}{A:Around}{L:Addr}{X:List Addr}{ι:List Addr}{σ:List O}{s:Shared}{env:PySem.Env}
theorem Qc2:∀ {ps:List Nat}{vs:List V}{ρ ρ':Env}{σ:List O},QcJ ρ ps vs=some ρ'->Qa2 [] ps vs ρ σ=.ok ρ' σ
 | [],[],ρ,ρ',σ,h=>by obtain rfl:=Option.some.inj h;rfl
 | [],_::_,_,_,_,h=>by exact nos h
 | _::_,[],_,_,_,h=>by exact nos h
 | i::ps,v::vs,ρ,ρ',σ,h=>by
  have h:(if i<ρ.length then QcJ (ρ.set i (some v)) ps vs else none)=some ρ':=h
  by_cases hi:i<ρ.length
  ·rw [if_pos hi] at h
   show M.bind (Qaq i v ρ) (λ ρ=>Qa2 [] ps vs ρ) σ=_
   rw [QcS hi,M.ret_bind]
   exact Qc2 h
  ·rw [if_neg hi] at h;exact nos h
theorem Qde {a:Arguments}{xs:List Str}(h:QaN a=some xs):Qbr a/\a.args.map (·.arg)=xs:=by
 unfold QaN at h
 split at h
 ·rename_i q
  simp only [Bool.and_eq_true,List.isEmpty_iff,Option.isNone_iff_eq_none] at q
  obtain rfl:=Option.some.inj h
  exact ⟨⟨q.1.1.1.1,q.1.1.1.2,q.1.1.2,q.2⟩,rfl⟩
 ·exact nos h
theorem QoU {K:W.Frag}{D U:Nat}{call:V->List V->M V}{a:Addr}{ps:List Nat}{ρ0 ρ1:Env}{bd:CE}{Vs:List V}{us:List Value}(hlim:B.g.NoLimit)
  (Z:∀ env,Al B K (env::fr) (D+1) (U+163) call) (hD:D<recursionLimit) (am:Amb fr D U A) (I:Inv B fr ι σ s.heap) (hc:Qmp B ι s.heap a ps ρ0 bd) (hs:QcJ ρ0 ps Vs=some ρ1) (hv:Vals B ι s.heap Vs us)
  (hb:Mine.ev B.cx call 20 ρ1 bd σ≠.bad):
  codeAny (model B.prog B.w) A (.call (.ref a) ⟨us,[]⟩) (CR B fr L (Mine.ev B.cx call 20 ρ1 bd σ) ι s) s:=by
 refine byK λ Pz kz=>?_;obtain ⟨sc,args,ex,cl,pm,ct,c',nm,q,n,xs,g,⟨oc,cvs,ctk,h1,h2,h3,h4,h5⟩,r1,r2,r3,r4,r5,r6,r7,r8,r9,r10,r11,r12,r13⟩:=hc
 obtain ⟨p1,p2⟩:=Qde r1
 have hbind:=Qc2 (σ:=σ) hs
 have hpl:=QdE r3
 have hvl:ps.length=Vs.length:=Qcq (by rw [hbind];simp)
 have hul:=hv.len
 have hbp:=Qcp (s:=s) (fd:=W.kla_fn nm q args ex sc cl pm (.ref c') ct) (us:=us) (ds:=[]) p1 (by rw [p2];exact r12) (.inl ⟨rfl,rfl⟩) (by simp_all) (Nat.zero_le _) (by rw [p2];simp;simp_all)
 rw [p2] at hbp
 have e0:∀ k,us++List.drop k ([]:List Value)=us:=λ k=>by simp
 rw [e0] at hbp
 refine kz ?_;refine W.kla_callFunE (fd:=W.kla_fn nm q args ex sc cl pm (.ref c') ct) (body:=ex) (by have:=am.depth;lia) g rfl r5 r6 rfl ⟨c',oc,cvs,ctk,rfl,h1,h2,h3⟩ (hbp _ _ _ _ ?_)
 have hcs:((sc.names.filter (·.2==.cell)).mapM λ q=>Qaf sc q.1)=some []:=by
  rw [List.filter_eq_nil_iff.mpr λ y hy=>by simpa using r7 y hy];rfl
 have tn:=QfQ (A:=A.in1) (L:=L) (qual:=q ++ ".<locals>.") (a:=a) (code:=.ref c') (clo:=cl) (ρ0:=ρ0) r4 (λ x i hx hi=>r10 x i hi (.inr hx)) r11 r9 (λ q m e=>absurd e (r7 q m)) hcs
  (λ j x i hx hi=>⟨QdF r3 j x i hx hi,.inl (r8 x (List.mem_of_getElem? hx))⟩) hpl I hv
 have hM:(M.bind (entCells [] ρ0) λ ρ=>Qa2 [] ps Vs ρ) σ=.ok ρ1 σ:=hbind
 refine T.use tn (by rw [hM];simp) (λ ρ env ι₁ σ₁ s₁ qq g₁ I₁ r sm₁=>?_) λ v s' z=>?_
 ·replace qq:=hM.symm.trans qq
  obtain ⟨rfl,rfl⟩:=RS.ok.inj qq
  obtain ⟨cells,rfl,F⟩:=r
  generalize henv:newEnv sc s.heap.objs.size mainGlobals cells (q ++ ".<locals>.") (some a) (.ref c') none builtinsNs=env at *
  have c1:env.frame=some env.locals:=by refine henv▸?_;rfl
  have c2:env.locals=s.heap.objs.size:=by refine henv▸?_;rfl
  have c3:env.scope=sc:=by refine henv▸?_;rfl
  refine ⟨hlim.keeps I₁.keep,W.kla_codeExpr ?_⟩
  have I₂:=I₁.enter F c1
  have am':Amb (env::fr) (D+1) (U+163) { A.deeper env with units:=(A.deeper env).units+8 * (19+1) }:=by
   refine ⟨am.hand,?_,?_,?_⟩
   ·show A.frames.map (env::·)=_
    refine (am.frames).symm▸?_;rfl
   ·show A.depth+1<=_
    have:=am.depth;simp_all
   ·skip
    have:=am.units;simp_all
  have tb:T B (env::fr) (A.deeper env) env.locals [] (eval ex env) (Mine.ev B.cx call 20 ρ1 bd) (VR B) ι₁ σ s₁:=by
   refine r13▸?_
   exact ((Z env).ev 20).ev (A.deeper env) env.locals n false sc env ex ρ1 ι₁ σ s₁ trivial am' (c3▸ScRel.refl env) (λ h=>by exact nob h) F I₂
  have kF:∀ a∈frs (env::fr),a ∉ frs fr->s.heap.get? a=none:=λ b m n=>by
   obtain ⟨e,m,eb⟩:=List.mem_filterMap.mp m
   clear c3 F henv I₁ tn hcs e0 hbp hul hvl hpl hbind p2 p1 r13 r12 r11 r10 r9 r8 r7 r6 r5 r4 r3 r2 r1 h5 h4 h3 h2 h1 g hv hs I am hD Z hlim;rcases List.mem_cons.mp m with rfl | m
   ·simp only [c1,c2] at eb;obtain rfl:=Option.some.inj eb;exact (Qao s.heap)
   ·exact absurd (List.mem_filterMap.mpr ⟨e,m,eb⟩) n
  have kX:∀ a∈[env.locals],s.heap.get? a=none:=λ b m=>by refine (List.mem_singleton.mp m).symm▸?_;refine (c2).symm▸?_;exact (Qao s.heap)
  have gW:Go B (frs (env::fr)) [env.locals] ι s.heap ι₁ s₁.heap:=(c2▸g₁).wideF λ a m=>by
   obtain ⟨e,m,eb⟩:=List.mem_filterMap.mp m
   exact List.mem_filterMap.mpr ⟨e,.tail _ m,eb⟩
  refine T.use tb hb (λ v u ι₂ σ₂ s₂ q2 g₂ I₃ r sm₂=>?_) λ v s₂ z=>?_
  ·skip
   exact ⟨v,σ₂,ι₂,q2,((gW.trans (g₂.wide (by simp))).drop kX kF),I₃.leave,r,sm₁.trans sm₂⟩
  ·refine byK λ Pz kz=>?_;obtain ⟨m,sp,σ₂,ι₂,hr,g₂,I₃,⟨e,rfl,hx⟩,sm₂⟩:=z
   refine kz ?_;refine wpAny_bind (Qfh am'.frames c1 I₂ g₂ I₃ hx (λ v z=>z) λ h₃ I₄ g₃ hx₃ _=>?_)
   refine Qb9 (s:={ s₂ with heap:=h₃ }) I₂ g₃ I₄ hx₃ λ h₄ I₅ g₄ hx₄=>?_
   refine ⟨m,sp,σ₂,ι₂,hr,(gW.trans (g₄.wide (by simp))).drop kX kF,I₅.leave,⟨e,rfl,?_⟩,(sm₁.trans sm₂).trans ⟨rfl,rfl,rfl⟩⟩
   exact (hx₄.older g₁.older).mon λ _ z=>.inl z
 ·obtain ⟨m,sp,σ₂,ι₂,hr,_⟩:=z
  rw [hM] at hr;contradiction
structure Full (B:Bs) (K:W.Frag):Prop extends Base B K where
 F:FnsOk B
 init:InitOk B K
 mkw:W.makesIn K B.KW=true
theorem QfE {K:W.Frag}(Z:Full B K) (d:Nat) (ih:∀ (fr:List PySem.Env) (D U:Nat),D+3 * d+5<=recursionLimit->U+200 * d+300<cLine->CallOk B fr D U (Qab B.cx d))
  (fr:List PySem.Env) (D U:Nat) (hD:D+3 * d+6<=recursionLimit) (hU:U+200 * d+463<cLine):(∀ env,Al B K (env::fr) (D+1) (U+163) (Qab B.cx d))/\FnC B fr D U (Qab B.cx (d+1)):=by
 have al:∀ env,Al B K (env::fr) (D+1) (U+163) (Qab B.cx d):=λ env=>
  { toBase:=Z.toBase,XN:=Qm2 Z.N Z.X Z.G Z.init (by lia),H:=ih (env::fr) (D+1) (U+163) (by lia) (by lia),hU:=by lia }
 refine ⟨al,?_⟩
 intro A L ι σ s k vs us a am I ha hv hb
 have e:Qab B.cx (d+1) (.fn k) vs=(match B.cx.fns k with | some f=>Qbi B.cx (Qab B.cx d) f vs | none=>M.stuck):=rfl
 rw [e] at hb ⊢
 cases q:B.cx.fns k with
 | none=>rw [q] at hb;exact absurd rfl hb
 | some f=>
  rw [q] at hb
  refine byK λ Pz kz=>?_;obtain ⟨a',o,fd,body,hfa,FA⟩:=Z.F.fn k f q
  replace hfa:=ha.symm.trans hfa;clear q e ha hU ih;obtain rfl:=Option.some.inj hfa
  exact kz (Qp0 Z.F.lim Z.N FA al (by lia) am I hv hb)
set_option tactic.hygienic true in
theorem QdL {K:W.Frag}(Z:Full B K):∀ (d:Nat) (fr:List PySem.Env) (D U:Nat),D+3 * d+5<=recursionLimit->U+200 * d+300<cLine->CallOk B fr D U (Qab B.cx d)
 | 0,fr,D,U,_,_=>⟨λ _ _ _ _ _ _ _ _ _ _ _ _ _ hb=>absurd rfl hb,λ _ _ _ _ _ _ _ _ _ _=>T.bad rfl⟩
 | d+1,fr,D,U,hD,hU=>by
  obtain ⟨al,fc⟩:=QfE Z d (QdL Z d) fr D U (by lia) (by lia)
  obtain ⟨_,fc'⟩:=QfE Z d (QdL Z d) fr (D+1) (U+1) (by lia) (by lia)
  refine ⟨λ A L ι σ s v u vs us am I hv hvs hb=>?_,λ A L ι σ s y u am I hy=>Qnd Z.C Z.mkw fc' am I hy⟩
  cases v<;>first | exact absurd rfl hb | skip
  ·rename_i i
   obtain ⟨a,e1,rfl⟩:=hv
   have e:Qab B.cx (d+1) (.ref i) vs=M.bind (getO i) λ x=>match x with
    | .clo ps ρ body=>(match QcJ ρ ps vs with
     | some ρ=>Mine.ev B.cx (Qab B.cx d) 20 ρ body
     | none=>M.stuck)
    | _=>M.stuck:=rfl
   rw [e] at hb ⊢
   refine QaS (Qam hb) λ o eo=>?_
   rw [Qan (QbA eo)] at hb
   cases o<;>first | exact absurd rfl hb | skip
   rename_i ps ρ body
   dsimp only at hb
   cases q:QcJ ρ ps vs with
   | none=>rw [q] at hb;exact absurd rfl hb
   | some ρ1=>
    rw [q] at hb
    have hc:=I.objs _ _ _ e1 eo
    refine ⟨?_,?_⟩
    ·obtain ⟨sc,args,ex,cl,pm,ct,c',nm,q,n,xs,g,_⟩:=hc
     exact ⟨a,_,_,rfl,g,rfl⟩
    ·refine T.skip (QbA eo) ?_
     clear eo fc' hU;simp only [q]
     exact λ hb=>wpAny_call (codeAny_mono (QoU Z.F.lim al (by omega) am I hc q hvs hb) λ r s' z=>by
      rcases r with e | fl
      ·exact z
      ·cases fl<;>exact z)
  ·rename_i k
   obtain ⟨a,e1,rfl⟩:=hv
   have hf:∃ f,B.cx.fns k=some f:=by
    cases q:B.cx.fns k with
    | none=>
     exfalso;apply hb
     show (match B.cx.fns k with | some f=>Qbi B.cx (Qab B.cx d) f vs | none=>M.stuck) σ=.bad
     refine (q).symm▸?_;rfl
    | some f=>exact ⟨f,rfl⟩
   obtain ⟨f,hf⟩:=hf
   obtain ⟨a',o,fd,body,hfa,FA⟩:=Z.F.fn k f hf
   replace hfa:=e1.symm.trans hfa;obtain rfl:=Option.some.inj hfa
   refine ⟨⟨a,o,fd,rfl,I.keep _ _ FA.get,FA.data⟩,λ hb=>wpAny_call (codeAny_mono (fc A L ι σ s k vs us a am I e1 hvs hb) λ r s' z=>?_)⟩
   rcases r with e | fl
   ·exact z
   ·cases fl<;>exact z
end
section
open PySem PySem.W
theorem Qon:∀ w:World,(fencedOpening treeTable pw w 7000).map (λ s=>(s.heap,s.gens,s.drawn,s.toks))=some (boot_heap w.params,Array.mk [],boot_drawn,boot_toks):=
 boot_open (by kernel_rfl) (by rfl) (λ s=>by kernel_rfl)
theorem Qog (w:World):((boot_heap w.params).isNs mainGlobals&&(Array.mk ([]:List GenState)).size==0,(boot_heap w.params).objs.size,(boot_heap w.params).nsMap mainGlobals "__annotations__")=(true,11,some (.ref 6)):=by kernel_rfl
noncomputable abbrev QnE (b:Bool):Prop:=∀ (w:World) (os:OsState),(Qh2 through (stepOk 11 (some (.ref 6))) (stepT (denote treeTable) pw (wb b w)) 6000 (shT (wb b w).params os) (topStub pw)).map (λ s=>Qcs (wb b w).params s.abs)=some (true,openGood qv loose,Ya w)
theorem left (t0:QnE false) (t1:QnE true):LeftO pw qv loose (λ _=>true) Yf Ya 7000:=λ w=>by
 obtain ⟨⟨h,gs,d,k,os⟩,e,e'⟩:=Option.map_eq_some_iff.mp (Qon w)
 obtain ⟨rfl,rfl,rfl,rfl⟩:h=boot_heap w.params/\gs=Array.mk []/\d=boot_drawn/\k=boot_toks:=by simpa using e'
 have key:(Qh2 through (stepOk 11 (some (.ref 6))) (stepT (denote treeTable) pw w) 6000 (shT w.params os) (topStub pw)).map (λ s=>Qcs w.params s.abs)=some (true,openGood qv loose,Ya w):=by
  have q:=World.withFollow_self w "special-get-raises"
  cases hb:w.params.followText "special-get-raises" with
  | false=>rw [hb] at q;have:=t0 w os;unfold wb at this;rw [q] at this;exact this
  | true=>rw [hb] at q;have:=t1 w os;unfold wb at this;rw [q] at this;exact this
 obtain ⟨sT,hrun,hl⟩:=Option.map_eq_some_iff.mp key
 have r:=topRun_mono 1000 _ _ _ _ (Qhd hrun)
 rw [Qkn] at r
 have z:=Qog w
 simp only [Prod.mk.injEq] at z
 obtain ⟨z1,z2,z3⟩:=z
 generalize sT.abs=s₁ at *
 unfold Qcs at hl
 simp only [Prod.mk.injEq] at hl
 obtain ⟨l1,l2,l3⟩:=hl
 have t:topFrom treeTable pw w 7000 ⟨boot_heap w.params,Array.mk [],boot_drawn,boot_toks,os⟩=some s₁:=by
  unfold topFrom
  dsimp only
  rw [z1,z2,z3]
  show (Option.bind (topRun treeTable pw w 11 (some (.ref 6)) (6000+1000) (shB w.params os) (topStub pw)) _)=_
  rw [r]
  show (match staticsOk (importedModules pw.main.body) (boot_heap w.params) s₁.heap&&namesBound pw s₁.heap&&gensDone s₁&&laidKept (boot_heap w.params) s₁.heap with | true=>_ | false=>_)=_
  rw [l1]
 unfold openEnds
 rw [e]
 show (topFrom treeTable pw w 7000 _).map _=_
 rw [t]
 exact congrArg some (Prod.ext l2 l3)
end
section
open PySem PySem.W
theorem QoD:ROWS.map (λ q=>(Qds q.2.1).bind λ d=>Qj8 d.1 d.2.1 d.2.2)=ROWS.map λ q=>cL.fns q.1:=by kernel_rfl
noncomputable def Qpf (d:Arguments×List Stmt×Scope) (n:Nat):Bool:=
 d.1.posonlyargs.isEmpty&&d.1.vararg.isNone&&d.1.kwonlyargs.isEmpty&&d.1.kwarg.isNone&&decide (d.1.args.map (·.arg)).Nodup&&d.2.2.kind==.function&&!d.2.2.isCoroutine&&!d.2.2.isGenerator &&
 Nat.ble n d.1.args.length&&d.2.2.names.all (λ q=>kindOf d.2.2 q.1==some q.2&&q.2 != .free)&&d.1.args.all (λ a=>kindOf d.2.2 a.arg==some .local||kindOf d.2.2 a.arg==some .cell)
theorem Qnc:ROWS.all (λ q=>match Qds q.2.1,cL.fns q.1 with | some d,some f=>Qpf d f.dfl.length | _,_=>false)=true:=by kernel_rfl
noncomputable def QnO (e:Stmt):Option (List Expr×Expr×Pos):=if h:e.ctorIdx=5 then Stmt.Assign.elim (motive_2:=λ _=>Option (List Expr×Expr×Pos)) e h λ ts v p=>some (ts,v,p) else none
theorem QkJ {e:Stmt}{q:List Expr×Expr×Pos}(h:QnO e=some q):e=.Assign q.1 q.2.1 q.2.2:=by
 unfold QnO at h
 split at h
 ·rename_i hi
  exact Stmt.Assign.elim (motive_2:=λ e=>∀ hi:e.ctorIdx=5,Stmt.Assign.elim (motive_2:=λ _=>Option (List Expr×Expr×Pos)) e hi (λ ts v p=>some (ts,v,p))=some q->e=.Assign q.1 q.2.1 q.2.2) e hi (λ ts v p _ h=>Option.some.inj h▸rfl) hi h
 ·exact nomatch h
noncomputable def QnN (e:Stmt):Option (Expr×Pos):=if h:e.ctorIdx=24 then Stmt.Expr.elim (motive_2:=λ _=>Option (Expr×Pos)) e h λ e p=>some (e,p) else none
theorem QkH {e:Stmt}{q:Expr×Pos}(h:QnN e=some q):e=.Expr q.1 q.2:=by
 unfold QnN at h
 split at h
 ·rename_i hi
  exact Stmt.Expr.elim (motive_2:=λ e=>∀ hi:e.ctorIdx=24,Stmt.Expr.elim (motive_2:=λ _=>Option (Expr×Pos)) e hi (λ e p=>some (e,p))=some q->e=.Expr q.1 q.2) e hi (λ e p _ h=>Option.some.inj h▸rfl) hi h
 ·exact nomatch h
noncomputable def QnD (n x:String) (s:Stmt):Bool:=match QnO s with
 | none=>false
 | some q=>match q.1 with
  | []=>false
  | t::r=>r.isEmpty&&atE "self" n t&&nmE x q.2.1
noncomputable def QmT (e:Expr):Option Nat:=(qAt e).map λ q=>q.2.2.endLine
noncomputable def clB (e:Expr):Bool:=match Qgx e with
 | none=>false
 | some q=>match q.2.1 with
  | []=>false
  | a::r=>match r with
   | []=>false
   | b::r=>atE "Exception" "__init__" q.1&&q.2.2.1.isEmpty&&QmT q.1==some q.2.2.2.line&&nmE "self" a&&nmE "message" b&&r.isEmpty
noncomputable def exB (s:Stmt):Bool:=match QnN s with
 | none=>false
 | some q=>clB q.1
noncomputable def Qd8:List Stmt->Bool
 | []=>false
 | a::l=>exB a&&match l with
  | []=>false
  | b::l=>QnD "message" "message" b&&match l with
   | []=>false
   | c::l=>QnD "spot" "spot" c&&l.isEmpty
set_option tactic.hygienic true in
theorem Qhx {n x st}(h:QnD n x st=true):Ex4 λ p q r z=>st=.Assign [.Attribute (.Name "self" p) n q] (.Name x r) z:=by
 unfold QnD at h
 split at h
 ·exact nob h
 ·rename_i q hq
  split at h
  ·exact nob h
  ·rename_i t l ht
   have h:=Bool.and_eq_true_iff.mp h
   have g:=Bool.and_eq_true_iff.mp h.1
   obtain ⟨r,hr⟩:=Qfb h.2
   refine byK λ Pz kz=>?_;obtain ⟨p,z,rfl⟩:=Qfg g.2
   clear h;obtain rfl:=List.isEmpty_iff.mp g.1
   exact kz (⟨p,z,r,q.2.2,by simp only [QkJ hq,ht,hr]⟩)
set_option tactic.hygienic true in
theorem Qm8 {e}(h:clB e=true):Ex5 λ p1 p2 p3 p4 p5=>e=.Call (.Attribute (.Name "Exception" p1) "__init__" p2) [.Name "self" p3,.Name "message" p4] [] p5/\(p2.endLine==p5.line)=true:=by
 unfold clB at h
 split at h
 ·exact nob h
 ·rename_i q hq
  split at h
  ·exact nob h
  ·rename_i a r ha
   split at h
   ·exact nob h
   ·rename_i b r
    simp only [Bool.and_eq_true,List.isEmpty_iff] at h
    refine byK λ Pz kz=>?_;obtain ⟨⟨⟨⟨⟨k1,k2⟩,k3⟩,k4⟩,k5⟩,k6⟩:=h
    refine kz ?_;refine byK λ Pz kz=>?_;obtain ⟨p1,p2,e1⟩:=Qfg k1
    obtain ⟨p3,e3⟩:=Qfb k4
    obtain ⟨p4,e4⟩:=Qfb k5
    rw [e1] at k3
    exact kz (⟨p1,p2,p3,p4,q.2.2.2,by simp only [QdC hq,e1,k2,ha,k6,e3,e4],beq_iff_eq.mpr (Option.some.inj (eq_of_beq k3))⟩)
set_option tactic.hygienic true in
theorem Qm3 {st}(h:exB st=true):Ex6 λ p1 p2 p3 p4 p5 p6=>st=.Expr (.Call (.Attribute (.Name "Exception" p1) "__init__" p2) [.Name "self" p3,.Name "message" p4] [] p5) p6/\(p2.endLine==p5.line)=true:=by
 unfold exB at h
 split at h
 ·exact nob h
 ·rename_i q hq
  refine byK λ Pz kz=>?_;obtain ⟨p1,p2,p3,p4,p5,e,k⟩:=Qm8 h
  exact kz (⟨_,_,_,_,_,q.2,e▸QkH hq,k⟩)
inductive InitSh (l:List Stmt):Prop
 | mk (p1 p2 p3 p4 p5 p6 p7 p8 p9 p10 p11 p12 p13 p14:Pos) (e:l=[.Expr (.Call (.Attribute (.Name "Exception" p1) "__init__" p2) [.Name "self" p3,.Name "message" p4] [] p5) p6,
   .Assign [.Attribute (.Name "self" p7) "message" p8] (.Name "message" p9) p10,.Assign [.Attribute (.Name "self" p11) "spot" p12] (.Name "spot" p13) p14]) (q:(p2.endLine==p5.line)=true)
theorem Qep {l}(h:Qd8 l=true):InitSh l:=by
 cases l with
 | nil=>exact nob h
 | cons a l=>
  have h:=Bool.and_eq_true_iff.mp h
  obtain ⟨p1,p2,p3,p4,p5,p6,rfl,q⟩:=Qm3 h.1
  cases l with
  | nil=>exact absurd h.2 (by decide)
  | cons b l=>
   have h:=Bool.and_eq_true_iff.mp h.2
   obtain ⟨p7,p8,p9,p10,rfl⟩:=Qhx h.1
   cases l with
   | nil=>exact absurd h.2 (by decide)
   | cons c l=>
    obtain ⟨p11,p12,p13,p14,rfl⟩:=Qhx (Bool.and_eq_true_iff.mp h.2).1
    obtain rfl:=List.isEmpty_iff.mp (Bool.and_eq_true_iff.mp h.2).2
    exact ⟨_,_,_,_,_,_,_,_,_,_,_,_,_,_,rfl,q⟩
noncomputable def Qhn (d:Arguments×List Stmt×Scope):Bool:=
 d.1.posonlyargs.isEmpty&&d.1.vararg.isNone&&d.1.kwonlyargs.isEmpty&&d.1.kwarg.isNone&&d.1.args.map (·.arg)==[("self" : Str),("message" : Str),("spot" : Str)]&&d.2.2.kind==.function&&!d.2.2.isCoroutine&&!d.2.2.isGenerator &&
 d.2.2.names.all (λ q=>q.2 != .cell)&&kindOf d.2.2 "self" == some .local&&kindOf d.2.2 "message" == some .local&&kindOf d.2.2 "spot" == some .local&&kindOf d.2.2 "Exception" == some .globalImplicit&&Qd8 d.2.1
theorem Qgf:(Qds 2000).any Qhn=true:=by kernel_rfl
theorem QmJ:(List.range 69).all (λ k=>!(fnL k).isSome||ROWS.any λ q=>q.1==k&&faL k==some q.2.2.1)=true:=by kernel_rfl
theorem QlJ:ROWS.all (λ q=>(ROWS.find? λ r=>r.2.2.2.2.1==q.2.2.2.2.1)==some q&&q.2.2.2.2.1 != 3)=true:=by kernel_rfl
theorem Qk8:AS.all (λ a=>!PS.contains a)=true:=by kernel_rfl
end
section
open PySem PySem.Calls PyProof.Rows
noncomputable def QdT (ps:List Nat) (h:Heap):Heap:=⟨h.objs.mapIdx λ i o=>if ps.contains i then { o with data:=.freed } else o,h.life⟩
theorem Qb6 (ps:List Nat) (h:Heap) (a:Nat):(QdT ps h).get? a=if a∈ps then none else h.get? a:=by
 have e:(QdT ps h).objs[a]?=h.objs[a]?.map λ o=>if ps.contains a then { o with data:=.freed } else o:=Array.getElem?_mapIdx
 unfold Heap.get?
 rw [e]
 by_cases m:a∈ps
 ·rw [if_pos m,List.contains_iff_mem.mpr m]
  cases h.objs[a]?<;>rfl
 ·rw [if_neg m,Bool.eq_false_iff.mpr (λ z=>m (List.contains_iff_mem.mp z))]
  cases h.objs[a]?<;>rfl
theorem QfZ {α:Type}{P:List α->Prop}{l:List α}{n:Nat}(h:l.length=n+1) (k:∀ a t,t.length=n->P (a::t)):P l:=by
 cases l with
 | nil=>contradiction
 | cons a t=>exact k a t (Nat.succ.inj h)
theorem Qe4 {α:Type}{o:Option α}{p:α->Bool}{P:Prop}(h:o.any p=true) (k:∀ x,o=some x->p x=true->P):P:=by
 cases o with
 | none=>exact nob h
 | some x=>exact k x rfl h
theorem anD {a b:Bool}(h:(a&&b)=true):a=true/\b=true:=Bool.and_eq_true_iff.mp h
theorem Qo4 {v:Value}(h:(v.ctorIdx==6)=true):Ex2 λ s t=>v=.str s t:=Value.str.elim (motive:=λ v=>Ex2 λ s t=>v=.str s t) v (eq_of_beq h) λ s t=>⟨s,t,rfl⟩
theorem Qpb {v:Value}(h:(v.ctorIdx==4)=true):Ex2 λ s t=>v=.int s t:=Value.int.elim (motive:=λ v=>Ex2 λ s t=>v=.int s t) v (eq_of_beq h) λ s t=>⟨s,t,rfl⟩
theorem QpU {v:Value}(h:(v.ctorIdx==3)=true):∃ s,v=.bool s:=Value.bool.elim (motive:=λ v=>∃ s,v=.bool s) v (eq_of_beq h) λ s=>⟨s,rfl⟩
theorem QmW {v:Value}{q:Str}(h:v.isStr q=true):∃ t,v=.str q t:=by
 cases v with
 | str s t=>exact ⟨t,eq_of_beq (show (s==q)=true from h)▸rfl⟩
 | _=>exact nob h
theorem QnU {d:Data}(h:(d.ctorIdx==9)=true):d=.fields (QnA d):=Data.fields.elim (motive:=λ d=>d=.fields (QnA d)) d (eq_of_beq h) λ _=>rfl
theorem fnX {d:Data}{f:FuncData}(h:fnO d=some f):d=.func f:=by
 cases d with
 | func g=>exact congrArg _ (Option.some.inj h)
 | _=>exact nos h
theorem Qmg {o:Obj}{c:Value}{k:Nat}(h:QgD o c k=true):o={ cls:=c,data:=o.data }/\o.data.ctorIdx=k:=by
 obtain ⟨c',d,dt,⟨sl⟩⟩:=o
 obtain ⟨h1,u⟩:=anD h
 obtain ⟨h2,v⟩:=anD u
 obtain ⟨h3,w⟩:=anD v
 clear h u v
 obtain rfl:c'=c:=eq_of_beq h1
 obtain rfl:d=none:=eq_of_beq h2
 cases sl with
 | nil=>exact ⟨rfl,eq_of_beq w⟩
 | cons _ _=>exact nob h3
theorem Qo3 {o:Obj}(h:QgD o (.type "tuple") 2=true) {P:Obj->Prop}(k:∀ its n,P { cls:=.type "tuple", data:=.seq its n }):P o:=by
 obtain ⟨e,c⟩:=Qmg h
 exact e.substr (Data.seq.elim (motive:=λ d=>P { cls:=.type "tuple", data:=d }) o.data c k)
structure Head (h:Heap) (G:W.Frag):Prop where
 X:G.In h
 ap:∀ a o,G.lookup a=some o->a ∉ PS
 ok:chk G=true
 parts:Qbz G=partsDue
 tabs:∀ P∈PS,h.get? P=some (W.tabObj #[])
noncomputable def bs (w:World) (h:Heap) (G:W.Frag):Bs where
 prog:=pw
 w:=w
 g:=QdT PS h
 mg:=gNs G 3
 fa:=faL
 tabs:=ROWS.map λ q=>(q.2.2.2.1,q.2.2.2.2.1)
 tq:=λ P=>(((ROWS.find? (λ r=>r.2.2.2.2.1==P)).bind λ q=>fdB G q.2.2.1).map λ fd=>(fd.qualname++(".<locals>." : Str))++("<lambda>" : Str)).getD ""
 KW:=207
 KE:=57
 cx:=cL
section
variable {w:World}{h:Heap}{G:W.Frag}(H:Head h G)
include H
theorem gIn:G.In (QdT PS h):=λ a o e=>by rw [Qb6,if_neg (H.ap a o e)];exact H.X a o e
theorem Qey {a:Nat}(e:nsB G a=true):(QdT PS h).Ns a (gNs G a):=Qe4 e λ o ho e=>by
 obtain ⟨e1,e2⟩:=anD e
 refine ⟨o,_,_,gIn H a o ho,Data.dict.elim (motive:=λ d=>d=.dict (Qj7 d) (d.casesOn 0 (λ _=>0) (λ _ _=>0) (λ _ n=>n) (λ _ _ _=>0) (λ _ _=>0) (λ _=>0) (λ _=>0) (λ _=>0) (λ _=>0) 0)) o.data (eq_of_beq e1) λ _ _=>rfl,λ x hx=>?_,λ name=>?_⟩
 ·obtain ⟨s,t,z⟩:=Qo4 (List.all_eq_true.mp e2 x hx.val)
  exact ⟨s,t,z⟩
 ·unfold gNs;rw [ho];rfl
omit H in
theorem QfH {B:Bs}{g:Heap}{v:V}{u:Value}(e:QgQ v u=true):Val B [] g v u:=by
 cases v with
 | none=>exact Value.none.elim (motive:=λ u=>Val B [] g .none u) u (eq_of_beq e) rfl
 | bool b=>exact (eq_of_beq (show (u==.bool b)=true from e)).substr rfl
 | int i=>cases u with
  | int j t=>obtain rfl:=eq_of_beq (show (i==j)=true from e);exact ⟨t,rfl⟩
  | _=>exact nob e
 | str l=>cases u with
  | str s t=>obtain rfl:=eq_of_beq (show (l==s.cps.toList)=true from e);exact ⟨t,rfl⟩
  | _=>exact nob e
 | _=>exact nob e
omit H in
theorem Qee {B:Bs}{g:Heap}:∀ (l:List V) {us:List Value},QcP l us=true->Vals B [] g l us:=by
 intro l
 induction l with
 | nil=>intro us e;cases us with
  | nil=>rfl
  | cons _ _=>exact nob e
 | cons a l ih=>intro us e;cases us with
  | nil=>exact nob e
  | cons b r=>
   exact ⟨b,r,rfl,QfH (Bool.and_eq_true_iff.mp e).1,ih (Bool.and_eq_true_iff.mp e).2⟩
theorem QlF {l:List V}{t:Nat}(e:Qlt G l t=true):Ex2 λ its n=>(QdT PS h).get? t=some { cls:=.type "tuple", data:=.seq its n }/\QcP l its.toList=true:=Qe4 e λ _ ho e=>
 Qo3 (P:=λ o=>(QdT PS h).get? t=some o->QcP l (Qnv o.data).toList=true->_) (anD e).1 (λ its n z c=>⟨its,n,z,c⟩) (gIn H _ _ ho) (anD e).2
theorem Qoa {v:V}{u:Value}(e:Qo1 G faL v u=true):Val (bs w h G) [] (bs w h G).g v u:=by
 cases v with
 | fn k=>
  cases u with
  | ref a=>exact ⟨a,eq_of_beq e,rfl⟩
  | _=>exact nob e
 | tup l=>
  cases u with
  | ref a=>
   refine byK λ Pz kz=>?_;obtain ⟨its,n,g,c⟩:=QlF H (show Qlt G l a=true from e)
   exact kz (⟨a,its.toList,rfl,by simp,⟨n,by exact g⟩,Qee _ c⟩)
  | _=>exact nob e
 | _=>exact QfH e
theorem chk_parts:Qfc G=true/\(∀ q∈ROWS,Qo7 G q=true)/\QnW G=true/\QnV G=true/\Qj0 G=true:=by
 have:=H.ok
 unfold chk at this
 simp only [Bool.and_eq_true] at this
 refine byK λ Pz kz=>?_;obtain ⟨⟨⟨⟨a,b⟩,c⟩,d⟩,e⟩:=this
 exact kz (⟨a,List.all_eq_true.mp b,c,d,e⟩)
omit H in
theorem QoC {vs:Array Value}{P:Nat}{q:Str}(e:Ql9 vs P q=true) {G:Prop}(k:∀ a b c d f g h t,vs[11]?=some (.ref P)->vs.getD 11 .none=.ref P->vs.getD 18 .none=.str a b->vs.getD 7 .none=.int c d->vs.getD 9 .none=.bool f->vs.getD 10 .none=.int g h->vs[1]?=some (.str q t)->G):G:=by
 obtain ⟨e1,v⟩:=anD e
 obtain ⟨e2,w⟩:=anD v
 obtain ⟨e3,x⟩:=anD w
 obtain ⟨e4,y⟩:=anD x
 obtain ⟨e5,e6⟩:=anD y
 clear e v w x y
 have e2:=eq_of_beq e2
 obtain ⟨t,z⟩:=Qe4 e1 λ v hv hs=>show ∃ t,vs[1]?=some (.str q t) from (QmW hs).elim λ t u=>⟨t,u▸hv⟩
 obtain ⟨a,b,z3⟩:=Qo4 e3
 obtain ⟨c,d,z4⟩:=Qpb e4
 obtain ⟨f,z5⟩:=QpU e5
 obtain ⟨g,h,z6⟩:=Qpb e6
 exact k a b c d f g h t e2 (Array.getD_eq_getD_getElem?.trans (e2.substr rfl)) z3 z4 z5 z6 z
theorem Qm5 {c P:Nat}{q:Str}(e:Qma G c P q=true):W.CodeHd (QdT PS h) c P/\(QdT PS h).CodeRec (.ref c) q:=Qe4 e λ o ho e=>by
 obtain ⟨e1,v⟩:=anD e
 obtain ⟨e2,w⟩:=anD v
 exact QoC (anD w).1 λ a b c d f g h t z1 z2 z3 z4 z5 z6 z=>⟨⟨o,_,a,b,c,d,f,g,h,gIn H _ _ ho,eq_of_beq e1,QnU e2,z1,z2,z3,z4,z5,z6,bne_iff_ne.mp (anD w).2⟩,⟨_,o,_,t,rfl,gIn H _ _ ho,QnU e2,z⟩⟩
structure NamesP (G:W.Frag):Prop where
 n0:nsB G 0=true
 n2:nsB G 2=true
 n3:nsB G 3=true
 hg:∀ g∈List.range 47,Qj2 G g=true
 hb:∀ x∈bnames,gNs G 3 x.1=none/\gNs G 0 x.1=some (Qmb x.2)
 hw:gNs G 3 "Words" = some (.ref 207)
 hf:gNs G 3 "GrammarFault" = some (.ref 57)
 he:gNs G 3 "Exception" = none
 hE:gNs G 0 "Exception" = some (.type "Exception")
 hm:gNs G 3 "__builtins__" = some (.ref 4)
 hl:gNs G 2 "sys.recursionlimit" = none
 h4:((G.lookup 4).any λ o=>o.cls==.type "module" && (o.dict==some builtinsNs&&o.data.ctorIdx==0))=true
omit H in
theorem QcM (hn:Qfc G=true):NamesP G:=by
 unfold Qfc at hn
 simp only [Bool.and_eq_true,beq_iff_eq,List.all_eq_true] at hn
 obtain ⟨⟨⟨⟨⟨⟨⟨⟨⟨⟨⟨n0,n2⟩,n3⟩,hg⟩,hb⟩,hw⟩,hf⟩,he⟩,hE⟩,hm⟩,hl⟩,h4⟩:=hn
 exact ⟨n0,n2,n3,hg,hb,hw,hf,he,hE,hm,hl,by simpa only [Bool.and_eq_true,beq_iff_eq] using h4⟩
omit H in
theorem QiQ {x:Str}{b:BI}:∀ l:List (Str×BI),l.lookup x=some b->(x,b)∈l:=by
 intro l
 induction l with
 | nil=>intro q;exact nos q
 | cons p r ih=>
  obtain ⟨y,c⟩:=p
  rcases Bool.eq_false_or_eq_true (x==y) with z | z<;>intro q<;>rw [List.lookup_cons,z] at q
  ·exact Option.some.inj q▸(eq_of_beq z)▸List.mem_cons_self
  ·exact List.mem_cons_of_mem _ (ih q)
theorem glob:∀ (g:Nat) (x:Str),gnames[g]?=some x->∀ V,cL.gv g=some V->∃ v,gNs G 3 x=some v/\Val (bs w h G) [] (bs w h G).g V v:=λ g x hx V hV=>by
 have e:=(QcM (chk_parts H).1).hg g (List.mem_range.mpr ((List.getElem?_eq_some_iff.mp hx).1))
 unfold Qj2 at e
 rw [hx,hV] at e
 exact Qe4 e λ u hu e=>⟨u,hu,Qoa H e⟩
theorem names:BsNames (bs w h G)/\NamesOk (bs w h G):=by
 have N:=QcM (chk_parts H).1
 refine ⟨⟨Qey H N.n3,glob H⟩,Qey H N.n3,⟨gNs G 0,Qey H N.n0,λ x b hx=>?_⟩,glob H,N.hw,?_⟩
 ·obtain ⟨a,c⟩:=N.hb (x,b) (QiQ _ hx)
  refine ⟨a,?_⟩
  refine c▸?_
  clear a c hx N H;cases b<;>rfl
 ·intro a o ho ht q hq
  obtain ⟨r,hr,rfl⟩:=List.mem_map.mp hq
  rintro rfl
  rw [show (bs w h G).g=QdT PS h from rfl,Qb6,if_pos (show r.2.2.2.2.1∈PS from List.mem_map_of_mem hr)] at ho
  exact nos ho
theorem Qo6 {q:Nat×Nat×Nat×Nat×Nat×Nat}(hq:q∈ROWS) {P:Prop}(k:∀ fd f,fdB G q.2.2.1=some fd->cL.fns q.1=some f->fnB G fd q.2.2.2.1 q.2.2.2.2.1=true →
  (if q.2.2.2.2.2=0 then fd.defaults==.none&&f.dfl.isEmpty else fd.defaults==.ref q.2.2.2.2.2&&Qlt G f.dfl q.2.2.2.2.2)=true->P):P:=
 Qe4 ((chk_parts H).2.1 q hq) λ fd h1 e=>Qe4 e λ f h2 e=>k fd f h1 h2 (anD e).1 (anD e).2
theorem QnT {fd:FuncData}{c P:Nat}(e:fnB G fd c P=true):And5 (fd.globals=mainGlobals) (fd.builtins=builtinsNs) (fd.closure=[]) (fd.code=.ref c) (W.CodeHd (QdT PS h) c P/\(QdT PS h).CodeRec fd.code fd.qualname):=by
 obtain ⟨e1,v⟩:=anD e
 obtain ⟨e2,w⟩:=anD v
 obtain ⟨e3,x⟩:=anD w
 have e4:=eq_of_beq (anD x).1
 exact ⟨eq_of_beq e1,eq_of_beq e2,List.isEmpty_iff.mp e3,e4,e4.substr (Qm5 H (anD x).2)⟩
theorem QlV:LamOk (bs w h G):=by
 refine ⟨λ q hq=>?_⟩
 obtain ⟨r,hr',rfl⟩:=List.mem_map.mp hq
 refine Qo6 H hr' λ fd f _ _ e _=>⟨(QnT H e).h5.1,?_,?_⟩
 ·exact λ z=>bne_iff_ne.mp (anD (List.all_eq_true.mp QlJ r hr')).2 z.symm
 ·have N:=QcM (chk_parts H).1
  refine Qe4 N.h4 λ o ho e=>?_
  obtain ⟨e1,v⟩:=anD e
  refine ⟨4,_,N.hm,by decide,by decide,λ z=>H.ap 4 _ ho (z.substr (List.mem_map_of_mem hr':r.2.2.2.2.1∈PS)),gIn H _ _ ho,eq_of_beq e1,eq_of_beq (anD v).1,Data.plain.elim (motive:=λ d=>d=.plain) o.data (eq_of_beq (anD v).2) rfl⟩
theorem Qj9:ClsOk (bs w h G) G/\W.keepIn G (.ref 207)=true/\W.makesIn G 207=true:=by
 obtain ⟨-,-,hc,-⟩:=chk_parts H
 unfold QnW at hc
 simp only [Bool.and_eq_true,beq_iff_eq,List.all_eq_true] at hc
 refine byK λ Pz kz=>?_;obtain ⟨⟨⟨⟨⟨⟨⟨⟨a1,a2⟩,a3⟩,a4⟩,a5⟩,a6⟩,a7⟩,a8⟩,a9⟩:=hc
 refine kz ?_;refine ⟨⟨gIn H,a1,a2,a3,a4,a5,λ k x hx=>a6 x (List.mem_of_getElem? hx),λ k x hx=>?_⟩,a8,a9⟩
 have hz:(x,k)∈mnames.zipIdx:=by
  rw [List.mem_iff_getElem?]
  exact ⟨k,by simp only [List.getElem?_zipIdx,hx];simp⟩
 exact Qe4 (a7 (x,k) hz) λ f hf e=>⟨f,eq_of_beq (anD e).1,hf,eq_of_beq (anD e).2⟩
omit H in
theorem six {α:Type}{P:Array α->Prop}{a:Array α}(h:a.size=6) (k:∀ a b c d e f,P #[a,b,c,d,e,f]):P a:=by
 obtain ⟨l⟩:=a
 exact QfZ (P:=λ l=>P ⟨l⟩) h λ a _ h=>QfZ (P:=λ l=>P ⟨a::l⟩) h λ b _ h=>QfZ (P:=λ l=>P ⟨a::b::l⟩) h λ c _ h=>QfZ (P:=λ l=>P ⟨a::b::c::l⟩) h λ d _ h=>QfZ (P:=λ l=>P ⟨a::b::c::d::l⟩) h λ e _ h=>
  QfZ (P:=λ l=>P ⟨a::b::c::d::e::l⟩) h λ f _ h=>(List.eq_nil_of_length_eq_zero h).substr (k a b c d e f)
omit H in
theorem QpR {o:Obj}(hg:(bs w h G).g.get? 57=some o) (e:(o.cls==.type "type" && (o.data.ctorIdx==8&&((Qlq o.data).mro==QdY&&((Qlq o.data).hasDel==false&&(o.slots.size==6&&o.slots.getD 4 none==some (.builtin "Exception.__new__"))))))=true):ExcObj (bs w h G):=by
 obtain ⟨c,d,dt,sl⟩:=o
 obtain ⟨e1,v⟩:=anD e
 obtain ⟨e2,u⟩:=anD v
 obtain rfl:c=_:=eq_of_beq e1
 clear e v e1
 refine Data.cls.elim (motive:=λ dt=>(bs w h G).g.get? 57=some ⟨_,d,dt,sl⟩->((Qlq dt).mro==QdY&&((Qlq dt).hasDel==false&&(sl.size==6&&sl.getD 4 none==some (.builtin "Exception.__new__"))))=true->ExcObj (bs w h G)) dt (eq_of_beq e2) (λ cd hg u=>?_) hg u
 obtain ⟨nm,bs',mro,ns,qn,hdct,sn,sub,ab,col,hdel⟩:=cd
 obtain ⟨m1,x⟩:=anD u
 obtain ⟨m2,y⟩:=anD x
 obtain ⟨m3,m4⟩:=anD y
 obtain rfl:mro=_:=eq_of_beq m1
 obtain rfl:hdel=false:=eq_of_beq m2
 refine six (P:=λ sl=>(bs w h G).g.get? 57=some ⟨.type "type", d,.cls ⟨nm,bs',QdY,ns,qn,hdct,sn,sub,ab,col,false⟩,sl⟩->(sl.getD 4 none==some (.builtin "Exception.__new__"))=true->ExcObj (bs w h G)) (eq_of_beq m3) (λ k0 k1 k2 k3 k4 k5 hg m4=>?_) hg m4
 obtain rfl:k4=some (.builtin "Exception.__new__"):=eq_of_beq m4
 exact ⟨nm,qn,ns,32,bs',hdct,sn,sub,ab,col,d,k0,k1,k2,k3,k5,hg⟩
theorem Ql6:ExcOk (bs w h G) G/\ExcAt (bs w h G):=by
 obtain ⟨hn,-,-,hc,-⟩:=chk_parts H
 unfold QnV at hc
 simp only [Bool.and_eq_true,beq_iff_eq] at hc
 refine byK λ Pz kz=>?_;obtain ⟨⟨⟨⟨⟨⟨b1,b2⟩,b3⟩,b4⟩,b5⟩,b6⟩,b7⟩:=hc
 refine kz ⟨⟨gIn H,Qe4 b1 λ cd hcd e=>⟨32,cd,hcd,eq_of_beq (anD e).1,(anD e).2⟩,b2,b3,b4,b5,b6⟩,?_,(QcM hn).hf⟩
 refine Qe4 b7 λ o ho e=>?_
 exact QpR (gIn H _ _ ho) e
end
end
section
open PySem PySem.Calls PyProof.Rows
section
variable {w:World}{h:Heap}{G:W.Frag}(H:Head h G)
include H
theorem Qhe:(∀ q∈ROWS,Qdg G q.2.2.1=(Qds q.2.1).map λ d=>(d.1,.stmts d.2.1,d.2.2))/\Qdg G 29=(Qds 2000).map λ d=>(d.1,.stmts d.2.1,d.2.2):=by
 have e:=H.parts
 unfold Qbz partsDue at e
 simp only [List.map_cons,List.map_map,List.cons.injEq] at e
 exact ⟨λ q hq=>List.map_inj_left.mp e.2 q hq,e.1⟩
theorem Ql2 {a:Nat}{fd:FuncData}(e:fdB G a=some fd):∃ o,And3 (G.lookup a=some o) ((QdT PS h).get? a=some o) (o.data=.func fd):=by
 obtain ⟨o,ho,e⟩:=Option.bind_eq_some_iff.mp e
 exact ⟨o,ho,gIn H _ _ ho,fnX e⟩
omit H in
theorem Qm1 {k:Nat}{f:Fn}(hk:fnL k=some f):k<69:=by
 by_cases z:k<69
 ·exact z
 ·have e:fnT[k]?=none:=List.getElem?_eq_none (Nat.le_of_not_lt z)
  unfold fnL at hk;rw [e] at hk;exact nos hk
omit H in
theorem Qom {k:Nat}{f:Fn}(hk:fnL k=some f):∃ q,q∈ROWS/\q.1=k/\faL k=some q.2.2.1:=by
 have r1:=List.all_eq_true.mp QmJ k (List.mem_range.mpr (Qm1 hk))
 rw [hk] at r1
 obtain ⟨q,hq,e⟩:=List.any_eq_true.mp (show (ROWS.any λ q=>q.1==k&&faL k==some q.2.2.1)=true from r1)
 exact ⟨q,hq,eq_of_beq (anD e).1,eq_of_beq (anD e).2⟩
theorem Qou:FnsOk (bs w h G):=by
 have N:=QcM (chk_parts H).1
 refine ⟨⟨_,Qey H N.n2,N.hl⟩,λ k f hk=>?_⟩
 obtain ⟨q,hq,rfl,hfa⟩:=Qom hk
 refine Qo6 H hq λ fd f' h1 h2 e e6=>?_
 obtain rfl:f'=f:=Option.some.inj (h2.symm.trans hk)
 obtain ⟨e1,e2,e3,e4,e5⟩:=QnT H e
 obtain ⟨o,_,hget,hdata⟩:=Ql2 H h1
 have ep:=(Qhe H).1 q hq
 unfold Qdg at ep
 rw [h1] at ep
 have ec:=List.map_inj_left.mp QoD q hq
 have ea:=List.all_eq_true.mp Qnc q hq
 cases hd:Qds q.2.1 with
 | none=>rw [hd] at ep;contradiction
 | some d=>
  obtain ⟨d1,d2,d3⟩:=d
  rw [hd] at ep ec ea
  clear hd
  simp only [Option.map_some,Option.some.injEq,Prod.mk.injEq] at ep
  obtain ⟨rfl,eb,rfl⟩:=ep
  have ec:Qj8 fd.params d2 fd.scope=some f':=ec.trans h2
  rw [h2] at ea
  simp only [Qpf,Bool.and_eq_true,beq_iff_eq,Bool.not_eq_true',decide_eq_true_eq,List.all_eq_true,Nat.ble_eq,Option.isNone_iff_eq_none,List.isEmpty_iff,bne_iff_ne,Bool.or_eq_true] at ea
  refine byK λ Pz kz=>?_;obtain ⟨⟨⟨⟨⟨⟨⟨⟨⟨⟨s1,s2⟩,s3⟩,s4⟩,s5⟩,s6⟩,s7⟩,s8⟩,s9⟩,s10⟩,s11⟩:=ea
  refine kz ?_;unfold Qj8 at ec
  simp only [Option.bind_eq_bind,Option.bind_eq_some_iff,Option.pure_def,Option.some.injEq] at ec
  refine byK λ Pz kz=>?_;obtain ⟨xs,c1,is,c2,ds,c3,cells,c4,rfl⟩:=ec
  have cx:xs=fd.params.args.map (·.arg):=by
   unfold QaN at c1
   split at c1
   ·obtain rfl:=Option.some.inj c1;rfl
   ·contradiction
  clear hk h2 c3 c1 ec N;subst cx
  refine kz ?_;refine ⟨q.2.2.1,o,fd,d2,hfa,⟨hget,hdata,eb,s6,s7,s8,e1,e2,e3,e5.2,?_,?_,s5,?_,by rw [List.length_map];exact s9,c2,rfl,c4,rfl,λ z hz=>(s10 z hz).1,λ z hz=>(s10 z hz).2,?_⟩⟩
  ·refine ⟨q.2.2.2.1,q.2.2.2.2.1,e4,List.mem_map_of_mem (f:=λ q:Nat×Nat×Nat×Nat×Nat×Nat=>(q.2.2.2.1,q.2.2.2.2.1)) hq,?_⟩
   show ((((ROWS.find? λ r=>r.2.2.2.2.1==q.2.2.2.2.1).bind λ q=>fdB G q.2.2.1).map λ fd=>(fd.qualname++(".<locals>." : Str))++("<lambda>" : Str)).getD "")=_
   rw [eq_of_beq (anD (List.all_eq_true.mp QlJ q hq)).1]
   show (((fdB G q.2.2.1).map λ fd=>(fd.qualname++(".<locals>." : Str))++("<lambda>" : Str)).getD "")=_
   rw [h1];rfl
  ·exact ⟨s1,s2,s3,s4⟩
  ·by_cases z:q.2.2.2.2.2=0
   ·rw [if_pos z] at e6
    exact .inl ⟨eq_of_beq (anD e6).1,List.isEmpty_iff.mp (anD e6).2⟩
   ·rw [if_neg z] at e6
    obtain ⟨its,n,g,c⟩:=QlF H (anD e6).2
    exact .inr ⟨q.2.2.2.2.2,its,n,eq_of_beq (anD e6).1,g,Qee _ c⟩
  ·intro x hx
   obtain ⟨a,ha,rfl⟩:=List.mem_map.mp hx
   exact s11 a ha
end
end
section
open PySem PySem.Calls PyProof.Rows
section
variable {w:World}{h:Heap}{G:W.Frag}(H:Head h G)
include H
omit H in
theorem inX {o:Option W.CFound}{x:String}(h:(inB o==some x)=true):o=some (.val (.builtin x)):=by
 have e:=eq_of_beq h
 cases o with
 | none=>exact nos e
 | some x=>cases x with
  | get=>exact nos e
  | val v=>cases v with
   | builtin s=>exact congrArg (λ x=>some (W.CFound.val (.builtin x))) (Option.some.inj e)
   | _=>exact nos e
theorem QmX:InitOk (bs w h G) G:=by
 have N:=QcM (chk_parts H).1
 have hc:=(chk_parts H).2.2.2.2
 unfold Qj0 at hc
 simp only [Bool.and_eq_true] at hc
 refine byK λ Pz kz=>?_;obtain ⟨⟨⟨⟨⟨⟨i1,i2⟩,i3⟩,i4⟩,i5⟩,i6⟩,i7⟩:=hc
 refine kz ⟨⟨N.he,gNs G 0,Qey H N.n0,N.hE⟩,eq_of_beq i1,inX i2,eq_of_beq i3,⟨_,Qey H N.n2,N.hl⟩,?_⟩
 refine Qe4 i6 λ fd hfd e=>?_
 obtain ⟨e1,e2,e3,e4,e5⟩:=QnT H (anD e).1
 refine Qe4 i7 λ ot ho et=>?_
 obtain ⟨o,_,hget,hdata⟩:=Ql2 H hfd
 have ep:=(Qhe H).2
 unfold Qdg at ep
 rw [hfd] at ep
 have ea:=Qgf
 clear i1 i2 i3 i6 i7 hfd N
 cases hd:Qds 2000 with
 | none=>contradiction
 | some d=>
  obtain ⟨d1,d2,d3⟩:=d
  rw [hd] at ep ea
  clear hd
  simp only [Option.map_some,Option.some.injEq,Prod.mk.injEq] at ep
  obtain ⟨rfl,p2,rfl⟩:=ep
  simp only [Option.any_some,Qhn,Bool.and_eq_true,beq_iff_eq,Bool.not_eq_true',List.all_eq_true,Option.isNone_iff_eq_none,List.isEmpty_iff,bne_iff_ne] at ea
  refine byK λ Pz kz=>?_;obtain ⟨⟨⟨⟨⟨⟨⟨⟨⟨⟨⟨⟨⟨s1,s2⟩,s3⟩,s4⟩,s5⟩,s6⟩,s7⟩,s8⟩,s9⟩,s10⟩,s11⟩,s12⟩,s13⟩,s14⟩:=ea
  refine kz ?_;refine byK λ Pz kz=>?_;obtain ⟨q1,q2,q3,q4,q5,q6,q7,q8,q9,q10,q11,q12,q13,q14,rfl,sL⟩:=Qep s14
  exact kz (Qo3 (P:=λ ot=>(QdT PS h).get? 22=some ot->Nat.ble (Qnv ot.data).size 3=true->_) (anD et).1 (λ its n g l=>⟨29,o,fd,q1,q2,q3,q4,q5,q6,q7,q8,q9,q10,q11,q12,q13,q14,22,its,n,eq_of_beq i4,eq_of_beq i5,hget,hdata,p2,sL,s6,s7,s8,e1,e2,e3,e5.2,⟨s1,s2,s3,s4⟩,s5,eq_of_beq (anD e).2,g,Nat.le_of_ble_eq_true l,s9,s10,s11,s12,s13⟩) (gIn H _ _ ho) (anD et).2)
theorem QpQ:Full (bs w h G) G where
 N:=(names H).2
 LO:=QlV H
 C:=(Qj9 H).1
 X:=(Ql6 H).1
 G:=(Ql6 H).2
 hKW:=(Qj9 (w:=w) H).2.1
 F:=Qou H
 init:=QmX H
 mkw:=(Qj9 (w:=w) H).2.2
end
end
section
open PySem PySem.W PySem.Calls PyProof.Rows
noncomputable abbrev rw1:=PySem.Challenge.rw_xw0184_01
noncomputable def YP (_:World) (h:Heap):Prop:=∃ G,Head h G
theorem Qc5 {as:List Nat}{h:Heap}{a:Nat}{o:Obj}:(Qet as h).lookup a=some o->a∈as/\h.get? a=some o:=by
 unfold Qet
 induction as with
 | nil=>intro e;exact nos e
 | cons b r ih=>
  intro e
  rw [List.filterMap_cons] at e
  cases hb:h.get? b with
  | none=>rw [hb] at e;exact ⟨List.mem_cons_of_mem _ (ih e).1,(ih e).2⟩
  | some o'=>
   rw [hb] at e
   simp only [Option.map_some] at e
   simp only [List.lookup_cons] at e
   split at e
   ·rename_i q;obtain rfl:=Option.some.inj e;refine (beq_iff_eq.mp q).symm▸?_;exact ⟨List.mem_cons_self,hb⟩
   ·exact ⟨List.mem_cons_of_mem _ (ih e).1,(ih e).2⟩
theorem hY (w:World) (s:Shared) (e:Yf s=Ya w):YP w s.heap:=by
 unfold Yf Ya at e
 simp only [Prod.mk.injEq,Bool.and_eq_true] at e
 obtain ⟨⟨e1,e2⟩,e3⟩:=e
 refine ⟨Qet AS s.heap,λ a o h=>(Qc5 h).2,λ a o h=>?_,e1,e3,λ P hP=>?_⟩
 ·have:=List.all_eq_true.mp Qk8 a (Qc5 h).1
  simpa using this
 ·refine Qe4 (List.all_eq_true.mp e2 P hP) λ o ho e=>?_
  obtain ⟨z,c⟩:=Qmg (anD e).1
  have hf:=QnU (beq_iff_eq.mpr c)
  exact ho.trans (congrArg some (z.trans (congrArg (λ d=>({ cls:=.none,data:=d }:Obj)) (hf.trans (congrArg Data.fields (Array.isEmpty_iff.mp (anD e).2))))))
theorem hYk (w:World) (h h':Heap) (y:YP w h) (k:∀ b o,h.get? b=some o->h'.get? b=some o):YP w h':=by
 obtain ⟨G,H⟩:=y
 exact ⟨G,λ a o e=>k _ _ (H.X a o e),H.ap,H.ok,H.parts,λ P hP=>k _ _ (H.tabs P hP)⟩
section
variable {w:World}{h:Heap}{G:W.Frag}(H:Head h G)
include H
theorem QnQ:Inv (bs w h G) [] [] [] h where
 keep:=λ b o e=>by
  rw [show (bs w h G).g=QdT PS h from rfl,Qb6] at e
  split at e
  ·exact nos e
  ·exact e
 fresh:=λ a m=>(nomatch m)
 nodup:=List.nodup_nil
 len:=rfl
 objs:=λ i a o e=>by trivial
 frames:=λ e m=>(nomatch m)
 tabs:=λ q hq=>by
  obtain ⟨r,hr,rfl⟩:=List.mem_map.mp hq
  have m:r.2.2.2.2.1∈PS:=List.mem_map_of_mem hr
  refine ⟨by rw [show (bs w h G).g=QdT PS h from rfl,Qb6,if_pos m],#[],H.tabs _ m,trivial,λ pos cv e=>by trivial⟩
 notab:=λ q _ m=>(nomatch m)
theorem QpO {h':Heap}{ι':List Addr}{σ':List O}(g:Go (bs w h G) [] [] [] h ι' h') (I:Inv (bs w h G) [] ι' σ' h'):OldK h h':=by
 have key:∀ b o,h.get? b=some o->asItWas h h' b o/\∃ o',h'.get? b=some o':=by
  intro b o e
  obtain ⟨o',e',k⟩:=g.step b o e
  refine ⟨?_,o',e'⟩
  by_cases m:b∈PS
  ·obtain ⟨r,hr,rfl⟩:=List.mem_map.mp m
   have hq:(r.2.2.2.1,r.2.2.2.2.1)∈(bs w h G).tabs:=List.mem_map_of_mem (f:=λ q:Nat×Nat×Nat×Nat×Nat×Nat=>(q.2.2.2.1,q.2.2.2.2.1)) hr
   obtain ⟨_,ps,hp,-⟩:=I.tabs _ hq
   have ho:=H.tabs _ m
   rw [e] at ho
   obtain rfl:=Option.some.inj ho
   refine byK λ Pz kz=>?_;obtain ⟨oc,vs,f1,f2,f3,f4,f5,f6,f7,c1,c2,c3,c4,-⟩:=((QlV (w:=w) H).code _ hq).1
   refine kz ?_;refine .inr (.inl ⟨⟨_,oc,vs,(QnQ (w:=w) H).keep _ _ c1,c2,c3,c4⟩,rfl,#[],ps,rfl,?_⟩)
   simpa using hp
  ·have k:=(k (by simp) (λ q hq=>by
    obtain ⟨r,hr,rfl⟩:=List.mem_map.mp hq
    rintro rfl
    exact m (List.mem_map_of_mem hr))).1 (.inr ⟨by simp,.inr (by simp)⟩)
   simp only [k] at e'
   exact .inl e'
 exact ⟨λ b o e=>(key b o e).1,λ b o e=>(key b o e).2⟩
end
end
section
open PySem PySem.W PySem.Calls PyProof.Rows
theorem Qdi {R:WRecords}:∀ {xs:List WData},WShape.hasItems R xs .int=true->∃ l:List Int,xs=l.map .int
 | [],_=>⟨[],rfl⟩
 | x::xs,e=>by
  rw [WShape.hasItems,Bool.and_eq_true] at e
  obtain ⟨l,rfl⟩:=Qdi e.2
  obtain ⟨i,rfl⟩:=hasW_int e.1
  exact ⟨i::l,rfl⟩
theorem QkS {R:WRecords}{args:List WData}(e:WShape.hasAll R args [.list .int]=true):∃ l:List Int,args=[.list (l.map .int)]:=by
 obtain ⟨d,r,rfl,h1,h2⟩:=hasAllW_cons e
 obtain rfl:=hasAllW_nil h2
 obtain ⟨xs,rfl,h3⟩:=hasW_list h1
 obtain ⟨l,rfl⟩:=Qdi h3
 exact ⟨l,rfl⟩
theorem Qd1 {B:Bs}{h g:Heap}{P:Params}:∀ (l:List Int) {vs:List Value},WellAll P h vs (l.map .int)->Vals B [] g (l.map .int) vs
 | [],_,.nil=>rfl
 | i::l,_,.cons (v:=v) (vs:=vs) h1 h2=>by
  cases h1
  exact ⟨_,vs,rfl,⟨_,rfl⟩,Qd1 l h2⟩
theorem QpF {w:World}{s:Shared}{G:W.Frag}(H:Head s.heap G) (hg:s.gens=#[]) {l:List Int}{v:Value}(hw:Well w.params s.heap v (.list (l.map .int))) {E:Value->Shared->Prop}{Q:Value->Shared->Prop}
  (hQ:∀ s',OldK s.heap s'.heap->s'.os=s.os->AllBare s'.gens->Q (.bool true) s'):wpAny (model pw w) callerA (PySem.call (.ref 814) [v] []) Q E s:=by
 obtain ⟨τ,hlaw⟩:=Qoj l
 cases hw with
 | @list a vs xs hget hvs=>
  have C:=(QdL (QpQ (w:=w) H) 30 [] (1+claimMargin) 4 (by decide) (by decide)).fn callerA 0 [] [] s (.fn 46) (.ref 814) [.lst (l.map .int)] [.ref a] ⟨rfl,rfl,Nat.le_refl _,Nat.le_refl _⟩ (QnQ H)
   ⟨814,rfl,rfl⟩ ⟨.ref a,[],rfl,⟨a,vs,rfl,⟨0,by
    rw [show (bs w s.heap G).g=QdT PS s.heap from rfl,Qb6,if_neg (λ m=>by have:=H.tabs _ m;rw [hget] at this;cases this)];exact hget⟩,Qd1 l hvs⟩,rfl⟩ (by rw [show (bs w s.heap G).cx=cL from rfl,hlaw];exact λ z=>by cases z)
  have c:=C.2 (by rw [show (bs w s.heap G).cx=cL from rfl,hlaw];exact λ z=>by cases z)
  refine wpAny_mono c (λ u s' q=>?_) λ e s' q=>?_
  ·obtain ⟨x,σ',ι',hr,g,i,r,sm⟩:=q
   rw [show (bs w s.heap G).cx=cL from rfl,hlaw] at hr
   cases hr
   have hu:u=.bool true:=r
   subst hu
   exact hQ s' (QpO H g i) sm.2.2 (.of_eq (sm.1.trans hg))
  ·obtain ⟨m,sp,σ',ι',hr,-⟩:=q
   rw [show (bs w s.heap G).cx=cL from rfl,hlaw] at hr
   cases hr
theorem QkN {h:Heap}{a:Addr}{m m':Str->Option Value}(x:h.Ns a m) (y:h.Ns a m') (n:Str):m n=m' n:=by
 refine byK λ P k=>?_
 obtain ⟨o,es,ep,h1,h2,_,h3⟩:=x
 obtain ⟨o',es',ep',g1,g2,_,g3⟩:=y
 have e:=(Data.dict.inj (h2.symm.trans ((congrArg Obj.data (Option.some.inj (h1.symm.trans g1))).trans g2))).1
 exact k ((h3 n).symm.trans ((congrArg (nsFind · n) e).trans (g3 n)))
theorem QmV (w:World) {s:Shared}{G:W.Frag}(H:Head s.heap G) {mg:Str->Option Value}(hn:s.heap.Ns mainGlobals mg) {a:Addr}(e:mg "law" = some (.ref a)):a=814:=by
 refine byK λ P k=>?_
 obtain ⟨v,hv,b,hb,rfl⟩:=glob (w:=w) H 46 (Str.ofString "law") (by kernel_rfl) (.fn 46) rfl
 obtain ⟨o,es,ep,h1,h2⟩:=Qey H (QcM (chk_parts H).1).n3
 have z:=QkN hn (⟨o,es,ep,(QnQ (w:=w) H).keep _ _ h1,h2⟩:s.heap.Ns mainGlobals _) "law"
 have z:=Value.ref.inj (Option.some.inj (e.symm.trans (z.trans hv)))
 exact k (z.trans (Option.some.inj (hb.symm.trans (show faL 46=some 814 by kernel_rfl))))
end
section
open PySem PySem.W PySem.Calls PyProof.Rows
theorem Qhs:(defOf qv rw1.row.name).isSome=true:=by kernel_rfl
noncomputable def dLaw:DefRec×List (Str×Expr):=(defOf qv rw1.row.name).get Qhs
theorem hdef:defOf qv rw1.row.name=some (dLaw.1,dLaw.2):=(Option.some_get Qhs).symm
theorem hp:rw1.row.prog.theDef rw1.row.name=some (dLaw.1.params,dLaw.1.body,dLaw.1.scope):=by kernel_rfl
theorem hk:kwWritten? dLaw.1.params.kwonlyargs dLaw.1.params.kw_defaults=some dLaw.2:=by kernel_rfl
theorem hok:(chainsOk qv&&opensWell rw1.row.prog&&(frees rw1.row.toRowW&&rw1.row.within.isEmpty))=true:=by kernel_rfl
theorem Qos:rw1.row.prog.bare:=⟨by kernel_rfl,by kernel_rfl,by kernel_rfl,by kernel_rfl,by kernel_rfl,by kernel_rfl⟩
theorem Qor:rw1.row.toRowW.promised:=⟨[.list []],by kernel_rfl,by kernel_rfl⟩
theorem Qqt:dLaw.1.name=Str.ofString "law" := by kernel_rfl
end
section
open PySem PySem.W PySem.Calls PyProof.Rows
theorem QkK (a:List WData):rw1.row.claim.post a (.bool true) a=true:=by
 show (WShape.has [] (.bool true) .bool&&WTm.holds [] (.eq .res (.lit (.bool true))) { args:=a,res:=some (.bool true),after:=a })=true
 have h1:WShape.has [] (.bool true) .bool=true:=by rfl
 have h2:same (.bool true) (.bool true)=true:=by kernel_rfl
 rw [h1,WTm.holds,WTm.value,WTm.value,WTm.value]
 simp only [h2,Bool.and_self]
theorem Qn9:WalkO qv loose (λ _ _=>True) YP rw1.row.toRowW dLaw.1 dLaw.2 λ f vs=>PySem.call f vs:=by
 intro w s₀ s₁ mg mb G Y a o pm cd doc dV kV ho hd hcd hD hmg hg args vals as hpre hlay hrd hwl hlo
 obtain ⟨F,H⟩:=Y
 obtain rfl:=QmV w H G.T.g hmg
 obtain ⟨l,rfl⟩:=QkS (pre_splitW hpre).1
 cases hwl with
 | cons h1 h2=>
  clear hrd hlay hpre hmg ho hlo hD hcd hd G;cases h2
  refine QpF H hg h1 λ s' k os ab=>⟨.inl ⟨.bool true,.bool true,[],rfl,λ _=>rfl,.bool true,?_,λ _=>⟨List.nodup_nil,λ a m=>(nomatch m)⟩⟩,k,os,ab⟩
  exact QkK _
theorem law_holds (t0:QnE false) (t1:QnE true) (ws:rw1.wellSaid=true):rw1.Holds:=
 holds_law ws λ said=>holds_open (q:=qv) (loose:=loose) (Xt:=λ _=>true) (XP:=λ _ _=>True) (Yf:=Yf) (Ya:=Ya) (YP:=YP) (d:=dLaw.1) (kwd:=dLaw.2) (N:=7000)
  (left t0 t1) hY hYk (λ _ _=>trivial) (λ _ _ _ _ _=>trivial) hdef hp hk (λ _ _=>recFacts_nil rfl) rfl said hok Qos Qor Qn9
end
end Mine
theorem PySem.Challenge.cw_xw0184_01_holds : PySem.Challenge.rw_xw0184_01.Holds :=
  Mine.law_holds Mine.top0 Mine.top1 Mine.ws
