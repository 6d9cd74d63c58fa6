import PyProof.Rows.All
import PyProof.StrLawsTight
import PyProof.ListRange
import Wide.All
import OpenK.AllK
import Wide.FinOn
import KE.KSuper
import KE.KIntText
import KE.FramesApart
import PyProof.ExcBaseAll.Exception
import Lean
import PySem.Challenge.RW_sa0044_02
open PySem PySem.W PySem.Calls PyProof.Rows
set_option Elab.async false
set_option linter.all false
set_option compiler.extract_closed false
set_option genSizeOf false
set_option hygiene false
set_option maxRecDepth 100000
namespace Mine
theorem omT {a b c:Nat} (h:a ≤ b:=by walk_at "a") (e:Nat.ble b c = true:=by walk_at "r"):a ≤ c:=Nat.le_trans h (Nat.le_of_ble_eq_true e)
theorem omTs {a b c:Nat} (h:a ≤ b) (e:Nat.ble (b + 1) c = true):a < c:=Nat.lt_of_le_of_lt h (Nat.le_of_ble_eq_true e)
theorem omTl {a b c:Nat} (h:a < b:=by walk_at "a") (e:Nat.ble b c = true:=by walk_at "r"):a < c:=Nat.lt_of_lt_of_le h (Nat.le_of_ble_eq_true e)
theorem omS {a b c:Nat} (h:a < b) (e:Nat.ble b (c + 1) = true):a ≤ c:=Nat.le_of_lt_succ (Nat.lt_of_lt_of_le h (Nat.le_of_ble_eq_true e))
theorem omR {n k j i:Nat} (h:k < n:=by walk_at "a") (e:Nat.ble (i + j) k = true:=by walk_at "r"):i < n - j:=Nat.lt_sub_of_add_lt (Nat.lt_of_le_of_lt (Nat.le_of_ble_eq_true e) h)
theorem omR2 {n k j j' i:Nat} (h:k < n) (e:Nat.ble (i + j' + j) k = true):i < n - j - j':=omR (k:=i + j') (omR h e) (Nat.ble_self_eq_true _)
theorem omB {n k i:Nat} (h:k < n:=by walk_at "a") (e:Nat.ble i k = true:=by walk_at "r"):i < n:=Nat.lt_of_le_of_lt (Nat.le_of_ble_eq_true e) h
theorem omA {a b c j:Nat} (h:a ≤ b:=by walk_at "a") (e:Nat.ble (b + j) c = true:=by walk_at "r"):a + j ≤ c:=Nat.le_trans (Nat.add_le_add_right h j) (Nat.le_of_ble_eq_true e)
theorem omA2 {a b c j:Nat} (h:a ≤ b) (e:Nat.ble (j + b) c = true):j + a ≤ c:=Nat.le_trans (Nat.add_le_add_left h j) (Nat.le_of_ble_eq_true e)
theorem omAA {a b c i j:Nat} (h:a ≤ b) (e:Nat.ble (b + i + j) c = true):a + i + j ≤ c:=omA (omA h (Nat.ble_self_eq_true _)) e
theorem omE {a x b c:Nat} (q:x = a:=by walk_at "a") (h:a ≤ b:=by walk_at "a") (e:Nat.ble b c = true:=by walk_at "r"):x ≤ c:=q ▸ omT h e
theorem omEl {a x b c:Nat} (q:x = a) (h:a < b) (e:Nat.ble b (c + 1) = true):x ≤ c:=q ▸ omS h e
theorem omN {k n n' i:Nat} (q:n' = n) (h:k < n) (e:Nat.ble i k = true):i < n':=q ▸ omB h e
theorem omNs {k n n' j i:Nat} (q:n' = n - j) (h:k < n) (e:Nat.ble (i + j) k = true):i < n':=q ▸ omR h e
theorem omNN {k n n' n'' j i:Nat} (q':n'' = n' - j) (q:n' = n) (h:k < n) (e:Nat.ble (i + j) k = true):i < n'':=omNs (q ▸ q') h e
theorem omD {a b:Nat} (h:a < b + 1) (n:¬ a = b):a < b:=Nat.lt_of_le_of_ne (Nat.le_of_lt_succ h) n
theorem omL {a b c:Nat} (h:a < b) (e:b = c):a < c:=e ▸ h
theorem omM {a b c:Nat} (h:a < b:=by walk_at "a") (e:c = b:=by walk_at "a"):a < c:=e ▸ h
theorem omP {a b c:Nat} (h:a < b:=by walk_at "a") (e:Nat.ble b c = true:=by walk_at "r"):((a:Int)).natAbs < c:=Nat.lt_of_lt_of_le (show ((a:Int)).natAbs < b from h) (Nat.le_of_ble_eq_true e)
theorem omCl {a b c d:Nat} (h:a < b) (g:b ≤ c) (e:Nat.ble c d = true):a < d:=Nat.lt_of_lt_of_le h (omT g e)
theorem omI {a b i:Nat} (h:a ≤ b + i):a ≤ b + (i + 1):=Nat.le_succ_of_le h
theorem omI1 {a b i:Nat} (h:a ≤ b + i):a + 1 ≤ b + (i + 1):=Nat.succ_le_succ h
theorem omV8 {a b k:Nat} (h:a + k ≤ b):a ≤ b:=Nat.le_trans (Nat.le_add_right _ _) h
theorem omMap {α β:Type} {f:α → β} {l:List α} {b c:Nat} (h:l.length ≤ b) (e:Nat.ble b c = true):(l.map f).length ≤ c:=List.length_map (as:=l) f ▸ omT h e
theorem bc {p:Prop} (h:¬p → False):p:=Classical.byContradiction h
theorem om0 {a b:Nat} (e:Nat.ble a b = true):a ≤ b:=Nat.le_of_ble_eq_true e
theorem omz {n:Nat}:(0:Int) ≤ (n:Int):=Int.natCast_nonneg n
theorem nS {α:Type} {a:α} {P:Prop} (h:none = some a):P:=by cases h
theorem sN {α:Type} {a:α} {P:Prop} (h:some a = none):P:=by cases h
theorem nC {α:Type} {a:α} {l:List α} {P:Prop} (h:[] = a :: l):P:=by cases h
theorem cN {α:Type} {a:α} {l:List α} {P:Prop} (h:a :: l = []):P:=by cases h
theorem nM {α:Type} {a:α} {P:Prop} (h:a ∈ []):P:=by cases h
theorem nn2 {α:Type} {x:Option α} {a:α} {P:Prop} (h:x = none) (e:x = some a):P:=nS (h.symm.trans e)
theorem nn3 {α:Type} {x:Option α} {a:α} {P:Prop} (h:x = some a) (e:x = none):P:=sN (h.symm.trans e)
@[elab_as_elim] theorem zD8 {α β:Type} {P:β → Prop} {o:Option α} {f:α → β} {b:β} (h:o.map f = some b) (k:∀ x,o = some x → P (f x)):P b:=by
 obtain ⟨x,hx,rfl⟩:=Option.map_eq_some_iff.mp h;exact k x hx
@[elab_as_elim] theorem zAi {α β:Type} {P:β → Prop} {l:List α} {f:α → β} {b:β} (h:b ∈ l.map f) (k:∀ x,x ∈ l → P (f x)):P b:=by
 obtain ⟨x,hx,rfl⟩:=List.mem_map.mp h;exact k x hx
theorem bx {P:Prop} {a b:Bool} (e:a = b) (h:(a ^^ b) = true:=by exact rfl):P:=by
 subst e;rw [Bool.xor_self] at h;exact Bool.noConfusion h
protected def nk (k:String) (a:Array Lean.Syntax):Lean.Syntax:=.node .none (("Lean.Parser." ++ k).toName) a
protected def sq (a:Array Lean.Syntax):Lean.Syntax:=Mine.nk "Tactic.tacticSeq" #[Mine.nk "Tactic.tacticSeq1Indented" #[Lean.mkNullNode (Lean.mkSepArray a (Lean.mkAtom ";"))]]
protected def nt (k s:String) (a:Array Lean.Syntax):Lean.Syntax:=Mine.nk ("Tactic." ++ k) (#[Lean.mkAtom s] ++ a)
protected def ap (n:String) (a:Array Lean.Syntax):Lean.Syntax:=if a.isEmpty then Lean.mkIdent n.toName else Mine.nk "Term.app" #[Lean.mkIdent n.toName,Lean.mkNullNode a]
protected def byT (t:Lean.Syntax):Lean.Syntax:=Mine.nk "Term.byTactic" #[Lean.mkAtom "by",Mine.sq #[t]]
protected def wk (s:String):Lean.Syntax:=.node .none `PyProof.Rows.tacticWalk_at_ #[Lean.mkAtom "walk_at ",Lean.Syntax.mkStrLit s]
protected def xr:Lean.Syntax:=Mine.nt "exact" "exact" #[Lean.mkIdent `rfl]
protected def fi (a:Array Lean.Syntax):Lean.Syntax:=Mine.nt "first" "first" #[Lean.mkNullNode (a.map fun s=> .node .none `group #[Lean.mkAtom "|",s])]
protected def rp (t:Lean.Syntax):Lean.Syntax:=Mine.nt "tacticRepeat_" "repeat" #[Mine.sq #[t]]
protected def arg (c:Char):Lean.Syntax :=
 let r:=Mine.byT (Mine.nt "withUnfoldingAll" "with_unfolding_all" #[Mine.sq #[if c == '@' then Mine.wk "mm" else Mine.xr]])
 if c == '?' then Mine.nk "Term.syntheticHole" #[Lean.mkAtom "?",Lean.mkAtom "_"] else if c == '_' then Mine.nk "Term.hole" #[Lean.mkAtom "_"]
 else if c == '%' then Mine.byT (Mine.wk "mm") else if c == '<' then Mine.ap "Or.inl" #[r] else if c == '>' then Mine.ap "Or.inr" #[r] else r
protected def al (k n x:String) (t:Array Lean.Syntax):Array Lean.Syntax :=
 (n.splitOn " ").toArray.map fun n =>
  let c:=k == "refine"
  let s:=Mine.nt (if k == "refin" then "refine" else k) k (if n == "" then #[] else #[Mine.ap n (x.toList.map Mine.arg).toArray])
  Mine.sq (#[if c then Mine.nt "withReducible" "with_reducible" #[Mine.sq #[s]] else s] ++ t)
end Mine
local macro_rules | `(tactic| walk_at "a") => `(tactic| with_reducible assumption)
local macro_rules | `(tactic| walk_at "r") => `(tactic| with_unfolding_all exact rfl)
section
section
namespace Mine.KO
noncomputable def nthS:List Stmt → Nat → Stmt
 | s :: _,0=> s
 | _ :: r,n + 1=> nthS r n
 | [],_=> .Pass default
noncomputable def bitsOf (s:Stmt):Arguments × FuncBody × Scope:=if h:s.ctorIdx = 0 then Stmt.FunctionDef.elim (motive_2:=fun _=> Arguments × FuncBody × Scope) s h fun _ a b _ _ _ c _ _ _=> (a,.stmts b,c) else default
noncomputable def inCls (s:Stmt):List Stmt:=if h:s.ctorIdx = 2 then Stmt.ClassDef.elim (motive_2:=fun _=> List Stmt) s h fun _ _ _ b _ _ _ _ _ _ _=> b else []
noncomputable abbrev fnAt (i:Nat):Arguments × FuncBody × Scope:=bitsOf (nthS PySem.Challenge.pw_sa0044_02.main.body i)
noncomputable abbrev mthAt (i j:Nat):Arguments × FuncBody × Scope:=bitsOf (nthS (inCls (nthS PySem.Challenge.pw_sa0044_02.main.body i)) j)
noncomputable abbrev st (x:String):Str:=Str.ofString x
noncomputable abbrev vs (x:String) (t:Nat):Value:=.str (Str.ofString x) t
noncomputable abbrev kh (P:Params) (x:String):Int:=PyData.keyHash P (Str.ofString x)
noncomputable abbrev vr (a:Addr):Value:=.ref a
noncomputable abbrev tT:Value:=.type "tuple"
noncomputable abbrev dq (l:Array Value):Data:=.seq l
noncomputable abbrev en (P:Params) (x:String) (t:Nat) (v:Value):DictEntry:={ hash:=kh P x,key:=vs x t,val:=v }
noncomputable abbrev tu (l:Array Value):Obj:={ cls:=tT,data:=dq l }
noncomputable abbrev co (l:Array Value):Obj:={ cls:=.type "code",data:=.fields l }
noncomputable abbrev I (n:Int):Value:=.int n 0
noncomputable abbrev fl (t:Nat):Value:=vs "/claim/cut.py" t
noncomputable abbrev tt:Value:=.bool true
noncomputable abbrev N:Value:=.none
noncomputable abbrev fo (n q:String) (f:Arguments × FuncBody × Scope) (m c:Value):Obj:={ cls:=.type "function",data:=.func { name:=st n,qualname:=st q,params:=f.1,body:=f.2.1,scope:=f.2.2,globals:=3,closure:=[],defaults:=.none,kwdefaults:=.none,pyModule:=m,code:=c } }
noncomputable section
noncomputable def ko0 (P:Params):Frag:=[
 (2,{ cls:=N,data:=Data.dict #[en P "type.__subclasses__.Exception.0" 230 (I 47),en P "type.__subclasses__.Exception.n" 231 (I 1)] 2 }),
 (3,{ cls:=Value.type "dict",data:=Data.dict #[en P "__name__" 165 (vs "law_sa0044_02" 902),en P "__doc__" 166 N,en P "__package__" 167 N,en P "__loader__" 168 (Value.builtin "__main__.__loader__#opaque"),en P "__spec__" 169 N,en P "__annotations__" 170 (vr 6),en P "__builtins__" 171 (vr 4),en P "__file__" 173 (fl 172),en P "__cached__" 174 N,en P "_wall" 193 (vr 21),en P "HeapError" 233 (vr 47),en P "TermFault" 249 (vr 60),en P "StoryFault" 284 (vr 88),en P "is_op" 292 (vr 95),en P "is_variable" 299 (vr 102),en P "Bank" 430 (vr 206),en P "Unions" 534 (vr 288),en P "Heap" 705 (vr 422),en P "check_reason" 713 (vr 431),en P "Written" 770 (vr 474),en P "row_text" 776 (vr 481),en P "number_of" 782 (vr 486),en P "same_of" 788 (vr 491),en P "row_of" 794 (vr 496),en P "Story" 889 (vr 567),en P "read_story" 901 (vr 578),en P "_law_words" 908 (vr 579),en P "_law_names" 913 (vr 580),en P "_law_cast" 922 (vr 587),en P "_law_reason" 928 (vr 592),en P "_law_is_let" 939 (vr 599),en P "_law_state" 945 (vr 604),en P "_law_homes" 951 (vr 609),en P "_law_merged" 961 (vr 616),en P "_law_is_merged_right" 975 (vr 623),en P "law" 981 (vr 628)] 36 }),
 (25,{ cls:=Value.type "cell",data:=Data.cell (Option.some (vr 47)) }),
 (36,co #[vs "__init__" 208,vs "HeapError.__init__" 209,fl 210,I 7,I 2,I 0,I 0,I 3,vr 31,tt,I 181,vr 32,N,vr 33,vr 34,vr 35,I 214,I 7,fl 215]),
 (37,{ cls:=Value.type "function",data:=Data.func { name:=st "__init__",qualname:=st "HeapError.__init__",params:=(mthAt 2 0).1,body:=(mthAt 2 0).2.1,scope:=(mthAt 2 0).2.2,globals:=3,closure:=[(st "__class__",25)],defaults:=N,kwdefaults:=N,pyModule:=vs "alikeheap.errors" 194,code:=vr 36,closureTuple:=vr 30 } }),
 (43,co #[vs "told" 217,vs "HeapError.told" 218,fl 219,I 11,I 1,I 0,I 0,I 3,vr 38,tt,I 181,vr 39,N,vr 40,vr 41,vr 42,I 221,I 11,fl 222]),
 (44,fo "told" "HeapError.told" (mthAt 2 1) (vs "alikeheap.errors" 194) (vr 43)),
 (46,{ cls:=Value.type "dict",data:=Data.dict #[en P "__module__" 203 (vs "alikeheap.errors" 194),en P "__firstlineno__" 207 (Value.int 5 206),en P "__init__" 216 (vr 37),en P "told" 223 (vr 44),en P "__static_attributes__" 225 (vr 45),en P "__weakref__" 228 (vr 48),en P "__doc__" 229 N] 4 }),
 (47,{ cls:=Value.type "type",data:=Data.cls { name:=st "HeapError",bases:=[Value.type "Exception"],mro:=[vr 47,Value.type "Exception",Value.type "BaseException",Value.type "object"],ns:=46,qualname:=st "HeapError",subclasses:=[vr 60,vr 88] },slots:=#[Option.some (vr 22),Option.none,Option.some (vs "HeapError" 196),Option.some (vs "HeapError" 204),Option.some (Value.builtin "Exception.__new__"),Option.some (tt)] }),
 (59,{ cls:=Value.type "dict",data:=Data.dict #[en P "__module__" 241 (vs "alikeheap.errors" 194),en P "__firstlineno__" 245 (Value.int 13 244),en P "__static_attributes__" 246 (vr 58),en P "__doc__" 247 N] 2 }),
 (60,{ cls:=Value.type "type",data:=Data.cls { name:=st "TermFault",bases:=[vr 47],mro:=[vr 60,vr 47,Value.type "Exception",Value.type "BaseException",Value.type "object"],ns:=59,qualname:=st "TermFault" },slots:=#[Option.some (vr 51),Option.none,Option.some (vs "TermFault" 234),Option.some (vs "TermFault" 242),Option.some (Value.builtin "Exception.__new__"),Option.some (tt)] }),
 (66,{ cls:=Value.type "cell",data:=Data.cell (Option.some (vr 88)) })]
noncomputable def ko40 (P:Params):Frag:=[
 (87,{ cls:=Value.type "dict",data:=Data.dict #[en P "__module__" 257 (vs "alikeheap.errors" 194),en P "__firstlineno__" 261 (Value.int 15 260),en P "__init__" 271 (vr 78),en P "told" 278 (vr 85),en P "__static_attributes__" 280 (vr 86),en P "__doc__" 282 N] 3 }),
 (88,{ cls:=Value.type "type",data:=Data.cls { name:=st "StoryFault",bases:=[vr 47],mro:=[vr 88,vr 47,Value.type "Exception",Value.type "BaseException",Value.type "object"],ns:=87,qualname:=st "StoryFault" },slots:=#[Option.some (vr 63),Option.none,Option.some (vs "StoryFault" 250),Option.some (vs "StoryFault" 258),Option.some (Value.builtin "Exception.__new__"),Option.some (tt)] }),
 (94,co #[vs "is_op" 287,vs "is_op" 288,fl 289,I 24,I 1,I 0,I 0,I 3,vr 91,tt,I 181,vr 92,N,N,N,vr 93,I 290,I 24,fl 291]),
 (95,fo "is_op" "is_op" (fnAt 6) (vs "alikeheap.terms" 285) (vr 94)),
 (101,co #[vs "is_variable" 293,vs "is_variable" 294,fl 295,I 26,I 1,I 0,I 0,I 3,vr 96,tt,I 181,vr 97,N,vr 98,vr 99,vr 100,I 297,I 26,fl 298]),
 (102,fo "is_variable" "is_variable" (fnAt 7) (vs "alikeheap.terms" 285) (vr 101)),
 (115,co #[vs "__init__" 312,vs "Bank.__init__" 313,fl 314,I 30,I 1,I 0,I 0,I 3,vr 110,tt,I 181,vr 111,N,vr 112,vr 113,vr 114,I 316,I 30,fl 317]),
 (116,fo "__init__" "Bank.__init__" (mthAt 8 0) (vs "alikeheap.terms" 285) (vr 115)),
 (122,co #[vs "size" 319,vs "Bank.size" 320,fl 321,I 36,I 1,I 0,I 0,I 3,vr 117,tt,I 181,vr 118,N,vr 119,vr 120,vr 121,I 323,I 36,fl 324]),
 (123,fo "size" "Bank.size" (mthAt 8 1) (vs "alikeheap.terms" 285) (vr 122)),
 (127,co #[vs "take" 326,vs "Bank.take" 327,fl 328,I 39,I 3,I 0,I 0,I 3,vr 124,tt,I 181,vr 125,N,N,N,vr 126,I 329,I 39,fl 330]),
 (128,fo "take" "Bank.take" (mthAt 8 2) (vs "alikeheap.terms" 285) (vr 127)),
 (134,co #[vs "require" 332,vs "Bank.require" 333,fl 334,I 53,I 2,I 0,I 0,I 3,vr 129,tt,I 181,vr 130,N,vr 131,vr 132,vr 133,I 337,I 53,fl 338]),
 (135,fo "require" "Bank.require" (mthAt 8 3) (vs "alikeheap.terms" 285) (vr 134))]
noncomputable def ko80 (P:Params):Frag:=[
 (162,co #[vs "op" 364,vs "Bank.op" 365,fl 366,I 66,I 2,I 0,I 0,I 3,vr 157,tt,I 181,vr 158,N,vr 159,vr 160,vr 161,I 369,I 66,fl 370]),
 (163,fo "op" "Bank.op" (mthAt 8 7) (vs "alikeheap.terms" 285) (vr 162)),
 (169,co #[vs "kids" 372,vs "Bank.kids" 373,fl 374,I 69,I 2,I 0,I 0,I 3,vr 164,tt,I 181,vr 165,N,vr 166,vr 167,vr 168,I 377,I 69,fl 378]),
 (170,fo "kids" "Bank.kids" (mthAt 8 8) (vs "alikeheap.terms" 285) (vr 169)),
 (176,co #[vs "node" 380,vs "Bank.node" 381,fl 382,I 72,I 2,I 0,I 0,I 3,vr 171,tt,I 181,vr 172,N,vr 173,vr 174,vr 175,I 385,I 72,fl 386]),
 (177,fo "node" "Bank.node" (mthAt 8 9) (vs "alikeheap.terms" 285) (vr 176)),
 (205,{ cls:=Value.type "dict",data:=Data.dict #[en P "__module__" 307 (vs "alikeheap.terms" 285),en P "__firstlineno__" 311 (Value.int 28 310),en P "__init__" 318 (vr 116),en P "size" 325 (vr 123),en P "take" 331 (vr 128),en P "require" 339 (vr 135),en P "put" 347 (vr 142),en P "put_all" 355 (vr 149),en P "cut" 363 (vr 156),en P "op" 371 (vr 163),en P "kids" 379 (vr 170),en P "node" 387 (vr 177),en P "term" 393 (vr 182),en P "weight" 401 (vr 189),en P "depth" 409 (vr 196),en P "seek" 418 (vr 203),en P "__static_attributes__" 423 (vr 204),en P "__dict__" 425 (vr 207),en P "__weakref__" 427 (vr 208),en P "__doc__" 428 N] 4 })]
noncomputable def ko120 (P:Params):Frag:=[
 (206,{ cls:=Value.type "type",data:=Data.cls { name:=st "Bank",bases:=[Value.type "object"],mro:=[vr 206,Value.type "object"],ns:=205,qualname:=st "Bank" },slots:=#[Option.none,Option.none,Option.some (vs "Bank" 300),Option.some (vs "Bank" 308),Option.some (Value.builtin "object.__new__"),Option.some (tt)] }),
 (223,co #[vs "__init__" 445,vs "Unions.__init__" 446,fl 447,I 98,I 1,I 0,I 0,I 3,vr 218,tt,I 181,vr 219,N,vr 220,vr 221,vr 222,I 449,I 98,fl 450]),
 (224,fo "__init__" "Unions.__init__" (mthAt 10 0) (vs "alikeheap.unions" 431) (vr 223)),
 (230,co #[vs "make" 452,vs "Unions.make" 453,fl 454,I 103,I 1,I 0,I 0,I 3,vr 225,tt,I 181,vr 226,N,vr 227,vr 228,vr 229,I 456,I 103,fl 457]),
 (231,fo "make" "Unions.make" (mthAt 10 1) (vs "alikeheap.unions" 431) (vr 230)),
 (237,co #[vs "size" 459,vs "Unions.size" 460,fl 461,I 108,I 1,I 0,I 0,I 3,vr 232,tt,I 181,vr 233,N,vr 234,vr 235,vr 236,I 463,I 108,fl 464]),
 (238,fo "size" "Unions.size" (mthAt 10 2) (vs "alikeheap.unions" 431) (vr 237)),
 (244,co #[vs "find" 466,vs "Unions.find" 467,fl 468,I 111,I 2,I 0,I 0,I 3,vr 239,tt,I 181,vr 240,N,vr 241,vr 242,vr 243,I 471,I 111,fl 472]),
 (245,fo "find" "Unions.find" (mthAt 10 3) (vs "alikeheap.unions" 431) (vr 244)),
 (251,co #[vs "merge" 474,vs "Unions.merge" 475,fl 476,I 116,I 3,I 0,I 0,I 3,vr 246,tt,I 181,vr 247,N,vr 248,vr 249,vr 250,I 482,I 116,fl 483]),
 (252,fo "merge" "Unions.merge" (mthAt 10 4) (vs "alikeheap.unions" 431) (vr 251))]
noncomputable def ko160 (P:Params):Frag:=[
 (287,{ cls:=Value.type "dict",data:=Data.dict #[en P "__module__" 440 (vs "alikeheap.unions" 431),en P "__firstlineno__" 444 (Value.int 96 443),en P "__init__" 451 (vr 224),en P "make" 458 (vr 231),en P "size" 465 (vr 238),en P "find" 473 (vr 245),en P "merge" 484 (vr 252),en P "members" 492 (vr 259),en P "classes" 498 (vr 264),en P "log" 505 (vr 271),en P "back" 515 (vr 278),en P "cut" 523 (vr 285),en P "__static_attributes__" 527 (vr 286),en P "__dict__" 529 (vr 289),en P "__weakref__" 531 (vr 290),en P "__doc__" 532 N] 4 }),
 (288,{ cls:=Value.type "type",data:=Data.cls { name:=st "Unions",bases:=[Value.type "object"],mro:=[vr 288,Value.type "object"],ns:=287,qualname:=st "Unions" },slots:=#[Option.none,Option.none,Option.some (vs "Unions" 433),Option.some (vs "Unions" 441),Option.some (Value.builtin "object.__new__"),Option.some (tt)] }),
 (305,co #[vs "__init__" 549,vs "Heap.__init__" 550,fl 551,I 145,I 1,I 0,I 0,I 3,vr 300,tt,I 181,vr 301,N,vr 302,vr 303,vr 304,I 553,I 145,fl 554]),
 (306,fo "__init__" "Heap.__init__" (mthAt 12 0) (vs "alikeheap.heap" 535) (vr 305)),
 (312,co #[vs "size" 556,vs "Heap.size" 557,fl 558,I 155,I 1,I 0,I 0,I 3,vr 307,tt,I 181,vr 308,N,vr 309,vr 310,vr 311,I 560,I 155,fl 561]),
 (313,fo "size" "Heap.size" (mthAt 12 1) (vs "alikeheap.heap" 535) (vr 312)),
 (317,co #[vs "node" 563,vs "Heap.node" 564,fl 565,I 158,I 2,I 0,I 0,I 3,vr 314,tt,I 181,vr 315,N,N,N,vr 316,I 566,I 158,fl 567]),
 (318,fo "node" "Heap.node" (mthAt 12 2) (vs "alikeheap.heap" 535) (vr 317)),
 (322,co #[vs "add" 569,vs "Heap.add" 570,fl 571,I 161,I 3,I 0,I 0,I 3,vr 319,tt,I 181,vr 320,N,N,N,vr 321,I 572,I 161,fl 573]),
 (323,fo "add" "Heap.add" (mthAt 12 3) (vs "alikeheap.heap" 535) (vr 322))]
noncomputable def ko200 (P:Params):Frag:=[
 (336,co #[vs "look_at" 583,vs "Heap.look_at" 584,fl 585,I 175,I 2,I 0,I 0,I 3,vr 331,tt,I 181,vr 332,N,vr 333,vr 334,vr 335,I 589,I 175,fl 590]),
 (337,fo "look_at" "Heap.look_at" (mthAt 12 5) (vs "alikeheap.heap" 535) (vr 336)),
 (343,co #[vs "find" 592,vs "Heap.find" 593,fl 594,I 180,I 2,I 0,I 0,I 3,vr 338,tt,I 181,vr 339,N,vr 340,vr 341,vr 342,I 597,I 180,fl 598]),
 (344,fo "find" "Heap.find" (mthAt 12 6) (vs "alikeheap.heap" 535) (vr 343)),
 (357,co #[vs "merge" 609,vs "Heap.merge" 610,fl 611,I 186,I 4,I 0,I 0,I 3,vr 352,tt,I 181,vr 353,N,vr 354,vr 355,vr 356,I 616,I 186,fl 617]),
 (358,fo "merge" "Heap.merge" (mthAt 12 8) (vs "alikeheap.heap" 535) (vr 357)),
 (364,co #[vs "join" 619,vs "Heap.join" 620,fl 621,I 189,I 4,I 0,I 0,I 3,vr 359,tt,I 181,vr 360,N,vr 361,vr 362,vr 363,I 629,I 189,fl 630]),
 (365,fo "join" "Heap.join" (mthAt 12 9) (vs "alikeheap.heap" 535) (vr 364)),
 (371,co #[vs "settle" 632,vs "Heap.settle" 633,fl 634,I 200,I 1,I 0,I 0,I 3,vr 366,tt,I 181,vr 367,N,vr 368,vr 369,vr 370,I 636,I 200,fl 637]),
 (372,fo "settle" "Heap.settle" (mthAt 12 10) (vs "alikeheap.heap" 535) (vr 371)),
 (378,co #[vs "is_settled" 639,vs "Heap.is_settled" 640,fl 641,I 204,I 1,I 0,I 0,I 3,vr 373,tt,I 181,vr 374,N,vr 375,vr 376,vr 377,I 643,I 204,fl 644]),
 (379,fo "is_settled" "Heap.is_settled" (mthAt 12 11) (vs "alikeheap.heap" 535) (vr 378))]
noncomputable def ko240 (P:Params):Frag:=[
 (421,{ cls:=Value.type "dict",data:=Data.dict #[en P "__module__" 544 (vs "alikeheap.heap" 535),en P "__firstlineno__" 548 (Value.int 143 547),en P "__init__" 555 (vr 306),en P "size" 562 (vr 313),en P "node" 568 (vr 318),en P "add" 574 (vr 323),en P "put" 582 (vr 330),en P "look_at" 591 (vr 337),en P "find" 599 (vr 344),en P "are_like" 608 (vr 351),en P "merge" 618 (vr 358),en P "join" 631 (vr 365),en P "settle" 638 (vr 372),en P "is_settled" 645 (vr 379),en P "classes" 652 (vr 386),en P "members" 660 (vr 393),en P "nodes_of" 668 (vr 400),en P "many_nodes" 675 (vr 407),en P "seek" 681 (vr 412),en P "users" 689 (vr 419),en P "__static_attributes__" 698 (vr 420),en P "__dict__" 700 (vr 423),en P "__weakref__" 702 (vr 424),en P "__doc__" 703 N] 4 }),
 (422,{ cls:=Value.type "type",data:=Data.cls { name:=st "Heap",bases:=[Value.type "object"],mro:=[vr 422,Value.type "object"],ns:=421,qualname:=st "Heap",subclasses:=[vr 474] },slots:=#[Option.none,Option.none,Option.some (vs "Heap" 537),Option.some (vs "Heap" 545),Option.some (Value.builtin "object.__new__"),Option.some (tt)] }),
 (430,co #[vs "check_reason" 708,vs "check_reason" 709,fl 710,I 226,I 2,I 0,I 0,I 3,vr 427,tt,I 181,vr 428,N,N,N,vr 429,I 711,I 226,fl 712]),
 (431,fo "check_reason" "check_reason" (fnAt 14) (vs "alikeheap.story" 706) (vr 430)),
 (435,{ cls:=Value.type "cell",data:=Data.cell (Option.some (vr 474)) }),
 (446,co #[vs "__init__" 726,vs "Written.__init__" 727,fl 728,I 239,I 1,I 0,I 0,I 3,vr 441,tt,I 181,vr 442,N,vr 443,vr 444,vr 445,I 731,I 239,fl 732]),
 (447,{ cls:=Value.type "function",data:=Data.func { name:=st "__init__",qualname:=st "Written.__init__",params:=(mthAt 15 0).1,body:=(mthAt 15 0).2.1,scope:=(mthAt 15 0).2.2,globals:=3,closure:=[(st "__class__",435)],defaults:=N,kwdefaults:=N,pyModule:=vs "alikeheap.story" 706,code:=vr 446,closureTuple:=vr 440 } })]
noncomputable def ko280 (P:Params):Frag:=[
 (454,co #[vs "add" 734,vs "Written.add" 735,fl 736,I 243,I 3,I 0,I 0,I 3,vr 449,tt,I 181,vr 450,N,vr 451,vr 452,vr 453,I 743,I 243,fl 744]),
 (455,{ cls:=Value.type "function",data:=Data.func { name:=st "add",qualname:=st "Written.add",params:=(mthAt 15 1).1,body:=(mthAt 15 1).2.1,scope:=(mthAt 15 1).2.2,globals:=3,closure:=[(st "__class__",435)],defaults:=N,kwdefaults:=N,pyModule:=vs "alikeheap.story" 706,code:=vr 454,closureTuple:=vr 448 } }),
 (462,co #[vs "merge" 746,vs "Written.merge" 747,fl 748,I 250,I 4,I 0,I 0,I 3,vr 457,tt,I 181,vr 458,N,vr 459,vr 460,vr 461,I 754,I 250,fl 755]),
 (463,{ cls:=Value.type "function",data:=Data.func { name:=st "merge",qualname:=st "Written.merge",params:=(mthAt 15 2).1,body:=(mthAt 15 2).2.1,scope:=(mthAt 15 2).2.2,globals:=3,closure:=[(st "__class__",435)],defaults:=N,kwdefaults:=N,pyModule:=vs "alikeheap.story" 706,code:=vr 462,closureTuple:=vr 456 } }),
 (470,co #[vs "settle" 757,vs "Written.settle" 758,fl 759,I 257,I 1,I 0,I 0,I 3,vr 465,tt,I 181,vr 466,N,vr 467,vr 468,vr 469,I 762,I 257,fl 763]),
 (471,{ cls:=Value.type "function",data:=Data.func { name:=st "settle",qualname:=st "Written.settle",params:=(mthAt 15 3).1,body:=(mthAt 15 3).2.1,scope:=(mthAt 15 3).2.2,globals:=3,closure:=[(st "__class__",435)],defaults:=N,kwdefaults:=N,pyModule:=vs "alikeheap.story" 706,code:=vr 470,closureTuple:=vr 464 } }),
 (473,{ cls:=Value.type "dict",data:=Data.dict #[en P "__module__" 721 (vs "alikeheap.story" 706),en P "__firstlineno__" 725 (Value.int 237 724),en P "__init__" 733 (vr 447),en P "add" 745 (vr 455),en P "merge" 756 (vr 463),en P "settle" 764 (vr 471),en P "__static_attributes__" 766 (vr 472),en P "__doc__" 768 N] 3 }),
 (474,{ cls:=Value.type "type",data:=Data.cls { name:=st "Written",bases:=[vr 422],mro:=[vr 474,vr 422,Value.type "object"],ns:=473,qualname:=st "Written" },slots:=#[Option.some (vr 432),Option.none,Option.some (vs "Written" 714),Option.some (vs "Written" 722),Option.some (Value.builtin "object.__new__"),Option.some (tt)] }),
 (480,co #[vs "row_text" 771,vs "row_text" 772,fl 773,I 261,I 1,I 0,I 0,I 3,vr 477,tt,I 181,vr 478,N,N,N,vr 479,I 774,I 261,fl 775]),
 (481,fo "row_text" "row_text" (fnAt 16) (vs "alikeheap.story" 706) (vr 480)),
 (485,co #[vs "number_of" 777,vs "number_of" 778,fl 779,I 269,I 2,I 0,I 0,I 3,vr 482,tt,I 181,vr 483,N,N,N,vr 484,I 780,I 269,fl 781]),
 (486,fo "number_of" "number_of" (fnAt 17) (vs "alikeheap.story" 706) (vr 485)),
 (490,co #[vs "same_of" 783,vs "same_of" 784,fl 785,I 275,I 2,I 0,I 0,I 3,vr 487,tt,I 181,vr 488,N,N,N,vr 489,I 786,I 275,fl 787]),
 (491,fo "same_of" "same_of" (fnAt 18) (vs "alikeheap.story" 706) (vr 490)),
 (495,co #[vs "row_of" 789,vs "row_of" 790,fl 791,I 285,I 2,I 0,I 0,I 3,vr 492,tt,I 181,vr 493,N,N,N,vr 494,I 792,I 285,fl 793]),
 (496,fo "row_of" "row_of" (fnAt 19) (vs "alikeheap.story" 706) (vr 495)),
 (509,co #[vs "__init__" 807,vs "Story.__init__" 808,fl 809,I 296,I 1,I 0,I 0,I 3,vr 504,tt,I 181,vr 505,N,vr 506,vr 507,vr 508,I 811,I 296,fl 812]),
 (510,fo "__init__" "Story.__init__" (mthAt 20 0) (vs "alikeheap.story" 706) (vr 509))]
noncomputable def ko320 (P:Params):Frag:=[
 (523,co #[vs "merge" 822,vs "Story.merge" 823,fl 824,I 302,I 4,I 0,I 0,I 3,vr 518,tt,I 181,vr 519,N,vr 520,vr 521,vr 522,I 829,I 302,fl 830]),
 (524,fo "merge" "Story.merge" (mthAt 20 2) (vs "alikeheap.story" 706) (vr 523)),
 (530,co #[vs "settle" 832,vs "Story.settle" 833,fl 834,I 305,I 1,I 0,I 0,I 3,vr 525,tt,I 181,vr 526,N,vr 527,vr 528,vr 529,I 836,I 305,fl 837]),
 (531,fo "settle" "Story.settle" (mthAt 20 3) (vs "alikeheap.story" 706) (vr 530)),
 (537,co #[vs "rows" 839,vs "Story.rows" 840,fl 841,I 308,I 1,I 0,I 0,I 3,vr 532,tt,I 181,vr 533,N,vr 534,vr 535,vr 536,I 843,I 308,fl 844]),
 (538,fo "rows" "Story.rows" (mthAt 20 4) (vs "alikeheap.story" 706) (vr 537)),
 (542,co #[vs "text" 846,vs "Story.text" 847,fl 848,I 311,I 1,I 0,I 0,I 3,vr 539,tt,I 181,vr 540,N,N,N,vr 541,I 849,I 311,fl 850]),
 (543,fo "text" "Story.text" (mthAt 20 5) (vs "alikeheap.story" 706) (vr 542)),
 (556,co #[vs "do" 862,vs "Story.do" 863,fl 864,I 320,I 2,I 0,I 0,I 3,vr 551,tt,I 181,vr 552,N,vr 553,vr 554,vr 555,I 867,I 320,fl 868]),
 (557,fo "do" "Story.do" (mthAt 20 7) (vs "alikeheap.story" 706) (vr 556)),
 (563,co #[vs "alike_with" 870,vs "Story.alike_with" 871,fl 872,I 328,I 2,I 0,I 0,I 3,vr 558,tt,I 181,vr 559,N,vr 560,vr 561,vr 562,I 878,I 328,fl 879]),
 (564,fo "alike_with" "Story.alike_with" (mthAt 20 8) (vs "alikeheap.story" 706) (vr 563)),
 (566,{ cls:=Value.type "dict",data:=Data.dict #[en P "__module__" 802 (vs "alikeheap.story" 706),en P "__firstlineno__" 806 (Value.int 294 805),en P "__init__" 813 (vr 510),en P "put" 821 (vr 517),en P "merge" 831 (vr 524),en P "settle" 838 (vr 531),en P "rows" 845 (vr 538),en P "text" 851 (vr 543),en P "back" 861 (vr 550),en P "do" 869 (vr 557),en P "alike_with" 880 (vr 564),en P "__static_attributes__" 882 (vr 565),en P "__dict__" 884 (vr 568),en P "__weakref__" 886 (vr 569),en P "__doc__" 887 N] 4 }),
 (567,{ cls:=Value.type "type",data:=Data.cls { name:=st "Story",bases:=[Value.type "object"],mro:=[vr 567,Value.type "object"],ns:=566,qualname:=st "Story" },slots:=#[Option.none,Option.none,Option.some (vs "Story" 795),Option.some (vs "Story" 803),Option.some (Value.builtin "object.__new__"),Option.some (tt)] })]
noncomputable def ko360 (P:Params):Frag:=[
 (577,co #[vs "read_story" 890,vs "read_story" 891,fl 892,I 334,I 1,I 0,I 0,I 3,vr 572,tt,I 181,vr 573,N,vr 574,vr 575,vr 576,I 899,I 334,fl 900]),
 (578,fo "read_story" "read_story" (fnAt 21) (vs "alikeheap.story" 706) (vr 577)),
 (579,tu #[vs "m" 904,vs "rule" 905,vs "told" 906,vs "like" 907]),
 (580,tu #[vs "?x" 909,vs "?y" 910,vs "?x1" 911,vs "?b" 912]),
 (586,co #[vs "_law_cast" 914,vs "_law_cast" 915,fl 916,I 350,I 2,I 0,I 0,I 3,vr 581,tt,I 181,vr 582,N,vr 583,vr 584,vr 585,I 920,I 350,fl 921]),
 (587,fo "_law_cast" "_law_cast" (fnAt 25) (vs "law_sa0044_02" 902) (vr 586)),
 (591,co #[vs "_law_reason" 923,vs "_law_reason" 924,fl 925,I 354,I 2,I 0,I 0,I 3,vr 588,tt,I 181,vr 589,N,N,N,vr 590,I 926,I 354,fl 927]),
 (592,fo "_law_reason" "_law_reason" (fnAt 26) (vs "law_sa0044_02" 902) (vr 591)),
 (598,co #[vs "_law_is_let" 929,vs "_law_is_let" 930,fl 931,I 366,I 2,I 0,I 0,I 3,vr 593,tt,I 181,vr 594,N,vr 595,vr 596,vr 597,I 937,I 366,fl 938]),
 (599,fo "_law_is_let" "_law_is_let" (fnAt 27) (vs "law_sa0044_02" 902) (vr 598)),
 (603,co #[vs "_law_state" 940,vs "_law_state" 941,fl 942,I 377,I 1,I 0,I 0,I 3,vr 600,tt,I 181,vr 601,N,N,N,vr 602,I 943,I 377,fl 944]),
 (604,fo "_law_state" "_law_state" (fnAt 28) (vs "law_sa0044_02" 902) (vr 603)),
 (608,co #[vs "_law_homes" 946,vs "_law_homes" 947,fl 948,I 380,I 2,I 0,I 0,I 3,vr 605,tt,I 181,vr 606,N,N,N,vr 607,I 949,I 380,fl 950]),
 (609,fo "_law_homes" "_law_homes" (fnAt 29) (vs "law_sa0044_02" 902) (vr 608)),
 (615,co #[vs "_law_merged" 952,vs "_law_merged" 953,fl 954,I 392,I 4,I 0,I 0,I 3,vr 610,tt,I 181,vr 611,N,vr 612,vr 613,vr 614,I 959,I 392,fl 960]),
 (616,fo "_law_merged" "_law_merged" (fnAt 30) (vs "law_sa0044_02" 902) (vr 615)),
 (622,co #[vs "_law_is_merged_right" 962,vs "_law_is_merged_right" 963,fl 964,I 397,I 5,I 0,I 0,I 3,vr 617,tt,I 181,vr 618,N,vr 619,vr 620,vr 621,I 973,I 397,fl 974]),
 (623,fo "_law_is_merged_right" "_law_is_merged_right" (fnAt 31) (vs "law_sa0044_02" 902) (vr 622)),
 (627,co #[vs "law" 976,vs "law" 977,fl 978,I 405,I 1,I 0,I 0,I 3,vr 624,tt,I 181,vr 625,N,N,N,vr 626,I 979,I 405,fl 980]),
 (628,fo "law" "law" (fnAt 32) (vs "law_sa0044_02" 902) (vr 627))]
end
end Mine.KO
namespace Mine
open KO in
noncomputable def KT (P:Params):Frag:=ko0 P ++ (ko40 P ++ (ko80 P ++ (ko120 P ++ (ko160 P ++ (ko200 P ++ (ko240 P ++ (ko280 P ++ (ko320 P ++ (ko360 P)))))))))
noncomputable def kas:List Addr:=[2,3,25,36,37,43,44,46,47,59,60,66,87,88,94,95,101,102,115,116,122,123,127,128,134,135,162,163,169,170,176,177,205,206,223,224,230,231,237,238,244,245,251,252,287,288,305,306,312,313,317,318,322,323,336,337,343,344,357,358,364,365,371,372,378,379,421,422,430,431,435,446,447,454,455,462,463,470,471,473,474,480,481,485,486,490,491,495,496,509,510,523,524,530,531,537,538,542,543,556,557,563,564,566,567,577,578,579,580,586,587,591,592,598,599,603,604,608,609,615,616,622,623,627,628]
end Mine
end
section
open PySem PySem.W
namespace Mine
noncomputable abbrev KK (w:World):Frag:=KT w.params
end Mine
end
section
namespace Mine
variable {B:Addr → Prop}
inductive V where
 | none | bool (b:Bool) | int (i:Int) | str (x:Str) | tup (l:List V) | ref (a:Addr) | con (c:Value)
 deriving Inhabited
inductive ConsC {α:Type} (p:α → Prop) (q:List α → Prop) (l:List α):Prop
 | mk (x:α) (r:List α) (e:l = x :: r) (h:p x) (t:q r)
mutual
noncomputable def Is (B:Addr → Prop) (h:Heap):V → Value → Prop
 | .none,v=> v = .none
 | .bool b,v=> v = .bool b
 | .int i,v=> ∃ t,v = .int i t
 | .str s,v=> ∃ t,v = .str s t
 | .tup l,v=> ∃ a xs,v = .ref a ∧ (h.IsTuple a xs ∧ ¬ B a) ∧ IsL B h l xs.toList
 | .ref a,v=> v = .ref a
 | .con c,v=> v = c
noncomputable def IsL (B:Addr → Prop) (h:Heap):List V → List Value → Prop
 | [],l=> l = []
 | v :: vs,l=> ConsC (Is B h v) (IsL B h vs) l
end
noncomputable def Pres (B:Addr → Prop) (h h':Heap):Prop:=∀ a xs,¬ B a → h.IsTuple a xs → h'.IsTuple a xs
theorem Pres.refl (h:Heap):Pres B h h:=fun _ _ _ x=> x
theorem Pres.trans {h h' h'':Heap} (p:Pres B h h') (q:Pres B h' h''):Pres B h h'':=fun a xs n x=> q a xs n (p a xs n x)
theorem Pres.keeps {h h':Heap} (k:∀ b o,h.get? b = some o → h'.get? b = some o):Pres B h h' :=
 fun a xs _ ⟨o,ho,r⟩=> ⟨o,k a o ho,r⟩
mutual
theorem Is.mono {h h':Heap} (p:Pres B h h'):∀ {V:V} {v:Value},Is B h V v → Is B h' V v
 | .none,_,x=> x
 | .bool _,_,x=> x
 | .int _,_,x=> x
 | .str _,_,x=> x
 | .tup l,_,x=> by
  obtain ⟨a,xs,e,t,r⟩:=x
  exact ⟨a,xs,e,⟨p a xs t.2 t.1,t.2⟩,IsL.mono p r⟩
 | .ref _,_,x=> x
 | .con _,_,x=> x
theorem IsL.mono {h h':Heap} (p:Pres B h h'):∀ {l:List V} {vs:List Value},IsL B h l vs → IsL B h' l vs
 | [],_,x=> x
 | _ :: _,_,x=> by
  obtain ⟨y,r,e,a,b⟩:=x
  exact ⟨y,r,e,Is.mono p a,IsL.mono p b⟩
end
theorem IsL.nil {h:Heap}:IsL B h [] []:=rfl
theorem IsL.cons {h:Heap} {v:V} {x:Value} {l:List V} {r:List Value} (a:Is B h v x) (b:IsL B h l r):IsL B h (v :: l) (x :: r):=⟨x,r,rfl,a,b⟩
theorem IsL.length {h:Heap} {l:List V}:∀ {vs:List Value},IsL B h l vs → l.length = vs.length:=by
 induction l with
 | nil =>
  intro _ x
  cases x;rfl
 | cons _ _ ih =>
  intro _ x
  obtain ⟨y,r,rfl,_,b⟩:=x;simp [ih b]
theorem IsL.append {h:Heap} {l:List V}:∀ {l':List V} {vs vs':List Value},IsL B h l vs → IsL B h l' vs' → IsL B h (l ++ l') (vs ++ vs'):=by
 induction l with
 | nil =>
  intro _ _ _ x y
  cases x;exact y
 | cons _ _ ih =>
  intro _ _ _ x y
  obtain ⟨z,r,rfl,a,b⟩:=x;exact ⟨z,_,rfl,a,ih b y⟩
theorem IsL.get {h:Heap}:∀ {l:List V} {vs:List Value} {i:Nat} {v:V},IsL B h l vs → l[i]? = some v → ∃ x,vs[i]? = some x ∧ Is B h v x:=by
 intro l
 induction l with
 | nil=> intro _ _ _ x e;rw [List.getElem?_nil] at e;cases e
 | cons v r ih =>
  intro vs i
  cases i with
  | zero=> intro _ x e;obtain ⟨z,r,rfl,a,b⟩:=x;cases e;exact ⟨z,rfl,a⟩
  | succ i=> intro _ x e;obtain ⟨z,r,rfl,a,b⟩:=x;exact ih (i:=i) b e
theorem IsL.get' {h:Heap}:∀ {l:List V} {vs:List Value} {i:Nat} {x:Value},IsL B h l vs → vs[i]? = some x → ∃ v,l[i]? = some v ∧ Is B h v x:=by
 intro l
 induction l with
 | nil=> intro _ _ _ x e;cases x;rw [List.getElem?_nil] at e;cases e
 | cons v r ih =>
  intro vs i
  cases i with
  | zero=> intro _ x e;obtain ⟨z,r,rfl,a,b⟩:=x;cases e;exact ⟨v,rfl,a⟩
  | succ i=> intro _ x e;obtain ⟨z,r,rfl,a,b⟩:=x;exact ih (i:=i) b e
theorem IsL.set {h:Heap}:∀ {l:List V} {vs:List Value} (i:Nat) {v:V} {x:Value},IsL B h l vs → Is B h v x → IsL B h (l.set i v) (vs.set i x):=by
 intro l
 induction l with
 | nil=> intro _ _ _ _ a _;cases a;exact rfl
 | cons v r ih =>
  intro vs i
  cases i with
  | zero=> intro _ _ a c;obtain ⟨z,r,rfl,_,b⟩:=a;exact ⟨_,_,rfl,c,b⟩
  | succ i=> intro _ _ a c;obtain ⟨z,r,rfl,a,b⟩:=a;exact ⟨_,_,rfl,a,ih i b c⟩
theorem IsL.take {h:Heap}:∀ {l:List V} {vs:List Value} (i:Nat),IsL B h l vs → IsL B h (l.take i) (vs.take i):=by
 intro l
 induction l with
 | nil=> intro _ i a;cases a;rw [List.take_nil,List.take_nil];exact rfl
 | cons v r ih =>
  intro vs i
  cases i with
  | zero=> intro _;exact rfl
  | succ i=> intro a;obtain ⟨z,r,rfl,a,b⟩:=a;exact ⟨_,_,rfl,a,ih i b⟩
theorem IsL.drop {h:Heap}:∀ {l:List V} {vs:List Value} (i:Nat),IsL B h l vs → IsL B h (l.drop i) (vs.drop i):=by
 intro l
 induction l with
 | nil=> intro _ i a;cases a;rw [List.drop_nil,List.drop_nil];exact rfl
 | cons v r ih =>
  intro vs i
  cases i with
  | zero=> intro a;exact a
  | succ i=> intro a;obtain ⟨z,r,rfl,a,b⟩:=a;exact ih i b
noncomputable def lk {α:Type} (x:Str):List (Str × α) → Option α
 | []=> none
 | (y,v) :: r=> if x = y then some v else lk x r
noncomputable def put {α:Type} (x:Str) (v:α):List (Str × α) → List (Str × α)
 | []=> [(x,v)]
 | (y,u) :: r=> if x = y then (y,v) :: r else (y,u) :: put x v r
theorem zBi {α:Type} (x y:Str) (v:α) (r:List (Str × α)):lk x ((y,v) :: r) = if x = y then some v else lk x r:=rfl
theorem zNg {α:Type} (x y:Str) (u v:α) (r:List (Str × α)):put x v ((y,u) :: r) = if x = y then (y,v) :: r else (y,u) :: put x v r:=rfl
theorem zUf {α:Type} (x y:Str) (v:α):∀ m:List (Str × α),lk y (put x v m) = if y = x then some v else lk y m:=by
 intro m
 induction m with
 | nil=> rfl
 | cons z r ih =>
  obtain ⟨z,u⟩:=z
  rw [zNg]
  by_cases h:x = z
  ·subst h
   simp only [if_true,zBi]
   by_cases q:y = x <;> simp [q]
  ·simp only [if_neg h,zBi]
   rw [ih]
   by_cases q:y = z
   ·subst q;simp [h,Ne.symm h,fun e:y = x=> h e.symm]
   ·simp [q]
noncomputable abbrev Loc:=List (Str × V)
noncomputable def OptIs (B:Addr → Prop) (h:Heap):Option V → Option Value → Prop
 | some V,some v=> Is B h V v
 | some _,none=> False
 | none,_=> True
theorem OptIs.mono {h h':Heap} (p:Pres B h h') {a b} (x:OptIs B h a b):OptIs B h' a b:=by
 cases a <;> cases b <;> first | exact x | exact Is.mono p x
theorem OptIs.some {h:Heap} {V:V} {o:Option Value} (x:OptIs B h (some V) o):∃ v,o = .some v ∧ Is B h V v:=by
 cases o with
 | none=> exact x.elim
 | some v=> exact ⟨v,rfl,x⟩
noncomputable def NsRep (B:Addr → Prop) (h:Heap) (L:Addr) (m:Loc):Prop:=∃ f,h.Ns L f ∧ ∀ x,OptIs B h (lk x m) (f x)
inductive Atom where
 | i (n:Int) | s (x:Str)
 deriving DecidableEq,Inhabited
noncomputable def Atom.v:Atom → V
 | .i n=> .int n
 | .s x=> .str x
noncomputable def Atom.is:Atom → Value → Bool
 | .i n,v=> v.isInt n
 | .s x,v=> v.isStrOf x
theorem Atom.is_of {h:Heap} {k:Atom} {v:Value} (x:Is B h k.v v):k.is v = true:=by
 cases k with
 | i n=> obtain ⟨t,rfl⟩:=x;simp [Atom.is,Value.isInt]
 | s y=> obtain ⟨t,rfl⟩:=x;simp [Atom.is,Value.isStrOf]
end Mine
end
section
namespace Mine
theorem zIp {prog:Program} {w:World} {A:Around} {E:Value → Shared → Prop} {s:Shared} {a:Int} {b:Str} {t u:Tok} {Q:Bool → Shared → Prop} (h:Q false s) :
    wpAny (model prog w) A (eqBool (.int a t) (.str b u)) Q E s:=by
 unfold eqBool
 refine wpAny_holding ?_
 rw [if_neg (by simp)]
 exact wpAny_bind (EqMixed.eq_int_str (wpAny_truthy_bool h))
theorem zIo {prog:Program} {w:World} {A:Around} {E:Value → Shared → Prop} {s:Shared} {a:Str} {b:Int} {t u:Tok} {Q:Bool → Shared → Prop} (h:Q false s) :
    wpAny (model prog w) A (eqBool (.str a t) (.int b u)) Q E s:=by
 unfold eqBool
 refine wpAny_holding ?_
 rw [if_neg (by simp)]
 exact wpAny_bind (EqMixed.eq_str_int (wpAny_truthy_bool h))
noncomputable def Atom.hash (w:World):Atom → Int
 | .i n=> hashInt n
 | .s x=> hashStr w x
noncomputable def zAc (prog:Program) (w:World):KeyKind prog w Atom where
 is:=Atom.is
 hash:=Atom.hash w
 inj:=fun v a b ha hb=> by
  cases a with
  | i m =>
   obtain ⟨t,rfl⟩:∃ t,v = .int m t:=Value.isInt_shape ha
   cases b with
   | i n=> obtain ⟨u,e⟩:∃ u,Value.int m t = .int n u:=Value.isInt_shape hb;cases e;rfl
   | s y=> obtain ⟨u,e⟩:∃ u,Value.int m t = .str y u:=Value.isStrOf_shape hb;cases e
  | s x =>
   obtain ⟨t,rfl⟩:∃ t,v = .str x t:=Value.isStrOf_shape ha
   cases b with
   | i n=> obtain ⟨u,e⟩:∃ u,Value.str x t = .int n u:=Value.isInt_shape hb;cases e
   | s y=> obtain ⟨u,e⟩:∃ u,Value.str x t = .str y u:=Value.isStrOf_shape hb;cases e;rfl
 byValue:=fun k v h=> by
  cases k
  ·obtain ⟨t,rfl⟩:=Value.isInt_shape h;rfl
  ·obtain ⟨t,rfl⟩:=Value.isStrOf_shape h;rfl
 pyHash:=fun {A E s k v Q} hv h=> by
  cases k
  ·obtain ⟨t,rfl⟩:=Value.isInt_shape hv;exact wpAny_pyHash_int h
  ·obtain ⟨t,rfl⟩:=Value.isStrOf_shape hv;exact wpAny_pyHash_str h
 eqBool:=fun {A E s a b u v Q} hu hv h=> by
  cases a <;> cases b
  ·obtain ⟨t,rfl⟩:=Value.isInt_shape hu;obtain ⟨u,rfl⟩:=Value.isInt_shape hv
   refine wpAny_eqBool_int ?_
   rename_i m n
   have e:(m == n) = decide (Atom.i m = Atom.i n):=by by_cases q:m = n <;> simp [q]
   rw [e];exact h
  ·obtain ⟨t,rfl⟩:=Value.isInt_shape hu;obtain ⟨u,rfl⟩:=Value.isStrOf_shape hv
   exact zIp (by simpa using h)
  ·obtain ⟨t,rfl⟩:=Value.isStrOf_shape hu;obtain ⟨u,rfl⟩:=Value.isInt_shape hv
   exact zIo (by simpa using h)
  ·obtain ⟨t,rfl⟩:=Value.isStrOf_shape hu;obtain ⟨u,rfl⟩:=Value.isStrOf_shape hv
   refine wpAny_eqBool_str ?_
   rename_i x y
   have e:decide (x = y) = decide (Atom.s x = Atom.s y):=by by_cases q:x = y <;> simp [q]
   rw [e];exact h
 «strs»:=fun k x t v h=> by
  cases k with
  | i n=> obtain ⟨u,e⟩:∃ u,Value.str x t = .int n u:=Value.isInt_shape h;cases e
  | s y =>
   obtain ⟨u,e⟩:∃ u,Value.str x t = .str y u:=Value.isStrOf_shape h
   cases e
   cases v <;> rfl
end Mine
end
section
namespace Mine
variable {B:Addr → Prop}
inductive AObj where
 | list (l:List V)
 | dictA (kvs:List (Atom × V))
 | dictT (kvs:List (List Atom × V))
 | inst (C dx:Addr) (m:List (Str × V))
 | cell (v:Option V)
 | raw (o:Obj)
 | rng (n:Int)
 | enumL (it l:Addr)
 | enumT (it l:Addr) (xs:List V)
 | setA (l:List Atom)
noncomputable def AObj.own (a:Addr):AObj → List Addr
 | .inst _ dx _=> [a,dx]
 | .enumL it _=> [a,it]
 | .enumT it _ _=> [a,it]
 | _=> [a]
noncomputable abbrev AH:=List (Addr × AObj)
noncomputable def zA3 (H:AH):List Addr:=H.flatMap fun p=> p.2.own p.1
inductive KvC {κ:Type} (p:Value → Prop) (q:List (κ × Value) → Prop) (k:κ) (l:List (κ × Value)):Prop
 | mk (x:Value) (r:List (κ × Value)) (e:l = (k,x) :: r) (h:p x) (t:q r)
inductive KvTC (B:Addr → Prop) (p:Value → Prop) (q:List (List Atom × Addr × Value) → Prop) (k:List Atom) (l:List (List Atom × Addr × Value)):Prop
 | mk (a:Addr) (x:Value) (r:List (List Atom × Addr × Value)) (e:l = (k,a,x) :: r) (nb:¬ B a) (h:p x) (t:q r)
inductive EsC (B:Addr → Prop) (h:Heap) (d:DictEntry) (q:List (Str × V) → Prop) (m:List (Str × V)):Prop
 | mk (x:Str) (t:Tok) (v:V) (r:List (Str × V)) (e:m = (x,v) :: r) (ek:d.key = .str x t) (i:Is B h v d.val) (z:q r)
noncomputable def KvIs {κ:Type} (B:Addr → Prop) (h:Heap):List (κ × V) → List (κ × Value) → Prop
 | [],l=> l = []
 | (k,v) :: r,l=> KvC (Is B h v) (KvIs B h r) k l
noncomputable def KvIsT (B:Addr → Prop) (h:Heap):List (List Atom × V) → List (List Atom × Addr × Value) → Prop
 | [],l=> l = []
 | (k,v) :: r,l=> KvTC B (Is B h v) (KvIsT B h r) k l
noncomputable def EsRep (B:Addr → Prop) (h:Heap):List DictEntry → List (Str × V) → Prop
 | [],m=> m = []
 | e :: es,m=> EsC B h e (EsRep B h es) m
inductive RepL (B:Addr → Prop) (h:Heap) (a:Addr) (l:List V):Prop
 | mk (xs:Array Value) (hl:h.PlainList a xs) (i:IsL B h l xs.toList)
inductive RepA (prog:Program) (w:World) (B:Addr → Prop) (h:Heap) (a:Addr) (kvs:List (Atom × V)):Prop
 | mk (kvs':List (Atom × Value)) (hd:h.DictOf (zAc prog w) a kvs') (i:KvIs B h kvs kvs')
inductive RepT (prog:Program) (w:World) (B:Addr → Prop) (h:Heap) (a:Addr) (kvs:List (List Atom × V)):Prop
 | mk (xs:List (List Atom × Addr × Value)) (hd:h.DictOfH (tupleKind (zAc prog w)) a xs) (i:KvIsT B h kvs xs)
inductive RepI (B:Addr → Prop) (h:Heap) (a C dx:Addr) (m:List (Str × V)):Prop
 | mk (ho:h.get? a = some (instObj C dx)) (es:List DictEntry) (n:Nat) (hd:h.get? dx = some (dictOf es n)) (i:EsRep B h es m) (z:es.length ≤ 100)
inductive RepC (B:Addr → Prop) (h:Heap) (a:Addr) (v:Option V):Prop
 | mk (o:Obj) (x:Option Value) (ho:h.get? a = some o) (hd:o.data = .cell x) (i:OptIs B h v x)
noncomputable def RepO (prog:Program) (w:World) (B:Addr → Prop) (h:Heap) (a:Addr):AObj → Prop
 | .list l=> RepL B h a l
 | .dictA kvs=> RepA prog w B h a kvs ∧ a ≠ sysModules
 | .dictT kvs=> RepT prog w B h a kvs ∧ a ≠ sysModules
 | .inst C dx m=> RepI B h a C dx m
 | .cell v=> RepC B h a v
 | .raw o=> h.get? a = some o ∧ o.cls ≠ .type "tuple"
 | .rng n=> ∃ t u v,IsRange h a 0 n 1 t u v
 | .enumL it l=> IsEnum h a it 0 .none ∧ h.IsListIter it l 0
 | .enumT it l xs=> IsEnum h a it 0 .none ∧ h.IsTupleIter it l 0 ∧ Is B h (.tup xs) (.ref l)
 | .setA l=> (∃ n,h.SetOf (zAc prog w) a (fun k=> decide (k ∈ l)) n) ∧ l.Nodup
theorem KvIs.mono {κ:Type} {h h':Heap} (p:Pres B h h') {l:List (κ × V)}:∀ {l'},KvIs B h l l' → KvIs B h' l l':=by
 induction l with
 | nil =>
  intro _ x
  exact x
 | cons pp _ ih =>
  obtain ⟨_,_⟩:=pp
  intro _ zz
  obtain ⟨x,r',e,a,b⟩:=zz;exact ⟨x,r',e,Is.mono p a,ih b⟩
theorem KvIsT.mono {h h':Heap} (p:Pres B h h') {l:List (List Atom × V)}:∀ {l'},KvIsT B h l l' → KvIsT B h' l l':=by
 induction l with
 | nil =>
  intro _ x
  exact x
 | cons pp _ ih =>
  obtain ⟨_,_⟩:=pp
  intro _ zz
  obtain ⟨a,x,r',e,nb,i,b⟩:=zz;exact ⟨a,x,r',e,nb,Is.mono p i,ih b⟩
theorem KvIsT.nb {h:Heap} {l:List (List Atom × V)}:∀ {l'},KvIsT B h l l' → ∀ y ∈ l',¬ B y.2.1:=by
 induction l with
 | nil =>
  intro _ x _ hy
  cases x;cases hy
 | cons pp _ ih =>
  obtain ⟨_,_⟩:=pp
  intro _ zz y hy
  obtain ⟨a,x,r',e,nb,i,b⟩:=zz
  subst e
  rcases List.mem_cons.mp hy with rfl | hy
  ·exact nb
  ·exact ih b y hy
theorem EsRep.mono {h h':Heap} (p:Pres B h h') {es:List DictEntry}:∀ {m},EsRep B h es m → EsRep B h' es m:=by
 induction es with
 | nil =>
  intro _ x
  exact x
 | cons _ _ ih =>
  intro _ zz
  obtain ⟨x,t,v,r,e,k,i,b⟩:=zz;exact ⟨x,t,v,r,e,k,Is.mono p i,ih b⟩
theorem zVb {prog:Program} {w:World} {h h':Heap} (p:Pres B h h') {k:List Atom} {a:Addr} (hb:¬ B a) (x:IsTupleKey (zAc prog w) h k a):IsTupleKey (zAc prog w) h' k a:=by
 refine bc fun nn=> ?_
 obtain ⟨o,items,n,ho,hc,hd,hi⟩:=x
 obtain ⟨o',ho',hc',n',hd'⟩:=p a items hb ⟨o,ho,hc,n,hd⟩
 refine nn ?_
 exact ⟨o',items,n',ho',hc',hd',hi⟩
theorem RepO.move {prog:Program} {w:World} {h h':Heap} {a:Addr} {o:AObj} (x:RepO prog w B h a o) (k:∀ b ∈ o.own a,∀ ob,h.get? b = some ob → h'.get? b = some ob) (p:Pres B h h'):RepO prog w B h' a o:=by
 cases o with
 | list l =>
  refine bc fun nn=> ?_
  obtain ⟨xs,⟨n,ho⟩,i⟩:=x
  refine nn ?_
  exact ⟨xs,⟨n,k a (by first | exact .head _ | exact .tail _ (.head _)) _ ho⟩,i.mono p⟩
 | dictA kvs =>
  refine bc fun nn=> ?_
  obtain ⟨⟨kvs',⟨ob,es,ep,ho,r⟩,i⟩,ns⟩:=x
  refine nn ?_
  exact ⟨⟨kvs',⟨ob,es,ep,k a (by first | exact .head _ | exact .tail _ (.head _)) _ ho,r⟩,i.mono p⟩,ns⟩
 | dictT kvs =>
  refine bc fun nn=> ?_
  obtain ⟨⟨xs,⟨ob,es,ep,ho,q1,q2,q3,q4,q5⟩,i⟩,ns⟩:=x
  refine nn ?_
  exact ⟨⟨xs,⟨ob,es,ep,k a (by first | exact .head _ | exact .tail _ (.head _)) _ ho,q1,q2,q3,fun y hy=> zVb p (i.nb y hy) (q4 y hy),q5⟩,i.mono p⟩,ns⟩
 | inst C dx m =>
  refine bc fun nn=> ?_
  obtain ⟨ho,es,n,hd,i,z⟩:=x
  refine nn ?_
  exact ⟨k a (by first | exact .head _ | exact .tail _ (.head _)) _ ho,es,n,k dx (by first | exact .head _ | exact .tail _ (.head _)) _ hd,i.mono p,z⟩
 | cell v =>
  refine bc fun nn=> ?_
  obtain ⟨ob,y,ho,hd,i⟩:=x
  refine nn ?_
  exact ⟨ob,y,k a (by first | exact .head _ | exact .tail _ (.head _)) _ ho,hd,i.mono p⟩
 | raw ob=> exact ⟨k a (by first | exact .head _ | exact .tail _ (.head _)) _ x.1,x.2⟩
 | rng n=> obtain ⟨t,u,v,e⟩:=x;exact ⟨t,u,v,k a (by first | exact .head _ | exact .tail _ (.head _)) _ e⟩
 | enumL it l =>
  refine bc fun nn=> ?_
  obtain ⟨e,o,ho,r⟩:=x
  refine nn ?_
  exact ⟨k a (by first | exact .head _ | exact .tail _ (.head _)) _ e,o,k it (by first | exact .head _ | exact .tail _ (.head _)) _ ho,r⟩
 | enumT it l xs =>
  refine bc fun nn=> ?_
  obtain ⟨e,⟨o,ho,r⟩,i⟩:=x
  refine nn ?_
  exact ⟨k a (by first | exact .head _ | exact .tail _ (.head _)) _ e,⟨o,k it (by first | exact .head _ | exact .tail _ (.head _)) _ ho,r⟩,i.mono p⟩
 | setA l =>
  refine bc fun nn=> ?_
  obtain ⟨⟨n,ob,es,ep,t,ho,r⟩,nd⟩:=x
  refine nn ?_
  exact ⟨⟨n,ob,es,ep,t,k a (by first | exact .head _ | exact .tail _ (.head _)) _ ho,r⟩,nd⟩
theorem RepO.notTuple {prog:Program} {w:World} {h:Heap} {a:Addr} {o:AObj} (x:RepO prog w B h a o) {b:Addr} (hb:b ∈ o.own a):∃ ob,h.get? b = some ob ∧ ∀ xs,¬ h.IsTuple b xs:=by
 have no:∀ {ob:Obj},h.get? b = some ob → (ob.cls ≠ .type "tuple" ∨ ∀ xs n,ob.data ≠ .seq xs n) → ∃ ob,h.get? b = some ob ∧ ∀ xs,¬ h.IsTuple b xs:=by
  intro ob e q
  refine ⟨ob,e,fun xs ⟨o',e',c,n,d⟩=> ?_⟩
  rw [e] at e';cases e'
  rcases q with q | q
  ·exact q c
  ·exact q _ _ d
 cases o with
 | list l =>
  refine bc fun nn=> ?_
  obtain ⟨xs,⟨n,ho⟩,i⟩:=x
  obtain rfl:b = a:=List.mem_singleton.mp hb
  refine nn ?_
  exact no ho (.inl (show Value.type "list" ≠ .type "tuple" by decide))
 | dictA kvs =>
  refine bc fun nn=> ?_
  obtain ⟨⟨kvs',⟨ob,es,ep,ho,c,d,r⟩,i⟩,ns⟩:=x
  obtain rfl:b = a:=List.mem_singleton.mp hb
  refine nn ?_
  exact no ho (.inr (by rw [d];intro _ _ e;cases e))
 | dictT kvs =>
  refine bc fun nn=> ?_
  obtain ⟨⟨xs,⟨ob,es,ep,ho,q1,d,r⟩,i⟩,ns⟩:=x
  obtain rfl:b = a:=List.mem_singleton.mp hb
  refine nn ?_
  exact no ho (.inr (by rw [d];intro _ _ e;cases e))
 | inst C dx m =>
  refine bc fun nn=> ?_
  obtain ⟨ho,es,n,hd,i,z⟩:=x
  refine nn ?_
  have hb:b = a ∨ b = dx:=(List.mem_cons.mp hb).imp id List.mem_singleton.mp
  rcases hb with rfl | rfl
  ·exact no ho (.inr (by intro _ _ e;cases e))
  ·exact no hd (.inr (by intro _ _ e;cases e))
 | cell v =>
  refine bc fun nn=> ?_
  obtain ⟨ob,y,ho,d,i⟩:=x
  obtain rfl:b = a:=List.mem_singleton.mp hb
  refine nn ?_
  exact no ho (.inr (by rw [d];intro _ _ e;cases e))
 | raw ob =>
  obtain rfl:b = a:=List.mem_singleton.mp hb
  exact no x.1 (.inl x.2)
 | rng n =>
  refine bc fun nn=> ?_
  obtain ⟨t,u,v,e⟩:=x
  obtain rfl:b = a:=List.mem_singleton.mp hb
  refine nn ?_
  exact no e (.inl (show Value.type "range" ≠ .type "tuple" by decide))
 | enumL it l =>
  refine bc fun nn=> ?_
  obtain ⟨e,o,ho,hc,r⟩:=x
  refine nn ?_
  have hb:b = a ∨ b = it:=(List.mem_cons.mp hb).imp id List.mem_singleton.mp
  rcases hb with rfl | rfl
  ·exact no e (.inl (show Value.type "enumerate" ≠ .type "tuple" by decide))
  ·exact no ho (.inl (by rw [hc];decide))
 | enumT it l xs =>
  refine bc fun nn=> ?_
  obtain ⟨e,⟨o,ho,hc,r⟩,i⟩:=x
  refine nn ?_
  have hb:b = a ∨ b = it:=(List.mem_cons.mp hb).imp id List.mem_singleton.mp
  rcases hb with rfl | rfl
  ·exact no e (.inl (show Value.type "enumerate" ≠ .type "tuple" by decide))
  ·exact no ho (.inl (by rw [hc];decide))
 | setA l =>
  refine bc fun nn=> ?_
  obtain ⟨⟨n,ob,es,ep,t,ho,q1,d,r⟩,nd⟩:=x
  obtain rfl:b = a:=List.mem_singleton.mp hb
  refine nn ?_
  exact no ho (.inr (by rw [d];intro _ _ e;cases e))
set_option genInjectivity false in
structure Cx where
 prog:Program
 w:World
 s₀:Shared
 A:Around
 env:Env
 X:(Addr → Option Obj) → Value → Shared → Prop
 n:Nat
 ban:Addr → Prop
 up:List (Addr × Loc)
noncomputable abbrev Cx.M (C:Cx):Model:=model C.prog C.w
noncomputable abbrev Cx.L (C:Cx):Addr:=C.env.locals
structure Ok (C:Cx):Prop where
 kin:(KK C.w).In C.s₀.heap
 hh:C.A.handled = none
 dep:C.A.depth + C.n < recursionLimit
 un:C.A.units + 8 * C.n + 100 < cLine
 lim:C.s₀.heap.NoLimit
 top:∃ p loose mg mb,TopRead p loose mg mb C.s₀.heap
 kf:C.env.scope.kind = .function
 kg:C.env.globals = mainGlobals
 kb:C.env.builtins = builtinsNs
 int:interactive C.env = false
 nban:∀ a o,C.s₀.heap.get? a = some o → ¬ C.ban a
 file:(C.prog.main.file == ("/claim/cut.py":Str)) = true
 nosup:(C.prog.main.scope.names.lookup ("super":Str)).isSome = false
structure St (C:Cx) (F:Addr → Option Obj) (m:Loc) (H:AH) (s:Shared):Prop where
 ok:Ok C
 gens:s.gens = C.s₀.gens
 os:s.os = C.s₀.os
 base:∀ b o,C.s₀.heap.get? b = some o → F b = some o
 raw:∀ b o,F b = some o → s.heap.get? b = some o
 bl:∀ a,C.ban a → ∃ b,a ≤ b ∧ (b = C.L ∨ (∃ o,F b = some o) ∨ ∃ u,(b,u) ∈ C.up)
 fr:NsRep C.ban s.heap C.L m
 objs:∀ p ∈ H,RepO C.prog C.w C.ban s.heap p.1 p.2
 nodup:(C.L :: zA3 H).Nodup
 fresh:∀ a ∈ C.L :: zA3 H,F a = none
 ups:∀ p ∈ C.up,NsRep C.ban s.heap p.1 p.2 ∧ F p.1 = none ∧ p.1 ∉ C.L :: zA3 H
inductive PostI {α β:Type} (C:Cx) (F:Addr → Option Obj) (h:Heap) (R:(Addr → Prop) → Heap → β → α → Prop) (Q:β → Loc → AH → Prop) (a:α) (s':Shared):Prop
 | mk (b:β) (m':Loc) (H':AH) (r:R C.ban s'.heap b a) (st:St C F m' H' s') (p:Pres C.ban h s'.heap) (q:Q b m' H'):PostI C F h R Q a s'
noncomputable def Post {α β:Type} (C:Cx) (F:Addr → Option Obj) (s:Shared) (R:(Addr → Prop) → Heap → β → α → Prop) (Q:β → Loc → AH → Prop):α → Shared → Prop :=
 fun a s'=> PostI C F s.heap R Q a s'
noncomputable def T {α β:Type} (C:Cx) (m:Loc) (H:AH) (ins:List V) (t:List Value → Sem α) (R:(Addr → Prop) → Heap → β → α → Prop) (Q:β → Loc → AH → Prop):Prop :=
 ∀ F s vs,St C F m H s → IsL C.ban s.heap ins vs → wpAny C.M C.A (t vs) (Post C F s R Q) (C.X F) s
section
variable {C:Cx} {F:Addr → Option Obj} {m:Loc} {H:AH} {s:Shared}
theorem zAt (p:Addr × AObj) (H:AH):zA3 (p :: H) = p.2.own p.1 ++ zA3 H:=rfl
theorem zC3 (H H':AH):zA3 (H ++ H') = zA3 H ++ zA3 H':=by simp [zA3]
theorem zBh {p:Addr × AObj} {H:AH} (h:p ∈ H) {b:Addr} (hb:b ∈ p.2.own p.1):b ∈ zA3 H:=List.mem_flatMap.mpr ⟨p,h,hb⟩
theorem NsRep.there {h:Heap} {L:Addr} {m:Loc} (x:NsRep B h L m):∃ o,h.get? L = some o ∧ (∃ es n,o.data = .dict es n):=by
 refine bc fun nn=> ?_
 obtain ⟨f,⟨o,es,ep,ho,hd,_⟩,_⟩:=x
 refine nn ?_
 exact ⟨o,ho,es,ep,hd⟩
theorem NsRep.move {h h':Heap} {L:Addr} {m:Loc} (x:NsRep B h L m) (k:∀ o,h.get? L = some o → h'.get? L = some o) (p:Pres B h h'):NsRep B h' L m:=by
 obtain ⟨f,hn,hf⟩:=x
 exact ⟨f,hn.at' k,fun y=> (hf y).mono p⟩
theorem St.there (x:St C F m H s) {b:Addr} (hb:b ∈ C.L :: zA3 H):∃ ob,s.heap.get? b = some ob ∧ ∀ xs,¬ s.heap.IsTuple b xs:=by
 rcases List.mem_cons.mp hb with rfl | hb
 ·obtain ⟨o,ho,es,n,hd⟩:=x.fr.there
  exact ⟨o,ho,fun xs ⟨o',e,c,n',d⟩=> by rw [ho] at e;cases e;rw [hd] at d;cases d⟩
 ·obtain ⟨p,hp,hb⟩:=List.mem_flatMap.mp hb
  exact (x.objs p hp).notTuple hb
theorem St.upsNew (x:St C F m H s) {h':Heap} {H':AH} (k:∀ b o,s.heap.get? b = some o → h'.get? b = some o) (new:∀ a ∈ C.L :: zA3 H',a ∈ C.L :: zA3 H ∨ s.heap.get? a = none) :
    ∀ p ∈ C.up,NsRep C.ban h' p.1 p.2 ∧ F p.1 = none ∧ p.1 ∉ C.L :: zA3 H':=fun p hp=> by
 refine bc fun nn=> ?_
 obtain ⟨h1,h2,h3⟩:=x.ups p hp
 refine nn ?_
 refine ⟨h1.move (fun o e=> k _ o e) (Pres.keeps k),h2,fun hm=> ?_⟩
 rcases new _ hm with q | q
 ·exact h3 q
 ·refine bc fun nn=> ?_
  obtain ⟨o,e,_⟩:=h1.there
  refine nn ?_
  exact nn3 e q
theorem St.upThere (x:St C F m H s) {b:Addr} {u:Loc} (hb:(b,u) ∈ C.up):∃ ob,s.heap.get? b = some ob ∧ ∀ xs,¬ s.heap.IsTuple b xs:=by
 refine bc fun nn=> ?_
 obtain ⟨o,ho,es,n,hd⟩:=(x.ups _ hb).1.there
 refine nn ?_
 exact ⟨o,ho,fun xs ⟨o',e,c,n',d⟩=> by rw [ho] at e;cases e;rw [hd] at d;cases d⟩
theorem St.ups1 (x:St C F m H s) {s':Shared} (y:St C F m H s') {D:Addr} (hD:s.heap.get? D = none):∀ p ∈ C.up,NsRep C.ban s'.heap p.1 p.2 ∧ F p.1 = none ∧ p.1 ∉ C.L :: D :: zA3 H:=fun p hp=> by
 obtain ⟨h1,h2,h3⟩:=y.ups p hp
 refine ⟨h1,h2,fun hm=> ?_⟩
 rcases List.mem_cons.mp hm with e | hm
 ·exact h3 (e ▸ .head _)
 ·rcases List.mem_cons.mp hm with e | hm
  ·obtain ⟨o,ho,_⟩:=(x.ups p hp).1.there
   rw [e,hD] at ho;cases ho
  ·exact h3 (.tail _ hm)
theorem St.ups2 (x:St C F m H s) {s':Shared} (y:St C F m H s') {D D':Addr} (hD:s.heap.get? D = none) (hD':s.heap.get? D' = none):∀ p ∈ C.up,NsRep C.ban s'.heap p.1 p.2 ∧ F p.1 = none ∧ p.1 ∉ C.L :: D :: D' :: zA3 H:=fun p hp=> by
 obtain ⟨h1,h2,h3⟩:=x.ups1 y hD p hp
 refine ⟨h1,h2,fun hm=> ?_⟩
 rcases List.mem_cons.mp hm with e | hm
 ·exact h3 (e ▸ .head _)
 ·rcases List.mem_cons.mp hm with e | hm
  ·exact h3 (e ▸ .tail _ (.head _))
  ·rcases List.mem_cons.mp hm with e | hm
   ·obtain ⟨o,ho,_⟩:=(x.ups p hp).1.there
    rw [e,hD'] at ho;cases ho
   ·exact h3 (.tail _ (.tail _ hm))
theorem St.keeps (x:St C F m H s) {h':Heap} {tk:Nat} (k:∀ b o,s.heap.get? b = some o → h'.get? b = some o):St C F m H { s with heap:=h',toks:=tk } where
 ok:=x.ok
 gens:=x.gens
 os:=x.os
 base:=x.base
 raw:=fun b o e=> k b o (x.raw b o e)
 bl:=x.bl
 fr:=x.fr.move (fun o e=> k _ o e) (Pres.keeps k)
 objs:=fun p hp=> (x.objs p hp).move (fun b _ ob e=> k b ob e) (Pres.keeps k)
 nodup:=x.nodup
 fresh:=x.fresh
 ups:=fun p hp=> ⟨(x.ups p hp).1.move (fun o e=> k _ o e) (Pres.keeps k),(x.ups p hp).2⟩
theorem St.tok (x:St C F m H s) {tk:Nat}:St C F m H { s with toks:=tk }:=x.keeps (h':=s.heap) fun _ _ e=> e
theorem St.alloc (x:St C F m H s) {o:Obj} {ao:AObj} (hf:o.isFreed = false) (hown:ao.own s.heap.objs.size = [s.heap.objs.size]) (hr:RepO C.prog C.w C.ban (s.heap.push o) s.heap.objs.size ao) :
    St C F m ((s.heap.objs.size,ao) :: H) { s with heap:=s.heap.push o }:=by
 have k:∀ b ob,s.heap.get? b = some ob → (s.heap.push o).get? b = some ob:=fun b ob e=> Heap.get?_push_of_some o e
 have y:=x.keeps (h':=s.heap.push o) (tk:=s.toks) k
 have nw:∀ b ∈ C.L :: zA3 H,b ≠ s.heap.objs.size:=fun b hb e=> by
  obtain ⟨ob,ho,_⟩:=x.there hb
  exact Nat.ne_of_lt (Heap.lt_size ho) e
 refine ⟨y.ok,y.gens,y.os,y.base,y.raw,y.bl,y.fr,fun p hp=> ?_,?_,fun a ha=> ?_,fun p hp=> ⟨(y.ups p hp).1,(y.ups p hp).2.1,fun hm=> ?_⟩⟩
 ·rcases List.mem_cons.mp hp with rfl | hp
  ·exact hr
  ·exact y.objs p hp
 ·rw [zAt]
  show (C.L :: (ao.own s.heap.objs.size ++ zA3 H)).Nodup
  rw [hown]
  have q:=x.nodup
  rw [List.nodup_cons] at q ⊢
  refine ⟨fun hm=> ?_,?_⟩
  ·rcases List.mem_append.mp hm with hm | hm
   ·exact nw _ (.head _) (by simpa using hm)
   ·exact q.1 hm
  ·exact List.nodup_cons.mpr ⟨fun hm=> nw _ (.tail _ hm) rfl,q.2⟩
 ·have ha:a = C.L ∨ a = s.heap.objs.size ∨ a ∈ zA3 H:=by
    rw [zAt] at ha
    rcases List.mem_cons.mp ha with h | h
    ·exact .inl h
    ·rcases List.mem_append.mp h with h | h
     ·exact .inr (.inl (by rw [show (s.heap.objs.size,ao).2.own (s.heap.objs.size,ao).1 = [s.heap.objs.size] from hown] at h;simpa using h))
     ·exact .inr (.inr h)
  rcases ha with h | h | h
  ·exact x.fresh a (h ▸ .head _)
  ·cases q:F a with
   | none=> rfl
   | some ob=> rw [h] at q;exact absurd (Heap.lt_size (x.raw _ _ q)) (Nat.lt_irrefl _)
  ·exact x.fresh a (.tail _ h)
 ·obtain ⟨ob,ho,_⟩:=(x.ups p hp).1.there
  have hne:p.1 ≠ s.heap.objs.size:=Nat.ne_of_lt (Heap.lt_size ho)
  rw [zAt] at hm
  rcases List.mem_cons.mp hm with h | h
  ·exact (x.ups p hp).2.2 (h ▸ .head _)
  ·rcases List.mem_append.mp h with h | h
   ·exact hne (by rw [show (s.heap.objs.size,ao).2.own (s.heap.objs.size,ao).1 = [s.heap.objs.size] from hown] at h;simpa using h)
   ·exact (x.ups p hp).2.2 (.tail _ h)
inductive Upd (a:Addr) (o o':AObj):AH → AH → Prop
 | head {r}:Upd a o o' ((a,o) :: r) ((a,o') :: r)
 | tail {p r r'}:Upd a o o' r r' → Upd a o o' (p :: r) (p :: r')
theorem Upd.split {a:Addr} {o o':AObj} {l l':AH} (u:Upd a o o' l l'):∃ P R,l = P ++ (a,o) :: R ∧ l' = P ++ (a,o') :: R:=by
 induction u with
 | head=> exact ⟨[],_,rfl,rfl⟩
 | tail _ ih =>
  obtain ⟨P,R,e,e'⟩:=ih
  exact ⟨_ :: P,R,congrArg _ e,congrArg _ e'⟩
theorem Upd.of {a:Addr} {o o':AObj} {R:AH}:∀ P:AH,Upd a o o' (P ++ (a,o) :: R) (P ++ (a,o') :: R)
 | []=> .head
 | p :: P=> .tail (Upd.of P)
theorem Upd.left {a:Addr} {o o':AObj} {l l':AH} (R:AH) (u:Upd a o o' l l'):Upd a o o' (l ++ R) (l' ++ R):=by
 obtain ⟨P,R',rfl,rfl⟩:=u.split
 rw [List.append_assoc,List.append_assoc]
 exact Upd.of _
theorem Upd.right {a:Addr} {o o':AObj} {l l':AH}:∀ (P:AH),Upd a o o' l l' → Upd a o o' (P ++ l) (P ++ l')
 | [],u=> u
 | _ :: P,u=> .tail (Upd.right P u)
theorem Upd.mem {a:Addr} {o o':AObj} {l l':AH} (u:Upd a o o' l l'):(a,o) ∈ l:=by
 obtain ⟨P,R,rfl,rfl⟩:=u.split
 exact List.mem_append_right _ (.head _)
theorem St.update (x:St C F m H s) {a:Addr} {o o':AObj} {H':AH} {h':Heap} {tk:Nat} (u:Upd a o o' H H') (hown:o'.own a = o.own a)
    (same:∀ b ob,b ∉ o.own a → s.heap.get? b = some ob → h'.get? b = some ob) (hr:Pres C.ban s.heap h' → RepO C.prog C.w C.ban h' a o') :
    St C F m H' { s with heap:=h',toks:=tk } ∧ Pres C.ban s.heap h':=by
 refine bc fun nn=> ?_
 obtain ⟨P,R,rfl,rfl⟩:=u.split
 refine nn ?_
 have rep:=x.objs (a,o) (by exact List.mem_append_right _ (.head _))
 have ow:zA3 (P ++ (a,o') :: R) = zA3 (P ++ (a,o) :: R):=by
  rw [zC3,zC3,zAt,zAt]
  show _ ++ (o'.own a ++ _) = _ ++ (o.own a ++ _)
  rw [hown]
 have pres:Pres C.ban s.heap h':=fun b xs _ t=> by
  have hb:b ∉ o.own a:=fun hb=> by
   refine bc fun nn=> ?_
   obtain ⟨ob,_,q⟩:=rep.notTuple hb
   refine nn ?_
   exact q xs t
  refine bc fun nn=> ?_
  obtain ⟨ob,ho,r⟩:=t
  refine nn ?_
  exact ⟨ob,same b ob hb ho,r⟩
 have apart:∀ b,b ∈ C.L :: zA3 (P ++ (a,o) :: R) → (b = C.L ∨ b ∈ zA3 P ∨ b ∈ zA3 R) → b ∉ o.own a:=by
  intro b _ hb hm
  have nd:=x.nodup
  rw [zC3,zAt] at nd
  rw [List.nodup_cons] at nd
  have h1:=nd.1
  have h2:=nd.2
  rw [List.nodup_append] at h2
  have h3:=h2.2.1
  rw [List.nodup_append] at h3
  rcases hb with rfl | hb | hb
  ·exact h1 (List.mem_append_right _ (List.mem_append_left _ hm))
  ·exact h2.2.2 b hb b (List.mem_append_left _ hm) rfl
  ·exact h3.2.2 b hm b hb rfl
 refine ⟨⟨x.ok,x.gens,x.os,x.base,fun b ob e=> ?_,x.bl,?_,fun p hp=> ?_,?_,?_,?_⟩,pres⟩
 ·refine same b ob (fun hb=> ?_) (x.raw b ob e)
  have:=x.fresh b (.tail _ (zBh (p:=(a,o)) (by exact List.mem_append_right _ (.head _)) hb))
  exact nn3 e this
 ·exact x.fr.move (fun ob e=> same _ ob (apart _ (.head _) (.inl rfl)) e) pres
 ·rcases List.mem_append.mp hp with hp | hp
  ·exact (x.objs p (List.mem_append_left _ hp)).move (fun b hb ob e=> same b ob (apart b (.tail _ (zBh (List.mem_append_left _ hp) hb)) (.inr (.inl (zBh hp hb)))) e) pres
  ·rcases List.mem_cons.mp hp with rfl | hp
   ·exact hr pres
   ·exact (x.objs p (List.mem_append_right _ (.tail _ hp))).move (fun b hb ob e=> same b ob (apart b (.tail _ (zBh (List.mem_append_right _ (.tail _ hp)) hb)) (.inr (.inr (zBh hp hb)))) e) pres
 ·show (C.L :: zA3 _).Nodup
  rw [ow];exact x.nodup
 ·show ∀ a ∈ C.L :: zA3 _,F a = none
  rw [ow];exact x.fresh
 ·show ∀ p ∈ C.up,_ ∧ _ ∧ _ ∉ C.L :: zA3 _
  rw [ow]
  refine fun p hp=> ⟨(x.ups p hp).1.move (fun ob e=> same _ ob (fun hb=> (x.ups p hp).2.2 (.tail _ (zBh (p:=(a,o)) (by exact List.mem_append_right _ (.head _)) hb))) e) pres,(x.ups p hp).2⟩
theorem St.store (x:St C F m H s) {m':Loc} {h':Heap} {tk:Nat} (hs:Heap.SameBut C.L s.heap h') (hn:Pres C.ban s.heap h' → NsRep C.ban h' C.L m'):St C F m' H { s with heap:=h',toks:=tk } ∧ Pres C.ban s.heap h':=by
 have nd:=List.nodup_cons.mp x.nodup
 have pres:Pres C.ban s.heap h':=fun b xs _ t=> by
  have hb:b ≠ C.L:=fun e=> by
   obtain ⟨ob,_,q⟩:=x.there (b:=C.L) (.head _)
   exact q xs (e ▸ t)
  obtain ⟨ob,ho,r⟩:=t
  exact ⟨ob,(hs.2 b hb).trans ho,r⟩
 refine ⟨⟨x.ok,x.gens,x.os,x.base,fun b ob e=> ?_,x.bl,hn pres,fun p hp=> ?_,x.nodup,x.fresh,fun p hp=> ⟨(x.ups p hp).1.move (fun ob e=> (hs.2 _ fun q=> (x.ups p hp).2.2 (q ▸ .head _)).trans e) pres,(x.ups p hp).2⟩⟩,pres⟩
 ·refine (hs.2 b fun hb=> ?_).trans (x.raw b ob e)
  have:=x.fresh C.L (.head _)
  rw [hb] at e
  exact nn3 e this
 ·exact (x.objs p hp).move (fun b hb ob e=> (hs.2 b fun q=> nd.1 (q ▸ zBh hp hb)).trans e) pres
noncomputable def Weak (H' H:AH):Prop:=∃ R,List.Perm H' (H ++ R)
theorem Weak.refl (H:AH):Weak H H:=⟨[],by simp⟩
theorem St.weak (x:St C F m H s) {H':AH} (k:Weak H H'):St C F m H' s:=by
 refine bc fun nn=> ?_
 obtain ⟨R,p⟩:=k
 refine nn ?_
 have po:(zA3 H).Perm (zA3 H' ++ zA3 R):=by rw [← zC3];exact p.flatMap_right _
 have pc:=(po.cons C.L)
 have nd:(C.L :: (zA3 H' ++ zA3 R)).Nodup:=pc.nodup_iff.mp x.nodup
 have sub:∀ a,a ∈ C.L :: zA3 H' → a ∈ C.L :: (zA3 H' ++ zA3 R):=fun a ha=> by
  rcases List.mem_cons.mp ha with rfl | ha
  ·exact .head _
  ·exact .tail _ (List.mem_append_left _ ha)
 refine ⟨x.ok,x.gens,x.os,x.base,x.raw,x.bl,x.fr,fun q hq=> x.objs q (p.mem_iff.mpr (List.mem_append_left _ hq)),?_,fun a ha=> x.fresh a (pc.mem_iff.mpr (sub a ha)),fun q hq=> ⟨(x.ups q hq).1,(x.ups q hq).2.1,fun hm=> (x.ups q hq).2.2 (pc.mem_iff.mpr (sub _ hm))⟩⟩
 ·rw [← List.cons_append] at nd
  exact (List.nodup_append.mp nd).1
end
section
variable {α β γ δ:Type} {C:Cx} {F:Addr → Option Obj} {m:Loc} {H:AH} {s:Shared}
theorem Post.shift {s':Shared} {R:(Addr → Prop) → Heap → β → α → Prop} {Q:β → Loc → AH → Prop} {a:α} {s'':Shared} (p:Pres C.ban s.heap s'.heap) (x:Post C F s' R Q a s''):Post C F s R Q a s'':=by
 obtain ⟨b,m',H',r,st,p',q⟩:=x
 exact ⟨b,m',H',r,st,p.trans p',q⟩
theorem andThen {M:Model} {A:Around} {E:Value → Shared → Prop} {t:Sem α} {R:(Addr → Prop) → Heap → β → α → Prop} {Q:β → Loc → AH → Prop} {P:α → Shared → Prop} (h:wpAny M A t (Post C F s R Q) E s)
    (k:∀ a s' b m' H',R C.ban s'.heap b a → St C F m' H' s' → Pres C.ban s.heap s'.heap → Q b m' H' → P a s'):wpAny M A t P E s :=
 wpAny_mono h (fun a s' ⟨b,m',H',r,st,p,q⟩=> k a s' b m' H' r st p q) fun _ _ e=> e
theorem T.conseq {ins:List V} {t:List Value → Sem α} {R:(Addr → Prop) → Heap → β → α → Prop} {Q Q':β → Loc → AH → Prop} (h:T C m H ins t R Q) (k:∀ b m' H',Q b m' H' → Q' b m' H'):T C m H ins t R Q' :=
 fun F s vs st i=> andThen (h F s vs st i) fun a s' b m' H' r st' p q=> ⟨b,m',H',r,st',p,k b m' H' q⟩
theorem T.weakPost {ins:List V} {t:List Value → Sem α} {R:(Addr → Prop) → Heap → β → α → Prop} {Q Q':β → Loc → AH → Prop} (h:T C m H ins t R Q) (k:∀ b m' H',Q b m' H' → ∃ H'',Weak H' H'' ∧ Q' b m' H''):T C m H ins t R Q' :=
 fun F s vs st i=> andThen (h F s vs st i) fun a s' b m' H' r st' p q=> by
  obtain ⟨H'',w,q'⟩:=k b m' H' q
  exact ⟨b,m',H'',r,st'.weak w,p,q'⟩
theorem T.weakPre {ins:List V} {t:List Value → Sem α} {R:(Addr → Prop) → Heap → β → α → Prop} {Q:β → Loc → AH → Prop} {H':AH} (w:Weak H H') (h:T C m H' ins t R Q):T C m H ins t R Q :=
 fun F s vs st i=> h F s vs (st.weak w) i
noncomputable abbrev NoX:(Addr → Option Obj) → Value → Shared → Prop:=fun _ _ _=> False
end
end Mine
end
section
namespace Mine
variable {B:Addr → Prop}
inductive AFlow where
 | next | brk | cont | ret (v:V)
noncomputable def zEe (B:Addr → Prop) (h:Heap):AFlow → Flow → Prop
 | .next,f=> f = .next
 | .brk,f=> f = .brk
 | .cont,f=> f = .cont
 | .ret v,f=> ∃ x,f = .ret x ∧ Is B h v x
noncomputable def BIs (_:Addr → Prop) (_:Heap) (b:Bool) (x:Bool):Prop:=x = b
noncomputable def UIs (_:Addr → Prop) (_:Heap) (_:Unit) (_:Unit):Prop:=True
noncomputable abbrev Ev (C:Cx) (m:Loc) (H:AH) (e:Expr) (Q:V → Loc → AH → Prop):Prop:=T C m H [] (fun _=> eval e C.env) Is Q
noncomputable abbrev EvL (C:Cx) (m:Loc) (H:AH) (pos:Pos) (es:List Expr) (Q:List V → Loc → AH → Prop):Prop:=T C m H [] (fun _=> spliced (backTo pos (starEach es C.env))) IsL Q
noncomputable abbrev Ex (C:Cx) (m:Loc) (H:AH) (ss:List Stmt) (Q:AFlow → Loc → AH → Prop):Prop:=T C m H [] (fun _=> execs ss C.env) zEe Q
noncomputable abbrev Tr (C:Cx) (m:Loc) (H:AH) (e:Expr) (Q:Bool → Loc → AH → Prop):Prop:=T C m H [] (fun _=> isTrue e C.env (eval e C.env)) BIs Q
noncomputable abbrev Op (C:Cx) (m:Loc) (H:AH) (ins:List V) (t:List Value → Sem Value) (Q:V → Loc → AH → Prop):Prop:=T C m H ins t Is Q
noncomputable def fst (f:Value → Sem α):List Value → Sem α
 | [a]=> f a
 | _=> unsupported "mine"
noncomputable def two (f:Value → Value → Sem α):List Value → Sem α
 | [a,b]=> f a b
 | _=> unsupported "mine"
noncomputable def three (f:Value → Value → Value → Sem α):List Value → Sem α
 | [a,b,c]=> f a b c
 | _=> unsupported "mine"
noncomputable abbrev Bin (C:Cx) (m:Loc) (H:AH) (op:Operator) (a b:V) (Q:V → Loc → AH → Prop):Prop:=Op C m H [a,b] (two (binaryOp op)) Q
noncomputable abbrev Cmp (C:Cx) (m:Loc) (H:AH) (op:CmpOp) (a b:V) (Q:V → Loc → AH → Prop):Prop:=Op C m H [a,b] (two (compareOp op)) Q
noncomputable abbrev Tru (C:Cx) (m:Loc) (H:AH) (a:V) (Q:Bool → Loc → AH → Prop):Prop:=T C m H [a] (fst truthy) BIs Q
noncomputable abbrev Att (C:Cx) (m:Loc) (H:AH) (a:V) (x:Str) (Q:V → Loc → AH → Prop):Prop:=Op C m H [a] (fst fun o=> getAttr o x true) Q
noncomputable def callT (vs:List Value):Sem Value:=match vs with
 | f :: r=> call f r []
 | []=> unsupported "mine"
noncomputable abbrev Call (C:Cx) (m:Loc) (H:AH) (f:V) (args:List V) (Q:V → Loc → AH → Prop):Prop:=Op C m H (f :: args) callT Q
noncomputable abbrev SetA (C:Cx) (m:Loc) (H:AH) (o:V) (x:Str) (v:V) (Q:Unit → Loc → AH → Prop):Prop:=T C m H [o,v] (two fun o v=> setAttr o x v) UIs Q
noncomputable abbrev SetI (C:Cx) (m:Loc) (H:AH) (o i v:V) (Q:Unit → Loc → AH → Prop):Prop:=T C m H [o,i,v] (three setItem) UIs Q
@[reducible] noncomputable def kBin2 (C:Cx) (op:Operator) (Q:V → Loc → AH → Prop) (a:V):V → Loc → AH → Prop:=fun b m H=> Bin C m H op a b Q
@[reducible] noncomputable def kBin1 (C:Cx) (op:Operator) (r:Expr) (Q:V → Loc → AH → Prop):V → Loc → AH → Prop:=fun a m H=> Ev C m H r (kBin2 C op Q a)
@[reducible] noncomputable def kCmp2 (C:Cx) (op:CmpOp) (Q:V → Loc → AH → Prop) (a:V):V → Loc → AH → Prop:=fun b m H=> Cmp C m H op a b Q
@[reducible] noncomputable def kCmp1 (C:Cx) (op:CmpOp) (r:Expr) (Q:V → Loc → AH → Prop):V → Loc → AH → Prop:=fun a m H=> Ev C m H r (kCmp2 C op Q a)
@[reducible] noncomputable def kTru (C:Cx) (Q:Bool → Loc → AH → Prop):V → Loc → AH → Prop:=fun c m H=> Tru C m H c Q
@[reducible] noncomputable def kNot (Q:Bool → Loc → AH → Prop):Bool → Loc → AH → Prop:=fun b m H=> Q (!b) m H
@[reducible] noncomputable def kNotV (Q:V → Loc → AH → Prop):Bool → Loc → AH → Prop:=fun b m H=> Q (.bool !b) m H
structure kAnd2 (C:Cx) (y:Expr) (Q:V → Loc → AH → Prop) (a:V) (b:Bool) (m:Loc) (H:AH):Prop where
 h1:(b = true → Ev C m H y Q)
 h2:(b = false → Q a m H)
@[reducible] noncomputable def kAnd1 (C:Cx) (y:Expr) (Q:V → Loc → AH → Prop):V → Loc → AH → Prop:=fun a m H=> Tru C m H a (kAnd2 C y Q a)
structure kOr2 (C:Cx) (y:Expr) (Q:V → Loc → AH → Prop) (a:V) (b:Bool) (m:Loc) (H:AH):Prop where
 h1:(b = false → Ev C m H y Q)
 h2:(b = true → Q a m H)
@[reducible] noncomputable def kOr1 (C:Cx) (y:Expr) (Q:V → Loc → AH → Prop):V → Loc → AH → Prop:=fun a m H=> Tru C m H a (kOr2 C y Q a)
structure kIfE (C:Cx) (a b:Expr) (Q:V → Loc → AH → Prop) (c:Bool) (m:Loc) (H:AH):Prop where
 h1:(c = true → Ev C m H a Q)
 h2:(c = false → Ev C m H b Q)
@[reducible] noncomputable def kLc (Q:List V → Loc → AH → Prop) (a:V):List V → Loc → AH → Prop:=fun l m H=> Q (a :: l) m H
@[reducible] noncomputable def kL (C:Cx) (pos:Pos) (es:List Expr) (Q:List V → Loc → AH → Prop):V → Loc → AH → Prop:=fun a m H=> EvL C m H pos es (kLc Q a)
structure kTup (Q:V → Loc → AH → Prop) (l:List V) (m:Loc) (H:AH):Prop where
 h1:l.length ≤ 1000
 h2:Q (.tup l) m H
structure kList (Q:V → Loc → AH → Prop) (l:List V) (m:Loc) (H:AH):Prop where
 h1:l.length ≤ 16000000
 h2:∀ a,Q (.ref a) m ((a,.list l) :: H)
section
variable {C:Cx} {F:Addr → Option Obj} {m:Loc} {H:AH} {s:Shared}
theorem is1 {h:Heap} {a:V} {vs:List Value} (x:IsL B h [a] vs):∃ v,vs = [v] ∧ Is B h a v:=by
 obtain ⟨v,r,rfl,i,e⟩:=x;cases e;exact ⟨v,rfl,i⟩
theorem is2 {h:Heap} {a b:V} {vs:List Value} (x:IsL B h [a,b] vs):∃ v u,vs = [v,u] ∧ Is B h a v ∧ Is B h b u:=by
 obtain ⟨v,r,rfl,i,e⟩:=x;obtain ⟨u,rfl,j⟩:=is1 e;exact ⟨v,u,rfl,i,j⟩
theorem is3 {h:Heap} {a b c:V} {vs:List Value} (x:IsL B h [a,b,c] vs):∃ v u t,vs = [v,u,t] ∧ Is B h a v ∧ Is B h b u ∧ Is B h c t:=by
 obtain ⟨v,r,rfl,i,e⟩:=x;obtain ⟨u,t,rfl,j,k⟩:=is2 e;exact ⟨v,u,t,rfl,i,j,k⟩
@[elab_as_elim] theorem IsL.el {P:List Value → Prop} {h:Heap} {a:V} {l:List V} {vs:List Value} (i:IsL B h (a :: l) vs) (k:∀ f r,Is B h a f → IsL B h l r → P (f :: r)):P vs:=by
 obtain ⟨f,r,rfl,hf,z⟩:=i;exact k f r hf z
@[elab_as_elim] theorem zBf {P:List Value → Prop} {h:Heap} {a:V} {vs:List Value} (i:IsL B h [a] vs) (k:∀ f,Is B h a f → P [f]):P vs:=by
 obtain ⟨v,rfl,z⟩:=is1 i;exact k v z
@[elab_as_elim] theorem zAj {P:List Value → Prop} {h:Heap} {a b:V} {vs:List Value} (i:IsL B h [a,b] vs) (k:∀ f g,Is B h a f → Is B h b g → P [f,g]):P vs:=by
 obtain ⟨v,u,rfl,z,j⟩:=is2 i;exact k v u z j
@[elab_as_elim] theorem zG9 {P:List Value → Prop} {h:Heap} {a b c:V} {vs:List Value} (i:IsL B h [a,b,c] vs) (k:∀ f g e,Is B h a f → Is B h b g → Is B h c e → P [f,g,e]):P vs:=by
 obtain ⟨v,u,t,rfl,z,j,l⟩:=is3 i;exact k v u t z j l
theorem fin {α β:Type} {R:(Addr → Prop) → Heap → β → α → Prop} {Q:β → Loc → AH → Prop} {b:β} {a:α} (st:St C F m H s) (r:R C.ban s.heap b a) (q:Q b m H):Post C F s R Q a s:=⟨b,m,H,r,st,Pres.refl _,q⟩
theorem finT {α β:Type} {R:(Addr → Prop) → Heap → β → α → Prop} {Q:β → Loc → AH → Prop} {b:β} {a:α} {tk:Nat} (st:St C F m H s) (r:R C.ban s.heap b a) (q:Q b m H):Post C F s R Q a { s with toks:=tk }:=⟨b,m,H,r,st.tok,Pres.refl _,q⟩
theorem zCn {h:Heap} {i:Int} {t:Tok}:Is B h (.int i) (.int i t):=⟨t,rfl⟩
theorem zEw {h:Heap} {x:Str} {t:Tok}:Is B h (.str x) (.str x t):=⟨t,rfl⟩
theorem zBd {h:Heap} {b:Bool}:Is B h (.bool b) (.bool b):=rfl
theorem zBc {h:Heap}:Is B h .none .none:=rfl
theorem zB3 {h:Heap} {a:Addr}:Is B h (.ref a) (.ref a):=rfl
theorem zUl {h:Heap} {v:Value}:Is B h (.con v) v:=rfl
theorem zXl {i k pos} {Q} (q:Q (.int i) m H):Ev C m H (.Constant (.int i) k pos) Q :=
 fun F s vs st _=> wpAny_Constant_int (finT st zCn q)
theorem zXk {x k pos} {Q} (q:Q (.str x) m H):Ev C m H (.Constant (.str x) k pos) Q :=
 fun F s vs st _=> wpAny_Constant_str (finT st zEw q)
theorem zWg {b k pos} {Q} (q:Q (.bool b) m H):Ev C m H (.Constant (.bool b) k pos) Q :=
 fun F s vs st _=> wpAny_Constant_bool (fin st zBd q)
theorem zWd {k pos} {Q} (q:Q .none m H):Ev C m H (.Constant .none k pos) Q :=
 fun F s vs st _=> wpAny_Constant_none (fin st zBc q)
theorem zTp {x:Str} {pos} {V:V} {Q} (hk:C.env.kindOf x = some .local) (hv:lk x m = some V) (q:Q V m H) (hd:(x == ("__debug__":Str)) = false:=by decide):Ev C m H (.Name x pos) Q:=by
 intro F s vs st i
 refine bc fun nn=> ?_
 obtain ⟨f,hn,hf⟩:=st.fr
 have:=hf x
 rw [hv] at this
 obtain ⟨v,e,iv⟩:=this.some
 refine nn ?_
 exact wpAny_Name (wpAny_loadName_local st.ok.kf hk hn e (fin st iv q)) hd
theorem zRu {x:Str} {pos} {V:V} {c:Addr} {Q} (hk:C.env.kindOf x = some .cell ∨ C.env.kindOf x = some .free) (hc:C.env.cells.lookup x = some c) (hm:(c,AObj.cell (some V)) ∈ H) (q:Q V m H)
    (hd:(x == ("__debug__":Str)) = false:=by decide) (hn:(x == ("__classdict__":Str)) = false:=by decide):Ev C m H (.Name x pos) Q:=by
 intro F s vs st i
 refine bc fun nn=> ?_
 obtain ⟨o,ov,ho,hd',iv⟩:=st.objs _ hm
 obtain ⟨v,rfl,iv⟩:=iv.some
 refine nn ?_
 refine wpAny_Name ?_ hd
 rcases hk with hk | hk
 ·exact wpAny_loadName_cell st.ok.kf hk hc ⟨o,ho,hd'⟩ (fin st iv q)
 ·exact wpAny_loadName_free st.ok.kf hk hc ⟨o,ho,hd'⟩ (fin st iv q) hn
theorem St.keep (st:St C F m H s):∀ b o,C.s₀.heap.get? b = some o → s.heap.get? b = some o:=fun b o e=> st.raw b o (st.base b o e)
theorem St.kin (st:St C F m H s):(KK C.w).In s.heap:=fun a o e=> st.keep a o (st.ok.kin a o e)
theorem zI9 {x:Str} {pos} {V:V} {v:Value} {Q} (e:nsIn (KK C.w) mainGlobals x = some (some v)) (hi:∀ B h,(KK C.w).In h → (∀ a o,(KK C.w).lookup a = some o → ¬ B a) → Is B h V v) (q:Q V m H) (hk:C.env.kindOf x = some .globalImplicit)
    (hd:(x == ("__debug__":Str)) = false:=by decide):Ev C m H (.Name x pos) Q:=by
 intro F s vs st _
 refine bc fun nn=> ?_
 obtain ⟨p,loose,mg,mb,T⟩:=st.ok.top
 refine nn ?_
 refine Calls.Name_function_global st.ok.kf hk (Calls.loadGlobal_global (mg:=mg) ?_ (mg_of st.ok.kin T.g e) (fin st (hi _ _ st.kin fun a o e=> st.ok.nban a o (st.ok.kin a o e)) q)) hd
 rw [st.ok.kg];exact T.g.keeps st.keep
theorem zJ6 {x:Str} {pos} {v:Value} {Q} (e:nsIn (KK C.w) mainGlobals x = some none) (hv:bootBuiltins x = some v) (hn:x ≠ "__name__") (q:Q (.con v) m H) (hk:C.env.kindOf x = some .globalImplicit)
    (hd:(x == ("__debug__":Str)) = false:=by decide):Ev C m H (.Name x pos) Q:=by
 intro F s vs st _
 refine bc fun nn=> ?_
 obtain ⟨p,loose,mg,mb,T⟩:=st.ok.top
 refine nn ?_
 refine Calls.Name_function_global st.ok.kf hk (Calls.loadGlobal_builtin (mg:=mg) (mb:=mb) ?_ (mg_none_of st.ok.kin T.g e) ?_ ((T.builtins x hn).trans hv) (fin st zUl q)) hd
 ·rw [st.ok.kg];exact T.g.keeps st.keep
 ·rw [st.ok.kb];exact T.b.keeps st.keep
theorem zTy {l op r pos} {Q} (h:Ev C m H l (kBin1 C op r Q)):Ev C m H (.BinOp l op r pos) Q:=by
 intro F s vs st i
 refine wpAny_BinOp (andThen (h F s [] st rfl) fun v s₁ a m₁ H₁ i₁ st₁ p₁ h₁=> ?_)
 refine andThen (h₁ F s₁ [] st₁ rfl) fun u s₂ b m₂ H₂ i₂ st₂ p₂ h₂=> ?_
 exact wpAny_mono (h₂ F s₂ [v,u] st₂ (.cons (i₁.mono p₂) (.cons i₂ .nil))) (fun _ _ x=> x.shift (p₁.trans p₂)) fun _ _ e=> e
theorem zPj {l op r pos} {Q} (h:Ev C m H l (kCmp1 C op r Q)) (hm:behindInMarks op r = false:=by with_unfolding_all rfl):Ev C m H (.Compare l [op] [r] pos) Q:=by
 intro F s vs st i
 refine wpAny_Compare1 (andThen (h F s [] st rfl) fun v s₁ a m₁ H₁ i₁ st₁ p₁ h₁=> ?_) hm
 refine andThen (h₁ F s₁ [] st₁ rfl) fun u s₂ b m₂ H₂ i₂ st₂ p₂ h₂=> ?_
 exact wpAny_mono (h₂ F s₂ [v,u] st₂ (.cons (i₁.mono p₂) (.cons i₂ .nil))) (fun _ _ x=> x.shift (p₁.trans p₂)) fun _ _ e=> e
theorem zPe {l op r pos} {Q} (h:Ev C m H l (kCmp1 C op r (kTru C Q))) (hm:behindInMarks op r = false:=by with_unfolding_all rfl):Tr C m H (.Compare l [op] [r] pos) Q:=by
 intro F s vs st i
 refine wpAny_isTrue_Compare1 (andThen (h F s [] st rfl) fun v s₁ a m₁ H₁ i₁ st₁ p₁ h₁=> ?_) hm
 refine andThen (h₁ F s₁ [] st₁ rfl) fun u s₂ b m₂ H₂ i₂ st₂ p₂ h₂=> ?_
 refine andThen (h₂ F s₂ [v,u] st₂ (.cons (i₁.mono p₂) (.cons i₂ .nil))) fun t s₃ c m₃ H₃ i₃ st₃ p₃ h₃=> ?_
 exact wpAny_mono (h₃ F s₃ [t] st₃ (.cons i₃ .nil)) (fun _ _ x=> x.shift (p₁.trans (p₂.trans p₃))) fun _ _ e=> e
theorem zXf {x pos} {Q} (h:Tr C m H x (kNot Q)):Tr C m H (.UnaryOp .Not x pos) Q:=by
 intro F s vs st i
 exact wpAny_isTrue_Not (andThen (h F s [] st rfl) fun b s₁ b' m₁ H₁ i₁ st₁ p₁ h₁=> ⟨!b',m₁,H₁,by cases i₁;rfl,st₁,p₁,h₁⟩)
theorem zTg {e} {Q} (h:Ev C m H e (kTru C Q)) (he:isTrue e C.env (eval e C.env) = (do let v ← eval e C.env;standAt e.pos;holding [v] (truthy v)):=by rfl):Tr C m H e Q:=by
 intro F s vs st i
 refine wpAny_isTrue_value (andThen (h F s [] st rfl) fun v s₁ a m₁ H₁ i₁ st₁ p₁ h₁=> ?_) he
 exact wpAny_mono (h₁ F s₁ [v] st₁ (.cons i₁ .nil)) (fun _ _ x=> x.shift p₁) fun _ _ e=> e
noncomputable def TrA (C:Cx) (m:Loc) (H:AH) (op:BoolOp) (es:List Expr) (Q:Bool → Loc → AH → Prop):Prop:=T C m H [] (fun _=> allTrue op es C.env) BIs Q
structure kAnd (C:Cx) (rest:List Expr) (Q:Bool → Loc → AH → Prop) (b:Bool) (m:Loc) (H:AH):Prop where
 h1:(b = true → TrA C m H .And rest Q)
 h2:(b = false → Q false m H)
structure kOr (C:Cx) (rest:List Expr) (Q:Bool → Loc → AH → Prop) (b:Bool) (m:Loc) (H:AH):Prop where
 h1:(b = false → TrA C m H .Or rest Q)
 h2:(b = true → Q true m H)
theorem zRe {op es pos} {Q} (h:TrA C m H op es Q):Tr C m H (.BoolOp op es pos) Q:=fun F s vs st i=> wpAny_isTrue_BoolOp (h F s [] st rfl)
theorem zVx {x rest} {Q} (h:Tr C m H x (kAnd C rest Q)):TrA C m H .And (x :: rest) Q:=by
 intro F s vs st i
 refine wpAny_allTrue_And_cons (andThen (h F s [] st rfl) fun b s₁ b' m₁ H₁ i₁ st₁ p₁ h₁=> ?_)
 cases i₁
 cases b with
 | true=> exact wpAny_mono (h₁.1 rfl F s₁ [] st₁ rfl) (fun _ _ x=> x.shift p₁) fun _ _ e=> e
 | false=> exact ⟨false,m₁,H₁,rfl,st₁,p₁,h₁.2 rfl⟩
theorem zXg {x rest} {Q} (h:Tr C m H x (kOr C rest Q)):TrA C m H .Or (x :: rest) Q:=by
 intro F s vs st i
 refine wpAny_allTrue_Or_cons (andThen (h F s [] st rfl) fun b s₁ b' m₁ H₁ i₁ st₁ p₁ h₁=> ?_)
 cases i₁
 cases b with
 | false=> exact wpAny_mono (h₁.1 rfl F s₁ [] st₁ rfl) (fun _ _ x=> x.shift p₁) fun _ _ e=> e
 | true=> exact ⟨true,m₁,H₁,rfl,st₁,p₁,h₁.2 rfl⟩
theorem zPf {Q} (q:Q true m H):TrA C m H .And [] Q:=fun F s vs st i=> wpAny_allTrue_And_nil (fin st rfl q)
theorem zRf {Q} (q:Q false m H):TrA C m H .Or [] Q:=fun F s vs st i=> wpAny_allTrue_Or_nil (fin st rfl q)
theorem zWl {x y pos} {Q} (h:Ev C m H x (kAnd1 C y Q)):Ev C m H (.BoolOp .And [x,y] pos) Q:=by
 intro F s vs st i
 refine wpAny_And2 (andThen (h F s [] st rfl) fun v s₁ a m₁ H₁ i₁ st₁ p₁ h₁=> ?_)
 refine andThen (h₁ F s₁ [v] st₁ (.cons i₁ .nil)) fun b s₂ b' m₂ H₂ i₂ st₂ p₂ h₂=> ?_
 cases i₂
 cases b with
 | true=> exact wpAny_mono (h₂.1 rfl F s₂ [] st₂ rfl) (fun _ _ x=> x.shift (p₁.trans p₂)) fun _ _ e=> e
 | false=> exact ⟨a,m₂,H₂,i₁.mono p₂,st₂,p₁.trans p₂,h₂.2 rfl⟩
theorem zO2 {t a b pos} {Q} (h:Tr C m H t (kIfE C a b Q)):Ev C m H (.IfExp t a b pos) Q:=by
 intro F s vs st i
 refine wpAny_IfExp (andThen (h F s [] st rfl) fun c s₁ c' m₁ H₁ i₁ st₁ p₁ h₁=> ?_)
 cases i₁
 cases c with
 | true=> exact wpAny_mono (h₁.1 rfl F s₁ [] st₁ rfl) (fun _ _ x=> x.shift p₁) fun _ _ e=> e
 | false=> exact wpAny_mono (h₁.2 rfl F s₁ [] st₁ rfl) (fun _ _ x=> x.shift p₁) fun _ _ e=> e
theorem zWm {pos} {Q} (q:Q [] m H):EvL C m H pos [] Q:=fun F s vs st i=> wpAny_pure (fin st IsL.nil q)
theorem zO4 {pos} {e:Expr} {es:List Expr} {Q} (h:Ev C m H e (kL C pos es Q)) (he:starEach (e :: es) C.env = (false,eval e C.env) :: starEach es C.env:=by rfl):EvL C m H pos (e :: es) Q:=by
 intro F s vs st i
 rw [he]
 show wpAny _ _ (do
  let v ← eval e C.env
  let here ← pure [v]
  return here ++ (← holding here (spliced (backTo pos (starEach es C.env))))) _ _ _
 refine wpAny_bind (andThen (h F s [] st rfl) fun v s₁ a m₁ H₁ i₁ st₁ p₁ h₁=> wpAny_bind (wpAny_pure (wpAny_bind (wpAny_holding ?_))))
 exact andThen (h₁ F s₁ [] st₁ rfl) fun l s₂ l' m₂ H₂ i₂ st₂ p₂ h₂=> wpAny_pure ⟨_,m₂,H₂,.cons (i₁.mono p₂) i₂,st₂,p₁.trans p₂,h₂⟩
theorem IsL.isTuple {h:Heap} {a:Addr} {xs:List Value} {l:List V} (nb:¬ B a) (e:h.get? a = some { cls:=.type "tuple",data:=.seq xs.toArray }) (i:IsL B h l xs):Is B h (.tup l) (.ref a) :=
 ⟨a,xs.toArray,rfl,⟨⟨_,e,rfl,_,rfl⟩,nb⟩,by simpa using i⟩
theorem St.newOk (st:St C F m H s):¬ C.ban s.heap.objs.size:=fun hb=> by
 obtain ⟨b,hb,e⟩:=st.bl _ hb
 have:∃ o,s.heap.get? b = some o:=by
  rcases e with rfl | ⟨o,e⟩ | ⟨u,e⟩
  ·obtain ⟨o,e,_⟩:=st.fr.there
   exact ⟨o,e⟩
  ·exact ⟨o,st.raw _ _ e⟩
  ·obtain ⟨o,e,_⟩:=(st.ups _ e).1.there
   exact ⟨o,e⟩
 obtain ⟨o,e⟩:=this
 exact Nat.lt_irrefl _ (Nat.lt_of_le_of_lt hb (Heap.lt_size e))
theorem zOs {l:List V} {Q:V → Loc → AH → Prop} (hz:l.length ≤ 1000) (q:Q (.tup l) m H):Op C m H l (fun vs=> newTuple vs) Q:=by
 intro F s vs st i
 have hz':vs.toArray.size ≤ sizeLine:=by rw [List.size_toArray,← i.length,sizeLine_eq];exact omT
 refine wpAny_newObj_type ?_ hz'
 have k:∀ b o,s.heap.get? b = some o → (s.heap.push { cls:=.type "tuple",data:=.seq vs.toArray }).get? b = some o:=fun b o e=> Heap.get?_push_of_some _ e
 exact ⟨_,m,H,IsL.isTuple st.newOk (Heap.get?_push_size _ rfl) (i.mono (Pres.keeps k)),st.keeps (tk:=s.toks) k,Pres.keeps k,q⟩
theorem zTq {es k pos} {Q} (h:EvL C m H pos es (kTup Q)):Ev C m H (.Tuple es k pos) Q:=by
 intro F s vs st i
 refine Tuple_ (andThen (h F s [] st rfl) fun l s₁ l' m₁ H₁ i₁ st₁ p₁ h₁=> ?_)
 exact wpAny_mono (zOs h₁.1 h₁.2 F s₁ l st₁ i₁) (fun _ _ x=> x.shift p₁) fun _ _ e=> e
theorem zQf {l:List V} {Q:V → Loc → AH → Prop} (hz:l.length ≤ 16000000) (q:∀ a,Q (.ref a) m ((a,.list l) :: H)):Op C m H l (fun vs=> newList vs) Q:=by
 intro F s vs st i
 have hz':vs.toArray.size ≤ sizeLine:=by rw [List.size_toArray,← i.length,sizeLine_eq];exact omT
 refine wpAny_newObj_type ?_ hz'
 have k:∀ b o,s.heap.get? b = some o → (s.heap.push { cls:=.type "list",data:=.seq vs.toArray }).get? b = some o:=fun b o e=> Heap.get?_push_of_some _ e
 exact ⟨_,m,_,zB3,st.alloc (ao:=.list l) rfl rfl ⟨vs.toArray,⟨_,Heap.get?_push_size _ rfl⟩,by simpa using i.mono (Pres.keeps k)⟩,Pres.keeps k,q _⟩
theorem zWi {es pos} {Q} (h:EvL C m H pos es (kList Q)):Ev C m H (.List es pos) Q:=by
 intro F s vs st i
 refine List_ (andThen (h F s [] st rfl) fun l s₁ l' m₁ H₁ i₁ st₁ p₁ h₁=> ?_)
 exact wpAny_mono (zQf h₁.1 h₁.2 F s₁ l st₁ i₁) (fun _ _ x=> x.shift p₁) fun _ _ e=> e
end
end Mine
end
section
namespace Mine
variable {B:Addr → Prop}
theorem EsRep.get {h:Heap} {x:Str} {es:List DictEntry}:∀ {m:Loc} {V:V},EsRep B h es m → lk x m = some V → ∃ v,getL x es = some (some v) ∧ Is B h V v:=by
 induction es with
 | nil =>
  intro _ _ e q
  cases e;cases q
 | cons en es ih =>
  intro _ V zz q
  refine bc fun nn=> ?_
  obtain ⟨y,t,u,r,e,k,i,b⟩:=zz
  refine nn ?_
  subst e
  unfold getL
  rw [List.find?_cons,k]
  by_cases hxy:x = y
  ·subst hxy
   have:(Value.str x t).isStr x = true:=by simp [Value.isStr]
   simp only [this]
   rw [zBi,if_pos rfl] at q
   cases q
   exact ⟨_,rfl,i⟩
  ·have z:(Value.str y t).isStr x = false:=by simp only [Value.isStr,beq_eq_false_iff_ne];exact fun e=> hxy e.symm
   simp only [z]
   rw [zBi,if_neg hxy] at q
   refine bc fun nn=> ?_
   obtain ⟨v,e',iv⟩:=ih b q
   refine nn ?_
   unfold getL at e'
   split at e'
   ·rename_i en' he'
    simp only [he']
    exact ⟨v,e',iv⟩
   ·split at e' <;> cases e'
theorem EsRep.any {h:Heap} {es:List DictEntry}:∀ {m:Loc},EsRep B h es m → es.any (·.refKey) = false:=by
 induction es with
 | nil =>
  intro _ _
  exact rfl
 | cons en es ih =>
  intro _ zz
  obtain ⟨y,t,u,r,e,k,i,b⟩:=zz
  rw [List.any_cons,ih b,Bool.or_false]
  unfold DictEntry.refKey
  rw [k]
theorem EsRep.getNone {h:Heap} {x:Str}:∀ {es:List DictEntry} {m:Loc},EsRep B h es m → lk x m = none → getL x es = some none
 | es,m,e,q=> by
  have nf:∀ {es:List DictEntry} {m:Loc},EsRep B h es m → lk x m = none → es.find? (·.key.isStr x) = none:=by
   intro es
   induction es with
   | nil=> intro _ _ _;rfl
   | cons en es ih =>
    rintro _ ⟨y,t,u,r,rfl,k,i,b⟩ q
    by_cases hxy:x = y
    ·rw [zBi,if_pos hxy] at q;exact sN q
    ·rw [zBi,if_neg hxy] at q
     rw [List.find?_cons,k]
     have z:(Value.str y t).isStr x = false:=by simp only [Value.isStr,beq_eq_false_iff_ne];exact fun e=> hxy e.symm
     simp only [z]
     exact ih b q
  unfold getL
  rw [nf e q,EsRep.any e]
  rfl
theorem EsRep.put {h:Heap} {x:Str} {t:Tok} {hs:Int} {V:V} {v:Value} (i:Is B h V v) {es:List DictEntry}:∀ {m:Loc},EsRep B h es m → EsRep B h (putL x hs (.str x t) v es) (put x V m):=by
 induction es with
 | nil =>
  intro _ e
  cases e;exact ⟨x,t,V,[],rfl,rfl,i,rfl⟩
 | cons en es ih =>
  intro _ zz
  obtain ⟨y,t',u,r,e,k,i',b⟩:=zz
  subst e
  unfold putL
  rw [zNg]
  rw [k]
  by_cases hxy:x = y
  ·subst hxy
   have:(Value.str x t').isStr x = true:=by simp [Value.isStr]
   rw [if_pos this,if_pos rfl]
   exact ⟨x,t',V,r,rfl,rfl,i,b⟩
  ·have z:(Value.str y t').isStr x = false:=by simp only [Value.isStr,beq_eq_false_iff_ne];exact fun e=> hxy e.symm
   rw [if_neg (by rw [z];exact Bool.false_ne_true),if_neg hxy]
   exact ⟨y,t',u,_,rfl,k,i',ih b⟩
theorem zF1 (x:Str) (hs:Int) (k v:Value):∀ es:List DictEntry,(putL x hs k v es).length ≤ es.length + 1
 | []=> by simp [putL]
 | e :: r=> by
  unfold putL
  split
  ·simp
  ·simpa using zF1 x hs k v r
noncomputable def V.isCon:V → Bool
 | .con _=> true
 | _=> false
theorem Is.handed {h:Heap}:∀ {V:V} {v:Value},Is B h V v → V.isCon = false → handedIn v = true
 | .none,_,x,_=> by cases x;rfl
 | .bool _,_,x,_=> by cases x;rfl
 | .int _,_,x,_=> by obtain ⟨t,rfl⟩:=x;rfl
 | .str _,_,x,_=> by obtain ⟨t,rfl⟩:=x;rfl
 | .tup _,_,x,_=> by obtain ⟨a,xs,rfl,_⟩:=x;rfl
 | .ref _,_,x,_=> by cases x;rfl
 | .con _,_,_,e=> by exact Bool.noConfusion e
section
variable {C:Cx} {F:Addr → Option Obj} {m:Loc} {H:AH} {s:Shared}
structure zBs (w:World) (Cl:Addr) (x:Str):Prop where
 get:plainGet (KK w) Cl x = true
 dict:hasDictIn (KK w) Cl = true
 no:findIn (KK w) (.ref Cl) x = some none
theorem zJw {a Cl dx:Addr} {fs:Loc} (st:St C F m H s) (hm:(a,AObj.inst Cl dx fs) ∈ H):∃ es n,InstAt s.heap a (instObj Cl dx) Cl (some (dictOf es n)) ∧ s.heap.get? dx = some (dictOf es n) ∧ EsRep C.ban s.heap es fs ∧ es.length ≤ 100:=by
 refine bc fun nn=> ?_
 obtain ⟨ho,es,n,hd,i,z⟩:=st.objs _ hm
 refine nn ?_
 exact ⟨es,n,⟨ho,rfl,rfl,hd⟩,hd,i,z⟩
theorem zA5 {a Cl dx:Addr} {fs:Loc} {x:Str} {V:V} {Q} (hm:(a,AObj.inst Cl dx fs) ∈ H) (hx:lk x fs = some V) (hc:zBs C.w Cl x) (q:Q V m H) (hV:V.isCon = false:=by rfl):Att C m H (.ref a) x Q:=by
 intro F s vs st i
 refine zBf i fun v q0=> ?_
 refine bc fun nn=> ?_
 obtain rfl:=q0
 obtain ⟨es,n,I,hd,er,z⟩:=zJw st hm
 obtain ⟨u,hg,iu⟩:=er.get hx
 refine nn ?_
 refine get_value st.kin I (plainGet_of hc.get).1 (findObj_own hc.dict hc.no rfl hg) (iu.handed hV) (finT st iu q)
@[reducible] noncomputable def kAtt (C:Cx) (x:Str) (Q:V → Loc → AH → Prop):V → Loc → AH → Prop:=fun a m H=> Att C m H a x Q
theorem zWk {value:Expr} {x:Str} {pos} {Q} (h:Ev C m H value (kAtt C x Q))
    (he:eval (.Attribute value x pos) C.env = (do
     let o ← eval value C.env
     standAt pos.atName
     let r ← holding [o] (getAttr o x true)
     letTemporaryGo value o r
     pure r):=by with_unfolding_all rfl):Ev C m H (.Attribute value x pos) Q:=by
 intro F s vs st i
 refine Attribute_any_ (andThen (h F s [] st rfl) fun v s₁ a m₁ H₁ i₁ st₁ p₁ h₁=> ?_) he
 exact wpAny_mono (h₁ F s₁ [v] st₁ (.cons i₁ .nil)) (fun _ _ x=> x.shift p₁) fun _ _ e=> e
structure zC8 (w:World) (Cl:Addr) (x:Str):Prop where
 set:findIn (KK w) (.ref Cl) "__setattr__" = some (some (.builtin "object.__setattr__"))
 over:plainOver (KK w) Cl = true
 take:takerIn (KK w) Cl x = some none
 dict:hasDictIn (KK w) Cl = true
theorem zV6 {prog:Program} {w:World} {A:Around} {K:Frag} {C x dx:Addr} {s:Shared} {R:Result → Shared → Prop} {name:Str} {tk:Tok} {v:Value} {es:List DictEntry} {n:Nat} (X:K.In s.heap)
    (I:InstAt s.heap x (instObj C dx) C (some (dictOf es n))) (D:s.heap.get? dx = some (dictOf es n)) (hp:plainOver K C = true) (ht:takerIn K C name = some none) (hh:hasDictIn K C = true) (hr:es.any (·.refKey) = false) (hz:es.length ≤ 999)
    (h:∀ h' hs,Heap.SameBut dx s.heap h' → h'.get? dx = some (dictOf (putL name hs (.str name s.toks) v es) (putN name es n)) → R (.ok (.ret .none)) { s with heap:=h',toks:=s.toks + 1 }) :
    codeAny (model prog w) A (.call (.builtin "object.__setattr__") ⟨[.ref x,.str name tk,v],[]⟩) R s:=by
 refine osa_open X I hp ht fun b=> ?_
 refine bc fun nn=> ?_
 obtain ⟨cd,hc,hd'⟩:=any_some hh
 refine nn ?_
 have hx:=I.at_
 refine wpAny_bind (wpAny_pure (wpAny_bind (wpAny_bind (wpAny_loadPart hx (wpAny_bind ((looks_clsIn X hc).here ?_))))))
 rw [hd']
 refine wpAny_pure (a:=some dx) (wpAny_bind (wpAny_pure (wpAny_bind ?_)))
 unfold nsSet
 refine wpAny_bind (wpAny_bind (wpAny_askSetting (wpAny_pure (wpAny_bind (wpAny_mkText (wpAny_bind (wpAny_loadPart D ?_)))))))
 have c:(!es.toArray.any (·.key.isStr name) && es.toArray.any (·.refKey)) = false:=by
  rw [← Array.any_toList,← Array.any_toList]
  show (_ && es.any (·.refKey)) = false
  rw [hr,Bool.and_false]
 dsimp only
 rw [aRefKeyMayBeTheName_at,c]
 refine wpAny_updatePart D ?_
 have pd:=putName_dict name (PyData.keyHash w.params name) (.str name s.toks) v es n
 have D':(s.heap.update dx (Obj.putName name (PyData.keyHash w.params name) (.str name s.toks) v)).get? dx = some (dictOf (putL name (PyData.keyHash w.params name) (.str name s.toks) v es) (putN name es n)):=by
  have:=Heap.get?_update_self (Obj.putName name (PyData.keyHash w.params name) (.str name s.toks) v) D (by rw [pd];rfl)
  rw [pd] at this;exact this
 refine wpAny_bind (wpAny_lookBehind D' (pastItsLine_dict (by rw [List.size_toArray,sizeLine_eq];have:=zF1 name (PyData.keyHash w.params name) (.str name s.toks) v es;lia)) ?_)
 exact wpAny_pure (h _ _ (Heap.SameBut.update ..) D')
theorem zB9 {a Cl dx:Addr} {fs:Loc} {x:Str} {V:V} {H':AH} {Q} (u:Upd a (AObj.inst Cl dx fs) (AObj.inst Cl dx (put x V fs)) H H') (hc:zC8 C.w Cl x) (q:Q () m H') (hz:(put x V fs).length ≤ 50:=by simp [put]):SetA C m H (.ref a) x V Q:=by
 intro F s vs st i
 refine zAj i fun v₀ v q0 iv=> ?_
 refine bc fun nn=> ?_
 obtain rfl:=q0
 obtain ⟨es,n,I,hd,er,z⟩:=zJw st u.mem
 refine nn ?_
 refine set_plain st.kin I hc.set (zV6 (s:={ s with toks:=s.toks + 1 }) st.kin I hd hc.over hc.take hc.dict er.any (by exact omT) fun h' hs same hd'=> ?_)
 have rep:=st.objs _ u.mem
 refine bc fun nn=> ?_
 obtain ⟨ho,-⟩:=rep
 have len:∀ {es:List DictEntry} {m:Loc},EsRep C.ban s.heap es m → es.length = m.length:=by
  intro es
  induction es with
  | nil=> intro m e;cases e;rfl
  | cons e es ih=> rintro m ⟨y,t,u,r,rfl,k,i,b⟩;simp [ih b]
 have nad:a ≠ dx:=by
  intro e;rw [e] at ho;rw [ho] at hd;cases hd
 obtain ⟨st',p⟩:=st.update (h':=h') (tk:=s.toks + 1 + 1) u rfl (fun b ob hb e=> (same.2 b (fun q=> hb (by rw [q];exact .tail _ (.head _)))).trans e) (fun p=> by
  refine ⟨(same.2 a nad).trans ho,_,_,hd',(EsRep.put iv er).mono p,?_⟩
  rw [len (EsRep.put iv er)];exact omT)
 refine nn ?_
 exact ⟨(),m,H',trivial,st',p,q⟩
end
end Mine
end
section
namespace Mine
variable {B:Addr → Prop}
theorem vl0 {P:List Value → Prop} (h:P []) (vs:List Value) (e:vs.length = 0):P vs:=by
 rw [List.length_eq_zero_iff.mp e];exact h
theorem vlc {n:Nat} {P:List Value → Prop} (h:∀ a vs,vs.length = n → P (a :: vs)) (vs:List Value) (e:vs.length = n + 1):P vs:=by
 cases vs with
 | nil=> exact absurd e (Nat.succ_ne_zero n).symm
 | cons a r=> exact h a r (Nat.succ.inj e)
theorem vl1 {P:List Value → Prop} (h:∀ a,P [a]):∀ vs,vs.length = 1 → P vs:=vlc fun a=> vl0 (h a)
theorem vl2 {P:List Value → Prop} (h:∀ a b,P [a,b]):∀ vs,vs.length = 2 → P vs:=vlc fun a=> vl1 (P:=fun r=> P (a :: r)) (h a)
theorem vl3 {P:List Value → Prop} (h:∀ a b c,P [a,b,c]):∀ vs,vs.length = 3 → P vs:=vlc fun a=> vl2 (P:=fun r=> P (a :: r)) (h a)
theorem vl4 {P:List Value → Prop} (h:∀ a b c d,P [a,b,c,d]):∀ vs,vs.length = 4 → P vs:=vlc fun a=> vl3 (P:=fun r=> P (a :: r)) (h a)
noncomputable def Cx.into (C:Cx) (m:Loc) (env:Env) (X:(Addr → Option Obj) → Value → Shared → Prop):Cx :=
 { C with A:=C.A.deeper env,env:=env,n:=C.n - 1,X:=X,up:=(C.L,m) :: C.up }
noncomputable def AFlow.val:AFlow → V
 | .ret v=> v
 | _=> .none
structure FnOk (w:World) (fd:FuncData) (names:List Str) (body:List Stmt):Prop where
 body:fd.body = .stmts body
 bind:∀ vs:List Value,vs.length = names.length → bindArgs fd ⟨vs,[]⟩ = pure (names.zip vs)
 code:codeIn (KK w) fd.code fd.qualname = true
 nd:names.Nodup
 co:fd.scope.isCoroutine = false
 gen:fd.scope.isGenerator = false
 kind:fd.scope.kind = .function
 glob:fd.globals = mainGlobals
 built:fd.builtins = builtinsNs
theorem zJ8 {h:Heap}:∀ {names:List Str} {args:List V} {vs:List Value},names.Nodup → args.length = names.length → IsL B h args vs → ∀ x,OptIs B h (lk x (names.zip args)) ((names.zip vs).reverse.lookup x):=by
 intro names
 induction names with
 | nil =>
  intro args
  cases args with
  | cons _ _=> intro _ _ e;exact Nat.noConfusion e
  | nil=> intro _ _ _ i x;cases i;trivial
 | cons n ns ih =>
  intro args
  cases args with
  | nil=> intro _ _ e;exact Nat.noConfusion e
  | cons a as =>
  intro _ nd e zz x
  obtain ⟨v,r,rfl,iv,ir⟩:=zz
  rw [List.nodup_cons] at nd
  rw [List.zip_cons_cons,List.zip_cons_cons,List.reverse_cons,List.lookup_append]
  have ih:=ih nd.2 (by simpa using e) ir x
  rw [zBi]
  by_cases q:x = n
  ·subst q
   rw [if_pos rfl]
   have:(ns.zip r).reverse.lookup x = none:=by
    rw [List.lookup_eq_none_iff]
    rintro ⟨y,u⟩ hp
    rw [List.mem_reverse] at hp
    have:=(List.of_mem_zip hp).1
    exact bne_iff_ne.mpr fun e=> nd.1 (e ▸ this)
   rw [this]
   simp only [List.lookup_cons,beq_self_eq_true,Option.none_or]
   exact iv
  ·rw [if_neg q]
   have:(x == n) = false:=beq_eq_false_iff_ne.mpr q
   simp only [List.lookup_cons,this,List.lookup_nil,Option.or_none]
   exact ih
section
variable {C:Cx} {F:Addr → Option Obj} {m:Loc} {H:AH} {s:Shared}
theorem St.into {env:Env} {m':Loc} {H':AH} {s₁:Shared} (st:St C F m H s) (hroom:0 < C.n) (hkf:env.scope.kind = .function) (hkg:env.globals = mainGlobals) (hkb:env.builtins = builtinsNs)
    (hk:∀ b o,s.heap.get? b = some o → s₁.heap.get? b = some o) (hg:s₁.gens = s.gens) (ho:s₁.os = s.os) (fr:NsRep C.ban s₁.heap env.locals m') (objs:∀ p ∈ H',RepO C.prog C.w C.ban s₁.heap p.1 p.2) (nd:(env.locals :: zA3 H').Nodup)
    (new:∀ a ∈ env.locals :: zA3 H',a ∈ zA3 H ∨ s.heap.get? a = none) (X):St (C.into m env X) F m' H' s₁:=by
 have hdep:=st.ok.dep
 have hun:=st.ok.un
 have nd0:=List.nodup_cons.mp st.nodup
 refine
  { ok:=⟨st.ok.kin,by rw [← st.ok.hh];rfl,by show C.A.depth + 1 + (C.n - 1) < recursionLimit;lia,by show C.A.units + 3 + 8 * (C.n - 1) + 100 < cLine;lia,st.ok.lim,st.ok.top,hkf,hkg,hkb,
      by show (env.scope.kind == .module && _) = false;rw [hkf];rfl,st.ok.nban,st.ok.file,st.ok.nosup⟩
    gens:=hg.trans st.gens
    os:=ho.trans st.os
    base:=st.base
    raw:=fun b o e=> hk _ _ (st.raw b o e)
    bl:=fun a ha=> ?_
    fr:=fr
    objs:=objs
    nodup:=nd
    fresh:=fun a ha=> ?_
    ups:=fun p hp=> ?_ }
 ·obtain ⟨b,hb,e⟩:=st.bl a ha
  refine ⟨b,hb,.inr ?_⟩
  rcases e with rfl | e | ⟨u,e⟩
  ·exact .inr ⟨m,.head _⟩
  ·exact .inl e
  ·exact .inr ⟨u,.tail _ e⟩
 ·rcases new a ha with q | q
  ·exact st.fresh a (.tail _ q)
  ·cases z:F a with
   | none=> rfl
   | some ob=> exact nn3 (st.raw _ _ z) q
 ·have hp:p = (C.L,m) ∨ p ∈ C.up:=List.mem_cons.mp hp
  rcases hp with rfl | hp
  ·refine ⟨st.fr.move (fun o e=> hk _ o e) (Pres.keeps hk),st.fresh _ (.head _),fun hm=> ?_⟩
   rcases new _ hm with q | q
   ·exact nd0.1 q
   ·obtain ⟨o,e,_⟩:=st.fr.there
    exact nn3 e q
  ·obtain ⟨h1,h2,h3⟩:=st.ups p hp
   refine ⟨h1.move (fun o e=> hk _ o e) (Pres.keeps hk),h2,fun hm=> ?_⟩
   rcases new _ hm with q | q
   ·exact h3 (.tail _ q)
   ·obtain ⟨o,e,_⟩:=h1.there
    exact nn3 e q
theorem St.back {env:Env} {m':Loc} {H':AH} {s':Shared} {X} (st:St C F m H s) (x:St (C.into m env X) F m' H' s'):St C F m H' s':=by
 refine bc fun nn=> ?_
 obtain ⟨h1,h2,h3⟩:=x.ups (C.L,m) (.head _)
 refine nn ?_
 refine ⟨st.ok,x.gens,x.os,st.base,x.raw,st.bl,h1,x.objs,List.nodup_cons.mpr ⟨fun hm=> h3 (.tail _ hm),(List.nodup_cons.mp x.nodup).2⟩,fun a ha=> ?_,fun p hp=> ?_⟩
 ·rcases List.mem_cons.mp ha with rfl | ha
  ·exact h2
  ·exact x.fresh a (.tail _ ha)
 ·refine bc fun nn=> ?_
  obtain ⟨k1,k2,k3⟩:=x.ups p (.tail _ hp)
  refine nn ?_
  refine ⟨k1,k2,fun hm=> ?_⟩
  rcases List.mem_cons.mp hm with e | hm
  ·exact (st.ups p hp).2.2 (e ▸ .head _)
  ·exact k3 (.tail _ hm)
theorem zIz {env:Env} {m':Loc} {H':AH} {s₁:Shared} {body:List Stmt} {Q:V → Loc → AH → Prop} (st:St C F m H s) (hroom:0 < C.n) (hkf:env.scope.kind = .function) (hkg:env.globals = mainGlobals) (hkb:env.builtins = builtinsNs)
    (hk:∀ b o,s.heap.get? b = some o → s₁.heap.get? b = some o) (hg:s₁.gens = s.gens) (ho:s₁.os = s.os) (fr:NsRep C.ban s₁.heap env.locals m') (objs:∀ p ∈ H',RepO C.prog C.w C.ban s₁.heap p.1 p.2) (nd:(env.locals :: zA3 H').Nodup)
    (new:∀ a ∈ env.locals :: zA3 H',a ∈ zA3 H ∨ s.heap.get? a = none)
    (h:∀ X,Ex (C.into m env X) m' H' body fun fl _ H''=> Q fl.val m H'') :
    wpAny (model C.prog C.w) (C.A.deeper env) (execs body env) (fun fl s'=> Post C F s Is Q (match (generalizing:=false) fl with | .ret v=> v | _=> .none) s')
     (fun e s'=> wpAny (model C.prog C.w) (C.A.deeper env) (leaving env e) (fun _ s''=> C.X F e s'') (fun e' s''=> C.X F e' s'') s') s₁:=by
 have run:=h (fun _ e s'=> wpAny (model C.prog C.w) (C.A.deeper env) (leaving env e) (fun _ s''=> C.X F e s'') (fun e' s''=> C.X F e' s'') s') F _ [] (st.into hroom hkf hkg hkb hk hg ho fr objs nd new _) rfl
 refine wpAny_mono run (fun fl s' z=> ?_) fun e s' x=> x
 obtain ⟨b,m'',H'',r,x,p,q⟩:=z
 refine ⟨b.val,m,H'',?_,st.back x,(Pres.keeps hk).trans p,q⟩
 cases b with
 | next=> cases r;exact zBc
 | brk=> cases r;exact zBc
 | cont=> cases r;exact zBc
 | ret u=> obtain ⟨y,rfl,iy⟩:=r;exact iy
theorem zAa {h:Heap} {a:Addr} (e:h.objs.size ≤ a):h.get? a = none:=by
 cases q:h.get? a with
 | none=> rfl
 | some o=> exact absurd (Heap.lt_size q) (Nat.not_lt.mpr e)
theorem zWo {f:Addr} {oc:Value} {od:Option Addr} {osl:Array (Option Value)} {fd:FuncData} {names:List Str} {body:List Stmt} {args:List V} {vs:List Value} {A:Around} {Q:V → Loc → AH → Prop}
    (ho:(KK C.w).lookup f = some ⟨oc,od,.func fd,osl⟩) (ok:FnOk C.w fd names body) (hl:args.length = names.length) (hroom:0 < C.n)
    (hloc:∀ x ∈ names,fd.scope.names.lookup x = some .local) (hcell:∀ x ∈ fd.scope.names,x.2 ≠ .cell) (hA:C.A = A)
    (h:∀ L X,Ex (C.into m (callEnv fd L f) X) (names.zip args) H body fun fl _ H'=> Q fl.val m H') (st:St C F m H s) (i:IsL C.ban s.heap args vs) :
    codeAny (model C.prog C.w) A (.call (.ref f) ⟨vs,[]⟩) (fun r s'=> match r with | .ok (.ret v)=> Post C F s Is Q v s' | .ok _=> False | .error e=> C.X F e s') s:=by
 subst hA
 have hdep:=st.ok.dep
 refine codeAny_call_def (by lia) (st.kin _ _ ho) rfl (st.ok.lim.keeps st.keep) (codeRec_of st.kin ok.code) ok.body (BindsTo.of_eq (ok.bind vs (by rw [← i.length,hl]))) hcell
  (fun y hy=> hloc _ (List.of_mem_zip (a:=y.1) (b:=y.2) hy).1) (fun h₁ hns hk=> ?_) ok.co ok.gen ok.kind
 refine zIz (s₁:={ s with heap:=h₁,toks:=s.toks + (names.zip vs).length }) (m':=names.zip args) (H':=H) st hroom ok.kind ok.glob ok.built hk rfl rfl ⟨_,hns,zJ8 ok.nd hl (i.mono (Pres.keeps hk))⟩ (fun p hp=> (st.objs p hp).move (fun b _ ob e=> hk b ob e) (Pres.keeps hk)) ?_ ?_ (h _)
 ·show (s.heap.objs.size :: zA3 H).Nodup
  refine List.nodup_cons.mpr ⟨fun hm=> ?_,(List.nodup_cons.mp st.nodup).2⟩
  obtain ⟨ob,ho,_⟩:=st.there (.tail _ hm)
  exact Nat.lt_irrefl _ (Heap.lt_size ho)
 ·intro a ha
  have ha:a = s.heap.objs.size ∨ a ∈ zA3 H:=List.mem_cons.mp ha
  rcases ha with rfl | ha
  ·exact .inr (zAa (Nat.le_refl _))
  ·exact .inl ha
noncomputable def zE7 (fd:FuncData) (binds:Loc):Loc:=binds.filter fun p=> fd.scope.names.lookup p.1 == some .local
noncomputable def zCz (fd:FuncData) (L f:Addr) (binds:Loc):AH:=(callEnvC fd L f).cells.map fun x=> (x.2,AObj.cell (lk x.1 binds))
theorem zFi {α:Type} (p:Str × α → Bool) (x:Str) (hp:∀ v,p (x,v) = true):∀ l:List (Str × α),lk x (l.filter p) = lk x l
 | []=> rfl
 | (y,v) :: r=> by
  rw [List.filter_cons]
  by_cases q:x = y
  ·subst q;rw [if_pos (hp v),zBi,zBi,if_pos rfl,if_pos rfl]
  ·split
   ·rw [zBi,zBi,if_neg q,if_neg q];exact zFi p x hp r
   ·rw [zBi,if_neg q];exact zFi p x hp r
theorem zBv {α:Type} (p:Str × α → Bool) (x:Str) (hp:∀ v,p (x,v) = false):∀ l:List (Str × α),lk x (l.filter p) = none
 | []=> rfl
 | (y,v) :: r=> by
  rw [List.filter_cons]
  by_cases q:x = y
  ·subst q;rw [hp v];simp only [Bool.false_eq_true,if_false];exact zBv p x hp r
  ·split
   ·rw [zBi,if_neg q];exact zBv p x hp r
   ·exact zBv p x hp r
theorem zHj {x:Str}:∀ {ns:List Str} {as:List V},x ∉ ns → lk x (ns.zip as) = none:=by
 intro ns
 induction ns with
 | nil=> intro _ _;rfl
 | cons y ys ih =>
 intro as
 cases as with
 | nil=> intro _;rfl
 | cons b bs =>
  intro hx
  rw [List.zip_cons_cons,zBi,if_neg (fun e=> hx (by rw [e];exact .head _))]
  exact ih fun hm=> hx (.tail _ hm)
theorem zLj {h:Heap} {k:Str → Option NameKind}:∀ {names:List Str} {args:List V} {vs:List Value} {f:Str → Option Value} {o:Str → Option V},names.Nodup → args.length = names.length → IsL B h args vs → (∀ x,OptIs B h (o x) (f x)) →
    ∀ x,OptIs B h (if k x = some .local then (lk x (names.zip args)).or (o x) else o x) (bindL k (names.zip vs) f x):=by
 intro names
 induction names with
 | nil =>
  intro args
  cases args with
  | cons _ _=> intro _ _ _ _ e;exact Nat.noConfusion e
  | nil =>
  intro _ f o _ _ i z x
  cases i
  show OptIs B h _ (f x)
  have:(if k x = some .local then (lk x ([]:Loc)).or (o x) else o x) = o x:=by split <;> rfl
  rw [show ([]:List Str).zip ([]:List V) = [] from rfl,this];exact z x
 | cons n ns ih =>
  intro args
  cases args with
  | nil=> intro _ _ _ _ e;exact Nat.noConfusion e
  | cons a as =>
  intro _ f o nd e zz z x
  obtain ⟨v,r,rfl,iv,ir⟩:=zz
  rw [List.nodup_cons] at nd
  show OptIs B h _ (bindL k (ns.zip r) (if k n = some .local then fun y=> if y = n then some v else f y else f) x)
  have ih:=ih (f:=if k n = some .local then fun y=> if y = n then some v else f y else f) (o:=if k n = some .local then fun y=> if y = n then some a else o y else o) nd.2 (by simpa using e) ir (fun y=> by
   split
   ·show OptIs B h (if y = n then some a else o y) (if y = n then some v else f y)
    split
    ·exact iv
    ·exact z y
   ·exact z y) x
  have key:(if k x = some .local then (lk x (List.zip (n :: ns) (a :: as))).or (o x) else o x) = (if k x = some .local then (lk x (ns.zip as)).or ((if k n = some .local then fun y=> if y = n then some a else o y else o) x) else (if k n = some .local then fun y=> if y = n then some a else o y else o) x):=by
   rw [List.zip_cons_cons,zBi]
   by_cases q:x = n
   ·subst q
    have hn:lk x (ns.zip as) = none:=zHj nd.1
    by_cases kl:k x = some .local
    ·simp [kl,hn]
    ·simp [kl]
   ·by_cases kl:k n = some .local <;> simp [q,kl]
  rw [key];exact ih
theorem zLk {h:Heap} {k:Str → Option NameKind}:∀ {names:List Str} {args:List V} {vs:List Value} {f:Str → Option Value} {o:Str → Option V},names.Nodup → args.length = names.length → IsL B h args vs → (∀ x,OptIs B h (o x) (f x)) →
    ∀ x,OptIs B h (if k x = some .local then o x else (lk x (names.zip args)).or (o x)) (bindC k (names.zip vs) f x):=by
 intro names
 induction names with
 | nil =>
  intro args
  cases args with
  | cons _ _=> intro _ _ _ _ e;exact Nat.noConfusion e
  | nil =>
  intro _ f o _ _ i z x
  cases i
  show OptIs B h _ (f x)
  have:(if k x = some .local then o x else (lk x ([]:Loc)).or (o x)) = o x:=by split <;> rfl
  rw [show ([]:List Str).zip ([]:List V) = [] from rfl,this];exact z x
 | cons n ns ih =>
  intro args
  cases args with
  | nil=> intro _ _ _ _ e;exact Nat.noConfusion e
  | cons a as =>
  intro _ f o nd e zz z x
  obtain ⟨v,r,rfl,iv,ir⟩:=zz
  rw [List.nodup_cons] at nd
  show OptIs B h _ (bindC k (ns.zip r) (if k n = some .local then f else fun y=> if y = n then some v else f y) x)
  have ih:=ih (f:=if k n = some .local then f else fun y=> if y = n then some v else f y) (o:=if k n = some .local then o else fun y=> if y = n then some a else o y) nd.2 (by simpa using e) ir (fun y=> by
   split
   ·exact z y
   ·show OptIs B h (if y = n then some a else o y) (if y = n then some v else f y)
    split
    ·exact iv
    ·exact z y) x
  have key:(if k x = some .local then o x else (lk x (List.zip (n :: ns) (a :: as))).or (o x)) = (if k x = some .local then (if k n = some .local then o else fun y=> if y = n then some a else o y) x else (lk x (ns.zip as)).or ((if k n = some .local then o else fun y=> if y = n then some a else o y) x)):=by
   rw [List.zip_cons_cons,zBi]
   by_cases q:x = n
   ·subst q
    have hn:lk x (ns.zip as) = none:=zHj nd.1
    by_cases kl:k x = some .local
    ·simp [kl]
    ·simp [kl,hn]
   ·by_cases kl:k n = some .local <;> simp [q,kl]
  rw [key];exact ih
theorem zU3 {f:Addr} {oc:Value} {od:Option Addr} {osl:Array (Option Value)} {fd:FuncData} {names:List Str} {body:List Stmt} {args:List V} {vs:List Value} {A:Around} {Q:V → Loc → AH → Prop}
    (ho:(KK C.w).lookup f = some ⟨oc,od,.func fd,osl⟩) (ok:FnOk C.w fd names body) (hl:args.length = names.length) (hroom:0 < C.n) (hclo:fd.closure = [])
    (hkind:∀ n,∀ x ∈ names,fd.scope.names.lookup x = some .local ∨ (fd.scope.names.lookup x = some .cell ∧ ((cellsFrom n fd.scope.names []).lookup x).isSome = true))
    (hnd:∀ n,((cellsFrom n fd.scope.names []).map (·.1)).Nodup) (hcl:∀ n,∀ x ∈ cellsFrom n fd.scope.names [],fd.scope.names.lookup x.1 ≠ some .local) (hA:C.A = A)
    (h:∀ L X,Ex (C.into m (callEnvC fd L f) X) (zE7 fd (names.zip args)) (zCz fd L f (names.zip args) ++ H) body fun fl _ H'=> Q fl.val m H') (st:St C F m H s) (i:IsL C.ban s.heap args vs) :
    codeAny (model C.prog C.w) A (.call (.ref f) ⟨vs,[]⟩) (fun r s'=> match r with | .ok (.ret v)=> Post C F s Is Q v s' | .ok _=> False | .error e=> C.X F e s') s:=by
 subst hA
 have hdep:=st.ok.dep
 refine codeAny_call_cells (by lia) (st.kin _ _ ho) rfl (st.ok.lim.keeps st.keep) (codeRec_of st.kin ok.code) ok.body (ok.bind vs (by rw [← i.length,hl])) hclo
  (fun y hy=> hkind _ _ (List.of_mem_zip (a:=y.1) (b:=y.2) hy).1) (fun s₁ I=> ?_) ok.co ok.gen ok.kind
 have hk:=I.toInCall.keep
 have pk:Pres C.ban s.heap s₁.heap:=Pres.keeps hk
 refine bc fun nn=> ?_
 obtain ⟨h₁,tk₁,hs₁⟩:=I.toInCall.same
 refine nn ?_
 have ecs:(callEnvC fd s.heap.objs.size f).cells = cellsFrom (s.heap.objs.size + 1) fd.scope.names []:=rfl
 have lkc:∀ x ∈ (callEnvC fd s.heap.objs.size f).cells,(callEnvC fd s.heap.objs.size f).cells.lookup x.1 = some x.2:=by
  have:∀ (l:List (Str × Addr)),(l.map (·.1)).Nodup → ∀ x ∈ l,l.lookup x.1 = some x.2:=by
   intro l
   induction l with
   | nil=> intro _ x hx;cases hx
   | cons y r ih =>
    intro nd x hx
    rw [List.map_cons,List.nodup_cons] at nd
    rw [List.lookup_cons]
    rcases List.mem_cons.mp hx with rfl | hx
    ·simp
    ·have:(x.1 == y.1) = false:=beq_eq_false_iff_ne.mpr fun e=> nd.1 (e ▸ List.mem_map_of_mem hx)
     rw [this];exact ih nd.2 x hx
  exact this _ (hnd _)
 have big:∀ x ∈ (callEnvC fd s.heap.objs.size f).cells,s.heap.objs.size < x.2:=fun x hx=> I.above x.1 x.2 hx
 have ow:zA3 (zCz fd s.heap.objs.size f (names.zip args) ++ H) = (callEnvC fd s.heap.objs.size f).cells.map (·.2) ++ zA3 H:=by
  rw [zC3]
  congr 1
  unfold zCz zA3
  rw [List.flatMap_map]
  show (List.flatMap (fun x:Str × Addr=> [x.2]) _) = _
  induction (callEnvC fd s.heap.objs.size f).cells with
  | nil=> rfl
  | cons x r ih=> rw [List.flatMap_cons,ih];rfl
 refine zIz (s₁:=s₁) (m':=zE7 fd (names.zip args)) (H':=zCz fd s.heap.objs.size f (names.zip args) ++ H) st hroom ok.kind ok.glob ok.built hk (by rw [hs₁]) (by rw [hs₁]) ?_ ?_ ?_ ?_ (h _)
 ·refine ⟨_,I.toInCall.ns,fun x=> ?_⟩
  have:=zLj (h:=s₁.heap) (k:=(callEnvC fd s.heap.objs.size f).kindOf) (f:=fun _=> none) (o:=fun _=> none) ok.nd hl (i.mono pk) (fun _=> trivial) x
  have e:(if (callEnvC fd s.heap.objs.size f).kindOf x = some .local then (lk x (names.zip args)).or none else none) = lk x (zE7 fd (names.zip args)):=by
   unfold zE7
   by_cases q:(callEnvC fd s.heap.objs.size f).kindOf x = some .local
   ·rw [if_pos q,zFi _ _ (fun v=> ?_),Option.or_none]
    exact beq_iff_eq.mpr q
   ·rw [if_neg q,zBv _ _ fun v=> ?_]
    exact beq_eq_false_iff_ne.mpr q
  rw [e] at this;exact this
 ·intro p hp
  rcases List.mem_append.mp hp with hp | hp
  ·refine bc fun nn=> ?_
   obtain ⟨x,hx,rfl⟩:=List.mem_map.mp hp
   obtain ⟨ob,ho,hd⟩:=I.cell x.1 x.2 (lkc x hx)
   refine nn ?_
   have:=zLk (h:=s₁.heap) (k:=(callEnvC fd s.heap.objs.size f).kindOf) (f:=fun _=> none) (o:=fun _=> none) ok.nd hl (i.mono pk) (fun _=> trivial) x.1
   have nl:(callEnvC fd s.heap.objs.size f).kindOf x.1 ≠ some .local:=hcl _ x hx
   rw [if_neg nl,Option.or_none] at this
   exact ⟨ob,_,ho,hd,this⟩
  ·exact (st.objs p hp).move (fun b _ ob e=> hk b ob e) pk
 ·show (s.heap.objs.size :: zA3 _).Nodup
  rw [ow]
  refine List.nodup_cons.mpr ⟨fun hm=> ?_,List.nodup_append.mpr ⟨?_,(List.nodup_cons.mp st.nodup).2,?_⟩⟩
  ·rcases List.mem_append.mp hm with hm | hm
   ·obtain ⟨x,hx,e⟩:=List.mem_map.mp hm
    have:=big x hx;lia
   ·refine bc fun nn=> ?_
    obtain ⟨ob,ho,_⟩:=st.there (.tail _ hm)
    refine nn ?_
    exact Nat.lt_irrefl _ (Heap.lt_size ho)
  ·exact List.Pairwise.map _ (fun a b h=> h) I.apart
  ·intro a ha b hb e
   subst e
   refine bc fun nn=> ?_
   obtain ⟨x,hx,rfl⟩:=List.mem_map.mp ha
   obtain ⟨ob,ho,_⟩:=st.there (.tail _ hb)
   refine nn ?_
   exact Nat.lt_asymm (big x hx) (Heap.lt_size ho)
 ·intro a ha
  rw [ow] at ha
  have ha:a = s.heap.objs.size ∨ a ∈ (callEnvC fd s.heap.objs.size f).cells.map (·.2) ++ zA3 H:=List.mem_cons.mp ha
  rcases ha with rfl | ha
  ·exact .inr (zAa (Nat.le_refl _))
  ·rcases List.mem_append.mp ha with ha | ha
   ·refine bc fun nn=> ?_
    obtain ⟨x,hx,rfl⟩:=List.mem_map.mp ha
    refine nn ?_
    exact .inr (zAa (Nat.le_of_lt (big x hx)))
   ·exact .inl ha
end
end Mine
end
section
namespace Mine
variable {B:Addr → Prop}
section
variable {C:Cx} {F:Addr → Option Obj} {m:Loc} {H:AH} {s:Shared}
noncomputable def KeepOk (w:World):V → Prop
 | .con (.builtin _)=> True
 | .con (.type _)=> True
 | .ref a=> keepIn (KK w) (.ref a) = true
 | _=> False
theorem KeepOk.looks {M:Model} {w:World} {f:V} {v:Value} {h:Heap} (k:KeepOk w f) (i:Is B h f v):∀ h',(KK w).In h' → ∃ k,(k = Keeper.frame ∨ k = Keeper.machine ∨ k = Keeper.boundFrame) ∧ Looks M h' (keeperOf v) k:=by
 intro h' X
 cases f with
 | con c =>
  obtain rfl:v = c:=i
  cases v <;> first | exact ⟨.machine,.inr (.inl rfl),Looks.of_pure rfl⟩ | exact k.elim
 | ref a=> cases i;exact keeps_K k h' X
 | none=> exact k.elim
 | bool _=> exact k.elim
 | int _=> exact k.elim
 | str _=> exact k.elim
 | tup _=> exact k.elim
theorem zJ2 {pos:Pos} {f:V} {fv:Value} {first:List V} {fs:List Value} {e:Expr} {r:List Expr} {Q} (st:St C F m H s) (hf:Is C.ban s.heap f fv) (hfs:IsL C.ban s.heap first fs) (k:KeepOk C.w f)
    (h:EvL C m H pos (e :: r) fun vs m₁ H₁=> Call C m₁ H₁ f (first ++ vs) Q) (h1:starEach (e :: r) C.env = (false,eval e C.env) :: starEach r C.env) (h2:(backTo pos (starEach r C.env)).any (·.1) = false) :
    wpAny (model C.prog C.w) C.A (callWith pos fv fs (backTo pos (starEach (e :: r) C.env)) []) (Post C F s Is Q) (C.X F) s:=by
 have run:=h F s [] st rfl
 rw [h1] at run ⊢
 refine callWith_of (P:=(KK C.w).In) (by show ((false || (backTo pos (starEach r C.env)).any (·.1)) || false) = false;rw [h2];rfl) (k.looks hf) (evalArgs_plain (andThen run fun vs s₁ l m₁ H₁ i₁ st₁ p₁ h₁=> ?_))
 exact ⟨st₁.kin,wpAny_mono (h₁ F s₁ (fv :: (fs ++ vs)) st₁ (.cons (hf.mono p₁) ((hfs.mono p₁).append i₁))) (fun _ _ x=> x.shift p₁) fun _ _ e=> e⟩
theorem zI0 {pos:Pos} {f:V} {fv:Value} {first:List V} {fs:List Value} {Q} (st:St C F m H s) (hf:Is C.ban s.heap f fv) (hfs:IsL C.ban s.heap first fs) (k:KeepOk C.w f) (h:Call C m H f first Q) :
    wpAny (model C.prog C.w) C.A (callWith pos fv fs (backTo pos (starEach [] C.env)) []) (Post C F s Is Q) (C.X F) s:=by
 refine callWith_of (P:=(KK C.w).In) rfl (k.looks hf) (evalArgs_nil3 ⟨st.kin,?_⟩)
 rw [List.append_nil]
 exact h F s (fv :: fs) st (.cons hf hfs)
@[reducible] noncomputable def kArgs (C:Cx) (f:V) (Q:V → Loc → AH → Prop):List V → Loc → AH → Prop:=fun vs m H=> Call C m H f vs Q
theorem zS0 {x np e r pos} {Q} (h:Ev C m H (.Name x np) fun f m₁ H₁=> KeepOk C.w f ∧ EvL C m₁ H₁ pos (e :: r) (kArgs C f Q))
    (h1:starEach (e :: r) C.env = (false,eval e C.env) :: starEach r C.env:=by rfl) (h2:(backTo pos (starEach r C.env)).any (·.1) = false:=by rfl):Ev C m H (.Call (.Name x np) (e :: r) [] pos) Q:=by
 intro F s vs st i
 refine wpAny_Call_NameR (andThen (h F s [] st rfl) fun v s₁ f m₁ H₁ i₁ st₁ p₁ h₁=> ?_)
 exact wpAny_mono (zJ2 (first:=[]) (fs:=[]) st₁ i₁ .nil h₁.1 h₁.2 h1 h2) (fun _ _ x=> x.shift p₁) fun _ _ e=> e
theorem zTx {x np pos} {Q} (h:Ev C m H (.Name x np) fun f m₁ H₁=> KeepOk C.w f ∧ Call C m₁ H₁ f [] Q):Ev C m H (.Call (.Name x np) [] [] pos) Q:=by
 intro F s vs st i
 refine wpAny_Call_NameR (andThen (h F s [] st rfl) fun v s₁ f m₁ H₁ i₁ st₁ p₁ h₁=> ?_)
 exact wpAny_mono (zI0 (first:=[]) (fs:=[]) st₁ i₁ .nil h₁.1 h₁.2) (fun _ _ x=> x.shift p₁) fun _ _ e=> e
noncomputable def zDm (C:Cx) (H:AH) (a:V) (name:Str) (f:V):Prop:=KeepOk C.w f ∧
 ∀ {F m s v pl} {E:Value → Shared → Prop} {Q:Value × List Value → Shared → Prop},St C F m H s → Is C.ban s.heap a v → (∀ fv,(∀ B h,Is B h f fv) → Q (fv,[v]) s) → wpAny C.M C.A (getMethod v name pl) Q E s
@[reducible] noncomputable def zX6 (C:Cx) (f a:V) (Q:V → Loc → AH → Prop):List V → Loc → AH → Prop:=fun vs m H=> Call C m H f (a :: vs) Q
inductive kMeth (C:Cx) (name:Str) (pos:Pos) (es:List Expr) (Q:V → Loc → AH → Prop) (a:V) (m:Loc) (H:AH):Prop
 | mk (f:V) (hf:zDm C H a name f) (q:EvL C m H pos es (zX6 C f a Q))
inductive zUj (C:Cx) (name:Str) (Q:V → Loc → AH → Prop) (a:V) (m:Loc) (H:AH):Prop
 | mk (f:V) (hf:zDm C H a name f) (q:Call C m H f [a] Q)
theorem zWh {o:Expr} {name:Str} {apos pos:Pos} {e:Expr} {r:List Expr} {pl:Sem Bool} {Q}
    (h:Ev C m H o (kMeth C name pos (e :: r) Q))
    (h1:starEach (e :: r) C.env = (false,eval e C.env) :: starEach r C.env:=by rfl) (h2:(backTo pos (starEach r C.env)).any (·.1) = false:=by rfl)
    (he:eval (.Call (.Attribute o name apos) (e :: r) [] pos) C.env = (do
     let ov ← eval o C.env
     standAt apos.atName
     let (f,first) ← holding [ov] (getMethod ov name pl)
     callWith pos f first (backTo pos (starEach (e :: r) C.env)) (backToKw pos (keywordEach [] C.env))):=by rfl) :
    Ev C m H (.Call (.Attribute o name apos) (e :: r) [] pos) Q:=by
 intro F s vs st i
 refine methodCall_KW (pl:=pl) (andThen (h F s [] st rfl) fun v s₁ a m₁ H₁ i₁ st₁ p₁ h₁=> ?_) he
 refine bc fun nn=> ?_
 obtain ⟨f,⟨hk,hm⟩,h₁⟩:=h₁
 refine nn ?_
 refine hm st₁ i₁ fun fv hf=> ?_
 exact wpAny_mono (zJ2 (first:=[a]) (fs:=[v]) st₁ (hf _ _) (.cons i₁ .nil) hk h₁ h1 h2) (fun _ _ x=> x.shift p₁) fun _ _ e=> e
theorem zTt {o:Expr} {name:Str} {apos pos:Pos} {pl:Sem Bool} {Q}
    (h:Ev C m H o (zUj C name Q))
    (he:eval (.Call (.Attribute o name apos) [] [] pos) C.env = (do
     let ov ← eval o C.env
     standAt apos.atName
     let (f,first) ← holding [ov] (getMethod ov name pl)
     callWith pos f first (backTo pos (starEach [] C.env)) (backToKw pos (keywordEach [] C.env))):=by rfl) :
    Ev C m H (.Call (.Attribute o name apos) [] [] pos) Q:=by
 intro F s vs st i
 refine methodCall_KW (pl:=pl) (andThen (h F s [] st rfl) fun v s₁ a m₁ H₁ i₁ st₁ p₁ h₁=> ?_) he
 refine bc fun nn=> ?_
 obtain ⟨f,⟨hk,hm⟩,h₁⟩:=h₁
 refine nn ?_
 refine hm st₁ i₁ fun fv hf=> ?_
 exact wpAny_mono (zI0 (first:=[a]) (fs:=[v]) st₁ (hf _ _) (.cons i₁ .nil) hk h₁) (fun _ _ x=> x.shift p₁) fun _ _ e=> e
structure zAz (w:World) (Cl:Addr) (x:Str) (f:Addr):Prop where
 get:plainGet (KK w) Cl x = true
 meth:findIn (KK w) (.ref Cl) x = some (some (.ref f))
 fn:isFn (KK w) (.ref f) = true
 keep:keepIn (KK w) (.ref f) = true
theorem zA1 {a Cl dx f:Addr} {fs:Loc} {x:Str} (hm:(a,AObj.inst Cl dx fs) ∈ H) (hc:zAz C.w Cl x f) (hx:lk x fs = none):zDm C H (.ref a) x (.ref f):=by
 refine ⟨hc.keep,fun {F m s v pl E Q} st i h=> ?_⟩
 refine bc fun nn=> ?_
 obtain rfl:v = .ref a:=i
 obtain ⟨es,n,I,hd,er,z⟩:=zJw st hm
 refine nn ?_
 refine method_fn st.kin I (plainGet_of hc.get).1 (plainGet_of hc.get).2 hc.meth (beq_iff_eq.mp hc.fn) ?_ (h _ fun _ _=> zB3)
 show (lookIn x (dictOf es n)).map _ = _
 rw [lookIn_dict,er.getNone hx];rfl
noncomputable def VType:V → AH → String → Prop
 | .str _,_,T=> T = "str"
 | .ref a,H,T=> (∃ l,(a,AObj.list l) ∈ H ∧ T = "list") ∨ (∃ l,(a,AObj.dictA l) ∈ H ∧ T = "dict") ∨ (∃ l,(a,AObj.dictT l) ∈ H ∧ T = "dict")
 | _,_,_=> False
theorem VType.is {a:V} {T:String} {v:Value} (t:VType a H T) (st:St C F m H s) (i:Is C.ban s.heap a v):s.TypeIs v T:=by
 cases a with
 | str x=> obtain ⟨k,rfl⟩:=i;cases t;rfl
 | ref a =>
  obtain rfl:v = .ref a:=i
  rcases t with ⟨l,hm,rfl⟩ | ⟨l,hm,rfl⟩ | ⟨l,hm,rfl⟩
  ·obtain ⟨xs,hl,_⟩:=st.objs _ hm;exact hl.isList.typeIs
  ·obtain ⟨⟨xs,hl,_⟩,_⟩:=st.objs _ hm;exact hl.typeIs
  ·obtain ⟨⟨xs,hl,_⟩,_⟩:=st.objs _ hm;exact hl.typeIs
 | none=> exact t.elim
 | bool _=> exact t.elim
 | int _=> exact t.elim
 | tup _=> exact t.elim
 | con _=> exact t.elim
theorem VType.noDict {a:V} {T:String} {v:Value} (t:VType a H T) (st:St C F m H s) (i:Is C.ban s.heap a v):∀ b,v = .ref b → ∃ o,s.heap.get? b = some o ∧ o.dict = none:=by
 intro b e
 subst e
 cases a with
 | str x=> obtain ⟨k,e⟩:=i;cases e
 | ref a =>
  obtain rfl:b = a:=by injection (show Value.ref b = .ref a from i)
  rcases t with ⟨l,hm,rfl⟩ | ⟨l,hm,rfl⟩ | ⟨l,hm,rfl⟩
  ·obtain ⟨xs,⟨n,hl⟩,_⟩:=st.objs _ hm;exact ⟨_,hl,rfl⟩
  ·obtain ⟨⟨xs,⟨o,es,ep,ho,hc,_⟩,_⟩,_⟩:=st.objs _ hm;exact ⟨o,ho,hc.2.1⟩
  ·obtain ⟨⟨xs,⟨o,es,ep,ho,hc,_⟩,_⟩,_⟩:=st.objs _ hm;exact ⟨o,ho,hc.2.1⟩
 | none=> exact t.elim
 | bool _=> exact t.elim
 | int _=> exact t.elim
 | tup _=> exact t.elim
 | con _=> exact t.elim
theorem zBa {a:V} {T:String} {name:Str} {id:String} (t:VType a H T) (pa:PlainAttrs T) (slot:Slot T name id) (hty:typeOf (.builtin id) = pure (.type "method_descriptor")):zDm C H a name (.con (.builtin id)) :=
 ⟨trivial,fun {F m s v pl E Q} st i h=> getMethod_builtin (t.is st i) pa slot hty (t.noDict st i) (h _ fun _ _=> zUl)⟩
end
end Mine
end
section
namespace Mine
variable {B:Addr → Prop}
section
variable {C:Cx} {F:Addr → Option Obj} {m:Loc} {H:AH} {s:Shared}
noncomputable abbrev Asg (C:Cx) (m:Loc) (H:AH) (t:Expr) (v:V) (Q:Unit → Loc → AH → Prop):Prop:=T C m H [v] (fst fun x=> assign t C.env x) UIs Q
theorem zCr {x:Str} {V:V} {v:Value} {Q:Unit → Loc → AH → Prop} (st:St C F m H s) (iv:Is C.ban s.heap V v) (hk:C.env.kindOf x = some .local) (q:Q () (put x V m) H) :
    wpAny C.M C.A (storeName C.env x v) (Post C F s UIs Q) (C.X F) s:=by
 refine bc fun nn=> ?_
 obtain ⟨f,hn,hf⟩:=st.fr
 refine nn ?_
 refine wpAny_storeName_local hk hn (fun h' hn' hs=> ?_) (by rw [st.ok.kf];rfl)
 refine bc fun nn=> ?_
 obtain ⟨st',p⟩:=st.store (m':=put x V m) (tk:=s.toks + 1) hs fun p=> ⟨_,hn',fun y=> by
  rw [zUf]
  by_cases q:y = x
  ·simp only [q,if_true];exact iv.mono p
  ·simp only [q,if_false];exact (hf y).mono p⟩
 refine nn ?_
 exact ⟨(),_,H,trivial,st',p,q⟩
theorem zOf {x:Str} {c:Addr} {V:V} {o:Option Mine.V} {v:Value} {H':AH} {Q:Unit → Loc → AH → Prop} (st:St C F m H s) (iv:Is C.ban s.heap V v) (hk:C.env.kindOf x = some .cell) (hc:C.env.cells.lookup x = some c)
    (u:Upd c (.cell o) (.cell (some V)) H H') (q:Q () m H'):wpAny C.M C.A (storeName C.env x v) (Post C F s UIs Q) (C.X F) s:=by
 obtain ⟨ob,ov,ho,hd,_⟩:=st.objs _ u.mem
 refine wpAny_storeName_cell st.ok.kf hk hc ⟨ob,ho,hd⟩ (fun h' hc' hs=> ?_)
 obtain ⟨st',p⟩:=st.update (h':=h') (tk:=s.toks) u rfl (fun b ob hb e=> (hs.2 b (by simpa [AObj.own] using hb)).trans e) (fun p=> by
  obtain ⟨o',e',d'⟩:=hc'
  exact ⟨o',_,e',d',iv.mono p⟩)
 exact ⟨(),m,H',trivial,st',p,q⟩
theorem zIf {x:Str} {pos} {V:V} {Q} (hk:C.env.kindOf x = some .local) (q:Q () (put x V m) H):Asg C m H (.Name x pos) V Q:=by
 intro F s vs st i
 refine zBf i fun v iv=> ?_
 exact wpAny_assign_Name (zCr st iv hk q)
theorem zCh {x:Str} {pos} {c:Addr} {V:V} {o:Option Mine.V} {H':AH} {Q} (hk:C.env.kindOf x = some .cell) (hc:C.env.cells.lookup x = some c) (u:Upd c (.cell o) (.cell (some V)) H H') (q:Q () m H'):Asg C m H (.Name x pos) V Q:=by
 intro F s vs st i
 refine zBf i fun v iv=> ?_
 exact wpAny_assign_Name (zOf st iv hk hc u q)
theorem zDk {h h':Heap} (e:Heap.ExtBut h.objs.size h h'):∀ b o,h.get? b = some o → h'.get? b = some o:=fun b o x=> e b o (Nat.ne_of_lt (Heap.lt_size x)) x
theorem zR1 {M:Model} {prog:Program} {w:World} {A:Around} {E:Value → Shared → Prop} {it t:Addr} {items:Array Value} (hne:t ≠ it):∀ (n i:Nat) (s:Shared) (Q:List Value → Shared → Prop),s.heap.IsListIter it t i → s.heap.IsList t items → i + n ≤ items.size →
    (∀ h',h'.IsListIter it t (i + n) → Heap.SameBut it s.heap h' → Q ((items.toList.drop i).take n) { s with heap:=h' }) → wpAny (model prog w) A (draw (.ref it) n) Q E s:=by
 intro n
 induction n with
 | zero=> intro i s Q hit _ _ hQ;exact wpAny_pure (by simpa using hQ s.heap hit (Heap.SameBut.refl ..))
 | succ n ih =>
  intro i s Q hit ht hle hQ
  have hlt:i < items.size:=by lia
  show wpAny _ _ (pyNext (.ref it) >>= _) Q E s
  refine wpAny_bind (wpAny_pyNext_list_item hit ht (x:=items[i]) (by simp [hlt]) fun h₁ hit₁ hs₁=> ?_)
  refine wpAny_bind (wpAny_holding (ih (i + 1) _ _ hit₁ (ht.extBut hs₁.extBut hne) (by lia) fun h₂ hit₂ hs₂=> wpAny_pure ?_))
  have hd:items.toList.drop i = items[i] :: items.toList.drop (i + 1):=by simp [List.drop_eq_getElem_cons,hlt]
  have:=hQ h₂ (by rw [show i + (n + 1) = i + 1 + n by lia];exact hit₂) (hs₁.trans hs₂)
  rw [hd,List.take_succ_cons] at this
  exact this
theorem zGd {prog:Program} {w:World} {A:Around} {E:Value → Shared → Prop} {s:Shared} {t:Addr} {items:Array Value} {Q:List Value → Shared → Prop} (hh:A.handled = none) (ht:s.heap.IsList t items)
    (hQ:∀ h',Heap.ExtBut s.heap.objs.size s.heap h' → Q items.toList { s with heap:=h' }):wpAny (model prog w) A (unpackItems (.ref t) items.size none) Q E s:=by
 have hlt:t ≠ s.heap.objs.size:=by obtain ⟨o,ho,_⟩:=ht;exact Nat.ne_of_lt (Heap.lt_size ho)
 have up:∀ {h':Heap},(∀ o,s.heap.get? t = some o → h'.get? t = some o) → h'.IsList t items:=fun k=> let ⟨o,ho,r⟩:=ht;⟨o,k o ho,r⟩
 unfold unpackItems
 refine wpAny_bind ?_
 unfold notIterableAtAll
 refine wpAny_bind (wpAny_specialOf ht.typeIs PySem.F.slot_list_iter.lookup ?_)
 refine wpAny_pure ?_
 simp only [Bool.false_eq_true,if_false]
 refine wpAny_bind (wpAny_holding (wpAny_pyIter_list ht ?_))
 refine wpAny_bind (wpAny_holding (zR1 (M:=model prog w) hlt items.size 0 _ _ ⟨_,Heap.get?_push_size _ rfl,rfl,rfl⟩ (up fun o e=> Heap.get?_push_of_some _ e) (by lia) fun h₁ hit₁ hs₁=> ?_))
 have hall:List.take items.size (List.drop 0 items.toList) = items.toList:=by
  rw [List.drop_zero];exact List.take_of_length_le (by exact Nat.le_refl _)
 rw [hall]
 rw [if_neg (by simp)]
 have ht₁:h₁.IsList t items:=up fun o e=> (hs₁.2 t hlt).trans (Heap.get?_push_of_some _ e)
 refine wpAny_bind (wpAny_holding (wpAny_pyNext_list_end hh hit₁ ht₁ (by simp) fun h₂ he₂=> ?_))
 simp only [Option.isSome_none,Bool.false_eq_true,if_false]
 exact wpAny_pure (hQ h₂ fun b o hb e=> he₂ b o hb (hs₁.extBut b o hb (Heap.get?_push_of_some _ e)))
@[reducible] noncomputable def kAsg2 (C:Cx) (t:Expr) (b:V) (Q:Unit → Loc → AH → Prop):Unit → Loc → AH → Prop:=fun _ m H=> Asg C m H t b Q
@[reducible] noncomputable def kSetA (C:Cx) (x:Str) (v:V) (Q:Unit → Loc → AH → Prop):V → Loc → AH → Prop:=fun a m H=> SetA C m H a x v Q
@[reducible] noncomputable def zWy (C:Cx) (v:V) (Q:Unit → Loc → AH → Prop) (a:V):V → Loc → AH → Prop:=fun k m H=> SetI C m H a k v Q
@[reducible] noncomputable def zWz (C:Cx) (i:Expr) (v:V) (Q:Unit → Loc → AH → Prop):V → Loc → AH → Prop:=fun a m H=> Ev C m H i (zWy C v Q a)
noncomputable def Parts (H:AH):V → List V → Prop
 | .tup l,l'=> l = l'
 | .ref a,l'=> (a,AObj.list l') ∈ H
 | _,_=> False
theorem zJd {v:Value} {U:V} {l:List V} {n:Nat} {P:List Value → Shared → Prop} (st:St C F m H s) (iv:Is C.ban s.heap U v) (hp:Parts H U l) (hn:l.length = n)
    (h:∀ vs s',St C F m H s' → Pres C.ban s.heap s'.heap → IsL C.ban s'.heap l vs → P vs s'):wpAny C.M C.A (unpackItems v n none) P (C.X F) s:=by
 cases U with
 | tup l₀ =>
  obtain rfl:l₀ = l:=hp
  obtain ⟨a,xs,rfl,⟨ht,nb⟩,il⟩:=iv
  have hz:xs.size = n:=by rw [← hn,il.length,Array.length_toList]
  rw [← hz]
  exact wpAny_unpackItems_tuple st.ok.hh ht fun h' e=> h _ _ (st.keeps (tk:=s.toks) (zDk e)) (Pres.keeps (zDk e)) (il.mono (Pres.keeps (zDk e)))
 | ref a =>
  obtain rfl:v = .ref a:=iv
  obtain ⟨xs,hl,il⟩:=st.objs _ hp
  have hz:xs.size = n:=by rw [← hn,il.length,Array.length_toList]
  rw [← hz]
  exact zGd st.ok.hh hl.isList fun h' e=> h _ _ (st.keeps (tk:=s.toks) (zDk e)) (Pres.keeps (zDk e)) (il.mono (Pres.keeps (zDk e)))
 | none=> exact hp.elim
 | bool _=> exact hp.elim
 | int _=> exact hp.elim
 | str _=> exact hp.elim
 | con _=> exact hp.elim
theorem zAl {t₁ t₂ k pos} {U a b:V} {Q} (hp:Parts H U [a,b]) (h:Asg C m H t₁ a (kAsg2 C t₂ b Q))
    (he:assignEach [t₁,t₂] C.env = [(false,assign t₁ C.env),(false,assign t₂ C.env)]:=by rfl):Asg C m H (.Tuple [t₁,t₂] k pos) U Q:=by
 intro F s vs st i
 refine zBf i fun v iv=> ?_
 show wpAny _ _ (assign (.Tuple [t₁,t₂] k pos) C.env v) _ _ _
 rw [arm_assign_Tuple,he]
 refine wpAny_bind (wpAny_standAt ?_)
 unfold unpack
 refine wpAny_bind (wpAny_holding (zJd (n:=2) st iv hp rfl fun us s' st' p il=> ?_))
 refine zAj il fun x y ix iy=> ?_
 show wpAny _ _ (do holding [y] (assign t₁ C.env x);assignInOrder [assign t₂ C.env] [y]) _ _ _
 refine wpAny_bind (wpAny_holding (andThen (h F s' [x] st' (.cons ix .nil)) fun _ s₁ _ m₁ H₁ _ st₁ p₁ h₁=> ?_))
 show wpAny _ _ (do holding [] (assign t₂ C.env y);pure ()) _ _ _
 refine wpAny_bind (wpAny_holding (andThen (h₁ F s₁ [y] st₁ (.cons (iy.mono p₁) .nil)) fun _ s₂ _ m₂ H₂ _ st₂ p₂ h₂=> ?_))
 exact wpAny_pure ⟨(),m₂,H₂,trivial,st₂,p.trans (p₁.trans p₂),h₂⟩
theorem zUa {o:Expr} {x:Str} {pos} {V:V} {Q} (h:Ev C m H o (kSetA C x V Q)) (he:∀ v,assign (.Attribute o x pos) C.env v = (do
      let ov ← holding [v] (eval o C.env)
      standAt pos.atName
      holding [v,ov] (setAttr ov x v)
      release [v,ov] []):=by intro _;rfl):Asg C m H (.Attribute o x pos) V Q:=by
 intro F s vs st i
 refine zBf i fun v iv=> ?_
 show wpAny _ _ (assign (.Attribute o x pos) C.env v) _ _ _
 rw [he]
 refine wpAny_bind (wpAny_holding (andThen (h F s [] st rfl) fun ov s₁ a m₁ H₁ i₁ st₁ p₁ h₁=> wpAny_bind (wpAny_standAt (wpAny_bind (wpAny_holding ?_)))))
 exact andThen (h₁ F s₁ [ov,v] st₁ (.cons i₁ (.cons (iv.mono p₁) .nil))) fun _ s₂ _ m₂ H₂ _ st₂ p₂ h₂=> wpAny_release ⟨(),m₂,H₂,trivial,st₂,p₁.trans p₂,h₂⟩
theorem zWt {o i:Expr} {pos} {V:V} {Q} (h:Ev C m H o (zWz C i V Q)) (he:∃ f:Value → Value → Value → List Value,∀ (v:Value) (_:True),assign (.Subscript o i pos) C.env v = (do
    let ov ← holding [v] (eval o C.env)
    let iv ← holding [v,ov] (eval i C.env)
    standAt pos
    holding [v,ov,iv] (setItem ov iv v)
    release (f iv v ov) [])):Asg C m H (.Subscript o i pos) V Q:=by
 obtain ⟨f,he⟩:=he
 intro F s vs st ii
 refine zBf ii fun v iv=> ?_
 show wpAny _ _ (assign (.Subscript o i pos) C.env v) _ _ _
 rw [he v trivial]
 refine wpAny_bind (wpAny_holding (andThen (h F s [] st rfl) fun ov s₁ a m₁ H₁ i₁ st₁ p₁ h₁=> ?_))
 refine wpAny_bind (wpAny_holding (andThen (h₁ F s₁ [] st₁ rfl) fun kv s₂ k m₂ H₂ i₂ st₂ p₂ h₂=> wpAny_bind (wpAny_standAt (wpAny_bind (wpAny_holding ?_)))))
 exact andThen (h₂ F s₂ [ov,kv,v] st₂ (.cons (i₁.mono p₂) (.cons i₂ (.cons (iv.mono (p₁.trans p₂)) .nil)))) fun _ s₃ _ m₃ H₃ _ st₃ p₃ h₃=> wpAny_release ⟨(),m₃,H₃,trivial,st₃,p₁.trans (p₂.trans p₃),h₃⟩
noncomputable def Seq (C:Cx) (rest:List Stmt) (Q:AFlow → Loc → AH → Prop):AFlow → Loc → AH → Prop:=fun fl m H=> match fl with
 | .next=> Ex C m H rest Q
 | f=> Q f m H
@[reducible] noncomputable def kEx (C:Cx) (rest:List Stmt) (Q:AFlow → Loc → AH → Prop):Unit → Loc → AH → Prop:=fun _ m H=> Ex C m H rest Q
@[reducible] noncomputable def kExV (C:Cx) (rest:List Stmt) (Q:AFlow → Loc → AH → Prop):V → Loc → AH → Prop:=fun _ m H=> Ex C m H rest Q
@[reducible] noncomputable def kAsg (C:Cx) (t:Expr) (rest:List Stmt) (Q:AFlow → Loc → AH → Prop):V → Loc → AH → Prop:=fun v m H=> Asg C m H t v (kEx C rest Q)
@[reducible] noncomputable def kSwap (C:Cx) (a b:Str) (rest:List Stmt) (Q:AFlow → Loc → AH → Prop):V → Loc → AH → Prop:=fun v m H=> ∃ x y,Parts H v [x,y] ∧ Ex C (put a x (put b y m)) H rest Q
@[reducible] noncomputable def kRet (Q:AFlow → Loc → AH → Prop):V → Loc → AH → Prop:=fun v m H=> Q (.ret v) m H
structure kIf (C:Cx) (body orelse rest:List Stmt) (Q:AFlow → Loc → AH → Prop) (b:Bool) (m:Loc) (H:AH):Prop where
 h1:(b = true → Ex C m H body (Seq C rest Q))
 h2:(b = false → Ex C m H orelse (Seq C rest Q))
theorem zQy {h:Heap}:zEe B h .next .next:=rfl
theorem zRm {Q} (q:Q .next m H):Ex C m H [] Q:=fun F s vs st i=> wpAny_execs_nil (fin st zQy q)
noncomputable abbrev Ex1 (C:Cx) (m:Loc) (H:AH) (st:Stmt) (Q:AFlow → Loc → AH → Prop):Prop:=T C m H [] (fun _=> exec st C.env) zEe Q
theorem zCm {a:Stmt} {rest:List Stmt} {Q} (h:Ex1 C m H a (Seq C rest Q)):Ex C m H (a :: rest) Q:=by
 intro F s vs st i
 refine wpAny_execs_cons (andThen (h F s [] st rfl) fun f s₁ fl m₁ H₁ i₁ st₁ p₁ h₁=> ?_)
 cases fl with
 | next=> cases i₁;exact wpAny_mono (h₁ F s₁ [] st₁ rfl) (fun _ _ x=> x.shift p₁) fun _ _ e=> e
 | brk=> cases i₁;exact ⟨.brk,m₁,H₁,rfl,st₁,p₁,h₁⟩
 | cont=> cases i₁;exact ⟨.cont,m₁,H₁,rfl,st₁,p₁,h₁⟩
 | ret v=> obtain ⟨x,rfl,ix⟩:=i₁;exact ⟨.ret v,m₁,H₁,⟨x,rfl,ix⟩,st₁,p₁,h₁⟩
theorem zWb {e pos rest} {Q} (h:Ev C m H e (kExV C rest Q)) (hs:swapsWith e none pos.line C.env = pure false:=by rfl):Ex C m H (.Expr e pos :: rest) Q:=by
 refine zCm fun F s vs st i=> ?_
 exact wpAny_Expr_any (andThen (h F s [] st rfl) fun v s₁ a m₁ H₁ i₁ st₁ p₁ h₁=> ⟨.next,m₁,H₁,rfl,st₁,p₁,h₁⟩) st.ok.int hs
theorem zRr {t value pos rest} {Q} (h:Ev C m H value (kAsg C t rest Q))
    (hs:swapsWithSole [t] value pos.line C.env = pure false:=by rfl) (hw:swappedStores [t] value C.env = pure none:=by rfl) (ha:(assignEach [t] C.env).map (·.2) = [assign t C.env]:=by rfl):Ex C m H (.Assign [t] value pos :: rest) Q:=by
 refine zCm fun F s vs st i=> ?_
 refine wpAny_Assign_stores (andThen (h F s [] st rfl) fun v s₁ a m₁ H₁ i₁ st₁ p₁ h₁=> ?_) hs hw
 rw [ha]
 show wpAny _ _ (assign t C.env v) _ _ _
 exact andThen (h₁ F s₁ [v] st₁ (.cons i₁ .nil)) fun _ s₂ _ m₂ H₂ _ st₂ p₂ h₂=> ⟨.next,m₂,H₂,rfl,st₂,p₁.trans p₂,h₂⟩
theorem zEo {a b:Str} {elts k tpos value pos rest} {Q} (h:Ev C m H value (kSwap C a b rest Q)) (ka:C.env.kindOf a = some .local) (kb:C.env.kindOf b = some .local)
    (hs:swapsWithSole [.Tuple elts k tpos] value pos.line C.env = pure false:=by rfl)
    (hw:swappedStores [.Tuple elts k tpos] value C.env = pure (some [a,b]):=by rfl):Ex C m H (.Assign [.Tuple elts k tpos] value pos :: rest) Q:=by
 refine zCm fun F s vs st i=> ?_
 refine Assign_Tuple_swapped (names:=[a,b]) (andThen (h F s [] st rfl) fun v s₁ V m₁ H₁ i₁ st₁ p₁ h₁=> ?_) hs hw
 refine bc fun nn=> ?_
 obtain ⟨x,y,hp,h₁⟩:=h₁
 refine nn ?_
 refine zJd (n:=2) st₁ i₁ hp rfl fun us s₂ st₂ p₂ il=> ?_
 refine zAj il fun u v iu iv=> ?_
 show wpAny _ _ (do holding [u] (bindName C.env b v);do holding [] (bindName C.env a u);pure ()) _ _ _
 refine wpAny_bind (wpAny_holding (wpAny_bindName (andThen (zCr (Q:=fun _ m' H'=> m' = put b y m₁ ∧ H' = H₁) st₂ iv kb ⟨rfl,rfl⟩) fun _ s₃ _ m₃ H₃ _ st₃ p₃ q₃=> ?_)))
 refine bc fun nn=> ?_
 obtain ⟨rfl,rfl⟩:=q₃
 refine nn ?_
 refine wpAny_bind (wpAny_holding (wpAny_bindName (andThen (zCr (Q:=fun _ m' H'=> m' = put a x (put b y m₁) ∧ H' = H₃) st₃ (iu.mono p₃) ka ⟨rfl,rfl⟩) fun _ s₄ _ m₄ H₄ _ st₄ p₄ q₄=> ?_)))
 refine bc fun nn=> ?_
 obtain ⟨rfl,rfl⟩:=q₄
 refine nn ?_
 exact wpAny_pure ⟨.next,_,_,rfl,st₄,p₁.trans (p₂.trans (p₃.trans p₄)),h₁⟩
theorem zRo {e pos rest} {Q} (h:Ev C m H e (kRet Q)):Ex C m H (.Return (some e) pos :: rest) Q:=by
 refine zCm fun F s vs st i=> ?_
 exact wpAny_Return_some (andThen (h F s [] st rfl) fun v s₁ a m₁ H₁ i₁ st₁ p₁ h₁=> ⟨.ret a,m₁,H₁,⟨v,rfl,i₁⟩,st₁,p₁,h₁⟩)
theorem Ex_If {test body orelse pos rest} {Q} (h:Tr C m H test (kIf C body orelse rest Q)):Ex C m H (.If test body orelse pos :: rest) Q:=by
 refine zCm fun F s vs st i=> ?_
 refine wpAny_If (andThen (h F s [] st rfl) fun b s₁ b' m₁ H₁ i₁ st₁ p₁ h₁=> ?_)
 cases i₁
 cases b with
 | true=> exact wpAny_mono (h₁.1 rfl F s₁ [] st₁ rfl) (fun _ _ x=> x.shift p₁) fun _ _ e=> e
 | false=> exact wpAny_mono (h₁.2 rfl F s₁ [] st₁ rfl) (fun _ _ x=> x.shift p₁) fun _ _ e=> e
end
end Mine
end
section
namespace Mine
noncomputable abbrev Cx.wX (C:Cx) (X:(Addr → Option Obj) → Value → Shared → Prop):Cx:={ C with X:=X }
section
variable {C:Cx} {F:Addr → Option Obj} {m:Loc} {H:AH} {s:Shared}
theorem Ok.wX (o:Ok C) (X):Ok (C.wX X):=⟨o.kin,o.hh,o.dep,o.un,o.lim,o.top,o.kf,o.kg,o.kb,o.int,o.nban,o.file,o.nosup⟩
theorem St.wX (st:St C F m H s) (X):St (C.wX X) F m H s:=⟨st.ok.wX X,st.gens,st.os,st.base,st.raw,st.bl,st.fr,st.objs,st.nodup,st.fresh,st.ups⟩
theorem St.ofX {X} (o:Ok C) (st:St (C.wX X) F m H s):St C F m H s:=⟨o,st.gens,st.os,st.base,st.raw,st.bl,st.fr,st.objs,st.nodup,st.fresh,st.ups⟩
noncomputable def frz (wr:List Addr) (h:Heap) (F:Addr → Option Obj):Addr → Option Obj:=fun b=> open Classical in if b ∈ wr then h.get? b else F b
theorem zNs {wr:List Addr} {h:Heap} {F:Addr → Option Obj} {b:Addr} (hb:b ∈ wr):frz wr h F b = h.get? b:=by unfold frz;rw [if_pos hb]
theorem zCy {wr:List Addr} {h:Heap} {F:Addr → Option Obj} {b:Addr} (hb:b ∉ wr):frz wr h F b = F b:=by unfold frz;rw [if_neg hb]
noncomputable abbrev OldA (C:Cx) (F:Addr → Option Obj) (b:Addr):Prop:=F b = none ∧ ∀ u,(b,u) ∉ C.up
structure Apart (C:Cx) (F:Addr → Option Obj) (H:AH) (wr:List Addr):Prop where
 own:∀ b ∈ wr,b ∉ C.L :: zA3 H
 old:∀ b ∈ wr,OldA C F b
theorem St.freeze (st:St C F m H s) {wr:List Addr} (ap:Apart C F H wr):St C (frz wr s.heap F) m H s where
 ok:=st.ok
 gens:=st.gens
 os:=st.os
 base:=fun b o e=> by
  have e':=st.base b o e
  by_cases hb:b ∈ wr
  ·exact nn2 ((ap.old b hb).1) e'
  ·rw [zCy hb];exact e'
 raw:=fun b o e=> by
  by_cases hb:b ∈ wr
  ·rw [zNs hb] at e;exact e
  ·rw [zCy hb] at e;exact st.raw b o e
 bl:=fun a ha=> by
  obtain ⟨b,hab,e⟩:=st.bl a ha
  refine ⟨b,hab,e.imp id fun e=> e.imp (fun ⟨o,e⟩=> ⟨o,?_⟩) id⟩
  by_cases hb:b ∈ wr
  ·exact nn2 ((ap.old b hb).1) e
  ·rw [zCy hb];exact e
 fr:=st.fr
 objs:=st.objs
 nodup:=st.nodup
 fresh:=fun a ha=> by
  by_cases hb:a ∈ wr
  ·exact absurd ha (ap.own a hb)
  ·rw [zCy hb];exact st.fresh a ha
 ups:=fun p hp=> by
  refine ⟨(st.ups p hp).1,?_,(st.ups p hp).2.2⟩
  by_cases hb:p.1 ∈ wr
  ·exact absurd hp ((ap.old _ hb).2 p.2)
  ·rw [zCy hb];exact (st.ups p hp).2.1
theorem St.thaw {s₀:Shared} {wr:List Addr} (bs:∀ b o,C.s₀.heap.get? b = some o → F b = some o) (bl:∀ a,C.ban a → ∃ b,a ≤ b ∧ (b = C.L ∨ (∃ o,F b = some o) ∨ ∃ u,(b,u) ∈ C.up)) (ol:∀ b ∈ wr,OldA C F b) (there:∀ b ∈ wr,∃ o,s₀.heap.get? b = some o)
    (st:St C (frz wr s₀.heap F) m H s):St C F m H s ∧ Apart C F H wr ∧ ∀ b ∈ wr,∀ o,s₀.heap.get? b = some o → s.heap.get? b = some o:=by
 have out:∀ b o,F b = some o → b ∉ wr:=fun b o e hb=> by exact nn2 ((ol b hb).1) e
 refine ⟨⟨st.ok,st.gens,st.os,bs,fun b o e=> st.raw b o (by rw [zCy (out b o e)];exact e),bl,st.fr,st.objs,st.nodup,fun a ha=> ?_,fun p hp=> ⟨(st.ups p hp).1,?_,(st.ups p hp).2.2⟩⟩,⟨fun b hb hm=> ?_,ol⟩,fun b hb o e=> st.raw b o (by rw [zNs hb];exact e)⟩
 ·have:=st.fresh a ha
  by_cases hb:a ∈ wr
  ·exact (ol a hb).1
  ·rw [zCy hb] at this;exact this
 ·by_cases hb:p.1 ∈ wr
  ·exact (ol _ hb).1
  ·have:=(st.ups p hp).2.1
   rw [zCy hb] at this;exact this
 ·have:=st.fresh b hm
  rw [zNs hb] at this
  obtain ⟨o,e⟩:=there b hb
  exact nn3 e this
theorem zKc {test body pos rest} {Q} (I:Nat → Loc → AH → Prop) (n:Nat) (h0:I n m H)
    (turn:∀ X n m H,I n m H → Tr (C.wX X) m H test fun b m₁ H₁=> (b = true → Ex (C.wX X) m₁ H₁ body fun fl m₂ H₂=> match fl with
        | .next | .cont=> ∃ k,k < n ∧ I k m₂ H₂
        | .brk=> Ex C m₂ H₂ rest Q
        | .ret v=> Q (.ret v) m₂ H₂) ∧ (b = false → Ex C m₁ H₁ rest Q)):Ex C m H (.While test body [] pos :: rest) Q:=by
 refine zCm fun F s vs st i=> ?_
 refine wpAny_While ?_
 refine codeAny_whileLoop (fun n s'=> ∃ m' H',I n m' H' ∧ St C F m' H' s' ∧ Pres C.ban s.heap s'.heap) (fun n s' z=> ?_) n ⟨m,H,h0,st,Pres.refl _⟩
 refine bc fun nn=> ?_
 obtain ⟨m',H',hI,st',p'⟩:=z
 refine nn ?_
 have t:=turn (fun _ e s'=> notedBy C.M C.A C.env (fun e s'=> cameBackBy C.M C.A C.env (C.X F) e s') e s') n m' H' hI
 refine andThen (t F s' [] (st'.wX _) rfl) fun b s₁ b' m₁ H₁ i₁ st₁ p₁ h₁=> ?_
 cases i₁
 cases b with
 | true =>
  simp only [if_true]
  refine andThen (h₁.1 rfl F s₁ [] st₁ rfl) fun f s₂ fl m₂ H₂ i₂ st₂ p₂ h₂=> ?_
  have st₂':=St.ofX st.ok st₂
  cases fl with
  | next=> cases i₂;obtain ⟨k,hk,hI⟩:=h₂;exact ⟨k,hk,m₂,H₂,hI,st₂',p'.trans (p₁.trans p₂)⟩
  | cont=> cases i₂;obtain ⟨k,hk,hI⟩:=h₂;exact ⟨k,hk,m₂,H₂,hI,st₂',p'.trans (p₁.trans p₂)⟩
  | brk=> cases i₂;exact ⟨.next,m₂,H₂,rfl,st₂',p'.trans (p₁.trans p₂),h₂⟩
  | ret v=> obtain ⟨x,rfl,ix⟩:=i₂;exact ⟨.ret v,m₂,H₂,⟨x,rfl,ix⟩,st₂',p'.trans (p₁.trans p₂),h₂⟩
 | false =>
  simp only [Bool.false_eq_true,if_false]
  exact wpAny_execs_nil ⟨.next,m₁,H₁,rfl,St.ofX st.ok st₁,p'.trans p₁,h₁.2 rfl⟩
noncomputable abbrev Cx.sib (C:Cx) (env:Env) (X:(Addr → Option Obj) → Value → Shared → Prop):Cx:={ C with env:=env,X:=X }
structure Itr (C:Cx) (target:Expr) (it:Addr) (wr:List Addr) (src:AH → Prop) (K:Nat → Heap → Prop) (xs:List V):Prop where
 there:∀ i h,K i h → ∀ b ∈ wr,∃ o,h.get? b = some o
 keep:∀ i h h',K i h → (∀ b ∈ wr,∀ o,h.get? b = some o → h'.get? b = some o) → Pres C.ban h h' → K i h'
 item:∀ env X i x F m H s (Q:Value → Shared → Prop) (E:Value → Shared → Prop) (P:Option Value → Shared → Prop),xs[i]? = some x → St (C.sib env X) F m H s → Apart (C.sib env X) F H wr → src H → K i s.heap →
  (∀ v s₁,wpAny C.M C.A (letOwnedTupleGo target (.ref it) v) (fun _ s₂=> Q v s₂) E s₁ → P (some v) s₁) →
  (∀ v s',Is C.ban s'.heap x v → K (i + 1) s'.heap → St (C.sib env X) F m H s' → Pres C.ban s.heap s'.heap → (∀ b o,b ∉ wr → s.heap.get? b = some o → s'.heap.get? b = some o) → Q v s') →
  wpAny C.M C.A (pyNext (.ref it)) P E s
 done:∀ env X F m H s (Q:Option Value → Shared → Prop) (E:Value → Shared → Prop),St (C.sib env X) F m H s → Apart (C.sib env X) F H wr → src H → K xs.length s.heap →
  (∀ s',St (C.sib env X) F m H s' → Pres C.ban s.heap s'.heap → (∀ b o,b ∉ wr → s.heap.get? b = some o → s'.heap.get? b = some o) → Q none s') → wpAny C.M C.A (pyNext (.ref it)) Q E s
 self:∀ i s (Q E:Value → Shared → Prop),K i s.heap → Q (.ref it) s → wpAny C.M C.A (pyIter (.ref it)) Q E s
noncomputable def Walk (C:Cx) (target:Expr) (H:AH) (v:V) (src:AH → Prop) (xs:List V) (H':AH):Prop :=
 ∀ F m s x (Q:Value → Shared → Prop) (E:Value → Shared → Prop),St C F m H s → Is C.ban s.heap v x →
  (∀ it wr K s',Itr C target it wr src K xs → St C F m H' s' → Apart C F H' wr → K 0 s'.heap → Pres C.ban s.heap s'.heap → Q (.ref it) s') → wpAny C.M C.A (pyIter x) Q E s
inductive zUp (C:Cx) (F:Addr → Option Obj) (wr:List Addr) (K:Nat → Heap → Prop) (h:Heap) (z:Nat) (I:Nat → Loc → AH → Prop) (n:Nat) (s':Shared):Prop
 | mk (i:Nat) (m':Loc) (H':AH) (hI:I i m' H') (st:St C F m' H' s') (ap:Apart C F H' wr) (k:K i s'.heap) (p:Pres C.ban h s'.heap) (hle:i ≤ z) (hn:n = z + 1 - i)
inductive ForP (C:Cx) (target:Expr) (body rest:List Stmt) (Q:AFlow → Loc → AH → Prop) (v:V) (m₁:Loc) (H₁:AH):Prop
 | mk (xs:List V) (src:AH → Prop) (H₁':AH) (wk:Walk C target H₁ v src xs H₁') (I:Nat → Loc → AH → Prop) (h0:I 0 m₁ H₁') (hs:∀ i m H,I i m H → src H)
     (turn:∀ X i x m H,xs[i]? = some x → I i m H → Asg (C.wX X) m H target x fun _ m₁ H₁=> Ex (C.wX X) m₁ H₁ body fun fl m₂ H₂=> match fl with
      | .next | .cont=> I (i + 1) m₂ H₂
      | .brk=> Ex C m₂ H₂ rest Q
      | .ret v=> Q (.ret v) m₂ H₂) (fin:∀ m H,I xs.length m H → Ex C m H rest Q)
theorem zRq {target iter body pos rest} {Q}
    (h:Ev C m H iter (ForP C target body rest Q))
    (hs:∀ x,foldedSetIterable iter C.env x = pure x:=by intro _;rfl):Ex C m H (.For target iter body [] pos :: rest) Q:=by
 refine zCm fun F s vs st i=> ?_
 refine wpAny_For (andThen (h F s [] st rfl) fun v s₁ a m₁ H₁ i₁ st₁ p₁ h₁=> ?_) hs
 obtain ⟨xs,src,H₁',wk,I,h0,hsrc,turn,fin⟩:=h₁
 refine wk F m₁ s₁ v _ _ st₁ i₁ fun it wr K s₂ itr st₂ ap k0 p₂=> ?_
 refine codeAny_forLoop_any (zUp C F wr K s.heap xs.length I)
  (fun n s' z=> ?_) (xs.length + 1) ⟨0,m₁,H₁',h0,st₂,ap,k0,p₁.trans p₂,Nat.zero_le _,rfl⟩
 obtain ⟨i,m',H',hI,st',ap',k',p',hle,hn⟩:=z
 cases hx:xs[i]? with
 | none =>
  have hi:i = xs.length:=Nat.le_antisymm hle (by simpa using hx)
  subst hi
  refine itr.done C.env C.X F m' H' s' _ _ st' ap' (hsrc _ _ _ hI) k' fun s₃ st₃ p₃ _=> ?_
  exact wpAny_execs_nil ⟨.next,m',H',rfl,st₃,p'.trans p₃,fin m' H' hI⟩
 | some x =>
  have hlt:i < xs.length:=(List.getElem?_eq_some_iff.mp hx).1
  refine itr.item C.env C.X i x F m' H' s' _ _ _ hx st' ap' (hsrc _ _ _ hI) k' (fun v s₁ h=> h) fun v s₃ iv k₃ st₃ p₃ _=> ?_
  have st₃':=(St.freeze st₃ ap').wX (fun _ e s'=> notedBy C.M C.A C.env (fun e s'=> cameBackBy C.M C.A C.env (C.X F) e s') e s')
  have th:∀ b ∈ wr,∃ o,s₃.heap.get? b = some o:=itr.there _ _ k₃
  refine andThen (turn _ i x m' H' hx hI _ s₃ [v] st₃' (.cons iv .nil)) fun _ s₄ _ m₄ H₄ _ st₄ p₄ h₄=> ?_
  refine andThen (h₄ _ s₄ [] st₄ rfl) fun f s₅ fl m₅ H₅ i₅ st₅ p₅ h₅=> ?_
  obtain ⟨st₅',ap₅,same⟩:=St.thaw st.base st.bl ap.old th (St.ofX st.ok st₅)
  have pp:=p'.trans (p₃.trans (p₄.trans p₅))
  cases fl with
  | next=> cases i₅;exact ⟨n - 1,by lia,i + 1,m₅,H₅,h₅,st₅',ap₅,itr.keep _ _ _ k₃ same (p₄.trans p₅),pp,hlt,by lia⟩
  | cont=> cases i₅;exact ⟨n - 1,by lia,i + 1,m₅,H₅,h₅,st₅',ap₅,itr.keep _ _ _ k₃ same (p₄.trans p₅),pp,hlt,by lia⟩
  | brk=> cases i₅;exact ⟨.next,m₅,H₅,rfl,st₅',pp,h₅⟩
  | ret v=> obtain ⟨x,rfl,ix⟩:=i₅;exact ⟨.ret v,m₅,H₅,⟨x,rfl,ix⟩,st₅',pp,h₅⟩
end
end Mine
end
section
namespace Mine
section
variable {prog:Program} {w:World} {A:Around} {E:Value → Shared → Prop} {s:Shared}
theorem zFd {target:Expr} {r:Addr} {v:Value} {Q:Unit → Shared → Prop} {o:Obj} {T:String} (ho:s.heap.get? r = some o) (hc:o.cls = .type T)
    (hT:["enumerate","zip","dict_itemiterator","dict_reverseitemiterator","odict_iterator","itertools.zip_longest","itertools.pairwise"].contains T = false) (hQ:Q () s) :
    wpAny (model prog w) A (letOwnedTupleGo target (.ref r) v) Q E s:=by
 have go:∀ a,wpAny (model prog w) A (load r >>= fun o=> match o.cls,o.data with
     | .type n,.fields vs =>
      if ["enumerate","zip","dict_itemiterator","dict_reverseitemiterator","odict_iterator","itertools.zip_longest","itertools.pairwise"].contains n && vs[0]? == some (rawInt a) then
       rule "for.unpacks-the-owned-tuple" >>= fun _=> updateField r 0 .none
      else pure ()
     | _,_=> pure ()) Q E s:=fun a=> by
  refine wpAny_bind (wpAny_load ho ?_)
  obtain ⟨c,dd,dt,sl⟩:=o
  cases hc
  cases dt with
  | fields vs =>
   show wpAny _ _ (if _ then _ else _) _ _ _
   rw [if_neg (by rw [hT,Bool.false_and];exact Bool.false_ne_true)]
   exact wpAny_pure hQ
  | _=> exact wpAny_pure hQ
 cases target with
 | Tuple a b c=> cases v with
  | ref x=> exact go x
  | _=> exact wpAny_pure hQ
 | List a b=> cases v with
  | ref x=> exact go x
  | _=> exact wpAny_pure hQ
 | _=> exact wpAny_pure hQ
end
section
variable {C:Cx} {F:Addr → Option Obj} {m:Loc} {H:AH} {s:Shared}
theorem St.but (st:St C F m H s) {h':Heap} {tk:Nat} {wr:List Addr} (ap:Apart C F H wr) (nt:∀ b ∈ wr,∀ xs,¬ C.ban b → ¬ s.heap.IsTuple b xs)
    (same:∀ b o,b ∉ wr → s.heap.get? b = some o → h'.get? b = some o):St C F m H { s with heap:=h',toks:=tk } ∧ Pres C.ban s.heap h':=by
 have p:Pres C.ban s.heap h':=fun b xs nb t=> by
  have hb:b ∉ wr:=fun hb=> nt b hb xs nb t
  obtain ⟨o,ho,r⟩:=t
  exact ⟨o,same b o hb ho,r⟩
 refine ⟨⟨st.ok,st.gens,st.os,st.base,fun b o e=> same b o (fun hb=> ?_) (st.raw b o e),st.bl,st.fr.move (fun o e=> same _ o (fun hb=> ap.own _ hb (.head _)) e) p,fun q hq=> (st.objs q hq).move (fun b hb ob e=> same b ob (fun h=> ap.own b h (.tail _ (zBh hq hb))) e) p,st.nodup,st.fresh,fun q hq=> ⟨(st.ups q hq).1.move (fun o e=> same _ o (fun hb=> (ap.old _ hb).2 _ hq) e) p,(st.ups q hq).2⟩⟩,p⟩
 exact nn2 ((ap.old b hb).1) e
theorem St.newApart (st:St C F m H s) {b:Addr} (hb:s.heap.get? b = none):b ∉ C.L :: zA3 H ∧ OldA C F b:=by
 refine ⟨fun hm=> ?_,?_,fun u hu=> ?_⟩
 ·obtain ⟨o,ho,_⟩:=st.there hm
  exact nn2 hb ho
 ·cases q:F b with
  | none=> rfl
  | some o=> exact nn3 (st.raw b o q) hb
 ·obtain ⟨o,ho,_⟩:=st.upThere hu
  exact nn2 hb ho
theorem St.newApart1 (st:St C F m H s):Apart C F H [s.heap.objs.size]:=by
 have:=st.newApart (zAa (Nat.le_refl _))
 exact ⟨fun b hb=> by rw [List.mem_singleton.mp hb];exact this.1,fun b hb=> by rw [List.mem_singleton.mp hb];exact this.2⟩
theorem zTl {target:Expr} {a it:Addr} {xs:List V}:Itr C target it [it] (fun H=> (a,AObj.list xs) ∈ H) (fun i h=> h.IsListIter it a i) xs where
 there:=fun i h k b hb=> by
  rw [List.mem_singleton.mp hb]
  refine bc fun nn=> ?_
  obtain ⟨o,ho,_⟩:=k
  refine nn ?_
  exact ⟨o,ho⟩
 keep:=fun i h h' k same _=> by
  refine bc fun nn=> ?_
  obtain ⟨o,ho,r⟩:=k
  refine nn ?_
  exact ⟨o,same it (.head _) o ho,r⟩
 item:=fun env X i x F m H s Q E P hx st ap hs k hP hQ=> by
  refine bc fun nn=> ?_
  obtain ⟨ys,hl,il⟩:=st.objs _ hs
  obtain ⟨v,hv,iv⟩:=il.get hx
  obtain ⟨o,ho,hc,_⟩:=id k
  refine nn ?_
  refine wpAny_pyNext_list_item k hl.isList (x:=v) (by rw [← Array.getElem?_toList];exact hv) fun h' k' sb=> hP _ _ ?_
  have same:∀ b o,b ∉ [it] → s.heap.get? b = some o → h'.get? b = some o:=fun b o hb e=> (sb.2 b (by simpa using hb)).trans e
  have zz:=st.but (h':=h') (tk:=s.toks) ap (fun b hb xs nb ⟨o',e,c,_⟩=> by rw [List.mem_singleton.mp hb,ho] at e;cases e;rw [hc] at c;injection c with c;revert c;decide) same
  have st':=zz.1
  have p:=zz.2
  refine bc fun nn=> ?_
  obtain ⟨o',ho',hc',_⟩:=id k'
  refine nn ?_
  exact zFd (T:="list_iterator") ho' hc' (by decide) (hQ v _ (iv.mono p) k' st' p same)
 done:=fun env X F m H s Q E st ap hs k hQ=> by
  refine bc fun nn=> ?_
  obtain ⟨ys,hl,il⟩:=st.objs _ hs
  obtain ⟨o,ho,hc,_⟩:=id k
  refine nn ?_
  refine wpAny_pyNext_list_end st.ok.hh k hl.isList (by rw [il.length];simp) fun h' sb=> ?_
  have same:∀ b o,b ∉ [it] → s.heap.get? b = some o → h'.get? b = some o:=fun b o hb e=> sb b o (by simpa using hb) e
  have zz:=st.but (h':=h') (tk:=s.toks) ap (fun b hb xs nb ⟨o',e,c,_⟩=> by rw [List.mem_singleton.mp hb,ho] at e;cases e;rw [hc] at c;injection c with c;revert c;decide) same
  have st':=zz.1
  have p:=zz.2
  exact hQ _ st' p same
 self:=fun i s Q E k hQ=> wpAny_pyIter_listiter k hQ
theorem zD0 {target:Expr} {a:Addr} {xs:List V} (hm:(a,AObj.list xs) ∈ H):Walk C target H (.ref a) (fun H=> (a,AObj.list xs) ∈ H) xs H:=by
 intro F m s x Q E st i h
 cases i
 obtain ⟨ys,hl,il⟩:=st.objs _ hm
 refine wpAny_pyIter_list hl.isList (h _ [s.heap.objs.size] _ _ zTl (st.keeps (tk:=s.toks) fun b o e=> Heap.get?_push_of_some _ e) st.newApart1 ⟨_,Heap.get?_push_size _ rfl,rfl,rfl⟩ (Pres.keeps fun b o e=> Heap.get?_push_of_some _ e))
theorem zW4 {target:Expr} {it t:Addr} {xs:List V}:Itr C target it [it] (fun _=> True) (fun i h=> h.IsTupleIter it t i ∧ Is C.ban h (.tup xs) (.ref t)) xs where
 there:=fun i h k b hb=> by
  rw [List.mem_singleton.mp hb]
  refine bc fun nn=> ?_
  obtain ⟨⟨o,ho,_⟩,_⟩:=k
  refine nn ?_
  exact ⟨o,ho⟩
 keep:=fun i h h' k same p=> by
  refine bc fun nn=> ?_
  obtain ⟨⟨o,ho,r⟩,i⟩:=k
  refine nn ?_
  exact ⟨⟨o,same it (.head _) o ho,r⟩,i.mono p⟩
 item:=fun env X i x F m H s Q E P hx st ap hs k hP hQ=> by
  refine bc fun nn=> ?_
  obtain ⟨k,it'⟩:=k
  obtain ⟨a,ys,e,⟨ht,nb⟩,il⟩:=id it'
  refine nn ?_
  cases e
  refine bc fun nn=> ?_
  obtain ⟨v,hv,iv⟩:=il.get hx
  obtain ⟨o,ho,hc,_⟩:=id k
  refine nn ?_
  refine wpAny_pyNext_tuple_item k ht (x:=v) (by rw [← Array.getElem?_toList];exact hv) fun h' k' sb=> hP _ _ ?_
  have same:∀ b o,b ∉ [it] → s.heap.get? b = some o → h'.get? b = some o:=fun b o hb e=> (sb.2 b (by simpa using hb)).trans e
  have zz:=st.but (h':=h') (tk:=s.toks) ap (fun b hb xs nb ⟨o',e,c,_⟩=> by rw [List.mem_singleton.mp hb,ho] at e;cases e;rw [hc] at c;injection c with c;revert c;decide) same
  have st':=zz.1
  have p:=zz.2
  refine bc fun nn=> ?_
  obtain ⟨o',ho',hc',_⟩:=id k'
  refine nn ?_
  exact zFd (T:="tuple_iterator") ho' hc' (by decide) (hQ v _ (iv.mono p) ⟨k',Is.mono p it'⟩ st' p same)
 done:=fun env X F m H s Q E st ap hs k hQ=> by
  refine bc fun nn=> ?_
  obtain ⟨k,it'⟩:=k
  obtain ⟨a,ys,e,⟨ht,nb⟩,il⟩:=id it'
  refine nn ?_
  cases e
  refine bc fun nn=> ?_
  obtain ⟨o,ho,hc,_⟩:=id k
  refine nn ?_
  refine wpAny_pyNext_tuple_end st.ok.hh k ht (by rw [il.length];simp) fun h' sb=> ?_
  have same:∀ b o,b ∉ [it] → s.heap.get? b = some o → h'.get? b = some o:=fun b o hb e=> sb b o (by simpa using hb) e
  have zz:=st.but (h':=h') (tk:=s.toks) ap (fun b hb xs nb ⟨o',e,c,_⟩=> by rw [List.mem_singleton.mp hb,ho] at e;cases e;rw [hc] at c;injection c with c;revert c;decide) same
  have st':=zz.1
  have p:=zz.2
  exact hQ _ st' p same
 self:=fun i s Q E k hQ=> wpAny_pyIter_tupleiter k.1 hQ
theorem zBg {target:Expr} {xs:List V}:Walk C target H (.tup xs) (fun _=> True) xs H:=by
 intro F m s x Q E st i h
 obtain ⟨t,ys,rfl,⟨ht,nb⟩,il⟩:=id i
 have k:∀ b o,s.heap.get? b = some o → (s.heap.push { cls:=.type "tuple_iterator",data:=.fields #[.ref t,.int 0 0] }).get? b = some o:=fun b o e=> Heap.get?_push_of_some _ e
 refine wpAny_pyIter_tuple ht (h _ [s.heap.objs.size] _ _ (zW4 (t:=t)) (st.keeps (tk:=s.toks) k) st.newApart1 ⟨⟨_,Heap.get?_push_size _ rfl,rfl,rfl⟩,i.mono (Pres.keeps k)⟩ (Pres.keeps k))
theorem zRi {target:Expr} {it:Addr} {n:Nat}:Itr C target it [it] (fun _=> True) (fun i h=> IsRangeIter h it (i:Int) ((n:Int) - i) 1) ((List.range n).map fun k:Nat=> V.int k) where
 there:=fun i h k b hb=> by
  rw [List.mem_singleton.mp hb]
  exact ⟨_,k⟩
 keep:=fun i h h' k same p=> same it (.head _) _ k
 item:=fun env X i x F m H s Q E P hx st ap hs k hP hQ=> by
  have hi:i < n:=by
   have:=(List.getElem?_eq_some_iff.mp hx).1
   simpa using this
  have hxi:x = .int i:=by
   rw [List.getElem?_map,List.getElem?_range hi] at hx
   simpa using hx.symm
  subst hxi
  refine wpAny_pyNext_range_item k (by lia) fun h' k' sb=> hP _ _ ?_
  have same:∀ b o,b ∉ [it] → s.heap.get? b = some o → h'.get? b = some o:=fun b o hb e=> (sb.2 b (by simpa using hb)).trans e
  have zz:=st.but (h':=h') (tk:=s.toks + 1) ap (fun b hb xs nb ⟨o',e,c,_⟩=> by rw [List.mem_singleton.mp hb,k] at e;cases e;revert c;simp) same
  have st':=zz.1
  have p:=zz.2
  have k2:IsRangeIter h' it ((i + 1:Nat):Int) ((n:Int) - (i + 1:Nat)) 1:=by
   have e1:((i + 1:Nat):Int) = (i:Int) + 1:=by lia
   have e2:((n:Int) - (i + 1:Nat)) = (n:Int) - i - 1:=by lia
   rw [e1] ;rw [← e2] at k';exact k'
  exact zFd (T:="range_iterator") k' rfl (by decide) (hQ _ _ zCn k2 st' p same)
 done:=fun env X F m H s Q E st ap hs k hQ=> by
  rw [List.length_map,List.length_range] at k
  refine wpAny_pyNext_range_end st.ok.hh k (by lia) fun h' sb=> ?_
  have same:∀ b o,b ∉ [it] → s.heap.get? b = some o → h'.get? b = some o:=fun b o hb e=> sb b o (by simpa using hb) e
  have zz:=st.but (h':=h') (tk:=s.toks) ap (fun b hb xs nb ⟨o',e,c,_⟩=> by rw [List.mem_singleton.mp hb,k] at e;cases e;revert c;simp) same
  have st':=zz.1
  have p:=zz.2
  exact hQ _ st' p same
 self:=fun i s Q E k hQ=> wpAny_pyIter_rangeiter k hQ
theorem zNf {n:Int} (h0:0 ≤ n) (hn:n ≤ 1000000):Builtin.Range.small 0 n 1 = true ∧ Builtin.Range.rangeSize 0 n 1 = n:=by
 have e:Builtin.Range.rangeSize 0 n 1 = n:=by
  unfold Builtin.Range.rangeSize
  rw [if_pos (by decide)]
  split
  ·simp
  ·lia
 refine ⟨?_,e⟩
 unfold Builtin.Range.small
 rw [e]
 simp [Builtin.Range.rangeFitsLong]
 lia
theorem zCc {target:Expr} {a:Addr} {n:Nat} (hm:(a,AObj.rng n) ∈ H) (hn:n ≤ 1000000):Walk C target H (.ref a) (fun _=> True) ((List.range n).map fun k:Nat=> V.int k) H:=by
 intro F m s x Q E st i h
 cases i
 obtain ⟨t,u,v,e⟩:=st.objs _ hm
 obtain ⟨h1,h2⟩:=zNf (n:=(n:Int)) (by exact omz) (by lia)
 have k:∀ b o,s.heap.get? b = some o → (s.heap.push { cls:=.type "range_iterator",data:=.fields #[rawInt 0,rawInt (Builtin.Range.rangeSize 0 n 1),rawInt 1] }).get? b = some o:=fun b o e=> Heap.get?_push_of_some _ e
 refine wpAny_pyIter_range e h1 (h _ [s.heap.objs.size] _ _ (zRi (n:=n)) (st.keeps (tk:=s.toks) k) st.newApart1 ?_ (Pres.keeps k))
 have q:(s.heap.push { cls:=.type "range_iterator",data:=.fields #[rawInt 0,rawInt (Builtin.Range.rangeSize 0 n 1),rawInt 1] }).get? s.heap.objs.size = some { cls:=.type "range_iterator",data:=.fields #[rawInt 0,rawInt (Builtin.Range.rangeSize 0 n 1),rawInt 1] }:=Heap.get?_push_size _ rfl
 show Heap.get? _ _ = _
 rw [q,h2]
 exact rfl
end
end Mine
end
section
namespace Mine
section
variable {C:Cx} {F:Addr → Option Obj} {m:Loc} {H:AH} {s:Shared}
noncomputable def signs (x:Str):List V:=x.cps.toList.map fun c=> V.str ⟨#[c]⟩
theorem zW5 {target:Expr} {it:Addr} {x:Str} {t:Tok}:Itr C target it [it] (fun _=> True) (fun i h=> h.IsStrIter it "str_ascii_iterator" x t i) (signs x) where
 there:=fun i h k b hb=> by
  rw [List.mem_singleton.mp hb]
  refine bc fun nn=> ?_
  obtain ⟨o,ho,_⟩:=k
  refine nn ?_
  exact ⟨o,ho⟩
 keep:=fun i h h' k same p=> by
  refine bc fun nn=> ?_
  obtain ⟨o,ho,r⟩:=k
  refine nn ?_
  exact ⟨o,same it (.head _) o ho,r⟩
 item:=fun env X i y F m H s Q E P hx st ap hs k hP hQ=> by
  refine bc fun nn=> ?_
  obtain ⟨o,ho,hc,_⟩:=id k
  obtain ⟨c,hc',rfl⟩:∃ c,x.cps[i]? = some c ∧ y = .str ⟨#[c]⟩:=by
   unfold signs at hx
   rw [List.getElem?_map,Option.map_eq_some_iff] at hx
   obtain ⟨c,h1,h2⟩:=hx
   exact ⟨c,by rw [← Array.getElem?_toList];exact h1,h2.symm⟩
  refine nn ?_
  refine wpAny_pyNext_ascii_item k hc' fun h' k' sb=> hP _ _ ?_
  have same:∀ b o,b ∉ [it] → s.heap.get? b = some o → h'.get? b = some o:=fun b o hb e=> sb.extBut b o (fun h=> hb (by simp [h])) e
  have zz:=st.but (h':=h') (tk:=s.toks + 1) ap (fun b hb xs nb ⟨o',e,c,_⟩=> by rw [List.mem_singleton.mp hb,ho] at e;cases e;rw [hc] at c;injection c with c;revert c;decide) same
  have st':=zz.1
  have p:=zz.2
  refine bc fun nn=> ?_
  obtain ⟨o',ho',hc',_⟩:=id k'
  refine nn ?_
  exact zFd (T:="str_ascii_iterator") ho' hc' (by decide) (hQ _ _ zEw k' st' p same)
 done:=fun env X F m H s Q E st ap hs k hQ=> by
  refine bc fun nn=> ?_
  obtain ⟨o,ho,hc,_⟩:=id k
  refine nn ?_
  have hl:(signs x).length = x.cps.size:=by simp [signs]
  rw [hl] at k
  refine wpAny_pyNext_ascii_end st.ok.hh k (by simp) fun h' sb=> ?_
  have same:∀ b o,b ∉ [it] → s.heap.get? b = some o → h'.get? b = some o:=fun b o hb e=> sb b o (by simpa using hb) e
  have zz:=st.but (h':=h') (tk:=s.toks) ap (fun b hb xs nb ⟨o',e,c,_⟩=> by rw [List.mem_singleton.mp hb,ho] at e;cases e;rw [hc] at c;injection c with c;revert c;decide) same
  have st':=zz.1
  have p:=zz.2
  exact hQ _ st' p same
 self:=fun i s Q E k hQ=> wpAny_pyIter_striter_ascii k hQ
theorem zNz {target:Expr} {x:Str} (ha:x.cps.all (· < 128) = true):Walk C target H (.str x) (fun _=> True) (signs x) H:=by
 intro F m s y Q E st i h
 obtain ⟨t,rfl⟩:=i
 exact wpAny_pyIter_ascii ha (h _ [s.heap.objs.size] _ _ (zW5 (t:=t)) (st.keeps (tk:=s.toks) fun b o e=> Heap.get?_push_of_some _ e) st.newApart1 ⟨_,Heap.get?_push_size _ rfl,rfl,rfl⟩ (Pres.keeps fun b o e=> Heap.get?_push_of_some _ e))
noncomputable def enumd (xs:List V):List V:=xs.zipIdx.map fun p=> V.tup [.int p.2,p.1]
theorem zHt {xs:List V} {i:Nat} {x:V} (h:(enumd xs)[i]? = some x):∃ y,xs[i]? = some y ∧ x = .tup [.int i,y]:=by
 unfold enumd at h
 rw [List.getElem?_map,Option.map_eq_some_iff] at h
 refine bc fun nn=> ?_
 obtain ⟨⟨y,k⟩,h1,h2⟩:=h
 refine nn ?_
 rw [List.getElem?_zipIdx] at h1
 cases q:xs[i]? with
 | none=> rw [q] at h1;cases h1
 | some z =>
  rw [q] at h1
  simp only [Option.map_some,Option.some.injEq,Prod.mk.injEq] at h1
  refine bc fun nn=> ?_
  obtain ⟨rfl,rfl⟩:=h1
  refine nn ?_
  exact ⟨z,rfl,by rw [← h2];simp⟩
theorem zEa (xs:List V):(enumd xs).length = xs.length:=by simp [enumd]
theorem zNu {h:Heap} {e it:Addr} {i:Int} {old:Value} (k:IsEnum h e it i old):∀ xs,¬ h.IsTuple e xs:=fun xs ⟨o,e',c,_⟩=> by
 rw [k] at e';cases e';revert c;simp
theorem zUh {h:Heap} {it l:Addr} {i:Nat} (k:h.IsListIter it l i):∀ xs,¬ h.IsTuple it xs:=fun xs ⟨o',e,c,_⟩=> by
 obtain ⟨o,ho,hc,_⟩:=k
 rw [ho] at e;cases e;rw [hc] at c;injection c with c;revert c;decide
theorem zRj {elts:List Expr} {x1} {pos:Pos} {e it a:Addr} {xs:List V} (hne:e ≠ it):Itr C (.Tuple elts x1 pos) e [e,it] (fun H=> (a,AObj.list xs) ∈ H)
    (fun i h=> (∃ old,IsEnum h e it i old) ∧ h.IsListIter it a i) (enumd xs) where
 there:=fun i h k b hb=> by
  refine bc fun nn=> ?_
  obtain ⟨⟨old,k⟩,o,ho,_⟩:=k
  refine nn ?_
  rcases List.mem_cons.mp hb with rfl | hb
  ·exact ⟨_,k⟩
  ·rw [List.mem_singleton.mp hb];exact ⟨o,ho⟩
 keep:=fun i h h' k same _=> by
  refine bc fun nn=> ?_
  obtain ⟨⟨old,k⟩,o,ho,r⟩:=k
  refine nn ?_
  exact ⟨⟨old,same e (.head _) _ k⟩,o,same it (.tail _ (.head _)) o ho,r⟩
 item:=fun env X i x F m H s Q E P hx st ap hs k hP hQ=> by
  refine bc fun nn=> ?_
  obtain ⟨⟨old,k⟩,ki⟩:=k
  obtain ⟨ys,hl,il⟩:=st.objs _ hs
  obtain ⟨y,hy,rfl⟩:=zHt hx
  obtain ⟨v,hv,iv⟩:=il.get hy
  refine nn ?_
  refine wpAny_pyNext_enum_item k ki hl.isList (x:=v) (by rw [← Array.getElem?_toList];exact hv) hne fun h₁ ko k₁ ht hz kp=> hP _ _ ?_
  refine wpAny_letOwnedTupleGo_enum ko fun h₂ k₂ sb=> ?_
  have es:e < s.heap.objs.size:=Heap.lt_size k
  have same:∀ b o,b ∉ [e,it] → s.heap.get? b = some o → h₂.get? b = some o:=fun b o hb e'=> by
   simp only [List.mem_cons,List.not_mem_nil,or_false,not_or] at hb
   exact (sb.2 b hb.1).trans (kp b o hb.1 hb.2 e')
  refine bc fun nn=> ?_
  obtain ⟨st',p⟩:=st.but (h':=h₂) (tk:=s.toks + 1) ap (fun b hb xs nb=> by
   rcases List.mem_cons.mp hb with rfl | hb
   ·exact zNu k xs
   ·rw [List.mem_singleton.mp hb];exact zUh ki xs) same
  refine nn ?_
  have ht₂:h₂.get? s.heap.objs.size = some { cls:=.type "tuple",data:=.seq #[.int i s.toks,v] }:=(sb.2 _ (Nat.ne_of_gt es)).trans ht
  refine hQ _ _ ?_ ⟨⟨_,by exact k₂⟩,?_⟩ st' p same
  ·exact ⟨_,_,rfl,⟨⟨_,ht₂,rfl,_,rfl⟩,st.newOk⟩,.cons zCn (.cons (iv.mono p) .nil)⟩
  ·refine bc fun nn=> ?_
   obtain ⟨o,ho,r⟩:=k₁
   refine nn ?_
   exact ⟨o,(sb.2 it (Ne.symm hne)).trans ho,r⟩
 done:=fun env X F m H s Q E st ap hs k hQ=> by
  refine bc fun nn=> ?_
  obtain ⟨⟨old,k⟩,ki⟩:=k
  rw [zEa] at k ki
  obtain ⟨ys,hl,il⟩:=st.objs _ hs
  refine nn ?_
  refine wpAny_pyNext_enum_end st.ok.hh k ki hl.isList (by rw [il.length];simp) fun h' sb=> ?_
  have same:∀ b o,b ∉ [e,it] → s.heap.get? b = some o → h'.get? b = some o:=fun b o hb e'=> by
   simp only [List.mem_cons,List.not_mem_nil,or_false,not_or] at hb
   exact sb b o hb.2 e'
  refine bc fun nn=> ?_
  obtain ⟨st',p⟩:=st.but (h':=h') (tk:=s.toks) ap (fun b hb xs nb=> by
   rcases List.mem_cons.mp hb with rfl | hb
   ·exact zNu k xs
   ·rw [List.mem_singleton.mp hb];exact zUh ki xs) same
  refine nn ?_
  exact hQ _ st' p same
 self:=fun i s Q E k hQ=> by
  refine bc fun nn=> ?_
  obtain ⟨⟨old,k⟩,ki⟩:=k
  refine nn ?_
  exact wpAny_pyIter_enum k hQ
theorem St.drop2 {p:Addr × AObj} (st:St C F m (p :: H) s):St C F m H s ∧ Apart C F H (p.2.own p.1):=by
 have nd:=st.nodup
 rw [zAt,List.nodup_cons,List.nodup_append] at nd
 refine ⟨st.weak ⟨[p],List.perm_append_comm (l₁:=[p])⟩,fun b hb hm=> ?_,fun b hb=> ⟨st.fresh b (.tail _ (by rw [zAt];exact List.mem_append_left _ hb)),fun u hu=> (st.ups _ hu).2.2 (.tail _ (by rw [zAt];exact List.mem_append_left _ hb))⟩⟩
 rcases List.mem_cons.mp hm with e | hm
 ·exact nd.1 (e ▸ List.mem_append_left _ hb)
 ·exact nd.2.2.2 b hb b hm rfl
theorem zJ4 {elts:List Expr} {x1} {pos:Pos} {e it a:Addr} {xs:List V}:Walk C (.Tuple elts x1 pos) ((e,.enumL it a) :: H) (.ref e) (fun H=> (a,AObj.list xs) ∈ H) (enumd xs) H:=by
 intro F m s x Q E st i h
 cases i
 have nd:=st.nodup
 obtain ⟨k,ki⟩:=st.objs _ (.head _)
 have hne:e ≠ it:=by
  intro q
  subst q
  obtain ⟨o,ho,hc,_⟩:=ki
  rw [k] at ho;cases ho;revert hc;simp
 have zz:=st.drop2
 have st':=zz.1
 have ap:=zz.2
 exact wpAny_pyIter_enum k (h _ _ _ _ (zRj hne) st' ap ⟨⟨_,k⟩,ki⟩ (Pres.refl _))
theorem zJ7 {a:Addr} {xs:List V} {Q} (hm:(a,AObj.list xs) ∈ H) (q:∀ e it,Q (.ref e) m ((e,.enumL it a) :: H)):Call C m H (.con (.type "enumerate")) [.ref a] Q:=by
 intro F s vs st i
 refine IsL.el i fun f l hf i=> ?_
 refine zBf i fun v iv=> ?_
 cases hf;cases iv
 obtain ⟨ys,hl,il⟩:=st.objs _ hm
 refine call_enumerate_list hl.isList fun h' k ki hz kp=> ?_
 refine ⟨_,m,(s.heap.objs.size + 1,.enumL s.heap.objs.size a) :: H,zB3,?_,Pres.keeps kp,q _ _⟩
 have y:=st.keeps (h':=h') (tk:=s.toks) kp
 have n0:=st.newApart (b:=s.heap.objs.size) (zAa (Nat.le_refl _))
 have n1:=st.newApart (b:=s.heap.objs.size + 1) (zAa (Nat.le_succ _))
 refine ⟨y.ok,y.gens,y.os,y.base,y.raw,y.bl,y.fr,fun p hp=> ?_,?_,fun b hb=> ?_,st.upsNew kp fun b hb=> ?_⟩
 ·rcases List.mem_cons.mp hp with rfl | hp
  ·exact ⟨k,ki⟩
  ·exact y.objs p hp
 ·rw [zAt]
  have e:(s.heap.objs.size + 1,AObj.enumL s.heap.objs.size a).2.own (s.heap.objs.size + 1,AObj.enumL s.heap.objs.size a).1 = [s.heap.objs.size + 1,s.heap.objs.size]:=rfl
  rw [e]
  have nd:=List.nodup_cons.mp st.nodup
  have m0:¬ (_ ∨ _):=fun h=> n0.1 (List.mem_cons.mpr h)
  have m1:¬ (_ ∨ _):=fun h=> n1.1 (List.mem_cons.mpr h)
  refine List.nodup_cons.mpr ⟨fun hm=> ?_,List.nodup_cons.mpr ⟨fun hm=> ?_,List.nodup_cons.mpr ⟨fun hm=> m0 (.inr hm),nd.2⟩⟩⟩
  ·rcases List.mem_cons.mp hm with q | hm
   ·exact m1 (.inl q.symm)
   ·rcases List.mem_cons.mp hm with q | hm
    ·exact m0 (.inl q.symm)
    ·exact nd.1 hm
  ·rcases List.mem_cons.mp hm with q | hm
   ·exact absurd q (Nat.succ_ne_self _)
   ·exact m1 (.inr hm)
 ·rw [zAt] at hb
  rcases List.mem_cons.mp hb with rfl | hb
  ·exact st.fresh _ (.head _)
  ·rcases List.mem_cons.mp hb with rfl | hb
   ·exact n1.2.1
   ·rcases List.mem_cons.mp hb with rfl | hb
    ·exact n0.2.1
    ·exact st.fresh _ (.tail _ hb)
 ·rw [zAt] at hb
  rcases List.mem_cons.mp hb with rfl | hb
  ·exact .inl (.head _)
  ·rcases List.mem_cons.mp hb with rfl | hb
   ·exact .inr (zAa (Nat.le_succ _))
   ·rcases List.mem_cons.mp hb with rfl | hb
    ·exact .inr (zAa (Nat.le_refl _))
    ·exact .inl (.tail _ hb)
end
end Mine
end
section
namespace Mine
section
variable {prog:Program} {w:World} {A:Around} {R:Result → Shared → Prop} {s:Shared}
theorem zR6 {elt target iter:Expr} {ifs:List Expr} {scope:Scope} {pos:Pos} {it acc:Value} {env:Env} (I:Nat → Shared → Prop)
    (turn:∀ n s,I n s → wpAny (model prog w) A (pyNext it) (fun r s₁=> match r with
     | none=> R (.ok .next) s₁
     | some v=> wpAny (model prog w) A (letOwnedTupleGo target it v) (fun _ s₁'=> wpAny (model prog w) A (assign target env v) (fun _ s₂ =>
         wpAny (model prog w) A (forIn ifs true fun c r=> if r = true then do let ok ← isTrue c env (eval c env);pure (ForInStep.yield ok) else pure (ForInStep.yield r)) (fun ok s₃ =>
          if ok = true then wpAny (model prog w) A (eval elt env) (fun x s₄ =>
           wpAny (model prog w) A (call (.builtin "list.append") [acc,x]) (fun _ s₅=> ∃ m,m < n ∧ I m s₅) (notedBy (model prog w) A env fun e s'=> R (.error e) s') s₄) (notedBy (model prog w) A env fun e s'=> R (.error e) s') s₃
          else ∃ m,m < n ∧ I m s₃) (notedBy (model prog w) A env fun e s'=> R (.error e) s') s₂) (notedBy (model prog w) A env fun e s'=> R (.error e) s') s₁') (notedBy (model prog w) A env fun e s'=> R (.error e) s') s₁) (notedBy (model prog w) A env fun e s'=> R (.error e) s') s)
    (n:Nat) (h:I n s) :
    codeAny (model prog w) A (.compLoop (.ListComp elt [⟨target,iter,ifs,0⟩] scope pos) 0 it acc env) R s:=by
 refine codeAny_loop rfl I (fun n s hI=> ?_) n h
 refine wpAny_noted (m:=compTurn (.ListComp elt [⟨target,iter,ifs,0⟩] scope pos) 0 it acc env) ?_
 rw [compTurn_list]
 refine wpAny_bind (wpAny_standAt (wpAny_bind (wpAny_mono (turn n s hI) (fun r s₁ h₁=> ?_) fun _ _ e=> e)))
 cases r with
 | none=> exact wpAny_pure h₁
 | some v =>
  refine wpAny_bind (wpAny_mono h₁ (fun _ s₂ h₂=> wpAny_bind (wpAny_mono h₂ (fun _ s₃ h₃=> wpAny_bind (wpAny_mono h₃ (fun ok s₄ h₄=> ?_) fun _ _ e=> e)) fun _ _ e=> e)) fun _ _ e=> e)
  cases ok with
  | false=> exact wpAny_pure ⟨rfl,h₄⟩
  | true =>
   refine wpAny_bind (wpAny_bind (wpAny_mono h₄ (fun x s₅ h₅=> ?_) fun _ _ e=> e))
   exact wpAny_bind (wpAny_mono h₅ (fun _ s₆ h₆=> wpAny_pure (wpAny_pure ⟨rfl,h₆⟩)) fun _ _ e=> e)
end
section
variable {C:Cx} {F:Addr → Option Obj} {m:Loc} {H:AH} {s:Shared}
noncomputable def TrL (C:Cx) (m:Loc) (H:AH) (ifs:List Expr) (Q:Bool → Loc → AH → Prop):Prop :=
 T C m H [] (fun _=> forIn ifs true fun c r=> if r = true then do let ok ← isTrue c C.env (eval c C.env);pure (ForInStep.yield ok) else pure (ForInStep.yield r)) BIs Q
theorem zMv {Q} (q:Q true m H):TrL C m H [] Q:=fun F s vs st i=> wpAny_tests_nil (fin st rfl q)
theorem zVw {c:Expr} {Q} (h:Tr C m H c Q):TrL C m H [c] Q:=fun F s vs st i=> wpAny_tests_one (h F s [] st rfl)
noncomputable abbrev Cx.inComp (C:Cx) (scope:Scope) (cl:List (Str × Addr)) (L:Addr) (X:(Addr → Option Obj) → Value → Shared → Prop):Cx:={ C with env:=compEnvC scope cl L C.env,X:=X }
theorem Ok.inComp (o:Ok C) {scope:Scope} {cl:List (Str × Addr)} (hk:scope.kind = .function) (L X):Ok (C.inComp scope cl L X) :=
 ⟨o.kin,o.hh,o.dep,o.un,o.lim,o.top,hk,o.kg,o.kb,by show (scope.kind == .module && _) = false;rw [hk];rfl,o.nban,o.file,o.nosup⟩
theorem St.forget (st:St C F m H s):St C F [] H s:=by
 refine ⟨st.ok,st.gens,st.os,st.base,st.raw,st.bl,?_,st.objs,st.nodup,st.fresh,st.ups⟩
 obtain ⟨f,hn,hf⟩:=st.fr
 exact ⟨f,hn,fun x=> trivial⟩
theorem Apart.sub {wr wr':List Addr} (a:Apart C F H wr) (h:∀ b ∈ wr',b ∈ wr):Apart C F H wr':=⟨fun b hb=> a.own b (h b hb),fun b hb=> a.old b (h b hb)⟩
structure StB (C:Cx) (F:Addr → Option Obj) (m:Loc) (H:AH) (s:Shared):Prop where
 ok:Ok C
 gens:s.gens = C.s₀.gens
 os:s.os = C.s₀.os
 base:∀ b o,C.s₀.heap.get? b = some o → F b = some o
 raw:∀ b o,F b = some o → s.heap.get? b = some o
 fr:NsRep C.ban s.heap C.L m
 objs:∀ p ∈ H,RepO C.prog C.w C.ban s.heap p.1 p.2
 nodup:(C.L :: zA3 H).Nodup
 fresh:∀ a ∈ C.L :: zA3 H,F a = none
 ups:∀ p ∈ C.up,NsRep C.ban s.heap p.1 p.2 ∧ F p.1 = none ∧ p.1 ∉ C.L :: zA3 H
theorem St.b (st:St C F m H s):StB C F m H s:=⟨st.ok,st.gens,st.os,st.base,st.raw,st.fr,st.objs,st.nodup,st.fresh,st.ups⟩
theorem StB.st (st:StB C F m H s) (bl:∀ a,C.ban a → ∃ b,a ≤ b ∧ (b = C.L ∨ (∃ o,F b = some o) ∨ ∃ u,(b,u) ∈ C.up)):St C F m H s:=⟨st.ok,st.gens,st.os,st.base,st.raw,bl,st.fr,st.objs,st.nodup,st.fresh,st.ups⟩
theorem StB.there (x:StB C F m H s) {b:Addr} (hb:b ∈ C.L :: zA3 H):∃ ob,s.heap.get? b = some ob ∧ ∀ xs,¬ s.heap.IsTuple b xs:=by
 rcases List.mem_cons.mp hb with rfl | hb
 ·refine bc fun nn=> ?_
  obtain ⟨o,ho,es,n,hd⟩:=x.fr.there
  refine nn ?_
  exact ⟨o,ho,fun xs ⟨o',e,c,n',d⟩=> by rw [ho] at e;cases e;rw [hd] at d;cases d⟩
 ·refine bc fun nn=> ?_
  obtain ⟨p,hp,hb⟩:=List.mem_flatMap.mp hb
  refine nn ?_
  exact (x.objs p hp).notTuple hb
theorem StB.keeps (x:StB C F m H s) {h':Heap} {tk:Nat} (k:∀ b o,s.heap.get? b = some o → h'.get? b = some o):StB C F m H { s with heap:=h',toks:=tk } where
 ok:=x.ok
 gens:=x.gens
 os:=x.os
 base:=x.base
 raw:=fun b o e=> k b o (x.raw b o e)
 fr:=x.fr.move (fun o e=> k _ o e) (Pres.keeps k)
 objs:=fun p hp=> (x.objs p hp).move (fun b _ ob e=> k b ob e) (Pres.keeps k)
 nodup:=x.nodup
 fresh:=x.fresh
 ups:=fun p hp=> ⟨(x.ups p hp).1.move (fun o e=> k _ o e) (Pres.keeps k),(x.ups p hp).2⟩
theorem StB.newApart (st:StB C F m H s) {b:Addr} (hb:s.heap.get? b = none):b ∉ C.L :: zA3 H ∧ OldA C F b:=by
 refine ⟨fun hm=> ?_,?_,fun u hu=> ?_⟩
 ·obtain ⟨o,ho,_⟩:=st.there hm
  exact nn2 hb ho
 ·cases q:F b with
  | none=> rfl
  | some o=> exact nn3 (st.raw b o q) hb
 ·obtain ⟨o,ho,_⟩:=(st.ups _ hu).1.there
  exact nn2 hb ho
theorem St.bls (st:St C F m H s) {a:Addr} (ha:C.ban a):a < s.heap.objs.size:=by
 obtain ⟨b,hb,e⟩:=st.bl _ ha
 have:∃ o,s.heap.get? b = some o:=by
  rcases e with rfl | ⟨o,e⟩ | ⟨u,e⟩
  ·obtain ⟨o,e,_⟩:=st.fr.there
   exact ⟨o,e⟩
  ·exact ⟨o,st.raw _ _ e⟩
  ·obtain ⟨o,e,_⟩:=st.upThere e
   exact ⟨o,e⟩
 obtain ⟨o,e⟩:=this
 exact Nat.lt_of_le_of_lt hb (Heap.lt_size e)
inductive zWn (C:Cx) (scope:Scope) (cl:List (Str × Addr)) (F1:Addr → Option Obj) (L D:Addr) (wr:List Addr) (K:Nat → Heap → Prop) (h:Heap) (z:Nat) (I:Nat → List V → AH → Prop) (n:Nat) (s':Shared):Prop
 | mk (i:Nat) (acc:List V) (m':Loc) (H':AH) (ys:Array Value) (hI:I i acc H') (st:∀ X,St (C.inComp scope cl L X) F1 m' H' s') (ap:∀ X,Apart (C.inComp scope cl L X) F1 H' (D :: wr)) (k:K i s'.heap)
  (hl:s'.heap.PlainList D ys) (il:IsL C.ban s'.heap acc ys.toList) (p:Pres C.ban h s'.heap) (hle:i ≤ z) (ha:acc.length ≤ i) (hn:n = z + 1 - i)
theorem zJ1 {elt target iter:Expr} {ifs:List Expr} {scope:Scope} {cl:List (Str × Addr)} {pos:Pos} {it D L:Addr} {wr:List Addr} {src:AH → Prop} {K:Nat → Heap → Prop} {xs:List V} {h₁:Heap} {tk:Nat} {H₁:AH} {RR:Value → Addr → Result → Shared → Prop}
    (st:StB C F m H s) (hb:∀ a,C.ban a → a ≤ L) (itr:Itr C target it wr src K xs) (ap:Apart C F H₁ wr) (k0:K 0 s.heap) (hlen:xs.length ≤ 16000000) (hkind:scope.kind = .function)
    (old:∀ b o,s.heap.get? b = some o → h₁.get? b = some o) (st1:StB C F m H₁ { s with heap:=h₁,toks:=tk }) (hDn:s.heap.get? D = none) (hLn:s.heap.get? L = none) (hDL:D ≠ L) (nD:D ∉ C.L :: zA3 H₁ ∧ OldA C F D) (nL:L ∉ C.L :: zA3 H₁ ∧ OldA C F L)
    (hns₁:h₁.Ns L fun _=> none) (hacc:h₁.PlainList D #[])
    (I:Nat → List V → AH → Prop) (h0:I 0 [] H₁) (hsrc:∀ i acc H,I i acc H → src H)
    (turn:∀ L X i x acc H,xs[i]? = some x → I i acc H → Asg (C.inComp scope cl L X) [] H target x fun _ m₁ H₁=> TrL (C.inComp scope cl L X) m₁ H₁ ifs fun b m₂ H₂ =>
     (b = true → Ev (C.inComp scope cl L X) m₂ H₂ elt fun v _ H₃=> I (i + 1) (acc ++ [v]) H₃) ∧ (b = false → I (i + 1) acc H₂))
    (fin:∀ s' acc H',I xs.length acc H' → (∃ f,s'.heap.Ns L f) → Apart C F ((D,.list acc) :: H') [L] → (∀ h',Heap.SameBut L s'.heap h' → StB C F m ((D,.list acc) :: H') { s' with heap:=h' } ∧ Pres C.ban s.heap h') → RR (.ref D) L (.ok .next) s') :
    codeAny C.M C.A (.compStart (.ListComp elt [⟨target,iter,ifs,0⟩] scope pos) 0 (.ref it) (.ref D) (compEnvC scope cl L C.env)) (RR (.ref D) L) { s with heap:=h₁,toks:=tk }:=by
 have lt:∀ b o,s.heap.get? b = some o → b ≠ D ∧ b ≠ L:=fun b o e=> ⟨fun q=> (by rw [q,hDn] at e;cases e),fun q=> (by rw [q,hLn] at e;cases e)⟩
 have frL:=st.fr.there
 obtain ⟨oC,hoC,_⟩:=frL
 have hCD:C.L ≠ D:=(lt _ _ hoC).1
 have hCL:C.L ≠ L:=(lt _ _ hoC).2
 have thw:∀ b ∈ wr,b ≠ D ∧ b ≠ L:=fun b hb=> by
  obtain ⟨o,e⟩:=itr.there _ _ k0 b hb
  exact lt b o e
 have p1:Pres C.ban s.heap h₁:=Pres.keeps old
 let env':=compEnvC scope cl L C.env
 let F1:=frz [C.L] s.heap F
 have bs:∀ b o,C.s₀.heap.get? b = some o → F1 b = some o:=fun b o e=> by
  have e':=st.base b o e
  show frz _ _ _ _ = _
  rw [zCy]
  ·exact e'
  ·intro hb
   rw [List.mem_singleton.mp hb,st.fresh _ (.head _)] at e';cases e'
 have F1L:F1 C.L = some oC:=(zNs (.head _)).trans hoC
 have F1ne:∀ b,b ≠ C.L → F1 b = F b:=fun b hb=> zCy (by simpa using hb)
 have bl1:∀ a,C.ban a → ∃ b,a ≤ b ∧ (b = L ∨ (∃ o,F1 b = some o) ∨ ∃ u,(b,u) ∈ C.up):=fun a ha =>
  ⟨L,hb a ha,.inl rfl⟩
 have nd:=List.nodup_cons.mp st1.nodup
 -- the state of the loop
 have stc:∀ X,St (C.inComp scope cl L X) F1 [] H₁ { s with heap:=h₁,toks:=tk }:=fun X =>
  { ok:=st.ok.inComp hkind L X
    gens:=st1.gens
    os:=st1.os
    base:=bs
    raw:=fun b o e=> by
     by_cases q:b = C.L
     ·rw [q,F1L] at e;cases e;rw [q];exact old _ _ hoC
     ·rw [F1ne b q] at e;exact st1.raw b o e
    bl:=bl1
    fr:=⟨_,hns₁,fun x=> trivial⟩
    objs:=st1.objs
    nodup:=List.nodup_cons.mpr ⟨fun hm=> nL.1 (.tail _ hm),nd.2⟩
    fresh:=fun a ha=> by
     have ha:a = L ∨ a ∈ zA3 H₁:=List.mem_cons.mp ha
     rcases ha with rfl | ha
     ·rw [F1ne _ (Ne.symm hCL)];exact nL.2.1
     ·rw [F1ne _ (fun q=> nd.1 (q ▸ ha))];exact st1.fresh a (.tail _ ha)
    ups:=fun p hp=> by
     obtain ⟨u0,u2,_⟩:=st.ups p hp
     obtain ⟨u1,_,u3⟩:=st1.ups p hp
     obtain ⟨o,e,_⟩:=u0.there
     refine ⟨u1,by rw [F1ne _ (fun q=> u3 (q ▸ .head _))];exact u2,fun hm=> ?_⟩
     rcases List.mem_cons.mp hm with q | hm
     ·exact (lt _ _ e).2 q
     ·exact u3 (.tail _ hm) }
 have apc:∀ X,Apart (C.inComp scope cl L X) F1 H₁ (D :: wr):=fun X=> by
  refine ⟨fun b hb hm=> ?_,fun b hb=> ?_⟩
  ·have hm:b = L ∨ b ∈ zA3 H₁:=List.mem_cons.mp hm
   rcases List.mem_cons.mp hb with rfl | hb
   ·rcases hm with q | hm
    ·exact hDL q
    ·exact nD.1 (.tail _ hm)
   ·rcases hm with q | hm
    ·exact (thw b hb).2 q
    ·exact ap.own b hb (.tail _ hm)
  ·rcases List.mem_cons.mp hb with rfl | hb
   ·exact ⟨by rw [F1ne _ (Ne.symm hCD)];exact nD.2.1,nD.2.2⟩
   ·exact ⟨by rw [F1ne _ (fun q=> ap.own b hb (q ▸ .head _))];exact (ap.old b hb).1,(ap.old b hb).2⟩
 have k1:K 0 h₁:=itr.keep _ _ _ k0 (fun b _ o e=> old b o e) p1
 let Inv:Nat → Shared → Prop:=zWn C scope cl F1 L D wr K s.heap xs.length I
 have loop:codeAny C.M C.A (.compLoop (.ListComp elt [⟨target,iter,ifs,0⟩] scope pos) 0 (.ref it) (.ref D) env') (RR (.ref D) L) { s with heap:=h₁,toks:=tk }:=by
  refine zR6 Inv (fun n s' hI=> ?_) (xs.length + 1) ⟨0,[],[],H₁,#[],h0,stc,apc,k1,hacc,rfl,p1,Nat.zero_le _,Nat.le_refl _,rfl⟩
  obtain ⟨i,acc,m',H',ys,hI,st',ap',k',hl',il',p',hle,hacl,hn⟩:=hI
  cases hx:xs[i]? with
  | none =>
   have hi:i = xs.length:=Nat.le_antisymm hle (by simpa using hx)
   subst hi
   refine itr.done env' (C.inComp scope cl L C.X).X F1 m' H' s' _ _ (st' _) ((ap' _).sub fun b hb=> .tail _ hb) (hsrc _ _ _ hI) k' fun s₃ st₃ p₃ same=> ?_
   have hl₃:s₃.heap.PlainList D ys:=by
    obtain ⟨n,e⟩:=hl'
    exact ⟨n,same D _ (fun hb=> (thw D hb).1 rfl) e⟩
   refine fin s₃ acc H' hI ⟨_,st₃.fr.choose_spec.1⟩ ⟨fun b hb hm=> ?_,fun b hb=> by rw [List.mem_singleton.mp hb];exact nL.2⟩ fun h' sb=> ?_
   ·rw [List.mem_singleton.mp hb] at hm
    rcases List.mem_cons.mp hm with q | hm
    ·exact hCL q.symm
    ·rcases List.mem_cons.mp (show L ∈ D :: zA3 H' from hm) with q | hm
     ·exact hDL q.symm
     ·exact (List.nodup_cons.mp st₃.nodup).1 hm
   have kk:∀ b o,b ≠ L → s₃.heap.get? b = some o → h'.get? b = some o:=fun b o hb e=> (sb.2 b hb).trans e
   have pp:Pres C.ban s₃.heap h':=fun a xs nb t=> by
    obtain ⟨o,ho,r⟩:=t
    refine ⟨o,kk a o (fun q=> ?_) ho,r⟩
    obtain ⟨o',e',q'⟩:=st₃.there (b:=L) (.head _)
    exact q' xs ⟨o,q ▸ ho,r⟩
   have nd₃:=List.nodup_cons.mp st₃.nodup
   have ap₃:=ap' C.X
   refine ⟨⟨st.ok,st₃.gens,st₃.os,st.base,fun b o e=> ?_,?_,fun q hq=> ?_,?_,fun a ha=> ?_,fun q hq=> ?_⟩,p'.trans (p₃.trans pp)⟩
   ·have hb:b ≠ C.L:=fun q=> by rw [q,st.fresh _ (.head _)] at e;cases e
    refine kk b o (fun q=> ?_) (st₃.raw b o (by rw [F1ne b hb];exact e))
    rw [q,nL.2.1] at e;cases e
   ·refine st.fr.move (fun o e=> ?_) (p'.trans (p₃.trans pp))
    rw [hoC] at e;cases e
    exact kk _ _ hCL (st₃.raw _ _ F1L)
   ·rcases List.mem_cons.mp hq with rfl | hq
    ·obtain ⟨n,e⟩:=hl₃
     exact ⟨ys,⟨n,kk D _ hDL e⟩,il'.mono (p₃.trans pp)⟩
    ·exact (st₃.objs q hq).move (fun b hb ob e=> kk b ob (fun q'=> nd₃.1 (show L ∈ zA3 H' from q' ▸ zBh hq hb)) e) pp
   ·show (C.L :: (D :: zA3 H')).Nodup
    refine List.nodup_cons.mpr ⟨fun hm=> ?_,List.nodup_cons.mpr ⟨fun hm=> ap₃.own D (.head _) (.tail _ hm),nd₃.2⟩⟩
    rcases List.mem_cons.mp hm with q | hm
    ·exact hCD q
    ·have:=st₃.fresh _ (.tail _ hm)
     exact nn3 F1L this
   ·have ha:a = C.L ∨ a = D ∨ a ∈ zA3 H':=by
      rcases List.mem_cons.mp ha with h | h
      ·exact .inl h
      ·exact .inr (List.mem_cons.mp h)
    rcases ha with rfl | rfl | ha
    ·exact st.fresh _ (.head _)
    ·exact nD.2.1
    ·have:=st₃.fresh a (.tail _ ha)
     by_cases q:a = C.L
     ·rw [q,F1L] at this;cases this
     ·rw [F1ne a q] at this;exact this
   ·obtain ⟨u1,u2,u3⟩:=st.ups q hq
    obtain ⟨v1,v2,v3⟩:=st₃.ups q hq
    obtain ⟨o,e,_⟩:=u1.there
    refine ⟨v1.move (fun o e=> kk _ o (fun z=> v3 (List.mem_cons.mpr (.inl z))) e) pp,u2,fun hm=> ?_⟩
    rcases List.mem_cons.mp hm with z | hm
    ·exact u3 (z ▸ .head _)
    ·rcases List.mem_cons.mp (show q.1 ∈ D :: zA3 H' from hm) with z | hm
     ·exact (lt _ _ e).1 z
     ·exact v3 (.tail _ hm)
  | some x =>
   have hlt:i < xs.length:=(List.getElem?_eq_some_iff.mp hx).1
   let X:(Addr → Option Obj) → Value → Shared → Prop:=fun _ e s'=> notedBy C.M C.A env' (fun e s'=> RR (.ref D) L (.error e) s') e s'
   refine itr.item env' X i x F1 m' H' s' _ _ _ hx (st' X) ((ap' X).sub fun b hb=> .tail _ hb) (hsrc _ _ _ hI) k' (fun v s₁ h=> h) fun v s₃ iv k₃ st₃ p₃ same₃=> ?_
   have th:∀ b ∈ D :: wr,∃ o,s₃.heap.get? b = some o:=fun b hb=> by
    rcases List.mem_cons.mp hb with rfl | hb
    ·obtain ⟨n,e⟩:=hl'
     exact ⟨_,same₃ _ _ (fun hb=> (thw _ hb).1 rfl) e⟩
    ·exact itr.there _ _ k₃ b hb
   have ap₃:Apart (C.inComp scope cl L X) F1 H' (D :: wr):=ap' X
   have hl₃:s₃.heap.PlainList D ys:=by
    obtain ⟨n,e⟩:=hl'
    exact ⟨n,same₃ D _ (fun hb=> (thw D hb).1 rfl) e⟩
   have st₃':=(St.freeze (C:=C.inComp scope cl L X) st₃ ap₃).forget
   refine andThen (turn L X i x acc H' hx hI _ s₃ [v] st₃' (.cons iv .nil)) fun _ s₄ _ m₄ H₄ _ st₄ p₄ h₄=> ?_
   refine andThen (h₄ _ s₄ [] st₄ rfl) fun b s₅ b' m₅ H₅ i₅ st₅ p₅ h₅=> ?_
   cases i₅
   have allX:∀ {m₉ H₉ s₉},St (C.inComp scope cl L X) F1 m₉ H₉ s₉ → ∀ X',St (C.inComp scope cl L X') F1 m₉ H₉ s₉:=fun z X' =>
    ⟨st.ok.inComp hkind L X',z.gens,z.os,z.base,z.raw,z.bl,z.fr,z.objs,z.nodup,z.fresh,z.ups⟩
   cases b with
   | false =>
    simp only [Bool.false_eq_true,if_false]
    obtain ⟨st₅',ap₅,same⟩:=St.thaw (C:=C.inComp scope cl L X) bs bl1 ap₃.old th st₅
    have pp:=p₄.trans p₅
    obtain ⟨n',e'⟩:=hl₃
    exact ⟨n - 1,by lia,i + 1,acc,m₅,H₅,ys,h₅.2 rfl,allX st₅',fun X'=> ⟨ap₅.own,ap₅.old⟩,itr.keep _ _ _ k₃ (fun b hb o e=> same b (.tail _ hb) o e) pp,⟨n',same D (.head _) _ e'⟩,
     il'.mono (p₃.trans pp),p'.trans (p₃.trans pp),hlt,by lia,by lia⟩
   | true =>
    simp only [if_true]
    refine andThen (h₅.1 rfl _ s₅ [] st₅ rfl) fun y s₆ y' m₆ H₆ i₆ st₆ p₆ h₆=> ?_
    obtain ⟨st₆',ap₆,same⟩:=St.thaw (C:=C.inComp scope cl L X) bs bl1 ap₃.old th st₆
    have pp:=p₄.trans (p₅.trans p₆)
    obtain ⟨n',e'⟩:=hl₃
    have hl₆:s₆.heap.PlainList D ys:=⟨n',same D (.head _) _ e'⟩
    have hsz:ys.size ≤ sizeLine:=by
     have:=il'.length
     have e3:ys.size = acc.length:=by rw [this,Array.length_toList]
     rw [sizeLine_eq];lia
    refine wpAny_list_append_plain (hsz:=hsz) hl₆ fun h' hl' sb=> ?_
    obtain ⟨st₇,p₇⟩:=st₆'.but (h':=h') (tk:=s₆.toks) (ap₆.sub (wr':=[D]) fun b hb=> by rw [List.mem_singleton.mp hb];exact .head _) (fun b hb xs nb ⟨o',e,c,_⟩=> by
     obtain ⟨n,hl₆⟩:=hl₆
     rw [List.mem_singleton.mp hb,hl₆] at e;cases e;revert c;simp) (fun b o hb e=> (sb.2 b (by simpa using hb)).trans e)
    refine ⟨n - 1,by lia,i + 1,acc ++ [y'],m₆,H₆,ys.push y,h₆,allX st₇,fun X'=> ⟨ap₆.own,ap₆.old⟩,itr.keep _ _ _ k₃ (fun b hb o e=> ?_) (pp.trans p₇),hl',?_,p'.trans (p₃.trans (pp.trans p₇)),hlt,by simp;assumption,by lia⟩
    ·exact (sb.2 b (fun q=> (thw b hb).1 q)).trans (same b (.tail _ hb) o e)
    ·rw [Array.toList_push]
     exact (il'.mono (p₃.trans (pp.trans p₇))).append (.cons (i₆.mono p₇) .nil)
 exact codeAny_compStart_list loop (itr.self 0 _ _ _ k1 loop)
theorem zHw {elt target iter:Expr} {ifs:List Expr} {scope:Scope} {cl:List (Str × Addr)} {pos:Pos} {it:Addr} {wr:List Addr} {src:AH → Prop} {K:Nat → Heap → Prop} {xs:List V} {RR:Value → Addr → Result → Shared → Prop} {E:Value → Shared → Prop}
    (st:StB C F m H s) (hb:∀ a,C.ban a → a < s.heap.objs.size) (itr:Itr C target it wr src K xs) (ap:Apart C F H wr) (k0:K 0 s.heap) (hlen:xs.length ≤ 16000000)
    (hcell:∀ y ∈ scope.names,y.2 ≠ .cell) (hkind:scope.kind = .function)
    (I:Nat → List V → AH → Prop) (h0:I 0 [] H) (hsrc:∀ i acc H,I i acc H → src H)
    (turn:∀ L X i x acc H,xs[i]? = some x → I i acc H → Asg (C.inComp scope cl L X) [] H target x fun _ m₁ H₁=> TrL (C.inComp scope cl L X) m₁ H₁ ifs fun b m₂ H₂ =>
     (b = true → Ev (C.inComp scope cl L X) m₂ H₂ elt fun v _ H₃=> I (i + 1) (acc ++ [v]) H₃) ∧ (b = false → I (i + 1) acc H₂))
    (fin:∀ D L s' acc H',I xs.length acc H' → (∃ f,s'.heap.Ns L f) → Apart C F ((D,.list acc) :: H') [L] → (∀ h',Heap.SameBut L s'.heap h' → StB C F m ((D,.list acc) :: H') { s' with heap:=h' } ∧ Pres C.ban s.heap h') → RR (.ref D) L (.ok .next) s') :
    wpAny C.M C.A (newList []) (fun acc s₃=> wpAny C.M C.A (newFunctionEnv scope C.env.globals cl [] C.env.qual none .none (some C.env)) (fun cenv s₄ =>
     codeAny C.M C.A (.compStart (.ListComp elt [⟨target,iter,ifs,0⟩] scope pos) 0 (.ref it) acc { cenv with scope:=relabel scope C.env }) (RR acc cenv.locals) s₄) E s₃) E s:=by
 refine wpAny_newObj_type (wpAny_newFunctionEnv hcell (by intro y hy;cases hy) (fun h₁ hns₁ hsb₁=> ?_) hkind)
 dsimp only at hns₁ hsb₁ ⊢
 generalize hH2:s.heap.push { cls:=.type "list",dict:=none,data:=.seq ([]:List Value).toArray } = H2 at hns₁ hsb₁ ⊢
 have hL:H2.objs.size = s.heap.objs.size + 1:=by rw [← hH2,Heap.size_push]
 generalize hD:s.heap.objs.size = D at *
 generalize hLL:H2.objs.size = L at *
 have hDL:D ≠ L:=by rw [hL];exact Nat.ne_of_lt (Nat.lt_succ_self _)
 have old:∀ b o,s.heap.get? b = some o → h₁.get? b = some o:=fun b o e=> by
  have:=Heap.lt_size e
  rw [hD] at this
  exact hsb₁.extBut b o (by rw [hL];exact Nat.ne_of_lt (Nat.lt_succ_of_lt this)) (Heap.get?_push_of_some _ (hH2 ▸ Heap.get?_push_of_some _ e))
 have hacc:h₁.PlainList D #[]:=⟨_,hsb₁.extBut _ _ hDL (Heap.get?_push_of_some _ (hH2 ▸ hD ▸ Heap.get?_push_size _ rfl))⟩
 have hDn:s.heap.get? D = none:=zAa (by rw [hD];exact Nat.le_refl _)
 have hLn:s.heap.get? L = none:=zAa (by rw [hD,hL];exact Nat.le_succ _)
 exact zJ1 st (fun a ha=> Nat.le_of_lt (Nat.lt_of_lt_of_le (hb a ha) (by rw [hL];exact Nat.le_succ _))) itr ap k0 hlen hkind old (st.keeps old) hDn hLn hDL (st.newApart hDn) (st.newApart hLn) hns₁ hacc I h0 hsrc turn fun s'=> fin D L s'
end
end Mine
end
section
namespace Mine
theorem Ns.there' {h:Heap} {L:Addr} {f:Str → Option Value} (x:h.Ns L f):∃ o,h.get? L = some o ∧ (∃ es n,o.data = .dict es n):=by
 refine bc fun nn=> ?_
 obtain ⟨o,es,ep,ho,hd,_⟩:=x
 refine nn ?_
 exact ⟨o,ho,es,ep,hd⟩
section
variable {C:Cx} {F:Addr → Option Obj} {m:Loc} {H:AH} {s:Shared}
inductive CompT (C:Cx) (target:Expr) (ifs:List Expr) (elt:Expr) (scope:Scope) (cl:List (Str × Addr)) (v:V) (H₁:AH) (Q:List V → AH → Prop):Prop
 | mk (xs:List V) (src:AH → Prop) (H₁':AH) (wk:Walk C target H₁ v src xs H₁') (hz:xs.length ≤ 16000000) (I:Nat → List V → AH → Prop) (h0:I 0 [] H₁') (hs:∀ i acc H,I i acc H → src H)
  (turn:∀ L X i x acc H,xs[i]? = some x → I i acc H → Asg (C.inComp scope cl L X) [] H target x fun _ m₁ H₁=> TrL (C.inComp scope cl L X) m₁ H₁ ifs fun b m₂ H₂ =>
   (b = true → Ev (C.inComp scope cl L X) m₂ H₂ elt fun v _ H₃=> I (i + 1) (acc ++ [v]) H₃) ∧ (b = false → I (i + 1) acc H₂))
  (fin:∀ acc H,I xs.length acc H → Q acc H)
@[reducible] noncomputable def zUk (Q:V → Loc → AH → Prop) (m:Loc):List V → AH → Prop:=fun acc H=> ∀ D,Q (.ref D) m ((D,.list acc) :: H)
@[reducible] noncomputable def kComp (C:Cx) (target:Expr) (ifs:List Expr) (elt:Expr) (scope:Scope) (cl:List (Str × Addr)) (Q:V → Loc → AH → Prop):V → Loc → AH → Prop:=fun v m H=> CompT C target ifs elt scope cl v H (zUk Q m)
@[reducible] noncomputable def zVc (C:Cx) (x:Str) (rest:List Stmt) (Q:AFlow → Loc → AH → Prop) (m:Loc):List V → AH → Prop:=fun acc H=> ∀ D,Ex C (put x (.ref D) m) ((D,.list acc) :: H) rest Q
@[reducible] noncomputable def zX5 (C:Cx) (target:Expr) (ifs:List Expr) (elt:Expr) (scope:Scope) (cl:List (Str × Addr)) (x:Str) (rest:List Stmt) (Q:AFlow → Loc → AH → Prop):V → Loc → AH → Prop:=fun v m H=> CompT C target ifs elt scope cl v H (zVc C x rest Q m)
structure ScOk (scope:Scope):Prop where
 cell:∀ y ∈ scope.names,y.2 ≠ .cell
 kind:scope.kind = .function
 names:∀ x ∈ scope.names,x.2 = .local → scope.names.lookup x.1 = some .local
theorem zAe {elt target iter:Expr} {ifs:List Expr} {scope:Scope} {cl:List (Str × Addr)} {pos:Pos} {Q}
    (hclos:closureFor scope C.env = pure cl) (ok:ScOk scope)
    (h:Ev C m H iter (kComp C target ifs elt scope cl Q))
    (hs:∀ x,foldedSetIterable iter C.env x = pure x:=by intro _;rfl):Ev C m H (.ListComp elt [⟨target,iter,ifs,0⟩] scope pos) Q:=by
 intro F s vs st i
 show wpAny C.M C.A (eval _ C.env) _ _ _
 rw [eval_ListComp]
 refine wpAny_comprehension_free (use:=none) rfl hs hclos ok.kind ok.names (andThen (h F s [] st rfl) fun v s₁ a m₁ H₁ i₁ st₁ p₁ h₁=> ?_)
 obtain ⟨xs,src,H₁',wk,hlen,I,h0,hsrc,turn,fin⟩:=h₁
 refine wk F m₁ s₁ v _ _ st₁ i₁ fun it wr K s₂ itr st₂ ap k0 p₂=> ?_
 refine zHw (RR:=fun acc L=> compPost C.M C.A (C.X F) none (Post C F s Is Q) acc L) st₂.b (fun a ha=> st₂.bls ha) itr ap k0 hlen ok.cell ok.kind I h0 hsrc turn fun D L s' acc H' hI hn apL hst=> ?_
 obtain ⟨f,hn⟩:=hn
 refine ⟨f,hn,fun h' sb=> ?_⟩
 have zz:=hst h' sb
 have st':=zz.1
 have p':=zz.2
 have st':=st'.st st.bl
 exact ⟨.ref D,m₁,(D,.list acc) :: H',zB3,st',p₁.trans (p₂.trans p'),fin acc H' hI D⟩
theorem zKe {x:Str} {xp pos spos:Pos} {elt target iter:Expr} {ifs:List Expr} {scope:Scope} {cl:List (Str × Addr)} {rest:List Stmt} {Q}
    (hclos:closureFor scope C.env = pure cl) (ok:ScOk scope)
    (hsw:swapsWith (.ListComp elt [⟨target,iter,ifs,0⟩] scope pos) (some (.Name x xp)) spos.line C.env = pure true) (hk:C.env.kindOf x = some .local)
    (h:Ev C m H iter (zX5 C target ifs elt scope cl x rest Q))
    (hs:∀ x,foldedSetIterable iter C.env x = pure x:=by intro _;rfl):Ex C m H (.Assign [.Name x xp] (.ListComp elt [⟨target,iter,ifs,0⟩] scope pos) spos :: rest) Q:=by
 refine zCm fun F s vs st i=> ?_
 show wpAny C.M C.A (exec _ C.env) _ _ _
 rw [exec_Assign_Name_used _ _ _ _ hsw]
 refine wpAny_bind (wpAny_standAt (wpAny_bind ?_))
 refine wpAny_mono (Q:=fun _ s'=> Post C F s zEe (Seq C rest Q) .next s') ?_ (fun _ s' h=> wpAny_pure h) fun _ _ e=> e
 show wpAny C.M C.A (evalThenUse _ C.env _) _ _ _
 unfold evalThenUse
 refine wpAny_bind ?_
 refine wpAny_mono (Q:=fun _ s'=> Post C F s zEe (Seq C rest Q) .next s') ?_ (fun _ s' h=> wpAny_pure h) fun _ _ e=> e
 refine wpAny_comprehension_free (use:=some _) rfl hs hclos ok.kind ok.names (andThen (h F s [] st rfl) fun v s₁ a m₁ H₁ i₁ st₁ p₁ h₁=> ?_)
 refine bc fun nn=> ?_
 obtain ⟨xs,src,H₁',wk,hlen,I,h0,hsrc,turn,fin⟩:=h₁
 refine nn ?_
 refine wk F m₁ s₁ v _ _ st₁ i₁ fun it wr K s₂ itr st₂ ap k0 p₂=> ?_
 refine zHw (RR:=fun acc L=> compPost C.M C.A (C.X F) (some _) (fun _ s'=> Post C F s zEe (Seq C rest Q) .next s') acc L) st₂.b (fun a ha=> st₂.bls ha) itr ap k0 hlen ok.cell ok.kind I h0 hsrc turn fun D L s' acc H' hI hn apL hst=> ?_
 refine bc fun nn=> ?_
 obtain ⟨f,hn⟩:=hn
 refine nn ?_
 have zz:=hst s'.heap (Heap.SameBut.refl ..)
 have st':=zz.1
 have p':=zz.2
 have st':St C F m₁ ((D,.list acc) :: H') s':=st'.st st.bl
 refine andThen (C:=C.wX fun _=> C.X F) (F:=frz [L] s'.heap F) (wpAny_assign_Name (zCr (C:=C.wX fun _=> C.X F) (Q:=fun _ m' H''=> m' = put x (.ref D) m₁ ∧ H'' = (D,.list acc) :: H') ((st'.freeze apL).wX _) (zB3 (a:=D)) hk ⟨rfl,rfl⟩)) fun _ s₃ _ m₃ H₃ _ st₃ p₃ q₃=> ?_
 refine bc fun nn=> ?_
 obtain ⟨rfl,rfl⟩:=q₃
 obtain ⟨oL,hoL,r⟩:=Ns.there' hn
 obtain ⟨st₄,ap₄,same⟩:=St.thaw st.base st.bl apL.old (fun b hb=> by rw [List.mem_singleton.mp hb];exact ⟨oL,hoL⟩) (St.ofX st.ok st₃)
 refine nn ?_
 have hn':s₃.heap.Ns L f:=hn.at' fun o e=> same L (.head _) o e
 refine ⟨f,hn',fun h' sb=> ?_⟩
 refine bc fun nn=> ?_
 obtain ⟨st₅,p₅⟩:=st₄.but (h':=h') (tk:=s₃.toks) ap₄ (fun b hb xs nb ⟨o,e,c,n,d⟩=> by
  rw [List.mem_singleton.mp hb,same L (.head _) _ hoL] at e
  obtain ⟨es,ep,hd⟩:=r
  cases e;rw [hd] at d;cases d) (fun b o hb e=> (sb.2 b (by simpa using hb)).trans e)
 refine nn ?_
 exact ⟨.next,_,_,rfl,st₅,p₁.trans (p₂.trans (p'.trans (p₃.trans p₅))),fin acc H' hI D⟩
end
end Mine
end
section
namespace Mine
section
variable {C:Cx} {F:Addr → Option Obj} {m:Loc} {H:AH} {s:Shared}
theorem zDx {a b:Int} {Q} (q:Q (.int (a + b)) m H):Bin C m H .Add (.int a) (.int b) Q:=by
 intro F s vs st i
 refine zAj i fun x y q0 q1=> ?_
 obtain ⟨t,rfl⟩:=q0
 obtain ⟨u,rfl⟩:=q1
 exact add_int (finT st zCn q)
theorem zN5 {a b:Int} {Q} (q:Q (.int (a - b)) m H):Bin C m H .Sub (.int a) (.int b) Q:=by
 intro F s vs st i
 refine zAj i fun x y q0 q1=> ?_
 obtain ⟨t,rfl⟩:=q0
 obtain ⟨u,rfl⟩:=q1
 exact sub_int (finT st zCn q)
theorem zVr {a:Int} {n:Nat} (h0:a.natAbs < 2 ^ n):Builtin.Int.intBits a ≤ n:=by
 unfold Builtin.Int.intBits
 split
 ·exact Nat.zero_le _
 ·have:=Nat.log2_lt (n:=a.natAbs) (k:=n) (by simp_all) |>.mpr h0
  with_reducible exact Nat.succ_le_of_lt (by walk_at "a")
theorem mulOk {a b:Int} (ha:a.natAbs < 2 ^ 64):IntMulOk a b:=by
 unfold IntMulOk
 have:=zVr (a:=a) ha
 have e:decide (Builtin.Int.intBits a > shortFactorBits) = false:=by
  rw [decide_eq_false_iff_not];unfold shortFactorBits;lia
 rw [e];simp
theorem zS3 {a b:Int} {Q} (ha:a.natAbs < 2 ^ 64) (q:Q (.int (a * b)) m H):Bin C m H .Mult (.int a) (.int b) Q:=by
 intro F s vs st i
 refine zAj i fun x y q0 q1=> ?_
 obtain ⟨t,rfl⟩:=q0
 obtain ⟨u,rfl⟩:=q1
 exact mul_int (finT st zCn q) (mulOk ha)
theorem zIe {a b:Int} {Q} (hb:0 < b) (q:Q (.int (a % b)) m H):Bin C m H .Mod (.int a) (.int b) Q:=by
 intro F s vs st i
 refine zAj i fun x y q0 q1=> ?_
 obtain ⟨t,rfl⟩:=q0
 obtain ⟨u,rfl⟩:=q1
 refine mod_int' (by lia) (finT st zCn ?_)
 rw [Int.fmod_eq_emod_of_nonneg _ (by lia)];exact q
theorem zWr {a b:Int} {Q} (hb:0 < b) (hs:b < 1000000000) (q:Q (.int (a / b)) m H):Bin C m H .FloorDiv (.int a) (.int b) Q:=by
 intro F s vs st i
 refine zAj i fun x y q0 q1=> ?_
 obtain ⟨t,rfl⟩:=q0
 obtain ⟨u,rfl⟩:=q1
 refine floordiv_int (by lia) (finT st zCn ?_) (.inl ?_)
 ·rw [Int.fdiv_eq_ediv_of_nonneg _ (by lia)];exact q
 ·unfold Builtin.divisionGoesByPylong
  have:(if (b == 0) = true then 0 else b.natAbs.log2 / 30 + 1) ≤ 300:=by
   split
   ·exact om0 rfl
   ·have h2:b.natAbs.log2 < 30:=(Nat.log2_lt (by lia)).mpr (by lia)
    lia
  dsimp only
  rw [decide_eq_false (by lia),Bool.false_and]
theorem zWq {a b:Str} {Q} (hz:a.length + b.length ≤ 16000000) (q:Q (.str (a ++ b)) m H):Bin C m H .Add (.str a) (.str b) Q:=by
 intro F s vs st i
 refine zAj i fun x y q0 q1=> ?_
 obtain ⟨t,rfl⟩:=q0
 obtain ⟨u,rfl⟩:=q1
 exact add_str (fun t' tk=> finT st zEw q) (by rw [sizeLine_eq];exact omT)
theorem zB5 {a b:Int} {Q} (q:Q (.bool (decide (a = b))) m H):Cmp C m H .Eq (.int a) (.int b) Q:=by
 intro F s vs st i
 refine zAj i fun x y q0 q1=> ?_
 obtain ⟨t,rfl⟩:=q0
 obtain ⟨u,rfl⟩:=q1
 exact eq_int (fin st zBd (by rw [show (a == b) = decide (a = b) from rfl];exact q))
theorem zAh {a b:Int} {Q} (q:Q (.bool (!decide (a = b))) m H):Cmp C m H .NotEq (.int a) (.int b) Q:=by
 intro F s vs st i
 refine zAj i fun x y q0 q1=> ?_
 obtain ⟨t,rfl⟩:=q0
 obtain ⟨u,rfl⟩:=q1
 exact ne_int (fin st zBd (by rw [show (a != b) = !decide (a = b) from rfl];exact q))
theorem zEh {a b:Int} {Q} (q:Q (.bool (decide (a < b))) m H):Cmp C m H .Lt (.int a) (.int b) Q:=by
 intro F s vs st i
 refine zAj i fun x y q0 q1=> ?_
 obtain ⟨t,rfl⟩:=q0
 obtain ⟨u,rfl⟩:=q1
 exact lt_int (fin st zBd q)
theorem zLx {a b:Int} {Q} (q:Q (.bool (decide (b < a))) m H):Cmp C m H .Gt (.int a) (.int b) Q:=by
 intro F s vs st i
 refine zAj i fun x y q0 q1=> ?_
 obtain ⟨t,rfl⟩:=q0
 obtain ⟨u,rfl⟩:=q1
 exact gt_int (fin st zBd q)
theorem zLw {a b:Int} {Q} (q:Q (.bool (decide (a ≤ b))) m H):Cmp C m H .LtE (.int a) (.int b) Q:=by
 intro F s vs st i
 refine zAj i fun x y q0 q1=> ?_
 obtain ⟨t,rfl⟩:=q0
 obtain ⟨u,rfl⟩:=q1
 exact le_int (fin st zBd q)
theorem zXq {a b:Int} {Q} (q:Q (.bool (decide (b ≤ a))) m H):Cmp C m H .GtE (.int a) (.int b) Q:=by
 intro F s vs st i
 refine zAj i fun x y q0 q1=> ?_
 obtain ⟨t,rfl⟩:=q0
 obtain ⟨u,rfl⟩:=q1
 exact ge_int (fin st zBd q)
theorem zPz (a b:Str):(a == b) = decide (a = b):=by
 by_cases h:a = b
 ·subst h;exact rfl
 ·rw [decide_eq_false h];exact beq_eq_false_iff_ne.mpr h
theorem zA6 {a b:Str} {Q} (q:Q (.bool (decide (a = b))) m H):Cmp C m H .Eq (.str a) (.str b) Q:=by
 intro F s vs st i
 refine zAj i fun x y q0 q1=> ?_
 obtain ⟨t,rfl⟩:=q0
 obtain ⟨u,rfl⟩:=q1
 exact eq_str (fin st zBd (by rw [zPz];exact q))
theorem zBr {a b:Str} {Q} (q:Q (.bool (!decide (a = b))) m H):Cmp C m H .NotEq (.str a) (.str b) Q:=by
 intro F s vs st i
 refine zAj i fun x y q0 q1=> ?_
 obtain ⟨t,rfl⟩:=q0
 obtain ⟨u,rfl⟩:=q1
 exact ne_str (fin st zBd (by rw [show (a != b) = !(a == b) from rfl,zPz];exact q))
theorem zPn {a b:Str} {Q} (q:Q (.bool (!decide (b.cps.toList < a.cps.toList))) m H):Cmp C m H .LtE (.str a) (.str b) Q:=by
 intro F s vs st i
 refine zAj i fun x y q0 q1=> ?_
 obtain ⟨t,rfl⟩:=q0
 obtain ⟨u,rfl⟩:=q1
 exact P.le_str (fin st zBd q)
theorem zPo {a b:Str} {Q} (q:Q (.bool !(Builtin.Str.occurrences b a 0 b.length 1).isEmpty) m H):Cmp C m H .In (.str a) (.str b) Q:=by
 intro F s vs st i
 refine zAj i fun x y q0 q1=> ?_
 obtain ⟨t,rfl⟩:=q0
 obtain ⟨u,rfl⟩:=q1
 exact in_str (fin st zBd q)
theorem zFo {a b:Str} {Q} (q:Q (.bool (Builtin.Str.occurrences b a 0 b.length 1).isEmpty) m H):Cmp C m H .NotIn (.str a) (.str b) Q:=by
 intro F s vs st i
 refine zAj i fun x y q0 q1=> ?_
 obtain ⟨t,rfl⟩:=q0
 obtain ⟨u,rfl⟩:=q1
 exact notIn_str (fin st zBd (by simpa using q))
theorem zIs {a b:Bool} {Q} (q:Q (.bool (a != b)) m H):Cmp C m H .IsNot (.bool a) (.bool b) Q:=by
 intro F s vs st i
 refine zAj i fun x y q0 q1=> ?_
 obtain rfl:=q0
 obtain rfl:=q1
 exact isnot_bool (fin st zBd q)
noncomputable def V.isNone:V → Bool
 | .none=> true
 | _=> false
theorem Is.none_iff {B:Addr → Prop} {h:Heap} {a:V} {v:Value} (x:Is B h a v) (c:a.isCon = false):(v == Value.none) = a.isNone:=by
 cases a with
 | none=> cases x;rfl
 | bool _=> cases x;rfl
 | int _=> obtain ⟨t,rfl⟩:=x;rfl
 | str _=> obtain ⟨t,rfl⟩:=x;rfl
 | tup _=> obtain ⟨a,xs,rfl,_⟩:=x;rfl
 | ref _=> cases x;rfl
 | con _=> exact Bool.noConfusion c
theorem zFb {a:V} {Q} (ha:a.isCon = false) (q:Q (.bool a.isNone) m H):Cmp C m H .Is a .none Q:=by
 intro F s vs st i
 refine zAj i fun x y ix q1=> ?_
 obtain rfl:=q1
 exact is_none_gen (fin st zBd (by rw [ix.none_iff ha];exact q))
theorem zA0 {b:Bool} {Q} (q:Q b m H):Tru C m H (.bool b) Q:=by
 intro F s vs st i
 refine zBf i fun x q0=> ?_
 obtain rfl:=q0
 exact wpAny_truthy_bool (fin st rfl q)
structure kTwo3 (C:Cx) (op2:CmpOp) (r2:Expr) (Q:Bool → Loc → AH → Prop) (b:V) (t:Bool) (m:Loc) (H:AH):Prop where
 h1:(t = true → Ev C m H r2 (kCmp2 C op2 (kTru C Q) b))
 h2:(t = false → Q false m H)
@[reducible] noncomputable def kTwo2 (C:Cx) (op1 op2:CmpOp) (r2:Expr) (Q:Bool → Loc → AH → Prop) (a:V):V → Loc → AH → Prop:=fun b m H=> Cmp C m H op1 a b (kTru C (kTwo3 C op2 r2 Q b))
@[reducible] noncomputable def kTwo1 (C:Cx) (op1 op2:CmpOp) (r1 r2:Expr) (Q:Bool → Loc → AH → Prop):V → Loc → AH → Prop:=fun a m H=> Ev C m H r1 (kTwo2 C op1 op2 r2 Q a)
theorem zMu {l r₁ r₂:Expr} {op₁ op₂:CmpOp} {pos} {Q}
    (h:Ev C m H l (kTwo1 C op₁ op₂ r₁ r₂ Q))
    (hm:lastMarks [op₁,op₂] [r₁,r₂] = false:=by with_unfolding_all rfl):Tr C m H (.Compare l [op₁,op₂] [r₁,r₂] pos) Q:=by
 intro F s vs st i
 refine isTrue_chain (andThen (h F s [] st rfl) fun a s₁ a' m₁ H₁ i₁ st₁ p₁ h₁=> ?_) hm
 refine test_link (andThen (h₁ F s₁ [] st₁ rfl) fun b s₂ b' m₂ H₂ i₂ st₂ p₂ h₂=> ?_)
 refine andThen (h₂ F s₂ [a,b] st₂ (.cons (i₁.mono p₂) (.cons i₂ .nil))) fun c s₃ c' m₃ H₃ i₃ st₃ p₃ h₃=> ?_
 refine andThen (h₃ F s₃ [c] st₃ (.cons i₃ .nil)) fun t s₄ t' m₄ H₄ i₄ st₄ p₄ h₄=> ?_
 cases i₄
 cases t with
 | false=> exact ⟨false,m₄,H₄,rfl,st₄,p₁.trans (p₂.trans (p₃.trans p₄)),h₄.2 rfl⟩
 | true =>
  refine test_last (andThen (h₄.1 rfl F s₄ [] st₄ rfl) fun d s₅ d' m₅ H₅ i₅ st₅ p₅ h₅=> ?_)
  refine andThen (h₅ F s₅ [b,d] st₅ (.cons (i₂.mono (p₃.trans (p₄.trans p₅))) (.cons i₅ .nil))) fun e s₆ e' m₆ H₆ i₆ st₆ p₆ h₆=> ?_
  exact wpAny_mono (h₆ F s₆ [e] st₆ (.cons i₆ .nil)) (fun _ _ x=> x.shift (p₁.trans (p₂.trans (p₃.trans (p₄.trans (p₅.trans p₆)))))) fun _ _ e=> e
end
end Mine
end
section
namespace Mine
section
variable {κ:Type} [DecidableEq κ]
noncomputable def dget {α:Type} (k:κ):List (κ × α) → Option α
 | []=> none
 | (y,v) :: r=> if k = y then some v else dget k r
noncomputable def dput {α:Type} (k:κ) (v:α):List (κ × α) → List (κ × α)
 | []=> [(k,v)]
 | (y,u) :: r=> if k = y then (y,v) :: r else (y,u) :: dput k v r
noncomputable def ddel {α:Type} (k:κ):List (κ × α) → List (κ × α)
 | []=> []
 | (y,v) :: r=> if k = y then r else (y,v) :: ddel k r
theorem zAv {α:Type} {k y:κ} {v:α} {r:List (κ × α)}:dget k ((y,v) :: r) = if k = y then some v else dget k r:=rfl
theorem zDl {α:Type} {k y:κ} {u v:α} {r:List (κ × α)}:dput k u ((y,v) :: r) = if k = y then (y,u) :: r else (y,v) :: dput k u r:=rfl
theorem zLg {α:Type} {k y:κ} {v:α} {r:List (κ × α)}:ddel k ((y,v) :: r) = if k = y then r else (y,v) :: ddel k r:=rfl
noncomputable def zXt {α:Type} (l:List (κ × α)):Prop:=(l.map (·.1)).Nodup
theorem dget_none {α:Type} {k:κ}:∀ {l:List (κ × α)},dget k l = none ↔ k ∉ l.map (·.1):=by
 intro l
 induction l with
 | nil=> exact ⟨fun _=> List.not_mem_nil,fun _=> rfl⟩
 | cons y r ih =>
  obtain ⟨y,v⟩:=y
  rw [zAv]
  by_cases h:k = y
  ·simp [h]
  ·rw [if_neg h,ih];simp [h]
end
variable {B:Addr → Prop}
section
variable {κ:Type} [DecidableEq κ]
theorem KvIs.length {h:Heap} {l:List (κ × V)}:∀ {l':List (κ × Value)},KvIs B h l l' → l'.length = l.length:=by
 induction l with
 | nil =>
  intro _ e
  cases e;rfl
 | cons pp r ih =>
  obtain ⟨k,v⟩:=pp
  intro _ zz
  obtain ⟨x,r',e,_,b⟩:=zz;subst e;simp [ih b]
theorem KvIs.get {h:Heap} {k:κ} {v:V} {l:List (κ × V)}:∀ {l':List (κ × Value)},KvIs B h l l' → dget k l = some v → ∃ x,valueAt l' k = some x ∧ Is B h v x:=by
 induction l with
 | nil =>
  intro _ _ q
  cases q
 | cons pp r ih =>
  obtain ⟨y,u⟩:=pp
  intro _ zz q
  obtain ⟨x,r',e,i,b⟩:=zz
  subst e
  rw [zAv] at q
  unfold valueAt
  rw [List.find?_cons]
  by_cases hk:k = y
  ·subst hk
   rw [if_pos rfl] at q;cases q
   simp only [decide_true]
   exact ⟨x,rfl,i⟩
  ·rw [if_neg hk] at q
   obtain ⟨z,h1,h2⟩:=ih b q
   refine ⟨z,?_,h2⟩
   have:decide (y = k) = false:=decide_eq_false fun e=> hk e.symm
   simp only [this]
   exact h1
theorem KvIs.getNone {h:Heap} {k:κ} {l:List (κ × V)}:∀ {l':List (κ × Value)},KvIs B h l l' → dget k l = none → valueAt l' k = none:=by
 induction l with
 | nil =>
  intro _ e _
  cases e;rfl
 | cons pp r ih =>
  obtain ⟨y,u⟩:=pp
  intro _ zz q
  obtain ⟨x,r',e,i,b⟩:=zz
  subst e
  rw [zAv] at q
  unfold valueAt
  rw [List.find?_cons]
  by_cases hk:k = y
  ·exact nn3 (if_pos hk) q
  ·rw [if_neg hk] at q
   have:decide (y = k) = false:=decide_eq_false fun e=> hk e.symm
   simp only [this]
   exact ih b q
theorem zM6 {k y:κ} {v x:Value} {r:List (κ × Value)} (nd:(((y,x) :: r).map (·.1)).Nodup):stored ((y,x) :: r) k v = if k = y then (y,v) :: r else (y,x) :: stored r k v:=by
 unfold stored
 rw [List.map_cons,List.nodup_cons] at nd
 by_cases h:k = y
 ·subst h
  have:(((k,x) :: r).any fun kv=> decide (kv.1 = k)) = true:=by simp
  rw [if_pos this,if_pos rfl,List.map_cons,if_pos rfl]
  congr 1
  refine map_eq_self fun z hz=> ?_
  rw [if_neg fun e:z.1 = k=> nd.1 (by rw [← e];exact List.mem_map_of_mem (f:=(·.1)) hz)]
 ·rw [if_neg h,List.any_cons]
  have:decide (y = k) = false:=decide_eq_false fun e=> h e.symm
  rw [this,Bool.false_or]
  split
  ·rw [List.map_cons]
   show (if y = k then _ else _) :: _ = _
   rw [if_neg fun e=> h e.symm]
  ·rfl
theorem KvIs.put {h:Heap} {k:κ} {v:V} {x:Value} (i:Is B h v x) {l:List (κ × V)}:∀ {l':List (κ × Value)},KvIs B h l l' → (l'.map (·.1)).Nodup → KvIs B h (dput k v l) (stored l' k x):=by
 induction l with
 | nil =>
  intro _ e _
  cases e;exact ⟨x,[],rfl,i,rfl⟩
 | cons pp r ih =>
  obtain ⟨y,u⟩:=pp
  intro _ zz nd
  obtain ⟨z,r',e,iz,b⟩:=zz
  subst e
  rw [zM6 nd]
  rw [zDl]
  by_cases hk:k = y
  ·rw [if_pos hk,if_pos hk];exact ⟨x,r',rfl,i,b⟩
  ·rw [if_neg hk,if_neg hk]
   rw [List.map_cons,List.nodup_cons] at nd
   exact ⟨z,_,rfl,iz,ih b nd.2⟩
theorem zKk {k y:κ} {x:Value} {r:List (κ × Value)} (nd:(((y,x) :: r).map (·.1)).Nodup):without ((y,x) :: r) k = if k = y then r else (y,x) :: without r k:=by
 unfold without
 rw [List.map_cons,List.nodup_cons] at nd
 rw [List.filter_cons]
 by_cases h:k = y
 ·subst h
  rw [if_pos rfl,if_neg (by simp)]
  rw [List.filter_eq_self]
  intro z hz
  simp only [decide_eq_true_eq]
  exact fun e:z.1 = k=> nd.1 (by rw [← e];exact List.mem_map_of_mem (f:=(·.1)) hz)
 ·rw [if_neg h,if_pos (by simpa using fun e=> h e.symm)]
theorem KvIs.del {h:Heap} {k:κ} {l:List (κ × V)}:∀ {l':List (κ × Value)},KvIs B h l l' → (l'.map (·.1)).Nodup → KvIs B h (ddel k l) (without l' k):=by
 induction l with
 | nil =>
  intro _ e _
  cases e;rfl
 | cons pp r ih =>
  obtain ⟨y,u⟩:=pp
  intro _ zz nd
  obtain ⟨z,r',e,iz,b⟩:=zz
  subst e
  rw [zKk nd]
  rw [zLg]
  by_cases hk:k = y
  ·rw [if_pos hk,if_pos hk];exact b
  ·rw [if_neg hk,if_neg hk]
   rw [List.map_cons,List.nodup_cons] at nd
   exact ⟨z,_,rfl,iz,ih b nd.2⟩
end
theorem KvIsT.length {h:Heap} {l:List (List Atom × V)}:∀ {l'},KvIsT B h l l' → l'.length = l.length:=by
 induction l with
 | nil =>
  intro _ e
  cases e;rfl
 | cons pp r ih =>
  obtain ⟨k,v⟩:=pp
  intro _ zz
  obtain ⟨a,x,r',e,_,_,b⟩:=zz;subst e;simp [ih b]
theorem KvIsT.get {h:Heap} {k:List Atom} {v:V} {l:List (List Atom × V)}:∀ {l'},KvIsT B h l l' → dget k l = some v → ∃ p,atKey l' k = some p ∧ Is B h v p.2:=by
 induction l with
 | nil =>
  intro _ _ q
  cases q
 | cons pp r ih =>
  obtain ⟨y,u⟩:=pp
  intro _ zz q
  obtain ⟨a,x,r',e,nb,i,b⟩:=zz
  subst e
  rw [zAv] at q
  unfold atKey
  rw [List.find?_cons]
  by_cases hk:k = y
  ·subst hk
   rw [if_pos rfl] at q;cases q
   simp only [decide_true]
   exact ⟨(a,x),rfl,i⟩
  ·rw [if_neg hk] at q
   obtain ⟨z,h1,h2⟩:=ih b q
   refine ⟨z,?_,h2⟩
   have:decide (y = k) = false:=decide_eq_false fun e=> hk e.symm
   simp only [this]
   exact h1
theorem KvIsT.getNone {h:Heap} {k:List Atom} {l:List (List Atom × V)}:∀ {l'},KvIsT B h l l' → dget k l = none → atKey l' k = none:=by
 induction l with
 | nil =>
  intro _ e _
  cases e;rfl
 | cons pp r ih =>
  obtain ⟨y,u⟩:=pp
  intro _ zz q
  obtain ⟨a,x,r',e,nb,i,b⟩:=zz
  subst e
  rw [zAv] at q
  unfold atKey
  rw [List.find?_cons]
  by_cases hk:k = y
  ·exact nn3 (if_pos hk) q
  ·rw [if_neg hk] at q
   have:decide (y = k) = false:=decide_eq_false fun e=> hk e.symm
   simp only [this]
   exact ih b q
theorem KvIsT.putNew {h:Heap} {k:List Atom} {v:V} {x:Value} {a:Addr} (i:Is B h v x) (nb:¬ B a) {l:List (List Atom × V)}:∀ {l'},KvIsT B h l l' → dget k l = none → KvIsT B h (dput k v l) (l' ++ [(k,a,x)]):=by
 induction l with
 | nil =>
  intro _ e _
  cases e;exact ⟨a,x,[],rfl,nb,i,rfl⟩
 | cons pp r ih =>
  obtain ⟨y,u⟩:=pp
  intro _ zz q
  obtain ⟨a',z,r',e,nb',iz,b⟩:=zz
  subst e
  rw [zAv] at q
  rw [zDl]
  by_cases hk:k = y
  ·exact nn3 (if_pos hk) q
  ·rw [if_neg hk] at q
   rw [if_neg hk]
   exact ⟨a',z,_,rfl,nb',iz,ih b q⟩
theorem zSx {prog:Program} {w:World} {h:Heap} {ks:List Atom}:∀ {vs:List Value},IsL B h (ks.map Atom.v) vs → PySem.ItemsAre (zAc prog w) ks vs:=by
 induction ks with
 | nil =>
  intro _ e
  cases e;exact .nil
 | cons k r ih =>
  intro _ zz
  obtain ⟨x,r',e,i,b⟩:=zz;subst e;exact .cons (Atom.is_of i) (ih b)
theorem zNb {prog:Program} {w:World} {h:Heap} {ks:List Atom} {a:Addr} (i:Is B h (.tup (ks.map Atom.v)) (.ref a)):IsTupleKey (zAc prog w) h ks a:=by
 refine bc fun nn=> ?_
 obtain ⟨b,xs,e,⟨⟨o,ho,hc,n,hd⟩,nb⟩,il⟩:=i
 refine nn ?_
 cases e
 exact ⟨o,xs,n,ho,hc,hd,zSx il⟩
theorem zNa {h:Heap} {l:List V} {v:Value} (i:Is B h (.tup l) v):∃ a,v = .ref a ∧ ¬ B a:=by
 refine bc fun nn=> ?_
 obtain ⟨b,xs,e,⟨_,nb⟩,_⟩:=i
 refine nn ?_
 exact ⟨b,e,nb⟩
section
variable {C:Cx} {F:Addr → Option Obj} {m:Loc} {H:AH} {s:Shared}
theorem St.unit (st:St C F m H s):C.A.units + 100 < cLine:=by have:=st.ok.un;lia
theorem St.room (st:St C F m H s):(tupleKind (zAc C.prog C.w)).room C.A.in1:=tupleKind_room_in1 (by have:=st.unit;lia)
theorem St.newSys (st:St C F m H s):s.heap.objs.size ≠ sysModules:=by
 refine bc fun nn=> ?_
 obtain ⟨p,loose,mg,mb,T⟩:=st.ok.top
 obtain ⟨o,ho,_⟩:=Ns.there' T.g
 refine nn ?_
 have:=Heap.lt_size (st.keep _ _ ho)
 intro e
 rw [e] at this
 exact absurd this (by decide)
theorem Sys.beq {a:Addr} (h:a ≠ sysModules):(a == sysModules) = false:=beq_eq_false_iff_ne.mpr h
noncomputable abbrev GetI (C:Cx) (m:Loc) (H:AH) (a i:V) (Q:V → Loc → AH → Prop):Prop:=Op C m H [a,i] (two getItem) Q
theorem zNv {d:Addr} {kvs:List (Atom × V)} {k:Atom} {v:V} {kv:Value} {P:Value → Shared → Prop} (st:St C F m H s) (hm:(d,AObj.dictA kvs) ∈ H) (hk:Is C.ban s.heap k.v kv) (hv:dget k kvs = some v)
    (h:∀ x tk,Is C.ban s.heap v x → P x { s with toks:=tk }):wpAny C.M C.A (getItem (.ref d) kv) P (C.X F) s:=by
 refine bc fun nn=> ?_
 obtain ⟨⟨kvs',hd,ik⟩,_⟩:=st.objs _ hm
 obtain ⟨x,e,ix⟩:=ik.get hv
 refine nn ?_
 exact wpAny_getItem_of (knd:=zAc C.prog C.w) (Atom.is_of hk) hd.mapOf e (h x _ ix)
theorem zMz {d:Addr} {kvs:List (Atom × V)} {x:Str} {v:V} {Q} (hm:(d,AObj.dictA kvs) ∈ H) (hv:dget (.s x) kvs = some v) (q:Q v m H):GetI C m H (.ref d) (.str x) Q:=by
 intro F s vs st i
 refine zAj i fun a b q0 ib=> ?_
 obtain rfl:=q0
 exact zNv (k:=.s x) st hm ib hv fun y tk iy=> finT st iy q
theorem zN0 {d:Addr} {kvs:List (Atom × V)} {x:Int} {v:V} {Q} (hm:(d,AObj.dictA kvs) ∈ H) (hv:dget (.i x) kvs = some v) (q:Q v m H):GetI C m H (.ref d) (.int x) Q:=by
 intro F s vs st i
 refine zAj i fun a b q0 ib=> ?_
 obtain rfl:=q0
 exact zNv (k:=.i x) st hm ib hv fun y tk iy=> finT st iy q
theorem zQ6 {d:Addr} {kvs:List (Atom × V)} {k:Atom} {v:V} {kv x:Value} {H':AH} {P:Unit → Shared → Prop} (st:St C F m H s) (u:Upd d (AObj.dictA kvs) (AObj.dictA (dput k v kvs)) H H') (hz:kvs.length ≤ 1000000)
    (hk:Is C.ban s.heap k.v kv) (hx:Is C.ban s.heap v x)
    (h:∀ s',St C F m H' s' → Pres C.ban s.heap s'.heap → P () s'):wpAny C.M C.A (setItem (.ref d) kv x) P (C.X F) s:=by
 refine bc fun nn=> ?_
 obtain ⟨⟨kvs',hd,ik⟩,ns⟩:=st.objs _ u.mem
 obtain ⟨o,es,ep,_,_,_,_,_,nd⟩:=id hd
 refine nn ?_
 refine wpAny_setItem_pairs (knd:=zAc C.prog C.w) (hsz:=by rw [ik.length,sizeLine_eq];exact Nat.le_trans hz (by decide)) (Atom.is_of hk) hd fun h' hd' sb=> ?_
 have zz:=st.update (h':=h') (tk:=s.toks + 1) u rfl (fun b ob hb e=> (sb.2 b (fun q=> hb (by rw [q];exact .head _))).trans e) (fun p=> ⟨⟨_,hd',(ik.put hx nd).mono p⟩,ns⟩)
 have st':=zz.1
 have p:=zz.2
 exact h _ st' p
theorem zMy {d:Addr} {kvs:List (Atom × V)} {x:Str} {v:V} {H':AH} {Q} (u:Upd d (AObj.dictA kvs) (AObj.dictA (dput (.s x) v kvs)) H H') (q:Q () m H') (hz:kvs.length ≤ 1000000:=by simp):SetI C m H (.ref d) (.str x) v Q:=by
 intro F s vs st i
 refine zG9 i fun a b c q0 ib ic=> ?_
 obtain rfl:=q0
 exact zQ6 (k:=.s x) st u hz ib ic fun s' st' p=> ⟨(),m,H',trivial,st',p,q⟩
theorem zI6 {d:Addr} {kvs:List (Atom × V)} {x:Int} {v:V} {H':AH} {Q} (u:Upd d (AObj.dictA kvs) (AObj.dictA (dput (.i x) v kvs)) H H') (q:Q () m H') (hz:kvs.length ≤ 1000000:=by simp):SetI C m H (.ref d) (.int x) v Q:=by
 intro F s vs st i
 refine zG9 i fun a b c q0 ib ic=> ?_
 obtain rfl:=q0
 exact zQ6 (k:=.i x) st u hz ib ic fun s' st' p=> ⟨(),m,H',trivial,st',p,q⟩
theorem zMx {d:Addr} {kvs:List (List Atom × V)} {ks:List Atom} {l:List V} {v:V} {H':AH} {Q} (u:Upd d (AObj.dictT kvs) (AObj.dictT (dput ks v kvs)) H H') (hl:l = ks.map Atom.v) (hn:dget ks kvs = none) (hz:kvs.length ≤ 1000000)
    (q:Q () m H'):SetI C m H (.ref d) (.tup l) v Q:=by
 intro F s vs st i
 subst hl
 refine zG9 i fun a b c q0 ib ic=> ?_
 obtain rfl:=q0
 obtain ⟨t,rfl,nb⟩:=zNa ib
 obtain ⟨⟨xs,hd,ik⟩,ns⟩:=st.objs _ u.mem
 refine wpAny_setItem_heap (knd:=tupleKind (zAc C.prog C.w)) (hsz:=by rw [ik.length,sizeLine_eq];exact Nat.le_trans hz (by decide)) st.room (zNb ib) hd fun h' hd' sb=> ?_
 rw [storedH_new (ik.getNone hn)] at hd'
 have zz:=st.update (h':=h') (tk:=s.toks + (tupleKind (zAc C.prog C.w)).draws ks) u rfl (fun b ob hb e=> (sb.2 b (fun q=> hb (by rw [q];exact .head _))).trans e) (fun p=> ⟨⟨_,hd',(ik.putNew ic nb hn).mono p⟩,ns⟩)
 have st':=zz.1
 have p:=zz.2
 exact ⟨(),m,H',trivial,st',p,q⟩
theorem zKg {d:Addr} {kvs:List (List Atom × V)} {ks:List Atom} {l:List V} {Q} (hm:(d,AObj.dictT kvs) ∈ H) (hl:l = ks.map Atom.v) (q:Q (.bool (dget ks kvs).isSome) m H):Cmp C m H .In (.tup l) (.ref d) Q:=by
 intro F s vs st i
 subst hl
 refine zAj i fun a b ia q1=> ?_
 obtain rfl:=q1
 obtain ⟨t,rfl,nb⟩:=zNa ia
 obtain ⟨⟨xs,hd,ik⟩,ns⟩:=st.objs _ hm
 refine wpAny_in_heap (knd:=tupleKind (zAc C.prog C.w)) st.room (zNb ia) (Sys.beq ns) hd (finT st zBd ?_)
 cases hv:dget ks kvs with
 | none=> rw [hv] at q;rw [ik.getNone hv];exact q
 | some v =>
  obtain ⟨p,e,_⟩:=ik.get hv
  rw [hv] at q;rw [e];exact q
theorem zBm {d:Addr} {kvs:List (Atom × V)} {x:Str} {dflt:V} {Q} (hm:(d,AObj.dictA kvs) ∈ H) (q:Q ((dget (.s x) kvs).getD dflt) m H):Call C m H (.con (.builtin "dict.get")) [.ref d,.str x,dflt] Q:=by
 intro F s vs st i
 refine IsL.el i fun f r hf i=> ?_
 refine zG9 i fun a b c q0 ib ic=> ?_
 obtain rfl:=q0
 cases hf
 refine bc fun nn=> ?_
 obtain ⟨⟨kvs',hd,ik⟩,ns⟩:=st.objs _ hm
 refine nn ?_
 refine call_meetsIn PySem.F.slot_dict_get hd.typeIs PySem.F.entry_dict_get (PySem.F.args_dict_get_3 _ _ _) (meets_dict_get_default (zAc C.prog C.w) d (k:=.s x) (Atom.is_of (k:=.s x) ib) (Sys.beq ns) c) ⟨_,hd.mapOf,?_⟩
 cases hv:dget (.s x) kvs with
 | none=> rw [hv] at q;rw [ik.getNone hv];exact finT st ic q
 | some v =>
  refine bc fun nn=> ?_
  obtain ⟨p,e,ip⟩:=ik.get hv
  refine nn ?_
  rw [hv] at q;rw [e];exact finT st ip q
theorem zIc {d:Addr} {kvs:List (Atom × V)} {x:Int} {v:V} {H':AH} {Q} (u:Upd d (AObj.dictA kvs) (AObj.dictA (ddel (.i x) kvs)) H H') (hv:dget (.i x) kvs = some v) (hz:kvs.length ≤ 1000000) (q:Q v m H') :
    Call C m H (.con (.builtin "dict.pop")) [.ref d,.int x] Q:=by
 intro F s vs st i
 refine IsL.el i fun f r hf i=> ?_
 refine zAj i fun a b q0 ib=> ?_
 obtain rfl:=q0
 cases hf
 refine bc fun nn=> ?_
 obtain ⟨⟨kvs',hd,ik⟩,ns⟩:=st.objs _ u.mem
 obtain ⟨o,es,ep,_,_,_,_,_,nd⟩:=id hd
 obtain ⟨y,e,iy⟩:=ik.get hv
 refine nn ?_
 refine call_meetsIn PySem.F.slot_dict_pop hd.typeIs PySem.F.entry_dict_pop (PySem.F.args_dict_pop_2 _ _) (meets_dict_pop_there (zAc C.prog C.w) d (k:=.i x) (Atom.is_of (k:=.i x) ib) [] (.inl rfl) (by obtain ⟨t,rfl⟩:=ib;rfl))
  ⟨kvs',y,hd,by rw [ik.length,sizeLine_eq];exact Nat.le_trans hz (by decide),e,fun h' hd' sb=> ?_⟩
 have zz:=st.update (h':=h') (tk:=s.toks + 1) u rfl (fun b ob hb e=> (sb.2 b (fun q=> hb (by rw [q];exact .head _))).trans e) (fun p=> ⟨⟨_,hd',(ik.del nd).mono p⟩,ns⟩)
 have st':=zz.1
 have p:=zz.2
 exact ⟨v,m,H',iy.mono p,st',p,q⟩
end
end Mine
end
section
namespace Mine
variable {B:Addr → Prop}
theorem zK0 {α β:Type} {f g:α → Option β} {l:List α} (h:∀ x ∈ l,f x = g x):l.filterMap f = l.filterMap g:=by
 induction l with
 | nil=> rfl
 | cons x r ih=> rw [List.filterMap_cons,List.filterMap_cons,h x (.head _),ih fun y hy=> h y (.tail _ hy)]
theorem IsL.size {h:Heap} {l:List V} {a:Array Value} (i:IsL B h l a.toList):a.size = l.length:=by rw [i.length,Array.length_toList]
noncomputable def vpick {α:Type} (l:List α) (lo hi st:Option Int):List α :=
 (sliceRange (sliceBounds lo hi st l.length).1 (sliceBounds lo hi st l.length).2.1 (sliceBounds lo hi st l.length).2.2).filterMap (l[·]?)
theorem zD5 (items:Array Value) (lo hi st:Option Int):slicePick items lo hi st = (vpick items.toList lo hi st).toArray:=by
 unfold slicePick vpick
 rw [Array.length_toList]
 congr 1
 refine zK0 fun x _=> ?_
 simp
theorem IsL.pick {h:Heap} {l:List V} {vs:List Value} (i:IsL B h l vs) (is:List Nat):IsL B h (is.filterMap (l[·]?)) (is.filterMap (vs[·]?)):=by
 induction is with
 | nil=> rfl
 | cons k r ih =>
  rw [List.filterMap_cons,List.filterMap_cons]
  cases q:vs[k]? with
  | none =>
   have:l[k]? = none:=by
    rw [List.getElem?_eq_none_iff] at q ⊢
    rw [i.length];exact q
   rw [this];exact ih
  | some x =>
   refine bc fun nn=> ?_
   obtain ⟨v,e,iv⟩:=i.get' q
   refine nn ?_
   rw [e];exact .cons iv ih
theorem IsL.vpick {h:Heap} {l:List V} {vs:List Value} (i:IsL B h l vs) (lo hi st):IsL B h (Mine.vpick l lo hi st) (Mine.vpick vs lo hi st):=by
 unfold Mine.vpick
 rw [← i.length]
 exact i.pick _
theorem zQa {α:Type} (l:List α) (a n:Nat):((List.range n).map fun k=> (a + k)).filterMap (l[·]?) = (l.drop a).take n:=by
 induction n generalizing a with
 | zero=> exact rfl
 | succ n ih =>
  rw [List.range_succ_eq_map,List.map_cons,List.filterMap_cons,List.map_map]
  have e:((fun k=> a + k) ∘ Nat.succ) = fun k=> (a + 1) + k:=by funext k;simp;lia
  rw [e,ih (a + 1),Nat.add_zero]
  cases q:l[a]? with
  | none =>
   have:=List.getElem?_eq_none_iff.mp q
   rw [List.drop_eq_nil_of_le this,List.drop_eq_nil_of_le (by lia)];simp
  | some x =>
   have hl:=(List.getElem?_eq_some_iff.mp q).1
   have hx:=(List.getElem?_eq_some_iff.mp q).2
   rw [List.drop_eq_getElem_cons hl,hx,List.take_succ_cons]
theorem zMq {n a:Nat} (h:a ≤ n):max (0:Int) (min (if (a:Int) < 0 then (a:Int) + n else a) n) = a:=by
 rw [if_neg (Int.not_lt.mpr (Int.natCast_nonneg a)),Int.min_eq_left (Int.ofNat_le.2 h),Int.max_eq_right (Int.natCast_nonneg a)]
theorem zEz {α:Type} (l:List α) (lo hi:Option Int) (a b:Nat) (hab:a ≤ b) (ha:(sliceBounds lo hi none l.length).1 = a) (hb:(sliceBounds lo hi none l.length).2.1 = b):vpick l lo hi none = (l.drop a).take (b - a):=by
 unfold vpick
 have h3:(sliceBounds lo hi none l.length).2.2 = 1:=rfl
 rw [ha,hb,h3]
 unfold sliceRange
 simp only [Int.one_pos,if_true]
 rw [← zQa l a (b - a)]
 have ec:(if (a:Int) < b then ((b:Int) - a + 1 - 1) / 1 else 0).toNat = b - a:=by
  rw [Int.ediv_one,Int.add_sub_cancel,← Int.natCast_sub hab]
  split
  ·rfl
  ·rename_i h
   exact (Nat.sub_eq_zero_of_le (Nat.not_lt.mp fun z=> h (Int.ofNat_lt.2 z))).symm
 rw [ec]
 congr 1
 refine List.map_congr_left fun k _=> ?_
 rw [Int.one_mul]
 rfl
theorem zOa {α:Type} (l:List α) (a:Nat) (h:a ≤ l.length):vpick l (some a) none none = l.drop a:=by
 rw [zEz l (some a) none a l.length h (zMq h) rfl,List.take_of_length_le (Nat.le_of_eq List.length_drop)]
theorem zO8 {α:Type} (l:List α) (b:Nat):vpick l none (some b) none = l.take b:=by
 have e:(sliceBounds none (some (b:Int)) none l.length).2.1 = (min b l.length:Nat):=by
  show max (0:Int) (min (if (b:Int) < 0 then (b:Int) + l.length else b) l.length) = _
  rw [if_neg (Int.not_lt.mpr (Int.natCast_nonneg b)),← Lean.Omega.Int.ofNat_min,Int.max_eq_right (Int.natCast_nonneg _)]
 rw [zEz l none (some b) 0 (min b l.length) (Nat.zero_le _) rfl e]
 rw [List.drop_zero,Nat.sub_zero]
 rcases Nat.le_total b l.length with h | h
 ·rw [Nat.min_eq_left h]
 ·rw [Nat.min_eq_right h,List.take_of_length_le (Nat.le_refl _),List.take_of_length_le h]
theorem zO9 {α:Type} (l:List α) (h:1 ≤ l.length):vpick l none (some (-1)) none = l.dropLast:=by
 have e:(sliceBounds none (some (-1)) none l.length).2.1 = (l.length - 1:Nat):=by
  show max (0:Int) (min ((-1:Int) + l.length) l.length) = _
  rw [Int.natCast_sub h,Int.add_comm,show (l.length:Int) + -1 = l.length - (1:Nat) from rfl,Int.min_eq_left (Int.sub_le_self _ (by decide)),Int.max_eq_right (Int.sub_nonneg_of_le (Int.ofNat_le.2 h))]
 rw [zEz l none (some (-1)) 0 (l.length - 1) (Nat.zero_le _) rfl e]
 rw [List.drop_zero,Nat.sub_zero,List.dropLast_eq_take]
noncomputable def zE9 {α:Type}:List α → List α
 | []=> []
 | [a]=> [a]
 | a :: _ :: r=> a :: zE9 r
theorem zQ9 {α:Type}:∀ (n:Nat) (l:List α),l.length ≤ 2 * n → ((List.range n).map fun k=> 2 * k).filterMap (l[·]?) = zE9 l:=by
 intro n
 induction n with
 | zero =>
  intro l h
  rw [List.length_eq_zero_iff.mp (Nat.le_zero.mp h)];rfl
 | succ n ih =>
  intro l h
  rw [List.range_succ_eq_map,List.map_cons,List.filterMap_cons,List.map_map,List.filterMap_map]
  cases l with
  | nil=> exact List.filterMap_eq_nil_iff.mpr fun _ _=> List.getElem?_nil
  | cons a r =>
  cases r with
  | nil=> exact congrArg (a :: ·) (List.filterMap_eq_nil_iff.mpr fun k _=> List.getElem?_eq_none (by exact om0 rfl))
  | cons b r =>
  show a :: _ = a :: zE9 r
  rw [← ih r (by simp at h;lia),List.filterMap_map]
  refine congrArg _ (zK0 fun k _=> ?_)
  show (a :: b :: r)[2 * (k + 1)]? = r[2 * k]?
  rw [show 2 * (k + 1) = (2 * k + 1) + 1 by lia,List.getElem?_cons_succ,List.getElem?_cons_succ]
theorem zIt {α:Type} (l:List α) (a:Nat) (h:a ≤ l.length):vpick l (some a) none (some 2) = zE9 (l.drop a):=by
 unfold vpick
 have h1:(sliceBounds (some a) none (some 2) l.length).1 = a:=zMq h
 have h2:(sliceBounds (some a) none (some 2) l.length).2.1 = l.length:=rfl
 have h3:(sliceBounds (some a) none (some 2) l.length).2.2 = 2:=rfl
 rw [h1,h2,h3]
 unfold sliceRange
 simp only [show (2:Int) > 0 from by decide,if_true]
 have e:(if (a:Int) < (l.length:Int) then ((l.length:Int) - a + 2 - 1) / 2 else 0).toNat = ((l.drop a).length + 1) / 2:=by
  rw [List.length_drop,← Int.natCast_sub h]
  split
  ·rw [Int.add_sub_assoc];rfl
  ·rename_i q
   rw [Nat.sub_eq_zero_of_le (Nat.not_lt.mp fun z=> q (Int.ofNat_lt.2 z))]
   rfl
 rw [e,← zQ9 (((l.drop a).length + 1) / 2) (l.drop a) (by lia),List.filterMap_map,List.filterMap_map]
 refine zK0 fun k hk=> ?_
 show l[((a:Int) + 2 * (k:Int)).toNat]? = (l.drop a)[2 * k]?
 rw [List.getElem?_drop]
 rfl
theorem zKm {α:Type} (l:List α) (a:Nat):vpick l (some a) none (some 2) = zE9 (l.drop a):=by
 rcases Nat.le_total a l.length with h | h
 ·exact zIt l a h
 ·have e:(sliceBounds (some (a:Int)) none (some 2) l.length).1 = (sliceBounds (some (l.length:Int)) none (some 2) l.length).1:=by
    show max (0:Int) (min (if (a:Int) < 0 then (a:Int) + l.length else a) l.length) = _
    rw [if_neg (Int.not_lt.mpr (Int.natCast_nonneg a)),Int.min_eq_right (Int.ofNat_le.2 h),Int.max_eq_right (Int.natCast_nonneg _)]
    exact (zMq (Nat.le_refl _)).symm
  have e2:vpick l (some a) none (some 2) = vpick l (some l.length) none (some 2):=by
   unfold vpick
   rw [e]
   rfl
  rw [e2,zIt l _ (Nat.le_refl _),List.drop_eq_nil_of_le h,List.drop_eq_nil_of_le (Nat.le_refl _)]
section
variable {C:Cx} {F:Addr → Option Obj} {m:Loc} {H:AH} {s:Shared}
noncomputable def HasT:V → AH → String → Prop
 | .str _,_,T=> T = "str"
 | .tup _,_,T=> T = "tuple"
 | .ref a,H,T=> (∃ l,(a,AObj.list l) ∈ H ∧ T = "list") ∨ (∃ l,(a,AObj.dictA l) ∈ H ∧ T = "dict") ∨ (∃ l,(a,AObj.dictT l) ∈ H ∧ T = "dict")
 | _,_,_=> False
theorem HasT.is {a:V} {T:String} {v:Value} (t:HasT a H T) (st:St C F m H s) (i:Is C.ban s.heap a v):s.TypeIs v T:=by
 cases a with
 | str x=> obtain ⟨k,rfl⟩:=i;cases t;rfl
 | tup l=> obtain ⟨b,xs,rfl,⟨⟨o,ho,hc,_⟩,_⟩,_⟩:=i;cases t;exact ⟨o,ho,hc⟩
 | ref a=> exact VType.is (a:=.ref a) t st i
 | none=> exact t.elim
 | bool _=> exact t.elim
 | int _=> exact t.elim
 | con _=> exact t.elim
noncomputable def Sub (C:Cx) (m:Loc) (H:AH) (a i:V) (Q:V → Loc → AH → Prop):Prop:=∃ T id,HasT a H T ∧ typeLookup (.type T) "__getitem__" = pure (some (.builtin id)) ∧ GetI C m H a i Q
@[reducible] noncomputable def kSub2 (C:Cx) (Q:V → Loc → AH → Prop) (a:V):V → Loc → AH → Prop:=fun i m H=> Sub C m H a i Q
@[reducible] noncomputable def kSub1 (C:Cx) (slice:Expr) (Q:V → Loc → AH → Prop):V → Loc → AH → Prop:=fun a m H=> Ev C m H slice (kSub2 C Q a)
theorem zXm {value slice:Expr} {pos} {Q} (h:Ev C m H value (kSub1 C slice Q))
    (hs:∀ o i,subscripted slice false o i = operate [o,i] (getItem o i):=by intro _ _;rfl):Ev C m H (.Subscript value slice pos) Q:=by
 intro F s vs st ii
 refine Subscript_ (andThen (h F s [] st rfl) fun o s₁ a m₁ H₁ i₁ st₁ p₁ h₁=> ?_)
 refine andThen (h₁ F s₁ [] st₁ rfl) fun i s₂ k m₂ H₂ i₂ st₂ p₂ h₂=> ?_
 refine bc fun nn=> ?_
 obtain ⟨T,id,ht,hl,h₂⟩:=h₂
 refine nn ?_
 refine tail_any (ht.is st₂ (i₁.mono p₂)) hl ?_ (hs o i)
 exact wpAny_mono (h₂ F s₂ [o,i] st₂ (.cons (i₁.mono p₂) (.cons i₂ .nil))) (fun _ _ x=> x.shift (p₁.trans p₂)) fun _ _ e=> e
theorem zA8 {a:Addr} {l:List V} {k:Int} {x:V} {Q} (hm:(a,AObj.list l) ∈ H) (h0:0 ≤ k) (hx:l[k.toNat]? = some x) (q:Q x m H) (hz:l.length ≤ 16000000:=by lia):Sub C m H (.ref a) (.int k) Q:=by
 refine ⟨"list",_,.inl ⟨l,hm,rfl⟩,slot_list_getitem.lookup,fun F s vs st i=> ?_⟩
 refine zAj i fun u v q0 q1=> ?_
 obtain rfl:=q0
 obtain ⟨t,rfl⟩:=q1
 obtain ⟨ys,hl,il⟩:=st.objs _ hm
 obtain ⟨y,e,iy⟩:=il.get hx
 have hk:=(List.getElem?_eq_some_iff.mp hx).1
 refine wpAny_getItem_list hl.isList h0 (by lia) (x:=y) (by rw [← Array.getElem?_toList];exact e) (fin st iy q)
theorem zA4 {l:List V} {k:Int} {x:V} {Q} (hk:0 ≤ k) (hz:l.length ≤ 16000000) (hx:l[k.toNat]? = some x) (q:Q x m H):Sub C m H (.tup l) (.int k) Q:=by
 refine ⟨"tuple",_,rfl,slot_tuple_getitem.lookup,fun F s vs st i=> ?_⟩
 refine zAj i fun u v iu q1=> ?_
 refine bc fun nn=> ?_
 obtain ⟨t,rfl⟩:=q1
 obtain ⟨b,xs,rfl,⟨ht,nb⟩,il⟩:=iu
 obtain ⟨y,e,iy⟩:=il.get hx
 refine nn ?_
 have hk':=(List.getElem?_eq_some_iff.mp hx).1
 have hl:=il.size
 refine getItem_tuple (j:=k.toNat) ht (by lia) (by lia) (by rw [hl];unfold seqIndex?;rw [if_neg (by lia:¬ k < 0),if_pos (by simp;lia)]) (by rw [← Array.getElem?_toList];exact e) (fin st iy q)
theorem zK9 {x:Str} {k:Int} {j c:Nat} {Q} (hj:seqIndex? k x.length = some j) (hk:-1000 ≤ k) (hk':k < 1000) (hc:x.cps[j]? = some c) (q:Q (.str ⟨#[c]⟩) m H):Sub C m H (.str x) (.int k) Q:=by
 refine ⟨"str",_,rfl,PySem.F.slot_str_getitem.lookup,fun F s vs st i=> ?_⟩
 refine zAj i fun u v q0 q1=> ?_
 obtain ⟨t',rfl⟩:=q0
 obtain ⟨t,rfl⟩:=q1
 refine getItem_str (c:=c) (by simp;lia) (by rw [hj];exact hc) (finT st zEw q)
theorem zKo:typeLookup (.type "dict") "__getitem__" = pure (some (.builtin "dict.__getitem__")):=slot_dict_getitem.lookup
theorem zG3 {d:Addr} {kvs:List (Atom × V)} {x:Str} {v:V} {Q} (hm:(d,AObj.dictA kvs) ∈ H) (hv:dget (.s x) kvs = some v) (q:Q v m H):Sub C m H (.ref d) (.str x) Q :=
 ⟨"dict",_,.inr (.inl ⟨kvs,hm,rfl⟩),zKo,zMz hm hv q⟩
theorem zG4 {d:Addr} {kvs:List (Atom × V)} {x:Int} {v:V} {Q} (hm:(d,AObj.dictA kvs) ∈ H) (hv:dget (.i x) kvs = some v) (q:Q v m H):Sub C m H (.ref d) (.int x) Q :=
 ⟨"dict",_,.inr (.inl ⟨kvs,hm,rfl⟩),zKo,zN0 hm hv q⟩
noncomputable abbrev EvP (C:Cx) (m:Loc) (H:AH) (e:Option Expr) (Q:V → Loc → AH → Prop):Prop:=T C m H [] (fun _=> evalPart e C.env) Is Q
theorem zU1 {Q} (q:Q .none m H):EvP C m H none Q:=fun F s vs st i=> wpAny_pure (fin st zBc q)
theorem zU0 {e:Expr} {Q} (h:Ev C m H e Q):EvP C m H (some e) Q:=h
noncomputable def zB2 (l u st:Value):Obj:={ cls:=.type "slice",data:=.fields #[l,u,st] }
noncomputable def SlI (C:Cx) (m:Loc) (H:AH) (a l u st:V) (Q:V → Loc → AH → Prop):Prop :=
 ∀ F s va vl vu vs (value slice:Expr) (ops:List Value),St C F m H s → Is C.ban s.heap a va → Is C.ban s.heap l vl → Is C.ban s.heap u vu → Is C.ban s.heap st vs →
  subscripted slice false va (.ref s.heap.objs.size) = operate ops (getItem va (.ref s.heap.objs.size)) →
  wpAny C.M C.A (subscriptTail value slice va (.ref s.heap.objs.size)) (Post C F s Is Q) (C.X F) { s with heap:=s.heap.push (zB2 vl vu vs) }
@[reducible] noncomputable def kSl4 (C:Cx) (Q:V → Loc → AH → Prop) (a l u:V):V → Loc → AH → Prop:=fun st m H=> SlI C m H a l u st Q
@[reducible] noncomputable def kSl3 (C:Cx) (step:Option Expr) (Q:V → Loc → AH → Prop) (a l:V):V → Loc → AH → Prop:=fun u m H=> EvP C m H step (kSl4 C Q a l u)
@[reducible] noncomputable def kSl2 (C:Cx) (upper step:Option Expr) (Q:V → Loc → AH → Prop) (a:V):V → Loc → AH → Prop:=fun l m H=> EvP C m H upper (kSl3 C step Q a l)
@[reducible] noncomputable def kSl1 (C:Cx) (lower upper step:Option Expr) (Q:V → Loc → AH → Prop):V → Loc → AH → Prop:=fun a m H=> EvP C m H lower (kSl2 C upper step Q a)
theorem zTr {value:Expr} {lower upper step:Option Expr} {p pos} {Q}
    (h:Ev C m H value (kSl1 C lower upper step Q))
    (hs:∃ f:Value → Value → List Value,∀ o i,subscripted (.Slice lower upper step p) false o i = operate (f o i) (getItem o i)):Ev C m H (.Subscript value (.Slice lower upper step p) pos) Q:=by
 intro F s vs st ii
 obtain ⟨f,hs⟩:=hs
 refine Subscript_ (andThen (h F s [] st rfl) fun o s₁ a m₁ H₁ i₁ st₁ p₁ h₁=> ?_)
 refine wpAny_Slice (andThen (h₁ F s₁ [] st₁ rfl) fun l s₂ l' m₂ H₂ i₂ st₂ p₂ h₂=> ?_)
 refine andThen (h₂ F s₂ [] st₂ rfl) fun u s₃ u' m₃ H₃ i₃ st₃ p₃ h₃=> ?_
 refine andThen (h₃ F s₃ [] st₃ rfl) fun z s₄ z' m₄ H₄ i₄ st₄ p₄ h₄=> ?_
 exact wpAny_mono (h₄ F s₄ o l u z value _ _ st₄ (i₁.mono (p₂.trans (p₃.trans p₄))) (i₂.mono (p₃.trans p₄)) (i₃.mono p₄) i₄ (hs o _)) (fun _ _ x=> x.shift (p₁.trans (p₂.trans (p₃.trans p₄)))) fun _ _ e=> e
noncomputable def vpart:V → Option Int
 | .int i=> some i
 | _=> none
noncomputable def zHo:V → Bool
 | .int _=> true
 | .none=> true
 | _=> false
theorem Is.part {h:Heap} {a:V} {v:Value} (x:Is B h a v) (y:zHo a = true):IsPart v (vpart a):=by
 cases a with
 | int i=> obtain ⟨t,rfl⟩:=x;exact .int i t
 | none=> obtain rfl:v = .none:=x;exact .none
 | _=> exact absurd y Bool.false_ne_true
theorem zGr {a:Addr} {l:List V} {lo hi step:V} {Q} (hm:(a,AObj.list l) ∈ H) (h1:zHo lo = true) (h2:zHo hi = true) (h3:zHo step = true) (h0:vpart step ≠ some 0) (hz:l.length ≤ 16000000)
    (q:∀ b,Q (.ref b) m ((b,.list (vpick l (vpart lo) (vpart hi) (vpart step))) :: H)):SlI C m H (.ref a) lo hi step Q:=by
 intro F s va vl vu vs value slice ops st ia il iu is hs
 cases ia
 have k:∀ b o,s.heap.get? b = some o → (s.heap.push (zB2 vl vu vs)).get? b = some o:=fun b o e=> Heap.get?_push_of_some _ e
 have st₁:=st.keeps (h':=s.heap.push (zB2 vl vu vs)) (tk:=s.toks) k
 obtain ⟨ys,hl,iy⟩:=st₁.objs _ hm
 have hsz:ys.size ≤ sizeLine:=by
  rw [iy.size,sizeLine_eq];exact omT
 refine tail_any (T:="list") hl.isList.typeIs slot_list_getitem.lookup ?_ hs
 refine wpAny_getItem_list_slice (hsz:=hsz) hl.isList ⟨_,Heap.get?_push_size _ rfl,rfl,rfl⟩ (il.part h1) (iu.part h2) (is.part h3) h0 ?_
 have k2:∀ b o,(s.heap.push (zB2 vl vu vs)).get? b = some o → ((s.heap.push (zB2 vl vu vs)).push { cls:=.type "list",data:=.seq (slicePick ys (vpart lo) (vpart hi) (vpart step)) }).get? b = some o:=fun b o e=> Heap.get?_push_of_some _ e
 refine ⟨_,m,_,zB3,st₁.alloc (ao:=.list _) rfl rfl ⟨_,⟨_,Heap.get?_push_size _ rfl⟩,?_⟩,(Pres.keeps k).trans (Pres.keeps k2),q _⟩
 have z:=(iy.vpick (vpart lo) (vpart hi) (vpart step)).mono (Pres.keeps k2)
 rw [zD5]
 rw [zD5] at z
 simpa using z
theorem zG5 {l:List V} {a:Nat} {Q} (h1:1 ≤ a) (ha:a ≤ l.length) (hz:l.length ≤ 16000000) (q:Q (.tup (l.drop a)) m H):SlI C m H (.tup l) (.int a) .none .none Q:=by
 intro F s va vl vu vs value slice ops st ia il iu is hs
 have k:∀ b o,s.heap.get? b = some o → (s.heap.push (zB2 vl vu vs)).get? b = some o:=fun b o e=> Heap.get?_push_of_some _ e
 have st₁:=st.keeps (h':=s.heap.push (zB2 vl vu vs)) (tk:=s.toks) k
 obtain ⟨b,ys,rfl,⟨ht,nb⟩,iy⟩:=ia.mono (Pres.keeps k)
 obtain ⟨t,rfl⟩:=il
 cases iu;cases is
 have hl:=iy.size
 have ht':IsTup (s.heap.push (zB2 (.int a t) .none .none)) b ys:=ht
 refine tail_any (T:="tuple") (by obtain ⟨o,ho,hc,_⟩:=ht;exact ⟨o,ho,hc⟩) slot_tuple_getitem.lookup ?_ hs
 refine getItem_tuple_from (hsz:=by rw [sizeLine_eq];exact omE) ht' ⟨_,Heap.get?_push_size _ rfl,rfl,rfl⟩ h1 (by rw [hl];exact ha) ?_
 have k2:∀ c o,(s.heap.push (zB2 (.int a t) .none .none)).get? c = some o → ((s.heap.push (zB2 (.int a t) .none .none)).push { cls:=.type "tuple",data:=.seq (List.drop a ys.toList).toArray }).get? c = some o:=fun c o e=> Heap.get?_push_of_some _ e
 exact ⟨_,m,H,IsL.isTuple st₁.newOk (Heap.get?_push_size _ rfl) ((iy.drop a).mono (Pres.keeps k2)),st₁.keeps (tk:=s.toks) k2,(Pres.keeps k).trans (Pres.keeps k2),q⟩
end
end Mine
end
section
namespace Mine
variable {B:Addr → Prop}
section
variable {C:Cx} {F:Addr → Option Obj} {m:Loc} {H:AH} {s:Shared}
theorem zL6 (its:Array Value) (n:Nat) (f:Array Value → Array Value):∃ n',Obj.mapSeq f { cls:=.type "list",data:=.seq its n } = { cls:=.type "list",data:=.seq (f its) n' }:=⟨_,rfl⟩
theorem St.turnList {a:Addr} {l l':List V} {ys:Array Value} {n:Nat} {H':AH} (st:St C F m H s) (u:Upd a (.list l) (.list l') H H') (e:s.heap.get? a = some { cls:=.type "list",data:=.seq ys n }) (f:Array Value → Array Value) {tk:Nat}
    (il:IsL C.ban s.heap l' (f ys).toList):St C F m H' { s with heap:=s.heap.update a (Obj.mapSeq f),toks:=tk } ∧ Pres C.ban s.heap (s.heap.update a (Obj.mapSeq f)):=by
 have sb:=Heap.SameBut.update s.heap a (Obj.mapSeq f)
 refine st.update u rfl (fun b ob hb e=> (sb.2 b (fun q=> hb (by rw [q];exact .head _))).trans e) fun p=> ⟨f ys,?_,il.mono p⟩
 obtain ⟨n',e'⟩:=zL6 ys n f
 exact ⟨n',(Heap.get?_update_self _ e (by rw [e'];rfl)).trans (by rw [e'])⟩
theorem zAn {a:Addr} {l:List V} {v:V} {H':AH} {Q} (u:Upd a (.list l) (.list (l ++ [v])) H H') (hz:l.length ≤ 1000000) (q:Q .none m H'):Call C m H (.con (.builtin "list.append")) [.ref a,v] Q:=by
 intro F s vs st i
 refine IsL.el i fun f r hf i=> ?_
 refine zAj i fun x y q0 iy=> ?_
 obtain rfl:=q0
 cases hf
 obtain ⟨ys,⟨n,e⟩,il⟩:=st.objs _ u.mem
 have hsz:ys.size ≤ sizeLine:=by rw [il.size,sizeLine_eq];exact omT
 refine call_meets PySem.F.slot_list_append ⟨_,e,rfl⟩ PySem.F.entry_list_append (PySem.F.args_list_append_2 _ _) (PySem.list_append a ys n y hsz) ⟨e,?_⟩
 have zz:=st.turnList (tk:=s.toks) u e (fun x=> x.push y) (by rw [Array.toList_push];exact il.append (.cons iy .nil))
 have st':=zz.1
 have p:=zz.2
 exact ⟨.none,m,H',zBc,st',p,q⟩
theorem zIb {a b:Addr} {l l₂:List V} {H':AH} {Q} (u:Upd a (.list l) (.list (l ++ l₂)) H H') (hb:(b,AObj.list l₂) ∈ H) (hz:l.length + l₂.length ≤ 1000000) (q:Q .none m H'):Call C m H (.con (.builtin "list.extend")) [.ref a,.ref b] Q:=by
 intro F s vs st i
 refine IsL.el i fun f r hf i=> ?_
 refine zAj i fun x y q0 q1=> ?_
 obtain rfl:=q0
 obtain rfl:=q1
 cases hf
 obtain ⟨ys,⟨n,e⟩,il⟩:=st.objs _ u.mem
 obtain ⟨zs,⟨n2,e2⟩,il2⟩:=st.objs _ hb
 have hsz:ys.size + zs.size ≤ sizeLine:=by rw [il.size,il2.size,sizeLine_eq];exact omT
 refine call_meets PySem.F.slot_list_extend ⟨_,e,rfl⟩ PySem.F.entry_list_extend (PySem.F.args_list_extend_2 _ _) (AutoSeq1.list_extend_list_list_0 a ys n b zs n2 (extend_door hsz) (Nat.le_trans (Nat.le_add_right _ _) hsz) (Nat.le_succ_of_le hsz)) ⟨e,e2,?_⟩
 have zz:=st.turnList (tk:=s.toks) u e (fun x=> x ++ zs) (by rw [Array.toList_append];exact il.append il2)
 have st':=zz.1
 have p:=zz.2
 exact ⟨.none,m,H',zBc,st',p,q⟩
theorem zU7 {a:Addr} {l:List V} {v:V} {H':AH} {Q} (u:Upd a (.list (l ++ [v])) (.list l) H H') (hz:l.length ≤ 1000000) (q:Q v m H'):Call C m H (.con (.builtin "list.pop")) [.ref a] Q:=by
 intro F s vs st i
 refine IsL.el i fun f r hf i=> ?_
 refine zBf i fun x q0=> ?_
 obtain rfl:=q0
 cases hf
 obtain ⟨ys,⟨n,e⟩,il⟩:=st.objs _ u.mem
 have hs:=il.size
 rw [List.length_append,List.length_singleton] at hs
 have hsz:ys.size ≤ sizeLine:=by rw [hs,sizeLine_eq];exact omA
 obtain ⟨y,ey,iy⟩:=il.get (i:=l.length) (v:=v) (by simp)
 have ey':ys[ys.size - 1]? = some y:=by rw [← Array.getElem?_toList,hs,Nat.add_sub_cancel];exact ey
 refine call_meets PySem.F.slot_list_pop ⟨_,e,rfl⟩ PySem.F.entry_list_pop (PySem.F.args_list_pop_1 _) (PySem.MeetsSeq.list_pop_last a ys n y ey' hsz) ⟨e,?_⟩
 have er:(ys.eraseIdxIfInBounds (ys.size - 1)).toList = ys.toList.take l.length:=by
  unfold Array.eraseIdxIfInBounds
  rw [dif_pos (by lia),Array.toList_eraseIdx,hs,Nat.add_sub_cancel,List.eraseIdx_eq_take_drop_succ,List.drop_eq_nil_of_le (by rw [Array.length_toList];lia),List.append_nil]
 obtain ⟨st',p⟩:=st.turnList (l':=l) (tk:=s.toks) u e (fun xs=> xs.eraseIdxIfInBounds (ys.size - 1)) (by
  rw [er]
  have:=il.take l.length
  rw [List.take_left] at this
  exact this)
 exact ⟨v,m,H',iy.mono p,st',p,q⟩
theorem zRg {a:Addr} {l:List V} {k:Int} {v:V} {H':AH} {Q} (u:Upd a (.list l) (.list (l.set k.toNat v)) H H') (h0:0 ≤ k) (h1:k < l.length) (hz:l.length ≤ 1000000) (q:Q () m H'):SetI C m H (.ref a) (.int k) v Q:=by
 intro F s vs st i
 refine zG9 i fun x y z q0 q1 iz=> ?_
 obtain rfl:=q0
 obtain ⟨t,rfl⟩:=q1
 obtain ⟨ys,⟨n,e⟩,il⟩:=st.objs _ u.mem
 have hs:=il.size
 refine ki_setAt (n:=n) (items:=ys) e h0 (by lia) (by lia) ?_
 have zz:=st.turnList (tk:=s.toks) u e (fun x=> x.setIfInBounds k.toNat z) (by rw [Array.toList_setIfInBounds];exact il.set _ iz)
 have st':=zz.1
 have p:=zz.2
 exact ⟨(),m,H',trivial,st',p,q⟩
theorem zDa {a b:Addr} {l l₂:List V} {Q} (ha:(a,AObj.list l) ∈ H) (hb:(b,AObj.list l₂) ∈ H) (hz:l.length + l₂.length ≤ 1000000) (q:∀ c,Q (.ref c) m ((c,.list (l ++ l₂)) :: H)):Bin C m H .Add (.ref a) (.ref b) Q:=by
 intro F s vs st i
 refine zAj i fun x y q0 q1=> ?_
 obtain rfl:=q0
 obtain rfl:=q1
 obtain ⟨ys,⟨n,e⟩,il⟩:=st.objs _ ha
 obtain ⟨zs,⟨n2,e2⟩,il2⟩:=st.objs _ hb
 have k:∀ c o,s.heap.get? c = some o → (s.heap.push { cls:=.type "list",data:=.seq (ys ++ zs) }).get? c = some o:=fun c o e=> Heap.get?_push_of_some _ e
 refine P.add_list (n:=n) (n2:=n2) e e2 ?_ (by rw [il.size,il2.size,sizeLine_eq];exact omT)
 exact ⟨_,m,_,zB3,st.alloc (ao:=.list _) rfl rfl ⟨_,⟨_,Heap.get?_push_size _ rfl⟩,by rw [Array.toList_append];exact (il.append il2).mono (Pres.keeps k)⟩,Pres.keeps k,q _⟩
theorem zId {l l₂:List V} {Q} (hz:l.length + l₂.length ≤ 1000000) (q:Q (.tup (l ++ l₂)) m H):Bin C m H .Add (.tup l) (.tup l₂) Q:=by
 intro F s vs st i
 refine zAj i fun x y ix iy=> ?_
 refine bc fun nn=> ?_
 obtain ⟨a,ys,rfl,⟨⟨⟨oc,od,ot,os⟩,ho,hc,n,hd⟩,nb⟩,il⟩:=id ix
 obtain ⟨b,zs,rfl,⟨⟨⟨pc,pd,pt,ps⟩,ho2,hc2,n2,hd2⟩,nb2⟩,il2⟩:=id iy
 refine nn ?_
 simp only at hc hd hc2 hd2
 subst hc hd hc2 hd2
 have s1:=il.size
 have s2:=il2.size
 by_cases h1:ys.isEmpty = true
 ·have:l = []:=by
    have:ys.size = 0:=by simpa using h1
    exact List.eq_nil_of_length_eq_zero (by lia)
  subst this
  exact concat_meets ⟨_,ho,rfl⟩ ⟨_,ho2,rfl⟩ noFill_tuple_add seq_tuple_add PySem.F.slot_tuple_add PySem.F.entry_tuple_add (PySem.F.args_tuple_add_2 _ _) (tuple_addW0 a b ys zs n n2 od pd os ps h1) ⟨ho,ho2,fin st iy q⟩
 ·by_cases h2:zs.isEmpty = true
  ·have:l₂ = []:=by
     have:zs.size = 0:=by simpa using h2
     exact List.eq_nil_of_length_eq_zero (by lia)
   subst this
   rw [List.append_nil] at q
   exact concat_meets ⟨_,ho,rfl⟩ ⟨_,ho2,rfl⟩ noFill_tuple_add seq_tuple_add PySem.F.slot_tuple_add PySem.F.entry_tuple_add (PySem.F.args_tuple_add_2 _ _) (tuple_addW1 a b ys zs n n2 od pd os ps h1 h2) ⟨ho,ho2,fin st ix q⟩
  ·refine concat_meets ⟨_,ho,rfl⟩ ⟨_,ho2,rfl⟩ noFill_tuple_add seq_tuple_add PySem.F.slot_tuple_add PySem.F.entry_tuple_add (PySem.F.args_tuple_add_2 _ _)
     (tuple_addW2 a b ys zs n n2 od pd os ps h1 h2 (by rw [s1,s2,sizeLine_eq];exact omT)) ⟨ho,ho2,?_⟩
   have k:∀ c o,s.heap.get? c = some o → (s.heap.push { cls:=.type "tuple",data:=.seq (ys ++ zs) }).get? c = some o:=fun c o e=> Heap.get?_push_of_some _ e
   refine ⟨.tup (l ++ l₂),m,H,⟨_,ys ++ zs,rfl,⟨⟨_,Heap.get?_push_size _ rfl,rfl,_,rfl⟩,st.newOk⟩,?_⟩,st.keeps (tk:=s.toks) k,Pres.keeps k,q⟩
   rw [Array.toList_append];exact (il.append il2).mono (Pres.keeps k)
theorem zA2 {a:Addr} {l:List V} {Q} (hm:(a,AObj.list l) ∈ H) (hz:l.length ≤ 16000000) (q:Q (.int l.length) m H):Call C m H (.con (.builtin "len")) [.ref a] Q:=by
 intro F s vs st i
 refine IsL.el i fun f r hf i=> ?_
 refine zBf i fun x q0=> ?_
 obtain rfl:=q0
 cases hf
 obtain ⟨ys,hl,il⟩:=st.objs _ hm
 have:=il.size
 refine PyProof.Rows.len_list hl.isList (by lia) (finT st zCn ?_)
 rw [this];exact q
theorem zAs {l:List V} {Q} (hz:l.length ≤ 16000000) (q:Q (.int l.length) m H):Call C m H (.con (.builtin "len")) [.tup l] Q:=by
 intro F s vs st i
 refine IsL.el i fun f r hf i=> ?_
 refine zBf i fun x ix=> ?_
 cases hf
 refine bc fun nn=> ?_
 obtain ⟨a,ys,rfl,⟨ht,nb⟩,il⟩:=ix
 refine nn ?_
 have:=il.size
 refine PyProof.Rows.len_tuple ht (by lia) (finT st zCn ?_)
 rw [this];exact q
theorem zLy {x:Str} {Q} (hz:x.length ≤ 16000000) (q:Q (.int x.length) m H):Call C m H (.con (.builtin "len")) [.str x] Q:=by
 intro F s vs st i
 refine IsL.el i fun f r hf i=> ?_
 refine zBf i fun y q0=> ?_
 obtain ⟨t,rfl⟩:=q0
 cases hf
 exact PyProof.Rows.len_str (by lia) (finT st zCn q)
theorem zBl {a:Addr} {l:List V} {Q} (hm:(a,AObj.list l) ∈ H) (hz:l.length ≤ 16000000) (q:Q (.tup l) m H):Call C m H (.con (.type "tuple")) [.ref a] Q:=by
 intro F s vs st i
 refine IsL.el i fun f r hf i=> ?_
 refine zBf i fun x q0=> ?_
 obtain rfl:=q0
 cases hf
 obtain ⟨ys,hl,il⟩:=st.objs _ hm
 refine call_tuple_list hl.isList (fun h' k=> ?_) (by rw [il.size,sizeLine_eq];exact omT)
 have k2:∀ c o,s.heap.get? c = some o → (h'.push { cls:=.type "tuple",data:=.seq ys }).get? c = some o:=fun c o e=> Heap.get?_push_of_some _ (k c o e)
 have nb:¬ C.ban h'.objs.size:=(st.keeps (tk:=s.toks) k).newOk
 exact ⟨.tup l,m,H,⟨_,ys,rfl,⟨⟨_,Heap.get?_push_size _ rfl,rfl,_,rfl⟩,nb⟩,il.mono (Pres.keeps k2)⟩,st.keeps (tk:=s.toks) k2,Pres.keeps k2,q⟩
theorem zEx {l:List V} {Q} (q:Q (.tup l) m H):Call C m H (.con (.type "tuple")) [.tup l] Q:=by
 intro F s vs st i
 refine IsL.el i fun f r hf i=> ?_
 refine zBf i fun x ix=> ?_
 cases hf
 refine bc fun nn=> ?_
 obtain ⟨a,ys,rfl,⟨ht,nb⟩,il⟩:=id ix
 refine nn ?_
 exact call_tuple_same ht (fin st ix q)
theorem St.newList {l:List V} {ys:Array Value} {h':Heap} {c:Nat} {tk:Nat} (st:St C F m H s) (k:∀ b o,s.heap.get? b = some o → h'.get? b = some o) (e:h'.get? s.heap.objs.size = some { cls:=.type "list",data:=.seq ys c }) (il:IsL C.ban s.heap l ys.toList) :
    St C F m ((s.heap.objs.size,.list l) :: H) { s with heap:=h',toks:=tk }:=by
 have y:=st.keeps (h':=h') (tk:=tk) k
 have n0:=st.newApart (b:=s.heap.objs.size) (zAa (Nat.le_refl _))
 refine ⟨y.ok,y.gens,y.os,y.base,y.raw,y.bl,y.fr,fun p hp=> ?_,?_,fun b hb=> ?_,st.ups1 y (zAa (Nat.le_refl _))⟩
 ·rcases List.mem_cons.mp hp with rfl | hp
  ·exact ⟨ys,⟨c,e⟩,il.mono (Pres.keeps k)⟩
  ·exact y.objs p hp
 ·have nd:=List.nodup_cons.mp st.nodup
  have m0:¬ (_ ∨ _):=fun h=> n0.1 (List.mem_cons.mpr h)
  refine List.nodup_cons.mpr ⟨fun hm=> ?_,List.nodup_cons.mpr ⟨fun hm=> m0 (.inr hm),nd.2⟩⟩
  rcases List.mem_cons.mp hm with q | hm
  ·exact m0 (.inl q.symm)
  ·exact nd.1 hm
 ·rcases List.mem_cons.mp hb with rfl | hb
  ·exact st.fresh _ (.head _)
  ·rcases List.mem_cons.mp hb with rfl | hb
   ·exact n0.2.1
   ·exact st.fresh _ (.tail _ hb)
theorem zBw {a:Addr} {l:List V} {Q} (hm:(a,AObj.list l) ∈ H) (hz:l.length ≤ 16000000) (q:∀ b,Q (.ref b) m ((b,.list l) :: H)):Call C m H (.con (.type "list")) [.ref a] Q:=by
 intro F s vs st i
 refine IsL.el i fun f r hf i=> ?_
 refine zBf i fun x q0=> ?_
 obtain rfl:=q0
 cases hf
 refine bc fun nn=> ?_
 obtain ⟨ys,⟨n,e⟩,il⟩:=st.objs _ hm
 refine nn ?_
 refine call_list_seq a (T:="list") (items:=ys) (n:=n) (.inl rfl) e rfl rfl (fun h' c' k e'=> ?_) (by rw [il.size,sizeLine_eq];exact omT)
 exact ⟨_,m,_,zB3,st.newList (tk:=s.toks) k e' il,Pres.keeps k,q _⟩
end
end Mine
end
section
namespace Mine
variable {B:Addr → Prop}
section
variable {C:Cx} {F:Addr → Option Obj} {m:Loc} {H:AH} {s:Shared}
theorem zO0 {a:Int} {Q} (q:Q (.int (-a)) m H):Op C m H [.int a] (fst (unaryOp .USub)) Q:=by
 intro F s vs st i
 refine zBf i fun x q0=> ?_
 obtain ⟨t,rfl⟩:=q0
 exact neg_int (finT st zCn q)
@[reducible] noncomputable def kNeg (C:Cx) (Q:V → Loc → AH → Prop):V → Loc → AH → Prop:=fun a m H=> Op C m H [a] (fst (unaryOp .USub)) Q
theorem zXn {x pos} {Q} (h:Ev C m H x (kNeg C Q)):Ev C m H (.UnaryOp .USub x pos) Q:=by
 intro F s vs st i
 refine wpAny_UnaryOp (andThen (h F s [] st rfl) fun v s₁ a m₁ H₁ i₁ st₁ p₁ h₁=> ?_)
 exact wpAny_mono (h₁ F s₁ [v] st₁ (.cons i₁ .nil)) (fun _ _ x=> x.shift p₁) fun _ _ e=> e
theorem St.newDictA (st:St C F m H s):St C F m ((s.heap.objs.size,.dictA []) :: H) { s with heap:=s.heap.push { cls:=.type "dict",data:=.dict #[] } } :=
 st.alloc (ao:=.dictA []) rfl rfl ⟨⟨[],⟨_,#[],0,Heap.get?_push_size _ rfl,⟨rfl,rfl,rfl⟩,rfl,fun e he=> by simp at he,.nil,List.nodup_nil⟩,rfl⟩,st.newSys⟩
theorem zTv {pos} {Q} (q:∀ d,Q (.ref d) m ((d,.dictA []) :: H)):Ev C m H (.Dict [] [] pos) Q:=by
 intro F s vs st i
 exact wpAny_Dict_empty ⟨_,m,_,zB3,st.newDictA,Pres.keeps fun b o e=> Heap.get?_push_of_some _ e,q _⟩
theorem zKf {pos} {Q} (q:∀ d,Q (.ref d) m ((d,.dictT []) :: H)):Ev C m H (.Dict [] [] pos) Q:=by
 intro F s vs st i
 refine wpAny_Dict_empty ⟨_,m,_,zB3,st.alloc (ao:=.dictT []) rfl rfl ⟨⟨[],Heap.DictOfH.new s.heap,rfl⟩,st.newSys⟩,Pres.keeps fun b o e=> Heap.get?_push_of_some _ e,q _⟩
end
section
variable {prog:Program} {w:World} {A:Around} {E:Value → Shared → Prop} {s:Shared} {κ:Type} [DecidableEq κ] {knd:HeapKind prog w κ}
theorem zF7 {d a:Addr} {xs:List (κ × Addr × Value)} {k:κ} {dflt:Value} {Q:Value → Shared → Prop} (hu:knd.room A) (hkey:knd.is s.heap k a) (hm:s.heap.DictOfH knd d xs)
    (h1:∀ p,atKey xs k = some p → Q p.2 { s with toks:=s.toks + knd.draws k })
    (h2:atKey xs k = none → ∀ h',h'.DictOfH knd d (xs ++ [(k,a,dflt)]) → Heap.SameBut d s.heap h' → Q dflt { s with heap:=h',toks:=s.toks + knd.draws k })
    (hsz:xs.length ≤ sizeLine):wpAny (model prog w) A (dictSetDefault d (.ref a) dflt) Q E s:=by
 refine bc fun nn=> ?_
 obtain ⟨o,es,ep,ho,hc,hd,he,his,hn⟩:=hm
 refine nn ?_
 unfold dictSetDefault
 refine wpAny_holding ?_
 refine wpAny_bind (knd.pyHash hu hkey (wpAny_bind (wpAny_dictFind_heap (s:={ s with toks:=s.toks + knd.draws k }) hu hkey ho hd he his hn ?_ ?_)))
 ·intro hno
  have hz:es.size ≤ sizeLine:=by rw [size_of_entries he];exact hsz
  have hnot:k ∉ xs.map (·.1):=not_mem_keys_of_get hno
  refine wpAny_bind (wpAny_rule (wpAny_bind (wpAny_updateDictKeys (hz:=hz) (s:={ s with toks:=s.toks + knd.draws k }) ho hd (wpAny_pure (h2 (atKey_none_of_get hno) _
   ⟨_,_,ep + 1,Heap.get?_update_self _ ho (Obj.isFreed_of_dict (Obj.data_mapDictKeys hd _)),hc.mapDictKeys _,Obj.data_mapDictKeys hd _,?_,?_,?_⟩ (Heap.SameBut.update ..))))))
  ·simp [he,entryOfKey]
  ·intro x hx
   rcases List.mem_append.mp hx with hx | hx
   ·exact knd.keeps (his x hx) ho hd (Heap.SameBut.update ..)
   ·rw [List.mem_singleton.mp hx]
    exact knd.keeps hkey ho hd (Heap.SameBut.update ..)
  ·rw [List.map_append,List.nodup_append]
   refine ⟨hn,by simp,fun x hx y hy e=> hnot ?_⟩
   have:y = k:=by simpa using hy
   rw [← this,← e];exact hx
 ·intro j p hj
  refine wpAny_bind (wpAny_dictEntries (s:={ s with toks:=s.toks + knd.draws k }) ho hd ?_)
  rw [entry_at he j,hj]
  exact wpAny_bind (wpAny_rule (wpAny_pure (h1 p (atKey_of_get hn hj))))
theorem zDj (d a:Addr) (hd:(d == sysModules) = false) (dflt:Value) :
    MeetsIn prog w (Builtin.«dict.setdefault» ⟨[.ref d,.ref a,dflt],[]⟩) (fun A R s=> knd.room A.in1 ∧ ∃ k xs,knd.is s.heap k a ∧ s.heap.DictOfH knd d xs ∧ xs.length ≤ sizeLine ∧
     (∀ p,atKey xs k = some p → R (.ok (.ret p.2)) { s with toks:=s.toks + knd.draws k }) ∧
     (atKey xs k = none → ∀ h',h'.DictOfH knd d (xs ++ [(k,a,dflt)]) → Heap.SameBut d s.heap h' → R (.ok (.ret dflt)) { s with heap:=h',toks:=s.toks + knd.draws k })) :=
 .of_wp fun A R s z=> by
  refine bc fun nn=> ?_
  obtain ⟨hu,k,xs,hkey,hm,hz,h1,h2⟩:=z
  refine nn ?_
  unfold Builtin.«dict.setdefault»
  refine wpAny_bind ?_
  unfold Builtin.Dict.keyAndDefault
  refine wpAny_bind (wpAny_notOrdered_dict hm.typeIs ?_)
  refine wpAny_pure (a:=(d,Value.ref a,some dflt)) ?_
  show wpAny _ _ (if (d == sysModules) = true then _ else (dictSetDefault d (.ref a) dflt >>= _)) _ _ s
  rw [if_neg (by rw [hd];exact Bool.false_ne_true)]
  exact wpAny_bind (zF7 hu hkey hm (fun p hp=> wpAny_pure ⟨p.2,rfl,h1 p hp⟩) (fun hn h' hm' hs'=> wpAny_pure ⟨dflt,rfl,h2 hn h' hm' hs'⟩) hz)
end
section
variable {C:Cx} {F:Addr → Option Obj} {m:Loc} {H:AH} {s:Shared}
theorem zCk {d:Addr} {kvs:List (List Atom × V)} {ks:List Atom} {l:List V} {v x:V} {Q} (hm:(d,AObj.dictT kvs) ∈ H) (hl:l = ks.map Atom.v) (hv:dget ks kvs = some x) (hz:kvs.length ≤ 1000000) (q:Q x m H) :
    Call C m H (.con (.builtin "dict.setdefault")) [.ref d,.tup l,v] Q:=by
 intro F s vs st i
 subst hl
 refine IsL.el i fun f r hf i=> ?_
 refine zG9 i fun a b c q0 ib ic=> ?_
 obtain rfl:=q0
 cases hf
 refine bc fun nn=> ?_
 obtain ⟨t,rfl,nb⟩:=zNa ib
 obtain ⟨⟨xs,hd,ik⟩,ns⟩:=st.objs _ hm
 obtain ⟨p,e,ip⟩:=ik.get hv
 refine nn ?_
 refine call_meetsIn PySem.F.slot_dict_setdefault hd.typeIs PySem.F.entry_dict_setdefault (PySem.F.args_dict_setdefault_3 _ _ _) (zDj (knd:=tupleKind (zAc C.prog C.w)) d t (Sys.beq ns) c)
  ⟨st.room,ks,xs,zNb ib,hd,by rw [ik.length,sizeLine_eq];exact omT,fun p' e'=> ?_,fun e'=> ?_⟩
 ·rw [e] at e';cases e';exact finT st ip q
 ·exact nn3 e e'
theorem zD3 {d:Addr} {kvs:List (List Atom × V)} {ks:List Atom} {l:List V} {v:V} {H':AH} {Q} (u:Upd d (AObj.dictT kvs) (AObj.dictT (dput ks v kvs)) H H') (hl:l = ks.map Atom.v) (hv:dget ks kvs = none) (hz:kvs.length ≤ 1000000) (q:Q v m H') :
    Call C m H (.con (.builtin "dict.setdefault")) [.ref d,.tup l,v] Q:=by
 intro F s vs st i
 subst hl
 refine IsL.el i fun f r hf i=> ?_
 refine zG9 i fun a b c q0 ib ic=> ?_
 obtain rfl:=q0
 cases hf
 obtain ⟨t,rfl,nb⟩:=zNa ib
 obtain ⟨⟨xs,hd,ik⟩,ns⟩:=st.objs _ u.mem
 have e:=ik.getNone hv
 refine call_meetsIn PySem.F.slot_dict_setdefault hd.typeIs PySem.F.entry_dict_setdefault (PySem.F.args_dict_setdefault_3 _ _ _) (zDj (knd:=tupleKind (zAc C.prog C.w)) d t (Sys.beq ns) c)
  ⟨st.room,ks,xs,zNb ib,hd,by rw [ik.length,sizeLine_eq];exact omT,fun p' e'=> ?_,fun e' h' hd' sb=> ?_⟩
 ·exact nn2 e e'
 ·have zz:=st.update (h':=h') (tk:=s.toks + (tupleKind (zAc C.prog C.w)).draws ks) u rfl (fun b ob hb e=> (sb.2 b (fun q=> hb (by rw [q];exact .head _))).trans e) (fun p=> ⟨⟨_,hd',(ik.putNew ic nb hv).mono p⟩,ns⟩)
  have st':=zz.1
  have p:=zz.2
  exact ⟨v,m,H',ic.mono p,st',p,q⟩
end
end Mine
end
section
namespace Mine
variable {B:Addr → Prop}
noncomputable def zEt:List Str → Bool
 | []=> true
 | x :: r=> !(r.contains x) && zEt r
theorem zBu:∀ {l:List Str},zEt l = true → l.Nodup
 | [],_=> List.nodup_nil
 | x :: r,h=> by
  unfold zEt at h
  rw [Bool.and_eq_true] at h
  refine List.nodup_cons.mpr ⟨fun hm=> ?_,zBu h.2⟩
  have:=h.1
  rw [List.contains_iff_mem.mpr hm] at this;exact Bool.noConfusion this
noncomputable def okFn (w:World) (fd:FuncData) (names:List Str):Bool :=
 codeIn (KK w) fd.code fd.qualname && zEt names && !fd.scope.isCoroutine && !fd.scope.isGenerator && decide (fd.scope.kind = .function) && decide (fd.globals = mainGlobals) && decide (fd.builtins = builtinsNs) &&
  names.all (fun x=> decide (fd.scope.names.lookup x = some .local)) && fd.scope.names.all fun x=> decide (x.2 ≠ .cell)
noncomputable def okFnC (w:World) (fd:FuncData) (names:List Str):Bool :=
 codeIn (KK w) fd.code fd.qualname && zEt names && !fd.scope.isCoroutine && !fd.scope.isGenerator && decide (fd.scope.kind = .function) && decide (fd.globals = mainGlobals) && decide (fd.builtins = builtinsNs) && decide (fd.closure = [])
section
variable {C:Cx} {F:Addr → Option Obj} {m:Loc} {H:AH} {s:Shared}
end
end Mine
end
section
namespace Mine
variable {B:Addr → Prop}
noncomputable def zNy (L:Addr) (h:Heap):List (Addr × Obj):=(List.range h.objs.size).filterMap fun a=> if a = L then none else (h.get? a).map (a,·)
theorem mem_allBut {L:Addr} {h:Heap} {p:Addr × Obj}:p ∈ zNy L h ↔ p.1 ≠ L ∧ h.get? p.1 = some p.2:=by
 unfold zNy
 rw [List.mem_filterMap]
 constructor
 ·rintro ⟨a,ha,e⟩
  by_cases q:a = L
  ·exact nn2 (if_pos q) e
  ·rw [if_neg q,Option.map_eq_some_iff] at e
   obtain ⟨o,h1,rfl⟩:=e
   exact ⟨q,h1⟩
 ·rintro ⟨h1,h2⟩
  refine ⟨p.1,List.mem_range.mpr (Heap.lt_size h2),?_⟩
  rw [if_neg h1,h2];rfl
section
variable {C:Cx} {F:Addr → Option Obj} {m:Loc} {H:AH} {s:Shared}
theorem zLf (a:Addr):({}:Heap).get? a = none:=by unfold Heap.get?;exact rfl
theorem St.opn (st:St C F m H s):∃ mm,Fr {} C.L s.heap mm ∧ News {} C.L s.heap (zNy C.L s.heap) ∧
    ∀ h' tk,Fr {} C.L h' mm → News {} C.L h' (zNy C.L s.heap) → St C F m H { s with heap:=h',toks:=tk } ∧ Pres C.ban s.heap h' ∧ ∀ b o,b ≠ C.L → s.heap.get? b = some o → h'.get? b = some o:=by
 refine bc fun nn=> ?_
 obtain ⟨f,hn,hf⟩:=st.fr
 refine nn ?_
 refine ⟨f,⟨hn,fun b o e=> (by rw [zLf] at e;cases e),Nat.zero_le _⟩,fun p hp=> ⟨(mem_allBut.mp hp).2,(mem_allBut.mp hp).1,zLf _⟩,fun h' tk F' N'=> ?_⟩
 have k:∀ b o,b ≠ C.L → s.heap.get? b = some o → h'.get? b = some o:=fun b o hb e=> (N' (b,o) (mem_allBut.mpr ⟨hb,e⟩)).1
 have nd:=List.nodup_cons.mp st.nodup
 have p:Pres C.ban s.heap h':=fun b xs nb t=> by
  refine bc fun nn=> ?_
  obtain ⟨o,ho,r⟩:=t
  refine nn ?_
  refine ⟨o,k b o (fun e=> ?_) ho,r⟩
  refine bc fun nn=> ?_
  obtain ⟨o',_,q⟩:=st.there (b:=C.L) (.head _)
  refine nn ?_
  exact q xs ⟨o,e ▸ ho,r⟩
 refine ⟨⟨st.ok,st.gens,st.os,st.base,fun b o e=> k b o (fun q=> ?_) (st.raw b o e),st.bl,⟨f,F'.ns,fun x=> (hf x).mono p⟩,fun q hq=> (st.objs q hq).move (fun b hb ob e=> k b ob (fun q'=> nd.1 (q' ▸ zBh hq hb)) e) p,st.nodup,st.fresh,fun q hq=> ⟨(st.ups q hq).1.move (fun o e=> k _ o (fun z=> (st.ups q hq).2.2 (z ▸ .head _)) e) p,(st.ups q hq).2⟩⟩,p,k⟩
 have:=st.fresh C.L (.head _)
 rw [q] at e;exact nn3 e this
theorem St.listAt {l:List V} {ys:Array Value} {c:Nat} {h':Heap} {tk:Nat} {D:Addr} (st:St C F m H s) (hD:s.heap.get? D = none) (st':St C F m H { s with heap:=h',toks:=tk }) (e:h'.get? D = some { cls:=.type "list",data:=.seq ys c }) (il:IsL C.ban h' l ys.toList) :
    St C F m ((D,.list l) :: H) { s with heap:=h',toks:=tk }:=by
 have n0:=st.newApart hD
 refine ⟨st'.ok,st'.gens,st'.os,st'.base,st'.raw,st'.bl,st'.fr,fun p hp=> ?_,?_,fun b hb=> ?_,st.ups1 st' hD⟩
 ·rcases List.mem_cons.mp hp with rfl | hp
  ·exact ⟨ys,⟨c,e⟩,il⟩
  ·exact st'.objs p hp
 ·have nd:=List.nodup_cons.mp st'.nodup
  have m0:¬ (_ ∨ _):=fun h=> n0.1 (List.mem_cons.mpr h)
  refine List.nodup_cons.mpr ⟨fun hm=> ?_,List.nodup_cons.mpr ⟨fun hm=> m0 (.inr hm),nd.2⟩⟩
  rcases List.mem_cons.mp hm with q | hm
  ·exact m0 (.inl q.symm)
  ·exact nd.1 hm
 ·rcases List.mem_cons.mp hb with rfl | hb
  ·exact st'.fresh _ (.head _)
  ·rcases List.mem_cons.mp hb with rfl | hb
   ·exact n0.2.1
   ·exact st'.fresh _ (.tail _ hb)
theorem zCj {n:Int} {Q} (hn:n.natAbs < 2 ^ 60) (q:Q (.str (Str.ofString (toString n))) m H):Call C m H (.con (.type "str")) [.int n] Q:=by
 intro F s vs st i
 refine IsL.el i fun f r hf i=> ?_
 refine zBf i fun x q0=> ?_
 obtain ⟨t,rfl⟩:=q0
 cases hf
 refine P.str_of_int ?_ (finT st zEw q)
 by_cases h:n.natAbs = 0
 ·rw [h];decide
 ·have:=(Nat.log2_lt h).mpr hn;exact omTl
theorem zM0 {n:Int} {Q} (q:Q (.int n) m H):Call C m H (.con (.type "int")) [.int n] Q:=by
 intro F s vs st i
 refine IsL.el i fun f r hf i=> ?_
 refine zBf i fun x q0=> ?_
 obtain ⟨t,rfl⟩:=q0
 cases hf
 exact call_int_int (fin st zCn q)
theorem zUy {h:Heap} {ys:List Str}:∀ {vs:List Value},IsL B h (ys.map V.str) vs → StrsAre vs ys:=by
 induction ys with
 | nil =>
  intro _ e
  cases e;exact .nil
 | cons y r ih =>
  intro _ ⟨x,r',e,⟨t,i⟩,b⟩
  subst e;subst i;exact .cons y t (ih b)
theorem zFq {x:Str} {a:Addr} {ys:List Str} {Q} (hm:(a,AObj.list (ys.map V.str)) ∈ H) (hz:(ys.map (·.length)).sum + ys.length * x.length ≤ 16777216) (q:Q (.str (Str.join x ys)) m H):Call C m H (.con (.builtin "str.join")) [.str x,.ref a] Q:=by
 intro F s vs st i
 refine IsL.el i fun f r hf i=> ?_
 refine zAj i fun u v q0 q1=> ?_
 obtain ⟨t,rfl⟩:=q0
 obtain rfl:=q1
 cases hf
 obtain ⟨zs,hl,il⟩:=st.objs _ hm
 refine PyProof.Rows.join_list hl.isList (zUy il) hz fun t' k=> finT st zEw ?_
 show Q (.str (Builtin.Str.glued x ys)) m H
 rw [StrLaws.glued_eq_join];exact q
theorem zLz {x:Str} {Q} (q:Q (.bool (Txt.isspace x)) m H):Call C m H (.con (.builtin "str.isspace")) [.str x] Q:=by
 intro F s vs st i
 refine IsL.el i fun f r hf i=> ?_
 refine zBf i fun u q0=> ?_
 obtain ⟨t,rfl⟩:=q0
 cases hf
 exact SC.isspace (fin st zBd q)
theorem zNq {h:Heap}:∀ l:List (Str × Tok),IsL B h ((l.map (·.1)).map V.str) (strValues l)
 | []=> rfl
 | p :: r=> .cons ⟨p.2,rfl⟩ (zNq r)
theorem zEp {x y:Str} {Q} (hy:(y.length == 0) = false) (hz:x.length ≤ 16000000) (q:∀ b,Q (.ref b) m ((b,.list ((Txt.split x y).map V.str)) :: H)):Call C m H (.con (.builtin "str.split")) [.str x,.str y] Q:=by
 intro F s vs st i
 refine IsL.el i fun f r hf i=> ?_
 refine zAj i fun u v q0 q1=> ?_
 obtain ⟨t,rfl⟩:=q0
 obtain ⟨t2,rfl⟩:=q1
 cases hf
 obtain ⟨mm,F0,N0,back⟩:=st.opn
 refine splitN1 F0 N0 hy (fun l h' k e F1 N1=> ?_) (by rw [sizeLine_eq];exact omA)
 obtain ⟨st',p,kk⟩:=back h' k F1 fun q hq=> N1 q (.tail _ hq)
 refine ⟨_,m,_,zB3,st.listAt (zAa (Nat.le_refl _)) st' (N1 _ (.head _)).1 ?_,p,q _⟩
 rw [← e];simpa using zNq l
theorem zHp {h:Heap} {ns:List Int}:∀ {vs:List Value},IsL B h (ns.map V.int) vs → ∃ xs:List (Int × Tok),vs = xs.map (fun p=> Value.int p.1 p.2) ∧ xs.map (·.1) = ns:=by
 induction ns with
 | nil =>
  intro _ e
  cases e;exact ⟨[],rfl,rfl⟩
 | cons n r ih =>
  intro _ ⟨x,r',e,⟨t,i⟩,b⟩
  subst e;subst i
  obtain ⟨xs,rfl,h2⟩:=ih b
  exact ⟨(n,t) :: xs,rfl,by rw [List.map_cons,h2]⟩
theorem zVg {h:Heap} {ns:List Int}:∀ {vs:List Value},IsL B h (ns.map V.int) vs → IntsAre vs ns:=by
 induction ns with
 | nil =>
  intro _ e
  cases e;exact .nil
 | cons n r ih =>
  intro _ ⟨x,r',e,⟨t,i⟩,b⟩
  subst e;subst i;exact .cons n t (ih b)
theorem zNr {h:Heap} {ns:List Int} {vs:List Value} (x:IntsAre vs ns):IsL B h (ns.map V.int) vs:=by
 induction x with
 | nil=> exact rfl
 | cons n t r ih=> exact .cons ⟨t,rfl⟩ ih
theorem zU6 {a:Addr} {ns:List Int} {Q} (hm:(a,AObj.list (ns.map V.int)) ∈ H) (q:∀ k,Q (.int k) m H):Call C m H (.con (.builtin "sum")) [.ref a] Q:=by
 intro F s vs st i
 refine IsL.el i fun f r hf i=> ?_
 refine zBf i fun u q0=> ?_
 obtain rfl:=q0
 cases hf
 refine bc fun nn=> ?_
 obtain ⟨zs,hl,il⟩:=st.objs _ hm
 obtain ⟨xs,e,_⟩:=zHp il
 refine nn ?_
 have hl2:s.heap.IsList a (intItems xs.toArray):=by
  have:zs = intItems xs.toArray:=by apply Array.toList_inj.mp;rw [e];simp [intItems]
  rw [← this];exact hl.isList
 refine call_sum_walkG (iter_intList hl2 fun s₂ e2 stt hfp hlI=> ?_)
 subst e2
 refine ⟨_,_,_,_,_,_,numAt xs.toArray,rfl,Walks.list (A:=C.A.in1) st.ok.hh _ a hlI (intItems xs.toArray),stt,hfp,(fun _ _=> intItems_at),fun h' tk t' hk=> ?_⟩
 have kk:=old_kept hk
 exact ⟨.int _,m,H,⟨t',rfl⟩,st.keeps (tk:=tk) kk,Pres.keeps kk,q _⟩
theorem zU8 {a:Addr} {ns:List Int} {Q} (hm:(a,AObj.list (ns.map V.int)) ∈ H) (hne:0 < ns.length) (q:∀ k,Q (.int k) m H):Call C m H (.con (.builtin "max")) [.ref a] Q:=by
 intro F s vs st i
 refine IsL.el i fun f r hf i=> ?_
 refine zBf i fun u q0=> ?_
 obtain rfl:=q0
 cases hf
 obtain ⟨zs,hl,il⟩:=st.objs _ hm
 obtain ⟨xs,e,e2⟩:=zHp il
 have hl2:s.heap.IsList a (intItems xs.toArray):=by
  have:zs = intItems xs.toArray:=by apply Array.toList_inj.mp;rw [e];simp [intItems]
  rw [← this];exact hl.isList
 refine max_intList st.ok.hh hl2 (by rw [← e2] at hne;simpa using hne) fun v h' tk hv kk=> ?_
 obtain ⟨t,rfl⟩:=intItems_at hv
 exact ⟨.int _,m,H,⟨t,rfl⟩,st.keeps (tk:=tk) kk,Pres.keeps kk,q _⟩
theorem zC2 {n:Int} {Q} (q:∀ r,Q (.ref r) m ((r,.rng n) :: H)):Call C m H (.con (.type "range")) [.int n] Q:=by
 intro F s vs st i
 refine IsL.el i fun f r hf i=> ?_
 refine zBf i fun u q0=> ?_
 obtain ⟨t,rfl⟩:=q0
 cases hf
 have y:=st.alloc (ao:=.rng n) (o:={ cls:=.type "range",data:=.fields #[.int 0 s.toks,.int n t,.int 1 (s.toks + 1)] }) rfl rfl ⟨_,_,_,Heap.get?_push_size _ rfl⟩
 exact call_range_1 ⟨_,m,_,zB3,y.tok,Pres.keeps fun b o e=> Heap.get?_push_of_some _ e,q _⟩
theorem zIa {a:Addr} {ns:List Int} {Q} (hm:(a,AObj.list (ns.map V.int)) ∈ H) (hz:ns.length < 64) (q:∀ b (ms:List Int),ms.Perm ns → ms.Pairwise (· ≤ ·) → Q (.ref b) m ((b,.list (ms.map V.int)) :: H)):Call C m H (.con (.builtin "sorted")) [.ref a] Q:=by
 intro F s vs st i
 refine IsL.el i fun f r hf i=> ?_
 refine zBf i fun u q0=> ?_
 obtain rfl:=q0
 cases hf
 obtain ⟨zs,hl,il⟩:=st.objs _ hm
 have hi:=zVg il
 refine sorted_ints (vs:=zs.toList) (by simpa using hl.isList) hi (by rw [hi.length];exact hz) fun out ms h1 h2 h3=> ?_
 obtain ⟨c,e⟩:=sortedAll_at s.heap zs.toList out
 have k:∀ b o,s.heap.get? b = some o → (sortedAll s.heap zs.toList out).get? b = some o:=fun b o e=> sortedAll_old e
 exact ⟨_,m,_,zB3,st.listAt (zAa (Nat.le_succ _)) (st.keeps (tk:=s.toks) k) e (by simpa using zNr h1),Pres.keeps k,q _ ms h2 h3⟩
end
end Mine
end
section
namespace Mine
variable {B:Addr → Prop}
mutual
noncomputable def V.dat:V → Dat
 | .none=> .none
 | .bool b=> .bool b
 | .int i=> .int i
 | .str x=> .str x
 | .tup l=> .tuple (dats l)
 | .ref _=> .none
 | .con _=> .none
noncomputable def dats:List V → List Dat
 | []=> []
 | v :: r=> v.dat :: dats r
end
mutual
noncomputable def vok:Nat → V → Bool
 | _,.none=> true
 | _,.int _=> true
 | _,.str x=> PyData.strOk x
 | n + 1,.tup l=> voks n l
 | 0,.tup _=> false
 | _,.bool _=> false
 | _,.ref _=> false
 | _,.con _=> false
noncomputable def voks:Nat → List V → Bool
 | _,[]=> true
 | n,v :: r=> vok n v && voks n r
end
theorem zJa {n:Nat} {l:List V}:vok (n + 1) (.tup l) = voks n l:=rfl
theorem zKn {n:Nat} {v:V} {l:List V}:voks n (v :: l) = (vok n v && voks n l):=rfl
theorem zFz {l:List V}:V.dat (.tup l) = .tuple (dats l):=rfl
theorem zLh {v:V} {l:List V}:dats (v :: l) = v.dat :: dats l:=rfl
theorem voks_iff {n:Nat} {l:List V}:voks n l = true ↔ ∀ v ∈ l,vok n v = true:=by
 induction l with
 | nil=> exact ⟨fun _ _ h=> nM h,fun _=> rfl⟩
 | cons v r ih=> rw [zKn,Bool.and_eq_true,ih,List.forall_mem_cons]
theorem zFl (l:List V):dats l = l.map V.dat:=by
 induction l with
 | nil=> rfl
 | cons v r ih=> rw [zLh,ih];rfl
theorem zJc:∀ (n:Nat) (v:V),vok n v = true → kqdOk n v.dat = true:=by
 intro n
 induction n with
 | zero =>
  intro v h
  cases v <;> first | rfl | exact Bool.noConfusion h | exact h
 | succ n ih =>
  intro v h
  cases v with
  | tup l =>
   rw [zJa,voks_iff] at h
   rw [zFz,kqdOk,zFl,List.all_map,List.all_eq_true]
   intro x hx
   exact ih x (h x hx)
  | none=> rfl
  | int i=> rfl
  | str x=> exact h
  | bool b=> exact Bool.noConfusion h
  | ref a=> exact Bool.noConfusion h
  | con c=> exact Bool.noConfusion h
theorem zNx {u:V} {k:Nat} (h2:vok k u = true) (e:Dat.none = u.dat):V.none = u:=by
 cases u <;> first | rfl | exact Dat.noConfusion e | (cases k <;> exact Bool.noConfusion h2)
theorem zR4 {i:Int} {u:V} {k:Nat} (h2:vok k u = true) (e:Dat.int i = u.dat):V.int i = u:=by
 cases u <;> first | exact Dat.noConfusion e | exact congrArg V.int (Dat.int.inj e) | (cases k <;> exact Bool.noConfusion h2)
theorem zR3 {x:Str} {u:V} {k:Nat} (h2:vok k u = true) (e:Dat.str x = u.dat):V.str x = u:=by
 cases u <;> first | exact Dat.noConfusion e | exact congrArg V.str (Dat.str.inj e) | (cases k <;> exact Bool.noConfusion h2)
theorem zR5:∀ (n:Nat) (v u:V) (k:Nat),vok n v = true → vok k u = true → v.dat = u.dat → v = u:=by
 intro n
 induction n with
 | zero =>
  intro v u k h1 h2 e
  cases v <;> first | exact Bool.noConfusion h1 | exact zNx h2 e | exact zR4 h2 e | exact zR3 h2 e
 | succ n ih =>
  intro v u k h1 h2 e
  cases v with
  | tup l =>
   cases u with
   | tup l' =>
    cases k with
    | zero=> exact Bool.noConfusion h2
    | succ k =>
     rw [zJa,voks_iff] at h1 h2
     rw [zFz,zFz,Dat.tuple.injEq,zFl,zFl] at e
     congr 1
     induction l generalizing l' with
     | nil=> cases l' <;> simp_all
     | cons x r hi =>
      cases l' with
      | nil=> simp at e
      | cons y r' =>
       rw [List.map_cons,List.map_cons,List.cons.injEq] at e
       rw [ih x y k (h1 x (.head _)) (h2 y (.head _)) e.1,hi (fun z hz=> h1 z (.tail _ hz)) r' e.2 (fun z hz=> h2 z (.tail _ hz))]
   | _=> first | exact Dat.noConfusion e | (cases k <;> exact Bool.noConfusion h2)
  | _=> first | exact Bool.noConfusion h1 | exact zNx h2 e | exact zR4 h2 e | exact zR3 h2 e
mutual
theorem Is.reads {h:Heap}:∀ {V:V} {v:Value} (n:Nat),Is B h V v → vok n V = true → ∃ as,Reads h v (kqdP V.dat) as
 | .none,_,_,e,_=> by cases e;exact ⟨_,Reads.none⟩
 | .int i,_,_,e,_=> by obtain ⟨t,e⟩:=e;subst e;exact ⟨_,Reads.int i t⟩
 | .str x,_,_,e,_=> by obtain ⟨t,e⟩:=e;subst e;exact ⟨_,Reads.str x t⟩
 | .tup l,_,n + 1,zz,hk=> by
  refine bc fun nn=> ?_
  obtain ⟨a,xs,e,⟨⟨o,ho,hc,k,hd⟩,_⟩,il⟩:=zz
  subst e
  rw [zJa] at hk
  obtain ⟨as,q⟩:=IsL.reads n il hk
  refine nn ?_
  rw [zFz,kqdP]
  exact ⟨as,reads_tuple_at ho hc hd q⟩
 | .tup l,_,0,_,hk=> Bool.noConfusion hk
 | .bool _,_,n,_,hk=> Bool.noConfusion hk
 | .ref _,_,n,_,hk=> Bool.noConfusion hk
 | .con _,_,n,_,hk=> Bool.noConfusion hk
theorem IsL.reads {h:Heap}:∀ {l:List Mine.V} {vs:List Value} (n:Nat),IsL B h l vs → voks n l = true → ∃ as,ReadsAll h vs (kqdPs (dats l)) as
 | [],_,_,e,_=> by cases e;exact ⟨_,ReadsAll.nil⟩
 | v :: r,_,n,zz,hk=> by
  obtain ⟨x,r',e,i,b⟩:=zz
  subst e
  rw [zKn,Bool.and_eq_true] at hk
  obtain ⟨as,q⟩:=Is.reads n i hk.1
  obtain ⟨bs,p⟩:=IsL.reads n b hk.2
  rw [zLh,kqdPs]
  exact ⟨_,ReadsAll.cons q p⟩
end
theorem zT6 {l l':List V} (h1:voks 8 l = true) (h2:voks 8 l' = true):dats l = dats l' ↔ l = l':=by
 refine ⟨fun e=> ?_,fun e=> by rw [e]⟩
 have:=zR5 9 (.tup l) (.tup l') 9 h1 h2 (by rw [zFz,zFz,e])
 injection this
theorem zHv {l:List V} (h:voks 8 l = true):∀ d ∈ dats l,kqdOk 8 d = true:=by
 rw [zFl]
 intro d hd
 obtain ⟨v,hv,rfl⟩:=List.mem_map.mp hd
 exact zJc 8 v (voks_iff.mp h v hv)
section
variable {C:Cx} {F:Addr → Option Obj} {m:Loc} {H:AH} {s:Shared}
open Classical in
theorem zFk {l l':List V} (h1:voks 8 l = true) (h2:voks 8 l' = true):PyData.eqv (.list (kqdPs (dats l))) (.list (kqdPs (dats l'))) = decide (l = l') ∧ SeqAt.shaped (.list (kqdPs (dats l))) = true:=by
 have o1:=zHv h1
 have o2:=zHv h2
 have q:=kqd_eqv 9 (.list (dats l)) (.list (dats l')) 9 (by simpa [kqdOk] using o1) (by simpa [kqdOk] using o2)
 rw [kqdP,kqdP,Dat.list.injEq,zT6 h1 h2] at q
 refine ⟨?_,?_⟩
 ·by_cases hq:l = l'
  ·rw [decide_eq_true hq];exact q.mpr hq
  ·rw [decide_eq_false hq];exact Bool.eq_false_iff.mpr fun x=> hq (q.mp x)
 ·have la:=kqd_lay 9 (.list (dats l)) (by simpa [kqdOk] using o1)
  rw [kqdP] at la
  unfold SeqAt.shaped;rw [la.1,Bool.true_and];exact decide_eq_true (Nat.le_trans la.2 (by decide))
open Classical in
theorem zDw {a b:Addr} {l l':List V} {Q} (ha:(a,AObj.list l) ∈ H) (hb:(b,AObj.list l') ∈ H) (h1:voks 8 l = true) (h2:voks 8 l' = true) (q:Q (.bool (decide (l = l'))) m H):Cmp C m H .Eq (.ref a) (.ref b) Q:=by
 intro F s vs st i
 refine zAj i fun u v q0 q1=> ?_
 refine bc fun nn=> ?_
 obtain rfl:=q0
 obtain rfl:=q1
 obtain ⟨ys,⟨n,e⟩,il⟩:=st.objs _ ha
 obtain ⟨zs,⟨n2,e2⟩,il2⟩:=st.objs _ hb
 obtain ⟨as,ra⟩:=il.reads 8 h1
 obtain ⟨bs,rb⟩:=il2.reads 8 h2
 refine nn ?_
 have e3:=zFk h1 h2
 have e4:=zFk h2 h1
 refine eq_dataH (reads_list_at e rfl rfl ra) (reads_list_at e2 rfl rfl rb) e3.2 e4.2 (by have:=st.unit;lia) (fin st zBd ?_)
 rw [e3.1];exact q
open Classical in
theorem zBe {a b:Addr} {l l':List V} {Q} (ha:(a,AObj.list l) ∈ H) (hb:(b,AObj.list l') ∈ H) (h1:voks 8 l = true) (h2:voks 8 l' = true) (q:Q (.bool (!decide (l = l'))) m H):Cmp C m H .NotEq (.ref a) (.ref b) Q:=by
 intro F s vs st i
 refine zAj i fun u v q0 q1=> ?_
 refine bc fun nn=> ?_
 obtain rfl:=q0
 obtain rfl:=q1
 obtain ⟨ys,⟨n,e⟩,il⟩:=st.objs _ ha
 obtain ⟨zs,⟨n2,e2⟩,il2⟩:=st.objs _ hb
 obtain ⟨as,ra⟩:=il.reads 8 h1
 obtain ⟨bs,rb⟩:=il2.reads 8 h2
 refine nn ?_
 have e3:=zFk h1 h2
 have e4:=zFk h2 h1
 refine ne_dataH (reads_list_at e rfl rfl ra) (reads_list_at e2 rfl rfl rb) e3.2 e4.2 (by have:=st.unit;lia) (fin st zBd ?_)
 rw [e3.1];exact q
open Classical in
theorem zP2 {x:V} {l:List V} (hl:voks 8 l = true) (hx:vok 8 x = true):((kqdPs (dats l)).any fun y=> PyData.eqv y (kqdP x.dat)) = decide (x ∈ l):=by
 have z:=kqd_any (dats l) x.dat (zHv hl) (zJc 8 x hx)
 have z2:x.dat ∈ dats l ↔ x ∈ l:=by
  rw [zFl,List.mem_map]
  refine ⟨fun ⟨y,hy,e⟩=> ?_,fun h=> ⟨x,h,rfl⟩⟩
  rw [zR5 8 x y 8 hx (voks_iff.mp hl y hy) e.symm];exact hy
 rw [z2] at z
 by_cases hq:x ∈ l
 ·rw [decide_eq_true hq];exact z.mpr hq
 ·rw [decide_eq_false hq];exact Bool.eq_false_iff.mpr fun w=> hq (z.mp w)
open Classical in
theorem zN3 {a:Addr} {x:V} {l:List V} {Q} (ha:(a,AObj.list l) ∈ H) (hl:voks 8 l = true) (hx:vok 8 x = true) (q:Q (.bool (decide (x ∈ l))) m H):Cmp C m H .In x (.ref a) Q:=by
 intro F s vs st i
 refine zAj i fun u v iu q1=> ?_
 refine bc fun nn=> ?_
 obtain rfl:=q1
 obtain ⟨ys,⟨n,e⟩,il⟩:=st.objs _ ha
 obtain ⟨as,ra⟩:=il.reads 8 hl
 obtain ⟨bs,rb⟩:=iu.reads 8 hx
 refine nn ?_
 have l1:=kqd_layL (zHv hl)
 have ld:=kqd_lay 8 x.dat (zJc 8 x hx)
 refine SeqAt.in_list_reads (reads_list_at e rfl rfl ra) rb l1.1 ld.1 ?_ (fin st zBd (by rw [zP2 hl hx];exact q))
 have:=st.unit
 have:=ld.2
 have:=Nat.min_le_right (PyData.depthAll (kqdPs (dats l))) (kqdP x.dat).depth
 lia
open Classical in
noncomputable def sign1 (x:Str):Str:=⟨(x.cps.toList.take 1).toArray⟩
theorem zV5 (x:Str) (u:Tok):slicePicked x none (some (1,u)) none = if x.length = 0 then [] else [0]:=by
 unfold slicePicked Builtin.Str.strSliceIndices
 by_cases h:x.length = 0
 ·rw [h];rfl
 ·rw [if_neg h]
  have e1:max (0:Int) (min 1 (x.length:Int)) = 1:=by rw [Int.min_eq_left (show (1:Int) ≤ (x.length:Int) from Int.ofNat_le.mpr (Nat.pos_of_ne_zero h))];rfl
  simp only [Option.map_none,Option.map_some,Option.getD_none]
  have:¬ ((1:Int) < 0):=by decide
  simp only [show (1:Int) > 0 from by decide,if_true,this,if_false,e1]
  rfl
theorem zTi {x:Str} {Q} (q:Q (.str (sign1 x)) m H):SlI C m H (.str x) .none (.int 1) .none Q:=by
 intro F s va vl vu vs value slice ops st ia il iu is hs
 obtain ⟨t,rfl⟩:=ia
 obtain ⟨u,rfl⟩:=iu
 cases il;cases is
 have k:∀ b o,s.heap.get? b = some o → (s.heap.push (zB2 .none (.int 1 u) .none)).get? b = some o:=fun b o e=> Heap.get?_push_of_some _ e
 have st₁:=st.keeps (h':=s.heap.push (zB2 .none (.int 1 u) .none)) (tk:=s.toks) k
 refine tail_any (T:="str") rfl PySem.F.slot_str_getitem.lookup ?_ hs
 refine wpAny_getItem_str_slice (l:=none) (u:=some (1,u)) (st:=none) ⟨_,Heap.get?_push_size _ rfl,rfl,rfl⟩ rfl ?_
 obtain ⟨⟨l⟩⟩:=x
 unfold sliceMade
 rw [zV5]
 match l,q with
 | [],q=> exact ⟨.str (sign1 ⟨⟨[]⟩⟩),m,H,⟨t,rfl⟩,st₁,Pres.keeps k,q⟩
 | [a],q=> exact ⟨.str (sign1 ⟨⟨[a]⟩⟩),m,H,⟨t,rfl⟩,st₁,Pres.keeps k,q⟩
 | a :: b :: r,q =>
  have h:¬ (⟨⟨a :: b :: r⟩⟩:Str).length = 0:=by show ¬ (r.length + 1 + 1 = 0);lia
  rw [if_neg h,if_neg (by
   show ¬ ((true && ([0].length == r.length + 1 + 1)) = true)
   simp)]
  refine ⟨?_,?_⟩
  ·show 1 ≤ sizeLine
   rw [sizeLine_eq];decide
  ·exact ⟨.str (sign1 ⟨⟨a :: b :: r⟩⟩),m,H,⟨s.toks,rfl⟩,st₁.tok,Pres.keeps k,q⟩
end
end Mine
end
section
namespace Mine
variable {B:Addr → Prop}
section
variable {C:Cx} {F:Addr → Option Obj} {m:Loc} {H:AH} {s:Shared}
noncomputable def Back (C:Cx) (F:Addr → Option Obj) (s:Shared) (Q:V → Loc → AH → Prop):Result → Shared → Prop :=
 fun r s'=> match r with | .ok (.ret v)=> Post C F s Is Q v s' | .ok _=> False | .error e=> C.X F e s'
noncomputable def Cd (C:Cx) (m:Loc) (H:AH) (f:V) (args:List V) (Q:V → Loc → AH → Prop):Prop :=
 ∀ F s v vs,St C F m H s → Is C.ban s.heap f v → IsL C.ban s.heap args vs → codeAny C.M C.A (.call v ⟨vs,[]⟩) (Back C F s Q) s
theorem Cd.call {f:V} {args:List V} {Q} (h:Cd C m H f args Q):Call C m H f args Q:=by
 intro F s vs st i
 obtain ⟨v,vs,rfl,j,i⟩:=i
 exact wpAny_call (h F s v vs st j i)
theorem Cd.conseq {f:V} {args:List V} {Q Q'} (h:Cd C m H f args Q) (k:∀ b m' H',Q b m' H' → Q' b m' H'):Cd C m H f args Q':=by
 intro F s v vs st i j
 refine codeAny_mono (h F s v vs st i j) fun r s' z=> ?_
 rcases r with e | (v | _ | _ | _) <;> first | exact z | exact z.elim | skip
 obtain ⟨b,m',H',r,st',p,q⟩:=z
 exact ⟨b,m',H',r,st',p,k _ _ _ q⟩
theorem Cd.weakPost {f:V} {args:List V} {Q Q'} (h:Cd C m H f args Q) (k:∀ b m' H',Q b m' H' → ∃ H'',Weak H' H'' ∧ Q' b m' H''):Cd C m H f args Q':=by
 intro F s v vs st i j
 refine codeAny_mono (h F s v vs st i j) fun r s' z=> ?_
 rcases r with e | (v | _ | _ | _) <;> first | exact z | exact z.elim | skip
 refine bc fun nn=> ?_
 obtain ⟨b,m',H',r,st',p,q⟩:=z
 obtain ⟨H'',w,q'⟩:=k _ _ _ q
 refine nn ?_
 exact ⟨b,m',H'',r,st'.weak w,p,q'⟩
theorem Cd.weakPre {H₂:AH} {f:V} {args:List V} {Q} (w:Weak H H₂) (h:Cd C m H₂ f args Q):Cd C m H f args Q :=
 fun F s v vs st i j=> h F s v vs (st.weak w) i j
theorem Cd_fn {f:Addr} {oc:Value} {od:Option Addr} {osl:Array (Option Value)} {fd:FuncData} (names:List Str) {body:List Stmt} {args:List V} {Q:V → Loc → AH → Prop}
    (ho:(KK C.w).lookup f = some ⟨oc,od,.func fd,osl⟩) (hb:fd.body = .stmts body) (bind:∀ vs:List Value,vs.length = names.length → bindArgs fd ⟨vs,[]⟩ = pure (names.zip vs)) (ok:okFn C.w fd names = true)
    (hl:args.length = names.length) (hroom:0 < C.n)
    (h:∀ L X,Ex (C.into m (callEnv fd L f) X) (names.zip args) H body fun fl _ H'=> Q fl.val m H'):Cd C m H (.ref f) args Q:=by
 unfold okFn at ok
 simp only [Bool.and_eq_true,Bool.not_eq_true',decide_eq_true_eq,List.all_eq_true] at ok
 refine bc fun nn=> ?_
 obtain ⟨⟨⟨⟨⟨⟨⟨⟨h1,h2⟩,h3⟩,h4⟩,h5⟩,h6⟩,h7⟩,h8⟩,h9⟩:=ok
 refine nn ?_
 intro F s v vs st i j
 obtain rfl:v = .ref f:=i
 exact zWo ho ⟨hb,bind,h1,zBu h2,h3,h4,h5,h6,h7⟩ hl hroom h8 (fun x hx=> h9 x hx) rfl h st j
theorem zXr {f:Addr} {oc:Value} {od:Option Addr} {osl:Array (Option Value)} {fd:FuncData} (names:List Str) {body:List Stmt} {args:List V} {Q:V → Loc → AH → Prop}
    (ho:(KK C.w).lookup f = some ⟨oc,od,.func fd,osl⟩) (hb:fd.body = .stmts body) (bind:∀ vs:List Value,vs.length = names.length → bindArgs fd ⟨vs,[]⟩ = pure (names.zip vs)) (ok:okFnC C.w fd names = true)
    (hkind:∀ n,(names.all fun x=> decide (fd.scope.names.lookup x = some .local) || (decide (fd.scope.names.lookup x = some .cell) && ((cellsFrom n fd.scope.names []).lookup x).isSome)) = true)
    (hnd:∀ n,zEt ((cellsFrom n fd.scope.names []).map (·.1)) = true) (hcl:∀ n,((cellsFrom n fd.scope.names []).all fun x=> decide (fd.scope.names.lookup x.1 ≠ some .local)) = true)
    (hl:args.length = names.length) (hroom:0 < C.n)
    (h:∀ L X,Ex (C.into m (callEnvC fd L f) X) (zE7 fd (names.zip args)) (zCz fd L f (names.zip args) ++ H) body fun fl _ H'=> Q fl.val m H'):Cd C m H (.ref f) args Q:=by
 unfold okFnC at ok
 simp only [Bool.and_eq_true,Bool.not_eq_true',decide_eq_true_eq] at ok
 refine bc fun nn=> ?_
 obtain ⟨⟨⟨⟨⟨⟨⟨h1,h2⟩,h3⟩,h4⟩,h5⟩,h6⟩,h7⟩,h8⟩:=ok
 refine nn ?_
 intro F s v vs st i j
 obtain rfl:v = .ref f:=i
 refine zU3 ho ⟨hb,bind,h1,zBu h2,h3,h4,h5,h6,h7⟩ hl hroom h8 (fun n x hx=> ?_) (fun n=> zBu (hnd n)) (fun n x hx=> ?_) rfl h st j
 ·have:=List.all_eq_true.mp (hkind n) x hx
  simp only [Bool.or_eq_true,Bool.and_eq_true,decide_eq_true_eq] at this
  exact this
 ·have:=List.all_eq_true.mp (hcl n) x hx
  simpa using this
noncomputable abbrev Cx.made (C:Cx) (A:Around):Cx:={ C with A:=A,n:=C.n - 1 }
theorem St.alloc2 (x:St C F m H s) (Cl:Addr):St C F m ((s.heap.objs.size + 1,.inst Cl s.heap.objs.size []) :: H) { s with heap:=(s.heap.push emptyDict).push (instObj Cl s.heap.objs.size) }:=by
 have k:∀ b ob,s.heap.get? b = some ob → ((s.heap.push emptyDict).push (instObj Cl s.heap.objs.size)).get? b = some ob:=fun b ob e=> Heap.get?_push_of_some _ (Heap.get?_push_of_some _ e)
 have y:=x.keeps (h':=(s.heap.push emptyDict).push (instObj Cl s.heap.objs.size)) (tk:=s.toks) k
 have nw:∀ b ∈ C.L :: zA3 H,b < s.heap.objs.size:=fun b hb=> by
  obtain ⟨ob,ho,_⟩:=x.there hb
  exact Heap.lt_size ho
 have ow:zA3 ((s.heap.objs.size + 1,.inst Cl s.heap.objs.size []) :: H) = (s.heap.objs.size + 1) :: s.heap.objs.size :: zA3 H:=rfl
 refine ⟨y.ok,y.gens,y.os,y.base,y.raw,y.bl,y.fr,fun p hp=> ?_,?_,fun a ha=> ?_,x.ups2 y (zAa (Nat.le_succ _)) (zAa (Nat.le_refl _))⟩
 ·rcases List.mem_cons.mp hp with rfl | hp
  ·refine ⟨by heap_get,[],0,?_,rfl,by decide⟩
   show ((s.heap.push emptyDict).push (instObj Cl s.heap.objs.size)).get? s.heap.objs.size = some emptyDict
   heap_get
  ·exact y.objs p hp
 ·rw [ow]
  have q:=x.nodup
  rw [List.nodup_cons] at q ⊢
  refine ⟨fun hm=> ?_,List.nodup_cons.mpr ⟨fun hm=> ?_,List.nodup_cons.mpr ⟨fun hm=> ?_,q.2⟩⟩⟩
  ·have hL:=nw _ (.head _)
   rcases List.mem_cons.mp hm with e | hm
   ·rw [e] at hL;exact Nat.lt_asymm hL (Nat.lt_succ_self _)
   ·rcases List.mem_cons.mp hm with e | hm
    ·rw [e] at hL;exact Nat.lt_irrefl _ hL
    ·exact q.1 hm
  ·rcases List.mem_cons.mp hm with e | hm
   ·exact absurd e (Nat.succ_ne_self _)
   ·exact Nat.lt_asymm (nw _ (.tail _ hm)) (Nat.lt_succ_self _)
  ·exact Nat.lt_irrefl _ (nw _ (.tail _ hm))
 ·rw [ow] at ha
  have big:s.heap.objs.size ≤ a → F a = none:=fun hle=> by
   cases q:F a with
   | none=> rfl
   | some ob=> exact absurd (Heap.lt_size (x.raw _ _ q)) (Nat.not_lt.mpr hle)
  rcases List.mem_cons.mp ha with rfl | ha
  ·exact x.fresh _ (.head _)
  ·rcases List.mem_cons.mp ha with rfl | ha
   ·exact big (Nat.le_succ _)
   ·rcases List.mem_cons.mp ha with rfl | ha
    ·exact big (Nat.le_refl _)
    ·exact x.fresh a (.tail _ ha)
theorem Ok.made (o:Ok C) (hroom:0 < C.n) {c:Code} (hw:c.weight ≤ 1) (hu:c.cUnits ≤ 8):Ok (C.made (C.A.under c)) :=
 ⟨o.kin,o.hh,by have:=o.dep;show C.A.depth + c.weight + (C.n - 1) < recursionLimit;lia,by have:=o.un;show C.A.units + c.cUnits + 8 * (C.n - 1) + 100 < cLine;lia,
  o.lim,o.top,o.kf,o.kg,o.kb,o.int,o.nban,o.file,o.nosup⟩
theorem St.made {A:Around} (st:St C F m H s) (o:Ok (C.made A)):St (C.made A) F m H s:=⟨o,st.gens,st.os,st.base,st.raw,st.bl,st.fr,st.objs,st.nodup,st.fresh,st.ups⟩
theorem St.ofMade {A:Around} (o:Ok C) (st:St (C.made A) F m H s):St C F m H s:=⟨o,st.gens,st.os,st.base,st.raw,st.bl,st.fr,st.objs,st.nodup,st.fresh,st.ups⟩
theorem zKh {Cl fI:Addr} {args:List V} {Q} (hm:makesIn (KK C.w) Cl = true) (hi:findIn (KK C.w) (.ref Cl) "__init__" = some (some (.ref fI))) (hf:typeIn (KK C.w) (.ref fI) = some (.type "function")) (hroom:0 < C.n)
    (h:∀ A x dx,Cd (C.made A) m ((x,.inst Cl dx []) :: H) (.ref fI) (.ref x :: args) fun v m' H'=> v = .none ∧ Q (.ref x) m' H'):Cd C m H (.ref Cl) args Q:=by
 intro F s v vs st i j
 obtain rfl:v = .ref Cl:=i
 obtain ⟨hh,g,d,t,os⟩:=s
 refine make_core (makes_of st.kin hm) (looks_findIn st.kin hi) (fun self=> bind_fn st.kin self hf) (.inl rfl) ?_
 have k:∀ b ob,hh.get? b = some ob → ((hh.push emptyDict).push (instObj Cl hh.objs.size)).get? b = some ob:=fun b ob e=> Heap.get?_push_of_some _ (Heap.get?_push_of_some _ e)
 have o':Ok (C.made (C.A.under (.builtin "type.__call__" ⟨.ref Cl :: vs,[]⟩))):=st.ok.made hroom (by
  show 0 + 1 + (if (Code.builtin "type.__call__" ⟨.ref Cl :: vs,[]⟩).isGuard then 1 else 0) + (if (Code.builtin "type.__call__" ⟨.ref Cl :: vs,[]⟩).isCaller then claimMargin else 0) ≤ 1
  have e1:(Code.builtin "type.__call__" ⟨.ref Cl :: vs,[]⟩).isGuard = false:=by show guardIds.contains "type.__call__" = false;decide +kernel
  have e2:(Code.builtin "type.__call__" ⟨.ref Cl :: vs,[]⟩).isCaller = false:=rfl
  rw [e1,e2];decide) (by show (1:Nat) ≤ 8;decide)
 refine codeAny_mono (h _ (hh.objs.size + 1) hh.objs.size F _ (.ref fI) _ ((st.alloc2 Cl).made o') zB3 (.cons zB3 (j.mono (Pres.keeps k)))) fun r s' z=> ?_
 rcases r with e | (v | _ | _ | _) <;> first | exact z | exact z.elim | skip
 obtain ⟨b,m',H',r,st',p,rfl,q⟩:=z
 refine ⟨r,?_⟩
 exact ⟨_,m',H',zB3,st'.ofMade st.ok,(Pres.keeps k).trans p,q⟩
end
end Mine
end
section
namespace Mine
variable {B:Addr → Prop}
section
variable {C:Cx} {F:Addr → Option Obj} {m:Loc} {H:AH} {s:Shared}
noncomputable def TA {α β:Type} (C:Cx) (body:List Stmt) (m:Loc) (H:AH) (t:Sem α) (R:(Addr → Prop) → Heap → β → α → Prop) (Q:β → Loc → AH → Prop):Prop :=
 ∀ F s,St C F m H s → PySem.wpAt C.M C.A (.func body C.env) t (Post C F s R Q) (C.X F) s
noncomputable abbrev ExA (C:Cx) (body:List Stmt) (m:Loc) (H:AH) (ss:List Stmt) (Q:AFlow → Loc → AH → Prop):Prop:=TA C body m H (execs ss C.env) zEe Q
noncomputable abbrev EvA (C:Cx) (body:List Stmt) (m:Loc) (H:AH) (e:Expr) (Q:V → Loc → AH → Prop):Prop:=TA C body m H (eval e C.env) Is Q
noncomputable def SeqA (C:Cx) (body rest:List Stmt) (Q:AFlow → Loc → AH → Prop):AFlow → Loc → AH → Prop:=fun fl m H=> match fl with
 | .next=> ExA C body m H rest Q
 | f=> Q f m H
theorem zGq {α β:Type} {M:Model} {A:Around} {c:Code} {E:Value → Shared → Prop} {t:Sem α} {R:(Addr → Prop) → Heap → β → α → Prop} {Q:β → Loc → AH → Prop} {P:α → Shared → Prop} (h:PySem.wpAt M A c t (Post C F s R Q) E s)
    (k:∀ a s' b m' H',R C.ban s'.heap b a → St C F m' H' s' → Pres C.ban s.heap s'.heap → Q b m' H' → P a s'):PySem.wpAt M A c t P E s :=
 ks_wpAt_mono h (fun a s' ⟨b,m',H',r,st,p,q⟩=> k a s' b m' H' r st p q) fun _ _ e=> e
variable {body:List Stmt}
theorem zRs {ss:List Stmt} {Q} (h:Ex C m H ss Q):ExA C body m H ss Q:=fun F s st=> PySem.wpAt_of_wpAny (h F s [] st rfl)
theorem zWc {Q} (q:Q .next m H):ExA C body m H [] Q:=zRs (zRm q)
theorem zK2 {M:Model} {A:Around} {E:Value → Shared → Prop} {f:Value} {Q:Args → Shared → Prop} (h:wpAny M A (spliced []) (fun vs s'=> Q ⟨vs,[]⟩ s') E s):wpAny M A (evalArgs f true [] []) Q E s:=by
 unfold evalArgs
 show wpAny M A (spliced [] >>= _) Q E s
 refine wpAny_bind (wpAny_mono h (fun vs s' h'=> ?_) fun _ _ x=> x)
 refine wpAny_holding ?_
 exact wpAny_bind (wpAny_pure (wpAny_bind (wpAny_pure (wpAny_pure h'))))
theorem zMn {M:Model} {A:Around} {E:Value → Shared → Prop} {a:Stmt} {env:Env} {P:Flow → Shared → Prop} (h:wpAny M A (execs [a] env) P E s):wpAny M A (exec a env) P E s:=by
 intro Γ p hΓ
 have:=h Γ p hΓ
 rw [execs_cons,Sem.wp_bind'] at this
 refine Sem.wp_mono M Γ _ (fun f p' s' h'=> ?_) (fun _ _ _ h'=> h') _ _ this
 cases f with
 | next =>
  rw [show execs [] env = pure .next from rfl] at h'
  simpa only [Sem.wp_pure'] using h'
 | brk=> simpa only [Sem.wp_pure'] using h'
 | cont=> simpa only [Sem.wp_pure'] using h'
 | ret v=> simpa only [Sem.wp_pure'] using h'
theorem zGs {a:Stmt} {rest:List Stmt} {Q} (h:TA C body m H (exec a C.env) zEe (SeqA C body rest Q)):ExA C body m H (a :: rest) Q:=by
 intro F s st
 refine ks_wpAt_execs_cons (zGq (h F s st) fun f s₁ fl m₁ H₁ i₁ st₁ p₁ h₁=> ?_)
 cases fl with
 | next=> cases i₁;exact ks_wpAt_mono (h₁ F s₁ st₁) (fun _ _ x=> x.shift p₁) fun _ _ e=> e
 | brk=> cases i₁;exact ⟨.brk,m₁,H₁,rfl,st₁,p₁,h₁⟩
 | cont=> cases i₁;exact ⟨.cont,m₁,H₁,rfl,st₁,p₁,h₁⟩
 | ret v=> obtain ⟨x,rfl,ix⟩:=i₁;exact ⟨.ret v,m₁,H₁,⟨x,rfl,ix⟩,st₁,p₁,h₁⟩
theorem zDu {a:Stmt} {rest:List Stmt} {Q} (h:Ex C m H [a] (SeqA C body rest Q)):ExA C body m H (a :: rest) Q :=
 zGs fun F s st=> PySem.wpAt_of_wpAny (zMn (h F s [] st rfl))
@[reducible] noncomputable def kExA (C:Cx) (body rest:List Stmt) (Q:AFlow → Loc → AH → Prop):V → Loc → AH → Prop:=fun _ m H=> ExA C body m H rest Q
@[reducible] noncomputable def kAsgA (C:Cx) (body:List Stmt) (x:Str) (rest:List Stmt) (Q:AFlow → Loc → AH → Prop):V → Loc → AH → Prop:=fun v m H=> ExA C body (put x v m) H rest Q
theorem zGt {e pos rest} {Q} (h:EvA C body m H e (kExA C body rest Q)) (hs:swapsWith e none pos.line C.env = pure false:=by rfl):ExA C body m H (.Expr e pos :: rest) Q:=by
 refine zGs fun F s st=> ?_
 exact ks_wpAt_Expr_any (zGq (h F s st) fun v s₁ a m₁ H₁ i₁ st₁ p₁ h₁=> ⟨.next,m₁,H₁,rfl,st₁,p₁,h₁⟩) st.ok.int hs
theorem zPi {x:Str} {p pos value rest} {Q} (h:EvA C body m H value (kAsgA C body x rest Q)) (hk:C.env.kindOf x = some .local) (hs:swapsWith value (some (.Name x p)) pos.line C.env = pure false:=by rfl) :
    ExA C body m H (.Assign [.Name x p] value pos :: rest) Q:=by
 refine zGs fun F s st=> ?_
 refine ks_wpAt_Assign_Name (zGq (h F s st) fun v s₁ a m₁ H₁ i₁ st₁ p₁ h₁=> ?_) hs
 refine andThen (zCr (Q:=fun _ m' H'=> m' = put x a m₁ ∧ H' = H₁) st₁ i₁ hk ⟨rfl,rfl⟩) fun _ s₃ _ m₃ H₃ _ st₃ p₃ q₃=> ?_
 refine bc fun nn=> ?_
 obtain ⟨rfl,rfl⟩:=q₃
 refine nn ?_
 exact ⟨.next,_,_,rfl,st₃,p₁.trans p₃,h₁⟩
theorem zPh {e pos rest} {Q} (h:EvA C body m H e (kRet Q)):ExA C body m H (.Return (some e) pos :: rest) Q:=by
 refine zGs fun F s st=> ?_
 exact ks_wpAt_Return_some (zGq (h F s st) fun v s₁ a m₁ H₁ i₁ st₁ p₁ h₁=> ⟨.ret a,m₁,H₁,⟨v,rfl,i₁⟩,st₁,p₁,h₁⟩)
inductive SupFn (C:Cx) (me:Str):Prop
 | mk (f:Addr) (oc:Value) (od:Option Addr) (osl:Array (Option Value)) (fd:FuncData) (ar:_) (h1:C.env.func = some f) (h2:(KK C.w).lookup f = some ⟨oc,od,.func fd,osl⟩) (h3:(fd.params.posonlyargs ++ fd.params.args).head? = some ar) (h4:ar.arg = me)
inductive zVz (C:Cx):Prop
 | mk (cda:Addr) (vs:Array Value) (ccl:Value) (cdd:Option Addr) (ccs:Array (Option Value)) (tf:Tok) (h1:C.env.code = .ref cda) (h2:(KK C.w).lookup cda = some ⟨ccl,cdd,.fields vs,ccs⟩) (h3:vs[2]? = some (.str ("/claim/cut.py":Str) tf))
inductive zW0 (C:Cx) (D:Addr):Prop
 | mk (cc:Addr) (cl:Value) (cld:Option Addr) (csl:Array (Option Value)) (h1:C.env.cells.lookup ("__class__":Str) = some cc) (h2:(KK C.w).lookup cc = some ⟨cl,cld,.cell (some (.ref D)),csl⟩)
structure SupB (C:Cx) (Cl D:Addr) (me:Str):Prop where
 fn:SupFn C me
 code:zVz C
 cell:zW0 C D
 cls:∃ c d cd sl,(KK C.w).lookup D = some ⟨c,d,.cls cd,sl⟩
 ks:C.env.kindOf "super" = some .globalImplicit
 kc:C.env.kindOf "__class__" = some .free
 kself:C.env.kindOf me = some .local
 sub:mroIn (KK C.w) Cl (.ref D) = some true
 glob:nsIn (KK C.w) mainGlobals "super" = some none
structure zVy (C:Cx) (name:Str) (f2:Addr):Prop where
 b:SupB C 474 474 "self"
 opq:nsIn (KK C.w) cStatics "thirdparty.any" = some none
 meth:ks_superIn (KK C.w) 474 474 name = some (some (.ref f2))
 typ:typeIn (KK C.w) (.ref f2) = some (.type "function")
 isfn:fnIn (KK C.w) f2 = true
 at1:(name == ("__class__":Str)) = false
theorem zOd:bootBuiltins "super" = some (.type "super"):=by kernel_rfl
theorem zNd {Cl D x:Addr} {name me:Str} {p0 p1:Pos} {ox:Obj} {hh:Heap} {g:Array GenState} {d:Drawn} {t:Nat} {os:OsState} {K E:Value → Shared → Prop} (S:SupB C Cl D me) (n1:(name == ("__class__":Str)) = false) (st:St C F m H ⟨hh,g,d,t,os⟩)
    (hv:lk me m = some (.ref x)) (hx:hh.get? x = some ox) (hxc:ox.cls = .ref Cl) (hnc:∀ c,ox.data ≠ .cls c)
    (hq:∀ h',h'.get? hh.objs.size = some { cls:=.type "super",dict:=none,data:=.fields #[.ref D,.ref x,.ref Cl],slots:=#[] } → (∀ y o,hh.get? y = some o → h'.get? y = some o) → K (.ref hh.objs.size) ⟨h',g,d,t,os⟩) :
    PySem.wpAt C.M C.A (.func body C.env) (attributeBase (.Call (.Name "super" p0) [] [] p1) name C.env (eval (.Call (.Name "super" p0) [] [] p1) C.env)) K E ⟨hh,g,d,t,os⟩:=by
 refine bc fun nn=> ?_
 obtain ⟨f,oc,od,osl,fd,ar,hfu,hf,hp,har⟩:=S.fn
 obtain ⟨cda,vs,ccl,cdd,ccs,tf,hco,hcode,hvs⟩:=S.code
 obtain ⟨cc,cl,cld,csl,hcl,hcell⟩:=S.cell
 obtain ⟨pp,loose,mg,mb,T⟩:=st.ok.top
 have X:=st.kin
 obtain ⟨_,_,_,_,hlD⟩:=S.cls
 obtain ⟨ff,hn,hff⟩:=st.fr
 have hx1:=hff ar.arg
 rw [show lk ar.arg m = some (.ref x) from har ▸ hv] at hx1
 obtain ⟨xv,ex,e1⟩:=hx1.some
 refine nn (ks_wpAt_super_base S.ks S.kc n1 hfu (X _ _ hf) rfl hp hco (X _ _ hcode) rfl hvs st.ok.file st.ok.nosup ?_)
 refine ks_loadName_global st.ok.kf S.ks (loadGlobal_builtin (mg:=mg) (mb:=mb) ?_ (mg_none_of st.ok.kin T.g S.glob) ?_ ((T.builtins _ (by decide +kernel)).trans zOd) ⟨rfl,?_⟩)
 ·rw [st.ok.kg];exact T.g.keeps st.keep
 ·rw [st.ok.kb];exact T.b.keeps st.keep
 refine wpAny_loadName_free st.ok.kf S.kc hcl ⟨_,X _ _ hcell,rfl⟩ ?_
 refine wpAny_loadName_local st.ok.kf (har ▸ S.kself) hn ex ?_
 refine ks_wpAny_isType_cls (X _ _ hlD) rfl ⟨rfl,?_⟩
 subst e1
 exact ks_wpAny_call_super (X _ _ hlD) rfl hx hxc hnc (looks_mroIn X S.sub) hq
theorem zEf {f2 x dx:Addr} {fs:Loc} {name:Str} {es:List Expr} {apos pos p0 p1:Pos} {pl:Sem Bool} {Q} (S:zVy C name f2) (hm:(x,AObj.inst 474 dx fs) ∈ H) (hv:lk "self" m = some (.ref x))
    (h:∀ X,EvL (C.wX X) m H pos es (fun vs m₁ H₁=> Cd C m₁ H₁ (.ref f2) (.ref x :: vs) Q))
    (hes:(es = [] ∨ ∃ e r,es = e :: r ∧ starEach (e :: r) C.env = (false,eval e C.env) :: starEach r C.env ∧ (backTo pos (starEach r C.env)).any (·.1) = false):=by first | exact .inl rfl | exact .inr ⟨_,_,rfl,rfl,rfl⟩)
    (he:eval (.Call (.Attribute (.Call (.Name "super" p0) [] [] p1) name apos) es [] pos) C.env = (do
     let ov ← attributeBase (.Call (.Name "super" p0) [] [] p1) name C.env (eval (.Call (.Name "super" p0) [] [] p1) C.env)
     standAt apos.atName
     let (f,first) ← holding [ov] (getMethod ov name pl)
     callWith pos f first (backTo pos (starEach es C.env)) []):=by rfl) :
    EvA C body m H (.Call (.Attribute (.Call (.Name "super" p0) [] [] p1) name apos) es [] pos) Q:=by
 intro F s st
 refine ks_wpAt_MethodCall (pl:=pl) ?_ he
 obtain ⟨esd,nd,I,-,-,-⟩:=zJw st hm
 obtain ⟨hh,g,d,t,os⟩:=s
 refine zNd S.b S.at1 st hv I.at_ I.cls (fun c e=> (by cases e)) (fun h' e k=> ?_)
 have st1:St C F m H ⟨h',g,d,t,os⟩:=st.keeps (h':=h') (tk:=t) k
 have X1:(KK C.w).In h':=st1.kin
 have hmeth:=S.meth
 cases hc:clsIn (KK C.w) 474 with
 | none=> unfold ks_superIn at hmeth;rw [hc] at hmeth;cases hmeth
 | some cd =>
  unfold ks_superIn at hmeth
  rw [hc] at hmeth
  obtain ⟨of,hof,hofc⟩:∃ of,h'.get? f2 = some of ∧ of.cls = .type "function":=by
   have ht':((KK C.w).lookup f2).map (·.cls) = some (.type "function"):=S.typ
   cases z:(KK C.w).lookup f2 with
   | none=> rw [z] at ht';cases ht'
   | some of=> rw [z] at ht';exact ⟨of,X1 _ _ z,Option.some.inj ht'⟩
  refine ks_wpAny_getMethod_super e (looks_opaque X1 S.opq) (l₀:=cd.mro) (fun A Q E s k q=> wpAny_bind ((looks_clsIn X1 hc) A _ E s k (wpAny_pure q))) rfl X1 hmeth hof hofc (ks_ne st.kin I hc) S.at1 ?_
  have k2:∀ b o,h'.get? b = some o → (h'.push (methodObj (.ref f2) (.ref x))).get? b = some o:=fun b o e=> Heap.get?_push_of_some _ e
  have st2:St C F m H ⟨h'.push (methodObj (.ref f2) (.ref x)),g,d,t + 1,os⟩:=st1.keeps (h':=h'.push (methodObj (.ref f2) (.ref x))) (tk:=t + 1) k2
  have hq:(h'.push (methodObj (.ref f2) (.ref x))).get? h'.objs.size = some (methodObj (.ref f2) (.ref x)):=Heap.get?_push_at rfl rfl
  have pk:Pres C.ban hh (h'.push (methodObj (.ref f2) (.ref x))):=Pres.keeps fun b o e=> k2 b o (k b o e)
  have ap:Apart C F H [h'.objs.size]:=st1.newApart1
  have st3:=(St.freeze st2 ap).wX (fun _=> C.X F)
  have fin:∀ l vs m₁ H₁ s₁,IsL C.ban s₁.heap l vs → St (C.wX fun _=> C.X F) (frz [h'.objs.size] (h'.push (methodObj (.ref f2) (.ref x))) F) m₁ H₁ s₁ → Pres C.ban (h'.push (methodObj (.ref f2) (.ref x))) s₁.heap →
      Cd C m₁ H₁ (.ref f2) (.ref x :: l) Q → MethP (KK C.w) h'.objs.size f2 (.ref x) s₁.heap ∧ wpAny C.M C.A (call (.ref h'.objs.size) ([] ++ vs) []) (Post C F ⟨hh,g,d,t,os⟩ Is Q) (C.X F) s₁:=by
   intro l vs m₁ H₁ s₁ il st₁ p₁ h₁
   obtain ⟨st₁',-,same⟩:=St.thaw (s₀:=⟨h'.push (methodObj (.ref f2) (.ref x)),g,d,t + 1,os⟩) st.base st.bl ap.old (fun b hb=> ⟨methodObj (.ref f2) (.ref x),(List.mem_singleton.mp hb) ▸ hq⟩) (St.ofX st.ok st₁)
   have hq':=same _ (by exact .head _) _ hq
   refine ⟨⟨hq',st₁'.kin⟩,wpAny_call (ks_codeAny_call_bound hq' (codeAny_mono (h₁ F s₁ (.ref f2) (.ref x :: vs) st₁' zB3 (.cons zB3 il)) fun r s' z=> ?_))⟩
   rcases r with e | (v | _ | _ | _) <;> first | exact z | exact z.elim | skip
   exact Post.shift (s:=⟨hh,g,d,t,os⟩) (pk.trans p₁) z
  show wpAny C.M C.A (callWith pos (.ref h'.objs.size) [] (backTo pos (starEach es C.env)) []) _ _ _
  have run:=h (fun _=> C.X F) _ _ [] st3 rfl
  rcases hes with rfl | ⟨e,r,rfl,h1,h2⟩
  ·refine callWith_of (P:=MethP (KK C.w) h'.objs.size f2 (.ref x)) rfl (keeps_M S.isfn) (zK2 (andThen run fun vs s₁ l m₁ H₁ i₁ st₁ p₁ h₁=> fin l vs m₁ H₁ s₁ i₁ st₁ p₁ h₁))
  ·have run:wpAny C.M C.A (spliced (backTo pos (starEach (e :: r) C.env))) (Post (C.wX fun _=> C.X F) _ _ IsL _) (C.X F) ⟨h'.push (methodObj (.ref f2) (.ref x)),g,d,t + 1,os⟩:=run
   rw [h1] at run ⊢
   refine callWith_of (P:=MethP (KK C.w) h'.objs.size f2 (.ref x)) (by show ((false || (backTo pos (starEach r C.env)).any (·.1)) || false) = false;rw [h2];rfl) (keeps_M S.isfn) (evalArgs_plain ?_)
   refine andThen run fun vs s₁ l m₁ H₁ i₁ st₁ p₁ h₁=> fin l vs m₁ H₁ s₁ i₁ st₁ p₁ h₁
end
end Mine
end
section
namespace Mine
variable {B:Addr → Prop}
section
variable {C:Cx} {F:Addr → Option Obj} {m:Loc} {H:AH} {s:Shared}
theorem zMp {env:Env} {m':Loc} {H':AH} {s₁:Shared} {body:List Stmt} {Q:V → Loc → AH → Prop} (st:St C F m H s) (hroom:0 < C.n) (hkf:env.scope.kind = .function) (hkg:env.globals = mainGlobals) (hkb:env.builtins = builtinsNs)
    (hk:∀ b o,s.heap.get? b = some o → s₁.heap.get? b = some o) (hg:s₁.gens = s.gens) (ho:s₁.os = s.os) (fr:NsRep C.ban s₁.heap env.locals m') (objs:∀ p ∈ H',RepO C.prog C.w C.ban s₁.heap p.1 p.2) (nd:(env.locals :: zA3 H').Nodup)
    (new:∀ a ∈ env.locals :: zA3 H',a ∈ zA3 H ∨ s.heap.get? a = none)
    (h:∀ X,ExA (C.into m env X) body m' H' body fun fl _ H''=> Q fl.val m H'') :
    PySem.wpAt (model C.prog C.w) (C.A.deeper env) (.func body env) (execs body env) (fun fl s'=> Post C F s Is Q (match (generalizing:=false) fl with | .ret v=> v | _=> .none) s')
     (fun e s'=> wpAny (model C.prog C.w) (C.A.deeper env) (leaving env e) (fun _ s''=> C.X F e s'') (fun e' s''=> C.X F e' s'') s') s₁:=by
 have run:=h (fun _ e s'=> wpAny (model C.prog C.w) (C.A.deeper env) (leaving env e) (fun _ s''=> C.X F e s'') (fun e' s''=> C.X F e' s'') s') F _ (st.into hroom hkf hkg hkb hk hg ho fr objs nd new _)
 refine ks_wpAt_mono run (fun fl s' z=> ?_) fun e s' x=> x
 obtain ⟨b,m'',H'',r,x,p,q⟩:=z
 refine ⟨b.val,m,H'',?_,st.back x,(Pres.keeps hk).trans p,q⟩
 cases b with
 | next=> cases r;exact zBc
 | brk=> cases r;exact zBc
 | cont=> cases r;exact zBc
 | ret u=> obtain ⟨y,rfl,iy⟩:=r;exact iy
theorem zU4 {f:Addr} {oc:Value} {od:Option Addr} {osl:Array (Option Value)} {fd:FuncData} {names:List Str} {body:List Stmt} {args:List V} {vs:List Value} {A:Around} {Q:V → Loc → AH → Prop}
    (ho:(KK C.w).lookup f = some ⟨oc,od,.func fd,osl⟩) (ok:FnOk C.w fd names body) (hl:args.length = names.length) (hroom:0 < C.n)
    (hloc:∀ x ∈ names,fd.scope.names.lookup x = some .local) (hcell:∀ x ∈ fd.scope.names,x.2 ≠ .cell) (hA:C.A = A)
    (h:∀ L X,ExA (C.into m (callEnv fd L f) X) body (names.zip args) H body fun fl _ H'=> Q fl.val m H') (st:St C F m H s) (i:IsL C.ban s.heap args vs) :
    codeAny (model C.prog C.w) A (.call (.ref f) ⟨vs,[]⟩) (fun r s'=> match r with | .ok (.ret v)=> Post C F s Is Q v s' | .ok _=> False | .error e=> C.X F e s') s:=by
 subst hA
 have hdep:=st.ok.dep
 refine ks_codeAny_call_defAt (by lia) (st.kin _ _ ho) rfl (st.ok.lim.keeps st.keep) (codeRec_of st.kin ok.code) ok.body (BindsTo.of_eq (ok.bind vs (by rw [← i.length,hl]))) hcell
  (fun y hy=> hloc _ (List.of_mem_zip (a:=y.1) (b:=y.2) hy).1) (fun h₁ hns hk=> ?_) ok.co ok.gen ok.kind
 refine zMp (s₁:={ s with heap:=h₁,toks:=s.toks + (names.zip vs).length }) (m':=names.zip args) (H':=H) st hroom ok.kind ok.glob ok.built hk rfl rfl ⟨_,hns,zJ8 ok.nd hl (i.mono (Pres.keeps hk))⟩ (fun p hp=> (st.objs p hp).move (fun b _ ob e=> hk b ob e) (Pres.keeps hk)) ?_ ?_ (h _)
 ·show (s.heap.objs.size :: zA3 H).Nodup
  refine List.nodup_cons.mpr ⟨fun hm=> ?_,(List.nodup_cons.mp st.nodup).2⟩
  obtain ⟨ob,ho,_⟩:=st.there (.tail _ hm)
  exact Nat.lt_irrefl _ (Heap.lt_size ho)
 ·intro a ha
  have ha:a = s.heap.objs.size ∨ a ∈ zA3 H:=List.mem_cons.mp ha
  rcases ha with rfl | ha
  ·exact .inr (zAa (Nat.le_refl _))
  ·exact .inl ha
theorem zUs {f:Addr} {oc:Value} {od:Option Addr} {osl:Array (Option Value)} {fd:FuncData} (names:List Str) {body:List Stmt} {args:List V} {Q:V → Loc → AH → Prop}
    (ho:(KK C.w).lookup f = some ⟨oc,od,.func fd,osl⟩) (hb:fd.body = .stmts body) (bind:∀ vs:List Value,vs.length = names.length → bindArgs fd ⟨vs,[]⟩ = pure (names.zip vs)) (ok:okFn C.w fd names = true)
    (hl:args.length = names.length) (hroom:0 < C.n)
    (h:∀ L X,ExA (C.into m (callEnv fd L f) X) body (names.zip args) H body fun fl _ H'=> Q fl.val m H'):Cd C m H (.ref f) args Q:=by
 unfold okFn at ok
 simp only [Bool.and_eq_true,Bool.not_eq_true',decide_eq_true_eq,List.all_eq_true] at ok
 refine bc fun nn=> ?_
 obtain ⟨⟨⟨⟨⟨⟨⟨⟨h1,h2⟩,h3⟩,h4⟩,h5⟩,h6⟩,h7⟩,h8⟩,h9⟩:=ok
 refine nn ?_
 intro F s v vs st i j
 obtain rfl:v = .ref f:=i
 exact zU4 ho ⟨hb,bind,h1,zBu h2,h3,h4,h5,h6,h7⟩ hl hroom h8 (fun x hx=> h9 x hx) rfl h st j
end
end Mine
end
section
namespace Mine
theorem zMb {l:List Nat} (h:l.Pairwise (· < ·)) {i j:Nat} (hij:i < j) (hj:j < l.length):l.getD i 0 < l.getD j 0:=by
 rw [List.getD_eq_getElem?_getD,List.getD_eq_getElem?_getD,List.getElem?_eq_getElem hj,List.getElem?_eq_getElem (Nat.lt_trans hij hj)]
 exact List.pairwise_iff_getElem.mp h i j (Nat.lt_trans hij hj) hj hij
theorem zC6 (xs:Array Nat) (i:Nat):xs.getD i 0 = xs.toList.getD i 0:=by
 rw [Array.getD_eq_getD_getElem?,List.getD_eq_getElem?_getD,Array.getElem?_toList]
theorem zP9 {xs:Array Nat} {j fuel lo hi:Nat}:SetTable.below.go xs j (fuel + 1) lo hi = if lo < hi then (if xs.getD ((lo + hi) / 2) j < j then SetTable.below.go xs j fuel ((lo + hi) / 2 + 1) hi else SetTable.below.go xs j fuel lo ((lo + hi) / 2)) else lo:=rfl
theorem zTb {xs:Array Nat} {j:Nat} (h:xs.toList.Pairwise (· < ·)) (fuel:Nat):∀ lo hi:Nat,hi - lo ≤ fuel → lo ≤ hi → hi ≤ xs.size → (∀ i,i < lo → xs.getD i 0 < j) → (∀ i,hi ≤ i → i < xs.size → j ≤ xs.getD i 0) →
    (∀ i,i < SetTable.below.go xs j fuel lo hi → xs.getD i 0 < j) ∧ (∀ i,SetTable.below.go xs j fuel lo hi ≤ i → i < xs.size → j ≤ xs.getD i 0) ∧ SetTable.below.go xs j fuel lo hi ≤ xs.size:=by
 have mono:∀ i k,i ≤ k → k < xs.size → xs.getD i 0 ≤ xs.getD k 0:=fun i k hik hk=> by
  rcases Nat.lt_or_eq_of_le hik with z | z
  ·rw [zC6,zC6];exact Nat.le_of_lt (zMb h z hk)
  ·rw [z];exact Nat.le_refl _
 induction fuel with
 | zero =>
  intro lo hi hf hl hh a b
  obtain rfl:lo = hi:=Nat.le_antisymm hl (Nat.sub_eq_zero_iff_le.mp (Nat.le_zero.mp hf))
  exact ⟨a,b,hh⟩
 | succ fuel ih =>
  intro lo hi hf hl hh a b
  rw [zP9]
  by_cases q:lo < hi
  ·rw [if_pos q]
   have m1:lo ≤ (lo + hi) / 2:=(Nat.le_div_iff_mul_le (Nat.succ_pos 1)).2 (Nat.mul_two lo ▸ Nat.add_le_add_left hl lo)
   have m2:(lo + hi) / 2 < hi:=Nat.div_lt_of_lt_mul (Nat.two_mul hi ▸ Nat.add_lt_add_right q hi)
   have m3:=Nat.lt_of_lt_of_le m2 hh
   have ed:xs.getD ((lo + hi) / 2) j = xs.getD ((lo + hi) / 2) 0:=by
    rw [Array.getD_eq_getD_getElem?,Array.getD_eq_getD_getElem?,Array.getElem?_eq_getElem m3];rfl
   rw [ed]
   by_cases c:xs.getD ((lo + hi) / 2) 0 < j
   ·rw [if_pos c]
    exact ih _ _ (Nat.le_of_lt_succ (Nat.lt_of_lt_of_le (Nat.sub_lt_sub_left q (Nat.lt_succ_of_le m1)) hf)) m2 hh (fun i hi'=> Nat.lt_of_le_of_lt (mono i _ (Nat.le_of_lt_succ hi') m3) c) b
   ·rw [if_neg c]
    exact ih _ _ (Nat.le_of_lt_succ (Nat.lt_of_lt_of_le (Nat.sub_lt_sub_right m1 m2) hf)) m1 (Nat.le_of_lt m3) a (fun i hi' hs=> Nat.le_trans (Nat.not_lt.mp c) (mono _ i hi' hs))
  ·rw [if_neg q]
   obtain rfl:lo = hi:=Nat.le_antisymm hl (Nat.not_lt.mp q)
   exact ⟨a,b,hh⟩
theorem zG0 {xs:Array Nat} (h:xs.toList.Pairwise (· < ·)) (j:Nat):(∀ i,i < SetTable.below xs j → xs.getD i 0 < j) ∧ (∀ i,SetTable.below xs j ≤ i → i < xs.size → j ≤ xs.getD i 0) ∧ SetTable.below xs j ≤ xs.size :=
 zTb h _ _ _ (by lia) (Nat.zero_le _) (Nat.le_refl _) (fun i hi=> absurd hi (Nat.not_lt_zero _)) (fun i hi hs=> absurd hs (Nat.not_lt.mpr hi))
theorem zPa {xs:Array Nat} (h:xs.toList.Pairwise (· < ·)) {i:Nat} (hi:i < xs.size):SetTable.below xs (xs.getD i 0 + 1) = i + 1:=by
 obtain ⟨a,b,c⟩:=zG0 h (xs.getD i 0 + 1)
 have l1:i < SetTable.below xs (xs.getD i 0 + 1):=by
  refine Nat.lt_of_not_le fun q=> ?_
  have:=b i q hi;lia
 refine Nat.le_antisymm (Nat.le_of_not_lt fun q=> ?_) l1
 have h1:=a (i + 1) q
 have h2:xs.getD i 0 < xs.getD (i + 1) 0:=by
  rw [zC6,zC6];exact zMb h (Nat.lt_succ_self _) (by have:i + 1 < xs.size:=by with_reducible exact Nat.lt_of_lt_of_le (by walk_at "a") (by walk_at "a")
                                                    simpa using this)
 lia
theorem zP8 {xs:Array Nat} (h:xs.toList.Pairwise (· < ·)):SetTable.below xs 0 = 0:=by
 obtain ⟨a,b,c⟩:=zG0 h 0
 refine Nat.eq_zero_of_not_pos fun q=> absurd (a 0 q) (Nat.not_lt_zero _)
theorem zMd {l:List Nat} {p:Nat} {x:Nat} (hx:x ∈ l.take p):∃ i,i < p ∧ i < l.length ∧ l.getD i 0 = x:=by
 obtain ⟨i,hi,e⟩:=List.mem_iff_getElem.mp hx
 rw [List.length_take] at hi
 refine ⟨i,by lia,by lia,?_⟩
 rw [List.getElem_take] at e
 rw [List.getD_eq_getElem?_getD,List.getElem?_eq_getElem (by lia),← e];rfl
theorem zHh {l:List Nat} {p:Nat} {x:Nat} (hx:x ∈ l.drop p):∃ i,p ≤ i ∧ i < l.length ∧ l.getD i 0 = x:=by
 refine bc fun nn=> ?_
 obtain ⟨i,hi,e⟩:=List.mem_iff_getElem.mp hx
 refine nn ?_
 rw [List.length_drop] at hi
 refine ⟨p + i,by exact Nat.le_add_right _ _,by lia,?_⟩
 rw [List.getElem_drop] at e
 rw [List.getD_eq_getElem?_getD,List.getElem?_eq_getElem (by lia),← e];rfl
theorem zMh {xs:Array Nat} (h:xs.toList.Pairwise (· < ·)) {j:Nat} (hj:xs[SetTable.below xs j]? ≠ some j):(SetTable.insertAt xs (SetTable.below xs j) j).toList.Pairwise (· < ·):=by
 obtain ⟨a,b,c⟩:=zG0 h j
 rw [SetTable.toList_insertAt,List.pairwise_append]
 refine ⟨h.sublist (List.take_sublist _ _),List.pairwise_cons.mpr ⟨fun y hy=> ?_,h.sublist (List.drop_sublist _ _)⟩,fun x hx y hy=> ?_⟩
 ·obtain ⟨i,h1,h2,rfl⟩:=zHh hy
  rw [Array.length_toList] at h2
  rw [← zC6]
  rcases Nat.lt_or_eq_of_le h1 with z | z
  ·refine Nat.lt_of_le_of_lt (b _ (Nat.le_refl _) (by with_reducible exact Nat.lt_of_le_of_lt (by walk_at "a") (by walk_at "a"))) ?_
   rw [zC6,zC6];exact zMb h z (by simpa using h2)
  ·subst z
   refine Nat.lt_of_le_of_ne (b _ (Nat.le_refl _) h2) fun e=> hj ?_
   rw [Array.getElem?_eq_getElem h2]
   rw [Array.getD_eq_getD_getElem?,Array.getElem?_eq_getElem h2] at e
   exact congrArg some e.symm
 ·obtain ⟨i,h1,h2,rfl⟩:=zMd hx
  have lt:xs.toList.getD i 0 < j:=by rw [← zC6];exact a i h1
  rcases List.mem_cons.mp hy with rfl | hy
  ·exact lt
  ·obtain ⟨k,h3,h4,rfl⟩:=zHh hy
   rw [← zC6]
   rw [Array.length_toList] at h4
   rw [zC6]
   exact Nat.lt_of_lt_of_le lt (by rw [← zC6];exact b k h3 h4)
structure TabOk (bt:Bool) (t:SetTable):Prop where
 led:t.led = !bt
 rise:t.plain = true → t.place.toList.Pairwise (· < ·) ∧ t.dummies = #[]
theorem TabOk.fresh (bt:Bool):TabOk bt (.fresh 0 0 !bt):=⟨rfl,fun _=> ⟨List.Pairwise.nil,rfl⟩⟩
theorem TabOk.off {bt:Bool} {t:SetTable} (h:TabOk bt t):TabOk bt { t with plain:=false }:=⟨h.led,fun e=> by exact Bool.noConfusion e⟩
theorem TabOk.standIn {bt:Bool} {t:SetTable} (h:TabOk bt t) (n:Nat):TabOk bt (t.standIn n):=⟨h.led,fun e=> by exact Bool.noConfusion e⟩
theorem TabOk.orStandIn {bt:Bool} {t:SetTable} (h:TabOk bt t) (n:Nat):TabOk bt (t.orStandIn n):=by
 unfold SetTable.orStandIn
 split
 ·exact h
 ·exact h.standIn n
theorem zOn {t:SetTable} {ha:Nat → Int} {h:Int} {fuel:Nat} {p:SetTable.Probe}:SetTable.probe.go t ha h (fuel + 1) p = match t.slot p.j with
    | .empty=> some (.empty p.j p.dummy)
    | .dummy=> SetTable.probe.go t ha h fuel (t.advance { p with dummy:=some p.j })
    | .live i=> if ha i == h then some (.candidate p.j i (t.advance p)) else SetTable.probe.go t ha h fuel (t.advance p):=rfl
theorem zSk {t:SetTable} {ha:Nat → Int} {h:Int} (hd:t.dummies = #[]):∀ (fuel:Nat) (p:SetTable.Probe) {j:Nat} {d:Option Nat},p.dummy = none → SetTable.probe.go t ha h fuel p = some (.empty j d) → d = none ∧ t.slot j = .empty:=by
 intro fuel
 induction fuel with
 | zero =>
  intro p j d hp e
  cases e
 | succ fuel ih =>
  intro p j d hp e
  rw [zOn] at e
  cases q:t.slot p.j with
  | empty =>
   rw [q] at e
   cases e
   exact ⟨hp,q⟩
  | dummy =>
   exfalso
   unfold SetTable.slot at q
   dsimp only at q
   split at q
   ·cases q
   ·split at q
    ·rename_i z
     rw [hd] at z
     unfold SetTable.has at z
     simp at z
    ·cases q
  | live i =>
   rw [q] at e
   dsimp only at e
   by_cases c:(ha i == h) = true
   ·rw [if_pos c] at e;cases e
   ·rw [if_neg c] at e
    refine ih _ ?_ e
    unfold SetTable.advance
    split <;> exact hp
theorem zMk {t:SetTable} {h:Int} {slot:Nat} {wd:Bool} (hd:t.dummies = #[]) (e:t.freeSlot h = some (slot,wd)):t.place[SetTable.below t.place slot]? ≠ some slot:=by
 unfold SetTable.freeSlot at e
 split at e
 ·rename_i j d hj
  obtain ⟨rfl,hs⟩:=zSk hd _ _ (by rfl) hj
  cases e
  intro q
  have q:t.place[SetTable.below t.place j]? = some j:=q
  unfold SetTable.slot at hs
  dsimp only at hs
  rw [q] at hs
  simp at hs
 ·cases e
theorem TabOk.layNew {bt:Bool} {t:SetTable} (h:TabOk bt t) (es:Array (Int × Value)) (hs:Int) (x:Value):TabOk bt (layNew t es hs x).2.1:=by
 unfold PySem.layNew
 split
 ·rename_i slot wd e
  refine TabOk.orStandIn (t:=(t.put slot).1) ⟨h.led,fun hp=> ?_⟩ _
  obtain ⟨hr,hd⟩:=h.rise hp
  refine ⟨zMh hr (zMk hd e),?_⟩
  show (if SetTable.has t.dummies slot = true then _ else t.dummies) = #[]
  rw [hd];rfl
 ·exact h.standIn _
theorem zQm {mask finger moves:Nat} {led plain:Bool} {hs:Array Int} {t:SetTable} {o:Array Nat} (e:SetTable.laid mask finger moves led plain hs = some (t,o)) :
    t.led = led ∧ t.place.toList.Pairwise (· < ·) ∧ t.dummies = #[]:=by
 unfold SetTable.laid at e
 obtain ⟨owner,-,e⟩:=Option.bind_eq_some_iff.mp e
 cases e
 refine ⟨rfl,?_,rfl⟩
 show (List.map _ (List.filterMap _ _)).Pairwise _
 rw [List.map_filterMap]
 have:(List.filterMap (fun x=> Option.map (fun x:Nat × Nat=> x.1) (Option.map (fun x_1=> (x,x_1)) (owner.getD x none))) (List.range (mask + 1))).Sublist (List.range (mask + 1)):=by
  generalize List.range (mask + 1) = l
  induction l with
  | nil=> exact List.Sublist.refl _
  | cons a r ih =>
   rw [List.filterMap_cons]
   cases owner.getD a none with
   | none=> exact ih.cons _
   | some k=> exact ih.cons₂ _
 exact List.pairwise_lt_range.sublist this
theorem TabOk.relayAll {bt:Bool} {t:SetTable} (h:TabOk bt t) (es:Array (Int × Value)) (wanted:Nat):TabOk bt (relayAll t es wanted).2.1:=by
 unfold PySem.relayAll
 split
 ·rename_i t' order e
  dsimp only
  split
  ·refine bc fun nn=> ?_
   obtain ⟨a,b,c⟩:=zQm e
   refine nn ?_
   exact ⟨a.trans h.led,fun _=> ⟨b,c⟩⟩
  ·exact h.standIn _
 ·exact h.standIn _
end Mine
end
section
namespace Mine
section
variable {prog:Program} {w:World} {K:Type} [DecidableEq K] (knd:PySem.KeyKind prog w K)
noncomputable def Keyed:List (Int × Value) → List K → Prop
 | [],l=> l = []
 | e :: es,l=> ConsC (fun k=> knd.is k e.2 = true ∧ e.1 = knd.hash k ∧ e.2.scannable = true) (Keyed es) l
noncomputable def zDz (w:World):Bool:=w.params.followText "set-order"
inductive SetG (h:Heap) (a:Addr) (ks:List K):Prop
 | mk (o:Obj) (es:Array (Int × Value)) (ep:Nat) (t:SetTable) (l:List K) (ho:h.get? a = some o) (hex:o.ExactSet) (hd:o.data = .set es ep t) (hk:Keyed knd es.toList l) (hp:l.Perm ks) (hb:es.size < scanBound) (hf:t.fits es.size = true) (ht:TabOk (zDz w) t)
variable {knd}
theorem Keyed.length {es:List (Int × Value)}:∀ {l:List K},Keyed knd es l → l.length = es.length:=by
 induction es with
 | nil=> intro l e;rw [show l = [] from e];rfl
 | cons p es ih=> intro l z;obtain ⟨k,r,e,_,z⟩:=z;rw [e,List.length_cons,List.length_cons,ih z]
theorem Keyed.append {es es':List (Int × Value)} {l':List K}:∀ {l:List K},Keyed knd es l → Keyed knd es' l' → Keyed knd (es ++ es') (l ++ l'):=by
 induction es with
 | nil=> intro l e f;rw [show l = [] from e];exact f
 | cons p es ih=> intro l z f;obtain ⟨k,r,e,q,z⟩:=z;rw [e];exact ⟨k,_,rfl,q,ih z f⟩
theorem Keyed.perm {es es':List (Int × Value)} (p:es.Perm es'):∀ {l:List K},Keyed knd es l → ∃ l',l'.Perm l ∧ Keyed knd es' l':=by
 induction p with
 | nil=> intro l h;exact ⟨l,.refl _,h⟩
 | cons x p ih =>
  rintro l ⟨k,r,rfl,q,z⟩
  refine bc fun nn=> ?_
  obtain ⟨l',a,b⟩:=ih z
  refine nn ?_
  exact ⟨k :: l',a.cons _,k,l',rfl,q,b⟩
 | swap x y r =>
  rintro l ⟨k,r,rfl,q,k',r',rfl,q',z⟩
  exact ⟨k' :: k :: r',.swap _ _ _,k',_,rfl,q',k,_,rfl,q,z⟩
 | trans p q ih ih' =>
  intro l h
  refine bc fun nn=> ?_
  obtain ⟨l',a,b⟩:=ih h
  obtain ⟨l'',c,d⟩:=ih' b
  refine nn ?_
  exact ⟨l'',c.trans a,d⟩
theorem Keyed.elems {es:List (Int × Value)}:∀ {l:List K},Keyed knd es l → ElemsOf knd es:=by
 induction es with
 | nil=> intro l _ e he;cases he
 | cons x es ih =>
  intro l z e he
  obtain ⟨k,r,_,q,z⟩:=z
  rcases List.mem_cons.mp he with h | h
  ·rw [h];exact ⟨⟨k,q.1,q.2.1⟩,q.2.2⟩
  ·exact ih z e h
theorem Keyed.mem {es:List (Int × Value)}:∀ {l:List K},Keyed knd es l → ∀ k,k ∈ l ↔ ∃ e ∈ es,knd.is k e.2 = true:=by
 induction es with
 | nil=> intro l e k;rw [show l = [] from e];simp
 | cons x es ih =>
  intro l z k
  obtain ⟨k',r,e,q,z⟩:=z
  rw [e,List.mem_cons,ih z k]
  constructor
  ·rintro (h | ⟨e,he,p⟩)
   ·exact ⟨x,.head _,h ▸ q.1⟩
   ·exact ⟨e,.tail _ he,p⟩
  ·rintro ⟨e,he,p⟩
   rcases List.mem_cons.mp he with h | he
   ·exact .inl (knd.inj _ _ _ p (h ▸ q.1))
   ·exact .inr ⟨e,he,p⟩
theorem Keyed.get {es:List (Int × Value)}:∀ {l:List K},Keyed knd es l → ∀ {i:Nat} {k:K},l[i]? = some k → ∃ e,es[i]? = some e ∧ knd.is k e.2 = true:=by
 induction es with
 | nil=> intro l e i k h;rw [show l = [] from e] at h;cases h
 | cons x es ih =>
  intro l z i k h
  obtain ⟨k',r,e,q,z⟩:=z
  rw [e] at h
  cases i with
  | zero=> exact ⟨x,rfl,(Option.some.inj h) ▸ q.1⟩
  | succ i=> exact ih z h
variable {A:Around} {E:Value → Shared → Prop} {s:Shared}
theorem SetG.store {h:Heap} {a:Addr} {o:Obj} {es:Array (Int × Value)} {ep:Nat} {t:SetTable} (ho:h.get? a = some o) (hex:o.ExactSet) (hd:o.data = .set es ep t)
    {es':Array (Int × Value)} {t':SetTable} {l ks:List K} (hk:Keyed knd es'.toList l) (hp:l.Perm ks) (hb:es'.size < scanBound) (hf:t'.fits es'.size = true) (ht:TabOk (zDz w) t') :
    (h.update a (Obj.putSet es' t')).get? a = some { o with data:=.set es' (ep + 1) t' } ∧ SetG knd (h.update a (Obj.putSet es' t')) a ks:=by
 have hg:(h.update a (Obj.putSet es' t')).get? a = some { o with data:=.set es' (ep + 1) t' }:=by
  have:=Heap.get?_update_self (Obj.putSet es' t') ho (by rw [putSet_of es' t' hd];rfl)
  rw [putSet_of es' t' hd] at this;exact this
 exact ⟨hg,_,es',ep + 1,t',l,hg,hex,rfl,hk,hp,hb,hf,ht⟩
theorem zV1 {a:Addr} {ks:List K} {k:K} {x:Value} {Q:Bool → Shared → Prop} (hkey:knd.is k x = true) (hsc:x.scannable = true) (hS:SetG knd s.heap a ks) (hroom:ks.length + 1 < scanBound)
    (h:∀ b h',Heap.SameBut a s.heap h' → SetG knd h' a (if k ∈ ks then ks else ks ++ [k]) → Q b { s with heap:=h' }):wpAny (model prog w) A (setAddHashed a x (knd.hash k)) Q E s:=by
 obtain ⟨o,es,ep,t,l,ho,hex,hd,hk,hp,hb,hf,ht⟩:=hS
 have hel:=hk.elems
 have hlen:es.size = ks.length:=by rw [← Array.length_toList,← hk.length,hp.length_eq]
 unfold setAddHashed setAddHashedIn
 refine wpAny_holding (wpAny_bind (wpAny_setState_of ho hd hf ?_))
 dsimp only
 rw [byScan_of hsc hb hel]
 simp only [↓reduceIte]
 unfold setAddByScan
 refine wpAny_bind (wpAny_bind (wpAny_rule (wpAny_bind (wpAny_setScan_of hkey ho hd hf hel ?_))))
 have hmem:k ∈ ks ↔ ∃ e ∈ es.toList,knd.is k e.2 = true:=by rw [← hp.mem_iff];exact hk.mem k
 cases hr:List.findIdx? (fun e=> knd.is k e.2) es.toList with
 | some j =>
  dsimp only
  obtain ⟨hj,hpj,_⟩:=List.findIdx?_eq_some_iff_getElem.mp hr
  refine wpAny_pure (wpAny_pure ?_)
  have:=h false s.heap (Heap.SameBut.refl a s.heap)
  rw [if_pos (hmem.mpr ⟨_,List.getElem_mem hj,hpj⟩)] at this
  exact this ⟨o,es,ep,t,l,ho,hex,hd,hk,hp,hb,hf,ht⟩
 | none =>
  dsimp only
  have hn:k ∉ ks:=fun hm=> by
   obtain ⟨e,he,q⟩:=hmem.mp hm
   have:=List.findIdx?_eq_none_iff.mp hr e he
   rw [q] at this;exact Bool.noConfusion this
  have hperm:=layNew_perm t es (knd.hash k) x
  have hfits:=layNew_fits t es (knd.hash k) x
  have htab:=ht.layNew es (knd.hash k) x
  generalize layNew t es (knd.hash k) x = L at hperm hfits htab ⊢
  obtain ⟨es1,t1,wd,gave⟩:=L
  dsimp only at hperm hfits htab ⊢
  rw [Array.toList_push] at hperm
  obtain ⟨l1,p1,k1⟩:=Keyed.perm hperm.symm (hk.append (show Keyed knd [(knd.hash k,x)] [k] from ⟨k,[],rfl,⟨hkey,rfl,hsc⟩,rfl⟩))
  have p1':l1.Perm (ks ++ [k]):=p1.trans (hp.append_right _)
  have sz1:es1.size = ks.length + 1:=by rw [← Array.length_toList,← k1.length,p1'.length_eq,List.length_append];rfl
  have fin:∀ (g:Bool → Sem Unit) (hg:∀ (b:Bool) (s₁:Shared) (Q':Unit → Shared → Prop),Q' () s₁ → wpAny (model prog w) A (g b) Q' E s₁) (t2:SetTable),t2.fits es1.size = true → TabOk (zDz w) t2 → wpAny (model prog w) A (do
      storeSet a es1 t2
      if (!wd && t2.tooFull) = true then do
          g (relayAll t2 es1 (SetTable.grown es1.size)).2.2
          storeSet a (relayAll t2 es1 (SetTable.grown es1.size)).1 (relayAll t2 es1 (SetTable.grown es1.size)).2.1
          pure (some true)
       else pure (some true)) (fun r s'=> ∃ h',s' = { s with heap:=h' } ∧ r = some true ∧ Heap.SameBut a s.heap h' ∧ SetG knd h' a (ks ++ [k])) E s:=by
   intro g hg t2 f2 ht2
   have b1:es1.size < scanBound:=by rw [sz1];exact hroom
   refine wpAny_bind (wpAny_storeSet_of ho hd ?_ (fits_of_scanBound b1))
   obtain ⟨ho1,hS1⟩:=SetG.store ho hex hd k1 p1' b1 f2 ht2
   have hsb1:=Heap.SameBut.update s.heap a (Obj.putSet es1 t2)
   split
   ·have hp2:=relayAll_perm t2 es1 (SetTable.grown es1.size)
    have hf2:=relayAll_fits t2 es1 (SetTable.grown es1.size)
    have ht3:=ht2.relayAll es1 (SetTable.grown es1.size)
    generalize relayAll t2 es1 (SetTable.grown es1.size) = R at hp2 hf2 ht3 ⊢
    obtain ⟨es2,t3,gave2⟩:=R
    dsimp only at hp2 hf2 ht3 ⊢
    obtain ⟨l2,p2,k2⟩:=Keyed.perm hp2.symm k1
    have b2:es2.size < scanBound:=by rw [← Array.length_toList,hp2.length_eq,Array.length_toList];exact b1
    have go:wpAny (model prog w) A (do
        storeSet a es2 t3
        pure (some true)) (fun r s'=> ∃ h',s' = { s with heap:=h' } ∧ r = some true ∧ Heap.SameBut a s.heap h' ∧ SetG knd h' a (ks ++ [k])) E { s with heap:=s.heap.update a (Obj.putSet es1 t2) }:=by
     refine wpAny_bind (wpAny_storeSet_of ho1 rfl ?_ (fits_of_scanBound b2))
     obtain ⟨_,hS2⟩:=SetG.store (h:=s.heap.update a (Obj.putSet es1 t2)) ho1 hex rfl k2 (p2.trans p1') b2 hf2 ht3
     exact wpAny_pure ⟨_,rfl,rfl,hsb1.trans (Heap.SameBut.update _ a _),hS2⟩
    exact wpAny_bind (hg _ _ _ go)
   ·exact wpAny_pure ⟨_,rfl,rfl,hsb1,hS1⟩
  have go:∀ (g:Bool → Sem Unit) (hg:∀ (b:Bool) (s₁:Shared) (Q':Unit → Shared → Prop),Q' () s₁ → wpAny (model prog w) A (g b) Q' E s₁) (t2:SetTable),t2.fits es1.size = true → TabOk (zDz w) t2 → wpAny (model prog w) A (do
      storeSet a es1 t2
      if (!wd && t2.tooFull) = true then do
          g (relayAll t2 es1 (SetTable.grown es1.size)).2.2
          storeSet a (relayAll t2 es1 (SetTable.grown es1.size)).1 (relayAll t2 es1 (SetTable.grown es1.size)).2.1
          pure (some true)
       else pure (some true)) (fun r s'=> ∃ b,r = some b ∧ Q b s') E s:=fun g hg t2 f2 ht2=> by
   refine wpAny_mono (fin g hg t2 f2 ht2) (fun r s' z=> ?_) fun _ _ e=> e
   obtain ⟨h',rfl,rfl,sb,hS⟩:=z
   refine ⟨true,rfl,h true h' sb ?_⟩
   rw [if_neg hn];exact hS
  have hgw:∀ (b:Bool) {s₁:Shared} {Q':Unit → Shared → Prop},Q' () s₁ → wpAny (model prog w) A (match b with | true=> rule "set.scan.the-table-gave-way" | false=> pure ()) Q' E s₁ :=
   fun b s₁ Q' hq=> by cases b <;> first | exact wpAny_pure hq | exact wpAny_rule hq
  refine wpAny_bind (hgw _ ?_)
  have last:∀ {r:Option Bool} {s':Shared},(∃ b,r = some b ∧ Q b s') → wpAny (model prog w) A (match r with | some added=> pure added | none=> setAddHashedIn a x (knd.hash k) 99999) Q E s':=by
   rintro r s' ⟨b,rfl,q⟩
   exact wpAny_pure q
  split
  ·refine wpAny_bind ?_
   rw [hashByValue_scannable 8 hsc]
   refine wpAny_pure ?_
   refine wpAny_mono (go _ ?_ _ ?_ ?_) (fun r s' z=> last z) fun _ _ e=> e
   ·intro b s₁ Q' hq;cases b <;> first | exact wpAny_pure hq | exact wpAny_rule hq
   ·split
    ·exact hfits
    ·exact SetTable.fits_plain_off hfits
   ·split
    ·exact htab
    ·exact htab.off
  ·refine wpAny_bind (wpAny_pure ?_)
   simp only [↓reduceIte]
   refine wpAny_mono (go _ ?_ _ hfits htab) (fun r s' z=> last z) fun _ _ e=> e
   intro b s₁ Q' hq;cases b <;> first | exact wpAny_pure hq | exact wpAny_rule hq
end
end Mine
end
section
namespace Mine
theorem zDq {α:Type}:∀ {l:List α} {i:Nat} {x:α},l[i]? = some x → (x :: l.eraseIdx i).Perm l:=by
 intro l
 induction l with
 | nil=> intro i x h;rw [List.getElem?_nil] at h;exact nS h
 | cons y l ih =>
  intro i
  cases i with
  | zero=> intro x h;cases h;exact .refl _
  | succ i=> intro x h;exact (List.Perm.swap _ _ _).trans ((ih (i:=i) h).cons _)
theorem zGb {α:Type} {l:List α} {i:Nat} {x:α} (h:l[i]? = some x):(l.eraseIdx i).length + 1 = l.length:=(zDq h).length_eq
theorem zKt {α:Type} {next:Nat → Nat} {fuel k:Nat} {left:List α} {out:Array α} {x:α} (q:left[next k % left.length]? = some x) :
    pickOrder.go next (fuel + 1) k left out = pickOrder.go next fuel (k + 1) (left.eraseIdx (next k % left.length)) (out.push x):=by
 show (match left[next k % left.length]? with | some x=> pickOrder.go next fuel (k + 1) (left.eraseIdx (next k % left.length)) (out.push x) | none=> out) = _
 rw [q]
theorem zKu {α:Type} {next:Nat → Nat}:∀ (fuel k:Nat) (left:List α) (out:Array α),left.length = fuel → (pickOrder.go next fuel k left out).toList.Perm (out.toList ++ left):=by
 intro fuel
 induction fuel with
 | zero =>
  intro k left out e
  have:left = []:=List.length_eq_zero_iff.mp e
  subst this
  rw [List.append_nil];exact .refl _
 | succ fuel ih =>
  intro k left out e
  have hl:next k % left.length < left.length:=Nat.mod_lt _ (by lia)
  cases q:left[next k % left.length]? with
  | none=> rw [List.getElem?_eq_none_iff] at q;lia
  | some x =>
   rw [zKt q]
   have:=ih (k + 1) (left.eraseIdx (next k % left.length)) (out.push x) (by have:=zGb q;lia)
   refine this.trans ?_
   rw [Array.toList_push,List.append_assoc]
   exact (zDq q).append_left _
theorem zKs {α:Type} (next:Nat → Nat) (xs:Array α):(pickOrder next xs).toList.Perm xs.toList:=by
 unfold pickOrder
 have:=zKu (next:=next) xs.size 0 xs.toList #[] (by exact rfl)
 simpa using this
section
variable {M:Model} {A:Around} {E:Value → Shared → Prop}
theorem zJ9 {src:Source} {n:Nat} {Q:Nat → Shared → Prop} {s:Shared} (hn:n ≠ 0) (h:∀ i d,i < n → Q i { s with drawn:=d }):wpAny M A (choose src n) Q E s:=by
 intro Γ p hΓ
 show Sem.wp M Γ (.choose src n fun i=> .pure i) _ _ p s
 rw [Sem.wp_choose]
 refine ⟨hn,?_⟩
 rw [show (Sem.pure (M.w.draws src (s.drawn.get src) % n):Sem Nat) = pure (M.w.draws src (s.drawn.get src) % n) from rfl,Sem.wp_pure']
 exact h _ _ (Nat.mod_lt _ (Nat.pos_of_ne_zero hn))
theorem zIq {α:Type} (n:Nat):∀ (xs:List α) {Q:List α → Shared → Prop} {s:Shared},xs.length = n → (∀ ys d,ys.Perm xs → Q ys { s with drawn:=d }) → wpAny M A (drawOrder n xs) Q E s:=by
 induction n with
 | zero =>
  intro xs Q s e h
  have:xs = []:=List.length_eq_zero_iff.mp e
  subst this
  exact wpAny_pure (h [] s.drawn (.refl _))
 | succ n ih =>
  intro xs Q s e h
  cases xs with
  | nil=> exact absurd e (by simp)
  | cons x xs =>
   show wpAny M A (choose _ _ >>= _) Q E s
   refine wpAny_bind (zJ9 (by simp) fun i d hi=> ?_)
   have q:(x :: xs)[i]? = some ((x :: xs)[i]):=List.getElem?_eq_getElem hi
   rw [q]
   dsimp only
   refine wpAny_bind (ih _ (by have:=zGb q;simp at e this ⊢;lia) fun ys d' p=> ?_)
   exact wpAny_pure (h _ d' ((p.cons _).trans (zDq q)))
end
namespace SF
theorem slot_setit_next:Slot "set_iterator" "__next__" "set_iterator.__next__" :=
 .of (owner:="set_iterator") (n:="__next__") (by rw [typeLookup_type,builtinLookup_eq_fast];kernel_rfl) (by decide +kernel) (by decide +kernel) (by decide +kernel)
  (by first | exact .inl (by decide +kernel) | exact .inr (by decide +kernel)) (by rw [isSubtype_type];kernel_rfl)
theorem slot_setit_iter:Slot "set_iterator" "__iter__" "set_iterator.__iter__" :=
 .of (owner:="set_iterator") (n:="__iter__") (by rw [typeLookup_type,builtinLookup_eq_fast];kernel_rfl) (by decide +kernel) (by decide +kernel) (by decide +kernel)
  (by first | exact .inl (by decide +kernel) | exact .inr (by decide +kernel)) (by rw [isSubtype_type];kernel_rfl)
theorem entry_setit_next:entryFor table "set_iterator.__next__" = some Builtin.«set_iterator.__next__»:=entryFor_of_tree (by kernel_rfl)
theorem entry_setit_iter:entryFor table "set_iterator.__iter__" = some Builtin.«dict_keyiterator.__iter__»:=entryFor_alias (id':="dict_keyiterator.__iter__") (by kernel_rfl) rfl (by decide +kernel) (by kernel_rfl)
theorem entry_set_iter:entryFor table "set.__iter__" = some Builtin.«frozenset.__iter__»:=entryFor_alias (id':="frozenset.__iter__") (by kernel_rfl) rfl (by decide +kernel) (by kernel_rfl)
theorem args_setit_next (a:Value):argsOk "set_iterator.__next__" ⟨[a],[]⟩:=by unfold argsOk;kernel_rfl
theorem args_setit_iter (a:Value):argsOk "set_iterator.__iter__" ⟨[a],[]⟩:=by unfold argsOk;kernel_rfl
end SF
section
variable {prog:Program} {w:World} {A:Around} {E:Value → Shared → Prop} {s:Shared}
inductive IsSetIt (h:Heap) (it S:Addr) (fst:Value) (i n ep:Nat):Prop
 | mk (o:Obj) (ho:h.get? it = some o) (hc:o.cls = .type "set_iterator") (hd:o.data = .fields #[fst,.int i 0,.ref S,.int n 0,.int ep 0])
theorem IsSetIt.typeIs {it S:Addr} {fst:Value} {i n ep:Nat} (x:IsSetIt s.heap it S fst i n ep):s.TypeIs (.ref it) "set_iterator":=let ⟨o,ho,hc,_⟩:=x;⟨o,ho,hc⟩
theorem IsSetIt.at {h h':Heap} {it S:Addr} {fst:Value} {i n ep:Nat} (x:IsSetIt h it S fst i n ep) (k:∀ o,h.get? it = some o → h'.get? it = some o):IsSetIt h' it S fst i n ep:=let ⟨o,ho,r,r2⟩:=x;⟨o,k _ ho,r,r2⟩
theorem IsSetIt.self {it S:Addr} {fst:Value} {i n ep:Nat} {Q:Value → Shared → Prop} (x:IsSetIt s.heap it S fst i n ep) (h:Q (.ref it) s):wpAny (model prog w) A (pyIter (.ref it)) Q E s:=by
 refine wpAny_pyIter_slot x.typeIs SF.slot_setit_iter (wpAny_call_entry SF.slot_setit_iter x.typeIs SF.entry_setit_iter ?_ (SF.args_setit_iter _))
 show wpAny _ _ (ret (.ref it)) _ _ s
 exact wpAny_pure ⟨_,rfl,"set_iterator",_,x.typeIs,SF.slot_setit_next.lookup,h⟩
theorem zOg {it S:Addr} {sl sl' i n ep ep':Nat} {oS:Obj} {es:Array (Int × Value)} {t:SetTable} {x:Value} {Q:Option Value → Shared → Prop} (hit:IsSetIt s.heap it S (.int sl 0) i n ep)
    (hS:s.heap.get? S = some oS) (hd:oS.data = .set es ep' t) (hf:t.fits es.size = true) (hn:es.size = n)
    (nx:∀ {A':Around} {E':Value → Shared → Prop} {Q':Option (Value × Nat) → Shared → Prop},Q' (some (x,sl')) s → wpAny (model prog w) A' (setNext S sl i ep) Q' E' s)
    (hQ:∀ h',IsSetIt h' it S (.int sl' 0) (i + 1) n ep → Heap.SameBut it s.heap h' → Q (some x) { s with heap:=h' }):wpAny (model prog w) A (pyNext (.ref it)) Q E s:=by
 obtain ⟨o,ho,hc,hdo⟩:=id hit
 unfold pyNext
 refine wpAny_bind (wpAny_attempt (wpAny_callSpecial?_slot (name:=Str.ofString "__next__") hit.typeIs SF.slot_setit_next
  (wpAny_call_entry SF.slot_setit_next hit.typeIs SF.entry_setit_next ?_ (SF.args_setit_next _))))
 show wpAny _ _ (fieldsOf (.ref it) >>= _) _ _ s
 refine wpAny_bind (wpAny_fieldsOf ho hdo ?_)
 show wpAny _ _ (setEntries S >>= _) _ _ s
 refine wpAny_bind (wpAny_setEntries_of hS hd hf ?_)
 rw [if_neg (by rw [hn];simp)]
 dsimp only
 show wpAny _ _ (setNext S sl i ep >>= _) _ _ s
 refine wpAny_bind (nx ?_)
 dsimp only
 refine wpAny_bind (wpAny_setField ho hdo (by exact om0 rfl) ?_)
 have ho':=Heap.get?_update_self (Obj.mapFields fun x=> x.setIfInBounds 0 (rawInt sl')) ho (Obj.isFreed_of_fields (Obj.data_mapFields hdo _))
 refine wpAny_bind (wpAny_setField ho' (Obj.data_mapFields hdo _) (by exact om0 rfl) ?_)
 have ho'':=Heap.get?_update_self (Obj.mapFields fun x=> x.setIfInBounds 1 (rawInt (i + 1))) ho' (Obj.isFreed_of_fields (Obj.data_mapFields (Obj.data_mapFields hdo _) _))
 refine wpAny_pure ⟨x,rfl,wpAny_pure (hQ _ ⟨_,ho'',?_,?_⟩ ((Heap.SameBut.update ..).trans (Heap.SameBut.update ..)))⟩
 ·rw [Obj.cls_mapFields,Obj.cls_mapFields];exact hc
 ·rw [Obj.data_mapFields (Obj.data_mapFields hdo _)];rfl
theorem zQ4 {it S:Addr} {sl i n ep ep':Nat} {oS:Obj} {es:Array (Int × Value)} {t:SetTable} {Q:Option Value → Shared → Prop} (hh:A.handled = none) (hit:IsSetIt s.heap it S (.int sl 0) i n ep)
    (hS:s.heap.get? S = some oS) (hd:oS.data = .set es ep' t) (hf:t.fits es.size = true) (hn:es.size = n)
    (nx:∀ {A':Around} {E':Value → Shared → Prop} {Q':Option (Value × Nat) → Shared → Prop},Q' none s → wpAny (model prog w) A' (setNext S sl i ep) Q' E' s)
    (hQ:∀ h',Heap.ExtBut it s.heap h' → Q none { s with heap:=h' }):wpAny (model prog w) A (pyNext (.ref it)) Q E s:=by
 obtain ⟨o,ho,hc,hdo⟩:=id hit
 unfold pyNext
 refine wpAny_bind (wpAny_attempt (wpAny_callSpecial?_slot (name:=Str.ofString "__next__") hit.typeIs SF.slot_setit_next
  (wpAny_call_entry SF.slot_setit_next hit.typeIs SF.entry_setit_next ?_ (SF.args_setit_next _))))
 show wpAny _ _ (fieldsOf (.ref it) >>= _) _ _ s
 refine wpAny_bind (wpAny_fieldsOf ho hdo ?_)
 show wpAny _ _ (setEntries S >>= _) _ _ s
 refine wpAny_bind (wpAny_setEntries_of hS hd hf ?_)
 rw [if_neg (by rw [hn];simp)]
 dsimp only
 show wpAny _ _ (setNext S sl i ep >>= _) _ _ s
 refine wpAny_bind (nx ?_)
 dsimp only
 refine wpAny_bind (wpAny_setField ho hdo (by exact om0 rfl) ?_)
 show wpAny _ _ (newExc (.type "StopIteration") [] >>= _) _ _ _
 refine wpAny_bind ?_
 simp only [newExc,newTuple]
 refine wpAny_bind (wpAny_newObj_type ?_ (by size_fits))
 refine wpAny_bind (m:=firstArgMember _ _) (wpAny_of_eq (a:=Value.none) (by first | rfl | (simp only [firstArgMember];rfl)) ?_)
 refine wpAny_newObj_type ?_ (by size_fits)
 simp only [raiseNew]
 refine wpAny_bind (wpAny_handled ?_)
 rw [show A.in1.handled = none from hh]
 refine wpAny_bind (wpAny_pure (wpAny_throw ?_))
 refine wpAny_bind (wpAny_isInstance (T:="StopIteration") (b:=true) ⟨_,Heap.get?_push_size _ rfl,rfl⟩ isSubtype_stop ?_)
 exact wpAny_pure (hQ _ (((Heap.SameBut.update ..).extBut.push _).push _))
theorem zM8 {it S TT:Addr} {i n ep:Nat} {oS oT:Obj} {es:Array (Int × Value)} {t:SetTable} {pl:Array Value} {k m:Nat} {h0:Int} {x:Value} {tk:Tok} {Q:Option Value → Shared → Prop} (hit:IsSetIt s.heap it S (.ref TT) i n ep)
    (hS:s.heap.get? S = some oS) (hd:oS.data = .set es ep t) (hf:t.fits es.size = true) (hn:es.size = n) (hT:s.heap.get? TT = some oT) (hdT:oT.data = .seq pl m) (hp:pl[i]? = some (.int (k:Nat) tk)) (he:es[k]? = some (h0,x))
    (hQ:∀ h',IsSetIt h' it S (.ref TT) (i + 1) n ep → Heap.SameBut it s.heap h' → Q (some x) { s with heap:=h' }):wpAny (model prog w) A (pyNext (.ref it)) Q E s:=by
 obtain ⟨o,ho,hc,hdo⟩:=id hit
 unfold pyNext
 refine wpAny_bind (wpAny_attempt (wpAny_callSpecial?_slot (name:=Str.ofString "__next__") hit.typeIs SF.slot_setit_next
  (wpAny_call_entry SF.slot_setit_next hit.typeIs SF.entry_setit_next ?_ (SF.args_setit_next _))))
 show wpAny _ _ (fieldsOf (.ref it) >>= _) _ _ s
 refine wpAny_bind (wpAny_fieldsOf ho hdo ?_)
 show wpAny _ _ (setEntries S >>= _) _ _ s
 refine wpAny_bind (wpAny_setEntries_of hS hd hf ?_)
 rw [if_neg (by rw [hn];simp)]
 dsimp only
 show wpAny _ _ (seqItems? (.ref TT) >>= _) _ _ s
 refine wpAny_bind (wpAny_seqItems hT hdT ?_)
 dsimp only
 simp only [Int.toNat_natCast,hp]
 unfold setNextDrawn
 refine wpAny_bind (wpAny_bind (wpAny_setState_of hS hd hf ?_))
 dsimp only
 rw [if_neg (by simp)]
 show wpAny _ _ (match es[(k:Int).toNat]? with | some (_,x)=> pure x | _=> _) _ _ s
 rw [Int.toNat_natCast,he]
 refine wpAny_pure ?_
 refine wpAny_bind (wpAny_setField ho hdo (by exact om0 rfl) ?_)
 have ho':=Heap.get?_update_self (Obj.mapFields fun x=> x.setIfInBounds 1 (rawInt (i + 1))) ho (Obj.isFreed_of_fields (Obj.data_mapFields hdo _))
 refine wpAny_pure ⟨x,rfl,wpAny_pure (hQ _ ⟨_,ho',?_,?_⟩ (Heap.SameBut.update ..))⟩
 ·rw [Obj.cls_mapFields];exact hc
 ·rw [Obj.data_mapFields hdo];rfl
theorem zOh {it S TT:Addr} {i n ep:Nat} {oS oT:Obj} {es:Array (Int × Value)} {t:SetTable} {pl:Array Value} {m:Nat} {Q:Option Value → Shared → Prop} (hh:A.handled = none) (hit:IsSetIt s.heap it S (.ref TT) i n ep)
    (hS:s.heap.get? S = some oS) (hd:oS.data = .set es ep t) (hf:t.fits es.size = true) (hn:es.size = n) (hT:s.heap.get? TT = some oT) (hdT:oT.data = .seq pl m) (hp:pl[i]? = none)
    (hQ:∀ h',Heap.ExtBut it s.heap h' → Q none { s with heap:=h' }):wpAny (model prog w) A (pyNext (.ref it)) Q E s:=by
 obtain ⟨o,ho,hc,hdo⟩:=id hit
 unfold pyNext
 refine wpAny_bind (wpAny_attempt (wpAny_callSpecial?_slot (name:=Str.ofString "__next__") hit.typeIs SF.slot_setit_next
  (wpAny_call_entry SF.slot_setit_next hit.typeIs SF.entry_setit_next ?_ (SF.args_setit_next _))))
 show wpAny _ _ (fieldsOf (.ref it) >>= _) _ _ s
 refine wpAny_bind (wpAny_fieldsOf ho hdo ?_)
 show wpAny _ _ (setEntries S >>= _) _ _ s
 refine wpAny_bind (wpAny_setEntries_of hS hd hf ?_)
 rw [if_neg (by rw [hn];simp)]
 dsimp only
 show wpAny _ _ (seqItems? (.ref TT) >>= _) _ _ s
 refine wpAny_bind (wpAny_seqItems hT hdT ?_)
 dsimp only
 simp only [Int.toNat_natCast,hp]
 refine wpAny_bind (wpAny_setField ho hdo (by exact om0 rfl) ?_)
 have ho':=Heap.get?_update_self (Obj.mapFields fun x=> x.setIfInBounds 0 (rawInt 0)) ho (Obj.isFreed_of_fields (Obj.data_mapFields hdo _))
 refine wpAny_bind (wpAny_setField ho' (Obj.data_mapFields hdo _) (by exact om0 rfl) ?_)
 show wpAny _ _ (newExc (.type "StopIteration") [] >>= _) _ _ _
 refine wpAny_bind ?_
 simp only [newExc,newTuple]
 refine wpAny_bind (wpAny_newObj_type ?_ (by size_fits))
 refine wpAny_bind (m:=firstArgMember _ _) (wpAny_of_eq (a:=Value.none) (by first | rfl | (simp only [firstArgMember];rfl)) ?_)
 refine wpAny_newObj_type ?_ (by size_fits)
 simp only [raiseNew]
 refine wpAny_bind (wpAny_handled ?_)
 rw [show A.in1.handled = none from hh]
 refine wpAny_bind (wpAny_pure (wpAny_throw ?_))
 refine wpAny_bind (wpAny_isInstance (T:="StopIteration") (b:=true) ⟨_,Heap.get?_push_size _ rfl,rfl⟩ isSubtype_stop ?_)
 exact wpAny_pure (hQ _ ((((Heap.SameBut.update ..).trans (Heap.SameBut.update ..)).extBut.push _).push _))
end
end Mine
end
section
namespace Mine
section
variable {prog:Program} {w:World} {K:Type} [DecidableEq K] {knd:PySem.KeyKind prog w K}
variable {A:Around} {E:Value → Shared → Prop} {s:Shared}
noncomputable def Outs (knd:PySem.KeyKind prog w K) (ks:List K) (xs:List Value):Prop:=∃ l:List K,l.Perm ks ∧ l.length = xs.length ∧ ∀ (i:Nat) (k:K),l[i]? = some k → ∃ v,xs[i]? = some v ∧ knd.is k v = true
theorem Keyed.outs {es:List (Int × Value)} {l ks:List K} (h:Keyed knd es l) (p:l.Perm ks):Outs knd ks (es.map (·.2)):=by
 refine ⟨l,p,by rw [List.length_map];exact h.length,fun i k e=> ?_⟩
 obtain ⟨x,hx,hk⟩:=h.get e
 exact ⟨x.2,by rw [List.getElem?_map,hx];rfl,hk⟩
theorem zEm {M:Model} {Q:Bool → Shared → Prop} (h:Q (M.w.params.followText "set-order") s):wpAny M A setsByText Q E s:=by
 unfold setsByText
 exact wpAny_bind (wpAny_askSetting (wpAny_pure h))
theorem zQe {S:Addr} {sl i ep:Nat} {o:Obj} {es:Array (Int × Value)} {t:SetTable} {Q:Option (Value × Nat) → Shared → Prop} (hS:s.heap.get? S = some o) (hd:o.data = .set es ep t) (hf:t.fits es.size = true) (hb:zDz w = true)
    (h:Q (((pickOrder (w.params.setOrder S ep) es)[i]?).map fun e=> (e.2,sl)) s):wpAny (model prog w) A (setNext S sl i ep) Q E s:=by
 unfold setNext
 refine wpAny_bind (wpAny_setState_of hS hd hf (wpAny_bind (zEm ?_)))
 rw [show (model prog w).w.params.followText "set-order" = true from hb]
 refine wpAny_ite_true rfl ?_
 dsimp only
 refine wpAny_ite_false (by rw [bne_self_eq_false];rfl) ?_
 refine wpAny_bind ?_
 unfold setWalk
 refine wpAny_bind (wpAny_setState_of hS hd hf (wpAny_bind (zEm ?_)))
 rw [show (model prog w).w.params.followText "set-order" = true from hb]
 refine wpAny_ite_true rfl ?_
 exact wpAny_bind (wpAny_askSetting (wpAny_pure (wpAny_pure h)))
theorem zOr {S:Addr} {sl i ep ep':Nat} {o:Obj} {es:Array (Int × Value)} {t:SetTable} {Q:Option (Value × Nat) → Shared → Prop} (hS:s.heap.get? S = some o) (hd:o.data = .set es ep t) (hf:t.fits es.size = true) (hb:zDz w = false)
    (hl:t.led = true) (hp:(!t.plain && decide (es.size > 1)) = false)
    (h:Q (match es[SetTable.below t.place sl]?,t.place[SetTable.below t.place sl]? with
    | some (_,x),some j=> some (x,j + 1)
    | _,_=> none) s):wpAny (model prog w) A (setNext S sl i ep') Q E s:=by
 unfold setNext
 refine wpAny_bind (wpAny_setState_of hS hd hf (wpAny_bind (zEm ?_)))
 rw [show (model prog w).w.params.followText "set-order" = false from hb]
 simp only [Bool.false_eq_true,if_false]
 show wpAny _ _ (if (!t.plain && decide (es.size > 1)) = true then _ else _) _ _ s
 rw [hp]
 simp only [Bool.false_eq_true,if_false]
 show wpAny _ _ ((if (!t.led && !es.isEmpty) = true then _ else pure ()) >>= _) _ _ s
 rw [hl]
 exact wpAny_bind (wpAny_pure (wpAny_pure h))
theorem zIn {α:Type} {es:Array α} {d:α}:∀ {ys:List Nat},(∀ y ∈ ys,y < es.size) → ys.filterMap (fun i=> es[i]?) = ys.map fun i=> es.getD i d:=by
 intro ys
 induction ys with
 | nil=> intro _;rfl
 | cons y ys ih =>
  intro h
  have hy:=h y (.head _)
  rw [List.filterMap_cons_some (b:=es[y]) (Array.getElem?_eq_getElem hy),List.map_cons,ih fun z hz=> h z (.tail _ hz)]
  rw [Array.getD_eq_getD_getElem?,Array.getElem?_eq_getElem hy];rfl
noncomputable def zUc (place:Array Nat):Nat → Nat
 | 0=> 0
 | i + 1=> place.getD i 0 + 1
theorem zSw {S:Addr} {ks:List K} {Q:Value → Shared → Prop} (hh:A.handled = none) (hS:SetG knd s.heap S ks)
    (h:∀ it h' d tk fp n xs St,WalksS prog w A it fp [it] (· = ·) n (fun i v=> xs[i]? = some v) St → xs.length = n → n = ks.length → Outs knd ks xs → (∀ b o,s.heap.get? b = some o → h'.get? b = some o) → s.heap.get? it = none →
     it ∈ fp → (∀ b ∈ fp,b < h'.objs.size ∧ (b = S ∨ s.heap.get? b = none)) → St 0 { s with heap:=h',drawn:=d,toks:=tk } → Q (.ref it) { s with heap:=h',drawn:=d,toks:=tk }):wpAny (model prog w) A (pyIter (.ref S)) Q E s:=by
 obtain ⟨o,es,ep,t,l,ho,hex,hd,hk,hp,hb,hf,ht⟩:=hS
 have hT:s.TypeIs (.ref S) "set":=⟨o,ho,hex.1⟩
 have hlen:es.size = ks.length:=by rw [← Array.length_toList,← hk.length,hp.length_eq]
 have hSs:S < s.heap.objs.size:=Heap.lt_size ho
 refine wpAny_pyIter_slot hT F.slot_set_iter (wpAny_call_entry F.slot_set_iter hT SF.entry_set_iter ?_ (F.args_set_iter_1 _))
 unfold Builtin.«frozenset.__iter__» Builtin.Frozenset.slot0 slotArgs Builtin.Frozenset.addrOf Builtin.Frozenset.sizeOf
 refine wpAny_bind (wpAny_bind ?_)
 show wpAny _ _ (pure (Value.ref S,([]:List Value))) _ _ s
 refine wpAny_pure ?_
 show wpAny _ _ (pure S) _ _ s
 refine wpAny_pure ?_
 refine wpAny_bind (wpAny_bind (wpAny_setEntries_of ho hd hf (wpAny_pure ?_)))
 unfold setDrawn
 refine wpAny_bind (wpAny_bind (wpAny_setState_of ho hd hf (wpAny_bind (zEm ?_))))
 show wpAny _ _ (pure (!zDz w && (!t.plain && decide (es.size > 1)))) _ _ s
 refine wpAny_pure ?_
 have led:=ht.led
 have fz:((es.size:Nat):Int).toNat = es.size:=Int.toNat_natCast _
 cases hdr:(!zDz w && (!t.plain && decide (es.size > 1))) with
 | false =>
  dsimp only
  refine wpAny_ite_false rfl ?_
  refine wpAny_bind (wpAny_pure ?_)
  unfold setEpoch
  refine wpAny_bind (wpAny_bind (wpAny_setState_of ho hd hf (wpAny_pure ?_)))
  unfold newFields
  refine wpAny_bind (wpAny_newObj_type (wpAny_pure ⟨_,rfl,"set_iterator",_,⟨_,Heap.get?_push_size _ rfl,rfl⟩,SF.slot_setit_next.lookup,?_⟩))
  have k:∀ b ob,s.heap.get? b = some ob → (s.heap.push { cls:=.type "set_iterator",data:=.fields #[.int 0 0,.int 0 0,.ref S,.int es.size 0,.int ep 0] }).get? b = some ob:=fun b ob e=> Heap.get?_push_of_some _ e
  have hit:IsSetIt (s.heap.push { cls:=.type "set_iterator",data:=.fields #[.int 0 0,.int 0 0,.ref S,.int es.size 0,.int ep 0] }) s.heap.objs.size S (.int 0 0) 0 es.size ep:=⟨_,Heap.get?_push_size _ rfl,rfl,rfl⟩
  have none':s.heap.get? s.heap.objs.size = none:=zAa (Nat.le_refl _)
  have fpb:∀ b ∈ [s.heap.objs.size,S],b < (s.heap.push { cls:=.type "set_iterator",data:=.fields #[.int 0 0,.int 0 0,.ref S,.int es.size 0,.int ep 0] }).objs.size ∧ (b = S ∨ s.heap.get? b = none):=fun b hb=> by
   rw [Heap.size_push]
   simp only [List.mem_cons,List.not_mem_nil,or_false] at hb
   rcases hb with rfl | rfl
   ·exact ⟨Nat.lt_succ_self _,.inr none'⟩
   ·exact ⟨Nat.lt_succ_of_lt hSs,.inl rfl⟩
  have ne:S ≠ s.heap.objs.size:=Nat.ne_of_lt hSs
  -- the general walk,slot by slot
  have gen:∀ (xs:List Value) (sl:Nat → Nat),sl 0 = 0 → xs.length = es.size → Outs knd ks xs →
      (∀ i (s':Shared) {A':Around} {E':Value → Shared → Prop} {Q':Option (Value × Nat) → Shared → Prop},i ≤ es.size → s'.heap.get? S = some o → Q' ((xs[i]?).map fun x=> (x,sl (i + 1))) s' → wpAny (model prog w) A' (setNext S (sl i) i ep) Q' E' s') →
      Q (.ref s.heap.objs.size) { s with heap:=s.heap.push { cls:=.type "set_iterator",data:=.fields #[.int 0 0,.int 0 0,.ref S,.int es.size 0,.int ep 0] } }:=by
   intro xs sl h0 hx outs nx
   refine h s.heap.objs.size _ s.drawn s.toks [s.heap.objs.size,S] es.size xs (fun i s'=> IsSetIt s'.heap s.heap.objs.size S (.int (sl i) 0) i es.size ep ∧ s'.heap.get? S = some o)
    ⟨fun b hb=> by simp at hb;simp [hb],fun _=> rfl,fun _ _ _ a b=> a.trans b,fun i s' h' tk st _ kk=> ⟨st.1.at fun o e=> kk _ (by exact .head _) o e,kk _ (by exact .tail _ (.head _)) _ st.2⟩,fun i s' Q' E' hi st hQ=> ?_,fun s' Q' E' st hQ=> ?_,fun i s' Q' E' st q=> st.1.self q⟩
    hx hlen outs k none' (by exact .head _) fpb ⟨by rw [h0];exact hit,k _ _ ho⟩
   ·have hxi:xs[i]? = some (xs[i]'(by exact omM)):=List.getElem?_eq_getElem (by exact omM)
    refine zOg st.1 st.2 hd hf rfl (fun q=> nx i s' (by with_reducible exact Nat.le_of_lt (by walk_at "a")) st.2 (by rw [hxi];exact q)) fun h' hit' sb=> ?_
    exact hQ _ _ hxi ⟨hit',(sb.2 S ne).trans st.2⟩ ⟨fun b o hb e=> (sb.2 b (by simpa using hb)).trans e,rfl,rfl,rfl,Nat.le_refl _⟩
   ·have hxi:xs[es.size]? = none:=List.getElem?_eq_none (by lia)
    refine zQ4 hh st.1 st.2 hd hf rfl (fun q=> nx _ s' (Nat.le_refl _) st.2 (by rw [hxi];exact q)) fun h' eb=> ?_
    exact hQ _ ⟨fun b o hb e=> eb b o (by simpa using hb) e,rfl,rfl,rfl,Nat.le_refl _⟩
  by_cases bt:zDz w = true
  ·refine gen ((pickOrder (w.params.setOrder S ep) es).toList.map (·.2)) (fun _=> 0) rfl ?_ ?_ fun i s' A' E' Q' hi hS' q=> zQe hS' hd hf bt ?_
   ·rw [List.length_map,(zKs _ es).length_eq,Array.length_toList]
   ·obtain ⟨l',p',k'⟩:=Keyed.perm (zKs (w.params.setOrder S ep) es).symm hk
    exact k'.outs (p'.trans hp)
   ·rw [List.getElem?_map,Array.getElem?_toList,Option.map_map] at q
    exact q
  ·have bf:zDz w = false:=by simpa using bt
   have nd:(!t.plain && decide (es.size > 1)) = false:=by rw [bf] at hdr;simpa using hdr
   have led':t.led = true:=by rw [led,bf];rfl
   have psz:t.place.size = es.size:=by simp only [SetTable.fits,Bool.and_eq_true,beq_iff_eq] at hf;exact hf.1
   have rise:t.place.toList.Pairwise (· < ·):=by
    cases hpl:t.plain with
    | true=> exact (ht.rise hpl).1
    | false =>
     rw [hpl] at nd
     have:es.size ≤ 1:=by simpa using nd
     have l1:t.place.toList.length ≤ 1:=by rw [Array.length_toList,psz];exact this
     match hq:t.place.toList,l1 with
     | [],_=> exact List.Pairwise.nil
     | [a],_=> exact List.pairwise_singleton _ _
     | a :: b :: r,l1=> simp at l1
   refine gen (es.toList.map (·.2)) (zUc t.place) rfl (by exact List.length_map _) (hk.outs hp) fun i s' A' E' Q' hi hS' q=> zOr hS' hd hf bf led' nd ?_
   have bl:SetTable.below t.place (zUc t.place i) = i:=by
    cases i with
    | zero=> exact zP8 rise
    | succ i=> exact zPa rise (by lia)
   rw [bl]
   rw [List.getElem?_map,Array.getElem?_toList] at q
   cases he:es[i]? with
   | none=> rw [he] at q;exact q
   | some e =>
    rw [he] at q
    have hi':i < es.size:=(Array.getElem?_eq_some_iff.mp he).1
    have hpl:t.place[i]? = some (t.place.getD i 0):=by
     rw [Array.getD_eq_getD_getElem?,Array.getElem?_eq_getElem (by exact omM)];rfl
    rw [hpl]
    exact q
 | true =>
  dsimp only
  refine wpAny_ite_true rfl ?_
  refine wpAny_bind (zIq es.size (List.range es.size) (by simp) fun ys d py=> ?_)
  have yl:ys.length = es.size:=by rw [py.length_eq,List.length_range]
  have ysz:(ys.map fun i=> rawInt (i:Nat)).length ≤ 4096:=by rw [List.length_map,yl];exact Nat.le_of_lt hb
  refine wpAny_bind (wpAny_newTuple ?_ (by rw [sizeLine_eq];exact omT))
  unfold setEpoch
  have k1:∀ b ob,s.heap.get? b = some ob → (s.heap.push { cls:=.type "tuple",data:=.seq (ys.map fun i=> rawInt (i:Nat)).toArray }).get? b = some ob:=fun b ob e=> Heap.get?_push_of_some _ e
  refine wpAny_bind (wpAny_bind (wpAny_setState_of (k1 _ _ ho) hd hf (wpAny_pure ?_)))
  unfold newFields
  refine wpAny_bind (wpAny_newObj_type (wpAny_pure ⟨_,rfl,"set_iterator",_,⟨_,Heap.get?_push_size _ rfl,rfl⟩,SF.slot_setit_next.lookup,?_⟩))
  dsimp only
  have hT1:(s.heap.push { cls:=.type "tuple",data:=.seq (ys.map fun i=> rawInt (i:Nat)).toArray }).get? s.heap.objs.size = some { cls:=.type "tuple",data:=.seq (ys.map fun i=> rawInt (i:Nat)).toArray }:=Heap.get?_push_size _ rfl
  generalize hh1:s.heap.push { cls:=.type "tuple",data:=.seq (ys.map fun i=> rawInt (i:Nat)).toArray } = h1 at k1 hT1 ⊢
  have sz1:h1.objs.size = s.heap.objs.size + 1:=by rw [← hh1,Heap.size_push]
  have k2:∀ b ob,h1.get? b = some ob → (h1.push { cls:=.type "set_iterator",data:=.fields #[.ref s.heap.objs.size,.int 0 0,.ref S,.int es.size 0,.int ep 0] }).get? b = some ob:=fun b ob e=> Heap.get?_push_of_some _ e
  have hit:IsSetIt (h1.push { cls:=.type "set_iterator",data:=.fields #[.ref s.heap.objs.size,.int 0 0,.ref S,.int es.size 0,.int ep 0] }) h1.objs.size S (.ref s.heap.objs.size) 0 es.size ep:=⟨_,Heap.get?_push_size _ rfl,rfl,rfl⟩
  have ymem:∀ y ∈ ys,y < es.size:=fun y hy=> by simpa using py.mem_iff.mp hy
  have outs:Outs knd ks ((ys.map fun i=> es.getD i (0,.none)).map (·.2)):=by
   have pe:(ys.filterMap fun i=> es[i]?).Perm es.toList:=(py.filterMap _).trans (by rw [filterMap_getElem?_range])
   obtain ⟨l',p',k'⟩:=Keyed.perm pe.symm hk
   rw [zIn (d:=(0,.none)) ymem] at k'
   exact k'.outs (p'.trans hp)
  have neS:S ≠ h1.objs.size:=by rw [sz1];exact Nat.ne_of_lt (Nat.lt_succ_of_lt hSs)
  have neT:s.heap.objs.size ≠ h1.objs.size:=by rw [sz1];exact Nat.ne_of_lt (Nat.lt_succ_self _)
  have xl:((ys.map fun i=> es.getD i (0,Value.none)).map (·.2)).length = es.size:=by rw [List.length_map,List.length_map,yl]
  refine h h1.objs.size _ d s.toks [h1.objs.size,S,s.heap.objs.size] es.size ((ys.map fun i=> es.getD i (0,.none)).map (·.2))
   (fun i s'=> IsSetIt s'.heap h1.objs.size S (.ref s.heap.objs.size) i es.size ep ∧ s'.heap.get? S = some o ∧ s'.heap.get? s.heap.objs.size = some { cls:=.type "tuple",data:=.seq (ys.map fun i=> rawInt (i:Nat)).toArray })
   ⟨fun b hb=> by simp at hb;simp [hb],fun _=> rfl,fun _ _ _ a b=> a.trans b,fun i s' h' tk st _ kk=> ⟨st.1.at fun o e=> kk _ (by exact .head _) o e,kk _ (by exact .tail _ (.head _)) _ st.2.1,kk _ (by simp) _ st.2.2⟩,fun i s' Q' E' hi st hQ=> ?_,fun s' Q' E' st hQ=> ?_,fun i s' Q' E' st q=> st.1.self q⟩
   xl hlen outs (fun b ob e=> k2 _ _ (k1 b ob e)) (by rw [sz1];exact zAa (Nat.le_succ _)) (by exact .head _) ?_ ⟨hit,k2 _ _ (k1 _ _ ho),k2 _ _ hT1⟩
  ·have hy:ys[i]? = some (ys[i]'(by exact omM)):=List.getElem?_eq_getElem (by exact omM)
   have hlt:ys[i]'(by exact omM) < es.size:=ymem _ (List.getElem_mem _)
   refine zM8 (k:=ys[i]'(by exact omM)) (tk:=0) (h0:=es[ys[i]'(by exact omM)].1) (x:=es[ys[i]'(by exact omM)].2) st.1 st.2.1 hd hf rfl st.2.2 rfl ?_ (Array.getElem?_eq_getElem hlt) fun h' hit' sb=> ?_
   ·rw [List.getElem?_toArray,List.getElem?_map,hy];rfl
   ·refine hQ _ _ ?_ ⟨hit',(sb.2 S neS).trans st.2.1,(sb.2 _ neT).trans st.2.2⟩ ⟨fun b o hb e=> (sb.2 b (by simpa using hb)).trans e,rfl,rfl,rfl,Nat.le_refl _⟩
    rw [List.getElem?_map,List.getElem?_map,hy]
    show some (es.getD (ys[i]'(by exact omM)) (0,.none)).2 = _
    rw [Array.getD_eq_getD_getElem?,Array.getElem?_eq_getElem hlt];rfl
  ·refine zOh hh st.1 st.2.1 hd hf rfl st.2.2 rfl ?_ fun h' eb=> ?_
   ·rw [List.getElem?_toArray,List.getElem?_map,List.getElem?_eq_none (by lia)];rfl
   ·exact hQ _ ⟨fun b o hb e=> eb b o (by simpa using hb) e,rfl,rfl,rfl,Nat.le_refl _⟩
  ·intro b hb'
   rw [Heap.size_push,sz1]
   simp only [List.mem_cons,List.not_mem_nil,or_false] at hb'
   rcases hb' with rfl | rfl | rfl
   ·rw [sz1];exact ⟨Nat.lt_succ_self _,.inr (zAa (Nat.le_succ _))⟩
   ·exact ⟨Nat.lt_succ_of_lt (Nat.lt_succ_of_lt hSs),.inl rfl⟩
   ·exact ⟨Nat.lt_succ_of_lt (Nat.lt_succ_self _),.inr (zAa (Nat.le_refl _))⟩
end
end Mine
end
section
namespace Mine
section
variable {prog:Program} {w:World} {K:Type} [DecidableEq K] {knd:PySem.KeyKind prog w K}
variable {A:Around} {E:Value → Shared → Prop} {s:Shared}
theorem SetG.keeps {h h':Heap} {S:Addr} {ks:List K} (x:SetG knd h S ks) (k:∀ o,h.get? S = some o → h'.get? S = some o):SetG knd h' S ks:=by
 obtain ⟨o,es,ep,t,l,ho,r1,r2,r3,r4,r5,r6,r7⟩:=x
 exact ⟨o,es,ep,t,l,k _ ho,r1,r2,r3,r4,r5,r6,r7⟩
theorem SetG.typeIs {S:Addr} {ks:List K} (x:SetG knd s.heap S ks):s.TypeIs (.ref S) "set":=by
 obtain ⟨o,es,ep,t,l,ho,hex,r⟩:=x
 exact ⟨o,ho,hex.1⟩
theorem zHx {S:Addr} {ks:List K} {Q:List Value → Shared → Prop} (hh:A.handled = none) (hS:SetG knd s.heap S ks) (hz:ks.length ≤ 4096)
    (hQ:∀ xs h' d tk,Outs knd ks xs → xs.length = ks.length → (∀ b o,s.heap.get? b = some o → h'.get? b = some o) → Q xs { s with heap:=h',drawn:=d,toks:=tk }):wpAny (model prog w) A (collect (.ref S)) Q E s:=by
 have hSs:S < s.heap.objs.size:=by obtain ⟨o,es,ep,t,l,ho,r⟩:=hS;exact Heap.lt_size ho
 unfold collect
 refine wpAny_bind (wpAny_runValue (codeAny_builtin F.entry_proto_collect ?_))
 rw [Around.under_plainId F.plain_proto_collect _]
 show wpAny _ A.in1 (newList [] >>= fun l=> again (.builtin "list.__iadd__" ⟨[l,.ref S],[]⟩)) _ _ s
 refine wpAny_bind (wpAny_newObj_type ?_)
 refine wpAny_pure ⟨plainId_quiet F.plain_list_iadd _,codeAny_builtin F.entry_list_iadd ?_⟩
 rw [Around.under_plainId F.plain_list_iadd _]
 have k1:∀ b o,s.heap.get? b = some o → (s.heap.push { cls:=.type "list",data:=.seq ([]:List Value).toArray }).get? b = some o:=fun b o e=> Heap.get?_push_of_some _ e
 have hL:(s.heap.push { cls:=.type "list",data:=.seq ([]:List Value).toArray }).get? s.heap.objs.size = some { cls:=.type "list",data:=.seq ([]:List Value).toArray }:=Heap.get?_push_size _ rfl
 have hSI:s.heap.objs.size ≠ S:=fun e=> Nat.lt_irrefl _ (e ▸ hSs)
 have hS1:SetG knd (s.heap.push { cls:=.type "list",data:=.seq ([]:List Value).toArray }) S ks:=hS.keeps fun o e=> k1 _ _ e
 show wpAny _ A.in1 (Builtin.List.listExtendWith (.ref s.heap.objs.size) (.ref S) (.ref s.heap.objs.size)) _ _ _
 unfold Builtin.List.listExtendWith
 refine wpAny_bind (wpAny_typeOf (hS1.typeIs (s:={ s with heap:=s.heap.push { cls:=.type "list",data:=.seq ([]:List Value).toArray } })) ?_)
 have h1:Builtin.List.listSameRef (.ref s.heap.objs.size) (.ref S) = false:=by simp [Builtin.List.listSameRef,hSI]
 have h2:(Value.type "set" == Value.type "list") = false:=by decide
 have h3:(Value.type "set" == Value.type "tuple") = false:=by decide
 simp only [h1,h2,h3,Bool.or_false,Bool.false_eq_true,if_false]
 refine wpAny_bind (zSw (s:={ s with heap:=s.heap.push { cls:=.type "list",data:=.seq ([]:List Value).toArray } }) hh hS1 fun it h' d tk fp n xs St W hx hn outs kp new inf fpb st=> ?_)
 have hL':h'.get? s.heap.objs.size = some { cls:=.type "list",data:=.seq ([]:List Value).toArray }:=kp _ _ hL
 have hS2:SetG knd h' S ks:=hS1.keeps fun o e=> kp _ _ e
 have hSf:s.heap.objs.size ∉ fp:=fun hm=> by
  rcases (fpb _ hm).2 with e | e
  ·exact hSI e
  ·have e:(s.heap.push { cls:=.type "list",data:=.seq ([]:List Value).toArray }).get? s.heap.objs.size = none:=e
   exact nn3 hL e
 have hT2:Shared.TypeIs { s with heap:=h',drawn:=d,toks:=tk } (.ref S) "set":=hS2.typeIs (s:={ s with heap:=h',drawn:=d,toks:=tk })
 refine wpAny_bind (wpAny_holding ?_)
 unfold Builtin.List.listLengthHint
 refine wpAny_bind (wpAny_specialOf hT2 F.slot_set_len.lookup ?_)
 dsimp only
 rw [show splitId "set.__len__" = some ("set","__len__") by decide +kernel]
 dsimp only
 refine wpAny_bind (wpAny_isInstance hT2 sub_set_self ?_)
 simp only [Bool.not_true,Bool.false_eq_true,if_false]
 rw [if_pos (by decide +kernel)]
 refine wpAny_bind (wpAny_typeOf hT2 ?_)
 refine wpAny_pure ?_
 show wpAny _ A.in1 (rule "list.extend.makes-room" >>= fun _=> Builtin.List.listTouch (.ref s.heap.objs.size) >>= fun _ =>
  again (.builtin "list.extend.loop" ⟨[.ref s.heap.objs.size,.ref it,.ref s.heap.objs.size],[]⟩)) _ _ _
 refine wpAny_bind (wpAny_rule ?_)
 refine wpAny_bind ?_
 show wpAny _ A.in1 (updateSeq s.heap.objs.size (·.push .none) >>= fun _=> updateSeq s.heap.objs.size (·.pop)) _ _ _
 refine wpAny_bind (wpAny_updateSeq hL' rfl ?_)
 have hL2:=Heap.get?_update_self (Obj.mapSeq (·.push Value.none)) hL' rfl
 refine wpAny_updateSeq hL2 rfl ?_
 have hL3:=Heap.get?_update_self (Obj.mapSeq (·.pop)) hL2 rfl
 have oth:∀ b o,b ≠ s.heap.objs.size → h'.get? b = some o → ((h'.update s.heap.objs.size (Obj.mapSeq (·.push Value.none))).update s.heap.objs.size (Obj.mapSeq (·.pop))).get? b = some o :=
  fun b o hb e=> (Heap.get?_update_other _ _ (Ne.symm hb)).trans ((Heap.get?_update_other _ _ (Ne.symm hb)).trans e)
 have hn':n ≤ sizeLine:=by rw [sizeLine_eq];exact omE
 refine wpAny_pure ⟨plainId_quiet F.plain_extend_loop _,codeAny_extend_loopS W hn' _ hSf _ n 0 _ _ _ rfl (Nat.zero_le _)
  (W.frame 0 { s with heap:=h',drawn:=d,toks:=tk } ((h'.update s.heap.objs.size (Obj.mapSeq (·.push Value.none))).update s.heap.objs.size (Obj.mapSeq (·.pop))) tk st (Nat.le_refl _) fun b hb o e=> oth b o (fun h=> hSf (h ▸ hb)) e) hL3 (ItemsOf.nil _) fun s' acc' c' hm hS' hit=> ?_⟩
 show wpAny _ A (load s.heap.objs.size >>= _) _ _ s'
 refine wpAny_bind (wpAny_load hS' ?_)
 have exs:acc'.toList = xs:=by
  refine List.ext_getElem? fun i=> ?_
  rw [Array.getElem?_toList]
  by_cases hi:i < n
  ·have q:acc'[i]? = some (acc'[i]'(by rw [hit.1];exact hi)):=Array.getElem?_eq_getElem _
   rw [q]
   exact (hit.2 i _ q).symm
  ·rw [Array.getElem?_eq_none (by rw [hit.1];with_reducible exact Nat.le_of_not_lt (by walk_at "a")),List.getElem?_eq_none (by lia)]
 refine wpAny_pure ?_
 show Q acc'.toList s'
 rw [exs]
 have hm':=hm
 obtain ⟨h2,g2,d2,tk2,os2⟩:=s'
 have eg:s.gens = g2:=hm.gens
 have ed:d2 = d:=hm.drawn
 have eo:os2 = s.os:=hm.os
 subst eg;subst ed;subst eo
 refine hQ xs h2 d2 tk2 outs (by lia) fun b o e=> ?_
 have nb:b ≠ s.heap.objs.size:=Nat.ne_of_lt (Heap.lt_size e)
 refine hm.heap b o (fun hb=> ?_) (oth b o nb (kp b o (k1 b o e)))
 simp only [List.mem_cons,List.not_mem_nil,or_false] at hb
 rcases hb with hb | hb
 ·exact nb hb
 ·have z:=k1 b o e
  rw [hb] at z
  have new:(s.heap.push { cls:=.type "list",data:=.seq ([]:List Value).toArray }).get? it = none:=new
  exact nn2 new z
end
end Mine
end
section
namespace Mine
noncomputable def zC1 {K:Type} [DecidableEq K] (acc:List K) (k:K):List K:=if k ∈ acc then acc else acc ++ [k]
noncomputable def dedup {K:Type} [DecidableEq K] (l:List K):List K:=l.foldl zC1 []
section
variable {prog:Program} {w:World} {K:Type} [DecidableEq K] (knd:PySem.KeyKind prog w K)
inductive SetObj (o:Obj) (ks:List K):Prop
 | mk (es:Array (Int × Value)) (ep:Nat) (t:SetTable) (l:List K) (hex:o.ExactSet) (hd:o.data = .set es ep t) (hk:Keyed knd es.toList l) (hp:l.Perm ks) (hb:es.size < scanBound) (hf:t.fits es.size = true) (ht:TabOk (zDz w) t)
variable {knd}
variable {A:Around} {E:Value → Shared → Prop} {s:Shared}
theorem SetG.obj {h:Heap} {a:Addr} {ks:List K} (x:SetG knd h a ks):∃ o,h.get? a = some o ∧ SetObj knd o ks:=by
 refine bc fun nn=> ?_
 obtain ⟨o,es,ep,t,l,ho,r1,r2,r3,r4,r5,r6,r7⟩:=x
 refine nn ?_
 exact ⟨o,ho,es,ep,t,l,r1,r2,r3,r4,r5,r6,r7⟩
theorem SetObj.at {h:Heap} {a:Addr} {o:Obj} {ks:List K} (x:SetObj knd o ks) (ho:h.get? a = some o):SetG knd h a ks:=by
 obtain ⟨es,ep,t,l,r1,r2,r3,r4,r5,r6,r7⟩:=x
 exact ⟨o,es,ep,t,l,ho,r1,r2,r3,r4,r5,r6,r7⟩
noncomputable abbrev zCf (w:World):Obj:={ cls:=.type "set",dict:=none,data:=.set #[] 0 (.fresh 0 0 (!zDz w)) }
theorem zMj {h:Heap} {a:Addr} (ho:h.get? a = some (zCf w)):SetG knd h a [] :=
 ⟨_,#[],0,_,[],ho,⟨rfl,rfl,rfl⟩,rfl,rfl,.refl _,by decide,by rfl,TabOk.fresh _⟩
theorem zQ5 (a:Value) {Q₁:Value → Shared → Prop} (h:Q₁ (.ref s.heap.objs.size) { s with heap:=s.heap.push (zCf w) }) :
    codeAny (model prog w) A (.call (.builtin "set.__new__") ⟨[.type "set",a],[]⟩) (wants Q₁ E) s:=by
 refine codeAny_of_tree ?_
 show wpAny _ A.in1 (do checkBuiltinCall "set.__new__" ⟨[.type "set",a],[]⟩;again (.builtin "set.__new__" ⟨[.type "set",a],[]⟩)) _ _ s
 refine wpAny_bind (wpAny_of_eq (F.newCall_set_1 a) (wpAny_pure ⟨plainId_quiet F.plain_set_new _,codeAny_builtin F.entry_set_new ?_⟩))
 rw [Around.under_plainId F.plain_set_new _]
 unfold Builtin.«set.__new__» Builtin.Frozenset.newClass
 have hsub:=sub_set_self
 obtain ⟨hp,g,d,tk,os⟩:=s
 dsimp only
 wp_walk
 refine wpAny_askSetting (wpAny_pure ?_)
 dsimp only
 simp only [newObj]
 refine wpAny_bind (wpAny_alloc (wpAny_pure ?_))
 exact wpAny_pure h
theorem zPc (l acc:List K):(l.foldl zC1 acc).length ≤ acc.length + l.length:=by
 induction l generalizing acc with
 | nil=> exact Nat.le_refl _
 | cons a r ih =>
  rw [List.foldl_cons,List.length_cons,Nat.add_comm r.length,← Nat.add_assoc]
  refine Nat.le_trans (ih _) (Nat.add_le_add_right ?_ _)
  unfold zC1
  split
  ·exact Nat.le_succ _
  ·rw [List.length_append];exact Nat.le_refl _
theorem zSg {S I l:Addr} {items:Array Value} {ks:List K} (hh:A.in1.handled = none) (hSI:S ≠ I) (hSl:S ≠ l) (hlI:l ≠ I) (hks:∀ (i:Nat) v,items[i]? = some v → ∃ k,ks[i]? = some k ∧ knd.is k v = true ∧ v.scannable = true) (hlen:ks.length = items.size) (hz:items.size + 1 < scanBound)
    {R:Result → Shared → Prop}:∀ (n i:Nat) (s:Shared),items.size - i = n → i ≤ items.size → s.heap.IsListIter I l i → s.heap.IsList l items → SetG knd s.heap S ((ks.take i).foldl zC1 []) →
    (∀ h' tk,SetG knd h' S (dedup ks) → (∀ b o,b ≠ S → b ≠ I → s.heap.get? b = some o → h'.get? b = some o) → R (.ok (.ret .none)) { s with heap:=h',toks:=tk }) →
    codeAny (model prog w) A (.builtin "set.update.loop" ⟨[.ref S,.ref I],[]⟩) R s:=by
 intro n
 induction n with
 | zero =>
  intro i s hn hi hit hl hS hR
  refine codeAny_builtin F.entry_set_update_loop ?_
  rw [Around.under_plainId F.plain_set_update_loop _]
  show wpAny _ A.in1 (pyNext (.ref I) >>= _) _ _ s
  refine wpAny_bind (wpAny_pyNext_list_end hh hit hl (by rw [Array.getElem?_eq_none (Nat.sub_eq_zero_iff_le.mp hn)]) fun h' eb=> ?_)
  show wpAny _ A.in1 (ret Value.none) _ _ _
  refine wpAny_pure (hR h' s.toks (?_) fun b o _ nI e=> eb b o nI e)
  have:ks.take i = ks:=List.take_of_length_le (Nat.le_trans (Nat.le_of_eq hlen) (Nat.sub_eq_zero_iff_le.mp hn))
  rw [this] at hS
  exact hS.keeps fun o e=> eb S o hSI e
 | succ n ih =>
  intro i s hn hi hit hl hS hR
  refine codeAny_builtin F.entry_set_update_loop ?_
  rw [Around.under_plainId F.plain_set_update_loop _]
  show wpAny _ A.in1 (pyNext (.ref I) >>= _) _ _ s
  have hlt:i < items.size:=Nat.lt_of_sub_eq_succ hn
  have hx:items[i]? = some (items[i]'hlt):=Array.getElem?_eq_getElem _
  refine wpAny_bind (wpAny_pyNext_list_item hit hl hx fun h' hit' sb=> ?_)
  refine bc fun nn=> ?_
  obtain ⟨k,hk,hkv,hsc⟩:=hks i _ hx
  refine nn ?_
  show wpAny _ A.in1 (holding [items[i]'hlt] (setAdd S (items[i]'hlt)) >>= _) _ _ _
  refine wpAny_bind (wpAny_holding ?_)
  unfold setAdd
  refine wpAny_holding (wpAny_bind (knd.pyHash (k:=k) hkv ?_))
  have hS':SetG knd h' S ((ks.take i).foldl zC1 []):=hS.keeps fun o e=> (sb.2 S hSI).trans e
  have small:((ks.take i).foldl zC1 []).length ≤ i:=by
   exact Nat.le_trans (zPc _ _) (by rw [List.length_nil,Nat.zero_add];exact List.length_take_le _ _)
  refine zV1 (s:={ s with heap:=h',toks:=s.toks + 1 }) hkv hsc hS' (by lia) fun b h'' sb' hS''=> ?_
  have hi':i < ks.length:=Nat.lt_of_lt_of_le hlt (Nat.le_of_eq hlen.symm)
  have tk:(ks.take (i + 1)).foldl zC1 [] = if k ∈ (ks.take i).foldl zC1 [] then (ks.take i).foldl zC1 [] else (ks.take i).foldl zC1 [] ++ [k]:=by
   rw [List.take_add_one,hk]
   show (List.take i ks ++ [k]).foldl zC1 [] = _
   rw [List.foldl_append];rfl
  rw [← tk] at hS''
  have keep:∀ b o,b ≠ S → b ≠ I → s.heap.get? b = some o → h''.get? b = some o:=fun b o n1 n2 e=> (sb'.2 b n1).trans ((sb.2 b n2).trans e)
  refine wpAny_pure ⟨plainId_quiet F.plain_set_update_loop _,ih (i + 1) _ (by rw [Nat.sub_succ,hn];rfl) hlt (hit'.at fun o e=> (sb'.2 I (Ne.symm hSI)).trans e) ?_ hS'' fun h3 tk3 hS3 kp3=> ?_⟩
  ·refine bc fun nn=> ?_
   obtain ⟨o,ho,r⟩:=hl
   refine nn ?_
   exact ⟨o,keep l o (Ne.symm hSl) hlI ho,r⟩
  ·exact hR h3 tk3 hS3 fun b o n1 n2 e=> kp3 b o n1 n2 (keep b o n1 n2 e)
set_option maxHeartbeats 3200000 in
theorem zT9 {l:Addr} {items:Array Value} {ks:List K} {Q:Value → Shared → Prop} (hh:A.handled = none) (hl:s.heap.IsList l items)
    (hks:∀ (i:Nat) v,items[i]? = some v → ∃ k,ks[i]? = some k ∧ knd.is k v = true ∧ v.scannable = true) (hlen:ks.length = items.size) (hz:items.size + 1 < scanBound)
    (h:∀ (h':Heap) (tk:Nat),SetG knd h' s.heap.objs.size (dedup ks) → (∀ b o,s.heap.get? b = some o → h'.get? b = some o) → Q (.ref s.heap.objs.size) { s with heap:=h',toks:=tk }) :
    wpAny (model prog w) A (call (.type "set") [.ref l]) Q E s:=by
 obtain ⟨c,tl,hmro⟩:=F.called_set.mro
 have hmade:=F.called_set.made
 have hsub:=F.called_set.sub
 refine wpAny_call (codeAny_of_tree ?_)
 show wpAny _ _ (callAny (.type "set") _) _ _ _
 refine wpAny_pure ⟨Code.quiet_builtin _ (by decide +kernel),codeAny_builtin F.entry_type_call ?_⟩
 rw [Around.under_plain (weight_type_call_type "set" [.ref l] []) rfl]
 have h1:=F.called_set.notType
 have h2:=F.called_set.canCreate
 have hct:=F.typeCall_set_1 (.ref l)
 repeat (any_goals (first | assumption | wp_step))
 refine codeAny_mono (zQ5 (.ref l) (E:=E) (Q₁:=fun obj s₁=> obj = .ref s.heap.objs.size ∧ s₁ = { s with heap:=s.heap.push (zCf w) }) ⟨rfl,rfl⟩) fun r s₁ hr=> ?_
 cases r with
 | error e=> exact hr
 | ok fl =>
  cases fl with
  | ret obj =>
   obtain ⟨rfl,rfl⟩:=hr
   have hS:(s.heap.push (zCf w)).get? s.heap.objs.size = some (zCf w):=Heap.get?_push_size _ rfl
   have hT:Shared.TypeIs { s with heap:=s.heap.push (zCf w) } (.ref s.heap.objs.size) "set":=⟨_,hS,rfl⟩
   have hli:=F.called_set.init.lookup
   have hbi:=F.called_set.init.bind (.ref s.heap.objs.size)
   repeat (any_goals (first | assumption | wp_step))
   refine codeAny_mono (codeAny_call_builtin (R:=wants (fun r s₂=> r = .none ∧ ∃ h' tk,s₂ = { s with heap:=h',toks:=tk } ∧ SetG knd h' s.heap.objs.size (dedup ks) ∧ (∀ b o,s.heap.get? b = some o → h'.get? b = some o)) E)
    F.called_set.init.plain F.entry_set_init (check_set_init_1 hT ?_)) fun r₂ s₂ hr₂=> ?_
   ·obtain ⟨ol,hol,hcl,nl,hdl⟩:=hl
    obtain ⟨ocls,odict,odata,oslots⟩:=ol
    simp only at hcl hdl
    subst hcl;subst hdl
    have hol':(s.heap.push (zCf w)).get? l = some { cls:=.type "list",dict:=odict,data:=.seq items nl,slots:=oslots }:=Heap.get?_push_of_some _ hol
    have hsls:=F.sub_list_set
    have hslf:=F.sub_list_frozenset
    have hne:(Value.type "list" == Value.type "dict") = false:=by decide
    have hl1:(s.heap.push (zCf w)).IsList l items:=⟨_,hol',rfl,nl,rfl⟩
    unfold Builtin.«set.__init__» noKeywords Builtin.Frozenset.updateFrom
    generalize hPI:pyIter = PI
    wp_walk
    subst hPI
    refine wpAny_pyIter_list hl1 ?_
    refine wpAny_bind (wpAny_runValue ?_)
    have hlS:l < s.heap.objs.size:=Heap.lt_size hol
    have hh3:A.in1.in1.in1.handled = none:=by simp [hh]
    have szp:(s.heap.push (zCf w)).objs.size = s.heap.objs.size + 1:=Heap.size_push _ _
    have kp:∀ b o,s.heap.get? b = some o → ((s.heap.push (zCf w)).push { cls:=.type "list_iterator",data:=.fields #[.ref l,.int 0 0] }).get? b = some o:=fun b o e=> Heap.get?_push_of_some _ (Heap.get?_push_of_some _ e)
    refine zSg (knd:=knd) (ks:=ks) hh3 (by rw [szp];exact Nat.ne_of_lt (Nat.lt_succ_self _)) (Nat.ne_of_gt hlS) (by rw [szp];exact Nat.ne_of_lt (Nat.lt_succ_of_lt hlS)) hks hlen hz (items.size - 0) 0 _ rfl (Nat.zero_le _)
     ⟨_,Heap.get?_push_size _ rfl,rfl,rfl⟩ ⟨_,kp _ _ hol,rfl,nl,rfl⟩ (zMj (Heap.get?_push_of_some _ hS)) fun h' tk hG kp'=> ?_
    show wpAny _ _ _ _ _ _
    refine wpAny_pure ?_
    show wpAny _ _ (ret Value.none) _ _ _
    refine wpAny_pure ⟨rfl,h',tk,rfl,hG,fun b o e=> ?_⟩
    have hb:=Heap.lt_size e
    exact kp' b o (Nat.ne_of_lt hb) (by rw [szp];exact Nat.ne_of_lt (Nat.lt_succ_of_lt hb)) (kp b o e)
   ·cases r₂ with
    | error e=> exact hr₂
    | ok fl₂ =>
     cases fl₂ with
     | ret r =>
      obtain ⟨rfl,h',tk,rfl,hG,hk'⟩:=hr₂
      repeat (any_goals (first | assumption | wp_step))
      exact h _ _ hG hk'
     | _=> exact hr₂.elim
  | _=> exact hr.elim
end
end Mine
end
section
namespace Mine
variable {B:Addr → Prop}
theorem Atom.isScan {h:Heap} {k:Atom} {v:Value} (x:Is B h k.v v):k.is v = true ∧ v.scannable = true:=by
 cases k with
 | i n=> obtain ⟨t,rfl⟩:=x;exact ⟨by simp [Atom.is,Value.isInt],rfl⟩
 | s y=> obtain ⟨t,rfl⟩:=x;exact ⟨by simp [Atom.is,Value.isStrOf],rfl⟩
theorem IsL.back {h:Heap} {l:List V} {vs:List Value} (x:IsL B h l vs) {i:Nat} {v:Value} (q:vs[i]? = some v):∃ x,l[i]? = some x ∧ Is B h x v:=IsL.get' x q
theorem zSz {h:Heap} {vs:List Value} {ss:List Str} (x:StrsAre vs ss):IsL B h (ss.map V.str) vs:=by
 induction x with
 | nil=> exact rfl
 | cons x t r ih=> exact ⟨_,_,rfl,⟨t,rfl⟩,ih⟩
noncomputable def Atom.toInt:Atom → Int
 | .i n=> n
 | .s _=> 0
noncomputable def Atom.toStr:Atom → Str
 | .i _=> ""
 | .s x=> x
section
variable {prog:Program} {w:World}
theorem zP1 {ms:List Int}:∀ {xs:List Value},ms.length = xs.length → (∀ (i:Nat) k,ms[i]? = some k → ∃ v,xs[i]? = some v ∧ (Atom.i k).is v = true) → IntsAre xs ms:=by
 induction ms with
 | nil=> intro xs e h;cases xs with
  | nil=> exact .nil
  | cons=> exact Nat.noConfusion e
 | cons m ms ih=> intro xs e h;cases xs with
  | nil=> exact Nat.noConfusion e
  | cons x xs =>
   obtain ⟨v,hv,hk⟩:=h 0 m rfl
   obtain rfl:x = v:=Option.some.inj hv
   obtain ⟨t,rfl⟩:=Value.isInt_shape hk
   exact .cons m t (ih (Nat.succ.inj e) fun i k hk=> h (i + 1) k hk)
theorem zOe {ms:List Str}:∀ {xs:List Value},ms.length = xs.length → (∀ (i:Nat) k,ms[i]? = some k → ∃ v,xs[i]? = some v ∧ (Atom.s k).is v = true) → StrsAre xs ms:=by
 induction ms with
 | nil=> intro xs e h;cases xs with
  | nil=> exact .nil
  | cons=> exact Nat.noConfusion e
 | cons m ms ih=> intro xs e h;cases xs with
  | nil=> exact Nat.noConfusion e
  | cons x xs =>
   obtain ⟨v,hv,hk⟩:=h 0 m rfl
   obtain rfl:x = v:=Option.some.inj hv
   obtain ⟨t,rfl⟩:=Value.isStrOf_shape hk
   exact .cons m t (ih (Nat.succ.inj e) fun i k hk=> h (i + 1) k hk)
theorem Outs.ints {ns:List Int} {xs:List Value} (o:Outs (zAc prog w) (ns.map Atom.i) xs):∃ ms:List Int,ms.Perm ns ∧ IntsAre xs ms:=by
 obtain ⟨l,p,hl,hg⟩:=o
 have e:l = (l.map Atom.toInt).map Atom.i:=by
  rw [List.map_map]
  have:l.map (Atom.i ∘ Atom.toInt) = l.map id:=List.map_congr_left fun a ha=> by
   obtain ⟨n,hn,rfl⟩:=List.mem_map.mp (p.mem_iff.mp ha)
   rfl
  rw [this,List.map_id]
 refine ⟨l.map Atom.toInt,?_,zP1 (by rw [List.length_map];exact hl) fun i k hk=> ?_⟩
 ·have:=p.map Atom.toInt
  rw [List.map_map] at this
  have e2:ns.map (Atom.toInt ∘ Atom.i) = ns:=by
   have:ns.map (Atom.toInt ∘ Atom.i) = ns.map id:=List.map_congr_left fun a _=> rfl
   rw [this,List.map_id]
  rwa [e2] at this
 ·refine hg i (.i k) ?_
  rw [e,List.getElem?_map,hk];rfl
theorem Outs.strs {ns:List Str} {xs:List Value} (o:Outs (zAc prog w) (ns.map Atom.s) xs):∃ ms:List Str,ms.Perm ns ∧ StrsAre xs ms:=by
 obtain ⟨l,p,hl,hg⟩:=o
 have e:l = (l.map Atom.toStr).map Atom.s:=by
  rw [List.map_map]
  have:l.map (Atom.s ∘ Atom.toStr) = l.map id:=List.map_congr_left fun a ha=> by
   obtain ⟨n,hn,rfl⟩:=List.mem_map.mp (p.mem_iff.mp ha)
   rfl
  rw [this,List.map_id]
 refine ⟨l.map Atom.toStr,?_,zOe (by rw [List.length_map];exact hl) fun i k hk=> ?_⟩
 ·have:=p.map Atom.toStr
  rw [List.map_map] at this
  have e2:ns.map (Atom.toStr ∘ Atom.s) = ns:=by
   have:ns.map (Atom.toStr ∘ Atom.s) = ns.map id:=List.map_congr_left fun a _=> rfl
   rw [this,List.map_id]
  rwa [e2] at this
 ·refine hg i (.s k) ?_
  rw [e,List.getElem?_map,hk];rfl
end
section
variable {C:Cx} {F:Addr → Option Obj} {m:Loc} {H:AH} {s:Shared}
theorem St.objAt {ao:AObj} {h':Heap} {tk:Nat} {d:Drawn} {D:Addr} (st:St C F m H s) (hD:s.heap.get? D = none) (st':St C F m H { s with heap:=h',toks:=tk,drawn:=d }) (ho:ao.own D = [D]) (r:RepO C.prog C.w C.ban h' D ao) :
    St C F m ((D,ao) :: H) { s with heap:=h',toks:=tk,drawn:=d }:=by
 have n0:=st.newApart hD
 refine ⟨st'.ok,st'.gens,st'.os,st'.base,st'.raw,st'.bl,st'.fr,fun p hp=> ?_,?_,fun b hb=> ?_,by show ∀ p ∈ C.up,_ ∧ _ ∧ _ ∉ C.L :: (ao.own D ++ zA3 H);rw [ho];exact st.ups1 st' hD⟩
 ·rcases List.mem_cons.mp hp with rfl | hp
  ·exact r
  ·exact st'.objs p hp
 ·have nd:=List.nodup_cons.mp st'.nodup
  have m0:¬ (_ ∨ _):=fun h=> n0.1 (List.mem_cons.mpr h)
  show (C.L :: (ao.own D ++ zA3 H)).Nodup
  rw [ho]
  refine List.nodup_cons.mpr ⟨fun hm=> ?_,List.nodup_cons.mpr ⟨fun hm=> m0 (.inr hm),nd.2⟩⟩
  rcases List.mem_cons.mp hm with q | hm
  ·exact m0 (.inl q.symm)
  ·exact nd.1 hm
 ·have hb:b ∈ C.L :: (ao.own D ++ zA3 H):=hb
  rw [ho] at hb
  rcases List.mem_cons.mp hb with rfl | hb
  ·exact st'.fresh _ (.head _)
  ·rcases List.mem_cons.mp hb with rfl | hb
   ·exact n0.2.1
   ·exact st'.fresh b (.tail _ hb)
theorem St.drawn (st:St C F m H s) {d:Drawn}:St C F m H { s with drawn:=d }:=⟨st.ok,st.gens,st.os,st.base,st.raw,st.bl,st.fr,st.objs,st.nodup,st.fresh,st.ups⟩
theorem zEq {a:Addr} {l:List Atom} {Q} (hm:(a,AObj.list (l.map Atom.v)) ∈ H) (hz:l.length < 4000) (q:∀ b o,SetObj (zAc C.prog C.w) o (dedup l) → Q (.ref b) m ((b,.raw o) :: H)):Call C m H (.con (.type "set")) [.ref a] Q:=by
 intro F s vs st i
 refine IsL.el i fun f r hf i=> ?_
 refine zBf i fun u q0=> ?_
 obtain rfl:=q0
 cases hf
 refine bc fun nn=> ?_
 obtain ⟨zs,hl,il⟩:=st.objs _ hm
 refine nn ?_
 have hlen:l.length = zs.size:=by have:=il.length;simpa using this
 refine zT9 (knd:=zAc C.prog C.w) (ks:=l) st.ok.hh hl.isList (fun i v hv=> ?_) hlen (by unfold scanBound;lia) fun h' tk hG kp=> ?_
 ·refine bc fun nn=> ?_
  obtain ⟨x,hx,ix⟩:=il.back (i:=i) (v:=v) (by rw [Array.getElem?_toList];exact hv)
  rw [List.getElem?_map] at hx
  obtain ⟨k,hk,rfl⟩:=Option.map_eq_some_iff.mp hx
  refine nn ?_
  exact ⟨k,hk,Atom.isScan ix⟩
 ·refine bc fun nn=> ?_
  obtain ⟨o,ho,so⟩:=hG.obj
  obtain ⟨es,ep,t,l',hex,hd,_⟩:=id so
  refine nn ?_
  have st':=st.keeps (tk:=tk) kp
  exact ⟨_,m,_,zB3,St.objAt (ao:=.raw o) (d:=s.drawn) st (zAa (Nat.le_refl _)) st' rfl ⟨ho,by rw [hex.1];decide⟩,Pres.keeps kp,q _ o so⟩
theorem zIv {s:Shared} {h1:Heap} {d:Drawn} {tk:Nat} {xs:List Value} {out:Array Value} {Vs:List V} {Q:V → Loc → AH → Prop} (st:St C F m H s) (kp:∀ b o,s.heap.get? b = some o → h1.get? b = some o)
    (il:IsL C.ban s.heap Vs out.toList) (q:∀ b,Q (.ref b) m ((b,.list Vs) :: H)) :
    Post C F s Is Q (.ref h1.objs.size) { s with heap:=sortedHeap (h1.push (seqObj "list" xs.toArray 0)) h1.objs.size xs out,drawn:=d,toks:=tk }:=by
 have k1:∀ b o,s.heap.get? b = some o → (h1.push (seqObj "list" xs.toArray 0)).get? b = some o:=fun b o e=> Heap.get?_push_of_some _ (kp b o e)
 have hn:s.heap.get? h1.objs.size = none:=by
  cases z:s.heap.get? h1.objs.size with
  | none=> rfl
  | some o=> exact absurd (Heap.lt_size (kp _ _ z)) (Nat.lt_irrefl _)
 have k2:∀ b o,s.heap.get? b = some o → (sortedHeap (h1.push (seqObj "list" xs.toArray 0)) h1.objs.size xs out).get? b = some o:=fun b o e=> by
  rw [sortedHeap_old (fun e'=> by rw [e',hn] at e;cases e) (Heap.lt_size (k1 b o e))]
  exact k1 b o e
 obtain ⟨e,he⟩:=sortedHeap_at (h:=h1.push (seqObj "list" xs.toArray 0)) (n:=0) (out:=out) (Heap.get?_push_size _ rfl)
 have st':St C F m H { s with heap:=sortedHeap (h1.push (seqObj "list" xs.toArray 0)) h1.objs.size xs out,toks:=tk,drawn:=d }:=(st.keeps (tk:=tk) k2).drawn
 refine ⟨_,m,_,zB3,St.objAt (ao:=.list Vs) st hn st' rfl ⟨out,⟨e,he⟩,il.mono (Pres.keeps k2)⟩,Pres.keeps k2,q _⟩
theorem zGm {S:Addr} {o:Obj} {ns:List Int} {Q} (hm:(S,AObj.raw o) ∈ H) (so:SetObj (zAc C.prog C.w) o (ns.map Atom.i)) (hz:ns.length < 64)
    (q:∀ b (ms:List Int),ms.Perm ns → ms.Pairwise (· ≤ ·) → Q (.ref b) m ((b,.list (ms.map V.int)) :: H)):Call C m H (.con (.builtin "sorted")) [.ref S] Q:=by
 intro F s vs st i
 refine IsL.el i fun f r hf i=> ?_
 refine zBf i fun u q0=> ?_
 obtain rfl:=q0
 cases hf
 refine bc fun nn=> ?_
 obtain ⟨ho,-⟩:=st.objs _ hm
 refine nn ?_
 refine Calls.call_function_entry kind_sorted plain_sorted entry_sorted (args_sorted1 _) ?_
 unfold Builtin.«sorted»
 refine wpAny_bind (m:=checkCount "sorted" 1 1 _) (wpAny_pure ?_)
 refine wpAny_bind (zHx (by rw [Around.in1_handled];exact st.ok.hh) (so.at ho) (by rw [List.length_map];with_reducible exact omS (by walk_at "a") (by walk_at "r")) fun xs h1 d tk outs hl kp=> ?_)
 rw [List.length_map] at hl
 refine wpAny_bind (wpAny_newList ?_ (by rw [sizeLine_eq];with_reducible exact omEl (by walk_at "a") (by walk_at "a") (by walk_at "r")))
 refine bc fun nn=> ?_
 obtain ⟨ms,pm,im⟩:=outs.ints
 refine nn ?_
 have hoL:(h1.push (seqObj "list" xs.toArray 0)).get? h1.objs.size = some (seqObj "list" xs.toArray 0):=Heap.get?_push_size _ rfl
 show wpAny _ _ _ _ _ { s with heap:=h1.push (seqObj "list" xs.toArray 0),drawn:=d,toks:=tk }
 refine wpAny_bind (wpAny_holding (wpAny_call_entry slot_list_sort ⟨_,hoL,rfl⟩ entry_list_sort (list_sort_tree hoL im (by lia) fun out ns' a1 a2 a3=> ⟨_,rfl,?_⟩) (args_list_sort _)))
 exact wpAny_pure ⟨_,rfl,zIv st kp (zNr a1) fun b=> q b ns' (a2.trans pm) a3⟩
theorem zBq {S:Addr} {o:Obj} {ns:List Str} {Q} (hm:(S,AObj.raw o) ∈ H) (so:SetObj (zAc C.prog C.w) o (ns.map Atom.s)) (hz:ns.length < 64)
    (q:∀ b (ms:List Str),ms.Perm ns → sortedS ms = true → Q (.ref b) m ((b,.list (ms.map V.str)) :: H)):Call C m H (.con (.builtin "sorted")) [.ref S] Q:=by
 intro F s vs st i
 refine IsL.el i fun f r hf i=> ?_
 refine zBf i fun u q0=> ?_
 obtain rfl:=q0
 cases hf
 refine bc fun nn=> ?_
 obtain ⟨ho,-⟩:=st.objs _ hm
 refine nn ?_
 refine Calls.call_function_entry kind_sorted plain_sorted entry_sorted (args_sorted1 _) ?_
 unfold Builtin.«sorted»
 refine wpAny_bind (m:=checkCount "sorted" 1 1 _) (wpAny_pure ?_)
 refine wpAny_bind (zHx (by rw [Around.in1_handled];exact st.ok.hh) (so.at ho) (by rw [List.length_map];with_reducible exact omS (by walk_at "a") (by walk_at "r")) fun xs h1 d tk outs hl kp=> ?_)
 rw [List.length_map] at hl
 refine wpAny_bind (wpAny_newList ?_ (by rw [sizeLine_eq];with_reducible exact omEl (by walk_at "a") (by walk_at "a") (by walk_at "r")))
 refine bc fun nn=> ?_
 obtain ⟨ms,pm,im⟩:=outs.strs
 refine nn ?_
 have hoL:(h1.push (seqObj "list" xs.toArray 0)).get? h1.objs.size = some (seqObj "list" xs.toArray 0):=Heap.get?_push_size _ rfl
 show wpAny _ _ _ _ _ { s with heap:=h1.push (seqObj "list" xs.toArray 0),drawn:=d,toks:=tk }
 refine wpAny_bind (wpAny_holding (wpAny_call_entry slot_list_sort ⟨_,hoL,rfl⟩ entry_list_sort (list_sort_treeK strKind_oneLt hoL im.keysOf (fun v₁ v₂ rest e=> keyKind_strs (by rw [← e];exact im)) (by lia) fun st' a1 a2=> ⟨_,rfl,?_⟩) (args_list_sort _)))
 refine bc fun nn=> ?_
 obtain ⟨ss',b1,b2,b3⟩:=sorted_out_str im a1 a2
 refine nn ?_
 exact wpAny_pure ⟨_,rfl,zIv st kp (zSz b1) fun b=> q b ss' (b2.trans pm) b3⟩
end
end Mine
end
section
namespace Mine
variable {B:Addr → Prop}
section
variable {C:Cx} {F:Addr → Option Obj} {m:Loc} {H:AH} {s:Shared}
theorem zLv {x:Expr} {p:Pos} {Q} (h:Ev C m H x fun a m₁ H₁=> ∃ y:Str,a = .str y ∧ y.length ≤ 100000 ∧ Q (.str y) m₁ H₁):Ev C m H (.FormattedValue x (-1) none p) Q:=by
 intro F s vs st i
 refine wpAny_FormattedValue_plain (andThen (h F s [] st rfl) fun v s₁ a m₁ H₁ i₁ st₁ p₁ h₁=> ?_)
 obtain ⟨y,rfl,hy,q⟩:=h₁
 obtain ⟨t,rfl⟩:=i₁
 exact wpAny_formatField_str ⟨_,m₁,H₁,zEw,st₁,p₁,q⟩ ⟨_,m₁,H₁,zEw,st₁.tok,p₁,q⟩ (by rw [sizeLine_eq];exact omT)
theorem zRw {x:Expr} {p:Pos} {Q} (h:Ev C m H x fun a m₁ H₁=> ∃ n:Int,a = .int n ∧ n.natAbs < 2 ^ 60 ∧ Q (.str (Str.ofString (toString n))) m₁ H₁):Ev C m H (.FormattedValue x (-1) none p) Q:=by
 intro F s vs st i
 refine wpAny_FormattedValue_plain (andThen (h F s [] st rfl) fun v s₁ a m₁ H₁ i₁ st₁ p₁ h₁=> ?_)
 refine bc fun nn=> ?_
 obtain ⟨n,rfl,hn,q⟩:=h₁
 obtain ⟨t,rfl⟩:=i₁
 refine nn ?_
 refine wpAny_formatField_int ?_ ⟨_,m₁,H₁,zEw,st₁.tok,p₁,q⟩
 by_cases h:n.natAbs = 0
 ·rw [h];decide
 ·have:=(Nat.log2_lt h).mpr hn;exact omTl
noncomputable def FJ (C:Cx) (Q:V → Loc → AH → Prop):List Expr → Str → Loc → AH → Prop
 | [],acc,m,H=> acc.length ≤ sizeLine ∧ Q (.str acc) m H
 | e :: r,acc,m,H=> Ev C m H e fun a m₁ H₁=> ∃ y:Str,a = .str y ∧ (acc ++ y).length ≤ sizeLine ∧ FJ C Q r (acc ++ y) m₁ H₁
theorem FJ.joins {s₀:Shared} {Q:V → Loc → AH → Prop}:∀ {es:List Expr} {acc:Str} {m:Loc} {H:AH} {s:Shared},FJ C Q es acc m H → St C F m H s → Pres C.ban s₀.heap s.heap →
    Joins C.M C.A (C.X F) (evalEach es C.env) acc (fun out s₁=> out.length ≤ sizeLine ∧ Post C F s₀ Is Q (.str out s₁.toks) { s₁ with toks:=s₁.toks + 1 }) s:=by
 intro es
 induction es with
 | nil=> intro acc m H s h st p;exact ⟨h.1,_,m,H,zEw,st.tok,p,h.2⟩
 | cons e r ih =>
  intro acc m H s h st p
  refine andThen (h F s [] st rfl) fun v s₁ a m₁ H₁ i₁ st₁ p₁ h₁=> ?_
  refine bc fun nn=> ?_
  obtain ⟨y,rfl,hz,q⟩:=h₁
  obtain ⟨t,rfl⟩:=i₁
  refine nn ?_
  exact ⟨y,t,rfl,hz,ih q st₁ (p.trans p₁)⟩
theorem zWj {e₁ e₂:Expr} {r:List Expr} {pos:Pos} {Q} (h:FJ C Q (e₁ :: e₂ :: r) Str.empty m H):Ev C m H (.JoinedStr (e₁ :: e₂ :: r) pos) Q:=by
 intro F s vs st i
 exact wpAny_JoinedStr (FJ.joins h st (Pres.refl _))
theorem zGc {x:Str} {n:Int} {Q} (hn:PySem.intText? x = some n) (hl:x.length ≤ 640) (q:Q (.int n) m H):Call C m H (.con (.type "int")) [.str x] Q:=by
 intro F s vs st i
 refine IsL.el i fun f r hf i=> ?_
 refine zBf i fun u q0=> ?_
 obtain ⟨t,rfl⟩:=q0
 cases hf
 exact W.KIN.call_text hn hl (finT st zCn q)
theorem zL5 {κ:Type} [DecidableEq κ]:∀ (more acc:List (κ × Value)),((acc ++ more).map (·.1)).Nodup → merged acc more = acc ++ more:=by
 intro more
 induction more with
 | nil=> intro acc _;exact (List.append_nil _).symm
 | cons y r ih =>
  intro acc h
  obtain ⟨k,v⟩:=y
  have hk:k ∉ acc.map (·.1):=by
   intro hm
   rw [List.map_append,List.nodup_append] at h
   exact h.2.2 k hm k (by exact .head _) rfl
  have e:stored acc k v = acc ++ [(k,v)]:=by
   unfold stored
   rw [if_neg]
   intro q
   obtain ⟨p,hp,e⟩:=List.any_eq_true.mp q
   exact hk (List.mem_map.mpr ⟨p,hp,by simpa using e⟩)
  show merged (stored acc k v) r = _
  rw [e,ih _ (by simpa using h)]
  simp
noncomputable def EvPs (C:Cx) (Q:List (Atom × V) → Loc → AH → Prop):List (Str × Expr) → List (Atom × V) → Loc → AH → Prop
 | [],acc,m,H=> Q acc m H
 | (k,e) :: r,acc,m,H=> Ev C m H e fun a m₁ H₁=> EvPs C Q r (acc ++ [(.s k,a)]) m₁ H₁
noncomputable def prs (C:Cx) (pos:Pos) (kes:List (Str × Expr)) (kc:Str → Expr):List (Sem Value × Sem Value):=kes.map fun p=> (eval (kc p.1) C.env,do let x ← eval p.2 C.env;standAt pos;pure x)
theorem KvIs.snoc {κ:Type} {h:Heap} {k:κ} {v:V} {x:Value} (i:Is B h v x) {l:List (κ × V)}:∀ {l'},KvIs B h l l' → KvIs B h (l ++ [(k,v)]) (l' ++ [(k,x)]):=by
 induction l with
 | nil =>
  intro _ e
  cases e;exact ⟨x,[],rfl,i,rfl⟩
 | cons pp _ ih =>
  obtain ⟨_,_⟩:=pp
  intro _ zz
  obtain ⟨y,r',e,iy,z⟩:=zz;subst e;exact ⟨y,_,rfl,iy,ih z⟩
theorem KvIs.keyL {κ:Type} {h:Heap} {l:List (κ × V)}:∀ {l'},KvIs B h l l' → l'.map (·.1) = l.map (·.1):=by
 induction l with
 | nil =>
  intro _ e
  cases e;rfl
 | cons pp _ ih =>
  obtain ⟨_,_⟩:=pp
  intro _ zz
  obtain ⟨y,r',e,iy,z⟩:=zz;subst e;simp [ih z]
theorem zT5 {Q:List (Atom × V) → Loc → AH → Prop} {pos:Pos} {kc:Str → Expr} (hkc:∀ k,∃ kk kp,kc k = .Constant (.str k) kk kp) {P:List (Value × Value) → Shared → Prop} {p0:Shared} :
    ∀ {kes:List (Str × Expr)} {acc:List (Atom × V)} {m:Loc} {H:AH} {s:Shared} {pre:List (Value × Value)} {kvs:List (Atom × Value)},EvPs C Q kes acc m H → St C F m H s → Pres C.ban p0.heap s.heap → Carries (zAc C.prog C.w) pre kvs → KvIs C.ban s.heap acc kvs →
    (∀ l m' H' s' vs kvs',Q l m' H' → St C F m' H' s' → Pres C.ban p0.heap s'.heap → Carries (zAc C.prog C.w) (pre ++ vs) kvs' → KvIs C.ban s'.heap l kvs' → vs.length = kes.length → l.map (·.1) = acc.map (·.1) ++ kes.map (fun p=> .s p.1) → P vs s') →
    wpAny C.M C.A (evalPairs (prs C pos kes kc)) P (C.X F) s:=by
 intro kes
 induction kes generalizing P with
 | nil =>
  intro acc m H s pre kvs h st p cr kv fin
  exact evalPairs_nil (fin acc m H s [] kvs h st p (by rw [List.append_nil];exact cr) kv rfl (by simp))
 | cons ke r ih =>
  intro acc m H s pre kvs h st p cr kv fin
  obtain ⟨k,e⟩:=ke
  obtain ⟨kk,kp,ek⟩:=hkc k
  refine evalPairs_cons ?_
  rw [ek]
  refine wpAny_Constant_str ?_
  have st1:St C F m H { s with toks:=s.toks + 1 }:=st.tok
  refine wpAny_bind (andThen (h F _ [] st1 rfl) fun v s₁ a m₁ H₁ i₁ st₁ p₁ h₁=> wpAny_bind (wpAny_standAt (wpAny_pure ?_)))
  have cr':Carries (zAc C.prog C.w) (pre ++ [(.str k s.toks,v)]) (kvs ++ [(.s k,v)]):=by
   have gen:∀ {a:List (Value × Value)} {b:List (Atom × Value)},Carries (zAc C.prog C.w) a b → Carries (zAc C.prog C.w) (a ++ [(.str k s.toks,v)]) (b ++ [(.s k,v)]):=by
    intro a
    induction a with
    | nil=> intro b hb;cases b with
     | nil=> exact ⟨by simp [zAc,Atom.is,Value.isStrOf],rfl,trivial⟩
     | cons x y=> exact hb.elim
    | cons x y ih=> intro b hb;cases b with
     | nil=> exact hb.elim
     | cons x' y'=> exact ⟨hb.1,hb.2.1,ih hb.2.2⟩
   exact gen cr
  have kv':KvIs C.ban s₁.heap (acc ++ [(.s k,a)]) (kvs ++ [(.s k,v)]):=(kv.mono p₁).snoc i₁
  refine ih h₁ st₁ (p.trans p₁) cr' kv' fun l m' H' s' vs kvs' q st' p' cr'' kv'' hl hk=> ?_
  refine fin l m' H' s' _ kvs' q st' p' (by rw [List.append_assoc] at cr'';exact cr'') kv'' (by simp [hl]) (by rw [hk];simp)
@[reducible] noncomputable def kDict (Q:V → Loc → AH → Prop):List (Atom × V) → Loc → AH → Prop:=fun l m H=> ∀ d,Q (.ref d) m ((d,.dictA l) :: H)
theorem zTu {kes:List (Str × Expr)} {keys:List (Option Expr)} {values:List Expr} {pos:Pos} {kc:Str → Expr} {Q} (hkc:∀ k,∃ kk kp,kc k = .Constant (.str k) kk kp)
    (hshape:(evalEachOpt keys C.env).zip ((evalEach values C.env).map fun v=> do let x ← v;standAt pos;pure x) = (prs C pos kes kc).map fun p=> (some p.1,p.2)) (h0:kes ≠ []) (hlen:kes.length ≤ 15) (hnd:zEt (kes.map (·.1)) = true)
    (h:∀ X,EvPs (C.wX X) (kDict Q) kes [] m H):Ev C m H (.Dict keys values pos) Q:=by
 intro F s vs st i
 refine wpAny_Dict_pairs (knd:=zAc C.prog C.w) hshape (by unfold prs;simpa using h0) (by unfold prs;simpa using hlen) ?_
 have st1:=st.newDictA
 have zz:=st1.drop2
 have st2:=zz.1
 have ap:=zz.2
 have hd:=(st1.objs _ (.head _))
 have ap':Apart C F H [s.heap.objs.size]:=ap
 have st3:=(St.freeze st2 ap').wX (fun _=> C.X F)
 have hsz:(s.heap.push { cls:=.type "dict",data:=.dict #[] }).get? s.heap.objs.size = some { cls:=.type "dict",data:=.dict #[] }:=Heap.get?_push_size _ rfl
 refine zT5 (C:=C.wX fun _=> C.X F) (p0:={ s with heap:=s.heap.push { cls:=.type "dict",data:=.dict #[] } }) hkc (h (fun _=> C.X F)) st3 (Pres.refl _) (pre:=[]) (kvs:=[]) trivial rfl fun l m' H' s' vs kvs' q st' p' cr kv hl hk=> ?_
 refine bc fun nn=> ?_
 obtain ⟨st4,ap4,same⟩:=St.thaw (s₀:={ s with heap:=s.heap.push { cls:=.type "dict",data:=.dict #[] } }) st.base st.bl ap'.old (fun b hb=> ⟨_,(List.mem_singleton.mp hb) ▸ hsz⟩) (St.ofX st.ok st')
 refine nn ?_
 have hd4:s'.heap.get? s.heap.objs.size = some { cls:=.type "dict",data:=.dict #[] }:=same _ (.head _) _ hsz
 have nd:(kvs'.map (·.1)).Nodup:=by
  rw [kv.keyL,hk]
  have:=zBu hnd
  have e:kes.map (fun p=> Atom.s p.1) = (kes.map (·.1)).map Atom.s:=by simp
  simp only [List.map_nil,List.nil_append]
  rw [e]
  exact List.Pairwise.map _ (fun a b hab e=> hab (by injection e)) this
 refine ⟨kvs',by simpa using cr,⟨_,#[],0,hd4,⟨rfl,rfl,rfl⟩,rfl,fun e he=> by simp at he,.nil,List.nodup_nil⟩,fun h' hd' sb=> ?_⟩
 rw [zL5 kvs' [] (by simpa using nd),List.nil_append] at hd'
 have oth:∀ b o,b ≠ s.heap.objs.size → s'.heap.get? b = some o → h'.get? b = some o:=fun b o hb e=> (sb.2 b hb).trans e
 refine bc fun nn=> ?_
 obtain ⟨st5,p5⟩:=st4.but (h':=h') (tk:=s'.toks + vs.length) ap4 (fun b hb xs nb ⟨o,e,c,n,dd⟩=> by
  rw [List.mem_singleton.mp hb,hd4] at e;cases e;cases dd) (fun b o hb e=> oth b o (by simpa using hb) e)
 refine nn ?_
 have pk0:Pres C.ban s.heap (s.heap.push { cls:=.type "dict",data:=.dict #[] }):=Pres.keeps fun b o e=> Heap.get?_push_of_some _ e
 refine ⟨.ref s.heap.objs.size,m',(s.heap.objs.size,.dictA l) :: H',zB3,?_,pk0.trans (p'.trans p5),q _⟩
 refine ⟨st5.ok,st5.gens,st5.os,st5.base,st5.raw,st5.bl,st5.fr,fun p hp=> ?_,?_,fun b hb=> ?_,fun p hp=> ⟨(st5.ups p hp).1,(st5.ups p hp).2.1,fun hm=> ?_⟩⟩
 ·rcases List.mem_cons.mp hp with rfl | hp
  ·exact ⟨⟨kvs',hd',kv.mono p5⟩,st.newSys⟩
  ·exact st5.objs p hp
 ·have n1:=ap4.own s.heap.objs.size (.head _)
  have nd5:=List.nodup_cons.mp st5.nodup
  have m0:¬ (_ ∨ _):=fun h=> n1 (List.mem_cons.mpr h)
  refine List.nodup_cons.mpr ⟨fun hm=> ?_,List.nodup_cons.mpr ⟨fun hm=> m0 (.inr hm),nd5.2⟩⟩
  rcases List.mem_cons.mp hm with q | hm
  ·exact m0 (.inl q.symm)
  ·exact nd5.1 hm
 ·rcases List.mem_cons.mp hb with rfl | hb
  ·exact st5.fresh _ (.head _)
  ·rcases List.mem_cons.mp hb with rfl | hb
   ·exact (ap4.old _ (.head _)).1
   ·exact st5.fresh b (.tail _ hb)
 ·rcases List.mem_cons.mp hm with q | hm
  ·exact (st5.ups p hp).2.2 (q ▸ .head _)
  ·rcases List.mem_cons.mp hm with q | hm
   ·exact (ap4.old _ (.head _)).2 p.2 (show (s.heap.objs.size,p.2) ∈ C.up from (show p.1 = s.heap.objs.size from q) ▸ hp)
   ·exact (st5.ups p hp).2.2 (.tail _ hm)
theorem zDv {k₁ k₂:Str} {e₁ e₂:Expr} {a₁ a₂:Nat} {p₁ p₂:Pos} {pos:Pos} {Q} (hnd:zEt [k₁,k₂] = true)
    (h:∀ X,EvPs (C.wX X) (kDict Q) [(k₁,e₁),(k₂,e₂)] [] m H):Ev C m H (.Dict [some (.Constant (.str k₁) a₁ p₁),some (.Constant (.str k₂) a₂ p₂)] [e₁,e₂] pos) Q :=
 zTu (kes:=[(k₁,e₁),(k₂,e₂)]) (kc:=fun k=> .Constant (.str k) 0 default) (fun k=> ⟨_,_,rfl⟩) rfl (fun e=> by cases e) (Nat.le_of_ble_eq_true rfl) hnd h
end
end Mine
end
section
namespace Mine
variable {B:Addr → Prop}
section
variable {C:Cx} {F:Addr → Option Obj} {m:Loc} {H:AH} {s:Shared}
theorem zUr {body:List Stmt} {h₀:ExceptHandler} {hs:List ExceptHandler} {pos:Pos} {rest:List Stmt} {Q}
    (h:∀ X,Ex (C.wX X) m H body fun fl m₁ H₁=> Seq C rest Q fl m₁ H₁):Ex C m H (.Try body (h₀ :: hs) [] [] pos :: rest) Q:=by
 refine zCm fun F s vs st i=> ?_
 refine wpAny_Try_except ?_
 let X:(Addr → Option Obj) → Value → Shared → Prop:=fun _ e s₁=> wpAny (model C.prog C.w) C.A (noteFrame e C.env) (fun _ s₂=> wpAny (model C.prog C.w) C.A (setFlight e none) (fun _ s₃=> wpAny (model C.prog C.w) C.A (handleBy e C.env (h₀ :: hs)) (Post C F s zEe (Seq C rest Q)) (C.X F) s₃) (C.X F) s₂) (C.X F) s₁
 refine andThen (C:=C.wX X) (h X F s [] (st.wX X) rfl) fun f s₁ fl m₁ H₁ i₁ st₁ p₁ h₁=> ?_
 have st₁':=St.ofX st.ok st₁
 cases fl with
 | next=> cases i₁;exact wpAny_execs_nil ⟨.next,m₁,H₁,rfl,st₁',p₁,h₁⟩
 | brk=> cases i₁;exact ⟨.brk,m₁,H₁,rfl,st₁',p₁,h₁⟩
 | cont=> cases i₁;exact ⟨.cont,m₁,H₁,rfl,st₁',p₁,h₁⟩
 | ret v=> obtain ⟨x,rfl,ix⟩:=i₁;exact ⟨.ret v,m₁,H₁,⟨x,rfl,ix⟩,st₁',p₁,h₁⟩
end
section
variable {prog:Program} {w:World} {A:Around} {E:Value → Shared → Prop} {s:Shared}
end
section
variable {C:Cx} {F:Addr → Option Obj} {m:Loc} {H:AH} {s:Shared}
end
end Mine
end
section
namespace Mine
theorem zXe:bootBuiltins "zip" = some (.type "zip"):=by kernel_rfl
section
variable {C:Cx} {m:Loc} {H:AH}
theorem zO3 {x:Str} {np:Pos} {e:Expr} {r:List Expr} {pos:Pos} {v:Value} {Q} (e1:nsIn (KK C.w) mainGlobals x = some none) (e2:bootBuiltins x = some v) (hn:x ≠ "__name__") (kv:KeepOk C.w (.con v)) (hk:C.env.kindOf x = some .globalImplicit)
    (h:EvL C m H pos (e :: r) (kArgs C (.con v) Q)) (h1:starEach (e :: r) C.env = (false,eval e C.env) :: starEach r C.env) (h2:(backTo pos (starEach r C.env)).any (·.1) = false)
    (hd:(x == ("__debug__":Str)) = false):Ev C m H (.Call (.Name x np) (e :: r) [] pos) Q :=
 zS0 (zJ6 e1 e2 hn ⟨kv,h⟩ hk hd) h1 h2
theorem zTw {x:Str} {np:Pos} {e:Expr} {r:List Expr} {pos:Pos} {a:Addr} {Q} (e1:nsIn (KK C.w) mainGlobals x = some (some (.ref a))) (kv:keepIn (KK C.w) (.ref a) = true) (hk:C.env.kindOf x = some .globalImplicit)
    (h:EvL C m H pos (e :: r) (kArgs C (.ref a) Q)) (h1:starEach (e :: r) C.env = (false,eval e C.env) :: starEach r C.env) (h2:(backTo pos (starEach r C.env)).any (·.1) = false)
    (hd:(x == ("__debug__":Str)) = false):Ev C m H (.Call (.Name x np) (e :: r) [] pos) Q :=
 zS0 (zI9 e1 (fun _ _ _ _=> zB3) ⟨kv,h⟩ hk hd) h1 h2
theorem zRx {x:Str} {np:Pos} {pos:Pos} {a:Addr} {Q} (e1:nsIn (KK C.w) mainGlobals x = some (some (.ref a))) (kv:keepIn (KK C.w) (.ref a) = true) (hk:C.env.kindOf x = some .globalImplicit)
    (h:Call C m H (.ref a) [] Q) (hd:(x == ("__debug__":Str)) = false):Ev C m H (.Call (.Name x np) [] [] pos) Q :=
 zTx (zI9 e1 (fun _ _ _ _=> zB3) ⟨kv,h⟩ hk hd)
end
section
variable {C:Cx} {m:Loc} {H:AH}
theorem zPw:typeOf (.builtin "list.append") = pure (.type "method_descriptor"):=by kernel_rfl
theorem zPv:typeOf (.builtin "list.extend") = pure (.type "method_descriptor"):=by kernel_rfl
theorem zWu:typeOf (.builtin "list.pop") = pure (.type "method_descriptor"):=by kernel_rfl
end
end Mine
end
section
namespace Mine
section
variable {C:Cx} {m:Loc} {H:AH}
structure kMap4 (f:V → Option V) (x:V) (H':AH) (v:V) (m:Loc) (H₃:AH):Prop where
 h1:f x = some v
 h2:Weak H₃ H'
structure kMap3 (C:Cx) (elt:Expr) (f:V → Option V) (x:V) (H':AH) (b:Bool) (m:Loc) (H:AH):Prop where
 h1:(b = true → Ev C m H elt (kMap4 f x H'))
 h2:(b = false → f x = none ∧ Weak H H')
@[reducible] noncomputable def kMap2 (C:Cx) (ifs:List Expr) (elt:Expr) (f:V → Option V) (x:V) (H':AH):Unit → Loc → AH → Prop:=fun _ m H=> TrL C m H ifs (kMap3 C elt f x H')
theorem zBk {target elt:Expr} {ifs:List Expr} {scope:Scope} {cl:List (Str × Addr)} {v:V} {H':AH} {xs:List V} {src:AH → Prop} {Q:List V → AH → Prop} (f:V → Option V)
    (wk:Walk C target H v src xs H') (hs:src H') (hl:xs.length ≤ 16000000)
    (turn:∀ L X x,x ∈ xs → Asg (C.inComp scope cl L X) [] H' target x (kMap2 (C.inComp scope cl L X) ifs elt f x H'))
    (fin:Q (xs.filterMap f) H'):CompT C target ifs elt scope cl v H Q:=by
 refine ⟨xs,src,H',wk,hl,fun i acc H=> acc = (xs.take i).filterMap f ∧ H = H',⟨by exact rfl,rfl⟩,fun i acc H h=> by rw [h.2];exact hs,fun L X i x acc H hx hI=> ?_,fun acc H h=> ?_⟩
 ·obtain ⟨rfl,rfl⟩:=hI
  have hm:x ∈ xs:=List.mem_of_getElem? hx
  have tk:(xs.take (i + 1)).filterMap f = (xs.take i).filterMap f ++ (f x).toList:=by
   rw [List.take_add_one,hx,List.filterMap_append]
   simp only [Option.toList_some,List.filterMap_cons,List.filterMap_nil]
   cases f x <;> rfl
  refine T.conseq (turn L X x hm) fun _ m₁ H₁ h=> ?_
  refine T.weakPost h fun b m₂ H₂ q=> ?_
  cases b with
  | true =>
   refine ⟨H₂,Weak.refl _,fun _=> ?_,fun e=> by exact Bool.noConfusion e⟩
   refine T.weakPost (q.1 rfl) fun v m₃ H₃ z=> ⟨H,z.2,?_,rfl⟩
   rw [tk,z.1];rfl
  | false =>
   obtain ⟨z1,z2⟩:=q.2 rfl
   refine ⟨H,z2,fun e=> by (exact Bool.noConfusion e),fun _=> ⟨?_,rfl⟩⟩
   rw [tk,z1];simp
 ·obtain ⟨rfl,rfl⟩:=h
  rw [List.take_length];exact fin
theorem zAm {a:Addr} {l:List V} (hm:(a,AObj.list l) ∈ H):zDm C H (.ref a) "append" (.con (.builtin "list.append")):=zBa (.inl ⟨l,hm,rfl⟩) PySem.F.plainAttrs_list PySem.slot_list_append zPw
theorem zHg {a:Addr} {l:List V} (hm:(a,AObj.list l) ∈ H):zDm C H (.ref a) "extend" (.con (.builtin "list.extend")):=zBa (.inl ⟨l,hm,rfl⟩) PySem.F.plainAttrs_list PySem.F.slot_list_extend zPv
theorem zSq {a:Addr} {l:List V} (hm:(a,AObj.list l) ∈ H):zDm C H (.ref a) "pop" (.con (.builtin "list.pop")):=zBa (.inl ⟨l,hm,rfl⟩) PySem.F.plainAttrs_list PySem.F.slot_list_pop zWu
theorem zDi {a:Addr} {l:List (Atom × V)} (hm:(a,AObj.dictA l) ∈ H):zDm C H (.ref a) "get" (.con (.builtin "dict.get")):=zBa (.inr (.inl ⟨l,hm,rfl⟩)) PySem.F.plainAttrs_dict PySem.F.slot_dict_get (by kernel_rfl)
theorem zQi {a:Addr} {l:List (Atom × V)} (hm:(a,AObj.dictA l) ∈ H):zDm C H (.ref a) "pop" (.con (.builtin "dict.pop")):=zBa (.inr (.inl ⟨l,hm,rfl⟩)) PySem.F.plainAttrs_dict PySem.F.slot_dict_pop (by kernel_rfl)
theorem zE6 {a:Addr} {l:List (List Atom × V)} (hm:(a,AObj.dictT l) ∈ H):zDm C H (.ref a) "setdefault" (.con (.builtin "dict.setdefault")):=zBa (.inr (.inr ⟨l,hm,rfl⟩)) PySem.F.plainAttrs_dict PySem.F.slot_dict_setdefault (by kernel_rfl)
theorem zFg {x:Str}:zDm C H (.str x) "join" (.con (.builtin "str.join")):=zBa rfl PySem.F.plainAttrs_str PySem.F.slot_str_join (by kernel_rfl)
theorem zEk {x:Str}:zDm C H (.str x) "split" (.con (.builtin "str.split")):=zBa rfl PySem.F.plainAttrs_str PySem.F.slot_str_split (by kernel_rfl)
theorem zL4 {x:Str}:zDm C H (.str x) "isspace" (.con (.builtin "str.isspace")):=zBa rfl PySem.F.plainAttrs_str PySem.F.slot_str_isspace (by kernel_rfl)
end
noncomputable def okSc (s:Scope):Bool:=s.names.all (fun y=> decide (y.2 ≠ .cell)) && decide (s.kind = .function) && s.names.all fun x=> decide (x.2 = .local → s.names.lookup x.1 = some .local)
theorem scOk {s:Scope} (h:okSc s = true):ScOk s:=by
 unfold okSc at h
 simp only [Bool.and_eq_true,List.all_eq_true,decide_eq_true_eq] at h
 exact ⟨fun y hy=> h.1.1 y hy,h.1.2,fun x hx e=> h.2 x hx e⟩
section
variable {C:Cx} {m:Loc} {H:AH}
inductive zUo (C:Cx) (o:Expr) (name:Str) (apos pos:Pos) (es:List Expr):Prop
 | mk (pl:Sem Bool) (h:eval (.Call (.Attribute o name apos) es [] pos) C.env = (do
     let ov ← eval o C.env
     standAt apos.atName
     let (f,first) ← holding [ov] (getMethod ov name pl)
     callWith pos f first (backTo pos (starEach es C.env)) (backToKw pos (keywordEach [] C.env))))
theorem zTs {o:Expr} {name:Str} {apos pos:Pos} {e:Expr} {r:List Expr} {Q}
    (h:Ev C m H o (kMeth C name pos (e :: r) Q))
    (h1:starEach (e :: r) C.env = (false,eval e C.env) :: starEach r C.env) (h2:(backTo pos (starEach r C.env)).any (·.1) = false)
    (he:zUo C o name apos pos (e :: r)) :
    Ev C m H (.Call (.Attribute o name apos) (e :: r) [] pos) Q:=by
 obtain ⟨pl,he⟩:=he;exact zWh h h1 h2 he
theorem zRv {o:Expr} {name:Str} {apos pos:Pos} {Q}
    (h:Ev C m H o (zUj C name Q))
    (he:zUo C o name apos pos []) :
    Ev C m H (.Call (.Attribute o name apos) [] [] pos) Q:=by
 obtain ⟨pl,he⟩:=he;exact zTt h he
end
theorem Weak.drop {H H':AH} {p:Addr × AObj} (w:Weak H H'):Weak (p :: H) H':=by
 obtain ⟨R,q⟩:=w
 exact ⟨p :: R,(q.cons p).trans List.perm_middle.symm⟩
theorem Weak.cons {H H':AH} {p:Addr × AObj} (w:Weak H H'):Weak (p :: H) (p :: H'):=by
 obtain ⟨R,q⟩:=w
 exact ⟨R,q.cons p⟩
theorem Weak.trans {H H' H'':AH} (w:Weak H H') (w':Weak H' H''):Weak H H'':=by
 obtain ⟨R,q⟩:=w
 obtain ⟨R',q'⟩:=w'
 exact ⟨R' ++ R,q.trans (by rw [← List.append_assoc];exact q'.append_right R)⟩
inductive kW (m:Loc) (Q:V → Loc → AH → Prop) (fl:AFlow) (_m:Loc) (H':AH):Prop
 | mk (H'':AH) (w:Weak H' H'') (q:Q fl.val m H'')
inductive WkM (m:Loc) (Q:V → Loc → AH → Prop) (v:V) (m':Loc) (H':AH):Prop
 | mk (e:m' = m) (H'':AH) (w:Weak H' H'') (q:Q v m H'')
theorem kW.wk {m:Loc} {Q:V → Loc → AH → Prop} {fl:AFlow} {m₁:Loc} {H':AH} (x:kW m Q fl m₁ H'):WkM m Q fl.val m H':=by
 obtain ⟨H'',w,q⟩:=x;exact ⟨rfl,H'',w,q⟩
section
variable {C:Cx} {m:Loc} {H:AH}
theorem zAo {f:Addr} {oc:Value} {od:Option Addr} {osl:Array (Option Value)} {fd:FuncData} (names:List Str) {body:List Stmt} {args:List V} {Q:V → Loc → AH → Prop}
    (ho:(KK C.w).lookup f = some ⟨oc,od,.func fd,osl⟩) (hb:fd.body = .stmts body) (bind:∀ vs:List Value,vs.length = names.length → bindArgs fd ⟨vs,[]⟩ = pure (names.zip vs)) (ok:okFn C.w fd names = true)
    (hl:args.length = names.length) (hroom:0 < C.n)
    (h:∀ L X,Ex (C.into m (callEnv fd L f) X) (names.zip args) H body (kW m Q)):Cd C m H (.ref f) args Q :=
 Cd.weakPost (Q:=WkM m Q) (Cd_fn names ho hb bind ok hl hroom fun L X=> T.conseq (h L X) fun _ _ _ q=> q.wk) fun b m' H' q=> by
  obtain ⟨rfl,H'',w,q⟩:=q
  exact ⟨H'',w,q⟩
theorem zD2 {f:Addr} {oc:Value} {od:Option Addr} {osl:Array (Option Value)} {fd:FuncData} (names:List Str) {body:List Stmt} {args:List V} {Q:V → Loc → AH → Prop}
    (ho:(KK C.w).lookup f = some ⟨oc,od,.func fd,osl⟩) (hb:fd.body = .stmts body) (bind:∀ vs:List Value,vs.length = names.length → bindArgs fd ⟨vs,[]⟩ = pure (names.zip vs)) (ok:okFnC C.w fd names = true)
    (hkind:∀ n,(names.all fun x=> decide (fd.scope.names.lookup x = some .local) || (decide (fd.scope.names.lookup x = some .cell) && ((cellsFrom n fd.scope.names []).lookup x).isSome)) = true)
    (hnd:∀ n,zEt ((cellsFrom n fd.scope.names []).map (·.1)) = true) (hcl:∀ n,((cellsFrom n fd.scope.names []).all fun x=> decide (fd.scope.names.lookup x.1 ≠ some .local)) = true)
    (hl:args.length = names.length) (hroom:0 < C.n)
    (h:∀ L X,Ex (C.into m (callEnvC fd L f) X) (zE7 fd (names.zip args)) (zCz fd L f (names.zip args) ++ H) body (kW m Q)):Cd C m H (.ref f) args Q :=
 Cd.weakPost (Q:=WkM m Q) (zXr names ho hb bind ok hkind hnd hcl hl hroom fun L X=> T.conseq (h L X) fun _ _ _ q=> q.wk) fun b m' H' q=> by
  obtain ⟨rfl,H'',w,q⟩:=q
  exact ⟨H'',w,q⟩
theorem zKi {f:Addr} {oc:Value} {od:Option Addr} {osl:Array (Option Value)} {fd:FuncData} (names:List Str) {body:List Stmt} {args:List V} {Q:V → Loc → AH → Prop}
    (ho:(KK C.w).lookup f = some ⟨oc,od,.func fd,osl⟩) (hb:fd.body = .stmts body) (bind:∀ vs:List Value,vs.length = names.length → bindArgs fd ⟨vs,[]⟩ = pure (names.zip vs)) (ok:okFn C.w fd names = true)
    (hl:args.length = names.length) (hroom:0 < C.n)
    (h:∀ L X,ExA (C.into m (callEnv fd L f) X) body (names.zip args) H body (kW m Q)):Cd C m H (.ref f) args Q:=by
 refine Cd.weakPost (Q:=WkM m Q) (zUs names ho hb bind ok hl hroom fun L X=> fun F s st=> ?_) fun b m' H' q=> ?_
 ·exact ks_wpAt_mono (h L X F s st) (fun a s' ⟨b,m',H',r,st',p,q⟩=> ⟨b,m',H',r,st',p,q.wk⟩) fun _ _ e=> e
 ·obtain ⟨rfl,H'',w,q⟩:=q
  exact ⟨H'',w,q⟩
end
section
variable {C:Cx} {m:Loc} {H:AH}
theorem zKb {rest:List Stmt} {Q} (h:Ex C m H rest Q):Seq C rest Q .next m H:=h
theorem zW1 {rest:List Stmt} {Q} {v:V} (h:Q (.ret v) m H):Seq C rest Q (.ret v) m H:=h
theorem zRh {body rest:List Stmt} {Q} (h:ExA C body m H rest Q):SeqA C body rest Q .next m H:=h
end
noncomputable def LocLe (m m':Loc):Prop:=∀ x,lk x m' = none ∨ lk x m' = lk x m
theorem LocLe.refl (m:Loc):LocLe m m:=fun x=> .inr rfl
theorem LocLe.put {m m':Loc} {x:Str} {v:V} (hx:lk x m' = none) (h:LocLe m m'):LocLe (put x v m) m':=fun y=> by
 by_cases e:y = x
 ·subst e;exact .inl hx
 ·rcases h y with q | q
  ·exact .inl q
  ·right;rw [zUf,if_neg e];exact q
section
variable {C:Cx} {F:Addr → Option Obj} {m:Loc} {H:AH} {s:Shared}
theorem St.loc {m':Loc} (st:St C F m H s) (l:LocLe m m'):St C F m' H s:=by
 refine ⟨st.ok,st.gens,st.os,st.base,st.raw,st.bl,?_,st.objs,st.nodup,st.fresh,st.ups⟩
 obtain ⟨f,hn,hf⟩:=st.fr
 refine ⟨f,hn,fun x=> ?_⟩
 rcases l x with e | e
 ·rw [e];trivial
 ·rw [e];exact hf x
theorem T.weak2 {α β:Type} {ins:List V} {t:List Value → Sem α} {R:(Addr → Prop) → Heap → β → α → Prop} {Q Q':β → Loc → AH → Prop} (h:T C m H ins t R Q)
    (k:∀ b m' H',Q b m' H' → ∃ m'' H'',LocLe m' m'' ∧ Weak H' H'' ∧ Q' b m'' H''):T C m H ins t R Q' :=
 fun F s vs st i=> andThen (h F s vs st i) fun a s' b m' H' r st' p q=> by
  refine bc fun nn=> ?_
  obtain ⟨m'',H'',l,w,q'⟩:=k b m' H' q
  refine nn ?_
  exact ⟨b,m'',H'',r,(st'.weak w).loc l,p,q'⟩
inductive zX2 (m₁:Loc) (I:Nat → AH → Prop) (i:Nat) (fl:AFlow) (m₃:Loc) (H₃:AH):Prop
 | mk (f:fl = .next ∨ fl = .cont) (l:LocLe m₃ m₁) (H₄:AH) (w:Weak H₃ H₄) (q:I (i + 1) H₄)
inductive kForI (C:Cx) (target:Expr) (body rest:List Stmt) (Q:AFlow → Loc → AH → Prop) (v:V) (m₁:Loc) (H₁:AH):Prop
 | mk (xs:List V) (src:AH → Prop) (H':AH) (wk:Walk C target H₁ v src xs H') (I:Nat → AH → Prop) (h0:I 0 H') (hs:∀ i H,I i H → src H)
     (turn:∀ X i x H,xs[i]? = some x → I i H → Asg (C.wX X) m₁ H target x (kEx (C.wX X) body (zX2 m₁ I i))) (fin:∀ H,I xs.length H → Ex C m₁ H rest Q)
inductive zX3 (m₁:Loc) (H':AH) (fl:AFlow) (m₃:Loc) (H₃:AH):Prop
 | mk (f:fl = .next ∨ fl = .cont) (l:LocLe m₃ m₁) (w:Weak H₃ H')
inductive kForC (C:Cx) (target:Expr) (body rest:List Stmt) (Q:AFlow → Loc → AH → Prop) (v:V) (m₁:Loc) (H₁:AH):Prop
 | mk (xs:List V) (src:AH → Prop) (H':AH) (wk:Walk C target H₁ v src xs H') (hs:src H')
     (turn:∀ X x,x ∈ xs → Asg (C.wX X) m₁ H' target x (kEx (C.wX X) body (zX3 m₁ H'))) (fin:Ex C m₁ H' rest Q)
theorem zG6 {target iter:Expr} {body:List Stmt} {pos:Pos} {rest:List Stmt} {Q}
    (h:Ev C m H iter (kForI C target body rest Q))
    (hs:∀ x,foldedSetIterable iter C.env x = pure x):Ex C m H (.For target iter body [] pos :: rest) Q:=by
 refine zRq (T.conseq h fun v m₁ H₁ q=> ?_) hs
 obtain ⟨xs,src,H',wk,I,h0,hsrc,turn,fin⟩:=q
 refine ⟨xs,src,H',wk,fun i m' H=> m' = m₁ ∧ I i H,⟨rfl,h0⟩,fun i m' H h=> hsrc i H h.2,fun X i x m' H hx hI=> ?_,fun m' H h=> ?_⟩
 ·obtain ⟨rfl,hI⟩:=hI
  refine T.conseq (turn X i x H hx hI) fun _ m₂ H₂ h=> T.weak2 h fun fl m₃ H₃ q=> ?_
  obtain ⟨hf,l,H₄,w,q⟩:=q
  refine ⟨m',H₄,l,w,?_⟩
  rcases hf with rfl | rfl <;> exact ⟨rfl,q⟩
 ·obtain ⟨rfl,h⟩:=h
  exact fin H h
theorem zKd {target iter:Expr} {body:List Stmt} {pos:Pos} {rest:List Stmt} {Q}
    (h:Ev C m H iter (kForC C target body rest Q))
    (hs:∀ x,foldedSetIterable iter C.env x = pure x):Ex C m H (.For target iter body [] pos :: rest) Q:=by
 refine zG6 (T.conseq h fun v m₁ H₁ q=> ?_) hs
 obtain ⟨xs,src,H',wk,hsrc,turn,fin⟩:=q
 refine ⟨xs,src,H',wk,fun i H=> H = H',rfl,fun i H e=> e ▸ hsrc,fun X i x H hx e=> ?_,fun H e=> e ▸ fin⟩
 subst e
 exact T.conseq (turn X x (List.mem_of_getElem? hx)) fun _ m₂ H₂ h=> T.conseq h fun fl m₃ H₃ ⟨q1,q2,q3⟩=> ⟨q1,q2,H,q3,rfl⟩
end
inductive Pick (x:Addr × AObj):AH → AH → Prop
 | here {r}:Pick x (x :: r) r
 | there {y r r'}:Pick x r r' → Pick x (y :: r) (y :: r')
theorem Pick.perm {x:Addr × AObj} {l l':AH} (p:Pick x l l'):List.Perm (x :: l') l:=by
 induction p with
 | here=> exact List.Perm.refl _
 | there _ ih=> exact (List.Perm.swap _ _ _).trans (ih.cons _)
theorem Weak.pick {x:Addr × AObj} {H H₁ H₂:AH} (p:Pick x H H₁) (w:Weak H₁ H₂):Weak H (x :: H₂):=Weak.trans ⟨[],by rw [List.append_nil];exact p.perm.symm⟩ w.cons
theorem Weak.mid {p:Addr × AObj} {A B:AH}:Weak (p :: (A ++ B)) (A ++ p :: B):=⟨[],by rw [List.append_nil];exact List.perm_middle.symm⟩
theorem Weak.perm {A B:AH} (p:List.Perm A B):Weak A B:=⟨[],by rw [List.append_nil];exact p⟩
@[reducible] noncomputable def kPs (C:Cx) (r:List (Str × Expr)) (k:Str) (acc:List (Atom × V)) (Q:List (Atom × V) → Loc → AH → Prop):V → Loc → AH → Prop:=fun a m H=> EvPs C Q r (acc ++ [(.s k,a)]) m H
@[reducible] noncomputable def kFJ (C:Cx) (r:List Expr) (acc:Str) (Q:V → Loc → AH → Prop):V → Loc → AH → Prop:=fun a m H=> ∃ y:Str,a = .str y ∧ (acc ++ y).length ≤ sizeLine ∧ FJ C Q r (acc ++ y) m H
section
variable {C:Cx} {m:Loc} {H:AH}
theorem zS1 {Q:List (Atom × V) → Loc → AH → Prop} {k:Str} {e:Expr} {r:List (Str × Expr)} {acc:List (Atom × V)} (h:Ev C m H e (kPs C r k acc Q)):EvPs C Q ((k,e) :: r) acc m H:=h
theorem zTz {Q:List (Atom × V) → Loc → AH → Prop} {acc:List (Atom × V)} (h:Q acc m H):EvPs C Q [] acc m H:=h
theorem zW8 {Q:V → Loc → AH → Prop} {e:Expr} {r:List Expr} {acc:Str} (h:Ev C m H e (kFJ C r acc Q)):FJ C Q (e :: r) acc m H:=h
theorem zXi {Q:V → Loc → AH → Prop} {acc:Str} (h:acc.length ≤ sizeLine ∧ Q (.str acc) m H):FJ C Q [] acc m H:=h
end
end Mine
end
section
namespace Mine
noncomputable def Up (B B':Addr → Prop) (h h':Heap):Prop:=∀ b o,h.get? b = some o → h'.get? b = some o ∧ (¬ B b → ¬ B' b)
section
variable {B B':Addr → Prop} {h h':Heap}
mutual
theorem Is.up (p:Up B B' h h'):∀ {V:V} {v:Value},Is B h V v → Is B' h' V v
 | .none,_,x=> x
 | .bool _,_,x=> x
 | .int _,_,x=> x
 | .str _,_,x=> x
 | .tup l,_,x=> by
  refine bc fun nn=> ?_
  obtain ⟨a,xs,e,t,r⟩:=x
  obtain ⟨⟨o,ho,q⟩,nb⟩:=t
  refine nn ?_
  exact ⟨a,xs,e,⟨⟨o,(p a o ho).1,q⟩,(p a o ho).2 nb⟩,IsL.up p r⟩
 | .ref _,_,x=> x
 | .con _,_,x=> x
theorem IsL.up (p:Up B B' h h'):∀ {l:List V} {vs:List Value},IsL B h l vs → IsL B' h' l vs
 | [],_,x=> x
 | _ :: _,_,x=> by
  obtain ⟨y,r,e,a,b⟩:=x
  exact ⟨y,r,e,Is.up p a,IsL.up p b⟩
end
theorem KvIs.up {κ:Type} (p:Up B B' h h') {l:List (κ × V)}:∀ {l'},KvIs B h l l' → KvIs B' h' l l':=by
 induction l with
 | nil =>
  intro _ x
  exact x
 | cons pp _ ih =>
  obtain ⟨_,_⟩:=pp
  intro _ zz
  obtain ⟨x,r',e,a,b⟩:=zz;exact ⟨x,r',e,Is.up p a,ih b⟩
theorem KvIsT.up (p:Up B B' h h') {l:List (List Atom × V)}:∀ {l':List (List Atom × Addr × Value)},(∀ y ∈ l',∃ o,h.get? y.2.1 = some o) → KvIsT B h l l' → KvIsT B' h' l l':=by
 induction l with
 | nil =>
  intro _ _ x
  exact x
 | cons pp _ ih =>
  obtain ⟨_,_⟩:=pp
  intro _ t zz
  obtain ⟨a,x,r',e,nb,i,b⟩:=zz
  subst e
  obtain ⟨o,ho⟩:=t _ (.head _)
  exact ⟨a,x,r',rfl,(p a o ho).2 nb,Is.up p i,ih (fun y hy=> t y (.tail _ hy)) b⟩
theorem EsRep.up (p:Up B B' h h') {es:List DictEntry}:∀ {m},EsRep B h es m → EsRep B' h' es m:=by
 induction es with
 | nil =>
  intro _ x
  exact x
 | cons _ _ ih =>
  intro _ zz
  obtain ⟨x,t,v,r,e,k,i,b⟩:=zz;exact ⟨x,t,v,r,e,k,Is.up p i,ih b⟩
theorem OptIs.up (p:Up B B' h h'):∀ {v:Option V} {x:Option Value},OptIs B h v x → OptIs B' h' v x
 | Option.none,Option.none,_=> trivial
 | Option.some _,Option.some _,i=> Is.up p i
 | Option.none,Option.some _,_=> trivial
 | Option.some _,Option.none,x=> x.elim
theorem keyUp {prog:Program} {w:World} (p:Up B B' h h') {k:List Atom} {a:Addr} (x:IsTupleKey (zAc prog w) h k a):IsTupleKey (zAc prog w) h' k a:=by
 refine bc fun nn=> ?_
 obtain ⟨o,items,n,ho,r⟩:=x
 refine nn ?_
 exact ⟨o,items,n,(p a o ho).1,r⟩
theorem RepO.up {prog:Program} {w:World} {a:Addr} {o:AObj} (x:RepO prog w B h a o) (p:Up B B' h h'):RepO prog w B' h' a o:=by
 cases o with
 | list l =>
  refine bc fun nn=> ?_
  obtain ⟨xs,⟨n,ho⟩,i⟩:=x
  refine nn ?_
  exact ⟨xs,⟨n,(p _ _ ho).1⟩,i.up p⟩
 | dictA kvs =>
  refine bc fun nn=> ?_
  obtain ⟨⟨kvs',⟨ob,es,ep,ho,r⟩,i⟩,ns⟩:=x
  refine nn ?_
  exact ⟨⟨kvs',⟨ob,es,ep,(p _ _ ho).1,r⟩,i.up p⟩,ns⟩
 | dictT kvs =>
  refine bc fun nn=> ?_
  obtain ⟨⟨xs,⟨ob,es,ep,ho,q1,q2,q3,q4,q5⟩,i⟩,ns⟩:=x
  refine nn ?_
  exact ⟨⟨xs,⟨ob,es,ep,(p _ _ ho).1,q1,q2,q3,fun y hy=> keyUp p (q4 y hy),q5⟩,i.up p fun y hy=> by
   refine bc fun nn=> ?_
   obtain ⟨o,_,_,ho,_⟩:=q4 y hy
   refine nn ?_
   exact ⟨o,ho⟩⟩,ns⟩
 | inst C dx m =>
  refine bc fun nn=> ?_
  obtain ⟨ho,es,n,hd,i,z⟩:=x
  refine nn ?_
  exact ⟨(p _ _ ho).1,es,n,(p _ _ hd).1,i.up p,z⟩
 | cell v =>
  refine bc fun nn=> ?_
  obtain ⟨ob,y,ho,hd,i⟩:=x
  refine nn ?_
  exact ⟨ob,y,(p _ _ ho).1,hd,i.up p⟩
 | raw ob=> exact ⟨(p _ _ x.1).1,x.2⟩
 | rng n=> obtain ⟨t,u,v,e⟩:=x;exact ⟨t,u,v,(p _ _ e).1⟩
 | enumL it l =>
  refine bc fun nn=> ?_
  obtain ⟨e,o,ho,r⟩:=x
  refine nn ?_
  exact ⟨(p _ _ e).1,o,(p _ _ ho).1,r⟩
 | enumT it l xs =>
  refine bc fun nn=> ?_
  obtain ⟨e,⟨o,ho,r⟩,i⟩:=x
  refine nn ?_
  exact ⟨(p _ _ e).1,⟨o,(p _ _ ho).1,r⟩,Is.up p i⟩
 | setA l =>
  refine bc fun nn=> ?_
  obtain ⟨⟨n,ob,es,ep,t,ho,r⟩,nd⟩:=x
  refine nn ?_
  exact ⟨⟨n,ob,es,ep,t,(p _ _ ho).1,r⟩,nd⟩
theorem NsRep.up {L:Addr} {m:Loc} (x:NsRep B h L m) (p:Up B B' h h'):NsRep B' h' L m:=by
 obtain ⟨f,hn,hf⟩:=x
 exact ⟨f,hn.at' fun o e=> (p _ _ e).1,fun y=> (hf y).up p⟩
end
noncomputable abbrev Cx.wB (C:Cx) (B:Addr → Prop):Cx:={ C with ban:=B }
section
variable {C:Cx} {F:Addr → Option Obj} {m:Loc} {H:AH} {s:Shared}
theorem Ok.wB (o:Ok C) {B:Addr → Prop} (nb:∀ a o,C.s₀.heap.get? a = some o → ¬ B a):Ok (C.wB B):=⟨o.kin,o.hh,o.dep,o.un,o.lim,o.top,o.kf,o.kg,o.kb,o.int,nb,o.file,o.nosup⟩
theorem StB.up {B:Addr → Prop} {h':Heap} {tk:Nat} (st:StB C F m H s) (p:Up C.ban B s.heap h'):StB (C.wB B) F m H { s with heap:=h',toks:=tk } where
 ok:=st.ok.wB fun a o e=> (p a o (st.raw _ _ (st.base _ _ e))).2 (st.ok.nban a o e)
 gens:=st.gens
 os:=st.os
 base:=st.base
 raw:=fun b o e=> (p b o (st.raw b o e)).1
 fr:=st.fr.up p
 objs:=fun q hq=> (st.objs q hq).up p
 nodup:=st.nodup
 fresh:=st.fresh
 ups:=fun q hq=> ⟨(st.ups q hq).1.up p,(st.ups q hq).2⟩
theorem StB.down {B:Addr → Prop} (o:Ok C) (hB:∀ a,C.ban a → B a) (st:StB (C.wB B) F m H s):StB C F m H s where
 ok:=o
 gens:=st.gens
 os:=st.os
 base:=st.base
 raw:=st.raw
 fr:=st.fr.up fun b o e=> ⟨e,fun nb h=> nb (hB b h)⟩
 objs:=fun q hq=> (st.objs q hq).up fun b o e=> ⟨e,fun nb h=> nb (hB b h)⟩
 nodup:=st.nodup
 fresh:=st.fresh
 ups:=fun q hq=> ⟨(st.ups q hq).1.up fun b o e=> ⟨e,fun nb h=> nb (hB b h)⟩,(st.ups q hq).2⟩
structure ZK (z TI TO i1 i2 l1 l2:Addr) (i:Nat) (h:Heap):Prop where
 z:IsZip h z TI TO .none
 ti:IsPair h TI (.ref i1) (.ref i2)
 to:∃ a b,IsPair h TO a b
 i1:h.IsListIter i1 l1 i
 i2:h.IsListIter i2 l2 i
theorem zW3 {elts:List Expr} {x1} {pos:Pos} {z TI TO i1 i2 l1 l2:Addr} {xs ys:List V} (D:ZipApart z TI TO i1 i2 l1 l2) (b1:C.ban TI) (b2:C.ban TO) :
    Itr C (.Tuple elts x1 pos) z [z,TI,TO,i1,i2] (fun H=> (l1,AObj.list xs) ∈ H ∧ (l2,AObj.list ys) ∈ H) (ZK z TI TO i1 i2 l1 l2) ((xs.zip ys).map fun p=> V.tup [p.1,p.2]) where
 there:=fun i h k b hb=> by
  refine bc fun nn=> ?_
  obtain ⟨kz,kti,⟨_,_,kto⟩,⟨_,k1,_⟩,⟨_,k2,_⟩⟩:=k
  refine nn ?_
  simp at hb
  rcases hb with rfl | rfl | rfl | rfl | rfl
  ·exact ⟨_,kz⟩
  ·exact ⟨_,kti⟩
  ·exact ⟨_,kto⟩
  ·exact ⟨_,k1⟩
  ·exact ⟨_,k2⟩
 keep:=fun i h h' k same _=> by
  refine bc fun nn=> ?_
  obtain ⟨kz,kti,⟨_,_,kto⟩,⟨_,k1,r1⟩,⟨_,k2,r2⟩⟩:=k
  refine nn ?_
  exact ⟨same _ (by exact .head _) _ kz,same _ (by exact .tail _ (.head _)) _ kti,⟨_,_,same _ (by simp) _ kto⟩,⟨_,same _ (by simp) _ k1,r1⟩,⟨_,same _ (by simp) _ k2,r2⟩⟩
 item:=fun env X i x F m H s Q E P hx st ap hs k hP hQ=> by
  refine bc fun nn=> ?_
  obtain ⟨kz,kti,⟨a,b,kto⟩,k1,k2⟩:=k
  obtain ⟨ys1,hl1,il1⟩:=st.objs _ hs.1
  obtain ⟨ys2,hl2,il2⟩:=st.objs _ hs.2
  rw [List.getElem?_map] at hx
  obtain ⟨⟨p,q⟩,hpq,rfl⟩:=Option.map_eq_some_iff.mp hx
  obtain ⟨hp,hq⟩:=List.getElem?_zip_eq_some.mp hpq
  obtain ⟨v,hv,iv⟩:=il1.get hp
  obtain ⟨w,hw,iw⟩:=il2.get hq
  refine nn ?_
  have nt:∀ b ∈ [z,TI,TO,i1,i2],∀ xs,¬ C.ban b → ¬ s.heap.IsTuple b xs:=fun b hb xs nb ⟨o',e,c,_⟩=> by
   simp at hb
   rcases hb with rfl | rfl | rfl | rfl | rfl
   ·rw [kz] at e;cases e;revert c;simp
   ·exact nb b1
   ·exact nb b2
   ·refine bc fun nn=> ?_
    obtain ⟨o,ho,hc,_⟩:=k1
    refine nn ?_
    rw [ho] at e;cases e;rw [hc] at c;injection c with c;revert c;decide
   ·refine bc fun nn=> ?_
    obtain ⟨o,ho,hc,_⟩:=k2
    refine nn ?_
    rw [ho] at e;cases e;rw [hc] at c;injection c with c;revert c;decide
  refine wpAny_pyNext_zip_item D kz kti kto k1 k2 hl1.isList hl2.isList (by rw [← Array.getElem?_toList];exact hv) (by rw [← Array.getElem?_toList];exact hw) fun h' a1 a2 a3 a4 a5 a6 hk=> hP _ _ ?_
  have n5:∀ {c o},s.heap.get? c = some o → s.heap.objs.size ≠ c:=fun e=> Nat.ne_of_gt (Heap.lt_size e)
  refine wpAny_letOwnedTupleGo_zip a1 fun h'' z1 z2=> ?_
  have same:∀ b o,b ∉ [z,TI,TO,i1,i2] → s.heap.get? b = some o → h''.get? b = some o:=fun b o hb e=> by
   simp at hb
   exact z2.extBut _ _ hb.1 (hk b o hb.1 hb.2.2.1 hb.2.2.2.1 hb.2.2.2.2 e)
  have zz:=st.but (h':=h'') (tk:=s.toks) ap nt same
  have st':=zz.1
  have p:=zz.2
  have t5:IsPair h'' s.heap.objs.size v w:=z2.extBut _ _ (n5 kz) a5
  have nb:¬ C.ban s.heap.objs.size:=st.newOk
  refine hQ _ _ (IsL.isTuple (xs:=[v,w]) nb t5 (.cons (iv.mono p) (.cons (iw.mono p) .nil))) ⟨z1,?_,⟨_,_,z2.extBut _ _ D.TOz a2⟩,a3.extBut z2.extBut D.i1z,a4.extBut z2.extBut D.i2z⟩ st' p same
  exact z2.extBut _ _ D.TIz (hk _ _ D.TIz D.TITO D.TIi1 D.TIi2 kti)
 done:=fun env X F m H s Q E st ap hs k hQ=> by
  refine bc fun nn=> ?_
  obtain ⟨kz,kti,⟨a,b,kto⟩,k1,k2⟩:=k
  obtain ⟨ys1,hl1,il1⟩:=st.objs _ hs.1
  obtain ⟨ys2,hl2,il2⟩:=st.objs _ hs.2
  refine nn ?_
  have nt:∀ b ∈ [z,TI,TO,i1,i2],∀ xs,¬ C.ban b → ¬ s.heap.IsTuple b xs:=fun b hb xs nb ⟨o',e,c,_⟩=> by
   simp at hb
   rcases hb with rfl | rfl | rfl | rfl | rfl
   ·rw [kz] at e;cases e;revert c;simp
   ·exact nb b1
   ·exact nb b2
   ·refine bc fun nn=> ?_
    obtain ⟨o,ho,hc,_⟩:=k1
    refine nn ?_
    rw [ho] at e;cases e;rw [hc] at c;injection c with c;revert c;decide
   ·refine bc fun nn=> ?_
    obtain ⟨o,ho,hc,_⟩:=k2
    refine nn ?_
    rw [ho] at e;cases e;rw [hc] at c;injection c with c;revert c;decide
  refine wpAny_pyNext_zip_end st.ok.hh D kz kti kto k1 k2 hl1.isList hl2.isList ?_ fun h' hk=> ?_
  ·have e1:=il1.length
   have e2:=il2.length
   rw [List.length_map,List.length_zip]
   rcases Nat.le_total xs.length ys.length with h | h
   ·exact .inl (by rw [Nat.min_eq_left h,e1];simp)
   ·exact .inr (by rw [Nat.min_eq_right h,e2];simp)
  have same:∀ b o,b ∉ [z,TI,TO,i1,i2] → s.heap.get? b = some o → h'.get? b = some o:=fun b o hb e=> by
   simp at hb
   exact hk b o hb.1 hb.2.2.1 hb.2.2.2.1 hb.2.2.2.2 e
  have zz:=st.but (h':=h') (tk:=s.toks) ap nt same
  have st':=zz.1
  have p:=zz.2
  exact hQ _ st' p same
 self:=fun i s Q E k hQ=> wpAny_pyIter_zip k.z hQ
theorem zLi {pos:Pos} {fv:Value} {e:Expr} {r:List Expr} {R:Value → Shared → Prop} {Q':List V → Loc → AH → Prop} {x:String} (st:St C F m H s) (hf:fv = .type x)
    (h:EvL C m H pos (e :: r) Q') (h1:starEach (e :: r) C.env = (false,eval e C.env) :: starEach r C.env) (h2:(backTo pos (starEach r C.env)).any (·.1) = false)
    (k:∀ vs s₁ l m₁ H₁,IsL C.ban s₁.heap l vs → St C F m₁ H₁ s₁ → Pres C.ban s.heap s₁.heap → Q' l m₁ H₁ → wpAny C.M C.A (call fv vs) R (C.X F) s₁) :
    wpAny (model C.prog C.w) C.A (callWith pos fv [] (backTo pos (starEach (e :: r) C.env)) []) R (C.X F) s:=by
 have run:=h F s [] st rfl
 rw [h1] at run ⊢
 have kk:KeepOk C.w (.con fv):=by subst hf;exact trivial
 refine callWith_of (P:=(KK C.w).In) (by show ((false || (backTo pos (starEach r C.env)).any (·.1)) || false) = false;rw [h2];rfl) (kk.looks (B:=C.ban) (h:=s.heap) (show Is C.ban s.heap (.con fv) fv from rfl)) (evalArgs_plain (andThen run fun vs s₁ l m₁ H₁ i₁ st₁ p₁ h₁=> ?_))
 exact ⟨st₁.kin,k vs s₁ l m₁ H₁ i₁ st₁ p₁ h₁⟩
inductive ZipP (C:Cx) (elt:Expr) (elts:List Expr) (ctx) (tpos:Pos) (scope:Scope) (cl:List (Str × Addr)) (Q:V → Loc → AH → Prop) (vs:List V) (m₁:Loc) (H₁:AH):Prop
 | mk (l1 l2:Addr) (xs ys:List V) (e:vs = [.ref l1,.ref l2]) (h1:(l1,AObj.list xs) ∈ H₁) (h2:(l2,AObj.list ys) ∈ H₁) (hz:xs.length ≤ 16000000)
  (I:Nat → List V → AH → Prop) (h0:I 0 [] H₁) (hs:∀ i acc H,I i acc H → (l1,AObj.list xs) ∈ H ∧ (l2,AObj.list ys) ∈ H)
  (turn:∀ B L X i x acc H,((xs.zip ys).map fun p=> V.tup [p.1,p.2])[i]? = some x → I i acc H → Asg ((C.wB B).inComp scope cl L X) [] H (.Tuple elts ctx tpos) x fun _ m₁ H₁ =>
      Ev ((C.wB B).inComp scope cl L X) m₁ H₁ elt fun v _ H₃=> I (i + 1) (acc ++ [v]) H₃)
  (fin:∀ acc H₂,I (xs.zip ys).length acc H₂ → ∀ D,Q (.ref D) m₁ ((D,.list acc) :: H₂))
theorem zLt {elt x1 x2:Expr} {elts:List Expr} {ctx} {tpos np zpos:Pos} {scope:Scope} {cl:List (Str × Addr)} {pos:Pos} {Q}
    (hclos:closureFor scope C.env = pure cl) (ok:ScOk scope) (e1:nsIn (KK C.w) mainGlobals "zip" = some none) (hk:C.env.kindOf "zip" = some .globalImplicit)
    (h1:starEach [x1,x2] C.env = (false,eval x1 C.env) :: starEach [x2] C.env) (h2:(backTo zpos (starEach [x2] C.env)).any (·.1) = false)
    (h:EvL C m H zpos [x1,x2] (ZipP C elt elts ctx tpos scope cl Q))
    (hs:∀ x,foldedSetIterable (.Call (.Name "zip" np) [x1,x2] [] zpos) C.env x = pure x):Ev C m H (.ListComp elt [⟨.Tuple elts ctx tpos,.Call (.Name "zip" np) [x1,x2] [] zpos,[],0⟩] scope pos) Q:=by
 intro F s vs st i
 show wpAny C.M C.A (eval _ C.env) _ _ _
 rw [eval_ListComp]
 refine wpAny_comprehension_free (use:=none) rfl hs hclos ok.kind ok.names ?_
 refine wpAny_Call_NameR (andThen (zJ6 (C:=C) (m:=m) (H:=H) (Q:=fun v m' H'=> v = .con (.type "zip") ∧ m' = m ∧ H' = H) e1 zXe (by decide) ⟨rfl,rfl,rfl⟩ hk (by decide +kernel) F s [] st rfl) fun v s₁ f m₁ H₁ i₁ st₁ p₁ h₁=> ?_)
 obtain ⟨rfl,rfl,rfl⟩:=h₁
 refine zLi st₁ i₁ h h1 h2 fun vs s₂ l m₂ H₂ i₂ st₂ p₂ h₂=> ?_
 obtain ⟨l1,l2,xs,ys,rfl,hl1,hl2,hlen,I,h0,hsrc,turn,fin⟩:=h₂
 refine zAj i₂ fun y1 y2 q0 q1=> ?_
 obtain rfl:=q0
 obtain rfl:=q1
 obtain ⟨zs1,g1,il1⟩:=st₂.objs _ hl1
 obtain ⟨zs2,g2,il2⟩:=st₂.objs _ hl2
 cases i₁
 refine call_zip_2 g1.isList g2.isList fun h' a1 a2 a3 a4 a5 a6 old=> ?_
 have b1:@LT.lt Nat _ l1 s₂.heap.objs.size:=by obtain ⟨_,e⟩:=g1;exact Heap.lt_size e
 have b2:@LT.lt Nat _ l2 s₂.heap.objs.size:=by obtain ⟨_,e⟩:=g2;exact Heap.lt_size e
 generalize hn:s₂.heap.objs.size = n at *
 let B:Addr → Prop:=fun a=> C.ban a ∨ a = n + 2 ∨ a = n + 3
 have lt:∀ b o,s₂.heap.get? b = some o → b < n:=fun b o e=> hn ▸ Heap.lt_size e
 have up:Up C.ban B s₂.heap h':=fun b o e=> ⟨old b o e,fun nb hb=> by
  have:=lt b o e
  rcases hb with hb | hb | hb
  ·exact nb hb
  ·exact absurd this (by rw [hb];exact Nat.not_lt.mpr (Nat.le_add_right _ _))
  ·exact absurd this (by rw [hb];exact Nat.not_lt.mpr (Nat.le_add_right _ _))⟩
 have D:ZipApart (n + 4) (n + 2) (n + 3) n (n + 1) l1 l2:=by
  have e:∀ {a b:Nat},a < b → (a:Addr) ≠ b:=fun h=> Nat.ne_of_lt h
  constructor <;> first | exact Nat.ne_of_lt (a:=_) (b:=_) (by (first | exact Nat.lt_succ_self _ | assumption | with_reducible exact Nat.lt_succ_of_lt (by walk_at "a") | lia)) | exact Nat.ne_of_gt (a:=_) (b:=_) (by (first | exact Nat.lt_succ_self _ | lia))
 have stB:=st₂.b.up (tk:=s₂.toks) up
 have nw:∀ b,n ≤ b → b ∉ C.L :: zA3 H₂ ∧ OldA C F b:=fun b hb=> st₂.newApart (zAa (by rw [hn];exact hb))
 have ap:Apart (C.wB B) F H₂ [n + 4,n + 2,n + 3,n,n + 1]:=by
  refine ⟨fun b hb=> (nw b ?_).1,fun b hb=> (nw b ?_).2⟩ <;>
  ·simp at hb
   rcases hb with rfl | rfl | rfl | rfl | rfl <;> first | exact Nat.le_add_right _ _ | exact Nat.le_refl _
 have itr:=zW3 (C:=C.wB B) (elts:=elts) (x1:=ctx) (pos:=tpos) (xs:=xs) (ys:=ys) D (.inr (.inl rfl)) (.inr (.inr rfl))
 refine wpAny_pyIter_zip a1 ?_
 refine zHw (C:=C.wB B) (RR:=fun acc L=> compPost C.M C.A (C.X F) none (Post C F s Is Q) acc L) stB (fun a ha=> ?_) itr ap ⟨a1,a2,⟨_,_,a3⟩,a4,a5⟩ (by rw [List.length_map,List.length_zip];lia) ok.cell ok.kind I h0 hsrc (fun L X i x acc H hx hI=> ?_) fun D L s' acc H' hI hn' apL hst=> ?_
 ·show a < h'.objs.size
  rw [a6]
  rcases ha with ha | rfl | rfl
  ·exact Nat.lt_of_lt_of_le (hn ▸ st₂.bls ha) (Nat.le_add_right _ _)
  ·exact Nat.add_lt_add_left (by decide) _
  ·exact Nat.add_lt_add_left (by decide) _
 ·refine T.conseq (turn B L X i x acc H hx hI) fun _ m₁ H₁ h=> ?_
  exact zMv ⟨fun _=> h,fun e=> (by exact Bool.noConfusion e)⟩
 ·obtain ⟨f,hn'⟩:=hn'
  refine ⟨f,hn',fun h'' sb=> ?_⟩
  have zz:=hst h'' sb
  have st':=zz.1
  have p':=zz.2
  have st'':=(StB.down st₂.ok (fun a h=> .inl h) st').st st₂.bl
  rw [List.length_map] at hI
  refine ⟨.ref D,m₂,(D,.list acc) :: H',zB3,st'',p₁.trans (p₂.trans fun b xs nb t=> ?_),fin acc H' hI D⟩
  obtain ⟨o,ho,r⟩:=t
  exact p' b xs ((up b o ho).2 nb) ⟨o,(up b o ho).1,r⟩
end
end Mine
end
section
namespace Mine
inductive FrL:List Env → List Addr → Prop
 | nil:FrL [] []
 | cons {e:Env} {l:List Env} {a:Addr} {as:List Addr} (hk:e.scope.kind ≠ .module) (hf:e.frame = some a) (r:FrL l as):FrL (e :: l) (a :: as)
theorem FrL.fun {l:List Env} {as:List Addr} (f:FrL l as) {base h:Heap} (nb:∀ a ∈ as,base.get? a = none) (th:∀ a ∈ as,∃ o,h.get? a = some o ∧ ∀ vs,o.data ≠ .fields vs):h.FunFrames base l:=by
 induction f with
 | nil=> exact trivial
 | cons hk hf r ih =>
  obtain ⟨o,ho,hn⟩:=th _ (.head _)
  exact ⟨hk,⟨_,o,hf,nb _ (.head _),ho,hn⟩,ih (fun a ha=> nb a (.tail _ ha)) fun a ha=> th a (.tail _ ha)⟩
noncomputable def FrOk (C:Cx):Prop:=∃ outer,C.A.frames = some (C.env :: outer) ∧ FrL (C.env :: outer) (C.L :: C.up.map (·.1))
section
variable {C:Cx} {F:Addr → Option Obj} {m:Loc} {H:AH} {s:Shared}
theorem FrOk.into (o:FrOk C) {env:Env} (hk:env.scope.kind ≠ .module) (hf:env.frame = some env.locals) (m X):FrOk (C.into m env X):=by
 refine bc fun nn=> ?_
 obtain ⟨outer,h1,h2⟩:=o
 refine nn ?_
 exact ⟨C.env :: outer,Around.frames_deeper h1,.cons hk hf h2⟩
theorem FrOk.wX (o:FrOk C) (X):FrOk (C.wX X):=o
structure Cov (F:Addr → Option Obj) (H:AH) (base h:Heap):Prop where
 raw:∀ b o,F b = some o → base.get? b = some o
 own:∀ b ∈ zA3 H,∀ o,h.get? b = some o → base.get? b = some o
 tup:∀ b xs,h.IsTuple b xs → base.IsTuple b xs
inductive Mode (l:List Env) (L:Addr) (base:Heap) (e:Addr) (h:Heap):Prop
 | fresh (oe:Obj) (vs:Array Value) (t:Value) (k:base.StaysIn h) (n:base.get? e = none) (f:h.FunFrames base l) (he:h.get? e = some oe) (hc:oe.cls = .ref 60) (hd:oe.data = .fields vs) (h1:vs[1]? = some .none) (h0:vs[0]? = some t)
 | fly (a0:Value) (x:Heap.FlyingW base l e (.ref 60) a0 h)
 | held (a0:Value) (x:Heap.HeldW base l e (.ref 60) a0 L h)
theorem Mode.stays {l L base e h} (x:Mode l L base e h):base.StaysIn h:=by
 cases x with
 | fresh _ _ _ k=> exact k
 | fly _ x=> exact x.1
 | held _ x=> exact x.1
theorem Mode.new {l L base e h} (x:Mode l L base e h):base.get? e = none:=by
 cases x with
 | fresh _ _ _ k n=> exact n
 | fly _ x=> exact x.2.1
 | held _ x=> exact x.2.1
theorem zHe {M:Model} {A:Around} {E:Value → Shared → Prop} {env:Env} {outer:List Env} {L e:Addr} {base:Heap} {Q:Unit → Shared → Prop} (hfr:A.frames = some (env :: outer)) (hf:env.frame = some L) (x:Mode (env :: outer) L base e s.heap)
    (hQ:∀ a0 h',Heap.HeldW base (env :: outer) e (.ref 60) a0 L h' → s.heap.UpToSlots h' → Q () { s with heap:=h' }):wpAny M A (noteFrame (.ref e) env) Q E s:=by
 cases x with
 | fresh oe vs t k n f he hc hd h1 h0 =>
  unfold noteFrame
  simp only [hf]
  refine wpAny_bind (wpAny_field he hd h1 ?_)
  rw [if_neg (by decide)]
  refine wpAny_entryW hfr f hf he k n hd (Array.getElem?_eq_some_iff.mp h1).1 h0 fun h' z=> ?_
  obtain ⟨k1,k2,k3,k4⟩:=z
  exact hQ t h' ⟨k1,n,k2,hc ▸ k3⟩ k4
 | fly a0 x=> exact wpAny_looks_onW hfr hf x fun h' z u=> hQ a0 h' z u
 | held a0 x=> exact wpAny_noteFrame_againW hf x.2.2.2 (hQ a0 s.heap x (.refl _))
theorem zOw {M:Model} {A:Around} {E:Value → Shared → Prop} {env:Env} {outer:List Env} {L e:Addr} {base:Heap} {Q:Unit → Shared → Prop} (hfr:A.frames = some (env :: outer)) (hf:env.frame = some L) (x:Mode (env :: outer) L base e s.heap)
    (hQ:∀ a0 h',Heap.FlyingW base outer e (.ref 60) a0 h' → s.heap.UpToSlots h' → Q () { s with heap:=h' }):wpAny M A (leaving env (.ref e)) Q E s:=by
 unfold leaving
 refine wpAny_bind (zHe hfr hf x fun a0 h' z u=> ?_)
 refine wpAny_landsW (s:={ s with heap:=h' }) z fun h'' y u'=> ?_
 refine bc fun nn=> ?_
 obtain ⟨k1,k2,⟨_,_,k3⟩,k4⟩:=y
 refine nn ?_
 exact hQ a0 h'' ⟨k1,k2,k3,k4⟩ (u.trans u')
inductive Fly (C:Cx) (F:Addr → Option Obj) (m:Loc) (H:AH) (e:Addr) (s:Shared):Prop
 | mk (base hr:Heap) (outer:List Env) (st:St C F m H { s with heap:=hr }) (cov:Cov F H base hr) (up:hr.UpToSlots s.heap) (fr:C.A.frames = some (C.env :: outer)) (md:Mode (C.env :: outer) C.L base e s.heap)
theorem NsRep.slots {B:Addr → Prop} {h h':Heap} {L:Addr} {m:Loc} (x:NsRep B h L m) (k:h.UpToSlots h') (p:Pres B h h'):NsRep B h' L m:=by
 obtain ⟨f,hn,hf⟩:=x
 exact ⟨f,k.ns hn,fun y=> (hf y).mono p⟩
theorem St.slots {base h':Heap} (x:St C F m H s) (c:Cov F H base s.heap) (k:base.StaysIn h') (u:s.heap.UpToSlots h'):St C F m H { s with heap:=h' } ∧ Pres C.ban s.heap h':=by
 have p:Pres C.ban s.heap h':=fun b xs _ t=> by
  obtain ⟨o,ho,r⟩:=c.tup b xs t
  exact ⟨o,k b o ho,r⟩
 exact ⟨⟨x.ok,x.gens,x.os,x.base,fun b o e=> k b o (c.raw b o e),x.bl,x.fr.slots u p,fun q hq=> (x.objs q hq).move (fun b hb ob e=> k b ob (c.own b (zBh hq hb) ob e)) p,x.nodup,x.fresh,fun q hq=> ⟨(x.ups q hq).1.slots u p,(x.ups q hq).2⟩⟩,p⟩
theorem Fly.st {e:Addr} (x:Fly C F m H e s):St C F m H s:=by
 obtain ⟨base,hr,outer,st,cov,up,fr,md⟩:=x
 exact (St.slots (s:={ s with heap:=hr }) st cov md.stays up).1
theorem St.back' {env:Env} {F':Addr → Option Obj} {m':Loc} {H':AH} {s':Shared} {X} (st:St C F m H s) (hsub:∀ b o,F b = some o → F' b = some o) (x:St (C.into m env X) F' m' H' s'):St C F m H' s':=by
 have hn:∀ {a},F' a = none → F a = none:=fun {a} h=> by
  cases z:F a with
  | none=> rfl
  | some o=> exact nn3 (hsub a o z) h
 refine bc fun nn=> ?_
 obtain ⟨h1,h2,h3⟩:=x.ups (C.L,m) (.head _)
 refine nn ?_
 refine ⟨st.ok,x.gens,x.os,st.base,fun b o e=> x.raw b o (hsub b o e),st.bl,h1,x.objs,List.nodup_cons.mpr ⟨fun hm=> h3 (.tail _ hm),(List.nodup_cons.mp x.nodup).2⟩,fun a ha=> ?_,fun p hp=> ?_⟩
 ·rcases List.mem_cons.mp ha with rfl | ha
  ·exact hn h2
  ·exact hn (x.fresh a (.tail _ ha))
 ·refine bc fun nn=> ?_
  obtain ⟨k1,k2,k3⟩:=x.ups p (.tail _ hp)
  refine nn ?_
  refine ⟨k1,hn k2,fun hm=> ?_⟩
  rcases List.mem_cons.mp hm with e | hm
  ·exact (st.ups p hp).2.2 (e ▸ .head _)
  ·exact k3 (.tail _ hm)
theorem Cov.sub {F F':Addr → Option Obj} {H:AH} {base h:Heap} (c:Cov F' H base h) (hsub:∀ b o,F b = some o → F' b = some o):Cov F H base h:=⟨fun b o e=> c.raw b o (hsub b o e),c.own,c.tup⟩
theorem Fly.leave {M:Model} {E:Value → Shared → Prop} {env:Env} {F':Addr → Option Obj} {m':Loc} {s':Shared} {X} {e:Addr} {Q:Unit → Shared → Prop} (st:St C F m H s) (fo:FrOk C) (hk:env.scope.kind ≠ .module) (hf:env.frame = some env.locals)
    (hsub:∀ b o,F b = some o → F' b = some o) (x:Fly (C.into m env X) F' m' H e s') (hQ:∀ s'',Fly C F m H e s'' → Q () s''):wpAny M (C.A.deeper env) (leaving env (.ref e)) Q E s':=by
 refine bc fun nn=> ?_
 obtain ⟨base,hr,outer,st',cov,up,fr,md⟩:=x
 obtain ⟨o2,h1,h2⟩:=fo
 refine nn ?_
 have e2:outer = C.env :: o2:=by
  have:=Around.frames_deeper (env:=env) h1
  have fr:(C.A.deeper env).frames = some (env :: outer):=fr
  rw [this] at fr
  injection fr with fr
  injection fr with _ fr
  exact fr.symm
 subst e2
 refine zOw (L:=env.locals) fr hf md fun a0 h' z u=> hQ _ ⟨base,hr,o2,?_,cov.sub hsub,up.trans u,h1,.fly a0 z⟩
 exact St.back' st hsub st'
noncomputable def zBp (C:Cx) (H:AH):Prop:=∀ F m e s,Fly C F m H e s → C.X F (.ref e) s
end
end Mine
end
section
namespace Mine
section
variable {C:Cx} {F:Addr → Option Obj} {m:Loc} {H:AH} {s:Shared}
noncomputable abbrev leftX (C:Cx) (F:Addr → Option Obj) (env:Env):(Addr → Option Obj) → Value → Shared → Prop:=fun F₁ e s'=> (∀ b o,F b = some o → F₁ b = some o) →
 wpAny (model C.prog C.w) (C.A.deeper env) (leaving env e) (fun _ s''=> C.X F e s'') (fun e' s''=> C.X F e' s'') s'
theorem zG8 {env:Env} (st:St C F m H s) (fo:FrOk C) (hk:env.scope.kind = .function) (hf:env.frame = some env.locals) (hx:zBp C H):zBp (C.into m env (leftX C F env)) H:=by
 intro F₁ m' e s' x hsub
 exact x.leave st fo (by rw [hk];intro q;cases q) hf hsub fun s'' y=> hx F m e s'' y
theorem zMo {env:Env} {m':Loc} {H':AH} {s₁:Shared} {body:List Stmt} {Q:V → Loc → AH → Prop} (st:St C F m H s) (hroom:0 < C.n) (hkf:env.scope.kind = .function) (hkg:env.globals = mainGlobals) (hkb:env.builtins = builtinsNs)
    (hk:∀ b o,s.heap.get? b = some o → s₁.heap.get? b = some o) (hg:s₁.gens = s.gens) (ho:s₁.os = s.os) (fr:NsRep C.ban s₁.heap env.locals m') (objs:∀ p ∈ H',RepO C.prog C.w C.ban s₁.heap p.1 p.2) (nd:(env.locals :: zA3 H').Nodup)
    (new:∀ a ∈ env.locals :: zA3 H',a ∈ zA3 H ∨ s.heap.get? a = none) (fo:FrOk C) (hf:env.frame = some env.locals) (hx:zBp C H)
    (h:∀ X,zBp (C.into m env X) H → Ex (C.into m env X) m' H' body fun fl _ H''=> Q fl.val m H'') :
    wpAny (model C.prog C.w) (C.A.deeper env) (execs body env) (fun fl s'=> Post C F s Is Q (match (generalizing:=false) fl with | .ret v=> v | _=> .none) s')
     (fun e s'=> wpAny (model C.prog C.w) (C.A.deeper env) (leaving env e) (fun _ s''=> C.X F e s'') (fun e' s''=> C.X F e' s'') s') s₁:=by
 have run:=h (leftX C F env) (zG8 st fo hkf hf hx) F _ [] (st.into hroom hkf hkg hkb hk hg ho fr objs nd new _) rfl
 refine wpAny_mono run (fun fl s' z=> ?_) fun e s' x=> x fun _ _ e=> e
 obtain ⟨b,m'',H'',r,x,p,q⟩:=z
 refine ⟨b.val,m,H'',?_,st.back x,(Pres.keeps hk).trans p,q⟩
 cases b with
 | next=> cases r;exact zBc
 | brk=> cases r;exact zBc
 | cont=> cases r;exact zBc
 | ret u=> obtain ⟨y,rfl,iy⟩:=r;exact iy
theorem zLe {env:Env} {m':Loc} {H':AH} {s₁:Shared} {body:List Stmt} {Q:V → Loc → AH → Prop} (st:St C F m H s) (hroom:0 < C.n) (hkf:env.scope.kind = .function) (hkg:env.globals = mainGlobals) (hkb:env.builtins = builtinsNs)
    (hk:∀ b o,s.heap.get? b = some o → s₁.heap.get? b = some o) (hg:s₁.gens = s.gens) (ho:s₁.os = s.os) (fr:NsRep C.ban s₁.heap env.locals m') (objs:∀ p ∈ H',RepO C.prog C.w C.ban s₁.heap p.1 p.2) (nd:(env.locals :: zA3 H').Nodup)
    (new:∀ a ∈ env.locals :: zA3 H',a ∈ zA3 H ∨ s.heap.get? a = none) (fo:FrOk C) (hf:env.frame = some env.locals) (hx:zBp C H)
    (h:∀ X,zBp (C.into m env X) H → ExA (C.into m env X) body m' H' body fun fl _ H''=> Q fl.val m H'') :
    PySem.wpAt (model C.prog C.w) (C.A.deeper env) (.func body env) (execs body env) (fun fl s'=> Post C F s Is Q (match (generalizing:=false) fl with | .ret v=> v | _=> .none) s')
     (fun e s'=> wpAny (model C.prog C.w) (C.A.deeper env) (leaving env e) (fun _ s''=> C.X F e s'') (fun e' s''=> C.X F e' s'') s') s₁:=by
 have run:=h (leftX C F env) (zG8 st fo hkf hf hx) F _ (st.into hroom hkf hkg hkb hk hg ho fr objs nd new _)
 refine ks_wpAt_mono run (fun fl s' z=> ?_) fun e s' x=> x fun _ _ e=> e
 obtain ⟨b,m'',H'',r,x,p,q⟩:=z
 refine ⟨b.val,m,H'',?_,st.back x,(Pres.keeps hk).trans p,q⟩
 cases b with
 | next=> cases r;exact zBc
 | brk=> cases r;exact zBc
 | cont=> cases r;exact zBc
 | ret u=> obtain ⟨y,rfl,iy⟩:=r;exact iy
theorem zHr (st:St C F m H s):(s.heap.objs.size :: zA3 H).Nodup:=by
 refine List.nodup_cons.mpr ⟨fun hm=> ?_,(List.nodup_cons.mp st.nodup).2⟩
 obtain ⟨ob,ho,_⟩:=st.there (.tail _ hm)
 exact Nat.lt_irrefl _ (Heap.lt_size ho)
theorem zLd {a:Addr} (ha:a ∈ s.heap.objs.size :: zA3 H):a ∈ zA3 H ∨ s.heap.get? a = none:=by
 rcases List.mem_cons.mp ha with rfl | ha
 ·exact .inr (zAa (Nat.le_refl _))
 ·exact .inl ha
theorem zO6 {f:Addr} {oc:Value} {od:Option Addr} {osl:Array (Option Value)} {fd:FuncData} (names:List Str) {body:List Stmt} {args:List V} {Q:V → Loc → AH → Prop}
    (ho:(KK C.w).lookup f = some ⟨oc,od,.func fd,osl⟩) (hb:fd.body = .stmts body) (bind:∀ vs:List Value,vs.length = names.length → bindArgs fd ⟨vs,[]⟩ = pure (names.zip vs)) (ok:okFn C.w fd names = true)
    (hl:args.length = names.length) (hroom:0 < C.n) (fo:FrOk C) (hx:zBp C H)
    (h:∀ L X,zBp (C.into m (callEnv fd L f) X) H → Ex (C.into m (callEnv fd L f) X) (names.zip args) H body fun fl _ H'=> Q fl.val m H'):Cd C m H (.ref f) args Q:=by
 unfold okFn at ok
 simp only [Bool.and_eq_true,Bool.not_eq_true',decide_eq_true_eq,List.all_eq_true] at ok
 refine bc fun nn=> ?_
 obtain ⟨⟨⟨⟨⟨⟨⟨⟨h1,h2⟩,h3⟩,h4⟩,h5⟩,h6⟩,h7⟩,h8⟩,h9⟩:=ok
 refine nn ?_
 intro F s v vs st i j
 obtain rfl:v = .ref f:=i
 have hdep:=st.ok.dep
 refine codeAny_call_def (by lia) (st.kin _ _ ho) rfl (st.ok.lim.keeps st.keep) (codeRec_of st.kin h1) hb (BindsTo.of_eq (bind vs (by rw [← j.length,hl]))) (fun x hx=> h9 x hx)
  (fun y hy=> h8 _ (List.of_mem_zip (a:=y.1) (b:=y.2) hy).1) (fun h₁ hns hk=> ?_) h3 h4 h5
 exact zMo (s₁:={ s with heap:=h₁,toks:=s.toks + (names.zip vs).length }) (m':=names.zip args) (H':=H) st hroom h5 h6 h7 hk rfl rfl ⟨_,hns,zJ8 (zBu h2) hl (j.mono (Pres.keeps hk))⟩ (fun p hp=> (st.objs p hp).move (fun b _ ob e=> hk b ob e) (Pres.keeps hk)) (zHr st) (fun a ha=> zLd ha) fo rfl hx (h _)
theorem St.sub {F':Addr → Option Obj} {m':Loc} {H':AH} {s':Shared} (st:St C F m H s) (hsub:∀ b o,F b = some o → F' b = some o) (x:St C F' m' H' s'):St C F m' H' s':=by
 have hn:∀ {a},F' a = none → F a = none:=fun {a} h=> by
  cases z:F a with
  | none=> rfl
  | some o=> exact nn3 (hsub a o z) h
 exact ⟨st.ok,x.gens,x.os,st.base,fun b o e=> x.raw b o (hsub b o e),st.bl,x.fr,x.objs,x.nodup,fun a ha=> hn (x.fresh a ha),fun p hp=> ⟨(x.ups p hp).1,hn (x.ups p hp).2.1,(x.ups p hp).2.2⟩⟩
noncomputable def tupF (h:Heap) (F:Addr → Option Obj):Addr → Option Obj:=fun b=> open Classical in if ∃ xs,h.IsTuple b xs then h.get? b else F b
theorem zNc {h:Heap} {b:Addr} (n:∀ xs,¬ h.IsTuple b xs):tupF h F b = F b:=by
 unfold tupF
 rw [if_neg fun ⟨xs,t⟩=> n xs t]
theorem St.tupF_sub (st:St C F m H s):∀ b o,F b = some o → tupF s.heap F b = some o:=fun b o e=> by
 unfold tupF
 split
 ·exact st.raw b o e
 ·exact e
theorem St.tup (st:St C F m H s):St C (tupF s.heap F) m H s:=by
 refine ⟨st.ok,st.gens,st.os,fun b o e=> st.tupF_sub b o (st.base b o e),fun b o e=> ?_,fun a ha=> ?_,st.fr,st.objs,st.nodup,fun a ha=> ?_,fun p hp=> ?_⟩
 ·unfold tupF at e
  split at e
  ·exact e
  ·exact st.raw b o e
 ·refine bc fun nn=> ?_
  obtain ⟨b,hb,e⟩:=st.bl a ha
  refine nn ?_
  exact ⟨b,hb,e.imp id fun e=> e.imp (fun ⟨o,e⟩=> ⟨o,st.tupF_sub b o e⟩) id⟩
 ·refine bc fun nn=> ?_
  obtain ⟨o,_,n⟩:=st.there ha
  refine nn ?_
  rw [zNc n];exact st.fresh a ha
 ·refine bc fun nn=> ?_
  obtain ⟨o,_,n⟩:=st.upThere hp
  refine nn ?_
  exact ⟨(st.ups p hp).1,(zNc n).trans (st.ups p hp).2.1,(st.ups p hp).2.2⟩
theorem St.tup_pres {F':Addr → Option Obj} {C':Cx} {m':Loc} {H':AH} {s':Shared} (hsub:∀ b o,tupF s.heap F b = some o → F' b = some o) (x:St C' F' m' H' s') (B:Addr → Prop):Pres B s.heap s'.heap:=fun b xs _ t=> by
 obtain ⟨o,ho,r⟩:=id t
 refine ⟨o,x.raw b o (hsub b o ?_),r⟩
 unfold tupF
 rw [if_pos ⟨xs,t⟩];exact ho
noncomputable def tfNm:Str:="TermFault"
noncomputable def tfBs:List Value:=[.ref 47]
noncomputable def tfBm:List Value:=[.ref 47,.type "Exception",.type "BaseException",.type "object"]
noncomputable def tfK0:Option Value:=some (.ref 51)
noncomputable def tfK2:Option Value:=some (.str tfNm 234)
noncomputable def tfK3:Option Value:=some (.str tfNm 242)
noncomputable def tfK5:Option Value:=some (.bool true)
noncomputable def xB:String:="Exception"
noncomputable def xNew:String:="Exception.__new__"
noncomputable def xInit:String:="Exception.__init__"
noncomputable def xBm:List Value:=[.type "Exception",.type "BaseException",.type "object"]
@[reducible] noncomputable def tfO:Obj:=excClassObj tfNm tfNm 60 59 tfBs tfBm true [] [] false none none tfK0 none tfK2 tfK3 tfK5 xNew
structure TfOk (w:World):Prop where
 cls:(KK w).lookup 60 = some tfO
 base:tfBm.contains (.type "BaseException") = true
 glob:nsIn (KK w) mainGlobals "TermFault" = some (some (.ref 60))
noncomputable abbrev zR8 (tp p1 rp hp:Pos) (k:Nat):ExceptHandler:=.ExceptHandler (some (.Name "TermFault" tp)) none [.Return (some (.Constant .none k p1)) rp] hp
theorem zT8 {e:Addr} {tp p1 rp hp:Pos} {k:Nat} {hs:List ExceptHandler} {Q:Flow → Shared → Prop} {E:Value → Shared → Prop} (tf:TfOk C.w) (hk:C.env.kindOf "TermFault" = some .globalImplicit) (hfr:C.env.frame = some C.L) (x:Fly C F m H e s)
    (hQ:∀ s',St C F m H s' → Q (.ret .none) s') :
    wpAny C.M C.A (noteFrame (.ref e) C.env) (fun _ s₂=> wpAny C.M C.A (setFlight (.ref e) none) (fun _ s₃=> wpAny C.M C.A (handleBy (.ref e) C.env (zR8 tp p1 rp hp k :: hs)) Q E s₃) E s₂) E s:=by
 refine bc fun nn=> ?_
 obtain ⟨base,hr,outer,st,cov,up,fr,md⟩:=x
 refine nn ?_
 refine zHe fr hfr md fun a0 h' z u=> ?_
 refine wpAny_landsW (s:={ s with heap:=h' }) z fun h'' y u'=> ?_
 have uu:=up.trans (u.trans u')
 have st₁:∀ {h₁},base.StaysIn h₁ → hr.UpToSlots h₁ → St C F m H { s with heap:=h₁ }:=fun k u=> (St.slots (s:={ s with heap:=hr }) st cov k u).1
 have st₂:=st₁ y.1 uu
 refine bc fun nn=> ?_
 obtain ⟨p,loose,mg,mb,T⟩:=st.ok.top
 obtain ⟨oe,hoe,hoc⟩:=y.there
 refine nn ?_
 refine wpAny_handleBy_cons (codeAny_handlers_test (Calls.Name_function_global st.ok.kf hk (Calls.loadGlobal_global (mg:=mg) ?_ (mg_of st.ok.kin T.g tf.glob) ?_) (by decide))) (by intro q;cases q)
 ·rw [st.ok.kg];exact T.g.keeps st₂.keep
 refine wpAny_excMatches_sub_self (C:=60) (st₂.kin _ _ tf.cls) hoe hoc tf.base ?_
 refine codeAny_handlers_suite ?_
 refine wpAny_setFlight_noneW (s:={ s with heap:=h'' }) y.1 y.2.2.1 y.2.2.2.at fun h₃ k1 k2 k3 k4=> ?_
 refine wpAny_execs_cons (wpAny_Return_some (wpAny_Constant_none ?_))
 exact hQ _ (st₁ k1 (uu.trans fun b o e n=> ⟨o.slots,k4 b o e n⟩))
theorem zTn {body:List Stmt} {tp p1 rp hp:Pos} {k:Nat} {hs:List ExceptHandler} {pos:Pos} {rest:List Stmt} {Q} (tf:TfOk C.w) (hk:C.env.kindOf "TermFault" = some .globalImplicit) (hfr:C.env.frame = some C.L)
    (h:∀ X,zBp (C.wX X) H → Ex (C.wX X) m H body fun fl m₁ H₁=> Seq C rest Q fl m₁ H₁) (q:∀ m',Q (.ret .none) m' H):Ex C m H (.Try body (zR8 tp p1 rp hp k :: hs) [] [] pos :: rest) Q:=by
 refine zCm fun F s vs st i=> ?_
 refine wpAny_Try_except ?_
 let X:(Addr → Option Obj) → Value → Shared → Prop:=fun F₁ e s₁=> (∀ b o,tupF s.heap F b = some o → F₁ b = some o) → wpAny (model C.prog C.w) C.A (noteFrame e C.env) (fun _ s₂=> wpAny (model C.prog C.w) C.A (setFlight e none) (fun _ s₃=> wpAny (model C.prog C.w) C.A (handleBy e C.env (zR8 tp p1 rp hp k :: hs)) (Post C F s zEe (Seq C rest Q)) (C.X F) s₃) (C.X F) s₂) (C.X F) s₁
 have hX:zBp (C.wX X) H:=fun F₁ m' e s' x hsub=> by
  have x':Fly C F₁ m' H e s':=by
   obtain ⟨base,hr,outer,st',cov,up,fr,md⟩:=x
   exact ⟨base,hr,outer,St.ofX st.ok st',cov,up,fr,md⟩
  refine zT8 (C:=C) tf hk hfr x' fun s'' y=> ?_
  exact ⟨.ret .none,m',H,⟨_,rfl,zBc⟩,st.sub (fun b o e=> hsub b o (st.tupF_sub b o e)) y,St.tup_pres hsub y _,q m'⟩
 have run:=h X hX (tupF s.heap F) s [] (st.tup.wX X) rfl
 refine wpAny_mono (Q:=fun f s₁=> Post (C.wX X) (tupF s.heap F) s zEe (fun fl m₁ H₁=> Seq C rest Q fl m₁ H₁) f s₁) run (fun f s₁ z=> ?_) fun e s₁ z=> z fun _ _ e=> e
 obtain ⟨fl,m₁,H₁,i₁,st₁,p₁,h₁⟩:=z
 have st₁':St C F m₁ H₁ s₁:=st.sub st.tupF_sub (St.ofX st.ok st₁)
 cases fl with
 | next=> cases i₁;exact wpAny_execs_nil ⟨.next,m₁,H₁,rfl,st₁',p₁,h₁⟩
 | brk=> cases i₁;exact ⟨.brk,m₁,H₁,rfl,st₁',p₁,h₁⟩
 | cont=> cases i₁;exact ⟨.cont,m₁,H₁,rfl,st₁',p₁,h₁⟩
 | ret v=> obtain ⟨x,rfl,ix⟩:=i₁;exact ⟨.ret v,m₁,H₁,⟨x,rfl,ix⟩,st₁',p₁,h₁⟩
end
end Mine
end
section
namespace Mine
noncomputable abbrev excO (C t:Addr) (dx:Option Addr):Obj:={ cls:=.ref C,dict:=dx,data:=.fields #[.ref t,.none,.none,.none,.bool false,.none] }
noncomputable abbrev tupO (l:List Value):Obj:={ cls:=.type "tuple",data:=.seq l.toArray }
section
variable {prog:Program} {w:World} {A:Around} {E:Value → Shared → Prop} {R:Result → Shared → Prop} {h:Heap} {g:Array GenState} {d:Drawn} {t:Nat} {os:OsState}
structure zW9 (B:String) (bm:List Value):Prop where
 hasB:bm.contains (.type B) = true
 noAttr:bm.contains (.type "AttributeError") = false
 noName:bm.contains (.type "NameError") = false
theorem xF:ExcBaseFacts xB xNew xInit xBm:=PySem.F.excBase_Exception
theorem xT:zW9 xB tfBm:=⟨by decide,by decide,by decide⟩
theorem zK1 {M:Model} {rest:List Value} {Q:Unit → Shared → Prop} (hC:h.get? 60 = some tfO)
    (hq:Q () ⟨h,g,d,t,os⟩):wpAny M A (checkBuiltinCall xNew ⟨.ref 60 :: rest,[]⟩) Q E ⟨h,g,d,t,os⟩:=by
 have hcont:(Value.ref 60 :: tfBm).contains (.type xB) = true:=by rw [List.contains_cons,xT.hasB,Bool.or_true]
 have hstar:=xF.noStar
 unfold checkBuiltinCall
 rw [xF.newKind,xF.newSplit]
 dsimp only
 rw [xF.newRow]
 dsimp only
 repeat (first | refine wpAny_loadPart_at hC ?_ | (refine wpAny_isSubtype_exc hC ?_;rw [hcont]) | refine wpAny_staticBase_exc hC ?_ | refine wpAny_madeBy_exc hC ?_ | ((with_reducible refine wpAny_ite_false ?_ ?_);· (rw [bne_self_eq_false];exact rfl)) | (rw [bne_self_eq_false];rw [if_neg Bool.false_ne_true]) | wp_step)
 exact hq
theorem zVn {rest:List Value} (hC:h.get? 60 = some tfO)
    (hq:R (.ok (.ret (.ref (h.objs.size + 1)))) ⟨(h.push (tupO rest)).push (excO 60 h.objs.size none),g,d,t,os⟩) (hrest:rest.length ≤ sizeLine) :
    codeAny (model prog w) A (.builtin xNew ⟨.ref 60 :: rest,[]⟩) R ⟨h,g,d,t,os⟩:=by
 have hends:=xF.ends
 have hcB:(Value.ref 60 :: tfBm).contains (.type xB) = true:=by rw [List.contains_cons,xT.hasB,Bool.or_true]
 have hcA:(Value.ref 60 :: tfBm).contains (.type "AttributeError") = false:=by rw [List.contains_cons,xT.noAttr];rfl
 have hcN:(Value.ref 60 :: tfBm).contains (.type "NameError") = false:=by rw [List.contains_cons,xT.noName];rfl
 refine codeAny_builtinAt xF.entry ?_
 unfold Builtin.«BaseException.__new__»
 refine PySem.wpAt_bind ?_
 show PySem.wpAt _ _ _ (stack >>= _) _ _ _
 refine PySem.wpAt_bind (PySem.wpAt_stack fun p below=> PySem.wpAt_of_wpAny ?_)
 wp_walk
 refine PySem.wpAt_of_wpAny ?_
 rw [xF.owner]
 repeat (first | with_reducible refine wpAny_madeHere_exc xF.canon hC ?_ | with_reducible refine wpAny_loadPart_at hC ?_ | (with_reducible refine wpAny_isSubtype_exc hC ?_;first | rw [hcB] | rw [hcA] | rw [hcN]) | wp_step)
 show R _ _
 rw [Heap.size_push]
 exact hq
theorem zSr {rest:List Value} {init:Value} (hC:h.get? 60 = some tfO)
    (hi:Looks (model prog w) h (typeLookup (.ref 60) "__init__") (some init)) (hb:∀ self,Looks (model prog w) h (bindSpecial init self) (init,[self])) (hrest:rest.length ≤ sizeLine)
    (hq:codeAny (model prog w) (A.under (.builtin "type.__call__" ⟨.ref 60 :: rest,[]⟩)) (.call init ⟨.ref (h.objs.size + 1) :: rest,[]⟩) (InitBack (h.objs.size + 1) R) ⟨(h.push (tupO rest)).push (excO 60 h.objs.size none),g,d,t,os⟩) :
    codeAny (model prog w) A (.call (.ref 60) ⟨rest,[]⟩) R ⟨h,g,d,t,os⟩:=by
 have f1:=tc_lookup
 have f2:=tc_bind (.ref 60)
 have hT:(⟨h,g,d,t,os⟩:Shared).TypeIs (.ref 60) "type":=⟨_,hC,rfl⟩
 refine codeAny_of_tree ?_
 show wpAny _ _ (callAny (.ref 60) _) _ _ _
 repeat (any_goals (first | assumption | with_reducible refine wpAny_loadPart_at hC ?_ | wp_step))
 refine ⟨rfl,?_⟩
 refine codeAny_call_builtin_at (Code.quiet_builtin _ (by decide +kernel)) entry_typeCall (wpAny_check_type_call_sub hC ?_)
 repeat (first | with_reducible refine wpAny_loadPart_at hC ?_ | with_reducible refine wpAny_madeBy_exc hC ?_ | wp_step)
 refine codeAny_call_builtin_code (Code.quiet_builtin _ xF.quiet) (zK1 hC ?_)
 refine zVn hC ?_ hrest
 show wpAny _ _ _ _ _ _
 have k:∀ b o,h.get? b = some o → ((h.push (tupO rest)).push (excO 60 h.objs.size none)).get? b = some o:=fun b o e=> Heap.get?_push_of_some _ (Heap.get?_push_of_some _ e)
 have hC₁:=k _ _ hC
 have hget:((h.push (tupO rest)).push (excO 60 h.objs.size none)).get? (h.objs.size + 1) = some (excO 60 h.objs.size none):=by heap_get
 have hcC:(Value.ref 60 :: tfBm).contains (.ref 60) = true:=by simp
 unfold isInstance
 repeat (first | with_reducible refine wpAny_loadPart_at hget ?_ | wp_step)
 show wpAny _ _ (isSubtype (.ref 60) (.ref 60)) _ _ _
 refine wpAny_isSubtype_exc hC₁ ?_
 rw [hcC]
 unfold callSpecial? specialOf
 repeat (first | with_reducible refine wpAny_loadPart_at hget ?_ | wp_step)
 show wpAny _ _ (typeLookup (.ref 60) _) _ _ _
 refine (hi.keeps k).at ?_
 refine wpAny_holding (wpAny_bind (((hb _).keeps k).at ?_))
 show wpAny _ _ (call init (.ref (h.objs.size + 1) :: rest) >>= _) _ _ _
 refine wpAny_bind (wpAny_call (codeAny_mono hq fun r s' z=> ?_))
 rcases r with e | (v | _ | _ | _) <;> first | exact z | exact z.elim | skip
 obtain ⟨rfl,z⟩:=z
 exact wpAny_pure (wpAny_pure z)
end
theorem zVo:typeOf (.builtin "Exception.__init__") = pure (.type "wrapper_descriptor"):=by kernel_rfl
theorem wd_get:Slot "wrapper_descriptor" "__get__" "wrapper_descriptor.__get__":=.of (owner:="wrapper_descriptor") (n:="__get__") (by rw [typeLookup_type,builtinLookup_eq_fast];kernel_rfl) (by decide +kernel) (by decide +kernel) (by decide +kernel)
 (by first | exact .inl (by decide +kernel) | exact .inr (by decide +kernel)) (by rw [isSubtype_type];kernel_rfl)
theorem zS8:entryFor table "wrapper_descriptor.__get__" = some Builtin.«wrapper_descriptor.__get__»:=entryFor_of_tree (by kernel_rfl)
theorem zUu (a b c:Value):argsOk "wrapper_descriptor.__get__" ⟨[a,b,c],[]⟩:=by unfold argsOk;kernel_rfl
section
variable {prog:Program} {w:World} {M:Model} {A:Around} {E:Value → Shared → Prop} {h:Heap} {g:Array GenState} {d:Drawn} {t:Nat} {os:OsState} {x:Addr}
noncomputable abbrev wrapO (id:String) (x:Addr):Obj:={ cls:=.type "method-wrapper",data:=.fields #[.builtin id,.ref x] }
set_option maxHeartbeats 4000000 in
theorem zPy {so D C:Addr} {ox:Obj} {l₀ l:List Value} {K:Frag} {name:Str} {tk:Tok} {Q:Fin → Shared → Prop}
    (hso:h.get? so = some { cls:=.type "super",dict:=none,data:=.fields #[.ref D,.ref x,.ref C],slots:=#[] }) (hno:Looks (model prog w) h (opaqueClassAbove (.ref C)) none)
    (hC:Looks (model prog w) h (mroOf (.ref C)) l₀) (hl:(l₀.dropWhile (· != .ref D)).drop 1 = l) (X:K.In h)
    (hf:alongIn K name l = some (some (.builtin "Exception.__init__"))) (hx:h.get? x = some ox) (hxc:ox.cls = .ref C) (hsub:Looks (model prog w) h (isSubtype (.ref C) (.type "Exception")) true) (hxC:x ≠ C) (hn:(name == ("__class__":Str)) = false)
    (hq:Q (.done (.ret (.ref h.objs.size))) ⟨h.push (wrapO "Exception.__init__" x),g,d,t,os⟩) :
    wpAny (model prog w) A (Builtin.«super.__getattribute__» ⟨[.ref so,.str name tk],[]⟩) Q E ⟨h,g,d,t,os⟩:=by
 have hlk:=wd_get.lookup
 have hne:(Value.ref x == Value.ref C) = false:=by simp [hxC]
 have hTf:(⟨h,g,d,t,os⟩:Shared).TypeIs (.builtin "Exception.__init__") "wrapper_descriptor":=zVo
 have hdt:({ cls:=.type "super",dict:=none,data:=.fields #[.ref D,.ref x,.ref C],slots:=#[] }:Obj).data = .fields #[.ref D,.ref x,.ref C]:=rfl
 have f0:(#[.ref D,.ref x,.ref C]:Array Value)[0]? = some (.ref D):=rfl
 have f1:(#[.ref D,.ref x,.ref C]:Array Value)[1]? = some (.ref x):=rfl
 have f2:(#[.ref D,.ref x,.ref C]:Array Value)[2]? = some (.ref C):=rfl
 unfold Builtin.«super.__getattribute__»
 repeat (first
  | (with_reducible refine wpAny_field hso hdt f0 ?_) | (with_reducible refine wpAny_field hso hdt f1 ?_) | (with_reducible refine wpAny_field hso hdt f2 ?_)
  | (with_reducible refine ks_wpAny_notOpaque hno ?_)
  | (with_reducible refine Looks.at hC ?_;rw [hl])
  | (refine ks_forIn_along X (fun _ _=> rfl) rfl ?_ hf)
  | (with_reducible refine wpAny_typeOf hTf ?_)
  | (with_reducible refine wpAny_call_entry wd_get hTf zS8 ?_ (zUu _ _ _))
  | (with_reducible refine ⟨_,rfl,?_⟩)
  | ((with_reducible refine wpAny_ite_false ?_ ?_);· (rw [hn];exact rfl))
  | (rw [hne];rw [if_neg Bool.false_ne_true])
  | wp_step
  | dsimp only)
 rw [hxc,show ".".intercalate ("Exception.__init__".cutAt '.').dropLast = "Exception" from by decide +kernel]
 refine hsub.at ?_
 repeat (first | (with_reducible refine ⟨_,rfl,?_⟩) | wp_step | dsimp only)
 exact hq
theorem zGe {so D C:Addr} {ox:Obj} {l₀ l:List Value} {K:Frag} {name:Str} {pl:Sem Bool} {Q:Value × List Value → Shared → Prop}
    (hso:h.get? so = some { cls:=.type "super",dict:=none,data:=.fields #[.ref D,.ref x,.ref C],slots:=#[] }) (hno:Looks (model prog w) h (opaqueClassAbove (.ref C)) none)
    (hC:Looks (model prog w) h (mroOf (.ref C)) l₀) (hl:(l₀.dropWhile (· != .ref D)).drop 1 = l) (X:K.In h)
    (hf:alongIn K name l = some (some (.builtin "Exception.__init__"))) (hx:h.get? x = some ox) (hxc:ox.cls = .ref C) (hsub:Looks (model prog w) h (isSubtype (.ref C) (.type "Exception")) true) (hxC:x ≠ C) (hn:(name == ("__class__":Str)) = false)
    (hq:Q (.ref h.objs.size,[]) ⟨h.push (wrapO "Exception.__init__" x),g,d,t + 1,os⟩) :
    wpAny (model prog w) A (getMethod (.ref so) name pl) Q E ⟨h,g,d,t,os⟩:=by
 have hlk:=F.ks_slot_super_ga.lookup
 have hcan:=F.ks_canon_super_ga
 have hT:∀ t',(⟨h,g,d,t',os⟩:Shared).TypeIs (.ref so) "super":=fun _=> ⟨_,hso,rfl⟩
 unfold getMethod
 refine wpAny_bind (wpAny_specialOf (hT _) hlk ?_)
 show wpAny _ _ (if (Manifest.canonical "super.__getattribute__" != "object.__getattribute__") = true then _ else _) _ _ _
 rw [if_pos hcan]
 unfold getAttr getAttrBy
 refine wpAny_bind (wpAny_bind (wpAny_mkText (wpAny_holding (wpAny_bind (wpAny_typeOf (hT _) (wpAny_bind (wpAny_of_eq hlk ?_)))))))
 show wpAny _ _ (getAttrByItsOwn (.ref so) (.str name t) (.type "super") (.builtin "super.__getattribute__") true false) _ _ _
 unfold getAttrByItsOwn hookBefore callGetattribute boundAndCalled
 refine wpAny_bind (wpAny_of_eq (show (if onTheHeap (.type "super") then typeLookup (.type "super") "__getattr__" else pure none) = pure none from rfl) ?_)
 refine wpAny_bind (wpAny_attempt (wpAny_holding ?_))
 show wpAny _ _ (bindSpecial (.builtin "super.__getattribute__") (.ref so) >>= _) _ _ _
 refine wpAny_bind (wpAny_of_eq (F.ks_slot_super_ga.bind _) ?_)
 refine wpAny_mono (Q:=fun v s'=> v = .ref h.objs.size ∧ s' = ⟨h.push (wrapO "Exception.__init__" x),g,d,t + 1,os⟩) (E:=fun _ _=> False)
  (wpAny_call_entry F.ks_slot_super_ga (hT _) F.ks_entry_super_ga (zPy hso hno hC hl X hf hx hxc hsub hxC hn ⟨_,rfl,rfl,rfl⟩) (F.ks_gaArgs_super _ _)) (fun v s' hv=> ?_) fun _ _ z=> z.elim
 obtain ⟨rfl,rfl⟩:=hv
 exact wpAny_pure (wpAny_pure hq)
theorem xF':ExcBaseFacts "Exception" "Exception.__new__" "Exception.__init__" [.type "Exception",.type "BaseException",.type "object"]:=PySem.F.excBase_Exception
theorem zRa {b:Addr} {vs:List Value} {t0:Addr} {Q:Value → Shared → Prop}
    (hC:h.get? 60 = some tfO)
    (hb:h.get? b = some (wrapO "Exception.__init__" x)) (hx:h.get? x = some { cls:=.ref 60,data:=.fields #[.ref t0,.none,.none,.none,.bool false,.none] }) (hz:vs.length ≤ sizeLine)
    (hq:Q .none ⟨(h.push { cls:=.type "tuple",data:=.seq vs.toArray }).update x (Obj.mapFields (·.setIfInBounds 0 (.ref h.objs.size))),g,d,t,os⟩) :
    wpAny (model prog w) A (call (.ref b) vs) Q E ⟨h,g,d,t,os⟩:=by
 refine wpAny_call (codeAny_of_tree ?_)
 show wpAny _ A.in1 (callAny (.ref b) _) _ _ _
 unfold callAny
 refine wpAny_bind (wpAny_load hb ?_)
 have hcB:(Value.ref 60 :: tfBm).contains (.type "Exception") = true:=by decide
 have hshort:=xF'.noStar
 show wpAny _ _ (checkBoundCall "Exception.__init__" ⟨.ref x :: vs,[]⟩ >>= _) _ _ _
 have hk:builtinKind "Exception.__init__" = some .slot:=xF'.initKind
 refine wpAny_bind ?_
 unfold checkBoundCall
 rw [xF'.initRow]
 simp only [hk]
 rw [if_pos (by decide)]
 unfold Bind.checkArgs
 repeat (first | (rw [show ∀ (a b:String) (n:Nat),Bind.check ⟨.positional,"*","Exception",.self,[⟨"args",.varPos,false⟩]⟩ a b n (List.map (fun x=> x.fst) ({ pos:=Value.ref x :: vs }:Args).kw) = pure () from fun a b n=> check_star_args _ _ _ _ _ _]) | wp_step)
 show (Code.builtin "Exception.__init__" ⟨.ref x :: vs,[]⟩).quiet = true ∧ codeAny (model prog w) A (.builtin "Exception.__init__" ⟨.ref x :: vs,[]⟩) _ _
 refine ⟨Code.quiet_builtin _ (by decide +kernel),codeAny_builtin xF'.initEntry ?_⟩
 unfold Builtin.«BaseException.__init__»
 wp_walk
 exact hq
end
structure zXh (C:Cx):Prop where
 b:SupB C 60 47 "self"
 subE:mroIn (KK C.w) 60 (.type "Exception") = some true
 opq:nsIn (KK C.w) cStatics "thirdparty.any" = some none
 meth:ks_superIn (KK C.w) 60 47 "__init__" = some (some (.builtin "Exception.__init__"))
 cls60:(KK C.w).lookup 60 = some tfO
section
variable {C:Cx} {F:Addr → Option Obj} {body:List Stmt} {m:Loc} {H:AH} {s:Shared}
theorem zPm {x t0:Addr} {e:Expr} {apos pos p0 p1:Pos} {pl:Sem Bool} {Q} (S:zXh C) (hm:(x,AObj.raw (excO 60 t0 none)) ∈ H) (hv:lk "self" m = some (.ref x))
    (h:∀ X,EvL (C.wX X) m H pos [e] (fun vs m₁ H₁=> vs.length ≤ 100 ∧ ∃ t0 R,H₁ = (x,AObj.raw (excO 60 t0 none)) :: R ∧ ∀ t1,Q .none m₁ ((x,AObj.raw (excO 60 t1 none)) :: R)))
    (h1:starEach [e] C.env = (false,eval e C.env) :: starEach [] C.env:=by rfl)
    (he:eval (.Call (.Attribute (.Call (.Name "super" p0) [] [] p1) "__init__" apos) [e] [] pos) C.env = (do
     let ov ← attributeBase (.Call (.Name "super" p0) [] [] p1) "__init__" C.env (eval (.Call (.Name "super" p0) [] [] p1) C.env)
     standAt apos.atName
     let (f,first) ← holding [ov] (getMethod ov "__init__" pl)
     callWith pos f first (backTo pos (starEach [e] C.env)) []):=by rfl) :
    EvA C body m H (.Call (.Attribute (.Call (.Name "super" p0) [] [] p1) "__init__" apos) [e] [] pos) Q:=by
 intro F s st
 refine ks_wpAt_MethodCall (pl:=pl) ?_ he
 have hx0:=(st.objs _ hm).1
 obtain ⟨hh,g,d,t,os⟩:=s
 refine zNd S.b (by decide) st hv hx0 rfl (fun c e=> (by cases e)) (fun h' eo k=> ?_)
 have st1:St C F m H ⟨h',g,d,t,os⟩:=st.keeps (h':=h') (tk:=t) k
 have X1:(KK C.w).In h':=st1.kin
 have hx1:h'.get? x = some (excO 60 t0 none):=k _ _ hx0
 have hmeth:=S.meth
 have hlk:=S.cls60
 have hCl:=X1 _ _ hlk
 have hxC:x ≠ 60:=fun q=> by rw [q,hCl] at hx1;cases hx1
 cases hc:clsIn (KK C.w) 60 with
 | none=> unfold ks_superIn at hmeth;rw [hc] at hmeth;cases hmeth
 | some cd =>
  unfold ks_superIn at hmeth
  rw [hc] at hmeth
  refine zGe eo (looks_opaque X1 S.opq) (l₀:=cd.mro) (fun A Q E s k q=> wpAny_bind ((looks_clsIn X1 hc) A _ E s k (wpAny_pure q))) rfl X1 hmeth hx1 rfl (looks_mroIn X1 S.subE) hxC (by decide) ?_
  have k2':∀ b o,h'.get? b = some o → (h'.push (wrapO "Exception.__init__" x)).get? b = some o:=fun b o e=> Heap.get?_push_of_some _ e
  have st2:St C F m H ⟨h'.push (wrapO "Exception.__init__" x),g,d,t + 1,os⟩:=st1.keeps (h':=h'.push (wrapO "Exception.__init__" x)) (tk:=t + 1) k2'
  have hq:(h'.push (wrapO "Exception.__init__" x)).get? h'.objs.size = some (wrapO "Exception.__init__" x):=Heap.get?_push_at rfl rfl
  have pk:Pres C.ban hh (h'.push (wrapO "Exception.__init__" x)):=Pres.keeps fun b o e=> k2' b o (k b o e)
  have ap:Apart C F H [h'.objs.size]:=st1.newApart1
  have st3:=(St.freeze st2 ap).wX (fun _=> C.X F)
  show wpAny C.M C.A (callWith pos (.ref h'.objs.size) [] (backTo pos (starEach [e] C.env)) []) _ _ _
  have run:=h (fun _=> C.X F) _ _ [] st3 rfl
  have run:wpAny C.M C.A (spliced (backTo pos (starEach [e] C.env))) (Post (C.wX fun _=> C.X F) _ _ IsL _) (C.X F) ⟨h'.push (wrapO "Exception.__init__" x),g,d,t + 1,os⟩:=run
  rw [h1] at run ⊢
  refine callWith_of (P:=fun h=> h.get? h'.objs.size = some (wrapO "Exception.__init__" x)) (by rfl) (fun h hb=> ⟨.machine,.inr (.inl rfl),(Looks.ld (part:=none) hb).andThen .now⟩) (evalArgs_plain ?_)
  refine andThen run fun vs s₁ l m₁ H₁ i₁ st₁ p₁ h₁=> ?_
  refine bc fun nn=> ?_
  obtain ⟨st₁',-,same⟩:=St.thaw (s₀:=⟨h'.push (wrapO "Exception.__init__" x),g,d,t + 1,os⟩) st.base st.bl ap.old (fun b hb=> ⟨wrapO "Exception.__init__" x,(List.mem_singleton.mp hb) ▸ hq⟩) (St.ofX st.ok st₁)
  refine nn ?_
  have hq':=same _ (by simp) _ hq
  refine ⟨hq',?_⟩
  refine bc fun nn=> ?_
  obtain ⟨hz,t0',R,rfl,fin⟩:=h₁
  have hm':(x,AObj.raw (excO 60 t0' none)) ∈ (x,AObj.raw (excO 60 t0' none)) :: R:=.head _
  have hx2:=(st₁'.objs _ hm').1
  obtain ⟨hh1,g1,d1,tk1,os1⟩:=s₁
  refine nn ?_
  show wpAny C.M C.A (call (.ref h'.objs.size) vs) _ _ _
  refine zRa (st₁'.kin _ _ hlk) hq' hx2 (by rw [← i₁.length,sizeLine_eq];lia) ?_
  have u:Upd x (.raw (excO 60 t0' none)) (.raw (excO 60 hh1.objs.size none)) ((x,AObj.raw (excO 60 t0' none)) :: R) ((x,AObj.raw (excO 60 hh1.objs.size none)) :: R):=.head
  have kk:∀ b o,hh1.get? b = some o → (hh1.push (tupO vs)).get? b = some o:=fun b o e=> Heap.get?_push_of_some _ e
  have stp:St C F m₁ _ ⟨hh1.push (tupO vs),g1,d1,tk1,os1⟩:=st₁'.keeps (h':=hh1.push (tupO vs)) (tk:=tk1) kk
  have hx3:=kk _ _ hx2
  refine bc fun nn=> ?_
  obtain ⟨st5,p5⟩:=stp.update (h':=(hh1.push (tupO vs)).update x (Obj.mapFields (·.setIfInBounds 0 (.ref hh1.objs.size)))) (tk:=tk1) u rfl (fun b ob hb e=> (Heap.get?_update_other _ _ (fun q=> hb (by rw [q];exact .head _))).trans e)
   (fun _=> ⟨Heap.get?_update_self _ hx3 rfl,by show Value.ref 60 ≠ _;intro q;cases q⟩)
  refine nn ?_
  exact ⟨.none,m₁,_,zBc,st5,pk.trans (p₁.trans ((Pres.keeps kk).trans p5)),fin _⟩
end
end Mine
end
section
open PySem PySem.W PySem.Calls PyProof.Rows PySem.Builtin PySem.Builtin.ObjectAttr
namespace Mine
theorem zOm (self:Value):refuseLoop self "__setattr__" [.ref 60,.ref 47,.type "Exception",.type "BaseException",.type "object"] = pure ():=by
 rw [refuseLoop_ref,refuseLoop_ref]
 kernel_rfl
section
variable {prog:Program} {w:World} {A:Around} {K:Frag} {R:Result → Shared → Prop} {s:Shared} {C x:Addr}
theorem osaE {t0:Addr} {name:Str} {tk:Tok} {v:Value} {l:List Value} (X:K.In s.heap) (hx:s.heap.get? x = some (excO C t0 none)) (hm:Looks (model prog w) s.heap (mroOf (.ref C)) l) (hl:refuseLoop (.ref x) "__setattr__" l = pure ())
    (sub:Looks (model prog w) s.heap (isSubtype (.ref C) (.type "object")) true) (ht:takerIn K C name = some none) (hh:hasDictIn K C = true)
    (h:∀ h',(∀ b o,b ≠ x → s.heap.get? b = some o → h'.get? b = some o) → h'.get? x = some (excO C t0 (some s.heap.objs.size)) → R (.ok (.ret .none)) { s with heap:=h',toks:=s.toks + 1 }) :
    codeAny (model prog w) A (.call (.builtin "object.__setattr__") ⟨[.ref x,.str name tk,v],[]⟩) R s:=by
 have SF:=PySem.F.store_object
 have I:InstAt s.heap x (excO C t0 none) C none:=⟨hx,rfl,rfl,trivial⟩
 refine codeAny_call_builtin SF.slot.plain SF.entry (@check_slot (model prog w) _ _ s "object.__setattr__" "object" "__setattr__" (.ref x) [.str name tk,v] [] _ SF.kind SF.split (I.type.andThen sub) (SF.args (.ref x) (.str name tk) v) ?_)
 obtain ⟨attr,ha,hr⟩:=Option.bind_eq_some_iff.mp ht
 have L3:Looks (model prog w) s.heap (storeTaker? attr) none:=by
  cases attr with
  | none=> exact .now
  | some a =>
   obtain ⟨b,hb,e⟩:=Option.map_eq_some_iff.mp hr
   refine (looks_takesIn X hb).andThen ?_
   cases b
   ·exact .now
   ·cases e
 rw [osa_eq,refuse_eq]
 refine wpAny_bind (wpAny_bind (I.type.here (wpAny_bind (hm.here ?_))))
 rw [hl]
 refine wpAny_pure (wpAny_bind (I.type.here (wpAny_bind ((looks_findIn X ha).here (wpAny_bind (L3.here ?_))))))
 obtain ⟨cd,hc,hd'⟩:=any_some hh
 show wpAny _ _ (storeInOwnDict (.ref x) (.ref C) (.str name tk) name v attr.isSome) _ _ _
 refine wpAny_bind (wpAny_pure (wpAny_bind (wpAny_bind (wpAny_loadPart hx (wpAny_bind ((looks_clsIn X hc).here ?_))))))
 rw [hd']
 show wpAny _ _ (alloc { cls:=.type "dict",data:=.dict #[] } >>= fun d=> update x (fun o=> { o with dict:=some d }) >>= fun _=> dictMade (.ref C) x d) _ _ _
 refine wpAny_bind (wpAny_alloc (wpAny_bind (wpAny_update (Heap.get?_push_of_some _ hx) ?_)))
 have k1:∀ b o,b ≠ x → s.heap.get? b = some o → ((s.heap.push emptyDict).update x fun o=> { o with dict:=some s.heap.objs.size }).get? b = some o:=fun b o hb e=> (Heap.get?_update_other _ _ (Ne.symm hb)).trans (Heap.get?_push_of_some _ e)
 have hx1:((s.heap.push emptyDict).update x fun o=> { o with dict:=some s.heap.objs.size }).get? x = some (excO C t0 (some s.heap.objs.size)):=Heap.get?_update_self _ (Heap.get?_push_of_some _ hx) rfl
 have hne:s.heap.objs.size ≠ x:=Nat.ne_of_gt (Heap.lt_size hx)
 have D:((s.heap.push emptyDict).update x fun o=> { o with dict:=some s.heap.objs.size }).get? s.heap.objs.size = some (dictOf [] 0):=(Heap.get?_update_other _ _ (Ne.symm hne)).trans (Heap.get?_push_size _ rfl)
 refine wpAny_pure (wpAny_bind (wpAny_pure (wpAny_bind ?_)))
 unfold nsSet
 refine wpAny_bind (wpAny_bind (wpAny_askSetting (wpAny_pure (wpAny_bind (wpAny_mkText (wpAny_bind (wpAny_loadPart D ?_)))))))
 dsimp only
 rw [aRefKeyMayBeTheName_at,show (!([]:List DictEntry).toArray.any (·.key.isStr name) && ([]:List DictEntry).toArray.any (·.refKey)) = false from by simp]
 refine wpAny_updatePart D ?_
 have pd:=putName_dict name (PyData.keyHash w.params name) (.str name s.toks) v [] 0
 have D':=Heap.get?_update_self (Obj.putName name (PyData.keyHash w.params name) (.str name s.toks) v) D (by rw [pd];rfl)
 rw [pd] at D'
 refine wpAny_bind (wpAny_lookBehind D' (pastItsLine_dict (by rw [List.size_toArray,sizeLine_eq];have:=zF1 name (PyData.keyHash w.params name) (.str name s.toks) v [];simp at this;lia)) ?_)
 refine wpAny_pure (h _ (fun b o hb e=> ?_) ?_)
 ·exact (Heap.get?_update_other _ _ (Nat.ne_of_gt (Heap.lt_size e))).trans (k1 b o hb e)
 ·exact (Heap.get?_update_other _ _ hne).trans hx1
end
section
variable {C:Cx} {F:Addr → Option Obj} {m:Loc} {H:AH} {s:Shared}
structure zUq (w:World) (Cl:Addr) (x:Str):Prop where
 set:findIn (KK w) (.ref Cl) "__setattr__" = some (some (.builtin "object.__setattr__"))
 over:∃ cd,clsIn (KK w) Cl = some cd ∧ ∀ self,refuseLoop self "__setattr__" cd.mro = pure ()
 obj:mroIn (KK w) Cl (.type "object") = some true
 take:takerIn (KK w) Cl x = some none
 dict:hasDictIn (KK w) Cl = true
theorem zTk {a Cl t0:Addr} {x:Str} {V:V} {Q} {R:AH} (hc:zUq C.w Cl x) (q:∀ dx,Q () m ((a,AObj.raw (excO Cl t0 (some dx))) :: R)):SetA C m ((a,AObj.raw (excO Cl t0 none)) :: R) (.ref a) x V Q:=by
 intro F s vs st i
 refine zAj i fun v₀ v q0 iv=> ?_
 obtain rfl:=q0
 have hx:=(st.objs _ (.head _)).1
 obtain ⟨cd,hcd,hl⟩:=hc.over
 refine set_plain (ox:=excO Cl t0 none) (od:=none) st.kin ⟨hx,rfl,rfl,trivial⟩ hc.set (osaE (s:={ s with toks:=s.toks + 1 }) st.kin hx ((looks_clsIn st.kin hcd).andThen .now) (hl _) (looks_mroIn st.kin hc.obj) hc.take hc.dict fun h' same hx'=> ?_)
 have u:Upd a (.raw (excO Cl t0 none)) (.raw (excO Cl t0 (some s.heap.objs.size))) ((a,AObj.raw (excO Cl t0 none)) :: R) ((a,AObj.raw (excO Cl t0 (some s.heap.objs.size))) :: R):=.head
 obtain ⟨st',p⟩:=st.update (h':=h') (tk:=s.toks + 1 + 1) u rfl (fun b ob hb e=> same b ob (fun q=> hb (by rw [q];exact .head _)) e) (fun _=> ⟨hx',by show Value.ref Cl ≠ _;intro q;cases q⟩)
 exact ⟨(),m,_,trivial,st',p,q _⟩
theorem St.allocE (x:St C F m H s) (Cl:Addr) (vs:List Value):St C F m ((s.heap.objs.size + 1,.raw (excO Cl s.heap.objs.size none)) :: H) { s with heap:=(s.heap.push (tupO vs)).push (excO Cl s.heap.objs.size none) }:=by
 have y:=x.keeps (h':=s.heap.push (tupO vs)) (tk:=s.toks) fun b o e=> Heap.get?_push_of_some _ e
 have z:=y.alloc (o:=excO Cl s.heap.objs.size none) (ao:=.raw (excO Cl s.heap.objs.size none)) rfl rfl ⟨Heap.get?_push_size _ rfl,by show Value.ref Cl ≠ _;intro q;cases q⟩
 have e:(s.heap.push (tupO vs)).objs.size = s.heap.objs.size + 1:=Heap.size_push ..
 rw [← e]
 exact z
theorem zU5 {fI:Addr} {args:List V} {Q} (S:(KK C.w).lookup 60 = some tfO) (hi:findIn (KK C.w) (.ref 60) "__init__" = some (some (.ref fI))) (hf:typeIn (KK C.w) (.ref fI) = some (.type "function")) (hroom:0 < C.n) (hz:args.length ≤ 100)
    (h:∀ A x t,Cd (C.made A) m ((x,.raw (excO 60 t none)) :: H) (.ref fI) (.ref x :: args) fun v m' H'=> v = .none ∧ Q (.ref x) m' H'):Cd C m H (.ref 60) args Q:=by
 intro F s v vs st i j
 obtain rfl:v = .ref 60:=i
 obtain ⟨hh,g,d,t,os⟩:=s
 refine zSr (st.kin _ _ S) (looks_findIn st.kin hi) (fun self=> bind_fn st.kin self hf) (by rw [← j.length,sizeLine_eq];lia) ?_
 have k:∀ b ob,hh.get? b = some ob → ((hh.push (tupO vs)).push (excO 60 hh.objs.size none)).get? b = some ob:=fun b ob e=> Heap.get?_push_of_some _ (Heap.get?_push_of_some _ e)
 have o':Ok (C.made (C.A.under (.builtin "type.__call__" ⟨.ref 60 :: vs,[]⟩))):=st.ok.made hroom (by
  show 0 + 1 + (if (Code.builtin "type.__call__" ⟨.ref 60 :: vs,[]⟩).isGuard then 1 else 0) + (if (Code.builtin "type.__call__" ⟨.ref 60 :: vs,[]⟩).isCaller then claimMargin else 0) ≤ 1
  have e1:(Code.builtin "type.__call__" ⟨.ref 60 :: vs,[]⟩).isGuard = false:=by show guardIds.contains "type.__call__" = false;decide +kernel
  have e2:(Code.builtin "type.__call__" ⟨.ref 60 :: vs,[]⟩).isCaller = false:=rfl
  rw [e1,e2];decide) (by show (1:Nat) ≤ 8;decide)
 refine codeAny_mono (h _ (hh.objs.size + 1) hh.objs.size F _ (.ref fI) _ ((st.allocE 60 vs).made o') zB3 (.cons zB3 (j.mono (Pres.keeps k)))) fun r s' z=> ?_
 rcases r with e | (v | _ | _ | _) <;> first | exact z | exact z.elim | skip
 obtain ⟨b,m',H',r,st',p,rfl,q⟩:=z
 refine ⟨r,?_⟩
 exact ⟨_,m',H',zB3,st'.ofMade st.ok,(Pres.keeps k).trans p,q⟩
end
end Mine
end
section
open PySem PySem.W PySem.Calls PyProof.Rows PyProof.Rows.TI
namespace Mine
section
variable {M:Model} {A:Around} {E:Value → Shared → Prop} {env:Env}
theorem zQb {s:Shared} {x:Sem Value} {Q:Flow → Shared → Prop} (hbase:tfBm.contains (.type "BaseException") = true) (hh:A.handled = none)
    (h:wpAny M A x (fun v s₁=> ∃ e t dx,v = .ref e ∧ s₁.heap.get? 60 = some tfO ∧ s₁.heap.get? e = some (excO 60 t dx) ∧ E (.ref e) s₁) E s) :
    wpAny M A (raiseStmt env (some x) none) Q E s:=by
 have hcB:(Value.ref 60 :: tfBm).contains (.type "BaseException") = true:=by rw [List.contains_cons,hbase,Bool.or_true]
 unfold raiseStmt
 refine wpAny_bind (wpAny_mono h (fun v s₁ h₁=> ?_) fun _ _ x=> x)
 refine bc fun nn=> ?_
 obtain ⟨e,t,dx,rfl,hC,he,hE⟩:=h₁
 obtain ⟨hp,g,d,tk,os⟩:=s₁
 refine nn ?_
 repeat (first | with_reducible refine wpAny_loadPart_at he ?_ | with_reducible refine wpAny_loadPart_at hC ?_ | (with_reducible refine wpAny_isSubtype_exc hC ?_;rw [hcB]) | wp_step)
 exact wpAny_raiseNew_none hh hE
end
section
variable {C:Cx} {F:Addr → Option Obj} {m:Loc} {H:AH} {s:Shared}
theorem Fly.new {e t:Addr} {dx:Option Addr} {He:AH} (fo:FrOk C) (st:St C F m ((e,.raw (excO 60 t dx)) :: He) s):Fly C F m He e s:=by
 refine bc fun nn=> ?_
 obtain ⟨outer,h1,h2⟩:=fo
 obtain ⟨he,-⟩:=st.objs _ (.head _)
 refine nn ?_
 have nd:=List.nodup_cons.mp st.nodup
 have nd2:e ∉ zA3 He ∧ (zA3 He).Nodup:=List.nodup_cons.mp (show (e :: zA3 He).Nodup from nd.2)
 have outF:∀ b o,F b = some o → b ∉ e :: C.L :: C.up.map (·.1):=fun b o hF hm=> by
  rcases List.mem_cons.mp hm with rfl | hm
  ·exact nn2 (st.fresh b (.tail _ (.head _))) hF
  ·rcases List.mem_cons.mp hm with rfl | hm
   ·exact nn2 (st.fresh _ (.head _)) hF
   ·refine bc fun nn=> ?_
    obtain ⟨p,hp,rfl⟩:=List.mem_map.mp hm
    refine nn ?_
    exact nn2 ((st.ups p hp).2.1) hF
 have outO:∀ b ∈ zA3 He,b ∉ e :: C.L :: C.up.map (·.1):=fun b hb hm=> by
  rcases List.mem_cons.mp hm with rfl | hm
  ·exact nd2.1 hb
  ·rcases List.mem_cons.mp hm with rfl | hm
   ·exact nd.1 (.tail _ hb)
   ·refine bc fun nn=> ?_
    obtain ⟨p,hp,rfl⟩:=List.mem_map.mp hm
    refine nn ?_
    exact (st.ups p hp).2.2 (.tail _ (.tail _ hb))
 have outT:∀ b xs,s.heap.IsTuple b xs → b ∉ e :: C.L :: C.up.map (·.1):=fun b xs ht hm=> by
  rcases List.mem_cons.mp hm with rfl | hm
  ·refine bc fun nn=> ?_
   obtain ⟨_,_,n⟩:=st.there (b:=b) (.tail _ (.head _))
   refine nn ?_
   exact n xs ht
  ·rcases List.mem_cons.mp hm with rfl | hm
   ·refine bc fun nn=> ?_
    obtain ⟨_,_,n⟩:=st.there (b:=C.L) (.head _)
    refine nn ?_
    exact n xs ht
   ·refine bc fun nn=> ?_
    obtain ⟨p,hp,rfl⟩:=List.mem_map.mp hm
    obtain ⟨_,_,n⟩:=st.upThere (b:=p.1) (u:=p.2) hp
    refine nn ?_
    exact n xs ht
 have frs:∀ a ∈ C.L :: C.up.map (·.1),∃ o,s.heap.get? a = some o ∧ ∀ vs,o.data ≠ .fields vs:=fun a ha=> by
  have:=fun {m} (x:NsRep C.ban s.heap a m)=> x.there
  rcases List.mem_cons.mp ha with rfl | ha
  ·refine bc fun nn=> ?_
   obtain ⟨o,ho,es,n,hd⟩:=this st.fr
   refine nn ?_
   exact ⟨o,ho,fun vs q=> by rw [hd] at q;cases q⟩
  ·refine bc fun nn=> ?_
   obtain ⟨p,hp,rfl⟩:=List.mem_map.mp ha
   obtain ⟨o,ho,es,n,hd⟩:=this (st.ups p hp).1
   refine nn ?_
   exact ⟨o,ho,fun vs q=> by rw [hd] at q;cases q⟩
 have w1:St C F m He s:=st.weak ⟨[(e,.raw (excO 60 t dx))],List.perm_append_comm (l₁:=[(e,AObj.raw (excO 60 t dx))])⟩
 have c1:Cov F He (gone s.heap (e :: C.L :: C.up.map (·.1))) s.heap:=⟨fun b o hF=> (gone_get (outF b o hF)).trans (st.raw b o hF),fun b hb o ho=> (gone_get (outO b hb)).trans ho,fun b xs ht=> by
  refine bc fun nn=> ?_
  obtain ⟨o,ho,r⟩:=id ht
  refine nn ?_
  exact ⟨o,(gone_get (outT b xs ht)).trans ho,r⟩⟩
 have ff:s.heap.FunFrames (gone s.heap (e :: C.L :: C.up.map (·.1))) (C.env :: outer):=h2.fun (fun a ha=> gone_none (.tail _ ha)) frs
 have m1:Mode (C.env :: outer) C.L (gone s.heap (e :: C.L :: C.up.map (·.1))) e s.heap:=.fresh (excO 60 t dx) #[.ref t,.none,.none,.none,.bool false,.none] (.ref t) (fun b o hb=> (gone_some hb).2) (gone_none (.head _)) ff he rfl rfl rfl rfl
 exact ⟨_,s.heap,outer,w1,c1,.refl _,h1,m1⟩
theorem zFn {x:Expr} {pos:Pos} {rest:List Stmt} {He:AH} {Q} (tf:TfOk C.w) (fo:FrOk C) (hx:zBp C He)
    (h:Ev C m H x fun v m₁ H₁=> ∃ e t dx,v = .ref e ∧ Weak H₁ ((e,.raw (excO 60 t dx)) :: He)):Ex C m H (.Raise (some x) none pos :: rest) Q:=by
 refine zCm fun F s vs st i=> ?_
 rw [arm_exec_Raise]
 refine wpAny_bind (wpAny_standAt ?_)
 show wpAny _ _ (raiseStmt C.env (some (eval x C.env >>= fun v=> standAt pos >>= fun _=> pure v)) none) _ _ _
 refine zQb tf.base st.ok.hh (wpAny_bind (andThen (h F s [] st rfl) fun v s₁ a m₁ H₁ i₁ st₁ p₁ h₁=> ?_))
 refine bc fun nn=> ?_
 obtain ⟨e,t,dx,rfl,wk⟩:=h₁
 refine nn ?_
 cases i₁
 have st₂:=st₁.weak wk
 refine wpAny_bind (wpAny_standAt (wpAny_pure ?_))
 exact ⟨e,t,dx,rfl,st₁.kin _ _ tf.cls,(st₂.objs _ (.head _)).1,hx F m₁ e s₁ (Fly.new fo st₂)⟩
end
end Mine
end
section
namespace Mine
theorem zMm {M:Model} {A:Around} {E:Value → Shared → Prop} {s:Shared} {base:Heap} {l:List Env} {e L:Addr} {cls a0:Value} {Q:Unit → Shared → Prop} (hh:Heap.HeldW base l e cls a0 L s.heap)
    (hQ:∀ h',Heap.HeldW base l e cls a0 L h' → s.heap.UpToSlots h' → Q () { s with heap:=h' }):wpAny M A (setFlight (.ref e) (some L)) Q E s:=by
 obtain ⟨hkb,hen,hl,oe,vs,T,oT,ts,he,hcls,hd,h1,hnT,hTe,hT,hdT,h3⟩:=hh
 have hsz3:3 < ts.size:=(Array.getElem?_eq_some_iff.mp h3).1
 have other:∀ b,b ≠ T → (s.heap.update T (Obj.mapFields (·.setIfInBounds 3 (rawInt L)))).get? b = s.heap.get? b:=fun b hb=> Heap.get?_update_other _ _ (Ne.symm hb)
 have noRecord:∀ b o,s.heap.get? b = some o → (∀ vs,o.data ≠ .fields vs) → b ≠ T:=fun b o hb hnf q=> by
  rw [q,hT] at hb;injection hb with hb;subst hb;exact hnf ts hdT
 unfold setFlight
 refine wpAny_bind (wpAny_field he hd h1 ?_)
 rw [if_pos (show (Value.ref T != Value.none) = true from by exact rfl)]
 refine wpAny_setField hT hdT hsz3 (hQ _ ⟨fun b o hbo=> (other b fun q=> by rw [q,hnT] at hbo;cases hbo).trans (hkb b o hbo),hen,hl.of_keeps fun b o hb hnf=> ⟨o,(other b (noRecord b o hb hnf)).trans hb,rfl⟩,?_⟩ fun b o hb hnf=> ⟨o.slots,(other b (noRecord b o hb hnf)).trans hb⟩)
 exact ⟨oe,vs,T,_,_,(other e (Ne.symm hTe)).trans he,hcls,hd,h1,hnT,hTe,Heap.get?_update_self _ hT (Obj.isFreed_of_fields (Obj.data_mapFields hdT _)),Obj.data_mapFields hdT _,by simp [hsz3]⟩
theorem zR9 {M:Model} {A:Around} {E:Value → Shared → Prop} {s:Shared} {base:Heap} {env:Env} {l:List Env} {e L:Addr} {cls a0:Value} (hf:env.frame = some L) (hh:Heap.HeldW base l e cls a0 L s.heap)
    (hQ:∀ h',Heap.HeldW base l e cls a0 L h' → s.heap.UpToSlots h' → E (.ref e) { s with heap:=h' }):cameBackBy M A env E (.ref e) s:=by
 have hh':=hh
 obtain ⟨hkb,hen,hl,oe,vs,T,oT,ts,he,hcls,hd,h1,r⟩:=hh'
 unfold cameBackBy
 refine wpAny_bind (wpAny_field he hd h1 ?_)
 rw [if_neg (show ¬ ((Value.ref T == Value.none) = true) from by simp),hf]
 exact zMm hh hQ
section
variable {C:Cx} {F:Addr → Option Obj} {m:Loc} {H:AH} {s:Shared}
theorem zVk {wr:List Addr} {h:Heap} (ap:Apart C F H wr):∀ b o,F b = some o → frz wr h F b = some o:=fun b o e=> by
 rw [zCy fun hb=> by exact nn2 ((ap.old b hb).1) e]
 exact e
noncomputable abbrev loopX (C:Cx) (F F₁:Addr → Option Obj):(Addr → Option Obj) → Value → Shared → Prop:=fun F₂ e s'=> (∀ b o,F₁ b = some o → F₂ b = some o) → notedBy C.M C.A C.env (fun e s'=> cameBackBy C.M C.A C.env (C.X F) e s') e s'
theorem zL7 {F₁:Addr → Option Obj} {He:AH} (st:St C F m H s) (hfr:C.env.frame = some C.L) (hsub:∀ b o,F b = some o → F₁ b = some o) (hx:zBp C He):zBp (C.wX (loopX C F F₁)) He:=by
 intro F₂ m' e s' x hsub2
 obtain ⟨base,hr,outer,st',cov,up,fr,md⟩:=x
 have sub:∀ b o,F b = some o → F₂ b = some o:=fun b o h=> hsub2 b o (hsub b o h)
 refine zHe fr hfr md fun a0 h' z u=> ?_
 refine zR9 (s:={ s' with heap:=h' }) hfr z fun h'' y u'=> ?_
 exact hx F m' e _ ⟨base,hr,outer,st.sub sub (St.ofX st.ok st'),cov.sub sub,up.trans (u.trans u'),fr,.held a0 y⟩
inductive ForX (C:Cx) (target:Expr) (body rest:List Stmt) (He:AH) (Q:AFlow → Loc → AH → Prop) (v:V) (m₁:Loc) (H₁:AH):Prop
 | mk (xs:List V) (src:AH → Prop) (H₁':AH) (wk:Walk C target H₁ v src xs H₁') (I:Nat → Loc → AH → Prop) (h0:I 0 m₁ H₁') (hs:∀ i m H,I i m H → src H)
     (turn:∀ X,zBp (C.wX X) He → ∀ i x m H,xs[i]? = some x → I i m H → Asg (C.wX X) m H target x fun _ m₁ H₁=> Ex (C.wX X) m₁ H₁ body fun fl m₂ H₂=> match fl with
      | .next | .cont=> I (i + 1) m₂ H₂
      | .brk=> Ex C m₂ H₂ rest Q
      | .ret v=> Q (.ret v) m₂ H₂) (fin:∀ m H,I xs.length m H → Ex C m H rest Q)
theorem zWa {target iter:Expr} {body:List Stmt} {pos:Pos} {rest:List Stmt} {He:AH} {Q} (hfr:C.env.frame = some C.L) (hX:zBp C He)
    (h:Ev C m H iter (ForX C target body rest He Q))
    (hs:∀ x,foldedSetIterable iter C.env x = pure x:=by intro _;rfl):Ex C m H (.For target iter body [] pos :: rest) Q:=by
 refine zCm fun F s vs st i=> ?_
 refine wpAny_For (andThen (h F s [] st rfl) fun v s₁ a m₁ H₁ i₁ st₁ p₁ h₁=> ?_) hs
 obtain ⟨xs,src,H₁',wk,I,h0,hsrc,turn,fin⟩:=h₁
 refine wk F m₁ s₁ v _ _ st₁ i₁ fun it wr K s₂ itr st₂ ap k0 p₂=> ?_
 refine codeAny_forLoop_any (zUp C F wr K s.heap xs.length I)
  (fun n s' z=> ?_) (xs.length + 1) ⟨0,m₁,H₁',h0,st₂,ap,k0,p₁.trans p₂,Nat.zero_le _,rfl⟩
 obtain ⟨i,m',H',hI,st',ap',k',p',hle,hn⟩:=z
 cases hx:xs[i]? with
 | none =>
  have hi:i = xs.length:=Nat.le_antisymm hle (by simpa using hx)
  subst hi
  refine itr.done C.env C.X F m' H' s' _ _ st' ap' (hsrc _ _ _ hI) k' fun s₃ st₃ p₃ _=> ?_
  exact wpAny_execs_nil ⟨.next,m',H',rfl,st₃,p'.trans p₃,fin m' H' hI⟩
 | some x =>
  have hlt:i < xs.length:=(List.getElem?_eq_some_iff.mp hx).1
  refine itr.item C.env C.X i x F m' H' s' _ _ _ hx st' ap' (hsrc _ _ _ hI) k' (fun v s₁ h=> h) fun v s₃ iv k₃ st₃ p₃ _=> ?_
  have hR:=zL7 st₃ hfr (F₁:=frz wr s₃.heap F) (zVk ap') hX
  have st₃':=(St.freeze st₃ ap').wX (loopX C F (frz wr s₃.heap F))
  have th:∀ b ∈ wr,∃ o,s₃.heap.get? b = some o:=itr.there _ _ k₃
  refine wpAny_mono (turn _ hR i x m' H' hx hI _ s₃ [v] st₃' (.cons iv .nil)) (fun _ s₄ z=> ?_) fun e s' z=> z fun _ _ h=> h
  obtain ⟨_,m₄,H₄,_,st₄,p₄,h₄⟩:=z
  refine wpAny_mono (h₄ _ s₄ [] st₄ rfl) (fun f s₅ z=> ?_) fun e s' z=> z fun _ _ h=> h
  obtain ⟨fl,m₅,H₅,i₅,st₅,p₅,h₅⟩:=z
  obtain ⟨st₅',ap₅,same⟩:=St.thaw st.base st.bl ap.old th (St.ofX st.ok st₅)
  have pp:=p'.trans (p₃.trans (p₄.trans p₅))
  have hn1:n - 1 < n:=by rw [hn];exact Nat.sub_lt (Nat.lt_of_lt_of_le (Nat.zero_lt_sub_of_lt (Nat.lt_succ_of_lt hlt)) (Nat.le_refl _)) Nat.one_pos
  have hn2:n - 1 = xs.length + 1 - (i + 1):=by rw [hn];lia
  cases fl with
  | next=> cases i₅;exact ⟨n - 1,hn1,i + 1,m₅,H₅,h₅,st₅',ap₅,itr.keep _ _ _ k₃ same (p₄.trans p₅),pp,hlt,hn2⟩
  | cont=> cases i₅;exact ⟨n - 1,hn1,i + 1,m₅,H₅,h₅,st₅',ap₅,itr.keep _ _ _ k₃ same (p₄.trans p₅),pp,hlt,hn2⟩
  | brk=> cases i₅;exact ⟨.next,m₅,H₅,rfl,st₅',pp,h₅⟩
  | ret v=> obtain ⟨x,rfl,ix⟩:=i₅;exact ⟨.ret v,m₅,H₅,⟨x,rfl,ix⟩,st₅',pp,h₅⟩
inductive zX0 (m₁:Loc) (H':AH) (p:Prop) (fl:AFlow) (m₃:Loc) (H₃:AH):Prop
 | mk (f:fl = .next ∨ fl = .cont) (l:LocLe m₃ m₁) (w:Weak H₃ H') (q:p)
inductive kForX (C:Cx) (target:Expr) (body rest:List Stmt) (He:AH) (Q:AFlow → Loc → AH → Prop) (v:V) (m₁:Loc) (H₁:AH):Prop
 | mk (xs:List V) (src:AH → Prop) (H':AH) (wk:Walk C target H₁ v src xs H') (hs:src H') (P:Nat → Prop) (h0:P 0)
     (turn:∀ X,zBp (C.wX X) He → ∀ i x,xs[i]? = some x → P i → Asg (C.wX X) m₁ H' target x (kEx (C.wX X) body (zX0 m₁ H' (P (i + 1))))) (fin:P xs.length → Ex C m₁ H' rest Q)
theorem zTo {target iter:Expr} {body:List Stmt} {pos:Pos} {rest:List Stmt} {He:AH} {Q} (hfr:C.env.frame = some C.L) (hX:zBp C He)
    (h:Ev C m H iter (kForX C target body rest He Q))
    (hs:∀ x,foldedSetIterable iter C.env x = pure x):Ex C m H (.For target iter body [] pos :: rest) Q:=by
 refine zWa hfr hX (T.conseq h fun v m₁ H₁ q=> ?_) hs
 obtain ⟨xs,src,H',wk,hsrc,P,h0,turn,fin⟩:=q
 refine ⟨xs,src,H',wk,fun i m' H=> m' = m₁ ∧ H = H' ∧ P i,⟨rfl,rfl,h0⟩,fun i m' H h=> h.2.1 ▸ hsrc,fun X hR i x m' H hx hI=> ?_,fun m' H h=> ?_⟩
 ·obtain ⟨rfl,rfl,hI⟩:=hI
  refine T.conseq (turn X hR i x hx hI) fun _ m₂ H₂ h=> T.weak2 h fun fl m₃ H₃ q=> ?_
  obtain ⟨hf,l,w,q⟩:=q
  refine ⟨m',H,l,w,?_⟩
  rcases hf with rfl | rfl <;> exact ⟨rfl,rfl,q⟩
 ·obtain ⟨rfl,rfl,h⟩:=h
  exact fin h
end
end Mine
end
section
namespace Mine
inductive LRef (H:AH):List Addr → List (List V) → Prop
 | nil:LRef H [] []
 | cons {a:Addr} {l:List V} {as:List Addr} {ls:List (List V)} (h:(a,AObj.list l) ∈ H) (hv:voks 8 l = true) (r:LRef H as ls):LRef H (a :: as) (l :: ls)
theorem LRef.ok {H:AH} {as:List Addr} {ls:List (List V)} (r:LRef H as ls):∀ l ∈ ls,voks 8 l = true:=by
 induction r with
 | nil=> intro l h;cases h
 | cons h hv r ih =>
  intro l hl
  rcases List.mem_cons.mp hl with rfl | hl
  ·exact hv
  ·exact ih l hl
section
variable {C:Cx} {F:Addr → Option Obj} {m:Loc} {H:AH} {s:Shared}
theorem LRef.reads {as:List Addr} {ls:List (List V)} (r:LRef H as ls) (st:St C F m H s):∀ {vs:List Value},IsL C.ban s.heap (as.map V.ref) vs → ∃ bs,ReadsAll s.heap vs (kqdPs (ls.map fun l=> Dat.list (dats l))) bs:=by
 induction r with
 | nil=> intro vs e;cases e;exact ⟨_,by rw [List.map_nil,kqdPs];exact ReadsAll.nil⟩
 | cons h hv r ih =>
  intro vs i
  obtain ⟨x,r',e,q,b⟩:=i
  subst e
  cases q
  obtain ⟨ys,⟨n,e⟩,il⟩:=st.objs _ h
  obtain ⟨bs,ra⟩:=il.reads 8 hv
  obtain ⟨cs,rc⟩:=ih b
  have z:=ReadsAll.cons (reads_list_at e rfl rfl ra) rc
  rw [List.map_cons,kqdPs,kqdP]
  exact ⟨_,z⟩
theorem zSt {ls:List (List V)} (h:∀ l ∈ ls,voks 8 l = true):kqdOk 10 (.tuple (ls.map fun l=> Dat.list (dats l))) = true:=by
 rw [kqdOk,List.all_eq_true]
 intro d hd
 refine zAi hd fun l hl=> ?_
 rw [kqdOk,List.all_eq_true]
 exact zHv (h l hl)
theorem zN4 {as bs:List Addr} {ls:List (List V)} {Q} (ha:LRef H as ls) (hb:LRef H bs ls) (q:Q (.bool true) m H):Cmp C m H .Eq (.tup (as.map V.ref)) (.tup (bs.map V.ref)) Q:=by
 intro F s vs st i
 refine zAj i fun u v q0 q1=> ?_
 refine bc fun nn=> ?_
 obtain ⟨t1,xs,rfl,⟨⟨o,ho,hc,k,hd⟩,_⟩,il⟩:=q0
 obtain ⟨t2,ys,rfl,⟨⟨o2,ho2,hc2,k2,hd2⟩,_⟩,il2⟩:=q1
 obtain ⟨cs,ra⟩:=ha.reads st il
 obtain ⟨ds,rb⟩:=hb.reads st il2
 refine nn ?_
 have ok:=zSt ha.ok
 have e1:=kqd_eqv 10 (.tuple (ls.map fun l=> Dat.list (dats l))) (.tuple (ls.map fun l=> Dat.list (dats l))) 10 ok ok
 have la:=kqd_lay 10 _ ok
 rw [kqdP] at e1 la
 have sh:SeqAt.shaped (.tuple (kqdPs (ls.map fun l=> Dat.list (dats l)))) = true:=by
  unfold SeqAt.shaped;rw [la.1,Bool.true_and];exact decide_eq_true (Nat.le_trans la.2 (by decide))
 refine eq_dataH (reads_tuple_at ho hc hd ra) (reads_tuple_at ho2 hc2 hd2 rb) sh sh (by have:=st.unit;lia) (fin st zBd ?_)
 rw [e1.mpr rfl];exact q
end
end Mine
end
section
set_option maxHeartbeats 4000000
namespace Mine
variable {w:World}
theorem zBn:zBs w 206 "nodes":=⟨by kernel_rfl,by kernel_rfl,by kernel_rfl⟩
theorem zJk:zC8 w 206 "nodes":=⟨by kernel_rfl,by kernel_rfl,by kernel_rfl,by kernel_rfl⟩
theorem zE2:zBs w 206 "numbers":=⟨by kernel_rfl,by kernel_rfl,by kernel_rfl⟩
theorem zH8:zC8 w 206 "numbers":=⟨by kernel_rfl,by kernel_rfl,by kernel_rfl,by kernel_rfl⟩
theorem zE1:zBs w 206 "weights":=⟨by kernel_rfl,by kernel_rfl,by kernel_rfl⟩
theorem zH7:zC8 w 206 "weights":=⟨by kernel_rfl,by kernel_rfl,by kernel_rfl,by kernel_rfl⟩
theorem zEr:zBs w 206 "depths":=⟨by kernel_rfl,by kernel_rfl,by kernel_rfl⟩
theorem zIi:zC8 w 206 "depths":=⟨by kernel_rfl,by kernel_rfl,by kernel_rfl,by kernel_rfl⟩
theorem zB0:zBs w 288 "above":=⟨by kernel_rfl,by kernel_rfl,by kernel_rfl⟩
theorem zH6:zC8 w 288 "above":=⟨by kernel_rfl,by kernel_rfl,by kernel_rfl,by kernel_rfl⟩
theorem zCe:zBs w 288 "lots":=⟨by kernel_rfl,by kernel_rfl,by kernel_rfl⟩
theorem zIh:zC8 w 288 "lots":=⟨by kernel_rfl,by kernel_rfl,by kernel_rfl,by kernel_rfl⟩
theorem zGl:zBs w 288 "merged":=⟨by kernel_rfl,by kernel_rfl,by kernel_rfl⟩
theorem zGj:zC8 w 288 "merged":=⟨by kernel_rfl,by kernel_rfl,by kernel_rfl,by kernel_rfl⟩
theorem zC4:zBs w 474 "bank":=⟨by kernel_rfl,by kernel_rfl,by kernel_rfl⟩
theorem zH5:zC8 w 474 "bank":=⟨by kernel_rfl,by kernel_rfl,by kernel_rfl,by kernel_rfl⟩
theorem zBt:zBs w 474 "unions":=⟨by kernel_rfl,by kernel_rfl,by kernel_rfl⟩
theorem zFv:zC8 w 474 "unions":=⟨by kernel_rfl,by kernel_rfl,by kernel_rfl,by kernel_rfl⟩
theorem zBx:zBs w 474 "edges":=⟨by kernel_rfl,by kernel_rfl,by kernel_rfl⟩
theorem zGg:zC8 w 474 "edges":=⟨by kernel_rfl,by kernel_rfl,by kernel_rfl,by kernel_rfl⟩
theorem zFx:zBs w 474 "forest":=⟨by kernel_rfl,by kernel_rfl,by kernel_rfl⟩
theorem zFw:zC8 w 474 "forest":=⟨by kernel_rfl,by kernel_rfl,by kernel_rfl,by kernel_rfl⟩
theorem zGk:zBs w 474 "known":=⟨by kernel_rfl,by kernel_rfl,by kernel_rfl⟩
theorem zGf:zC8 w 474 "known":=⟨by kernel_rfl,by kernel_rfl,by kernel_rfl,by kernel_rfl⟩
theorem zB4:zBs w 474 "above":=⟨by kernel_rfl,by kernel_rfl,by kernel_rfl⟩
theorem zGi:zC8 w 474 "above":=⟨by kernel_rfl,by kernel_rfl,by kernel_rfl,by kernel_rfl⟩
theorem zB7:zBs w 474 "waiting":=⟨by kernel_rfl,by kernel_rfl,by kernel_rfl⟩
theorem zFe:zC8 w 474 "waiting":=⟨by kernel_rfl,by kernel_rfl,by kernel_rfl,by kernel_rfl⟩
theorem zGh:zC8 w 474 "backs":=⟨by kernel_rfl,by kernel_rfl,by kernel_rfl,by kernel_rfl⟩
theorem zAr:zBs w 474 "rows":=⟨by kernel_rfl,by kernel_rfl,by kernel_rfl⟩
theorem zH4:zC8 w 474 "rows":=⟨by kernel_rfl,by kernel_rfl,by kernel_rfl,by kernel_rfl⟩
theorem zAw:zBs w 567 "heap":=⟨by kernel_rfl,by kernel_rfl,by kernel_rfl⟩
theorem zJj:zC8 w 567 "heap":=⟨by kernel_rfl,by kernel_rfl,by kernel_rfl,by kernel_rfl⟩
theorem zKy:zAz w 206 "size" 123:=⟨by kernel_rfl,by kernel_rfl,by kernel_rfl,by kernel_rfl⟩
theorem zKx:zAz w 206 "take" 128:=⟨by kernel_rfl,by kernel_rfl,by kernel_rfl,by kernel_rfl⟩
theorem zHc:zAz w 206 "require" 135:=⟨by kernel_rfl,by kernel_rfl,by kernel_rfl,by kernel_rfl⟩
theorem zOo:zAz w 206 "op" 163:=⟨by kernel_rfl,by kernel_rfl,by kernel_rfl,by kernel_rfl⟩
theorem zKz:zAz w 206 "kids" 170:=⟨by kernel_rfl,by kernel_rfl,by kernel_rfl,by kernel_rfl⟩
theorem zIk:zAz w 288 "make" 231:=⟨by kernel_rfl,by kernel_rfl,by kernel_rfl,by kernel_rfl⟩
theorem zIj:zAz w 288 "size" 238:=⟨by kernel_rfl,by kernel_rfl,by kernel_rfl,by kernel_rfl⟩
theorem zDc:zAz w 288 "find" 245:=⟨by kernel_rfl,by kernel_rfl,by kernel_rfl,by kernel_rfl⟩
theorem zHa:zAz w 288 "merge" 252:=⟨by kernel_rfl,by kernel_rfl,by kernel_rfl,by kernel_rfl⟩
theorem zB1:zAz w 474 "size" 313:=⟨by kernel_rfl,by kernel_rfl,by kernel_rfl,by kernel_rfl⟩
theorem zH9:zAz w 474 "node" 318:=⟨by kernel_rfl,by kernel_rfl,by kernel_rfl,by kernel_rfl⟩
theorem zEs:zAz w 474 "add" 455:=⟨by kernel_rfl,by kernel_rfl,by kernel_rfl,by kernel_rfl⟩
theorem zD7:zAz w 474 "look_at" 337:=⟨by kernel_rfl,by kernel_rfl,by kernel_rfl,by kernel_rfl⟩
theorem zAb:zAz w 474 "find" 344:=⟨by kernel_rfl,by kernel_rfl,by kernel_rfl,by kernel_rfl⟩
theorem zCl:zAz w 474 "merge" 463:=⟨by kernel_rfl,by kernel_rfl,by kernel_rfl,by kernel_rfl⟩
theorem zE3:zAz w 474 "join" 365:=⟨by kernel_rfl,by kernel_rfl,by kernel_rfl,by kernel_rfl⟩
theorem zC9:zAz w 474 "settle" 471:=⟨by kernel_rfl,by kernel_rfl,by kernel_rfl,by kernel_rfl⟩
theorem zE4:zAz w 474 "is_settled" 379:=⟨by kernel_rfl,by kernel_rfl,by kernel_rfl,by kernel_rfl⟩
theorem zHb:zAz w 567 "settle" 531:=⟨by kernel_rfl,by kernel_rfl,by kernel_rfl,by kernel_rfl⟩
theorem zCo:zAz w 567 "rows" 538:=⟨by kernel_rfl,by kernel_rfl,by kernel_rfl,by kernel_rfl⟩
theorem zDp:zAz w 567 "text" 543:=⟨by kernel_rfl,by kernel_rfl,by kernel_rfl,by kernel_rfl⟩
theorem zMc:zAz w 567 "do" 557:=⟨by kernel_rfl,by kernel_rfl,by kernel_rfl,by kernel_rfl⟩
theorem zF2:zAz w 567 "alike_with" 564:=⟨by kernel_rfl,by kernel_rfl,by kernel_rfl,by kernel_rfl⟩
theorem zV8:makesIn (KK w) 206 = true:=by kernel_rfl
theorem zVh:findIn (KK w) (.ref 206) "__init__" = some (some (.ref 116)):=by kernel_rfl
theorem zVf:typeIn (KK w) (.ref 116) = some (.type "function"):=by kernel_rfl
theorem zQh:makesIn (KK w) 288 = true:=by kernel_rfl
theorem zQq:findIn (KK w) (.ref 288) "__init__" = some (some (.ref 224)):=by kernel_rfl
theorem zQp:typeIn (KK w) (.ref 224) = some (.type "function"):=by kernel_rfl
theorem zOt:makesIn (KK w) 474 = true:=by kernel_rfl
theorem zP3:findIn (KK w) (.ref 474) "__init__" = some (some (.ref 447)):=by kernel_rfl
theorem zOz:typeIn (KK w) (.ref 447) = some (.type "function"):=by kernel_rfl
theorem zSp:makesIn (KK w) 567 = true:=by kernel_rfl
theorem zT1:findIn (KK w) (.ref 567) "__init__" = some (some (.ref 510)):=by kernel_rfl
theorem zSy:typeIn (KK w) (.ref 510) = some (.type "function"):=by kernel_rfl
theorem zUg {α:Type} {P:Str → α → Prop} (x:Str) (v:α) (h:lk x [] = some v):P x v:=by cases h
theorem zAk {α:Type} {P:Str → α → Prop} {y:Str} {u:α} {r:List (Str × α)} (p:P y u) (q:∀ x v,lk x r = some v → P x v) (x:Str) (v:α) (h:lk x ((y,u) :: r) = some v):P x v:=by
 by_cases e:x = y
 ·rw [zBi,if_pos e,Option.some.injEq] at h
  rw [e,← h]
  exact p
 ·rw [zBi,if_neg e] at h
  exact q x v h
noncomputable def gtab:List (Str × Addr):=[("is_op",95),("is_variable",102),("Bank",206),("Unions",288),("check_reason",431),("Written",474),("row_text",481),("number_of",486),("same_of",491),("row_of",496),("Story",567),("read_story",578),("TermFault",60),("_law_cast",587),("_law_reason",592),("_law_is_let",599),("_law_state",604),("_law_homes",609),("_law_merged",616),("_law_is_merged_right",623)]
theorem zQt:∀ x a,lk x gtab = some a → nsIn (KK w) mainGlobals x = some (some (.ref a)) ∧ keepIn (KK w) (.ref a) = true:=by
 refine zAk ?_ (zAk ?_ (zAk ?_ (zAk ?_ (zAk ?_ (zAk ?_ (zAk ?_ (zAk ?_ (zAk ?_ (zAk ?_ (zAk ?_ (zAk ?_ (zAk ?_ (zAk ?_ (zAk ?_ (zAk ?_ (zAk ?_ (zAk ?_ (zAk ?_ (zAk ?_ (zUg)))))))))))))))))))) <;> exact ⟨by kernel_rfl,by kernel_rfl⟩
noncomputable def btab:List (Str × Value):=[("len",.builtin "len"),("tuple",.type "tuple"),("sorted",.builtin "sorted"),("set",.type "set"),("list",.type "list"),("str",.type "str"),("int",.type "int"),("sum",.builtin "sum"),("max",.builtin "max"),("range",.type "range"),("enumerate",.type "enumerate")]
theorem zVp:∀ x v,lk x btab = some v → (nsIn (KK w) mainGlobals x = some none ∧ bootBuiltins x = some v) ∧ x ≠ "__name__" ∧ KeepOk w (.con v):=by
 refine zAk ?_ (zAk ?_ (zAk ?_ (zAk ?_ (zAk ?_ (zAk ?_ (zAk ?_ (zAk ?_ (zAk ?_ (zAk ?_ (zAk ?_ (zUg))))))))))) <;> exact ⟨⟨by kernel_rfl,by kernel_rfl⟩,by decide,trivial⟩
theorem zXa:nsIn (KK w) mainGlobals "zip" = some none:=by kernel_rfl
section
variable {C:Cx} {m:Loc} {H:AH} {x:Str} {np:Pos} {e:Expr} {r:List Expr} {pos:Pos}
theorem zRz {v:Value} {Q} (i:lk x btab = some v) (h:EvL C m H pos (e :: r) (kArgs C (.con v) Q)) (hk:C.env.kindOf x = some .globalImplicit)
    (h1:starEach (e :: r) C.env = (false,eval e C.env) :: starEach r C.env) (h2:(backTo pos (starEach r C.env)).any (·.1) = false)
    (hd:(x == ("__debug__":Str)) = false):Ev C m H (.Call (.Name x np) (e :: r) [] pos) Q :=
 have z:=zVp x v i
 zO3 z.1.1 z.1.2 z.2.1 z.2.2 hk h h1 h2 hd
theorem zRy {a:Addr} {Q} (i:lk x gtab = some a) (h:EvL C m H pos (e :: r) (kArgs C (.ref a) Q)) (hk:C.env.kindOf x = some .globalImplicit)
    (h1:starEach (e :: r) C.env = (false,eval e C.env) :: starEach r C.env) (h2:(backTo pos (starEach r C.env)).any (·.1) = false)
    (hd:(x == ("__debug__":Str)) = false):Ev C m H (.Call (.Name x np) (e :: r) [] pos) Q :=
 have z:=zQt x a i
 zTw z.1 z.2 hk h h1 h2 hd
theorem zPl {a:Addr} {Q} (i:lk x gtab = some a) (h:Call C m H (.ref a) [] Q) (hk:C.env.kindOf x = some .globalImplicit)
    (hd:(x == ("__debug__":Str)) = false):Ev C m H (.Call (.Name x np) [] [] pos) Q :=
 have z:=zQt x a i
 zRx z.1 z.2 hk h hd
end
set_option genInjectivity false in
structure FdAt (w:World) (a:Addr) where
 oc:Value
 od:Option Addr
 osl:Array (Option Value)
 fd:FuncData
 h:(KK w).lookup a = some ⟨oc,od,.func fd,osl⟩
noncomputable def fd37 (w:World):FdAt w 37:=⟨_,_,_,_,rfl⟩
noncomputable def fd95 (w:World):FdAt w 95:=⟨_,_,_,_,rfl⟩
noncomputable def fd102 (w:World):FdAt w 102:=⟨_,_,_,_,rfl⟩
noncomputable def fd116 (w:World):FdAt w 116:=⟨_,_,_,_,rfl⟩
noncomputable def fd123 (w:World):FdAt w 123:=⟨_,_,_,_,rfl⟩
noncomputable def fd128 (w:World):FdAt w 128:=⟨_,_,_,_,rfl⟩
noncomputable def fd135 (w:World):FdAt w 135:=⟨_,_,_,_,rfl⟩
noncomputable def fd163 (w:World):FdAt w 163:=⟨_,_,_,_,rfl⟩
noncomputable def fd170 (w:World):FdAt w 170:=⟨_,_,_,_,rfl⟩
noncomputable def fd177 (w:World):FdAt w 177:=⟨_,_,_,_,rfl⟩
noncomputable def fd224 (w:World):FdAt w 224:=⟨_,_,_,_,rfl⟩
noncomputable def fd231 (w:World):FdAt w 231:=⟨_,_,_,_,rfl⟩
noncomputable def fd238 (w:World):FdAt w 238:=⟨_,_,_,_,rfl⟩
noncomputable def fd245 (w:World):FdAt w 245:=⟨_,_,_,_,rfl⟩
noncomputable def fd252 (w:World):FdAt w 252:=⟨_,_,_,_,rfl⟩
noncomputable def fd306 (w:World):FdAt w 306:=⟨_,_,_,_,rfl⟩
noncomputable def fd313 (w:World):FdAt w 313:=⟨_,_,_,_,rfl⟩
noncomputable def fd318 (w:World):FdAt w 318:=⟨_,_,_,_,rfl⟩
noncomputable def fd323 (w:World):FdAt w 323:=⟨_,_,_,_,rfl⟩
noncomputable def fd337 (w:World):FdAt w 337:=⟨_,_,_,_,rfl⟩
noncomputable def fd344 (w:World):FdAt w 344:=⟨_,_,_,_,rfl⟩
noncomputable def fd358 (w:World):FdAt w 358:=⟨_,_,_,_,rfl⟩
noncomputable def fd365 (w:World):FdAt w 365:=⟨_,_,_,_,rfl⟩
noncomputable def fd372 (w:World):FdAt w 372:=⟨_,_,_,_,rfl⟩
noncomputable def fd379 (w:World):FdAt w 379:=⟨_,_,_,_,rfl⟩
noncomputable def fd431 (w:World):FdAt w 431:=⟨_,_,_,_,rfl⟩
noncomputable def fd447 (w:World):FdAt w 447:=⟨_,_,_,_,rfl⟩
noncomputable def fd455 (w:World):FdAt w 455:=⟨_,_,_,_,rfl⟩
noncomputable def fd463 (w:World):FdAt w 463:=⟨_,_,_,_,rfl⟩
noncomputable def fd471 (w:World):FdAt w 471:=⟨_,_,_,_,rfl⟩
noncomputable def fd481 (w:World):FdAt w 481:=⟨_,_,_,_,rfl⟩
noncomputable def fd486 (w:World):FdAt w 486:=⟨_,_,_,_,rfl⟩
noncomputable def fd491 (w:World):FdAt w 491:=⟨_,_,_,_,rfl⟩
noncomputable def fd496 (w:World):FdAt w 496:=⟨_,_,_,_,rfl⟩
noncomputable def fd510 (w:World):FdAt w 510:=⟨_,_,_,_,rfl⟩
noncomputable def fd524 (w:World):FdAt w 524:=⟨_,_,_,_,rfl⟩
noncomputable def fd531 (w:World):FdAt w 531:=⟨_,_,_,_,rfl⟩
noncomputable def fd538 (w:World):FdAt w 538:=⟨_,_,_,_,rfl⟩
noncomputable def fd543 (w:World):FdAt w 543:=⟨_,_,_,_,rfl⟩
noncomputable def fd557 (w:World):FdAt w 557:=⟨_,_,_,_,rfl⟩
noncomputable def fd564 (w:World):FdAt w 564:=⟨_,_,_,_,rfl⟩
noncomputable def fd578 (w:World):FdAt w 578:=⟨_,_,_,_,rfl⟩
noncomputable def fd587 (w:World):FdAt w 587:=⟨_,_,_,_,rfl⟩
noncomputable def fd592 (w:World):FdAt w 592:=⟨_,_,_,_,rfl⟩
noncomputable def fd599 (w:World):FdAt w 599:=⟨_,_,_,_,rfl⟩
noncomputable def fd604 (w:World):FdAt w 604:=⟨_,_,_,_,rfl⟩
noncomputable def fd609 (w:World):FdAt w 609:=⟨_,_,_,_,rfl⟩
noncomputable def fd616 (w:World):FdAt w 616:=⟨_,_,_,_,rfl⟩
noncomputable def fd623 (w:World):FdAt w 623:=⟨_,_,_,_,rfl⟩
noncomputable def fd628 (w:World):FdAt w 628:=⟨_,_,_,_,rfl⟩
end Mine
end
namespace Mine
local macro_rules | `(tactic| walk_at "mm") => do
 pure (Mine.rp (Mine.fi (Mine.al "assumption" "" "" #[] ++ Mine.al "exact" "Upd.head Pick.here" "" #[] ++ Mine.al "exact" "List.Mem.head Weak.refl LocLe.refl" "_" #[] ++ Mine.al "apply" "List.Mem.tail Upd.tail Weak.drop Pick.there" "" #[] ++ Mine.al "refine" "LocLe.put" "!?" #[])))
local macro_rules | `(tactic| walk_at "pk") => do
 pure (Mine.rp (Mine.fi (Mine.al "exact" "Weak.refl" "_" #[] ++ Mine.al "assumption" "" "" #[] ++ Mine.al "refin" "Weak.pick" "%?" #[] ++ Mine.al "apply" "Weak.drop" "" #[])))
local macro_rules | `(tactic| walk_at "w1") => do
 let l:=Mine.nt "rotateLeft" "rotate_left" #[Lean.mkNullNode]
 let i:=Mine.nt "intros" "intros" #[Lean.mkNullNode]
 let q:=Mine.xr
 let u ← `(tactic| exact ⟨_,rfl⟩)
 let f ← `(tactic| exact ⟨_,fun _ _=> rfl⟩)
 pure (Mine.fi (Mine.al "refine" "zTp" "!!?!" #[] ++ Mine.al "refine" "zIf" "!?" #[]
  ++ Mine.al "refine" "zRm zWm zXl zXk zRo Ex_If zKb zTy zTq zWi zXg zVx zXf zRe zMv zU1 zU0 zRf zS1 zO2 zWl zW1 zVw zRh zWg zWd zXn zWj zPf zWc zTz zW8 zXi" "?" #[]
  ++ Mine.al "refine" "zRu" "<!@?!!" #[] ++ Mine.al "refine" "zRu" ">!@?!!" #[]
  ++ Mine.al "refine" "zO4 zWb zUa" "??" #[l,i,q]
  ++ Mine.al "refine" "zPe zWk zPj zMu zWe zWf" "?!" #[]
  ++ Mine.al "refine" "zRr zPk" "????" #[l,q,q,q]
  ++ Mine.al "refine" "zRz zRy" "!?????" #[l,q,q,q,q]
  ++ Mine.al "refine" "zPl" "!???" #[l,q,q]
  ++ Mine.al "refine" "zTs" "????" #[l,q,q,u.raw]
  ++ Mine.al "refine" "zRv zTr zWt" "??" #[l,Mine.fi #[Mine.sq #[u.raw],Mine.sq #[f.raw]]]
  ++ Mine.al "refine" "zXm zTg" "??" #[l,i,q]))
local macro_rules | `(tactic| walk_at "w") => do pure (Mine.rp (Mine.wk "w1"))
noncomputable abbrev Node:=Str × List Nat
noncomputable def Node.key (x:Node):List Atom:=.s x.1 :: x.2.map fun k:Nat=> Atom.i k
noncomputable def Node.v (x:Node):V:=.tup (.str x.1 :: x.2.map fun k:Nat=> .int k)
section
variable {C:Cx} {m:Loc} {H:AH}
theorem zWs {bk bd nl n:Nat} {fs:Loc} {nodes:List Node} {nd:Node} {Q} (hm:(bk,AObj.inst 206 bd fs) ∈ H) (hf:lk "nodes" fs = some (.ref nl)) (hl:(nl,AObj.list (nodes.map Node.v)) ∈ H) (hn:nodes[n]? = some nd) (hz:nodes.length ≤ 1000) (hk:nd.2.length ≤ 10)
    (hr:0 < C.n) (q:Q (.str nd.1) m H):Cd C m H (.ref 163) [.ref bk,.int n] Q:=by
 refine Cd_fn ["self","n"] (fd163 _).h rfl (vl2 fun _ _=> rfl) rfl rfl hr fun L X=> ?_
 walk_at "w"
 refine zA5 hm hf zBn ?_
 walk_at "w"
 refine zA8 hl (by exact omz) (x:=nd.v) (by simp [hn]) ?_ (by exact omMap ‹_› rfl)
 walk_at "w"
 exact zA4 (by lia) (by simp;exact omT) rfl q
theorem zS6 {bk bd nl n:Nat} {fs:Loc} {nodes:List Node} {nd:Node} {Q} (hm:(bk,AObj.inst 206 bd fs) ∈ H) (hf:lk "nodes" fs = some (.ref nl)) (hl:(nl,AObj.list (nodes.map Node.v)) ∈ H) (hn:nodes[n]? = some nd) (hz:nodes.length ≤ 1000) (hk:nd.2.length ≤ 10)
    (hr:0 < C.n) (q:Q (.tup (nd.2.map fun k:Nat=> .int k)) m H):Cd C m H (.ref 170) [.ref bk,.int n] Q:=by
 refine Cd_fn ["self","n"] (fd170 _).h rfl (vl2 fun _ _=> rfl) rfl rfl hr fun L X=> ?_
 walk_at "w"
 refine zA5 hm hf zBn ?_
 walk_at "w"
 refine zA8 hl (by exact omz) (x:=nd.v) (by simp [hn]) ?_ (by exact omMap ‹_› rfl)
 walk_at "w"
 exact zG5 (a:=1) (by exact om0 rfl) (by exact om0 rfl) (by simp;exact omT) q
theorem zS5 {bk bd nl:Nat} {fs:Loc} {l:List V} {Q} (hm:(bk,AObj.inst 206 bd fs) ∈ H) (hf:lk "nodes" fs = some (.ref nl)) (hl:(nl,AObj.list l) ∈ H) (hz:l.length ≤ 1000)
    (hr:0 < C.n) (q:Q (.int l.length) m H):Cd C m H (.ref 123) [.ref bk] Q:=by
 refine Cd_fn ["self"] (fd123 _).h rfl (vl1 fun _=> rfl) rfl rfl hr fun L X=> ?_
 walk_at "w"
 refine zA5 hm hf zBn ?_
 walk_at "w"
 exact zA2 hl (by exact omT) q
theorem zMs {un ud ab:Nat} {fs:Loc} {l:List V} {Q} (hm:(un,AObj.inst 288 ud fs) ∈ H) (hf:lk "above" fs = some (.ref ab)) (hl:(ab,AObj.list l) ∈ H) (hz:l.length ≤ 1000)
    (hr:0 < C.n) (q:Q (.int l.length) m H):Cd C m H (.ref 238) [.ref un] Q:=by
 refine Cd_fn ["self"] (fd238 _).h rfl (vl1 fun _=> rfl) rfl rfl hr fun L X=> ?_
 walk_at "w"
 refine zA5 hm hf zB0 ?_
 walk_at "w"
 exact zA2 hl (by exact omT) q
end
section
variable {C:Cx} {m:Loc} {H:AH}
theorem zU9 {Q} (hr:1 < C.n) (q:∀ bk bd nl nu we de,Q (.ref bk) m ((de,AObj.list []) :: (we,.list []) :: (nu,.dictT []) :: (nl,.list []) ::
    (bk,.inst 206 bd [("nodes",.ref nl),("numbers",.ref nu),("weights",.ref we),("depths",.ref de)]) :: H)):Cd C m H (.ref 206) [] Q:=by
 refine zKh zV8 zVh zVf (by exact omB) fun A x dx=> ?_
 refine Cd_fn ["self"] rfl rfl (vl1 fun _=> rfl) rfl rfl (by show 0 < C.n - 1;exact omR) fun L X=> ?_
 walk_at "w"
 refine ⟨by exact om0 rfl,fun nl=> ?_⟩
 walk_at "w"
 refine zB9 (by walk_at "mm") zJk ?_ (Nat.le_of_ble_eq_true rfl)
 walk_at "w"
 refine zKf fun nu=> ?_
 walk_at "w"
 refine zB9 (by walk_at "mm") zH8 ?_ (Nat.le_of_ble_eq_true rfl)
 walk_at "w"
 refine ⟨by exact om0 rfl,fun we=> ?_⟩
 walk_at "w"
 refine zB9 (by walk_at "mm") zH7 ?_ (Nat.le_of_ble_eq_true rfl)
 walk_at "w"
 refine ⟨by exact om0 rfl,fun de=> ?_⟩
 walk_at "w"
 refine zB9 (by walk_at "mm") zIi ?_ (Nat.le_of_ble_eq_true rfl)
 walk_at "w"
 exact ⟨rfl,q _ _ _ _ _ _⟩
end
noncomputable def zF8 (c:Str):Bool:=Txt.isspace c || !(Builtin.Str.occurrences "()[]{},:" c 0 (Str.length "()[]{},:") 1).isEmpty
noncomputable def badF:V → Option V
 | .str c=> if zF8 c then some (.str c) else none
 | _=> none
noncomputable def opOk (x:Str):Bool:=!decide (x = "") && decide ((signs x).filterMap badF = [])
noncomputable def ascii (x:Str):Bool:=x.cps.all (· < 128)
section
variable {C:Cx} {m:Loc} {H:AH}
theorem zD9 {x:Str} {Q} (ha:ascii x = true) (hz:x.length ≤ 1000) (hr:0 < C.n) (q:Q (.bool (opOk x)) m H):Cd C m H (.ref 95) [.str x] Q:=by
 refine zAo ["text"] (fd95 _).h rfl (vl1 fun _=> rfl) rfl rfl hr fun L X=> ?_
 walk_at "w"
 refine zBr ?_
 refine zA0 ?_
 refine ⟨fun h1=> ?_,fun h1=> ?_⟩
 ·walk_at "w"
  refine zAe rfl (scOk rfl) ?_ (fun _=> rfl)
  walk_at "w"
  refine zBk badF (zNz ha) trivial (by have:x.cps.size ≤ 1000:=hz;simp [signs];exact omT) (fun L X y hy=> ?_) ?_
  ·obtain ⟨c,rfl⟩:∃ c:Str,y = .str c:=by
     unfold signs at hy
     refine zAi hy fun c _=> ?_
     exact ⟨_,rfl⟩
   walk_at "w"
   refine ⟨_,zL4,?_⟩
   refine zLz ?_
   refine zA0 ?_
   refine ⟨fun h2=> ?_,fun h2=> ?_⟩
   ·walk_at "w"
    refine zPo ?_
    refine zA0 ?_
    refine ⟨fun h3=> ?_,fun h3=> ?_⟩
    ·walk_at "w"
     refine ⟨fun e=> bx e,fun _=> ⟨?_,Weak.refl _⟩⟩
     show (if zF8 c = true then _ else _) = none
     unfold zF8
     rw [h2,h3];rfl
    ·refine ⟨fun _=> ?_,fun e=> bx e⟩
     walk_at "w"
     refine ⟨?_,Weak.refl _⟩
     show (if zF8 c = true then _ else _) = _
     unfold zF8
     rw [h2,h3];rfl
   ·refine ⟨fun _=> ?_,fun e=> bx e⟩
    walk_at "w"
    refine ⟨?_,Weak.refl _⟩
    show (if zF8 c = true then _ else _) = _
    unfold zF8
    rw [h2];rfl
  ·intro D
   walk_at "w"
   refine ⟨by exact om0 rfl,fun E=> ?_⟩
   refine zDw (.tail _ (.head _)) (.head _) ?_ rfl ?_
   ·refine voks_iff.mpr fun v hv=> ?_
    obtain ⟨y,hy,e⟩:=List.mem_filterMap.mp hv
    unfold signs at hy
    obtain ⟨c,_,rfl⟩:=List.mem_map.mp hy
    unfold badF at e
    dsimp only at e
    split at e
    ·cases e
     rename_i hc _
     have:c < 128:=by
      have:=Array.all_eq_true.mp ha
      obtain ⟨i,hi,rfl⟩:=List.mem_iff_getElem.mp hc
      simpa using this i (by simpa using hi)
     show PyData.strOk ⟨#[c]⟩ = true
     unfold PyData.strOk
     simp;exact omTl
    ·exact nS e
   ·refine ⟨H,by walk_at "mm",?_⟩
    unfold opOk at q
    rw [h1,Bool.true_and] at q
    exact q
 ·refine ⟨H,by walk_at "mm",?_⟩
  unfold opOk at q
  rw [h1] at q ⊢
  exact q
end
noncomputable def zE0 (x:Str):Bool:=ascii x && opOk x && decide (x.length ≤ 1000) && decide (x.cps[0]? ≠ some 63) && decide (x.cps.size ≠ 0)
theorem zRb {x:Str} (h:zE0 x = true):ascii x = true ∧ opOk x = true ∧ x.length ≤ 1000 ∧ ∃ c,x.cps[0]? = some c ∧ c ≠ 63:=by
 unfold zE0 at h
 simp only [Bool.and_eq_true,decide_eq_true_eq] at h
 refine bc fun nn=> ?_
 obtain ⟨⟨⟨⟨a,b⟩,c⟩,d⟩,e⟩:=h
 refine nn ?_
 refine ⟨a,b,c,x.cps[0]'(Nat.pos_of_ne_zero e),Array.getElem?_eq_getElem _,fun q=> d ?_⟩
 rw [Array.getElem?_eq_getElem (Nat.pos_of_ne_zero e),q]
set_option genInjectivity false in
structure BkA where
 (bk bd nl nu we de:Addr)
noncomputable def zHd (nodes:List Node):List (List Atom × V):=nodes.zipIdx.map fun p=> (p.1.key,.int p.2)
noncomputable def ilist (l:List Int):List V:=l.map V.int
noncomputable abbrev BkH (r:BkA) (nodes:List Node) (ws ds:List Int) (K:AH):AH :=
 (r.bk,.inst 206 r.bd [("nodes",.ref r.nl),("numbers",.ref r.nu),("weights",.ref r.we),("depths",.ref r.de)]) :: (r.nl,.list (nodes.map Node.v)) :: (r.nu,.dictT (zHd nodes)) ::
 (r.we,.list (ilist ws)) :: (r.de,.list (ilist ds)) :: K
section
variable {C:Cx} {m:Loc} {H:AH}
theorem zM1 {bk:Addr} {x:Str} {Q} (hx:zE0 x = true) (hr:1 < C.n) (q:Q .none m H):Cd C m H (.ref 135) [.ref bk,.str x] Q:=by
 refine bc fun nn=> ?_
 obtain ⟨ha,ho,hz,c,hc,hne⟩:=zRb hx
 refine nn ?_
 refine zAo ["self","op"] (fd135 _).h rfl (vl2 fun _ _=> rfl) rfl rfl (by exact omB) fun L X=> ?_
 walk_at "w"
 refine Cd.call (zD9 ha hz (by show 0 < C.n - 1;exact omR) ?_)
 rw [ho]
 refine zA0 ?_
 refine ⟨fun _=> ?_,fun e=> bx e⟩
 walk_at "w"
 refine zK9 (j:=0) (c:=c) ?_ (by lia) (by lia) hc ?_
 ·have:0 < x.length:=(Array.getElem?_eq_some_iff.mp hc).1
  unfold seqIndex?
  simp;with_reducible exact Nat.ne_of_gt (by walk_at "a")
 walk_at "w"
 refine zA6 ?_
 refine zA0 ?_
 have:decide ((⟨#[c]⟩:Str) = "?") = false:=by
  refine decide_eq_false fun e=> hne ?_
  have e:=congrArg (fun s:Str=> s.cps[0]?) e
  have e:some c = (Str.ofString "?").cps[0]?:=by simpa using e
  rw [show (Str.ofString "?").cps[0]? = some 63 by decide] at e
  exact Option.some.inj e
 rw [this]
 refine ⟨fun _=> ?_,fun e=> bx e⟩
 walk_at "w"
 refine ⟨fun e=> bx e,fun _=> ?_⟩
 walk_at "w"
 exact ⟨H,by walk_at "mm",q⟩
theorem zHf (nd:Node):(V.str nd.1 :: nd.2.map fun k:Nat=> V.int k) = nd.key.map Atom.v:=by
 unfold Node.key
 rw [List.map_cons,List.map_map];rfl
theorem Node.key_inj {a b:Node} (h:a.key = b.key):a = b:=by
 unfold Node.key at h
 simp only [List.cons.injEq,Atom.s.injEq] at h
 obtain ⟨a1,a2⟩:=a
 obtain ⟨b1,b2⟩:=b
 obtain ⟨h1,h2⟩:=h
 dsimp only at h1 h2
 subst h1
 congr 1
 exact List.map_inj_right (f:=fun k:Nat=> Atom.i k) (fun x y e=> by injection e with e;exact Int.ofNat_inj.mp e) |>.mp h2
theorem zF3 {nodes:List Node} {nd:Node} (h:nd ∉ nodes):dget nd.key (zHd nodes) = none:=by
 rw [dget_none]
 unfold zHd
 rw [List.map_map]
 intro hm
 obtain ⟨p,hp,e⟩:=List.mem_map.mp hm
 have:=(List.mem_zipIdx hp).2.2
 have e:p.1.key = nd.key:=e
 exact h (Node.key_inj e ▸ (by rw [this];exact List.getElem_mem _))
theorem zOp {nodes:List Node} {nd:Node} (h:nd ∉ nodes):dput nd.key (V.int nodes.length) (zHd nodes) = zHd (nodes ++ [nd]):=by
 have gen:∀ (l:List (List Atom × V)) (k:List Atom) (v:V),dget k l = none → dput k v l = l ++ [(k,v)]:=by
  intro l
  induction l with
  | nil=> intro k v _;rfl
  | cons p r ih =>
   intro k v h
   obtain ⟨y,u⟩:=p
   rw [zAv] at h
   split at h
   ·exact sN h
   ·rename_i hne
    rw [zDl]
    rw [if_neg hne,ih k v h];rfl
 rw [gen _ _ _ (zF3 h)]
 unfold zHd
 rw [List.zipIdx_append,List.map_append]
 simp
noncomputable def pickI (ws:List Int):V → Option V
 | .int k=> some (.int (ws.getD k.toNat 0))
 | _=> none
theorem zH2 (ws:List Int):∀ l:List Nat,(l.map fun k:Nat=> V.int k).filterMap (pickI ws) = ilist (l.map fun k=> ws.getD k 0)
 | []=> rfl
 | k :: r=> by
  have ih:=zH2 ws r
  show List.filterMap (pickI ws) (V.int k :: (r.map fun k:Nat=> V.int k)) = _
  rw [List.filterMap_cons_some (f:=pickI ws) (a:=V.int k) (b:=V.int (ws.getD k 0)) rfl,ih];rfl
theorem zLb {ws:List Int} {k:Nat} (h:k < ws.length):(ilist ws)[(k:Int).toNat]? = some (.int (ws.getD k 0)):=by
 unfold ilist
 rw [Int.toNat_natCast,List.getElem?_map,List.getElem?_eq_getElem h,List.getD_eq_getElem?_getD,List.getElem?_eq_getElem h];rfl
theorem zS4 {r:BkA} {nodes:List Node} {ws ds:List Int} {K:AH} {nd:Node} {Q} (hx:zE0 nd.1 = true) (hnew:nd ∉ nodes) (hk:∀ k ∈ nd.2,k < nodes.length) (hkl:nd.2.length ≤ 10) (hz:nodes.length ≤ 100) (hw:ws.length = nodes.length) (hd:ds.length = nodes.length)
    (hr:2 < C.n) (q:∀ a b,Q (.int nodes.length) m (BkH r (nodes ++ [nd]) (ws ++ [a]) (ds ++ [b]) K)):Cd C m (BkH r nodes ws ds K) (.ref 128) [.ref r.bk,.str nd.1,.tup (nd.2.map fun k:Nat=> .int k)] Q:=by
 refine zD2 ["self","op","kids"] (fd128 _).h rfl (vl3 fun _ _ _=> rfl) rfl (fun _=> rfl) (fun _=> rfl) (fun _=> rfl) rfl (by exact omB) fun L X=> ?_
 change Ex _ [("op",.str nd.1),("kids",.tup (nd.2.map fun k:Nat=> .int k))] ((L + 1,.cell (some (.ref r.bk))) :: BkH r nodes ws ds K) _ _
 walk_at "w"
 refine ⟨by exact om0 rfl,?_⟩
 walk_at "w"
 refine zEx ?_
 refine zId (by simp;with_reducible exact omA2 (by walk_at "a") (by walk_at "r")) ?_
 walk_at "w"
 refine zA5 (by walk_at "mm") rfl zE2 ?_
 refine zKg (by walk_at "mm") (zHf nd) ?_
 rw [zF3 hnew]
 refine zA0 ⟨fun e=> bx e,fun _=> ?_⟩
 walk_at "w"
 refine ⟨_,zA1 (by walk_at "mm") zHc rfl,?_⟩
 walk_at "w"
 refine Cd.call (zM1 hx (by show 1 < C.n - 1;exact omR) ?_)
 walk_at "w"
 refine zKd ?_ (fun _=> rfl)
 walk_at "w"
 refine zG5 (a:=1) (by exact om0 rfl) (by exact om0 rfl) (by simp;exact omT) ?_
 refine ⟨nd.2.map fun k:Nat=> .int k,_,_,zBg,trivial,fun X x hx=> ?_,?_⟩
 ·refine zAi hx fun k hk'=> ?_
  have hlt:=hk k hk'
  walk_at "w"
  refine zLw ?_
  refine zA0 ⟨fun _=> ?_,fun e=> by simp at e⟩
  walk_at "w"
  refine zA5 (by walk_at "mm") rfl zBn ?_
  walk_at "w"
  refine zA2 (by walk_at "mm") (by exact omMap ‹_› rfl) ?_
  refine zEh ?_
  refine zA0 ?_
  refine ⟨fun e=> by simp at e;lia,fun _=> ?_⟩
  walk_at "w"
  exact ⟨.inl rfl,by walk_at "mm",by walk_at "mm"⟩
 walk_at "w"
 refine zA5 (by walk_at "mm") rfl zBn ?_
 walk_at "w"
 refine zA2 (by walk_at "mm") (by exact omMap ‹_› rfl) ?_
 walk_at "w"
 refine zA5 (by walk_at "mm") rfl zE2 ?_
 walk_at "w"
 refine zMx (by walk_at "mm") (zHf nd) (zF3 hnew) (by simp [zHd];exact omT) ?_
 rw [List.length_map,zOp hnew]
 walk_at "w"
 refine zA5 (by walk_at "mm") rfl zBn ?_
 refine ⟨_,zAm (by walk_at "mm"),?_⟩
 walk_at "w"
 refine zAn (by walk_at "mm") (by exact omMap ‹_› rfl) ?_
 walk_at "w"
 refine zA5 (by walk_at "mm") rfl zE1 ?_
 refine ⟨_,zAm (by walk_at "mm"),?_⟩
 walk_at "w"
 refine zAe rfl (scOk rfl) ?_ (fun _=> rfl)
 walk_at "w"
 refine zG5 (a:=1) (by exact om0 rfl) (by exact om0 rfl) (by simp;exact omT) ?_
 refine zBk (pickI ws) (xs:=nd.2.map fun k:Nat=> .int k) zBg trivial (by exact omMap ‹_› rfl) (fun L X x hx=> ?_) ?_
 ·refine zAi hx fun k hk'=> ?_
  have hlt:=hk k hk'
  walk_at "w"
  refine ⟨fun _=> ?_,fun e=> bx e⟩
  walk_at "w"
  refine zA5 (by walk_at "mm") rfl zE1 ?_
  walk_at "w"
  refine zA8 (by walk_at "mm") (by exact omz) (zLb (by exact omM)) ?_ (by simp [ilist];exact omE)
  exact ⟨rfl,by walk_at "mm"⟩
 rw [zH2]
 intro D
 walk_at "w"
 refine zU6 (.head _) fun s1=> ?_
 refine zDx ?_
 walk_at "w"
 refine zAn (by walk_at "mm") (by simp [ilist];exact omE) ?_
 walk_at "w"
 refine zA5 (by walk_at "mm") rfl zEr ?_
 refine ⟨_,zAm (by walk_at "mm"),?_⟩
 walk_at "w"
 refine zAe rfl (scOk rfl) ?_ (fun _=> rfl)
 walk_at "w"
 refine zG5 (a:=1) (by exact om0 rfl) (by exact om0 rfl) (by simp;exact omT) ?_
 refine zBk (pickI ds) (xs:=nd.2.map fun k:Nat=> .int k) zBg trivial (by exact omMap ‹_› rfl) (fun L X x hx=> ?_) ?_
 ·refine zAi hx fun k hk'=> ?_
  have hlt:=hk k hk'
  walk_at "w"
  refine ⟨fun _=> ?_,fun e=> bx e⟩
  walk_at "w"
  refine zA5 (by walk_at "mm") rfl zEr ?_
  walk_at "w"
  refine zA8 (by walk_at "mm") (by exact omz) (zLb (by exact omM)) ?_ (by simp [ilist];exact omE)
  exact ⟨rfl,by walk_at "mm"⟩
 rw [zH2]
 intro D2
 walk_at "w"
 refine ⟨by exact om0 rfl,fun D3=> ?_⟩
 refine zDa (l₂:=ilist [0]) (by walk_at "mm") (by walk_at "mm") (by simp [ilist];exact omT) fun D4=> ?_
 walk_at "w"
 rw [show ilist (nd.2.map fun k=> ds.getD k 0) ++ ilist [0] = ((nd.2.map fun k=> ds.getD k 0) ++ [0]).map V.int by simp [ilist]]
 refine zU8 (.head _) (by simp) fun s2=> ?_
 refine zDx ?_
 walk_at "w"
 refine zAn (by walk_at "mm") (by simp [ilist];exact omE) ?_
 walk_at "w"
 refine zA5 (by walk_at "mm") rfl zBn ?_
 walk_at "w"
 refine zA2 (by walk_at "mm") (by simp;exact omT) ?_
 walk_at "w"
 refine zN5 ?_
 refine ⟨BkH r (nodes ++ [nd]) (ws ++ [1 + s1]) (ds ++ [1 + s2]) K,?_,?_⟩
 ·simp only [BkH,List.map_append,ilist,List.map_cons,List.map_nil]
  walk_at "mm"
 ·have e:((List.length (nodes.map Node.v ++ [V.tup ([V.str nd.1] ++ nd.2.map fun k:Nat=> V.int k)]):Nat):Int) - 1 = (nodes.length:Nat):=by simp
  show Q (.int _) m _
  rw [e]
  exact q _ _
end
set_option genInjectivity false in
structure UnA where
 (un ud ab lt mg:Addr)
noncomputable def nl (l:List Nat):List V:=l.map fun k:Nat=> .int k
theorem zAq (l:List Nat):(nl l).length = l.length:=by simp [nl]
theorem zUe {l:List Nat} {i x:Nat} (h:l[i]? = some x):(nl l)[(i:Int).toNat]? = some (.int x):=by
 unfold nl
 rw [Int.toNat_natCast,List.getElem?_map,h];rfl
noncomputable def lotO (p:Addr × List V):Addr × AObj:=(p.1,.list p.2)
noncomputable abbrev UnH (r:UnA) (par:List Nat) (lots:List (Addr × List V)) (mgd:List V) (K:AH):AH :=
 (r.un,.inst 288 r.ud [("above",.ref r.ab),("lots",.ref r.lt),("merged",.ref r.mg)]) :: (r.ab,.list (nl par)) :: (r.lt,.list (lots.map fun p=> .ref p.1)) :: (r.mg,.list mgd) :: (lots.map lotO ++ K)
noncomputable def ParOk (par:List Nat):Prop:=∀ (i x:Nat),par[i]? = some x → x ≤ i
noncomputable def rootN (par:List Nat):Nat → Nat → Nat
 | 0,a=> a
 | n + 1,a=> if par.getD a a = a then a else rootN par n (par.getD a a)
noncomputable def root (par:List Nat) (a:Nat):Nat:=rootN par a a
theorem zF6 {par:List Nat} (h:ParOk par) (a:Nat):par.getD a a ≤ a:=by
 rw [List.getD_eq_getElem?_getD]
 cases q:par[a]? with
 | none=> exact Nat.le_refl _
 | some x=> exact h a x q
theorem zFt {par:List Nat} {n a:Nat}:rootN par (n + 1) a = if par.getD a a = a then a else rootN par n (par.getD a a):=rfl
theorem zSj {par:List Nat} (h:ParOk par):∀ n a,a ≤ n → rootN par n a = rootN par a a:=by
 intro n
 induction n using Nat.strongRecOn with
 | ind n ih =>
 intro a ha
 cases n with
 | zero=> rw [Nat.le_zero.mp ha]
 | succ n =>
  by_cases q:a = n + 1
  ·rw [q]
  ·have:=zF6 h a
   cases a with
   | zero=> rw [zFt,if_pos (Nat.le_zero.mp this)];rfl
   | succ a =>
    rw [zFt,zFt]
    by_cases e:par.getD (a + 1) (a + 1) = a + 1
    ·rw [if_pos e,if_pos e]
    ·rw [if_neg e,if_neg e,ih n (Nat.lt_succ_self n) _ (by lia),ih a (by lia) _ (by lia)]
theorem zCt {par:List Nat} (h:ParOk par) (a:Nat):root par a = if par.getD a a = a then a else root par (par.getD a a):=by
 have:=zF6 h a
 unfold root
 cases a with
 | zero =>
  have e:par.getD 0 0 = 0:=by lia
  rw [if_pos e];rfl
 | succ a =>
  rw [show rootN par (a + 1) (a + 1) = if par.getD (a + 1) (a + 1) = a + 1 then a + 1 else rootN par a (par.getD (a + 1) (a + 1)) from rfl]
  split
  ·rfl
  ·exact zSj h a _ (by lia)
theorem zFs {par:List Nat} (h:ParOk par):∀ a,root par a ≤ a:=by
 intro a
 induction a using Nat.strongRecOn with
 | _ a ih =>
  rw [zCt h]
  have:=zF6 h a
  split
  ·exact Nat.le_refl _
  ·exact Nat.le_trans (ih _ (by with_reducible exact Nat.lt_of_le_of_ne (by walk_at "a") (by walk_at "a"))) (by assumption)
theorem zCd {par:List Nat} (h:ParOk par):∀ a,par.getD (root par a) (root par a) = root par a:=by
 intro a
 induction a using Nat.strongRecOn with
 | _ a ih =>
  have:=zF6 h a
  by_cases e:par.getD a a = a
  ·rw [zCt h,if_pos e];exact e
  ·rw [zCt h,if_neg e];exact ih _ (by with_reducible exact Nat.lt_of_le_of_ne (by walk_at "a") (by walk_at "a"))
theorem zVv {α:Type} {f:α → Addr × AObj} {a:Addr} {o o':AObj} {K:AH} {y:α}:∀ {L:List α} {i:Nat} {x:α},L[i]? = some x → f x = (a,o) → f y = (a,o') → Upd a o o' (L.map f ++ K) ((L.set i y).map f ++ K):=by
 intro L
 induction L with
 | nil=> intro i x hx;rw [List.getElem?_nil] at hx;exact nS hx
 | cons z L ih =>
 intro i
 cases i with
 | zero =>
  intro x hx e e'
  cases hx
  show Upd a o o' (f z :: (L.map f ++ K)) (f y :: (L.map f ++ K))
  rw [e,e'];exact .head
 | succ i=> intro x hx e e';exact .tail (ih hx e e')
section
variable {C:Cx} {m:Loc} {H:AH}
theorem zPd {Q} (hr:1 < C.n) (q:∀ r,Q (.ref r.un) m (UnH r [] [] [] H)):Cd C m H (.ref 288) [] Q:=by
 refine zKh zQh zQq zQp (by exact omB) fun A x dx=> ?_
 refine zAo ["self"] rfl rfl (vl1 fun _=> rfl) rfl rfl (by show 0 < C.n - 1;exact omR) fun L X=> ?_
 walk_at "w"
 refine ⟨by exact om0 rfl,fun ab=> ?_⟩
 walk_at "w"
 refine zB9 (by walk_at "mm") zH6 ?_ (Nat.le_of_ble_eq_true rfl)
 walk_at "w"
 refine ⟨by exact om0 rfl,fun lt=> ?_⟩
 walk_at "w"
 refine zB9 (by walk_at "mm") zIh ?_ (Nat.le_of_ble_eq_true rfl)
 walk_at "w"
 refine ⟨by exact om0 rfl,fun mg=> ?_⟩
 walk_at "w"
 refine zB9 (by walk_at "mm") zGj ?_ (Nat.le_of_ble_eq_true rfl)
 walk_at "w"
 exact ⟨UnH ⟨x,dx,ab,lt,mg⟩ [] [] [] H,by walk_at "pk",rfl,q ⟨x,dx,ab,lt,mg⟩⟩
end
section
variable {C:Cx} {m:Loc} {H:AH}
theorem zMt {r:UnA} {par:List Nat} {lots:List (Addr × List V)} {mgd:List V} {K:AH} {Q} (hz:par.length ≤ 100) (hl:lots.length = par.length) (hr:0 < C.n)
    (q:∀ a x,Q (.int par.length) m (UnH r (par ++ [par.length]) (lots ++ [(a,[x])]) mgd K)):Cd C m (UnH r par lots mgd K) (.ref 231) [.ref r.un] Q:=by
 refine zAo ["self"] (fd231 _).h rfl (vl1 fun _=> rfl) rfl rfl (by assumption) fun L X=> ?_
 walk_at "w"
 refine zA5 (by walk_at "mm") rfl zB0 ?_
 refine ⟨_,zAm (by walk_at "mm"),?_⟩
 walk_at "w"
 refine zA5 (by walk_at "mm") rfl zB0 ?_
 walk_at "w"
 refine zA2 (by walk_at "mm") (by simp [nl];exact omT) ?_
 walk_at "w"
 refine zAn (by walk_at "mm") (by simp [nl];exact omT) ?_
 walk_at "w"
 refine zA5 (by walk_at "mm") rfl zCe ?_
 refine ⟨_,zAm (by walk_at "mm"),?_⟩
 walk_at "w"
 refine zA5 (by walk_at "mm") rfl zCe ?_
 walk_at "w"
 refine zA2 (by walk_at "mm") (by simp;exact omE) ?_
 walk_at "w"
 refine ⟨by exact om0 rfl,fun a=> ?_⟩
 walk_at "w"
 refine zAn (by walk_at "mm") (by simp;exact omE) ?_
 walk_at "w"
 refine zA5 (by walk_at "mm") rfl zB0 ?_
 walk_at "w"
 refine zA2 (by walk_at "mm") (by simp [nl];exact omT) ?_
 walk_at "w"
 refine zN5 ?_
 have e:((nl par ++ [V.int (nl par).length]).length:Int) - 1 = (par.length:Nat):=by simp [nl]
 rw [e]
 refine ⟨_,?_,q a (V.int lots.length)⟩
 have e1:nl (par ++ [par.length]) = nl par ++ [V.int (nl par).length]:=by simp [nl]
 have e2:((lots ++ [(a,[V.int lots.length])]).map lotO ++ K) = lots.map lotO ++ (a,.list [V.int lots.length]) :: K:=by simp [lotO]
 have e3:(lots ++ [(a,[V.int lots.length])]).map (fun p=> V.ref p.1) = lots.map (fun p=> V.ref p.1) ++ [V.ref a]:=by simp
 simp only [UnH]
 rw [e1,e2,e3]
 refine Weak.trans (H':=_ :: _ :: _ :: _ :: (a,.list [V.int lots.length]) :: (lots.map lotO ++ K)) ?_ (Weak.mid.cons.cons.cons.cons)
 rw [List.length_map]
 walk_at "pk"
theorem zF9 {un ud ab:Addr} {fs:Loc} {par:List Nat} {a:Nat} {Q} (hm:(un,AObj.inst 288 ud fs) ∈ H) (hf:lk "above" fs = some (.ref ab)) (hl:(ab,AObj.list (nl par)) ∈ H) (hp:ParOk par) (ha:a < par.length) (hz:par.length ≤ 100)
    (hr:0 < C.n) (q:Q (.int (root par a)) m H):Cd C m H (.ref 245) [.ref un,.int a] Q:=by
 refine zAo ["self","a"] (fd245 _).h rfl (vl2 fun _ _=> rfl) rfl rfl (by assumption) fun L X=> ?_
 refine zKc (fun n m' H'=> H' = H ∧ n < par.length ∧ root par n = root par a ∧ m' = ([("self",V.ref un),("a",V.int n)]:Loc)) a ⟨rfl,ha,rfl,rfl⟩ fun X n m' H' hI=> ?_
 obtain ⟨rfl,hn,hroot,rfl⟩:=hI
 have hget:par[n]? = some (par.getD n n):=by rw [List.getD_eq_getElem?_getD,List.getElem?_eq_getElem hn];rfl
 walk_at "w"
 refine zA5 hm hf zB0 ?_
 walk_at "w"
 refine zA8 hl (by exact omz) (zUe hget) ?_ (by simp [nl];exact omT)
 walk_at "w"
 refine zAh ?_
 refine zA0 ⟨fun h1=> ?_,fun h1=> ?_⟩
 ·have h1:par.getD n n ≠ n:=fun e=> by rw [e] at h1;simp at h1
  walk_at "w"
  refine zA5 hm hf zB0 ?_
  walk_at "w"
  refine zA8 hl (by exact omz) (zUe hget) ?_ (by simp [nl];exact omT)
  walk_at "w"
  have le:=zF6 hp n
  refine ⟨par.getD n n,by with_reducible exact Nat.lt_of_le_of_ne (by walk_at "a") (by walk_at "a"),rfl,by with_reducible exact Nat.lt_of_le_of_lt (by walk_at "a") (by walk_at "a"),?_,rfl⟩
  rw [← hroot,zCt hp n,if_neg h1]
 ·have h1:par.getD n n = n:=by
    rw [Bool.not_eq_false'] at h1
    exact Int.ofNat_inj.mp (of_decide_eq_true h1)
  walk_at "w"
  refine ⟨H',Weak.refl _,?_⟩
  rw [← hroot,zCt hp n,if_pos h1] at q
  exact q
theorem zQ3 {x y:Nat} {ms:List Int} (p:ms.Perm [(x:Int),(y:Int)]) (s:ms.Pairwise (· ≤ ·)):ms = [((min x y:Nat):Int),((max x y:Nat):Int)]:=by
 rcases Nat.le_total x y with h | h
 ·rw [Nat.min_eq_left h,Nat.max_eq_right h]
  exact p.eq_of_pairwise (fun _ _ _ _=> Int.le_antisymm) s (by simpa using h)
 ·rw [Nat.min_eq_right h,Nat.max_eq_left h]
  exact (p.trans (List.Perm.swap _ _ _)).eq_of_pairwise (fun _ _ _ _=> Int.le_antisymm) s (by simpa using h)
theorem zLm {r:UnA} {par:List Nat} {lots:List (Addr × List V)} {mgd:List V} {K:AH} {a b:Nat} {Q} (hp:ParOk par) (hz:par.length ≤ 100) (hl:lots.length = par.length) (hlz:∀ p ∈ lots,p.2.length ≤ 2 ^ mgd.length) (hmz:mgd.length ≤ 18) (ha:a < par.length) (hb:b < par.length) (hr:1 < C.n)
    (q1:root par a = root par b → Q .none m (UnH r par lots mgd K))
    (q2:root par a ≠ root par b → ∀ lots',lots'.map (·.1) = lots.map (·.1) → (∀ p ∈ lots',p.2.length ≤ 2 ^ (mgd.length + 1)) → ∀ x,Q (.tup [.int (min (root par a) (root par b):Nat),.int (max (root par a) (root par b):Nat)]) m (UnH r (par.set (max (root par a) (root par b)) (min (root par a) (root par b))) lots' (mgd ++ [x]) K)) :
    Cd C m (UnH r par lots mgd K) (.ref 252) [.ref r.un,.int a,.int b] Q:=by
 have la:=zFs hp a
 have lb:=zFs hp b
 refine zAo ["self","a","b"] (fd252 _).h rfl (vl3 fun _ _ _=> rfl) rfl rfl (by exact omB) fun L X=> ?_
 walk_at "w"
 refine ⟨_,zA1 (.head _) zDc rfl,?_⟩
 walk_at "w"
 refine Cd.call (zF9 (.head _) rfl (.tail _ (.head _)) hp ha hz (by show 0 < C.n - 1;exact omR) ?_)
 walk_at "w"
 refine ⟨_,zA1 (.head _) zDc rfl,?_⟩
 walk_at "w"
 refine Cd.call (zF9 (.head _) rfl (.tail _ (.head _)) hp hb hz (by show 0 < C.n - 1;exact omR) ?_)
 walk_at "w"
 refine ⟨by exact om0 rfl,fun D1=> ?_⟩
 walk_at "w"
 refine zIa (ns:=[((root par a:Nat):Int),((root par b:Nat):Int)]) (.head _) (by exact om0 rfl) fun D2 ms pm sm=> ?_
 rw [zQ3 pm sm]
 refine zAl (a:=.int (min (root par a) (root par b):Nat)) (b:=.int (max (root par a) (root par b):Nat)) (.head _) ?_
 walk_at "w"
 have hkg:min (root par a) (root par b) ≤ max (root par a) (root par b):=by lia
 have hg:max (root par a) (root par b) < par.length:=by lia
 generalize hkk:min (root par a) (root par b) = k at *
 generalize hgg:max (root par a) (root par b) = g at *
 have hk:k < par.length:=by with_reducible exact Nat.lt_of_le_of_lt (by walk_at "a") (by walk_at "a")
 refine zB5 ?_
 refine zA0 ⟨fun e=> ?_,fun e=> ?_⟩
 ·have e:=Int.ofNat_inj.mp (of_decide_eq_true e)
  walk_at "w"
  exact ⟨UnH r par lots mgd K,by walk_at "mm",q1 (by lia)⟩
 ·have e:k ≠ g:=fun q=> by rw [q] at e;simp at e
  have hne:root par a ≠ root par b:=by lia
  refine bc fun nn=> ?_
  obtain ⟨⟨ak,lk'⟩,hlk⟩:∃ p,lots[k]? = some p:=⟨_,List.getElem?_eq_getElem (by exact omM)⟩
  obtain ⟨⟨ag,lg'⟩,hlg⟩:∃ p,lots[g]? = some p:=⟨_,List.getElem?_eq_getElem (by exact omM)⟩
  refine nn ?_
  have zk:lk'.length ≤ 2 ^ mgd.length:=hlz _ (List.mem_of_getElem? hlk)
  have zg:lg'.length ≤ 2 ^ mgd.length:=hlz _ (List.mem_of_getElem? hlg)
  have z18:2 ^ mgd.length ≤ 262144:=Nat.le_trans (Nat.pow_le_pow_right (by exact om0 rfl) hmz) (by decide)
  have mk:(ak,AObj.list lk') ∈ lots.map lotO ++ K:=List.mem_append_left _ (List.mem_map.mpr ⟨_,List.mem_of_getElem? hlk,rfl⟩)
  have mg:(ag,AObj.list lg') ∈ lots.map lotO ++ K:=List.mem_append_left _ (List.mem_map.mpr ⟨_,List.mem_of_getElem? hlg,rfl⟩)
  walk_at "w"
  refine zA5 (by walk_at "mm") rfl zB0 ?_
  walk_at "w"
  refine zRg (by walk_at "mm") (by exact omz) (by simp [nl];assumption) (by simp [nl];exact omT) ?_
  walk_at "w"
  refine zA5 (by walk_at "mm") rfl zCe ?_
  walk_at "w"
  refine zA8 (by walk_at "mm") (by exact omz) (x:=.ref ak) (by rw [Int.toNat_natCast,List.getElem?_map,hlk];rfl) ?_ (by simp;exact omE)
  refine ⟨_,zHg (l:=lk') (by walk_at "mm"),?_⟩
  walk_at "w"
  refine zA5 (by walk_at "mm") rfl zCe ?_
  walk_at "w"
  refine zA8 (by walk_at "mm") (by exact omz) (x:=.ref ag) (by rw [Int.toNat_natCast,List.getElem?_map,hlg];rfl) ?_ (by simp;exact omE)
  walk_at "w"
  refine zIb (l:=lk') (l₂:=lg') (.tail (.tail (.tail (.tail (.tail (.tail (zVv (y:=(ak,lk' ++ lg')) hlk rfl rfl))))))) (by walk_at "mm") (by lia) ?_
  walk_at "w"
  refine zA5 (by walk_at "mm") rfl zGl ?_
  refine ⟨_,zAm (by walk_at "mm"),?_⟩
  walk_at "w"
  refine ⟨by exact om0 rfl,?_⟩
  walk_at "w"
  refine zAn (by walk_at "mm") (by exact omT) ?_
  walk_at "w"
  refine ⟨by exact om0 rfl,?_⟩
  have hset:(nl par).set ((g:Nat):Int).toNat (V.int k) = nl (par.set g k):=by
   unfold nl
   rw [Int.toNat_natCast,List.map_set]
  have hfst:(lots.set k (ak,lk' ++ lg')).map (·.1) = lots.map (·.1):=by
   rw [List.map_set]
   refine List.ext_getElem? fun i=> ?_
   rw [List.getElem?_set]
   split
   ·rename_i q
    subst q
    rw [List.getElem?_map,hlk]
    rw [if_pos (by simp;exact omM)];rfl
   ·rfl
  refine ⟨_,?_,q2 hne (lots.set k (ak,lk' ++ lg')) hfst (fun p hp'=> ?_) (.tup [.int k,.int g])⟩
  ·have hr':(lots.set k (ak,lk' ++ lg')).map (fun p=> V.ref p.1) = lots.map (fun p=> V.ref p.1):=by
     have:=congrArg (List.map V.ref) hfst
     rw [List.map_map,List.map_map] at this
     exact this
   simp only [UnH]
   rw [hset,hr']
   walk_at "mm"
  ·rcases List.mem_or_eq_of_mem_set hp' with h | h
   ·have:=hlz p h
    rw [Nat.pow_succ];lia
   ·subst h
    simp only [List.length_append]
    rw [Nat.pow_succ];lia
end
set_option genInjectivity false in
structure WrA where
 (w wd ed fo kn av wa ro:Addr)
 (b:BkA)
 (u:UnA)
set_option genInjectivity false in
structure Hs where
 nodes:List Node
 par:List Nat
 edges:List V
 known:List (Node × Nat)
 above:List (Nat × List Nat)
 waiting:List Nat
 rows:List V
set_option genInjectivity false in
structure Jk where
 ws:List Int
 ds:List Int
 lots:List (Addr × List V)
 mgd:List V
 forest:List V
 abv:List (Nat × Addr × List Nat)
noncomputable def wfs (r:WrA):Loc:=[("bank",.ref r.b.bk),("unions",.ref r.u.un),("edges",.ref r.ed),("forest",.ref r.fo),("known",.ref r.kn),("above",.ref r.av),("waiting",.ref r.wa),("backs",.int 0),("rows",.ref r.ro)]
noncomputable def knO (l:List (Node × Nat)):List (List Atom × V):=l.map fun p=> (p.1.key,.int p.2)
noncomputable def avK (l:List (Nat × Addr × List Nat)):List (Atom × V):=l.map fun p=> (.i p.1,.ref p.2.1)
noncomputable def avO (p:Nat × Addr × List Nat):Addr × AObj:=(p.2.1,.list (nl p.2.2))
noncomputable abbrev HpH (r:WrA) (σ:Hs) (j:Jk) (K:AH):AH :=
 (r.w,.inst 474 r.wd (wfs r)) :: (r.ed,.list σ.edges) :: (r.fo,.list j.forest) :: (r.kn,.dictT (knO σ.known)) :: (r.av,.dictA (avK j.abv)) :: (r.wa,.list (nl σ.waiting)) :: (r.ro,.list σ.rows) ::
 BkH r.b σ.nodes j.ws j.ds (UnH r.u σ.par j.lots j.mgd (j.abv.map avO ++ K))
noncomputable def zJ5 (nodes:List Node):Prop:=∀ nd ∈ nodes,nd.2.length ≤ 4 ∧ ∀ k ∈ nd.2,k < nodes.length
structure HAt (H:AH) (r:WrA) (nodes:List Node) (par:List Nat):Prop where
 w:(r.w,AObj.inst 474 r.wd (wfs r)) ∈ H
 bk:(r.b.bk,AObj.inst 206 r.b.bd [("nodes",.ref r.b.nl),("numbers",.ref r.b.nu),("weights",.ref r.b.we),("depths",.ref r.b.de)]) ∈ H
 nl:(r.b.nl,AObj.list (nodes.map Node.v)) ∈ H
 un:(r.u.un,AObj.inst 288 r.u.ud [("above",.ref r.u.ab),("lots",.ref r.u.lt),("merged",.ref r.u.mg)]) ∈ H
 ab:(r.u.ab,AObj.list (Mine.nl par)) ∈ H
theorem HAt.cons {H:AH} {r:WrA} {nodes:List Node} {par:List Nat} {p:Addr × AObj} (h:HAt H r nodes par):HAt (p :: H) r nodes par:=⟨.tail _ h.w,.tail _ h.bk,.tail _ h.nl,.tail _ h.un,.tail _ h.ab⟩
theorem HAt.of {r:WrA} {σ:Hs} {j:Jk} {K:AH}:HAt (HpH r σ j K) r σ.nodes σ.par:=⟨by walk_at "mm",by walk_at "mm",by walk_at "mm",by walk_at "mm",by walk_at "mm"⟩
section
variable {C:Cx} {m:Loc} {H:AH}
theorem zBb {r:WrA} {nodes:List Node} {par:List Nat} {a:Nat} {Q} (h:HAt H r nodes par) (hp:ParOk par) (ha:a < par.length) (hz:par.length ≤ 100) (hr:1 < C.n) (q:Q (.int (root par a)) m H):Cd C m H (.ref 344) [.ref r.w,.int a] Q:=by
 refine zAo ["self","n"] (fd344 _).h rfl (vl2 fun _ _=> rfl) rfl rfl (by exact omB) fun L X=> ?_
 walk_at "w"
 refine zA5 h.w rfl zBt ?_
 refine ⟨_,zA1 h.un zDc rfl,?_⟩
 walk_at "w"
 refine Cd.call (zF9 h.un rfl h.ab hp ha hz (by show 0 < C.n - 1;exact omR) ?_)
 exact ⟨H,Weak.refl _,q⟩
theorem zD1 {r:WrA} {nodes:List Node} {par:List Nat} {Q} (h:HAt H r nodes par) (hz:nodes.length ≤ 100) (hr:1 < C.n) (q:Q (.int nodes.length) m H):Cd C m H (.ref 313) [.ref r.w] Q:=by
 refine zAo ["self"] (fd313 _).h rfl (vl1 fun _=> rfl) rfl rfl (by exact omB) fun L X=> ?_
 walk_at "w"
 refine zA5 h.w rfl zC4 ?_
 refine ⟨_,zA1 h.bk zKy rfl,?_⟩
 refine Cd.call (zS5 h.bk rfl h.nl (by exact omMap ‹_› rfl) (by show 0 < C.n - 1;exact omR) ?_)
 rw [List.length_map]
 exact ⟨H,Weak.refl _,q⟩
noncomputable def rootF (par:List Nat):V → Option V
 | .int k=> some (.int (root par k.toNat))
 | _=> none
theorem zH1 (par:List Nat):∀ l:List Nat,(l.map fun k:Nat=> V.int k).filterMap (rootF par) = nl (l.map (root par))
 | []=> rfl
 | k :: r=> by
  have ih:=zH1 par r
  show List.filterMap (rootF par) (V.int k :: (r.map fun k:Nat=> V.int k)) = _
  rw [List.filterMap_cons_some (f:=rootF par) (a:=V.int k) (b:=V.int (root par k)) rfl,ih];rfl
theorem zRl {r:WrA} {nodes:List Node} {par:List Nat} {n:Nat} {nd:Node} {Q} (h:HAt H r nodes par) (hp:ParOk par) (hn:nodes[n]? = some nd) (hk:∀ k ∈ nd.2,k < par.length) (hkl:nd.2.length ≤ 10) (hz:par.length ≤ 100) (hz':nodes.length ≤ 100)
    (hr:2 < C.n) (q:Q (Node.v (nd.1,nd.2.map (root par))) m H):Cd C m H (.ref 318) [.ref r.w,.int n] Q:=by
 refine zD2 ["self","n"] (fd318 _).h rfl (vl2 fun _ _=> rfl) rfl (fun _=> rfl) (fun _=> rfl) (fun _=> rfl) rfl (by exact omB) fun L X=> ?_
 change Ex _ [("n",.int n)] ((L + 1,.cell (some (.ref r.w))) :: H) _ _
 have h':HAt ((L + 1,AObj.cell (some (V.ref r.w))) :: H) r nodes par:=h.cons
 walk_at "w"
 refine zA5 h'.w rfl zC4 ?_
 refine ⟨_,zA1 h'.bk zOo rfl,?_⟩
 walk_at "w"
 refine Cd.call (zWs h'.bk rfl h'.nl hn (by exact omT) hkl (by show 0 < C.n - 1;exact omR) ?_)
 walk_at "w"
 refine ⟨by exact om0 rfl,?_⟩
 walk_at "w"
 refine zAe rfl (scOk rfl) ?_ (fun _=> rfl)
 walk_at "w"
 refine zA5 h'.w rfl zC4 ?_
 refine ⟨_,zA1 h'.bk zKz rfl,?_⟩
 walk_at "w"
 refine Cd.call (zS6 h'.bk rfl h'.nl hn (by exact omT) hkl (by show 0 < C.n - 1;exact omR) ?_)
 refine zBk (rootF par) (xs:=nd.2.map fun k:Nat=> .int k) zBg trivial (by exact omMap ‹_› rfl) (fun L X x hx=> ?_) ?_
 ·refine zAi hx fun k hk'=> ?_
  have hlt:=hk k hk'
  walk_at "w"
  refine ⟨fun _=> ?_,fun e=> bx e⟩
  walk_at "w"
  refine ⟨_,zA1 h'.w zAb rfl,?_⟩
  walk_at "w"
  refine Cd.call (zBb h' hp hlt hz (by show 1 < C.n - 1;exact omR) ?_)
  exact ⟨rfl,by walk_at "mm"⟩
 rw [zH1]
 intro D
 walk_at "w"
 refine zBl (.head _) (by simp [nl];exact omT) ?_
 refine zId (by simp [nl];with_reducible exact omA2 (by walk_at "a") (by walk_at "r")) ?_
 exact ⟨H,by walk_at "mm",q⟩
end
noncomputable def zA7 (par:List Nat):Nat:=(List.range par.length).countP fun i=> decide (par.getD i i = i)
noncomputable def dgetN (l:List (Nat × List Nat)) (c:Nat):List Nat:=(dget c l).getD []
noncomputable def usum (l:List (Nat × List Nat)):Nat:=(l.map (·.2.length)).sum
noncomputable def zB8 (above:List (Nat × List Nat)) (k g:Nat):List (Nat × List Nat):=(above.filter fun p=> decide (p.1 ≠ g)).map fun p=> if p.1 = k then (p.1,p.2 ++ dgetN above g) else p
noncomputable def edgeV (a b:Nat) (reason:V):V:=.tup [.int a,.int b,reason]
noncomputable def joinS (σ:Hs) (a b:Nat) (reason:V):Hs :=
 if root σ.par a = root σ.par b then { σ with edges:=σ.edges ++ [edgeV a b reason] } else
 ⟨σ.nodes,σ.par.set (max (root σ.par a) (root σ.par b)) (min (root σ.par a) (root σ.par b)),σ.edges ++ [edgeV a b reason],σ.known,zB8 σ.above (min (root σ.par a) (root σ.par b)) (max (root σ.par a) (root σ.par b)),
  σ.waiting ++ dgetN σ.above (max (root σ.par a) (root σ.par b)),σ.rows⟩
theorem zGp {par:List Nat} {g k i:Nat} (hg:g < par.length):(par.set g k).getD i i = if i = g then k else par.getD i i:=by
 rw [List.getD_eq_getElem?_getD,List.getD_eq_getElem?_getD,List.getElem?_set]
 by_cases h:g = i
 ·subst h;rw [if_pos rfl,if_pos rfl,if_pos hg];rfl
 ·rw [if_neg h,if_neg (fun e=> h e.symm)]
theorem zJ0 {p q:Nat → Bool} {g:Nat} (hp:p g = true) (hq:q g = false) (h:∀ i,i ≠ g → p i = q i):∀ n,g < n → (List.range n).countP p = (List.range n).countP q + 1:=by
 intro n
 induction n with
 | zero=> intro hn;exact absurd hn (Nat.not_lt_zero _)
 | succ n ih =>
  intro hn
  rw [List.range_succ,List.countP_append,List.countP_append]
  by_cases e:g = n
  ·subst e
   have:(List.range g).countP p = (List.range g).countP q:=List.countP_congr fun i hi=> by
    rw [h i (by have:=List.mem_range.mp hi;with_reducible exact Nat.ne_of_lt (by walk_at "a"))]
   rw [this]
   simp [hp,hq]
  ·rw [ih (by with_reducible exact omD (by walk_at "a") (by walk_at "a"))]
   simp [h n (fun e'=> e e'.symm)]
   lia
theorem zIy {par:List Nat} {g k:Nat} (hg:g < par.length) (hgr:par.getD g g = g) (hk:k ≠ g):zA7 (par.set g k) + 1 = zA7 par:=by
 unfold zA7
 rw [List.length_set]
 refine (zJ0 (g:=g) (decide_eq_true hgr) ?_ (fun i hi=> ?_) _ hg).symm
 ·rw [zGp hg,if_pos rfl];exact decide_eq_false hk
 ·rw [zGp hg,if_neg hi]
theorem zDf {par:List Nat} (h:ParOk par) (a:Nat):root par (root par a) = root par a:=by
 rw [zCt h,if_pos (zCd h a)]
theorem zKw {par:List Nat} {g k:Nat} (h:ParOk par) (hkg:k ≤ g):ParOk (par.set g k):=fun i x e=> by
 rw [List.getElem?_set] at e
 split at e
 ·rename_i q
  subst q
  split at e
  ·cases e;exact hkg
  ·exact nS e
 ·exact h i x e
theorem zSi {par:List Nat} {g k:Nat} (h:ParOk par) (hg:g < par.length) (hgr:par.getD g g = g) (hkr:par.getD k k = k) (hkg:k < g):∀ a,root (par.set g k) a = if root par a = g then k else root par a:=by
 have h':=zKw (g:=g) h (Nat.le_of_lt hkg)
 intro a
 induction a using Nat.strongRecOn with
 | _ a ih =>
  rw [zCt h',zGp hg,zCt h a]
  by_cases e:a = g
  ·subst e
   rw [if_pos rfl,if_pos hgr,if_pos rfl,if_neg (by with_reducible exact Nat.ne_of_lt (by walk_at "a")),ih k hkg,zCt h k,if_pos hkr,if_neg (by with_reducible exact Nat.ne_of_lt (by walk_at "a"))]
  ·rw [if_neg e]
   by_cases q:par.getD a a = a
   ·rw [if_pos q,if_pos q,if_neg e]
   ·rw [if_neg q,if_neg q]
    exact ih _ (by have:=zF6 h a;with_reducible exact Nat.lt_of_le_of_ne (by walk_at "a") (by walk_at "a"))
theorem zC5 {κ α:Type} [DecidableEq κ] {c:κ} {v:α}:∀ {l:List (κ × α)},dget c l = some v → (c,v) ∈ l:=by
 intro l
 induction l with
 | nil=> intro h;exact nS h
 | cons y r ih =>
  intro h
  obtain ⟨k,u⟩:=y
  rw [zAv] at h
  split at h
  ·rename_i e;cases h;rw [e];exact .head _
  ·exact .tail _ (ih h)
theorem zR2 {κ α:Type} [DecidableEq κ] {c:κ} {l:List (κ × α)} (h:c ∈ l.map (·.1)):∃ v,dget c l = some v:=by
 cases q:dget c l with
 | some v=> exact ⟨v,rfl⟩
 | none=> exact absurd h (dget_none.mp q)
theorem zBy {κ α:Type} [DecidableEq κ] {c:κ} {v:α}:∀ {l:List (κ × α)},(l.map (·.1)).Nodup → (c,v) ∈ l → dget c l = some v:=by
 intro l
 induction l with
 | nil =>
  intro _ h
  exact nM h
 | cons p r ih =>
  intro nd h
  obtain ⟨k,u⟩:=p
  rw [List.map_cons,List.nodup_cons] at nd
  rw [zAv]
  rcases List.mem_cons.mp h with e | h
  ·cases e;rw [if_pos rfl]
  ·rw [if_neg (fun e=> nd.1 (by rw [← e];exact List.mem_map.mpr ⟨_,h,rfl⟩))]
   exact ih nd.2 h
theorem zM3 {l:List (Nat × List Nat)} (nd:(l.map (·.1)).Nodup) (g:Nat):usum (l.filter fun p=> decide (p.1 ≠ g)) + (dgetN l g).length = usum l:=by
 induction l with
 | nil=> rfl
 | cons p r ih =>
  obtain ⟨k,u⟩:=p
  rw [List.map_cons,List.nodup_cons] at nd
  have ih:=ih nd.2
  by_cases e:k = g
  ·subst e
   have:r.filter (fun p=> decide (p.1 ≠ k)) = r:=List.filter_eq_self.mpr fun p hp=> decide_eq_true fun q=> nd.1 (by rw [← q];exact List.mem_map.mpr ⟨_,hp,rfl⟩)
   rw [List.filter_cons_of_neg (by simp),this]
   unfold dgetN
   rw [zAv,if_pos rfl]
   show usum r + u.length = u.length + usum r
   lia
  ·rw [List.filter_cons_of_pos (by simpa using e)]
   have eq:dgetN ((k,u) :: r) g = dgetN r g:=by
    unfold dgetN
    rw [zAv,if_neg (fun q=> e q.symm)]
   rw [eq]
   show u.length + usum _ + _ = u.length + usum r
   lia
theorem zN9 {l:List (Nat × List Nat)} (nd:(l.map (·.1)).Nodup) (k:Nat) (x:List Nat):usum (l.map fun p=> if p.1 = k then (p.1,p.2 ++ x) else p) ≤ usum l + x.length:=by
 induction l with
 | nil=> exact Nat.zero_le _
 | cons p r ih =>
  obtain ⟨c,u⟩:=p
  rw [List.map_cons,List.nodup_cons] at nd
  by_cases e:c = k
  ·subst e
   have:r.map (fun p=> if p.1 = c then (p.1,p.2 ++ x) else p) = r:=by
    have:r.map (fun p=> if p.1 = c then (p.1,p.2 ++ x) else p) = r.map id:=List.map_congr_left fun p hp=> if_neg fun q=> nd.1 (by rw [← q];exact List.mem_map.mpr ⟨_,hp,rfl⟩)
    rw [this,List.map_id]
   rw [List.map_cons,if_pos rfl,this]
   show (u ++ x).length + usum r ≤ u.length + usum r + x.length
   rw [List.length_append,Nat.add_right_comm];exact Nat.le_refl _
  ·rw [List.map_cons,if_neg e]
   have:=ih nd.2
   show u.length + usum _ ≤ u.length + usum r + x.length
   rw [Nat.add_assoc];exact Nat.add_le_add_left this _
theorem zPs {l:List (Nat × List Nat)} (nd:(l.map (·.1)).Nodup) (k g:Nat):usum (zB8 l k g) ≤ usum l:=by
 unfold zB8
 refine Nat.le_trans (zN9 ?_ k _) (Nat.le_of_eq (zM3 nd g))
 exact nd.sublist (List.Sublist.map _ List.filter_sublist)
theorem zDd (l:List (Nat × List Nat)) (k g:Nat):(zB8 l k g).map (·.1) = (l.map (·.1)).filter fun c=> decide (c ≠ g):=by
 unfold zB8
 rw [List.map_map,List.filter_map]
 refine List.map_congr_left fun p _=> ?_
 show (if p.1 = k then (p.1,p.2 ++ dgetN l g) else p).1 = p.1
 split <;> rfl
theorem zK4 {l:List (Nat × List Nat)} (c:Nat):(dgetN l c).length ≤ usum l:=by
 unfold dgetN
 cases q:dget c l with
 | none=> exact Nat.zero_le _
 | some v =>
  have:=zC5 q
  show v.length ≤ _
  unfold usum
  have:v.length ∈ l.map (·.2.length):=List.mem_map.mpr ⟨_,this,rfl⟩
  have gen:∀ {l:List Nat} {x:Nat},x ∈ l → x ≤ l.sum:=by
   intro l
   induction l with
   | nil=> intro x h;exact nM h
   | cons y r ih =>
    intro x h
    rw [List.sum_cons]
    rcases List.mem_cons.mp h with rfl | h
    ·exact Nat.le_add_right _ _
    ·have:=ih h;lia
  exact gen this
structure HsOk (σ:Hs):Prop where
 nz:σ.nodes.length ≤ 19
 nok:zJ5 σ.nodes
 pl:σ.par.length = σ.nodes.length
 pok:ParOk σ.par
 kn:(σ.above.map (·.1)).Nodup
 kr:∀ c,c < σ.par.length → σ.par.getD c c = c → c ∈ σ.above.map (·.1)
 us:usum σ.above ≤ 100
 az:σ.above.length ≤ 100
 wl:∀ n ∈ σ.waiting,n < σ.nodes.length
 ul:∀ p ∈ σ.above,∀ n ∈ p.2,n < σ.nodes.length
 kl:∀ p ∈ σ.known,p.2 < σ.nodes.length
structure JOk (σ:Hs) (j:Jk):Prop where
 wl:j.ws.length = σ.nodes.length
 dl:j.ds.length = σ.nodes.length
 ll:j.lots.length = σ.par.length
 lz:∀ p ∈ j.lots,p.2.length ≤ 2 ^ j.mgd.length
 mz:j.mgd.length + zA7 σ.par = σ.par.length
 fz:j.forest.length ≤ j.mgd.length
 av:j.abv.map (fun p=> (p.1,p.2.2)) = σ.above
 wz:σ.waiting.length ≤ 100 * j.mgd.length
theorem zNw {σ:Hs} (h:HsOk σ) {c n:Nat} (hn:n ∈ dgetN σ.above c):n < σ.nodes.length:=by
 unfold dgetN at hn
 cases q:dget c σ.above with
 | none=> rw [q] at hn;exact nM hn
 | some v=> rw [q] at hn;exact h.ul _ (zC5 q) n hn
theorem zCs {par:List Nat} (h:ParOk par) {a:Nat} (ha:a < par.length):root par a < par.length:=Nat.lt_of_le_of_lt (zFs h a) ha
theorem zOq {par:List Nat} (h:ParOk par) {a:Nat} (ha:a < par.length):1 ≤ zA7 par:=by
 unfold zA7
 exact List.countP_pos_iff.mpr ⟨root par a,List.mem_range.mpr (zCs h ha),decide_eq_true (zCd h a)⟩
theorem zJs {σ:Hs} (h:HsOk σ) {a b:Nat} {reason:V} (ha:a < σ.nodes.length) (hb:b < σ.nodes.length):HsOk (joinS σ a b reason):=by
 unfold joinS
 split
 ·exact ⟨h.nz,h.nok,h.pl,h.pok,h.kn,h.kr,h.us,h.az,h.wl,h.ul,h.kl⟩
 ·rename_i hne
  have la:=zCs h.pok (a:=a) (by rw [h.pl];exact ha)
  have lb:=zCs h.pok (a:=b) (by rw [h.pl];exact hb)
  have fa:=zCd h.pok a
  have fb:=zCd h.pok b
  have hg:max (root σ.par a) (root σ.par b) < σ.par.length:=by lia
  have hgr:σ.par.getD (max (root σ.par a) (root σ.par b)) (max (root σ.par a) (root σ.par b)) = max (root σ.par a) (root σ.par b):=by
   rcases Nat.le_total (root σ.par a) (root σ.par b) with q | q
   ·rw [Nat.max_eq_right q];exact fb
   ·rw [Nat.max_eq_left q];exact fa
  refine ⟨h.nz,h.nok,by show (List.set _ _ _).length = _;rw [List.length_set];exact h.pl,zKw h.pok (by lia),?_,fun c hc hcr=> ?_,Nat.le_trans (zPs h.kn _ _) h.us,Nat.le_trans (by unfold zB8;rw [List.length_map];exact List.length_filter_le _ _) h.az,fun n hn=> ?_,fun p hp n hn=> ?_,h.kl⟩
  ·rw [zDd];exact h.kn.sublist List.filter_sublist
  ·rw [zDd]
   have hc:c < σ.par.length:=by rwa [List.length_set] at hc
   rw [zGp hg] at hcr
   by_cases q:c = max (root σ.par a) (root σ.par b)
   ·rw [if_pos q] at hcr;lia
   ·rw [if_neg q] at hcr
    exact List.mem_filter.mpr ⟨h.kr c hc hcr,decide_eq_true q⟩
  ·rcases List.mem_append.mp hn with hn | hn
   ·exact h.wl n hn
   ·exact zNw h hn
  ·unfold zB8 at hp
   refine bc fun nn=> ?_
   obtain ⟨p',hp',e⟩:=List.mem_map.mp hp
   refine nn ?_
   have hp':=(List.mem_filter.mp hp').1
   split at e
   ·subst e
    rcases List.mem_append.mp hn with hn | hn
    ·exact h.ul _ hp' n hn
    ·exact zNw h hn
   ·subst e;exact h.ul _ hp' n hn
theorem zSd {α:Type} {l l':List α} (h:List.Sublist l l'):∃ r,l'.Perm (l ++ r):=by
 induction h with
 | slnil=> exact ⟨[],.refl _⟩
 | cons a _ ih=> obtain ⟨r,p⟩:=ih;exact ⟨a :: r,(p.cons a).trans List.perm_middle.symm⟩
 | cons_cons a _ ih=> obtain ⟨r,p⟩:=ih;exact ⟨r,p.cons a⟩
theorem Weak.sub {H H':AH} (h:List.Sublist H' H):Weak H H':=zSd h
theorem Weak.left {H H':AH} (Z:AH) (w:Weak H H'):Weak (Z ++ H) (Z ++ H'):=by
 obtain ⟨R,p⟩:=w
 exact ⟨R,by rw [List.append_assoc];exact p.append_left Z⟩
theorem zL2 (l l':List Nat):nl (l ++ l') = nl l ++ nl l':=by simp [nl]
noncomputable def zCu (abv:List (Nat × Addr × List Nat)) (k g:Nat) (D:Addr) (x:List Nat):List (Nat × Addr × List Nat):=(abv.filter fun p=> decide (p.1 ≠ g)).map fun p=> if p.1 = k then (p.1,D,p.2.2 ++ x) else p
theorem zL3 {abv:List (Nat × Addr × List Nat)} {k g:Nat} {D:Addr}:(zCu abv k g D (dgetN (abv.map fun p=> (p.1,p.2.2)) g)).map (fun p=> (p.1,p.2.2)) = zB8 (abv.map fun p=> (p.1,p.2.2)) k g:=by
 unfold zCu zB8
 rw [List.map_map,List.filter_map,List.map_map]
 refine List.map_congr_left fun p _=> ?_
 show (fun p:Nat × Addr × List Nat=> (p.1,p.2.2)) (if p.1 = k then (p.1,D,p.2.2 ++ _) else p) = if p.1 = k then (p.1,p.2.2 ++ _) else (p.1,p.2.2)
 split <;> rfl
theorem zTc (abv:List (Nat × Addr × List Nat)):(avK abv).map (·.1) = (abv.map (·.1)).map fun c:Nat=> Atom.i c:=by
 unfold avK;rw [List.map_map,List.map_map];rfl
theorem zEd {a b:Nat} (h:Atom.i a = Atom.i b):a = b:=by injection h with h;exact Int.ofNat_inj.mp h
theorem zK8 {abv:List (Nat × Addr × List Nat)} {c:Nat} {a:Addr} {u:List Nat} (nd:(abv.map (·.1)).Nodup) (h:(c,a,u) ∈ abv):dget (Atom.i c) (avK abv) = some (.ref a):=by
 refine zBy ?_ (List.mem_map.mpr ⟨_,h,rfl⟩)
 rw [zTc]
 exact List.Pairwise.map _ (fun a b h e=> h (zEd e)) nd
theorem zVu {abv:List (Nat × Addr × List Nat)}:∀ {g:Nat},(abv.map (·.1)).Nodup → ddel (Atom.i g) (avK abv) = avK (abv.filter fun p=> decide (p.1 ≠ g)):=by
 induction abv with
 | nil =>
  intro _ _
  exact rfl
 | cons pp r ih =>
  obtain ⟨c,a,u⟩:=pp
  intro g nd
  rw [List.map_cons,List.nodup_cons] at nd
  show ddel (Atom.i g) ((Atom.i c,V.ref a) :: avK r) = _
  rw [zLg]
  by_cases e:c = g
  ·subst e
   rw [if_pos rfl,List.filter_cons_of_neg (by simp)]
   have:r.filter (fun p=> decide (p.1 ≠ c)) = r:=List.filter_eq_self.mpr fun p hp=> decide_eq_true fun q=> nd.1 (by rw [← q];exact List.mem_map.mpr ⟨_,hp,rfl⟩)
   rw [this]
  ·rw [if_neg (fun q=> e (zEd q).symm),List.filter_cons_of_pos (by simpa using e),ih nd.2];rfl
theorem zVs {x:List Nat}:∀ {abv:List (Nat × Addr × List Nat)} {k:Nat} {D:Addr},(abv.map (·.1)).Nodup → k ∈ abv.map (·.1) → dput (Atom.i k) (V.ref D) (avK abv) = avK (abv.map fun p=> if p.1 = k then (p.1,D,p.2.2 ++ x) else p):=by
 intro abv
 induction abv with
 | nil=> intro _ _ _ hk;exact nM hk
 | cons y r ih =>
  intro k D nd hk
  obtain ⟨c,a,u⟩:=y
  rw [List.map_cons,List.nodup_cons] at nd
  show dput (Atom.i k) (V.ref D) ((Atom.i c,V.ref a) :: avK r) = _
  rw [zDl]
  by_cases e:c = k
  ·subst e
   rw [if_pos rfl,List.map_cons,if_pos rfl]
   have:r.map (fun p=> if p.1 = c then (p.1,D,p.2.2 ++ x) else p) = r:=by
    have:r.map (fun p=> if p.1 = c then (p.1,D,p.2.2 ++ x) else p) = r.map id:=List.map_congr_left fun p hp=> if_neg fun q=> nd.1 (by rw [← q];exact List.mem_map.mpr ⟨_,hp,rfl⟩)
    rw [this,List.map_id]
   rw [this];rfl
  ·rw [if_neg (fun q=> e (zEd q).symm),List.map_cons,if_neg e]
   have hk':k ∈ r.map (·.1):=by
    rcases List.mem_cons.mp hk with q | q
    ·exact absurd q.symm e
    ·exact q
   rw [ih nd.2 hk'];rfl
theorem zTf {x:List Nat} {D:Addr} {K:AH}:∀ {abv:List (Nat × Addr × List Nat)} {k g:Nat} {ak:Addr} {uk:List Nat},(abv.map (·.1)).Nodup → (k,ak,uk) ∈ abv → k ≠ g →
    Weak ((D,AObj.list (nl (uk ++ x))) :: (abv.map avO ++ K)) ((zCu abv k g D x).map avO ++ K):=by
 intro abv
 induction abv with
 | nil =>
  intro k g ak uk _ hm
  exact nM hm
 | cons p r ih =>
  intro k g ak uk nd hm hkg
  obtain ⟨c,a,u⟩:=p
  rw [List.map_cons,List.nodup_cons] at nd
  rcases List.mem_cons.mp hm with e | hm'
  ·obtain ⟨rfl,rfl,rfl⟩:c = k ∧ a = ak ∧ u = uk:=by cases e;exact ⟨rfl,rfl,rfl⟩
   have tail:(zCu r c g D x) = r.filter fun p=> decide (p.1 ≠ g):=by
    unfold zCu
    have:(r.filter fun p=> decide (p.1 ≠ g)).map (fun p=> if p.1 = c then (p.1,D,p.2.2 ++ x) else p) = (r.filter fun p=> decide (p.1 ≠ g)).map id :=
     List.map_congr_left fun p hp=> if_neg fun q=> nd.1 (by rw [← q];exact List.mem_map.mpr ⟨_,(List.mem_filter.mp hp).1,rfl⟩)
    rw [this,List.map_id]
   have hd:zCu ((c,a,u) :: r) c g D x = (c,D,u ++ x) :: zCu r c g D x:=by
    unfold zCu
    rw [List.filter_cons_of_pos (by simpa using hkg),List.map_cons,if_pos rfl]
   rw [hd,tail]
   refine Weak.sub ?_
   show List.Sublist ((D,AObj.list (nl (u ++ x))) :: (List.map avO (r.filter fun p=> decide (p.1 ≠ g)) ++ K)) ((D,AObj.list (nl (u ++ x))) :: avO (c,a,u) :: (r.map avO ++ K))
   exact ((List.Sublist.map _ List.filter_sublist).append_right K).cons _ |>.cons_cons _
  ·have ck:c ≠ k:=fun q=> nd.1 (by rw [q];exact List.mem_map.mpr ⟨_,hm',rfl⟩)
   have ih:=ih (g:=g) nd.2 hm' hkg
   show Weak ((D,AObj.list (nl (uk ++ x))) :: avO (c,a,u) :: (r.map avO ++ K)) _
   refine Weak.trans (Weak.perm (List.Perm.swap _ _ _)) ?_
   by_cases e:c = g
   ·have hd:zCu ((c,a,u) :: r) k g D x = zCu r k g D x:=by
      unfold zCu
      rw [List.filter_cons_of_neg (by simpa using e)]
    rw [hd]
    exact ih.drop
   ·have hd:zCu ((c,a,u) :: r) k g D x = (c,a,u) :: zCu r k g D x:=by
      unfold zCu
      rw [List.filter_cons_of_pos (by simpa using e),List.map_cons,if_neg ck]
    rw [hd]
    exact ih.cons
noncomputable abbrev HpR (r:WrA) (σ:Hs) (j:Jk) (K:AH):AH :=
 (r.w,.inst 474 r.wd (wfs r)) :: (r.ed,.list σ.edges) :: (r.fo,.list j.forest) :: (r.kn,.dictT (knO σ.known)) :: (r.av,.dictA (avK j.abv)) :: (r.wa,.list (nl σ.waiting)) :: (r.ro,.list σ.rows) ::
 BkH r.b σ.nodes j.ws j.ds (j.abv.map avO ++ K)
theorem zQr {r:WrA} {σ:Hs} {j:Jk} {K:AH} {par:List Nat} {lots:List (Addr × List V)} {mgd:List V} :
    Weak (HpH r { σ with par:=par } { j with lots:=lots,mgd:=mgd } K) (UnH r.u par lots mgd (HpR r σ j K)) :=
 Weak.perm (List.perm_append_comm_assoc [_,_,_,_,_,_,_,_,_,_,_,_] ([_,_,_,_] ++ lots.map lotO) (j.abv.map avO ++ K))
theorem zMi {r:WrA} {σ:Hs} {j:Jk} {K:AH} {par:List Nat} {lots:List (Addr × List V)} {mgd:List V} :
    Weak (UnH r.u par lots mgd (HpR r σ j K)) (HpH r { σ with par:=par } { j with lots:=lots,mgd:=mgd } K) :=
 Weak.perm (List.perm_append_comm_assoc [_,_,_,_,_,_,_,_,_,_,_,_] ([_,_,_,_] ++ lots.map lotO) (j.abv.map avO ++ K)).symm
section
variable {C:Cx} {m:Loc} {H:AH}
theorem zRk {r:WrA} {σ:Hs} {j:Jk} {K:AH} {a b:Nat} {Q} (hp:ParOk σ.par) (hz:σ.par.length ≤ 100) (hl:j.lots.length = σ.par.length) (hlz:∀ p ∈ j.lots,p.2.length ≤ 2 ^ j.mgd.length) (hmz:j.mgd.length ≤ 18) (ha:a < σ.par.length) (hb:b < σ.par.length) (hr:1 < C.n)
    (q1:root σ.par a = root σ.par b → Q .none m (HpH r σ j K))
    (q2:root σ.par a ≠ root σ.par b → ∀ lots',lots'.map (·.1) = j.lots.map (·.1) → (∀ p ∈ lots',p.2.length ≤ 2 ^ (j.mgd.length + 1)) → ∀ x,Q (.tup [.int (min (root σ.par a) (root σ.par b):Nat),.int (max (root σ.par a) (root σ.par b):Nat)]) m
     (HpH r { σ with par:=σ.par.set (max (root σ.par a) (root σ.par b)) (min (root σ.par a) (root σ.par b)) } { j with lots:=lots',mgd:=j.mgd ++ [x] } K)) :
    Cd C m (HpH r σ j K) (.ref 252) [.ref r.u.un,.int a,.int b] Q:=by
 refine Cd.weakPre (zQr (σ:=σ) (j:=j)) (Cd.weakPost (Q:=WkM m Q) (zLm hp hz hl hlz hmz ha hb hr (fun e=> ⟨rfl,_,zMi,q1 e⟩) fun e lots' h1 h2 x=> ⟨rfl,_,zMi,q2 e lots' h1 h2 x⟩) fun v m' H' h=> ?_)
 obtain ⟨rfl,H'',w,q⟩:=h
 exact ⟨H'',w,q⟩
theorem zLs {r:WrA} {σ:Hs} {j:Jk} {K:AH} {a b:Nat} {reason:V} {Q} (ok:HsOk σ) (jo:JOk σ j) (hez:σ.edges.length ≤ 900) (ha:a < σ.nodes.length) (hb:b < σ.nodes.length) (hr:2 < C.n)
    (q:∀ j',JOk (joinS σ a b reason) j' → Q (.bool (!decide (root σ.par a = root σ.par b))) m (HpH r (joinS σ a b reason) j' K)) :
    Cd C m (HpH r σ j K) (.ref 365) [.ref r.w,.int a,.int b,reason] Q:=by
 have nz:=ok.nz
 have pl:=ok.pl
 have mz:=jo.mz
 have rp:=zOq ok.pok (a:=a) (by exact omM)
 refine zAo ["self","a","b","reason"] (fd365 _).h rfl (vl4 fun _ _ _ _=> rfl) rfl rfl (by exact omB) fun L X=> ?_
 walk_at "w"
 refine zA5 (.head _) rfl zBx ?_
 refine ⟨_,zAm (by walk_at "mm"),?_⟩
 walk_at "w"
 refine ⟨by exact om0 rfl,?_⟩
 walk_at "w"
 refine zAn (by walk_at "mm") (by exact omT) ?_
 walk_at "w"
 refine zA5 (.head _) rfl zBt ?_
 refine ⟨_,zA1 (by walk_at "mm") zHa rfl,?_⟩
 walk_at "w"
 refine Cd.call (zRk (σ:={ σ with edges:=σ.edges ++ [edgeV a b reason] }) (j:=j) ok.pok (by show σ.par.length ≤ 100;exact omE) jo.ll jo.lz (by lia) (by show _ < σ.par.length;exact omM) (by show _ < σ.par.length;exact omM) (by show 1 < C.n - 1;exact omR) (fun e=> ?_) fun e lots' h1 h2 x=> ?_)
 ·walk_at "w"
  refine zFb rfl ?_
  refine zA0 ⟨fun _=> ?_,fun e'=> by exact Bool.noConfusion e'⟩
  walk_at "w"
  have e:root σ.par a = root σ.par b:=e
  refine ⟨_,Weak.refl _,?_⟩
  have qq:=q j
  unfold joinS at qq
  rw [if_pos e,decide_eq_true e] at qq
  exact qq ⟨jo.wl,jo.dl,jo.ll,jo.lz,jo.mz,jo.fz,jo.av,jo.wz⟩
 ·have e:root σ.par a ≠ root σ.par b:=e
  walk_at "w"
  refine zFb rfl ?_
  refine zA0 ⟨fun e'=> (by exact Bool.noConfusion e'),fun _=> ?_⟩
  walk_at "w"
  refine zAl (a:=.int (min (root σ.par a) (root σ.par b):Nat)) (b:=.int (max (root σ.par a) (root σ.par b):Nat)) rfl ?_
  have la:=zCs ok.pok (a:=a) (by exact omM)
  have lb:=zCs ok.pok (a:=b) (by exact omM)
  have fa:=zCd ok.pok a
  have fb:=zCd ok.pok b
  have hkg:min (root σ.par a) (root σ.par b) < max (root σ.par a) (root σ.par b):=by lia
  have hg:max (root σ.par a) (root σ.par b) < σ.par.length:=by lia
  have hgr:σ.par.getD (max (root σ.par a) (root σ.par b)) (max (root σ.par a) (root σ.par b)) = max (root σ.par a) (root σ.par b):=by
   rcases Nat.le_total (root σ.par a) (root σ.par b) with z | z
   ·rw [Nat.max_eq_right z];exact fb
   ·rw [Nat.max_eq_left z];exact fa
  have hkr:σ.par.getD (min (root σ.par a) (root σ.par b)) (min (root σ.par a) (root σ.par b)) = min (root σ.par a) (root σ.par b):=by
   rcases Nat.le_total (root σ.par a) (root σ.par b) with z | z
   ·rw [Nat.min_eq_left z];exact fa
   ·rw [Nat.min_eq_right z];exact fb
  have qq:=q
  unfold joinS at qq
  rw [if_neg e,decide_eq_false e] at qq
  generalize hkk:min (root σ.par a) (root σ.par b) = k at *
  generalize hgg:max (root σ.par a) (root σ.par b) = g at *
  have keys:j.abv.map (·.1) = σ.above.map (·.1):=by rw [← jo.av,List.map_map];rfl
  have ndk:(j.abv.map (·.1)).Nodup:=by rw [keys];exact ok.kn
  refine bc fun nn=> ?_
  obtain ⟨⟨k',ak,uk⟩,mk,ek⟩:=List.mem_map.mp (show k ∈ j.abv.map (·.1) by rw [keys];exact ok.kr k (by lia) hkr)
  obtain ⟨⟨g',ag,ug⟩,mg,eg⟩:=List.mem_map.mp (show g ∈ j.abv.map (·.1) by rw [keys];exact ok.kr g hg hgr)
  refine nn ?_
  dsimp only at ek eg
  subst ek eg
  have ugd:dgetN σ.above g' = ug:=by
   unfold dgetN
   rw [zBy ok.kn (v:=ug) (by rw [← jo.av];exact List.mem_map.mpr ⟨_,mg,rfl⟩)];rfl
  have ukd:dgetN σ.above k' = uk:=by
   unfold dgetN
   rw [zBy ok.kn (v:=uk) (by rw [← jo.av];exact List.mem_map.mpr ⟨_,mk,rfl⟩)];rfl
  have us:=ok.us
  have zg:ug.length ≤ usum σ.above:=ugd ▸ zK4 g'
  have zk:uk.length ≤ usum σ.above:=ukd ▸ zK4 k'
  have wz:=jo.wz
  have avz:(avK j.abv).length ≤ 1000000:=by
   unfold avK
   rw [List.length_map]
   have:=congrArg List.length jo.av
   rw [List.length_map] at this
   have:=ok.az
   exact omE
  have tg:(ag,AObj.list (nl ug)) ∈ lots'.map lotO ++ (j.abv.map avO ++ K):=List.mem_append_right _ (List.mem_append_left _ (List.mem_map.mpr ⟨_,mg,rfl⟩))
  have tk:(ak,AObj.list (nl uk)) ∈ lots'.map lotO ++ (j.abv.map avO ++ K):=List.mem_append_right _ (List.mem_append_left _ (List.mem_map.mpr ⟨_,mk,rfl⟩))
  walk_at "w"
  refine zA5 (.head _) rfl zFx ?_
  refine ⟨_,zAm (by walk_at "mm"),?_⟩
  walk_at "w"
  refine zA5 (.head _) rfl zBx ?_
  walk_at "w"
  refine zA2 (by walk_at "mm") (by simp;exact omT) ?_
  walk_at "w"
  refine zN5 ?_
  walk_at "w"
  refine zAn (by walk_at "mm") (by have:=jo.fz;simp;lia) ?_
  walk_at "w"
  refine zA5 (.head _) rfl zB7 ?_
  refine ⟨_,zHg (by walk_at "mm"),?_⟩
  walk_at "w"
  refine zA5 (.head _) rfl zB4 ?_
  walk_at "w"
  refine zG4 (by walk_at "mm") (zK8 ndk mg) ?_
  walk_at "w"
  refine zIb (l₂:=nl ug) (by walk_at "mm") (by walk_at "mm") (by simp [nl];lia) ?_
  walk_at "w"
  refine zA5 (.head _) rfl zB4 ?_
  walk_at "w"
  refine zG4 (by walk_at "mm") (zK8 ndk mk) ?_
  walk_at "w"
  refine zA5 (.head _) rfl zB4 ?_
  refine ⟨_,zQi (by walk_at "mm"),?_⟩
  walk_at "w"
  refine zIc (by walk_at "mm") (zK8 ndk mg) avz ?_
  refine zDa (l:=nl uk) (l₂:=nl ug) (by walk_at "mm") (by walk_at "mm") (by simp [nl];lia) fun D=> ?_
  walk_at "w"
  refine zA5 (.tail _ (.head _)) rfl zB4 ?_
  walk_at "w"
  rw [zVu ndk]
  have ndf:((j.abv.filter fun p=> decide (p.1 ≠ g')).map (·.1)).Nodup:=ndk.sublist (List.Sublist.map _ List.filter_sublist)
  have mkf:k' ∈ (j.abv.filter fun p=> decide (p.1 ≠ g')).map (·.1):=List.mem_map.mpr ⟨_,List.mem_filter.mpr ⟨mk,decide_eq_true (by show k' ≠ g';with_reducible exact Nat.ne_of_lt (by walk_at "a"))⟩,rfl⟩
  rw [← zL2]
  refine zI6 (by walk_at "mm") ?_ (by have:=avz;unfold avK at this ⊢;rw [List.length_map] at this ⊢;exact Nat.le_trans (List.length_filter_le _ _) this)
  rw [zVs (x:=ug) ndf mkf]
  walk_at "w"
  refine ⟨_,?_,qq { ws:=j.ws,ds:=j.ds,lots:=lots',mgd:=j.mgd ++ [x],forest:=j.forest ++ [V.int (((σ.edges ++ [edgeV a b reason]).length:Nat) - 1)],abv:=zCu j.abv k' g' D ug } ?_⟩
  ·simp only [HpH]
   rw [ugd,zL2 σ.waiting ug]
   exact Weak.trans (Weak.mid (A:=[_,_,_,_,_,_,_,_,_,_,_,_,_,_,_,_] ++ lots'.map lotO) (B:=j.abv.map avO ++ K)) (Weak.left _ (zTf ndk mk (by with_reducible exact Nat.ne_of_lt (by walk_at "a"))))
  ·refine ⟨jo.wl,jo.dl,?_,fun p hp=> ?_,?_,?_,?_,?_⟩
   ·show lots'.length = (σ.par.set g' k').length
    rw [List.length_set,← jo.ll]
    have:=congrArg List.length h1
    simpa using this
   ·show p.2.length ≤ 2 ^ (j.mgd ++ [x]).length
    rw [List.length_append];exact h2 p hp
   ·show (j.mgd ++ [x]).length + zA7 (σ.par.set g' k') = (σ.par.set g' k').length
    have:=zIy (k:=k') hg hgr (by with_reducible exact Nat.ne_of_lt (by walk_at "a"))
    rw [List.length_append,List.length_set]
    simp only [List.length_cons,List.length_nil]
    lia
   ·show (j.forest ++ [_]).length ≤ (j.mgd ++ [x]).length
    have:=jo.fz
    simp;assumption
   ·rw [← jo.av,← zL3 (D:=D)]
    have:dgetN (j.abv.map fun p=> (p.1,p.2.2)) g' = ug:=by rw [jo.av];exact ugd
    rw [this]
   ·show (σ.waiting ++ dgetN σ.above g').length ≤ 100 * (j.mgd ++ [x]).length
    rw [List.length_append,List.length_append,ugd]
    simp only [List.length_cons,List.length_nil]
    lia
end
noncomputable def likeV:V:=.tup [.str "like"]
noncomputable def keyOf (σ:Hs) (n:Nat):Node:=match σ.nodes[n]? with
 | some nd=> (nd.1,nd.2.map (root σ.par))
 | none=> ("",[])
noncomputable def lookS (σ:Hs) (n:Nat):Hs:=match dget (keyOf σ n) σ.known with
 | some o=> if root σ.par o = root σ.par n then σ else joinS σ o n likeV
 | none=> { σ with known:=σ.known ++ [(keyOf σ n,n)] }
inductive Runs:Hs → Nat → Hs → Prop
 | done {σ}:σ.waiting = [] → Runs σ 0 σ
 | step {σ τ:Hs} {n x:Nat} {w:List Nat}:σ.waiting = w ++ [x] → Runs (lookS { σ with waiting:=w } x) n τ → Runs σ (n + 1) τ
theorem zJp:∀ (l:List (Node × Nat)) (nd:Node),dget nd.key (knO l) = (dget nd l).map fun k:Nat=> V.int k:=by
 intro l nd
 induction l with
 | nil=> rfl
 | cons y r ih =>
  obtain ⟨a,k⟩:=y
  show dget nd.key ((a.key,V.int k) :: knO r) = _
  rw [zAv,zAv]
  by_cases e:nd = a
  ·subst e;rw [if_pos rfl,if_pos rfl];rfl
  ·rw [if_neg (fun q=> e (Node.key_inj q)),if_neg e,ih]
theorem zQn {l:List (Node × Nat)} {nd:Node} {k:Nat} (h:dget nd l = none):dput nd.key (V.int k) (knO l) = knO (l ++ [(nd,k)]):=by
 induction l with
 | nil=> rfl
 | cons p r ih =>
  obtain ⟨a,b⟩:=p
  rw [zAv] at h
  split at h
  ·exact sN h
  ·rename_i e
   show dput nd.key (V.int k) ((a.key,V.int b) :: knO r) = _
   rw [zDl]
   rw [if_neg (fun q=> e (Node.key_inj q)),ih h];rfl
theorem zNm {σ:Hs} (h:HsOk σ) {n:Nat} (hn:n < σ.nodes.length):HsOk (lookS σ n):=by
 unfold lookS
 split
 ·rename_i o e
  split
  ·exact h
  ·exact zJs h (h.kl _ (zC5 e)) hn
 ·refine ⟨h.nz,h.nok,h.pl,h.pok,h.kn,h.kr,h.us,h.az,h.wl,h.ul,fun p hp=> ?_⟩
  rcases List.mem_append.mp hp with hp | hp
  ·exact h.kl p hp
  ·rw [List.mem_singleton.mp hp];exact hn
theorem zJt {σ:Hs} (h:HsOk σ) {a b:Nat} {reason:V} (ha:a < σ.nodes.length) (hb:b < σ.nodes.length) (hne:root σ.par a ≠ root σ.par b) :
    (joinS σ a b reason).edges.length + zA7 (joinS σ a b reason).par = σ.edges.length + zA7 σ.par:=by
 unfold joinS
 rw [if_neg hne]
 have la:=zCs h.pok (a:=a) (by rw [h.pl];exact ha)
 have lb:=zCs h.pok (a:=b) (by rw [h.pl];exact hb)
 have fa:=zCd h.pok a
 have fb:=zCd h.pok b
 have hg:max (root σ.par a) (root σ.par b) < σ.par.length:=by lia
 have hgr:σ.par.getD (max (root σ.par a) (root σ.par b)) (max (root σ.par a) (root σ.par b)) = max (root σ.par a) (root σ.par b):=by
  rcases Nat.le_total (root σ.par a) (root σ.par b) with z | z
  ·rw [Nat.max_eq_right z];exact fb
  ·rw [Nat.max_eq_left z];exact fa
 have:=zIy (k:=min (root σ.par a) (root σ.par b)) hg hgr (by lia)
 simp only [List.length_append,List.length_cons,List.length_nil]
 lia
theorem zNn {σ:Hs} (h:HsOk σ) {n:Nat} (hn:n < σ.nodes.length):(lookS σ n).edges.length + zA7 (lookS σ n).par = σ.edges.length + zA7 σ.par:=by
 unfold lookS
 split
 ·rename_i o e
  split
  ·rfl
  ·rename_i hne
   exact zJt h (h.kl _ (zC5 e)) hn hne
 ·rfl
section
variable {C:Cx} {m:Loc} {H:AH}
theorem zLr {r:WrA} {σ:Hs} {j:Jk} {K:AH} {n:Nat} {Q} (ok:HsOk σ) (jo:JOk σ j) (hez:σ.edges.length ≤ 900) (hkz:σ.known.length ≤ 900000) (hn:n < σ.nodes.length) (hr:3 < C.n)
    (q:∀ j',JOk (lookS σ n) j' → Q .none m (HpH r (lookS σ n) j' K)):Cd C m (HpH r σ j K) (.ref 337) [.ref r.w,.int n] Q:=by
 have nz:=ok.nz
 have pl:=ok.pl
 obtain ⟨nd,hnd⟩:∃ nd,σ.nodes[n]? = some nd:=⟨_,List.getElem?_eq_getElem hn⟩
 have hko:keyOf σ n = (nd.1,nd.2.map (root σ.par)):=by unfold keyOf;rw [hnd]
 have zz:=ok.nok nd (List.mem_of_getElem? hnd)
 have ndl:=zz.1
 have ndk:=zz.2
 refine zAo ["self","n"] (fd337 _).h rfl (vl2 fun _ _=> rfl) rfl rfl (by exact omB) fun L X=> ?_
 walk_at "w"
 refine zA5 (.head _) rfl zGk ?_
 refine ⟨_,zE6 (by walk_at "mm"),?_⟩
 walk_at "w"
 refine ⟨_,zA1 (.head _) zH9 rfl,?_⟩
 walk_at "w"
 refine Cd.call (zRl HAt.of ok.pok hnd (by rw [pl];exact ndk) (by exact omT) (by exact omE) (by exact omT) (by show 2 < C.n - 1;exact omR) ?_)
 rw [← hko]
 walk_at "w"
 cases hd:dget (keyOf σ n) σ.known with
 | some o =>
  have ho:o < σ.nodes.length:=ok.kl _ (zC5 hd)
  refine zCk (by walk_at "mm") (zHf _) (by rw [zJp,hd];rfl) (by unfold knO;exact omMap ‹_› rfl) ?_
  walk_at "w"
  refine ⟨_,zA1 (.head _) zAb rfl,?_⟩
  walk_at "w"
  refine Cd.call (zBb HAt.of ok.pok (by exact omM) (by exact omE) (by show 1 < C.n - 1;exact omR) ?_)
  walk_at "w"
  refine ⟨_,zA1 (.head _) zAb rfl,?_⟩
  walk_at "w"
  refine Cd.call (zBb HAt.of ok.pok (by exact omM) (by exact omE) (by show 1 < C.n - 1;exact omR) ?_)
  refine zAh ?_
  unfold lookS at q
  rw [hd] at q
  dsimp only at q
  refine zA0 ⟨fun e=> ?_,fun e=> ?_⟩
  ·have hne:root σ.par o ≠ root σ.par n:=fun z=> by rw [z] at e;simp at e
   rw [if_neg hne] at q
   walk_at "w"
   refine ⟨_,zA1 (.head _) zE3 rfl,?_⟩
   walk_at "w"
   refine ⟨by exact om0 rfl,?_⟩
   walk_at "w"
   refine Cd.call (zLs ok jo hez ho hn (by show 2 < C.n - 1;exact omR) fun j' hj=> ?_)
   walk_at "w"
   exact ⟨_,Weak.refl _,q j' hj⟩
  ·have he:root σ.par o = root σ.par n:=by
     rw [Bool.not_eq_false'] at e
     exact Int.ofNat_inj.mp (of_decide_eq_true e)
   rw [if_pos he] at q
   walk_at "w"
   exact ⟨_,Weak.refl _,q j jo⟩
 | none =>
  refine zD3 (by walk_at "mm") (zHf _) (by rw [zJp,hd];rfl) (by unfold knO;exact omMap ‹_› rfl) ?_
  rw [zQn hd]
  unfold lookS at q
  rw [hd] at q
  dsimp only at q
  have at1:HAt (HpH r { σ with known:=σ.known ++ [(keyOf σ n,n)] } j K) r σ.nodes σ.par:=HAt.of (σ:={ σ with known:=σ.known ++ [(keyOf σ n,n)] })
  walk_at "w"
  refine ⟨_,zA1 (.head _) zAb rfl,?_⟩
  walk_at "w"
  refine Cd.call (zBb at1 ok.pok (by exact omM) (by exact omE) (by show 1 < C.n - 1;exact omR) ?_)
  walk_at "w"
  refine ⟨_,zA1 (.head _) zAb rfl,?_⟩
  walk_at "w"
  refine Cd.call (zBb at1 ok.pok (by exact omM) (by exact omE) (by show 1 < C.n - 1;exact omR) ?_)
  refine zAh ?_
  refine zA0 ⟨fun e=> by simp at e,fun e=> ?_⟩
  walk_at "w"
  exact ⟨_,Weak.refl _,q j ⟨jo.wl,jo.dl,jo.ll,jo.lz,jo.mz,jo.fz,jo.av,jo.wz⟩⟩
end
theorem zHi {σ:Hs} {n:Nat}:(lookS σ n).known.length ≤ σ.known.length + 1:=by
 unfold lookS
 split
 ·split
  ·exact Nat.le_succ _
  ·unfold joinS
   split <;> exact Nat.le_succ _
 ·simp
section
variable {C:Cx} {m:Loc} {H:AH}
theorem zI8 {r:WrA} {σ:Hs} {j:Jk} {K:AH} {Q} (hz:σ.waiting.length ≤ 100000) (hr:0 < C.n) (q:Q (.bool (decide (σ.waiting = []))) m (HpH r σ j K)):Cd C m (HpH r σ j K) (.ref 379) [.ref r.w] Q:=by
 refine zAo ["self"] (fd379 _).h rfl (vl1 fun _=> rfl) rfl rfl (by assumption) fun L X=> ?_
 walk_at "w"
 refine zA5 (.head _) rfl zB7 ?_
 walk_at "w"
 refine zA2 (by walk_at "mm") (by simp [nl];exact omT) ?_
 walk_at "w"
 refine zB5 ?_
 have e:decide (((nl σ.waiting).length:Int) = 0) = decide (σ.waiting = []):=by
  rw [decide_eq_decide,zAq]
  simp
 rw [e]
 exact ⟨_,Weak.refl _,q⟩
theorem zQd (w:List Nat) (x:Nat):nl (w ++ [x]) = nl w ++ [V.int x]:=by simp [nl]
inductive InvS (r:WrA) (τ:Hs) (K:AH) (n:Nat) (m':Loc) (H':AH):Prop
 | mk (e:m' = ([("self",V.ref r.w)]:Loc)) (σ':Hs) (j':Jk) (eH:H' = HpH r σ' j' K) (ok:HsOk σ') (jo:JOk σ' j') (run:Runs σ' n τ) (ez:σ'.edges.length + zA7 σ'.par ≤ 900) (kz:σ'.known.length + n ≤ 900000)
theorem zI7 {r:WrA} {σ τ:Hs} {j:Jk} {K:AH} {k:Nat} {Q} (ok:HsOk σ) (jo:JOk σ j) (run:Runs σ k τ) (hez:σ.edges.length + zA7 σ.par ≤ 900) (hkz:σ.known.length + k ≤ 900000) (hr:4 < C.n)
    (q:∀ j',HsOk τ → JOk τ j' → Q .none m (HpH r τ j' K)):Cd C m (HpH r σ j K) (.ref 372) [.ref r.w] Q:=by
 refine zAo ["self"] (fd372 _).h rfl (vl1 fun _=> rfl) rfl rfl (by exact omB) fun L X=> ?_
 refine zKc (InvS r τ K) k
  ⟨rfl,σ,j,rfl,ok,jo,run,hez,hkz⟩ fun X n m' H' hI=> ?_
 obtain ⟨rfl,σ',j',rfl,ok',jo',run',hez',hkz'⟩:=hI
 have wz:=jo'.wz
 have mz:=jo'.mz
 have nz:=ok'.nz
 have pl:=ok'.pl
 walk_at "w"
 refine zA5 (.head _) rfl zB7 ?_
 walk_at "w"
 refine zA2 (by walk_at "mm") (by simp [nl];lia) ?_
 walk_at "w"
 refine zLx ?_
 rw [zAq]
 refine zA0 ⟨fun e=> ?_,fun e=> ?_⟩
 ·cases run' with
  | done hw=> rw [hw] at e;simp at e
  | @step _ _ n x w hw rest =>
   walk_at "w"
   refine ⟨_,zA1 (.head _) zD7 rfl,?_⟩
   walk_at "w"
   refine zA5 (.head _) rfl zB7 ?_
   refine ⟨_,zSq (by walk_at "mm"),?_⟩
   have hnl:nl σ'.waiting = nl w ++ [V.int x]:=by rw [hw,zQd]
   have hup:Upd r.wa (.list (nl w ++ [V.int x])) (.list (nl w)) (HpH r σ' j' K) (HpH r { σ' with waiting:=w } j' K):=by
    rw [← hnl]
    walk_at "mm"
   refine zU7 hup (by rw [zAq];have:=congrArg List.length hw;simp at this;lia) ?_
   walk_at "w"
   have hx:x < σ'.nodes.length:=ok'.wl x (by rw [hw];exact List.mem_append_right _ (.head _))
   have ok2:HsOk { σ' with waiting:=w }:=⟨ok'.nz,ok'.nok,ok'.pl,ok'.pok,ok'.kn,ok'.kr,ok'.us,ok'.az,fun n hn=> ok'.wl n (by rw [hw];simp [hn]),ok'.ul,ok'.kl⟩
   have wl:w.length ≤ σ'.waiting.length:=by rw [hw];simp
   have jo2:JOk { σ' with waiting:=w } j':=⟨jo'.wl,jo'.dl,jo'.ll,jo'.lz,jo'.mz,jo'.fz,jo'.av,Nat.le_trans wl jo'.wz⟩
   refine Cd.call (zLr ok2 jo2 (by show σ'.edges.length ≤ 900;lia) (by show σ'.known.length ≤ 900000;lia) hx (by show 3 < C.n - 1;exact omR) fun j2 hj2=> ?_)
   walk_at "w"
   have e1:=zNn ok2 hx
   have e2:=zHi (σ:={ σ' with waiting:=w }) (n:=x)
   have e1':(lookS { σ' with waiting:=w } x).edges.length + zA7 (lookS { σ' with waiting:=w } x).par = σ'.edges.length + zA7 σ'.par:=e1
   have e2':(lookS { σ' with waiting:=w } x).known.length ≤ σ'.known.length + 1:=e2
   exact ⟨n,Nat.lt_succ_self _,rfl,_,j2,rfl,zNm ok2 hx,hj2,rest,by exact omE,by lia⟩
 ·have hw:σ'.waiting = []:=by
    have:¬ (0:Int) < ((σ'.waiting.length:Nat):Int):=of_decide_eq_false e
    exact List.length_eq_zero_iff.mp (by lia)
  cases run' with
  | step hw' rest=> rw [hw] at hw';simp at hw'
  | done _ =>
   walk_at "w"
   exact ⟨_,Weak.refl _,q j' ok' jo'⟩
end
noncomputable def users (nodes:List Node) (c:Nat):List Nat:=nodes.zipIdx.filterMap fun p=> if c ∈ p.1.2 then some p.2 else none
noncomputable def zA9 (nodes:List Node):List (Nat × List Nat):=(List.range nodes.length).map fun c=> (c,users nodes c)
noncomputable def zAd (nodes:List Node) (rows:List V):Hs:=⟨nodes,List.range nodes.length,[],nodes.zipIdx,zA9 nodes,[],rows⟩
inductive Built:List Node → Prop
 | nil:Built []
 | snoc {nodes:List Node} {nd:Node}:Built nodes → nd ∉ nodes → zE0 nd.1 = true → nd.2.length ≤ 4 → (∀ k ∈ nd.2,k < nodes.length) → Built (nodes ++ [nd])
theorem zIu (nodes:List Node) (nd:Node) (c:Nat):users (nodes ++ [nd]) c = users nodes c ++ (if c ∈ nd.2 then [nodes.length] else []):=by
 unfold users
 rw [List.zipIdx_append,List.filterMap_append]
 congr 1
 show List.filterMap _ [(nd,0 + nodes.length)] = _
 rw [Nat.zero_add]
 by_cases h:c ∈ nd.2
 ·rw [if_pos h]
  simp [h]
 ·rw [if_neg h]
  simp [h]
theorem zOb {nodes:List Node} (h:∀ nd ∈ nodes,∀ k ∈ nd.2,k < nodes.length) {c:Nat} (hc:nodes.length ≤ c):users nodes c = []:=by
 unfold users
 rw [List.filterMap_eq_nil_iff]
 rintro ⟨nd,i⟩ hp
 have:=(List.mem_zipIdx hp).2.2
 have hm:nd ∈ nodes:=by rw [this];exact List.getElem_mem _
 exact if_neg fun q=> by have:=h nd hm c q;lia
theorem zSb {nodes:List Node} {c n:Nat} (h:n ∈ users nodes c):n < nodes.length:=by
 unfold users at h
 obtain ⟨⟨nd,i⟩,hp,e⟩:=List.mem_filterMap.mp h
 dsimp only at e
 split at e
 ·cases e
  have:=(List.mem_zipIdx hp).2.1
  lia
 ·exact nS e
theorem Built.ok {nodes:List Node} (h:Built nodes):∀ nd ∈ nodes,nd.2.length ≤ 4 ∧ ∀ k ∈ nd.2,k < nodes.length:=by
 induction h with
 | nil=> intro nd h;exact nM h
 | snoc _ _ _ h1 h2 ih =>
  intro nd hn
  rw [List.length_append]
  rcases List.mem_append.mp hn with hn | hn
  ·exact ⟨(ih nd hn).1,fun k hk=> Nat.lt_succ_of_lt ((ih nd hn).2 k hk)⟩
  ·rw [List.mem_singleton.mp hn]
   exact ⟨h1,fun k hk=> Nat.lt_succ_of_lt (h2 k hk)⟩
theorem zE8 {nodes:List Node} {nd:Node} (h:∀ nd ∈ nodes,∀ k ∈ nd.2,k < nodes.length) :
    zA9 (nodes ++ [nd]) = (zA9 nodes ++ [(nodes.length,[])]).map fun p:Nat × List Nat=> if p.1 ∈ nd.2 then (p.1,p.2 ++ [nodes.length]) else p:=by
 unfold zA9
 rw [List.length_append,List.length_singleton,List.range_succ,List.map_append,List.map_append,List.map_map]
 congr 1
 ·refine List.map_congr_left fun c _=> ?_
  show (c,users (nodes ++ [nd]) c) = if c ∈ nd.2 then (c,users nodes c ++ [nodes.length]) else (c,users nodes c)
  rw [zIu]
  split <;> simp
 ·show [(nodes.length,users (nodes ++ [nd]) nodes.length)] = [if nodes.length ∈ nd.2 then (nodes.length,[] ++ [nodes.length]) else (nodes.length,[])]
  rw [zIu,zOb h (Nat.le_refl _)]
  split <;> simp
theorem zGv (l l':List (Nat × List Nat)):usum (l ++ l') = usum l + usum l':=by unfold usum;rw [List.map_append,List.sum_append]
theorem zSa (n:Nat) (ks:List Nat):∀ (l:List (Nat × List Nat)),(l.map (·.1)).Nodup → usum (l.map fun p=> if p.1 ∈ ks then (p.1,p.2 ++ [n]) else p) ≤ usum l + ks.length:=by
 induction ks with
 | nil =>
  intro l _
  have:l.map (fun p=> if p.1 ∈ ([]:List Nat) then (p.1,p.2 ++ [n]) else p) = l:=by
   have:l.map (fun p=> if p.1 ∈ ([]:List Nat) then (p.1,p.2 ++ [n]) else p) = l.map id:=List.map_congr_left fun p _=> by exact rfl
   rw [this,List.map_id]
  rw [this];exact Nat.le_refl _
 | cons k ks ih =>
  intro l nd
  by_cases hk:k ∈ ks
  ·have:l.map (fun p=> if p.1 ∈ k :: ks then (p.1,p.2 ++ [n]) else p) = l.map (fun p=> if p.1 ∈ ks then (p.1,p.2 ++ [n]) else p):=List.map_congr_left fun p _=> by
     have:p.1 ∈ k :: ks ↔ p.1 ∈ ks:=⟨fun h=> (List.mem_cons.mp h).elim (fun e=> e ▸ hk) id,.tail _⟩
     simp only [this]
   rw [this]
   exact Nat.le_trans (ih l nd) (by simp)
  ·have e:l.map (fun p=> if p.1 ∈ k :: ks then (p.1,p.2 ++ [n]) else p) = (l.map fun p=> if p.1 ∈ ks then (p.1,p.2 ++ [n]) else p).map fun p=> if p.1 = k then (p.1,p.2 ++ [n]) else p:=by
     rw [List.map_map]
     refine List.map_congr_left fun p _=> ?_
     show _ = (fun z:Nat × List Nat=> if z.1 = k then (z.1,z.2 ++ [n]) else z) (if p.1 ∈ ks then (p.1,p.2 ++ [n]) else p)
     by_cases h1:p.1 ∈ ks
     ·rw [if_pos h1,if_pos (.tail _ h1)]
      exact (if_neg (fun q:p.1 = k=> hk (q ▸ h1))).symm
     ·rw [if_neg h1]
      by_cases h2:p.1 = k
      ·rw [if_pos (h2 ▸ .head _)]
       exact (if_pos h2).symm
      ·rw [if_neg (fun q=> (List.mem_cons.mp q).elim h2 h1)]
       exact (if_neg h2).symm
   rw [e]
   have keys:(l.map fun p=> if p.1 ∈ ks then (p.1,p.2 ++ [n]) else p).map (·.1) = l.map (·.1):=by
    rw [List.map_map]
    refine List.map_congr_left fun p _=> ?_
    show (if p.1 ∈ ks then (p.1,p.2 ++ [n]) else p).1 = p.1
    split <;> rfl
   have h1:=zN9 (l:=l.map fun p=> if p.1 ∈ ks then (p.1,p.2 ++ [n]) else p) (by rw [keys];exact nd) k [n]
   have h2:=ih l nd
   simp only [List.length_cons,List.length_nil] at h1 ⊢
   lia
theorem zBj (nodes:List Node):(zA9 nodes).map (·.1) = List.range nodes.length:=by
 unfold zA9
 rw [List.map_map]
 have:(List.range nodes.length).map ((fun p:Nat × List Nat=> p.1) ∘ fun c=> (c,users nodes c)) = (List.range nodes.length).map id:=List.map_congr_left fun _ _=> rfl
 rw [this,List.map_id]
theorem Built.usum {nodes:List Node} (h:Built nodes):Mine.usum (zA9 nodes) ≤ 4 * nodes.length:=by
 induction h with
 | nil=> exact Nat.zero_le _
 | @snoc nodes nd hb _ _ h1 h2 ih =>
  rw [zE8 fun nd hn=> (hb.ok nd hn).2]
  refine Nat.le_trans (zSa _ _ _ ?_) ?_
  ·rw [List.map_append,zBj]
   have:=List.nodup_range (n:=nodes.length + 1)
   rw [List.range_succ] at this
   exact this
  ·rw [zGv,List.length_append]
   show Mine.usum (zA9 nodes) + 0 + nd.2.length ≤ _
   simp only [List.length_cons,List.length_nil]
   lia
theorem zFu {n i:Nat}:(List.range n).getD i i = i:=by
 rw [List.getD_eq_getElem?_getD]
 cases q:(List.range n)[i]? with
 | none=> rfl
 | some x =>
  obtain ⟨h,e⟩:=List.getElem?_eq_some_iff.mp q
  rw [List.getElem_range] at e
  exact e.symm
theorem zDo (n:Nat):ParOk (List.range n):=fun i x e=> by
 obtain ⟨h,e⟩:=List.getElem?_eq_some_iff.mp e
 rw [List.getElem_range] at e
 lia
theorem zCq (n a:Nat):root (List.range n) a = a:=by rw [zCt (zDo n),if_pos zFu]
theorem zE5 (n:Nat):zA7 (List.range n) = n:=by
 unfold zA7
 rw [List.length_range]
 have:(List.range n).countP (fun i=> decide ((List.range n).getD i i = i)) = (List.range n).length:=List.countP_eq_length.mpr fun i _=> decide_eq_true zFu
 rw [this,List.length_range]
theorem zNt {nodes:List Node} {rows:List V} (h:Built nodes) (hz:nodes.length ≤ 19):HsOk (zAd nodes rows):=by
 have us:=h.usum
 refine ⟨hz,fun nd hn=> h.ok nd hn,List.length_range,zDo _,?_,fun c hc _=> ?_,?_,?_,(by simp [zAd]),fun p hp n hn=> ?_,fun p hp=> ?_⟩
 ·show ((zA9 nodes).map (·.1)).Nodup
  rw [zBj];exact List.nodup_range
 ·show c ∈ (zA9 nodes).map (·.1)
  rw [zBj]
  have hc:c < (List.range nodes.length).length:=hc
  rw [List.length_range] at hc
  exact List.mem_range.mpr hc
 ·show Mine.usum (zA9 nodes) ≤ 100
  lia
 ·show (zA9 nodes).length ≤ 100
  unfold zA9
  rw [List.length_map,List.length_range];exact omT
 ·have hp:p ∈ zA9 nodes:=hp
  unfold zA9 at hp
  obtain ⟨c,_,rfl⟩:=List.mem_map.mp hp
  exact zSb hn
 ·obtain ⟨nd,i⟩:=p
  have:=(List.mem_zipIdx (show (nd,i) ∈ nodes.zipIdx from hp)).2.1
  show i < nodes.length
  lia
noncomputable abbrev HpB (r:WrA) (σ:Hs) (j:Jk) (K:AH):AH :=
 (r.w,.inst 474 r.wd (wfs r)) :: (r.ed,.list σ.edges) :: (r.fo,.list j.forest) :: (r.kn,.dictT (knO σ.known)) :: (r.av,.dictA (avK j.abv)) :: (r.wa,.list (nl σ.waiting)) :: (r.ro,.list σ.rows) ::
 UnH r.u σ.par j.lots j.mgd (j.abv.map avO ++ K)
theorem zVi {r:WrA} {σ:Hs} {j:Jk} {K:AH} {nodes:List Node} {ws ds:List Int} :
    Weak (HpH r { σ with nodes:=nodes } { j with ws:=ws,ds:=ds } K) (BkH r.b nodes ws ds (HpB r σ j K)) :=
 Weak.perm (List.perm_append_comm_assoc [_,_,_,_,_,_,_] [_,_,_,_,_] (UnH r.u σ.par j.lots j.mgd (j.abv.map avO ++ K)))
theorem zVj {r:WrA} {σ:Hs} {j:Jk} {K:AH} {nodes:List Node} {ws ds:List Int} :
    Weak (BkH r.b nodes ws ds (HpB r σ j K)) (HpH r { σ with nodes:=nodes } { j with ws:=ws,ds:=ds } K) :=
 Weak.perm (List.perm_append_comm_assoc [_,_,_,_,_,_,_] [_,_,_,_,_] (UnH r.u σ.par j.lots j.mgd (j.abv.map avO ++ K))).symm
theorem zRd {c n:Nat} {a:Addr} {u:List Nat} {K:AH}:∀ {abv:List (Nat × Addr × List Nat)},(abv.map (·.1)).Nodup → (c,a,u) ∈ abv →
    Upd a (.list (nl u)) (.list (nl u ++ [V.int n])) (abv.map avO ++ K) ((abv.map fun p=> if p.1 = c then (p.1,p.2.1,p.2.2 ++ [n]) else p).map avO ++ K):=by
 intro abv
 induction abv with
 | nil =>
  intro _ hm
  cases hm
 | cons p r ih =>
  intro nd hm
  obtain ⟨c',a',u'⟩:=p
  rw [List.map_cons,List.nodup_cons] at nd
  rcases List.mem_cons.mp hm with e | hm'
  ·cases e
   have:r.map (fun p=> if p.1 = c then (p.1,p.2.1,p.2.2 ++ [n]) else p) = r:=by
    have:r.map (fun p=> if p.1 = c then (p.1,p.2.1,p.2.2 ++ [n]) else p) = r.map id:=List.map_congr_left fun p hp=> if_neg fun q=> nd.1 (by rw [← q];exact List.mem_map.mpr ⟨_,hp,rfl⟩)
    rw [this,List.map_id]
   rw [List.map_cons (f:=fun p:Nat × Addr × List Nat=> if p.1 = c then (p.1,p.2.1,p.2.2 ++ [n]) else p),if_pos rfl,this]
   show Upd a _ _ ((a,.list (nl u)) :: _) ((a,.list (nl (u ++ [n]))) :: _)
   rw [zQd]
   exact .head
  ·have ck:c' ≠ c:=fun q=> nd.1 (by rw [q];exact List.mem_map.mpr ⟨_,hm',rfl⟩)
   rw [List.map_cons (f:=fun p:Nat × Addr × List Nat=> if p.1 = c then (p.1,p.2.1,p.2.2 ++ [n]) else p),if_neg ck]
   exact .tail (ih nd.2 hm')
section
variable {C:Cx} {m:Loc} {H:AH}
theorem zW6 {r:WrA} {σ:Hs} {j:Jk} {K:AH} {nd:Node} {Q} (hx:zE0 nd.1 = true) (hnew:nd ∉ σ.nodes) (hk:∀ k ∈ nd.2,k < σ.nodes.length) (hkl:nd.2.length ≤ 10) (hz:σ.nodes.length ≤ 100) (hw:j.ws.length = σ.nodes.length) (hd:j.ds.length = σ.nodes.length)
    (hr:2 < C.n) (q:∀ a b,Q (.int σ.nodes.length) m (HpH r { σ with nodes:=σ.nodes ++ [nd] } { j with ws:=j.ws ++ [a],ds:=j.ds ++ [b] } K)):Cd C m (HpH r σ j K) (.ref 128) [.ref r.b.bk,.str nd.1,.tup (nd.2.map fun k:Nat=> .int k)] Q:=by
 refine Cd.weakPre (zVi (σ:=σ) (j:=j)) (Cd.weakPost (Q:=WkM m Q) (zS4 hx hnew hk hkl hz hw hd hr fun a b=> ⟨rfl,_,zVj,q a b⟩) fun v m' H' h=> ?_)
 obtain ⟨rfl,H'',w,q⟩:=h
 exact ⟨H'',w,q⟩
theorem zW7 {r:WrA} {σ:Hs} {j:Jk} {K:AH} {Q} (hz:σ.par.length ≤ 100) (hl:j.lots.length = σ.par.length) (hr:0 < C.n)
    (q:∀ a x,Q (.int σ.par.length) m (HpH r { σ with par:=σ.par ++ [σ.par.length] } { j with lots:=j.lots ++ [(a,[x])] } K)):Cd C m (HpH r σ j K) (.ref 231) [.ref r.u.un] Q:=by
 refine Cd.weakPre (zQr (σ:=σ) (j:=j)) (Cd.weakPost (Q:=WkM m Q) (zMt hz hl hr fun a x=> ⟨rfl,_,zMi,q a x⟩) fun v m' H' h=> ?_)
 refine bc fun nn=> ?_
 obtain ⟨rfl,H'',w,q⟩:=h
 refine nn ?_
 exact ⟨H'',w,q⟩
theorem hp_in {r:WrA} {σ:Hs} {j:Jk} {K:AH} {p:Addr × AObj}:List.Perm (p :: HpH r σ j K) (HpH r σ j (p :: K)):=by
 have h3:List.Perm (p :: (j.abv.map avO ++ K)) (j.abv.map avO ++ p :: K):=List.perm_middle.symm
 have h2:List.Perm (p :: (j.lots.map lotO ++ (j.abv.map avO ++ K))) (j.lots.map lotO ++ (j.abv.map avO ++ p :: K)):=List.perm_middle.symm.trans (h3.append_left _)
 exact (List.perm_middle (l₁:=[_,_,_,_,_,_,_,_,_,_,_,_,_,_,_,_]) (l₂:=j.lots.map lotO ++ (j.abv.map avO ++ K))).symm.trans (h2.append_left _)
inductive FrB (m:Loc) (r:WrA) (K:AH) (R:V → Hs → Jk → Prop) (v:V) (m':Loc) (H':AH):Prop
 | mk (e:m' = m) (σ':Hs) (j':Jk) (eH:H' = HpH r σ' j' K) (h:R v σ' j')
inductive FrF (m:Loc) (p:Addr × AObj) (r:WrA) (K:AH) (R:V → Hs → Jk → Prop) (v:V) (m':Loc) (H':AH):Prop
 | mk (e:m' = m) (σ':Hs) (j':Jk) (eH:H' = p :: HpH r σ' j' K) (h:R v σ' j')
theorem front {r:WrA} {σ:Hs} {j:Jk} {K:AH} {p:Addr × AObj} {f:V} {args:List V} (R:V → Hs → Jk → Prop) (h:∀ K',Cd C m (HpH r σ j K') f args (FrB m r K' R)) :
    Cd C m (p :: HpH r σ j K) f args (FrF m p r K R):=by
 refine Cd.weakPre (Weak.perm hp_in) (Cd.weakPost (h (p :: K)) fun v m' H' q=> ?_)
 obtain ⟨rfl,σ',j',rfl,z⟩:=q
 exact ⟨_,Weak.perm hp_in.symm,rfl,σ',j',rfl,z⟩
theorem deep {E Lo Av K:AH} {p:Addr × AObj}:List.Perm (p :: (E ++ (Lo ++ (Av ++ K)))) (E ++ (Lo ++ (Av ++ p :: K))) :=
 (List.perm_middle (l₁:=E)).symm.trans (((List.perm_middle (l₁:=Lo)).symm.trans ((List.perm_middle (l₁:=Av)).symm.append_left _)).append_left _)
noncomputable def addU (abv:List (Nat × Addr × List Nat)) (n:Nat) (cs:List Nat):List (Nat × Addr × List Nat):=abv.map fun p=> if p.1 ∈ cs then (p.1,p.2.1,p.2.2 ++ [n]) else p
theorem zTd (abv:List (Nat × Addr × List Nat)) (n:Nat):addU abv n [] = abv:=by
 unfold addU
 have:abv.map (fun p=> if p.1 ∈ ([]:List Nat) then (p.1,p.2.1,p.2.2 ++ [n]) else p) = abv.map id:=List.map_congr_left fun p _=> by exact rfl
 rw [this,List.map_id]
theorem zTe (abv:List (Nat × Addr × List Nat)) (n:Nat) (cs:List Nat):(addU abv n cs).map (·.1) = abv.map (·.1):=by
 unfold addU
 rw [List.map_map]
 refine List.map_congr_left fun p _=> ?_
 show (if p.1 ∈ cs then (p.1,p.2.1,p.2.2 ++ [n]) else p).1 = p.1
 split <;> rfl
theorem zUn (abv:List (Nat × Addr × List Nat)) (n:Nat) (cs:List Nat):avK (addU abv n cs) = avK abv:=by
 unfold addU avK
 rw [List.map_map]
 refine List.map_congr_left fun p _=> ?_
 show (fun p:Nat × Addr × List Nat=> (Atom.i p.1,V.ref p.2.1)) (if p.1 ∈ cs then (p.1,p.2.1,p.2.2 ++ [n]) else p) = _
 split <;> rfl
theorem zRc (abv:List (Nat × Addr × List Nat)) (n c:Nat) (cs:List Nat) (h:c ∉ cs):(addU abv n cs).map (fun p=> if p.1 = c then (p.1,p.2.1,p.2.2 ++ [n]) else p) = addU abv n (cs ++ [c]):=by
 unfold addU
 rw [List.map_map]
 refine List.map_congr_left fun p _=> ?_
 show (fun p:Nat × Addr × List Nat=> if p.1 = c then (p.1,p.2.1,p.2.2 ++ [n]) else p) (if p.1 ∈ cs then (p.1,p.2.1,p.2.2 ++ [n]) else p) = _
 by_cases h1:p.1 ∈ cs
 ·rw [if_pos h1,if_pos (List.mem_append_left _ h1)]
  exact if_neg fun q:p.1 = c=> h (q ▸ h1)
 ·rw [if_neg h1]
  by_cases h2:p.1 = c
  ·rw [if_pos (by rw [h2];exact List.mem_append_right _ (.head _))]
   exact if_pos h2
  ·rw [if_neg (by simp [h1,h2])]
   exact if_neg h2
theorem zPb (abv:List (Nat × Addr × List Nat)) (n:Nat) (cs:List Nat):(addU abv n cs).map (fun p=> (p.1,p.2.2)) = (abv.map fun p=> (p.1,p.2.2)).map fun p=> if p.1 ∈ cs then (p.1,p.2 ++ [n]) else p:=by
 unfold addU
 rw [List.map_map,List.map_map]
 refine List.map_congr_left fun p _=> ?_
 show (fun p:Nat × Addr × List Nat=> (p.1,p.2.2)) (if p.1 ∈ cs then (p.1,p.2.1,p.2.2 ++ [n]) else p) = if p.1 ∈ cs then (p.1,p.2.2 ++ [n]) else (p.1,p.2.2)
 split <;> rfl
theorem zVt {abv:List (Nat × Addr × List Nat)} {N:Nat} {A:Addr} (h:N ∉ abv.map (·.1)):dput (Atom.i N) (V.ref A) (avK abv) = avK (abv ++ [(N,A,[])]):=by
 induction abv with
 | nil=> rfl
 | cons p r ih =>
  obtain ⟨c,a,u⟩:=p
  rw [List.map_cons,List.mem_cons,not_or] at h
  show dput (Atom.i N) (V.ref A) ((Atom.i c,V.ref a) :: avK r) = _
  rw [zDl]
  rw [if_neg (fun q=> h.1 (zEd q)),ih h.2];rfl
theorem zEb {κ κ':Type} [DecidableEq κ] [DecidableEq κ'] {f:κ → κ'} (hf:∀ a b,f a = f b → a = b) (l:List κ):dedup (l.map f) = (dedup l).map f:=by
 have gen:∀ (l acc:List κ),(l.map f).foldl zC1 (acc.map f) = (l.foldl zC1 acc).map f:=by
  intro l
  induction l with
  | nil=> intro acc;rfl
  | cons a r ih =>
   intro acc
   rw [List.map_cons,List.foldl_cons,List.foldl_cons,← ih]
   congr 1
   unfold zC1
   have:f a ∈ acc.map f ↔ a ∈ acc:=⟨fun h=> by obtain ⟨b,hb,e⟩:=List.mem_map.mp h;exact hf _ _ e ▸ hb,fun h=> List.mem_map.mpr ⟨a,h,rfl⟩⟩
   by_cases h:a ∈ acc
   ·rw [if_pos h,if_pos (this.mpr h)]
   ·rw [if_neg h,if_neg (fun q=> h (this.mp q)),List.map_append];rfl
 exact gen l []
theorem zHu {κ:Type} [DecidableEq κ] (l:List κ):(dedup l).Nodup ∧ (∀ x,x ∈ dedup l ↔ x ∈ l) ∧ (dedup l).length ≤ l.length:=by
 have gen:∀ (l acc:List κ),acc.Nodup → (l.foldl zC1 acc).Nodup ∧ (∀ x,x ∈ l.foldl zC1 acc ↔ x ∈ acc ∨ x ∈ l) ∧ (l.foldl zC1 acc).length ≤ acc.length + l.length:=by
  intro l
  induction l with
  | nil=> intro acc h;exact ⟨h,fun x=> by simp,Nat.le_refl _⟩
  | cons a r ih =>
   intro acc h
   rw [List.foldl_cons,show zC1 acc a = if a ∈ acc then acc else acc ++ [a] from rfl]
   by_cases q:a ∈ acc
   ·rw [if_pos q]
    refine bc fun nn=> ?_
    obtain ⟨h1,h2,h3⟩:=ih acc h
    refine nn ?_
    refine ⟨h1,fun x=> ?_,by simp;with_reducible exact omI (by walk_at "a")⟩
    rw [h2]
    exact ⟨fun z=> z.elim .inl (fun z=> .inr (.tail _ z)),fun z=> z.elim .inl fun z=> (List.mem_cons.mp z).elim (fun e=> .inl (e ▸ q)) .inr⟩
   ·rw [if_neg q]
    have nd':(acc ++ [a]).Nodup:=by
     refine List.nodup_append.mpr ⟨h,by simp,fun x hx y hy e=> q ?_⟩
     have:y = a:=by simpa using hy
     rw [← this,← e];exact hx
    refine bc fun nn=> ?_
    obtain ⟨h1,h2,h3⟩:=ih (acc ++ [a]) nd'
    refine nn ?_
    refine ⟨h1,fun x=> ?_,by simp at h3 ⊢;lia⟩
    rw [h2]
    simp only [List.mem_append,List.mem_cons,List.not_mem_nil,or_false]
    exact ⟨fun z=> z.elim (fun z=> z.elim .inl fun e=> .inr (.inl e)) fun z=> .inr (.inr z),fun z=> z.elim (fun z=> .inl (.inl z)) fun z=> z.elim (fun e=> .inl (.inr e)) .inr⟩
 refine bc fun nn=> ?_
 obtain ⟨h1,h2,h3⟩:=gen l [] List.nodup_nil
 refine nn ?_
 exact ⟨h1,fun x=> by rw [dedup,h2];simp,by simpa [dedup] using h3⟩
theorem zUw {l:List (Nat × List Nat)} {c:Nat} {u:List Nat} (h:(c,u) ∈ l):u.length ≤ usum l:=by
 induction l with
 | nil=> cases h
 | cons p r ih =>
  show u.length ≤ p.2.length + usum r
  rcases List.mem_cons.mp h with e | h
  ·rw [← e];exact Nat.le_add_right _ _
  ·exact Nat.le_trans (ih h) (Nat.le_add_left _ _)
inductive zW2 (ms:List Int) (l:List Nat):Prop
 | mk (cs:List Nat) (e:ms = cs.map (fun k:Nat=> (k:Int))) (p:cs.Perm l)
theorem zSm {ms:List Int} {l:List Nat} (pm:ms.Perm (l.map fun k:Nat=> (k:Int))):zW2 ms l:=by
 have e:ms = (ms.map Int.toNat).map fun k:Nat=> (k:Int):=by
  rw [List.map_map]
  have:ms.map ((fun k:Nat=> (k:Int)) ∘ Int.toNat) = ms.map id:=List.map_congr_left fun x hx=> by
   obtain ⟨k,_,rfl⟩:=List.mem_map.mp (pm.mem_iff.mp hx)
   rfl
  rw [this,List.map_id]
 have z:=pm.map Int.toNat
 rw [List.map_map] at z
 have e2:l.map (Int.toNat ∘ fun k:Nat=> (k:Int)) = l:=by
  have:l.map (Int.toNat ∘ fun k:Nat=> (k:Int)) = l.map id:=List.map_congr_left fun _ _=> rfl
  rw [this,List.map_id]
 rw [e2] at z
 exact ⟨ms.map Int.toNat,e,z⟩
theorem zSn {cs:List Nat} {c i:Nat} (cn:cs.Nodup) (hc:cs[i]? = some c):c ∉ cs.take i:=fun hm=> by
 have hi:i < cs.length:=(List.getElem?_eq_some_iff.mp hc).1
 obtain ⟨k,hk1,hk2⟩:=List.mem_iff_getElem.mp hm
 rw [List.length_take] at hk1
 rw [List.getElem_take] at hk2
 have e1:cs[i]'hi = c:=(List.getElem?_eq_some_iff.mp hc).2
 exact List.pairwise_iff_getElem.mp (List.nodup_iff_pairwise_ne.mp cn) k i (by lia) hi (by lia) (by rw [hk2,e1])
@[reducible] noncomputable def jT (j:Jk) (a b:Int):Jk:={ j with ws:=j.ws ++ [a],ds:=j.ds ++ [b] }
@[reducible] noncomputable def jM (j:Jk) (a b:Int) (a':Addr) (x:V):Jk:={ j with ws:=j.ws ++ [a],ds:=j.ds ++ [b],lots:=j.lots ++ [(a',[x])] }
@[reducible] noncomputable def jV (j:Jk) (a b:Int) (a':Addr) (x:V) (v:List (Nat × Addr × List Nat)):Jk:={ j with ws:=j.ws ++ [a],ds:=j.ds ++ [b],lots:=j.lots ++ [(a',[x])],abv:=v }
@[reducible] noncomputable def sT (nodes:List Node) (rows:List V) (nd:Node):Hs:={ zAd nodes rows with nodes:=nodes ++ [nd] }
@[reducible] noncomputable def sP (nodes:List Node) (rows:List V) (nd:Node) (p:List Nat):Hs:={ zAd nodes rows with nodes:=nodes ++ [nd],par:=p }
@[reducible] noncomputable def sM (nodes:List Node) (rows:List V) (nd:Node):Hs:={ zAd nodes rows with nodes:=nodes ++ [nd],par:=List.range (nodes.length + 1) }
@[reducible] noncomputable def sV (nodes:List Node) (rows:List V) (nd:Node):Hs:={ zAd nodes rows with nodes:=nodes ++ [nd],par:=List.range (nodes.length + 1),above:=zA9 (nodes ++ [nd]) }
theorem zTm {r:WrA} {nodes:List Node} {rows:List V} {j:Jk} {K:AH} {nd:Node} {Q} (hb:Built nodes) (jo:JOk (zAd nodes rows) j) (hx:zE0 nd.1 = true) (hnew:nd ∉ nodes) (hk:∀ k ∈ nd.2,k < nodes.length) (hkl:nd.2.length ≤ 4) (hz:nodes.length ≤ 18)
    (hr:4 < C.n) (q:∀ j',JOk (zAd (nodes ++ [nd]) rows) j' → Q (.int nodes.length) m (HpH r (zAd (nodes ++ [nd]) rows) j' K)):Cd C m (HpH r (zAd nodes rows) j K) (.ref 323) [.ref r.w,.str nd.1,.tup (nd.2.map fun k:Nat=> .int k)] Q:=by
 have eP:List.range nodes.length ++ [(List.range nodes.length).length] = List.range (nodes.length + 1):=by rw [List.length_range,List.range_succ]
 refine zD2 ["self","op","numbers"] (fd323 _).h rfl (vl3 fun _ _ _=> rfl) rfl (fun _=> rfl) (fun _=> rfl) (fun _=> rfl) rfl (by exact omB) fun L X=> ?_
 change Ex _ [("op",.str nd.1),("numbers",.tup (nd.2.map fun k:Nat=> .int k))] ((L + 1,.cell (some (.ref r.w))) :: HpH r (zAd nodes rows) j K) _ _
 walk_at "w"
 refine zA5 (.tail _ (.head _)) rfl zC4 ?_
 refine ⟨_,zA1 (by walk_at "mm") zKx rfl,?_⟩
 walk_at "w"
 refine Cd.call (Cd.conseq (front (fun v σ' j'=> ∃ a b,v = .int nodes.length ∧ σ' = (sT nodes rows nd) ∧ j' = jT j a b)
  fun K'=> zW6 (σ:=zAd nodes rows) hx hnew hk (by exact omT) (by show nodes.length ≤ 100;exact omT) jo.wl jo.dl (by show 2 < C.n - 1;exact omR) fun a b=> ⟨rfl,_,_,rfl,a,b,rfl,rfl,rfl⟩) fun v m' H' h=> ?_)
 obtain ⟨rfl,σ',j',rfl,a,b,rfl,rfl,rfl⟩:=h
 walk_at "w"
 refine zA5 (.tail _ (.head _)) rfl zBt ?_
 refine ⟨_,zA1 (by walk_at "mm") zIj rfl,?_⟩
 refine Cd.call (zMs (l:=nl (List.range nodes.length)) (by walk_at "mm") rfl (by walk_at "mm") (by simp [nl];exact omT) (by show 0 < C.n - 1;exact omR) ?_)
 refine zEh ?_
 rw [zAq,List.length_range]
 refine zA0 ⟨fun e=> by simp at e,fun _=> ?_⟩
 walk_at "w"
 refine zA5 (.tail _ (.head _)) rfl zBt ?_
 refine ⟨_,zA1 (by walk_at "mm") zIk rfl,?_⟩
 refine Cd.call (Cd.conseq (front (fun v σ' j'=> ∃ a' x,σ' = sM nodes rows nd ∧ j' = jM j a b a' x)
  fun K'=> zW7 (σ:=(sT nodes rows nd)) (by show (List.range nodes.length).length ≤ 100;rw [List.length_range];exact omT) jo.ll (by show 0 < C.n - 1;exact omR) fun a x=> ⟨rfl,_,_,rfl,a,x,congrArg (fun p=> sP nodes rows nd p) eP,rfl⟩) fun v m' H' h=> ?_)
 obtain ⟨rfl,σ',j',rfl,a',x',rfl,rfl⟩:=h
 walk_at "w"
 refine ⟨by exact om0 rfl,fun A=> ?_⟩
 walk_at "w"
 refine zA5 (.tail _ (.tail _ (.head _))) rfl zB4 ?_
 walk_at "w"
 have keys:j.abv.map (·.1) = List.range nodes.length:=by
  rw [← zBj,show zA9 nodes = j.abv.map (fun p=> (p.1,p.2.2)) from jo.av.symm,List.map_map];rfl
 have hN:nodes.length ∉ j.abv.map (·.1):=by rw [keys];simp
 refine zI6 (by walk_at "mm") ?_ (by show (avK j.abv).length ≤ 1000000;unfold avK;have:=congrArg List.length keys;rw [List.length_map,List.length_range] at this;rw [List.length_map];exact omE)
 rw [zVt hN]
 refine T.weakPre (H':=(L + 1,.cell (some (.ref r.w))) :: HpH r (sV nodes rows nd) (jV j a b a' x' (j.abv ++ [(nodes.length,A,[])])) K) ?_ ?_
 ·refine Weak.trans (Weak.perm (List.Perm.swap _ _ _)) (Weak.cons (Weak.perm ?_))
  simp only [HpH,List.map_append (f:=avO),List.append_assoc]
  exact deep (E:=[_,_,_,_,_,_,_,_,_,_,_,_,_,_,_,_]) (Lo:=(j.lots ++ [(a',[x'])]).map lotO) (Av:=j.abv.map avO)
 have keys1:(j.abv ++ [(nodes.length,A,([]:List Nat))]).map (fun p:Nat × Addr × List Nat=> p.1) = List.range (nodes.length + 1):=by rw [List.map_append,keys,List.range_succ];rfl
 have abvA:(j.abv ++ [(nodes.length,A,([]:List Nat))]).map (fun p:Nat × Addr × List Nat=> (p.1,p.2.2)) = zA9 nodes ++ [(nodes.length,[])]:=by
  rw [List.map_append,show j.abv.map (fun p=> (p.1,p.2.2)) = zA9 nodes from jo.av];rfl
 generalize habv:j.abv ++ [(nodes.length,A,[])] = abv1 at *
 have nd1:(abv1.map (·.1)).Nodup:=by rw [keys1];exact List.nodup_range
 generalize hσ1:((sV nodes rows nd):Hs) = σ1
 have hp1:σ1.par = List.range (nodes.length + 1):=by rw [← hσ1]
 have hn1:σ1.nodes = nodes ++ [nd]:=by rw [← hσ1]
 have rid:∀ k,root σ1.par k = k:=fun k=> by rw [hp1];exact zCq _ _
 refine zG6 ?_ (fun _=> rfl)
 walk_at "w"
 refine zAe rfl (scOk rfl) ?_ (fun _=> rfl)
 walk_at "w"
 refine zBk (rootF σ1.par) (xs:=nd.2.map fun k:Nat=> .int k) zBg trivial (by exact omMap ‹_› rfl) (fun L X x hx=> ?_) ?_
 ·refine zAi hx fun k hk'=> ?_
  have hlt:=hk k hk'
  walk_at "w"
  refine ⟨fun _=> ?_,fun e=> bx e⟩
  walk_at "w"
  refine ⟨_,zA1 (.tail _ (.head _)) zAb rfl,?_⟩
  walk_at "w"
  refine Cd.call (zBb (HAt.of.cons) (by rw [hp1];exact zDo _) (by rw [hp1,List.length_range];with_reducible exact Nat.lt_succ_of_lt (by walk_at "a")) (by rw [hp1,List.length_range];exact omA) (by show 1 < C.n - 1;exact omR) ?_)
  exact ⟨rfl,by walk_at "mm"⟩
 rw [zH1,show nd.2.map (root σ1.par) = nd.2 by
  have:nd.2.map (root σ1.par) = nd.2.map id:=List.map_congr_left fun k _=> rid k
  rw [this,List.map_id]]
 intro D1
 walk_at "w"
 refine zEq (l:=nd.2.map fun k:Nat=> Atom.i k) (by rw [List.map_map];exact .head _) (by simp;with_reducible exact omTs (by walk_at "a") (by walk_at "r")) fun D2 o so=> ?_
 walk_at "w"
 have eD:dedup (nd.2.map fun k:Nat=> Atom.i k) = ((dedup nd.2).map fun k:Nat=> (k:Int)).map Atom.i:=by
  rw [zEb (f:=fun k:Nat=> Atom.i k) fun _ _ e=> zEd e,List.map_map];rfl
 rw [eD] at so
 obtain ⟨dn,dm,dl⟩:=zHu nd.2
 refine zGm (.head _) so (by rw [List.length_map];lia) fun D3 ms pm sm=> ?_
 obtain ⟨cs,rfl,pc⟩:=zSm pm
 have cn:cs.Nodup:=pc.nodup_iff.mpr dn
 have cm:∀ c,c ∈ cs ↔ c ∈ nd.2:=fun c=> (pc.mem_iff).trans (dm c)
 refine ⟨_,_,_,zD0 (.head _),fun i H=> H = (D3,.list ((cs.map fun k:Nat=> (k:Int)).map V.int)) :: (D2,.raw o) :: (D1,.list (nl nd.2)) :: (L + 1,.cell (some (.ref r.w))) ::
  HpH r σ1 (jV j a b a' x' (addU abv1 nodes.length (cs.take i))) K,?_,?_,?_,?_⟩
 ·show _ = _
  rw [List.take_zero,zTd]
 ·rintro i _ rfl
  exact .head _
 ·rintro X i x _ hx rfl
  obtain ⟨c,hc,rfl⟩:∃ c:Nat,cs[i]? = some c ∧ x = .int c:=by
   rw [List.map_map,List.getElem?_map] at hx
   obtain ⟨c,hc,e⟩:=Option.map_eq_some_iff.mp hx
   exact ⟨c,hc,e.symm⟩
  have hcm:c ∈ nd.2:=(cm c).mp (List.mem_of_getElem? hc)
  have hcl:=hk c hcm
  have hnot:c ∉ cs.take i:=zSn cn hc
  obtain ⟨⟨c',ac,uc⟩,hm1,ec⟩:=List.mem_map.mp (show c ∈ abv1.map (·.1) by rw [keys1];exact List.mem_range.mpr (by with_reducible exact Nat.lt_succ_of_lt (by walk_at "a")))
  dsimp only at ec
  subst ec
  have hm2:(c',ac,uc) ∈ addU abv1 nodes.length (cs.take i):=List.mem_map.mpr ⟨_,hm1,if_neg hnot⟩
  have hg:dget (Atom.i c') (avK (addU abv1 nodes.length (cs.take i))) = some (.ref ac):=by rw [zUn];exact zK8 nd1 hm1
  have nd2:((addU abv1 nodes.length (cs.take i)).map (·.1)).Nodup:=by rw [zTe];exact nd1
  have tl:(ac,AObj.list (nl uc)) ∈ (j.lots ++ [(a',[x'])]).map lotO ++ ((addU abv1 nodes.length (cs.take i)).map avO ++ K):=List.mem_append_right _ (List.mem_append_left _ (List.mem_map.mpr ⟨_,hm2,rfl⟩))
  have zu:uc.length ≤ 1000:=by
   have h1:(c',uc) ∈ zA9 nodes ++ [(nodes.length,[])]:=by rw [← abvA];exact List.mem_map.mpr ⟨_,hm1,rfl⟩
   have h2:=zUw h1
   rw [zGv] at h2
   have h3:=hb.usum
   have h4:usum [(nodes.length,([]:List Nat))] = 0:=rfl
   lia
  walk_at "w"
  refine zA5 (.tail _ (.tail _ (.tail _ (.tail _ (.head _))))) rfl zB4 ?_
  walk_at "w"
  refine zG4 (by walk_at "mm") hg ?_
  refine ⟨_,zAm (l:=nl uc) (by walk_at "mm"),?_⟩
  walk_at "w"
  refine zAn (l:=nl uc) (.tail (.tail (.tail (.tail (.tail (.tail (.tail (.tail (.tail (.tail (.tail (.tail (.tail (.tail (.tail (.tail (.tail (.tail (.tail (.tail (Upd.right _ (zRd (n:=nodes.length) nd2 hm2)))))))))))))))))))))) (by rw [zAq];exact omT) ?_
  walk_at "w"
  refine ⟨.inl rfl,by walk_at "mm",_,Weak.refl _,?_⟩
  show _ = _
  rw [zRc _ _ _ _ hnot,List.take_add_one,hc]
  simp only [HpH,zUn]
  rfl
 ·rintro _ rfl
  have hb':Built (nodes ++ [nd]):=.snoc hb hnew hx hkl hk
  have ln:(nodes ++ [nd]).length = nodes.length + 1:=by exact List.length_append
  have f:=zNt (rows:=rows) hb' (by rw [ln];exact omA)
  have m0:j.mgd = []:=by
   have:=jo.mz
   rw [show (zAd nodes rows).par = List.range nodes.length from rfl,zE5,List.length_range] at this
   exact List.length_eq_zero_iff.mp (by lia)
  have fp:(zAd (nodes ++ [nd]) rows).par = σ1.par:=by rw [hp1];show List.range (nodes ++ [nd]).length = _;rw [ln]
  have ok1:HsOk σ1:=by
   rw [← hσ1]
   refine ⟨f.nz,f.nok,by show (List.range (nodes.length + 1)).length = _;rw [List.length_range];exact ln.symm,zDo _,f.kn,fun c hc h=> ?_,f.us,f.az,f.wl,f.ul,fun p hp=> ?_⟩
   ·show c ∈ (zA9 (nodes ++ [nd])).map (·.1)
    rw [zBj,ln]
    have hc:c < (List.range (nodes.length + 1)).length:=hc
    rw [List.length_range] at hc
    exact List.mem_range.mpr hc
   ·obtain ⟨x,i⟩:=p
    have:=(List.mem_zipIdx (show (x,i) ∈ nodes.zipIdx from hp)).2.1
    show i < (nodes ++ [nd]).length
    rw [ln];lia
  have jo1:JOk σ1 (jV j a b a' x' (addU abv1 nodes.length cs)):=by
   refine ⟨?_,?_,?_,fun p hp=> ?_,?_,jo.fz,?_,?_⟩
   ·show (j.ws ++ [a]).length = σ1.nodes.length
    rw [hn1,ln,List.length_append,jo.wl];rfl
   ·show (j.ds ++ [b]).length = σ1.nodes.length
    rw [hn1,ln,List.length_append,jo.dl];rfl
   ·show (j.lots ++ [(a',[x'])]).length = σ1.par.length
    rw [hp1,List.length_range,List.length_append,jo.ll]
    show (List.range nodes.length).length + 1 = _
    rw [List.length_range]
   ·rcases List.mem_append.mp hp with hp | hp
    ·exact jo.lz p hp
    ·rw [List.mem_singleton.mp hp]
     exact Nat.one_le_two_pow
   ·show j.mgd.length + zA7 σ1.par = σ1.par.length
    rw [m0,hp1,zE5,List.length_range];simp
   ·show (addU abv1 nodes.length cs).map (fun p=> (p.1,p.2.2)) = σ1.above
    rw [zPb,abvA,← hσ1]
    show _ = zA9 (nodes ++ [nd])
    rw [zE8 fun x hx=> (hb.ok x hx).2]
    refine List.map_congr_left fun p _=> ?_
    by_cases h:p.1 ∈ nd.2
    ·rw [if_pos h,if_pos ((cm _).mpr h)]
    ·rw [if_neg h,if_neg (fun q=> h ((cm _).mp q))]
   ·rw [← hσ1];exact Nat.zero_le _
  have kk:keyOf σ1 nodes.length = nd:=by
   unfold keyOf
   rw [hn1,List.getElem?_append_right (Nat.le_refl _)]
   simp only [Nat.sub_self,List.getElem?_cons_zero]
   have:nd.2.map (root σ1.par) = nd.2.map id:=List.map_congr_left fun k _=> rid k
   rw [this,List.map_id]
  have kn1:σ1.known = nodes.zipIdx:=by rw [← hσ1];rfl
  have lk1:lookS σ1 nodes.length = zAd (nodes ++ [nd]) rows:=by
   unfold lookS
   rw [kk,kn1]
   have:dget nd nodes.zipIdx = none:=dget_none.mpr fun h=> by
    obtain ⟨⟨x,i⟩,hxi,e⟩:=List.mem_map.mp h
    have e:x = nd:=e
    have:=(List.mem_zipIdx hxi).2.2
    exact hnew (by rw [← e,this];exact List.getElem_mem _)
   rw [this]
   show { σ1 with known:=nodes.zipIdx ++ [(nd,nodes.length)] } = _
   rw [← hσ1]
   unfold sV
   unfold zAd
   rw [ln,List.zipIdx_append]
   simp
  refine T.weakPre (H':=(L + 1,.cell (some (.ref r.w))) :: HpH r σ1 (jV j a b a' x' (addU abv1 nodes.length cs)) K) ?_ ?_
  ·rw [List.take_of_length_le (by simp)]
   walk_at "mm"
  walk_at "w"
  refine ⟨_,zA1 (.tail _ (.head _)) zD7 rfl,?_⟩
  walk_at "w"
  refine Cd.call (Cd.conseq (front (fun v σ' j'=> v = .none ∧ σ' = zAd (nodes ++ [nd]) rows ∧ JOk σ' j')
   fun K'=> zLr ok1 jo1 (by rw [← hσ1];exact Nat.zero_le _) (by rw [kn1];simp;exact omT) (by rw [hn1,ln];exact Nat.lt_succ_self _) (by show 3 < C.n - 1;exact omR) fun j' hj=> ⟨rfl,_,_,rfl,rfl,lk1,hj⟩) fun v m' H' h=> ?_)
  obtain ⟨rfl,σ',j',rfl,rfl,rfl,hj⟩:=h
  walk_at "w"
  exact ⟨_,by walk_at "mm",q j' hj⟩
end
section
variable {C:Cx} {m:Loc} {H:AH}
theorem zDe {r:WrA} {σ τ:Hs} {j:Jk} {K:AH} {k:Nat} {Q} (ok:HsOk σ) (jo:JOk σ j) (hrz:σ.rows.length ≤ 1000) (run:Runs { σ with rows:=if σ.waiting = [] then σ.rows else σ.rows ++ [.tup [.str "settle"]] } k τ) (hez:σ.edges.length + zA7 σ.par ≤ 900) (hkz:σ.known.length + k ≤ 900000) (hr:5 < C.n)
    (q:∀ j',HsOk τ → JOk τ j' → Q .none m (HpH r τ j' K)):Cd C m (HpH r σ j K) (.ref 471) [.ref r.w] Q:=by
 have wz:=jo.wz
 have mz:=jo.mz
 have pl:=ok.pl
 have nz:=ok.nz
 refine zKi ["self"] (fd471 _).h rfl (vl1 fun _=> rfl) rfl rfl (by exact omB) fun L X=> ?_
 refine zDu ?_
 walk_at "w"
 refine ⟨_,zA1 (.head _) zE4 rfl,?_⟩
 refine Cd.call (zI8 (by lia) (by show 0 < C.n - 1;exact omR) ?_)
 refine zA0 ?_
 by_cases hw:σ.waiting = []
 ·rw [decide_eq_true hw]
  refine ⟨fun e=> bx e,fun _=> ?_⟩
  walk_at "w"
  rw [if_pos hw] at run
  refine zGt ?_ rfl
  refine zEf (f2:=372) (by exact ⟨⟨⟨_,_,_,_,_,_,rfl,rfl,rfl,rfl⟩,⟨_,_,_,_,_,_,rfl,rfl,rfl⟩,⟨_,_,_,_,rfl,rfl⟩,⟨_,_,_,_,rfl⟩,rfl,rfl,rfl,rfl,rfl⟩,rfl,rfl,rfl,rfl,rfl⟩) (.head _) rfl (fun X=> ?_) (.inl rfl) rfl
  walk_at "w"
  refine zI7 (σ:=σ) ok jo run hez hkz (by show 4 < C.n - 1;exact omR) fun j' h1 h2=> ?_
  walk_at "w"
  exact ⟨_,Weak.refl _,q j' h1 h2⟩
 ·rw [decide_eq_false hw]
  refine ⟨fun _=> ?_,fun e=> bx e⟩
  walk_at "w"
  refine zA5 (.head _) rfl zAr ?_
  refine ⟨_,zAm (by walk_at "mm"),?_⟩
  walk_at "w"
  refine ⟨by exact om0 rfl,?_⟩
  walk_at "w"
  refine zAn (by walk_at "mm") (by exact omT) ?_
  walk_at "w"
  rw [if_neg hw] at run
  refine zGt ?_ rfl
  refine zEf (f2:=372) (by exact ⟨⟨⟨_,_,_,_,_,_,rfl,rfl,rfl,rfl⟩,⟨_,_,_,_,_,_,rfl,rfl,rfl⟩,⟨_,_,_,_,rfl,rfl⟩,⟨_,_,_,_,rfl⟩,rfl,rfl,rfl,rfl,rfl⟩,rfl,rfl,rfl,rfl,rfl⟩) (.head _) rfl (fun X=> ?_) (.inl rfl) rfl
  walk_at "w"
  refine zI7 (σ:={ σ with rows:=σ.rows ++ [.tup [.str "settle"]] }) ⟨ok.nz,ok.nok,ok.pl,ok.pok,ok.kn,ok.kr,ok.us,ok.az,ok.wl,ok.ul,ok.kl⟩ ⟨jo.wl,jo.dl,jo.ll,jo.lz,jo.mz,jo.fz,jo.av,jo.wz⟩ run hez hkz (by show 4 < C.n - 1;exact omR) fun j' h1 h2=> ?_
  walk_at "w"
  exact ⟨_,Weak.refl _,q j' h1 h2⟩
noncomputable def zC7 (nd:Node):V:=.tup [.str "add",.str nd.1,.tup (nd.2.map fun k:Nat=> .int k)]
theorem zI3 {r:WrA} {nodes:List Node} {rows:List V} {j:Jk} {K:AH} {nd:Node} {Q} (hb:Built nodes) (jo:JOk (zAd nodes rows) j) (hx:zE0 nd.1 = true) (hnew:nd ∉ nodes) (hk:∀ k ∈ nd.2,k < nodes.length) (hkl:nd.2.length ≤ 4) (hz:nodes.length ≤ 18) (hrz:rows.length ≤ 1000)
    (hr:5 < C.n) (q:∀ j',JOk (zAd (nodes ++ [nd]) (rows ++ [zC7 nd])) j' → Q (.int nodes.length) m (HpH r (zAd (nodes ++ [nd]) (rows ++ [zC7 nd])) j' K)):Cd C m (HpH r (zAd nodes rows) j K) (.ref 455) [.ref r.w,.str nd.1,.tup (nd.2.map fun k:Nat=> .int k)] Q:=by
 refine zKi ["self","op","numbers"] (fd455 _).h rfl (vl3 fun _ _ _=> rfl) rfl rfl (by exact omB) fun L X=> ?_
 refine zDu ?_
 walk_at "w"
 refine ⟨_,zA1 (.head _) zB1 rfl,?_⟩
 refine Cd.call (zD1 (HAt.of (σ:=zAd nodes rows)) (by show nodes.length ≤ 100;exact omT) (by show 1 < C.n - 1;exact omR) ?_)
 walk_at "w"
 refine zPi ?_ rfl rfl
 refine zEf (f2:=323) (by exact ⟨⟨⟨_,_,_,_,_,_,rfl,rfl,rfl,rfl⟩,⟨_,_,_,_,_,_,rfl,rfl,rfl⟩,⟨_,_,_,_,rfl,rfl⟩,⟨_,_,_,_,rfl⟩,rfl,rfl,rfl,rfl,rfl⟩,rfl,rfl,rfl,rfl,rfl⟩) (.head _) rfl (fun X=> ?_) (.inr ⟨_,_,rfl,rfl,rfl⟩) rfl
 walk_at "w"
 refine zTm hb jo hx hnew hk hkl hz (by show 4 < C.n - 1;exact omR) fun j' hj=> ?_
 refine zRs ?_
 walk_at "w"
 refine ⟨_,zA1 (.head _) zB1 rfl,?_⟩
 refine Cd.call (zD1 (HAt.of (σ:=zAd (nodes ++ [nd]) rows)) (by show (nodes ++ [nd]).length ≤ 100;simp;exact omT) (by show 1 < C.n - 1;exact omR) ?_)
 walk_at "w"
 refine zLx ?_
 refine zA0 ⟨fun _=> ?_,fun e=> ?_⟩
 ·walk_at "w"
  refine zA5 (.head _) rfl zAr ?_
  refine ⟨_,zAm (by walk_at "mm"),?_⟩
  walk_at "w"
  refine zEx ?_
  walk_at "w"
  refine ⟨by exact om0 rfl,?_⟩
  walk_at "w"
  refine zAn (by walk_at "mm") (by show rows.length ≤ 1000000;exact omT) ?_
  walk_at "w"
  exact ⟨_,Weak.refl _,q j' ⟨hj.wl,hj.dl,hj.ll,hj.lz,hj.mz,hj.fz,hj.av,hj.wz⟩⟩
 ·have:¬ ((zAd nodes rows).nodes.length:Int) < ((zAd (nodes ++ [nd]) rows).nodes.length:Int):=of_decide_eq_false e
  exact absurd (by show ((nodes.length:Nat):Int) < ((nodes ++ [nd]).length:Nat);simp;lia) this
theorem zPg {r:WrA} {σ:Hs} {j:Jk} {K:AH} {a b:Nat} {reason:V} {Q} (ok:HsOk σ) (jo:JOk σ j) (hez:σ.edges.length ≤ 900) (ha:a < σ.nodes.length) (hb:b < σ.nodes.length) (hr:3 < C.n)
    (q:∀ j',JOk (joinS σ a b reason) j' → Q (.bool (!decide (root σ.par a = root σ.par b))) m (HpH r (joinS σ a b reason) j' K)) :
    Cd C m (HpH r σ j K) (.ref 358) [.ref r.w,.int a,.int b,reason] Q:=by
 refine zAo ["self","a","b","reason"] (fd358 _).h rfl (vl4 fun _ _ _ _=> rfl) rfl rfl (by exact omB) fun L X=> ?_
 walk_at "w"
 refine ⟨_,zA1 (.head _) zE3 rfl,?_⟩
 walk_at "w"
 refine Cd.call (zLs ok jo hez ha hb (by show 2 < C.n - 1;exact omR) fun j' hj=> ?_)
 exact ⟨_,Weak.refl _,q j' hj⟩
noncomputable def j0:Jk:=⟨[],[],[],[],[],[]⟩
theorem zMr {Q} (hr:4 < C.n) (q:∀ r,Q (.ref r.w) m (HpH r (zAd [] []) j0 H)):Cd C m H (.ref 474) [] Q:=by
 refine zKh zOt zP3 zOz (by exact omB) fun A x dx=> ?_
 refine zKi ["self"] rfl rfl (vl1 fun _=> rfl) rfl rfl (by show 0 < C.n - 1;exact omR) fun L X=> ?_
 refine zGt ?_ rfl
 refine zEf (f2:=306) (by exact ⟨⟨⟨_,_,_,_,_,_,rfl,rfl,rfl,rfl⟩,⟨_,_,_,_,_,_,rfl,rfl,rfl⟩,⟨_,_,_,_,rfl,rfl⟩,⟨_,_,_,_,rfl⟩,rfl,rfl,rfl,rfl,rfl⟩,rfl,rfl,rfl,rfl,rfl⟩) (.head _) rfl (fun X=> ?_) (.inl rfl) rfl
 walk_at "w"
 refine Cd_fn ["self"] rfl rfl (vl1 fun _=> rfl) rfl rfl (by show 0 < C.n - 1 - 1;with_reducible exact omR2 (by walk_at "a") (by walk_at "r")) fun L' X'=> ?_
 walk_at "w"
 refine Cd.call (zU9 (by show 1 < C.n - 1 - 1 - 1;lia) fun bk bd nl nu we de=> ?_)
 walk_at "w"
 refine zB9 (by walk_at "mm") zH5 ?_ (Nat.le_of_ble_eq_true rfl)
 walk_at "w"
 refine Cd.call (zPd (by show 1 < C.n - 1 - 1 - 1;lia) fun ru=> ?_)
 walk_at "w"
 refine zB9 (by walk_at "mm") zFv ?_ (Nat.le_of_ble_eq_true rfl)
 walk_at "w"
 refine ⟨by exact om0 rfl,fun ed=> ?_⟩
 walk_at "w"
 refine zB9 (by walk_at "mm") zGg ?_ (Nat.le_of_ble_eq_true rfl)
 walk_at "w"
 refine ⟨by exact om0 rfl,fun fo=> ?_⟩
 walk_at "w"
 refine zB9 (by walk_at "mm") zFw ?_ (Nat.le_of_ble_eq_true rfl)
 walk_at "w"
 refine zKf fun kn=> ?_
 walk_at "w"
 refine zB9 (by walk_at "mm") zGf ?_ (Nat.le_of_ble_eq_true rfl)
 walk_at "w"
 refine zTv fun av=> ?_
 walk_at "w"
 refine zB9 (by walk_at "mm") zGi ?_ (Nat.le_of_ble_eq_true rfl)
 walk_at "w"
 refine ⟨by exact om0 rfl,fun wa=> ?_⟩
 walk_at "w"
 refine zB9 (by walk_at "mm") zFe ?_ (Nat.le_of_ble_eq_true rfl)
 walk_at "w"
 refine zB9 (by walk_at "mm") zGh ?_ (Nat.le_of_ble_eq_true rfl)
 walk_at "w"
 refine zRs ?_
 walk_at "w"
 refine ⟨by exact om0 rfl,fun ro=> ?_⟩
 walk_at "w"
 refine zB9 (by walk_at "mm") zH4 ?_ (Nat.le_of_ble_eq_true rfl)
 walk_at "w"
 refine ⟨HpH ⟨x,dx,ed,fo,kn,av,wa,ro,⟨bk,bd,nl,nu,we,de⟩,ru⟩ (zAd [] []) j0 H,?_,rfl,q ⟨x,dx,ed,fo,kn,av,wa,ro,⟨bk,bd,nl,nu,we,de⟩,ru⟩⟩
 walk_at "pk"
end
noncomputable def strLt (a b:Str):Prop:=a.cps.toList < b.cps.toList
noncomputable def Asc (l:List Str):Prop:=l.Pairwise strLt
theorem zOk {l:List Str}:∀ {p:Str},risingS p l = true → (∀ x ∈ l,¬ strLt x p) ∧ l.Pairwise fun a b=> ¬ strLt b a:=by
 induction l with
 | nil =>
  intro p _
  exact ⟨fun x h=> (by exact nM h),List.Pairwise.nil⟩
 | cons x r ih =>
  intro p h
  unfold risingS at h
  rw [Bool.and_eq_true,Bool.not_eq_true',ltCps_eq] at h
  obtain ⟨h1,h2⟩:=h
  have h1:¬ x.cps.toList < p.cps.toList:=of_decide_eq_false h1
  obtain ⟨a,b⟩:=ih h2
  refine ⟨fun y hy=> ?_,List.pairwise_cons.mpr ⟨a,b⟩⟩
  rcases List.mem_cons.mp hy with rfl | hy
  ·exact h1
  ·have h3:=a y hy
   unfold strLt at h1 h3 ⊢
   rw [List.not_lt] at h1 h3 ⊢
   exact List.le_trans h1 h3
theorem zEj {l:List Str} (h:sortedS l = true):l.Pairwise fun a b=> ¬ strLt b a:=by
 cases l with
 | nil=> exact List.Pairwise.nil
 | cons x r=> exact List.pairwise_cons.mpr (zOk h)
theorem zI2 {l:List Str} (h:Asc l):l.Nodup:=h.imp fun {a b} hab e=> by
 subst e
 exact List.lt_irrefl _ hab
theorem zG1:∀ {ms l:List Str},ms.Perm l → (ms.Pairwise fun a b=> ¬ strLt b a) → Asc l → ms = l:=by
 intro ms
 induction ms with
 | nil=> intro l p _ _;rw [List.nil_perm.mp p]
 | cons x ms ih =>
 intro l
 cases l with
 | nil=> intro p;exact Nat.noConfusion p.length_eq
 | cons y l =>
  intro p h1 h2
  unfold Asc at h2
  rw [List.pairwise_cons] at h1 h2
  have e:x = y:=by
   rcases List.mem_cons.mp (p.mem_iff.mp (List.mem_cons_self (a:=x) (l:=ms))) with q | q
   ·exact q
   ·rcases List.mem_cons.mp (p.mem_iff.mpr (List.mem_cons_self (a:=y) (l:=l))) with q' | q'
    ·exact q'.symm
    ·exact absurd (h2.1 x q) (h1.1 y q')
  subst e
  rw [ih (List.Perm.cons_inv p) h1.2 h2.2]
theorem zK5 {κ:Type} [DecidableEq κ] {l:List κ} (h:l.Nodup):dedup l = l:=by
 have gen:∀ (l acc:List κ),(acc ++ l).Nodup → l.foldl zC1 acc = acc ++ l:=by
  intro l
  induction l with
  | nil=> intro acc _;simp
  | cons a r ih =>
   intro acc nd
   rw [List.foldl_cons,show zC1 acc a = if a ∈ acc then acc else acc ++ [a] from rfl,if_neg]
   ·rw [ih (acc ++ [a]) (by simpa using nd)];simp
   ·intro hm
    rw [List.nodup_append] at nd
    exact nd.2.2 a hm a (by exact .head _) rfl
 simpa [dedup] using gen l [] (by simpa using h)
noncomputable def zD4 (x:Str):Bool:=ascii x && opOk x && decide (x.length ≤ 1000)
noncomputable def zEu (x:Str):Bool:=zD4 x && decide (sign1 x = "?")
noncomputable def zAu (p:Str × Nat):V:=.tup [.str p.1,.int p.2]
noncomputable def toldR (l:Str):V:=.tup [.str "told",.str l]
noncomputable def ruleR (l:Str) (ps:List (Str × Nat)):V:=.tup [.str "rule",.str l,.tup (ps.map zAu)]
structure zEn (many:Nat) (ps:List (Str × Nat)):Prop where
 len:ps.length ≤ 10
 asc:Asc (ps.map (·.1))
 ok:∀ p ∈ ps,zEu p.1 = true ∧ p.2 < many
theorem zB6 {x:Str} (h:zD4 x = true):ascii x = true ∧ opOk x = true ∧ x.length ≤ 1000:=by
 unfold zD4 at h
 simp only [Bool.and_eq_true,decide_eq_true_eq] at h
 exact ⟨h.1.1,h.1.2,h.2⟩
theorem zCb {x:Str} (h:ascii x = true):PyData.strOk x = true:=by
 unfold ascii at h
 unfold PyData.strOk
 rw [Array.all_eq_true] at h ⊢
 intro i hi
 have:=h i hi
 simp at this ⊢
 exact omTl
noncomputable def nameF:V → Option V
 | .tup [a,_]=> some a
 | _=> none
theorem zFf:∀ ps:List (Str × Nat),(ps.map zAu).filterMap nameF = (ps.map (·.1)).map V.str
 | []=> rfl
 | p :: r=> by
  have ih:=zFf r
  show List.filterMap nameF (zAu p :: r.map zAu) = _
  rw [List.filterMap_cons_some (f:=nameF) (a:=zAu p) (b:=V.str p.1) rfl,ih];rfl
section
variable {C:Cx} {m:Loc} {H:AH}
theorem zEv {x:Str} {Q} (hr:0 < C.n) (q:Q (.bool (decide (sign1 x = "?"))) m H):Cd C m H (.ref 102) [.tup [.str x]] Q:=by
 refine zAo ["t"] (fd102 _).h rfl (vl1 fun _=> rfl) rfl rfl hr fun L X=> ?_
 walk_at "w"
 refine zAs (by exact om0 rfl) ?_
 walk_at "w"
 refine zB5 ?_
 refine zA0 ⟨fun _=> ?_,fun e=> by simp at e⟩
 walk_at "w"
 refine zA4 (by lia) (by exact om0 rfl) rfl ?_
 walk_at "w"
 refine zTi ?_
 walk_at "w"
 refine zA6 ?_
 exact ⟨_,Weak.refl _,q⟩
theorem zP6 {l:Str} {many:Nat} {Q} (hl:zD4 l = true) (hr:1 < C.n) (q:Q .none m H):Cd C m H (.ref 431) [toldR l,.int many] Q:=by
 refine bc fun nn=> ?_
 obtain ⟨h1,h2,h3⟩:=zB6 hl
 refine nn ?_
 refine zAo ["reason","many"] (fd431 _).h rfl (vl2 fun _ _=> rfl) rfl rfl (by exact omB) fun L X=> ?_
 unfold toldR
 walk_at "w"
 refine zAs (by exact om0 rfl) ?_
 walk_at "w"
 with_reducible refine zDv (by kernel_rfl) fun X=> ?_
 walk_at "w"
 intro d
 refine ⟨_,zDi (.head _),?_⟩
 walk_at "w"
 refine zA4 (by lia) (by exact om0 rfl) rfl ?_
 walk_at "w"
 refine zBm (.head _) ?_
 refine zAh (b:=2) ?_
 refine zA0 ⟨fun e=> (by simp at e),fun _=> ?_⟩
 walk_at "w"
 refine zA4 (by lia) (by exact om0 rfl) rfl ?_
 walk_at "w"
 refine Cd.call (zD9 h1 h3 (by show 0 < C.n - 1;exact omR) ?_)
 rw [h2]
 refine zA0 ⟨fun e=> bx e,fun _=> ?_⟩
 walk_at "w"
 refine zA4 (by lia) (by exact om0 rfl) rfl ?_
 walk_at "w"
 refine zA6 ?_
 refine zA0 ⟨fun e=> (by simp at e;cases e),fun _=> ?_⟩
 walk_at "w"
 refine ⟨by exact om0 rfl,fun D1=> ?_⟩
 walk_at "w"
 refine zEq (l:=[]) (by walk_at "mm") (by exact om0 rfl) fun D2 o so=> ?_
 walk_at "w"
 refine zBq (ns:=[]) (.head _) so (by exact om0 rfl) fun D3 ms pm _=> ?_
 rw [List.perm_nil.mp pm]
 refine zBe (l:=[]) (l':=[]) (by walk_at "mm") (by walk_at "mm") rfl rfl ?_
 refine zA0 ⟨fun e=> (by simp at e),fun _=> ?_⟩
 walk_at "w"
 refine zKd ?_ (fun _=> rfl)
 walk_at "w"
 refine zA4 (by lia) (by exact om0 rfl) rfl ?_
 walk_at "w"
 refine zA6 ?_
 refine zA0 ⟨fun e=> (by simp at e;cases e),fun _=> ?_⟩
 walk_at "w"
 refine ⟨by exact om0 rfl,[],_,_,zBg,trivial,fun X x hx=> (by exact nM hx),?_⟩
 walk_at "w"
 exact ⟨H,by walk_at "mm",q⟩
theorem zCp {l:List Str} (h:∀ x ∈ l,ascii x = true):voks 8 (l.map V.str) = true:=voks_iff.mpr fun v hv=> by
 refine zAi hv fun x hx=> ?_
 exact zCb (h x hx)
theorem zP7 {l:Str} {ps:List (Str × Nat)} {many:Nat} {Q} (hl:zD4 l = true) (hp:zEn many ps) (hr:1 < C.n) (q:Q .none m H):Cd C m H (.ref 431) [ruleR l ps,.int many] Q:=by
 refine bc fun nn=> ?_
 obtain ⟨h1,h2,h3⟩:=zB6 hl
 refine nn ?_
 have hlen:=hp.len
 have word:∀ p ∈ ps,ascii p.1 = true ∧ opOk p.1 = true ∧ p.1.length ≤ 1000 ∧ sign1 p.1 = "?":=fun p h=> by
  have:=(hp.ok p h).1
  unfold zEu at this
  rw [Bool.and_eq_true,decide_eq_true_eq] at this
  refine bc fun nn=> ?_
  obtain ⟨a,b,c⟩:=zB6 this.1
  refine nn ?_
  exact ⟨a,b,c,this.2⟩
 have ndn:(ps.map (·.1)).Nodup:=zI2 hp.asc
 refine zAo ["reason","many"] (fd431 _).h rfl (vl2 fun _ _=> rfl) rfl rfl (by exact omB) fun L X=> ?_
 unfold ruleR
 walk_at "w"
 refine zAs (by exact om0 rfl) ?_
 walk_at "w"
 with_reducible refine zDv (by kernel_rfl) fun X=> ?_
 walk_at "w"
 intro d
 refine ⟨_,zDi (.head _),?_⟩
 walk_at "w"
 refine zA4 (by lia) (by exact om0 rfl) rfl ?_
 walk_at "w"
 refine zBm (.head _) ?_
 refine zAh (b:=3) ?_
 refine zA0 ⟨fun e=> (by simp at e),fun _=> ?_⟩
 walk_at "w"
 refine zA4 (by lia) (by exact om0 rfl) rfl ?_
 walk_at "w"
 refine Cd.call (zD9 h1 h3 (by show 0 < C.n - 1;exact omR) ?_)
 rw [h2]
 refine zA0 ⟨fun e=> bx e,fun _=> ?_⟩
 walk_at "w"
 refine zA4 (by lia) (by exact om0 rfl) rfl ?_
 walk_at "w"
 refine zA6 ?_
 refine zA0 ⟨fun _=> ?_,fun e=> (by simp at e)⟩
 walk_at "w"
 refine zAe rfl (scOk rfl) ?_ (fun _=> rfl)
 walk_at "w"
 refine zA4 (by lia) (by exact om0 rfl) rfl ?_
 refine zBk nameF (xs:=ps.map zAu) zBg trivial (by exact omMap ‹_› rfl) (fun L X x hx=> ?_) ?_
 ·refine zAi hx fun p hp'=> ?_
  unfold zAu
  refine zAl (a:=.str p.1) (b:=.int p.2) rfl ?_
  walk_at "w"
  refine ⟨fun _=> ?_,fun e=> bx e⟩
  walk_at "w"
  exact ⟨rfl,by walk_at "mm"⟩
 rw [zFf]
 intro D1
 walk_at "w"
 refine zEq (l:=(ps.map (·.1)).map Atom.s) (by rw [show ((ps.map (·.1)).map Atom.s).map Atom.v = (ps.map (·.1)).map V.str by rw [List.map_map];rfl];exact .head _) (by simp;with_reducible exact omTs (by walk_at "a") (by walk_at "r")) fun D2 o so=> ?_
 rw [zEb (fun a b e=> by injection e) (ps.map (·.1)),zK5 ndn] at so
 walk_at "w"
 refine zBq (.head _) so (by simp;with_reducible exact omTs (by walk_at "a") (by walk_at "r")) fun D3 ms pm sm=> ?_
 rw [zG1 pm (zEj sm) hp.asc]
 have vk:voks 8 ((ps.map (·.1)).map V.str) = true:=zCp fun x hx=> by
  refine zAi hx fun p hp'=> ?_
  exact (word p hp').1
 refine zBe (by walk_at "mm") (.head _) vk vk ?_
 refine zA0 ⟨fun e=> (by simp at e),fun _=> ?_⟩
 walk_at "w"
 refine zKd ?_ (fun _=> rfl)
 walk_at "w"
 refine zA4 (by lia) (by exact om0 rfl) rfl ?_
 walk_at "w"
 refine zA6 ?_
 refine zA0 ⟨fun _=> ?_,fun e=> (by simp at e)⟩
 walk_at "w"
 refine zA4 (by lia) (by exact om0 rfl) rfl ?_
 refine ⟨ps.map zAu,_,_,zBg,trivial,fun X x hx=> ?_,?_⟩
 ·refine zAi hx fun p hp'=> ?_
  refine bc fun nn=> ?_
  obtain ⟨w1,w2,w3,w4⟩:=word p hp'
  refine nn ?_
  have hlt:=(hp.ok p hp').2
  unfold zAu
  refine zAl (a:=.str p.1) (b:=.int p.2) rfl ?_
  walk_at "w"
  refine ⟨by exact om0 rfl,?_⟩
  walk_at "w"
  refine Cd.call (zEv (by show 0 < C.n - 1;exact omR) ?_)
  rw [decide_eq_true w4]
  refine zA0 ⟨fun _=> ?_,fun e=> bx e⟩
  walk_at "w"
  refine Cd.call (zD9 w1 w3 (by show 0 < C.n - 1;exact omR) ?_)
  rw [w2]
  refine zA0 ⟨fun _=> ?_,fun e=> bx e⟩
  walk_at "w"
  refine zLw ?_
  refine zA0 ⟨fun _=> ?_,fun e=> by simp at e⟩
  walk_at "w"
  refine zEh ?_
  refine zA0 ⟨fun _=> ?_,fun e=> by simp at e;lia⟩
  walk_at "w"
  refine ⟨fun e=> bx e,fun _=> ?_⟩
  walk_at "w"
  exact ⟨.inl rfl,by walk_at "mm",by walk_at "mm"⟩
 walk_at "w"
 exact ⟨H,by walk_at "mm",q⟩
end
noncomputable def zDt (many:Nat) (v:V):Prop:=(∃ l,v = toldR l ∧ zD4 l = true) ∨ (∃ l ps,v = ruleR l ps ∧ zD4 l = true ∧ zEn many ps)
noncomputable def zAf (a b:Nat) (reason:V):V:=.tup [.str "same",.int a,.int b,reason]
section
variable {C:Cx} {m:Loc} {H:AH}
theorem zT7 {reason:V} {many:Nat} {Q} (h:zDt many reason) (hr:1 < C.n) (q:Q .none m H):Cd C m H (.ref 431) [reason,.int many] Q:=by
 rcases h with ⟨l,rfl,hl⟩ | ⟨l,ps,rfl,hl,hp⟩
 ·exact zP6 hl hr q
 ·exact zP7 hl hp hr q
theorem zFm {r:WrA} {σ:Hs} {j:Jk} {K:AH} {a b:Nat} {reason:V} {Q} (ok:HsOk σ) (jo:JOk σ j) (hez:σ.edges.length ≤ 900) (hrz:σ.rows.length ≤ 1000) (ha:a < σ.nodes.length) (hb:b < σ.nodes.length) (hre:zDt σ.nodes.length reason) (hr:4 < C.n)
    (q:∀ j',JOk (joinS { σ with rows:=σ.rows ++ [zAf a b reason] } a b reason) j' → Q (.bool (!decide (root σ.par a = root σ.par b))) m (HpH r (joinS { σ with rows:=σ.rows ++ [zAf a b reason] } a b reason) j' K)) :
    Cd C m (HpH r σ j K) (.ref 463) [.ref r.w,.int a,.int b,reason] Q:=by
 have nz:=ok.nz
 refine zKi ["self","a","b","reason"] (fd463 _).h rfl (vl4 fun _ _ _ _=> rfl) rfl rfl (by exact omB) fun L X=> ?_
 refine zDu ?_
 walk_at "w"
 refine ⟨_,zA1 (.head _) zB1 rfl,?_⟩
 refine Cd.call (zD1 HAt.of (by exact omT) (by show 1 < C.n - 1;exact omR) ?_)
 walk_at "w"
 refine Cd.call (zT7 hre (by show 1 < C.n - 1;exact omR) ?_)
 walk_at "w"
 refine zDu ?_
 walk_at "w"
 refine zLw ?_
 refine zA0 ⟨fun _=> ?_,fun e=> by simp at e⟩
 walk_at "w"
 refine ⟨_,zA1 (.head _) zB1 rfl,?_⟩
 refine Cd.call (zD1 HAt.of (by exact omT) (by show 1 < C.n - 1;exact omR) ?_)
 refine zEh ?_
 refine zA0 ⟨fun _=> ?_,fun e=> by simp at e;lia⟩
 walk_at "w"
 refine zLw ?_
 refine zA0 ⟨fun _=> ?_,fun e=> by simp at e⟩
 walk_at "w"
 refine ⟨_,zA1 (.head _) zB1 rfl,?_⟩
 refine Cd.call (zD1 HAt.of (by exact omT) (by show 1 < C.n - 1;exact omR) ?_)
 refine zEh ?_
 refine zA0 ⟨fun _=> ?_,fun e=> by simp at e;lia⟩
 walk_at "w"
 refine ⟨fun e=> bx e,fun _=> ?_⟩
 walk_at "w"
 refine zDu ?_
 walk_at "w"
 refine zA5 (.head _) rfl zAr ?_
 refine ⟨_,zAm (by walk_at "mm"),?_⟩
 walk_at "w"
 refine ⟨by exact om0 rfl,?_⟩
 walk_at "w"
 refine zAn (by walk_at "mm") (by exact omT) ?_
 walk_at "w"
 refine zPh ?_
 refine zEf (f2:=358) (by exact ⟨⟨⟨_,_,_,_,_,_,rfl,rfl,rfl,rfl⟩,⟨_,_,_,_,_,_,rfl,rfl,rfl⟩,⟨_,_,_,_,rfl,rfl⟩,⟨_,_,_,_,rfl⟩,rfl,rfl,rfl,rfl,rfl⟩,rfl,rfl,rfl,rfl,rfl⟩) (.head _) rfl (fun X=> ?_) (.inr ⟨_,_,rfl,rfl,rfl⟩) rfl
 walk_at "w"
 refine zPg (σ:={ σ with rows:=σ.rows ++ [zAf a b reason] }) ⟨ok.nz,ok.nok,ok.pl,ok.pok,ok.kn,ok.kr,ok.us,ok.az,ok.wl,ok.ul,ok.kl⟩ ⟨jo.wl,jo.dl,jo.ll,jo.lz,jo.mz,jo.fz,jo.av,jo.wz⟩ hez ha hb (by show 3 < C.n - 1;exact omR) fun j' hj=> ?_
 exact ⟨_,Weak.refl _,q j' hj⟩
noncomputable abbrev StH (st sd:Addr) (r:WrA) (σ:Hs) (j:Jk) (K:AH):AH:=(st,.inst 567 sd [("heap",.ref r.w)]) :: HpH r σ j K
theorem zLo {Q} (hr:6 < C.n) (q:∀ st sd r,Q (.ref st) m (StH st sd r (zAd [] []) j0 H)):Cd C m H (.ref 567) [] Q:=by
 refine zKh zSp zT1 zSy (by exact omB) fun A x dx=> ?_
 refine zAo ["self"] rfl rfl (vl1 fun _=> rfl) rfl rfl (by show 0 < C.n - 1;exact omR) fun L X=> ?_
 walk_at "w"
 refine Cd.call (zMr (by show 4 < C.n - 1 - 1;with_reducible exact omR2 (by walk_at "a") (by walk_at "r")) fun r=> ?_)
 refine T.weakPre (H':=(x,.inst 567 dx []) :: HpH r (zAd [] []) j0 H) (Weak.perm hp_in.symm) ?_
 walk_at "w"
 refine zB9 (.head) zJj ?_ (Nat.le_of_ble_eq_true rfl)
 walk_at "w"
 exact ⟨_,Weak.refl _,rfl,q x dx r⟩
theorem zLn {st sd:Addr} {r:WrA} {σ τ:Hs} {j:Jk} {K:AH} {k:Nat} {Q} (ok:HsOk σ) (jo:JOk σ j) (hrz:σ.rows.length ≤ 1000) (run:Runs { σ with rows:=if σ.waiting = [] then σ.rows else σ.rows ++ [.tup [.str "settle"]] } k τ) (hez:σ.edges.length + zA7 σ.par ≤ 900) (hkz:σ.known.length + k ≤ 900000) (hr:6 < C.n)
    (q:∀ j',HsOk τ → JOk τ j' → Q .none m (StH st sd r τ j' K)):Cd C m (StH st sd r σ j K) (.ref 531) [.ref st] Q:=by
 refine zAo ["self"] (fd531 _).h rfl (vl1 fun _=> rfl) rfl rfl (by exact omB) fun L X=> ?_
 walk_at "w"
 refine zA5 (.head _) rfl zAw ?_
 refine ⟨_,zA1 (.tail _ (.head _)) zC9 rfl,?_⟩
 refine Cd.call (Cd.conseq (front (fun v σ' j'=> σ' = τ ∧ HsOk τ ∧ JOk τ j') fun K'=> zDe ok jo hrz run hez hkz (by show 5 < C.n - 1;exact omR) fun j' h1 h2=> ⟨rfl,_,_,rfl,rfl,h1,h2⟩) fun v m' H' h=> ?_)
 obtain ⟨rfl,σ',j',rfl,rfl,h1,h2⟩:=h
 walk_at "w"
 exact ⟨_,Weak.refl _,q j' h1 h2⟩
theorem zLp {st sd:Addr} {r:WrA} {nodes:List Node} {rows:List V} {j:Jk} {K:AH} {nd:Node} {Q} (hb:Built nodes) (jo:JOk (zAd nodes rows) j) (hx:zE0 nd.1 = true) (hnew:nd ∉ nodes) (hk:∀ k ∈ nd.2,k < nodes.length) (hkl:nd.2.length ≤ 4) (hz:nodes.length ≤ 18) (hrz:rows.length ≤ 1000)
    (hr:6 < C.n) (q:∀ j',JOk (zAd (nodes ++ [nd]) (rows ++ [zC7 nd])) j' → Q .none m (StH st sd r (zAd (nodes ++ [nd]) (rows ++ [zC7 nd])) j' K)):Cd C m (StH st sd r (zAd nodes rows) j K) (.ref 557) [.ref st,zC7 nd] Q:=by
 refine zAo ["self","row"] (fd557 _).h rfl (vl2 fun _ _=> rfl) rfl rfl (by exact omB) fun L X=> ?_
 unfold zC7
 walk_at "w"
 refine zA4 (by lia) (by exact om0 rfl) rfl ?_
 walk_at "w"
 refine zA6 ?_
 refine zA0 ⟨fun _=> ?_,fun e=> (by simp at e)⟩
 walk_at "w"
 refine zA5 (.head _) rfl zAw ?_
 refine ⟨_,zA1 (.tail _ (.head _)) zEs rfl,?_⟩
 walk_at "w"
 refine zA4 (by lia) (by exact om0 rfl) rfl ?_
 walk_at "w"
 refine zA4 (by lia) (by exact om0 rfl) rfl ?_
 walk_at "w"
 refine Cd.call (Cd.conseq (front (fun v σ' j'=> σ' = zAd (nodes ++ [nd]) (rows ++ [zC7 nd]) ∧ JOk σ' j') fun K'=> zI3 hb jo hx hnew hk hkl hz hrz (by show 5 < C.n - 1;exact omR) fun j' hj=> ⟨rfl,_,_,rfl,rfl,hj⟩) fun v m' H' h=> ?_)
 obtain ⟨rfl,σ',j',rfl,rfl,hj⟩:=h
 walk_at "w"
 exact ⟨_,Weak.refl _,q j' hj⟩
theorem zKa {st sd:Addr} {r:WrA} {σ:Hs} {j:Jk} {K:AH} {a b:Nat} {reason:V} {Q} (ok:HsOk σ) (jo:JOk σ j) (hez:σ.edges.length ≤ 900) (hrz:σ.rows.length ≤ 1000) (ha:a < σ.nodes.length) (hb:b < σ.nodes.length) (hre:zDt σ.nodes.length reason) (hr:5 < C.n)
    (q:∀ j',JOk (joinS { σ with rows:=σ.rows ++ [zAf a b reason] } a b reason) j' → Q .none m (StH st sd r (joinS { σ with rows:=σ.rows ++ [zAf a b reason] } a b reason) j' K)) :
    Cd C m (StH st sd r σ j K) (.ref 557) [.ref st,zAf a b reason] Q:=by
 refine zAo ["self","row"] (fd557 _).h rfl (vl2 fun _ _=> rfl) rfl rfl (by exact omB) fun L X=> ?_
 unfold zAf
 walk_at "w"
 refine zA4 (by lia) (by exact om0 rfl) rfl ?_
 walk_at "w"
 refine zA6 ?_
 refine zA0 ⟨fun e=> (by simp at e;cases e),fun _=> ?_⟩
 walk_at "w"
 refine zA4 (by lia) (by exact om0 rfl) rfl ?_
 walk_at "w"
 refine zA6 ?_
 refine zA0 ⟨fun _=> ?_,fun e=> (by simp at e)⟩
 walk_at "w"
 refine zA5 (.head _) rfl zAw ?_
 refine ⟨_,zA1 (.tail _ (.head _)) zCl rfl,?_⟩
 walk_at "w"
 refine zA4 (by lia) (by exact om0 rfl) rfl ?_
 walk_at "w"
 refine zA4 (by lia) (by exact om0 rfl) rfl ?_
 walk_at "w"
 refine zA4 (by lia) (by exact om0 rfl) rfl ?_
 walk_at "w"
 refine Cd.call (Cd.conseq (front (fun v σ' j'=> σ' = joinS { σ with rows:=σ.rows ++ [zAf a b reason] } a b reason ∧ JOk σ' j')
  fun K'=> zFm ok jo hez hrz ha hb hre (by show 4 < C.n - 1;exact omR) fun j' hj=> ⟨rfl,_,_,rfl,rfl,hj⟩) fun v m' H' h=> ?_)
 obtain ⟨rfl,σ',j',rfl,rfl,hj⟩:=h
 walk_at "w"
 exact ⟨_,Weak.refl _,q j' hj⟩
theorem zI4 {st sd:Addr} {r:WrA} {σ τ:Hs} {j:Jk} {K:AH} {k:Nat} {Q} (ok:HsOk σ) (jo:JOk σ j) (hrz:σ.rows.length ≤ 1000) (run:Runs { σ with rows:=if σ.waiting = [] then σ.rows else σ.rows ++ [.tup [.str "settle"]] } k τ) (hez:σ.edges.length + zA7 σ.par ≤ 900) (hkz:σ.known.length + k ≤ 900000) (hr:6 < C.n)
    (q:∀ j',HsOk τ → JOk τ j' → Q .none m (StH st sd r τ j' K)):Cd C m (StH st sd r σ j K) (.ref 557) [.ref st,.tup [.str "settle"]] Q:=by
 refine zAo ["self","row"] (fd557 _).h rfl (vl2 fun _ _=> rfl) rfl rfl (by exact omB) fun L X=> ?_
 walk_at "w"
 refine zA4 (by lia) (by exact om0 rfl) rfl ?_
 walk_at "w"
 refine zA6 ?_
 refine zA0 ⟨fun e=> (by simp at e;cases e),fun _=> ?_⟩
 walk_at "w"
 refine zA4 (by lia) (by exact om0 rfl) rfl ?_
 walk_at "w"
 refine zA6 ?_
 refine zA0 ⟨fun e=> (by simp at e;cases e),fun _=> ?_⟩
 walk_at "w"
 refine zA5 (.head _) rfl zAw ?_
 refine ⟨_,zA1 (.tail _ (.head _)) zC9 rfl,?_⟩
 refine Cd.call (Cd.conseq (front (fun v σ' j'=> σ' = τ ∧ HsOk τ ∧ JOk τ j') fun K'=> zDe ok jo hrz run hez hkz (by show 5 < C.n - 1;exact omR) fun j' h1 h2=> ⟨rfl,_,_,rfl,rfl,h1,h2⟩) fun v m' H' h=> ?_)
 obtain ⟨rfl,σ',j',rfl,rfl,h1,h2⟩:=h
 walk_at "w"
 exact ⟨_,Weak.refl _,q j' h1 h2⟩
end
noncomputable def numT (n:Nat):Str:=Str.ofString (toString (n:Int))
noncomputable def zCg (nd:Node):List Str:="add" :: nd.1 :: nd.2.map numT
noncomputable def zG7 (p:Str × Nat):Str:=p.1 ++ " " ++ numT p.2
noncomputable def zAg (a b:Nat) (l:Str):List Str:=["same",numT a,numT b,"told",l]
noncomputable def zGy (a b:Nat) (l:Str) (ps:List (Str × Nat)):List Str:=(["same",numT a,numT b,"rule",l]:List Str) ++ ps.map zG7
inductive Row where
 | add (nd:Node)
 | told (a b:Nat) (l:Str)
 | rule (a b:Nat) (l:Str) (ps:List (Str × Nat))
 | settle
noncomputable def Row.v:Row → V
 | .add nd=> zC7 nd
 | .told a b l=> zAf a b (toldR l)
 | .rule a b l ps=> zAf a b (ruleR l ps)
 | .settle=> .tup [.str "settle"]
noncomputable def Row.text:Row → Str
 | .add nd=> Str.join " " (zCg nd)
 | .told a b l=> Str.join " " (zAg a b l)
 | .rule a b l ps=> Str.join " " (zGy a b l ps)
 | .settle=> "settle"
noncomputable def numF:V → Option V
 | .int k=> some (.str (numT k.toNat))
 | _=> none
theorem zNk:∀ l:List Nat,(l.map fun k:Nat=> V.int k).filterMap numF = (l.map numT).map V.str
 | []=> rfl
 | k :: r=> by
  have ih:=zNk r
  show List.filterMap numF (V.int k :: (r.map fun k:Nat=> V.int k)) = _
  rw [List.filterMap_cons_some (f:=numF) (a:=V.int k) (b:=V.str (numT k)) rfl,ih];rfl
noncomputable def zNi:V → Option V
 | .tup [.str x,.int k]=> some (.str (x ++ " " ++ numT k.toNat))
 | _=> none
theorem zIw:∀ ps:List (Str × Nat),(ps.map zAu).filterMap zNi = (ps.map zG7).map V.str
 | []=> rfl
 | p :: r=> by
  have ih:=zIw r
  show List.filterMap zNi (zAu p :: r.map zAu) = _
  rw [List.filterMap_cons_some (f:=zNi) (a:=zAu p) (b:=V.str (zG7 p)) rfl,ih];rfl
structure RowZ (x:Row):Prop where
 add:∀ nd,x = .add nd → nd.1.length ≤ 100 ∧ nd.2.length ≤ 10 ∧ ∀ k ∈ nd.2,k < 100
 told:∀ a b l,x = .told a b l → a < 100 ∧ b < 100 ∧ l.length ≤ 100
 rule:∀ a b l ps,x = .rule a b l ps → a < 100 ∧ b < 100 ∧ l.length ≤ 100 ∧ ps.length ≤ 10 ∧ ∀ p ∈ ps,p.1.length ≤ 100 ∧ p.2 < 100
theorem zAx:∀ n,n < 100 → (numT n).length ≤ 2:=by decide
section
variable {C:Cx} {m:Loc} {H:AH}
theorem zIg (x:Str):Str.empty ++ x = x:=by
 obtain ⟨c⟩:=x
 show Str.mk (#[] ++ c) = ⟨c⟩
 simp
theorem zNe {α:Type} {f:α → Nat} {b:Nat} {l:List α}:(∀ x ∈ l,f x ≤ b) → (l.map f).sum ≤ l.length * b:=by
 induction l with
 | nil =>
  intro _
  exact om0 rfl
 | cons x r ih =>
  intro h
  have:=ih fun y hy=> h y (.tail _ hy)
  have:=h x (.head _)
  rw [List.map_cons,List.sum_cons,List.length_cons,Nat.succ_mul]
  lia
theorem zKr {nd:Node} {Q} (hz:RowZ (.add nd)) (hr:0 < C.n) (q:Q (.str (Row.add nd).text) m H):Cd C m H (.ref 481) [zC7 nd] Q:=by
 refine bc fun nn=> ?_
 obtain ⟨h1,h2,h3⟩:=hz.add nd rfl
 refine nn ?_
 refine zAo ["row"] (fd481 _).h rfl (vl1 fun _=> rfl) rfl rfl hr fun L X=> ?_
 unfold zC7
 walk_at "w"
 refine zA4 (by lia) (by exact om0 rfl) rfl ?_
 walk_at "w"
 refine zA6 ?_
 refine zA0 ⟨fun _=> ?_,fun e=> (by simp at e)⟩
 walk_at "w"
 refine ⟨_,zFg,?_⟩
 walk_at "w"
 refine zA4 (by lia) (by exact om0 rfl) rfl ?_
 walk_at "w"
 refine ⟨by exact om0 rfl,fun D1=> ?_⟩
 refine zAe rfl (scOk rfl) ?_ (fun _=> rfl)
 walk_at "w"
 refine zA4 (by lia) (by exact om0 rfl) rfl ?_
 refine zBk numF (xs:=nd.2.map fun k:Nat=> .int k) zBg trivial (by exact omMap ‹_› rfl) (fun L X x hx=> ?_) ?_
 ·refine zAi hx fun k hk'=> ?_
  have:=h3 k hk'
  walk_at "w"
  refine ⟨fun _=> ?_,fun e=> bx e⟩
  walk_at "w"
  refine zCj (by exact omP) ?_
  exact ⟨rfl,by walk_at "mm"⟩
 rw [zNk]
 intro D2
 refine zDa (l:=[.str "add",.str nd.1]) (by walk_at "mm") (.head _) (by simp;with_reducible exact omA2 (by walk_at "a") (by walk_at "r")) fun D3=> ?_
 walk_at "w"
 refine zFq (ys:=zCg nd) (.head _) ?_ ?_
 ·unfold zCg
  have:=zNe (f:=fun x:Str=> x.length) (b:=2) (l:=nd.2.map numT) fun x hx=> by
   refine zAi hx fun k hk=> ?_
   exact zAx k (h3 k hk)
  simp only [List.map_cons,List.sum_cons,List.length_cons,List.length_map] at this ⊢
  have e1:Str.length "add" = 3:=rfl
  have e2:Str.length " " = 1:=rfl
  rw [e1,e2]
  lia
 ·exact ⟨H,by walk_at "mm",q⟩
theorem zGz {Q} (hr:0 < C.n) (q:Q (.str "settle") m H):Cd C m H (.ref 481) [.tup [.str "settle"]] Q:=by
 refine zAo ["row"] (fd481 _).h rfl (vl1 fun _=> rfl) rfl rfl hr fun L X=> ?_
 walk_at "w"
 refine zA4 (by lia) (by exact om0 rfl) rfl ?_
 walk_at "w"
 refine zA6 ?_
 refine zA0 ⟨fun e=> (by simp at e;cases e),fun _=> ?_⟩
 walk_at "w"
 refine zA4 (by lia) (by exact om0 rfl) rfl ?_
 walk_at "w"
 refine zA6 ?_
 refine zA0 ⟨fun _=> ?_,fun e=> (by simp at e)⟩
 walk_at "w"
 exact ⟨H,by walk_at "mm",q⟩
theorem zJe {a b:Nat} {l:Str} {Q} (hz:RowZ (.told a b l)) (hr:0 < C.n) (q:Q (.str (Row.told a b l).text) m H):Cd C m H (.ref 481) [(Row.told a b l).v] Q:=by
 refine bc fun nn=> ?_
 obtain ⟨h1,h2,h3⟩:=hz.told a b l rfl
 refine nn ?_
 refine zAo ["row"] (fd481 _).h rfl (vl1 fun _=> rfl) rfl rfl hr fun L X=> ?_
 unfold Row.v zAf toldR
 walk_at "w"
 refine zA4 (by lia) (by exact om0 rfl) rfl ?_
 walk_at "w"
 refine zA6 ?_
 refine zA0 ⟨fun e=> (by simp at e;cases e),fun _=> ?_⟩
 walk_at "w"
 refine zA4 (by lia) (by exact om0 rfl) rfl ?_
 walk_at "w"
 refine zA6 ?_
 refine zA0 ⟨fun e=> (by simp at e;cases e),fun _=> ?_⟩
 walk_at "w"
 refine zA4 (by lia) (by exact om0 rfl) rfl ?_
 walk_at "w"
 refine zA4 (by lia) (by exact om0 rfl) rfl ?_
 walk_at "w"
 refine zA6 ?_
 refine zA0 ⟨fun e=> (by simp at e;cases e),fun _=> ?_⟩
 walk_at "w"
 refine ⟨by exact om0 rfl,fun D1=> ?_⟩
 walk_at "w"
 refine ⟨_,zFg,?_⟩
 walk_at "w"
 refine zA4 (by lia) (by exact om0 rfl) rfl ?_
 walk_at "w"
 refine zCj (by exact omP) ?_
 walk_at "w"
 refine zA4 (by lia) (by exact om0 rfl) rfl ?_
 walk_at "w"
 refine zCj (by exact omP) ?_
 walk_at "w"
 refine zA4 (by lia) (by exact om0 rfl) rfl ?_
 walk_at "w"
 refine zA4 (by lia) (by exact om0 rfl) rfl ?_
 walk_at "w"
 refine ⟨by exact om0 rfl,fun D2=> ?_⟩
 walk_at "w"
 refine zDa (l₂:=[]) (.head _) (by walk_at "mm") (by exact om0 rfl) fun D3=> ?_
 walk_at "w"
 refine zFq (ys:=zAg a b l) (.head _) ?_ ?_
 ·have e1:=zAx a h1
  have e2:=zAx b h2
  unfold zAg
  simp only [List.map_cons,List.sum_cons,List.length_cons,List.map_nil,List.sum_nil,List.length_nil]
  have e3:Str.length "same" = 4:=rfl
  have e4:Str.length " " = 1:=rfl
  have e5:Str.length "told" = 4:=rfl
  rw [e3,e4,e5]
  lia
 ·exact ⟨H,by walk_at "mm",q⟩
theorem zJf {a b:Nat} {l:Str} {ps:List (Str × Nat)} {Q} (hz:RowZ (.rule a b l ps)) (hr:0 < C.n) (q:Q (.str (Row.rule a b l ps).text) m H):Cd C m H (.ref 481) [(Row.rule a b l ps).v] Q:=by
 refine bc fun nn=> ?_
 obtain ⟨h1,h2,h3,h4,h5⟩:=hz.rule a b l ps rfl
 refine nn ?_
 refine zAo ["row"] (fd481 _).h rfl (vl1 fun _=> rfl) rfl rfl hr fun L X=> ?_
 unfold Row.v zAf ruleR
 walk_at "w"
 refine zA4 (by lia) (by exact om0 rfl) rfl ?_
 walk_at "w"
 refine zA6 ?_
 refine zA0 ⟨fun e=> (by simp at e;cases e),fun _=> ?_⟩
 walk_at "w"
 refine zA4 (by lia) (by exact om0 rfl) rfl ?_
 walk_at "w"
 refine zA6 ?_
 refine zA0 ⟨fun e=> (by simp at e;cases e),fun _=> ?_⟩
 walk_at "w"
 refine zA4 (by lia) (by exact om0 rfl) rfl ?_
 walk_at "w"
 refine zA4 (by lia) (by exact om0 rfl) rfl ?_
 walk_at "w"
 refine zA6 ?_
 refine zA0 ⟨fun _=> ?_,fun e=> (by simp at e)⟩
 refine zAe rfl (scOk rfl) ?_ (fun _=> rfl)
 walk_at "w"
 refine zA4 (by lia) (by exact om0 rfl) rfl ?_
 refine zBk zNi (xs:=ps.map zAu) zBg trivial (by exact omMap ‹_› rfl) (fun L X x hx=> ?_) ?_
 ·refine zAi hx fun p hp'=> ?_
  have zz:=h5 p hp'
  have z1:=zz.1
  have z2:=zz.2
  have z3:=zAx p.2 z2
  unfold zAu
  refine zAl (a:=.str p.1) (b:=.int p.2) rfl ?_
  walk_at "w"
  refine ⟨fun _=> ?_,fun e=> bx e⟩
  walk_at "w"
  refine zLv ?_
  walk_at "w"
  refine ⟨p.1,rfl,by exact omT,p.1,rfl,?_,?_⟩
  ·rw [strLen_append,sizeLine_eq]
   have:Str.length Str.empty = 0:=rfl
   with_reducible exact omA2 (by walk_at "a") (by walk_at "r")
  walk_at "w"
  refine ⟨" ",rfl,?_,?_⟩
  ·rw [strLen_append,strLen_append,sizeLine_eq]
   have:Str.length Str.empty = 0:=rfl
   have:Str.length " " = 1:=rfl
   lia
  walk_at "w"
  refine zRw ?_
  walk_at "w"
  refine ⟨p.2,rfl,by exact omP,numT p.2,rfl,?_,?_⟩
  ·rw [strLen_append,strLen_append,strLen_append,sizeLine_eq]
   have:Str.length Str.empty = 0:=rfl
   have:Str.length " " = 1:=rfl
   lia
  walk_at "w"
  refine ⟨?_,?_,by walk_at "mm"⟩
  ·rw [strLen_append,strLen_append,strLen_append,sizeLine_eq]
   have:Str.length Str.empty = 0:=rfl
   have:Str.length " " = 1:=rfl
   lia
  ·show some (V.str (p.1 ++ " " ++ numT p.2)) = some (V.str (Str.empty ++ p.1 ++ " " ++ numT p.2))
   rw [zIg]
 rw [zIw]
 intro D1
 walk_at "w"
 refine ⟨_,zFg,?_⟩
 walk_at "w"
 refine zA4 (by lia) (by exact om0 rfl) rfl ?_
 walk_at "w"
 refine zCj (by exact omP) ?_
 walk_at "w"
 refine zA4 (by lia) (by exact om0 rfl) rfl ?_
 walk_at "w"
 refine zCj (by exact omP) ?_
 walk_at "w"
 refine zA4 (by lia) (by exact om0 rfl) rfl ?_
 walk_at "w"
 refine zA4 (by lia) (by exact om0 rfl) rfl ?_
 walk_at "w"
 refine ⟨by exact om0 rfl,fun D2=> ?_⟩
 walk_at "w"
 refine zDa (.head _) (l₂:=(ps.map zG7).map V.str) (by walk_at "mm") (by simp;with_reducible exact omA2 (by walk_at "a") (by walk_at "r")) fun D3=> ?_
 walk_at "w"
 refine zFq (ys:=zGy a b l ps) (.head _) ?_ ?_
 ·have e1:=zAx a h1
  have e2:=zAx b h2
  have hp:∀ x ∈ ps.map zG7,x.length ≤ 103:=fun x hx=> by
   refine zAi hx fun p hp=> ?_
   have zz:=h5 p hp
   have z1:=zz.1
   have z2:=zz.2
   have z3:=zAx p.2 z2
   unfold zG7
   rw [strLen_append,strLen_append]
   have:Str.length " " = 1:=rfl
   lia
  have:=zNe (f:=fun x:Str=> x.length) (b:=103) hp
  unfold zGy
  rw [List.map_append,List.sum_append,List.length_append]
  simp only [List.map_cons,List.sum_cons,List.length_cons,List.map_nil,List.sum_nil,List.length_nil,List.length_map] at this ⊢
  have e3:Str.length "same" = 4:=rfl
  have e4:Str.length " " = 1:=rfl
  have e5:Str.length "rule" = 4:=rfl
  rw [e3,e4,e5]
  lia
 ·exact ⟨H,by walk_at "mm",q⟩
end
section
variable {C:Cx} {m:Loc} {H:AH}
theorem zEg {target elt:Expr} {scope:Scope} {cl:List (Str × Addr)} {v:V} {H':AH} {xs:List V} {src:AH → Prop} {Q:List V → AH → Prop} (ys:List V)
    (wk:Walk C target H v src xs H') (hs:src H') (hz:xs.length ≤ 16000000) (hl:ys.length = xs.length)
    (turn:∀ L X (i:Nat) (x y:V),xs[i]? = some x → ys[i]? = some y → Asg (C.inComp scope cl L X) [] H' target x fun _ m₁ H₁=> Ev (C.inComp scope cl L X) m₁ H₁ elt fun v _ H₃=> v = y ∧ Weak H₃ H')
    (fin:Q ys H'):CompT C target [] elt scope cl v H Q:=by
 refine ⟨xs,src,H',wk,hz,fun i acc H=> acc = ys.take i ∧ H = H',⟨by exact rfl,rfl⟩,fun i acc H h=> by rw [h.2];exact hs,fun L X i x acc H hx hI=> ?_,fun acc H h=> ?_⟩
 ·obtain ⟨rfl,rfl⟩:=hI
  have hi:i < ys.length:=by rw [hl];exact (List.getElem?_eq_some_iff.mp hx).1
  have hy:ys[i]? = some ys[i]:=List.getElem?_eq_getElem hi
  refine T.conseq (turn L X i x _ hx hy) fun _ m₁ H₁ h=> zMv ⟨fun _=> ?_,fun e=> bx e⟩
  refine T.weakPost h fun v m₃ H₃ z=> ⟨H,z.2,?_,rfl⟩
  rw [z.1,List.take_add_one,hy];rfl
 ·obtain ⟨rfl,rfl⟩:=h
  rw [← hl,List.take_length];exact fin
theorem zM9 {x:Row} {Q} (hz:RowZ x) (hr:0 < C.n) (q:Q (.str x.text) m H):Cd C m H (.ref 481) [x.v] Q:=by
 cases x with
 | add nd=> exact zKr hz hr q
 | told a b l=> exact zJe hz hr q
 | rule a b l ps=> exact zJf hz hr q
 | settle=> exact zGz hr q
noncomputable def zAp (rows:List Row):Str:=Str.join "" (rows.map fun x:Row=> x.text ++ ("\n":Str))
end
noncomputable def zK3:V → Option V
 | .str c=> if (Builtin.Str.occurrences "0123456789" c 0 (Str.length "0123456789") 1).isEmpty then some (.str c) else none
 | _=> none
noncomputable def zNj (n:Nat):Bool:=ascii (numT n) && decide ((numT n).length ≤ 2) && decide (1 ≤ (numT n).length) && ((signs (numT n)).filterMap zK3).isEmpty && (decide ((numT n).cps[0]? ≠ some 48) || decide (numT n = "0"))
theorem zL0:∀ n,n < 100 → zNj n = true:=by decide +kernel
section
variable {C:Cx} {m:Loc} {H:AH}
theorem zDh {n:Nat} {k:V} {Q} (hn:n < 100) (hr:0 < C.n) (q:Q (.int n) m H):Cd C m H (.ref 486) [.str (numT n),k] Q:=by
 have f:=zL0 n hn
 unfold zNj at f
 simp only [Bool.and_eq_true,decide_eq_true_eq,Bool.or_eq_true] at f
 refine bc fun nn=> ?_
 obtain ⟨⟨⟨⟨f1,f2⟩,f3⟩,f4⟩,f5⟩:=f
 have f4:(signs (numT n)).filterMap zK3 = []:=List.isEmpty_iff.mp f4
 have sz:(numT n).cps.size = (numT n).length:=rfl
 have hne:numT n ≠ "":=fun e=> by rw [e] at f3;exact absurd f3 (by decide)
 obtain ⟨c,hc⟩:∃ c,(numT n).cps[0]? = some c:=⟨_,Array.getElem?_eq_getElem (by lia)⟩
 refine nn ?_
 refine zAo ["word","row"] (fd486 _).h rfl (vl2 fun _ _=> rfl) rfl rfl hr fun L X=> ?_
 walk_at "w"
 refine zLy (by exact omT) ?_
 walk_at "w"
 refine zLx ?_
 refine zA0 ⟨fun _=> ?_,fun e=> by simp at e;lia⟩
 walk_at "w"
 refine zA6 ?_
 rw [decide_eq_false hne]
 refine zA0 ⟨fun _=> ?_,fun e=> bx e⟩
 walk_at "w"
 refine zAe rfl (scOk rfl) ?_ (fun _=> rfl)
 walk_at "w"
 refine zBk zK3 (zNz f1) trivial (by simp [signs];exact omE) (fun L X y hy=> ?_) ?_
 ·refine bc fun nn=> ?_
  obtain ⟨c,rfl⟩:∃ c:Str,y = .str c:=by
   unfold signs at hy
   refine zAi hy fun c _=> ?_
   exact ⟨_,rfl⟩
  refine nn ?_
  walk_at "w"
  refine zFo ?_
  refine zA0 ?_
  refine ⟨fun e=> ?_,fun e=> ?_⟩
  ·walk_at "w"
   refine ⟨?_,Weak.refl _⟩
   show (if _ = true then _ else _) = _
   rw [e];rfl
  ·refine ⟨?_,Weak.refl _⟩
   show (if _ = true then _ else _) = _
   rw [e];rfl
 rw [f4]
 intro D1
 walk_at "w"
 refine ⟨by exact om0 rfl,fun D2=> ?_⟩
 refine zBe (l:=[]) (l':=[]) (by walk_at "mm") (.head _) rfl rfl ?_
 refine zA0 ⟨fun _=> ?_,fun e=> by simp at e⟩
 walk_at "w"
 refine ⟨fun e=> bx e,fun _=> ?_⟩
 walk_at "w"
 refine zK9 (j:=0) (c:=c) (by unfold seqIndex?;simp;lia) (by lia) (by lia) hc ?_
 walk_at "w"
 refine zA6 ?_
 have rd:PySem.intText? (numT n) = some (n:Int):=W.KIN.num_reads (n:=(n:Int)) (by exact omz) (by lia)
 refine zA0 ⟨fun e1=> ?_,fun e1=> ?_⟩
 ·have e1:=of_decide_eq_true e1
  have h0:numT n = "0":=by
   rcases f5 with f5 | f5
   ·refine absurd ?_ f5
    rw [hc]
    have:=congrArg (fun s:Str=> s.cps[0]?) e1
    exact (show some c = (Str.ofString "0").cps[0]? from by simpa using this).trans (by decide)
   ·exact f5
  walk_at "w"
  refine zBr ?_
  rw [decide_eq_true h0]
  refine zA0 ⟨fun e=> bx e,fun _=> ?_⟩
  refine ⟨fun e=> bx e,fun _=> ?_⟩
  walk_at "w"
  refine zGc rd (by exact omT) ?_
  exact ⟨H,by walk_at "mm",q⟩
 ·refine ⟨fun e=> bx e,fun _=> ?_⟩
  walk_at "w"
  refine zGc rd (by exact omT) ?_
  exact ⟨H,by walk_at "mm",q⟩
end
noncomputable def Row.words:Row → List Str
 | .add nd=> zCg nd
 | .told a b l=> zAg a b l
 | .rule a b l ps=> (["same",numT a,numT b,"rule",l]:List Str) ++ ps.flatMap fun p=> [p.1,numT p.2]
 | .settle=> ["settle"]
section
variable {C:Cx} {m:Loc} {H:AH}
theorem zOj {nd:Node} {k:V} {Q} (hz:RowZ (.add nd)) (hs:Txt.split (Row.add nd).text " " = zCg nd) (hl:(Row.add nd).text.length ≤ 2000) (hr:1 < C.n) (q:Q (zC7 nd) m H):Cd C m H (.ref 496) [.str (Row.add nd).text,k] Q:=by
 refine bc fun nn=> ?_
 obtain ⟨h1,h2,h3⟩:=hz.add nd rfl
 refine nn ?_
 have wl:(zCg nd).length = nd.2.length + 2:=by simp [zCg]
 refine zD2 ["text","row"] (fd496 _).h rfl (vl2 fun _ _=> rfl) rfl (fun _=> rfl) (fun _=> rfl) (fun _=> rfl) rfl (by exact omB) fun L X=> ?_
 change Ex _ [("text",.str (Row.add nd).text)] ((L + 1,.cell (some k)) :: H) _ _
 walk_at "w"
 refine ⟨_,zEk,?_⟩
 walk_at "w"
 refine zEp rfl (by exact omT) fun D1=> ?_
 rw [hs]
 walk_at "w"
 refine zA8 (.head _) (by lia) (x:=.str "add") rfl ?_ (by simp;lia)
 walk_at "w"
 refine zA6 ?_
 refine zA0 ⟨fun _=> ?_,fun e=> (by simp at e)⟩
 walk_at "w"
 refine zA2 (.head _) (by simp;lia) ?_
 walk_at "w"
 refine zLx ?_
 refine zA0 ⟨fun _=> ?_,fun e=> (by simp at e;lia)⟩
 walk_at "w"
 refine ⟨fun _=> ?_,fun e=> bx e⟩
 walk_at "w"
 refine zA8 (.head _) (by lia) (x:=.str nd.1) rfl ?_ (by simp;lia)
 walk_at "w"
 refine zAe rfl (scOk rfl) ?_ (fun _=> rfl)
 walk_at "w"
 refine zGr (.head _) rfl rfl rfl (by decide) (by simp;lia) ?_
 intro D2
 have ep:vpick ((zCg nd).map V.str) (vpart (.int 2)) (vpart .none) (vpart .none) = (nd.2.map numT).map V.str:=(zOa _ 2 (Nat.le_add_left 2 _)).trans rfl
 rw [ep]
 refine zEg (nd.2.map fun k:Nat=> .int k) (zD0 (xs:=(nd.2.map numT).map V.str) (.head _)) (.head _) (by simp;exact omT) (by simp) (fun L X i x y hx hy=> ?_) ?_
 ·rw [List.map_map,List.getElem?_map] at hx
  refine zD8 hx fun n h4=> ?_
  rw [List.getElem?_map,h4] at hy
  cases hy
  have h5:=h3 n (List.mem_of_getElem? h4)
  walk_at "w"
  refine Cd.call (zDh h5 (by show 0 < C.n - 1;exact omR) ?_)
  exact ⟨rfl,Weak.refl _⟩
 intro D3
 walk_at "w"
 refine zBl (.head _) (by exact omMap ‹_› rfl) ?_
 walk_at "w"
 refine ⟨by exact om0 rfl,?_⟩
 exact ⟨H,by walk_at "mm",q⟩
theorem zJg {k:V} {Q} (hs:Txt.split "settle" " " = (["settle"]:List Str)) (hr:1 < C.n) (q:Q (.tup [.str "settle"]) m H):Cd C m H (.ref 496) [.str "settle",k] Q:=by
 refine zD2 ["text","row"] (fd496 _).h rfl (vl2 fun _ _=> rfl) rfl (fun _=> rfl) (fun _=> rfl) (fun _=> rfl) rfl (by exact omB) fun L X=> ?_
 change Ex _ [("text",.str "settle")] ((L + 1,.cell (some k)) :: H) _ _
 walk_at "w"
 refine ⟨_,zEk,?_⟩
 walk_at "w"
 refine zEp rfl (by decide) fun D1=> ?_
 rw [hs]
 walk_at "w"
 refine zA8 (.head _) (by lia) (x:=.str "settle") rfl ?_ (by exact om0 rfl)
 walk_at "w"
 refine zA6 ?_
 refine zA0 ⟨fun e=> (by simp at e;cases e),fun _=> ?_⟩
 refine ⟨fun e=> bx e,fun _=> ?_⟩
 walk_at "w"
 refine zA8 (.head _) (by lia) (x:=.str "settle") rfl ?_ (by exact om0 rfl)
 walk_at "w"
 refine zA6 ?_
 refine zA0 ⟨fun e=> (by simp at e;cases e),fun _=> ?_⟩
 walk_at "w"
 refine ⟨by exact om0 rfl,fun D2=> ?_⟩
 have vs:voks 8 [V.str "settle"] = true:=zCp (l:=[("settle":Str)]) fun x hx=> by
  rw [List.mem_singleton.mp hx];decide +kernel
 refine zBe (l:=[.str "settle"]) (l':=[.str "settle"]) (.tail _ (.head _)) (.head _) vs vs ?_
 refine zA0 ⟨fun e=> (by simp at e),fun _=> ?_⟩
 walk_at "w"
 refine ⟨by exact om0 rfl,?_⟩
 exact ⟨H,by walk_at "mm",q⟩
end
section
variable {C:Cx} {m:Loc} {H:AH}
theorem zKp {a b:Nat} {l:Str} {k:V} {W:Addr} {Q} (hz:RowZ (.told a b l)) (hm:(W,AObj.list ((zAg a b l).map V.str)) ∈ H) (hr:1 < C.n) (q:Q (Row.told a b l).v m H):Cd C m H (.ref 491) [.ref W,k] Q:=by
 refine bc fun nn=> ?_
 obtain ⟨h1,h2,h3⟩:=hz.told a b l rfl
 refine nn ?_
 refine zD2 ["words","row"] (fd491 _).h rfl (vl2 fun _ _=> rfl) rfl (fun _=> rfl) (fun _=> rfl) (fun _=> rfl) rfl (by exact omB) fun L X=> ?_
 change Ex _ [("words",.ref W)] ((L + 1,.cell (some k)) :: H) _ _
 have hm':(W,AObj.list ((zAg a b l).map V.str)) ∈ (L + 1,AObj.cell (some k)) :: H:=.tail _ hm
 walk_at "w"
 refine zA2 hm' (by simp [zAg]) ?_
 walk_at "w"
 refine zEh (a:=5) ?_
 refine zA0 ⟨fun _=> ?_,fun e=> (by simp at e)⟩
 walk_at "w"
 refine zA2 hm' (by simp [zAg]) ?_
 walk_at "w"
 refine zIe (a:=5) (by lia) ?_
 walk_at "w"
 refine zB5 (a:=1) ?_
 refine zA0 ⟨fun _=> ?_,fun e=> (by simp at e)⟩
 walk_at "w"
 refine zA8 hm' (by lia) (x:=.str "told") rfl ?_ (by simp [zAg])
 walk_at "w"
 refine zBr ?_
 refine zA0 ⟨fun _=> ?_,fun e=> (by simp at e;cases e)⟩
 walk_at "w"
 refine zA8 hm' (by lia) (x:=.str "told") rfl ?_ (by simp [zAg])
 walk_at "w"
 refine zBr ?_
 refine zA0 ⟨fun _=> ?_,fun e=> (by simp at e)⟩
 walk_at "w"
 refine zA2 hm' (by simp [zAg]) ?_
 walk_at "w"
 refine zLx (a:=5) ?_
 refine zA0 ⟨fun _=> ?_,fun e=> (by simp at e)⟩
 walk_at "w"
 refine ⟨fun e=> bx e,fun _=> ?_⟩
 refine ⟨fun _=> ?_,fun e=> bx e⟩
 walk_at "w"
 refine ⟨fun e=> bx e,fun _=> ?_⟩
 walk_at "w"
 refine zA8 hm' (by lia) (x:=.str "told") rfl ?_ (by simp [zAg])
 walk_at "w"
 refine zA8 hm' (by lia) (x:=.str l) rfl ?_ (by simp [zAg])
 walk_at "w"
 refine ⟨by exact om0 rfl,?_⟩
 walk_at "w"
 refine zA8 hm' (by lia) (x:=.str "told") rfl ?_ (by simp [zAg])
 walk_at "w"
 refine zA6 ?_
 refine zA0 ⟨fun e=> (by simp at e;cases e),fun _=> ?_⟩
 walk_at "w"
 refine zA8 hm' (by lia) (x:=.str (numT a)) rfl ?_ (by simp [zAg])
 walk_at "w"
 refine Cd.call (zDh h1 (by show 0 < C.n - 1;exact omR) ?_)
 walk_at "w"
 refine zA8 hm' (by lia) (x:=.str (numT b)) rfl ?_ (by simp [zAg])
 walk_at "w"
 refine Cd.call (zDh h2 (by show 0 < C.n - 1;exact omR) ?_)
 walk_at "w"
 refine ⟨by exact om0 rfl,?_⟩
 exact ⟨H,by walk_at "mm",q⟩
end
section
variable {C:Cx} {m:Loc} {H:AH}
theorem zH0 {x:Row} {rest:List Str} {k:V} {Q} (hw:x.words = ("same":Str) :: rest) (hwl:x.words.length ≤ 100) (hs:Txt.split x.text " " = x.words) (hl:x.text.length ≤ 2000)
    (same:∀ (C':Cx) (m':Loc) (H':AH) (W:Addr) (Q':V → Loc → AH → Prop),C'.n = C.n - 1 → C'.w = C.w → (W,AObj.list (x.words.map V.str)) ∈ H' → Q' x.v m' H' → Cd C' m' H' (.ref 491) [.ref W,k] Q') (hr:1 < C.n) (q:Q x.v m H):Cd C m H (.ref 496) [.str x.text,k] Q:=by
 refine zD2 ["text","row"] (fd496 _).h rfl (vl2 fun _ _=> rfl) rfl (fun _=> rfl) (fun _=> rfl) (fun _=> rfl) rfl (by exact omB) fun L X=> ?_
 change Ex _ [("text",.str x.text)] ((L + 1,.cell (some k)) :: H) _ _
 walk_at "w"
 refine ⟨_,zEk,?_⟩
 walk_at "w"
 refine zEp rfl (by exact omT) fun D1=> ?_
 rw [hs]
 have h0:(x.words.map V.str)[(0:Int).toNat]? = some (.str "same"):=by rw [hw];rfl
 walk_at "w"
 refine zA8 (.head _) (by lia) h0 ?_ (by exact omMap ‹_› rfl)
 walk_at "w"
 refine zA6 ?_
 refine zA0 ⟨fun e=> (by simp at e;cases e),fun _=> ?_⟩
 refine ⟨fun e=> bx e,fun _=> ?_⟩
 walk_at "w"
 refine zA8 (.head _) (by lia) h0 ?_ (by exact omMap ‹_› rfl)
 walk_at "w"
 refine zA6 ?_
 refine zA0 ⟨fun _=> ?_,fun e=> (by simp at e)⟩
 walk_at "w"
 refine Cd.call (same _ _ _ _ _ rfl rfl (.head _) ?_)
 exact ⟨H,by walk_at "mm",q⟩
end
theorem st_in {st sd:Addr} {r:WrA} {σ:Hs} {j:Jk} {K:AH} {p:Addr × AObj}:List.Perm (p :: StH st sd r σ j K) (StH st sd r σ j (p :: K)):=(List.Perm.swap _ _ _).trans (hp_in.cons _)
section
variable {C:Cx} {m:Loc} {H:AH}
theorem zXc {st sd:Addr} {r:WrA} {σ τ:Hs} {j:Jk} {K:AH} {p q:Addr × AObj} {f:V} {args:List V} (R:Jk → Prop)
    (h:∀ K',Cd C m (StH st sd r σ j K') f args fun v m' H'=> m' = m ∧ ∃ j',H' = StH st sd r τ j' K' ∧ R j') :
    Cd C m (p :: q :: StH st sd r σ j K) f args fun v m' H'=> m' = m ∧ ∃ j',H' = p :: q :: StH st sd r τ j' K ∧ R j':=by
 refine Cd.weakPre (Weak.perm ((st_in.cons p).trans st_in)) (Cd.weakPost (h (p :: q :: K)) fun v m' H' z=> ?_)
 obtain ⟨rfl,j',rfl,z⟩:=z
 exact ⟨_,Weak.perm ((st_in.cons p).trans st_in).symm,rfl,j',rfl,z⟩
noncomputable def zI5 (n:Nat) (w:World) (σ:Hs) (x:Row) (τ:Hs):Prop:=∀ (C':Cx) (m':Loc) (st sd:Addr) (r:WrA) (j:Jk) (K:AH) (Q':V → Loc → AH → Prop),C'.n = n → C'.w = w → JOk σ j →
 (∀ j',JOk τ j' → Q' .none m' (StH st sd r τ j' K)) → Cd C' m' (StH st sd r σ j K) (.ref 557) [.ref st,x.v] Q'
noncomputable def zLq (n:Nat) (w:World) (x:Row):Prop:=∀ (C':Cx) (m':Loc) (H':AH) (k:V) (Q':V → Loc → AH → Prop),C'.n = n → C'.w = w → Q' x.v m' H' → Cd C' m' H' (.ref 496) [.str x.text,k] Q'
theorem j0_ok:JOk (zAd [] []) j0:=⟨rfl,rfl,rfl,fun p hp=> (by exact nM hp),rfl,Nat.le_refl _,rfl,Nat.le_refl _⟩
theorem zN1 {test:Expr} {body orelse:List Stmt} {pos:Pos} {rest:List Stmt} {Q} (h:Tr C m H test fun b m₁ H₁=> b = false ∧ m₁ = m ∧ H₁ = H) (h2:Ex C m H orelse (Seq C rest Q)):Ex C m H (.If test body orelse pos :: rest) Q :=
 Ex_If (T.conseq h fun b m₁ H₁ z=> by
  obtain ⟨rfl,rfl,rfl⟩:=z
  exact ⟨fun e=> bx e,fun _=> h2⟩)
theorem zV3 {rows:List Row} {σs:Nat → Hs} {text:Str} {Q} (hz:text.length ≤ 1000000) (hl:rows.length ≤ 1000) (h0:σs 0 = zAd [] []) (hend:text = "" ∨ ∃ i,seqIndex? (-1) text.length = some i ∧ text.cps[i]? = some 10)
    (hsp:Txt.split text "\n" = rows.map Row.text ++ ([""]:List Str)) (hlen:∀ i,i ≤ rows.length → (σs i).rows.length = i)
    (read:∀ x ∈ rows,zLq (C.n - 1) C.w x) (step:∀ i x,rows[i]? = some x → zI5 (C.n - 1) C.w (σs i) x (σs (i + 1))) (hr:7 < C.n)
    (q:∀ st sd r j,JOk (σs rows.length) j → Q (.ref st) m (StH st sd r (σs rows.length) j H)):Cd C m H (.ref 578) [.str text] Q:=by
 refine zAo ["text"] (fd578 _).h rfl (vl1 fun _=> rfl) rfl rfl (by exact omB) fun L X=> ?_
 walk_at "w"
 refine Cd.call (zLo (by show 6 < C.n - 1;exact omR) fun st sd r=> ?_)
 walk_at "w1"
 refine zN1 ?_ ?_
 ·walk_at "w"
  refine zBr ?_
  refine zA0 ⟨fun e=> ?_,fun _=> ⟨rfl,rfl,rfl⟩⟩
  rcases hend with rfl | ⟨i,hi,hc⟩
  ·simp at e
  walk_at "w"
  refine zO0 ?_
  refine zK9 (j:=i) (c:=10) hi (by lia) (by lia) hc ?_
  walk_at "w"
  refine zBr ?_
  have:decide ((⟨#[10]⟩:Str) = "\n") = true:=by decide +kernel
  rw [this]
  refine zA0 ⟨fun e=> bx e,fun _=> ⟨rfl,rfl,rfl⟩⟩
 walk_at "w"
 refine zG6 ?_ (fun _=> rfl)
 walk_at "w"
 refine ⟨_,zEk,?_⟩
 walk_at "w"
 refine zEp rfl (by exact omT) fun D1=> ?_
 rw [hsp]
 walk_at "w"
 refine zO0 ?_
 walk_at "w"
 refine zGr (.head _) rfl rfl rfl (by decide) (by simp;exact omT) fun D2=> ?_
 have ep:vpick ((rows.map Row.text ++ ([""]:List Str)).map V.str) (vpart .none) (vpart (.int (-1))) (vpart .none) = (rows.map Row.text).map V.str:=(zO9 _ (by rw [List.length_map,List.length_append];exact Nat.le_add_left 1 _)).trans (by rw [List.map_append];simp)
 rw [ep]
 walk_at "w"
 refine zJ7 (.head _) fun e it=> ?_
 refine ⟨_,_,_,zJ4 (xs:=(rows.map Row.text).map V.str),fun i H'=> ∃ j,H' = (D2,.list ((rows.map Row.text).map V.str)) :: (D1,.list ((rows.map Row.text ++ ([""]:List Str)).map V.str)) :: StH st sd r (σs i) j H ∧ JOk (σs i) j,?_,?_,?_,?_⟩
 ·refine ⟨j0,by rw [h0],by rw [h0];exact j0_ok⟩
 ·rintro i H' ⟨j,rfl,_⟩
  exact .head _
 ·rintro X i x H' hx ⟨j,rfl,hj⟩
  obtain ⟨y,hy,rfl⟩:=zHt hx
  rw [List.map_map,List.getElem?_map] at hy
  obtain ⟨row,hrow,e⟩:=Option.map_eq_some_iff.mp hy
  obtain rfl:V.str row.text = y:=e
  refine zAl (a:=.int i) (b:=.str row.text) rfl ?_
  have hi:i < rows.length:=(List.getElem?_eq_some_iff.mp hrow).1
  walk_at "w"
  refine Cd.call (read row (List.mem_of_getElem? hrow) _ _ _ _ _ rfl rfl ?_)
  walk_at "w"
  refine zUr fun X2=> ?_
  walk_at "w"
  refine ⟨_,zA1 (.tail _ (.tail _ (.head _))) zMc rfl,?_⟩
  walk_at "w"
  refine Cd.call (Cd.conseq (zXc (JOk (σs (i + 1))) fun K'=> step i row hrow _ _ st sd r j K' _ rfl rfl hj fun j' hj'=> ⟨rfl,j',rfl,hj'⟩) fun v m' H' h=> ?_)
  obtain ⟨rfl,j',rfl,hj'⟩:=h
  walk_at "w"
  refine zA5 (.tail _ (.tail _ (.head _))) rfl zAw ?_
  refine zA5 (.tail _ (.tail _ (.tail _ (.head _)))) rfl zAr ?_
  walk_at "w"
  have hl':=hlen (i + 1) hi
  refine zA2 (by walk_at "mm") (by lia) ?_
  walk_at "w"
  refine zDx ?_
  refine zAh ?_
  rw [hl']
  refine zA0 ⟨fun e=> (by simp at e),fun _=> ?_⟩
  walk_at "w"
  exact ⟨.inl rfl,by walk_at "mm",_,Weak.refl _,j',rfl,hj'⟩
 ·rintro H' ⟨j,rfl,hj⟩
  rw [zEa,List.length_map,List.length_map] at hj ⊢
  walk_at "w"
  exact ⟨_,by walk_at "mm",q st sd r j hj⟩
end
theorem zHs {α β:Type} (f g:α → β):∀ l:List α,zE9 (l.flatMap fun p=> [f p,g p]) = l.map f
 | []=> rfl
 | a :: r=> by
  rw [List.flatMap_cons]
  show f a :: zE9 (r.flatMap fun p=> [f p,g p]) = _
  rw [zHs f g r];rfl
theorem zGa {α β:Type} (f g:α → β):∀ l:List α,zE9 ((l.flatMap fun p=> [f p,g p]).drop 1) = l.map g
 | []=> rfl
 | [a]=> rfl
 | a :: b :: r=> by
  have ih:=zGa f g (b :: r)
  rw [List.flatMap_cons] at ih ⊢
  rw [List.flatMap_cons]
  show g a :: zE9 ([g b] ++ r.flatMap fun p=> [f p,g p]) = _
  have:([f b,g b] ++ r.flatMap fun p=> [f p,g p]).drop 1 = [g b] ++ r.flatMap fun p=> [f p,g p]:=rfl
  rw [this] at ih
  rw [ih];rfl
section
variable {C:Cx} {m:Loc} {H:AH}
theorem zKq {a b:Nat} {l:Str} {ps:List (Str × Nat)} {many:Nat} {k:V} {W:Addr} {Q} (hz:RowZ (.rule a b l ps)) (hp:zEn many ps) (hm:(W,AObj.list ((Row.rule a b l ps).words.map V.str)) ∈ H) (hr:1 < C.n) (q:Q (Row.rule a b l ps).v m H):Cd C m H (.ref 491) [.ref W,k] Q:=by
 obtain ⟨h1,h2,h3,h4,h5⟩:=hz.rule a b l ps rfl
 have wl:(Row.rule a b l ps).words.length = 5 + 2 * ps.length:=by
  show (_ ++ _:List Str).length = _
  rw [List.length_append,List.length_flatMap]
  show 5 + (ps.map fun _=> 2).sum = _
  rw [List.map_const',List.sum_replicate_nat];lia
 have zl:((Row.rule a b l ps).words.map V.str).length ≤ 100:=by rw [List.length_map,wl];lia
 refine zD2 ["words","row"] (fd491 _).h rfl (vl2 fun _ _=> rfl) rfl (fun _=> rfl) (fun _=> rfl) (fun _=> rfl) rfl (by exact omB) fun L X=> ?_
 change Ex _ [("words",.ref W)] ((L + 1,.cell (some k)) :: H) _ _
 have hm':(W,AObj.list ((Row.rule a b l ps).words.map V.str)) ∈ (L + 1,AObj.cell (some k)) :: H:=.tail _ hm
 walk_at "w"
 refine zA2 hm' (by exact omT) ?_
 walk_at "w"
 refine zEh (a:=_) (b:=5) ?_
 refine zA0 ⟨fun _=> ?_,fun e=> (by rw [List.length_map,wl] at e;simp at e;lia)⟩
 walk_at "w"
 refine zA2 hm' (by exact omT) ?_
 walk_at "w"
 refine zIe (b:=2) (by lia) ?_
 walk_at "w"
 refine zB5 (b:=0) ?_
 refine zA0 ⟨fun _=> ?_,fun e=> (by rw [List.length_map,wl] at e;simp at e)⟩
 walk_at "w"
 refine zA8 hm' (by lia) (x:=.str "rule") rfl ?_ (by exact omT)
 walk_at "w"
 refine zBr ?_
 refine zA0 ⟨fun e=> (by simp at e),fun _=> ?_⟩
 walk_at "w"
 refine ⟨fun _=> ?_,fun e=> bx e⟩
 walk_at "w"
 refine ⟨fun e=> bx e,fun _=> ?_⟩
 walk_at "w"
 refine zA8 hm' (by lia) (x:=.str "rule") rfl ?_ (by exact omT)
 walk_at "w"
 refine zA8 hm' (by lia) (x:=.str l) rfl ?_ (by exact omT)
 walk_at "w"
 refine ⟨by exact om0 rfl,?_⟩
 walk_at "w"
 refine zA8 hm' (by lia) (x:=.str "rule") rfl ?_ (by exact omT)
 walk_at "w"
 refine zA6 ?_
 refine zA0 ⟨fun _=> ?_,fun e=> (by simp at e)⟩
 walk_at "w"
 refine zGr hm' rfl rfl rfl (by decide) (by exact omT) fun D1=> ?_
 have en:vpick ((Row.rule a b l ps).words.map V.str) (vpart (.int 5)) (vpart .none) (vpart (.int 2)) = (ps.map (·.1)).map V.str:=by
  refine (zKm _ 5).trans ?_
  rw [← List.map_drop]
  show zE9 ((ps.flatMap fun p=> [p.1,numT p.2]).map V.str) = _
  rw [List.map_flatMap]
  exact (zHs (fun p:Str × Nat=> V.str p.1) (fun p=> V.str (numT p.2)) ps).trans (List.map_map).symm
 rw [en]
 walk_at "w"
 refine zEq (l:=(ps.map (·.1)).map Atom.s) (by rw [show ((ps.map (·.1)).map Atom.s).map Atom.v = (ps.map (·.1)).map V.str by rw [List.map_map];rfl];exact .head _) (by simp;with_reducible exact omTs (by walk_at "a") (by walk_at "r")) fun D2 o so=> ?_
 rw [zEb (fun a b e=> by injection e) (ps.map (·.1)),zK5 (zI2 hp.asc)] at so
 walk_at "w"
 refine zBq (.head _) so (by simp;with_reducible exact omTs (by walk_at "a") (by walk_at "r")) fun D3 ms pm sm=> ?_
 rw [zG1 pm (zEj sm) hp.asc]
 have vk:voks 8 ((ps.map (·.1)).map V.str) = true:=zCp fun x hx=> by
  refine zAi hx fun p hp'=> ?_
  have:=(hp.ok p hp').1
  unfold zEu at this
  rw [Bool.and_eq_true,decide_eq_true_eq] at this
  exact (zB6 this.1).1
 refine zBe (by walk_at "mm") (.head _) vk vk ?_
 refine zA0 ⟨fun e=> (by simp at e),fun _=> ?_⟩
 walk_at "w"
 refine zLt rfl (scOk rfl) zXa rfl rfl rfl ?_ (fun _=> rfl)
 walk_at "w"
 refine zGr (.tail _ (.tail _ (.tail _ hm'))) rfl rfl rfl (by decide) (by exact omT) fun D4=> ?_
 have en2:vpick ((Row.rule a b l ps).words.map V.str) (vpart (.int 6)) (vpart .none) (vpart (.int 2)) = ps.map fun p=> V.str (numT p.2):=by
  refine (zKm _ 6).trans ?_
  rw [← List.map_drop]
  show zE9 (((ps.flatMap fun p=> [p.1,numT p.2]).drop 1).map V.str) = _
  rw [List.map_drop,List.map_flatMap]
  exact zGa (fun p:Str × Nat=> V.str p.1) (fun p=> V.str (numT p.2)) ps
 rw [en2]
 walk_at "w"
 have zipped:(((ps.map (·.1)).map V.str).zip (ps.map fun p=> V.str (numT p.2))).map (fun p=> V.tup [p.1,p.2]) = ps.map fun p=> V.tup [.str p.1,.str (numT p.2)]:=by
  rw [List.map_map,List.zip_map',List.map_map];rfl
 refine ⟨D1,D4,_,_,rfl,by walk_at "mm",.head _,by simp;exact omT,fun i acc H'=> acc = (ps.take i).map zAu ∧ H' = _,⟨rfl,rfl⟩,fun i acc H' h=> ?_,fun B L' X' i x acc H' hx hI=> ?_,fun acc H₂ hI D5=> ?_⟩
 ·obtain ⟨_,rfl⟩:=h
  exact ⟨by walk_at "mm",.head _⟩
 ·rw [zipped,List.getElem?_map] at hx
  refine zD8 hx fun p hp'=> ?_
  obtain ⟨rfl,rfl⟩:=hI
  refine zAl (a:=.str p.1) (b:=.str (numT p.2)) rfl ?_
  walk_at "w"
  refine Cd.call (zDh (h5 p (List.mem_of_getElem? hp')).2 (by show 0 < C.n - 1;exact omR) ?_)
  walk_at "w"
  refine ⟨by exact om0 rfl,?_⟩
  refine ⟨?_,rfl⟩
  rw [List.take_add_one,hp',List.map_append];rfl
 ·obtain ⟨rfl,rfl⟩:=hI
  walk_at "w"
  refine zBl (.head _) (by simp;exact omT) ?_
  walk_at "w"
  rw [show (((ps.map (·.1)).map V.str).zip (ps.map fun p=> V.str (numT p.2))).length = ps.length by rw [List.length_zip];simp,List.take_length]
  refine ⟨by exact om0 rfl,?_⟩
  refine zId (by exact om0 rfl) ?_
  walk_at "w"
  refine zA8 (by walk_at "mm") (by lia) (x:=.str (numT a)) rfl ?_ (by exact omT)
  walk_at "w"
  refine Cd.call (zDh h1 (by show 0 < C.n - 1;exact omR) ?_)
  walk_at "w"
  refine zA8 (by walk_at "mm") (by lia) (x:=.str (numT b)) rfl ?_ (by exact omT)
  walk_at "w"
  refine Cd.call (zDh h2 (by show 0 < C.n - 1;exact omR) ?_)
  walk_at "w"
  refine ⟨by exact om0 rfl,?_⟩
  exact ⟨H,by walk_at "mm",q⟩
end
noncomputable def jl (c:Nat):List (List Nat) → List Nat
 | []=> []
 | [x]=> x
 | x :: y :: r=> x ++ c :: jl c (y :: r)
theorem zXd {c:Nat}:∀ {p p' x x':List Nat},c ∉ p → c ∉ p' → p ++ c :: x = p' ++ c :: x' → p = p' ∧ x = x':=by
 intro p
 induction p with
 | nil =>
  intro p' x x' _ h e
  cases p' with
  | nil=> exact ⟨rfl,(List.cons.inj e).2⟩
  | cons b p'=> exact absurd ((List.cons.inj e).1 ▸ List.Mem.head _) h
 | cons a p ih =>
  intro p' x x' h h' e
  cases p' with
  | nil=> exact absurd ((List.cons.inj e).1 ▸ List.Mem.head _) h
  | cons b p' =>
   have zz:=ih (fun q=> h (.tail _ q)) (fun q=> h' (.tail _ q)) (List.cons.inj e).2
   exact ⟨by rw [(List.cons.inj e).1,zz.1],zz.2⟩
theorem zX8 {c:Nat}:∀ {l l':List (List Nat)},l ≠ [] → l' ≠ [] → (∀ p ∈ l,c ∉ p) → (∀ p ∈ l',c ∉ p) → jl c l = jl c l' → l = l':=by
 intro l
 induction l with
 | nil=> intro _ h;exact absurd rfl h
 | cons p t ih =>
 intro l'
 cases l' with
 | nil=> intro _ h;exact absurd rfl h
 | cons p' t' =>
 intro _ _ h h' e
 cases t with
 | nil =>
  cases t' with
  | nil=> rw [show p = p' from e]
  | cons q r =>
   have e:p = p' ++ c :: jl c (q :: r):=e
   exact absurd (e ▸ List.mem_append_right _ (List.Mem.head _)) (h p (.head _))
 | cons q r =>
  cases t' with
  | nil =>
   have e:p ++ c :: jl c (q :: r) = p':=e
   exact absurd (e ▸ List.mem_append_right _ (List.Mem.head _)) (h' p' (.head _))
  | cons q' r' =>
   have zz:=zXd (h p (.head _)) (h' p' (.head _)) e
   rw [zz.1,ih (List.cons_ne_nil _ _) (List.cons_ne_nil _ _) (fun z hz=> h z (.tail _ hz)) (fun z hz=> h' z (.tail _ hz)) zz.2]
theorem Str.inj {a b:Str} (h:a.cps.toList = b.cps.toList):a = b:=by
 obtain ⟨a⟩:=a;obtain ⟨b⟩:=b
 exact congrArg Str.mk (Array.toList_inj.mp h)
theorem zCa (a b:Str):(a ++ b).cps.toList = a.cps.toList ++ b.cps.toList:=by
 show (a.cps ++ b.cps).toList = _
 exact Array.toList_append
theorem zGo {c:Nat}:∀ ws:List Str,(Str.join ⟨#[c]⟩ ws).cps.toList = jl c (ws.map (·.cps.toList))
 | []=> rfl
 | [x]=> rfl
 | x :: y :: r=> by
  show (x ++ ⟨#[c]⟩ ++ Str.join ⟨#[c]⟩ (y :: r)).cps.toList = _
  rw [zCa,zCa,zGo (y :: r)]
  show _ = x.cps.toList ++ c :: jl c _
  rw [List.append_assoc];rfl
theorem zSf (x y:Str):Txt.split x y ≠ []:=by
 unfold Txt.split
 split
 ·exact List.cons_ne_nil _ _
 ·rw [StrLaws.partsBetween_eq]
  refine bc fun nn=> ?_
  obtain ⟨p,r,e⟩:=StrLaws.partsFrom_ne x y.length 0 (Builtin.Str.occurrences x y 0 x.length (x.length + 1))
  refine nn ?_
  rw [e];split <;> exact List.cons_ne_nil _ _
theorem zF0 {c:Nat} {ws:List Str} (hne:ws ≠ []) (hf:∀ w ∈ ws,c ∉ w.cps.toList):Txt.split (Str.join ⟨#[c]⟩ ws) ⟨#[c]⟩ = ws:=by
 have e:=StrLaws.join_split (Str.join ⟨#[c]⟩ ws) ⟨#[c]⟩
 have e':(Str.join ⟨#[c]⟩ (Txt.split (Str.join ⟨#[c]⟩ ws) ⟨#[c]⟩)).cps.toList = (Str.join ⟨#[c]⟩ ws).cps.toList:=congrArg (fun z:Str=> z.cps.toList) e
 rw [zGo,zGo] at e'
 have hs:(Txt.split (Str.join ⟨#[c]⟩ ws) ⟨#[c]⟩).map (fun z:Str=> z.cps.toList) = ws.map fun z:Str=> z.cps.toList :=
  zX8 (by simpa using zSf _ _) (by simpa using hne) (fun p hp=> by
   refine zAi hp fun w hw=> ?_
   exact StrLaws.split_free _ c w hw) (fun p hp=> by
   refine zAi hp fun w hw=> ?_
   exact hf w hw) e'
 have inj:∀ {l l':List Str},l.map (fun z:Str=> z.cps.toList) = l'.map (fun z:Str=> z.cps.toList) → l = l':=by
  intro l
  induction l with
  | nil=> intro l' h;cases l' with
   | nil=> rfl
   | cons=> exact nC h
  | cons a r ih=> intro l' h;cases l' with
   | nil=> exact cN h
   | cons b r' =>
    rw [List.map_cons,List.map_cons,List.cons.injEq] at h
    rw [Str.inj h.1,ih h.2]
 exact inj hs
theorem zQo:∀ ts:List Str,Str.join "\n" (ts ++ [("":Str)]) = Str.join "" (ts.map fun t=> t ++ ("\n":Str))
 | []=> rfl
 | [a]=> by
  show a ++ "\n" ++ ("":Str) = a ++ "\n"
  refine Str.inj ?_
  rw [zCa];exact List.append_nil _
 | a :: b :: r=> by
  have ih:=zQo (b :: r)
  show a ++ "\n" ++ Str.join "\n" (b :: r ++ [("":Str)]) = a ++ "\n" ++ "" ++ Str.join "" ((b :: r).map fun t=> t ++ ("\n":Str))
  rw [ih]
  refine Str.inj ?_
  simp only [zCa]
  show _ = _ ++ [] ++ _
  rw [List.append_nil]
noncomputable def plain (x:Str):Bool:=x.cps.toList.all fun c=> decide (c ≠ 32) && decide (c ≠ 10)
theorem zNh {x:Str} (h:plain x = true):32 ∉ x.cps.toList ∧ 10 ∉ x.cps.toList:=by
 unfold plain at h
 rw [List.all_eq_true] at h
 exact ⟨fun q=> by have:=h _ q;simp at this,fun q=> by have:=h _ q;simp at this⟩
theorem zDg:∀ n,n < 100 → plain (numT n) = true:=by decide +kernel
structure RowP (x:Row):Prop where
 add:∀ nd,x = .add nd → plain nd.1 = true ∧ ∀ k ∈ nd.2,k < 100
 told:∀ a b l,x = .told a b l → a < 100 ∧ b < 100 ∧ plain l = true
 rule:∀ a b l ps,x = .rule a b l ps → a < 100 ∧ b < 100 ∧ plain l = true ∧ ∀ p ∈ ps,plain p.1 = true ∧ p.2 < 100
theorem zGu {x:Row} (h:RowP x):∀ w ∈ x.words,plain w = true:=by
 intro w hw
 cases x with
 | add nd =>
  obtain ⟨h1,h2⟩:=h.add nd rfl
  rcases List.mem_cons.mp hw with rfl | hw
  ·decide +kernel
  rcases List.mem_cons.mp hw with rfl | hw
  ·exact h1
  refine zAi hw fun k hk=> ?_
  exact zDg k (h2 k hk)
 | told a b l =>
  obtain ⟨h1,h2,h3⟩:=h.told a b l rfl
  have hw:w ∈ zAg a b l:=hw
  simp only [zAg,List.mem_cons,List.not_mem_nil,or_false] at hw
  rcases hw with rfl | rfl | rfl | rfl | rfl
  ·decide +kernel
  ·exact zDg a h1
  ·exact zDg b h2
  ·decide +kernel
  ·exact h3
 | rule a b l ps =>
  obtain ⟨h1,h2,h3,h4⟩:=h.rule a b l ps rfl
  have hw:w ∈ (["same",numT a,numT b,"rule",l]:List Str) ++ ps.flatMap fun p=> [p.1,numT p.2]:=hw
  rcases List.mem_append.mp hw with hw | hw
  ·simp only [List.mem_cons,List.not_mem_nil,or_false] at hw
   rcases hw with rfl | rfl | rfl | rfl | rfl
   ·decide +kernel
   ·exact zDg a h1
   ·exact zDg b h2
   ·decide +kernel
   ·exact h3
  ·obtain ⟨p,hp,hw⟩:=List.mem_flatMap.mp hw
   simp only [List.mem_cons,List.not_mem_nil,or_false] at hw
   rcases hw with rfl | rfl
   ·exact (h4 p hp).1
   ·exact zDg p.2 (h4 p hp).2
 | settle =>
  rw [List.mem_singleton.mp hw];decide +kernel
theorem zFj {c:Str} {x:Str} {r:List Str} (h:r ≠ []):Str.join c (x :: r) = x ++ c ++ Str.join c r:=by
 cases r with
 | nil=> exact absurd rfl h
 | cons=> rfl
theorem zLl (a b c:Str):a ++ b ++ c = a ++ (b ++ c):=Str.inj (by simp only [zCa,List.append_assoc])
theorem zJr {c:Str} {s:List Str} (hs:s ≠ []) {r:List Str} (hr:r ≠ []):Str.join c (r ++ s) = Str.join c r ++ c ++ Str.join c s:=by
 induction r with
 | nil=> exact absurd rfl hr
 | cons x r ih =>
 cases r with
 | nil=> exact zFj hs
 | cons y r =>
  have e:Str.join c (x :: y :: r) = x ++ c ++ Str.join c (y :: r):=rfl
  have e2:Str.join c (x :: y :: r ++ s) = x ++ c ++ Str.join c (y :: r ++ s):=rfl
  rw [e2,ih (List.cons_ne_nil _ _),e]
  simp only [zLl]
theorem zMf:∀ ps:List (Str × Nat),Str.join " " (ps.map zG7) = Str.join " " (ps.flatMap fun p=> [p.1,numT p.2]):=by
 intro ps
 induction ps with
 | nil=> rfl
 | cons p r ih =>
 cases r with
 | nil=> rfl
 | cons q r =>
  rw [List.map_cons,zFj (by exact List.cons_ne_nil _ _),ih,List.flatMap_cons]
  show _ = Str.join " " (p.1 :: numT p.2 :: List.flatMap _ (q :: r))
  have e:∀ Z:List Str,Z ≠ [] → Str.join " " (p.1 :: numT p.2 :: Z) = p.1 ++ " " ++ (numT p.2 ++ " " ++ Str.join " " Z):=fun Z hz=> by rw [zFj (by exact List.cons_ne_nil _ _),zFj hz]
  rw [e _ (by exact List.cons_ne_nil _ _)]
  unfold zG7
  simp only [zLl]
  rfl
theorem zFr (x:Row):x.text = Str.join " " x.words:=by
 cases x with
 | add nd=> rfl
 | told a b l=> rfl
 | settle=> rfl
 | rule a b l ps =>
  show Str.join " " (_ ++ _) = Str.join " " (_ ++ _)
  cases ps with
  | nil=> rfl
  | cons p r=> rw [zJr (by exact List.cons_ne_nil _ _) (by exact List.cons_ne_nil _ _),zJr (by exact List.cons_ne_nil _ _) (by exact List.cons_ne_nil _ _),zMf]
theorem zOc {x:Row} (h:RowP x):Txt.split x.text " " = x.words:=by
 rw [zFr]
 exact zF0 (c:=32) (by cases x <;> exact List.cons_ne_nil _ _) fun w hw=> (zNh (zGu h w hw)).1
theorem zVe {c d:Nat} (hcd:d ≠ c) {l:List (List Nat)} (h:∀ p ∈ l,d ∉ p):d ∉ jl c l:=by
 induction l with
 | nil=> exact List.not_mem_nil
 | cons x r ih =>
 cases r with
 | nil=> exact fun q=> h x (.head _) q
 | cons y r =>
  intro q
  rcases List.mem_append.mp q with q | q
  ·exact h x (.head _) q
  ·rcases List.mem_cons.mp q with q | q
   ·exact hcd q
   ·exact ih (fun p hp=> h p (.tail _ hp)) q
theorem zPx {x:Row} (h:RowP x):10 ∉ x.text.cps.toList:=by
 rw [zFr]
 show 10 ∉ (Str.join ⟨#[32]⟩ x.words).cps.toList
 rw [zGo]
 refine zVe (by decide) fun p hp=> ?_
 refine zAi hp fun w hw=> ?_
 exact (zNh (zGu h w hw)).2
theorem zM5 {rows:List Row} (h:∀ x ∈ rows,RowP x):Txt.split (zAp rows) "\n" = rows.map Row.text ++ ([""]:List Str):=by
 unfold zAp
 have e:=zQo (rows.map Row.text)
 rw [List.map_map] at e
 have e:Str.join "\n" (rows.map Row.text ++ ([""]:List Str)) = Str.join "" (rows.map fun x:Row=> x.text ++ ("\n":Str)):=e
 rw [← e]
 refine zF0 (c:=10) (by simp) fun w hw=> ?_
 rcases List.mem_append.mp hw with hw | hw
 ·refine zAi hw fun x hx=> ?_
  exact zPx (h x hx)
 ·rw [List.mem_singleton.mp hw];intro q;exact nM q
theorem zQ0:∀ {rows:List Row},zAp rows = "" ∨ ∃ i,seqIndex? (-1) (zAp rows).length = some i ∧ (zAp rows).cps[i]? = some 10:=by
 intro rows
 rcases List.eq_nil_or_concat rows with rfl | ⟨init,x,rfl⟩
 ·exact .inl rfl
 right
 have e:zAp (init ++ [x]) = zAp init ++ x.text ++ ("\n":Str):=by
  unfold zAp
  rw [List.map_append]
  cases init with
  | nil =>
   show x.text ++ ("\n":Str) = "" ++ x.text ++ "\n"
   refine Str.inj ?_
   simp only [zCa]
   show _ = [] ++ _ ++ _
   rw [List.nil_append]
  | cons a r =>
   rw [zJr (by exact List.cons_ne_nil _ _) (by exact List.cons_ne_nil _ _)]
   show _ ++ "" ++ (x.text ++ ("\n":Str)) = _
   refine Str.inj ?_
   simp only [zCa,List.append_assoc]
   show _ ++ ([] ++ _) = _
   rw [List.nil_append]
 simp only [List.concat_eq_append]
 rw [e]
 have hl:(zAp init ++ x.text ++ ("\n":Str)).length = (zAp init ++ x.text).length + 1:=by rw [strLen_append];rfl
 refine ⟨(zAp init ++ x.text).length,?_,?_⟩
 ·rw [hl];unfold seqIndex?;simp;lia
 ·show ((zAp init ++ x.text).cps ++ #[10])[_]? = _
  exact Array.getElem?_append_right (Nat.le_refl _) |>.trans (by show #[10][(zAp init ++ x.text).cps.size - (zAp init ++ x.text).cps.size]? = _;rw [Nat.sub_self];rfl)
noncomputable def jn (r:Nat → Nat) (a b i:Nat):Nat:=if r i = max (r a) (r b) then min (r a) (r b) else r i
noncomputable def RLe (N:Nat) (r s:Nat → Nat):Prop:=∀ i j,i < N → j < N → r i = r j → s i = s j
structure Rep (N:Nat) (r:Nat → Nat):Prop where
 le:∀ i,i < N → r i ≤ i
 id:∀ i,i < N → r (r i) = r i
noncomputable def keyR (nodes:List Node) (r:Nat → Nat) (n:Nat):Node:=match nodes[n]? with
 | some nd=> (nd.1,nd.2.map r)
 | none=> ("",[])
noncomputable def zFp (nodes:List Node) (r:Nat → Nat):Prop:=∀ m n,m < nodes.length → n < nodes.length → keyR nodes r m = keyR nodes r n → r m = r n
theorem Rep.lt {N:Nat} {r:Nat → Nat} (h:Rep N r) {i:Nat} (hi:i < N):r i < N:=Nat.lt_of_le_of_lt (h.le i hi) hi
theorem RLe.refl {N:Nat} {r:Nat → Nat}:RLe N r r:=fun _ _ _ _ e=> e
theorem RLe.trans {N:Nat} {r s t:Nat → Nat} (h:RLe N r s) (h':RLe N s t):RLe N r t:=fun i j hi hj e=> h' i j hi hj (h i j hi hj e)
theorem jn_le {N:Nat} {r:Nat → Nat} (a b:Nat):RLe N r (jn r a b):=fun i j _ _ e=> by unfold jn;rw [e]
theorem zFh (x y:Nat):(max x y = x ∧ min x y = y) ∨ (max x y = y ∧ min x y = x):=by lia
theorem zX7 {N:Nat} {r:Nat → Nat} {a b:Nat} (h:Rep N r) (ha:a < N) (hb:b < N):Rep N (jn r a b):=by
 have fa:=h.id a ha
 have fb:=h.id b hb
 refine ⟨fun i hi=> ?_,fun i hi=> ?_⟩
 ·have:=h.le i hi
  unfold jn
  split <;> (first | assumption | lia)
 ·have:=h.id i hi
  by_cases e:r i = max (r a) (r b)
  ·have e1:jn r a b i = min (r a) (r b):=if_pos e
   rw [e1]
   unfold jn
   rcases zFh (r a) (r b) with ⟨h1,h2⟩ | ⟨h1,h2⟩
   ·rw [h1,h2,fb]
    split <;> rfl
   ·rw [h1,h2,fa]
    split <;> rfl
  ·have e1:jn r a b i = r i:=if_neg e
   rw [e1]
   unfold jn
   rw [this,if_neg e]
theorem zJv (r:Nat → Nat) (a b:Nat):jn r a b a = jn r a b b:=by
 unfold jn
 rcases zFh (r a) (r b) with ⟨h1,h2⟩ | ⟨h1,h2⟩
 ·rw [h1,h2,if_pos rfl]
  split <;> rfl
 ·rw [h1,h2,if_pos rfl]
  split <;> rfl
theorem zJu {N:Nat} {r s:Nat → Nat} {a b:Nat} (h:Rep N r) (l:RLe N r s) (e:s a = s b) (ha:a < N) (hb:b < N):RLe N (jn r a b) s:=by
 have base:∀ i,i < N → s (r i) = s i:=fun i hi=> l _ _ (h.lt hi) hi (h.id i hi)
 have main:∀ i,i < N → s (jn r a b i) = s i:=fun i hi=> by
  by_cases q:r i = max (r a) (r b)
  ·rw [show jn r a b i = min (r a) (r b) from if_pos q,← base i hi,q]
   have h1:=base a ha
   have h2:=base b hb
   rcases zFh (r a) (r b) with ⟨h3,h4⟩ | ⟨h3,h4⟩
   ·rw [h3,h4,h1,h2,e]
   ·rw [h3,h4,h1,h2,e]
  ·rw [show jn r a b i = r i from if_neg q,base i hi]
 intro i j hi hj q
 rw [← main i hi,← main j hj,q]
theorem zOl {N:Nat} {r s:Nat → Nat} (hr:Rep N r) (hs:Rep N s) (h1:RLe N r s) (h2:RLe N s r):∀ i,i < N → r i = s i:=by
 intro i hi
 have a:s (r i) = s i:=h1 _ _ (hr.lt hi) hi (hr.id i hi)
 have b:r (s i) = r i:=h2 _ _ (hs.lt hi) hi (hs.id i hi)
 have c:=hs.le (r i) (hr.lt hi)
 have d:=hr.le (s i) (hs.lt hi)
 lia
theorem zWx {N:Nat} {r s:Nat → Nat} (h:RLe N r s):∀ {l l':List Nat},(∀ k ∈ l,k < N) → (∀ k ∈ l',k < N) → l.map r = l'.map r → l.map s = l'.map s:=by
 intro l
 induction l with
 | nil =>
  intro l'
  cases l' with
  | nil=> intro _ _ _;rfl
  | cons _ _=> intro _ _ e;exact nC e
 | cons a l ih =>
  intro l'
  cases l' with
  | nil=> intro _ _ e;exact cN e
  | cons b l' =>
   intro h1 h2 e
   have e:=List.cons.inj e
   show s a :: l.map s = s b :: l'.map s
   rw [h a b (h1 a (.head _)) (h2 b (.head _)) e.1,ih (fun k hk=> h1 k (.tail _ hk)) (fun k hk=> h2 k (.tail _ hk)) e.2]
theorem zCv {nodes:List Node} {r:Nat → Nat} {n:Nat} {nd:Node} (h:nodes[n]? = some nd):keyR nodes r n = (nd.1,nd.2.map r):=by unfold keyR;rw [h]
theorem zF4 {nodes:List Node} {n:Nat} (h:n < nodes.length):∃ nd,nodes[n]? = some nd:=⟨_,List.getElem?_eq_getElem h⟩
theorem zL1 {nodes:List Node} (ok:zJ5 nodes) {n:Nat} {nd:Node} (h:nodes[n]? = some nd):∀ k ∈ nd.2,k < nodes.length:=(ok nd (List.mem_of_getElem? h)).2
theorem zUi {nodes:List Node} (ok:zJ5 nodes) {r s:Nat → Nat} (h:RLe nodes.length r s) {m n:Nat} (hm:m < nodes.length) (hn:n < nodes.length) (e:keyR nodes r m = keyR nodes r n):keyR nodes s m = keyR nodes s n:=by
 refine bc fun nn=> ?_
 obtain ⟨a,ha⟩:=zF4 hm
 obtain ⟨b,hb⟩:=zF4 hn
 refine nn ?_
 rw [zCv ha,zCv hb,Prod.mk.injEq] at e ⊢
 exact ⟨e.1,zWx h (zL1 ok ha) (zL1 ok hb) e.2⟩
theorem zDr {κ α:Type} [DecidableEq κ] {c:κ}:∀ (l l':List (κ × α)),dget c (l ++ l') = match dget c l with | some v=> some v | none=> dget c l':=by
 intro l l'
 induction l with
 | nil=> rfl
 | cons y r ih =>
  obtain ⟨k,u⟩:=y
  show (if c = k then some u else dget c (r ++ l')) = match (if c = k then some u else dget c r) with | some v=> some v | none=> dget c l'
  by_cases e:c = k
  ·rw [if_pos e,if_pos e]
  ·rw [if_neg e,if_neg e];exact ih
theorem zP5 {l:List (Nat × List Nat)} {k g c:Nat} (nd:(l.map (·.1)).Nodup) (hcg:c ≠ g) (hc:c ∈ l.map (·.1)):dgetN (zB8 l k g) c = if c = k then dgetN l k ++ dgetN l g else dgetN l c:=by
 refine bc fun nn=> ?_
 obtain ⟨u,hu⟩:=zR2 hc
 refine nn ?_
 have mu:=zC5 hu
 have nd':((zB8 l k g).map (·.1)).Nodup:=by rw [zDd];exact nd.sublist List.filter_sublist
 have hin:(if c = k then (c,u ++ dgetN l g) else (c,u)) ∈ zB8 l k g:=by
  unfold zB8
  refine List.mem_map.mpr ⟨(c,u),List.mem_filter.mpr ⟨mu,decide_eq_true hcg⟩,rfl⟩
 by_cases e:c = k
 ·rw [if_pos e] at hin ⊢
  have:=zBy nd' hin
  unfold dgetN at this ⊢
  rw [this,← e,hu];rfl
 ·rw [if_neg e] at hin ⊢
  have:=zBy nd' hin
  unfold dgetN
  rw [this,hu]
structure Inv (σ:Hs):Prop where
 kn:∀ p ∈ σ.known,∃ nd,σ.nodes[p.2]? = some nd ∧ p.1.1 = nd.1 ∧ p.1.2.map (root σ.par) = nd.2.map (root σ.par)
 cov:∀ n,n < σ.nodes.length → n ∈ σ.waiting ∨ ∃ o,dget (keyOf σ n) σ.known = some o ∧ root σ.par o = root σ.par n
 ab:∀ c,c < σ.nodes.length → root σ.par c = c → ∀ n,n ∈ dgetN σ.above c ↔ ∃ nd,σ.nodes[n]? = some nd ∧ ∃ k ∈ nd.2,root σ.par k = c
theorem zJh {par:List Nat} (h:ParOk par):Rep par.length (root par):=⟨fun i _=> zFs h i,fun i _=> zDf h i⟩
theorem zEl {σ:Hs} (h:HsOk σ) {a b:Nat} {reason:V} (ha:a < σ.nodes.length) (hb:b < σ.nodes.length):root (joinS σ a b reason).par = jn (root σ.par) a b:=by
 unfold joinS
 by_cases e:root σ.par a = root σ.par b
 ·rw [if_pos e]
  funext i
  show root σ.par i = _
  unfold jn
  split
  ·rename_i q;rw [q,e];lia
  ·rfl
 ·rw [if_neg e]
  have la:=zCs h.pok (a:=a) (by rw [h.pl];exact ha)
  have lb:=zCs h.pok (a:=b) (by rw [h.pl];exact hb)
  have fa:=zCd h.pok a
  have fb:=zCd h.pok b
  have hg:max (root σ.par a) (root σ.par b) < σ.par.length:=by lia
  have hgr:σ.par.getD (max (root σ.par a) (root σ.par b)) (max (root σ.par a) (root σ.par b)) = max (root σ.par a) (root σ.par b):=by
   rcases zFh (root σ.par a) (root σ.par b) with ⟨q,_⟩ | ⟨q,_⟩ <;> rw [q] <;> assumption
  have hkr:σ.par.getD (min (root σ.par a) (root σ.par b)) (min (root σ.par a) (root σ.par b)) = min (root σ.par a) (root σ.par b):=by
   rcases zFh (root σ.par a) (root σ.par b) with ⟨_,q⟩ | ⟨_,q⟩ <;> rw [q] <;> assumption
  funext i
  exact zSi h.pok hg hgr hkr (by lia) i
theorem zCw (σ:Hs) (a b:Nat) (reason:V):(joinS σ a b reason).nodes = σ.nodes ∧ (joinS σ a b reason).known = σ.known ∧ (joinS σ a b reason).rows = σ.rows ∧ (joinS σ a b reason).edges = σ.edges ++ [edgeV a b reason]:=by
 unfold joinS
 split <;> exact ⟨rfl,rfl,rfl,rfl⟩
theorem zJq (σ:Hs) (n:Nat):keyOf σ n = keyR σ.nodes (root σ.par) n:=rfl
theorem zQ8 {par:List Nat} (h:ParOk par) {c:Nat}:root par c = c ↔ par.getD c c = c:=by
 rw [zCt h]
 constructor
 ·intro e
  by_cases q:par.getD c c = c
  ·exact q
  ·rw [if_neg q] at e
   have:=zFs h (par.getD c c)
   have:=zF6 h c
   lia
 ·intro e;rw [if_pos e]
theorem zL9 {σ:Hs} (h:HsOk σ) {a b:Nat} {reason:V} (ha:a < σ.nodes.length) (hb:b < σ.nodes.length) (hne:root σ.par a ≠ root σ.par b)
    (kn:∀ p ∈ σ.known,∃ nd,σ.nodes[p.2]? = some nd ∧ p.1.1 = nd.1 ∧ p.1.2.map (root σ.par) = nd.2.map (root σ.par))
    (cov:∀ n,n < σ.nodes.length → n ∈ σ.waiting ∨ ∃ o,dget (keyOf σ n) σ.known = some o ∧ (root σ.par o = root σ.par n ∨ (o = a ∧ n = b)))
    (ab:∀ c,c < σ.nodes.length → root σ.par c = c → ∀ n,n ∈ dgetN σ.above c ↔ ∃ nd,σ.nodes[n]? = some nd ∧ ∃ k ∈ nd.2,root σ.par k = c):Inv (joinS σ a b reason):=by
 have hroot:=zEl (reason:=reason) h ha hb
 obtain ⟨e1,e2,_,_⟩:=zCw σ a b reason
 have la:=zCs h.pok (a:=a) (by rw [h.pl];exact ha)
 have lb:=zCs h.pok (a:=b) (by rw [h.pl];exact hb)
 rw [h.pl] at la lb
 have fa:root σ.par (root σ.par a) = root σ.par a:=zDf h.pok a
 have fb:root σ.par (root σ.par b) = root σ.par b:=zDf h.pok b
 have hgl:max (root σ.par a) (root σ.par b) < σ.nodes.length:=by lia
 have hkl:min (root σ.par a) (root σ.par b) < σ.nodes.length:=by lia
 have hgr:root σ.par (max (root σ.par a) (root σ.par b)) = max (root σ.par a) (root σ.par b):=by rcases zFh (root σ.par a) (root σ.par b) with ⟨q,_⟩ | ⟨q,_⟩ <;> rw [q] <;> assumption
 have hkr:root σ.par (min (root σ.par a) (root σ.par b)) = min (root σ.par a) (root σ.par b):=by rcases zFh (root σ.par a) (root σ.par b) with ⟨_,q⟩ | ⟨_,q⟩ <;> rw [q] <;> assumption
 have e3:(joinS σ a b reason).waiting = σ.waiting ++ dgetN σ.above (max (root σ.par a) (root σ.par b)):=by unfold joinS;rw [if_neg hne]
 have e4:(joinS σ a b reason).above = zB8 σ.above (min (root σ.par a) (root σ.par b)) (max (root σ.par a) (root σ.par b)):=by unfold joinS;rw [if_neg hne]
 refine ⟨fun p hp=> ?_,fun n hn=> ?_,fun c hc hcr n=> ?_⟩
 ·rw [e2] at hp
  obtain ⟨nd,h1,h2,h3⟩:=kn p hp
  refine ⟨nd,by rw [e1];exact h1,h2,?_⟩
  have abs:∀ l:List Nat,l.map (jn (root σ.par) a b) = (l.map (root σ.par)).map (jn (root σ.par) a b):=fun l=> by
   rw [List.map_map]
   refine List.map_congr_left fun x _=> ?_
   show _ = jn (root σ.par) a b (root σ.par x)
   unfold jn
   rw [zDf h.pok]
  rw [hroot,abs,h3,← abs]
 ·rw [e1] at hn
  rcases cov n hn with hw | ⟨o,h1,h2⟩
  ·left;rw [e3];exact List.mem_append_left _ hw
  by_cases hg:n ∈ dgetN σ.above (max (root σ.par a) (root σ.par b))
  ·left;rw [e3];exact List.mem_append_right _ hg
  right
  obtain ⟨nd,hnd⟩:=zF4 hn
  have ek:keyOf (joinS σ a b reason) n = keyOf σ n:=by
   rw [zJq,zJq,e1,zCv hnd,zCv hnd,hroot]
   congr 1
   refine List.map_congr_left fun k hk=> ?_
   refine if_neg fun q=> hg ?_
   exact (ab _ hgl hgr n).mpr ⟨nd,hnd,k,hk,q⟩
  refine ⟨o,by rw [ek,e2];exact h1,?_⟩
  rw [hroot]
  rcases h2 with h2 | ⟨rfl,rfl⟩
  ·exact jn_le (N:=σ.nodes.length + o + n + 1) a b o n (by lia) (by lia) h2
  ·exact zJv _ _ _
 ·rw [e1] at hc
  rw [hroot] at hcr
  rw [e4,hroot,e1]
  have hcg:c ≠ max (root σ.par a) (root σ.par b):=fun q=> by
   have:jn (root σ.par) a b c = min (root σ.par a) (root σ.par b):=if_pos (by rw [q,hgr])
   lia
  have hcr':root σ.par c = c:=by
   unfold jn at hcr
   split at hcr
   ·rename_i q
    have:=zFs h.pok c
    lia
   ·exact hcr
  rw [zP5 h.kn hcg (h.kr c (by rw [h.pl];exact hc) ((zQ8 h.pok).mp hcr'))]
  by_cases e:c = min (root σ.par a) (root σ.par b)
  ·rw [if_pos e,List.mem_append,ab _ hkl hkr n,ab _ hgl hgr n]
   constructor
   ·rintro (⟨nd,h1,k,h2,h3⟩ | ⟨nd,h1,k,h2,h3⟩)
    ·exact ⟨nd,h1,k,h2,by unfold jn;rw [if_neg (by lia),h3,e]⟩
    ·exact ⟨nd,h1,k,h2,by unfold jn;rw [if_pos h3,e]⟩
   ·rintro ⟨nd,h1,k,h2,h3⟩
    unfold jn at h3
    split at h3
    ·rename_i q;exact .inr ⟨nd,h1,k,h2,q⟩
    ·exact .inl ⟨nd,h1,k,h2,by rw [h3,e]⟩
  ·rw [if_neg e,ab c hc hcr' n]
   constructor
   ·rintro ⟨nd,h1,k,h2,h3⟩
    exact ⟨nd,h1,k,h2,by unfold jn;rw [if_neg (by rw [h3];exact hcg),h3]⟩
   ·rintro ⟨nd,h1,k,h2,h3⟩
    unfold jn at h3
    split at h3
    ·exact absurd h3.symm e
    ·exact ⟨nd,h1,k,h2,h3⟩
theorem zSs {σ:Hs} {x:Nat} {w:List Nat} (h:HsOk σ) (iv:Inv σ) (hw:σ.waiting = w ++ [x]) :
    Inv (lookS { σ with waiting:=w } x) ∧ (lookS { σ with waiting:=w } x).nodes = σ.nodes ∧ (lookS { σ with waiting:=w } x).rows = σ.rows ∧ RLe σ.nodes.length (root σ.par) (root (lookS { σ with waiting:=w } x).par) ∧
    (∀ s,zFp σ.nodes s → RLe σ.nodes.length (root σ.par) s → RLe σ.nodes.length (root (lookS { σ with waiting:=w } x).par) s) ∧
    ((lookS { σ with waiting:=w } x).edges = σ.edges ∨ ∃ o,(lookS { σ with waiting:=w } x).edges = σ.edges ++ [edgeV o x likeV]):=by
 have h1:HsOk { σ with waiting:=w }:=⟨h.nz,h.nok,h.pl,h.pok,h.kn,h.kr,h.us,h.az,fun n hn=> h.wl n (by rw [hw];exact List.mem_append_left _ hn),h.ul,h.kl⟩
 have hx:x < σ.nodes.length:=h.wl x (by rw [hw];exact List.mem_append_right _ (.head _))
 refine bc fun nn=> ?_
 obtain ⟨xn,hxn⟩:=zF4 hx
 refine nn ?_
 have kx:keyOf { σ with waiting:=w } x = (xn.1,xn.2.map (root σ.par)):=zCv hxn
 have km:∀ n,keyOf { σ with waiting:=w } n = keyOf σ n:=fun _=> rfl
 have inw:∀ n,n ∈ σ.waiting → n ≠ x → n ∈ w:=fun n hn q=> by
  rw [hw] at hn
  rcases List.mem_append.mp hn with hn | hn
  ·exact hn
  ·exact absurd (List.mem_singleton.mp hn) q
 unfold lookS
 split
 ·rename_i o ho
  have ho':dget (keyOf σ x) σ.known = some o:=ho
  have hol:o < σ.nodes.length:=h.kl _ (zC5 ho')
  split
  ·rename_i e
   have e:root σ.par o = root σ.par x:=e
   refine ⟨⟨iv.kn,fun n hn=> ?_,iv.ab⟩,rfl,rfl,RLe.refl,fun s _ l=> l,.inl rfl⟩
   by_cases q:n = x
   ·exact .inr ⟨o,by rw [q];exact ho',by rw [q];exact e⟩
   ·rcases iv.cov n hn with z | z
    ·exact .inl (inw n z q)
    ·exact .inr z
  ·rename_i e
   have e:root σ.par o ≠ root σ.par x:=e
   refine bc fun nn=> ?_
   obtain ⟨e1,e2,e3,e4⟩:=zCw { σ with waiting:=w } o x likeV
   refine nn ?_
   have hroot:root (joinS { σ with waiting:=w } o x likeV).par = jn (root σ.par) o x:=zEl h1 hol hx
   refine ⟨zL9 h1 hol hx e iv.kn (fun n hn=> ?_) iv.ab,e1,e3,by rw [hroot];exact jn_le _ _,fun s cs l=> ?_,.inr ⟨o,e4⟩⟩
   ·by_cases q:n = x
    ·exact .inr ⟨o,by rw [q];exact ho',.inr ⟨rfl,q⟩⟩
    ·rcases iv.cov n hn with z | ⟨o',z1,z2⟩
     ·exact .inl (inw n z q)
     ·exact .inr ⟨o',z1,.inl z2⟩
   ·rw [hroot]
    have rp:=zJh h.pok
    rw [h.pl] at rp
    refine zJu rp l (cs o x hol hx (zUi h.nok l hol hx ?_)) hol hx
    refine bc fun nn=> ?_
    obtain ⟨nd,k1,k2,k3⟩:=iv.kn _ (zC5 ho')
    refine nn ?_
    rw [zCv k1,zCv hxn]
    have kx':keyOf σ x = (xn.1,xn.2.map (root σ.par)):=kx
    rw [kx'] at k2 k3
    have k2:xn.1 = nd.1:=k2
    have k3:(xn.2.map (root σ.par)).map (root σ.par) = nd.2.map (root σ.par):=k3
    rw [k2,← k3,List.map_map]
    congr 1
    exact List.map_congr_left fun k _=> zDf h.pok k
 ·rename_i ho
  have ho':dget (keyOf σ x) σ.known = none:=ho
  refine ⟨⟨fun p hp=> ?_,fun n hn=> ?_,iv.ab⟩,rfl,rfl,RLe.refl,fun s _ l=> l,.inl rfl⟩
  ·rcases List.mem_append.mp hp with hp | hp
   ·exact iv.kn p hp
   ·rw [List.mem_singleton.mp hp]
    refine ⟨xn,hxn,by rw [kx],?_⟩
    show (keyOf { σ with waiting:=w } x).2.map _ = _
    rw [kx,List.map_map]
    exact List.map_congr_left fun k _=> zDf h.pok k
  ·show n ∈ w ∨ ∃ o,dget (keyOf σ n) (σ.known ++ [(keyOf σ x,x)]) = some o ∧ root σ.par o = root σ.par n
   by_cases q:n = x
   ·right
    rw [q]
    exact ⟨x,by rw [zDr,ho'];show dget _ [_] = _;rw [zAv];rw [if_pos rfl],rfl⟩
   ·rcases iv.cov n hn with z | ⟨o,z1,z2⟩
    ·exact .inl (inw n z q)
    ·exact .inr ⟨o,by rw [zDr,z1],z2⟩
theorem zMe {σ:Hs} {x:Nat} {w:List Nat} (h:HsOk σ) (hw:σ.waiting = w ++ [x]):(lookS { σ with waiting:=w } x).waiting.length + 101 * zA7 (lookS { σ with waiting:=w } x).par + 1 ≤ σ.waiting.length + 101 * zA7 σ.par ∧ HsOk (lookS { σ with waiting:=w } x):=by
 have h1:HsOk { σ with waiting:=w }:=⟨h.nz,h.nok,h.pl,h.pok,h.kn,h.kr,h.us,h.az,fun n hn=> h.wl n (by rw [hw];exact List.mem_append_left _ hn),h.ul,h.kl⟩
 have hx:x < σ.nodes.length:=h.wl x (by rw [hw];exact List.mem_append_right _ (.head _))
 refine ⟨?_,zNm h1 hx⟩
 have hwl:σ.waiting.length = w.length + 1:=by rw [hw];exact List.length_append
 unfold lookS
 split
 ·rename_i o ho
  have hol:o < σ.nodes.length:=h.kl _ (zC5 ho)
  split
  ·show w.length + 101 * zA7 σ.par + 1 ≤ _
   lia
  ·rename_i e
   have en:=zJt (reason:=likeV) h1 hol hx e
   refine bc fun nn=> ?_
   obtain ⟨_,_,_,e4⟩:=zCw { σ with waiting:=w } o x likeV
   refine nn ?_
   rw [e4] at en
   have e3:(joinS { σ with waiting:=w } o x likeV).waiting = w ++ dgetN σ.above (max (root σ.par o) (root σ.par x)):=by unfold joinS;rw [if_neg e]
   rw [e3]
   have:=zK4 (l:=σ.above) (max (root σ.par o) (root σ.par x))
   have:=h.us
   rw [List.length_append] at en ⊢
   have en:σ.edges.length + 1 + zA7 (joinS { σ with waiting:=w } o x likeV).par = σ.edges.length + zA7 σ.par:=en
   lia
 ·show w.length + 101 * zA7 σ.par + 1 ≤ _
  lia
theorem zWv:∀ (k:Nat) {σ:Hs},HsOk σ → σ.waiting.length + 101 * zA7 σ.par ≤ k → ∃ i τ,i ≤ k ∧ Runs σ i τ:=by
 intro k
 induction k with
 | zero=> intro σ h hk;exact ⟨0,σ,Nat.le_refl _,.done (List.length_eq_zero_iff.mp (by lia))⟩
 | succ k ih =>
  intro σ h hk
  rcases List.eq_nil_or_concat σ.waiting with e | ⟨w,x,e⟩
  ·exact ⟨0,σ,Nat.zero_le _,.done e⟩
  rw [List.concat_eq_append] at e
  refine bc fun nn=> ?_
  obtain ⟨en,h'⟩:=zMe h e
  obtain ⟨i,τ,hi,run⟩:=ih h' (by lia)
  refine nn ?_
  exact ⟨i + 1,τ,Nat.succ_le_succ hi,.step e run⟩
noncomputable def whyE:V → Option Str
 | .tup [_,_,.tup (.str x :: _)]=> some x
 | _=> none
noncomputable def toldF (e:V):Option V:=match whyE e with
 | some x=> if x = "like" then none else some e
 | none=> none
theorem zJb {a b:Nat} {v:V} (h:vok 7 v = true):vok 8 (edgeV a b v) = true:=by
 show voks 7 [V.int a,V.int b,v] = true
 refine voks_iff.mpr fun x hx=> ?_
 rcases List.mem_cons.mp hx with rfl | hx
 ·rfl
 rcases List.mem_cons.mp hx with rfl | hx
 ·rfl
 rw [List.mem_singleton.mp hx];exact h
theorem zS9:vok 7 likeV = true:=by
 show voks 6 [V.str "like"] = true
 refine voks_iff.mpr fun x hx=> ?_
 rw [List.mem_singleton.mp hx]
 show PyData.strOk "like" = true
 decide +kernel
structure zO5 (e:V):Prop where
 ex:∃ (a b:Nat) (x:Str) (l:List V),e = .tup [.int a,.int b,.tup (.str x :: l)] ∧ l.length ≤ 10
 v:vok 8 e = true
theorem zV2 {σ τ:Hs} {k:Nat} (run:Runs σ k τ):HsOk σ → Inv σ → HsOk τ ∧ Inv τ ∧ τ.waiting = [] ∧ τ.nodes = σ.nodes ∧ τ.rows = σ.rows ∧ RLe σ.nodes.length (root σ.par) (root τ.par) ∧
    (∀ s,zFp σ.nodes s → RLe σ.nodes.length (root σ.par) s → RLe σ.nodes.length (root τ.par) s) ∧ τ.edges.filterMap toldF = σ.edges.filterMap toldF ∧ ((∀ e ∈ σ.edges,zO5 e) → ∀ e ∈ τ.edges,zO5 e):=by
 induction run with
 | done e=> exact fun h iv=> ⟨h,iv,e,rfl,rfl,RLe.refl,fun _ _ l=> l,rfl,id⟩
 | @step σ τ n x w hw _ ih =>
  intro h iv
  refine bc fun nn=> ?_
  obtain ⟨a1,a2,a3,a4,a5,a6⟩:=zSs h iv hw
  obtain ⟨b0,b1,b2,b3,b4,b5,b6,b7,b8⟩:=ih (zMe h hw).2 a1
  refine nn ?_
  rw [a2] at b3 b5 b6
  refine ⟨b0,b1,b2,b3,b4.trans a3,a4.trans b5,fun s cs l=> b6 s cs (a5 s cs l),b7.trans ?_,fun ok=> b8 ?_⟩
  ·rcases a6 with e | ⟨o,e⟩
   ·rw [e]
   ·rw [e,List.filterMap_append]
    exact List.append_nil _
  ·rcases a6 with e | ⟨o,e⟩
   ·rw [e];exact ok
   ·rw [e]
    intro z hz
    rcases List.mem_append.mp hz with hz | hz
    ·exact ok z hz
    ·rw [List.mem_singleton.mp hz]
     exact ⟨⟨o,x,"like",[],rfl,Nat.zero_le _⟩,zJb zS9⟩
theorem zOi {σ:Hs} (iv:Inv σ) (hw:σ.waiting = []):zFp σ.nodes (root σ.par):=by
 intro m n hm hn e
 have cv:∀ n,n < σ.nodes.length → ∃ o,dget (keyOf σ n) σ.known = some o ∧ root σ.par o = root σ.par n:=fun n hn=> by
  rcases iv.cov n hn with z | z
  ·rw [hw] at z;cases z
  ·exact z
 refine bc fun nn=> ?_
 obtain ⟨o,h1,h2⟩:=cv m hm
 obtain ⟨o',h3,h4⟩:=cv n hn
 refine nn ?_
 rw [zJq] at h1 h3
 rw [e,h3] at h1
 cases h1
 exact h2.symm.trans h4
section
variable {C:Cx} {m:Loc} {H:AH}
theorem tfOk {w:World}:TfOk w:=⟨rfl,by decide,by kernel_rfl⟩
theorem zT4 {w:World}:zUq w 60 "what":=⟨by kernel_rfl,⟨_,rfl,zOm⟩,by kernel_rfl,by kernel_rfl,by kernel_rfl⟩
theorem zO1 {y:Str} {Q} (hr:1 < C.n) (q:∀ e t dx,Q (.ref e) m ((e,.raw (excO 60 t (some dx))) :: H)):Cd C m H (.ref 60) [.str y] Q:=by
 refine zU5 (fI:=37) tfOk.cls (by kernel_rfl) (by kernel_rfl) (by exact omB) (Nat.le_of_ble_eq_true rfl) fun A e t=> ?_
 refine zUs ["self","what"] (fd37 _).h rfl (vl2 fun _ _=> rfl) rfl rfl (by show 0 < C.n - 1;exact omR) fun L X=> ?_
 refine zGt ?_ rfl
 refine zPm ⟨⟨⟨_,_,_,_,_,_,rfl,rfl,rfl,rfl⟩,⟨_,_,_,_,_,_,rfl,rfl,rfl⟩,⟨_,_,_,_,rfl,rfl⟩,⟨_,_,_,_,rfl⟩,rfl,rfl,rfl,rfl,rfl⟩,rfl,rfl,rfl,tfOk.cls⟩ (.head _) rfl (fun X=> ?_) rfl
 walk_at "w"
 refine ⟨Nat.le_of_ble_eq_true rfl,t,H,rfl,fun t1=> ?_⟩
 refine zDu ?_
 walk_at "w"
 refine zTk zT4 fun dx=> ?_
 walk_at "w"
 exact ⟨rfl,q _ _ _⟩
end
section
variable {C:Cx} {m:Loc} {H:AH}
theorem FrOk.call (fo:FrOk C) {fd:FuncData} {L f:Addr} {X} (hk:fd.scope.kind = .function):FrOk (C.into m (callEnv fd L f) X):=fo.into (by show fd.scope.kind ≠ _;rw [hk];intro q;cases q) rfl m X
theorem zK6 {h:Str} {rest:List V} {many:Nat} {Q} (fo:FrOk C) (hx:zBp C H) (hz:rest.length ≤ 10) (hl:((rest.length:Nat):Int) + 1 ≠ (if h = "told" then 2 else if h = "rule" then 3 else 0)) (hr:3 < C.n):Cd C m H (.ref 431) [.tup (.str h :: rest),.int many] Q:=by
 refine zO6 ["reason","many"] (fd431 _).h rfl (vl2 fun _ _=> rfl) rfl rfl (by exact omB) fo hx fun L X hX=> ?_
 walk_at "w"
 refine zAs (by simp;exact omT) ?_
 walk_at "w"
 with_reducible refine zDv (by kernel_rfl) fun X'=> ?_
 walk_at "w"
 intro d
 refine ⟨_,zDi (.head _),?_⟩
 walk_at "w"
 refine zA4 (by lia) (by simp;exact omT) rfl ?_
 walk_at "w"
 refine zBm (.head _) ?_
 have e:(dget (.s h) [(Atom.s "told",V.int 2),(Atom.s "rule",V.int 3)]).getD (.int 0) = .int (if h = "told" then 2 else if h = "rule" then 3 else 0):=by
  show (if Atom.s h = Atom.s "told" then some (V.int 2) else if Atom.s h = Atom.s "rule" then some (V.int 3) else none).getD (.int 0) = _
  by_cases h1:h = "told"
  ·subst h1;rfl
  ·by_cases h2:h = "rule"
   ·subst h2;rfl
   ·rw [if_neg (fun q=> h1 (Atom.s.inj q)),if_neg (fun q=> h2 (Atom.s.inj q)),if_neg h1,if_neg h2];rfl
 show Cmp _ _ _ _ _ ((dget (.s h) [(Atom.s "told",V.int 2),(Atom.s "rule",V.int 3)]).getD (.int 0)) _
 rw [e]
 refine zAh ?_
 refine zA0 ⟨fun _=> ?_,fun q=> ?_⟩
 ·walk_at "w"
  refine zFn tfOk (fo.call rfl) hX ?_
  walk_at "w"
  refine Cd.call (zO1 (by show 1 < C.n - 1;exact omR) fun e t dx=> ?_)
  exact ⟨e,t,_,rfl,Weak.cons (by walk_at "mm")⟩
 ·rw [Bool.not_eq_false',decide_eq_true_eq] at q
  exact absurd q (by simpa using hl)
theorem zIr {l:Str} {many:Nat} {Q} (fo:FrOk C) (hx:zBp C H) (h1:ascii l = true) (h3:l.length ≤ 1000) (hb:opOk l = false) (hr:3 < C.n):Cd C m H (.ref 431) [toldR l,.int many] Q:=by
 refine zO6 ["reason","many"] (fd431 _).h rfl (vl2 fun _ _=> rfl) rfl rfl (by exact omB) fo hx fun L X hX=> ?_
 unfold toldR
 walk_at "w"
 refine zAs (by exact om0 rfl) ?_
 walk_at "w"
 with_reducible refine zDv (by kernel_rfl) fun X'=> ?_
 walk_at "w"
 intro d
 refine ⟨_,zDi (.head _),?_⟩
 walk_at "w"
 refine zA4 (by decide) (by exact om0 rfl) rfl ?_
 walk_at "w"
 refine zBm (.head _) ?_
 refine zAh (b:=2) ?_
 refine zA0 ⟨fun e=> (by simp at e),fun _=> ?_⟩
 walk_at "w"
 refine zA4 (by decide) (by exact om0 rfl) rfl ?_
 walk_at "w"
 refine Cd.call (zD9 h1 h3 (by show 0 < C.n - 1;exact omR) ?_)
 rw [hb]
 refine zA0 ⟨fun _=> ?_,fun e=> bx e⟩
 walk_at "w"
 refine zFn tfOk (fo.call rfl) hX ?_
 walk_at "w"
 refine Cd.call (zO1 (by show 1 < C.n - 1;exact omR) fun e t dx=> ?_)
 exact ⟨e,t,_,rfl,Weak.cons (by walk_at "mm")⟩
open Classical in
theorem zHz {l:Str} {ps:List (Str × Nat)} {many:Nat} {Q} (fo:FrOk C) (hx:zBp C H) (hl:zD4 l = true) (hlen:ps.length ≤ 10) (word:∀ p ∈ ps,ascii p.1 = true) (hb:¬ Asc (ps.map (·.1))) (hr:3 < C.n):Cd C m H (.ref 431) [ruleR l ps,.int many] Q:=by
 refine bc fun nn=> ?_
 obtain ⟨h1,h2,h3⟩:=zB6 hl
 refine nn ?_
 refine zO6 ["reason","many"] (fd431 _).h rfl (vl2 fun _ _=> rfl) rfl rfl (by exact omB) fo hx fun L X hX=> ?_
 unfold ruleR
 walk_at "w"
 refine zAs (by exact om0 rfl) ?_
 walk_at "w"
 with_reducible refine zDv (by kernel_rfl) fun X'=> ?_
 walk_at "w"
 intro d
 refine ⟨_,zDi (.head _),?_⟩
 walk_at "w"
 refine zA4 (by lia) (by exact om0 rfl) rfl ?_
 walk_at "w"
 refine zBm (.head _) ?_
 refine zAh (b:=3) ?_
 refine zA0 ⟨fun e=> (by simp at e),fun _=> ?_⟩
 walk_at "w"
 refine zA4 (by lia) (by exact om0 rfl) rfl ?_
 walk_at "w"
 refine Cd.call (zD9 h1 h3 (by show 0 < C.n - 1;exact omR) ?_)
 rw [h2]
 refine zA0 ⟨fun e=> bx e,fun _=> ?_⟩
 walk_at "w"
 refine zA4 (by lia) (by exact om0 rfl) rfl ?_
 walk_at "w"
 refine zA6 ?_
 refine zA0 ⟨fun _=> ?_,fun e=> (by simp at e)⟩
 walk_at "w"
 refine zAe rfl (scOk rfl) ?_ (fun _=> rfl)
 walk_at "w"
 refine zA4 (by lia) (by exact om0 rfl) rfl ?_
 refine zBk nameF (xs:=ps.map zAu) zBg trivial (by exact omMap ‹_› rfl) (fun L X x hx=> ?_) ?_
 ·refine zAi hx fun p hp'=> ?_
  unfold zAu
  refine zAl (a:=.str p.1) (b:=.int p.2) rfl ?_
  walk_at "w"
  refine ⟨fun _=> ?_,fun e=> bx e⟩
  walk_at "w"
  exact ⟨rfl,by walk_at "mm"⟩
 rw [zFf]
 intro D1
 walk_at "w"
 refine zEq (l:=(ps.map (·.1)).map Atom.s) (by rw [show ((ps.map (·.1)).map Atom.s).map Atom.v = (ps.map (·.1)).map V.str by rw [List.map_map];rfl];exact .head _) (by simp;with_reducible exact omTs (by walk_at "a") (by walk_at "r")) fun D2 o so=> ?_
 rw [zEb (fun a b e=> by injection e) (ps.map (·.1))] at so
 walk_at "w"
 refine bc fun nn=> ?_
 obtain ⟨dn,dm,dl⟩:=zHu (ps.map (·.1))
 refine nn ?_
 refine zBq (.head _) so (Nat.lt_of_le_of_lt (Nat.le_trans dl (by rw [List.length_map];exact hlen)) (Nat.lt_of_sub_eq_succ rfl)) fun D3 ms pm sm=> ?_
 have vk:voks 8 ((ps.map (·.1)).map V.str) = true:=zCp fun x hx=> by
  refine zAi hx fun p hp'=> ?_
  exact word p hp'
 have vm:voks 8 (ms.map V.str) = true:=zCp fun x hx=> by
  refine zAi ((dm x).mp (pm.mem_iff.mp hx)) fun p hp'=> ?_
  exact word p hp'
 refine zBe (by walk_at "mm") (.head _) vk vm ?_
 refine zA0 ⟨fun _=> ?_,fun e=> ?_⟩
 ·walk_at "w"
  refine zFn tfOk (fo.call rfl) hX ?_
  walk_at "w"
  refine Cd.call (zO1 (by show 1 < C.n - 1;exact omR) fun e t dx=> ?_)
  exact ⟨e,t,_,rfl,Weak.cons (by walk_at "mm")⟩
 ·rw [Bool.not_eq_false',decide_eq_true_eq] at e
  have e:ps.map (·.1) = ms:=List.map_inj_right (fun a b h=> by injection h) |>.mp e
  refine absurd ?_ hb
  unfold Asc
  rw [e]
  refine ((zEj sm).and (pm.nodup_iff.mpr dn)).imp fun {a b} h=> ?_
  refine bc fun nn=> ?_
  obtain ⟨x1,x2⟩:=h
  refine nn ?_
  unfold strLt at x1 ⊢
  rw [List.not_lt] at x1
  exact Std.lt_of_le_of_ne x1 fun q=> x2 (by cases a with | mk a=> cases b with | mk b=> exact congrArg Str.mk (Array.toList_inj.mp q))
theorem zHy {l:Str} {ps:List (Str × Nat)} {many:Nat} {Q} (fo:FrOk C) (hx:zBp C H) (hl:zD4 l = true) (hlen:ps.length ≤ 10) (asc:Asc (ps.map (·.1))) (ok:∀ p ∈ ps,zEu p.1 = true) (hb:∃ p ∈ ps,many ≤ p.2) (hr:3 < C.n):Cd C m H (.ref 431) [ruleR l ps,.int many] Q:=by
 refine bc fun nn=> ?_
 obtain ⟨h1,h2,h3⟩:=zB6 hl
 refine nn ?_
 have word:∀ p ∈ ps,ascii p.1 = true ∧ opOk p.1 = true ∧ p.1.length ≤ 1000 ∧ sign1 p.1 = "?":=fun p h=> by
  have:=ok p h
  unfold zEu at this
  rw [Bool.and_eq_true,decide_eq_true_eq] at this
  refine bc fun nn=> ?_
  obtain ⟨a,b,c⟩:=zB6 this.1
  refine nn ?_
  exact ⟨a,b,c,this.2⟩
 have ndn:(ps.map (·.1)).Nodup:=zI2 asc
 refine zO6 ["reason","many"] (fd431 _).h rfl (vl2 fun _ _=> rfl) rfl rfl (by exact omB) fo hx fun L X hX=> ?_
 unfold ruleR
 walk_at "w"
 refine zAs (by exact om0 rfl) ?_
 walk_at "w"
 with_reducible refine zDv (by kernel_rfl) fun X'=> ?_
 walk_at "w"
 intro d
 refine ⟨_,zDi (.head _),?_⟩
 walk_at "w"
 refine zA4 (by lia) (by exact om0 rfl) rfl ?_
 walk_at "w"
 refine zBm (.head _) ?_
 refine zAh (b:=3) ?_
 refine zA0 ⟨fun e=> (by simp at e),fun _=> ?_⟩
 walk_at "w"
 refine zA4 (by lia) (by exact om0 rfl) rfl ?_
 walk_at "w"
 refine Cd.call (zD9 h1 h3 (by show 0 < C.n - 1;exact omR) ?_)
 rw [h2]
 refine zA0 ⟨fun e=> bx e,fun _=> ?_⟩
 walk_at "w"
 refine zA4 (by lia) (by exact om0 rfl) rfl ?_
 walk_at "w"
 refine zA6 ?_
 refine zA0 ⟨fun _=> ?_,fun e=> (by simp at e)⟩
 walk_at "w"
 refine zAe rfl (scOk rfl) ?_ (fun _=> rfl)
 walk_at "w"
 refine zA4 (by lia) (by exact om0 rfl) rfl ?_
 refine zBk nameF (xs:=ps.map zAu) zBg trivial (by exact omMap ‹_› rfl) (fun L X x hx=> ?_) ?_
 ·refine zAi hx fun p hp'=> ?_
  unfold zAu
  refine zAl (a:=.str p.1) (b:=.int p.2) rfl ?_
  walk_at "w"
  refine ⟨fun _=> ?_,fun e=> bx e⟩
  walk_at "w"
  exact ⟨rfl,by walk_at "mm"⟩
 rw [zFf]
 intro D1
 walk_at "w"
 refine zEq (l:=(ps.map (·.1)).map Atom.s) (by rw [show ((ps.map (·.1)).map Atom.s).map Atom.v = (ps.map (·.1)).map V.str by rw [List.map_map];rfl];exact .head _) (by simp;with_reducible exact omTs (by walk_at "a") (by walk_at "r")) fun D2 o so=> ?_
 rw [zEb (fun a b e=> by injection e) (ps.map (·.1)),zK5 ndn] at so
 walk_at "w"
 refine zBq (.head _) so (by simp;with_reducible exact omTs (by walk_at "a") (by walk_at "r")) fun D3 ms pm sm=> ?_
 rw [zG1 pm (zEj sm) asc]
 have vk:voks 8 ((ps.map (·.1)).map V.str) = true:=zCp fun x hx=> by
  refine zAi hx fun p hp'=> ?_
  exact (word p hp').1
 refine zBe (by walk_at "mm") (.head _) vk vk ?_
 refine zA0 ⟨fun e=> (by simp at e),fun _=> ?_⟩
 walk_at "w"
 refine zTo rfl hX ?_ (fun _=> rfl)
 walk_at "w"
 refine zA4 (by lia) (by exact om0 rfl) rfl ?_
 walk_at "w"
 refine zA6 ?_
 refine zA0 ⟨fun _=> ?_,fun e=> (by simp at e)⟩
 walk_at "w"
 refine zA4 (by lia) (by exact om0 rfl) rfl ?_
 refine ⟨ps.map zAu,_,_,zBg,trivial,fun i=> ∀ j p,j < i → ps[j]? = some p → p.2 < many,fun j p hj=> absurd hj (Nat.not_lt_zero _),fun X2 hX2 i x hx hI=> ?_,fun hI=> ?_⟩
 ·rw [List.getElem?_map] at hx
  cases hp:ps[i]? with
  | none=> rw [hp] at hx;exact nS hx
  | some p =>
   rw [hp] at hx
   cases hx
   refine bc fun nn=> ?_
   obtain ⟨w1,w2,w3,w4⟩:=word p (List.mem_of_getElem? hp)
   refine nn ?_
   unfold zAu
   refine zAl (a:=.str p.1) (b:=.int p.2) rfl ?_
   walk_at "w"
   refine ⟨by exact om0 rfl,?_⟩
   walk_at "w"
   refine Cd.call (zEv (by show 0 < C.n - 1;exact omR) ?_)
   rw [decide_eq_true w4]
   refine zA0 ⟨fun _=> ?_,fun e=> bx e⟩
   walk_at "w"
   refine Cd.call (zD9 w1 w3 (by show 0 < C.n - 1;exact omR) ?_)
   rw [w2]
   refine zA0 ⟨fun _=> ?_,fun e=> bx e⟩
   walk_at "w"
   refine zLw ?_
   refine zA0 ⟨fun _=> ?_,fun e=> by simp at e⟩
   walk_at "w"
   refine zEh ?_
   refine zA0 ⟨fun e=> ?_,fun e=> ?_⟩
   ·walk_at "w"
    refine ⟨fun e=> bx e,fun _=> ?_⟩
    walk_at "w"
    refine ⟨.inl rfl,by walk_at "mm",by walk_at "mm",fun j p' hj hp'=> ?_⟩
    rcases Nat.lt_succ_iff_lt_or_eq.mp hj with q | q
    ·exact hI j p' q hp'
    ·rw [q,hp] at hp';cases hp';exact Int.ofNat_lt.mp (by simpa using e)
   ·walk_at "w"
    refine ⟨fun _=> ?_,fun e=> bx e⟩
    walk_at "w"
    refine zFn tfOk ((fo.call rfl).wX X2) hX2 ?_
    walk_at "w"
    refine zLv ?_
    walk_at "w"
    refine ⟨p.1,rfl,by exact omT,p.1,rfl,?_,?_⟩
    ·rw [strLen_append,sizeLine_eq];show 0 + p.1.length ≤ _;exact omA2 ‹_› rfl
    walk_at "w"
    refine ⟨" has no number",rfl,?_,?_⟩
    ·rw [strLen_append,strLen_append,sizeLine_eq];show 0 + p.1.length + 14 ≤ _;lia
    walk_at "w"
    refine ⟨?_,?_⟩
    ·rw [strLen_append,strLen_append,sizeLine_eq];show 0 + p.1.length + 14 ≤ _;lia
    walk_at "w"
    refine Cd.call (zO1 (by show 1 < C.n - 1;exact omR) fun e t dx=> ?_)
    exact ⟨e,t,_,rfl,Weak.cons (by walk_at "mm")⟩
 ·refine bc fun nn=> ?_
  obtain ⟨p,hp,hge⟩:=hb
  obtain ⟨j,hj,e⟩:=List.mem_iff_getElem.mp hp
  refine nn ?_
  rw [List.length_map] at hI
  exact absurd (hI j p hj ((List.getElem?_eq_getElem hj).trans (congrArg some e))) (Nat.not_lt.mpr hge)
end
section
variable {C:Cx} {m:Loc} {H:AH}
theorem zWp {f:Addr} {oc:Value} {od:Option Addr} {osl:Array (Option Value)} {fd:FuncData} (names:List Str) {body:List Stmt} {args:List V} {Q:V → Loc → AH → Prop}
    (ho:(KK C.w).lookup f = some ⟨oc,od,.func fd,osl⟩) (hb:fd.body = .stmts body) (bind:∀ vs:List Value,vs.length = names.length → bindArgs fd ⟨vs,[]⟩ = pure (names.zip vs)) (ok:okFn C.w fd names = true)
    (hl:args.length = names.length) (hroom:0 < C.n) (fo:FrOk C) (hx:zBp C H)
    (h:∀ L X,zBp (C.into m (callEnv fd L f) X) H → ExA (C.into m (callEnv fd L f) X) body (names.zip args) H body fun fl _ H'=> Q fl.val m H'):Cd C m H (.ref f) args Q:=by
 unfold okFn at ok
 simp only [Bool.and_eq_true,Bool.not_eq_true',decide_eq_true_eq,List.all_eq_true] at ok
 refine bc fun nn=> ?_
 obtain ⟨⟨⟨⟨⟨⟨⟨⟨h1,h2⟩,h3⟩,h4⟩,h5⟩,h6⟩,h7⟩,h8⟩,h9⟩:=ok
 refine nn ?_
 intro F s v vs st i j
 obtain rfl:v = .ref f:=i
 have hdep:=st.ok.dep
 refine ks_codeAny_call_defAt (by lia) (st.kin _ _ ho) rfl (st.ok.lim.keeps st.keep) (codeRec_of st.kin h1) hb (BindsTo.of_eq (bind vs (by rw [← j.length,hl]))) (fun x hx=> h9 x hx)
  (fun y hy=> h8 _ (List.of_mem_zip (a:=y.1) (b:=y.2) hy).1) (fun h₁ hns hk=> ?_) h3 h4 h5
 exact zLe (s₁:={ s with heap:=h₁,toks:=s.toks + (names.zip vs).length }) (m':=names.zip args) (H':=H) st hroom h5 h6 h7 hk rfl rfl ⟨_,hns,zJ8 (zBu h2) hl (j.mono (Pres.keeps hk))⟩ (fun p hp=> (st.objs p hp).move (fun b _ ob e=> hk b ob e) (Pres.keeps hk)) (zHr st) (fun a ha=> zLd ha) fo rfl hx (h _)
inductive BadR (many:Nat):V → Prop
 | len {h:Str} {rest:List V} (hz:rest.length ≤ 10) (hl:((rest.length:Nat):Int) + 1 ≠ (if h = "told" then 2 else if h = "rule" then 3 else 0)):BadR many (.tup (.str h :: rest))
 | word {l:Str} (h1:ascii l = true) (h3:l.length ≤ 1000) (hb:opOk l = false):BadR many (toldR l)
 | order {l:Str} {ps:List (Str × Nat)} (hl:zD4 l = true) (hlen:ps.length ≤ 10) (word:∀ p ∈ ps,ascii p.1 = true) (hb:¬ Asc (ps.map (·.1))):BadR many (ruleR l ps)
 | place {l:Str} {ps:List (Str × Nat)} (hl:zD4 l = true) (hlen:ps.length ≤ 10) (asc:Asc (ps.map (·.1))) (ok:∀ p ∈ ps,zEu p.1 = true) (hb:∃ p ∈ ps,many ≤ p.2):BadR many (ruleR l ps)
theorem zR7 {many:Nat} {reason:V} {Q} (b:BadR many reason) (fo:FrOk C) (hx:zBp C H) (hr:3 < C.n):Cd C m H (.ref 431) [reason,.int many] Q:=by
 cases b with
 | len hz hl=> exact zK6 fo hx hz hl hr
 | word h1 h3 hb=> exact zIr fo hx h1 h3 hb hr
 | order hl hlen w hb=> exact zHz fo hx hl hlen w hb hr
 | place hl hlen asc ok hb=> exact zHy fo hx hl hlen asc ok hb hr
theorem zG2 {r:WrA} {σ:Hs} {j:Jk} {K:AH} {a b:Nat} {reason:V} {Q} (ok:HsOk σ) (fo:FrOk C) (hx:zBp C (HpH r σ j K)) (hb:BadR σ.nodes.length reason) (hr:5 < C.n) :
    Cd C m (HpH r σ j K) (.ref 463) [.ref r.w,.int a,.int b,reason] Q:=by
 have nz:=ok.nz
 refine zWp ["self","a","b","reason"] (fd463 _).h rfl (vl4 fun _ _ _ _=> rfl) rfl rfl (by exact omB) fo hx fun L X hX=> ?_
 refine zDu ?_
 walk_at "w"
 refine ⟨_,zA1 (.head _) zB1 rfl,?_⟩
 refine Cd.call (zD1 HAt.of (by exact omT) (by show 1 < C.n - 1;exact omR) ?_)
 walk_at "w"
 exact Cd.call (zR7 hb (fo.call rfl) hX (by show 3 < C.n - 1;exact omR))
theorem zIl {r:WrA} {σ:Hs} {j:Jk} {K:AH} {a b:Nat} {reason:V} {Q} (ok:HsOk σ) (fo:FrOk C) (hb:BadR σ.nodes.length reason) (hr:6 < C.n) (q:Q .none m (HpH r σ j K)) :
    Cd C m (HpH r σ j K) (.ref 616) [.ref r.w,.int a,.int b,reason] Q:=by
 refine zAo ["heap","a","b","reason"] (fd616 _).h rfl (vl4 fun _ _ _ _=> rfl) rfl rfl (by exact omB) fun L X=> ?_
 refine zTn tfOk rfl rfl (fun X' hX=> ?_) fun m'=> ⟨_,Weak.refl _,q⟩
 walk_at "w"
 refine ⟨_,zA1 (.head _) zCl rfl,?_⟩
 walk_at "w"
 exact Cd.call (zG2 ok ((fo.call rfl).wX X') hX hb (by show 5 < C.n - 1;exact omR))
theorem zJo {r:WrA} {σ:Hs} {j:Jk} {K:AH} {a b:Nat} {reason:V} {Q} (ok:HsOk σ) (jo:JOk σ j) (hez:σ.edges.length ≤ 900) (hrz:σ.rows.length ≤ 1000) (ha:a < σ.nodes.length) (hb:b < σ.nodes.length) (hre:zDt σ.nodes.length reason) (hr:12 < C.n)
    (q:∀ j',JOk (joinS { σ with rows:=σ.rows ++ [zAf a b reason] } a b reason) j' → Q (.bool (!decide (root σ.par a = root σ.par b))) m (HpH r (joinS { σ with rows:=σ.rows ++ [zAf a b reason] } a b reason) j' K)) :
    Cd C m (HpH r σ j K) (.ref 616) [.ref r.w,.int a,.int b,reason] Q:=by
 refine zAo ["heap","a","b","reason"] (fd616 _).h rfl (vl4 fun _ _ _ _=> rfl) rfl rfl (by exact omB) fun L X=> ?_
 refine zUr (fun X'=> ?_)
 walk_at "w"
 refine ⟨_,zA1 (.head _) zCl rfl,?_⟩
 walk_at "w"
 refine Cd.call (zFm ok jo hez hrz ha hb hre (by show _ < C.n - 1;exact omR) fun j' hj=> ?_)
 walk_at "w"
 exact ⟨_,Weak.refl _,q j' hj⟩
end
section
variable {C:Cx} {m:Loc} {H:AH}
noncomputable def zDy (σ:Hs):List Nat:=(List.range σ.nodes.length).map (root σ.par)
theorem zHk {r:WrA} {σ:Hs} {Q} (h:HAt H r σ.nodes σ.par) (ok:HsOk σ) (hro:(r.ro,AObj.list σ.rows) ∈ H) (hed:(r.ed,AObj.list σ.edges) ∈ H) (hwa:(r.wa,AObj.list (nl σ.waiting)) ∈ H) (hrz:σ.rows.length ≤ 1000) (hez:σ.edges.length ≤ 1000) (hwz:σ.waiting.length ≤ 1000) (hr:4 < C.n)
    (q:∀ D1 D2 D3 D4,Q (.tup [.ref D2,.ref D3,.ref D1,.ref D4]) m ((D4,.list (nl σ.waiting)) :: (D3,.list σ.edges) :: (D2,.list σ.rows) :: (D1,.list (nl (zDy σ))) :: H)):Cd C m H (.ref 604) [.ref r.w] Q:=by
 have nz:=ok.nz
 have pl:=ok.pl
 refine zD2 ["heap"] (fd604 _).h rfl (vl1 fun _=> rfl) rfl (fun _=> rfl) (fun _=> rfl) (fun _=> rfl) rfl (by exact omB) fun L X=> ?_
 change Ex _ [] ((L + 1,.cell (some (.ref r.w))) :: H) _ _
 have h1:=h.cons (p:=(L + 1,.cell (some (.ref r.w))))
 walk_at "w"
 refine zKe rfl (scOk rfl) rfl rfl ?_ (fun _=> rfl)
 walk_at "w"
 refine ⟨_,zA1 h1.w zB1 rfl,?_⟩
 walk_at "w"
 refine Cd.call (zD1 h1 (by exact omT) (by show 1 < C.n - 1;exact omR) ?_)
 walk_at "w"
 refine zC2 fun D0=> ?_
 have h2:=h1.cons (p:=(D0,.rng σ.nodes.length))
 refine zEg (nl (zDy σ)) (zCc (.head _) (by exact omT)) trivial (by simp;exact omT) (by simp [nl,zDy]) (fun L X i x y hx hy=> ?_) ?_
 ·unfold nl zDy at hy
  rw [List.map_map,List.getElem?_map] at hy
  rw [List.getElem?_map] at hx
  refine zD8 hx fun k h3=> ?_
  rw [h3] at hy
  cases hy
  have hk:k < σ.nodes.length:=by
   obtain ⟨z1,z2⟩:=List.getElem?_eq_some_iff.mp h3
   rw [List.getElem_range] at z2
   rw [List.length_range] at z1
   lia
  walk_at "w"
  refine ⟨_,zA1 h2.w zAb rfl,?_⟩
  walk_at "w"
  refine Cd.call (zBb h2 ok.pok (by exact omM) (by exact omE) (by show 1 < C.n - 1;exact omR) ?_)
  exact ⟨rfl,Weak.refl _⟩
 intro D1
 walk_at "w"
 refine zA5 (.tail _ h2.w) rfl zAr ?_
 walk_at "w"
 refine zBw (l:=σ.rows) (.tail _ (.tail _ (.tail _ hro))) (by exact omT) fun D2=> ?_
 walk_at "w"
 refine zA5 (.tail _ (.tail _ h2.w)) rfl zBx ?_
 walk_at "w"
 refine zBw (l:=σ.edges) (.tail _ (.tail _ (.tail _ (.tail _ hed)))) (by exact omT) fun D3=> ?_
 walk_at "w"
 refine zA5 (.tail _ (.tail _ (.tail _ h2.w))) rfl zB7 ?_
 walk_at "w"
 refine zBw (l:=nl σ.waiting) (.tail _ (.tail _ (.tail _ (.tail _ (.tail _ hwa))))) (by rw [zAq];exact omT) fun D4=> ?_
 walk_at "w"
 refine ⟨by exact om0 rfl,?_⟩
 exact ⟨_,by walk_at "pk",q D1 D2 D3 D4⟩
end
noncomputable def letGo (many:Nat):Str → List (Str × Nat) → Bool
 | _,[]=> true
 | l,(x,n) :: r=> decide (l.cps.toList < x.cps.toList) && (decide (n < many) && letGo many x r)
theorem zOv {many n:Nat} {l x:Str} {r:List (Str × Nat)}:letGo many l ((x,n) :: r) = (decide (l.cps.toList < x.cps.toList) && (decide (n < many) && letGo many x r)):=rfl
theorem LocLe.pre (l r:Loc):LocLe (List.append l r) l:=fun x=> by
 induction l with
 | nil=> exact .inl rfl
 | cons p l ih =>
  obtain ⟨y,v⟩:=p
  show lk x ((y,v) :: l) = none ∨ lk x ((y,v) :: l) = lk x ((y,v) :: List.append l r)
  rw [zBi,zBi]
  by_cases e:x = y
  ·rw [if_pos e,if_pos e];exact .inr rfl
  ·rw [if_neg e,if_neg e];exact ih
section
variable {C:Cx} {m:Loc} {H:AH}
theorem zHn {l:Str} {many:Nat} {b:Bool} {Q} (hb:(Builtin.Str.occurrences l " " 0 l.length 1).isEmpty = b) (hr:0 < C.n) (q:Q (.bool b) m H):Cd C m H (.ref 599) [toldR l,.int many] Q:=by
 refine zAo ["reason","many"] (fd599 _).h rfl (vl2 fun _ _=> rfl) rfl rfl hr fun L X=> ?_
 unfold toldR
 walk_at "w"
 refine zA4 (by lia) (by exact om0 rfl) rfl ?_
 walk_at "w"
 refine zA6 ?_
 refine zA0 ⟨fun _=> ?_,fun e=> (by simp at e)⟩
 walk_at "w"
 refine zAs (by exact om0 rfl) ?_
 walk_at "w"
 refine zB5 (b:=2) ?_
 refine zA0 ⟨fun _=> ?_,fun e=> (by simp at e)⟩
 walk_at "w"
 refine zA4 (by lia) (by exact om0 rfl) rfl ?_
 walk_at "w"
 refine zFo ?_
 rw [hb]
 exact ⟨_,Weak.refl _,q⟩
theorem zP0 {h:Str} {rest:List V} {many:Nat} {Q} (hz:rest.length ≤ 10) (hl:if h = "told" then rest.length ≠ 1 else h ≠ "rule" ∨ rest.length ≠ 2) (hr:0 < C.n) (q:Q (.bool false) m H):Cd C m H (.ref 599) [.tup (.str h :: rest),.int many] Q:=by
 refine zAo ["reason","many"] (fd599 _).h rfl (vl2 fun _ _=> rfl) rfl rfl hr fun L X=> ?_
 walk_at "w"
 refine zA4 (by lia) (by simp;exact omT) rfl ?_
 walk_at "w"
 refine zA6 ?_
 refine zA0 ⟨fun e=> ?_,fun e=> ?_⟩
 ·rw [if_pos (of_decide_eq_true e)] at hl
  walk_at "w"
  refine zAs (by simp;exact omT) ?_
  walk_at "w"
  refine zB5 (b:=2) ?_
  refine zA0 ⟨fun e=> ?_,fun e=> ?_⟩
  ·rw [decide_eq_true_eq] at e
   exact absurd (by simpa using e:(rest.length:Int) + 1 = 2) (by lia)
  ·rw [e]
   exact ⟨_,Weak.refl _,q⟩
 ·rw [if_neg (of_decide_eq_false e)] at hl
  walk_at "w"
  refine zA4 (by lia) (by simp;exact omT) rfl ?_
  walk_at "w"
  refine zBr ?_
  refine zA0 ⟨fun e=> ?_,fun _=> ?_⟩
  ·rw [Bool.not_eq_false',decide_eq_true_eq] at e
   walk_at "w"
   refine zAs (by simp;exact omT) ?_
   walk_at "w"
   refine zAh (b:=3) ?_
   refine zA0 ⟨fun e'=> ?_,fun _=> ?_⟩
   ·rw [Bool.not_eq_false',decide_eq_true_eq] at e'
    rcases hl with q1 | q1
    ·exact absurd e q1
    ·exact absurd (by simpa using e':(rest.length:Int) + 1 = 3) (by lia)
   ·refine ⟨fun _=> ?_,fun e=> bx e⟩
    walk_at "w"
    exact ⟨_,Weak.refl _,q⟩
  ·refine ⟨fun _=> ?_,fun e=> bx e⟩
   walk_at "w"
   exact ⟨_,Weak.refl _,q⟩
noncomputable abbrev ltLoc (l:Str) (ps:List (Str × Nat)) (many:Nat) (l0:Str):Loc:=[("reason",V.tup [.str "rule",.str l,.tup (ps.map zAu)]),("many",.int many),("last",.str l0)]
theorem zMg {l:Str} {ps:List (Str × Nat)} {many:Nat} {Q} (hlen:ps.length ≤ 10) (hr:0 < C.n) (q:Q (.bool (letGo many "" ps)) m H):Cd C m H (.ref 599) [ruleR l ps,.int many] Q:=by
 refine zAo ["reason","many"] (fd599 _).h rfl (vl2 fun _ _=> rfl) rfl rfl hr fun L X=> ?_
 unfold ruleR
 walk_at "w"
 refine zA4 (by lia) (by exact om0 rfl) rfl ?_
 walk_at "w"
 refine zA6 ?_
 refine zA0 ⟨fun e=> (by simp at e;cases e),fun _=> ?_⟩
 walk_at "w"
 refine zA4 (by lia) (by exact om0 rfl) rfl ?_
 walk_at "w"
 refine zBr ?_
 refine zA0 ⟨fun _=> ?_,fun e=> (by simp at e)⟩
 walk_at "w"
 refine zAs (by exact om0 rfl) ?_
 walk_at "w"
 refine zAh (b:=3) ?_
 refine zA0 ⟨fun _=> ?_,fun e=> (by simp at e)⟩
 walk_at "w"
 refine ⟨fun e=> bx e,fun _=> ?_⟩
 walk_at "w"
 refine zRq ?_ (fun _=> rfl)
 walk_at "w"
 refine zA4 (by lia) (by exact om0 rfl) rfl ?_
 refine ⟨ps.map zAu,_,_,zBg,fun i m' H'=> H' = H ∧ ∃ l0,m' = ltLoc l ps many l0 ∧ letGo many "" ps = letGo many l0 (ps.drop i),⟨rfl,"",rfl,rfl⟩,fun i m H _=> trivial,fun X2 i x m' H' hx hI=> ?_,fun m' H' hI=> ?_⟩
 ·obtain ⟨rfl,l0,rfl,hg⟩:=hI
  rw [List.getElem?_map] at hx
  refine zD8 hx fun p h3=> ?_
  obtain ⟨hi,h3⟩:=List.getElem?_eq_some_iff.mp h3
  rw [List.drop_eq_getElem_cons hi,h3] at hg
  have hg:letGo many "" ps = (decide (l0.cps.toList < p.1.cps.toList) && (decide (p.2 < many) && letGo many p.1 (ps.drop (i + 1)))):=hg
  unfold zAu
  refine zAl (a:=.str p.1) (b:=.int p.2) rfl ?_
  with_reducible refine zIf (by with_unfolding_all exact rfl) ?_
  with_reducible refine zIf (by with_unfolding_all exact rfl) ?_
  refine T.weak2 (Q:=fun fl m₃ H₃=> match fl with
   | .next=> H₃ = H' ∧ m₃ = List.append (ltLoc l ps many p.1) ([("name",.str p.1),("n",.int p.2)]:Loc) ∧ letGo many "" ps = letGo many p.1 (ps.drop (i + 1))
   | .ret v=> kW m Q (.ret v) m₃ H₃
   | _=> False) ?_ fun fl m₃ H₃ q=> ?_
  ·walk_at "w"
   refine zPn ?_
   refine zA0 ⟨fun e=> ?_,fun e=> ?_⟩
   ·rw [Bool.not_eq_false'] at e
    walk_at "w"
    refine zXq ?_
    refine zA0 ⟨fun e'=> ?_,fun e'=> ?_⟩
    ·walk_at "w"
     refine ⟨fun e=> bx e,fun _=> ?_⟩
     walk_at "w"
     refine ⟨rfl,rfl,?_⟩
     rw [hg,e,decide_eq_true (by simpa using e':p.2 < many)]
     rfl
    ·refine ⟨fun _=> ?_,fun e=> bx e⟩
     walk_at "w"
     refine ⟨_,Weak.refl _,?_⟩
     rw [hg,decide_eq_false (by simpa using e':¬ p.2 < many),Bool.false_and,Bool.and_false] at q
     exact q
   ·refine ⟨fun _=> ?_,fun e=> bx e⟩
    walk_at "w"
    refine ⟨_,Weak.refl _,?_⟩
    rw [hg,show decide (l0.cps.toList < p.1.cps.toList) = false by simpa using e,Bool.false_and] at q
    exact q
  ·cases fl with
   | next =>
    obtain ⟨rfl,rfl,e⟩:=q
    exact ⟨ltLoc l ps many p.1,_,LocLe.pre _ _,Weak.refl _,rfl,p.1,rfl,e⟩
   | ret v=> exact ⟨m₃,H₃,LocLe.refl _,Weak.refl _,q⟩
   | brk=> exact q.elim
   | cont=> exact q.elim
 ·obtain ⟨rfl,l0,rfl,hg⟩:=hI
  rw [List.length_map,List.drop_eq_nil_of_le (Nat.le_refl _)] at hg
  walk_at "w"
  refine ⟨_,Weak.refl _,?_⟩
  rw [hg] at q
  exact q
end
theorem zF5 {r:WrA} {σ:Hs} {j:Jk} {K:AH}:∀ Z:AH,List.Perm (Z ++ HpH r σ j K) (HpH r σ j (Z ++ K))
 | []=> List.Perm.refl _
 | p :: Z=> ((zF5 Z).cons p).trans hp_in
theorem HAt.app {r:WrA} {nodes:List Node} {par:List Nat} {H:AH} (h:HAt H r nodes par):∀ Z:AH,HAt (Z ++ H) r nodes par
 | []=> h
 | p :: Z=> (HAt.app h Z).cons
section
variable {C:Cx} {m:Loc} {H:AH}
noncomputable abbrev stZ (σ:Hs) (D1 D2 D3 D4:Addr):AH:=[(D4,.list (nl σ.waiting)),(D3,.list σ.edges),(D2,.list σ.rows),(D1,.list (nl (zDy σ)))]
noncomputable abbrev stL (σ:Hs):List (List V):=[σ.rows,σ.edges,nl (zDy σ),nl σ.waiting]
theorem zFy (l:List Nat):voks 8 (nl l) = true:=voks_iff.mpr fun v hv=> by
 refine zAi hv fun x hx=> ?_
 rfl
theorem zJn {r:WrA} {σ:Hs} {j:Jk} {K:AH} {a b:Nat} {reason:V} {Q} (ok:HsOk σ) (fo:FrOk C) (ha:a < σ.nodes.length) (hb:b < σ.nodes.length) (bad:BadR σ.nodes.length reason)
    (let_:∀ {C:Cx} {m:Loc} {H:AH} {Q},0 < C.n → Q (.bool false) m H → Cd C m H (.ref 599) [reason,.int σ.nodes.length] Q)
    (hrv:voks 8 σ.rows = true) (hev:voks 8 σ.edges = true) (hrz:σ.rows.length ≤ 1000) (hez:σ.edges.length ≤ 1000) (hwz:σ.waiting.length ≤ 1000) (hr:12 < C.n)
    (q:Q (.bool true) m (HpH r σ j K)):Cd C m (HpH r σ j K) (.ref 623) [.ref r.w,.int a,.int b,reason,.int σ.nodes.length] Q:=by
 have nz:=ok.nz
 have pl:=ok.pl
 refine zAo ["heap","a","b","reason","many"] (fd623 _).h rfl (vlc fun _=> vl4 fun _ _ _ _=> rfl) rfl rfl (by exact omB) fun L X=> ?_
 refine zEo ?_ rfl rfl
 walk_at "w"
 refine Cd.call (zHk HAt.of ok (by walk_at "mm") (by walk_at "mm") (by walk_at "mm") hrz hez hwz (by show 4 < C.n - 1;exact omR) fun D1 D2 D3 D4=> ?_)
 walk_at "w"
 have hA:=(HAt.of (r:=r) (σ:=σ) (j:=j) (K:=K)).app (stZ σ D1 D2 D3 D4)
 refine ⟨_,zA1 hA.w zAb rfl,?_⟩
 walk_at "w"
 refine Cd.call (zBb hA ok.pok (by exact omM) (by exact omE) (by show 1 < C.n - 1;exact omR) ?_)
 walk_at "w"
 refine ⟨_,zA1 hA.w zAb rfl,?_⟩
 walk_at "w"
 refine Cd.call (zBb hA ok.pok (by exact omM) (by exact omE) (by show 1 < C.n - 1;exact omR) ?_)
 refine zAh ?_
 walk_at "w"
 refine ⟨by exact om0 rfl,?_⟩
 refine ⟨_,_,rfl,?_⟩
 refine T.weakPre (H':=HpH r σ j (stZ σ D1 D2 D3 D4 ++ K)) (Weak.perm (zF5 (r:=r) (σ:=σ) (j:=j) (K:=K) (stZ σ D1 D2 D3 D4))) ?_
 walk_at "w"
 refine Cd.call (zIl ok (fo.call rfl) bad (by show 6 < C.n - 1;exact omR) ?_)
 walk_at "w"
 refine Cd.call (let_ (by show 0 < C.n - 1;exact omR) ?_)
 refine zA0 ⟨fun _=> ?_,fun e=> bx e⟩
 walk_at "w"
 refine zFb rfl ?_
 refine zA0 ⟨fun _=> ?_,fun e=> bx e⟩
 walk_at "w"
 refine Cd.call (zHk HAt.of ok (by walk_at "mm") (by walk_at "mm") (by walk_at "mm") hrz hez hwz (by show 4 < C.n - 1;exact omR) fun E1 E2 E3 E4=> ?_)
 walk_at "w"
 have inZ:∀ x ∈ stZ σ D1 D2 D3 D4,x ∈ (E4,AObj.list (nl σ.waiting)) :: (E3,.list σ.edges) :: (E2,.list σ.rows) :: (E1,.list (nl (zDy σ))) :: HpH r σ j (stZ σ D1 D2 D3 D4 ++ K):=fun x hx =>
  .tail _ (.tail _ (.tail _ (.tail _ ((zF5 _).mem_iff.mp (List.mem_append_left _ hx)))))
 refine zN4 (as:=[E2,E3,E1,E4]) (bs:=[D2,D3,D1,D4]) (ls:=stL σ) ?_ ?_ ?_
 ·exact .cons (by walk_at "mm") hrv (.cons (by walk_at "mm") hev (.cons (by walk_at "mm") (zFy _) (.cons (by walk_at "mm") (zFy _) .nil)))
 ·exact .cons (inZ _ (by simp)) hrv (.cons (inZ _ (by exact .tail _ (.head _))) hev (.cons (inZ _ (by simp)) (zFy _) (.cons (inZ _ (by exact .head _)) (zFy _) .nil)))
 exact ⟨HpH r σ j K,(Weak.trans (Weak.perm (zF5 (stZ σ D1 D2 D3 D4)).symm) (Weak.refl _).drop.drop.drop.drop).drop.drop.drop.drop,q⟩
end
section
variable {C:Cx} {m:Loc} {H:AH}
theorem zVd (f:Nat → Nat) (a b:Nat):jn f a b a = jn f a b b:=by
 unfold jn
 rcases Nat.le_total (f a) (f b) with h | h
 ·rw [Nat.max_eq_right h,Nat.min_eq_left h,if_pos rfl]
  by_cases e:f a = f b
  ·rw [if_pos e]
  ·rw [if_neg e]
 ·rw [Nat.max_eq_left h,Nat.min_eq_right h,if_pos rfl]
  by_cases e:f b = f a
  ·rw [if_pos e]
  ·rw [if_neg e]
open Classical in
theorem zL8 {r:WrA} {σ:Hs} {j:Jk} {K:AH} {a b:Nat} {reason:V} {Q} (ok:HsOk σ) (jo:JOk σ j) (fo:FrOk C) (ha:a < σ.nodes.length) (hb:b < σ.nodes.length) (hre:zDt σ.nodes.length reason)
    (let_:∀ {C:Cx} {m:Loc} {H:AH} {Q},0 < C.n → Q (.bool true) m H → Cd C m H (.ref 599) [reason,.int σ.nodes.length] Q)
    (hrv:voks 8 (σ.rows ++ [zAf a b reason]) = true) (hev:voks 8 (σ.edges ++ [edgeV a b reason]) = true) (hrz:σ.rows.length ≤ 800) (hez:σ.edges.length ≤ 800) (hwz:σ.waiting.length ≤ 1000) (hr:16 < C.n)
    (q:∀ j',JOk (joinS { σ with rows:=σ.rows ++ [zAf a b reason] } a b reason) j' → Q (.bool true) m (HpH r (joinS { σ with rows:=σ.rows ++ [zAf a b reason] } a b reason) j' K)) :
    Cd C m (HpH r σ j K) (.ref 623) [.ref r.w,.int a,.int b,reason,.int σ.nodes.length] Q:=by
 have nz:=ok.nz
 have pl:=ok.pl
 have ok':HsOk { σ with rows:=σ.rows ++ [zAf a b reason] }:=⟨ok.nz,ok.nok,ok.pl,ok.pok,ok.kn,ok.kr,ok.us,ok.az,ok.wl,ok.ul,ok.kl⟩
 have okτ:=zJs (reason:=reason) ok' ha hb
 refine bc fun nn=> ?_
 obtain ⟨t1,t2,t3,t4⟩:=zCw { σ with rows:=σ.rows ++ [zAf a b reason] } a b reason
 refine nn ?_
 have tr:=zEl (reason:=reason) ok' ha hb
 refine zAo ["heap","a","b","reason","many"] (fd623 _).h rfl (vlc fun _=> vl4 fun _ _ _ _=> rfl) rfl rfl (by exact omB) fun L X=> ?_
 refine zEo ?_ rfl rfl
 walk_at "w"
 refine Cd.call (zHk HAt.of ok (by walk_at "mm") (by walk_at "mm") (by walk_at "mm") (by exact omT) (by exact omT) hwz (by show 4 < C.n - 1;exact omR) fun D1 D2 D3 D4=> ?_)
 walk_at "w"
 have hA:=(HAt.of (r:=r) (σ:=σ) (j:=j) (K:=K)).app (stZ σ D1 D2 D3 D4)
 refine ⟨_,zA1 hA.w zAb rfl,?_⟩
 walk_at "w"
 refine Cd.call (zBb hA ok.pok (by exact omM) (by exact omE) (by show 1 < C.n - 1;exact omR) ?_)
 walk_at "w"
 refine ⟨_,zA1 hA.w zAb rfl,?_⟩
 walk_at "w"
 refine Cd.call (zBb hA ok.pok (by exact omM) (by exact omE) (by show 1 < C.n - 1;exact omR) ?_)
 refine zAh ?_
 walk_at "w"
 refine ⟨by exact om0 rfl,?_⟩
 refine ⟨_,_,rfl,?_⟩
 refine T.weakPre (H':=HpH r σ j (stZ σ D1 D2 D3 D4 ++ K)) (Weak.perm (zF5 (r:=r) (σ:=σ) (j:=j) (K:=K) (stZ σ D1 D2 D3 D4))) ?_
 walk_at "w"
 refine Cd.call (zJo ok jo (by exact omT) (by exact omT) ha hb hre (by show 12 < C.n - 1;exact omR) fun j' hj=> ?_)
 walk_at "w"
 refine Cd.call (let_ (by show 0 < C.n - 1;exact omR) ?_)
 refine zA0 ⟨fun e=> bx e,fun _=> ?_⟩
 walk_at "w"
 refine zIs ?_
 rw [show decide (((root σ.par a:Nat):Int) = ((root σ.par b:Nat):Int)) = decide (root σ.par a = root σ.par b) from decide_eq_decide.2 Int.ofNat_inj,bne_self_eq_false]
 refine zA0 ⟨fun _=> ?_,fun e=> bx e⟩
 walk_at "w"
 generalize hτ:joinS { σ with rows:=σ.rows ++ [zAf a b reason] } a b reason = τ at *
 have plτ:τ.par.length = σ.nodes.length:=okτ.pl.trans (by rw [t1])
 have hT:=(HAt.of (r:=r) (σ:=τ) (j:=j') (K:=stZ σ D1 D2 D3 D4 ++ K))
 refine ⟨_,zA1 hT.w zAb rfl,?_⟩
 walk_at "w"
 refine Cd.call (zBb hT okτ.pok (by exact omM) (by exact omE) (by show 1 < C.n - 1;exact omR) ?_)
 walk_at "w"
 refine ⟨_,zA1 hT.w zAb rfl,?_⟩
 walk_at "w"
 refine Cd.call (zBb hT okτ.pok (by exact omM) (by exact omE) (by show 1 < C.n - 1;exact omR) ?_)
 refine zAh ?_
 rw [show ((root τ.par a:Nat):Int) = ((root τ.par b:Nat):Int) from congrArg _ (by rw [tr];exact zVd _ a b),decide_eq_true rfl]
 refine zA0 ⟨fun _=> ?_,fun e=> bx e⟩
 walk_at "w"
 refine ⟨fun e=> bx e,fun _=> ?_⟩
 walk_at "w"
 refine zA5 hT.w rfl zAr ?_
 walk_at "w"
 refine zA4 (by lia) (by exact om0 rfl) rfl ?_
 walk_at "w"
 refine ⟨by exact om0 rfl,?_⟩
 walk_at "w"
 refine ⟨by exact om0 rfl,fun E1=> ?_⟩
 have inZ:∀ x ∈ stZ σ D1 D2 D3 D4,x ∈ HpH r τ j' (stZ σ D1 D2 D3 D4 ++ K):=fun x hx=> (zF5 _).mem_iff.mp (List.mem_append_left _ hx)
 refine zDa (l:=σ.rows) (l₂:=[zAf a b reason]) (.tail _ (inZ _ (by simp))) (.head _) (by simp;exact omT) fun E2=> ?_
 have hro:τ.rows = σ.rows ++ [zAf a b reason]:=t3
 have hed:τ.edges = σ.edges ++ [edgeV a b reason]:=t4
 have mro:(r.ro,AObj.list (σ.rows ++ [zAf a b reason])) ∈ HpH r τ j' (stZ σ D1 D2 D3 D4 ++ K):=by rw [← hro];walk_at "mm"
 have med:(r.ed,AObj.list (σ.edges ++ [edgeV a b reason])) ∈ HpH r τ j' (stZ σ D1 D2 D3 D4 ++ K):=by rw [← hed];walk_at "mm"
 refine zDw (.tail _ (.tail _ mro)) (.head _) hrv hrv ?_
 rw [decide_eq_true rfl]
 refine zA0 ⟨fun _=> ?_,fun e=> bx e⟩
 walk_at "w"
 refine zA5 (.tail _ (.tail _ hT.w)) rfl zBx ?_
 walk_at "w"
 refine zA4 (by lia) (by exact om0 rfl) rfl ?_
 walk_at "w"
 refine ⟨by exact om0 rfl,?_⟩
 walk_at "w"
 refine ⟨by exact om0 rfl,fun E3=> ?_⟩
 refine zDa (l:=σ.edges) (l₂:=[edgeV a b reason]) (.tail _ (.tail _ (.tail _ (inZ _ (by exact .tail _ (.head _)))))) (.head _) (by simp;exact omT) fun E4=> ?_
 refine zDw (.tail _ (.tail _ (.tail _ (.tail _ med)))) (.head _) hev hev ?_
 rw [decide_eq_true rfl]
 exact ⟨HpH r τ j' K,(Weak.trans (Weak.perm (zF5 (stZ σ D1 D2 D3 D4)).symm) (Weak.refl _).drop.drop.drop.drop).drop.drop.drop.drop,q j' hj⟩
end
noncomputable abbrev dieO (fc:Addr) (sp:Nat):List (Atom × V):=[(.s "row",.ref fc),(.s "at",.int sp)]
section
variable {C:Cx} {m:Loc} {H:AH}
theorem zPu {a:Addr} {o o':AObj} {l l':AH} (u:Upd a o o' l l'):(a,o') ∈ l':=by
 obtain ⟨P,R,rfl,rfl⟩:=u.split
 exact List.mem_append_right _ (.head _)
theorem zBo {f fc:Addr} {cs:List Int} {sp wide:Nat} {H':AH} {Q} (u:Upd f (.dictA (dieO fc sp)) (.dictA (dieO fc (sp + 1))) H H') (hm':(fc,AObj.list (cs.map V.int)) ∈ H') (hs:sp ≤ 100000) (hc:cs.length ≤ 70) (hw:0 < wide) (hr:0 < C.n)
    (q:∀ r:Nat,r < wide → Q (.int r) m H'):Cd C m H (.ref 587) [.ref f,.int wide] Q:=by
 have fin:∀ x:Int,∃ r:Nat,x % (wide:Int) = r ∧ r < wide:=fun x=> by
  have h0:0 ≤ x % (wide:Int):=Int.emod_nonneg _ (by lia)
  have hl:x % (wide:Int) < wide:=Int.emod_lt_of_pos _ (by lia)
  exact ⟨(x % (wide:Int)).toNat,(Int.toNat_of_nonneg h0).symm,by lia⟩
 refine zAo ["die","many"] (fd587 _).h rfl (vl2 fun _ _=> rfl) rfl rfl hr fun L X=> ?_
 walk_at "w"
 refine zG3 u.mem rfl ?_
 walk_at "w"
 refine zDx ?_
 walk_at "w"
 refine zMy u ?_
 walk_at "w"
 refine zG3 (zPu u) rfl ?_
 walk_at "w"
 refine zA2 hm' (by exact omMap ‹_› rfl) ?_
 refine zEh ?_
 refine zA0 ⟨fun e=> ?_,fun _=> ?_⟩
 ·have e:sp < cs.length:=by simpa using e
  walk_at "w"
  refine zG3 (zPu u) rfl ?_
  walk_at "w"
  refine zA8 hm' (by exact omz) (x:=.int cs[sp]) (by rw [List.getElem?_map,Int.toNat_natCast,List.getElem?_eq_getElem e];rfl) ?_ (by exact omMap ‹_› rfl)
  walk_at "w"
  refine zIe (by lia) ?_
  refine bc fun nn=> ?_
  obtain ⟨r,h1,h2⟩:=fin cs[sp]
  refine nn ?_
  rw [h1]
  exact ⟨_,Weak.refl _,q r h2⟩
 ·walk_at "w"
  refine zS3 (by decide) ?_
  walk_at "w"
  refine zS3 (by lia) ?_
  walk_at "w"
  refine zWr (by decide) (by decide) ?_
  refine zDx ?_
  walk_at "w"
  refine zDx ?_
  walk_at "w"
  refine zIe (by lia) ?_
  refine bc fun nn=> ?_
  obtain ⟨r,h1,h2⟩:=fin (7 * (sp:Int) + (sp:Int) * sp / 3 + 2)
  refine nn ?_
  rw [h1]
  exact ⟨_,Weak.refl _,q r h2⟩
end
noncomputable def lawWords:List Str:=["m","rule","told","like"]
noncomputable def lawNames:List Str:=["?x","?y","?x1","?b"]
section
variable {w:World}
theorem zJx:nsIn (KK w) mainGlobals "_law_words" = some (some (.ref 579)):=rfl
theorem zJy:nsIn (KK w) mainGlobals "_law_names" = some (some (.ref 580)):=rfl
theorem zJl:∃ xs osl,(KK w).lookup 579 = some ⟨.type "tuple",none,.seq xs,osl⟩ ∧ ∀ B h,IsL B h (lawWords.map V.str) xs.toList:=⟨_,_,rfl,fun B h=> ⟨_,_,rfl,⟨_,rfl⟩,_,_,rfl,⟨_,rfl⟩,_,_,rfl,⟨_,rfl⟩,_,_,rfl,⟨_,rfl⟩,rfl⟩⟩
theorem zJm:∃ xs osl,(KK w).lookup 580 = some ⟨.type "tuple",none,.seq xs,osl⟩ ∧ ∀ B h,IsL B h (lawNames.map V.str) xs.toList:=⟨_,_,rfl,fun B h=> ⟨_,_,rfl,⟨_,rfl⟩,_,_,rfl,⟨_,rfl⟩,_,_,rfl,⟨_,rfl⟩,_,_,rfl,⟨_,rfl⟩,rfl⟩⟩
end
structure DieG (f fc:Addr) (cs:List Int) (G:Nat → AH):Prop where
 u:∀ sp,Upd f (.dictA (dieO fc sp)) (.dictA (dieO fc (sp + 1))) (G sp) (G (sp + 1))
 hm:∀ sp,(fc,AObj.list (cs.map V.int)) ∈ G sp
 hc:cs.length ≤ 70
noncomputable def zQj (h:Str) (n:Nat):Bool:=decide (n ≤ 10) && (if h = "told" then decide (n ≠ 1) else if h = "rule" then decide (n ≠ 2) else true)
inductive Rsn (many:Nat):V → Bool → Prop
 | told {l:Str} (h:l ∈ lawWords):Rsn many (toldR l) true
 | rule {l:Str} {ps:List (Str × Nat)} (h:l ∈ lawWords) (hl:ps.length ≤ 3) (hp:∀ p ∈ ps,p.1 ∈ lawNames):Rsn many (ruleR l ps) (letGo many "" ps)
 | len {h:Str} {rest:List V} (n:Nat) (e:rest.length = n) (hl:zQj h n = true):Rsn many (.tup (.str h :: rest)) false
 | word:Rsn many (toldR "two words") false
inductive At4 (P:V → Prop) (l:List V) (k:Nat):Prop
 | mk (v:V) (g:l[((k:Nat):Int).toNat]? = some v) (h:P v)
theorem at4 {P:V → Prop} {a b c d:V} {k:Nat} (hk:k < 4) (ha:P a) (hb:P b) (hc:P c) (hd:P d):At4 P [a,b,c,d] k:=by
 rcases k with _ | _ | _ | _ | k
 ·exact ⟨a,rfl,ha⟩
 ·exact ⟨b,rfl,hb⟩
 ·exact ⟨c,rfl,hc⟩
 ·exact ⟨d,rfl,hd⟩
 ·lia
inductive StrAt (l:List Str) (k:Nat):Prop
 | mk (x:Str) (h:x ∈ l) (g:(l.map V.str)[((k:Nat):Int).toNat]? = some (.str x))
theorem zUb {l:List Str} {k:Nat} (e:k < l.length):StrAt l k :=
 ⟨l[k],List.getElem_mem _,by rw [List.getElem?_map,Int.toNat_natCast,List.getElem?_eq_getElem e];rfl⟩
section
variable {C:Cx} {m:Loc} {H:AH}
theorem zRt {x:Str} {pos} {a:Addr} {l:List V} {Q} (e:nsIn (KK C.w) mainGlobals x = some (some (.ref a))) (lk:∃ xs osl,(KK C.w).lookup a = some ⟨.type "tuple",none,.seq xs,osl⟩ ∧ ∀ B h,IsL B h l xs.toList) (q:Q (.tup l) m H) (hk:C.env.kindOf x = some .globalImplicit)
    (hd:(x == ("__debug__":Str)) = false:=by decide):Ev C m H (.Name x pos) Q:=by
 refine bc fun nn=> ?_
 obtain ⟨xs,osl,h1,h2⟩:=lk
 refine nn ?_
 exact zI9 (V:=.tup l) e (fun B h hin nb=> ⟨a,xs,rfl,⟨⟨_,hin a _ h1,rfl,_,rfl⟩,nb a _ h1⟩,h2 B h⟩) q hk hd
theorem zWe {pos} {Q} (q:Q (.tup (lawWords.map V.str)) m H) (hk:C.env.kindOf "_law_words" = some .globalImplicit):Ev C m H (.Name "_law_words" pos) Q:=zRt zJx zJl q hk
theorem zWf {pos} {Q} (q:Q (.tup (lawNames.map V.str)) m H) (hk:C.env.kindOf "_law_names" = some .globalImplicit):Ev C m H (.Name "_law_names" pos) Q:=zRt zJy zJm q hk
inductive InvP (sp many:Nat) (L f D:Addr) (k:Nat) (G:Nat → AH) (i:Nat) (acc:List V) (H':AH):Prop
 | mk (ps:List (Str × Nat)) (b3:acc = ps.map zAu) (b4:ps.length = i) (b5:∀ p ∈ ps,p.1 ∈ lawNames)
  (e:H' = (D,.rng k) :: (L + 2,.cell (some (.int many))) :: (L + 1,.cell (some (.ref f))) :: G (sp + 2 * i))
set_option maxHeartbeats 4000000 in
theorem zOx {f fc:Addr} {cs:List Int} {G:Nat → AH} {sp many:Nat} {Q} (g:DieG f fc cs G) (hs:sp ≤ 90000) (hr:1 < C.n)
    (q:∀ sp' v b,sp ≤ sp' → sp' ≤ sp + 10 → Rsn many v b → Q v m (G sp')):Cd C m (G sp) (.ref 592) [.ref f,.int many] Q:=by
 refine zD2 ["die","many"] (fd592 _).h rfl (vl2 fun _ _=> rfl) rfl (fun _=> rfl) (fun _=> rfl) (fun _=> rfl) rfl (by exact omB) fun L X=> ?_
 change Ex _ [] ((L + 2,.cell (some (.int many))) :: (L + 1,.cell (some (.ref f))) :: G sp) _ _
 refine zEo ?_ rfl rfl
 walk_at "w"
 refine Cd.call (zBo (wide:=8) (.tail (.tail (g.u sp))) (.tail _ (.tail _ (g.hm (sp + 1)))) (by exact omT) g.hc (by exact om0 rfl) (by show 0 < C.n - 1;exact omR) fun way hway=> ?_)
 walk_at "w"
 refine Cd.call (zBo (wide:=4) (.tail (.tail (g.u (sp + 1)))) (.tail _ (.tail _ (g.hm (sp + 1 + 1)))) (by exact omA) g.hc (by exact om0 rfl) (by show 0 < C.n - 1;exact omR) fun r1 hr1=> ?_)
 walk_at "w"
 obtain ⟨l,hl,hlg⟩:=zUb (l:=lawWords) (k:=r1) hr1
 refine zA4 (by exact omz) (by decide) hlg ?_
 walk_at "w"
 refine ⟨by exact om0 rfl,?_⟩
 refine ⟨_,_,rfl,?_⟩
 walk_at "w"
 refine zAe rfl (scOk rfl) ?_ (fun _=> rfl)
 walk_at "w"
 refine Cd.call (zBo (wide:=4) (.tail (.tail (g.u (sp + 1 + 1)))) (.tail _ (.tail _ (g.hm (sp + 1 + 1 + 1)))) (by exact omAA ‹_› rfl) g.hc (by exact om0 rfl) (by show 0 < C.n - 1;exact omR) fun k hk=> ?_)
 walk_at "w"
 refine zC2 fun D=> ?_
 refine ⟨_,_,_,zCc (.head _) (by exact omS ‹_› rfl),by simp;exact omS ‹_› rfl,InvP (sp + 1 + 1 + 1) many L f D k G,?_,?_,?_,?_⟩
 ·exact ⟨[],rfl,rfl,fun p hp=> (by exact nM hp),rfl⟩
 ·rintro i acc H' ⟨ps,_,_,_,rfl⟩
  trivial
 ·rintro L' X' i x acc H' hx ⟨ps,rfl,b4,b5,rfl⟩
  rw [List.getElem?_map] at hx
  refine zD8 hx fun z hz=> ?_
  have hi:i < k:=by have:=(List.getElem?_eq_some_iff.mp hz).1;simpa using this
  walk_at "w"
  refine ⟨fun _=> ?_,fun e=> bx e⟩
  walk_at "w"
  refine Cd.call (zBo (wide:=4) (.tail (.tail (.tail (g.u (sp + 1 + 1 + 1 + 2 * i))))) (.tail _ (.tail _ (.tail _ (g.hm (sp + 1 + 1 + 1 + 2 * i + 1))))) (by lia) g.hc (by exact om0 rfl) (by show 0 < C.n - 1;exact omR) fun r2 hr2=> ?_)
  walk_at "w"
  obtain ⟨x,hx,hxg⟩:=zUb (l:=lawNames) (k:=r2) hr2
  refine zA4 (by exact omz) (by decide) hxg ?_
  walk_at "w"
  refine zDx ?_
  walk_at "w"
  refine Cd.call (zBo (wide:=many + 1) (.tail (.tail (.tail (g.u (sp + 1 + 1 + 1 + 2 * i + 1))))) (.tail _ (.tail _ (.tail _ (g.hm (sp + 1 + 1 + 1 + 2 * i + 1 + 1))))) (by lia) g.hc (by exact om0 rfl) (by show 0 < C.n - 1;exact omR) fun r3 hr3=> ?_)
  walk_at "w"
  refine ⟨by exact om0 rfl,?_⟩
  refine ⟨ps ++ [(x,r3)],by rw [List.map_append];rfl,by rw [List.length_append,List.length_singleton,b4],fun p hp=> ?_,rfl⟩
  rcases List.mem_append.mp hp with hp | hp
  ·exact b5 p hp
  ·rw [List.mem_singleton.mp hp];exact hx
 ·rintro acc H' ⟨ps,rfl,b4,b5,rfl⟩ D2
  rw [List.length_map,List.length_range] at b4
  rw [List.length_map,List.length_range]
  generalize hsp:sp + 1 + 1 + 1 + 2 * k = sp'
  walk_at "w"
  refine zBl (.head _) (by simp;exact omEl ‹_› ‹_› rfl) ?_
  walk_at "w"
  refine zEh ?_
  refine zA0 ⟨fun _=> ?_,fun _=> ?_⟩
  ·walk_at "w"
   refine ⟨by exact om0 rfl,?_⟩
   walk_at "w"
   exact ⟨_,by walk_at "mm",q sp' _ _ (by lia) (by lia) (.told hl)⟩
  walk_at "w"
  refine zEh ?_
  refine zA0 ⟨fun _=> ?_,fun _=> ?_⟩
  ·walk_at "w"
   refine ⟨by exact om0 rfl,?_⟩
   walk_at "w"
   exact ⟨_,by walk_at "mm",q sp' _ _ (by lia) (by lia) (.rule hl (by exact omEl ‹_› ‹_› rfl) b5)⟩
  walk_at "w"
  refine zB5 (b:=5) ?_
  refine zA0 ⟨fun _=> ?_,fun _=> ?_⟩
  ·walk_at "w"
   repeat (refine ⟨by exact om0 rfl,?_⟩;walk_at "w")
   refine Cd.call (zBo (wide:=4) (.tail (.tail (.tail (.tail (g.u sp'))))) (.tail _ (.tail _ (.tail _ (.tail _ (g.hm (sp' + 1)))))) (by lia) g.hc (by exact om0 rfl) (by show 0 < C.n - 1;exact omR) fun r hr=> ?_)
   walk_at "w"
   obtain ⟨v,hv,hR⟩:=at4 (P:=fun v=> Rsn many v false) hr (a:=.tup [.str "like"]) (b:=.tup [.str "told"]) (c:=.tup [.str "settle"]) (d:=.tup [.str "rule",.str l]) (.len 0 rfl (by decide +kernel)) (.len 0 rfl (by decide +kernel)) (.len 0 rfl (by decide +kernel)) (.len 1 rfl (by decide +kernel))
   refine zA4 (by exact omz) (by exact om0 rfl) hv ?_
   exact ⟨_,by walk_at "mm",q (sp' + 1) _ _ (by lia) (by lia) hR⟩
  walk_at "w"
  refine zB5 (b:=6) ?_
  refine zA0 ⟨fun _=> ?_,fun _=> ?_⟩
  ·walk_at "w"
   repeat (refine ⟨by exact om0 rfl,?_⟩;walk_at "w")
   refine Cd.call (zBo (wide:=4) (.tail (.tail (.tail (.tail (g.u sp'))))) (.tail _ (.tail _ (.tail _ (.tail _ (g.hm (sp' + 1)))))) (by lia) g.hc (by exact om0 rfl) (by show 0 < C.n - 1;exact omR) fun r hr=> ?_)
   walk_at "w"
   obtain ⟨v,hv,hR⟩:=at4 (P:=fun v=> Rsn many v false) hr (a:=.tup [.str "because",.str l]) (b:=.tup [.str "told",.str l,.str l]) (c:=.tup [.str "told",.str l,.tup (ps.map zAu)]) (d:=.tup [.str "rule",.str l,.tup (ps.map zAu),.tup (ps.map zAu)]) (.len 1 rfl (by decide +kernel)) (.len 2 rfl (by decide +kernel)) (.len 2 rfl (by decide +kernel)) (.len 3 rfl (by decide +kernel))
   refine zA4 (by exact omz) (by exact om0 rfl) hv ?_
   exact ⟨_,by walk_at "mm",q (sp' + 1) _ _ (by lia) (by lia) hR⟩
  ·walk_at "w"
   repeat (refine ⟨by exact om0 rfl,?_⟩;walk_at "w")
   refine Cd.call (zBo (wide:=4) (.tail (.tail (.tail (.tail (g.u sp'))))) (.tail _ (.tail _ (.tail _ (.tail _ (g.hm (sp' + 1)))))) (by lia) g.hc (by exact om0 rfl) (by show 0 < C.n - 1;exact omR) fun r hr=> ?_)
   walk_at "w"
   obtain ⟨v,hv,hR⟩:=at4 (P:=fun v=> Rsn many v false) hr (a:=.tup [.str "like",.str l,.tup (ps.map zAu)]) (b:=.tup [.str "same",.str l]) (c:=.tup [.str "Rule",.str l,.tup (ps.map zAu)]) (d:=toldR "two words") (.len 2 rfl (by decide +kernel)) (.len 1 rfl (by decide +kernel)) (.len 2 rfl (by decide +kernel)) .word
   refine zA4 (by exact omz) (by exact om0 rfl) hv ?_
   exact ⟨_,by walk_at "mm",q (sp' + 1) _ _ (by lia) (by lia) hR⟩
end
theorem zBz:∀ l ∈ lawWords,zD4 l = true ∧ plain l = true ∧ l.length ≤ 60:=by decide +kernel
theorem zEi:∀ l ∈ lawNames,zEu l = true ∧ plain l = true ∧ l.length ≤ 60:=by decide +kernel
theorem letGo_iff {many:Nat}:∀ {ps:List (Str × Nat)} {l:Str},letGo many l ps = true ↔ ((∀ x ∈ ps.map (·.1),strLt l x) ∧ Asc (ps.map (·.1)) ∧ ∀ p ∈ ps,p.2 < many):=by
 intro ps
 induction ps with
 | nil =>
  intro l
  exact ⟨fun _=> ⟨fun x h=> (by exact nM h),List.Pairwise.nil,fun x h=> (by exact nM h)⟩,fun _=> rfl⟩
 | cons p r ih =>
  intro l
  obtain ⟨x,n⟩:=p
  unfold Asc
  rw [zOv]
  rw [Bool.and_eq_true,Bool.and_eq_true,decide_eq_true_eq,decide_eq_true_eq,ih,List.map_cons,List.pairwise_cons]
  constructor
  ·rintro ⟨h1,h2,h3,h4,h5⟩
   refine ⟨fun y hy=> ?_,⟨h3,h4⟩,fun p hp=> ?_⟩
   ·rcases List.mem_cons.mp hy with rfl | hy
    ·exact h1
    ·exact List.lt_trans h1 (h3 y hy)
   ·rcases List.mem_cons.mp hp with rfl | hp
    ·exact h2
    ·exact h5 p hp
  ·rintro ⟨h1,⟨h3,h4⟩,h5⟩
   exact ⟨h1 x (.head _),h5 _ (.head _),h3,h4,fun p hp=> h5 p (.tail _ hp)⟩
inductive LawReason (many:Nat):V → Prop
 | told {l:Str} (h:l ∈ lawWords):LawReason many (toldR l)
 | rule {l:Str} {ps:List (Str × Nat)} (h:l ∈ lawWords) (hp:zEn many ps) (hn:∀ p ∈ ps,p.1 ∈ lawNames):LawReason many (ruleR l ps)
theorem LawReason.ok {many:Nat} {v:V} (h:LawReason many v):zDt many v:=by
 cases h with
 | told h=> exact .inl ⟨_,rfl,(zBz _ h).1⟩
 | rule h hp hn=> exact .inr ⟨_,_,rfl,(zBz _ h).1,hp⟩
theorem Rsn.good {many:Nat} {v:V} {b:Bool} (h:Rsn many v b) (hb:b = true):LawReason many v:=by
 cases h with
 | told h=> exact .told h
 | rule h hl hp =>
  obtain ⟨_,h2,h3⟩:=letGo_iff.mp hb
  exact .rule h ⟨by exact omT,h2,fun p q=> ⟨(zEi _ (hp p q)).1,h3 p q⟩⟩ hp
 | len=> exact Bool.noConfusion hb
 | word=> exact Bool.noConfusion hb
open Classical in
theorem Rsn.bad {many:Nat} {v:V} {b:Bool} (h:Rsn many v b) (hb:b = false):BadR many v:=by
 cases h with
 | told h=> exact Bool.noConfusion hb
 | @rule l ps h hl hp =>
  by_cases e:Asc (ps.map (·.1))
  ·refine .place (zBz _ h).1 (by exact omT) e (fun p q=> (zEi _ (hp p q)).1) ?_
   apply Classical.byContradiction
   intro n
   have:letGo many "" ps = true:=letGo_iff.mpr ⟨fun x hx=> ?_,e,fun p q=> ?_⟩
   ·rw [hb] at this;exact Bool.noConfusion this
   ·obtain ⟨p,q,rfl⟩:=List.mem_map.mp hx
    have:∀ l ∈ lawNames,strLt "" l:=by
     unfold strLt
     decide +kernel
    exact this _ (hp p q)
   ·exact Nat.lt_of_not_le fun z=> n ⟨p,q,z⟩
  ·refine .order (zBz _ h).1 (by exact omT) (fun p q=> ?_) e
   have:=(zEi _ (hp p q)).1
   unfold zEu at this
   rw [Bool.and_eq_true] at this
   exact (zB6 this.1).1
 | @len h rest n e hl =>
  unfold zQj at hl
  rw [Bool.and_eq_true,decide_eq_true_eq] at hl
  obtain ⟨h1,h2⟩:=hl
  refine .len (by exact omE) ?_
  rw [e]
  by_cases q:h = "told"
  ·rw [if_pos q,decide_eq_true_eq] at h2
   rw [if_pos q];lia
  ·by_cases q':h = "rule"
   ·rw [if_neg q,if_pos q',decide_eq_true_eq] at h2
    rw [if_neg q,if_pos q'];lia
   ·rw [if_neg q,if_neg q'];lia
 | word=> exact .word (by decide +kernel) (by decide +kernel) (by decide +kernel)
theorem Rsn.let_ {many:Nat} {v:V} {b:Bool} (h:Rsn many v b) {C:Cx} {m:Loc} {H:AH} {Q} (hr:0 < C.n) (q:Q (.bool b) m H):Cd C m H (.ref 599) [v,.int many] Q:=by
 cases h with
 | told h =>
  have:∀ l ∈ lawWords,(Builtin.Str.occurrences l " " 0 l.length 1).isEmpty = true:=by decide +kernel
  exact zHn (this _ h) hr q
 | rule h hl hp=> exact zMg (by exact omT) hr q
 | @len h rest n e hl =>
  unfold zQj at hl
  rw [Bool.and_eq_true,decide_eq_true_eq] at hl
  obtain ⟨h1,h2⟩:=hl
  refine zP0 (by exact omE) ?_ hr q
  rw [e]
  by_cases q:h = "told"
  ·rw [if_pos q,decide_eq_true_eq] at h2
   rw [if_pos q];exact h2
  ·by_cases q':h = "rule"
   ·rw [if_neg q,if_pos q',decide_eq_true_eq] at h2
    rw [if_neg q];exact .inr h2
   ·rw [if_neg q];exact .inl q'
 | word=> exact zHn (by decide +kernel) hr q
noncomputable def rH (h:List Nat) (i:Nat):Nat:=h.getD i i
noncomputable def joinH (h:List Nat) (a b:Nat):List Nat:=h.map fun x=> if x = max (rH h a) (rH h b) then min (rH h a) (rH h b) else x
structure HOk (N:Nat) (h:List Nat):Prop where
 len:h.length = N
 rep:Rep N (rH h)
theorem zUd {h:List Nat} {i:Nat} (hi:h.length ≤ i):rH h i = i:=by
 unfold rH
 rw [List.getD_eq_getElem?_getD,List.getElem?_eq_none hi];rfl
theorem rH_in {h:List Nat} {i:Nat} (hi:i < h.length):h[i]? = some (rH h i):=by
 unfold rH
 rw [List.getD_eq_getElem?_getD,List.getElem?_eq_getElem hi];rfl
theorem zJi {N:Nat} {h:List Nat} {a b:Nat} (ok:HOk N h) (ha:a < N) (hb:b < N):rH (joinH h a b) = jn (rH h) a b:=by
 funext i
 have la:=ok.rep.lt ha
 have lb:=ok.rep.lt hb
 by_cases hi:i < h.length
 ·have e:=rH_in hi
  have e2:(joinH h a b)[i]? = some (jn (rH h) a b i):=by
   unfold joinH
   rw [List.getElem?_map,e];rfl
  have:=rH_in (h:=joinH h a b) (i:=i) (by unfold joinH;rw [List.length_map];exact hi)
  rw [this] at e2
  exact Option.some.inj e2
 ·have e:rH h i = i:=zUd (by with_reducible exact Nat.le_of_not_lt (by walk_at "a"))
  rw [zUd (by unfold joinH;rw [List.length_map];with_reducible exact Nat.le_of_not_lt (by walk_at "a"))]
  unfold jn
  rw [e,if_neg]
  have:=ok.len
  lia
theorem zNp {N:Nat} {h:List Nat} {a b:Nat} (ok:HOk N h) (ha:a < N) (hb:b < N):HOk N (joinH h a b) :=
 ⟨by unfold joinH;rw [List.length_map];exact ok.len,by rw [zJi ok ha hb];exact zX7 ok.rep ha hb⟩
theorem zHm {N:Nat} {h:List Nat} {a b:Nat} (ok:HOk N h) (ha:a < N) (hb:b < N) (hne:rH h a ≠ rH h b):zA7 (joinH h a b) + 1 = zA7 h:=by
 have la:=ok.rep.lt ha
 have lb:=ok.rep.lt hb
 have fa:=ok.rep.id a ha
 have fb:=ok.rep.id b hb
 unfold zA7
 have el:(joinH h a b).length = h.length:=by unfold joinH;rw [List.length_map]
 rw [el]
 have hgr:rH h (max (rH h a) (rH h b)) = max (rH h a) (rH h b):=by rcases zFh (rH h a) (rH h b) with ⟨q,_⟩ | ⟨q,_⟩ <;> rw [q] <;> assumption
 have hkr:rH h (min (rH h a) (rH h b)) = min (rH h a) (rH h b):=by rcases zFh (rH h a) (rH h b) with ⟨_,q⟩ | ⟨_,q⟩ <;> rw [q] <;> assumption
 refine (zJ0 (g:=max (rH h a) (rH h b)) (decide_eq_true hgr) ?_ (fun i hi=> ?_) _ (by rw [ok.len];lia)).symm
 ·show decide (rH (joinH h a b) _ = _) = false
  rw [zJi ok ha hb]
  refine decide_eq_false ?_
  unfold jn
  rw [if_pos hgr];lia
 ·show decide (rH h i = i) = decide (rH (joinH h a b) i = i)
  rw [zJi ok ha hb]
  unfold jn
  by_cases q:rH h i = max (rH h a) (rH h b)
  ·rw [if_pos q]
   have:rH h i ≠ i:=fun e=> hi (by rw [← e,q])
   rw [decide_eq_false this]
   refine (decide_eq_false fun e=> ?_).symm
   rw [e] at hkr
   lia
  ·rw [if_neg q]
noncomputable def homeF (h:List Nat):V → Option V
 | .int k=> some (.int (rH h k.toNat))
 | _=> none
theorem zLc (h:List Nat):∀ l:List Nat,(l.map fun k:Nat=> V.int k).filterMap (homeF h) = nl (l.map (rH h))
 | []=> rfl
 | k :: r=> by
  have ih:=zLc h r
  show List.filterMap (homeF h) (V.int k :: (r.map fun k:Nat=> V.int k)) = _
  rw [List.filterMap_cons_some (f:=homeF h) (a:=V.int k) (b:=V.int (rH h k)) rfl,ih];rfl
theorem zCx {h:List Nat} {i:Nat} (hi:i < h.length):(nl h)[(i:Int).toNat]? = some (V.int (rH h i)):=by
 unfold nl
 rw [List.getElem?_map,Int.toNat_natCast,rH_in hi];rfl
noncomputable def zAy (h:List Nat) (ws:List (Nat × Nat)):List Nat:=ws.foldl (fun h p=> joinH h p.1 p.2) h
theorem zOy {h:List Nat} {a b:Nat} (e:rH h a = rH h b):joinH h a b = h:=by
 unfold joinH
 rw [e,Nat.max_self,Nat.min_self]
 refine (List.map_congr_left fun x _=> ?_).trans (List.map_id h)
 by_cases q:x = rH h b
 ·rw [if_pos q,q];rfl
 ·rw [if_neg q];rfl
theorem zJz (h:List Nat) (ws:List (Nat × Nat)) (p:Nat × Nat):zAy h (ws ++ [p]) = joinH (zAy h ws) p.1 p.2:=by
 unfold zAy
 rw [List.foldl_append];rfl
theorem zIm {N:Nat} {h:List Nat} {a b:Nat} (ok:HOk N h) (ha:a < N) (hb:b < N):zA7 (joinH h a b) ≤ zA7 h:=by
 by_cases e:rH h a = rH h b
 ·rw [zOy e];exact Nat.le_refl _
 ·have:=zHm ok ha hb e
  lia
inductive FoJ (N:Nat) (h:List Nat) (ws:List (Nat × Nat)) (h':List Nat):Prop
 | mk (ok:HOk N h') (le:RLe N (rH h) (rH h')) (so:∀ s,RLe N (rH h) s → (∀ p ∈ ws,s p.1 = s p.2) → RLe N (rH h') s) (re:∀ p ∈ ws,rH h' p.1 = rH h' p.2) (nr:zA7 h' ≤ zA7 h)
theorem zCi {N:Nat}:∀ (ws:List (Nat × Nat)) {h:List Nat},HOk N h → (∀ p ∈ ws,p.1 < N ∧ p.2 < N) → FoJ N h ws (zAy h ws):=by
 intro ws
 induction ws with
 | nil =>
  intro h ok _
  exact ⟨ok,RLe.refl,fun _ l _=> l,fun p hp=> (by exact nM hp),Nat.le_refl _⟩
 | cons p ws ih =>
  intro h ok hw
  have hp:=hw p (.head _)
  have h1:=hp.1
  have h2:=hp.2
  have hj:=zJi ok h1 h2
  obtain ⟨a1,a2,a3,a4,a5⟩:=ih (zNp ok h1 h2) fun q hq=> hw q (.tail _ hq)
  show FoJ N h (p :: ws) (zAy (joinH h p.1 p.2) ws)
  have l:RLe N (rH h) (rH (joinH h p.1 p.2)):=by rw [hj];exact jn_le _ _
  refine ⟨a1,l.trans a2,fun s l e=> ?_,fun q hq=> ?_,Nat.le_trans a5 (zIm ok h1 h2)⟩
  ·refine a3 s ?_ fun q hq=> e q (.tail _ hq)
   rw [hj]
   exact zJu ok.rep l (e p (.head _)) h1 h2
  ·rcases List.mem_cons.mp hq with rfl | hq
   ·refine a2 _ _ h1 h2 ?_
    rw [hj];exact zJv _ _ _
   ·exact a4 q hq
theorem zMl {N:Nat} {p:Nat × Nat} {ws:List (Nat × Nat)} {h:List Nat} (ok:HOk N h) (hw:∀ q ∈ p :: ws,q.1 < N ∧ q.2 < N) (hne:rH h p.1 ≠ rH h p.2):zA7 (zAy h (p :: ws)) < zA7 h:=by
 have hp:=hw p (.head _)
 have z:=zHm ok hp.1 hp.2 hne
 obtain ⟨_,_,_,_,a5⟩:=zCi ws (zNp ok hp.1 hp.2) fun q hq=> hw q (.tail _ hq)
 show zA7 (zAy (joinH h p.1 p.2) ws) < _
 lia
noncomputable def stepQ (nodes:List Node) (h:List Nat) (st:List (Node × Nat) × List (Nat × Nat)) (n:Nat):List (Node × Nat) × List (Nat × Nat) :=
 match dget (keyR nodes (rH h) n) st.1 with
 | some o=> if rH h o = rH h n then st else (st.1,st.2 ++ [(o,n)])
 | none=> (st.1 ++ [(keyR nodes (rH h) n,n)],st.2)
noncomputable def passQ (nodes:List Node) (h:List Nat) (i:Nat):List (Node × Nat) × List (Nat × Nat):=(List.range i).foldl (stepQ nodes h) ([],[])
theorem zIx (nodes:List Node) (h:List Nat) (i:Nat):passQ nodes h (i + 1) = stepQ nodes h (passQ nodes h i) i:=by
 unfold passQ
 rw [List.range_succ,List.foldl_append];rfl
structure QInv (nodes:List Node) (h:List Nat) (i:Nat) (st:List (Node × Nat) × List (Nat × Nat)):Prop where
 kn:∀ p ∈ st.1,p.2 < nodes.length ∧ keyR nodes (rH h) p.2 = p.1
 kz:st.1.length ≤ i
 wz:st.2.length ≤ i
 wi:∀ p ∈ st.2,(p.1 < nodes.length ∧ p.2 < nodes.length) ∧ rH h p.1 ≠ rH h p.2 ∧ keyR nodes (rH h) p.1 = keyR nodes (rH h) p.2
 un:st.2 = [] → ∀ j,j < i → ∃ o,dget (keyR nodes (rH h) j) st.1 = some o ∧ rH h o = rH h j
theorem zQ2 {nodes:List Node} {h:List Nat} {i:Nat} {st:List (Node × Nat) × List (Nat × Nat)} (hi:i < nodes.length) (iv:QInv nodes h i st):QInv nodes h (i + 1) (stepQ nodes h st i):=by
 obtain ⟨k,w⟩:=st
 obtain ⟨kn,kz,wz,wi,un⟩:=iv
 dsimp only at kn kz wz wi un
 have dj:∀ {j},j < i + 1 → j ≠ i → j < i:=fun h1 h2=> by exact omD ‹_› ‹_›
 unfold stepQ
 dsimp only
 split
 ·rename_i o ho
  have z:=kn _ (zC5 ho)
  split
  ·rename_i e
   refine ⟨kn,by dsimp only;lia,by dsimp only;lia,wi,fun q j hj=> ?_⟩
   by_cases z:j = i
   ·rw [z];exact ⟨o,ho,e⟩
   ·exact un q j (dj hj z)
  ·rename_i e
   refine ⟨kn,by dsimp only;lia,by dsimp only;rw [List.length_append,List.length_singleton];lia,fun p hp=> ?_,fun q=> absurd q (by simp)⟩
   rcases List.mem_append.mp hp with hp | hp
   ·exact wi p hp
   ·rw [List.mem_singleton.mp hp]
    exact ⟨⟨z.1,hi⟩,e,z.2⟩
 ·rename_i ho
  refine ⟨fun p hp=> ?_,by dsimp only;rw [List.length_append,List.length_singleton];lia,by dsimp only;lia,wi,fun q j hj=> ?_⟩
  ·rcases List.mem_append.mp hp with hp | hp
   ·exact kn p hp
   ·rw [List.mem_singleton.mp hp]
    exact ⟨hi,rfl⟩
  ·dsimp only
   by_cases z:j = i
   ·rw [z]
    exact ⟨i,by rw [zDr,ho];show dget _ [_] = _;rw [zAv];rw [if_pos rfl],rfl⟩
   ·obtain ⟨o,z1,z2⟩:=un q j (dj hj z)
    exact ⟨o,by rw [zDr,z1],z2⟩
theorem zH3 {nodes:List Node} {h:List Nat}:∀ i,i ≤ nodes.length → QInv nodes h i (passQ nodes h i):=by
 intro i
 induction i with
 | zero=> intro _;exact ⟨fun _ h=> (by exact nM h),Nat.le_refl _,Nat.le_refl _,fun _ h=> (by exact nM h),fun _ _ h=> (by lia)⟩
 | succ i ih=> intro hi;rw [zIx];exact zQ2 hi (ih (by exact omV8 ‹_›))
theorem zKv {nodes:List Node} {h:List Nat} (q:(passQ nodes h nodes.length).2 = []):zFp nodes (rH h):=by
 have iv:=zH3 (nodes:=nodes) (h:=h) nodes.length (Nat.le_refl _)
 intro m n hm hn ek
 obtain ⟨o,h1,h2⟩:=iv.un q m hm
 obtain ⟨o',h3,h4⟩:=iv.un q n hn
 rw [ek,h3] at h1
 cases h1
 exact h2.symm.trans h4
noncomputable def Resp (pairs:List (Nat × Nat)) (r:Nat → Nat):Prop:=∀ p ∈ pairs,r p.1 = r p.2
inductive HInv (nodes:List Node) (pairs:List (Nat × Nat)) (h:List Nat) (ws:List (Nat × Nat)) (k:Nat):Prop
 | mk (ok:HOk nodes.length h) (wl:∀ p ∈ ws,p.1 < nodes.length ∧ p.2 < nodes.length) (wz:ws.length ≤ 100) (so:∀ s,zFp nodes s → Resp pairs s → RLe nodes.length (rH h) s ∧ ∀ p ∈ ws,s p.1 = s p.2)
  (re:Resp pairs (rH (zAy h ws))) (cl:ws = [] → zFp nodes (rH h)) (ms:ws ≠ [] → zA7 (zAy h ws) < k)
theorem zD6 (n i:Nat):rH (List.range n) i = i:=by unfold rH;rw [zFu]
theorem zP4 {nodes:List Node} {pairs:List (Nat × Nat)} (nd:nodes.Nodup) (hp:∀ p ∈ pairs,p.1 < nodes.length ∧ p.2 < nodes.length) (hz:pairs.length ≤ 100):HInv nodes pairs (List.range nodes.length) pairs (zA7 (List.range nodes.length) + 1):=by
 have ok:HOk nodes.length (List.range nodes.length):=⟨List.length_range,⟨fun i _=> by rw [zD6];exact Nat.le_refl _,fun i _=> by rw [zD6,zD6]⟩⟩
 obtain ⟨a1,a2,a3,a4,a5⟩:=zCi pairs ok hp
 refine ⟨ok,hp,hz,fun s cs r=> ⟨fun i j _ _ e=> ?_,r⟩,a4,fun _=> ?_,fun _=> Nat.lt_succ_of_le a5⟩
 ·rw [zD6,zD6] at e;rw [e]
 ·intro m n hm hn e
  obtain ⟨x,hx⟩:=zF4 hm
  obtain ⟨y,hy⟩:=zF4 hn
  have mp:∀ l:List Nat,l.map (rH (List.range nodes.length)) = l:=fun l=> (List.map_congr_left fun i _=> zD6 _ i).trans (List.map_id l)
  rw [zCv hx,zCv hy,mp,mp] at e
  have e:x = y:=e
  obtain ⟨h1,h2⟩:=List.getElem?_eq_some_iff.mp hx
  obtain ⟨h3,h4⟩:=List.getElem?_eq_some_iff.mp hy
  rw [zD6,zD6]
  exact (List.getElem_inj nd).mp (h2.trans (e.trans h4.symm))
theorem zQs {nodes:List Node} (nok:zJ5 nodes) (hN:nodes.length ≤ 100) {pairs:List (Nat × Nat)} (hp:∀ p ∈ pairs,p.1 < nodes.length ∧ p.2 < nodes.length) {h:List Nat} {ws:List (Nat × Nat)} {k:Nat} (iv:HInv nodes pairs h ws k) :
    HInv nodes pairs (zAy h ws) (passQ nodes (zAy h ws) nodes.length).2 (zA7 (zAy h ws)):=by
 refine bc fun nn=> ?_
 obtain ⟨ok,wl,wz,so,re,cl,ms⟩:=iv
 obtain ⟨a1,a2,a3,a4,a5⟩:=zCi ws ok wl
 have qi:=zH3 (nodes:=nodes) (h:=zAy h ws) nodes.length (Nat.le_refl _)
 have wl':∀ p ∈ (passQ nodes (zAy h ws) nodes.length).2,p.1 < nodes.length ∧ p.2 < nodes.length:=fun p hp=> (qi.wi p hp).1
 obtain ⟨b1,b2,b3,b4,b5⟩:=zCi _ a1 wl'
 refine nn ?_
 refine ⟨a1,wl',Nat.le_trans qi.wz hN,fun s cs r=> ?_,fun p hp'=> ?_,fun q=> zKv q,fun q=> ?_⟩
 ·have z:=so s cs r
  have l:=a3 s z.1 z.2
  refine ⟨l,fun p hp=> ?_⟩
  have w:=qi.wi p hp
  exact cs p.1 p.2 w.1.1 w.1.2 (zUi nok l w.1.1 w.1.2 w.2.2)
 ·exact b2 _ _ (hp p hp').1 (hp p hp').2 (re p hp')
 ·have wi:=qi.wi
  generalize (passQ nodes (zAy h ws) nodes.length).2 = w at wl' wi q ⊢
  cases w with
  | nil=> exact absurd rfl q
  | cons p w=> exact zMl a1 wl' (wi p (.head _)).2.1
theorem LocLe.nil {m:Loc}:LocLe m []:=fun _=> .inl rfl
theorem LocLe.add {m m':Loc} {x:Str} {v:V} (hx:lk x m = some v) (h:LocLe m m'):LocLe m ((x,v) :: m'):=fun y=> by
 by_cases e:y = x
 ·subst e;right;rw [hx];exact if_pos rfl
 ·have:lk y ((x,v) :: m') = lk y m':=if_neg e
  rw [this];exact h y
section
variable {C:Cx} {m:Loc} {H:AH}
inductive zX1 (I:Nat → Loc → AH → Prop) (i:Nat) (fl:AFlow) (m₃:Loc) (H₃:AH):Prop
 | mk (f:fl = .next ∨ fl = .cont) (m₄:Loc) (H₄:AH) (l:LocLe m₃ m₄) (w:Weak H₃ H₄) (q:I (i + 1) m₄ H₄)
inductive kForM (C:Cx) (target:Expr) (body rest:List Stmt) (Q:AFlow → Loc → AH → Prop) (v:V) (m₁:Loc) (H₁:AH):Prop
 | mk (xs:List V) (src:AH → Prop) (H':AH) (wk:Walk C target H₁ v src xs H') (I:Nat → Loc → AH → Prop) (h0:I 0 m₁ H') (hs:∀ i m H,I i m H → src H)
     (turn:∀ X i x m H,xs[i]? = some x → I i m H → Asg (C.wX X) m H target x fun _ m₂ H₂=> Ex (C.wX X) m₂ H₂ body (zX1 I i)) (fin:∀ m H,I xs.length m H → Ex C m H rest Q)
theorem zRp {target iter:Expr} {body:List Stmt} {pos:Pos} {rest:List Stmt} {Q}
    (h:Ev C m H iter (kForM C target body rest Q))
    (hs:∀ x,foldedSetIterable iter C.env x = pure x):Ex C m H (.For target iter body [] pos :: rest) Q:=by
 refine zRq (T.conseq h fun v m₁ H₁ q=> ?_) hs
 obtain ⟨xs,src,H',wk,I,h0,hsrc,turn,fin⟩:=q
 refine ⟨xs,src,H',wk,I,h0,hsrc,fun X i x m' H hx hI=> ?_,fin⟩
 refine T.conseq (turn X i x m' H hx hI) fun _ m₂ H₂ h=> T.weak2 h fun fl m₃ H₃ q=> ?_
 obtain ⟨hf,m₄,H₄,l,w,q⟩:=q
 refine ⟨m₄,H₄,l,w,?_⟩
 rcases hf with rfl | rfl <;> exact q
theorem zRn {test body pos rest} {Q} (I:Nat → Loc → AH → Prop) (n:Nat) (h0:I n m H)
    (turn:∀ X n m H,I n m H → Tr (C.wX X) m H test fun b m₁ H₁=> (b = true → Ex (C.wX X) m₁ H₁ body fun fl m₂ H₂=> (fl = .next ∨ fl = .cont) ∧ ∃ k m₃ H₃,LocLe m₂ m₃ ∧ Weak H₂ H₃ ∧ k < n ∧ I k m₃ H₃) ∧ (b = false → Ex C m₁ H₁ rest Q)):Ex C m H (.While test body [] pos :: rest) Q:=by
 refine zKc I n h0 fun X n m H hI=> T.conseq (turn X n m H hI) fun b m₁ H₁ h=> ⟨fun e=> T.weak2 (h.1 e) fun fl m₂ H₂ q=> ?_,h.2⟩
 refine bc fun nn=> ?_
 obtain ⟨hf,k,m₃,H₃,l,w,hk,q⟩:=q
 refine nn ?_
 refine ⟨m₃,H₃,l,w,?_⟩
 rcases hf with rfl | rfl <;> exact ⟨k,hk,q⟩
theorem zX9 {B:Addr → Prop} {h:Heap}:∀ (l:List Nat) (vs:List Value),vs.length = l.length → (∀ (i k:Nat),l[i]? = some k → ∃ t,vs[i]? = some (Value.int (k:Int) t)) → IsL B h (nl l) vs:=by
 intro l
 induction l with
 | nil =>
  intro vs e _
  cases List.length_eq_zero_iff.mp e
  exact rfl
 | cons k l ih =>
 intro vs
 cases vs with
 | nil=> intro e;exact Nat.noConfusion e
 | cons v vs =>
  intro e hh
  obtain ⟨t,ht⟩:=hh 0 k rfl
  have hv:v = Value.int (k:Int) t:=Option.some.inj ht
  exact .cons ⟨t,hv⟩ (ih vs (Nat.succ.inj e) fun i k' hk=> hh (i + 1) k' hk)
theorem zKj {a:Addr} {n:Nat} {Q} (hm:(a,AObj.rng n) ∈ H) (hn:n ≤ 1000000) (q:∀ b,Q (.ref b) m ((b,.list (nl (List.range n))) :: H)):Call C m H (.con (.type "list")) [.ref a] Q:=by
 intro F s vs st i
 obtain ⟨f,r,rfl,hf,i⟩:=i
 obtain ⟨x,rfl,rfl⟩:=is1 i
 cases hf
 obtain ⟨t,u,v,e⟩:=st.objs _ hm
 have zz:=zNf (n:=(n:Int)) (by exact omz) (by lia)
 have h1:=zz.1
 have h2:=zz.2
 refine call_list_range (n:=n) st.ok.hh e h1 (by rw [h2]) (by exact omT) fun h' tk acc' c' k e' io=> ?_
 have il:IsL C.ban s.heap (nl (List.range n)) acc'.toList:=by
  refine zX9 _ _ (by rw [Array.length_toList,io.1,List.length_range]) fun i k' hk=> ?_
  obtain ⟨hi,e2⟩:=List.getElem?_eq_some_iff.mp hk
  rw [List.getElem_range] at e2
  subst e2
  rw [List.length_range] at hi
  have hi':i < acc'.size:=by rw [io.1];exact hi
  obtain ⟨t,ht⟩:=io.2 i acc'[i] (Array.getElem?_eq_getElem hi')
  refine ⟨t,?_⟩
  rw [Array.getElem?_toList,Array.getElem?_eq_getElem hi',ht]
  simp
 exact ⟨_,m,_,zB3,st.newList (tk:=tk) k e' il,Pres.keeps k,q _⟩
noncomputable def ndQ (nd:Node):V:=.tup (.str nd.1 :: nd.2.map fun k:Nat=> .int k)
noncomputable def prV (p:Nat × Nat):V:=.tup [.int p.1,.int p.2]
inductive FinH (nodes:List Node) (pairs:List (Nat × Nat)) (h:List Nat):Prop
 | mk (ok:HOk nodes.length h) (so:∀ s,zFp nodes s → Resp pairs s → RLe nodes.length (rH h) s) (re:Resp pairs (rH h)) (cl:zFp nodes (rH h))
theorem zSl (l:List (Nat × Nat)):voks 8 (l.map prV) = true:=voks_iff.mpr fun v hv=> by
 refine zAi hv fun x hx=> ?_
 rfl
inductive InvW (nodes:List Node) (pairs:List (Nat × Nat)) (no pa L:Addr) (H:AH) (k:Nat) (m':Loc) (H':AH):Prop
 | mk (D W:Addr) (lo hi:Option V) (h:List Nat) (ws:List (Nat × Nat)) (e1:m' = ([("nodes",.ref no),("pairs",.ref pa),("wishes",.ref W)]:Loc))
  (e2:H' = (W,.list (ws.map prV)) :: (D,.list (nl h)) :: (L + 3,.cell hi) :: (L + 2,.cell lo) :: (L + 1,.cell (some (.ref D))) :: H) (iv:HInv nodes pairs h ws k)
inductive InvF1 (no pa W L:Addr) (h:List Nat) (ws:List (Nat × Nat)) (H:AH) (i:Nat) (m':Loc) (H':AH):Prop
 | mk (D:Addr) (lo hi:Option V) (e1:m' = ([("nodes",.ref no),("pairs",.ref pa),("wishes",.ref W)]:Loc))
  (e2:H' = (W,.list (ws.map prV)) :: (D,.list (nl (zAy h (ws.take i)))) :: (L + 3,.cell hi) :: (L + 2,.cell lo) :: (L + 1,.cell (some (.ref D))) :: H)
theorem HInv.wz {nodes:List Node} {pairs:List (Nat × Nat)} {h:List Nat} {ws:List (Nat × Nat)} {k:Nat} (iv:HInv nodes pairs h ws k):ws.length ≤ 100:=by
 obtain ⟨_,_,wz,_,_,_,_⟩:=iv
 exact wz
inductive InvF2 (nodes:List Node) (no pa W kn D L:Addr) (lo hi:Option V) (h:List Nat) (H:AH) (i:Nat) (m':Loc) (H':AH):Prop
 | mk (e1:m' = ([("nodes",.ref no),("pairs",.ref pa),("wishes",.ref W),("firsts",.ref kn)]:Loc))
  (e2:H' = (W,.list ((passQ nodes h i).2.map prV)) :: (kn,.dictT (knO (passQ nodes h i).1)) :: (D,.list (nl h)) :: (L + 3,.cell hi) :: (L + 2,.cell lo) :: (L + 1,.cell (some (.ref D))) :: H)
inductive TkP (N:Nat) (h:List Nat) (ws:List (Nat × Nat)) (i:Nat) (p:Nat × Nat):Prop
 | mk (h1:List Nat) (e1:zAy h (ws.take i) = h1) (e2:zAy h (ws.take (i + 1)) = joinH h1 p.1 p.2) (ok:HOk N h1) (a1:p.1 < N) (a2:p.2 < N)
theorem HInv.take {nodes:List Node} {pairs:List (Nat × Nat)} {h:List Nat} {ws:List (Nat × Nat)} {k i:Nat} {p:Nat × Nat} (iv:HInv nodes pairs h ws k) (hp:ws[i]? = some p):TkP nodes.length h ws i p:=by
 refine bc fun nn=> ?_
 obtain ⟨ok,wl,wz,so,re,cl,ms⟩:=iv
 obtain ⟨a1,_,_,_,_⟩:=zCi (ws.take i) ok fun q hq=> wl q (List.mem_of_mem_take hq)
 refine nn ?_
 have z:=wl p (List.mem_of_getElem? hp)
 exact ⟨_,rfl,by rw [List.take_add_one,hp];exact zJz _ _ _,a1,z.1,z.2⟩
set_option maxHeartbeats 4000000 in
theorem zQl {no pa:Addr} {nodes:List Node} {pairs:List (Nat × Nat)} {Q} (nok:zJ5 nodes) (nd:nodes.Nodup) (hN:nodes.length ≤ 100) (hp:∀ p ∈ pairs,p.1 < nodes.length ∧ p.2 < nodes.length) (hz:pairs.length ≤ 100)
    (mn:(no,AObj.list (nodes.map ndQ)) ∈ H) (mp:(pa,AObj.list (pairs.map prV)) ∈ H) (hr:0 < C.n) (q:∀ D h,FinH nodes pairs h → Q (.ref D) m ((D,.list (nl h)) :: H)):Cd C m H (.ref 609) [.ref no,.ref pa] Q:=by
 refine zD2 ["nodes","pairs"] (fd609 _).h rfl (vl2 fun _ _=> rfl) rfl (fun _=> rfl) (fun _=> rfl) (fun _=> rfl) rfl hr fun L X=> ?_
 change Ex _ [("nodes",.ref no),("pairs",.ref pa)] ((L + 3,.cell none) :: (L + 2,.cell none) :: (L + 1,.cell none) :: H) _ _
 walk_at "w"
 refine zA2 (l:=nodes.map ndQ) (by walk_at "mm") (by exact omMap ‹_› rfl) ?_
 rw [List.length_map]
 walk_at "w"
 refine zC2 fun D1=> ?_
 walk_at "w"
 refine zKj (.head _) (by exact omT) fun ho=> ?_
 walk_at "w"
 refine zBw (l:=pairs.map prV) (by walk_at "mm") (by exact omMap ‹_› rfl) fun wi=> ?_
 walk_at "w"
 refine ⟨by exact om0 rfl,?_⟩
 refine zAl (a:=.ref ho) (b:=.ref wi) rfl ?_
 refine zCh (c:=L + 1) rfl rfl (by walk_at "mm") ?_
 walk_at "w"
 refine T.weakPre (H':=(wi,.list (pairs.map prV)) :: (ho,.list (nl (List.range nodes.length))) :: (L + 3,.cell none) :: (L + 2,.cell none) :: (L + 1,.cell (some (.ref ho))) :: H) (by walk_at "pk") ?_
 refine zRn (InvW nodes pairs no pa L H) (zA7 (List.range nodes.length) + 1) ⟨ho,wi,none,none,_,pairs,rfl,rfl,zP4 nd hp hz⟩ ?_
 rintro X k m' H' ⟨D,W,lo,hi,h,ws,rfl,rfl,iv⟩
 have iv2:=zQs nok hN hp iv
 have wz:=iv.wz
 walk_at "w"
 refine ⟨by exact om0 rfl,fun D1=> ?_⟩
 walk_at "w"
 refine zBe (l:=ws.map prV) (l':=[]) (.tail _ (.head _)) (.head _) (zSl ws) rfl ?_
 refine zA0 ⟨fun e=> ?_,fun e=> ?_⟩
 ·have wne:ws ≠ []:=fun z=> by rw [z] at e;simp at e
  walk_at "w"
  refine T.weakPre (H':=(W,.list (ws.map prV)) :: (D,.list (nl h)) :: (L + 3,.cell hi) :: (L + 2,.cell lo) :: (L + 1,.cell (some (.ref D))) :: H) (by walk_at "pk") ?_
  refine zRp ?_ (fun _=> rfl)
  walk_at "w"
  refine ⟨_,_,_,zD0 (a:=W) (xs:=ws.map prV) (by walk_at "mm"),InvF1 no pa W L h ws H,⟨D,lo,hi,rfl,rfl⟩,?_,?_,?_⟩
  ·rintro i m' H' ⟨_,_,_,_,rfl⟩
   exact .head _
  ·rintro X i x m' H' hx ⟨D',lo',hi',rfl,rfl⟩
   rw [List.getElem?_map] at hx
   refine zD8 hx fun p hpi=> ?_
   obtain ⟨h1,hj1,hj2,hok,hp1,hp2⟩:=iv.take hpi
   rw [hj1]
   have hl:=hok.len
   refine zAl (a:=.int p.1) (b:=.int p.2) rfl ?_
   walk_at "w"
   refine zA8 (by walk_at "mm") (by exact omz) (zCx (h:=h1) (by exact omM)) ?_ (by rw [zAq];exact omE)
   walk_at "w"
   refine zA8 (by walk_at "mm") (by exact omz) (zCx (h:=h1) (by exact omM)) ?_ (by rw [zAq];exact omE)
   walk_at "w"
   refine ⟨by exact om0 rfl,fun D1=> ?_⟩
   walk_at "w"
   refine zIa (ns:=[((rH h1 p.1:Nat):Int),((rH h1 p.2:Nat):Int)]) (.head _) (by exact om0 rfl) fun D2 ms pm sm=> ?_
   rw [zQ3 pm sm]
   refine zAl (a:=.int (min (rH h1 p.1) (rH h1 p.2):Nat)) (b:=.int (max (rH h1 p.1) (rH h1 p.2):Nat)) (.head _) ?_
   refine zCh (c:=L + 2) rfl rfl (by walk_at "mm") ?_
   refine zCh (c:=L + 3) rfl rfl (by walk_at "mm") ?_
   walk_at "w"
   refine zAe rfl (scOk rfl) ?_ (fun _=> rfl)
   walk_at "w"
   refine zEg (nl (joinH h1 p.1 p.2)) (zD0 (xs:=nl h1) (by walk_at "mm")) (by walk_at "mm") (by rw [zAq];exact omE) (by rw [zAq,zAq];unfold joinH;rw [List.length_map]) (fun L X i x y hx hy=> ?_) ?_
   ·unfold nl joinH at hy
    unfold nl at hx
    rw [List.getElem?_map] at hx
    refine zD8 hx fun k hk=> ?_
    rw [List.getElem?_map,List.getElem?_map,hk] at hy
    cases hy
    walk_at "w"
    refine zB5 ?_
    refine zA0 ⟨fun e=> ?_,fun e=> ?_⟩
    ·have e:k = max (rH h1 p.1) (rH h1 p.2):=by have:=of_decide_eq_true e;lia
     walk_at "w"
     exact ⟨by dsimp only;rw [if_pos e],Weak.refl _⟩
    ·have e:k ≠ max (rH h1 p.1) (rH h1 p.2):=by have:=of_decide_eq_false e;lia
     walk_at "w"
     exact ⟨by dsimp only;rw [if_neg e],Weak.refl _⟩
   intro D
   refine zCh (c:=L + 1) rfl rfl (by walk_at "mm") ?_
   walk_at "w"
   exact ⟨.inl rfl,[("nodes",.ref no),("pairs",.ref pa),("wishes",.ref W)],(W,.list (ws.map prV)) :: (D,.list (nl (joinH h1 p.1 p.2))) :: (L + 3,.cell (some (.int (max (rH h1 p.1) (rH h1 p.2):Nat)))) :: (L + 2,.cell (some (.int (min (rH h1 p.1) (rH h1 p.2):Nat)))) :: (L + 1,.cell (some (.ref D))) :: H,(.add (by with_unfolding_all exact rfl) (.add (by with_unfolding_all exact rfl) (.add (by with_unfolding_all exact rfl) .nil))),by walk_at "pk",D,_,_,rfl,by rw [hj2]⟩
  ·rintro m' H' ⟨D',lo',hi',rfl,rfl⟩
   rw [List.length_map,List.take_length]
   generalize hfj:zAy h ws = h' at *
   refine zEo ?_ rfl rfl
   walk_at "w"
   refine zKf fun kn=> ?_
   walk_at "w"
   refine ⟨by exact om0 rfl,fun W2=> ?_⟩
   walk_at "w"
   refine ⟨by exact om0 rfl,?_⟩
   refine ⟨_,_,rfl,?_⟩
   walk_at "w"
   refine T.weakPre (H':=(W2,.list []) :: (kn,.dictT []) :: (D',.list (nl h')) :: (L + 3,.cell hi') :: (L + 2,.cell lo') :: (L + 1,.cell (some (.ref D'))) :: H) (by walk_at "pk") ?_
   refine zRp ?_ (fun _=> rfl)
   walk_at "w"
   refine zJ7 (a:=no) (xs:=nodes.map ndQ) (by walk_at "mm") fun e it=> ?_
   have hok:HOk nodes.length h':=by obtain ⟨z,_,_,_,_,_,_⟩:=iv2;exact z
   have hl:=hok.len
   refine ⟨_,_,_,zJ4 (xs:=nodes.map ndQ),InvF2 nodes no pa W2 kn D' L lo' hi' h' H,⟨rfl,rfl⟩,?_,?_,?_⟩
   ·rintro i m' H' ⟨_,rfl⟩
    walk_at "mm"
   ·rintro X i x m' H' hx ⟨rfl,rfl⟩
    obtain ⟨y,hy,rfl⟩:=zHt hx
    rw [List.getElem?_map] at hy
    refine zD8 hy fun nd hnd=> ?_
    have hi:i < nodes.length:=(List.getElem?_eq_some_iff.mp hnd).1
    have iv:=zH3 (nodes:=nodes) (h:=h') i (Nat.le_of_lt hi)
    have e1:=zIx nodes h' i
    generalize passQ nodes h' i = st at *
    obtain ⟨k1,w1⟩:=st
    dsimp only
    have kz1:k1.length ≤ i:=iv.kz
    have wz1:w1.length ≤ i:=iv.wz
    have zz:=nok nd (List.mem_of_getElem? hnd)
    have nk1:=zz.1
    have nk2:=zz.2
    refine zAl (a:=.int i) (b:=ndQ nd) rfl ?_
    walk_at "w"
    refine ⟨_,zE6 (by walk_at "mm"),?_⟩
    walk_at "w"
    refine zA4 (l:=.str nd.1 :: nd.2.map fun k:Nat=> .int k) (by lia) (by simp;exact omT) rfl ?_
    walk_at "w"
    refine ⟨by exact om0 rfl,?_⟩
    walk_at "w"
    refine zAe rfl (scOk rfl) ?_ (fun _=> rfl)
    walk_at "w"
    refine zG5 (l:=.str nd.1 :: nd.2.map fun k:Nat=> .int k) (a:=1) (by exact om0 rfl) (by exact om0 rfl) (by simp;exact omT) ?_
    refine zBk (homeF h') (xs:=nd.2.map fun k:Nat=> .int k) zBg trivial (by exact omMap ‹_› rfl) (fun L X x hx=> ?_) ?_
    ·refine zAi hx fun k hk'=> ?_
     have:=nk2 k hk'
     walk_at "w"
     refine ⟨fun _=> ?_,fun e=> bx e⟩
     walk_at "w"
     refine zA8 (by walk_at "mm") (by exact omz) (zCx (h:=h') (by exact omM)) ?_ (by rw [zAq];exact omE)
     exact ⟨rfl,Weak.refl _⟩
    rw [zLc]
    intro D2
    walk_at "w"
    refine zBl (.head _) (by rw [zAq,List.length_map];exact omT) ?_
    walk_at "w"
    refine zId (by rw [zAq,List.length_map];simp;lia) ?_
    walk_at "w"
    have hk:V.str nd.1 :: nl (nd.2.map (rH h')) = (Node.key (nd.1,nd.2.map (rH h'))).map Atom.v:=zHf (nd.1,nd.2.map (rH h'))
    have hst1:stepQ nodes h' (k1,w1) i = match dget (nd.1,nd.2.map (rH h')) k1 with
     | some o=> if rH h' o = rH h' i then (k1,w1) else (k1,w1 ++ [(o,i)])
     | none=> (k1 ++ [((nd.1,nd.2.map (rH h')),i)],w1):=by unfold stepQ;dsimp only;rw [zCv hnd];all_goals (cases dget ((nd.1,nd.2.map (rH h')):Node) k1 <;> rfl)
    cases hd:dget ((nd.1,nd.2.map (rH h')):Node) k1 with
    | some o =>
     rw [hd] at hst1
     dsimp only at hst1
     have ho:o < nodes.length:=(iv.kn _ (zC5 hd)).1
     refine zCk (by walk_at "mm") hk (by rw [zJp,hd];rfl) (by unfold knO;simp;lia) ?_
     walk_at "w"
     refine zA8 (by walk_at "mm") (by exact omz) (zCx (h:=h') (i:=o) (by exact omM)) ?_ (by rw [zAq];exact omE)
     walk_at "w"
     refine zA8 (by walk_at "mm") (by exact omz) (zCx (h:=h') (i:=i) (by exact omM)) ?_ (by rw [zAq];exact omE)
     walk_at "w"
     refine zAh ?_
     refine zA0 ⟨fun e=> ?_,fun e=> ?_⟩
     ·have hne:rH h' o ≠ rH h' i:=fun z=> by rw [z] at e;simp at e
      rw [if_neg hne] at hst1
      walk_at "w"
      refine ⟨_,zAm (by walk_at "mm"),?_⟩
      walk_at "w"
      refine ⟨by exact om0 rfl,?_⟩
      walk_at "w"
      refine zAn (by walk_at "mm") (by simp;lia) ?_
      walk_at "w"
      refine ⟨.inl rfl,[("nodes",.ref no),("pairs",.ref pa),("wishes",.ref W2),("firsts",.ref kn)],(W2,.list (w1.map prV ++ [.tup [.int o,.int i]])) :: (kn,.dictT (knO k1)) :: (D',.list (nl h')) :: (L + 3,.cell hi') :: (L + 2,.cell lo') :: (L + 1,.cell (some (.ref D'))) :: H,(.add (by with_unfolding_all exact rfl) (.add (by with_unfolding_all exact rfl) (.add (by with_unfolding_all exact rfl) (.add (by with_unfolding_all exact rfl) .nil)))),by walk_at "pk",rfl,?_⟩
      rw [e1,hst1,List.map_append];rfl
     ·have he:rH h' o = rH h' i:=by
        rw [Bool.not_eq_false'] at e
        exact Int.ofNat_inj.mp (of_decide_eq_true e)
      rw [if_pos he] at hst1
      walk_at "w"
      refine ⟨.inl rfl,[("nodes",.ref no),("pairs",.ref pa),("wishes",.ref W2),("firsts",.ref kn)],(W2,.list (w1.map prV)) :: (kn,.dictT (knO k1)) :: (D',.list (nl h')) :: (L + 3,.cell hi') :: (L + 2,.cell lo') :: (L + 1,.cell (some (.ref D'))) :: H,(.add (by with_unfolding_all exact rfl) (.add (by with_unfolding_all exact rfl) (.add (by with_unfolding_all exact rfl) (.add (by with_unfolding_all exact rfl) .nil)))),by walk_at "pk",rfl,?_⟩
      rw [e1,hst1]
    | none =>
     rw [hd] at hst1
     dsimp only at hst1
     refine zD3 (by walk_at "mm") hk (by rw [zJp,hd];rfl) (by unfold knO;simp;lia) ?_
     rw [zQn hd]
     walk_at "w"
     refine zA8 (by walk_at "mm") (by exact omz) (zCx (h:=h') (i:=i) (by exact omM)) ?_ (by rw [zAq];exact omE)
     walk_at "w"
     refine zA8 (by walk_at "mm") (by exact omz) (zCx (h:=h') (i:=i) (by exact omM)) ?_ (by rw [zAq];exact omE)
     walk_at "w"
     refine zAh ?_
     refine zA0 ⟨fun e=> by simp at e,fun e=> ?_⟩
     walk_at "w"
     refine ⟨.inl rfl,[("nodes",.ref no),("pairs",.ref pa),("wishes",.ref W2),("firsts",.ref kn)],(W2,.list (w1.map prV)) :: (kn,.dictT (knO (k1 ++ [((nd.1,nd.2.map (rH h')),i)]))) :: (D',.list (nl h')) :: (L + 3,.cell hi') :: (L + 2,.cell lo') :: (L + 1,.cell (some (.ref D'))) :: H,(.add (by with_unfolding_all exact rfl) (.add (by with_unfolding_all exact rfl) (.add (by with_unfolding_all exact rfl) (.add (by with_unfolding_all exact rfl) .nil)))),by walk_at "pk",rfl,?_⟩
     rw [e1,hst1]
   ·rintro m' H' ⟨rfl,rfl⟩
    rw [zEa,List.length_map]
    walk_at "w"
    obtain ⟨_,_,_,_,_,_,ms⟩:=iv
    exact ⟨.inl rfl,zA7 h',[("nodes",.ref no),("pairs",.ref pa),("wishes",.ref W2)],(W2,.list ((passQ nodes h' nodes.length).2.map prV)) :: (D',.list (nl h')) :: (L + 3,.cell hi') :: (L + 2,.cell lo') :: (L + 1,.cell (some (.ref D'))) :: H,(.add (by with_unfolding_all exact rfl) (.add (by with_unfolding_all exact rfl) (.add (by with_unfolding_all exact rfl) .nil))),by walk_at "pk",(by rw [← hfj];exact ms wne),D',W2,lo',hi',h',_,rfl,rfl,iv2⟩
 ·have we:ws = []:=by
    have e:ws.map prV = []:=by simpa using e
    exact List.map_eq_nil_iff.mp e
  subst we
  obtain ⟨ok,wl,_,so,re,cl,ms⟩:=iv
  walk_at "w"
  exact ⟨_,by walk_at "pk",q D h ⟨ok,fun s cs r=> (so s cs r).1,re,cl rfl⟩⟩
end
section
variable {C:Cx} {m:Loc} {H:AH}
theorem zPq {x:Row} (hz:RowZ x):(∀ w ∈ x.words,w.length ≤ 100) ∧ x.words.length ≤ 25:=by
 cases x with
 | add nd =>
  obtain ⟨h1,h2,h3⟩:=hz.add nd rfl
  refine ⟨fun w hw=> ?_,?_⟩
  ·rcases List.mem_cons.mp hw with rfl | hw
   ·decide
   rcases List.mem_cons.mp hw with rfl | hw
   ·exact h1
   refine zAi hw fun k hk=> ?_
   have:=zAx k (h3 k hk)
   exact omT
  ·show (zCg nd).length ≤ 25
   unfold zCg
   simp only [List.length_cons,List.length_map]
   with_reducible exact omAA (by walk_at "a") (by walk_at "r")
 | told a b l =>
  obtain ⟨h1,h2,h3⟩:=hz.told a b l rfl
  have e1:=zAx a h1
  have e2:=zAx b h2
  refine ⟨fun w hw=> ?_,by show (zAg a b l).length ≤ 25;simp [zAg]⟩
  have hw:w ∈ zAg a b l:=hw
  simp only [zAg,List.mem_cons,List.not_mem_nil,or_false] at hw
  rcases hw with rfl | rfl | rfl | rfl | rfl
  ·decide
  ·exact omT
  ·exact omT
  ·decide
  ·exact h3
 | rule a b l ps =>
  obtain ⟨h1,h2,h3,h4,h5⟩:=hz.rule a b l ps rfl
  have e1:=zAx a h1
  have e2:=zAx b h2
  refine ⟨fun w hw=> ?_,?_⟩
  ·have hw:w ∈ (["same",numT a,numT b,"rule",l]:List Str) ++ ps.flatMap fun p=> [p.1,numT p.2]:=hw
   rcases List.mem_append.mp hw with hw | hw
   ·simp only [List.mem_cons,List.not_mem_nil,or_false] at hw
    rcases hw with rfl | rfl | rfl | rfl | rfl
    ·decide
    ·exact omT
    ·exact omT
    ·decide
    ·exact h3
   ·obtain ⟨p,hp,hw⟩:=List.mem_flatMap.mp hw
    have zz:=h5 p hp
    have z1:=zz.1
    have z2:=zz.2
    have z3:=zAx p.2 z2
    simp only [List.mem_cons,List.not_mem_nil,or_false] at hw
    rcases hw with rfl | rfl
    ·exact z1
    ·exact omT
  ·show (_ ++ _:List Str).length ≤ 25
   rw [List.length_append,List.length_flatMap]
   show 5 + (ps.map fun _=> 2).sum ≤ 25
   rw [List.map_const',List.sum_replicate_nat];lia
 | settle=> exact ⟨fun w hw=> by rw [List.mem_singleton.mp hw];decide,by decide⟩
theorem zNo {b:Nat}:∀ {ws:List Str},(∀ w ∈ ws,w.length ≤ b) → (Str.join " " ws).length ≤ (b + 1) * ws.length
 | [],_=> Nat.zero_le _
 | [x],h=> by
  have:=h x (.head _)
  show x.length ≤ _
  simp only [List.length_cons,List.length_nil]
  lia
 | x :: y :: r,h=> by
  have h1:=h x (.head _)
  have ih:=zNo (ws:=y :: r) fun w hw=> h w (.tail _ hw)
  show (x ++ " " ++ Str.join " " (y :: r)).length ≤ _
  rw [strLen_append,strLen_append,List.length_cons (a:=x),Nat.mul_succ]
  have:Str.length " " = 1:=rfl
  lia
theorem zSc {b:Nat} {x:Row} (hz:RowZ x) (h:∀ w ∈ x.words,w.length ≤ b):x.text.length ≤ (b + 1) * 25:=by
 rw [zFr]
 exact Nat.le_trans (zNo h) (Nat.mul_le_mul_left _ (zPq hz).2)
end
structure StAt (H:AH) (st sd:Addr) (r:WrA) (σ:Hs):Prop where
 st:(st,AObj.inst 567 sd [("heap",.ref r.w)]) ∈ H
 h:HAt H r σ.nodes σ.par
 ed:(r.ed,AObj.list σ.edges) ∈ H
 wa:(r.wa,AObj.list (nl σ.waiting)) ∈ H
 ro:(r.ro,AObj.list σ.rows) ∈ H
theorem HAt.mono {H H':AH} {r:WrA} {nodes:List Node} {par:List Nat} (h:HAt H r nodes par) (s:∀ x ∈ H,x ∈ H'):HAt H' r nodes par:=⟨s _ h.w,s _ h.bk,s _ h.nl,s _ h.un,s _ h.ab⟩
theorem StAt.mono {H H':AH} {st sd:Addr} {r:WrA} {σ:Hs} (h:StAt H st sd r σ) (s:∀ x ∈ H,x ∈ H'):StAt H' st sd r σ:=⟨s _ h.st,h.h.mono s,s _ h.ed,s _ h.wa,s _ h.ro⟩
theorem StAt.of {st sd:Addr} {r:WrA} {σ:Hs} {j:Jk} {K:AH}:StAt (StH st sd r σ j K) st sd r σ:=⟨.head _,HAt.of.cons,by walk_at "mm",by walk_at "mm",by walk_at "mm"⟩
theorem StAt.cons {H:AH} {st sd:Addr} {r:WrA} {σ:Hs} (h:StAt H st sd r σ) (p:Addr × AObj):StAt (p :: H) st sd r σ:=h.mono fun _=> .tail _
theorem zV0 {st sd:Addr} {r:WrA} {σ:Hs} {j:Jk} {K:AH}:∀ x ∈ K,x ∈ StH st sd r σ j K:=fun x hx=> by
 have h2:x ∈ j.abv.map avO ++ K:=List.mem_append_right _ hx
 have h3:x ∈ j.lots.map lotO ++ (j.abv.map avO ++ K):=List.mem_append_right _ h2
 walk_at "mm"
structure RowGood (x:Row):Prop where
 z:RowZ x
 p:RowP x
 v:vok 8 x.v = true
 s:∀ w ∈ x.words,w.length ≤ 60
theorem RowGood.len {x:Row} (h:RowGood x):x.text.length ≤ 2000:=Nat.le_trans (zSc h.z h.s) (by decide)
theorem zUz {rows:List Row} (hz:∀ x ∈ rows,RowGood x) (hl:rows.length ≤ 1000):((rows.map fun x:Row=> x.text ++ ("\n":Str)).map (·.length)).sum + (rows.map fun x:Row=> x.text ++ ("\n":Str)).length * Str.length "" ≤ 16777216:=by
 have:=zNe (f:=fun x:Str=> x.length) (b:=2001) (l:=rows.map fun x:Row=> x.text ++ ("\n":Str)) fun y hy=> by
  refine zAi hy fun row h1=> ?_
  have:=(hz row h1).len
  show (row.text ++ ("\n":Str)).length ≤ _
  rw [strLen_append]
  have:Str.length "\n" = 1:=rfl
  exact omA
 have e:Str.length "" = 0:=rfl
 rw [e]
 rw [List.length_map] at this ⊢
 lia
section
variable {C:Cx} {m:Loc} {H:AH}
theorem zDs {st sd:Addr} {r:WrA} {σ:Hs} {Q} (h:StAt H st sd r σ) (hz:σ.rows.length ≤ 1000) (hr:0 < C.n) (q:∀ b,Q (.ref b) m ((b,.list σ.rows) :: H)):Cd C m H (.ref 538) [.ref st] Q:=by
 refine zAo ["self"] (fd538 _).h rfl (vl1 fun _=> rfl) rfl rfl (by assumption) fun L X=> ?_
 walk_at "w"
 refine zA5 h.st rfl zAw ?_
 refine zA5 h.h.w rfl zAr ?_
 walk_at "w"
 refine zBw h.ro (by exact omT) fun b=> ?_
 exact ⟨_,Weak.refl _,q b⟩
theorem zFa {st sd:Addr} {r:WrA} {σ:Hs} {rows:List Row} {Q} (h:StAt H st sd r σ) (hrow:σ.rows = rows.map Row.v) (hz:∀ x ∈ rows,RowGood x) (hl:rows.length ≤ 1000) (hr:1 < C.n) (q:Q (.str (zAp rows)) m H):Cd C m H (.ref 543) [.ref st] Q:=by
 refine zAo ["self"] (fd543 _).h rfl (vl1 fun _=> rfl) rfl rfl (by exact omB) fun L X=> ?_
 walk_at "w"
 refine ⟨_,zFg,?_⟩
 refine zO4 ?_ rfl
 refine zAe rfl (scOk rfl) ?_ (fun _=> rfl)
 walk_at "w"
 refine zA5 h.st rfl zAw ?_
 refine zA5 h.h.w rfl zAr ?_
 refine zEg ((rows.map fun x:Row=> x.text ++ ("\n":Str)).map V.str) (zD0 (xs:=σ.rows) h.ro) h.ro (by rw [hrow];exact omMap ‹_› rfl) (by rw [hrow];simp) (fun L X i x y hx hy=> ?_) ?_
 ·rw [hrow,List.getElem?_map] at hx
  refine zD8 hx fun row h1=> ?_
  rw [List.getElem?_map,List.getElem?_map,h1] at hy
  cases hy
  have g:=hz row (List.mem_of_getElem? h1)
  have z2:=g.len
  walk_at "w"
  refine Cd.call (zM9 g.z (by show 0 < C.n - 1;exact omR) ?_)
  walk_at "w"
  refine zWq (by have:Str.length "\n" = 1:=rfl;exact omA) ?_
  exact ⟨rfl,Weak.refl _⟩
 intro D
 walk_at "w"
 refine zFq (ys:=rows.map fun x:Row=> x.text ++ ("\n":Str)) (.head _) (zUz hz hl) ?_
 exact ⟨_,by walk_at "mm",q⟩
theorem zXb:nsIn (KK C.w) mainGlobals "min" = some none:=by kernel_rfl
theorem zS2 {a b:Int} {Q} (q:Q (.int (if b < a then b else a)) m H):Call C m H (.con (.builtin "min")) [.int a,.int b] Q:=by
 intro F s vs st i
 refine IsL.el i fun f r hf i=> ?_
 refine zAj i fun u v q0 q1=> ?_
 obtain ⟨t,rfl⟩:=q0
 obtain ⟨t2,rfl⟩:=q1
 cases hf
 refine min_two_ints st.ok.hh fun h' tk kk=> ?_
 refine ⟨.int _,m,H,?_,st.keeps (tk:=tk) kk,Pres.keeps kk,q⟩
 split
 ·exact zCn
 ·exact zCn
theorem zN2 {v:V} {Q} (hv:vok 8 v = true) (q:Q (.bool false) m H):Cmp C m H .NotEq v v Q:=by
 intro F s vs st i
 refine zAj i fun u w iu iw=> ?_
 obtain ⟨as,ra⟩:=iu.reads 8 hv
 obtain ⟨bs,rb⟩:=iw.reads 8 hv
 have od:=zJc 8 v hv
 have e1:=kqd_eqv 8 v.dat v.dat 8 od od
 have la:=kqd_lay 8 v.dat od
 have sh:SeqAt.shaped (kqdP v.dat) = true:=by
  unfold SeqAt.shaped;rw [la.1,Bool.true_and];exact decide_eq_true (Nat.le_trans la.2 (by decide))
 refine ne_dataH ra rb sh sh (by have:=st.unit;lia) (fin st zBd ?_)
 rw [e1.mpr rfl];exact q
theorem zPk {np:Pos} {e:Expr} {r:List Expr} {pos:Pos} {Q} (h:EvL C m H pos (e :: r) (kArgs C (.con (.builtin "min")) Q)) (hk:C.env.kindOf "min" = some .globalImplicit)
    (h1:starEach (e :: r) C.env = (false,eval e C.env) :: starEach r C.env) (h2:(backTo pos (starEach r C.env)).any (·.1) = false):Ev C m H (.Call (.Name "min" np) (e :: r) [] pos) Q :=
 zO3 zXb rfl (by decide) trivial hk h h1 h2 (by decide)
theorem zMw {st sd st2 sd2:Addr} {r r2:WrA} {σ σ2:Hs} {Q} (h1:StAt H st sd r σ) (h2:StAt H st2 sd2 r2 σ2) (e:σ2.rows = σ.rows) (hv:voks 8 σ.rows = true) (hz:σ.rows.length ≤ 1000) (hr:1 < C.n) (q:Q (.int (-1)) m H):Cd C m H (.ref 564) [.ref st,.ref st2] Q:=by
 refine zAo ["self","other"] (fd564 _).h rfl (vl2 fun _ _=> rfl) rfl rfl (by exact omB) fun L X=> ?_
 refine zEo ?_ rfl rfl
 walk_at "w"
 refine ⟨_,zA1 h1.st zCo rfl,?_⟩
 walk_at "w"
 refine Cd.call (zDs h1 hz (by show 0 < C.n - 1;exact omR) fun D1=> ?_)
 walk_at "w"
 refine ⟨_,zA1 (h2.cons _).st zCo rfl,?_⟩
 walk_at "w"
 refine Cd.call (zDs (h2.cons _) (by rw [e];exact hz) (by show 0 < C.n - 1;exact omR) fun D2=> ?_)
 rw [e]
 walk_at "w"
 refine ⟨by exact om0 rfl,?_⟩
 refine ⟨_,_,rfl,?_⟩
 walk_at "w"
 refine zKd ?_ (fun _=> rfl)
 walk_at "w"
 refine zA2 (l:=σ.rows) (by walk_at "mm") (by exact omT) ?_
 walk_at "w"
 refine zA2 (l:=σ.rows) (by walk_at "mm") (by exact omT) ?_
 walk_at "w"
 refine zS2 ?_
 rw [ite_self]
 walk_at "w"
 refine zC2 fun D3=> ?_
 refine ⟨_,_,_,zCc (.head _) (by exact omT),trivial,fun X x hx=> ?_,?_⟩
 ·refine zAi hx fun k hk=> ?_
  have hk:=List.mem_range.mp hk
  walk_at "w"
  refine zA8 (l:=σ.rows) (by walk_at "mm") (by exact omz) (x:=σ.rows[k]) (by rw [Int.toNat_natCast,List.getElem?_eq_getElem hk]) ?_ (by exact omT)
  walk_at "w"
  refine zA8 (l:=σ.rows) (by walk_at "mm") (by exact omz) (x:=σ.rows[k]) (by rw [Int.toNat_natCast,List.getElem?_eq_getElem hk]) ?_ (by exact omT)
  walk_at "w"
  refine zN2 (voks_iff.mp hv _ (List.getElem_mem hk)) ?_
  refine zA0 ⟨fun e=> bx e,fun _=> ?_⟩
  walk_at "w"
  exact ⟨.inl rfl,by walk_at "mm",by walk_at "mm"⟩
 ·walk_at "w"
  refine zA2 (l:=σ.rows) (by walk_at "mm") (by exact omT) ?_
  walk_at "w"
  refine zA2 (l:=σ.rows) (by walk_at "mm") (by exact omT) ?_
  walk_at "w"
  refine zB5 ?_
  rw [decide_eq_true rfl]
  refine zA0 ⟨fun _=> ?_,fun e=> bx e⟩
  walk_at "w"
  refine zO0 ?_
  exact ⟨_,by walk_at "mm",q⟩
end
theorem zM4:Txt.split "settle" " " = (["settle"]:List Str):=zF0 (c:=32) (ws:=["settle"]) (by exact List.cons_ne_nil _ _) fun w hw=> by
 rw [List.mem_singleton.mp hw];decide +kernel
theorem zFc {n:Nat} {w:World} {x:Row} (hn:3 < n) (g:RowGood x) (hp:∀ a b l ps,x = .rule a b l ps → ∃ many,zEn many ps):zLq n w x:=by
 intro C' m' H' k Q' e1 e2 q
 have ts:=zOc g.p
 have wz:=(zPq g.z).2
 cases x with
 | add nd=> exact zOj g.z ts g.len (by with_reducible exact omN (by walk_at "a") (by walk_at "a") (by walk_at "r")) q
 | settle=> exact zJg zM4 (by with_reducible exact omN (by walk_at "a") (by walk_at "a") (by walk_at "r")) q
 | told a b l=> exact zH0 (x:=.told a b l) (rest:=[numT a,numT b,"told",l]) rfl (by exact om0 rfl) ts g.len (fun C₂ m₂ H₂ W Q₂ e3 e4 hm q₂=> zKp g.z hm (by with_reducible exact omNN (by walk_at "a") (by walk_at "a") (by walk_at "a") (by walk_at "r")) q₂) (by with_reducible exact omN (by walk_at "a") (by walk_at "a") (by walk_at "r")) q
 | rule a b l ps =>
  obtain ⟨many,hps⟩:=hp a b l ps rfl
  exact zH0 (x:=.rule a b l ps) (rest:=([numT a,numT b,"rule",l]:List Str) ++ ps.flatMap fun p=> [p.1,numT p.2]) rfl (by exact omT) ts g.len (fun C₂ m₂ H₂ W Q₂ e3 e4 hm q₂=> zKq g.z hps hm (by with_reducible exact omNN (by walk_at "a") (by walk_at "a") (by walk_at "a") (by walk_at "r")) q₂) (by with_reducible exact omN (by walk_at "a") (by walk_at "a") (by walk_at "r")) q
theorem zSe {n:Nat} {w:World} {nodes:List Node} {rows:List V} {nd:Node} (hn:6 < n) (hb:Built nodes) (hx:zE0 nd.1 = true) (hnew:nd ∉ nodes) (hk:∀ k ∈ nd.2,k < nodes.length) (hkl:nd.2.length ≤ 4) (hz:nodes.length ≤ 18) (hrz:rows.length ≤ 1000) :
    zI5 n w (zAd nodes rows) (.add nd) (zAd (nodes ++ [nd]) (rows ++ [zC7 nd])):=by
 intro C' m' st sd r j K Q' e1 e2 jo q
 exact zLp hb jo hx hnew hk hkl hz hrz (by with_reducible exact omN (by walk_at "a") (by walk_at "a") (by walk_at "r")) q
theorem zQ1 {n:Nat} {w:World} {σ:Hs} {a b:Nat} {reason:V} {x:Row} (hn:5 < n) (e:x.v = zAf a b reason) (ok:HsOk σ) (hez:σ.edges.length ≤ 900) (hrz:σ.rows.length ≤ 1000) (ha:a < σ.nodes.length) (hb:b < σ.nodes.length) (hre:zDt σ.nodes.length reason) :
    zI5 n w σ x (joinS { σ with rows:=σ.rows ++ [zAf a b reason] } a b reason):=by
 intro C' m' st sd r j K Q' e1 e2 jo q
 rw [e]
 exact zKa ok jo hez hrz ha hb hre (by with_reducible exact omN (by walk_at "a") (by walk_at "a") (by walk_at "r")) q
theorem zM7 {n:Nat} {w:World} {σ τ:Hs} {k:Nat} (hn:6 < n) (ok:HsOk σ) (hw:σ.waiting ≠ []) (hrz:σ.rows.length ≤ 1000) (run:Runs { σ with rows:=σ.rows ++ [.tup [.str "settle"]] } k τ) (hez:σ.edges.length + zA7 σ.par ≤ 900) (hkz:σ.known.length + k ≤ 900000) :
    zI5 n w σ .settle τ:=by
 intro C' m' st sd r j K Q' e1 e2 jo q
 exact zI4 ok jo hrz (by rw [if_neg hw];exact run) hez hkz (by with_reducible exact omN (by walk_at "a") (by walk_at "a") (by walk_at "r")) fun j' _ hj=> q j' hj
structure zJ3 (n:Nat) (w:World) (rows:List Row) (σ:Hs):Prop where
 ex:∃ σs:Nat → Hs,σs 0 = zAd [] [] ∧ σs rows.length = σ ∧ (∀ i,i ≤ rows.length → (σs i).rows.length = i) ∧ ∀ i x,rows[i]? = some x → zI5 n w (σs i) x (σs (i + 1))
 good:∀ x ∈ rows,RowGood x ∧ zLq n w x
 vs:σ.rows = rows.map Row.v
theorem zO7 {n:Nat} {w:World}:zJ3 n w [] (zAd [] []):=⟨⟨fun _=> zAd [] [],rfl,rfl,fun i hi=> by
 have:i = 0:=Nat.le_zero.mp hi
 subst this;rfl,fun i x h=> by exact nS h⟩,fun x h=> (by exact nM h),rfl⟩
theorem zEy {n:Nat} {w:World} {rows:List Row} {σ τ:Hs} {x:Row} (h:zJ3 n w rows σ) (s:zI5 n w σ x τ) (g:RowGood x) (rd:zLq n w x) (e:τ.rows = σ.rows ++ [x.v]):zJ3 n w (rows ++ [x]) τ:=by
 refine bc fun nn=> ?_
 obtain ⟨⟨σs,h0,h1,h2,h3⟩,hg,hv⟩:=h
 refine nn ?_
 refine ⟨⟨fun i=> if i ≤ rows.length then σs i else τ,?_,?_,fun i hi=> ?_,fun i y hy=> ?_⟩,fun y hy=> ?_,?_⟩
 ·show (if 0 ≤ rows.length then σs 0 else τ) = _
  rw [if_pos (Nat.zero_le _)];exact h0
 ·show (if (rows ++ [x]).length ≤ rows.length then σs (rows ++ [x]).length else τ) = τ
  rw [if_neg (by rw [List.length_append,List.length_singleton];lia)]
 ·show (if i ≤ rows.length then σs i else τ).rows.length = i
  by_cases q:i ≤ rows.length
  ·rw [if_pos q];exact h2 i q
  ·rw [if_neg q,e,hv]
   rw [List.length_append,List.length_singleton] at hi
   simp;lia
 ·show zI5 n w (if i ≤ rows.length then σs i else τ) y (if i + 1 ≤ rows.length then σs (i + 1) else τ)
  by_cases q:i < rows.length
  ·rw [List.getElem?_append_left q] at hy
   rw [if_pos (Nat.le_of_lt q),if_pos (Nat.succ_le_of_lt q)]
   exact h3 i y hy
  ·rw [List.getElem?_append_right (by with_reducible exact Nat.le_of_not_lt (by walk_at "a"))] at hy
   have hi:i = rows.length:=by
    have:=(List.getElem?_eq_some_iff.mp hy).1
    rw [List.length_singleton] at this;lia
   subst hi
   rw [Nat.sub_self] at hy
   cases hy
   rw [if_pos (Nat.le_refl _),if_neg (by lia),h1]
   exact s
 ·rcases List.mem_append.mp hy with hy | hy
  ·exact hg y hy
  ·rw [List.mem_singleton.mp hy];exact ⟨g,rd⟩
 ·rw [e,hv,List.map_append];rfl
section
variable {C:Cx} {m:Loc} {H:AH}
theorem zMa {rows:List Row} {σ:Hs} {Q} (h:zJ3 (C.n - 1) C.w rows σ) (hl:rows.length ≤ 400) (hr:7 < C.n) (q:∀ st sd r j,JOk σ j → Q (.ref st) m (StH st sd r σ j H)):Cd C m H (.ref 578) [.str (zAp rows)] Q:=by
 refine bc fun nn=> ?_
 obtain ⟨⟨σs,h0,h1,h2,h3⟩,hg,hv⟩:=h
 refine nn ?_
 have hz:(zAp rows).length ≤ 1000000:=by
  unfold zAp
  have e:∀ l:List Str,(Str.join "" l).length = (l.map (·.length)).sum:=by
   intro l
   induction l with
   | nil=> rfl
   | cons a r ih=> cases r with
    | nil=> show a.length = a.length + 0;lia
    | cons b r =>
     rw [List.map_cons,List.sum_cons,← ih]
     show (a ++ "" ++ Str.join "" (b :: r)).length = _
     rw [strLen_append,strLen_append]
     have:Str.length "" = 0:=rfl
     lia
  rw [e]
  have:=zNe (f:=fun x:Str=> x.length) (b:=2001) (l:=rows.map fun x:Row=> x.text ++ ("\n":Str)) fun y hy=> by
   refine zAi hy fun row h1=> ?_
   have:=(hg row h1).1.len
   show (row.text ++ ("\n":Str)).length ≤ _
   rw [strLen_append]
   have:Str.length "\n" = 1:=rfl
   exact omA
  rw [List.length_map] at this
  lia
 exact zV3 (σs:=σs) hz (by exact omT) h0 zQ0 (zM5 fun x hx=> (hg x hx).1.p) h2 (fun x hx=> (hg x hx).2) h3 hr (by rw [h1];exact q)
end
noncomputable def zHl:List Str:=["a","b","f","g"]
theorem zGn:∀ l ∈ zHl,zE0 l = true ∧ ascii l = true ∧ plain l = true ∧ l.length ≤ 60:=by decide +kernel
theorem zLa (n:Nat):∀ l:List Nat,voks n (l.map fun k:Nat=> V.int k) = true:=fun l=> voks_iff.mpr fun v hv=> by
 refine zAi hv fun k _=> ?_
 cases n <;> rfl
theorem zDn {n:Nat} {l:List V} (h:∀ x ∈ l,vok n x = true):vok (n + 1) (.tup l) = true:=by
 show voks n l = true
 exact voks_iff.mpr h
theorem zM2 {n:Nat} {k:Int}:vok n (.int k) = true:=by cases n <;> rfl
theorem zDb {n:Nat} {x:Str} (h:PyData.strOk x = true):vok n (.str x) = true:=by cases n <;> exact h
theorem zPr {n:Nat} {p:Str × Nat} (h:ascii p.1 = true):vok (n + 1) (zAu p) = true:=zDn fun x hx=> by
 rcases List.mem_cons.mp hx with rfl | hx
 ·exact zDb (zCb h)
 ·rw [List.mem_singleton.mp hx];exact zM2
theorem zN6 {l:Str} (h:ascii l = true):vok 7 (toldR l) = true:=zDn fun x hx=> by
 rcases List.mem_cons.mp hx with rfl | hx
 ·exact zDb (by decide +kernel)
 ·rw [List.mem_singleton.mp hx];exact zDb (zCb h)
theorem zN8 {l:Str} {ps:List (Str × Nat)} (h:ascii l = true) (hp:∀ p ∈ ps,ascii p.1 = true):vok 7 (ruleR l ps) = true:=zDn fun x hx=> by
 rcases List.mem_cons.mp hx with rfl | hx
 ·exact zDb (by decide +kernel)
 rcases List.mem_cons.mp hx with rfl | hx
 ·exact zDb (zCb h)
 rw [List.mem_singleton.mp hx]
 refine zDn fun y hy=> ?_
 refine zAi hy fun p h1=> ?_
 exact zPr (hp p h1)
theorem zN7 {a b:Nat} {v:V} (h:vok 7 v = true):vok 8 (zAf a b v) = true:=zDn fun x hx=> by
 rcases List.mem_cons.mp hx with rfl | hx
 ·exact zDb (by decide +kernel)
 rcases List.mem_cons.mp hx with rfl | hx
 ·exact zM2
 rcases List.mem_cons.mp hx with rfl | hx
 ·exact zM2
 rw [List.mem_singleton.mp hx];exact h
theorem zUv {nd:Node} (h:ascii nd.1 = true):vok 8 (zC7 nd) = true:=zDn fun x hx=> by
 rcases List.mem_cons.mp hx with rfl | hx
 ·exact zDb (by decide +kernel)
 rcases List.mem_cons.mp hx with rfl | hx
 ·exact zDb (zCb h)
 rw [List.mem_singleton.mp hx]
 exact zDn fun y hy=> voks_iff.mp (zLa 6 nd.2) y hy
theorem zT2 {nd:Node} (h:nd.1 ∈ zHl) (hk:∀ k ∈ nd.2,k < 19) (hl:nd.2.length ≤ 4):RowGood (.add nd):=by
 obtain ⟨w1,w2,w3,w4⟩:=zGn _ h
 refine ⟨⟨fun x e=> ?_,fun a b l e=> (by cases e),fun a b l ps e=> (by cases e)⟩,⟨fun x e=> ?_,fun a b l e=> (by cases e),fun a b l ps e=> (by cases e)⟩,zUv w2,fun w hw=> ?_⟩
 ·cases e;exact ⟨by exact omT,by exact omT,fun k hk'=> by have:=hk k hk';exact omTl⟩
 ·cases e;exact ⟨w3,fun k hk'=> by have:=hk k hk';exact omTl⟩
 ·rcases List.mem_cons.mp hw with rfl | hw
  ·decide
  rcases List.mem_cons.mp hw with rfl | hw
  ·exact w4
  refine zAi hw fun k hk'=> ?_
  have:=zAx k (by have:=hk k hk';exact omTl)
  exact omT
theorem zHq:RowGood .settle:=⟨⟨fun x e=> (by cases e),fun a b l e=> (by cases e),fun a b l ps e=> (by cases e)⟩,⟨fun x e=> (by cases e),fun a b l e=> (by cases e),fun a b l ps e=> (by cases e)⟩,
 zDn fun x hx=> by rw [List.mem_singleton.mp hx];exact zDb (by decide +kernel),fun w hw=> by rw [List.mem_singleton.mp hw];decide⟩
theorem zQu {a b:Nat} {l:Str} (ha:a < 19) (hb:b < 19) (h:zD4 l = true ∧ plain l = true ∧ l.length ≤ 60):RowGood (.told a b l):=by
 obtain ⟨w1,w2,w3⟩:=h
 refine ⟨⟨fun x e=> (by cases e),fun a b l e=> ?_,fun a b l ps e=> (by cases e)⟩,⟨fun x e=> (by cases e),fun a b l e=> ?_,fun a b l ps e=> (by cases e)⟩,zN7 (zN6 (zB6 w1).1),fun w hw=> ?_⟩
 ·cases e;exact ⟨by exact omTl,by exact omTl,by exact omT⟩
 ·cases e;exact ⟨by exact omTl,by exact omTl,w2⟩
 ·have e1:=zAx a (by exact omTl)
  have e2:=zAx b (by exact omTl)
  have hw:w ∈ zAg a b l:=hw
  simp only [zAg,List.mem_cons,List.not_mem_nil,or_false] at hw
  rcases hw with rfl | rfl | rfl | rfl | rfl
  ·decide
  ·exact omT
  ·exact omT
  ·decide
  ·exact w3
theorem zQv {a b many:Nat} {l:Str} {ps:List (Str × Nat)} (ha:a < 19) (hb:b < 19) (hm:many ≤ 19) (h:zD4 l = true ∧ plain l = true ∧ l.length ≤ 60) (hp:zEn many ps) (hn:∀ p ∈ ps,plain p.1 = true ∧ p.1.length ≤ 60):RowGood (.rule a b l ps):=by
 obtain ⟨w1,w2,w3⟩:=h
 have hk:∀ p ∈ ps,p.2 < 19:=fun p h=> by have:=(hp.ok p h).2;with_reducible exact omCl (by walk_at "a") (by walk_at "a") (by walk_at "r")
 refine ⟨⟨fun x e=> (by cases e),fun a b l e=> (by cases e),fun a b l ps e=> ?_⟩,⟨fun x e=> (by cases e),fun a b l e=> (by cases e),fun a b l ps e=> ?_⟩,zN7 (zN8 (zB6 w1).1 fun p h=> ?_),fun w hw=> ?_⟩
 ·cases e;exact ⟨by exact omTl,by exact omTl,by exact omT,hp.len,fun p h=> ⟨by have:=(hn p h).2;exact omT,by have:=hk p h;exact omTl⟩⟩
 ·cases e;exact ⟨by exact omTl,by exact omTl,w2,fun p h=> ⟨(hn p h).1,by have:=hk p h;exact omTl⟩⟩
 ·have:=(hp.ok p h).1
  unfold zEu at this
  rw [Bool.and_eq_true] at this
  exact (zB6 this.1).1
 ·have e1:=zAx a (by exact omTl)
  have e2:=zAx b (by exact omTl)
  have hw:w ∈ (["same",numT a,numT b,"rule",l]:List Str) ++ ps.flatMap fun p=> [p.1,numT p.2]:=hw
  rcases List.mem_append.mp hw with hw | hw
  ·simp only [List.mem_cons,List.not_mem_nil,or_false] at hw
   rcases hw with rfl | rfl | rfl | rfl | rfl
   ·decide
   ·exact omT
   ·exact omT
   ·decide
   ·exact w3
  ·obtain ⟨p,h1,hw⟩:=List.mem_flatMap.mp hw
   have:=zAx p.2 (by have:=hk p h1;exact omTl)
   simp only [List.mem_cons,List.not_mem_nil,or_false] at hw
   rcases hw with rfl | rfl
   ·exact (hn p h1).2
   ·exact omT
inductive LwR (a b:Nat) (v:V):Prop
 | mk (x:Row) (h1:x.v = zAf a b v) (g:RowGood x) (rd:∀ n w,3 < n → zLq n w x) (ed:zO5 (edgeV a b v))
theorem zV9 {a b many:Nat} {v:V} (ha:a < many) (hb:b < many) (hm:many ≤ 19) (h:LawReason many v):LwR a b v:=by
 have ha:a < 19:=Nat.lt_of_lt_of_le ha hm
 have hb:b < 19:=Nat.lt_of_lt_of_le hb hm
 cases h with
 | @told l hl =>
  have g:=zQu (a:=a) (b:=b) ha hb (zBz l hl)
  exact ⟨.told a b l,rfl,g,fun n w hn=> zFc hn g fun _ _ _ _ q=> (by cases q),⟨⟨a,b,"told",[.str l],rfl,by exact om0 rfl⟩,zJb (zN6 (zB6 (zBz l hl).1).1)⟩⟩
 | @rule l ps hl po hn =>
  have hn:∀ p ∈ ps,plain p.1 = true ∧ p.1.length ≤ 60:=fun p h=> (zEi _ (hn p h)).2
  have g:=zQv (a:=a) (b:=b) ha hb hm (zBz l hl) po hn
  refine ⟨.rule a b l ps,rfl,g,fun n w hn=> zFc hn g fun _ _ _ _ q=> ⟨many,by cases q;exact po⟩,⟨⟨a,b,"rule",[.str l,.tup (ps.map zAu)],rfl,by exact om0 rfl⟩,zJb (zN8 (zB6 (zBz l hl).1).1 fun p h=> ?_)⟩⟩
  have:=(po.ok p h).1
  unfold zEu at this
  rw [Bool.and_eq_true] at this
  exact (zB6 this.1).1
theorem zI1 {nodes:List Node} (h:Built nodes):nodes.Nodup:=by
 induction h with
 | nil=> exact List.nodup_nil
 | @snoc nodes nd hb hn _ _ _ ih =>
  refine List.nodup_append.mpr ⟨ih,by simp,fun x hx y hy e=> hn ?_⟩
  rw [← List.mem_singleton.mp hy,← e];exact hx
theorem zUt {nodes:List Node} (nd:nodes.Nodup) {n:Nat} {x:Node} (h:nodes[n]? = some x):dget x nodes.zipIdx = some n:=by
 refine zBy ?_ (List.mem_zipIdx_iff_getElem?.mpr h)
 have:nodes.zipIdx.map (·.1) = nodes:=List.zipIdx_map_fst 0 nodes
 rw [this];exact nd
theorem zPt {nodes:List Node} {c n:Nat}:n ∈ users nodes c ↔ ∃ nd,nodes[n]? = some nd ∧ c ∈ nd.2:=by
 unfold users
 rw [List.mem_filterMap]
 constructor
 ·rintro ⟨⟨nd,i⟩,hp,e⟩
  dsimp only at e
  split at e
  ·rename_i hc
   cases e
   exact ⟨nd,List.mem_zipIdx_iff_getElem?.mp hp,hc⟩
  ·exact nS e
 ·rintro ⟨nd,h1,h2⟩
  exact ⟨(nd,n),List.mem_zipIdx_iff_getElem?.mpr h1,if_pos h2⟩
theorem zQx {nodes:List Node} {rows:List V} (h:Built nodes):Inv (zAd nodes rows):=by
 refine ⟨fun p hp=> ⟨p.1,List.mem_zipIdx_iff_getElem?.mp hp,rfl,rfl⟩,fun n hn=> .inr ?_,fun c hc _ n=> ?_⟩
 ·obtain ⟨nd,hnd⟩:=zF4 (nodes:=nodes) hn
  refine ⟨n,?_,rfl⟩
  have e:keyOf (zAd nodes rows) n = nd:=by
   refine (zCv (r:=root (List.range nodes.length)) hnd).trans ?_
   have:nd.2.map (root (List.range nodes.length)) = nd.2.map id:=List.map_congr_left fun k _=> zCq _ k
   rw [this,List.map_id]
  rw [e]
  exact zUt (zI1 h) hnd
 ·have hc:c < nodes.length:=hc
  have e:dgetN (zA9 nodes) c = users nodes c:=by
   unfold dgetN
   have:dget c (zA9 nodes) = some (users nodes c):=zBy (by rw [zBj];exact List.nodup_range) (by unfold zA9;exact List.mem_map.mpr ⟨c,List.mem_range.mpr hc,rfl⟩)
   rw [this];rfl
  show n ∈ dgetN (zA9 nodes) c ↔ ∃ nd,nodes[n]? = some nd ∧ ∃ k ∈ nd.2,root (List.range nodes.length) k = c
  rw [e,zPt]
  constructor
  ·rintro ⟨nd,h1,h2⟩;exact ⟨nd,h1,c,h2,zCq _ c⟩
  ·rintro ⟨nd,h1,k,h2,h3⟩
   rw [zCq] at h3
   exact ⟨nd,h1,h3 ▸ h2⟩
theorem HsOk.rows {σ:Hs} (h:HsOk σ) (rows:List V):HsOk { σ with rows:=rows }:=⟨h.nz,h.nok,h.pl,h.pok,h.kn,h.kr,h.us,h.az,h.wl,h.ul,h.kl⟩
theorem Inv.rows {σ:Hs} (h:Inv σ) (rows:List V):Inv { σ with rows:=rows }:=⟨h.kn,h.cov,h.ab⟩
theorem zWw {σ τ:Hs} {k:Nat} (run:Runs σ k τ):HsOk σ → τ.edges.length + zA7 τ.par = σ.edges.length + zA7 σ.par:=by
 induction run with
 | done _=> exact fun _=> rfl
 | @step σ τ n x w hw _ ih =>
  intro h
  have h1:HsOk { σ with waiting:=w }:=⟨h.nz,h.nok,h.pl,h.pok,h.kn,h.kr,h.us,h.az,fun n hn=> h.wl n (by rw [hw];exact List.mem_append_left _ hn),h.ul,h.kl⟩
  have hx:x < σ.nodes.length:=h.wl x (by rw [hw];exact List.mem_append_right _ (.head _))
  exact (ih (zMe h hw).2).trans (zNn h1 hx)
theorem zQc (par:List Nat):zA7 par ≤ par.length:=by
 unfold zA7
 exact Nat.le_trans List.countP_le_length (by rw [List.length_range];exact Nat.le_refl _)
noncomputable def zC0 (σ:Hs) (rows:List Row):List Row:=if σ.waiting = [] then rows else rows ++ [.settle]
theorem zKl {n:Nat} {w:World} {nodes:List Node} (hn:6 < n) (h:Built nodes) (ho:∀ x ∈ nodes,x.1 ∈ zHl) (hz:nodes.length ≤ 19):zJ3 n w (nodes.map Row.add) (zAd nodes (nodes.map zC7)):=by
 induction h with
 | nil=> exact zO7
 | @snoc nodes nd hb hnd hx hl hk ih =>
  rw [List.length_append,List.length_singleton] at hz
  have ih:=ih (fun x hx=> ho x (List.mem_append_left _ hx)) (by exact omV8 ‹_›)
  have g:=zT2 (nd:=nd) (ho nd (by exact List.mem_append_right _ (.head _))) (fun k hk'=> by have:=hk k hk';lia) hl
  rw [List.map_append,List.map_append]
  exact zEy ih (zSe hn hb hx hnd hk hl (by lia) (by simp;lia)) g (zFc (by exact omB) g fun _ _ _ _ q=> (by cases q)) rfl
theorem zQ7 {σ τ:Hs} {k:Nat} (run:Runs σ k τ):τ.known.length ≤ σ.known.length + k:=by
 induction run with
 | done _=> exact Nat.le_refl _
 | @step σ τ n x w hw _ ih =>
  have:=zHi (σ:={ σ with waiting:=w }) (n:=x)
  dsimp only at this
  lia
structure Fr (n:Nat) (w:World) (nodes:List Node) (rows:List Row) (pairs:List (Nat × Nat)) (σ:Hs):Prop where
 ok:HsOk σ
 iv:Inv σ
 nd:σ.nodes = nodes
 wk:zJ3 n w rows σ
 ed:∀ e ∈ σ.edges,zO5 e
 pl:∀ p ∈ pairs,p.1 < nodes.length ∧ p.2 < nodes.length
 re:Resp pairs (root σ.par)
 so:∀ s,zFp nodes s → Resp pairs s → RLe nodes.length (root σ.par) s
theorem zT3 {n:Nat} {w:World} {nodes:List Node} (hn:6 < n) (h:Built nodes) (ho:∀ x ∈ nodes,x.1 ∈ zHl) (hz:nodes.length ≤ 19):Fr n w nodes (nodes.map Row.add) [] (zAd nodes (nodes.map zC7)) :=
 ⟨zNt h hz,zQx h,rfl,zKl hn h ho hz,fun e he=> (by exact nM he),fun p hp=> (by exact nM hp),fun p hp=> (by exact nM hp),fun s _ _ i j _ _ e=> by
  have e:root (List.range nodes.length) i = root (List.range nodes.length) j:=e
  rw [zCq,zCq] at e;rw [e]⟩
inductive MgS (n:Nat) (w:World) (nodes:List Node) (rows:List Row) (pairs:List (Nat × Nat)) (σ:Hs) (a b:Nat) (v:V) (τ:Hs):Prop
 | mk (x:Row) (h1:x.v = zAf a b v) (g:RowGood x) (f:Fr n w nodes (rows ++ [x]) (pairs ++ [(a,b)]) τ) (ed:τ.edges = σ.edges ++ [edgeV a b v]) (ev:vok 8 (edgeV a b v) = true) (nr:zA7 τ.par ≤ zA7 σ.par) (kn:τ.known = σ.known)
theorem zOu {n:Nat} {w:World} {nodes:List Node} {rows:List Row} {pairs:List (Nat × Nat)} {σ:Hs} {a b:Nat} {v:V} (hn:6 < n) (f:Fr n w nodes rows pairs σ) (hez:σ.edges.length ≤ 800) (hrz:rows.length ≤ 300) (ha:a < nodes.length) (hb:b < nodes.length) (hre:LawReason nodes.length v) :
    MgS n w nodes rows pairs σ a b v (joinS { σ with rows:=σ.rows ++ [zAf a b v] } a b v):=by
 refine bc fun nn=> ?_
 obtain ⟨ok,iv,nd,wk,ed,pl,re,so⟩:=f
 subst nd
 obtain ⟨x,x1,x2,x3,x4⟩:=zV9 ha hb ok.nz hre
 have hroot:=zEl (reason:=v) (ok.rows (σ.rows ++ [zAf a b v])) ha hb
 have hroot:root (joinS { σ with rows:=σ.rows ++ [zAf a b v] } a b v).par = jn (root σ.par) a b:=hroot
 obtain ⟨j1,j2,j3,j4⟩:=zCw { σ with rows:=σ.rows ++ [zAf a b v] } a b v
 refine nn ?_
 have rp:=zJh ok.pok
 rw [ok.pl] at rp
 have rl:σ.rows.length ≤ 1000:=by rw [wk.vs,List.length_map];exact omT
 refine ⟨x,x1,x2,⟨zJs (ok.rows _) ha hb,?_,j1,?_,?_,fun p hp=> ?_,fun p hp=> ?_,fun s cs r=> ?_⟩,j4,x4.v,?_,j2⟩
 ·by_cases e:root σ.par a = root σ.par b
  ·have:joinS { σ with rows:=σ.rows ++ [zAf a b v] } a b v = { σ with rows:=σ.rows ++ [zAf a b v],edges:=σ.edges ++ [edgeV a b v] }:=by unfold joinS;rw [if_pos e]
   rw [this]
   exact ⟨iv.kn,iv.cov,iv.ab⟩
  ·exact zL9 (ok.rows _) ha hb e iv.kn (fun n hn=> (iv.cov n hn).imp id fun ⟨o,h1,h2⟩=> ⟨o,h1,.inl h2⟩) iv.ab
 ·exact zEy wk (zQ1 (by exact omB) x1 ok (by exact omT) rl ha hb hre.ok) x2 (x3 n w (by exact omB)) (by rw [j3,x1])
 ·rw [j4]
  intro e he
  rcases List.mem_append.mp he with he | he
  ·exact ed e he
  ·rw [List.mem_singleton.mp he];exact x4
 ·rcases List.mem_append.mp hp with hp | hp
  ·exact pl p hp
  ·rw [List.mem_singleton.mp hp];exact ⟨ha,hb⟩
 ·rw [hroot]
  rcases List.mem_append.mp hp with hp | hp
  ·exact jn_le (N:=σ.nodes.length) a b _ _ (pl p hp).1 (pl p hp).2 (re p hp)
  ·rw [List.mem_singleton.mp hp];exact zJv _ _ _
 ·rw [hroot]
  exact zJu rp (so s cs fun p hp=> r p (List.mem_append_left _ hp)) (r (a,b) (by exact List.mem_append_right _ (.head _))) ha hb
 ·by_cases e:root σ.par a = root σ.par b
  ·have:joinS { σ with rows:=σ.rows ++ [zAf a b v] } a b v = { σ with rows:=σ.rows ++ [zAf a b v],edges:=σ.edges ++ [edgeV a b v] }:=by unfold joinS;rw [if_pos e]
   rw [this]
   exact Nat.le_refl _
  ·have en:=zJt (reason:=v) (ok.rows (σ.rows ++ [zAf a b v])) ha hb e
   rw [j4,List.length_append] at en
   have en:σ.edges.length + 1 + zA7 (joinS { σ with rows:=σ.rows ++ [zAf a b v] } a b v).par = σ.edges.length + zA7 σ.par:=en
   omega
inductive StS (n:Nat) (w:World) (nodes:List Node) (rows:List Row) (pairs:List (Nat × Nat)) (σ σ':Hs):Prop
 | mk (k:Nat) (τ:Hs) (run:Runs σ' k τ) (kz:k ≤ 20000) (f:Fr n w nodes (zC0 σ rows) pairs τ) (wt:τ.waiting = []) (en:τ.edges.length + zA7 τ.par = σ.edges.length + zA7 σ.par) (kn:τ.known.length ≤ σ.known.length + 20000)
theorem zGx {n:Nat} {w:World} {nodes:List Node} {rows:List Row} {pairs:List (Nat × Nat)} {σ:Hs} (hn:6 < n) (f:Fr n w nodes rows pairs σ) (hez:σ.edges.length ≤ 800) (hrz:rows.length ≤ 300) (hwz:σ.waiting.length ≤ 10000) (hkz:σ.known.length ≤ 500000) :
    StS n w nodes rows pairs σ { σ with rows:=if σ.waiting = [] then σ.rows else σ.rows ++ [.tup [.str "settle"]] }:=by
 refine bc fun nn=> ?_
 obtain ⟨ok,iv,nd,wk,ed,pl,re,so⟩:=f
 subst nd
 have hnr:=zQc σ.par
 rw [ok.pl] at hnr
 have nz:=ok.nz
 have rl:σ.rows.length ≤ 1000:=by rw [wk.vs,List.length_map];exact omT
 obtain ⟨k,τ,hk,run⟩:=zWv 20000 (σ:={ σ with rows:=if σ.waiting = [] then σ.rows else σ.rows ++ [.tup [.str "settle"]] }) (ok.rows _) (by show σ.waiting.length + 101 * zA7 σ.par ≤ _;lia)
 obtain ⟨b0,b1,b2,b3,b4,b5,b6,b7,b8⟩:=zV2 run (ok.rows _) (iv.rows _)
 refine nn ?_
 have en:=zWw run (ok.rows _)
 have kn:=zQ7 run
 have en:τ.edges.length + zA7 τ.par = σ.edges.length + zA7 σ.par:=en
 have kn:τ.known.length ≤ σ.known.length + k:=kn
 refine ⟨k,τ,run,hk,⟨b0,b1,b3,?_,b8 ed,pl,fun p hp=> b5 _ _ (pl p hp).1 (pl p hp).2 (re p hp),fun s cs r=> b6 s cs (so s cs r)⟩,b2,en,by lia⟩
 unfold zC0
 by_cases e:σ.waiting = []
 ·rw [if_pos e]
  rw [if_pos e] at run
  have:τ = σ:=by
   cases run with
   | done _=> rfl
   | step q _ =>
    have q:σ.waiting = _:=q
    rw [e] at q
    exact absurd (congrArg List.length q) (by simp)
  rw [this];exact wk
 ·rw [if_neg e]
  rw [if_neg e] at run b4
  exact zEy wk (zM7 hn ok e rl run (by lia) (by lia)) zHq (zFc (by exact omB) zHq fun _ _ _ _ q=> (by cases q)) b4
theorem zSh {n:Nat} {w:World} {nodes:List Node} {rows:List Row} {pairs:List (Nat × Nat)} {τ:Hs} {h:List Nat} (f:Fr n w nodes rows pairs τ) (wt:τ.waiting = []) (fh:FinH nodes pairs h):zDy τ = h:=by
 obtain ⟨ok,iv,nd,wk,ed,pl,re,so⟩:=f
 subst nd
 obtain ⟨hok,hso,hre,hcl⟩:=fh
 have ct:=zOi iv wt
 have rp:=zJh ok.pok
 rw [ok.pl] at rp
 have key:=zOl hok.rep rp (hso _ ct re) (so _ hcl hre)
 have hl:=hok.len
 unfold zDy
 refine List.ext_getElem (by rw [List.length_map,List.length_range,hl]) fun i h1 h2=> ?_
 rw [List.getElem_map,List.getElem_range]
 have:=rH_in h2
 rw [List.getElem?_eq_getElem h2] at this
 rw [Option.some.inj this]
 exact (key i (by exact omL ‹_› ‹_›)).symm
section
variable {C:Cx} {F:Addr → Option Obj} {m:Loc} {H:AH} {s:Shared}
theorem zQz {M:Model} {A:Around} {E:Value → Shared → Prop} {s:Shared} {scope:Scope} {g:Addr} {cl:List (Str × Addr)} {qual:Str} {outer:Env} {Q:Env → Shared → Prop}
    (hQ:Q { scope,locals:=s.heap.objs.size,globals:=g,cells:=cellsFrom (s.heap.objs.size + 1) scope.names cl,qual,func:=none,code:=outer.code,frame:=outer.frame,builtins:=outer.builtins } { s with heap:=pushCells (s.heap.push { cls:=.type "dict",data:=.dict #[] }) scope.names }) :
    wpAny M A (newFunctionEnv scope g cl [] qual none .none (some outer)) Q E s:=by
 simp only [newFunctionEnv,Option.isSome_some,if_true]
 refine wpAny_bind (wpAny_alloc ?_)
 refine wpAny_bind (wpAny_layCells _ (fun name kind cells=> by cases hkc:kind == NameKind.cell <;> simp [hkc]) _ _ _ _ ?_)
 rw [show ({ s with heap:=s.heap.push { cls:=.type "dict",data:=.dict #[] } }:Shared).heap.objs.size = s.heap.objs.size + 1 from Heap.size_push ..]
 refine wpAny_bind ?_
 rw [List.forIn_nil]
 exact wpAny_pure (wpAny_pure hQ)
theorem StB.cell (st:StB C F m H s) {h':Heap} {tk:Nat} {M:Addr} (k:∀ b o,s.heap.get? b = some o → h'.get? b = some o) (hM:s.heap.get? M = none) (hc:h'.get? M = some { cls:=.type "cell",data:=.cell none }) :
    StB C F m ((M,.cell none) :: H) { s with heap:=h',toks:=tk }:=by
 have x:=st.keeps (tk:=tk) k
 have nM:=st.newApart hM
 refine ⟨x.ok,x.gens,x.os,x.base,x.raw,x.fr,fun p hp=> ?_,?_,fun a ha=> ?_,fun p hp=> ⟨(x.ups p hp).1,(x.ups p hp).2.1,fun hm=> ?_⟩⟩
 ·rcases List.mem_cons.mp hp with rfl | hp
  ·exact ⟨_,none,hc,rfl,trivial⟩
  ·exact x.objs p hp
 ·have nd:=List.nodup_cons.mp st.nodup
  show (C.L :: M :: zA3 H).Nodup
  refine List.nodup_cons.mpr ⟨fun hm=> ?_,List.nodup_cons.mpr ⟨fun hm=> nM.1 (.tail _ hm),nd.2⟩⟩
  rcases List.mem_cons.mp hm with q | hm
  ·exact nM.1 (q ▸ .head _)
  ·exact nd.1 hm
 ·have ha:a = C.L ∨ a = M ∨ a ∈ zA3 H:=by
    rcases List.mem_cons.mp ha with h | h
    ·exact .inl h
    ·exact .inr (List.mem_cons.mp h)
  rcases ha with rfl | rfl | ha
  ·exact st.fresh _ (.head _)
  ·exact nM.2.1
  ·exact st.fresh _ (.tail _ ha)
 ·have hm:p.1 = C.L ∨ p.1 = M ∨ p.1 ∈ zA3 H:=by
    rcases List.mem_cons.mp hm with h | h
    ·exact .inl h
    ·exact .inr (List.mem_cons.mp h)
  rcases hm with e | e | hm
  ·exact (st.ups p hp).2.2 (e ▸ .head _)
  ·exact nM.2.2 p.2 (e ▸ hp)
  ·exact (st.ups p hp).2.2 (.tail _ hm)
inductive zXp (C:Cx) (target:Expr) (ifs:List Expr) (elt:Expr) (scope:Scope) (c:Str) (cl:List (Str × Addr)) (v:V) (H₁:AH) (Q:List V → AH → Prop):Prop
 | mk (xs:List V) (src:AH → Prop) (H₁':AH) (wk:Walk C target H₁ v src xs H₁') (hz:xs.length ≤ 16000000) (I:Addr → Nat → List V → AH → Prop) (h0:∀ M,I M 0 [] ((M,.cell none) :: H₁')) (hs:∀ M i acc H,I M i acc H → src H)
  (turn:∀ M L X i x acc H,xs[i]? = some x → I M i acc H → Asg (C.inComp scope ((c,M) :: cl) L X) [] H target x fun _ m₁ H₁=> TrL (C.inComp scope ((c,M) :: cl) L X) m₁ H₁ ifs fun b m₂ H₂ =>
   (b = true → Ev (C.inComp scope ((c,M) :: cl) L X) m₂ H₂ elt fun v _ H₃=> I M (i + 1) (acc ++ [v]) H₃) ∧ (b = false → I M (i + 1) acc H₂))
  (fin:∀ M acc H,I M xs.length acc H → Q acc H)
@[reducible] noncomputable def zX4 (C:Cx) (target:Expr) (ifs:List Expr) (elt:Expr) (scope:Scope) (c:Str) (cl:List (Str × Addr)) (Q:V → Loc → AH → Prop):V → Loc → AH → Prop:=fun v m H=> zXp C target ifs elt scope c cl v H (zUk Q m)
structure ScOkC (scope:Scope) (c:Str) (cl:List (Str × Addr)):Prop where
 kind:scope.kind = .function
 names:∀ x ∈ scope.names,x.2 = .local → scope.names.lookup x.1 = some .local
 cf:∀ n,cellsFrom n scope.names cl = (c,n) :: cl
 pc:∀ h,pushCells h scope.names = h.push { cls:=.type "cell",data:=.cell none }
theorem zLu {elt target iter:Expr} {ifs:List Expr} {scope:Scope} {c:Str} {cl:List (Str × Addr)} {pos:Pos} {Q}
    (hclos:closureFor scope C.env = pure cl) (ok:ScOkC scope c cl)
    (h:Ev C m H iter (zX4 C target ifs elt scope c cl Q))
    (hs:∀ x,foldedSetIterable iter C.env x = pure x:=by intro _;rfl):Ev C m H (.ListComp elt [⟨target,iter,ifs,0⟩] scope pos) Q:=by
 intro F s vs st i
 show wpAny C.M C.A (eval _ C.env) _ _ _
 rw [eval_ListComp]
 refine wpAny_comprehension_free (use:=none) rfl hs hclos ok.kind ok.names (andThen (h F s [] st rfl) fun v s₁ a m₁ H₁ i₁ st₁ p₁ h₁=> ?_)
 obtain ⟨xs,src,H₁',wk,hlen,I,h0,hsrc,turn,fin⟩:=h₁
 refine wk F m₁ s₁ v _ _ st₁ i₁ fun it wr K s₂ itr st₂ ap k0 p₂=> ?_
 refine wpAny_newObj_type (zQz ?_)
 dsimp only
 rw [ok.cf,ok.pc]
 generalize hH2:s₂.heap.push { cls:=.type "list",dict:=none,data:=.seq ([]:List Value).toArray } = H2
 have hL:H2.objs.size = s₂.heap.objs.size + 1:=by rw [← hH2,Heap.size_push]
 generalize hh:(H2.push { cls:=.type "dict",data:=.dict #[] }).push { cls:=.type "cell",data:=.cell none } = h₁
 have hsz:(H2.push { cls:=.type "dict",data:=.dict #[] }).objs.size = H2.objs.size + 1:=Heap.size_push ..
 have keep2:∀ b o,H2.get? b = some o → h₁.get? b = some o:=fun b o e=> by rw [← hh];exact Heap.get?_push_of_some _ (Heap.get?_push_of_some _ e)
 have old:∀ b o,s₂.heap.get? b = some o → h₁.get? b = some o:=fun b o e=> keep2 b o (by rw [← hH2];exact Heap.get?_push_of_some _ e)
 have hDn:s₂.heap.get? s₂.heap.objs.size = none:=zAa (Nat.le_refl _)
 have hLn:s₂.heap.get? H2.objs.size = none:=zAa (by rw [hL];exact Nat.le_succ _)
 have hMn:s₂.heap.get? (H2.objs.size + 1) = none:=zAa (by rw [hL];exact Nat.le_add_right _ 2)
 have nD:=st₂.b.newApart hDn
 have nL:=st₂.b.newApart hLn
 have st1:=st₂.b.cell (tk:=s₂.toks) (h':=h₁) old hMn (by rw [← hh,← hsz];exact Heap.get?_push_size _ rfl)
 have hDL:s₂.heap.objs.size ≠ H2.objs.size:=by rw [hL];exact Nat.ne_of_lt (Nat.lt_succ_self _)
 have own:∀ {b:Addr},b ≠ H2.objs.size + 1 → b ∉ C.L :: zA3 H₁' → b ∉ C.L :: zA3 ((H2.objs.size + 1,AObj.cell none) :: H₁'):=fun hb n hm=> by
  rcases List.mem_cons.mp hm with q | hm
  ·exact n (q ▸ .head _)
  ·rcases List.mem_cons.mp (show _ ∈ (H2.objs.size + 1) :: zA3 H₁' from hm) with q | hm
   ·exact hb q
   ·exact n (.tail _ hm)
 refine zJ1 (RR:=fun acc L=> compPost C.M C.A (C.X F) none (Post C F s Is Q) acc L) (cl:=(c,H2.objs.size + 1) :: cl) (L:=H2.objs.size) (D:=s₂.heap.objs.size) st₂.b (fun a ha=> Nat.le_of_lt (Nat.lt_of_lt_of_le (st₂.bls ha) (by rw [hL];exact Nat.le_succ _))) itr
  ⟨fun b hb=> own (fun q=> ?_) (ap.own b hb),ap.old⟩ k0 hlen ok.kind old st1 hDn hLn hDL ⟨own (by rw [hL];exact Nat.ne_of_lt (Nat.lt_succ_of_lt (Nat.lt_succ_self _))) nD.1,nD.2⟩ ⟨own (Nat.ne_of_lt (Nat.lt_succ_self _)) nL.1,nL.2⟩ ?_ ⟨_,keep2 _ _ (by rw [← hH2];exact Heap.get?_push_size _ rfl)⟩ (I (H2.objs.size + 1)) (h0 _) (hsrc _) (turn _) fun s' acc H' hI hn apL hst=> ?_
 ·obtain ⟨o,e⟩:=itr.there _ _ k0 b hb
  rw [q,hMn] at e;exact nS e
 ·exact (Heap.Ns.new H2 (.type "dict")).keeps fun b o e=> by rw [← hh];exact Heap.get?_push_of_some _ e
 ·obtain ⟨f,hn⟩:=hn
  refine ⟨f,hn,fun h' sb=> ?_⟩
  have zz:=hst h' sb
  have st':=zz.1
  have p':=zz.2
  have st':=st'.st st.bl
  exact ⟨.ref _,m₁,(_,.list acc) :: H',zB3,st',p₁.trans (p₂.trans p'),fin _ acc H' hI _⟩
end
noncomputable abbrev Cx.first (C:Cx) (env:Env) (X:(Addr → Option Obj) → Value → Shared → Prop):Cx:={ C with A:=C.A.deeper env,env:=env,n:=C.n - 1,X:=X,up:=[] }
theorem FrOk.first {C:Cx} {env:Env} {X} (h:C.A.frames = some []) (hk:env.scope.kind ≠ .module) (hf:env.frame = some env.locals):FrOk (C.first env X):=⟨[],Around.frames_deeper h,.cons hk hf .nil⟩
set_option genInjectivity false in
structure zXs (w:World) where
 (s0 s1 s2 s3 s4 s5 s6:Stmt)
 (r2 r3 r4 r5 r7:List Stmt)
 h:(fd628 w).fd.body = .stmts (s0 :: s1 :: r2)
 h2:r2 = s2 :: r3
 h3:r3 = s3 :: r4
 h4:r4 = s4 :: r5
 h5:r5 = s5 :: s6 :: r7
noncomputable def zEc (w:World):zXs w:=⟨_,_,_,_,_,_,_,_,_,_,_,_,rfl,rfl,rfl,rfl,rfl⟩
set_option genInjectivity false in
structure LwA where
 (f fc no pa:Addr)
noncomputable abbrev LawHp (L:Addr) (A:LwA) (due:Option V) (nodes:List Node) (pairs:List (Nat × Nat)) (cs:List Int) (sp:Nat) (K:AH):AH :=
 (L + 3,.cell due) :: (L + 2,.cell (some (.ref A.no))) :: (L + 1,.cell (some (.ref A.f))) :: (A.f,.dictA (dieO A.fc sp)) :: (A.fc,.list (cs.map V.int)) :: (A.no,.list (nodes.map ndQ)) :: (A.pa,.list (pairs.map prV)) :: K
theorem zS7 (H:AH):Weak H []:=Weak.sub (List.nil_sublist _)
section
variable {C:Cx} {m:Loc} {H:AH}
theorem zGw {st sd:Addr} {r:WrA} {σ:Hs} {j:Jk} {K:AH}:∀ Z:AH,List.Perm (Z ++ StH st sd r σ j K) (StH st sd r σ j (Z ++ K))
 | []=> List.Perm.refl _
 | p :: Z=> ((zGw Z).cons p).trans st_in
inductive FzB (m:Loc) (st sd:Addr) (r:WrA) (K:AH) (R:V → Hs → Jk → Prop) (v:V) (m':Loc) (H':AH):Prop
 | mk (e:m' = m) (σ':Hs) (j':Jk) (eH:H' = StH st sd r σ' j' K) (h:R v σ' j')
inductive FzF (m:Loc) (Z:AH) (st sd:Addr) (r:WrA) (K:AH) (R:V → Hs → Jk → Prop) (v:V) (m':Loc) (H':AH):Prop
 | mk (e:m' = m) (σ':Hs) (j':Jk) (eH:H' = Z ++ StH st sd r σ' j' K) (h:R v σ' j')
theorem zUm {st sd:Addr} {r:WrA} {σ:Hs} {j:Jk} {K:AH} {f:V} {args:List V} (Z:AH) (R:V → Hs → Jk → Prop) (h:∀ K',Cd C m (StH st sd r σ j K') f args (FzB m st sd r K' R)) :
    Cd C m (Z ++ StH st sd r σ j K) f args (FzF m Z st sd r K R):=by
 refine Cd.weakPre (Weak.perm (zGw Z)) (Cd.weakPost (h (Z ++ K)) fun v m' H' z=> ?_)
 obtain ⟨rfl,σ',j',rfl,z⟩:=z
 exact ⟨_,Weak.perm (zGw Z).symm,rfl,σ',j',rfl,z⟩
theorem zQw {st sd:Addr} {r:WrA} {σ:Hs} {j:Jk} {K:AH} {f:V} {args:List V} (Z:AH) (R:V → Hs → Jk → Prop) (h:∀ K',Cd C m (HpH r σ j K') f args (FrB m r K' R)) :
    Cd C m (Z ++ StH st sd r σ j K) f args (FzF m Z st sd r K R):=zUm Z R fun K'=> Cd.conseq (front R h) fun v m' H' z=> by
 obtain ⟨rfl,σ',j',rfl,z⟩:=z
 exact ⟨rfl,σ',j',rfl,z⟩
end
section
variable {C:Cx} {m:Loc} {H:AH}
inductive InvO (H0:AH) (M:Addr) (i:Nat) (acc:List V) (H':AH):Prop
 | mk (v:Option V) (ea:acc = []) (e:H' = (M,.cell v) :: H0)
theorem zTh {ifs:List Expr} {Q Q':Bool → Loc → AH → Prop} (h:TrL C m H ifs Q') (k:∀ b m' H',Q' b m' H' → ∃ m'' H'',LocLe m' m'' ∧ Weak H' H'' ∧ Q b m'' H''):TrL C m H ifs Q:=T.weak2 h k
open Classical in
set_option maxHeartbeats 4000000 in
theorem law_E {L:Addr} {X:(Addr → Option Obj) → Value → Shared → Prop} {A:LwA} {sc st sd:Addr} {r:WrA} {σ:Hs} {j:Jk} {K:AH} {nodes:List Node} {rows:List Row} {pairs:List (Nat × Nat)} {cs:List Int} {sp:Nat} {Q:V → Loc → AH → Prop} (f:Fr (C.n - 1 - 1) C.w nodes rows pairs σ) (jo:JOk σ j)
    (hnd:nodes.Nodup) (hrz:rows.length ≤ 300) (hez:σ.edges.length + zA7 σ.par ≤ 800) (hpz:pairs.length ≤ 100) (hkz:σ.known.length ≤ 500000) (hr:20 < C.n) (q:Q (.bool true) m []) :
    Ex (C.first (callEnvC (fd628 C.w).fd L 628) X) [("script",.ref sc),("tale",.ref st),("heap",.ref r.w),("pairs",.ref A.pa)] (LawHp L A none nodes pairs cs sp (StH st sd r σ j K)) (zEc C.w).r5
     fun fl _ H'=> ∃ H'',Weak H' H'' ∧ Q fl.val m H'':=by
 show Ex _ _ _ (_ :: _) _
 have rl:σ.rows.length ≤ 1000:=by rw [f.wk.vs,List.length_map];exact omT
 have nz:=f.ok.nz
 have wz:σ.waiting.length ≤ 10000:=by
  have:=jo.wz
  have:=jo.mz
  have:=f.ok.pl
  lia
 obtain ⟨k,τ,run,kz,f2,wt2,en2,kn2⟩:=zGx (by show 6 < C.n - 1 - 1;exact omR2 ‹_› rfl) f (by exact omV8 ‹_›) hrz wz hkz
 walk_at "w"
 refine ⟨_,zA1 (by walk_at "mm") zHb rfl,?_⟩
 walk_at "w"
 refine Cd.call (Cd.conseq (zUm [_,_,_,_,_,_,_] (fun v σ'' j''=> σ'' = τ ∧ JOk τ j'') fun K'=> zLn f.ok jo rl run (by exact omT) (by lia) (by show 6 < C.n - 1;exact omR) fun j'' h1 h2=> ⟨rfl,_,_,rfl,rfl,h2⟩) fun v m' H' hh=> ?_)
 obtain ⟨rfl,σ'',j'',rfl,e,hj2⟩:=hh
 have e:=e.symm
 subst e
 have hrl:(zC0 σ rows).length ≤ 400:=by
  unfold zC0
  split
  ·exact omT
  ·rw [List.length_append,List.length_singleton];exact omA
 have hg:∀ x ∈ zC0 σ rows,RowGood x:=fun x hx=> (f2.wk.good x hx).1
 have hvr:voks 8 τ.rows = true:=by
  rw [f2.wk.vs]
  exact voks_iff.mpr fun v hv=> by
   refine zAi hv fun x hx=> ?_
   exact (hg x hx).v
 have hS:StAt (LawHp L A none nodes pairs cs sp (StH st sd r τ j'' K)) st sd r τ:=StAt.of.mono fun x hx=> .tail _ (.tail _ (.tail _ (.tail _ (.tail _ (.tail _ (.tail _ hx))))))
 walk_at "w"
 refine ⟨_,zA1 hS.st zDp rfl,?_⟩
 walk_at "w"
 refine Cd.call (zFa hS f2.wk.vs hg (by exact omT) (by show 1 < C.n - 1;exact omR) ?_)
 walk_at "w"
 refine Cd.call (zMa f2.wk hrl (by show 7 < C.n - 1;exact omR) fun st3 sd3 r3 j3 hj3=> ?_)
 have inL:∀ {due:Option V} {x:Addr × AObj} {K:AH},x ∈ K → x ∈ LawHp L A due nodes pairs cs sp K:=fun h=> .tail _ (.tail _ (.tail _ (.tail _ (.tail _ (.tail _ (.tail _ h))))))
 have hS2:∀ due,StAt (LawHp L A due nodes pairs cs sp (StH st3 sd3 r3 τ j3 (StH st sd r τ j'' K))) st sd r τ:=fun due=> StAt.of.mono fun x hx=> inL (zV0 x hx)
 have hS3:∀ due,StAt (LawHp L A due nodes pairs cs sp (StH st3 sd3 r3 τ j3 (StH st sd r τ j'' K))) st3 sd3 r3 τ:=fun due=> StAt.of.mono fun x hx=> inL hx
 refine T.weakPre (H':=LawHp L A none nodes pairs cs sp (StH st3 sd3 r3 τ j3 (StH st sd r τ j'' K))) (Weak.perm (zGw [_,_,_,_,_,_,_]).symm) ?_
 walk_at "w"
 have nok:zJ5 nodes:=by have:=f2.ok.nok;rw [f2.nd] at this;exact this
 have nl19:nodes.length ≤ 19:=by have:=f2.ok.nz;rw [f2.nd] at this;exact this
 refine Cd.call (zQl (no:=A.no) (pa:=A.pa) (nodes:=nodes) (pairs:=pairs) nok hnd (by exact omT) f2.pl hpz (by walk_at "mm") (by walk_at "mm") (by show 0 < C.n - 1;exact omR) fun D h fh=> ?_)
 have eh:=zSh f2 wt2 fh
 walk_at "w"
 refine ⟨by exact om0 rfl,?_⟩
 refine zAl (a:=.ref st3) (b:=.ref D) rfl ?_
 walk_at "w"
 refine zCh (c:=L + 3) rfl rfl (by walk_at "mm") ?_
 have hA:=(hS2 (some (.ref D))).cons (D,.list (nl h))
 have hB:=(hS3 (some (.ref D))).cons (D,.list (nl h))
 have rl2:τ.rows.length ≤ 1000:=by rw [f2.wk.vs,List.length_map];exact omT
 walk_at "w"
 refine ⟨_,zA1 hB.st zCo rfl,?_⟩
 walk_at "w"
 refine Cd.call (zDs hB rl2 (by show 0 < C.n - 1;exact omR) fun D1=> ?_)
 walk_at "w"
 refine ⟨_,zA1 (hA.cons _).st zCo rfl,?_⟩
 walk_at "w"
 refine Cd.call (zDs (hA.cons _) rl2 (by show 0 < C.n - 1;exact omR) fun D2=> ?_)
 refine zBe (.tail _ (.head _)) (.head _) hvr hvr ?_
 refine zA0 ⟨fun _=> ?_,fun e=> (by simp at e)⟩
 have hA2:=(hA.cons (D1,.list τ.rows)).cons (D2,.list τ.rows)
 have hB2:=(hB.cons (D1,.list τ.rows)).cons (D2,.list τ.rows)
 walk_at "w"
 refine ⟨_,zA1 hB2.st zDp rfl,?_⟩
 walk_at "w"
 refine Cd.call (zFa hB2 f2.wk.vs hg (by exact omT) (by show 1 < C.n - 1;exact omR) ?_)
 walk_at "w"
 refine ⟨_,zA1 hA2.st zDp rfl,?_⟩
 walk_at "w"
 refine Cd.call (zFa hA2 f2.wk.vs hg (by exact omT) (by show 1 < C.n - 1;exact omR) ?_)
 refine zBr ?_
 refine zA0 ⟨fun _=> ?_,fun e=> (by simp at e)⟩
 walk_at "w"
 refine ⟨_,zA1 hB2.st zF2 rfl,?_⟩
 walk_at "w"
 refine Cd.call (zMw hB2 hA2 rfl hvr rl2 (by show 1 < C.n - 1;exact omR) ?_)
 walk_at "w"
 refine zO0 ?_
 refine zAh ?_
 refine zA0 ⟨fun _=> ?_,fun e=> (by simp at e)⟩
 walk_at "w"
 refine ⟨fun e=> bx e,fun _=> ?_⟩
 walk_at "w"
 refine zLu (c:="one") rfl ⟨rfl,by decide,fun n=> rfl,fun h=> rfl⟩ ?_ (fun _=> rfl)
 walk_at "w"
 refine ⟨by exact om0 rfl,?_⟩
 have hAt:∀ x ∈ [V.ref st,V.ref st3],∃ s' sd' r',x = V.ref s' ∧ StAt ((D2,.list τ.rows) :: (D1,.list τ.rows) :: (D,.list (nl h)) :: LawHp L A (some (.ref D)) nodes pairs cs sp (StH st3 sd3 r3 τ j3 (StH st sd r τ j'' K))) s' sd' r' τ:=fun x hx=> by
  rcases List.mem_cons.mp hx with rfl | hx
  ·exact ⟨_,_,_,rfl,hA2⟩
  ·rw [List.mem_singleton.mp hx];exact ⟨_,_,_,rfl,hB2⟩
 have mno:(A.no,AObj.list (nodes.map ndQ)) ∈ (D2,.list τ.rows) :: (D1,.list τ.rows) :: (D,.list (nl h)) :: LawHp L A (some (.ref D)) nodes pairs cs sp (StH st3 sd3 r3 τ j3 (StH st sd r τ j'' K)):=by walk_at "mm"
 have mdu:(D,AObj.list (nl h)) ∈ (D2,.list τ.rows) :: (D1,.list τ.rows) :: (D,.list (nl h)) :: LawHp L A (some (.ref D)) nodes pairs cs sp (StH st3 sd3 r3 τ j3 (StH st sd r τ j'' K)):=by walk_at "mm"
 have mcn:(L + 2,AObj.cell (some (.ref A.no))) ∈ (D2,.list τ.rows) :: (D1,.list τ.rows) :: (D,.list (nl h)) :: LawHp L A (some (.ref D)) nodes pairs cs sp (StH st3 sd3 r3 τ j3 (StH st sd r τ j'' K)):=by walk_at "mm"
 have mcd:(L + 3,AObj.cell (some (.ref D))) ∈ (D2,.list τ.rows) :: (D1,.list τ.rows) :: (D,.list (nl h)) :: LawHp L A (some (.ref D)) nodes pairs cs sp (StH st3 sd3 r3 τ j3 (StH st sd r τ j'' K)):=by walk_at "mm"
 generalize ((D2,.list τ.rows) :: (D1,.list τ.rows) :: (D,.list (nl h)) :: LawHp L A (some (.ref D)) nodes pairs cs sp (StH st3 sd3 r3 τ j3 (StH st sd r τ j'' K)):AH) = H0 at *
 refine ⟨[.ref st,.ref st3],_,_,zBg,by exact om0 rfl,InvO H0,fun M=> ⟨none,rfl,rfl⟩,fun _ _ _ _ _=> trivial,?_,?_⟩
 ·rintro M L' X' i x acc H' hx ⟨v,rfl,rfl⟩
  obtain ⟨s',sd',r',rfl,hs⟩:=hAt x (List.mem_of_getElem? hx)
  refine zCh (c:=M) rfl rfl .head ?_
  refine zTh (Q':=fun b m₂ H₂=> b = false ∧ Weak H₂ ((M,.cell (some (.ref s'))) :: H0)) ?_ (fun b m₂ H₂ z=> ⟨m₂,_,LocLe.refl _,z.2,fun e=> (by rw [z.1] at e;exact Bool.noConfusion e),fun _=> ⟨_,rfl,rfl⟩⟩)
  walk_at "w"
  refine zAe rfl (scOk rfl) ?_ (fun _=> rfl)
  walk_at "w"
  refine zA2 (l:=nodes.map ndQ) (.tail _ mno) (by exact omMap ‹_› rfl) ?_
  rw [List.length_map]
  walk_at "w"
  refine zC2 fun D0=> ?_
  have hs1:=(hs.cons (M,.cell (some (.ref s')))).cons (D0,.rng nodes.length)
  have hp:=f2.ok.pl
  have hnd2:=f2.nd
  have nl2:nodes.length = τ.nodes.length:=by rw [hnd2]
  refine zEg (nl (zDy τ)) (zCc (.head _) (by exact omT)) trivial (by simp;exact omT) (by simp [nl,zDy,nl2]) (fun L X i x y hx hy=> ?_) ?_
  ·unfold nl zDy at hy
   rw [List.map_map,List.getElem?_map] at hy
   rw [List.getElem?_map] at hx
   refine zD8 hx fun k h3=> ?_
   rw [← nl2,h3] at hy
   cases hy
   have hk:k < nodes.length:=by
    obtain ⟨z1,z2⟩:=List.getElem?_eq_some_iff.mp h3
    rw [List.getElem_range] at z2
    rw [List.length_range] at z1
    lia
   walk_at "w"
   refine zA5 hs1.st rfl zAw ?_
   refine ⟨_,zA1 hs1.h.w zAb rfl,?_⟩
   walk_at "w"
   refine Cd.call (zBb hs1.h f2.ok.pok (by lia) (by lia) (by show 1 < C.n - 1;exact omR) ?_)
   exact ⟨rfl,Weak.refl _⟩
  intro D4
  walk_at "w"
  refine zBe (.head _) (l':=nl h) (.tail _ (.tail _ (.tail _ mdu))) (zFy _) (zFy _) ?_
  rw [eh,decide_eq_true rfl]
  exact zA0 ⟨rfl,by walk_at "mm"⟩
 ·rintro M acc H' ⟨v,rfl,rfl⟩ D4
  walk_at "w"
  refine ⟨by exact om0 rfl,fun D5=> ?_⟩
  walk_at "w"
  refine zDw (l:=[]) (l':=[]) (.tail _ (.head _)) (.head _) rfl rfl ?_
  rw [decide_eq_true rfl]
  exact ⟨[],zS7 _,q⟩
end
inductive RtS (n:Nat) (w:World) (nodes:List Node) (rows:List Row) (pairs:List (Nat × Nat)) (σ:Hs) (σ':Hs) (j':Jk):Prop
 | mk (rows':List Row) (f:Fr n w nodes rows' pairs σ') (jo:JOk σ' j') (rz:rows'.length ≤ rows.length + 1) (en:σ'.edges.length + zA7 σ'.par ≤ σ.edges.length + zA7 σ.par + 1) (kn:σ'.known = σ.known)
theorem zVl {n:Nat} {w:World} {nodes:List Node} {rows:List Row} {pairs:List (Nat × Nat)} {σ:Hs} (f:Fr n w nodes rows pairs σ):voks 8 σ.rows = true ∧ voks 8 σ.edges = true:=by
 refine ⟨?_,voks_iff.mpr fun v hv=> (f.ed v hv).v⟩
 rw [f.wk.vs]
 exact voks_iff.mpr fun v hv=> by
  refine zAi hv fun x hx=> ?_
  exact (f.wk.good x hx).1.v
section
variable {C:Cx} {m:Loc} {H:AH}
theorem zQk {n:Nat} {r:WrA} {σ:Hs} {j:Jk} {K:AH} {nodes:List Node} {rows:List Row} {pairs:List (Nat × Nat)} {a b:Nat} {v:V} {bo:Bool} (hn:6 < n) (hR:Rsn nodes.length v bo) (f:Fr n C.w nodes rows pairs σ) (jo:JOk σ j) (fo:FrOk C) (ha:a < nodes.length) (hb:b < nodes.length)
    (hN:nodes.length ≤ 9) (hrz:rows.length ≤ 300) (hez:σ.edges.length + zA7 σ.par ≤ 700) (hr:16 < C.n) :
    Cd C m (HpH r σ j K) (.ref 623) [.ref r.w,.int a,.int b,v,.int nodes.length] (FrB m r K fun u σ' j'=> u = .bool true ∧ RtS n C.w nodes rows (if bo = true then pairs ++ [(a,b)] else pairs) σ σ' j'):=by
 obtain ⟨vr,ve⟩:=zVl f
 have hnd:=f.nd
 subst hnd
 have rl:σ.rows.length ≤ 300:=by rw [f.wk.vs,List.length_map];exact hrz
 have wz:σ.waiting.length ≤ 1000:=by
  have:=jo.wz
  have:=jo.mz
  have:=f.ok.pl
  lia
 have ez:σ.edges.length ≤ 700:=by exact omV8 ‹_›
 cases bo with
 | false =>
  refine zJn f.ok fo ha hb (hR.bad rfl) (fun h q=> hR.let_ h q) vr ve (by exact omT) (by exact omT) wz (by exact omB) ⟨rfl,σ,j,rfl,rfl,?_⟩
  exact ⟨rows,by rw [if_neg (by decide)];exact f,jo,Nat.le_succ _,by exact Nat.le_succ _,rfl⟩
 | true =>
  obtain ⟨x,x1,g,f2,ed,ev,nr,kn⟩:=zOu hn f (by exact omT) hrz ha hb (hR.good rfl)
  have re:=(hR.good rfl).ok
  refine zL8 f.ok jo fo ha hb re (fun h q=> hR.let_ h q) (voks_iff.mpr fun u hu=> ?_) (voks_iff.mpr fun u hu=> ?_) (by exact omT) (by exact omT) wz hr fun j' hj=> ⟨rfl,_,j',rfl,rfl,?_⟩
  ·rcases List.mem_append.mp hu with hu | hu
   ·exact voks_iff.mp vr u hu
   ·rw [List.mem_singleton.mp hu,← x1];exact g.v
  ·rcases List.mem_append.mp hu with hu | hu
   ·exact voks_iff.mp ve u hu
   ·rw [List.mem_singleton.mp hu];exact ev
  ·exact ⟨rows ++ [x],by rw [if_pos rfl];exact f2,hj,by rw [List.length_append,List.length_singleton];exact Nat.le_refl _,by rw [ed,List.length_append,List.length_singleton];lia,kn⟩
theorem zXj {test:Expr} {body rest:List Stmt} {pos:Pos} {B:Bool} {G:AH} {Q} (ht:∀ Q':Bool → Loc → AH → Prop,Q' B m H → Tr C m H test Q') (hb:B = true → ∀ Q':AFlow → Loc → AH → Prop,Q' .next m G → Ex C m H body Q') (he:B = false → G = H) (q:Ex C m G rest Q):Ex C m H (.If test body [] pos :: rest) Q:=by
 refine Ex_If (ht _ ⟨fun e=> hb e _ (zKb q),fun e=> ?_⟩)
 have:=he e
 subst this
 exact zRm (zKb q)
theorem zVa {L:Addr} {A:LwA} {due:Option V} {nodes:List Node} {pairs:List (Nat × Nat)} {cs:List Int} {K:AH} (Z:AH) (hc:cs.length ≤ 70):DieG A.f A.fc cs fun sp=> Z ++ LawHp L A due nodes pairs cs sp K :=
 ⟨fun sp=> Upd.right Z (by walk_at "mm"),fun sp=> List.mem_append_right _ (by walk_at "mm"),hc⟩
inductive InvC (n:Nat) (w:World) (nodes:List Node) (L:Addr) (A:LwA) (cs:List Int) (st sd:Addr) (r:WrA) (K:AH) (s0:Nat) (D1:Addr) (r1:Nat) (i:Nat) (H':AH):Prop
 | mk (rows:List Row) (pairs:List (Nat × Nat)) (σ:Hs) (j:Jk) (sp:Nat) (f:Fr n w nodes rows pairs σ) (jo:JOk σ j) (ez:σ.edges.length + zA7 σ.par ≤ 20 + i) (rz:rows.length ≤ nodes.length + 2 * i) (pz:pairs.length ≤ i) (kz:σ.known.length ≤ 100 + 20000 * i) (hs:sp ≤ s0 + 13 * i)
  (e:H' = (D1,.rng (4 + r1:Nat)) :: LawHp L A none nodes pairs cs sp (StH st sd r σ j K))
set_option maxHeartbeats 4000000 in
theorem law_C {L:Addr} {X:(Addr → Option Obj) → Value → Shared → Prop} {A:LwA} {sc st sd:Addr} {r:WrA} {σ:Hs} {j:Jk} {K:AH} {nodes:List Node} {rows:List Row} {cs:List Int} {sp:Nat} {Q:V → Loc → AH → Prop} (f:Fr (C.n - 1 - 1) C.w nodes rows [] σ) (jo:JOk σ j) (hfr:C.A.frames = some [])
    (hnd:nodes.Nodup) (hN:nodes.length ≤ 9) (hN0:0 < nodes.length) (hrz:rows.length ≤ nodes.length) (hez:σ.edges.length + zA7 σ.par ≤ 20) (hkz:σ.known.length ≤ 100) (hc:cs.length ≤ 70) (hs:sp ≤ 1000) (hr:20 < C.n) (q:Q (.bool true) m []) :
    Ex (C.first (callEnvC (fd628 C.w).fd L 628) X) [("script",.ref sc),("tale",.ref st),("heap",.ref r.w),("pairs",.ref A.pa)] (LawHp L A none nodes [] cs sp (StH st sd r σ j K)) (zEc C.w).r4
     fun fl _ H'=> ∃ H'',Weak H' H'' ∧ Q fl.val m H'':=by
 show Ex _ _ _ (_ :: _) _
 have fo:FrOk (C.first (callEnvC (fd628 C.w).fd L 628) X):=.first hfr (by have e:(callEnvC (fd628 C.w).fd L 628).scope.kind = .function:=rfl
                                                                          rw [e];decide) rfl
 refine zG6 ?_ (fun _=> rfl)
 walk_at "w"
 refine Cd.call (zBo (wide:=5) (by walk_at "mm") (by walk_at "mm") (by exact omT) hc (by exact om0 rfl) (by show 0 < C.n - 1;exact omR) fun r1 hr1=> ?_)
 walk_at "w"
 refine zDx ?_
 walk_at "w"
 refine zC2 fun D1=> ?_
 rw [show (4:Int) + (r1:Int) = ((4 + r1:Nat):Int) by lia]
 refine ⟨_,_,_,zCc (.head _) (by lia),InvC (C.n - 1 - 1) C.w nodes L A cs st sd r K (sp + 1) D1 r1,?_,fun _ _ _=> trivial,?_,?_⟩
 ·exact ⟨rows,[],σ,j,sp + 1,f,jo,by exact omT,by lia,Nat.le_refl _,by exact omT,by exact Nat.le_refl _,rfl⟩
 ·rintro X i x H' hx ⟨rows,pairs,σ,j,sp,f,jo,hez,hrz,hpz,hkz,hs,rfl⟩
  rw [List.getElem?_map] at hx
  refine zD8 hx fun k h1=> ?_
  have hi:i < 4 + r1:=by have:=(List.getElem?_eq_some_iff.mp h1).1;simpa using this
  walk_at "w"
  refine zEo ?_ rfl rfl
  walk_at "w"
  refine zA2 (l:=nodes.map ndQ) (by walk_at "mm") (by exact omMap ‹_› rfl) ?_
  rw [List.length_map]
  walk_at "w"
  refine Cd.call (zBo (wide:=nodes.length) (by walk_at "mm") (by walk_at "mm") (by lia) hc hN0 (by show 0 < C.n - 1;exact omR) fun a ha=> ?_)
  walk_at "w"
  refine zA2 (l:=nodes.map ndQ) (by walk_at "mm") (by exact omMap ‹_› rfl) ?_
  rw [List.length_map]
  walk_at "w"
  refine Cd.call (zBo (wide:=nodes.length) (by walk_at "mm") (by walk_at "mm") (by lia) hc hN0 (by show 0 < C.n - 1;exact omR) fun b hb=> ?_)
  walk_at "w"
  refine ⟨by exact om0 rfl,?_⟩
  refine ⟨_,_,rfl,?_⟩
  walk_at "w"
  refine zA2 (l:=nodes.map ndQ) (by walk_at "mm") (by exact omMap ‹_› rfl) ?_
  rw [List.length_map]
  walk_at "w"
  refine Cd.call (zOx (G:=fun sp=> [(D1,.rng (4 + r1:Nat))] ++ LawHp L A none nodes pairs cs sp (StH st sd r σ j K)) (sp:=sp + 1 + 1) (zVa _ hc) (by lia) (by show 1 < C.n - 1;exact omR) fun sp' v bo s1 s2 hR=> ?_)
  walk_at "w"
  refine zA2 (l:=nodes.map ndQ) (by walk_at "mm") (by exact omMap ‹_› rfl) ?_
  rw [List.length_map]
  walk_at "w"
  refine Cd.call (Cd.conseq (zQw [_,_,_,_,_,_,_,_] (fun u σ' j'=> u = .bool true ∧ RtS (C.n - 1 - 1) C.w nodes rows (if bo = true then pairs ++ [(a,b)] else pairs) σ σ' j') fun K'=> zQk (by exact omR2 ‹_› rfl) hR f jo (fo.wX X) ha hb hN (by lia) (by lia) (by show 16 < C.n - 1;exact omR)) fun v m' H' hh=> ?_)
  obtain ⟨rfl,σ',j',rfl,rfl,rows',f',jo',rz',en',kn'⟩:=hh
  refine zA0 ⟨fun e=> bx e,fun _=> ?_⟩
  walk_at "w1"
  walk_at "w1"
  refine zXj (B:=bo) (G:=(D1,.rng (4 + r1:Nat)) :: LawHp L A none nodes (if bo = true then pairs ++ [(a,b)] else pairs) cs sp' (StH st sd r σ' j' K)) ?_ ?_ ?_ ?_
  ·intro Q' q'
   walk_at "w"
   refine zA2 (l:=nodes.map ndQ) (by walk_at "mm") (by exact omMap ‹_› rfl) ?_
   rw [List.length_map]
   walk_at "w"
   exact Cd.call (hR.let_ (by show 0 < C.n - 1;exact omR) (zA0 q'))
  ·intro e Q' q'
   rw [if_pos e] at q'
   have em:(pairs ++ [(a,b)]).map prV = pairs.map prV ++ [prV (a,b)]:=List.map_append
   simp only [LawHp,em] at q'
   walk_at "w"
   refine ⟨_,zAm (by walk_at "mm"),?_⟩
   walk_at "w"
   refine ⟨by exact om0 rfl,?_⟩
   walk_at "w"
   refine zAn (by walk_at "mm") (by simp;lia) ?_
   walk_at "w"
   exact q'
  ·intro e
   rw [if_neg (by rw [e];decide)]
   rfl
  have pz':(if bo = true then pairs ++ [(a,b)] else pairs).length ≤ i + 1:=by
   split
   ·rw [List.length_append,List.length_singleton];lia
   ·lia
  generalize (if bo = true then pairs ++ [(a,b)] else pairs) = pairs' at *
  walk_at "w"
  refine Cd.call (zBo (wide:=3) (by walk_at "mm") (by walk_at "mm") (by lia) hc (by exact om0 rfl) (by show 0 < C.n - 1;exact omR) fun r2 hr2=> ?_)
  walk_at "w"
  refine zB5 (b:=0) ?_
  have rl':σ'.rows.length ≤ 1000:=by rw [f'.wk.vs,List.length_map];lia
  have nz':=f'.ok.nz
  have wz':σ'.waiting.length ≤ 10000:=by
   have:=jo'.wz
   have:=jo'.mz
   have:=f'.ok.pl
   lia
  obtain ⟨k2,τ,run,kz,f2,wt2,en2,kn2⟩:=zGx (by exact omR2 ‹_› rfl) f' (by lia) (by lia) wz' (by rw [kn'];lia)
  have rz2:(zC0 σ' rows').length ≤ rows'.length + 1:=by
   unfold zC0
   split
   ·exact Nat.le_succ _
   ·rw [List.length_append,List.length_singleton];exact Nat.le_refl _
  rw [kn'] at kn2
  refine zA0 ⟨fun _=> ?_,fun _=> ?_⟩
  ·walk_at "w"
   refine ⟨_,zA1 (by walk_at "mm") zC9 rfl,?_⟩
   walk_at "w"
   refine Cd.call (Cd.conseq (zQw [_,_,_,_,_,_,_,_] (fun u σ'' j''=> σ'' = τ ∧ JOk τ j'') fun K'=> zDe f'.ok jo' rl' run (by lia) (by rw [kn'];lia) (by show 5 < C.n - 1;exact omR) fun j'' h1 h2=> ⟨rfl,_,_,rfl,rfl,h2⟩) fun v m' H' hh=> ?_)
   obtain ⟨rfl,σ'',j'',rfl,e,hj2⟩:=hh
   have e:=e.symm
   subst e
   walk_at "w"
   exact ⟨.inl rfl,by walk_at "mm",_,Weak.refl _,zC0 σ' rows',pairs',τ,j'',sp' + 1,f2,hj2,by lia,by lia,pz',by lia,by lia,rfl⟩
  ·walk_at "w"
   exact ⟨.inl rfl,by walk_at "mm",_,Weak.refl _,rows',pairs',σ',j',sp' + 1,f',jo',by lia,by lia,pz',by rw [kn'];lia,by lia,rfl⟩
 ·rintro H' ⟨rows,pairs,σ,j,sp,f,jo,hez,hrz,hpz,hkz,hs,rfl⟩
  rw [List.length_map,List.length_range] at hez hrz hpz hkz hs
  exact T.weakPre (Weak.drop (Weak.refl _)) (law_E f jo hnd (by lia) (by lia) (by lia) (by lia) hr q)
end
structure Bld (nodes:List Node):Prop where
 b:Built nodes
 o:∀ x ∈ nodes,x.1 ∈ zHl
theorem zK7 {nodes:List Node} {nd:Node} (h:Bld nodes) (hn:nd ∉ nodes) (ho:nd.1 ∈ zHl) (hl:nd.2.length ≤ 4) (hk:∀ k ∈ nd.2,k < nodes.length):Bld (nodes ++ [nd]) :=
 ⟨.snoc h.b hn (zGn _ ho).1 hl hk,fun x hx=> (List.mem_append.mp hx).elim (h.o x) fun e=> by rw [List.mem_singleton.mp e];exact ho⟩
theorem zTa {nodes:List Node} (h:Built nodes):∀ i nd,nodes[i]? = some nd → Built (nodes.take i) ∧ nd ∉ nodes.take i ∧ zE0 nd.1 = true ∧ nd.2.length ≤ 4 ∧ ∀ k ∈ nd.2,k < (nodes.take i).length:=by
 induction h with
 | nil=> intro i nd e;exact nS e
 | @snoc nodes nd hb hn hx hl hk ih =>
  intro i x e
  by_cases q:i < nodes.length
  ·rw [List.getElem?_append_left q] at e
   rw [List.take_append_of_le_length (Nat.le_of_lt q)]
   exact ih i x e
  ·rw [List.getElem?_append_right (by with_reducible exact Nat.le_of_not_lt (by walk_at "a"))] at e
   have hi:i = nodes.length:=by
    have:=(List.getElem?_eq_some_iff.mp e).1
    rw [List.length_singleton] at this;lia
   subst hi
   rw [Nat.sub_self] at e
   cases e
   rw [List.take_left]
   exact ⟨hb,hn,hx,hl,hk⟩
section
variable {C:Cx} {m:Loc} {H:AH}
inductive InvB (L:Addr) (A:LwA) (nodes:List Node) (cs:List Int) (sp:Nat) (st sd:Addr) (r:WrA) (K:AH) (i:Nat) (H':AH):Prop
 | mk (j:Jk) (jo:JOk (zAd (nodes.take i) ((nodes.take i).map zC7)) j) (e:H' = LawHp L A none nodes [] cs sp (StH st sd r (zAd (nodes.take i) ((nodes.take i).map zC7)) j K))
set_option maxHeartbeats 4000000 in
theorem law_B {L:Addr} {X:(Addr → Option Obj) → Value → Shared → Prop} {A:LwA} {sc st sd:Addr} {r:WrA} {K:AH} {nodes:List Node} {cs:List Int} {sp:Nat} {Q:V → Loc → AH → Prop} (hb:Bld nodes) (hfr:C.A.frames = some [])
    (hN:nodes.length ≤ 9) (hN0:0 < nodes.length) (hc:cs.length ≤ 70) (hs:sp ≤ 1000) (hr:20 < C.n) (q:Q (.bool true) m []) :
    Ex (C.first (callEnvC (fd628 C.w).fd L 628) X) [("script",.ref sc),("tale",.ref st),("heap",.ref r.w),("pairs",.ref A.pa)] (LawHp L A none nodes [] cs sp (StH st sd r (zAd [] []) j0 K)) (zEc C.w).r3
     fun fl _ H'=> ∃ H'',Weak H' H'' ∧ Q fl.val m H'':=by
 show Ex _ _ _ (_ :: _) _
 refine zG6 ?_ (fun _=> rfl)
 walk_at "w"
 refine ⟨_,_,_,zD0 (a:=A.no) (xs:=nodes.map ndQ) (by walk_at "mm"),InvB L A nodes cs sp st sd r K,⟨j0,j0_ok,rfl⟩,?_,?_,?_⟩
 ·rintro i H' ⟨j,_,rfl⟩
  walk_at "mm"
 ·rintro X i x H' hx ⟨j,jo,rfl⟩
  rw [List.getElem?_map] at hx
  refine zD8 hx fun nd hnd=> ?_
  obtain ⟨b1,b2,b3,b4,b5⟩:=zTa hb.b i nd hnd
  have hi:=(List.getElem?_eq_some_iff.mp hnd).1
  have tl:(nodes.take i).length = i:=by rw [List.length_take];lia
  have e1:nodes.take (i + 1) = nodes.take i ++ [nd]:=by rw [List.take_add_one,hnd];rfl
  walk_at "w"
  refine ⟨_,zA1 (by walk_at "mm") zEs rfl,?_⟩
  walk_at "w"
  refine zA4 (l:=.str nd.1 :: nd.2.map fun k:Nat=> .int k) (by lia) (by simp;exact omT) rfl ?_
  walk_at "w"
  refine zG5 (l:=.str nd.1 :: nd.2.map fun k:Nat=> .int k) (a:=1) (by exact om0 rfl) (by exact om0 rfl) (by simp;exact omT) ?_
  walk_at "w"
  refine Cd.call (Cd.conseq (zQw [_,_,_,_,_,_,_] (fun v σ' j'=> σ' = zAd (nodes.take i ++ [nd]) ((nodes.take i).map zC7 ++ [zC7 nd]) ∧ JOk σ' j') fun K'=> zI3 b1 jo b3 b2 b5 b4 (by lia) (by rw [List.length_map];lia) (by show 5 < C.n - 1;exact omR) fun j' hj=> ⟨rfl,_,_,rfl,rfl,hj⟩) fun v m' H' hh=> ?_)
  obtain ⟨rfl,σ',j',rfl,rfl,hj⟩:=hh
  walk_at "w"
  exact ⟨.inl rfl,by walk_at "mm",_,Weak.refl _,j',by rw [e1,List.map_append];exact hj,by rw [e1,List.map_append];rfl⟩
 ·rintro H' ⟨j,jo,rfl⟩
  rw [List.length_map,List.take_length] at jo ⊢
  have hnr:=zE5 nodes.length
  refine law_C (zT3 (by lia) hb.b hb.o (by exact omT)) jo hfr (zI1 hb.b) hN hN0 (by rw [List.length_map];exact Nat.le_refl _) ?_ ?_ hc hs hr q
  ·show 0 + zA7 (List.range nodes.length) ≤ 20
   lia
  ·show nodes.zipIdx.length ≤ 100
   rw [List.length_zipIdx];exact omT
end
section
variable {C:Cx} {m:Loc} {H:AH}
@[reducible] noncomputable def kAsg3 (C:Cx) (t₂ t₃:Expr) (b c:V) (Q:Unit → Loc → AH → Prop):Unit → Loc → AH → Prop:=fun _ m H=> Asg C m H t₂ b (kAsg2 C t₃ c Q)
theorem zPp {t₁ t₂ t₃ k pos} {a b c:V} {Q} (h:Asg C m H t₁ a (kAsg3 C t₂ t₃ b c Q))
    (he:assignEach [t₁,t₂,t₃] C.env = [(false,assign t₁ C.env),(false,assign t₂ C.env),(false,assign t₃ C.env)]:=by rfl):Asg C m H (.Tuple [t₁,t₂,t₃] k pos) (.tup [a,b,c]) Q:=by
 intro F s vs st i
 refine zBf i fun v iv=> ?_
 show wpAny _ _ (assign (.Tuple [t₁,t₂,t₃] k pos) C.env v) _ _ _
 rw [arm_assign_Tuple,he]
 refine wpAny_bind (wpAny_standAt ?_)
 unfold unpack
 refine wpAny_bind (wpAny_holding (zJd (n:=3) (U:=.tup [a,b,c]) (l:=[a,b,c]) st iv rfl rfl fun us s' st' p il=> ?_))
 refine zG9 il fun x y z ix iy iz=> ?_
 show wpAny _ _ (do holding [y,z] (assign t₁ C.env x);assignInOrder [assign t₂ C.env,assign t₃ C.env] [y,z]) _ _ _
 refine wpAny_bind (wpAny_holding (andThen (h F s' [x] st' (.cons ix .nil)) fun _ s₁ _ m₁ H₁ _ st₁ p₁ h₁=> ?_))
 show wpAny _ _ (do holding [z] (assign t₂ C.env y);assignInOrder [assign t₃ C.env] [z]) _ _ _
 refine wpAny_bind (wpAny_holding (andThen (h₁ F s₁ [y] st₁ (.cons (iy.mono p₁) .nil)) fun _ s₂ _ m₂ H₂ _ st₂ p₂ h₂=> ?_))
 show wpAny _ _ (do holding [] (assign t₃ C.env z);pure ()) _ _ _
 refine wpAny_bind (wpAny_holding (andThen (h₂ F s₂ [z] st₂ (.cons (iz.mono (p₁.trans p₂)) .nil)) fun _ s₃ _ m₃ H₃ _ st₃ p₃ h₃=> ?_))
 exact wpAny_pure ⟨(),m₃,H₃,trivial,st₃,p.trans (p₁.trans (p₂.trans p₃)),h₃⟩
theorem zV7 {a b:Node} (h:ndQ a = ndQ b):a = b:=by
 unfold ndQ at h
 injection h with h
 rw [List.cons.injEq] at h
 obtain ⟨h1,h2⟩:=h
 injection h1 with h1
 have inj:∀ {l l':List Nat},l.map (fun k:Nat=> V.int k) = l'.map (fun k:Nat=> V.int k) → l = l':=by
  intro l
  induction l with
  | nil=> intro l' h;cases l' with
   | nil=> rfl
   | cons=> exact nC h
  | cons a r ih=> intro l' h;cases l' with
   | nil=> exact cN h
   | cons b r' =>
    rw [List.map_cons,List.map_cons,List.cons.injEq] at h
    obtain ⟨h1,h2⟩:=h
    injection h1 with h1
    rw [Int.ofNat_inj.mp h1,ih h2]
 exact Prod.ext h1 (inj h2)
theorem ndQ_mem {nd:Node} {nodes:List Node}:ndQ nd ∈ nodes.map ndQ ↔ nd ∈ nodes:=⟨fun h=> by
 obtain ⟨a,ha,e⟩:=List.mem_map.mp h
 exact zV7 e ▸ ha,fun h=> List.mem_map.mpr ⟨_,h,rfl⟩⟩
theorem zQg {nd:Node} (h:ascii nd.1 = true):vok 8 (ndQ nd) = true:=zDn fun v hv=> by
 rcases List.mem_cons.mp hv with rfl | hv
 ·exact zDb (zCb h)
 ·exact voks_iff.mp (zLa 7 nd.2) v hv
inductive InvA (L:Addr) (A:LwA) (cs:List Int) (K:AH) (D1:Addr) (r1:Nat) (i:Nat) (H':AH):Prop
 | mk (A':LwA) (nodes:List Node) (sp:Nat) (ep:A'.pa = A.pa) (hb:Bld nodes) (hl:nodes.length ≤ 2 + i) (h2:2 ≤ nodes.length) (hs:sp ≤ 1 + 3 * i) (e:H' = (D1,.rng (1 + r1:Nat)) :: LawHp L A' none nodes [] cs sp K)
inductive InvK (L:Addr) (A:LwA) (nodes:List Node) (cs:List Int) (K:AH) (D1 D:Addr) (r1 k sp i:Nat) (acc:List V) (H':AH):Prop
 | mk (ks:List Nat) (ha:acc = ks.map (fun k:Nat=> V.int k)) (kl:ks.length = i) (kk:∀ k ∈ ks,k < nodes.length) (e:H' = (D,.rng k) :: (D1,.rng (1 + r1:Nat)) :: LawHp L A none nodes [] cs (sp + i) K)
inductive OpAt (k:Nat):Prop
 | mk (op:Str) (c:Nat) (hj:seqIndex? (k:Int) (Str.length "fg") = some k) (hc:("fg":Str).cps[k]? = some c) (eo:(⟨#[c]⟩:Str) = op) (ho:op ∈ zHl)
theorem op_at:∀ {k:Nat},k < 2 → OpAt k
 | 0,_=> ⟨_,102,by decide,by decide,rfl,by decide⟩
 | 1,_=> ⟨_,103,by decide,by decide,rfl,by decide⟩
 | k + 2,h=> absurd h (by lia)
theorem zXo {t x y:Expr} {pos:Pos} {B:Bool} {u v:V} {Q} (ht:∀ Q':Bool → Loc → AH → Prop,Q' B m H → Tr C m H t Q') (hx:∀ Q':V → Loc → AH → Prop,Q' u m H → Ev C m H x Q') (hy:∀ Q':V → Loc → AH → Prop,Q' v m H → Ev C m H y Q') (q:Q (if B = true then u else v) m H):Ev C m H (.IfExp t x y pos) Q:=by
 refine zO2 (ht _ ⟨fun e=> hx _ ?_,fun e=> hy _ ?_⟩)
 ·rw [if_pos e] at q;exact q
 ·rw [if_neg (by rw [e];decide)] at q;exact q
open Classical in
set_option maxHeartbeats 4000000 in
theorem law_A {L:Addr} {X:(Addr → Option Obj) → Value → Shared → Prop} {A:LwA} {sc st sd:Addr} {r:WrA} {K:AH} {nodes:List Node} {cs:List Int} {Q:V → Loc → AH → Prop} (hb:Bld nodes) (hfr:C.A.frames = some [])
    (hN:nodes.length = 2) (hc:cs.length ≤ 70) (hr:20 < C.n) (q:Q (.bool true) m []) :
    Ex (C.first (callEnvC (fd628 C.w).fd L 628) X) [("script",.ref sc),("tale",.ref st),("heap",.ref r.w),("pairs",.ref A.pa)] (LawHp L A none nodes [] cs 0 (StH st sd r (zAd [] []) j0 K)) (zEc C.w).r2
     fun fl _ H'=> ∃ H'',Weak H' H'' ∧ Q fl.val m H'':=by
 show Ex _ _ _ (_ :: _) _
 refine zG6 ?_ (fun _=> rfl)
 walk_at "w"
 refine Cd.call (zBo (wide:=3) (by walk_at "mm") (by walk_at "mm") (by exact om0 rfl) hc (by exact om0 rfl) (by show 0 < C.n - 1;exact omR) fun r1 hr1=> ?_)
 walk_at "w"
 refine zDx ?_
 walk_at "w"
 refine zC2 fun D1=> ?_
 rw [show (1:Int) + (r1:Int) = ((1 + r1:Nat):Int) by lia]
 refine ⟨_,_,_,zCc (.head _) (by lia),InvA L A cs (StH st sd r (zAd [] []) j0 K) D1 r1,?_,fun _ _ _=> trivial,?_,?_⟩
 ·exact ⟨A,nodes,0 + 1,rfl,hb,by lia,by lia,by exact om0 rfl,rfl⟩
 ·rintro X i x H' hx ⟨A',nodes,sp,ep,hb,hl,h2,hs,rfl⟩
  rw [List.getElem?_map] at hx
  refine zD8 hx fun k h1=> ?_
  have hi:i < 1 + r1:=by have:=(List.getElem?_eq_some_iff.mp h1).1;simpa using this
  walk_at "w"
  refine Cd.call (zBo (wide:=2) (by walk_at "mm") (by walk_at "mm") (by lia) hc (by exact om0 rfl) (by show 0 < C.n - 1;exact omR) fun r2 hr2=> ?_)
  walk_at "w"
  refine bc fun nn=> ?_
  obtain ⟨op,c,hj,hcc,eo,hop⟩:=op_at hr2
  refine nn ?_
  refine zK9 hj (by lia) (by lia) hcc ?_
  rw [eo]
  walk_at "w"
  refine ⟨by exact om0 rfl,?_⟩
  walk_at "w"
  refine zAe rfl (scOk rfl) ?_ (fun _=> rfl)
  walk_at "w1"
  walk_at "w1"
  refine zXo (B:=decide (op = "f")) (u:=.int 1) (v:=.int 2) ?_ ?_ ?_ ?_
  ·intro Q' q'
   walk_at "w"
   refine zA6 ?_
   exact zA0 q'
  ·intro Q' q'
   walk_at "w"
   exact q'
  ·intro Q' q'
   walk_at "w"
   exact q'
  refine bc fun nn=> ?_
  obtain ⟨d,hd,ed⟩:∃ d:Nat,d ≤ 2 ∧ (if decide (op = "f") = true then V.int 1 else V.int 2) = V.int (d:Int):=by
   split
   ·exact ⟨1,by exact om0 rfl,rfl⟩
   ·exact ⟨2,by exact om0 rfl,rfl⟩
  refine nn ?_
  rw [ed]
  walk_at "w"
  refine zC2 fun D=> ?_
  refine ⟨_,_,_,zCc (.head _) (by exact omT),by simp;exact omT,InvK L A' nodes cs (StH st sd r (zAd [] []) j0 K) D1 D r1 d (sp + 1),?_,?_,?_,?_⟩
  ·exact ⟨[],rfl,rfl,fun k h=> (by exact nM h),rfl⟩
  ·intros;trivial
  ·rintro L2 X2 i2 x2 acc H' hx ⟨ks,rfl,kl,kk,rfl⟩
   rw [List.getElem?_map] at hx
   refine zD8 hx fun z hz=> ?_
   have hi2:i2 < d:=by have:=(List.getElem?_eq_some_iff.mp hz).1;simpa using this
   walk_at "w"
   refine ⟨fun _=> ?_,fun e=> bx e⟩
   walk_at "w"
   refine zA2 (l:=nodes.map ndQ) (by walk_at "mm") (by simp;lia) ?_
   rw [List.length_map]
   walk_at "w"
   refine Cd.call (zBo (wide:=nodes.length) (by walk_at "mm") (by walk_at "mm") (by lia) hc (by lia) (by show 0 < C.n - 1;exact omR) fun r3 hr3=> ?_)
   refine ⟨ks ++ [r3],by rw [List.map_append];rfl,by rw [List.length_append,List.length_singleton,kl],fun p hp=> ?_,rfl⟩
   rcases List.mem_append.mp hp with hp | hp
   ·exact kk p hp
   ·rw [List.mem_singleton.mp hp];exact hr3
  rintro acc H' ⟨ks,rfl,kl,kk,rfl⟩ D2
  rw [List.length_map,List.length_range] at kl
  rw [List.length_map,List.length_range]
  generalize hsp:sp + 1 + d = sp'
  walk_at "w"
  refine zBl (.head _) (by simp;exact omE) ?_
  walk_at "w"
  refine zId (by simp;lia) ?_
  walk_at "w"
  refine zN3 (l:=nodes.map ndQ) (x:=ndQ (op,ks)) (by walk_at "mm") (voks_iff.mpr fun v hv=> ?_) (zQg (zGn _ hop).2.1) ?_
  ·refine zAi hv fun x hx=> ?_
   exact zQg (zGn _ (hb.o x hx)).2.1
  refine zA0 ⟨fun _=> ?_,fun e=> ?_⟩
  ·walk_at "w"
   refine zCh (c:=L + 2) rfl rfl (by walk_at "mm") ?_
   walk_at "w"
   exact ⟨.inl rfl,by walk_at "mm",_,by walk_at "pk",A',nodes,sp',ep,hb,by exact omI ‹_›,h2,by lia,rfl⟩
  ·have hni:(op,ks) ∉ nodes:=fun h=> of_decide_eq_false e (ndQ_mem.mpr h)
   walk_at "w"
   refine ⟨by exact om0 rfl,fun D3=> ?_⟩
   walk_at "w"
   refine zDa (l:=nodes.map ndQ) (l₂:=[ndQ (op,ks)]) (by walk_at "mm") (.head _) (by simp;lia) fun D4=> ?_
   refine zCh (c:=L + 2) rfl rfl (by walk_at "mm") ?_
   walk_at "w"
   have em:(nodes ++ [(op,ks)]).map ndQ = nodes.map ndQ ++ [ndQ (op,ks)]:=List.map_append
   refine ⟨.inl rfl,by walk_at "mm",(D1,.rng (1 + r1:Nat)) :: LawHp L ⟨A'.f,A'.fc,D4,A'.pa⟩ none (nodes ++ [(op,ks)]) [] cs sp' (StH st sd r (zAd [] []) j0 K),?_,⟨A'.f,A'.fc,D4,A'.pa⟩,nodes ++ [(op,ks)],sp',ep,zK7 hb hni hop (by simp;exact omE) kk,by rw [List.length_append,List.length_singleton];exact omI1 ‹_›,by rw [List.length_append];lia,by lia,rfl⟩
   simp only [LawHp,em]
   walk_at "pk"
 ·rintro H' ⟨A',nodes,sp,ep,hb,hl,h2,hs,rfl⟩
  rw [List.length_map,List.length_range] at hl hs
  have h:=law_B (L:=L) (X:=X) (A:=A') (sc:=sc) (st:=st) (sd:=sd) (r:=r) (K:=K) hb hfr (by lia) (by lia) hc (by lia:sp ≤ 1000) hr q
  rw [ep] at h
  exact T.weakPre (Weak.drop (Weak.refl _)) h
end
section
variable {C:Cx} {m:Loc} {H:AH}
structure Ok0 (C:Cx):Prop where
 kin:(KK C.w).In C.s₀.heap
 hh:C.A.handled = none
 dep:C.A.depth + C.n < recursionLimit
 un:C.A.units + 8 * C.n + 100 < cLine
 lim:C.s₀.heap.NoLimit
 top:∃ p loose mg mb,TopRead p loose mg mb C.s₀.heap
 ban:∀ a,¬ C.ban a
 file:(C.prog.main.file == ("/claim/cut.py":Str)) = true
 nosup:(C.prog.main.scope.names.lookup ("super":Str)).isSome = false
noncomputable def EndOk (C:Cx) (Q:V → Prop) (v:Value) (s':Shared):Prop:=∃ b,Q b ∧ Is C.ban s'.heap b v ∧ (∀ b o,C.s₀.heap.get? b = some o → s'.heap.get? b = some o) ∧ s'.os = C.s₀.os ∧ s'.gens = C.s₀.gens
theorem zR0 {env:Env} {m':Loc} {H':AH} {s₁:Shared} {body:List Stmt} {Q:V → Prop} {E:Value → Shared → Prop} (ok:Ok0 C) (hroom:0 < C.n) (hkf:env.scope.kind = .function) (hkg:env.globals = mainGlobals) (hkb:env.builtins = builtinsNs)
    (hk:∀ b o,C.s₀.heap.get? b = some o → s₁.heap.get? b = some o) (hg:s₁.gens = C.s₀.gens) (ho:s₁.os = C.s₀.os) (fr:NsRep C.ban s₁.heap env.locals m') (objs:∀ p ∈ H',RepO C.prog C.w C.ban s₁.heap p.1 p.2) (nd:(env.locals :: zA3 H').Nodup)
    (new:∀ a ∈ env.locals :: zA3 H',C.s₀.heap.get? a = none)
    (h:∀ X,Ex (C.first env X) m' H' body fun fl _ H''=> Q fl.val) :
    wpAny (model C.prog C.w) (C.A.deeper env) (execs body env) (fun fl s'=> EndOk C Q (match (generalizing:=false) fl with | .ret v=> v | _=> .none) s')
     (fun e s'=> wpAny (model C.prog C.w) (C.A.deeper env) (leaving env e) (fun _ s''=> E e s'') (fun e' s''=> E e' s'') s') s₁:=by
 have hdep:=ok.dep
 have hun:=ok.un
 have st':∀ X,St (C.first env X) C.s₀.heap.get? m' H' s₁:=fun X =>
  { ok:=⟨ok.kin,by rw [← ok.hh];rfl,by show C.A.depth + 1 + (C.n - 1) < recursionLimit;lia,by show C.A.units + 3 + 8 * (C.n - 1) + 100 < cLine;lia,ok.lim,ok.top,hkf,hkg,hkb,
      by show (env.scope.kind == .module && _) = false;rw [hkf];rfl,fun a _ _=> ok.ban a,ok.file,ok.nosup⟩
    gens:=hg
    os:=ho
    base:=fun b o e=> e
    raw:=hk
    bl:=fun a ha=> absurd ha (ok.ban a)
    fr:=fr
    objs:=objs
    nodup:=nd
    fresh:=new
    ups:=fun p hp=> (by exact nM hp) }
 have run:=h (fun _ e s'=> wpAny (model C.prog C.w) (C.A.deeper env) (leaving env e) (fun _ s''=> E e s'') (fun e' s''=> E e' s'') s') _ _ [] (st' _) rfl
 refine wpAny_mono run (fun fl s' ⟨b,m'',H'',r,x,p,q⟩=> ⟨b.val,q,?_,x.raw,x.os,x.gens⟩) fun e s' x=> x
 cases b with
 | next=> cases r;exact zBc
 | brk=> cases r;exact zBc
 | cont=> cases r;exact zBc
 | ret u=> obtain ⟨y,rfl,iy⟩:=r;exact iy
theorem zU2 {f:Addr} {oc:Value} {od:Option Addr} {osl:Array (Option Value)} {fd:FuncData} {names:List Str} {body:List Stmt} {args:List V} {vs:List Value} {Q:V → Prop} {E:Value → Shared → Prop} (ok0:Ok0 C)
    (ho:(KK C.w).lookup f = some ⟨oc,od,.func fd,osl⟩) (ok:FnOk C.w fd names body) (hl:args.length = names.length) (hroom:0 < C.n) (hclo:fd.closure = [])
    (hkind:∀ n,∀ x ∈ names,fd.scope.names.lookup x = some .local ∨ (fd.scope.names.lookup x = some .cell ∧ ((cellsFrom n fd.scope.names []).lookup x).isSome = true))
    (hnd:∀ n,((cellsFrom n fd.scope.names []).map (·.1)).Nodup) (hcl:∀ n,∀ x ∈ cellsFrom n fd.scope.names [],fd.scope.names.lookup x.1 ≠ some .local)
    (h:∀ L X,Ex (C.first (callEnvC fd L f) X) (zE7 fd (names.zip args)) (zCz fd L f (names.zip args)) body fun fl _ H'=> Q fl.val) (i:IsL C.ban C.s₀.heap args vs) :
    codeAny (model C.prog C.w) C.A (.call (.ref f) ⟨vs,[]⟩) (fun r s'=> match r with | .ok (.ret v)=> EndOk C Q v s' | .ok _=> False | .error e=> E e s') C.s₀:=by
 have hdep:=ok0.dep
 refine codeAny_call_cells (by lia) (ok0.kin _ _ ho) rfl ok0.lim (codeRec_of ok0.kin ok.code) ok.body (ok.bind vs (by rw [← i.length,hl])) hclo
  (fun y hy=> hkind _ _ (List.of_mem_zip (a:=y.1) (b:=y.2) hy).1) (fun s₁ I=> ?_) ok.co ok.gen ok.kind
 have hk:=I.toInCall.keep
 have pk:Pres C.ban C.s₀.heap s₁.heap:=Pres.keeps hk
 refine bc fun nn=> ?_
 obtain ⟨h₁,tk₁,hs₁⟩:=I.toInCall.same
 refine nn ?_
 have lkc:∀ x ∈ (callEnvC fd C.s₀.heap.objs.size f).cells,(callEnvC fd C.s₀.heap.objs.size f).cells.lookup x.1 = some x.2:=by
  have:∀ (l:List (Str × Addr)),(l.map (·.1)).Nodup → ∀ x ∈ l,l.lookup x.1 = some x.2:=by
   intro l
   induction l with
   | nil=> intro _ x hx;exact nM hx
   | cons y r ih =>
    intro nd x hx
    rw [List.map_cons,List.nodup_cons] at nd
    rw [List.lookup_cons]
    rcases List.mem_cons.mp hx with rfl | hx
    ·simp
    ·have:(x.1 == y.1) = false:=beq_eq_false_iff_ne.mpr fun e=> nd.1 (e ▸ List.mem_map_of_mem hx)
     rw [this];exact ih nd.2 x hx
  exact this _ (hnd _)
 have big:∀ x ∈ (callEnvC fd C.s₀.heap.objs.size f).cells,C.s₀.heap.objs.size < x.2:=fun x hx=> I.above x.1 x.2 hx
 have ow:zA3 (zCz fd C.s₀.heap.objs.size f (names.zip args)) = (callEnvC fd C.s₀.heap.objs.size f).cells.map (·.2):=by
  unfold zCz zA3
  rw [List.flatMap_map]
  show (List.flatMap (fun x:Str × Addr=> [x.2]) _) = _
  induction (callEnvC fd C.s₀.heap.objs.size f).cells with
  | nil=> rfl
  | cons x r ih=> rw [List.flatMap_cons,ih];rfl
 refine zR0 (s₁:=s₁) (m':=zE7 fd (names.zip args)) (H':=zCz fd C.s₀.heap.objs.size f (names.zip args)) ok0 hroom ok.kind ok.glob ok.built hk (by rw [hs₁]) (by rw [hs₁]) ?_ ?_ ?_ ?_ (h _)
 ·refine ⟨_,I.toInCall.ns,fun x=> ?_⟩
  have:=zLj (h:=s₁.heap) (k:=(callEnvC fd C.s₀.heap.objs.size f).kindOf) (f:=fun _=> none) (o:=fun _=> none) ok.nd hl (i.mono pk) (fun _=> trivial) x
  have e:(if (callEnvC fd C.s₀.heap.objs.size f).kindOf x = some .local then (lk x (names.zip args)).or none else none) = lk x (zE7 fd (names.zip args)):=by
   unfold zE7
   by_cases q:(callEnvC fd C.s₀.heap.objs.size f).kindOf x = some .local
   ·rw [if_pos q,zFi _ _ (fun v=> ?_),Option.or_none]
    exact beq_iff_eq.mpr q
   ·rw [if_neg q,zBv _ _ fun v=> ?_]
    exact beq_eq_false_iff_ne.mpr q
  rw [e] at this;exact this
 ·intro p hp
  refine zAi hp fun x hx=> ?_
  refine bc fun nn=> ?_
  obtain ⟨ob,ho,hd⟩:=I.cell x.1 x.2 (lkc x hx)
  refine nn ?_
  have:=zLk (h:=s₁.heap) (k:=(callEnvC fd C.s₀.heap.objs.size f).kindOf) (f:=fun _=> none) (o:=fun _=> none) ok.nd hl (i.mono pk) (fun _=> trivial) x.1
  have nl:(callEnvC fd C.s₀.heap.objs.size f).kindOf x.1 ≠ some .local:=hcl _ x hx
  rw [if_neg nl,Option.or_none] at this
  exact ⟨ob,_,ho,hd,this⟩
 ·show (C.s₀.heap.objs.size :: zA3 _).Nodup
  rw [ow]
  refine List.nodup_cons.mpr ⟨fun hm=> ?_,?_⟩
  ·obtain ⟨x,hx,e⟩:=List.mem_map.mp hm
   have:=big x hx;lia
  ·exact List.Pairwise.map _ (fun a b h=> h) I.apart
 ·intro a ha
  rw [ow] at ha
  rcases List.mem_cons.mp ha with rfl | ha
  ·exact zAa (Nat.le_refl _)
  ·refine zAi ha fun x hx=> ?_
   exact zAa (Nat.le_of_lt (big x hx))
theorem zTj {a:Addr} {l:List V} {ys:Array Value} {lo hi step:V} {Q} (hb:C.s₀.heap.IsList a ys) (il':∀ B h,IsL B h l ys.toList) (h1:zHo lo = true) (h2:zHo hi = true) (h3:zHo step = true) (h0:vpart step ≠ some 0) (hz:l.length ≤ 16000000)
    (q:∀ b,Q (.ref b) m ((b,.list (vpick l (vpart lo) (vpart hi) (vpart step))) :: H)):SlI C m H (.ref a) lo hi step Q:=by
 intro F s va vl vu vs value slice ops st ia il iu is hs
 cases ia
 have k:∀ b o,s.heap.get? b = some o → (s.heap.push (zB2 vl vu vs)).get? b = some o:=fun b o e=> Heap.get?_push_of_some _ e
 have st₁:=st.keeps (h':=s.heap.push (zB2 vl vu vs)) (tk:=s.toks) k
 refine bc fun nn=> ?_
 obtain ⟨o,hn,hc⟩:=hb
 refine nn ?_
 have hl:(s.heap.push (zB2 vl vu vs)).IsList a ys:=⟨o,k _ _ (st.raw _ _ (st.base _ _ hn)),hc⟩
 have iy:=il' C.ban (s.heap.push (zB2 vl vu vs))
 have hsz:ys.size ≤ sizeLine:=by
  rw [iy.size,sizeLine_eq];exact omT
 refine tail_any (T:="list") hl.typeIs slot_list_getitem.lookup ?_ hs
 refine wpAny_getItem_list_slice (hsz:=hsz) hl ⟨_,Heap.get?_push_size _ rfl,rfl,rfl⟩ (il.part h1) (iu.part h2) (is.part h3) h0 ?_
 have k2:∀ b o,(s.heap.push (zB2 vl vu vs)).get? b = some o → ((s.heap.push (zB2 vl vu vs)).push { cls:=.type "list",data:=.seq (slicePick ys (vpart lo) (vpart hi) (vpart step)) }).get? b = some o:=fun b o e=> Heap.get?_push_of_some _ e
 refine ⟨_,m,_,zB3,st₁.alloc (ao:=.list _) rfl rfl ⟨_,⟨_,Heap.get?_push_size _ rfl⟩,?_⟩,(Pres.keeps k).trans (Pres.keeps k2),q _⟩
 have z:=(iy.vpick (vpart lo) (vpart hi) (vpart step)).mono (Pres.keeps k2)
 rw [zD5]
 rw [zD5] at z
 simpa using z
end
section
variable {C:Cx} {m:Loc} {H:AH}
noncomputable def modF:V → Option V
 | .int k=> some (.int (k % 1000003))
 | _=> none
theorem zNl:∀ l:List Int,(l.map V.int).filterMap modF = (l.map (· % 1000003)).map V.int
 | []=> rfl
 | k :: r=> by
  have ih:=zNl r
  show List.filterMap modF (V.int k :: r.map V.int) = _
  rw [List.filterMap_cons_some (f:=modF) (a:=V.int k) (b:=V.int (k % 1000003)) rfl,ih];rfl
theorem zVq:Bld [("a",[]),("b",[])] :=
 zK7 (nodes:=[("a",[])]) (zK7 (nodes:=[]) ⟨.nil,fun x hx=> (by exact nM hx)⟩ (by decide) (by decide) (by decide) (fun k hk=> (by exact nM hk))) (by decide) (by decide) (by decide) (fun k hk=> (by exact nM hk))
set_option maxHeartbeats 8000000 in
theorem zSv {L:Addr} {X:(Addr → Option Obj) → Value → Shared → Prop} {xs:List Int} {ys:Array Value} {sc:Addr} {Q:V → Loc → AH → Prop} (hb:C.s₀.heap.IsList sc ys) (il:∀ B h,IsL B h (xs.map V.int) ys.toList) (hz:xs.length ≤ 63) (hfr:C.A.frames = some []) (hr:20 < C.n) (q:Q (.bool true) m []) :
    Ex (C.first (callEnvC (fd628 C.w).fd L 628) X) [("script",.ref sc)] [(L + 3,.cell none),(L + 2,.cell none),(L + 1,.cell none)] ((zEc C.w).s0 :: (zEc C.w).s1 :: (zEc C.w).r2) fun fl _ H'=> ∃ H'',Weak H' H'' ∧ Q fl.val m H'':=by
 show Ex _ _ _ (.Assign _ _ _ :: .Assign _ _ _ :: _) _
 walk_at "w"
 with_reducible refine zDv (by kernel_rfl) fun X'=> ?_
 walk_at "w"
 refine zAe rfl (scOk rfl) ?_ (fun _=> rfl)
 walk_at "w"
 refine zTj (l:=xs.map V.int) hb il rfl rfl rfl (by decide) (by exact omMap ‹_› rfl) fun D1=> ?_
 have ev:vpick (xs.map V.int) (vpart .none) (vpart (.int 60)) (vpart .none) = (xs.take 60).map V.int:=by
  refine (zO8 _ 60).trans ?_
  rw [List.map_take]
 rw [ev]
 have hz2:(xs.take 60).length ≤ 60:=by rw [List.length_take];lia
 refine zBk modF (zD0 (.head _)) (.head _) (by exact omMap ‹_› rfl) (fun L X x hx=> ?_) ?_
 ·refine zAi hx fun k hk=> ?_
  walk_at "w"
  refine ⟨fun _=> ?_,fun e=> bx e⟩
  walk_at "w"
  refine zM0 ?_
  walk_at "w"
  refine zIe (by decide) ?_
  exact ⟨rfl,Weak.refl _⟩
 rw [zNl]
 have hc:((xs.take 60).map (· % 1000003)).length ≤ 70:=by rw [List.length_map];exact omT
 generalize (xs.take 60).map (· % 1000003) = cs at hc ⊢
 intro fc
 walk_at "w"
 intro fd
 walk_at "w"
 refine Cd.call (zLo (by show 6 < C.n - 1;exact omR) fun st sd r=> ?_)
 refine T.weakPre (H':=(fd,.dictA [(.s "row",.ref fc),(.s "at",.int 0)]) :: (fc,.list (cs.map V.int)) :: (D1,.list ((xs.take 60).map V.int)) :: (L + 3,.cell none) :: (L + 2,.cell none) :: (L + 1,.cell none) :: StH st sd r (zAd [] []) j0 []) (Weak.perm (zGw [_,_,_,_,_,_]).symm) ?_
 walk_at "w"
 refine ⟨by exact om0 rfl,?_⟩
 refine zAl (a:=.ref fd) (b:=.ref st) rfl ?_
 refine zCh (c:=L + 1) rfl rfl (by walk_at "mm") ?_
 walk_at "w"
 refine zA5 (by walk_at "mm") rfl zAw ?_
 walk_at "w"
 refine ⟨by exact om0 rfl,?_⟩
 walk_at "w"
 refine ⟨by exact om0 rfl,?_⟩
 walk_at "w"
 refine ⟨by exact om0 rfl,fun no=> ?_⟩
 walk_at "w"
 refine ⟨by exact om0 rfl,fun pa=> ?_⟩
 walk_at "w"
 refine ⟨by exact om0 rfl,?_⟩
 refine zPp (a:=.ref r.w) (b:=.ref no) (c:=.ref pa) ?_
 walk_at "w"
 refine zCh (c:=L + 2) rfl rfl (by walk_at "mm") ?_
 walk_at "w"
 have h:=law_A (C:=C) (m:=m) (L:=L) (X:=X) (A:=⟨fd,fc,no,pa⟩) (sc:=sc) (st:=st) (sd:=sd) (r:=r) (K:=[]) (Q:=Q) zVq hfr rfl hc hr q
 exact T.weakPre (by walk_at "pk") h
end
theorem zT0 {B:Addr → Prop} {h:Heap}:∀ {vs:List Value} {ns:List Int},IntsAre vs ns → IsL B h (ns.map V.int) vs:=by
 intro vs ns i
 induction i with
 | nil=> rfl
 | cons n t _ ih=> exact .cons ⟨t,rfl⟩ ih
theorem zUx {C:Cx} {f:Addr} {oc:Value} {od:Option Addr} {osl:Array (Option Value)} {fd:FuncData} (names:List Str) {body:List Stmt} {args:List V} {vs:List Value} {Q:V → Prop} {E:Value → Shared → Prop} (ok0:Ok0 C)
    (ho:(KK C.w).lookup f = some ⟨oc,od,.func fd,osl⟩) (hb:fd.body = .stmts body) (bind:∀ vs:List Value,vs.length = names.length → bindArgs fd ⟨vs,[]⟩ = pure (names.zip vs)) (ok:okFnC C.w fd names = true)
    (hkind:∀ n,(names.all fun x=> decide (fd.scope.names.lookup x = some .local) || (decide (fd.scope.names.lookup x = some .cell) && ((cellsFrom n fd.scope.names []).lookup x).isSome)) = true)
    (hnd:∀ n,zEt ((cellsFrom n fd.scope.names []).map (·.1)) = true) (hcl:∀ n,((cellsFrom n fd.scope.names []).all fun x=> decide (fd.scope.names.lookup x.1 ≠ some .local)) = true)
    (hl:args.length = names.length) (hroom:0 < C.n) (i:IsL C.ban C.s₀.heap args vs)
    (h:∀ L X,Ex (C.first (callEnvC fd L f) X) (zE7 fd (names.zip args)) (zCz fd L f (names.zip args)) body fun fl _ H'=> Q fl.val) :
    wpAny (model C.prog C.w) C.A (call (.ref f) vs) (fun v s'=> EndOk C Q v s') E C.s₀:=by
 unfold okFnC at ok
 simp only [Bool.and_eq_true,Bool.not_eq_true',decide_eq_true_eq] at ok
 obtain ⟨⟨⟨⟨⟨⟨⟨h1,h2⟩,h3⟩,h4⟩,h5⟩,h6⟩,h7⟩,h8⟩:=ok
 refine wpAny_call (zU2 ok0 ho ⟨hb,bind,h1,zBu h2,h3,h4,h5,h6,h7⟩ hl hroom h8 (fun n x hx=> ?_) (fun n=> zBu (hnd n)) (fun n x hx=> ?_) h i)
 ·have:=List.all_eq_true.mp (hkind n) x hx
  simp only [Bool.or_eq_true,Bool.and_eq_true,decide_eq_true_eq] at this
  exact this
 ·have:=List.all_eq_true.mp (hcl n) x hx
  simpa using this
noncomputable def hCx (w:World) (s:Shared) (E:Value → Shared → Prop):Cx:=⟨PySem.Challenge.rw_sa0044_02.row.prog,w,s,callerA,callEnvC (fd628 w).fd 0 628,fun _=> E,60,fun _=> False,[]⟩
set_option maxHeartbeats 4000000 in
theorem zSu {w:World} {s:Shared} {E:Value → Shared → Prop} {xs:List Int} {ys:List Value} {sc:Addr} (ok0:Ok0 (hCx w s E)) (hL:s.heap.IsList sc ys.toArray) (hI:IntsAre ys xs) (hz:xs.length ≤ 63) :
    wpAny (model PySem.Challenge.rw_sa0044_02.row.prog w) callerA (call (.ref 628) [.ref sc]) (fun v s'=> EndOk (hCx w s E) (fun v=> v = .bool true) v s') E s:=by
 refine zUx (C:=hCx w s E) (args:=[.ref sc]) ["script"] ok0 (fd628 (hCx w s E).w).h (zEc (hCx w s E).w).h (vl1 fun _=> rfl) rfl (fun _=> rfl) (fun _=> rfl) (fun _=> rfl) rfl (by show 0 < 60;decide) (.cons rfl .nil) fun L X=> ?_
 change Ex _ [("script",.ref sc)] [(L + 3,.cell none),(L + 2,.cell none),(L + 1,.cell none)] _ _
 have h:=zSv (C:=hCx w s E) (m:=[]) (L:=L) (X:=X) (xs:=xs) (ys:=ys.toArray) (sc:=sc) (Q:=fun v _ _=> v = .bool true) hL (fun B h=> by rw [List.toList_toArray];exact zT0 hI) hz rfl (by show 20 < 60;decide) rfl
 refine T.conseq h fun fl m' H' z=> ?_
 obtain ⟨_,_,q⟩:=z
 exact q
theorem zV4 (args:List WData):PySem.Challenge.rw_sa0044_02.row.claim.post args (.bool true) args = true:=by
 show WTm.holds [] (.eq .res (.lit (.bool true))) _ = true
 unfold WTm.holds
 rw [WTm.value,WTm.value,WTm.value]
 dsimp only
 have e:same (.bool true) (.bool true) = true:=by decide +kernel
 rw [e]
theorem zVm:(PySem.Challenge.rw_sa0044_02.row.prog.main.file == ("/claim/cut.py":Str)) = true:=by decide +kernel
theorem zSo:(PySem.Challenge.rw_sa0044_02.row.prog.main.scope.names.lookup ("super":Str)).isSome = false:=by decide +kernel
end Mine
end
namespace Mine
namespace all_holds
theorem tw5629146783420898984:True:=⟨⟩
theorem tw12645619513061998005:True:=⟨⟩
theorem tw12804432339743745593:True:=⟨⟩
theorem tw1982615696608599333:True:=⟨⟩
theorem tw10109548678190041248:True:=⟨⟩
theorem tw10384687008684158093:True:=⟨⟩
theorem tw2284641383361828652:True:=⟨⟩
theorem tw16558478457239469462:True:=⟨⟩
theorem tw9505180104083287047:True:=⟨⟩
theorem tw16429681259971266449:True:=⟨⟩
theorem tw2739100685875518513:True:=⟨⟩
theorem tw4038021994316452167:True:=⟨⟩
theorem tw10175884459808422038:True:=⟨⟩
theorem tw16283361997086023904:True:=⟨⟩
theorem tw16370671592561607369:True:=⟨⟩
theorem tw16780148283187360242:True:=⟨⟩
theorem tw10193564307866472588:True:=⟨⟩
theorem tw326253293332084273:True:=⟨⟩
theorem tw8656389474359404831:True:=⟨⟩
theorem tw5322972793047548907:True:=⟨⟩
theorem tw13581668716680922859:True:=⟨⟩
theorem tw783995587676899254:True:=⟨⟩
theorem tw10265404016972864079:True:=⟨⟩
theorem tw4010979963421956495:True:=⟨⟩
theorem tw14407841892042509041:True:=⟨⟩
theorem tw15170758932302649452:True:=⟨⟩
theorem tw7232820504906471727:True:=⟨⟩
theorem tw6213370615916338602:True:=⟨⟩
theorem tw6483229106543440255:True:=⟨⟩
theorem tw14312468454349512350:True:=⟨⟩
theorem tw16805553838239254034:True:=⟨⟩
theorem tw10175569377421951226:True:=⟨⟩
theorem tw1164156014489005740:True:=⟨⟩
theorem tw10428082840143852173:True:=⟨⟩
theorem tw5871064770571656134:True:=⟨⟩
theorem tw14476630349526804252:True:=⟨⟩
theorem tw11230118047189593808:True:=⟨⟩
theorem tw4628753238702175506:True:=⟨⟩
theorem tw11234382599480384427:True:=⟨⟩
theorem tw6589080101160315550:True:=⟨⟩
theorem tw12604158874561834474:True:=⟨⟩
theorem tw9351779835075753602:True:=⟨⟩
theorem tw14022319610329432701:True:=⟨⟩
theorem tw2225140378205201188:True:=⟨⟩
theorem tw18106571010608241632:True:=⟨⟩
theorem tw8480437137151398746:True:=⟨⟩
theorem tw6060523666991876594:True:=⟨⟩
theorem tw1359830689912364338:True:=⟨⟩
theorem tw7474318290209071993:True:=⟨⟩
theorem tw2538495102944502159:True:=⟨⟩
theorem tw12395454869368708465:True:=⟨⟩
theorem tw3660379977637576499:True:=⟨⟩
theorem tw10134546517479240685:True:=⟨⟩
theorem tw10917953447458524578:True:=⟨⟩
theorem tw14552429582845022558:True:=⟨⟩
theorem tw5279858478117418306:True:=⟨⟩
theorem tw3658642881300111052:True:=⟨⟩
theorem tw12935408103449285789:True:=⟨⟩
theorem tw6031284797397281268:True:=⟨⟩
theorem tw66788661612663968:True:=⟨⟩
theorem tw10051669662657436204:True:=⟨⟩
theorem tw3458360010633963179:True:=⟨⟩
theorem tw9158635118345435309:True:=⟨⟩
theorem tw4380728998570845780:True:=⟨⟩
theorem tw7829457524148730361:True:=⟨⟩
theorem tw866895274688535178:True:=⟨⟩
theorem tw9519071540860185553:True:=⟨⟩
theorem tw8093528934366286357:True:=⟨⟩
theorem tw11008496910352798353:True:=⟨⟩
theorem tw3516132868730030961:True:=⟨⟩
theorem tw8498879082465781527:True:=⟨⟩
theorem tw12450309462642836508:True:=⟨⟩
theorem tw13982532109926222788:True:=⟨⟩
theorem tw14085824075015549591:True:=⟨⟩
theorem tw17917707006218130392:True:=⟨⟩
theorem tw1809930953424571237:True:=⟨⟩
theorem tw3745671642875166592:True:=⟨⟩
theorem tw9304140632173258904:True:=⟨⟩
theorem tw13064262881994117905:True:=⟨⟩
theorem tw13061706338589003328:True:=⟨⟩
theorem tw16413001508665336419:True:=⟨⟩
theorem tw15627802454798831762:True:=⟨⟩
theorem tw139799551986167932:True:=⟨⟩
theorem tw13246863089172178061:True:=⟨⟩
theorem tw3422869130372469503:True:=⟨⟩
theorem tw16891746744134464560:True:=⟨⟩
theorem tw13788530004249366709:True:=⟨⟩
theorem tw13506453588751571422:True:=⟨⟩
theorem tw12777810176128546833:True:=⟨⟩
theorem tw6693147945586083464:True:=⟨⟩
theorem tw16036599556882370094:True:=⟨⟩
theorem tw12087548111736044827:True:=⟨⟩
theorem tw17274716820653849398:True:=⟨⟩
theorem tw15011094255006549259:True:=⟨⟩
theorem tw17604478318041793559:True:=⟨⟩
theorem tw12879035991393369387:True:=⟨⟩
theorem tw2542750836318313712:True:=⟨⟩
theorem tw12776891917210751579:True:=⟨⟩
theorem tw14891068648042545265:True:=⟨⟩
theorem tw1637613751129224828:True:=⟨⟩
theorem tw18304492747806532267:True:=⟨⟩
theorem tw2213770181458262798:True:=⟨⟩
theorem tw18164795900465507600:True:=⟨⟩
theorem tw15938609840460811715:True:=⟨⟩
theorem tw1437288804663684800:True:=⟨⟩
theorem tw15475325427151880188:True:=⟨⟩
theorem tw1685020103966695500:True:=⟨⟩
theorem tw16271732166572718568:True:=⟨⟩
theorem tw2025569376631687688:True:=⟨⟩
theorem tw14716134772890426835:True:=⟨⟩
theorem tw102130030077945771:True:=⟨⟩
theorem tw6678813878675337188:True:=⟨⟩
theorem tw8469994683586040972:True:=⟨⟩
theorem tw12939877259854866081:True:=⟨⟩
theorem tw11540444221621378414:True:=⟨⟩
theorem tw18199953888672930926:True:=⟨⟩
theorem tw1436264886281784487:True:=⟨⟩
theorem tw5732582896711713915:True:=⟨⟩
theorem tw13132282739797873273:True:=⟨⟩
theorem tw13746181482664250644:True:=⟨⟩
theorem tw5008742330127226886:True:=⟨⟩
theorem tw12090610536808134778:True:=⟨⟩
theorem tw3630547427882989536:True:=⟨⟩
theorem tw8349416040171915473:True:=⟨⟩
theorem tw17816171693271421149:True:=⟨⟩
theorem tw793038875404742538:True:=⟨⟩
theorem tw6495384177589946780:True:=⟨⟩
theorem tw9378237051414150413:True:=⟨⟩
theorem tw3831059734720934423:True:=⟨⟩
theorem tw11311003812048533774:True:=⟨⟩
theorem tw11100408630667622348:True:=⟨⟩
theorem tw1187173586057970366:True:=⟨⟩
theorem tw5129012393824334501:True:=⟨⟩
theorem tw7768973333075736903:True:=⟨⟩
theorem tw2464816129670822799:True:=⟨⟩
theorem tw8527821212947605224:True:=⟨⟩
theorem tw15286884807426486487:True:=⟨⟩
theorem tw4235526975683799246:True:=⟨⟩
theorem tw18398036791652117695:True:=⟨⟩
theorem tw8681862152218439814:True:=⟨⟩
theorem tw10085390114483727018:True:=⟨⟩
theorem tw2007171647086593494:True:=⟨⟩
theorem tw12055439763320509739:True:=⟨⟩
theorem tw5447138759565456512:True:=⟨⟩
theorem tw6072043328939727519:True:=⟨⟩
theorem tw14500543764189875965:True:=⟨⟩
theorem tw9488803313291915872:True:=⟨⟩
theorem tw8440499588669023365:True:=⟨⟩
theorem tw4772978867845924927:True:=⟨⟩
theorem tw7646465506250914031:True:=⟨⟩
theorem tw18156292586190642209:True:=⟨⟩
theorem tw4896167421824252970:True:=⟨⟩
theorem tw156303850952358020:True:=⟨⟩
theorem tw522766978403187885:True:=⟨⟩
theorem tw16635105629326981599:True:=⟨⟩
theorem tw792041773132520908:True:=⟨⟩
theorem tw2270608445396722138:True:=⟨⟩
theorem tw6435086584011678948:True:=⟨⟩
theorem tw5394583047573044956:True:=⟨⟩
theorem tw16560699710764650684:True:=⟨⟩
theorem tw9813302130168315308:True:=⟨⟩
theorem tw4866905316675354032:True:=⟨⟩
theorem tw17931754711171414106:True:=⟨⟩
theorem tw11342534452292575314:True:=⟨⟩
theorem tw399112102196015555:True:=⟨⟩
theorem tw17575805716670587687:True:=⟨⟩
theorem tw5302348550628037159:True:=⟨⟩
theorem tw16507912853321840230:True:=⟨⟩
theorem tw10714825792538933981:True:=⟨⟩
theorem tw9178936762776635515:True:=⟨⟩
theorem tw17022664400822411221:True:=⟨⟩
theorem tw17456713590341486800:True:=⟨⟩
theorem tw5707423473668963806:True:=⟨⟩
theorem tw13747970721792838408:True:=⟨⟩
theorem tw16890091714937220953:True:=⟨⟩
theorem tw16267266776957758889:True:=⟨⟩
theorem tw18106367841181157138:True:=⟨⟩
theorem tw10759708896893519630:True:=⟨⟩
theorem tw9079484072327329091:True:=⟨⟩
theorem tw13539050448466235320:True:=⟨⟩
theorem tw9548977150745060580:True:=⟨⟩
theorem tw7697491169267254249:True:=⟨⟩
theorem tw17576204976926241717:True:=⟨⟩
theorem tw120794924364457475:True:=⟨⟩
theorem tw9877882771498268511:True:=⟨⟩
theorem tw1558637813404119816:True:=⟨⟩
theorem tw6553705928008580387:True:=⟨⟩
theorem tw11911003428742420808:True:=⟨⟩
theorem tw6515920519923762014:True:=⟨⟩
theorem tw9124401849095778694:True:=⟨⟩
theorem tw18237517741375212095:True:=⟨⟩
theorem tw5640114586365256212:True:=⟨⟩
theorem tw10003615420858013932:True:=⟨⟩
theorem tw11747105871870137149:True:=⟨⟩
theorem tw8025412826633848014:True:=⟨⟩
theorem tw7370510087867389838:True:=⟨⟩
theorem tw4297599894664972049:True:=⟨⟩
theorem tw17251596455583750426:True:=⟨⟩
theorem tw10854254704289777601:True:=⟨⟩
theorem tw1494443157333344213:True:=⟨⟩
theorem tw5830528884614428189:True:=⟨⟩
theorem tw5069492939648370849:True:=⟨⟩
theorem tw17380911597353330484:True:=⟨⟩
theorem tw11036282523022932564:True:=⟨⟩
theorem tw11819413148617725421:True:=⟨⟩
theorem tw8939493591597968497:True:=⟨⟩
theorem tw16241012142183630037:True:=⟨⟩
theorem tw15941257831433459413:True:=⟨⟩
theorem tw12319391715097185010:True:=⟨⟩
theorem tw11532225143389286963:True:=⟨⟩
theorem tw14998212112814235919:True:=⟨⟩
theorem tw13714443762132710201:True:=⟨⟩
theorem tw15688065077182203513:True:=⟨⟩
theorem tw15244294461418296055:True:=⟨⟩
theorem tw6643479623655116392:True:=⟨⟩
theorem tw5257358534767742909:True:=⟨⟩
theorem tw12486298160577753705:True:=⟨⟩
theorem tw11352819252012844936:True:=⟨⟩
theorem tw5616608916563359960:True:=⟨⟩
theorem tw18230986262190504997:True:=⟨⟩
theorem tw8297759732454935615:True:=⟨⟩
theorem tw5818909358468415288:True:=⟨⟩
theorem tw1913415825393588317:True:=⟨⟩
theorem tw10243389305213119510:True:=⟨⟩
theorem tw4418516063271515860:True:=⟨⟩
theorem tw4690483370583525123:True:=⟨⟩
theorem tw2592235665513768301:True:=⟨⟩
theorem tw9004415497289974632:True:=⟨⟩
theorem tw15220884908768802267:True:=⟨⟩
theorem tw11294297757542576053:True:=⟨⟩
theorem tw8004868698266225073:True:=⟨⟩
theorem tw5259030300930705196:True:=⟨⟩
theorem tw6261631801639251958:True:=⟨⟩
theorem tw15724065876331941275:True:=⟨⟩
theorem tw17431145304529284937:True:=⟨⟩
theorem tw13306525660351153620:True:=⟨⟩
theorem tw14859741638210037719:True:=⟨⟩
theorem tw8203850441156146941:True:=⟨⟩
theorem tw5436667370205060181:True:=⟨⟩
theorem tw9131244002240091963:True:=⟨⟩
theorem tw2744443152901116483:True:=⟨⟩
theorem tw11903281264324572155:True:=⟨⟩
theorem tw9136635753298984944:True:=⟨⟩
theorem tw8716497410155586290:True:=⟨⟩
theorem tw4469204167771121813:True:=⟨⟩
theorem tw15634810663089674040:True:=⟨⟩
theorem tw13128494460056736012:True:=⟨⟩
theorem tw11627723866737215900:True:=⟨⟩
theorem tw17987951228712184912:True:=⟨⟩
theorem tw15231014761552344668:True:=⟨⟩
theorem tw3216382255990898353:True:=⟨⟩
theorem tw18247617775099523141:True:=⟨⟩
theorem tw17710236918351300029:True:=⟨⟩
theorem tw13396265075820027423:True:=⟨⟩
theorem tw2682810765050783493:True:=⟨⟩
theorem tw5331827101469829485:True:=⟨⟩
theorem tw16204187119562972231:True:=⟨⟩
theorem tw3535256463413961971:True:=⟨⟩
theorem tw13668616362596080798:True:=⟨⟩
theorem tw14348199894529004641:True:=⟨⟩
theorem tw2730217685186853372:True:=⟨⟩
theorem tw14914848952357550377:True:=⟨⟩
theorem tw14423074340777134756:True:=⟨⟩
theorem tw5205593408317866924:True:=⟨⟩
theorem tw3559178283374859798:True:=⟨⟩
theorem tw15504823996147859481:True:=⟨⟩
theorem tw7447520094640880239:True:=⟨⟩
theorem tw2583201082815047796:True:=⟨⟩
theorem tw12650367567525385377:True:=⟨⟩
theorem tw10374007252565321533:True:=⟨⟩
theorem tw6427727416921856764:True:=⟨⟩
theorem tw4883463245002373367:True:=⟨⟩
theorem tw16282796206635583438:True:=⟨⟩
theorem tw8371566313854922229:True:=⟨⟩
theorem tw2817703435172113038:True:=⟨⟩
theorem tw14140285928889135652:True:=⟨⟩
theorem tw3928746810625567188:True:=⟨⟩
theorem tw10026332181368481682:True:=⟨⟩
theorem tw9878285261989833327:True:=⟨⟩
theorem tw745491294298768746:True:=⟨⟩
theorem tw6641536528686478339:True:=⟨⟩
theorem tw6352576148961486321:True:=⟨⟩
theorem tw5490627171626367074:True:=⟨⟩
theorem tw5010441419822798047:True:=⟨⟩
theorem tw4275631031710764159:True:=⟨⟩
theorem tw2079041915113396995:True:=⟨⟩
theorem tw15507515029065198612:True:=⟨⟩
theorem tw14765313240771333005:True:=⟨⟩
theorem tw10722559705329695938:True:=⟨⟩
theorem tw10399322802661967042:True:=⟨⟩
theorem tw9639851970079027657:True:=⟨⟩
theorem tw8922175674621621176:True:=⟨⟩
theorem tw7130680239057744806:True:=⟨⟩
theorem tw600281103472172998:True:=⟨⟩
theorem tw5978467386350483709:True:=⟨⟩
theorem tw5222798818169430761:True:=⟨⟩
theorem tw3932537104205986287:True:=⟨⟩
theorem tw3870220229949378406:True:=⟨⟩
theorem tw3757614915605641106:True:=⟨⟩
theorem tw2382948838842168390:True:=⟨⟩
theorem tw18346946635606137927:True:=⟨⟩
theorem tw15826060415544963310:True:=⟨⟩
theorem tw12357180398889558633:True:=⟨⟩
theorem tw11510265696633088602:True:=⟨⟩
theorem tw11085308911923893491:True:=⟨⟩
theorem tw10039161946512678384:True:=⟨⟩
theorem tw16720652499064695501:True:=⟨⟩
theorem tw8704383002861266037:True:=⟨⟩
theorem tw12565552059220834079:True:=⟨⟩
theorem tw11591390301340867542:True:=⟨⟩
theorem tw14233201387438367444:True:=⟨⟩
theorem tw15707262631923516963:True:=⟨⟩
theorem tw4649801262521321930:True:=⟨⟩
theorem tw4913468855613084707:True:=⟨⟩
theorem tw14808882942427429005:True:=⟨⟩
theorem tw11857070681193612430:True:=⟨⟩
theorem tw4825217631500557091:True:=⟨⟩
theorem tw1522614576023933035:True:=⟨⟩
theorem tw8335018154204608181:True:=⟨⟩
theorem tw5736174436700568574:True:=⟨⟩
theorem tw6708277112385842863:True:=⟨⟩
theorem tw6040024325123359080:True:=⟨⟩
theorem tw9167209566124868921:True:=⟨⟩
theorem tw596485336823666057:True:=⟨⟩
theorem tw2254824289519102531:True:=⟨⟩
theorem tw15532482300690941753:True:=⟨⟩
theorem tw14404517923919644002:True:=⟨⟩
theorem tw14158115304835292223:True:=⟨⟩
theorem tw1301817207661825107:True:=⟨⟩
theorem tw11668743248843619989:True:=⟨⟩
theorem tw8766080525665989859:True:=⟨⟩
theorem tw6084014965668060270:True:=⟨⟩
theorem tw4971965452366108598:True:=⟨⟩
theorem tw18301763959805303403:True:=⟨⟩
theorem tw16035998358685455541:True:=⟨⟩
theorem tw13655773194365775243:True:=⟨⟩
theorem tw10051206938755394043:True:=⟨⟩
theorem tw11414415981185107298:True:=⟨⟩
theorem tw16404799098263348546:True:=⟨⟩
theorem tw8318402074675077697:True:=⟨⟩
theorem tw18277410907775379852:True:=⟨⟩
theorem tw18080248171534988423:True:=⟨⟩
theorem tw13468976110314187886:True:=⟨⟩
theorem tw9881625231860924330:True:=⟨⟩
theorem tw8333146095432640916:True:=⟨⟩
theorem tw851595398980913036:True:=⟨⟩
theorem tw714689102413964881:True:=⟨⟩
theorem tw6356496694766820317:True:=⟨⟩
theorem tw18170862690757913847:True:=⟨⟩
theorem tw13385269179373207933:True:=⟨⟩
theorem tw12975389902697607193:True:=⟨⟩
theorem tw11148593578908391009:True:=⟨⟩
theorem tw6479041124244783642:True:=⟨⟩
theorem tw16805349290872591779:True:=⟨⟩
theorem tw16349159281377352072:True:=⟨⟩
theorem tw15031276911372722217:True:=⟨⟩
theorem tw14105429097530297202:True:=⟨⟩
theorem tw1075853844792877133:True:=⟨⟩
theorem tw10144199058680005717:True:=⟨⟩
theorem tw14660226304258176696:True:=⟨⟩
theorem tw5167567445259662004:True:=⟨⟩
theorem tw11513818025383563378:True:=⟨⟩
theorem tw14930714822227900859:True:=⟨⟩
theorem tw4028585344248356617:True:=⟨⟩
theorem tw3744724002331314316:True:=⟨⟩
theorem tw12102353319973854081:True:=⟨⟩
theorem tw3985893267363427578:True:=⟨⟩
theorem tw17890422218998196764:True:=⟨⟩
theorem tw8908737573118926134:True:=⟨⟩
theorem tw13154707105716024102:True:=⟨⟩
theorem tw6924055715289815022:True:=⟨⟩
theorem tw18319501321579589064:True:=⟨⟩
theorem tw2418721424834300350:True:=⟨⟩
theorem tw10798683470109426279:True:=⟨⟩
theorem tw4736423209109894652:True:=⟨⟩
theorem tw17918272859591627050:True:=⟨⟩
theorem tw15235040738882407220:True:=⟨⟩
theorem tw12961957308898151676:True:=⟨⟩
theorem tw12144233520654066776:True:=⟨⟩
theorem tw7565983060886749672:True:=⟨⟩
theorem tw2733084217800715812:True:=⟨⟩
theorem tw2292155494200018048:True:=⟨⟩
theorem tw6009586004268696356:True:=⟨⟩
theorem tw3232532559117475454:True:=⟨⟩
theorem tw8771270135054154978:True:=⟨⟩
theorem tw8685881023836744135:True:=⟨⟩
theorem tw7964614754933231834:True:=⟨⟩
theorem tw7488904526593443503:True:=⟨⟩
theorem tw6497035597409813257:True:=⟨⟩
theorem tw5618954821388150930:True:=⟨⟩
theorem tw5617924241074089704:True:=⟨⟩
theorem tw4040618800973491873:True:=⟨⟩
theorem tw2474425535875110753:True:=⟨⟩
theorem tw18270206892382454304:True:=⟨⟩
theorem tw18019170694096613850:True:=⟨⟩
theorem tw17833602431976685879:True:=⟨⟩
theorem tw17698132139750468131:True:=⟨⟩
theorem tw17653470786513234111:True:=⟨⟩
theorem tw17041018369282119584:True:=⟨⟩
theorem tw15604780600599634762:True:=⟨⟩
theorem tw14829712386768992373:True:=⟨⟩
theorem tw12735154894021108672:True:=⟨⟩
theorem tw12517499268095174430:True:=⟨⟩
theorem tw10980507863913523931:True:=⟨⟩
theorem tw10979515137232515775:True:=⟨⟩
theorem tw10593545967968534356:True:=⟨⟩
theorem tw10311883064118269299:True:=⟨⟩
theorem tw3459079820109062767:True:=⟨⟩
theorem tw1682847642287315109:True:=⟨⟩
theorem tw9376206509711313282:True:=⟨⟩
theorem tw6593200866348016678:True:=⟨⟩
theorem tw584710756258799666:True:=⟨⟩
theorem tw5075076426961950437:True:=⟨⟩
theorem tw5031588179465454396:True:=⟨⟩
theorem tw4063857875943508455:True:=⟨⟩
theorem tw3829936568727498429:True:=⟨⟩
theorem tw3195603328231837426:True:=⟨⟩
theorem tw16658917370186742867:True:=⟨⟩
theorem tw15114792175232501239:True:=⟨⟩
theorem tw6822711290088691362:True:=⟨⟩
theorem tw4890586490123400571:True:=⟨⟩
theorem tw15167195380832374587:True:=⟨⟩
theorem tw17188195278012340398:True:=⟨⟩
theorem tw14342052832511177081:True:=⟨⟩
theorem tw11247744471712189833:True:=⟨⟩
theorem tw7238116700631000710:True:=⟨⟩
theorem tw86147145070378410:True:=⟨⟩
theorem tw7575978887819536271:True:=⟨⟩
theorem tw4771409974062449708:True:=⟨⟩
theorem tw4552823439315304995:True:=⟨⟩
theorem tw2612672069594489828:True:=⟨⟩
theorem tw15956880480961941068:True:=⟨⟩
theorem tw12293141163748500676:True:=⟨⟩
theorem tw11715713941365882921:True:=⟨⟩
theorem tw4704567386715469959:True:=⟨⟩
theorem tw7503674085927307978:True:=⟨⟩
theorem tw94774501465019300:True:=⟨⟩
theorem tw8565462118141890732:True:=⟨⟩
theorem tw7110806249330539097:True:=⟨⟩
theorem tw6331217461744244195:True:=⟨⟩
theorem tw6301172650688413340:True:=⟨⟩
theorem tw5262079213113135857:True:=⟨⟩
theorem tw3578826278008829958:True:=⟨⟩
theorem tw3478998770114436884:True:=⟨⟩
theorem tw2657679297346063320:True:=⟨⟩
theorem tw2599771498166521701:True:=⟨⟩
theorem tw2433987087308937537:True:=⟨⟩
theorem tw1915811445008830732:True:=⟨⟩
theorem tw15996697224624427490:True:=⟨⟩
theorem tw15830120963303576656:True:=⟨⟩
theorem tw15506897364601523456:True:=⟨⟩
theorem tw14912558815147539147:True:=⟨⟩
theorem tw14657421921705306203:True:=⟨⟩
theorem tw14185494485118363831:True:=⟨⟩
theorem tw1388357905827547057:True:=⟨⟩
theorem tw125849343286128919:True:=⟨⟩
theorem tw11935146128076624904:True:=⟨⟩
theorem tw10307810298600553828:True:=⟨⟩
theorem tw7100816264715399368:True:=⟨⟩
theorem tw16649854285284016772:True:=⟨⟩
theorem tw1636570107457499252:True:=⟨⟩
theorem tw16186806154152423704:True:=⟨⟩
theorem tw9927093658442714021:True:=⟨⟩
theorem tw9913192693684195135:True:=⟨⟩
theorem tw9798774677062555619:True:=⟨⟩
theorem tw9769347359570308912:True:=⟨⟩
theorem tw9744542967218601390:True:=⟨⟩
theorem tw9708382355239584442:True:=⟨⟩
theorem tw965100097065854278:True:=⟨⟩
theorem tw9633214040806789360:True:=⟨⟩
theorem tw9500398138354137489:True:=⟨⟩
theorem tw9454085503416269205:True:=⟨⟩
theorem tw9334313724415806166:True:=⟨⟩
theorem tw9323731554884554399:True:=⟨⟩
theorem tw9290933758246888970:True:=⟨⟩
theorem tw9151956267040031308:True:=⟨⟩
theorem tw909682812059482732:True:=⟨⟩
theorem tw900780751827288593:True:=⟨⟩
theorem tw8881295171388142643:True:=⟨⟩
theorem tw8756318906279097075:True:=⟨⟩
theorem tw8743420526627746180:True:=⟨⟩
theorem tw86850983525488018:True:=⟨⟩
theorem tw8552623338254136059:True:=⟨⟩
theorem tw8550666450095418371:True:=⟨⟩
theorem tw8363793306329848351:True:=⟨⟩
theorem tw821029333939823325:True:=⟨⟩
theorem tw8208825878483152790:True:=⟨⟩
theorem tw8104276668113766817:True:=⟨⟩
theorem tw7947070630388318999:True:=⟨⟩
theorem tw7935970865532635082:True:=⟨⟩
theorem tw762122778639498973:True:=⟨⟩
theorem tw7574204181410808265:True:=⟨⟩
theorem tw7545004374311374330:True:=⟨⟩
theorem tw7499981635143797521:True:=⟨⟩
theorem tw7431982049041242534:True:=⟨⟩
theorem tw7328514771526487459:True:=⟨⟩
theorem tw7310226322107787194:True:=⟨⟩
theorem tw7307203439663030115:True:=⟨⟩
theorem tw7295975347644614226:True:=⟨⟩
theorem tw7123599240432061172:True:=⟨⟩
theorem tw7112244900901728193:True:=⟨⟩
theorem tw7102686512379844573:True:=⟨⟩
theorem tw6696084774933582995:True:=⟨⟩
theorem tw6574643450453431372:True:=⟨⟩
theorem tw6565546167059890836:True:=⟨⟩
theorem tw6397861935159388110:True:=⟨⟩
theorem tw63485472342606535:True:=⟨⟩
theorem tw6339811580782781475:True:=⟨⟩
theorem tw6312768785455192613:True:=⟨⟩
theorem tw6260807206803060396:True:=⟨⟩
theorem tw6249428983489540374:True:=⟨⟩
theorem tw6108229625908722249:True:=⟨⟩
theorem tw6061862595942873363:True:=⟨⟩
theorem tw6048665733187599354:True:=⟨⟩
theorem tw5985560295253975343:True:=⟨⟩
theorem tw5849254777548898648:True:=⟨⟩
theorem tw5730619231678207717:True:=⟨⟩
theorem tw568423877094472171:True:=⟨⟩
theorem tw5626431564886511542:True:=⟨⟩
theorem tw5331726873961166667:True:=⟨⟩
theorem tw5208225521122317756:True:=⟨⟩
theorem tw5157221971327602634:True:=⟨⟩
theorem tw5150027149277534904:True:=⟨⟩
theorem tw5101804316493672126:True:=⟨⟩
theorem tw5088447903320854416:True:=⟨⟩
theorem tw5070268060092051247:True:=⟨⟩
theorem tw5022788072005688810:True:=⟨⟩
theorem tw4991908880863821003:True:=⟨⟩
theorem tw4936048654784794209:True:=⟨⟩
theorem tw4674790044626503879:True:=⟨⟩
theorem tw4649547627389107851:True:=⟨⟩
theorem tw4608335737675303060:True:=⟨⟩
theorem tw4565105773365894706:True:=⟨⟩
theorem tw4505828978065530799:True:=⟨⟩
theorem tw4389904437010578544:True:=⟨⟩
theorem tw4218079142953439143:True:=⟨⟩
theorem tw4158048151822727663:True:=⟨⟩
theorem tw415307523566786914:True:=⟨⟩
theorem tw4151323953197819294:True:=⟨⟩
theorem tw4050615745517191517:True:=⟨⟩
theorem tw3854972671241891996:True:=⟨⟩
theorem tw3752069863333149259:True:=⟨⟩
theorem tw3685967830545835566:True:=⟨⟩
theorem tw3526543668382667697:True:=⟨⟩
theorem tw3481666732765503941:True:=⟨⟩
theorem tw344471535690007106:True:=⟨⟩
theorem tw3423504133115008819:True:=⟨⟩
theorem tw3351727334958979004:True:=⟨⟩
theorem tw3309963658668949030:True:=⟨⟩
theorem tw3176517060632101845:True:=⟨⟩
theorem tw3132983704529503980:True:=⟨⟩
theorem tw2984172600297035555:True:=⟨⟩
theorem tw2844575333774794192:True:=⟨⟩
theorem tw2768572019615024732:True:=⟨⟩
theorem tw2733340438656254959:True:=⟨⟩
theorem tw2732686320021785475:True:=⟨⟩
theorem tw2683585929351796753:True:=⟨⟩
theorem tw2620696512203261290:True:=⟨⟩
theorem tw2558894553860910353:True:=⟨⟩
theorem tw2481814830777050498:True:=⟨⟩
theorem tw2349844794918565768:True:=⟨⟩
theorem tw2195299752985207135:True:=⟨⟩
theorem tw2191707439904363349:True:=⟨⟩
theorem tw2152068352488861065:True:=⟨⟩
theorem tw2149253983184857746:True:=⟨⟩
theorem tw2108168117584010826:True:=⟨⟩
theorem tw2051843472587715791:True:=⟨⟩
theorem tw2021765514855120139:True:=⟨⟩
theorem tw1954231381159877381:True:=⟨⟩
theorem tw1856183413012815822:True:=⟨⟩
theorem tw1847863085345681154:True:=⟨⟩
theorem tw18435618093222102393:True:=⟨⟩
theorem tw18417681827581201825:True:=⟨⟩
theorem tw18352569302569658798:True:=⟨⟩
theorem tw18225902883236424179:True:=⟨⟩
theorem tw18157937899378565936:True:=⟨⟩
theorem tw18111452185668571025:True:=⟨⟩
theorem tw18101175885328221266:True:=⟨⟩
theorem tw18093156315795136574:True:=⟨⟩
theorem tw18030730308973307759:True:=⟨⟩
theorem tw18020596081384632152:True:=⟨⟩
theorem tw17975288861764178773:True:=⟨⟩
theorem tw17973666188670933755:True:=⟨⟩
theorem tw17969659920317262108:True:=⟨⟩
theorem tw17940749473541953431:True:=⟨⟩
theorem tw17910081967731014895:True:=⟨⟩
theorem tw17861148295375298100:True:=⟨⟩
theorem tw17839264406466220902:True:=⟨⟩
theorem tw17768006804568789263:True:=⟨⟩
theorem tw17695135931759702684:True:=⟨⟩
theorem tw17657051173875292857:True:=⟨⟩
theorem tw17651832960183170737:True:=⟨⟩
theorem tw17634819419149597970:True:=⟨⟩
theorem tw17537912595347956580:True:=⟨⟩
theorem tw17533977286448036257:True:=⟨⟩
theorem tw17508508158893747051:True:=⟨⟩
theorem tw17442262991746490834:True:=⟨⟩
theorem tw17337086510288483012:True:=⟨⟩
theorem tw17296630440794438643:True:=⟨⟩
theorem tw17275622163121511562:True:=⟨⟩
theorem tw17246806838859374816:True:=⟨⟩
theorem tw17215474739434803665:True:=⟨⟩
theorem tw17202541982848537380:True:=⟨⟩
theorem tw17200772245862232323:True:=⟨⟩
theorem tw17196308540094675316:True:=⟨⟩
theorem tw17191335178041748974:True:=⟨⟩
theorem tw17185254409632903611:True:=⟨⟩
theorem tw17114266828195689105:True:=⟨⟩
theorem tw1700863318357483205:True:=⟨⟩
theorem tw16967418348821436368:True:=⟨⟩
theorem tw16945726976730751597:True:=⟨⟩
theorem tw16905565347460545129:True:=⟨⟩
theorem tw16861025345034360290:True:=⟨⟩
theorem tw16691268238340345379:True:=⟨⟩
theorem tw16561226813068458994:True:=⟨⟩
theorem tw16528549692565559014:True:=⟨⟩
theorem tw1647365623015824481:True:=⟨⟩
theorem tw16184392354735346560:True:=⟨⟩
theorem tw16149086232297503001:True:=⟨⟩
theorem tw16132189099945888668:True:=⟨⟩
theorem tw16029411059009376134:True:=⟨⟩
theorem tw15920724342437036121:True:=⟨⟩
theorem tw15877147323239413834:True:=⟨⟩
theorem tw15827965711526420372:True:=⟨⟩
theorem tw15706384122805101801:True:=⟨⟩
theorem tw15701169669097810387:True:=⟨⟩
theorem tw15688010573486658242:True:=⟨⟩
theorem tw15617187284975086024:True:=⟨⟩
theorem tw15568863279731181989:True:=⟨⟩
theorem tw15556978553464219964:True:=⟨⟩
theorem tw15487915901307463510:True:=⟨⟩
theorem tw15393256130332065003:True:=⟨⟩
theorem tw15339930262969405453:True:=⟨⟩
theorem tw15251661050247001356:True:=⟨⟩
theorem tw15181074276256079737:True:=⟨⟩
theorem tw15170654696734897820:True:=⟨⟩
theorem tw14846750026445226355:True:=⟨⟩
theorem tw14838383666357403663:True:=⟨⟩
theorem tw14790649182457825946:True:=⟨⟩
theorem tw14623676863627043345:True:=⟨⟩
theorem tw14568924549279492494:True:=⟨⟩
theorem tw14422899028478358339:True:=⟨⟩
theorem tw14357262386044904682:True:=⟨⟩
theorem tw1429250389780746655:True:=⟨⟩
theorem tw14162451985270840651:True:=⟨⟩
theorem tw14157767205711320913:True:=⟨⟩
theorem tw14150154305834335487:True:=⟨⟩
theorem tw14086560985995780673:True:=⟨⟩
theorem tw14040802888234559668:True:=⟨⟩
theorem tw14003605414569288579:True:=⟨⟩
theorem tw139351468186188359:True:=⟨⟩
theorem tw13656918933949615795:True:=⟨⟩
theorem tw13628610999461588447:True:=⟨⟩
theorem tw13610466922810337060:True:=⟨⟩
theorem tw13563316771521875092:True:=⟨⟩
theorem tw13442687945117311965:True:=⟨⟩
theorem tw13429952888778000114:True:=⟨⟩
theorem tw13421128129497984227:True:=⟨⟩
theorem tw13216221642798678680:True:=⟨⟩
theorem tw13141573220440328863:True:=⟨⟩
theorem tw13095456298770314231:True:=⟨⟩
theorem tw13085085621083108877:True:=⟨⟩
theorem tw13079178824406594715:True:=⟨⟩
theorem tw13068411661018003676:True:=⟨⟩
theorem tw13057628960112064166:True:=⟨⟩
theorem tw12964938144498297255:True:=⟨⟩
theorem tw12914256579959173094:True:=⟨⟩
theorem tw12912802642401737448:True:=⟨⟩
theorem tw1288578250289680583:True:=⟨⟩
theorem tw128785120655141736:True:=⟨⟩
theorem tw12806433889067987677:True:=⟨⟩
theorem tw12752520397001898857:True:=⟨⟩
theorem tw12746338275091639029:True:=⟨⟩
theorem tw12720644634374564158:True:=⟨⟩
theorem tw12637984360260177503:True:=⟨⟩
theorem tw12376212213912989071:True:=⟨⟩
theorem tw12344417363110536626:True:=⟨⟩
theorem tw1234420007445089179:True:=⟨⟩
theorem tw12340089652844558366:True:=⟨⟩
theorem tw12282121509207206390:True:=⟨⟩
theorem tw12176822452268842695:True:=⟨⟩
theorem tw1216770746412510491:True:=⟨⟩
theorem tw12153288445961155501:True:=⟨⟩
theorem tw12097860898450497860:True:=⟨⟩
theorem tw12073505402331230365:True:=⟨⟩
theorem tw12033518129128010562:True:=⟨⟩
theorem tw1199179312698704733:True:=⟨⟩
theorem tw11975696863916271632:True:=⟨⟩
theorem tw11950252263844785177:True:=⟨⟩
theorem tw11850799481690489254:True:=⟨⟩
theorem tw11838360191452300871:True:=⟨⟩
theorem tw11664799352826410902:True:=⟨⟩
theorem tw11569689057238258291:True:=⟨⟩
theorem tw11524025644428126979:True:=⟨⟩
theorem tw11439545053371938293:True:=⟨⟩
theorem tw11433436712696497587:True:=⟨⟩
theorem tw11376813040197786131:True:=⟨⟩
theorem tw11243933569496138848:True:=⟨⟩
theorem tw11231404016657839162:True:=⟨⟩
theorem tw11104675135844717081:True:=⟨⟩
theorem tw11093436359804819505:True:=⟨⟩
theorem tw10964013580592649936:True:=⟨⟩
theorem tw10963983165699262944:True:=⟨⟩
theorem tw10956702200079784119:True:=⟨⟩
theorem tw10899929025847651137:True:=⟨⟩
theorem tw10877735561582144343:True:=⟨⟩
theorem tw10847518420000418370:True:=⟨⟩
theorem tw10744801533685947251:True:=⟨⟩
theorem tw10682261786226963307:True:=⟨⟩
theorem tw10646525411499201132:True:=⟨⟩
theorem tw10462725059588736618:True:=⟨⟩
theorem tw10461286248601986989:True:=⟨⟩
theorem tw10412344877363252094:True:=⟨⟩
theorem tw10370668209976779990:True:=⟨⟩
theorem tw10346242158288349052:True:=⟨⟩
theorem tw1025857336305287381:True:=⟨⟩
theorem tw10206432610047077504:True:=⟨⟩
theorem tw1017167713568814:True:=⟨⟩
theorem tw10150257078369531504:True:=⟨⟩
theorem tw10139824610443814231:True:=⟨⟩
theorem tw10080179694863729433:True:=⟨⟩
theorem tw10011797296749818519:True:=⟨⟩
theorem tw4532349044066934147:True:=⟨⟩
theorem tw1508732228478419795:True:=⟨⟩
theorem tw18243138160548666401:True:=⟨⟩
theorem tw193567442423451707:True:=⟨⟩
theorem tw3414050891766432392:True:=⟨⟩
theorem tw4555437387065461209:True:=⟨⟩
theorem tw9548946391813077637:True:=⟨⟩
theorem tw11578722190325098423:True:=⟨⟩
theorem tw1395633835340057035:True:=⟨⟩
theorem tw18109444983365247480:True:=⟨⟩
theorem tw6516135699139272479:True:=⟨⟩
theorem tw17580769142043964005:True:=⟨⟩
theorem tw731045761518979549:True:=⟨⟩
theorem tw6855282711293193956:True:=⟨⟩
theorem tw2163198438448720374:True:=⟨⟩
end all_holds
set_option Elab.async true
set_option maxHeartbeats 8000000 in
theorem all_holds:PySem.Challenge.rw_sa0044_02.Holds:=by
 w_on
 o_law
 o_head (kHook KT kas (fun _=> by kernel_rfl))
 case hw=> w_witness2
 intro w s₀ s₁ mg mb G Y fa o pm cd doc dV kV ho hd hcd hD hmg hg args vals as hpre hlay hrd hwl hlo
 have hfa:fa = 628:=by
  have h:=mg_of (kIn_of Y) G.T.g (n:="law") (v:=.ref 628) rfl
  have hmg:mg "law" = some (.ref fa):=hmg
  rw [hmg] at h
  injection h with h
  injection h
 subst hfa
 clear hcd hD hd ho hmg
 wrow_args hpre hlay hrd hwl hlo
 rename_i xs _ _ _ _ _ _ _ sc ys _ hL _ _ _ hI _ hlen _
 have h0:Ok0 (hCx w s₁ (fun e s'=> GoodWG Challenge.rw_sa0044_02.row.claim (classAt s₀.heap) (ExcName.means s₀.heap) [ofPy (PyData.list (List.map PyData.int xs))] s₁ (Except.error e) s')) :=
  ⟨kIn_of Y,rfl,by show 301 + 60 < 1000;decide,by show 4 + 8 * 60 + 100 < 9900;decide,G.T.nolimit,⟨_,_,mg,mb,G.T.g,G.T.b,G.T.nolimit,G.T.builtins,G.T.free⟩,fun a h=> h,zVm,zSo⟩
 refine wpAny_mono (zSu h0 hL hI (by omega)) (fun v s' z=> ?_) fun _ _ e=> e
 obtain ⟨b,rfl,i,hk,hos,hgn⟩:=z
 obtain rfl:v = .bool true:=i
 refine ⟨.inl ⟨.bool true,.bool true,[],rfl,fun _=> rfl,.bool true,zV4 _,fun _=> ⟨List.nodup_nil,fun a h=> (by cases h)⟩⟩,OldK.of_keep hk,hos,AllBare.of_eq (hgn.trans hg)⟩
end Mine
theorem PySem.Challenge.cw_sa0044_02_holds : PySem.Challenge.rw_sa0044_02.Holds := by
 exact Mine.all_holds
