import PyProof.Rows.All
import Wide.All
import OpenK.AllK
import Wide.FinOn
import KE.KLam
import PyProof.NeKinds
import Open.Tree
import Open.Line
import KE.KDictSum
import KE.KDictOf
import KE.KItem
import PyProof.Raises
import KE.KEqSeq
import Lean
import PySem.Challenge.RW_on0048_01
open PySem PySem.W PySem.Calls PyProof.Rows
set_option Elab.async false
set_option maxRecDepth 100000
set_option tactic.hygienic false
set_option linter.all false
set_option bootstrap.genMatcherCode false
noncomputable section
namespace Mine
theorem noS{α:Type}{x:α}{P:Prop}(h:none=some x):P:=nomatch h
theorem leq{a b:Nat}(h:a=b):a≤b:=Nat.le_of_eq h
theorem ltr{a b c:Nat}(h:a≤b)(q:b≤c):a≤c:=Nat.le_trans h q
theorem sji{α:Type}{a b:α}(h:some a=some b):a=b:=Option.some.inj h
theorem ffS{P:Prop}(h:false=true):P:=nomatch h
inductive V where
 |none
 |bool (b:Bool)
 |int (i:Int)
 |str (s:Str)
 |tup (xs:List V)
 |lst (xs:List V)
 |edict
 |fset
 |junk
 |ref (k i:Nat)
 |fn (g:Nat)
 |cls (c:Nat)
 |gd (d:Nat)
 |bi (b:Nat)
 |clo (k i:Nat)
set_option genInjectivity false
set_option genSizeOfSpec false
inductive O where
 |list (xs:List V)
 |sd (es:List (Str×V))
 |idd (es:List (Int×V))
 |inst (c:Nat) (fs:List (Str×V))
inductive LV where
 |v (x:V)
 |ol (xs:List V)
 |od (es:List (Int×V))
 |unb
 |fv (x:V)
structure St where
 r0:List O
 r1:List O
 r2:List O
 r3:List O
 r4:List O
 r5:List O
 r6:List O
 r7:List O
 r8:List O
 r9:List O
 r10:List O
 r11:List O
 r12:List O
 r13:List O
 r14:List O
 r15:List O
 r16:List O
 r17:List O
 r18:List O
 r19:List O
 r20:List O
 r21:List O
 r22:List O
 r23:List O
 r24:List O
 r25:List O
 r26:List O
 r27:List O
noncomputable def St.get(s:St):Nat→List O
 |0=>s.r0|1=>s.r1|2=>s.r2|3=>s.r3|4=>s.r4|5=>s.r5|6=>s.r6|7=>s.r7
 |8=>s.r8|9=>s.r9|10=>s.r10|11=>s.r11|12=>s.r12|13=>s.r13|14=>s.r14|15=>s.r15
 |16=>s.r16|17=>s.r17|18=>s.r18|19=>s.r19|20=>s.r20|21=>s.r21|22=>s.r22|23=>s.r23
 |24=>s.r24|25=>s.r25|26=>s.r26|27=>s.r27|_=>[]
noncomputable def St.set(s:St)(k:Nat)(x:List O):St:=match k with
 |0=>{s with r0:=x}|1=>{s with r1:=x}|2=>{s with r2:=x}|3=>{s with r3:=x}
 |4=>{s with r4:=x}|5=>{s with r5:=x}|6=>{s with r6:=x}|7=>{s with r7:=x}
 |8=>{s with r8:=x}|9=>{s with r9:=x}|10=>{s with r10:=x}|11=>{s with r11:=x}
 |12=>{s with r12:=x}|13=>{s with r13:=x}|14=>{s with r14:=x}|15=>{s with r15:=x}
 |16=>{s with r16:=x}|17=>{s with r17:=x}|18=>{s with r18:=x}|19=>{s with r19:=x}
 |20=>{s with r20:=x}|21=>{s with r21:=x}|22=>{s with r22:=x}|23=>{s with r23:=x}
 |24=>{s with r24:=x}|25=>{s with r25:=x}|26=>{s with r26:=x}|27=>{s with r27:=x}
 |_=>s
noncomputable def St.upd(s:St)(k i:Nat)(o:O):St:=s.set k ((s.get k).set i o)
noncomputable def St.push(s:St)(k:Nat)(o:O):St:=s.set k (s.get k++[o])
noncomputable def St.empty:St:=⟨[],[],[],[],[],[],[],[],[],[],[],[],[],[],[],[],[],[],[],[],[],[],[],[],[],[],[],[]⟩
inductive Fl where
 |next
 |cont
 |ret (v:V)
noncomputable abbrev Rho:=List (Str×LV)
noncomputable abbrev Cx:=List (Str×NameKind)
inductive A where
 |call (v:V) (st:St)
 |br (line:Nat) (b:Bool)
 |loop (line:Nat) (fl:Fl) (ρ:Rho) (st:St)
 |comp (line:Nat) (vs:List V) (st:St)
 |idx (line:Nat) (v:V)
 |cell (line:Nat) (o:O)
 |al (line:Nat) (i:Nat)
 |pop (line:Nat) (xs:List V) (v:V)
noncomputable abbrev Sc:=List A
noncomputable abbrev CR:=Nat→List V→St→V→St→Prop
noncomputable abbrev KV:=V→St→Sc→Prop
noncomputable abbrev KF:=Fl→Rho→St→Sc→Prop
noncomputable def ik:List Nat→List Nat→Bool
 |[],[]=>true
 |a::r,b::t=>match Nat.beq a b with
  |true=>ik r t
  |false=>false
 |_,_=>false
noncomputable def av(a b:Str):Bool:=ik a.cps.toList b.cps.toList
theorem lA:∀ {a b:List Nat},ik a b=true↔a=b
 |[],[]=>by simp[ik]
 |[],_::_=>by simp[ik]
 |_::_,[]=>by simp[ik]
 |a::r,b::t=>by
  unfold ik
  cases h:Nat.beq a b with
  |true=>
   have:=Nat.eq_of_beq_eq_true h
   subst this
   simp[lA (a:=r) (b:=t)]
  |false=>
   have:=Nat.ne_of_beq_eq_false h
   simp[this]
theorem strEq_iff{a b:Str}:av a b=true↔a=b:=by
 unfold av
 rw[lA]
 obtain⟨⟨x⟩⟩:=a
 obtain⟨⟨y⟩⟩:=b
 simp
noncomputable def look{α:Type}(x:Str):List (Str×α)→Option α
 |[]=>none
 |p::r=>match av p.1 x with
  |true=>some p.2
  |false=>look x r
noncomputable def bw{α:Type}(x:Str)(a:α):List (Str×α)→List (Str×α)
 |[]=>[(x,a)]
 |p::r=>match av p.1 x with
  |true=>(p.1,a)::r
  |false=>p::bw x a r
noncomputable def zd:Int→Int→Bool
 | .ofNat a,.ofNat b=>Nat.beq a b
 | .negSucc a,.negSucc b=>Nat.beq a b
 |_,_=>false
noncomputable def ag{α:Type}(x:Int):List (Int×α)→Option α
 |[]=>none
 |p::r=>match decide (p.1=x) with
  |true=>some p.2
  |false=>ag x r
noncomputable def aZ{α:Type}(x:Int)(a:α):List (Int×α)→List (Int×α)
 |[]=>[(x,a)]
 |p::r=>match decide (p.1=x) with
  |true=>(p.1,a)::r
  |false=>p::aZ x a r
noncomputable def atI(xs:List V):Int→Option V
 | .ofNat n=>xs[n]?
 | .negSucc n=>xs.reverse[n]?
mutual
noncomputable def k9:V→Option PyData
 | .none=>some .none
 | .bool b=>some (.bool b)
 | .int i=>some (.int i)
 | .str s=>some (.str s)
 | .tup xs=>(pysOf xs).map .tuple
 | .lst xs=>(pysOf xs).map .list
 |_=>Option.none
noncomputable def pysOf:List V→Option (List PyData)
 |[]=>some []
 |x::r=>match k9 x with
  |some d=>(pysOf r).map (d :: ·)
  |Option.none=>Option.none
end
section
variable{β:Type}
noncomputable def vM(d no:β)(bo:Bool→β)(i:Int→β)(s:Str→β)(t l:List V→β)(ed fs:β)(r:Nat→Nat→β)(f c g b:Nat→β)(k:Nat→Nat→β):V→β
 | .none=>no
 | .bool x=>bo x
 | .int x=>i x
 | .str x=>s x
 | .tup x=>t x
 | .lst x=>l x
 | .edict=>ed
 | .fset=>fs
 | .junk=>d
 | .ref x y=>r x y
 | .fn x=>f x
 | .cls x=>c x
 | .gd x=>g x
 | .bi x=>b x
 | .clo x y=>k x y
noncomputable def V.intD(v:V)(d:β)(f:Int→β):β:=vM d d (fun _=>d) f (fun _=>d) (fun _=>d) (fun _=>d) d d (fun _ _=>d) (fun _=>d) (fun _=>d) (fun _=>d) (fun _=>d) (fun _ _=>d) v
noncomputable def V.strD(v:V)(d:β)(f:Str→β):β:=vM d d (fun _=>d) (fun _=>d) f (fun _=>d) (fun _=>d) d d (fun _ _=>d) (fun _=>d) (fun _=>d) (fun _=>d) (fun _=>d) (fun _ _=>d) v
noncomputable def V.boolD(v:V)(d:β)(f:Bool→β):β:=vM d d f (fun _=>d) (fun _=>d) (fun _=>d) (fun _=>d) d d (fun _ _=>d) (fun _=>d) (fun _=>d) (fun _=>d) (fun _=>d) (fun _ _=>d) v
noncomputable def V.tupD(v:V)(d:β)(f:List V→β):β:=vM d d (fun _=>d) (fun _=>d) (fun _=>d) f (fun _=>d) d d (fun _ _=>d) (fun _=>d) (fun _=>d) (fun _=>d) (fun _=>d) (fun _ _=>d) v
noncomputable def V.lstD(v:V)(d:β)(f:List V→β):β:=vM d d (fun _=>d) (fun _=>d) (fun _=>d) (fun _=>d) f d d (fun _ _=>d) (fun _=>d) (fun _=>d) (fun _=>d) (fun _=>d) (fun _ _=>d) v
noncomputable def V.refD(v:V)(d:β)(f:Nat→Nat→β):β:=vM d d (fun _=>d) (fun _=>d) (fun _=>d) (fun _=>d) (fun _=>d) d d f (fun _=>d) (fun _=>d) (fun _=>d) (fun _=>d) (fun _ _=>d) v
noncomputable def O.listD(o:O)(d:β)(f:List V→β):β:=match o with
 | .list i=>f i
 |_=>d
noncomputable def O.iddD(o:O)(d:β)(f:List (Int×V)→β):β:=match o with
 | .idd i=>f i
 |_=>d
noncomputable def O.sdD(o:O)(d:β)(f:List (Str×V)→β):β:=match o with
 | .sd i=>f i
 |_=>d
noncomputable def O.instD(o:O)(d:β)(f:Nat→List (Str×V)→β):β:=match o with
 | .inst c i=>f c i
 |_=>d
noncomputable def LV.vD(o:LV)(d:β)(f:V→β):β:=match o with
 | .v i=>f i
 |_=>d
noncomputable def oneD{α:Type}(l:List α)(d:β)(f:α→β):β:=match l with
 |[a]=>f a
 |_=>d
noncomputable def twoD{α:Type}(l:List α)(d:β)(f:α→α→β):β:=match l with
 |[a,b]=>f a b
 |_=>d
noncomputable def nilD{α:Type}(l:List α)(d:β)(f:β):β:=match l with
 |[]=>f
 |_=>d
noncomputable def optD{α:Type}(o:Option α)(d:β)(f:α→β):β:=match o with
 |some a=>f a
 |none=>d
noncomputable def gateD(b:Bool)(d:β)(f:β):β:=match b with
 |true=>f
 |false=>d
end
def optP{α:Type}(o:Option α)(k:α→Prop):Prop:=match o with
 |some a=>k a
 |none=>False
def gate(b:Bool)(p:Prop):Prop:=match b with
 |true=>p
 |false=>False
noncomputable def listAt(st:St)(k i:Nat):Option (List V):=optD (st.get k)[i]? none fun o=>o.listD none some
noncomputable def pyL(st:St)(k i:Nat):Option (List PyData):=optD (listAt st k i) none pysOf
noncomputable def pyPair(a:Option PyData)(b:Option (List PyData)):Option PyData:=match a,b with
 |some d,some ds=>some (.tuple [d,.list ds])
 |_,_=>none
noncomputable def pyS(st:St)(v:V):Option PyData:=
 let d:=k9 v
 vM d d (fun _=>d) (fun _=>d) (fun _=>d) (fun xs=>twoD xs d fun a b=>b.refD d fun k i=>pyPair (k9 a) (pyL st k i)) (fun _=>d) d d (fun k i=>(pyL st k i).map .list) (fun _=>d) (fun _=>d) (fun _=>d) (fun _=>d) (fun _ _=>d) v
noncomputable def eqD(a b:Option PyData):Option Bool:=optD a none fun d=>optD b none fun e=>gateD (SeqAt.shaped d&&SeqAt.shaped e) none (some (PyData.eqv d e))
noncomputable def eqB(st:St)(x y:V):Option Bool:=
 let d:=eqD (pyS st x) (pyS st y)
 vM d d (fun _=>d) (fun a=>y.intD d fun b=>some (decide (a=b))) (fun a=>y.strD d fun b=>some (av a b)) (fun xs=>y.strD (y.tupD d fun ys=>nilD ys d (some xs.isEmpty)) fun _=>some false) (fun xs=>y.lstD d fun ys=>nilD ys d (some xs.isEmpty)) d d (fun k i=>y.lstD d fun ys=>nilD ys d (optD (listAt st k i) none fun xs=>some xs.isEmpty)) (fun _=>d) (fun _=>d) (fun _=>d) (fun _=>d) (fun _ _=>d) x
noncomputable def inD(x:V)(ys:List V):Option Bool:=optD (k9 x) none fun d=>optD (pysOf ys) none fun ds=>gateD (SeqAt.shaped d&&SeqAt.shaped (.list ds)) none (some (ds.any fun y=>PyData.eqv y d))
noncomputable def isNone:V→Option Bool:=let d:=some false;vM Option.none (some true) (fun _=>d) (fun _=>d) (fun _=>d) (fun _=>d) (fun _=>d) d d (fun _ _=>d) (fun _=>d) (fun _=>d) (fun _=>d) (fun _=>d) (fun _ _=>d)
noncomputable def rC:Option Bool→Option Bool
 |some b=>some (!b)
 |Option.none=>Option.none
noncomputable def dZ{α:Type}(x:Nat):List (Nat×α)→Option α
 |[]=>none
 |p::r=>match Nat.beq p.1 x with
  |true=>some p.2
  |false=>dZ x r
noncomputable def annL:List (Nat×Nat):=[(61023,1),(94025,25),(116027,1),(116031,1),(116085,1),(131013,29),(134013,1),(148020,22),(150021,23),(153065,26),(161032,27),(161033,28),
 (815011,1),(837012,20),(848019,16),(848023,1),(909011,3),(923012,1),(948015,1),(1092012,13),(1092022,14),(1167011,9),(1167048,11),(1173010,6),(1173020,7),(1173050,8),(1180011,4),(1180055,5)]
noncomputable def d6(p:Pos):Nat:=(dZ (p.line*1000+p.col) annL).getD 0
noncomputable def HD:List (Nat×List Str):=[(135,[Str.ofString "places"]),(139,[Str.ofString "blocks"]),(952,[Str.ofString "some"])]
noncomputable def GM(line:Nat):List Str:=(dZ line HD).getD []
noncomputable def LV.isFv:LV→Bool
 | .fv _=>true
 |_=>false
noncomputable def canPut(x:Str)(ρ:Rho):Bool:=optD (look x ρ) false fun lv=> !lv.isFv
noncomputable def freeze1(x:Str):Rho→Rho
 |[]=>[]
 |p::r=>match av p.1 x with
  |true=>(match p.2 with
   | .ol xs=>(p.1,.v (.lst xs))::r
   | .v x=>(p.1,.fv x)::r
   |_=>p::r)
  |false=>p::freeze1 x r
noncomputable def freeze:List Str→Rho→Rho
 |[],ρ=>ρ
 |x::r,ρ=>freeze r (freeze1 x ρ)
noncomputable def biL:List (Str×Nat):=[(Str.ofString "len",0),(Str.ofString "isinstance",1),(Str.ofString "list",2),(Str.ofString "tuple",3),(Str.ofString "int",4),(Str.ofString "max",5),(Str.ofString "range",6),(Str.ofString "enumerate",7),(Str.ofString "zip",8),(Str.ofString "sorted",9),(Str.ofString "frozenset",10),(Str.ofString "dict",11),(Str.ofString "str",12)]
noncomputable def S(s:String):V:= .str (Str.ofString s)
noncomputable def ac:V:= .tup [S "int",S "int"]
noncomputable def bg:V:= .tup [S "bool"]
noncomputable def cstL:List (Str×V):=[("ADDRESS",S "address"),(Str.ofString "_law_int",ac),(Str.ofString "_law_bool",bg),("_law_three",.tup [S "array",.int 3,ac]),
 ("READ",.tup [S "global",S "field",S "deref",S "index"]),("PAIRS",.tup [S "assert",S "key",S "receive"]),(Str.ofString "INT_lower_loops",ac),(Str.ofString "BOOL_lower_loops",bg),
 ("PLAIN",.tup [S "func",.tup [],.tup [],.bool false]),("LOOPS",.gd 0)]
noncomputable def fnA:List (Str×Nat):=[(Str.ofString "underlying_of",2),(Str.ofString "is_part",7),(Str.ofString "assigned_places",8),(Str.ofString "lent_places",9),(Str.ofString "boxed_of",10),(Str.ofString "is_type",11),(Str.ofString "boxed_locals",12),(Str.ofString "next_blocks",17),(Str.ofString "blocks_reached",18),(Str.ofString "led_elsewhere",19),(Str.ofString "with_kept_blocks",20),(Str.ofString "builtin_values",30),(Str.ofString "builtin_with",31),(Str.ofString "builtin_deed",32),(Str.ofString "target_of",53),(Str.ofString "assign_target",54),(Str.ofString "begin_with",55),(Str.ofString "value_at",56),(Str.ofString "address_of",49),(Str.ofString "value_of",62),(Str.ofString "values_of",63),(Str.ofString "operands_of",64),(Str.ofString "constant_of",65),(Str.ofString "worked_value",67),(Str.ofString "put_for",79),(Str.ofString "put_range",80),(Str.ofString "give_name",81),(Str.ofString "counted_value",82),(Str.ofString "put_counted",83),(Str.ofString "put_switch",86),(Str.ofString "put_block",94),(Str.ofString "put_statement",95),(Str.ofString "put_plain",96),(Str.ofString "kept_operands",97)]
noncomputable def fnB:List (Str×Nat):=[(Str.ofString "put_let",99),(Str.ofString "put_if",100),(Str.ofString "give_back",102),(Str.ofString "has_defer",103),(Str.ofString "begin_function",104),(Str.ofString "lower_one",105),(Str.ofString "lower_function",106),(Str.ofString "known_rows",110),(Str.ofString "_law_pool",113),(Str.ofString "_law_take",114),(Str.ofString "_law_one",115),(Str.ofString "_law_rows",119),(Str.ofString "_law_row",120),(Str.ofString "_law_gone",121),(Str.ofString "_law_is_so",122),(Str.ofString "_law_done",123),(Str.ofString "_law_switched",124),(Str.ofString "_law_rounds",125),(Str.ofString "_law_local",126),(Str.ofString "_law_const",127),(Str.ofString "_law_asked",128),(Str.ofString "_law_shown",129),(Str.ofString "_law_block_of",130),(Str.ofString "_law_trees",131),(Str.ofString "_law_tree",132),(Str.ofString "_law_read",133),(Str.ofString "_law_reckoned",136),(Str.ofString "_law_made",137),(Str.ofString "_law_framed",139),(Str.ofString "_law_block",142),(Str.ofString "_law_stepped",143),(Str.ofString "_law_played",144),(Str.ofString "_law_right",145),(Str.ofString "law",146)]
noncomputable def fnL:List (Str×Nat):=fnA++fnB
noncomputable def clsL:List (Str×Nat):=[(Str.ofString "TypedFn",14),(Str.ofString "Code",16),(Str.ofString "LowerState",22),(Str.ofString "NamedRow",109),(Str.ofString "World",111)]
noncomputable def orV:Option V→Option V→Option V
 |some v,_=>some v
 |none,r=>r
noncomputable def glob(x:Str):Option V:=match look x fnL with
 |some g=>some (.fn g)
 |none=>match look x cstL with
  |some v=>some v
  |none=>match look x clsL with
   |some c=>some (.cls c)
   |none=>match look x biL with
    |some b=>some (.bi b)
    |none=>none
noncomputable def gdL:Nat→List (Str×V)
 |0=>[("for",.fn 79),("range",.fn 80),("switch",.fn 86),("types",.fn 88),("choose",.fn 91)]
 |_=>[]
noncomputable def jD:Nat→List (Str×Nat)
 |14=>[(Str.ofString "__init__",0)]
 |16=>[(Str.ofString "__init__",0),(Str.ofString "instructions",1),(Str.ofString "terminator",2)]
 |22=>[(Str.ofString "__init__",0),(Str.ofString "new_register",1),(Str.ofString "new_block",2),(Str.ofString "put",3),(Str.ofString "fresh",4),(Str.ofString "close",5),(Str.ofString "end",6),(Str.ofString "go",7),(Str.ofString "type_of_local",9),(Str.ofString "is_boxed",10),(Str.ofString "take_register",11),
   (Str.ofString "local_value",14),(Str.ofString "set_local",15),(Str.ofString "kept",16),(Str.ofString "value",18),(Str.ofString "values",19),(Str.ofString "block",21),(Str.ofString "finished",22)]
 |109=>[(Str.ofString "__init__",0)]
 |111=>[(Str.ofString "__init__",0),(Str.ofString "base_of",1)]
 |_=>[]
noncomputable def jr(c:Nat)(x:Str):Option Nat:=(look x (jD c)).map (1000*(c+1) + ·)
noncomputable def attrL:Nat→List Str
 |14=>["key","locals","params","results","captured","body",Str.ofString "literals"]
 |16=>["key","params","registers","blocks","captured","results",Str.ofString "recovery"]
 |22=>["code","here","world","typed_fn","boxed","known","held","sites","loops","has_defers",Str.ofString "spot"]
 |109=>["path","package","underlying",Str.ofString "methods"]
 |111=>["packages","named","globals","consts","funcs","bodies","files","scopes","order","starts","settle","late_keys",Str.ofString "is_whole"]
 |_=>[]
noncomputable def inStrs(x:Str):List Str→Bool
 |[]=>false
 |y::r=>match av y x with
  |true=>true
  |false=>inStrs x r
set_option tactic.hygienic true in
theorem l7{x:Str}:∀ {l:List Str},inStrs x l=true→x∈l
 |y::r,h=>by
  unfold inStrs at h
  split at h
  ·rename_i e;exact(strEq_iff.mp e).symm▸List.mem_cons_self
  ·exact List.mem_cons_of_mem _ (l7 h)
noncomputable def hU(c:Nat)(x:Str):Bool:=inStrs x (attrL c)
noncomputable def jL:Nat→Nat
 |14=>17|16=>22|22=>19|109=>16|111=>15|_=>99
noncomputable def exM{β:Type}(d:β)(bo:BoolOp→List Expr→Pos→β)(bi:Expr→Operator→Expr→β)(un:UnaryOp→Expr→β)(la:Arguments→Expr→Scope→Pos→β)(ie:Expr→Expr→Expr→Pos→β)(di:List (Option Expr)→List Expr→Pos→β)(lc:Expr→List Comprehension→Scope→Pos→β)
  (cm:Expr→List CmpOp→List Expr→Pos→β) (ca:Expr→List Expr→List Keyword→Pos→β) (co:Const→β) (at_:Expr→Str→Pos→β) (su:Expr→Expr→Pos→β) (na:Str→Pos→β) (li:List Expr→Pos→β) (tu:List Expr→Nat→Pos→β) (sl:Option Expr→Option Expr→Option Expr→β):Expr→β
 | .BoolOp a b c=>bo a b c
 | .BinOp a b c _=>bi a b c
 | .UnaryOp a b _=>un a b
 | .Lambda a b c d=>la a b c d
 | .IfExp a b c d=>ie a b c d
 | .Dict a b c=>di a b c
 | .ListComp a b c d=>lc a b c d
 | .Compare a b c d=>cm a b c d
 | .Call a b c d=>ca a b c d
 | .Constant a _ _=>co a
 | .Attribute a b c=>at_ a b c
 | .Subscript a b c=>su a b c
 | .Name a b=>na a b
 | .List a b=>li a b
 | .Tuple a b c=>tu a b c
 | .Slice a b c _=>sl a b c
 |_=>d
noncomputable def exA{β:Type}(d:β)(ca:Expr→List Expr→List Keyword→Pos→β)(at_:Expr→Str→Pos→β)(su:Expr→Expr→Pos→β)(na:Str→Pos→β)(tu:List Expr→Nat→Pos→β)(sl:Option Expr→Option Expr→Option Expr→β):Expr→β:=
 exM d (fun _ _ _=>d) (fun _ _ _=>d) (fun _ _=>d) (fun _ _ _ _=>d) (fun _ _ _ _=>d) (fun _ _ _=>d) (fun _ _ _ _=>d) (fun _ _ _ _=>d) ca (fun _=>d) at_ su na (fun _ _=>d) tu sl
noncomputable def exB{β:Type}(d:β)(bo:BoolOp→List Expr→Pos→β)(un:UnaryOp→Expr→β)(ie:Expr→Expr→Expr→Pos→β)(di:List (Option Expr)→List Expr→Pos→β)(lc:Expr→List Comprehension→Scope→Pos→β)(cm:Expr→List CmpOp→List Expr→Pos→β)(ca:Expr→List Expr→List Keyword→Pos→β)(li:List Expr→Pos→β):Expr→β:=
 exM d bo (fun _ _ _=>d) un (fun _ _ _ _=>d) ie di lc cm ca (fun _=>d) (fun _ _ _=>d) (fun _ _ _=>d) (fun _ _=>d) li (fun _ _ _=>d) (fun _ _ _=>d)
noncomputable def stM{β:Type}(d:β)(fd:Arguments→List Stmt→Scope→β)(cd:List Stmt→β)(re:Option Expr→Pos→β)(as:List Expr→Expr→Pos→β)(fo:Expr→Expr→List Stmt→List Stmt→Pos→β)(wh:Expr→List Stmt→List Stmt→Pos→β)(if_:Expr→List Stmt→List Stmt→Pos→β)(ex:Expr→β)(co pa:β):Stmt→β
 | .FunctionDef _ a b _ _ _ c _ _ _=>fd a b c
 | .ClassDef _ _ _ a _ _ _ _ _ _ _=>cd a
 | .Return a b=>re a b
 | .Assign a b c=>as a b c
 | .For a b c d e=>fo a b c d e
 | .While a b c d=>wh a b c d
 | .If a b c d=>if_ a b c d
 | .Expr a _=>ex a
 | .Continue _=>co
 | .Pass _=>pa
 |_=>d
noncomputable def fdM{β:Type}(d:β)(fd:Arguments→List Stmt→Scope→β):Stmt→β:=stM d fd (fun _=>d) (fun _ _=>d) (fun _ _ _=>d) (fun _ _ _ _ _=>d) (fun _ _ _ _=>d) (fun _ _ _ _=>d) (fun _=>d) d d
noncomputable def C8(i:Nat):Option Stmt:=Challenge.pw_on0048_01.main.body[i]?
noncomputable def dW(g:Nat):Option Stmt:=match Nat.blt g 1000 with
 |true=>C8 g
 |false=>match C8 (g / 1000-1) with
  |some s=>stM none (fun _ _ _=>none) (fun b=>b[g % 1000]?) (fun _ _=>none) (fun _ _ _=>none) (fun _ _ _ _ _=>none) (fun _ _ _ _=>none) (fun _ _ _ _=>none) (fun _=>none) none none s
  |none=>none
noncomputable def bT:Stmt→List Str:=fdM [] fun a _ _=>a.args.map (·.arg)
noncomputable def oG:Stmt→List Stmt:=fdM [] fun _ b _=>b
noncomputable def namesOf:Stmt→Cx:=fdM [] fun _ _ sc=>sc.names
noncomputable def gi:Nat→List V
 |130=>[.tup []]
 |17000=>[.int 0,.int 0,.none]
 |112000=>[.none]
 |_=>[]
noncomputable def xN:NameKind→Bool
 | .local | .cell | .free=>true
 |_=>false
noncomputable def jK:Cx→Rho
 |[]=>[]
 |p::r=>match xN p.2 with
  |true=>(p.1,.unb)::jK r
  |false=>jK r
noncomputable def ox:List Str→List V→Rho→Option Rho
 |[],[],ρ=>some ρ
 |x::xs,v::vs,ρ=>ox xs vs (bw x (.v v) ρ)
 |_,_,_=>none
noncomputable def vh(g:Nat)(st:Stmt)(args:List V):Option Rho:=
 ox (bT st) (args++(gi g).drop ((gi g).length-((bT st).length-args.length))) (jK (namesOf st))
section
variable{β:Type}
noncomputable def nameD(e:Expr)(d:β)(f:Str→β):β:=exA d (fun _ _ _ _=>d) (fun _ _ _=>d) (fun _ _ _=>d) (fun x _=>f x) (fun _ _ _=>d) (fun _ _ _=>d) e
noncomputable def callD(e:Expr)(d:β)(f:Expr→List Expr→List Keyword→Pos→β):β:=exA d f (fun _ _ _=>d) (fun _ _ _=>d) (fun _ _=>d) (fun _ _ _=>d) (fun _ _ _=>d) e
noncomputable def attrD(e:Expr)(d:β)(f:Expr→Str→Pos→β):β:=exA d (fun _ _ _ _=>d) f (fun _ _ _=>d) (fun _ _=>d) (fun _ _ _=>d) (fun _ _ _=>d) e
noncomputable def subD(e:Expr)(d:β)(f:Expr→Expr→β):β:=exA d (fun _ _ _ _=>d) (fun _ _ _=>d) (fun a b _=>f a b) (fun _ _=>d) (fun _ _ _=>d) (fun _ _ _=>d) e
noncomputable def tupleD(e:Expr)(d:β)(f:List Expr→β):β:=exA d (fun _ _ _ _=>d) (fun _ _ _=>d) (fun _ _ _=>d) (fun _ _=>d) (fun a _ _=>f a) (fun _ _ _=>d) e
noncomputable def sliceD(e:Expr)(d:β)(f:Option Expr→Option Expr→Option Expr→β):β:=exA d (fun _ _ _ _=>d) (fun _ _ _=>d) (fun _ _ _=>d) (fun _ _=>d) (fun _ _ _=>d) f e
noncomputable def V.biD(v:V)(d:β)(f:Nat→β):β:=vM d d (fun _=>d) (fun _=>d) (fun _=>d) (fun _=>d) (fun _=>d) d d (fun _ _=>d) (fun _=>d) (fun _=>d) (fun _=>d) f (fun _ _=>d) v
noncomputable def natD(i:Int)(d:β)(f:Nat→β):β:=match i with
 | .ofNat n=>f n
 |_=>d
noncomputable def consD{α:Type}(l:List α)(d:β)(f:α→List α→β):β:=match l with
 |a::r=>f a r
 |[]=>d
noncomputable def LV.odD(o:LV)(d:β)(f:List (Int×V)→β):β:=match o with
 | .od i=>f i
 |_=>d
noncomputable def LV.olD(o:LV)(d:β)(f:List V→β):β:=match o with
 | .ol i=>f i
 |_=>d
noncomputable def atD(n:Nat)(z o:β)(f:Nat→β):β:=match n with
 |0=>z
 |1=>o
 |n+2=>f n
end
noncomputable def eY(e:Expr):Bool:=Nat.beq e.ctorIdx 22
noncomputable def zI(e:Expr):Bool:=Nat.beq e.ctorIdx 7
noncomputable def cj(e:Expr):Bool:=tupleD e false fun _=>true
noncomputable def Ba(e:Expr):Bool:=Nat.beq e.ctorIdx 9||Nat.beq e.ctorIdx 10
noncomputable def lm(e:Expr):Bool:=Nat.beq e.ctorIdx 8
noncomputable def LV.isOwn:LV→Bool
 | .ol _=>true
 | .od _=>true
 |_=>false
def ask{α:Type}(get:A→Option (Nat×α))(line:Nat)(sc:Sc)(d:Prop)(f:α→Sc→Prop):Prop:=match sc with
 |[]=>d
 |a::r=>optD (get a) d fun p=>gateD (Nat.beq p.1 line) d (f p.2 r)
noncomputable def Dq:A→Option (Nat×Bool)
 | .br l b=>some (l,b)
 |_=>none
noncomputable def Ed:A→Option (Nat×V)
 | .idx l b=>some (l,b)
 |_=>none
noncomputable def BN:A→Option (Nat×O)
 | .cell l b=>some (l,b)
 |_=>none
noncomputable def Ft:A→Option (Nat×Nat)
 | .al l b=>some (l,b)
 |_=>none
noncomputable def DM:A→Option (Nat×List V×V)
 | .pop l b v=>some (l,b,v)
 |_=>none
noncomputable def AT:A→Option (Nat×List V×St)
 | .comp l b v=>some (l,b,v)
 |_=>none
noncomputable def uJ:A→Option (Nat×Fl×Rho×St)
 | .loop l b v s=>some (l,b,v,s)
 |_=>none
noncomputable def Am:A→Option (Nat×V×St)
 | .call v s=>some (0,v,s)
 |_=>none
def pickB(b:Bool)(sc:Sc)(k:Bool→Sc→Prop):Prop:=match b with
 |true=>k true sc
 |false=>k false sc
def someE{α:Type}(r:Option α)(sc:Sc)(k:α→Sc→Prop):Prop:=optP r fun v=>k v sc
def onB(line:Nat)(b:Bool)(sc:Sc)(k:Bool→Sc→Prop):Prop:=ask Dq line sc (pickB b sc k) fun b' r=>b=b'∧k b' r
def optB(line:Nat)(r:Option Bool)(sc:Sc)(k:Bool→Sc→Prop):Prop:=ask Dq line sc (someE r sc k) fun b t=>r=some b∧k b t
def optV(line:Nat)(r:Option V)(sc:Sc)(k:V→Sc→Prop):Prop:=ask Ed line sc (someE r sc k) fun b t=>r=some b∧k b t
def cellE(line:Nat)(st:St)(k i:Nat)(sc:Sc)(kk:O→Sc→Prop):Prop:=ask BN line sc (someE (st.get k)[i]? sc kk) fun o t=>(st.get k)[i]? = some o∧kk o t
def alE(line n:Nat)(sc:Sc)(kk:Nat→Sc→Prop):Prop:=ask Ft line sc (kk n sc) fun i t=>n=i∧kk i t
def popR(xs:List V)(sc:Sc)(kk:List V→V→Sc→Prop):Prop:=match xs.reverse with
 |v::r=>kk r.reverse v sc
 |[]=>False
def popE(line:Nat)(xs:List V)(sc:Sc)(kk:List V→V→Sc→Prop):Prop:=ask DM line sc (popR xs sc kk) fun p t=>xs=p.1++[p.2]∧kk p.1 p.2 t
def callP(C:CR)(g:Nat)(args:List V)(st:St)(sc:Sc)(k:KV):Prop:=ask Am 0 sc False fun p r=>C g args st p.1 p.2∧k p.1 p.2 r
def cL(n:Nat):Prop:=n≤100000
def arK(x y:V)(k:Int→Int→Prop):Prop:=x.intD False fun a=>y.intD False fun b=>k a b
def GG(x y:V)(k:V→Prop):Prop:=vM False False (fun _=>False) (fun a=>y.intD False fun b=>k (.int (a+b))) (fun _=>False) (fun a=>y.tupD False fun b=>(cL a.length∧cL b.length)∧k (.tup (a++b))) (fun a=>y.lstD False fun b=>(cL a.length∧cL b.length)∧k (.lst (a++b))) False False (fun _ _=>False) (fun _=>False) (fun _=>False) (fun _=>False) (fun _=>False) (fun _ _=>False) x
def F6(x y:V)(k:V→Prop):Prop:=vM False False (fun _=>False) (fun a=>y.intD False fun b=>IntMulOk a b∧k (.int (a*b))) (fun _=>False) (fun _=>False) (fun xs=>oneD xs False fun a=>y.intD False fun n=>(0≤n∧n≤100000)∧k (.lst (List.replicate n.toNat a))) False False (fun _ _=>False) (fun _=>False) (fun _=>False) (fun _=>False) (fun _=>False) (fun _ _=>False) x
def Dx(op:Operator)(x y:V)(k:V→Prop):Prop:=match op with
 | .Add=>GG x y k
 | .Sub=>arK x y fun a b=>k (.int (a-b))
 | .Mult=>F6 x y k
 | .FloorDiv=>arK x y fun a b=>(0<b∧b<1073741824)∧k (.int (Int.fdiv a b))
 | .Mod=>arK x y fun a b=>(0<b)∧k (.int (Int.fmod a b))
 | .Pow=>arK x y fun a b=>(a=10∧b=18)∧k (.int 1000000000000000000)
 |_=>False
noncomputable def Hg(op:CmpOp)(a b:Int):Option Bool:=match op with
 | .Lt=>some (decide (a<b))
 | .LtE=>some (decide (a≤b))
 | .Gt=>some (decide (b<a))
 | .GtE=>some (decide (b≤a))
 |_=>none
noncomputable def iddAt(st:St)(k i:Nat):Option (List (Int×V)):=optD (st.get k)[i]? none fun o=>o.iddD none some
noncomputable def CK(st:St)(x c:V):Option Bool:=vM none none (fun _=>none) (fun _=>none) (fun _=>none) (fun ys=>inD x ys) (fun ys=>inD x ys) none (x.intD none fun _=>some false) (fun k j=>x.intD none fun i=>optD (iddAt st k j) none fun es=>some (ag i es).isSome) (fun _=>none) (fun _=>none) (fun d=>x.strD none fun s=>gateD (Nat.beq d 0) none (some (look s (gdL d)).isSome)) (fun _=>none) (fun _ _=>none) c
noncomputable def isOf(x y:LV):Option Bool:=x.vD none fun a=>y.vD none fun b=>optD (isNone b) none fun n=>gateD n none (isNone a)
noncomputable def eqL(st:St)(x y:LV):Option Bool:=match x with
 | .v a=>y.vD none fun b=>eqB st a b
 | .ol xs=>y.vD none fun b=>b.lstD none fun ys=>nilD ys none (some xs.isEmpty)
 |_=>none
noncomputable def inL(st:St)(x y:LV):Option Bool:=x.vD none fun a=>match y with
 | .v c=>CK st a c
 | .od es=>a.intD none fun i=>some (ag i es).isSome
 |_=>none
noncomputable def Hm(op:CmpOp)(x y:LV):Option Bool:=x.vD none fun a=>a.intD none fun i=>y.vD none fun b=>b.intD none fun j=>Hg op i j
noncomputable def Bk(st:St)(op:CmpOp)(x y:LV):Option Bool:=match op with
 | .Is=>isOf x y
 | .IsNot=>rC (isOf x y)
 | .Eq=>eqL st x y
 | .NotEq=>rC (eqL st x y)
 | .In=>inL st x y
 | .NotIn=>rC (inL st x y)
 |op=>Hm op x y
def C3(line:Nat)(o:O)(i:V)(sc:Sc)(k:V→Sc→Prop):Prop:=match o with
 | .list xs=>i.intD False fun n=>optV line (atI xs n) sc k
 | .idd es=>i.intD False fun n=>optV line (ag n es) sc k
 | .sd es=>i.strD False fun n=>optV line (look n es) sc k
 | .inst _ _=>False
def zo(line:Nat)(st:St)(c i:V)(sc:Sc)(k:V→Sc→Prop):Prop:=vM False False (fun _=>False) (fun _=>False) (fun _=>False) (fun xs=>i.intD False fun n=>optV line (atI xs n) sc k) (fun xs=>i.intD False fun n=>optV line (atI xs n) sc k) False False (fun r j=>cellE line st r j sc fun o sc=>C3 line o i sc k) (fun _=>False) (fun _=>False) (fun d=>i.strD False fun n=>optV line (look n (gdL d)) sc k) (fun _=>False) (fun _ _=>False) c
noncomputable def nnI(a:Option Int):Bool:=optD a true fun i=>natD i false fun _=>true
noncomputable def pH(a:Option Int)(xs:List V):List V:=optD a xs fun i=>natD i xs fun n=>xs.drop n
noncomputable def pA(a:Option Int)(xs:List V):List V:=optD a xs fun i=>natD i xs fun n=>xs.take n
noncomputable def isM1(c:Int):Bool:=match c with
 | .negSucc n=>Nat.beq n 0
 |_=>false
def Hr(v:V)(a b c:Option Int)(k:V→Prop):Prop:=match c with
 |none=>v.tupD False fun xs=>gate (nnI a&&nnI b) (k (.tup (pH a (pA b xs))))
 |some c=>v.lstD False fun xs=>gate (isM1 c&&a.isNone&&b.isNone) (k (.lst xs.reverse))
noncomputable def nT(b:Nat):V→Option Bool
 | .tup _=>some (Nat.beq b 3)
 | .str _=>some (Nat.beq b 12)
 | .int _=>some false
 | .bool _=>some false
 | .none=>some false
 | .lst _=>some false
 |_=>none
noncomputable def u7(x:Int):List Int→List Int
 |[]=>[x]
 |y::r=>match decide (x≤y) with
  |true=>x::y::r
  |false=>y::u7 x r
noncomputable def hG:List Int→List Int
 |[]=>[]
 |x::r=>u7 x (hG r)
noncomputable def iF:List V→Option (List Int)
 |[]=>some []
 |x::r=>x.intD none fun i=>(iF r).map (i :: ·)
noncomputable def HF(o:O):Option V:=match o with
 | .list xs=>some (.int (Int.ofNat xs.length))
 | .idd es=>some (.int (Int.ofNat es.length))
 |_=>none
noncomputable def Hn(st:St)(v:V):Option V:=vM none none (fun _=>none) (fun _=>none) (fun _=>none) (fun xs=>some (.int (Int.ofNat xs.length))) (fun xs=>some (.int (Int.ofNat xs.length))) none none (fun k i=>optD (st.get k)[i]? none HF) (fun _=>none) (fun _=>none) (fun _=>none) (fun _=>none) (fun _ _=>none) v
noncomputable def fV(st:St)(v:V):Option (List V):=match v with
 | .tup xs=>some xs
 | .lst xs=>some xs
 | .ref k i=>listAt st k i
 |_=>none
noncomputable def Hp(v:V):Option V:=vM none none (fun b=>some (.int (match b with|true=>1|false=>0))) (fun i=>some (.int i)) (fun _=>none) (fun _=>none) (fun _=>none) none none (fun _ _=>none) (fun _=>none) (fun _=>none) (fun _=>none) (fun _=>none) (fun _ _=>none) v
noncomputable def Cw(v:V):Option V:=vM none none (fun _=>none) (fun _=>none) (fun _=>none) (fun _=>none) (fun xs=>gateD (Nat.blt xs.length 64) none ((iF xs).map fun l=> .lst ((hG l).map .int))) (some (.lst [])) none (fun _ _=>none) (fun _=>none) (fun _=>none) (fun _=>none) (fun _=>none) (fun _ _=>none) v
noncomputable def GF(v:V):Option V:=vM none none (fun _=>none) (fun _=>none) (fun _=>none) (fun _=>none) (fun _=>none) (some .fset) none (fun _ _=>none) (fun _=>none) (fun _=>none) (fun _=>none) (fun _=>none) (fun _ _=>none) v
noncomputable def bi1(st:St)(b:Nat)(v:V):Option V:=match b with
 |0=>Hn st v
 |2=>optD (fV st v) none fun xs=>some (.lst xs)
 |3=>v.lstD none fun xs=>some (.tup xs)
 |4=>Hp v
 |9=>Cw v
 |10=>GF v
 |_=>none
noncomputable def Gp(a b:Int):V:= .int (match decide (a<b) with|true=>b|false=>a)
noncomputable def pz(st:St)(b:Nat)(vs:List V):Option V:=match b with
 |5=>twoD vs none fun u v=>u.intD none fun a=>v.intD none fun b=>some (Gp a b)
 |b=>oneD vs none fun v=>bi1 st b v
structure Rec where
 e:Cx→Expr→Rho→St→Sc→KV→Prop
 c:Cx→Expr→Rho→St→Sc→(Bool→St→Sc→Prop)→Prop
 s:Cx→Stmt→Rho→St→Sc→KF→Prop
noncomputable def aF:List Expr→Bool
 |[]=>true
 |e::r=> !eY e&&aF r
noncomputable def small(es:List Expr):Bool:=Nat.ble es.length 100&&aF es
noncomputable def zY(k:NameKind):Bool:=match k with
 | .globalImplicit=>true
 |_=>false
noncomputable def lj(cx:Cx)(f:Str)(ρ:Rho):Option V:=match look f ρ with
 |some _=>none
 |none=>optD (look f cx) none fun k=>gateD (zY k) none (glob f)
noncomputable def j6(v:V):Bool:=v.biD false fun b=>Nat.beq b 7||Nat.beq b 8
noncomputable def jG(t e:Expr):Bool:=gateD (zI e) (callD e true fun f _ _ _=>nameD f true fun x=>optD (glob x) true fun v=>gateD (j6 v) true (cj t)) false
noncomputable def ownAt(x:Str)(ρ:Rho):Option LV:=optD (look x ρ) none fun lv=>gateD lv.isOwn none (some lv)
noncomputable def ownN(e:Expr)(ρ:Rho):Option (Str×LV):=nameD e none fun x=>optD (ownAt x ρ) none fun lv=>some (x,lv)
noncomputable def Aa(v:V):Option (List V):=vM none none (fun _=>none) (fun _=>none) (fun _=>none) some some (some []) none (fun _ _=>none) (fun _=>none) (fun _=>none) (fun _=>none) (fun _=>none) (fun _ _=>none) v
noncomputable def gY:Nat→List V
 |0=>[]
 |n+1=>gY n++[.int (Int.ofNat n)]
noncomputable def dF:Nat→List V→List V
 |_,[]=>[]
 |n,v::r=> .tup [.int (Int.ofNat n),v]::dF (n+1) r
noncomputable def zc:List V→List V→List V
 |a::r,b::t=> .tup [a,b]::zc r t
 |_,_=>[]
noncomputable def jC(rec:Expr→V→Rho→Option Rho):List Expr→List V→Rho→Option Rho
 |[],vs,ρ=>nilD vs none (some ρ)
 |t::ts,vs,ρ=>consD vs none fun v vs=>optD (rec t v ρ) none fun ρ=>jC rec ts vs ρ
noncomputable def asg1(rec:Expr→V→Rho→Option Rho)(t:Expr)(v:V)(ρ:Rho):Option Rho:=exA none (fun _ _ _ _=>none) (fun _ _ _=>none) (fun _ _ _=>none) (fun x _=>gateD (canPut x ρ) none (some (bw x (.v v) ρ))) (fun ts _ _=>v.tupD none fun vs=>jC rec ts vs ρ) (fun _ _ _=>none) t
noncomputable def asgN:Nat→Expr→V→Rho→Option Rho
 |0=>fun _ _ _=>none
 |n+1=>asg1 (asgN n)
section
variable(asg:V→Rho→Option Rho)(B:Rho→St→Fl→Rho→St→Prop)(inv:St→Prop)
inductive ForR:List V→Rho→St→Fl→Rho→St→Prop
 |nil (ρ:Rho) (st:St):inv st→ForR [] ρ st .next ρ st
 |step {v:V} {vs:List V} {ρ ρ₀ ρ₁ ρ':Rho} {st st₁ st':St} {fl f:Fl}:inv st→asg v ρ=some ρ₀→B ρ₀ st f ρ₁ st₁→(f = .next∨f = .cont)→
   ForR vs ρ₁ st₁ fl ρ' st'→ForR (v::vs) ρ st fl ρ' st'
 |ret {v x:V} {vs:List V} {ρ ρ₀ ρ₁:Rho} {st st₁:St}:inv st→asg v ρ=some ρ₀→B ρ₀ st (.ret x) ρ₁ st₁→ForR (v::vs) ρ st (.ret x) ρ₁ st₁
end
section
variable(T:Rho→St→Bool→St→Prop)(B:Rho→St→Fl→Rho→St→Prop)
inductive WhileR:Rho→St→Fl→Rho→St→Prop
 |stop {ρ:Rho} {st st₁:St}:T ρ st false st₁→WhileR ρ st .next ρ st₁
 |step {ρ ρ₁ ρ':Rho} {st st₁ st₂ st':St} {fl f:Fl}:T ρ st true st₁→B ρ st₁ f ρ₁ st₂→(f = .next∨f = .cont)→WhileR ρ₁ st₂ fl ρ' st'→WhileR ρ st fl ρ' st'
 |ret {x:V} {ρ ρ₁:Rho} {st st₁ st₂:St}:T ρ st true st₁→B ρ st₁ (.ret x) ρ₁ st₂→WhileR ρ st (.ret x) ρ₁ st₂
end
section
variable(asg:V→Rho→Option Rho)(T:Rho→St→Bool→St→Prop)(L:Rho→St→V→St→Prop)
inductive CompR(ρ:Rho):List V→St→List V→St→Prop
 |nil (st:St):CompR ρ [] st [] st
 |skip {v:V} {vs out:List V} {ρ₀:Rho} {st st₁ st':St}:asg v ρ=some ρ₀→T ρ₀ st false st₁→CompR ρ vs st₁ out st'→CompR ρ (v::vs) st out st'
 |take {v y:V} {vs out:List V} {ρ₀:Rho} {st st₁ st₂ st':St}:asg v ρ=some ρ₀→T ρ₀ st true st₁→L ρ₀ st₁ y st₂→CompR ρ vs st₂ out st'→CompR ρ (v::vs) st (y::out) st'
end
section
variable(R:Rec)
def dX(cx:Cx):List Expr→Rho→St→Sc→(List V→St→Sc→Prop)→Prop
 |[],_,st,sc,k=>k [] st sc
 |e::r,ρ,st,sc,k=>R.e cx e ρ st sc fun v st sc=>dX cx r ρ st sc fun vs st sc=>k (v::vs) st sc
def evO(cx:Cx)(e:Expr)(ρ:Rho)(st:St)(sc:Sc)(k:LV→St→Sc→Prop):Prop:=
 optD (ownN e ρ) (R.e cx e ρ st sc fun v st sc=>k (.v v) st sc) fun p=>k p.2 st sc
noncomputable abbrev KI:=List V→Option (Nat×Nat)→St→Sc→Prop
noncomputable def itV(line:Nat)(k:KI):KV:=fun v st sc=>v.refD (someE (Aa v) sc fun xs sc=>k xs none st sc) fun r i=>cellE line st r i sc fun o sc=>o.listD False fun xs=>k xs (some (r,i)) st sc
def yi(b:Nat)(vs:List V)(k:List V→Prop):Prop:=match b with
 |6=>oneD vs False fun v=>v.intD False fun i=>natD i False fun n=>cL n∧k (gY n)
 |7=>oneD vs False fun v=>v.tupD (v.lstD False fun xs=>k (dF 0 xs)) fun xs=>k (dF 0 xs)
 |8=>twoD vs False fun v u=>v.tupD False fun xs=>u.lstD False fun ys=>k (zc xs ys)
 |_=>False
noncomputable def E8(b:Nat):Bool:=Nat.beq b 6||Nat.beq b 7||Nat.beq b 8
def itBi(cx:Cx)(e:Expr)(ρ:Rho)(d:Prop)(f:Nat→List Expr→Prop):Prop:=callD e d fun g as kws _=>nameD g d fun x=>optD (lj cx x ρ) d fun v=>v.biD d fun b=>gateD (E8 b&&kws.isEmpty&&aF as) d (f b as)
def Ev(cx:Cx)(e:Expr)(ρ:Rho)(st:St)(sc:Sc)(k:KI):Prop:=
 itBi cx e ρ (R.e cx e ρ st sc (itV e.pos.line k)) fun b as=>dX R cx as ρ st sc fun vs st sc=>yi b vs fun xs=>k xs none st sc
set_option tactic.hygienic true in
def evB(cx:Cx):List Stmt→Rho→St→Sc→KF→Prop
 |[],ρ,st,sc,k=>k .next ρ st sc
 |s::r,ρ,st,sc,k=>R.s cx s ρ st sc fun fl ρ st sc=>match fl with
  | .next=>evB cx r ρ st sc k
  | .cont=>k .cont ρ st sc
  | .ret v=>k (.ret v) ρ st sc
def qk(cx:Cx):List Expr→Rho→St→Sc→(Bool→St→Sc→Prop)→Prop
 |[],_,st,sc,k=>k true st sc
 |c::r,ρ,st,sc,k=>R.c cx c ρ st sc fun b st sc=>onB c.pos.line b sc fun b sc=>match b with
  |true=>qk cx r ρ st sc k
  |false=>k false st sc
def bP(cx:Cx)(body:List Stmt)(ρ:Rho)(st:St)(fl:Fl)(ρ':Rho)(st':St):Prop:=
 ∃sc,evB R cx body ρ st sc fun f ρ₁ st₁ _=>f=fl∧ρ₁=ρ'∧st₁=st'
def iI(cx:Cx)(test:Expr)(ρ:Rho)(st:St)(b:Bool)(st':St):Prop:=
 ∃sc,R.c cx test ρ st sc fun b₁ st₁ _=>b₁=b∧st₁=st'
def fI(cx:Cx)(ifs:List Expr)(ρ:Rho)(st:St)(b:Bool)(st':St):Prop:=
 ∃sc,qk R cx ifs ρ st sc fun b₁ st₁ _=>b₁=b∧st₁=st'
def eF(cx:Cx)(elt:Expr)(ρ:Rho)(st:St)(v:V)(st':St):Prop:=
 ∃sc,R.e cx elt ρ st sc fun v₁ st₁ _=>v₁=v∧st₁=st'
def cR(items:List V)(src:Option (Nat×Nat))(st:St):Prop:=match src with
 |none=>True
 |some (k,i)=>(st.get k)[i]? = some (.list items)
noncomputable def bJ(x:Str):Bool:=match x.cps.toList with
 |95::95::_=>false
 |_=>true
noncomputable def Hx(f:Str→Bool)(rec:Expr→Bool)(t:Expr):Bool:=exA false (fun _ _ _ _=>false) (fun _ _ _=>false) (fun _ _ _=>false) (fun x _=>f x) (fun ts _ _=>ts.all rec) (fun _ _ _=>false) t
noncomputable def eB(f:Str→Bool):Nat→Expr→Bool
 |0=>fun _=>false
 |n+1=>Hx f (eB f n)
noncomputable def nM(o:Option LV):LV:=optD o .unb fun lv=>match lv with
 | .v x=> .v x
 | .fv x=> .fv x
 |_=> .unb
noncomputable def ut(ρ:Rho)(x:Str)(k:NameKind)(r:Rho):Rho:=match k with
 | .local=>(x,.unb)::r
 | .free=>(x,nM (look x ρ))::r
 |_=>r
noncomputable def cW(ρ:Rho):Cx→Rho
 |[]=>[]
 |p::r=>ut ρ p.1 p.2 (cW ρ r)
noncomputable def oR(k:NameKind):Bool:=match k with
 | .local=>true
 |_=>false
noncomputable def xH(k:NameKind):Bool:=match k with
 | .cell=>true
 | .free=>true
 |_=>false
noncomputable def rS(k:NameKind):Bool:=match k with
 | .free=>true
 |_=>false
noncomputable def wL(cx:Cx)(ρ:Rho)(x:Str)(k:NameKind):Bool:=oR k||zY k||(rS k&&optD (look x cx) false xH&&(look x ρ).isSome)
noncomputable def compNames(cx:Cx)(ρ:Rho):Cx→Bool
 |[]=>true
 |p::r=>bJ p.1&&(look p.1 r).isNone&&wL cx ρ p.1 p.2&&compNames cx ρ r
noncomputable def dB(names:Cx)(x:Str):Bool:=optD (look x names) false oR
noncomputable def tN:ScopeKind→Bool
 | .function=>true
 |_=>false
noncomputable def tp(cx:Cx)(ρ:Rho)(scope:Scope)(t:Expr):Bool:=tN scope.kind&&eB (dB scope.names) 9 t&&compNames cx ρ scope.names
set_option tactic.hygienic true in
def wZ(cx:Cx)(t:Expr)(body:List Stmt):List V→Rho→St→Sc→KF→Prop
 |[],ρ,st,sc,k=>k .next ρ st sc
 |v::vs,ρ,st,sc,k=>optP (asgN 9 t v ρ) fun ρ=>evB R cx body ρ st sc fun fl ρ st sc=>match fl with
   | .next=>wZ cx t body vs ρ st sc k
   | .cont=>wZ cx t body vs ρ st sc k
   | .ret x=>k (.ret x) ρ st sc
def qQ(cx:Cx)(t elt:Expr)(ifs:List Expr)(ρ:Rho):List V→St→Sc→(List V→St→Sc→Prop)→Prop
 |[],st,sc,k=>k [] st sc
 |v::vs,st,sc,k=>optP (asgN 9 t v ρ) fun ρ₀=>qk R cx ifs ρ₀ st sc fun b st sc=>match b with
   |false=>qQ cx t elt ifs ρ vs st sc k
   |true=>R.e cx elt ρ₀ st sc fun y st sc=>qQ cx t elt ifs ρ vs st sc fun out st sc=>k (y::out) st sc
noncomputable abbrev KL:=List V→St→Sc→Prop
def G8(names:Cx)(elt t:Expr)(ifs:List Expr)(line:Nat)(ρ:Rho)(items:List V)(st:St)(sc:Sc)(k:KL):Prop:=
 ask AT line sc (qQ R names t elt ifs (cW ρ names) items st sc k) fun p r=>CompR (asgN 9 t) (fI R names ifs) (eF R names elt) (cW ρ names) items st p.1 p.2∧k p.1 p.2 r
def sL(cx:Cx)(elt t it:Expr)(ifs:List Expr)(names:Cx)(line:Nat)(ρ:Rho)(st:St)(sc:Sc)(k:KL):Prop:=
 gate (jG t it) (Ev R cx it ρ st sc fun items src st sc=>match src with
  |some _=>False
  |none=>G8 R names elt t ifs line ρ items st sc k)
def stopOn(op:BoolOp)(b:Bool)(p q:Prop):Prop:=match op with
 | .And=>(match b with
  |false=>p
  |true=>q)
 | .Or=>(match b with
  |false=>q
  |true=>p)
def xJ(cx:Cx)(line:Nat)(op:BoolOp):List Expr→Rho→St→Sc→KV→Prop
 |[],_,_,_,_=>False
 |x::r,ρ,st,sc,k=>(match r with
  |[]=>R.e cx x ρ st sc k
  |_::_=>R.e cx x ρ st sc fun v st sc=>v.boolD False fun b=>onB line b sc fun b sc=>stopOn op b (k (.bool b) st sc) (xJ cx line op r ρ st sc k))
noncomputable def Gk:BoolOp→Bool
 | .And=>true
 | .Or=>false
def E6(cx:Cx)(line:Nat)(op:BoolOp):List Expr→Rho→St→Sc→(Bool→St→Sc→Prop)→Prop
 |[],_,st,sc,k=>k (Gk op) st sc
 |x::r,ρ,st,sc,k=>R.c cx x ρ st sc fun b st sc=>onB line b sc fun b sc=>stopOn op b (k b st sc) (E6 cx line op r ρ st sc k)
def pe(cx:Cx):List (Option Expr)→List Expr→Rho→St→Sc→(List (V×V)→St→Sc→Prop)→Prop
 |[],vs,_,st,sc,k=>nilD vs False (k [] st sc)
 |a::ks,vs,ρ,st,sc,k=>optP a fun a=>consD vs False fun b vs=>R.e cx a ρ st sc fun x st sc=>R.e cx b ρ st sc fun y st sc=>pe cx ks vs ρ st sc fun ps st sc=>k ((x,y)::ps) st sc
noncomputable def lg{K:Type}(get:V→Option K)(put:K→V→List (K×V)→List (K×V)):List (V×V)→List (K×V)→Option (List (K×V))
 |[],acc=>some acc
 |p::r,acc=>optD (get p.1) none fun s=>lg get put r (put s p.2 acc)
noncomputable def yP(v:V):Option Str:=v.strD none some
noncomputable def xX(v:V):Option Int:=v.intD none some
noncomputable def Es(ps:List (V×V)):Option O:=match ps with
 |[]=>some (.idd [])
 |p::_=>p.1.strD ((lg xX aZ ps []).map .idd) fun _=>(lg yP bw ps []).map .sd
noncomputable def oS:List (Option Expr)→List Expr→Bool
 |[],vs=>nilD vs false true
 |a::ks,vs=>a.isSome&&consD vs false fun _ vs=>oS ks vs
def newAt(n line:Nat)(o:O)(st:St)(sc:Sc)(k:KV):Prop:=alE line (st.get n).length sc fun i sc=>k (.ref n i) (st.push n o) sc
def dictEnd(a line:Nat)(ps:List (V×V))(o:O)(st:St)(sc:Sc)(k:KV):Prop:=atD a (nilD ps (k .junk st sc) (k .edict st sc)) False fun n=>newAt n line o st sc k
def wQ(cx:Cx)(ks:List (Option Expr))(vs:List Expr)(p:Pos)(ρ:Rho)(st:St)(sc:Sc)(k:KV):Prop:=
 gate (oS ks vs&&Nat.ble ks.length 15) (pe R cx ks vs ρ st sc fun ps st sc=>someE (Es ps) sc fun o sc=>dictEnd (d6 p) p.line ps o st sc k)
noncomputable def Bj(a line:Nat)(k:KV):KL:=fun vs st sc=>atD a (k (.lst vs) st sc) False fun n=>newAt n line (.list vs) st sc k
def wR(cx:Cx)(es:List Expr)(p:Pos)(ρ:Rho)(st:St)(sc:Sc)(k:KV):Prop:=gate (small es) (dX R cx es ρ st sc (Bj (d6 p) p.line k))
noncomputable def eM(o:Expr):Bool:=callD o true fun f as kws _=>nameD f true fun _=> !(as.isEmpty&&kws.isEmpty)
section
variable(C:CR)
def isNo(v:V)(p:Prop):Prop:=vM False p (fun _=>False) (fun _=>False) (fun _=>False) (fun _=>False) (fun _=>False) False False (fun _ _=>False) (fun _=>False) (fun _=>False) (fun _=>False) (fun _=>False) (fun _ _=>False) v
noncomputable def xA(c:Nat)(line:Nat)(k:KV):KL:=fun vs st sc=>optP (jr c (Str.ofString "__init__")) fun g=>
 alE line (st.get (jL c)).length sc fun i sc=>callP C g (.ref (jL c) i::vs) (st.push (jL c) (.inst c [])) sc fun v st sc=>isNo v (k (.ref (jL c) i) st sc)
noncomputable def nameIs(cx:Cx)(f:Expr)(ρ:Rho)(b:Nat):Bool:=nameD f false fun x=>optD (lj cx x ρ) false fun v=>v.biD false fun c=>Nat.beq b c
def G1(k:KV):LV→St→Sc→Prop:=fun lv st sc=>match lv with
 | .v v=>someE (pz st 0 [v]) sc fun r sc=>k r st sc
 | .ol xs=>k (.int (Int.ofNat xs.length)) st sc
 | .od es=>k (.int (Int.ofNat es.length)) st sc
 |_=>False
def Gs(k:KV)(v tv:V)(st:St)(sc:Sc):Prop:=tv.biD False fun b=>(Nat.beq b 3||Nat.beq b 12)=true∧someE (nT b v) sc fun r sc=>k (.bool r) st sc
noncomputable def xh(a line:Nat)(k:KV):KV:=fun v st sc=>atD a (optV line (pz st 2 [v]) sc fun r sc=>k r st sc) False fun n=>optV line (pz st 2 [v]) sc fun r sc=>r.lstD False fun xs=>newAt n line (.list xs) st sc k
noncomputable def xQ(a line:Nat)(k:KV):KV:=fun v st sc=>v.lstD False fun xs=>nilD xs False (atD a False False fun n=>newAt n line (.idd []) st sc k)
noncomputable def biK(b line:Nat)(k:KV):KL:=fun vs st sc=>optV line (pz st b vs) sc fun r sc=>k r st sc
def Gc(cx:Cx)(b:Nat)(as:List Expr)(p:Pos)(ρ:Rho)(st:St)(sc:Sc)(k:KV):Prop:=match b with
 |0=>oneD as False fun a=>evO R cx a ρ st sc (G1 k)
 |1=>twoD as False fun a t=>R.e cx a ρ st sc fun v st sc=>R.e cx t ρ st sc fun tv st sc=>Gs k v tv st sc
 |2=>oneD as False fun a=>R.e cx a ρ st sc (xh (d6 p) p.line k)
 |11=>oneD as False fun c=>callD c False fun f as kws _=>oneD as False fun a=>gate (kws.isEmpty&&aF [a]) (nameIs cx f ρ 7=true∧R.e cx a ρ st sc (xQ (d6 p) p.line k))
 |b=>dX R cx as ρ st sc (biK b p.line k)
noncomputable def Gd(line r i:Nat)(k:KV):KL:=fun vs st sc=>oneD vs False fun v=>cellE line st r i sc fun ob sc=>ob.listD False fun xs=>cL xs.length∧k .none (st.upd r i (.list (xs++[v]))) sc
def HG(line r i:Nat)(st:St)(sc:Sc)(k:KV):Prop:=cellE line st r i sc fun ob sc=>ob.listD False fun xs=>popE line xs sc fun ys v sc=>k v (st.upd r i (.list ys)) sc
noncomputable def HM(line r i:Nat)(k:KV):KL:=fun vs st sc=>twoD vs False fun x d=>x.intD False fun x=>cellE line st r i sc fun ob sc=>ob.iddD False fun es=>optV line (some ((ag x es).getD d)) sc fun v sc=>k v st sc
noncomputable def Hw(line r i:Nat)(k:KV):KL:=fun vs st sc=>oneD vs False fun x=>x.strD False fun x=>cellE line st r i sc fun ob sc=>ob.sdD False fun es=>optV line (some ((look x es).getD .none)) sc fun v sc=>k v st sc
def FY(cx:Cx)(m:Str)(as:List Expr)(line r i:Nat)(ρ:Rho)(st:St)(ob:O)(sc:Sc)(k:KV):Prop:=match ob with
 | .inst c fs=>optD (look m fs) (optP (jr c m) fun g=>dX R cx as ρ st sc fun vs st sc=>callP C g (.ref r i::vs) st sc k) fun _=>False
 | .list _=>gateD (av m "append") (gate (av m "pop") (nilD as False (HG line r i st sc k))) (dX R cx as ρ st sc (Gd line r i k))
 | .idd _=>gate (av m "get") (dX R cx as ρ st sc (HM line r i k))
 | .sd _=>gate (av m "get") (dX R cx as ρ st sc (Hw line r i k))
noncomputable def zn(cx:Cx)(m:Str)(as:List Expr)(line:Nat)(ρ:Rho)(k:KV):KV:=fun ov st sc=>ov.refD False fun r i=>cellE line st r i sc fun ob sc=>FY R C cx m as line r i ρ st ob sc k
noncomputable def Fn(line r i:Nat)(k:KV):KL:=fun vs st sc=>oneD vs False fun x=>x.intD False fun x=>cellE line st r i sc fun ob sc=>ob.iddD False fun es=>optV line (ag x es) sc fun v sc=>k v st sc
noncomputable def y0(cx:Cx)(as:List Expr)(p:Pos)(ρ:Rho)(k:KV):KV:=fun fv st sc=>vM False False (fun _=>False) (fun _=>False) (fun _=>False) (fun _=>False) (fun _=>False) False False (fun _ _=>False) (fun g=>dX R cx as ρ st sc fun vs st sc=>callP C g vs st sc k) (fun c=>dX R cx as ρ st sc (xA C c p.line k)) (fun _=>False) (fun b=>gate (Nat.blt b 13) (Gc R cx b as p ρ st sc k)) (fun r i=>dX R cx as ρ st sc (Fn p.line r i k)) fv
def AU(cx:Cx)(f:Expr)(as:List Expr)(p:Pos)(ρ:Rho)(st:St)(sc:Sc)(k:KV):Prop:=exA False (fun _ _ _ _=>False) (fun o m ap=>gate (eM o&&Nat.beq ap.endLine p.line) (R.e cx o ρ st sc (zn R C cx m as p.line ρ k))) (fun _ _ _=>R.e cx f ρ st sc (y0 R C cx as p ρ k)) (fun _ _=>R.e cx f ρ st sc (y0 R C cx as p ρ k)) (fun _ _ _=>False) (fun _ _ _=>False) f
def xW(cx:Cx)(f:Expr)(as:List Expr)(p:Pos)(ρ:Rho)(st:St)(sc:Sc)(k:KV):Prop:=gate (aF as&&Nat.ble as.length 20) (AU R C cx f as p ρ st sc k)
end
def ud(cx:Cx)(e:Option Expr)(ρ:Rho)(st:St)(sc:Sc)(k:Option Int→St→Sc→Prop):Prop:=optD e (k none st sc) fun e=>R.e cx e ρ st sc fun v st sc=>v.intD False fun i=>k (some i) st sc
def B2(cx:Cx)(o:Expr)(lo hi step:Option Expr)(ρ:Rho)(st:St)(sc:Sc)(k:KV):Prop:=
 R.e cx o ρ st sc fun v st sc=>ud R cx lo ρ st sc fun a st sc=>ud R cx hi ρ st sc fun b st sc=>ud R cx step ρ st sc fun c st sc=>Hr v a b c fun r=>k r st sc
noncomputable def ES(k:NameKind):Bool:=match k with
 | .cell=>true
 |_=>false
noncomputable def jm(cx:Cx):Bool:=optD (look (Str.ofString "places") cx) false ES
noncomputable def restNo(a:Arguments):Bool:=a.posonlyargs.isEmpty&&a.vararg.isNone&&a.kwonlyargs.isEmpty&&a.kw_defaults.isEmpty&&a.kwarg.isNone&&a.defaults.isEmpty
noncomputable def namesAre(l:Cx)(x d:Str):Bool:=twoD l false fun p q=>av p.1 x&&oR p.2&&(av q.1 d&&rS q.2)
noncomputable def lamOf(cx:Cx)(args:Arguments)(body:Expr)(scope:Scope)(p:Pos)(ρ:Rho):Option V:=
 oneD args.args none fun a=>subD body none fun o i=>nameD o none fun d=>nameD i none fun x=>
  gateD (restNo args&&av a.arg x&&namesAre scope.names x d&&tN scope.kind&&(!scope.isGenerator && !scope.isCoroutine&&bJ x&&bJ d)&&(!av d x&&Nat.beq p.line 137&&Nat.beq p.col 54&&(jm cx&&av d (Str.ofString "places")))) none
   (optD (look d ρ) none fun lv=>match lv with
    | .fv v=>v.refD none fun k i=>some (.clo k i)
    |_=>none)
def yC(c:Const)(st:St)(sc:Sc)(k:KV):Prop:=match c with
 | .none=>k .none st sc
 | .bool b=>k (.bool b) st sc
 | .int i=>k (.int i) st sc
 | .str s=>k (.str s) st sc
 |_=>False
def xg(cx:Cx)(x:Str)(ρ:Rho)(st:St)(sc:Sc)(k:KV):Prop:=match look x ρ with
 |some lv=>(match lv with
  | .v v=>k v st sc
  | .fv v=>k v st sc
  |_=>False)
 |none=>optP (look x cx) fun kd=>gate (zY kd) (someE (glob x) sc fun v sc=>k v st sc)
noncomputable def zq:UnaryOp→Bool
 | .USub=>true
 |_=>false
def evCmp(cx:Cx)(l:Expr)(ops:List CmpOp)(rs:List Expr)(line:Nat)(ρ:Rho)(st:St)(sc:Sc)(k:Bool→St→Sc→Prop):Prop:=
 oneD ops False fun op=>oneD rs False fun r=>gate (!zI r) (evO R cx l ρ st sc fun a st sc=>evO R cx r ρ st sc fun b st sc=>optB line (Bk st op a b) sc fun b sc=>k b st sc)
noncomputable def CH(x:Str)(line:Nat)(k:KV):KV:=fun v st sc=>v.refD False fun r i=>cellE line st r i sc fun ob sc=>ob.instD False fun c fs=>gate (hU c x) (optV line (look x fs) sc fun v sc=>k v st sc)
def ifK(line:Nat)(c:Bool)(sc:Sc)(p q:Sc→Prop):Prop:=onB line c sc fun c sc=>match c with
 |true=>p sc
 |false=>q sc
def zw(C:CR)(cx:Cx)(e:Expr)(ρ:Rho)(st:St)(sc:Sc)(k:KV):Prop:=exM False (fun op es p=>xJ R cx p.line op es ρ st sc k) (fun l op r=>R.e cx l ρ st sc fun a st sc=>R.e cx r ρ st sc fun b st sc=>Dx op a b fun v=>k v st sc)
 (fun op x=>gate (zq op) (R.e cx x ρ st sc fun v st sc=>v.intD False fun i=>k (.int (-i)) st sc)) (fun args body scope p=>someE (lamOf cx args body scope p ρ) sc fun v sc=>k v st sc)
 (fun t b o p=>R.c cx t ρ st sc fun c st sc=>ifK p.line c sc (fun sc=>R.e cx b ρ st sc k) fun sc=>R.e cx o ρ st sc k) (fun ks vs p=>wQ R cx ks vs p ρ st sc k)
 (fun elt gens scope p=>oneD gens False fun g=>gate (zd g.is_async 0&&tp cx ρ scope g.target) (sL R cx elt g.target g.iter g.ifs scope.names p.line ρ st sc fun vs st sc=>k (.lst vs) st sc))
 (fun l ops rs p=>evCmp R cx l ops rs p.line ρ st sc fun b st sc=>k (.bool b) st sc) (fun f as kws p=>nilD kws False (xW R C cx f as p ρ st sc k)) (fun c=>yC c st sc k)
 (fun o x p=>gate (eM o) (R.e cx o ρ st sc (CH x p.line k)))
 (fun o i p=>sliceD i (R.e cx o ρ st sc fun c st sc=>R.e cx i ρ st sc fun i st sc=>zo p.line st c i sc fun v sc=>k v st sc) fun lo hi step=>B2 R cx o lo hi step ρ st sc k)
 (fun x _=>xg cx x ρ st sc k) (fun es p=>wR R cx es p ρ st sc k) (fun es _ _=>gate (small es) (dX R cx es ρ st sc fun vs st sc=>k (.tup vs) st sc)) (fun _ _ _=>False) e
def Hc(cx:Cx)(e:Expr)(ρ:Rho)(st:St)(sc:Sc)(k:Bool→St→Sc→Prop):Prop:=R.e cx e ρ st sc fun v st sc=>v.boolD False fun b=>k b st sc
noncomputable def CX:UnaryOp→Bool
 | .Not=>true
 |_=>false
def Cd(cx:Cx)(e:Expr)(ρ:Rho)(st:St)(sc:Sc)(k:Bool→St→Sc→Prop):Prop:=
 let d:=Hc R cx e ρ st sc k
 exB d (fun op es p=>E6 R cx p.line op es ρ st sc k) (fun op x=>gate (CX op) (R.c cx x ρ st sc fun b st sc=>k (!b) st sc)) (fun _ _ _ _=>False) (fun _ _ _=>d) (fun _ _ _ _=>d) (fun l ops rs p=>evCmp R cx l ops rs p.line ρ st sc k) (fun _ _ _ _=>d) (fun _ _=>d) e
def uR(cx:Cx)(e:Expr)(ρ:Rho)(st:St)(sc:Sc)(k:LV→St→Sc→Prop):Prop:=R.e cx e ρ st sc fun v st sc=>k (.v v) st sc
noncomputable def zN(p:Pos):Bool:=Nat.beq (d6 p) 1
def qr(cx:Cx)(e:Expr)(ρ:Rho)(st:St)(sc:Sc)(k:LV→St→Sc→Prop):Prop:=
 let d:=uR R cx e ρ st sc k
 exB d (fun _ _ _=>d) (fun _ _=>d) (fun _ _ _ _=>d) (fun ks vs p=>gateD (zN p&&ks.isEmpty&&vs.isEmpty) d (k (.od []) st sc)) (fun _ _ _ _=>d) (fun _ _ _ _=>d)
  (fun f as kws p=>gateD (zN p&&kws.isEmpty&&aF as&&nameIs cx f ρ 2) d (oneD as False fun a=>R.e cx a ρ st sc fun v st sc=>someE (fV st v) sc fun xs sc=>k (.ol xs) st sc))
  (fun es p=>gateD (zN p) d (gate (small es) (dX R cx es ρ st sc fun vs st sc=>k (.ol vs) st sc))) e
def zW(cx:Cx)(e:Expr)(ρ:Rho)(st:St)(sc:Sc)(k:LV→St→Sc→Prop):Prop:=
 let d:=qr R cx e ρ st sc k
 exB d (fun _ _ _=>d) (fun _ _=>d) (fun t b o p=>R.c cx t ρ st sc fun c st sc=>ifK p.line c sc (fun sc=>qr R cx b ρ st sc k) fun sc=>qr R cx o ρ st sc k) (fun _ _ _=>d) (fun _ _ _ _=>d) (fun _ _ _ _=>d) (fun _ _ _ _=>d) (fun _ _=>d) e
def tZ(cx:Cx):List Expr→Rho→St→Sc→(List LV→St→Sc→Prop)→Prop
 |[],_,st,sc,k=>k [] st sc
 |e::r,ρ,st,sc,k=>zW R cx e ρ st sc fun v st sc=>tZ cx r ρ st sc fun vs st sc=>k (v::vs) st sc
noncomputable abbrev KR:=Rho→St→Sc→Prop
def CU(line:Nat)(st:St)(v:V)(sc:Sc)(k:List V→Sc→Prop):Prop:=match v with
 | .ref r i=>cellE line st r i sc fun ob sc=>ob.listD False fun xs=>k xs sc
 | .tup xs=>k xs sc
 | .lst xs=>k xs sc
 |_=>False
def Fq(r j:Nat)(v iv:V)(ρ:Rho)(st:St)(k:KR)(ob:O)(sc:Sc):Prop:=match ob with
 | .list xs=>iv.intD False fun n=>natD n False fun n=>(n<xs.length)∧k ρ (st.upd r j (.list (xs.set n v))) sc
 | .idd es=>iv.intD (iv.strD False fun s=>nilD es False (k ρ (st.upd r j (.sd [(s,v)])) sc)) fun n=>cL es.length∧k ρ (st.upd r j (.idd (aZ n v es))) sc
 | .sd es=>iv.strD False fun s=>Nat.ble es.length 500=true∧k ρ (st.upd r j (.sd (bw s v es))) sc
 | .inst _ _=>False
def zt(cx:Cx)(o i:Expr)(line:Nat)(v:V)(ρ:Rho)(st:St)(sc:Sc)(k:KR):Prop:=
 R.e cx o ρ st sc fun ov st sc=>R.e cx i ρ st sc fun iv st sc=>ov.refD False fun r j=>cellE line st r j sc (Fq r j v iv ρ st k)
noncomputable def Fx(x:Str)(line:Nat)(v:V)(ρ:Rho)(k:KR):KV:=fun ov st sc=>ov.refD False fun r i=>cellE line st r i sc fun ob sc=>ob.instD False fun c fs=>gate (hU c x) (Nat.ble fs.length 500=true∧k ρ (st.upd r i (.inst c (bw x v fs))) sc)
def Bi(cx:Cx)(t:Expr)(lv:LV)(ρ:Rho)(st:St)(sc:Sc)(k:KR):Prop:=
 exA False (fun _ _ _ _=>False) (fun o x p=>lv.vD False fun v=>R.e cx o ρ st sc (Fx x p.line v ρ k))
  (fun o i p=>lv.vD False fun v=>optD (ownN o ρ) (zt R cx o i p.line v ρ st sc k) fun q=>q.2.odD False fun es=>R.e cx i ρ st sc fun iv st sc=>iv.intD False fun n=>cL es.length∧k (bw q.1 (.od (aZ n v es)) ρ) st sc)
  (fun x _=>gate (canPut x ρ) (k (bw x lv ρ) st sc)) (fun ts c p=>lv.vD False fun v=>CU p.line st v sc fun xs sc=>someE (asgN 9 (.Tuple ts c p) (.tup xs) ρ) sc fun ρ sc=>k ρ st sc) (fun _ _ _=>False) t
def lT(cx:Cx):List Expr→List LV→Rho→St→Sc→KR→Prop
 |[],vs,ρ,st,sc,k=>nilD vs False (k ρ st sc)
 |t::ts,vs,ρ,st,sc,k=>consD vs False fun v vs=>Bi R cx t v ρ st sc fun ρ st sc=>lT cx ts vs ρ st sc k
noncomputable def eP:List Expr→Option (List Str)
 |[]=>some []
 |t::r=>nameD t none fun x=>optD (eP r) none fun xs=>some (x::xs)
noncomputable def distinctS:List Str→Bool
 |[]=>true
 |x::r=>match inStrs x r with
  |true=>false
  |false=>distinctS r
noncomputable def w0(ts vs:List Expr):Bool:=optD (eP ts) true distinctS&&(vs.all (foldedForSure 8) || !(vs.all (constantsAlone 8)))&&(aF ts&&Nat.beq ts.length vs.length)
noncomputable def isTg(t:Expr):Bool:=exA false (fun _ _ _ _=>false) (fun _ _ _=>true) (fun _ _ _=>true) (fun _ _=>true) (fun _ _ _=>true) (fun _ _ _=>false) t
set_option tactic.hygienic true in
noncomputable def uk(k:KF):KR:=fun ρ st sc=>k .next ρ st sc
def s5(cx:Cx)(t v:Expr)(ρ:Rho)(st:St)(sc:Sc)(k:KF):Prop:=gate (!Ba v&&isTg t) (zW R cx v ρ st sc fun lv st sc=>Bi R cx t lv ρ st sc (uk k))
def ownPop(v:Expr)(ρ:Rho)(d:Prop)(f:Str→List V→Prop):Prop:=callD v d fun g as kws cp=>attrD g d fun o m ap=>nameD o d fun x=>optD (ownAt x ρ) d fun lv=>lv.olD False fun xs=>gate (as.isEmpty&&kws.isEmpty&&av m "pop"&&Nat.beq ap.endLine cp.line) (f x xs)
def qm(cx:Cx)(t v:Expr)(line:Nat)(ρ:Rho)(st:St)(sc:Sc)(k:KF):Prop:=
 let d:=s5 R cx t v ρ st sc k
 exA d (fun _ _ _ _=>d) (fun _ _ _=>d) (fun _ _ _=>d) (fun y _=>gate (canPut y ρ) (ownPop v ρ d fun x xs=>popE line xs sc fun ys v sc=>k .next (bw y (.v v) (bw x (.ol ys) ρ)) st sc))
  (fun ts _ _=>tupleD v d fun vs=>gate (w0 ts vs&&small vs) (tZ R cx vs ρ st sc fun lvs st sc=>lT R cx ts lvs ρ st sc (uk k))) (fun _ _ _=>d) t
def moreK(m:Str)(xs:List V)(v:V)(k:List V→Prop):Prop:=gateD (av m "append") (gate (av m "extend") (v.lstD False fun ys=>(cL xs.length∧cL ys.length)∧k (xs++ys))) (cL xs.length∧k (xs++[v]))
def ownMore(e:Expr)(ρ:Rho)(d:Prop)(f:Str→List V→Str→Expr→Prop):Prop:=callD e d fun g as kws cp=>attrD g d fun o m ap=>nameD o d fun x=>optD (ownAt x ρ) d fun lv=>lv.olD False fun xs=>oneD as False fun a=>gate (kws.isEmpty&&Nat.beq ap.endLine cp.line&&aF [a]) (f x xs m a)
set_option tactic.hygienic true in
def y4(cx:Cx)(e:Expr)(ρ:Rho)(st:St)(sc:Sc)(k:KF):Prop:=gate (!lm e && !Ba e) (ownMore e ρ (R.e cx e ρ st sc fun _ st sc=>k .next ρ st sc) fun x xs m a=>
 gate (av m "append"||av m "extend") (R.e cx a ρ st sc fun v st sc=>moreK m xs v fun zs=>k .next (bw x (.ol zs) ρ) st sc))
def Cv(cx:Cx)(t it:Expr)(body:List Stmt)(line:Nat)(ρ:Rho)(st:St)(sc:Sc)(k:KF):Prop:=gate (jG t it) (Ev R cx it ρ st sc fun items src st sc=>
 ask uJ line sc (src=none∧wZ R cx t body items ρ st sc k) fun p r=>ForR (asgN 9 t) (bP R cx body) (cR items src) items ρ st p.1 p.2.1 p.2.2∧k p.1 p.2.1 p.2.2 r)
def tP(cx:Cx)(test:Expr)(body:List Stmt)(line:Nat)(ρ:Rho)(st:St)(sc:Sc)(k:KF):Prop:=ask uJ line sc False fun p r=>true=true∧WhileR (iI R cx test) (bP R cx body) ρ st p.1 p.2.1 p.2.2∧k p.1 p.2.1 p.2.2 r
def Cb(cx:Cx)(e:Expr)(ρ:Rho)(st:St)(sc:Sc)(k:KF):Prop:=optD (ownN e ρ) (R.e cx e ρ st sc fun v st sc=>k (.ret v) ρ st sc) fun q=>q.2.olD False fun xs=>k (.ret (.lst xs)) (freeze1 q.1 ρ) st sc
noncomputable def frz(p:Pos)(ρ:Rho):Rho:=freeze (GM p.line) ρ
set_option tactic.hygienic true in
def BW(cx:Cx)(s:Stmt)(ρ:Rho)(st:St)(sc:Sc)(k:KF):Prop:=stM False (fun _ _ _=>False) (fun _=>False) (fun o p=>optP o fun e=>Cb R cx e (frz p ρ) st sc k) (fun ts v p=>oneD ts False fun t=>qm R cx t v p.line (frz p ρ) st sc k)
 (fun t it body orelse p=>nilD orelse False (Cv R cx t it body p.line (frz p ρ) st sc k)) (fun test body orelse p=>nilD orelse False (tP R cx test body p.line ρ st sc k))
 (fun test body orelse p=>R.c cx test ρ st sc fun b st sc=>ifK p.line b sc (fun sc=>evB R cx body ρ st sc k) fun sc=>evB R cx orelse ρ st sc k) (fun e=>y4 R cx e ρ st sc k) (k .cont ρ st sc) (k .next ρ st sc) s
end
noncomputable def evN(C:CR):Nat→Rec
 |0=>⟨fun _ _ _ _ _ _=>False,fun _ _ _ _ _ _=>False,fun _ _ _ _ _ _=>False⟩
 |n+1=>⟨zw (evN C n) C,Cd (evN C n),BW (evN C n)⟩
noncomputable def fuel:Nat:=40
noncomputable def HI(k:KV):KF:=fun fl _ st sc=>match fl with
 | .ret v=>k v st sc
 | .next=>k .none st sc
 | .cont=>False
def tX(C:CR)(g:Nat)(args:List V)(st:St)(sc:Sc)(k:KV):Prop:=optP (dW g) fun s=>optP (vh g s args) fun ρ=>evB (evN C fuel) (namesOf s) (oG s) ρ st sc (HI k)
noncomputable def jq:Stmt→Arguments:=fdM ⟨[],[],none,[],[],none,[]⟩ fun a _ _=>a
noncomputable def dC:Stmt→Scope:=fdM ⟨.module,[],false,false,[]⟩ fun _ _ sc=>sc
noncomputable def rq(names:Cx)(x:Str):Bool:=match look x names with
 |some .local=>true
 |some .cell=>true
 |_=>false
noncomputable def plainArgs(a:Arguments):Bool:=a.posonlyargs.isEmpty&&a.vararg.isNone&&a.kwonlyargs.isEmpty&&a.kwarg.isNone
noncomputable def defOk(g:Nat):Bool:=match dW g with
 |none=>false
 |some s=>plainArgs (jq s)&&tN (dC s).kind && !(dC s).isGenerator && !(dC s).isCoroutine&&distinctS (bT s)&&Nat.ble (gi g).length (bT s).length &&
  (bT s).all (fun x=>bJ x&&rq (namesOf s) x)&&(jK (namesOf s)).all (fun p=>bJ p.1&&rq (namesOf s) p.1)
noncomputable def cY(g:Nat):Bool:=fnL.any (fun p=>Nat.beq p.2 g)||([14,16,22,109,111]:List Nat).any fun c=>(jD c).any fun p=>Nat.beq (1000*(c+1)+p.2) g
noncomputable def Ok(X:CR):Nat→CR
 |0=>X
 |d+1=>fun g args st v st'=>X g args st v st'∨(cY g=true∧∃sc,tX (Ok X d) g args st sc fun v₁ st₁ _=>v₁=v∧st₁=st')
noncomputable def noC:CR:=fun _ _ _ _ _=>False
mutual
noncomputable def fY:V→Bool
 | .none=>true
 | .bool _=>true
 | .int _=>true
 | .str _=>true
 | .tup xs=>pureVs xs
 | .lst xs=>pureVs xs
 |_=>false
noncomputable def pureVs:List V→Bool
 |[]=>true
 |x::r=>match fY x with
  |true=>pureVs r
  |false=>false
end
noncomputable def XR(d:Nat):CR:=fun g args st v st'=>st'=st∧pureVs args=true∧fY v=true∧∃st₁,Ok noC d g args St.empty v st₁
theorem ji(x:Int):∀l,(u7 x l).Perm (x::l)
 |[]=> .refl _
 |y::r=>by
  unfold u7
  split
  ·exact .refl _
  ·exact((ji x r).cons y).trans (.swap x y r)
theorem iC:∀l,(hG l).Perm l
 |[]=> .refl _
 |x::r=>(ji x _).trans ((iC r).cons x)
set_option tactic.hygienic true in
theorem mU(x:Int):∀l:List Int,l.Pairwise (· ≤ ·)→(u7 x l).Pairwise (· ≤ ·)
 |[],_=>List.pairwise_singleton _ _
 |y::r,h=>by
  unfold u7
  split
  ·rename_i e
   have e:=of_decide_eq_true e
   refine List.pairwise_cons.mpr ⟨fun z hz=> ?_,h⟩
   rcases List.mem_cons.mp hz with rfl|hz
   ·exact e
   ·exact Int.le_trans e ((List.pairwise_cons.mp h).1 z hz)
  ·rename_i e
   have e:=of_decide_eq_false e
   refine List.pairwise_cons.mpr ⟨fun z hz=> ?_,mU x r (List.pairwise_cons.mp h).2⟩
   rcases List.mem_cons.mp ((ji x r).mem_iff.mp hz) with rfl|hz
   ·omega
   ·exact(List.pairwise_cons.mp h).1 z hz
theorem ij:∀l,(hG l).Pairwise (· ≤ ·)
 |[]=>List.Pairwise.nil
 |x::r=>mU x _ (ij r)
theorem wJ{l l':List Int}(p:l'.Perm l)(o:l'.Pairwise (· ≤ ·)):l'=hG l:=
 List.Perm.eq_of_pairwise (le:=(· ≤ ·)) (fun _ _ _ _ h1 h2=>Int.le_antisymm h1 h2) o (ij l) (p.trans (iC l).symm)
noncomputable abbrev pw:Program:=Challenge.pw_on0048_01
section
variable{α β:Type}{P d:Prop}{line:Nat}{sc:Sc}{st:St}
theorem optP.of{k:α→Prop}:∀ {o:Option α},optP o k→(∀a,o=some a→k a→P)→P
 |some a,h,q=>q a rfl h
theorem optP.mk{k:α→Prop}{o:Option α}{a:α}(e:o=some a)(h:k a):optP o k:=e▸h
theorem gate.of:∀ {b:Bool},gate b P→b=true∧P
 |true,h=>⟨rfl,h⟩
theorem gateD.of{f:Prop}:∀ {b:Bool},gateD b d f→(b=true→f→P)→(d→P)→P
 |true,h,q,_=>q rfl h
 |false,h,_,q=>q h
theorem optD.of{f:α→Prop}:∀ {o:Option α},optD o d f→(∀a,o=some a→f a→P)→(d→P)→P
 |some a,h,q,_=>q a rfl h
 |none,h,_,q=>q h
theorem optD.some{f:α→Option β}{b:β}:∀ {o:Option α},optD o none f=some b→(∀a,o = .some a→f a = .some b→P)→P
 | .some a,h,q=>q a rfl h
theorem gateD.some{f:Option β}{x:β}:∀ {b:Bool},gateD b none f=some x→b=true∧f = .some x
 |true,h=>⟨rfl,h⟩
theorem oneD.of{f:α→Prop}:∀ {l:List α},oneD l False f→(∀a,l=[a]→f a→P)→P
 |[a],h,q=>q a rfl h
theorem twoD.of{f:α→α→Prop}:∀ {l:List α},twoD l False f→(∀a b,l=[a,b]→f a b→P)→P
 |[a,b],h,q=>q a b rfl h
theorem nilD.of{f:Prop}:∀ {l:List α},nilD l False f→l=[]∧f
 |[],h=>⟨rfl,h⟩
theorem ask.of{get:A→Option (Nat×α)}{f:α→Sc→Prop}:∀ {sc:Sc},ask get line sc d f→(∀x r,f x r→P)→(d→P)→P
 |[],h,_,q=>q h
 |_::r,h,q,q'=>optD.of h (fun p _ h=>gateD.of h (fun _=>q p.2 r) q') q'
theorem pickB.of{k:Bool→Sc→Prop}:∀ {b:Bool},pickB b sc k→k b sc
 |true,h=>h
 |false,h=>h
theorem onB.of{b:Bool}{k:Bool→Sc→Prop}(h:onB line b sc k)(q:∀sc',k b sc'→P):P:=ask.of h (fun b' r h=>q r (h.1▸h.2)) fun h=>q _ h.of
theorem someE.of{r:Option α}{k:α→Sc→Prop}(h:someE r sc k)(q:∀v sc',r=some v→k v sc'→P):P:=optP.of h fun v=>q v _
theorem optB.of{r:Option Bool}{k:Bool→Sc→Prop}(h:optB line r sc k)(q:∀v sc',r=some v→k v sc'→P):P:=ask.of h (fun b t h=>q b t h.1 h.2) fun h=>h.of q
theorem optV.of{r:Option V}{k:V→Sc→Prop}(h:optV line r sc k)(q:∀v sc',r=some v→k v sc'→P):P:=ask.of h (fun b t h=>q b t h.1 h.2) fun h=>h.of q
theorem cellE.of{r i:Nat}{k:O→Sc→Prop}(h:cellE line st r i sc k)(q:∀v sc',(st.get r)[i]? = some v→k v sc'→P):P:=ask.of h (fun b t h=>q b t h.1 h.2) fun h=>h.of q
theorem alE.of{n:Nat}{k:Nat→Sc→Prop}(h:alE line n sc k)(q:∀sc',k n sc'→P):P:=ask.of h (fun i t h=>q t (h.1▸h.2)) (q _)
theorem popR.of{xs:List V}{k:List V→V→Sc→Prop}(h:popR xs sc k)(q:∀ys v,xs=ys++[v]→k ys v sc→P):P:=by
 unfold popR at h
 generalize e:xs.reverse=l at h
 induction l with
 |nil=>exact h.elim
 |cons v r=>exact q _ v (by rw[←List.reverse_cons,←e,List.reverse_reverse]) h
theorem popE.of{xs:List V}{k:List V→V→Sc→Prop}(h:popE line xs sc k)(q:∀ys v sc',xs=ys++[v]→k ys v sc'→P):P:=ask.of h (fun p t h=>q p.1 p.2 t h.1 h.2) fun h=>h.of fun ys v=>q ys v _
theorem callP.of{C:CR}{g:Nat}{args:List V}{k:KV}(h:callP C g args st sc k)(q:∀v st' sc',C g args st v st'→k v st' sc'→P):P:=ask.of h (fun p t h=>q p.1 p.2 t h.1 h.2) False.elim
theorem O.listD.of{f:List V→Prop}:∀ {o:O},o.listD False f→(∀a,o = .list a→f a→P)→P
 | .list a,h,q=>q a rfl h
theorem O.iddD.of{f:List (Int×V)→Prop}:∀ {o:O},o.iddD False f→(∀a,o = .idd a→f a→P)→P
 | .idd a,h,q=>q a rfl h
theorem O.sdD.of{f:List (Str×V)→Prop}:∀ {o:O},o.sdD False f→(∀a,o = .sd a→f a→P)→P
 | .sd a,h,q=>q a rfl h
theorem O.instD.of{f:Nat→List (Str×V)→Prop}:∀ {o:O},o.instD False f→(∀c a,o = .inst c a→f c a→P)→P
 | .inst c a,h,q=>q c a rfl h
theorem natD.of{f:Nat→Prop}:∀ {i:Int},natD i False f→(∀n,i = .ofNat n→f n→P)→P
 | .ofNat n,h,q=>q n rfl h
theorem LV.vD.of{f:V→Prop}:∀ {i:LV},i.vD False f→(∀n,i = .v n→f n→P)→P
 | .v n,h,q=>q n rfl h
theorem listAt.of{k i:Nat}{xs:List V}(h:listAt st k i=some xs):(st.get k)[i]? = some (.list xs):=by
 unfold listAt at h
 generalize (st.get k)[i]? = o at h
 match o,h with|some (.list _),rfl=>rfl
theorem iddAt.of{k i:Nat}{xs:List (Int×V)}(h:iddAt st k i=some xs):(st.get k)[i]? = some (.idd xs):=by
 unfold iddAt at h
 generalize (st.get k)[i]? = o at h
 match o,h with|some (.idd _),rfl=>rfl
end
inductive Role where
 |frz
 |own
 |obj (k i:Nat)
 |dict (a:Addr)
 |tab
noncomputable abbrev Gh:=Addr→Role
noncomputable def Role.mut(r:Role):Bool:=match r with
 | .frz=>false
 | .own=>false
 |_=>true
noncomputable def LV.role(lv:LV):Role:=match lv.isFv with
 |true=> .frz
 |false=> .own
noncomputable def aH:Nat:=1000000
theorem dr:aH≤sizeLine:=by rw[sizeLine_eq];decide
structure aN where
 fa:Nat→Addr
 ca:Nat→Addr
 ga:Nat→Addr
 pt:Addr
 lc:Addr
 lq:Str
noncomputable def biV:Nat→Value
 |0=> .builtin "len"|1=> .builtin "isinstance"|2=> .type "list"|3=> .type "tuple"|4=> .type "int"|5=> .builtin "max"|6=> .type "range"
 |7=> .type "enumerate"|8=> .type "zip"|9=> .builtin "sorted"|10=> .type "frozenset"|11=> .type "dict"|12=> .type "str"|_=> .ellipsis
structure Cf where
 pl:aN
 w:World
 B:Shared
 K:Frag
section
variable(pl:aN)(h:Heap)(G:Gh)
structure pK(params:Arguments)(body:Expr)(scope:Scope)(d x:Str):Prop where
 pa:∃an ap,params=⟨[],[⟨x,an,ap⟩],none,[],[],none,[]⟩
 bo:∃dp xp sp,body = .Subscript (.Name d dp) (.Name x xp) sp
 na:scope.names=[(x,.local),(d,.free)]
 ki:scope.kind = .function
 ge:scope.isGenerator=false
 co:scope.isCoroutine=false
 okx:bJ x=true
 okd:bJ d=true
 ne:(d==x)=false
def CodeAt(c:Addr)(q:Str):Prop:=∃oc vs t,h.get? c=some oc∧oc.data = .fields vs∧vs[1]? = some (.str q t)∧G c = .frz
def IsClo(a b:Addr):Prop:=∃q params body scope d x c pm c' ctv,pK params body scope d x∧h.get? a=some (kla_obj "<lambda>" q params body scope [(d,c)] pm c' ctv)∧h.IsCell c (some (.ref b))∧G c = .frz∧CodeAt h G c' q
def TabOk:Prop:=∃ps,h.get? pl.pt=some (tabObj ps)∧TriplesOk ps.toList∧
 ((∀p:Pos,p.line=137→p.col=54→codeAmong p ps.toList=none)∨∃c',(∀p:Pos,p.line=137→p.col=54→codeAmong p ps.toList=some (.ref c'))∧CodeAt h G c' pl.lq)
noncomputable abbrev IsL(a:Addr)(items:Array Value)(n:Nat):Prop:=h.get? a=some {cls:= .type "list",data:= .seq items n}
noncomputable abbrev g6(a:Addr):Prop:=h.get? a=some {cls:= .type "dict",data:= .dict #[]}
mutual
inductive Rel:V→Value→Prop
 |none:Rel .none .none
 |bool (b:Bool):Rel (.bool b) (.bool b)
 |int (i:Int) (t:Tok):Rel (.int i) (.int i t)
 |str (x:Str) (t:Tok):Rel (.str x) (.str x t)
 |tup {xs:List V} {a:Addr} {items:Array Value} {n:Nat}:IsT h a items n→G a = .frz→items.size≤aH→Rels xs items.toList→Rel (.tup xs) (.ref a)
 |lst {xs:List V} {a:Addr} {items:Array Value} {n:Nat}:IsL h a items n→G a = .frz→items.size≤aH→Rels xs items.toList→Rel (.lst xs) (.ref a)
 |edict {a:Addr}:g6 h a→G a = .frz→Rel .edict (.ref a)
 |fset {a:Addr} {n:Nat} {t:SetTable}:h.get? a=some {cls:= .type "frozenset",data:= .set #[] n t}→t.fits 0=true→G a = .frz→Rel .fset (.ref a)
 |junk (a:Addr):Rel .junk (.ref a)
 |ref {k i:Nat} {a:Addr}:G a = .obj k i→Rel (.ref k i) (.ref a)
 |fn (g:Nat):Rel (.fn g) (.ref (pl.fa g))
 |cls (c:Nat):Rel (.cls c) (.ref (pl.ca c))
 |gd (d:Nat):Rel (.gd d) (.ref (pl.ga d))
 |bi (b:Nat):Rel (.bi b) (biV b)
 |clo {k i:Nat} {a b:Addr}:IsClo h G a b→G a = .frz→G b = .obj k i→Rel (.clo k i) (.ref a)
inductive Rels:List V→List Value→Prop
 |nil:Rels [] []
 |cons {x:V} {v:Value} {xs:List V} {vs:List Value}:Rel x v→Rels xs vs→Rels (x::xs) (v::vs)
end
def ListAt(a:Addr)(xs:List V):Prop:=∃items n,IsL h a items n∧items.size≤aH∧Rels pl h G xs items.toList
def DictA{K:Type}[DecidableEq K]{w:World}(knd:KeyKind pw w K)(a:Addr)(es:List (K×V)):Prop:=∃kvs,h.DictOf knd a kvs∧kvs.length≤aH∧es.map (·.1)=kvs.map (·.1)∧Rels pl h G (es.map (·.2)) (kvs.map (·.2))
end
section
variable(Γ:Cf)(h:Heap)(G:Gh)
def SdAt(a:Addr)(es:List (Str×V)):Prop:=DictA Γ.pl h G (strKind pw Γ.w) a es
def IddAt(a:Addr)(es:List (Int×V)):Prop:=DictA Γ.pl h G (intKind pw Γ.w) a es
def OAt(a:Addr)(o:O):Prop:=match o with
 | .list xs=>ListAt Γ.pl h G a xs
 | .sd es=>SdAt Γ h G a es
 | .idd es=>IddAt Γ h G a es
 | .inst c fs=>∃d,h.get? a=some (instObj (Γ.pl.ca c) d)∧G d = .dict a∧SdAt Γ h G d fs
end
section
variable{pl:aN}{h h':Heap}{G G':Gh}{v:V}{x:Value}{xs:List V}{us:List Value}
theorem Rel.elim{P:∀(x:V) (v:Value),Rel pl h G x v→Prop}{x:V}{v:Value}(r:Rel pl h G x v)
 (none:P _ _ .none) (bool:∀b,P _ _ (.bool b)) (int:∀i t,P _ _ (.int i t)) (str:∀i t,P _ _ (.str i t))
 (tup:∀ {xs a items n} (e:IsT h a items n) (g:G a = .frz) (b:items.size≤aH) (r:Rels pl h G xs items.toList),P _ _ (.tup e g b r))
 (lst:∀ {xs a items n} (e:IsL h a items n) (g:G a = .frz) (b:items.size≤aH) (r:Rels pl h G xs items.toList),P _ _ (.lst e g b r))
 (edict:∀ {a} (e:g6 h a) (g:G a = .frz),P _ _ (.edict e g))
 (fset:∀ {a n t} (e:h.get? a=some {cls:= .type "frozenset",data:= .set #[] n t}) (f:t.fits 0=true) (g:G a = .frz),P _ _ (.fset e f g))
 (junk:∀a,P _ _ (.junk a)) (ref:∀ {k i a} (g:G a = .obj k i),P _ _ (.ref g)) (fn:∀g,P _ _ (.fn g)) (cls:∀c,P _ _ (.cls c)) (gd:∀c,P _ _ (.gd c)) (bi:∀c,P _ _ (.bi c))
 (clo:∀ {k i a b} (c:IsClo h G a b) (g:G a = .frz) (q:G b = .obj k i),P _ _ (.clo c g q)):P x v r:=
 Rel.casesOn (motive_1:=P) r none bool int str (fun e g b r=>tup e g b r) (fun e g b r=>lst e g b r) (fun e g=>edict e g) (fun e f g=>fset e f g) junk (fun g=>ref g) fn cls gd bi fun c g q=>clo c g q
theorem Rels.elim{P:List V→List Value→Prop}{x:List V}{v:List Value}(r:Rels pl h G x v)(nil:P [] [])(cons:∀x v xs vs (r:Rel pl h G x v) (q:Rels pl h G xs vs),P (x::xs) (v::vs)):P x v:=
 Rels.casesOn (motive_2:=fun x v _=>P x v) r nil fun r q=>cons _ _ _ _ r q
variable{P:Prop}
def Hi(pl:aN)(h:Heap)(G:Gh)(v:V)(x:Value):Prop:=
 vM True (x = .none) (fun b=>x = .bool b) (fun i=>∃t,x = .int i t) (fun i=>∃t,x = .str i t) (fun xs=>∃a items n,x = .ref a∧IsT h a items n∧G a = .frz∧items.size≤aH∧Rels pl h G xs items.toList)
  (fun xs=>∃a items n,x = .ref a∧IsL h a items n∧G a = .frz∧items.size≤aH∧Rels pl h G xs items.toList) True True (fun k i=>∃a,x = .ref a∧G a = .obj k i) (fun g=>x = .ref (pl.fa g)) (fun g=>x = .ref (pl.ca g)) (fun g=>x = .ref (pl.ga g)) (fun g=>x=biV g)
  (fun k i=>∃a b,x = .ref a∧IsClo h G a b∧G a = .frz∧G b = .obj k i) v
theorem Rel.inv(r:Rel pl h G v x):Hi pl h G v x:=
 r.elim (P:=fun v x _=>Hi pl h G v x) rfl (fun _=>rfl) (fun _ t=>⟨t,rfl⟩) (fun _ t=>⟨t,rfl⟩) (fun e g b r=>⟨_,_,_,rfl,e,g,b,r⟩) (fun e g b r=>⟨_,_,_,rfl,e,g,b,r⟩) (fun _ _=>trivial) (fun _ _ _=>trivial) (fun _=>trivial)
  (fun g=>⟨_,rfl,g⟩) (fun _=>rfl) (fun _=>rfl) (fun _=>rfl) (fun _=>rfl) fun c g q=>⟨_,_,rfl,c,g,q⟩
theorem Rel.intI{i:Int}(r:Rel pl h G (.int i) x)(q:∀t,x = .int i t→P):P:=r.inv.elim q
theorem Rel.strI{i:Str}(r:Rel pl h G (.str i) x)(q:∀t,x = .str i t→P):P:=r.inv.elim q
theorem Rel.boolI{b:Bool}(r:Rel pl h G (.bool b) x):x = .bool b:=r.inv
theorem Rel.noneI(r:Rel pl h G .none x):x = .none:=r.inv
theorem Rel.tupI{xs:List V}(r:Rel pl h G (.tup xs) x)(q:∀a items n,x = .ref a→IsT h a items n→G a = .frz→items.size≤aH→Rels pl h G xs items.toList→P):P:=r.inv.elim fun a r=>r.elim fun items r=>r.elim fun n r=>q a items n r.1 r.2.1 r.2.2.1 r.2.2.2.1 r.2.2.2.2
theorem Rel.lstI{xs:List V}(r:Rel pl h G (.lst xs) x)(q:∀a items n,x = .ref a→IsL h a items n→G a = .frz→items.size≤aH→Rels pl h G xs items.toList→P):P:=r.inv.elim fun a r=>r.elim fun items r=>r.elim fun n r=>q a items n r.1 r.2.1 r.2.2.1 r.2.2.2.1 r.2.2.2.2
theorem Rel.refI{k i:Nat}(r:Rel pl h G (.ref k i) x)(q:∀a,x = .ref a→G a = .obj k i→P):P:=r.inv.elim fun a r=>q a r.1 r.2
theorem Rel.fnI{g:Nat}(r:Rel pl h G (.fn g) x):x = .ref (pl.fa g):=r.inv
theorem Rel.clsI{g:Nat}(r:Rel pl h G (.cls g) x):x = .ref (pl.ca g):=r.inv
theorem Rel.gdI{g:Nat}(r:Rel pl h G (.gd g) x):x = .ref (pl.ga g):=r.inv
theorem Rel.biI{g:Nat}(r:Rel pl h G (.bi g) x):x=biV g:=r.inv
theorem Rel.cloI{k i:Nat}(r:Rel pl h G (.clo k i) x)(q:∀a b,x = .ref a→IsClo h G a b→G a = .frz→G b = .obj k i→P):P:=r.inv.elim fun a r=>r.elim fun b r=>q a b r.1 r.2.1 r.2.2.1 r.2.2.2
theorem Rel.intD{f:Int→Prop}:∀ {v:V},Rel pl h G v x→v.intD False f→(∀i t,x = .int i t→f i→P)→P
 | .int i,r,e,q=>r.intI fun t h=>q i t h e
theorem Rel.strD{f:Str→Prop}:∀ {v:V},Rel pl h G v x→v.strD False f→(∀i t,x = .str i t→f i→P)→P
 | .str i,r,e,q=>r.strI fun t h=>q i t h e
theorem Rel.boolD{f:Bool→Prop}:∀ {v:V},Rel pl h G v x→v.boolD False f→(∀i,x = .bool i→f i→P)→P
 | .bool i,r,e,q=>q i r.boolI e
theorem Rel.biD{f:Nat→Prop}:∀ {v:V},Rel pl h G v x→v.biD False f→(∀i,x=biV i→f i→P)→P
 | .bi i,r,e,q=>q i r.biI e
theorem Rel.refD{f:Nat→Nat→Prop}:∀ {v:V},Rel pl h G v x→v.refD False f→(∀k i a,x = .ref a→G a = .obj k i→f k i→P)→P
 | .ref k i,r,e,q=>r.refI fun a h g=>q k i a h g e
theorem Rel.tupD{f:List V→Prop}:∀ {v:V},Rel pl h G v x→v.tupD False f→(∀xs a items n,x = .ref a→IsT h a items n→G a = .frz→items.size≤aH→Rels pl h G xs items.toList→f xs→P)→P
 | .tup xs,r,e,q=>r.tupI fun a items n h e1 g b r=>q xs a items n h e1 g b r e
theorem Rel.lstD{f:List V→Prop}:∀ {v:V},Rel pl h G v x→v.lstD False f→(∀xs a items n,x = .ref a→IsL h a items n→G a = .frz→items.size≤aH→Rels pl h G xs items.toList→f xs→P)→P
 | .lst xs,r,e,q=>r.lstI fun a items n h e1 g b r=>q xs a items n h e1 g b r e
def Cp(pl:aN)(h:Heap)(G:Gh)(vs:List V)(us:List Value):Prop:=match vs with
 |[]=>us=[]
 |v::xs=>∃u us',us=u::us'∧Rel pl h G v u∧Rels pl h G xs us'
theorem Rels.inv{vs:List V}(r:Rels pl h G vs us):Cp pl h G vs us:=r.elim (P:=Cp pl h G) rfl fun _ _ _ _ r q=>⟨_,_,rfl,r,q⟩
theorem Rels.nilI(r:Rels pl h G [] us):us=[]:=r.inv
theorem Rels.consI(r:Rels pl h G (v::xs) us)(q:∀u us',us=u::us'→Rel pl h G v u→Rels pl h G xs us'→P):P:=r.inv.elim fun u r=>r.elim fun us' r=>q u us' r.1 r.2.1 r.2.2
theorem Rels.oneI(r:Rels pl h G [v] us)(q:∀u,us=[u]→Rel pl h G v u→P):P:=r.consI fun u _ e r1 r2=>q u (r2.nilI▸e) r1
theorem Rels.twoI{v':V}(r:Rels pl h G [v,v'] us)(q:∀u u',us=[u,u']→Rel pl h G v u→Rel pl h G v' u'→P):P:=r.consI fun u _ e r1 r2=>r2.oneI fun u' e' r3=>q u u' (e'▸e) r1 r3
theorem Rels.oneD{f:V→Prop}:∀ {xs:List V},Rels pl h G xs us→oneD xs False f→(∀v u,us=[u]→Rel pl h G v u→f v→P)→P
 |[v],r,e,q=>r.oneI fun u h r=>q v u h r e
theorem Rels.twoD{f:V→V→Prop}:∀ {xs:List V},Rels pl h G xs us→twoD xs False f→(∀v v' u u',us=[u,u']→Rel pl h G v u→Rel pl h G v' u'→f v v'→P)→P
 |[v,v'],r,e,q=>r.twoI fun u u' h r r'=>q v v' u u' h r r' e
theorem ListAt.elim{P:Prop}{a:Addr}(l:ListAt pl h G a xs)(q:∀items n,IsL h a items n→items.size≤aH→Rels pl h G xs items.toList→P):P:=l.casesOn fun items l=>l.casesOn fun n l=>q items n l.1 l.2.1 l.2.2
theorem DictA.elim{P:Prop}{K:Type}[DecidableEq K]{w:World}{knd:KeyKind pw w K}{a:Addr}{es:List (K×V)}(l:DictA pl h G knd a es)(q:∀kvs,h.DictOf knd a kvs→kvs.length≤aH→es.map (·.1)=kvs.map (·.1)→Rels pl h G (es.map (·.2)) (kvs.map (·.2))→P):P:=l.casesOn fun kvs l=>q kvs l.1 l.2.1 l.2.2.1 l.2.2.2
theorem Rels.length(r:Rels pl h G xs us):xs.length=us.length:=by
 induction xs generalizing us with
 |nil=>exact r.nilI▸rfl
 |cons x xs ih=>exact r.consI fun _ _ e _ r=>e▸congrArg (· + 1) (ih r)
theorem Rels.size{items:Array Value}(r:Rels pl h G xs items.toList):xs.length=items.size:=r.length.trans Array.length_toList
theorem Rels.get(r:Rels pl h G xs us){n:Nat}{x:V}(e:xs[n]? = some x):∃v,us[n]? = some v∧Rel pl h G x v:=by
 induction xs generalizing us n with
 |nil=>exact noS e
 |cons y xs ih=>
  refine r.consI fun u us e' r1 r2=> ?_
  subst e'
  induction n with
  |zero=>exact sji e▸⟨u,rfl,r1⟩
  |succ n=>exact ih r2 e
theorem Rels.append{ys:List V}{ws:List Value}(r:Rels pl h G xs us)(q:Rels pl h G ys ws):Rels pl h G (xs++ys) (us++ws):=by
 induction xs generalizing us with
 |nil=>exact r.nilI▸q
 |cons x xs ih=>exact r.consI fun _ _ e r1 r2=>e ▸ .cons r1 (ih r2)
theorem Rels.appA{ys:List V}{it jt:Array Value}(r:Rels pl h G xs it.toList)(q:Rels pl h G ys jt.toList):Rels pl h G (xs++ys) (it++jt).toList:=by rw[Array.toList_append];exact r.append q
theorem Rels.split{ys:List V}(r:Rels pl h G (xs++ys) us)(q:∀ws zs,us=ws++zs→Rels pl h G xs ws→Rels pl h G ys zs→P):P:=by
 induction xs generalizing us P with
 |nil=>exact q [] us rfl .nil r
 |cons x xs ih=>exact Rels.consI (xs:=xs++ys) r fun u us e r1 r2=>ih r2 fun ws zs e' a b=>q (u::ws) zs (e.trans (congrArg (u :: ·) e')) (.cons r1 a) b
theorem Rels.one{x:V}{v:Value}(r:Rel pl h G x v):Rels pl h G [x] [v]:= .cons r .nil
theorem Rels.reverse(r:Rels pl h G xs us):Rels pl h G xs.reverse us.reverse:=by
 induction xs generalizing us with
 |nil=>exact r.nilI ▸ .nil
 |cons x xs ih=>refine r.consI fun u us e r1 r2=> ?_;subst e;rw[List.reverse_cons,List.reverse_cons];exact(ih r2).append (.one r1)
theorem Rels.drop(r:Rels pl h G xs us):∀n,Rels pl h G (xs.drop n) (us.drop n):=by
 intro n
 induction n generalizing xs us with
 |zero=>exact r
 |succ n ih=>exact r.elim (P:=fun xs us=>Rels pl h G (xs.drop (n+1)) (us.drop (n+1))) Rels.nil fun _ _ _ _ _ r=>ih r
theorem Rels.take(r:Rels pl h G xs us):∀n,Rels pl h G (xs.take n) (us.take n):=by
 intro n
 induction n generalizing xs us with
 |zero=>rw[List.take_zero,List.take_zero];exact .nil
 |succ n ih=>exact r.elim (P:=fun xs us=>Rels pl h G (xs.take (n+1)) (us.take (n+1))) Rels.nil fun _ _ _ _ q r=>Rels.cons q (ih r)
theorem Rels.set(r:Rels pl h G xs us){x:V}{v:Value}(q:Rel pl h G x v):∀n,Rels pl h G (xs.set n x) (us.set n v):=by
 intro n
 induction n generalizing xs us with
 |zero=>exact r.elim (P:=fun xs us=>Rels pl h G (xs.set 0 x) (us.set 0 v)) Rels.nil fun _ _ _ _ _ r=>Rels.cons q r
 |succ n ih=>exact r.elim (P:=fun xs us=>Rels pl h G (xs.set (n+1) x) (us.set (n+1) v)) Rels.nil fun _ _ _ _ a r=>Rels.cons a (ih r)
theorem Rels.replicate{x:V}{v:Value}(q:Rel pl h G x v):∀n,Rels pl h G (List.replicate n x) (List.replicate n v)
 |0=> .nil
 |n+1=> .cons q (Rels.replicate q n)
def noX:Addr→Prop:=fun _=>False
def HY:Addr→Prop:=fun _=>True
structure Kp(X:Addr→Prop)(h h':Heap)(G G':Gh):Prop where
 each:∀a o,h.get? a=some o→(G a = .own∧X a)∨(G' a=G a∧∃o',h'.get? a=some o'∧((G a).mut=true∨o'=o))
theorem Kp.refl(X:Addr→Prop)(h:Heap)(G:Gh):Kp X h h G G:=⟨fun _ o e=> .inr ⟨rfl,o,e,.inr rfl⟩⟩
variable{X Y:Addr→Prop}{a:Addr}{o:Obj}
theorem Kp.mono(k:Kp X h h' G G')(i:∀a,X a→Y a):Kp Y h h' G G':=⟨fun a o e=>(k.each a o e).imp_left fun q=>⟨q.1,i a q.2⟩⟩
theorem Kp.out(k:Kp X h h' G G')(e:h.get? a=some o)(n:G a = .own→X a→False){P:Prop}(q:G' a=G a→∀o',h'.get? a=some o'→((G a).mut=true∨o'=o)→P):P:=
 (k.each a o e).elim (fun q=>(n q.1 q.2).elim) fun r=>r.2.elim fun o' r'=>q r.1 o' r'.1 r'.2
theorem Kp.trans{h'':Heap}{G'':Gh}(k:Kp X h h' G G')(l:Kp X h' h'' G' G''):Kp X h h'' G G'':=
 ⟨fun a o e=>(k.each a o e).elim .inl fun r=>r.2.elim fun o' q=>(l.each a o' q.1).elim (fun r'=> .inl ⟨r.1.symm.trans r'.1,r'.2⟩) fun r'=>r'.2.elim fun o'' q'=>
  .inr ⟨r'.1.trans r.1,o'',q'.1,q.2.elim .inl fun e=>q'.2.elim (fun m=> .inl (r.1▸m)) fun e'=> .inr (e'.trans e)⟩⟩
theorem Role.ne{r r':Role}(g:r=r')(n:r.mut = !r'.mut):False:=by subst g;cases h:r.mut<;>rw[h] at n<;>cases n
theorem Kp.still(k:Kp X h h' G G')(e:h.get? a=some o)(m:(G a).mut=false)(n:G a = .own→X a→False):G' a=G a∧h'.get? a=some o:=
 k.out e n fun g o' e' q=>⟨g,q.elim (fun q=>Bool.noConfusion (m.symm.trans q)) fun q=>q▸e'⟩
theorem Kp.frz(k:Kp X h h' G G')(e:h.get? a=some o)(g:G a = .frz):G' a = .frz∧h'.get? a=some o:=
 let q:=k.still e (g▸rfl) fun q=>Role.noConfusion (g.symm.trans q);⟨q.1.trans g,q.2⟩
theorem Kp.own(k:Kp X h h' G G')(e:h.get? a=some o)(g:G a = .own)(n:¬X a):G' a = .own∧h'.get? a=some o:=
 let q:=k.still e (g▸rfl) fun _=>n;⟨q.1.trans g,q.2⟩
theorem Kp.obj(k:Kp X h h' G G')(e:∃o,h.get? a=some o){i j:Nat}(g:G a = .obj i j):G' a = .obj i j:=
 e.elim fun _ e=>k.out e (fun q=>Role.noConfusion (g.symm.trans q)) fun q _ _ _=>q.trans g
def mI(h:Heap)(G:Gh):Prop:=∀a,G a ≠ .frz→∃o,h.get? a=some o
theorem CodeAt.keep(k:Kp X h h' G G'){c:Addr}{q:Str}(x:CodeAt h G c q):CodeAt h' G' c q:=
 x.elim fun oc x=>x.elim fun vs x=>x.elim fun t x=>⟨oc,vs,t,(k.frz x.1 x.2.2.2).2,x.2.1,x.2.2.1,(k.frz x.1 x.2.2.2).1⟩
theorem IsClo.keep(k:Kp X h h' G G'){a b:Addr}(x:IsClo h G a b)(g:G a = .frz):IsClo h' G' a b:=by
 obtain⟨q,params,body,scope,d,x,c,pm,c',ctv,sh,e,⟨oc,ec,dc⟩,gc,co⟩:=x
 exact⟨q,params,body,scope,d,x,c,pm,c',ctv,sh,(k.frz e g).2,⟨oc,(k.frz ec gc).2,dc⟩,(k.frz ec gc).1,co.keep k⟩
theorem IsClo.here{a b:Addr}(x:IsClo h G a b):∃o,h.get? a=some o:=
 x.elim fun _ x=>x.elim fun _ x=>x.elim fun _ x=>x.elim fun _ x=>x.elim fun _ x=>x.elim fun _ x=>x.elim fun _ x=>x.elim fun _ x=>x.elim fun _ x=>x.elim fun _ x=>⟨_,x.2.1⟩
theorem TabOk.keep(k:Kp X h h' G G')(x:TabOk pl h G)(e:∀o,h.get? pl.pt=some o→h'.get? pl.pt=some o):TabOk pl h' G':=
 x.elim fun ps x=>⟨ps,e _ x.1,x.2.1,x.2.2.imp_right fun q=>q.elim fun c q=>⟨c,q.1,q.2.keep k⟩⟩
theorem i0(L:mI h G){k i:Nat}(g:G a = .obj k i):∃o,h.get? a=some o:=L a fun q=>Role.noConfusion (g.symm.trans q)
section
variable(k:Kp X h h' G G')(L:mI h G)
include k L
theorem Rel.keep{x:V}{v:Value}(r:Rel pl h G x v):Rel pl h' G' x v:=
 Rel.rec (motive_1:=fun x v _=>Rel pl h' G' x v) (motive_2:=fun xs us _=>Rels pl h' G' xs us) .none .bool .int .str (fun e g b _ r=> .tup (k.frz e g).2 (k.frz e g).1 b r) (fun e g b _ r=> .lst (k.frz e g).2 (k.frz e g).1 b r)
  (fun e g=> .edict (k.frz e g).2 (k.frz e g).1) (fun e f g=> .fset (k.frz e g).2 f (k.frz e g).1) .junk (fun g=> .ref (k.obj (i0 L g) g)) .fn .cls .gd .bi
  (fun x g g'=> .clo (x.keep k g) (x.here.elim fun _ e=>(k.frz e g).1) (k.obj (i0 L g') g')) .nil (fun _ _ r q=> .cons r q) r
theorem Rels.keep{xs:List V}{vs:List Value}(r:Rels pl h G xs vs):Rels pl h' G' xs vs:=by
 induction xs generalizing vs with
 |nil=>exact r.nilI ▸ .nil
 |cons x xs ih=>exact r.consI fun _ _ e r q=>e ▸ .cons (r.keep k L) (ih q)
end
theorem DictA.keep{K:Type}[DecidableEq K]{w:World}{knd:KeyKind pw w K}(k:Kp X h h' G G')(L:mI h G){a:Addr}{es:List (K×V)}(x:DictA pl h G knd a es)(e:∀o,h.get? a=some o→h'.get? a=some o):DictA pl h' G' knd a es:=
 x.elim fun kvs d b m q=>⟨kvs,d.elim fun o d=>d.elim fun es d=>d.elim fun ep d=>⟨o,es,ep,e o d.1,d.2⟩,b,m,q.keep k L⟩
theorem ListAt.keep(k:Kp X h h' G G')(L:mI h G){a:Addr}{es:List V}(x:ListAt pl h G a es)(e:∀o,h.get? a=some o→h'.get? a=some o):ListAt pl h' G' a es:=
 x.elim fun items n e1 b q=>⟨items,n,e _ e1,b,q.keep k L⟩
theorem OAt.keep{Γ:Cf}(k:Kp X h h' G G')(L:mI h G){a:Addr}{o:O}(x:OAt Γ h G a o)(g:∀d,G d = .dict a→G' d = .dict a∧∀o,h.get? d=some o→h'.get? d=some o)
  (e:∀o,h.get? a=some o→h'.get? a=some o):OAt Γ h' G' a o:=by
 induction o with
 |list xs=>exact ListAt.keep k L x e
 |sd es=>exact DictA.keep k L x e
 |idd es=>exact DictA.keep k L x e
 |inst c fs=>exact x.elim fun d x=>⟨d,e _ x.1,(g d x.2.1).1,DictA.keep k L x.2.2 (g d x.2.1).2⟩
end
noncomputable def faL:List (Nat×Nat):=[(2,28),(7,47),(8,52),(9,59),(10,66),(11,73),(12,78),(17,147),(18,154),(19,161),(20,168),(30,370),(31,377),(32,382),(53,522),(54,529),(55,536),(56,543),(49,494),(62,554),(63,561),(64,566),(65,573),(67,585),(79,631),(80,638),(81,645),(82,652),(83,659),(86,678),(88,692),(91,711),(94,719),(95,726),(96,733),(97,738),(99,750),(100,757),(102,767),(103,772),(104,779),(105,786),(106,791),(110,822),(113,865),(114,872),(115,879),(119,890),(120,895),(121,902),(122,909),(123,916),(124,921),(125,928),(126,935),(127,942),(128,949),(129,954),(130,963),(131,968),(132,973),(133,980),(136,1001),(137,1006),(139,1020),(142,1039),(143,1044),(144,1051),(145,1058),(146,1065),(15000,92),(17000,114),(17001,121),(17002,128),(23000,182),(23001,189),(23002,196),(23003,203),(23004,210),(23005,217),(23006,224),(23007,231),(23009,245),(23010,252),(23011,259),(23014,280),(23015,287),(23016,294),(23018,308),(23019,315),(23021,329),(23022,336),(110000,808),(112000,837),(112001,844)]
noncomputable def PL:aN:=⟨fun g=>match dZ g faL with|some a=>a|none=>0,fun c=>match dZ c [(14,95),(16,136),(22,339),(109,811),(111,854)] with|some a=>a|none=>0,fun _=>712,163,167,Str.ofString "with_kept_blocks.<locals>.<lambda>"⟩
theorem dw{α β:Type}{f:α→Option β}{x:β}{P:Prop}:∀ {o:Option α},o.bind f=some x→(∀y,o=some y→f y=some x→P)→P
 |none,h,_=>noS h
 |some y,h,k=>k y rfl h
noncomputable def gd{α:Type}(b:Bool)(o:Option α):Option α:=match b with
 |true=>o
 |false=>none
theorem gdS{α:Type}{o:Option α}{x:α}{P:Prop}:∀ {b:Bool},gd b o=some x→(b=true→o=some x→P)→P
 |true,h,k=>k rfl h
 |false,h,_=>noS h
noncomputable def seqS{α:Type}(f:Array Value→Option α):Data→Option α
 | .seq a _=>f a
 |_=>none
noncomputable def dictS{α:Type}(f:Array DictEntry→Option α):Data→Option α
 | .dict a _=>f a
 |_=>none
noncomputable def fieldsS{α:Type}(f:Array Value→Option α):Data→Option α
 | .fields a=>f a
 |_=>none
noncomputable def funcS{α:Type}(f:FuncData→Option α):Data→Option α
 | .func a=>f a
 |_=>none
section
variable{α:Type}{x:α}{P:Prop}{d:Data}
theorem seqS.of{f:Array Value→Option α}(h:seqS f d=some x)(k:∀a n,d = .seq a n→f a=some x→P):P:=by cases d<;>first|exact noS h|exact k _ _ rfl h
theorem dictS.of{f:Array DictEntry→Option α}(h:dictS f d=some x)(k:∀a n,d = .dict a n→f a=some x→P):P:=by cases d<;>first|exact noS h|exact k _ _ rfl h
theorem fieldsS.of{f:Array Value→Option α}(h:fieldsS f d=some x)(k:∀a,d = .fields a→f a=some x→P):P:=by cases d<;>first|exact noS h|exact k _ rfl h
theorem funcS.of{f:FuncData→Option α}(h:funcS f d=some x)(k:∀a,d = .func a→f a=some x→P):P:=by cases d<;>first|exact noS h|exact k _ rfl h
end
noncomputable def qR{α:Type}(s:Str→Option α)(i b n:Option α)(r:Addr→Option α):Value→Option α
 | .str x _=>s x
 | .int _ _=>i
 | .bool _=>b
 | .none=>n
 | .ref a=>r a
 |_=>none
noncomputable def strS{α:Type}(s:Str→Option α):Value→Option α:=qR s none none none fun _=>none
noncomputable def refS{α:Type}(r:Addr→Option α):Value→Option α:=qR (fun _=>none) none none none r
section
variable{α:Type}{x:α}{P:Prop}{v:Value}
theorem strS.of{f:Str→Option α}(h:strS f v=some x)(k:∀a t,v = .str a t→f a=some x→P):P:=by cases v<;>first|exact noS h|exact k _ _ rfl h
theorem refS.of{f:Addr→Option α}(h:refS f v=some x)(k:∀a,v = .ref a→f a=some x→P):P:=by cases v<;>first|exact noS h|exact k _ rfl h
theorem intS.of(h:qR (fun _=>none) (some x) none none (fun _=>none) v=some x)(k:∀a t,v = .int a t→P):P:=by cases v<;>first|exact noS h|exact k _ _ rfl
theorem boolS.of(h:qR (fun _=>none) none (some x) none (fun _=>none) v=some x)(k:∀a,v = .bool a→P):P:=by cases v<;>first|exact noS h|exact k _ rfl
end
noncomputable def tyB(c:String):Value→Bool
 | .type c'=>c'==c
 |_=>false
theorem tyB.of{c:String}{v:Value}(h:tyB c v=true):v = .type c:=by cases v<;>first|exact congrArg _ (beq_iff_eq.mp h)|exact nomatch h
noncomputable def plainB(c:String)(o:Obj):Bool:=tyB c o.cls&&(o.dict.isNone&&(o.slots.size==0))
theorem plainB.of{c:String}:∀ {o:Obj} {d:Data},plainB c o=true→o.data=d→o=⟨.type c,none,d,#[]⟩
 |⟨cl,di,_,sl⟩,_,h,rfl=>by
  have h:=Bool.and_eq_true_iff.mp h
  have h2:=Bool.and_eq_true_iff.mp h.2
  rw[show cl=_ from tyB.of h.1,show di=none from Option.isNone_iff_eq_none.mp h2.1,show sl = #[] from Array.eq_empty_of_size_eq_zero (beq_iff_eq.mp h2.2)]
noncomputable def ng{α:Type}(g:Addr→Option Obj)(a:Addr)(f:Obj→Option α):Option α:=gd (!(Nat.beq a 163)) ((g a).bind f)
noncomputable def rdL(f:Value→Option V):List Value→Option (List V)
 |[]=>some []
 |v::r=>(f v).bind fun x=>(rdL f r).map fun xs=>x::xs
noncomputable def rdT(f:Value→Option V)(o:Obj):Option V:=gd (plainB "tuple" o) (seqS (fun a=>gd (Nat.ble a.size aH) ((rdL f a.toList).map .tup)) o.data)
noncomputable def rdV(r:Addr→Option V):Value→Option V
 | .none=>some .none
 | .bool b=>some (.bool b)
 | .int i _=>some (.int i)
 | .str x _=>some (.str x)
 | .ref a=>r a
 |_=>none
noncomputable def rd(g:Addr→Option Obj):Nat→Value→Option V
 |0=>fun _=>none
 |n+1=>rdV fun a=>match Nat.beq a 712 with
  |true=>some (.gd 0)
  |false=>ng g a (rdT (rd g n))
noncomputable def rdD(g:Addr→Option Obj)(v:Value):Option (List V):=qR (fun _=>none) none none (some []) (fun a=>ng g a fun o=>seqS (fun a=>rdL (rd g 3) a.toList) o.data) v
noncomputable def GY(g:Addr→Option Obj)(q:Str)(v:Value):Option Unit:=refS (fun c=>ng g c fun o=>fieldsS (fun vs=>(vs[1]? : Option Value).bind (strS fun x=>gd (av x q) (some ()))) o.data) v
noncomputable abbrev FnT:=Option (FuncBody×Arguments×Scope×Addr×Addr×List (Str×Addr)×Option Unit×Option (List V))
noncomputable def sf(g:Addr→Option Obj)(a:Addr):FnT:=ng g a fun o=>funcS (fun fd=>some (fd.body,fd.params,fd.scope,fd.globals,fd.builtins,fd.closure,GY g fd.qualname fd.code,rdD g fd.defaults)) o.data
noncomputable def uI(g:Nat):FnT:=(dW g).bind fun s=>some (.stmts (oG s),jq s,dC s,mainGlobals,builtinsNs,[],some (),some (gi g))
noncomputable def gsL:List Nat:=fnL.map (·.2)++([14,16,22,109,111]:List Nat).flatMap fun c=>(jD c).map fun p=>1000*(c+1)+p.2
noncomputable def qJ(g:Addr→Option Obj):Option Unit:=(g 167).bind fun o=>gd (tyB "code" o.cls) (fieldsS (fun vs=>(strS some (vs.getD 18 .none)).bind fun _=>(qR (fun _=>none) (some ()) none none (fun _=>none) (vs.getD 7 .none)).bind fun _=>(qR (fun _=>none) none (some ()) none (fun _=>none) (vs.getD 9 .none)).bind fun _=>
 (qR (fun _=>none) (some ()) none none (fun _=>none) (vs.getD 10 .none)).bind fun _=>(refS (fun p=>gd (Nat.beq p 163) (some ())) (vs.getD 11 .none)).bind fun _=>(vs[11]? : Option Value).bind (refS fun q=>gd (Nat.beq q 163) (some ()))) o.data)
noncomputable def qh(g:Addr→Option Obj):Option (Value×Str):=(g 168).bind fun o=>funcS (fun fd=>some (fd.code,fd.qualname)) o.data
noncomputable def pI(g:Addr→Option Obj):Option Unit:=(g sysModules).bind fun o=>dictS (fun es=>gd (!(Nat.beq es.size 0)) (some ())) o.data
noncomputable def kAs:List Addr:=[95,94,136,135,339,338,811,810,854,853]++([14,16,22,109,111]:List Nat).flatMap fun c=>(jD c).map fun p=>PL.fa (1000*(c+1)+p.2)
noncomputable def fR(g:Addr→Option Obj):List Addr→Frag
 |[]=>[]
 |a::r=>match ng g a some with
  |some o=>(a,o)::fR g r
  |none=>fR g r
noncomputable def tM(K:Frag)(c:Nat):=let t:Value:= .ref (PL.ca c)
 (findIn K t "__getattribute__",findIn K t "__getattr__",findIn K t "__setattr__",plainOver K (PL.ca c),makesIn K (PL.ca c),hasDictIn K (PL.ca c),keepIn K t,(attrL c).map (findIn K t),(jD c).map fun p=>(findIn K t p.1,typeIn K (.ref (PL.fa (1000*(c+1)+p.2)))))
noncomputable def xq(c:Nat):Option (Option Value)×Option (Option Value)×Option (Option Value)×Bool×Bool×Bool×Bool×List (Option (Option Value))×List (Option (Option Value)×Option Value):=
 (some (some (.builtin "object.__getattribute__")),some none,some (some (.builtin "object.__setattr__")),true,true,true,true,(attrL c).map fun _=>some none,(jD c).map fun p=>(some (some (.ref (PL.fa (1000*(c+1)+p.2)))),some (.type "function")))
noncomputable def loopsK:List (Str×Value):=(gdL 0).zipWith (fun p a=>(p.1,Value.ref a)) [631,638,678,692,711]
noncomputable def cE(g:Addr→Option Obj):Option (List (Int×Option Str×Value)):=(g 712).bind fun o=>gd (plainB "dict" o) (dictS (fun es=>some (es.toList.map fun e=>(e.hash,strS some e.key,e.val))) o.data)
noncomputable def cNs:List Nat:=[14,16,22,109,111]
noncomputable def nsL:List DictEntry→Option (List (Str×Value))
 |[]=>some []
 |e::r=>strS (fun x=>(nsL r).map fun l=>(x,e.val)::l) e.key
noncomputable def nsO(g:Addr→Option Obj):Option (List (Str×Value)):=(g mainGlobals).bind fun o=>dictS (fun es=>nsL es.toList) o.data
noncomputable def mgL(g:Addr→Option Obj):List (Str×Value):=(nsO g).getD []
noncomputable def DY(g:Addr→Option Obj):=let l:=mgL g
 (fnL.map (fun p=>look p.1 l),clsL.map (fun p=>look p.1 l),cstL.map (fun p=>(look p.1 l).bind (rd g 4)),biL.map (fun p=>look p.1 l),look (Str.ofString "__builtins__") l)
noncomputable def AW(g:Addr→Option Obj):=(DY g,pI g,g 163,qJ g,qh g,gsL.map (fun k=>sf g (PL.fa k)),cNs.map (tM (fR g kAs)))
noncomputable abbrev HO:=Option (Option Value)×Option (Option Value)×Option (Option Value)×Bool×Bool×Bool×Bool×List (Option (Option Value))×List (Option (Option Value)×Option Value)
noncomputable def vb:(List (Option Value)×List (Option Value)×List (Option V)×List (Option Value)×Option Value)×Option Unit×Option Obj×Option Unit×Option (Value×Str)×List FnT×List HO:=
 ((fnL.map (fun p=>some (.ref (PL.fa p.2))),clsL.map (fun p=>some (.ref (PL.ca p.2))),cstL.map (fun p=>some p.2),biL.map (fun _=>none),some (.ref 4)),
  some (),some (tabObj #[]),some (),some (.ref 167,Str.ofString "with_kept_blocks"),gsL.map uI,cNs.map xq)
noncomputable def hV(w:World):Option (List (Int×Option Str×Value)):=some (loopsK.map fun p=>(hashStr w p.1,some p.1,p.2))
noncomputable def gT(s:SharedT)(a:Addr):Option Obj:=gd (Nat.blt a s.n) ((s.tree.get a).bind alive)
theorem tc{s:SharedT}{a:Addr}{o:Obj}(h:gT s a=some o):s.abs.heap.get? a=some o:=
 gdS h fun lt h=>dw h fun _ e al=>(abs_get (Nat.le_of_ble_eq_true lt) e).trans al
noncomputable def tr0(P:Params):BT:=((((((((((BT.nil.ins 0 (boot_o_0 P)).ins 1 (boot_o_1 P)).ins 2 (boot_o_2 P)).ins 3 (boot_o_3 P)).ins 4 (boot_o_4 P)).ins 5 (boot_o_5 P)).ins 6 (boot_o_6 P)).ins 7 (boot_o_7 P)).ins 8 (boot_o_8 P)).ins 9 (boot_o_9 P)).ins 10 (boot_o_10 P)
noncomputable def S0(w:World)(os:OsState):SharedT:=⟨tr0 w.params,11,(boot_heap w.params).life,Array.mk [],boot_drawn,boot_toks,os⟩
theorem DV(w:World)(os:OsState):(S0 w os).abs=⟨boot_heap w.params,Array.mk [],boot_drawn,boot_toks,os⟩:=by kernel_rfl
noncomputable abbrev DU:String:="special-get-raises"
noncomputable def qv:Program:=view pw [146]
noncomputable def lo:List Str:=(pw.main.scope.names.map (·.1)).filter fun n=> !(av n (Str.ofString "law"))
noncomputable def xt(w:World)(r:SharedT):=((staticsOk (importedModules pw.main.body) (boot_heap w.params) r.abs.heap,gensDone r.abs,laidKept (boot_heap w.params) r.abs.heap,(nsO (gT r)).map (·.map (·.1))),Fast.tw4187177175401517315 qv lo (importedModules pw.main.body) (fun _=>true) true r.abs,AW (gT r),cE (gT r))
noncomputable def DP(w:World)(os:OsState)(b:Bool):=Fast.tw10110043849684766642 Fast.tw14364793385576792824 pw (w.withFollow DU b) 11 (some (.ref 6)) 0 7000 (S0 w os) (topStub pw)
noncomputable def namesE:List Str:=["__name__","__doc__","__package__","__loader__","__spec__","__annotations__","__builtins__","__file__","__cached__"].map Str.ofString++(pw.main.scope.names.map (·.1)).filter fun n=> !(av n (Str.ofString "__name__")) && !(av n (Str.ofString "Exception"))
theorem Fk(w:World)(os:OsState):Option.map (fun r=>(r.1,xt w r.2.1)) (DP w os false)=some (.ret .none,(true,true,true,some namesE),openGood qv lo,vb,hV w):=by kernel_rfl
theorem Hd(w:World)(os:OsState):Option.map (fun r=>(r.1,xt w r.2.1)) (DP w os true)=some (.ret .none,(true,true,true,some namesE),openGood qv lo,vb,hV w):=by kernel_rfl
noncomputable abbrev rwl:OpenLaw:=PySem.Challenge.rw_on0048_01
noncomputable def ftg:List Stmt:=pw.main.body.drop 113
theorem a1:Fast.tw11788848310118352699 pw.main=true:=by kernel_rfl
theorem a2:(moduleNames pw.main.body).isEmpty=true:=by kernel_rfl
theorem a3:Fast.tw8377067652309620493 pw=true:=by kernel_rfl
theorem a4:((Fast.tw18344453789297297638 pw).all fun n=> !worldNames.contains n)=true:=by kernel_rfl
theorem a5:Fast.tw8326940854005059898 {strict:=false,foot:=none,bare:=[]} pw.main.body=true:=by kernel_rfl
theorem a6:Fast.tw17119622794617984870 pw pw.main.body (fun _ n=>PySem.W.attrL n)=true:=by kernel_rfl
theorem a7:Fast.tw13343964577679436407 pw pw.main.body (Str.ofString "vars")=false:=by kernel_rfl
theorem a71:Fast.tw13343964577679436407 pw pw.main.body (Str.ofString "dir")=false:=by kernel_rfl
theorem a72:Fast.tw13343964577679436407 pw pw.main.body (Str.ofString "locals")=false:=by kernel_rfl
theorem a8:((importedModules pw.main.body).all cThrough.contains)=true:=by kernel_rfl
theorem wB{p:Program}(a1:Fast.tw11788848310118352699 p.main=true)(a2:(moduleNames p.main.body).isEmpty=true)(a3:Fast.tw8377067652309620493 p=true)(a4:((Fast.tw18344453789297297638 p).all fun n=> !worldNames.contains n)=true)
  (a5:Fast.tw8326940854005059898 {strict:=false,foot:=none,bare:=[]} p.main.body=true) (a6:Fast.tw17119622794617984870 p p.main.body (fun _ n=>PySem.W.attrL n)=true) (a7:Fast.tw13343964577679436407 p p.main.body (Str.ofString "vars")=false)
  (a71:Fast.tw13343964577679436407 p p.main.body (Str.ofString "dir")=false) (a72:Fast.tw13343964577679436407 p p.main.body (Str.ofString "locals")=false) (a8:((importedModules p.main.body).all cThrough.contains)=true):looksOpen p=true:=by
 rw[←Fast.te11788848310118352699] at a1
 rw[←Fast.te8377067652309620493] at a3
 rw[←Fast.te18344453789297297638] at a4
 rw[←Fast.te8326940854005059898] at a5
 rw[←Fast.te17119622794617984870] at a6
 rw[←Fast.te13343964577679436407] at a7 a71 a72
 unfold looksOpen
 rw[a1,a2,a3,a4,a6,a8,List.filter_cons,List.filter_cons,List.filter_cons,a7,a71,a72]
 simp only[List.filter_nil,Bool.true_and,Bool.and_true,Bool.true_or,Bool.not_true,Bool.false_eq_true,if_false]
 exact a5
theorem xR:looksOpen pw=true:=wB a1 a2 a3 a4 a5 a6 a7 a71 a72 a8
theorem m1:(ftg.all Fast.tw10501279942588096481)=true:=by kernel_rfl
theorem m2:Fast.tw8179353310426384613 pw ftg=true:=by kernel_rfl
theorem m3:Fast.tw8326940854005059898 {strict:=true,foot:=some (Fast.tw797321630700447069 rwl),writes:=false,may:=none} ftg=true:=by kernel_rfl
theorem m4:Fast.tw9558739934217749035 rwl.about rwl.above=true:=by kernel_rfl
theorem m5:Fast.tw16286561074155671207 rwl=true:=by kernel_rfl
theorem m6:((Fast.tw797321630700447069 rwl).all (fun n=> !builtinNamed n||rwl.about==[n] || !Fast.tw6984425678791042302 rwl n))=true:=by kernel_rfl
theorem m7:List.flatMap importedNames pw.main.body=[]:=by kernel_rfl
theorem m8:(Fast.tw10792542408131684335 rwl).contains rwl.name=true:=by kernel_rfl
theorem m81:((Fast.tw10792542408131684335 rwl).eraseDups.length==(Fast.tw10792542408131684335 rwl).length)=true:=by kernel_rfl
theorem m82:((Fast.tw10792542408131684335 rwl).all fun n=> !builtinNamed n)=true:=by kernel_rfl
theorem m9:Fast.tw17119622794617984870 pw rwl.above (fun _ n=> !(Fast.tw10792542408131684335 rwl).contains n)=true:=by kernel_rfl
theorem m10:Fast.tw17119622794617984870 pw ftg (fun sc n=>sc.kind == .module||sc.names.lookup n != some .globalExplicit)=true:=by kernel_rfl
theorem m11:Fast.tw17119622794617984870 pw ftg (fun sc n=>(!(["type","isinstance","issubclass","getattr","hasattr"]:List Str).contains n||sc.names.lookup n==some .globalImplicit) &&
  (rwl.may != some n||sc.kind == .module||sc.names.lookup n==some .globalImplicit))=true:=by kernel_rfl
theorem m13:(Fast.tw18344453789297297638 pw).contains rwl.row.name=true:=by kernel_rfl
set_option pp.maxSteps 300
theorem HA:rwl.wellSaid=true:=by
 have m1:=m1;have m2:=m2;have m3:=m3;have m4:=m4;have m5:=m5;have m6:=m6;have m8:=m8;have m81:=m81;have m82:=m82;have m9:=m9;have m10:=m10;have m11:=m11;have m13:=m13
 rw[←Fast.te10501279942588096481] at m1
 rw[←Fast.te8179353310426384613] at m2
 rw[←Fast.te8326940854005059898,←Fast.te797321630700447069] at m3
 rw[←Fast.te9558739934217749035] at m4
 rw[←Fast.te16286561074155671207] at m5
 rw[←Fast.te797321630700447069,←Fast.te6984425678791042302] at m6
 rw[←Fast.te10792542408131684335] at m8 m81 m82 m9
 rw[←Fast.te17119622794617984870] at m9 m10 m11
 rw[←Fast.te18344453789297297638] at m13
 unfold OpenLaw.wellSaid OpenRow.wellSaid OpenRow.partSaid
 repeat' (with_reducible apply look_both)
 ·exact xR
 iterate 13 (· kernel_rfl)
 ·exact m13
 ·kernel_rfl
 ·kernel_rfl
 ·exact m1
 ·exact m2
 ·kernel_rfl
 ·kernel_rfl
 ·exact m3
 ·exact m4
 ·exact m5
 ·kernel_rfl
 ·exact m6
 ·kernel_rfl
 ·show(List.flatMap importedNames pw.main.body).all _=true
  rw[m7];rfl
 ·exact m11
 ·exact m8
 ·exact m81
 ·exact m82
 ·exact m9
 ·exact m10
section
variable{α:Type}{P:Prop}
theorem strEq_self(x:Str):av x x=true:=strEq_iff.mpr rfl
theorem gn{x y:Str}(n:x≠y):av x y=false:=by cases e:av x y;rfl;exact(n (strEq_iff.mp e)).elim
theorem dg{x y:Str}(n:av x y=false):x≠y:=fun e=>Bool.noConfusion ((e▸strEq_self x:av x y=true).symm.trans n)
theorem aR(x:Str)(a:α)(r:List (Str×α)):look x ((x,a)::r)=some a:=by unfold look;rw[strEq_self]
theorem aD{x y:Str}(a:α)(r:List (Str×α))(n:y≠x):look x ((y,a)::r)=look x r:=by rw[look,gn n]
theorem gX{x y:Str}{a b:α}{r:List (Str×α)}(h:look x ((y,a)::r)=some b)(q1:y=x→a=b→P)(q2:y≠x→look x r=some b→P):P:=by
 by_cases e:y=x
 ·subst e;exact q1 rfl (sji ((aR ..).symm.trans h))
 ·exact q2 e ((aD a r e).symm.trans h)
theorem j8(x:Str):∀l:List (Str×α),look x l=l.lookup x
 |[]=>rfl
 |(y,a)::r=>by
  rw[List.lookup_cons]
  by_cases e:y=x
  ·subst e;rw[aR,beq_self_eq_true]
  ·rw[aD a r e,beq_eq_false_iff_ne.mpr fun q=>e q.symm];exact j8 x r
theorem aI(x:Str)(a:α):∀l:List (Str×α),look x (bw x a l)=some a
 |[]=>aR ..
 |(y,b)::r=>by
  unfold bw
  cases e:av y x with
  |true=>cases strEq_iff.mp e;exact aR ..
  |false=>exact(aD _ _ (dg e)).trans (aI x a r)
theorem aS{x y:Str}(a:α)(n:y≠x):∀l:List (Str×α),look y (bw x a l)=look y l
 |[]=>aD _ _ n.symm
 |(z,b)::r=>by
  unfold bw
  cases e:av z x with
  |true=>cases strEq_iff.mp e;exact(aD _ _ n.symm).trans (aD _ _ n.symm).symm
  |false=>
   by_cases q:z=y
   ·subst q;exact(aR ..).trans (aR ..).symm
   ·exact(aD _ _ q).trans ((aS a n r).trans (aD _ _ q).symm)
theorem AV{x y:Str}{a b:α}{l:List (Str×α)}(h:look y (bw x a l)=some b)(q1:y=x→a=b→P)(q2:y≠x→look y l=some b→P):P:=by
 by_cases e:y=x
 ·subst e;exact q1 rfl (sji ((aI ..).symm.trans h))
 ·exact q2 e ((aS a e l).symm.trans h)
end
noncomputable def fD(G:Gh)(a:Addr)(r:Role):Gh:=fun b=>match Nat.beq b a with
 |true=>r
 |false=>G b
theorem aW(G:Gh)(a:Addr)(r:Role):fD G a r a=r:=by simp[fD]
theorem cX(G:Gh){a b:Addr}(r:Role)(n:b≠a):fD G a r b=G b:=by
 unfold fD
 cases e:Nat.beq b a with
 |false=>rfl
 |true=>exact absurd (Nat.eq_of_beq_eq_true e) n
theorem aC(h:Heap):h.get? h.objs.size=none:=by
 cases e:h.get? h.objs.size with
 |none=>rfl
 |some o=>exact absurd (Heap.lt_size e) (Nat.lt_irrefl _)
theorem bq(h:Heap){a:Addr}(e:h.objs.size≤a):h.get? a=none:=by
 cases q:h.get? a with
 |none=>rfl
 |some o=>exact absurd (Heap.lt_size q) (Nat.not_lt.mpr e)
theorem ab{α:Type}{P:Prop}{o:Option α}{a:α}(e:o=none)(e':o=some a):P:=by cases e.symm.trans e'
noncomputable def St.toL(s:St):List (List O):=[s.r0,s.r1,s.r2,s.r3,s.r4,s.r5,s.r6,s.r7,s.r8,s.r9,s.r10,s.r11,s.r12,s.r13,s.r14,s.r15,s.r16,s.r17,s.r18,s.r19,s.r20,s.r21,s.r22,s.r23,s.r24,s.r25,s.r26,s.r27]
theorem St.get_toL(s:St):∀k,s.get k=(s.toL[k]?).getD []
 |0|1|2|3|4|5|6|7|8|9|10|11|12|13|14|15|16|17|18|19|20|21|22|23|24|25|26|27=>rfl
 |_+28=>rfl
theorem St.set_toL(s:St)(x:List O):∀k,(s.set k x).toL=s.toL.set k x
 |0|1|2|3|4|5|6|7|8|9|10|11|12|13|14|15|16|17|18|19|20|21|22|23|24|25|26|27=>rfl
 |_+28=>rfl
theorem St.get_set_self(s:St)(x:List O){k:Nat}(hk:k<28):(s.set k x).get k=x:=by rw[St.get_toL,St.set_toL,List.getElem?_set_self hk];rfl
theorem St.get_set_ne(s:St)(x:List O){k j:Nat}(n:k≠j):(s.set k x).get j=s.get j:=by rw[St.get_toL,St.set_toL,List.getElem?_set_ne n,St.get_toL]
theorem St.get_lt{s:St}{k i:Nat}{o:O}(e:(s.get k)[i]? = some o):k<28:=by
 rcases Nat.lt_or_ge k 28 with h|h
 ·exact h
 ·rw[St.get_toL,List.getElem?_eq_none (l:=s.toL) h] at e;exact noS e
theorem fP{α:Type}{l:List α}{i:Nat}{o:α}(e:l[i]? = some o):i<l.length:=(List.getElem?_eq_some_iff.mp e).1
structure Ds(st st':St)(k i:Nat)(o':O):Prop where
 here:(st'.get k)[i]? = some o'
 else_:∀k' i' o,(k'=k→i'=i→False)→(st.get k')[i']? = some o→(st'.get k')[i']? = some o
theorem St.upd_at{s:St}{k i:Nat}{o:O}(o':O)(e:(s.get k)[i]? = some o):Ds s (s.upd k i o') k i o' where
 here:=by unfold St.upd;rw[St.get_set_self _ _ (St.get_lt e),List.getElem?_set_self (fP e)]
 else_ k' i' o n h:=by
  unfold St.upd
  by_cases hk:k=k'
  ·subst hk;rw[St.get_set_self _ _ (St.get_lt e),List.getElem?_set_ne fun q=>n rfl q.symm];exact h
  ·exact(St.get_set_ne _ _ hk).symm▸h
theorem St.push_at(s:St){k:Nat}(o:O)(hk:k<28):Ds s (s.push k o) k (s.get k).length o where
 here:=by unfold St.push;rw[St.get_set_self _ _ hk,List.getElem?_concat_length]
 else_ k' i' o' _ h:=by
  unfold St.push
  by_cases hk:k=k'
  ·subst hk;rw[St.get_set_self _ _ (St.get_lt h),List.getElem?_append_left (fP h)];exact h
  ·exact(St.get_set_ne _ _ hk).symm▸h
structure Sim(Γ:Cf)(h:Heap)(G:Gh)(st:St):Prop where
 base:∀b o,Γ.B.heap.get? b=some o→h.get? b=some o
 frz0:∀b o,Γ.B.heap.get? b=some o→G b = .frz
 live:mI h G
 objs:∀a k i,G a = .obj k i→optP (st.get k)[i]? (OAt Γ h G a)
 inj:∀a b k i,G a = .obj k i→G b = .obj k i→a=b
 dicts:∀a b,G b = .dict a→∃k i,G a = .obj k i
 tab:G Γ.pl.pt = .tab
 tabOk:TabOk Γ.pl h G
noncomputable abbrev Grows(h h':Heap):Prop:=∀b o,h.get? b=some o→h'.get? b=some o
section
variable{Γ:Cf}{h h':Heap}{G G':Gh}{st st':St}{X:Addr→Prop}{P:Prop}
theorem bO(L:mI h G){a:Addr}(e:h.get? a=none):G a = .frz:=Classical.byContradiction fun n=>(L a n).elim fun _ q=>ab e q
theorem oV{r r':Role}(e:r=r')(m:r.mut=true)(m':r'.mut=false):P:=Bool.noConfusion ((e▸m':r.mut=false).symm.trans m)
theorem Sim.next(S:Sim Γ h G st)(k:Kp X h h' G G')(live:mI h' G')
  (objs:∀a k i,G' a = .obj k i→optP (st'.get k)[i]? (OAt Γ h' G' a)) (inj:∀a b k i,G' a = .obj k i→G' b = .obj k i→a=b)
  (dicts:∀a b,G' b = .dict a→∃k i,G' a = .obj k i) (tab:∀o,h.get? Γ.pl.pt=some o→h'.get? Γ.pl.pt=some o):Sim Γ h' G' st' where
 base b o e:=(k.frz (S.base b o e) (S.frz0 b o e)).2
 frz0 b o e:=(k.frz (S.base b o e) (S.frz0 b o e)).1
 live:=live
 objs:=objs
 inj:=inj
 dicts:=dicts
 tab:=S.tabOk.elim fun _ t=>k.out t.1 (fun q _=>Role.noConfusion (q.symm.trans S.tab)) fun g _ _ _=>g.trans S.tab
 tabOk:=S.tabOk.keep k tab
structure Priv(D:Addr→Prop)(h h':Heap)(G G':Gh):Prop where
 was:∀b,D b→G b = .own∨h.get? b=none
 same:∀b,¬D b→G' b=G b∧∀o,h.get? b=some o→h'.get? b=some o
 now:∀b,D b→G' b = .frz∨(G' b = .own∧∃o,h'.get? b=some o)
variable{D:Addr→Prop}
theorem Priv.kp(p:Priv D h h' G G'):Kp D h h' G G':=⟨fun a o e=>(Classical.em (D a)).elim (fun d=> .inl ⟨(p.was a d).resolve_right fun q=>ab q e,d⟩) fun n=> .inr ⟨(p.same a n).1,o,(p.same a n).2 o e,.inr rfl⟩⟩
theorem Priv.old(p:Priv D h h' G G'){b:Addr}(m:(G' b).mut=true):¬D b:=fun d=>(p.now b d).elim (fun q=>oV q m rfl) fun q=>oV q.1 m rfl
theorem Priv.old'(p:Priv D h h' G G')(L:mI h G){b:Addr}(m:(G b).mut=true):¬D b:=fun d=>(p.was b d).elim (fun q=>oV q m rfl) fun q=>oV (bO L q) m rfl
set_option tactic.hygienic true in
theorem Priv.sim(p:Priv D h h' G G')(S:Sim Γ h G st):Sim Γ h' G' st:=
 have back:∀ {b r},G' b=r→r.mut=true→¬D b∧G b=r:=fun {b r} g m=>have n:=p.old (b:=b) (g▸m);⟨n,(p.same b n).1.symm.trans g⟩
 have on:∀ {b r},G b=r→r.mut=true→G' b=r∧∀o,h.get? b=some o→h'.get? b=some o:=fun {b r} g m=>have n:=p.old' S.live (b:=b) (g▸m);⟨(p.same b n).1.trans g,(p.same b n).2⟩
 S.next p.kp (fun b n=>(Classical.em (D b)).elim (fun d=>(p.now b d).elim (fun q=>(n q).elim) fun q=>q.2) fun d=>(S.live b fun q=>n ((p.same b d).1.trans q)).elim fun o e=>⟨o,(p.same b d).2 o e⟩)
  (fun a k i g=>have g:=(back g rfl).2;(S.objs a k i g).of fun o e x=>optP.mk e (x.keep p.kp S.live (fun _ gd=>on gd rfl) (on g rfl).2))
  (fun a b k i g g'=>S.inj a b k i (back g rfl).2 (back g' rfl).2) (fun a b g=>(S.dicts a b (back g rfl).2).elim fun k q=>q.elim fun i q=>⟨k,i,(on q rfl).1⟩) (on S.tab rfl).2
structure Put(Γ:Cf)(a d:Addr)(k i:Nat)(o':O)(h h':Heap)(G G':Gh)(st st':St):Prop where
 same:∀b,b≠a→b≠d→G' b=G b∧∀o,h.get? b=some o→h'.get? b=some o
 ga:G' a = .obj k i
 ea:∃o,h'.get? a=some o
 gd:d=a∨(G' d = .dict a∧∃o,h'.get? d=some o)
 pd:d=a∨G d = .dict a∨G d = .frz
 pa:G a = .obj k i∨((∀b,G b ≠ .obj k i)∧(G a).mut=false)
 st:Ds st st' k i o'
 oa:OAt Γ h' G' a o'
set_option tactic.hygienic true in
theorem Put.sim{a d:Addr}{k i:Nat}{o':O}(p:Put Γ a d k i o' h h' G G' st st')(kp:Kp X h h' G G')(S:Sim Γ h G st):Sim Γ h' G' st':=
 have nobj:∀b,b≠a→G b ≠ .obj k i:=fun b n g=>p.pa.elim (fun q=>n (S.inj b a k i g q)) fun q=>q.1 b g
 have aob:∀ {r:Role},G a=r→r.mut=true→r = .obj k i:=fun {r} g m=>p.pa.elim (fun q=>g.symm.trans q) fun q=>Bool.noConfusion (q.2.symm.trans (g▸m:(G a).mut=true))
 have apart:∀ {b e},b≠a→G e = .dict b→e≠a∧e≠d:=fun {b e} n g=>
  have ea:e≠a:=fun q=>Role.noConfusion (aob (q▸g) rfl)
  ⟨ea,fun q=>p.pd.elim (fun r=>ea (q.trans r)) fun r=>r.elim (fun r=>n (by have:=(q▸g:G d = .dict b).symm.trans r;cases this;rfl)) fun r=>Role.noConfusion ((q▸g:G d = .dict b).symm.trans r)⟩
 have notd:∀ {b k' i'},b≠a→G b = .obj k' i'→b≠d:=fun {b k' i'} n g q=>p.pd.elim (fun r=>n (q.trans r)) fun r=>r.elim (fun r=>Role.noConfusion (g.symm.trans (q▸r))) fun r=>Role.noConfusion (g.symm.trans (q▸r))
 have isO:∀ {b k' i'},b≠a→G' b = .obj k' i'→b≠d∧G b = .obj k' i':=fun {b k' i'} n g=>
  have nd:b≠d:=fun q=>p.gd.elim (fun r=>n (q.trans r)) fun r=>Role.noConfusion (g.symm.trans (q▸r.1))
  ⟨nd,(p.same b n nd).1.symm.trans g⟩
 S.next kp (fun b n=>(Classical.em (b=a)).elim (fun q=>q▸p.ea) fun na=>(Classical.em (b=d)).elim (fun q=>p.gd.elim (fun r=>(na (q.trans r)).elim) fun r=>q▸r.2) fun nd=>
   (S.live b fun q=>n ((p.same b na nd).1.trans q)).elim fun o e=>⟨o,(p.same b na nd).2 o e⟩)
  (fun b k' i' g=>(Classical.em (b=a)).elim (fun q=>by cases q;cases p.ga.symm.trans g;exact optP.mk p.st.here p.oa) fun na=>(S.objs b k' i' (isO na g).2).of fun o e x=>
   optP.mk (p.st.else_ k' i' o (fun e1 e2=>nobj b na (e1▸e2▸(isO na g).2)) e) (x.keep kp S.live (fun c gc=>have q:=apart na gc;⟨(p.same c q.1 q.2).1.trans gc,(p.same c q.1 q.2).2⟩) (p.same b na (isO na g).1).2))
  (fun b c k' i' g g'=>(Classical.em (b=a)).elim (fun q=>(Classical.em (c=a)).elim (fun q'=>q.trans q'.symm) fun nc=>by subst q;cases p.ga.symm.trans g;exact(nobj c nc (isO nc g').2).elim) fun nb=>
   (Classical.em (c=a)).elim (fun q'=>by subst q';cases p.ga.symm.trans g';exact(nobj b nb (isO nb g).2).elim) fun nc=>S.inj b c k' i' (isO nb g).2 (isO nc g').2)
  (fun c b g=>(Classical.em (b=a)).elim (fun q=>Role.noConfusion ((q▸g:G' a = .dict c).symm.trans p.ga)) fun nb=>(Classical.em (b=d)).elim
   (fun q=>p.gd.elim (fun r=>(nb (q.trans r)).elim) fun r=>⟨k,i,by cases (q▸g:G' d = .dict c).symm.trans r.1;exact p.ga⟩) fun nd=>
   (S.dicts c b ((p.same b nb nd).1.symm.trans g)).elim fun k' q=>q.elim fun i' q=>(Classical.em (c=a)).elim (fun e=>⟨k,i,e▸p.ga⟩) fun nc=>⟨k',i',(p.same c nc (notd nc q)).1.trans q⟩)
  (p.same _ (fun q=>Role.noConfusion (aob (q▸S.tab) rfl)) fun q=>p.pd.elim (fun r=>Role.noConfusion (aob (r▸q▸S.tab) rfl)) fun r=>r.elim (fun r=>Role.noConfusion ((q▸S.tab:G d = .tab).symm.trans r)) fun r=>Role.noConfusion ((q▸S.tab:G d = .tab).symm.trans r)).2
end
structure Wl(Γ:Cf) where
 h:Heap
 t:Tok
 G:Gh
 st:St
 ok:Sim Γ h G st
noncomputable def Wl.s{Γ:Cf}(u:Wl Γ):Shared:={Γ.B with heap:=u.h,toks:=u.t}
section
variable{Γ:Cf}
def LwX(X:Addr→Prop)(u u':Wl Γ):Prop:=Kp X u.h u'.h u.G u'.G
noncomputable abbrev Lw(u u':Wl Γ):Prop:=LwX noX u u'
noncomputable abbrev Rl(u:Wl Γ)(v:V)(x:Value):Prop:=Rel Γ.pl u.h u.G v x
noncomputable abbrev Rls(u:Wl Γ)(v:List V)(x:List Value):Prop:=Rels Γ.pl u.h u.G v x
variable{u u' u'':Wl Γ}{X Y:Addr→Prop}{v:V}{x:Value}{k i c:Nat}{a d:Addr}{h':Heap}{t:Tok}{o o':O}
theorem LwX.rfl:LwX X u u:=Kp.refl ..
theorem LwX.trans(l:LwX X u u')(l':LwX X u' u''):LwX X u u'':=Kp.trans l l'
theorem LwX.mono(l:LwX X u u')(i:∀a,X a→Y a):LwX Y u u':=Kp.mono l i
theorem LwX.weak(l:Lw u u'):LwX X u u':=Kp.mono l fun _=>False.elim
theorem LwX.obj(l:LwX X u u')(g:u.G a = .obj k i):u'.G a = .obj k i:=Kp.obj l (i0 u.ok.live g) g
theorem Rel.up(r:Rl u v x)(l:LwX X u u'):Rl u' v x:=r.keep l u.ok.live
theorem Rels.up{vs:List V}{xs:List Value}(r:Rls u vs xs)(l:LwX X u u'):Rls u' vs xs:=r.keep l u.ok.live
theorem Lw.none(l:Lw u u')(n:u'.h.get? a=none):u.h.get? a=none:=by
 cases q:u.h.get? a with
 |none=>rfl
 |some o=>exact Kp.out l q (fun _=>id) fun _ _ e _=>ab n e
noncomputable def Wl.grow(u:Wl Γ)(h':Heap)(t:Tok)(k:Grows u.h h'):Wl Γ:=⟨h',t,u.G,u.st,Priv.sim (D:=noX) ⟨fun _=>False.elim,fun b _=>⟨rfl,k b⟩,fun _=>False.elim⟩ u.ok⟩
theorem Wl.grow_le{k:Grows u.h h'}:Lw u (u.grow h' t k):=⟨fun _ o e=> .inr ⟨rfl,o,k _ o e,.inr rfl⟩⟩
noncomputable def Wl.tok(u:Wl Γ)(t:Tok):Wl Γ:=⟨u.h,t,u.G,u.st,u.ok⟩
noncomputable def Wl.priv(u:Wl Γ){D:Addr→Prop}(h':Heap)(t:Tok)(G':Gh)(p:Priv D u.h h' u.G G'):Wl Γ:=⟨h',t,G',u.st,p.sim u.ok⟩
theorem Wl.priv_le{D:Addr→Prop}{G':Gh}{p:Priv D u.h h' u.G G'}:LwX D u (u.priv h' t G' p):=p.kp
theorem Fc{P:Prop}{b:Addr}{r:Role}{G:Gh}(q1:b=a→P)(q2:b≠a→fD G a r b=G b→P):P:=(Classical.em (b=a)).elim q1 fun n=>q2 n (cX _ _ n)
theorem Priv.fresh{h:Heap}{G:Gh}{ob:Obj}(k:Grows h h')(n:h.get? a=none)(e:h'.get? a=some ob):Priv (· = a) h h' G (fD G a .own):=
 ⟨fun _ q=> .inr (q▸n),fun b q=>⟨cX _ _ q,k b⟩,fun _ q=>by subst q;exact .inr ⟨aW ..,_,e⟩⟩
theorem Priv.mine{h:Heap}{G:Gh}(sb:Heap.SameBut a h h')(g:G a = .own)(e:∃o,h'.get? a=some o):Priv (· = a) h h' G G:=
 ⟨fun _ q=> .inl (q▸g),fun b q=>⟨rfl,fun _ e=>(sb.2 b q).trans e⟩,fun _ q=> .inr ⟨q▸g,q▸e⟩⟩
theorem Priv.gone{h:Heap}{G:Gh}(sb:Heap.SameBut a h h')(g:G a = .own):Priv (· = a) h h' G (fD G a .frz):=
 ⟨fun _ q=> .inl (q▸g),fun b q=>⟨cX _ _ q,fun _ e=>(sb.2 b q).trans e⟩,fun _ q=> .inl (q▸aW ..)⟩
theorem Priv.only{D:Addr→Prop}{h:Heap}{G G':Gh}(p:Priv D h h' G G')(n:∀b,D b→h.get? b=none):Kp noX h h' G G':=⟨fun a o e=>(p.kp.each a o e).elim (fun q=>ab (n a q.2) e) .inr⟩
noncomputable def Wl.own(u:Wl Γ){ob:Obj}(h':Heap)(t:Tok)(k:Grows u.h h')(n:u.h.get? a=none)(e:h'.get? a=some ob):Wl Γ:=u.priv h' t _ (.fresh k n e)
theorem Wl.own_le{ob:Obj}{k:Grows u.h h'}{n:u.h.get? a=none}{e:h'.get? a=some ob}:Lw u (u.own h' t k n e):=(Priv.fresh k n e).only fun _ q=>q▸n
theorem Kp.change{h:Heap}{G:Gh}(sb:Heap.SameBut a h h')(m:(G a).mut=true)(ea:∃o,h'.get? a=some o):Kp noX h h' G G:=
 ⟨fun b o e=> .inr ⟨rfl,(Classical.em (b=a)).elim (fun q=>q▸ea.elim fun o' e'=>⟨o',e',.inl m⟩) fun q=>⟨o,(sb.2 b q).trans e,.inr rfl⟩⟩⟩
theorem gF{G:Gh}(g:G a = .obj k i):(G a).mut=true:=g▸rfl
theorem kE{G:Gh}(g:G d = .dict a):(G d).mut=true:=g▸rfl
noncomputable def Wl.change(u:Wl Γ)(h':Heap)(t:Tok)(o':O)(g:u.G a = .obj k i)(e:(u.st.get k)[i]? = some o)(sb:Heap.SameBut a u.h h')(ea:∃o,h'.get? a=some o)(oa:OAt Γ h' u.G a o'):Wl Γ:=
 ⟨h',t,u.G,u.st.upd k i o',Put.sim (a:=a) (d:=a) ⟨fun b n _=>⟨rfl,fun _ e=>(sb.2 b n).trans e⟩,g,ea,.inl rfl,.inl rfl,.inl g,St.upd_at o' e,oa⟩ (.change sb (gF g) ea) u.ok⟩
theorem Wl.change_le{g:u.G a = .obj k i}{e:(u.st.get k)[i]? = some o}{sb:Heap.SameBut a u.h h'}{ea:∃o,h'.get? a=some o}{oa:OAt Γ h' u.G a o'}:Lw u (u.change h' t o' g e sb ea oa):=Kp.change sb (gF g) ea
noncomputable def Wl.changeI(u:Wl Γ){fs:List (Str×V)}(h':Heap)(t:Tok)(g:u.G a = .obj k i)(e:(u.st.get k)[i]? = some o)(gd:u.G d = .dict a)(ei:u.h.get? a=some (instObj (Γ.pl.ca c) d))(sb:Heap.SameBut d u.h h')(ed:∃o,h'.get? d=some o)(oa:SdAt Γ h' u.G d fs):Wl Γ:=
 have n:a≠d:=fun q=>Role.noConfusion (g.symm.trans ((congrArg u.G q).trans gd))
 ⟨h',t,u.G,u.st.upd k i (.inst c fs),Put.sim (a:=a) (d:=d) ⟨fun b _ n=>⟨rfl,fun _ e=>(sb.2 b n).trans e⟩,g,⟨_,(sb.2 a n).trans ei⟩,.inr ⟨gd,ed⟩,.inr (.inl gd),.inl g,St.upd_at _ e,⟨d,(sb.2 a n).trans ei,gd,oa⟩⟩ (.change sb (kE gd) ed) u.ok⟩
theorem Wl.changeI_le{fs:List (Str×V)}{g:u.G a = .obj k i}{e:(u.st.get k)[i]? = some o}{gd:u.G d = .dict a}{ei:u.h.get? a=some (instObj (Γ.pl.ca c) d)}{sb:Heap.SameBut d u.h h'}{ed:∃o,h'.get? d=some o}{oa:SdAt Γ h' u.G d fs}:
  Lw u (u.changeI h' t g e gd ei sb ed oa):=Kp.change sb (kE gd) ed
theorem zh(u:Wl Γ)(b:Addr):u.G b ≠ .obj k (u.st.get k).length:=fun g=>(u.ok.objs b _ _ g).of fun _ e _=>Nat.lt_irrefl _ (fP e)
noncomputable def Wl.birth(u:Wl Γ)(h':Heap)(t:Tok)(o':O)(hk:k<28)(m:(u.G a).mut=false)(sm:∀b,b≠a→∀o,u.h.get? b=some o→h'.get? b=some o)(ea:∃o,h'.get? a=some o)
  (kp:Kp X u.h h' u.G (fD u.G a (.obj k (u.st.get k).length))) (oa:OAt Γ h' (fD u.G a (.obj k (u.st.get k).length)) a o'):Wl Γ:=
 ⟨h',t,fD u.G a (.obj k (u.st.get k).length),u.st.push k o',Put.sim (a:=a) (d:=a) ⟨fun b n _=>⟨cX _ _ n,sm b n⟩,aW ..,ea,.inl rfl,.inl rfl,.inr ⟨zh u,m⟩,St.push_at _ o' hk,oa⟩ kp u.ok⟩
theorem Kp.born{h:Heap}{G:Gh}{r:Role}(k:Grows h h')(n:h.get? a=none):Kp noX h h' G (fD G a r):=⟨fun b o e=> .inr ⟨cX _ _ fun q=>ab (q▸n) e,o,k b o e,.inr rfl⟩⟩
theorem Kp.role{h:Heap}{G:Gh}{r:Role}(sb:Heap.SameBut a h h')(g:G a = .own):Kp (· = a) h h' G (fD G a r):=⟨fun b o e=>(Classical.em (b=a)).elim (fun q=> .inl ⟨q▸g,q⟩) fun q=> .inr ⟨cX _ _ q,o,(sb.2 b q).trans e,.inr rfl⟩⟩
noncomputable def Wl.fresh(u:Wl Γ)(h':Heap)(t:Tok)(o':O)(hk:k<28)(kp:Grows u.h h')(n:u.h.get? a=none)(ea:∃o,h'.get? a=some o)(oa:OAt Γ h' (fD u.G a (.obj k (u.st.get k).length)) a o'):Wl Γ:=
 u.birth h' t o' hk (bO u.ok.live n▸rfl) (fun b _=>kp b) ea (.born kp n) oa
theorem Wl.fresh_le{hk:k<28}{kp:Grows u.h h'}{n:u.h.get? a=none}{ea:∃o,h'.get? a=some o}{oa:OAt Γ h' (fD u.G a (.obj k (u.st.get k).length)) a o'}:Lw u (u.fresh h' t o' hk kp n ea oa):=Kp.born kp n
noncomputable def Wl.adopt(u:Wl Γ)(h':Heap)(t:Tok)(o':O)(hk:k<28)(g:u.G a = .own)(sb:Heap.SameBut a u.h h')(ea:∃o,h'.get? a=some o)(oa:OAt Γ h' (fD u.G a (.obj k (u.st.get k).length)) a o'):Wl Γ:=
 u.birth h' t o' hk (g▸rfl) (fun b n _ e=>(sb.2 b n).trans e) ea (.role sb g) oa
theorem Wl.adopt_le{hk:k<28}{g:u.G a = .own}{sb:Heap.SameBut a u.h h'}{ea:∃o,h'.get? a=some o}{oa:OAt Γ h' (fD u.G a (.obj k (u.st.get k).length)) a o'}:LwX (· = a) u (u.adopt h' t o' hk g sb ea oa):=Kp.role sb g
theorem iM{K:Type}[DecidableEq K]{w:World}{knd:KeyKind pw w K}{h:Heap}{a:Addr}(e:g6 h a):h.DictOf knd a []:=
 ⟨_,#[],0,e,⟨rfl,rfl,rfl⟩,rfl,fun _ q=>(Array.not_mem_empty _ q).elim,.nil,List.nodup_nil⟩
theorem d5{K:Type}[DecidableEq K]{w:World}{knd:KeyKind pw w K}{pl:aN}{h:Heap}{G:Gh}{a:Addr}(e:g6 h a):DictA pl h G knd a []:=⟨[],iM e,Nat.zero_le _,rfl,.nil⟩
noncomputable def ue(u:Wl Γ)(a d:Addr)(k:Nat):Gh:=fD (fD u.G d (.dict a)) a (.obj k (u.st.get k).length)
theorem nB(u:Wl Γ){a d b:Addr}(k:Nat)(n:b≠a)(n':b≠d):ue u a d k b=u.G b:=(cX _ _ n).trans (cX _ _ n')
theorem rA{kp:Grows u.h h'}(n:u.h.get? a=none)(nd:u.h.get? d=none):Kp noX u.h h' u.G (ue u a d k):=⟨fun b o e=> .inr ⟨nB u k (fun q=>ab (q▸n) e) fun q=>ab (q▸nd) e,o,kp b o e,.inr rfl⟩⟩
noncomputable def Wl.freshI(u:Wl Γ)(h':Heap)(t:Tok)(hk:k<28)(kp:Grows u.h h')(n:u.h.get? a=none)(nd:u.h.get? d=none)(ne:d≠a)(ei:h'.get? a=some (instObj (Γ.pl.ca c) d))(ed:g6 h' d):Wl Γ:=
 have gd:ue u a d k d = .dict a:=(cX _ _ ne).trans (aW ..)
 ⟨h',t,ue u a d k,u.st.push k (.inst c []),Put.sim (a:=a) (d:=d) ⟨fun b n n'=>⟨nB u k n n',kp b⟩,aW ..,⟨_,ei⟩,.inr ⟨gd,_,ed⟩,.inr (.inr (bO u.ok.live nd)),.inr ⟨zh u,bO u.ok.live n▸rfl⟩,St.push_at _ _ hk,d,ei,gd,d5 ed⟩ (rA (kp:=kp) n nd) u.ok⟩
theorem Wl.freshI_le{hk:k<28}{kp:Grows u.h h'}{n:u.h.get? a=none}{nd:u.h.get? d=none}{ne:d≠a}{ei:h'.get? a=some (instObj (Γ.pl.ca c) d)}{ed:g6 h' d}:Lw u (u.freshI h' t hk kp n nd ne ei ed):=rA (kp:=kp) n nd
theorem Wl.objAt(u:Wl Γ)(g:u.G a = .obj k i)(e:(u.st.get k)[i]? = some o):OAt Γ u.h u.G a o:=(u.ok.objs a k i g).of fun _ e' x=>sji (e'.symm.trans e)▸x
end
theorem nI{x y:Str}(h:bJ x=true)(hy:bJ y=false):(x==y)=false:=beq_eq_false_iff_ne.mpr fun e=>Bool.noConfusion ((e▸h:bJ y=true).symm.trans hy)
theorem fb{x:Str}(h:bJ x=true):(x==("__debug__":Str))=false:=nI h (by kernel_rfl)
theorem eI{x:Str}(h:bJ x=true):(x==("__classdict__":Str))=false:=nI h (by kernel_rfl)
structure Fm(d:Nat) where
 A:Around
 env:Env
 W:Bool
 cx:Cx
def Rm(A:Around)(d:Nat):Prop:=A.handled=none∧A.depth+4*d≤990∧A.units+20*d≤9000
noncomputable abbrev cI:=Str→Option Value
variable{Γ:Cf}{d:Nat}
section
variable(f:Fm d)(X:Addr→Prop)
structure FS(Γ:Cf)(f:Fm d):Prop where
 rm:Rm f.A d
 kind:f.env.scope.kind = .function
 glbs:f.env.globals=mainGlobals
 blts:f.env.builtins=builtinsNs
 glob:∀x,look x f.cx=some .globalImplicit→f.env.kindOf x=some .globalImplicit
 cellk:∀x k,look x f.cx=some k→xH k=true→f.env.kindOf x=some .cell∨f.env.kindOf x=some .free
 cellsApart:∀x y c,f.env.cells.lookup x=some c→f.env.cells.lookup y=some c→x=y
 home:jm f.cx=true→f.env.code = .ref Γ.pl.lc∧f.env.qual++"<lambda>"=Γ.pl.lq
structure Fb(G:Gh)(a:Addr):Prop where
 g:G a = .own
 x:X a
 n:a≠f.env.locals
def Lv(u:Wl Γ)(lv:LV)(o:Option Value):Prop:=match lv with
 | .v x=>∃w,o=some w∧Rl u x w
 | .fv x=>∃w,o=some w∧Rl u x w
 | .ol xs=>∃a,o=some (.ref a)∧Fb f X u.G a∧ListAt Γ.pl u.h u.G a xs
 | .od es=>∃a,o=some (.ref a)∧Fb f X u.G a∧IddAt Γ u.h u.G a es
 | .unb=>True
structure CellA(u:Wl Γ)(x:Str)(o:Option Value)(r:Role)(c:Addr):Prop where
 kd:f.env.kindOf x=some .cell∨f.env.kindOf x=some .free
 lk:f.env.cells.lookup x=some c
 ic:u.h.IsCell c o
 gc:u.G c=r
 wr:f.W=true→X c∧f.env.kindOf x=some .cell
structure SV(u:Wl Γ)(m:cI)(x:Str)(lv:LV)(o:Option Value):Prop where
 nm:bJ x=true
 sl:(f.env.kindOf x=some .local∧m x=o)∨∃c,CellA f X u x o lv.role c
 vl:Lv f X u lv o
def i5(ρ:Rho)(cont:cI)(x:Str)(a:Addr):Prop:=∃lv,look x ρ=some lv∧lv.isOwn=true∧cont x=some (.ref a)
structure FR(u:Wl Γ)(ρ:Rho)(m cont:cI):Prop where
 st:FS Γ f
 fresh:∀a,u.h.get? a=none→X a
 ns:u.h.Ns f.env.locals m
 gl:u.G f.env.locals = .own
 xl:X f.env.locals
 sv:∀x lv,look x ρ=some lv→SV f X u m x lv (cont x)
 apart:∀x y a,i5 ρ cont x a→i5 ρ cont y a→x=y
def Fr(u:Wl Γ)(ρ:Rho):Prop:=∃m cont,FR f X u ρ m cont
def oq(x:Str)(a:Addr):Prop:=(f.env.kindOf x=some .cell∨f.env.kindOf x=some .free)∧f.env.cells.lookup x=some a
def UsedBy(cont:cI)(x:Str)(lv:LV)(a:Addr):Prop:=oq f x a∨(lv.isOwn=true∧cont x=some (.ref a))
end
section
variable{f:Fm d}{X X' Y:Addr→Prop}{u u':Wl Γ}{ρ ρ':Rho}{m m' cont cont':cI}{x y:Str}{a:Addr}{lv lv₁:LV}{o:Option Value}{w:Value}{P:Prop}
theorem ft{h:Heap}{m:cI}(n:h.Ns a m):∃o,h.get? a=some o:=n.elim fun o n=>n.elim fun _ n=>n.elim fun _ n=>⟨o,n.1⟩
theorem qM{pl:aN}{h:Heap}{G:Gh}{xs:List V}(n:ListAt pl h G a xs):∃o,h.get? a=some o:=n.elim fun _ _ e _ _=>⟨_,e⟩
theorem dT{K:Type}[DecidableEq K]{w:World}{knd:KeyKind pw w K}{h:Heap}{kvs:List (K×Value)}(n:h.DictOf knd a kvs):∃o,h.get? a=some o:=n.elim fun o n=>n.elim fun _ n=>n.elim fun _ n=>⟨o,n.1⟩
theorem nH{K:Type}[DecidableEq K]{w:World}{knd:KeyKind pw w K}{pl:aN}{h:Heap}{G:Gh}{es:List (K×V)}(n:DictA pl h G knd a es):∃o,h.get? a=some o:=n.elim fun _ n _ _ _=>dT n
theorem ke{h:Heap}{a b:Addr}{o o':Obj}(e:h.get? a=some o)(e':h.get? b=some o')(n:o.data≠o'.data):a≠b:=fun q=>n (by cases q;cases e.symm.trans e';rfl)
theorem iA{h:Heap}{c l:Addr}{m:cI}(x:h.IsCell c o)(n:h.Ns l m):c≠l:=x.elim fun _ x=>n.elim fun _ n=>n.elim fun _ n=>n.elim fun _ n=>ke x.1 n.1 (by rw[x.2,n.2.1];exact fun q=>by cases q)
theorem fc{pl:aN}{h:Heap}{G:Gh}{c l:Addr}{xs:List V}(x:h.IsCell c o)(n:ListAt pl h G l xs):c≠l:=x.elim fun _ x=>n.elim fun _ _ e _ _=>ke x.1 e (by exact x.2.symm▸(fun q=>by cases q))
theorem oL{K:Type}[DecidableEq K]{w:World}{knd:KeyKind pw w K}{pl:aN}{h:Heap}{G:Gh}{c l:Addr}{es:List (K×V)}(x:h.IsCell c o)(n:DictA pl h G knd l es):c≠l:=
 x.elim fun _ x=>n.elim fun _ n _ _ _=>n.elim fun _ n=>n.elim fun _ n=>n.elim fun _ n=>ke x.1 n.1 (by rw[x.2,n.2.2.1];exact fun q=>by cases q)
structure Bh(f:Fm d)(X:Addr→Prop)(u:Wl Γ)(a:Addr):Prop where
 ow:Fb f X u.G a
 nc:∀c o,u.h.IsCell c o→c≠a
 ha:∃o,u.h.get? a=some o
theorem Lv.own(v:Lv f X u lv (some (.ref a)))(h:lv.isOwn=true):Bh f X u a:=by
 induction lv with
 |ol xs=>exact v.elim fun b v=>by cases v.1;exact⟨v.2.1,fun _ _ i=>fc i v.2.2,qM v.2.2⟩
 |od es=>exact v.elim fun b v=>by cases v.1;exact⟨v.2.1,fun _ _ i=>oL i v.2.2,nH v.2.2⟩
 |_=>exact ffS h
theorem Lv.tr(v:Lv f X u lv o)(k:LwX Y u u')(q:∀a,lv.isOwn=true→o=some (.ref a)→¬Y a∧(X a→X' a)):Lv f X' u' lv o:=by
 induction lv with
 |v y=>exact v.imp fun _ v=>⟨v.1,v.2.up k⟩
 |fv y=>exact v.imp fun _ v=>⟨v.1,v.2.up k⟩
 |ol xs=>exact v.elim fun a v=>have q:=q a rfl v.1;(qM v.2.2).elim fun _ e=>⟨a,v.1,⟨(Kp.own k e v.2.1.g q.1).1,q.2 v.2.1.x,v.2.1.n⟩,v.2.2.keep k u.ok.live fun _ e=>(Kp.own k e v.2.1.g q.1).2⟩
 |od es=>exact v.elim fun a v=>have q:=q a rfl v.1;(nH v.2.2).elim fun _ e=>⟨a,v.1,⟨(Kp.own k e v.2.1.g q.1).1,q.2 v.2.1.x,v.2.1.n⟩,DictA.keep k u.ok.live v.2.2 fun _ e=>(Kp.own k e v.2.1.g q.1).2⟩
 |unb=>trivial
theorem sI(lv:LV):lv.role = .frz∨lv.role = .own:=by unfold LV.role;cases lv.isFv;exact .inr rfl;exact .inl rfl
theorem iS(e:lv.isFv=false):lv.role = .own:=by unfold LV.role;rw[e]
theorem wT(lv:LV):lv.role.mut=false:=(sI lv).elim (fun e=>e▸rfl) fun e=>e▸rfl
theorem CellA.tr{lv:LV}{c:Addr}(s:CellA f X u x o lv.role c)(k:LwX Y u u')(q:¬Y c)(i:X c→X' c):CellA f X' u' x o lv.role c:=
 s.ic.elim fun _ e=>have z:=Kp.still k e.1 (s.gc▸wT lv) fun _=>q;⟨s.kd,s.lk,⟨_,z.2,e.2⟩,z.1.trans s.gc,fun h=>⟨i (s.wr h).1,(s.wr h).2⟩⟩
theorem SV.tr(s:SV f X u m x lv (cont x))(k:LwX Y u u')(hm:f.env.kindOf x=some .local→m' x=m x)(q:∀a,UsedBy f cont x lv a→¬Y a∧(X a→X' a)):SV f X' u' m' x lv (cont x):=
 ⟨s.nm,s.sl.imp (fun h=>⟨h.1,(hm h.1).trans h.2⟩) fun h=>h.imp fun _ h=>h.tr k (q _ (.inl ⟨h.kd,h.lk⟩)).1 (q _ (.inl ⟨h.kd,h.lk⟩)).2,s.vl.tr k fun a h e=>q a (.inr ⟨h,e⟩)⟩
theorem FR.tr(F:FR f X u ρ m cont)(k:LwX Y u u')(fr:∀a,u'.h.get? a=none→X' a)(l:¬Y f.env.locals∧(X f.env.locals→X' f.env.locals))(q:∀x lv a,look x ρ=some lv→UsedBy f cont x lv a→¬Y a∧(X a→X' a)):FR f X' u' ρ m cont:=
 have e:=fun {o} e=>Kp.own k (o:=o) e F.gl l.1
 ⟨F.st,fr,F.ns.elim fun _ n=>n.elim fun es n=>n.elim fun ep n=>⟨_,es,ep,(e n.1).2,n.2⟩,(ft F.ns).elim fun _ n=>(e n).1,l.2 F.xl,fun x lv h=>(F.sv x lv h).tr k (fun _=>rfl) fun a=>q x lv a h,F.apart⟩
theorem FR.up(F:FR f X u ρ m cont)(k:Lw u u'):FR f X u' ρ m cont:=F.tr k (fun _ n=>F.fresh _ (k.none n)) ⟨id,id⟩ fun _ _ _ _ _=>⟨id,id⟩
theorem Fr.up(F:Fr f X u ρ)(k:Lw u u'):Fr f X u' ρ:=F.imp fun _ F=>F.imp fun _ F=>F.up k
theorem FR.fr(F:FR f X u ρ m cont):Fr f X u ρ:=⟨m,cont,F⟩
theorem Fr.elim(F:Fr f X u ρ)(q:∀m cont,FR f X u ρ m cont→P):P:=F.casesOn fun m F=>F.casesOn fun cont F=>q m cont F
theorem FR.ownT(F:FR f X u ρ m cont)(o:i5 ρ cont x a):Bh f X u a:=o.elim fun lv o=>Lv.own (o.2.2▸(F.sv x lv o.1).vl) o.2.1
theorem SV.cellOf{c:Addr}(s:SV f X u m x lv o)(q:oq f x c):CellA f X u x o lv.role c:=
 s.sl.elim (fun z=>q.1.elim (fun e=>by cases z.1.symm.trans e) fun e=>by cases z.1.symm.trans e) fun z=>z.elim fun c z=>by cases q.2.symm.trans z.lk;exact z
theorem FR.usedX(F:FR f X u ρ m cont)(h:look x ρ=some lv)(q:UsedBy f cont x lv a):(f.W=true→X a)∧∃o,u.h.get? a=some o:=
 q.elim (fun q=>have z:=(F.sv x lv h).cellOf q;⟨fun hw=>(z.wr hw).1,z.ic.imp fun _ e=>e.1⟩) fun q=>have z:=F.ownT ⟨lv,h,q⟩;⟨fun _=>z.ow.x,z.ha⟩
theorem FR.set(F:FR f X u ρ m cont)(k:LwX Y u u')(fr:∀a,u'.h.get? a=none→X' a)(i:∀a,X a→X' a)(x:Str)(hr:∀y,y≠x→look y ρ'=look y ρ)(hc:∀y,y≠x→cont' y=cont y)(hm:∀y,y≠x→f.env.kindOf y=some .local→m' y=m y)
  (ns:u'.h.Ns f.env.locals m') (gl:u'.G f.env.locals = .own) (q:∀y lv a,y≠x→look y ρ=some lv→UsedBy f cont y lv a→¬Y a) (sv:∀lv,look x ρ'=some lv→SV f X' u' m' x lv (cont' x))
  (ap:∀y a lv,y≠x→look x ρ'=some lv→lv.isOwn=true→cont' x=some (.ref a)→i5 ρ cont y a→False):FR f X' u' ρ' m' cont':=
 have old:∀ {y a},y≠x→i5 ρ' cont' y a→i5 ρ cont y a:=fun {y _} n o=>o.imp fun _ o=>⟨hr y n▸o.1,o.2.1,hc y n▸o.2.2⟩
 ⟨F.st,fr,ns,gl,i _ F.xl,fun y lv h=>(Classical.em (y=x)).elim (fun e=>by cases e;exact sv lv h) fun n=>have h':=(hr y n).symm.trans h;hc y n▸(F.sv y lv h').tr k (hm y n) fun a z=>⟨q y lv a n h' z,i a⟩,
  fun y z a o o'=>(Classical.em (y=x)).elim (fun e=>(Classical.em (z=x)).elim (fun e'=>e.trans e'.symm) fun n'=>o.elim fun lv p=>(ap z a lv n' (e▸p.1) p.2.1 (e▸p.2.2) (old n' o')).elim) fun n=>
   (Classical.em (z=x)).elim (fun e'=>o'.elim fun lv p=>(ap y a lv n (e'▸p.1) p.2.1 (e'▸p.2.2) (old n o)).elim) fun n'=>F.apart y z a (old n o) (old n' o')⟩
noncomputable abbrev wA{α:Type}(u:Wl Γ)(A:Around)(c:Sem α)(Q:α→Shared→Prop)(E:Value→Shared→Prop):Prop:=wpAny (model pw Γ.w) A c Q E u.s
variable{E:Value→Shared→Prop}{Q:Value→Shared→Prop}{p:Pos}
theorem FR.loadAny(F:FR f X u ρ m cont)(e:look x ρ=some lv)(hu:cont x=some w)(q:Q w u.s):wA u f.A (loadName f.env x) Q E:=
 have s:=F.sv x lv e
 s.sl.elim (fun h=>wpAny_loadName_local F.st.kind h.1 F.ns (h.2.trans hu) q) fun h=>h.elim fun _ h=>h.kd.elim (fun h1=>wpAny_loadName_cell F.st.kind h1 h.lk (hu▸h.ic) q) fun h1=>wpAny_loadName_free F.st.kind h1 h.lk (hu▸h.ic) q (eI s.nm)
theorem FR.name(F:FR f X u ρ m cont)(e:look x ρ=some lv)(hu:cont x=some w)(q:Q w u.s):wA u f.A (eval (.Name x p) f.env) Q E:=wpAny_Name (F.loadAny e hu q) (fb (F.sv x lv e).nm)
noncomputable def setF(cont:cI)(x:Str)(w:Value):cI:=fun y=>if y=x then some w else cont y
theorem setF_self{g:cI}:setF g x w x=some w:=if_pos rfl
theorem um{g:cI}(n:y≠x):setF g x w y=g y:=if_neg n
def CT(f:Fm d)(X:Addr→Prop)(u:Wl Γ)(k:KR)(Q:Unit→Shared→Prop):Prop:=∀(u':Wl Γ) ρ' sc',LwX X u u'→Fr f X u' ρ'→k ρ' u'.st sc'→Q () u'.s
theorem canPut.of(h:canPut x ρ=true)(q:∀lv,look x ρ=some lv→lv.isFv=false→P):P:=by
 unfold canPut at h
 cases e:look x ρ with
 |none=>rw[e] at h;exact ffS h
 |some lv=>rw[e] at h;exact q lv e (Bool.not_eq_true' _▸h)
theorem UsedBy.ne{c:Addr}(F:FR f X u ρ m cont)(n:y≠x)(h:look y ρ=some lv)(z:UsedBy f cont y lv a)(q:a=f.env.locals∨(oq f x a∧∃o,u.h.IsCell a o)):False:=
 z.elim (fun z=>q.elim (fun q=>iA ((F.sv y lv h).cellOf z).ic F.ns q) fun q=>n (F.st.cellsApart _ _ _ z.2 q.1.2)) fun z=>have o:=F.ownT ⟨lv,h,z⟩;q.elim o.ow.n fun q=>q.2.elim fun _ i=>o.nc _ _ i rfl
theorem FR.storeLv{k:KR}{Q:Unit→Shared→Prop}{sc:Sc}(F:FR f X u ρ m cont)(hW:f.W=true∨f.env.kindOf x=some .local)(cp:canPut x ρ=true)(hv:Lv f X u lv (some w))(r1:lv.isFv=false)
  (hap:∀a y,y≠x→lv.isOwn=true→w = .ref a→i5 ρ cont y a→False) (hk:k (bw x lv ρ) u.st sc) (q:CT f X u k Q):wA u f.A (storeName f.env x w) Q E:=
 canPut.of cp fun lv₀ h0 r0=>
 have s:=F.sv x lv₀ h0
 have core:∀(c:Addr) (h':Heap) (m':cI) (t:Tok),Heap.SameBut c u.h h'→u.G c = .own→X c→(∃o,h'.get? c=some o)→h'.Ns f.env.locals m'→(c=f.env.locals∨(oq f x c∧∃o,u.h.IsCell c o))→(∀y,y≠x→f.env.kindOf y=some .local→m' y=m y)→
   (∀v:Wl Γ,v.h=h'→v.G=u.G→(f.env.kindOf x=some .local∧m' x=some w)∨∃c,CellA f X v x (some w) lv.role c)→Q () {u.s with heap:=h',toks:=t}:=fun c h' m' t sb gc xc ec ns hd hm sl=>
  have p:=Priv.mine sb gc ec
  have ow:lv.isOwn=true→∀a,w = .ref a→¬a=c:=fun h a e z=>have o:=(e▸hv:Lv f X u lv (some (.ref a))).own h;hd.elim (fun q=>o.ow.n (z.trans q)) fun q=>q.2.elim fun _ i=>o.nc _ _ i z.symm
  q (u.priv h' t u.G p) _ sc (p.kp.mono fun _ e=>e▸xc) (FR.fr (m:=m') (cont:=setF cont x w) (F.set (Y:=(· = c)) Wl.priv_le (fun a n=>(Classical.em (a=c)).elim (fun e=>e▸xc) fun e=>F.fresh a ((sb.2 a e).symm.trans n)) (fun _=>id) x (fun y n=>aS _ n _) (fun y n=>um n) hm ns F.gl
   (fun y lv a n h z e=>UsedBy.ne (c:=c) F n h z (e▸hd)) (fun lv' h=>by
    cases (aI x lv ρ).symm.trans h
    rw[setF_self]
    exact⟨s.nm,sl _ rfl rfl,hv.tr Wl.priv_le fun a h e=>⟨ow h a (sji e),id⟩⟩)
   fun y a lv' n h ho e o=>by cases (aI x lv ρ).symm.trans h;exact hap a y n ho (sji (setF_self.symm.trans e)) o)) hk
 s.sl.elim (fun h1=>wpAny_storeName_local h1.1 F.ns (fun h' hns sb=>core _ h' _ _ sb F.gl F.xl (ft hns) hns (.inl rfl) (fun y n _=>if_neg n) fun _ _ _=> .inl ⟨h1.1,if_pos rfl⟩) (by rw[F.st.kind];rfl)) fun h1=>h1.elim fun c h1=>
  have hk:=hW.elim (fun hw=>(h1.wr hw)) fun hl=>by rcases h1.kd with q|q<;>cases hl.symm.trans q
  wpAny_storeName_cell F.st.kind hk.2 h1.lk h1.ic fun h' hc sb=>core c h' m _ sb (h1.gc.trans (iS r0)) hk.1 (hc.imp fun _ e=>e.1) (F.ns.sameBut sb (iA h1.ic F.ns).symm) (.inr ⟨⟨h1.kd,h1.lk⟩,_,h1.ic⟩) (fun _ _ _=>rfl) fun v eh eg=>
   .inr ⟨c,h1.kd,h1.lk,eh▸hc,eg▸h1.gc.trans ((iS r0).trans (iS r1).symm),h1.wr⟩
theorem FR.store{k:KR}{Q:Unit→Shared→Prop}{sc:Sc}{v:V}(F:FR f X u ρ m cont)(hW:f.W=true∨f.env.kindOf x=some .local)(cp:canPut x ρ=true)(hv:Rl u v w)(hk:k (bw x (.v v) ρ) u.st sc)(q:CT f X u k Q):wA u f.A (storeName f.env x w) Q E:=
 F.storeLv (lv:= .v v) hW cp ⟨w,rfl,hv⟩ rfl (fun _ _ _ h=>Bool.noConfusion h) hk q
end
variable{Γ:Cf}{d:Nat}
section
variable(u:Wl Γ)
def CE(k:KV)(Q:Value→Shared→Prop):Prop:=∀x (u':Wl Γ) v sc',Lw u u'→Rl u' v x→k v u'.st sc'→Q x u'.s
noncomputable abbrev KB:=Bool→St→Sc→Prop
def CB(k:KB)(Q:Bool→Shared→Prop):Prop:=∀b (u':Wl Γ) sc',Lw u u'→k b u'.st sc'→Q b u'.s
def CL(n:Nat)(k:KL)(Q:List Value→Shared→Prop):Prop:=∀xs (u':Wl Γ) vs sc',Lw u u'→Rls u' vs xs→xs.length=n→k vs u'.st sc'→Q xs u'.s
end
def bc(Γ:Cf)(d:Nat)(ev:Cx→Expr→Rho→St→Sc→KV→Prop):Prop:=
 ∀ {f:Fm d} {X} {u:Wl Γ} {ρ e sc k Q E},ev f.cx e ρ u.st sc k→Fr f X u ρ→CE u k Q→wA u f.A (eval e f.env) Q E
def g7(Γ:Cf)(d:Nat)(ev:Cx→Expr→Rho→St→Sc→KB→Prop):Prop:=
 ∀ {f:Fm d} {X} {u:Wl Γ} {ρ e sc k Q E},ev f.cx e ρ u.st sc k→Fr f X u ρ→CB u k Q→wA u f.A (isTrue e f.env (eval e f.env)) Q E
def FlR(u:Wl Γ)(fl:Fl)(x:Flow):Prop:=match fl with
 | .next=>x = .next
 | .cont=>x = .cont
 | .ret v=>∃y,x = .ret y∧Rl u v y
def CS(f:Fm d)(X:Addr→Prop)(u:Wl Γ)(k:KF)(Q:Flow→Shared→Prop):Prop:=∀x (u':Wl Γ) fl ρ' sc',LwX X u u'→Fr f X u' ρ'→FlR u' fl x→k fl ρ' u'.st sc'→Q x u'.s
def s9(Γ:Cf)(d:Nat)(ev:Cx→Stmt→Rho→St→Sc→KF→Prop):Prop:=
 ∀ {f:Fm d} {X} {u:Wl Γ} {ρ e sc k Q E},f.W=true→ev f.cx e ρ u.st sc k→Fr f X u ρ→CS f X u k Q→wA u f.A (exec e f.env) Q E
structure cc(Γ:Cf):Prop where
 globs:∃mg mb,Γ.B.heap.Ns mainGlobals mg∧Γ.B.heap.Ns builtinsNs mb∧∀x v,glob x=some v→∃u,Rel Γ.pl Γ.B.heap (fun _=> .frz) v u∧(mg x=some u∨(mg x=none∧mb x=some u))
 lim:Γ.B.heap.NoLimit
section
variable{u u':Wl Γ}{k:KV}{Q:Value→Shared→Prop}{v:V}{x:Value}{sc:Sc}{t:Tok}
theorem CE.ret(q:CE u k Q)(r:Rl u v x)(hk:k v u.st sc):Q x {u.s with toks:=t}:=q x (u.tok t) v sc (Kp.refl ..) r hk
theorem CE.here(q:CE u k Q)(r:Rl u v x)(hk:k v u.st sc):Q x u.s:=q x u v sc .rfl r hk
theorem CE.int{i:Int}{t':Tok}(q:CE u k Q)(hk:k (.int i) u.st sc):Q (.int i t') {u.s with toks:=t}:=q.ret (.int ..) hk
theorem CE.tr(q:CE u k Q)(l:Lw u u'):CE u' k Q:=fun x u'' v sc l'=>q x u'' v sc (l.trans l')
theorem CB.tr{k:KB}{Q:Bool→Shared→Prop}(q:CB u k Q)(l:Lw u u'):CB u' k Q:=fun x u'' sc l'=>q x u'' sc (l.trans l')
theorem CS.tr{f:Fm d}{X:Addr→Prop}{k:KF}{Q:Flow→Shared→Prop}(q:CS f X u k Q)(l:LwX X u u'):CS f X u' k Q:=fun x u'' fl ρ sc l'=>q x u'' fl ρ sc (l.trans l')
theorem CT.tr{f:Fm d}{X:Addr→Prop}{k:KR}{Q:Unit→Shared→Prop}(q:CT f X u k Q)(l:LwX X u u'):CT f X u' k Q:=fun u'' ρ sc l'=>q u'' ρ sc (l.trans l')
theorem CE.intD{kk:Int→St→Sc→Prop}(q:∀(u':Wl Γ) i t sc',Lw u u'→kk i u'.st sc'→Q (.int i t) u'.s):CE u (fun v st sc=>v.intD False fun i=>kk i st sc) Q:=fun _ u' _ sc l r h=>r.intD h fun i t e h=>e▸q u' i t sc l h
theorem CE.boolD{kk:Bool→St→Sc→Prop}(q:∀(u':Wl Γ) i sc',Lw u u'→kk i u'.st sc'→Q (.bool i) u'.s):CE u (fun v st sc=>v.boolD False fun i=>kk i st sc) Q:=fun _ u' _ sc l r h=>r.boolD h fun i e h=>e▸q u' i sc l h
theorem CE.cellD{kk:Nat→Nat→O→St→Sc→Prop}{line:Nat}(q:∀(u':Wl Γ) a r i o sc',Lw u u'→u'.G a = .obj r i→(u'.st.get r)[i]? = some o→kk r i o u'.st sc'→Q (.ref a) u'.s):
  CE u (fun v st sc=>v.refD False fun r i=>cellE line st r i sc fun o sc=>kk r i o st sc) Q:=fun _ u' _ _ l r h=>r.refD h fun k i a e g h=>h.of fun o sc eo h=>e▸q u' a k i o sc l g eo h
theorem Fr.rm{f:Fm d}{X:Addr→Prop}{ρ:Rho}(F:Fr f X u ρ):Rm f.A d:=F.elim fun _ _ F=>F.st.rm
theorem push_keep(h:Heap)(o:Obj):Grows h (h.push o):=fun _ _ e=>Heap.get?_push_of_some _ e
theorem CE.newL{items:Array Value}{n:Nat}{vs:List V}(q:CE u k Q)(r:Rls u vs items.toList)(b:items.size≤aH)(hk:k (.lst vs) u.st sc):Q (.ref u.h.objs.size) {u.s with heap:=u.h.push {cls:= .type "list",data:= .seq items n},toks:=t}:=
 q _ (u.grow _ t (push_keep _ _)) _ sc Wl.grow_le (.lst (Heap.get?_push_size _ rfl) (bO u.ok.live (aC _)) b (r.up Wl.grow_le)) hk
theorem CE.newT{items:Array Value}{n:Nat}{vs:List V}(q:CE u k Q)(r:Rls u vs items.toList)(b:items.size≤aH)(hk:k (.tup vs) u.st sc):Q (.ref u.h.objs.size) {u.s with heap:=u.h.push {cls:= .type "tuple",data:= .seq items n},toks:=t}:=
 q _ (u.grow _ t (push_keep _ _)) _ sc Wl.grow_le (.tup (Heap.get?_push_size _ rfl) (bO u.ok.live (aC _)) b (r.up Wl.grow_le)) hk
theorem b7{pl:aN}{h:Heap}{G:Gh}{xs:List V}{items:Array Value}(r:Rels pl h G xs items.toList)(f:cL xs.length):items.size≤100000:=r.size▸f
theorem dq{n:Nat}(h:n≤200000):n≤aH:=ltr h (by decide)
theorem bH{n:Nat}(h:n≤200000):n≤sizeLine:=ltr (dq h) dr
variable{A:Around}{E:Value→Shared→Prop}{a b:V}{y:Value}
theorem Rel.arK{P:Prop}{pl:aN}{h:Heap}{G:Gh}{kk:Int→Int→Prop}(ra:Rel pl h G a x)(rb:Rel pl h G b y)(e:arK a b kk)(q:∀i j t t',x = .int i t→y = .int j t'→kk i j→P):P:=ra.intD e fun i t e h=>rb.intD h fun j t' e' h=>q i j t t' e e' h
theorem im{a b:Addr}{it jt:Array Value}{n m:Nat}(ea:IsT u.h a it n)(eb:IsT u.h b jt m){S}(g:Meets (Builtin.«tuple.__add__» ⟨[.ref a,.ref b],[]⟩) S)(h:S A (wants Q E) u.s):wA u A (binaryOp .Add (.ref a) (.ref b)) Q E:=
 concat_meets ⟨_,ea,rfl⟩ ⟨_,eb,rfl⟩ noFill_tuple_add seq_tuple_add PySem.F.slot_tuple_add PySem.F.entry_tuple_add (PySem.F.args_tuple_add_2 _ _) g h
theorem Bv{xs ys:List V}{a b:Addr}{it jt:Array Value}{n m:Nat}(ea:IsT u.h a it n)(eb:IsT u.h b jt m)(ga:u.G a = .frz)(gb:u.G b = .frz)(ba:it.size≤aH)(bb:jt.size≤aH)(ra:Rls u xs it.toList)(rb:Rls u ys jt.toList)(f:it.size+jt.size≤200000)(hk:k (.tup (xs++ys)) u.st sc)(q:CE u k Q):
  wA u A (binaryOp .Add (.ref a) (.ref b)) Q E:=by
 by_cases hv:it.isEmpty=true
 ·cases Array.isEmpty_iff.mp hv
  cases List.eq_nil_of_length_eq_zero ra.length
  exact im ea eb (tuple_addW0 _ _ _ _ _ _ _ _ _ _ hv) ⟨ea,eb,q.here (.tup eb gb bb rb) hk⟩
 ·by_cases hw:jt.isEmpty=true
  ·cases Array.isEmpty_iff.mp hw
   cases List.eq_nil_of_length_eq_zero rb.length
   exact im ea eb (tuple_addW1 _ _ _ _ _ _ _ _ _ _ hv hw) ⟨ea,eb,q.here (.tup ea ga ba ra) (List.append_nil xs▸hk)⟩
  ·exact im ea eb (tuple_addW2 _ _ _ _ _ _ _ _ _ _ hv hw (bH f)) ⟨ea,eb,q.newT (ra.appA rb) (dq (Array.size_append▸f)) hk⟩
theorem Bu(q:CE u k Q)(h:GG a b fun v=>k v u.st sc)(ra:Rl u a x)(rb:Rl u b y):wA u A (binaryOp .Add x y) Q E:=by
 cases a with
 |int i=>exact ra.intI fun t e=>rb.intD h fun j t' e' h=>e▸e'▸add_int (q.int h)
 |tup xs=>exact ra.tupI fun a it n e ea ga ba ra=>rb.tupD h fun ys b jt m e' eb gb bb rb h=>e▸e'▸Bv ea eb ga gb ba bb ra rb (Nat.add_le_add (b7 ra h.1.1) (b7 rb h.1.2)) h.2 q
 |lst xs=>exact ra.lstI fun a it n e ea ga ba ra=>rb.lstD h fun ys b jt m e' eb gb bb rb h=>have f:=Nat.add_le_add (b7 ra h.1.1) (b7 rb h.1.2)
   e▸e'▸PySem.P.add_list ea eb (q.newL (ra.appA rb) (dq (Array.size_append▸f)) h.2) (bH f)
 |_=>exact h.elim
theorem zH(n:Nat)(v:Value):∀acc:Array Value,List.foldl (fun x1 x2=>x1++x2) acc (List.replicate n #[v])=acc++(List.replicate n v).toArray:=by
 induction n with
 |zero=>exact fun _=>Array.append_empty.symm
 |succ n ih=>intro acc;rw[List.replicate_succ,List.foldl_cons,ih];apply Array.ext';simp[List.replicate_succ]
theorem mul_one{z:Value}{c:V}{ad:Addr}{n:Int}{t':Tok}{m:Nat}(hl:IsL u.h ad #[z] m)(r0:Rl u c z)(h0:0≤n)(h1:n≤100000)(hk:k (.lst (List.replicate n.toNat c)) u.st sc)(q:CE u k Q):wA u A (binaryOp .Mult (.ref ad) (.int n t')) Q E:=by
 have l1:n.toNat≤100000:=Int.toNat_le.mpr h1
 have l2:(#[z]:Array Value).size*n.toNat≤100000:=(Nat.one_mul n.toNat).symm▸l1
 refine wpAny_binaryOp_repeat_ref (T:="list") (U:="int") (by decide) ⟨_,hl,rfl⟩ (fun s'=>typeIs_int s' n t') noFill_list_mul F.fills_int_mul F.slot_int_rmul repeat_list F.slot_int_index.lookup
  (call_meets F.slot_int_rmul (typeIs_int _ n t') F.entry_int_rmul (F.args_int_rmul_2 _ _) (int___rmul___int_list n t' ad #[z] m)
  ⟨hl,rfl,⟨_,hl,rfl⟩,call_meets F.slot_list_mul ⟨_,hl,rfl⟩ F.entry_list_mul (F.args_list_mul_2 _ _)
   (AutoListH.list___mul___list_int_3 ad #[z] m n t' (by simp[Builtin.List.listFitsIndex];omega) (Nat.not_lt.mpr (ltr l2 (by decide))) (fun e=>absurd (of_decide_eq_true e) (Nat.not_lt.mpr (by exact ltr l2 (by decide))))) ⟨hl,?_⟩⟩)
 have e:List.foldl (fun x1 x2=>x1++x2) #[] (List.replicate n.toNat #[z])=(List.replicate n.toNat z).toArray:=(zH ..).trans Array.empty_append
 exact e.symm▸(q.newL (t:=u.t) (Rels.replicate r0 _) (ltr (leq (List.size_toArray.trans List.length_replicate)) (ltr l1 (by decide))) hk)
theorem Ad(q:CE u k Q)(h:F6 a b fun v=>k v u.st sc)(ra:Rl u a x)(rb:Rl u b y):wA u A (binaryOp .Mult x y) Q E:=by
 cases a with
 |int i=>exact ra.intI fun t e=>rb.intD h fun j t' e' h=>e▸e'▸mul_int (q.int h.2) h.1
 |lst xs=>
  refine ra.lstI fun ad it m e hl ga ba rr=> ?_
  subst e
  refine oneD.of h fun c ec h=>rb.intD h fun n t' e' h=> ?_
  obtain⟨l⟩:=it
  exact Rels.oneI (v:=c) (ec▸rr) fun z e r0=>by cases e;exact e'▸mul_one hl r0 h.1.1 h.1.2 h.2 q
 |_=>exact h.elim
theorem wH{op:Operator}(q:CE u k Q)(h:Dx op a b fun v=>k v u.st sc)(ra:Rl u a x)(rb:Rl u b y):wA u A (binaryOp op x y) Q E:=by
 induction op with
 |Add=>exact Bu q h ra rb
 |Sub=>exact ra.arK rb h fun i j t t' e e' h=>e▸e'▸sub_int (q.int h)
 |Mult=>exact Ad q h ra rb
 |FloorDiv=>exact ra.arK rb h fun i j t t' e e' h=>e▸e'▸floordiv_int (Int.ne_of_gt h.1.1) (q.int h.2) (.inl (PyProof.noPylong_small (by have:=h.1;omega)))
 |Mod=>exact ra.arK rb h fun i j t t' e e' h=>e▸e'▸PyProof.Rows.mod_int (Int.ne_of_gt h.1) (q.int h.2)
 |Pow=>exact ra.arK rb h fun i j t t' e e' h=>by cases h.1.1;cases h.1.2;exact e▸e'▸pow_int_small (by decide) (by decide) (by decide) (q.int h.2)
 |_=>exact h.elim
end
variable{Γ:Cf}{d:Nat}
theorem gO(h:Heap):mI h (fun _=> .frz):=fun _ n=>(n rfl).elim
section
variable{u u':Wl Γ}{f:Fm d}{X:Addr→Prop}{ρ:Rho}{k:KV}{Q:Value→Shared→Prop}{E:Value→Shared→Prop}{v:V}{x:Value}{sc:Sc}{t:Tok}{R:Rec}{A:Around}{P:Prop}
theorem j9(u:Wl Γ):Kp noX Γ.B.heap u.h (fun _=> .frz) u.G:=⟨fun a o e=> .inr ⟨u.ok.frz0 a o e,o,u.ok.base a o e,.inr rfl⟩⟩
theorem pY(r:Rel Γ.pl Γ.B.heap (fun _=> .frz) v x):Rl u v x:=r.keep (j9 u) (gO _)
theorem rY:glob (Str.ofString "__debug__")=none:=by kernel_rfl
theorem nt(BG:cc Γ){x:Str}{p:Pos}(e:look x f.cx=some .globalImplicit)(hv:glob x=some v)(F:Fr f X u ρ)(q:∀w,Rl u v w→Q w u.s):wA u f.A (eval (.Name x p) f.env) Q E:=
 F.elim fun _ _ F=>BG.globs.elim fun mg z=>z.elim fun mb z=>(z.2.2 x v hv).elim fun w z'=>
  have hg:=F.st.glbs▸z.1.keeps u.ok.base
  Name_function_global F.st.kind (F.st.glob x e) (z'.2.elim (fun h=>loadGlobal_global (s:=u.s) hg h (q w (pY z'.1))) fun h=>loadGlobal_builtin (s:=u.s) hg h.1 (F.st.blts▸z.2.1.keeps u.ok.base) h.2 (q w (pY z'.1)))
   (beq_eq_false_iff_ne.mpr fun q=>ab rY (q▸hv:glob ("__debug__":Str)=some v))
theorem uo:∀ {k:NameKind},zY k=true→k = .globalImplicit
 | .globalImplicit,_=>rfl
theorem lO(BG:cc Γ){x:Str}{p:Pos}(e:lj f.cx x ρ=some v)(F:Fr f X u ρ)(q:∀w,Rl u v w→Q w u.s):glob x=some v∧wA u f.A (eval (.Name x p) f.env) Q E:=by
 unfold lj at e
 cases h:look x ρ with
 |some _=>rw[h] at e;exact noS e
 |none=>
  rw[h] at e
  exact optD.some e fun kd h2 e=>have z:=gateD.some e;⟨z.2,nt BG (uo z.1▸h2) z.2 F q⟩
theorem xD(BG:cc Γ){x:Str}{p:Pos}(h:xg f.cx x ρ u.st sc k)(F:Fr f X u ρ)(q:CE u k Q):wA u f.A (eval (.Name x p) f.env) Q E:=by
 unfold xg at h
 cases e:look x ρ with
 |some lv=>
  rw[e] at h
  induction lv with
  |v y=>exact F.elim fun _ _ F=>(F.sv x _ e).vl.elim fun w z=>F.name e z.1 (q.here z.2 h)
  |fv y=>exact F.elim fun _ _ F=>(F.sv x _ e).vl.elim fun w z=>F.name e z.1 (q.here z.2 h)
  |_=>exact h.elim
 |none=>
  rw[e] at h
  exact optP.of h fun kd h2 h=>have z:=gate.of h;z.2.of fun v sc' hv h=>nt BG (uo z.1▸h2) hv F fun w r=>q.here r h
theorem bN:∀ {e:Expr},eY e=false→∀(r:List Expr) (env:Env),starEach (e::r) env=(false,eval e env)::starEach r env:=by
 intro e n r env
 cases e<;>first|rfl|cases n
theorem ay{e:Expr}{r:List Expr}(h:aF (e::r)=true):eY e=false∧aF r=true:=have z:=Bool.and_eq_true_iff.mp h;⟨Bool.not_eq_true' _▸z.1,z.2⟩
theorem sem_list(IH:bc Γ d R.e){pos:Pos}:∀ {es:List Expr} {u:Wl Γ} {sc:Sc} {k:KL} {Q:List Value→Shared→Prop},aF es=true→dX R f.cx es ρ u.st sc k→Fr f X u ρ→CL u es.length k Q→wA u f.A (spliced (backTo pos (starEach es f.env))) Q E
 |[],u,sc,_,_,_,h,_,q=>wpAny_items_nil (q _ u [] sc .rfl .nil rfl h)
 |_::_,_,_,_,_,ok,h,F,q=>wpAny_items_cons (IH h F fun x u₁ v _ l r h=>sem_list IH (ay ok).2 h (F.up l) fun xs u₂ vs sc l' r' n h=>q (x::xs) u₂ (v::vs) sc (l.trans l') (.cons (r.up l') r') (congrArg (· + 1) n) h) (bN (ay ok).1 _ _)
theorem dD{es:List Expr}(h:small es=true):es.length≤100∧aF es=true:=have z:=Bool.and_eq_true_iff.mp h;⟨Nat.le_of_ble_eq_true z.1,z.2⟩
theorem uO{n m:Nat}(e:n=m)(h:m≤100):n≤200000:=e▸ltr h (by decide)
theorem vS(IH:bc Γ d R.e){es:List Expr}{c:Nat}{p:Pos}(h:gate (small es) (dX R f.cx es ρ u.st sc fun vs st sc=>k (.tup vs) st sc))(F:Fr f X u ρ)(q:CE u k Q):wA u f.A (eval (.Tuple es c p) f.env) Q E:=
 have z:=gate.of h
 wpAny_Tuple (sem_list IH (dD z.1).2 z.2 F fun _ _ _ _ l r n h=>have b:=uO n (dD z.1).1;⟨bH b,(q.tr l).newT r (dq b) h⟩)
theorem jV{α:Type}{x:Nat}:∀ {l:List (Nat×α)} {a:α},dZ x l=some a→∃p∈l,p.2=a
 |p::r,a,h=>by
  unfold dZ at h
  cases e:Nat.beq p.1 x with
  |true=>rw[e] at h;exact⟨p,List.mem_cons_self,sji h⟩
  |false=>rw[e] at h;exact(jV h).imp fun _ q=>⟨List.mem_cons_of_mem _ q.1,q.2⟩
theorem qz{p:Pos}{n:Nat}(h:d6 p=n+2):n<28:=by
 unfold d6 at h
 cases e:dZ (p.line*1000+p.col) annL with
 |none=>rw[e] at h;cases h
 |some a=>
  rw[e] at h
  exact(jV e).elim fun q z=>Nat.le_of_succ_le_succ (m:=28) (show n+2≤29 from (z.2.trans h)▸Nat.le_of_ble_eq_true (List.all_eq_true.mp (by decide +kernel:(annL.all fun q=>Nat.ble q.2 29)=true) q z.1))
theorem atD.of{a:Nat}{z:Prop}{g:Nat→Prop}(h:atD a z False g)(q1:z→P)(q2:∀n,a=n+2→g n→P):P:=
 match a,h with
 |0,h=>q1 h
 |n+2,h=>q2 n rfl h
theorem newAt.of{n line:Nat}{o:O}(h:newAt n line o u.st sc k){p:Pos}(hn:d6 p=n+2){a:Addr}{h':Heap}(kp:Grows u.h h')(na:u.h.get? a=none)(ea:∃o,h'.get? a=some o)(oa:OAt Γ h' (fD u.G a (.obj n (u.st.get n).length)) a o)(q:CE u k Q):Q (.ref a) {u.s with heap:=h',toks:=t}:=
 alE.of h fun sc' hk=>q _ (u.fresh h' t o (qz hn) kp na ea oa) _ sc' Wl.fresh_le (.ref (aW ..)) hk
theorem tG(IH:bc Γ d R.e){es:List Expr}{p:Pos}(h:wR R f.cx es p ρ u.st sc k)(F:Fr f X u ρ)(q:CE u k Q):wA u f.A (eval (.List es p) f.env) Q E:=
 have z:=gate.of h
 wpAny_List (sem_list IH (dD z.1).2 z.2 F fun _ u' _ _ l r n h=>have b:=uO n (dD z.1).1
  ⟨bH b,atD.of h (fun h=>(q.tr l).newL r (dq b) h) fun n e h=>newAt.of (u:=u') (t:=u'.t) h e (push_keep _ _) (aC _) ⟨_,Heap.get?_push_size _ rfl⟩ ⟨_,_,Heap.get?_push_size _ rfl,dq b,r.keep (.born (push_keep _ _) (aC _)) u'.ok.live⟩ (q.tr l)⟩)
variable{h:Heap}{G:Gh}{pl:aN}
theorem optMap.of{α β:Type}{g:α→β}{b:β}:∀ {o:Option α},o.map g=some b→(∀a,o=some a→g a=b→P)→P
 |some a,e,q=>q a rfl (sji e)
theorem pysOf.of{x:V}{r:List V}{ds:List PyData}(e:pysOf (x::r)=some ds)(q:∀d ds',k9 x=some d→pysOf r=some ds'→d::ds'=ds→P):P:=by
 unfold pysOf at e
 cases h:k9 x with
 |none=>rw[h] at e;exact noS e
 |some d=>rw[h] at e;exact optMap.of e fun ds' h' e=>q d ds' h h' e
noncomputable abbrev RdP(h:Heap)(v:V)(x:Value):Prop:=∀d,k9 v=some d→∃as,Reads h x d as
noncomputable abbrev ym(h:Heap)(vs:List V)(xs:List Value):Prop:=∀ds,pysOf vs=some ds→∃as,ReadsAll h xs ds as
theorem np(h:Heap):ym h [] []:=fun _ e=>sji e▸⟨_,.nil⟩
theorem lR{v:V}{x:Value}{vs:List V}{xs:List Value}(r:RdP h v x)(q:ym h vs xs):ym h (v::vs) (x::xs):=fun _ e=>pysOf.of e fun d ds' e1 e2 e=>e▸(r d e1).elim fun _ a=>(q ds' e2).elim fun _ b=>⟨_,.cons a b⟩
theorem bG(r:Rel pl h G v x):RdP h v x:=
 Rel.rec (motive_1:=fun v x _=>RdP h v x) (motive_2:=fun vs xs _=>ym h vs xs) (fun _ e=>sji e▸⟨_,.none⟩) (fun _ _ e=>sji e▸⟨_,.bool _⟩) (fun _ _ _ e=>sji e▸⟨_,.int _ _⟩) (fun _ _ _ e=>sji e▸⟨_,.str _ _⟩)
  (fun ea _ _ _ ih _ e=>optMap.of e fun ds e e'=>e'▸(ih ds e).imp' _ fun _ q=> .tuple ea rfl rfl q) (fun ea _ _ _ ih _ e=>optMap.of e fun ds e e'=>e'▸(ih ds e).imp' _ fun _ q=> .list ea rfl rfl q)
  (fun _ _ _ e=>ab rfl e) (fun _ _ _ _ e=>ab rfl e) (fun _ _ e=>ab rfl e) (fun _ _ e=>ab rfl e) (fun _ _ e=>ab rfl e) (fun _ _ e=>ab rfl e) (fun _ _ e=>ab rfl e) (fun _ _ e=>ab rfl e) (fun _ _ _ _ e=>ab rfl e)
  (np h) (fun _ _ r q=>lR r q) r
theorem gq{vs:List V}{xs:List Value}(r:Rels pl h G vs xs):ym h vs xs:=by
 induction vs generalizing xs with
 |nil=>exact r.nilI▸np h
 |cons x vs ih=>exact r.consI fun _ _ e r q=>e▸lR (bG r) (ih q)
theorem lH{a:Addr}{xs:List V}{ds:List PyData}(l:ListAt pl h G a xs)(e:pysOf xs=some ds):∃as,Reads h (.ref a) (.list ds) as:=l.elim fun _ _ ea _ r=>(gq r ds e).imp' _ fun _ q=> .list ea rfl rfl q
theorem pyL.of{st:St}{k i:Nat}{ds:List PyData}(e:pyL st k i=some ds)(q:∀xs,(st.get k)[i]? = some (.list xs)→pysOf xs=some ds→P):P:=optD.some e fun xs e1 e2=>q xs (listAt.of e1) e2
theorem pyPair.of{a:Option PyData}{b:Option (List PyData)}{d:PyData}(e:pyPair a b=some d)(q:∀p ps,a=some p→b=some ps→ .tuple [p,.list ps]=d→P):P:=
 match a,b,e with|some p,some ps,e=>q p ps rfl rfl (sji e)
theorem s8{a:V}{k i:Nat}{p:PyData}{ps:List PyData}(r:Rl u (.tup [a,.ref k i]) x)(e1:k9 a=some p)(e2:pyL u.st k i=some ps):∃as,Reads u.h x (.tuple [p,.list ps]) as:=by
 refine pyL.of e2 fun xs eo e2=>r.tupI fun ad it n h ea _ _ rr=> ?_
 obtain⟨it⟩:=it
 refine Rels.twoI rr fun w w' h' r1 r2=>r2.refI fun al h2 g=> ?_
 subst h h' h2
 exact(bG r1 p e1).elim fun _ q1=>(lH (u.objAt g eo) e2).elim fun _ q2=>⟨_,.tuple ea rfl rfl (.cons q1 (.cons q2 .nil))⟩
theorem nE(r:Rl u v x){dd:PyData}(e:pyS u.st v=some dd):∃as,Reads u.h x dd as:=by
 cases v with
 |ref k i=>exact optMap.of e fun ds e e'=>pyL.of e fun xs eo e=>e'▸r.refI fun a h g=>h▸lH (u.objAt g eo) e
 |tup xs=>
  match xs,r,e with
  |[],r,e=>exact bG r _ e
  |[_],r,e=>exact bG r _ e
  |_::_::_::_,r,e=>exact bG r _ e
  |[a,b],r,e=>
   cases b with
   |ref k i=>exact pyPair.of e fun p ps e1 e2 e'=>e'▸s8 r e1 e2
   |_=>exact bG r _ e
 |_=>exact bG r _ e
end
variable{Γ:Cf}{d:Nat}
section
variable{P:Prop}{pl:aN}{h:Heap}{G:Gh}
def LookR(pl:aN)(h:Heap)(G:Gh)(o:Option V)(o':Option Value):Prop:=optD o (o'=none) fun v=>∃w,o'=some w∧Rel pl h G v w
theorem LookR.isSome{o':Option Value}:∀ {o:Option V},LookR pl h G o o'→o'.isSome=o.isSome
 |none,e=>congrArg Option.isSome e
 |some _,e=>e.elim fun _ e=>congrArg Option.isSome e.1
theorem LookR.some{o:Option V}{o':Option Value}{v:V}(l:LookR pl h G o o')(e:o=some v):∃w,o'=Option.some w∧Rel pl h G v w:=by subst e;exact l
theorem oz{K:Type}[DecidableEq K](p:K×Value)(r:List (K×Value))(k:K):valueAt (p::r) k=if p.1=k then some p.2 else valueAt r k:=by
 unfold valueAt
 rw[List.find?_cons]
 by_cases e:p.1=k
 ·rw[if_pos e,decide_eq_true e];rfl
 ·rw[if_neg e,decide_eq_false e]
theorem gp{K:Type}[DecidableEq K]{lk:K→List (K×V)→Option V}(h0:∀k,lk k []=none)(h1:∀k p r,lk k (p::r)=if p.1=k then some p.2 else lk k r)(k:K):∀ {es:List (K×V)} {kvs:List (K×Value)},es.map (·.1)=kvs.map (·.1)→Rels pl h G (es.map (·.2)) (kvs.map (·.2))→LookR pl h G (lk k es) (valueAt kvs k)
 |[],[],_,_=>by rw[h0];rfl
 |p::es,q::kvs,e,r=>by
  rw[h1,oz]
  have e1:p.1=q.1:=(List.cons.inj e).1
  have e2:=(List.cons.inj e).2
  refine r.consI fun w ws ew r1 r2=> ?_
  have ew1:q.2=w:=(List.cons.inj ew).1
  have ew2:=(List.cons.inj ew).2
  by_cases hk:p.1=k
  ·rw[if_pos hk,if_pos (e1▸hk)];exact⟨_,rfl,ew1▸r1⟩
  ·rw[if_neg hk,if_neg (e1▸hk)];exact gp h0 h1 k e2 (ew2▸r2)
 |[],_::_,e,_=>nomatch e
 |_::_,[],e,_=>nomatch e
theorem AY(k:Str)(p:Str×V)(r:List (Str×V)):look k (p::r)=if p.1=k then some p.2 else look k r:=by
 by_cases e:p.1=k
 ·rw[if_pos e];exact e▸aR ..
 ·rw[if_neg e];exact aD _ _ e
theorem xZ(k:Int)(p:Int×V)(r:List (Int×V)):ag k (p::r)=if p.1=k then some p.2 else ag k r:=by
 unfold ag
 by_cases e:p.1=k
 ·rw[if_pos e,decide_eq_true e]
 ·rw[if_neg e,decide_eq_false e];induction r<;>rfl
variable{a:Addr}
theorem SdAt.look{es:List (Str×V)}(x:SdAt Γ h G a es)(k:Str)(q:∀kvs,h.DictOf (strKind pw Γ.w) a kvs→LookR Γ.pl h G (look k es) (valueAt kvs k)→P):P:=x.elim fun kvs d _ e r=>q kvs d (gp (fun _=>rfl) AY k e r)
theorem IddAt.look{es:List (Int×V)}(x:IddAt Γ h G a es)(k:Int)(q:∀kvs,h.DictOf (intKind pw Γ.w) a kvs→LookR Γ.pl h G (ag k es) (valueAt kvs k)→P):P:=x.elim fun kvs d _ e r=>q kvs d (gp (fun _=>rfl) xZ k e r)
end
section
variable{u u':Wl Γ}{f:Fm d}{X:Addr→Prop}{Q:Value→Shared→Prop}{E:Value→Shared→Prop}{x y:Value}{sc:Sc}{t:Tok}{A:Around}{P:Prop}{β:Type}{a b:V}{r:Bool}
theorem V.intD.some{dd:Option β}{g:Int→Option β}{r:β}:∀ {v:V},v.intD dd g=Option.some r→(∀i,v = .int i→g i=Option.some r→P)→(dd=Option.some r→P)→P:=by
 intro v e q q'
 cases v<;>first|exact q _ rfl e|exact q' e
theorem V.strD.some{dd:Option β}{g:Str→Option β}{r:β}:∀ {v:V},v.strD dd g=Option.some r→(∀i,v = .str i→g i=Option.some r→P)→(dd=Option.some r→P)→P:=by
 intro v e q q'
 cases v<;>first|exact q _ rfl e|exact q' e
theorem V.tupD.some{dd:Option β}{g:List V→Option β}{r:β}:∀ {v:V},v.tupD dd g=Option.some r→(∀i,v = .tup i→g i=Option.some r→P)→(dd=Option.some r→P)→P:=by
 intro v e q q'
 cases v<;>first|exact q _ rfl e|exact q' e
theorem V.lstD.some{dd:Option β}{g:List V→Option β}{r:β}:∀ {v:V},v.lstD dd g=Option.some r→(∀i,v = .lst i→g i=Option.some r→P)→(dd=Option.some r→P)→P:=by
 intro v e q q'
 cases v<;>first|exact q _ rfl e|exact q' e
theorem nilD.some{α:Type}{dd g:Option β}{r:β}:∀ {l:List α},nilD l dd g=Option.some r→(l=[]→g=Option.some r→P)→(dd=Option.some r→P)→P
 |[],e,q,_=>q rfl e
 |_::_,e,_,q=>q e
theorem LV.vD.some{g:V→Option β}{r:β}:∀ {v:LV},v.vD none g=Option.some r→(∀i,v = .v i→g i=Option.some r→P)→P
 | .v i,e,q=>q i rfl e
def kH(A:Around)(s:Shared)(x y:Value)(b:Bool):Prop:=SeqAt.RcAt A s x y b∧SeqAt.RcNeAt A s x y (!b)
theorem Ht{α:Type}{Q:Nat→Nat→α}{n:Nat}(j:Nat)(h:j<min n (#[]:Array Value).size):P:=(Nat.not_lt_zero j (Nat.lt_of_lt_of_le h (Nat.min_le_right ..))).elim
theorem oO{l:Array Value}(e:l.size≠0):l.toList.isEmpty=false:=by
 obtain⟨l⟩:=l
 induction l with
 |nil=>exact(e rfl).elim
 |cons _ _=>rfl
theorem eT{l b:Addr}{items:Array Value}{n n':Nat}(hl:IsL u.h l items n)(hb:IsL u.h b #[] n')(hu:A.units<cLine):kH A u.s (.ref l) (.ref b) items.toList.isEmpty:=by
 by_cases e:items.size=0
 ·cases Array.eq_empty_of_size_eq_zero e
  exact⟨SeqAt.RcAt.lists (A:=A) (s:=u.s) (e:=fun _=>true) ⟨_,hl,rfl,n,rfl⟩ ⟨_,hb,rfl,n',rfl⟩ rfl hu (fun j h1 _=>(Nat.not_lt_zero j h1).elim),SeqAt.RcNeAt.lists (A:=A) (s:=u.s) (e:=fun _=>true) ⟨_,hl,rfl,n,rfl⟩ ⟨_,hb,rfl,n',rfl⟩ rfl hu (fun j h1 _=>(Nat.not_lt_zero j h1).elim)⟩
 ·have e':(items.size != (#[]:Array Value).size)=true:=bne_iff_ne.mpr e
  exact(oO e).symm▸(⟨SeqAt.RcAt.lists_lengths (A:=A) (s:=u.s) ⟨_,hl,rfl,n,rfl⟩ ⟨_,hb,rfl,n',rfl⟩ e' hu,SeqAt.RcNeAt.lists_lengths (A:=A) (s:=u.s) ⟨_,hl,rfl,n,rfl⟩ ⟨_,hb,rfl,n',rfl⟩ e' hu⟩)
theorem mE{l b:Addr}{items:Array Value}{n n':Nat}(hl:IsT u.h l items n)(hb:IsT u.h b #[] n')(hu:A.units<cLine):kH A u.s (.ref l) (.ref b) items.toList.isEmpty:=by
 have q1:=SeqAt.RcAt.tuples (A:=A) (s:=u.s) (e:=fun _=>true) ⟨_,hl,rfl,n,rfl⟩ ⟨_,hb,rfl,n',rfl⟩ hu (fun j _ h2=>(Nat.not_lt_zero j h2).elim)
 have q2:=SeqAt.RcNeAt.tuples (A:=A) (s:=u.s) (e:=fun _=>true) ⟨_,hl,rfl,n,rfl⟩ ⟨_,hb,rfl,n',rfl⟩ hu (fun j _ h2=>(Nat.not_lt_zero j h2).elim)
 have e:(((List.range (min items.size (#[]:Array Value).size)).all fun _=>true)&&items.size==(#[]:Array Value).size)=items.toList.isEmpty:=by
  rw[show min items.size (#[]:Array Value).size=0 from Nat.min_zero ..]
  obtain⟨l⟩:=items
  induction l<;>rfl
 exact⟨e▸q1,e▸q2⟩
theorem eW{pl:aN}{h:Heap}{G:Gh}{xs:List V}{us:List Value}(r:Rels pl h G xs us):us.isEmpty=xs.isEmpty:=r.elim (P:=fun xs us=>us.isEmpty=xs.isEmpty) rfl fun _ _ _ _ _ _=>rfl
theorem fO{pl:aN}{h:Heap}{G:Gh}{items:Array Value}(r:Rels pl h G [] items.toList):items = #[]:=Array.eq_empty_of_size_eq_zero r.size.symm
theorem eqD.some{da db:Option PyData}(e:eqD da db=Option.some r)(q:∀p p',da=Option.some p→db=Option.some p'→SeqAt.shaped p=true→SeqAt.shaped p'=true→PyData.eqv p p'=r→P):P:=
 optD.some e fun p e1 e=>optD.some e fun p' e2 e=>have z:=gateD.some e;have s:=Bool.and_eq_true_iff.mp z.1;q p p' e1 e2 s.1 s.2 (sji z.2)
theorem wU(e:eqD (pyS u.st a) (pyS u.st b)=some r)(ra:Rl u a x)(rb:Rl u b y)(hu:A.units+64<cLine):kH A u.s x y r:=
 eqD.some e fun p p' e1 e2 s1 s2 e=>e▸(nE ra e1).elim fun _ q1=>(nE rb e2).elim fun _ q2=>⟨fun prog w E Q q=>eq_dataH q1 q2 s1 s2 hu q,fun prog w E Q q=>ne_dataH q1 q2 s1 s2 hu q⟩
theorem sq{α:Type}[DecidableEq α][BEq α][LawfulBEq α](a b:α):decide (a=b)=(a==b):=by
 by_cases q:a=b
 ·exact(decide_eq_true q).symm▸((beq_iff_eq.mpr q).symm)
 ·exact(decide_eq_false q).trans ((beq_eq_false_iff_ne.mpr q).symm)
theorem vL(a b:Str):av a b=(a==b):=by
 cases q:av a b with
 |true=>exact(beq_iff_eq.mpr (strEq_iff.mp q)).symm
 |false=>exact(beq_eq_false_iff_ne.mpr (dg q)).symm
theorem yg(e:eqB u.st a b=some r)(ra:Rl u a x)(rb:Rl u b y)(hu:A.units+64<cLine):kH A u.s x y r:=by
 have hu':A.units<cLine:=Nat.lt_of_le_of_lt (Nat.le_add_right ..) hu
 have gen:=fun e=>wU (A:=A) (r:=r) e ra rb hu
 cases a with
 |int i=>exact V.intD.some e (fun j ej e=>by cases e;cases ej;exact ra.intI fun _ e=>rb.intI fun _ e'=>by subst e e';rw[sq];exact⟨SeqAt.RcAt.int_int _ _ _ _,SeqAt.RcNeAt.int_int _ _ _ _⟩) gen
 |str i=>exact V.strD.some e (fun j ej e=>by cases e;cases ej;exact ra.strI fun _ e=>rb.strI fun _ e'=>by subst e e';rw[vL];exact⟨SeqAt.RcAt.str_str _ _ _ _,SeqAt.RcNeAt.str_str _ _ _ _⟩) gen
 |tup xs=>
  refine V.strD.some e (fun j ej e=> ?_) fun e=>V.tupD.some e (fun ys ey e=>nilD.some e (fun en e=> ?_) gen) gen
  ·cases e;cases ej;exact ra.tupI fun _ _ _ e ea _ _ _=>rb.strI fun _ e'=>by subst e e';exact⟨SeqAt.RcAt.tuple_str _ _ ⟨_,ea,rfl,_,rfl⟩ hu',SeqAt.RcNeAt.tuple_str _ _ ⟨_,ea,rfl,_,rfl⟩ hu'⟩
  ·cases e;cases ey;cases en;exact ra.tupI fun _ _ _ e ea _ _ r1=>rb.tupI fun _ _ _ e' eb _ _ r2=>by subst e e';cases fO r2;exact(eW r1)▸(mE ea eb hu')
 |lst xs=>exact V.lstD.some e (fun ys ey e=>nilD.some e (fun en e=>by cases e;cases ey;cases en;exact ra.lstI fun _ _ _ e ea _ _ r1=>rb.lstI fun _ _ _ e' eb _ _ r2=>by subst e e';cases fO r2;rw[←eW r1];exact eT ea eb hu') gen) gen
 |ref k i=>
  refine V.lstD.some e (fun ys ey e=>nilD.some e (fun en e=>optD.some e fun xs eo e=> ?_) gen) gen
  cases e;cases ey;cases en
  refine ra.refI fun al e g=>rb.lstI fun _ _ _ e' eb _ _ r2=> ?_
  subst e e';cases fO r2
  exact ListAt.elim (u.objAt g (listAt.of eo)) fun _ _ ea _ r1=>eW r1▸eT ea eb hu'
 |_=>exact gen e
end
variable{Γ:Cf}{d:Nat}
structure bx(Γ:Cf):Prop where
 mods':∃o es n,Γ.B.heap.get? sysModules=some o∧o.data = .dict es n∧es.size≠0
 gds:SdAt Γ Γ.B.heap (fun _=> .frz) (Γ.pl.ga 0) (gdL 0)
 gd0:(Γ.pl.ga 0==sysModules)=false
section
variable{u u':Wl Γ}{f:Fm d}{X:Addr→Prop}{Q:Value→Shared→Prop}{E:Value→Shared→Prop}{x y:Value}{sc:Sc}{t:Tok}{A:Around}{P:Prop}{a b:V}{r:Bool}{ad:Addr}
theorem gW(BM:bx Γ)(g:u.G ad ≠ .frz):(ad==sysModules)=false:=beq_eq_false_iff_ne.mpr fun e=>BM.mods'.elim fun o z=>g (u.ok.frz0 ad o (e▸z.elim fun _ z=>z.elim fun _ z=>z.1))
theorem oW{k i:Nat}(g:u.G ad = .obj k i):u.G ad ≠ .frz:=fun e=>Role.noConfusion (g.symm.trans e)
theorem x7(g:u.G ad = .own):u.G ad ≠ .frz:=fun e=>Role.noConfusion (g.symm.trans e)
theorem slot_fz:Slot "frozenset" "__contains__" "frozenset.__contains__":=
 .of (owner:="frozenset") (n:="__contains__") (by rw[typeLookup_type,builtinLookup_eq_fast];kernel_rfl) (by decide +kernel) (by decide +kernel) (by decide +kernel)
  (by first|exact .inl (by decide +kernel)|exact .inr (by decide +kernel)) (by rw[isSubtype_type];kernel_rfl)
theorem yW:entryFor table "frozenset.__contains__"=some Builtin.«frozenset.__contains__» :=entryFor_of_tree (by kernel_rfl)
theorem Bs(a b:Value):argsOk "frozenset.__contains__" ⟨[a,b],[]⟩:=by kernel_rfl
theorem qA{w:World}{s:Shared}{a:Addr}{n:Nat}{t:SetTable}{i:Int}{v:Tok}{Q:Bool→Shared→Prop}(e:s.heap.get? a=some {cls:= .type "frozenset",data:= .set #[] n t})(f:t.fits 0=true)
  (h:Q false {s with toks:=s.toks+1}):wpAny (model pw w) A (contains (.ref a) (.int i v)) Q E s:=by
 have ty:s.TypeIs (.ref a) "frozenset":=⟨_,e,rfl⟩
 have el:ElemsOf (intKind pw w) ((#[]:Array (Int×Value)).toList):=fun _ q=>absurd q List.not_mem_nil
 unfold contains
 try with_reducible refine wpAny_holding ?_
 refine wpAny_bind (wpAny_specialOf ty slot_fz.lookup ?_)
 refine wpAny_bind (wpAny_callSpecialUnlessNone?_slot (name:=Str.ofString "__contains__") ty slot_fz
  (wpAny_call_entry slot_fz ty yW ?_ (Bs _ _)))
 refine wpAny_bind (m:=Builtin.Frozenset.oneOther _ _) (wpAny_pure ?_)
 refine wpAny_bind ?_
 refine wpAny_tryCatch ?_
 refine wpAny_holding (wpAny_bind ((intKind pw w).pyHash (intKind_is pw w i v) (wpAny_bind ?_)))
 refine wpAny_bind (wpAny_setState_of (s:={s with toks:=s.toks+1}) e rfl f ?_)
 dsimp only
 exact(byScan_of (knd:=intKind pw w) (show(Value.int i v).scannable=true from rfl) (by decide +kernel) el).symm▸(wpAny_bind (wpAny_rule (wpAny_bind (wpAny_setScan_of (s:={s with toks:=s.toks+1}) (intKind_is pw w i v) e rfl f el (wpAny_pure (wpAny_pure (wpAny_pure ⟨_,rfl,wpAny_truthy_bool h⟩)))))))
def InB(u:Wl Γ)(A:Around)(x y:Value)(r:Bool):Prop:=∀(Q E:Value→Shared→Prop),((∀t,Q (.bool r) {u.s with toks:=t})→wA u A (compareOp .In x y) Q E)∧((∀t,Q (.bool (!r)) {u.s with toks:=t})→wA u A (compareOp .NotIn x y) Q E)
theorem inD.some{ys:List V}(e:inD a ys=Option.some r)(q:∀p ps,k9 a=Option.some p→pysOf ys=Option.some ps→SeqAt.shaped p=true→SeqAt.shaped (.list ps)=true→(ps.any fun y=>PyData.eqv y p)=r→P):P:=
 optD.some e fun p e1 e=>optD.some e fun p' e2 e=>have z:=gateD.some e;have s:=Bool.and_eq_true_iff.mp z.1;q p p' e1 e2 s.1 s.2 (sji z.2)
theorem nR{K:Type}[DecidableEq K]{knd:KeyKind pw Γ.w K}{kk:K}{o:Option V}{kvs:List (K×Value)}(ne:(ad==sysModules)=false)(hk:knd.is kk x=true)(dk:u.h.DictOf knd ad kvs)(l:LookR Γ.pl u.h u.G o (valueAt kvs kk)):InB u A x (.ref ad) o.isSome:=fun Q E=>
 ⟨fun q=>wpAny_in_of (s:=u.s) hk ne dk.mapOf (l.isSome▸q _),fun q=>wpAny_notIn_of (s:=u.s) hk ne dk.mapOf (l.isSome▸q _)⟩
theorem vp(BM:bx Γ)(e:CK u.st a b=some r)(ra:Rl u a x)(rb:Rl u b y)(hu:A.units+65<cLine):InB u A x y r:=by
 cases b with
 |tup ys=>exact inD.some e fun p ps e1 e2 s1 s2 e=>e▸rb.tupI fun ad it n h ea _ _ r2=>h▸(bG ra p e1).elim fun _ r1=>(gq r2 ps e2).elim fun _ r2=>fun Q E=>
   ⟨fun q=>SeqAt.in_tuple_reads (.tuple ea rfl rfl r2) r1 (SeqAt.canLay_of_shaped s2) (SeqAt.canLay_of_shaped s1) (room_in_shaped s1 hu) (q u.t),fun q=>SeqAt.notIn_tuple_reads (.tuple ea rfl rfl r2) r1 (SeqAt.canLay_of_shaped s2) (SeqAt.canLay_of_shaped s1) (room_in_shaped s1 hu) (q u.t)⟩
 |lst ys=>exact inD.some e fun p ps e1 e2 s1 s2 e=>e▸rb.lstI fun ad it n h ea _ _ r2=>h▸(bG ra p e1).elim fun _ r1=>(gq r2 ps e2).elim fun _ r2=>fun Q E=>
   ⟨fun q=>SeqAt.in_list_reads (.list ea rfl rfl r2) r1 (SeqAt.canLay_of_shaped s2) (SeqAt.canLay_of_shaped s1) (room_in_shaped s1 hu) (q u.t),fun q=>SeqAt.notIn_list_reads (.list ea rfl rfl r2) r1 (SeqAt.canLay_of_shaped s2) (SeqAt.canLay_of_shaped s1) (room_in_shaped s1 hu) (q u.t)⟩
 |ref k i=>exact V.intD.some e (fun i ei e=>optD.some e fun es eo e=>by
   cases e;cases ei
   exact ra.intI fun t h1=>rb.refI fun ad h2 g=>h1▸h2▸IddAt.look (u.objAt g (iddAt.of eo)) i fun kvs dk l=>nR (gW BM (oW g)) (intKind_is pw Γ.w i t) dk l) fun e=>ab rfl e
 |gd n=>exact V.strD.some e (fun i ei e=>by
   cases ei
   have z:=gateD.some e
   cases Nat.eq_of_beq_eq_true z.1
   cases z.2
   exact ra.strI fun t h1=>h1▸rb.gdI▸SdAt.look (DictA.keep (j9 u) (gO _) BM.gds fun o e=>u.ok.base _ o e) i fun kvs dk l=>nR BM.gd0 (strKind_is pw Γ.w i t) dk l) fun e=>ab rfl e
 |fset=>exact V.intD.some e (fun i ei e=>by
   cases e;cases ei
   revert rb
   refine fun rb=>ra.intI fun t h1=>h1 ▸ ?_
   cases rb with
   |fset ea f g=>exact fun Q E=>⟨fun q=>wpAny_bind (qA (s:=u.s) ea f (wpAny_pure (q _))),fun q=>wpAny_bind (qA (s:=u.s) ea f (wpAny_pure (q _)))⟩) fun e=>ab rfl e
 |_=>exact noS e
theorem yB:∀b,(biV b == .none)=false
 |0|1|2|3|4|5|6|7|8|9|10|11|12|_+13=>rfl
theorem tB(e:isNone a=some r)(ra:Rl u a x):(x == .none)=r:=by
 induction ra using Rel.elim with
 |none=>exact sji e
 |junk=>exact noS e
 |bi b=>exact(yB b).trans (sji e)
 |_=>cases e;rfl
theorem jv{o:Option Bool}(e:rC o=some r):o=some (!r):=by
 induction o with
 |none=>exact noS e
 |some b=>cases e;exact congrArg some (Bool.not_not b).symm
theorem Lv.vI{o:Option Value}(l:Lv f X u (.v a) o)(e:o=some x):Rl u a x:=l.elim fun _ l=>sji (l.1.symm.trans e)▸l.2
theorem isOf.of{la lb:LV}(e:isOf la lb=some r)(ra:Lv f X u la (some x))(rb:Lv f X u lb (some y)):y = .none∧(x == .none)=r:=
 LV.vD.some e fun a ea e=>LV.vD.some e fun b eb e=>optD.some e fun n en e=>have z:=gateD.some e;by
  cases ea;cases eb;cases z.1
  have rb:=rb.vI rfl
  refine⟨?_,tB z.2 (ra.vI rfl)⟩
  cases b with
  |none=>exact rb.noneI
  |_=>cases en
theorem qu{la lb:LV}(e:eqL u.st la lb=some r)(ra:Lv f X u la (some x))(rb:Lv f X u lb (some y))(hu:A.units+64<cLine):kH A u.s x y r:=by
 induction la with
 |v a=>exact LV.vD.some e fun b eb e=>by cases eb;exact yg e (ra.vI rfl) (rb.vI rfl) hu
 |ol xs=>exact LV.vD.some e fun b eb e=>V.lstD.some e (fun ys ey e=>nilD.some e (fun en e=>by
   cases eb;cases ey;cases en;cases e
   exact ra.elim fun ad z=>(rb.vI rfl).lstI fun _ _ _ h eb _ _ r2=>by
    cases z.1;cases h;cases fO r2
    exact z.2.2.elim fun _ _ ea _ r1=>eW r1▸eT ea eb (Nat.lt_of_le_of_lt (Nat.le_add_right ..) hu)) fun e=>ab rfl e) fun e=>ab rfl e
 |_=>exact noS e
theorem tL(BM:bx Γ){la lb:LV}(e:inL u.st la lb=some r)(ra:Lv f X u la (some x))(rb:Lv f X u lb (some y))(hu:A.units+65<cLine):InB u A x y r:=by
 refine LV.vD.some e fun a ea e=> ?_
 cases ea
 have ra:=ra.vI rfl
 induction lb with
 |v b=>exact vp BM e ra (rb.vI rfl) hu
 |od es=>exact V.intD.some e (fun i ei e=>by
   cases e;cases ei
   exact ra.intI fun t h1=>rb.elim fun ad z=>by cases z.1;exact h1▸z.2.2.look i fun kvs dk l=>nR (gW BM (x7 z.2.1.g)) (intKind_is pw Γ.w i t) dk l) fun e=>ab rfl e
 |_=>exact noS e
theorem Bz{op:CmpOp}{i j:Int}{t t':Tok}(e:Hg op i j=some r)(q:Q (.bool r) u.s):wA u A (compareOp op (.int i t) (.int j t')) Q E:=by
 induction op with
 |Lt=>cases e;exact lt_int q
 |LtE=>cases e;exact le_int q
 |Gt=>cases e;exact gt_int q
 |GtE=>cases e;exact ge_int q
 |_=>exact noS e
theorem x6(BM:bx Γ){op:CmpOp}{la lb:LV}(e:Bk u.st op la lb=some r)(ra:Lv f X u la (some x))(rb:Lv f X u lb (some y))(hu:A.units+65<cLine)(q:∀t,Q (.bool r) {u.s with toks:=t}):wA u A (compareOp op x y) Q E:=by
 have ord:=fun(e:Hm op la lb=some r)=>LV.vD.some e fun a ea e=>V.intD.some e (fun i ei e=>LV.vD.some e fun b eb e=>V.intD.some e (fun j ej e=>by
  cases ea;cases ei;cases eb;cases ej
  exact(ra.vI rfl).intI fun t h1=>(rb.vI rfl).intI fun t' h2=>(h1▸h2▸Bz e (q u.t):wA u A (compareOp op x y) Q E)) fun e=>ab rfl e) fun e=>ab rfl e
 have hu':A.units+64<cLine:=Nat.lt_of_succ_lt hu
 induction op with
 |Is=>have z:=isOf.of e ra rb;exact z.1▸is_none_gen (z.2▸q u.t)
 |IsNot=>have z:=isOf.of (jv e) ra rb;exact z.1▸isnot_none_gen (by rw[z.2,Bool.not_not];exact q u.t)
 |Eq=>exact(qu (A:=A) e ra rb hu').1 pw Γ.w E Q (q u.t)
 |NotEq=>exact(qu (A:=A) (jv e) ra rb hu').2 pw Γ.w E Q (by rw[Bool.not_not];exact q u.t)
 |In=>exact(tL BM e ra rb hu Q E).1 q
 |NotIn=>exact(tL BM (jv e) ra rb hu Q E).2 (by rw[Bool.not_not];exact q)
 |_=>exact ord e
end
variable{Γ:Cf}{d:Nat}
section
variable{P D:Prop}{e:Expr}
theorem nameD.of{g:Str→Prop}(h:nameD e D g)(q:∀x p,e = .Name x p→g x→P)(q':D→P):P:=by
 cases e<;>first|exact q _ _ rfl h|exact q' h
theorem nameD.some{β:Type}{b:β}{g:Str→Option β}(h:nameD e none g=some b)(q:∀x p,e = .Name x p→g x=some b→P):P:=by
 cases e<;>first|exact q _ _ rfl h|exact ab rfl h
theorem callD.of{g:Expr→List Expr→List Keyword→Pos→Prop}(h:callD e D g)(q:∀f as kws p,e = .Call f as kws p→g f as kws p→P)(q':D→P):P:=by
 cases e<;>first|exact q _ _ _ _ rfl h|exact q' h
theorem attrD.of{g:Expr→Str→Pos→Prop}(h:attrD e D g)(q:∀o m p,e = .Attribute o m p→g o m p→P)(q':D→P):P:=by
 cases e<;>first|exact q _ _ _ rfl h|exact q' h
theorem ai{a b:Bool}(h:(a&&b)=true):a=true∧b=true:=Bool.and_eq_true_iff.mp h
theorem ef{a:Bool}(h:(!a)=true):a=false:=Bool.not_eq_true' _▸h
end
section
variable{u u':Wl Γ}{f:Fm d}{X:Addr→Prop}{ρ:Rho}{k:KV}{Q:Value→Shared→Prop}{E:Value→Shared→Prop}{v:V}{x:Value}{sc:Sc}{t:Tok}{R:Rec}{A:Around}{P p q:Prop}{line:Nat}
theorem stopOn.imp{op:BoolOp}{b:Bool}{p' q':Prop}(h:stopOn op b p q)(i:p→p')(j:q→q'):stopOn op b p' q':=by
 induction op<;>induction b<;>first|exact i h|exact j h
theorem iP{M:Model}{s:Shared}{pos:Pos}{op:BoolOp}{x y:Sem Value}{r:List (Sem Value)}
  (h:wpAny M A x (fun v s₁=>∃b,v = .bool b∧stopOn op b (Q (.bool b) s₁) (wpAny M A (boolOp pos op (y::r)) Q E s₁)) E s):wpAny M A (boolOp pos op (x::y::r)) Q E s:=by
 show wpAny M A (do
  let v ←x
  standAt pos
  let t ←holding [v] (truthy v)
  match op,t with
  | .And,false | .Or,true=>pure v
  |_,_=>boolOp pos op (y::r)) Q E s
 refine wpAny_bind (wpAny_mono h (fun v s₁ h₁=> ?_) fun _ _ x=>x)
 obtain⟨b,rfl,h₁⟩:=h₁
 refine wpAny_bind (wpAny_standAt (wpAny_bind (wpAny_holding (wpAny_truthy_bool ?_))))
 induction op<;>induction b<;>first|exact wpAny_pure h₁|exact h₁
theorem mZ(IH:bc Γ d R.e){op:BoolOp}{pos:Pos}:∀ {es:List Expr} {u:Wl Γ} {sc:Sc},xJ R f.cx line op es ρ u.st sc k→Fr f X u ρ→CE u k Q→wA u f.A (boolOp pos op (evalEach es f.env)) Q E
 |[],_,_,h,_,_=>h.elim
 |[_],_,_,h,F,q=>IH h F q
 |_::_::_,_,_,h,F,q=>iP (IH h F (CE.boolD fun _ b _ l h=>⟨b,rfl,onB.of h fun _ h=>h.imp (fun h=>(q.tr l).here (.bool b) h) fun h=>mZ IH h (F.up l) (q.tr l)⟩))
theorem lX(IH:g7 Γ d R.c){op:BoolOp}{k:KB}{Q:Bool→Shared→Prop}:∀ {es:List Expr} {u:Wl Γ} {sc:Sc},E6 R f.cx line op es ρ u.st sc k→Fr f X u ρ→CB u k Q→wA u f.A (allTrue op es f.env) Q E
 |[],u,sc,h,_,q=>by
  induction op
  ·exact wpAny_allTrue_And_nil (q _ u sc .rfl h)
  ·exact wpAny_allTrue_Or_nil (q _ u sc .rfl h)
 |_::_,_,_,h,F,q=>by
  induction op
  ·refine wpAny_allTrue_And_cons (IH h F fun b u' _ l h=>onB.of h fun sc h=> ?_)
   cases b
   ·exact q _ u' sc l h
   ·exact lX IH h (F.up l) (q.tr l)
  ·refine wpAny_allTrue_Or_cons (IH h F fun b u' _ l h=>onB.of h fun sc h=> ?_)
   cases b
   ·exact lX IH h (F.up l) (q.tr l)
   ·exact q _ u' sc l h
theorem As(IH:bc Γ d R.e){l r:Expr}{op:Operator}{p:Pos}(h:R.e f.cx l ρ u.st sc fun a st sc=>R.e f.cx r ρ st sc fun b st sc=>Dx op a b fun v=>k v st sc)(F:Fr f X u ρ)(q:CE u k Q):wA u f.A (eval (.BinOp l op r p) f.env) Q E:=
 wpAny_BinOp (IH h F fun _ _ _ _ l1 r1 h=>IH h (F.up l1) fun _ _ _ _ l2 r2 h=>wH (q.tr (l1.trans l2)) h (r1.up l2) r2)
theorem yK:∀ {o:UnaryOp},zq o=true→o = .USub
 | .USub,_=>rfl
theorem zP(IH:bc Γ d R.e){x:Expr}{p:Pos}{op:UnaryOp}(h:gate (zq op) (R.e f.cx x ρ u.st sc fun v st sc=>v.intD False fun i=>k (.int (-i)) st sc))(F:Fr f X u ρ)(q:CE u k Q):wA u f.A (eval (.UnaryOp op x p) f.env) Q E:=
 have z:=gate.of h
 yK z.1▸wpAny_UnaryOp (IH z.2 F (CE.intD fun _ _ _ _ l h=>PyProof.Rows.neg_int ((q.tr l).int h)))
theorem ifK.of{c:Bool}{p q:Sc→Prop}(h:ifK line c sc p q)(q1:∀sc,c=true→p sc→P)(q2:∀sc,c=false→q sc→P):P:=onB.of h fun sc h=>by
 induction c
 ·exact q2 sc rfl h
 ·exact q1 sc rfl h
theorem wD{c:Bool}(e:c=true)(h:p):if c=true then p else q:=(if_pos e).symm▸h
theorem xo{c:Bool}(e:c=false)(h:q):if c=true then p else q:=(if_neg (e▸Bool.false_ne_true)).symm▸h
theorem vW(IH:bc Γ d R.e)(IC:g7 Γ d R.c){t b o:Expr}{p:Pos}(h:R.c f.cx t ρ u.st sc fun c st sc=>ifK p.line c sc (fun sc=>R.e f.cx b ρ st sc k) fun sc=>R.e f.cx o ρ st sc k)(F:Fr f X u ρ)(q:CE u k Q):wA u f.A (eval (.IfExp t b o p) f.env) Q E:=
 wpAny_IfExp (IC h F fun _ _ _ l h=>ifK.of h (fun _ e h=>wD e (IH h (F.up l) (q.tr l))) fun _ e h=>xo e (IH h (F.up l) (q.tr l)))
def CO(f:Fm d)(X:Addr→Prop)(u:Wl Γ)(k:LV→St→Sc→Prop)(Q:Value→Shared→Prop):Prop:=∀x (u':Wl Γ) lv sc',Lw u u'→Lv f X u' lv (some x)→k lv u'.st sc'→Q x u'.s
theorem ownAt.of{x:Str}{lv:LV}(h:ownAt x ρ=some lv):look x ρ=some lv∧lv.isOwn=true:=optD.some h fun l e h=>have z:=gateD.some h;by cases z.2;exact⟨e,z.1⟩
theorem ownN.of{e:Expr}{z:Str×LV}(h:ownN e ρ=some z)(q:∀p,e = .Name z.1 p→look z.1 ρ=some z.2→z.2.isOwn=true→P):P:=nameD.some h fun x p e h=>optD.some h fun lv h2 h=>by cases h;exact q p e (ownAt.of h2).1 (ownAt.of h2).2
theorem FR.ownO{m cont:cI}{x:Str}{lv:LV}(F:FR f X u ρ m cont)(h:look x ρ=some lv)(o:lv.isOwn=true)(q:∀a,cont x=some (.ref a)→Bh f X u a→P):P:=by
 have s:=(F.sv x lv h).vl
 induction lv with
 |ol xs=>exact s.elim fun a z=>q a z.1 (F.ownT ⟨_,h,rfl,z.1⟩)
 |od xs=>exact s.elim fun a z=>q a z.1 (F.ownT ⟨_,h,rfl,z.1⟩)
 |_=>exact ffS o
theorem oZ(IH:bc Γ d R.e){e:Expr}{k:LV→St→Sc→Prop}(h:evO R f.cx e ρ u.st sc k)(F:Fr f X u ρ)(q:CO f X u k Q):wA u f.A (eval e f.env) Q E:=
 optD.of h (fun z h1 h=>ownN.of h1 fun p e h2 o=>e▸F.elim fun m cont F=>F.ownO h2 o fun a hc _=>F.name h2 hc (q _ u _ sc .rfl (hc▸(F.sv _ _ h2).vl) h)) fun h=>IH h F fun x u' v sc l r h=>q x u' (.v v) sc l ⟨x,rfl,r⟩ h
theorem Dt{op:CmpOp}:∀ {r:Expr},zI r=false→behindInMarks op r=false:=by
 intro r n
 cases r<;>first|rfl|cases n
theorem Rm.units{A:Around}(h:Rm A d):A.units+65<cLine:=Nat.lt_of_le_of_lt (Nat.add_le_add_right (ltr (Nat.le_add_right ..) h.2.2) 65) (by decide)
theorem kj(BM:bx Γ)(IH:bc Γ d R.e){l r:Expr}{op:CmpOp}{k:KB}(h:evO R f.cx l ρ u.st sc fun a st sc=>evO R f.cx r ρ st sc fun b st sc=>optB line (Bk st op a b) sc fun b sc=>k b st sc)(F:Fr f X u ρ)(q:CB u k fun b s=>Q (.bool b) s):
  wA u f.A (eval l f.env) (fun a s₁=>wpAny (model pw Γ.w) f.A (eval r f.env) (fun b s₂=>wpAny (model pw Γ.w) f.A (compareOp op a b) Q E s₂) E s₁) E:=
 oZ IH h F fun _ _ _ _ l1 r1 h=>oZ IH h (F.up l1) fun _ u2 _ _ l2 r2 h=>optB.of h fun b sc e h=>x6 BM e (r1.tr l2 fun _ _ _=>⟨id,id⟩) r2 F.rm.units fun t=>q b (u2.tok t) sc (l1.trans l2) h
theorem evCmp.of{l:Expr}{ops:List CmpOp}{rs:List Expr}{k:KB}(h:evCmp R f.cx l ops rs line ρ u.st sc k)
  (q:∀op r,ops=[op]→rs=[r]→behindInMarks op r=false→(evO R f.cx l ρ u.st sc fun a st sc=>evO R f.cx r ρ st sc fun b st sc=>optB line (Bk st op a b) sc fun b sc=>k b st sc)→P):P:=
 oneD.of h fun op e1 h=>oneD.of h fun r e2 h=>have z:=gate.of h;q op r e1 e2 (Dt (ef z.1)) z.2
theorem A2(BM:bx Γ)(IH:bc Γ d R.e){l:Expr}{ops:List CmpOp}{rs:List Expr}{p:Pos}(h:evCmp R f.cx l ops rs line ρ u.st sc fun b st sc=>k (.bool b) st sc)(F:Fr f X u ρ)(q:CE u k Q):wA u f.A (eval (.Compare l ops rs p) f.env) Q E:=
 h.of fun _ _ e1 e2 hm h=>e1▸e2▸wpAny_Compare1 (kj BM IH h F fun b u' sc l h=>q _ u' _ sc l (.bool b) h) hm
theorem xG(BM:bx Γ)(IH:bc Γ d R.e){l:Expr}{ops:List CmpOp}{rs:List Expr}{p:Pos}{whole:Sem Value}{k:KB}{Q:Bool→Shared→Prop}(h:evCmp R f.cx l ops rs line ρ u.st sc k)(F:Fr f X u ρ)(q:CB u k Q):wA u f.A (isTrue (.Compare l ops rs p) f.env whole) Q E:=
 h.of fun _ _ e1 e2 hm h=>e1▸e2▸wpAny_isTrue_Compare1 (kj BM IH h F fun b u' sc l h=>wpAny_truthy_bool (q b u' sc l h)) hm
end
section
variable{K:Type}[DecidableEq K]{β:Type}
noncomputable def gZ(k:K)(v:β):List (K×β)→List (K×β)
 |[]=>[(k,v)]
 |p::r=>if p.1=k then (p.1,v)::r else p::gZ k v r
theorem d4{k:K}{p:K×β}(v:β)(r:List (K×β))(h:p.1=k):gZ k v (p::r)=(p.1,v)::r:=if_pos h
theorem dY{k:K}{p:K×β}(v:β)(r:List (K×β))(h:p.1≠k):gZ k v (p::r)=p::gZ k v r:=if_neg h
theorem gV(k:Str)(v:V):∀l:List (Str×V),bw k v l=gZ k v l
 |[]=>rfl
 |p::r=>by
  unfold bw
  cases e:av p.1 k with
  |true=>exact(d4 v r (strEq_iff.mp e)).symm
  |false=>exact(congrArg _ (gV k v r)).trans (dY v r (dg e)).symm
theorem gB(k:Int)(v:V):∀l:List (Int×V),aZ k v l=gZ k v l
 |[]=>rfl
 |p::r=>by
  unfold aZ
  by_cases e:p.1=k
  ·rw[decide_eq_true e];exact(d4 v r e).symm
  ·rw[decide_eq_false e];exact(congrArg _ (gB k v r)).trans (dY v r e).symm
theorem qf{k y:K}{v:β}:∀ {l:List (K×β)},y∈(gZ k v l).map (·.1)→y=k∨y∈l.map (·.1)
 |[],h=> .inl (List.mem_singleton.mp h)
 |p::r,h=>by
  by_cases e:p.1=k
  ·rw[d4 v r e] at h;exact .inr h
  ·rw[dY v r e] at h;exact(List.mem_cons.mp h).elim (fun h=> .inr (h▸List.mem_cons_self)) fun h=>(qf h).imp_right (List.mem_cons_of_mem _)
theorem fj{k:K}{v:β}:∀ {l:List (K×β)},(l.map (·.1)).Nodup→((gZ k v l).map (·.1)).Nodup
 |[],_=>List.nodup_cons.mpr ⟨List.not_mem_nil,.nil⟩
 |p::r,h=>by
  by_cases e:p.1=k
  ·rw[d4 v r e];exact h
  ·rw[dY v r e];have h:=List.nodup_cons.mp h;exact List.nodup_cons.mpr ⟨fun z=>(qf z).elim e h.1,fj h.2⟩
theorem dj(k:K)(x:Value):∀ {l:List (K×Value)},(l.map (·.1)).Nodup→stored l k x=gZ k x l
 |[],_=>rfl
 |p::r,h=>by
  have h:=List.nodup_cons.mp h
  by_cases e:p.1=k
  ·rw[d4 x r e,stored,List.any_cons,decide_eq_true e,Bool.true_or,if_pos rfl,List.map_cons,if_pos e,map_store_of_not_mem r k x (e▸h.1)]
  ·rw[dY x r e,←dj k x h.2,stored,stored,List.any_cons,decide_eq_false e,Bool.false_or,List.map_cons,if_neg e];split<;>rfl
theorem pC{k:K}{v:β}:∀ {l:List (K×β)},(gZ k v l).length≤l.length+1
 |[]=>Nat.le_refl _
 |p::r=>by
  by_cases e:p.1=k
  ·rw[d4 v r e];exact Nat.le_succ _
  ·rw[dY v r e];exact Nat.succ_le_succ pC
structure RelKs(pl:aN)(h:Heap)(G:Gh)(es:List (K×V))(kvs:List (K×Value)):Prop where
 keys:es.map (·.1)=kvs.map (·.1)
 vals:Rels pl h G (es.map (·.2)) (kvs.map (·.2))
variable{pl:aN}{h:Heap}{G:Gh}
theorem RelKs.put{k:K}{v:V}{x:Value}(q:Rel pl h G v x):∀ {es:List (K×V)} {kvs:List (K×Value)},RelKs pl h G es kvs→RelKs pl h G (gZ k v es) (gZ k x kvs)
 |[],[],_=>⟨rfl,.one q⟩
 |p::es,p'::kvs,r=>by
  have e1:p.1=p'.1:=(List.cons.inj r.keys).1
  have e2:=(List.cons.inj r.keys).2
  refine r.vals.consI fun w ws ew r1 r2=> ?_
  have r1:Rel pl h G p.2 p'.2:=(show p'.2=w from (List.cons.inj ew).1)▸r1
  have f2:=(List.cons.inj ew).2
  by_cases e:p.1=k
  ·rw[d4 v es e,d4 x kvs (e1▸e)];exact⟨r.keys,.cons q (f2▸r2)⟩
  ·rw[dY v es e,dY x kvs (e1▸e)]
   have z:=RelKs.put (k:=k) q ⟨e2,f2▸r2⟩
   exact⟨by rw[List.map_cons,List.map_cons,z.keys,e1],.cons r1 z.vals⟩
 |[],_::_,r=>nomatch r.keys
 |_::_,[],r=>nomatch r.keys
omit [DecidableEq K] in
theorem RelKs.length{es:List (K×V)}{kvs:List (K×Value)}(r:RelKs pl h G es kvs):es.length=kvs.length:=by have:=congrArg List.length r.keys;rwa [List.length_map,List.length_map] at this
theorem RelKs.store{w:World}{knd:KeyKind pw w K}{a:Addr}{k:K}{v:V}{x:Value}{es:List (K×V)}{kvs:List (K×Value)}{h0:Heap}(hd:h0.DictOf knd a kvs)(r:RelKs pl h G es kvs)(q:Rel pl h G v x):RelKs pl h G (gZ k v es) (stored kvs k x):=
 (dj k x (hd.elim fun _ z=>z.elim fun _ z=>z.elim fun _ z=>z.2.2.2.2.2)).symm▸r.put q
end
variable{Γ:Cf}{d:Nat}
section
variable{u u':Wl Γ}{f:Fm d}{X Y:Addr→Prop}{ρ:Rho}{k:KV}{Q:Value→Shared→Prop}{E:Value→Shared→Prop}{v:V}{x:Value}{sc:Sc}{t:Tok}{R:Rec}{A:Around}{P:Prop}{line:Nat}{D:Addr}{h':Heap}{w:World}
theorem LwX.drop(l:LwX Y u u')(n:∀a,Y a→u.h.get? a=none):Lw u u':=⟨fun a o e=>(l.each a o e).elim (fun q=>ab (n a q.2) e) .inr⟩
def CP(u:Wl Γ)(n:Nat)(k:List (V×V)→St→Sc→Prop)(Q:List (Value×Value)→Shared→Prop):Prop:=∀xs (u':Wl Γ) ps sc',Lw u u'→Rls u' (ps.map (·.1)) (xs.map (·.1))→Rls u' (ps.map (·.2)) (xs.map (·.2))→xs.length=n→k ps u'.st sc'→Q xs u'.s
theorem jI(IH:bc Γ d R.e){pos:Pos}:∀ {ks:List (Option Expr)} {vs:List Expr} {u:Wl Γ} {sc:Sc} {k:List (V×V)→St→Sc→Prop} {Q:List (Value×Value)→Shared→Prop},pe R f.cx ks vs ρ u.st sc k→Fr f X u ρ→CP u ks.length k Q→wA u f.A (evalPairs (pairTrees ks vs f.env pos)) Q E
 |[],_,u,sc,_,_,h,_,q=>evalPairs_nil (q [] u [] sc .rfl .nil .nil rfl (nilD.of h).2)
 |some a::ks,b::vs,_,_,_,_,h,F,q=>evalPairs_cons (IH h F fun x _ v1 _ l1 r1 h=>wpAny_bind (IH h (F.up l1) fun y _ v2 _ l2 r2 h=>wpAny_bind (wpAny_standAt (wpAny_pure (jI IH h ((F.up l1).up l2) fun xs u3 ps sc l3 q1 q2 n h=>
   q ((x,y)::xs) u3 ((v1,v2)::ps) sc ((l1.trans l2).trans l3) (.cons ((r1.up l2).up l3) q1) (.cons (r2.up l3) q2) (congrArg (· + 1) n) h)))))
 |none::_,_,_,_,_,_,h,_,_=>(h:False).elim
 |some _::_,[],_,_,_,_,h,_,_=>(h:False).elim
theorem mt{K:Type}[DecidableEq K]{knd:KeyKind pw w K}{get:V→Option K}{put:K→V→List (K×V)→List (K×V)}{pl:aN}{h:Heap}{G:Gh}(hput:∀k v l,put k v l=gZ k v l)(hget:∀v x k,get v=some k→Rel pl h G v x→knd.is k x=true):
  ∀ {ps:List (V×V)} {xs:List (Value×Value)} {acc:List (K×V)} {kacc:List (K×Value)} {es:List (K×V)},lg get put ps acc=some es→Rels pl h G (ps.map (·.1)) (xs.map (·.1))→Rels pl h G (ps.map (·.2)) (xs.map (·.2))→RelKs pl h G acc kacc→(kacc.map (·.1)).Nodup→
  ∃kvs,Carries knd xs kvs∧RelKs pl h G es (merged kacc kvs)∧es.length≤acc.length+ps.length
 |[],[],_,_,_,e,_,_,r,_=>⟨[],trivial,sji e▸r,sji e▸Nat.le_refl _⟩
 |p::ps,(x,y)::xs,acc,kacc,es,e,r1,r2,r,nd=>by
  refine optD.some e fun s es' e=>r1.consI fun a as ea a1 a2=>r2.consI fun b bs eb b1 b2=> ?_
  have a1:Rel pl h G p.1 x:=(show x=a from (List.cons.inj ea).1)▸a1
  have b1:Rel pl h G p.2 y:=(show y=b from (List.cons.inj eb).1)▸b1
  rw[hput] at e
  refine(mt hput hget e ((List.cons.inj ea).2▸a2) ((List.cons.inj eb).2▸b2) (r.put (k:=s) b1) (fj nd)).imp' ((s,y) :: ·) fun kvs z=>⟨⟨hget _ _ _ es' a1,rfl,z.1⟩,?_,?_⟩
  ·show RelKs pl h G es (merged (stored kacc s y) kvs)
   rw[dj s y nd];exact z.2.1
  ·exact ltr z.2.2 (ltr (Nat.add_le_add_right pC _) (leq (Nat.succ_add ..)))
 |[],_::_,_,_,_,_,r,_,_,_=>nomatch r.nilI
 |_::_,[],_,_,_,_,r,_,_,_=>r.consI fun _ _ e=>nomatch e
theorem dictEnd.of{o:O}{ps:List (V×V)}{p:Pos}(n0:u.h.get? D=none)(l:Lw u u')(gD:u'.G D = .own)(sb:Heap.SameBut D u'.h h')(ea:∃o,h'.get? D=some o)(oa:∀G',Kp (· = D) u'.h h' u'.G G'→OAt Γ h' G' D o)(ne:ps≠[])
  (h:dictEnd (d6 p) line ps o u'.st sc k) (q:CE u k Q):Q (.ref D) {u'.s with heap:=h',toks:=t}:=
 atD.of h (fun h=>q _ (u'.priv h' t u'.G (.mine sb gD ea)) .junk sc ((l.weak.trans Wl.priv_le).drop fun _ e=>e▸n0) (.junk _) (match ps,ne,h with|_::_,_,h=>h))
  fun n e h=>alE.of h fun sc h=>q _ (u'.adopt h' t o (qz e) gD sb ea (oa _ (.role sb gD))) _ sc ((l.weak.trans Wl.adopt_le).drop fun _ e=>e▸n0) (.ref (aW ..)) h
inductive oX(w:World)(D:Addr)(Q:Value→Shared→Prop)(xs:List (Value×Value))(s₁:Shared):Prop
 |mk {K:Type} [DecidableEq K] {knd:KeyKind pw w K} {kvs:List (K×Value)}:Carries knd xs kvs→s₁.heap.DictOf knd D []→(∀h',h'.DictOf knd D (merged [] kvs)→Heap.SameBut D s₁.heap h'→Q (.ref D) {s₁ with heap:=h',toks:=s₁.toks+xs.length})→oX w D Q xs s₁
theorem kI{s:Shared}{env:Env}{keys:List (Option Expr)}{values:List Expr}{pos:Pos}
  (hall:keys.all (·.isSome)=true) (hl:keys.length=values.length) (h0:keys≠[]) (hlen:keys.length≤15)
  (h:wpAny (model pw w) A (evalPairs (pairTrees keys values env pos)) (oX w s.heap.objs.size Q) E {s with heap:=s.heap.push {cls:= .type "dict",data:= .dict #[]}}):
  wpAny (model pw w) A (eval (.Dict keys values pos) env) Q E s:=by
 have hn:=pairTrees_length keys values env pos hall hl
 have hne:pairTrees keys values env pos≠[]:=fun he=>h0 (List.length_eq_zero_iff.mp (hn.symm.trans (congrArg List.length he)))
 rw[arm_eval_Dict,zip_pairTrees keys values env pos hall hl,dictDisplay_pairs _ hne (hn▸Nat.lt_succ_of_le (Nat.le_succ_of_le hlen))]
 refine wpAny_bind (wpAny_standAt (wpAny_bind ?_))
 refine wpAny_bind (wpAny_alloc (wpAny_bind (wpAny_holding ?_)))
 rw[if_pos (hn▸hlen)]
 refine wpAny_bind (wpAny_mono (wpAny_evalPairs_len h) (fun vs s₁ h₁=> ?_) fun _ _ e=>e)
 obtain⟨hvl,hc,hm,hQ⟩:=h₁
 exact wpAny_holding (wpAny_bind (wpAny_storeAll vs _ [] s₁ _ hc hm (ltr (leq ((Nat.zero_add _).trans (hc.length.trans (hvl.trans hn)))) (ltr hlen (bH (by decide)))) fun h' hm' hs'=>wpAny_pure (wpAny_pure (wpAny_pure (hQ h' hm' hs')))))
theorem hJ:∀ {ks:List (Option Expr)} {vs:List Expr},oS ks vs=true→ks.all (·.isSome)=true∧ks.length=vs.length
 |[],[],_=>⟨rfl,rfl⟩
 |some _::ks,_::vs,h=>have z:=hJ (ks:=ks) (vs:=vs) h;⟨z.1,congrArg (· + 1) z.2⟩
theorem vH{v:V}{x:Value}{s:Str}{pl:aN}{h:Heap}{G:Gh}(e:yP v=some s)(r:Rel pl h G v x):(strKind pw w).is s x=true:=V.strD.some e (fun i ei e=>by cases ei;cases e;exact r.strI fun t e=>e▸strKind_is pw w _ t) fun e=>ab rfl e
theorem vE{v:V}{x:Value}{s:Int}{pl:aN}{h:Heap}{G:Gh}(e:xX v=some s)(r:Rel pl h G v x):(intKind pw w).is s x=true:=V.intD.some e (fun i ei e=>by cases ei;cases e;exact r.intI fun t e=>e▸intKind_is pw w _ t) fun e=>ab rfl e
theorem ny{K:Type}[DecidableEq K]{knd:KeyKind pw Γ.w K}{get:V→Option K}{put:K→V→List (K×V)→List (K×V)}{mk:List (K×V)→O}(hput:∀k v l,put k v l=gZ k v l)(hget:∀v x k,get v=some k→Rl u' v x→knd.is k x=true)
  (hmk:∀h G es,DictA Γ.pl h G knd D es→OAt Γ h G D (mk es)) {ps:List (V×V)} {xs:List (Value×Value)} {o:O} {p:Pos} (eo:(lg get put ps []).map mk=some o) (n0:u.h.get? D=none) (l:Lw u u') (gD:u'.G D = .own) (eD:g6 u'.h D)
  (r1:Rls u' (ps.map (·.1)) (xs.map (·.1))) (r2:Rls u' (ps.map (·.2)) (xs.map (·.2))) (n:ps.length≤15) (ne:ps≠[]) (h:dictEnd (d6 p) line ps o u'.st sc k) (q:CE u k Q):oX Γ.w D Q xs u'.s:=
 optMap.of eo fun es eo e=>(mt (kacc:=[]) hput hget eo r1 r2 ⟨rfl,.nil⟩ List.nodup_nil).elim fun kvs z=>
  .mk z.1 (iM eD) fun h' hd sb=>dictEnd.of (o:=o) n0 l gD sb (dT hd) (fun G' kp=>e▸hmk _ _ _ ⟨merged [] kvs,hd,ltr (leq z.2.1.length.symm) (ltr z.2.2 (ltr (leq (Nat.zero_add _)) (ltr n (by decide)))),z.2.1.keys,z.2.1.vals.keep kp u'.ok.live⟩) ne h q
theorem sF(IH:bc Γ d R.e){ks:List (Option Expr)}{es:List Expr}{p:Pos}(h:wQ R f.cx ks es p ρ u.st sc k)(F:Fr f X u ρ)(q:CE u k Q):wA u f.A (eval (.Dict ks es p) f.env) Q E:=by
 have z:=gate.of h
 have ok:=ai z.1
 have fa:=hJ ok.1
 have hlen:=Nat.le_of_ble_eq_true ok.2
 have nn:=aC u.h
 have keep:=push_keep u.h emptyDict
 have ed:g6 (u.h.push emptyDict) u.h.objs.size:=Heap.get?_push_size _ rfl
 induction ks with
 |nil=>
  cases List.eq_nil_of_length_eq_zero fa.2.symm
  refine wpAny_Dict_empty (someE.of (nilD.of z.2).2 fun o sc eo h=> ?_)
  cases eo
  exact atD.of h (fun h=>q _ (u.grow _ u.t keep) .edict sc Wl.grow_le (.edict ed (bO u.ok.live nn)) h) fun n e h=>newAt.of (u:=u) (t:=u.t) h e keep nn ⟨_,ed⟩ (d5 ed) q
 |cons k0 ks=>
  let u0:=u.own (u.h.push emptyDict) u.t keep nn ed
  have l0:Lw u u0:=Wl.own_le
  refine kI fa.1 fa.2 (fun e=>nomatch e) hlen (jI (u:=u0) IH z.2 (F.up l0) fun xs u' ps sc l1 r1 r2 n h=>someE.of h fun o sc eo h=> ?_)
  have kD:=Kp.own l1 ed (aW ..) id
  have hn:ps.length≤15:=by have:=r1.length;rw[List.length_map,List.length_map,n] at this;exact this▸hlen
  induction ps with
  |nil=>exact nomatch (r1.length.trans (List.length_map _)).trans n
  |cons p0 ps=>
  obtain⟨a,b⟩:=p0
  have hI:=fun eo=>ny (u:=u) (mk:= .idd) (p:=p) gB (fun v x k e r=>vE (w:=Γ.w) e r) (fun _ _ _=>id) (o:=o) (xs:=xs) eo nn (l0.trans l1) kD.1 kD.2 r1 r2 hn (fun e=>nomatch e) h q
  cases a with
  |str s=>exact ny (u:=u) (mk:= .sd) (p:=p) gV (fun v x k e r=>vH (w:=Γ.w) e r) (fun _ _ _=>id) (o:=o) (xs:=xs) eo nn (l0.trans l1) kD.1 kD.2 r1 r2 hn (fun e=>nomatch e) h q
  |_=>exact hI eo
end
variable{Γ:Cf}{d:Nat}
noncomputable def dy(c:Nat):Bool:=Nat.beq c 14||Nat.beq c 16||Nat.beq c 22||Nat.beq c 109||Nat.beq c 111
structure dz(Γ:Cf):Prop where
 In:Γ.K.In Γ.B.heap
 ga:∀c,dy c=true→findIn Γ.K (.ref (Γ.pl.ca c)) "__getattribute__"=some (some (.builtin "object.__getattribute__"))
 gm:∀c,dy c=true→findIn Γ.K (.ref (Γ.pl.ca c)) "__getattr__"=some none
 sa:∀c,dy c=true→findIn Γ.K (.ref (Γ.pl.ca c)) "__setattr__"=some (some (.builtin "object.__setattr__"))
 plain:∀c,dy c=true→plainOver Γ.K (Γ.pl.ca c)=true
 makes:∀c,dy c=true→makesIn Γ.K (Γ.pl.ca c)=true
 hasD:∀c,dy c=true→hasDictIn Γ.K (Γ.pl.ca c)=true
 keep:∀c,dy c=true→keepIn Γ.K (.ref (Γ.pl.ca c))=true
 attr:∀c x,hU c x=true→findIn Γ.K (.ref (Γ.pl.ca c)) x=some none
 meth:∀c x g,jr c x=some g→findIn Γ.K (.ref (Γ.pl.ca c)) x=some (some (.ref (Γ.pl.fa g)))∧typeIn Γ.K (.ref (Γ.pl.fa g))=some (.type "function")
theorem i9{c:Nat}{x:Str}(h:hU c x=true):dy c=true:=by
 unfold hU attrL at h
 split at h<;>first|rfl|exact ffS h
theorem mm{c g:Nat}{x:Str}(ok:jr c x=some g):dy c=true:=by
 refine optMap.of ok fun p e _=> ?_
 unfold jD at e
 split at e<;>first|rfl|exact noS e
section
variable{u u':Wl Γ}{f:Fm d}{X Y:Addr→Prop}{ρ:Rho}{k:KV}{Q:Value→Shared→Prop}{E:Value→Shared→Prop}{v:V}{x:Value}{sc:Sc}{t:Tok}{R:Rec}{A:Around}{P:Prop}{line:Nat}{h h':Heap}{w:World}{a da:Addr}{c:Nat}{nm:Str}{fs:List (Str×V)}
theorem kR(w:World)(x:Str):(fun en:DictEntry=>en.key.isStr x)=fun en=>(strKind pw w).is x en.key:=funext fun en=>by cases en.key<;>rfl
theorem CD{es:Array DictEntry}(hk:∀en∈es,∃k,(strKind pw w).is k en.key=true∧en.hash=(strKind pw w).hash k):es.any (·.refKey)=false:=Array.any_eq_false'.mpr fun en he=>(hk en he).elim fun k z=>(Value.isStrOf_shape z.1).elim fun t ht=>by rw[DictEntry.refKey,ht];exact Bool.false_ne_true
theorem mP{kvs:List (Str×Value)}{o:Obj}(hd:h.DictOf (strKind pw w) a kvs)(e:h.get? a=some o)(x:Str):lookIn x o=some (valueAt kvs x):=by
 obtain⟨o',es,ep,e',_,hdata,hk,hp,_⟩:=hd
 rw[e] at e';cases e'
 unfold lookIn
 rw[hdata]
 dsimp only
 rw[kR w x,←hp.find x]
 cases q:es.toList.find? fun en=>(strKind pw w).is x en.key with
 |some en=>rfl
 |none=>
  dsimp only
  rw[Array.any_toList,CD fun en he=>hk en he];rfl
theorem jo{pl:aN}{o:Obj}(e:h.get? a=some (instObj (pl.ca c) da))(ed:h.get? da=some o):InstAt h a (instObj (pl.ca c) da) (pl.ca c) (some o):=⟨e,rfl,rfl,ed⟩
theorem wb:∀b,handedIn (biV b)=true
 |0|1|2|3|4|5|6|7|8|9|10|11|12=>by first|rfl|decide +kernel
 |_+13=>by first|rfl|decide +kernel
theorem DN(r:Rl u v x):handedIn x=true:=by
 induction r using Rel.elim with
 |bi b=>exact wb b
 |_=>rfl
theorem wW{ex:Bool}(BK:dz Γ)(ok:hU c nm=true)(e:u.h.get? a=some (instObj (Γ.pl.ca c) da))(sd:SdAt Γ u.h u.G da fs)(hv:look nm fs=some v)(hk:k v u.st sc)(q:CE u k Q):wA u A (getAttr (.ref a) nm ex) Q E:=
 sd.look nm fun kvs hd l=>(l.some hv).elim fun w z=>(dT hd).elim fun o eo=>
  get_value (s:=u.s) (BK.In.keeps u.ok.base) (jo e eo) (BK.ga c (i9 ok)) (findObj_own (BK.hasD c (i9 ok)) (BK.attr c nm ok) rfl ((mP hd eo nm).trans (congrArg some z.1))) (DN z.2) (q.ret z.2 hk)
theorem vz{g:Nat}{pm:Sem Bool}{Q:Value×List Value→Shared→Prop}(BK:dz Γ)(ok:jr c nm=some g)(e:u.h.get? a=some (instObj (Γ.pl.ca c) da))(sd:SdAt Γ u.h u.G da fs)(hv:look nm fs=none)(q:Q (.ref (Γ.pl.fa g),[.ref a]) u.s):wA u A (getMethod (.ref a) nm pm) Q E:=
 sd.look nm fun kvs hd l=>(dT hd).elim fun o eo=>have m:=BK.meth c nm g ok
  method_fn (s:=u.s) (BK.In.keeps u.ok.base) (jo e eo) (BK.ga c (mm ok)) (BK.gm c (mm ok)) m.1 m.2 (show(lookIn nm o).map (·.isSome)=some false by rw[mP hd eo,Option.map_some,l.isSome,hv];rfl) q
theorem jF{α:Type}(p:α→Bool)(es:Array α):es.toList.findIdx? p=es.findIdx? p:=by obtain⟨l⟩:=es;simp
theorem kG{kvs:List (Str×Value)}{o:Obj}{x:Str}{tk:Tok}{v:Value}(hd:h.DictOf (strKind pw w) a kvs)(e:h.get? a=some o):
  (h.update a (Obj.putName x (PyData.keyHash w.params x) (.str x tk) v)).DictOf (strKind pw w) a (stored kvs x v)∧∃es n,(Obj.putName x (PyData.keyHash w.params x) (.str x tk) v o).data = .dict es n∧es.size≤kvs.length+1:=by
 obtain⟨o',es,ep,e',hc,hdata,hk,hp,hn⟩:=hd
 rw[e] at e';cases e'
 have hlen:es.size=kvs.length:=Array.length_toList.symm.trans hp.length
 have hidx:(es.findIdx? fun en=>(strKind pw w).is x en.key)=kvs.findIdx? fun kv=>decide (kv.1=x):=by rw[←hp.findIdx x,jF]
 obtain⟨oc,od,odt,osl⟩:=o
 cases hdata
 obtain⟨c1,c2,c3⟩:=hc
 cases c1;cases c2;cases c3
 have up:=fun {o2:Obj} (eput:Obj.putName x (PyData.keyHash w.params x) (.str x tk) v ⟨.type "dict",none,.dict es ep,#[]⟩=o2) nf=>eput▸Heap.get?_update_self (Obj.putName x (PyData.keyHash w.params x) (.str x tk) v) e (eput.symm▸nf:(Obj.putName x (PyData.keyHash w.params x) (.str x tk) v ⟨.type "dict",none,.dict es ep,#[]⟩).isFreed=false)
 cases hi:es.findIdx? fun en=>(strKind pw w).is x en.key with
 |some i=>
  have eput:Obj.putName x (PyData.keyHash w.params x) (.str x tk) v ⟨.type "dict",none,.dict es ep,#[]⟩=⟨.type "dict",none,.dict (es.modify i fun en=>{en with val:=v}) ep,#[]⟩:=by
   simp only[Obj.putName_eq,Obj.putNameByArray,kR w x,hi]
  refine⟨⟨_,_,ep,up eput rfl,⟨rfl,rfl,rfl⟩,rfl,hk.modify _ _,?_,?_⟩,_,ep,congrArg Obj.data eput,ltr (leq (Array.size_modify.trans hlen)) (Nat.le_succ _)⟩
  ·rw[stored,if_pos (any_of_findIdx_some (hidx▸hi)),Array.toList_modify]
   exact hp.modify hn ((jF ..).trans hi) v
  ·rw[dj x v hn];exact fj hn
 |none=>
  have eput:Obj.putName x (PyData.keyHash w.params x) (.str x tk) v ⟨.type "dict",none,.dict es ep,#[]⟩=⟨.type "dict",none,.dict (es.push ⟨PyData.keyHash w.params x,.str x tk,v⟩) (ep+1),#[]⟩:=by
   simp only[Obj.putName_eq,Obj.putNameByArray,kR w x,hi]
  have hany:¬(kvs.any fun kv=>decide (kv.1=x))=true:=fun q=>(List.any_eq_true.mp q).elim fun kv z=>not_mem_of_findIdx_none (hidx▸hi) (List.mem_map.mpr ⟨kv,z.1,of_decide_eq_true z.2⟩)
  refine⟨⟨_,_,ep+1,up eput rfl,⟨rfl,rfl,rfl⟩,rfl,hk.push (strKind_is pw w x tk) _,?_,?_⟩,_,ep+1,congrArg Obj.data eput,leq ((Array.size_push _).trans (congrArg (· + 1) hlen))⟩
  ·rw[stored,if_neg hany,Array.toList_push]
   exact hp.append (strKind_is pw w x tk) (PyData.keyHash w.params x) v
  ·rw[dj x v hn];exact fj hn
theorem wM{y:Value}{Q:Unit→Shared→Prop}(BK:dz Γ)(ok:hU c nm=true)(e:u.h.get? a=some (instObj (Γ.pl.ca c) da))(sd:SdAt Γ u.h u.G da fs)(hz:fs.length≤500)(rv:Rl u v y)
  (q:∀h' t,Heap.SameBut da u.h h'→(∃o,h'.get? da=some o)→(∀G',Kp noX u.h h' u.G G'→SdAt Γ h' G' da (bw nm v fs))→Q () {u.s with heap:=h',toks:=t}):
  wA u A (setAttr (.ref a) nm y) Q E:=by
 refine sd.elim fun kvs hd hb hkeys hvals=> ?_
 obtain⟨o,es,ep,eo,hex,hdata,hk,_⟩:=id hd
 have X:=BK.In.keeps u.ok.base
 have c1:=i9 ok
 have I:=jo (pl:=Γ.pl) (c:=c) e eo
 refine set_plain (s:=u.s) X I (BK.sa c c1) ?_
 refine osa_open (s:={u.s with toks:=u.s.toks+1}) X I (BK.plain c c1) (r:=none) (by unfold takerIn;rw[BK.attr c nm ok];rfl) fun b=>(any_some (BK.hasD c c1)).elim fun cd hc=> ?_
 refine wpAny_bind (wpAny_pure (wpAny_bind (wpAny_bind (wpAny_loadPart e (wpAny_bind ((looks_clsIn (M:=model pw Γ.w) X hc.1).here (s:={u.s with toks:=u.s.toks+1}) ?_))))))
 rw[hc.2]
 refine wpAny_pure (a:=some da) (wpAny_bind (wpAny_pure (wpAny_bind ?_)))
 refine wpAny_bind (wpAny_bind (wpAny_askSetting (wpAny_pure (wpAny_bind (wpAny_mkText (wpAny_bind (wpAny_loadPart eo ?_)))))))
 rw[hdata]
 dsimp only
 obtain⟨put,es',n',hput,hsz⟩:=kG (x:=nm) (tk:=u.s.toks+1) (v:=y) hd eo
 have r:RelKs Γ.pl u.h u.G fs kvs:=⟨hkeys,hvals⟩
 rw[aRefKeyMayBeTheName_at,CD fun en he=>hk en he,Bool.and_false]
 refine wpAny_updatePart eo ?_
 have up:=Heap.get?_update_self (Obj.putName nm (PyData.keyHash Γ.w.params nm) (.str nm (u.s.toks+1)) y) eo (Obj.isFreed_of_dict hput)
 have hlen:kvs.length+1≤501:=Nat.succ_le_succ (r.length▸hz)
 refine wpAny_bind (wpAny_lookBehind up (by rw[hput];exact pastItsLine_dict (Nat.le_succ_of_le (bH (ltr hsz (ltr hlen (by decide)))))) (wpAny_pure (q _ _ (Heap.SameBut.update ..) (dT put) fun G' kp=> ?_)))
 have rs:RelKs Γ.pl _ G' (bw nm v fs) (stored kvs nm y):=gV nm v fs▸RelKs.store hd ⟨hkeys,hvals.keep kp u.ok.live⟩ (rv.keep kp u.ok.live)
 exact⟨_,put,ltr (stored_length_le kvs nm y) (ltr hlen (by decide)),rs.keys,rs.vals⟩
set_option tactic.hygienic true in
theorem fW{o:Expr}(p:eM o=true)(x:Str)(env:Env)(t:Sem Value):attributeBase o x env t=t:=by
 cases o<;>first|rfl|skip
 rename_i g as kws pp
 cases g<;>first|rfl|skip
 induction as<;>first|rfl|skip
 induction kws<;>first|rfl|exact ffS p
theorem yJ(BK:dz Γ)(IH:bc Γ d R.e){o:Expr}{p:Pos}(h:gate (eM o) (R.e f.cx o ρ u.st sc (CH nm p.line k)))(F:Fr f X u ρ)(q:CE u k Q):wA u f.A (eval (.Attribute o nm p) f.env) Q E:=
 have z:=gate.of h
 Attribute_any_ (IH z.2 F (CE.cellD fun u1 a r i o sc l g eo h=>O.instD.of h fun c fs e h=>have z:=gate.of h;optV.of z.2 fun v sc hv h=>
  (u1.objAt g (eo.trans (congrArg some e)):OAt Γ u1.h u1.G a (.inst c fs)).elim fun da i=>wW BK z.1 i.1 i.2.2 hv h (q.tr l))) (by rw[arm_eval_Attribute,fW z.1])
end
variable{Γ:Cf}{d:Nat}
section
variable{u u':Wl Γ}{f:Fm d}{X Y:Addr→Prop}{ρ:Rho}{k:KV}{Q:Value→Shared→Prop}{E:Value→Shared→Prop}{v:V}{x y:Value}{sc:Sc}{t:Tok}{R:Rec}{A:Around}{P:Prop}{line:Nat}{h h':Heap}{w:World}{a:Addr}{xs:List V}{items:Array Value}{pl:aN}{G:Gh}{i:Int}{n m j:Nat}{value slice:Expr}
set_option tactic.hygienic true in
theorem cw(slice:Expr)(o i:Value):∃ops,subscripted slice false o i=operate ops (getItem o i):=by
 cases slice<;>first|exact⟨_,rfl⟩|skip
 rename_i c _
 induction c<;>exact⟨_,rfl⟩
theorem zJ(h:n<m):Int.negSucc n+(m:Int)=((m-(n+1):Nat):Int):=Int.subNatNat_of_le h
theorem wz{z:Int}(e:(if i<0 then i+(n:Int) else i)=(j:Int))(h:j<n):seqIndex? i n=some j:=by
 simp only[seqIndex?,e]
 exact if_pos (Bool.and_eq_true_iff.mpr ⟨decide_eq_true (Int.natCast_nonneg j),decide_eq_true (Int.ofNat_lt.mpr h)⟩)
theorem uc(r:Rels pl h G xs items.toList)(b:items.size≤aH)(e:atI xs i=some v)(q1:∀n w,i = .ofNat n→n<items.size→items[n]? = some w→Rel pl h G v w→P)(q2:∀n w,i = .negSucc n→n<items.size→items[items.size-(n+1)]? = some w→Rel pl h G v w→P):P:=by
 induction i with
 |ofNat n=>exact(r.get e).elim fun w z=>q1 n w rfl (r.size▸fP e) (Array.getElem?_toList▸z.1) z.2
 |negSucc n=>
  have hn:=(List.length_reverse (as:=xs))▸fP e
  have e:xs.reverse[n]? = some v:=e
  rw[List.getElem?_reverse hn,Nat.sub_sub,Nat.add_comm 1 n,r.size] at e
  exact(r.get e).elim fun w z=>q2 n w rfl (r.size▸hn) (Array.getElem?_toList▸z.1) z.2
theorem xM(h:n<items.size)(b:items.size≤aH):(n:Int)<2 ^ 63:=Int.ofNat_lt.mpr (Nat.lt_of_lt_of_le h (ltr b (by decide)))
theorem x8(h:n<m): -(m:Int)≤Int.negSucc n:=Int.neg_le_neg (Int.ofNat_le.mpr h)
theorem Dc(h:n<items.size)(b:items.size≤aH): -(2 ^ 63)≤Int.negSucc n:=Int.le_trans (Int.neg_le_neg (Int.ofNat_le.mpr (ltr b (by decide):items.size≤2 ^ 63))) (x8 h)
theorem nq{tk:Tok}(hl:IsL u.h a items n)(b:items.size≤aH)(r:Rls u xs items.toList)(e:atI xs i=some v)(hk:k v u.st sc)(q:CE u k Q):wA u A (subscriptTail value slice (.ref a) (.int i tk)) Q E:=
 have il:u.s.heap.IsList a items:=⟨_,hl,rfl,n,rfl⟩
 (cw slice (.ref a) (.int i tk)).elim fun _ ho=>tail_any (T:="list") il.typeIs slot_list_getitem.lookup (uc r b e
  (fun n w ei hn hw rw=>ei▸wpAny_getItem_list (s:=u.s) il (Int.natCast_nonneg n) (xM hn b) hw (q.here rw hk))
  (fun n w ei hn hw rw=>ei▸wpAny_getItem_list_neg (s:=u.s) il (Int.negSucc_lt_zero n) (x8 hn) (Dc hn b) ((zJ hn).symm▸hw) (q.here rw hk))) ho
theorem xx{tk:Tok}(hl:IsT u.h a items n)(b:items.size≤aH)(r:Rls u xs items.toList)(e:atI xs i=some v)(hk:k v u.st sc)(q:CE u k Q):wA u A (subscriptTail value slice (.ref a) (.int i tk)) Q E:=
 have it:IsTup u.s.heap a items:=⟨_,hl,rfl,n,rfl⟩
 (cw slice (.ref a) (.int i tk)).elim fun _ ho=>tail_any (T:="tuple") it.typeIs slot_tuple_getitem.lookup (uc r b e
  (fun n w ei hn hw rw=>ei▸PyProof.Rows.getItem_tuple (s:=u.s) it (Int.le_trans (by decide) (Int.natCast_nonneg n)) (xM hn b) (wz (z:=0) (if_neg (Int.not_lt.mpr (Int.natCast_nonneg n))) hn) hw (q.here rw hk))
  (fun n w ei hn hw rw=>ei▸PyProof.Rows.getItem_tuple (s:=u.s) it (Dc hn b) (Int.lt_trans (Int.negSucc_lt_zero n) (by decide)) (wz (z:=0) ((if_pos (Int.negSucc_lt_zero n)).trans (zJ hn)) (Nat.sub_lt (Nat.lt_of_le_of_lt (Nat.zero_le _) hn) (Nat.succ_pos n))) hw (q.here rw hk))) ho
theorem gP{K:Type}[DecidableEq K]{knd:KeyKind pw Γ.w K}{kk:K}{key:Value}{kvs:List (K×Value)}{o:Option V}(hd:u.h.DictOf knd a kvs)(hk:knd.is kk key=true)(l:LookR Γ.pl u.h u.G o (valueAt kvs kk))(e:o=some v)(h:k v u.st sc)(q:CE u k Q):wA u A (subscriptTail value slice (.ref a) key) Q E:=
 (cw slice (.ref a) key).elim fun _ ho=>(l.some e).elim fun _ z=>tail_any (s:=u.s) (T:="dict") (hd:u.s.heap.DictOf knd a kvs).typeIs slot_dict_getitem.lookup (wpAny_getItem_of (s:=u.s) hk hd.mapOf z.1 (q.ret z.2 h)) ho
theorem v7{o:O}{r jj:Nat}{iv:V}(g:u.G a = .obj r jj)(eo:(u.st.get r)[jj]? = some o)(ri:Rl u iv y)(h:C3 line o iv sc fun v sc=>k v u.st sc)(q:CE u k Q):wA u A (subscriptTail value slice (.ref a) y) Q E:=by
 have ob:=u.objAt g eo
 induction o with
 |list xs=>exact ri.intD h fun i tk e h=>optV.of h fun v sc hv h=>e▸ListAt.elim ob fun _ _ hl b r=>nq hl b r hv h q
 |idd es=>exact ri.intD h fun i tk e h=>optV.of h fun v sc hv h=>e▸IddAt.look ob i fun kvs hd l=>gP hd (intKind_is pw Γ.w i tk) l hv h q
 |sd es=>exact ri.strD h fun i tk e h=>optV.of h fun v sc hv h=>e▸SdAt.look ob i fun kvs hd l=>gP hd (strKind_is pw Γ.w i tk) l hv h q
 |inst _ _=>exact h.elim
theorem HP{s:Str}:∀ {n:Nat},look s (gdL n)=some v→n=0
 |0,_=>rfl
 |_+1,e=>ab rfl e
theorem vG(BM:bx Γ){c iv:V}(h:zo line u.st c iv sc fun v sc=>k v u.st sc)(rc:Rl u c x)(ri:Rl u iv y)(q:CE u k Q):wA u A (subscriptTail value slice x y) Q E:=by
 cases c with
 |ref r j=>exact rc.refI fun a e g=>cellE.of h fun o sc eo h=>e▸v7 g eo ri h q
 |tup xs=>exact rc.tupI fun a _ _ e hl _ b r=>ri.intD h fun i tk e' h=>optV.of h fun v sc hv h=>e▸e'▸xx hl b r hv h q
 |lst xs=>exact rc.lstI fun a _ _ e hl _ b r=>ri.intD h fun i tk e' h=>optV.of h fun v sc hv h=>e▸e'▸nq hl b r hv h q
 |gd n=>
  refine ri.strD h fun i tk e' h=>optV.of h fun v sc hv hh=> ?_
  cases HP hv
  exact e'▸rc.gdI▸SdAt.look (DictA.keep (j9 u) (gO _) BM.gds fun o e=>u.ok.base _ o e) i fun kvs hd l=>gP hd (strKind_is pw Γ.w i tk) l hv hh q
 |_=>exact h.elim
theorem A1(BM:bx Γ)(IH:bc Γ d R.e){o i:Expr}{p:Pos}(h:R.e f.cx o ρ u.st sc fun c st sc=>R.e f.cx i ρ st sc fun i st sc=>zo line st c i sc fun v sc=>k v st sc)(F:Fr f X u ρ)(q:CE u k Q):wA u f.A (eval (.Subscript o i p) f.env) Q E:=
 Subscript_ (IH h F fun _ _ _ _ l1 r1 h=>IH h (F.up l1) fun _ _ _ _ l2 r2 h=>vG BM h (r1.up l2) r2 (q.tr (l1.trans l2)))
def CI(u:Wl Γ)(k:Option Int→St→Sc→Prop)(Q:Value→Shared→Prop):Prop:=∀x (u':Wl Γ) a sc',Lw u u'→IsPart x a→k a u'.st sc'→Q x u'.s
theorem lK(IH:bc Γ d R.e){e:Option Expr}{k:Option Int→St→Sc→Prop}(h:ud R f.cx e ρ u.st sc k)(F:Fr f X u ρ)(q:CI u k Q):wA u f.A (evalPart e f.env) Q E:=by
 induction e with
 |none=>exact wpAny_pure (q _ u none sc .rfl .none h)
 |some e=>exact IH h F (CE.intD fun u' i t sc l h=>q _ u' _ sc l (.int i t) h)
noncomputable def loOf(a:Option Int)(n:Nat):Nat:=optD a 0 fun i=>min i.toNat n
noncomputable def hiOf(a:Option Int)(n:Nat):Nat:=optD a n fun i=>min i.toNat n
theorem nnI.of{a:Int}(h:nnI (some a)=true):∃n:Nat,a=n:=match a,h with | .ofNat n,_=>⟨n,rfl⟩
theorem iZ(k n:Nat):min (k:Int) (n:Int)=((min k n:Nat):Int):=by omega
theorem rV{a b:Option Int}(ha:nnI a=true)(hb:nnI b=true)(n:Nat):Builtin.Slice.sliceAdjust a b 1 (n:Int)=((loOf a n:Int),(hiOf b n:Int)):=by
 have h2:∀k:Nat,¬((k:Int)<0):=fun k=>Int.not_lt.mpr (Int.natCast_nonneg k)
 have ea:∀k:Nat,loOf (some (k:Int)) n=min k n:=fun _=>rfl
 have eb:∀k:Nat,hiOf (some (k:Int)) n=min k n:=fun _=>rfl
 unfold Builtin.Slice.sliceAdjust
 induction a with
 |none=>
  induction b with
  |none=>rfl
  |some b=>obtain⟨j,rfl⟩:=nnI.of hb;rw[eb,←iZ];simp only[h2,if_false];rfl
 |some a=>
  obtain⟨i,rfl⟩:=nnI.of ha
  induction b with
  |none=>rw[ea,←iZ];simp only[h2,if_false];rfl
  |some b=>obtain⟨j,rfl⟩:=nnI.of hb;rw[ea,eb,←iZ,←iZ];simp only[h2,if_false];rfl
theorem sZ(lo hi:Nat):Builtin.Slice.slicePlaces (lo:Int) (hi:Int) 1=hi-lo:=by
 show(if (lo:Int)<hi then ((hi:Int)-lo-1) / 1+1 else 0).toNat=_
 rw[Int.ediv_one,Int.sub_add_cancel]
 by_cases h:(lo:Int)<hi
 ·rw[if_pos h];exact Int.toNat_sub ..
 ·rw[if_neg h];exact(Nat.sub_eq_zero_of_le (Int.ofNat_le.mp (Int.not_lt.mp h))).symm
theorem xU(xs:Array Value)(a c:Nat):((List.range c).filterMap fun(k:Nat)=>xs[((a:Int)+(k:Int)*1).toNat]?)=(xs.toList.drop a).take c:=by
 rw[←pick_run xs a c,List.filterMap_map]
 exact congrArg (fun g=>List.filterMap g _) (funext fun k=>congrArg (xs[·]?) (congrArg Int.toNat (congrArg ((a:Int) + ·) (Int.mul_one _))))
theorem zm{α:Type}(l:List α)(i j:Nat):(l.drop (min i l.length)).take (min j l.length-min i l.length)=(l.take j).drop i:=by
 rw[List.drop_take]
 by_cases hi:i≤l.length
 ·rw[Nat.min_eq_left hi]
  by_cases hj:j≤l.length
  ·rw[Nat.min_eq_left hj]
  ·rw[Nat.min_eq_right (Nat.le_of_not_le hj),List.take_of_length_le (leq List.length_drop),List.take_of_length_le (ltr (leq List.length_drop) (Nat.sub_le_sub_right (Nat.le_of_not_le hj) _))]
 ·rw[List.drop_eq_nil_of_le (i:=i) (Nat.le_of_not_le hi),Nat.min_eq_right (Nat.le_of_not_le hi),List.drop_length,List.take_nil,List.take_nil]
theorem E4(n:Nat)(xs:List V):pH (some (n:Int)) xs=xs.drop n:=rfl
theorem EC(n:Nat)(xs:List V):pA (some (n:Int)) xs=xs.take n:=rfl
theorem DG{ys:List Value}{a b:Option Int}(ha:nnI a=true)(hb:nnI b=true)(q:Rels pl h G xs ys):Rels pl h G (pH a (pA b xs)) ((ys.drop (loOf a ys.length)).take (hiOf b ys.length-loOf a ys.length)):=by
 have main:∀i j:Nat,min i ys.length=loOf a ys.length→min j ys.length=hiOf b ys.length→(xs.take j).drop i=pH a (pA b xs)→Rels pl h G (pH a (pA b xs)) ((ys.drop (loOf a ys.length)).take (hiOf b ys.length-loOf a ys.length)):=fun i j e1 e2 e=>by
  rw[←e1,←e2,zm,←e];exact(q.take j).drop i
 have all:=List.take_length (l:=xs)
 induction a with
 |none=>
  induction b with
  |none=>exact main 0 ys.length (Nat.zero_min _) (Nat.min_self _) (q.length▸all)
  |some b=>exact(nnI.of hb).elim fun j e=>main 0 j (Nat.zero_min _) (e▸rfl) (e▸rfl)
 |some a=>
  refine(nnI.of ha).elim fun i e=> ?_
  induction b with
  |none=>exact main i ys.length (e▸rfl) (Nat.min_self _) (e▸q.length▸congrArg (List.drop i) all)
  |some b=>exact(nnI.of hb).elim fun j e'=>main i j (e▸rfl) (e'▸rfl) (e▸e'▸rfl)
theorem ma{s:Shared}{v:Value}{a:Option Int}{Q:Option Int→Shared→Prop}(h:IsPart v a)(q:Q a s):wpAny (model pw w) A (Builtin.Slice.slicePartIndex v) Q E s:=by
 induction h with
 |none=>exact slicePart_none q
 |int i t=>exact slicePart_int q
theorem yA{s:Shared}{sl:Addr}{vl vu:Value}{a b:Option Int}{Q:Int×Int×Nat→Shared→Prop}(hs:s.heap.IsSliceOf sl vl vu .none)(p1:IsPart vl a)(p2:IsPart vu b)(ha:nnI a=true)(hb:nnI b=true)(q:Q ((loOf a n:Int),1,hiOf b n-loOf a n) s):
  wpAny (model pw w) A (Builtin.Slice.sliceApplied (.ref sl) (pure (n:Int))) Q E s:=by
 obtain⟨os,hos,hcs,hds⟩:=id hs
 refine wpAny_bind (wpAny_bind (wpAny_field hos hds (x:=vl) rfl (wpAny_bind (wpAny_field hos hds (x:=vu) rfl (wpAny_bind (wpAny_field hos hds (x:= .none) rfl (wpAny_pure ?_)))))))
 refine wpAny_bind (slicePart_none ?_)
 refine wpAny_bind (ma p1 (wpAny_bind (ma p2 (wpAny_bind (wpAny_pure ?_)))))
 show wpAny _ _ (match Builtin.Slice.sliceAdjust a b 1 (n:Int) with|(lo,hi)=>pure (lo,(1:Int),Builtin.Slice.slicePlaces lo hi 1)) _ _ s
 rw[rV ha hb]
 exact wpAny_pure ((sZ ..).symm▸q)
theorem i7{s:Shared}{t sl:Addr}{vl vu:Value}{a b:Option Int}(ht:IsT s.heap t items n)(hs:s.heap.IsSliceOf sl vl vu .none)(p1:IsPart vl a)(p2:IsPart vu b)(ha:nnI a=true)(hb:nnI b=true)(hz:items.size≤aH)
  (q1:((items.toList.drop (loOf a items.size)).take (hiOf b items.size-loOf a items.size))=items.toList→Q (.ref t) s)
  (q2:Q (.ref s.heap.objs.size) {s with heap:=s.heap.push {cls:= .type "tuple",data:= .seq ((items.toList.drop (loOf a items.size)).take (hiOf b items.size-loOf a items.size)).toArray}}):
  wpAny (model pw w) A (getItem (.ref t) (.ref sl)) Q E s:=by
 have it:IsTup s.heap t items:=⟨_,ht,rfl,n,rfl⟩
 have hTs:s.TypeIs (.ref sl) "slice":=hs.imp fun _ z=>⟨z.1,z.2.1⟩
 unfold getItem
 try with_reducible refine wpAny_holding ?_
 refine wpAny_bind (wpAny_sequenceKey it.typeIs (by decide) ?_)
 refine wpAny_bind (wpAny_callSpecial?_slot (name:=Str.ofString "__getitem__") it.typeIs slot_tuple_getitem
  (wpAny_call_entry slot_tuple_getitem it.typeIs entry_tuple_getitem ?_ (args_tuple_getitem _ _)))
 show wpAny _ _ (Builtin.Tuple.tupleItemsOf (.ref t) >>= _) _ _ s
 refine wpAny_bind (tupleItemsOf_ it (wpAny_bind (wpAny_typeOf hTs ?_)))
 refine wpAny_bind (yA hs p1 p2 ha hb ?_)
 dsimp only
 generalize loOf a items.size=lo at q1 q2 ⊢
 generalize hiOf b items.size-lo=c at q1 q2 ⊢
 by_cases hw:((lo:Int)==0&&(1:Int)==1&&c==items.size)=true
 ·rw[if_pos hw]
  simp only[Bool.and_eq_true,beq_iff_eq] at hw
  refine wpAny_bind (m:=Builtin.Tuple.tupleIsExact _) ?_
  refine wpAny_bind (wpAny_typeOf it.typeIs (wpAny_pure ?_))
  refine wpAny_bind (wpAny_rule (wpAny_pure ⟨_,rfl,wpAny_pure (q1 ?_)⟩))
  rw[hw.2,Int.ofNat_eq_zero.mp hw.1.1,List.drop_zero];exact List.take_of_length_le (leq Array.length_toList)
 ·rw[if_neg hw,xU]
  refine wpAny_bind (m:=Builtin.Tuple.tupleExact _) (wpAny_newObj_type (wpAny_pure ⟨_,rfl,wpAny_pure q2⟩) ?_)
  exact ltr (List.size_toArray▸ltr (List.length_take_le' ..) (List.length_drop▸ltr (Nat.sub_le ..) (ltr (leq Array.length_toList) hz))) dr
theorem fQ{h:Heap}(l u st:Value):(h.push {cls:= .type "slice",data:= .fields #[l,u,st]}).IsSliceOf h.objs.size l u st:=Heap.IsSliceOf.new ..
theorem isM1.of{c:Int}(h:isM1 c=true):c = -1:=match c,h with | .negSucc n,h=>(Nat.eq_of_beq_eq_true h:n=0)▸rfl
theorem xV{vl vu vs:Value}{a b c:Option Int}(r:Rl u v x)(p1:IsPart vl a)(p2:IsPart vu b)(p3:IsPart vs c)(h:Hr v a b c fun r=>k r u.st sc)(q:CE u k Q):
  wpAny (model pw Γ.w) A (subscriptTail value slice x (.ref u.h.objs.size)) Q E {u.s with heap:=u.h.push {cls:= .type "slice",data:= .fields #[vl,vu,vs]}}:=by
 let u':=u.grow (u.h.push {cls:= .type "slice",data:= .fields #[vl,vu,vs]}) u.t (push_keep _ _)
 have l:Lw u u':=Wl.grow_le
 refine(cw slice x (.ref u.h.objs.size)).elim fun _ ho=> ?_
 induction p3 with
 |none=>
  refine(r.up l).tupD h fun xs ad items n e ea ga b r h=>e ▸ ?_
  have z:=gate.of h
  have zz:=ai z.1
  have rz:=DG zz.1 zz.2 r
  exact tail_any (T:="tuple") (s:=u'.s) ⟨_,ea,rfl⟩ slot_tuple_getitem.lookup (i7 (s:=u'.s) ea (fQ ..) p1 p2 zz.1 zz.2 b (fun eq=>(q.tr l).here (.tup ea ga b (eq▸rz)) z.2)
    ((q.tr l).newT (t:=u'.t) rz (ltr (ltr (List.length_take_le' ..) (List.length_drop▸ltr (Nat.sub_le ..) (leq Array.length_toList))) b) z.2)) (e▸ho)
 |int c tk=>
  refine(r.up l).lstD h fun xs ad items n e ea ga bd r h=>e ▸ ?_
  have z:=gate.of h
  have zz:=ai z.1
  cases isM1.of (ai zz.1).1
  cases Option.isNone_iff_eq_none.mp (ai zz.1).2
  cases Option.isNone_iff_eq_none.mp zz.2
  cases p1;cases p2
  refine tail_any (T:="list") (s:=u'.s) ⟨_,ea,rfl⟩ slot_list_getitem.lookup (wpAny_getItem_list_slice (s:=u'.s) ⟨_,ea,rfl,n,rfl⟩ (fQ ..) .none .none (.int _ _) (by decide) ?_ (ltr bd dr)) (e▸ho)
  rw[krv_pick]
  exact(q.tr l).newL (t:=u'.t) r.reverse (ltr (leq (List.length_reverse.trans Array.length_toList)) bd) z.2
theorem Bt(IH:bc Γ d R.e){o:Expr}{lo hi step:Option Expr}{sp p:Pos}(h:B2 R f.cx o lo hi step ρ u.st sc k)(F:Fr f X u ρ)(q:CE u k Q):wA u f.A (eval (.Subscript o (.Slice lo hi step sp) p) f.env) Q E:=
 Subscript_ (IH h F fun _ _ _ _ l1 r1 h=>wpAny_Slice (lK IH h (F.up l1) fun _ _ _ _ l2 p1 h=>lK IH h ((F.up l1).up l2) fun _ _ _ _ l3 p2 h=>lK IH h (((F.up l1).up l2).up l3) fun _ _ _ _ l4 p3 h=>
  xV (((r1.up l2).up l3).up l4) p1 p2 p3 h (q.tr (((l1.trans l2).trans l3).trans l4))))
end
section
variable{w:World}{A:Around}{E:Value→Shared→Prop}{s:Shared}{it t:Addr}{i:Nat}{items:Array Value}{x:Value}
theorem ya{Q:Fin→Shared→Prop}(hit:s.heap.IsTupleIter it t i)(ht:s.heap.IsTuple t items)(hx:items[i]? = some x)
  (q:∀h',h'.IsTupleIter it t (i+1)→Heap.SameBut it s.heap h'→Q (.done (.ret x)) {s with heap:=h'}):wpAny (model pw w) A (Builtin.«tuple_iterator.__next__» ⟨[.ref it],[]⟩) Q E s:=by
 obtain⟨o,ho,hc,hd⟩:=hit
 obtain⟨ot,hot,_,n,hdt⟩:=ht
 refine wpAny_bind (m:=field (.ref it) 0) (wpAny_field ho hd (x:= .ref t) rfl ?_)
 refine wpAny_bind (m:=field (.ref it) 1) (wpAny_field ho hd (x:= .int i 0) rfl (wpAny_bind (m:=seqItems? (.ref t)) (wpAny_seqItems hot hdt ?_)))
 simp only[Int.toNat_natCast,hx]
 exact wpAny_bind (wpAny_setField ho hd (by simp) (wpAny_pure (q _ ⟨_,Heap.get?_update_self _ ho (Obj.isFreed_of_fields (Obj.data_mapFields hd _)),(Obj.cls_mapFields ..).trans hc,Obj.data_mapFields hd _⟩ (Heap.SameBut.update ..))))
theorem xi{Q:Fin→Shared→Prop}(hh:A.handled=none)(hit:s.heap.IsTupleIter it t i)(ht:s.heap.IsTuple t items)(hx:items[i]? = none)
  (q:∀h' e,Heap.ExtBut it s.heap h'→(∃o,h'.get? e=some o∧o.cls = .type "StopIteration")→E (.ref e) {s with heap:=h'}):wpAny (model pw w) A (Builtin.«tuple_iterator.__next__» ⟨[.ref it],[]⟩) Q E s:=by
 obtain⟨o,ho,hc,hd⟩:=hit
 obtain⟨ot,hot,_,n,hdt⟩:=ht
 refine wpAny_bind (m:=field (.ref it) 0) (wpAny_field ho hd (x:= .ref t) rfl ?_)
 refine wpAny_bind (m:=field (.ref it) 1) (wpAny_field ho hd (x:= .int i 0) rfl (wpAny_bind (m:=seqItems? (.ref t)) (wpAny_seqItems hot hdt ?_)))
 simp only[Int.toNat_natCast,hx]
 refine wpAny_bind (wpAny_rule (wpAny_bind (wpAny_setField ho hd (by simp) ?_)))
 refine wpAny_bind (m:=newExc _ _) ?_
 refine wpAny_bind (wpAny_newObj_type ?_ (by size_fits))
 refine wpAny_bind (m:=firstArgMember _ _) (wpAny_of_eq (a:=Value.none) (by first|rfl|(simp only[firstArgMember];rfl)) ?_)
 refine wpAny_newObj_type ?_ (by size_fits)
 refine wpAny_bind (wpAny_handled ?_)
 exact hh.symm▸(wpAny_bind (wpAny_pure (wpAny_throw (q _ _ (((Heap.SameBut.update ..).extBut.push _).push _) ⟨_,Heap.get?_push_size _ rfl,rfl⟩))))
theorem iQ{α:Type}{l:Array α}{i:Nat}(h:i<l.size):l[i]? = some l[i]:=Array.getElem?_eq_getElem h
theorem pJ(hh:A.handled=none)(hne:t≠it)(items:Array Value):Draws pw w A it [it,t] items.size (fun i v=>items[i]? = some v) (fun i h=>h.IsTupleIter it t i∧h.IsTuple t items) where
 live _ _ st:=st.1.imp fun _ z=>z.1
 frame _ _ _ st hk:=⟨st.1.imp fun _ z=>⟨hk it List.mem_cons_self _ z.1,z.2⟩,st.2.imp fun _ z=>⟨hk t (List.mem_cons_of_mem _ List.mem_cons_self) _ z.1,z.2⟩⟩
 item i s Q E hi st hQ:=by
  exact wpAny_bind (wpAny_callSpecial?_slot (name:=Str.ofString "__next__") st.1.typeIs F.slot_tuple_iterator_next
   (wpAny_call_entry F.slot_tuple_iterator_next st.1.typeIs F.entry_tuple_iterator_next (ya st.1 st.2 (iQ hi) fun h' a b=>⟨_,rfl,wpAny_pure (hQ _ h' s.toks (iQ hi) ⟨a,st.2.extBut b.extBut hne⟩ b)⟩) (F.args_tuple_iterator_next_1 _)))
 done s Q E st hE:=by
  exact wpAny_bind (wpAny_callSpecial?_slot (name:=Str.ofString "__next__") st.1.typeIs F.slot_tuple_iterator_next
   (wpAny_call_entry F.slot_tuple_iterator_next st.1.typeIs F.entry_tuple_iterator_next (xi (A:=A.in1) hh st.1 st.2 (Array.getElem?_eq_none (Nat.le_refl _)) hE) (F.args_tuple_iterator_next_1 _)))
end
structure t8(h:Heap)(z TI TO i1 i2:Addr)(f0:Value):Prop where
 hz:IsZip h z TI TO f0
 hI:IsPair h TI (.ref i1) (.ref i2)
 hO:∃a b,IsPair h TO a b
section
variable{w:World}{A:Around}{E:Value→Shared→Prop}{s:Shared}{z TI TO i1 i2 l1 l2:Addr}{n1 n2 k:Nat}{P1 P2:Nat→Value→Prop}{St1 St2:Nat→Heap→Prop}
noncomputable abbrev tz(z TO i1 i2:Addr)(h h':Heap):Prop:=∀c o,c≠z→c≠TO→c≠i1→c≠i2→h.get? c=some o→h'.get? c=some o
theorem cV{A:Around}{it l:Addr}{n:Nat}{P:Nat→Value→Prop}{St:Nat→Heap→Prop}(D:Draws pw w A it [it,l] n P St){i:Nat}{h h':Heap}(st:St i h)(a:∀o,h.get? it=some o→h'.get? it=some o)(b:∀o,h.get? l=some o→h'.get? l=some o):St i h':=
 D.frame _ _ _ st fun c hc=>(List.mem_cons.mp hc).elim (fun e=>e▸a) fun hc=>List.mem_singleton.mp hc▸b
variable(D:ZipApart z TI TO i1 i2 l1 l2)(D1:Draws pw w A i1 [i1,l1] n1 P1 St1)(D2:Draws pw w A i2 [i2,l2] n2 P2 St2)(Z:t8 s.heap z TI TO i1 i2 .none)(s1:St1 k s.heap)(s2:St2 k s.heap)
include D D1 D2 Z s1 s2
theorem yQ{Q:Fin→Shared→Prop}(k1:k<n1)(k2:k<n2)
  (q:∀x y h' tk (a:Addr),P1 k x→P2 k y→t8 h' z TI TO i1 i2 (rawInt a)→St1 (k+1) h'→St2 (k+1) h'→s.heap.objs.size≤a→IsT h' a #[x,y] 0→tz z TO i1 i2 s.heap h'→Q (.done (.ret (.ref a))) {s with heap:=h',toks:=tk}):
  wpAny (model pw w) A (Builtin.«zip.__next__» ⟨[.ref z],[]⟩) Q E s:=by
 obtain⟨hz,hI,⟨a0,b0,hO⟩⟩:=Z
 refine wpAny_bind (m:=field (.ref z) 2) (wpAny_field hz rfl (x:= .bool false) rfl ?_)
 refine wpAny_bind (m:=field (.ref z) 3) (wpAny_field hz rfl (x:= .ref TI) rfl (wpAny_bind (wpAny_seqItems hI rfl ?_)))
 refine wpAny_bind (m:=Builtin.SmallTypes.ownedTupleIsFree (.ref z)) ?_
 refine wpAny_bind (wpAny_field hz rfl (x:= .none) rfl (wpAny_pure ?_))
 refine wpAny_bind (m:=rule _) (wpAny_rule (wpAny_bind (wpAny_field hz rfl (x:= .ref TO) rfl (wpAny_bind (wpAny_setField_rec hz (by simp) fun h₁ hz₁ sb₁=> ?_)))))
 replace hz₁:IsZip h₁ z TI TO .ellipsis:=hz₁
 refine wpAny_bind ?_
 simp only[List.zipIdx_cons,List.zipIdx_nil,List.forIn_cons,List.forIn_nil]
 refine wpAny_bind (wpAny_bind (wpAny_onRaise (wpAny_bind (m:=Builtin.SmallTypes.nextOf _) (D1.item k {s with heap:=h₁} _ _ k1 (cV D1 s1 (fun o e=>sb₁.extBut _ o D.i1z e) fun o e=>sb₁.extBut _ o D.l1z e) fun x h₂ t₂ px j1 sb₂=>wpAny_pure ?_))))
 replace sb₂:Heap.SameBut i1 h₁ h₂:=sb₂
 have hO₂:IsPair h₂ TO a0 b0:=sb₂.extBut _ _ D.TOi1 (sb₁.extBut _ _ D.TOz hO)
 refine wpAny_bind (wpAny_seqItems hO₂ rfl (wpAny_bind (wpAny_updateSeq_pair hO₂ fun h₃ hO₃ sb₃=> ?_)))
 replace hO₃:IsPair h₃ TO x b0:=hO₃
 replace sb₃:Heap.SameBut TO h₂ h₃:=sb₃
 have u₃:∀c o,c≠z→c≠TO→c≠i1→s.heap.get? c=some o→h₃.get? c=some o:=fun c o c1 c2 c3 e=>sb₃.extBut _ o c2 (sb₂.extBut _ o c3 (sb₁.extBut _ o c1 e))
 refine wpAny_bind (wpAny_letGo (wpAny_pure (wpAny_bind (wpAny_bind (wpAny_onRaise (wpAny_bind (m:=Builtin.SmallTypes.nextOf _) (D2.item k {s with heap:=h₃,toks:=t₂} _ _ k2 (cV D2 s2 (fun o e=>u₃ _ o D.i2z D.TOi2.symm D.i12.symm e) fun o e=>u₃ _ o D.l2z D.l2TO D.l2i1 e) fun y h₄ t₄ py j2 sb₄=>wpAny_pure ?_)))))))
 replace sb₄:Heap.SameBut i2 h₃ h₄:=sb₄
 have hO₄:IsPair h₄ TO x b0:=sb₄.extBut _ _ D.TOi2 hO₃
 refine wpAny_bind (wpAny_seqItems hO₄ rfl (wpAny_bind (wpAny_updateSeq_pair hO₄ fun h₅ hO₅ sb₅=> ?_)))
 replace hO₅:IsPair h₅ TO x y:=hO₅
 replace sb₅:Heap.SameBut TO h₄ h₅:=sb₅
 refine wpAny_bind (wpAny_letGo (wpAny_pure (wpAny_pure (wpAny_bind (wpAny_seqItems hO₅ rfl (wpAny_bind (wpAny_newTuple ?_)))))))
 have sz:h₅.objs.size=s.heap.objs.size:=by rw[sb₅.1,sb₄.1,sb₃.1,sb₂.1,sb₁.1]
 have hz₅:IsZip h₅ z TI TO .ellipsis:=sb₅.extBut _ _ D.TOz.symm (sb₄.extBut _ _ D.i2z.symm (sb₃.extBut _ _ D.TOz.symm (sb₂.extBut _ _ D.i1z.symm hz₁)))
 refine wpAny_bind (m:=Builtin.SmallTypes.ownedTupleHandOut _ _) ?_
 have hz₆:IsZip (h₅.push {cls:= .type "tuple",data:= .seq #[x,y]}) z TI TO .ellipsis:=Heap.get?_push_of_some _ hz₅
 refine wpAny_bind (wpAny_setField_rec hz₆ (by simp) fun h₇ hz₇ sb₇=> ?_)
 replace hz₇:IsZip h₇ z TI TO (rawInt h₅.objs.size):=hz₇
 refine wpAny_setField_rec hz₇ (by simp) fun h₈ hz₈ sb₈=> ?_
 have up:∀c o,c≠z→h₅.get? c=some o→h₈.get? c=some o:=fun c o n e=>sb₈.extBut _ _ n (sb₇.extBut _ _ n (Heap.get?_push_of_some _ e))
 have u5:∀c o,c≠TO→c≠i2→h₃.get? c=some o→h₅.get? c=some o:=fun c o c1 c2 e=>sb₅.extBut _ o c1 (sb₄.extBut _ o c2 e)
 have az:h₅.objs.size≠z:=fun e=>Nat.lt_irrefl _ (e▸Heap.lt_size hz₅:h₅.objs.size<h₅.objs.size)
 exact wpAny_pure (q x y h₈ t₄ h₅.objs.size px py ⟨hz₈,up _ _ D.TIz (u5 _ _ D.TITO D.TIi2 (u₃ _ _ D.TIz D.TITO D.TIi1 hI)),⟨x,y,up _ _ D.TOz hO₅⟩⟩
  (cV D1 j1 (fun o e=>up _ o D.i1z (u5 _ _ D.TOi1.symm D.i12 (sb₃.extBut _ o D.TOi1.symm e))) fun o e=>up _ o D.l1z (u5 _ _ D.l1TO D.l1i2 (sb₃.extBut _ o D.l1TO e)))
  (cV D2 j2 (fun o e=>up _ o D.i2z (sb₅.extBut _ _ D.TOi2.symm e)) fun o e=>up _ o D.l2z (sb₅.extBut _ _ D.l2TO e)) (leq sz.symm) (sb₈.extBut _ _ az (sb₇.extBut _ _ az (Heap.get?_push_size _ rfl)))
  fun c o c1 c2 c3 c4 e=>up c o c1 (u5 c o c2 c4 (u₃ c o c1 c2 c3 e)))
theorem xS{Q:Fin→Shared→Prop}(kk:k=n1∨(k<n1∧k=n2))
  (q:∀h' tk e,(∃o,h'.get? e=some o∧o.cls = .type "StopIteration")→tz z TO i1 i2 s.heap h'→E (.ref e) {s with heap:=h',toks:=tk}):
  wpAny (model pw w) A (Builtin.«zip.__next__» ⟨[.ref z],[]⟩) Q E s:=by
 obtain⟨hz,hI,⟨a0,b0,hO⟩⟩:=Z
 refine wpAny_bind (m:=field (.ref z) 2) (wpAny_field hz rfl (x:= .bool false) rfl ?_)
 refine wpAny_bind (m:=field (.ref z) 3) (wpAny_field hz rfl (x:= .ref TI) rfl (wpAny_bind (wpAny_seqItems hI rfl ?_)))
 refine wpAny_bind (m:=Builtin.SmallTypes.ownedTupleIsFree (.ref z)) ?_
 refine wpAny_bind (wpAny_field hz rfl (x:= .none) rfl (wpAny_pure ?_))
 refine wpAny_bind (m:=rule _) (wpAny_rule (wpAny_bind (wpAny_field hz rfl (x:= .ref TO) rfl (wpAny_bind (wpAny_setField_rec hz (by simp) fun h₁ hz₁ sb₁=> ?_)))))
 replace hz₁:IsZip h₁ z TI TO .ellipsis:=hz₁
 refine wpAny_bind ?_
 simp only[List.zipIdx_cons,List.zipIdx_nil,List.forIn_cons,List.forIn_nil]
 have fin:∀ {h₂:Heap} {e:Addr} {tk:Tok},IsZip h₂ z TI TO .ellipsis→(∃o,h₂.get? e=some o∧o.cls = .type "StopIteration")→tz z TO i1 i2 s.heap h₂→wpAny (model pw w) A (setField (.ref z) 0 .none) (fun _ s'=>E (.ref e) s') E {s with heap:=h₂,toks:=tk}:=fun {h₂ e _} hz₂ he o=>
  have ez:e≠z:=fun x=>he.elim fun _ r=>by cases (x▸r.1).symm.trans hz₂;exact absurd (Value.type.inj r.2) (by decide)
  wpAny_setField_rec hz₂ (by simp) fun h₃ _ sb₃=>q h₃ _ e (he.imp fun _ r=>⟨sb₃.extBut _ _ ez r.1,r.2⟩) fun c o' c1 c2 c3 c4 x=>sb₃.extBut _ _ c1 (o c o' c1 c2 c3 c4 x)
 have st1:=cV D1 s1 (fun o e=>sb₁.extBut _ o D.i1z e) (fun o e=>sb₁.extBut _ o D.l1z e)
 rcases kk with rfl|⟨hk,rfl⟩
 ·refine wpAny_bind (wpAny_bind (wpAny_onRaise (wpAny_bind (m:=Builtin.SmallTypes.nextOf _) (D1.done {s with heap:=h₁} _ _ st1 fun h₂ e eb he=>fin (eb _ _ D.i1z.symm hz₁) he fun c o c1 _ c3 _ x=>eb _ _ c3 (sb₁.extBut _ _ c1 x)))))
 ·refine wpAny_bind (wpAny_bind (wpAny_onRaise (wpAny_bind (m:=Builtin.SmallTypes.nextOf _) (D1.item k {s with heap:=h₁} _ _ hk st1 fun x h₂ t₂ px j1 sb₂=>wpAny_pure ?_))))
  replace sb₂:Heap.SameBut i1 h₁ h₂:=sb₂
  have hO₂:IsPair h₂ TO a0 b0:=sb₂.extBut _ _ D.TOi1 (sb₁.extBut _ _ D.TOz hO)
  refine wpAny_bind (wpAny_seqItems hO₂ rfl (wpAny_bind (wpAny_updateSeq_pair hO₂ fun h₃ _ sb₃=> ?_)))
  replace sb₃:Heap.SameBut TO h₂ h₃:=sb₃
  have u₃:∀c o,c≠z→c≠TO→c≠i1→s.heap.get? c=some o→h₃.get? c=some o:=fun c o c1 c2 c3 e=>sb₃.extBut _ o c2 (sb₂.extBut _ o c3 (sb₁.extBut _ o c1 e))
  exact wpAny_bind (wpAny_letGo (wpAny_pure (wpAny_bind (wpAny_bind (wpAny_onRaise (wpAny_bind (m:=Builtin.SmallTypes.nextOf _) (D2.done {s with heap:=h₃,toks:=t₂} _ _ (cV D2 s2 (fun o e=>u₃ _ o D.i2z D.TOi2.symm D.i12.symm e) fun o e=>u₃ _ o D.l2z D.l2TO D.l2i1 e)
   fun h₄ e eb he=>fin (eb _ _ D.i2z.symm (sb₃.extBut _ _ D.TOz.symm (sb₂.extBut _ _ D.i1z.symm hz₁))) he fun c o c1 c2 c3 c4 x=>eb _ _ c4 (u₃ c o c1 c2 c3 x))))))))
end
variable{Γ:Cf}{d:Nat}
structure WkT(w:World)(A:Around)(I:Addr)(D F:Addr→Prop)(n:Nat)(P:Nat→Array Value→Prop)(St:Nat→Heap→Prop):Prop where
 frame:∀i h h',St i h→(∀b,D b∨F b→∀o,h.get? b=some o→h'.get? b=some o)→St i h'
 item:∀(es:List Expr) (c:Nat) (p:Pos) i (s:Shared) (Q:Value→Shared→Prop) (QN:Shared→Prop) (E:Value→Shared→Prop),i<n→St i s.heap→
  (∀T xs h' tk,P i xs→s.heap.objs.size≤T→IsT h' T xs 0→St (i+1) h'→(∀b o,¬D b→s.heap.get? b=some o→h'.get? b=some o)→Q (.ref T) {s with heap:=h',toks:=tk})→
  wpAny (model pw w) A (pyNext (.ref I)) (fun r s₁=>match r with|none=>QN s₁|some v=>wpAny (model pw w) A (letOwnedTupleGo (.Tuple es c p) (.ref I) v) (fun _ s₂=>Q v s₂) E s₁) E s
 done:∀(s:Shared) (Q:Option Value→Shared→Prop) (E:Value→Shared→Prop),St n s.heap→(∀h' tk,(∀b o,¬D b→s.heap.get? b=some o→h'.get? b=some o)→Q none {s with heap:=h',toks:=tk})→wpAny (model pw w) A (pyNext (.ref I)) Q E s
 self:∀i (s:Shared) (Q:Value→Shared→Prop) (E:Value→Shared→Prop),St i s.heap→Q (.ref I) s→wpAny (model pw w) A (pyIter (.ref I)) Q E s
section
variable{w:World}{A:Around}{z TI TO i1 i2 l1 l2 e it l:Addr}{n n1 n2:Nat}{P P1 P2:Nat→Value→Prop}{St St1 St2:Nat→Heap→Prop}
theorem kN{h:Heap}{c a:Addr}{o:Obj}(l:h.objs.size≤a)(e:h.get? c=some o):a≠c:=fun q=>Nat.lt_irrefl _ (Nat.lt_of_lt_of_le (q▸Heap.lt_size e) l)
theorem v4(D:Draws pw w A.in1 it [it,l] n P St)(h1:e≠it)(h2:e≠l):WkT w A e (fun c=>c=e∨c=it) (· = l) n (fun i xs=>∃t x,P i x∧xs = #[.int i t,x]) (fun i h=>(∃old,IsEnum h e it i old)∧St i h) where
 frame i h h' st hk:=⟨st.1.imp fun _ q=>hk e (.inl (.inl rfl)) _ q,cV D st.2 (hk it (.inl (.inr rfl))) (hk l (.inr rfl))⟩
 item es c p i s Q QN E hi st hQ:=st.1.elim fun old he=>wpAny_pyNext_enum_itemD D he st.2 hi h1 (fun q=>(List.mem_cons.mp q).elim h1 fun q=>h2 (List.mem_singleton.mp q)) fun x h' tk px ho st' hT _ up=>wpAny_letOwnedTupleGo_enum (s:={s with heap:=h',toks:=tk+1}) ho fun h₂ he₂ sb=>
  hQ s.heap.objs.size #[.int i tk,x] h₂ (tk+1) ⟨tk,x,px,rfl⟩ (Nat.le_refl _) ((sb.2 _ (kN (Nat.le_refl _) he)).trans hT) ⟨⟨x,he₂⟩,cV D st' (fun o q=>(sb.2 _ h1.symm).trans q) fun o q=>(sb.2 _ h2.symm).trans q⟩
   fun b o n q=>(sb.2 b fun q=>n (.inl q)).trans (up b o (fun q=>n (.inl q)) (fun q=>n (.inr q)) q)
 done s Q E st hQ:=st.1.elim fun _ he=>wpAny_pyNext_enum_endD D he st.2 fun h' eb=>hQ h' s.toks fun b o n q=>eb b o (fun q=>n (.inr q)) q
 self i s Q E st hQ:=st.1.elim fun _ he=>wpAny_pyIter_enum he hQ
theorem yE(D:ZipApart z TI TO i1 i2 l1 l2)(D1:Draws pw w A.in1 i1 [i1,l1] n1 P1 St1)(D2:Draws pw w A.in1 i2 [i2,l2] n2 P2 St2):
  WkT w A z (fun c=>c=z∨c=TO∨c=i1∨c=i2) (fun c=>c=TI∨c=l1∨c=l2) (min n1 n2) (fun i xs=>∃x y,P1 i x∧P2 i y∧xs = #[x,y]) (fun i h=>t8 h z TI TO i1 i2 .none∧St1 i h∧St2 i h) where
 frame i h h' st hk:=⟨⟨hk z (.inl (.inl rfl)) _ st.1.hz,hk TI (.inr (.inl rfl)) _ st.1.hI,st.1.hO.imp fun _ z=>z.imp fun _ e=>hk TO (.inl (.inr (.inl rfl))) _ e⟩,
  cV D1 st.2.1 (hk i1 (.inl (.inr (.inr (.inl rfl))))) (hk l1 (.inr (.inr (.inl rfl)))),cV D2 st.2.2 (hk i2 (.inl (.inr (.inr (.inr rfl))))) (hk l2 (.inr (.inr (.inr rfl))))⟩
 item es c p i s Q QN E hi st hQ:=by
  have hT:s.TypeIs (.ref z) "zip":=⟨_,st.1.hz,rfl⟩
  exact wpAny_bind (wpAny_attempt (wpAny_callSpecial?_slot (name:=Str.ofString "__next__") hT F.slot_zip_next
   (wpAny_call_entry F.slot_zip_next hT F.entry_zip_next (yQ D D1 D2 st.1 st.2.1 st.2.2 (Nat.lt_of_lt_of_le hi (Nat.min_le_left ..)) (Nat.lt_of_lt_of_le hi (Nat.min_le_right ..)) fun x y h' tk a px py Z j1 j2 ha hT up=>⟨_,rfl,wpAny_pure
    (wpAny_letOwnedTupleGo_zip (s:={s with heap:=h',toks:=tk}) Z.hz fun h₂ hz₂ sb=>hQ a #[x,y] h₂ tk ⟨x,y,px,py,rfl⟩ ha ((sb.2 _ (kN ha st.1.hz)).trans hT)
     ⟨⟨hz₂,sb.extBut _ _ D.TIz Z.hI,Z.hO.imp fun _ z=>z.imp fun _ e=>sb.extBut _ _ D.TOz e⟩,cV D1 j1 (fun o e=>sb.extBut _ o D.i1z e) (fun o e=>sb.extBut _ o D.l1z e),cV D2 j2 (fun o e=>sb.extBut _ o D.i2z e) (fun o e=>sb.extBut _ o D.l2z e)⟩
     fun c o n q=>sb.extBut _ _ (fun q=>n (.inl q)) (up c o (fun q=>n (.inl q)) (fun q=>n (.inr (.inl q))) (fun q=>n (.inr (.inr (.inl q)))) (fun q=>n (.inr (.inr (.inr q)))) q))⟩) (F.args_zip_next_1 _))))
 done s Q E st hQ:=by
  have hT:s.TypeIs (.ref z) "zip":=⟨_,st.1.hz,rfl⟩
  have kk:min n1 n2=n1∨(min n1 n2<n1∧min n1 n2=n2):=(Nat.lt_or_ge n2 n1).elim (fun h=> .inr ⟨Nat.lt_of_le_of_lt (Nat.min_le_right ..) h,Nat.min_eq_right (Nat.le_of_lt h)⟩) fun h=> .inl (Nat.min_eq_left h)
  exact wpAny_bind (wpAny_attempt (wpAny_callSpecial?_slot (name:=Str.ofString "__next__") hT F.slot_zip_next
   (wpAny_call_entry F.slot_zip_next hT F.entry_zip_next (xS D D1 D2 st.1 st.2.1 st.2.2 kk fun h' tk e he up=>he.elim fun o r=>wpAny_bind (wpAny_isInstance (T:="StopIteration") (b:=true) ⟨o,r⟩ isSubtype_stop (wpAny_pure
    (hQ h' tk fun c o n q=>up c o (fun q=>n (.inl q)) (fun q=>n (.inr (.inl q))) (fun q=>n (.inr (.inr (.inl q)))) (fun q=>n (.inr (.inr (.inr q)))) q)))) (F.args_zip_next_1 _))))
 self i s Q E st hQ:=wpAny_pyIter_zip st.1.hz hQ
end
def ItObj(h:Heap)(a:Addr):Prop:=∃o,h.get? a=some o∧((∃vs,o.data = .fields vs)∨∃vs n,o.cls = .type "tuple"∧o.data = .seq vs n)
noncomputable def ownNames:List String:=["enumerate","zip","dict_itemiterator","dict_reverseitemiterator","odict_iterator","itertools.zip_longest","itertools.pairwise"]
def gN(h:Heap)(I:Addr):Prop:=∃o nm,h.get? I=some o∧o.cls = .type nm∧ownNames.contains nm=false
theorem w9{w:World}{A:Around}{E:Value→Shared→Prop}{s:Shared}{t:Expr}{r:Addr}{v:Value}{Q:Unit→Shared→Prop}(p:gN s.heap r)(q:Q () s):wpAny (model pw w) A (letOwnedTupleGo t (.ref r) v) Q E s:=by
 have main:wpAny (model pw w) A (do
   let (.ref r,.ref a):=(Value.ref r,v)|return
   let o ←load r
   match o.cls,o.data with
   | .type n,.fields vs=>
    if ["enumerate","zip","dict_itemiterator","dict_reverseitemiterator","odict_iterator","itertools.zip_longest","itertools.pairwise"].contains n&&vs[0]? == some (rawInt a) then
     rule "for.unpacks-the-owned-tuple"
     updateField r 0 .none
   |_,_=>pure ()) Q E s:=by
  induction v with
  |ref a=>
   obtain⟨o,nm,e,c,nn⟩:=p
   refine wpAny_bind (wpAny_load e ?_)
   rw[c]
   cases o.data with
   |fields vs=>
    show wpAny _ _ (if (ownNames.contains nm&&_)=true then _ else _) Q E s
    rw[nn,Bool.false_and,if_neg Bool.false_ne_true]
    exact wpAny_pure q
   |_=>exact wpAny_pure q
  |_=>exact wpAny_pure q
 cases t<;>first|exact wpAny_pure q|exact main
section
variable{u u':Wl Γ}{I:Addr}{D Y:Addr→Prop}{k n:Nat}{items:List V}{src:Option (Nat×Nat)}{A:Around}{E:Value→Shared→Prop}{fp wr:List Addr}{P:Nat→Value→Prop}{St:Nat→Heap→Prop}{h':Heap}{t:Tok}{ow:Bool}
open Classical in
noncomputable def fG(G:Gh)(D:Addr→Prop)(r:Role):Gh:=fun a=>if D a then r else G a
theorem markG_in{G:Gh}{r:Role}{a:Addr}(h:D a):fG G D r a=r:=if_pos h
theorem markG_out{G:Gh}{r:Role}{a:Addr}(h:¬D a):fG G D r a=G a:=if_neg h
noncomputable def Wl.step(u:Wl Γ)(D:Addr→Prop)(h':Heap)(t:Tok)(own:∀a,D a→u.G a = .own)(up:∀b o,¬D b→u.h.get? b=some o→h'.get? b=some o)(has:∀a,D a→∃o,h'.get? a=some o):Wl Γ:=
 u.priv (D:=D) h' t u.G ⟨fun b q=> .inl (own b q),fun b n=>⟨rfl,fun o=>up b o n⟩,fun b q=> .inr ⟨own b q,has b q⟩⟩
noncomputable def Wl.stop(u:Wl Γ)(D:Addr→Prop)(h':Heap)(t:Tok)(own:∀a,D a→u.G a = .own)(up:∀b o,¬D b→u.h.get? b=some o→h'.get? b=some o):Wl Γ:=
 u.priv (D:=D) h' t (fG u.G D .frz) ⟨fun b q=> .inl (own b q),fun b n=>⟨markG_out n,fun o=>up b o n⟩,fun b q=> .inl (markG_in q)⟩
theorem Priv.news{h:Heap}{G:Gh}(kp:Grows h h')(n:∀a,D a→h.get? a=none)(has:∀a,D a→∃o,h'.get? a=some o):Priv D h h' G (fG G D .own):=⟨fun b q=> .inr (n b q),fun b q=>⟨markG_out q,kp b⟩,fun b q=> .inr ⟨markG_in q,has b q⟩⟩
noncomputable def Wl.news(u:Wl Γ)(D:Addr→Prop)(h':Heap)(t:Tok)(kp:Grows u.h h')(n:∀a,D a→u.h.get? a=none)(has:∀a,D a→∃o,h'.get? a=some o):Wl Γ:=u.priv h' t _ (.news kp n has)
theorem Wl.news_le{kp:Grows u.h h'}{n:∀a,D a→u.h.get? a=none}{has:∀a,D a→∃o,h'.get? a=some o}:Lw u (u.news D h' t kp n has):=(Priv.news kp n has).only n
def Trn(u:Wl Γ)(A:Around)(I:Addr)(tg:Expr)(D:Addr→Prop)(nx:Option V)(K:Wl Γ→Prop):Prop:=∀(E:Value→Shared→Prop) (QN:Shared→Prop) (QS:Value→Shared→Prop),(nx=none→∀u',LwX D u u'→u'.st=u.st→QN u'.s)→
 (∀v x u',nx=some v→LwX D u u'→u'.st=u.st→Rl u' v x→K u'→QS x u'.s)→wA u A (pyNext (.ref I)) (fun r s₁=>match r with|none=>QN s₁|some v=>wpAny (model pw Γ.w) A (letOwnedTupleGo tg (.ref I) v) (fun _ s₂=>QS v s₂) E s₁) E
inductive It(A:Around)(u:Wl Γ)(I:Addr):(Addr→Prop)→Bool→Nat→List V→Option (Nat×Nat)→Prop
 |walk {fp wr:List Addr} {n k:Nat} {items:List V} {P:Nat→Value→Prop} {St:Nat→Heap→Prop} (W:Walks pw Γ.w A I fp wr n P St) (st:St k u.h) (hk:k≤n) (len:items.length=n) (own:∀a,a∈wr→u.G a = .own) (fz:∀a,a∈fp→a∉wr→u.G a = .frz∧∃o,u.h.get? a=some o)
   (ob:∀i h,St i h→(∀a,a∈wr→ItObj h a)∧gN h I) (rel:∀i x,i<n→P i x→∃v,items[i]? = some v∧Rl u v x):It A u I (· ∈wr) false k items none
 |cell {s:Addr} {k r j:Nat} {items:List V} (l:u.h.IsListIter I s k) (g:u.G I = .own) (gs:u.G s = .obj r j) (hk:k≤items.length):It A u I (· ∈[I]) false k items (some (r,j))
 |tup {D F:Addr→Prop} {n k:Nat} {items:List V} {P:Nat→Array Value→Prop} {St:Nat→Heap→Prop} (W:WkT Γ.w A I D F n P St) (st:St k u.h) (hk:k≤n) (len:items.length=n) (own:∀a,D a→u.G a = .own)
   (fz:∀a,F a→u.G a = .frz∧∃o,u.h.get? a=some o) (ob:∀i h,St i h→∀a,D a→ItObj h a) (rel:∀i xs,P i xs→∃vs,items[i]? = some (.tup vs)∧Rls u vs xs.toList∧xs.size≤aH):It A u I D true k items none
theorem It.own(T:It A u I D ow k items src):∀a,D a→u.G a = .own:=by
 induction T with
 |walk _ _ _ _ own=>exact own
 |cell _ g=>exact fun a e=>List.mem_singleton.mp e▸g
 |tup _ _ _ _ own=>exact own
theorem gS{h:Heap}{s:Addr}(l:h.IsListIter I s k):ItObj h I:=l.imp fun _ z=>⟨z.1,.inl ⟨_,z.2.2⟩⟩
theorem It.odd(T:It A u I D ow k items src):∀a,D a→ItObj u.h a:=by
 induction T with
 |walk _ st _ _ _ _ ob=>exact(ob _ _ st).1
 |cell l=>exact fun a e=>List.mem_singleton.mp e▸gS l
 |tup _ st _ _ _ _ ob=>exact ob _ _ st
theorem It.self{Q:Value→Shared→Prop}(T:It A u I D ow k items src)(q:Q (.ref I) u.s):wA u A (pyIter (.ref I)) Q E:=by
 induction T with
 |walk W st=>exact W.self _ u.s _ _ st q
 |cell l=>exact wpAny_pyIter_listiter l q
 |tup W st=>exact W.self _ u.s _ _ st q
theorem It.keep(T:It A u I D ow k items src)(l:LwX Y u u')(nY:∀a,D a→¬Y a):It A u' I D ow k items src:=by
 have odd:=T.odd
 have og:=T.own
 have ow':∀a,D a→u'.G a = .own∧∀o,u.h.get? a=some o→u'.h.get? a=some o:=fun a e=>⟨(odd a e).elim fun _ z=>(Kp.own l z.1 (og a e) (nY a e)).1,fun o z=>(Kp.own l z (og a e) (nY a e)).2⟩
 induction T with
 | @walk fp wr _ _ _ _ _ W st hk len own fz ob rel=>
  have fr:∀b,b∈fp→∀o,u.h.get? b=some o→u'.h.get? b=some o:=fun b hb=>(Classical.em (b∈wr)).elim (fun e=>(ow' b e).2) fun e o z=>(Kp.frz l z (fz b hb e).1).2
  exact .walk W (W.frame _ _ _ st fr) hk len (fun a e=>(ow' a e).1) (fun a h1 h2=>(fz a h1 h2).2.elim fun _ z=>⟨(Kp.frz l z (fz a h1 h2).1).1,_,fr a h1 _ z⟩) ob fun i x hi p=>(rel i x hi p).imp fun _ z=>⟨z.1,z.2.up l⟩
 |cell i g gs hk=>exact .cell (i.imp fun _ z=>⟨(ow' I List.mem_cons_self).2 _ z.1,z.2⟩) (ow' I List.mem_cons_self).1 (l.obj gs) hk
 | @tup D F _ _ _ _ _ W st hk len own fz ob rel=>
  have fr:∀b,F b→∀o,u.h.get? b=some o→u'.h.get? b=some o:=fun b hb o z=>(Kp.frz l z (fz b hb).1).2
  exact .tup W (W.frame _ _ _ st fun b hb=>hb.elim (fun e=>(ow' b e).2) (fr b)) hk len (fun a e=>(ow' a e).1) (fun a h1=>(fz a h1).2.elim fun _ z=>⟨(Kp.frz l z (fz a h1).1).1,_,fr a h1 _ z⟩) ob fun i x p=>(rel i x p).imp fun _ z=>⟨z.1,z.2.1.up l,z.2.2⟩
theorem ItObj.has{h:Heap}{a:Addr}(x:ItObj h a):∃o,h.get? a=some o:=x.imp fun _ z=>z.1
theorem tT{l:List V}(e:l.length=n)(h:k=n):l[k]? = none:=List.getElem?_eq_none (leq (e.trans h.symm))
theorem mX{tg:Expr}{K:Wl Γ→Prop}(W:Walks pw Γ.w A I fp wr n P St)(st:St k u.h)(hk:k≤n)(len:items.length=n)(own:∀a,a∈wr→u.G a = .own)(ob:∀i h,St i h→(∀a,a∈wr→ItObj h a)∧gN h I)
  (rel:∀i x,i<n→P i x→∃v,items[i]? = some v∧Rl u v x) (kk:k<n→∀u',LwX (· ∈wr) u u'→u'.G=u.G→St (k+1) u'.h→K u'):Trn u A I tg (· ∈wr) items[k]? K:=fun _ _ _ qn qs=>
 (Nat.lt_or_eq_of_le hk).elim
  (fun h=>W.item k u.s _ _ h st fun x h' tk px st' up=>have o:=ob _ _ st';(rel k x h px).elim fun v z=>w9 (s:={u.s with heap:=h',toks:=tk}) o.2
   (qs v x (u.step (· ∈wr) h' tk own up fun a e=>(o.1 a e).has) z.1 Wl.priv_le rfl (z.2.up Wl.priv_le) (kk h _ Wl.priv_le rfl st')))
  (fun e=>W.done u.s _ _ (e▸st) fun h' tk up=>qn (tT len e) (u.stop (· ∈wr) h' tk own up) Wl.priv_le rfl)
theorem mO{s:Addr}{arr:Array Value}(h:Heap)(st:h.IsListIter I s k∧h.IsList s arr):(∀a,a∈[I]→ItObj h a)∧gN h I:=⟨fun a e=>List.mem_singleton.mp e▸gS st.1,st.1.elim fun o z=>⟨o,_,z.1,z.2.1,by decide⟩⟩
theorem gQ{xs:List V}{arr:Array Value}{i:Nat}{x:Value}(rr:Rls u xs arr.toList)(e:arr[i]? = some x):∃v,xs[i]? = some v∧Rl u v x:=
 have hi:i<xs.length:=rr.size.symm▸(Array.getElem?_eq_some_iff.mp e).1
 (rr.get (List.getElem?_eq_getElem hi)).elim fun w z=>⟨_,List.getElem?_eq_getElem hi,sji ((Array.getElem?_toList.symm.trans z.1).symm.trans e)▸z.2⟩
theorem It.turn{tg:Expr}(hh:A.handled=none)(T:It A u I D ow k items src)(sk:cR items src u.st)(ht:ow=true→cj tg=true):Trn u A I tg D items[k]? (fun u'=>It A u' I D ow (k+1) items src):=by
 have keep:=fun {u'} {Y} (l:LwX Y u u') nY=>T.keep (u':=u') l nY
 cases T with
 | @walk fp wr _ _ _ _ _ W st hk len own fz ob rel=>
  refine mX W st hk len own ob rel fun h u' l eG st'=> .walk W st' h len (fun a e=>eG▸own a e) (fun a h1 h2=>⟨eG▸(fz a h1 h2).1,(fz a h1 h2).2.imp fun _ z=>(Kp.frz l z (fz a h1 h2).1).2⟩) ob fun i x hi p=>(rel i x hi p).imp fun _ z=>⟨z.1,z.2.up l⟩
 | @cell s k r j items l g gs hk=>
  refine ListAt.elim (u.objAt gs sk) fun arr n hl b rr=> ?_
  have ne:s≠I:=fun e=>Role.noConfusion ((e▸g:u.G s = .own).symm.trans gs)
  refine mX (Walks.list (prog:=pw) (w:=Γ.w) hh I s ne arr) ⟨l,_,hl,rfl,n,rfl⟩ (rr.size▸hk) rr.size (fun a e=>List.mem_singleton.mp e▸g) (fun i h=>mO h)
   (fun i x _ e=>gQ rr e) fun h u' l' eG st'=> .cell st'.1 (eG▸g) (eG▸gs) (rr.size.symm▸h)
 | @tup D F n _ _ _ _ W st hk len own fz ob rel=>
  intro E QN QS qn qs
  have htg:=ht rfl
  cases tg with
  |Tuple elts c p=>
   exact(Nat.lt_or_eq_of_le hk).elim (fun h=>W.item elts c p k u.s _ _ _ h st fun T xs h' tk px le hT st' up=>(rel k xs px).elim fun vs z=>
     have l:LwX D u (u.step D h' tk own up fun a e=>(ob _ _ st' a e).has):=Wl.priv_le
     qs _ (.ref T) _ z.1 l rfl (.tup hT (bO u.ok.live (bq _ le)) z.2.2 (z.2.1.up l))
      (.tup W st' h len own (fun a h1=>⟨(fz a h1).1,(fz a h1).2.imp fun _ z=>(Kp.frz l z (fz a h1).1).2⟩) ob fun i x p=>(rel i x p).imp fun _ z=>⟨z.1,z.2.1.up l,z.2.2⟩))
    (fun e=>W.done u.s _ _ (e▸st) fun h' tk up=>qn (tT len e) (u.stop D h' tk own up) Wl.priv_le rfl)
  |_=>exact ffS htg
end
variable{Γ:Cf}{d:Nat}
section
variable{u u':Wl Γ}{f:Fm d}{X Y:Addr→Prop}{ρ:Rho}{k:KL}{Q:Value→Shared→Prop}{E:Value→Shared→Prop}{v:V}{x:Value}{sc:Sc}{t:Tok}{R:Rec}{A:Around}{P:Prop}{as:List Expr}{w:World}{e:Expr}
theorem bv{pos:Pos}{env:Env}:∀ {es:List Expr},aF es=true→(backTo pos (starEach es env)).any (·.1)=false
 |[],_=>rfl
 |_::r,h=>(bN (ay h).1 r env).symm▸(bv (ay h).2)
theorem sem_args(IH:bc Γ d R.e){g:Value}{pos:Pos}{Q:Args→Shared→Prop}(ok:aF as=true)(h:dX R f.cx as ρ u.st sc k)(F:Fr f X u ρ)(q:CL u as.length k fun us s=>Q ⟨us,[]⟩ s):wA u f.A (evalArgs g true (backTo pos (starEach as f.env)) []) Q E:=by
 induction as with
 |nil=>exact evalArgs_nil3 (q [] u [] sc .rfl .nil rfl h)
 |cons e r=>
  have main:=sem_list (pos:=pos) (E:=E) IH ok h F q
  rw[bN (ay ok).1] at main ⊢
  exact evalArgs_plain main
theorem yG:∀ {b:Nat},Nat.blt b 13=true→(∃i,biV b = .builtin i)∨∃T,biV b = .type T
 |0,_|1,_|5,_|9,_=> .inl ⟨_,rfl⟩
 |2,_|3,_|4,_|6,_|7,_|8,_|10,_|11,_|12,_=> .inr ⟨_,rfl⟩
 |_+13,h=>Bool.noConfusion h
theorem cF{s:Shared}{b:Nat}{first:List Value}{args:List (Bool×Sem Value)}{pos:Pos}(hb:Nat.blt b 13=true)(hp:args.any (·.1)=false)
  (q:wpAny (model pw w) A (evalArgs (biV b) true args []) (fun a s₁=>wpAny (model pw w) A (call (biV b) (first++a.pos) a.kw) Q E s₁) E s):wpAny (model pw w) A (callWith pos (biV b) first args []) Q E s:=by
 rcases yG hb with ⟨i,e⟩|⟨T,e⟩
 ·rw[e] at q ⊢;exact callWith_builtin hp q
 ·rw[e] at q ⊢;exact PyProof.Rows.callWith_type hp q
theorem oA(BG:cc Γ)(IH:bc Γ d R.e){b:Nat}{g:Str}{p pos:Pos}(e:lj f.cx g ρ=some (.bi b))(hb:Nat.blt b 13=true)(ok:aF as=true)(h:dX R f.cx as ρ u.st sc k)(F:Fr f X u ρ)
  (q:CL u as.length k fun us s=>wpAny (model pw Γ.w) f.A (call (biV b) us) Q E s):wA u f.A (eval (.Call (.Name g p) as [] pos) f.env) Q E:=by
 exact wpAny_bind (lO BG e F fun w r=>r.biI▸cF hb (bv ok) (sem_args IH ok h F q)).2
theorem V.biD.of{D:Prop}{g:Nat→Prop}{v:V}(h:v.biD D g):(∃b,v = .bi b∧g b)∨D:=by
 cases v<;>first|exact .inl ⟨_,rfl,h⟩|exact .inr h
theorem itBi.of{D:Prop}{cx:Cx}{g:Nat→List Expr→Prop}(h:itBi cx e ρ D g)(q:∀x p as pos b,e = .Call (.Name x p) as [] pos→lj cx x ρ=some (.bi b)→E8 b=true→aF as=true→g b as→P)(q':D→P):P:=
 callD.of h (fun c as kws pos e1 h=>nameD.of h (fun x p e2 h=>optD.of h (fun v e3 h=>(V.biD.of h).elim (fun z=>z.elim fun b z=>gateD.of z.2 (fun ok h=>have ok:=ai ok;have o:=ai ok.1;
  q x p as pos b (List.isEmpty_iff.mp o.2▸e2▸e1) (z.1▸e3) o.1 ok.2 h) q') q') q') q') q'
def CIt(A:Around)(u:Wl Γ)(e:Expr)(k:KI)(Q:Value→Shared→Prop):Prop:=∀I (u':Wl Γ) items src D ow sc',Lw u u'→It A u' I D ow 0 items src→(∀a,D a→u.h.get? a=none)→cR items src u'.st→items.length≤aH→(∀t,jG t e=true→ow=true→cj t=true)→k items src u'.st sc'→Q (.ref I) u'.s
end
section
variable{u u':Wl Γ}{f:Fm d}{X Y:Addr→Prop}{ρ:Rho}{k:KI}{Q:Value→Shared→Prop}{E:Value→Shared→Prop}{v:V}{x:Value}{sc:Sc}{t:Tok}{R:Rec}{A:Around}{w:World}{e:Expr}{I a:Addr}{n:Nat}{items xs:List V}{h':Heap}{fp wr:List Addr}{arr:Array Value}
theorem CIt.tr(q:CIt A u e k Q)(l:Lw u u'):CIt A u' e k Q:=fun I u'' items src D ow sc l' T fr=>q I u'' items src D ow sc (l.trans l') T fun a ha=>l.none (fr a ha)
theorem It.new{P:Nat→Value→Prop}{St:Nat→Heap→Prop}(W:Walks pw Γ.w A I fp wr n P St)(kp:Grows u.h h')(st:St 0 h')(nw:∀a,a∈wr→u.h.get? a=none)(fz:∀a,a∈fp→a∉wr→u.G a = .frz∧∃o,u.h.get? a=some o)(ob:∀i h,St i h→(∀a,a∈wr→ItObj h a)∧gN h I)
  (len:items.length=n) (rel:∀i x,i<n→P i x→∃v,items[i]? = some v∧Rl u v x) (b:n≤aH) (hk:k items none u.st sc) (q:CIt A u e k Q):Q (.ref I) {u.s with heap:=h',toks:=t}:=
 have l:=Wl.news_le (t:=t) (kp:=kp) (n:=nw) (has:=fun a ha=>((ob _ _ st).1 a ha).has)
 q I (u.news (· ∈wr) h' t kp nw fun a ha=>((ob _ _ st).1 a ha).has) items none _ false sc l (.walk W st (Nat.zero_le _) len (fun a ha=>markG_in ha) (fun a h1 h2=>⟨(markG_out h2).trans (fz a h1 h2).1,(fz a h1 h2).2.imp fun _ z=>kp _ _ z⟩) ob fun i x hi p=>(rel i x hi p).imp fun _ z=>⟨z.1,z.2.up l⟩)
  nw trivial (len▸b) (fun _ _ e=>ffS e) hk
theorem It.newT{D F:Addr→Prop}{P:Nat→Array Value→Prop}{St:Nat→Heap→Prop}(W:WkT Γ.w A I D F n P St)(kp:Grows u.h h')(st:St 0 h')(nw:∀a,D a→u.h.get? a=none)(fz:∀a,F a→¬D a∧u.G a = .frz∧∃o,h'.get? a=some o)(ob:∀i h,St i h→∀a,D a→ItObj h a)
  (len:items.length=n) (rel:∀i xs,P i xs→∃vs,items[i]? = some (.tup vs)∧Rls u vs xs.toList∧xs.size≤aH) (b:n≤aH) (tg:∀t,jG t e=true→cj t=true) (hk:k items none u.st sc) (q:CIt A u e k Q):Q (.ref I) {u.s with heap:=h',toks:=t}:=
 have l:=Wl.news_le (t:=t) (kp:=kp) (n:=nw) (has:=fun a ha=>(ob _ _ st a ha).has)
 q I (u.news D h' t kp nw fun a ha=>(ob _ _ st a ha).has) items none _ true sc l (.tup W st (Nat.zero_le _) len (fun a ha=>markG_in ha) (fun a h1=>⟨(markG_out (fz a h1).1).trans (fz a h1).2.1,(fz a h1).2.2⟩) ob fun i x p=>(rel i x p).imp fun _ z=>⟨z.1,z.2.1.up l,z.2.2⟩)
  nw trivial (len▸b) (fun t h _=>tg t h) hk
theorem dA{a b:Addr}(h:a∈[b]):a=b:=List.mem_singleton.mp h
theorem pc{P:Addr→Prop}{b c:Addr}(p:P c):∀a,a∈[b,c]→a∉[b]→P a:=fun a h n=>(List.mem_cons.mp h).elim (fun e=>(n (e▸List.mem_cons_self)).elim) fun h=>dA h▸p
theorem y7{i:Nat}{s:Addr}(h:Heap)(st:h.IsTupleIter I s i∧h.IsTuple s arr):(∀a,a∈[I]→ItObj h a)∧gN h I:=⟨fun a e=>dA e▸st.1.imp fun _ z=>⟨z.1,.inl ⟨_,z.2.2⟩⟩,st.1.elim fun o z=>⟨o,_,z.1,z.2.1,by decide⟩⟩
theorem new_obj{h:Heap}{o:Obj}(nf:o.isFreed=false):(h.push o).get? h.objs.size=some o:=Heap.get?_push_size _ nf
theorem BC(hh:A.handled=none)(ea:IsL u.h a arr n)(g:u.G a = .frz)(b:arr.size≤aH)(rr:Rls u xs arr.toList)(hk:k xs none u.st sc)(q:CIt A u e k Q):wA u A (pyIter (.ref a)) Q E:=
 have ne:a≠u.h.objs.size:=fun z=>Nat.lt_irrefl _ (z▸Heap.lt_size ea:u.h.objs.size<u.h.objs.size)
 wpAny_pyIter_list (s:=u.s) ⟨_,ea,rfl,n,rfl⟩ (It.new (t:=u.t) (Walks.list hh _ a ne arr) (push_keep u.h _) ⟨⟨_,new_obj rfl,rfl,rfl⟩,_,push_keep _ _ _ _ ea,rfl,n,rfl⟩ (fun c e=>dA e▸aC _) (pc ⟨g,_,ea⟩) (fun i h=>mO h) rr.size (fun i x _ e=>gQ rr e) b hk q)
theorem EU(hh:A.handled=none)(ea:IsT u.h a arr n)(g:u.G a = .frz)(b:arr.size≤aH)(rr:Rls u xs arr.toList)(hk:k xs none u.st sc)(q:CIt A u e k Q):wA u A (pyIter (.ref a)) Q E:=
 have ne:a≠u.h.objs.size:=fun z=>Nat.lt_irrefl _ (z▸Heap.lt_size ea:u.h.objs.size<u.h.objs.size)
 wpAny_pyIter_tuple (s:=u.s) ⟨_,ea,rfl,n,rfl⟩ (It.new (t:=u.t) (Walks.tuple hh _ a ne arr) (push_keep u.h _) ⟨⟨_,new_obj rfl,rfl,rfl⟩,_,push_keep _ _ _ _ ea,rfl,n,rfl⟩ (fun c e=>dA e▸aC _) (pc ⟨g,_,ea⟩) (fun i h=>y7 h) rr.size (fun i x _ e=>gQ rr e) b hk q)
theorem AL{r i:Nat}(g:u.G a = .obj r i)(eo:(u.st.get r)[i]? = some (.list xs))(hk:k xs (some (r,i)) u.st sc)(q:CIt A u e k Q):wA u A (pyIter (.ref a)) Q E:=
 ListAt.elim (u.objAt g eo) fun arr n ea b rr=>
  have nn:=aC u.h
  wpAny_pyIter_list (s:=u.s) ⟨_,ea,rfl,n,rfl⟩ (q _ (u.own (u.h.push _) u.t (push_keep _ _) nn (new_obj rfl)) xs (some (r,i)) (· ∈[u.h.objs.size]) false sc Wl.own_le (.cell ⟨_,new_obj rfl,rfl,rfl⟩ (aW ..) ((cX _ _ fun z=>ab (z▸nn) ea).trans g) (Nat.zero_le _))
   (fun c e=>dA e▸nn) eo (rr.size▸b) (fun _ _ e=>ffS e) hk)
theorem kT(BM:bx Γ)(ea:g6 u.h a):(a==sysModules)=false:=beq_eq_false_iff_ne.mpr fun z=>by
 obtain⟨o,es,n,eo,ed,ne⟩:=BM.mods'
 cases (u.ok.base _ _ eo).symm.trans (z▸ea);cases ed
 exact ne rfl
theorem mr{h:Heap}(ea:g6 h a):h.DictAt (strKind pw w) a [] 0:=⟨_,#[],ea,⟨rfl,rfl,rfl⟩,rfl,fun _ q=>(Array.not_mem_empty _ q).elim,.nil,List.nodup_nil⟩
theorem BQ(BM:bx Γ)(hh:A.handled=none)(ea:g6 u.h a)(g:u.G a = .frz)(hk:k [] none u.st sc)(q:CIt A u e k Q):wA u A (pyIter (.ref a)) Q E:=
 have ne:a≠u.h.objs.size:=fun z=>Nat.lt_irrefl _ (z▸Heap.lt_size ea:u.h.objs.size<u.h.objs.size)
 wpAny_pyIter_dict (s:=u.s) (kT BM ea) (mr (w:=Γ.w) ea) (It.new (n:=0) (t:=u.t) (Walks.dictKeys (knd:=strKind pw Γ.w) hh _ a ne [] 0) (push_keep u.h _) ⟨⟨_,new_obj rfl,rfl,rfl⟩,mr (push_keep _ _ _ _ ea)⟩ (fun c e=>dA e▸aC _) (pc ⟨g,_,ea⟩)
  (fun i h st=>⟨fun a e=>dA e▸st.1.imp fun _ z=>⟨z.1,.inl ⟨_,z.2.2⟩⟩,st.1.elim fun o z=>⟨o,_,z.1,z.2.1,by decide⟩⟩) rfl (fun i _ hi _=>(Nat.not_lt_zero i hi).elim) (Nat.zero_le _) hk q)
theorem BU(BM:bx Γ)(hh:A.handled=none){line:Nat}(h:itV line k v u.st sc)(r:Rl u v x)(q:CIt A u e k Q):wA u A (pyIter x) Q E:=by
 cases v with
 |ref r i=>exact cellE.of h fun o sc eo h=>O.listD.of h fun xs e h=>r.refI fun a ex g=>ex▸AL g (e▸eo) h q
 |tup xs=>exact r.tupI fun a _ _ ex ea g b rr=>ex▸EU hh ea g b rr h q
 |lst xs=>exact r.lstI fun a _ _ ex ea g b rr=>ex▸BC hh ea g b rr h q
 |edict=>cases r with|edict ea g=>exact BQ BM hh ea g h q
 |_=>exact(h:False).elim
end
variable{Γ:Cf}{d:Nat}
set_option tactic.hygienic true in
theorem wi(t:Addr)(items:Array Value)(n:Nat):
  Meets (Builtin.«enumerate.__new__» ⟨[.type "enumerate",.ref t],[]⟩) (fun _ R s=>IsT s.heap t items n∧
   R (.ok (.ret (.ref (s.heap.push {cls:= .type "tuple_iterator",data:= .fields #[.ref t,.int 0 0]}).objs.size)))
    {s with heap:=(s.heap.push {cls:= .type "tuple_iterator",data:= .fields #[.ref t,.int 0 0]}).push {cls:= .type "enumerate",data:= .fields #[.none,.bool false,.ref s.heap.objs.size,rawInt 0,.none,.none]}}):=
 .of_wp fun prog w A R s h=>by
  obtain⟨hp,g,d,tk,os⟩:=s;obtain⟨hl,h⟩:=h
  have hsub:=sub_enumerate
  have hL:Heap.IsTuple (Shared.heap ⟨hp,g,d,tk,os⟩) t items:=⟨_,hl,rfl,n,rfl⟩
  wp_walk using wpAny_loadPart' hl
  refine wpAny_stack_any fun st=>wpAny_pure ?_
  split
  ·rename_i c _ _ _ _ _
   cases (c==Value.type "enumerate")<;>(wp_walk using wpAny_loadPart' hl,wpAny_pyIter_tuple hL;exact⟨_,rfl,h⟩)
  ·wp_walk using wpAny_loadPart' hl,wpAny_pyIter_tuple hL
   exact⟨_,rfl,h⟩
theorem zv(t l:Addr)(xs ys:Array Value)(n n':Nat):
  Meets (Builtin.«zip.__new__» ⟨[.type "zip",.ref t,.ref l],[]⟩) (fun _ R s=>IsT s.heap t xs n∧s.heap.IsList l ys∧
   ∀h1 h2 h3 h4 h5,h1=s.heap.push {cls:= .type "tuple_iterator",data:= .fields #[.ref t,.int 0 0]}→h2=h1.push {cls:= .type "list_iterator",data:= .fields #[.ref l,.int 0 0]}→
   h3=h2.push {cls:= .type "tuple",data:= .seq #[.ref s.heap.objs.size,.ref h1.objs.size]}→h4=h3.push {cls:= .type "tuple",data:= .seq #[.none,.none]}→
   h5=h4.push {cls:= .type "zip",data:= .fields #[.none,.bool false,.bool false,.ref h2.objs.size,.ref h3.objs.size]}→R (.ok (.ret (.ref h4.objs.size))) {s with heap:=h5}):=
 .of_wp fun prog w A R s h=>by
  obtain⟨hp,g,d,tk,os⟩:=s;obtain⟨hl1,hl2,h⟩:=h
  have hsub:=sub_zip
  have hL1:Heap.IsTuple (Shared.heap ⟨hp,g,d,tk,os⟩) t xs:=⟨_,hl1,rfl,n,rfl⟩
  have hL2:Heap.IsList (Shared.heap ⟨hp.push {cls:= .type "tuple_iterator",data:= .fields #[.ref t,.int 0 0]},g,d,tk,os⟩) l ys:=Heap.IsList.push hl2 _
  wp_walk using wpAny_pyIter_tuple hL1,wpAny_pyIter_list hL2
  exact⟨_,rfl,h _ _ _ _ _ rfl rfl rfl rfl rfl⟩
section
variable{u u':Wl Γ}{f:Fm d}{X Y:Addr→Prop}{ρ:Rho}{k:KI}{Q:Value→Shared→Prop}{E:Value→Shared→Prop}{v:V}{x:Value}{sc:Sc}{t:Tok}{R:Rec}{A:Around}{w:World}{e:Expr}{I a l:Addr}{n n' i:Nat}{items xs ys:List V}{h':Heap}{arr brr:Array Value}{s:Shared}
theorem hC:∀(xs:List V) (n k:Nat) (v:V),xs[k]? = some v→(dF n xs)[k]? = some (.tup [.int (Int.ofNat (n+k)),v])
 |_::_,n,0,_,e=>congrArg (fun v=>some (V.tup [.int (Int.ofNat n),v])) (sji e)
 |_::xs,n,k+1,v,e=>(hC xs (n+1) k v e).trans (by rw[Nat.add_right_comm n 1 k];rfl)
theorem hP:∀(xs:List V) (n:Nat),(dF n xs).length=xs.length
 |[],_=>rfl
 |_::xs,n=>congrArg (· + 1) (hP xs (n+1))
theorem rB:∀(xs ys:List V) (k:Nat) (a b:V),xs[k]? = some a→ys[k]? = some b→(zc xs ys)[k]? = some (.tup [a,b])
 |_::_,_::_,0,_,_,e,e'=>congr (congrArg (fun a b=>some (V.tup [a,b])) (sji e)) (sji e')
 |_::xs,_::ys,k+1,a,b,e,e'=>rB xs ys k a b e e'
theorem qg:∀(xs ys:List V),(zc xs ys).length=min xs.length ys.length
 |[],_=>(Nat.zero_min _).symm
 |_::_,[]=>rfl
 |_::xs,_::ys=>(congrArg (· + 1) (qg xs ys)).trans (Nat.succ_min_succ ..).symm
theorem dh:∀n,(gY n).length=n
 |0=>rfl
 |n+1=>by rw[gY,List.length_append,dh n];rfl
theorem qK:∀ {n k:Nat},k<n→(gY n)[k]? = some (.int (Int.ofNat k))
 |n+1,k,h=>by
  unfold gY
  rcases Nat.lt_or_eq_of_le (Nat.le_of_lt_succ h) with hk|rfl
  ·rw[List.getElem?_append_left (by rw[dh];exact hk)];exact qK hk
  ·rw[List.getElem?_append_right (leq (dh k)),dh,Nat.sub_self];rfl
theorem xu(h:Heap){a b:Obj}(ha:a.isFreed=false)(hb:b.isFreed=false):((h.push a).push b).get? h.objs.size=some a∧((h.push a).push b).get? (h.objs.size+1)=some b∧Grows h ((h.push a).push b):=
 ⟨Heap.get?_push_of_some _ (new_obj ha),Heap.size_push h a▸new_obj hb,fun _ _ e=>Heap.get?_push_of_some _ (Heap.get?_push_of_some _ e)⟩
theorem p8(ea:IsT s.heap a arr n)(q:∀h',IsEnum h' (s.heap.objs.size+1) s.heap.objs.size 0 .none→h'.IsTupleIter s.heap.objs.size a 0→Grows s.heap h'→Q (.ref (s.heap.objs.size+1)) {s with heap:=h'}):wpAny (model pw w) A (call (.type "enumerate") [.ref a]) Q E s:=by
 refine callType_new F.called_enumerate (by decide) (F.typeCall_enumerate_1 _) (F.newCall_enumerate_1 _) (fun obj=>F.args_object_init_2 obj _) F.entry_enumerate_new (wi a arr n) ⟨ea,?_⟩
 have p:=xu s.heap (a:={cls:= .type "tuple_iterator",data:= .fields #[.ref a,.int 0 0]}) (b:={cls:= .type "enumerate",data:= .fields #[.none,.bool false,.ref s.heap.objs.size,rawInt 0,.none,.none]}) rfl rfl
 show _∧_
 rw[Heap.size_push]
 exact⟨⟨_,p.2.1,rfl⟩,q _ p.2.1 ⟨_,p.1,rfl,rfl⟩ p.2.2⟩
theorem tV{St:Nat→Heap→Prop}(D:Draws pw Γ.w A.in1 u.h.objs.size [u.h.objs.size,a] arr.size (fun i v=>arr[i]? = some v) St)(ha:∃o,u.h.get? a=some o)(g:u.G a = .frz)(b:arr.size≤aH)(rr:Rls u xs arr.toList)(ob:∀i h,St i h→ItObj h u.h.objs.size)(kp:Grows u.h h')
  (he:IsEnum h' (u.h.objs.size+1) u.h.objs.size 0 .none) (st:St 0 h') (tg:∀t,jG t e=true→cj t=true) (hk:k (dF 0 xs) none u.st sc) (q:CIt A u e k Q):wpAny (model pw Γ.w) A (pyIter (.ref (u.h.objs.size+1))) Q E {u.s with heap:=h'}:=
 have na:u.h.objs.size+1≠a:=fun z=>ha.elim fun _ ea=>Nat.lt_irrefl _ (Nat.lt_trans (z▸Heap.lt_size ea:u.h.objs.size+1<u.h.objs.size) (Nat.lt_succ_self _))
 wpAny_pyIter_enum he (It.newT (u:=u) (t:=u.t) (v4 D (Nat.succ_ne_self _) na) kp ⟨⟨_,he⟩,st⟩ (fun c z=>z.elim (fun z=>z▸bq _ (Nat.le_succ _)) fun z=>z▸aC _)
  (fun c z=>z▸⟨fun z=>z.elim (fun z=>na z.symm) fun z=>ha.elim fun _ ea=>ab (z▸aC _) ea,g,ha.imp fun _ ea=>kp _ _ ea⟩) (fun i h st c z=>z.elim (fun z=>z▸st.1.elim fun _ e=>⟨_,e,.inl ⟨_,rfl⟩⟩) fun z=>z▸ob i h st.2)
  ((hP ..).trans rr.size) (fun i ys z=>z.elim fun t z=>z.elim fun x z=>(gQ rr z.1).elim fun v r=>⟨_,hC xs 0 i v r.1,z.2 ▸ .cons ((Nat.zero_add i).symm ▸ .int _ _) (.cons r.2 .nil),z.2▸ltr (by decide:2≤200000) (by decide)⟩) b tg hk q)
theorem A8{t l:Addr}(ht:IsT s.heap t arr n)(hl:s.heap.get? l=some {cls:= .type "list",data:= .seq brr n'})
  (q:∀h',t8 h' (s.heap.objs.size+4) (s.heap.objs.size+2) (s.heap.objs.size+3) s.heap.objs.size (s.heap.objs.size+1) .none→h'.IsTupleIter s.heap.objs.size t 0→h'.IsListIter (s.heap.objs.size+1) l 0→Grows s.heap h'→Q (.ref (s.heap.objs.size+4)) {s with heap:=h'}):
  wpAny (model pw w) A (call (.type "zip") [.ref t,.ref l]) Q E s:=by
 refine callType_new F.called_zip (by decide) (F.typeCall_zip_2 _ _) (F.newCall_zip_2 _ _) (fun obj=>F.args_object_init_3 obj _ _) F.entry_zip_new (zv t l arr brr n n') ⟨ht,⟨_,hl,rfl,n',rfl⟩,fun h1 h2 h3 h4 h5 e1 e2 e3 e4 e5=> ?_⟩
 have z1:h1.objs.size=s.heap.objs.size+1:=e1▸Heap.size_push ..
 have z2:h2.objs.size=s.heap.objs.size+2:=(e2▸Heap.size_push ..).trans (congrArg (· + 1) z1)
 have z3:h3.objs.size=s.heap.objs.size+3:=(e3▸Heap.size_push ..).trans (congrArg (· + 1) z2)
 have z4:h4.objs.size=s.heap.objs.size+4:=(e4▸Heap.size_push ..).trans (congrArg (· + 1) z3)
 have up4:Grows h4 h5:=e5▸push_keep _ _
 have up3:Grows h3 h5:=fun b o e=>up4 b o ((e4▸push_keep _ _:Grows h3 h4) b o e)
 have up2:Grows h2 h5:=fun b o e=>up3 b o ((e3▸push_keep _ _:Grows h2 h3) b o e)
 have up1:Grows h1 h5:=fun b o e=>up2 b o ((e2▸push_keep _ _:Grows h1 h2) b o e)
 have g1:=up1 _ _ (e1▸new_obj rfl:h1.get? s.heap.objs.size=some {cls:= .type "tuple_iterator",data:= .fields #[.ref t,.int 0 0]})
 have g2:=up2 _ _ (z1▸e2▸new_obj rfl:h2.get? (s.heap.objs.size+1)=some {cls:= .type "list_iterator",data:= .fields #[.ref l,.int 0 0]})
 have g3:=up3 _ _ (z2▸z1▸e3▸new_obj rfl:h3.get? (s.heap.objs.size+2)=some {cls:= .type "tuple",data:= .seq #[.ref s.heap.objs.size,.ref (s.heap.objs.size+1)]})
 have g4:=up4 _ _ (z3▸e4▸new_obj rfl:h4.get? (s.heap.objs.size+3)=some {cls:= .type "tuple",data:= .seq #[.none,.none]})
 have g5:h5.get? (s.heap.objs.size+4)=some {cls:= .type "zip",data:= .fields #[.none,.bool false,.bool false,.ref (s.heap.objs.size+2),.ref (s.heap.objs.size+3)]}:=z4▸z3▸z2▸e5▸new_obj rfl
 exact z4.symm▸(⟨⟨_,g5,rfl⟩,q h5 ⟨g5,g3,_,_,g4⟩ ⟨_,g1,rfl,rfl⟩ ⟨_,g2,rfl,rfl⟩ fun b o e=>up1 b o (e1▸push_keep _ _ b o e)⟩)
theorem Dy(hh:A.handled=none)(ea:IsT u.h a arr n)(el:IsL u.h l brr n')(g:u.G a = .frz)(g':u.G l = .frz)(b:arr.size≤aH)(ra:Rls u xs arr.toList)(rb:Rls u ys brr.toList)(tg:∀t,jG t e=true→cj t=true)(hk:k (zc xs ys) none u.st sc)(q:CIt A u e k Q):
  wA u A (call (.type "zip") [.ref a,.ref l]) (fun x s₁=>wpAny (model pw Γ.w) A (pyIter x) Q E s₁) E:=
 A8 (s:=u.s) ea el fun h' Z i1 i2 kp=>by
  have D:=zipApart_new (n:=u.h.objs.size) (Heap.lt_size ea) (Heap.lt_size el)
  have D1:=pJ (w:=Γ.w) (A:=A.in1) (t:=a) (it:=u.h.objs.size) hh D.l1i1 arr
  have D2:=Draws.list (prog:=pw) (w:=Γ.w) (A:=A.in1) hh (u.h.objs.size+1) l D.l2i2 brr
  have nn:=fun i=>bq u.h (Nat.le_add_right u.h.objs.size i)
  refine wpAny_pyIter_zip Z.hz (It.newT (u:=u) (t:=u.t) (yE D D1 D2) kp ⟨Z,⟨i1,_,kp _ _ ea,rfl,n,rfl⟩,⟨i2,_,kp _ _ el,rfl,n',rfl⟩⟩ (fun c z=> ?_) (fun c z=> ?_) (fun i h st c z=> ?_) ((qg ..).trans (ra.size▸rb.size▸rfl)) (fun i zs z=> ?_) (ltr (Nat.min_le_left ..) b) tg hk q)
  ·rcases z with rfl|rfl|rfl|rfl
   ·exact nn 4
   ·exact nn 3
   ·exact nn 0
   ·exact nn 1
  ·rcases z with rfl|rfl|rfl
   ·exact⟨fun z=>z.elim D.TIz fun z=>z.elim D.TITO fun z=>z.elim D.TIi1 D.TIi2,bO u.ok.live (nn 2),_,Z.hI⟩
   ·exact⟨fun z=>z.elim D.l1z fun z=>z.elim D.l1TO fun z=>z.elim D.l1i1 D.l1i2,g,_,kp _ _ ea⟩
   ·exact⟨fun z=>z.elim D.l2z fun z=>z.elim D.l2TO fun z=>z.elim D.l2i1 D.l2i2,g',_,kp _ _ el⟩
  ·rcases z with rfl|rfl|rfl|rfl
   ·exact⟨_,st.1.hz,.inl ⟨_,rfl⟩⟩
   ·exact st.1.hO.elim fun _ z=>z.elim fun _ e=>⟨_,e,.inr ⟨_,_,rfl,rfl⟩⟩
   ·exact st.2.1.1.imp fun _ z=>⟨z.1,.inl ⟨_,z.2.2⟩⟩
   ·exact gS st.2.2.1
  ·exact z.elim fun x z=>z.elim fun y z=>(gQ ra z.1).elim fun v r=>(gQ rb z.2.1).elim fun v' r'=>⟨_,rB xs ys i v v' r.1 r'.1,z.2.2 ▸ .cons r.2 (.cons r'.2 .nil),z.2.2▸ltr (by decide:2≤200000) (by decide)⟩
theorem xj(hh:A.handled=none){tk:Tok}(b:n≤100000)(hk:k (gY n) none u.st sc)(q:CIt A u e k Q):wA u A (call (.type "range") [.int (Int.ofNat n) tk]) (fun x s₁=>wpAny (model pw Γ.w) A (pyIter x) Q E s₁) E:=by
 have l62:(Int.ofNat n)<2 ^ 62:=Int.ofNat_lt.mpr (Nat.lt_of_le_of_lt b (by decide))
 refine call_range_1 (wpAny_pyIter_range (s:={u.s with heap:=_,toks:=_}) (new_obj rfl) (small_one (by decide) (by decide) (Int.le_trans (by decide) (Int.natCast_nonneg n)) l62) ?_)
 have rs:Builtin.Range.rangeSize 0 (Int.ofNat n) 1=(n:Int)-(0:Nat):=by
  rw[rangeSize_one]
  induction n with
  |zero=>rfl
  |succ n=>exact if_pos (Int.natCast_pos.mpr (Nat.succ_pos n))
 rw[rs]
 have p:=xu u.h (a:={cls:= .type "range",data:= .fields #[.int 0 u.t,.int (Int.ofNat n) tk,.int 1 (u.t+1)]}) (b:={cls:= .type "range_iterator",data:= .fields #[rawInt 0,rawInt ((n:Int)-(0:Nat)),rawInt 1]}) rfl rfl
 refine Eq.mpr (congrArg (fun n=>Q (.ref n) _) (Heap.size_push ..)) ?_
 exact It.new (u:=u) (t:=u.t+1+1) (Walks.range (prog:=pw) (w:=Γ.w) hh (u.h.objs.size+1) 0 1 n) p.2.2 p.2.1 (fun c e=>dA e▸bq _ (Nat.le_succ _)) (fun c h n=>(n h).elim)
  (fun i h st=>⟨fun c e=>dA e▸⟨_,st,.inl ⟨_,rfl⟩⟩,_,_,st,rfl,by decide⟩) (dh n) (fun i x hi e=>⟨_,qK hi,e.elim fun t e=>e▸(by rw[Int.zero_add,Int.mul_one];exact .int _ _)⟩) (ltr b (by decide)) hk q
theorem nQ{b:Nat}{g:Str}{p pos:Pos}{as:List Expr}(hg:glob g=some (.bi b))(hb:j6 (.bi b)=true):∀t,jG t (.Call (.Name g p) as [] pos)=true→cj t=true:=fun t h=>by
 have h:optD (glob g) true (fun v=>gateD (j6 v) true (cj t))=true:=h
 rw[hg] at h
 revert h
 show gateD (j6 (.bi b)) true (cj t)=true→_
 exact hb.symm▸id
theorem sH(hh:A.handled=none){b:Nat}{vs:List V}{us:List Value}{g:Str}{p pos:Pos}{as:List Expr}(hg:glob g=some (.bi b))(h:yi b vs fun xs=>k xs none u.st sc)(r:Rls u vs us)(q:CIt A u (.Call (.Name g p) as [] pos) k Q):
  wA u A (call (biV b) us) (fun x s₁=>wpAny (model pw Γ.w) A (pyIter x) Q E s₁) E:=by
 match b,hg,h with
 |6,hg,h=>exact r.oneD h fun v x eu r h=>eu▸r.intD h fun i t e h=>natD.of h fun n en h=>e▸en▸xj hh h.1 h.2 q
 |7,hg,h=>
  refine r.oneD h fun v x eu r h=>eu ▸ ?_
  cases v with
  |tup xs=>exact r.tupI fun a arr n ex ea g b rr=>ex▸p8 (s:=u.s) ea fun h' he hi kp=>tV (pJ (A:=A.in1) (it:=u.h.objs.size) hh (kN (Nat.le_refl _) ea).symm arr) ⟨_,ea⟩ g b rr (fun i h st=>st.1.imp fun _ z=>⟨z.1,.inl ⟨_,z.2.2⟩⟩) kp he ⟨hi,_,kp _ _ ea,rfl,n,rfl⟩ (nQ hg rfl) h q
  |lst xs=>exact r.lstI fun a arr n ex ea g b rr=>ex▸call_enumerate_list (s:=u.s) ⟨_,ea,rfl,n,rfl⟩ fun h' he hi _ kp=>tV (Draws.list (A:=A.in1) hh u.h.objs.size a (kN (Nat.le_refl _) ea).symm arr) ⟨_,ea⟩ g b rr (fun i h st=>gS st.1) kp he ⟨hi,_,kp _ _ ea,rfl,n,rfl⟩ (nQ hg rfl) h q
  |_=>exact(h:False).elim
 |8,hg,h=>exact r.twoD h fun v v' x x' eu r r' h=>eu▸r.tupD h fun xs a arr n ex ea g b rr h=>r'.lstD h fun ys l brr n' ex' el g' _ rr' h=>ex▸ex'▸Dy hh ea el g g' b rr rr' (nQ hg rfl) h q
theorem wK:∀ {b:Nat},E8 b=true→Nat.blt b 13=true
 |6,_|7,_|8,_=>rfl
 |0,h|1,h|2,h|3,h|4,h|5,h=>Bool.noConfusion h
 |_+9,h=>Bool.noConfusion h
theorem sem_it(BG:cc Γ)(BM:bx Γ)(IH:bc Γ d R.e)(h:Ev R f.cx e ρ u.st sc k)(F:Fr f X u ρ)(q:CIt f.A u e k Q):wA u f.A (eval e f.env) (fun x s₁=>wpAny (model pw Γ.w) f.A (pyIter x) Q E s₁) E:=
 itBi.of h (fun g p as pos b e1 e2 hb ok h=>e1▸oA BG IH e2 (wK hb) ok h F fun us u' vs sc l r n h=>sH F.rm.1 (lO (E:=E) (Q:=fun _ _=>True) (p:=p) BG e2 F fun _ _=>trivial).1 h r (e1▸q.tr l)) fun h=>IH h F fun x u' v sc l r h=>BU BM F.rm.1 h r (q.tr l)
end
variable{Γ:Cf}{d:Nat}
section
variable{u u':Wl Γ}{f:Fm d}{X Y D:Addr→Prop}{ρ ρ':Rho}{E:Value→Shared→Prop}{v:V}{x:Value}{sc:Sc}{R:Rec}{A:Around}{w:World}{a:Addr}{n:Nat}{P:Prop}{m cont:cI}{s:Shared}{arr:Array Value}
theorem ItObj.no{h:Heap}{o:Obj}(x:ItObj h a)(e:h.get? a=some o)(n1:∀vs,o.data ≠ .fields vs)(n2:o.cls = .type "tuple"→∀vs n,o.data ≠ .seq vs n):False:=x.elim fun o' x=>have q:o=o':=sji (e.symm.trans x.1);x.2.elim (fun z=>z.elim fun vs z=>n1 vs (q▸z)) fun z=>z.elim fun vs z=>z.elim fun n z=>n2 (q▸z.1) vs n (q▸z.2)
theorem ItObj.noDict{h:Heap}{es ep}{o:Obj}(x:ItObj h a)(e:h.get? a=some o)(q:o.data = .dict es ep):False:=x.no e (fun _ z=>nomatch q.symm.trans z) fun _ _ _ z=>nomatch q.symm.trans z
theorem FR.apartD(F:FR f X u ρ m cont)(odd:∀a,D a→ItObj u.h a):¬D f.env.locals∧∀x lv a,look x ρ=some lv→UsedBy f cont x lv a→¬D a:=
 ⟨fun z=>F.ns.elim fun _ n=>n.elim fun _ n=>n.elim fun _ n=>(odd _ z).noDict n.1 n.2.1,fun x lv a h q z=>by
  have s:=F.sv x lv h
  refine q.elim (fun q=>(s.cellOf q).ic.elim fun o i=>(odd a z).no i.1 (fun _ y=>nomatch i.2.symm.trans y) fun _ _ _ y=>nomatch i.2.symm.trans y) fun q=> ?_
  have v:=s.vl
  rw[q.2] at v
  induction lv with
  |ol xs=>exact v.elim fun b v=>v.2.2.elim fun items n e _ _=>have ea:IsL u.h a items n:=Value.ref.inj (sji v.1)▸e;(odd a z).no ea (fun _ y=>nomatch (show Data.seq items n = .fields _ from y)) fun y=>absurd (Value.type.inj y) (by decide)
  |od es=>exact v.elim fun b v=>v.2.2.elim fun kvs dd _ _ _=>dd.elim fun _ n=>n.elim fun _ n=>n.elim fun _ n=>(odd a z).noDict (Value.ref.inj (sji v.1)▸n.1) n.2.2.1
  |_=>exact ffS q.1⟩
theorem Fr.turn(F:Fr f X u ρ)(odd:∀a,D a→ItObj u.h a)(i:∀a,D a→u'.h.get? a=none→X a)(l:LwX D u u'):Fr f X u' ρ:=F.imp fun _ F=>F.imp fun _ F=>have z:=F.apartD odd
 F.tr l (fun a n=>by
  cases e:u.h.get? a with
  |none=>exact F.fresh a e
  |some o=>exact(l.each a o e).elim (fun q=>i a q.2 n) fun q=>q.2.elim fun _ q=>ab n q.1) ⟨z.1,id⟩ fun x lv a h q=>⟨z.2 x lv a h q,id⟩
theorem Fr.narrow(F:Fr f X u ρ)(odd:∀a,D a→ItObj u.h a):Fr f (fun a=>X a∧¬D a) u ρ:=F.imp fun _ F=>F.imp fun _ F=>have z:=F.apartD odd
 F.tr (Y:=noX) .rfl (fun a n=>⟨F.fresh a n,fun q=>(odd a q).has.elim fun _ e=>ab n e⟩) ⟨id,fun h=>⟨h,z.1⟩⟩ fun x lv a h q=>⟨id,fun y=>⟨y,z.2 x lv a h q⟩⟩
theorem FR.widen(F:FR f X u ρ m cont)(i:∀a,X a→Y a):FR f Y u ρ m cont:=F.tr (Y:=noX) .rfl (fun a n=>i a (F.fresh a n)) ⟨id,i _⟩ fun _ _ _ _ _=>⟨id,i _⟩
theorem Fr.widen(F:Fr f X u ρ)(i:∀a,X a→Y a):Fr f Y u ρ:=F.imp fun _ F=>F.imp fun _ F=>F.widen i
def Ay(h:Heap)(a:Addr)(arr:Array Value):Prop:=(∃n,IsT h a arr n)∨∃n,IsL h a arr n
theorem iB{Q:List Value→Shared→Prop}(hh:A.handled=none)(sa:Ay s.heap a arr)(q:∀h',Grows s.heap h'→Q arr.toList {s with heap:=h'}):wpAny (model pw w) A (unpackItems (.ref a) arr.size none) Q E s:=
 have q:=fun h' (eb:Heap.ExtBut s.heap.objs.size s.heap h')=>q h' fun b o e=>eb b o (fun z=>ab (z▸aC _) e) e
 sa.elim (fun z=>z.elim fun n ea=>unpackItems_tuple hh ⟨_,ea,rfl,n,rfl⟩ q) fun z=>z.elim fun n ea=>kun_itemsOf hh ⟨_,ea,rfl,n,rfl⟩ q
theorem bL{t:Expr}(n:eY t=false)(r:List Expr)(env:Env):assignEach (t::r) env=(false,assign t env)::assignEach r env:=by
 cases t<;>first|rfl|cases n
theorem dU{env:Env}:∀ {ts:List Expr},aF ts=true→(assignEach ts env).length=ts.length
 |[],_=>rfl
 |_::ts,h=>by rw[bL (ay h).1];exact congrArg (· + 1) (dU (ay h).2)
theorem du{env:Env}:∀ {ts:List Expr},aF ts=true→(assignEach ts env).findIdx? (·.1)=none
 |[],_=>rfl
 |_::ts,h=>by rw[bL (ay h).1,List.findIdx?_cons,du (ay h).2];rfl
theorem mJ:∀ {k:NameKind},oR k=true→k = .local
 | .local,_=>rfl
theorem eN{α:Type}{f:α→Bool}:∀ {o:Option α},optD o false f=true→∃a,o=some a∧f a=true
 |some a,h=>⟨a,rfl,h⟩
theorem asg1.of{rec:Expr→V→Rho→Option Rho}{t:Expr}(h:asg1 rec t v ρ=some ρ')(q1:∀x p,t = .Name x p→canPut x ρ=true→bw x (.v v) ρ=ρ'→P)(q2:∀ts c p,t = .Tuple ts c p→v.tupD none (fun vs=>jC rec ts vs ρ)=some ρ'→P):P:=by
 cases t<;>first|exact q1 _ _ rfl (gateD.some h).1 (sji (gateD.some h).2)|exact q2 _ _ _ rfl h|exact ab rfl h
theorem asg1.star{rec:Expr→V→Rho→Option Rho}{t:Expr}(h:asg1 rec t v ρ=some ρ'):eY t=false:=asg1.of h (fun _ _ e _ _=>e▸rfl) fun _ _ _ e _=>e▸rfl
theorem asgN.star{t:Expr}:∀ {n:Nat},asgN n t v ρ=some ρ'→eY t=false
 |0,h=>ab rfl h
 |_+1,h=>asg1.star h
theorem consD.some{α β:Type}{f:α→List α→Option β}{b:β}:∀ {l:List α},consD l none f=some b→(∀a r,l=a::r→f a r=some b→P)→P
 |a::r,h,q=>q a r rfl h
theorem tupD.some{β:Type}{f:List V→Option β}{b:β}:∀ {v:V},v.tupD none f=some b→(∀vs,v = .tup vs→f vs=some b→P)→P:=fun h q=>V.tupD.some h q fun e=>ab rfl e
theorem jQ:∀ {ts:List Expr} {vs:List V} {ρ:Rho},jC (asgN n) ts vs ρ=some ρ'→ts.length=vs.length∧aF ts=true
 |[],vs,ρ,h=>by
  induction vs with
  |nil=>exact⟨rfl,rfl⟩
  |cons _ _=>exact ab rfl h
 |t::ts,_,ρ,h=>consD.some h fun v vs e h=>optD.some h fun ρ₁ e1 h=>have z:=jQ h;e▸⟨congrArg (· + 1) z.1,Bool.and_eq_true_iff.mpr ⟨(asgN.star e1▸rfl:(!eY t)=true),z.2⟩⟩
def CA(f:Fm d)(X:Addr→Prop)(u:Wl Γ)(ρ':Rho)(Q:Unit→Shared→Prop):Prop:=∀(u':Wl Γ),LwX X u u'→u'.st=u.st→Fr f X u' ρ'→Q () u'.s
theorem CA.tr{Q:Unit→Shared→Prop}(q:CA f X u ρ' Q)(l:LwX X u u')(e:u'.st=u.st):CA f X u' ρ' Q:=fun u'' l' e'=>q u'' (l.trans l') (e'.trans e)
noncomputable abbrev El(f:Fm d)(n:Nat)(t:Expr):Prop:=f.W=true∨∃p,(∀x,p x=true→f.env.kindOf x=some .local)∧eB p n t=true
noncomputable abbrev y8(Γ:Cf)(f:Fm d)(X:Addr→Prop)(E:Value→Shared→Prop)(n:Nat):Prop:=∀ {t:Expr} {v:V} {ρ ρ':Rho} {u:Wl Γ} {x:Value} {Q:Unit→Shared→Prop},asgN n t v ρ=some ρ'→El f n t→Rl u v x→Fr f X u ρ→CA f X u ρ' Q→wA u f.A (assign t f.env x) Q E
theorem nl(main:y8 Γ f X E n):∀ {ts:List Expr} {vs:List V} {xs:List Value} {ρ:Rho} {u:Wl Γ} {Q:Unit→Shared→Prop},jC (asgN n) ts vs ρ=some ρ'→(∀t,t∈ts→El f n t)→Rls u vs xs→Fr f X u ρ→CA f X u ρ' Q→wA u f.A (assignInOrder ((assignEach ts f.env).map (·.2)) xs) Q E
 |[],_,_,_,u,_,h,_,_,F,q=>assignInOrder_nil (q u .rfl rfl (nilD.some h (fun _ e=>sji e▸F) fun e=>ab rfl e))
 |t::ts,_,xs,ρ,u,_,h,ok,r,F,q=>consD.some h fun v vs e h=>optD.some h fun ρ₁ e1 h=>by
  rw[bL (asgN.star e1)]
  exact Rels.consI (us:=xs) (e▸r) fun y ys e' r1 r2=>e'▸assignInOrder_cons (main e1 (ok t List.mem_cons_self) r1 F fun u' l es F=>nl main h (fun t z=>ok t (List.mem_cons_of_mem _ z)) (r2.up l) F (q.tr l es))
theorem k8(hh:f.A.handled=none)(main:y8 Γ f X E n){ts:List Expr}{c:Nat}{p:Pos}{vs:List V}{Q:Unit→Shared→Prop}(h:jC (asgN n) ts vs ρ=some ρ')(ok:∀t,t∈ts→El f n t)(sa:Ay u.h a arr)(r:Rls u vs arr.toList)(F:Fr f X u ρ)(q:CA f X u ρ' Q):
  wA u f.A (assign (.Tuple ts c p) f.env (.ref a)) Q E:=by
 have z:=jQ h
 refine wpAny_bind (wpAny_standAt ?_)
 unfold unpack
 rw[du z.2,(dU z.2).trans (z.1.trans r.size)]
 exact wpAny_bind (wpAny_holding (iB (s:=u.s) hh sa fun h' kp=>have l:Lw u (u.grow h' u.t kp):=Wl.grow_le
  nl (u:=u.grow h' u.t kp) main h ok (r.up l) (F.up l) (q.tr l.weak rfl)))
theorem iK(hh:f.A.handled=none):∀ {n:Nat},y8 Γ f X E n
 |0,_,_,_,_,_,_,_,h,_,_,_,_=>ab rfl h
 |n+1,t,v,ρ,ρ',u,x,Q,h,ok,r,F,q=>asg1.of h (fun y p et cp e=>et▸F.elim fun m cont F=>wpAny_assign_Name (F.store (sc:=[]) (k:=fun ρ₁ st _=>ρ₁=ρ'∧st=u.st) (ok.imp_right fun z=>z.elim fun pr z=>z.1 y (et▸z.2:eB pr (n+1) (.Name y p)=true)) cp r ⟨e,rfl⟩ fun u' _ _ l F h=>q u' l h.2 (h.1▸F)))
  fun ts c p et h=>tupD.some h fun vs ev h=>Rel.tupI (x:=x) (ev▸r) fun a arr m ex ea g b rr=>et▸ex▸k8 hh (iK hh) h (fun t' ht=>ok.imp_right fun z=>z.elim fun pr z=>⟨pr,z.1,List.all_eq_true.mp (show ts.all (eB pr n)=true from (et▸z.2:eB pr (n+1) (.Tuple ts c p)=true)) t' ht⟩) (.inl ⟨m,ea⟩) rr F q
set_option tactic.hygienic true in
theorem dG(IS:s9 Γ d R.s)(hW:f.W=true):∀ {ss:List Stmt} {u:Wl Γ} {ρ:Rho} {sc:Sc} {k:KF} {Q:Flow→Shared→Prop},evB R f.cx ss ρ u.st sc k→Fr f X u ρ→CS f X u k Q→wA u f.A (execs ss f.env) Q E
 |[],u,ρ,sc,_,_,h,F,q=>wpAny_execs_nil (q .next u .next ρ sc .rfl F rfl h)
 |_::r,u,ρ,sc,_,_,h,F,q=>wpAny_execs_cons (IS hW h F fun x u₁ fl ρ₁ sc₁ l F fr h=>by
  induction fl with
  |next=>cases fr;exact dG IS hW h F (q.tr l)
  |cont=>cases fr;exact q _ u₁ .cont ρ₁ sc₁ l F rfl h
  |ret v=>obtain⟨y,rfl,r⟩:=fr;exact q _ u₁ (.ret v) ρ₁ sc₁ l F ⟨y,rfl,r⟩ h)
def After(k:KF)(Rest:Rho→St→Prop)(fl:Fl)(ρ:Rho)(st:St):Prop:=match fl with
 | .next=>Rest ρ st
 | .cont=>Rest ρ st
 | .ret v=>∃sc,k (.ret v) ρ st sc
theorem After.eq{k:KF}{Rest:Rho→St→Prop}{fl fl₁:Fl}{ρ₁:Rho}{st st₁:St}(q:fl₁=fl∧ρ₁=ρ∧st₁=st)(h:After k Rest fl ρ st):After k Rest fl₁ ρ₁ st₁:=by cases q.1;cases q.2.1;cases q.2.2;exact h
set_option tactic.hygienic true in
def tY(R:Rec)(cx:Cx)(t:Expr)(body:List Stmt)(items:List V)(src:Option (Nat×Nat))(k:KF)(Rest:Nat→Rho→St→Prop):Prop:=∀j ρ st,Rest j ρ st→cR items src st∧optD items[j]? (∃sc,k .next ρ st sc) fun v=>
 ∃ρ₀ sc KK,asgN 9 t v ρ=some ρ₀∧evB R cx body ρ₀ st sc KK∧∀fl ρ₁ st₁ sc₁,KK fl ρ₁ st₁ sc₁→After k (Rest (j+1)) fl ρ₁ st₁
inductive xP(f:Fm d)(X D:Addr→Prop)(u:Wl Γ)(I:Addr)(ow:Bool)(items:List V)(src:Option (Nat×Nat))(Rest:Nat→Rho→St→Prop)(n:Nat):Shared→Prop
 |mk {j:Nat} {u':Wl Γ} {ρ₁:Rho}:items.length=n+j→Rest j ρ₁ u'.st→LwX X u u'→It f.A u' I D ow j items src→Fr f X u' ρ₁→xP f X D u I ow items src Rest n u'.s
theorem oD{j m:Nat}(l:j<m):∀ {n:Nat},m=n+j→∃k,k<n∧m=k+(j+1)
 |0,en=>(Nat.lt_irrefl _ (en.trans (Nat.zero_add j)▸l:m<m)).elim
 |k+1,en=>⟨k,Nat.lt_succ_self k,en.trans (Nat.succ_add_eq_add_succ k j)⟩
set_option tactic.hygienic true in
theorem p7(IS:s9 Γ d R.s)(hW:f.W=true){t:Expr}{body:List Stmt}{I:Addr}{ow:Bool}{items:List V}{src:Option (Nat×Nat)}{k:KF}{Rest:Nat→Rho→St→Prop}{Q:Flow→Shared→Prop}(hs:tY R f.cx t body items src k Rest)(ht:ow=true→cj t=true)(i:∀a,D a→X a)
  (k0:Rest 0 ρ u.st) (T:It f.A u I D ow 0 items src) (F:Fr f X u ρ) (q:CS f X u k Q):codeAny (model pw Γ.w) f.A (.forLoop t (.ref I) body [] f.env) (fun r s'=>match r with | .ok fl=>Q fl s' | .error e=>cameBackBy (model pw Γ.w) f.A f.env E e s') u.s:=by
 refine codeAny_forLoop_any (xP f X D u I ow items src Rest) (fun n s' z=> ?_) items.length (.mk rfl k0 .rfl T F)
 obtain @⟨j,u',ρ₁,en,hr,l,T,F⟩:=z
 have z:=hs j ρ₁ u'.st hr
 have F1:=fun {u₂} l2=>F.turn (u':=u₂) T.odd (fun a h _=>i a h) l2
 refine T.turn F.rm.1 z.1 ht _ _ _ (fun e u₂ l2 es=> ?_) (fun v x u₂ e l2 es r T2=> ?_)
 ·have h:=z.2
  rw[e] at h
  exact wpAny_execs_nil (h.elim fun sc h=>q .next u₂ .next ρ₁ sc (l.trans (l2.mono i)) (F1 l2) rfl (es▸h))
 ·have h:=z.2
  rw[e] at h
  refine h.elim fun ρ₀ h=>h.elim fun sc h=>h.elim fun KK h=>iK F.rm.1 h.1 (.inl hW) r ((F1 l2).narrow T2.odd) fun u₃ l3 e3 F3=>dG IS hW (u:=u₃) ((e3.trans es).symm▸h.2.1) F3 fun y u₄ fl ρ₄ sc₄ l4 F4 fr hK=> ?_
  have hK:=h.2.2 fl ρ₄ u₄.st sc₄ hK
  have la:LwX X u u₄:=(l.trans (l2.mono i)).trans ((l3.trans l4).mono fun a x=>x.1)
  have T4:=(T2.keep l3 fun a h x=>x.2 h).keep l4 fun a h x=>x.2 h
  have F4:=F4.widen (Y:=X) fun a x=>x.1
  induction fl with
  |next=>cases fr;exact(oD (fP e) en).imp fun m z=>⟨z.1,.mk z.2 hK la T4 F4⟩
  |cont=>cases fr;exact(oD (fP e) en).imp fun m z=>⟨z.1,.mk z.2 hK la T4 F4⟩
  |ret v=>obtain⟨y,rfl,r⟩:=fr;exact hK.elim fun sc hk=>q _ u₄ (.ret v) ρ₄ sc la F4 ⟨y,rfl,r⟩ hk
end
variable{Γ:Cf}{d:Nat}
section
variable{u u':Wl Γ}{f:Fm d}{X Y D:Addr→Prop}{ρ ρ':Rho}{E:Value→Shared→Prop}{v:V}{x:Value}{sc:Sc}{R:Rec}{A:Around}{w:World}{a:Addr}{n:Nat}{P:Prop}{s:Shared}{k:KF}{Q:Flow→Shared→Prop}{t it test:Expr}{body:List Stmt}{p:Pos}{line:Nat}{st st':St}{fl:Fl}{vs:List V}
theorem iU{e:Expr}{env:Env}(h:jG t e=true)(x:Value):foldedSetIterable e env x=pure x:=by
 cases e<;>first|rfl|exact ffS h
def Ax(asg:V→Rho→Option Rho)(B:Rho→St→Fl→Rho→St→Prop)(inv:St→Prop)(vs:List V)(ρ:Rho)(st:St)(fl:Fl)(ρ':Rho)(st':St)(v:V):Prop:=
 ∃ρ₀,asg v ρ=some ρ₀∧((∃f ρ₁ st₁,B ρ₀ st f ρ₁ st₁∧(f = .next∨f = .cont)∧ForR asg B inv vs ρ₁ st₁ fl ρ' st')∨∃x,B ρ₀ st (.ret x) ρ' st'∧fl = .ret x)
def wC(asg:V→Rho→Option Rho)(B:Rho→St→Fl→Rho→St→Prop)(inv:St→Prop)(vs:List V)(ρ:Rho)(st:St)(fl:Fl)(ρ':Rho)(st':St):Prop:=match vs with
 |[]=>fl = .next∧ρ'=ρ∧st'=st
 |v::vs=>Ax asg B inv vs ρ st fl ρ' st' v
theorem ForR.inv{asg:V→Rho→Option Rho}{B:Rho→St→Fl→Rho→St→Prop}{inv:St→Prop}(h:ForR asg B inv vs ρ st fl ρ' st'):inv st∧wC asg B inv vs ρ st fl ρ' st':=
 ForR.casesOn (motive:=fun vs ρ st fl ρ' st' _=>inv st∧wC asg B inv vs ρ st fl ρ' st') h (fun _ _ i=>⟨i,rfl,rfl,rfl⟩) (fun i a b c e=>⟨i,_,a,.inl ⟨_,_,_,b,c,e⟩⟩) fun i a b=>⟨i,_,a,.inr ⟨_,b,rfl⟩⟩
theorem eO{α:Type}(g:List α→Prop):∀ {l:List α} {j:Nat},g (l.drop j)→optD l[j]? (g []) fun v=>g (v::l.drop (j+1))
 |[],0,h=>h
 |[],_+1,h=>h
 |_::_,0,h=>h
 |_::l,j+1,h=>eO g (l:=l) (j:=j) h
theorem optD.imp{α:Type}{D D':Prop}{g g':α→Prop}(i:D→D')(j:∀v,g v→g' v):∀ {o:Option α},optD o D g→optD o D' g'
 | .none,h=>i h
 | .some v,h=>j v h
theorem DD{items:List V}{src:Option (Nat×Nat)}{cx:Cx}(hk:k fl ρ' st' sc):tY R cx t body items src k fun j ρ st=>ForR (asgN 9 t) (bP R cx body) (cR items src) (items.drop j) ρ st fl ρ' st':=fun j ρ st hr=>⟨hr.inv.1,
 (eO (fun vs=>ForR (asgN 9 t) (bP R cx body) (cR items src) vs ρ st fl ρ' st') hr).imp (fun h=>have z:=h.inv.2;⟨sc,z.1▸z.2.1▸z.2.2▸hk⟩)
  fun v h=>Exists.elim h.inv.2 fun ρ₀ z=>z.2.elim (fun y=>y.elim fun f y=>y.elim fun ρ₁ y=>y.elim fun st₁ y=>y.1.elim fun sc hb=>⟨ρ₀,sc,_,z.1,hb,fun fl₁ ρ₂ st₂ _ q=> .eq q (y.2.1.elim (fun e=>e▸y.2.2) fun e=>e▸y.2.2)⟩)
   fun y=>y.elim fun x y=>y.1.elim fun sc' hb=>⟨ρ₀,sc',_,z.1,hb,fun fl₁ ρ₂ st₂ _ q=> .eq q ⟨sc,y.2▸hk⟩⟩⟩
theorem EM{items:List V}{cx:Cx}:tY R cx t body items none k fun j ρ st=>∃sc,wZ R cx t body (items.drop j) ρ st sc k:=fun j ρ st hr=>hr.elim fun sc h=>⟨trivial,
 (eO (fun vs=>wZ R cx t body vs ρ st sc k) h).imp (fun h=>⟨sc,h⟩) fun v h=>optP.of h fun ρ₀ e h=>⟨ρ₀,sc,_,e,h,fun fl₁ ρ₂ st₂ sc₂ q=>match fl₁,q with
  | .next,q=>⟨sc₂,q⟩
  | .cont,q=>⟨sc₂,q⟩
  | .ret _,q=>⟨sc₂,q⟩⟩⟩
theorem Af(BG:cc Γ)(BM:bx Γ)(IH:bc Γ d R.e)(IS:s9 Γ d R.s)(hW:f.W=true)(h:Cv R f.cx t it body line ρ u.st sc k)(F:Fr f X u ρ)(q:CS f X u k Q):wA u f.A (exec (.For t it body [] p) f.env) Q E:=
 have z:=gate.of h
 wpAny_For (sem_it BG BM IH z.2 F fun I u₂ items src D ow sc l T fr sk _ tg h=>
  have go:=fun {Rest:Nat→Rho→St→Prop} (hs:tY R f.cx t body items src k Rest) k0=>p7 (E:=E) IS hW hs (tg t z.1) (fun a h=>F.elim fun _ _ F=>F.fresh a (fr a h)) k0 T (F.up l) (q.tr l.weak)
  ask.of h (fun p r h=>go (DD h.2) h.1) fun h=>by cases h.1;exact go EM ⟨sc,h.2⟩) (iU z.1)
section
variable(T:Rho→St→Bool→St→Prop)(Bd:Rho→St→Fl→Rho→St→Prop)(k:KF)
set_option tactic.hygienic true in
def EG(Rest:Rho→St→Prop)(ρ:Rho)(st:St)(b:Bool):Prop:=match b with
 |false=>∃sc,k .next ρ st sc
 |true=>∃f ρ₁ st₁,Bd ρ st f ρ₁ st₁∧After k Rest f ρ₁ st₁
def sG:Nat→Rho→St→Prop
 |0=>fun _ _=>False
 |n+1=>fun ρ st=>∃b st₁,T ρ st b st₁∧EG Bd k (sG n) ρ st₁ b
end
theorem WhileR.counted{T:Rho→St→Bool→St→Prop}{Bd:Rho→St→Fl→Rho→St→Prop}(h:WhileR T Bd ρ st fl ρ' st'):∀ {k:KF} {sc:Sc},k fl ρ' st' sc→∃n,sG T Bd k n ρ st:=by
 induction h with
 |stop a=>exact fun hk=>⟨1,false,_,a,_,hk⟩
 |step a b c _ ih=>exact fun hk=>(ih hk).elim fun n h=>⟨n+1,true,_,a,_,_,_,b,c.elim (fun e=>e▸h) fun e=>e▸h⟩
 |ret a b=>exact fun hk=>⟨1,true,_,a,_,_,_,b,_,hk⟩
inductive tO(R:Rec)(f:Fm d)(X:Addr→Prop)(u:Wl Γ)(test:Expr)(body:List Stmt)(k:KF)(n:Nat):Shared→Prop
 |mk {u':Wl Γ} {ρ₁:Rho}:sG (iI R f.cx test) (bP R f.cx body) k n ρ₁ u'.st→LwX X u u'→Fr f X u' ρ₁→tO R f X u test body k n u'.s
set_option tactic.hygienic true in
theorem u6(IC:g7 Γ d R.c)(IS:s9 Γ d R.s)(hW:f.W=true)(h:tP R f.cx test body line ρ u.st sc k)(F:Fr f X u ρ)(q:CS f X u k Q):wA u f.A (exec (.While test body [] p) f.env) Q E:=by
 refine ask.of h (fun p r h=>(h.2.1.counted h.2.2).elim fun n hn=>wpAny_While (codeAny_whileLoop (tO R f X u test body k) (fun n s' z=> ?_) n (.mk hn .rfl F))) False.elim
 obtain @⟨u',ρ₁,hw,l,F⟩:=z
 induction n with
 |zero=>exact hw.elim
 |succ n=>
  refine hw.elim fun b hw=>hw.elim fun st₁ hw=>hw.1.elim fun sc h=>IC h F fun b' u₂ _ l2 e=> ?_
  have hk:=hw.2
  induction b with
  |false=>exact xo e.1 (hk.elim fun sc hk=>wpAny_execs_nil (q .next u₂ .next ρ₁ sc (l.trans l2.weak) (F.up l2) rfl (e.2▸hk)))
  |true=>
   refine wD e.1 (hk.elim fun f' hk=>hk.elim fun ρ₂ hk=>hk.elim fun st₂ hk=>hk.1.elim fun sc hb=>dG (u:=u₂) IS hW (e.2▸hb) (F.up l2) fun y u₄ fl ρ₄ sc₄ l4 F4 fr q'=> ?_)
   have hK:=After.eq q' hk.2
   have la:=(l.trans l2.weak).trans l4
   induction fl with
   |next=>cases fr;exact⟨n,Nat.lt_succ_self n,.mk hK la F4⟩
   |cont=>cases fr;exact⟨n,Nat.lt_succ_self n,.mk hK la F4⟩
   |ret v=>obtain⟨y,rfl,r⟩:=fr;exact hK.elim fun sc hk=>q _ u₄ (.ret v) ρ₄ sc la F4 ⟨y,rfl,r⟩ hk
end
variable{Γ:Cf}{d:Nat}
section
variable{u u':Wl Γ}{f:Fm d}{X Y D:Addr→Prop}{ρ ρ':Rho}{E:Value→Shared→Prop}{v:V}{x:Value}{sc:Sc}{R:Rec}{A:Around}{w:World}{a:Addr}{n:Nat}{P:Prop}{s:Shared}{t it elt:Expr}{ifs:List Expr}{line:Nat}{st st':St}{vs out:List V}{cx:Cx}{cells:List (Str×Addr)}{m cont:cI}{lv:LV}
noncomputable abbrev ifF(env:Env)(c:Expr)(r:Bool):Sem (ForInStep Bool):=if r=true then do let ok ←isTrue c env (eval c env);pure (ForInStep.yield ok) else pure (ForInStep.yield r)
theorem tw{R:Result→Shared→Prop}{elt target iter:Expr}{ifs:List Expr}{scope:Scope}{pos:Pos}{it acc:Value}{env:Env}(I:Nat→Shared→Prop)
  (turn:∀n s,I n s→wpAny (model pw w) A (pyNext it) (fun r s₁=>match r with
   |none=>R (.ok .next) s₁
   |some v=>wpAny (model pw w) A (letOwnedTupleGo target it v) (fun _ s₁'=>wpAny (model pw w) A (assign target env v) (fun _ s₂=>
     wpAny (model pw w) A (forIn ifs true (ifF env)) (fun ok s₃=>
      if ok=true then wpAny (model pw w) A (eval elt env) (fun x s₄=>
       wpAny (model pw w) A (call (.builtin "list.append") [acc,x]) (fun _ s₅=>∃m,m<n∧I m s₅) (notedBy (model pw w) A env fun e s'=>R (.error e) s') s₄) (notedBy (model pw w) A env fun e s'=>R (.error e) s') s₃
      else ∃m,m<n∧I m s₃) (notedBy (model pw w) A env fun e s'=>R (.error e) s') s₂) (notedBy (model pw w) A env fun e s'=>R (.error e) s') s₁') (notedBy (model pw w) A env fun e s'=>R (.error e) s') s₁) (notedBy (model pw w) A env fun e s'=>R (.error e) s') s)
  (n:Nat) (h:I n s):codeAny (model pw w) A (.compLoop (.ListComp elt [⟨target,iter,ifs,0⟩] scope pos) 0 it acc env) R s:=by
 refine codeAny_loop rfl I (fun n s hI=> ?_) n h
 refine wpAny_noted ?_
 rw[compTurn_list]
 refine wpAny_bind (wpAny_standAt (wpAny_bind (wpAny_mono (turn n s hI) (fun r s₁ h₁=> ?_) fun _ _ q=>q)))
 induction r with
 |none=>exact wpAny_pure h₁
 |some v=>
  refine wpAny_bind (wpAny_mono h₁ (fun _ s₂ h₂=>wpAny_bind (wpAny_mono h₂ (fun _ s₃ h₃=>wpAny_bind (wpAny_mono h₃ (fun ok s₄ h₄=> ?_) fun _ _ q=>q)) fun _ _ q=>q)) fun _ _ q=>q)
  induction ok with
  |false=>exact wpAny_pure ⟨rfl,h₄⟩
  |true=>exact wpAny_bind (wpAny_bind (wpAny_mono h₄ (fun x s₅ h₅=>wpAny_bind (wpAny_mono h₅ (fun _ s₆ h₆=>wpAny_pure (wpAny_pure ⟨rfl,h₆⟩)) fun _ _ q=>q)) fun _ _ q=>q))
theorem qG{env:Env}:∀ {l:List Expr} {s:Shared} {Q:Bool→Shared→Prop},Q false s→wpAny (model pw w) A (forIn l false (ifF env)) Q E s
 |[],_,_,q=>by rw[List.forIn_nil];exact wpAny_pure q
 |_::_,_,_,q=>by rw[List.forIn_cons];exact wpAny_bind (wpAny_pure (qG q))
theorem ub(IC:g7 Γ d R.c):∀ {ifs:List Expr} {u:Wl Γ} {sc:Sc} {k:KB} {Q:Bool→Shared→Prop},qk R f.cx ifs ρ u.st sc k→Fr f X u ρ→CB u k Q→wA u f.A (forIn ifs true (ifF f.env)) Q E
 |[],u,sc,_,_,h,_,q=>by rw[List.forIn_nil];exact wpAny_pure (q _ u sc .rfl h)
 |c::r,_,_,_,_,h,F,q=>by
  rw[List.forIn_cons]
  refine wpAny_bind (wpAny_bind (IC h F fun b u₁ _ l h=>wpAny_pure (onB.of h fun sc h=> ?_)))
  induction b with
  |true=>exact ub IC h (F.up l) (q.tr l)
  |false=>exact qG (q _ u₁ sc l h)
def Was(p:Str→Bool)(ρ ρ':Rho):Prop:=∀x lv,look x ρ=some lv→look x ρ'=some lv∨(p x=true∧∃lv',look x ρ'=some lv'∧lv'.isFv=false)
theorem Was.trans{p:Str→Bool}{ρ₁:Rho}(a:Was p ρ ρ₁)(b:Was p ρ₁ ρ'):Was p ρ ρ':=fun x lv h=>(a x lv h).elim (b x lv) fun z=>z.2.elim fun lv' z'=>(b x lv' z'.1).elim (fun e=> .inr ⟨z.1,lv',e,z'.2⟩) .inr
theorem nK{p:Str→Bool}{rec:Expr→V→Rho→Option Rho}(main:∀t v ρ ρ',p' t=true→rec t v ρ=some ρ'→Was p ρ ρ'):∀ {ts:List Expr} {vs:List V} {ρ:Rho},ts.all p'=true→jC rec ts vs ρ=some ρ'→Was p ρ ρ'
 |[],_,_,_,h=>nilD.some h (fun _ e=>sji e▸fun _ _=> .inl) fun e=>ab rfl e
 |_::_,_,_,a,h=>have a:=ai a;consD.some h fun v vs _ h=>optD.some h fun ρ₁ e1 h=>(main _ _ _ _ a.1 e1).trans (nK main a.2 h)
theorem qN{α:Type}{x y:Str}{a:α}{l:List (Str×α)}(e:x=y):look x (bw y a l)=some a:=by cases e;exact aI ..
theorem qB{p:Str→Bool}:∀ {n:Nat} (t:Expr) (v:V) (ρ ρ':Rho),eB p n t=true→asgN n t v ρ=some ρ'→Was p ρ ρ'
 |0,_,_,_,_,_,h=>ab rfl h
 |n+1,t,v,ρ,ρ',a,h=>asg1.of h (fun y q et _ e=>e▸fun x lv h=>(Classical.em (x=y)).elim (fun exy=> .inr ⟨exy▸(et▸a:eB p (n+1) (.Name y q)=true),_,qN exy,rfl⟩) fun n=> .inl ((aS _ n _).trans h))
  fun ts c q et h=>tupD.some h fun vs _ h=>nK qB (et▸a:eB p (n+1) (.Tuple ts c q)=true) h
theorem Fr.forget(F:Fr f X u ρ'){p:Str→Bool}(e:Was p ρ ρ')(un:∀x lv,look x ρ=some lv→lv.isOwn=false∧(p x=true→lv = .unb)):Fr f X u ρ:=F.imp fun m F=>F.imp fun cont F=>
 ⟨F.st,F.fresh,F.ns,F.gl,F.xl,fun x lv h=>(e x lv h).elim (F.sv x lv) fun z=>z.2.elim fun lv' z'=>by
   have s:=F.sv x lv' z'.1
   cases (un x lv h).2 z.1
   have e0:lv'.role=LV.unb.role:=iS z'.2
   exact⟨s.nm,e0▸s.sl,trivial⟩,fun x y a o _=>o.elim fun lv z=>Bool.noConfusion ((un x lv z.1).1.symm.trans z.2.1)⟩
theorem Fr.other{arr:Array Value}{n:Nat}(F:Fr f X u ρ)(l:LwX (· = a) u u')(nX:¬X a)(ea:IsL u.h a arr n)(ha:∃o,u'.h.get? a=some o):Fr f X u' ρ:=F.imp fun m F=>F.imp fun cont F=>
 F.tr l (fun b n=>(Classical.em (b=a)).elim (fun e=>ha.elim fun _ z=>ab (e▸n) z) fun e=>by
  cases q:u.h.get? b with
  |none=>exact F.fresh b q
  |some o=>exact(l.each b o q).elim (fun z=>(e z.2).elim) fun z=>z.2.elim fun _ z=>ab n z.1) ⟨fun e=>nX (e▸F.xl),id⟩
  fun x lv b h q=>⟨fun e=>q.elim (fun q=>((F.sv x lv h).cellOf q).ic.elim fun o i=>ke i.1 ea (i.2▸fun q=>nomatch q) e) fun q=>nX (e▸(F.ownT ⟨lv,h,q⟩).ow.x),id⟩
theorem compNames.of{p:Str×NameKind}{r:Cx}(h:compNames cx ρ (p::r)=true):(bJ p.1=true∧wL cx ρ p.1 p.2=true)∧look p.1 r=none∧compNames cx ρ r=true:=
 have a:=ai h;have b:=ai a.1;have c:=ai b.1;⟨⟨c.1,b.2⟩,Option.isNone_iff_eq_none.mp c.2,a.2⟩
theorem compNames.mem:∀ {l:Cx} {p:Str×NameKind},compNames cx ρ l=true→p∈l→(bJ p.1=true∧wL cx ρ p.1 p.2=true)∧look p.1 l=some p.2
 |q::r,p,h,m=>have z:=compNames.of h;(List.mem_cons.mp m).elim (fun e=>by cases e;exact⟨z.1,aR ..⟩) fun m=>have i:=compNames.mem z.2.2 m;⟨i.1,(aD _ _ fun e=>ab (e▸z.2.1) i.2).trans i.2⟩
theorem bD{α:Type}{x:Str}{k:α}:∀ {l:List (Str×α)},look x l=some k→(x,k)∈l
 |(y,j)::r,h=>gX h (fun e e'=>e▸e'▸List.mem_cons_self) fun _ h=>List.mem_cons_of_mem _ (bD h)
theorem fE{x:Str}:∀ {l:Cx},compNames cx ρ l=true→look x (cW ρ l)=some lv→∃k,look x l=some k∧((k = .local∧lv = .unb)∨(k = .free∧lv=nM (look x ρ)))
 |(y,k)::r,h,e=>by
  have z:=compNames.of h
  have ih:look x (cW ρ r)=some lv→∃k',look x ((y,k)::r)=some k'∧((k' = .local∧lv = .unb)∨(k' = .free∧lv=nM (look x ρ))):=fun e=>(fE z.2.2 e).imp fun k' i=>⟨(aD k r fun q=>ab z.2.1 (q▸i.1)).trans i.1,i.2⟩
  have e:look x (ut ρ y k (cW ρ r))=some lv:=e
  induction k with
  | «local» =>exact gX e (fun q e=>⟨_,q▸aR ..,.inl ⟨rfl,e.symm⟩⟩) fun n e=>ih e
  |free=>exact gX e (fun q e=>⟨_,q▸aR ..,.inr ⟨rfl,q▸e.symm⟩⟩) fun n e=>ih e
  |_=>exact ih e
theorem wg{o:Option LV}:(nM o).isOwn=false:=by
 induction o with
 |none=>rfl
 |some lv=>induction lv<;>rfl
theorem jJ{l:Cx}(cn:compNames cx ρ l=true){x:Str}(e:look x (cW ρ l)=some lv):lv.isOwn=false∧(dB l x=true→lv = .unb):=
 (fE cn e).elim fun k z=>z.2.elim (fun y=>⟨y.2▸rfl,fun _=>y.2⟩) fun y=>⟨y.2▸wg,fun q=>by unfold dB at q;rw[z.1,y.1] at q;cases q⟩
noncomputable def bZ(cells:List (Str×Addr)):Cx→List (Str×Addr)→List (Str×Addr)
 |[],acc=>acc
 |p::r,acc=>bZ cells r (gateD (rS p.2) acc ((p.1,(cells.lookup p.1).getD 0)::acc))
noncomputable def md(x:Str):Cx→Bool
 |[]=>false
 |p::r=>(av p.1 x&&rS p.2)||md x r
theorem uK:∀ {k:NameKind},rS k=true→k = .free
 | .free,_=>rfl
theorem mN{x:Str}:∀ {l:Cx},md x l=true→(x,.free)∈l
 |(y,k)::r,h=>(Bool.or_eq_true_iff.mp h).elim (fun h=>have z:=ai h;strEq_iff.mp z.1▸uK z.2▸List.mem_cons_self) fun h=>List.mem_cons_of_mem _ (mN h)
theorem pW{x:Str}:∀ {l:Cx},(x,.free)∈l→md x l=true
 |[],m=>absurd m List.not_mem_nil
 |_::_,m=>(List.mem_cons.mp m).elim (fun e=>e▸Bool.or_eq_true_iff.mpr (.inl (Bool.and_eq_true_iff.mpr ⟨strEq_self x,rfl⟩))) fun h=>Bool.or_eq_true_iff.mpr (.inr (pW h))
theorem aj{α:Type}(x y:Str)(a:α)(l:List (Str×α)):((y,a)::l).lookup x=gateD (av y x) (l.lookup x) (some a):=by
 rw[List.lookup_cons]
 cases e:av y x with
 |true=>rw[strEq_iff.mp e,beq_self_eq_true];rfl
 |false=>rw[beq_eq_false_iff_ne.mpr fun q=>dg e q.symm];rfl
theorem dL(x:Str):∀ {l:Cx} {acc:List (Str×Addr)},(bZ cells l acc).lookup x=gateD (md x l) (acc.lookup x) (some ((cells.lookup x).getD 0))
 |[],_=>rfl
 |(y,k)::r,acc=>by
  refine(dL x (l:=r)).trans ?_
  show _=gateD ((av y x&&rS k)||md x r) _ _
  cases md x r with
  |true=>rw[Bool.or_true];rfl
  |false=>
   rw[Bool.or_false]
   cases rS k with
   |false=>rw[Bool.and_false];rfl
   |true=>
    show((y,(cells.lookup y).getD 0)::acc).lookup x=_
    rw[aj,Bool.and_true]
    cases e:av y x with
    |true=>rw[strEq_iff.mp e]
    |false=>rfl
theorem lE{env:Env}{scope:Scope}(h:∀p∈scope.names,p.2 = .free→∃c,env.cells.lookup p.1=some c):closureFor scope env=pure (bZ env.cells scope.names []):=by
 have main:∀(g:Str×NameKind→List (Str×Addr)→Sem (ForInStep (List (Str×Addr)))) (_:∀p cs,g p cs=if p.2 == .free then (do let a ←cellOf env p.1;pure (.yield ((p.1,a)::cs))) else pure (.yield cs)) (l:Cx) (acc:List (Str×Addr)),(∀p∈l,p.2 = .free→∃c,env.cells.lookup p.1=some c)→forIn l acc g=pure (bZ env.cells l acc):=fun g hg l=>by
  induction l with
  |nil=>intro acc _;rw[List.forIn_nil];rfl
  |cons p r ih=>
   intro acc h
   have ih:=fun acc=>ih acc fun p hp=>h p (List.mem_cons_of_mem _ hp)
   rw[List.forIn_cons,hg]
   obtain⟨y,k⟩:=p
   induction k with
   |free=>
    refine(h (y,.free) List.mem_cons_self rfl).elim fun c hc=> ?_
    have hc:env.cells.lookup y=some c:=hc
    show(do let a ←cellOf env y;_) >>= _=_
    unfold cellOf
    rw[hc]
    refine(ih _).trans ?_
    show _=pure (bZ env.cells r ((y,(env.cells.lookup y).getD 0)::acc))
    rw[hc];rfl
   |_=>exact ih acc
 show(forIn scope.names ([]:List (Str×Addr)) _ >>= fun s=>pure s)=_
 rw[main _ (fun p cs=>by cases hk:p.2==NameKind.free<;>simp[hk]) scope.names [] h]
 rfl
end
variable{Γ:Cf}{d:Nat}
section
variable{u u' u0:Wl Γ}{f:Fm d}{X Y D:Addr→Prop}{ρ ρ' ρi:Rho}{E:Value→Shared→Prop}{v:V}{x:Str}{sc:Sc}{R:Rec}{A:Around}{w:World}{a L I:Addr}{n:Nat}{P:Prop}{s:Shared}{t it elt:Expr}{ifs:List Expr}{line:Nat}{st st':St}{vs out items:List V}{cx:Cx}{m cont:cI}{lv:LV}{ow:Bool}{kd:NameKind}{k:KL}{Rest:Nat→List V→St→Prop}
noncomputable def pZ(f:Fm d)(scope:Scope)(C:Addr):Fm d:=⟨f.A,compEnvC scope (bZ f.env.cells scope.names []) C f.env,false,scope.names⟩
theorem lY{g:Str×NameKind→Str×NameKind}(hg:∀p,(g p).1=p.1):∀ {l:Cx},look x l=some kd→(l.map g).lookup x=some (g (x,kd)).2
 |(y,j)::r,h=>by
  have e0:((y,j)::r).map g=(y,(g (y,j)).2)::r.map g:=congrArg (· :: r.map g) (Prod.ext (hg (y,j)) rfl)
  rw[e0,aj]
  exact gX h (fun e e'=>by cases e;cases e';rw[strEq_self];rfl) fun n h=>(gn n).symm▸(lY hg h)
theorem fA{scope:Scope}{C:Addr}(h:look x scope.names=some kd):(pZ f scope C).env.kindOf x=some (if (kd == .free&&f.env.scope.kind == .function&&f.env.kindOf x==some .cell)=true then .cell else kd):=by
 refine(lY (g:=fun(n,k)=>if (k==NameKind.free&&f.env.scope.kind == .function&&f.env.kindOf n==some .cell) then (n,NameKind.cell) else (n,k)) (fun p=> ?_) h).trans ?_
 ·dsimp only;split<;>rfl
 ·dsimp only;split<;>rfl
theorem FR.freeOf(F:FR f X u ρ m cont)(ok:wL f.cx ρ x .free=true)(q:∀lv c,look x ρ=some lv→CellA f X u x (cont x) lv.role c→P):P:=
 have z:=ai (show(optD (look x f.cx) false xH&&(look x ρ).isSome)=true from ok)
 (eN z.1).elim fun k hk=>(Option.isSome_iff_exists.mp z.2).elim fun lv hl=>(F.sv x lv hl).sl.elim (fun h=>(F.st.cellk x k hk.1 hk.2).elim (fun e=>nomatch h.1.symm.trans e) fun e=>nomatch h.1.symm.trans e) fun h=>h.elim fun c h=>q lv c hl h
theorem onlyV_role:(nM (some lv)).role=lv.role:=by induction lv<;>rfl
theorem yM{f':Fm d}{o:Option Value}(h:Lv f X u lv o):Lv f' Y u (nM (some lv)) o:=by
 induction lv<;>first|exact h|exact trivial
theorem pB{cells:List (Str×Addr)}{l:Cx}{c:Addr}(h:(bZ cells l []).lookup x=some c):(x,.free)∈l∧(cells.lookup x).getD 0=c:=by
 rw[dL] at h
 cases e:md x l with
 |false=>rw[e] at h;exact ab rfl h
 |true=>rw[e] at h;exact⟨mN e,sji h⟩
theorem FR.comp{scope:Scope}{C:Addr}{m':cI}(F:FR f X u ρ m cont)(hk:scope.kind = .function)(cn:compNames f.cx ρ scope.names=true)(fresh:∀a,u.h.get? a=none→Y a)(ns:u.h.Ns C m')(hm:∀x,m' x=none)(gl:u.G C = .own)(xl:Y C):
  FR (pZ f scope C) Y u (cW ρ scope.names) m' (fun x=>gateD (dB scope.names x) (cont x) none):=
 have nm:=fun {x k} (h:look x scope.names=some k)=>(compNames.mem cn (bD h)).1
 have free:∀ {x c},(bZ f.env.cells scope.names []).lookup x=some c→f.env.cells.lookup x=some c:=fun {x c} h=>have z:=pB h;F.freeOf (compNames.mem cn z.1).1.2 fun lv c' _ h=>(h.lk.trans (congrArg some ((h.lk▸rfl:(f.env.cells.lookup x).getD 0=c').symm.trans z.2)))
 have kfree:∀ {x},look x scope.names=some .free→(pZ f scope C).env.kindOf x=some .cell∨(pZ f scope C).env.kindOf x=some .free:=fun {x} h=>by
  rw[fA h];split
  ·exact .inl rfl
  ·exact .inr rfl
 have nocell:∀ {x k},look x scope.names=some k→xH k=true→k = .free:=fun {x k} h e=>by
  have z:=(nm h).2
  induction k<;>first|rfl|exact ffS e|exact ffS z
 {st:=⟨F.st.rm,hk,F.st.glbs,F.st.blts,fun x e=>fA e,fun x k e hc=>kfree (nocell e hc▸e),fun x y c h1 h2=>F.st.cellsApart x y c (free h1) (free h2),fun hh=>(eN hh).elim fun k z=>by
   have e:xH k=true:=by induction k<;>first|rfl|cases z.2
   cases nocell z.1 e;cases z.2⟩
  fresh:=fresh,ns:=ns,gl:=gl,xl:=xl
  sv:=fun x lv e=>(fE cn e).elim fun k z=>z.2.elim
   (fun y=>by
    cases y.1;cases y.2
    have e:dB scope.names x=true:=by unfold dB;rw[z.1];rfl
    rw[e]
    exact⟨(nm z.1).1,.inl ⟨fA z.1,hm x⟩,trivial⟩)
   fun y=>by
    cases y.1;cases y.2
    have e:dB scope.names x=false:=by unfold dB;rw[z.1];rfl
    rw[e]
    exact F.freeOf (nm z.1).2 fun lv c hl h=>hl▸⟨(nm z.1).1,.inr ⟨c,kfree z.1,(dL x).trans (by rw[pW (bD z.1),h.lk];rfl),h.ic,h.gc.trans onlyV_role.symm,fun q=>ffS q⟩,yM (F.sv x lv hl).vl⟩
  apart:=fun x y a o _=>o.elim fun lv z=>Bool.noConfusion ((jJ cn z.1).1.symm.trans z.2.1)}
def Fw(R:Rec)(cx:Cx)(elt:Expr)(Rest:List V→St→Prop)(acc:List V)(ρ₀:Rho)(st:St)(b:Bool):Prop:=match b with
 |false=>Rest acc st
 |true=>∃sc K,R.e cx elt ρ₀ st sc K∧∀y st₂ sc₃,K y st₂ sc₃→Rest (acc++[y]) st₂
def oi(R:Rec)(cx:Cx)(t elt:Expr)(ifs:List Expr)(ρi:Rho)(items:List V)(k:KL)(Rest:Nat→List V→St→Prop):Prop:=∀j acc st,Rest j acc st→optD items[j]? (∃sc,k acc st sc) fun v=>
 ∃ρ₀ sc KK,asgN 9 t v ρi=some ρ₀∧qk R cx ifs ρ₀ st sc KK∧∀b st₁ sc₁,KK b st₁ sc₁→Fw R cx elt (Rest (j+1)) acc ρ₀ st₁ b
theorem AA:oi R cx t elt ifs ρi items k fun j acc st=>∃sc,qQ R cx t elt ifs ρi (items.drop j) st sc fun out st sc=>k (acc++out) st sc:=fun j acc st hr=>hr.elim fun sc h=>
 (eO (fun vs=>qQ R cx t elt ifs ρi vs st sc fun out st sc=>k (acc++out) st sc) h).imp (fun h=>⟨sc,(List.append_nil acc▸h:k acc st sc)⟩) fun v h=>optP.of h fun ρ₀ e h=>⟨ρ₀,sc,_,e,h,fun b st₁ sc₁ hb=>match b,hb with
  |false,hb=>⟨sc₁,hb⟩
  |true,hb=>⟨sc₁,_,hb,fun y st₂ sc₃ hy=>⟨sc₃,(funext fun out=>by rw[List.append_assoc];rfl:(fun(out:List V) (st:St) (sc:Sc)=>k (acc++y::out) st sc)=fun out st sc=>k ((acc++[y])++out) st sc)▸hy⟩⟩⟩
def uj(asg:V→Rho→Option Rho)(T:Rho→St→Bool→St→Prop)(L:Rho→St→V→St→Prop)(ρ:Rho)(vs:List V)(st:St)(out:List V)(st':St):Prop:=match vs with
 |[]=>out=[]∧st'=st
 |v::vs=>∃ρ₀ st₁,asg v ρ=some ρ₀∧((T ρ₀ st false st₁∧CompR asg T L ρ vs st₁ out st')∨∃y st₂ o,T ρ₀ st true st₁∧L ρ₀ st₁ y st₂∧CompR asg T L ρ vs st₂ o st'∧out=y::o)
theorem CompR.inv{asg:V→Rho→Option Rho}{T:Rho→St→Bool→St→Prop}{L:Rho→St→V→St→Prop}(h:CompR asg T L ρ vs st out st'):uj asg T L ρ vs st out st':=
 CompR.casesOn (motive:=fun vs st out st' _=>uj asg T L ρ vs st out st') h (fun _=>⟨rfl,rfl⟩) (fun a b c=>⟨_,_,a,.inl ⟨b,c⟩⟩) fun a b c e=>⟨_,_,a,.inr ⟨_,_,_,b,c,e,rfl⟩⟩
theorem Ap(hk:k vs st' sc):oi R cx t elt ifs ρi items k fun j acc st=>∃out,CompR (asgN 9 t) (fI R cx ifs) (eF R cx elt) ρi (items.drop j) st out st'∧vs=acc++out:=fun j acc st hr=>hr.elim fun out z=>
 (eO (fun l=>CompR (asgN 9 t) (fI R cx ifs) (eF R cx elt) ρi l st out st') z.1).imp (fun h=>have y:=h.inv;⟨sc,y.2▸(z.2.trans (y.1▸List.append_nil acc)▸hk)⟩)
  fun v h=>Exists.elim h.inv fun ρ₀ h=>h.elim fun st₁ h=>h.2.elim (fun y=>y.1.elim fun sc hb=>⟨ρ₀,sc,_,h.1,hb,fun b st₂ _ q=>by cases q.1;cases q.2;exact⟨out,y.2,z.2⟩⟩)
   fun y=>y.elim fun e y=>y.elim fun st₂ y=>y.elim fun o y=>y.1.elim fun sc hb=>⟨ρ₀,sc,_,h.1,hb,fun b st₂ _ q=>by
    cases q.1;cases q.2
    exact y.2.1.elim fun sc he=>⟨sc,_,he,fun y' st₃ _ q=>by cases q.1;cases q.2;exact⟨o,y.2.2.1,z.2.trans (y.2.2.2▸(List.append_assoc acc [e] o).symm)⟩⟩⟩
inductive tD(f:Fm d)(X D:Addr→Prop)(u0:Wl Γ)(ρi:Rho)(I L:Addr)(ow:Bool)(items:List V)(Rest:Nat→List V→St→Prop)(n:Nat):Shared→Prop
 |mk {j:Nat} {acc:List V} {ys:Array Value} {u':Wl Γ}:items.length=n+j→Rest j acc u'.st→Lw u0 u'→It f.A u' I D ow j items none→u'.h.PlainList L ys→u'.G L = .own→Rls u' acc ys.toList→acc.length≤j→Fr f X u' ρi→tD f X D u0 ρi I L ow items Rest n u'.s
structure zf(u u':Wl Γ)(L C:Addr)(ys:Array Value)(acc:List V):Prop where
 l:Lw u u'
 pl:u'.h.PlainList L ys
 gL:u'.G L = .own
 rr:Rls u' acc ys.toList
 sz:ys.size≤aH
 ns:∃m,u'.h.Ns C m
 gC:u'.G C = .own
theorem pR{ys:Array Value}(l:LwX Y u u')(n:¬Y L)(h:u.h.PlainList L ys)(g:u.G L = .own):u'.h.PlainList L ys∧u'.G L = .own:=h.elim fun m e=>have z:=Kp.own l e g n;⟨⟨m,z.2⟩,z.1⟩
theorem oh(IH:bc Γ d R.e)(IC:g7 Γ d R.c){iter:Expr}{scope:Scope}{pos:Pos}{p:Str→Bool}{RR:Result→Shared→Prop}(hs:oi R f.cx t elt ifs ρi items k Rest)(tg:ow=true→cj t=true)(bd:items.length≤aH)(tl:eB p 9 t=true)(tk:∀x,p x=true→f.env.kindOf x=some .local)
  (un:∀x lv,look x ρi=some lv→lv.isOwn=false∧(p x=true→lv = .unb)) (zD:∀a,D a→u0.h.get? a=none) (zX:∀a,X a→u0.h.get? a=none) (zL:u0.h.get? L=none) (nX:∀a,D a→¬X a) (nDL:¬D L) (nXL:¬X L) (H:tD f X D u0 ρi I L ow items Rest items.length s)
  (q:∀acc ys (u':Wl Γ) sc,zf u0 u' L f.env.locals ys acc→k acc u'.st sc→RR (.ok .next) u'.s):codeAny (model pw Γ.w) f.A (.compLoop (.ListComp elt [⟨t,iter,ifs,0⟩] scope pos) 0 (.ref I) (.ref L) f.env) RR s:=by
 refine tw (tD f X D u0 ρi I L ow items Rest) (fun n s' z=> ?_) _ H
 obtain @⟨j,acc,ys,u',en,hr,l,T,hL,gL,rr,hle,F⟩:=z
 have h:=hs j acc u'.st hr
 have sz:ys.size≤items.length:=rr.size▸ltr hle (en▸Nat.le_add_left ..)
 refine T.turn F.rm.1 trivial tg _ _ _ (fun e u₂ l2 es=> ?_) (fun v x u₂ e l2 es r T2=> ?_)
 ·rw[e] at h
  exact F.elim fun m cont F=>have z:=(F.apartD T.odd).1;have kL:=pR l2 nDL hL gL;have kC:=fun {o} e=>Kp.own l2 (o:=o) e F.gl z
   h.elim fun sc h=>q acc ys u₂ sc ⟨(l.weak.trans l2).drop zD,kL.1,kL.2,rr.up l2,ltr sz bd,⟨m,F.ns.elim fun _ n=>n.elim fun es n=>n.elim fun ep n=>⟨_,es,ep,(kC n.1).2,n.2⟩⟩,(ft F.ns).elim fun _ e=>(kC e).1⟩ (es▸h)
 ·rw[e] at h
  refine h.elim fun ρ₀ h=>h.elim fun sc h=>h.elim fun KK h=>iK F.rm.1 h.1 (.inr ⟨p,tk,tl⟩) r (F.turn T.odd (fun a h n=>(T2.odd a h).has.elim fun _ e=>ab n e) l2) fun u₃ l3 e3 F3=>ub IC (u:=u₃) ((e3.trans es).symm▸h.2.1) F3 fun b u₄ sc₄ l4 hb=> ?_
  have hK:=h.2.2 b u₄.st sc₄ hb
  have la:Lw u0 u₄:=((((l.weak.trans l2).drop zD).weak.trans l3).drop zX).trans l4
  have k2:=pR l2 nDL hL gL
  have k3:=pR l3 nXL k2.1 k2.2
  have k4:=pR l4 id k3.1 k3.2
  have T4:=(T2.keep l3 nX).keep l4 fun _ _=>id
  have r4:=((rr.up l2).up l3).up l4
  have F4:=F3.up l4
  have F5:=F4.forget (qB t v ρi ρ₀ tl h.1) un
  have go:=oD (fP e) en
  induction b with
  |false=>exact xo rfl (go.imp fun m z=>⟨z.1,.mk z.2 hK la T4 k4.1 k4.2 r4 (Nat.le_succ_of_le hle) F5⟩)
  |true=>
   refine wD rfl (hK.elim fun sc hK=>hK.elim fun K2 hK=>IH hK.1 F4 fun y u₅ yv sc₅ l5 ry h5=> ?_)
   have k5:=pR l5 id k4.1 k4.2
   refine wpAny_list_append_plain (s:=u₅.s) k5.1 (fun h₆ hL6 sb=> ?_) (ltr sz (ltr bd dr))
   have eL:∃o,h₆.get? L=some o:=hL6.imp' _ fun _=>id
   have l6:LwX (· = L) u₅ (u₅.priv h₆ u₅.t u₅.G (.mine sb k5.2 eL)):=Wl.priv_le
   exact go.imp fun m z=>⟨z.1,.mk (u':=u₅.priv h₆ u₅.t u₅.G (.mine sb k5.2 eL)) z.2 (hK.2 _ _ _ h5) (((la.trans l5).weak.trans l6).drop fun a e=>e▸zL) ((T4.keep l5 fun _ _=>id).keep l6 fun a h e=>nDL (e▸h)) hL6 k5.2
    (by rw[Array.toList_push];exact((r4.up l5).append (.one ry)).up l6) (List.length_append▸Nat.succ_le_succ hle) (k5.1.elim fun _ e=>(F5.up l5).other l6 nXL e eL)⟩
end
variable{Γ:Cf}{d:Nat}
section
variable{u u':Wl Γ}{f:Fm d}{X:Addr→Prop}{ρ:Rho}{E:Value→Shared→Prop}{sc:Sc}{R:Rec}{a L C:Addr}{P:Prop}{t it elt:Expr}{ifs:List Expr}{line:Nat}{scope:Scope}{pos:Pos}{gens:List Comprehension}{k:KV}
theorem Grows.none{h h':Heap}(k:Grows h h')(n:h'.get? a=none):h.get? a=none:=by
 cases q:h.get? a with
 |none=>rfl
 |some o=>exact ab n (k a o q)
theorem fT:∀ {k:ScopeKind},tN k=true→k = .function
 | .function,_=>rfl
theorem nS(BG:cc Γ)(BM:bx Γ)(IH:bc Γ d R.e)(IC:g7 Γ d R.c){k:KL}{use:Option (Value→Sem Unit)}{Q:Value→Shared→Prop}(ok:tp f.cx ρ scope t=true)(h:sL R f.cx elt t it ifs scope.names line ρ u.st sc k)(F:Fr f X u ρ)
  (q:∀L C (u':Wl Γ) ys acc sc',u.h.get? L=none→u.h.get? C=none→C≠L→zf u u' L C ys acc→k acc u'.st sc'→compPost (model pw Γ.w) f.A E use Q (.ref L) C (.ok .next) u'.s):
  wA u f.A (eval it f.env) (fun x s₁=>wpAny (model pw Γ.w) f.A (pyIter x) (fun iv s₂=>wpAny (model pw Γ.w) f.A (newList []) (fun acc s₃=>
   wpAny (model pw Γ.w) f.A (newFunctionEnv scope f.env.globals (bZ f.env.cells scope.names []) [] f.env.qual none .none (some f.env)) (fun cenv s₄=>
    codeAny (model pw Γ.w) f.A (.compStart (.ListComp elt [⟨t,it,ifs,0⟩] scope pos) 0 iv acc {cenv with scope:=relabel scope f.env}) (compPost (model pw Γ.w) f.A E use Q acc cenv.locals) s₄) E s₃) E s₂) E s₁) E:=by
 have o:=ai ok
 have o1:=ai o.1
 have z:=gate.of h
 refine sem_it BG BM IH z.2 F fun I u₂ items src D ow sc l T fr sk bd tg h=> ?_
 induction src with
 |some _=>exact h.elim
 |none=>
 refine wpAny_newObj_type (wpAny_newFunctionEnv (fun p hp e=>Bool.noConfusion (show false=true from (e▸(compNames.mem o.2 hp).1.2:wL f.cx ρ p.1 .cell=true))) (fun _ hy=>nomatch hy) (fun h₁ ns sb=> ?_) (fT o1.1))
 have kp:=push_keep u₂.h {cls:= .type "list",dict:=none,data:= .seq ([]:List Value).toArray}
 have eL:(u₂.h.push {cls:= .type "list",dict:=none,data:= .seq ([]:List Value).toArray}).get? u₂.h.objs.size=some {cls:= .type "list",dict:=none,data:= .seq ([]:List Value).toArray}:=new_obj rfl
 have nL:=aC u₂.h
 let uL:=u₂.own _ u₂.t kp nL eL
 have nC:=aC uL.h
 have kp2:Grows uL.h h₁:=fun b o e=>sb.extBut b o (fun q=>ab (q▸nC) e) (push_keep _ _ b o e)
 refine(ft ns).elim fun oC eC=> ?_
 let uC:=uL.own h₁ (u₂.t+([]:List (Str×Value)).length) kp2 nC eC
 have lC:Lw uL uC:=Wl.own_le
 have l2:Lw u₂ uC:=Wl.own_le.trans lC
 have T4:=T.keep l2 fun _ _=>id
 have kL:=Kp.own lC eL (aW ..) id
 have hD:=fun {a} h=>(T.odd a h).has
 have fin:=fun {Rest:Nat→List V→St→Prop} (hs:oi R scope.names t elt ifs (cW ρ scope.names) items k Rest) (r0:Rest 0 [] u₂.st)=>
  have c:=oh (f:=pZ f scope uL.h.objs.size) (u0:=u) (X:=fun a=>uL.h.get? a=none) (p:=dB scope.names) (iter:=it) (pos:=pos) (scope:=scope) (RR:=compPost (model pw Γ.w) f.A E use Q (.ref u₂.h.objs.size) uL.h.objs.size) IH IC hs (tg t z.1) bd o1.2 (fun x e=>(eN e).elim fun k z=>fA (mJ z.2▸z.1))
   (fun x lv e=>jJ o.2 e) fr (fun a e=>l.none (kp.none e)) (l.none nL) (fun a h e=>(hD h).elim fun _ z=>ab (kp.none e) z) (fun h=>(hD h).elim fun _ z=>ab nL z) (fun e=>ab e eL)
   (.mk (u':=uC) rfl r0 (l.trans l2) T4 ⟨_,kL.2⟩ kL.1 .nil (Nat.le_refl _) (F.elim fun m cont F=>((F.up (l.trans l2)).comp (fT o1.1) o.2 (fun a e=>kp2.none e) ns (fun _=>rfl) (aW ..) nC).fr))
   fun acc ys u' sc dd hk=>q _ _ u' ys acc sc (l.none nL) (l.none (kp.none nC)) (fun e=>ab (e▸nC) eL) dd hk
  codeAny_compStart_list c (T4.self c)
 exact ask.of h (fun p r h=>fin (Ap h.2) ⟨p.1,h.1,rfl⟩) fun h=>fin AA ⟨sc,h⟩
theorem Ew:∀ {a:Int},zd a 0=true→a=0
 | .ofNat 0,_=>rfl
noncomputable abbrev yI(R:Rec)(cx:Cx)(elt:Expr)(gens:List Comprehension)(scope:Scope)(p:Pos)(ρ:Rho)(st:St)(sc:Sc)(k:KV):Prop:=
 oneD gens False fun g=>gate (zd g.is_async 0&&tp cx ρ scope g.target) (sL R cx elt g.target g.iter g.ifs scope.names p.line ρ st sc fun vs st sc=>k (.lst vs) st sc)
theorem jH(BG:cc Γ)(BM:bx Γ)(IH:bc Γ d R.e)(IC:g7 Γ d R.c){use:Option (Value→Sem Unit)}{Q:Value→Shared→Prop}(h:yI R f.cx elt gens scope pos ρ u.st sc k)(F:Fr f X u ρ)
  (q:∀L C (u':Wl Γ) ys acc sc',u.h.get? L=none→u.h.get? C=none→C≠L→zf u u' L C ys acc→k (.lst acc) u'.st sc'→compPost (model pw Γ.w) f.A E use Q (.ref L) C (.ok .next) u'.s):
  wA u f.A (comprehension (.ListComp elt gens scope pos) scope f.env (firstIterPos gens pos) (newList []) (firstAsync gens) (firstIter gens f.env) use) Q E:=
 oneD.of h fun g eg h=>by
  subst eg
  obtain⟨t,it,ifs,a⟩:=g
  have z:=gate.of h
  have o:=ai z.1
  cases Ew o.1
  have o2:=ai o.2
  exact wpAny_comprehension_free (use:=use) rfl (iU (gate.of z.2).1) (lE fun p hp e=>F.elim fun m cont F=>F.freeOf (x:=p.1) (e▸(compNames.mem o2.2 hp).1.2) fun lv c _ h=>⟨c,h.lk⟩) (fT (ai o2.1).1)
   (fun p hp e=>(j8 ..).symm.trans ((compNames.mem o2.2 hp).2.trans (congrArg some e))) (nS BG BM IH IC o.2 z.2 F q)
theorem xf(BG:cc Γ)(BM:bx Γ)(IH:bc Γ d R.e)(IC:g7 Γ d R.c){Q:Value→Shared→Prop}(h:yI R f.cx elt gens scope pos ρ u.st sc k)(F:Fr f X u ρ)(q:CE u k Q):wA u f.A (eval (.ListComp elt gens scope pos) f.env) Q E:=by
 refine jH (use:=none) BG BM IH IC h F fun L C u' ys acc sc' nL nC ne dd hk=>dd.ns.elim fun m ns=>⟨m,ns,fun h'' sb=> ?_⟩
 have own:∀a,a=L∨a=C→u'.G a = .own:=fun a e=>e.elim (fun e=>e▸dd.gL) fun e=>e▸dd.gC
 have up:∀b o,¬(b=L∨b=C)→u'.h.get? b=some o→h''.get? b=some o:=fun b o n e=>(sb.2 b fun q=>n (.inr q)).trans e
 have l1:LwX (fun a=>a=L∨a=C) u' (u'.stop _ h'' u'.t own up):=Wl.priv_le
 exact dd.pl.elim fun n e=>q _ (u'.stop _ h'' u'.t own up) (.lst acc) sc' ((dd.l.weak.trans l1).drop fun a e=>e.elim (fun e=>e▸nL) fun e=>e▸nC) (.lst ((sb.2 L ne.symm).trans e) (show fG u'.G (fun a=>a=L∨a=C) .frz L = .frz from markG_in (.inl rfl)) dd.sz (dd.rr.up l1)) hk
def D6(Γ:Cf)(d:Nat)(ev:Cx→Expr→Rho→St→Sc→KV→Prop):Prop:=
 ∀ {f:Fm d} {X:Addr→Prop} {u:Wl Γ} {ρ:Rho} {elt:Expr} {gens:List Comprehension} {scope:Scope} {p:Pos} {sc:Sc} {k:KV} {y:Str} {py:Pos} {Q:Unit→Shared→Prop} {E:Value→Shared→Prop},f.W=true→ev f.cx (.ListComp elt gens scope p) ρ u.st sc k→Fr f X u ρ→canPut y ρ=true→
  (∀(u':Wl Γ) v sc',LwX X u u'→Fr f X u' (bw y (.v v) ρ)→k v u'.st sc'→Q () u'.s)→wA u f.A (evalThenUse (.ListComp elt gens scope p) f.env (assign (.Name y py) f.env)) Q E
theorem Fr.less{Z:Addr→Prop}(F:Fr f X u ρ)(l:Lw u u')(nZ:∀a,Z a→u.h.get? a=none)(eZ:∀a,Z a→∃o,u'.h.get? a=some o):Fr f (fun a=>X a∧¬Z a) u' ρ:=F.imp fun m F=>F.imp fun cont F=>
 have no:=fun {a} (h:∃o,u.h.get? a=some o) (z:Z a)=>h.elim fun _ y=>ab (nZ a z) y
 F.tr l (fun a n=>⟨F.fresh a (l.none n),fun z=>(eZ a z).elim fun _ y=>ab n y⟩) ⟨id,fun x=>⟨x,no (ft F.ns)⟩⟩ fun x lv a h q=>⟨id,fun y=>⟨y,no (F.usedX h q).2⟩⟩
theorem Fr.give(F:Fr f (fun a=>X a∧a≠C) u ρ)(hW:f.W=true)(l:LwX (· = C) u u')(xC:X C):Fr f X u' ρ:=F.imp fun m F=>F.imp fun cont F=>
 F.tr l (fun a n=>by
  cases e:u.h.get? a with
  |none=>exact(F.fresh a e).1
  |some o=>exact(l.each a o e).elim (fun q=>q.2▸xC) fun q=>q.2.elim fun _ q=>ab n q.1) ⟨F.xl.2,fun x=>x.1⟩ fun x lv a h q=>⟨((F.usedX h q).1 hW).2,fun x=>x.1⟩
theorem qd(BG:cc Γ)(BM:bx Γ)(IH:bc Γ d R.e)(IC:g7 Γ d R.c):D6 Γ d fun cx e ρ st sc k=>match e with | .ListComp elt gens scope p=>yI R cx elt gens scope p ρ st sc k|_=>False:=fun {f X u ρ elt gens scope p sc k y py Q E} hW h F cp q=>by
 refine wpAny_bind (wpAny_mono (jH (use:=some (assign (.Name y py) f.env)) (Q:=fun _ s=>Q () s) BG BM IH IC h F fun L C u' ys acc sc' nL nC ne dd hk=> ?_) (fun _ s' q=>wpAny_pure q) fun _ _ q=>q)
 have own:∀a,a=L→u'.G a = .own:=fun a e=>e▸dd.gL
 have up:∀b o,¬(b=L)→u'.h.get? b=some o→u'.h.get? b=some o:=fun _ _ _=>id
 have l1:LwX (· = L) u' (u'.stop _ u'.h u'.t own up):=Wl.priv_le
 have l01:=(dd.l.weak.trans l1).drop (fun a e=>e▸nL:∀a,a=L→u.h.get? a=none)
 have g1:(u'.stop _ u'.h u'.t own up).G C = .own:=(show fG u'.G (· = L) .frz C=u'.G C from markG_out ne).trans dd.gC
 have xC:X C:=F.elim fun _ _ F=>F.fresh C nC
 refine dd.pl.elim fun n e=>dd.ns.elim fun m ns=>(ft ns).elim fun oC eC=>(F.less (Z:=(· = C)) l01 (fun a e=>e▸nC) fun a e=>⟨oC,e▸eC⟩).elim fun m1 cont1 F1=>
  wpAny_assign_Name (FR.store (u:=u'.stop (· = L) u'.h u'.t own up) F1 (sc:=[]) (v:= .lst acc) (k:=fun ρ' st sc=>ρ'=bw y (.v (.lst acc)) ρ∧st=u'.st) (.inl hW) cp (.lst e (show fG u'.G (· = L) .frz L = .frz from markG_in rfl) dd.sz (dd.rr.up l1)) ⟨rfl,rfl⟩ fun u2 ρ' _ l2 F2 h2=> ?_)
 have kC:=fun {o} e=>Kp.own l2 (o:=o) e g1 fun z=>z.2 rfl
 refine⟨m,ns.elim fun _ n=>n.elim fun es n=>n.elim fun ep n=>⟨_,es,ep,(kC n.1).2,n.2⟩,fun h'' sb=> ?_⟩
 have own2:∀a,a=C→u2.G a = .own:=fun a e=>e▸(kC eC).1
 have up2:∀b o,¬(b=C)→u2.h.get? b=some o→h''.get? b=some o:=fun b o n e=>(sb.2 b n).trans e
 have l3:LwX (· = C) u2 (u2.stop _ h'' u2.t own2 up2):=Wl.priv_le
 exact q (u2.stop _ h'' u2.t own2 up2) (.lst acc) sc' ((l01.weak.trans (l2.mono fun a x=>x.1)).trans (l3.mono fun a e=>e▸xC)) (h2.1▸F2.give hW l3 xC) (h2.2▸hk)
end
section
variable{β:Type}{n:Str}
theorem kJ{α β:Type}(f:α→β→Sem (ForInStep β))(g:β→α→β)(hf:∀a b,f a b=pure (.yield (g b a))):∀(l:List α) (b:β),forIn (m:=Sem) l b f=pure (l.foldl g b)
 |[],b=>rfl
 |a::l,b=>by rw[List.forIn_cons,hf,pure_bind];exact kJ f g hf l (g b a)
noncomputable def fg(slots:List (Str×Value))(p:Str×Value):List (Str×Value):=if (slots.lookup p.1).isNone then slots++[(p.1,p.2)] else slots
theorem d9(a b:List (Str×β)):(a++b).lookup n=(a.lookup n).or (b.lookup n):=by
 induction a with
 |nil=>rfl
 |cons p r ih=>
  rw[List.cons_append,aj,aj,ih]
  cases av p.1 n<;>rfl
theorem kK:∀(l:List (Str×Value)) (slots:List (Str×Value)),(l.foldl fg slots).lookup n=(slots.lookup n).or (l.lookup n)
 |[],slots=>by cases h:slots.lookup n<;>exact h
 |(k,v)::l,slots=>by
  rw[List.foldl_cons,kK l,aj]
  unfold fg
  cases h:slots.lookup k with
  |none=>
   show((slots++[(k,v)]).lookup n).or _=_
   rw[d9,aj]
   cases e:av k n with
   |true=>rw[←strEq_iff.mp e,h];rfl
   |false=>cases slots.lookup n<;>rfl
  |some w=>
   show(slots.lookup n).or _=_
   cases e:av k n with
   |true=>rw[←strEq_iff.mp e,h];rfl
   |false=>rfl
theorem t7:∀ {xs:List Str} {us:List β},n∉xs→(xs.zip us).lookup n=none
 |[],_,_=>rfl
 |_::_,[],_=>rfl
 |x::xs,u::us,h=>by
  rw[List.zip_cons_cons,aj,gn (fun e:x=n=>h (e▸List.mem_cons_self))];show(xs.zip us).lookup n=none
  exact t7 fun m=>h (List.mem_cons_of_mem _ m)
theorem oE:∀ {xs:List Str} {us:List β} {k:Nat},k≤us.length→n∈xs.take k→∃v,(xs.zip us).lookup n=some v
 |x::xs,u::us,k+1,hk,h=>by
  rw[List.zip_cons_cons,aj]
  cases e:av x n with
  |true=>exact⟨u,rfl⟩
  |false=>exact(List.mem_cons.mp h).elim (fun q=>(dg e q.symm).elim) fun h=>oE (Nat.le_of_succ_le_succ hk) h
 |_::_,_,0,_,h=>nomatch h
 |[],_,0,_,h=>nomatch h
 |[],_,_+1,_,h=>nomatch h
 |_::_,[],_+1,hk,_=>nomatch hk
theorem w7{x1 x2 y2:List Str}{us d2 d3:List Value}(h1:x1.length=us.length)(sub:∀m,m∈y2→m∈x1)(h2:y2.length=d2.length):(((x1++x2).zip us).lookup n).or (((y2++x2).zip (d2++d3)).lookup n)=((x1++x2).zip (us++d3)).lookup n:=by
 have e0:(x1++x2).zip us=x1.zip us:=(congrArg ((x1++x2).zip ·) (List.append_nil us).symm).trans ((List.zip_append h1).trans (by rw[List.zip_nil_right,List.append_nil]))
 rw[e0,List.zip_append h2,List.zip_append h1,d9,d9]
 cases e:(x1.zip us).lookup n with
 |some v=>rfl
 |none=>rw[t7 fun m=>(oE (us:=us) (k:=x1.length) (leq h1) (List.take_length.symm▸(sub _ m))).elim fun v q=>ab e q];rfl
theorem hR:∀ {xs:List Str} {vs:List Value},xs.Nodup→vs.length=xs.length→∀ {f:Str→Option Value},(∀n,n∈xs→f n=(xs.zip vs).lookup n)→xs.filterMap (fun n=>(f n).map (n,·))=xs.zip vs
 |[],_,_,_,_,_=>rfl
 |x::xs,[],_,e,_,_=>nomatch e
 |x::xs,v::vs,nd,e,f,h=>by
  have nd:=List.nodup_cons.mp nd
  have h0:f x=some v:=(h x List.mem_cons_self).trans (by rw[List.zip_cons_cons,aj,strEq_self];rfl)
  rw[List.filterMap_cons,h0]
  exact congrArg ((x,v) :: ·) (hR nd.2 (Nat.succ.inj e) fun n hn=>(h n (List.mem_cons_of_mem _ hn)).trans (by rw[List.zip_cons_cons,aj,gn (fun q:x=n=>nd.1 (q▸hn))];rfl))
end
def oo(h:Heap)(dv:Value)(ds:List Value):Prop:=(dv = .none∧ds=[])∨∃T o items n,dv = .ref T∧h.get? T=some o∧o.data = .seq items n∧items.toList=ds
theorem yt{M:Model}{A:Around}{E:Value→Shared→Prop}{s:Shared}{dv:Value}{ds:List Value}(hd:oo s.heap dv ds){Q:Option (Array Value)→Shared→Prop}(q:∀r:Option (Array Value),(r.getD #[]).toList=ds→Q r s):wpAny M A (seqItems? dv) Q E s:=
 hd.elim (fun z=>z.1▸wpAny_pure (q none z.2.symm)) fun z=>z.elim fun T z=>z.elim fun o z=>z.elim fun items z=>z.elim fun n z=>z.1▸wpAny_seqItems z.2.1 z.2.2.1 (q (some items) z.2.2.2)
theorem lQ{M:Model}{A:Around}{E:Value→Shared→Prop}{s:Shared}{α:Type}{Q:α→Shared→Prop}{c:Prop}[Decidable c]{x y:Sem α}(n:¬c)(h:wpAny M A y Q E s):wpAny M A (if c then x else y) Q E s:=(if_neg n).symm▸h
theorem rO{M:Model}{A:Around}{E:Value→Shared→Prop}{s:Shared}{α β:Type}{Q:β→Shared→Prop}{f:α→β→Sem (ForInStep β)}{g:β→α→β}{l:List α}{b:β}(hf:∀a b,f a b=pure (.yield (g b a)))(h:Q (l.foldl g b) s):wpAny M A (forIn (m:=Sem) l b f) Q E s:=by rw[kJ f g hf];exact wpAny_pure h
theorem BE(p:Str×Value)(sl:List (Str×Value)):(if (sl.lookup p.1).isNone=true then pure (ForInStep.yield (sl++[(p.1,p.2)])) else pure (ForInStep.yield sl):Sem (ForInStep (List (Str×Value))))=pure (.yield (fg sl p)):=by unfold fg;split<;>rfl
theorem EF{a b c:Nat}(h2:b≤c)(h3:c-b≤a)(hk:a-(c-b)≤b):a+(b-(a-(c-b)))=c:=
 (congrArg (· + (b-(a-(c-b)))) (Nat.add_sub_of_le h3)).symm.trans ((Nat.add_assoc ..).trans ((congrArg (c-b + ·) (Nat.add_sub_of_le hk)).trans (Nat.sub_add_cancel h2)))
theorem oH{xs:List Str}{us dvs ds:List Value}(e:ds=dvs)(nd:xs.Nodup)(h1:us.length≤xs.length)(h2:dvs.length≤xs.length)(h3:xs.length-dvs.length≤us.length):
  xs.filterMap (fun n=>((((xs.drop (xs.length-(ds.drop (ds.length-xs.length)).length)).zip (ds.drop (ds.length-xs.length))).foldl fg (xs.zip us)).lookup n).map (n,·))=xs.zip (us++dvs.drop (us.length-(xs.length-dvs.length))):=by
 rw[e,Nat.sub_eq_zero_of_le h2,List.drop_zero]
 have hk:us.length-(xs.length-dvs.length)≤dvs.length:=Nat.sub_le_of_le_add (ltr h1 (leq (Nat.add_sub_of_le h2).symm))
 have e1:(xs.take us.length).length=us.length:=List.length_take.trans (Nat.min_eq_left h1)
 have hl:(us++dvs.drop (us.length-(xs.length-dvs.length))).length=xs.length:=by rw[List.length_append,List.length_drop];exact EF h2 h3 hk
 have main:=fun n=>w7 (n:=n) (x1:=xs.take us.length) (x2:=xs.drop us.length) (y2:=(xs.take us.length).drop (xs.length-dvs.length)) (us:=us) (d2:=dvs.take (us.length-(xs.length-dvs.length))) (d3:=dvs.drop (us.length-(xs.length-dvs.length))) e1 (fun m=>List.mem_of_mem_drop) (by rw[List.length_drop,e1,List.length_take,Nat.min_eq_left hk])
 rw[←List.drop_append_of_le_length (e1.symm▸h3),List.take_append_drop,List.take_append_drop] at main
 exact hR nd hl fun n _=>(kK ..).trans (main n)
theorem yz{xs:List Str}{us dvs ds:List Value}(e:ds=dvs)(h2:dvs.length≤xs.length)(h3:xs.length-dvs.length≤us.length):(!((xs.take (xs.length-(ds.drop (ds.length-xs.length)).length)).filter (fun n=>((xs.zip us).lookup n).isNone)).isEmpty)=false:=by
 rw[e,Nat.sub_eq_zero_of_le h2,List.drop_zero,List.filter_eq_nil_iff.mpr fun n hn=>(oE h3 hn).elim fun v e=>by rw[e];exact Bool.false_ne_true];rfl
theorem jU{s:Shared}{fd:FuncData}{as:List Arg}{kd:List (Option Expr)}{ds:List Expr}{us dvs:List Value}(hp:fd.params=⟨[],as,none,[],kd,none,ds⟩)(nd:(as.map (·.arg)).Nodup)
  (hd:oo s.heap fd.defaults dvs) (h1:us.length≤as.length) (h2:dvs.length≤as.length) (h3:as.length-dvs.length≤us.length):
  BindsTo s fd ⟨us,[]⟩ ((as.map (·.arg)).zip (us++dvs.drop (us.length-(as.length-dvs.length)))):=fun M A E Q hq=>by
 have hlen:(as.map (·.arg)).length=as.length:=List.length_map ..
 rw[←hlen] at h1 h2 h3 hq
 unfold bindArgs
 rw[hp]
 refine wpAny_bind (m:=forIn [] (List.zip _ _,[]) _) (wpAny_pure (wpAny_bind (yt hd fun r hr=>lQ (fun h=> ?_) (lQ (fun h=> ?_) (wpAny_bind (rO (g:=fg) BE (wpAny_bind (m:=forIn [] (_,[]) _) (wpAny_pure (lQ (fun h=>ffS h) (wpAny_pure ?_))))))))))
 ·exact absurd (of_decide_eq_true (ai h).1) (Nat.not_lt.mpr h1)
 ·exact Bool.noConfusion (h.symm.trans (yz (xs:=as.map fun x:Arg=>x.arg) (us:=us) hr h2 h3))
 ·show Q (List.filterMap (fun n=>((List.foldl fg ((as.map (·.arg)).zip us) ((List.drop ((as.map (·.arg)).length-(List.drop ((r.getD #[]).toList.length-(as.map (·.arg)).length) (r.getD #[]).toList).length) (as.map (·.arg))).zip (List.drop ((r.getD #[]).toList.length-(as.map (·.arg)).length) (r.getD #[]).toList))).lookup n).map (n,·)) (as.map (·.arg)++[])) s
  rw[List.append_nil,oH hr nd h1 h2 h3]
  exact hq
variable{Γ:Cf}{d:Nat}
def Rc(A:Around)(d:Nat):Prop:=A.handled=none∧A.depth+4*d≤992∧A.units+20*d≤9010
theorem Rm.rc{A:Around}(h:Rm A d):Rc A d:=⟨h.1,ltr h.2.1 (by decide),ltr h.2.2 (by decide)⟩
theorem nP{a b j n m:Nat}(h:a+b≤m)(e:m+j≤n):a+j+b≤n:=Nat.add_right_comm a j b▸ltr (Nat.add_le_add_right h j) e
theorem Db{a b j k n m:Nat}(h:a+(b+k)≤m+k)(e:m+j≤n):a+j+b≤n:=nP (Nat.le_of_add_le_add_right ((Nat.add_assoc a b k).symm▸h)) e
theorem pM{args:Args}:(Code.builtin "type.__call__" args).weight≤2:=by
 unfold Code.weight
 have:(Code.builtin "type.__call__" args).frames=0:=rfl
 rw[this]
 have:(Code.builtin "type.__call__" args).isCaller=false:=rfl
 rw[this]
 split<;>split<;>decide
theorem Rm.rcType{A:Around}{args:Args}(h:Rm A d):Rc (A.under (.builtin "type.__call__" args)) d:=⟨h.1,nP h.2.1 (Nat.add_le_add_left pM 990),nP (j:=1) h.2.2 (by decide)⟩
theorem Rc.deeper{A:Around}{env:Env}(h:Rc A (d+1)):Rm (A.deeper env) d:=⟨h.1,Db (b:=4*d) (k:=4) (m:=988) (j:=1) h.2.1 (by decide),Db (b:=20*d) (k:=20) (m:=8990) (j:=3) h.2.2 (by decide)⟩
def yU(h:Heap)(a:Addr):Prop:=∃o fd,h.get? a=some o∧o.data = .func fd
def CallSem(Γ:Cf)(d:Nat)(C:CR):Prop:=∀ {g:Nat} {args:List V} {u:Wl Γ} {v:V} {st':St},C g args u.st v st'→yU Γ.B.heap (Γ.pl.fa g)∧∀ {A:Around} {us:List Value} {RR:Result→Shared→Prop},Rc A d→Rls u args us→
 (∀(u':Wl Γ) x,Lw u u'→u'.st=st'→Rl u' v x→RR (.ok (.ret x)) u'.s)→codeAny (model pw Γ.w) A (.call (.ref (Γ.pl.fa g)) ⟨us,[]⟩) RR u.s
section
variable{u u':Wl Γ}{f:Fm d}{X:Addr→Prop}{ρ:Rho}{E:Value→Shared→Prop}{sc:Sc}{R:Rec}{A:Around}{a:Addr}{P:Prop}{line r i:Nat}{k:KV}{Q:Value→Shared→Prop}{C:CR}{g:Nat}{vs vs0 xs ys:List V}{us first:List Value}{as:List Expr}{p:Pos}{v:V}{x:Value}
theorem qw{M:Model}(h:Heap)(X:yU h a):∃k,(k=Keeper.frame∨k=Keeper.machine∨k=Keeper.boundFrame)∧Looks M h (keeperOf (.ref a)) k:=by
 obtain⟨o,fd,e,hd⟩:=X
 refine⟨.frame,.inl rfl,(Looks.ld (part:=none) e).andThen ?_⟩
 exact hd.symm ▸ .now
theorem tj{env:Env}{pos:Pos}(ok:aF as=true):((backTo pos (starEach as env)).any (·.1)||(([]:List (Option Str×Sem Value)).any (·.1.isNone)))=false:=by
 rw[bv ok];rfl
theorem zR(CS:CallSem Γ d C)(rm:Rm A d)(h:callP C g vs u.st sc k)(r:Rls u vs us)(q:CE u k Q):yU u.h (Γ.pl.fa g)∧wA u A (call (.ref (Γ.pl.fa g)) us []) Q E:=
 callP.of h fun v st' sc' hc hk=>have z:=CS hc;⟨z.1.imp fun _ z=>z.imp fun _ z=>⟨u.ok.base _ _ z.1,z.2⟩,wpAny_call (z.2 rm.rc r fun u' x l es r=>q x u' v sc' l r (es▸hk))⟩
theorem kl(CS:CallSem Γ d C)(IH:bc Γ d R.e)(ok:aF as=true)(h:dX R f.cx as ρ u.st sc fun vs st sc=>callP C g (vs0++vs) st sc k)(F:Fr f X u ρ)(hr:Rls u vs0 first)(q:CE u k Q):wA u f.A (callWith p (.ref (Γ.pl.fa g)) first (backTo p (starEach as f.env)) []) Q E:=
 callWith_of (P:=fun h=>yU h (Γ.pl.fa g)) (tj ok) qw (sem_args IH ok h F fun us u' vs sc l r n h=>zR CS F.rm h ((hr.up l).append r) (q.tr l))
theorem je{M:Model}{s:Shared}{env:Env}{o:Expr}{n:Str}{ap p:Pos}(pb:eM o=true)(hl:Nat.beq ap.endLine p.line=true)(ok:aF as=true)(len:Nat.ble as.length 20=true)
  (h:wpAny M A (eval o env) (fun ov s₁=>∀pm,wpAny M A (getMethod ov n pm) (fun fx s₂=>wpAny M A (callWith p fx.1 fx.2 (backTo p (starEach as env)) []) Q E s₂) E s₁) E s):
  wpAny M A (eval (.Call (.Attribute o n ap) as [] p) env) Q E s:=by
 refine MethodCall_ (pl:=do return (←importBound o env).getD true) (wpAny_mono h (fun _ _ q=>q _) fun _ _ q=>q) ?_
 have e1:methodCallForm (as.length+0) (backTo p (starEach as env)) []=true:=by
  unfold methodCallForm
  have a1:(backTo p (starEach as env)).all (!·.1)=true:=List.all_eq_true.mpr fun x hx=>by
   have:=List.any_eq_false.mp (bv (env:=env) (pos:=p) ok) x hx
   simpa using this
  rw[a1]
  simp
  exact Nat.lt_of_le_of_lt (Nat.le_of_ble_eq_true len) (by decide)
 have e2:(ap.endLine==p.line)=true:=by rw[Nat.eq_of_beq_eq_true hl];exact beq_self_eq_true _
 show(do
  let ov ←attributeBase o n env (eval o env)
  standAt ap.atName
  methodCall o n ap p env ov (as.length+0) (backTo p (starEach as env)) [])=_
 rw[fW pb]
 unfold methodCall calleeOf methodCallPos
 rw[e1,e2]
 rfl
theorem dH(IH:bc Γ d R.e){id:String}{k:KL}(ok:aF as=true)(h:dX R f.cx as ρ u.st sc k)(F:Fr f X u ρ)(q:CL u as.length k fun us s=>wpAny (model pw Γ.w) f.A (call (.builtin id) (first++us) []) Q E s):wA u f.A (callWith p (.builtin id) first (backTo p (starEach as f.env)) []) Q E:=
 callWith_builtin (bv ok) (sem_args IH ok h F q)
theorem vn(g:u.G a = .obj r i)(e:(u.st.get r)[i]? = some (.list xs))(rv:Rl u v x)(fw:cL xs.length)(hk:k .none (u.st.upd r i (.list (xs++[v]))) sc)(q:CE u k Q):wA u A (call (.builtin "list.append") [.ref a,x]) Q E:=
 ListAt.elim (u.objAt g e) fun arr n ea b rr=>have sz:=b7 rr fw
  wpAny_list_append_plain (s:=u.s) ⟨n,ea⟩ (fun h' hp sb=>hp.elim fun m e'=>have kp:=Kp.change sb (gF g) ⟨_,e'⟩
   q .none (u.change h' u.t (.list (xs++[v])) g e sb ⟨_,e'⟩ ⟨arr.push x,m,e',Array.size_push x▸ltr (Nat.succ_le_succ sz) (by decide),by rw[Array.toList_push];exact(rr.keep kp u.ok.live).append (.one (rv.keep kp u.ok.live))⟩) .none sc Wl.change_le .none hk)
   (bH (ltr sz (by decide)))
theorem nk{pl:aN}{h:Heap}{G:Gh}{items:Array Value}(r:Rels pl h G (xs++[v]) items.toList)(q:∀y,items[items.size-1]? = some y→Rel pl h G v y→Rels pl h G xs items.pop.toList→P):P:=
 r.split fun ws zs e r1 r2=>r2.oneI fun y ez ry=>by
  obtain⟨l⟩:=items
  have e:l=ws++[y]:=ez▸e
  subst e
  exact q y (by simp) ry (by simpa using r1)
theorem qa(g:u.G a = .obj r i)(e:(u.st.get r)[i]? = some (.list (ys++[v])))(hk:k v (u.st.upd r i (.list ys)) sc)(q:CE u k Q):wA u A (call (.builtin "list.pop") [.ref a]) Q E:=
 ListAt.elim (u.objAt g e) fun arr n ea b rr=>nk rr fun y hy r1 r2=>
  Copied.pop_at (s:=u.s) ea hy (fun h' sb e'=>have kp:=Kp.change sb (gF g) ⟨_,e'⟩
   q y (u.change h' u.t (.list ys) g e sb ⟨_,e'⟩ ⟨arr.pop,_,e',Array.size_pop▸ltr (Nat.sub_le ..) b,r2.keep kp u.ok.live⟩) v sc Wl.change_le (r1.up Wl.change_le) hk) (ltr b dr)
end
structure xK(Γ:Cf):Prop where
 code:CodeHd Γ.B.heap Γ.pl.lc Γ.pl.pt
 bui:∃mg,Γ.B.heap.Ns mainGlobals mg∧Γ.B.heap.BuiltinsAt mg Γ.pl.pt
section
variable{u u':Wl Γ}{f:Fm d}{X:Addr→Prop}{ρ:Rho}{E:Value→Shared→Prop}{sc:Sc}{A:Around}{a:Addr}{P:Prop}{k:KV}{Q:Value→Shared→Prop}{p:Pos}{v:V}{x:Value}{cx:Cx}{args:Arguments}{body:Expr}{scope:Scope}{h':Heap}{t:Tok}
theorem Kp.tab(k:∀b o,b≠Γ.pl.pt→u.h.get? b=some o→h'.get? b=some o)(ok:TabOk Γ.pl h' u.G):Kp noX u.h h' u.G u.G:=⟨fun b o q=> .inr ⟨rfl,(Classical.em (b=Γ.pl.pt)).elim (fun e=>ok.elim fun _ z=>⟨_,e▸z.1,.inl (e▸u.ok.tab▸rfl)⟩) fun n=>⟨o,k b o n q,.inr rfl⟩⟩⟩
theorem sy{b:Addr}{r:Role}(g:u.G b=r)(n:r ≠ .tab):b≠Γ.pl.pt:=fun q=>n (g.symm.trans (q▸u.ok.tab))
noncomputable def Wl.tab(u:Wl Γ)(h':Heap)(t:Tok)(k:∀b o,b≠Γ.pl.pt→u.h.get? b=some o→h'.get? b=some o)(ok:TabOk Γ.pl h' u.G):Wl Γ:=
 have kp:=Kp.tab k ok
 ⟨h',t,u.G,u.st,fun b o e=>(kp.frz (u.ok.base b o e) (u.ok.frz0 b o e)).2,u.ok.frz0,fun b n=>(u.ok.live b n).elim fun o e=>(kp.each b o e).elim (fun q=>q.2.elim) fun q=>q.2.imp fun _ q=>q.1,
  fun a i j g=>(u.ok.objs a i j g).of fun o e x=>optP.mk e (x.keep kp u.ok.live (fun d gd=>⟨gd,fun o=>k d o (sy gd fun q=>nomatch q)⟩) fun o=>k a o (sy g fun q=>nomatch q)),u.ok.inj,u.ok.dicts,u.ok.tab,ok⟩
theorem yD{p q:Pos}(l:q.line=p.line)(c:q.col=p.col)(xs:List Value)(h:TriplesOk xs):codeAmong q xs=codeAmong p xs:=by
 fun_induction TriplesOk xs with
 |case1=>rfl
 |case2 a t b u x rest ih=>unfold codeAmong;rw[l,c,ih h]
 |case3 l h1 h2=>exact h.elim
theorem restNo.eq{a:Arguments}{x:Arg}(h:restNo a=true)(e:a.args=[x]):a=⟨[],[x],none,[],[],none,[]⟩:=by
 obtain⟨po,ar,va,ko,kd,kw,de⟩:=a
 have h1:=ai h;have h2:=ai h1.1;have h3:=ai h2.1;have h4:=ai h3.1;have h5:=ai h4.1
 rw[show de=[] from List.isEmpty_iff.mp h1.2,show kw=none from Option.isNone_iff_eq_none.mp h2.2,show kd=[] from List.isEmpty_iff.mp h3.2,show ko=[] from List.isEmpty_iff.mp h4.2,show va=none from Option.isNone_iff_eq_none.mp h5.2,show po=[] from List.isEmpty_iff.mp h5.1,show ar=[x] from e]
theorem namesAre.eq{x d:Str}:∀ {l:Cx},namesAre l x d=true→l=[(x,.local),(d,.free)]
 |[],h=>ffS h
 |[_],h=>ffS h
 |_::_::_::_,h=>ffS h
 |[(a,ka),(b,kb)],h=>by
  have h1:=ai h;have h2:=ai h1.1;have h3:=ai h1.2
  cases strEq_iff.mp h2.1;cases mJ h2.2;cases strEq_iff.mp h3.1;cases uK h3.2
  rfl
theorem oneD.some{α β:Type}{g:α→Option β}{b:β}:∀ {l:List α},oneD l none g=some b→(∀a,l=[a]→g a=some b→P)→P
 |[a],h,q=>q a rfl h
theorem subD.some{β:Type}{e:Expr}{b:β}{g:Expr→Expr→Option β}(h:subD e none g=some b)(q:∀o i p,e = .Subscript o i p→g o i=some b→P):P:=by
 cases e<;>first|exact q _ _ _ rfl h|exact ab rfl h
theorem lamOf.of(h:lamOf cx args body scope p ρ=some v)(q:∀x dn k i,pK args body scope dn x→p.line=137→p.col=54→jm cx=true→look dn cx=some .cell→look dn ρ=some (.fv (.ref k i))→v = .clo k i→P):P:=
 oneD.some h fun a ea h=>subD.some h fun o i sp eb h=>nameD.some h fun dn dp ed h=>nameD.some h fun x xp ex h=>by
  obtain⟨an,ann,apos⟩:=a
  have z:=gateD.some h
  have z1:=ai z.1;have z2:=ai z1.1;have z3:=ai z2.1;have z4:=ai z3.1;have z5:=ai z4.1
  have y1:=ai z2.2;have y2:=ai y1.1;have y3:=ai y2.1
  have w1:=ai z1.2;have w2:=ai w1.1;have w3:=ai w2.1;have w4:=ai w1.2
  refine optD.some z.2 fun lv el hv=> ?_
  induction lv with
  |fv y=>
   cases y with
   |ref kk ii=>
    cases strEq_iff.mp z5.2
    exact q _ dn kk ii ⟨⟨ann,apos,restNo.eq z5.1 ea⟩,⟨dp,xp,sp,ed▸ex▸eb⟩,namesAre.eq z4.2,fT z3.2,ef y3.1,ef y3.2,y2.2,y1.2,beq_eq_false_iff_ne.mpr (dg (ef w3.1))⟩ (Nat.eq_of_beq_eq_true w3.2) (Nat.eq_of_beq_eq_true w2.2) w4.1
     (strEq_iff.mp w4.2▸(eN w4.1).elim fun k z=>z.1.trans (by induction k<;>first|rfl|cases z.2)) el (sji hv).symm
   |_=>exact ab rfl hv
  |_=>exact ab rfl hv
end
variable{Γ:Cf}{d:Nat}
section
variable{u u':Wl Γ}{f:Fm d}{X:Addr→Prop}{ρ:Rho}{E:Value→Shared→Prop}{sc:Sc}{A:Around}{P:Prop}{k:KV}{Q:Value→Shared→Prop}{p:Pos}{v:V}{x:Value}{args:Arguments}{body:Expr}{scope:Scope}{R:Rec}{r i line:Nat}{as:List Expr}
theorem jX{env:Env}{x dn:Str}{c:Addr}(na:scope.names=[(x,.local),(dn,.free)])(lk:env.cells.lookup dn=some c):closureFor scope env=pure [(dn,c)]:=by
 rw[lE fun p hp e=> ?_,na]
 ·show pure [(dn,(env.cells.lookup dn).getD 0)]=_
  rw[lk];rfl
 ·rw[na] at hp
  rcases hp with _|⟨_,_|⟨_,h⟩⟩
  ·cases e
  ·exact⟨c,lk⟩
  ·cases h
theorem AI(BL:xK Γ)(h:someE (lamOf f.cx args body scope p ρ) sc fun v sc=>k v u.st sc)(F:Fr f X u ρ)(q:CE u k Q):wA u f.A (eval (.Lambda args body scope p) f.env) Q E:=
 h.of fun v sc' hv hk=>lamOf.of hv fun x dn kk ii sh hl hc ho hdc hd ev=>F.elim fun m cont F=>by
  subst ev
  have s:=F.sv dn _ hd
  have home:=F.st.home ho
  refine s.sl.elim (fun h=>(F.st.cellk dn _ hdc rfl).elim (fun e=>nomatch h.1.symm.trans e) fun e=>nomatch h.1.symm.trans e) fun h=>h.elim fun c ca=>s.vl.elim fun w z=>z.2.refI fun ad ew gad=> ?_
  have hic:u.h.IsCell c (some (.ref ad)):=ew▸z.1▸ca.ic
  have hgc:u.G c = .frz:=ca.gc
  obtain⟨an,ap,rfl⟩:=sh.pa
  refine BL.bui.elim fun mg hb=>u.ok.tabOk.elim fun ps tb=> ?_
  have base:∀ {b o},Γ.B.heap.get? b=some o→b≠Γ.pl.pt:=fun e q=>Role.noConfusion ((u.ok.frz0 _ _ e).symm.trans (q▸u.ok.tab))
  have hgP:mainGlobals≠Γ.pl.pt:=(ft hb.1).elim fun _ e=>base e
  have hb':u.s.heap.BuiltinsAt mg Γ.pl.pt:=hb.2.imp fun bm z=>z.imp fun o z=>⟨z.1,z.2.1,z.2.2.1,z.2.2.2.1,u.ok.base _ _ z.2.2.2.2.1,z.2.2.2.2.2⟩
  have fr:∀b,u.h.objs.size≤b→u.G b = .frz:=fun b hb=>bO u.ok.live (bq _ hb)
  refine kla_eval rfl ?_
  rw[home.2]
  refine tb.2.2.elim (fun hnf=> ?_) fun hit=>hit.elim fun c' hit=> ?_
  ·refine kla_makeFunction (s:=u.s) (jX sh.na ca.lk) F.st.glbs (hb.1.keeps u.ok.base) home.1 (BL.code.keeps u.ok.base) tb.1 tb.2.1 (hnf p hl hc) hgP hb' fun c' ctv h' tk hx hge hlt hrec htb=> ?_
   have keep:∀b o,b≠Γ.pl.pt→u.h.get? b=some o→(h'.push (kla_obj "<lambda>" Γ.pl.lq ⟨[],[⟨x,an,ap⟩],none,[],[],none,[]⟩ body scope [(dn,c)] ((mg "__name__").getD .none) c' ctv)).get? b=some o:=fun b o n e=>Heap.get?_push_of_some _ (hx b o n e)
   have hco:CodeAt (h'.push (kla_obj "<lambda>" Γ.pl.lq ⟨[],[⟨x,an,ap⟩],none,[],[],none,[]⟩ body scope [(dn,c)] ((mg "__name__").getD .none) c' ctv)) u.G c' Γ.pl.lq:=hrec.elim fun c₂ z=>z.elim fun oc z=>z.elim fun vs z=>z.elim fun t z=>⟨oc,vs,t,Heap.get?_push_of_some _ (Value.ref.inj z.1▸z.2.1),z.2.2.1,z.2.2.2,fr _ hge⟩
   have tr:=fun a b c=>TriplesOk_snoc a b c _ tb.2.1
   have ok:TabOk Γ.pl (h'.push (kla_obj "<lambda>" Γ.pl.lq ⟨[],[⟨x,an,ap⟩],none,[],[],none,[]⟩ body scope [(dn,c)] ((mg "__name__").getD .none) c' ctv)) u.G:=⟨_,Heap.get?_push_of_some _ htb,by rw[Array.toList_append];exact tr _ _ _,.inr ⟨c',fun p' l1 l2=>by
    rw[Array.toList_append,yD (p:=p) (l1.trans hl.symm) (l2.trans hc.symm) _ (tr _ _ _)]
    exact codeAmong_snoc _ tb.2.1 (hnf p hl hc),hco⟩⟩
   exact q (.ref h'.objs.size) (u.tab _ tk keep ok) _ sc' (Kp.tab keep ok) (.clo ⟨Γ.pl.lq,_,body,scope,dn,x,c,_,c',ctv,sh,new_obj rfl,hic.imp fun o z=>⟨keep _ _ (sy hgc fun q=>nomatch q) z.1,z.2⟩,hgc,hco⟩ (fr _ (ltr hge (Nat.le_of_lt hlt))) gad) hk
  ·refine kla_makeFunctionHit (s:=u.s) (jX sh.na ca.lk) F.st.glbs (hb.1.keeps u.ok.base) home.1 (BL.code.keeps u.ok.base) tb.1 tb.2.1 (hit.1 p hl hc) hb' fun ctv h' tk hk2 hsz=> ?_
   have keep:Grows u.h (h'.push (kla_obj "<lambda>" Γ.pl.lq ⟨[],[⟨x,an,ap⟩],none,[],[],none,[]⟩ body scope [(dn,c)] ((mg "__name__").getD .none) c' ctv)):=fun b o e=>Heap.get?_push_of_some _ (hk2 b o e)
   have l:Lw u (u.grow _ tk keep):=Wl.grow_le
   exact q (.ref h'.objs.size) (u.grow _ tk keep) _ sc' l (.clo ⟨Γ.pl.lq,_,body,scope,dn,x,c,_,c',ctv,sh,new_obj rfl,hic.imp fun o z=>⟨keep _ _ z.1,z.2⟩,hgc,hit.2.keep l⟩ (fr _ hsz) gad) hk
theorem yZ(BG:cc Γ)(rm:Rm A d){n:Int}{t:Tok}{es:List (Int×V)}{a:Addr}{b:Addr}(hc:IsClo u.h u.G a b)(gb:u.G b = .obj r i)(eo:(u.st.get r)[i]? = some (.idd es))(ev:ag n es=some v)(hk:k v u.st sc)(q:CE u k Q):wA u A (call (.ref a) [.int n t] []) Q E:=by
 obtain⟨ql,params,body,scope,dn,y,c,pm,c',ctv,sh,ea,hic,gc,oc,vs,tq,ec,dc,vq,gc'⟩:=hc
 have dl:A.depth<recursionLimit:=Nat.lt_of_le_of_lt (ltr (Nat.le_add_right _ (4*d)) rm.2.1) (by decide)
 refine wpAny_call (kla_callFunE (s:=u.s) (fd:=kla_fn "<lambda>" ql params body scope [(dn,c)] pm (.ref c') ctv) (body:=body) dl ea rfl sh.co sh.ge rfl ⟨c',oc,vs,tq,rfl,ec,dc,vq⟩ ?_)
 obtain⟨an,ap,rfl⟩:=sh.pa
 obtain⟨dp,xp,sp,rfl⟩:=sh.bo
 have na:=sh.na
 have ly:scope.names.lookup y=some .local:=by rw[na,aj,strEq_self];rfl
 have ld:scope.names.lookup dn=some .free:=by rw[na,List.lookup_cons,sh.ne,aj,strEq_self];rfl
 refine jU (s:=u.s) (fd:=kla_fn "<lambda>" ql ⟨[],[⟨y,an,ap⟩],none,[],[],none,[]⟩ _ scope [(dn,c)] pm (.ref c') ctv) (as:=[⟨y,an,ap⟩]) (us:=[.int n t]) (dvs:=[]) rfl (List.nodup_cons.mpr ⟨List.not_mem_nil,.nil⟩) (.inl ⟨rfl,rfl⟩) (Nat.le_refl 1) (Nat.zero_le 1) (Nat.le_refl 1) _ _ _ _ ?_
 refine wpAny_newFunctionEnv (binds:=[(y,.int n t)]) (fun p hp=> ?_) (fun p hp=> ?_) (fun h₁ hns sb=> ?_) sh.ki
 ·rw[na] at hp
  rcases hp with _|⟨_,_|⟨_,h⟩⟩
  ·exact fun q=>nomatch q
  ·exact fun q=>nomatch q
  ·cases h
 ·exact List.mem_singleton.mp hp▸ly
 have keep:Grows u.h h₁:=fun b o e=>sb.extBut b o (Nat.ne_of_lt (Heap.lt_size e)) (Heap.get?_push_of_some _ e)
 refine⟨(BG.lim.keeps u.ok.base).keeps keep,?_⟩
 let u1:=u.grow h₁ (u.t+[(y,Value.int n t)].length) keep
 refine IddAt.look (u1.objAt (o:= .idd es) gb eo) n fun kvs hd l=>kla_codeExpr (Subscript_ (wpAny_Name (wpAny_loadName_free (c:=c) sh.ki ld (by show List.lookup dn [(dn,c)]=some c;rw[aj,strEq_self];rfl) (v:= .ref b) (hic.imp fun _ z=>⟨keep _ _ z.1,z.2⟩) ?_ (eI sh.okd)) (fb sh.okd)))
 exact wpAny_Name (wpAny_loadName_local (v:= .int n t) sh.ki ly hns (by show List.lookup y [(y,Value.int n t)]=_;rw[aj,strEq_self];rfl) (gP (u:=u1) hd (intKind_is pw Γ.w n t) l ev hk (q.tr Wl.grow_le))) (fb sh.okx)
theorem qO(BG:cc Γ)(IH:bc Γ d R.e)(ok:aF as=true)(h:dX R f.cx as ρ u.st sc (Fn line r i k))(F:Fr f X u ρ)(hr:Rl u (.clo r i) x)(q:CE u k Q):wA u f.A (callWith p x [] (backTo p (starEach as f.env)) []) Q E:=
 hr.cloI fun a b ex hc ga gb=>ex▸callWith_of (P:=fun h=>yU h a) (tj ok) qw (sem_args IH ok h F fun us u' vs sc l r n h=>by
  refine r.oneD h fun v y eu ry h=>ry.intD h fun n t en h=>h.of fun ob sc eo h=>O.iddD.of h fun es eb h=>optV.of h fun v sc ev h=> ?_
  have hc':=(hc.here).elim fun _ e=>IsClo.keep l hc ga
  exact eu▸en▸⟨by obtain⟨q,params,body,scope,dn,y,c,pm,c',ctv,sh,ea,_⟩:=hc';exact⟨_,_,ea,rfl⟩,yZ BG F.rm hc' (l.obj gb) (eb▸eo) ev h (q.tr l)⟩)
end
variable{Γ:Cf}{d:Nat}
section
variable{u u':Wl Γ}{f:Fm d}{X:Addr→Prop}{ρ:Rho}{E:Value→Shared→Prop}{sc:Sc}{A:Around}{P:Prop}{k:KV}{Q:Value→Shared→Prop}{p:Pos}{v:V}{x:Value}{R:Rec}{r i line c:Nat}{as:List Expr}{a:Addr}{C:CR}{mn:Str}{vs:List V}{us:List Value}
theorem LookR.getD{pl:aN}{h:Heap}{G:Gh}{o':Option Value}{dv:V}{dx:Value}(rd:Rel pl h G dv dx):∀ {o:Option V},LookR pl h G o o'→Rel pl h G (o.getD dv) (o'.getD dx)
 | .none,e=>(e:o' = .none)▸rd
 | .some _,e=>e.elim fun _ z=>z.1▸z.2
section
variable{K:Type}[DecidableEq K]{knd:KeyKind pw Γ.w K}{kk:K}{key:Value}{kvs:List (K×Value)}{o:Option V}
theorem vg{dv:V}{dx:Value}(ne:(a==sysModules)=false)(hd:u.h.DictOf knd a kvs)(hk:knd.is kk key=true)(l:LookR Γ.pl u.h u.G o (valueAt kvs kk))(rd:Rl u dv dx)(h:k (o.getD dv) u.st sc)(q:CE u k Q):wA u A (call (.builtin "dict.get") [.ref a,key,dx] []) Q E:=
 call_meetsIn (s:=u.s) PySem.F.slot_dict_get (show u.s.heap.DictOf knd a kvs from hd).typeIs PySem.F.entry_dict_get (PySem.F.args_dict_get_3 _ _ _) (meets_dict_get_default knd a hk ne dx) ⟨_,hd.mapOf,q.ret (l.getD rd) h⟩
theorem uZ(ne:(a==sysModules)=false)(hd:u.h.DictOf knd a kvs)(hk:knd.is kk key=true)(l:LookR Γ.pl u.h u.G o (valueAt kvs kk))(h:k (o.getD .none) u.st sc)(q:CE u k Q):wA u A (call (.builtin "dict.get") [.ref a,key] []) Q E:=
 call_meetsIn (s:=u.s) PySem.F.slot_dict_get (show u.s.heap.DictOf knd a kvs from hd).typeIs PySem.F.entry_dict_get (PySem.F.args_dict_get_2 _ _) (meets_dict_get knd a hk ne) ⟨_,hd.mapOf,q.ret (l.getD .none) h⟩
end
theorem optD.ofNone{α:Type}{p:Prop}:∀ {o:Option α},(optD o p fun _=>False)→o=none∧p
 | .none,h=>⟨rfl,h⟩
theorem yY(BM:bx Γ)(BK:dz Γ)(CS:CallSem Γ d C)(IH:bc Γ d R.e){ov:V}{pm:Sem Bool}(ok:aF as=true)(h:zn R C f.cx mn as line ρ k ov u.st sc)(F:Fr f X u ρ)(hr:Rl u ov x)(q:CE u k Q):
  wA u f.A (getMethod x mn pm) (fun fx s₂=>wpAny (model pw Γ.w) f.A (callWith p fx.1 fx.2 (backTo p (starEach as f.env)) []) Q E s₂) E:=
 hr.refD h fun r i a ex ga h=>h.of fun ob sc eo h=>by
  subst ex
  have oa:=u.objAt ga eo
  induction ob with
  |inst c fs=>exact have z:=optD.ofNone h;optP.of z.2 fun g hg h=>oa.elim fun da i=>vz BK hg i.1 i.2.2 z.1 (kl CS IH (vs0:=[.ref r _]) (first:=[.ref a]) ok h F (.one (.ref ga)) q)
  |list xs0=>
   refine ListAt.elim oa fun arr n hp _ _=>gateD.of h (fun em h=> ?_) fun h=> ?_
   ·exact strEq_iff.mp em▸getMethod_list_append (s:=u.s) hp rfl rfl (dH (first:=[.ref a]) IH ok h F fun us u₁ vs sc l r n h=>r.oneD h fun v y eu ry h=>h.of fun ob sc eo h=>O.listD.of h fun xs eb h=>eu▸vn (l.obj ga) (eb▸eo) ry h.1 h.2 (q.tr l))
   ·have z:=gate.of h
    have z2:=nilD.of z.2
    exact strEq_iff.mp z.1▸Copied.getMethod_pop_at (s:=u.s) hp rfl rfl (dH (first:=[.ref a]) (k:=fun vs st' _=>vs=[]∧st'=u.st) (sc:=sc) IH ok (z2.1▸⟨rfl,rfl⟩) F fun us u₁ vs _ l r n h=>z2.2.of fun ob sc eo h'=>O.listD.of h' fun xs eb h'=>popE.of h' fun ys v sc ex hk=>by
     cases (h.1▸r:Rls u₁ [] us).nilI
     exact qa (l.obj ga) (h.2▸ex▸eb▸eo) (h.2▸hk) (q.tr l))
  |idd es0=>
   have z:=gate.of h
   exact DictA.elim oa fun kvs0 d0 _ _ _=>strEq_iff.mp z.1▸getMethod_builtin (s:=u.s) (show u.s.heap.DictOf _ a kvs0 from d0).typeIs PySem.F.plainAttrs_dict PySem.F.slot_dict_get PySem.F.type_dict_get (show u.s.heap.DictOf _ a kvs0 from d0).mapOf.noDict (dH (first:=[.ref a]) IH ok z.2 F fun us u₁ vs sc l r n h=>
    r.twoD h fun x dv y y' eu rx rd h=>rx.intD h fun n t en h=>h.of fun ob sc eo h=>O.iddD.of h fun es eb h=>optV.of h fun v sc hv hk=>have g1:=l.obj ga
     IddAt.look (u₁.objAt (o:= .idd es) g1 (eb▸eo)) n fun kvs hd lk=>eu▸en▸vg (gW BM (oW g1)) hd (intKind_is pw Γ.w n t) lk rd (sji hv▸hk) (q.tr l))
  |sd es0=>
   have z:=gate.of h
   exact DictA.elim oa fun kvs0 d0 _ _ _=>strEq_iff.mp z.1▸getMethod_builtin (s:=u.s) (show u.s.heap.DictOf _ a kvs0 from d0).typeIs PySem.F.plainAttrs_dict PySem.F.slot_dict_get PySem.F.type_dict_get (show u.s.heap.DictOf _ a kvs0 from d0).mapOf.noDict (dH (first:=[.ref a]) IH ok z.2 F fun us u₁ vs sc l r n h=>
    r.oneD h fun x y eu rx h=>rx.strD h fun n t en h=>h.of fun ob sc eo h=>O.sdD.of h fun es eb h=>optV.of h fun v sc hv hk=>have g1:=l.obj ga
     SdAt.look (u₁.objAt (o:= .sd es) g1 (eb▸eo)) n fun kvs hd lk=>eu▸en▸uZ (gW BM (oW g1)) hd (strKind_is pw Γ.w n t) lk (sji hv▸hk) (q.tr l))
theorem Ac(ok:dy c=true):jL c<28:=
 have e:=fun {n} (e:Nat.beq c n=true) (h:jL n<28)=>(Nat.eq_of_beq_eq_true e).symm▸h
 have o:=fun {a b:Bool} (h:(a||b)=true)=>Bool.or_eq_true_iff.mp h
 (o ok).elim (fun ok=>(o ok).elim (fun ok=>(o ok).elim (fun ok=>(o ok).elim (fun h=>e h (by decide)) fun h=>e h (by decide)) fun h=>e h (by decide)) fun h=>e h (by decide)) fun h=>e h (by decide)
theorem isNo.of{v:V}{p:Prop}(h:isNo v p):v = .none∧p:=by
 cases v<;>first|exact⟨rfl,h⟩|exact h.elim
theorem AC(BK:dz Γ)(CS:CallSem Γ d C)(rm:Rm A d)(h:xA C c line k vs u.st sc)(r:Rls u vs us)(q:CE u k Q):dy c=true∧wA u A (call (.ref (Γ.pl.ca c)) us []) Q E:=
 optP.of h fun g hg h=>have c1:=mm hg;⟨c1,alE.of h fun sc h=>callP.of h fun v st' sc hc h=>by
  have m:=BK.meth c _ g hg
  have XI:=BK.In.keeps u.ok.base
  have p:=xu u.h (a:=emptyDict) (b:=instObj (Γ.pl.ca c) u.h.objs.size) rfl rfl
  let u1:=u.freshI (a:=u.h.objs.size+1) (d:=u.h.objs.size) (c:=c) _ u.t (Ac c1) p.2.2 (bq _ (Nat.le_succ _)) (aC _) (Nat.succ_ne_self _).symm p.2.1 p.1
  have l1:Lw u u1:=Wl.freshI_le
  have z:=isNo.of h
  have g1:u1.G (u.h.objs.size+1) = .obj (jL c) (u.st.get (jL c)).length:=aW ..
  refine wpAny_call (make_core (h:=u.h) (makes_of XI (BK.makes c c1)) (looks_findIn XI m.1) (fun self=>bind_fn XI self m.2) (.inl rfl) ?_)
  exact(CS (u:=u1) hc).2 rm.rcType (.cons (.ref g1) (r.up l1)) fun u' x l es r=>⟨(z.1▸r:Rl u' .none x).noneI▸rfl,q _ u' _ sc (l1.trans l) (.ref (l.obj g1)) (es▸z.2)⟩⟩
theorem qY(BK:dz Γ)(CS:CallSem Γ d C)(IH:bc Γ d R.e)(ok:aF as=true)(h:dX R f.cx as ρ u.st sc (xA C c line k))(F:Fr f X u ρ)(q:CE u k Q):wA u f.A (callWith p (.ref (Γ.pl.ca c)) [] (backTo p (starEach as f.env)) []) Q E:=
 callWith_of (P:=fun h=>Γ.K.In h∧dy c=true) (tj ok) (fun h X=>keeps_K (BK.keep c X.2) h X.1) (sem_args IH ok h F fun us u' vs sc l r n h=>have z:=AC BK CS F.rm h r (q.tr l);⟨⟨BK.In.keeps u'.ok.base,z.1⟩,z.2⟩)
end
variable{Γ:Cf}{d:Nat}
section
variable{u u':Wl Γ}{f:Fm d}{X:Addr→Prop}{ρ:Rho}{E:Value→Shared→Prop}{sc:Sc}{A:Around}{P:Prop}{k:KV}{Q:Value→Shared→Prop}{p:Pos}{v r:V}{y:Value}{R:Rec}{line:Nat}{as:List Expr}{a:Addr}{xs vs:List V}{us:List Value}{w:World}{s:Shared}
theorem tW{items:Array Value}(b:items.size≤aH):(items.size:Int)<2 ^ 63:=Int.ofNat_lt.mpr (Nat.lt_of_le_of_lt b (by decide))
theorem hZ(l:ListAt Γ.pl u.h u.G a xs)(hk:k (.int (Int.ofNat xs.length)) u.st sc)(q:CE u k Q):wA u A (call (.builtin "len") [.ref a]) Q E:=
 l.elim fun items n hp b r=>call_len_list (s:=u.s) ⟨_,hp,rfl,n,rfl⟩ (tW b) (q.int (r.size▸hk:k (.int (Int.ofNat items.size)) u.st sc))
theorem mK{es:List (Int×V)}(ne:(a==sysModules)=false)(l:IddAt Γ u.h u.G a es)(hk:k (.int (Int.ofNat es.length)) u.st sc)(q:CE u k Q):wA u A (call (.builtin "len") [.ref a]) Q E:=
 DictA.elim l fun kvs hd b e r=>call_len_dict (s:=u.s) ne hd (Int.ofNat_lt.mpr (Nat.lt_of_le_of_lt b (by decide))) (q.int (RelKs.length ⟨e,r⟩▸hk:k (.int (Int.ofNat kvs.length)) u.st sc))
theorem wN(BM:bx Γ)(e:Hn u.st v=some r)(rel:Rl u v y)(hk:k r u.st sc)(q:CE u k Q):wA u A (call (.builtin "len") [y]) Q E:=by
 cases v with
 |tup xs=>exact rel.tupI fun a items n ex ea g b rr=>ex▸len_tuple (s:=u.s) ⟨_,ea,rfl,n,rfl⟩ (tW b) (q.int (rr.size▸sji e▸hk:k (.int (Int.ofNat items.size)) u.st sc))
 |lst xs=>exact rel.lstI fun a items n ex ea g b rr=>ex▸hZ ⟨items,n,ea,b,rr⟩ (sji e▸hk) q
 |ref kk i=>
  refine optD.some e fun o eo e=>rel.refI fun a ex g=>ex ▸ ?_
  have oa:=u.objAt g eo
  induction o with
  |list xs=>exact hZ oa (sji e▸hk) q
  |idd es=>exact mK (gW BM (oW g)) oa (sji e▸hk) q
  |_=>exact ab rfl e
 |_=>exact ab rfl e
theorem wv{r:Bool}(e:nT 3 v=some r)(rel:Rl u v y)(q:∀t,Q (.bool r) {u.s with toks:=t}):wA u A (call (.builtin "isinstance") [y,.type "tuple"]) Q E:=by
 cases v with
 |none=>exact rel.noneI▸IsiPair.NoneType_tuple (s:=u.s) (sji e▸q _)
 |bool b=>exact rel.boolI▸IsiPair.bool_tuple (s:=u.s) (sji e▸q _)
 |int i=>exact rel.intI fun t ex=>ex▸IsiPair.int_tuple (s:=u.s) (sji e▸q _)
 |str i=>exact rel.strI fun t ex=>ex▸IsiPair.str_tuple (s:=u.s) ((sji e:false=r)▸q _)
 |tup xs=>exact rel.tupI fun a items n ex ea g b rr=>ex▸IsiPair.tuple_tuple (s:=u.s) ea rfl ((sji e:true=r)▸q u.t)
 |lst xs=>exact rel.lstI fun a items n ex ea g b rr=>ex▸IsiPair.list_tuple (s:=u.s) ea rfl (sji e▸q _)
 |_=>exact ab rfl e
theorem A6{r:Bool}(e:nT 12 v=some r)(rel:Rl u v y)(q:∀t,Q (.bool r) {u.s with toks:=t}):wA u A (call (.builtin "isinstance") [y,.type "str"]) Q E:=by
 cases v with
 |none=>exact rel.noneI▸IsiPair.NoneType_str (s:=u.s) (sji e▸q _)
 |bool b=>exact rel.boolI▸IsiPair.bool_str (s:=u.s) (sji e▸q _)
 |int i=>exact rel.intI fun t ex=>ex▸IsiPair.int_str (s:=u.s) (sji e▸q _)
 |str i=>exact rel.strI fun t ex=>ex▸IsiPair.str_str (s:=u.s) ((sji e:true=r)▸q u.t)
 |tup xs=>exact rel.tupI fun a items n ex ea g b rr=>ex▸IsiPair.tuple_str (s:=u.s) ea rfl ((sji e:false=r)▸q _)
 |lst xs=>exact rel.lstI fun a items n ex ea g b rr=>ex▸IsiPair.list_str (s:=u.s) ea rfl (sji e▸q _)
 |_=>exact ab rfl e
theorem D4{b:Nat}{r:Bool}(hb:(Nat.beq b 3||Nat.beq b 12)=true)(e:nT b v=some r)(rel:Rl u v y)(q:∀t,Q (.bool r) {u.s with toks:=t}):wA u A (call (.builtin "isinstance") [y,biV b]) Q E:=
 (Bool.or_eq_true_iff.mp hb).elim (fun h=>by cases Nat.eq_of_beq_eq_true h;exact wv e rel q) fun h=>by cases Nat.eq_of_beq_eq_true h;exact A6 e rel q
theorem lV(e:fV u.st v=some xs)(rel:Rl u v y)(q:∀h' a items n,Grows u.h h'→u.h.get? a=none→IsL h' a items n→items.size≤aH→Rls u xs items.toList→Q (.ref a) {u.s with heap:=h'}):wA u A (call (.type "list") [y]) Q E:=by
 have seq:∀(T:String) (src:Addr) (items:Array Value) (n:Nat),(T="list"∨T="tuple")→u.h.get? src=some {cls:= .type T,data:= .seq items n}→items.size≤aH→Rls u xs items.toList→wA u A (call (.type "list") [.ref src]) Q E:=fun T src items n hT es b rr=>
  call_list_seq (s:=u.s) src hT es rfl rfl (fun h' c' keep ea=>q h' _ items c' keep (aC _) ea b rr) (ltr b dr)
 cases v with
 |tup ys=>exact rel.tupI fun a items n ex ea g b rr=>ex▸seq "tuple" a items n (.inr rfl) ea b (sji e▸rr)
 |lst ys=>exact rel.lstI fun a items n ex ea g b rr=>ex▸seq "list" a items n (.inl rfl) ea b (sji e▸rr)
 |ref kk i=>exact rel.refI fun a ex g=>ListAt.elim (u.objAt g (listAt.of e)) fun items n ea b rr=>ex▸seq "list" a items n (.inl rfl) ea b rr
 |_=>exact ab rfl e
theorem zU(e:fV u.st v=some xs)(rel:Rl u v y)(hk:k (.lst xs) u.st sc)(q:CE u k Q):wA u A (call (.type "list") [y]) Q E:=
 lV e rel fun h' a items n kp na ea b rr=>have l:Lw u (u.grow h' u.t kp):=Wl.grow_le;q _ (u.grow h' u.t kp) _ sc l (.lst ea (bO u.ok.live na) b (rr.up l)) hk
theorem lstD.some{β:Type}{g:List V→Option β}{b:β}:∀ {v:V},v.lstD none g=some b→(∀vs,v = .lst vs→g vs=some b→P)→P:=fun h q=>V.lstD.some h q fun e=>ab rfl e
theorem zi(e:bi1 u.st 3 v=some r)(rel:Rl u v y)(hk:k r u.st sc)(q:CE u k Q):wA u A (call (.type "tuple") [y]) Q E:=
 lstD.some e fun xs ev e=>Rel.lstI (x:=y) (ev▸rel) fun a items n ex ea g b rr=>ex▸call_tuple_list (s:=u.s) ⟨_,ea,rfl,n,rfl⟩ (fun h' keep=>have l:Lw u (u.grow h' u.t keep):=Wl.grow_le
  (q.tr l).newT (u:=u.grow h' u.t keep) (t:=u.t) (rr.up l) b (sji e▸hk)) (ltr b dr)
theorem DR(e:Hp v=some r)(rel:Rl u v y)(hk:k r u.st sc)(q:CE u k Q):wA u A (call (.type "int") [y]) Q E:=by
 cases v with
 |int i=>exact rel.intI fun t ex=>ex▸call_int_int (s:=u.s) (q.here (.int i t) (sji e▸hk))
 |bool b=>
  refine rel.boolI▸call_int_bool (s:=u.s) ?_
  induction b<;>exact q.int (sji e▸hk)
 |_=>exact ab rfl e
theorem Ey{i j:Int}{t t':Tok}(hh:A.handled=none)(hk:k (Gp i j) u.st sc)(q:CE u k Q):wA u A (call (.builtin "max") [.int i t,.int j t']) Q E:=by
 refine max_two_ints (s:=u.s) hh fun h' tk keep=> ?_
 have hk:k (.int (match decide (i<j) with|true=>j|false=>i)) u.st sc:=hk
 have fin:=fun {n t} hk=>q (.int n t) (u.grow h' tk keep) _ sc Wl.grow_le (.int n t) hk
 by_cases hab:i<j
 ·rw[decide_eq_true hab] at hk;rw[if_pos hab];exact fin hk
 ·rw[decide_eq_false hab] at hk;rw[if_neg hab];exact fin hk
theorem lx{pl:aN}{h:Heap}{G:Gh}:∀ {xs:List V} {ns:List Int} {us:List Value},iF xs=some ns→Rels pl h G xs us→IntsAre us ns
 |[],_,_,e,r=>sji e▸r.nilI ▸ .nil
 |x::xs,_,_,e,r=>V.intD.some e (fun i ei e=>optMap.of e fun ms q e=>e▸r.consI fun u us eu r1 r2=>eu▸Rel.intI (x:=u) (ei▸r1) fun t et=>et ▸ .cons _ _ (lx q r2)) fun e=>ab rfl e
theorem xv{pl:aN}{h:Heap}{G:Gh}{us:List Value}{ns:List Int}(q:IntsAre us ns):Rels pl h G (ns.map V.int) us:=by
 induction q with
 |nil=>exact .nil
 |cons _ _ _ ih=>exact .cons (.int ..) ih
theorem rN(e:Cw (.lst xs)=some r)(rel:Rl u (.lst xs) y)(hk:k r u.st sc)(q:CE u k Q):wA u A (call (.builtin "sorted") [y]) Q E:=by
 have z:=gateD.some e
 refine optMap.of z.2 fun ns en er=>rel.lstI fun a items n ex ea g b rr=>ex ▸ ?_
 have hlen:items.toList.length<64:=rr.length▸Nat.lt_of_succ_le (Nat.le_of_ble_eq_true z.1)
 have are:=lx en rr
 refine sorted_ints (s:=u.s) (vs:=items.toList) (ns:=ns) ⟨_,ea,rfl,n,by simp⟩ are hlen fun out ns' a1 a2 a3=> ?_
 have keep:Grows u.h (sortedAll u.h items.toList out):=fun _ _=>sortedAll_old
 refine(sortedAll_at u.h items.toList out).elim fun e' he=> ?_
 cases wJ a2 a3
 have hz:out.size≤aH:=ltr (leq (Array.length_toList.symm.trans (a1.length.trans (a2.length_eq.trans are.length.symm)))) (ltr (Nat.le_of_lt hlen) (by decide))
 exact q _ (u.grow _ u.t keep) _ sc Wl.grow_le (.lst he (bO u.ok.live (bq _ (Nat.le_succ _))) hz (xv a1)) (er▸hk)
theorem mG{Q:List Value→Shared→Prop}(hh:A.handled=none)(lo:(a==sysModules)=false)(e:g6 s.heap a)(q:∀h' tk,Grows s.heap h'→Q [] {s with heap:=h',toks:=tk}):wpAny (model pw w) A (collect (.ref a)) Q E s:=
 kdu_collect (kdl_dict (knd:=strKind pw w) (kvs:=[]) (ep:=0) lo) hh (mr e) (Nat.zero_le _) fun h' tk acc keep ia=>by
  cases Array.eq_empty_of_size_eq_zero ia.1
  exact q h' tk keep
theorem sr(hh:A.handled=none)(lo:(a==sysModules)=false)(e:g6 u.h a)(hk:k (.lst []) u.st sc)(q:CE u k Q):wA u A (call (.builtin "sorted") [.ref a]) Q E:=by
 refine call_function_entry kind_sorted plain_sorted entry_sorted (args_sorted1 _) ?_
 refine wpAny_bind (m:=checkCount "sorted" 1 1 _) (wpAny_pure (wpAny_bind (mG (s:=u.s) hh lo e fun h1 tk keep=>wpAny_bind (wpAny_newList ?_ (Nat.zero_le _)))))
 have hoL:(h1.push (seqObj "list" ([]:List Value).toArray 0)).get? h1.objs.size=some (seqObj "list" ([]:List Value).toArray 0):=new_obj rfl
 refine wpAny_bind (wpAny_holding (wpAny_call_entry slot_list_sort ⟨_,hoL,rfl⟩ entry_list_sort (list_sort_tree (ns:=[]) hoL .nil (by decide) fun out ns' a1 a2 a3=>⟨_,rfl,wpAny_pure ⟨_,rfl,?_⟩⟩) (args_list_sort _)))
 cases List.Perm.eq_nil a2
 cases Array.eq_empty_of_size_eq_zero (Array.length_toList.symm.trans a1.length:out.size=0)
 refine(sortedHeap_at (vs:=[]) (out:= #[]) hoL).elim fun e' he=> ?_
 have keep2:Grows u.h (sortedHeap (h1.push (seqObj "list" ([]:List Value).toArray 0)) h1.objs.size [] #[]):=fun b o q=>by
  have q1:=keep b o q
  have hlt:=Heap.lt_size q1
  rw[sortedHeap_old (Nat.ne_of_lt hlt) (by rw[Heap.size_push];exact Nat.lt_succ_of_lt hlt)]
  exact Heap.get?_push_of_some _ q1
 exact q _ (u.grow _ tk keep2) _ sc Wl.grow_le (.lst he (bO u.ok.live (Grows.none keep (aC _))) (Nat.zero_le _) .nil) hk
theorem xE:mroOf (.type "frozenset")=pure [.type "frozenset",.type "object"]:=by rw[mroOf_type];kernel_rfl
theorem Er:typeLookup (.type "frozenset") "__new__"=pure (some (.builtin "frozenset.__new__")):=by rw[typeLookup_type,builtinLookup_eq_fast];kernel_rfl
theorem A7:typeLookup (.type "frozenset") "__init__"=pure (some (.builtin "object.__init__")):=by rw[typeLookup_type,builtinLookup_eq_fast];kernel_rfl
theorem zG:isSubtype (.type "frozenset") (.type "frozenset")=pure true:=by rw[isSubtype_type];kernel_rfl
theorem nW:Slot "frozenset" "__init__" "object.__init__":=
 .of (owner:="object") (n:="__init__") (by rw[typeLookup_type,builtinLookup_eq_fast];kernel_rfl) (by decide +kernel) (by decide +kernel) (by decide +kernel)
  (by first|exact .inl (by decide +kernel)|exact .inr (by decide +kernel)) (by rw[isSubtype_type];kernel_rfl)
theorem vw:TypeCalled "frozenset" "frozenset.__new__" "object.__init__":=⟨by decide +kernel,by decide +kernel,⟨_,_,xE⟩,madeBy_type xE Er (by decide +kernel),by decide +kernel,zG,nW⟩
theorem qD(a:Value):checkTypeCall "frozenset" ⟨[a],[]⟩=pure ():=by kernel_rfl
theorem sC(a:Value):checkBuiltinCall "frozenset.__new__" ⟨[.type "frozenset",a],[]⟩=pure ():=by kernel_rfl
theorem yT:entryFor table "frozenset.__new__"=some Builtin.«frozenset.__new__» :=entryFor_of_tree (by kernel_rfl)
theorem A9:isSubtype (.type "dict") (.type "set")=pure false:=by rw[isSubtype_type];kernel_rfl
theorem AM:isSubtype (.type "dict") (.type "frozenset")=pure false:=by rw[isSubtype_type];kernel_rfl
theorem wG:(some "frozenset.__new__" != some "object.__new__")=true:=by decide +kernel
theorem yw(a:Addr)(lo:(a==sysModules)=false):Meets (Builtin.«frozenset.__new__» ⟨[.type "frozenset",.ref a],[]⟩)
  (fun _ R s=>s.heap.get? a=some {cls:= .type "dict",data:= .dict #[]}∧∀led:Bool,R (.ok (.ret (.ref s.heap.objs.size))) {s with heap:=s.heap.push {cls:= .type "frozenset",data:= .set #[] 0 (.fresh 0 0 led)}}):=
 Meets.of_wp fun prog w A R s hs=>by
  obtain⟨hp,g,d,tk,os⟩:=s
  obtain⟨hx,hs⟩:=hs
  have hT:(⟨hp,g,d,tk,os⟩:Shared).TypeIs (.ref a) "dict":=⟨_,hx,rfl⟩
  have f1:=A7
  have f2:=zG
  have f3:=A9
  have f4:=AM
  repeat (any_goals (first|assumption|wp_step))
  refine wpAny_askSetting (wpAny_pure ?_)
  dsimp only
  refine wpAny_bind (wpAny_alloc (wpAny_pure ?_))
  have hs':=hs (!((model prog w).w.params.followText "set-order"))
  generalize (!((model prog w).w.params.followText "set-order"))=led at hs' ⊢
  dsimp only at hs' hx ⊢
  have hS:(hp.push {cls:= .type "frozenset",data:= .set #[] 0 (SetTable.fresh 0 0 led)}).get? hp.objs.size=some {cls:= .type "frozenset",data:= .set #[] 0 (SetTable.fresh 0 0 led)}:=Heap.get?_push_size _ rfl
  have hx':(hp.push {cls:= .type "frozenset",data:= .set #[] 0 (SetTable.fresh 0 0 led)}).get? a=some {cls:= .type "dict",data:= .dict #[]}:=Heap.get?_push_of_some _ hx
  generalize hp.push {cls:= .type "frozenset",data:= .set #[] 0 (SetTable.fresh 0 0 led)}=h1 at hS hx' hs' ⊢
  have hT':(⟨h1,g,d,tk,os⟩:Shared).TypeIs (.ref a) "dict":=⟨_,hx',rfl⟩
  have hfit:(SetTable.fresh 0 0 led).fits 0=true:=by induction led<;>decide +kernel
  have hroom:(SetTable.fresh 0 0 led).roomFor 0=none:=by induction led<;>decide +kernel
  refine wpAny_bind (m:=Builtin.Frozenset.addrOf _) (wpAny_pure (wpAny_bind (wpAny_holding ?_)))
  refine wpAny_bind (m:=Builtin.Frozenset.isAnySet _) ?_
  repeat (any_goals (first|assumption|wp_step))
  with_unfolding_all refine wpAny_pure ?_
  exact wpAny_pure (wpAny_pure (wpAny_pure ⟨_,rfl,hs'⟩))
theorem vN(lo:(a==sysModules)=false)(e:g6 u.h a)(hk:k .fset u.st sc)(q:CE u k Q):wA u A (call (.type "frozenset") [.ref a]) Q E:=
 callType_new (s:=u.s) vw wG (qD _) (sC _) (fun obj=>PySem.F.args_object_init_2 obj _) yT (yw a lo) ⟨e,fun led=>⟨⟨_,new_obj rfl,rfl⟩,
  q _ (u.grow _ u.t (push_keep _ _)) .fset sc Wl.grow_le (.fset (new_obj rfl) (by induction led<;>decide +kernel) (bO u.ok.live (aC _))) hk⟩⟩
theorem ib{b:Nat}{g:V→Option V}(rel:Rls u vs us)(e:oneD vs none g=some r)(go:∀v y,g v=some r→Rl u v y→wA u A (call (biV b) [y]) Q E):wA u A (call (biV b) us) Q E:=
 oneD.some e fun v ev e=>Rels.oneI (us:=us) (ev▸rel) fun y ey r1=>(ey▸go v y e r1:wA u A (call (biV b) us) Q E)
theorem twoD.some{α β:Type}{g:α→α→Option β}{b:β}:∀ {l:List α},twoD l none g=some b→(∀x y,l=[x,y]→g x y=some b→P)→P
 |[x,y],h,q=>q x y rfl h
theorem EZ(hh:A.handled=none)(e:pz u.st 5 vs=some r)(rel:Rls u vs us)(hk:k r u.st sc)(q:CE u k Q):wA u A (call (.builtin "max") us) Q E:=
 twoD.some e fun v v' ev e=>V.intD.some e (fun i ei e=>V.intD.some e (fun j ej e=>Rels.twoI (us:=us) (ev▸rel) fun y y' ey r1 r2=>Rel.intI (x:=y) (ei▸r1) fun t et=>Rel.intI (x:=y') (ej▸r2) fun t' et'=>ey▸et▸et'▸Ey hh (sji e▸hk) q) fun e=>ab rfl e) fun e=>ab rfl e
theorem wy(BM:bx Γ)(hh:A.handled=none)(rel:Rls u vs us)(hk:k r u.st sc)(q:CE u k Q):∀ {b:Nat},pz u.st b vs=some r→wA u A (call (biV b) us) Q E
 |0,e=>ib rel e fun v y e r1=>wN BM e r1 hk q
 |2,e=>ib rel e fun v y e r1=>optD.some e fun xs e1 e2=>zU e1 r1 (sji e2▸hk) q
 |3,e=>ib rel e fun v y e r1=>zi e r1 hk q
 |4,e=>ib rel e fun v y e r1=>DR e r1 hk q
 |5,e=>EZ hh e rel hk q
 |9,e=>ib rel e fun v y e r1=>by
  cases v with
  |edict=>cases r1 with|edict ea ga=>exact sr hh (kT BM ea) ea (sji e▸hk) q
  |lst xs=>exact rN e r1 hk q
  |_=>exact ab rfl e
 |10,e=>ib rel e fun v y e r1=>by
  cases v with
  |edict=>cases r1 with|edict ea ga=>exact vN (kT BM ea) ea (sji e▸hk) q
  |_=>exact ab rfl e
 |1,e|6,e|7,e|8,e|_+11,e=>ib rel e fun _ _ e _=>ab rfl e
end
variable{Γ:Cf}{d:Nat}
theorem pP:entryFor table "enumerate.__getattribute__"=some Builtin.«object.__getattribute__» :=
 entryFor_alias (id':="object.__getattribute__") (by kernel_rfl) (by decide +kernel) (by decide +kernel) (by kernel_rfl)
theorem te:typeLookup (.type "enumerate") "keys"=pure none:=by rw[typeLookup_type,builtinLookup_eq_fast];kernel_rfl
theorem mx:typeLookup (.type "enumerate") "__getattr__"=pure none:=by rw[typeLookup_type,builtinLookup_eq_fast];kernel_rfl
theorem mH(a:Addr)(vs:Array Value)(u:Tok):
  Meets (Builtin.«object.__getattribute__» ⟨[.ref a,.str "keys" u],[]⟩) (fun A R s=>s.heap.get? a=some {cls:= .type "enumerate",data:= .fields vs}∧raisesAttr (.ref a) "keys" A R s):=
 Meets.of_wp fun prog w A R s hs=>by
  obtain⟨hp,g,d,tk,os⟩:=s
  obtain⟨hx,hs⟩:=hs
  have hT:(⟨hp,g,d,tk,os⟩:Shared).TypeIs (.ref a) "enumerate":=⟨_,hx,rfl⟩
  have hmiss:=te
  have hname:(["__module__","__name__","__qualname__","__doc__","__annotations__"]:List Str).contains ("keys":Str)=false:=by decide +kernel
  unfold Builtin.«object.__getattribute__»
  repeat (any_goals (first|assumption|wp_step))
  exact wpAny_raiseAttrError hs.1 hs.2 (attrMsg_fits (by decide +kernel) (by rw[sizeLine_eq];decide +kernel))
section
variable{prog:Program}{w:World}{A:Around}{E:Value→Shared→Prop}{s:Shared}
theorem rG{a:Addr}{vs:Array Value}{Q:Option Value→Shared→Prop}(hx:s.heap.get? a=some {cls:= .type "enumerate",data:= .fields vs})(hA:A.handled=none)
  (h:∀h' tk,(∀b o,s.heap.get? b=some o→h'.get? b=some o)→Q none {s with heap:=h',toks:=tk}):wpAny (model prog w) A (getAttr? (.ref a) "keys") Q E s:=by
 obtain⟨hp,g,d,tk,os⟩:=s
 have hT:∀tk',(⟨hp,g,d,tk',os⟩:Shared).TypeIs (.ref a) "enumerate":=fun _=>⟨_,hx,rfl⟩
 have f1:=sub_AttributeError
 have f3:=PySem.F.slot_enumerate_getattribute.lookup
 have f4:=PySem.F.slot_enumerate_getattribute.bind (.ref a)
 have f5:=mx
 unfold getAttr? getAttrBy? getAttrBy
 repeat (any_goals (first|assumption|exact hT _|((with_reducible show wpAny _ _ (call (Value.builtin "enumerate.__getattribute__") _ _) _ _ _);refine call_meets PySem.F.slot_enumerate_getattribute (hT _) pP (PySem.F.args_enumerate_getattribute_2 _ _) (mH a vs _) ⟨hx,hA,fun h' tk' e hx'=> ?_⟩)|wp_step))
 obtain⟨t',u',he⟩:=hx'.there
 show wpAny _ _ (getattributeRaised _ _ _ _ _ _ _) _ _ _
 unfold getattributeRaised
 repeat (any_goals (first|assumption|wp_step))
 exact h _ _ hx'.keeps
end
theorem mF:entryFor table "dict.update.loop"=some Builtin.«dict.update.loop» :=entryFor_of_tree (by kernel_rfl)
section
variable{w:World}{A:Around}{E:Value→Shared→Prop}{s:Shared}
theorem wj{e it l:Addr}{St:Nat→Heap→Prop}{P:Nat→Value→Prop}{Q:Value→Shared→Prop}(hh:A.handled=none)(D:∀ {A:Around},A.handled=none→Draws pw w A it [it,l] 0 P St)(he:IsEnum s.heap e it 0 .none)(st:St 0 s.heap)(ei:∃o,s.heap.get? it=some o)
  (q:∀h' tk D,s.heap.get? D=none→g6 h' D→Heap.ExtBut it s.heap h'→Q (.ref D) {s with heap:=h',toks:=tk}):wpAny (model pw w) A (call (.type "dict") [.ref e]) Q E s:=by
 refine callType_codes (Q₁:=fun obj s₁=>obj = .ref s.heap.objs.size∧s₁={s with heap:=s.heap.push {cls:= .type "dict",data:= .dict #[]}}) PySem.F.kt_called_dict (PySem.F.kt_typeCall_dict_1 _) PySem.F.entry_dict_init (kt_code_dict_new _ ⟨rfl,rfl⟩) ?_
 rintro obj s₁ ⟨rfl,rfl⟩
 have hD:(s.heap.push {cls:= .type "dict",data:= .dict #[]}).get? s.heap.objs.size=some {cls:= .type "dict",data:= .dict #[]}:=new_obj rfl
 have hTd:Shared.TypeIs {s with heap:=s.heap.push {cls:= .type "dict",data:= .dict #[]}} (.ref s.heap.objs.size) "dict":=⟨_,hD,rfl⟩
 have up:=push_keep s.heap {cls:= .type "dict",data:= .dict #[]}
 refine⟨hTd,PySem.F.args_dict_init_2 _ _,?_⟩
 unfold Builtin.«dict.__init__»
 refine wpAny_bind ?_
 unfold Builtin.Dict.selfAndRest
 refine wpAny_bind (wpAny_notOrdered_dict hTd ?_)
 show wpAny _ _ (pure (s.heap.objs.size,[Value.ref e])) _ _ _
 refine wpAny_pure ?_
 show wpAny _ _ (Builtin.Dict.updateFrom "dict.__init__" s.heap.objs.size (.ref e) [] .none) _ _ _
 unfold Builtin.Dict.updateFrom
 refine wpAny_bind (wpAny_typeOf (T:="enumerate") ⟨_,up _ _ he,rfl⟩ ?_)
 rw[if_pos (by decide)]
 refine wpAny_bind (rG (up _ _ he) hh fun h2 tk2 k2=> ?_)
 simp only[Option.isNone_none,if_true]
 have kk:Grows s.heap h2:=fun b o q=>k2 b o (up b o q)
 refine wpAny_bind (wpAny_rule (wpAny_bind (wpAny_pyIter_enum (kk _ _ he) (wpAny_pure ⟨Code.quiet_builtin _ (by decide +kernel),codeAny_builtin mF ?_⟩))))
 unfold Builtin.«dict.update.loop»
 dsimp only
 refine wpAny_bind (wpAny_pyNext_enum_endD (s:={s with heap:=h2,toks:=tk2}) (D hh) (kk _ _ he) (cV (D hh) st (fun o=>kk _ o) fun o=>kk _ o) fun h3 eb=> ?_)
 dsimp only
 refine wpAny_bind (m:=Builtin.Dict.addKeywords _ _) (wpAny_pure (wpAny_pure ⟨rfl,q h3 tk2 _ (aC _) (eb _ _ (fun q=>ei.elim fun _ z=>ab (q▸aC s.heap) z) (k2 _ _ hD)) fun b o n q=>eb _ _ n (kk _ _ q)⟩))
end
section
variable{u u':Wl Γ}{f:Fm d}{X:Addr→Prop}{ρ:Rho}{E:Value→Shared→Prop}{sc:Sc}{A:Around}{P:Prop}{k:KV}{Q:Value→Shared→Prop}{p:Pos}{v r:V}{y:Value}{R:Rec}{line b:Nat}{as:List Expr}{a:Addr}{xs vs:List V}{us:List Value}{w:World}{s:Shared}{C:CR}{e:Expr}
theorem qZ{M:Model}{g:Value}{a:Expr}{env:Env}{Q:Args→Shared→Prop}(ok:aF [a]=true)(h:wpAny M A (eval a env) (fun x s'=>Q ⟨[x],[]⟩ s') E s):wpAny M A (evalArgs g true (backTo p (starEach [a] env)) []) Q E s:=by
 have main:wpAny M A (spliced (backTo p (starEach [a] env))) (fun vs s'=>Q ⟨vs,[]⟩ s') E s:=wpAny_items_cons (wpAny_mono h (fun x s' q=>wpAny_items_nil q) fun _ _ q=>q) (bN (ay ok).1 _ _)
 rw[bN (ay ok).1] at main ⊢
 exact evalArgs_plain main
theorem tI{g:Str→Bool}(h:nameD e false g=true)(q:∀x p,e = .Name x p→g x=true→P):P:=by
 cases e<;>first|exact q _ _ rfl h|exact Bool.noConfusion h
theorem xk{g:Nat→Bool}{v:V}(h:v.biD false g=true):∃b,v = .bi b∧g b=true:=by
 cases v<;>first|exact⟨_,rfl,h⟩|exact ffS h
theorem nameIs.of{cx:Cx}(h:nameIs cx e ρ b=true)(q:∀x p,e = .Name x p→lj cx x ρ=some (.bi b)→P):P:=
 tI h fun x p e h=>(eN h).elim fun v z=>(xk z.2).elim fun c y=>q x p e (Nat.eq_of_beq_eq_true y.2▸y.1▸z.1)
theorem vx(hh:A.handled=none)(rel:Rls u vs us)(h:oneD vs False fun v=>xQ (d6 p) line k v u.st sc)(q:CE u k Q):wA u A (call (biV 7) us) (fun x s₁=>wpAny (model pw Γ.w) A (call (.type "dict") [x]) Q E s₁) E:=
 rel.oneD h fun v y ey r1 h=>r1.lstD h fun xs a arr n ea hl g b rr h=>have z:=nilD.of h
  atD.of z.2 False.elim fun m hm h=>ey▸ea▸call_enumerate_list (s:=u.s) ⟨_,hl,rfl,n,rfl⟩ fun h' he hi _ kp=>by
   cases fO (z.1▸rr)
   have ne:=(kN (Nat.le_refl u.h.objs.size) hl).symm
   refine wj (s:={u.s with heap:=h'}) hh (fun hh=>Draws.list hh u.h.objs.size a ne #[]) he ⟨hi,_,kp _ _ hl,rfl,n,rfl⟩ (hi.imp fun _ z=>z.1) fun h2 tk D nD eD eb=> ?_
   exact newAt.of h hm (fun b o q=>eb b o (fun z=>ab (z▸aC _) q) (kp b o q)) (Grows.none kp nD) ⟨_,eD⟩ (d5 eD) q
theorem yx(BM:bx Γ){lv:LV}(l:Lv f X u lv (some y))(h:G1 k lv u.st sc)(q:CE u k Q):wA u A (call (.builtin "len") [y]) Q E:=by
 induction lv with
 |v v=>exact h.of fun r sc e hk=>wN BM e (l.vI rfl) hk q
 |ol xs=>exact l.elim fun a z=>sji z.1▸hZ z.2.2 h q
 |od es=>exact l.elim fun a z=>sji z.1▸mK (gW BM (x7 z.2.1.g)) z.2.2 h q
 |_=>exact h.elim
theorem vU(BM:bx Γ)(hh:A.handled=none)(rel:Rls u vs us)(h:oneD vs False fun v=>xh (d6 p) line k v u.st sc)(q:CE u k Q):wA u A (call (biV 2) us) Q E:=
 rel.oneD h fun v y ey r1 h=>atD.of h (fun h=>optV.of h fun r sc e hk=>ey▸wy BM hh (.one r1) hk q (b:=2) e) fun n hn h=>optV.of h fun r sc e hk=>optD.some e fun xs e1 e2=>by
  cases sji e2
  exact ey▸lV e1 r1 fun h' a items m kp na ea b rr=>newAt.of hk hn kp na ⟨_,ea⟩ ⟨items,m,ea,b,rr.keep (.born kp na) u.ok.live⟩ q
theorem Ag(BM:bx Γ)(IH:bc Γ d R.e)(ok:aF as=true)(h:dX R f.cx as ρ u.st sc (biK b line k))(F:Fr f X u ρ)(q:CE u k Q):wA u f.A (evalArgs (biV b) true (backTo p (starEach as f.env)) []) (fun a s₁=>wpAny (model pw Γ.w) f.A (call (biV b) ([]++a.pos) a.kw) Q E s₁) E:=
 sem_args IH ok h F fun us u' vs sc l r n h=>optV.of h fun rr sc e hk=>wy BM F.rm.1 r hk (q.tr l) e
theorem D8(BG:cc Γ)(BM:bx Γ)(IH:bc Γ d R.e)(ok:aF as=true)(F:Fr f X u ρ)(q:CE u k Q):∀ {b:Nat},Nat.blt b 13=true→Gc R f.cx b as p ρ u.st sc k→wA u f.A (callWith p (biV b) [] (backTo p (starEach as f.env)) []) Q E
 |0,hb,h=>cF hb (bv ok) (oneD.of h fun a ea h=>by subst ea;exact qZ ok (oZ IH h F fun x u' lv sc l r h=>yx BM r h (q.tr l)))
 |1,hb,h=>cF hb (bv ok) (twoD.of h fun a t ea h=>by
   subst ea
   refine sem_args (k:=fun vs st sc=>twoD vs False fun v tv=>Gs k v tv st sc) IH ok h F fun us u' vs sc l r n h=>r.twoD h fun v v' y y' eu r1 r2 h=>r2.biD h fun b eb h=>h.2.of fun r sc e hk=>eu▸eb▸D4 h.1 e r1 fun t=>(q.tr l).ret (.bool r) hk)
 |2,hb,h=>cF hb (bv ok) (oneD.of h fun a ea h=>by subst ea;exact sem_args (k:=fun vs st sc=>oneD vs False fun v=>xh (d6 p) p.line k v st sc) IH ok h F fun us u' vs sc l r n h=>vU BM F.rm.1 r h (q.tr l))
 |11,hb,h=>cF hb (bv ok) (oneD.of h fun c ec h=>by
   subst ec
   exact callD.of h (fun g as' kws cp ec h=>oneD.of h fun a ea h=>by
    subst ec ea
    have z:=gate.of h
    have o:=ai z.1
    cases List.isEmpty_iff.mp o.1
    exact nameIs.of z.2.1 fun x xp ex hg=>ex▸qZ ok (oA (k:=fun vs st sc=>oneD vs False fun v=>xQ (d6 p) p.line k v st sc) BG IH hg rfl o.2 z.2.2 F fun us u' vs sc l r n h=>vx F.rm.1 r h (q.tr l))) False.elim)
 |3,hb,h|4,hb,h|5,hb,h|6,hb,h|7,hb,h|8,hb,h|9,hb,h|10,hb,h|12,hb,h=>cF hb (bv ok) (Ag BM IH ok h F q)
 |_+13,hb,_=>Bool.noConfusion hb
theorem vJ(BG:cc Γ)(BM:bx Γ)(BK:dz Γ)(CS:CallSem Γ d C)(IH:bc Γ d R.e)(ok:aF as=true)(h:y0 R C f.cx as p ρ k v u.st sc)(F:Fr f X u ρ)(r:Rl u v y)(q:CE u k Q):wA u f.A (callWith p y [] (backTo p (starEach as f.env)) []) Q E:=by
 cases v with
 |fn g=>exact r.fnI▸kl CS IH (vs0:=[]) (first:=[]) ok h F .nil q
 |cls c=>exact r.clsI▸qY BK CS IH ok h F q
 |bi b=>have z:=gate.of h;exact r.biI▸D8 BG BM IH ok F q z.1 z.2
 |clo r' i=>exact qO BG IH ok h F r q
 |_=>exact h.elim
theorem yV(BG:cc Γ)(BM:bx Γ)(BK:dz Γ)(CS:CallSem Γ d C)(IH:bc Γ d R.e)(h:xW R C f.cx e as p ρ u.st sc k)(F:Fr f X u ρ)(q:CE u k Q):wA u f.A (eval (.Call e as [] p) f.env) Q E:=by
 have z:=gate.of h
 have o:=ai z.1
 have go:=fun x (u':Wl Γ) v sc (l:Lw u u') r h=>vJ (E:=E) (p:=p) BG BM BK CS IH (y:=x) (v:=v) (sc:=sc) o.1 h (F.up l) r (q.tr l)
 have h:=z.2
 cases e with
 |Attribute ob m ap=>
  have z:=gate.of h
  have o1:=ai z.1
  exact je o1.1 o1.2 o.1 o.2 (IH z.2 F fun x u' v sc l r h pm=>yY BM BK CS IH o.1 h (F.up l) r (q.tr l))
 |Name x xp=>rw[arm_eval_Call_Name'];exact wpAny_bind (IH h F go)
 |Subscript ob i sp=>
  show wA u f.A (do callWith p (←eval (.Subscript ob i sp) f.env) [] (backTo p (starEach as f.env)) (backToKw p (keywordEach [] f.env))) Q E
  exact wpAny_bind (IH h F go)
 |_=>exact h.elim
end
variable{Γ:Cf}{d:Nat}
structure hM(Γ:Cf):Prop where
 g:cc Γ
 m:bx Γ
 k:dz Γ
 l:xK Γ
structure iq(Γ:Cf)(d:Nat)(R:Rec):Prop where
 e:bc Γ d R.e
 c:g7 Γ d R.c
 s:s9 Γ d R.s
 u:D6 Γ d R.e
section
variable{u u':Wl Γ}{f:Fm d}{X Y:Addr→Prop}{ρ:Rho}{E:Value→Shared→Prop}{sc:Sc}{A:Around}{P D:Prop}{k:KV}{Q:Value→Shared→Prop}{p:Pos}{v r:V}{y:Value}{R:Rec}{line b:Nat}{C:CR}{e:Expr}{x:Str}{lv:LV}
theorem sliceD.of{g:Option Expr→Option Expr→Option Expr→Prop}(h:sliceD e D g)(q:∀a b c p,e = .Slice a b c p→g a b c→P)(q':D→P):P:=by
 cases e<;>first|exact q _ _ _ _ rfl h|exact q' h
theorem vR{c:Const}{n:Nat}(h:yC c u.st sc k)(q:CE u k Q):wA u A (eval (.Constant c n p) f.env) Q E:=by
 induction c with
 |none=>exact wpAny_Constant_none (q.here .none h)
 |bool b=>exact wpAny_Constant_bool (q.here (.bool b) h)
 |int i=>exact wpAny_Constant_int (s:=u.s) (q.int h)
 |str i=>exact wpAny_Constant_str (s:=u.s) (q.ret (.str i _) h)
 |_=>exact h.elim
theorem p4(BS:hM Γ)(CS:CallSem Γ d C)(RS:iq Γ d R):bc Γ d (zw R C):=fun {f X u ρ e sc k Q E} h F q=>by
 have BG:=BS.g
 have BM:=BS.m
 have IH:= @RS.e
 have IC:= @RS.c
 cases e with
 |Constant c n p=>exact vR h q
 |Name x p=>exact xD BG h F q
 |BoolOp op es p=>rw[arm_eval_BoolOp];exact mZ IH h F q
 |BinOp l op r p=>exact As IH h F q
 |UnaryOp op x p=>exact zP IH h F q
 |IfExp t b o p=>exact vW IH IC h F q
 |Dict ks vs p=>exact sF IH h F q
 |List es p=>exact tG IH h F q
 |Tuple es c p=>exact vS IH h F q
 |ListComp elt gens scope p=>exact xf BG BM IH IC h F q
 |Compare l ops rs p=>exact A2 BM IH h F q
 |Call g as kws p=>exact have z:=nilD.of h;z.1▸yV BG BM BS.k CS IH z.2 F q
 |Attribute o x p=>exact yJ BS.k IH h F q
 |Subscript o i p=>exact sliceD.of h (fun a b c sp e h=>e▸Bt IH h F q) fun h=>A1 BM IH h F q
 |Lambda args body scope p=>exact AI BS.l h F q
 |_=>exact h.elim
theorem zE(IH:bc Γ d R.e){k:KB}{Q:Bool→Shared→Prop}(h:Hc R f.cx e ρ u.st sc k)(F:Fr f X u ρ)(q:CB u k Q)(ne:isTrue e f.env (eval e f.env)=(do
   let v ←eval e f.env
   standAt e.pos
   holding [v] (truthy v))):wA u f.A (isTrue e f.env (eval e f.env)) Q E:=wpAny_isTrue_value (IH h F (CE.boolD fun u' b sc l h=>wpAny_truthy_bool (q b u' sc l h))) ne
theorem yH:∀ {o:UnaryOp},CX o=true→o = .Not
 | .Not,_=>rfl
theorem rk(BS:hM Γ)(RS:iq Γ d R):g7 Γ d (Cd R):=fun {f X u ρ e sc k Q E} h F q=>by
 have IH:= @RS.e
 have IC:= @RS.c
 cases e with
 |UnaryOp op x p=>exact have z:=gate.of h;yH z.1▸wpAny_isTrue_Not (IC z.2 F fun b u' sc l h=>q (!b) u' sc l h)
 |BoolOp op es p=>exact wpAny_isTrue_BoolOp (lX IC h F q)
 |IfExp t b o p=>exact h.elim
 |Compare l ops rs p=>exact xG BS.m IH h F q
 |_=>exact zE IH h F q rfl
end
noncomputable def AK(lv:LV):LV:=match lv with
 | .ol xs=> .v (.lst xs)
 | .v x=> .fv x
 |l=>l
theorem iw(x:Str)(lv:LV)(r:Rho):freeze1 x ((x,lv)::r)=(x,AK lv)::r:=by
 unfold freeze1
 rw[strEq_self]
 induction lv<;>rfl
theorem ip{x y:Str}(n:y≠x)(lv:LV)(r:Rho):freeze1 x ((y,lv)::r)=(y,lv)::freeze1 x r:=by rw[freeze1,gn n]
theorem fU{x:Str}{lv:LV}:∀ {ρ:Rho},look x (freeze1 x ρ)=some lv→∃lv₀,look x ρ=some lv₀∧AK lv₀=lv
 |(y,lv₀)::r,h=>by
  by_cases e:y=x
  ·cases e;rw[iw] at h;exact⟨lv₀,aR ..,sji ((aR ..).symm.trans h)⟩
  ·rw[ip e,aD _ _ e] at h;exact(fU h).imp fun _ z=>⟨(aD _ _ e).trans z.1,z.2⟩
theorem qV{x:Str}{lv:LV}:∀ {ρ:Rho},look x ρ=some lv→look x (freeze1 x ρ)=some (AK lv)
 |(y,lv₀)::r,h=>gX h (fun e e'=>by cases e;cases e';rw[iw];exact aR ..) fun n h=>by rw[ip n,aD _ _ n];exact qV h
theorem gh{x z:Str}(n:z≠x):∀ {ρ:Rho},look z (freeze1 x ρ)=look z ρ
 |[]=>rfl
 |(y,lv₀)::r=>by
  by_cases e:y=x
  ·cases e;rw[iw,aD _ _ n.symm,aD _ _ n.symm]
  ·rw[ip e]
   by_cases q:y=z
   ·cases q;rw[aR,aR]
   ·rw[aD _ _ q,aD _ _ q];exact gh n
section
variable{u u':Wl Γ}{f:Fm d}{X Y:Addr→Prop}{ρ:Rho}{x:Str}{lv:LV}{m cont:cI}{P:Shared→Prop}
theorem FR.told{ρ':Rho}(F:FR f X u ρ m cont)(k:LwX Y u u')(eh:u'.h=u.h)(gl:u'.G f.env.locals = .own)(hr:∀y,y≠x→look y ρ'=look y ρ)(q:∀y lv a,y≠x→look y ρ=some lv→UsedBy f cont y lv a→¬Y a)(sv:∀lv,look x ρ'=some lv→SV f X u' m x lv (cont x)∧(lv.isOwn=true→look x ρ=some lv)):Fr f X u' ρ':=
 ⟨m,cont,F.set k (fun a n=>F.fresh a (eh▸n)) (fun _=>id) x hr (fun _ _=>rfl) (fun _ _ _=>rfl) (eh▸F.ns) gl q (fun lv h=>(sv lv h).1) fun y a lv n h ho e o=>n (F.apart y x a o ⟨lv,(sv lv h).2 ho,ho,e⟩)⟩
theorem Fr.freeze1(F:Fr f X u ρ)(hW:f.W=true)(q:∀u',LwX X u u'→u'.st=u.st→Fr f X u' (freeze1 x ρ)→P u'.s):P u.s:=F.elim fun m cont F=>by
 have ne:=fun y (n:y≠x)=>gh n (ρ:=ρ)
 have same:=fun(sv:∀lv,look x (Mine.freeze1 x ρ)=some lv→SV f X u m x lv (cont x)∧(lv.isOwn=true→look x ρ=some lv))=>q u .rfl rfl (F.told (Y:=noX) .rfl rfl F.gl ne (fun _ _ _ _ _ _=>id) sv)
 cases hx:look x ρ with
 |none=>exact same fun lv h=>(fU h).elim fun lv₀ z=>ab hx z.1
 |some lv=>
  have s:=F.sv x lv hx
  have hl:=fun {lv'} (h:look x (Mine.freeze1 x ρ)=some lv')=>(fU h).elim fun lv₀ z=>(sji (hx.symm.trans z.1)▸z.2:AK lv=lv')
  have own:∀ {c},u.G c = .own→∀a,a=c→u.G a = .own:=fun g a e=>e▸g
  induction lv with
  |ol xs=>
   refine s.vl.elim fun a v=> ?_
   let u':=u.stop (· = a) u.h u.t (own v.2.1.g) fun _ _ _=>id
   have l:LwX (· = a) u u':=Wl.priv_le
   refine q u' (l.mono fun b e=>e▸v.2.1.x) rfl (F.told l rfl ((markG_out v.2.1.n.symm:fG u.G (· = a) .frz f.env.locals=_).trans F.gl) ne (fun y lv b n h z e=>z.elim (fun z=>fc ((F.sv y lv h).cellOf z).ic v.2.2 e) fun z=>n (F.apart y x b ⟨lv,h,z⟩ ⟨_,hx,rfl,e▸v.1⟩)) fun lv' h=> ?_)
   cases hl h
   exact⟨⟨s.nm,s.sl.imp_right fun z=>z.imp fun c z=>z.tr l (fun e=>fc z.ic v.2.2 e) id,v.2.2.elim fun items n e b rr=>⟨_,v.1,.lst e (markG_in rfl:fG u.G (· = a) .frz a=_) b (rr.up l)⟩⟩,fun h=>ffS h⟩
  |v y=>
   refine s.sl.elim (fun z=>same fun lv' h=> ?_) fun z=>z.elim fun c ca=> ?_
   ·cases hl h;exact⟨⟨s.nm,.inl z,s.vl⟩,fun h=>ffS h⟩
   ·let u':=u.stop (· = c) u.h u.t (own ca.gc) fun _ _ _=>id
    have l:LwX (· = c) u u':=Wl.priv_le
    refine q u' (l.mono fun b e=>e▸(ca.wr hW).1) rfl (F.told l rfl ((markG_out (iA ca.ic F.ns).symm:fG u.G (· = c) .frz f.env.locals=_).trans F.gl) ne (fun y lv b n h z e=>UsedBy.ne (c:=c) F n h z (.inr ⟨e▸⟨ca.kd,ca.lk⟩,_,e▸ca.ic⟩)) fun lv' h=> ?_)
    cases hl h
    exact⟨⟨s.nm,.inr ⟨c,ca.kd,ca.lk,ca.ic,(markG_in rfl:fG u.G (· = c) .frz c=_),ca.wr⟩,s.vl.imp fun _ z=>⟨z.1,z.2.up l⟩⟩,fun h=>ffS h⟩
  |_=>exact same fun lv' h=>by cases hl h;exact⟨s,fun _=>hx⟩
theorem Fr.freeze(hW:f.W=true):∀ {xs:List Str} {u:Wl Γ} {ρ:Rho},Fr f X u ρ→(∀u',LwX X u u'→u'.st=u.st→Fr f X u' (freeze xs ρ)→P u'.s)→P u.s
 |[],u,_,F,q=>q u .rfl rfl F
 |_::_,_,_,F,q=>F.freeze1 hW fun u1 l1 e1 F1=>F1.freeze hW fun u2 l2 e2 F2=>q u2 (l1.trans l2) (e2.trans e1) F2
end
variable{Γ:Cf}{d:Nat}
section
variable{u u' u0:Wl Γ}{f:Fm d}{X X' Y Z:Addr→Prop}{ρ:Rho}{E:Value→Shared→Prop}{sc:Sc}{P:Prop}{p pos:Pos}{v:V}{x:Value}{R:Rec}{line:Nat}{e:Expr}{a:Addr}{lv:LV}{w:Value}{lvs:List LV}{ws:List Value}{k:LV→St→Sc→Prop}{Q:Value→Shared→Prop}{es:List Expr}
noncomputable abbrev New(u:Wl Γ):Addr→Prop:=fun a=>u.h.get? a=none
def CLv(f:Fm d)(u:Wl Γ)(k:LV→St→Sc→Prop)(Q:Value→Shared→Prop):Prop:=∀x (u':Wl Γ) lv sc',Lw u u'→Lv f (New u) u' lv (some x)→lv.isFv=false→k lv u'.st sc'→Q x u'.s
theorem Lv.base{o:Option Value}(v:Lv f (New u) u' lv o)(l:Lw u0 u):Lv f (New u0) u' lv o:=v.tr (Y:=noX) .rfl fun _ _ _=>⟨id,l.none⟩
theorem CLv.tr(q:CLv f u k Q)(l:Lw u u'):CLv f u' k Q:=fun x u'' lv sc l' v=>q x u'' lv sc (l.trans l') (v.base l)
theorem Fr.newNe(F:Fr f X u ρ)(n:u.h.get? a=none):a≠f.env.locals:=F.elim fun _ _ F e=>(ft F.ns).elim fun _ z=>ab (e▸n) z
theorem CLv.newL(q:CLv f u k Q)(F:Fr f X u ρ){h':Heap}{t:Tok}{xs:List V}{items:Array Value}{n:Nat}(kp:Grows u.h h')(na:u.h.get? a=none)(ea:IsL h' a items n)(b:items.size≤aH)(rr:Rls u xs items.toList)(hk:k (.ol xs) u.st sc):Q (.ref a) {u.s with heap:=h',toks:=t}:=
 have l:Lw u (u.own h' t kp na ea):=Wl.own_le
 q _ (u.own h' t kp na ea) (.ol xs) sc l ⟨a,rfl,⟨aW ..,na,F.newNe na⟩,items,n,ea,b,rr.up l⟩ rfl hk
theorem jf(BG:cc Γ)(IH:bc Γ d R.e)(h:qr R f.cx e ρ u.st sc k)(F:Fr f X u ρ)(q:CLv f u k Q):wA u f.A (eval e f.env) Q E:=by
 have plain:=fun {e} (h:uR R f.cx e ρ u.st sc k)=>IH (E:=E) h F fun x u' v sc l r h=>q x u' (.v v) sc l ⟨x,rfl,r⟩ rfl h
 cases e with
 |List es p=>exact gateD.of h (fun _ h=>have z:=gate.of h;have sm:=dD z.1
   wpAny_List (sem_list IH sm.2 z.2 F fun xs u' vs sc l r n h=>have b:=uO n sm.1;⟨bH b,(q.tr l).newL (t:=u'.t) (F.up l) (push_keep _ _) (aC _) (new_obj rfl) (dq b) r h⟩)) plain
 |Dict ks vs p=>exact gateD.of h (fun o h1=>by
   have o:=ai o
   cases List.isEmpty_iff.mp (ai o.1).2;cases List.isEmpty_iff.mp o.2
   have nn:=aC u.h
   have ed:g6 (u.h.push emptyDict) u.h.objs.size:=new_obj rfl
   exact wpAny_Dict_empty (q _ (u.own (u.h.push emptyDict) u.t (push_keep _ _) nn ed) (.od []) sc Wl.own_le ⟨_,rfl,⟨aW ..,nn,F.newNe nn⟩,d5 ed⟩ rfl h1)) plain
 |Call g as kws p=>exact gateD.of h (fun o h1=>oneD.of h1 fun a ea h1=>by
   have o:=ai o
   have o1:=ai o.1
   cases List.isEmpty_iff.mp (ai o1.1).2
   subst ea
   exact nameIs.of o.2 fun x xp ex hg=>ex▸oA (k:=fun vs st sc=>oneD vs False fun v=>someE (fV st v) sc fun xs sc=>k (.ol xs) st sc) BG IH hg rfl o1.2 h1 F fun us u' vs sc l r n h=>r.oneD h fun v y ey r1 h=>h.of fun xs sc e1 h=>
    ey▸lV e1 r1 fun h' a items n kp na ea b rr=>(q.tr l).newL (t:=u'.t) (F.up l) kp na ea b rr h) plain
 |_=>exact plain h
theorem pS(BG:cc Γ)(IH:bc Γ d R.e)(IC:g7 Γ d R.c)(h:zW R f.cx e ρ u.st sc k)(F:Fr f X u ρ)(q:CLv f u k Q):wA u f.A (eval e f.env) Q E:=by
 have plain:=fun {e} (h:qr R f.cx e ρ u.st sc k)=>jf (E:=E) BG IH h F q
 cases e with
 |IfExp t b o p=>exact wpAny_IfExp (IC h F fun _ _ _ l h=>ifK.of h (fun _ e h=>wD e (jf BG IH h (F.up l) (q.tr l))) fun _ e h=>xo e (jf BG IH h (F.up l) (q.tr l)))
 |_=>exact plain h
def mL(lv:LV)(w:Value)(a:Addr):Prop:=lv.isOwn=true∧w = .ref a
def iO:List LV→List Value→Addr→Prop
 |[],_,_=>False
 |lv::lvs,ws,a=>consD ws False fun w ws=>mL lv w a∨iO lvs ws a
def LvNs(f:Fm d)(X:Addr→Prop)(u:Wl Γ):List LV→List Value→Prop
 |[],ws=>ws=[]
 |lv::lvs,ws=>∃w ws',ws=w::ws'∧(Lv f X u lv (some w)∧lv.isFv=false)∧(∀a,mL lv w a→¬iO lvs ws' a)∧LvNs f X u lvs ws'
theorem LvNs.tr(k:LwX Y u u'):∀ {lvs:List LV} {ws:List Value},LvNs f X u lvs ws→(∀a,iO lvs ws a→¬Y a∧(X a→X' a))→LvNs f X' u' lvs ws
 |[],_,e,_=>e
 |_::_,_,h,q=>h.imp fun w h=>h.imp fun ws' z=>⟨z.1,⟨z.2.1.1.tr k fun a h e=>q a (z.1 ▸ .inl ⟨h,sji e⟩),z.2.1.2⟩,z.2.2.1,z.2.2.2.tr k fun a h=>q a (z.1 ▸ .inr h)⟩
theorem LvNs.own:∀ {lvs:List LV} {ws:List Value},LvNs f X u lvs ws→iO lvs ws a→Bh f X u a
 |_::_,_,h,o=>h.elim fun w h=>h.elim fun ws' z=>((z.1▸o:consD (w::ws') False fun w ws=>mL _ w a∨iO _ ws a)).elim (fun o=>Lv.own (o.2▸z.2.1.1) o.1) fun o=>z.2.2.2.own o
theorem LvNs.length:∀ {lvs:List LV} {ws:List Value},LvNs f X u lvs ws→lvs.length=ws.length
 |[],_,e=>e▸rfl
 |_::_,_,h=>h.elim fun w h=>h.elim fun ws' z=>z.1▸congrArg (· + 1) z.2.2.2.length
def CLs(f:Fm d)(u:Wl Γ)(n:Nat)(k:List LV→St→Sc→Prop)(Q:List Value→Shared→Prop):Prop:=∀ws (u':Wl Γ) lvs sc',Lw u u'→LvNs f (New u) u' lvs ws→ws.length=n→k lvs u'.st sc'→Q ws u'.s
theorem nA(BG:cc Γ)(IH:bc Γ d R.e)(IC:g7 Γ d R.c):∀ {es:List Expr} {u:Wl Γ} {sc:Sc} {k:List LV→St→Sc→Prop} {Q:List Value→Shared→Prop},aF es=true→tZ R f.cx es ρ u.st sc k→Fr f X u ρ→CLs f u es.length k Q→wA u f.A (spliced (backTo pos (starEach es f.env))) Q E
 |[],u,sc,_,_,_,h,_,q=>wpAny_items_nil (q [] u [] sc .rfl rfl rfl h)
 |_::_,_,_,_,_,ok,h,F,q=>wpAny_items_cons (pS BG IH IC h F fun x u1 lv _ l v nf h=>nA BG IH IC (ay ok).2 h (F.up l) fun ws u2 lvs sc l' vs n h=>
   q (x::ws) u2 (lv::lvs) sc (l.trans l') ⟨x,ws,rfl,⟨v.tr l' fun _ _ _=>⟨id,id⟩,nf⟩,fun a o o'=>(Lv.own (o.2▸v) o.1).ha.elim fun _ z=>ab (vs.own o').ow.x z,vs.tr (Y:=noX) .rfl fun _ _=>⟨id,l.none⟩⟩ (congrArg (· + 1) n) h) (bN (ay ok).1 _ _)
end
section
variable{u u':Wl Γ}{f:Fm d}{X Y:Addr→Prop}{ρ:Rho}{E:Value→Shared→Prop}{sc:Sc}{A:Around}{Q:Unit→Shared→Prop}{v:V}{w:Value}{r j n:Nat}{a:Addr}{t:Tok}{xs:List V}{lv₀ lv₁:LV}{m cont:cI}{x:Str}
theorem wS(g:u.G a = .obj r j)(eo:(u.st.get r)[j]? = some (.list xs))(rv:Rl u v w)(hlt:n<xs.length)(q:∀u':Wl Γ,Lw u u'→u'.st=u.st.upd r j (.list (xs.set n v))→Q () u'.s):wA u A (setItem (.ref a) (.int (Int.ofNat n) t) w) Q E:=
 ListAt.elim (u.objAt g eo) fun items m ea b rr=>have hn:n<items.size:=rr.size▸hlt
  ki_setAt (s:=u.s) ea (Int.natCast_nonneg n) (xM hn b) (Int.ofNat_lt.mpr hn) (by
   have sb:Heap.SameBut a u.h (u.h.update a (Obj.mapSeq (·.setIfInBounds n w))):=Heap.SameBut.update ..
   have e':(u.h.update a (Obj.mapSeq (·.setIfInBounds n w))).get? a=some (Obj.mapSeq (·.setIfInBounds n w) {cls:= .type "list",data:= .seq items m}):=Heap.get?_update_self (Obj.mapSeq (·.setIfInBounds n w)) ea rfl
   have kp:=Kp.change sb (gF g) ⟨_,e'⟩
   exact q (u.change _ u.t (.list (xs.set n v)) g eo sb ⟨_,e'⟩ ⟨items.setIfInBounds n w,_,e',Array.size_setIfInBounds.symm▸b,by rw[Array.toList_setIfInBounds];exact(rr.keep kp u.ok.live).set (rv.keep kp u.ok.live) n⟩) Wl.change_le rfl)
theorem kY{K:Type}[DecidableEq K]{knd:KeyKind pw Γ.w K}{kk:K}{key:Value}{es:List (K×V)}{kvs:List (K×Value)}{o o':O}(g:u.G a = .obj r j)(eo:(u.st.get r)[j]? = some o)(hd:u.h.DictOf knd a kvs)(rs:RelKs Γ.pl u.h u.G es kvs)(hk:knd.is kk key=true)(rv:Rl u v w)(sz:es.length≤100000)
  (oa:∀h',DictA Γ.pl h' u.G knd a (gZ kk v es)→OAt Γ h' u.G a o') (q:∀u':Wl Γ,Lw u u'→u'.st=u.st.upd r j o'→Q () u'.s):wA u A (setItem (.ref a) key w) Q E:=
 have hz:kvs.length≤100000:=rs.length▸sz
 wpAny_setItem_pairs (s:=u.s) hk hd (fun h' hd' sb=>have ea:=dT hd';have kp:=Kp.change sb (gF g) ea;have z:=RelKs.store hd ⟨rs.keys,rs.vals.keep kp u.ok.live⟩ (rv.keep kp u.ok.live)
  q (u.change h' (u.t+1) o' g eo sb ea (oa h' ⟨_,hd',ltr (stored_length_le ..) (ltr (Nat.succ_le_succ hz) (by decide)),z.keys,z.vals⟩)) Wl.change_le rfl) (bH (ltr hz (by decide)))
theorem FR.ownSet(F:FR f X u ρ m cont)(hx:look x ρ=some lv₀)(ho:lv₀.isOwn=true)(hc:cont x=some (.ref a))(l:LwX (· = a) u u')(sb:Heap.SameBut a u.h u'.h)(gG:u'.G=u.G)(ea:∃o,u'.h.get? a=some o)(r1:lv₁.isOwn=true)(v1:Lv f X u' lv₁ (some (.ref a))):Fr f X u' (bw x lv₁ ρ):=
 have o:=F.ownT ⟨lv₀,hx,ho,hc⟩
 have fv:∀ {lv:LV},lv.isOwn=true→lv.role = .own:=fun {lv} h=>by induction lv<;>first|rfl|exact ffS h
 have apart:=fun {y lv b} (n:y≠x) h (z:UsedBy f cont y lv b) (e:b=a)=>z.elim (fun z=>o.nc _ _ ((F.sv y lv h).cellOf z).ic e) fun z=>n (F.apart y x b ⟨lv,h,z⟩ ⟨lv₀,hx,ho,e▸hc⟩)
 ⟨m,cont,F.set l (fun b n=>(Classical.em (b=a)).elim (fun e=>e▸o.ow.x) fun e=>F.fresh b ((sb.2 b e).symm.trans n)) (fun _=>id) x (fun y n=>aS _ n _) (fun _ _=>rfl) (fun _ _ _=>rfl) (F.ns.sameBut sb o.ow.n.symm) (gG▸F.gl) (fun y lv b n h z=>apart n h z)
  (fun lv h=>by
   cases (aI x lv₁ ρ).symm.trans h
   have s:=F.sv x lv₀ hx
   exact⟨s.nm,s.sl.imp_right fun z=>z.imp fun c z=>(fv r1).trans (fv ho).symm▸z.tr l (fun e=>o.nc _ _ z.ic e) id,hc▸v1⟩)
  fun y b lv n h _ e q=>n (F.apart y x b q ⟨lv₀,hx,ho,e⟩)⟩
theorem AZ{es:List (Int×V)}{i:Int}(F:FR f X u ρ m cont)(hx:look x ρ=some (.od es))(hc:cont x=some (.ref a))(rv:Rl u v w)(sz:es.length≤100000)(q:∀u':Wl Γ,LwX X u u'→u'.st=u.st→Fr f X u' (bw x (.od (aZ i v es)) ρ)→Q () u'.s):wA u A (setItem (.ref a) (.int i t) w) Q E:=
 Exists.elim (F.sv x _ hx).vl fun b z=>by
  cases hc.symm.trans z.1
  refine DictA.elim z.2.2 fun kvs hd hb hk hv=> ?_
  have rs:RelKs Γ.pl u.h u.G es kvs:=⟨hk,hv⟩
  have hz:kvs.length≤100000:=rs.length▸sz
  refine wpAny_setItem_pairs (s:=u.s) (intKind_is pw Γ.w i t) hd (fun h' hd' sb=> ?_) (bH (ltr hz (by decide)))
  have ea:=dT hd'
  let u':=u.priv h' (u.t+1) u.G (.mine sb z.2.1.g ea)
  have l:LwX (· = a) u u':=Wl.priv_le
  have y:=RelKs.store hd ⟨rs.keys,rs.vals.up l⟩ (rv.up l) (k:=i)
  exact q u' (l.mono fun b e=>e▸z.2.1.x) rfl (F.ownSet hx rfl hc l sb rfl ea rfl ⟨a,rfl,z.2.1,gB i v es▸⟨_,hd',ltr (stored_length_le ..) (ltr (Nat.succ_le_succ hz) (by decide)),y.keys,y.vals⟩⟩)
end
variable{Γ:Cf}{d:Nat}
section
variable{u u':Wl Γ}{f:Fm d}{X Y:Addr→Prop}{ρ:Rho}{E:Value→Shared→Prop}{sc:Sc}{A:Around}{Q:Unit→Shared→Prop}{v iv:V}{w y:Value}{r j:Nat}{a:Addr}{k:KR}{R:Rec}{p:Pos}{t o i:Expr}{lv:LV}{x:Str}{ob:O}{ts:List Expr}{P:Prop}
theorem rT{K K':Type}[DecidableEq K][DecidableEq K']{w:World}{knd:KeyKind pw w K}{knd':KeyKind pw w K'}{h:Heap}(hd:h.DictOf knd a []):h.DictOf knd' a []:=by
 obtain⟨o,es,ep,q1,q2,q3,_,q5,_⟩:=hd
 cases Array.eq_empty_of_size_eq_zero (Array.length_toList.symm.trans (Pairs.length q5))
 exact⟨o,#[],ep,q1,q2,q3,fun _ q=>(Array.not_mem_empty _ q).elim,.nil,List.nodup_nil⟩
theorem yd(g:u.G a = .obj r j)(eo:(u.st.get r)[j]? = some ob)(ri:Rl u iv y)(rv:Rl u v w)(h:Fq r j v iv ρ u.st k ob sc)(F:Fr f X u ρ)(q:CT f X u k Q):wA u A (setItem (.ref a) y w) Q E:=by
 have fin:=fun {o'} (hk:k ρ (u.st.upd r j o') sc) (u':Wl Γ) (l:Lw u u') (es:u'.st=u.st.upd r j o')=>q u' ρ sc l.weak (F.up l) (es▸hk)
 have oa:=u.objAt g eo
 induction ob with
 |list xs=>exact ri.intD h fun i t ei h=>natD.of h fun n en h=>ei▸en▸wS g eo rv h.1 (fin h.2)
 |idd es=>
  refine DictA.elim oa fun kvs hd hb hk hv=> ?_
  cases iv with
  |int n=>exact ri.intI fun t en=>en▸kY g eo hd ⟨hk,hv⟩ (intKind_is pw Γ.w n t) rv h.1 (fun h' dd=>(gB n v es).symm▸dd) (fin h.2)
  |str n=>
   have z:=nilD.of h
   have e:=z.1
   subst e
   cases List.eq_nil_of_length_eq_zero ((RelKs.length (es:=[]) ⟨hk,hv⟩).symm:kvs.length=0)
   exact ri.strI fun t en=>en▸kY (o':= .sd [(n,v)]) g eo (rT hd) (es:=[]) ⟨rfl,.nil⟩ (strKind_is pw Γ.w n t) rv (Nat.zero_le _) (fun h' dd=>dd) (fin z.2)
  |_=>exact h.elim
 |sd es=>exact DictA.elim oa fun kvs hd hb hk hv=>ri.strD h fun n t en h=>en▸kY g eo hd ⟨hk,hv⟩ (strKind_is pw Γ.w n t) rv (ltr (Nat.le_of_ble_eq_true h.1) (by decide)) (fun h' dd=>(gV n v es).symm▸dd) (fin h.2)
 |inst _ _=>exact h.elim
theorem tF(IH:bc Γ d R.e)(h:zt R f.cx o i p.line v ρ u.st sc k)(F:Fr f X u ρ)(rv:Rl u v w)(q:CT f X u k Q):wA u f.A (assign (.Subscript o i p) f.env w) Q E:=by
 exact wpAny_bind (wpAny_holding (IH h F fun _ u1 _ _ l1 r1 h=>wpAny_bind (wpAny_holding (IH h (F.up l1) fun _ u2 _ _ l2 r2 h=>wpAny_bind (wpAny_standAt (wpAny_bind (wpAny_holding ((r1.up l2).refD h fun _ _ _ ex g h=>h.of fun _ _ eo h=>ex ▸
  yd g eo r2 ((rv.up l1).up l2) h ((F.up l1).up l2) fun u' ρ' sc l F h=>wpAny_release (q u' ρ' sc ((l1.trans l2).weak.trans l) F h)))))))))
theorem qC(BK:dz Γ)(IH:bc Γ d R.e)(h:R.e f.cx o ρ u.st sc (Fx x p.line v ρ k))(F:Fr f X u ρ)(rv:Rl u v w)(q:CT f X u k Q):wA u f.A (assign (.Attribute o x p) f.env w) Q E:=by
 exact wpAny_bind (wpAny_holding (IH h F fun _ u1 _ _ l r h=>wpAny_bind (wpAny_standAt (wpAny_bind (wpAny_holding (r.refD h fun _ _ a ex g h=>h.of fun ob sc eo h=>O.instD.of h fun c fs eb h=>have z:=gate.of h
  (u1.objAt g (eo.trans (congrArg some eb)):OAt Γ u1.h u1.G a (.inst c fs)).elim fun da i=>ex▸wM BK z.1 i.1 i.2.2 (Nat.le_of_ble_eq_true z.2.1) (rv.up l) fun h' t sb ed hs=>
   have l2:Lw u1 (u1.changeI h' t g eo i.2.1 i.1 sb ed (hs _ (.change sb (kE i.2.1) ed))):=Wl.changeI_le
   wpAny_release (q _ ρ sc (l.trans l2).weak (F.up (l.trans l2)) z.2.2)))))))
theorem wk{c:Nat}(hW:f.W=true)(h:CU p.line u.st v sc fun xs sc=>someE (asgN 9 (.Tuple ts c p) (.tup xs) ρ) sc fun ρ sc=>k ρ u.st sc)(F:Fr f X u ρ)(rv:Rl u v w)(q:CT f X u k Q):wA u f.A (assign (.Tuple ts c p) f.env w) Q E:=by
 have fin:=fun {xs arr a sc} (sa:Ay u.h a arr) (rr:Rls u xs arr.toList) (h:someE (asgN 9 (.Tuple ts c p) (.tup xs) ρ) sc fun ρ sc=>k ρ u.st sc)=>h.of fun ρ' sc e hk=>k8 (E:=E) (c:=c) (p:=p) (n:=8) F.rm.1 (iK F.rm.1) (e:jC (asgN 8) ts xs ρ=some ρ') (fun t _=> .inl hW) sa rr F fun u' l es F'=>q u' ρ' sc l F' (es▸hk)
 cases v with
 |ref r i=>exact rv.refI fun a ex g=>h.of fun ob sc eo h=>O.listD.of h fun xs eb h=>ListAt.elim (u.objAt g (eo.trans (congrArg some eb)):OAt Γ u.h u.G a (.list xs)) fun arr n ea b rr=>ex▸fin (.inr ⟨n,ea⟩) rr h
 |tup xs=>exact rv.tupI fun a arr n ex ea g b rr=>ex▸fin (.inl ⟨n,ea⟩) rr h
 |lst xs=>exact rv.lstI fun a arr n ex ea g b rr=>ex▸fin (.inr ⟨n,ea⟩) rr h
 |_=>exact h.elim
theorem LV.odD.of{g:List (Int×V)→Prop}:∀ {o:LV},o.odD False g→(∀a,o = .od a→g a→P)→P
 | .od a,h,q=>q a rfl h
theorem LV.olD.of{g:List V→Prop}{D:Prop}:∀ {o:LV},o.olD D g→(∀a,o = .ol a→g a→P)→(D→P)→P
 | .ol a,h,q,_=>q a rfl h
 | .v _,h,_,q=>q h
 | .fv _,h,_,q=>q h
 | .od _,h,_,q=>q h
 | .unb,h,_,q=>q h
theorem pL(BK:dz Γ)(IH:bc Γ d R.e)(hW:f.W=true)(h:Bi R f.cx t lv ρ u.st sc k)(F:Fr f Y u ρ)(i:∀a,Y a→X a)(hv:Lv f X u lv (some w))(nf:lv.isFv=false)(no:∀a,mL lv w a→¬Y a)(q:CT f X u k Q):wA u f.A (assign t f.env w) Q E:=by
 have FX:=F.widen i
 have rel:=fun {v} (e:lv = .v v)=>((e▸hv:Lv f X u (.v v) (some w)).vI rfl:Rl u v w)
 cases t with
 |Name x p=>exact have z:=gate.of h;F.elim fun m cont F=>wpAny_assign_Name ((F.widen i).storeLv (.inl hW) z.1 hv nf (fun a y _ ho e o=>no a ⟨ho,e⟩ (F.ownT o).ow.x) z.2 q)
 |Tuple ts c p=>exact LV.vD.of h fun v e h=>wk hW h FX (rel e) q
 |Attribute o x p=>exact LV.vD.of h fun v e h=>qC BK IH h FX (rel e) q
 |Subscript o i p=>exact LV.vD.of h fun v e h=>optD.of h (fun z hz h=>LV.odD.of h fun es ez h=>ownN.of hz fun p' eo hx ho=>by
   rw[arm_assign_Subscript,eo]
   exact FX.elim fun m cont F=>F.ownO hx ho fun a hc _=>wpAny_bind (wpAny_holding (F.name hx hc (wpAny_bind (wpAny_holding (IH h F.fr fun _ u1 _ sc l r h=>wpAny_bind (wpAny_standAt (wpAny_bind (wpAny_holding (r.intD h fun n t en h=>en ▸
    AZ (F.up l) (ez▸hx) hc ((rel e).up l) h.1 fun u2 l2 es F2=>wpAny_release (q u2 _ sc (l.weak.trans l2) F2 (es▸h.2)))))))))))) fun h=>tF IH h FX (rel e) q
 |_=>exact h.elim
theorem mV(BK:dz Γ)(IH:bc Γ d R.e)(hW:f.W=true):∀ {ts:List Expr} {lvs:List LV} {ws:List Value} {u:Wl Γ} {ρ:Rho} {sc:Sc},aF ts=true→lT R f.cx ts lvs ρ u.st sc k→LvNs f X u lvs ws→Fr f (fun a=>X a∧¬iO lvs ws a) u ρ→CT f X u k Q→wA u f.A (assignInOrder ((assignEach ts f.env).map (·.2)) ws) Q E
 |[],_,_,u,ρ,sc,_,h,_,F,q=>assignInOrder_nil (q u ρ sc .rfl (F.widen fun a z=>z.1) (nilD.of h).2)
 |t::ts,[],_,_,_,_,_,h,_,_,_=>(h:False).elim
 |t::ts,lv::lvs,ws,u,ρ,sc,ok,h,l,F,q=>Exists.elim l fun w l=>l.elim fun ws' z=>by
  have e:=z.1
  subst e
  rw[bL (ay ok).1]
  refine assignInOrder_cons (pL (X:=fun a=>X a∧¬iO lvs ws' a) (k:=fun ρ st sc=>lT R f.cx ts lvs ρ st sc k) BK IH hW h F (fun a y=>⟨y.1,fun o=>y.2 (.inr o)⟩) (z.2.1.1.tr (Y:=noX) .rfl fun a h e=>⟨id,fun x=>⟨x,z.2.2.1 a ⟨h,sji e⟩⟩⟩) z.2.1.2 (fun a o y=>y.2 (.inl o)) fun u' ρ' sc' l' F' h'=> ?_)
  exact mV BK IH hW (ay ok).2 h' (z.2.2.2.tr l' fun a o=>⟨fun y=>y.2 o,id⟩) F' (q.tr (l'.mono fun a y=>y.1))
end
variable{Γ:Cf}{d:Nat}
noncomputable def eU:List Str→List LV→Rho→Rho
 |[],_,ρ=>ρ
 |x::xs,lvs,ρ=>consD lvs ρ fun lv lvs=>eU xs lvs (bw x lv ρ)
def CanAll:List Str→Rho→Prop
 |[],_=>True
 |x::xs,ρ=>canPut x ρ=true∧CanAll xs ρ
section
variable{u u' u0:Wl Γ}{f:Fm d}{X Y:Addr→Prop}{ρ ρ':Rho}{E:Value→Shared→Prop}{sc:Sc}{A:Around}{w:Value}{R:Rec}{p p' pos:Pos}{t v:Expr}{lv:LV}{x y:Str}{ts vs:List Expr}{P:Prop}{st:St}{cx:Cx}{a:Addr}{ws:List Value}{lvs:List LV}{k:KF}{Q:Flow→Shared→Prop}{c c' line:Nat}{env:Env}{m cont:cI}
theorem inStrs.of{r:List Str}(h:inStrs x (y::r)=false):y≠x∧inStrs x r=false:=by
 unfold inStrs at h
 cases e:av y x with
 |true=>rw[e] at h;cases h
 |false=>rw[e] at h;exact⟨dg e,h⟩
theorem distinctS.of{r:List Str}(h:distinctS (x::r)=true):inStrs x r=false∧distinctS r=true:=by
 unfold distinctS at h
 cases e:inStrs x r with
 |true=>rw[e] at h;exact ffS h
 |false=>rw[e] at h;exact⟨rfl,h⟩
theorem Eu{a:LV}(h:look y ρ=look y ρ'):look y (bw x a ρ)=look y (bw x a ρ'):=(Classical.em (y=x)).elim (fun e=>by cases e;rw[aI,aI]) fun n=>(aS a n ρ).trans (h.trans (aS a n ρ').symm)
theorem mW:∀ {xs:List Str} {lvs:List LV} {ρ ρ':Rho},look y ρ=look y ρ'→look y (eU xs lvs ρ)=look y (eU xs lvs ρ')
 |[],_,_,_,h=>h
 |_::_,[],_,_,h=>h
 |_::xs,_::lvs,_,_,h=>mW (xs:=xs) (lvs:=lvs) (Eu h)
theorem fN:∀ {xs:List Str} {lvs:List LV} {ρ:Rho},inStrs x xs=false→look x (eU xs lvs ρ)=look x ρ
 |[],_,_,_=>rfl
 |_::_,[],_,_=>rfl
 |_::xs,_::lvs,ρ,h=>have z:=inStrs.of h;(fN (xs:=xs) (lvs:=lvs) z.2).trans (aS _ z.1.symm ρ)
theorem pG{xs:List Str}(h:inStrs x xs=false):look y (eU xs lvs (bw x lv ρ))=look y (bw x lv (eU xs lvs ρ)):=
 (Classical.em (y=x)).elim (fun e=>by cases e;rw[fN h,aI,aI]) fun n=>(mW (aS lv n ρ)).trans (aS lv n _).symm
theorem jB(h:look x ρ=look x ρ'):canPut x ρ=canPut x ρ':=by unfold canPut;rw[h]
theorem CanAll.less:∀ {xs:List Str},CanAll xs (bw x lv ρ)→inStrs x xs=false→CanAll xs ρ
 |[],_,_=>trivial
 |_::_,h,n=>have z:=inStrs.of n;⟨jB (aS lv z.1 ρ)▸h.1,h.2.less z.2⟩
theorem jY{k:KR}:∀ {ts:List Expr} {xs:List Str} {lvs:List LV} {ρ:Rho},eP ts=some xs→distinctS xs=true→lT R cx ts lvs ρ st sc k→xs.length=lvs.length∧CanAll xs ρ∧k (eU xs lvs ρ) st sc
 |[],_,lvs,_,e,_,h=>have z:=nilD.of h;by cases e;cases z.1;exact⟨rfl,trivial,z.2⟩
 |t::ts,xs,[],_,_,_,h=>(h:False).elim
 |t::ts,xs,lv::lvs,ρ,e,dd,h=>nameD.some e fun x p et e=>optD.some e fun ys ey e=>by
  cases e;cases et
  have g:=gate.of (show gate (canPut x ρ) (lT R cx ts lvs (bw x lv ρ) st sc k) from h)
  have n:=distinctS.of dd
  have i:=jY ey n.2 g.2
  exact⟨congrArg (· + 1) i.1,⟨g.1,i.2.1.less n.1⟩,i.2.2⟩
theorem Fr.same(F:Fr f X u ρ)(e:∀y,look y ρ'=look y ρ):Fr f X u ρ':=F.imp fun m F=>F.imp fun cont F=>
 have o:=fun {y a} (o:i5 ρ' cont y a)=>(o.imp fun _ z=>⟨(e y).symm.trans z.1,z.2⟩:i5 ρ cont y a)
 ⟨F.st,F.fresh,F.ns,F.gl,F.xl,fun x lv h=>F.sv x lv ((e x).symm.trans h),fun x y a h h'=>F.apart x y a (o h) (o h')⟩
noncomputable abbrev CSt(f:Fm d)(X:Addr→Prop)(u:Wl Γ)(ρ':Rho)(P:Wl Γ→Prop):Prop:=∀u':Wl Γ,LwX X u u'→u'.st=u.st→Fr f X u' ρ'→P u'
theorem uH(hW:f.W=true):∀ {xs:List Str} {X:Addr→Prop} {lvs:List LV} {ws:List Value} {u:Wl Γ} {ρ:Rho} {b:List (Value→Sem Unit)} {ws':List Value} {Q:Unit→Shared→Prop},distinctS xs=true→xs.length=lvs.length→CanAll xs ρ→LvNs f X u lvs ws→Fr f (fun a=>X a∧¬iO lvs ws a) u ρ→
  CSt f X u (eU xs lvs ρ) (fun u'=>wA u' f.A (assignInOrder b ws') Q E)→wA u f.A (assignInOrder ((xs.reverse.map fun n=>bindName f.env n)++b) (ws.reverse++ws')) Q E
 |[],_,[],_,u,_,_,_,_,_,_,_,l,F,q=>(l:_=[])▸q u .rfl rfl (F.widen fun a z=>z.1)
 |x::xs,X,lv::lvs,ws,u,ρ,b,ws',Q,dd,n,c,l,F,q=>Exists.elim l fun w l=>l.elim fun wr z=>by
  have e:=z.1
  subst e
  have nn:=distinctS.of dd
  rw[List.reverse_cons,List.reverse_cons,List.map_append,List.append_assoc,List.append_assoc]
  refine uH hW (X:=fun a=>X a∧¬mL lv w a) (lvs:=lvs) nn.2 (Nat.succ.inj n) c.2 (z.2.2.2.tr (Y:=noX) .rfl fun a o=>⟨id,fun y=>⟨y,fun o'=>z.2.2.1 a o' o⟩⟩) (F.widen fun a y=>⟨⟨y.1,fun o=>y.2 (.inl o)⟩,fun o=>y.2 (.inr o)⟩) fun u1 l1 e1 F1=> ?_
  refine assignInOrder_cons (bindName_ (F1.elim fun m cont F1=>(F1.widen fun a y=>y.1).storeLv (sc:=[]) (k:=fun ρ₁ st _=>ρ₁=bw x lv (eU xs lvs ρ)∧st=u1.st) (.inl hW) ((jB (fN nn.1)).trans c.1) (z.2.1.1.tr l1 fun a h e=>⟨fun y=>y.2 ⟨h,sji e⟩,id⟩) z.2.1.2
   (fun a y _ ho e o=>(F1.ownT o).ow.x.2 ⟨ho,e⟩) ⟨rfl,rfl⟩ fun u2 ρ2 _ l2 F2 h2=> ?_))
  exact q u2 ((l1.mono fun a y=>y.1).trans l2) (h2.2.trans e1) ((h2.1▸F2).same fun y=>pG nn.1)
 |[],_,_::_,_,_,_,_,_,_,_,n,_,_,_,_=>nomatch n
 |_::_,_,[],_,_,_,_,_,_,_,n,_,_,_,_=>nomatch n
theorem nh{g:Expr→Option Str}(hg:∀t x,g t=some x→∃p,t = .Name x p):∀ {ts:List Expr},(ts.filterMap g).length=ts.length→eP ts=some (ts.filterMap g)
 |[],_=>rfl
 |t::ts,e=>by
  cases h:g t with
  |none=>rw[List.filterMap_cons_none h] at e;exact(Nat.lt_irrefl _ (ltr (leq e.symm) (List.length_filterMap_le g ts))).elim
  |some x=>
   rw[List.filterMap_cons_some h] at e ⊢
   refine(hg t x h).elim fun p et=> ?_
   unfold eP
   rw[et,nh hg (Nat.succ.inj e)];rfl
set_option tactic.hygienic true in
theorem mD(h:(vs.all (foldedForSure 8) || !(vs.all (constantsAlone 8)))=true):swappedStores [.Tuple ts c p] (.Tuple vs c' p') env=pure none∨∃xs,eP ts=some xs∧swappedStores [.Tuple ts c p] (.Tuple vs c' p') env=pure (some xs):=by
 unfold swappedStores
 dsimp only
 split
 ·exact .inl rfl
 ·split
  ·exact .inl rfl
  ·split
   ·exact .inl rfl
   ·rename_i hn
    cases hf:vs.all (foldedForSure 8) with
    |true=>exact .inl rfl
    |false=>
     rw[hf] at h
     rw[ef h]
     refine .inr ⟨_,nh (fun t x e=> ?_) (Classical.byContradiction fun z=>hn (Bool.or_eq_true_iff.mpr (.inl (bne_iff_ne.mpr z)))),rfl⟩
     cases t<;>first|(exact noS e;done)|skip
     dsimp only at e
     split at e
     ·cases e;exact⟨_,rfl⟩
     ·exact noS e
theorem jE{Q:Flow→Shared→Prop}(hs:swapsWith v (some t) pos.line env=pure false)(h:wpAny (model pw Γ.w) A (eval v env) (fun x s=>wpAny (model pw Γ.w) A (swappedStores [t] v env) (fun sw s=>wpAny (model pw Γ.w) A (assignStores env x sw ((assignEach [t] env).map (·.2))) Q E s) E s) E u.s):wA u A (exec (.Assign [t] v pos) env) Q E:=by
 refine wpAny_bind (wpAny_standAt ?_)
 have e1:swapsWithSole [t] v pos.line env=pure false:=hs
 rw[e1]
 show wpAny _ A (do
   let v' ←eval v env
   assignStores env v' (←swappedStores [t] v env) ((assignEach [t] env).map (·.2))) _ E u.s
 exact wpAny_bind (wpAny_mono h (fun _ s h=>wpAny_bind h) fun _ _ q=>q)
theorem LvNs.to(F:Fr f X u0 ρ)(l:LvNs f (New u0) u lvs ws):LvNs f X u lvs ws:=l.tr (Y:=noX) .rfl fun a _=>⟨id,fun n=>F.elim fun _ _ F=>F.fresh a n⟩
set_option tactic.hygienic true in
theorem pk(BG:cc Γ)(BK:dz Γ)(IH:bc Γ d R.e)(IC:g7 Γ d R.c)(hW:f.W=true)(ok:(w0 ts vs&&small vs)=true)(h:tZ R f.cx vs ρ u.st sc fun lvs st sc=>lT R f.cx ts lvs ρ st sc (uk k))(F:Fr f X u ρ)(q:CS f X u k Q):wA u f.A (exec (.Assign [.Tuple ts c p] (.Tuple vs c' p') pos) f.env) Q E:=by
 have o:=ai ok
 have o1:=ai o.1
 have o2:=ai o1.1
 have o3:=ai o1.2
 have sm:=dD o.2
 refine jE rfl (wpAny_Tuple (nA BG IH IC sm.2 h F fun ws u1 lvs sc l vl n h=> ?_))
 have b:=uO n sm.1
 refine⟨bH b,?_⟩
 have kp:=push_keep u1.h {cls:= .type "tuple",data:= .seq ws.toArray}
 have sa:Ay (u1.h.push {cls:= .type "tuple",data:= .seq ws.toArray}) u1.h.objs.size ws.toArray:= .inl ⟨0,new_obj rfl⟩
 have main:=fun(h':Heap) (kp':Grows (u1.h.push {cls:= .type "tuple",data:= .seq ws.toArray}) h')=>
  have l2:Lw u1 (u1.grow h' u1.t fun b o e=>kp' b o (kp b o e)):=Wl.grow_le
  have v2:=vl.tr l2 fun _ _=>⟨id,id⟩
  (⟨l.trans l2,v2.to F,F.less (l.trans l2) (fun a o=>(v2.own o).ow.x) fun a o=>(v2.own o).ha⟩:Lw u (u1.grow h' u1.t fun b o e=>kp' b o (kp b o e))∧LvNs f X (u1.grow h' u1.t fun b o e=>kp' b o (kp b o e)) lvs ws∧Fr f (fun a=>X a∧¬iO lvs ws a) (u1.grow h' u1.t fun b o e=>kp' b o (kp b o e)) ρ)
 have lens:ws.length=ts.length:=n.trans (Nat.eq_of_beq_eq_true o3.2).symm
 refine(mD (ts:=ts) (vs:=vs) (c:=c) (c':=c') (p:=p) (p':=p') (env:=f.env) o2.2).elim (fun e=> ?_) fun e=>e.elim fun xs e=> ?_
 ·rw[e]
  refine wpAny_pure ?_
  refine wpAny_bind ?_
  refine wpAny_bind (wpAny_standAt ?_)
  unfold unpack
  rw[du o3.1,(dU o3.1).trans (lens.symm.trans List.size_toArray.symm)]
  refine wpAny_bind (wpAny_holding (iB (arr:=ws.toArray) F.rm.1 sa fun h' kp'=> ?_))
  have z:=main h' kp'
  exact mV (u:=u1.grow h' u1.t fun b o e=>kp' b o (kp b o e)) BK IH hW o3.1 h z.2.1 z.2.2 fun u' ρ' sc l F h=>wpAny_pure (q .next u' .next ρ' sc (z.1.weak.trans l) F rfl h)
 ·rw[e.2]
  refine wpAny_pure ?_
  have nd:distinctS xs=true:=by have:=o2.1;rw[e.1] at this;exact this
  have g:=jY e.1 nd h
  refine wpAny_bind (wpAny_rule ?_)
  rw[(g.1.trans (vl.length.trans List.size_toArray.symm):xs.length=ws.toArray.size)]
  refine wpAny_bind (iB (arr:=ws.toArray) F.rm.1 sa fun h' kp'=>wpAny_bind ?_)
  have z:=main h' kp'
  have r:=uH (b:=[]) (ws':=[]) (Q:=fun _ s=>wpAny (model pw Γ.w) f.A (pure Flow.next) Q E s) (E:=E) hW nd g.1 g.2.1 z.2.1 z.2.2 fun u' l es F'=>assignInOrder_nil (wpAny_pure (q .next u' .next _ sc (z.1.weak.trans l) F' rfl (es▸g.2.2)))
  rw[List.append_nil,List.append_nil] at r
  exact r
end
variable{Γ:Cf}{d:Nat}
section
variable{u u' u0:Wl Γ}{f:Fm d}{X Y:Addr→Prop}{ρ ρ':Rho}{E:Value→Shared→Prop}{sc:Sc}{A:Around}{w:Value}{R:Rec}{p p' pos:Pos}{t v e:Expr}{lv:LV}{x y:Str}{P D:Prop}{a:Addr}{k:KF}{Q:Flow→Shared→Prop}{line:Nat}{env:Env}{m cont:cI}{C:CR}{body orelse:List Stmt}{test:Expr}
theorem f6{t:Option Expr}(h1:lm v=false)(h2:Ba v=false):swapsWith v t line env=pure false:=by
 cases v<;>first|rfl|exact Bool.noConfusion (show true=false from h1)|exact Bool.noConfusion (show true=false from h2)
theorem ta(h:lm v=true):∃b,swapsWith v (some (.Name x p)) line env=pure b:=by
 cases v<;>first|exact⟨_,rfl⟩|cases h
theorem oF(h:isTg t=true)(n:∀x p,t ≠ .Name x p):swapsWith v (some t) line env=pure false:=by
 unfold swapsWith
 split
 ·cases t<;>first|rfl|exact(n _ _ rfl).elim|cases h
 ·rfl
theorem isTg.star(h:isTg t=true):eY t=false:=by
 cases t<;>first|rfl|exact ffS h
set_option tactic.hygienic true in
theorem xb(h:isTg t=true)(n:cj t=false∨cj v=false):swappedStores [t] v env=pure none:=by
 cases t<;>first|rfl|exact ffS h|skip
 rename_i ts c q
 exact n.elim (fun n=>nomatch n) fun n=>by cases v<;>first|rfl|cases n
set_option tactic.hygienic true in
theorem vy(BG:cc Γ)(BK:dz Γ)(IH:bc Γ d R.e)(IC:g7 Γ d R.c)(hW:f.W=true)(hs:swapsWith v (some t) pos.line f.env=pure false)(hw:swappedStores [t] v f.env=pure none)(ht:eY t=false)
  (h:zW R f.cx v ρ u.st sc fun lv st sc=>Bi R f.cx t lv ρ st sc (uk k)) (F:Fr f X u ρ) (q:CS f X u k Q):wA u f.A (exec (.Assign [t] v pos) f.env) Q E:=by
 refine jE hs (pS BG IH IC h F fun x u1 lv sc l vl nf h=> ?_)
 rw[hw,bL ht]
 refine wpAny_pure ?_
 refine wpAny_bind ?_
 exact pL (Y:=fun a=>X a∧¬mL lv x a) BK IH hW h (F.less l (fun a o=>(Lv.own (o.2▸vl) o.1).ow.x) fun a o=>(Lv.own (o.2▸vl) o.1).ha) (fun a y=>y.1) (vl.tr (Y:=noX) .rfl fun a _ _=>⟨id,fun n=>F.elim fun _ _ F=>F.fresh a n⟩) nf (fun a o y=>y.2 o)
  fun u' ρ' sc l' F h=>wpAny_pure (q .next u' .next ρ' sc (l.weak.trans l') F rfl h)
theorem ownPop.of{g:Str→List V→Prop}(h:ownPop v ρ D g)(q:∀x xs ap cp p,v = .Call (.Attribute (.Name x p) (Str.ofString "pop") ap) [] [] cp→look x ρ=some (.ol xs)→Nat.beq ap.endLine cp.line=true→g x xs→P)(q':D→P):P:=
 callD.of h (fun c as kws cp ev h=>attrD.of h (fun o m ap ec h=>nameD.of h (fun x p eo h=>optD.of h (fun lv el h=>LV.olD.of h (fun xs ex h=>by
  have z:=gate.of h
  have o1:=ai z.1;have o2:=ai o1.1;have o3:=ai o2.1
  cases List.isEmpty_iff.mp o3.1;cases List.isEmpty_iff.mp o3.2;cases strEq_iff.mp o2.2;cases eo;cases ec;cases ex
  exact q x xs ap cp p ev (ownAt.of el).1 o1.2 z.2) False.elim) q') q') q') q'
theorem tupleD.of{g:List Expr→Prop}(h:tupleD v D g)(q:∀ts c p,v = .Tuple ts c p→g ts→P)(q':cj v=false→D→P):P:=by
 cases v<;>first|exact q _ _ _ rfl h|exact q' rfl h
theorem AQ{xs ys:List V}{v:V}{Q:Value→Shared→Prop}(F:FR f X u ρ m cont)(hx:look x ρ=some (.ol (ys++[v])))(hc:cont x=some (.ref a))(q:∀(u':Wl Γ) y,LwX X u u'→u'.st=u.st→Fr f X u' (bw x (.ol ys) ρ)→Rl u' v y→Q y u'.s):wA u A (call (.builtin "list.pop") [.ref a]) Q E:=
 Exists.elim (F.sv x _ hx).vl fun b z=>by
  cases hc.symm.trans z.1
  refine z.2.2.elim fun items n ea b rr=>nk rr fun y hy r1 r2=>Copied.pop_at (s:=u.s) ea hy (fun h' sb e'=> ?_) (ltr b dr)
  let u':=u.priv h' u.t u.G (.mine sb z.2.1.g ⟨_,e'⟩)
  have l:LwX (· = a) u u':=Wl.priv_le
  exact q u' y (l.mono fun b e=>e▸z.2.1.x) rfl (F.ownSet hx rfl hc l sb rfl ⟨_,e'⟩ rfl ⟨a,rfl,z.2.1,items.pop,_,e',Array.size_pop▸ltr (Nat.sub_le ..) b,r2.up l⟩) (r1.up l)
theorem rW{lv:LV}(h:canPut y ρ=true)(nf:lv.isFv=false):canPut y (bw x lv ρ)=true:=
 (Classical.em (y=x)).elim (fun e=>by cases e;unfold canPut;rw[aI];show(!lv.isFv)=true;rw[nf];rfl) fun n=>(jB (aS lv n ρ)).trans h
set_option tactic.hygienic true in
theorem ml(BS:hM Γ)(RS:iq Γ d R)(hW:f.W=true)(h:s5 R f.cx t v ρ u.st sc k)(cp:∀x p,t = .Name x p→canPut x ρ=true)(tu:cj t=false∨cj v=false)(F:Fr f X u ρ)(q:CS f X u k Q):wA u f.A (exec (.Assign [t] v pos) f.env) Q E:=by
 have z:=gate.of h
 have o:=ai z.1
 have go:=fun hs=>vy (E:=E) (pos:=pos) BS.g BS.k RS.e RS.c hW hs (xb o.2 tu) (isTg.star o.2) z.2 F q
 by_cases hn:∃x p,t = .Name x p
 ·obtain⟨x,p,rfl⟩:=hn
  cases hl:lm v with
  |false=>exact go (f6 hl (ef o.1))
  |true=>
   refine(ta (x:=x) (p:=p) (line:=pos.line) (env:=f.env) hl).elim fun b hb=> ?_
   induction b with
   |false=>exact go hb
   |true=>
    rw[exec_Assign_Name_used x p _ pos hb]
    cases v<;>first|exact ffS hl|skip
    exact wpAny_bind (wpAny_standAt (wpAny_bind (RS.u hW z.2 F (cp x p rfl) fun u' v sc' l F h=>wpAny_pure (q .next u' .next _ sc' l F rfl (gate.of (show gate (canPut x ρ) (k .next (bw x (.v v) ρ) u'.st sc') from h)).2))))
 ·exact go (oF o.2 fun x p e=>hn ⟨x,p,e⟩)
set_option tactic.hygienic true in
theorem tC(BS:hM Γ)(RS:iq Γ d R)(hW:f.W=true)(h:qm R f.cx t v pos.line ρ u.st sc k)(F:Fr f X u ρ)(q:CS f X u k Q):wA u f.A (exec (.Assign [t] v pos) f.env) Q E:=by
 have pl:=fun {t} (h:s5 R f.cx t v ρ u.st sc k) (ne:∀x p,t ≠ .Name x p) tu=>ml (E:=E) (pos:=pos) BS RS hW h (fun x p e=>(ne x p e).elim) tu F q
 cases t with
 |Tuple ts c p=>exact tupleD.of h (fun vs c' p' ev h=>have z:=gate.of h;ev▸pk BS.g BS.k RS.e RS.c hW z.1 z.2 F q) fun n h=>pl h (fun _ _ e=>nomatch e) (.inr n)
 |Name y qp=>
  have z:=gate.of h
  refine ownPop.of z.2 (fun x xs ap cp p ev hx hl h1=> ?_) fun h=>ml BS RS hW h (fun x p e=>by cases e;exact z.1) (.inl rfl) F q
  subst ev
  refine popE.of h1 fun ys v sc ex hk=> ?_
  subst ex
  exact wpAny_Assign_Name (je rfl hl rfl rfl (F.elim fun m cont F=>F.ownO hx rfl fun a hc _=>F.name hx hc fun pm=>Exists.elim (F.sv x _ hx).vl fun b zz=>zz.2.2.elim fun items n ea _ _=>
   sji (hc.symm.trans zz.1)▸Copied.getMethod_pop_at (s:=u.s) ea rfl rfl (callWith_builtin rfl (evalArgs_nil3 (AQ (xs:=[]) F hx zz.1 fun u1 w l es F1 r=>F1.elim fun m cont F1=>
    F1.store (k:=fun ρ st sc=>k .next ρ st sc) (.inl hW) (rW z.1 rfl) r (es▸hk) fun u2 ρ2 sc2 l2 F2 h2=>q .next u2 .next ρ2 sc2 (l.trans l2) F2 rfl h2))))) (f6 rfl rfl)
 |_=>exact pl h (fun _ _ e=>nomatch e) (.inl rfl)
theorem we(F:Fr f X u ρ):interactive f.env=false:=F.elim fun _ _ F=>by unfold interactive;rw[F.st.kind];rfl
set_option tactic.hygienic true in
theorem wa(F:Fr f X u ρ)(h1:lm e=false)(h2:Ba e=false)(h:wA u f.A (eval e f.env) (fun _ s'=>Q .next s') E):wA u f.A (exec (.Expr e pos) f.env) Q E:=by
 exact(exec_Expr f.env e pos (we F) (f6 h1 h2)).symm▸(wpAny_bind (wpAny_standAt (wpAny_bind (wpAny_mono h (fun v s' q=>wpAny_dropValue q) fun _ _ q=>q))))
theorem qP{QQ:Shared→Prop}{xs zs:List V}{items more:Array Value}{n n':Nat}{h':Heap}{t:Tok}(F:FR f X u ρ m cont)(hx:look x ρ=some (.ol xs))(hc:cont x=some (.ref a))(ea:IsL u.h a items n)(sb:Heap.SameBut a u.h h')(e':IsL h' a (items++more) n')(rz:Rls u zs more.toList)(f1:cL xs.length)(f2:cL zs.length)
  (q:∀u':Wl Γ,LwX X u u'→u'.st=u.st→Fr f X u' (bw x (.ol (xs++zs)) ρ)→QQ u'.s):QQ {u.s with heap:=h',toks:=t}:=
 Exists.elim (F.sv x _ hx).vl fun b z=>by
  cases hc.symm.trans z.1
  refine z.2.2.elim fun items' n2 ea' b rr=> ?_
  cases ea.symm.trans ea'
  let u':=u.priv h' t u.G (.mine sb z.2.1.g ⟨_,e'⟩)
  have l:LwX (· = a) u u':=Wl.priv_le
  exact q u' (l.mono fun b e=>e▸z.2.1.x) rfl (F.ownSet hx rfl hc l sb rfl ⟨_,e'⟩ rfl ⟨a,rfl,z.2.1,_,_,e',Array.size_append▸dq (Nat.add_le_add (b7 rr f1) (b7 rz f2)),(rr.appA rz).up l⟩)
theorem ownMore.of{g:Str→List V→Str→Expr→Prop}(h:ownMore e ρ D g)(q:∀x xs m a ap cp p,e = .Call (.Attribute (.Name x p) m ap) [a] [] cp→look x ρ=some (.ol xs)→Nat.beq ap.endLine cp.line=true→aF [a]=true→g x xs m a→P)(q':D→P):P:=
 callD.of h (fun c as kws cp ev h=>attrD.of h (fun o m ap ec h=>nameD.of h (fun x p eo h=>optD.of h (fun lv el h=>LV.olD.of h (fun xs ex h=>oneD.of h fun a ea h=>by
  have z:=gate.of h
  have o1:=ai z.1;have o2:=ai o1.1
  cases List.isEmpty_iff.mp o2.1;cases eo;cases ec;cases ex;cases ea
  exact q x xs m a ap cp p ev (ownAt.of el).1 o2.2 o1.2 z.2) False.elim) q') q') q') q'
theorem moreK.app{m:Str}{xs:List V}{v:V}{kk:List V→Prop}(h:moreK m xs v kk)(e:av m "append"=true):cL xs.length∧kk (xs++[v]):=by unfold moreK at h;rw[e] at h;exact h
theorem moreK.ext{m:Str}{xs:List V}{v:V}{kk:List V→Prop}(h:moreK m xs v kk)(e:av m "append"=false):v.lstD False fun ys=>(cL xs.length∧cL ys.length)∧kk (xs++ys):=by unfold moreK at h;rw[e] at h;exact(gate.of h).2
set_option tactic.hygienic true in
theorem zF(IH:bc Γ d R.e)(hW:f.W=true)(h:y4 R f.cx e ρ u.st sc k)(F:Fr f X u ρ)(q:CS f X u k Q):wA u f.A (exec (.Expr e pos) f.env) Q E:=by
 have z:=gate.of h
 have o:=ai z.1
 refine wa F (ef o.1) (ef o.2) (ownMore.of z.2 (fun x xs m a ap cp p ee hx hl ok h1=> ?_) fun h=>IH h F fun x u' v sc l r h=>q .next u' .next ρ sc l.weak (F.up l) rfl h)
 have g:=gate.of h1
 clear h1 z o h
 subst ee
 refine je rfl hl ok rfl (F.elim fun m' cont F=>F.ownO hx rfl fun ad hc _=>F.name hx hc fun pm=>Exists.elim (F.sv x _ hx).vl fun b zz=>zz.2.2.elim fun items n ea _ _=> ?_)
 cases hc.symm.trans zz.1
 have again:=fun {u1:Wl Γ} (l:Lw u u1)=>(Exists.elim (F.sv x _ hx).vl fun b z=>by cases hc.symm.trans z.1;exact z.2.2.elim fun items n e b rr=>⟨items,n,(Kp.own l e z.2.1.g id).2,b7 rr⟩:∃items n,IsL u1.h ad items n∧(cL xs.length→items.size≤100000))
 cases em:av m "append" with
 |true=>
  cases strEq_iff.mp em
  refine getMethod_list_append (s:=u.s) ea rfl rfl (dH (first:=[.ref ad]) (k:=fun vs st sc=>oneD vs False fun v=>moreK "append" xs v fun zs=>k .next (bw x (.ol zs) ρ) st sc) IH ok g.2 F.fr fun us u1 vs sc l r n h=>r.oneD h fun v y ey r1 h=> ?_)
  have h:=moreK.app h em
  exact(again l).elim fun items z=>z.elim fun n z=>ey▸wpAny_list_append_plain (s:=u1.s) ⟨n,z.1⟩ (fun h' hp sb=>hp.elim fun n2 e'=>
   qP (QQ:=fun s=>Q .next s) (t:=u1.t) (more:= #[y]) (F.up l) hx hc z.1 sb (show h'.get? ad=some {cls:= .type "list",data:= .seq (items ++ #[y]) n2} by rw[e'];rfl) (.one r1) h.1 (show 1≤100000 by decide) fun u2 l2 es F2=>q .next u2 .next _ sc (l.weak.trans l2) F2 rfl (es▸h.2)) (bH (ltr (z.2 h.1) (by decide)))
 |false=>
  have e2:av m "extend"=true:=by have:=g.1;rw[em] at this;exact this
  cases strEq_iff.mp e2
  refine getMethod_list_of (s:=u.s) PySem.F.slot_list_extend PySem.F.type_list_extend ⟨_,ea,rfl,n,rfl⟩ ⟨_,ea,rfl⟩ (dH (first:=[.ref ad]) (k:=fun vs st sc=>oneD vs False fun v=>moreK "extend" xs v fun zs=>k .next (bw x (.ol zs) ρ) st sc) IH ok g.2 F.fr fun us u1 vs sc l r n h=>r.oneD h fun v y ey r1 h=>r1.lstD (moreK.ext h em) fun ys b items2 n2 eb hb gb szb rr2 h=> ?_)
  refine(again l).elim fun items z=>z.elim fun n z=>ey▸eb ▸ ?_
  have fits:items.size+items2.size≤200000:=Nat.add_le_add (z.2 h.1.1) (b7 rr2 h.1.2)
  refine call_meets (s:=u1.s) PySem.F.slot_list_extend ⟨_,z.1,rfl⟩ PySem.F.entry_list_extend (PySem.F.args_list_extend_2 _ _) (PySem.AutoSeq1.list_extend_list_list_0 ad items n b items2 n2 ?_ (bH (ltr (Nat.le_add_right ..) fits)) (Nat.le_succ_of_le (bH fits))) ⟨z.1,hb,?_⟩
  ·have:Builtin.List.listTooLong (items.size+items2.size)=false:=decide_eq_false (Nat.not_lt.mpr (bH fits))
   rw[this,Bool.and_false];exact Bool.false_ne_true
  ·exact qP (QQ:=fun s=>Q .next s) (t:=u1.t) (more:=items2) (F.up l) hx hc z.1 (Heap.SameBut.update ..) (Heap.get?_update_self (Obj.mapSeq fun x=>x++items2) z.1 rfl) rr2 h.1.1 h.1.2 fun u2 l2 es F2=>q .next u2 .next _ sc (l.weak.trans l2) F2 rfl (es▸h.2)
theorem AD(IH:bc Γ d R.e)(hW:f.W=true)(h:Cb R f.cx e ρ u.st sc k)(F:Fr f X u ρ)(q:CS f X u k Q):wA u f.A (exec (.Return (some e) p) f.env) Q E:=
 wpAny_Return_some (optD.of h (fun z hz h=>LV.olD.of h (fun xs ex h=>ownN.of hz fun p' ee hx ho=>ee▸F.freeze1 (P:=fun s=>wpAny (model pw Γ.w) f.A (eval (.Name z.1 p') f.env) (fun v s=>Q (.ret v) s) E s) hW fun u' l es F'=>F'.elim fun m cont F'=>
   have hl:look z.1 (freeze1 z.1 ρ)=some (.v (.lst xs)):=qV (ex▸hx)
   Exists.elim (F'.sv _ _ hl).vl fun w r=>F'.name hl r.1 (q _ u' (.ret (.lst xs)) _ sc l F'.fr ⟨w,rfl,r.2⟩ (es▸h))) False.elim)
  fun h=>IH h F fun x u' v sc l r h=>q _ u' (.ret v) ρ sc l.weak (F.up l) ⟨x,rfl,r⟩ h)
theorem Fa(IC:g7 Γ d R.c)(IS:s9 Γ d R.s)(hW:f.W=true)(h:R.c f.cx test ρ u.st sc fun b st sc=>ifK line b sc (fun sc=>evB R f.cx body ρ st sc k) fun sc=>evB R f.cx orelse ρ st sc k)(F:Fr f X u ρ)(q:CS f X u k Q):wA u f.A (exec (.If test body orelse p) f.env) Q E:=
 wpAny_If (IC h F fun _ _ _ l h=>ifK.of h (fun _ e h=>wD e (dG IS hW h (F.up l) (q.tr l.weak))) fun _ e h=>xo e (dG IS hW h (F.up l) (q.tr l.weak)))
set_option tactic.hygienic true in
theorem qS(BS:hM Γ)(RS:iq Γ d R):s9 Γ d (BW R):=fun {f X u ρ s sc k Q E} hW h F q=>by
 have frz:=fun {c:Sem Flow} {xs} (go:∀ {u':Wl Γ},LwX X u u'→u'.st=u.st→Fr f X u' (freeze xs ρ)→wA u' f.A c Q E)=>F.freeze (P:=fun s=>wpAny (model pw Γ.w) f.A c Q E s) hW fun u' l es F'=>go l es F'
 cases s with
 |Expr e p=>exact zF RS.e hW h F q
 |Assign ts v p=>exact oneD.of h fun t et h=>et▸frz fun l es F=>tC BS RS hW (es▸h) F (q.tr l)
 |If test body orelse p=>exact Fa RS.c RS.s hW h F q
 |For t it body orelse p=>exact have z:=nilD.of h;z.1▸frz fun l es F=>Af BS.g BS.m RS.e RS.s hW (es▸z.2) F (q.tr l)
 |While test body orelse p=>exact have z:=nilD.of h;z.1▸u6 RS.c RS.s hW z.2 F q
 |Return o p=>exact optP.of h fun e eo h=>eo▸frz fun l es F=>AD RS.e hW (es▸h) F (q.tr l)
 |Continue p=>rw[arm_exec_Continue];exact wpAny_bind (wpAny_standAt (wpAny_pure (q _ u .cont ρ sc .rfl F rfl h)))
 |Pass p=>rw[arm_exec_Pass];exact wpAny_bind (wpAny_standAt (wpAny_pure (q _ u .next ρ sc .rfl F rfl h)))
 |_=>exact h.elim
theorem BR(BS:hM Γ)(RS:iq Γ d R):D6 Γ d (zw R C):=fun {f X u ρ elt gens scope p sc k y py Q E} hW h F cp q=>qd BS.g BS.m RS.e RS.c hW h F cp q
theorem nr(BS:hM Γ)(CS:CallSem Γ d C):∀n,iq Γ d (evN C n)
 |0=>⟨fun h _ _=>h.elim,fun h _ _=>h.elim,fun _ h _ _=>h.elim,fun _ h _ _ _=>h.elim⟩
 |n+1=>have RS:=nr BS CS n;⟨p4 BS CS RS,rk BS RS,qS BS RS,BR (C:=C) BS RS⟩
end
variable{Γ:Cf}{d:Nat}
structure Gb(Γ:Cf)(g:Nat)(s:Stmt)(o:Obj)(fd:FuncData):Prop where
 at_:Γ.B.heap.get? (Γ.pl.fa g)=some o
 data:o.data = .func fd
 body:fd.body = .stmts (oG s)
 params:fd.params=jq s
 scope:fd.scope=dC s
 globs:fd.globals=mainGlobals
 blts:fd.builtins=builtinsNs
 clos:fd.closure=[]
 code:Γ.B.heap.CodeRec fd.code fd.qualname
 home:jm (namesOf s)=true→fd.code = .ref Γ.pl.lc∧fd.qualname++".<locals>."++"<lambda>"=Γ.pl.lq
 dflt:∃dvs,oo Γ.B.heap fd.defaults dvs∧Rels Γ.pl Γ.B.heap (fun _=> .frz) (gi g) dvs
structure Bf(Γ:Cf)(g:Nat)(s:Stmt):Prop where
 ex:∃o fd,Gb Γ g s o fd
 ok:defOk g=true
section
variable{x y:Str}{P:Str→Prop}{ko:Str→Option NameKind}{u:Wl Γ}
theorem ua{names:Cx}(h:rq names x=true):names.lookup x=some .local∨names.lookup x=some .cell:=by
 unfold rq at h
 rw[←j8]
 cases e:look x names with
 |none=>rw[e] at h;exact ffS h
 |some k=>rw[e] at h;induction k<;>first|exact .inl rfl|exact .inr rfl|exact ffS h
set_option tactic.hygienic true in
theorem fk:∀ {names:Cx} {n:Nat} {acc:List (Str×Addr)},(x,NameKind.cell)∈names∨(∃c,acc.lookup x=some c)→∃c,(cellsFrom n names acc).lookup x=some c
 |[],_,_,h=>h.elim (fun h=>nomatch h) id
 |(y,k)::r,n,acc,h=>by
  unfold cellsFrom
  have keep:∀a:Addr,(∃c,acc.lookup x=some c)→∃c,((y,a)::acc).lookup x=some c:=fun a h=>by rw[aj];cases av y x;exact h;exact⟨a,rfl⟩
  split
  ·exact fk (h.elim (fun h=>(List.mem_cons.mp h).elim (fun e=> .inr ⟨n,by cases e;rw[aj,strEq_self];rfl⟩) .inl) fun h=> .inr (keep n h))
  ·rename_i hk
   exact fk (h.imp_left fun h=>(List.mem_cons.mp h).elim (fun e=>by cases e;exact(hk rfl).elim) id)
noncomputable def contOf(ko:Str→Option NameKind)(m cm:cI):cI:=fun x=>if ko x=some .local then m x else cm x
noncomputable def Ae:List (Str×Value)→cI→cI
 |[],g=>g
 |p::l,g=>Ae l (setF g p.1 p.2)
theorem jM:∀ {l:List (Str×Value)} {m cm:cI},contOf ko (bindL ko l m) (bindC ko l cm)=Ae l (contOf ko m cm)
 |[],_,_=>rfl
 |(x,w)::l,m,cm=>(jM (l:=l)).trans (congrArg (Ae l) (funext fun y=>by
  unfold contOf setF
  by_cases hx:ko x=some .local
  ·rw[if_pos hx,if_pos hx]
   by_cases e:y=x
   ·cases e;rw[if_pos hx,if_pos rfl];exact(if_pos rfl).symm
   ·rw[if_neg e,if_neg e]
  ·rw[if_neg hx,if_neg hx]
   by_cases e:y=x
   ·cases e;rw[if_neg hx,if_pos rfl];exact(if_pos rfl).symm
   ·rw[if_neg e,if_neg e]))
def yb(u:Wl Γ)(P:Str→Prop)(ρ:Rho)(g:cI):Prop:=∀x lv,look x ρ=some lv→P x∧(lv = .unb∨∃y w,lv = .v y∧g x=some w∧Rl u y w)
theorem qE:∀ {xs:List Str} {vs:List V} {us:List Value} {ρ₀ ρ:Rho} {g:cI},ox xs vs ρ₀=some ρ→Rls u vs us→(∀x,x∈xs→P x)→yb u P ρ₀ g→yb u P ρ (Ae (xs.zip us) g)∧xs.length=vs.length
 |[],[],us,_,_,_,e,r,_,i=>r.nilI▸⟨sji e▸i,rfl⟩
 |x::xs,v::vs,us,ρ₀,ρ,g,e,r,hp,i=>r.consI fun w ws ew r1 r2=>by
  subst ew
  have z:=qE (xs:=xs) (vs:=vs) (ρ₀:=bw x (.v v) ρ₀) (g:=setF g x w) e r2 (fun y m=>hp y (List.mem_cons_of_mem _ m)) fun y lv h=>AV h (fun e e'=>by cases e;exact⟨hp _ List.mem_cons_self,.inr ⟨v,w,e'.symm,setF_self,r1⟩⟩) fun n h=>have z:=i y lv h;⟨z.1,z.2.imp_right fun q=>q.imp fun a q=>q.imp fun b q=>⟨q.1,(um n).trans q.2.1,q.2.2⟩⟩
  exact⟨z.1,congrArg (· + 1) z.2⟩
 |[],_::_,_,_,_,_,e,_,_,_=>noS e
 |_::_,[],_,_,_,_,e,_,_,_=>noS e
theorem jc:∀ {l:Cx} {lv:LV},look x (jK l)=some lv→lv = .unb∧∃p,p∈jK l∧p.1=x
 |(y,k)::r,lv,e=>by
  unfold jK at e ⊢
  cases q:xN k with
  |true=>
   rw[q] at e
   exact gX e (fun e1 e2=>⟨e2.symm,_,List.mem_cons_self,e1⟩) fun _ e=>have z:=jc e;⟨z.1,z.2.imp fun p z=>⟨List.mem_cons_of_mem _ z.1,z.2⟩⟩
  |false=>rw[q] at e;exact jc e
theorem ze:∀ {l:List Str},x∈l→inStrs x l=true
 |y::r,h=>by
  unfold inStrs
  cases e:av y x with
  |true=>rfl
  |false=>exact(List.mem_cons.mp h).elim (fun q=>(dg e q.symm).elim) ze
theorem gj:∀ {l:List Str},distinctS l=true→l.Nodup
 |[],_=> .nil
 |_::_,h=>have z:=distinctS.of h;List.nodup_cons.mpr ⟨fun q=>Bool.noConfusion (z.1.symm.trans (ze q)),gj z.2⟩
theorem plainArgs.eq{a:Arguments}(h:plainArgs a=true):a=⟨[],a.args,none,[],a.kw_defaults,none,a.defaults⟩:=by
 obtain⟨po,ar,va,ko,kd,kw,de⟩:=a
 have h1:=ai h;have h2:=ai h1.1;have h3:=ai h2.1
 rw[show kw=none from Option.isNone_iff_eq_none.mp h1.2,show ko=[] from List.isEmpty_iff.mp h2.2,show va=none from Option.isNone_iff_eq_none.mp h3.2,show po=[] from List.isEmpty_iff.mp h3.1]
theorem rR(s:Stmt):(jq s).args.map (·.arg)=bT s:=by cases s<;>rfl
theorem jO(s:Stmt):(dC s).names=namesOf s:=by cases s<;>rfl
structure Dd(g:Nat)(s:Stmt):Prop where
 plain:plainArgs (jq s)=true
 fn:(dC s).kind = .function
 ng:(dC s).isGenerator=false
 nc:(dC s).isCoroutine=false
 nd:distinctS (bT s)=true
 dl:(gi g).length≤(bT s).length
 pn:∀x,x∈bT s→bJ x=true∧rq (namesOf s) x=true
 bn:∀p,p∈jK (namesOf s)→bJ p.1=true∧rq (namesOf s) p.1=true
theorem defOk.of{g:Nat}{s:Stmt}(h:defOk g=true)(e:dW g=some s):Dd g s:=by
 unfold defOk at h
 rw[e] at h
 have o1:=ai h;have o2:=ai o1.1;have o3:=ai o2.1;have o4:=ai o3.1;have o5:=ai o4.1;have o6:=ai o5.1;have o7:=ai o6.1
 exact⟨o7.1,fT o7.2,ef o6.2,ef o5.2,o4.2,Nat.le_of_ble_eq_true o3.2,fun x hx=>ai (List.all_eq_true.mp o2.2 x hx),fun p hp=>ai (List.all_eq_true.mp o1.2 p hp)⟩
theorem w8{a b c:Nat}(h1:a≤c)(h2:b≤c)(_:c-b≤a):a-(c-b)=b-(c-a):=by
 rw[Nat.sub_sub_right a h2,Nat.sub_sub_right b h1,Nat.add_comm]
theorem lens{a b c:Nat}(_:b≤c)(e:c=a+(b-(b-(c-a)))):a≤c∧c-b≤a:=
 ⟨Nat.le.intro e.symm,Nat.sub_le_of_le_add (ltr (leq e) (Nat.add_le_add_left (Nat.sub_le ..) a))⟩
end
variable{Γ:Cf}{d:Nat}{C:CR}
theorem rZ{u:Wl Γ}{A:Around}{env:Env}{g:Nat}{s0:Stmt}{o:Obj}{fd:FuncData}{ρ:Rho}{m cm:cI}{h1:Heap}{tk:Tok}(fi:Gb Γ g s0 o fd)(di:Dd g s0)(rm:Rm A d)(he:env=newEnv fd.scope u.h.objs.size fd.globals (cellsFrom (u.h.objs.size+1) fd.scope.names []) (fd.qualname++".<locals>.") (some (Γ.pl.fa g)) fd.code none fd.builtins)
  (x:InCallC u.s env.locals m env.cells cm {u.s with heap:=h1,toks:=tk}) (gd:yb u (fun x=>bJ x=true∧rq (namesOf s0) x=true) ρ (contOf (fun x=>fd.scope.names.lookup x) m cm)):
  ∃u1:Wl Γ,u1.h=h1∧u1.t=tk∧u1.st=u.st∧Lw u u1∧Fr (⟨A,env,true,namesOf s0⟩:Fm d) (New u) u1 ρ:=by
 have hn:fd.scope.names=namesOf s0:=(congrArg Scope.names fi.scope).trans (jO s0)
 have hkof:env.kindOf=fun x=>fd.scope.names.lookup x:=by rw[he];rfl
 have hk:∀x k,look x (namesOf s0)=some k→env.kindOf x=some k:=fun x k e=>by rw[hkof,hn];exact(j8 ..).symm.trans e
 have hcells:env.cells=cellsFrom (u.h.objs.size+1) fd.scope.names []:=by rw[he];rfl
 let D:Addr→Prop:=fun b=>b=env.locals∨∃n,env.cells.lookup n=some b
 have noneL:∀b,D b→u.h.get? b=none:=fun b hb=>hb.elim (fun e=>e▸bq _ x.toInCall.fresh) fun z=>z.elim fun n hn=>bq _ (Nat.le_of_lt (Nat.lt_of_le_of_lt x.toInCall.fresh (x.above n b (PySem.mem_of_lookup hn))))
 have has:∀b,D b→∃o,h1.get? b=some o:=fun b hb=>hb.elim (fun e=>e▸ft x.toInCall.ns) fun z=>z.elim fun n hn=>(x.cell n b hn).imp fun _ z=>z.1
 let u1:=u.news D h1 tk x.toInCall.keep noneL has
 have l:Lw u u1:=Wl.news_le
 have own:∀ {b},D b→u1.G b = .own:=fun h=>(markG_in h:fG u.G D .own _=_)
 refine⟨u1,rfl,rfl,rfl,l,m,contOf (fun x=>fd.scope.names.lookup x) m cm,⟨rm,?_,?_,?_,fun x e=>hk x _ e,fun x k e hc=> ?_,fun y z c h1 h2=>name_of_addr x.apart (PySem.mem_of_lookup h1) (PySem.mem_of_lookup h2),fun hh=> ?_⟩,fun a n=>l.none n,x.toInCall.ns,own (.inl rfl),noneL _ (.inl rfl),fun y lv e=> ?_,fun y z a o _=>o.elim fun lv q=> ?_⟩
 ·rw[he];exact(congrArg Scope.kind fi.scope).trans di.fn
 ·rw[he];exact fi.globs
 ·rw[he];exact fi.blts
 ·induction k<;>first|exact .inl (hk x _ e)|exact .inr (hk x _ e)|exact ffS hc
 ·have z:=fi.home hh
  rw[he];exact z
 ·have z:=gd y lv e
  have lc:=ua z.1.2
  have rl:lv.role = .own:=z.2.elim (fun e=>e▸rfl) fun q=>q.elim fun _ q=>q.elim fun _ q=>q.1▸rfl
  refine⟨z.1.1,lc.imp (fun q=>⟨?_,?_⟩) fun q=> ?_,?_⟩
  ·rw[hkof,hn];exact q
  ·exact(if_pos (hn▸q:fd.scope.names.lookup y=some .local)).symm
  ·have q:fd.scope.names.lookup y=some .cell:=hn▸q
   refine(fk (n:=u.h.objs.size+1) (acc:=[]) (.inl (PySem.mem_of_lookup q))).imp fun c hc=> ?_
   have hc:env.cells.lookup y=some c:=hcells▸hc
   have kk:env.kindOf y=some .cell:=hkof.symm▸q
   have ec:contOf (fun x=>fd.scope.names.lookup x) m cm y=cm y:=show(if fd.scope.names.lookup y=some .local then m y else cm y)=cm y from if_neg (show ¬fd.scope.names.lookup y=some .local from fun h=>nomatch q.symm.trans h)
   exact⟨.inl kk,hc,ec▸x.cell y c hc,(own (.inr ⟨y,hc⟩)).trans rl.symm,fun _=>⟨noneL c (.inr ⟨y,hc⟩),kk⟩⟩
  ·exact z.2.elim (fun e=>e▸trivial) fun q=>q.elim fun v q=>q.elim fun w q=>q.1▸⟨w,q.2.1,q.2.2.up l⟩
 ·exact(gd y lv q.1).2.elim (fun e=>nomatch (e▸q.2.1:LV.unb.isOwn=true)) fun z=>z.elim fun v z=>z.elim fun w z=>nomatch (z.1▸q.2.1:(LV.v v).isOwn=true)
theorem zK(BS:hM Γ)(FN:∀ {g s},cY g=true→dW g=some s→Bf Γ g s)(CS:CallSem Γ d C):CallSem Γ (d+1) (fun g args st v st'=>cY g=true∧∃sc,tX C g args st sc fun v₁ st₁ _=>v₁=v∧st₁=st'):=fun {g args u v st'} c=>
 c.2.elim fun sc hb=>optP.of hb fun s0 hs0 hb=>optP.of hb fun ρ hρ hb=>(FN c.1 hs0).ex.elim fun o z=>z.elim fun fd fi=>by
  have di:=defOk.of (FN c.1 hs0).ok hs0
  refine⟨⟨o,fd,fi.at_,fi.data⟩,fun {A us RR} rc r q=>fi.dflt.elim fun dvs df=> ?_⟩
  have rdv:Rls u (gi g) dvs:=df.2.keep (j9 u) (gO _)
  have hn:fd.scope.names=namesOf s0:=(congrArg Scope.names fi.scope).trans (jO s0)
  have gd:=qE (g:=contOf (fun x=>fd.scope.names.lookup x) (fun _=>none) fun _=>none) (P:=fun x=>bJ x=true∧rq (namesOf s0) x=true) hρ (r.append (rdv.drop ((gi g).length-((bT s0).length-args.length)))) di.pn fun x lv h=>have z:=jc h;⟨z.2.elim fun p z=>z.2▸di.bn p z.1,.inl z.1⟩
  have ldv:=rdv.length
  have lus:=r.length
  have len:=lens (a:=args.length) di.dl (gd.2.trans (List.length_append.trans (congrArg (args.length + ·) List.length_drop)))
  have pl:=plainArgs.eq di.plain
  have an:=rR s0
  have al:(jq s0).args.length=(bT s0).length:=(List.length_map ..).symm.trans (congrArg List.length an)
  have hb1:=jU (s:=u.s) (fd:=fd) (us:=us) (dvs:=dvs) (fi.params.trans pl) (an.symm▸gj di.nd) (df.1.imp_right fun z=>z.imp fun _ z=>z.imp fun o z=>z.imp fun _ z=>z.imp fun _ z=>⟨z.1,u.ok.base _ _ z.2.1,z.2.2⟩) (al▸lus▸len.1) (al▸ldv▸di.dl) (al▸ldv▸lus▸len.2)
  rw[an,al,←lus,←ldv,w8 len.1 di.dl len.2] at hb1
  refine codeAny_call_function (s:=u.s) (Nat.lt_of_le_of_lt (ltr (Nat.le_add_right _ _) rc.2.1) (by decide)) (u.ok.base _ _ fi.at_) fi.data ((congrArg Scope.isCoroutine fi.scope).trans di.nc) ((congrArg Scope.isGenerator fi.scope).trans di.ng) fi.body (fi.code.keeps u.ok.base) (hb1 _ _ _ _ ?_)
  rw[fi.clos]
  refine wpAny_newFunctionEnv_cells ((congrArg Scope.kind fi.scope).trans di.fn) (fun x hx=> ?_) fun env he s₁ x=> ?_
  ·exact(ua (di.pn x.1 (List.of_mem_zip hx).1).2).imp (fun q=>hn▸q) fun q=>have q:fd.scope.names.lookup x.1=some .cell:=hn▸q;⟨q,Option.isSome_iff_exists.mpr (fk (.inl (PySem.mem_of_lookup q)))⟩
  ·have hkof:env.kindOf=fun x=>fd.scope.names.lookup x:=by rw[he];rfl
   obtain⟨h1,tk,rfl⟩:=x.toInCall.same
   rw[hkof] at x
   have rm:Rm (A.deeper env) d:=rc.deeper
   refine(rZ (A:=A.deeper env) fi di rm he x (jM▸gd.1)).elim fun u1 z=> ?_
   obtain⟨rfl,rfl,es,l,F⟩:=z
   refine⟨BS.g.lim.keeps fun b o e=>u1.ok.base b o e,codeAny_func (dG (u:=u1) (f:=⟨A.deeper env,env,true,namesOf s0⟩) (nr BS CS fuel).s rfl (es▸hb) F fun x u' fl ρ' sc' l' F' fr hk=> ?_)⟩
   have la:Lw u u':=(l.weak.trans l').drop fun a n=>n
   induction fl with
   |next=>cases fr;exact q u' .none la hk.2 (hk.1 ▸ .none)
   |cont=>exact hk.elim
   |ret v=>obtain⟨y,rfl,r⟩:=fr;exact q u' y la hk.2 (hk.1▸r)
theorem CallSem.more(h:CallSem Γ d C)(k:Nat):CallSem Γ (d+k) C:=fun c=>have z:=h c;⟨z.1,fun rc=>z.2 ⟨rc.1,ltr (Nat.add_le_add_left (Nat.mul_le_mul_left 4 (Nat.le_add_right d k)) _) rc.2.1,ltr (Nat.add_le_add_left (Nat.mul_le_mul_left 20 (Nat.le_add_right d k)) _) rc.2.2⟩⟩
theorem tJ(BS:hM Γ)(FN:∀ {g s},cY g=true→dW g=some s→Bf Γ g s){X:CR}(hX:CallSem Γ d X):∀n,CallSem Γ (d+n) (Ok X n)
 |0=>hX
 |n+1=>fun c=>c.elim (hX.more (n+1)) (zK BS FN (tJ BS FN hX n))
theorem Bq:CallSem Γ d noC:=fun c=>c.elim
variable{Γ:Cf}{d:Nat}
theorem pureVs.of{x:V}{r:List V}(h:pureVs (x::r)=true):fY x=true∧pureVs r=true:=by
 unfold pureVs at h
 cases e:fY x with
 |true=>rw[e] at h;exact⟨rfl,h⟩
 |false=>rw[e] at h;exact ffS h
section
variable{pl:aN}{h:Heap}{G G':Gh}(i:∀a,G a = .frz→G' a = .frz)
include i
theorem Rel.pure{x:V}{v:Value}(p:fY x=true)(r:Rel pl h G x v):Rel pl h G' x v:=
 Rel.rec (motive_1:=fun x v _=>fY x=true→Rel pl h G' x v) (motive_2:=fun xs us _=>pureVs xs=true→Rels pl h G' xs us) (fun _=> .none) (fun b _=> .bool b) (fun i t _=> .int i t) (fun i t _=> .str i t) (fun e g b _ r p=> .tup e (i _ g) b (r p)) (fun e g b _ r p=> .lst e (i _ g) b (r p))
  (fun _ _ p=>nomatch (show false=true from p)) (fun _ _ _ p=>nomatch (show false=true from p)) (fun _ p=>nomatch (show false=true from p)) (fun _ p=>nomatch (show false=true from p)) (fun _ p=>nomatch (show false=true from p)) (fun _ p=>nomatch (show false=true from p)) (fun _ p=>nomatch (show false=true from p)) (fun _ p=>nomatch (show false=true from p)) (fun _ _ _ p=>nomatch (show false=true from p))
  (fun _=> .nil) (fun _ _ r q p=>have z:=pureVs.of p;.cons (r z.1) (q z.2)) r p
theorem Rels.pure:∀ {xs:List V} {vs:List Value},pureVs xs=true→Rels pl h G xs vs→Rels pl h G' xs vs
 |[],_,_,r=>r.nilI ▸ .nil
 |_::_,_,p,r=>have z:=pureVs.of p;r.consI fun _ _ e r1 r2=>e ▸ .cons (Rel.pure i z.1 r1) (Rels.pure z.2 r2)
theorem TabOk.re(t:TabOk pl h G):TabOk pl h G':=t.imp fun _ t=>⟨t.1,t.2.1,t.2.2.imp_right fun q=>q.imp fun _ q=>⟨q.1,q.2.imp fun _ z=>z.imp fun _ z=>z.imp fun _ z=>⟨z.1,z.2.1,z.2.2.1,i _ z.2.2.2⟩⟩⟩
end
noncomputable def hideR(r:Role):Role:=match r with
 | .obj _ _=> .own
 | .dict _=> .own
 |r=>r
theorem hideR.frz{r:Role}(e:hideR r = .frz):r = .frz:=by induction r<;>first|rfl|cases e
theorem hideR.mut{r:Role}(e:(hideR r).mut=true):r = .tab:=by induction r<;>first|rfl|exact ffS e
theorem hideR.no{r r':Role}(e:hideR r=r')(n:match r' with | .obj _ _=>True | .dict _=>True|_=>False){P:Prop}:P:=by subst e;induction r<;>exact n.elim
section
variable{u u':Wl Γ}
noncomputable def Wl.hide(u:Wl Γ):Wl Γ:=⟨u.h,u.t,fun b=>hideR (u.G b),St.empty,u.ok.base,fun b o e=>congrArg hideR (u.ok.frz0 b o e),fun a n=>u.ok.live a fun q=>n (congrArg hideR q),
 fun a k i g=>hideR.no g trivial,fun a b k i g=>hideR.no g trivial,fun a b g=>hideR.no g trivial,congrArg hideR u.ok.tab,u.ok.tabOk.re fun a q=>congrArg hideR q⟩
open Classical in
noncomputable def ro(u:Wl Γ):Gh:=fun b=>if ∃o,u.h.get? b=some o then u.G b else .frz
theorem iL{b:Addr}{o:Obj}(e:u.h.get? b=some o):ro u b=u.G b:=if_pos ⟨o,e⟩
theorem fS{b:Addr}{r:Role}(g:ro u b=r)(n:r ≠ .frz):(∃o,u.h.get? b=some o)∧u.G b=r:=
 (Classical.em (∃o,u.h.get? b=some o)).elim (fun e=>⟨e,(if_pos e).symm.trans g⟩) fun e=>(n (g.symm.trans (if_neg e))).elim
theorem Wl.back(l:Lw u.hide u'):∃w:Wl Γ,w.h=u'.h∧w.t=u'.t∧w.st=u.st∧Lw u w∧∀a,u'.G a = .frz→w.G a = .frz:=by
 have old:∀a o,u.h.get? a=some o→u'.G a=hideR (u.G a)∧∃o',u'.h.get? a=some o'∧(u.G a = .tab∨o'=o):=fun a o e=>(l.each a o e).elim (fun q=>q.2.elim) fun q=>⟨q.1,q.2.imp fun o' z=>⟨z.1,z.2.imp_left hideR.mut⟩⟩
 have frz:∀a,u'.G a = .frz→ro u a = .frz:=fun a q=>(Classical.em (∃o,u.h.get? a=some o)).elim (fun e=>(if_pos e).trans (e.elim fun o e=>hideR.frz ((old a o e).1.symm.trans q))) fun e=>if_neg e
 have kp:Kp noX u.h u'.h u.G (ro u):=⟨fun a o e=> .inr ⟨iL e,(old a o e).2.imp fun o' z=>⟨z.1,z.2.imp_left fun(q:u.G a = .tab)=>(q▸rfl:(u.G a).mut=true)⟩⟩⟩
 have still:∀ {a r},u.G a=r→r ≠ .tab→∀o,u.h.get? a=some o→u'.h.get? a=some o:=fun g n o e=>(old _ o e).2.elim fun o' z=>z.2.elim (fun q=>(n (g.symm.trans q)).elim) fun q=>q▸z.1
 refine⟨⟨u'.h,u'.t,ro u,u.st,u'.ok.base,fun b o e=>(kp.frz (u.ok.base b o e) (u.ok.frz0 b o e)).1,fun a n=> ?_,fun a k i g=> ?_,fun a b k i ga gb=>u.ok.inj a b k i (fS ga fun q=>nomatch q).2 (fS gb fun q=>nomatch q).2,fun a b g=> ?_,?_,u'.ok.tabOk.re frz⟩,rfl,rfl,rfl,kp,frz⟩
 ·exact(fS rfl n).1.elim fun o e=>(old a o e).2.imp fun _ z=>z.1
 ·have z:=fS g fun q=>nomatch q
  exact(u.ok.objs a k i z.2).of fun ob q1 q2=>optP.mk q1 (q2.keep kp u.ok.live (fun dd gd=>⟨(u.ok.live dd fun q=>nomatch gd.symm.trans q).elim fun _ e=>(iL e).trans gd,still gd fun q=>nomatch q⟩) (still z.2 fun q=>nomatch q))
 ·exact(u.ok.dicts a b (fS g fun q=>nomatch q).2).elim fun k q=>q.elim fun i q=>⟨k,i,(i0 u.ok.live q).elim fun _ e=>(iL e).trans q⟩
 ·exact u.ok.tabOk.elim fun _ z=>(iL z.1).trans u.ok.tab
theorem E5(h:CallSem Γ d (Ok noC d)):CallSem Γ d (XR d):=fun {g args u v st'} c=>c.2.2.2.elim fun st₁ hc=>have z:=h (u:=u.hide) hc
 ⟨z.1,fun rc r q=>z.2 rc (Rels.pure (fun a q=>congrArg hideR q) c.2.1 r) fun u' x l es r=>(Wl.back l).elim fun w y=>by
  obtain⟨eh,et,e1,l2,fz⟩:=y
  have rw':Rl w v x:=(eh▸Rel.pure fz c.2.2.1 r:Rel Γ.pl w.h w.G v x)
  have es:w.s=u'.s:=by show({Γ.B with heap:=w.h,toks:=w.t}:Shared)=_;rw[eh,et];rfl
  exact es▸q w x l2 (e1.trans c.1.symm) rw'⟩
end
inductive LE where
 |n (n:Nat)
 |v (i:Nat)
 |a (a b:LE)
 |m (k:Nat) (a:LE)
noncomputable def my:List Nat→List Nat→List Nat
 |[],b=>b
 |x::a,b=>match b with
  |[]=>x::a
  |y::b=>(x+y)::my a b
noncomputable def vc(k:Nat):List Nat→List Nat
 |[]=>[]
 |x::a=>(k*x)::vc k a
noncomputable def yL:Nat→List Nat
 |0=>[1]
 |n+1=>0::yL n
noncomputable def atC:List Nat→Nat→Nat
 |[],_=>0
 |x::r,n=>match n with
  |0=>x
  |n+1=>atC r n
noncomputable def dot:List Nat→List Nat→Nat
 |[],_=>0
 |x::a,c=>match c with
  |[]=>0
  |y::c=>x*y+dot a c
noncomputable def leC:List Nat→List Nat→Bool
 |[],_=>true
 |x::a,b=>match b with
  |[]=>Nat.beq x 0&&leC a []
  |y::b=>Nat.ble x y&&leC a b
noncomputable def LE.ev(c:List Nat):LE→Nat
 | .n x=>x
 | .v i=>atC c i
 | .a x y=>x.ev c+y.ev c
 | .m k x=>k*x.ev c
noncomputable def LE.nf:LE→List Nat
 | .n x=>[x]
 | .v i=>0::yL i
 | .a x y=>my x.nf y.nf
 | .m k x=>vc k x.nf
theorem Hs:∀a,dot a []=0
 |[]=>rfl
 |_::_=>rfl
theorem gU:∀a b c,dot (my a b) c=dot a c+dot b c
 |[],b,c=>(Nat.zero_add _).symm
 |x::a,[],c=>rfl
 |x::a,y::b,[]=>rfl
 |x::a,y::b,z::c=>by
  show(x+y)*z+dot (my a b) c=(x*z+dot a c)+(y*z+dot b c)
  rw[gU a b c,Nat.add_mul,Nat.add_add_add_comm]
theorem j5(k:Nat):∀a c,dot (vc k a) c=k*dot a c
 |[],c=>rfl
 |x::a,[]=>rfl
 |x::a,z::c=>by
  show(k*x)*z+dot (vc k a) c=k*(x*z+dot a c)
  rw[j5 k a c,Nat.mul_add,Nat.mul_assoc]
theorem tU:∀i c,dot (yL i) c=atC c i
 |0,[]=>rfl
 |0,x::c=>by show 1*x+0=x;rw[Nat.one_mul,Nat.add_zero]
 |i+1,[]=>rfl
 |i+1,x::c=>by show 0*x+dot (yL i) c=atC c i;rw[Nat.zero_mul,Nat.zero_add];exact tU i c
theorem sR:∀a b c,leC a b=true→dot a c≤dot b c
 |[],_,_,_=>Nat.zero_le _
 |_::_,_,[],_=>Nat.zero_le _
 |x::a,[],z::c,h=>by
  have h:=Bool.and_eq_true_iff.mp h
  show x*z+dot a c≤0
  rw[Nat.eq_of_beq_eq_true h.1,Nat.zero_mul,Nat.zero_add]
  exact sR a [] c h.2
 |x::a,y::b,z::c,h=>have h:=Bool.and_eq_true_iff.mp h;Nat.add_le_add (Nat.mul_le_mul_right z (Nat.le_of_ble_eq_true h.1)) (sR a b c h.2)
theorem LE.ev_nf(c:List Nat):∀e:LE,dot e.nf (1::c)=e.ev c
 | .n x=>Nat.mul_one x
 | .v i=>by show 0*1+dot (yL i) c=atC c i;rw[Nat.zero_mul,Nat.zero_add];exact tU i c
 | .a x y=>(gU ..).trans (by rw[LE.ev_nf c x,LE.ev_nf c y];rfl)
 | .m k x=>(j5 ..).trans (by rw[LE.ev_nf c x];rfl)
inductive Hy where
 |e
 |c (k:Nat) (a b:LE) (r:Hy)
noncomputable def EH:Hy→List Nat
 | .e=>[]
 | .c k a _ r=>my (vc k a.nf) (EH r)
noncomputable def EW:Hy→List Nat
 | .e=>[]
 | .c k _ b r=>my (vc k b.nf) (EW r)
def DQ(c:List Nat)(g:Prop):Hy→Prop
 | .e=>g
 | .c _ a b r=>a.ev c≤b.ev c→DQ c g r
theorem t6{c:List Nat}{g:Prop}:∀ {hs:Hy},(dot (EH hs) (1::c)≤dot (EW hs) (1::c)→g)→DQ c g hs
 | .e,k=>k (Nat.le_refl _)
 | .c n a b r,k=>fun q=>t6 fun z=>k (by
  show dot (my _ _) _≤dot (my _ _) _
  rw[gU,gU,j5,j5,LE.ev_nf,LE.ev_nf]
  exact Nat.add_le_add (Nat.mul_le_mul_left _ q) z)
theorem lin(c:List Nat)(hs:Hy)(a b:LE)(ok:leC (my a.nf (EW hs)) (my b.nf (EH hs))=true):DQ c (a.ev c≤b.ev c) hs:=t6 fun z=>by
 have h:=sR _ _ (1::c) ok
 rw[gU,gU,LE.ev_nf,LE.ev_nf] at h
 exact Nat.le_of_add_le_add_right (ltr h (Nat.add_le_add_left z _))
theorem lsa(a b:Nat):a≤a-b+b:=Nat.sub_le_iff_le_add.mp (Nat.le_refl _)
theorem om0{x0:Nat}(h0:3≤x0):0<x0:=lin [x0] (.c 1 (.n 3) (.v 0) .e) (.a (.n 0) (.n 1)) (.v 0) rfl h0
theorem om1{x0:Nat}(h0:2≤x0):0<x0:=lin [x0] (.c 1 (.n 2) (.v 0) .e) (.a (.n 0) (.n 1)) (.v 0) rfl h0
theorem om2{x0:Nat}(h0:2≤x0):1≤x0-1:=lin [x0-1,x0] (.c 1 (.n 2) (.v 1) (.c 1 (.v 1) (.a (.v 0) (.n 1)) .e)) (.n 1) (.v 0) rfl h0 (lsa x0 1)
theorem om3{x0:Nat}(h0:3≤x0):2≤x0-1:=lin [x0-1,x0] (.c 1 (.n 3) (.v 1) (.c 1 (.v 1) (.a (.v 0) (.n 1)) .e)) (.n 2) (.v 0) rfl h0 (lsa x0 1)
theorem om4{x0:Nat}(h0:9≤x0):1≤x0-1:=lin [x0-1,x0] (.c 1 (.n 9) (.v 1) (.c 1 (.v 1) (.a (.v 0) (.n 1)) .e)) (.n 1) (.v 0) rfl h0 (lsa x0 1)
theorem om5{x0:Nat}(h0:3≤x0):1≤x0-1:=lin [x0-1,x0] (.c 1 (.n 3) (.v 1) (.c 1 (.v 1) (.a (.v 0) (.n 1)) .e)) (.n 1) (.v 0) rfl h0 (lsa x0 1)
theorem om6{x0:Nat}(h0:9≤x0):0<x0:=lin [x0] (.c 1 (.n 9) (.v 0) .e) (.a (.n 0) (.n 1)) (.v 0) rfl h0
theorem om7{x0:Nat}(h0:10≤x0):1≤x0-1:=lin [x0-1,x0] (.c 1 (.n 10) (.v 1) (.c 1 (.v 1) (.a (.v 0) (.n 1)) .e)) (.n 1) (.v 0) rfl h0 (lsa x0 1)
theorem om8{x0:Nat}(h0:4≤x0):0<x0:=lin [x0] (.c 1 (.n 4) (.v 0) .e) (.a (.n 0) (.n 1)) (.v 0) rfl h0
theorem om9{x0:Nat}(h0:9≤x0):2≤x0-1:=lin [x0-1,x0] (.c 1 (.n 9) (.v 1) (.c 1 (.v 1) (.a (.v 0) (.n 1)) .e)) (.n 2) (.v 0) rfl h0 (lsa x0 1)
theorem qU{x0 x1:Nat}:x0+1+x1=x0+(x1+1):=Nat.le_antisymm (lin [x0,x1] .e (.a (.a (.v 0) (.n 1)) (.v 1)) (.a (.v 0) (.a (.v 1) (.n 1))) rfl) (lin [x0,x1] .e (.a (.v 0) (.a (.v 1) (.n 1))) (.a (.a (.v 0) (.n 1)) (.v 1)) rfl)
theorem qj{x0 x1:Nat}(h0:x0+4≤x1):x0+4≤x1:=lin [x0,x1] (.c 1 (.a (.v 0) (.n 4)) (.v 1) .e) (.a (.v 0) (.n 4)) (.v 1) rfl h0
theorem qe{x0 x1:Nat}:x0≤x1+x0:=lin [x0,x1] .e (.v 0) (.a (.v 1) (.v 0)) rfl
theorem pD{x0:Nat}(h0:4≤x0):3≤x0-1:=lin [x0-1,x0] (.c 1 (.n 4) (.v 1) (.c 1 (.v 1) (.a (.v 0) (.n 1)) .e)) (.n 3) (.v 0) rfl h0 (lsa x0 1)
theorem xe{x0:Nat}(h0:1≤x0):0<x0:=lin [x0] (.c 1 (.n 1) (.v 0) .e) (.a (.n 0) (.n 1)) (.v 0) rfl h0
theorem pE{x0:Nat}(h0:5≤x0):4≤x0-1:=lin [x0-1,x0] (.c 1 (.n 5) (.v 1) (.c 1 (.v 1) (.a (.v 0) (.n 1)) .e)) (.n 4) (.v 0) rfl h0 (lsa x0 1)
theorem si{x0:Nat}(h0:5≤x0):0<x0:=lin [x0] (.c 1 (.n 5) (.v 0) .e) (.a (.n 0) (.n 1)) (.v 0) rfl h0
theorem vK{x0:Nat}:x0-1-1=x0-2:=rfl
theorem tK{x0:Nat}(h0:2≤x0):1≤x0:=lin [x0] (.c 1 (.n 2) (.v 0) .e) (.n 1) (.v 0) rfl h0
theorem om19{x0:Nat}(h0:x0≤90000):x0≤100000:=lin [x0] (.c 1 (.v 0) (.n 90000) .e) (.v 0) (.n 100000) rfl h0
theorem vT{x0:Nat}:x0≤x0+1:=lin [x0] .e (.v 0) (.a (.v 0) (.n 1)) rfl
theorem v0{x0 x1:Nat}(h0:x0≤x1):x0≤x1+1:=lin [x0,x1] (.c 1 (.v 0) (.v 1) .e) (.v 0) (.a (.v 1) (.n 1)) rfl h0
theorem vX{x1 x2:Nat}{x0:Int}(h0:0<x0)(h1: ↑x1+x0≤2000)(h2:x2≤70000):x1+x2≤90000:=by omega
theorem vA{x0:Nat}(h0:1+x0≤1000):x0≤1000:=lin [x0] (.c 1 (.a (.n 1) (.v 0)) (.n 1000) .e) (.v 0) (.n 1000) rfl h0
theorem yr{x0 x1 x2:Nat}(h0:x0+4≤x1)(h1:x2=x0+2):x2<x1:=lin [x2,x1,x0] (.c 1 (.a (.v 2) (.n 4)) (.v 1) (.c 1 (.v 0) (.a (.v 2) (.n 2)) .e)) (.a (.v 0) (.n 1)) (.v 1) rfl h0 (leq h1)
theorem yN{x0 x1:Nat}(h0:x0+4≤x1):x0≤x1:=lin [x0,x1] (.c 1 (.a (.v 0) (.n 4)) (.v 1) .e) (.v 0) (.v 1) rfl h0
theorem xr{x0:Nat}(h0:9≤x0):3≤x0-1:=lin [x0-1,x0] (.c 1 (.n 9) (.v 1) (.c 1 (.v 1) (.a (.v 0) (.n 1)) .e)) (.n 3) (.v 0) rfl h0 (lsa x0 1)
theorem EV{x0 x1 x2:Int}(h0:x0+1≤x1)(h1:x1=x2-1):x0+1≤x2:=by omega
theorem Ak{x0:Nat}(h0:5≤x0):1≤x0-1:=lin [x0-1,x0] (.c 1 (.n 5) (.v 1) (.c 1 (.v 1) (.a (.v 0) (.n 1)) .e)) (.n 1) (.v 0) rfl h0 (lsa x0 1)
theorem AJ{x0:Nat}(h0:6≤x0):0<x0:=lin [x0] (.c 1 (.n 6) (.v 0) .e) (.a (.n 0) (.n 1)) (.v 0) rfl h0
theorem zZ{x0:Nat}(h0:6≤x0):5≤x0-1:=lin [x0-1,x0] (.c 1 (.n 6) (.v 1) (.c 1 (.v 1) (.a (.v 0) (.n 1)) .e)) (.n 5) (.v 0) rfl h0 (lsa x0 1)
theorem AF{x0:Nat}(h0:8≤x0):1≤x0:=lin [x0] (.c 1 (.n 8) (.v 0) .e) (.n 1) (.v 0) rfl h0
theorem Bg{x0 x1:Nat}(h0:x0=x1+4):x1<x0:=lin [x1,x0] (.c 1 (.a (.v 0) (.n 4)) (.v 1) .e) (.a (.v 0) (.n 1)) (.v 1) rfl (leq h0.symm)
theorem z7{x0:Nat}:x0+1≤1+x0:=lin [x0] .e (.a (.v 0) (.n 1)) (.a (.n 1) (.v 0)) rfl
theorem Bw{x0:Nat}(h0:4≤x0):1≤x0-1:=lin [x0-1,x0] (.c 1 (.n 4) (.v 1) (.c 1 (.v 1) (.a (.v 0) (.n 1)) .e)) (.n 1) (.v 0) rfl h0 (lsa x0 1)
theorem A4{x0:Nat}(h0:7≤x0):4≤x0-1-1-1:=lin [x0-1-1-1,x0,x0-1-1,x0-1] (.c 1 (.n 7) (.v 1) (.c 1 (.v 2) (.a (.v 0) (.n 1)) (.c 1 (.v 3) (.a (.v 2) (.n 1)) (.c 1 (.v 1) (.a (.v 3) (.n 1)) .e)))) (.n 4) (.v 0) rfl h0 (lsa (x0-1-1) 1) (lsa (x0-1) 1) (lsa x0 1)
theorem Au{x0 x1:Nat}(h0:x0≤x1):x0≤x1+2:=lin [x0,x1] (.c 1 (.v 0) (.v 1) .e) (.v 0) (.a (.v 1) (.n 2)) rfl h0
theorem z8{x0:Nat}:x0+1≠x0:=Nat.ne_of_gt (lin [x0] .e (.a (.v 0) (.n 1)) (.a (.v 0) (.n 1)) rfl)
theorem Ha{x0 x1 x2 x3:Nat}:1+2*x0+2*x1+x2≤3+2*x0+2*x1+x2+x3:=lin [x0,x1,x2,x3] .e (.a (.a (.a (.n 1) (.m 2 (.v 0))) (.m 2 (.v 1))) (.v 2)) (.a (.a (.a (.a (.n 3) (.m 2 (.v 0))) (.m 2 (.v 1))) (.v 2)) (.v 3)) rfl
theorem Ah{x0:Nat}(h0:x0<3):x0=0∨x0=1∨x0=2:=(by decide:∀x,x<3→x=0∨x=1∨x=2) x0 h0
theorem Br{x0 x3 x4:Nat}{x1 x2:Int}(h0: ↑x0+x1≤2000)(h1:x2=x1 - ↑x3)(h2:x4≤x0+x3): ↑x4+(x2-1)≤2000:=by omega
theorem Bc{x0 x1:Nat}(h0:2+3*x0≤x1):1≤x1:=lin [x1,x0] (.c 1 (.a (.n 2) (.m 3 (.v 1))) (.v 0) .e) (.n 1) (.v 0) rfl h0
theorem DI{x0:Nat}(h0:x0<3):1+x0≤3:=lin [x0] (.c 1 (.a (.v 0) (.n 1)) (.n 3) .e) (.a (.n 1) (.v 0)) (.n 3) rfl h0
theorem z9{x0 x1:Nat}(h0:x0=x1):x1≤x0:=lin [x1,x0] (.c 1 (.v 0) (.v 1) .e) (.v 0) (.v 1) rfl (leq h0.symm)
theorem AR{x0 x1:Nat}(h0:x0<3)(h1:x1=x0):x1≤2:=lin [x1,x0] (.c 1 (.a (.v 1) (.n 1)) (.n 3) (.c 1 (.v 0) (.v 1) .e)) (.v 0) (.n 2) rfl h0 (leq h1)
theorem EP{x0:Nat}(h0:9≤x0):8≤x0-1:=lin [x0-1,x0] (.c 1 (.n 9) (.v 1) (.c 1 (.v 1) (.a (.v 0) (.n 1)) .e)) (.n 8) (.v 0) rfl h0 (lsa x0 1)
theorem EJ{x0:Nat}:3≤x0+3:=lin [x0] .e (.n 3) (.a (.v 0) (.n 3)) rfl
theorem DK{x0 x1:Nat}(h0:x0+(x1+1)≤90000):x0≤100000:=lin [x0,x1] (.c 1 (.a (.v 0) (.a (.v 1) (.n 1))) (.n 90000) .e) (.v 0) (.n 100000) rfl h0
theorem EI{x0 x1 x2:Nat}(h0:x0+3≤x1)(h1:x2=x0+2):x2<x1:=lin [x2,x1,x0] (.c 1 (.a (.v 2) (.n 3)) (.v 1) (.c 1 (.v 0) (.a (.v 2) (.n 2)) .e)) (.a (.v 0) (.n 1)) (.v 1) rfl h0 (leq h1)
theorem D0{x0 x1:Nat}(h0:x0+3≤x1):x0+3≤x1:=lin [x0,x1] (.c 1 (.a (.v 0) (.n 3)) (.v 1) .e) (.a (.v 0) (.n 3)) (.v 1) rfl h0
theorem Ei{x0 x1 x2 x3:Nat}(h0:x0+3+x1+x2≤x3):x0+3≤x3:=lin [x0,x3,x1,x2] (.c 1 (.a (.a (.a (.v 0) (.n 3)) (.v 2)) (.v 3)) (.v 1) .e) (.a (.v 0) (.n 3)) (.v 1) rfl h0
theorem EY{x0 x1 x2:Nat}:x0+(x1+x2)≤x0+x1+x2:=lin [x0,x1,x2] .e (.a (.v 0) (.a (.v 1) (.v 2))) (.a (.a (.v 0) (.v 1)) (.v 2)) rfl
theorem E7{x0:Nat}(h0:x0≤1000):x0≤100000:=lin [x0] (.c 1 (.v 0) (.n 1000) .e) (.v 0) (.n 100000) rfl h0
theorem ED{x0 x1:Nat}(h0:x0<x1):x0<x1+1:=lin [x0,x1] (.c 1 (.a (.v 0) (.n 1)) (.v 1) .e) (.a (.v 0) (.n 1)) (.a (.v 1) (.n 1)) rfl h0
theorem Dv{x0 x1 x2 x3 x4:Nat}(h0:x0≤x1+4+x2)(h1:x3≤40*x4):x0≤x1+(4+x2)∧20+x3+1≤40*(1+x4):=⟨lin [x0,x1,x2] (.c 1 (.v 0) (.a (.a (.v 1) (.n 4)) (.v 2)) .e) (.v 0) (.a (.v 1) (.a (.n 4) (.v 2))) rfl h0,lin [x3,x4] (.c 1 (.v 0) (.m 40 (.v 1)) .e) (.a (.a (.n 20) (.v 0)) (.n 1)) (.m 40 (.a (.n 1) (.v 1))) rfl h1⟩
theorem En{x0 x1:Nat}(h0:20+8*x0≤x1):3≤x1-1-1:=lin [x1-1-1,x0,x1,x1-1] (.c 1 (.a (.n 20) (.m 8 (.v 1))) (.v 2) (.c 1 (.v 3) (.a (.v 0) (.n 1)) (.c 1 (.v 2) (.a (.v 3) (.n 1)) .e))) (.n 3) (.v 0) rfl h0 (lsa (x1-1) 1) (lsa x1 1)
theorem EN{x0:Nat}(h0:9≤x0):6≤x0-1:=lin [x0-1,x0] (.c 1 (.n 9) (.v 1) (.c 1 (.v 1) (.a (.v 0) (.n 1)) .e)) (.n 6) (.v 0) rfl h0 (lsa x0 1)
theorem Eg{x0 x1 x2:Nat}:x0+3*x1+3*x2=x0+3*x2+3*x1:=Nat.le_antisymm (lin [x0,x1,x2] .e (.a (.a (.v 0) (.m 3 (.v 1))) (.m 3 (.v 2))) (.a (.a (.v 0) (.m 3 (.v 2))) (.m 3 (.v 1))) rfl) (lin [x0,x2,x1] .e (.a (.a (.v 0) (.m 3 (.v 1))) (.m 3 (.v 2))) (.a (.a (.v 0) (.m 3 (.v 2))) (.m 3 (.v 1))) rfl)
theorem EB{x0 x1:Nat}:x0≤x0+x1:=lin [x0,x1] .e (.v 0) (.a (.v 0) (.v 1)) rfl
theorem Eh{x0 x1:Nat}(h0:12+8*(x0+1)≤x1):1≤x1:=lin [x1,x0] (.c 1 (.a (.n 12) (.m 8 (.a (.v 1) (.n 1)))) (.v 0) .e) (.n 1) (.v 0) rfl h0
theorem DX{x0 x1:Nat}(h0:12+8*(x0+1)≤x1):1≤x1-1:=lin [x1-1,x0,x1] (.c 1 (.a (.n 12) (.m 8 (.a (.v 1) (.n 1)))) (.v 2) (.c 1 (.v 2) (.a (.v 0) (.n 1)) .e)) (.n 1) (.v 0) rfl h0 (lsa x1 1)
theorem EE{x0:Int}:x0≤x0-1+1:=by omega
theorem DC{x0 x1:Nat}(h0:x0=x1+1):x0≠x1:=Nat.ne_of_gt (lin [x1,x0] (.c 1 (.a (.v 0) (.n 1)) (.v 1) .e) (.a (.v 0) (.n 1)) (.v 1) rfl (leq h0.symm))
theorem Ex{x0 x1:Nat}(h0:x0=x1+2):x0≠x1:=Nat.ne_of_gt (lin [x1,x0] (.c 1 (.a (.v 0) (.n 2)) (.v 1) .e) (.a (.v 0) (.n 1)) (.v 1) rfl (leq h0.symm))
theorem ET{x0 x1:Nat}(h0:x0=x1+1):x1≤x0:=lin [x1,x0] (.c 1 (.a (.v 0) (.n 1)) (.v 1) .e) (.v 0) (.v 1) rfl (leq h0.symm)
theorem EX{x0 x1 x2 x3 x4:Nat}(h0:x0=x1+1∧x2=x1+2∧x3=x1+3∧x4=x1+4):x1≤x3:=lin [x1,x3] (.c 1 (.a (.v 0) (.n 3)) (.v 1) .e) (.v 0) (.v 1) rfl (leq h0.2.2.1.symm)
theorem Eo{x0 x1 x2:Nat}(h0:x0≤x1)(h1:x1≤x2):x0≤x2:=lin [x0,x2,x1] (.c 1 (.v 0) (.v 2) (.c 1 (.v 2) (.v 1) .e)) (.v 0) (.v 1) rfl h0 h1
theorem Ek{x0 x1:Nat}(h0:3≤x0)(h1:x0≤x1):3≤x1:=lin [x1,x0] (.c 1 (.n 3) (.v 1) (.c 1 (.v 1) (.v 0) .e)) (.n 3) (.v 0) rfl h0 h1
theorem E3{x0 x1:Nat}(h0:30+8*x0≤x1):1≤x1-1:=lin [x1-1,x0,x1] (.c 1 (.a (.n 30) (.m 8 (.v 1))) (.v 2) (.c 1 (.v 2) (.a (.v 0) (.n 1)) .e)) (.n 1) (.v 0) rfl h0 (lsa x1 1)
theorem Dz{x0 x1:Nat}(h0:1+x0+x1≤1000):x0≤1000:=lin [x0,x1] (.c 1 (.a (.a (.n 1) (.v 0)) (.v 1)) (.n 1000) .e) (.v 0) (.n 1000) rfl h0
theorem Du{x0 x1:Nat}(h0:1+x0+x1≤1000):x1≤1000:=lin [x1,x0] (.c 1 (.a (.a (.n 1) (.v 1)) (.v 0)) (.n 1000) .e) (.v 0) (.n 1000) rfl h0
theorem Et{x0 x1:Nat}(h0:4+3*(x0+1)≤x1):3≤x1:=lin [x1,x0] (.c 1 (.a (.n 4) (.m 3 (.a (.v 1) (.n 1)))) (.v 0) .e) (.n 3) (.v 0) rfl h0
theorem E2{x0 x1:Nat}(h0:4+3*(x0+1)≤x1):2≤x1-1:=lin [x1-1,x0,x1] (.c 1 (.a (.n 4) (.m 3 (.a (.v 1) (.n 1)))) (.v 2) (.c 1 (.v 2) (.a (.v 0) (.n 1)) .e)) (.n 2) (.v 0) rfl h0 (lsa x1 1)
theorem DJ{x0 x1:Nat}(h0:4+3*(x0+1)≤x1):4+3*x0≤x1-1-1-1:=lin [x0,x1-1-1-1,x1,x1-1-1,x1-1] (.c 1 (.a (.n 4) (.m 3 (.a (.v 0) (.n 1)))) (.v 2) (.c 1 (.v 3) (.a (.v 1) (.n 1)) (.c 1 (.v 4) (.a (.v 3) (.n 1)) (.c 1 (.v 2) (.a (.v 4) (.n 1)) .e)))) (.a (.n 4) (.m 3 (.v 0))) (.v 1) rfl h0 (lsa (x1-1-1) 1) (lsa (x1-1) 1) (lsa x1 1)
theorem Gu{x0:Nat}:x0+1<x0+4:=lin [x0] .e (.a (.a (.v 0) (.n 1)) (.n 1)) (.a (.v 0) (.n 4)) rfl
theorem Fs{x0:Nat}(h0:10≤x0):2≤x0-1:=lin [x0-1,x0] (.c 1 (.n 10) (.v 1) (.c 1 (.v 1) (.a (.v 0) (.n 1)) .e)) (.n 2) (.v 0) rfl h0 (lsa x0 1)
theorem Fz{x0 x1:Nat}(h0:x0+(x1+1)≤90000):x0+1+x1≤90000:=lin [x0,x1] (.c 1 (.a (.v 0) (.a (.v 1) (.n 1))) (.n 90000) .e) (.a (.a (.v 0) (.n 1)) (.v 1)) (.n 90000) rfl h0
theorem G3{x0:Nat}(h0:x0≤80000):x0≤90000:=lin [x0] (.c 1 (.v 0) (.n 80000) .e) (.v 0) (.n 90000) rfl h0
theorem FQ{x0 x1 x2:Nat}(h0:x0+4≤x1)(h1:x2=x0+3):x2<x1:=lin [x2,x1,x0] (.c 1 (.a (.v 2) (.n 4)) (.v 1) (.c 1 (.v 0) (.a (.v 2) (.n 3)) .e)) (.a (.v 0) (.n 1)) (.v 1) rfl h0 (leq h1)
theorem GK{x0 x1 x2:Nat}(h0:x0+3≤x1)(h1:x2=x0+1):x2<x1:=lin [x2,x1,x0] (.c 1 (.a (.v 2) (.n 3)) (.v 1) (.c 1 (.v 0) (.a (.v 2) (.n 1)) .e)) (.a (.v 0) (.n 1)) (.v 1) rfl h0 (leq h1)
theorem Hk{x0 x1 x2:Nat}:x0+(x1+x2)+5≤5+x0+x1+x2:=lin [x0,x1,x2] .e (.a (.a (.v 0) (.a (.v 1) (.v 2))) (.n 5)) (.a (.a (.a (.n 5) (.v 0)) (.v 1)) (.v 2)) rfl
theorem FB{x0 x1 x2 x3:Nat}(h0:x0+3≤x1)(h1:x1≤x2)(h2:x3=x0+2):x3<x2:=lin [x3,x2,x0,x1] (.c 1 (.a (.v 2) (.n 3)) (.v 3) (.c 1 (.v 3) (.v 1) (.c 1 (.v 0) (.a (.v 2) (.n 2)) .e))) (.a (.v 0) (.n 1)) (.v 1) rfl h0 h1 (leq h2)
theorem He{x0 x1 x2:Nat}(h0:x0+3≤x1)(h1:x1≤x2):x0≤x2:=lin [x0,x2,x1] (.c 1 (.a (.v 0) (.n 3)) (.v 2) (.c 1 (.v 2) (.v 1) .e)) (.v 0) (.v 1) rfl h0 h1
theorem Ga{x0 x1:Nat}:x0+(x1+3)+11≤20+x0+1+x1:=lin [x0,x1] .e (.a (.a (.v 0) (.a (.v 1) (.n 3))) (.n 11)) (.a (.a (.a (.n 20) (.v 0)) (.n 1)) (.v 1)) rfl
theorem F9{x0 x1:Nat}:x0+(x1+1)+13≤20+x0+1+x1:=lin [x0,x1] .e (.a (.a (.v 0) (.a (.v 1) (.n 1))) (.n 13)) (.a (.a (.a (.n 20) (.v 0)) (.n 1)) (.v 1)) rfl
theorem FZ{x0 x1:Nat}:x0+(x1+1)+20≤20+x0+1+x1:=lin [x0,x1] .e (.a (.a (.v 0) (.a (.v 1) (.n 1))) (.n 20)) (.a (.a (.a (.n 20) (.v 0)) (.n 1)) (.v 1)) rfl
theorem Hl{x0 x1 x2 x3 x4:Nat}:x0+(x1+x2)+4+3*x3+3*x4≤4+3*x3+3*x4+x0+x1+x2:=lin [x0,x1,x2,x3,x4] .e (.a (.a (.a (.a (.v 0) (.a (.v 1) (.v 2))) (.n 4)) (.m 3 (.v 3))) (.m 3 (.v 4))) (.a (.a (.a (.a (.a (.n 4) (.m 3 (.v 3))) (.m 3 (.v 4))) (.v 0)) (.v 1)) (.v 2)) rfl
theorem Fj{x0 x1 x2 x3 x4:Nat}(h0:x0+3+x1+x2≤x3)(h1:x3≤x4):x0+3≤x4:=lin [x0,x4,x1,x2,x3] (.c 1 (.a (.a (.a (.v 0) (.n 3)) (.v 2)) (.v 3)) (.v 4) (.c 1 (.v 4) (.v 1) .e)) (.a (.v 0) (.n 3)) (.v 1) rfl h0 h1
theorem Fo{x0 x1 x2 x3 x4:Nat}(h0:x0+3+x1+x2≤x3)(h1:x3≤x4):x0≤x4:=lin [x0,x4,x1,x2,x3] (.c 1 (.a (.a (.a (.v 0) (.n 3)) (.v 2)) (.v 3)) (.v 4) (.c 1 (.v 4) (.v 1) .e)) (.v 0) (.v 1) rfl h0 h1
theorem G4{x0:Nat}(h0:5≤x0):3≤x0-1:=lin [x0-1,x0] (.c 1 (.n 5) (.v 1) (.c 1 (.v 1) (.a (.v 0) (.n 1)) .e)) (.n 3) (.v 0) rfl h0 (lsa x0 1)
theorem FJ{x0:Nat}(h0:5≤x0):3≤x0-1-1:=lin [x0-1-1,x0,x0-1] (.c 1 (.n 5) (.v 1) (.c 1 (.v 2) (.a (.v 0) (.n 1)) (.c 1 (.v 1) (.a (.v 2) (.n 1)) .e))) (.n 3) (.v 0) rfl h0 (lsa (x0-1) 1) (lsa x0 1)
theorem FC{x0 x1 x2:Nat}(h0:x0+(x1+1)=x2):x0+1+x1=x2:=Nat.le_antisymm (lin [x0,x1,x2] (.c 1 (.a (.v 0) (.a (.v 1) (.n 1))) (.v 2) .e) (.a (.a (.v 0) (.n 1)) (.v 1)) (.v 2) rfl (leq h0)) (lin [x2,x0,x1] (.c 1 (.v 0) (.a (.v 1) (.a (.v 2) (.n 1))) .e) (.v 0) (.a (.a (.v 1) (.n 1)) (.v 2)) rfl (leq h0.symm))
theorem GS{x0 x1:Nat}(h0:x0≤90000)(h1:x1+1≤x0):x1≤100000:=lin [x1,x0] (.c 1 (.v 1) (.n 90000) (.c 1 (.a (.v 0) (.n 1)) (.v 1) .e)) (.v 0) (.n 100000) rfl h0 h1
theorem G2{x0:Nat}(h0:x0<64):x0≤63:=lin [x0] (.c 1 (.a (.v 0) (.n 1)) (.n 64) .e) (.v 0) (.n 63) rfl h0
theorem F8{x0 x1:Nat}(h0:x0=x1+1):x0<x1+4:=lin [x0,x1] (.c 1 (.v 0) (.a (.v 1) (.n 1)) .e) (.a (.v 0) (.n 1)) (.a (.v 1) (.n 4)) rfl (leq h0)
theorem FW{x0 x1:Nat}(h0:x0=x1+3):x0<x1+4:=lin [x0,x1] (.c 1 (.v 0) (.a (.v 1) (.n 3)) .e) (.a (.v 0) (.n 1)) (.a (.v 1) (.n 4)) rfl (leq h0)
theorem GZ{x0 x1:Nat}(h0:x0+4≤x1):x0<x1:=lin [x0,x1] (.c 1 (.a (.v 0) (.n 4)) (.v 1) .e) (.a (.v 0) (.n 1)) (.v 1) rfl h0
theorem FD{x0 x1 x2:Nat}:x0<x0+3+x1+x2:=lin [x0,x1,x2] .e (.a (.v 0) (.n 1)) (.a (.a (.a (.v 0) (.n 3)) (.v 1)) (.v 2)) rfl
theorem GR{x0 x1:Nat}(h0:20+8*x0≤x1):1≤x1-1-1:=lin [x1-1-1,x0,x1,x1-1] (.c 1 (.a (.n 20) (.m 8 (.v 1))) (.v 2) (.c 1 (.v 3) (.a (.v 0) (.n 1)) (.c 1 (.v 2) (.a (.v 3) (.n 1)) .e))) (.n 1) (.v 0) rfl h0 (lsa (x1-1) 1) (lsa x1 1)
theorem BV{x0 x1 x2 x3:Nat}(h0:x0+4≤x1)(h1:x2=x0)(h2:x3=x2+2):x3<x1:=lin [x3,x1,x0,x2] (.c 1 (.a (.v 2) (.n 4)) (.v 1) (.c 1 (.v 3) (.v 2) (.c 1 (.v 0) (.a (.v 3) (.n 2)) .e))) (.a (.v 0) (.n 1)) (.v 1) rfl h0 (leq h1) (leq h2)
theorem CM{x0:Nat}(h0:9≤x0):2≤x0-1-1:=lin [x0-1-1,x0,x0-1] (.c 1 (.n 9) (.v 1) (.c 1 (.v 2) (.a (.v 0) (.n 1)) (.c 1 (.v 1) (.a (.v 2) (.n 1)) .e))) (.n 2) (.v 0) rfl h0 (lsa (x0-1) 1) (lsa x0 1)
theorem B4{x0 x1 x2:Nat}(h0:x0≤x1):x0≤x2+x1:=lin [x0,x2,x1] (.c 1 (.v 0) (.v 2) .e) (.v 0) (.a (.v 1) (.v 2)) rfl h0
theorem B0{x0 x1:Nat}(h0:x0≤0)(h1:x1≤x0):x1=0:=Nat.le_antisymm (lin [x1,x0] (.c 1 (.v 1) (.n 0) (.c 1 (.v 0) (.v 1) .e)) (.v 0) (.n 0) rfl h0 h1) (lin [x1] .e (.n 0) (.v 0) rfl)
theorem Cu{x0 x1:Nat}(h0:x0+x1≤100000):x0≤100000:=lin [x0,x1] (.c 1 (.a (.v 0) (.v 1)) (.n 100000) .e) (.v 0) (.n 100000) rfl h0
theorem Dh{x0 x1:Nat}:x0+3*x1+3=x0+3*(x1+1):=Nat.le_antisymm (lin [x0,x1] .e (.a (.a (.v 0) (.m 3 (.v 1))) (.n 3)) (.a (.v 0) (.m 3 (.a (.v 1) (.n 1)))) rfl) (lin [x0,x1] .e (.a (.v 0) (.m 3 (.a (.v 1) (.n 1)))) (.a (.a (.v 0) (.m 3 (.v 1))) (.n 3)) rfl)
theorem Co{x0 x1 x2:Nat}:x0+3*x1+3*x2+4≤x0+4+3*x1+3*x2:=lin [x0,x1,x2] .e (.a (.a (.a (.v 0) (.m 3 (.v 1))) (.m 3 (.v 2))) (.n 4)) (.a (.a (.a (.v 0) (.n 4)) (.m 3 (.v 1))) (.m 3 (.v 2))) rfl
theorem Cc{x0:Nat}(h0:4≤x0):1≤x0:=lin [x0] (.c 1 (.n 4) (.v 0) .e) (.n 1) (.v 0) rfl h0
theorem B1{x0 x1 x2:Nat}(h0:x0≤x1)(h1:x2<x0):x1≠x2:=Nat.ne_of_gt (lin [x2,x1,x0] (.c 1 (.v 2) (.v 1) (.c 1 (.a (.v 0) (.n 1)) (.v 2) .e)) (.a (.v 0) (.n 1)) (.v 1) rfl h0 h1)
theorem CF{x0:Nat}:x0+1≤x0+2:=lin [x0] .e (.a (.v 0) (.n 1)) (.a (.v 0) (.n 2)) rfl
theorem Do{x0:Nat}:x0<x0+1:=lin [x0] .e (.a (.v 0) (.n 1)) (.a (.v 0) (.n 1)) rfl
theorem Dm{x0:Nat}(h0:12+8*0≤x0):1≤x0:=lin [x0] (.c 1 (.a (.n 12) (.m 8 (.n 0))) (.v 0) .e) (.n 1) (.v 0) rfl h0
theorem Ce{x0:Nat}(h0:12+8*0≤x0):3≤x0:=lin [x0] (.c 1 (.a (.n 12) (.m 8 (.n 0))) (.v 0) .e) (.n 3) (.v 0) rfl h0
theorem B7{x0 x1 x2:Nat}(h0:12+8*(max x0 x1+1)≤x2):1≤x2:=lin [x2,max x0 x1] (.c 1 (.a (.n 12) (.m 8 (.a (.v 1) (.n 1)))) (.v 0) .e) (.n 1) (.v 0) rfl h0
theorem C5{x0 x1 x2:Nat}(h0:12+8*(max x0 x1+1)≤x2):9≤x2-1:=lin [x2-1,max x0 x1,x2] (.c 1 (.a (.n 12) (.m 8 (.a (.v 1) (.n 1)))) (.v 2) (.c 1 (.v 2) (.a (.v 0) (.n 1)) .e)) (.n 9) (.v 0) rfl h0 (lsa x2 1)
theorem B3{x0 x1 x2:Nat}(h0:12+8*(max x0 x1+1)≤x2):1≤x2-1-1:=lin [x2-1-1,max x0 x1,x2,x2-1] (.c 1 (.a (.n 12) (.m 8 (.a (.v 1) (.n 1)))) (.v 2) (.c 1 (.v 3) (.a (.v 0) (.n 1)) (.c 1 (.v 2) (.a (.v 3) (.n 1)) .e))) (.n 1) (.v 0) rfl h0 (lsa (x2-1) 1) (lsa x2 1)
theorem Di{x0:Nat}:x0<x0+2:=lin [x0] .e (.a (.v 0) (.n 1)) (.a (.v 0) (.n 2)) rfl
theorem Cj{x0 x1:Nat}(h0:x0+2≤x1):x0<x1:=lin [x0,x1] (.c 1 (.a (.v 0) (.n 2)) (.v 1) .e) (.a (.v 0) (.n 1)) (.v 1) rfl h0
theorem CY{x0 x1:Nat}:x0+x1+19+2≤20+x0+1+x1:=lin [x0,x1] .e (.a (.a (.a (.v 0) (.v 1)) (.n 19)) (.n 2)) (.a (.a (.a (.n 20) (.v 0)) (.n 1)) (.v 1)) rfl
theorem Ck{x0 x1:Nat}(h0:12+8*(x0+1)≤x1):9≤x1-1-1:=lin [x1-1-1,x0,x1,x1-1] (.c 1 (.a (.n 12) (.m 8 (.a (.v 1) (.n 1)))) (.v 2) (.c 1 (.v 3) (.a (.v 0) (.n 1)) (.c 1 (.v 2) (.a (.v 3) (.n 1)) .e))) (.n 9) (.v 0) rfl h0 (lsa (x1-1) 1) (lsa x1 1)
theorem Da{x0 x1:Nat}(h0:12+8*(x0+1)≤x1):1≤x1-1-1-2:=lin [x1-1-1-2,x0,x1,x1-1-1,x1-1] (.c 1 (.a (.n 12) (.m 8 (.a (.v 1) (.n 1)))) (.v 2) (.c 1 (.v 3) (.a (.v 0) (.n 2)) (.c 1 (.v 4) (.a (.v 3) (.n 1)) (.c 1 (.v 2) (.a (.v 4) (.n 1)) .e)))) (.n 1) (.v 0) rfl h0 (lsa (x1-1-1) 2) (lsa (x1-1) 1) (lsa x1 1)
theorem Cl{x0 x1:Nat}(h0:12+8*(x0+1)≤x1):1≤x1-1-1-2-1:=lin [x1-1-1-2-1,x0,x1,x1-1-1-2,x1-1-1,x1-1] (.c 1 (.a (.n 12) (.m 8 (.a (.v 1) (.n 1)))) (.v 2) (.c 1 (.v 3) (.a (.v 0) (.n 1)) (.c 1 (.v 4) (.a (.v 3) (.n 2)) (.c 1 (.v 5) (.a (.v 4) (.n 1)) (.c 1 (.v 2) (.a (.v 5) (.n 1)) .e))))) (.n 1) (.v 0) rfl h0 (lsa (x1-1-1-2) 1) (lsa (x1-1-1) 2) (lsa (x1-1) 1) (lsa x1 1)
theorem BZ{x0 x1:Nat}(h0:12+8*(x0+1)≤x1):3≤x1-1-1-2-1-1:=lin [x1-1-1-2-1-1,x0,x1,x1-1-1-2-1,x1-1-1-2,x1-1-1,x1-1] (.c 1 (.a (.n 12) (.m 8 (.a (.v 1) (.n 1)))) (.v 2) (.c 1 (.v 3) (.a (.v 0) (.n 1)) (.c 1 (.v 4) (.a (.v 3) (.n 1)) (.c 1 (.v 5) (.a (.v 4) (.n 2)) (.c 1 (.v 6) (.a (.v 5) (.n 1)) (.c 1 (.v 2) (.a (.v 6) (.n 1)) .e)))))) (.n 3) (.v 0) rfl h0 (lsa (x1-1-1-2-1) 1) (lsa (x1-1-1-2) 1) (lsa (x1-1-1) 2) (lsa (x1-1) 1) (lsa x1 1)
theorem C6{x0 x1:Nat}(h0:12+8*(x0+1)≤x1):5≤x1-1-1-2-1-1-3:=lin [x1-1-1-2-1-1-3,x0,x1,x1-1-1-2-1-1,x1-1-1-2-1,x1-1-1-2,x1-1-1,x1-1] (.c 1 (.a (.n 12) (.m 8 (.a (.v 1) (.n 1)))) (.v 2) (.c 1 (.v 3) (.a (.v 0) (.n 3)) (.c 1 (.v 4) (.a (.v 3) (.n 1)) (.c 1 (.v 5) (.a (.v 4) (.n 1)) (.c 1 (.v 6) (.a (.v 5) (.n 2)) (.c 1 (.v 7) (.a (.v 6) (.n 1)) (.c 1 (.v 2) (.a (.v 7) (.n 1)) .e))))))) (.n 5) (.v 0) rfl h0 (lsa (x1-1-1-2-1-1) 3) (lsa (x1-1-1-2-1) 1) (lsa (x1-1-1-2) 1) (lsa (x1-1-1) 2) (lsa (x1-1) 1) (lsa x1 1)
theorem CQ{x0 x1:Nat}(h0:12+8*(x0+1)≤x1):12+8*x0≤x1-1-1-2-1:=lin [x0,x1-1-1-2-1,x1,x1-1-1-2,x1-1-1,x1-1] (.c 1 (.a (.n 12) (.m 8 (.a (.v 0) (.n 1)))) (.v 2) (.c 1 (.v 3) (.a (.v 1) (.n 1)) (.c 1 (.v 4) (.a (.v 3) (.n 2)) (.c 1 (.v 5) (.a (.v 4) (.n 1)) (.c 1 (.v 2) (.a (.v 5) (.n 1)) .e))))) (.a (.n 12) (.m 8 (.v 0))) (.v 1) rfl h0 (lsa (x1-1-1-2) 1) (lsa (x1-1-1) 2) (lsa (x1-1) 1) (lsa x1 1)
theorem Ch{x0 x1:Nat}(h0:x0+2≤x1):x0+1<x1:=lin [x0,x1] (.c 1 (.a (.v 0) (.n 2)) (.v 1) .e) (.a (.a (.v 0) (.n 1)) (.n 1)) (.v 1) rfl h0
theorem C7{x0 x1 x2:Nat}(h0:12+8*(max x0 x1+1)≤x2):1≤x2-1-2:=lin [x2-1-2,max x0 x1,x2,x2-1] (.c 1 (.a (.n 12) (.m 8 (.a (.v 1) (.n 1)))) (.v 2) (.c 1 (.v 3) (.a (.v 0) (.n 2)) (.c 1 (.v 2) (.a (.v 3) (.n 1)) .e))) (.n 1) (.v 0) rfl h0 (lsa (x2-1) 2) (lsa x2 1)
theorem BY{x0 x1 x2:Nat}(h0:x0=x1+1)(h1:x2=x1+2):x2≠x0:=Nat.ne_of_gt (lin [x0,x2,x1] (.c 1 (.v 0) (.a (.v 2) (.n 1)) (.c 1 (.a (.v 2) (.n 2)) (.v 1) .e)) (.a (.v 0) (.n 1)) (.v 1) rfl (leq h0) (leq h1.symm))
theorem Dj{x0 x1 x2 x3 x4:Nat}(h0:x0=x1+1∧x2=x1+2∧x3=x1+3∧x4=x1+4):x1≤x2:=lin [x1,x2] (.c 1 (.a (.v 0) (.n 2)) (.v 1) .e) (.v 0) (.v 1) rfl (leq h0.2.1.symm)
theorem De{x0 x1 x2:Nat}(h0:x0≤x1∧x1<x2):x2≠x1:=Nat.ne_of_gt (lin [x1,x2] (.c 1 (.a (.v 0) (.n 1)) (.v 1) .e) (.a (.v 0) (.n 1)) (.v 1) rfl h0.2)
theorem Cm{x0 x1:Nat}(h0:x0<x1):x1≠x0:=Nat.ne_of_gt (lin [x0,x1] (.c 1 (.a (.v 0) (.n 1)) (.v 1) .e) (.a (.v 0) (.n 1)) (.v 1) rfl h0)
theorem CG{x0 x1 x2:Nat}(h0:3≤x0)(h1:x0≤x1∧x1<x2):3≤x1:=lin [x1,x0] (.c 1 (.n 3) (.v 1) (.c 1 (.v 1) (.v 0) .e)) (.n 3) (.v 0) rfl h0 h1.1
theorem B9{x0 x1 x2 x3 x4:Nat}(h0:x0+x1+1≤3+2*x2+2*x3+x4+x1):x0+x1≤3+2*x2+2*x3+x4+x1:=lin [x0,x1,x2,x3,x4] (.c 1 (.a (.a (.v 0) (.v 1)) (.n 1)) (.a (.a (.a (.a (.n 3) (.m 2 (.v 2))) (.m 2 (.v 3))) (.v 4)) (.v 1)) .e) (.a (.v 0) (.v 1)) (.a (.a (.a (.a (.n 3) (.m 2 (.v 2))) (.m 2 (.v 3))) (.v 4)) (.v 1)) rfl h0
theorem Ct{x0 x1 x2:Nat}:x0≤x1*(1+x2)+x0:=lin [x0,x1*(1+x2)] .e (.v 0) (.a (.v 1) (.v 0)) rfl
theorem CW{x0 x1 x2 x3:Nat}(h0:x0≤x1+1)(h1:x2≤x0+x3):x2≤x1+(x3+1):=lin [x2,x1,x3,x0] (.c 1 (.v 3) (.a (.v 1) (.n 1)) (.c 1 (.v 0) (.a (.v 3) (.v 2)) .e)) (.v 0) (.a (.v 1) (.a (.v 2) (.n 1))) rfl h0 h1
theorem Cr{x0 x1 x2:Nat}(h0:x0+(x1+1)≤90000)(h1:x2≤x0+1):x2+x1≤90000:=lin [x2,x1,x0] (.c 1 (.a (.v 2) (.a (.v 1) (.n 1))) (.n 90000) (.c 1 (.v 0) (.a (.v 2) (.n 1)) .e)) (.a (.v 0) (.v 1)) (.n 90000) rfl h0 h1
theorem C9{x0 x1:Nat}(h0:x0+(x1+1)≤90000):x0≤90000:=lin [x0,x1] (.c 1 (.a (.v 0) (.a (.v 1) (.n 1))) (.n 90000) .e) (.v 0) (.n 90000) rfl h0
theorem Df{x0 x1 x2:Nat}:x0+x1≤x2+x0+x1:=lin [x0,x1,x2] .e (.a (.v 0) (.v 1)) (.a (.a (.v 2) (.v 0)) (.v 1)) rfl
theorem Cq{x0 x1 x2:Nat}(h0:2+3*(max x0 x1+1)≤x2):3+3*x1≤x2-1-1:=lin [x1,x2-1-1,max x0 x1,x2,x2-1] (.c 1 (.a (.n 2) (.m 3 (.a (.v 2) (.n 1)))) (.v 3) (.c 1 (.v 4) (.a (.v 1) (.n 1)) (.c 3 (.v 0) (.v 2) (.c 1 (.v 3) (.a (.v 4) (.n 1)) .e)))) (.a (.n 3) (.m 3 (.v 0))) (.v 1) rfl h0 (lsa (x2-1) 1) (Nat.le_max_right x0 x1) (lsa x2 1)
theorem Ci:1≤2:=lin [] .e (.n 1) (.n 2) rfl
theorem CV{x0 x1 x2 x3:Nat}(h0:x0+x1≤2*(x2+x3)):1+x0+x1≤2*(x2+x3+1):=lin [x0,x1,x2,x3] (.c 1 (.a (.v 0) (.v 1)) (.m 2 (.a (.v 2) (.v 3))) .e) (.a (.a (.n 1) (.v 0)) (.v 1)) (.m 2 (.a (.a (.v 2) (.v 3)) (.n 1))) rfl h0
theorem Dg{x0 x1 x2:Nat}(h0:max x0 x1≤x2):max x0 x1+1≤x2+1:=lin [max x0 x1,x2] (.c 1 (.v 0) (.v 1) .e) (.a (.v 0) (.n 1)) (.a (.v 1) (.n 1)) rfl h0
theorem Dp{x0:Nat}(h0:x0<3):x0≤100000:=lin [x0] (.c 1 (.a (.v 0) (.n 1)) (.n 3) .e) (.v 0) (.n 100000) rfl h0
theorem B8{x0 x1:Nat}(h0:x0≤1000)(h1:x1≤x0):x1≤100000:=lin [x1,x0] (.c 1 (.v 1) (.n 1000) (.c 1 (.v 0) (.v 1) .e)) (.v 0) (.n 100000) rfl h0 h1
theorem Cy{x0 x1 x2:Nat}(h0:4+3*(max x0 x1+1)≤x2):3≤x2:=lin [x2,max x0 x1] (.c 1 (.a (.n 4) (.m 3 (.a (.v 1) (.n 1)))) (.v 0) .e) (.n 3) (.v 0) rfl h0
theorem Cn{x0 x1 x2:Nat}(h0:4+3*(max x0 x1+1)≤x2):2≤x2-1:=lin [x2-1,max x0 x1,x2] (.c 1 (.a (.n 4) (.m 3 (.a (.v 1) (.n 1)))) (.v 2) (.c 1 (.v 2) (.a (.v 0) (.n 1)) .e)) (.n 2) (.v 0) rfl h0 (lsa x2 1)
theorem CJ{x0 x1 x2:Nat}(h0:4+3*(max x0 x1+1)≤x2):1≤x2-1:=lin [x2-1,max x0 x1,x2] (.c 1 (.a (.n 4) (.m 3 (.a (.v 1) (.n 1)))) (.v 2) (.c 1 (.v 2) (.a (.v 0) (.n 1)) .e)) (.n 1) (.v 0) rfl h0 (lsa x2 1)
theorem GH{x0 x1 x2 x3 x4 x5:Nat}(h0:x0+x1≤100000)(h1:x2≤x0)(h2:x3+1≤x1)(h3:x4≤x5)(h4:x5≤x3):x2≤100000∧x4≤100000:=⟨lin [x2,x0,x1] (.c 1 (.a (.v 1) (.v 2)) (.n 100000) (.c 1 (.v 0) (.v 1) .e)) (.v 0) (.n 100000) rfl h0 h1,lin [x4,x0,x1,x2,x3,x5] (.c 1 (.a (.v 1) (.v 2)) (.n 100000) (.c 1 (.a (.v 4) (.n 1)) (.v 2) (.c 1 (.v 0) (.v 5) (.c 1 (.v 5) (.v 4) .e)))) (.v 0) (.n 100000) rfl h0 h2 h3 h4⟩
theorem Ho{x0 x1 x2 x3 x4 x5:Nat}(h0:x0≤x1)(h1:x1+x2≤100000)(h2:x3≤x4)(h3:x5≤x3)(h4:x2=1+x4):x0≤100000∧x5≤100000:=⟨lin [x0,x1,x2] (.c 1 (.v 0) (.v 1) (.c 1 (.a (.v 1) (.v 2)) (.n 100000) .e)) (.v 0) (.n 100000) rfl h0 h1,lin [x5,x0,x1,x2,x3,x4] (.c 1 (.a (.v 2) (.v 3)) (.n 100000) (.c 1 (.v 4) (.v 5) (.c 1 (.v 0) (.v 4) (.c 1 (.a (.n 1) (.v 5)) (.v 3) .e)))) (.v 0) (.n 100000) rfl h1 h2 h3 (leq h4.symm)⟩
theorem GL{x0 x1 x2 x3 x4:Nat}(h0:3*(x0-x1)+(x2+(0+1))≤x3+1)(h1:x4≤2)(h2:x1+1≤x0):3*(x0-(x1+1))+(x2+x4)≤x3:=lin [x0-(x1+1),x2,x4,x3,x0-x1,x1,x0] (.c 1 (.a (.m 3 (.v 4)) (.a (.v 1) (.a (.n 0) (.n 1)))) (.a (.v 3) (.n 1)) (.c 1 (.v 2) (.n 2) (.c 3 (.a (.v 0) (.a (.v 5) (.n 1))) (.v 6) (.c 3 (.v 6) (.a (.v 4) (.v 5)) .e)))) (.a (.m 3 (.v 0)) (.a (.v 1) (.v 2))) (.v 3) rfl h0 h1 (leq (Nat.sub_add_cancel (lin [x0-(x1+1),x2,x4,x3,x0-x1,x1,x0] (.c 1 (.a (.v 5) (.n 1)) (.v 6) .e) (.a (.v 5) (.n 1)) (.v 6) rfl h2))) (lsa x0 x1)
theorem FO{x0 x1:Nat}(h0:x0+1≤x1):x0≠x1:=Nat.ne_of_lt (lin [x0,x1] (.c 1 (.a (.v 0) (.n 1)) (.v 1) .e) (.a (.v 0) (.n 1)) (.v 1) rfl h0)
theorem Hb{x0 x1 x2:Nat}(h0:x0≤x1)(h1:x1+1≤x2):x0≤x2:=lin [x0,x2,x1] (.c 1 (.v 0) (.v 2) (.c 1 (.a (.v 2) (.n 1)) (.v 1) .e)) (.v 0) (.v 1) rfl h0 h1
theorem GT{x0 x1 x2:Nat}:0+5≤5+x0+x1+x2:=lin [x0,x1,x2] .e (.a (.n 0) (.n 5)) (.a (.a (.a (.n 5) (.v 0)) (.v 1)) (.v 2)) rfl
theorem GI{x0 x1 x2:Nat}(h0:12+8*(max x0 x1+1)≤x2):12+8*x0≤x2-1-1-1:=lin [x0,x2-1-1-1,max x0 x1,x2,x2-1-1,x1,x2-1] (.c 1 (.a (.n 12) (.m 8 (.a (.v 2) (.n 1)))) (.v 3) (.c 1 (.v 4) (.a (.v 1) (.n 1)) (.c 8 (.v 0) (.v 2) (.c 1 (.v 6) (.a (.v 4) (.n 1)) (.c 1 (.v 3) (.a (.v 6) (.n 1)) .e))))) (.a (.n 12) (.m 8 (.v 0))) (.v 1) rfl h0 (lsa (x2-1-1) 1) (Nat.le_max_left x0 x1) (lsa (x2-1) 1) (lsa x2 1)
theorem F7{x0 x1 x2:Nat}(h0:12+8*(max x0 x1+1)≤x2):12+8*x1≤x2-1-1-1:=lin [x1,x2-1-1-1,max x0 x1,x2,x2-1-1,x0,x2-1] (.c 1 (.a (.n 12) (.m 8 (.a (.v 2) (.n 1)))) (.v 3) (.c 1 (.v 4) (.a (.v 1) (.n 1)) (.c 8 (.v 0) (.v 2) (.c 1 (.v 6) (.a (.v 4) (.n 1)) (.c 1 (.v 3) (.a (.v 6) (.n 1)) .e))))) (.a (.n 12) (.m 8 (.v 0))) (.v 1) rfl h0 (lsa (x2-1-1) 1) (Nat.le_max_right x0 x1) (lsa (x2-1) 1) (lsa x2 1)
theorem Fi{x0 x1 x2:Nat}(h0:12+8*(max x0 x1+1)≤x2):12+8*x0≤x2-1-2-1:=lin [x0,x2-1-2-1,max x0 x1,x2,x2-1-2,x1,x2-1] (.c 1 (.a (.n 12) (.m 8 (.a (.v 2) (.n 1)))) (.v 3) (.c 1 (.v 4) (.a (.v 1) (.n 1)) (.c 8 (.v 0) (.v 2) (.c 1 (.v 6) (.a (.v 4) (.n 2)) (.c 1 (.v 3) (.a (.v 6) (.n 1)) .e))))) (.a (.n 12) (.m 8 (.v 0))) (.v 1) rfl h0 (lsa (x2-1-2) 1) (Nat.le_max_left x0 x1) (lsa (x2-1) 2) (lsa x2 1)
theorem GP{x0 x1 x2:Nat}(h0:12+8*(max x0 x1+1)≤x2):12+8*x1≤x2-1-2-1:=lin [x1,x2-1-2-1,max x0 x1,x2,x2-1-2,x0,x2-1] (.c 1 (.a (.n 12) (.m 8 (.a (.v 2) (.n 1)))) (.v 3) (.c 1 (.v 4) (.a (.v 1) (.n 1)) (.c 8 (.v 0) (.v 2) (.c 1 (.v 6) (.a (.v 4) (.n 2)) (.c 1 (.v 3) (.a (.v 6) (.n 1)) .e))))) (.a (.n 12) (.m 8 (.v 0))) (.v 1) rfl h0 (lsa (x2-1-2) 1) (Nat.le_max_right x0 x1) (lsa (x2-1) 2) (lsa x2 1)
theorem Gz{x0 x1 x2:Nat}(h0:x0≤x1∧x1<x2):x0≤x2:=lin [x0,x2,x1] (.c 1 (.v 0) (.v 2) (.c 1 (.a (.v 2) (.n 1)) (.v 1) .e)) (.v 0) (.v 1) rfl h0.1 h0.2
theorem GD{x0 x1 x2 x3:Nat}(h0:x0≤x1∧x1<x2)(h1:x0≤x3∧x3<x1):x0≤x3∧x3<x2:=⟨lin [x0,x3] (.c 1 (.v 0) (.v 1) .e) (.v 0) (.v 1) rfl h1.1,lin [x3,x2,x0,x1] (.c 1 (.a (.v 3) (.n 1)) (.v 1) (.c 1 (.a (.v 0) (.n 1)) (.v 3) .e)) (.a (.v 0) (.n 1)) (.v 1) rfl h0.2 h1.2⟩
theorem FH{x0:Nat}:x0+2≠x0:=Nat.ne_of_gt (lin [x0] .e (.a (.v 0) (.n 1)) (.a (.v 0) (.n 2)) rfl)
theorem Fe{x0 x1:Nat}(h0:3≤x0)(h1:x1<3):x0≠x1:=Nat.ne_of_gt (lin [x1,x0] (.c 1 (.n 3) (.v 1) (.c 1 (.a (.v 0) (.n 1)) (.n 3) .e)) (.a (.v 0) (.n 1)) (.v 1) rfl h0 h1)
theorem Fd{x0 x1 x2 x3:Nat}(h0:x0≤x1∧x1<x2)(h1:x2≤x3):x1<x3:=lin [x1,x3,x0,x2] (.c 1 (.a (.v 0) (.n 1)) (.v 3) (.c 1 (.v 3) (.v 1) .e)) (.a (.v 0) (.n 1)) (.v 1) rfl h0.2 h1
theorem FI{x0 x1 x2 x3:Nat}(h0:x0≤x1)(h1:x2≤x3∧x3<x0):x3<x1:=lin [x3,x1,x0] (.c 1 (.v 2) (.v 1) (.c 1 (.a (.v 0) (.n 1)) (.v 2) .e)) (.a (.v 0) (.n 1)) (.v 1) rfl h0 h1.2
theorem Gy{x0 x1 x2:Nat}(h0:4+3*(max x0 x1+1)≤x2):4+3*x0≤x2-1-1-1:=lin [x0,x2-1-1-1,max x0 x1,x2,x2-1-1,x1,x2-1] (.c 1 (.a (.n 4) (.m 3 (.a (.v 2) (.n 1)))) (.v 3) (.c 1 (.v 4) (.a (.v 1) (.n 1)) (.c 3 (.v 0) (.v 2) (.c 1 (.v 6) (.a (.v 4) (.n 1)) (.c 1 (.v 3) (.a (.v 6) (.n 1)) .e))))) (.a (.n 4) (.m 3 (.v 0))) (.v 1) rfl h0 (lsa (x2-1-1) 1) (Nat.le_max_left x0 x1) (lsa (x2-1) 1) (lsa x2 1)
theorem GQ{x0 x1 x2:Nat}(h0:4+3*(max x0 x1+1)≤x2):4+3*x1≤x2-1-1-1:=lin [x1,x2-1-1-1,max x0 x1,x2,x2-1-1,x0,x2-1] (.c 1 (.a (.n 4) (.m 3 (.a (.v 2) (.n 1)))) (.v 3) (.c 1 (.v 4) (.a (.v 1) (.n 1)) (.c 3 (.v 0) (.v 2) (.c 1 (.v 6) (.a (.v 4) (.n 1)) (.c 1 (.v 3) (.a (.v 6) (.n 1)) .e))))) (.a (.n 4) (.m 3 (.v 0))) (.v 1) rfl h0 (lsa (x2-1-1) 1) (Nat.le_max_right x0 x1) (lsa (x2-1) 1) (lsa x2 1)
structure Cst where
 regs:List V
 blks:List (List V×V)
 held:List (Int×V)
 loops:List (Int×V)
 here:Nat
structure bX where
 many:Nat
 body:List V
noncomputable def x(s:String):Str:=Str.ofString s
noncomputable def r15:List O:=[.inst 111 [(x "packages",.none),(x "named",.junk),(x "globals",.edict),(x "consts",.edict),(x "funcs",.edict),(x "bodies",.edict),(x "files",.edict),(x "scopes",.edict),(x "order",.lst []),(x "starts",.lst []),(x "settle",.none),(x "late_keys",.lst []),(x "is_whole",.bool true)]]
noncomputable def r16:List O:=[.inst 109 [(x "path",S "error"),(x "package",S ""),(x "underlying",.tup [S "interface",.tup [.tup [S "Error",.tup [S "func",.tup [],.tup [.tup [S "string"]],.bool false]]]]),(x "methods",.edict)],
 .inst 109 [(x "path",S "runtime.Error"),(x "package",S "runtime"),(x "underlying",.tup [S "string"]),(x "methods",.junk)],
 .inst 109 [(x "path",S "sync.Mutex"),(x "package",S "sync"),(x "underlying",.tup [S "struct",.tup [.tup [S "state",ac,.bool false]]]),(x "methods",.junk)],
 .inst 109 [(x "path",S "sync.WaitGroup"),(x "package",S "sync"),(x "underlying",.tup [S "struct",.tup [.tup [S "state",ac,.bool false]]]),(x "methods",.junk)]]
noncomputable def tfn(e:bX):O:= .inst 14 [(x "key",S "main.f"),(x "locals",.lst (List.replicate e.many (.tup [S "n",ac]))),(x "params",.tup []),(x "results",.tup []),(x "captured",.tup []),(x "body",.tup e.body),(x "literals",.edict)]
noncomputable def d8:O:= .sd [(x "value",.fn 62),(x "values",.fn 63),(x "address",.fn 49),(x "block",.fn 94),(x "codes",.ref 14 0)]
noncomputable def stO(here:V)(spot:V):O:= .inst 22 [(x "world",.ref 15 0),(x "typed_fn",.ref 17 0),(x "boxed",.fset),(x "known",.ref 18 0),(x "held",.ref 20 0),(x "sites",.int 0),(x "loops",.ref 21 0),(x "has_defers",.bool false),(x "spot",spot),(x "code",.ref 22 0),(x "here",here)]
noncomputable def hH(recov:V):O:= .inst 16 [(x "key",S "main.f"),(x "params",.int 0),(x "registers",.ref 23 0),(x "blocks",.ref 24 0),(x "captured",.int 0),(x "results",.int 0),(x "recovery",recov)]
noncomputable def b24:Nat→Nat→List V
 |0,_=>[]
 |n+1,k=> .ref 25 k::b24 n (k+1)
noncomputable def b25:List (List V×V)→Nat→List O
 |[],_=>[]
 |b::r,k=> .list [.ref 26 k,b.2]::b25 r (k+1)
noncomputable def b26:List (List V×V)→List O
 |[]=>[]
 |b::r=> .list b.1::b26 r
noncomputable def xm(e:bX)(here spot:V)(held loops:List (Int×V))(regs l24:List V)(l25 l26:List O):St:=
 ⟨[],[],[],[],[],[],[],[],[],[],[],[],[],[],[.idd []],r15,r16,[tfn e],[d8],[stO here spot],[.idd held],[.idd loops],[hH .none],[.list regs],[.list l24],l25,l26,[]⟩
noncomputable def nat(n:Nat):V:= .int (Int.ofNat n)
noncomputable def enc(e:bX)(c:Cst):St:=xm e (nat c.here) (.int 0) c.held c.loops c.regs (b24 c.blks.length 0) (b25 c.blks 0) (b26 c.blks)
noncomputable def stV:V:= .ref 19 0
theorem Ok.of{X:CR}{d g:Nat}{args:List V}{st st':St}{v:V}{P:Prop}(kn:cY g=true)(hd:0<d)(sc:Sc)(h:P)(e:P=tX (Ok X (d-1)) g args st sc fun v₁ st₁ _=>v₁=v∧st₁=st'):Ok X d g args st v st':=by
 cases d with
 |zero=>omega
 |succ d=>exact .inr ⟨kn,sc,e▸h⟩
theorem Ok.by{X:CR}{d g:Nat}{args:List V}{st st':St}{v:V}{P:Prop}(kn:cY g=true)(hd:0<d)(sc:Sc)(h:(v=v∧st'=st')→P)(e:P=tX (Ok X (d-1)) g args st sc fun v₁ st₁ _=>v₁=v∧st₁=st'):Ok X d g args st v st':=Ok.of kn hd sc (h ⟨rfl,rfl⟩) e
theorem gk{α:Type}{P:α→Prop}{a:α}{r:List α}(h:P a)(t:∀u∈r,P u):∀u∈a::r,P u:=fun u m=>(List.mem_cons.mp m).elim (fun e=>e▸h) (t u)
theorem gnl{α:Type}{P:α→Prop}:∀u∈([]:List α),P u:=nofun
noncomputable def mp{α:Type}(f:α→Prop):List α→List Prop
 |[]=>[]
 |a::r=>f a::mp f r
theorem evM{α:Type}{P Q:α→Prop}{a:α}:∀ {l:List α},a∈l→l.map P=mp Q l→P a=Q a
 |_::_,m,e=>(List.mem_cons.mp m).elim (fun h=>h▸(List.cons.inj e).1) fun m=>evM m (List.cons.inj e).2
theorem p5{α β:Type}{P Q:α→β→Prop}{a:α}{b:β}{l:List (α×β)}(m:(a,b)∈l)(e:l.map (fun t=>P t.1 t.2)=mp (fun t=>Q t.1 t.2) l):P a b=Q a b:=evM (P:=fun t=>P t.1 t.2) m e
theorem FU{α β γ:Type}{P Q:α→β→γ→Prop}{a:α}{b:β}{c:γ}{l:List (α×β×γ)}(m:(a,b,c)∈l)(e:l.map (fun t=>P t.1 t.2.1 t.2.2)=mp (fun t=>Q t.1 t.2.1 t.2.2) l):P a b c=Q a b c:=evM (P:=fun t=>P t.1 t.2.1 t.2.2) m e
theorem Tn{F A R:Prop}(a:A)(r:F→R)(f:F):A∧R:=⟨a,r f⟩
noncomputable def newReg(c:Cst)(t:V):Cst:={c with regs:=c.regs++[t]}
noncomputable def newBlk(c:Cst):Cst:={c with blks:=c.blks++[([],.none)]}
noncomputable def ph(i:V)(b:List V×V):List V×V:=(b.1++[i],b.2)
noncomputable def dO(t:V)(b:List V×V):List V×V:=(b.1,t)
noncomputable def put(c:Cst)(i:V):Cst:={c with blks:=c.blks.modify c.here (ph i)}
noncomputable def close(c:Cst)(t:V):Cst:={c with blks:=c.blks.modify c.here (dO t)}
noncomputable def jmp(b:Nat):V:= .tup [S "jump",nat b]
noncomputable def goTo(c:Cst)(b:Nat):Cst:={close c (jmp b) with here:=b}
noncomputable def endB(c:Cst)(t:V):Cst:={newBlk (close c t) with here:=c.blks.length}
noncomputable def setHere(c:Cst)(b:Nat):Cst:={c with here:=b}
noncomputable def setHeld(c:Cst)(l:Int)(r:Nat):Cst:={c with held:=aZ l (nat r) c.held}
noncomputable def setLoop(c:Cst)(n:Int)(v:V):Cst:={c with loops:=aZ n v c.loops}
noncomputable def reg(n:Nat):V:= .tup [S "reg",nat n]
theorem Aq(xs:List V)(n:Nat):atI xs (Int.ofNat n)=xs[n]? :=rfl
theorem uQ:∀(n k b:Nat),b<n→(b24 n k)[b]? = some (.ref 25 (k+b))
 |n+1,k,0,_=>rfl
 |n+1,k,b+1,h=>by
  show(b24 n (k+1))[b]? = _
  rw[uQ n (k+1) b (lin [_,_] (.c 1 (.a (.a (.v 0) (.n 1)) (.n 1)) (.a (.v 1) (.n 1)) .e) (.a (.v 0) (.n 1)) (.v 1) rfl h)];congr 2;exact qU
theorem oU{n b:Nat}(h:b<n):atI (b24 n 0) (Int.ofNat b)=some (.ref 25 b):=by
 rw[Aq,uQ n 0 b h,Nat.zero_add]
theorem p9:∀(n k:Nat),b24 (n+1) k=b24 n k++[.ref 25 (k+n)]
 |0,k=>rfl
 |n+1,k=>by
  show .ref 25 k::b24 (n+1) (k+1) = .ref 25 k::(b24 n (k+1)++[.ref 25 (k+(n+1))])
  rw[p9 n (k+1)];congr 4;exact qU
theorem nV:∀(n k:Nat),(b24 n k).length=n
 |0,_=>rfl
 |n+1,k=>by show(b24 n (k+1)).length+1=_;rw[nV n]
theorem uU:∀ {l:List (List V×V)} {k b:Nat} {xs:List V} {t:V},l[b]? = some (xs,t)→(b25 l k)[b]? = some (.list [.ref 26 (k+b),t])
 |p::l,k,0,xs,t,h=>by cases h;rfl
 |p::l,k,b+1,xs,t,h=>by
  show(b25 l (k+1))[b]? = _
  rw[uU (l:=l) (h)];congr 4;exact qU
theorem kZ{l:List (List V×V)}{b:Nat}{xs:List V}{t:V}(h:l[b]? = some (xs,t)):(b25 l 0)[b]? = some (.list [.ref 26 b,t]):=by
 rw[uU h,Nat.zero_add]
theorem oj:∀ {l:List (List V×V)} {b:Nat} {xs:List V} {t:V},l[b]? = some (xs,t)→(b26 l)[b]? = some (.list xs)
 |p::l,0,xs,t,h=>by cases h;rfl
 |p::l,b+1,xs,t,h=>by
  exact oj (l:=l) (h)
theorem uP:∀(l:List (List V×V)) (k b:Nat) (i:V),b25 (l.modify b (ph i)) k=b25 l k
 |[],_,_,_=>by simp[b25]
 |p::l,k,0,i=>rfl
 |p::l,k,b+1,i=>by
  show .list [.ref 26 k,p.2]::b25 (l.modify b (ph i)) (k+1)=_
  rw[uP l];rfl
theorem uf:∀(l:List (List V×V)) (b:Nat) (i:V) (xs:List V) (t:V),l[b]? = some (xs,t)→b26 (l.modify b (ph i))=(b26 l).set b (.list (xs++[i]))
 |p::l,0,i,xs,t,h=>by cases h;rfl
 |p::l,b+1,i,xs,t,h=>by
  show .list p.1::b26 (l.modify b (ph i)) = .list p.1::(b26 l).set b (.list (xs++[i]))
  rw[uf l b i xs t (h)]
theorem oQ:∀(l:List (List V×V)) (b:Nat) (t:V),b26 (l.modify b (dO t))=b26 l
 |[],_,_=>by simp[b26]
 |p::l,0,t=>rfl
 |p::l,b+1,t=>by
  show .list p.1::b26 (l.modify b (dO t))=_
  rw[oQ l];rfl
theorem oB:∀(l:List (List V×V)) (k b:Nat) (t u:V) (xs:List V),l[b]? = some (xs,t)→b25 (l.modify b (dO u)) k=(b25 l k).set b (.list [.ref 26 (k+b),u])
 |p::l,k,0,t,u,xs,h=>by cases h;rfl
 |p::l,k,b+1,t,u,xs,h=>by
  show .list [.ref 26 k,p.2]::b25 (l.modify b (dO u)) (k+1) = .list [.ref 26 k,p.2]::(b25 l (k+1)).set b _
  rw[oB l (k+1) b t u xs (h),show k+1+b=k+(b+1) by exact qU]
theorem qW:∀(l:List (List V×V)) (k:Nat) (p:List V×V),b25 (l++[p]) k=b25 l k++[.list [.ref 26 (k+l.length),p.2]]
 |[],k,p=>rfl
 |q::l,k,p=>by
  show _::b25 (l++[p]) (k+1)=_::(b25 l (k+1)++_)
  rw[qW l (k+1) p,List.length_cons,show k+1+l.length=k+(l.length+1) by exact qU]
theorem t9:∀(l:List (List V×V)) (k:Nat),(b25 l k).length=l.length
 |[],_=>rfl
 |_::l,k=>by show(b25 l (k+1)).length+1=_;rw[t9 l];rfl
theorem pN:∀(l:List (List V×V)) (p:List V×V),b26 (l++[p])=b26 l++[.list p.1]
 |[],p=>rfl
 |q::l,p=>by show _::b26 (l++[p])=_::(b26 l++_);rw[pN l p]
theorem uF:∀(l:List (List V×V)),(b26 l).length=l.length
 |[]=>rfl
 |_::l=>by show(b26 l).length+1=_;rw[uF l];rfl
theorem rE{α:Type}(l:List α)(a:α):Int.ofNat (l++[a]).length-1=Int.ofNat l.length:=by simp
theorem fin(v:V)(st:St):v=v∧st=st:=⟨rfl,rfl⟩
theorem aA{α:Type}(k j:Int)(a:α):∀l:List (Int×α),ag j (aZ k a l)=if k=j then some a else ag j l
 |[]=>by
  unfold aZ ag
  by_cases h:k=j
  ·simp[h]
  ·simp[h,ag]
 |p::r=>by
  unfold aZ
  by_cases h1:p.1=k
  ·rw[decide_eq_true h1]
   subst h1
   unfold ag
   by_cases h:p.1=j
   ·simp[h]
   ·simp[h]
  ·rw[decide_eq_false h1]
   unfold ag
   by_cases h:p.1=j
   ·have:¬k=j:=fun q=>h1 (h.trans q.symm)
    simp[h,this]
   ·simp only[h,decide_false]
    exact aA k j a r
theorem ak(c:Cst)(i:V):(put c i).blks.length=c.blks.length:=by simp[put]
theorem ae(c:Cst)(i:V):(close c i).blks.length=c.blks.length:=by simp[close]
theorem BO(e:bX)(c:Cst)(i:V){xs:List V}{t:V}(h:c.blks[c.here]? = some (xs,t)):(enc e c).upd 26 c.here (.list (xs++[i]))=enc e (put c i):=by
 have h1:=uf c.blks c.here i xs t h
 have h2:=uP c.blks 0 c.here i
 have h3:(c.blks.modify c.here (ph i)).length=c.blks.length:=by simp
 have h0:(enc e c).upd 26 c.here (.list (xs++[i]))=xm e (nat c.here) (.int 0) c.held c.loops c.regs (b24 c.blks.length 0) (b25 c.blks 0) ((b26 c.blks).set c.here (.list (xs++[i]))):=by kernel_rfl
 rw[h0]
 unfold enc put
 rw[h1,h2,h3]
theorem vP(e:bX)(c:Cst)(u:V){xs:List V}{t:V}(h:c.blks[c.here]? = some (xs,t)):(enc e c).upd 25 c.here (.list [.ref 26 c.here,u])=enc e (close c u):=by
 have h1:=oB c.blks 0 c.here t u xs h
 rw[Nat.zero_add] at h1
 have h2:=oQ c.blks c.here u
 have h3:(c.blks.modify c.here (dO u)).length=c.blks.length:=by simp
 have h0:(enc e c).upd 25 c.here (.list [.ref 26 c.here,u])=xm e (nat c.here) (.int 0) c.held c.loops c.regs (b24 c.blks.length 0) ((b25 c.blks 0).set c.here (.list [.ref 26 c.here,u])) (b26 c.blks):=by kernel_rfl
 rw[h0]
 unfold enc close
 rw[h1,h2,h3]
theorem rP(e:bX)(c:Cst):(((enc e c).push 26 (.list [])).push 25 (.list [.ref 26 (b26 c.blks).length,.none])).upd 24 0 (.list (b24 c.blks.length 0++[.ref 25 (b25 c.blks 0).length]))=enc e (newBlk c):=by
 have h1:=qW c.blks 0 ([],.none)
 have h2:=pN c.blks ([],.none)
 have h3:(c.blks++[(([]:List V),V.none)]).length=c.blks.length+1:=List.length_append ..
 have h4:=p9 c.blks.length 0
 have h0:(((enc e c).push 26 (.list [])).push 25 (.list [.ref 26 (b26 c.blks).length,.none])).upd 24 0 (.list (b24 c.blks.length 0++[.ref 25 (b25 c.blks 0).length])) =
  xm e (nat c.here) (.int 0) c.held c.loops c.regs (b24 c.blks.length 0++[.ref 25 (b25 c.blks 0).length]) (b25 c.blks 0++[.list [.ref 26 (b26 c.blks).length,.none]]) (b26 c.blks++[.list []]):=by kernel_rfl
 rw[h0]
 unfold enc newBlk
 rw[h1,h2,h3,h4,t9,uF,Nat.zero_add]
section
variable{X:CR}{d:Nat}(e:bX)(c:Cst)
theorem ja(t:V)(hd:1≤d)(h:c.regs.length≤100000):Ok X d 23001 [stV,t] (enc e c) (nat c.regs.length) (enc e (newReg c t)):=
 Ok.of (by decide +kernel) hd [] (P:=c.regs.length≤100000∧V.int (Int.ofNat (c.regs++[t]).length-1)=nat c.regs.length∧enc e (newReg c t)=enc e (newReg c t)) ⟨h,congrArg V.int (rE ..),rfl⟩ (by kernel_rfl)
theorem nG(hd:1≤d)(h:c.blks.length≤100000):Ok X d 23002 [stV] (enc e c) (nat c.blks.length) (enc e (newBlk c)):=
 Ok.of (by decide +kernel) hd [] (P:=(b24 c.blks.length 0).length≤100000∧V.int (Int.ofNat (b24 c.blks.length 0++[V.ref 25 (b25 c.blks 0).length]).length-1)=nat c.blks.length∧
  (((enc e c).push 26 (.list [])).push 25 (.list [.ref 26 (b26 c.blks).length,.none])).upd 24 0 (.list (b24 c.blks.length 0++[.ref 25 (b25 c.blks 0).length]))=enc e (newBlk c))
  ⟨by rw[nV];exact h,by rw[rE,nV];rfl,rP e c⟩ (by kernel_rfl)
theorem j4(hd:1≤d){b:Nat}{xs:List V}{t:V}(h:c.blks[b]? = some (xs,t)):Ok X d 17001 [.ref 22 0,nat b] (enc e c) (.ref 26 b) (enc e c):=
 Ok.of (by decide +kernel) hd [.idx 101 (.ref 24 0),.idx 101 (.ref 25 b),.cell 101 (.list [.ref 26 b,t])]
  (P:=(some (V.ref 24 0)=some (.ref 24 0))∧atI (b24 c.blks.length 0) (Int.ofNat b)=some (.ref 25 b)∧(b25 c.blks 0)[b]? = some (.list [.ref 26 b,t])∧V.ref 26 b = .ref 26 b∧enc e c=enc e c)
  ⟨rfl,oU (List.getElem?_eq_some_iff.mp h).1,kZ h,rfl,rfl⟩ (by kernel_rfl)
theorem mC(hd:1≤d){b:Nat}{xs:List V}{t:V}(h:c.blks[b]? = some (xs,t)):Ok X d 17002 [.ref 22 0,nat b] (enc e c) t (enc e c):=
 Ok.of (by decide +kernel) hd [.idx 104 (.ref 24 0),.idx 104 (.ref 25 b),.cell 104 (.list [.ref 26 b,t])]
  (P:=(some (V.ref 24 0)=some (.ref 24 0))∧atI (b24 c.blks.length 0) (Int.ofNat b)=some (.ref 25 b)∧(b25 c.blks 0)[b]? = some (.list [.ref 26 b,t])∧t=t∧enc e c=enc e c)
  ⟨rfl,oU (List.getElem?_eq_some_iff.mp h).1,kZ h,rfl,rfl⟩ (by kernel_rfl)
theorem rX(hd:2≤d)(i:V){xs:List V}{t:V}(h:c.blks[c.here]? = some (xs,t))(hl:xs.length≤100000):Ok X d 23003 [stV,i] (enc e c) .none (enc e (put c i)):=
 Ok.of (by decide +kernel) (om1 hd) [.call (.ref 26 c.here) (enc e c),.cell 165 (.list xs),.cell 165 (.list xs)]
  (P:=Ok X (d-1) 17001 [.ref 22 0,nat c.here] (enc e c) (.ref 26 c.here) (enc e c)∧(b26 c.blks)[c.here]? = some (.list xs)∧(b26 c.blks)[c.here]? = some (.list xs)∧xs.length≤100000∧V.none=V.none∧(enc e c).upd 26 c.here (.list (xs++[i]))=enc e (put c i))
  ⟨j4 e c (om2 hd) h,oj h,oj h,hl,rfl,BO e c i h⟩ (by kernel_rfl)
theorem kq(hd:1≤d)(u:V){xs:List V}{t:V}(h:c.blks[c.here]? = some (xs,t)):Ok X d 23005 [stV,u] (enc e c) .none (enc e (close c u)):=
 Ok.of (by decide +kernel) hd [.idx 173 (.ref 22 0),.idx 173 (.ref 24 0),.idx 173 (nat c.here),.idx 173 (.ref 25 c.here),.cell 173 (.list [.ref 26 c.here,t])]
  (P:=(some (V.ref 22 0)=some (.ref 22 0))∧(some (V.ref 24 0)=some (.ref 24 0))∧(some (nat c.here)=some (nat c.here))∧atI (b24 c.blks.length 0) (Int.ofNat c.here)=some (.ref 25 c.here)∧(b25 c.blks 0)[c.here]? = some (.list [.ref 26 c.here,t])∧1<2∧V.none=V.none∧(enc e c).upd 25 c.here (.list [.ref 26 c.here,u])=enc e (close c u))
  ⟨rfl,rfl,rfl,oU (List.getElem?_eq_some_iff.mp h).1,kZ h,by decide,rfl,vP e c u h⟩ (by kernel_rfl)
theorem DF(hd:2≤d)(u:V){xs:List V}{t:V}(h:c.blks[c.here]? = some (xs,t))(hl:c.blks.length≤100000):Ok X d 23006 [stV,u] (enc e c) .none (enc e (endB c u)):=
 Ok.of (by decide +kernel) (om1 hd) [.call .none (enc e (close c u)),.call (nat c.blks.length) (enc e (newBlk (close c u)))]
  (P:=Ok X (d-1) 23005 [stV,u] (enc e c) .none (enc e (close c u))∧Ok X (d-1) 23002 [stV] (enc e (close c u)) (nat c.blks.length) (enc e (newBlk (close c u)))∧(Nat.ble 11 500=true)∧V.none=V.none∧enc e (endB c u)=enc e (endB c u))
  ⟨kq e c (om2 hd) u h,by have:=nG (X:=X) (d:=d-1) e (close c u) (om2 hd) (by rw[ae];exact hl);rw[ae] at this;exact this,rfl,rfl,rfl⟩ (by kernel_rfl)
theorem Hh(hd:2≤d)(b:Nat){xs:List V}{t:V}(h:c.blks[c.here]? = some (xs,t)):Ok X d 23007 [stV,nat b] (enc e c) .none (enc e (goTo c b)):=
 Ok.of (by decide +kernel) (om1 hd) [.call .none (enc e (close c (jmp b)))]
  (P:=Ok X (d-1) 23005 [stV,jmp b] (enc e c) .none (enc e (close c (jmp b)))∧(Nat.ble 11 500=true)∧V.none=V.none∧enc e (goTo c b)=enc e (goTo c b))
  ⟨kq e c (om2 hd) _ h,rfl,rfl,rfl⟩ (by kernel_rfl)
noncomputable def row0:V:= .tup [S "n",ac]
theorem BF(hd:1≤d){l:Nat}(h:l<e.many):Ok X d 23009 [stV,nat l] (enc e c) ac (enc e c):=
 Ok.of (by decide +kernel) hd [.idx 188 (.ref 17 0),.idx 188 (.lst (List.replicate e.many row0)),.idx 188 row0]
  (P:=(some (V.ref 17 0)=some (.ref 17 0))∧(some (V.lst (List.replicate e.many row0))=some (.lst (List.replicate e.many row0)))∧(List.replicate e.many row0)[l]? = some row0∧ac=ac∧enc e c=enc e c)
  ⟨rfl,rfl,by simp[h],rfl,rfl⟩ (by kernel_rfl)
theorem eH(hd:1≤d)(l:Nat):Ok X d 23010 [stV,nat l] (enc e c) (.bool false) (enc e c):=
 Ok.of (by decide +kernel) hd [] (P:=V.bool false=V.bool false∧enc e c=enc e c) ⟨rfl,rfl⟩ (by kernel_rfl)
theorem An(hd:2≤d){l:Nat}(h:l<e.many)(hr:c.regs.length≤100000)(hh:c.held.length≤100000):Ok X d 23011 [stV,nat l] (enc e c) (nat c.regs.length) (enc e (setHeld (newReg c ac) l c.regs.length)):=
 Ok.of (by decide +kernel) (om1 hd) [.call ac (enc e c),.call (.bool false) (enc e c),.call (nat c.regs.length) (enc e (newReg c ac)),.idx 196 (.ref 20 0),.idx 196 (nat c.regs.length)]
  (P:=Ok X (d-1) 23009 [stV,nat l] (enc e c) ac (enc e c)∧Ok X (d-1) 23010 [stV,nat l] (enc e c) (.bool false) (enc e c)∧Ok X (d-1) 23001 [stV,ac] (enc e c) (nat c.regs.length) (enc e (newReg c ac))∧
   c.held.length≤100000∧(some (V.ref 20 0)=some (.ref 20 0))∧ag (Int.ofNat l) (aZ (Int.ofNat l) (nat c.regs.length) c.held)=some (nat c.regs.length)∧nat c.regs.length=nat c.regs.length∧enc e (setHeld (newReg c ac) l c.regs.length)=enc e (setHeld (newReg c ac) l c.regs.length))
  ⟨BF e c (om2 hd) h,eH e c (om2 hd) l,ja e c _ (om2 hd) hr,hh,rfl,by rw[aA,if_pos rfl],rfl,rfl⟩ (by kernel_rfl)
theorem vd(hd:2≤d){l r:Nat}(h:ag (Int.ofNat l) c.held=some (nat r)):Ok X d 23014 [stV,nat l] (enc e c) (reg r) (enc e c):=
 Ok.of (by decide +kernel) (om1 hd) [.call (.bool false) (enc e c),.idx 212 (.ref 20 0),.idx 212 (nat r)]
  (P:=Ok X (d-1) 23010 [stV,nat l] (enc e c) (.bool false) (enc e c)∧(some (V.ref 20 0)=some (.ref 20 0))∧ag (Int.ofNat l) c.held=some (nat r)∧reg r=reg r∧enc e c=enc e c)
  ⟨eH e c (om2 hd) l,rfl,h,rfl,rfl⟩ (by kernel_rfl)
noncomputable def mv(r:Nat)(o:V):V:= .tup [S "move",nat r,o]
theorem Ao(hd:3≤d){l r:Nat}(o:V)(h:ag (Int.ofNat l) c.held=some (nat r)){xs:List V}{t:V}(hb:c.blks[c.here]? = some (xs,t))(hl:xs.length≤100000):Ok X d 23015 [stV,nat l,o] (enc e c) .none (enc e (put c (mv r o))):=
 Ok.of (by decide +kernel) (om0 hd) [.call (.bool false) (enc e c),.idx 218 (.ref 20 0),.idx 218 (nat r),.call .none (enc e (put c (mv r o)))]
  (P:=Ok X (d-1) 23010 [stV,nat l] (enc e c) (.bool false) (enc e c)∧(some (V.ref 20 0)=some (.ref 20 0))∧ag (Int.ofNat l) c.held=some (nat r)∧Ok X (d-1) 23003 [stV,mv r o] (enc e c) .none (enc e (put c (mv r o)))∧V.none=V.none∧enc e (put c (mv r o))=enc e (put c (mv r o)))
  ⟨eH e c (om5 hd) l,rfl,h,rX e c (om3 hd) _ hb hl,rfl,rfl⟩ (by kernel_rfl)
noncomputable def fresh(c:Cst)(t w:V)(r:List V):Cst:=put (newReg c t) (.tup (w::nat c.regs.length::r))
theorem rF(hd:3≤d)(t w:V)(r:List V)(hr:c.regs.length≤100000)(hw:r.length≤1000){xs:List V}{u:V}(hb:c.blks[c.here]? = some (xs,u))(hl:xs.length≤100000):Ok X d 23004 [stV,t,.tup (w::r)] (enc e c) (reg c.regs.length) (enc e (fresh c t w r)):=
 Ok.of (by decide +kernel) (om0 hd) [.call (nat c.regs.length) (enc e (newReg c t)),.call .none (enc e (fresh c t w r))]
  (P:=Ok X (d-1) 23001 [stV,t] (enc e c) (nat c.regs.length) (enc e (newReg c t))∧(1≤100000∧1≤100000)∧(2≤100000∧r.length≤100000)∧Ok X (d-1) 23003 [stV,.tup (w::nat c.regs.length::r)] (enc e (newReg c t)) .none (enc e (fresh c t w r))∧reg c.regs.length=reg c.regs.length∧enc e (fresh c t w r)=enc e (fresh c t w r))
  ⟨ja e c t (om5 hd) hr,⟨by decide,by decide⟩,⟨by decide,E7 hw⟩,rX e (newReg c t) (om3 hd) _ hb hl,rfl,rfl⟩ (by kernel_rfl)
theorem lU(hd:1≤d)(t:V)(r:List V):Ok X d 23016 [stV,.tup (S "const"::r),t] (enc e c) (.tup (S "const"::r)) (enc e c):=
 Ok.of (by decide +kernel) hd [] (P:=V.tup (S "const"::r) = .tup (S "const"::r)∧enc e c=enc e c) ⟨rfl,rfl⟩ (by kernel_rfl)
theorem Gm(hd:4≤d)(t:V)(k:Nat)(hr:c.regs.length≤100000){xs:List V}{u:V}(hb:c.blks[c.here]? = some (xs,u))(hl:xs.length≤100000):Ok X d 23016 [stV,reg k,t] (enc e c) (reg c.regs.length) (enc e (fresh c t (S "move") [reg k])):=
 Ok.of (by decide +kernel) (om8 hd) [.call (reg c.regs.length) (enc e (fresh c t (S "move") [reg k]))] (P:=Ok X (d-1) 23004 [stV,t,.tup [S "move",reg k]] (enc e c) (reg c.regs.length) (enc e (fresh c t (S "move") [reg k]))∧reg c.regs.length=reg c.regs.length∧enc e (fresh c t (S "move") [reg k])=enc e (fresh c t (S "move") [reg k]))
  ⟨rF e c (pD hd) _ _ _ hr (by simp) hb hl,rfl,rfl⟩ (by kernel_rfl)
theorem eE(hd:1≤d){x v:V}{st':St}(h:Ok X (d-1) 62 [stV,x] (enc e c) v st'):Ok X d 23018 [stV,x] (enc e c) v st':=
 Ok.of (by decide +kernel) hd [.call v st'] (P:=Ok X (d-1) 62 [stV,x] (enc e c) v st'∧v=v∧st'=st') ⟨h,rfl,rfl⟩ (by kernel_rfl)
theorem mY(hd:1≤d){x v:V}{st':St}(h:Ok X (d-1) 63 [stV,x] (enc e c) v st'):Ok X d 23019 [stV,x] (enc e c) v st':=
 Ok.of (by decide +kernel) hd [.call v st'] (P:=Ok X (d-1) 63 [stV,x] (enc e c) v st'∧v=v∧st'=st') ⟨h,rfl,rfl⟩ (by kernel_rfl)
theorem eQ(hd:1≤d){x v:V}{st':St}(h:Ok X (d-1) 94 [stV,x] (enc e c) v st'):Ok X d 23021 [stV,x] (enc e c) .none st':=
 Ok.of (by decide +kernel) hd [.call v st'] (P:=Ok X (d-1) 94 [stV,x] (enc e c) v st'∧V.none=V.none∧st'=st') ⟨h,rfl,rfl⟩ (by kernel_rfl)
end
noncomputable def tot:List (List V×V)→Nat
 |[]=>0
 |b::r=>b.1.length+tot r
noncomputable def sz(c:Cst):Nat:=c.regs.length+c.blks.length+c.held.length+c.loops.length+tot c.blks
structure B(c:Cst)(n:Nat):Prop where
 here:c.here<c.blks.length
 sz:sz c+n≤100000
theorem o0:∀ {l:List (List V×V)} {b:Nat} {xs:List V} {t:V},l[b]? = some (xs,t)→xs.length≤tot l
 |p::l,0,xs,t,h=>by cases h;show xs.length≤xs.length+tot l;exact EB
 |p::l,b+1,xs,t,h=>by
  have:=o0 (l:=l) (b:=b) (xs:=xs) (t:=t) (h)
  show xs.length≤p.1.length+tot l;exact B4 this
theorem ui:∀(l:List (List V×V)) (b:Nat) (i:V),tot (l.modify b (ph i))≤tot l+1
 |[],b,i=>by simp[tot]
 |p::l,0,i=>by show(p.1++[i]).length+tot l≤p.1.length+tot l+1;simp;exact lin [_,_] .e (.a (.a (.v 0) (.n 1)) (.v 1)) (.a (.a (.v 0) (.v 1)) (.n 1)) rfl
 |p::l,b+1,i=>by
  have:=ui l b i
  show p.1.length+tot (l.modify b (ph i))≤p.1.length+tot l+1;exact lin [_,_,_] (.c 1 (.v 1) (.a (.v 2) (.n 1)) .e) (.a (.v 0) (.v 1)) (.a (.a (.v 0) (.v 2)) (.n 1)) rfl this
theorem ou:∀(l:List (List V×V)) (b:Nat) (t:V),tot (l.modify b (dO t))=tot l
 |[],b,i=>by simp[tot]
 |p::l,0,i=>rfl
 |p::l,b+1,i=>by
  have:=ou l b i
  show p.1.length+tot (l.modify b (dO i))=p.1.length+tot l;exact Nat.le_antisymm (lin [_,_,_] (.c 1 (.v 1) (.v 2) .e) (.a (.v 0) (.v 1)) (.a (.v 0) (.v 2)) rfl (leq this)) (lin [_,_,_] (.c 1 (.v 1) (.v 2) .e) (.a (.v 0) (.v 1)) (.a (.v 0) (.v 2)) rfl (leq this.symm))
theorem lS:∀(l:List (List V×V)),tot (l++[([],.none)])=tot l
 |[]=>rfl
 |p::l=>by show p.1.length+tot (l++_)=p.1.length+tot l;rw[lS l]
theorem iW{α:Type}(k:Int)(a:α):∀l:List (Int×α),(aZ k a l).length≤l.length+1
 |[]=>by simp[aZ]
 |p::r=>by
  unfold aZ
  split
  ·simp
  ·have:=iW k a r;simp;exact lin [_,_] (.c 1 (.v 0) (.a (.v 1) (.n 1)) .e) (.v 0) (.a (.v 1) (.n 1)) rfl this
section
variable{c:Cst}{n:Nat}
theorem B.mono{m:Nat}(h:B c n)(l:m≤n):B c m:=⟨h.here,by have:=h.sz;exact lin [_,_,_] (.c 1 (.v 1) (.v 2) (.c 1 (.a (.v 0) (.v 2)) (.n 100000) .e)) (.a (.v 0) (.v 1)) (.n 100000) rfl l this⟩
theorem B.at(h:B c n):∃xs t,c.blks[c.here]? = some (xs,t)∧xs.length≤100000:=by
 have e:c.blks[c.here]? = some (c.blks[c.here]'h.here):=List.getElem?_eq_getElem h.here
 refine⟨_,_,e,?_⟩
 have:=o0 e
 have:=h.sz
 unfold Mine.sz at this
 omega
theorem B.regs(h:B c n):c.regs.length≤100000:=by have:=h.sz;exact lin [_,_,_,_,_,_] (.c 1 (.a (.a (.a (.a (.a (.v 0) (.v 1)) (.v 2)) (.v 3)) (.v 4)) (.v 5)) (.n 100000) .e) (.v 0) (.n 100000) rfl this
theorem B.blks(h:B c n):c.blks.length≤100000:=by have:=h.sz;exact lin [_,_,_,_,_,_] (.c 1 (.a (.a (.a (.a (.a (.v 1) (.v 0)) (.v 2)) (.v 3)) (.v 4)) (.v 5)) (.n 100000) .e) (.v 0) (.n 100000) rfl this
theorem B.held(h:B c n):c.held.length≤100000:=by have:=h.sz;exact lin [_,_,_,_,_,_] (.c 1 (.a (.a (.a (.a (.a (.v 1) (.v 2)) (.v 0)) (.v 3)) (.v 4)) (.v 5)) (.n 100000) .e) (.v 0) (.n 100000) rfl this
theorem B.loops(h:B c n):c.loops.length≤100000:=by have:=h.sz;exact lin [_,_,_,_,_,_] (.c 1 (.a (.a (.a (.a (.a (.v 1) (.v 2)) (.v 3)) (.v 0)) (.v 4)) (.v 5)) (.n 100000) .e) (.v 0) (.n 100000) rfl this
theorem B.newReg(h:B c (n+1))(t:V):B (newReg c t) n:=⟨h.here,by have:=h.sz;unfold Mine.sz at this ⊢;simp only[Mine.newReg,List.length_append,List.length_cons,List.length_nil];exact lin [_,_,_,_,_,_] (.c 1 (.a (.a (.a (.a (.a (.v 0) (.v 1)) (.v 2)) (.v 3)) (.v 4)) (.a (.v 5) (.n 1))) (.n 100000) .e) (.a (.a (.a (.a (.a (.a (.v 0) (.a (.n 0) (.n 1))) (.v 1)) (.v 2)) (.v 3)) (.v 4)) (.v 5)) (.n 100000) rfl this⟩
theorem B.newBlk(h:B c (n+1)):B (newBlk c) n:=⟨by have:=h.here;simp[Mine.newBlk];exact ED this,by have:=h.sz;unfold Mine.sz at this ⊢;simp only[Mine.newBlk,List.length_append,List.length_cons,List.length_nil,lS];exact lin [_,_,_,_,_,_] (.c 1 (.a (.a (.a (.a (.a (.v 0) (.v 1)) (.v 2)) (.v 3)) (.v 4)) (.a (.v 5) (.n 1))) (.n 100000) .e) (.a (.a (.a (.a (.a (.v 0) (.a (.v 1) (.a (.n 0) (.n 1)))) (.v 2)) (.v 3)) (.v 4)) (.v 5)) (.n 100000) rfl this⟩
theorem B.put(h:B c (n+1))(i:V):B (put c i) n:=⟨by rw[ak];exact h.here,by
 have:=h.sz
 have:=ui c.blks c.here i
 unfold Mine.sz at *
 rw[ak]
 simp only[Mine.put];omega⟩
theorem B.close(h:B c n)(i:V):B (close c i) n:=⟨by rw[ae];exact h.here,by
 have:=h.sz
 have:=ou c.blks c.here i
 unfold Mine.sz at *
 rw[ae]
 simp only[Mine.close];omega⟩
theorem B.setHere(h:B c n){b:Nat}(l:b<c.blks.length):B (setHere c b) n:=⟨l,h.sz⟩
theorem B.goTo(h:B c n){b:Nat}(l:b<c.blks.length):B (goTo c b) n:=⟨by rw[show(Mine.goTo c b).blks=(Mine.close c (jmp b)).blks from rfl,ae];exact l,(h.close (jmp b)).sz⟩
theorem B.endB(h:B c (n+1))(t:V):B (endB c t) n:=⟨by
 show c.blks.length<(Mine.newBlk (Mine.close c t)).blks.length
 simp[Mine.newBlk,Mine.close],(h.close t).newBlk.sz⟩
theorem B.setHeld(h:B c (n+1))(l:Int)(r:Nat):B (setHeld c l r) n:=⟨h.here,by
 have:=h.sz
 have:=iW l (nat r) c.held
 unfold Mine.sz at *
 simp only[Mine.setHeld];omega⟩
theorem B.setLoop(h:B c (n+1))(l:Int)(r:V):B (setLoop c l r) n:=⟨h.here,by
 have:=h.sz
 have:=iW l r c.loops
 unfold Mine.sz at *
 simp only[Mine.setLoop];omega⟩
theorem B.fresh(h:B c (n+2))(t w:V)(r:List V):B (fresh c t w r) n:=(h.newReg t).put _
end
section
variable{X:CR}{d n:Nat}(e:bX)(c:Cst)
theorem FL(t:V)(hd:1≤d)(h:B c n):Ok X d 23001 [stV,t] (enc e c) (nat c.regs.length) (enc e (newReg c t)):=ja e c t hd h.regs
theorem aO(hd:1≤d)(h:B c n):Ok X d 23002 [stV] (enc e c) (nat c.blks.length) (enc e (newBlk c)):=nG e c hd h.blks
theorem uB(hd:2≤d)(i:V)(h:B c n):Ok X d 23003 [stV,i] (enc e c) .none (enc e (put c i)):=by
 obtain⟨xs,t,h1,h2⟩:=h.at;exact rX e c hd i h1 h2
theorem cv(hd:1≤d)(u:V)(h:B c n):Ok X d 23005 [stV,u] (enc e c) .none (enc e (close c u)):=by
 obtain⟨xs,t,h1,h2⟩:=h.at;exact kq e c hd u h1
theorem xI(hd:2≤d)(u:V)(h:B c n):Ok X d 23006 [stV,u] (enc e c) .none (enc e (endB c u)):=by
 obtain⟨xs,t,h1,h2⟩:=h.at;exact DF e c hd u h1 h.blks
theorem tx(hd:2≤d)(b:Nat)(h:B c n):Ok X d 23007 [stV,nat b] (enc e c) .none (enc e (goTo c b)):=by
 obtain⟨xs,t,h1,h2⟩:=h.at;exact Hh e c hd b h1
theorem DH(hd:2≤d){l:Nat}(hl:l<e.many)(h:B c n):Ok X d 23011 [stV,nat l] (enc e c) (nat c.regs.length) (enc e (setHeld (newReg c ac) l c.regs.length)):=An e c hd hl h.regs h.held
noncomputable def rg(c:Cst)(l:Nat):Nat:=match ag (Int.ofNat l) c.held with
 |some (.int (.ofNat r))=>r
 |_=>0
def Has(c:Cst)(l:Nat):Prop:=ag (Int.ofNat l) c.held=some (nat (rg c l))
theorem rI(hd:2≤d){l:Nat}(h:Has c l):Ok X d 23014 [stV,nat l] (enc e c) (reg (rg c l)) (enc e c):=vd e c hd h
theorem yf(hd:3≤d){l:Nat}(o:V)(hl:Has c l)(h:B c n):Ok X d 23015 [stV,nat l,o] (enc e c) .none (enc e (put c (mv (rg c l) o))):=by
 obtain⟨xs,t,h1,h2⟩:=h.at;exact Ao e c hd o hl h1 h2
theorem d1(hd:3≤d)(t w:V)(r:List V)(hw:r.length≤1000)(h:B c n):Ok X d 23004 [stV,t,.tup (w::r)] (enc e c) (reg c.regs.length) (enc e (fresh c t w r)):=by
 obtain⟨xs,u,h1,h2⟩:=h.at;exact rF e c hd t w r h.regs hw h1 h2
end
inductive At where
 |loc (l:Nat)
 |int (k:Int)
noncomputable def eC(ty v:V):V:= .tup [S "const",ty,.int 0,v]
noncomputable def cOp(ty v:V):V:= .tup [S "const",ty,v]
noncomputable def cG(l:Nat):V:= .tup [S "local",ac,.int 0,nat l]
noncomputable def At.e:At→V
 | .loc l=>cG l
 | .int k=>eC ac (.int k)
noncomputable def At.o(c:Cst):At→V
 | .loc l=>reg (rg c l)
 | .int k=>cOp ac (.int k)
def At.ok(c:Cst):At→Prop
 | .loc l=>Has c l
 | .int _=>True
noncomputable def mz(op:String)(a b:At):V:= .tup [S "binary",bg,.int 0,S op,a.e,b.e]
section
variable{X:CR}{d n:Nat}(e:bX)(c:Cst)
theorem qt(hd:1≤d)(ty v:V):Ok X d 65 [stV,eC ty v] (enc e c) (cOp ty v) (enc e c):=
 Ok.of (by decide +kernel) hd [] (P:=cOp ty v=cOp ty v∧enc e c=enc e c) ⟨rfl,rfl⟩ (by kernel_rfl)
theorem dE(hd:2≤d)(ty v:V):Ok X d 62 [stV,eC ty v] (enc e c) (cOp ty v) (enc e c):=
 Ok.of (by decide +kernel) (om1 hd) [.call (cOp ty v) (enc e c)] (P:=Ok X (d-1) 65 [stV,eC ty v] (enc e c) (cOp ty v) (enc e c)∧cOp ty v=cOp ty v∧enc e c=enc e c) ⟨qt e c (om2 hd) ty v,rfl,rfl⟩ (by kernel_rfl)
theorem wq(hd:3≤d){l:Nat}(h:Has c l):Ok X d 62 [stV,cG l] (enc e c) (reg (rg c l)) (enc e c):=
 Ok.of (by decide +kernel) (om0 hd) [.call (reg (rg c l)) (enc e c)] (P:=Ok X (d-1) 23014 [stV,nat l] (enc e c) (reg (rg c l)) (enc e c)∧reg (rg c l)=reg (rg c l)∧enc e c=enc e c) ⟨rI e c (om3 hd) h,rfl,rfl⟩ (by kernel_rfl)
theorem AG(hd:3≤d)(a:At)(h:a.ok c):Ok X d 62 [stV,a.e] (enc e c) (a.o c) (enc e c):=by
 induction a with
 |loc l=>exact wq e c hd h
 |int k=>exact dE e c (lin [_] (.c 1 (.n 3) (.v 0) .e) (.n 2) (.v 0) rfl hd) _ _
theorem gw(hd:4≤d)(a:At)(h:a.ok c):Ok X d 23018 [stV,a.e] (enc e c) (a.o c) (enc e c):=eE e c (Cc hd) (AG e c (pD hd) a h)
theorem ru(hd:5≤d)(a b:At)(ha:a.ok c)(hb:b.ok c):Ok X d 64 [stV,.tup [a.e,b.e]] (enc e c) (.lst [a.o c,b.o c]) (enc e c):=
 Ok.of (by decide +kernel) (si hd) [.call (a.o c) (enc e c),.call (b.o c) (enc e c)] (P:=Ok X (d-1) 23018 [stV,a.e] (enc e c) (a.o c) (enc e c)∧Ok X (d-1) 23018 [stV,b.e] (enc e c) (b.o c) (enc e c)∧V.lst [a.o c,b.o c] = .lst [a.o c,b.o c]∧enc e c=enc e c)
  ⟨gw e c (pE hd) a ha,gw e c (pE hd) b hb,rfl,rfl⟩ (by kernel_rfl)
noncomputable def bin(c:Cst)(op:String)(a b:At):Cst:=fresh c bg (S "binary") [S op,a.o c,b.o c,ac]
theorem vk(hd:6≤d)(op:String)(l:Nat)(b:At)(ha:Has c l)(hb:b.ok c)(h:B c n):Ok X d 67 [stV,mz op (.loc l) b] (enc e c) (reg c.regs.length) (enc e (bin c op (.loc l) b)):=
 Ok.of (by decide +kernel) (AJ hd) [.call (.lst [reg (rg c l),b.o c]) (enc e c),.call (reg c.regs.length) (enc e (bin c op (.loc l) b))] (P:=Ok X (d-1) 64 [stV,.tup [cG l,b.e]] (enc e c) (.lst [reg (rg c l),b.o c]) (enc e c)∧
   Ok X (d-1) 23004 [stV,bg,.tup [S "binary",S op,reg (rg c l),b.o c,ac]] (enc e c) (reg c.regs.length) (enc e (bin c op (.loc l) b))∧reg c.regs.length=reg c.regs.length∧enc e (bin c op (.loc l) b)=enc e (bin c op (.loc l) b))
  ⟨ru e c (zZ hd) (.loc l) b ha hb,d1 e c (lin [_,_] (.c 1 (.n 6) (.v 1) (.c 1 (.v 1) (.a (.v 0) (.n 1)) .e)) (.n 3) (.v 0) rfl hd (lsa _ _)) _ _ _ (by simp) h,rfl,rfl⟩ (by kernel_rfl)
theorem D3(hd:7≤d)(op:String)(l:Nat)(b:At)(ha:Has c l)(hb:b.ok c)(h:B c n):Ok X d 62 [stV,mz op (.loc l) b] (enc e c) (reg c.regs.length) (enc e (bin c op (.loc l) b)):=
 Ok.of (by decide +kernel) (lin [_] (.c 1 (.n 7) (.v 0) .e) (.a (.n 0) (.n 1)) (.v 0) rfl hd) [.call (reg c.regs.length) (enc e (bin c op (.loc l) b))] (P:=Ok X (d-1) 67 [stV,mz op (.loc l) b] (enc e c) (reg c.regs.length) (enc e (bin c op (.loc l) b))∧reg c.regs.length=reg c.regs.length∧enc e (bin c op (.loc l) b)=enc e (bin c op (.loc l) b))
  ⟨vk e c (lin [_,_] (.c 1 (.n 7) (.v 1) (.c 1 (.v 1) (.a (.v 0) (.n 1)) .e)) (.n 6) (.v 0) rfl hd (lsa _ _)) op l b ha hb h,rfl,rfl⟩ (by kernel_rfl)
theorem oP(hd:8≤d)(op:String)(l:Nat)(b:At)(ha:Has c l)(hb:b.ok c)(h:B c n):Ok X d 23018 [stV,mz op (.loc l) b] (enc e c) (reg c.regs.length) (enc e (bin c op (.loc l) b)):=eE e c (AF hd) (D3 e c (lin [_,_] (.c 1 (.n 8) (.v 1) (.c 1 (.v 1) (.a (.v 0) (.n 1)) .e)) (.n 7) (.v 0) rfl hd (lsa _ _)) op l b ha hb h)
end
noncomputable def take(c:Cst)(l:Nat):Cst:=setHeld (newReg c ac) (Int.ofNat l) c.regs.length
noncomputable def beginL(c:Cst)(l:Nat)(o:V):Cst:=put (take c l) (mv c.regs.length o)
theorem iH(c:Cst)(l:Nat):rg (take c l) l=c.regs.length:=by
 unfold rg take setHeld
 rw[aA,if_pos rfl];rfl
theorem dS(c:Cst)(l:Nat):Has (take c l) l:=by
 unfold Has
 rw[iH]
 unfold take setHeld
 rw[aA,if_pos rfl]
theorem B.take{c:Cst}{n:Nat}(h:B c (n+2))(l:Nat):B (take c l) n:=(h.newReg ac).setHeld _ _
theorem B.beginL{c:Cst}{n:Nat}(h:B c (n+3))(l:Nat)(o:V):B (beginL c l o) n:=(h.take l).put _
noncomputable def ku(l:Nat):V:= .tup [S "begin",nat l]
noncomputable def fe(l:Nat):V:= .tup [S "local",nat l]
noncomputable def iX(p:Nat)(k:Int):V:= .tup [S "update",.int 0,S "+",cG p,eC ac (.int k)]
noncomputable def fB(c:Cst)(p:Nat)(k:Int):Cst:=put (fresh c ac (S "binary") [S "+",reg (rg c p),cOp ac (.int k),ac]) (mv (rg c p) (reg c.regs.length))
noncomputable def bF(ls:List Nat):V:= .tup [S "do",.int 0,.tup [S "builtin",.tup [S "tuple",.tup []],.int 0,S "print",.tup (ls.map cG)]]
noncomputable def aK(rs:List Nat):V:= .tup [S "print",.tup (rs.map reg),.tup (rs.map fun _=>ac)]
section
variable{X:CR}{d n:Nat}(e:bX)(c:Cst)
theorem fZ(hd:4≤d){l:Nat}(o:V)(hl:l<e.many)(hn:ag (Int.ofNat l) c.held=none)(h:B c 3):Ok X d 55 [stV,nat l,o] (enc e c) .none (enc e (beginL c l o)):=
 Ok.of (by decide +kernel) (om8 hd) [.call (.bool false) (enc e c),.br 429 true,.call (nat c.regs.length) (enc e (take c l)),.call .none (enc e (beginL c l o))]
  (P:=Ok X (d-1) 23010 [stV,nat l] (enc e c) (.bool false) (enc e c)∧some (!(ag (Int.ofNat l) c.held).isSome)=some true∧Ok X (d-1) 23011 [stV,nat l] (enc e c) (nat c.regs.length) (enc e (take c l))∧Ok X (d-1) 23015 [stV,nat l,o] (enc e (take c l)) .none (enc e (beginL c l o))∧V.none=V.none∧enc e (beginL c l o)=enc e (beginL c l o))
  ⟨eH e c (Bw hd) l,by rw[hn];rfl,DH e c (lin [_,_] (.c 1 (.n 4) (.v 1) (.c 1 (.v 1) (.a (.v 0) (.n 1)) .e)) (.n 2) (.v 0) rfl hd (lsa _ _)) hl h,by have:=yf (X:=X) (d:=d-1) e (take c l) (pD hd) o (dS c l) (h.take l);rw[iH] at this;exact this,rfl,rfl⟩ (by kernel_rfl)
theorem vi(hd:2≤d)(p:Nat):Ok X d 53 [stV,cG p] (enc e c) (fe p) (enc e c):=
 Ok.of (by decide +kernel) (om1 hd) [.call (.bool false) (enc e c)] (P:=Ok X (d-1) 23010 [stV,nat p] (enc e c) (.bool false) (enc e c)∧fe p=fe p∧enc e c=enc e c) ⟨eH e c (om2 hd) p,rfl,rfl⟩ (by kernel_rfl)
theorem rM(hd:1≤d)(p:Nat):Ok X d 53 [stV,fe p] (enc e c) (ku p) (enc e c):=
 Ok.of (by decide +kernel) (xe hd) [] (P:=ku p=ku p∧enc e c=enc e c) ⟨rfl,rfl⟩ (by kernel_rfl)
theorem tH(hd:4≤d){p:Nat}(o:V)(hp:Has c p)(h:B c n):Ok X d 54 [stV,fe p,o] (enc e c) .none (enc e (put c (mv (rg c p) o))):=
 Ok.of (by decide +kernel) (om8 hd) [.call .none (enc e (put c (mv (rg c p) o)))] (P:=Ok X (d-1) 23015 [stV,nat p,o] (enc e c) .none (enc e (put c (mv (rg c p) o)))∧V.none=V.none∧enc e (put c (mv (rg c p) o))=enc e (put c (mv (rg c p) o))) ⟨yf e c (pD hd) o hp h,rfl,rfl⟩ (by kernel_rfl)
theorem sT(hd:5≤d){l:Nat}(o:V)(hl:l<e.many)(hn:ag (Int.ofNat l) c.held=none)(h:B c 3):Ok X d 54 [stV,ku l,o] (enc e c) .none (enc e (beginL c l o)):=
 Ok.of (by decide +kernel) (si hd) [.call .none (enc e (beginL c l o))] (P:=Ok X (d-1) 55 [stV,nat l,o] (enc e c) .none (enc e (beginL c l o))∧V.none=V.none∧enc e (beginL c l o)=enc e (beginL c l o)) ⟨fZ e c (pE hd) o hl hn h,rfl,rfl⟩ (by kernel_rfl)
theorem rJ(hd:3≤d){p:Nat}(hp:Has c p):Ok X d 56 [stV,fe p,ac] (enc e c) (reg (rg c p)) (enc e c):=
 Ok.of (by decide +kernel) (om0 hd) [.call (reg (rg c p)) (enc e c)] (P:=Ok X (d-1) 23014 [stV,nat p] (enc e c) (reg (rg c p)) (enc e c)∧reg (rg c p)=reg (rg c p)∧enc e c=enc e c) ⟨rI e c (om3 hd) hp,rfl,rfl⟩ (by kernel_rfl)
theorem zx(hd:5≤d){p:Nat}(k:Int)(hp:Has c p)(h:B c 3):Ok X d 96 [stV,iX p k] (enc e c) .none (enc e (fB c p k)):=
 Ok.of (by decide +kernel) (si hd) [.call (fe p) (enc e c),.call (reg (rg c p)) (enc e c),.call (cOp ac (.int k)) (enc e c),.call (reg c.regs.length) (enc e (fresh c ac (S "binary") [S "+",reg (rg c p),cOp ac (.int k),ac])),.call .none (enc e (fB c p k))]
  (P:=Ok X (d-1) 53 [stV,cG p] (enc e c) (fe p) (enc e c)∧Ok X (d-1) 56 [stV,fe p,ac] (enc e c) (reg (rg c p)) (enc e c)∧Ok X (d-1) 23018 [stV,eC ac (.int k)] (enc e c) (cOp ac (.int k)) (enc e c)∧
   Ok X (d-1) 23004 [stV,ac,.tup [S "binary",S "+",reg (rg c p),cOp ac (.int k),ac]] (enc e c) (reg c.regs.length) (enc e (fresh c ac (S "binary") [S "+",reg (rg c p),cOp ac (.int k),ac]))∧
   Ok X (d-1) 54 [stV,fe p,reg c.regs.length] (enc e (fresh c ac (S "binary") [S "+",reg (rg c p),cOp ac (.int k),ac])) .none (enc e (fB c p k))∧V.none=V.none∧enc e (fB c p k)=enc e (fB c p k))
  ⟨vi e c (lin [_,_] (.c 1 (.n 5) (.v 1) (.c 1 (.v 1) (.a (.v 0) (.n 1)) .e)) (.n 2) (.v 0) rfl hd (lsa _ _)) p,rJ e c (G4 hd) hp,eE e c (Ak hd) (dE e c (lin [_,_,_] (.c 1 (.n 5) (.v 1) (.c 1 (.v 2) (.a (.v 0) (.n 1)) (.c 1 (.v 1) (.a (.v 2) (.n 1)) .e))) (.n 2) (.v 0) rfl hd (lsa _ _) (lsa _ _)) _ _),d1 e c (G4 hd) _ _ _ (by simp) h,tH e (fresh c ac (S "binary") [S "+",reg (rg c p),cOp ac (.int k),ac]) (pE hd) _ hp (h.fresh _ _ _),rfl,rfl⟩ (by kernel_rfl)
noncomputable def eJ(ls:List Nat):V:= .tup [S "builtin",.tup [S "tuple",.tup []],.int 0,S "print",.tup (ls.map cG)]
theorem yj(hd:3≤d)(l r:Nat)(h:B c n):Ok X d 32 [stV,eJ [l],.lst [reg r]] (enc e c) .none (enc e (put c (aK [r]))):=
 Ok.of (by decide +kernel) (om0 hd) [.call .none (enc e (put c (aK [r])))] (P:=Ok X (d-1) 23003 [stV,aK [r]] (enc e c) .none (enc e (put c (aK [r])))∧V.none=V.none∧enc e (put c (aK [r]))=enc e (put c (aK [r]))) ⟨uB e c (om3 hd) _ h,rfl,rfl⟩ (by kernel_rfl)
theorem xd(hd:3≤d)(l l' r r':Nat)(h:B c n):Ok X d 32 [stV,eJ [l,l'],.lst [reg r,reg r']] (enc e c) .none (enc e (put c (aK [r,r']))):=
 Ok.of (by decide +kernel) (om0 hd) [.call .none (enc e (put c (aK [r,r'])))] (P:=Ok X (d-1) 23003 [stV,aK [r,r']] (enc e c) .none (enc e (put c (aK [r,r'])))∧V.none=V.none∧enc e (put c (aK [r,r']))=enc e (put c (aK [r,r']))) ⟨uB e c (om3 hd) _ h,rfl,rfl⟩ (by kernel_rfl)
theorem uT(hd:1≤d)(ls:List Nat)(os:V){s s':St}(h:Ok X (d-1) 32 [stV,eJ ls,os] s .none s'):Ok X d 31 [stV,eJ ls,os] s (.lst []) s':=
 Ok.of (by decide +kernel) (xe hd) [.call .none s'] (P:=Ok X (d-1) 32 [stV,eJ ls,os] s .none s'∧V.lst [] = .lst []∧s'=s') ⟨h,rfl,rfl⟩ (by kernel_rfl)
theorem fX(hd:5≤d){l:Nat}(hl:Has c l)(h:B c n):Ok X d 30 [stV,eJ [l]] (enc e c) (.lst []) (enc e (put c (aK [rg c l]))):=
 Ok.of (by decide +kernel) (si hd) [.call (reg (rg c l)) (enc e c),.call (.lst []) (enc e (put c (aK [rg c l])))]
  (P:=Ok X (d-1) 23018 [stV,cG l] (enc e c) (reg (rg c l)) (enc e c)∧Ok X (d-1) 31 [stV,eJ [l],.lst [reg (rg c l)]] (enc e c) (.lst []) (enc e (put c (aK [rg c l])))∧V.lst [] = .lst []∧enc e (put c (aK [rg c l]))=enc e (put c (aK [rg c l])))
  ⟨gw e c (pE hd) (.loc l) hl,uT (Ak hd) _ _ (yj e c (FJ hd) l _ h),rfl,rfl⟩ (by kernel_rfl)
theorem qL(hd:5≤d){l l':Nat}(hl:Has c l)(hl':Has c l')(h:B c n):Ok X d 30 [stV,eJ [l,l']] (enc e c) (.lst []) (enc e (put c (aK [rg c l,rg c l']))):=
 Ok.of (by decide +kernel) (si hd) [.call (reg (rg c l)) (enc e c),.call (reg (rg c l')) (enc e c),.call (.lst []) (enc e (put c (aK [rg c l,rg c l'])))]
  (P:=Ok X (d-1) 23018 [stV,cG l] (enc e c) (reg (rg c l)) (enc e c)∧Ok X (d-1) 23018 [stV,cG l'] (enc e c) (reg (rg c l')) (enc e c)∧Ok X (d-1) 31 [stV,eJ [l,l'],.lst [reg (rg c l),reg (rg c l')]] (enc e c) (.lst []) (enc e (put c (aK [rg c l,rg c l'])))∧V.lst [] = .lst []∧enc e (put c (aK [rg c l,rg c l']))=enc e (put c (aK [rg c l,rg c l'])))
  ⟨gw e c (pE hd) (.loc l) hl,gw e c (pE hd) (.loc l') hl',uT (Ak hd) _ _ (xd e c (FJ hd) l l' _ _ h),rfl,rfl⟩ (by kernel_rfl)
theorem uA(hd:3≤d)(ls:List Nat){s':St}(h:Ok X (d-3) 30 [stV,eJ ls] (enc e c) (.lst []) s'):Ok X d 96 [stV,bF ls] (enc e c) .none s':=
 have h1:Ok X (d-2) 63 [stV,eJ ls] (enc e c) (.lst []) s':=Ok.of (by decide +kernel) (lin [_,_] (.c 1 (.n 3) (.v 1) (.c 1 (.v 1) (.a (.v 0) (.n 2)) .e)) (.a (.n 0) (.n 1)) (.v 0) rfl hd (lsa _ _)) [.call (.lst []) s'] (P:=Ok X (d-2-1) 30 [stV,eJ ls] (enc e c) (.lst []) s'∧V.lst [] = .lst []∧s'=s') ⟨by rw[show d-2-1=d-3 by omega];exact h,rfl,rfl⟩ (by kernel_rfl)
 Ok.of (by decide +kernel) (om0 hd) [.call (.lst []) s'] (P:=Ok X (d-1) 23019 [stV,eJ ls] (enc e c) (.lst []) s'∧V.none=V.none∧s'=s') ⟨mY e c (om5 hd) ((show d-1-1=d-2 by exact vK).symm▸h1),rfl,rfl⟩ (by kernel_rfl)
theorem bR(hd:1≤d)(w:String)(r:List V)(c':Cst)(hw:w="update"∨w="let"∨w="do")(h:Ok X (d-1) 96 [stV,.tup (S w :: .int 0::r)] (enc e c) .none (enc e c')):Ok X d 95 [stV,.tup (S w :: .int 0::r)] (enc e c) .none (enc e c'):=by
 rcases hw with rfl|rfl|rfl<;>
 exact Ok.of (by decide +kernel) hd [.call .none (enc e c')] (P:=(Nat.ble 11 500=true)∧Ok X (d-1) 96 [stV,.tup (S _ :: .int 0::r)] (enc e c) .none (enc e c')∧(Nat.ble 11 500=true)∧V.none=V.none∧enc e c'=enc e c') ⟨rfl,h,rfl,rfl,rfl⟩ (by kernel_rfl)
theorem gJ(hd:1≤d)(w:String)(g:Nat)(r:List V)(c':Cst)(hw:(w="for"∧g=79)∨(w="range"∧g=80)∨(w="switch"∧g=86))(h:Ok X (d-1) g [stV,.tup (S w :: .int 0::r)] (enc e c) .none (enc e c')):Ok X d 95 [stV,.tup (S w :: .int 0::r)] (enc e c) .none (enc e c'):=by
 rcases hw with ⟨rfl,rfl⟩|⟨rfl,rfl⟩|⟨rfl,rfl⟩<;>
 exact Ok.of (by decide +kernel) hd [.call .none (enc e c')] (P:=(Nat.ble 11 500=true)∧Ok X (d-1) _ [stV,.tup (S _ :: .int 0::r)] (enc e c) .none (enc e c')∧(Nat.ble 11 500=true)∧V.none=V.none∧enc e c'=enc e c') ⟨rfl,h,rfl,rfl,rfl⟩ (by kernel_rfl)
theorem Ab(hd:1≤d)(r:List V)(c':Cst)(h:Ok X (d-1) 100 [stV,.tup (S "if" :: .int 0::r)] (enc e c) .none (enc e c')):Ok X d 95 [stV,.tup (S "if" :: .int 0::r)] (enc e c) .none (enc e c'):=
 Ok.of (by decide +kernel) hd [.call .none (enc e c')] (P:=(Nat.ble 11 500=true)∧Ok X (d-1) 100 [stV,.tup (S "if" :: .int 0::r)] (enc e c) .none (enc e c')∧(Nat.ble 11 500=true)∧V.none=V.none∧enc e c'=enc e c') ⟨rfl,h,rfl,rfl,rfl⟩ (by kernel_rfl)
theorem sU(hd:1≤d)(r:V)(c':Cst)(h:Ok X (d-1) 94 [stV,r] (enc e c) .none (enc e c')):Ok X d 95 [stV,.tup [S "block",.int 0,r]] (enc e c) .none (enc e c'):=
 Ok.of (by decide +kernel) hd [.call .none (enc e c')] (P:=(Nat.ble 11 500=true)∧Ok X (d-1) 94 [stV,r] (enc e c) .none (enc e c')∧(Nat.ble 11 500=true)∧V.none=V.none∧enc e c'=enc e c') ⟨rfl,h,rfl,rfl,rfl⟩ (by kernel_rfl)
theorem sx(hd:3≤d)(m b:Nat)(v:V)(hm:ag (Int.ofNat m) c.loops=some (.tup [nat b,v]))(h:B c n):Ok X d 95 [stV,.tup [S "break",.int 0,nat m]] (enc e c) .none (enc e (endB c (jmp b))):=
 Ok.of (by decide +kernel) (om0 hd) [.idx 747 (.ref 21 0),.idx 747 (nat m),.idx 747 (.tup [nat b,v]),.call .none (enc e (endB c (jmp b)))]
  (P:=(Nat.ble 11 500=true)∧some (V.ref 21 0)=some (.ref 21 0)∧some (nat m)=some (nat m)∧ag (Int.ofNat m) c.loops=some (.tup [nat b,v])∧Ok X (d-1) 23006 [stV,jmp b] (enc e c) .none (enc e (endB c (jmp b)))∧(Nat.ble 11 500=true)∧V.none=V.none∧enc e (endB c (jmp b))=enc e (endB c (jmp b)))
  ⟨rfl,rfl,rfl,hm,xI e c (om3 hd) _ h,rfl,rfl,rfl⟩ (by kernel_rfl)
theorem v3(hd:3≤d)(m b:Nat)(v:V)(hm:ag (Int.ofNat m) c.loops=some (.tup [v,nat b]))(h:B c n):Ok X d 95 [stV,.tup [S "continue",.int 0,nat m]] (enc e c) .none (enc e (endB c (jmp b))):=
 Ok.of (by decide +kernel) (om0 hd) [.idx 749 (.ref 21 0),.idx 749 (nat m),.idx 749 (.tup [v,nat b]),.call .none (enc e (endB c (jmp b)))]
  (P:=(Nat.ble 11 500=true)∧some (V.ref 21 0)=some (.ref 21 0)∧some (nat m)=some (nat m)∧ag (Int.ofNat m) c.loops=some (.tup [v,nat b])∧Ok X (d-1) 23006 [stV,jmp b] (enc e c) .none (enc e (endB c (jmp b)))∧(Nat.ble 11 500=true)∧V.none=V.none∧enc e (endB c (jmp b))=enc e (endB c (jmp b)))
  ⟨rfl,rfl,rfl,hm,xI e c (om3 hd) _ h,rfl,rfl,rfl⟩ (by kernel_rfl)
end
noncomputable def cxG(g:Nat):Cx:=match dW g with|some s=>namesOf s|none=>[]
noncomputable def aG(g:Nat):List Stmt:=match dW g with|some s=>oG s|none=>[]
noncomputable def aY(l:List Stmt)(i:Nat):Stmt:=match l[i]? with|some s=>s|none=> .Pass ⟨0,0,0,0⟩
noncomputable def noE:Expr:= .Constant .none 0 ⟨0,0,0,0⟩
noncomputable def foM{β:Type}(d:β)(f:Expr→List Stmt→β):Stmt→β:=stM d (fun _ _ _=>d) (fun _=>d) (fun _ _=>d) (fun _ _ _=>d) (fun t _ b _ _=>f t b) (fun _ _ _ _=>d) (fun _ _ _ _=>d) (fun _=>d) d d
noncomputable def iE:Stmt→Expr:=foM noE fun t _=>t
noncomputable def iV:Stmt→List Stmt:=foM [] fun _ b=>b
noncomputable def rj(ss:List V)(lv:LV):Rho:=[(x "state",.v stV),(x "statements",.v (.tup ss)),(x "statement",lv)]
inductive nz(P:V→St→St→Prop):List V→St→St→Prop
 |nil (s:St):nz P [] s s
 |cons {v:V} {vs:List V} {s s₁ s₂:St}:P v s s₁→nz P vs s₁ s₂→nz P (v::vs) s s₂
theorem evG{P Q:Prop}(h:P)(e:P=Q):Q:=e▸h
section
variable{X:CR}{d n:Nat}
theorem ve{C:CR}{ss0:List V}:∀ {ss:List V} {s s':St} (lv:LV),lv = .unb∨(∃v,lv = .v v)→nz (fun v s s'=>C 95 [stV,v] s .none s') ss s s'→
  ∃lv',ForR (asgN 9 (iE (aY (aG 94) 0))) (bP (evN C 39) (cxG 94) (iV (aY (aG 94) 0))) (cR ss0 none) ss (rj ss0 lv) s .next (rj ss0 lv') s':=by
 intro ss s s' lv hlv ch
 induction ch generalizing lv with
 |nil=>exact⟨lv,.nil _ _ trivial⟩
 | @cons v vs s s1 s' h1 h2 ih=>
  obtain⟨lv',r⟩:=ih (.v v) (.inr ⟨v,rfl⟩)
  refine⟨lv',.step (ρ₀:=(rj ss0 (.v v))) trivial ?_ ⟨[.call .none s1],evG (P:=C 95 [stV,v] s .none s1∧Fl.next=Fl.next∧(rj ss0 (.v v))=(rj ss0 (.v v))∧s1=s1) ⟨h1,rfl,rfl,rfl⟩ (by kernel_rfl)⟩ (.inl rfl) r⟩
  rcases hlv with rfl|⟨u,rfl⟩<;>kernel_rfl
theorem be(hd:1≤d){ss:List V}{s s':St}(h:nz (fun v s s'=>Ok X (d-1) 95 [stV,v] s .none s') ss s s'):Ok X d 94 [stV,.tup ss] s .none s':=by
 obtain⟨lv',r⟩:=ve (ss0:=ss) .unb (.inl rfl) h
 exact Ok.of (by decide +kernel) hd [.loop 733 .next (rj ss lv') s'] (P:=ForR (asgN 9 (iE (aY (aG 94) 0))) (bP (evN (Ok X (d-1)) 39) (cxG 94) (iV (aY (aG 94) 0))) (cR ss none) ss (rj ss .unb) s .next (rj ss lv') s'∧V.none=V.none∧s'=s') ⟨r,rfl,rfl⟩ (by kernel_rfl)
end
noncomputable def brT(r a b:Nat):V:= .tup [S "branch",reg r,nat a,nat b]
theorem bB:(none:Option (Nat×Nat))=none:=rfl
noncomputable def cN(ss:List V):V:= .tup [S "block",.int 0,.tup ss]
noncomputable def pj:Option (List V)→V
 |none=> .none
 |some ss=>cN ss
noncomputable def ifHead(c:Cst)(op:String)(p:Nat)(k:Int):Cst:=
 let c3:=newBlk (newBlk (newBlk c))
 setHere (close (bin c3 op (.loc p) (.int k)) (brT c.regs.length c.blks.length (newBlk c).blks.length)) c.blks.length
noncomputable def ifMid(c c5:Cst):Cst:=setHere (close c5 (jmp (newBlk (newBlk c)).blks.length)) (newBlk c).blks.length
section
variable{X:CR}{d n m k':Nat}(e:bX)(c:Cst)
theorem B.ifHead{c:Cst}(h:B c (n+5))(op:String)(p:Nat)(k:Int):B (ifHead c op p k) n:=by
 have h3:B (Mine.newBlk (Mine.newBlk (Mine.newBlk c))) (n+2):=h.newBlk.newBlk.newBlk
 have h4:B (bin (Mine.newBlk (Mine.newBlk (Mine.newBlk c))) op (.loc p) (.int k)) n:=h3.fresh _ _ _
 refine(h4.close _).setHere ?_
 rw[ae]
 simp[bin,Mine.fresh,ak,Mine.newReg,Mine.newBlk]
theorem FM(hd:9≤d)(op:String){p:Nat}(k:Int)(ys:List V)(no:Option (List V))(c5 c8:Cst)(hp:Has c p)(h:B c (n+5))(h5:Ok X (d-1) 94 [stV,.tup ys] (enc e (ifHead c op p k)) .none (enc e c5))(b5:B c5 m)
  (h8:match no with|none=>c8=ifMid c c5|some ns=>Ok X (d-1) 94 [stV,.tup ns] (enc e (ifMid c c5)) .none (enc e c8)) (b8:B c8 k'):
  Ok X d 100 [stV,.tup [S "if",.int 0,mz op (.loc p) (.int k),cN ys,pj no]] (enc e c) .none (enc e (goTo c8 (newBlk (newBlk c)).blks.length)):=by
 have h1:B (newBlk c) (n+4):=h.newBlk
 have h2:B (newBlk (newBlk c)) (n+3):=h1.newBlk
 have h3:B (newBlk (newBlk (newBlk c))) (n+2):=h2.newBlk
 have h4:B (bin (newBlk (newBlk (newBlk c))) op (.loc p) (.int k)) n:=h3.fresh _ _ _
 have q1:=aO (X:=X) (d:=d-1) e c (om4 hd) h
 have q2:=aO (X:=X) (d:=d-1) e _ (om4 hd) h1
 have q3:=aO (X:=X) (d:=d-1) e _ (om4 hd) h2
 have q4:=oP (X:=X) (d:=d-1) e (newBlk (newBlk (newBlk c))) (EP hd) op p (.int k) hp trivial h3
 have q5:=cv (X:=X) (d:=d-1) e _ (om4 hd) (brT c.regs.length c.blks.length (newBlk c).blks.length) h4
 have q6:=cv (X:=X) (d:=d-1) e c5 (om4 hd) (jmp (newBlk (newBlk c)).blks.length) b5
 have q7:=tx (X:=X) (d:=d-1) e c8 (om9 hd) (newBlk (newBlk c)).blks.length b8
 induction no with
 |none=>
  subst h8
  exact Ok.by (by decide +kernel) (om6 hd) [.call (nat c.blks.length) (enc e (newBlk c)),.call (nat (newBlk c).blks.length) (enc e (newBlk (newBlk c))),.call (nat (newBlk (newBlk c)).blks.length) (enc e (newBlk (newBlk (newBlk c)))),
   .call (reg c.regs.length) (enc e (bin (newBlk (newBlk (newBlk c))) op (.loc p) (.int k))),.call .none (enc e (close (bin (newBlk (newBlk (newBlk c))) op (.loc p) (.int k)) (brT c.regs.length c.blks.length (newBlk c).blks.length))),
   .call .none (enc e c5),.call .none (enc e (close c5 (jmp (newBlk (newBlk c)).blks.length))),.call .none (enc e (goTo (ifMid c c5) (newBlk (newBlk c)).blks.length))]
   (Tn q1 (Tn q2 (Tn q3 (Tn q4 (Tn q5 (Tn (rfl:Nat.ble 11 500=true) (Tn h5 (Tn q6 (Tn (rfl:Nat.ble 11 500=true) (Tn q7 id)))))))))) (by kernel_rfl)
 |some ns=>
  exact Ok.by (by decide +kernel) (om6 hd) [.call (nat c.blks.length) (enc e (newBlk c)),.call (nat (newBlk c).blks.length) (enc e (newBlk (newBlk c))),.call (nat (newBlk (newBlk c)).blks.length) (enc e (newBlk (newBlk (newBlk c)))),
   .call (reg c.regs.length) (enc e (bin (newBlk (newBlk (newBlk c))) op (.loc p) (.int k))),.call .none (enc e (close (bin (newBlk (newBlk (newBlk c))) op (.loc p) (.int k)) (brT c.regs.length c.blks.length (newBlk c).blks.length))),
   .call .none (enc e c5),.call .none (enc e (close c5 (jmp (newBlk (newBlk c)).blks.length))),.call .none (enc e c8),.call .none (enc e (goTo c8 (newBlk (newBlk c)).blks.length))]
   (Tn q1 (Tn q2 (Tn q3 (Tn q4 (Tn q5 (Tn (rfl:Nat.ble 11 500=true) (Tn h5 (Tn q6 (Tn (rfl:Nat.ble 11 500=true) (Tn h8 (Tn q7 id))))))))))) (by kernel_rfl)
theorem wI(hd:5≤d)(ty v:V)(ht:ty=ac):Ok X d 97 [stV,.tup [eC ty v]] (enc e c) (.lst [cOp ty v]) (enc e c):=by
 subst ht
 have h1:Ok X (d-2) 63 [stV,eC ac v] (enc e c) (.lst [cOp ac v]) (enc e c):=Ok.by (by decide +kernel) (lin [_,_] (.c 1 (.n 5) (.v 1) (.c 1 (.v 1) (.a (.v 0) (.n 2)) .e)) (.a (.n 0) (.n 1)) (.v 0) rfl hd (lsa _ _)) [.call (cOp ac v) (enc e c)] (Tn (dE (X:=X) (d:=d-2-1) e c (lin [_,_,_] (.c 1 (.n 5) (.v 1) (.c 1 (.v 2) (.a (.v 0) (.n 1)) (.c 1 (.v 1) (.a (.v 2) (.n 2)) .e))) (.n 2) (.v 0) rfl hd (lsa _ _) (lsa _ _)) ac v) id) (by kernel_rfl)
 exact Ok.by (by decide +kernel) (si hd) [.call (.lst [cOp ac v]) (enc e c)] (Tn (mY (X:=X) (d:=d-1) e c (Ak hd) ((show d-1-1=d-2 by exact vK).symm▸h1)) id) (by kernel_rfl)
noncomputable def zM(l:Nat):V:= .tup [S "let",.int 0,.tup [nat l],.tup [eC ac (.int 0)]]
theorem Bm(hd:6≤d){l:Nat}(hl:l<e.many)(hn:ag (Int.ofNat l) c.held=none)(h:B c 3):Ok X d 99 [stV,.tup [nat l],.tup [eC ac (.int 0)]] (enc e c) .none (enc e (beginL c l (cOp ac (.int 0)))):=
 Ok.by (by decide +kernel) (AJ hd) [.call (.lst [cOp ac (.int 0)]) (enc e c),.call .none (enc e (beginL c l (cOp ac (.int 0))))]
  (Tn (wI (X:=X) (d:=d-1) e c (zZ hd) ac (.int 0) rfl) (Tn bB (Tn (fZ (X:=X) (d:=d-1) e c (lin [_,_] (.c 1 (.n 6) (.v 1) (.c 1 (.v 1) (.a (.v 0) (.n 1)) .e)) (.n 4) (.v 0) rfl hd (lsa _ _)) (cOp ac (.int 0)) hl hn h) id))) (by kernel_rfl)
theorem xw(hd:8≤d){l:Nat}(hl:l<e.many)(hn:ag (Int.ofNat l) c.held=none)(h:B c 3):Ok X d 95 [stV,zM l] (enc e c) .none (enc e (beginL c l (cOp ac (.int 0)))):=
 bR e c (AF hd) "let" _ _ (.inr (.inl rfl)) (Ok.by (by decide +kernel) (lin [_,_] (.c 1 (.n 8) (.v 1) (.c 1 (.v 1) (.a (.v 0) (.n 1)) .e)) (.a (.n 0) (.n 1)) (.v 0) rfl hd (lsa _ _)) [.call .none (enc e (beginL c l (cOp ac (.int 0))))] (Tn (Bm (X:=X) (d:=d-1-1) e c (lin [_,_,_] (.c 1 (.n 8) (.v 1) (.c 1 (.v 2) (.a (.v 0) (.n 1)) (.c 1 (.v 1) (.a (.v 2) (.n 1)) .e))) (.n 6) (.v 0) rfl hd (lsa _ _) (lsa _ _)) hl hn h) id) (by kernel_rfl))
noncomputable def ax(c:Cst):Cst:=newBlk (newBlk (newBlk (newBlk c)))
noncomputable def b1(c:Cst):Nat:=(newBlk c).blks.length
noncomputable def b2(c:Cst):Nat:=(newBlk (newBlk c)).blks.length
noncomputable def b3(c:Cst):Nat:=(newBlk (newBlk (newBlk c))).blks.length
noncomputable def dQ(c:Cst):V:= .tup [nat (b3 c),nat (b2 c)]
noncomputable def Ec(num l:Nat)(most:Int)(ss:List V):V:= .tup [S "for",.int 0,nat num,.tup [nat l],mz "<" (.loc l) (.int most),.tup [iX l 1],cN ss]
noncomputable def forHead(c:Cst)(num:Nat):Cst:=goTo (setLoop (ax c) (Int.ofNat num) (dQ c)) c.blks.length
noncomputable def eV(c:Cst)(num l:Nat)(most:Int):Cst:=setHere (close (bin (forHead c num) "<" (.loc l) (.int most)) (brT c.regs.length (b1 c) (b3 c))) (b1 c)
noncomputable def forEnd(c c10:Cst)(l:Nat):Cst:=setHere (close (fB (goTo c10 (b2 c)) l 1) (jmp c.blks.length)) (b3 c)
theorem aq(c:Cst):b1 c=c.blks.length+1∧b2 c=c.blks.length+2∧b3 c=c.blks.length+3∧(ax c).blks.length=c.blks.length+4:=by
 simp[b1,b2,b3,ax,newBlk]
theorem cZ(c:Cst)(op:String)(a b:At):(bin c op a b).blks.length=c.blks.length:=by simp[bin,fresh,ak,newReg]
theorem B.four{c:Cst}(h:B c (n+4)):B (ax c) n:=h.newBlk.newBlk.newBlk.newBlk
theorem bE(c:Cst)(num:Nat):(forHead c num).blks.length=c.blks.length+4:=by
 show(close _ _).blks.length=_
 rw[ae];exact(aq c).2.2.2
theorem B.forHead{c:Cst}(h:B c (n+5))(num:Nat):B (forHead c num) n:=by
 refine B.goTo (B.setLoop (B.four (n:=n+1) h) _ _) ?_
 show c.blks.length<(ax c).blks.length
 rw[(aq c).2.2.2];exact lin [_] .e (.a (.v 0) (.n 1)) (.a (.v 0) (.n 4)) rfl
theorem nF(c:Cst)(num l:Nat)(most:Int):(eV c num l most).blks.length=c.blks.length+4:=by
 show(close _ _).blks.length=_
 rw[ae,cZ,bE]
theorem B.forIn{c:Cst}(h:B c (n+7))(num l:Nat)(most:Int):B (eV c num l most) n:=by
 have h4:B (bin (Mine.forHead c num) "<" (.loc l) (.int most)) n:=(B.forHead (n:=n+2) h num).fresh _ _ _
 refine(h4.close _).setHere ?_
 rw[ae,cZ,bE,(aq c).1];exact Gu
theorem DW(hd:10≤d)(num:Nat){l:Nat}(most:Int)(ss:List V)(c10:Cst)(hl:Has c l)(h:B c (n+7))(h10:Ok X (d-2) 94 [stV,.tup ss] (enc e (eV c num l most)) .none (enc e c10))(b10:B c10 (m+3))(hl':Has c10 l)(hb:c.blks.length+4≤c10.blks.length):
  Ok X d 79 [stV,Ec num l most ss] (enc e c) .none (enc e (forEnd c c10 l)):=by
 obtain⟨e1,e2,e3,e4⟩:=aq c
 have h1:B (newBlk c) (n+6):=h.newBlk
 have h2:B (newBlk (newBlk c)) (n+5):=h1.newBlk
 have h3:B (newBlk (newBlk (newBlk c))) (n+4):=h2.newBlk
 have h4:B (ax c) (n+3):=h3.newBlk
 have h5:B (setLoop (ax c) (Int.ofNat num) (dQ c)) (n+2):=h4.setLoop _ _
 have h6:B (forHead c num) (n+2):=h5.goTo (by show c.blks.length<(ax c).blks.length;exact Bg e4)
 have h7:B (bin (forHead c num) "<" (.loc l) (.int most)) n:=h6.fresh _ _ _
 have h11:B (goTo c10 (b2 c)) (m+3):=b10.goTo (yr hb e2)
 have h12:B (fB (goTo c10 (b2 c)) l 1) m:=(B.fresh (n:=m+1) h11 _ _ _).put _
 have q1:=aO (X:=X) (d:=d-1) e c (om7 hd) h
 have q2:=aO (X:=X) (d:=d-1) e _ (om7 hd) h1
 have q3:=aO (X:=X) (d:=d-1) e _ (om7 hd) h2
 have q4:=aO (X:=X) (d:=d-1) e _ (om7 hd) h3
 have q5:=tx (X:=X) (d:=d-1) e _ (Fs hd) c.blks.length h5
 have q6:=oP (X:=X) (d:=d-1) e (forHead c num) (lin [_,_] (.c 1 (.n 10) (.v 1) (.c 1 (.v 1) (.a (.v 0) (.n 1)) .e)) (.n 8) (.v 0) rfl hd (lsa _ _)) "<" l (.int most) hl trivial h6
 have q7:=cv (X:=X) (d:=d-1) e _ (om7 hd) (brT c.regs.length (b1 c) (b3 c)) h7
 have q8:=eQ (X:=X) (d:=d-1) e (eV c num l most) (om7 hd) ((show d-1-1=d-2 by exact vK).symm▸h10)
 have q9:=tx (X:=X) (d:=d-1) e c10 (Fs hd) (b2 c) b10
 have q10:=eH (X:=X) (d:=d-1) e (goTo c10 (b2 c)) (om7 hd) l
 have q11:Ok X (d-1) 23021 [stV,.tup [iX l 1]] (enc e (goTo c10 (b2 c))) .none (enc e (fB (goTo c10 (b2 c)) l 1)):=
  eQ e (goTo c10 (b2 c)) (om7 hd) (be (lin [_,_,_] (.c 1 (.n 10) (.v 1) (.c 1 (.v 2) (.a (.v 0) (.n 1)) (.c 1 (.v 1) (.a (.v 2) (.n 1)) .e))) (.n 1) (.v 0) rfl hd (lsa _ _) (lsa _ _)) (.cons (bR e (goTo c10 (b2 c)) (lin [_,_,_,_] (.c 1 (.n 10) (.v 1) (.c 1 (.v 2) (.a (.v 0) (.n 1)) (.c 1 (.v 3) (.a (.v 2) (.n 1)) (.c 1 (.v 1) (.a (.v 3) (.n 1)) .e)))) (.n 1) (.v 0) rfl hd (lsa _ _) (lsa _ _) (lsa _ _)) "update" _ _ (.inl rfl) (zx e (goTo c10 (b2 c)) (lin [_,_,_,_,_] (.c 1 (.n 10) (.v 1) (.c 1 (.v 2) (.a (.v 0) (.n 1)) (.c 1 (.v 3) (.a (.v 2) (.n 1)) (.c 1 (.v 4) (.a (.v 3) (.n 1)) (.c 1 (.v 1) (.a (.v 4) (.n 1)) .e))))) (.n 5) (.v 0) rfl hd (lsa _ _) (lsa _ _) (lsa _ _) (lsa _ _)) 1 hl' (h11.mono EJ))) (.nil _)))
 have q12:=cv (X:=X) (d:=d-1) e _ (om7 hd) (jmp c.blks.length) h12
 exact Ok.by (by decide +kernel) (lin [_] (.c 1 (.n 10) (.v 0) .e) (.a (.n 0) (.n 1)) (.v 0) rfl hd) [.call (nat c.blks.length) (enc e (newBlk c)),.call (nat (newBlk c).blks.length) (enc e (newBlk (newBlk c))),.call (nat (newBlk (newBlk c)).blks.length) (enc e (newBlk (newBlk (newBlk c)))),.call (nat (newBlk (newBlk (newBlk c))).blks.length) (enc e (ax c)),
   .call .none (enc e (forHead c num)),.call (reg c.regs.length) (enc e (bin (forHead c num) "<" (.loc l) (.int most))),.call .none (enc e (close (bin (forHead c num) "<" (.loc l) (.int most)) (brT c.regs.length (b1 c) (b3 c)))),
   .call .none (enc e c10),.call .none (enc e (goTo c10 (b2 c))),.call (.bool false) (enc e (goTo c10 (b2 c))),.call .none (enc e (fB (goTo c10 (b2 c)) l 1)),.call .none (enc e (close (fB (goTo c10 (b2 c)) l 1) (jmp c.blks.length)))]
   (Tn q1 (Tn q2 (Tn q3 (Tn q4 (Tn h4.loops (Tn q5 (Tn q6 (Tn q7 (Tn (rfl:Nat.ble 11 500=true) (Tn q8 (Tn q9 (Tn bB (Tn q10 (Tn q11 (Tn q12 (Tn (rfl:Nat.ble 11 500=true) id)))))))))))))))) (by kernel_rfl)
end
noncomputable def whM{β:Type}(d:β)(f:Expr→List Stmt→β):Stmt→β:=stM d (fun _ _ _=>d) (fun _=>d) (fun _ _=>d) (fun _ _ _=>d) (fun _ _ _ _ _=>d) (fun t b _ _=>f t b) (fun _ _ _ _=>d) (fun _=>d) d d
noncomputable def whT:Stmt→Expr:=whM noE fun t _=>t
noncomputable def whB:Stmt→List Stmt:=whM [] fun _ b=>b
def HW(w:String):Prop:=w="int"∨w="array"
section
variable{X:CR}{d n m k':Nat}(e:bX)(c:Cst)
noncomputable def EQ(r:List V):Rho:=[(x "self",.v (.ref 15 0)),(x "told",.v (.tup (S "array"::r))),(x "row",.unb)]
theorem vZ(hd:1≤d)(r:List V):Ok X d 112001 [.ref 15 0,.tup (S "array"::r)] (enc e c) (.tup (S "array"::r)) (enc e c):=by
 have hw:WhileR (iI (evN (Ok X (d-1)) 39) (cxG 112001) (whT (aY (aG 112001) 0))) (bP (evN (Ok X (d-1)) 39) (cxG 112001) (whB (aY (aG 112001) 0))) (EQ r) (enc e c) .next (EQ r) (enc e c):=
  .stop ⟨[],evG (P:=false=false∧enc e c=enc e c) ⟨rfl,rfl⟩ (by kernel_rfl)⟩
 exact Ok.by (by decide +kernel) hd [.loop 889 .next (EQ r) (enc e c)] (Tn (rfl:true=true) (Tn hw id)) (by kernel_rfl)
theorem y5(hd:2≤d)(r:List V):Ok X d 2 [.ref 15 0,.tup (S "array"::r)] (enc e c) (.tup (S "array"::r)) (enc e c):=
 Ok.by (by decide +kernel) (om1 hd) [.call (.tup (S "array"::r)) (enc e c)] (Tn (vZ (X:=X) (d:=d-1) e c (om2 hd) r) id) (by kernel_rfl)
theorem oT(hd:6≤d){l:Nat}(o:V)(hl:l<e.many)(hn:ag (Int.ofNat l) c.held=none)(h:B c 3):Ok X d 81 [stV,fe l,o] (enc e c) .none (enc e (beginL c l o)):=
 Ok.by (by decide +kernel) (AJ hd) [.call (ku l) (enc e c),.call .none (enc e (beginL c l o))] (Tn (rM (X:=X) (d:=d-1) e c (lin [_,_] (.c 1 (.n 6) (.v 1) (.c 1 (.v 1) (.a (.v 0) (.n 1)) .e)) (.n 1) (.v 0) rfl hd (lsa _ _)) l) (Tn (sT (X:=X) (d:=d-1) e c (zZ hd) o hl hn h) id)) (by kernel_rfl)
noncomputable def aa(c:Cst):Cst:=fresh c ac (S "move") [cOp ac (.int 0)]
noncomputable def rngIn(c:Cst)(num pl:Nat)(many:V):Cst:=setHere (close (fresh (forHead c num) bg (S "binary") [S "<",reg pl,many,ac]) (brT (forHead c num).regs.length (b1 c) (b3 c))) (b1 c)
noncomputable def dP(pl:Nat):V:= .tup [S "binary",nat pl,S "+",reg pl,cOp ac (.int 1),ac]
noncomputable def rngEnd(c c10:Cst)(pl:Nat):Cst:=setHere (close (put (goTo c10 (b2 c)) (dP pl)) (jmp c.blks.length)) (b3 c)
theorem nO(c:Cst)(num pl:Nat)(many:V):(rngIn c num pl many).blks.length=c.blks.length+4:=by
 show(close _ _).blks.length=_
 rw[ae,show(fresh (forHead c num) bg (S "binary") [S "<",reg pl,many,ac]).blks.length=(forHead c num).blks.length by simp[fresh,ak,newReg],bE]
theorem B.rngIn{c:Cst}(h:B c (n+7))(num pl:Nat)(many:V):B (rngIn c num pl many) n:=by
 have h4:B (Mine.fresh (Mine.forHead c num) bg (S "binary") [S "<",reg pl,many,ac]) n:=(B.forHead (n:=n+2) h num).fresh _ _ _
 refine(h4.close _).setHere ?_
 rw[ae,show(Mine.fresh (Mine.forHead c num) bg (S "binary") [S "<",reg pl,many,ac]).blks.length=(Mine.forHead c num).blks.length by simp[Mine.fresh,ak,Mine.newReg],bE,(aq c).1];exact Gu
noncomputable def Dk(num l:Nat)(most:Int)(ss:List V):V:= .tup [S "range",.int 0,nat num,S "int",.tup [fe l,.none],eC ac (.int most),cN ss]
theorem rp(hd:1≤d)(num:Nat)(w:String)(names ex body:V)(c':Cst)(hw:w="int"∨w="array")(h:Ok X (d-1) 83 [stV,nat num,S w,names,ex,body] (enc e c) .none (enc e c')):
  Ok X d 80 [stV,.tup [S "range",.int 0,nat num,S w,names,ex,body]] (enc e c) .none (enc e c'):=by
 rcases hw with rfl|rfl<;>exact Ok.by (by decide +kernel) hd [.call .none (enc e c')] (Tn h id) (by kernel_rfl)
theorem Al(hd:9≤d)(num:Nat){l:Nat}(most:Int)(ss:List V)(c10:Cst)(hl:l<e.many)(hn:ag (Int.ofNat l) c.held=none)(h:B c (n+12))
  (h10:Ok X (d-2) 94 [stV,.tup ss] (enc e (beginL (rngIn (aa c) num c.regs.length (cOp ac (.int most))) l (reg c.regs.length))) .none (enc e c10)) (b10:B c10 (m+1)) (hb:c.blks.length+4≤c10.blks.length):
  Ok X d 83 [stV,nat num,S "int",.tup [fe l,.none],eC ac (.int most),cN ss] (enc e c) .none (enc e (rngEnd (aa c) c10 c.regs.length)):=by
 have hs:B (aa c) (n+10):=h.fresh _ _ _
 have hsl:(aa c).blks.length=c.blks.length:=by simp[aa,fresh,ak,newReg]
 obtain⟨e1,e2,e3,e4⟩:=aq (aa c)
 have h1:B (newBlk (aa c)) (n+9):=hs.newBlk
 have h2:B (newBlk (newBlk (aa c))) (n+8):=h1.newBlk
 have h3:B (newBlk (newBlk (newBlk (aa c)))) (n+7):=h2.newBlk
 have h4:B (ax (aa c)) (n+6):=h3.newBlk
 have h5:B (setLoop (ax (aa c)) (Int.ofNat num) (dQ (aa c))) (n+5):=h4.setLoop _ _
 have h6:B (forHead (aa c) num) (n+5):=h5.goTo (by show(aa c).blks.length<(ax (aa c)).blks.length;exact Bg e4)
 have h7:B (fresh (forHead (aa c) num) bg (S "binary") [S "<",reg c.regs.length,cOp ac (.int most),ac]) (n+3):=h6.fresh _ _ _
 have h8:B (rngIn (aa c) num c.regs.length (cOp ac (.int most))) (n+3):=B.rngIn (n:=n+3) hs _ _ _
 have h11:B (goTo c10 (b2 (aa c))) (m+1):=b10.goTo (BV hb hsl e2)
 have q0:=eE (X:=X) (d:=d-1) e c (om4 hd) (dE e c (CM hd) ac (.int most))
 have q0':=lU (X:=X) (d:=d-1) e c (om4 hd) ac [ac,.int most]
 have q0'':=d1 (X:=X) (d:=d-1) e c (xr hd) ac (S "move") [cOp ac (.int 0)] (by decide) h
 have q1:=aO (X:=X) (d:=d-1) e _ (om4 hd) hs
 have q2:=aO (X:=X) (d:=d-1) e _ (om4 hd) h1
 have q3:=aO (X:=X) (d:=d-1) e _ (om4 hd) h2
 have q4:=aO (X:=X) (d:=d-1) e _ (om4 hd) h3
 have q5:=tx (X:=X) (d:=d-1) e _ (om9 hd) (aa c).blks.length h5
 have q6:=d1 (X:=X) (d:=d-1) e (forHead (aa c) num) (xr hd) bg (S "binary") [S "<",reg c.regs.length,cOp ac (.int most),ac] (by simp) h6
 have q7:=cv (X:=X) (d:=d-1) e _ (om4 hd) (brT (forHead (aa c) num).regs.length (b1 (aa c)) (b3 (aa c))) h7
 have q7':=oT (X:=X) (d:=d-1) e (rngIn (aa c) num c.regs.length (cOp ac (.int most))) (EN hd) (reg c.regs.length) hl hn (h8.mono EJ)
 have q8:=eQ (X:=X) (d:=d-1) e (beginL (rngIn (aa c) num c.regs.length (cOp ac (.int most))) l (reg c.regs.length)) (om4 hd) ((show d-1-1=d-2 by exact vK).symm▸h10)
 have q9:=tx (X:=X) (d:=d-1) e c10 (om9 hd) (b2 (aa c)) b10
 have q11:=uB (X:=X) (d:=d-1) e (goTo c10 (b2 (aa c))) (om9 hd) (dP c.regs.length) h11
 have q12:=cv (X:=X) (d:=d-1) e _ (om4 hd) (jmp (aa c).blks.length) (h11.put (dP c.regs.length))
 exact Ok.by (by decide +kernel) (om6 hd) [.call (cOp ac (.int most)) (enc e c),.call (cOp ac (.int most)) (enc e c),.call (reg c.regs.length) (enc e (aa c)),
   .call (nat (aa c).blks.length) (enc e (newBlk (aa c))),.call (nat (newBlk (aa c)).blks.length) (enc e (newBlk (newBlk (aa c)))),.call (nat (newBlk (newBlk (aa c))).blks.length) (enc e (newBlk (newBlk (newBlk (aa c))))),.call (nat (newBlk (newBlk (newBlk (aa c)))).blks.length) (enc e (ax (aa c))),
   .call .none (enc e (forHead (aa c) num)),.call (reg (forHead (aa c) num).regs.length) (enc e (fresh (forHead (aa c) num) bg (S "binary") [S "<",reg c.regs.length,cOp ac (.int most),ac])),
   .call .none (enc e (close (fresh (forHead (aa c) num) bg (S "binary") [S "<",reg c.regs.length,cOp ac (.int most),ac]) (brT (forHead (aa c) num).regs.length (b1 (aa c)) (b3 (aa c))))),
   .call .none (enc e (beginL (rngIn (aa c) num c.regs.length (cOp ac (.int most))) l (reg c.regs.length))),.call .none (enc e c10),.call .none (enc e (goTo c10 (b2 (aa c)))),.call .none (enc e (put (goTo c10 (b2 (aa c))) (dP c.regs.length))),
   .call .none (enc e (close (put (goTo c10 (b2 (aa c))) (dP c.regs.length)) (jmp (aa c).blks.length)))]
   (Tn q0 (Tn q0' (Tn q0'' (Tn q1 (Tn q2 (Tn q3 (Tn q4 (Tn h4.loops (Tn q5 (Tn q6 (Tn q7 (Tn (rfl:Nat.ble 11 500=true) (Tn q7' (Tn q8 (Tn q9 (Tn q11 (Tn q12 (Tn (rfl:Nat.ble 11 500=true) id)))))))))))))))))) (by kernel_rfl)
noncomputable def vThree:V:= .tup [S "array",.int 3,ac]
noncomputable def cH:V:= .tup [S "array",.tup [.int 7,.int 17,.int 27]]
noncomputable def am(c:Cst):Cst:=fresh c ac (S "size") [S "len",cOp vThree cH,vThree]
noncomputable def aQ(c:Cst)(pl:Nat):Cst:=fresh c ac (S "elem") [cOp vThree cH,reg pl]
theorem rL(hd:4≤d)(pl:Nat)(h:B c n):Ok X d 82 [stV,S "array",cOp vThree cH,reg pl,ac] (enc e c) (reg c.regs.length) (enc e (aQ c pl)):=
 Ok.by (by decide +kernel) (om8 hd) [.call (reg c.regs.length) (enc e (aQ c pl))] (Tn (d1 (X:=X) (d:=d-1) e c (pD hd) ac (S "elem") [cOp vThree cH,reg pl] (by simp) h) id) (by kernel_rfl)
noncomputable def mS(c:Cst)(num l:Nat):Cst:=
 let c1:=aa (am c)
 let c7:=beginL (rngIn c1 num (c.regs.length+1) (reg c.regs.length)) l (reg (c.regs.length+1))
 beginL (aQ c7 (c.regs.length+1)) (l+1) (reg c7.regs.length)
theorem Ep(hd:9≤d)(num:Nat){l:Nat}(ss:List V)(c10:Cst)(hl:l+1<e.many)(hn:ag (Int.ofNat l) c.held=none)(hn':ag (Int.ofNat (l+1)) c.held=none)(h:B c (n+19))
  (h10:Ok X (d-2) 94 [stV,.tup ss] (enc e (mS c num l)) .none (enc e c10)) (b10:B c10 (m+1)) (hb:c.blks.length+4≤c10.blks.length):
  Ok X d 83 [stV,nat num,S "array",.tup [fe l,fe (l+1)],eC vThree cH,cN ss] (enc e c) .none (enc e (rngEnd (aa (am c)) c10 (c.regs.length+1))):=by
 have hz:B (am c) (n+17):=h.fresh _ _ _
 have hs:B (aa (am c)) (n+15):=hz.fresh _ _ _
 have hrl:(am c).regs.length=c.regs.length+1:=List.length_append ..
 have hsl:(aa (am c)).blks.length=c.blks.length:=by simp[aa,am,fresh,ak,newReg]
 generalize hpl:c.regs.length+1=pl at *
 obtain⟨e1,e2,e3,e4⟩:=aq (aa (am c))
 have q0:=eE (X:=X) (d:=d-1) e c (om4 hd) (dE e c (CM hd) vThree cH)
 have q0':=lU (X:=X) (d:=d-1) e c (om4 hd) vThree [vThree,cH]
 have q0s:=d1 (X:=X) (d:=d-1) e c (xr hd) ac (S "size") [S "len",cOp vThree cH,vThree] (by decide) h
 have q0'':=d1 (X:=X) (d:=d-1) e (am c) (xr hd) ac (S "move") [cOp ac (.int 0)] (by decide) hz
 rw[hrl] at q0''
 unfold mS at h10
 simp only[hpl] at h10
 generalize hc1:aa (am c)=c1 at *
 have h1:B (newBlk c1) (n+14):=hs.newBlk
 have h2:B (newBlk (newBlk c1)) (n+13):=h1.newBlk
 have h3:B (newBlk (newBlk (newBlk c1))) (n+12):=h2.newBlk
 have h4:B (ax c1) (n+11):=h3.newBlk
 have h5:B (setLoop (ax c1) (Int.ofNat num) (dQ c1)) (n+10):=h4.setLoop _ _
 have h6:B (forHead c1 num) (n+10):=h5.goTo (by show c1.blks.length<(ax c1).blks.length;exact Bg e4)
 have h7:B (fresh (forHead c1 num) bg (S "binary") [S "<",reg pl,reg c.regs.length,ac]) (n+8):=h6.fresh _ _ _
 have h8:B (rngIn c1 num pl (reg c.regs.length)) (n+8):=B.rngIn (n:=n+8) hs _ _ _
 have hn1:ag (Int.ofNat l) (rngIn c1 num pl (reg c.regs.length)).held=none:=by subst hc1;exact hn
 have hn2:ag (Int.ofNat (l+1)) (beginL (rngIn c1 num pl (reg c.regs.length)) l (reg pl)).held=none:=by
  show ag (Int.ofNat (l+1)) (aZ (Int.ofNat l) _ (rngIn c1 num pl (reg c.regs.length)).held)=none
  rw[aA,if_neg (fun q=>by have:=Int.ofNat.inj q;omega)]
  subst hc1;exact hn'
 have q1:=aO (X:=X) (d:=d-1) e _ (om4 hd) hs
 have q2:=aO (X:=X) (d:=d-1) e _ (om4 hd) h1
 have q3:=aO (X:=X) (d:=d-1) e _ (om4 hd) h2
 have q4:=aO (X:=X) (d:=d-1) e _ (om4 hd) h3
 have q5:=tx (X:=X) (d:=d-1) e _ (om9 hd) c1.blks.length h5
 have q6:=d1 (X:=X) (d:=d-1) e (forHead c1 num) (xr hd) bg (S "binary") [S "<",reg pl,reg c.regs.length,ac] (by simp) h6
 have q7:=cv (X:=X) (d:=d-1) e _ (om4 hd) (brT (forHead c1 num).regs.length (b1 c1) (b3 c1)) h7
 have q7':=oT (X:=X) (d:=d-1) e (rngIn c1 num pl (reg c.regs.length)) (EN hd) (reg pl) (lin [_,_] (.c 1 (.a (.a (.v 0) (.n 1)) (.n 1)) (.v 1) .e) (.a (.v 0) (.n 1)) (.v 1) rfl hl) hn1 (h8.mono (lin [_] .e (.n 3) (.a (.v 0) (.n 8)) rfl))
 have h9:B (beginL (rngIn c1 num pl (reg c.regs.length)) l (reg pl)) (n+5):=h8.beginL _ _
 generalize hc7:beginL (rngIn c1 num pl (reg c.regs.length)) l (reg pl)=c7 at *
 have p1:=y5 (X:=X) (d:=d-1) e c7 (om9 hd) [.int 3,ac]
 have p2:=rL (X:=X) (d:=d-1) e c7 (lin [_,_] (.c 1 (.n 9) (.v 1) (.c 1 (.v 1) (.a (.v 0) (.n 1)) .e)) (.n 4) (.v 0) rfl hd (lsa _ _)) pl h9
 have p3:=oT (X:=X) (d:=d-1) e (aQ c7 pl) (EN hd) (reg c7.regs.length) hl hn2 ((B.fresh (n:=n+3) h9 _ _ _).mono EJ)
 have h11:B (goTo c10 (b2 c1)) (m+1):=b10.goTo (BV hb hsl e2)
 have q8:=eQ (X:=X) (d:=d-1) e (beginL (aQ c7 pl) (l+1) (reg c7.regs.length)) (om4 hd) (h10)
 have q9:=tx (X:=X) (d:=d-1) e c10 (om9 hd) (b2 c1) b10
 have q11:=uB (X:=X) (d:=d-1) e (goTo c10 (b2 c1)) (om9 hd) (dP pl) h11
 have q12:=cv (X:=X) (d:=d-1) e _ (om4 hd) (jmp c1.blks.length) (h11.put (dP pl))
 subst hc7
 exact Ok.by (by decide +kernel) (om6 hd) [.call (cOp vThree cH) (enc e c),.call (cOp vThree cH) (enc e c),.call (reg c.regs.length) (enc e (am c)),.call (reg pl) (enc e c1),
   .call (nat c1.blks.length) (enc e (newBlk c1)),.call (nat (newBlk c1).blks.length) (enc e (newBlk (newBlk c1))),.call (nat (newBlk (newBlk c1)).blks.length) (enc e (newBlk (newBlk (newBlk c1)))),.call (nat (newBlk (newBlk (newBlk c1))).blks.length) (enc e (ax c1)),
   .call .none (enc e (forHead c1 num)),.call (reg (forHead c1 num).regs.length) (enc e (fresh (forHead c1 num) bg (S "binary") [S "<",reg pl,reg c.regs.length,ac])),
   .call .none (enc e (close (fresh (forHead c1 num) bg (S "binary") [S "<",reg pl,reg c.regs.length,ac]) (brT (forHead c1 num).regs.length (b1 c1) (b3 c1)))),
   .call .none (enc e (beginL (rngIn c1 num pl (reg c.regs.length)) l (reg pl))),.call vThree (enc e (beginL (rngIn c1 num pl (reg c.regs.length)) l (reg pl))),.call (reg (beginL (rngIn c1 num pl (reg c.regs.length)) l (reg pl)).regs.length) (enc e (aQ (beginL (rngIn c1 num pl (reg c.regs.length)) l (reg pl)) pl)),
   .call .none (enc e (beginL (aQ (beginL (rngIn c1 num pl (reg c.regs.length)) l (reg pl)) pl) (l+1) (reg (beginL (rngIn c1 num pl (reg c.regs.length)) l (reg pl)).regs.length))),
   .call .none (enc e c10),.call .none (enc e (goTo c10 (b2 c1))),.call .none (enc e (put (goTo c10 (b2 c1)) (dP pl))),
   .call .none (enc e (close (put (goTo c10 (b2 c1)) (dP pl)) (jmp c1.blks.length)))]
   (Tn q0 (Tn q0' (Tn q0s (Tn q0'' (Tn q1 (Tn q2 (Tn q3 (Tn q4 (Tn h4.loops (Tn q5 (Tn q6 (Tn q7 (Tn (rfl:Nat.ble 11 500=true) (Tn q7' (Tn p1 (Tn p2 (Tn p3 (Tn q8 (Tn q9 (Tn q11 (Tn q12 (Tn (rfl:Nat.ble 11 500=true) id)))))))))))))))))))))) (by kernel_rfl)
end
structure Ask where
 p:Nat
 op:String
 k:Int
noncomputable def Ask.e(a:Ask):V:=mz a.op (.loc a.p) (.int a.k)
noncomputable def condC(c:Cst)(goal:Nat)(a:Ask):Cst:=setHere (close (bin (newBlk c) a.op (.loc a.p) (.int a.k)) (brT c.regs.length goal c.blks.length)) c.blks.length
noncomputable def condsC(c:Cst)(goal:Nat):List Ask→Cst
 |[]=>c
 |a::as=>condsC (condC c goal a) goal as
inductive Dfl where
 |no
 |zero
 |one
noncomputable def Dfl.v:Dfl→V
 | .no=> .none
 | .zero=> .int 0
 | .one=> .int 1
noncomputable def aP(as:List Ask)(ss:List V)(f:Bool):V:= .tup [.tup (as.map Ask.e),.tup ss,.bool f]
noncomputable def bp(num:Nat)(as1:List Ask)(ss1:List V)(f1:Bool)(as2:List Ask)(ss2:List V)(df:Dfl):V:= .tup [S "switch",.int 0,nat num,.tup [aP as1 ss1 f1,aP as2 ss2 false],df.v]
noncomputable def fJ(st rows df:V)(num g0 g1 bh at':V)(conds stmts falls:V)(l1 l2:LV):Rho:=
 [(x "state",.v stV),(x "statement",.v st),(x "spot",.v (.int 0)),(x "number",.v num),(x "rows",.v rows),(x "default",.v df),(x "goals",.v (.lst [g0,g1])),(x "behind",.v bh),(x "at",.v at'),(x "conditions",.v conds),(x "statements",.v stmts),(x "falls",.v falls),(x "asked",l1),(x "following",l2)]
def bS(l:LV):Prop:=l = .unb∨∃v,l = .v v
noncomputable def Hf:Stmt:=aY (iV (aY (aG 86) 3)) 0
theorem B.condC{c:Cst}{n:Nat}(h:B c (n+3))(goal:Nat)(a:Ask):B (condC c goal a) n:=by
 have h1:B (Mine.newBlk c) (n+2):=h.newBlk
 have h2:B (bin (Mine.newBlk c) a.op (.loc a.p) (.int a.k)) n:=h1.fresh _ _ _
 refine(h2.close _).setHere ?_
 rw[ae,cZ];simp[Mine.newBlk]
theorem B.condsC{n:Nat}(goal:Nat):∀ {as:List Ask} {c:Cst},B c (n+3*as.length)→B (condsC c goal as) n
 |[],c,h=>h
 |a::as,c,h=>B.condsC goal (as:=as) (B.condC (n:=n+3*as.length) ((show n+3*as.length+3=n+3*(a::as).length by simp;exact Dh).symm▸h) goal a)
theorem Ej(c:Cst)(goal:Nat)(a:Ask):(condC c goal a).held=c.held:=rfl
theorem dm(goal:Nat):∀(as:List Ask) (c:Cst),(condsC c goal as).held=c.held
 |[],_=>rfl
 |a::as,c=>by show(condsC (condC c goal a) goal as).held=_;rw[dm goal as];rfl
theorem B6(c:Cst)(goal:Nat)(a:Ask):(condC c goal a).loops=c.loops:=rfl
theorem fu(goal:Nat):∀(as:List Ask) (c:Cst),(condsC c goal as).loops=c.loops
 |[],_=>rfl
 |a::as,c=>by show(condsC (condC c goal a) goal as).loops=_;rw[fu goal as];rfl
theorem mR(c:Cst)(goal:Nat)(a:Ask):(condC c goal a).blks.length=c.blks.length+1:=by
 show(close _ _).blks.length=_
 rw[ae,cZ];simp[newBlk]
theorem bW(goal:Nat):∀(as:List Ask) (c:Cst),(condsC c goal as).blks.length=c.blks.length+as.length
 |[],_=>rfl
 |a::as,c=>by show(condsC (condC c goal a) goal as).blks.length=_;rw[bW goal as,mR];simp;exact qU
section
variable{X:CR}{d n m k':Nat}(e:bX)
theorem lB(hd:8≤d)(st rows df num g0 g1 bh conds stmts falls:V)(items:List V)(i:Nat)(goal:Nat)(hg:(i=0∧g0=nat goal)∨(i=1∧g1=nat goal)):∀(as:List Ask) (c:Cst) (l1 l2:LV),bS l1→bS l2→(∀a∈as,Has c a.p)→B c (n+3*as.length)→
  ∃l1' l2',bS l1'∧bS l2'∧ForR (asgN 9 (iE Hf)) (bP (evN (Ok X d) 38) (cxG 86) (iV Hf)) (cR items none) (as.map Ask.e) (fJ st rows df num g0 g1 bh (nat i) conds stmts falls l1 l2) (enc e c) .next (fJ st rows df num g0 g1 bh (nat i) conds stmts falls l1' l2') (enc e (condsC c goal as))
 |[],c,l1,l2,h1,h2,_,_=>⟨l1,l2,h1,h2,.nil _ _ trivial⟩
 |a::as,c,l1,l2,h1,h2,ha,hb=>by
  have hb0:B c (n+3*as.length+3):=by rw[show n+3*as.length+3=n+3*(a::as).length by simp;exact Dh];exact hb
  obtain⟨l1',l2',o1,o2,r⟩:=lB hd st rows df num g0 g1 bh conds stmts falls items i goal hg as (condC c goal a) (.v a.e) (.v (nat c.blks.length)) (.inr ⟨_,rfl⟩) (.inr ⟨_,rfl⟩) (fun b hb=>ha b (List.mem_cons_of_mem _ hb)) (hb0.condC goal a)
  have hn:B (newBlk c) (n+3*as.length+2):=hb0.newBlk
  have q1:=aO (X:=X) (d:=d) e c (AF hd) hb0
  have q2:=oP (X:=X) (d:=d) e (newBlk c) hd a.op a.p (.int a.k) (ha a List.mem_cons_self) trivial hn
  have q3:=cv (X:=X) (d:=d) e (bin (newBlk c) a.op (.loc a.p) (.int a.k)) (AF hd) (brT c.regs.length goal c.blks.length) (hn.fresh _ _ _)
  refine⟨l1',l2',o1,o2,.step (ρ₀:=fJ st rows df num g0 g1 bh (nat i) conds stmts falls (.v a.e) l2) (ρ₁:=fJ st rows df num g0 g1 bh (nat i) conds stmts falls (.v a.e) (.v (nat c.blks.length))) (st₁:=enc e (condC c goal a)) trivial ?_ ?_ (.inl rfl) r⟩
  ·rcases h1 with rfl|⟨u,rfl⟩<;>rcases h2 with rfl|⟨u,rfl⟩<;>kernel_rfl
  ·refine⟨[.call (nat c.blks.length) (enc e (newBlk c)),.call (reg c.regs.length) (enc e (bin (newBlk c) a.op (.loc a.p) (.int a.k))),.call .none (enc e (close (bin (newBlk c) a.op (.loc a.p) (.int a.k)) (brT c.regs.length goal c.blks.length)))],?_⟩
   have ff:Fl.next=Fl.next∧fJ st rows df num g0 g1 bh (nat i) conds stmts falls (.v a.e) (.v (nat c.blks.length))=fJ st rows df num g0 g1 bh (nat i) conds stmts falls (.v a.e) (.v (nat c.blks.length))∧enc e (condC c goal a)=enc e (condC c goal a):=⟨rfl,rfl,rfl⟩
   rcases hg with ⟨rfl,rfl⟩|⟨rfl,rfl⟩<;>rcases h2 with rfl|⟨u,rfl⟩<;>
   exact evG (And.intro q1 (And.intro q2 (And.intro q3 (And.intro (rfl:Nat.ble 11 500=true) ff)))) (by kernel_rfl)
noncomputable def swHead(c:Cst)(num:Nat):Cst:=setLoop (newBlk (newBlk (newBlk c))) (Int.ofNat num) (.tup [nat (b2 c),.none])
noncomputable def a9(c:Cst)(num:Nat)(as1 as2:List Ask):Cst:=condsC (condsC (swHead c num) c.blks.length as1) (b1 c) as2
noncomputable def hF(c:Cst):Dfl→Nat
 | .no=>b2 c
 | .zero=>c.blks.length
 | .one=>b1 c
noncomputable def swIn(c:Cst)(num:Nat)(as1 as2:List Ask)(df:Dfl):Cst:=setHere (close (a9 c num as1 as2) (jmp (hF c df))) c.blks.length
noncomputable def swMid(c c9:Cst)(f1:Bool):Cst:=setHere (close c9 (jmp (match f1 with|true=>b1 c|false=>b2 c))) (b1 c)
noncomputable def swEnd(c c12:Cst):Cst:=setHere (close c12 (jmp (b2 c))) (b2 c)
theorem B.swHead{c:Cst}(h:B c (n+4))(num:Nat):B (swHead c num) n:=B.setLoop (n:=n) (h.newBlk.newBlk.newBlk) _ _
theorem B.swIn{c:Cst}{num:Nat}{as1 as2:List Ask}(h:B c (n+4+3*as1.length+3*as2.length))(df:Dfl):B (swIn c num as1 as2 df) n:=by
 have h0:B (Mine.swHead c num) (n+3*as1.length+3*as2.length):=B.swHead (n:=n+3*as1.length+3*as2.length) (h.mono Co) num
 have h1:B (Mine.condsC (Mine.swHead c num) c.blks.length as1) (n+3*as2.length):=B.condsC _ (by rw[show n+3*as2.length+3*as1.length=n+3*as1.length+3*as2.length by exact Eg];exact h0)
 have h2:B (a9 c num as1 as2) n:=B.condsC _ h1
 refine(h2.close _).setHere ?_
 rw[ae]
 show c.blks.length<(Mine.condsC (Mine.condsC (Mine.swHead c num) c.blks.length as1) (b1 c) as2).blks.length
 rw[bW,bW]
 show c.blks.length<(Mine.newBlk (Mine.newBlk (Mine.newBlk c))).blks.length+_+_
 simp[Mine.newBlk];exact FD
theorem v5(c:Cst)(hd:9≤d)(num:Nat)(as1 as2:List Ask)(ss1 ss2:List V)(f1:Bool)(df:Dfl)(c9 c12:Cst)(ha1:∀a∈as1,Has c a.p)(ha2:∀a∈as2,Has c a.p)(h:B c (n+4+3*as1.length+3*as2.length))
  (h9:Ok X (d-2) 94 [stV,.tup ss1] (enc e (swIn c num as1 as2 df)) .none (enc e c9)) (b9:B c9 m) (h12:Ok X (d-2) 94 [stV,.tup ss2] (enc e (swMid c c9 f1)) .none (enc e c12)) (b12:B c12 k'):
  Ok X d 86 [stV,bp num as1 ss1 f1 as2 ss2 df] (enc e c) .none (enc e (swEnd c c12)):=by
 have h0:B (swHead c num) (n+3*as1.length+3*as2.length):=B.swHead (n:=n+3*as1.length+3*as2.length) (h.mono Co) num
 have g1:B (newBlk c) (n+3+3*as1.length+3*as2.length):=B.newBlk (h.mono (lin [_,_,_] .e (.a (.a (.a (.a (.v 0) (.n 3)) (.m 3 (.v 1))) (.m 3 (.v 2))) (.n 1)) (.a (.a (.a (.v 0) (.n 4)) (.m 3 (.v 1))) (.m 3 (.v 2))) rfl))
 have g2:B (newBlk (newBlk c)) (n+2+3*as1.length+3*as2.length):=B.newBlk (g1.mono (lin [_,_,_] .e (.a (.a (.a (.a (.v 0) (.n 2)) (.m 3 (.v 1))) (.m 3 (.v 2))) (.n 1)) (.a (.a (.a (.v 0) (.n 3)) (.m 3 (.v 1))) (.m 3 (.v 2))) rfl))
 have g3:B (newBlk (newBlk (newBlk c))) (n+1+3*as1.length+3*as2.length):=B.newBlk (g2.mono (lin [_,_,_] .e (.a (.a (.a (.a (.v 0) (.n 1)) (.m 3 (.v 1))) (.m 3 (.v 2))) (.n 1)) (.a (.a (.a (.v 0) (.n 2)) (.m 3 (.v 1))) (.m 3 (.v 2))) rfl))
 have h1:B (condsC (swHead c num) c.blks.length as1) (n+3*as2.length):=B.condsC _ ((show n+3*as2.length+3*as1.length=n+3*as1.length+3*as2.length by exact Eg).symm▸h0)
 have h2:B (a9 c num as1 as2) n:=B.condsC _ h1
 obtain⟨l1,l2,o1,o2,r1⟩:=lB (X:=X) (d:=d-1) (n:=n+3*as2.length) e (EP hd) (bp num as1 ss1 f1 as2 ss2 df) (.tup [aP as1 ss1 f1,aP as2 ss2 false]) df.v (nat num) (nat c.blks.length) (nat (b1 c)) (nat (b2 c)) (.tup (as1.map Ask.e)) (.tup ss1) (.bool f1) (as1.map Ask.e) 0 c.blks.length (.inl ⟨rfl,rfl⟩) as1 (swHead c num) .unb .unb (.inl rfl) (.inl rfl) ha1
  ((show n+3*as2.length+3*as1.length=n+3*as1.length+3*as2.length by exact Eg).symm▸h0)
 obtain⟨l3,l4,o3,o4,r2⟩:=lB (X:=X) (d:=d-1) (n:=n) e (EP hd) (bp num as1 ss1 f1 as2 ss2 df) (.tup [aP as1 ss1 f1,aP as2 ss2 false]) df.v (nat num) (nat c.blks.length) (nat (b1 c)) (nat (b2 c)) (.tup (as2.map Ask.e)) (.tup ss2) (.bool false) (as2.map Ask.e) 1 (b1 c) (.inr ⟨rfl,rfl⟩) as2 (condsC (swHead c num) c.blks.length as1) l1 l2 o1 o2
  (fun a ha=>by have:=ha2 a ha;unfold Has rg at this ⊢;rw[dm];exact this) h1
 have q1:=aO (X:=X) (d:=d-1) e c (om4 hd) h
 have q2:=aO (X:=X) (d:=d-1) e _ (om4 hd) g1
 have q3:=aO (X:=X) (d:=d-1) e _ (om4 hd) g2
 have q4:=cv (X:=X) (d:=d-1) e (a9 c num as1 as2) (om4 hd) (jmp (hF c df)) h2
 have q5:=eQ (X:=X) (d:=d-1) e (swIn c num as1 as2 df) (om4 hd) ((show d-1-1=d-2 by exact vK).symm▸h9)
 have q6:=cv (X:=X) (d:=d-1) e c9 (om4 hd) (jmp (match f1 with|true=>b1 c|false=>b2 c)) b9
 have q7:=eQ (X:=X) (d:=d-1) e (swMid c c9 f1) (om4 hd) ((show d-1-1=d-2 by exact vK).symm▸h12)
 have q8:=cv (X:=X) (d:=d-1) e c12 (om4 hd) (jmp (b2 c)) b12
 have lo:(newBlk (newBlk (newBlk c))).loops.length≤100000:=g3.loops
 induction f1<;>induction df
 ·exact Ok.by (by decide +kernel) (om6 hd) [.call (nat c.blks.length) (enc e (newBlk c)),.call (nat (b1 c)) (enc e (newBlk (newBlk c))),.call (nat (b2 c)) (enc e (newBlk (newBlk (newBlk c)))),
   .loop 660 .next (fJ (bp num as1 ss1 false as2 ss2 .no) (.tup [aP as1 ss1 false,aP as2 ss2 false]) (Dfl.v .no) (nat num) (nat c.blks.length) (nat (b1 c)) (nat (b2 c)) (nat 0) (.tup (as1.map Ask.e)) (.tup ss1) (.bool false) l1 l2) (enc e (condsC (swHead c num) c.blks.length as1)),.loop 660 .next (fJ (bp num as1 ss1 false as2 ss2 .no) (.tup [aP as1 ss1 false,aP as2 ss2 false]) (Dfl.v .no) (nat num) (nat c.blks.length) (nat (b1 c)) (nat (b2 c)) (nat 1) (.tup (as2.map Ask.e)) (.tup ss2) (.bool false) l3 l4) (enc e (a9 c num as1 as2)),
   .call .none (enc e (close (a9 c num as1 as2) (jmp (hF c .no)))),.call .none (enc e c9),.call .none (enc e (close c9 (jmp (match false with|true=>b1 c|false=>b2 c)))),.call .none (enc e c12),.call .none (enc e (close c12 (jmp (b2 c))))]
    (Tn q1 (Tn q2 (Tn q3 (Tn lo (Tn bB (Tn r1 (Tn r2 (Tn q4 (Tn bB (Tn (rfl:Nat.ble 11 500=true) (Tn q5 (Tn q6 (Tn (rfl:Nat.ble 11 500=true) (Tn q7 (Tn q8 (Tn (rfl:Nat.ble 11 500=true) id)))))))))))))))) (by kernel_rfl)
 ·exact Ok.by (by decide +kernel) (om6 hd) [.call (nat c.blks.length) (enc e (newBlk c)),.call (nat (b1 c)) (enc e (newBlk (newBlk c))),.call (nat (b2 c)) (enc e (newBlk (newBlk (newBlk c)))),
   .loop 660 .next (fJ (bp num as1 ss1 false as2 ss2 .zero) (.tup [aP as1 ss1 false,aP as2 ss2 false]) (Dfl.v .zero) (nat num) (nat c.blks.length) (nat (b1 c)) (nat (b2 c)) (nat 0) (.tup (as1.map Ask.e)) (.tup ss1) (.bool false) l1 l2) (enc e (condsC (swHead c num) c.blks.length as1)),.loop 660 .next (fJ (bp num as1 ss1 false as2 ss2 .zero) (.tup [aP as1 ss1 false,aP as2 ss2 false]) (Dfl.v .zero) (nat num) (nat c.blks.length) (nat (b1 c)) (nat (b2 c)) (nat 1) (.tup (as2.map Ask.e)) (.tup ss2) (.bool false) l3 l4) (enc e (a9 c num as1 as2)),
   .call .none (enc e (close (a9 c num as1 as2) (jmp (hF c .zero)))),.call .none (enc e c9),.call .none (enc e (close c9 (jmp (match false with|true=>b1 c|false=>b2 c)))),.call .none (enc e c12),.call .none (enc e (close c12 (jmp (b2 c))))]
    (Tn q1 (Tn q2 (Tn q3 (Tn lo (Tn bB (Tn r1 (Tn r2 (Tn q4 (Tn bB (Tn (rfl:Nat.ble 11 500=true) (Tn q5 (Tn q6 (Tn (rfl:Nat.ble 11 500=true) (Tn q7 (Tn q8 (Tn (rfl:Nat.ble 11 500=true) id)))))))))))))))) (by kernel_rfl)
 ·exact Ok.by (by decide +kernel) (om6 hd) [.call (nat c.blks.length) (enc e (newBlk c)),.call (nat (b1 c)) (enc e (newBlk (newBlk c))),.call (nat (b2 c)) (enc e (newBlk (newBlk (newBlk c)))),
   .loop 660 .next (fJ (bp num as1 ss1 false as2 ss2 .one) (.tup [aP as1 ss1 false,aP as2 ss2 false]) (Dfl.v .one) (nat num) (nat c.blks.length) (nat (b1 c)) (nat (b2 c)) (nat 0) (.tup (as1.map Ask.e)) (.tup ss1) (.bool false) l1 l2) (enc e (condsC (swHead c num) c.blks.length as1)),.loop 660 .next (fJ (bp num as1 ss1 false as2 ss2 .one) (.tup [aP as1 ss1 false,aP as2 ss2 false]) (Dfl.v .one) (nat num) (nat c.blks.length) (nat (b1 c)) (nat (b2 c)) (nat 1) (.tup (as2.map Ask.e)) (.tup ss2) (.bool false) l3 l4) (enc e (a9 c num as1 as2)),
   .call .none (enc e (close (a9 c num as1 as2) (jmp (hF c .one)))),.call .none (enc e c9),.call .none (enc e (close c9 (jmp (match false with|true=>b1 c|false=>b2 c)))),.call .none (enc e c12),.call .none (enc e (close c12 (jmp (b2 c))))]
    (Tn q1 (Tn q2 (Tn q3 (Tn lo (Tn bB (Tn r1 (Tn r2 (Tn q4 (Tn bB (Tn (rfl:Nat.ble 11 500=true) (Tn q5 (Tn q6 (Tn (rfl:Nat.ble 11 500=true) (Tn q7 (Tn q8 (Tn (rfl:Nat.ble 11 500=true) id)))))))))))))))) (by kernel_rfl)
 ·exact Ok.by (by decide +kernel) (om6 hd) [.call (nat c.blks.length) (enc e (newBlk c)),.call (nat (b1 c)) (enc e (newBlk (newBlk c))),.call (nat (b2 c)) (enc e (newBlk (newBlk (newBlk c)))),
   .loop 660 .next (fJ (bp num as1 ss1 true as2 ss2 .no) (.tup [aP as1 ss1 true,aP as2 ss2 false]) (Dfl.v .no) (nat num) (nat c.blks.length) (nat (b1 c)) (nat (b2 c)) (nat 0) (.tup (as1.map Ask.e)) (.tup ss1) (.bool true) l1 l2) (enc e (condsC (swHead c num) c.blks.length as1)),.loop 660 .next (fJ (bp num as1 ss1 true as2 ss2 .no) (.tup [aP as1 ss1 true,aP as2 ss2 false]) (Dfl.v .no) (nat num) (nat c.blks.length) (nat (b1 c)) (nat (b2 c)) (nat 1) (.tup (as2.map Ask.e)) (.tup ss2) (.bool false) l3 l4) (enc e (a9 c num as1 as2)),
   .call .none (enc e (close (a9 c num as1 as2) (jmp (hF c .no)))),.call .none (enc e c9),.call .none (enc e (close c9 (jmp (match true with|true=>b1 c|false=>b2 c)))),.call .none (enc e c12),.call .none (enc e (close c12 (jmp (b2 c))))]
    (Tn q1 (Tn q2 (Tn q3 (Tn lo (Tn bB (Tn r1 (Tn r2 (Tn q4 (Tn bB (Tn (rfl:Nat.ble 11 500=true) (Tn q5 (Tn q6 (Tn (rfl:Nat.ble 11 500=true) (Tn q7 (Tn q8 (Tn (rfl:Nat.ble 11 500=true) id)))))))))))))))) (by kernel_rfl)
 ·exact Ok.by (by decide +kernel) (om6 hd) [.call (nat c.blks.length) (enc e (newBlk c)),.call (nat (b1 c)) (enc e (newBlk (newBlk c))),.call (nat (b2 c)) (enc e (newBlk (newBlk (newBlk c)))),
   .loop 660 .next (fJ (bp num as1 ss1 true as2 ss2 .zero) (.tup [aP as1 ss1 true,aP as2 ss2 false]) (Dfl.v .zero) (nat num) (nat c.blks.length) (nat (b1 c)) (nat (b2 c)) (nat 0) (.tup (as1.map Ask.e)) (.tup ss1) (.bool true) l1 l2) (enc e (condsC (swHead c num) c.blks.length as1)),.loop 660 .next (fJ (bp num as1 ss1 true as2 ss2 .zero) (.tup [aP as1 ss1 true,aP as2 ss2 false]) (Dfl.v .zero) (nat num) (nat c.blks.length) (nat (b1 c)) (nat (b2 c)) (nat 1) (.tup (as2.map Ask.e)) (.tup ss2) (.bool false) l3 l4) (enc e (a9 c num as1 as2)),
   .call .none (enc e (close (a9 c num as1 as2) (jmp (hF c .zero)))),.call .none (enc e c9),.call .none (enc e (close c9 (jmp (match true with|true=>b1 c|false=>b2 c)))),.call .none (enc e c12),.call .none (enc e (close c12 (jmp (b2 c))))]
    (Tn q1 (Tn q2 (Tn q3 (Tn lo (Tn bB (Tn r1 (Tn r2 (Tn q4 (Tn bB (Tn (rfl:Nat.ble 11 500=true) (Tn q5 (Tn q6 (Tn (rfl:Nat.ble 11 500=true) (Tn q7 (Tn q8 (Tn (rfl:Nat.ble 11 500=true) id)))))))))))))))) (by kernel_rfl)
 ·exact Ok.by (by decide +kernel) (om6 hd) [.call (nat c.blks.length) (enc e (newBlk c)),.call (nat (b1 c)) (enc e (newBlk (newBlk c))),.call (nat (b2 c)) (enc e (newBlk (newBlk (newBlk c)))),
   .loop 660 .next (fJ (bp num as1 ss1 true as2 ss2 .one) (.tup [aP as1 ss1 true,aP as2 ss2 false]) (Dfl.v .one) (nat num) (nat c.blks.length) (nat (b1 c)) (nat (b2 c)) (nat 0) (.tup (as1.map Ask.e)) (.tup ss1) (.bool true) l1 l2) (enc e (condsC (swHead c num) c.blks.length as1)),.loop 660 .next (fJ (bp num as1 ss1 true as2 ss2 .one) (.tup [aP as1 ss1 true,aP as2 ss2 false]) (Dfl.v .one) (nat num) (nat c.blks.length) (nat (b1 c)) (nat (b2 c)) (nat 1) (.tup (as2.map Ask.e)) (.tup ss2) (.bool false) l3 l4) (enc e (a9 c num as1 as2)),
   .call .none (enc e (close (a9 c num as1 as2) (jmp (hF c .one)))),.call .none (enc e c9),.call .none (enc e (close c9 (jmp (match true with|true=>b1 c|false=>b2 c)))),.call .none (enc e c12),.call .none (enc e (close c12 (jmp (b2 c))))]
    (Tn q1 (Tn q2 (Tn q3 (Tn lo (Tn bB (Tn r1 (Tn r2 (Tn q4 (Tn bB (Tn (rfl:Nat.ble 11 500=true) (Tn q5 (Tn q6 (Tn (rfl:Nat.ble 11 500=true) (Tn q7 (Tn q8 (Tn (rfl:Nat.ble 11 500=true) id)))))))))))))))) (by kernel_rfl)
end
inductive Wd where
 |for_
 |ring
 |row
mutual
inductive Row where
 |print (p:Nat)
 |add (p k:Nat)
 |ite (a:Ask) (y n:Rows)
 |jump (br:Bool) (m:Nat)
 |loop (w:Wd) (num l most:Nat) (b:Rows)
 |switch (num l most:Nat) (as1:List Ask) (b1:Rows) (f:Bool) (as2:List Ask) (b2:Rows) (df:Dfl)
inductive Rows where
 |nil
 |cons (r:Row) (rs:Rows)
end
noncomputable def Rows.opt:Rows→List V→Option (List V)
 | .nil,_=>none
 | .cons _ _,l=>some l
noncomputable def G7(num l:Nat)(ss:List V):V:= .tup [S "range",.int 0,nat num,S "array",.tup [fe l,fe (l+1)],eC vThree cH,cN ss]
mutual
noncomputable def Row.t:Row→V
 | .print p=>bF [p]
 | .add p k=>iX p (Int.ofNat k)
 | .ite a y n=> .tup [S "if",.int 0,a.e,cN y.ts,pj (n.opt n.ts)]
 | .jump true m=> .tup [S "break",.int 0,nat m]
 | .jump false m=> .tup [S "continue",.int 0,nat m]
 | .loop .for_ num l most b=>cN [zM l,Ec num l (Int.ofNat most) (bF [l]::b.ts)]
 | .loop .ring num l most b=>Dk num l (Int.ofNat most) (bF [l]::b.ts)
 | .loop .row num l _ b=>G7 num l (bF [l,l+1]::b.ts)
 | .switch num _ _ as1 b1 f as2 b2 df=>bp num as1 b1.ts f as2 b2.ts df
noncomputable def Rows.ts:Rows→List V
 | .nil=>[]
 | .cons r rs=>r.t::rs.ts
end
noncomputable def aB(c:Cst)(m:Nat):Nat:=match ag (Int.ofNat m) c.loops with
 |some (.tup [.int (.ofNat b),_])=>b
 |_=>0
noncomputable def aE(c:Cst)(m:Nat):Nat:=match ag (Int.ofNat m) c.loops with
 |some (.tup [_,.int (.ofNat b)])=>b
 |_=>0
noncomputable def jN(c:Cst)(l:Nat):Cst:=put c (aK [rg c l])
noncomputable def B5(c:Cst)(l:Nat):Cst:=put c (aK [rg c l,rg c (l+1)])
noncomputable def for0(c:Cst)(num l most:Nat):Cst:=jN (eV (beginL c l (cOp ac (.int 0))) num l (Int.ofNat most)) l
noncomputable def ring0(c:Cst)(num l most:Nat):Cst:=jN (beginL (rngIn (aa c) num c.regs.length (cOp ac (.int (Int.ofNat most)))) l (reg c.regs.length)) l
noncomputable def cg(c:Cst)(num l:Nat):Cst:=B5 (mS c num l) l
mutual
noncomputable def Row.c:Row→Cst→Cst
 | .print p,c=>jN c p
 | .add p k,c=>fB c p (Int.ofNat k)
 | .ite a y n,c=>goTo (n.c (ifMid c (y.c (ifHead c a.op a.p a.k)))) (b2 c)
 | .jump true m,c=>endB c (jmp (aB c m))
 | .jump false m,c=>endB c (jmp (aE c m))
 | .loop .for_ num l most b,c=>forEnd (beginL c l (cOp ac (.int 0))) (b.c (for0 c num l most)) l
 | .loop .ring num l most b,c=>rngEnd (aa c) (b.c (ring0 c num l most)) c.regs.length
 | .loop .row num l _ b,c=>rngEnd (aa (am c)) (b.c (cg c num l)) (c.regs.length+1)
 | .switch num _ _ as1 b1 f as2 b2 df,c=>swEnd c (b2.c (swMid c (b1.c (swIn c num as1 as2 df)) f))
noncomputable def Rows.c:Rows→Cst→Cst
 | .nil,c=>c
 | .cons r rs,c=>rs.c (r.c c)
end
mutual
noncomputable def Row.cost:Row→Nat
 | .print _=>1
 | .add _ _=>3
 | .ite _ y n=>5+y.cost+n.cost
 | .jump _ _=>1
 | .loop _ _ _ _ b=>20+b.cost+1
 | .switch _ _ _ as1 b1 _ as2 b2 _=>4+3*as1.length+3*as2.length+b1.cost+b2.cost
noncomputable def Rows.cost:Rows→Nat
 | .nil=>0
 | .cons r rs=>r.cost+rs.cost
end
mutual
noncomputable def Row.dep:Row→Nat
 | .ite _ y n=>max y.dep n.dep+1
 | .loop _ _ _ _ b=>b.dep+1
 | .switch _ _ _ _ b1 _ _ b2 _=>max b1.dep b2.dep+1
 |_=>0
noncomputable def Rows.dep:Rows→Nat
 | .nil=>0
 | .cons r rs=>max r.dep rs.dep
end
theorem Fp(c:Cst)(i:V):(put c i).blks.length=c.blks.length:=ak c i
theorem bf(c:Cst)(t w:V)(r:List V):(fresh c t w r).blks.length=c.blks.length:=by simp[fresh,ak,newReg]
theorem bC(c:Cst)(l:Nat)(o:V):(beginL c l o).blks.length=c.blks.length:=by simp[beginL,ak,take,setHeld,newReg]
theorem gI(c:Cst)(p:Nat)(k:Int):(fB c p k).blks.length=c.blks.length:=by unfold fB;rw[ak,bf]
theorem cK(c:Cst)(b:Nat):(goTo c b).blks.length=c.blks.length:=ae c _
theorem fm(c:Cst)(op:String)(p:Nat)(k:Int):(ifHead c op p k).blks.length=c.blks.length+3:=by
 show(close _ _).blks.length=_
 rw[ae,cZ];simp[newBlk]
theorem jd(c c5:Cst):(ifMid c c5).blks.length=c5.blks.length:=ae c5 _
theorem mq(c:Cst)(num l most:Nat):(for0 c num l most).blks.length=c.blks.length+4:=by
 unfold for0 jN;rw[ak,nF,bC]
theorem gK(c:Cst)(num l most:Nat):(ring0 c num l most).blks.length=c.blks.length+4:=by
 unfold ring0 jN;rw[ak,bC,nO];unfold aa;rw[bf]
theorem i6(c:Cst)(num l:Nat):(cg c num l).blks.length=c.blks.length+4:=by
 unfold cg B5 mS
 rw[ak,bC]
 unfold aQ
 rw[bf,bC,nO]
 unfold aa am
 rw[bf,bf]
theorem ir(c c10:Cst)(l:Nat):(forEnd c c10 l).blks.length=c10.blks.length:=by
 show(close _ _).blks.length=_
 rw[ae,gI,cK]
theorem cU(c c10:Cst)(l:Nat):(rngEnd c c10 l).blks.length=c10.blks.length:=by
 show(close _ _).blks.length=_
 rw[ae,ak,cK]
theorem iR(c:Cst)(num:Nat)(as1 as2:List Ask)(df:Dfl):(swIn c num as1 as2 df).blks.length=c.blks.length+3+as1.length+as2.length:=by
 show(close _ _).blks.length=_
 rw[ae]
 unfold a9
 rw[bW,bW]
 show(newBlk (newBlk (newBlk c))).blks.length+_+_=_
 simp[newBlk]
theorem jg(c c9:Cst)(f:Bool):(swMid c c9 f).blks.length=c9.blks.length:=ae c9 _
theorem jk(c c12:Cst):(swEnd c c12).blks.length=c12.blks.length:=ae c12 _
theorem B.for0{c:Cst}{n:Nat}(h:B c (n+11))(num l most:Nat):B (for0 c num l most) n:=(B.forIn (n:=n+1) (h.beginL l _) num l _).put _
theorem B.ring0{c:Cst}{n:Nat}(h:B c (n+13))(num l most:Nat):B (ring0 c num l most) n:=by
 have hs:B (aa c) (n+11):=h.fresh _ _ _
 exact((B.rngIn (n:=n+4) hs num _ _).beginL l _).put _
theorem B.row0{c:Cst}{n:Nat}(h:B c (n+20))(num l:Nat):B (cg c num l) n:=by
 have hz:B (am c) (n+18):=h.fresh _ _ _
 have hs:B (aa (am c)) (n+16):=hz.fresh _ _ _
 have h7:=(B.rngIn (n:=n+9) hs num (c.regs.length+1) (reg c.regs.length)).beginL l (reg (c.regs.length+1))
 exact((B.fresh (n:=n+4) h7 _ _ _).beginL (l+1) _).put _
theorem B.ifMid{c c5:Cst}{n:Nat}(h:B c5 n)(hl:c.blks.length+3≤c5.blks.length):B (ifMid c c5) n:=(h.close _).setHere (by rw[ae];simp[Mine.newBlk];exact lin [_,_] (.c 1 (.a (.v 0) (.n 3)) (.v 1) .e) (.a (.a (.v 0) (.n 1)) (.n 1)) (.v 1) rfl hl)
theorem B.forEnd{c c10:Cst}{n:Nat}(h:B c10 (n+3))(l:Nat)(hl:c.blks.length+4≤c10.blks.length):B (forEnd c c10 l) n:=by
 obtain⟨e1,e2,e3,e4⟩:=aq c
 have h11:B (Mine.goTo c10 (b2 c)) (n+3):=h.goTo (yr hl e2)
 have h12:B (fB (Mine.goTo c10 (b2 c)) l 1) n:=(B.fresh (n:=n+1) h11 _ _ _).put _
 exact(h12.close _).setHere (by rw[ae,gI,cK];exact FQ hl e3)
theorem B.rngEnd{c c10:Cst}{n:Nat}(h:B c10 (n+1))(pl:Nat)(hl:c.blks.length+4≤c10.blks.length):B (rngEnd c c10 pl) n:=by
 obtain⟨e1,e2,e3,e4⟩:=aq c
 have h11:B (Mine.goTo c10 (b2 c)) (n+1):=h.goTo (yr hl e2)
 exact((h11.put (dP pl)).close _).setHere (by rw[ae,ak,cK];exact FQ hl e3)
theorem B.swMid{c c9:Cst}{n:Nat}(h:B c9 n)(f:Bool)(hl:c.blks.length+3≤c9.blks.length):B (swMid c c9 f) n:=(h.close _).setHere (by rw[ae];have:=(aq c).1;exact GK hl this)
theorem B.swEnd{c c12:Cst}{n:Nat}(h:B c12 n)(hl:c.blks.length+3≤c12.blks.length):B (swEnd c c12) n:=(h.close _).setHere (by rw[ae];have:=(aq c).2.1;exact EI hl this)
mutual
theorem Row.room:∀(r:Row) {c:Cst} {n:Nat},B c (r.cost+n)→B (r.c c) n∧c.blks.length≤(r.c c).blks.length
 | .print p,c,n,h=>by
  unfold Row.c jN
  exact⟨B.put (h.mono z7) _,by rw[ak];exact Nat.le_refl _⟩
 | .add p k,c,n,h=>by
  unfold Row.c
  exact⟨(B.fresh (n:=n+1) (h.mono (lin [_] .e (.a (.a (.v 0) (.n 1)) (.n 2)) (.a (.n 3) (.v 0)) rfl)) _ _ _).put _,by rw[gI];exact Nat.le_refl _⟩
 | .ite a y z,c,n,h=>by
  unfold Row.c
  have h1:B (ifHead c a.op a.p a.k) (y.cost+(z.cost+n)):=B.ifHead (h.mono Hk) _ _ _
  obtain⟨h2,l2⟩:=y.room h1
  rw[fm] at l2
  have h3:B (ifMid c (y.c (ifHead c a.op a.p a.k))) (z.cost+n):=h2.ifMid (D0 l2)
  obtain⟨h4,l4⟩:=z.room h3
  rw[jd] at l4
  exact⟨h4.goTo (by have:=(aq c).2.1;exact FB l2 l4 this),by rw[cK];exact He l2 l4⟩
 | .jump br m,c,n,h=>by
  unfold Row.cost at h
  have:∀t,B (endB c t) n∧c.blks.length≤(endB c t).blks.length:=fun t=>⟨B.endB (h.mono z7) t,by simp[endB,newBlk,ae]⟩
  induction br<;>exact this _
 | .loop .for_ num l most b,c,n,h=>by
  unfold Row.c
  have h1:B (for0 c num l most) (b.cost+(n+3)):=B.for0 (h.mono Ga) _ _ _
  obtain⟨h2,l2⟩:=b.room h1
  rw[mq] at l2
  exact⟨h2.forEnd l (by rw[bC];exact qj l2),by rw[ir];exact yN l2⟩
 | .loop .ring num l most b,c,n,h=>by
  unfold Row.c
  have h1:B (ring0 c num l most) (b.cost+(n+1)):=B.ring0 (h.mono F9) _ _ _
  obtain⟨h2,l2⟩:=b.room h1
  rw[gK] at l2
  exact⟨h2.rngEnd _ (by unfold aa;rw[bf];exact qj l2),by rw[cU];exact yN l2⟩
 | .loop .row num l most b,c,n,h=>by
  unfold Row.c
  have h1:B (cg c num l) (b.cost+(n+1)):=B.row0 (h.mono FZ) _ _
  obtain⟨h2,l2⟩:=b.room h1
  rw[i6] at l2
  exact⟨h2.rngEnd _ (by unfold aa am;rw[bf,bf];exact qj l2),by rw[cU];exact yN l2⟩
 | .switch num l most as1 y f as2 z df,c,n,h=>by
  unfold Row.c
  have h1:B (swIn c num as1 as2 df) (y.cost+(z.cost+n)):=B.swIn (h.mono Hl) df
  obtain⟨h2,l2⟩:=y.room h1
  rw[iR] at l2
  have h3:B (swMid c (y.c (swIn c num as1 as2 df)) f) (z.cost+n):=h2.swMid f (Ei l2)
  obtain⟨h4,l4⟩:=z.room h3
  rw[jg] at l4
  exact⟨h4.swEnd (Fj l2 l4),by rw[jk];exact Fo l2 l4⟩
theorem Rows.room:∀(r:Rows) {c:Cst} {n:Nat},B c (r.cost+n)→B (r.c c) n∧c.blks.length≤(r.c c).blks.length
 | .nil,c,n,h=>⟨h.mono qe,Nat.le_refl _⟩
 | .cons r rs,c,n,h=>by
  obtain⟨h1,l1⟩:=r.room (n:=rs.cost+n) (h.mono EY)
  obtain⟨h2,l2⟩:=rs.room h1
  exact⟨h2,ltr l1 l2⟩
end
def Ask.ok(a:Ask):Prop:=a.p<3∧(a.op="<"∨a.op="=="∨a.op=">=")
mutual
def Row.wf(many:Nat):List (Nat×Bool)→Row→Nat→Nat→Nat→Nat→Prop
 |_,.print p,a,b,a',b'=>p<3∧a'=a∧b'=b
 |_,.add p _,a,b,a',b'=>p<3∧a'=a∧b'=b
 |o,.ite q y n,a,b,a',b'=>q.ok∧∃a1 b1,y.wf many o a b a1 b1∧n.wf many o a1 b1 a' b'
 |o,.jump br m,a,b,a',b'=>(∃s,(m,s)∈o∧(br=false→s=true))∧a'=a∧b'=b
 |o,.loop _ num l most y,a,b,a',b'=>a≤num∧b≤l∧l+2≤many∧most≤3∧y.wf many ((num,true)::o) (num+1) (l+2) a' b'
 |o,.switch num l _ as1 y _ as2 z _,a,b,a',b'=>a≤num∧b≤l∧(∀q∈as1,q.ok)∧(∀q∈as2,q.ok)∧as1.length≤2∧as2.length≤2∧∃a1 b1,y.wf many ((num,false)::o) (num+1) (l+2) a1 b1∧z.wf many ((num,false)::o) a1 b1 a' b'
def Rows.wf(many:Nat):List (Nat×Bool)→Rows→Nat→Nat→Nat→Nat→Prop
 |_,.nil,a,b,a',b'=>a'=a∧b'=b
 |o,.cons r rs,a,b,a',b'=>∃a1 b1,r.wf many o a b a1 b1∧rs.wf many o a1 b1 a' b'
end
def E1(c:Cst)(b:Nat):Prop:=∀l,b≤l→ag (Int.ofNat l) c.held=none
structure Keeps(c c':Cst)(a b a' b':Nat):Prop where
 la:a≤a'
 lb:b≤b'
 held:∀l,l<b→ag (Int.ofNat l) c'.held=ag (Int.ofNat l) c.held
 loops:∀m,m<a→ag (Int.ofNat m) c'.loops=ag (Int.ofNat m) c.loops
 free:E1 c b→E1 c' b'
theorem Keeps.same{c c':Cst}(a b:Nat)(h:c'.held=c.held)(l:c'.loops=c.loops):Keeps c c' a b a b:=⟨Nat.le_refl _,Nat.le_refl _,fun _ _=>by rw[h],fun _ _=>by rw[l],fun f x hx=>by rw[h];exact f x hx⟩
theorem Keeps.trans{c c' c'':Cst}{a b a1 b1 a' b':Nat}(h:Keeps c c' a b a1 b1)(k:Keeps c' c'' a1 b1 a' b'):Keeps c c'' a b a' b':=
 ⟨ltr h.la k.la,ltr h.lb k.lb,fun l hl=>(k.held l (Nat.lt_of_lt_of_le hl h.lb)).trans (h.held l hl),fun m hm=>(k.loops m (Nat.lt_of_lt_of_le hm h.la)).trans (h.loops m hm),fun f=>k.free (h.free f)⟩
theorem aT{a b:Nat}(h:a≠b):¬Int.ofNat a=Int.ofNat b:=fun q=>h (Int.ofNat.inj q)
theorem Keeps.begin(c:Cst)(l:Nat)(o:V){a b:Nat}(h:b≤l):Keeps c (beginL c l o) a b a (l+1):=by
 have e:(beginL c l o).held=aZ (Int.ofNat l) (nat c.regs.length) c.held:=rfl
 refine⟨Nat.le_refl _,v0 h,fun x hx=> ?_,fun _ _=>rfl,fun f x hx=> ?_⟩
 ·rw[e,aA,if_neg (aT (B1 h hx))]
 ·rw[e,aA,if_neg (aT (FO hx))];exact f x (Hb h hx)
theorem Keeps.loop{c c':Cst}{num:Nat}{v:V}{a b:Nat}(h:c'.held=c.held)(l:c'.loops=aZ (Int.ofNat num) v c.loops)(ha:a≤num):Keeps c c' a b (num+1) b:=
 ⟨v0 ha,Nat.le_refl _,fun _ _=>by rw[h],fun x hx=>by rw[l,aA,if_neg (aT (B1 ha hx))],fun f x hx=>by rw[h];exact f x hx⟩
theorem Keeps.weak{c c':Cst}{a b a' b' b2:Nat}(h:Keeps c c' a b a' b')(l:b'≤b2):Keeps c c' a b a' b2:=⟨h.la,ltr h.lb l,h.held,h.loops,fun f x hx=>h.free f x (ltr l hx)⟩
theorem iD(c:Cst)(num l most:Nat){a b:Nat}(ha:a≤num)(hb:b≤l):Keeps c (for0 c num l most) a b (num+1) (l+2):=
 ((Keeps.begin c l (cOp ac (.int 0)) hb).trans (Keeps.loop (c':=for0 c num l most) (num:=num) (v:=dQ (beginL c l (cOp ac (.int 0)))) rfl rfl ha)).weak CF
theorem f7(c:Cst)(num l most:Nat){a b:Nat}(ha:a≤num)(hb:b≤l):Keeps c (ring0 c num l most) a b (num+1) (l+2):=
 have k1:Keeps c (rngIn (aa c) num c.regs.length (cOp ac (.int (Int.ofNat most)))) a b (num+1) b:=Keeps.loop (num:=num) (v:=dQ (aa c)) rfl rfl ha
 have k2:=Keeps.begin (rngIn (aa c) num c.regs.length (cOp ac (.int (Int.ofNat most)))) l (reg c.regs.length) (a:=num+1) hb
 ((k1.trans k2).trans (.same (c':=ring0 c num l most) _ _ rfl rfl)).weak CF
theorem iu(c:Cst)(num l:Nat){a b:Nat}(ha:a≤num)(hb:b≤l):Keeps c (cg c num l) a b (num+1) (l+2):=
 have k1:Keeps c (rngIn (aa (am c)) num (c.regs.length+1) (reg c.regs.length)) a b (num+1) b:=Keeps.loop (num:=num) (v:=dQ (aa (am c))) rfl rfl ha
 have k2:=Keeps.begin (rngIn (aa (am c)) num (c.regs.length+1) (reg c.regs.length)) l (reg (c.regs.length+1)) (a:=num+1) hb
 have k3:Keeps _ (aQ (beginL (rngIn (aa (am c)) num (c.regs.length+1) (reg c.regs.length)) l (reg (c.regs.length+1))) (c.regs.length+1)) (num+1) (l+1) (num+1) (l+1):=(Keeps.same (c:=beginL (rngIn (aa (am c)) num (c.regs.length+1) (reg c.regs.length)) l (reg (c.regs.length+1))) _ _ rfl rfl)
 have k4:=Keeps.begin (aQ (beginL (rngIn (aa (am c)) num (c.regs.length+1) (reg c.regs.length)) l (reg (c.regs.length+1))) (c.regs.length+1)) (l+1) (reg (beginL (rngIn (aa (am c)) num (c.regs.length+1) (reg c.regs.length)) l (reg (c.regs.length+1))).regs.length) (a:=num+1) (b:=l+1) (Nat.le_refl _)
 (((k1.trans k2).trans k3).trans k4).trans (.same (c':=cg c num l) _ _ rfl rfl)
theorem jz(c:Cst)(num:Nat)(as1 as2:List Ask)(df:Dfl):(swIn c num as1 as2 df).held=c.held:=by
 show(condsC (condsC (swHead c num) c.blks.length as1) (b1 c) as2).held=_
 rw[dm,dm];rfl
theorem dN(c:Cst)(num:Nat)(as1 as2:List Ask)(df:Dfl):(swIn c num as1 as2 df).loops=aZ (Int.ofNat num) (.tup [nat (b2 c),.none]) c.loops:=by
 show(condsC (condsC (swHead c num) c.blks.length as1) (b1 c) as2).loops=_
 rw[fu,fu];rfl
mutual
theorem Row.keeps(many:Nat):∀(r:Row) (o:List (Nat×Bool)) (a b a' b':Nat) (c:Cst),r.wf many o a b a' b'→Keeps c (r.c c) a b a' b'
 | .print p,o,a,b,a',b',c,h=>by obtain⟨_,rfl,rfl⟩:=h;exact .same _ _ rfl rfl
 | .add p k,o,a,b,a',b',c,h=>by obtain⟨_,rfl,rfl⟩:=h;exact .same _ _ rfl rfl
 | .jump br m,o,a,b,a',b',c,h=>by obtain⟨_,rfl,rfl⟩:=h;induction br<;>exact .same _ _ rfl rfl
 | .ite q y n,o,a,b,a',b',c,h=>by
  obtain⟨_,a1,b1,hy,hn⟩:=h
  have k1:=y.keeps many o a b a1 b1 (ifHead c q.op q.p q.k) hy
  have k2:=n.keeps many o a1 b1 a' b' (ifMid c (y.c (ifHead c q.op q.p q.k))) hn
  exact(Keeps.same (c:=c) (c':=ifHead c q.op q.p q.k) _ _ rfl rfl).trans (k1.trans ((Keeps.same (c:=y.c (ifHead c q.op q.p q.k)) (c':=ifMid c (y.c (ifHead c q.op q.p q.k))) _ _ rfl rfl).trans (k2.trans (Keeps.same (c':=goTo (n.c (ifMid c (y.c (ifHead c q.op q.p q.k)))) (b2 c)) _ _ rfl rfl))))
 | .loop .for_ num l most y,o,a,b,a',b',c,h=>by
  obtain⟨ha,hb,_,_,hy⟩:=h
  exact(iD c num l most ha hb).trans ((y.keeps many _ _ _ _ _ (for0 c num l most) hy).trans (.same _ _ rfl rfl))
 | .loop .ring num l most y,o,a,b,a',b',c,h=>by
  obtain⟨ha,hb,_,_,hy⟩:=h
  exact(f7 c num l most ha hb).trans ((y.keeps many _ _ _ _ _ (ring0 c num l most) hy).trans (.same _ _ rfl rfl))
 | .loop .row num l most y,o,a,b,a',b',c,h=>by
  obtain⟨ha,hb,_,_,hy⟩:=h
  exact(iu c num l ha hb).trans ((y.keeps many _ _ _ _ _ (cg c num l) hy).trans (.same _ _ rfl rfl))
 | .switch num l most as1 y f as2 z df,o,a,b,a',b',c,h=>by
  obtain⟨ha,hb,_,_,_,_,a1,b1,hy,hz⟩:=h
  have k0:Keeps c (swIn c num as1 as2 df) a b (num+1) (l+2):=(Keeps.loop (jz ..) (dN ..) ha).weak (Au hb)
  have k1:=y.keeps many _ _ _ _ _ (swIn c num as1 as2 df) hy
  have k2:=z.keeps many _ _ _ _ _ (swMid c (y.c (swIn c num as1 as2 df)) f) hz
  exact k0.trans (k1.trans ((Keeps.same (c:=y.c (swIn c num as1 as2 df)) (c':=swMid c (y.c (swIn c num as1 as2 df)) f) _ _ rfl rfl).trans (k2.trans (Keeps.same (c':=swEnd c (z.c (swMid c (y.c (swIn c num as1 as2 df)) f))) _ _ rfl rfl))))
theorem Rows.keeps(many:Nat):∀(r:Rows) (o:List (Nat×Bool)) (a b a' b':Nat) (c:Cst),r.wf many o a b a' b'→Keeps c (r.c c) a b a' b'
 | .nil,o,a,b,a',b',c,h=>by obtain⟨rfl,rfl⟩:=h;exact .same _ _ rfl rfl
 | .cons r rs,o,a,b,a',b',c,h=>by
  obtain⟨a1,b1,h1,h2⟩:=h
  exact(r.keeps many o a b a1 b1 c h1).trans (rs.keeps many o a1 b1 a' b' (r.c c) h2)
end
def Opn(c:Cst)(o:List (Nat×Bool)):Prop:=∀m s,(m,s)∈o→∃v,ag (Int.ofNat m) c.loops=some (.tup [nat (aB c m),v])∧(s=true→v=nat (aE c m))
structure St1(many:Nat)(c:Cst)(o:List (Nat×Bool))(a b:Nat):Prop where
 three:3≤b
 has:∀p,p<3→Has c p
 free:E1 c b
 opn:Opn c o
 low:∀m s,(m,s)∈o→m<a
theorem kB{c c':Cst}{l:Nat}(e:ag (Int.ofNat l) c'.held=ag (Int.ofNat l) c.held)(h:Has c l):Has c' l∧rg c' l=rg c l:=by
 have:rg c' l=rg c l:=by unfold rg;rw[e]
 exact⟨by unfold Has at h ⊢;rw[this,e];exact h,this⟩
theorem jw{c c':Cst}{m:Nat}(e:ag (Int.ofNat m) c'.loops=ag (Int.ofNat m) c.loops):aB c' m=aB c m∧aE c' m=aE c m:=by
 unfold aB aE;rw[e];exact⟨rfl,rfl⟩
theorem St1.next{many:Nat}{c c':Cst}{o:List (Nat×Bool)}{a b a' b':Nat}(h:St1 many c o a b)(k:Keeps c c' a b a' b'):St1 many c' o a' b':=
 ⟨ltr h.three k.lb,fun p hp=>(kB (k.held p (by have:=h.three;exact lin [_,_] (.c 1 (.a (.v 0) (.n 1)) (.n 3) (.c 1 (.n 3) (.v 1) .e)) (.a (.v 0) (.n 1)) (.v 1) rfl hp this)) (h.has p hp)).1,k.free h.free,fun m s hm=>by
  obtain⟨v,h1,h2⟩:=h.opn m s hm
  have e:=k.loops m (h.low m s hm)
  obtain⟨e1,e2⟩:=jw e
  exact⟨v,by rw[e,e1];exact h1,by rw[e2];exact h2⟩,fun m s hm=>Nat.lt_of_lt_of_le (h.low m s hm) k.la⟩
set_option tactic.hygienic true in
theorem St1.push{many:Nat}{c c':Cst}{o:List (Nat×Bool)}{a b b' num:Nat}{s:Bool}{bk:Nat}{v:V}(h:St1 many c o a b)(k:Keeps c c' a b (num+1) b')(e:ag (Int.ofNat num) c'.loops=some (.tup [nat bk,v]))(hs:s=true→∃ct,v=nat ct)(ha:a≤num):St1 many c' ((num,s)::o) (num+1) b':=by
 have h':=h.next k
 refine⟨h'.three,h'.has,h'.free,fun m t hm=> ?_,fun m t hm=> ?_⟩
 ·rcases List.mem_cons.mp hm with q|q
  ·cases q
   refine⟨v,?_,fun q=> ?_⟩
   ·rw[e];unfold aB;rw[e];rfl
   ·obtain⟨ct,rfl⟩:=hs q
    unfold aE;rw[e];rfl
  ·exact h'.opn m t q
 ·rcases List.mem_cons.mp hm with q|q
  ·cases q;exact Do
  ·have:=h.low m t q;omega
theorem bj(num:Nat)(v:V)(l:List (Int×V)):ag (Int.ofNat num) (aZ (Int.ofNat num) v l)=some v:=by rw[aA,if_pos rfl]
section
variable{X:CR}(e:bX)
theorem lJ(c:Cst)(num l most:Nat):Has (for0 c num l most) l∧rg (for0 c num l most) l=c.regs.length:=⟨dS c l,iH c l⟩
mutual
theorem Row.okc:∀(r:Row) (o:List (Nat×Bool)) (a b a' b' n d:Nat) (c:Cst),r.wf e.many o a b a' b'→St1 e.many c o a b→B c (r.cost+n)→12+8*r.dep≤d→Ok X d 95 [stV,r.t] (enc e c) .none (enc e (r.c c))
 | .print p,o,a,b,a',b',n,d,c,h,s,hb,hd=>by
  exact bR e c (Dm hd) "do" _ _ (.inr (.inr rfl)) (uA e c (lin [_,_] (.c 1 (.a (.n 12) (.m 8 (.n 0))) (.v 1) (.c 1 (.v 1) (.a (.v 0) (.n 1)) .e)) (.n 3) (.v 0) rfl hd (lsa _ _)) [p] (fX e c (lin [_,_,_] (.c 1 (.a (.n 12) (.m 8 (.n 0))) (.v 1) (.c 1 (.v 2) (.a (.v 0) (.n 3)) (.c 1 (.v 1) (.a (.v 2) (.n 1)) .e))) (.n 5) (.v 0) rfl hd (lsa _ _) (lsa _ _)) (s.has p h.1) hb))
 | .add p k,o,a,b,a',b',n,d,c,h,s,hb,hd=>by
  exact bR e c (Dm hd) "update" _ _ (.inl rfl) (zx e c (lin [_,_] (.c 1 (.a (.n 12) (.m 8 (.n 0))) (.v 1) (.c 1 (.v 1) (.a (.v 0) (.n 1)) .e)) (.n 5) (.v 0) rfl hd (lsa _ _)) _ (s.has p h.1) (hb.mono (lin [_] .e (.n 3) (.a (.n 3) (.v 0)) rfl)))
 | .jump true m,o,a,b,a',b',n,d,c,h,s,hb,hd=>by
  obtain⟨⟨t,ht,_⟩,_⟩:=h
  obtain⟨v,h1,_⟩:=s.opn m t ht
  exact sx e c (Ce hd) m _ v h1 hb
 | .jump false m,o,a,b,a',b',n,d,c,h,s,hb,hd=>by
  obtain⟨⟨t,ht,ht2⟩,_⟩:=h
  obtain⟨v,h1,h2⟩:=s.opn m t ht
  rw[h2 (ht2 rfl)] at h1
  exact v3 e c (Ce hd) m _ _ h1 hb
 | .ite q y z,o,a,b,a',b',n,d,c,h,s,hb,hd=>by
  obtain⟨hq,a1,b1',hy,hz⟩:=h
  have h1:B (ifHead c q.op q.p q.k) (y.cost+(z.cost+n)):=B.ifHead (hb.mono Hk) _ _ _
  obtain⟨h2,l2⟩:=y.room h1
  rw[fm] at l2
  have h3:B (ifMid c (y.c (ifHead c q.op q.p q.k))) (z.cost+n):=h2.ifMid (D0 l2)
  have s1:St1 e.many (ifHead c q.op q.p q.k) o a b:=s.next (.same _ _ rfl rfl)
  have s2:=s1.next (y.keeps e.many o a b a1 b1' _ hy)
  have s3:St1 e.many (ifMid c (y.c (ifHead c q.op q.p q.k))) o a1 b1':=s2.next (.same _ _ rfl rfl)
  have zk:=fun d'=>z.okc o a1 b1' a' b' n d' _ hz s3 h3
  refine Ab e c (B7 hd) _ _ (FM (n:=0) e c (C5 hd) q.op q.k y.ts (z.opt z.ts) (y.c (ifHead c q.op q.p q.k)) (z.c (ifMid c (y.c (ifHead c q.op q.p q.k)))) (s.has q.p hq.1) (hb.mono GT) (be (B3 hd) (y.okc o a b a1 b1' (z.cost+n) _ _ hy s1 h1 (GI hd))) h2 ?_ (z.room h3).1)
  cases z with
  |nil=>rfl
  |cons r rs=>exact be (B3 hd) (zk _ (F7 hd))
 | .loop .for_ num l most y,o,a,b,a',b',n,d,c,h,s,hb,hd=>by
  obtain⟨ha,hbl,hm,_,hy⟩:=h
  have hc1:B (beginL c l (cOp ac (.int 0))) (y.cost+n+18):=B.beginL (hb.mono (lin [_,_] .e (.a (.a (.a (.v 0) (.v 1)) (.n 18)) (.n 3)) (.a (.a (.a (.n 20) (.v 0)) (.n 1)) (.v 1)) rfl)) _ _
  have h0:B (eV (beginL c l (cOp ac (.int 0))) num l (Int.ofNat most)) (y.cost+n+11):=B.forIn (n:=y.cost+n+11) hc1 _ _ _
  have h1:B (for0 c num l most) (y.cost+(n+3)):=B.for0 (hb.mono Ga) _ _ _
  obtain⟨h2,l2⟩:=y.room h1
  rw[mq] at l2
  have k0:=iD c num l most ha hbl
  have s1:St1 e.many (for0 c num l most) ((num,true)::o) (num+1) (l+2):=s.push k0 (bj ..) (fun _=>⟨_,rfl⟩) ha
  have k1:=y.keeps e.many _ _ _ _ _ (for0 c num l most) hy
  obtain⟨hh,_⟩:=lJ c num l most
  have hl10:Has (y.c (for0 c num l most)) l:=(kB (k1.held l Di) hh).1
  have hlI:Has (eV (beginL c l (cOp ac (.int 0))) num l (Int.ofNat most)) l:=dS c l
  refine sU e c (Eh hd) _ _ (be (DX hd) (.cons (xw e c (lin [_,_,_,_] (.c 1 (.a (.n 12) (.m 8 (.a (.v 1) (.n 1)))) (.v 2) (.c 1 (.v 3) (.a (.v 0) (.n 1)) (.c 1 (.v 2) (.a (.v 3) (.n 1)) .e))) (.n 8) (.v 0) rfl hd (lsa _ _) (lsa _ _)) (Cj hm) (s.free l hbl) (hb.mono (lin [_,_] .e (.n 3) (.a (.a (.a (.n 20) (.v 0)) (.n 1)) (.v 1)) rfl))) (.cons (gJ e _ (lin [_,_,_,_] (.c 1 (.a (.n 12) (.m 8 (.a (.v 1) (.n 1)))) (.v 2) (.c 1 (.v 3) (.a (.v 0) (.n 1)) (.c 1 (.v 2) (.a (.v 3) (.n 1)) .e))) (.n 1) (.v 0) rfl hd (lsa _ _) (lsa _ _)) "for" 79 _ _ (.inl ⟨rfl,rfl⟩) (DW (n:=0) (m:=n) e (beginL c l (cOp ac (.int 0))) (lin [_,_,_,_,_] (.c 1 (.a (.n 12) (.m 8 (.a (.v 1) (.n 1)))) (.v 2) (.c 1 (.v 3) (.a (.v 0) (.n 1)) (.c 1 (.v 4) (.a (.v 3) (.n 1)) (.c 1 (.v 2) (.a (.v 4) (.n 1)) .e)))) (.n 10) (.v 0) rfl hd (lsa _ _) (lsa _ _) (lsa _ _)) num _ (bF [l]::y.ts) (y.c (for0 c num l most)) (dS c l) (hc1.mono (lin [_,_] .e (.a (.n 0) (.n 7)) (.a (.a (.v 0) (.v 1)) (.n 18)) rfl)) (be (lin [_,_,_,_,_,_] (.c 1 (.a (.n 12) (.m 8 (.a (.v 1) (.n 1)))) (.v 2) (.c 1 (.v 3) (.a (.v 0) (.n 2)) (.c 1 (.v 4) (.a (.v 3) (.n 1)) (.c 1 (.v 5) (.a (.v 4) (.n 1)) (.c 1 (.v 2) (.a (.v 5) (.n 1)) .e))))) (.n 1) (.v 0) rfl hd (lsa _ _) (lsa _ _) (lsa _ _) (lsa _ _)) (.cons (s₁:=enc e (for0 c num l most)) ?_ ?_)) h2 hl10 (by rw[bC];exact qj l2))) (.nil _))))
  ·exact bR e _ (lin [_,_,_,_,_,_,_] (.c 1 (.a (.n 12) (.m 8 (.a (.v 1) (.n 1)))) (.v 2) (.c 1 (.v 3) (.a (.v 0) (.n 1)) (.c 1 (.v 4) (.a (.v 3) (.n 2)) (.c 1 (.v 5) (.a (.v 4) (.n 1)) (.c 1 (.v 6) (.a (.v 5) (.n 1)) (.c 1 (.v 2) (.a (.v 6) (.n 1)) .e)))))) (.n 1) (.v 0) rfl hd (lsa _ _) (lsa _ _) (lsa _ _) (lsa _ _) (lsa _ _)) "do" _ _ (.inr (.inr rfl)) (uA e _ (lin [_,_,_,_,_,_,_,_] (.c 1 (.a (.n 12) (.m 8 (.a (.v 1) (.n 1)))) (.v 2) (.c 1 (.v 3) (.a (.v 0) (.n 1)) (.c 1 (.v 4) (.a (.v 3) (.n 1)) (.c 1 (.v 5) (.a (.v 4) (.n 2)) (.c 1 (.v 6) (.a (.v 5) (.n 1)) (.c 1 (.v 7) (.a (.v 6) (.n 1)) (.c 1 (.v 2) (.a (.v 7) (.n 1)) .e))))))) (.n 3) (.v 0) rfl hd (lsa _ _) (lsa _ _) (lsa _ _) (lsa _ _) (lsa _ _) (lsa _ _)) [l] (fX e _ (lin [_,_,_,_,_,_,_,_,_] (.c 1 (.a (.n 12) (.m 8 (.a (.v 1) (.n 1)))) (.v 2) (.c 1 (.v 3) (.a (.v 0) (.n 3)) (.c 1 (.v 4) (.a (.v 3) (.n 1)) (.c 1 (.v 5) (.a (.v 4) (.n 1)) (.c 1 (.v 6) (.a (.v 5) (.n 2)) (.c 1 (.v 7) (.a (.v 6) (.n 1)) (.c 1 (.v 8) (.a (.v 7) (.n 1)) (.c 1 (.v 2) (.a (.v 8) (.n 1)) .e)))))))) (.n 5) (.v 0) rfl hd (lsa _ _) (lsa _ _) (lsa _ _) (lsa _ _) (lsa _ _) (lsa _ _) (lsa _ _)) hlI h0))
  ·exact y.okc _ _ _ _ _ _ _ _ hy s1 h1 (lin [_,_,_,_,_,_,_] (.c 1 (.a (.n 12) (.m 8 (.a (.v 0) (.n 1)))) (.v 2) (.c 1 (.v 3) (.a (.v 1) (.n 1)) (.c 1 (.v 4) (.a (.v 3) (.n 2)) (.c 1 (.v 5) (.a (.v 4) (.n 1)) (.c 1 (.v 6) (.a (.v 5) (.n 1)) (.c 1 (.v 2) (.a (.v 6) (.n 1)) .e)))))) (.a (.n 12) (.m 8 (.v 0))) (.v 1) rfl hd (lsa _ _) (lsa _ _) (lsa _ _) (lsa _ _) (lsa _ _))
 | .loop .ring num l most y,o,a,b,a',b',n,d,c,h,s,hb,hd=>by
  obtain⟨ha,hbl,hm,_,hy⟩:=h
  have hs:B (aa c) (y.cost+n+19):=B.fresh (hb.mono CY) _ _ _
  have h0:B (beginL (rngIn (aa c) num c.regs.length (cOp ac (.int (Int.ofNat most)))) l (reg c.regs.length)) (y.cost+n+9):=(B.rngIn (n:=y.cost+n+12) hs num _ _).beginL l _
  have h1:B (ring0 c num l most) (y.cost+(n+1)):=B.ring0 (hb.mono F9) _ _ _
  obtain⟨h2,l2⟩:=y.room h1
  rw[gK] at l2
  have k0:=f7 c num l most ha hbl
  have s1:St1 e.many (ring0 c num l most) ((num,true)::o) (num+1) (l+2):=s.push k0 (bj ..) (fun _=>⟨_,rfl⟩) ha
  refine gJ e c (Eh hd) "range" 80 _ _ (.inr (.inl ⟨rfl,rfl⟩)) (rp e c (DX hd) num "int" _ _ _ _ (.inl rfl) (Al (n:=0) (m:=n) e c (Ck hd) num _ (bF [l]::y.ts) (y.c (ring0 c num l most)) (Cj hm) (s.free l hbl) (hb.mono (lin [_,_] .e (.a (.n 0) (.n 12)) (.a (.a (.a (.n 20) (.v 0)) (.n 1)) (.v 1)) rfl)) (be (Da hd) (.cons (s₁:=enc e (ring0 c num l most)) ?_ ?_)) h2 (qj l2)))
  ·exact bR e _ (Cl hd) "do" _ _ (.inr (.inr rfl)) (uA e _ (BZ hd) [l] (fX e _ (C6 hd) (dS _ l) h0))
  ·exact y.okc _ _ _ _ _ _ _ _ hy s1 h1 (CQ hd)
 | .loop .row num l most y,o,a,b,a',b',n,d,c,h,s,hb,hd=>by
  obtain⟨ha,hbl,hm,_,hy⟩:=h
  have h1:B (cg c num l) (y.cost+(n+1)):=B.row0 (hb.mono FZ) _ _
  have hz:B (am c) (y.cost+n+19):=B.fresh (hb.mono CY) _ _ _
  have hs:B (aa (am c)) (y.cost+n+17):=hz.fresh _ _ _
  have h7:=(B.rngIn (n:=y.cost+n+10) hs num (c.regs.length+1) (reg c.regs.length)).beginL l (reg (c.regs.length+1))
  have h0:B (mS c num l) (y.cost+n+2):=(B.fresh (n:=y.cost+n+5) h7 _ _ _).beginL (l+1) _
  obtain⟨h2,l2⟩:=y.room h1
  rw[i6] at l2
  have k0:=iu c num l ha hbl
  have s1:St1 e.many (cg c num l) ((num,true)::o) (num+1) (l+2):=s.push k0 (bj ..) (fun _=>⟨_,rfl⟩) ha
  have hl1:Has (mS c num l) l:=by
   refine(kB (c:=beginL (rngIn (aa (am c)) num (c.regs.length+1) (reg c.regs.length)) l (reg (c.regs.length+1))) ?_ (dS _ l)).1
   show ag (Int.ofNat l) (aZ (Int.ofNat (l+1)) _ _)=_
   rw[aA,if_neg (aT z8)];rfl
  refine gJ e c (Eh hd) "range" 80 _ _ (.inr (.inl ⟨rfl,rfl⟩)) (rp e c (DX hd) num "array" _ _ _ _ (.inr rfl) (Ep (n:=0) (m:=n) e c (Ck hd) num (bF [l,l+1]::y.ts) (y.c (cg c num l)) (Ch hm) (s.free l hbl) (s.free (l+1) (v0 hbl)) (hb.mono (lin [_,_] .e (.a (.n 0) (.n 19)) (.a (.a (.a (.n 20) (.v 0)) (.n 1)) (.v 1)) rfl)) (be (Da hd) (.cons (s₁:=enc e (cg c num l)) ?_ ?_)) h2 (qj l2)))
  ·exact bR e _ (Cl hd) "do" _ _ (.inr (.inr rfl)) (uA e _ (BZ hd) [l,l+1] (qL e _ (C6 hd) hl1 (dS _ (l+1)) h0))
  ·exact y.okc _ _ _ _ _ _ _ _ hy s1 h1 (CQ hd)
 | .switch num l most as1 y f as2 z df,o,a,b,a',b',n,d,c,h,s,hb,hd=>by
  obtain⟨ha,hbl,hq1,hq2,_,_,a1,b1',hy,hz⟩:=h
  have h1:B (swIn c num as1 as2 df) (y.cost+(z.cost+n)):=B.swIn (hb.mono Hl) df
  obtain⟨h2,l2⟩:=y.room h1
  rw[iR] at l2
  have h3:B (swMid c (y.c (swIn c num as1 as2 df)) f) (z.cost+n):=h2.swMid f (Ei l2)
  have k0:Keeps c (swIn c num as1 as2 df) a b (num+1) (l+2):=(Keeps.loop (jz ..) (dN ..) ha).weak (Au hbl)
  have s1:St1 e.many (swIn c num as1 as2 df) ((num,false)::o) (num+1) (l+2):=s.push k0 (by rw[dN];exact bj ..) (fun q=>by cases q) ha
  have s2:=s1.next (y.keeps e.many _ _ _ _ _ _ hy)
  have s3:St1 e.many (swMid c (y.c (swIn c num as1 as2 df)) f) ((num,false)::o) a1 b1':=s2.next (.same _ _ rfl rfl)
  exact gJ e c (B7 hd) "switch" 86 _ _ (.inr (.inr ⟨rfl,rfl⟩)) (v5 (n:=0) e c (C5 hd) num as1 as2 y.ts z.ts f df (y.c (swIn c num as1 as2 df)) (z.c (swMid c (y.c (swIn c num as1 as2 df)) f)) (fun q hq=>s.has q.p (hq1 q hq).1) (fun q hq=>s.has q.p (hq2 q hq).1) (hb.mono (lin [_,_,_,_,_] .e (.a (.a (.a (.n 0) (.n 4)) (.m 3 (.v 0))) (.m 3 (.v 1))) (.a (.a (.a (.a (.a (.n 4) (.m 3 (.v 0))) (.m 3 (.v 1))) (.v 2)) (.v 3)) (.v 4)) rfl))
   (be (C7 hd) (y.okc _ _ _ _ _ _ _ _ hy s1 h1 (Fi hd))) h2 (be (C7 hd) (z.okc _ _ _ _ _ _ _ _ hz s3 h3 (GP hd))) (z.room h3).1)
termination_by structural r=>r
theorem Rows.okc:∀(r:Rows) (o:List (Nat×Bool)) (a b a' b' n d:Nat) (c:Cst),r.wf e.many o a b a' b'→St1 e.many c o a b→B c (r.cost+n)→12+8*r.dep≤d→nz (fun v s s'=>Ok X d 95 [stV,v] s .none s') r.ts (enc e c) (enc e (r.c c))
 | .nil,o,a,b,a',b',n,d,c,h,s,hb,hd=> .nil _
 | .cons r rs,o,a,b,a',b',n,d,c,h,s,hb,hd=>by
  obtain⟨a1,b1',h1,h2⟩:=h
  obtain⟨hb2,_⟩:=r.room (n:=rs.cost+n) (hb.mono EY)
  exact .cons (r.okc o a b a1 b1' (rs.cost+n) d c h1 s (hb.mono EY) (lin [_,_,_] (.c 1 (.a (.n 12) (.m 8 (.v 2))) (.v 1) (.c 8 (.v 0) (.v 2) .e)) (.a (.n 12) (.m 8 (.v 0))) (.v 1) rfl hd (Nat.le_max_left _ _))) (rs.okc o a1 b1' a' b' n d (r.c c) h2 (s.next (r.keeps e.many o a b a1 b1' c h1)) hb2 (lin [_,_,_] (.c 1 (.a (.n 12) (.m 8 (.v 2))) (.v 1) (.c 8 (.v 0) (.v 2) .e)) (.a (.n 12) (.m 8 (.v 0))) (.v 1) rfl hd (Nat.le_max_right _ _)))
termination_by structural r=>r
end
end
mutual
noncomputable def szV:V→Nat
 | .tup xs=>1+aL xs
 |_=>0
noncomputable def aL:List V→Nat
 |[]=>0
 |v::r=>szV v+aL r
end
noncomputable def ci:V→Bool
 | .tup _=>true
 |_=>false
noncomputable def bQ:List V→List V
 |[]=>[]
 |v::r=>match ci v with
  |true=>v::bQ r
  |false=>bQ r
noncomputable def eA:V→Bool:=vM false true (fun _=>true) (fun _=>true) (fun _=>true) (fun _=>true) (fun _=>false) false false (fun _ _=>false) (fun _=>false) (fun _=>false) (fun _=>false) (fun _=>false) (fun _ _=>false)
noncomputable def kinds:List String:=["let","for","range","switch","if","break","continue","block","do","builtin","local","const","binary","int","bool"]
inductive Good:V→Prop
 |atom {v:V}:ci v=false→eA v=true→Good v
 |nil:Good (.tup [])
 |kind {s:String} {r:List V}:s∈kinds→(∀v∈r,Good v)→Good (.tup (S s::r))
 |upd (p:Nat) (k:Int):Good (cG p)→Good (eC ac (.int k))→Good (iX p k)
 |ty:Good (.tup [S "tuple",.tup []])
 |three:Good vThree
 |arr:Good cH
 |hdInt {n:Int} {r:List V}:(∀v∈r,Good v)→Good (.tup (.int n::r))
 |hdTup {xs r:List V}:Good (.tup xs)→(∀v∈r,Good v)→Good (.tup (.tup xs::r))
theorem Good.plain{v:V}(h:Good v):eA v=true:=by induction h<;>first|assumption|rfl
theorem bV:∀(a b:List V),aL (a++b)=aL a+aL b
 |[],b=>by simp[aL]
 |v::a,b=>by show szV v+aL (a++b)=szV v+aL a+aL b;rw[bV a b];exact Nat.le_antisymm (lin [_,_,_] .e (.a (.v 0) (.a (.v 1) (.v 2))) (.a (.a (.v 0) (.v 1)) (.v 2)) rfl) (lin [_,_,_] .e (.a (.a (.v 0) (.v 1)) (.v 2)) (.a (.v 0) (.a (.v 1) (.v 2))) rfl)
theorem gM:∀(a:List V),aL (bQ a)≤aL a
 |[]=>Nat.le_refl _
 |v::a=>by
  have:=gM a
  unfold bQ
  split
  ·show szV v+aL (bQ a)≤szV v+aL a;exact lin [_,_,_] (.c 1 (.v 1) (.v 2) .e) (.a (.v 0) (.v 1)) (.a (.v 0) (.v 2)) rfl this
  ·show aL (bQ a)≤szV v+aL a;exact B4 this
theorem cq{v:V}:∀ {a:List V},v∈bQ a→v∈a∧ci v=true
 |u::a,h=>by
  unfold bQ at h
  split at h
  ·rcases List.mem_cons.mp h with rfl|h
   ·exact⟨List.mem_cons_self,by assumption⟩
   ·exact⟨List.mem_cons_of_mem _ (cq h).1,(cq h).2⟩
  ·exact⟨List.mem_cons_of_mem _ (cq h).1,(cq h).2⟩
theorem cT:∀ {a:List V},(∀v∈a,ci v=true)→a.length≤aL a
 |[],_=>Nat.le_refl _
 |v::a,h=>by
  have h1:=cT (a:=a) fun u hu=>h u (List.mem_cons_of_mem _ hu)
  have h2:=h v List.mem_cons_self
  cases v<;>first|cases h2|skip
  show a.length+1≤1+aL _+aL a;exact lin [_,_,_] (.c 1 (.v 0) (.v 2) .e) (.a (.v 0) (.n 1)) (.a (.a (.n 1) (.v 1)) (.v 2)) rfl h1
section
variable{X:CR}{d:Nat}{st:St}
theorem vF(hd:1≤d){s:String}(hs:s∈kinds)(r:List V):Ok X d 11 [.tup (S s::r)] st (.bool false) st:=
 Ok.by (by decide +kernel) hd [] id (by apply evM hs;kernel_rfl)
theorem sO(hd:1≤d)(p:Nat)(k:Int):Ok X d 11 [iX p k] st (.bool false) st:=Ok.by (by decide +kernel) hd [] id (by kernel_rfl)
theorem wc(hd:1≤d):Ok X d 11 [.tup [S "tuple",.tup []]] st (.bool true) st:=Ok.by (by decide +kernel) hd [] id (by kernel_rfl)
theorem nU(hd:1≤d):Ok X d 11 [vThree] st (.bool true) st:=Ok.by (by decide +kernel) hd [] (Tn (rfl:true=true) id) (by kernel_rfl)
theorem tn(hd:1≤d):Ok X d 11 [cH] st (.bool true) st:=Ok.by (by decide +kernel) hd [] (Tn (rfl:true=true) id) (by kernel_rfl)
theorem BD(hd:1≤d){s:String}(hs:s∈kinds)(r:List V):Ok X d 9 [.tup (S s::r)] st (.lst []) st:=
 Ok.by (by decide +kernel) hd [] id (by apply evM hs;kernel_rfl)
theorem zy(hd:1≤d)(p:Nat)(k:Int):Ok X d 9 [iX p k] st (.lst []) st:=Ok.by (by decide +kernel) hd [] id (by kernel_rfl)
theorem Be(hd:1≤d){s:String}(hs:s∈kinds)(r:List V):Ok X d 8 [.tup (S s::r)] st (.lst []) st:=
 Ok.by (by decide +kernel) hd [] id (by apply evM hs;kernel_rfl)
theorem wx(hd:1≤d)(p:Nat)(k:Int):Ok X d 8 [iX p k] st (.lst [cG p]) st:=Ok.by (by decide +kernel) hd [] id (by kernel_rfl)
theorem sW(hd:1≤d)(p:Nat):Ok X d 7 [cG p] st (.bool false) st:=Ok.by (by decide +kernel) hd [] id (by kernel_rfl)
theorem sQ(hd:2≤d){s:String}(hs:s∈kinds)(r:List V):Ok X d 10 [.tup (S s::r),.ref 15 0,.edict] st .none st:=
 Ok.by (by decide +kernel) (om1 hd) [.call (.lst []) st,.call (.lst []) st] (Tn (BD (X:=X) (d:=d-1) (st:=st) (om2 hd) hs r) (Tn bB (Tn (Be (X:=X) (d:=d-1) (st:=st) (om2 hd) hs r) (Tn bB id)))) (by kernel_rfl)
theorem rH(hd:2≤d)(p:Nat)(k:Int):Ok X d 10 [iX p k,.ref 15 0,.edict] st .none st:=
 Ok.by (by decide +kernel) (om1 hd) [.call (.lst []) st,.call (.lst [cG p]) st,.call (.bool false) st] (Tn (zy (X:=X) (d:=d-1) (st:=st) (om2 hd) p k) (Tn bB (Tn (wx (X:=X) (d:=d-1) (st:=st) (om2 hd) p k) (Tn bB (Tn (sW (X:=X) (d:=d-1) (st:=st) (om2 hd) p) id))))) (by kernel_rfl)
noncomputable def ye:Stmt→Expr:=let d:=noE;stM d (fun _ _ _=>d) (fun _=>d) (fun _ _=>d) (fun _ _ _=>d) (fun _ _ _ _ _=>d) (fun _ _ _ _=>d) (fun _ _ _ _=>d) (fun e=>e) d d
noncomputable def v6(e:Expr):Expr:=callD e noE fun _ as _ _=>as.headD noE
noncomputable def lcM{β:Type}(d:β)(f:Expr→List Comprehension→Scope→β):Expr→β:=exB d (fun _ _ _=>d) (fun _ _=>d) (fun _ _ _ _=>d) (fun _ _ _=>d) (fun a b c _=>f a b c) (fun _ _ _ _=>d) (fun _ _ _ _=>d) (fun _ _=>d)
noncomputable def lcE:Expr→Expr:=lcM noE fun e _ _=>e
noncomputable def lcT:Expr→Expr:=lcM noE fun _ g _=>oneD g noE fun g=>g.target
noncomputable def lcI:Expr→List Expr:=lcM [] fun _ g _=>oneD g [] fun g=>g.ifs
noncomputable def lcN:Expr→Cx:=lcM [] fun _ _ s=>s.names
noncomputable def F75:Expr:=v6 (ye (aY (whB (aY (aG 12) 3)) 3))
noncomputable def HX:Expr:=v6 (ye (aY (whB (aY (aG 103) 1)) 2))
noncomputable def Bp(F:Expr)(ρ:Rho):Rho:=cW ρ (lcN F)
theorem lG{C:CR}(n:Nat)(F:Expr)(ρ:Rho)(h:∀v,eA v=true→∃ρ₀,asgN 9 (lcT F) v (Bp F ρ)=some ρ₀∧fI (evN C n) (lcN F) (lcI F) ρ₀ st (ci v) st∧eF (evN C n) (lcN F) (lcE F) ρ₀ st v st):
  ∀(items:List V),(∀v∈items,eA v=true)→CompR (asgN 9 (lcT F)) (fI (evN C n) (lcN F) (lcI F)) (eF (evN C n) (lcN F) (lcE F)) (Bp F ρ) items st (bQ items) st
 |[],_=> .nil st
 |v::r,hp=>by
  obtain⟨ρ₀,h1,h2,h3⟩:=h v (hp v List.mem_cons_self)
  have ih:=lG n F ρ h r fun u hu=>hp u (List.mem_cons_of_mem _ hu)
  unfold bQ
  cases e:ci v with
  |true=>rw[e] at h2;exact .take h1 h2 h3 ih
  |false=>rw[e] at h2;exact .skip h1 h2 ih
noncomputable def cP(ls:List V)(lv:LV):Rho:=[(x "typed_fn",.v (.ref 17 0)),(x "world",.v (.ref 15 0)),(x "found",.v .edict),(x "left",.ol ls),(x "own",.unb),(x "outer",.unb),(x "key",.unb),(x "node",lv)]
noncomputable def uV(v:V):Rho:=[(".0",.unb),(x "part",.v v)]
set_option tactic.hygienic true in
theorem CZ{C:CR}(ls:List V)(lv:LV):∀(items:List V),(∀v∈items,eA v=true)→CompR (asgN 9 (lcT F75)) (fI (evN C 37) (lcN F75) (lcI F75)) (eF (evN C 37) (lcN F75) (lcE F75)) (Bp F75 (cP ls lv)) items st (bQ items) st:=
 lG 37 F75 (cP ls lv) fun v hv=>by
  refine⟨uV v,by kernel_rfl,?_,?_⟩
  ·cases v<;>(try exact ffS hv)
   case tup xs=>exact⟨[],evG (P:=true=true∧true=true∧st=st) ⟨rfl,rfl,rfl⟩ (by kernel_rfl)⟩
   all_goals exact⟨[],evG (P:=true=true∧false=false∧st=st) ⟨rfl,rfl,rfl⟩ (by kernel_rfl)⟩
  ·exact⟨[],evG (P:=v=v∧st=st) ⟨rfl,rfl⟩ (by kernel_rfl)⟩
theorem oy(ls:List V)(v:V):some (!(ls++[v]).isEmpty)=some true:=by induction ls<;>rfl
noncomputable def T67{C:CR}:=iI (evN C 39) (cxG 12) (whT (aY (aG 12) 3))
noncomputable def B67{C:CR}:=bP (evN C 39) (cxG 12) (whB (aY (aG 12) 3))
theorem rU{C:CR}(ls:List V)(lv:LV)(hlv:bS lv): @B67 C (cP (ls++[.tup []]) lv) st .cont (cP ls (.v (.tup []))) st:=by
 rcases hlv with rfl|⟨u,rfl⟩<;>
 exact⟨[.pop 68 ls (.tup [])],evG (P:=ls++[V.tup []]=ls++[.tup []]∧true=true∧Fl.cont=Fl.cont∧cP ls (.v (.tup []))=cP ls (.v (.tup []))∧st=st) ⟨rfl,rfl,rfl,rfl,rfl⟩ (by kernel_rfl)⟩
theorem io{C:CR}(ls:List V)(lv:LV)(hlv:bS lv){s:String}{r:List V}(h:C 11 [.tup (S s::r)] st (.bool true) st): @B67 C (cP (ls++[.tup (S s::r)]) lv) st .cont (cP ls (.v (.tup (S s::r)))) st:=by
 rcases hlv with rfl|⟨u,rfl⟩<;>
 exact⟨[.pop 68 ls (.tup (S s::r)),.call (.bool true) st],evG (P:=ls++[V.tup (S s::r)]=ls++[.tup (S s::r)]∧true=true∧true=true∧C 11 [.tup (S s::r)] st (.bool true) st∧Fl.cont=Fl.cont∧cP ls (.v (.tup (S s::r)))=cP ls (.v (.tup (S s::r)))∧st=st) ⟨rfl,rfl,rfl,h,rfl,rfl,rfl⟩ (by kernel_rfl)⟩
theorem nj{C:CR}(ls:List V)(lv:LV)(hlv:bS lv){s:String}{r:List V}(h:C 11 [.tup (S s::r)] st (.bool false) st)(h2:C 10 [.tup (S s::r),.ref 15 0,.edict] st .none st)(hp:∀v∈r,eA v=true)(h3:ls.length≤100000∧(bQ r).length≤100000):
  @B67 C (cP (ls++[.tup (S s::r)]) lv) st .next (cP (ls++bQ r) (.v (.tup (S s::r)))) st:=by
 have hc:=CZ (C:=C) (st:=st) ls (.v (.tup (S s::r))) (S s::r) fun v hv=>by
  rcases List.mem_cons.mp hv with rfl|hv
  ·rfl
  ·exact hp v hv
 rcases hlv with rfl|⟨u,rfl⟩<;>
 exact⟨[.pop 68 ls (.tup (S s::r)),.call (.bool false) st,.call .none st,.comp 75 (bQ r) st],
  evG (And.intro (rfl:ls++[V.tup (S s::r)]=ls++[.tup (S s::r)]) (And.intro (rfl:true=true) (And.intro (rfl:true=true) (And.intro h (And.intro h2 (And.intro hc (And.intro h3 ((⟨rfl,rfl,rfl⟩:Fl.next=Fl.next∧cP (ls++bQ r) (.v (.tup (S s::r)))=cP (ls++bQ r) (.v (.tup (S s::r)))∧st=st))))))))) (by kernel_rfl)⟩
theorem jZ{C:CR}(ls:List V)(lv:LV)(hlv:bS lv){a:V}{r:List V}(ha:(∃n,a = .int n)∨∃xs,a = .tup xs)(hp:∀v∈a::r,eA v=true)(h3:ls.length≤100000∧(bQ (a::r)).length≤100000):
  @B67 C (cP (ls++[.tup (a::r)]) lv) st .next (cP (ls++bQ (a::r)) (.v (.tup (a::r)))) st:=by
 have hc:=CZ (C:=C) (st:=st) ls (.v (.tup (a::r))) (a::r) hp
 rcases ha with ⟨n,rfl⟩|⟨xs,rfl⟩
 ·rcases hlv with rfl|⟨u,rfl⟩<;>exact⟨[.pop 68 ls (.tup (.int n::r)),.comp 75 (bQ (.int n::r)) st],evG (And.intro (rfl:ls++[V.tup (.int n::r)]=ls++[.tup (.int n::r)]) (And.intro (rfl:true=true) (And.intro (rfl:true=true) (And.intro hc (And.intro h3 (⟨rfl,rfl,rfl⟩:Fl.next=Fl.next∧cP (ls++bQ (.int n::r)) (.v (.tup (.int n::r)))=cP (ls++bQ (.int n::r)) (.v (.tup (.int n::r)))∧st=st)))))) (by kernel_rfl)⟩
 ·rcases hlv with rfl|⟨u,rfl⟩<;>exact⟨[.pop 68 ls (.tup (.tup xs::r)),.comp 75 (bQ (.tup xs::r)) st],evG (And.intro (rfl:ls++[V.tup (.tup xs::r)]=ls++[.tup (.tup xs::r)]) (And.intro (rfl:true=true) (And.intro (rfl:true=true) (And.intro hc (And.intro h3 (⟨rfl,rfl,rfl⟩:Fl.next=Fl.next∧cP (ls++bQ (.tup xs::r)) (.v (.tup (.tup xs::r)))=cP (ls++bQ (.tup xs::r)) (.v (.tup (.tup xs::r)))∧st=st)))))) (by kernel_rfl)⟩
theorem vV(hd:2≤d):∀(k:Nat) (ls:List V) (lv:LV),bS lv→aL ls≤k→(∀v∈ls,Good v∧ci v=true)→aL ls≤100000→∃lv',WhileR (@T67 (Ok X d)) (@B67 (Ok X d)) (cP ls lv) st .next (cP [] lv') st:=by
 intro k
 induction k with
 |zero=>
  intro ls lv hlv hk hg _
  have hl:=cT fun v hv=>(hg v hv).2
  have:ls=[]:=List.eq_nil_of_length_eq_zero (B0 hk hl)
  subst this
  exact⟨lv,.stop ⟨[],evG (P:=false=false∧st=st) ⟨rfl,rfl⟩ (by kernel_rfl)⟩⟩
 |succ k ih=>
  intro ls lv hlv hk hg hs
  rcases List.eq_nil_or_concat ls with rfl|⟨ls,v,rfl⟩
  ·exact⟨lv,.stop ⟨[],evG (P:=false=false∧st=st) ⟨rfl,rfl⟩ (by kernel_rfl)⟩⟩
  ·rw[List.concat_eq_append] at *
   have test: @T67 (Ok X d) (cP (ls++[v]) lv) st true st:=⟨[.br 67 true],evG (P:=some (!(ls++[v]).isEmpty)=some true∧true=true∧st=st) ⟨oy ls v,rfl,rfl⟩ (by kernel_rfl)⟩
   obtain⟨gv,tv⟩:=hg v (List.mem_append_right _ List.mem_cons_self)
   have gl:∀u∈ls,Good u∧ci u=true:=fun u hu=>hg u (List.mem_append_left _ hu)
   rw[bV] at hk hs
   have hl:=cT fun v hv=>(gl v hv).2
   have go:∀(r:List V),(∀u∈r,Good u)→aL r+1≤aL [v]→∃lv',WhileR (@T67 (Ok X d)) (@B67 (Ok X d)) (cP (ls++bQ r) (.v v)) st .next (cP [] lv') st:=fun r hr hz=>by
    have:=gM r
    refine ih (ls++bQ r) (.v v) (.inr ⟨v,rfl⟩) (by rw[bV];exact lin [_,_,_,_,_] (.c 1 (.a (.v 0) (.v 3)) (.a (.v 2) (.n 1)) (.c 1 (.a (.v 4) (.n 1)) (.v 3) (.c 1 (.v 1) (.v 4) .e))) (.a (.v 0) (.v 1)) (.v 2) rfl hk hz this) (fun u hu=> ?_) (by rw[bV];exact lin [_,_,_,_] (.c 1 (.a (.v 0) (.v 2)) (.n 100000) (.c 1 (.a (.v 3) (.n 1)) (.v 2) (.c 1 (.v 1) (.v 3) .e))) (.a (.v 0) (.v 1)) (.n 100000) rfl hs hz this)
    rcases List.mem_append.mp hu with hu|hu
    ·exact gl u hu
    ·exact⟨hr u (cq hu).1,(cq hu).2⟩
   have stay:1≤aL [v]→∃lv',WhileR (@T67 (Ok X d)) (@B67 (Ok X d)) (cP ls (.v v)) st .next (cP [] lv') st:=fun hz=>
    ih ls (.v v) (.inr ⟨v,rfl⟩) (lin [_,_,_] (.c 1 (.a (.v 0) (.v 2)) (.a (.v 1) (.n 1)) (.c 1 (.n 1) (.v 2) .e)) (.v 0) (.v 1) rfl hk hz) gl (Cu hs)
   have small:∀(r:List V),aL r+1≤aL [v]→ls.length≤100000∧(bQ r).length≤100000:=fun r hz=>by
    have h1:=cT (a:=bQ r) fun u hu=>(cq hu).2
    have h2:=gM r
    exact GH hs hl hz h1 h2
   induction gv with
   |atom h _=>rw[tv] at h;cases h
   |nil=>
    obtain⟨lv',r⟩:=stay (by decide)
    exact⟨lv',.step test (rU ls lv hlv) (.inr rfl) r⟩
   | @kind s r hk' hr=>
    have hz:aL r+1≤aL [.tup (S s::r)]:=by simp[aL,szV,S];exact z7
    obtain⟨lv',q⟩:=go r hr hz
    exact⟨lv',.step test (nj ls lv hlv (vF (tK hd) hk' r) (sQ hd hk' r) (fun u hu=>(hr u hu).plain) (small r hz)) (.inl rfl) q⟩
   |upd p k g1 g2=>
    have hr:∀u∈[V.int 0,S "+",cG p,eC ac (.int k)],Good u:=(gk (.atom rfl rfl) (gk (.atom rfl rfl) (gk g1 (gk g2 gnl))))
    have hz:aL [V.int 0,S "+",cG p,eC ac (.int k)]+1≤aL [iX p k]:=by simp[aL,szV,S,iX];exact lin [_,_] .e (.a (.a (.v 0) (.v 1)) (.n 1)) (.a (.n 1) (.a (.v 0) (.v 1))) rfl
    obtain⟨lv',q⟩:=go _ hr hz
    exact⟨lv',.step test (nj (s:="update") ls lv hlv (sO (tK hd) p k) (rH hd p k) (fun u hu=>(hr u hu).plain) (small _ hz)) (.inl rfl) q⟩
   |ty=>
    obtain⟨lv',r⟩:=stay (by decide)
    exact⟨lv',.step test (io ls lv hlv (wc (tK hd))) (.inr rfl) r⟩
   |three=>
    obtain⟨lv',r⟩:=stay (by decide)
    exact⟨lv',.step test (io ls lv hlv (nU (tK hd))) (.inr rfl) r⟩
   |arr=>
    obtain⟨lv',r⟩:=stay (by decide)
    exact⟨lv',.step test (io ls lv hlv (tn (tK hd))) (.inr rfl) r⟩
   | @hdInt n r hr=>
    have hz:aL (V.int n::r)+1≤aL [.tup (.int n::r)]:=by simp[aL,szV];exact z7
    have hr':∀u∈V.int n::r,Good u:=fun u hu=>(List.mem_cons.mp hu).elim (fun q=>q ▸ .atom rfl rfl) (hr u)
    obtain⟨lv',q⟩:=go _ hr' hz
    exact⟨lv',.step test (jZ ls lv hlv (.inl ⟨n,rfl⟩) (fun u hu=>(hr' u hu).plain) (small _ hz)) (.inl rfl) q⟩
   | @hdTup xs r h1 hr=>
    have hz:aL (V.tup xs::r)+1≤aL [.tup (.tup xs::r)]:=by simp[aL,szV];exact lin [_,_] .e (.a (.a (.a (.n 1) (.v 0)) (.v 1)) (.n 1)) (.a (.n 1) (.a (.a (.n 1) (.v 0)) (.v 1))) rfl
    have hr':∀u∈V.tup xs::r,Good u:=fun u hu=>(List.mem_cons.mp hu).elim (fun q=>q▸h1) (hr u)
    obtain⟨lv',q⟩:=go _ hr' hz
    exact⟨lv',.step test (jZ ls lv hlv (.inr ⟨xs,rfl⟩) (fun u hu=>(hr' u hu).plain) (small _ hz)) (.inl rfl) q⟩
end
section
variable{X:CR}{d:Nat}{st:St}
noncomputable def ifB:Stmt→List Stmt:=let d:=[];stM d (fun _ _ _=>d) (fun _=>d) (fun _ _=>d) (fun _ _ _=>d) (fun _ _ _ _ _=>d) (fun _ _ _ _=>d) (fun _ b _ _=>b) (fun _=>d) d d
noncomputable def kP:Expr:=v6 (ye (aY (ifB (aY (whB (aY (aG 103) 1)) 1)) 1))
noncomputable def g8(ss:V)(ls:List V)(lv:LV):Rho:=[(x "statements",.v ss),(x "left",.ol ls),(x "here",lv)]
set_option tactic.hygienic true in
theorem FP{C:CR}(ss:V)(ls:List V)(lv:LV):∀(items:List V),(∀v∈items,eA v=true)→CompR (asgN 9 (lcT kP)) (fI (evN C 36) (lcN kP) (lcI kP)) (eF (evN C 36) (lcN kP) (lcE kP)) (Bp kP (g8 ss ls lv)) items st (bQ items) st:=
 lG 36 kP (g8 ss ls lv) fun v hv=>by
  refine⟨uV v,by kernel_rfl,?_,?_⟩
  ·cases v<;>(try exact ffS hv)
   case tup xs=>exact⟨[],evG (P:=true=true∧true=true∧st=st) ⟨rfl,rfl,rfl⟩ (by kernel_rfl)⟩
   all_goals exact⟨[],evG (P:=true=true∧false=false∧st=st) ⟨rfl,rfl,rfl⟩ (by kernel_rfl)⟩
  ·exact⟨[],evG (P:=v=v∧st=st) ⟨rfl,rfl⟩ (by kernel_rfl)⟩
noncomputable def EK{C:CR}:=iI (evN C 39) (cxG 103) (whT (aY (aG 103) 1))
noncomputable def BI{C:CR}:=bP (evN C 39) (cxG 103) (whB (aY (aG 103) 1))
theorem v8{C:CR}(ss:V)(ls:List V)(lv:LV)(hlv:bS lv): @BI C (g8 ss (ls++[.tup []]) lv) st .next (g8 ss ls (.v (.tup []))) st:=by
 rcases hlv with rfl|⟨u,rfl⟩<;>
 exact⟨[.pop 817 ls (.tup [])],evG (P:=ls++[V.tup []]=ls++[.tup []]∧true=true∧Fl.next=Fl.next∧g8 ss ls (.v (.tup []))=g8 ss ls (.v (.tup []))∧st=st) ⟨rfl,rfl,rfl,rfl,rfl⟩ (by kernel_rfl)⟩
def EO(a:V):Prop:=(∃s:String,a=S s∧(s∈kinds∨s="update"∨s="tuple"∨s="array"))∨(∃n,a = .int n)∨∃xs,a = .tup xs
noncomputable def hdL(n:Int)(xs:List V):List V:=(kinds.map S)++[S "update",S "tuple",S "array",.int n,.tup xs]
theorem Fg{a:V}:EO a→∃n xs,a∈hdL n xs
 | .inl ⟨s,e,h⟩=>⟨0,[],e▸h.elim (fun m=>List.mem_append_left _ (List.mem_map_of_mem m)) fun h=>List.mem_append_right _ (h.elim (fun e=>e ▸ .head _) fun h=>h.elim (fun e=>e ▸ .tail _ (.head _)) fun e=>e ▸ .tail _ (.tail _ (.head _)))⟩
 | .inr (.inl ⟨n,e⟩)=>⟨n,[],e▸List.mem_append_right _ (.tail _ (.tail _ (.tail _ (.head _))))⟩
 | .inr (.inr ⟨xs,e⟩)=>⟨0,xs,e▸List.mem_append_right _ (.tail _ (.tail _ (.tail _ (.tail _ (.head _)))))⟩
theorem Ff{C:CR}(ss:V)(ls:List V)(lv:LV)(hlv:bS lv){a:V}{r:List V}(ha:EO a)(hp:∀v∈a::r,eA v=true)(h3:ls.length≤100000∧(bQ (a::r)).length≤100000):
  @BI C (g8 ss (ls++[.tup (a::r)]) lv) st .next (g8 ss (ls++bQ (a::r)) (.v (.tup (a::r)))) st:=by
 have hc:=FP (C:=C) (st:=st) ss ls (.v (.tup (a::r))) (a::r) hp
 obtain⟨n,xs,m⟩:=Fg ha
 refine⟨[.pop 817 ls (.tup (a::r)),.comp 821 (bQ (a::r)) st],?_⟩
 rcases hlv with rfl|⟨u,rfl⟩<;>
 exact evG (And.intro (rfl:ls++[V.tup (a::r)]=ls++[.tup (a::r)]) (And.intro (rfl:true=true) (And.intro hc (And.intro h3 (⟨rfl,rfl,rfl⟩:Fl.next=Fl.next∧g8 ss (ls++bQ (a::r)) (.v (.tup (a::r)))=g8 ss (ls++bQ (a::r)) (.v (.tup (a::r)))∧st=st))))) (by apply evM m;kernel_rfl)
theorem vo{C:CR}(ss:V):∀(k:Nat) (ls:List V) (lv:LV),bS lv→aL ls≤k→(∀v∈ls,Good v∧ci v=true)→aL ls≤100000→∃lv',WhileR (@EK C) (@BI C) (g8 ss ls lv) st .next (g8 ss [] lv') st:=by
 intro k
 induction k with
 |zero=>
  intro ls lv hlv hk hg _
  have hl:=cT fun v hv=>(hg v hv).2
  have:ls=[]:=List.eq_nil_of_length_eq_zero (B0 hk hl)
  subst this
  exact⟨lv,.stop ⟨[],evG (P:=false=false∧st=st) ⟨rfl,rfl⟩ (by kernel_rfl)⟩⟩
 |succ k ih=>
  intro ls lv hlv hk hg hs
  rcases List.eq_nil_or_concat ls with rfl|⟨ls,v,rfl⟩
  ·exact⟨lv,.stop ⟨[],evG (P:=false=false∧st=st) ⟨rfl,rfl⟩ (by kernel_rfl)⟩⟩
  ·rw[List.concat_eq_append] at *
   have test: @EK C (g8 ss (ls++[v]) lv) st true st:=⟨[.br 816 true],evG (P:=some (!(ls++[v]).isEmpty)=some true∧true=true∧st=st) ⟨oy ls v,rfl,rfl⟩ (by kernel_rfl)⟩
   obtain⟨gv,tv⟩:=hg v (List.mem_append_right _ List.mem_cons_self)
   have gl:∀u∈ls,Good u∧ci u=true:=fun u hu=>hg u (List.mem_append_left _ hu)
   rw[bV] at hk hs
   have hl:=cT fun v hv=>(gl v hv).2
   have go:∀(a:V) (r:List V),v = .tup (a::r)→EO a→(∀u∈a::r,Good u)→∃lv',WhileR (@EK C) (@BI C) (g8 ss (ls++[v]) lv) st .next (g8 ss [] lv') st:=fun a r hv ha hr=>by
    subst hv
    have h2:=gM (a::r)
    have h1:=cT (a:=bQ (a::r)) fun u hu=>(cq hu).2
    have hz:aL [.tup (a::r)]=1+aL (a::r):=rfl
    obtain⟨lv',q⟩:=ih (ls++bQ (a::r)) (.v (.tup (a::r))) (.inr ⟨_,rfl⟩) (by rw[bV];exact lin [_,_,_,_,_] (.c 1 (.a (.v 0) (.v 3)) (.a (.v 2) (.n 1)) (.c 1 (.v 1) (.v 4) (.c 1 (.a (.n 1) (.v 4)) (.v 3) .e))) (.a (.v 0) (.v 1)) (.v 2) rfl hk h2 (leq hz.symm)) (fun u hu=>by
     rcases List.mem_append.mp hu with hu|hu
     ·exact gl u hu
     ·exact⟨hr u (cq hu).1,(cq hu).2⟩) (by rw[bV];exact lin [_,_,_,_] (.c 1 (.a (.v 0) (.v 2)) (.n 100000) (.c 1 (.v 1) (.v 3) (.c 1 (.a (.n 1) (.v 3)) (.v 2) .e))) (.a (.v 0) (.v 1)) (.n 100000) rfl hs h2 (leq hz.symm))
    exact⟨lv',.step test (Ff ss ls lv hlv ha (fun u hu=>(hr u hu).plain) (Ho hl hs h2 h1 hz)) (.inl rfl) q⟩
   have ga:∀ {v:V},ci v=false→eA v=true→Good v:=fun h1 h2=> .atom h1 h2
   induction gv with
   |atom h _=>rw[tv] at h;cases h
   |nil=>
    obtain⟨lv',r⟩:=ih ls (.v (.tup [])) (.inr ⟨_,rfl⟩) (by simp[aL,szV] at hk;exact lin [_,_] (.c 1 (.v 0) (.v 1) .e) (.v 0) (.v 1) rfl hk) gl (Cu hs)
    exact⟨lv',.step test (v8 ss ls lv hlv) (.inl rfl) r⟩
   | @kind s r hk' hr=>exact go _ r rfl (.inl ⟨s,rfl,.inl hk'⟩) fun u hu=>(List.mem_cons.mp hu).elim (fun q=>q▸ga rfl rfl) (hr u)
   |upd p k g1 g2=>
    exact go _ _ rfl (.inl ⟨_,rfl,.inr (.inl rfl)⟩) (gk (ga rfl rfl) (gk (ga rfl rfl) (gk (ga rfl rfl) (gk g1 (gk g2 gnl)))))
   |ty=>
    exact go _ _ rfl (.inl ⟨_,rfl,.inr (.inr (.inl rfl))⟩) (gk (ga rfl rfl) (gk .nil gnl))
   |three=>
    exact go _ _ rfl (.inl ⟨_,rfl,.inr (.inr (.inr rfl))⟩) (gk (ga rfl rfl) (gk (ga rfl rfl) (gk (.kind (s:="int") (by decide) fun u hu=>by
       simp only[List.mem_cons,List.not_mem_nil,or_false] at hu;subst hu;exact ga rfl rfl) gnl)))
   |arr=>
    exact go _ _ rfl (.inl ⟨_,rfl,.inr (.inr (.inr rfl))⟩) (gk (ga rfl rfl) (gk (.hdInt (gk (ga rfl rfl) (gk (ga rfl rfl) gnl))) gnl))
   | @hdInt n r hr=>exact go _ r rfl (.inr (.inl ⟨n,rfl⟩)) fun u hu=>(List.mem_cons.mp hu).elim (fun q=>q▸ga rfl rfl) (hr u)
   | @hdTup xs r h1 hr=>exact go _ r rfl (.inr (.inr ⟨xs,rfl⟩)) fun u hu=>(List.mem_cons.mp hu).elim (fun q=>q▸h1) (hr u)
theorem p6(hd:1≤d){ss:List V}(hg:∀v∈ss,Good v∧ci v=true)(hs:aL ss≤100000):Ok X d 103 [.tup ss] st (.bool false) st:=by
 obtain⟨lv',r⟩:=vo (C:=Ok X (d-1)) (st:=st) (.tup ss) (aL ss) ss .unb (.inl rfl) (Nat.le_refl _) hg hs
 exact Ok.by (by decide +kernel) hd [.loop 816 .next (g8 (.tup ss) [] lv') st] (Tn (rfl:true=true) (Tn r id)) (by kernel_rfl)
theorem kF(l:Nat):Good (cG l):= .kind (s:="local") (by decide) (gk (.kind (s:="int") (by decide) (gk (.atom rfl rfl) gnl)) (gk (.atom rfl rfl) (gk (.atom rfl rfl) gnl)))
theorem yk:Good ac:= .kind (s:="int") (by decide) (gk (.atom rfl rfl) gnl)
theorem uv{ty v:V}(h1:Good ty)(h2:Good v):Good (eC ty v):= .kind (s:="const") (by decide) (gk h1 (gk (.atom rfl rfl) (gk h2 gnl)))
theorem dK(k:Int):Good (eC ac (.int k)):=uv yk (.atom rfl rfl)
theorem mu(a:Ask):Good a.e:= .kind (s:="binary") (by decide) (gk (.kind (s:="bool") (by decide) fun u hu=>by simp at hu) (gk (.atom rfl rfl) (gk (.atom rfl rfl) (gk (kF _) (gk (dK _) gnl)))))
theorem good_tupOf:∀ {l:List V},(∀v∈l,Good v∧ci v=true)→Good (.tup l)
 |[],_=> .nil
 |v::r,h=>by
  obtain⟨h1,h2⟩:=h v List.mem_cons_self
  cases v<;>first|cases h2|skip
  exact .hdTup h1 fun u hu=>(h u (List.mem_cons_of_mem _ hu)).1
theorem gE(ls:List Nat):Good (bF ls):= .kind (s:="do") (by decide) (gk (.atom rfl rfl) (gk (.kind (s:="builtin") (by decide) (gk .ty (gk (.atom rfl rfl) (gk (.atom rfl rfl) (gk (good_tupOf fun v hv=>by
     obtain⟨l,_,rfl⟩:=List.mem_map.mp hv
     exact⟨kF l,rfl⟩) gnl))))) gnl))
theorem eS{ss:List V}(h:∀v∈ss,Good v∧ci v=true):Good (cN ss):= .kind (s:="block") (by decide) (gk (.atom rfl rfl) (gk (good_tupOf h) gnl))
theorem aX{v:V}{ss:List V}(h:Good v)(ht:ci v=true)(hs:∀v∈ss,Good v∧ci v=true):∀u∈v::ss,Good u∧ci u=true:=fun u hu=>(List.mem_cons.mp hu).elim (fun q=>q▸⟨h,ht⟩) (hs u)
theorem pV(p:Nat)(k:Int):Good (iX p k):= .upd p k (kF p) (dK k)
theorem jp(l:Nat):Good (fe l):= .kind (s:="local") (by decide) (gk (.atom rfl rfl) gnl)
theorem mM(as:List Ask){ss:List V}(f:Bool)(h:∀v∈ss,Good v∧ci v=true):Good (aP as ss f):=
 .hdTup (good_tupOf fun v hv=>by obtain⟨a,_,rfl⟩:=List.mem_map.mp hv;exact⟨mu a,rfl⟩) (gk (good_tupOf h) (gk (.atom rfl rfl) gnl))
theorem DS{s:String}(hs:s∈kinds){r:List V}(h:∀v∈r,Good v):Good (.tup (S s::r)):= .kind hs h
mutual
theorem Row.good:∀r:Row,Good r.t∧ci r.t=true
 | .print p=>⟨gE _,rfl⟩
 | .add p k=>⟨pV _ _,rfl⟩
 | .jump true m=>⟨.kind (s:="break") (by decide) (gk (.atom rfl rfl) (gk (.atom rfl rfl) gnl)),rfl⟩
 | .jump false m=>⟨.kind (s:="continue") (by decide) (gk (.atom rfl rfl) (gk (.atom rfl rfl) gnl)),rfl⟩
 | .ite a y n=>⟨.kind (s:="if") (by decide) (gk (.atom rfl rfl) (gk (mu a) (gk (eS y.good) (gk (by cases n with|nil=>exact .atom rfl rfl|cons r rs=>exact eS (Rows.cons r rs).good) gnl)))),rfl⟩
 | .loop .for_ num l most b=>⟨eS (aX (.kind (s:="let") (by decide) (gk (.atom rfl rfl) (gk (.hdInt gnl) (gk (good_tupOf (aX (dK 0) rfl gnl)) gnl)))) rfl (aX (.kind (s:="for") (by decide) (gk (.atom rfl rfl) (gk (.atom rfl rfl) (gk (.hdInt gnl) (gk (mu ⟨l,"<",Int.ofNat most⟩) (gk (good_tupOf (aX (pV l 1) rfl gnl)) (gk (eS (aX (gE _) rfl b.good)) gnl))))))) rfl gnl)),rfl⟩
 | .loop .ring num l most b=>⟨.kind (s:="range") (by simp[kinds]) (gk (.atom rfl rfl) (gk (.atom rfl rfl) (gk (.atom rfl rfl) (gk (.hdTup (jp l) (gk (.atom rfl rfl) gnl)) (gk (dK _) (gk (eS (aX (gE _) rfl b.good)) gnl)))))),rfl⟩
 | .loop .row num l most b=>⟨.kind (s:="range") (by simp[kinds]) (gk (.atom rfl rfl) (gk (.atom rfl rfl) (gk (.atom rfl rfl) (gk (.hdTup (jp l) (gk (jp _) gnl)) (gk (uv .three .arr) (gk (eS (aX (gE _) rfl b.good)) gnl)))))),rfl⟩
 | .switch num _ _ as1 b1 f as2 b2 df=>⟨.kind (s:="switch") (by decide) fun u hu=>by
   simp only[List.mem_cons,List.not_mem_nil,or_false] at hu
   rcases hu with rfl|rfl|rfl|rfl
   ·exact .atom rfl rfl
   ·exact .atom rfl rfl
   ·exact good_tupOf (aX (mM as1 f b1.good) rfl (aX (mM as2 false b2.good) rfl gnl))
   ·induction df<;>exact .atom rfl rfl,rfl⟩
theorem Rows.good:∀rs:Rows,∀v∈rs.ts,Good v∧ci v=true
 | .nil=>fun _ h=>by cases h
 | .cons r rs=>aX r.good.1 r.good.2 rs.good
end
mutual
noncomputable def Row.cnt:Row→Nat
 | .ite _ y n=>1+y.cnt+n.cnt
 | .loop _ _ _ _ b=>1+b.cnt
 | .switch _ _ _ _ b1 _ _ b2 _=>1+b1.cnt+b2.cnt
 |_=>1
noncomputable def Rows.cnt:Rows→Nat
 | .nil=>0
 | .cons r rs=>r.cnt+rs.cnt
end
theorem pf:∀(as:List Ask),aL (as.map Ask.e)=6*as.length
 |[]=>rfl
 |a::as=>by
  have:=pf as
  show szV a.e+aL (as.map Ask.e)=_
  rw[this]
  simp[Ask.e,mz,At.e,cG,eC,ac,bg,szV,aL,S,nat];exact Nat.le_antisymm (lin [_] .e (.a (.n 6) (.m 6 (.v 0))) (.m 6 (.a (.v 0) (.n 1))) rfl) (lin [_] .e (.m 6 (.a (.v 0) (.n 1))) (.a (.n 6) (.m 6 (.v 0))) rfl)
mutual
theorem Row.size(many:Nat):∀(r:Row) (o:List (Nat×Bool)) (a b a' b':Nat),r.wf many o a b a' b'→szV r.t≤60*r.cnt
 | .print p,_,_,_,_,_,_=>by simp[Row.t,Row.cnt,bF,cG,szV,aL,S,ac,nat]
 | .add p k,_,_,_,_,_,_=>by simp[Row.t,Row.cnt,iX,cG,eC,szV,aL,S,ac,nat]
 | .jump br m,_,_,_,_,_,_=>by induction br<;>simp[Row.t,Row.cnt,szV,aL,S,nat]
 | .ite q y n,o,a,b,a',b',h=>by
  obtain⟨_,a1,b1,hy,hn⟩:=h
  have h1:=y.size many _ _ _ _ _ hy
  have h2:=n.size many _ _ _ _ _ hn
  have h3:szV (pj (n.opt n.ts))≤2+aL n.ts:=by cases n<;>simp[Rows.opt,pj,cN,szV,aL,S];exact lin [_] .e (.a (.n 1) (.a (.n 1) (.v 0))) (.a (.n 2) (.v 0)) rfl
  simp[Row.t,Row.cnt,Ask.e,mz,At.e,cG,eC,ac,bg,cN,szV,aL,S,nat] at h3 ⊢;exact lin [_,_,_,_,_] (.c 1 (.v 0) (.m 60 (.v 2)) (.c 1 (.v 4) (.m 60 (.v 3)) (.c 1 (.v 1) (.a (.n 2) (.v 4)) .e))) (.a (.n 1) (.a (.n 6) (.a (.a (.n 1) (.a (.n 1) (.v 0))) (.v 1)))) (.m 60 (.a (.a (.n 1) (.v 2)) (.v 3))) rfl h1 h2 h3
 | .loop w num l most y,o,a,b,a',b',h=>by
  obtain⟨_,_,_,_,hy⟩:=h
  have h1:=y.size many _ _ _ _ _ hy
  induction w<;>simp[Row.t,Row.cnt,zM,Ec,Dk,G7,bF,iX,fe,vThree,cH,mz,At.e,cG,eC,ac,bg,cN,szV,aL,S,nat]<;>(first|exact(lin [_,_] (.c 1 (.v 0) (.m 60 (.v 1)) .e) (.a (.n 1) (.a (.n 1) (.a (.n 5) (.a (.n 1) (.a (.n 1) (.a (.n 6) (.a (.n 6) (.a (.n 1) (.a (.n 1) (.a (.n 7) (.v 0))))))))))) (.m 60 (.a (.n 1) (.v 1))) rfl h1)|exact(lin [_,_] (.c 1 (.v 0) (.m 60 (.v 1)) .e) (.a (.n 1) (.a (.n 2) (.a (.n 2) (.a (.n 1) (.a (.n 1) (.a (.n 7) (.v 0))))))) (.m 60 (.a (.n 1) (.v 1))) rfl h1)|exact lin [_,_] (.c 1 (.v 0) (.m 60 (.v 1)) .e) (.a (.n 1) (.a (.n 3) (.a (.n 5) (.a (.n 1) (.a (.n 1) (.a (.n 9) (.v 0))))))) (.m 60 (.a (.n 1) (.v 1))) rfl h1)
 | .switch num l most as1 y f as2 z df,o,a,b,a',b',h=>by
  obtain⟨_,_,_,_,l1,l2,a1,b1,hy,hz⟩:=h
  have h1:=y.size many _ _ _ _ _ hy
  have h2:=z.size many _ _ _ _ _ hz
  have s1:=pf as1
  have s2:=pf as2
  induction df<;>simp[Row.t,Row.cnt,bp,aP,Dfl.v,szV,aL,S,nat]<;>exact lin [_,_,_,_,_,_,_,_] (.c 6 (.v 6) (.n 2) (.c 6 (.v 7) (.n 2) (.c 1 (.v 1) (.m 60 (.v 4)) (.c 1 (.v 3) (.m 60 (.v 5)) (.c 1 (.v 0) (.m 6 (.v 6)) (.c 1 (.v 2) (.m 6 (.v 7)) .e)))))) (.a (.n 1) (.a (.n 1) (.a (.a (.n 1) (.a (.a (.n 1) (.v 0)) (.a (.n 1) (.v 1)))) (.a (.n 1) (.a (.a (.n 1) (.v 2)) (.a (.n 1) (.v 3))))))) (.m 60 (.a (.a (.n 1) (.v 4)) (.v 5))) rfl l1 l2 h1 h2 (leq s1) (leq s2)
theorem Rows.size(many:Nat):∀(r:Rows) (o:List (Nat×Bool)) (a b a' b':Nat),r.wf many o a b a' b'→aL r.ts≤60*r.cnt
 | .nil,_,_,_,_,_,_=>by simp[Rows.ts,aL]
 | .cons r rs,o,a,b,a',b',h=>by
  obtain⟨a1,b1,h1,h2⟩:=h
  have q1:=r.size many _ _ _ _ _ h1
  have q2:=rs.size many _ _ _ _ _ h2
  simp[Rows.ts,Rows.cnt,aL];exact lin [_,_,_,_] (.c 1 (.v 0) (.m 60 (.v 2)) (.c 1 (.v 1) (.m 60 (.v 3)) .e)) (.a (.v 0) (.v 1)) (.m 60 (.a (.v 2) (.v 3))) rfl q1 q2
end
end
noncomputable def st0(e:bX):St:=⟨[],[],[],[],[],[],[],[],[],[],[],[],[],[],[.idd []],r15,r16,[tfn e],[],[],[],[],[],[],[],[],[],[]⟩
noncomputable def yl(e:bX):St:=⟨[],[],[],[],[],[],[],[],[],[],[],[],[],[],[.idd []],r15,r16,[tfn e],[d8],[],[],[],[],[],[],[],[],[]⟩
noncomputable def AB:List (Str×V):=[(x "world",.ref 15 0),(x "typed_fn",.ref 17 0),(x "boxed",.fset),(x "known",.ref 18 0),(x "held",.ref 20 0),(x "sites",.int 0),(x "loops",.ref 21 0),(x "has_defers",.bool false),(x "spot",.int 0)]
noncomputable def st1(e:bX):St:=⟨[],[],[],[],[],[],[],[],[],[],[],[],[],[],[.idd []],r15,r16,[tfn e],[d8],[.inst 22 []],[],[],[],[],[],[],[],[]⟩
noncomputable def HC(e:bX):St:=⟨[],[],[],[],[],[],[],[],[],[],[],[],[],[],[.idd []],r15,r16,[tfn e],[d8],[.inst 22 AB],[.idd []],[.idd []],[.inst 16 []],[],[.list []],[],[],[]⟩
noncomputable def st2(e:bX):St:=⟨[],[],[],[],[],[],[],[],[],[],[],[],[],[],[.idd []],r15,r16,[tfn e],[d8],[.inst 22 AB],[.idd []],[.idd []],[hH .none],[.list []],[.list []],[],[],[]⟩
noncomputable def HN(e:bX):St:=⟨[],[],[],[],[],[],[],[],[],[],[],[],[],[],[.idd []],r15,r16,[tfn e],[d8],[.inst 22 (AB++[(x "code",.ref 22 0)])],[.idd []],[.idd []],[hH .none],[.list []],[.list []],[],[],[]⟩
noncomputable def st3(e:bX):St:=⟨[],[],[],[],[],[],[],[],[],[],[],[],[],[],[.idd []],r15,r16,[tfn e],[d8],[.inst 22 (AB++[(x "code",.ref 22 0)])],[.idd []],[.idd []],[hH .none],[.list []],[.list [.ref 25 0]],[.list [.ref 26 0,.none]],[.list []],[]⟩
noncomputable def c0:Cst:=⟨[],[([],.none)],[],[],0⟩
section
variable{X:CR}{d n:Nat}(e:bX)
theorem pT(hd:1≤d):Ok X d 17000 [.ref 22 0,S "main.f",.int 0,.lst [],.ref 24 0,.int 0,.int 0] (HC e) .none (st2 e):=
 Ok.by (by decide +kernel) hd [] (Tn (rfl:true=true) (Tn (rfl:true=true) (Tn (rfl:true=true) (Tn (rfl:true=true) (Tn (rfl:true=true) (Tn (rfl:true=true) (Tn (rfl:true=true) id))))))) (by kernel_rfl)
theorem Ai(hd:1≤d):Ok X d 23002 [stV] (HN e) (nat 0) (st3 e):=
 Ok.by (by decide +kernel) hd [] (Tn (by decide:0≤100000) id) (by kernel_rfl)
theorem zQ(hd:2≤d):Ok X d 23000 [stV,.ref 15 0,.ref 17 0,.edict,.ref 18 0] (st1 e) .none (enc e c0):=
 Ok.by (by decide +kernel) (om1 hd) [.call .none (st2 e),.call (nat 0) (st3 e)]
  (Tn (rfl:true=true) (Tn (rfl:true=true) (Tn (rfl:true=true) (Tn (rfl:true=true) (Tn (rfl:true=true) (Tn (rfl:true=true) (Tn (rfl:true=true) (Tn (rfl:true=true) (Tn (rfl:true=true) (Tn (pT (X:=X) (d:=d-1) e (om2 hd)) (Tn (rfl:true=true) (Tn (Ai (X:=X) (d:=d-1) e (om2 hd)) (Tn (rfl:true=true) id))))))))))))) (by kernel_rfl)
theorem tm(c:Cst)(hd:1≤d):Ok X d 104 [stV] (enc e c) .none (enc e c):=
 Ok.by (by decide +kernel) (xe hd) [] (Tn bB (Tn bB (Tn bB (Tn bB id)))) (by kernel_rfl)
noncomputable def cM:V:= .tup [S "return",.tup []]
theorem pF(c:Cst)(hd:3≤d)(h:B c n):Ok X d 102 [stV] (enc e c) .none (enc e (endB c cM)):=
 Ok.by (by decide +kernel) (om0 hd) [.call .none (enc e (endB c cM))] (Tn (xI (X:=X) (d:=d-1) e c (om3 hd) cM h) id) (by kernel_rfl)
theorem j0(hd:3≤d)(hg:∀v∈e.body,Good v∧ci v=true)(hs:aL e.body≤100000):Ok X d 12 [.ref 17 0,.ref 15 0] (yl e) .edict (yl e):=by
 obtain⟨lv',r⟩:=vV (X:=X) (d:=d-1) (st:=yl e) (om3 hd) (aL e.body) e.body .unb (.inl rfl) (Nat.le_refl _) hg hs
 exact Ok.by (by decide +kernel) (om0 hd) [.loop 67 .next (cP [] lv') (yl e)] (Tn bB (Tn bB (Tn (rfl:true=true) (Tn r id)))) (by kernel_rfl)
noncomputable def eLet3:V:= .tup [S "let",.int 0,.tup [.int 0,.int 1,.int 2],.tup [eC ac (.int 0),eC ac (.int 1),eC ac (.int 3)]]
noncomputable def c3:Cst:=beginL (beginL (beginL c0 0 (cOp ac (.int 0))) 1 (cOp ac (.int 1))) 2 (cOp ac (.int 3))
theorem zp(c:Cst)(hd:4≤d):Ok X d 97 [stV,.tup [eC ac (.int 0),eC ac (.int 1),eC ac (.int 3)]] (enc e c) (.lst [cOp ac (.int 0),cOp ac (.int 1),cOp ac (.int 3)]) (enc e c):=by
 have q:∀k:Int,Ok X (d-1) 23018 [stV,eC ac (.int k)] (enc e c) (cOp ac (.int k)) (enc e c):=fun k=>eE e c (Bw hd) (dE e c (lin [_,_,_] (.c 1 (.n 4) (.v 1) (.c 1 (.v 2) (.a (.v 0) (.n 1)) (.c 1 (.v 1) (.a (.v 2) (.n 1)) .e))) (.n 2) (.v 0) rfl hd (lsa _ _) (lsa _ _)) ac (.int k))
 have p:∀k:Int,Ok X (d-1) 23016 [stV,cOp ac (.int k),ac] (enc e c) (cOp ac (.int k)) (enc e c):=fun k=>lU e c (Bw hd) ac [ac,.int k]
 exact Ok.by (by decide +kernel) (om8 hd) [.call (cOp ac (.int 0)) (enc e c),.call (cOp ac (.int 0)) (enc e c),.call (cOp ac (.int 1)) (enc e c),.call (cOp ac (.int 1)) (enc e c),.call (cOp ac (.int 3)) (enc e c),.call (cOp ac (.int 3)) (enc e c)]
  (Tn (q 0) (Tn (p 0) (Tn (q 1) (Tn (p 1) (Tn (q 3) (Tn (p 3) id)))))) (by kernel_rfl)
theorem B.c0{n:Nat}(h:n≤90000):B c0 n:=⟨by decide,by show 1+n≤100000;exact lin [_] (.c 1 (.v 0) (.n 90000) .e) (.a (.n 1) (.v 0)) (.n 100000) rfl h⟩
theorem Bn(hd:7≤d)(hm:3≤e.many):Ok X d 95 [stV,eLet3] (enc e c0) .none (enc e c3):=by
 have b0:B c0 9:=B.c0 (lin [] .e (.n 9) (.n 90000) rfl)
 have b1:B (beginL c0 0 (cOp ac (.int 0))) 6:=b0.beginL _ _
 have b2:B (beginL (beginL c0 0 (cOp ac (.int 0))) 1 (cOp ac (.int 1))) 3:=b1.beginL _ _
 have p1:=fZ (X:=X) (d:=d-1-1-1) e c0 (A4 hd) (l:=0) (cOp ac (.int 0)) (om0 hm) rfl (b0.mono (lin [] .e (.n 3) (.n 9) rfl))
 have p2:=fZ (X:=X) (d:=d-1-1-1) e (beginL c0 0 (cOp ac (.int 0))) (A4 hd) (l:=1) (cOp ac (.int 1)) (lin [_] (.c 1 (.n 3) (.v 0) .e) (.a (.n 1) (.n 1)) (.v 0) rfl hm) rfl (b1.mono (lin [] .e (.n 3) (.n 6) rfl))
 have p3:=fZ (X:=X) (d:=d-1-1-1) e (beginL (beginL c0 0 (cOp ac (.int 0))) 1 (cOp ac (.int 1))) (A4 hd) (l:=2) (cOp ac (.int 3)) (lin [_] (.c 1 (.n 3) (.v 0) .e) (.a (.n 2) (.n 1)) (.v 0) rfl hm) rfl b2
 have h1:Ok X (d-1-1) 99 [stV,.tup [.int 0,.int 1,.int 2],.tup [eC ac (.int 0),eC ac (.int 1),eC ac (.int 3)]] (enc e c0) .none (enc e c3):=
  Ok.by (by decide +kernel) (lin [_,_,_] (.c 1 (.n 7) (.v 1) (.c 1 (.v 2) (.a (.v 0) (.n 1)) (.c 1 (.v 1) (.a (.v 2) (.n 1)) .e))) (.a (.n 0) (.n 1)) (.v 0) rfl hd (lsa _ _) (lsa _ _)) [.call (.lst [cOp ac (.int 0),cOp ac (.int 1),cOp ac (.int 3)]) (enc e c0),.call .none (enc e (beginL c0 0 (cOp ac (.int 0)))),.call .none (enc e (beginL (beginL c0 0 (cOp ac (.int 0))) 1 (cOp ac (.int 1)))),.call .none (enc e c3)]
   (Tn (zp (X:=X) (d:=d-1-1-1) e c0 (A4 hd)) (Tn bB (Tn p1 (Tn p2 (Tn p3 id))))) (by kernel_rfl)
 exact bR e c0 (lin [_] (.c 1 (.n 7) (.v 0) .e) (.n 1) (.v 0) rfl hd) "let" _ _ (.inr (.inl rfl)) (Ok.by (by decide +kernel) (lin [_,_] (.c 1 (.n 7) (.v 1) (.c 1 (.v 1) (.a (.v 0) (.n 1)) .e)) (.a (.n 0) (.n 1)) (.v 0) rfl hd (lsa _ _)) [.call .none (enc e c3)] (Tn h1 id) (by kernel_rfl))
theorem Cs(many:Nat):St1 many c3 [] 0 3:=by
 refine⟨Nat.le_refl _,fun p hp=> ?_,fun l hl=> ?_,fun _ _ h=>(by cases h),fun _ _ h=>(by cases h)⟩
 ·have:p=0∨p=1∨p=2:=by omega
  rcases this with rfl|rfl|rfl<;>rfl
 ·have h:c3.held=[(Int.ofNat 0,nat 0),(Int.ofNat 1,nat 1),(Int.ofNat 2,nat 2)]:=by kernel_rfl
  rw[h]
  have n0:¬Int.ofNat 0=Int.ofNat l:=aT (Nat.ne_of_lt (lin [_] (.c 1 (.n 3) (.v 0) .e) (.a (.n 0) (.n 1)) (.v 0) rfl hl))
  have n1:¬Int.ofNat 1=Int.ofNat l:=aT (Nat.ne_of_lt (lin [_] (.c 1 (.n 3) (.v 0) .e) (.a (.n 1) (.n 1)) (.v 0) rfl hl))
  have n2:¬Int.ofNat 2=Int.ofNat l:=aT (Nat.ne_of_lt (lin [_] (.c 1 (.n 3) (.v 0) .e) (.a (.n 2) (.n 1)) (.v 0) rfl hl))
  unfold ag
  rw[decide_eq_false n0]
  dsimp only
  unfold ag
  rw[decide_eq_false n1]
  dsimp only
  unfold ag
  rw[decide_eq_false n2]
  rfl
theorem B.c3{n:Nat}(h:n≤80000):B c3 n:=by
 have b0:B Mine.c0 (n+9):=B.c0 (lin [_] (.c 1 (.v 0) (.n 80000) .e) (.a (.v 0) (.n 9)) (.n 90000) rfl h)
 exact((b0.beginL _ _).beginL _ _).beginL _ _
noncomputable def cQ(rs:Rows):Cst:=endB (rs.c c3) cM
theorem Aj(rs:Rows)(hd:3+12+8*rs.dep≤d){a' b':Nat}(h:rs.wf e.many [] 0 3 a' b')(hm:3≤e.many)(hc:rs.cost≤70000):Ok X d 94 [stV,.tup (eLet3::rs.ts)] (enc e c0) .none (enc e (rs.c c3)):=by
 exact be (lin [_,_] (.c 1 (.a (.a (.n 3) (.n 12)) (.m 8 (.v 1))) (.v 0) .e) (.n 1) (.v 0) rfl hd) (.cons (Bn e (lin [_,_,_] (.c 1 (.a (.a (.n 3) (.n 12)) (.m 8 (.v 1))) (.v 2) (.c 1 (.v 2) (.a (.v 0) (.n 1)) .e)) (.n 7) (.v 0) rfl hd (lsa _ _)) hm) (rs.okc e [] 0 3 a' b' 1 (d-1) c3 h (Cs _) (B.c3 (lin [_] (.c 1 (.v 0) (.n 70000) .e) (.a (.v 0) (.n 1)) (.n 80000) rfl hc)) (lin [_,_,_] (.c 1 (.a (.a (.n 3) (.n 12)) (.m 8 (.v 0))) (.v 2) (.c 1 (.v 2) (.a (.v 1) (.n 1)) .e)) (.a (.n 12) (.m 8 (.v 0))) (.v 1) rfl hd (lsa _ _))))
end
noncomputable def DZ:V→V
 | .none=>cM
 |t=>t
noncomputable def finB(b:List V×V):List V×V:=(b.1,DZ b.2)
noncomputable def fH(c:Cst)(l:List (List V×V)):Cst:={c with blks:=l}
def mT(t:V):Prop:=t = .none∨∃xs,t = .tup xs
noncomputable def oJ(lv:LV):Rho:=[(x "self",.v stV),(x "block",lv)]
theorem sB(ds rs:List (List V×V))(p:List V×V)(f:List V×V→List V×V):(ds++p::rs).modify ds.length f=ds++f p::rs:=by
 induction ds with
 |nil=>rfl
 |cons d ds ih=>
  show d::(ds++p::rs).modify ds.length f=_
  rw[ih];rfl
section
variable{X:CR}{d n:Nat}(e:bX)
theorem uq{C:CR}(c:Cst):∀(rs ds:List (List V×V)) (lv:LV) (m:Nat),bS lv→(∀p∈rs,mT p.2)→ds.length+rs.length=m→
  ∃lv',bS lv'∧ForR (asgN 9 (iE (aY (aG 23022) 0))) (bP (evN C 39) (cxG 23022) (iV (aY (aG 23022) 0))) (cR (b24 m 0) (some (24,0))) (b24 rs.length ds.length) (oJ lv) (enc e (fH c (ds.map finB++rs))) .next (oJ lv') (enc e (fH c ((ds++rs).map finB)))
 |[],ds,lv,m,hlv,_,hm=>⟨lv,hlv,by
   rw[List.append_nil,List.append_nil]
   refine .nil _ _ ?_
   show(some (O.list (b24 (ds.map finB).length 0)))=some (.list (b24 m 0))
   rw[List.length_map,show ds.length=m by simpa using hm]⟩
 |p::rs,ds,lv,m,hlv,hp,hm=>by
  simp only[List.length_cons] at hm
  obtain⟨lv',o,r⟩:=uq (C:=C) c rs (ds++[p]) (.v (.ref 25 ds.length)) m (.inr ⟨_,rfl⟩) (fun q hq=>hp q (List.mem_cons_of_mem _ hq)) (by simp;exact FC hm)
  have e1:(ds++[p]).map finB++rs=ds.map finB++finB p::rs:=by simp
  have e2:ds++[p]++rs=ds++p::rs:=by simp
  rw[e1,e2,show(ds++[p]).length=ds.length+1 by simp] at r
  refine⟨lv',o,.step (ρ₀:=oJ (.v (.ref 25 ds.length))) (ρ₁:=oJ (.v (.ref 25 ds.length))) (st₁:=enc e (fH c (ds.map finB++finB p::rs))) ?_ ?_ ?_ (.inl rfl) r⟩
  ·show(some (O.list (b24 (ds.map finB++p::rs).length 0)))=some (.list (b24 m 0))
   rw[show(ds.map finB++p::rs).length=m by simp;exact(Nat.le_antisymm (lin [_,_,_] (.c 1 (.a (.v 0) (.a (.v 1) (.n 1))) (.v 2) .e) (.a (.v 0) (.a (.v 1) (.n 1))) (.v 2) rfl (leq hm)) (lin [_,_,_] (.c 1 (.v 0) (.a (.v 1) (.a (.v 2) (.n 1))) .e) (.v 0) (.a (.v 1) (.a (.v 2) (.n 1))) rfl (leq hm.symm)))]
  ·rcases hlv with rfl|⟨u,rfl⟩<;>kernel_rfl
  ·have hget:(ds.map finB++p::rs)[ds.length]? = some (p.1,p.2):=by
    rw[List.getElem?_append_right (by simp)];simp
   have hb:=kZ hget
   rcases hp p List.mem_cons_self with h2|⟨xs,h2⟩
   ·have hup:(enc e (fH c (ds.map finB++p::rs))).upd 25 ds.length (.list [.ref 26 ds.length,cM])=enc e (fH c (ds.map finB++finB p::rs)):=by
     have h1:=oB (ds.map finB++p::rs) 0 ds.length p.2 cM p.1 hget
     rw[Nat.zero_add] at h1
     have h3:=oQ (ds.map finB++p::rs) ds.length cM
     have h4:(ds.map finB++p::rs).modify ds.length (dO cM)=ds.map finB++finB p::rs:=by
      have:=sB (ds.map finB) rs p (dO cM)
      rw[List.length_map] at this
      rw[this]
      unfold dO finB;rw[h2];rfl
     rw[h4] at h1 h3
     have h0:(enc e (fH c (ds.map finB++p::rs))).upd 25 ds.length (.list [.ref 26 ds.length,cM])=xm e (nat c.here) (.int 0) c.held c.loops c.regs (b24 (ds.map finB++p::rs).length 0) ((b25 (ds.map finB++p::rs) 0).set ds.length (.list [.ref 26 ds.length,cM])) (b26 (ds.map finB++p::rs)):=by kernel_rfl
     rw[h0,←h1,←h3]
     unfold enc fH
     simp
    rw[h2] at hb
    exact⟨[.cell 240 (.list [.ref 26 ds.length,.none]),.cell 241 (.list [.ref 26 ds.length,.none])],evG (P:=(b25 (ds.map finB++p::rs) 0)[ds.length]? = some (.list [.ref 26 ds.length,.none])∧(b25 (ds.map finB++p::rs) 0)[ds.length]? = some (.list [.ref 26 ds.length,.none])∧1<2∧Fl.next=Fl.next∧oJ (.v (.ref 25 ds.length))=oJ (.v (.ref 25 ds.length))∧(enc e (fH c (ds.map finB++p::rs))).upd 25 ds.length (.list [.ref 26 ds.length,cM])=enc e (fH c (ds.map finB++finB p::rs)))
     ⟨hb,hb,by decide,rfl,rfl,hup⟩ (by kernel_rfl)⟩
   ·have hf:finB p=p:=by unfold finB;rw[h2];obtain⟨p1,p2⟩:=p;simp at h2;subst h2;rfl
    rw[hf]
    rw[h2] at hb
    exact⟨[.cell 240 (.list [.ref 26 ds.length,.tup xs])],evG (P:=(b25 (ds.map finB++p::rs) 0)[ds.length]? = some (.list [.ref 26 ds.length,.tup xs])∧Fl.next=Fl.next∧oJ (.v (.ref 25 ds.length))=oJ (.v (.ref 25 ds.length))∧enc e (fH c (ds.map finB++p::rs))=enc e (fH c (ds.map finB++p::rs))) ⟨hb,rfl,rfl,rfl⟩ (by kernel_rfl)⟩
inductive TF(n:Nat):V→Prop
 |ret:TF n cM
 |jmp (b:Nat):b<n→TF n (jmp b)
 |br (r a b:Nat):a<n→b<n→TF n (brT r a b)
def Tgt(t:V)(b:Nat):Prop:=t=jmp b∨∃r a b',t=brT r a b'∧(b=a∨b=b')
noncomputable def aV(l:List Nat):List V:=l.map nat
noncomputable def lW(l:List Nat):List (Int×V):=l.map fun b=>(Int.ofNat b,.bool true)
theorem iN{a b:Nat}(h:nat a=nat b):a=b:=by injection h with h;exact Int.ofNat.inj h
theorem uM{a b:Nat}(h:jmp a=jmp b):a=b:=by injection h with h;simp at h;exact iN h
theorem tR{r a b r' a' b':Nat}(h:brT r a b=brT r' a' b'):r=r'∧a=a'∧b=b':=by
 injection h with h
 simp[reg] at h
 exact⟨iN h.1,iN h.2.1,iN h.2.2⟩
theorem Ar(hd:1≤d){t:V}{st:St}(h:TF n t):∃l,Ok X d 17 [t] st (.lst (aV l)) st∧(∀b,Tgt t b→b∈l)∧(∀b∈l,b<n)∧l.length≤2:=by
 induction h with
 |ret=>exact⟨[],Ok.by (by decide +kernel) hd [] id (by kernel_rfl),fun b hb=>by
   rcases hb with h|⟨r,a,b',h,_⟩
   ·injection h with h
    simp only[List.cons.injEq,and_true] at h
    exact absurd h.2 (by intro q;cases q)
   ·injection h with h;simp at h,(fun _ h=>by cases h),by simp⟩
 |jmp b hb=>exact⟨[b],Ok.by (by decide +kernel) hd [] id (by kernel_rfl),fun b' hb=>by
   rcases hb with h|⟨r,a,b'',h,_⟩
   ·rw[uM h];simp
   ·injection h with h;simp at h,fun _ h=>by simp at h;rw[h];exact hb,by simp⟩
 |br r a b ha hb=>
  have tg:∀b',Tgt (brT r a b) b'→b'=a∨b'=b:=fun b' h=>by
   rcases h with h|⟨r',a',b'',h,q⟩
   ·injection h with h;simp at h
   ·obtain⟨_,h1,h2⟩:=tR h
    rw[h1,h2];exact q
  by_cases hab:a=b
  ·refine⟨[a],Ok.by (by decide +kernel) hd [.br 113 true,.br 113 true] (Tn (congrArg some (decide_eq_true (congrArg Int.ofNat hab)):some (decide (Int.ofNat a=Int.ofNat b))=some true) (Tn (rfl:true=true) id)) (by kernel_rfl),fun b' h=> ?_,fun _ h=>by simp at h;rw[h];exact ha,by simp⟩
   rcases tg b' h with q|q<;>simp[q,hab]
  ·refine⟨[a,b],Ok.by (by decide +kernel) hd [.br 113 false,.br 113 false] (Tn (congrArg some (decide_eq_false (aT hab)):some (decide (Int.ofNat a=Int.ofNat b))=some false) (Tn (rfl:false=false) id)) (by kernel_rfl),fun b' h=> ?_,fun _ h=>by simp at h;rcases h with rfl|rfl<;>assumption,by simp⟩
   rcases tg b' h with q|q<;>simp[q]
theorem i4(b:Nat):∀l:List Nat,(ag (Int.ofNat b) (lW l)).isSome=decide (b∈l)
 |[]=>by simp[lW,ag]
 |a::l=>by
  show(ag (Int.ofNat b) ((Int.ofNat a,V.bool true)::lW l)).isSome=_
  unfold ag
  by_cases h:a=b
  ·subst h;simp
  ·rw[decide_eq_false (aT h)]
   rw[i4 b l]
   have:¬b=a:=fun q=>h q.symm
   simp[this]
theorem lM{α:Type}(k:Int)(v:α):∀l:List (Int×α),(ag k l).isSome=false→aZ k v l=l++[(k,v)]
 |[],_=>rfl
 |p::r,h=>by
  unfold ag at h
  unfold aZ
  by_cases e:p.1=k
  ·rw[decide_eq_true e] at h;cases h
  ·rw[decide_eq_false e] at h ⊢
   dsimp only at h ⊢
   rw[lM k v r h];rfl
theorem td:∀(n:Nat) (l:List Nat),l.Nodup→(∀x∈l,x<n)→l.length≤n
 |0,l,_,h=>by induction l with|nil=>simp|cons a l=>exact absurd (h a List.mem_cons_self) (Nat.not_lt_of_le (lin [_] .e (.n 0) (.v 0) rfl))
 |n+1,l,nd,h=>by
  have h1:=td n (l.erase n) (nd.erase n) fun x hx=>by
   have:=h x (List.mem_of_mem_erase hx)
   have:x≠n:=fun q=>by subst q;exact(List.Nodup.not_mem_erase nd) hx
   omega
  have:l.length≤(l.erase n).length+1:=by
   rw[List.length_erase];split<;>(first|exact(lin [_,_] (.c 1 (.v 0) (.a (.v 1) (.n 1)) .e) (.v 0) (.a (.v 1) (.n 1)) rfl (lsa _ _))|exact vT)
  exact lin [_,_,_] (.c 1 (.v 2) (.v 1) (.c 1 (.v 0) (.a (.v 2) (.n 1)) .e)) (.v 0) (.a (.v 1) (.n 1)) rfl h1 this
noncomputable def j3(fs ws:List V)(ms:List (Int×V))(lv:LV):Rho:=[(x "code",.v (.ref 22 0)),(x "found",.ol fs),(x "waiting",.ol ws),(x "met",.od ms),(x "block",lv)]
noncomputable def GO{C:CR}:=iI (evN C 39) (cxG 18) (whT (aY (aG 18) 1))
noncomputable def D9{C:CR}:=bP (evN C 39) (cxG 18) (whB (aY (aG 18) 1))
theorem vv{C:CR}{st:St}(fs ws:List V)(ms:List (Int×V))(lv:LV)(hlv:bS lv)(b:Nat)(h:(ag (Int.ofNat b) ms).isSome=true): @D9 C (j3 fs (ws++[nat b]) ms lv) st .next (j3 fs ws ms (.v (nat b))) st:=by
 rcases hlv with rfl|⟨u,rfl⟩<;>
 exact⟨[.pop 118 ws (nat b),.br 119 false],evG (P:=ws++[nat b]=ws++[nat b]∧some (!(ag (Int.ofNat b) ms).isSome)=some false∧Fl.next=Fl.next∧j3 fs ws ms (.v (nat b))=j3 fs ws ms (.v (nat b))∧st=st) ⟨rfl,by rw[h];rfl,rfl,rfl,rfl⟩ (by kernel_rfl)⟩
theorem v9{C:CR}{st:St}(fs ws:List V)(ms:List (Int×V))(lv:LV)(hlv:bS lv)(b:Nat)(hcode:(st.get 22)[0]? = some (hH .none))(h:(ag (Int.ofNat b) ms).isSome=false)(l:List V){t:V}(h1:C 17002 [.ref 22 0,nat b] st t st)(h2:C 17 [t] st (.lst l) st)(z1:ms.length≤100000)(z2:fs.length≤100000)(z3:ws.length≤100000∧l.reverse.length≤100000):
  @D9 C (j3 fs (ws++[nat b]) ms lv) st .next (j3 (fs++[nat b]) (ws++l.reverse) (aZ (Int.ofNat b) (.bool true) ms) (.v (nat b))) st:=by
 rcases hlv with rfl|⟨u,rfl⟩<;>
 exact⟨[.pop 118 ws (nat b),.br 119 true,.cell 122 (hH .none),.call t st,.call (.lst l) st],evG (P:=ws++[nat b]=ws++[nat b]∧some (!(ag (Int.ofNat b) ms).isSome)=some true∧ms.length≤100000∧fs.length≤100000∧(st.get 22)[0]? = some (hH .none)∧C 17002 [.ref 22 0,nat b] st t st∧C 17 [t] st (.lst l) st∧(ws.length≤100000∧l.reverse.length≤100000)∧Fl.next=Fl.next∧
  j3 (fs++[nat b]) (ws++l.reverse) (aZ (Int.ofNat b) (.bool true) ms) (.v (nat b))=j3 (fs++[nat b]) (ws++l.reverse) (aZ (Int.ofNat b) (.bool true) ms) (.v (nat b))∧st=st) ⟨rfl,by rw[h];rfl,z1,z2,hcode,h1,h2,z3,rfl,rfl,rfl⟩ (by kernel_rfl)⟩
structure C2(c:Cst)(fs:List Nat):Prop where
 nd:fs.Nodup
 lt:∀b∈fs,b<c.blks.length
 closed:∀b∈fs,∀(xs:List V) (t:V) (b':Nat),c.blks[b]? = some (xs,t)→Tgt t b'→b'∈fs
 zero:0∈fs
inductive HQ(X:CR)(e:bX)(c:Cst)(d:Nat)(fs ws:List Nat)(lv:LV):Prop
 |mk (fs':List Nat) (lv':LV) (r:C2 c fs') (w:WhileR (@GO (Ok X d)) (@D9 (Ok X d)) (j3 (aV fs) (aV ws) (lW fs) lv) (enc e c) .next (j3 (aV fs') [] (lW fs') lv') (enc e c))
theorem dfs(c:Cst)(hd:1≤d)(hn:c.blks.length≤90000)(ht:∀(b:Nat) (xs:List V) (t:V),c.blks[b]? = some (xs,t)→TF c.blks.length t):∀(k:Nat) (fs ws:List Nat) (lv:LV),bS lv→3*(c.blks.length-fs.length)+ws.length≤k→fs.Nodup→(∀b∈fs,b<c.blks.length)→(∀b∈ws,b<c.blks.length)→
  (∀b∈fs,∀(xs:List V) (t:V) (b':Nat),c.blks[b]? = some (xs,t)→Tgt t b'→b'∈fs∨b'∈ws)→(0∈fs∨0∈ws)→ws.length≤fs.length+1→
  HQ X e c d fs ws lv:=by
 intro k
 induction k with
 |zero=>
  intro fs ws lv hlv hk nd hf hw hc hz hl
  have:ws=[]:=List.eq_nil_of_length_eq_zero (Nat.le_antisymm (lin [_,_] (.c 1 (.a (.m 3 (.v 1)) (.v 0)) (.n 0) .e) (.v 0) (.n 0) rfl hk) (lin [_] .e (.n 0) (.v 0) rfl))
  subst this
  exact⟨fs,lv,⟨nd,hf,fun b hb xs t b' h1 h2=>(hc b hb xs t b' h1 h2).elim id fun q=>(by cases q),hz.elim id fun q=>(by cases q)⟩,.stop ⟨[],evG (P:=false=false∧enc e c=enc e c) ⟨rfl,rfl⟩ (by kernel_rfl)⟩⟩
 |succ k ih=>
  intro fs ws lv hlv hk nd hf hw hc hz hl
  rcases List.eq_nil_or_concat ws with rfl|⟨ws,b,rfl⟩
  ·exact⟨fs,lv,⟨nd,hf,fun b hb xs t b' h1 h2=>(hc b hb xs t b' h1 h2).elim id fun q=>(by cases q),hz.elim id fun q=>(by cases q)⟩,.stop ⟨[],evG (P:=false=false∧enc e c=enc e c) ⟨rfl,rfl⟩ (by kernel_rfl)⟩⟩
  ·rw[List.concat_eq_append] at *
   simp only[List.length_append,List.length_cons,List.length_nil] at hk hl
   have e1:aV (ws++[b])=aV ws++[nat b]:=List.map_append ..
   have test: @GO (Ok X d) (j3 (aV fs) (aV ws++[nat b]) (lW fs) lv) (enc e c) true (enc e c):=⟨[.br 117 true],evG (P:=some (!(aV ws++[nat b]).isEmpty)=some true∧true=true∧enc e c=enc e c) ⟨oy _ _,rfl,rfl⟩ (by kernel_rfl)⟩
   have hb:b<c.blks.length:=hw b (List.mem_append_right _ List.mem_cons_self)
   by_cases hm:b∈fs
   ·obtain⟨fs',lv',q1,q2⟩:=ih fs ws (.v (nat b)) (.inr ⟨_,rfl⟩) (lin [_,_,_] (.c 1 (.a (.m 3 (.v 0)) (.a (.v 1) (.a (.n 0) (.n 1)))) (.a (.v 2) (.n 1)) .e) (.a (.m 3 (.v 0)) (.v 1)) (.v 2) rfl hk) nd hf (fun w h=>hw w (List.mem_append_left _ h)) (fun f h xs t b' h1 h2=>(hc f h xs t b' h1 h2).elim .inl fun q=>by
      rcases List.mem_append.mp q with q|q
      ·exact .inr q
      ·cases List.mem_singleton.mp q;exact .inl hm) (hz.elim .inl fun q=>by
      rcases List.mem_append.mp q with q|q
      ·exact .inr q
      ·simp at q;subst q;exact .inl hm) (lin [_,_] (.c 1 (.a (.v 0) (.a (.n 0) (.n 1))) (.a (.v 1) (.n 1)) .e) (.v 0) (.a (.v 1) (.n 1)) rfl hl)
    exact⟨fs',lv',q1,e1 ▸ .step test (vv _ _ _ _ hlv b (by rw[i4];simp[hm])) (.inl rfl) q2⟩
   ·obtain⟨⟨xs,t⟩,hget⟩:∃p,c.blks[b]? = some p:=⟨_,List.getElem?_eq_getElem hb⟩
    have htf:=ht b xs t hget
    obtain⟨l,n1,n2,n3,n4⟩:=Ar (X:=X) (d:=d) (st:=enc e c) hd htf
    have hlen:=td c.blks.length (b::fs) (List.nodup_cons.mpr ⟨hm,nd⟩) (fun y hy=>(List.mem_cons.mp hy).elim (fun q=>q▸hb) (hf y))
    simp only[List.length_cons] at hlen
    have e2:aV fs++[nat b]=aV (fs++[b]):=by simp[aV]
    have e3:aV ws++(aV l).reverse=aV (ws++l.reverse):=by simp[aV]
    have e4:aZ (Int.ofNat b) (.bool true) (lW fs)=lW (fs++[b]):=by rw[lM _ _ _ (by rw[i4];simp[hm])];simp[lW]
    obtain⟨fs',lv',q1,q2⟩:=ih (fs++[b]) (ws++l.reverse) (.v (nat b)) (.inr ⟨_,rfl⟩) (by simp;exact GL hk n4 hlen) (by rw[List.nodup_append];exact⟨nd,by simp,fun y hy z hz=>by cases List.mem_singleton.mp hz;exact fun q=>hm (q▸hy)⟩)
     (fun y hy=>by
      rcases List.mem_append.mp hy with q|q
      ·exact hf y q
      ·cases List.mem_singleton.mp q;exact hb)
     (fun y hy=>by
      rcases List.mem_append.mp hy with q|q
      ·exact hw y (List.mem_append_left _ q)
      ·exact n3 y (by simpa using q))
     (fun f h xs' t' b' h1 h2=>by
      rcases List.mem_append.mp h with q|q
      ·rcases hc f q xs' t' b' h1 h2 with q|q
       ·exact .inl (List.mem_append_left _ q)
       ·rcases List.mem_append.mp q with q|q
        ·exact .inr (List.mem_append_left _ q)
        ·cases List.mem_singleton.mp q;exact .inl (List.mem_append_right _ List.mem_cons_self)
      ·cases List.mem_singleton.mp q
       rw[hget] at h1;cases h1
       exact .inr (by simp[n2 b' h2]))
     (hz.elim (fun q=> .inl (List.mem_append_left _ q)) fun q=>by
      rcases List.mem_append.mp q with q|q
      ·exact .inr (List.mem_append_left _ q)
      ·cases List.mem_singleton.mp q;exact .inl (List.mem_append_right _ List.mem_cons_self))
     (by simp;exact lin [_,_,_] (.c 1 (.a (.v 0) (.a (.n 0) (.n 1))) (.a (.v 2) (.n 1)) (.c 1 (.v 1) (.n 2) .e)) (.a (.v 0) (.v 1)) (.a (.a (.v 2) (.n 1)) (.n 1)) rfl hl n4)
    refine⟨fs',lv',q1,e1 ▸ .step test (v9 _ _ _ _ hlv b rfl (by rw[i4];simp[hm]) (aV l) (mC e c hd hget) n1 (by simp[lW];exact GS hn hlen) (by simp[aV];exact GS hn hlen) ⟨by simp[aV];exact lin [_,_,_] (.c 1 (.v 1) (.n 90000) (.c 1 (.a (.v 0) (.a (.n 0) (.n 1))) (.a (.v 2) (.n 1)) (.c 1 (.a (.v 2) (.n 1)) (.v 1) .e))) (.v 0) (.n 100000) rfl hn hl hlen,by simp[aV];exact lin [_] (.c 1 (.v 0) (.n 2) .e) (.v 0) (.n 100000) rfl n4⟩) (.inl rfl) ?_⟩
    rw[e2,e3,e4]
    exact q2
theorem se(c:Cst)(hd:2≤d)(hn:c.blks.length≤90000)(h0:0<c.blks.length)(ht:∀(b:Nat) (xs:List V) (t:V),c.blks[b]? = some (xs,t)→TF c.blks.length t):∃fs,C2 c fs∧Ok X d 18 [.ref 22 0] (enc e c) (.lst (aV fs)) (enc e c):=by
 obtain⟨fs,lv,r,w⟩:=dfs (X:=X) (d:=d-1) e c (om2 hd) hn ht _ [] [0] .unb (.inl rfl) (Nat.le_refl _) .nil (fun _ h=>by cases h) (fun w h=>by simp at h;subst h;exact h0) (fun _ h=>by cases h) (.inr (by decide)) (by decide)
 exact⟨fs,r,Ok.by (by decide +kernel) (om1 hd) [.loop 117 .next (j3 (aV fs) [] (lW fs) lv) (enc e c)] (Tn (rfl:true=true) (Tn w id)) (by kernel_rfl)⟩
theorem mh:∀l:List Nat,iF (aV l)=some (l.map Int.ofNat)
 |[]=>rfl
 |a::l=>by
  show(iF (aV l)).map (Int.ofNat a :: ·)=_
  rw[mh l];rfl
theorem t5:∀l:List Int,(∀i∈l,∃n:Nat,i=Int.ofNat n)→∃ks:List Nat,l=ks.map Int.ofNat
 |[],_=>⟨[],rfl⟩
 |i::l,h=>by
  obtain⟨n,rfl⟩:=h i List.mem_cons_self
  obtain⟨ks,rfl⟩:=t5 l fun j hj=>h j (List.mem_cons_of_mem _ hj)
  exact⟨n::ks,rfl⟩
theorem kM{a b:List Nat}(h:(a.map Int.ofNat).Perm (b.map Int.ofNat)):a.Perm b:=by
 have:=h.map Int.toNat
 simpa [List.map_map,Function.comp_def] using this
theorem sY(st:St)(fs:List Nat)(h:fs.length<64):∃ks:List Nat,ks.Perm fs∧pz st 9 [.lst (aV fs)]=some (.lst (aV ks)):=by
 have p:=iC (fs.map Int.ofNat)
 obtain⟨ks,e⟩:=t5 (hG (fs.map Int.ofNat)) fun i hi=>by
  have:=p.mem_iff.mp hi
  obtain⟨n,_,rfl⟩:=List.mem_map.mp this
  exact⟨n,rfl⟩
 refine⟨ks,kM (e▸p),?_⟩
 have hb:Nat.blt (aV fs).length 64=true:=Nat.ble_eq_true_of_le (by simp[aV];exact G2 h)
 show(match Nat.blt (aV fs).length 64 with|true=>(iF (aV fs)).map fun l=>V.lst ((hG l).map .int)|false=>none)=_
 rw[hb]
 dsimp only
 rw[mh,Option.map_some,e]
 simp[aV,nat]
end
noncomputable def plF:List Nat→Nat→List (Int×V)
 |[],_=>[]
 |k::r,n=>(Int.ofNat k,nat n)::plF r (n+1)
noncomputable def pos:List Nat→Nat→Nat
 |[],_=>0
 |k::r,b=>if k=b then 0 else pos r b+1
theorem om:∀(l:List Nat) (n:Nat),(plF l n).length=l.length
 |[],_=>rfl
 |_::l,n=>by show(plF l (n+1)).length+1=_;rw[om l];rfl
theorem qb:∀(l:List Nat) (n b:Nat),plF (l++[b]) n=plF l n++[(Int.ofNat b,nat (n+l.length))]
 |[],n,b=>rfl
 |k::l,n,b=>by
  show _::plF (l++[b]) (n+1)=_::(plF l (n+1)++_)
  rw[qb l (n+1) b,List.length_cons,show n+1+l.length=n+(l.length+1) by exact qU]
theorem qc:∀(l:List Nat) (n b:Nat),b∈l→ag (Int.ofNat b) (plF l n)=some (nat (n+pos l b))
 |k::l,n,b,h=>by
  show ag (Int.ofNat b) ((Int.ofNat k,nat n)::plF l (n+1))=_
  unfold ag pos
  by_cases e:k=b
  ·subst e;simp
  ·rw[decide_eq_false (aT e),if_neg e]
   dsimp only
   rw[qc l (n+1) b ((List.mem_cons.mp h).elim (fun q=>absurd q.symm e) id),show n+1+pos l b=n+(pos l b+1) by exact qU]
theorem qx:∀(l:List Nat) (n b:Nat),b∉l→(ag (Int.ofNat b) (plF l n)).isSome=false
 |[],_,_,_=>rfl
 |k::l,n,b,h=>by
  simp only[List.mem_cons,not_or] at h
  show(ag (Int.ofNat b) ((Int.ofNat k,nat n)::plF l (n+1))).isSome=_
  unfold ag
  rw[decide_eq_false (aT fun q=>h.1 q.symm)]
  exact qx l (n+1) b h.2
theorem yp:∀ {l:List Nat} {b:Nat},b∈l→pos l b<l.length∧l[pos l b]? = some b
 |k::l,b,h=>by
  unfold pos
  by_cases e:k=b
  ·rw[if_pos e];exact⟨by simp,by simp[e]⟩
  ·rw[if_neg e]
   obtain⟨h1,h2⟩:=yp (l:=l) ((List.mem_cons.mp h).elim (fun q=>absurd q.symm e) id)
   exact⟨by simp;exact lin [_,_] (.c 1 (.a (.v 0) (.n 1)) (.v 1) .e) (.a (.v 0) (.n 1)) (.v 1) rfl h1,h2⟩
inductive Led(ks:List Nat):V→V→Prop
 |ret:Led ks cM cM
 |jmp (b:Nat):Led ks (jmp b) (jmp (pos ks b))
 |br (r a b:Nat):Led ks (brT r a b) (brT r (pos ks a) (pos ks b))
noncomputable def eK(e:bX)(c:Cst)(pl:List (Int×V)):St:=
 ⟨[],[],[],[],[],[],[],[],[],[],[],[],[],[],[.idd []],r15,r16,[tfn e],[d8],[stO (nat c.here) (.int 0)],[.idd c.held],[.idd c.loops],[hH .none],[.list c.regs],[.list (b24 c.blks.length 0)],b25 c.blks 0,b26 c.blks,[.idd pl]⟩
noncomputable def cJ(bl:List V):List (Str×V):=[(x "key",S "main.f"),(x "params",.int 0),(x "registers",.ref 23 1),(x "blocks",.lst bl),(x "captured",.int 0),(x "results",.int 0),(x "recovery",.none)]
noncomputable def HJ(e:bX)(c:Cst)(pl:List (Int×V)):St:=
 ⟨[],[],[],[],[],[],[],[],[],[],[],[],[],[],[.idd []],r15,r16,[tfn e],[d8],[stO (nat c.here) (.int 0)],[.idd c.held],[.idd c.loops],[hH .none,.inst 16 []],[.list c.regs],[.list (b24 c.blks.length 0)],b25 c.blks 0,b26 c.blks,[.idd pl]⟩
noncomputable def fF(e:bX)(c:Cst)(pl:List (Int×V))(r14:O)(bl:List V):St:=
 ⟨[],[],[],[],[],[],[],[],[],[],[],[],[],[],[r14],r15,r16,[tfn e],[d8],[stO (nat c.here) (.int 0)],[.idd c.held],[.idd c.loops],[hH .none,.inst 16 (cJ bl)],[.list c.regs,.list c.regs],[.list (b24 c.blks.length 0)],b25 c.blks 0,b26 c.blks,[.idd pl]⟩
section
variable{X:CR}{d n:Nat}(e:bX)
theorem D5(c:Cst)(ks:List Nat)(hd:1≤d){t:V}(h:TF n t)(hk:∀b,Tgt t b→b∈ks):∃t',Led ks t t'∧Ok X d 19 [t,.clo 27 0] (eK e c (plF ks 0)) t' (eK e c (plF ks 0)):=by
 have look:∀b∈ks,ag (Int.ofNat b) (plF ks 0)=some (nat (pos ks b)):=fun b hb=>by rw[qc ks 0 b hb,Nat.zero_add]
 induction h with
 |ret=>exact⟨_,.ret,Ok.by (by decide +kernel) hd [] id (by kernel_rfl)⟩
 |jmp b hb=>
  exact⟨_,.jmp b,Ok.by (by decide +kernel) hd [.idx 126 (nat b),.idx 126 (nat (pos ks b))] (Tn (rfl:some (nat b)=some (nat b)) (Tn (look b (hk b (.inl rfl))) id)) (by kernel_rfl)⟩
 |br r a b ha hb=>
  exact⟨_,.br r a b,Ok.by (by decide +kernel) hd [.idx 128 (reg r),.idx 128 (nat a),.idx 128 (nat (pos ks a)),.idx 128 (nat b),.idx 128 (nat (pos ks b))]
   (Tn (rfl:some (reg r)=some (reg r)) (Tn (rfl:some (nat a)=some (nat a)) (Tn (look a (hk a (.inr ⟨r,a,b,rfl,.inl rfl⟩))) (Tn (rfl:some (nat b)=some (nat b)) (Tn (look b (hk b (.inr ⟨r,a,b,rfl,.inr rfl⟩))) id))))) (by kernel_rfl)⟩
noncomputable def g9(kept:V)(blk blocks so en:LV)(pl:LV):Rho:=[(x "code",.v (.ref 22 0)),(x "kept",.v kept),(x "block",blk),(x "blocks",blocks),(x "some",so),(x "end",en),(x "recovery",.unb),(x "places",pl)]
theorem kS{C:CR}(c:Cst)(kept:V)(items:List V):∀(ks ds:List Nat) (lv:LV),bS lv→(ds++ks).Nodup→(ds++ks).length≤90000→
  ∃lv',bS lv'∧ForR (asgN 9 (iE (aY (aG 20) 1))) (bP (evN C 39) (cxG 20) (iV (aY (aG 20) 1))) (cR items none) (aV ks) (g9 kept lv .unb .unb .unb (.v (.ref 27 0))) (eK e c (plF ds 0)) .next (g9 kept lv' .unb .unb .unb (.v (.ref 27 0))) (eK e c (plF (ds++ks) 0))
 |[],ds,lv,hlv,_,_=>⟨lv,hlv,by rw[List.append_nil];exact .nil _ _ trivial⟩
 |k::ks,ds,lv,hlv,nd,hl=>by
  have e1:ds++k::ks=ds++[k]++ks:=by simp
  have hk:k∉ds:=fun q=>(List.nodup_append.mp nd).2.2 k q k List.mem_cons_self rfl
  obtain⟨lv',o,r⟩:=kS (C:=C) c kept items ks (ds++[k]) (.v (nat k)) (.inr ⟨_,rfl⟩) (e1▸nd) (e1▸hl)
  rw[←e1] at r
  have hput:aZ (Int.ofNat k) (.int (Int.ofNat (plF ds 0).length)) (plF ds 0)=plF (ds++[k]) 0:=by
   rw[lM _ _ _ (qx ds 0 k hk),qb,om,Nat.zero_add];rfl
  have hfin:(eK e c (aZ (Int.ofNat k) (.int (Int.ofNat (plF ds 0).length)) (plF ds 0)))=eK e c (plF (ds++[k]) 0):=by rw[hput]
  refine⟨lv',o,.step (ρ₀:=g9 kept (.v (nat k)) .unb .unb .unb (.v (.ref 27 0))) (ρ₁:=g9 kept (.v (nat k)) .unb .unb .unb (.v (.ref 27 0))) (st₁:=eK e c (plF (ds++[k]) 0)) trivial ?_ ?_ (.inl rfl) r⟩
  ·rcases hlv with rfl|⟨u,rfl⟩<;>kernel_rfl
  ·simp only[List.length_append,List.length_cons] at hl
   exact⟨[],evG (P:=(plF ds 0).length≤100000∧Fl.next=Fl.next∧g9 kept (.v (nat k)) .unb .unb .unb (.v (.ref 27 0))=g9 kept (.v (nat k)) .unb .unb .unb (.v (.ref 27 0))∧eK e c (aZ (Int.ofNat k) (.int (Int.ofNat (plF ds 0).length)) (plF ds 0))=eK e c (plF (ds++[k]) 0)) ⟨by rw[om];exact DK hl,rfl,rfl,hfin⟩ (by kernel_rfl)⟩
inductive NewB(c:Cst)(ks:List Nat):List Nat→List V→Prop
 |nil:NewB c ks [] []
 |cons {b:Nat} {bs:List Nat} {xs:List V} {t t':V} {l:List V}:c.blks[b]? = some (xs,t)→Led ks t t'→NewB c ks bs l→NewB c ks (b::bs) (.lst [.lst xs,t']::l)
theorem pO(c:Cst)(ks:List Nat)(kept:V)(items:List V)(hd:1≤d)(ht:∀(b:Nat) (xs:List V) (t:V),c.blks[b]? = some (xs,t)→TF c.blks.length t)(hcl:∀b∈ks,∀(xs:List V) (t:V) (b':Nat),c.blks[b]? = some (xs,t)→Tgt t b'→b'∈ks):
  ∀(bs:List Nat) (bl:List V) (blk so en:LV),bS blk→bS so→bS en→(∀b∈bs,b∈ks∧b<c.blks.length)→bl.length+bs.length≤90000→
  ∃l blk' so' en',NewB c ks bs l∧ForR (asgN 9 (iE (aY (aG 20) 3))) (bP (evN (Ok X d) 39) (cxG 20) (iV (aY (aG 20) 3))) (cR items none) (aV bs) (g9 kept blk (.ol bl) so en (.fv (.ref 27 0))) (eK e c (plF ks 0)) .next (g9 kept blk' (.ol (bl++l)) so' en' (.fv (.ref 27 0))) (eK e c (plF ks 0))
 |[],bl,blk,so,en,_,_,_,_,_=>⟨[],blk,so,en,.nil,by rw[List.append_nil];exact .nil _ _ trivial⟩
 |b::bs,bl,blk,so,en,hb1,hb2,hb3,hbs,hl=>by
  obtain⟨hk,hlt⟩:=hbs b List.mem_cons_self
  obtain⟨⟨xs,t⟩,hget⟩:∃p,c.blks[b]? = some p:=⟨_,List.getElem?_eq_getElem hlt⟩
  obtain⟨t',hled,hok⟩:=D5 (X:=X) (d:=d) e c ks hd (ht b xs t hget) fun b' h=>hcl b hk xs t b' hget h
  obtain⟨l,blk',so',en',q,r⟩:=pO c ks kept items hd ht hcl bs (bl++[V.lst [.lst xs,t']]) (.v (nat b)) (.v (.ref 26 b)) (.v t) (.inr ⟨_,rfl⟩) (.inr ⟨_,rfl⟩) (.inr ⟨_,rfl⟩) (fun y hy=>hbs y (List.mem_cons_of_mem _ hy)) (by simp;exact Fz hl)
  rw[show bl++[V.lst [.lst xs,t']]++l=bl ++ .lst [.lst xs,t']::l by simp] at r
  have z:bl.length≤100000:=DK hl
  refine⟨_,blk',so',en',.cons hget hled q,.step (ρ₀:=g9 kept (.v (nat b)) (.ol bl) so en (.fv (.ref 27 0))) (ρ₁:=g9 kept (.v (nat b)) (.ol (bl++[V.lst [.lst xs,t']])) (.v (.ref 26 b)) (.v t) (.fv (.ref 27 0))) (st₁:=eK e c (plF ks 0)) trivial ?_ ⟨[.idx 136 (.ref 24 0),.idx 136 (.ref 25 b),.cell 136 (.list [.ref 26 b,t]),.idx 137 (.lst xs),.call t' (eK e c (plF ks 0))],?_⟩ (.inl rfl) r⟩
  ·rcases hb1 with rfl|⟨u,rfl⟩<;>kernel_rfl
  ·have hbi:pz (eK e c (plF ks 0)) 2 [.ref 26 b]=some (.lst xs):=by
    show optD (optD (b26 c.blks)[b]? none fun o=>o.listD none some) none (fun xs=>some (V.lst xs))=_
    rw[oj hget];rfl
   have ff:Fl.next=Fl.next∧g9 kept (.v (nat b)) (.ol (bl++[V.lst [.lst xs,t']])) (.v (.ref 26 b)) (.v t) (.fv (.ref 27 0))=g9 kept (.v (nat b)) (.ol (bl++[V.lst [.lst xs,t']])) (.v (.ref 26 b)) (.v t) (.fv (.ref 27 0))∧eK e c (plF ks 0)=eK e c (plF ks 0):=⟨rfl,rfl,rfl⟩
   rcases hb2 with rfl|⟨u2,rfl⟩<;>rcases hb3 with rfl|⟨u3,rfl⟩<;>
   exact evG (And.intro (rfl:some (V.ref 24 0)=some (.ref 24 0)) (And.intro (oU hlt) (And.intro (kZ hget) (And.intro hbi (And.intro hok (And.intro z ff)))))) (by kernel_rfl)
theorem sK(c:Cst)(pl:List (Int×V))(bl:List V)(hd:1≤d):Ok X d 17000 [.ref 22 1,S "main.f",.int 0,.ref 23 0,.lst bl,.int 0,.int 0,.none] (HJ e c pl) .none (fF e c pl (.idd []) bl):=
 Ok.by (by decide +kernel) hd [] (Tn (rfl:true=true) (Tn (rfl:true=true) (Tn (rfl:true=true) (Tn (rfl:true=true) (Tn (rfl:true=true) (Tn (rfl:true=true) (Tn (rfl:true=true) id))))))) (by kernel_rfl)
theorem lL(c:Cst)(ks:List Nat)(hd:2≤d)(nd:ks.Nodup)(hl:ks.length≤80000)(ht:∀(b:Nat) (xs:List V) (t:V),c.blks[b]? = some (xs,t)→TF c.blks.length t)(hlt:∀b∈ks,b<c.blks.length)
  (hcl:∀b∈ks,∀(xs:List V) (t:V) (b':Nat),c.blks[b]? = some (xs,t)→Tgt t b'→b'∈ks):∃bl,NewB c ks ks bl∧Ok X d 20 [.ref 22 0,.lst (aV ks)] (enc e c) (.ref 22 1) (fF e c (plF ks 0) (.idd []) bl):=by
 obtain⟨lv,o,r1⟩:=kS (C:=Ok X (d-1)) e c (.lst (aV ks)) (aV ks) ks [] .unb (.inl rfl) nd (by simp;exact G3 hl)
 obtain⟨l,blk',so',en',q,r2⟩:=pO (X:=X) (d:=d-1) e c ks (.lst (aV ks)) (aV ks) (om2 hd) ht hcl ks [] lv .unb .unb o (.inl rfl) (.inl rfl) (fun b hb=>⟨hb,hlt b hb⟩) (by simp;exact G3 hl)
 refine⟨l,q,?_⟩
 have q3:=sK (X:=X) (d:=d-1) e c (plF ks 0) l (om2 hd)
 rcases o with rfl|⟨u,rfl⟩
 ·exact Ok.by (by decide +kernel) (om1 hd) [.loop 132 .next (g9 (.lst (aV ks)) .unb .unb .unb .unb (.v (.ref 27 0))) (eK e c (plF ks 0)),.loop 135 .next (g9 (.lst (aV ks)) blk' (.ol l) so' en' (.fv (.ref 27 0))) (eK e c (plF ks 0)),.call .none (fF e c (plF ks 0) (.idd []) l)]
   (Tn r1 (Tn r2 (Tn q3 id))) (by kernel_rfl)
 ·exact Ok.by (by decide +kernel) (om1 hd) [.loop 132 .next (g9 (.lst (aV ks)) (.v u) .unb .unb .unb (.v (.ref 27 0))) (eK e c (plF ks 0)),.loop 135 .next (g9 (.lst (aV ks)) blk' (.ol l) so' en' (.fv (.ref 27 0))) (eK e c (plF ks 0)),.call .none (fF e c (plF ks 0) (.idd []) l)]
   (Tn r1 (Tn r2 (Tn q3 id))) (by kernel_rfl)
end
theorem TF.mono{n m:Nat}{t:V}(h:TF n t)(l:n≤m):TF m t:=by
 induction h with
 |ret=>exact .ret
 |jmp b hb=>exact .jmp b (Nat.lt_of_lt_of_le hb l)
 |br r a b ha hb=>exact .br r a b (Nat.lt_of_lt_of_le ha l) (Nat.lt_of_lt_of_le hb l)
theorem gg{p:List V×V}{f:List V×V→List V×V}:∀ {l:List (List V×V)} {i:Nat},p∈l.modify i f→p∈l∨∃q∈l,p=f q
 |[],i,h=>by simp at h
 |q::l,0,h=>by
  have h:p∈f q::l:=h
  rcases List.mem_cons.mp h with rfl|h
  ·exact .inr ⟨q,List.mem_cons_self,rfl⟩
  ·exact .inl (List.mem_cons_of_mem _ h)
 |q::l,i+1,h=>by
  have h:p∈q::l.modify i f:=h
  rcases List.mem_cons.mp h with rfl|h
  ·exact .inl List.mem_cons_self
  ·exact(gg h).imp (List.mem_cons_of_mem _) fun⟨r,h1,h2⟩=>⟨r,List.mem_cons_of_mem _ h1,h2⟩
structure TI(c:Cst):Prop where
 ends:∀p∈c.blks,p.2 = .none∨TF c.blks.length p.2
 pos:0<c.blks.length
 loops:∀m,aB c m<c.blks.length∧aE c m<c.blks.length
theorem TI.put{c:Cst}(h:TI c)(i:V):TI (put c i):=by
 refine⟨fun p hp=> ?_,by rw[ak];exact h.pos,fun m=>by rw[ak];exact h.loops m⟩
 rw[ak]
 rcases gg hp with q|⟨q,h1,rfl⟩
 ·exact h.ends p q
 ·exact h.ends q h1
theorem TI.close{c:Cst}(h:TI c){t:V}(ht:TF c.blks.length t):TI (close c t):=by
 refine⟨fun p hp=> ?_,by rw[ae];exact h.pos,fun m=>by rw[ae];exact h.loops m⟩
 rw[ae]
 rcases gg hp with q|⟨q,h1,rfl⟩
 ·exact h.ends p q
 ·exact .inr ht
theorem TI.newReg{c:Cst}(h:TI c)(t:V):TI (newReg c t):=⟨h.ends,h.pos,h.loops⟩
theorem TI.newBlk{c:Cst}(h:TI c):TI (newBlk c):=by
 have e:(Mine.newBlk c).blks.length=c.blks.length+1:=List.length_append ..
 refine⟨fun p hp=> ?_,e.symm▸lin [_] .e (.a (.n 0) (.n 1)) (.a (.v 0) (.n 1)) rfl,fun m=>by rw[e];have:=h.loops m;exact⟨Nat.lt_succ_of_lt this.1,Nat.lt_succ_of_lt this.2⟩⟩
 rw[e]
 rcases List.mem_append.mp hp with q|q
 ·exact(h.ends p q).imp id fun t=>t.mono (Nat.le_succ _)
 ·simp at q;subst q;exact .inl rfl
theorem TI.setHere{c:Cst}(h:TI c)(b:Nat):TI (setHere c b):=⟨h.ends,h.pos,h.loops⟩
theorem TI.goTo{c:Cst}(h:TI c){b:Nat}(hb:b<c.blks.length):TI (goTo c b):=by
 have:=h.close (.jmp b hb)
 exact⟨this.ends,this.pos,this.loops⟩
theorem TI.endB{c:Cst}(h:TI c){t:V}(ht:TF c.blks.length t):TI (endB c t):=by
 have:=(h.close ht).newBlk
 exact⟨this.ends,this.pos,this.loops⟩
theorem TI.setHeld{c:Cst}(h:TI c)(l:Int)(r:Nat):TI (setHeld c l r):=⟨h.ends,h.pos,h.loops⟩
theorem TI.fresh{c:Cst}(h:TI c)(t w:V)(r:List V):TI (fresh c t w r):=(h.newReg t).put _
theorem TI.begin{c:Cst}(h:TI c)(l:Nat)(o:V):TI (beginL c l o):=((h.newReg ac).setHeld _ _).put _
theorem TI.upd{c:Cst}(h:TI c)(p:Nat)(k:Int):TI (fB c p k):=(h.fresh _ _ _).put _
theorem TI.bin{c:Cst}(h:TI c)(op:String)(a b:At):TI (bin c op a b):=h.fresh _ _ _
set_option tactic.hygienic true in
theorem TI.setLoop{c:Cst}(h:TI c)(num:Nat){a:Nat}{v:V}(ha:a<c.blks.length)(hv:∀b,v=nat b→b<c.blks.length):TI (setLoop c (Int.ofNat num) (.tup [nat a,v])):=by
 refine⟨h.ends,h.pos,fun m=> ?_⟩
 by_cases e:num=m
 ·subst e
  have e1:ag (Int.ofNat num) (Mine.setLoop c (Int.ofNat num) (.tup [nat a,v])).loops=some (.tup [nat a,v]):=bj ..
  constructor
  ·unfold aB;rw[e1];exact ha
  ·unfold aE;rw[e1]
   cases v with
   |int i=>cases i with
    |ofNat b=>exact hv b rfl
    |negSucc=>exact h.pos
   |_=>exact h.pos
 ·have e1:ag (Int.ofNat m) (Mine.setLoop c (Int.ofNat num) (.tup [nat a,v])).loops=ag (Int.ofNat m) c.loops:=by
   show ag (Int.ofNat m) (aZ _ _ _)=_
   rw[aA,if_neg (aT e)]
  obtain⟨q1,q2⟩:=jw e1
  rw[q1,q2];exact h.loops m
theorem TI.ifHead{c:Cst}(h:TI c)(op:String)(p:Nat)(k:Int):TI (ifHead c op p k):=by
 have h4:=h.newBlk.newBlk.newBlk.bin op (.loc p) (.int k)
 refine(h4.close (.br _ _ _ ?_ ?_)).setHere _<;>(rw[cZ];simp[Mine.newBlk];try omega)
theorem TI.ifMid{c c5:Cst}(h:TI c5)(hl:c.blks.length+3≤c5.blks.length):TI (ifMid c c5):=(h.close (.jmp _ (by simp[Mine.newBlk];exact lin [_,_] (.c 1 (.a (.v 0) (.n 3)) (.v 1) .e) (.a (.a (.v 0) (.n 2)) (.n 1)) (.v 1) rfl hl))).setHere _
theorem TI.forHead{c:Cst}(h:TI c)(num:Nat):TI (forHead c num):=by
 obtain⟨e1,e2,e3,e4⟩:=aq c
 refine TI.goTo (TI.setLoop h.newBlk.newBlk.newBlk.newBlk num (a:=b3 c) (v:=nat (b2 c)) ?_ ?_) ?_
 ·show b3 c<(ax c).blks.length;exact lin [_,_,_] (.c 1 (.v 0) (.a (.v 2) (.n 3)) (.c 1 (.a (.v 2) (.n 4)) (.v 1) .e)) (.a (.v 0) (.n 1)) (.v 1) rfl (leq e3) (leq e4.symm)
 ·intro b hb
  rw[←iN hb]
  show b2 c<(ax c).blks.length;exact lin [_,_,_] (.c 1 (.v 0) (.a (.v 2) (.n 2)) (.c 1 (.a (.v 2) (.n 4)) (.v 1) .e)) (.a (.v 0) (.n 1)) (.v 1) rfl (leq e2) (leq e4.symm)
 ·show c.blks.length<(ax c).blks.length;exact Bg e4
theorem TI.forIn{c:Cst}(h:TI c)(num l:Nat)(most:Int):TI (eV c num l most):=by
 obtain⟨e1,e2,e3,e4⟩:=aq c
 exact(((h.forHead num).bin "<" (.loc l) (.int most)).close (.br _ _ _ (by rw[cZ,bE];exact F8 e1) (by rw[cZ,bE];exact FW e3))).setHere _
theorem TI.rngIn{c:Cst}(h:TI c)(num pl:Nat)(many:V):TI (rngIn c num pl many):=by
 obtain⟨e1,e2,e3,e4⟩:=aq c
 exact(((h.forHead num).fresh _ _ _).close (.br _ _ _ (by rw[bf,bE];exact F8 e1) (by rw[bf,bE];exact FW e3))).setHere _
theorem TI.forEnd{c c10:Cst}(h:TI c10)(l:Nat)(hl:c.blks.length+4≤c10.blks.length):TI (forEnd c c10 l):=by
 obtain⟨e1,e2,e3,e4⟩:=aq c
 exact(((h.goTo (b:=b2 c) (yr hl e2)).upd l 1).close (.jmp _ (by rw[gI,cK];exact GZ hl))).setHere _
theorem TI.rngEnd{c c10:Cst}(h:TI c10)(pl:Nat)(hl:c.blks.length+4≤c10.blks.length):TI (rngEnd c c10 pl):=by
 obtain⟨e1,e2,e3,e4⟩:=aq c
 exact(((h.goTo (b:=b2 c) (yr hl e2)).put _).close (.jmp _ (by rw[ak,cK];exact GZ hl))).setHere _
theorem TI.condC{c:Cst}(h:TI c){goal:Nat}(hg:goal<c.blks.length)(a:Ask):TI (condC c goal a):=
 ((h.newBlk.bin a.op (.loc a.p) (.int a.k)).close (.br _ _ _ (by rw[cZ];simp[Mine.newBlk];exact ED hg) (by rw[cZ];simp[Mine.newBlk]))).setHere _
theorem TI.condsC{goal:Nat}:∀(as:List Ask) {c:Cst},TI c→goal<c.blks.length→TI (condsC c goal as)
 |[],_,h,_=>h
 |a::as,c,h,hg=>TI.condsC as (h.condC hg a) (by rw[mR];exact ED hg)
theorem TI.swIn{c:Cst}(h:TI c)(num:Nat)(as1 as2:List Ask)(df:Dfl):TI (swIn c num as1 as2 df):=by
 obtain⟨e1,e2,e3,e4⟩:=aq c
 have h0:TI (swHead c num):=TI.setLoop h.newBlk.newBlk.newBlk num (by show b2 c<(Mine.newBlk (Mine.newBlk (Mine.newBlk c))).blks.length;simp[Mine.newBlk];exact lin [_,_] (.c 1 (.v 0) (.a (.v 1) (.n 2)) .e) (.a (.v 0) (.n 1)) (.a (.v 1) (.n 3)) rfl (leq e2)) (fun b q=>by cases q)
 have l0:(swHead c num).blks.length=c.blks.length+3:=by show(Mine.newBlk (Mine.newBlk (Mine.newBlk c))).blks.length=_;simp[Mine.newBlk]
 have h1:=TI.condsC (goal:=c.blks.length) as1 h0 (lin [_,_] (.c 1 (.a (.v 0) (.n 3)) (.v 1) .e) (.a (.v 0) (.n 1)) (.v 1) rfl (leq l0.symm))
 have h2:=TI.condsC (goal:=b1 c) as2 h1 (by rw[bW];exact lin [_,_,_,_] (.c 1 (.v 0) (.a (.v 3) (.n 1)) (.c 1 (.a (.v 3) (.n 3)) (.v 1) .e)) (.a (.v 0) (.n 1)) (.a (.v 1) (.v 2)) rfl (leq e1) (leq l0.symm))
 refine(h2.close (.jmp _ ?_)).setHere _
 rw[bW,bW,l0]
 induction df<;>simp only[hF]<;>(first|exact(lin [_,_,_,_] (.c 1 (.v 0) (.a (.v 1) (.n 2)) .e) (.a (.v 0) (.n 1)) (.a (.a (.a (.v 1) (.n 3)) (.v 2)) (.v 3)) rfl (leq e2))|exact FD|exact lin [_,_,_,_] (.c 1 (.v 0) (.a (.v 1) (.n 1)) .e) (.a (.v 0) (.n 1)) (.a (.a (.a (.v 1) (.n 3)) (.v 2)) (.v 3)) rfl (leq e1))
theorem TI.swMid{c c9:Cst}(h:TI c9)(f:Bool)(hl:c.blks.length+3≤c9.blks.length):TI (swMid c c9 f):=by
 obtain⟨e1,e2,e3,e4⟩:=aq c
 exact(h.close (.jmp _ (by induction f<;>simp only<;>(first|exact EI hl e2|exact GK hl e1)))).setHere _
theorem TI.swEnd{c c12:Cst}(h:TI c12)(hl:c.blks.length+3≤c12.blks.length):TI (swEnd c c12):=by
 obtain⟨e1,e2,e3,e4⟩:=aq c
 exact(h.close (.jmp _ (EI hl e2))).setHere _
mutual
theorem Row.ti:∀(r:Row) {c:Cst},TI c→TI (r.c c)∧c.blks.length≤(r.c c).blks.length
 | .print p,c,h=>by unfold Row.c jN;exact⟨h.put _,by rw[ak];exact Nat.le_refl _⟩
 | .add p k,c,h=>by unfold Row.c;exact⟨h.upd _ _,by rw[gI];exact Nat.le_refl _⟩
 | .jump true m,c,h=>by unfold Row.c;exact⟨h.endB (.jmp _ (h.loops m).1),by simp[endB,newBlk,ae]⟩
 | .jump false m,c,h=>by unfold Row.c;exact⟨h.endB (.jmp _ (h.loops m).2),by simp[endB,newBlk,ae]⟩
 | .ite a y z,c,h=>by
  unfold Row.c
  obtain⟨h2,l2⟩:=y.ti (h.ifHead a.op a.p a.k)
  rw[fm] at l2
  obtain⟨h4,l4⟩:=z.ti (h2.ifMid (c:=c) (D0 l2))
  rw[jd] at l4
  exact⟨h4.goTo (by have:=(aq c).2.1;exact FB l2 l4 this),by rw[cK];exact He l2 l4⟩
 | .loop .for_ num l most b,c,h=>by
  unfold Row.c
  obtain⟨h2,l2⟩:=b.ti (((h.begin l (cOp ac (.int 0))).forIn num l (Int.ofNat most)).put (aK [rg (eV (beginL c l (cOp ac (.int 0))) num l (Int.ofNat most)) l]))
  have l2':=l2
  rw[ak,nF,bC] at l2
  exact⟨h2.forEnd l (by rw[bC];exact l2),by rw[ir];exact ltr (lin [_] .e (.v 0) (.a (.v 0) (.n 4)) rfl) l2⟩
 | .loop .ring num l most b,c,h=>by
  unfold Row.c
  have h0:TI (ring0 c num l most):=(((h.fresh _ _ _).rngIn num _ _).begin l _).put _
  obtain⟨h2,l2⟩:=b.ti h0
  rw[gK] at l2
  exact⟨h2.rngEnd _ (by unfold aa;rw[bf];exact qj l2),by rw[cU];exact yN l2⟩
 | .loop .row num l most b,c,h=>by
  unfold Row.c
  have h0:TI (cg c num l):=((((((h.fresh _ _ _).fresh _ _ _).rngIn num _ _).begin l _).fresh _ _ _).begin (l+1) _).put _
  obtain⟨h2,l2⟩:=b.ti h0
  rw[i6] at l2
  exact⟨h2.rngEnd _ (by unfold aa am;rw[bf,bf];exact qj l2),by rw[cU];exact yN l2⟩
 | .switch num l most as1 y f as2 z df,c,h=>by
  unfold Row.c
  obtain⟨h2,l2⟩:=y.ti (h.swIn num as1 as2 df)
  rw[iR] at l2
  obtain⟨h4,l4⟩:=z.ti (h2.swMid (c:=c) f (Ei l2))
  rw[jg] at l4
  exact⟨h4.swEnd (c:=c) (Fj l2 l4),by rw[jk];exact Fo l2 l4⟩
theorem Rows.ti:∀(r:Rows) {c:Cst},TI c→TI (r.c c)∧c.blks.length≤(r.c c).blks.length
 | .nil,c,h=>⟨h,Nat.le_refl _⟩
 | .cons r rs,c,h=>by
  obtain⟨h1,l1⟩:=r.ti h
  obtain⟨h2,l2⟩:=rs.ti h1
  exact⟨h2,ltr l1 l2⟩
end
mutual
noncomputable def Row.nb:Row→Nat
 | .print _=>0
 | .add _ _=>0
 | .ite _ y n=>3+y.nb+n.nb
 | .jump _ _=>1
 | .loop _ _ _ _ b=>4+b.nb
 | .switch _ _ _ as1 y _ as2 z _=>3+as1.length+as2.length+y.nb+z.nb
noncomputable def Rows.nb:Rows→Nat
 | .nil=>0
 | .cons r rs=>r.nb+rs.nb
end
mutual
theorem Row.few(many:Nat):∀(r:Row) (o:List (Nat×Bool)) (a b a' b':Nat) (c:Cst),r.wf many o a b a' b'→(r.c c).blks.length≤c.blks.length+r.nb∧r.cost≤40*r.cnt
 | .print p,_,_,_,_,_,c,_=>by unfold Row.c jN;rw[ak];simp[Row.cost,Row.cnt,Row.nb]
 | .add p k,_,_,_,_,_,c,_=>by unfold Row.c;rw[gI];simp[Row.cost,Row.cnt,Row.nb]
 | .jump true m,_,_,_,_,_,c,_=>by unfold Row.c;simp[endB,newBlk,ae,Row.cost,Row.cnt,Row.nb]
 | .jump false m,_,_,_,_,_,c,_=>by unfold Row.c;simp[endB,newBlk,ae,Row.cost,Row.cnt,Row.nb]
 | .ite q y z,o,a,b,a',b',c,h=>by
  obtain⟨_,a1,b1,hy,hz⟩:=h
  obtain⟨h1,k1⟩:=y.few many _ _ _ _ _ (ifHead c q.op q.p q.k) hy
  obtain⟨h2,k2⟩:=z.few many _ _ _ _ _ (ifMid c (y.c (ifHead c q.op q.p q.k))) hz
  unfold Row.c Row.cost Row.cnt Row.nb
  rw[cK]
  rw[fm] at h1
  rw[jd] at h2
  exact⟨lin [_,_,_,_,_] (.c 1 (.v 4) (.a (.a (.v 1) (.n 3)) (.v 2)) (.c 1 (.v 0) (.a (.v 4) (.v 3)) .e)) (.v 0) (.a (.v 1) (.a (.a (.n 3) (.v 2)) (.v 3))) rfl h1 h2,lin [_,_,_,_] (.c 1 (.v 0) (.m 40 (.v 2)) (.c 1 (.v 1) (.m 40 (.v 3)) .e)) (.a (.a (.n 5) (.v 0)) (.v 1)) (.m 40 (.a (.a (.n 1) (.v 2)) (.v 3))) rfl k1 k2⟩
 | .loop .for_ num l most y,o,a,b,a',b',c,h=>by
  obtain⟨_,_,_,_,hy⟩:=h
  obtain⟨h1,k1⟩:=y.few many _ _ _ _ _ (for0 c num l most) hy
  unfold Row.c Row.cost Row.cnt Row.nb
  rw[ir]
  rw[mq] at h1
  exact Dv h1 k1
 | .loop .ring num l most y,o,a,b,a',b',c,h=>by
  obtain⟨_,_,_,_,hy⟩:=h
  obtain⟨h1,k1⟩:=y.few many _ _ _ _ _ (ring0 c num l most) hy
  unfold Row.c Row.cost Row.cnt Row.nb
  rw[cU]
  rw[gK] at h1
  exact Dv h1 k1
 | .loop .row num l most y,o,a,b,a',b',c,h=>by
  obtain⟨_,_,_,_,hy⟩:=h
  obtain⟨h1,k1⟩:=y.few many _ _ _ _ _ (cg c num l) hy
  unfold Row.c Row.cost Row.cnt Row.nb
  rw[cU]
  rw[i6] at h1
  exact Dv h1 k1
 | .switch num l most as1 y f as2 z df,o,a,b,a',b',c,h=>by
  obtain⟨_,_,_,_,l1,l2,a1,b1,hy,hz⟩:=h
  obtain⟨h1,k1⟩:=y.few many _ _ _ _ _ (swIn c num as1 as2 df) hy
  obtain⟨h2,k2⟩:=z.few many _ _ _ _ _ (swMid c (y.c (swIn c num as1 as2 df)) f) hz
  unfold Row.c Row.cost Row.cnt Row.nb
  rw[jk]
  rw[iR] at h1
  rw[jg] at h2
  exact⟨lin [_,_,_,_,_,_,_] (.c 1 (.v 6) (.a (.a (.a (.a (.v 1) (.n 3)) (.v 2)) (.v 3)) (.v 4)) (.c 1 (.v 0) (.a (.v 6) (.v 5)) .e)) (.v 0) (.a (.v 1) (.a (.a (.a (.a (.n 3) (.v 2)) (.v 3)) (.v 4)) (.v 5))) rfl h1 h2,lin [_,_,_,_,_,_] (.c 3 (.v 0) (.n 2) (.c 3 (.v 1) (.n 2) (.c 1 (.v 2) (.m 40 (.v 4)) (.c 1 (.v 3) (.m 40 (.v 5)) .e)))) (.a (.a (.a (.a (.n 4) (.m 3 (.v 0))) (.m 3 (.v 1))) (.v 2)) (.v 3)) (.m 40 (.a (.a (.n 1) (.v 4)) (.v 5))) rfl l1 l2 k1 k2⟩
theorem Rows.few(many:Nat):∀(r:Rows) (o:List (Nat×Bool)) (a b a' b':Nat) (c:Cst),r.wf many o a b a' b'→(r.c c).blks.length≤c.blks.length+r.nb∧r.cost≤40*r.cnt
 | .nil,_,_,_,_,_,c,_=>⟨lin [_] .e (.v 0) (.a (.v 0) (.n 0)) rfl,lin [] .e (.n 0) (.m 40 (.n 0)) rfl⟩
 | .cons r rs,o,a,b,a',b',c,h=>by
  obtain⟨a1,b1,h1,h2⟩:=h
  obtain⟨q1,k1⟩:=r.few many _ _ _ _ _ c h1
  obtain⟨q2,k2⟩:=rs.few many _ _ _ _ _ (r.c c) h2
  exact⟨lin [_,_,_,_,_] (.c 1 (.v 4) (.a (.v 1) (.v 2)) (.c 1 (.v 0) (.a (.v 4) (.v 3)) .e)) (.v 0) (.a (.v 1) (.a (.v 2) (.v 3))) rfl q1 q2,lin [_,_,_,_] (.c 1 (.v 0) (.m 40 (.v 2)) (.c 1 (.v 1) (.m 40 (.v 3)) .e)) (.a (.v 0) (.v 1)) (.m 40 (.a (.v 2) (.v 3))) rfl k1 k2⟩
end
noncomputable def bY(c:Cst):Cst:=fH c (c.blks.map finB)
theorem TI.tupOr{c:Cst}(h:TI c):∀p∈c.blks,mT p.2:=fun p hp=>by
 rcases h.ends p hp with q|q
 ·exact .inl q
 ·obtain⟨p1,p2⟩:=p
  exact .inr (by cases q<;>exact⟨_,rfl⟩)
theorem TI.fin{c:Cst}(h:TI c):∀(b:Nat) (xs:List V) (t:V),(bY c).blks[b]? = some (xs,t)→TF (bY c).blks.length t:=fun b xs t e=>by
 have e:(c.blks.map finB)[b]? = some (xs,t):=e
 show TF (c.blks.map finB).length t
 rw[List.length_map]
 rw[List.getElem?_map] at e
 obtain⟨p,h1,h2⟩:=Option.map_eq_some_iff.mp e
 have hp:=List.mem_of_getElem? h1
 have:DZ p.2=t:=congrArg Prod.snd h2
 rw[←this]
 rcases h.ends p hp with q|q
 ·rw[q];exact .ret
 ·have:DZ p.2=p.2:=by obtain⟨p1,p2⟩:=p;cases q<;>rfl
  rw[this];exact q
structure HZ(c:Cst)(ks:List Nat)(bl:List V):Prop where
 nd:ks.Nodup
 lt:∀b∈ks,b<c.blks.length
 closed:∀b∈ks,∀(xs:List V) (t:V) (b':Nat),c.blks[b]? = some (xs,t)→Tgt t b'→b'∈ks
 zero:0∈ks
 sorted:∃l,aV ks=l∧pz St.empty 9 [.lst (aV ks)]=some (.lst l)
 new:NewB c ks ks bl
section
variable{X:CR}{d n:Nat}(e:bX)
theorem pQ(c:Cst)(hd:3≤d)(h:TI c)(hn:c.blks.length<64):∃ks bl,ks.Nodup∧(∀b∈ks,b<c.blks.length)∧(∀b∈ks,∀(xs:List V) (t:V) (b':Nat),(bY c).blks[b]? = some (xs,t)→Tgt t b'→b'∈ks)∧ks.Pairwise (· ≤ ·)∧0∈ks∧NewB (bY c) ks ks bl∧
  Ok X d 23022 [stV] (enc e c) (.ref 22 1) (fF e (bY c) (plF ks 0) (.idd []) bl):=by
 obtain⟨lv,o,r1⟩:=uq (C:=Ok X (d-1)) e c c.blks [] .unb c.blks.length (.inl rfl) h.tupOr (by simp)
 have hlen:(bY c).blks.length=c.blks.length:=by show(c.blks.map finB).length=_;simp
 obtain⟨fs,rc,r2⟩:=se (X:=X) (d:=d-1) e (bY c) (om3 hd) (lin [_,_] (.c 1 (.a (.v 1) (.n 1)) (.n 64) (.c 1 (.v 0) (.v 1) .e)) (.v 0) (.n 90000) rfl hn (leq hlen)) (hlen.symm▸h.pos) h.fin
 have hfl:fs.length<64:=Nat.lt_of_le_of_lt (td _ fs rc.nd rc.lt) (lin [_,_] (.c 1 (.a (.v 1) (.n 1)) (.n 64) (.c 1 (.v 0) (.v 1) .e)) (.a (.v 0) (.n 1)) (.n 64) rfl hn (leq hlen))
 obtain⟨ks,hp,hs⟩:=sY (enc e (bY c)) fs hfl
 have hks:ks.Pairwise (· ≤ ·):=by
  have p:=ij (fs.map Int.ofNat)
  have e1:some (V.lst ((hG (fs.map Int.ofNat)).map .int))=some (.lst (aV ks)):=by
   rw[←hs]
   show _=(match Nat.blt (aV fs).length 64 with|true=>(iF (aV fs)).map fun l=>V.lst ((hG l).map .int)|false=>none)
   rw[show Nat.blt (aV fs).length 64=true from Nat.ble_eq_true_of_le (by simp[aV];exact G2 hfl)]
   dsimp only
   rw[mh];rfl
  have e2:(hG (fs.map Int.ofNat))=ks.map Int.ofNat:=by
   simp only[Option.some.injEq,V.lst.injEq,aV] at e1
   have:=congrArg (List.map (fun v:V=>match v with | .int i=>i|_=>0)) e1
   rw[List.map_map,List.map_map,show((fun v:V=>match v with | .int i=>i|_=>0)∘V.int)=id from rfl,List.map_id,show((fun v:V=>match v with | .int i=>i|_=>0)∘nat)=Int.ofNat from rfl] at this
   exact this
  rw[e2] at p
  have:=List.pairwise_map.mp p
  exact this.imp fun q=>Int.ofNat_le.mp q
 have m:∀b,b∈ks↔b∈fs:=fun b=>hp.mem_iff
 obtain⟨bl,q,r3⟩:=lL (X:=X) (d:=d-1) e (bY c) ks (om3 hd) (hp.nodup_iff.mpr rc.nd) (hp.length_eq.symm▸(lin [_] (.c 1 (.a (.v 0) (.n 1)) (.n 64) .e) (.v 0) (.n 80000) rfl hfl)) h.fin (fun b hb=>rc.lt b ((m b).mp hb)) (fun b hb xs t b' h1 h2=>(m b').mpr (rc.closed b ((m b).mp hb) xs t b' h1 h2))
 refine⟨ks,bl,hp.nodup_iff.mpr rc.nd,fun b hb=>by have:=rc.lt b ((m b).mp hb);exact lin [_,_,_] (.c 1 (.v 2) (.v 1) (.c 1 (.a (.v 0) (.n 1)) (.v 2) .e)) (.a (.v 0) (.n 1)) (.v 1) rfl (leq hlen) this,fun b hb xs t b' h1 h2=>(m b').mpr (rc.closed b ((m b).mp hb) xs t b' h1 h2),hks,(m 0).mpr rc.zero,q,?_⟩
 exact Ok.by (by decide +kernel) (om0 hd) [.loop 239 .next (oJ lv) (enc e (bY c)),.call (.lst (aV fs)) (enc e (bY c)),.idx 242 (.lst (aV ks)),.call (.ref 22 1) (fF e (bY c) (plF ks 0) (.idd []) bl)]
  (Tn r1 (Tn r2 (Tn hs (Tn r3 id)))) (by kernel_rfl)
noncomputable def Gl(e:bX):St:=⟨[],[],[],[],[],[],[],[],[],[],[],[],[],[],[],r15,r16,[tfn e],[],[],[],[],[],[],[],[],[],[]⟩
noncomputable def vY(ls:List V)(lv:LV):Rho:=[(x "typed_fn",.v (.ref 17 0)),(x "world",.v (.ref 15 0)),(x "codes",.v (.ref 14 0)),(x "left",.ol ls),(x "here",lv)]
theorem zC(rs:Rows){a' b':Nat}(hd:20+8*rs.dep≤d)(hb:e.body=eLet3::rs.ts)(h:rs.wf e.many [] 0 3 a' b')(hm:3≤e.many)(hc:rs.cnt≤14)(hnb:rs.nb≤60):∃ks bl,ks.Nodup∧(∀b∈ks,b<(cQ rs).blks.length)∧(∀b∈ks,∀(xs:List V) (t:V) (b':Nat),(bY (cQ rs)).blks[b]? = some (xs,t)→Tgt t b'→b'∈ks)∧ks.Pairwise (· ≤ ·)∧0∈ks∧NewB (bY (cQ rs)) ks ks bl∧
  Ok X d 106 [.ref 17 0,.ref 15 0] (Gl e) (.ref 14 0) (fF e (bY (cQ rs)) (plF ks 0) (.sd [(x "main.f",.ref 22 1)]) bl):=by
 have fw:=rs.few e.many [] 0 3 a' b' c3 h
 have sz:=rs.size e.many [] 0 3 a' b' h
 have g:∀v∈e.body,Good v∧ci v=true:=by
  rw[hb]
  refine aX (.kind (s:="let") (by decide) fun u hu=> ?_) rfl rs.good
  simp only[List.mem_cons,List.not_mem_nil,or_false] at hu
  rcases hu with rfl|rfl|rfl
  ·exact .atom rfl rfl
  ·exact .hdInt fun u hu=>by simp only[List.mem_cons,List.not_mem_nil,or_false] at hu;rcases hu with rfl|rfl<;>exact .atom rfl rfl
  ·exact good_tupOf (aX (dK 0) rfl (aX (dK 1) rfl (aX (dK 3) rfl fun _ hu=>by cases hu)))
 have hs:aL e.body≤100000:=by
  rw[hb]
  simp[aL,szV,eLet3,eC,ac,S];exact lin [_,_] (.c 60 (.v 1) (.n 14) (.c 1 (.v 0) (.m 60 (.v 1)) .e)) (.a (.n 9) (.v 0)) (.n 100000) rfl hc sz
 have t0:TI c0:=⟨fun p hp=>by simp[c0] at hp;subst hp;exact .inl rfl,by decide,fun m=>⟨(by decide:0<1),(by decide:0<1)⟩⟩
 have t3:TI c3:=((t0.begin _ _).begin _ _).begin _ _
 have l3:c3.blks.length=1:=by unfold c3;rw[bC,bC,bC];rfl
 have tl:TI (cQ rs):=(rs.ti t3).1.endB .ret
 have ll:(cQ rs).blks.length<64:=by
  show(newBlk (close (rs.c c3) cM)).blks.length<64
  simp[newBlk,ae];exact lin [_,_,_] (.c 1 (.v 1) (.n 60) (.c 1 (.v 0) (.a (.v 2) (.v 1)) (.c 1 (.v 2) (.n 1) .e))) (.a (.a (.v 0) (.n 1)) (.n 1)) (.n 64) rfl hnb fw.1 (leq l3)
 obtain⟨ks,bl,k1,k2,k3,k4,k5,k6,k7⟩:=pQ (X:=X) (d:=d-1-1) e (cQ rs) (En hd) tl ll
 refine⟨ks,bl,k1,k2,k3,k4,k5,k6,?_⟩
 have rm:=(rs.room (n:=10) (c:=c3) (B.c3 (lin [_,_] (.c 40 (.v 1) (.n 14) (.c 1 (.v 0) (.m 40 (.v 1)) .e)) (.a (.v 0) (.n 10)) (.n 80000) rfl hc fw.2))).1
 have q1:=j0 (X:=X) (d:=d-1-1) e (En hd) g hs
 have q2:=zQ (X:=X) (d:=d-1-1) e (lin [_,_,_,_] (.c 1 (.a (.n 20) (.m 8 (.v 1))) (.v 2) (.c 1 (.v 3) (.a (.v 0) (.n 1)) (.c 1 (.v 2) (.a (.v 3) (.n 1)) .e))) (.n 2) (.v 0) rfl hd (lsa _ _) (lsa _ _))
 have q3:=p6 (X:=X) (d:=d-1-1) (st:=enc e c0) (GR hd) g hs
 have q4:=tm (X:=X) (d:=d-1-1) e c0 (GR hd)
 have q5:=Aj (X:=X) (d:=d-1-1) e rs (lin [_,_,_,_] (.c 1 (.a (.n 20) (.m 8 (.v 0))) (.v 2) (.c 1 (.v 3) (.a (.v 1) (.n 1)) (.c 1 (.v 2) (.a (.v 3) (.n 1)) .e))) (.a (.a (.n 3) (.n 12)) (.m 8 (.v 0))) (.v 1) rfl hd (lsa _ _) (lsa _ _)) h hm (lin [_,_] (.c 40 (.v 1) (.n 14) (.c 1 (.v 0) (.m 40 (.v 1)) .e)) (.v 0) (.n 70000) rfl hc fw.2)
 rw[←hb] at q5
 have q6:=pF (X:=X) (d:=d-1-1) e (rs.c c3) (En hd) rm
 have one:Ok X (d-1) 105 [.ref 17 0,.ref 15 0,.ref 14 0] (st0 e) (.ref 22 1) (fF e (bY (cQ rs)) (plF ks 0) (.idd []) bl):=
  Ok.by (by decide +kernel) (lin [_,_,_] (.c 1 (.a (.n 20) (.m 8 (.v 1))) (.v 2) (.c 1 (.v 2) (.a (.v 0) (.n 1)) .e)) (.a (.n 0) (.n 1)) (.v 0) rfl hd (lsa _ _)) [.call .edict (yl e),.call .none (enc e c0),.call (.bool false) (enc e c0),.call .none (enc e c0),.call .none (enc e (rs.c c3)),.call .none (enc e (cQ rs)),.call (.ref 22 1) (fF e (bY (cQ rs)) (plF ks 0) (.idd []) bl)]
   (Tn q1 (Tn q2 (Tn q3 (Tn (rfl:true=true) (Tn q4 (Tn q5 (Tn q6 (Tn k7 id)))))))) (by kernel_rfl)
 have w:WhileR (iI (evN (Ok X (d-1)) 39) (cxG 106) (whT (aY (aG 106) 1))) (bP (evN (Ok X (d-1)) 39) (cxG 106) (whB (aY (aG 106) 1))) (vY [.ref 17 0] .unb) (st0 e) .next (vY [] (.v (.ref 17 0))) (fF e (bY (cQ rs)) (plF ks 0) (.sd [(x "main.f",.ref 22 1)]) bl):=
  .step (f:= .next) (ρ₁:=vY [] (.v (.ref 17 0))) (st₁:=st0 e) (st₂:=fF e (bY (cQ rs)) (plF ks 0) (.sd [(x "main.f",.ref 22 1)]) bl) ⟨[],evG (P:=true=true∧st0 e=st0 e) ⟨rfl,rfl⟩ (by kernel_rfl)⟩
   ⟨[.call (.ref 22 1) (fF e (bY (cQ rs)) (plF ks 0) (.idd []) bl)],evG (P:=Ok X (d-1) 105 [.ref 17 0,.ref 15 0,.ref 14 0] (st0 e) (.ref 22 1) (fF e (bY (cQ rs)) (plF ks 0) (.idd []) bl)∧(0≤100000∧0≤100000)∧Fl.next=Fl.next∧vY [] (.v (.ref 17 0))=vY [] (.v (.ref 17 0))∧fF e (bY (cQ rs)) (plF ks 0) (.sd [(x "main.f",.ref 22 1)]) bl=fF e (bY (cQ rs)) (plF ks 0) (.sd [(x "main.f",.ref 22 1)]) bl) ⟨one,⟨by decide,by decide⟩,rfl,rfl,rfl⟩ (by kernel_rfl)⟩
   (.inl rfl) (.stop ⟨[],evG (P:=false=false∧fF e (bY (cQ rs)) (plF ks 0) (.sd [(x "main.f",.ref 22 1)]) bl=fF e (bY (cQ rs)) (plF ks 0) (.sd [(x "main.f",.ref 22 1)]) bl) ⟨rfl,rfl⟩ (by kernel_rfl)⟩)
 exact Ok.by (by decide +kernel) (lin [_,_] (.c 1 (.a (.n 20) (.m 8 (.v 1))) (.v 0) .e) (.a (.n 0) (.n 1)) (.v 0) rfl hd) [.loop 849 .next (vY [] (.v (.ref 17 0))) (fF e (bY (cQ rs)) (plF ks 0) (.sd [(x "main.f",.ref 22 1)]) bl)] (Tn (rfl:true=true) (Tn w id)) (by kernel_rfl)
end
structure MS where
 L:Int
 ps:List V
 cs:List (Int×V)
noncomputable def Gi(L:Int):O:= .sd [(x "objects",.edict),(x "many",.int 0),(x "prints",.ref 9 0),(x "left",.int L),(x "panics",.edict),(x "frames",.int 1)]
noncomputable def Dw:O:= .sd [(x "cells",.ref 12 0),(x "defers",.lst []),(x "number",.int 1),(x "above",.int 0)]
noncomputable def ao(s:St)(m:MS):St:={s with r7:=[Gi m.L],r9:=[.list m.ps],r11:=[Dw],r12:=[.idd m.cs]}
def Rd(cs:List (Int×V))(o:V)(v:V):Prop:=(∃ty,o=cOp ty v)∨∃n,o=reg n∧ag (Int.ofNat n) cs=some v
noncomputable def fK(op:String)(a b:Int):Bool:=if op="<" then decide (a<b) else if op="==" then decide (a=b) else decide (b≤a)
noncomputable def u8(r:Nat)(op:String)(a b:V):V:= .tup [S "binary",nat r,S op,a,b,ac]
noncomputable def zu(r:Nat)(b:V):V:= .tup [S "elem",nat r,cOp vThree cH,b]
noncomputable def zb(r:Nat):V:= .tup [S "size",nat r,S "len",cOp vThree cH,vThree]
inductive Step:V→MS→MS→Prop
 |mv {L ps cs r o a}:Rd cs o (.int a)→Step (mv r o) ⟨L,ps,cs⟩ ⟨L-1,ps,aZ (Int.ofNat r) (.int a) cs⟩
 |add {L ps cs r o o' a b}:Rd cs o (.int a)→Rd cs o' (.int b)→Step (u8 r "+" o o') ⟨L,ps,cs⟩ ⟨L-1,ps,aZ (Int.ofNat r) (.int (a+b)) cs⟩
 |cmp {L ps cs r o o' a b op}:(op="<"∨op="=="∨op=">=")→Rd cs o (.int a)→Rd cs o' (.int b)→Step (u8 r op o o') ⟨L,ps,cs⟩ ⟨L-1,ps,aZ (Int.ofNat r) (.bool (fK op a b)) cs⟩
 |elem {L ps cs r o i}:(i=0∨i=1∨i=2)→Rd cs o (.int i)→Step (zu r o) ⟨L,ps,cs⟩ ⟨L-1,ps,aZ (Int.ofNat r) (.int (10*i+7)) cs⟩
 |size {L ps cs r}:Step (zb r) ⟨L,ps,cs⟩ ⟨L-1,ps,aZ (Int.ofNat r) (.int 3) cs⟩
 |print1 {L ps cs r a}:ag (Int.ofNat r) cs=some (.int a)→Step (aK [r]) ⟨L,ps,cs⟩ ⟨L-1,ps++[.lst [.int a]],cs⟩
 |print2 {L ps cs r r' a a'}:ag (Int.ofNat r) cs=some (.int a)→ag (Int.ofNat r') cs=some (.int a')→Step (aK [r,r']) ⟨L,ps,cs⟩ ⟨L-1,ps++[.lst [.int a,.int a']],cs⟩
structure MB(m:MS):Prop where
 cs:m.cs.length≤90000
 ps:m.ps.length≤90000
section
variable{X:CR}{d:Nat}(s:St)
noncomputable def fr:V:= .ref 11 0
theorem cA(m:MS)(hd:1≤d){o v:V}(h:Rd m.cs o v):Ok X d 133 [fr,o] (ao s m) v (ao s m):=by
 rcases h with ⟨ty,rfl⟩|⟨n,rfl,h⟩
 ·exact Ok.by (by decide +kernel) hd [] id (by kernel_rfl)
 ·exact Ok.by (by decide +kernel) hd [.idx 1037 (S "reg"),.idx 1037 (.ref 12 0),.idx 1037 (nat n),.idx 1037 v]
   (Tn (rfl:some (S "reg")=some (S "reg")) (Tn (rfl:some (V.ref 12 0)=some (.ref 12 0)) (Tn (rfl:some (nat n)=some (nat n)) (Tn (by rw[h];rfl:some ((ag (Int.ofNat n) m.cs).getD (S "ill"))=some v) id)))) (by kernel_rfl)
theorem rQ(st:St)(hd:1≤d)(a b:Int):Ok X d 136 [S "+",.int a,.int b] st (.int (a+b)) st:=Ok.by (by decide +kernel) hd [] id (by kernel_rfl)
theorem yh(b:Bool):eqD (some (.bool b)) (some (.bool true))=some b:=by induction b<;>decide +kernel
theorem sV(st:St)(hd:1≤d)(op:String)(hop:op="<"∨op="=="∨op=">=")(a b:Int):Ok X d 136 [S op,.int a,.int b] st (.bool (fK op a b)) st:=by
 rcases hop with rfl|rfl|rfl
 ·exact Ok.by (by decide +kernel) hd [] id (by kernel_rfl)
 ·exact Ok.by (by decide +kernel) hd [.br 1054 (decide (a=b)),.br 1054 true,.br 1054 (decide (a=b))] (Tn (rfl:some (decide (a=b))=some (decide (a=b))) (Tn (rfl:some true=some true) (Tn (yh (decide (a=b))) id))) (by kernel_rfl)
 ·exact Ok.by (by decide +kernel) hd [] id (by kernel_rfl)
noncomputable def rm:V:= .ref 7 0
theorem BP(m:MS)(hd:2≤d){r:Nat}{o:V}{a:Int}(h:Rd m.cs o (.int a)):Ok X d 137 [rm,fr,mv r o] (ao s m) (.int a) (ao s m):=by
 have q:=cA (X:=X) (d:=d-1) s m (om2 hd) h
 rcases h with ⟨ty,rfl⟩|⟨n,rfl,h⟩<;>exact Ok.by (by decide +kernel) (om1 hd) [.call (.int a) (ao s m)] (Tn (rfl:true=true) (Tn q id)) (by kernel_rfl)
theorem f8{cs:List (Int×V)}{o v:V}(h:Rd cs o v):(∃ty,o=cOp ty v)∨∃n,o=reg n:=h.imp id fun⟨n,e,_⟩=>⟨n,e⟩
theorem yo(m:MS)(hd:2≤d){r:Nat}{o o':V}{a b:Int}(h:Rd m.cs o (.int a))(h':Rd m.cs o' (.int b)):Ok X d 137 [rm,fr,u8 r "+" o o'] (ao s m) (.int (a+b)) (ao s m):=by
 have q:=cA (X:=X) (d:=d-1) s m (om2 hd) h
 have q':=cA (X:=X) (d:=d-1) s m (om2 hd) h'
 have p:=rQ (X:=X) (d:=d-1) (ao s m) (om2 hd) a b
 rcases f8 h with ⟨ty,rfl⟩|⟨n,rfl⟩<;>rcases f8 h' with ⟨ty',rfl⟩|⟨n',rfl⟩<;>
 exact Ok.by (by decide +kernel) (om1 hd) [.call (.int a) (ao s m),.call (.int b) (ao s m),.call (.int (a+b)) (ao s m)] (Tn (rfl:true=true) (Tn (rfl:true=true) (Tn q (Tn (rfl:true=true) (Tn q' (Tn (rfl:true=true) (Tn p id))))))) (by kernel_rfl)
theorem x9(m:MS)(hd:2≤d){r:Nat}{o o':V}{a b:Int}{op:String}(hop:op="<"∨op="=="∨op=">=")(h:Rd m.cs o (.int a))(h':Rd m.cs o' (.int b)):Ok X d 137 [rm,fr,u8 r op o o'] (ao s m) (.bool (fK op a b)) (ao s m):=by
 have q:=cA (X:=X) (d:=d-1) s m (om2 hd) h
 have q':=cA (X:=X) (d:=d-1) s m (om2 hd) h'
 have p:=sV (X:=X) (d:=d-1) (ao s m) (om2 hd) op hop a b
 rcases f8 h with ⟨ty,rfl⟩|⟨n,rfl⟩<;>rcases f8 h' with ⟨ty',rfl⟩|⟨n',rfl⟩<;>
 exact Ok.by (by decide +kernel) (om1 hd) [.call (.int a) (ao s m),.call (.int b) (ao s m),.call (.bool (fK op a b)) (ao s m)] (Tn (rfl:true=true) (Tn (rfl:true=true) (Tn q (Tn (rfl:true=true) (Tn q' (Tn (rfl:true=true) (Tn p id))))))) (by kernel_rfl)
theorem vB(m:MS)(hd:2≤d){r:Nat}{o:V}{i:Int}(hi:i=0∨i=1∨i=2)(h:Rd m.cs o (.int i)):Ok X d 137 [rm,fr,zu r o] (ao s m) (.int (10*i+7)) (ao s m):=by
 have q:=cA (X:=X) (d:=d-1) s m (om2 hd) (.inl ⟨vThree,rfl⟩:Rd m.cs (cOp vThree cH) cH)
 have q':=cA (X:=X) (d:=d-1) s m (om2 hd) h
 rcases hi with rfl|rfl|rfl<;>rcases f8 h with ⟨ty,rfl⟩|⟨n,rfl⟩
 ·exact Ok.by (by decide +kernel) (om1 hd) [.call cH (ao s m),.call (.int 0) (ao s m)] (Tn (rfl:true=true) (Tn q (Tn (rfl:true=true) (Tn q' id)))) (by kernel_rfl)
 ·exact Ok.by (by decide +kernel) (om1 hd) [.call cH (ao s m),.call (.int 0) (ao s m)] (Tn (rfl:true=true) (Tn q (Tn (rfl:true=true) (Tn q' id)))) (by kernel_rfl)
 ·exact Ok.by (by decide +kernel) (om1 hd) [.call cH (ao s m),.call (.int 1) (ao s m)] (Tn (rfl:true=true) (Tn q (Tn (rfl:true=true) (Tn q' id)))) (by kernel_rfl)
 ·exact Ok.by (by decide +kernel) (om1 hd) [.call cH (ao s m),.call (.int 1) (ao s m)] (Tn (rfl:true=true) (Tn q (Tn (rfl:true=true) (Tn q' id)))) (by kernel_rfl)
 ·exact Ok.by (by decide +kernel) (om1 hd) [.call cH (ao s m),.call (.int 2) (ao s m)] (Tn (rfl:true=true) (Tn q (Tn (rfl:true=true) (Tn q' id)))) (by kernel_rfl)
 ·exact Ok.by (by decide +kernel) (om1 hd) [.call cH (ao s m),.call (.int 2) (ao s m)] (Tn (rfl:true=true) (Tn q (Tn (rfl:true=true) (Tn q' id)))) (by kernel_rfl)
theorem wp(m:MS)(hd:2≤d){r:Nat}:Ok X d 137 [rm,fr,zb r] (ao s m) (.int 3) (ao s m):=by
 have q:=cA (X:=X) (d:=d-1) s m (om2 hd) (.inl ⟨vThree,rfl⟩:Rd m.cs (cOp vThree cH) cH)
 exact Ok.by (by decide +kernel) (om1 hd) [.call cH (ao s m)] (Tn (rfl:true=true) (Tn (rfl:true=true) (Tn q (Tn (rfl:true=true) id)))) (by kernel_rfl)
noncomputable def cd:V:= .ref 14 0
theorem aM(r:Nat)(v:V)(cs:List (Int×V)):ag (Int.ofNat r) (aZ (Int.ofNat r) v cs)=some v:=by rw[aA,if_pos rfl]
theorem sX(m m':MS)(hd:3≤d){i:V}(h:Step i m m')(hb:MB m):Ok X d 143 [rm,cd,fr,i] (ao s m) .none (ao s m'):=by
 have hc:=hb.cs
 have hp:=hb.ps
 induction h with
 | @mv L ps cs r o a h1=>
  have q:=BP (X:=X) (d:=d-1) s ⟨L-1,ps,cs⟩ (om3 hd) (r:=r) h1
  exact Ok.by (by decide +kernel) (om0 hd) [.call (.int a) (ao s ⟨L-1,ps,cs⟩),.idx 1165 (.ref 12 0),.idx 1165 (nat r),.idx 1165 (.int a)] (Tn (rfl:Nat.ble 6 500=true) (Tn q (Tn (by simp at hc;exact om19 hc:cs.length≤100000) (Tn (rfl:some (V.ref 12 0)=some (.ref 12 0)) (Tn (rfl:some (nat r)=some (nat r)) (Tn (aM r (.int a) cs) id)))))) (by kernel_rfl)
 | @add L ps cs r o o' a b h1 h2=>
  have q:=yo (X:=X) (d:=d-1) s ⟨L-1,ps,cs⟩ (om3 hd) (r:=r) h1 h2
  exact Ok.by (by decide +kernel) (om0 hd) [.call (.int (a+b)) (ao s ⟨L-1,ps,cs⟩),.idx 1165 (.ref 12 0),.idx 1165 (nat r),.idx 1165 (.int (a+b))] (Tn (rfl:Nat.ble 6 500=true) (Tn q (Tn (by simp at hc;exact om19 hc:cs.length≤100000) (Tn (rfl:some (V.ref 12 0)=some (.ref 12 0)) (Tn (rfl:some (nat r)=some (nat r)) (Tn (aM r (.int (a+b)) cs) id)))))) (by kernel_rfl)
 | @cmp L ps cs r o o' a b op hop h1 h2=>
  have q:=x9 (X:=X) (d:=d-1) s ⟨L-1,ps,cs⟩ (om3 hd) (r:=r) hop h1 h2
  exact Ok.by (by decide +kernel) (om0 hd) [.call (.bool (fK op a b)) (ao s ⟨L-1,ps,cs⟩),.idx 1165 (.ref 12 0),.idx 1165 (nat r),.idx 1165 (.bool (fK op a b))] (Tn (rfl:Nat.ble 6 500=true) (Tn q (Tn (by simp at hc;exact om19 hc:cs.length≤100000) (Tn (rfl:some (V.ref 12 0)=some (.ref 12 0)) (Tn (rfl:some (nat r)=some (nat r)) (Tn (aM r (.bool (fK op a b)) cs) id)))))) (by kernel_rfl)
 | @elem L ps cs r o a hi h1=>
  have q:=vB (X:=X) (d:=d-1) s ⟨L-1,ps,cs⟩ (om3 hd) (r:=r) hi h1
  exact Ok.by (by decide +kernel) (om0 hd) [.call (.int (10*a+7)) (ao s ⟨L-1,ps,cs⟩),.idx 1165 (.ref 12 0),.idx 1165 (nat r),.idx 1165 (.int (10*a+7))] (Tn (rfl:Nat.ble 6 500=true) (Tn q (Tn (by simp at hc;exact om19 hc:cs.length≤100000) (Tn (rfl:some (V.ref 12 0)=some (.ref 12 0)) (Tn (rfl:some (nat r)=some (nat r)) (Tn (aM r (.int (10*a+7)) cs) id)))))) (by kernel_rfl)
 | @size L ps cs r=>
  have q:=wp (X:=X) (d:=d-1) s ⟨L-1,ps,cs⟩ (om3 hd) (r:=r)
  exact Ok.by (by decide +kernel) (om0 hd) [.call (.int 3) (ao s ⟨L-1,ps,cs⟩),.idx 1165 (.ref 12 0),.idx 1165 (nat r),.idx 1165 (.int 3)] (Tn (rfl:Nat.ble 6 500=true) (Tn q (Tn (by simp at hc;exact om19 hc:cs.length≤100000) (Tn (rfl:some (V.ref 12 0)=some (.ref 12 0)) (Tn (rfl:some (nat r)=some (nat r)) (Tn (aM r (.int 3) cs) id)))))) (by kernel_rfl)
 | @print1 L ps cs r a h1=>
  have q:=cA (X:=X) (d:=d-1) s ⟨L-1,ps,cs⟩ (om5 hd) (.inr ⟨r,rfl,h1⟩:Rd cs (reg r) (.int a))
  have hl:(ps++[V.lst [.int a]]).reverse[0]? = some (.lst [.int a]):=by simp
  exact Ok.by (by decide +kernel) (om0 hd) [.call (.int a) (ao s ⟨L-1,ps,cs⟩),.idx 1145 (.ref 9 0),.idx 1145 (.lst [.int a])] (Tn (rfl:Nat.ble 6 500=true) (Tn q (Tn (by simp at hp;exact om19 hp:ps.length≤100000) (Tn (rfl:some (V.ref 9 0)=some (.ref 9 0)) (Tn hl id))))) (by kernel_rfl)
 | @print2 L ps cs r r' a a' h1 h2=>
  have q:=cA (X:=X) (d:=d-1) s ⟨L-1,ps,cs⟩ (om5 hd) (.inr ⟨r,rfl,h1⟩:Rd cs (reg r) (.int a))
  have q':=cA (X:=X) (d:=d-1) s ⟨L-1,ps,cs⟩ (om5 hd) (.inr ⟨r',rfl,h2⟩:Rd cs (reg r') (.int a'))
  have hl:(ps++[V.lst [.int a,.int a']]).reverse[0]? = some (.lst [.int a,.int a']):=by simp
  exact Ok.by (by decide +kernel) (om0 hd) [.call (.int a) (ao s ⟨L-1,ps,cs⟩),.call (.int a') (ao s ⟨L-1,ps,cs⟩),.idx 1145 (.ref 9 0),.idx 1145 (.lst [.int a,.int a'])] (Tn (rfl:Nat.ble 6 500=true) (Tn q (Tn q' (Tn (by simp at hp;exact om19 hp:ps.length≤100000) (Tn (rfl:some (V.ref 9 0)=some (.ref 9 0)) (Tn hl id)))))) (by kernel_rfl)
end
inductive Steps:List V→MS→MS→Prop
 |nil (m:MS):Steps [] m m
 |cons {i:V} {is:List V} {m m₁ m₂:MS}:Step i m m₁→Steps is m₁ m₂→Steps (i::is) m m₂
noncomputable def tick(m:MS):MS:=⟨m.L-1,m.ps,m.cs⟩
noncomputable def toV(b:Nat):V:= .tup [S "to",nat b]
noncomputable def js(c:Bool)(a b:Nat):Nat:=match c with
 |true=>a
 |false=>b
noncomputable def cr:V:= .tup [S "done",.lst []]
noncomputable def mA(here:V)(is:List V)(e':V)(row told rd:LV):Rho:=[(x "room",.v rm),(x "codes",.v cd),(x "code",.v (.ref 22 1)),(x "frame",.v fr),(x "here",.v here),(x "some",.v (.lst is)),(x "end",.v e'),(x "row",row),(x "told",told),(x "read",rd)]
theorem Step.grows{i:V}{m m':MS}(h:Step i m m'):m'.L=m.L-1∧m'.cs.length≤m.cs.length+1∧m'.ps.length≤m.ps.length+1:=by
 induction h<;>refine⟨rfl,?_,?_⟩<;>first|exact iW _ _ _|exact Nat.le_succ _|exact leq List.length_append
theorem Steps.grows{is:List V}{m m':MS}(h:Steps is m m'):m'.L=m.L-is.length∧m'.cs.length≤m.cs.length+is.length∧m'.ps.length≤m.ps.length+is.length:=by
 induction h with
 |nil=>simp
 |cons h _ ih=>
  obtain⟨a1,a2,a3⟩:=h.grows
  obtain⟨b1,b2,b3⟩:=ih
  simp only[List.length_cons]
  refine⟨by omega,CW a2 b2,CW a3 b3⟩
section
variable{X:CR}{d:Nat}(s:St)
theorem ln(hd:3≤d)(here:V)(is0:List V)(e':V):∀ {is:List V} {m m':MS} (row told:LV),bS row→bS told→Steps is m m'→m.cs.length+is.length≤90000→m.ps.length+is.length≤90000→
  ∃row' told',ForR (asgN 9 (iE (aY (aG 142) 1))) (bP (evN (Ok X d) 39) (cxG 142) (iV (aY (aG 142) 1))) (cR is0 none) is (mA here is0 e' row told .unb) (ao s m) .next (mA here is0 e' row' told' .unb) (ao s m'):=by
 intro is m m' row told h1 h2 st
 induction st generalizing row told with
 |nil=>exact fun _ _=>⟨row,told,.nil _ _ trivial⟩
 | @cons i is m m₁ m' hs hr ih=>
  intro hc hp
  have g:=hs.grows
  obtain⟨row',told',r⟩:=ih (.v i) (.v .none) (.inr ⟨_,rfl⟩) (.inr ⟨_,rfl⟩) (Cr hc g.2.1) (Cr hp g.2.2)
  have q:=sX (X:=X) (d:=d) s m m₁ hd hs ⟨C9 hc,C9 hp⟩
  refine⟨row',told',.step (ρ₀:=mA here is0 e' (.v i) told .unb) (ρ₁:=mA here is0 e' (.v i) (.v .none) .unb) (st₁:=ao s m₁) trivial ?_ ⟨[.call .none (ao s m₁)],?_⟩ (.inl rfl) r⟩
  ·rcases h1 with rfl|⟨u,rfl⟩<;>kernel_rfl
  ·rcases h2 with rfl|⟨u,rfl⟩<;>
   exact evG (P:=Ok X d 143 [rm,cd,fr,i] (ao s m) .none (ao s m₁)∧Fl.next=Fl.next∧mA here is0 e' (.v i) (.v .none) .unb=mA here is0 e' (.v i) (.v .none) .unb∧ao s m₁=ao s m₁) ⟨q,rfl,rfl,rfl⟩ (by kernel_rfl)
structure Blk(bl:List V)(here:Nat)(is:List V)(t:V):Prop where
 get:bl[here]? = some (.lst [.lst is,t])
theorem sg(bl is:List V)(here b:Nat)(m m':MS)(hd:4≤d)(h22:s.r22[1]? = some (.inst 16 (cJ bl)))(hg:bl[here]? = some (.lst [.lst is,jmp b]))(h:Steps is m m')(hc:m.cs.length+is.length≤90000)(hp:m.ps.length+is.length≤90000):
  Ok X d 142 [rm,cd,.ref 22 1,fr,nat here] (ao s m) (toV b) (ao s (tick m')):=by
 obtain⟨row',told',r⟩:=ln (X:=X) (d:=d-1) s (pD hd) (nat here) is (jmp b) .unb .unb (.inl rfl) (.inl rfl) h hc hp
 exact Ok.by (by decide +kernel) (om8 hd) [.cell 1126 (.inst 16 (cJ bl)),.idx 1126 (.lst bl),.idx 1126 (.lst [.lst is,jmp b]),.loop 1127 .next (mA (nat here) is (jmp b) row' told' .unb) (ao s m')]
  (Tn h22 (Tn (rfl:some (V.lst bl)=some (.lst bl)) (Tn hg (Tn r (Tn (rfl:Nat.ble 6 500=true) id))))) (by kernel_rfl)
theorem zl(bl is:List V)(here k a b:Nat)(c:Bool)(m m':MS)(hd:4≤d)(h22:s.r22[1]? = some (.inst 16 (cJ bl)))(hg:bl[here]? = some (.lst [.lst is,brT k a b]))(h:Steps is m m')(hk:ag (Int.ofNat k) m'.cs=some (.bool c))(hc:m.cs.length+is.length≤90000)(hp:m.ps.length+is.length≤90000):
  Ok X d 142 [rm,cd,.ref 22 1,fr,nat here] (ao s m) (toV (js c a b)) (ao s (tick m')):=by
 obtain⟨row',told',r⟩:=ln (X:=X) (d:=d-1) s (pD hd) (nat here) is (brT k a b) .unb .unb (.inl rfl) (.inl rfl) h hc hp
 have q:=cA (X:=X) (d:=d-1) s (tick m') (Bw hd) (.inr ⟨k,rfl,hk⟩:Rd (tick m').cs (reg k) (.bool c))
 induction c
 ·exact Ok.by (by decide +kernel) (om8 hd) [.cell 1126 (.inst 16 (cJ bl)),.idx 1126 (.lst bl),.idx 1126 (.lst [.lst is,brT k a b]),.loop 1127 .next (mA (nat here) is (brT k a b) row' told' .unb) (ao s m'),.call (.bool false) (ao s (tick m'))]
    (Tn h22 (Tn (rfl:some (V.lst bl)=some (.lst bl)) (Tn hg (Tn r (Tn (rfl:Nat.ble 6 500=true) (Tn q id)))))) (by kernel_rfl)
 ·exact Ok.by (by decide +kernel) (om8 hd) [.cell 1126 (.inst 16 (cJ bl)),.idx 1126 (.lst bl),.idx 1126 (.lst [.lst is,brT k a b]),.loop 1127 .next (mA (nat here) is (brT k a b) row' told' .unb) (ao s m'),.call (.bool true) (ao s (tick m'))]
    (Tn h22 (Tn (rfl:some (V.lst bl)=some (.lst bl)) (Tn hg (Tn r (Tn (rfl:Nat.ble 6 500=true) (Tn q id)))))) (by kernel_rfl)
theorem vQ(bl is:List V)(here:Nat)(m m':MS)(hd:4≤d)(h22:s.r22[1]? = some (.inst 16 (cJ bl)))(hg:bl[here]? = some (.lst [.lst is,cM]))(h:Steps is m m')(hc:m.cs.length+is.length≤90000)(hp:m.ps.length+is.length≤90000):
  Ok X d 142 [rm,cd,.ref 22 1,fr,nat here] (ao s m) cr (ao s (tick m')):=by
 obtain⟨row',told',r⟩:=ln (X:=X) (d:=d-1) s (pD hd) (nat here) is cM .unb .unb (.inl rfl) (.inl rfl) h hc hp
 exact Ok.by (by decide +kernel) (om8 hd) [.cell 1126 (.inst 16 (cJ bl)),.idx 1126 (.lst bl),.idx 1126 (.lst [.lst is,cM]),.loop 1127 .next (mA (nat here) is cM row' told' .unb) (ao s m')]
  (Tn h22 (Tn (rfl:some (V.lst bl)=some (.lst bl)) (Tn hg (Tn r (Tn (rfl:Nat.ble 6 500=true) id))))) (by kernel_rfl)
inductive MRun(bl:List V):Nat→MS→MS→Prop
 |done {here:Nat} {is:List V} {m m':MS}:0<m.L→bl[here]? = some (.lst [.lst is,cM])→Steps is m m'→MRun bl here m (tick m')
 |jump {here b:Nat} {is:List V} {m m' m2:MS}:0<m.L→bl[here]? = some (.lst [.lst is,jmp b])→Steps is m m'→MRun bl b (tick m') m2→MRun bl here m m2
 |br {here k a b:Nat} {c:Bool} {is:List V} {m m' m2:MS}:0<m.L→bl[here]? = some (.lst [.lst is,brT k a b])→Steps is m m'→ag (Int.ofNat k) m'.cs=some (.bool c)→MRun bl (js c a b) (tick m') m2→MRun bl here m m2
noncomputable def lF(here:V)(told:LV):Rho:=[(x "room",.v rm),(x "codes",.v cd),(x "key",.v (S "main.f")),(x "given",.v (.lst [])),(x "above",.v (.int 0)),(x "code",.v (.ref 22 1)),(x "frame",.v fr),(x "here",.v here),(x "told",told),(x "ended",.unb)]
noncomputable def BX{C:CR}:=iI (evN C 39) (cxG 139) (whT (aY (aG 139) 5))
noncomputable def FE{C:CR}:=bP (evN C 39) (cxG 139) (whB (aY (aG 139) 5))
theorem kO{C:CR}(m:MS)(here:V)(told:LV)(h:0<m.L): @BX C (lF here told) (ao s m) true (ao s m):=
 ⟨[.br 1094 true],evG (P:=some (decide (0<m.L))=some true∧true=true∧ao s m=ao s m) ⟨by rw[decide_eq_true h],rfl,rfl⟩ (by kernel_rfl)⟩
theorem MRun.pos{bl:List V}{here:Nat}{m m':MS}(h:MRun bl here m m'):0<m.L:=by induction h<;>assumption
theorem AX(bl:List V)(hd:4≤d)(h22:s.r22[1]? = some (.inst 16 (cJ bl)))(hi:∀(b:Nat) (is:List V) (t:V),bl[b]? = some (V.lst [.lst is,t])→is.length≤70000){here:Nat}{m m':MS}(h:MRun bl here m m'):∀(told:LV),bS told→(m.cs.length:Int)+m.L≤2000→(m.ps.length:Int)+m.L≤2000→
  ∃ρ',WhileR (@BX (Ok X d)) (@FE (Ok X d)) (lF (nat here) told) (ao s m) (.ret cr) ρ' (ao s m'):=by
 induction h with
 | @done here is m m' hL hg hs=>
  intro told ho h1 h2
  have hil:=hi _ _ _ hg
  have q:=vQ (X:=X) (d:=d) s bl is here m m' hd h22 hg hs (vX hL h1 hil) (vX hL h2 hil)
  refine⟨lF (nat here) (.v cr),.ret (kO s m (nat here) told hL) ?_⟩
  rcases ho with rfl|⟨u,rfl⟩<;>
  exact⟨[.call cr (ao s (tick m'))],evG (P:=Ok X d 142 [rm,cd,.ref 22 1,fr,nat here] (ao s m) cr (ao s (tick m'))∧Fl.ret cr=Fl.ret cr∧lF (nat here) (.v cr)=lF (nat here) (.v cr)∧ao s (tick m')=ao s (tick m')) ⟨q,rfl,rfl,rfl⟩ (by kernel_rfl)⟩
 | @jump here b is m m' m2 hL hg hs hr ih=>
  intro told ho h1 h2
  have hil:=hi _ _ _ hg
  have q:=sg (X:=X) (d:=d) s bl is here b m m' hd h22 hg hs (vX hL h1 hil) (vX hL h2 hil)
  obtain⟨g1,g2,g3⟩:=hs.grows
  have e1:(tick m').cs=m'.cs:=rfl
  have e2:(tick m').ps=m'.ps:=rfl
  have e3:(tick m').L=m'.L-1:=rfl
  obtain⟨ρ',w⟩:=ih (.v (toV b)) (.inr ⟨_,rfl⟩) (by rw[e1,e3];exact Br h1 g1 g2) (by rw[e2,e3];exact Br h2 g1 g3)
  refine⟨ρ',.step (f:= .next) (ρ₁:=lF (nat b) (.v (toV b))) (st₂:=ao s (tick m')) (kO s m (nat here) told hL) ?_ (.inl rfl) w⟩
  rcases ho with rfl|⟨u,rfl⟩<;>
  exact⟨[.call (toV b) (ao s (tick m'))],evG (P:=Ok X d 142 [rm,cd,.ref 22 1,fr,nat here] (ao s m) (toV b) (ao s (tick m'))∧Fl.next=Fl.next∧lF (nat b) (.v (toV b))=lF (nat b) (.v (toV b))∧ao s (tick m')=ao s (tick m')) ⟨q,rfl,rfl,rfl⟩ (by kernel_rfl)⟩
 | @br here k a b c is m m' m2 hL hg hs hk hr ih=>
  intro told ho h1 h2
  have hil:=hi _ _ _ hg
  have q:=zl (X:=X) (d:=d) s bl is here k a b c m m' hd h22 hg hs hk (vX hL h1 hil) (vX hL h2 hil)
  obtain⟨g1,g2,g3⟩:=hs.grows
  have e1:(tick m').cs=m'.cs:=rfl
  have e2:(tick m').ps=m'.ps:=rfl
  have e3:(tick m').L=m'.L-1:=rfl
  obtain⟨ρ',w⟩:=ih (.v (toV (js c a b))) (.inr ⟨_,rfl⟩) (by rw[e1,e3];exact Br h1 g1 g2) (by rw[e2,e3];exact Br h2 g1 g3)
  generalize (js c a b)=b' at *
  refine⟨ρ',.step (f:= .next) (ρ₁:=lF (nat b') (.v (toV b'))) (st₂:=ao s (tick m')) (kO s m (nat here) told hL) ?_ (.inl rfl) w⟩
  rcases ho with rfl|⟨u,rfl⟩<;>
  exact⟨[.call (toV b') (ao s (tick m'))],evG (P:=Ok X d 142 [rm,cd,.ref 22 1,fr,nat here] (ao s m) (toV b') (ao s (tick m'))∧Fl.next=Fl.next∧lF (nat b') (.v (toV b'))=lF (nat b') (.v (toV b'))∧ao s (tick m')=ao s (tick m')) ⟨q,rfl,rfl,rfl⟩ (by kernel_rfl)⟩
noncomputable def GN:O:= .sd [(x "objects",.edict),(x "many",.int 0),(x "prints",.ref 9 0),(x "left",.int 1500),(x "panics",.edict),(x "frames",.int 0)]
noncomputable def mst(s:St)(r7 r9:List O):St:={s with r7:=r7,r9:=r9,r11:=[],r12:=[]}
theorem vr(bl:List V)(hd:5≤d)(h14:s.r14[0]? = some (.sd [(x "main.f",.ref 22 1)]))(h22:s.r22[1]? = some (.inst 16 (cJ bl)))(hi:∀(b:Nat) (is:List V) (t:V),bl[b]? = some (V.lst [.lst is,t])→is.length≤70000){m':MS}(h:MRun bl 0 ⟨1500,[],[]⟩ m'):
  Ok X d 139 [rm,cd,S "main.f",.lst [],.int 0] (mst s [GN] [.list []]) cr (ao s m'):=by
 obtain⟨ρ',w⟩:=AX (X:=X) (d:=d-1) s bl (pE hd) h22 hi h .unb (.inl rfl) (by decide) (by decide)
 exact Ok.by (by decide +kernel) (si hd) [.cell 1088 (.sd [(x "main.f",.ref 22 1)]),.cell 1088 (.sd [(x "main.f",.ref 22 1)]),.loop 1094 (.ret cr) ρ' (ao s m')] (Tn h14 (Tn h14 (Tn (rfl:Nat.ble 6 500=true) (Tn (rfl:true=true) (Tn (rfl:true=true) (Tn w id)))))) (by kernel_rfl)
theorem ww(bl:List V)(hd:6≤d)(h14:s.r14[0]? = some (.sd [(x "main.f",.ref 22 1)]))(h22:s.r22[1]? = some (.inst 16 (cJ bl)))(hi:∀(b:Nat) (is:List V) (t:V),bl[b]? = some (V.lst [.lst is,t])→is.length≤70000){m':MS}(h:MRun bl 0 ⟨1500,[],[]⟩ m'):
  Ok X d 144 [cd,S "main.f"] (mst s [] []) (.tup [cr,.ref 9 0]) (ao s m'):=
 Ok.by (by decide +kernel) (AJ hd) [.call cr (ao s m')] (Tn (vr (X:=X) (d:=d-1) s bl (zZ hd) h14 h22 hi h) id) (by kernel_rfl)
end
structure RS where
 cs:List (Int×V)
 ps:List V
inductive Out where
 |no
 |brk (m:Nat)
 |cnt (m:Nat)
noncomputable def bt(m:Nat):V:= .tup [S "break",nat m]
noncomputable def bM(m:Nat):V:= .tup [S "continue",nat m]
noncomputable def Out.v:Out→V
 | .no=> .none
 | .brk m=>bt m
 | .cnt m=>bM m
noncomputable def val(g:RS)(p:Nat):Int:=match ag (Int.ofNat p) g.cs with
 |some (.int a)=>a
 |_=>0
noncomputable def RS.print(g:RS)(p:Nat):RS:=⟨g.cs,g.ps++[.lst [.int (val g p)]]⟩
noncomputable def RS.add(g:RS)(p k:Nat):RS:=⟨aZ (Int.ofNat p) (.int (val g p+Int.ofNat k)) g.cs,g.ps⟩
noncomputable def Wd.s:Wd→String
 | .for_=>"for"
 | .ring=>"ring"
 | .row=>"row"
noncomputable def F0:Wd→Nat→V
 | .row,i=> .lst [nat i,.int (10*Int.ofNat i+7)]
 |_,i=> .lst [nat i]
noncomputable def RS.turn(g:RS)(w:Wd)(i:Nat):RS:=⟨g.cs,g.ps++[F0 w i]⟩
noncomputable def bK(g:RS)(a:Ask):Bool:=fK a.op (val g a.p) a.k
noncomputable def fM:Wd→Nat→Nat
 | .row,_=>3
 |_,most=>most
inductive Turn where
 |out
 |more
 |give (o:Out)
noncomputable def dR(num:Nat):Out→Turn
 | .no=> .more
 | .brk m=>if m=num then .out else .give (.brk m)
 | .cnt m=>if m=num then .more else .give (.cnt m)
noncomputable def bz(f:RS→RS×Out)(w:Wd)(num:Nat):Nat→Nat→RS→RS×Out
 |_,0,g=>(g,.no)
 |i,k+1,g=>match f (g.turn w i) with
  |(g',o)=>match dR num o with
   | .out=>(g',.no)
   | .more=>bz f w num (i+1) k g'
   | .give o=>(g',o)
noncomputable def i8(num:Nat):Out→Out
 | .brk m=>if m=num then .no else .brk m
 |o=>o
noncomputable def falls(f:Bool)(h:RS→RS×Out):RS×Out→RS×Out
 |(g,.no)=>match f with
  |true=>h g
  |false=>(g,.no)
 |r=>r
noncomputable def qi(g:RS)(as1 as2:List Ask)(df:Dfl):Dfl:=match as1.any (bK g) with
 |true=> .zero
 |false=>match as2.any (bK g) with
  |true=> .one
  |false=>df
mutual
noncomputable def Row.run:Row→RS→RS×Out
 | .print p,g=>(g.print p,.no)
 | .add p k,g=>(g.add p k,.no)
 | .ite a y n,g=>match bK g a with
  |true=>y.run g
  |false=>n.run g
 | .jump true m,g=>(g,.brk m)
 | .jump false m,g=>(g,.cnt m)
 | .loop w num _ most b,g=>bz (fun g=>b.run g) w num 0 (fM w most) g
 | .switch num _ _ as1 y f as2 z df,g=>
  let r:RS×Out:=match qi g as1 as2 df with
   | .no=>(g,.no)
   | .zero=>falls f (fun g=>z.run g) (y.run g)
   | .one=>z.run g
  (r.1,i8 num r.2)
noncomputable def Rows.run:Rows→RS→RS×Out
 | .nil,g=>(g,.no)
 | .cons r rs,g=>match r.run g with
  |(g',.no)=>rs.run g'
  |r=>r
end
noncomputable def cO(a:Ask):V:= .tup [nat a.p,S a.op,.int a.k]
noncomputable def bU(as:List Ask)(rs:List V)(f:Bool):V:= .tup [.lst (as.map cO),.lst rs,.bool f]
mutual
noncomputable def Row.v:Row→V
 | .print p=> .tup [S "print",nat p]
 | .add p k=> .tup [S "add",nat p,nat k]
 | .ite a y n=> .tup [S "if",cO a,.lst y.vs,.lst n.vs]
 | .jump true m=>bt m
 | .jump false m=>bM m
 | .loop w num l most b=> .tup [S w.s,nat num,nat l,nat most,.lst b.vs]
 | .switch num l most as1 y f as2 z df=> .tup [S "switch",nat num,nat l,nat most,.tup [.lst [bU as1 y.vs f,bU as2 z.vs false],df.v]]
noncomputable def Rows.vs:Rows→List V
 | .nil=>[]
 | .cons r rs=>r.v::rs.vs
end
noncomputable def HS:O:= .sd [(x "cells",.ref 5 0),(x "prints",.ref 6 0)]
noncomputable def af(s:St)(g:RS):St:={s with r4:=[HS],r5:=[.idd g.cs],r6:=[.list g.ps]}
noncomputable def rn:V:= .ref 4 0
def lu(g:RS):Prop:=∀p,p<3→ag (Int.ofNat p) g.cs=some (.int (val g p))
structure RB(g:RS)(n:Nat):Prop where
 cells:lu g
 cs:g.cs.length≤1000
 ps:g.ps.length+n≤90000
theorem RB.mono{g:RS}{n m:Nat}(h:RB g n)(l:m≤n):RB g m:=⟨h.cells,h.cs,by have:=h.ps;exact lin [_,_,_] (.c 1 (.v 1) (.v 2) (.c 1 (.a (.v 0) (.v 2)) (.n 90000) .e)) (.a (.v 0) (.v 1)) (.n 90000) rfl l this⟩
theorem tA{g:RS}{p:Nat}{a:Int}(h:ag (Int.ofNat p) g.cs=some (.int a)):val g p=a:=by unfold val;rw[h]
theorem iT{α:Type}(k:Int)(a:α):∀l:List (Int×α),(ag k l).isSome=true→(aZ k a l).length=l.length
 |[],h=>by cases h
 |p::r,h=>by
  unfold ag at h
  unfold aZ
  by_cases e:p.1=k
  ·rw[decide_eq_true e];rfl
  ·rw[decide_eq_false e] at h ⊢
   rw[List.length_cons,iT k a r h,List.length_cons]
theorem RB.add{g:RS}{n:Nat}(h:RB g n){p:Nat}(hp:p<3)(k:Nat):RB (g.add p k) n:=by
 refine⟨fun q hq=> ?_,?_,h.ps⟩
 ·show ag (Int.ofNat q) (aZ _ _ _)=_
  by_cases e:p=q
  ·subst e
   have h1:ag (Int.ofNat p) (g.add p k).cs=some (.int (val g p+Int.ofNat k)):=aM ..
   rw[tA h1];exact h1
  ·have h1:ag (Int.ofNat q) (g.add p k).cs=some (.int (val g q)):=by
    show ag (Int.ofNat q) (aZ _ _ _)=_
    rw[aA,if_neg (aT e)];exact h.cells q hq
   rw[tA h1];exact h1
 ·show(aZ _ _ _).length≤1000
  rw[iT _ _ _ (by rw[h.cells p hp];rfl)];exact h.cs
theorem RB.push{g:RS}{n:Nat}(h:RB g (n+1))(v:V):RB ⟨g.cs,g.ps++[v]⟩ n:=⟨h.cells,h.cs,by have:=h.ps;simp;exact Fz this⟩
section
variable{X:CR}{d n:Nat}(s:St)
theorem uh(g:RS)(hd:1≤d)(hg:lu g)(a:Ask)(ha:a.ok):Ok X d 122 [rn,cO a] (af s g) (.bool (bK g a)) (af s g):=by
 obtain⟨hp,hop⟩:=ha
 obtain⟨p,op,k⟩:=a
 have h:=hg p hp
 rcases hop with rfl|rfl|rfl<;>
 exact Ok.by (by decide +kernel) hd [.idx 964 (.ref 5 0),.idx 964 (nat p),.idx 964 (.int (val g p))] (Tn (rfl:some (V.ref 5 0)=some (.ref 5 0)) (Tn (rfl:some (nat p)=some (nat p)) (Tn h id))) (by kernel_rfl)
theorem tE(g:RS)(hd:1≤d)(hg:RB g (n+1)){p:Nat}(hp:p<3):Ok X d 123 [rn,(Row.print p).v] (af s g) .none (af s (g.print p)):=
 Ok.by (by decide +kernel) hd [.idx 969 (.ref 6 0),.idx 969 (.ref 5 0),.idx 969 (nat p),.idx 969 (.int (val g p))] (Tn (rfl:some (V.ref 6 0)=some (.ref 6 0)) (Tn (rfl:some (V.ref 5 0)=some (.ref 5 0)) (Tn (rfl:some (nat p)=some (nat p)) (Tn (hg.cells p hp) (Tn (by have:=hg.ps;exact DK this:g.ps.length≤100000) id))))) (by kernel_rfl)
theorem xT(g:RS)(hd:1≤d)(hg:RB g n){p:Nat}(hp:p<3)(k:Nat):Ok X d 123 [rn,(Row.add p k).v] (af s g) .none (af s (g.add p k)):=
 Ok.by (by decide +kernel) hd [.idx 971 (.ref 5 0),.idx 971 (nat p),.idx 971 (.int (val g p)),.idx 971 (nat k),.idx 971 (.ref 5 0),.idx 971 (nat p)] (Tn (rfl:some (V.ref 5 0)=some (.ref 5 0)) (Tn (rfl:some (nat p)=some (nat p)) (Tn (hg.cells p hp) (Tn (rfl:some (nat k)=some (nat k)) (Tn (rfl:some (V.ref 5 0)=some (.ref 5 0)) (Tn (rfl:some (nat p)=some (nat p)) (Tn (by have:=hg.cs;exact E7 this:g.cs.length≤100000) id))))))) (by kernel_rfl)
theorem nN(st:St)(hd:1≤d)(br:Bool)(m:Nat):Ok X d 123 [rn,(Row.jump br m).v] st (Row.jump br m).v st:=by
 cases br<;>exact Ok.by (by decide +kernel) hd [] id (by kernel_rfl)
theorem wX(g:RS)(hd:2≤d)(hg:lu g)(a:Ask)(ha:a.ok)(y z:Rows){v:V}{st':St}(h:Ok X (d-1) 121 [rn,.lst (match bK g a with|true=>y.vs|false=>z.vs)] (af s g) v st'):Ok X d 123 [rn,(Row.ite a y z).v] (af s g) v st':=by
 have q:=uh (X:=X) (d:=d-1) s g (om2 hd) hg a ha
 cases e:bK g a with
 |true=>rw[e] at h q;exact Ok.by (by decide +kernel) (om1 hd) [.call (.bool true) (af s g),.call v st'] (Tn q (Tn h id)) (by kernel_rfl)
 |false=>rw[e] at h q;exact Ok.by (by decide +kernel) (om1 hd) [.call (.bool false) (af s g),.call v st'] (Tn q (Tn h id)) (by kernel_rfl)
theorem vC(st:St)(hd:1≤d)(w:Wd)(num l most:Nat)(b:Rows){v:V}{st':St}(h:Ok X (d-1) 125 [rn,(Row.loop w num l most b).v] st v st'):Ok X d 123 [rn,(Row.loop w num l most b).v] st v st':=by
 cases w<;>exact Ok.by (by decide +kernel) (xe hd) [.call v st'] (Tn h id) (by kernel_rfl)
end
theorem kf(st:St)(m n:Nat):eqB st (bt m) (bt n)=some (decide (m=n)):=by
 have e:eqB st (bt m) (bt n)=some (PyData.eqv (.tuple [.str (Str.ofString "break"),.int (Int.ofNat m)]) (.tuple [.str (Str.ofString "break"),.int (Int.ofNat n)])):=by kernel_rfl
 rw[e]
 simp only[PyData.eqv,PyData.eqvAll,beq_self_eq_true,Bool.true_and,Bool.and_true]
 congr 1
 by_cases e:m=n
 ·subst e;simp
 ·rw[decide_eq_false e];simp only[beq_eq_false_iff_ne];intro h;exact e (Int.ofNat.inj h)
theorem tQ(st:St)(m n:Nat):eqB st (bM m) (bM n)=some (decide (m=n)):=by
 have e:eqB st (bM m) (bM n)=some (PyData.eqv (.tuple [.str (Str.ofString "continue"),.int (Int.ofNat m)]) (.tuple [.str (Str.ofString "continue"),.int (Int.ofNat n)])):=by kernel_rfl
 rw[e]
 simp only[PyData.eqv,PyData.eqvAll,beq_self_eq_true,Bool.true_and,Bool.and_true]
 congr 1
 by_cases e:m=n
 ·subst e;simp
 ·rw[decide_eq_false e];simp only[beq_eq_false_iff_ne];intro h;exact e (Int.ofNat.inj h)
noncomputable def cC(row:V)(w:Wd)(num l most:Nat)(vs:List V)(turn left:LV):Rho:=[(x "run",.v rn),(x "row",.v row),(x "word",.v (S w.s)),(x "number",.v (nat num)),(x "first",.v (nat l)),(x "most",.v (nat most)),(x "some",.v (.lst vs)),(x "turn",turn),(x "left",left)]
noncomputable def xL:Nat→Nat→List V
 |_,0=>[]
 |i,k+1=>nat i::xL (i+1) k
theorem Gx(b:Int):IntMulOk 10 b:=IntMulOk.of_left (by decide +kernel)
section
variable{X:CR}{d n:Nat}(s:St)
noncomputable def Gf{C:CR}:=bP (evN C 39) (cxG 125) (iV (aY (aG 125) 1))
noncomputable def Turn.fl:Turn→Fl
 | .out=> .ret .none
 | .more=> .next
 | .give o=> .ret o.v
noncomputable def wl(u:V):List (Wd×LV):=[(.for_,.unb),(.for_,.v u),(.ring,.unb),(.ring,.v u),(.row,.unb),(.row,.v u)]
theorem FF(w:Wd){left:LV}(h:bS left):∃u,(w,left)∈wl u:=by
 rcases h with rfl|⟨u,rfl⟩
 ·exact⟨.none,by induction w with|for_=>exact .head _|ring=>exact .tail _ (.tail _ (.head _))|row=>exact .tail _ (.tail _ (.tail _ (.tail _ (.head _))))⟩
 ·exact⟨u,.tail _ (by induction w with|for_=>exact .head _|ring=>exact .tail _ (.tail _ (.head _))|row=>exact .tail _ (.tail _ (.tail _ (.tail _ (.head _)))))⟩
def mulP(w:Wd)(i:Nat)(R:Prop):Prop:=match w with
 | .row=>IntMulOk 10 (Int.ofNat i)∧R
 |_=>R
theorem mulP.mk(w:Wd)(i:Nat){R:Prop}(r:R):mulP w i R:=by
 induction w with
 |row=>exact⟨Gx _,r⟩
 |_=>exact r
theorem u9{C:CR}(row:V)(w:Wd)(num l most i:Nat)(vs:List V)(left:LV)(hl:bS left)(g:RS)(hp:g.ps.length≤100000)(g':RS)(o:Out)(h:C 121 [rn,.lst vs] (af s (g.turn w i)) o.v (af s g')):
  @Gf C (cC row w num l most vs (.v (nat i)) left) (af s g) (dR num o).fl (cC row w num l most vs (.v (nat i)) (.v o.v)) (af s g'):=by
 obtain⟨u,m⟩:=FF w hl
 induction o with
 |no=>
  refine⟨[.idx 993 (.ref 6 0),.call .none (af s g')],?_⟩
  exact evG (P:=some (V.ref 6 0)=some (.ref 6 0)∧mulP w i (g.ps.length≤100000∧C 121 [rn,.lst vs] (af s (g.turn w i)) .none (af s g')∧Fl.next=Fl.next∧cC row w num l most vs (.v (nat i)) (.v .none)=cC row w num l most vs (.v (nat i)) (.v .none)∧af s g'=af s g')) ⟨rfl,mulP.mk w i ⟨hp,h,rfl,rfl,rfl⟩⟩ (by apply p5 m;kernel_rfl)
 |brk k=>
  by_cases e:k=num
  ·have q:eqB (af s g') (bt k) (bt num)=some true:=by rw[kf,decide_eq_true e]
   rw[show dR num (.brk k) = .out from if_pos e]
   refine⟨[.idx 993 (.ref 6 0),.call (bt k) (af s g'),.br 995 true],?_⟩
   exact evG (P:=some (V.ref 6 0)=some (.ref 6 0)∧mulP w i (g.ps.length≤100000∧C 121 [rn,.lst vs] (af s (g.turn w i)) (bt k) (af s g')∧eqB (af s g') (bt k) (bt num)=some true∧Fl.ret V.none=Fl.ret .none∧cC row w num l most vs (.v (nat i)) (.v (bt k))=cC row w num l most vs (.v (nat i)) (.v (bt k))∧af s g'=af s g')) ⟨rfl,mulP.mk w i ⟨hp,h,q,rfl,rfl,rfl⟩⟩ (by apply p5 m;kernel_rfl)
  ·have q:eqB (af s g') (bt k) (bt num)=some false:=by rw[kf,decide_eq_false e]
   rw[show dR num (.brk k) = .give (.brk k) from if_neg e]
   refine⟨[.idx 993 (.ref 6 0),.call (bt k) (af s g'),.br 995 false,.br 997 true,.br 997 true],?_⟩
   exact evG (P:=some (V.ref 6 0)=some (.ref 6 0)∧mulP w i (g.ps.length≤100000∧C 121 [rn,.lst vs] (af s (g.turn w i)) (bt k) (af s g')∧eqB (af s g') (bt k) (bt num)=some false∧some true=some true∧true=true∧Fl.ret (bt k)=Fl.ret (bt k)∧cC row w num l most vs (.v (nat i)) (.v (bt k))=cC row w num l most vs (.v (nat i)) (.v (bt k))∧af s g'=af s g')) ⟨rfl,mulP.mk w i ⟨hp,h,q,rfl,rfl,rfl,rfl,rfl⟩⟩ (by apply p5 m;kernel_rfl)
 |cnt k=>
  by_cases e:k=num
  ·have q:rC (eqB (af s g') (bM k) (bM num))=some false:=by rw[tQ,decide_eq_true e];rfl
   rw[show dR num (.cnt k) = .more from if_pos e]
   refine⟨[.idx 993 (.ref 6 0),.call (bM k) (af s g'),.br 997 true,.br 997 true,.br 997 false],?_⟩
   exact evG (P:=some (V.ref 6 0)=some (.ref 6 0)∧mulP w i (g.ps.length≤100000∧C 121 [rn,.lst vs] (af s (g.turn w i)) (bM k) (af s g')∧some true=some true∧true=true∧rC (eqB (af s g') (bM k) (bM num))=some false∧Fl.next=Fl.next∧cC row w num l most vs (.v (nat i)) (.v (bM k))=cC row w num l most vs (.v (nat i)) (.v (bM k))∧af s g'=af s g')) ⟨rfl,mulP.mk w i ⟨hp,h,rfl,rfl,q,rfl,rfl,rfl⟩⟩ (by apply p5 m;kernel_rfl)
  ·have q:rC (eqB (af s g') (bM k) (bM num))=some true:=by rw[tQ,decide_eq_false e];rfl
   rw[show dR num (.cnt k) = .give (.cnt k) from if_neg e]
   refine⟨[.idx 993 (.ref 6 0),.call (bM k) (af s g'),.br 997 true,.br 997 true,.br 997 true],?_⟩
   exact evG (P:=some (V.ref 6 0)=some (.ref 6 0)∧mulP w i (g.ps.length≤100000∧C 121 [rn,.lst vs] (af s (g.turn w i)) (bM k) (af s g')∧some true=some true∧true=true∧rC (eqB (af s g') (bM k) (bM num))=some true∧Fl.ret (bM k)=Fl.ret (bM k)∧cC row w num l most vs (.v (nat i)) (.v (bM k))=cC row w num l most vs (.v (nat i)) (.v (bM k))∧af s g'=af s g')) ⟨rfl,mulP.mk w i ⟨hp,h,rfl,rfl,q,rfl,rfl,rfl⟩⟩ (by apply p5 m;kernel_rfl)
def ur(fl:Fl)(o:Out):Prop:=(fl = .next∧o = .no)∨fl = .ret o.v
theorem mi(hd:1≤d)(row:V)(w:Wd)(num l most:Nat)(vs items:List V)(f:RS→RS×Out)(q:Nat)
  (hf:∀(g:RS) (n:Nat),RB g (q+n)→Ok X d 121 [rn,.lst vs] (af s g) (f g).2.v (af s (f g).1)∧RB (f g).1 n):∀(k i:Nat) (g:RS) (turn left:LV),bS turn→bS left→RB g (k*(1+q)+n)→
  (∃fl ρ',ForR (asgN 9 (iE (aY (aG 125) 1))) (@Gf (Ok X d)) (cR items none) (xL i k) (cC row w num l most vs turn left) (af s g) fl ρ' (af s (bz f w num i k g).1)∧ur fl (bz f w num i k g).2)∧RB (bz f w num i k g).1 n
 |0,i,g,turn,left,h1,h2,h=>⟨⟨.next,_,.nil _ _ trivial,.inl ⟨rfl,rfl⟩⟩,h.mono (lin [_,_] .e (.v 0) (.a (.m 0 (.a (.n 1) (.v 1))) (.v 0)) rfl)⟩
 |k+1,i,g,turn,left,h1,h2,h=>by
  have e:(k+1)*(1+q)+n=(q+(k*(1+q)+n))+1:=by rw[Nat.succ_mul];exact Nat.le_antisymm (lin [_,_,_] .e (.a (.a (.v 0) (.a (.n 1) (.v 1))) (.v 2)) (.a (.a (.v 1) (.a (.v 0) (.v 2))) (.n 1)) rfl) (lin [_,_,_] .e (.a (.a (.v 0) (.a (.v 1) (.v 2))) (.n 1)) (.a (.a (.v 1) (.a (.n 1) (.v 0))) (.v 2)) rfl)
  rw[e] at h
  have hp:=h.ps
  have hg:RB (g.turn w i) (q+(k*(1+q)+n)):=h.push _
  obtain⟨c1,c2⟩:=hf _ _ hg
  have b:=u9 s row w num l most i vs left h2 g (lin [_,_,_,_] (.c 1 (.a (.v 0) (.a (.a (.v 1) (.a (.v 2) (.v 3))) (.n 1))) (.n 90000) .e) (.v 0) (.n 100000) rfl hp) (f (g.turn w i)).1 (f (g.turn w i)).2 c1
  have a:asgN 9 (iE (aY (aG 125) 1)) (nat i) (cC row w num l most vs turn left)=some (cC row w num l most vs (.v (nat i)) left):=by
   rcases h1 with rfl|⟨u,rfl⟩<;>rcases h2 with rfl|⟨u',rfl⟩<;>kernel_rfl
  unfold bz
  revert b c2
  generalize f (g.turn w i)=r
  obtain⟨g',o⟩:=r
  intro c2 b
  dsimp only at b c2 ⊢
  revert b
  cases dR num o with
  |out=>intro b;exact⟨⟨_,_,.ret trivial a b,.inr rfl⟩,c2.mono Ct⟩
  |give o'=>intro b;exact⟨⟨_,_,.ret trivial a b,.inr rfl⟩,c2.mono Ct⟩
  |more=>
   intro b
   obtain⟨⟨fl,ρ',r,hr⟩,hb⟩:=mi hd row w num l most vs items f q hf k (i+1) g' (.v (nat i)) (.v o.v) (.inr ⟨_,rfl⟩) (.inr ⟨_,rfl⟩) c2
   exact⟨⟨fl,ρ',.step trivial a b (.inl rfl) r,hr⟩,hb⟩
set_option tactic.hygienic true in
noncomputable def wmk(w:Wd):List (Wd×Nat):=[0,1,2,3].map fun k=>(w,k)
noncomputable def wm:List (Wd×Nat):=wmk .for_++(wmk .ring++wmk .row)
theorem GJ(w:Wd){k:Nat}(h:k≤3):(w,k)∈wm:=by
 have m:(w,k)∈wmk w:=List.mem_map_of_mem ((by decide:∀k,k<4→k∈[0,1,2,3]) k (Nat.lt_succ_of_le h))
 induction w with
 |for_=>exact List.mem_append_left _ m
 |ring=>exact List.mem_append_right _ (List.mem_append_left _ m)
 |row=>exact List.mem_append_right _ (List.mem_append_right _ m)
noncomputable def mlP(w:Wd)(k:Nat):Nat:=match w with
 | .row=>3
 |_=>k
theorem mlP.mk(w:Wd){k:Nat}(h:k≤100000):mlP w k≤100000:=by
 induction w with
 |row=>exact(by decide:3≤100000)
 |_=>exact h
theorem uX(hd:2≤d)(w:Wd)(num l most:Nat)(hm:most≤3)(b:Rows)(q:Nat)
  (hf:∀(g:RS) (n:Nat),RB g (q+n)→Ok X (d-1) 121 [rn,.lst b.vs] (af s g) (b.run g).2.v (af s (b.run g).1)∧RB (b.run g).1 n) (g:RS) (h:RB g (fM w most*(1+q)+n)):
  Ok X d 125 [rn,(Row.loop w num l most b).v] (af s g) ((Row.loop w num l most b).run g).2.v (af s ((Row.loop w num l most b).run g).1)∧RB ((Row.loop w num l most b).run g).1 n:=by
 obtain⟨⟨fl,ρ',r,hr⟩,hb⟩:=mi (X:=X) s (d:=d-1) (om2 hd) (Row.loop w num l most b).v w num l most b.vs (xL 0 (fM w most)) (fun g=>b.run g) q hf (fM w most) 0 g .unb .unb (.inl rfl) (.inl rfl) h
 have e:(Row.loop w num l most b).run g=bz (fun g=>b.run g) w num 0 (fM w most) g:=rfl
 rw[e]
 refine⟨?_,hb⟩
 clear hb
 revert r hr
 generalize bz (fun g=>b.run g) w num 0 (fM w most) g=z
 obtain⟨g',o⟩:=z
 intro r hr
 dsimp only at r hr ⊢
 have h5:most≤100000:=lin [_] (.c 1 (.v 0) (.n 3) .e) (.v 0) (.n 100000) rfl hm
 have m:=GJ w hm
 rcases hr with ⟨rfl,rfl⟩|rfl
 ·exact Ok.by (by decide +kernel) (om1 hd) [.loop 992 .next ρ' (af s g')] (Tn (mlP.mk w h5) (Tn r id)) (by apply p5 m;kernel_rfl)
 ·exact Ok.by (by decide +kernel) (om1 hd) [.loop 992 (.ret o.v) ρ' (af s g')] (Tn (mlP.mk w h5) (Tn r id)) (by apply p5 m;kernel_rfl)
end
noncomputable def asV:Stmt→PySem.Expr:=let d:=noE;stM d (fun _ _ _=>d) (fun _=>d) (fun _ _=>d) (fun _ v _=>v) (fun _ _ _ _ _=>d) (fun _ _ _ _=>d) (fun _ _ _ _=>d) (fun _=>d) d d
noncomputable def HU(e:PySem.Expr):PySem.Expr:=let d:=noE;exB d (fun _ _ _=>d) (fun _ _=>d) (fun _ _ _ _=>d) (fun _ _ _=>d) (fun _ _ _ _=>d) (fun l _ _ _=>l) (fun _ _ _ _=>d) (fun _ _=>d) e
noncomputable def hd0:List PySem.Expr→PySem.Expr
 |a::_=>a
 |_=> .Constant .none 0 ⟨0,0,0,0⟩
noncomputable def iG:=asV (aY (aG 124) 0)
noncomputable def fL:=HU (hd0 (lcI iG))
noncomputable def aJ(cs:V)(df:V)(at' hits left:LV):Rho:=[(x "run",.v rn),(x "some",.v cs),(x "default",.v df),(x "at",at'),(x "hits",hits),(x "left",left)]
noncomputable def qT(a one:LV):Rho:=[(".0",.unb),(x "at",a),(x "one",one),(x "run",.v rn)]
noncomputable def AH(a:LV):Rho:=[(".0",.unb),(x "asked",a),(x "run",.v rn)]
noncomputable def pu(g:RS):List Ask→List V
 |[]=>[]
 |a::as=>match bK g a with
  |true=> .int 1::pu g as
  |false=>pu g as
theorem pX(g:RS):∀as:List Ask,(!(pu g as).isEmpty)=as.any (bK g)
 |[]=>rfl
 |a::as=>by
  unfold pu
  rw[List.any_cons]
  cases bK g a with
  |true=>rfl
  |false=>rw[Bool.false_or];exact pX g as
section
variable{X:CR}{d n:Nat}(s:St)
theorem C0(hd:1≤d)(g:RS)(hg:lu g):∀as:List Ask,(∀q∈as,q.ok)→CompR (asgN 9 (lcT fL)) (fI (evN (Ok X d) 36) (lcN fL) (lcI fL)) (eF (evN (Ok X d) 36) (lcN fL) (lcE fL)) (AH .unb) (as.map cO) (af s g) (pu g as) (af s g)
 |[],_=> .nil _
 |a::as,h=>by
  have ih:=C0 hd g hg as fun q hq=>h q (List.mem_cons_of_mem _ hq)
  have q:=uh (X:=X) (d:=d) s g hd hg a (h a List.mem_cons_self)
  have ha:asgN 9 (lcT fL) (cO a) (AH .unb)=some (AH (.v (cO a))):=by kernel_rfl
  unfold pu
  cases e:bK g a with
  |true=>
   rw[e] at q
   exact .take (st₁:=af s g) ha ⟨[.call (.bool true) (af s g)],evG (P:=Ok X d 122 [rn,cO a] (af s g) (.bool true) (af s g)∧true=true∧af s g=af s g) ⟨q,rfl,rfl⟩ (by kernel_rfl)⟩
    ⟨[],evG (P:=V.int 1=V.int 1∧af s g=af s g) ⟨rfl,rfl⟩ (by kernel_rfl)⟩ ih
  |false=>
   rw[e] at q
   exact .skip ha ⟨[.call (.bool false) (af s g)],evG (P:=Ok X d 122 [rn,cO a] (af s g) (.bool false) (af s g)∧false=false∧af s g=af s g) ⟨q,rfl,rfl⟩ (by kernel_rfl)⟩ ih
theorem ifA(hd:1≤d)(g:RS)(hg:lu g)(at':V)(as:List Ask)(h:∀q∈as,q.ok)(vs:List V)(f:Bool):fI (evN (Ok X d) 38) (lcN iG) (lcI iG) (qT (.v at') (.v (bU as vs f))) (af s g) (as.any (bK g)) (af s g):=by
 refine⟨[.comp 983 (pu g as) (af s g),.br 983 (as.any (bK g))],evG (P:=CompR (asgN 9 (lcT fL)) (fI (evN (Ok X d) 36) (lcN fL) (lcI fL)) (eF (evN (Ok X d) 36) (lcN fL) (lcE fL)) (AH .unb) (as.map cO) (af s g) (pu g as) (af s g)∧some (!(pu g as).isEmpty)=some (as.any (bK g))∧as.any (bK g)=as.any (bK g)∧af s g=af s g) ⟨C0 s hd g hg as h,by rw[pX],rfl,rfl⟩ ?_⟩
 generalize as.any (bK g)=b
 induction b<;>kernel_rfl
noncomputable def FT(b1 b2:Bool):List V:=match b1,b2 with
 |true,true=>[.int 0,.int 1]
 |true,false=>[.int 0]
 |false,true=>[.int 1]
 |false,false=>[]
noncomputable def E0(c1 c2:V):List V:=[.tup [.int 0,c1],.tup [.int 1,c2]]
theorem G6(hd:1≤d)(g:RS)(hg:lu g)(as1 as2:List Ask)(h1:∀q∈as1,q.ok)(h2:∀q∈as2,q.ok)(v1 v2:List V)(f:Bool):
  CompR (asgN 9 (lcT iG)) (fI (evN (Ok X d) 38) (lcN iG) (lcI iG)) (eF (evN (Ok X d) 38) (lcN iG) (lcE iG)) (qT .unb .unb) (E0 (bU as1 v1 f) (bU as2 v2 false)) (af s g) (FT (as1.any (bK g)) (as2.any (bK g))) (af s g):=by
 have a1:asgN 9 (lcT iG) (.tup [.int 0,bU as1 v1 f]) (qT .unb .unb)=some (qT (.v (.int 0)) (.v (bU as1 v1 f))):=by kernel_rfl
 have a2:asgN 9 (lcT iG) (.tup [.int 1,bU as2 v2 false]) (qT .unb .unb)=some (qT (.v (.int 1)) (.v (bU as2 v2 false))):=by kernel_rfl
 have t1:=ifA (X:=X) s hd g hg (.int 0) as1 h1 v1 f
 have t2:=ifA (X:=X) s hd g hg (.int 1) as2 h2 v2 false
 have e1:eF (evN (Ok X d) 38) (lcN iG) (lcE iG) (qT (.v (.int 0)) (.v (bU as1 v1 f))) (af s g) (.int 0) (af s g):=⟨[],evG (P:=V.int 0=V.int 0∧af s g=af s g) ⟨rfl,rfl⟩ (by kernel_rfl)⟩
 have e2:eF (evN (Ok X d) 38) (lcN iG) (lcE iG) (qT (.v (.int 1)) (.v (bU as2 v2 false))) (af s g) (.int 1) (af s g):=⟨[],evG (P:=V.int 1=V.int 1∧af s g=af s g) ⟨rfl,rfl⟩ (by kernel_rfl)⟩
 revert t1 t2
 generalize as1.any (bK g)=b1
 generalize as2.any (bK g)=b2
 intro t1 t2
 induction b1<;>induction b2
 ·exact .skip a1 t1 (.skip a2 t2 (.nil _))
 ·exact .skip a1 t1 (.take a2 t2 e2 (.nil _))
 ·exact .take a1 t1 e1 (.skip a2 t2 (.nil _))
 ·exact .take a1 t1 e1 (.take a2 t2 e2 (.nil _))
noncomputable def mB{C:CR}:=iI (evN C 39) (cxG 124) (whT (aY (aG 124) 3))
noncomputable def th{C:CR}:=bP (evN C 39) (cxG 124) (whB (aY (aG 124) 3))
noncomputable def cu(as1 as2:List Ask)(y z:List V)(f:Bool):V:= .lst [bU as1 y f,bU as2 z false]
noncomputable def GV:Bool→V
 |true=> .int 1
 |false=> .none
theorem G5{C:CR}(as1 as2:List Ask)(y z:List V)(f:Bool)(df:V)(h:LV)(g g':RS)(o:Out)(c:C 121 [rn,.lst y] (af s g) o.v (af s g')):
  @th C (aJ (cu as1 as2 y z f) df (.v (.int 0)) h (.v .none)) (af s g) .next (aJ (cu as1 as2 y z f) df (.v (GV f)) h (.v o.v)) (af s g'):=by
 induction f
 ·exact⟨[.call o.v (af s g')],evG (P:=C 121 [rn,.lst y] (af s g) o.v (af s g')∧Fl.next=Fl.next∧aJ (cu as1 as2 y z false) df (.v .none) h (.v o.v)=aJ (cu as1 as2 y z false) df (.v .none) h (.v o.v)∧af s g'=af s g') ⟨c,rfl,rfl,rfl⟩ (by kernel_rfl)⟩
 ·exact⟨[.call o.v (af s g')],evG (P:=C 121 [rn,.lst y] (af s g) o.v (af s g')∧Fl.next=Fl.next∧aJ (cu as1 as2 y z true) df (.v (.int 1)) h (.v o.v)=aJ (cu as1 as2 y z true) df (.v (.int 1)) h (.v o.v)∧af s g'=af s g') ⟨c,rfl,rfl,rfl⟩ (by kernel_rfl)⟩
theorem CC{C:CR}(as1 as2:List Ask)(y z:List V)(f:Bool)(df:V)(h:LV)(g g':RS)(o:Out)(c:C 121 [rn,.lst z] (af s g) o.v (af s g')):
  @th C (aJ (cu as1 as2 y z f) df (.v (.int 1)) h (.v .none)) (af s g) .next (aJ (cu as1 as2 y z f) df (.v .none) h (.v o.v)) (af s g'):=
 ⟨[.call o.v (af s g')],evG (P:=C 121 [rn,.lst z] (af s g) o.v (af s g')∧Fl.next=Fl.next∧aJ (cu as1 as2 y z f) df (.v .none) h (.v o.v)=aJ (cu as1 as2 y z f) df (.v .none) h (.v o.v)∧af s g'=af s g') ⟨c,rfl,rfl,rfl⟩ (by kernel_rfl)⟩
theorem ux{C:CR}(cs df:V)(h:LV)(st:St)(v:V): @mB C (aJ cs df (.v .none) h (.v v)) st false st:=⟨[],evG (P:=false=false∧st=st) ⟨rfl,rfl⟩ (by kernel_rfl)⟩
theorem FK{C:CR}(cs df:V)(h:LV)(st:St)(m:Nat): @mB C (aJ cs df (.v (.int 1)) h (.v (bt m))) st false st:=⟨[],evG (P:=false=false∧st=st) ⟨rfl,rfl⟩ (by kernel_rfl)⟩
theorem G9{C:CR}(cs df:V)(h:LV)(st:St)(m:Nat): @mB C (aJ cs df (.v (.int 1)) h (.v (bM m))) st false st:=⟨[],evG (P:=false=false∧st=st) ⟨rfl,rfl⟩ (by kernel_rfl)⟩
theorem go0{C:CR}(cs df:V)(h:LV)(st:St): @mB C (aJ cs df (.v (.int 0)) h (.v .none)) st true st:=⟨[],evG (P:=true=true∧st=st) ⟨rfl,rfl⟩ (by kernel_rfl)⟩
theorem go1{C:CR}(cs df:V)(h:LV)(st:St): @mB C (aJ cs df (.v (.int 1)) h (.v .none)) st true st:=⟨[],evG (P:=true=true∧st=st) ⟨rfl,rfl⟩ (by kernel_rfl)⟩
noncomputable def lD(as1 as2:List Ask)(y:Rows)(f:Bool)(z:Rows)(df:Dfl)(g:RS):RS×Out:=match qi g as1 as2 df with
 | .no=>(g,.no)
 | .zero=>falls f (fun g=>z.run g) (y.run g)
 | .one=>z.run g
theorem AP{C:CR}(as1 as2:List Ask)(y:Rows)(f:Bool)(z:Rows)(df:V)(h:LV)(g:RS)(cy:C 121 [rn,.lst y.vs] (af s g) (y.run g).2.v (af s (y.run g).1))(cz:C 121 [rn,.lst z.vs] (af s (y.run g).1) (z.run (y.run g).1).2.v (af s (z.run (y.run g).1).1)):
  ∃at',WhileR (@mB C) (@th C) (aJ (cu as1 as2 y.vs z.vs f) df (.v (.int 0)) h (.v .none)) (af s g) .next (aJ (cu as1 as2 y.vs z.vs f) df at' h (.v (falls f (fun g=>z.run g) (y.run g)).2.v)) (af s (falls f (fun g=>z.run g) (y.run g)).1):=by
 have b:=G5 s as1 as2 y.vs z.vs f df h g (y.run g).1 (y.run g).2 cy
 revert b cz
 generalize y.run g=r
 obtain⟨g1,o⟩:=r
 intro cz b
 dsimp only at b cz
 induction f with
 |false=>
  have e:falls false (fun g=>z.run g) (g1,o)=(g1,o):=by induction o<;>rfl
  rw[e]
  exact⟨_,.step (go0 ..) b (.inl rfl) (.stop (ux ..))⟩
 |true=>
  induction o with
  |no=>
   have b2:=CC s as1 as2 y.vs z.vs true df h g1 (z.run g1).1 (z.run g1).2 cz
   exact⟨_,.step (go0 ..) b (.inl rfl) (.step (go1 ..) b2 (.inl rfl) (.stop (ux ..)))⟩
  |brk m=>exact⟨_,.step (go0 ..) b (.inl rfl) (.stop (FK ..))⟩
  |cnt m=>exact⟨_,.step (go0 ..) b (.inl rfl) (.stop (G9 ..))⟩
theorem zT{C:CR}(as1 as2:List Ask)(y:Rows)(f:Bool)(z:Rows)(df:V)(h:LV)(g:RS)(cz:C 121 [rn,.lst z.vs] (af s g) (z.run g).2.v (af s (z.run g).1)):
  ∃at',WhileR (@mB C) (@th C) (aJ (cu as1 as2 y.vs z.vs f) df (.v (.int 1)) h (.v .none)) (af s g) .next (aJ (cu as1 as2 y.vs z.vs f) df at' h (.v (z.run g).2.v)) (af s (z.run g).1):=
 ⟨_,.step (go1 ..) (CC s as1 as2 y.vs z.vs f df h g (z.run g).1 (z.run g).2 cz) (.inl rfl) (.stop (ux ..))⟩
noncomputable def dAt:Dfl→V:=Dfl.v
theorem qX(hd:2≤d)(as1 as2:List Ask)(h1:∀q∈as1,q.ok)(h2:∀q∈as2,q.ok)(y:Rows)(f:Bool)(z:Rows)(df:Dfl)(g:RS)(hg:lu g)
  (cy:Ok X (d-1) 121 [rn,.lst y.vs] (af s g) (y.run g).2.v (af s (y.run g).1)) (cz:Ok X (d-1) 121 [rn,.lst z.vs] (af s (y.run g).1) (z.run (y.run g).1).2.v (af s (z.run (y.run g).1).1)) (cz':Ok X (d-1) 121 [rn,.lst z.vs] (af s g) (z.run g).2.v (af s (z.run g).1)):
  Ok X d 124 [rn,cu as1 as2 y.vs z.vs f,df.v] (af s g) (lD as1 as2 y f z df g).2.v (af s (lD as1 as2 y f z df g).1):=by
 have c:=G6 (X:=X) (d:=d-1) s (om2 hd) g hg as1 as2 h1 h2 y.vs z.vs f
 unfold lD qi
 revert c
 generalize as1.any (bK g)=b1
 generalize as2.any (bK g)=b2
 intro c
 have zero:∀(hv:List V),(∀at':LV,WhileR (@mB (Ok X (d-1))) (@th (Ok X (d-1))) (aJ (cu as1 as2 y.vs z.vs f) df.v (.v (.int 0)) (.v (.lst hv)) (.v .none)) (af s g) .next (aJ (cu as1 as2 y.vs z.vs f) df.v at' (.v (.lst hv)) (.v (falls f (fun g=>z.run g) (y.run g)).2.v)) (af s (falls f (fun g=>z.run g) (y.run g)).1)→Ok X d 124 [rn,cu as1 as2 y.vs z.vs f,df.v] (af s g) (falls f (fun g=>z.run g) (y.run g)).2.v (af s (falls f (fun g=>z.run g) (y.run g)).1))→Ok X d 124 [rn,cu as1 as2 y.vs z.vs f,df.v] (af s g) (falls f (fun g=>z.run g) (y.run g)).2.v (af s (falls f (fun g=>z.run g) (y.run g)).1):=fun hv k=>by
  obtain⟨a,w⟩:=AP (C:=Ok X (d-1)) s as1 as2 y f z df.v (.v (.lst hv)) g cy cz
  exact k a w
 have one:∀(hv:List V),(∀at':LV,WhileR (@mB (Ok X (d-1))) (@th (Ok X (d-1))) (aJ (cu as1 as2 y.vs z.vs f) df.v (.v (.int 1)) (.v (.lst hv)) (.v .none)) (af s g) .next (aJ (cu as1 as2 y.vs z.vs f) df.v at' (.v (.lst hv)) (.v (z.run g).2.v)) (af s (z.run g).1)→Ok X d 124 [rn,cu as1 as2 y.vs z.vs f,df.v] (af s g) (z.run g).2.v (af s (z.run g).1))→Ok X d 124 [rn,cu as1 as2 y.vs z.vs f,df.v] (af s g) (z.run g).2.v (af s (z.run g).1):=fun hv k=>by
  obtain⟨a,w⟩:=zT (C:=Ok X (d-1)) s as1 as2 y f z df.v (.v (.lst hv)) g cz'
  exact k a w
 induction b1 with
 |true=>
  dsimp only
  induction b2 with
  |true=>exact zero [.int 0,.int 1] fun at' w=>Ok.by (by decide +kernel) (om1 hd) [.comp 983 [.int 0,.int 1] (af s g),.loop 986 .next (aJ (cu as1 as2 y.vs z.vs f) df.v at' (.v (.lst [.int 0,.int 1])) (.v (falls f (fun g=>z.run g) (y.run g)).2.v)) (af s (falls f (fun g=>z.run g) (y.run g)).1)] (Tn c (Tn (rfl:true=true) (Tn w id))) (by kernel_rfl)
  |false=>exact zero [.int 0] fun at' w=>Ok.by (by decide +kernel) (om1 hd) [.comp 983 [.int 0] (af s g),.loop 986 .next (aJ (cu as1 as2 y.vs z.vs f) df.v at' (.v (.lst [.int 0])) (.v (falls f (fun g=>z.run g) (y.run g)).2.v)) (af s (falls f (fun g=>z.run g) (y.run g)).1)] (Tn c (Tn (rfl:true=true) (Tn w id))) (by kernel_rfl)
 |false=>
  dsimp only
  induction b2 with
  |true=>exact one [.int 1] fun at' w=>Ok.by (by decide +kernel) (om1 hd) [.comp 983 [.int 1] (af s g),.loop 986 .next (aJ (cu as1 as2 y.vs z.vs f) df.v at' (.v (.lst [.int 1])) (.v (z.run g).2.v)) (af s (z.run g).1)] (Tn c (Tn (rfl:true=true) (Tn w id))) (by kernel_rfl)
  |false=>
   induction df with
   |no=>exact Ok.by (by decide +kernel) (om1 hd) [.comp 983 [] (af s g),.loop 986 .next (aJ (cu as1 as2 y.vs z.vs f) .none (.v .none) (.v (.lst [])) (.v .none)) (af s g)] (Tn c (Tn (rfl:true=true) (Tn (.stop (ux ..):WhileR (@mB (Ok X (d-1))) (@th (Ok X (d-1))) (aJ (cu as1 as2 y.vs z.vs f) .none (.v .none) (.v (.lst [])) (.v .none)) (af s g) .next (aJ (cu as1 as2 y.vs z.vs f) .none (.v .none) (.v (.lst [])) (.v .none)) (af s g)) id))) (by kernel_rfl)
   |zero=>exact zero [] fun at' w=>Ok.by (by decide +kernel) (om1 hd) [.comp 983 [] (af s g),.loop 986 .next (aJ (cu as1 as2 y.vs z.vs f) (.int 0) at' (.v (.lst [])) (.v (falls f (fun g=>z.run g) (y.run g)).2.v)) (af s (falls f (fun g=>z.run g) (y.run g)).1)] (Tn c (Tn (rfl:true=true) (Tn w id))) (by kernel_rfl)
   |one=>exact one [] fun at' w=>Ok.by (by decide +kernel) (om1 hd) [.comp 983 [] (af s g),.loop 986 .next (aJ (cu as1 as2 y.vs z.vs f) (.int 1) at' (.v (.lst [])) (.v (z.run g).2.v)) (af s (z.run g).1)] (Tn c (Tn (rfl:true=true) (Tn w id))) (by kernel_rfl)
end
mutual
noncomputable def Row.prn:Row→Nat
 | .print _=>1
 | .add _ _=>0
 | .ite _ y n=>y.prn+n.prn
 | .jump _ _=>0
 | .loop w _ _ most b=>fM w most*(1+b.prn)
 | .switch _ _ _ _ y _ _ z _=>y.prn+z.prn
noncomputable def Rows.prn:Rows→Nat
 | .nil=>0
 | .cons r rs=>r.prn+rs.prn
end
section
variable{X:CR}{d n:Nat}(s:St)
theorem pU(hd:3≤d)(num l most:Nat)(as1 as2:List Ask)(y:Rows)(f:Bool)(z:Rows)(df:Dfl)(g g':RS)(o:Out)
  (h:Ok X (d-1) 124 [rn,cu as1 as2 y.vs z.vs f,df.v] (af s g) o.v (af s g')):Ok X d 123 [rn,(Row.switch num l most as1 y f as2 z df).v] (af s g) (i8 num o).v (af s g'):=by
 induction o with
 |no=>exact Ok.by (by decide +kernel) (om0 hd) [.call .none (af s g')] (Tn h id) (by kernel_rfl)
 |cnt m=>exact Ok.by (by decide +kernel) (om0 hd) [.call (bM m) (af s g')] (Tn h id) (by kernel_rfl)
 |brk m=>
  by_cases e:m=num
  ·have q:eqB (af s g') (bt m) (bt num)=some true:=by rw[kf,decide_eq_true e]
   rw[show i8 num (.brk m) = .no from if_pos e]
   exact Ok.by (by decide +kernel) (om0 hd) [.call (bt m) (af s g'),.br 976 true] (Tn h (Tn q id)) (by kernel_rfl)
  ·have q:eqB (af s g') (bt m) (bt num)=some false:=by rw[kf,decide_eq_false e]
   rw[show i8 num (.brk m) = .brk m from if_neg e]
   exact Ok.by (by decide +kernel) (om0 hd) [.call (bt m) (af s g'),.br 976 false] (Tn h (Tn q id)) (by kernel_rfl)
noncomputable def bI(vs:List V)(row left:LV):Rho:=[(x "run",.v rn),(x "some",.v (.lst vs)),(x "row",row),(x "left",left)]
noncomputable def A5{C:CR}:=bP (evN C 39) (cxG 121) (iV (aY (aG 121) 0))
noncomputable def DB:Out→Fl
 | .no=> .next
 |o=> .ret o.v
theorem u4{C:CR}(vs:List V)(v:V)(left:LV)(hl:bS left)(o:Out)(st st':St)(h:C 123 [rn,v] st o.v st'):
  @A5 C (bI vs (.v v) left) st (DB o) (bI vs (.v v) (.v o.v)) st':=by
 rcases hl with rfl|⟨u,rfl⟩
 ·induction o with
  |no=>exact⟨[.call .none st'],evG (P:=C 123 [rn,v] st .none st'∧Fl.next=Fl.next∧bI vs (.v v) (.v .none)=bI vs (.v v) (.v .none)∧st'=st') ⟨h,rfl,rfl,rfl⟩ (by kernel_rfl)⟩
  |brk m=>exact⟨[.call (bt m) st',.br 960 true],evG (P:=C 123 [rn,v] st (bt m) st'∧some true=some true∧Fl.ret (bt m)=Fl.ret (bt m)∧bI vs (.v v) (.v (bt m))=bI vs (.v v) (.v (bt m))∧st'=st') ⟨h,rfl,rfl,rfl,rfl⟩ (by kernel_rfl)⟩
  |cnt m=>exact⟨[.call (bM m) st',.br 960 true],evG (P:=C 123 [rn,v] st (bM m) st'∧some true=some true∧Fl.ret (bM m)=Fl.ret (bM m)∧bI vs (.v v) (.v (bM m))=bI vs (.v v) (.v (bM m))∧st'=st') ⟨h,rfl,rfl,rfl,rfl⟩ (by kernel_rfl)⟩
 ·induction o with
  |no=>exact⟨[.call .none st'],evG (P:=C 123 [rn,v] st .none st'∧Fl.next=Fl.next∧bI vs (.v v) (.v .none)=bI vs (.v v) (.v .none)∧st'=st') ⟨h,rfl,rfl,rfl⟩ (by kernel_rfl)⟩
  |brk m=>exact⟨[.call (bt m) st',.br 960 true],evG (P:=C 123 [rn,v] st (bt m) st'∧some true=some true∧Fl.ret (bt m)=Fl.ret (bt m)∧bI vs (.v v) (.v (bt m))=bI vs (.v v) (.v (bt m))∧st'=st') ⟨h,rfl,rfl,rfl,rfl⟩ (by kernel_rfl)⟩
  |cnt m=>exact⟨[.call (bM m) st',.br 960 true],evG (P:=C 123 [rn,v] st (bM m) st'∧some true=some true∧Fl.ret (bM m)=Fl.ret (bM m)∧bI vs (.v v) (.v (bM m))=bI vs (.v v) (.v (bM m))∧st'=st') ⟨h,rfl,rfl,rfl,rfl⟩ (by kernel_rfl)⟩
def HV(C:CR)(vs0 vs:List V)(left:LV)(st st':St)(o:Out):Prop:=
 ∃fl ρ',ForR (asgN 9 (iE (aY (aG 121) 0))) (@A5 C) (cR vs0 none) vs (bI vs0 .unb left) st fl ρ' st'∧ur fl o
set_option tactic.hygienic true in
theorem A3{d:Nat}(hd:1≤d)(vs:List V)(st st':St)(o:Out){fl:Fl}{ρ':Rho}(r:ForR (asgN 9 (iE (aY (aG 121) 0))) (@A5 (Ok X (d-1))) (cR vs none) vs (bI vs .unb .unb) st fl ρ' st')(h:ur fl o):
  Ok X d 121 [rn,.lst vs] st o.v st':=by
 rcases h with ⟨rfl,rfl⟩|rfl
 ·exact Ok.by (by decide +kernel) hd [.loop 958 .next ρ' st'] (Tn r id) (by kernel_rfl)
 ·exact Ok.by (by decide +kernel) hd [.loop 958 (.ret o.v) ρ' st'] (Tn r id) (by kernel_rfl)
theorem DL(vs:List V)(v:V)(row left:LV)(h1:bS row)(h2:bS left):asgN 9 (iE (aY (aG 121) 0)) v (bI vs row left)=some (bI vs (.v v) left):=by
 rcases h1 with rfl|⟨u,rfl⟩<;>rcases h2 with rfl|⟨u',rfl⟩<;>kernel_rfl
def Ge(many:Nat)(r:Rows):Prop:=∀(o:List (Nat×Bool)) (a b a' b' n d:Nat) (g:RS) (vs0:List V) (row left:LV),r.wf many o a b a' b'→RB g (r.prn+n)→2+3*r.dep≤d→bS row→bS left→
  (∃fl ρ',ForR (asgN 9 (iE (aY (aG 121) 0))) (@A5 (Ok X d)) (cR vs0 none) r.vs (bI vs0 row left) (af s g) fl ρ' (af s (r.run g).1)∧ur fl (r.run g).2)∧RB (r.run g).1 n
theorem dJ{many:Nat}{r:Rows}(H:Ge (X:=X) s many r):∀(o:List (Nat×Bool)) (a b a' b' n d:Nat) (g:RS),r.wf many o a b a' b'→RB g (r.prn+n)→3+3*r.dep≤d→Ok X d 121 [rn,.lst r.vs] (af s g) (r.run g).2.v (af s (r.run g).1)∧RB (r.run g).1 n:=fun o a b a' b' n d g h hg hd=>by
  obtain⟨⟨fl,ρ',w,e⟩,hb⟩:=H o a b a' b' n (d-1) g r.vs .unb .unb h hg (lin [_,_,_] (.c 1 (.a (.n 3) (.m 3 (.v 0))) (.v 2) (.c 1 (.v 2) (.a (.v 1) (.n 1)) .e)) (.a (.n 2) (.m 3 (.v 0))) (.v 1) rfl hd (lsa _ _)) (.inl rfl) (.inl rfl)
  exact⟨A3 (d:=d) (lin [_,_] (.c 1 (.a (.n 3) (.m 3 (.v 1))) (.v 0) .e) (.n 1) (.v 0) rfl hd) r.vs _ _ _ w e,hb⟩
mutual
theorem Row.done_ok(many:Nat):∀(r:Row) (o:List (Nat×Bool)) (a b a' b' n d:Nat) (g:RS),r.wf many o a b a' b'→RB g (r.prn+n)→2+3*r.dep≤d→Ok X d 123 [rn,r.v] (af s g) (r.run g).2.v (af s (r.run g).1)∧RB (r.run g).1 n
 | .print p,o,a,b,a',b',n,d,g,h,hg,hd=>by
  rw[Nat.add_comm] at hg
  exact⟨tE s g (Bc hd) hg h.1,hg.push _⟩
 | .add p k,o,a,b,a',b',n,d,g,h,hg,hd=>by
  have hg':RB g n:=hg.mono qe
  exact⟨xT s g (Bc hd) hg' h.1 k,hg'.add h.1 k⟩
 | .jump true m,o,a,b,a',b',n,d,g,h,hg,hd=>⟨nN (af s g) (Bc hd) true m,hg.mono qe⟩
 | .jump false m,o,a,b,a',b',n,d,g,h,hg,hd=>⟨nN (af s g) (Bc hd) false m,hg.mono qe⟩
 | .ite q y z,o,a,b,a',b',n,d,g,h,hg,hd=>by
  obtain⟨hq,a1,b1,hy,hz⟩:=h
  unfold Row.run
  have iy:=dJ s (Rows.gone_from many y) o a b a1 b1 n (d-1) g hy (hg.mono (lin [_,_,_] .e (.a (.v 0) (.v 1)) (.a (.a (.v 0) (.v 2)) (.v 1)) rfl)) (lin [_,_,_,_] (.c 1 (.a (.n 2) (.m 3 (.a (.v 2) (.n 1)))) (.v 3) (.c 1 (.v 3) (.a (.v 1) (.n 1)) (.c 3 (.v 0) (.v 2) .e))) (.a (.n 3) (.m 3 (.v 0))) (.v 1) rfl hd (lsa _ _) (Nat.le_max_left _ _))
  have iz:=dJ s (Rows.gone_from many z) o a1 b1 a' b' n (d-1) g hz (hg.mono Df) (lin [_,_,_,_] (.c 1 (.a (.n 2) (.m 3 (.a (.v 2) (.n 1)))) (.v 3) (.c 1 (.v 3) (.a (.v 1) (.n 1)) (.c 3 (.v 0) (.v 2) .e))) (.a (.n 3) (.m 3 (.v 0))) (.v 1) rfl hd (lsa _ _) (Nat.le_max_right _ _))
  have k:=wX (X:=X) (d:=d) s g (lin [_,_] (.c 1 (.a (.n 2) (.m 3 (.a (.v 1) (.n 1)))) (.v 0) .e) (.n 2) (.v 0) rfl hd) hg.cells q hq y z (v:=(match bK g q with|true=>y.run g|false=>z.run g).2.v) (st':=af s (match bK g q with|true=>y.run g|false=>z.run g).1)
  cases e:bK g q with
  |true=>rw[e] at k;exact⟨k iy.1,iy.2⟩
  |false=>rw[e] at k;exact⟨k iz.1,iz.2⟩
 | .loop w num l most y,o,a,b,a',b',n,d,g,h,hg,hd=>by
  obtain⟨h1,h2,h3,h4,hy⟩:=h
  have k:=uX (X:=X) (d:=d-1) (n:=n) s (lin [_,_,_] (.c 1 (.a (.n 2) (.m 3 (.a (.v 1) (.n 1)))) (.v 2) (.c 1 (.v 2) (.a (.v 0) (.n 1)) .e)) (.n 2) (.v 0) rfl hd (lsa _ _)) w num l most h4 y y.prn (fun g' n' hg'=>dJ s (Rows.gone_from many y) _ _ _ _ _ n' (d-1-1) g' hy hg' (lin [_,_,_,_] (.c 1 (.a (.n 2) (.m 3 (.a (.v 0) (.n 1)))) (.v 2) (.c 1 (.v 3) (.a (.v 1) (.n 1)) (.c 1 (.v 2) (.a (.v 3) (.n 1)) .e))) (.a (.n 3) (.m 3 (.v 0))) (.v 1) rfl hd (lsa _ _) (lsa _ _))) g hg
  exact⟨vC (af s g) (lin [_,_] (.c 1 (.a (.n 2) (.m 3 (.a (.v 1) (.n 1)))) (.v 0) .e) (.n 1) (.v 0) rfl hd) w num l most y k.1,k.2⟩
 | .switch num l most as1 y f as2 z df,o,a,b,a',b',n,d,g,h,hg,hd=>by
  obtain⟨h1,h2,h3,h4,h5,h6,a1,b1,hy,hz⟩:=h
  unfold Row.prn at hg
  have iy:=dJ s (Rows.gone_from many y) _ _ _ _ _ (z.prn+n) (d-1-1) g hy (by rw[Nat.add_assoc] at hg;exact hg) (lin [_,_,_,_,_] (.c 1 (.a (.n 2) (.m 3 (.a (.v 2) (.n 1)))) (.v 3) (.c 1 (.v 4) (.a (.v 1) (.n 1)) (.c 3 (.v 0) (.v 2) (.c 1 (.v 3) (.a (.v 4) (.n 1)) .e)))) (.a (.n 3) (.m 3 (.v 0))) (.v 1) rfl hd (lsa _ _) (Nat.le_max_left _ _) (lsa _ _))
  have iz:=dJ s (Rows.gone_from many z) _ _ _ _ _ n (d-1-1) (y.run g).1 hz iy.2 (Cq hd)
  have iz':=dJ s (Rows.gone_from many z) _ _ _ _ _ n (d-1-1) g hz (hg.mono Df) (Cq hd)
  have k:=qX (X:=X) (d:=d-1) s (lin [_,_,_] (.c 1 (.a (.n 2) (.m 3 (.a (.v 1) (.n 1)))) (.v 2) (.c 1 (.v 2) (.a (.v 0) (.n 1)) .e)) (.n 2) (.v 0) rfl hd (lsa _ _)) as1 as2 h3 h4 y f z df g hg.cells iy.1 iz.1 iz'.1
  refine⟨pU (X:=X) s (lin [_,_] (.c 1 (.a (.n 2) (.m 3 (.a (.v 1) (.n 1)))) (.v 0) .e) (.n 3) (.v 0) rfl hd) num l most as1 as2 y f z df g _ _ k,?_⟩
  show RB (lD as1 as2 y f z df g).1 n
  unfold lD
  cases qi g as1 as2 df with
  |no=>exact hg.mono (lin [_,_,_] .e (.v 0) (.a (.a (.v 1) (.v 2)) (.v 0)) rfl)
  |one=>exact iz'.2
  |zero=>
   dsimp only
   have e:=iy.2.mono (show n≤z.prn+n by exact qe)
   have e2:=iz.2
   revert e e2
   generalize y.run g=r
   obtain⟨g1,o'⟩:=r
   intro e e2
   cases o'<;>induction f<;>first|exact e|exact e2
termination_by structural r=>r
theorem Rows.gone_from(many:Nat):∀(r:Rows),Ge (X:=X) s many r
 | .nil,o,a,b,a',b',n,d,g,vs0,row,left,h,hg,hd,h1,h2=>⟨⟨.next,_,.nil _ _ trivial,.inl ⟨rfl,rfl⟩⟩,hg.mono qe⟩
 | .cons r rs,o,a,b,a',b',n,d,g,vs0,row,left,h,hg,hd,h1,h2=>by
  obtain⟨a1,b1,hr,hrs⟩:=h
  unfold Rows.prn at hg
  rw[Nat.add_assoc] at hg
  obtain⟨k,kb⟩:=Row.done_ok many r o a b a1 b1 (rs.prn+n) d g hr hg (lin [_,_,_] (.c 1 (.a (.n 2) (.m 3 (.v 2))) (.v 1) (.c 3 (.v 0) (.v 2) .e)) (.a (.n 2) (.m 3 (.v 0))) (.v 1) rfl hd (Nat.le_max_left _ _))
  have bd:=u4 (C:=Ok X d) vs0 r.v left h2 (r.run g).2 (af s g) (af s (r.run g).1) k
  have as:=DL vs0 r.v row left h1 h2
  unfold Rows.run Rows.vs
  revert bd kb
  generalize r.run g=z
  obtain⟨g1,o1⟩:=z
  intro kb bd
  induction o1 with
  |no=>
   obtain⟨⟨fl,ρ',w,e⟩,hb⟩:=Rows.gone_from many rs o a1 b1 a' b' n d g1 vs0 (.v r.v) (.v .none) hrs kb (lin [_,_,_] (.c 1 (.a (.n 2) (.m 3 (.v 2))) (.v 1) (.c 3 (.v 0) (.v 2) .e)) (.a (.n 2) (.m 3 (.v 0))) (.v 1) rfl hd (Nat.le_max_right _ _)) (.inr ⟨_,rfl⟩) (.inr ⟨_,rfl⟩)
   exact⟨⟨fl,ρ',.step trivial as bd (.inl rfl) w,e⟩,hb⟩
  |brk m=>exact⟨⟨_,_,.ret trivial as bd,.inr rfl⟩,kb.mono qe⟩
  |cnt m=>exact⟨⟨_,_,.ret trivial as bd,.inr rfl⟩,kb.mono qe⟩
termination_by structural r=>r
end
theorem Rows.gone_ok(many:Nat)(r:Rows):∀(o:List (Nat×Bool)) (a b a' b' n d:Nat) (g:RS),r.wf many o a b a' b'→RB g (r.prn+n)→3+3*r.dep≤d→Ok X d 121 [rn,.lst r.vs] (af s g) (r.run g).2.v (af s (r.run g).1)∧RB (r.run g).1 n:=dJ s (Rows.gone_from s many r)
end
noncomputable abbrev Bl:=List (List V×V)
def Le(l l':Bl):Prop:=∀(b:Nat) (p:List V×V),l[b]? = some p→∃q,l'[b]? = some q∧(p.2 ≠ .none→q=p)∧∃ys,q.1=p.1++ys
theorem Le.refl(l:Bl):Le l l:=fun _ p h=>⟨p,h,fun _=>rfl,[],(List.append_nil _).symm⟩
theorem Le.trans{l l' l'':Bl}(h:Le l l')(k:Le l' l''):Le l l'':=fun b p e=>by
 obtain⟨q,e',hn,ys,hy⟩:=h b p e
 obtain⟨r,e'',hn',zs,hz⟩:=k b q e'
 exact⟨r,e'',fun n=>by have:=hn n;subst this;exact hn' n,ys++zs,by rw[hz,hy,List.append_assoc]⟩
theorem ig{l:Bl}{i b:Nat}{f:List V×V→List V×V}(h:i≠b):(l.modify i f)[b]? = l[b]? :=by simp[h]
theorem s7(l:Bl)(i:Nat)(f:List V×V→List V×V):(l.modify i f)[i]? = l[i]?.map f:=by simp
theorem Le.modify{l:Bl}{i:Nat}{f:List V×V→List V×V}(h:∀p,l[i]? = some p→p.2 = .none∧∃ys,(f p).1=p.1++ys):Le l (l.modify i f):=fun b p e=>by
 by_cases q:i=b
 ·subst q
  obtain⟨h1,h2⟩:=h p e
  exact⟨f p,by rw[s7,e];rfl,fun n=>absurd h1 n,h2⟩
 ·exact⟨p,by rw[ig q,e],fun _=>rfl,[],(List.append_nil _).symm⟩
theorem Le.snoc(l:Bl)(p:List V×V):Le l (l++[p]):=fun b q e=>
 ⟨q,by rw[List.getElem?_append_left (List.getElem?_eq_some_iff.mp e).1];exact e,fun _=>rfl,[],(List.append_nil _).symm⟩
noncomputable def cur(c:Cst):List V:=match c.blks[c.here]? with
 |some p=>p.1
 |none=>[]
def Op(c:Cst):Prop:=c.blks[c.here]? = some (cur c,.none)
theorem Op.of{c:Cst}{xs:List V}(h:c.blks[c.here]? = some (xs,.none)):Op c∧cur c=xs:=by
 have e:cur c=xs:=by unfold cur;rw[h]
 exact⟨by unfold Op;rw[e];exact h,e⟩
structure Em(c:Cst)(b:Nat):Prop where
 o:c.blks[b]? = some ([],.none)
 ne:b≠c.here
theorem Em.lt{c:Cst}{b:Nat}(h:Em c b):b<c.blks.length:=(List.getElem?_eq_some_iff.mp h.o).1
theorem Op.lt{c:Cst}(h:Op c):c.here<c.blks.length:=(List.getElem?_eq_some_iff.mp h).1
theorem Op.put{c:Cst}(h:Op c)(i:V):Op (put c i)∧cur (put c i)=cur c++[i]:=
 Op.of (by show(c.blks.modify c.here (ph i))[c.here]? = _;rw[s7,h];rfl)
theorem Op.newBlk{c:Cst}(h:Op c):Op (newBlk c)∧cur (newBlk c)=cur c:=
 Op.of (by show(c.blks++_)[c.here]? = _;rw[List.getElem?_append_left h.lt];exact h)
theorem kX(c:Cst):(newBlk c).blks.length=c.blks.length+1:=List.length_append ..
theorem Em.new{c:Cst}(h:Op c):Em (newBlk c) c.blks.length:=⟨by show(c.blks++_)[c.blks.length]? = _;simp,fun q=>Nat.lt_irrefl _ (q▸h.lt:c.blks.length<c.blks.length)⟩
theorem Em.newBlk{c:Cst}{b:Nat}(h:Em c b):Em (newBlk c) b:=⟨by show(c.blks++_)[b]? = _;rw[List.getElem?_append_left h.lt];exact h.o,h.ne⟩
theorem Em.put{c:Cst}{b:Nat}(h:Em c b)(i:V):Em (put c i) b:=⟨by show(c.blks.modify c.here _)[b]? = _;rw[ig h.ne.symm];exact h.o,h.ne⟩
theorem Em.fresh{c:Cst}{b:Nat}(h:Em c b)(t w:V)(r:List V):Em (fresh c t w r) b:=Em.put (c:=newReg c t) ⟨h.o,h.ne⟩ _
theorem Em.begin{c:Cst}{b:Nat}(h:Em c b)(l:Nat)(v:V):Em (beginL c l v) b:=Em.put (c:=take c l) ⟨h.o,h.ne⟩ _
theorem Em.upd{c:Cst}{b:Nat}(h:Em c b)(p:Nat)(v:Int):Em (fB c p v) b:=(h.fresh ..).put _
noncomputable def mv2(c:Cst)(t:V)(b:Nat):Cst:=setHere (close c t) b
theorem Em.move{c:Cst}{b b':Nat}(h:Em c b)(n:b≠b')(t:V):Em (mv2 c t b') b:=⟨by show(c.blks.modify c.here _)[b]? = _;rw[ig h.ne.symm];exact h.o,n⟩
theorem Em.at{c:Cst}{b:Nat}(h:Em c b)(t:V):Op (mv2 c t b)∧cur (mv2 c t b)=[]:=Op.of (by show(c.blks.modify c.here _)[b]? = _;rw[ig h.ne.symm];exact h.o)
structure Gr(c c':Cst):Prop where
 keep:∀b,b<c.blks.length→b≠c.here→c'.blks[b]? = c.blks[b]? ∧b≠c'.here
 le:Le c.blks c'.blks
 opn:Op c'
 len:c.blks.length≤c'.blks.length
 regs:c.regs.length≤c'.regs.length
theorem Gr.refl{c:Cst}(o:Op c):Gr c c:=⟨fun _ _ n=>⟨rfl,n⟩,Le.refl _,o,Nat.le_refl _,Nat.le_refl _⟩
theorem Gr.trans{c c' c'':Cst}(g:Gr c c')(k:Gr c' c''):Gr c c'':=
 ⟨fun b h n=>by
  obtain⟨h1,h2⟩:=g.keep b h n
  obtain⟨h3,h4⟩:=k.keep b (Nat.lt_of_lt_of_le h g.len) h2
  exact⟨h3.trans h1,h4⟩,g.le.trans k.le,k.opn,ltr g.len k.len,ltr g.regs k.regs⟩
theorem Gr.em{c c':Cst}(g:Gr c c'){b:Nat}(h:Em c b):Em c' b:=by
 obtain⟨h1,h2⟩:=g.keep b h.lt h.ne
 exact⟨h1.trans h.o,h2⟩
theorem kU{c:Cst}(o:Op c)(i:V):Le c.blks (put c i).blks:=Le.modify fun p e=>by
 have:p=(cur c,.none):=sji (e.symm.trans o)
 subst this;exact⟨rfl,[i],rfl⟩
theorem aw{c:Cst}(o:Op c)(t:V):Le c.blks (close c t).blks:=Le.modify fun p e=>by
 have:p=(cur c,.none):=sji (e.symm.trans o)
 subst this;exact⟨rfl,[],(List.append_nil _).symm⟩
section
variable{c0 c:Cst}
theorem Gr.put(g:Gr c0 c)(i:V):Gr c0 (put c i):=
 ⟨fun b h n=>by
  obtain⟨h1,h2⟩:=g.keep b h n
  exact⟨by show(c.blks.modify c.here _)[b]? = _;rw[ig h2.symm];exact h1,h2⟩,g.le.trans (kU g.opn i),(g.opn.put i).1,by rw[ak];exact g.len,g.regs⟩
theorem Gr.same{c':Cst}(g:Gr c0 c)(e:c'.blks=c.blks)(h:c'.here=c.here)(r:c.regs.length≤c'.regs.length):Gr c0 c':=
 ⟨fun b p n=>by rw[e,h];exact g.keep b p n,e.symm▸g.le,(Op.of (by rw[e,h];exact g.opn)).1,e.symm▸g.len,ltr g.regs r⟩
theorem Gr.newBlk(g:Gr c0 c):Gr c0 (newBlk c):=
 ⟨fun b h n=>by
  obtain⟨h1,h2⟩:=g.keep b h n
  exact⟨by show(c.blks++_)[b]? = _;rw[List.getElem?_append_left (Nat.lt_of_lt_of_le h g.len)];exact h1,h2⟩,g.le.trans (Le.snoc _ _),g.opn.newBlk.1,by rw[kX];exact Nat.le_succ_of_le g.len,g.regs⟩
theorem Gr.fresh(g:Gr c0 c)(t w:V)(r:List V):Gr c0 (fresh c t w r):=Gr.put (c:=newReg c t) (g.same rfl rfl (by simp[newReg])) _
theorem Gr.begin(g:Gr c0 c)(l:Nat)(v:V):Gr c0 (beginL c l v):=Gr.put (c:=take c l) (g.same rfl rfl (by simp[take,setHeld,newReg])) _
theorem Gr.upd(g:Gr c0 c)(p:Nat)(v:Int):Gr c0 (fB c p v):=(g.fresh ..).put _
theorem Gr.move(g:Gr c0 c)(t:V){b:Nat}(e:Em c b)(l:c0.blks.length≤b):Gr c0 (mv2 c t b):=
 ⟨fun b' h n=>by
  obtain⟨h1,h2⟩:=g.keep b' h n
  exact⟨by show(c.blks.modify c.here _)[b']? = _;rw[ig h2.symm];exact h1,Nat.ne_of_lt (Nat.lt_of_lt_of_le h l)⟩,g.le.trans (aw g.opn t),(e.at t).1,by show _≤(close c t).blks.length;rw[ae];exact g.len,g.regs⟩
theorem Gr.endB(g:Gr c0 c)(t:V):Gr c0 (endB c t):=
 ⟨fun b h n=>by
  obtain⟨h1,h2⟩:=g.keep b h n
  refine⟨?_,Nat.ne_of_lt (Nat.lt_of_lt_of_le h g.len)⟩
  show(c.blks.modify c.here _++_)[b]? = _
  rw[List.getElem?_append_left (by rw[List.length_modify];exact Nat.lt_of_lt_of_le h g.len),ig h2.symm];exact h1,(g.le.trans (aw g.opn t)).trans (Le.snoc _ _),
  (Op.of (xs:=[]) (by show(c.blks.modify c.here _++_)[c.blks.length]? = _;rw[List.getElem?_append_right (by simp)];simp)).1,by show _≤(Mine.newBlk (close c t)).blks.length;rw[kX,ae];exact Nat.le_succ_of_le g.len,g.regs⟩
end
structure HK(c:Cst):Prop where
 g:Gr c (ax c)
 e0:Em (ax c) c.blks.length
 e1:Em (ax c) (b1 c)
 e2:Em (ax c) (b2 c)
 e3:Em (ax c) (b3 c)
theorem uG{c:Cst}(o:Op c):HK c:=
 have o1:=o.newBlk.1
 have o2:=o1.newBlk.1
 have o3:=o2.newBlk.1
 ⟨(Gr.refl o).newBlk.newBlk.newBlk.newBlk,(Em.new o).newBlk.newBlk.newBlk,(Em.new o1).newBlk.newBlk,(Em.new o2).newBlk,Em.new o3⟩
theorem qq{c:Cst}(o:Op c):Gr c (newBlk (newBlk (newBlk c)))∧Em (newBlk (newBlk (newBlk c))) c.blks.length∧Em (newBlk (newBlk (newBlk c))) (b1 c)∧Em (newBlk (newBlk (newBlk c))) (b2 c):=
 have o1:=o.newBlk.1
 have o2:=o1.newBlk.1
 ⟨(Gr.refl o).newBlk.newBlk.newBlk,(Em.new o).newBlk.newBlk,(Em.new o1).newBlk,Em.new o2⟩
structure HdI(c c':Cst):Prop where
 g:Gr c c'
 cur:cur c'=[]
 e1:Em c' (b1 c)
 e2:Em c' (b2 c)
theorem jx{c:Cst}(o:Op c)(op:String)(p:Nat)(k:Int):HdI c (ifHead c op p k):=by
 obtain⟨g,e0,e1,e2⟩:=qq o
 obtain⟨l1,l2,_,_⟩:=aq c
 have e0':=e0.fresh bg (S "binary") [S op,reg (rg c p),cOp ac (.int k),ac]
 refine⟨(g.fresh _ _ _).move _ e0' (Nat.le_refl _),(e0'.at _).2,(e1.fresh _ _ _).move (DC l1) _,(e2.fresh _ _ _).move (Ex l2) _⟩
structure HdL(c c':Cst):Prop where
 g:Gr c c'
 cur:cur c'=[]
 e1:Em c' (b1 c)
 e2:Em c' (b2 c)
 e3:Em c' (b3 c)
theorem eX{c:Cst}(o:Op c)(num:Nat):HdL c (forHead c num):=by
 have f:=uG o
 obtain⟨l1,l2,l3,_⟩:=aq c
 have n {b:Nat} (h:Em (ax c) b):Em (setLoop (ax c) (Int.ofNat num) (dQ c)) b:=⟨h.o,h.ne⟩
 exact⟨Gr.move (c:=setLoop (ax c) (Int.ofNat num) (dQ c)) (f.g.same rfl rfl (Nat.le_refl _)) _ (n f.e0) (Nat.le_refl _),((n f.e0).at _).2,(n f.e1).move (DC l1) _,(n f.e2).move (Ex l2) _,(n f.e3).move (Nat.ne_of_gt (lin [_,_] (.c 1 (.a (.v 0) (.n 3)) (.v 1) .e) (.a (.v 0) (.n 1)) (.v 1) rfl (leq l3.symm))) _⟩
structure HdB(c c':Cst):Prop where
 g:Gr c c'
 e2:Em c' (b2 c)
 e3:Em c' (b3 c)
theorem HdL.test{c c':Cst}(h:HdL c c')(w:V)(r:List V)(t:V):HdB c (mv2 (fresh c' bg w r) t (b1 c))∧Mine.cur (mv2 (fresh c' bg w r) t (b1 c))=[]:=by
 obtain⟨l1,l2,l3,_⟩:=aq c
 exact⟨⟨(h.g.fresh _ _ _).move _ (h.e1.fresh _ _ _) (ET l1),(h.e2.fresh _ _ _).move (BY l1 l2) _,(h.e3.fresh _ _ _).move (Nat.ne_of_gt (lin [_,_,_] (.c 1 (.v 0) (.a (.v 2) (.n 1)) (.c 1 (.a (.v 2) (.n 3)) (.v 1) .e)) (.a (.v 0) (.n 1)) (.v 1) rfl (leq l1) (leq l3.symm))) _⟩,((h.e1.fresh _ _ _).at _).2⟩
theorem HdB.put{c c':Cst}(h:HdB c c')(i:V):HdB c (put c' i):=⟨h.g.put _,h.e2.put _,h.e3.put _⟩
theorem HdB.fresh{c c':Cst}(h:HdB c c')(t w:V)(r:List V):HdB c (fresh c' t w r):=⟨h.g.fresh ..,h.e2.fresh ..,h.e3.fresh ..⟩
theorem HdB.begin{c c':Cst}(h:HdB c c')(l:Nat)(v:V):HdB c (beginL c' l v):=⟨h.g.begin ..,h.e2.begin ..,h.e3.begin ..⟩
theorem HdB.trans{c c' c'':Cst}(h:HdB c c')(g:Gr c' c''):HdB c c'':=⟨h.g.trans g,g.em h.e2,g.em h.e3⟩
theorem uS{c:Cst}(o:Op c)(num l most:Nat):HdB (beginL c l (cOp ac (.int 0))) (for0 c num l most):=
 ((eX ((Gr.refl o).begin l (cOp ac (.int 0))).opn num).test _ _ _).1.put _
theorem iY{c:Cst}(o:Op c)(num pl:Nat)(many:V):HdB c (rngIn c num pl many)∧cur (rngIn c num pl many)=[]:=(eX o num).test _ _ _
theorem lN{c:Cst}(o:Op c)(num l most:Nat):HdB (aa c) (ring0 c num l most):=
 ((iY ((Gr.refl o).fresh ac (S "move") [cOp ac (.int 0)]).opn num _ _).1.begin _ _).put _
theorem oK{c:Cst}(o:Op c)(num l:Nat):HdB (aa (am c)) (cg c num l):=
 ((((iY (((Gr.refl o).fresh ac (S "size") [S "len",cOp vThree cH,vThree]).fresh ac (S "move") [cOp ac (.int 0)]).opn num _ _).1.begin _ _).fresh _ _ _).begin _ _).put _
theorem me{c:Cst}(o:Op c)(goal:Nat)(a:Ask):Gr c (condC c goal a)∧cur (condC c goal a)=[]:=
 have e:=(Em.new o).fresh bg (S "binary") [S a.op,reg (rg c a.p),cOp ac (.int a.k),ac]
 ⟨((Gr.refl o).newBlk.fresh _ _ _).move _ e (Nat.le_refl _),(e.at _).2⟩
theorem dI{goal:Nat}:∀(as:List Ask) {c:Cst},Op c→Gr c (condsC c goal as)
 |[],_,o=>Gr.refl o
 |a::as,_,o=>(me o goal a).1.trans (dI as (me o goal a).1.opn)
theorem jl{c:Cst}(o:Op c)(num:Nat):Gr c (swHead c num)∧Em (swHead c num) c.blks.length∧Em (swHead c num) (b1 c)∧Em (swHead c num) (b2 c):=by
 obtain⟨g,e0,e1,e2⟩:=qq o
 exact⟨g.same rfl rfl (Nat.le_refl _),⟨e0.o,e0.ne⟩,⟨e1.o,e1.ne⟩,⟨e2.o,e2.ne⟩⟩
theorem sE{c:Cst}(o:Op c)(num:Nat)(as1 as2:List Ask):Gr (swHead c num) (a9 c num as1 as2):=
 have g:=dI (goal:=c.blks.length) as1 (jl o num).1.opn
 g.trans (dI as2 g.opn)
theorem pv{c:Cst}(o:Op c)(num:Nat)(as1 as2:List Ask)(df:Dfl):HdI c (swIn c num as1 as2 df):=by
 obtain⟨g,e0,e1,e2⟩:=jl o num
 have k:=sE o num as1 as2
 obtain⟨l1,l2,_,_⟩:=aq c
 exact⟨(g.trans k).move _ (k.em e0) (Nat.le_refl _),((k.em e0).at _).2,(k.em e1).move (DC l1) _,(k.em e2).move (Ex l2) _⟩
theorem HdI.mid{c c1 c2:Cst}(h:HdI c c1)(g:Gr c1 c2)(t:V):Gr c (mv2 c2 t (b1 c))∧Mine.cur (mv2 c2 t (b1 c))=[]∧Em (mv2 c2 t (b1 c)) (b2 c):=by
 obtain⟨l1,l2,_,_⟩:=aq c
 exact⟨(h.g.trans g).move _ (g.em h.e1) (ET l1),((g.em h.e1).at _).2,(g.em h.e2).move (BY l1 l2) _⟩
theorem HdB.fin{c c1 c2:Cst}(h:HdB c c1)(g:Gr c1 c2)(i:V)(t:V):Gr c (mv2 c2 t (b2 c))∧Mine.cur (mv2 c2 t (b2 c))=[]∧Em (mv2 c2 t (b2 c)) (b3 c):=by
 obtain⟨l1,l2,l3,_⟩:=aq c
 exact⟨(h.g.trans g).move _ (g.em h.e2) (lin [_,_] (.c 1 (.a (.v 0) (.n 2)) (.v 1) .e) (.v 0) (.v 1) rfl (leq l2.symm)),((g.em h.e2).at _).2,(g.em h.e3).move (Nat.ne_of_gt (lin [_,_,_] (.c 1 (.v 0) (.a (.v 2) (.n 2)) (.c 1 (.a (.v 2) (.n 3)) (.v 1) .e)) (.a (.v 0) (.n 1)) (.v 1) rfl (leq l2) (leq l3.symm))) _⟩
mutual
theorem Row.gr:∀(r:Row) {c:Cst},Op c→Gr c (r.c c)
 | .print p,c,o=>(Gr.refl o).put _
 | .add p k,c,o=>(Gr.refl o).upd _ _
 | .jump true m,c,o=>(Gr.refl o).endB _
 | .jump false m,c,o=>(Gr.refl o).endB _
 | .ite a y z,c,o=>by
  have h:=jx o a.op a.p a.k
  obtain⟨m1,_,m3⟩:=h.mid (y.gr h.g.opn) (jmp (b2 c))
  have g2:=z.gr m1.opn
  exact(m1.trans g2).move _ (g2.em m3) (by have:=aq c;exact Dj this)
 | .loop .for_ num l most b,c,o=>by
  have h:=uS o num l most
  obtain⟨m1,_,m3⟩:=h.fin (b.gr h.g.opn) .none (jmp (b2 (beginL c l (cOp ac (.int 0)))))
  exact((Gr.refl o).begin l (cOp ac (.int 0))).trans ((m1.upd l 1).move _ (m3.upd l 1) (by have:=aq (beginL c l (cOp ac (.int 0)));exact EX this))
 | .loop .ring num l most b,c,o=>by
  have h:=lN o num l most
  obtain⟨m1,_,m3⟩:=h.fin (b.gr h.g.opn) .none (jmp (b2 (aa c)))
  exact((Gr.refl o).fresh _ _ _).trans ((m1.put _).move _ (m3.put _) (by have:=aq (aa c);exact EX this))
 | .loop .row num l most b,c,o=>by
  have h:=oK o num l
  obtain⟨m1,_,m3⟩:=h.fin (b.gr h.g.opn) .none (jmp (b2 (aa (am c))))
  exact(((Gr.refl o).fresh _ _ _).fresh _ _ _).trans ((m1.put _).move _ (m3.put _) (by have:=aq (aa (am c));exact EX this))
 | .switch num l most as1 y f as2 z df,c,o=>by
  have h:=pv o num as1 as2 df
  obtain⟨m1,_,m3⟩:=h.mid (y.gr h.g.opn) (jmp (match f with|true=>b1 c|false=>b2 c))
  have g2:=z.gr m1.opn
  exact(m1.trans g2).move _ (g2.em m3) (by have:=aq c;exact Dj this)
theorem Rows.gr:∀(r:Rows) {c:Cst},Op c→Gr c (r.c c)
 | .nil,c,o=>Gr.refl o
 | .cons r rs,c,o=>(r.gr o).trans (rs.gr (r.gr o).opn)
end
inductive Runs(F:Bl):Nat→List V→MS→MS→Prop
 |ins {b:Nat} {xs ys:List V} {i t:V} {m m1 mf:MS}:F[b]? = some (xs++i::ys,t)→Step i m m1→Runs F b (xs++[i]) m1 mf→Runs F b xs m mf
 |jmp {b a:Nat} {xs:List V} {m mf:MS}:F[b]? = some (xs,Mine.jmp a)→Runs F a [] (tick m) mf→Runs F b xs m mf
 |br {b k a a':Nat} {c:Bool} {xs:List V} {m mf:MS}:F[b]? = some (xs,brT k a a')→ag (Int.ofNat k) m.cs=some (.bool c)→Runs F (js c a a') [] (tick m) mf→Runs F b xs m mf
 |ret {b:Nat} {xs:List V} {m:MS}:F[b]? = some (xs,cM)→Runs F b xs m (tick m)
def GoB(F:Bl)(b0:Nat)(m:MS)(b:Nat)(xs:List V)(m':MS):Prop:=∀mf,Runs F b xs m' mf→Runs F b0 [] m mf
def Go(F:Bl)(c:Cst)(m:MS)(b:Nat)(xs:List V)(m':MS):Prop:=∀mf,Runs F b xs m' mf→Runs F c.here (cur c) m mf
def GoC(F:Bl)(c:Cst)(m:MS)(c':Cst)(m':MS):Prop:=Go F c m c'.here (cur c') m'
section
variable{F:Bl}{c:Cst}{m m':MS}
theorem GoC.go{c':Cst}{m'':MS}{b:Nat}{xs:List V}(h:GoC F c m c' m')(k:Go F c' m' b xs m''):Go F c m b xs m'':=fun mf r=>h mf (k mf r)
theorem Go.to{b:Nat}{xs:List V}{c':Cst}(h:Go F c m b xs m')(e:c'.here=b)(e':cur c'=xs):GoC F c m c' m':=by subst e;subst e';exact h
theorem bA(o:Op c){i:V}(l:Le (put c i).blks F)(s:Step i m m'):GoC F c m (put c i) m':=fun mf r=>by
 obtain⟨o',e⟩:=o.put i
 obtain⟨⟨q,t⟩,h1,_,ys,h2⟩:=l _ _ o'
 dsimp only at h2
 rw[e,List.append_assoc] at h2
 subst h2
 rw[e] at r
 exact .ins h1 s r
theorem jy(o:Op c){t:V}(n:t ≠ .none)(l:Le (close c t).blks F):F[c.here]? = some (cur c,t):=by
 obtain⟨q,h1,h2,_⟩:=l c.here (cur c,t) (by show(c.blks.modify c.here _)[c.here]? = _;rw[s7,o];rfl)
 rw[h1,h2 n]
theorem fq(o:Op c){b:Nat}(l:Le (close c (jmp b)).blks F)(m:MS):Go F c m b [] (tick m):=fun _ r=> .jmp (jy o (by intro h;cases h) l) r
theorem Fv(o:Op c){k a b:Nat}{x:Bool}(l:Le (close c (brT k a b)).blks F)(h:ag (Int.ofNat k) m.cs=some (.bool x)):Go F c m (js x a b) [] (tick m):=fun _ r=> .br (jy o (by intro h;cases h) l) h r
end
noncomputable def wr(m:MS)(r:Nat)(v:V):MS:=⟨m.L-1,m.ps,aZ (Int.ofNat r) v m.cs⟩
noncomputable def pr(m:MS)(v:V):MS:=⟨m.L-1,m.ps++[v],m.cs⟩
structure MR(m:MS)(g:RS):Prop where
 cells:∀p,p<3→ag (Int.ofNat p) m.cs=some (.int (val g p))
 ps:m.ps=g.ps
structure MG(n u:Nat)(m m':MS):Prop where
 fr:∀k,3≤k→k<n→ag (Int.ofNat k) m'.cs=ag (Int.ofNat k) m.cs
 fuel:m.L≤m'.L+u
theorem MG.refl(n:Nat)(m:MS):MG n 0 m m:=⟨fun _ _ _=>rfl,by simp⟩
theorem MG.trans{n u v:Nat}{m m' m'':MS}(h:MG n u m m')(k:MG n v m' m''):MG n (u+v) m m'':=
 ⟨fun x h1 h2=>(k.fr x h1 h2).trans (h.fr x h1 h2),by have:=h.fuel;have:=k.fuel;simp only[Int.natCast_add];omega⟩
theorem MG.mono{n n' u u':Nat}{m m':MS}(h:MG n u m m')(l:n'≤n)(l':u≤u'):MG n' u' m m':=
 ⟨fun x h1 h2=>h.fr x h1 (Nat.lt_of_lt_of_le h2 l),by have:=h.fuel;omega⟩
theorem MG.tick(n:Nat)(m:MS):MG n 1 m (tick m):=⟨fun _ _ _=>rfl,by show m.L≤m.L-1+1;exact EE⟩
theorem MG.pr(n:Nat)(m:MS)(v:V):MG n 1 m (pr m v):=⟨fun _ _ _=>rfl,by show m.L≤m.L-1+1;exact EE⟩
theorem MG.wr{n r:Nat}(m:MS)(v:V)(h:r<3∨n≤r):MG n 1 m (wr m r v):=
 ⟨fun k h1 h2=>by show ag _ (aZ _ _ _)=_;rw[aA,if_neg (aT (by omega))],by show m.L≤m.L-1+1;exact EE⟩
theorem Ca(m:MS)(r:Nat)(v:V):ag (Int.ofNat r) (wr m r v).cs=some v:=aM ..
theorem jT{m:MS}{r k:Nat}{v:V}(h:r≠k):ag (Int.ofNat k) (wr m r v).cs=ag (Int.ofNat k) m.cs:=by show ag _ (aZ _ _ _)=_;rw[aA,if_neg (aT h)]
theorem MR.wr{m:MS}{g:RS}(h:MR m g){r:Nat}(l:3≤r)(v:V):MR (wr m r v) g:=⟨fun p hp=>by rw[jT (Fe l hp)];exact h.cells p hp,h.ps⟩
theorem MR.tick{m:MS}{g:RS}(h:MR m g):MR (tick m) g:=⟨h.cells,h.ps⟩
theorem MR.pr{m:MS}{g:RS}(h:MR m g)(v:V):MR (pr m v) ⟨g.cs,g.ps++[v]⟩:=⟨h.cells,by show m.ps++[v]=_;rw[h.ps]⟩
theorem MR.add{m:MS}{g:RS}(h:MR m g){p:Nat}(k:Nat):MR (Mine.wr m p (.int (val g p+Int.ofNat k))) (g.add p k):=⟨fun q hq=>by
 by_cases e:p=q
 ·subst e
  rw[Ca,show val (g.add p k) p=val g p+Int.ofNat k from tA (aM ..)]
 ·have e1:val (g.add p k) q=val g q:=by
   unfold val
   rw[show ag (Int.ofNat q) (g.add p k).cs=ag (Int.ofNat q) g.cs by show ag _ (aZ _ _ _)=_;rw[aA,if_neg (aT e)]]
  rw[jT e,e1];exact h.cells q hq,h.ps⟩
structure Cg(c:Cst):Prop where
 three:3≤c.regs.length
 rg:∀p,p<3→rg c p=p
 op:Op c
theorem Cg.next{many:Nat}{c c':Cst}{o:List (Nat×Bool)}{a b a' b':Nat}(h:Cg c)(s:St1 many c o a b)(k:Keeps c c' a b a' b')(g:Gr c c'):Cg c':=
 ⟨ltr h.three g.regs,fun p hp=>((kB (k.held p (Nat.lt_of_lt_of_le hp s.three)) (s.has p hp)).2.symm)▸h.rg p hp,g.opn⟩
section
variable{F:Bl}{c:Cst}{m:MS}{g:RS}
theorem c6{r:Nat}{o:V}{a:Int}(h:Rd m.cs o (.int a)):Step (mv r o) m (wr m r (.int a)):= .mv h
theorem kz{r:Nat}{o o':V}{a b:Int}(h:Rd m.cs o (.int a))(h':Rd m.cs o' (.int b)):Step (u8 r "+" o o') m (wr m r (.int (a+b))):= .add h h'
theorem w5{r:Nat}{op:String}{o o':V}{a b:Int}(ho:op="<"∨op="=="∨op=">=")(h:Rd m.cs o (.int a))(h':Rd m.cs o' (.int b)):Step (u8 r op o o') m (wr m r (.bool (fK op a b))):= .cmp ho h h'
theorem oN{r:Nat}{a:Int}(h:ag (Int.ofNat r) m.cs=some (.int a)):Step (aK [r]) m (pr m (.lst [.int a])):= .print1 h
theorem xz{r r':Nat}{a a':Int}(h:ag (Int.ofNat r) m.cs=some (.int a))(h':ag (Int.ofNat r') m.cs=some (.int a')):Step (aK [r,r']) m (pr m (.lst [.int a,.int a'])):= .print2 h h'
theorem dt{r:Nat}{v:V}(h:ag (Int.ofNat r) m.cs=some v):Rd m.cs (reg r) v:= .inr ⟨r,rfl,h⟩
theorem dM(k:Int):Rd m.cs (cOp ac (.int k)) (.int k):= .inl ⟨ac,rfl⟩
theorem uE(o:Op c){op:String}(ho:op="<"∨op="=="∨op=">="){p:V}{q:V}{x y:Int}{a b:Nat}(l:Le (close (fresh c bg (S "binary") [S op,p,q,ac]) (brT c.regs.length a b)).blks F)
  (hp:Rd m.cs p (.int x)) (hq:Rd m.cs q (.int y)):Go F c m (js (fK op x y) a b) [] (tick (wr m c.regs.length (.bool (fK op x y)))):=by
 have o':Op (fresh c bg (S "binary") [S op,p,q,ac]):=((Gr.refl o).fresh _ _ _).opn
 have l':=(aw o' (brT c.regs.length a b)).trans l
 have k:GoC F c m (fresh c bg (S "binary") [S op,p,q,ac]) (wr m c.regs.length (.bool (fK op x y))):=bA (c:=newReg c bg) o l' (w5 ho hp hq)
 exact k.go (Fv o' l (Ca ..))
def Ends(F:Bl)(o:List (Nat×Bool))(c c':Cst)(m m':MS):Out→Prop
 | .no=>GoC F c m c' m'
 | .brk k=>(∃s,(k,s)∈o)∧Go F c m (aB c k) [] m'
 | .cnt k=>(k,true)∈o∧Go F c m (aE c k) [] m'
theorem Ends.pre{o:List (Nat×Bool)}{c1 c':Cst}{m1 m':MS}{out:Out}(h:GoC F c m c1 m1)(e:∀k s,(k,s)∈o→aB c1 k=aB c k∧aE c1 k=aE c k)(k:Ends F o c1 c' m1 m' out):Ends F o c c' m m' out:=by
 induction out with
 |no=>exact h.go k
 |brk j=>obtain⟨⟨s,hs⟩,k⟩:=k;rw[(e j s hs).1] at k;exact⟨⟨s,hs⟩,h.go k⟩
 |cnt j=>obtain⟨hs,k⟩:=k;rw[(e j true hs).2] at k;exact⟨hs,h.go k⟩
theorem Ends.tail{o:List (Nat×Bool)}{c1 c':Cst}{m1:MS}{out:Out}{g1:RS}{n u:Nat}(h:Ends F o c c1 m m1 out)(r:MR m1 g1)(k:MG n u m m1)(j:GoC F c1 m1 c' (tick m1)):∃m2,MR m2 g1∧MG n (u+1) m m2∧Ends F o c c' m m2 out:=by
 induction out with
 |no=>exact⟨_,r.tick,k.trans (.tick n m1),h.go j⟩
 |brk=>exact⟨_,r,k.mono (Nat.le_refl _) vT,h⟩
 |cnt=>exact⟨_,r,k.mono (Nat.le_refl _) vT,h⟩
theorem Ends.keep{many:Nat}{o:List (Nat×Bool)}{c1:Cst}{a b a' b':Nat}(s:St1 many c o a b)(k:Keeps c c1 a b a' b'):∀j s',(j,s')∈o→aB c1 j=aB c j∧aE c1 j=aE c j:=fun j s' h=>jw (k.loops j (s.low j s' h))
end
mutual
noncomputable def Row.fuel:Row→Nat
 | .print _=>1
 | .add _ _=>2
 | .ite _ y n=>3+y.fuel+n.fuel
 | .jump _ _=>1
 | .loop w _ _ most b=>5+fM w most*(10+b.fuel)
 | .switch _ _ _ as1 y _ as2 z _=>3+2*as1.length+2*as2.length+y.fuel+z.fuel
noncomputable def Rows.fuel:Rows→Nat
 | .nil=>0
 | .cons r rs=>r.fuel+rs.fuel
end
structure LI(q i:Nat)(z:Option Nat)(m:MS):Prop where
 at':ag (Int.ofNat q) m.cs=some (.int (Int.ofNat i))
 sz:∀s,z=some s→ag (Int.ofNat s) m.cs=some (.int 3)
theorem LI.keep{q i:Nat}{z:Option Nat}{m m':MS}{N u:Nat}(h:LI q i z m)(k:MG N u m m')(l:3≤q∧q<N)(lz:∀s,z=some s→3≤s∧s<N):LI q i z m':=
 ⟨(k.fr q l.1 l.2).trans h.at',fun s e=>(k.fr s (lz s e).1 (lz s e).2).trans (h.sz s e)⟩
def EndsL(F:Bl)(o:List (Nat×Bool))(c:Cst)(head behind:Nat)(m m':MS):Out→Prop
 | .no=>GoB F head m behind [] m'
 | .brk k=>(∃s,(k,s)∈o)∧GoB F head m (aB c k) [] m'
 | .cnt k=>(k,true)∈o∧GoB F head m (aE c k) [] m'
theorem rh{F:Bl}{f:RS→RS×Out}{w:Wd}{num tot q n N u:Nat}{z:Option Nat}{o:List (Nat×Bool)}{c cb ce:Cst}{head again behind:Nat}(l:n≤N)(lq:3≤q∧q<N)(lz:∀s,z=some s→3≤s∧s<N)
  (ek:∀k s,(k,s)∈o→aB cb k=aB c k∧aE cb k=aE c k) (eb:aB cb num=behind) (ec:aE cb num=again)
  (hcond:∀i m g,i<tot→LI q i z m→MR m g→∃m1,MR m1 (g.turn w i)∧MG n 6 m m1∧LI q i z m1∧GoB F head m cb.here (cur cb) m1)
  (hexit:∀m g,LI q tot z m→MR m g→∃m1,MR m1 g∧MG n 2 m m1∧GoB F head m behind [] m1)
  (hbody:∀m g,MR m g→∃m',MR m' (f g).1∧MG N u m m'∧Ends F ((num,true)::o) cb ce m m' (f g).2)
  (hend:∀m,Go F ce m again [] (tick m))
  (hagain:∀i m g,LI q i z m→MR m g→∃m1,MR m1 g∧MG n 3 m m1∧LI q (i+1) z m1∧GoB F again m head [] m1):
  ∀k i m g,i+k=tot→LI q i z m→MR m g→∃m',MR m' (bz f w num i k g).1∧MG n (k*(10+u)+2) m m'∧EndsL F o c head behind m m' (bz f w num i k g).2
 |0,i,m,g,e,li,r=>by
  obtain⟨m1,h1,h2,h3⟩:=hexit m g (e▸li) r
  exact⟨m1,h1,h2.mono (Nat.le_refl _) (lin [_] .e (.n 2) (.a (.m 0 (.a (.n 10) (.v 0))) (.n 2)) rfl),h3⟩
 |k+1,i,m,g,e,li,r=>by
  obtain⟨m1,r1,k1,li1,g1⟩:=hcond i m g (lin [_,_,_] (.c 1 (.a (.v 0) (.a (.v 2) (.n 1))) (.v 1) .e) (.a (.v 0) (.n 1)) (.v 1) rfl (leq e)) li r
  obtain⟨m2,r2,k2,e2⟩:=hbody m1 _ r1
  have li2:=li1.keep k2 lq lz
  have k12:=k1.trans (k2.mono l (Nat.le_refl _))
  have more:∀m3 v,MR m3 (f (g.turn w i)).1→MG n v m m3→v≤7+u→LI q i z m3→GoB F head m again [] m3→∃m',MR m' (bz f w num (i+1) k (f (g.turn w i)).1).1∧MG n ((k+1)*(10+u)+2) m m'∧EndsL F o c head behind m m' (bz f w num (i+1) k (f (g.turn w i)).1).2:=fun m3 v r3 k3 hv li3 g3=>by
   obtain⟨m4,r4,k4,li4,g4⟩:=hagain i m3 _ li3 r3
   obtain⟨m5,r5,k5,e5⟩:=rh l lq lz ek eb ec hcond hexit hbody hend hagain k (i+1) m4 _ (FC e) li4 r4
   refine⟨m5,r5,((k3.trans k4).trans k5).mono (Nat.le_refl _) (by rw[Nat.succ_mul];exact lin [_,_,_] (.c 1 (.v 0) (.a (.n 7) (.v 2)) .e) (.a (.a (.v 0) (.n 3)) (.a (.v 1) (.n 2))) (.a (.a (.v 1) (.a (.n 10) (.v 2))) (.n 2)) rfl hv),?_⟩
   have pre:∀ {b:Nat},GoB F head m4 b [] m5→GoB F head m b [] m5:=fun h mf x=>g3 mf (g4 mf (h mf x))
   revert e5
   cases (bz f w num (i+1) k (f (g.turn w i)).1).2 with
   |no=>exact pre
   |brk j=>exact fun h=>⟨h.1,pre h.2⟩
   |cnt j=>exact fun h=>⟨h.1,pre h.2⟩
  unfold bz
  revert e2 more r2
  generalize f (g.turn w i)=x
  obtain⟨g',out⟩:=x
  intro r2 e2 more
  dsimp only at r2 e2 more ⊢
  have kx:MG n ((k+1)*(10+u)+2) m m2:=k12.mono (Nat.le_refl _) (by rw[Nat.succ_mul];exact lin [_,_] .e (.a (.n 6) (.v 0)) (.a (.a (.v 1) (.a (.n 10) (.v 0))) (.n 2)) rfl)
  induction out with
  |no=>exact more (tick m2) _ r2.tick (k12.trans (.tick n m2)) (lin [_] .e (.a (.a (.n 6) (.v 0)) (.n 1)) (.a (.n 7) (.v 0)) rfl) ⟨li2.at',li2.sz⟩ fun mf x=>g1 mf (e2 mf (hend m2 mf x))
  |brk j=>
   obtain⟨⟨s,hs⟩,e2⟩:=e2
   by_cases h:j=num
   ·subst h
    rw[show dR j (.brk j) = .out from if_pos rfl]
    exact⟨m2,r2,kx,fun mf x=>g1 mf (e2 mf (eb.symm▸x))⟩
   ·rw[show dR num (.brk j) = .give (.brk j) from if_neg h]
    have hs':(j,s)∈o:=(List.mem_cons.mp hs).elim (fun q=>absurd (congrArg Prod.fst q) h) id
    exact⟨m2,r2,kx,⟨s,hs'⟩,fun mf x=>g1 mf (e2 mf (((ek j s hs').1).symm▸x))⟩
  |cnt j=>
   obtain⟨hs,e2⟩:=e2
   by_cases h:j=num
   ·subst h
    rw[show dR j (.cnt j) = .more from if_pos rfl]
    exact more m2 _ r2 k12 (lin [_] .e (.a (.n 6) (.v 0)) (.a (.n 7) (.v 0)) rfl) li2 fun mf x=>g1 mf (e2 mf (ec.symm▸x))
   ·rw[show dR num (.cnt j) = .give (.cnt j) from if_neg h]
    have hs':(j,true)∈o:=(List.mem_cons.mp hs).elim (fun q=>absurd (congrArg Prod.fst q) h) id
    exact⟨m2,r2,kx,hs',fun mf x=>g1 mf (e2 mf (((ek j true hs').2).symm▸x))⟩
section
variable{F:Bl}{c:Cst}{m:MS}{g:RS}{o:List (Nat×Bool)}
theorem Go.b{b0 b:Nat}{xs:List V}{m':MS}(h:Go F c m b xs m')(e:c.here=b0)(e':cur c=[]):GoB F b0 m b xs m':=by subst e;unfold Go at h;rw[e'] at h;exact h
theorem GoC.thn{c' c'':Cst}{m' m'':MS}(h:GoC F c m c' m')(k:GoC F c' m' c'' m''):GoC F c m c'' m'':=h.go k
theorem EndsL.ends{cf:Cst}{head behind:Nat}{m1 m':MS}{out:Out}(h:Go F c m head [] m1)(e:cf.here=behind)(e':cur cf=[])(k:EndsL F o c head behind m1 m' out):Ends F o c cf m m' out:=by
 induction out with
 |no=>exact Go.to (fun mf x=>h mf (k mf x)) e e'
 |brk j=>exact⟨k.1,fun mf x=>h mf (k.2 mf x)⟩
 |cnt j=>exact⟨k.1,fun mf x=>h mf (k.2 mf x)⟩
def gA(F:Bl)(o:List (Nat×Bool))(c c':Cst)(f:RS→RS×Out)(u:Nat):Prop:=
 ∀m g,MR m g→∃m',MR m' (f g).1∧MG c.regs.length u m m'∧Ends F o c c' m m' (f g).2
theorem Gw{i t:Nat}(h:i<t):fK "<" (Int.ofNat i) (Int.ofNat t)=true:=by
 have:Int.ofNat i<Int.ofNat t:=Int.ofNat_lt.mpr h
 unfold fK;rw[if_pos rfl];exact decide_eq_true this
theorem yy(t:Nat):fK "<" (Int.ofNat t) (Int.ofNat t)=false:=by unfold fK;rw[if_pos rfl];exact decide_eq_false (Int.lt_irrefl _)
theorem LI.wr{q i r:Nat}{z:Option Nat}{v:V}(h:LI q i z m)(e:r≠q)(ez:∀s,z=some s→r≠s):LI q i z (wr m r v):=⟨(jT e).trans h.at',fun s hs=>(jT (ez s hs)).trans (h.sz s hs)⟩
theorem LI.tick{q i:Nat}{z:Option Nat}(h:LI q i z m):LI q i z (tick m):=⟨h.at',h.sz⟩
theorem LI.pr{q i:Nat}{z:Option Nat}(h:LI q i z m)(v:V):LI q i z (pr m v):=⟨h.at',h.sz⟩
theorem mj(c:Cst)(l:Nat)(v:V):(beginL c l v).regs.length=c.regs.length+1:=List.length_append ..
theorem fC(c:Cst)(t w:V)(r:List V):(fresh c t w r).regs.length=c.regs.length+1:=List.length_append ..
noncomputable def tst(c1:Cst)(num q:Nat)(mo:V):Cst:=mv2 (fresh (forHead c1 num) bg (S "binary") [S "<",reg q,mo,ac]) (brT (forHead c1 num).regs.length (b1 c1) (b3 c1)) (b1 c1)
theorem C1{c1 cb ce cz:Cst}{num q n u tot:Nat}{mo:V}{z:Option Nat}{w:Wd}{f:RS→RS×Out}(o1:Op c1)(hd:HdB c1 cb)(gb:Gr cb ce)(gz:Gr (mv2 ce (jmp (b2 c1)) (b2 c1)) cz)(gt:Gr (tst c1 num q mo) cb)
  (n3:3≤n) (nc:n≤c1.regs.length) (hq:n≤q∧q<c1.regs.length) (hz:∀s,z=some s→n≤s∧s<c1.regs.length)
  (lf:Le (mv2 cz (jmp c1.blks.length) (b3 c1)).blks F) (ek:∀k s,(k,s)∈o→aB cb k=aB c1 k∧aE cb k=aE c1 k) (en:aB cb num=b3 c1∧aE cb num=b2 c1)
  (hmo:∀i m,LI q i z m→Rd m.cs mo (.int (Int.ofNat tot)))
  (hopen:∀i m g,i<tot→LI q i z m→MR m g→∃m1,MR m1 (g.turn w i)∧MG n 4 m m1∧LI q i z m1∧(Le cb.blks F→GoC F (tst c1 num q mo) m cb m1))
  (hinc:∀i m g,LI q i z m→MR m g→∃m1,MR m1 g∧MG n 2 m m1∧LI q (i+1) z m1∧(Le cz.blks F→GoC F (mv2 ce (jmp (b2 c1)) (b2 c1)) m cz m1))
  (ih:gA F ((num,true)::o) cb ce f u) (r:MR m g) (li:LI q 0 z m):
  ∃m',MR m' (bz f w num 0 tot g).1∧MG n (tot*(10+u)+3) m m'∧Ends F o c1 (mv2 cz (jmp c1.blks.length) (b3 c1)) m m' (bz f w num 0 tot g).2:=by
 have fh:=eX o1 num
 have gf:=(Gr.refl fh.g.opn).fresh bg (S "binary") [S "<",reg q,mo,ac]
 have la:=hd.fin gb .none (jmp (b2 c1))
 have lz:=(aw gz.opn (jmp c1.blks.length)).trans lf
 have le:=gz.le.trans lz
 have lb:=gb.le.trans ((aw gb.opn _).trans le)
 have lt:Le (close (fresh (forHead c1 num) bg (S "binary") [S "<",reg q,mo,ac]) (brT (forHead c1 num).regs.length (b1 c1) (b3 c1))).blks F:=gt.le.trans lb
 have g4:Gr c1 (setLoop (ax c1) (Int.ofNat num) (dQ c1)):=(uG o1).g.same rfl rfl (Nat.le_refl _)
 have l0:Le (close (setLoop (ax c1) (Int.ofNat num) (dQ c1)) (jmp c1.blks.length)).blks F:=(gf.le.trans (aw gf.opn _)).trans lt
 have start:Go F c1 m c1.blks.length [] (tick m):=by
  have h:=fq g4.opn l0 m
  have e1:cur (setLoop (ax c1) (Int.ofNat num) (dQ c1))=cur c1:=(o1.newBlk.1.newBlk.1.newBlk.1.newBlk.2.trans o1.newBlk.1.newBlk.1.newBlk.2).trans (o1.newBlk.1.newBlk.2.trans o1.newBlk.2)
  unfold Go at h ⊢
  rw[e1] at h
  exact h
 have test:∀i m,LI q i z m→Go F (forHead c1 num) m (js (fK "<" (Int.ofNat i) (Int.ofNat tot)) (b1 c1) (b3 c1)) [] (tick (wr m c1.regs.length (.bool (fK "<" (Int.ofNat i) (Int.ofNat tot))))):=fun i m li=>uE fh.g.opn (.inl rfl) lt (dt li.at') (hmo i m li)
 have km:∀(m:MS) (v:V),MG n 2 m (tick (wr m c1.regs.length v)):=fun m v=>(MG.wr m v (.inr nc)).trans (.tick n _)
 have lw:∀ {i:Nat} {m:MS} (v:V),LI q i z m→LI q i z (tick (wr m c1.regs.length v)):=fun v li=>(li.wr (De hq) fun s e=>by have:=(hz s e).2;exact Cm this).tick
 have et:=fh.test (S "binary") [S "<",reg q,mo,ac] (brT (forHead c1 num).regs.length (b1 c1) (b3 c1))
 have rg:=hd.g.regs
 obtain⟨m',h1,h2,h3⟩:=rh (F:=F) (f:=f) (w:=w) (num:=num) (tot:=tot) (q:=q) (n:=n) (N:=cb.regs.length) (u:=u) (z:=z) (o:=o) (c:=c1) (cb:=cb) (ce:=ce) (head:=c1.blks.length) (again:=b2 c1) (behind:=b3 c1)
  (Eo nc rg) ⟨CG n3 hq,Fd hq rg⟩ (fun s e=>by have:=hz s e;exact⟨CG n3 this,FI rg this⟩) ek en.1 en.2
  (fun i m g hi li r=>by
   obtain⟨m1,r1,k1,li1,go⟩:=hopen i _ g hi (lw (.bool true) li) ((r.wr (Ek n3 nc) (.bool true)).tick)
   have t:=test i m li
   rw[Gw hi] at t
   refine⟨m1,r1,((km m _).trans k1).mono (Nat.le_refl _) (lin [] .e (.a (.n 2) (.n 4)) (.n 6) rfl),li1,?_⟩
   have t2:=(Go.to (c':=tst c1 num q mo) t rfl et.2).go (go lb)
   exact Go.b t2 rfl fh.cur)
  (fun m g li r=>by
   have t:=test tot m li
   rw[yy] at t
   exact⟨_,(r.wr (Ek n3 nc) _).tick,km m _,Go.b t rfl fh.cur⟩)
  ih (fun m=>fq gb.opn le m)
  (fun i m g li r=>by
   obtain⟨m1,r1,k1,li1,go⟩:=hinc i m g li r
   refine⟨_,r1.tick,(k1.trans (.tick n m1)).mono (Nat.le_refl _) (lin [] .e (.a (.n 2) (.n 1)) (.n 3) rfl),li1.tick,?_⟩
   exact Go.b ((go lz).go (fq gz.opn lf m1)) rfl la.2.1)
  tot 0 (tick m) g (Nat.zero_add _) li.tick r.tick
 have e3:Em cz (b3 c1):=gz.em la.2.2
 exact⟨m',h1,((MG.tick n m).trans h2).mono (Nat.le_refl _) (lin [_] .e (.a (.n 1) (.a (.v 0) (.n 2))) (.a (.v 0) (.n 3)) rfl),EndsL.ends start rfl (e3.at _).2 h3⟩
theorem rgH{c c':Cst}{l:Nat}(h:c'.held=c.held):rg c' l=rg c l:=by unfold rg;rw[h]
theorem qy{c cb:Cst}{num:Nat}(h:ag (Int.ofNat num) cb.loops=some (dQ c)):aB cb num=b3 c∧aE cb num=b2 c:=by
 unfold aB aE;rw[h];exact⟨rfl,rfl⟩
theorem BA{c1 cb ce:Cst}{num l most:Nat}{f:RS→RS×Out}{u:Nat}(k:Cg c)(hc1:Gr c c1)(rc1:c1.regs.length=c.regs.length+1)(p1:Le c1.blks F→∀m,GoC F c m c1 (wr m c.regs.length (.int 0)))(hd:HdB c1 cb)
  (eb:cb=put (tst c1 num c.regs.length (cOp ac (.int (Int.ofNat most)))) (aK [c.regs.length])) (gb:Gr cb ce) (hr:rg ce l=c.regs.length) (lf:Le (forEnd c1 ce l).blks F)
  (ek:∀k s,(k,s)∈o→aB cb k=aB c k∧aE cb k=aE c k) (el:c1.loops=c.loops) (en:ag (Int.ofNat num) cb.loops=some (dQ c1)) (ih:gA F ((num,true)::o) cb ce f u):
  gA F o c (forEnd c1 ce l) (fun g=>bz f .for_ num 0 most g) (5+most*(10+u)):=by
 intro m g r
 have q3:=k.three
 have ga:=(hd.fin gb .none (jmp (b2 c1))).1
 have gt:=(eX hc1.opn num).test (S "binary") [S "<",reg c.regs.length,cOp ac (.int (Int.ofNat most)),ac] (brT (forHead c1 num).regs.length (b1 c1) (b3 c1))
 have gz:=(Gr.refl ga.opn).upd l 1
 have lf':Le (mv2 (fB (mv2 ce (jmp (b2 c1)) (b2 c1)) l 1) (jmp c1.blks.length) (b3 c1)).blks F:=lf
 have gcb:=ltr hd.g.regs gb.regs
 have e1:∀k s,(k,s)∈o→aB c1 k=aB c k∧aE c1 k=aE c k:=fun k s h=>jw (by rw[el])
 obtain⟨m',h1,h2,h3⟩:=C1 (F:=F) (o:=o) (c1:=c1) (cb:=cb) (ce:=ce) (cz:=fB (mv2 ce (jmp (b2 c1)) (b2 c1)) l 1) (num:=num) (q:=c.regs.length) (n:=c.regs.length) (u:=u) (tot:=most) (mo:=cOp ac (.int (Int.ofNat most))) (z:=none) (w:= .for_) (f:=f)
  hc1.opn hd gb gz (by rw[eb];exact(Gr.refl gt.1.g.opn).put _) q3 (ET rc1) ⟨Nat.le_refl _,(lin [_,_] (.c 1 (.a (.v 0) (.n 1)) (.v 1) .e) (.a (.v 0) (.n 1)) (.v 1) rfl (leq rc1.symm))⟩ (fun _ h=>nomatch h) lf' (fun k s h=>⟨(ek k s h).1.trans (e1 k s h).1.symm,(ek k s h).2.trans (e1 k s h).2.symm⟩) (qy en)
  (fun i m _=>dM _)
  (fun i m g _ li r=>⟨_,r.pr _,(MG.pr _ m (.lst [nat i])).mono (Nat.le_refl _) (lin [] .e (.n 1) (.n 4) rfl),li.pr _,fun lb=>by rw[eb] at lb ⊢;exact bA gt.1.g.opn lb (oN li.at')⟩)
  (fun i m g li r=>by
   have hq:rg (mv2 ce (jmp (b2 c1)) (b2 c1)) l=c.regs.length:=hr
   refine⟨wr (wr m ce.regs.length (.int (Int.ofNat i+1))) c.regs.length (.int (Int.ofNat i+1)),(r.wr (lin [_,_,_] (.c 1 (.a (.v 2) (.n 1)) (.v 1) (.c 1 (.n 3) (.v 2) (.c 1 (.v 1) (.v 0) .e))) (.n 3) (.v 0) rfl (leq rc1.symm) q3 gcb) _).wr q3 _,(MG.wr m _ (.inr (lin [_,_,_] (.c 1 (.a (.v 0) (.n 1)) (.v 2) (.c 1 (.v 2) (.v 1) .e)) (.v 0) (.v 1) rfl (leq rc1.symm) gcb))).trans (MG.wr _ _ (.inr (Nat.le_refl _))),⟨aM ..,fun _ h=>nomatch h⟩,fun lz=> ?_⟩
   have gx:=(Gr.refl ga.opn).fresh ac (S "binary") [S "+",reg (rg (mv2 ce (jmp (b2 c1)) (b2 c1)) l),cOp ac (.int 1),ac]
   have s1:GoC F (mv2 ce (jmp (b2 c1)) (b2 c1)) m (fresh (mv2 ce (jmp (b2 c1)) (b2 c1)) ac (S "binary") [S "+",reg (rg (mv2 ce (jmp (b2 c1)) (b2 c1)) l),cOp ac (.int 1),ac]) (wr m ce.regs.length (.int (Int.ofNat i+1))):=
    bA (c:=newReg (mv2 ce (jmp (b2 c1)) (b2 c1)) ac) ga.opn ((kU gx.opn _).trans lz) (kz (hq.symm▸(dt li.at')) (dM 1))
   refine s1.go (bA gx.opn lz ?_)
   rw[hq]
   exact c6 (dt (aM ..)))
  ih (m:=wr m c.regs.length (.int 0)) (g:=g) (r.wr q3 _) ⟨aM ..,fun _ h=>nomatch h⟩
 have l1:Le c1.blks F:=hd.g.le.trans (gb.le.trans ((aw gb.opn _).trans (gz.le.trans ((aw gz.opn _).trans lf'))))
 exact⟨m',h1,((MG.wr m (.int 0) (.inr (Nat.le_refl _))).trans h2).mono (Nat.le_refl _) (lin [_] .e (.a (.n 1) (.a (.v 0) (.n 3))) (.a (.n 5) (.v 0)) rfl),h3.pre (p1 l1 m) e1⟩
end
section
variable{F:Bl}{c:Cst}{o:List (Nat×Bool)}
theorem uu{c1 cb ce:Cst}{num pl tot:Nat}{mo:V}{z:Option Nat}{w:Wd}{f:RS→RS×Out}{u:Nat}(k:Cg c)(hc1:Gr c c1)(hpl:c.regs.length≤pl∧pl<c1.regs.length)(hz:∀s,z=some s→c.regs.length≤s∧s<pl)
  (p1:∀m g,MR m g→∃m1,MR m1 g∧MG c.regs.length 2 m m1∧LI pl 0 z m1∧(Le c1.blks F→GoC F c m c1 m1)) (hd:HdB c1 cb) (gt:Gr (tst c1 num pl mo) cb) (gb:Gr cb ce) (lf:Le (rngEnd c1 ce pl).blks F)
  (ek:∀k s,(k,s)∈o→aB cb k=aB c k∧aE cb k=aE c k) (el:c1.loops=c.loops) (en:ag (Int.ofNat num) cb.loops=some (dQ c1))
  (hmo:∀i m,LI pl i z m→Rd m.cs mo (.int (Int.ofNat tot)))
  (hopen:∀i m g,i<tot→LI pl i z m→MR m g→∃m1,MR m1 (g.turn w i)∧MG c.regs.length 4 m m1∧LI pl i z m1∧(Le cb.blks F→GoC F (tst c1 num pl mo) m cb m1))
  (ih:gA F ((num,true)::o) cb ce f u):gA F o c (rngEnd c1 ce pl) (fun g=>bz f w num 0 tot g) (5+tot*(10+u)):=by
 intro m g r
 have q3:=k.three
 have ga:=(hd.fin gb .none (jmp (b2 c1))).1
 have gz:=(Gr.refl ga.opn).put (dP pl)
 have lf':Le (mv2 (put (mv2 ce (jmp (b2 c1)) (b2 c1)) (dP pl)) (jmp c1.blks.length) (b3 c1)).blks F:=lf
 have e1:∀k s,(k,s)∈o→aB c1 k=aB c k∧aE c1 k=aE c k:=fun k s h=>jw (by rw[el])
 obtain⟨m1,r1,k1,li1,go⟩:=p1 m g r
 obtain⟨m',h1,h2,h3⟩:=C1 (F:=F) (o:=o) (c1:=c1) (cb:=cb) (ce:=ce) (cz:=put (mv2 ce (jmp (b2 c1)) (b2 c1)) (dP pl)) (num:=num) (q:=pl) (n:=c.regs.length) (u:=u) (tot:=tot) (mo:=mo) (z:=z) (w:=w) (f:=f)
  hc1.opn hd gb gz gt q3 (Gz hpl) hpl (fun s e=>by have:=hz s e;exact GD hpl this) lf' (fun k s h=>⟨(ek k s h).1.trans (e1 k s h).1.symm,(ek k s h).2.trans (e1 k s h).2.symm⟩) (qy en) hmo hopen
  (fun i m g li r=>⟨wr m pl (.int (Int.ofNat i+1)),r.wr (lin [_,_] (.c 1 (.v 1) (.v 0) (.c 1 (.n 3) (.v 1) .e)) (.n 3) (.v 0) rfl hpl.1 q3) _,(MG.wr m _ (.inr hpl.1)).mono (Nat.le_refl _) Ci,⟨aM ..,fun s e=>(jT (by have:=hz s e;exact De this)).trans (li.sz s e)⟩,fun lz=>bA ga.opn lz (kz (dt li.at') (dM 1))⟩)
  ih (m:=m1) (g:=g) r1 li1
 have l1:Le c1.blks F:=hd.g.le.trans (gb.le.trans ((aw gb.opn _).trans (gz.le.trans ((aw gz.opn _).trans lf'))))
 exact⟨m',h1,(k1.trans h2).mono (Nat.le_refl _) (lin [_] .e (.a (.n 2) (.a (.v 0) (.n 3))) (.a (.n 5) (.v 0)) rfl),h3.pre (go l1) e1⟩
theorem ni{c c1:Cst}(hc:Op c)(e:c1=aa c){m:MS}(l:Le c1.blks F):GoC F c m c1 (wr m c.regs.length (.int 0)):=by subst e;exact bA (c:=newReg c ac) hc l (c6 (dM 0))
theorem kA(c:Cst)(l:Nat)(v:V):rg (beginL c l v) l=c.regs.length:=iH c l
theorem yn{ce:Cst}{num l most:Nat}{f:RS→RS×Out}{u:Nat}(k:Cg c)(gb:Gr (ring0 c num l most) ce)(lf:Le (rngEnd (aa c) ce c.regs.length).blks F)
  (ek:∀k s,(k,s)∈o→aB (ring0 c num l most) k=aB c k∧aE (ring0 c num l most) k=aE c k) (ih:gA F ((num,true)::o) (ring0 c num l most) ce f u):
  gA F o c (rngEnd (aa c) ce c.regs.length) (fun g=>bz f .ring num 0 most g) (5+most*(10+u)):=by
 have q3:=k.three
 have g1:Gr c (aa c):=(Gr.refl k.op).fresh _ _ _
 have r1:(aa c).regs.length=c.regs.length+1:=fC ..
 have ht:=iY g1.opn num c.regs.length (cOp ac (.int (Int.ofNat most)))
 have hb:=ht.1.begin l (reg c.regs.length)
 have rt:c.regs.length<(rngIn (aa c) num c.regs.length (cOp ac (.int (Int.ofNat most)))).regs.length:=Nat.lt_of_lt_of_le (by rw[r1];exact Nat.lt_succ_self _) ht.1.g.regs
 refine uu (z:=none) (mo:=cOp ac (.int (Int.ofNat most))) k g1 ⟨Nat.le_refl _,by rw[r1];exact Nat.lt_succ_self _⟩ (fun _ h=>nomatch h)
  (fun m g r=>⟨_,r.wr q3 (.int 0),(MG.wr m _ (.inr (Nat.le_refl _))).mono (Nat.le_refl _) Ci,⟨aM ..,fun _ h=>nomatch h⟩,fun l=>ni k.op rfl l⟩)
  (lN k.op num l most) (((Gr.refl ht.1.g.opn).begin _ _).put _) gb lf ek rfl (bj ..) (fun i m _=>dM _) (fun i m g _ li r=> ?_) ih
 refine⟨_,(r.wr (lin [_,_] (.c 1 (.n 3) (.v 1) (.c 1 (.a (.v 1) (.n 1)) (.v 0) .e)) (.n 3) (.v 0) rfl q3 rt) _).pr _,(MG.trans (MG.wr m (.int (Int.ofNat i)) (.inr (Nat.le_of_lt rt))) (MG.pr _ _ (.lst [nat i]))).mono (Nat.le_refl _) (lin [] .e (.a (.n 1) (.n 1)) (.n 4) rfl),(li.wr (Cm rt) (fun _ h=>nomatch h)).pr _,fun lb=> ?_⟩
 have s1:GoC F (rngIn (aa c) num c.regs.length (cOp ac (.int (Int.ofNat most)))) m (beginL (rngIn (aa c) num c.regs.length (cOp ac (.int (Int.ofNat most)))) l (reg c.regs.length)) (wr m (rngIn (aa c) num c.regs.length (cOp ac (.int (Int.ofNat most)))).regs.length (.int (Int.ofNat i))):=
  bA (c:=take (rngIn (aa c) num c.regs.length (cOp ac (.int (Int.ofNat most)))) l) ht.1.g.opn ((kU hb.g.opn _).trans lb) (c6 (dt li.at'))
 exact s1.thn (bA hb.g.opn lb (by rw[kA];exact oN (aM ..)))
theorem vt{m:MS}{r:Nat}{o:V}{i:Int}(hi:i=0∨i=1∨i=2)(h:Rd m.cs o (.int i)):Step (zu r o) m (wr m r (.int (10*i+7))):= .elem hi h
theorem xa{ct cb:Cst}{l pl sz i n:Nat}(o:Op ct)(hb:cb=put (beginL (aQ (beginL ct l (reg pl)) pl) (l+1) (reg (beginL ct l (reg pl)).regs.length)) (aK [rg (beginL (aQ (beginL ct l (reg pl)) pl) (l+1) (reg (beginL ct l (reg pl)).regs.length)) l,rg (beginL (aQ (beginL ct l (reg pl)) pl) (l+1) (reg (beginL ct l (reg pl)).regs.length)) (l+1)]))
  (n3:3≤n) (nc:n≤ct.regs.length) (hp:pl<ct.regs.length) (hs:sz<pl) (hi:i<3) {m:MS} {g:RS} (li:LI pl i (some sz) m) (r:MR m g):∃m1,MR m1 (g.turn .row i)∧MG n 4 m m1∧LI pl i (some sz) m1∧(Le cb.blks F→GoC F ct m cb m1):=by
 have h1:=(Gr.refl o).begin l (reg pl)
 have h2:=h1.fresh ac (S "elem") [cOp vThree cH,reg pl]
 have h3:=h2.begin (l+1) (reg (beginL ct l (reg pl)).regs.length)
 have r1:=mj ct l (reg pl)
 have r2:(aQ (beginL ct l (reg pl)) pl).regs.length=ct.regs.length+2:=by rw[show(aQ (beginL ct l (reg pl)) pl).regs.length=_ from fC ..,r1]
 have eg:rg (beginL (aQ (beginL ct l (reg pl)) pl) (l+1) (reg (beginL ct l (reg pl)).regs.length)) l=ct.regs.length:=by
  have:rg (beginL (aQ (beginL ct l (reg pl)) pl) (l+1) (reg (beginL ct l (reg pl)).regs.length)) l=rg (beginL ct l (reg pl)) l:=by
   unfold rg
   rw[show ag (Int.ofNat l) (beginL (aQ (beginL ct l (reg pl)) pl) (l+1) (reg (beginL ct l (reg pl)).regs.length)).held=ag (Int.ofNat l) (beginL ct l (reg pl)).held by show ag _ (aZ _ _ _)=_;rw[aA,if_neg (aT z8)];rfl]
  rw[this,kA]
 rw[eg,kA,r2] at hb
 have i3:(Int.ofNat i=0∨Int.ofNat i=1∨Int.ofNat i=2):=by
  have:i=0∨i=1∨i=2:=Ah hi
  rcases this with rfl|rfl|rfl
  ·exact .inl rfl
  ·exact .inr (.inl rfl)
  ·exact .inr (.inr rfl)
 have w:∀ {m:MS} {r:Nat} (v:V),ct.regs.length≤r→LI pl i (some sz) m→LI pl i (some sz) (wr m r v):=fun v hr li=>li.wr (Nat.ne_of_gt (lin [_,_,_] (.c 1 (.a (.v 0) (.n 1)) (.v 2) (.c 1 (.v 2) (.v 1) .e)) (.a (.v 0) (.n 1)) (.v 1) rfl hp hr)) fun s e=>by cases e;exact Nat.ne_of_gt (lin [_,_,_,_] (.c 1 (.a (.v 2) (.n 1)) (.v 3) (.c 1 (.a (.v 0) (.n 1)) (.v 2) (.c 1 (.v 3) (.v 1) .e))) (.a (.v 0) (.n 1)) (.v 1) rfl hp hs hr)
 have l1:=w (.int (Int.ofNat i)) (Nat.le_refl _) li
 have l2:=w (r:=ct.regs.length+1) (.int (10*Int.ofNat i+7)) vT l1
 have l3:=w (r:=ct.regs.length+2) (.int (10*Int.ofNat i+7)) (lin [_] .e (.v 0) (.a (.v 0) (.n 2)) rfl) l2
 refine⟨_,(((r.wr (Ek n3 nc) _).wr (lin [_,_] (.c 1 (.n 3) (.v 1) (.c 1 (.v 1) (.v 0) .e)) (.n 3) (.a (.v 0) (.n 1)) rfl n3 nc) _).wr (lin [_,_] (.c 1 (.n 3) (.v 1) (.c 1 (.v 1) (.v 0) .e)) (.n 3) (.a (.v 0) (.n 2)) rfl n3 nc) _).pr _,(((MG.wr m (.int (Int.ofNat i)) (.inr nc)).trans (MG.wr _ (.int (10*Int.ofNat i+7)) (.inr (show n≤ct.regs.length+1 by exact v0 nc)))).trans (MG.wr _ (.int (10*Int.ofNat i+7)) (.inr (show n≤ct.regs.length+2 by exact Au nc)))).trans (MG.pr _ _ _),l3.pr _,fun lb=> ?_⟩
 subst hb
 have b3:=(kU h3.opn _).trans lb
 have b2:=((Gr.refl h2.opn).begin _ _).le.trans b3
 have b1:=((Gr.refl h1.opn).fresh _ _ _).le.trans b2
 have s1:GoC F ct m (beginL ct l (reg pl)) (wr m ct.regs.length (.int (Int.ofNat i))):=bA (c:=take ct l) o b1 (c6 (dt li.at'))
 have s2:GoC F (beginL ct l (reg pl)) (wr m ct.regs.length (.int (Int.ofNat i))) (aQ (beginL ct l (reg pl)) pl) (wr (wr m ct.regs.length (.int (Int.ofNat i))) (beginL ct l (reg pl)).regs.length (.int (10*Int.ofNat i+7))):=bA (c:=newReg (beginL ct l (reg pl)) ac) h1.opn b2 (vt i3 (dt l1.at'))
 rw[r1] at s2
 have s3:GoC F (aQ (beginL ct l (reg pl)) pl) (wr (wr m ct.regs.length (.int (Int.ofNat i))) (ct.regs.length+1) (.int (10*Int.ofNat i+7))) (beginL (aQ (beginL ct l (reg pl)) pl) (l+1) (reg (beginL ct l (reg pl)).regs.length)) (wr (wr (wr m ct.regs.length (.int (Int.ofNat i))) (ct.regs.length+1) (.int (10*Int.ofNat i+7))) (aQ (beginL ct l (reg pl)) pl).regs.length (.int (10*Int.ofNat i+7))):=
  bA (c:=take (aQ (beginL ct l (reg pl)) pl) (l+1)) h2.opn b3 (c6 (dt (r1.symm▸(aM ..))))
 rw[r2] at s3
 exact((s1.thn s2).thn s3).thn (bA h3.opn lb (xz (by rw[jT FH,jT z8];exact aM ..) (aM ..)))
theorem Aw{ce:Cst}{num l:Nat}{f:RS→RS×Out}{u:Nat}(k:Cg c)(gb:Gr (cg c num l) ce)(lf:Le (rngEnd (aa (am c)) ce (c.regs.length+1)).blks F)
  (ek:∀k s,(k,s)∈o→aB (cg c num l) k=aB c k∧aE (cg c num l) k=aE c k) (ih:gA F ((num,true)::o) (cg c num l) ce f u):
  gA F o c (rngEnd (aa (am c)) ce (c.regs.length+1)) (fun g=>bz f .row num 0 3 g) (5+3*(10+u)):=by
 have q3:=k.three
 have g0:Gr c (am c):=(Gr.refl k.op).fresh _ _ _
 have g1:Gr c (aa (am c)):=g0.fresh _ _ _
 have r0:(am c).regs.length=c.regs.length+1:=fC ..
 have r1:(aa (am c)).regs.length=c.regs.length+2:=by rw[show(aa (am c)).regs.length=_ from fC ..,r0]
 have ht:=iY g1.opn num (c.regs.length+1) (reg c.regs.length)
 have rt:c.regs.length+2≤(rngIn (aa (am c)) num (c.regs.length+1) (reg c.regs.length)).regs.length:=by have:=ht.1.g.regs;rw[r1] at this;exact this
 refine uu (z:=some c.regs.length) (mo:=reg c.regs.length) (tot:=3) (w:= .row) k g1 ⟨vT,by rw[r1];exact lin [_] .e (.a (.a (.v 0) (.n 1)) (.n 1)) (.a (.v 0) (.n 2)) rfl⟩ (fun s h=>by cases h;exact⟨lin [_] .e (.v 0) (.v 0) rfl,lin [_] .e (.a (.v 0) (.n 1)) (.a (.v 0) (.n 1)) rfl⟩) (fun m g r=> ?_) (oK k.op num l) (((((Gr.refl ht.1.g.opn).begin _ _).fresh _ _ _).begin _ _).put _) gb lf ek rfl (bj ..) (fun i m li=>dt (li.sz _ rfl))
  (fun i m g hi li r=>xa (cb:=cg c num l) ht.1.g.opn rfl q3 (lin [_,_] (.c 1 (.a (.v 0) (.n 2)) (.v 1) .e) (.v 0) (.v 1) rfl rt) (Ch rt) Do hi li r) ih
 refine⟨_,(r.wr q3 (.int 3)).wr (show 3≤c.regs.length+1 by exact lin [_] (.c 1 (.n 3) (.v 0) .e) (.n 3) (.a (.v 0) (.n 1)) rfl q3) (.int 0),(MG.wr m _ (.inr (Nat.le_refl _))).trans (MG.wr _ _ (.inr vT)),⟨aM ..,fun s h=>by cases h;rw[jT z8];exact aM ..⟩,fun l1=> ?_⟩
 have b0:Le (am c).blks F:=((Gr.refl g0.opn).fresh _ _ _).le.trans l1
 have s0:GoC F c m (am c) (wr m c.regs.length (.int 3)):=bA (c:=newReg c ac) (i:=zb c.regs.length) k.op b0 .size
 have s1:=ni (m:=wr m c.regs.length (.int 3)) g0.opn rfl l1
 rw[r0] at s1
 exact s0.thn s1
theorem yF(k:Cg c){a:Ask}(ha:a.ok){x y:Nat}{m:MS}{g:RS}(r:MR m g)(l:Le (close (bin c a.op (.loc a.p) (.int a.k)) (brT c.regs.length x y)).blks F):
  Go F c m (js (bK g a) x y) [] (tick (wr m c.regs.length (.bool (bK g a)))):=
 uE (p:=reg (rg c a.p)) k.op ha.2 l (dt ((k.rg a.p ha.1).symm▸(r.cells a.p ha.1))) (dM a.k)
end
section
variable{F:Bl}{c:Cst}{o:List (Nat×Bool)}
theorem Cg.blk(k:Cg c):Cg (newBlk c):=⟨k.three,k.rg,k.op.newBlk.1⟩
theorem ix(k:Op c){m m':MS}{b:Nat}{xs:List V}(h:Go F (newBlk c) m b xs m'):Go F c m b xs m':=by
 unfold Go at h ⊢
 rw[k.newBlk.2] at h
 exact h
theorem AS{c5 c8:Cst}{a:Ask}{fy fz:RS→RS×Out}{uy uz:Nat}(k:Cg c)(ha:a.ok)(gy:Gr (ifHead c a.op a.p a.k) c5)(gz:Gr (ifMid c c5) c8)(lf:Le (goTo c8 (b2 c)).blks F)
  (ey:∀k s,(k,s)∈o→aB (ifHead c a.op a.p a.k) k=aB c k∧aE (ifHead c a.op a.p a.k) k=aE c k) (ez:∀k s,(k,s)∈o→aB (ifMid c c5) k=aB c k∧aE (ifMid c c5) k=aE c k)
  (ihy:gA F o (ifHead c a.op a.p a.k) c5 fy uy) (ihz:gA F o (ifMid c c5) c8 fz uz):
  gA F o c (goTo c8 (b2 c)) (fun g=>match bK g a with|true=>fy g|false=>fz g) (3+uy+uz):=by
 intro m g r
 have hd:=jx k.op a.op a.p a.k
 have hm:=hd.mid gy (jmp (b2 c))
 have e2:Em c8 (b2 c):=gz.em hm.2.2
 have l8:=(aw gz.opn (jmp (b2 c))).trans lf
 have l5:Le (close c5 (jmp (b2 c))).blks F:=gz.le.trans l8
 have lh:Le (ifHead c a.op a.p a.k).blks F:=gy.le.trans ((aw gy.opn _).trans l5)
 have t:=ix k.op (ix k.blk.op (ix k.blk.blk.op (yF k.blk.blk.blk ha r (x:=c.blks.length) (y:=b1 c) lh)))
 have r1:=(r.wr k.three (.bool (bK g a))).tick
 have k1:MG c.regs.length 2 m (tick (wr m c.regs.length (.bool (bK g a)))):=(MG.wr m _ (.inr (Nat.le_refl _))).trans (.tick _ _)
 have ce:cur (goTo c8 (b2 c))=[]:=(e2.at _).2
 have re:c.regs.length≤(ifMid c c5).regs.length:=hm.1.regs
 dsimp only
 revert t r1 k1
 generalize bK g a=b
 intro t r1 k1
 induction b with
 |true=>
  obtain⟨m2,r2,k2,e2⟩:=ihy _ g r1
  have t:GoC F c m (ifHead c a.op a.p a.k) _:=t.to rfl hd.cur
  obtain⟨m3,r3,k3,e3⟩:=Ends.tail (c':=goTo c8 (b2 c)) (e2.pre t ey) r2 (k1.trans (k2.mono hd.g.regs (Nat.le_refl _))) ((fq gy.opn l5 m2).to rfl ce)
  exact⟨m3,r3,k3.mono (Nat.le_refl _) (lin [_,_] .e (.a (.a (.n 2) (.v 0)) (.n 1)) (.a (.a (.n 3) (.v 0)) (.v 1)) rfl),e3⟩
 |false=>
  obtain⟨m2,r2,k2,e2⟩:=ihz _ g r1
  have t:GoC F c m (ifMid c c5) _:=t.to rfl hm.2.1
  obtain⟨m3,r3,k3,e3⟩:=Ends.tail (c':=goTo c8 (b2 c)) (e2.pre t ez) r2 (k1.trans (k2.mono re (Nat.le_refl _))) ((fq gz.opn lf m2).to rfl ce)
  exact⟨m3,r3,k3.mono (Nat.le_refl _) (lin [_,_] .e (.a (.a (.n 2) (.v 0)) (.n 1)) (.a (.a (.n 3) (.v 1)) (.v 0)) rfl),e3⟩
theorem kW{goal:Nat}:∀(as:List Ask) {c:Cst},(∀a∈as,a.ok)→Cg c→Le (condsC c goal as).blks F→∀(m:MS) (g:RS),MR m g→
  ∃m1,MR m1 g∧MG c.regs.length (2*as.length) m m1∧(match as.any (bK g) with|true=>Go F c m goal [] m1|false=>GoC F c m (condsC c goal as) m1)
 |[],c,_,_,_,m,g,r=>⟨m,r,.refl ..,fun _ x=>x⟩
 |a::as,c,ha,k,l,m,g,r=>by
  have hd:=me k.op goal a
  have l1:Le (condC c goal a).blks F:=(dI as hd.1.opn).le.trans l
  have t:=ix k.op (yF k.blk (ha a List.mem_cons_self) r (x:=goal) (y:=c.blks.length) l1)
  have r1:=(r.wr k.three (.bool (bK g a))).tick
  have k1:MG c.regs.length 2 m (tick (wr m c.regs.length (.bool (bK g a)))):=(MG.wr m _ (.inr (Nat.le_refl _))).trans (.tick _ _)
  have kc:Cg (condC c goal a):=⟨ltr k.three hd.1.regs,k.rg,hd.1.opn⟩
  rw[List.any_cons]
  revert t r1 k1
  generalize bK g a=b
  intro t r1 k1
  induction b with
  |true=>exact⟨_,r1,k1.mono (Nat.le_refl _) (by simp only[List.length_cons];exact lin [_] .e (.n 2) (.m 2 (.a (.v 0) (.n 1))) rfl),t⟩
  |false=>
   obtain⟨m2,r2,k2,e2⟩:=kW as (fun q h=>ha q (List.mem_cons_of_mem _ h)) kc l _ g r1
   have t:GoC F c m (condC c goal a) _:=t.to rfl hd.2
   refine⟨m2,r2,(k1.trans (k2.mono hd.1.regs (Nat.le_refl _))).mono (Nat.le_refl _) (by simp only[List.length_cons];exact lin [_] .e (.a (.n 2) (.m 2 (.v 0))) (.m 2 (.a (.v 0) (.n 1))) rfl),?_⟩
   revert e2
   cases as.any (bK g) with
   |true=>exact fun e2=>t.go e2
   |false=>exact fun e2=>t.thn e2
theorem swT{num:Nat}{as1 as2:List Ask}{df:Dfl}(k:Cg c)(h1:∀a∈as1,a.ok)(h2:∀a∈as2,a.ok)(l:Le (swIn c num as1 as2 df).blks F){m:MS}{g:RS}(r:MR m g):
  ∃m1,MR m1 g∧MG c.regs.length (1+2*as1.length+2*as2.length) m m1∧Go F c m (hF c (qi g as1 as2 df)) [] m1:=by
 have hh:=(jl k.op num).1
 have kh:Cg (swHead c num):=⟨k.three,k.rg,hh.opn⟩
 have g1:=dI (goal:=c.blks.length) as1 hh.opn
 have k1:Cg (condsC (swHead c num) c.blks.length as1):=⟨ltr k.three g1.regs,fun p hp=>by rw[rgH (dm _ as1 _)];exact k.rg p hp,g1.opn⟩
 have g2:=dI (goal:=b1 c) as2 g1.opn
 have lt:Le (a9 c num as1 as2).blks F:=(aw g2.opn _).trans l
 have l1:Le (condsC (swHead c num) c.blks.length as1).blks F:=g2.le.trans lt
 have st:∀ {m':MS} {b:Nat} {xs:List V},Go F (swHead c num) m b xs m'→Go F c m b xs m':=fun h=>ix k.op (ix k.blk.op (ix k.blk.blk.op h))
 obtain⟨m1,r1,q1,e1⟩:=kW as1 h1 kh l1 m g r
 obtain⟨m2,r2,q2,e2⟩:=kW as2 h2 k1 lt m1 g r1
 have q12:=q1.trans (q2.mono g1.regs (Nat.le_refl _))
 unfold qi
 revert e1
 cases as1.any (bK g) with
 |true=>exact fun e1=>⟨m1,r1,q1.mono (Nat.le_refl _) (lin [_,_] .e (.m 2 (.v 0)) (.a (.a (.n 1) (.m 2 (.v 0))) (.m 2 (.v 1))) rfl),st e1⟩
 |false=>
  intro e1
  revert e2
  cases as2.any (bK g) with
  |true=>exact fun e2=>⟨m2,r2,q12.mono (Nat.le_refl _) (lin [_,_] .e (.a (.m 2 (.v 0)) (.m 2 (.v 1))) (.a (.a (.n 1) (.m 2 (.v 0))) (.m 2 (.v 1))) rfl),st (e1.go e2)⟩
  |false=>exact fun e2=>⟨_,r2.tick,(q12.trans (.tick _ m2)).mono (Nat.le_refl _) (lin [_,_] .e (.a (.a (.m 2 (.v 0)) (.m 2 (.v 1))) (.n 1)) (.a (.a (.n 1) (.m 2 (.v 0))) (.m 2 (.v 1))) rfl),st ((e1.thn e2).go (fq g2.opn l m2))⟩
theorem Ee{c9 c12:Cst}{num:Nat}{as1 as2:List Ask}{df:Dfl}{f:Bool}{fy fz:RS→RS×Out}{uy uz:Nat}(k:Cg c)(h1:∀a∈as1,a.ok)(h2:∀a∈as2,a.ok)(gy:Gr (swIn c num as1 as2 df) c9)(gz:Gr (swMid c c9 f) c12)(lf:Le (swEnd c c12).blks F)
  (ey:∀k s,(k,s)∈o→aB (swIn c num as1 as2 df) k=aB c k∧aE (swIn c num as1 as2 df) k=aE c k) (ez:∀k s,(k,s)∈(num,false)::o→aB (swMid c c9 f) k=aB (swIn c num as1 as2 df) k∧aE (swMid c c9 f) k=aE (swIn c num as1 as2 df) k)
  (en:aB (swIn c num as1 as2 df) num=b2 c) (ihy:gA F ((num,false)::o) (swIn c num as1 as2 df) c9 fy uy) (ihz:gA F ((num,false)::o) (swMid c c9 f) c12 fz uz):
  gA F o c (swEnd c c12) (fun g=>let r:RS×Out:=match qi g as1 as2 df with
   | .no=>(g,.no)
   | .zero=>falls f fz (fy g)
   | .one=>fz g
   (r.1,i8 num r.2)) (3+2*as1.length+2*as2.length+uy+uz):=by
 intro m g r
 have hd:=pv k.op num as1 as2 df
 have hm:=hd.mid gy (jmp (js f (b1 c) (b2 c)))
 have e2:Em c12 (b2 c):=gz.em hm.2.2
 have lz:=(aw gz.opn (jmp (b2 c))).trans lf
 have l9:Le (close c9 (jmp (js f (b1 c) (b2 c)))).blks F:=gz.le.trans lz
 have li:Le (swIn c num as1 as2 df).blks F:=gy.le.trans ((aw gy.opn _).trans l9)
 have ce:cur (swEnd c c12)=[]:=(e2.at _).2
 have re:c.regs.length≤(swMid c c9 f).regs.length:=hm.1.regs
 obtain⟨m1,r1,k1,t⟩:=swT k h1 h2 li r
 have fin:∀ {g1:RS} {out:Out} {m2:MS} {u:Nat},MR m2 g1→MG c.regs.length u m m2→u≤3+2*as1.length+2*as2.length+uy+uz→
   (match out with | .no=>Go F c m (b2 c) [] m2 | .brk j=>(∃s,(j,s)∈(num,false)::o)∧Go F c m (aB (swIn c num as1 as2 df) j) [] m2 | .cnt j=>(j,true)∈(num,false)::o∧Go F c m (aE (swIn c num as1 as2 df) j) [] m2)→
   ∃m',MR m' g1∧MG c.regs.length (3+2*as1.length+2*as2.length+uy+uz) m m'∧Ends F o c (swEnd c c12) m m' (i8 num out):=fun {g1 out m2 u} r2 k2 hu e=>by
  refine⟨m2,r2,k2.mono (Nat.le_refl _) hu,?_⟩
  induction out with
  |no=>exact Go.to e rfl ce
  |brk j=>
   obtain⟨⟨s,hs⟩,e⟩:=e
   by_cases h:j=num
   ·subst h
    rw[show i8 j (.brk j) = .no from if_pos rfl]
    rw[en] at e
    exact e.to rfl ce
   ·rw[show i8 num (.brk j) = .brk j from if_neg h]
    have hs':(j,s)∈o:=(List.mem_cons.mp hs).elim (fun q=>absurd (congrArg Prod.fst q) h) id
    rw[(ey j s hs').1] at e
    exact⟨⟨s,hs'⟩,e⟩
  |cnt j=>
   obtain⟨hs,e⟩:=e
   have hs':(j,true)∈o:=(List.mem_cons.mp hs).elim (fun q=>Bool.noConfusion (congrArg Prod.snd q)) id
   rw[(ey j true hs').2] at e
   exact⟨hs',e⟩
 have two:∀ {m1:MS} {g:RS} {u:Nat},MR m1 g→MG c.regs.length u m m1→u+uz+1≤3+2*as1.length+2*as2.length+uy+uz→GoC F c m (swMid c c9 f) m1→
   ∃m',MR m' (fz g).1∧MG c.regs.length (3+2*as1.length+2*as2.length+uy+uz) m m'∧Ends F o c (swEnd c c12) m m' (i8 num (fz g).2):=fun {m1 g u} r1 k1 hu t=>by
  obtain⟨m2,r2,k2,e2⟩:=ihz m1 g r1
  have k12:=k1.trans (k2.mono re (Nat.le_refl _))
  revert e2
  cases (fz g).2 with
  |no=>exact fun e2=>fin (out:= .no) r2.tick (k12.trans (.tick _ m2)) (lin [_,_,_,_,_] (.c 1 (.a (.a (.v 0) (.v 1)) (.n 1)) (.a (.a (.a (.a (.n 3) (.m 2 (.v 2))) (.m 2 (.v 3))) (.v 4)) (.v 1)) .e) (.a (.a (.v 0) (.v 1)) (.n 1)) (.a (.a (.a (.a (.n 3) (.m 2 (.v 2))) (.m 2 (.v 3))) (.v 4)) (.v 1)) rfl hu) ((t.thn e2).go (fq gz.opn lf m2))
  |brk j=>exact fun⟨⟨s,hs⟩,e2⟩=>fin (out:= .brk j) r2 k12 (B9 hu) ⟨⟨s,hs⟩,t.go (by rw[(ez j s hs).1] at e2;exact e2)⟩
  |cnt j=>exact fun⟨hs,e2⟩=>fin (out:= .cnt j) r2 k12 (B9 hu) ⟨hs,t.go (by rw[(ez j true hs).2] at e2;exact e2)⟩
 dsimp only
 revert t
 cases qi g as1 as2 df with
 |no=>exact fun t=>fin (out:= .no) r1 k1 (lin [_,_,_,_] .e (.a (.a (.n 1) (.m 2 (.v 0))) (.m 2 (.v 1))) (.a (.a (.a (.a (.n 3) (.m 2 (.v 0))) (.m 2 (.v 1))) (.v 2)) (.v 3)) rfl) t
 |one=>exact fun t=>two r1 k1 (lin [_,_,_,_] .e (.a (.a (.a (.a (.n 1) (.m 2 (.v 0))) (.m 2 (.v 1))) (.v 2)) (.n 1)) (.a (.a (.a (.a (.n 3) (.m 2 (.v 0))) (.m 2 (.v 1))) (.v 3)) (.v 2)) rfl) (t.to rfl hm.2.1)
 |zero=>
  intro t
  have t:GoC F c m (swIn c num as1 as2 df) m1:=t.to rfl hd.cur
  obtain⟨m2,r2,k2,e2⟩:=ihy m1 g r1
  have k12:=k1.trans (k2.mono hd.g.regs (Nat.le_refl _))
  dsimp only
  revert e2 r2
  generalize fy g=x
  obtain⟨g2,out⟩:=x
  intro r2 e2
  induction out with
  |no=>
   have k3:=k12.trans (.tick _ m2)
   have e2:GoC F (swIn c num as1 as2 df) m1 c9 m2:=e2
   have j:=fq gy.opn l9 m2
   cases f with
   |true=>exact two r2.tick k3 (lin [_,_,_,_] .e (.a (.a (.a (.a (.a (.a (.n 1) (.m 2 (.v 0))) (.m 2 (.v 1))) (.v 2)) (.n 1)) (.v 3)) (.n 1)) (.a (.a (.a (.a (.n 3) (.m 2 (.v 0))) (.m 2 (.v 1))) (.v 2)) (.v 3)) rfl) ((t.thn e2).go j |>.to rfl hm.2.1)
   |false=>exact fin (out:= .no) r2.tick k3 (lin [_,_,_,_] .e (.a (.a (.a (.a (.n 1) (.m 2 (.v 0))) (.m 2 (.v 1))) (.v 2)) (.n 1)) (.a (.a (.a (.a (.n 3) (.m 2 (.v 0))) (.m 2 (.v 1))) (.v 2)) (.v 3)) rfl) ((t.thn e2).go j)
  |brk j=>
   obtain⟨hs,e2⟩:=e2
   cases f<;>exact fin (out:= .brk j) r2 k12 Ha ⟨hs,t.go e2⟩
  |cnt j=>
   obtain⟨hs,e2⟩:=e2
   cases f<;>exact fin (out:= .cnt j) r2 k12 Ha ⟨hs,t.go e2⟩
end
section
variable{F:Bl}
theorem Keeps.eq{c c':Cst}{a b a' b':Nat}(k:Keeps c c' a b a' b'){many:Nat}{o:List (Nat×Bool)}(s:St1 many c o a b):∀j t,(j,t)∈o→aB c' j=aB c j∧aE c' j=aE c j:=fun j t h=>jw (k.loops j (s.low j t h))
theorem qF{o:List (Nat×Bool)}{c:Cst}(k:Cg c){t:Nat}(l:Le (endB c (jmp t)).blks F)(m:MS):Go F c m t [] (tick m):=fq k.op ((Le.snoc _ _).trans l) m
set_option tactic.hygienic true in
mutual
theorem Row.sim(many:Nat):∀(r:Row) (o:List (Nat×Bool)) (a b a' b':Nat) (c:Cst),r.wf many o a b a' b'→St1 many c o a b→Cg c→Le (r.c c).blks F→gA F o c (r.c c) r.run r.fuel
 | .print p,o,a,b,a',b',c,h,s,k,l=>fun m g r=>by
  exact⟨_,r.pr _,.pr _ m _,bA k.op l (oN ((k.rg p h.1).symm▸(r.cells p h.1)))⟩
 | .add p v,o,a,b,a',b',c,h,s,k,l=>fun m g r=>by
  have hp:=k.rg p h.1
  have gx:=(Gr.refl k.op).fresh ac (S "binary") [S "+",reg (rg c p),cOp ac (.int (Int.ofNat v)),ac]
  have s1:GoC F c m (fresh c ac (S "binary") [S "+",reg (rg c p),cOp ac (.int (Int.ofNat v)),ac]) (wr m c.regs.length (.int (val g p+Int.ofNat v))):=
   bA (c:=newReg c ac) k.op ((kU gx.opn _).trans l) (kz (hp.symm▸dt (r.cells p h.1)) (dM _))
  exact⟨_,(r.wr k.three _).add (p:=p) v,(MG.wr m _ (.inr (Nat.le_refl _))).trans (.wr _ _ (.inl h.1)),s1.thn (bA gx.opn l (by rw[hp];exact c6 (dt (aM ..))))⟩
 | .jump true j,o,a,b,a',b',c,h,s,k,l=>fun m g r=>by
  obtain⟨⟨t,ht,_⟩,_⟩:=h
  exact⟨_,r.tick,.tick _ m,⟨t,ht⟩,qF (o:=o) k l m⟩
 | .jump false j,o,a,b,a',b',c,h,s,k,l=>fun m g r=>by
  obtain⟨⟨t,ht,ht2⟩,_⟩:=h
  exact⟨_,r.tick,.tick _ m,ht2 rfl▸ht,qF (o:=o) k l m⟩
 | .ite q y z,o,a,b,a',b',c,h,s,k,l=>by
  obtain⟨hq,a1,b1',hy,hz⟩:=h
  have hd:=jx k.op q.op q.p q.k
  have k0:Keeps c (ifHead c q.op q.p q.k) a b a b:= .same _ _ rfl rfl
  have s1:=s.next k0
  have c1:=k.next s k0 hd.g
  have gy:=y.gr c1.op
  have ky:=y.keeps many o a b a1 b1' (ifHead c q.op q.p q.k) hy
  have hm:=hd.mid gy (jmp (b2 c))
  have km:Keeps c (ifMid c (y.c (ifHead c q.op q.p q.k))) a b a1 b1':=(k0.trans ky).trans (.same _ _ rfl rfl)
  have s2:=s.next km
  have c2:=k.next s km hm.1
  have gz:=z.gr c2.op
  have l1:Le (z.c (ifMid c (y.c (ifHead c q.op q.p q.k)))).blks F:=(aw gz.opn (jmp (b2 c))).trans l
  have l2:Le (y.c (ifHead c q.op q.p q.k)).blks F:=(aw gy.opn (jmp (b2 c))).trans (gz.le.trans l1)
  exact AS k hq gy gz l (k0.eq s) (km.eq s) (Rows.sim many y o a b a1 b1' _ hy s1 c1 l2) (Rows.sim many z o a1 b1' a' b' _ hz s2 c2 l1)
 | .loop .for_ num x most y,o,a,b,a',b',c,h,s,k,l=>by
  obtain⟨ha,hb,hm,_,hy⟩:=h
  have g0:=(Gr.refl k.op).begin x (cOp ac (.int 0))
  have hd:=uS k.op num x most
  have k0:=iD c num x most ha hb
  have s1:St1 many (for0 c num x most) ((num,true)::o) (num+1) (x+2):=s.push k0 (bj ..) (fun _=>⟨_,rfl⟩) ha
  have c1:=k.next s k0 (g0.trans hd.g)
  have gy:=y.gr c1.op
  have ky:=y.keeps many _ _ _ _ _ (for0 c num x most) hy
  have hr:rg (y.c (for0 c num x most)) x=c.regs.length:=(kB (ky.held x Di) (lJ c num x most).1).2.trans (lJ c num x most).2
  have hm2:=hd.fin gy .none (jmp (b2 (beginL c x (cOp ac (.int 0)))))
  have gu:=(Gr.refl hm2.1.opn).upd x 1
  have l2:Le (y.c (for0 c num x most)).blks F:=(aw gy.opn (jmp (b2 (beginL c x (cOp ac (.int 0)))))).trans (gu.le.trans ((aw gu.opn _).trans l))
  have hr0:rg (beginL c x (cOp ac (.int 0))) x=c.regs.length:=iH c x
  exact BA (cb:=for0 c num x most) k g0 (mj ..) (fun l m=>bA (c:=take c x) k.op l (c6 (dM 0))) hd (by rw[←hr0];rfl) gy hr l (k0.eq s) rfl (bj ..) (Rows.sim many y _ _ _ _ _ _ hy s1 c1 l2)
 | .loop .ring num x most y,o,a,b,a',b',c,h,s,k,l=>by
  obtain⟨ha,hb,hm,_,hy⟩:=h
  have hd:=lN k.op num x most
  have k0:=f7 c num x most ha hb
  have s1:St1 many (ring0 c num x most) ((num,true)::o) (num+1) (x+2):=s.push k0 (bj ..) (fun _=>⟨_,rfl⟩) ha
  have c1:=k.next s k0 (((Gr.refl k.op).fresh _ _ _).trans hd.g)
  have gy:=y.gr c1.op
  have hm2:=hd.fin gy .none (jmp (b2 (aa c)))
  have gu:=(Gr.refl hm2.1.opn).put (dP c.regs.length)
  have l2:Le (y.c (ring0 c num x most)).blks F:=(aw gy.opn (jmp (b2 (aa c)))).trans (gu.le.trans ((aw gu.opn _).trans l))
  exact yn k gy l (k0.eq s) (Rows.sim many y _ _ _ _ _ _ hy s1 c1 l2)
 | .loop .row num x most y,o,a,b,a',b',c,h,s,k,l=>by
  obtain⟨ha,hb,hm,_,hy⟩:=h
  have hd:=oK k.op num x
  have k0:=iu c num x ha hb
  have s1:St1 many (cg c num x) ((num,true)::o) (num+1) (x+2):=s.push k0 (bj ..) (fun _=>⟨_,rfl⟩) ha
  have c1:=k.next s k0 ((((Gr.refl k.op).fresh _ _ _).fresh _ _ _).trans hd.g)
  have gy:=y.gr c1.op
  have hm2:=hd.fin gy .none (jmp (b2 (aa (am c))))
  have gu:=(Gr.refl hm2.1.opn).put (dP (c.regs.length+1))
  have l2:Le (y.c (cg c num x)).blks F:=(aw gy.opn (jmp (b2 (aa (am c))))).trans (gu.le.trans ((aw gu.opn _).trans l))
  exact Aw k gy l (k0.eq s) (Rows.sim many y _ _ _ _ _ _ hy s1 c1 l2)
 | .switch num x most as1 y f as2 z df,o,a,b,a',b',c,h,s,k,l=>by
  obtain⟨ha,hb,h1,h2,_,_,a1,b1',hy,hz⟩:=h
  have hd:=pv k.op num as1 as2 df
  have k0:Keeps c (swIn c num as1 as2 df) a b (num+1) (x+2):=(Keeps.loop (jz ..) (dN ..) ha).weak (Au hb)
  have el:ag (Int.ofNat num) (swIn c num as1 as2 df).loops=some (.tup [nat (b2 c),.none]):=by rw[dN];exact bj ..
  have s1:St1 many (swIn c num as1 as2 df) ((num,false)::o) (num+1) (x+2):=s.push k0 el (fun q=>by cases q) ha
  have c1:=k.next s k0 hd.g
  have gy:=y.gr c1.op
  have ky:=y.keeps many _ _ _ _ _ (swIn c num as1 as2 df) hy
  have hm:=hd.mid gy (jmp (js f (b1 c) (b2 c)))
  have km:Keeps (swIn c num as1 as2 df) (swMid c (y.c (swIn c num as1 as2 df)) f) (num+1) (x+2) a1 b1':=ky.trans (.same _ _ rfl rfl)
  have s2:=s1.next km
  have c2:=k.next s (k0.trans km) hm.1
  have gz:=z.gr c2.op
  have l1:Le (z.c (swMid c (y.c (swIn c num as1 as2 df)) f)).blks F:=(aw gz.opn (jmp (b2 c))).trans l
  have l2:Le (y.c (swIn c num as1 as2 df)).blks F:=(aw gy.opn (jmp (js f (b1 c) (b2 c)))).trans (gz.le.trans l1)
  exact Ee k h1 h2 gy gz l (k0.eq s) (km.eq s1) (by unfold aB;rw[el];rfl) (Rows.sim many y _ _ _ _ _ _ hy s1 c1 l2) (Rows.sim many z _ _ _ _ _ _ hz s2 c2 l1)
theorem Rows.sim(many:Nat):∀(r:Rows) (o:List (Nat×Bool)) (a b a' b':Nat) (c:Cst),r.wf many o a b a' b'→St1 many c o a b→Cg c→Le (r.c c).blks F→gA F o c (r.c c) r.run r.fuel
 | .nil,o,a,b,a',b',c,h,s,k,l=>fun m g r=>⟨m,r,.refl ..,fun _ x=>x⟩
 | .cons r rs,o,a,b,a',b',c,h,s,k,l=>by
  obtain⟨a1,b1',h1,h2⟩:=h
  have g1:=r.gr k.op
  have k1:=r.keeps many o a b a1 b1' c h1
  have c1:=k.next s k1 g1
  have g2:=rs.gr c1.op
  have i1:=Row.sim many r o a b a1 b1' c h1 s k (g2.le.trans l)
  have i2:=Rows.sim many rs o a1 b1' a' b' (r.c c) h2 (s.next k1) c1 l
  intro m g x
  obtain⟨m1,r1,q1,e1⟩:=i1 m g x
  unfold Rows.run Rows.fuel
  revert r1 e1
  generalize r.run g=p
  obtain⟨g1,out⟩:=p
  intro r1 e1
  induction out with
  |no=>
   obtain⟨m2,r2,q2,e2⟩:=i2 m1 g1 r1
   exact⟨m2,r2,q1.trans (q2.mono ‹Gr c (r.c c)›.regs (Nat.le_refl _)),e2.pre e1 (k1.eq s)⟩
  |brk j=>exact⟨m1,r1,q1.mono (Nat.le_refl _) EB,e1⟩
  |cnt j=>exact⟨m1,r1,q1.mono (Nat.le_refl _) EB,e1⟩
end
end
theorem Runs.less{F:Bl}{b:Nat}{xs:List V}{m mf:MS}(h:Runs F b xs m mf):mf.L+1≤m.L:=by
 induction h with
 |ins _ s _ ih=>have:=s.grows.1;exact EV ih this
 | @jmp b a xs m mf _ _ ih=>have:(tick m).L=m.L-1:=rfl;exact EV ih this
 | @br b k a a' c xs m mf _ _ _ ih=>have:(tick m).L=m.L-1:=rfl;exact EV ih this
 | @ret b xs m _=>have:(tick m).L=m.L-1:=rfl;omega
theorem Steps.snoc{is:List V}{m m1 m2:MS}{i:V}(h:Steps is m m1)(s:Step i m1 m2):Steps (is++[i]) m m2:=by
 induction h with
 |nil m=>exact .cons s (.nil _)
 |cons h _ ih=>exact .cons h (ih s)
theorem gH{a b:String}{r r':List V}(h:V.tup (S a::r) = .tup (S b::r')):Str.ofString a=Str.ofString b:=by
 injection h with h;injection h with h _;injection h
theorem sj:Str.ofString "return"≠Str.ofString "jump":=by intro h;cases h
theorem sb:Str.ofString "return"≠Str.ofString "branch":=by intro h;cases h
theorem jb:Str.ofString "jump"≠Str.ofString "branch":=by intro h;cases h
theorem zO{ks:List Nat}{t t':V}(h:Led ks t t'){a:Nat}(e:t=jmp a):t'=jmp (pos ks a):=by
 induction h with
 |ret=>exact absurd (gH e) sj
 |jmp b=>rw[uM e]
 |br r b c=>exact absurd (gH e.symm) jb
theorem DA{ks:List Nat}{t t':V}(h:Led ks t t'){r a b:Nat}(e:t=brT r a b):t'=brT r (pos ks a) (pos ks b):=by
 induction h with
 |ret=>exact absurd (gH e) sb
 |jmp b=>exact absurd (gH e) jb
 |br r b c=>obtain⟨rfl,rfl,rfl⟩:=tR e;rfl
theorem Bo{ks:List Nat}{t t':V}(h:Led ks t t')(e:t=cM):t'=cM:=by
 induction h with
 |ret=>rfl
 |jmp b=>exact absurd (gH e.symm) sj
 |br r b c=>exact absurd (gH e.symm) sb
theorem NewB.at{c:Cst}{ks bs:List Nat}{l:List V}(n:NewB c ks bs l):∀(i b:Nat),bs[i]? = some b→∃xs t t',c.blks[b]? = some (xs,t)∧Led ks t t'∧l[i]? = some (.lst [.lst xs,t']):=by
 induction n with
 |nil=>exact fun i b e=>noS (List.getElem?_nil.symm.trans e)
 |cons h l r ih=>
  intro i b e
  cases i with
  |zero=>cases e;exact⟨_,_,_,h,l,rfl⟩
  |succ i=>exact ih i b e
theorem NewB.len{c:Cst}{ks bs:List Nat}{l:List V}(n:NewB c ks bs l):∀(i:Nat) (v:V),l[i]? = some v→∃(b:Nat) (xs:List V) (t t':V),c.blks[b]? = some (xs,t)∧v = .lst [.lst xs,t']:=by
 induction n with
 |nil=>exact fun i b e=>noS (List.getElem?_nil.symm.trans e)
 |cons h l r ih=>
  intro i v e
  cases i with
  |zero=>cases e;exact⟨_,_,_,_,h,rfl⟩
  |succ i=>exact ih i v e
theorem Runs.mrun{c:Cst}{ks:List Nat}{bl:List V}(nb:NewB c ks ks bl)(cl:∀b∈ks,∀(xs:List V) (t:V) (b':Nat),c.blks[b]? = some (xs,t)→Tgt t b'→b'∈ks){b:Nat}{xs:List V}{m mf:MS}(h:Runs c.blks b xs m mf):
  ∀m0,b∈ks→Steps xs m0 m→0≤mf.L→MRun bl (pos ks b) m0 mf:=by
 have get:∀ {b:Nat} {xs:List V} {t:V},b∈ks→c.blks[b]? = some (xs,t)→∃t',Led ks t t'∧bl[pos ks b]? = some (.lst [.lst xs,t']):=fun hb e=>by
  obtain⟨xs',t,t',h1,h2,h3⟩:=nb.at _ _ (yp hb).2
  rw[e] at h1;cases h1
  exact⟨t',h2,h3⟩
 have lo:∀ {xs:List V} {m0 m m1:MS},Steps xs m0 m→m1.L+1≤m.L→0≤m1.L→0<m0.L:=fun s h1 h2=>by have:=s.grows.1;omega
 induction h with
 |ins _ s _ ih=>exact fun m0 hb hs hl=>ih m0 hb (hs.snoc s) hl
 | @jmp b a xs m mf e r ih=>
  intro m0 hb hs hl
  obtain⟨t',h1,h2⟩:=get hb e
  rw[zO h1 rfl] at h2
  have hl':mf.L+1≤m.L:=by have:=r.less;have:(tick m).L=m.L-1:=rfl;omega
  exact .jump (lo hs hl' hl) h2 hs (ih _ (cl b hb _ _ a e (.inl rfl)) (.nil _) hl)
 | @br b k a a' x xs m mf e hk r ih=>
  intro m0 hb hs hl
  obtain⟨t',h1,h2⟩:=get hb e
  rw[DA h1 rfl] at h2
  have hl':mf.L+1≤m.L:=by have:=r.less;have:(tick m).L=m.L-1:=rfl;omega
  refine .br (c:=x) (lo hs hl' hl) h2 hs hk ?_
  have:=ih _ (cl b hb _ _ _ e (.inr ⟨k,a,a',rfl,by cases x;exact .inr rfl;exact .inl rfl⟩)) (.nil _) hl
  induction x<;>exact this
 | @ret b xs m e=>
  intro m0 hb hs hl
  obtain⟨t',h1,h2⟩:=get hb e
  rw[Bo h1 rfl] at h2
  exact .done (lo (m1:=tick m) hs (by show m.L-1+1≤m.L;omega) hl) h2 hs
def PO(ps:List V):Prop:=∃L:List (List Int),ps=L.map fun is=> .lst (is.map V.int)
theorem PO.snoc{ps:List V}(h:PO ps)(is:List Int):PO (ps++[.lst (is.map V.int)]):=by
 obtain⟨L,rfl⟩:=h;exact⟨L++[is],by simp⟩
theorem Step.po{i:V}{m m':MS}(h:Step i m m')(p:PO m.ps):PO m'.ps:=by
 induction h with
 | @print1 L ps cs r a _=>exact p.snoc [a]
 | @print2 L ps cs r r' a a' _ _=>exact p.snoc [a,a']
 |_=>exact p
theorem Runs.po{F:Bl}{b:Nat}{xs:List V}{m mf:MS}(h:Runs F b xs m mf):PO m.ps→PO mf.ps:=by
 induction h with
 |ins _ s _ ih=>exact fun p=>ih (s.po p)
 |jmp _ _ ih=>exact ih
 |br _ _ _ ih=>exact ih
 |ret _=>exact id
theorem rD:∀is:List Int,pysOf (is.map V.int)=some (is.map PyData.int)
 |[]=>rfl
 |i::is=>by
  show(pysOf (is.map V.int)).map (PyData.int i :: ·)=_
  rw[rD is];rfl
theorem xy:∀L:List (List Int),pysOf (L.map fun is:List Int=>V.lst (is.map V.int))=some (L.map fun is:List Int=>PyData.list (is.map PyData.int))
 |[]=>rfl
 |is::L=>by
  show(match (pysOf (is.map V.int)).map PyData.list with|some d=>(pysOf (L.map fun is:List Int=>V.lst (is.map V.int))).map (d :: ·)|none=>none)=_
  rw[rD is,xy L];rfl
theorem wF:∀L:List (List Int),PyData.canLayAll0 (L.map fun is:List Int=>PyData.list (is.map PyData.int))=true∧PyData.depthAll (L.map fun is:List Int=>PyData.list (is.map PyData.int))≤1
 |[]=>⟨rfl,Nat.zero_le _⟩
 |is::L=>by
  obtain⟨h1,h2⟩:=wF L
  simp only[List.map_cons,PyData.canLayAll0,PyData.depthAll,PyData.canLay0,PyData.depth,ke_canLayAll0,ke_depthAll,h1]
  exact⟨rfl,(Nat.max_le.mpr ⟨lin [] .e (.a (.n 0) (.n 1)) (.n 1) rfl,lin [_] (.c 1 (.v 0) (.n 1) .e) (.v 0) (.n 1) rfl h2⟩)⟩
noncomputable def g0:RS:=⟨[(Int.ofNat 0,.int 0),(Int.ofNat 1,.int 1),(Int.ofNat 2,.int 3)],[]⟩
theorem DT(l:Bl):Le l (l.map finB):=fun b p e=>⟨finB p,by rw[List.getElem?_map,e];rfl,fun n=>by
 obtain⟨xs,t⟩:=p
 cases t<;>first|rfl|exact absurd rfl n,[],(List.append_nil _).symm⟩
theorem cg_c3:Cg c3:=⟨by decide +kernel,fun p hp=>by
 have:p=0∨p=1∨p=2:=Ah hp
 rcases this with rfl|rfl|rfl<;>rfl,by unfold Op;kernel_rfl⟩
theorem Bb{F:Bl}{c c':Cst}{m m':MS}{out:Out}(h:Ends F [] c c' m m' out):out = .no∧GoC F c m c' m':=by
 induction out with
 |no=>exact⟨rfl,h⟩
 |brk j=>obtain⟨⟨s,hs⟩,_⟩:=h;cases hs
 |cnt j=>cases h.1
theorem za{ks:List Nat}(h:ks.Pairwise (· ≤ ·))(z:0∈ks):pos ks 0=0:=by
 induction ks with
 |nil=>cases z
 |cons k r=>
  have:k=0:=by
   rcases List.mem_cons.mp z with q|q
   ·exact q.symm
   ·have:=(List.pairwise_cons.mp h).1 0 q;omega
  subst this;rfl
theorem Gj:MR (wr (wr (wr ⟨1500,[],[]⟩ 0 (.int 0)) 1 (.int 1)) 2 (.int 3)) g0:=⟨fun p hp=>by
 have:p=0∨p=1∨p=2:=Ah hp
 rcases this with rfl|rfl|rfl<;>rfl,rfl⟩
theorem vO(rs:Rows){many a' b':Nat}(h:rs.wf many [] 0 3 a' b')(hf:rs.fuel≤1400):∃m',m'.ps=(rs.run g0).1.ps∧(rs.run g0).2 = .no∧PO m'.ps∧0≤m'.L∧Runs (bY (cQ rs)).blks 0 [] ⟨1500,[],[]⟩ m':=by
 have g3:=rs.gr cg_c3.op
 have le:Le (close (rs.c c3) cM).blks (bY (cQ rs)).blks:=(Le.snoc _ _).trans (DT _)
 have lr:=(aw g3.opn cM).trans le
 have l3:=g3.le.trans lr
 have o1:=(Gr.refl (show Op c0 from rfl)).begin 0 (cOp ac (.int 0))
 have o2:=o1.begin 1 (cOp ac (.int 1))
 have l2:=(((Gr.refl o2.opn).begin 2 (cOp ac (.int 3))).le).trans l3
 have l1:=(((Gr.refl o1.opn).begin 1 (cOp ac (.int 1))).le).trans l2
 have s1:GoC (bY (cQ rs)).blks c0 ⟨1500,[],[]⟩ (beginL c0 0 (cOp ac (.int 0))) _:=bA (c:=take c0 0) rfl l1 (c6 (dM 0))
 have s2:GoC (bY (cQ rs)).blks (beginL c0 0 (cOp ac (.int 0))) (wr ⟨1500,[],[]⟩ 0 (.int 0)) (beginL (beginL c0 0 (cOp ac (.int 0))) 1 (cOp ac (.int 1))) _:=bA (c:=take (beginL c0 0 (cOp ac (.int 0))) 1) o1.opn l2 (c6 (dM 1))
 have s3:GoC (bY (cQ rs)).blks (beginL (beginL c0 0 (cOp ac (.int 0))) 1 (cOp ac (.int 1))) (wr (wr ⟨1500,[],[]⟩ 0 (.int 0)) 1 (.int 1)) c3 _:=bA (c:=take (beginL (beginL c0 0 (cOp ac (.int 0))) 1 (cOp ac (.int 1))) 2) o2.opn l3 (c6 (dM 3))
 obtain⟨m',r',k',e'⟩:=Rows.sim many rs [] 0 3 a' b' c3 h (Cs many) cg_c3 lr _ _ Gj
 obtain⟨e1,e2⟩:=Bb e'
 have go:GoC (bY (cQ rs)).blks c0 ⟨1500,[],[]⟩ (rs.c c3) m':=((s1.thn s2).thn s3).thn e2
 have run:=go _ (.ret (jy g3.opn (by intro q;cases q) le))
 have hL:=k'.fuel
 have e3:(wr (wr (wr ⟨1500,[],[]⟩ 0 (.int 0)) 1 (.int 1)) 2 (.int 3)).L=1497:=rfl
 rw[e3] at hL
 exact⟨tick m',r'.ps,e1,run.po ⟨[],rfl⟩,by show 0≤m'.L-1;omega,run⟩
section
variable{X:CR}{d:Nat}(e:bX)
noncomputable def sN(e:bX)(rs:Rows)(ks:List Nat)(bl:List V):St:=fF e (bY (cQ rs)) (plF ks 0) (.sd [(x "main.f",.ref 22 1)]) bl
theorem By(rs:Rows){a' b':Nat}(hd:20+8*rs.dep≤d)(hb:e.body=eLet3::rs.ts)(h:rs.wf e.many [] 0 3 a' b')(hm:3≤e.many)(hc:rs.cnt≤14)(hnb:rs.nb≤60)(hf:rs.fuel≤1400):∃m' ks bl,
  Ok X d 106 [.ref 17 0,.ref 15 0] (Gl e) (.ref 14 0) (sN e rs ks bl)∧Ok X d 144 [cd,S "main.f"] (mst (af (sN e rs ks bl) (rs.run g0).1) [] []) (.tup [cr,.ref 9 0]) (ao (af (sN e rs ks bl) (rs.run g0).1) m')∧
  m'.ps=(rs.run g0).1.ps∧(rs.run g0).2 = .no∧PO m'.ps:=by
 obtain⟨ks,bl,k1,k2,k3,k4,k5,k6,k7⟩:=zC (X:=X) (d:=d) e rs hd hb h hm hc hnb
 obtain⟨m',h1,h2,h3,h4,h5⟩:=vO rs h hf
 refine⟨m',ks,bl,k7,?_,h1,h2,h3⟩
 have fw:=rs.few e.many [] 0 3 a' b' c3 h
 have rm:=(rs.room (n:=70000) (c:=c3) (B.c3 (lin [_,_] (.c 40 (.v 1) (.n 14) (.c 1 (.v 0) (.m 40 (.v 1)) .e)) (.a (.v 0) (.n 70000)) (.n 80000) rfl hc fw.2))).1
 have ht:tot (bY (cQ rs)).blks≤30000:=by
  have e1:∀l:Bl,tot (l.map finB)=tot l:=fun l=>by
   induction l with
   |nil=>rfl
   |cons p l ih=>show p.1.length+tot (l.map finB)=p.1.length+tot l;rw[ih]
  show tot ((cQ rs).blks.map finB)≤_
  rw[e1]
  show tot ((close (rs.c c3) cM).blks++[([],.none)])≤_
  rw[lS,show tot (close (rs.c c3) cM).blks=tot (rs.c c3).blks from ou ..]
  have:=rm.sz
  exact lin [_,_,_,_,_] (.c 1 (.a (.a (.a (.a (.a (.v 1) (.v 2)) (.v 3)) (.v 4)) (.v 0)) (.n 70000)) (.n 100000) .e) (.v 0) (.n 30000) rfl this
 refine ww (af (sN e rs ks bl) (rs.run g0).1) bl (lin [_,_] (.c 1 (.a (.n 20) (.m 8 (.v 1))) (.v 0) .e) (.n 6) (.v 0) rfl hd) rfl rfl (fun b is t hb=> ?_) (za k4 k5▸h5.mrun k6 k3 ⟨1500,[],[]⟩ k5 (.nil _) h4)
 obtain⟨b',xs,t1,t2,q1,q2⟩:=k6.len b _ hb
 injection q2 with q2
 injection q2 with q2 _
 injection q2 with q2
 subst q2
 have:=o0 q1
 exact lin [_,_] (.c 1 (.v 1) (.n 30000) (.c 1 (.v 0) (.v 1) .e)) (.v 0) (.n 70000) rfl ht this
end
noncomputable def HE:Stmt→PySem.Expr:=let d:=noE;stM d (fun _ _ _=>d) (fun _=>d) (fun o _=>match o with|some e=>e|none=>d) (fun _ _ _=>d) (fun _ _ _ _ _=>d) (fun _ _ _ _=>d) (fun _ _ _ _=>d) (fun _=>d) d d
noncomputable def HL(e:PySem.Expr):List PySem.Expr:=tupleD e [] fun es=>es
noncomputable def cD:=v6 (HE (aY (aG 131) 0))
noncomputable def jR:=v6 (asV (aY (ifB (aY (aG 132) 6)) 0))
noncomputable def lI:=v6 (hd0 (HL (lcE jR)))
noncomputable def kQ(n:String)(v:LV):Rho:=[(".0",.unb),(x n,v)]
section
variable{X:CR}{d:Nat}{st:St}
theorem ju(hd:1≤d)(l:Nat):Ok X d 126 [nat l] st (cG l) st:=Ok.by (by decide +kernel) hd [] id (by kernel_rfl)
theorem jh(hd:1≤d)(k:Int):Ok X d 127 [.int k] st (eC ac (.int k)) st:=Ok.by (by decide +kernel) hd [] id (by kernel_rfl)
theorem sn(hd:2≤d)(a:Ask):Ok X d 128 [cO a] st a.e st:=
 Ok.by (by decide +kernel) (om1 hd) [.call (cG a.p) st,.call (eC ac (.int a.k)) st] (Tn (ju (X:=X) (d:=d-1) (st:=st) (om2 hd) a.p) (Tn (jh (X:=X) (d:=d-1) (st:=st) (om2 hd) a.k) id)) (by kernel_rfl)
theorem oM(hd:2≤d)(l:Nat):Ok X d 129 [.lst [nat l]] st (bF [l]) st:=
 Ok.by (by decide +kernel) (om1 hd) [.call (cG l) st] (Tn (ju (X:=X) (d:=d-1) (st:=st) (om2 hd) l) id) (by kernel_rfl)
theorem z0(hd:2≤d)(l:Nat):Ok X d 129 [.lst [nat l,nat (l+1)]] st (bF [l,l+1]) st:=
 Ok.by (by decide +kernel) (om1 hd) [.call (cG l) st,.call (cG (l+1)) st] (Tn (ju (X:=X) (d:=d-1) (st:=st) (om2 hd) l) (Tn (ju (X:=X) (d:=d-1) (st:=st) (om2 hd) (l+1)) id)) (by kernel_rfl)
theorem HT(hd:1≤d){vs ts ah:List V}(h:Ok X (d-1) 131 [.lst vs] st (.tup ts) st)(l1:ah.length≤100000)(l2:ts.length≤100000):Ok X d 130 [.lst vs,.tup ah] st (cN (ah++ts)) st:=
 Ok.by (by decide +kernel) hd [.call (.tup ts) st] (Tn h (Tn (⟨l1,l2⟩:ah.length≤100000∧ts.length≤100000) id)) (by kernel_rfl)
theorem GC(hd:1≤d){vs ts:List V}(h:Ok X (d-1) 131 [.lst vs] st (.tup ts) st)(l2:ts.length≤100000):Ok X d 130 [.lst vs] st (cN ts) st:=
 Ok.by (by decide +kernel) hd [.call (.tup ts) st] (Tn h (Tn (⟨Nat.zero_le _,l2⟩:0≤100000∧ts.length≤100000) id)) (by kernel_rfl)
theorem lZ(hd:1≤d){vs ts:List V}(h:CompR (asgN 9 (lcT cD)) (fI (evN (Ok X (d-1)) 37) (lcN cD) (lcI cD)) (eF (evN (Ok X (d-1)) 37) (lcN cD) (lcE cD)) (kQ "row" .unb) vs st ts st):Ok X d 131 [.lst vs] st (.tup ts) st:=
 Ok.by (by decide +kernel) hd [.comp 1011 ts st] (Tn h id) (by kernel_rfl)
theorem yS{C:CR}{v t:V}{vs ts:List V}(h:C 132 [v] st t st)(r:CompR (asgN 9 (lcT cD)) (fI (evN C 37) (lcN cD) (lcI cD)) (eF (evN C 37) (lcN cD) (lcE cD)) (kQ "row" .unb) vs st ts st):
  CompR (asgN 9 (lcT cD)) (fI (evN C 37) (lcN cD) (lcI cD)) (eF (evN C 37) (lcN cD) (lcE cD)) (kQ "row" .unb) (v::vs) st (t::ts) st:=
 .take (ρ₀:=kQ "row" (.v v)) (st₁:=st) (by kernel_rfl) ⟨[],evG (P:=true=true∧st=st) ⟨rfl,rfl⟩ (by kernel_rfl)⟩ ⟨[.call t st],evG (P:=C 132 [v] st t st∧t=t∧st=st) ⟨h,rfl,rfl⟩ (by kernel_rfl)⟩ r
theorem nv{C:CR}(h:∀a:Ask,C 128 [cO a] st a.e st):∀as:List Ask,CompR (asgN 9 (lcT lI)) (fI (evN C 33) (lcN lI) (lcI lI)) (eF (evN C 33) (lcN lI) (lcE lI)) (kQ "asked" .unb) (as.map cO) st (as.map Ask.e) st
 |[]=> .nil st
 |a::as=> .take (ρ₀:=kQ "asked" (.v (cO a))) (st₁:=st) (by kernel_rfl) ⟨[],evG (P:=true=true∧st=st) ⟨rfl,rfl⟩ (by kernel_rfl)⟩ ⟨[.call a.e st],evG (P:=C 128 [cO a] st a.e st∧a.e=a.e∧st=st) ⟨h a,rfl,rfl⟩ (by kernel_rfl)⟩ (nv h as)
theorem mQ{C:CR}(h:∀a:Ask,C 128 [cO a] st a.e st)(as:List Ask){vs ts:List V}(f:Bool)(ht:C 131 [.lst vs] st (.tup ts) st):
  eF (evN C 36) (lcN jR) (lcE jR) (kQ "one" (.v (bU as vs f))) st (aP as ts f) st:=
 ⟨[.comp 1024 (as.map Ask.e) st,.call (.tup ts) st],evG (And.intro (nv h as) (And.intro ht (⟨rfl,rfl⟩:aP as ts f=aP as ts f∧st=st))) (by kernel_rfl)⟩
theorem zS(hd:3≤d)(p:Nat):Ok X d 132 [(Row.print p).v] st (Row.print p).t st:=
 Ok.by (by decide +kernel) (om0 hd) [.call (bF [p]) st] (Tn (oM (X:=X) (d:=d-1) (st:=st) (om3 hd) p) id) (by kernel_rfl)
theorem GB(hd:2≤d)(p k:Nat):Ok X d 132 [(Row.add p k).v] st (Row.add p k).t st:=
 Ok.by (by decide +kernel) (om1 hd) [.call (cG p) st,.call (eC ac (nat k)) st] (Tn (ju (X:=X) (d:=d-1) (st:=st) (om2 hd) p) (Tn (jh (X:=X) (d:=d-1) (st:=st) (om2 hd) (Int.ofNat k)) id)) (by kernel_rfl)
theorem D7(hd:1≤d)(br:Bool)(m:Nat):Ok X d 132 [(Row.jump br m).v] st (Row.jump br m).t st:=by
 induction br<;>exact Ok.by (by decide +kernel) (xe hd) [] id (by kernel_rfl)
theorem Fy(hd:3≤d)(a:Ask)(y n:Rows)(hy:Ok X (d-1) 130 [.lst y.vs] st (cN y.ts) st)(hn:Ok X (d-1) 130 [.lst n.vs] st (cN n.ts) st):Ok X d 132 [(Row.ite a y n).v] st (Row.ite a y n).t st:=by
 have q:=sn (X:=X) (d:=d-1) (st:=st) (om3 hd) a
 cases n with
 |nil=>exact Ok.by (by decide +kernel) (om0 hd) [.call a.e st,.call (cN y.ts) st] (Tn q (Tn hy id)) (by kernel_rfl)
 |cons r rs=>exact Ok.by (by decide +kernel) (om0 hd) [.call a.e st,.call (cN y.ts) st,.call (cN (Rows.cons r rs).ts) st] (Tn q (Tn hy (Tn hn id))) (by kernel_rfl)
theorem Gg(hd:3≤d)(num l most:Nat)(b:Rows)(h:Ok X (d-1) 130 [.lst b.vs,.tup [bF [l]]] st (cN (bF [l]::b.ts)) st):Ok X d 132 [(Row.loop .for_ num l most b).v] st (Row.loop .for_ num l most b).t st:=by
 have q:=sn (X:=X) (d:=d-1) (st:=st) (om3 hd) ⟨l,"<",Int.ofNat most⟩
 have q0:=jh (X:=X) (d:=d-1) (st:=st) (om5 hd) 0
 have q1:=jh (X:=X) (d:=d-1) (st:=st) (om5 hd) 1
 have ql:=ju (X:=X) (d:=d-1) (st:=st) (om5 hd) l
 have qs:=oM (X:=X) (d:=d-1) (st:=st) (om3 hd) l
 exact Ok.by (by decide +kernel) (om0 hd) [.call (eC ac (.int 0)) st,.call (Ask.e ⟨l,"<",Int.ofNat most⟩) st,.call (cG l) st,.call (eC ac (.int 1)) st,.call (bF [l]) st,.call (cN (bF [l]::b.ts)) st] (Tn q0 (Tn q (Tn ql (Tn q1 (Tn qs (Tn h id)))))) (by kernel_rfl)
theorem Ef(hd:3≤d)(num l most:Nat)(b:Rows)(h:Ok X (d-1) 130 [.lst b.vs,.tup [bF [l]]] st (cN (bF [l]::b.ts)) st):Ok X d 132 [(Row.loop .ring num l most b).v] st (Row.loop .ring num l most b).t st:=by
 have q1:=jh (X:=X) (d:=d-1) (st:=st) (om5 hd) (Int.ofNat most)
 have qs:=oM (X:=X) (d:=d-1) (st:=st) (om3 hd) l
 exact Ok.by (by decide +kernel) (om0 hd) [.call (bF [l]) st,.call (cN (bF [l]::b.ts)) st,.call (eC ac (nat most)) st] (Tn qs (Tn h (Tn q1 id))) (by kernel_rfl)
theorem GE(hd:3≤d)(num l most:Nat)(b:Rows)(h:Ok X (d-1) 130 [.lst b.vs,.tup [bF [l,l+1]]] st (cN (bF [l,l+1]::b.ts)) st):Ok X d 132 [(Row.loop .row num l most b).v] st (Row.loop .row num l most b).t st:=by
 have qs:=z0 (X:=X) (d:=d-1) (st:=st) (om3 hd) l
 exact Ok.by (by decide +kernel) (om0 hd) [.call (bF [l,l+1]) st,.call (cN (bF [l,l+1]::b.ts)) st] (Tn qs (Tn h id)) (by kernel_rfl)
theorem y9(hd:3≤d)(num l most:Nat)(as1 as2:List Ask)(y:Rows)(f:Bool)(z:Rows)(df:Dfl)(hy:Ok X (d-1) 131 [.lst y.vs] st (.tup y.ts) st)(hz:Ok X (d-1) 131 [.lst z.vs] st (.tup z.ts) st):
  Ok X d 132 [(Row.switch num l most as1 y f as2 z df).v] st (Row.switch num l most as1 y f as2 z df).t st:=by
 have q:=fun a=>sn (X:=X) (d:=d-1) (st:=st) (om3 hd) a
 have k:CompR (asgN 9 (lcT jR)) (fI (evN (Ok X (d-1)) 36) (lcN jR) (lcI jR)) (eF (evN (Ok X (d-1)) 36) (lcN jR) (lcE jR)) (kQ "one" .unb) [bU as1 y.vs f,bU as2 z.vs false] st [aP as1 y.ts f,aP as2 z.ts false] st:=
  .take (ρ₀:=kQ "one" (.v (bU as1 y.vs f))) (st₁:=st) (by kernel_rfl) ⟨[],evG (P:=true=true∧st=st) ⟨rfl,rfl⟩ (by kernel_rfl)⟩ (mQ q as1 f hy)
   (.take (ρ₀:=kQ "one" (.v (bU as2 z.vs false))) (st₁:=st) (by kernel_rfl) ⟨[],evG (P:=true=true∧st=st) ⟨rfl,rfl⟩ (by kernel_rfl)⟩ (mQ q as2 false hz) (.nil st))
 induction df<;>exact Ok.by (by decide +kernel) (om0 hd) [.comp 1024 [aP as1 y.ts f,aP as2 z.ts false] st] (Tn k id) (by kernel_rfl)
end
theorem Row.one(r:Row):1≤r.cnt:=by cases r<;>simp[Row.cnt]<;>exact lin [_,_] .e (.n 1) (.a (.a (.n 1) (.v 0)) (.v 1)) rfl
theorem Rows.ts_len:∀rs:Rows,rs.ts.length≤rs.cnt
 | .nil=>Nat.le_refl _
 | .cons r rs=>by
  have:=rs.ts_len
  have:=r.one
  simp only[Rows.ts,Rows.cnt,List.length_cons];omega
section
variable{X:CR}{st:St}
def yc(C:CR)(st:St)(vs ts:List V):Prop:=CompR (asgN 9 (lcT cD)) (fI (evN C 37) (lcN cD) (lcI cD)) (eF (evN C 37) (lcN cD) (lcE cD)) (kQ "row" .unb) vs st ts st
theorem yX{d:Nat}{y:Rows}(hd:2≤d)(h:yc (Ok X (d-1-1)) st y.vs y.ts)(l:y.cnt≤1000):Ok X d 130 [.lst y.vs] st (cN y.ts) st:=GC (tK hd) (lZ (om2 hd) h) (by have:=y.ts_len;exact B8 l this)
theorem oI{d:Nat}{y:Rows}(hd:2≤d)(v:V)(h:yc (Ok X (d-1-1)) st y.vs y.ts)(l:y.cnt≤1000):Ok X d 130 [.lst y.vs,.tup [v]] st (cN (v::y.ts)) st:=HT (ah:=[v]) (tK hd) (lZ (om2 hd) h) (by simp) (by have:=y.ts_len;exact B8 l this)
mutual
theorem Row.tree:∀(r:Row) (d:Nat),4+3*r.dep≤d→r.cnt≤1000→Ok X d 132 [r.v] st r.t st
 | .print p,d,hd,_=>zS (by exact lin [_] (.c 1 (.a (.n 4) (.m 3 (.n 0))) (.v 0) .e) (.n 3) (.v 0) rfl hd) p
 | .add p k,d,hd,_=>GB (by exact lin [_] (.c 1 (.a (.n 4) (.m 3 (.n 0))) (.v 0) .e) (.n 2) (.v 0) rfl hd) p k
 | .jump br m,d,hd,_=>D7 (by exact lin [_] (.c 1 (.a (.n 4) (.m 3 (.n 0))) (.v 0) .e) (.n 1) (.v 0) rfl hd) br m
 | .ite a y z,d,hd,hc=>by
  exact Fy (Cy hd) a y z (yX (Cn hd) (Rows.tree y _ (Gy hd) (Dz hc)) (Dz hc)) (yX (Cn hd) (Rows.tree z _ (GQ hd) (Du hc)) (Du hc))
 | .loop .for_ num l most y,d,hd,hc=>by
  exact Gg (Et hd) num l most y (oI (E2 hd) _ (Rows.tree y _ (DJ hd) (vA hc)) (vA hc))
 | .loop .ring num l most y,d,hd,hc=>by
  exact Ef (Et hd) num l most y (oI (E2 hd) _ (Rows.tree y _ (DJ hd) (vA hc)) (vA hc))
 | .loop .row num l most y,d,hd,hc=>by
  exact GE (Et hd) num l most y (oI (E2 hd) _ (Rows.tree y _ (DJ hd) (vA hc)) (vA hc))
 | .switch num l most as1 y f as2 z df,d,hd,hc=>by
  exact y9 (Cy hd) num l most as1 as2 y f z df (lZ (CJ hd) (Rows.tree y _ (lin [_,_,_,_,_] (.c 1 (.a (.n 4) (.m 3 (.a (.v 2) (.n 1)))) (.v 3) (.c 1 (.v 4) (.a (.v 1) (.n 1)) (.c 3 (.v 0) (.v 2) (.c 1 (.v 3) (.a (.v 4) (.n 1)) .e)))) (.a (.n 4) (.m 3 (.v 0))) (.v 1) rfl hd (lsa _ _) (Nat.le_max_left _ _) (lsa _ _)) (Dz hc))) (lZ (CJ hd) (Rows.tree z _ (lin [_,_,_,_,_] (.c 1 (.a (.n 4) (.m 3 (.a (.v 2) (.n 1)))) (.v 3) (.c 1 (.v 4) (.a (.v 1) (.n 1)) (.c 3 (.v 0) (.v 2) (.c 1 (.v 3) (.a (.v 4) (.n 1)) .e)))) (.a (.n 4) (.m 3 (.v 0))) (.v 1) rfl hd (lsa _ _) (Nat.le_max_right _ _) (lsa _ _)) (Du hc)))
theorem Rows.tree:∀(rs:Rows) (d:Nat),4+3*rs.dep≤d→rs.cnt≤1000→yc (Ok X d) st rs.vs rs.ts
 | .nil,d,hd,_=> .nil st
 | .cons r rs,d,hd,hc=>by
  exact yS (Row.tree r d (lin [_,_,_] (.c 1 (.a (.n 4) (.m 3 (.v 2))) (.v 1) (.c 3 (.v 0) (.v 2) .e)) (.a (.n 4) (.m 3 (.v 0))) (.v 1) rfl hd (Nat.le_max_left _ _)) (lin [_,_] (.c 1 (.a (.v 0) (.v 1)) (.n 1000) .e) (.v 0) (.n 1000) rfl hc)) (Rows.tree rs d (lin [_,_,_] (.c 1 (.a (.n 4) (.m 3 (.v 2))) (.v 1) (.c 3 (.v 0) (.v 2) .e)) (.a (.n 4) (.m 3 (.v 0))) (.v 1) rfl hd (Nat.le_max_right _ _)) (lin [_,_] (.c 1 (.a (.v 1) (.v 0)) (.n 1000) .e) (.v 0) (.n 1000) rfl hc))
end
noncomputable def eR(many:Nat)(rs:Rows):bX:=⟨many,eLet3::rs.ts⟩
end
noncomputable def sA(a b c:List O):St:=⟨[],[],[],[],[],[],[],[],[],[],[],[],[],[],[],a,b,c,[],[],[],[],[],[],[],[],[],[]⟩
noncomputable def wO(named:V):List O:=[.inst 111 [(x "packages",.none),(x "named",named)]]
noncomputable def n1:O:= .inst 109 [(x "path",S "error"),(x "package",S ""),(x "underlying",.tup [S "interface",.tup [.tup [S "Error",.tup [S "func",.tup [],.tup [.tup [S "string"]],.bool false]]]]),(x "methods",.edict)]
noncomputable def n2:O:= .inst 109 [(x "path",S "runtime.Error"),(x "package",S "runtime"),(x "underlying",.tup [S "string"]),(x "methods",.junk)]
noncomputable def n3:O:= .inst 109 [(x "path",S "sync.Mutex"),(x "package",S "sync"),(x "underlying",.tup [S "struct",.tup [.tup [S "state",ac,.bool false]]]),(x "methods",.junk)]
noncomputable def n4:O:= .inst 109 [(x "path",S "sync.WaitGroup"),(x "package",S "sync"),(x "underlying",.tup [S "struct",.tup [.tup [S "state",ac,.bool false]]]),(x "methods",.junk)]
noncomputable def em:O:= .inst 109 []
section
variable{X:CR}{d:Nat}
theorem DO(hd:1≤d)(e:bX):Ok X d 15000 [.ref 17 0,S "main.f",.lst (List.replicate e.many (.tup [S "n",ac])),.tup [],.tup [],.tup [],.tup e.body,.edict] (sA [] [] [.inst 14 []]) .none (sA [] [] [tfn e]):=
 Ok.by (by decide +kernel) hd [] (Tn (rfl:true=true) (Tn (rfl:true=true) (Tn (rfl:true=true) (Tn (rfl:true=true) (Tn (rfl:true=true) (Tn (rfl:true=true) (Tn (rfl:true=true) id))))))) (by kernel_rfl)
theorem iJ(hd:1≤d){p q r m:V}{c w l l':List O}(k:Nat)
  (h:((l,l',k)=([em],[n1],0)∧p=S "error"∧q=S ""∧r = .tup [S "interface",.tup [.tup [S "Error",.tup [S "func",.tup [],.tup [.tup [S "string"]],.bool false]]]]∧m = .edict)∨
   ((l,l',k)=([n1,em],[n1,n2],1)∧p=S "runtime.Error"∧q=S "runtime"∧r = .tup [S "string"]∧m = .junk)∨
   ((l,l',k)=([n1,n2,em],[n1,n2,n3],2)∧p=S "sync.Mutex"∧q=S "sync"∧r = .tup [S "struct",.tup [.tup [S "state",ac,.bool false]]]∧m = .junk)∨
   ((l,l',k)=([n1,n2,n3,em],[n1,n2,n3,n4],3)∧p=S "sync.WaitGroup"∧q=S "sync"∧r = .tup [S "struct",.tup [.tup [S "state",ac,.bool false]]]∧m = .junk)):
  Ok X d 110000 [.ref 16 k,p,q,r,m] (sA w l c) .none (sA w l' c):=by
 rcases h with ⟨e,rfl,rfl,rfl,rfl⟩|⟨e,rfl,rfl,rfl,rfl⟩|⟨e,rfl,rfl,rfl,rfl⟩|⟨e,rfl,rfl,rfl,rfl⟩<;>cases e<;>
 exact Ok.by (by decide +kernel) hd [] (Tn (rfl:true=true) (Tn (rfl:true=true) (Tn (rfl:true=true) (Tn (rfl:true=true) id)))) (by kernel_rfl)
theorem wE(hd:2≤d)(w c:List O):Ok X d 110 [] (sA w [] c) .junk (sA w r16 c):=
 Ok.by (by decide +kernel) (om1 hd) [.call .none (sA w [n1] c),.call .none (sA w [n1,n2] c),.call .none (sA w [n1,n2,n3] c),.call .none (sA w [n1,n2,n3,n4] c)]
  (Tn (iJ (X:=X) (d:=d-1) (w:=w) (c:=c) (om2 hd) 0 (.inl ⟨rfl,rfl,rfl,rfl,rfl⟩)) (Tn (iJ (X:=X) (d:=d-1) (w:=w) (c:=c) (om2 hd) 1 (.inr (.inl ⟨rfl,rfl,rfl,rfl,rfl⟩))) (Tn (iJ (X:=X) (d:=d-1) (w:=w) (c:=c) (om2 hd) 2 (.inr (.inr (.inl ⟨rfl,rfl,rfl,rfl,rfl⟩)))) (Tn (iJ (X:=X) (d:=d-1) (w:=w) (c:=c) (om2 hd) 3 (.inr (.inr (.inr ⟨rfl,rfl,rfl,rfl,rfl⟩)))) id)))) (by kernel_rfl)
theorem y6(hd:3≤d)(c:List O):Ok X d 112000 [.ref 15 0] (sA [.inst 111 []] [] c) .none (sA r15 r16 c):=
 Ok.by (by decide +kernel) (om0 hd) [.call .junk (sA [.inst 111 [(x "packages",.none)]] r16 c)]
  (Tn (rfl:true=true) (Tn (wE (X:=X) (d:=d-1) (om3 hd) [.inst 111 [(x "packages",.none)]] c) (Tn (rfl:true=true) (Tn (rfl:true=true) (Tn (rfl:true=true) (Tn (rfl:true=true) (Tn (rfl:true=true) (Tn (rfl:true=true) (Tn (rfl:true=true) (Tn (rfl:true=true) (Tn (rfl:true=true) (Tn (rfl:true=true) (Tn (rfl:true=true) (Tn (rfl:true=true) id)))))))))))))) (by kernel_rfl)
theorem AN(s:St)(g:RS)(m:MS)(e:m.ps=g.ps)(p:PO m.ps):eqB (ao (af s g) m) (.tup [cr,.ref 9 0]) (.tup [.tup [S "done",.lst []],.ref 6 0])=some true:=by
 obtain⟨L,p⟩:=p
 have h1:pyS (ao (af s g) m) (.tup [cr,.ref 9 0])=match k9 cr,pysOf m.ps with|some d,some ds=>some (.tuple [d,.list ds])|_,_=>Option.none:=by kernel_rfl
 have h2:pyS (ao (af s g) m) (.tup [.tup [S "done",.lst []],.ref 6 0])=match k9 cr,pysOf g.ps with|some d,some ds=>some (.tuple [d,.list ds])|_,_=>Option.none:=by kernel_rfl
 have h3:eqB (ao (af s g) m) (.tup [cr,.ref 9 0]) (.tup [.tup [S "done",.lst []],.ref 6 0])=eqD (pyS (ao (af s g) m) (.tup [cr,.ref 9 0])) (pyS (ao (af s g) m) (.tup [.tup [S "done",.lst []],.ref 6 0])):=by kernel_rfl
 obtain⟨l1,l2⟩:=wF L
 rw[h3,h1,h2,←e,p,xy]
 have hs:strOk (Str.ofString "done")=true:=by decide +kernel
 have sh:SeqAt.shaped (.tuple [.tuple [.str (Str.ofString "done"),.list []],.list (L.map fun is:List Int=>PyData.list (is.map PyData.int))])=true:=by
  unfold SeqAt.shaped
  rw[show PyData.canLay0 (.tuple [.tuple [.str (Str.ofString "done"),.list []],.list (L.map fun is:List Int=>PyData.list (is.map PyData.int))])=(((strOk (Str.ofString "done")&&(true&&true))&&(PyData.canLayAll0 (L.map fun is:List Int=>PyData.list (is.map PyData.int))&&true))) by kernel_rfl,hs,l1]
  refine decide_eq_true ?_
  show max (max 0 (max 1 0)+1) (max (PyData.depthAll (L.map fun is:List Int=>PyData.list (is.map PyData.int))+1) 0)+1≤64
  omega
 show(match SeqAt.shaped _&&SeqAt.shaped _ with|true=>some (PyData.eqv _ _)|false=>none)=_
 rw[sh]
 exact congrArg some (SeqAt.eqv_refl _ (SeqAt.canLay_of_shaped sh))
theorem yO(rs:Rows){many a' b':Nat}(hd:30+8*rs.dep≤d)(h:rs.wf many [] 0 3 a' b')(hm:3≤many)(hm':many≤1000)(hc:rs.cnt≤14)(hnb:rs.nb≤60)(hf:rs.fuel≤1400)(hp:rs.prn≤1400):∃st',Ok X d 145 [.lst rs.vs,nat many] St.empty (.bool true) st':=by
 obtain⟨m',ks,bl,o1,o2,h1,h2,h3⟩:=By (X:=X) (d:=d-1) (eR many rs) rs (lin [_,_,_] (.c 1 (.a (.n 30) (.m 8 (.v 0))) (.v 2) (.c 1 (.v 2) (.a (.v 1) (.n 1)) .e)) (.a (.n 20) (.m 8 (.v 0))) (.v 1) rfl hd (lsa _ _)) rfl h hm hc hnb hf
 have rb:RB g0 (rs.prn+0):=⟨fun p hp=>by
  have:p=0∨p=1∨p=2:=Ah hp
  rcases this with rfl|rfl|rfl<;>rfl,by decide,by show 0+_≤90000;exact lin [_] (.c 1 (.v 0) (.n 1400) .e) (.a (.n 0) (.a (.v 0) (.n 0))) (.n 90000) rfl hp⟩
 have go:=(Rows.gone_ok (X:=X) (sN (eR many rs) rs ks bl) many rs [] 0 3 a' b' 0 (d-1) g0 h rb (lin [_,_,_] (.c 1 (.a (.n 30) (.m 8 (.v 0))) (.v 2) (.c 1 (.v 2) (.a (.v 1) (.n 1)) .e)) (.a (.n 3) (.m 3 (.v 0))) (.v 1) rfl hd (lsa _ _))).1
 rw[h2] at go
 have eq:=AN (sN (eR many rs) rs ks bl) (rs.run g0).1 m' h1 h3
 have q:=fun k=>jh (X:=X) (d:=d-1) (st:=St.empty) (E3 hd) k
 have tr:=lZ (X:=X) (d:=d-1) (st:=St.empty) (E3 hd) (Rows.tree rs (d-1-1) (lin [_,_,_,_] (.c 1 (.a (.n 30) (.m 8 (.v 0))) (.v 2) (.c 1 (.v 3) (.a (.v 1) (.n 1)) (.c 1 (.v 2) (.a (.v 3) (.n 1)) .e))) (.a (.n 4) (.m 3 (.v 0))) (.v 1) rfl hd (lsa _ _) (lsa _ _)) (lin [_] (.c 1 (.v 0) (.n 14) .e) (.v 0) (.n 1000) rfl hc))
 have lt:=rs.ts_len
 refine⟨ao (af (sN (eR many rs) rs ks bl) (rs.run g0).1) m',Ok.by (by decide +kernel) (lin [_,_] (.c 1 (.a (.n 30) (.m 8 (.v 1))) (.v 0) .e) (.a (.n 0) (.n 1)) (.v 0) rfl hd) [.call (eC ac (.int 0)) St.empty,.call (eC ac (.int 1)) St.empty,.call (eC ac (.int 3)) St.empty,.call (.tup rs.ts) St.empty,.call .none (sA [] [] [tfn (eR many rs)]),.call .none (sA r15 r16 [tfn (eR many rs)]),.call (.ref 14 0) (sN (eR many rs) rs ks bl),
  .call .none (af (sN (eR many rs) rs ks bl) (rs.run g0).1),.call (.tup [cr,.ref 9 0]) (ao (af (sN (eR many rs) rs ks bl) (rs.run g0).1) m'),.br 1174 true]
  (Tn (q 0) (Tn (q 1) (Tn (q 3) (Tn tr (Tn (⟨by decide,(lin [_,_] (.c 1 (.v 1) (.n 14) (.c 1 (.v 0) (.v 1) .e)) (.v 0) (.n 100000) rfl hc lt)⟩:1≤100000∧rs.ts.length≤100000) (Tn (⟨Int.natCast_nonneg _,Int.ofNat_le.mpr (show many≤100000 by exact E7 hm')⟩:0≤Int.ofNat many∧Int.ofNat many≤100000) (Tn (DO (X:=X) (d:=d-1) (E3 hd) (eR many rs)) (Tn (y6 (X:=X) (d:=d-1) (lin [_,_,_] (.c 1 (.a (.n 30) (.m 8 (.v 1))) (.v 2) (.c 1 (.v 2) (.a (.v 0) (.n 1)) .e)) (.n 3) (.v 0) rfl hd (lsa _ _)) [tfn (eR many rs)]) (Tn o1 (Tn go (Tn o2 (Tn eq id)))))))))))) (by kernel_rfl)⟩
end
structure Dr where
 s0:Int
 s1:Int
 l:Nat
 n:Nat
 m:Nat
 op:List V
noncomputable def sD(q:Dr):St:=⟨[],[.list [.int q.s0,.int q.s1]],[.sd [(x "locals",nat q.l),(x "next",nat q.n),(x "many",nat q.m),(x "open",.ref 3 0)]],[.list q.op],[],[],[],[],[],[],[],[],[],[],[],[],[],[],[],[],[],[],[],[],[],[],[],[]⟩
structure Src(s0 s1:Int):Prop where
 a:0≤s0
 b:0≤s1
 c:s1<2147483647
structure Dn(q q':Dr):Prop where
 s:Src q'.s0 q'.s1
 l:q'.l=q.l
 n:q'.n=q.n
 m:q'.m=q.m
 op:q'.op=q.op
theorem pg{a:Int}{t:Nat}(h:0<t):∃v:Nat,Int.fmod a (Int.ofNat t)=Int.ofNat v∧v<t:=by
 have h0:(0:Int)<Int.ofNat t:=Int.ofNat_lt.mpr h
 have h1:0≤Int.fmod a (Int.ofNat t):=Int.fmod_nonneg_of_pos a h0
 have h2:Int.fmod a (Int.ofNat t)<Int.ofNat t:=Int.fmod_lt_of_pos a h0
 obtain⟨v,hv⟩:=Int.eq_ofNat_of_zero_le h1
 exact⟨v,hv,Int.ofNat_lt.mp (hv▸h2)⟩
theorem mulOk{a b:Int}(h1:0≤a)(h2:a<2147483647):IntMulOk a b:= .of_left (PySem.intBits_le_64 (by omega) (by omega))
section
variable{X:CR}{d:Nat}
inductive Fh(X:CR)(d:Nat)(q:Dr)(t:Nat):Prop
 |mk (v:Nat) (q':Dr) (lt:v<t) (dn:Dn q q') (ok:Ok X d 114 [.ref 1 0,nat t] (sD q) (nat v) (sD q'))
inductive FG(X:CR)(d:Nat)(q:Dr)(xs:List V)(a:V):Prop
 |mk (v:V) (q':Dr) (m:v∈xs) (dn:Dn q q') (ok:Ok X d 115 [.ref 1 0,a] (sD q) v (sD q'))
theorem aU(hd:1≤d)(q:Dr)(h:Src q.s0 q.s1){t:Nat}(ht:0<t)(ht':t<1073741824):Fh X d q t:=by
 have h0:(0:Int)<Int.ofNat t:=Int.ofNat_lt.mpr ht
 have h0':Int.ofNat t<1073741824:=Int.ofNat_lt.mpr ht'
 by_cases p:0<q.s0
 ·obtain⟨v,hv,hl⟩:=pg (a:=q.s0) ht
  refine⟨v,{q with s0:=q.s0.fdiv (Int.ofNat t)},hl,⟨⟨Int.fdiv_nonneg h.a (Int.le_of_lt h0),h.b,h.c⟩,rfl,rfl,rfl,rfl⟩,?_⟩
  exact Ok.of (by decide +kernel) hd [.br 911 true] (And.intro (congrArg some (decide_eq_true p):some (decide (0<q.s0))=some true) (And.intro h0 (And.intro (⟨h0,h0'⟩:0<Int.ofNat t∧Int.ofNat t<1073741824) (And.intro (by decide:0<2) (⟨congrArg V.int hv,rfl⟩:V.int (q.s0.fmod (Int.ofNat t))=nat v∧sD {q with s0:=q.s0.fdiv (Int.ofNat t)}=sD {q with s0:=q.s0.fdiv (Int.ofNat t)}))))) (by kernel_rfl)
 ·obtain⟨u,hu,hul⟩:=pg (a:=q.s1*39373+7) (t:=2147483647) (by decide)
  obtain⟨v,hv,hl⟩:=pg (a:=((Int.ofNat u*Int.ofNat u).fmod 2147483629).fdiv 32) ht
  have hu':Int.ofNat u<2147483647:=Int.ofNat_lt.mpr hul
  have hu0:0≤Int.ofNat u:=Int.natCast_nonneg u
  have e0:Int.fmod (q.s1*39373+7) 2147483647=Int.ofNat u:=hu
  refine⟨v,{q with s1:=Int.ofNat u},hl,⟨⟨h.a,hu0,hu'⟩,rfl,rfl,rfl,rfl⟩,?_⟩
  rw[←e0] at hv hu0 hu' ⊢
  exact Ok.of (by decide +kernel) hd [.br 911 false] (And.intro (congrArg some (decide_eq_false p):some (decide (0<q.s0))=some false) (And.intro (mulOk h.b h.c:IntMulOk q.s1 39373) (And.intro (by decide:(0:Int)<2147483647) (And.intro (by decide:1<2) (And.intro (mulOk hu0 hu':IntMulOk (Int.fmod (q.s1*39373+7) 2147483647) (Int.fmod (q.s1*39373+7) 2147483647)) (And.intro (by decide:(0:Int)<2147483629) (And.intro (by decide:(0:Int)<32∧(32:Int)<1073741824)
   (And.intro h0 (⟨congrArg V.int hv,rfl⟩:V.int (Int.fmod (Int.fdiv (Int.fmod (Int.fmod (q.s1*39373+7) 2147483647*Int.fmod (q.s1*39373+7) 2147483647) 2147483629) 32) (Int.ofNat t))=nat v∧sD {q with s1:=Int.fmod (q.s1*39373+7) 2147483647}=sD {q with s1:=Int.fmod (q.s1*39373+7) 2147483647}))))))))) (by kernel_rfl)
theorem oe(hd:2≤d)(q:Dr)(h:Src q.s0 q.s1){xs:List V}(h1:0<xs.length)(h2:xs.length<1073741824):FG X d q xs (.lst xs):=by
 obtain⟨i,q',hl,hn,o⟩:=aU (X:=X) (d:=d-1) (om2 hd) q h h1 h2
 have e:=List.getElem?_eq_getElem hl
 exact⟨xs[i],q',List.getElem_mem hl,hn,Ok.by (by decide +kernel) (om1 hd) [.call (nat i) (sD q'),.idx 918 xs[i]] (Tn o (Tn e id)) (by kernel_rfl)⟩
theorem AO(hd:2≤d)(q:Dr)(h:Src q.s0 q.s1)(h1:0<q.op.length)(h2:q.op.length<1073741824):FG X d q q.op (.ref 3 0):=by
 obtain⟨i,q',hl,hn,o⟩:=aU (X:=X) (d:=d-1) (om2 hd) q h h1 h2
 have e:=List.getElem?_eq_getElem hl
 have e':q'.op[i]? = some q.op[i]:=by rw[hn.op];exact e
 exact⟨q.op[i],q',List.getElem_mem hl,hn,Ok.by (by decide +kernel) (om1 hd) [.call (nat i) (sD q'),.idx 918 q.op[i]] (Tn o (Tn e' id)) (by kernel_rfl)⟩
end
noncomputable def sP(a b:Int):St:=⟨[],[.list [.int a,.int b]],[],[],[],[],[],[],[],[],[],[],[],[],[],[],[],[],[],[],[],[],[],[],[],[],[],[]⟩
noncomputable def f9(c:Int):Int:=match decide (c < -1-c) with
 |true=> -1-c
 |false=>c
noncomputable def kg(c:Int):Int:=match decide (1000000000000000000≤f9 c) with
 |true=>1
 |false=>0
noncomputable def nJ(c:Int):Int:=Int.fmod (f9 c) 2147483629+7919*0*0+31*0+17
theorem s6(c:Int):0≤f9 c:=by
 unfold f9
 by_cases h:c < -1-c
 ·rw[decide_eq_true h];show 0 ≤ -1-c;omega
 ·rw[decide_eq_false h];show 0≤c;omega
theorem qH(c:Int):kg c=0∨kg c=1:=by
 unfold kg;cases decide (1000000000000000000≤f9 c)<;>decide
theorem wY(c:Int):0≤nJ c∧nJ c<2147483647:=by
 have h1:=Int.fmod_nonneg_of_pos (f9 c) (show(0:Int)<2147483629 by decide)
 have h2:=Int.fmod_lt_of_pos (f9 c) (show(0:Int)<2147483629 by decide)
 unfold nJ;omega
section
variable{X:CR}{d:Nat}
theorem zA(c:Int):Src (f9 c*kg c) (Int.fmod (nJ c*48271) 2147483647):=
 ⟨Int.mul_nonneg (s6 c) (by rcases qH c with h|h<;>rw[h]<;>decide),Int.fmod_nonneg_of_pos _ (by decide),Int.fmod_lt_of_pos _ (by decide)⟩
theorem ER(c:Int):IntMulOk (f9 c) (kg c):= .of_right (by rcases qH c with h|h<;>rw[h]<;>decide +kernel)
theorem zV(hd:1≤d)(xs:List Int):∃a b,Src a b∧Ok X d 113 [.lst (xs.map .int),.int 0] St.empty (.ref 1 0) (sP a b):=by
 have k1:IntMulOk 7919 0:= .of_right (by decide +kernel)
 have k2:IntMulOk (7919*0) 0:= .of_right (by decide +kernel)
 have k3:IntMulOk 31 0:= .of_right (by decide +kernel)
 have go:=fun c:Int=>(⟨zA c,ER c,mulOk (b:=48271) (wY c).1 (wY c).2⟩:Src (f9 c*kg c) (Int.fmod (nJ c*48271) 2147483647)∧IntMulOk (f9 c) (kg c)∧IntMulOk (nJ c) 48271)
 induction xs with
 |nil=>
  obtain⟨h1,h2,h3⟩:=go 0
  exact⟨_,_,h1,Ok.by (by decide +kernel) hd [] (Tn (by decide:(0:Int)<2147483629) (Tn k1 (Tn k2 (Tn k3 (Tn h3 (Tn (by decide:(0:Int)<2147483647) (Tn (⟨rfl,rfl⟩:(10:Int)=10∧(18:Int)=18) (Tn h2 id)))))))) (by kernel_rfl)⟩
 |cons c xs=>
  obtain⟨h1,h2,h3⟩:=go c
  have hl:some (decide ((0:Int)<Int.ofNat ((c::xs).map V.int).length))=some true:=congrArg some (decide_eq_true (Int.ofNat_lt.mpr (by simp)))
  exact⟨_,_,h1,Ok.by (by decide +kernel) hd [.br 905 true,.idx 906 (.int c)] (Tn hl (Tn (rfl:some (V.int c)=some (.int c)) (Tn (by decide:(0:Int)<2147483629) (Tn k1 (Tn k2 (Tn k3 (Tn h3 (Tn (by decide:(0:Int)<2147483647) (Tn (⟨rfl,rfl⟩:(10:Int)=10∧(18:Int)=18) (Tn h2 id)))))))))) (by kernel_rfl)⟩
end
structure Bd(K e w nb fuel cnt dep:Nat):Prop where
 nb:nb≤7*w
 fuel:fuel≤K*w
 cnt:cnt≤2*w
 dep:dep≤e
def OpR(o:List (Nat×Bool))(op:List V):Prop:=∀v∈op,∃(num:Nat) (w:String),v = .tup [nat num,S w]∧((w="switch"∧(num,false)∈o)∨((w="for"∨w="ring"∨w="row")∧(num,true)∈o))
structure MadeS(K e:Nat)(o:List (Nat×Bool))(q q':Dr)(w:Nat)(rs:Rows):Prop where
 src:Src q'.s0 q'.s1
 op:q'.op=q.op
 m:q'.m+w=q.m
 l:q'.l≤q.l+2*w
 bd:Bd K e w rs.nb rs.fuel rs.cnt rs.dep
 wf:∀N,q'.l≤N→rs.wf N o q.n q.l q'.n q'.l
structure jP(K e:Nat)(o:List (Nat×Bool))(q q':Dr)(w:Nat)(r:Row):Prop where
 src:Src q'.s0 q'.s1
 op:q'.op=q.op
 m:q'.m+w=q.m
 l:q'.l≤q.l+2*(w+1)
 bd:Bd K e (w+1) r.nb r.fuel r.cnt r.dep
 wf:∀N,q'.l≤N→r.wf N o q.n q.l q'.n q'.l
inductive Dl(X:CR)(d:Nat)(D:Int)(K e:Nat)(o:List (Nat×Bool))(q:Dr):Prop
 |mk (rs:Rows) (q':Dr) (w:Nat) (ok:Ok X d 119 [.ref 1 0,.ref 2 0,.int D] (sD q) (.lst rs.vs) (sD q')) (m:MadeS K e o q q' w rs)
inductive Hu(X:CR)(d:Nat)(D:Int)(K e:Nat)(o:List (Nat×Bool))(q:Dr):Prop
 |mk (r:Row) (q':Dr) (w:Nat) (ok:Ok X d 120 [.ref 1 0,.ref 2 0,.int D] (sD q) r.v (sD q')) (m:jP K e o q q' w r)
def lP(X:CR)(d:Nat)(D:Int)(K e B:Nat):Prop:=∀(q:Dr) (o:List (Nat×Bool)),Src q.s0 q.s1→OpR o q.op→q.op.length≤B→Dl X d D K e o q
def tS(X:CR)(d:Nat)(D:Int)(K e B:Nat):Prop:=∀(q:Dr) (o:List (Nat×Bool)),Src q.s0 q.s1→OpR o q.op→q.op.length≤B→Hu X d D K e o q
theorem Dn.trans{q q' q'':Dr}(h:Dn q q')(k:Dn q' q''):Dn q q'':=⟨k.s,k.l.trans h.l,k.n.trans h.n,k.m.trans h.m,k.op.trans h.op⟩
theorem cB{K e:Nat}{o:List (Nat×Bool)}{q q':Dr}(h:Dn q q'){r:Row}(b:Bd K e 1 r.nb r.fuel r.cnt r.dep)(wf:∀N,r.wf N o q.n q.l q.n q.l):jP K e o q q' 0 r:=
 ⟨h.s,h.op,h.m,h.l.symm▸lin [_] .e (.v 0) (.a (.v 0) (.m 2 (.a (.n 0) (.n 1)))) rfl,b,fun N _=>by rw[h.n,h.l];exact wf N⟩
theorem qo(K e:Nat)(hK:4≤K)(p:Nat):Bd K e 1 (Row.print p).nb (Row.print p).fuel (Row.print p).cnt (Row.print p).dep:=⟨by simp[Row.nb],by simp[Row.fuel];exact Cc hK,by simp[Row.cnt],by simp[Row.dep]⟩
theorem sJ(K e:Nat)(hK:4≤K)(p k:Nat):Bd K e 1 (Row.add p k).nb (Row.add p k).fuel (Row.add p k).cnt (Row.add p k).dep:=⟨by simp[Row.nb],by simp[Row.fuel];exact lin [_] (.c 1 (.n 4) (.v 0) .e) (.n 2) (.v 0) rfl hK,by simp[Row.cnt],by simp[Row.dep]⟩
noncomputable def ifJ(a:Ask)(br:Bool)(m:Nat):Row:= .ite a (.cons (.jump br m) .nil) .nil
theorem xn(K e:Nat)(hK:4≤K)(he:1≤e)(a:Ask)(br:Bool)(m:Nat):Bd K e 1 (ifJ a br m).nb (ifJ a br m).fuel (ifJ a br m).cnt (ifJ a br m).dep:=
 ⟨by simp[ifJ,Row.nb,Rows.nb],by simp[ifJ,Row.fuel,Rows.fuel];exact lin [_] (.c 1 (.n 4) (.v 0) .e) (.n 4) (.v 0) rfl hK,by simp[ifJ,Row.cnt,Rows.cnt],by simp[ifJ,Row.dep,Rows.dep];exact lin [_] (.c 1 (.n 1) (.v 0) .e) (.n 1) (.v 0) rfl he⟩
theorem xY{N:Nat}{o:List (Nat×Bool)}{a:Ask}(ha:a.ok){br:Bool}{m:Nat}{s:Bool}(h:(m,s)∈o)(hs:br=false→s=true)(n l:Nat):(ifJ a br m).wf N o n l n l:=by
 exact⟨ha,n,l,⟨n,l,⟨⟨s,h,hs⟩,rfl,rfl⟩,rfl,rfl⟩,rfl,rfl⟩
theorem MadeS.nil{K e:Nat}{o:List (Nat×Bool)}{q:Dr}(h:Src q.s0 q.s1):MadeS K e o q q 0 .nil:=⟨h,rfl,rfl,(lin [_] .e (.v 0) (.a (.v 0) (.m 2 (.n 0))) rfl),⟨by simp[Rows.nb],by simp[Rows.fuel],by simp[Rows.cnt],by simp[Rows.dep]⟩,fun N _=>by simp[Rows.wf]⟩
theorem Bd.add{K e w w' nb fuel cnt dep nb' fuel' cnt' dep':Nat}(h:Bd K e w nb fuel cnt dep)(k:Bd K e w' nb' fuel' cnt' dep'):Bd K e (w+w') (nb+nb') (fuel+fuel') (cnt+cnt') (max dep dep'):=
 ⟨by have:=h.nb;have:=k.nb;omega,by have:=h.fuel;have:=k.fuel;rw[Nat.mul_add];omega,by have:=h.cnt;have:=k.cnt;omega,Nat.max_le.mpr ⟨h.dep,k.dep⟩⟩
theorem MadeS.cons{K e:Nat}{o:List (Nat×Bool)}{q q1 q2:Dr}{k w w':Nat}{r:Row}{rs:Rows}(hm:q.m=k+1)(h:jP K e o {q with m:=k} q1 w r)(t:MadeS K e o q1 q2 w' rs):MadeS K e o q q2 (w+1+w') (.cons r rs):=by
 have h1:=h.m
 have h2:=h.l
 have h3:=t.m
 have h4:=t.l
 exact⟨t.src,t.op.trans h.op,(Nat.le_antisymm (lin [_,_,_,_,_,_] (.c 1 (.a (.v 4) (.n 1)) (.v 3) (.c 1 (.a (.v 5) (.v 1)) (.v 4) (.c 1 (.a (.v 0) (.v 2)) (.v 5) .e))) (.a (.v 0) (.a (.a (.v 1) (.n 1)) (.v 2))) (.v 3) rfl (leq hm.symm) (leq h1) (leq h3)) (lin [_,_,_,_,_,_] (.c 1 (.v 0) (.a (.v 4) (.n 1)) (.c 1 (.v 4) (.a (.v 5) (.v 2)) (.c 1 (.v 5) (.a (.v 1) (.v 3)) .e))) (.v 0) (.a (.v 1) (.a (.a (.v 2) (.n 1)) (.v 3))) rfl (leq hm) (leq h1.symm) (leq h3.symm))),(lin [_,_,_,_,_] (.c 1 (.v 4) (.a (.v 1) (.m 2 (.a (.v 2) (.n 1)))) (.c 1 (.v 0) (.a (.v 4) (.m 2 (.v 3))) .e)) (.v 0) (.a (.v 1) (.m 2 (.a (.a (.v 2) (.n 1)) (.v 3)))) rfl h2 h4),h.bd.add t.bd,fun N hN=>by
  exact⟨q1.n,q1.l,h.wf N (by
   have:=(Rows.keeps N rs o q1.n q1.l q2.n q2.l c0 (t.wf N hN)).lb
   exact lin [_,_,_] (.c 1 (.v 2) (.v 1) (.c 1 (.v 0) (.v 2) .e)) (.v 0) (.v 1) rfl hN this),t.wf N hN⟩⟩
theorem MadeS.lb{K e:Nat}{o:List (Nat×Bool)}{q q':Dr}{w:Nat}{rs:Rows}(h:MadeS K e o q q' w rs):q.l≤q'.l:=(Rows.keeps q'.l rs o q.n q.l q'.n q'.l c0 (h.wf _ (Nat.le_refl _))).lb
section
variable{X:CR}{d:Nat}
noncomputable def cS(D:Int)(fs:List V)(t:LV):Rho:=[(x "source",.v (.ref 1 0)),(x "book",.v (.ref 2 0)),(x "deep",.v (.int D)),(x "found",.ol fs),(x "turn",t)]
noncomputable def xB:Stmt:=aY (aG 119) 1
noncomputable def sM(q:Dr)(i:Int):St:=⟨[],[.list [.int q.s0,.int q.s1]],[.sd [(x "locals",nat q.l),(x "next",nat q.n),(x "many",.int i),(x "open",.ref 3 0)]],[.list q.op],[],[],[],[],[],[],[],[],[],[],[],[],[],[],[],[],[],[],[],[],[],[],[],[]⟩
theorem wu{C:CR}{D:Int}{q q':Dr}{fs:List V}{t:LV}{k:Nat}{v:V}(hm:q.m=k+1)(hf:fs.length≤100000)(h:C 120 [.ref 1 0,.ref 2 0,.int D] (sD {q with m:=k}) v (sD q')):
  bP (evN C 39) (cxG 119) (iV xB) (cS D fs t) (sD q) .next (cS D (fs++[v]) t) (sD q'):=by
 have e:sM q (Int.ofNat q.m-1)=sD {q with m:=k}:=by rw[hm,show Int.ofNat (k+1)-1=Int.ofNat k by simp];rfl
 rw[←e] at h
 exact⟨[.br 925 true,.call v (sD q')],evG (And.intro (congrArg some (decide_eq_true (Int.ofNat_lt.mpr ((lin [_,_] (.c 1 (.a (.v 1) (.n 1)) (.v 0) .e) (.a (.n 0) (.n 1)) (.v 0) rfl (leq hm.symm)):0<q.m))):some (decide ((0:Int)<Int.ofNat q.m))=some true) (And.intro (rfl:true=true) (And.intro h (And.intro hf (⟨rfl,rfl,rfl⟩:Fl.next=Fl.next∧cS D (fs++[v]) t=cS D (fs++[v]) t∧sD q'=sD q'))))) (by kernel_rfl)⟩
theorem uY{C:CR}{D:Int}{q:Dr}{fs:List V}{t:LV}(hm:q.m=0):bP (evN C 39) (cxG 119) (iV xB) (cS D fs t) (sD q) .next (cS D fs t) (sD q):=
 ⟨[.br 925 false],evG (And.intro (congrArg some (decide_eq_false (by rw[hm];decide)):some (decide ((0:Int)<Int.ofNat q.m))=some false) (⟨rfl,rfl,rfl⟩:Fl.next=Fl.next∧cS D fs t=cS D fs t∧sD q=sD q)) (by kernel_rfl)⟩
inductive Fu(X:CR)(d:Nat)(D:Int)(K e:Nat)(o:List (Nat×Bool))(q:Dr)(items0 items fs:List V)(t:LV):Prop
 |mk (rs:Rows) (q':Dr) (w:Nat) (t':LV) (f:ForR (asgN 9 (iE xB)) (bP (evN (Ok X d) 39) (cxG 119) (iV xB)) (cR items0 none) items (cS D fs t) (sD q) .next (cS D (fs++rs.vs) t') (sD q')) (m:MadeS K e o q q' w rs)
theorem jA{D:Int}{K e B:Nat}(hr:tS X d D K e B){items0:List V}:∀(items:List V) (q:Dr) (o:List (Nat×Bool)) (fs:List V) (t:LV),bS t→Src q.s0 q.s1→OpR o q.op→q.op.length≤B→fs.length+items.length≤1000→
  Fu X d D K e o q items0 items fs t
 |[],q,o,fs,t,_,hs,_,_,_=>⟨.nil,q,0,t,by rw[show fs++Rows.nil.vs=fs from List.append_nil _];exact .nil _ _ trivial,.nil hs⟩
 |i::items,q,o,fs,t,ht,hs,ho,hl,hf=>by
  have a:asgN 9 (iE xB) i (cS D fs t)=some (cS D fs (.v i)):=by rcases ht with rfl|⟨u,rfl⟩<;>kernel_rfl
  rcases Nat.eq_zero_or_eq_succ_pred q.m with hm|hm
  ·obtain⟨rs,q',w,t',r,k⟩:=jA hr items q o fs (.v i) (.inr ⟨_,rfl⟩) hs ho hl (lin [_,_] (.c 1 (.a (.v 0) (.a (.v 1) (.n 1))) (.n 1000) .e) (.a (.v 0) (.v 1)) (.n 1000) rfl hf)
   exact⟨rs,q',w,t',.step trivial a (uY hm) (.inl rfl) r,k⟩
  ·obtain⟨r,q1,w,c,k⟩:=hr {q with m:=q.m.pred} o hs ho hl
   have ho1:OpR o q1.op:=by rw[k.op];exact ho
   obtain⟨rs,q',w',t',f,ks⟩:=jA hr items q1 o (fs++[r.v]) (.v i) (.inr ⟨_,rfl⟩) k.src ho1 (by rw[k.op];exact hl) (by simp;exact lin [_,_] (.c 1 (.a (.v 0) (.a (.v 1) (.n 1))) (.n 1000) .e) (.a (.a (.v 0) (.n 1)) (.v 1)) (.n 1000) rfl hf)
   rw[List.append_assoc] at f
   exact⟨.cons r rs,q',_,t',.step trivial a (wu hm (lin [_,_] (.c 1 (.a (.v 0) (.a (.v 1) (.n 1))) (.n 1000) .e) (.v 0) (.n 100000) rfl hf) c) (.inl rfl) f,.cons hm k ks⟩
theorem pq{D:Int}{K e B:Nat}(hd:2≤d)(hr:tS X (d-1) D K e B):lP X d D K e B:=fun q o hs ho hl=>by
 obtain⟨v,q1,hv,hn,o1⟩:=aU (X:=X) (d:=d-1) (om2 hd) q hs (t:=3) (by decide) (by decide)
 have ho1:OpR o q1.op:=hn.op.symm▸ho
 have ul:(gY (1+v)).length≤3:=by
  have:∀n,(gY n).length=n:=fun n=>by
   induction n with
   |zero=>rfl
   |succ n ih=>simp[gY,ih]
  rw[this];exact DI hv
 obtain⟨rs,q',w,t',f,k⟩:=jA (items0:=gY (1+v)) hr (gY (1+v)) q1 o [] .unb (.inl rfl) hn.s ho1 (hn.op.symm▸hl) (by simp;exact lin [_] (.c 1 (.v 0) (.n 3) .e) (.v 0) (.n 1000) rfl ul)
 refine⟨rs,q',w,Ok.by (by decide +kernel) (om1 hd) [.call (nat v) (sD q1),.loop 924 .next (cS D rs.vs t') (sD q')] (Tn o1 (Tn ((lin [_] (.c 1 (.a (.v 0) (.n 1)) (.n 3) .e) (.a (.n 1) (.v 0)) (.n 100000) rfl hv):1+v≤100000) (Tn f id))) (by kernel_rfl),⟨k.src,k.op.trans hn.op,by have:=k.m;have:=hn.m;omega,by have:=k.l;have:=hn.l;omega,k.bd,fun N hN=> ?_⟩⟩
 have:=k.wf N hN
 rw[hn.n,hn.l] at this
 exact this
end
noncomputable def Az:List V:=[S "<",S "==",S ">="]
theorem C4{v:V}(h:v∈Az):∃op:String,v=S op∧(op="<"∨op="=="∨op=">="):=by
 simp only[Az,List.mem_cons,List.not_mem_nil,or_false] at h
 rcases h with rfl|rfl|rfl
 ·exact⟨_,rfl,.inl rfl⟩
 ·exact⟨_,rfl,.inr (.inl rfl)⟩
 ·exact⟨_,rfl,.inr (.inr rfl)⟩
theorem jS{l:List V}{b:Bool}(h:l.isEmpty = !b):some (!l.isEmpty)=some b:=by rw[h];induction b<;>rfl
section
variable{X:CR}{d:Nat}
noncomputable def brS:Bool→V
 |true=>S "break"
 |false=>S "continue"
inductive GW(X:CR)(d:Nat)(q:Dr)(o:List (Nat×Bool)):Prop
 |mk (num:Nat) (br s:Bool) (w:String) (q5 q6:Dr) (hin:(num,s)∈o) (hbr:br=false→s=true) (n6:Dn q q6) (o5:Ok X d 115 [.ref 1 0,.ref 3 0] (sD q) (.tup [nat num,S w]) (sD q5))
  (hw:(w="switch"∧br=true∧q6=q5)∨((w="for"∨w="ring"∨w="row")∧Ok X d 115 [.ref 1 0,.lst [S "break",S "continue"]] (sD q5) (brS br) (sD q6)))
theorem ug(hd:2≤d){o:List (Nat×Bool)}{q:Dr}(hs:Src q.s0 q.s1)(ho:OpR o q.op)(hl:q.op.length≤1000)(he:q.op.isEmpty=false):GW X d q o:=by
 have pos:0<q.op.length:=by
  cases h:q.op with
  |nil=>rw[h] at he;cases he
  |cons a l=>simp
 obtain⟨v,q5,hv,n5,o5⟩:=AO (X:=X) (d:=d) hd q hs pos (lin [_] (.c 1 (.v 0) (.n 1000) .e) (.a (.v 0) (.n 1)) (.n 1073741824) rfl hl)
 obtain⟨num,w,rfl,hw⟩:=ho v hv
 rcases hw with ⟨rfl,hin⟩|⟨hw,hin⟩
 ·exact⟨num,true,false,"switch",q5,q5,hin,(fun h=>nomatch h),n5,o5,.inl ⟨rfl,rfl,rfl⟩⟩
 ·obtain⟨u,q6,hu,n6,o6⟩:=oe (X:=X) (d:=d) hd q5 n5.s (xs:=[S "break",S "continue"]) (by decide) (by decide)
  simp only[List.mem_cons,List.not_mem_nil,or_false] at hu
  rcases hu with rfl|rfl
  ·exact⟨num,true,true,w,q5,q6,hin,(fun h=>nomatch h),n5.trans n6,o5,.inr ⟨hw,o6⟩⟩
  ·exact⟨num,false,true,w,q5,q6,hin,fun _=>rfl,n5.trans n6,o5,.inr ⟨hw,o6⟩⟩
theorem isE{l:List V}:l.isEmpty=true∨l.isEmpty=false:=by cases l.isEmpty<;>decide
noncomputable def L3:List (Nat×String×Bool):=[(7,"for",true),(7,"for",false),(7,"ring",true),(7,"ring",false),(7,"row",true),(7,"row",false),(8,"for",true),(8,"for",false),(8,"ring",true),(8,"ring",false),(8,"row",true),(8,"row",false)]
theorem in3{way:Nat}(m:way∈[7,8]){w:String}(h:w="for"∨w="ring"∨w="row")(br:Bool):(way,w,br)∈L3:=
 (by decide +kernel:∀a∈[7,8],∀b∈["for","ring","row"],∀c:Bool,(a,b,c)∈L3) way m w (h.elim (fun h=>h ▸ .head _) fun h=>h.elim (fun h=>h ▸ .tail _ (.head _)) fun h=>h ▸ .tail _ (.tail _ (.head _))) br
theorem AE(hd:3≤d):tS X d 0 4 1 1000:=fun q o hs ho hl=>by
 obtain⟨way,q1,hw,n1,o1⟩:=aU (X:=X) (d:=d-1) (om5 hd) q hs (t:=9) (by decide) (by decide)
 obtain⟨p,q2,hp,n2,o2⟩:=aU (X:=X) (d:=d-1) (om5 hd) q1 n1.s (t:=3) (by decide) (by decide)
 have n12:=n1.trans n2
 rcases(by decide:∀a,a<9→a∈[0,1,2,3,4]∨a∈[5,6]∨a∈[7,8]) way hw with m|m|m
 ·exact⟨_,q2,0,Ok.by (by decide +kernel) (om0 hd) [.call (nat way) (sD q1),.call (nat p) (sD q2)] (Tn o1 (Tn o2 id)) (by apply evM m;kernel_rfl),cB n12 (qo _ _ (by decide) p) fun N=>⟨hp,rfl,rfl⟩⟩
 ·obtain⟨k,q3,_,n3,o3⟩:=aU (X:=X) (d:=d-1) (om5 hd) q2 n2.s (t:=3) (by decide) (by decide)
  exact⟨.add p (1+k),q3,0,Ok.by (by decide +kernel) (om0 hd) [.call (nat way) (sD q1),.call (nat p) (sD q2),.call (nat k) (sD q3)] (Tn o1 (Tn o2 (Tn o3 id))) (by apply evM m;kernel_rfl),cB (n12.trans n3) (sJ _ _ (by decide) _ _) fun N=>⟨hp,rfl,rfl⟩⟩
 ·obtain⟨v,q3,hv,n3,o3⟩:=oe (X:=X) (d:=d-1) (om3 hd) q2 n2.s (xs:=Az) (by decide) (by decide)
  obtain⟨op,rfl,hop⟩:=C4 hv
  obtain⟨k,q4,_,n4,o4⟩:=aU (X:=X) (d:=d-1) (om5 hd) q3 n3.s (t:=6) (by decide) (by decide)
  have n14:=(n12.trans n3).trans n4
  have ho4:OpR o q4.op:=by rw[n14.op];exact ho
  have hl4:q4.op.length≤1000:=by rw[n14.op];exact hl
  rcases isE (l:=q4.op) with he|he
  ·refine⟨.add p 1,q4,0,?_,cB n14 (sJ _ _ (by decide) _ _) fun N=>⟨hp,rfl,rfl⟩⟩
   exact Ok.by (by decide +kernel) (om0 hd) [.call (nat way) (sD q1),.call (nat p) (sD q2),.call (S op) (sD q3),.call (nat k) (sD q4),.br 936 true,.br 936 true,.br 936 false] (Tn o1 (Tn o2 (Tn o3 (Tn o4 (Tn (rfl:some true=some true) (Tn (rfl:true=true) (Tn (jS (b:=false) he) id))))))) (by apply evM m;kernel_rfl)
  ·obtain⟨num,br,s,w,q5,q6,hin,hbr,n6,o5,hw⟩:=ug (X:=X) (d:=d-1) (om3 hd) n4.s ho4 hl4 he
   refine⟨ifJ ⟨p,op,Int.ofNat k⟩ br num,q6,0,?_,cB (n14.trans n6) (xn _ _ (by decide) (by decide) _ _ _) fun N=>xY ⟨hp,hop⟩ hin hbr _ _⟩
   rcases hw with ⟨rfl,rfl,rfl⟩|⟨hw,o6⟩
   ·exact Ok.by (by decide +kernel) (om0 hd) [.call (nat way) (sD q1),.call (nat p) (sD q2),.call (S op) (sD q3),.call (nat k) (sD q4),.br 936 true,.br 936 true,.br 936 true,.call (.tup [nat num,S "switch"]) (sD q6)] (Tn o1 (Tn o2 (Tn o3 (Tn o4 (Tn (rfl:some true=some true) (Tn (rfl:true=true) (Tn (jS (b:=true) he) (Tn o5 id)))))))) (by apply evM m;kernel_rfl)
   ·exact Ok.by (by decide +kernel) (om0 hd) [.call (nat way) (sD q1),.call (nat p) (sD q2),.call (S op) (sD q3),.call (nat k) (sD q4),.br 936 true,.br 936 true,.br 936 true,.call (.tup [nat num,S w]) (sD q5),.call (brS br) (sD q6)] (Tn o1 (Tn o2 (Tn o3 (Tn o4 (Tn (rfl:some true=some true) (Tn (rfl:true=true) (Tn (jS (b:=true) he) (Tn o5 (Tn o6 id))))))))) (by apply FU (in3 m hw br);kernel_rfl)
end
noncomputable def wV:=asV (aY (iV (aY (ifB (aY (aG 120) 11)) 1)) 0)
noncomputable def Hj(p:Nat)(t:LV):Rho:=[(".0",.unb),(x "turn",t),(x "place",.v (nat p)),(x "source",.v (.ref 1 0))]
section
variable{X:CR}{d:Nat}
inductive Gq(X:CR)(d p:Nat)(items:List V)(q:Dr):Prop
 |mk (as:List Ask) (q':Dr) (dn:Dn q q') (l:as.length=items.length) (a:∀a∈as,a.ok) (r:CompR (asgN 9 (lcT wV)) (fI (evN (Ok X d) 36) (lcN wV) (lcI wV)) (eF (evN (Ok X d) 36) (lcN wV) (lcE wV)) (Hj p .unb) items (sD q) (as.map cO) (sD q'))
theorem zr(hd:1≤d){p:Nat}(hp:p<3):∀(items:List V) (q:Dr),Src q.s0 q.s1→Gq X d p items q
 |[],q,hs=>⟨[],q,⟨hs,rfl,rfl,rfl,rfl⟩,rfl,(fun _ h=>nomatch h),.nil _⟩
 |i::items,q,hs=>by
  obtain⟨k,q1,_,n1,o1⟩:=aU (X:=X) (d:=d) hd q hs (t:=5) (by decide) (by decide)
  obtain⟨as,q2,n2,hl,ha,r⟩:=zr hd hp items q1 n1.s
  exact⟨⟨p,"==",Int.ofNat k⟩::as,q2,n1.trans n2,congrArg (· + 1) hl,fun a h=>(List.mem_cons.mp h).elim (fun e=>e▸⟨hp,.inr (.inl rfl)⟩) (ha a),
   .take (ρ₀:=Hj p (.v i)) (st₁:=sD q) (st₂:=sD q1) (by kernel_rfl) ⟨[],evG (P:=true=true∧sD q=sD q) ⟨rfl,rfl⟩ (by kernel_rfl)⟩
    ⟨[.call (nat k) (sD q1)],evG (P:=Ok X d 114 [.ref 1 0,nat 5] (sD q) (nat k) (sD q1)∧cO ⟨p,"==",Int.ofNat k⟩=cO ⟨p,"==",Int.ofNat k⟩∧sD q1=sD q1) ⟨o1,rfl,rfl⟩ (by kernel_rfl)⟩ r⟩
noncomputable def opn(q:Dr)(w:String):Dr:={q with l:=q.l+2,n:=q.n+1,op:=q.op++[.tup [nat q.n,S w]]}
theorem OpR.push{o:List (Nat×Bool)}{q:Dr}(h:OpR o q.op){w:String}{b:Bool}(hw:(w="switch"∧b=false)∨((w="for"∨w="ring"∨w="row")∧b=true)):OpR ((q.n,b)::o) (opn q w).op:=fun v hv=>by
 rcases List.mem_append.mp hv with hv|hv
 ·obtain⟨num,u,e,k⟩:=h v hv
  exact⟨num,u,e,k.imp (fun k=>⟨k.1,List.mem_cons_of_mem _ k.2⟩) fun k=>⟨k.1,List.mem_cons_of_mem _ k.2⟩⟩
 ·simp only[List.mem_cons,List.not_mem_nil,or_false] at hv
  subst hv
  exact⟨q.n,w,rfl,hw.imp (fun k=>⟨k.1,by rw[k.2];exact List.mem_cons_self⟩) fun k=>⟨k.1,by rw[k.2];exact List.mem_cons_self⟩⟩
theorem wo{K e K':Nat}(hK:∀w,35+3*(K*w)≤K'*(w+1)){o:List (Nat×Bool)}{q q4 q5 q7:Dr}{w v:Nat}{word:String}{rs:Rows}(wd:Wd)(n4:Dn q q4)(h:MadeS K e ((q4.n,true)::o) (opn q4 word) q5 w rs)(hv:v<3)(n7:Dn {q5 with op:=q4.op} q7):
  jP K' (e+1) o q q7 w (.loop wd q4.n q4.l (1+v) rs):=by
 have b:=h.bd
 have h1:=h.m
 have h2:=h.l
 have h3:=h.lb
 have h4:=n7.m
 have h5:=n7.l
 have e1:=n4.l
 have e2:=n4.m
 have e3:=n4.n
 dsimp only[opn] at h1 h2 h3 h4 h5
 refine⟨n7.s,n7.op.trans n4.op,(Nat.le_antisymm (lin [_,_,_,_,_] (.c 1 (.a (.v 3) (.v 1)) (.v 4) (.c 1 (.v 0) (.v 3) (.c 1 (.v 4) (.v 2) .e))) (.a (.v 0) (.v 1)) (.v 2) rfl (leq h1) (leq h4) (leq e2)) (lin [_,_,_,_,_] (.c 1 (.v 4) (.a (.v 3) (.v 2)) (.c 1 (.v 3) (.v 1) (.c 1 (.v 0) (.v 4) .e))) (.v 0) (.a (.v 1) (.v 2)) rfl (leq h1.symm) (leq h4.symm) (leq e2.symm))),(lin [_,_,_,_,_] (.c 1 (.v 3) (.a (.a (.v 4) (.n 2)) (.m 2 (.v 2))) (.c 1 (.v 0) (.v 3) (.c 1 (.v 4) (.v 1) .e))) (.v 0) (.a (.v 1) (.m 2 (.a (.v 2) (.n 1)))) rfl h2 (leq h5) (leq e1)),⟨by have:=b.nb;simp only[Row.nb];exact lin [_,_] (.c 1 (.v 0) (.m 7 (.v 1)) .e) (.a (.n 4) (.v 0)) (.m 7 (.a (.v 1) (.n 1))) rfl this,?_,by have:=b.cnt;simp only[Row.cnt];exact lin [_,_] (.c 1 (.v 0) (.m 2 (.v 1)) .e) (.a (.n 1) (.v 0)) (.m 2 (.a (.v 1) (.n 1))) rfl this,by have:=b.dep;simp only[Row.dep];exact lin [_,_] (.c 1 (.v 0) (.v 1) .e) (.a (.v 0) (.n 1)) (.a (.v 1) (.n 1)) rfl this⟩,fun N hN=> ?_⟩
 ·have:=b.fuel
  have:=hK w
  have t:fM wd (1+v)≤3:=by induction wd<;>simp only[fM]<;>(first|exact DI hv|exact lin [] .e (.n 3) (.n 3) rfl)
  have:=Nat.mul_le_mul_right (10+rs.fuel) t
  simp only[Row.fuel];omega
 ·refine And.intro (z9 e3) (And.intro (z9 e1) (And.intro (lin [_,_,_,_] (.c 1 (.a (.v 0) (.n 2)) (.v 2) (.c 1 (.v 2) (.v 3) (.c 1 (.v 3) (.v 1) .e))) (.a (.v 0) (.n 2)) (.v 1) rfl h3 (leq h5.symm) hN) (And.intro (DI hv) ?_)))
  have:=h.wf N (lin [_,_,_] (.c 1 (.v 0) (.v 2) (.c 1 (.v 2) (.v 1) .e)) (.v 0) (.v 1) rfl (leq h5.symm) hN)
  rw[n7.n,n7.l]
  exact this
theorem zg{K e K':Nat}(hK:∀w,35+3*(K*w)≤K'*(w+1)){o:List (Nat×Bool)}{q q4 q5 q6:Dr}{w w':Nat}{y z:Rows}{a:Ask}(ha:a.ok)(n4:Dn q q4)(h:MadeS K e o q4 q5 w y)(h':MadeS K e o q5 q6 w' z):jP K' (e+1) o q q6 (w+w') (.ite a y z):=by
 have b:=h.bd.add h'.bd
 have h1:=h.m
 have h2:=h.l
 have h3:=h'.lb
 have h4:=h'.m
 have h5:=h'.l
 have e1:=n4.l
 have e2:=n4.m
 refine⟨h'.src,h'.op.trans (h.op.trans n4.op),(Nat.le_antisymm (lin [_,_,_,_,_,_] (.c 1 (.a (.v 4) (.v 1)) (.v 5) (.c 1 (.a (.v 0) (.v 2)) (.v 4) (.c 1 (.v 5) (.v 3) .e))) (.a (.v 0) (.a (.v 1) (.v 2))) (.v 3) rfl (leq h1) (leq h4) (leq e2)) (lin [_,_,_,_,_,_] (.c 1 (.v 5) (.a (.v 4) (.v 2)) (.c 1 (.v 4) (.a (.v 1) (.v 3)) (.c 1 (.v 0) (.v 5) .e))) (.v 0) (.a (.v 1) (.a (.v 2) (.v 3))) rfl (leq h1.symm) (leq h4.symm) (leq e2.symm))),(lin [_,_,_,_,_,_] (.c 1 (.v 4) (.a (.v 5) (.m 2 (.v 2))) (.c 1 (.v 0) (.a (.v 4) (.m 2 (.v 3))) (.c 1 (.v 5) (.v 1) .e))) (.v 0) (.a (.v 1) (.m 2 (.a (.a (.v 2) (.v 3)) (.n 1)))) rfl h2 h5 (leq e1)),⟨by have:=b.nb;simp only[Row.nb];exact lin [_,_,_,_] (.c 1 (.a (.v 0) (.v 1)) (.m 7 (.a (.v 2) (.v 3))) .e) (.a (.a (.n 3) (.v 0)) (.v 1)) (.m 7 (.a (.a (.v 2) (.v 3)) (.n 1))) rfl this,?_,by have:=b.cnt;simp only[Row.cnt];exact CV this,by have:=b.dep;simp only[Row.dep];exact Dg this⟩,fun N hN=> ?_⟩
 ·have:=b.fuel
  have:=hK (w+w')
  simp only[Row.fuel];omega
 ·have h6:=h.wf N (Eo h3 hN)
  rw[n4.n,n4.l] at h6
  exact And.intro ha (Exists.intro q5.n (Exists.intro q5.l (And.intro h6 (h'.wf N hN))))
theorem jW{K e K':Nat}(hK:∀w,35+3*(K*w)≤K'*(w+1)){o:List (Nat×Bool)}{q q4 q5 q6 q7 q8 q9 q10:Dr}{w w' v:Nat}{y z:Rows}{as1 as2:List Ask}{f:Bool}{df:Dfl}(n4:Dn q q4)(n5:Dn (opn q4 "switch") q5)(h:MadeS K e ((q4.n,false)::o) q5 q6 w y)(n7:Dn q6 q7)(h':MadeS K e ((q4.n,false)::o) q7 q8 w' z)(n9:Dn q8 q9)(n10:Dn {q9 with op:=q4.op} q10)
  (h1:∀a∈as1,a.ok) (h2:∀a∈as2,a.ok) (l1:as1.length≤2) (l2:as2.length≤2):jP K' (e+1) o q q10 (w+w') (.switch q4.n q4.l (1+v) as1 y f as2 z df):=by
 have b:=h.bd.add h'.bd
 have m1:=h.m
 have m2:=h.l
 have m3:=h'.lb
 have m4:=h'.m
 have m5:=h'.l
 have m6:=h.lb
 have e1:=n4.l
 have e2:=n4.m
 have e3:=n4.n
 have e4:=n5.l
 have e5:=n5.m
 have e6:=n7.l
 have e7:=n7.m
 have e8:=n9.l
 have e9:=n9.m
 have e10:=n10.l
 have e11:=n10.m
 have e12:=n5.n
 dsimp only[opn] at e4 e5 e10 e11 e12
 refine⟨n10.s,n10.op.trans n4.op,(Nat.le_antisymm (lin [_,_,_,_,_,_,_,_,_,_] (.c 1 (.a (.v 4) (.v 1)) (.v 5) (.c 1 (.a (.v 6) (.v 2)) (.v 7) (.c 1 (.v 8) (.v 3) (.c 1 (.v 5) (.v 8) (.c 1 (.v 7) (.v 4) (.c 1 (.v 9) (.v 6) (.c 1 (.v 0) (.v 9) .e))))))) (.a (.v 0) (.a (.v 1) (.v 2))) (.v 3) rfl (leq m1) (leq m4) (leq e2) (leq e5) (leq e7) (leq e9) (leq e11)) (lin [_,_,_,_,_,_,_,_,_,_] (.c 1 (.v 5) (.a (.v 4) (.v 2)) (.c 1 (.v 7) (.a (.v 6) (.v 3)) (.c 1 (.v 0) (.v 8) (.c 1 (.v 8) (.v 5) (.c 1 (.v 4) (.v 7) (.c 1 (.v 6) (.v 9) (.c 1 (.v 9) (.v 1) .e))))))) (.v 0) (.a (.v 1) (.a (.v 2) (.v 3))) rfl (leq m1.symm) (leq m4.symm) (leq e2.symm) (leq e5.symm) (leq e7.symm) (leq e9.symm) (leq e11.symm))),(lin [_,_,_,_,_,_,_,_,_,_] (.c 1 (.v 4) (.a (.v 5) (.m 2 (.v 2))) (.c 1 (.v 6) (.a (.v 7) (.m 2 (.v 3))) (.c 1 (.v 8) (.v 1) (.c 1 (.v 5) (.a (.v 8) (.n 2)) (.c 1 (.v 7) (.v 4) (.c 1 (.v 9) (.v 6) (.c 1 (.v 0) (.v 9) .e))))))) (.v 0) (.a (.v 1) (.m 2 (.a (.a (.v 2) (.v 3)) (.n 1)))) rfl m2 m5 (leq e1) (leq e4) (leq e6) (leq e8) (leq e10)),⟨by have:=b.nb;simp only[Row.nb];exact lin [_,_,_,_,_,_] (.c 1 (.v 0) (.n 2) (.c 1 (.v 1) (.n 2) (.c 1 (.a (.v 2) (.v 3)) (.m 7 (.a (.v 4) (.v 5))) .e))) (.a (.a (.a (.a (.n 3) (.v 0)) (.v 1)) (.v 2)) (.v 3)) (.m 7 (.a (.a (.v 4) (.v 5)) (.n 1))) rfl l1 l2 this,?_,by have:=b.cnt;simp only[Row.cnt];exact CV this,by have:=b.dep;simp only[Row.dep];exact Dg this⟩,fun N hN=> ?_⟩
 ·have:=b.fuel
  have:=hK (w+w')
  simp only[Row.fuel];omega
 ·have h6:=h.wf N (lin [_,_,_,_,_,_] (.c 1 (.v 2) (.v 3) (.c 1 (.v 0) (.v 2) (.c 1 (.v 3) (.v 4) (.c 1 (.v 4) (.v 5) (.c 1 (.v 5) (.v 1) .e))))) (.v 0) (.v 1) rfl m3 (leq e6.symm) (leq e8.symm) (leq e10.symm) hN)
  have h7:=h'.wf N (lin [_,_,_,_] (.c 1 (.v 0) (.v 2) (.c 1 (.v 2) (.v 3) (.c 1 (.v 3) (.v 1) .e))) (.v 0) (.v 1) rfl (leq e8.symm) (leq e10.symm) hN)
  rw[e4,e12] at h6
  rw[n7.n,n7.l] at h7
  rw[n10.n,n10.l,n9.n,n9.l]
  exact⟨z9 e3,z9 e1,h1,h2,l1,l2,q6.n,q6.l,h6,h7⟩
inductive EA(X:CR)(d:Nat)(D:Int)(K' e:Nat)(o:List (Nat×Bool))(q q4:Dr)(wd:Wd):Prop
 |mk (rs:Rows) (q5 q7:Dr) (w v:Nat) (o5:Ok X (d-1) 119 [.ref 1 0,.ref 2 0,.int (D-1)] (sD (opn q4 wd.s)) (.lst rs.vs) (sD q5)) (op:q5.op=q4.op++[.tup [nat q4.n,S wd.s]]) (o7:Ok X (d-1) 114 [.ref 1 0,nat 3] (sD {q5 with op:=q4.op}) (nat v) (sD q7)) (m:jP K' (e+1) o q q7 w (.loop wd q4.n q4.l (1+v) rs))
noncomputable def L2:List (Nat×Wd):=[(4,.for_),(5,.ring),(6,.row)]
theorem uw{D:Int}(hd:3≤d)(hD':D≠0){K e K' B:Nat}(hB:B<1000)(hK:∀w,35+3*(K*w)≤K'*(w+1))(hr:lP X (d-1) (D-1) K e (B+1)):tS X d D K' (e+1) B:=fun q o hs ho hl=>by
 have hD:some (decide (D=0))=some false:=congrArg some (decide_eq_false hD')
 have hK4:4≤K':=by have:=hK 0;omega
 obtain⟨way,q1,hw,n1,o1⟩:=aU (X:=X) (d:=d-1) (om5 hd) q hs (t:=9) (by decide) (by decide)
 obtain⟨p,q2,hp,n2,o2⟩:=aU (X:=X) (d:=d-1) (om5 hd) q1 n1.s (t:=3) (by decide) (by decide)
 have n12:=n1.trans n2
 have prt:jP K' (e+1) o q q2 0 (.print p):=cB n12 (qo _ _ hK4 _) fun N=>⟨hp,rfl,rfl⟩
 obtain⟨v,q3,hv,n3,o3⟩:=oe (X:=X) (d:=d-1) (om3 hd) q2 n2.s (xs:=Az) (by decide) (by decide)
 obtain⟨op,rfl,hop⟩:=C4 hv
 obtain⟨k,q4,_,n4,o4⟩:=aU (X:=X) (d:=d-1) (om5 hd) q3 n3.s (t:=6) (by decide) (by decide)
 have n14:=(n12.trans n3).trans n4
 have ho4:OpR o q4.op:=n14.op.symm▸ho
 have hl4:q4.op.length≤B:=n14.op.symm▸hl
 have ll:q4.op.length≤100000:=lin [_,_] (.c 1 (.a (.v 1) (.n 1)) (.n 1000) (.c 1 (.v 0) (.v 1) .e)) (.v 0) (.n 100000) rfl hB hl4
 have lp:∀w,(opn q4 w).op.length≤B+1:=fun w=>by simp only[opn,List.length_append,List.length_cons,List.length_nil];exact lin [_,_] (.c 1 (.v 0) (.v 1) .e) (.a (.v 0) (.a (.n 0) (.n 1))) (.a (.v 1) (.n 1)) rfl hl4
 have rows:∀ {q:Dr} {o:List (Nat×Bool)},Src q.s0 q.s1→OpR o q.op→q.op.length≤B+1→Dl X (d-1) (D-1) K e o q:=fun h1 h2 h3=>hr _ _ h1 h2 h3
 have loops:∀(wd:Wd),EA X d D K' e o q q4 wd:=fun wd=>by
  obtain⟨rs,q5,w,o5,m5⟩:=rows (q:=opn q4 wd.s) (o:=(q4.n,true)::o) n4.s (ho4.push (.inr ⟨by induction wd<;>simp[Wd.s],rfl⟩)) (lp _)
  obtain⟨v,q7,hv,n7,o7⟩:=aU (X:=X) (d:=d-1) (om5 hd) {q5 with op:=q4.op} m5.src (t:=3) (by decide) (by decide)
  exact⟨rs,q5,q7,w,v,o5,m5.op,o7,wo hK wd n14 m5 hv n7⟩
 rcases(by decide:∀a,a<9→a∈[0,1]∨a=2∨a=3∨a∈[4,5,6]∨a∈[7,8]) way hw with m|rfl|rfl|m|m
 ·exact⟨_,q2,0,Ok.by (by decide +kernel) (om0 hd) [.call (nat way) (sD q1),.call (nat p) (sD q2)] (Tn o1 (Tn o2 id)) (by apply evM m;kernel_rfl),prt⟩
 ·obtain⟨k,q3,_,n3,o3⟩:=aU (X:=X) (d:=d-1) (om5 hd) q2 n2.s (t:=3) (by decide) (by decide)
  exact⟨.add p (1+k),q3,0,Ok.by (by decide +kernel) (om0 hd) [.call (nat 2) (sD q1),.call (nat p) (sD q2),.br 931 false,.br 931 false,.br 931 false,.call (nat k) (sD q3)] (Tn o1 (Tn o2 (Tn (rfl:some false=some false) (Tn (rfl:false=false) (Tn hD (Tn o3 id)))))) (by kernel_rfl),cB (n12.trans n3) (sJ _ _ hK4 _ _) fun N=>⟨hp,rfl,rfl⟩⟩
 ·obtain⟨y,q5,w,o5,m5⟩:=rows n4.s ho4 (v0 hl4)
  obtain⟨z,q6,w',o6,m6⟩:=rows m5.src (m5.op.symm▸ho4) (m5.op.symm▸v0 hl4)
  exact⟨.ite ⟨p,op,Int.ofNat k⟩ y z,q6,w+w',Ok.by (by decide +kernel) (om0 hd) [.call (nat 3) (sD q1),.call (nat p) (sD q2),.br 931 false,.br 931 false,.br 931 false,.br 933 false,.br 933 false,.br 933 false,.call (S op) (sD q3),.call (nat k) (sD q4),.br 939 false,.call (.lst y.vs) (sD q5),.call (.lst z.vs) (sD q6)] (Tn o1 (Tn o2 (Tn (rfl:some false=some false) (Tn (rfl:false=false) (Tn hD (Tn (rfl:some false=some false) (Tn (rfl:false=false) (Tn hD (Tn o3 (Tn o4 (Tn hD (Tn o5 (Tn o6 id))))))))))))) (by kernel_rfl),zg hK ⟨hp,hop⟩ n14 m5 m6⟩
 ·obtain⟨wd,mw⟩:∃wd,(way,wd)∈L2:=by
   rcases(by decide:∀a∈[4,5,6],a=4∨a=5∨a=6) way m with rfl|rfl|rfl
   ·exact⟨.for_,.head _⟩
   ·exact⟨.ring,.tail _ (.head _)⟩
   ·exact⟨.row,.tail _ (.tail _ (.head _))⟩
  obtain⟨rs,q5,q7,w,v,o5,e5,o7,m⟩:=loops wd
  exact⟨_,q7,w,Ok.by (by decide +kernel) (om0 hd) [.call (nat way) (sD q1),.call (nat p) (sD q2),.br 931 false,.br 931 false,.br 931 false,.br 933 false,.br 933 false,.br 933 false,.call (S op) (sD q3),.call (nat k) (sD q4),.br 939 false,.call (.lst rs.vs) (sD q5),.pop 955 q4.op (.tup [nat q4.n,S wd.s]),.call (nat v) (sD q7)] (Tn o1 (Tn o2 (Tn (rfl:some false=some false) (Tn (rfl:false=false) (Tn hD (Tn (rfl:some false=some false) (Tn (rfl:false=false) (Tn hD (Tn o3 (Tn o4 (Tn hD (Tn (rfl:true=true) (Tn (rfl:true=true) (Tn ll (Tn o5 (Tn e5 (Tn o7 id))))))))))))))))) (by apply p5 mw;kernel_rfl),m⟩
 ·rcases isE (l:=q4.op) with he|he
  ·rcases(by decide:∀a∈[7,8],a=7∨a=8) way m with rfl|rfl
   ·obtain⟨c1,q5,hc1,n5,o5⟩:=aU (X:=X) (d:=d-1) (om5 hd) (opn q4 "switch") n4.s (t:=3) (by decide) (by decide)
    obtain⟨as1,q6,n6,l1,a1,r1⟩:=zr (X:=X) (d:=d-1) (om5 hd) hp (gY c1) q5 n5.s
    have n56:=n5.trans n6
    have hp4:OpR ((q4.n,false)::o) (opn q4 "switch").op:=ho4.push (.inl ⟨rfl,rfl⟩)
    obtain⟨y,q7,w,o7,m7⟩:=rows (o:=(q4.n,false)::o) n6.s (by rw[n56.op];exact hp4) (by rw[n56.op];exact lp _)
    obtain⟨fv,q8,hf,n8,o8⟩:=aU (X:=X) (d:=d-1) (om5 hd) q7 m7.src (t:=2) (by decide) (by decide)
    obtain⟨c2,q9,hc2,n9,o9⟩:=aU (X:=X) (d:=d-1) (om5 hd) q8 n8.s (t:=3) (by decide) (by decide)
    obtain⟨as2,q10,n10,l2,a2,r2⟩:=zr (X:=X) (d:=d-1) (om5 hd) hp (gY c2) q9 n9.s
    have n810:=(n8.trans n9).trans n10
    have op7:q7.op=(opn q4 "switch").op:=m7.op.trans n56.op
    have op10:q10.op=(opn q4 "switch").op:=n810.op.trans op7
    obtain⟨z,q11,w',o11,m11⟩:=rows (o:=(q4.n,false)::o) n10.s (by rw[op10];exact hp4) (by rw[op10];exact lp _)
    obtain⟨dv,q12,hdv,n12',o12⟩:=oe (X:=X) (d:=d-1) (om3 hd) q11 m11.src (xs:=[.none,.int 0,.int 1]) (by decide) (by decide)
    have op12:q12.op=q4.op++[.tup [nat q4.n,S "switch"]]:=n12'.op.trans (m11.op.trans op10)
    obtain⟨mv,q13,hmv,n13,o13⟩:=aU (X:=X) (d:=d-1) (om5 hd) {q12 with op:=q4.op} n12'.s (t:=3) (by decide) (by decide)
    have ul:∀n,(gY n).length=n:=fun n=>by
     induction n with
     |zero=>rfl
     |succ n ih=>simp[gY,ih]
    rw[ul] at l1 l2
    have f1:c1≤100000:=Dp hc1
    have f2:c2≤100000:=Dp hc2
    have dfs:∃df:Dfl,dv=df.v:=by
     simp only[List.mem_cons,List.not_mem_nil,or_false] at hdv
     rcases hdv with rfl|rfl|rfl
     ·exact⟨.no,rfl⟩
     ·exact⟨.zero,rfl⟩
     ·exact⟨.one,rfl⟩
    obtain⟨df,rfl⟩:=dfs
    have fs:fv=0∨fv=1:=by omega
    rcases fs with rfl|rfl
    ·exact⟨.switch q4.n q4.l (1+mv) as1 y true as2 z df,q13,w+w',Ok.by (by decide +kernel) (om0 hd) [.call (nat 7) (sD q1),.call (nat p) (sD q2),.br 931 false,.br 931 false,.br 931 false,.br 933 false,.br 933 false,.br 933 false,.call (S op) (sD q3),.call (nat k) (sD q4),.br 936 true,.br 936 true,.br 936 false,.br 939 false,.call (nat c1) (sD q5),.comp 950 (as1.map cO) (sD q6),.call (.lst y.vs) (sD q7),.call (nat 0) (sD q8),.call (nat c2) (sD q9),.comp 950 (as2.map cO) (sD q10),.call (.lst z.vs) (sD q11),.call df.v (sD q12),.pop 955 q4.op (.tup [nat q4.n,S "switch"]),.call (nat mv) (sD q13)] (Tn o1 (Tn o2 (Tn (rfl:some false=some false) (Tn (rfl:false=false) (Tn hD (Tn (rfl:some false=some false) (Tn (rfl:false=false) (Tn hD (Tn o3 (Tn o4 (Tn (rfl:some true=some true) (Tn (rfl:true=true) (Tn (jS (b:=false) he) (Tn hD (Tn (rfl:true=true) (Tn (rfl:true=true) (Tn ll (Tn (by decide:2≤100000) (Tn bB (Tn o5 (Tn f1 (Tn r1 (Tn o7 (Tn o8 (Tn (by decide:0≤100000) (Tn o9 (Tn f2 (Tn r2 (Tn o11 (Tn (by decide:1≤100000) (Tn o12 (Tn op12 (Tn o13 id))))))))))))))))))))))))))))))))) (by kernel_rfl),jW hK n14 n56 m7 n810 m11 n12' n13 a1 a2 (AR hc1 l1) (AR hc2 l2)⟩
    ·exact⟨.switch q4.n q4.l (1+mv) as1 y false as2 z df,q13,w+w',Ok.by (by decide +kernel) (om0 hd) [.call (nat 7) (sD q1),.call (nat p) (sD q2),.br 931 false,.br 931 false,.br 931 false,.br 933 false,.br 933 false,.br 933 false,.call (S op) (sD q3),.call (nat k) (sD q4),.br 936 true,.br 936 true,.br 936 false,.br 939 false,.call (nat c1) (sD q5),.comp 950 (as1.map cO) (sD q6),.call (.lst y.vs) (sD q7),.call (nat 1) (sD q8),.call (nat c2) (sD q9),.comp 950 (as2.map cO) (sD q10),.call (.lst z.vs) (sD q11),.call df.v (sD q12),.pop 955 q4.op (.tup [nat q4.n,S "switch"]),.call (nat mv) (sD q13)] (Tn o1 (Tn o2 (Tn (rfl:some false=some false) (Tn (rfl:false=false) (Tn hD (Tn (rfl:some false=some false) (Tn (rfl:false=false) (Tn hD (Tn o3 (Tn o4 (Tn (rfl:some true=some true) (Tn (rfl:true=true) (Tn (jS (b:=false) he) (Tn hD (Tn (rfl:true=true) (Tn (rfl:true=true) (Tn ll (Tn (by decide:2≤100000) (Tn bB (Tn o5 (Tn f1 (Tn r1 (Tn o7 (Tn o8 (Tn (by decide:0≤100000) (Tn o9 (Tn f2 (Tn r2 (Tn o11 (Tn (by decide:1≤100000) (Tn o12 (Tn op12 (Tn o13 id))))))))))))))))))))))))))))))))) (by kernel_rfl),jW hK n14 n56 m7 n810 m11 n12' n13 a1 a2 (AR hc1 l1) (AR hc2 l2)⟩
   ·obtain⟨rs,q5,q7,w,v,o5,e5,o7,m⟩:=loops .for_
    exact⟨_,q7,w,Ok.by (by decide +kernel) (om0 hd) [.call (nat 8) (sD q1),.call (nat p) (sD q2),.br 931 false,.br 931 false,.br 931 false,.br 933 false,.br 933 false,.br 933 false,.call (S op) (sD q3),.call (nat k) (sD q4),.br 936 true,.br 936 true,.br 936 false,.br 939 false,.call (.lst rs.vs) (sD q5),.pop 955 q4.op (.tup [nat q4.n,S "for"]),.call (nat v) (sD q7)] (Tn o1 (Tn o2 (Tn (rfl:some false=some false) (Tn (rfl:false=false) (Tn hD (Tn (rfl:some false=some false) (Tn (rfl:false=false) (Tn hD (Tn o3 (Tn o4 (Tn (rfl:some true=some true) (Tn (rfl:true=true) (Tn (jS (b:=false) he) (Tn hD (Tn (rfl:true=true) (Tn (rfl:true=true) (Tn ll (Tn o5 (Tn e5 (Tn o7 id)))))))))))))))))))) (by kernel_rfl),m⟩
  ·obtain⟨num,br,s,w,q5,q6,hin,hbr,n6,o5,hw⟩:=ug (X:=X) (d:=d-1) (om3 hd) n4.s ho4 (lin [_,_] (.c 1 (.a (.v 1) (.n 1)) (.n 1000) (.c 1 (.v 0) (.v 1) .e)) (.v 0) (.n 1000) rfl hB hl4) he
   refine⟨ifJ ⟨p,op,Int.ofNat k⟩ br num,q6,0,?_,cB (n14.trans n6) (xn _ _ hK4 (lin [_] .e (.n 1) (.a (.v 0) (.n 1)) rfl) _ _ _) fun N=>xY ⟨hp,hop⟩ hin hbr _ _⟩
   rcases hw with ⟨rfl,rfl,rfl⟩|⟨hw,o6⟩
   ·exact Ok.by (by decide +kernel) (om0 hd) [.call (nat way) (sD q1),.call (nat p) (sD q2),.br 931 false,.br 931 false,.br 931 false,.br 933 false,.br 933 false,.br 933 false,.call (S op) (sD q3),.call (nat k) (sD q4),.br 936 true,.br 936 true,.br 936 true,.call (.tup [nat num,S "switch"]) (sD q6)] (Tn o1 (Tn o2 (Tn (rfl:some false=some false) (Tn (rfl:false=false) (Tn hD (Tn (rfl:some false=some false) (Tn (rfl:false=false) (Tn hD (Tn o3 (Tn o4 (Tn (rfl:some true=some true) (Tn (rfl:true=true) (Tn (jS (b:=true) he) (Tn o5 id)))))))))))))) (by apply evM m;kernel_rfl)
   ·exact Ok.by (by decide +kernel) (om0 hd) [.call (nat way) (sD q1),.call (nat p) (sD q2),.br 931 false,.br 931 false,.br 931 false,.br 933 false,.br 933 false,.br 933 false,.call (S op) (sD q3),.call (nat k) (sD q4),.br 936 true,.br 936 true,.br 936 true,.call (.tup [nat num,S w]) (sD q5),.call (brS br) (sD q6)] (Tn o1 (Tn o2 (Tn (rfl:some false=some false) (Tn (rfl:false=false) (Tn hD (Tn (rfl:some false=some false) (Tn (rfl:false=false) (Tn hD (Tn o3 (Tn o4 (Tn (rfl:some true=some true) (Tn (rfl:true=true) (Tn (jS (b:=true) he) (Tn o5 (Tn o6 id))))))))))))))) (by apply FU (in3 m hw br);kernel_rfl)
end
noncomputable def Rows.app:Rows→Rows→Rows
 | .nil,t=>t
 | .cons r rs,t=> .cons r (rs.app t)
theorem zB(t:Rows):∀rs:Rows,(rs.app t).vs=rs.vs++t.vs
 | .nil=>rfl
 | .cons r rs=>congrArg (r.v :: ·) (zB t rs)
theorem yq(t:Rows):∀rs:Rows,(rs.app t).nb=rs.nb+t.nb∧(rs.app t).fuel=rs.fuel+t.fuel∧(rs.app t).cnt=rs.cnt+t.cnt∧(rs.app t).dep=max rs.dep t.dep
 | .nil=>⟨(Nat.zero_add _).symm,(Nat.zero_add _).symm,(Nat.zero_add _).symm,(Nat.zero_max _).symm⟩
 | .cons r rs=>(yq t rs).elim fun h1 h=>h.elim fun h2 h=>h.elim fun h3 h4=>⟨(congrArg (r.nb + ·) h1).trans (Nat.add_assoc ..).symm,(congrArg (r.fuel + ·) h2).trans (Nat.add_assoc ..).symm,(congrArg (r.cnt + ·) h3).trans (Nat.add_assoc ..).symm,(congrArg (max r.dep ·) h4).trans (Nat.max_assoc ..).symm⟩
theorem yR{N:Nat}{o:List (Nat×Bool)}{t:Rows}{a1 b1 a' b':Nat}(ht:t.wf N o a1 b1 a' b'):∀(rs:Rows) (a b:Nat),rs.wf N o a b a1 b1→(rs.app t).wf N o a b a' b'
 | .nil,a,b,h=>by
  obtain⟨rfl,rfl⟩:=h
  exact ht
 | .cons r rs,a,b,h=>by
  obtain⟨a2,b2,h1,h2⟩:=h
  exact⟨a2,b2,h1,yR ht rs a2 b2 h2⟩
theorem MadeS.app{K e:Nat}{o:List (Nat×Bool)}{q q1 q2:Dr}{w w':Nat}{rs t:Rows}(h:MadeS K e o q q1 w rs)(k:MadeS K e o q1 q2 w' t):MadeS K e o q q2 (w+w') (rs.app t):=by
 obtain⟨e1,e2,e3,e4⟩:=yq t rs
 have h1:=h.m
 have h2:=h.l
 have h3:=k.m
 have h4:=k.l
 have h5:=k.lb
 exact⟨k.src,k.op.trans h.op,(Nat.le_antisymm (lin [_,_,_,_,_] (.c 1 (.a (.v 4) (.v 1)) (.v 3) (.c 1 (.a (.v 0) (.v 2)) (.v 4) .e)) (.a (.v 0) (.a (.v 1) (.v 2))) (.v 3) rfl (leq h1) (leq h3)) (lin [_,_,_,_,_] (.c 1 (.v 0) (.a (.v 4) (.v 2)) (.c 1 (.v 4) (.a (.v 1) (.v 3)) .e)) (.v 0) (.a (.v 1) (.a (.v 2) (.v 3))) rfl (leq h1.symm) (leq h3.symm))),(lin [_,_,_,_,_] (.c 1 (.v 4) (.a (.v 1) (.m 2 (.v 2))) (.c 1 (.v 0) (.a (.v 4) (.m 2 (.v 3))) .e)) (.v 0) (.a (.v 1) (.m 2 (.a (.v 2) (.v 3)))) rfl h2 h4),by rw[e1,e2,e3,e4];exact h.bd.add k.bd,fun N hN=>yR (k.wf N hN) rs _ _ (h.wf N (Eo h5 hN))⟩
theorem nu:∀as:List Ask,pureVs (as.map cO)=true
 |[]=>rfl
 |a::as=>by
  show(match fY (cO a) with|true=>pureVs (as.map cO)|false=>false)=true
  rw[show fY (cO a)=true from rfl];exact nu as
theorem au{v:V}{vs:List V}(h:fY v=true)(t:pureVs vs=true):pureVs (v::vs)=true:=by unfold pureVs;rw[h];exact t
mutual
theorem Row.pure:∀r:Row,fY r.v=true
 | .print p=>rfl
 | .add p k=>rfl
 | .jump true m=>rfl
 | .jump false m=>rfl
 | .ite a y z=>au (v:=S "if") rfl (au (v:=cO a) rfl (au (v:= .lst y.vs) (Rows.pure y) (au (v:= .lst z.vs) (Rows.pure z) rfl)))
 | .loop w num l most y=>au (v:=S w.s) rfl (au (v:=nat num) rfl (au (v:=nat l) rfl (au (v:=nat most) rfl (au (v:= .lst y.vs) (Rows.pure y) rfl))))
 | .switch num l most as1 y f as2 z df=>by
  have c:∀(as:List Ask) (vs:List V) (f:Bool),pureVs vs=true→fY (bU as vs f)=true:=fun as vs f h=>au (v:= .lst (as.map cO)) (nu as) (au (v:= .lst vs) h (au (v:= .bool f) rfl rfl))
  exact au (v:=S "switch") rfl (au (v:=nat num) rfl (au (v:=nat l) rfl (au (v:=nat most) rfl (au (v:= .tup [.lst [bU as1 y.vs f,bU as2 z.vs false],df.v])
   (au (v:= .lst [bU as1 y.vs f,bU as2 z.vs false]) (au (c as1 y.vs f (Rows.pure y)) (au (c as2 z.vs false (Rows.pure z)) rfl)) (au (v:=df.v) (by induction df<;>rfl) rfl)) rfl))))
theorem Rows.pure:∀rs:Rows,pureVs rs.vs=true
 | .nil=>rfl
 | .cons r rs=>au (Row.pure r) (Rows.pure rs)
end
mutual
theorem Row.prn_le:∀r:Row,r.prn≤r.fuel
 | .print _=>Nat.le_refl _
 | .add _ _=>Nat.zero_le _
 | .jump _ _=>Nat.zero_le _
 | .ite _ y n=>by
  have:=y.prn_le
  have:=n.prn_le
  simp only[Row.prn,Row.fuel];omega
 | .loop w _ _ most b=>by
  have:=b.prn_le
  have:=Nat.mul_le_mul_left (fM w most) (show 1+b.prn≤10+b.fuel by exact lin [_,_] (.c 1 (.v 0) (.v 1) .e) (.a (.n 1) (.v 0)) (.a (.n 10) (.v 1)) rfl this)
  simp only[Row.prn,Row.fuel];exact lin [_,_] (.c 1 (.v 0) (.v 1) .e) (.v 0) (.a (.n 5) (.v 1)) rfl this
 | .switch _ _ _ _ y _ _ z _=>by
  have:=y.prn_le
  have:=z.prn_le
  simp only[Row.prn,Row.fuel];omega
theorem Rows.prn_le:∀r:Rows,r.prn≤r.fuel
 | .nil=>Nat.le_refl _
 | .cons r rs=>by
  have:=r.prn_le
  have:=rs.prn_le
  simp only[Rows.prn,Rows.fuel];omega
end
noncomputable def fixedR:Rows:= .cons (.loop .for_ 9 3 3 (.cons (.add 0 1) (.cons (.ite ⟨0,"==",2⟩ (.cons (.jump false 9) .nil) .nil) (.cons (.print 0) .nil)))) .nil
theorem xO:fixedR.wf 5 [] 0 3 10 5:=by
 exact⟨10,5,⟨by decide,by decide,by decide,by decide,10,5,⟨by decide,rfl,rfl⟩,10,5,⟨⟨by decide,.inr (.inl rfl)⟩,10,5,⟨10,5,⟨⟨true,by simp,fun _=>rfl⟩,rfl,rfl⟩,rfl,rfl⟩,rfl,rfl⟩,10,5,⟨by decide,rfl,rfl⟩,rfl,rfl⟩,rfl,rfl⟩
theorem qI(rs:Rows){many a' b':Nat}(st:St)(hd:rs.dep≤3)(h:rs.wf many [] 0 3 a' b')(hm:3≤many)(hm':many≤1000)(hc:rs.cnt≤14)(hnb:rs.nb≤60)(hf:rs.fuel≤1400):XR 54 145 [.lst rs.vs,nat many] st (.bool true) st:=
 ⟨rfl,au (v:= .lst rs.vs) (Rows.pure rs) rfl,rfl,yO rs (lin [_] (.c 8 (.v 0) (.n 3) .e) (.a (.n 30) (.m 8 (.v 0))) (.n 54) rfl hd) h hm hm' hc hnb hf (ltr rs.prn_le hf)⟩
theorem Ok.ext{X:CR}{d g:Nat}{args:List V}{st st':St}{v:V}(h:X g args st v st'):Ok X d g args st v st':=by
 induction d with
 |zero=>exact h
 |succ d=>exact .inl h
theorem Eb(script:List Int):∃st',Ok (XR 54) 10 146 [.lst (script.map .int)] St.empty (.bool true) st':=by
 have o1:Ok (XR 54) 9 145 [.lst fixedR.vs,nat 5] St.empty (.bool true) St.empty:=Ok.ext (qI fixedR _ (by decide) xO (by decide) (by decide) (by decide) (by decide) (by decide))
 obtain⟨a,b,hs,o2⟩:=zV (X:=XR 54) (d:=9) (by decide) script
 have r0:lP (XR 54) 5 0 4 1 1000:=pq (by decide) (AE (by decide))
 have r1:lP (XR 54) 7 1 40 2 999:=pq (by decide) (uw (K:=4) (by decide) (by decide) (by decide) (fun w=>lin [_] .e (.a (.n 35) (.m 3 (.m 4 (.v 0)))) (.m 40 (.a (.v 0) (.n 1))) rfl) r0)
 have r2:lP (XR 54) 9 2 130 3 998:=pq (by decide) (uw (K:=40) (by decide) (by decide) (by decide) (fun w=>lin [_] .e (.a (.n 35) (.m 3 (.m 40 (.v 0)))) (.m 130 (.a (.v 0) (.n 1))) rfl) r1)
 obtain⟨rs1,q1,w1,o3,m1⟩:=r2 ⟨a,b,3,0,7,[]⟩ [] hs (fun v hv=>nomatch hv) (Nat.zero_le _)
 obtain⟨rs2,q2,w2,o4,m2⟩:=r2 q1 [] m1.src (m1.op.symm▸(fun v hv=>nomatch hv)) (m1.op.symm▸(Nat.zero_le _))
 have m:=m1.app m2
 have bd:=m.bd
 have hm:=m.m
 have hl:=m.l
 have hb:=m.lb
 have e1:=bd.nb
 have e2:=bd.fuel
 have e3:=bd.cnt
 have o5:Ok (XR 54) 9 145 [.lst (rs1.app rs2).vs,nat q2.l] (sD q2) (.bool true) (sD q2):=Ok.ext (qI _ _ bd.dep (m.wf q2.l (Nat.le_refl _)) hb (lin [_,_,_,_] (.c 2 (.a (.v 1) (.a (.v 2) (.v 3))) (.n 7) (.c 1 (.v 0) (.a (.n 3) (.m 2 (.a (.v 2) (.v 3)))) .e)) (.v 0) (.n 1000) rfl (leq hm) hl) (lin [_,_,_,_] (.c 2 (.a (.v 1) (.a (.v 2) (.v 3))) (.n 7) (.c 1 (.v 0) (.m 2 (.a (.v 2) (.v 3))) .e)) (.v 0) (.n 14) rfl (leq hm) e3) (lin [_,_,_,_] (.c 7 (.a (.v 1) (.a (.v 2) (.v 3))) (.n 7) (.c 1 (.v 0) (.m 7 (.a (.v 2) (.v 3))) .e)) (.v 0) (.n 60) rfl (leq hm) e1) (lin [_,_,_,_] (.c 130 (.a (.v 1) (.a (.v 2) (.v 3))) (.n 7) (.c 1 (.v 0) (.m 130 (.a (.v 2) (.v 3))) .e)) (.v 0) (.n 1400) rfl (leq hm) e2))
 rw[zB] at o5
 have l1:=rs1.ts_len
 have l2:=rs2.ts_len
 have vl:∀rs:Rows,rs.vs.length=rs.ts.length:=fun rs=>by
  induction rs using Rows.rec (motive_1:=fun _=>True) with
  |nil=>rfl
  |cons r rs _ ih=>exact congrArg (· + 1) ih
  |_=>trivial
 have c1:=m1.bd.cnt
 have c2:=m2.bd.cnt
 have k1:=m1.m
 have k2:=m2.m
 exact⟨sD q2,Ok.by (by decide +kernel) (by decide) [.call (.bool true) St.empty,.call (.ref 1 0) (sP a b),.call (.lst rs1.vs) (sD q1),.call (.lst rs2.vs) (sD q2),.call (.bool true) (sD q2)]
  (Tn o1 (Tn o2 (Tn o3 (Tn o4 (Tn (⟨by rw[vl];exact lin [_,_,_,_,_] (.c 2 (.a (.v 1) (.a (.v 2) (.v 3))) (.n 7) (.c 1 (.v 0) (.v 4) (.c 1 (.v 4) (.m 2 (.v 2)) .e))) (.v 0) (.n 100000) rfl (leq hm) l1 c1,by rw[vl];exact lin [_,_,_,_,_] (.c 2 (.a (.v 1) (.a (.v 2) (.v 3))) (.n 7) (.c 1 (.v 0) (.v 4) (.c 1 (.v 4) (.m 2 (.v 3)) .e))) (.v 0) (.n 100000) rfl (leq hm) l2 c2⟩:rs1.vs.length≤100000∧rs2.vs.length≤100000) (Tn o5 id)))))) (by kernel_rfl)⟩
theorem thr:∀t:Thread,(endAt 0 t).isSome=through t
 |⟨cur,_,_,[]⟩=>by
  cases cur with
  |pure x=>cases x<;>rfl
  |_=>rfl
 |⟨_,_,_,_::_⟩=>rfl
theorem t4{tb:String→Option Builtin}{p:Program}{w:World}{n₀:Nat}{ann:Option Value}:∀ {n:Nat} {s s':Shared} {t:Thread} {f:Flow} {c:Code} {q:Pos},segRun tb p w n₀ ann 0 n s t=some (f,s',c,q)→topRun tb p w n₀ ann n s t=some s'
 |0,_,_,_,_,_,_,h=>nomatch h
 |n+1,s,s',t,f,c,q,h=>by
  unfold segRun at h
  unfold topRun
  have e:=thr t
  cases he:endAt 0 t with
  |some x=>rw[he] at h e;rw[←e];cases h;rfl
  |none=>
   rw[he] at h e
   rw[←e]
   cases hk:stepOk n₀ ann t with
   |false=>rw[hk] at h;exact noS h
   |true=>
    rw[hk] at h
    cases hs:step (denote tb) p w s t with
    |halt o s₂=>rw[hs] at h;exact noS h
    |go s₂ t₂=>rw[hs] at h;exact t4 h
theorem rK(s:Shared):fenceModules? pw s=some s:=by rfl
theorem GU:opening pw=plainProg pw.main.scope.names:=by kernel_rfl
theorem FA(P:Params):((boot_heap P).isNs mainGlobals&&(Array.mk ([]:List GenState)).size==0,(boot_heap P).objs.size,(boot_heap P).nsMap mainGlobals "__annotations__")=(true,11,some (.ref 6)):=by kernel_rfl
theorem uW:∀ {es:List DictEntry} {l:List (Str×Value)},nsL es=some l→(es.all (fun e=>match e.key with | .str _ _=>true|_=>false))=true∧(es.filterMap fun e=>match e.key with | .str n _=>some n|_=>none)=l.map (·.1)∧
  (∀x,look x l=(es.find? fun e=>e.key.isStr x).map (·.val))
 |[],l,h=>by cases h;exact⟨rfl,rfl,fun _=>rfl⟩
 |⟨hs,k,v⟩::r,l,h=>strS.of (v:=k) h fun x t ek h=>by
  obtain⟨l',q,el⟩:=Option.map_eq_some_iff.mp h
  obtain⟨a,b,c⟩:=uW q
  cases ek;cases el
  refine⟨a,congrArg (x :: ·) b,fun y=> ?_⟩
  rw[List.find?_cons]
  show _=Option.map _ (match (x==y:Bool) with|true=>_|false=>_)
  by_cases e:x=y
  ·cases e;rw[aR,beq_self_eq_true];rfl
  ·rw[aD _ _ e,beq_eq_false_iff_ne.mpr e];exact c y
theorem j7{h:Heap}{g:Addr→Option Obj}(up:∀o,g mainGlobals=some o→h.get? mainGlobals=some o){l:List (Str×Value)}(e:nsO g=some l):h.isNs mainGlobals=true∧h.nsKeys mainGlobals=l.map (·.1)∧∀x,h.nsMap mainGlobals x=look x l:=
 dw e fun o q e=>dictS.of e fun es n eo e=>by
  obtain⟨a,b,c⟩:=uW e
  cases o;cases eo
  unfold Heap.isNs Heap.nsKeys Heap.nsMap
  rw[up _ q]
  refine⟨?_,b,fun x=> ?_⟩
  ·dsimp only
   rw[←Array.all_toList];exact a
  ·dsimp only
   rw[c x]
   unfold nsFind findBy
   rw[←Array.find?_toList]
theorem kr{g g':Addr→Option Obj}(up:∀o,g 712=some o→g' 712=some o){y:List (Int×Option Str×Value)}(e:cE g=some y):cE g'=some y:=
 dw e fun o q e=>(congrArg (Option.bind · _) (up _ q)).trans e
def CN(h:Heap):Prop:=∃g:Addr→Option Obj,AW g=vb∧(nsO g).map (·.map (·.1))=some namesE∧∀a o,g a=some o→h.get? a=some o
def YP(w:World)(h:Heap):Prop:=cE h.get? = hV w∧CN h
noncomputable def Yf(s:Shared):Option (List (Int×Option Str×Value))×Prop:=(cE s.heap.get?,CN s.heap)
noncomputable def Ya(w:World):Option (List (Int×Option Str×Value))×Prop:=(hV w,True)
theorem hY(w:World)(s:Shared)(e:Yf s=Ya w):YP w s.heap:=⟨congrArg Prod.fst e,of_eq_true (congrArg Prod.snd e)⟩
theorem hYk(w:World)(h h':Heap)(y:YP w h)(k:∀b o,h.get? b=some o→h'.get? b=some o):YP w h':=
 ⟨kr (k _) y.1,let ⟨g,a,b,c⟩:=y.2;⟨g,a,b,fun x o e=>k _ _ (c x o e)⟩⟩
theorem w6:(namesE.all fun k=>startupNames.contains k||(Fast.tw18344453789297297638 pw).contains k)=true:=by kernel_rfl
theorem Hq{p:Program}{h:Heap}{l:List Str}(a:h.isNs mainGlobals=true)(b:h.nsKeys mainGlobals=l)(c:(l.all fun k=>startupNames.contains k||(Fast.tw18344453789297297638 p).contains k)=true):namesBound p h=true:=by
 rw[←Fast.te18344453789297297638] at c
 unfold namesBound
 rw[a,b]
 exact c
theorem BJ{p:Program}{w:World}{N n:Nat}{ann:Option Value}{s₀ s₁:Shared}(z1:(s₀.heap.isNs mainGlobals&&s₀.gens.size==0)=true)(z2:s₀.heap.objs.size=n)(z3:s₀.heap.nsMap mainGlobals "__annotations__"=ann)
  (top:topRun treeTable p w n ann N s₀ (topStub p)=some s₁) (k1:staticsOk (importedModules p.main.body) s₀.heap s₁.heap=true) (nb:namesBound p s₁.heap=true) (k2:gensDone s₁=true) (k3:laidKept s₀.heap s₁.heap=true):
  topFrom treeTable p w N s₀=some s₁:=by
 unfold topFrom
 rw[z1,z2,z3,top]
 show(match staticsOk (importedModules p.main.body) s₀.heap s₁.heap&&namesBound p s₁.heap&&gensDone s₁&&laidKept s₀.heap s₁.heap with|true=>some s₁|false=>none)=_
 rw[k1,nb,k2,k3]
 rfl
theorem Ez{p:Program}{w:World}{n N:Nat}{ann:Option Value}{s:SharedT}{s₀:Shared}{f:Flow}{r:SharedT}{c:Code}{q:Pos}(e:Fast.tw10110043849684766642 Fast.tw14364793385576792824 p w n ann 0 N s (topStub p)=some (f,r,c,q))(e0:s.abs=s₀):
  topRun treeTable p w n ann N s₀ (topStub p)=some r.abs:=by
 rw[←Fast.te10110043849684766642,←Fast.te14364793385576792824] at e
 rw[←e0]
 exact t4 (segRun_of e)
theorem uN{w:World}{os:OsState}{b:Bool}(h:Option.map (fun r=>(r.1,xt w r.2.1)) (DP w os b)=some (.ret .none,(true,true,true,some namesE),openGood qv lo,vb,hV w)):
  (topFrom treeTable pw (w.withFollow DU b) 7000 ⟨boot_heap w.params,Array.mk [],boot_drawn,boot_toks,os⟩).map (fun s=>(openSeen qv lo (importedModules pw.main.body) (fun _=>true) true s,Yf s))=some (openGood qv lo,Ya w):=by
 obtain⟨⟨f,r,c,q⟩,e,e2⟩:=Option.map_eq_some_iff.mp h
 have e3:=congrArg Prod.snd e2
 have k1:=congrArg (fun x=>x.1.1) e3
 have k2:=congrArg (fun x=>x.1.2.1) e3
 have k3:=congrArg (fun x=>x.1.2.2.1) e3
 have k4:(nsO (gT r)).map (·.map (·.1))=some namesE:=congrArg (fun x=>x.1.2.2.2) e3
 have k5:Fast.tw4187177175401517315 qv lo (importedModules pw.main.body) (fun _=>true) true r.abs=openGood qv lo:=congrArg (fun x=>x.2.1) e3
 have k5':openSeen qv lo (importedModules pw.main.body) (fun _=>true) true r.abs=openGood qv lo:=(congrFun (congrFun (congrFun (congrFun (congrFun (congrFun Fast.te4187177175401517315 qv) lo) (importedModules pw.main.body)) (fun _=>true)) true) r.abs).trans k5
 have k6:AW (gT r)=vb:=congrArg (fun x=>x.2.2.1) e3
 have k7:cE (gT r)=hV w:=congrArg (fun x=>x.2.2.2) e3
 obtain⟨l,m1,m2⟩:=Option.map_eq_some_iff.mp k4
 obtain⟨n1,n2,_⟩:=j7 (fun o=>tc) m1
 have z:=FA w.params
 have F:=BJ (congrArg Prod.fst z) (congrArg (fun x=>x.2.1) z) (congrArg (fun x=>x.2.2) z) (Ez e (DV w os)) k1 (Hq n1 (n2.trans m2) w6) k2 k3
 rw[F]
 refine congrArg some (Prod.ext k5' (Prod.ext ?_ (eq_true ⟨gT r,k6,k4,fun a o=>tc⟩)))
 exact kr (fun o=>tc) k7
theorem GA:LeftO pw qv lo (fun _=>true) Yf Ya 7000:=LeftO.of_split DU fun w=>by
 obtain⟨⟨h,gs,d,k,os⟩,e,e'⟩:=Option.map_eq_some_iff.mp (boot_open (N:=7000) GU rfl rK w)
 obtain⟨rfl,rfl,rfl,rfl⟩:h=boot_heap w.params∧gs=Array.mk []∧d=boot_drawn∧k=boot_toks:=by simpa using e'
 rw[e]
 exact congrArg some (Prod.ext (uN (Fk w os)) (uN (Hd w os)))
theorem d7{α β:Type}{f f':α→β}{l:List α}(h:l.map f=l.map f'){a:α}(m:a∈l):f a=f' a:=by
 induction l with
 |nil=>cases m
 |cons b r ih=>
  rw[List.map_cons,List.map_cons] at h
  injection h with h1 h2
  rcases List.mem_cons.mp m with rfl|m
  ·exact h1
  ·exact ih h2 m
section
variable{g:Addr→Option Obj}{H:Heap}(up:∀a o,a≠163→g a=some o→H.get? a=some o)
include up
theorem wt{a:Nat}(h:Nat.beq a 163=false):a≠163:=fun e=>by subst e;cases h
theorem ngS{α:Type}{a:Addr}{f:Obj→Option α}{x:α}{P:Prop}(h:ng g a f=some x)(k:a≠163→∀o,H.get? a=some o→f o=some x→P):P:=
 gdS h fun n h=>dw h fun o e h=>have ne:=wt up (Bool.not_eq_true' _▸n);k ne o (up _ _ ne e) h
theorem jn{f:Value→Option V}(hf:∀v x,f v=some x→Rel PL H (fun _=> .frz) x v):∀ {vs:List Value} {xs:List V},rdL f vs=some xs→Rels PL H (fun _=> .frz) xs vs
 |[],xs,h=>by cases h;exact .nil
 |v::r,xs,h=>dw h fun x e h=>by
  obtain⟨ys,q,e2⟩:=Option.map_eq_some_iff.mp h
  cases e2
  exact .cons (hf _ _ e) (jn hf q)
theorem vm{f:Value→Option V}(hf:∀v x,f v=some x→Rel PL H (fun _=> .frz) x v){a:Addr}{x:V}{o:Obj}(e:H.get? a=some o)(h:rdT f o=some x):Rel PL H (fun _=> .frz) x (.ref a):=
 gdS h fun p h=>seqS.of h fun items n ed h=>gdS h fun e5 h=>by
  obtain⟨xs,e6,ex⟩:=Option.map_eq_some_iff.mp h
  cases ex
  exact .tup ((plainB.of p ed)▸e) rfl (Nat.le_of_ble_eq_true e5) (jn up hf e6)
theorem kt:∀(n:Nat) (v:Value) (x:V),rd g n v=some x→Rel PL H (fun _=> .frz) x v
 |0,v,x,h=>noS h
 |n+1,v,x,h=>by
  cases v with
  |none=>cases h;exact .none
  |bool=>cases h;exact .bool _
  |int=>cases h;exact .int _ _
  |str=>cases h;exact .str _ _
  |ref a=>
   cases q:Nat.beq a 712 with
   |true=>cases Nat.eq_of_beq_eq_true q;cases h;exact .gd (pl:=PL) 0
   |false=>
    have h:(match Nat.beq a 712 with|true=>some (.gd 0)|false=>ng g a (rdT (rd g n)))=some x:=h
    rw[q] at h
    exact ngS up h fun _ _ e h=>vm up (fun v x=>kt n v x) e h
  |_=>exact noS h
theorem vj{dv:Value}{xs:List V}(h:rdD g dv=some xs):∃dvs,oo H dv dvs∧Rels PL H (fun _=> .frz) xs dvs:=by
 cases dv with
 |none=>cases h;exact⟨[],.inl ⟨rfl,rfl⟩,.nil⟩
 |ref a=>exact ngS up h fun _ o e h=>seqS.of h fun items n eo h=>⟨items.toList,.inr ⟨a,_,items,n,rfl,e,eo,rfl⟩,jn up (fun v x=>kt up 3 v x) h⟩
 |_=>exact noS h
theorem sS{q:Str}{cd:Value}(h:GY g q cd=some ()):H.CodeRec cd q:=
 refS.of h fun c ec h=>ngS up h fun _ o e h=>fieldsS.of h fun vs eo h=>dw h fun v e2 h=>strS.of h fun x t ev h=>gdS h fun h _=>⟨c,o,vs,t,ec,e,eo,strEq_iff.mp h▸ev▸e2⟩
theorem oY:∀(as:List Addr),(fR g as).In H
 |[],a,o,e=>by cases e
 |b::r,a,o,e=>by
  unfold fR at e
  cases q:ng g b some with
  |none=>rw[q] at e;exact oY r a o e
  |some o'=>
   rw[q] at e
   have e:(match a==b with|true=>some o'|false=>(fR g r).lookup a)=some o:=e
   cases hb:a==b with
   |true=>rw[hb] at e;cases e;exact ngS up q fun _ _ z k=>beq_iff_eq.mp hb▸sji k▸z
   |false=>rw[hb] at e;exact oY r a o e
end
theorem vf{k:Nat}(h:cY k=true):k∈gsL:=by
 unfold cY at h
 rcases(Bool.or_eq_true _ _).mp h with h|h
 ·obtain⟨p,hp,e⟩:=List.any_eq_true.mp h
  rw[←Nat.eq_of_beq_eq_true e]
  exact List.mem_append_left _ (List.mem_map.mpr ⟨p,hp,rfl⟩)
 ·obtain⟨c,hc,h⟩:=List.any_eq_true.mp h
  obtain⟨p,hp,e⟩:=List.any_eq_true.mp h
  rw[←Nat.eq_of_beq_eq_true e]
  exact List.mem_append_right _ (List.mem_flatMap.mpr ⟨c,hc,List.mem_map.mpr ⟨p,hp,rfl⟩⟩)
theorem BB{c:Nat}(h:dy c=true):c∈cNs:=by
 unfold dy at h
 simp only[Bool.or_eq_true] at h
 rcases h with (((h|h)|h)|h)|h<;>(have:=Nat.eq_of_beq_eq_true h;subst this;decide)
theorem Bx:gsL.all defOk=true:=by kernel_rfl
theorem Av:(gsL.all fun k=>match dW k with|some s=>Nat.beq k 20 || !jm (namesOf s)|none=>true)=true:=by kernel_rfl
theorem Gn:(biL.map fun p=>bootBuiltins p.1)=biL.map fun p=>some (biV p.2):=by kernel_rfl
theorem Gv:(biL.all fun p=> !(av p.1 (Str.ofString "__name__")))=true:=by kernel_rfl
noncomputable abbrev CfH(w:World)(B:Shared)(g:Addr→Option Obj):Cf:=⟨PL,w,B,fR g kAs⟩
section
variable{g:Addr→Option Obj}{B:Shared}{w:World}(up:∀a o,a≠163→g a=some o→B.heap.get? a=some o)(ob:AW g=vb)
include up ob
theorem FV{k:Nat}{s:Stmt}(hk:cY k=true)(hs:dW k=some s):Bf (CfH w B g) k s:=by
 have m:=vf hk
 have e:sf g (PL.fa k)=uI k:=d7 (congrArg (fun x=>x.2.2.2.2.2.1) ob:gsL.map (fun k=>sf g (PL.fa k))=gsL.map uI) m
 unfold uI at e
 rw[hs] at e
 refine⟨ngS up e fun _ o eo h=>funcS.of h fun fd ed h=> ?_,List.all_eq_true.mp Bx k m⟩
 have h:=sji h
 refine⟨o,fd,eo,ed,congrArg (·.1) h,congrArg (·.2.1) h,congrArg (·.2.2.1) h,congrArg (·.2.2.2.1) h,congrArg (·.2.2.2.2.1) h,congrArg (·.2.2.2.2.2.1) h,sS up (congrArg (·.2.2.2.2.2.2.1) h),fun ho=> ?_,vj up (congrArg (·.2.2.2.2.2.2.2) h)⟩
 have h20:=List.all_eq_true.mp Av k m
 rw[hs] at h20
 have h20:(Nat.beq k 20 || !jm (namesOf s))=true:=h20
 rw[ho,Bool.not_true,Bool.or_false] at h20
 have h20:=Nat.eq_of_beq_eq_true h20
 exact dw (congrArg (fun x=>x.2.2.2.2.1) ob:qh g=some (.ref 167,Str.ofString "with_kept_blocks")) fun o' e' hh=>funcS.of hh fun fd' ed' hh=>by
  subst h20
  cases (up 168 _ (by decide) e').symm.trans eo
  cases ed'.symm.trans ed
  have hh:=sji hh
  exact⟨congrArg (·.1) hh,(congrArg (fun z:Value×Str=>z.2++".<locals>."++"<lambda>") hh).trans rfl⟩
theorem Ea:dz (CfH w B g):=by
 have cl:∀c,dy c=true→tM (fR g kAs) c=xq c:=fun c h=>d7 (congrArg (fun x=>x.2.2.2.2.2.2) ob) (BB h)
 refine⟨oY up kAs,fun c h=>congrArg (fun x=>x.1) (cl c h),fun c h=>congrArg (fun x=>x.2.1) (cl c h),fun c h=>congrArg (fun x=>x.2.2.1) (cl c h),fun c h=>congrArg (fun x=>x.2.2.2.1) (cl c h),fun c h=>congrArg (fun x=>x.2.2.2.2.1) (cl c h),
  fun c h=>congrArg (fun x=>x.2.2.2.2.2.1) (cl c h),fun c h=>congrArg (fun x=>x.2.2.2.2.2.2.1) (cl c h),fun c x h=> ?_,fun c x k h=> ?_⟩
 ·exact d7 (congrArg (fun x=>x.2.2.2.2.2.2.2.1) (cl c (i9 h))) (l7 h)
 ·unfold jr at h
  obtain⟨i,e,rfl⟩:=Option.map_eq_some_iff.mp h
  have m:=bD e
  have ck:dy c=true:=by
   unfold jD at m
   split at m<;>first|rfl|cases m
  have:=d7 (congrArg (fun x=>x.2.2.2.2.2.2.2.2) (cl c ck)) m
  exact⟨congrArg Prod.fst this,congrArg Prod.snd this⟩
set_option tactic.hygienic true in
theorem EL{mb:Str→Option Value}{l:List (Str×Value)}(hl:nsO g=some l)(hb:B.heap.Ns builtinsNs mb)(bu:∀x:Str,x≠"__name__"→mb x=bootBuiltins x)(li:B.heap.NoLimit):cc (CfH w B g):=by
 obtain⟨n1,_,n3⟩:=j7 (fun o=>up _ o (by decide)) hl
 have hm:mgL g=l:=by unfold mgL;rw[hl];rfl
 have s1:(fnL.map fun p=>look p.1 (mgL g))=fnL.map fun p=>some (.ref (PL.fa p.2)):=congrArg (fun x=>x.1.1) ob
 have s2:(clsL.map fun p=>look p.1 (mgL g))=clsL.map fun p=>some (.ref (PL.ca p.2)):=congrArg (fun x=>x.1.2.1) ob
 have s3:(cstL.map fun p=>(look p.1 (mgL g)).bind (rd g 4))=cstL.map fun p=>some p.2:=congrArg (fun x=>x.1.2.2.1) ob
 have s4:(biL.map fun p=>look p.1 (mgL g))=biL.map fun _=>none:=congrArg (fun x=>x.1.2.2.2.1) ob
 refine⟨⟨_,mb,Heap.Ns.of_isNs n1,hb,fun x v e=> ?_⟩,li⟩
 rw[n3 x]
 unfold glob at e
 split at e
 ·rename_i k q
  cases e
  have:=d7 s1 (bD q)
  rw[←hm]
  exact⟨_,.fn k,.inl this⟩
 ·split at e
  ·rename_i v' q
   cases e
   have:=d7 s3 (bD q)
   obtain⟨u,q1,q2⟩:=Option.bind_eq_some_iff.mp this
   rw[←hm]
   exact⟨u,kt up 4 u v q2,.inl q1⟩
  ·split at e
   ·rename_i c q
    cases e
    have:=d7 s2 (bD q)
    rw[←hm]
    exact⟨_,.cls c,.inl this⟩
   ·split at e
    ·rename_i b q
     cases e
     have m:=bD q
     have:=d7 s4 m
     refine⟨_,.bi b,.inr ⟨by rw[←hm];exact this,?_⟩⟩
     rw[bu x fun e=> ?_]
     ·exact d7 Gn m
     ·have:=List.all_eq_true.mp Gv _ m
      subst e
      rw[show av _ _=true from strEq_iff.mpr rfl] at this
      cases this
    ·cases e
theorem DE{l:List (Str×Value)}(hl:nsO g=some l){bm:Addr}{o:Obj}(e1:look (Str.ofString "__builtins__") l=some (.ref bm))(e2:bm≠builtinsNs)(e3:B.heap.get? bm=some o)(e4:o.cls = .type "module")(e5:o.dict=some builtinsNs)(e6:o.data = .plain):xK (CfH w B g):=by
 obtain⟨n1,_,n3⟩:=j7 (fun o=>up _ o (by decide)) hl
 have hm:mgL g=l:=by unfold mgL;rw[hl];rfl
 have e7:look (Str.ofString "__builtins__") l=some (.ref 4):=hm▸congrArg (fun x=>x.1.2.2.2.2) ob
 cases e7.symm.trans e1
 refine⟨?_,_,Heap.Ns.of_isNs n1,4,o,(n3 _).trans e7,e2,by decide,(show(4:Nat)≠163 by decide),e3,e4,e5,e6⟩
 exact dw (congrArg (fun x=>x.2.2.2.1) ob:qJ g=some ()) fun o eo h=>gdS h fun hc h=>fieldsS.of h fun vs ed h=>
  dw h fun _ h1 h=>strS.of h1 fun file tf h1 _=>dw h fun _ h2 h=>intS.of h2 fun flags tg h2=>dw h fun _ h3 h=>boolS.of h3 fun inF h3=>dw h fun _ h4 h=>intS.of h4 fun text tt h4=>
  dw h fun _ h5 h=>refS.of h5 fun p h5 p1=>gdS p1 fun p1 _=>dw h fun _ h6 h=>refS.of h fun q ev p2=>gdS p2 fun p2 _=>by
   cases Nat.eq_of_beq_eq_true p1;cases Nat.eq_of_beq_eq_true p2;cases ev
   exact⟨_,vs,file,tf,flags,tg,inF,text,tt,up _ _ (show(167:Nat)≠163 by decide) eo,tyB.of hc,ed,h6,h5,h1,h2,h3,h4,(show(167:Nat)≠163 by decide)⟩
theorem BH:∃o es n,B.heap.get? sysModules=some o∧o.data = .dict es n∧es.size≠0:=
 dw (congrArg (fun x=>x.2.1) ob:pI g=some ()) fun o eo h=>dictS.of h fun es n ed h=>gdS h fun h _=>⟨o,es,n,up _ _ (by decide) eo,ed,fun z=>by rw[z] at h;cases h⟩
end
theorem uD{w:World}:∀ {es:List DictEntry} {kvs:List (Str×Value)},(es.map fun e=>(e.hash,strS some e.key,e.val))=(kvs.map fun p=>(hashStr w p.1,some p.1,p.2))→
  Pairs (strKind pw w) es kvs∧∀e∈es,∃k,(strKind pw w).is k e.key=true∧e.hash=(strKind pw w).hash k
 |[],[],_=>⟨.nil,fun _ m=>nomatch m⟩
 |[],_::_,h=>nomatch h
 |_::_,[],h=>nomatch h
 |⟨hs,k,v⟩::es,(x,u)::kvs,h=>by
  obtain⟨h1,h2⟩:=List.cons.inj h
  obtain⟨i1,i2⟩:=uD h2
  exact strS.of (v:=k) (congrArg (·.2.1) h1) fun y t ek ey=>by
   cases ey;cases ek
   cases (congrArg (·.2.2) h1:v=u)
   have is:(strKind pw w).is x (.str x t)=true:=strKind_is pw w x t
   exact⟨.cons is rfl i1,fun e m=>(List.mem_cons.mp m).elim (fun q=>⟨x,q▸is,q▸congrArg (·.1) h1⟩) (i2 e)⟩
theorem xF{w:World}{B:Shared}{g:Addr→Option Obj}{H:Heap}(h:cE H.get? = hV w):SdAt (CfH w B g) H (fun _=> .frz) 712 (gdL 0):=
 dw (h:cE H.get? = some _) fun o e h=>gdS h fun p h=>dictS.of h fun es n ed h=>by
  cases plainB.of p ed
  obtain⟨p1,p2⟩:=uD (sji h)
  exact⟨loopsK,⟨_,es,n,e,⟨rfl,rfl,rfl⟩,rfl,fun x m=>p2 x (Array.mem_def.mp m),p1,by decide +kernel⟩,by decide +kernel,rfl,
   .cons (.fn (pl:=PL) 79) (.cons (.fn (pl:=PL) 80) (.cons (.fn (pl:=PL) 86) (.cons (.fn (pl:=PL) 88) (.cons (.fn (pl:=PL) 91) .nil))))⟩
theorem wP{R:WRecords}{args:List WData}(h:(WShape.hasAll R args [.list .int]&&(WTm.and (.not (.lt (.lit (.int 63)) (.len (.arg 0)))) (.lit (.bool true))).holds R {args:=args})=true):∃xs:List Int,args=[.list (xs.map .int)]∧xs.length≤63:=by
 obtain⟨h1,h2⟩:=Bool.and_eq_true_iff.mp h
 obtain⟨d,r,rfl,h3,h4⟩:=hasAllW_cons h1
 cases hasAllW_nil h4
 obtain⟨ds,rfl,h5⟩:=hasW_list h3
 obtain⟨xs,rfl⟩:=items_int h5
 refine⟨xs,rfl,?_⟩
 have:(match some (WData.bool !(decide ((63:Int)<(xs.map WData.int).length))) with|some (.bool true)=>true|_=>false)=true:=(holds_andW h2).1
 by_cases c:(63:Int)<(xs.map WData.int).length
 ·rw[decide_eq_true c] at this;exact ffS this
 ·exact List.length_map (as:=xs) WData.int▸Int.ofNat_le.mp (Int.not_lt.mp c)
theorem rf{P:Params}{h:Heap}{vs:List Value}(x:WellAll P h vs []):vs=[]:=by cases x;rfl
theorem gR{w:World}{h:Heap}{G:Gh}:∀ {xs:List Int} {vs:List Value},WellAll w.params h vs (xs.map .int)→vs.length=xs.length∧Rels PL h G (xs.map .int) vs
 |[],_,r=>by cases rf r;exact⟨rfl,.nil⟩
 |x::xs,_,r=>by
  obtain⟨v,vs,rfl,a,b⟩:=wellAll_cons_inv r
  obtain⟨t,rfl⟩:=Value.isInt_shape ((encInt pw w).is (k:=x) a).1
  exact⟨congrArg Nat.succ (gR (G:=G) b).1,.cons (.int x t) (gR b).2⟩
theorem z6{P:Params}{h:Heap}{v:Value}{xs:List WData}(x:Well P h v (.list xs)):∃a vs,v = .ref a∧h.get? a=some {cls:= .type "list",data:= .seq vs.toArray}∧WellAll P h vs xs:=by
 cases x with
 |list a b=>exact⟨_,_,rfl,a,b⟩
noncomputable def G0:Gh:=fun a=>if a=163 then .tab else .frz
inductive yu(h:Heap)(args:List WData)(vals:List Value):Prop
 |mk (xs:List Int) (la:Addr) (vs:List Value) (ea:args=[.list (xs.map .int)]) (ev:vals=[.ref la]) (el:h.get? la=some {cls:= .type "list",data:= .seq vs.toArray}) (l:vs.length=xs.length) (hl:xs.length≤63) (rel:Rels PL h G0 (xs.map .int) vs):yu h args vals
theorem A0{R:WRecords}{w:World}{s:Heap}{args:List WData}{vals:List Value}(h:(WShape.hasAll R args [.list .int]&&(WTm.and (.not (.lt (.lit (.int 63)) (.len (.arg 0)))) (.lit (.bool true))).holds R {args:=args})=true)(wl:WellAll w.params s vals args):yu s args vals:=by
 obtain⟨xs,rfl,hl⟩:=wP h
 obtain⟨v,vs',rfl,w1,w2⟩:=wellAll_cons_inv wl
 cases rf w2
 obtain⟨la,vs,rfl,el,wl⟩:=z6 w1
 exact⟨xs,la,vs,rfl,rfl,el,(gR (G:=G0) wl).1,hl,(gR wl).2⟩
theorem HB{w:World}{s:Shared}{g:Addr→Option Obj}(e163:s.heap.get? 163=some (tabObj #[])):Sim (CfH w {s with heap:=s.heap.hide 163} g) s.heap G0 St.empty:=by
 have g0:∀ {b r},G0 b=r→r ≠ .tab→r ≠ .frz→False:=fun {b r} q n1 n2=>by
  by_cases z:b=163
  ·exact n1 (q.symm.trans (if_pos z))
  ·exact n2 (q.symm.trans (if_neg z))
 refine⟨fun b o e=>Heap.of_hide e,fun b o e=>if_neg fun q=>ab (Heap.hide_self _ _) (q▸e),fun b n=> ?_,fun b k i q=>(g0 q nofun nofun).elim,fun b c k i q=>(g0 q nofun nofun).elim,fun b c q=>(g0 q nofun nofun).elim,if_pos rfl,⟨#[],e163,trivial,.inl fun _ _ _=>rfl⟩⟩
 exact Decidable.byCases (fun h:b=163=>h▸⟨_,e163⟩) fun h=>(n (if_neg h)).elim
theorem GX:(defOf qv (Str.ofString "law")).isSome=true:=by kernel_rfl
noncomputable def dk:DefRec×List (Str×Expr):=(defOf qv (Str.ofString "law")).get GX
theorem Cz:defOf qv (Str.ofString "law")=some (dk.1,dk.2):=(Option.some_get GX).symm
theorem Hv:pw.theDef (Str.ofString "law")=some (dk.1.params,dk.1.body,dk.1.scope):=by kernel_rfl
theorem HR:kwWritten? dk.1.params.kwonlyargs dk.1.params.kw_defaults=some dk.2:=by kernel_rfl
theorem wn(args:List WData):rwl.row.claim.post args (.bool true) args=true:=by
 show(WShape.has [] (.bool true) .bool&&(WTm.eq .res (.lit (.bool true))).holds [] {args:=args,res:=some (.bool true),after:=args})=true
 kernel_rfl
theorem zj:WalkO qv lo (fun _ _=>True) YP rwl.row.toRowW dk.1 dk.2 (fun f vs=>PySem.call f vs):=by
 intro w s₀ s mg mb G Y a o pm cd doc dV kV ho hd hcd hD hmg hg args vals as hpre hlay hrd hwl hlo
 obtain⟨xs,la,vs,rfl,rfl,el,l2,hl,rel⟩:=A0 (R:=[]) hpre hwl
 obtain⟨y1,g,ob,nm,up0⟩:=Y
 obtain⟨l,hl',_⟩:=Option.map_eq_some_iff.mp nm
 have T:=G.T
 obtain⟨n1,_,n3⟩:=j7 (h:=s.heap) (fun o=>up0 _ o) hl'
 have em:∀x,mg x=look x l:=fun x=>by rw[T.g.eq_nsMap];exact n3 x
 have hmL:mgL g=l:=by unfold mgL;rw[hl'];rfl
 have s1:(fnL.map fun p=>look p.1 (mgL g))=fnL.map fun p=>some (.ref (PL.fa p.2)):=congrArg (fun x=>x.1.1) ob
 have e146:a=PL.fa 146:=by
  rw[em,defOf_name Cz] at hmg
  have:=d7 s1 (a:=(Str.ofString "law",146)) (by decide +kernel)
  dsimp only at this
  rw[hmL,hmg] at this
  simpa using this
 subst e146
 let B:Shared:={s with heap:=s.heap.hide 163}
 have up:∀a o,a≠163→g a=some o→B.heap.get? a=some o:=fun a o ne e=>(Heap.hide_ne _ ne).trans (up0 a o e)
 have hid:∀ {a o},a≠163→s.heap.get? a=some o→B.heap.get? a=some o:=fun ne e=>(Heap.hide_ne _ ne).trans e
 have ns:∀ {a m},a≠163→s.heap.Ns a m→B.heap.Ns a m:=fun ne ⟨o,es,ep,e,r⟩=>⟨o,es,ep,hid ne e,r⟩
 obtain⟨bm,ob',b1,b2,b3,b4,b5,b6⟩:=T.bmain
 have b4':bm≠163:=by
  intro e
  have:look (Str.ofString "__builtins__") (mgL g)=some (.ref 4):=congrArg (fun x=>x.1.2.2.2.2) ob
  rw[hmL] at this
  rw[em,e] at b1
  rw[this] at b1
  cases b1
 have BS:hM (CfH w B g):=⟨EL up ob hl' (ns (by decide) T.b) T.builtins (let ⟨mc,h1,h2⟩:=T.nolimit;⟨mc,ns (by decide) h1,h2⟩),
  ⟨BH up ob,xF (kr (g:=s.heap.get?) (fun o=>hid (by decide)) y1),rfl⟩,Ea up ob,DE up ob hl' ((em _).symm.trans b1) b2 (hid b4' b3) b4 b5 b6⟩
 have FN:∀ {k st},cY k=true→dW k=some st→Bf (CfH w B g) k st:=fun h1 h2=>FV up ob h1 h2
 have c1:CallSem (CfH w B g) 54 (Ok noC 54):=tJ (d:=0) BS FN Bq 54
 have c2:CallSem (CfH w B g) 64 (Ok (XR 54) 10):=tJ (d:=54) BS FN (E5 c1) 10
 have e163:s.heap.get? 163=some (tabObj #[]):=up0 _ _ (congrArg (fun x=>x.2.2.1) ob)
 obtain⟨st',ok⟩:=Eb xs
 have S:Sim (CfH w B g) s.heap G0 St.empty:=HB e163
 let u:Wl (CfH w B g):=⟨s.heap,s.toks,G0,St.empty,S⟩
 have la_ne:la≠163:=by rintro rfl;rw[e163] at el;cases el
 have rl:Rls u [.lst (xs.map .int)] [.ref la]:= .cons (.lst (n:=0) el (if_neg la_ne) (ltr (leq (List.size_toArray.trans l2)) (ltr hl (by decide))) rel) .nil
 refine enter_call ((c2 (u:=u) ok).2 (A:=callerA) ⟨rfl,by decide,by decide⟩ rl fun u' x l es r=> ?_)
 cases r.boolI
 refine⟨.inl ⟨_,.bool true,[],rfl,fun _=>rfl,.bool true,wn _,fun _=>⟨List.nodup_nil,fun _ m=>nomatch m⟩⟩,?_,rfl,.of_eq hg⟩
 obtain⟨ps,t1,_⟩:=u'.ok.tabOk
 have cl:CodeHd s.heap 167 163:=BS.l.code.keeps fun b o e=>Heap.of_hide e
 have nd:∀b o,s.heap.get? b=some o→b≠163→u'.h.get? b=some o:=fun b o e ne=>u'.ok.base b o (hid ne e)
 refine⟨fun b o e=> ?_,fun b o e=> ?_⟩
 ·by_cases h:b=163
  ·subst h
   rw[e163] at e;cases e
   exact .inr (.inl ⟨(cl.tab e163).isCodeTable,rfl,#[],ps,rfl,by rw[Array.empty_append];exact t1⟩)
  ·exact .inl (nd b o e h)
 ·by_cases h:b=163
  ·subst h;exact⟨_,t1⟩
  ·exact⟨o,nd b o e h⟩
theorem E9:(chainsOk qv&&opensWell pw&&(frees rwl.row.toRowW&&rwl.row.within.isEmpty))=true:=by kernel_rfl
theorem HH:rwl.row.toRowW.promised:=⟨[.list []],by kernel_rfl,by kernel_rfl⟩
theorem Hz(h:Heap):RecFacts [] h:=by
 refine⟨fun x hx=>(List.not_mem_nil hx).elim,fun x hx=>(List.not_mem_nil hx).elim,fun c c' a hc=> ?_,fun c fs hf=> ?_⟩
 ·cases hc
 ·cases hf
theorem holds0:rwl.Holds:=holds_law HA fun k1=>PySem.W.holds_open (q:=qv) (loose:=lo) (Xt:=fun _=>true) (XP:=fun _ _=>True) (Yf:=Yf) (Ya:=Ya) (YP:=YP) (d:=dk.1) (kwd:=dk.2) (N:=7000) GA hY hYk (fun _ _=>trivial) (fun _ _ _ _ _=>trivial)
 Cz Hv HR (fun s _=>Hz s.heap) rfl k1 E9 ⟨rfl,rfl,rfl,rfl,rfl,by kernel_rfl⟩ HH zj
end Mine
end
theorem PySem.Challenge.cw_on0048_01_holds : PySem.Challenge.rw_on0048_01.Holds :=
  Mine.holds0
