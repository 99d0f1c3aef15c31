import PyProof.Rows.All
import Wide.All
import OpenK.AllK
import Wide.FinOn
import PySem.Challenge.RW_pq0006_01
set_option Elab.async false
set_option maxRecDepth 100000
set_option maxHeartbeats 0
set_option linter.all false
noncomputable section
namespace Mine
section
open PySem
open scoped Classical
set_option genSizeOf false in
inductive CV where
 | none | bool (b:Bool) | int (i:Int) | str (x:Str) | tup (l:List CV) | lst (l:List CV) | dct (es:List (CV×CV)) | ref (a:Nat)
set_option genSizeOf false in
inductive CObj where
 | list (l:List CV) | dict (es:List (CV×CV)) (ep:Nat) | inst (c:Nat) (fs:List (Nat×CV))
mutual
noncomputable def toD:CV→PyData
 | .none=>.none
 | .bool b=>.bool b
 | .int i=>.int i
 | .str x=>.str x
 | .tup l=>.tuple (toDs l)
 | .lst l=>.list (toDs l)
 | .dct _=>.dict []
 | .ref _=>.dict []
noncomputable def toDs:List CV→List PyData
 | []=>[]
 | x::r=>toD x::toDs r
end
noncomputable def plainD (a:CV):Bool:=(toD a).canLay0&&decide ((toD a).depth≤64)
noncomputable def peq (a b:CV):Option Bool:=if plainD a&&plainD b then some (PyData.eqv (toD a) (toD b)) else Option.none
noncomputable def strLt (a b:Str):Bool:=decide (a.cps.toList<b.cps.toList)
noncomputable def keyOk:CV→Bool
 | .int _=>true
 | .str _=>true
 | .tup l=>l.all fun | .int _=>true | .str x=>PyData.strOk x | _=>false
 | _=>false
noncomputable def sameKind:CV→CV→Bool
 | .int _,.int _=>true
 | .str _,.str _=>true
 | .tup _,.tup _=>true
 | _,_=>false
noncomputable def isInt:CV→Bool | .int _=>true | _=>false
set_option genSizeOf false in
set_option genInjectivity false in
inductive Op | add | sub | mul | mod
set_option genSizeOf false in
set_option genInjectivity false in
inductive Cmp | eq | ne | lt | le | gt | ge | is | isNot | isin | notin
set_option genSizeOf false in
set_option genInjectivity false in
inductive BId | len | sorted | sum | max | int | str | tuple | list | listm | dict
set_option genSizeOf false in
set_option genInjectivity false in
inductive MId | append | extend | pop | get | setdefault | isspace
set_option genSizeOf false in
set_option genInjectivity false in
inductive IK | val | range | enum | zip
set_option genSizeOf false in
set_option genInjectivity false in
mutual
inductive CE where
 | none | bool (b:Bool) | int (i:Int) | str (x:Str) | var (i:Nat)
 | bop (isAnd:Bool) (es:List CE)
 | not (e:CE) | neg (e:CE)
 | bin (op:Op) (a b:CE) | addm (a b:CE)
 | cmp (op:Cmp) (a b:CE) | cmp2 (o1 o2:Cmp) (a b c:CE)
 | ite (t a b:CE)
 | tup (es:List CE) | lst (es:List CE) | newl (es:List CE) | newd (kvs:List CE)
 | comp (m:Bool) (c:CC)
 | call (f:Nat) (es:List CE) | inst (c:Nat) (es:List CE) | bi (b:BId) (e:CE)
 | sortedSet (e:CE) | sortedItems (e:CE) | tupZip (a b:CE) | listRange (e:CE)
 | umeth (o:CE) (m:Nat) (es:List CE) | bmeth (o:CE) (m:MId) (es:List CE)
 | attr (o:CE) (a:Nat) | sub (o i:CE) | slice (o:CE) (lo hi:Option Int)
inductive CC where
 | elt (e:CE)
 | gen (t:List Nat) (one:Bool) (k:IK) (src:List CE) (cond:List CE) (rest:CC)
end
set_option genSizeOf false in
set_option genInjectivity false in
inductive CS where
 | assign (x:Nat) (e:CE) | assignA (o:CE) (a:Nat) (e:CE) | assignS (o i e:CE) | assignT (xs:List Nat) (e:CE)
 | expr (e:CE) | ite (t:CE) (a b:List CS) | while (t:CE) (b:List CS) | for (t:List Nat) (one:Bool) (k:IK) (src:List CE) (b:List CS)
 | ret (e:CE) | stop
set_option genSizeOf false in
set_option genInjectivity false in
structure CFn where
 params:Nat
 body:List CS
set_option genSizeOf false in
set_option genInjectivity false in
structure CProg where
 fns:List CFn
 meth:Nat→Nat→Option Nat
 init:Nat→Option Nat
abbrev CSt:=List CObj
abbrev Loc:=Nat→Option CV
noncomputable def upd (ρ:Loc) (x:Nat) (v:CV):Loc:=fun y=>if y=x then some v else ρ y
noncomputable def BIG:Nat:=100000
set_option genSizeOf false in
inductive Fl where
 | next | ret (v:CV)
noncomputable def listOf (σ:CSt):CV→Option (List CV)
 | .lst l=>some l
 | .ref a=>match σ[a]? with | some (.list l)=>some l | _=>none
 | _=>none
noncomputable def seqOf (σ:CSt):CV→Option (List CV)
 | .tup l=>some l
 | v=>listOf σ v
noncomputable def dictOf (σ:CSt):CV→Option (List (CV×CV))
 | .dct es=>some es
 | .ref a=>match σ[a]? with | some (.dict es _)=>some es | _=>none
 | _=>none
noncomputable def findK (es:List (CV×CV)) (k:CV):Option CV:=(es.find? fun e=>decide (e.1=k)).map (·.2)
noncomputable def setK:List (CV×CV)→CV→CV→List (CV×CV)
 | [],k,v=>[(k,v)]
 | e::r,k,v=>if e.1=k then (k,v)::r else e::setK r k v
noncomputable def hasK (es:List (CV×CV)) (k:CV):Bool:=es.any fun e=>decide (e.1=k)
noncomputable def eraseK (es:List (CV×CV)) (k:CV):List (CV×CV):=es.eraseP fun e=>decide (e.1=k)
noncomputable def dictMake:List (CV×CV)→List (CV×CV)→List (CV×CV)
 | es,[]=>es
 | es,(k,v)::r=>dictMake (setK es k v) r
noncomputable def containsL (x:CV) (l:List CV):Option Bool:=if plainD x&&plainD (.lst l) then some ((toDs l).any fun y=>PyData.eqv y (toD x)) else none
noncomputable def thaw (σ:CSt):CV→CV
 | .ref a=>match σ[a]? with | some (.list l)=>.lst l | _=>.ref a
 | v=>v
noncomputable def keyIn (k:CV) (es:List (CV×CV)):Bool:=keyOk k&&es.all fun e=>sameKind k e.1
noncomputable def small (i:Int):Bool:=decide (i.natAbs<2 ^ 31)
noncomputable def intsUpto (n:Int):List CV:=(List.range n.toNat).map fun i=>.int (Int.ofNat i)
noncomputable def bindAll:Loc→List Nat→List CV→Option Loc
 | ρ,[],[]=>some ρ
 | ρ,x::xs,v::vs=>bindAll (upd ρ x v) xs vs
 | _,_,_=>none
noncomputable def bindT (σ:CSt) (ρ:Loc) (t:List Nat) (one:Bool) (v:CV):Option Loc:=
 if one then bindAll ρ t [v] else (seqOf σ v).bind fun l=>bindAll ρ t l
noncomputable def setAttrL:List (Nat×CV)→Nat→CV→List (Nat×CV)
 | [],a,v=>[(a,v)]
 | (b,u)::r,a,v=>if b=a then (a,v)::r else (b,u)::setAttrL r a v
noncomputable def targetsC:CC→List Nat
 | .elt _=>[]
 | .gen t _ _ _ _ rest=>t++targetsC rest
noncomputable def clr (ts:List Nat) (ρ:Loc):Loc:=fun i=>if ts.contains i then none else ρ i
noncomputable def paramsL:Nat→List CV→Loc
 | _,[]=>fun _=>none
 | i,v::vs=>upd (paramsL (i+1) vs) i v
noncomputable def b_is_op:List CS:=[
 .ret (.bop true [.cmp .ne (.var 0) (.str ⟨#[]⟩),.cmp .eq (.comp false (.gen [1] true .val [.var 0] [.bop false [.bmeth (.var 1) .isspace [],.cmp .isin (.var 1) (.str ⟨#[40,41,91,93,123,125,44,58]⟩)]] (.elt (.var 1)))) (.lst [])])]
noncomputable def b_Bank_init:List CS:=[
 .assignA (.var 0) 0 (.newl []),
 .assignA (.var 0) 1 (.newd []),
 .assignA (.var 0) 2 (.newl []),
 .assignA (.var 0) 3 (.newl [])]
noncomputable def b_Bank_size:List CS:=[
 .ret (.bi .len (.attr (.var 0) 0))]
noncomputable def b_Bank_take:List CS:=[
 .assign 3 (.bin .add (.tup [.var 1]) (.bi .tuple (.var 2))),
 .ite (.cmp .isin (.var 3) (.attr (.var 0) 1)) [.ret (.sub (.attr (.var 0) 1) (.var 3))] [],
 .expr (.umeth (.var 0) 2 [.var 1]),
 .for [4] true .val [.slice (.var 3) (some 1) none] [.ite (.not (.cmp2 .le .lt (.int 0) (.var 4) (.bi .len (.attr (.var 0) 0)))) [.stop] []],
 .assignS (.attr (.var 0) 1) (.var 3) (.bi .len (.attr (.var 0) 0)),
 .expr (.bmeth (.attr (.var 0) 0) .append [.var 3]),
 .expr (.bmeth (.attr (.var 0) 2) .append [.bin .add (.int 1) (.bi .sum (.comp false (.gen [4] true .val [.slice (.var 3) (some 1) none] [] (.elt (.sub (.attr (.var 0) 2) (.var 4))))))]),
 .expr (.bmeth (.attr (.var 0) 3) .append [.bin .add (.int 1) (.bi .max (.bin .add (.comp false (.gen [4] true .val [.slice (.var 3) (some 1) none] [] (.elt (.sub (.attr (.var 0) 3) (.var 4))))) (.lst [.int 0])))]),
 .ret (.bin .sub (.bi .len (.attr (.var 0) 0)) (.int 1))]
noncomputable def b_Bank_require:List CS:=[
 .ite (.bop false [.not (.call 0 [.var 1]),.cmp .eq (.sub (.var 1) (.int 0)) (.str ⟨#[63]⟩)]) [.stop] []]
noncomputable def b_Bank_op:List CS:=[
 .ret (.sub (.sub (.attr (.var 0) 0) (.var 1)) (.int 0))]
noncomputable def b_Bank_kids:List CS:=[
 .ret (.slice (.sub (.attr (.var 0) 0) (.var 1)) (some 1) none)]
noncomputable def b_Bank_term:List CS:=[
 .assignT [2,3] (.tup [.newd [.var 1,.bool true],.newl [.var 1]]),
 .while (.cmp .gt (.bi .len (.var 3)) (.int 0)) [.for [4] true .val [.umeth (.var 0) 4 [.bmeth (.var 3) .pop []]] [.ite (.cmp .notin (.var 4) (.var 2)) [.assignS (.var 2) (.var 4) (.bool true),.expr (.bmeth (.var 3) .append [.var 4])] []]],
 .assign 5 (.newd []),
 .for [6] true .val [.bi .sorted (.var 2)] [.assignS (.var 5) (.var 6) (.bin .add (.tup [.umeth (.var 0) 3 [.var 6]]) (.bi .tuple (.comp false (.gen [4] true .val [.umeth (.var 0) 4 [.var 6]] [] (.elt (.sub (.var 5) (.var 4)))))))],
 .ret (.sub (.var 5) (.var 1))]
noncomputable def b_Unions_init:List CS:=[
 .assignA (.var 0) 4 (.newl []),
 .assignA (.var 0) 5 (.newl []),
 .assignA (.var 0) 6 (.newl [])]
noncomputable def b_Unions_make:List CS:=[
 .expr (.bmeth (.attr (.var 0) 4) .append [.bi .len (.attr (.var 0) 4)]),
 .expr (.bmeth (.attr (.var 0) 5) .append [.newl [.bi .len (.attr (.var 0) 5)]]),
 .ret (.bin .sub (.bi .len (.attr (.var 0) 4)) (.int 1))]
noncomputable def b_Unions_size:List CS:=[
 .ret (.bi .len (.attr (.var 0) 4))]
noncomputable def b_Unions_find:List CS:=[
 .while (.cmp .ne (.sub (.attr (.var 0) 4) (.var 1)) (.var 1)) [.assign 1 (.sub (.attr (.var 0) 4) (.var 1))],
 .ret (.var 1)]
noncomputable def b_Unions_merge:List CS:=[
 .assignT [3,4] (.bi .sorted (.lst [.umeth (.var 0) 7 [.var 1],.umeth (.var 0) 7 [.var 2]])),
 .ite (.cmp .eq (.var 3) (.var 4)) [.ret .none] [],
 .assignS (.attr (.var 0) 4) (.var 4) (.var 3),
 .expr (.bmeth (.sub (.attr (.var 0) 5) (.var 3)) .extend [.sub (.attr (.var 0) 5) (.var 4)]),
 .expr (.bmeth (.attr (.var 0) 6) .append [.tup [.var 3,.var 4]]),
 .ret (.tup [.var 3,.var 4])]
noncomputable def b_Unions_members:List CS:=[
 .ret (.bi .sorted (.sub (.attr (.var 0) 5) (.umeth (.var 0) 7 [.var 1])))]
noncomputable def b_Unions_classes:List CS:=[
 .ret (.comp false (.gen [1] true .range [.bi .len (.attr (.var 0) 4)] [.cmp .eq (.sub (.attr (.var 0) 4) (.var 1)) (.var 1)] (.elt (.var 1))))]
noncomputable def b_Heap_init:List CS:=[
 .assignA (.var 0) 7 (.inst 0 []),
 .assignA (.var 0) 8 (.inst 1 []),
 .assignA (.var 0) 9 (.newl []),
 .assignA (.var 0) 10 (.newl []),
 .assignA (.var 0) 11 (.newd []),
 .assignA (.var 0) 4 (.newd []),
 .assignA (.var 0) 12 (.newl []),
 .assignA (.var 0) 13 (.int 0)]
noncomputable def b_Heap_size:List CS:=[
 .ret (.umeth (.attr (.var 0) 7) 0 [])]
noncomputable def b_Heap_node:List CS:=[
 .ret (.bin .add (.tup [.umeth (.attr (.var 0) 7) 3 [.var 1]]) (.bi .tuple (.comp false (.gen [2] true .val [.umeth (.attr (.var 0) 7) 4 [.var 1]] [] (.elt (.umeth (.var 0) 7 [.var 2]))))))]
noncomputable def b_Heap_add:List CS:=[
 .assign 3 (.umeth (.attr (.var 0) 7) 1 [.var 1,.var 2]),
 .ite (.cmp .lt (.var 3) (.umeth (.attr (.var 0) 8) 0 [])) [.ret (.var 3)] [],
 .expr (.umeth (.attr (.var 0) 8) 6 []),
 .assignS (.attr (.var 0) 4) (.var 3) (.newl []),
 .for [5] true .val [.sortedSet (.comp false (.gen [4] true .val [.var 2] [] (.elt (.umeth (.var 0) 7 [.var 4]))))] [.expr (.bmeth (.sub (.attr (.var 0) 4) (.var 5)) .append [.var 3])],
 .expr (.umeth (.var 0) 13 [.var 3]),
 .ret (.var 3)]
noncomputable def b_Heap_look_at:List CS:=[
 .assign 2 (.bmeth (.attr (.var 0) 11) .setdefault [.umeth (.var 0) 11 [.var 1],.var 1]),
 .ite (.cmp .ne (.umeth (.var 0) 7 [.var 2]) (.umeth (.var 0) 7 [.var 1])) [.expr (.umeth (.var 0) 14 [.var 2,.var 1,.tup [.str ⟨#[108,105,107,101]⟩]])] []]
noncomputable def b_Heap_find:List CS:=[
 .ret (.umeth (.attr (.var 0) 8) 7 [.var 1])]
noncomputable def b_Heap_merge:List CS:=[
 .ret (.umeth (.var 0) 14 [.var 1,.var 2,.var 3])]
noncomputable def b_Heap_join:List CS:=[
 .expr (.bmeth (.attr (.var 0) 9) .append [.tup [.var 1,.var 2,.var 3]]),
 .assign 4 (.umeth (.attr (.var 0) 8) 8 [.var 1,.var 2]),
 .ite (.cmp .is (.var 4) .none) [.ret (.bool false)] [],
 .assignT [5,6] (.var 4),
 .expr (.bmeth (.attr (.var 0) 10) .append [.bin .sub (.bi .len (.attr (.var 0) 9)) (.int 1)]),
 .expr (.bmeth (.attr (.var 0) 12) .extend [.sub (.attr (.var 0) 4) (.var 6)]),
 .assignS (.attr (.var 0) 4) (.var 5) (.addm (.sub (.attr (.var 0) 4) (.var 5)) (.bmeth (.attr (.var 0) 4) .pop [.var 6])),
 .ret (.bool true)]
noncomputable def b_Heap_settle:List CS:=[
 .while (.cmp .gt (.bi .len (.attr (.var 0) 12)) (.int 0)) [.expr (.umeth (.var 0) 13 [.bmeth (.attr (.var 0) 12) .pop []])]]
noncomputable def b_Heap_classes:List CS:=[
 .ret (.umeth (.attr (.var 0) 8) 10 [])]
noncomputable def b_Heap_members:List CS:=[
 .ret (.umeth (.attr (.var 0) 8) 9 [.var 1])]
noncomputable def b_Heap_nodes_of:List CS:=[
 .ret (.sortedSet (.comp false (.gen [2] true .val [.umeth (.var 0) 9 [.var 1]] [] (.elt (.umeth (.var 0) 11 [.var 2])))))]
noncomputable def b_Heap_seek:List CS:=[
 .assign 3 (.bmeth (.attr (.var 0) 11) .get [.bin .add (.tup [.var 1]) (.bi .tuple (.comp false (.gen [4] true .val [.var 2] [] (.elt (.umeth (.var 0) 7 [.var 4]))))),.neg (.int 1)]),
 .ret (.ite (.cmp .lt (.var 3) (.int 0)) (.neg (.int 1)) (.umeth (.var 0) 7 [.var 3]))]
noncomputable def b_Meet_init:List CS:=[
 .assignA (.var 0) 14 (.var 1),
 .assignA (.var 0) 15 (.var 2),
 .assignA (.var 0) 16 (.inst 2 []),
 .assignA (.var 0) 1 (.newd []),
 .while (.umeth (.var 0) 19 []) [.expr (.umeth (.attr (.var 0) 16) 15 [])],
 .expr (.umeth (.attr (.var 0) 16) 15 [])]
noncomputable def b_Meet_nodes_by_op:List CS:=[
 .assign 2 (.newd []),
 .for [3] true .val [.umeth (.var 1) 10 []] [.for [4] true .val [.umeth (.var 1) 16 [.var 3]] [.expr (.bmeth (.bmeth (.var 2) .setdefault [.tup [.sub (.var 4) (.int 0),.bin .sub (.bi .len (.var 4)) (.int 1)],.newl []]) .append [.tup [.var 3,.var 4]])]],
 .ret (.var 2)]
noncomputable def b_Meet_go_up:List CS:=[
 .assignT [1,2,3] (.tup [.umeth (.var 0) 18 [.attr (.var 0) 14],.umeth (.var 0) 18 [.attr (.var 0) 15],.bool false]),
 .for [4] true .val [.bi .sorted (.var 1)] [.for [5,6] false .val [.sub (.var 1) (.var 4)] [.for [7,8] false .val [.bmeth (.var 2) .get [.var 4,.lst []]] [.ite (.umeth (.var 0) 20 [.tup [.var 5,.var 7],.sub (.var 6) (.int 0),.tupZip (.slice (.var 6) (some 1) none) (.slice (.var 8) (some 1) none)]) [.assign 3 (.bool true)] []]]],
 .ret (.var 3)]
noncomputable def b_Meet_put:List CS:=[
 .ite (.cmp .ne (.comp false (.gen [4] true .val [.var 3] [.cmp .notin (.var 4) (.attr (.var 0) 1)] (.elt (.var 4)))) (.lst [])) [.ret (.bool false)] [],
 .assign 5 (.umeth (.attr (.var 0) 16) 0 []),
 .assign 6 (.umeth (.attr (.var 0) 16) 12 [.var 2,.bi .tuple (.comp false (.gen [4] true .val [.var 3] [] (.elt (.sub (.attr (.var 0) 1) (.var 4)))))]),
 .ite (.cmp .eq (.umeth (.attr (.var 0) 16) 0 []) (.var 5)) [.ret (.bool false)] [],
 .expr (.umeth (.attr (.var 0) 16) 8 [.bmeth (.attr (.var 0) 1) .setdefault [.var 1,.var 6],.var 6,.tup [.str ⟨#[116,111,108,100]⟩,.str ⟨#[109,101,101,116]⟩]]),
 .ret (.bool true)]
noncomputable def b_Meet_class_of:List CS:=[
 .assign 3 (.bmeth (.attr (.var 0) 1) .get [.tup [.umeth (.attr (.var 0) 14) 7 [.var 1],.umeth (.attr (.var 0) 15) 7 [.var 2]],.neg (.int 1)]),
 .ret (.ite (.cmp .lt (.var 3) (.int 0)) (.neg (.int 1)) (.umeth (.attr (.var 0) 16) 7 [.var 3]))]
noncomputable def b_law_draw:List CS:=[
 .assignT [2,3] (.tup [.sub (.var 0) (.str ⟨#[99,101,108,108,115]⟩),.sub (.var 0) (.str ⟨#[115,112,111,116]⟩)]),
 .assignS (.var 0) (.str ⟨#[115,112,111,116]⟩) (.bin .add (.var 3) (.int 1)),
 .ite (.cmp .lt (.var 3) (.bi .len (.var 2))) [.ret (.bin .mod (.bi .int (.sub (.var 2) (.var 3))) (.var 1))] [],
 .ret (.bin .mod (.bin .mod (.bin .add (.bin .add (.bin .mul (.bin .mul (.int 3) (.var 3)) (.var 3)) (.bin .mul (.int 7) (.var 3))) (.bin .mul (.int 5) (.bi .len (.var 2)))) (.int 97)) (.var 1))]
noncomputable def b_law_side:List CS:=[
 .assignT [1,2] (.tup [.inst 2 [],.newl [.tup [.str ⟨#[97]⟩],.tup [.str ⟨#[98]⟩]]]),
 .for [3] true .range [.bin .add (.int 1) (.call 33 [.var 0,.int 3])] [.assignT [4,5] (.tup [.call 33 [.var 0,.int 3],.call 33 [.var 0,.bi .len (.var 2)]]),.assign 6 (.ite (.cmp .eq (.var 4) (.int 1)) (.tup [.str ⟨#[102]⟩,.var 5,.call 33 [.var 0,.bi .len (.var 2)]]) (.sub (.tup [.tup [.str ⟨#[102]⟩,.var 5],.tup [],.tup [.str ⟨#[97]⟩,.var 5]]) (.var 4))),.ite (.cmp .notin (.var 6) (.var 2)) [.expr (.bmeth (.var 2) .append [.var 6])] []],
 .for [6] true .val [.var 2] [.expr (.umeth (.var 1) 12 [.sub (.var 6) (.int 0),.slice (.var 6) (some 1) none])],
 .assign 7 (.newl []),
 .for [3] true .range [.call 33 [.var 0,.int 3]] [.expr (.bmeth (.var 7) .append [.tup [.call 33 [.var 0,.bi .len (.var 2)],.call 33 [.var 0,.bi .len (.var 2)]]]),.expr (.umeth (.var 1) 8 [.sub (.sub (.var 7) (.neg (.int 1))) (.int 0),.sub (.sub (.var 7) (.neg (.int 1))) (.int 1),.tup [.str ⟨#[116,111,108,100]⟩,.bin .add (.str ⟨#[116]⟩) (.bi .str (.var 3))]])],
 .expr (.umeth (.var 1) 15 []),
 .ret (.tup [.var 1,.var 2,.var 7])]
noncomputable def b_law_homes:List CS:=[
 .assignT [2,3] (.tup [.listRange (.bi .len (.var 0)),.bool true]),
 .while (.var 3) [.assignT [3,4] (.tup [.bool false,.bi .listm (.var 1)]),.for [5,6] false .enum [.var 0] [.for [7] true .range [.var 5] [.ite (.bop true [.cmp .eq (.sub (.sub (.var 0) (.var 7)) (.int 0)) (.sub (.var 6) (.int 0)),.cmp .eq (.comp false (.gen [8] true .val [.slice (.sub (.var 0) (.var 7)) (some 1) none] [] (.elt (.sub (.var 2) (.var 8))))) (.comp false (.gen [8] true .val [.slice (.var 6) (some 1) none] [] (.elt (.sub (.var 2) (.var 8)))))]) [.expr (.bmeth (.var 4) .append [.tup [.var 7,.var 5]])] []]],.for [9,10] false .val [.var 4] [.ite (.cmp .ne (.sub (.var 2) (.var 9)) (.sub (.var 2) (.var 10))) [.assignT [11,12] (.bi .sorted (.lst [.sub (.var 2) (.var 9),.sub (.var 2) (.var 10)])),.assignT [2,3] (.tup [.comp false (.gen [13] true .val [.var 2] [] (.elt (.ite (.cmp .eq (.var 13) (.var 12)) (.var 11) (.var 13)))),.bool true])] []]],
 .ret (.var 2)]
noncomputable def b_law_heads:List CS:=[
 .ret (.bi .dict (.comp false (.gen [2,3] false .enum [.var 0] [] (.elt (.tup [.bin .add (.tup [.sub (.var 3) (.int 0)]) (.bi .tuple (.comp false (.gen [4] true .val [.slice (.var 3) (some 1) none] [] (.elt (.sub (.var 1) (.var 4)))))),.sub (.var 1) (.var 2)])))))]
noncomputable def b_law_shared:List CS:=[
 .assignT [2,3] (.tup [.newd [],.neg (.int 1)]),
 .while (.cmp .gt (.bi .len (.var 2)) (.var 3)) [.assign 3 (.bi .len (.var 2)),.for [4] true .val [.var 0] [.for [5] true .val [.var 1] [.ite (.bop true [.cmp .eq (.sub (.var 4) (.int 0)) (.sub (.var 5) (.int 0)),.cmp .eq (.bi .len (.var 4)) (.bi .len (.var 5))]) [.ite (.cmp .eq (.comp false (.gen [6] true .zip [.slice (.var 4) (some 1) none,.slice (.var 5) (some 1) none] [.cmp .notin (.var 6) (.var 2)] (.elt (.int 1)))) (.lst [])) [.assignS (.var 2) (.tup [.sub (.var 0) (.var 4),.sub (.var 1) (.var 5)]) (.bool true)] []] []]]],
 .ret (.var 2)]
noncomputable def b_law_class:List CS:=[
 .assign 2 (.comp false (.gen [3] true .val [.slice (.var 0) (some 1) none] [] (.elt (.call 38 [.var 3,.var 1])))),
 .ret (.ite (.cmp .isin .none (.var 2)) .none (.bmeth (.var 1) .get [.bin .add (.tup [.sub (.var 0) (.int 0)]) (.bi .tuple (.var 2))]))]
noncomputable def b_law_place:List CS:=[
 .assign 2 (.comp false (.gen [3] true .val [.slice (.var 1) (some 1) none] [] (.elt (.call 39 [.var 0,.var 3])))),
 .ret (.ite (.cmp .isin (.neg (.int 1)) (.var 2)) (.neg (.int 1)) (.umeth (.var 0) 17 [.sub (.var 1) (.int 0),.var 2]))]
noncomputable def b_law_terms:List CS:=[
 .assign 0 (.lst [.tup [.str ⟨#[97]⟩],.tup [.str ⟨#[98]⟩]]),
 .assign 1 (.bin .add (.comp false (.gen [2] true .val [.var 0] [] (.elt (.tup [.str ⟨#[102]⟩,.var 2])))) (.comp false (.gen [2] true .val [.var 0] [] (.elt (.tup [.str ⟨#[97]⟩,.var 2]))))),
 .assign 1 (.bin .add (.var 1) (.comp false (.gen [2] true .val [.var 0] [] (.gen [3] true .val [.var 0] [] (.elt (.tup [.str ⟨#[102]⟩,.var 2,.var 3])))))),
 .assign 4 (.comp true (.gen [5] true .val [.tup [.str ⟨#[102]⟩,.str ⟨#[97]⟩]] [] (.gen [2] true .val [.var 1] [] (.elt (.tup [.var 5,.var 2]))))),
 .for [2] true .val [.var 1] [.for [6] true .val [.var 0] [.expr (.bmeth (.var 4) .extend [.lst [.tup [.str ⟨#[102]⟩,.var 2,.var 6],.tup [.str ⟨#[102]⟩,.var 6,.var 2]]])]],
 .ret (.bin .add (.bin .add (.var 0) (.var 1)) (.var 4))]
noncomputable def b_law_state:List CS:=[
 .assign 1 (.comp false (.gen [2] true .range [.umeth (.var 0) 0 []] [] (.elt (.umeth (.var 0) 7 [.var 2])))),
 .ret (.tup [.var 1,.bi .list (.attr (.var 0) 9),.bi .list (.attr (.var 0) 10),.sortedItems (.attr (.var 0) 11),.bi .list (.attr (.var 0) 12)])]
noncomputable def b_law:List CS:=[
 .assign 1 (.newd [.str ⟨#[99,101,108,108,115]⟩,.bi .list (.slice (.var 0) none (some 40)),.str ⟨#[115,112,111,116]⟩,.int 0]),
 .assignT [2,3,4] (.call 34 [.var 1]),
 .assignT [5,6,7] (.call 34 [.var 1]),
 .assign 8 (.lst [.call 41 [.var 2],.call 41 [.var 5]]),
 .assignT [9,10] (.tup [.call 35 [.var 3,.var 4],.call 35 [.var 6,.var 7]]),
 .assignT [11,12] (.tup [.call 36 [.var 3,.var 9],.call 36 [.var 6,.var 10]]),
 .assignT [13,14] (.tup [.call 37 [.var 11,.var 12],.newd []]),
 .assignT [15,16,17] (.tup [.inst 3 [.var 2,.var 5],.inst 3 [.var 5,.var 2],.inst 3 [.var 2,.var 5]]),
 .for [18] true .range [.bi .len (.var 3)] [.for [19] true .range [.bi .len (.var 6)] [.assignT [20,21] (.tup [.umeth (.var 15) 21 [.var 18,.var 19],.tup [.sub (.var 9) (.var 18),.sub (.var 10) (.var 19)]]),.ite (.bop false [.cmp .isNot (.cmp .ge (.var 20) (.int 0)) (.cmp .isin (.var 21) (.var 13)),.cmp .ne (.bmeth (.var 14) .setdefault [.var 21,.var 20]) (.var 20),.cmp .ne (.umeth (.var 17) 21 [.var 18,.var 19]) (.var 20)]) [.ret (.bool false)] [],.ite (.cmp .isNot (.cmp .ge (.umeth (.var 16) 21 [.var 19,.var 18]) (.int 0)) (.cmp .ge (.var 20) (.int 0))) [.ret (.bool false)] []]],
 .ite (.cmp .ne (.bi .sorted (.comp false (.gen [21] true .val [.var 13] [] (.elt (.sub (.var 14) (.var 21)))))) (.umeth (.attr (.var 15) 16) 10 [])) [.ret (.bool false)] [],
 .for [22] true .val [.call 40 []] [.assign 21 (.tup [.call 38 [.var 22,.var 11],.call 38 [.var 22,.var 12]]),.ite (.cmp .ne (.call 39 [.attr (.var 15) 16,.var 22]) (.ite (.cmp .isin .none (.var 21)) (.neg (.int 1)) (.sub (.var 14) (.var 21)))) [.ret (.bool false)] []],
 .for [23] true .range [.umeth (.attr (.var 15) 16) 0 []] [.assign 22 (.umeth (.attr (.attr (.var 15) 16) 7) 5 [.var 23]),.ite (.cmp .ne (.bmeth (.var 14) .get [.tup [.call 38 [.var 22,.var 11],.call 38 [.var 22,.var 12]],.neg (.int 1)]) (.umeth (.attr (.var 15) 16) 7 [.var 23])) [.ret (.bool false)] []],
 .ret (.cmp .eq (.lst [.call 41 [.var 2],.call 41 [.var 5]]) (.var 8))]
noncomputable def cprog:CProg where
 fns:=[⟨1,b_is_op⟩,⟨1,b_Bank_init⟩,⟨1,b_Bank_size⟩,⟨3,b_Bank_take⟩,⟨2,b_Bank_require⟩,⟨2,b_Bank_op⟩,⟨2,b_Bank_kids⟩,⟨2,b_Bank_term⟩,⟨1,b_Unions_init⟩,⟨1,b_Unions_make⟩,⟨1,b_Unions_size⟩,⟨2,b_Unions_find⟩,⟨3,b_Unions_merge⟩,⟨2,b_Unions_members⟩,⟨1,b_Unions_classes⟩,⟨1,b_Heap_init⟩,⟨1,b_Heap_size⟩,⟨2,b_Heap_node⟩,⟨3,b_Heap_add⟩,⟨2,b_Heap_look_at⟩,⟨2,b_Heap_find⟩,⟨4,b_Heap_merge⟩,⟨4,b_Heap_join⟩,⟨1,b_Heap_settle⟩,⟨1,b_Heap_classes⟩,⟨2,b_Heap_members⟩,⟨2,b_Heap_nodes_of⟩,⟨3,b_Heap_seek⟩,⟨3,b_Meet_init⟩,⟨2,b_Meet_nodes_by_op⟩,⟨1,b_Meet_go_up⟩,⟨4,b_Meet_put⟩,⟨3,b_Meet_class_of⟩,⟨2,b_law_draw⟩,⟨1,b_law_side⟩,⟨2,b_law_homes⟩,⟨2,b_law_heads⟩,⟨2,b_law_shared⟩,⟨2,b_law_class⟩,⟨2,b_law_place⟩,⟨0,b_law_terms⟩,⟨1,b_law_state⟩,⟨1,b_law⟩]
 meth:=fun c m=>match c,m with
  | 0,0=>some 2
  | 0,1=>some 3
  | 0,2=>some 4
  | 0,3=>some 5
  | 0,4=>some 6
  | 0,5=>some 7
  | 1,6=>some 9
  | 1,0=>some 10
  | 1,7=>some 11
  | 1,8=>some 12
  | 1,9=>some 13
  | 1,10=>some 14
  | 2,0=>some 16
  | 2,11=>some 17
  | 2,12=>some 18
  | 2,13=>some 19
  | 2,7=>some 20
  | 2,8=>some 21
  | 2,14=>some 22
  | 2,15=>some 23
  | 2,10=>some 24
  | 2,9=>some 25
  | 2,16=>some 26
  | 2,17=>some 27
  | 3,18=>some 29
  | 3,19=>some 30
  | 3,20=>some 31
  | 3,21=>some 32
  | _,_=>none
 init:=fun c=>match c with
  | 0=>some 1
  | 1=>some 8
  | 2=>some 15
  | 3=>some 28
  | _=>none
/- variables of each function,in order
0 is_op ['text','sign']
1 Bank.__init__ ['self']
2 Bank.size ['self']
3 Bank.take ['self','op','kids','node','kid']
4 Bank.require ['self','op']
5 Bank.op ['self','n']
6 Bank.kids ['self','n']
7 Bank.term ['self','n','below','stack','kid','made','k']
8 Unions.__init__ ['self']
9 Unions.make ['self']
10 Unions.size ['self']
11 Unions.find ['self','a']
12 Unions.merge ['self','a','b','kept','gone']
13 Unions.members ['self','a']
14 Unions.classes ['self','a']
15 Heap.__init__ ['self']
16 Heap.size ['self']
17 Heap.node ['self','n','kid']
18 Heap.add ['self','op','numbers','n','kid','c']
19 Heap.look_at ['self','n','other']
20 Heap.find ['self','n']
21 Heap.merge ['self','a','b','reason']
22 Heap.join ['self','a','b','reason','merged','kept','gone']
23 Heap.settle ['self']
24 Heap.classes ['self']
25 Heap.members ['self','c']
26 Heap.nodes_of ['self','c','n']
27 Heap.seek ['self','op','classes','n','c']
28 Meet.__init__ ['self','one','other']
29 Meet.nodes_by_op ['self','heap','found','c','node']
30 Meet.go_up ['self','mine','theirs','is_new','head','c','node','d','late']
31 Meet.put ['self','pair','op','kids','kid','many','n']
32 Meet.class_of ['self','a','b','n']
33 _law_draw ['feed','wide','cells','spot']
34 _law_side ['feed','heap','rows','lap','way','kid','row','pairs']
35 _law_homes ['rows','pairs','homes','is_turned','wanted','n','row','m','kid','one','other','low','high','home']
36 _law_heads ['rows','homes','n','row','kid']
37 _law_shared ['heads','late','shared','many','one','other','pair']
38 _law_class ['term','heads','kids','kid']
39 _law_place ['heap','term','kids','kid']
40 _law_terms ['leaves','some','one','other','more','op','leaf']
41 _law_state ['heap','homes','n']
42 law ['script','feed','one','rows','told','other','late_rows','late_told','states','homes','late_homes','heads','late_heads','shared','spots','meet','mirror','again','a','b','c','pair','term','n']
methods [(0,'size'),(1,'take'),(2,'require'),(3,'op'),(4,'kids'),(5,'term'),(6,'make'),(7,'find'),(8,'merge'),(9,'members'),(10,'classes'),(11,'node'),(12,'add'),(13,'look_at'),(14,'join'),(15,'settle'),(16,'nodes_of'),(17,'seek'),(18,'nodes_by_op'),(19,'go_up'),(20,'put'),(21,'class_of')]
attrs [(0,'nodes'),(1,'numbers'),(2,'weights'),(3,'depths'),(4,'above'),(5,'lots'),(6,'merged'),(7,'bank'),(8,'unions'),(9,'edges'),(10,'forest'),(11,'known'),(12,'waiting'),(13,'backs'),(14,'one'),(15,'other'),(16,'heap')]
-/
end
section
open PySem PySem.W PyProof.Rows
open scoped Classical
abbrev tupO (xs:Array Value) (n:Nat):Obj:=⟨.type "tuple",none,.seq xs n,#[]⟩
abbrev lstO (xs:Array Value) (n:Nat):Obj:=⟨.type "list",none,.seq xs n,#[]⟩
abbrev dctO (es:Array DictEntry) (n:Nat):Obj:=⟨.type "dict",none,.dict es n,#[]⟩
noncomputable def attrT:List Str:=["nodes","numbers","weights","depths","above","lots","merged","bank","unions","edges","forest","known","waiting","backs","one","other","heap"]
noncomputable def attrN (a:Nat):Str:=attrT.getD a ""
noncomputable def clsT:List Addr:=[174,256,386,433]
noncomputable def clsN (c:Nat):Addr:=clsT.getD c 0
noncomputable def hashT (hs:List Int):Int:=reduceHash (Builtin.Tuple.tupleHashOf hs)
mutual
noncomputable def hashCV (w:World):CV→Int
 | .int i=>hashInt i
 | .str x=>hashStr w x
 | .tup l=>hashT (hashCVs w l)
 | _=>0
noncomputable def hashCVs (w:World):List CV→List Int
 | []=>[]
 | x::r=>hashCV w x::hashCVs w r
end
abbrev Mu:=List (Addr×Addr)
noncomputable def foot (μ:Mu) (b:Addr):Prop:=∃(i:Nat) (p:Addr×Addr),μ[i]?=some p∧(b=p.1∨b=p.2)
section
variable (w:World) (X:List Addr) (μ:Mu) (h:Heap)
mutual
noncomputable def VR:CV→Value→Prop
 | .none,v=>v = .none
 | .bool b,v=>v = .bool b
 | .int i,v=>∃t,v = .int i t
 | .str x,v=>∃t,v = .str x t
 | .tup l,v=>∃a xs n,v = .ref a∧h.get? a=some (tupO xs n)∧¬foot μ a∧a∉X∧VRs l xs.toList
 | .lst l,v=>∃a xs n,v = .ref a∧h.get? a=some (lstO xs n)∧¬foot μ a∧a∉X∧VRs l xs.toList
 | .dct es,v=>∃a ds n,v = .ref a∧h.get? a=some (dctO ds n)∧¬foot μ a∧a∉X∧(a==sysModules)=false∧DRs es ds.toList∧(es.map (·.1)).Nodup
 | .ref i,v=>∃p,μ[i]?=some p∧v = .ref p.1
noncomputable def VRs:List CV→List Value→Prop
 | [],[]=>True
 | c::cs,v::vs=>VR c v∧VRs cs vs
 | _,_=>False
noncomputable def DRs:List (CV×CV)→List DictEntry→Prop
 | [],[]=>True
 | (k,c)::r,e::es=>VR k e.key∧VR c e.val∧e.hash=hashCV w k∧keyOk k=true∧DRs r es
 | _,_=>False
end
noncomputable def ARs:List (Nat×CV)→List DictEntry→Prop
 | [],[]=>True
 | (a,c)::r,e::es=>(∃t,e.key = .str (attrN a) t)∧a<17∧VR w X μ h c e.val∧ARs r es
 | _,_=>False
noncomputable def OR (p:Addr×Addr):CObj→Prop
 | .list l=>p.2=p.1∧∃xs n,h.get? p.1=some (lstO xs n)∧VRs w X μ h l xs.toList
 | .dict es ep=>p.2=p.1∧(p.1==sysModules)=false∧∃ds,h.get? p.1=some (dctO ds ep)∧DRs w X μ h es ds.toList∧(es.map (·.1)).Nodup
 | .inst c fs=>p.1≠p.2∧c<4∧h.get? p.1=some (instObj (clsN c) p.2)∧fs.length≤17∧∃ds n,h.get? p.2=some (dctO ds n)∧ARs w X μ h fs ds.toList∧(fs.map (·.1)).Nodup
end
structure Rel (w:World) (base:Heap) (X:List Addr) (μ:Mu) (σ:CSt) (h:Heap):Prop where
 len:μ.length=σ.length
 obj:∀(i:Nat) p o,μ[i]?=some p→σ[i]?=some o→OR w X μ h p o
 apart:∀(i j:Nat) p q,i≠j→μ[i]?=some p→μ[j]?=some q→p.1≠q.1∧p.1≠q.2∧p.2≠q.1∧p.2≠q.2
 notX:∀b,foot μ b→b∉X
 keep:∀b o,base.get? b=some o→h.get? b=some o
 above:∀b,foot μ b→base.get? b=none
 inside:∀b,foot μ b→∃o,h.get? b=some o
 insideX:∀b∈X,∃o,h.get? b=some o
 aboveX:∀b∈X,base.get? b=none
structure St (fr:List Addr) (μ:Mu) (s:Shared) (μ':Mu) (s':Shared):Prop where
 pre:∀(i:Nat) p,μ[i]?=some p→μ'[i]?=some p
 new:∀b,foot μ' b→foot μ b∨s.heap.get? b=none
 keep:∀b o,s.heap.get? b=some o→¬foot μ b→b∉fr→s'.heap.get? b=some o
 os:s'.os=s.os
 gens:s'.gens=s.gens
theorem St.refl (fr:List Addr) (μ:Mu) (s:Shared):St fr μ s μ s:=⟨fun ξ ξ e=>e,fun ξ f=>.inl f,fun ξ ξ e ξ ξ=>e,rfl,rfl⟩
theorem St.tok {fr:List Addr} {μ μ':Mu} {s s':Shared} (x:St fr μ s μ' s') (t:Nat):St fr μ s μ' { s' with toks:=t }:=⟨x.pre,x.new,x.keep,x.os,x.gens⟩
theorem not_none {h:Heap} {b:Addr} {o:Obj} (e:h.get? b=some o) (n:h.get? b=none):False:=by rw [e] at n;cases n
theorem none_of {h h':Heap} {b:Addr} (k:∀o,h.get? b=some o→∃o',h'.get? b=some o') (n:h'.get? b=none):h.get? b=none:=by
 cases e:h.get? b with
 | none=>rfl
 | some o=>obtain ⟨o',e'⟩:=k o e;exact (not_none e' n).elim
theorem St.trans {fr:List Addr} {μ μ₁ μ₂:Mu} {s s₁ s₂:Shared} (hf:∀b∈fr,∃o,s₁.heap.get? b=some o) (x:St fr μ s μ₁ s₁) (y:St fr μ₁ s₁ μ₂ s₂):St fr μ s μ₂ s₂ where
 pre i p e:=y.pre i p (x.pre i p e)
 new b f:=by
  rcases y.new b f with f | l
  ·exact x.new b f
  ·by_cases fb:foot μ b
   ·exact .inl fb
   ·by_cases m:b∈fr
    ·obtain ⟨o,e⟩:=hf b m;exact (not_none e l).elim
    ·exact .inr (none_of (fun o e=>⟨o,x.keep b o e fb m⟩) l)
 keep b o e nf nr:=y.keep b o (x.keep b o e nf nr) (fun f=>(x.new b f).elim nf fun l=>not_none e l) nr
 os:=y.os.trans x.os
 gens:=y.gens.trans x.gens
theorem St.trans0 {μ μ₁ μ₂:Mu} {s s₁ s₂:Shared} (x:St [] μ s μ₁ s₁) (y:St [] μ₁ s₁ μ₂ s₂):St [] μ s μ₂ s₂:=x.trans (by simp) y
theorem St.weaken {fr fr':List Addr} {μ μ':Mu} {s s':Shared} (x:St fr μ s μ' s') (k:∀b∈fr,b∈fr'∨s.heap.get? b=none):St fr' μ s μ' s' where
 pre:=x.pre
 new:=x.new
 keep b o e nf nr:=x.keep b o e nf fun m=>(k b m).elim nr fun l=>not_none e l
 os:=x.os
 gens:=x.gens
theorem foot.pre {μ μ':Mu} (k:∀(i:Nat) p,μ[i]?=some p→μ'[i]?=some p) {b:Addr} (f:foot μ b):foot μ' b:=(by obtain ⟨i,p,e,q⟩:=f;exact ⟨i,p,k i p e,q⟩)
section
variable {w:World} {X:List Addr} {μ μ':Mu} {h h':Heap}
structure Kp (X:List Addr) (μ:Mu) (h:Heap) (X':List Addr) (μ':Mu) (h':Heap):Prop where
 pre:∀(i:Nat) p,μ[i]?=some p→μ'[i]?=some p
 at_:∀b o,h.get? b=some o→¬foot μ b→b∉X→h'.get? b=some o∧¬foot μ' b∧b∉X'
variable {X':List Addr}
mutual
theorem VR.mono (k:Kp X μ h X' μ' h'):∀(c:CV) {v:Value},VR w X μ h c v→VR w X' μ' h' c v
 | .none,_,e=>e
 | .bool _,_,e=>e
 | .int _,_,e=>e
 | .str _,_,e=>e
 | .tup l,_,r=>by
  obtain ⟨a,xs,n,e,g,nf,nx,r⟩:=r
  obtain ⟨g',nf',nx'⟩:=k.at_ a _ g nf nx
  exact ⟨a,xs,n,e,g',nf',nx',VRs.mono k l r⟩
 | .lst l,_,r=>by
  obtain ⟨a,xs,n,e,g,nf,nx,r⟩:=r
  obtain ⟨g',nf',nx'⟩:=k.at_ a _ g nf nx
  exact ⟨a,xs,n,e,g',nf',nx',VRs.mono k l r⟩
 | .dct es,_,r=>by
  obtain ⟨a,ds,n,e,g,nf,nx,sm,r,nd⟩:=r
  obtain ⟨g',nf',nx'⟩:=k.at_ a _ g nf nx
  exact ⟨a,ds,n,e,g',nf',nx',sm,DRs.mono k es r,nd⟩
 | .ref i,_,r=>by
  obtain ⟨p,e,q⟩:=r
  exact ⟨p,k.pre i p e,q⟩
theorem VRs.mono (k:Kp X μ h X' μ' h'):∀(cs:List CV) {vs:List Value},VRs w X μ h cs vs→VRs w X' μ' h' cs vs
 | [],[],_=>trivial
 | [],_::_,r=>r
 | _::_,[],r=>r
 | c::cs,_::_,r=>⟨VR.mono k c r.1,VRs.mono k cs r.2⟩
theorem DRs.mono (k:Kp X μ h X' μ' h'):∀(es:List (CV×CV)) {ds:List DictEntry},DRs w X μ h es ds→DRs w X' μ' h' es ds
 | [],[],_=>trivial
 | [],_::_,r=>r
 | _::_,[],r=>r
 | (k₁,c)::es,_::_,r=>⟨VR.mono k k₁ r.1,VR.mono k c r.2.1,r.2.2.1,r.2.2.2.1,DRs.mono k es r.2.2.2.2⟩
end
theorem ARs.mono (k:Kp X μ h X' μ' h'):∀(fs:List (Nat×CV)) {ds:List DictEntry},ARs w X μ h fs ds→ARs w X' μ' h' fs ds
 | [],[],_=>trivial
 | [],_::_,r=>r
 | _::_,[],r=>r
 | (_,c)::fs,_::_,r=>⟨r.1,r.2.1,VR.mono k c r.2.2.1,ARs.mono k fs r.2.2.2⟩
end
theorem VRs.length {w:World} {X:List Addr} {μ:Mu} {h:Heap}:∀{cs:List CV} {vs:List Value},VRs w X μ h cs vs→vs.length=cs.length:=by
 intro l1
 induction l1 with
 | nil=>
  intro l2
  cases l2 with
  | nil=>
   intro ξ
   exact rfl
  | cons ξ ξ=>
   intro r
   exact r.elim
 | cons ξ ξ ih=>
  intro l3
  cases l3 with
  | nil=>
   intro r
   exact r.elim
  | cons ξ ξ=>
   intro r
   exact congrArg (·+1) (ih r.2)
theorem DRs.length {w:World} {X:List Addr} {μ:Mu} {h:Heap}:∀{cs:List (CV×CV)} {vs:List DictEntry},DRs w X μ h cs vs→vs.length=cs.length:=by
 intro l4
 induction l4 with
 | nil=>
  intro l5
  cases l5 with
  | nil=>
   intro ξ
   exact rfl
  | cons ξ ξ=>
   intro r
   exact r.elim
 | cons ξ ξ ih=>
  intro l6
  cases l6 with
  | nil=>
   intro r
   exact r.elim
  | cons ξ ξ=>
   intro r
   exact congrArg (·+1) (ih r.2.2.2.2)
theorem VRs.get {w:World} {X:List Addr} {μ:Mu} {h:Heap}:∀{cs:List CV} {vs:List Value} {i:Nat} {c:CV},VRs w X μ h cs vs→cs[i]?=some c→∃v,vs[i]?=some v∧VR w X μ h c v:=by
 intro l7
 induction l7 with
 | nil=>
  intro ξ ξ ξ ξ e
  cases e
 | cons c cs ih=>
  intro l8
  cases l8 with
  | nil=>
   intro ξ ξ r ξ
   exact r.elim
  | cons v vs=>
   intro l9
   cases l9 with
   | zero=>
    intro ξ r e
    cases e;exact ⟨v,rfl,r.1⟩
   | succ i=>
    intro ξ r e
    exact ih (i:=i) r.2 e
theorem VRs.append {w:World} {X:List Addr} {μ:Mu} {h:Heap}:∀{cs ds:List CV} {vs us:List Value},VRs w X μ h cs vs→VRs w X μ h ds us→VRs w X μ h (cs++ds) (vs++us):=by
 intro l10
 induction l10 with
 | nil=>
  intro ξ l11
  cases l11 with
  | nil=>
   intro ξ ξ r
   exact r
  | cons ξ ξ=>
   intro ξ r ξ
   exact r.elim
 | cons ξ ξ ih=>
  intro ξ l12
  cases l12 with
  | nil=>
   intro ξ r ξ
   exact r.elim
  | cons ξ ξ=>
   intro ξ r q
   exact ⟨r.1,ih r.2 q⟩
theorem VRs.drop {w:World} {X:List Addr} {μ:Mu} {h:Heap}:∀{cs:List CV} {vs:List Value} (n:Nat),VRs w X μ h cs vs→VRs w X μ h (cs.drop n) (vs.drop n):=by
 intro l13
 induction l13 with
 | nil=>
  intro l14
  cases l14 with
  | nil=>
   intro l15
   cases l15 with
   | zero=>
    intro r
    simpa using r
   | succ ξ=>
    intro r
    simpa using r
  | cons ξ ξ=>
   intro l16
   cases l16 with
   | zero=>
    intro r
    simpa using r
   | succ ξ=>
    intro r
    exact r.elim
 | cons ξ ξ ih=>
  intro l17
  cases l17 with
  | nil=>
   intro l18
   cases l18 with
   | zero=>
    intro r
    simpa using r
   | succ ξ=>
    intro r
    exact r.elim
  | cons ξ ξ=>
   intro l19
   cases l19 with
   | zero=>
    intro r
    simpa using r
   | succ n=>
    intro r
    simpa using ih n r.2
theorem VRs.take {w:World} {X:List Addr} {μ:Mu} {h:Heap}:∀{cs:List CV} {vs:List Value} (n:Nat),VRs w X μ h cs vs→VRs w X μ h (cs.take n) (vs.take n):=by
 intro l20
 induction l20 with
 | nil=>
  intro l21
  cases l21 with
  | nil=>
   intro l22
   cases l22 with
   | zero=>
    intro r
    exact trivial
   | succ ξ=>
    intro r
    exact trivial
  | cons ξ ξ=>
   intro l23
   cases l23 with
   | zero=>
    intro r
    exact trivial
   | succ ξ=>
    intro r
    exact r.elim
 | cons ξ ξ ih=>
  intro l24
  cases l24 with
  | nil=>
   intro l25
   cases l25 with
   | zero=>
    intro r
    exact trivial
   | succ ξ=>
    intro r
    exact r.elim
  | cons ξ ξ=>
   intro l26
   cases l26 with
   | zero=>
    intro r
    exact trivial
   | succ n=>
    intro r
    exact ⟨r.1,ih n r.2⟩
theorem St.kp {fr X:List Addr} {μ μ':Mu} {s s':Shared} (x:St fr μ s μ' s') (hf:∀b∈fr,b∈X):Kp X μ s.heap X μ' s'.heap where
 pre:=x.pre
 at_ b o e nf nx:=⟨x.keep b o e nf fun m=>nx (hf b m),fun f=>(x.new b f).elim nf fun l=>not_none e l,nx⟩
section
variable {w:World} {base:Heap} {X:List Addr} {μ μ':Mu} {σ:CSt} {h h':Heap}
theorem Rel.kpX (R:Rel w base X μ σ h) (k:∀b o,h.get? b=some o→b∉X→h'.get? b=some o):Kp X μ h X μ h':=
 ⟨fun ξ ξ e=>e,fun b o e nf nx=>⟨k b o e nx,nf,nx⟩⟩
theorem OR.keepX (R:Rel w base X μ σ h) (k:∀b o,h.get? b=some o→b∉X→h'.get? b=some o) {i:Nat} {p:Addr×Addr} (hp:μ[i]?=some p):∀{o:CObj},OR w X μ h p o→OR w X μ h' p o:=by
 have n1:=R.notX _ ⟨i,p,hp,.inl rfl⟩
 have n2:=R.notX _ ⟨i,p,hp,.inr rfl⟩
 have kp:=R.kpX k
 intro o r
 cases o with
 | list=>
  obtain ⟨e,xs,n,g,r⟩:=r
  exact ⟨e,xs,n,k _ _ g n1,VRs.mono kp _ r⟩
 | dict=>
  obtain ⟨e,sm,ds,g,r,nd⟩:=r
  exact ⟨e,sm,ds,k _ _ g n1,DRs.mono kp _ r,nd⟩
 | inst=>
  obtain ⟨e,c,g,fl,ds,n,g2,r,nd⟩:=r
  exact ⟨e,c,k _ _ g n1,fl,ds,n,k _ _ g2 n2,ARs.mono kp _ r,nd⟩
theorem Rel.keepX (R:Rel w base X μ σ h) (k:∀b o,h.get? b=some o→b∉X→h'.get? b=some o) (z:∀b∈X,∃o,h'.get? b=some o):Rel w base X μ σ h' where
 len:=R.len
 obj i p o hp ho:=OR.keepX R k hp (R.obj i p o hp ho)
 apart:=R.apart
 notX:=R.notX
 keep b o e:=k b o (R.keep b o e) fun m=>not_none e (R.aboveX b m)
 above:=R.above
 inside b f:=(by obtain ⟨o,e⟩:=R.inside b f;exact ⟨o,k b o e (R.notX b f)⟩)
 insideX:=z
 aboveX:=R.aboveX
theorem Rel.keeps (R:Rel w base X μ σ h) (k:∀b o,h.get? b=some o→h'.get? b=some o):Rel w base X μ σ h':=R.keepX (fun b o e ξ=>k b o e) fun b m=>(by obtain ⟨o,e⟩:=R.insideX b m;exact ⟨o,k b o e⟩)
theorem Rel.push (R:Rel w base X μ σ h) (o:Obj):Rel w base X μ σ (h.push o):=R.keeps (fun ξ ξ e=>Heap.get?_push_of_some _ e)
theorem Kp.of_keeps (k:∀b o,h.get? b=some o→h'.get? b=some o):Kp X μ h X μ h':=⟨fun ξ ξ e=>e,fun b o e nf nx=>⟨k b o e,nf,nx⟩⟩
theorem Kp.push (o:Obj):Kp X μ h X μ (h.push o):=.of_keeps fun ξ ξ e=>Heap.get?_push_of_some _ e
theorem St.of_keeps {fr:List Addr} {s:Shared} {tk:Nat} {dr:Drawn} (k:∀b o,s.heap.get? b=some o→h'.get? b=some o):St fr μ s μ { s with heap:=h',toks:=tk,drawn:=dr }:=
 ⟨fun ξ ξ e=>e,fun ξ f=>.inl f,fun b o e ξ ξ=>k b o e,rfl,rfl⟩
theorem St.push {fr:List Addr} {s:Shared} (o:Obj) (tk:Nat):St fr μ s μ { s with heap:=s.heap.push o,toks:=tk }:=
 .of_keeps (fun ξ ξ e=>Heap.get?_push_of_some _ e)
theorem get_size (h:Heap):h.get? h.objs.size=none:=by
 cases e:h.get? h.objs.size with
 | none=>rfl
 | some o=>exact absurd (Heap.lt_size e) (Nat.lt_irrefl _)
theorem Rel.fresh (R:Rel w base X μ σ h) {b:Addr} (n:h.get? b=none):¬foot μ b∧b∉X:=⟨fun f=>(by obtain ⟨ξ,e⟩:=R.inside _ f;exact not_none e n),fun m=>(by obtain ⟨ξ,e⟩:=R.insideX _ m;exact not_none e n)⟩
theorem Rel.notSize (R:Rel w base X μ σ h):¬foot μ h.objs.size∧h.objs.size∉X:=R.fresh (get_size h)
theorem Rel.fewer {Y:List Addr} (R:Rel w base X μ σ h) (k:∀b∈Y,b∈X):Rel w base Y μ σ h:=by
 have kp:Kp X μ h Y μ h:=⟨fun ξ ξ e=>e,fun b o e nf nx=>⟨e,nf,fun m=>nx (k b m)⟩⟩
 refine ⟨R.len,fun i p o hp ho=>?_,R.apart,fun b f m=>R.notX b f (k b m),R.keep,R.above,R.inside,fun b m=>R.insideX b (k b m),fun b m=>R.aboveX b (k b m)⟩
 have:=R.obj i p o hp ho
 cases o with
 | list l=>obtain ⟨e,xs,n,g,r⟩:=this;exact ⟨e,xs,n,g,VRs.mono kp _ r⟩
 | dict es ep=>obtain ⟨e,sm,ds,g,r,nd⟩:=this;exact ⟨e,sm,ds,g,DRs.mono kp _ r,nd⟩
 | inst c fs=>obtain ⟨e,c',g,fl,ds,n,g2,r,nd⟩:=this;exact ⟨e,c',g,fl,ds,n,g2,ARs.mono kp _ r,nd⟩
theorem VR.fewer {Y:List Addr} (k:∀b∈Y,b∈X) {c:CV} {v:Value} (r:VR w X μ h c v):VR w Y μ h c v:=
 VR.mono ⟨fun ξ ξ e=>e,fun b o e nf nx=>⟨e,nf,fun m=>nx (k b m)⟩⟩ c r
theorem Rel.more {Y:List Addr} (R:Rel w base X μ σ h) (k:∀b o,h.get? b=some o→h'.get? b=some o) (f:∀b∈Y,h.get? b=none∧∃o,h'.get? b=some o):Rel w base (Y++X) μ σ h':=by
 have kp:Kp X μ h (Y++X) μ h':=⟨fun ξ ξ e=>e,fun b o e nf nx=>⟨k b o e,nf,fun m=>(List.mem_append.mp m).elim (fun m=>not_none e (f b m).1) nx⟩⟩
 refine ⟨R.len,fun i p o hp ho=>?_,R.apart,fun b fb m=>?_,fun b o e=>k b o (R.keep b o e),R.above,fun b fb=>(by obtain ⟨o,e⟩:=R.inside b fb;exact ⟨o,k b o e⟩),fun b m=>?_,fun b m=>?_⟩
 ·have:=R.obj i p o hp ho
  cases o with
  | list l=>obtain ⟨e,xs,n,g,r⟩:=this;exact ⟨e,xs,n,k _ _ g,VRs.mono kp _ r⟩
  | dict es ep=>obtain ⟨e,sm,ds,g,r,nd⟩:=this;exact ⟨e,sm,ds,k _ _ g,DRs.mono kp _ r,nd⟩
  | inst c fs=>obtain ⟨e,c',g,fl,ds,n,g2,r,nd⟩:=this;exact ⟨e,c',k _ _ g,fl,ds,n,k _ _ g2,ARs.mono kp _ r,nd⟩
 ·exact (List.mem_append.mp m).elim (fun m=>(by obtain ⟨ξ,e⟩:=R.inside b fb;exact not_none e (f b m).1)) (R.notX b fb)
 ·exact (List.mem_append.mp m).elim (fun m=>(f b m).2) fun m=>(by obtain ⟨o,e⟩:=R.insideX b m;exact ⟨o,k b o e⟩)
 ·refine (List.mem_append.mp m).elim (fun m=>none_of (fun o e=>⟨o,R.keep b o e⟩) (f b m).1) fun m=>R.aboveX b m
theorem VR.more {Y:List Addr} (k:∀b o,h.get? b=some o→h'.get? b=some o) (f:∀b∈Y,h.get? b=none) {c:CV} {v:Value} (r:VR w X μ h c v):VR w (Y++X) μ h' c v:=
 VR.mono ⟨fun ξ ξ e=>e,fun b o e nf nx=>⟨k b o e,nf,fun m=>(List.mem_append.mp m).elim (fun m=>not_none e (f b m)) nx⟩⟩ c r
theorem Rel.set {i:Nat} {p:Addr×Addr} {o':CObj} (R:Rel w base X μ σ h) (hp:μ[i]?=some p) (k:∀b o,h.get? b=some o→b≠p.1→b≠p.2→h'.get? b=some o) (z:(∃o,h'.get? p.1=some o)∧∃o,h'.get? p.2=some o)
  (n:Kp X μ h X μ h'→OR w X μ h' p o'):Rel w base X μ (σ.set i o') h':=by
 have kp:Kp X μ h X μ h':=⟨fun ξ ξ e=>e,fun b o e nf nx=>⟨k b o e (fun q=>nf ⟨i,p,hp,.inl q⟩) (fun q=>nf ⟨i,p,hp,.inr q⟩),nf,nx⟩⟩
 have kX:∀b o,b∈X→h.get? b=some o→h'.get? b=some o:=fun b o m e=>k b o e (fun q=>R.notX b ⟨i,p,hp,.inl q⟩ m) (fun q=>R.notX b ⟨i,p,hp,.inr q⟩ m)
 refine ⟨by rw [List.length_set];exact R.len,fun j q o hq ho=>?_,R.apart,R.notX,fun b o e=>k b o (R.keep b o e) (fun q=>?_) (fun q=>?_),R.above,fun b f=>?_,fun b m=>(by obtain ⟨o,e⟩:=R.insideX b m;exact ⟨o,kX b o m e⟩),R.aboveX⟩
 ·by_cases e:i=j
  ·subst e
   rw [hp] at hq;cases hq
   rw [List.getElem?_set_self (by rw [← R.len];exact (List.getElem?_eq_some_iff.mp hp).1)] at ho
   cases ho
   exact n kp
  ·rw [List.getElem?_set_ne e] at ho
   obtain ⟨a1,a2,a3,a4⟩:=R.apart i j p q e hp hq
   have:=R.obj j q o hq ho
   cases o with
   | list l=>obtain ⟨e,xs,n,g,r⟩:=this;exact ⟨e,xs,n,k _ _ g (Ne.symm a1) (Ne.symm a3),VRs.mono kp _ r⟩
   | dict es ep=>obtain ⟨e,sm,ds,g,r,nd⟩:=this;exact ⟨e,sm,ds,k _ _ g (Ne.symm a1) (Ne.symm a3),DRs.mono kp _ r,nd⟩
   | inst c fs=>obtain ⟨e,c',g,fl,ds,n,g2,r,nd⟩:=this;exact ⟨e,c',k _ _ g (Ne.symm a1) (Ne.symm a3),fl,ds,n,k _ _ g2 (Ne.symm a2) (Ne.symm a4),ARs.mono kp _ r,nd⟩
 ·exact not_none e (q▸R.above _ ⟨i,p,hp,.inl rfl⟩)
 ·exact not_none e (q▸R.above _ ⟨i,p,hp,.inr rfl⟩)
 ·by_cases e1:b=p.1
  ·exact e1▸z.1
  ·by_cases e2:b=p.2
   ·exact e2▸z.2
   ·obtain ⟨o,e⟩:=R.inside b f;exact ⟨o,k b o e e1 e2⟩
theorem St.set {fr:List Addr} {s:Shared} {i:Nat} {p:Addr×Addr} {tk:Nat} (hp:μ[i]?=some p) (k:∀b o,s.heap.get? b=some o→b≠p.1→b≠p.2→h'.get? b=some o) :
  St fr μ s μ { s with heap:=h',toks:=tk }:=
 ⟨fun ξ ξ e=>e,fun ξ f=>.inl f,fun b o e nf ξ=>k b o e (fun q=>nf ⟨i,p,hp,.inl q⟩) (fun q=>nf ⟨i,p,hp,.inr q⟩),rfl,rfl⟩
theorem foot_snoc {p:Addr×Addr} {b:Addr}:foot (μ++[p]) b↔foot μ b∨b=p.1∨b=p.2:=by
 constructor
 ·rintro ⟨i,q,e,f⟩
  by_cases l:i<μ.length
  ·rw [List.getElem?_append_left l] at e;exact .inl ⟨i,q,e,f⟩
  ·rw [List.getElem?_append_right (Nat.le_of_not_lt l)] at e
   have:i - μ.length=0:=by
    cases q':i - μ.length with
    | zero=>rfl
    | succ k=>rw [q'] at e;simp at e
   rw [this] at e;cases e;exact .inr f
 ·rintro (⟨i,q,e,f⟩ | f)
  ·exact ⟨i,q,by rw [List.getElem?_append_left (List.getElem?_eq_some_iff.mp e).1];exact e,f⟩
  ·exact ⟨μ.length,p,by simp,f⟩
theorem Rel.alloc {p:Addr×Addr} {o':CObj} (R:Rel w base X μ σ h) (k:∀b o,h.get? b=some o→h'.get? b=some o) (f1:h.get? p.1=none∧∃o,h'.get? p.1=some o) (f2:h.get? p.2=none∧∃o,h'.get? p.2=some o)
  (n:Kp X μ h X (μ++[p]) h'→OR w X (μ++[p]) h' p o'):Rel w base X (μ++[p]) (σ++[o']) h'∧Kp X μ h X (μ++[p]) h':=by
 have kp:Kp X μ h X (μ++[p]) h':=⟨fun i q e=>by rw [List.getElem?_append_left (List.getElem?_eq_some_iff.mp e).1];exact e,
  fun b o e nf nx=>⟨k b o e,fun f=>(foot_snoc.mp f).elim nf fun q=>by
   rcases q with rfl | rfl
   ·exact not_none e f1.1
   ·exact not_none e f2.1,nx⟩⟩
 refine ⟨⟨by simp [R.len],fun j q o hq ho=>?_,fun i j q r ne hq hr=>?_,fun b f m=>?_,fun b o e=>k b o (R.keep b o e),fun b f=>?_,fun b f=>?_,fun b m=>(by obtain ⟨o,e⟩:=R.insideX b m;exact ⟨o,k b o e⟩),R.aboveX⟩,kp⟩
 ·by_cases l:j<μ.length
  ·rw [List.getElem?_append_left l] at hq
   rw [List.getElem?_append_left (by rw [← R.len];exact l)] at ho
   have:=R.obj j q o hq ho
   cases o with
   | list l=>obtain ⟨e,xs,n,g,r⟩:=this;exact ⟨e,xs,n,k _ _ g,VRs.mono kp _ r⟩
   | dict es ep=>obtain ⟨e,sm,ds,g,r,nd⟩:=this;exact ⟨e,sm,ds,k _ _ g,DRs.mono kp _ r,nd⟩
   | inst c fs=>obtain ⟨e,c',g,fl,ds,n,g2,r,nd⟩:=this;exact ⟨e,c',k _ _ g,fl,ds,n,k _ _ g2,ARs.mono kp _ r,nd⟩
  ·have e1:j=μ.length:=by
    have:=(List.getElem?_eq_some_iff.mp hq).1
    simp at this;omega
   subst e1
   rw [R.len] at ho
   simp at hq ho
   subst hq ho
   exact n kp
 ·have key:∀(i:Nat) (q:Addr×Addr),(μ++[p])[i]?=some q→(i<μ.length∧μ[i]?=some q)∨(i=μ.length∧q=p):=fun i q e=>by
   by_cases l:i<μ.length
   ·rw [List.getElem?_append_left l] at e;exact .inl ⟨l,e⟩
   ·have:=(List.getElem?_eq_some_iff.mp e).1
    simp at this
    have e1:i=μ.length:=by omega
    subst e1
    simp at e
    exact .inr ⟨rfl,e.symm⟩
  have low:∀(i:Nat) (q:Addr×Addr) (b:Addr),μ[i]?=some q→h.get? b=none→q.1≠b∧q.2≠b:=fun i q b e n=>⟨fun z=>by
    obtain ⟨o,g⟩:=R.inside _ ⟨i,q,e,.inl rfl⟩;exact not_none (z▸g) n,fun z=>by
    obtain ⟨o,g⟩:=R.inside _ ⟨i,q,e,.inr rfl⟩;exact not_none (z▸g) n⟩
  rcases key i q hq with ⟨l1,e1⟩ | ⟨l1,e1⟩<;>rcases key j r hr with ⟨l2,e2⟩ | ⟨l2,e2⟩
  ·exact R.apart i j q r ne e1 e2
  ·subst e2;exact ⟨(low i q _ e1 f1.1).1,(low i q _ e1 f2.1).1,(low i q _ e1 f1.1).2,(low i q _ e1 f2.1).2⟩
  ·subst e1;exact ⟨Ne.symm (low j r _ e2 f1.1).1,Ne.symm (low j r _ e2 f1.1).2,Ne.symm (low j r _ e2 f2.1).1,Ne.symm (low j r _ e2 f2.1).2⟩
  ·omega
 ·rcases foot_snoc.mp f with f | f
  ·exact R.notX b f m
  ·rcases f with rfl | rfl
   ·exact (R.fresh f1.1).2 m
   ·exact (R.fresh f2.1).2 m
 ·rcases foot_snoc.mp f with f | f
  ·exact R.above b f
  ·rcases f with rfl | rfl
   ·exact none_of (fun o e=>⟨o,R.keep _ o e⟩) f1.1
   ·exact none_of (fun o e=>⟨o,R.keep _ o e⟩) f2.1
 ·rcases foot_snoc.mp f with f | f
  ·obtain ⟨o,e⟩:=R.inside b f;exact ⟨o,k b o e⟩
  ·rcases f with rfl | rfl
   ·exact f1.2
   ·exact f2.2
theorem St.alloc {fr:List Addr} {s:Shared} {p:Addr×Addr} {tk:Nat} (k:∀b o,s.heap.get? b=some o→h'.get? b=some o) (f1:s.heap.get? p.1=none) (f2:s.heap.get? p.2=none) :
  St fr μ s (μ++[p]) { s with heap:=h',toks:=tk }:=
 ⟨fun i q e=>by rw [List.getElem?_append_left (List.getElem?_eq_some_iff.mp e).1];exact e,fun b f=>(foot_snoc.mp f).imp id fun q=>by rcases q with rfl | rfl;exact f1;exact f2,fun b o e ξ ξ=>k b o e,rfl,rfl⟩
end
noncomputable def fnT:List Str:=(["is_op","","","","","","","","","","","","","","","","","","","","","","","","","","","","","","","","",
 "_law_draw","_law_side","_law_homes","_law_heads","_law_shared","_law_class","_law_place","_law_terms","_law_state","law"]:List String).map Str.ofString
noncomputable def clsNm:List Str:=["Bank","Unions","Heap","Meet"]
noncomputable def methT:List Str:=["size","take","require","op","kids","term","make","find","merge","members","classes","node","add","look_at","join","settle","nodes_of","seek","nodes_by_op","go_up","put","class_of"]
noncomputable def biN:BId→Str
 | .len=>"len" | .sorted=>"sorted" | .sum=>"sum" | .max=>"max" | .int=>"int" | .str=>"str" | .tuple=>"tuple" | .list=>"list" | .listm=>"list" | .dict=>"dict"
noncomputable def bmN:MId→Str
 | .append=>"append" | .extend=>"extend" | .pop=>"pop" | .get=>"get" | .setdefault=>"setdefault" | .isspace=>"isspace"
noncomputable def opN:Op→Operator
 | .add=>.Add | .sub=>.Sub | .mul=>.Mult | .mod=>.Mod
noncomputable def cmpN:Cmp→CmpOp
 | .eq=>.Eq | .ne=>.NotEq | .lt=>.Lt | .le=>.LtE | .gt=>.Gt | .ge=>.GtE | .is=>.Is | .isNot=>.IsNot | .isin=>.In | .notin=>.NotIn
noncomputable def isGlob (sc:Scope) (x:Str) (want:Str):Bool:=x==want&&decide (sc.names.lookup x=some .globalImplicit)&&x != ("__debug__":Str)&&x != ""
noncomputable def kindVar (sc:Scope) (x:Str):Bool:=decide (sc.names.lookup x=some .local)||decide (sc.names.lookup x=some .cell)||decide (sc.names.lookup x=some .free)
noncomputable def plainName (x:Str):Bool:=x != ("__debug__":Str)&&x != ("__classdict__":Str)
noncomputable def okVar (sc:Scope) (tbl:List Str) (x:Str) (i:Nat):Bool:=decide (tbl[i]?=some x)&&kindVar sc x&&plainName x
noncomputable def okSet (sc:Scope) (tbl:List Str) (x:Str) (i:Nat):Bool:=decide (tbl[i]?=some x)&&(decide (sc.names.lookup x=some .local)||decide (sc.names.lookup x=some .cell))&&plainName x
noncomputable def compScope (sc:Scope) (fsc:Scope):Scope:={ fsc with names:=fsc.names.map fun (n,k)=>if k==.free&&sc.kind==.function&&decide (sc.names.lookup n=some .cell) then (n,.cell) else (n,k) }
noncomputable def isGen:CC→Bool
 | .gen ..=>true
 | _=>false
noncomputable def okCompScope (sc:Scope) (fsc:Scope):Bool:=decide (fsc.kind = .function)&&!fsc.isGenerator&&!fsc.isCoroutine&&
 (fsc.names.all fun x=>x.2 != .local||decide (fsc.names.lookup x.1=some .local))&&(fsc.names.all fun x=>x.2 != .cell)&&
 (fsc.names.all fun x=>x.2 != .free||(decide (sc.names.lookup x.1=some .cell)||decide (sc.names.lookup x.1=some .free)))&&decide (fsc.names.map (·.1)).Nodup
structure Nd where
 t:Nat
 x:Expr
 y:Expr
 z:Expr
 l:List Expr
 m:List (Option Expr)
 g:List Comprehension
 f:Scope
 s:Str
 c:Const
 bo:BoolOp
 uo:UnaryOp
 op:Operator
 cs:List CmpOp
 lo:Option Expr
 hi:Option Expr
 n:Nat
 p:Pos
noncomputable def nd0 (e:Expr) (t:Nat) (p:Pos):Nd:=⟨t,e,e,e,[],[],[],default,"",.none,.And,.Not,.Add,[],none,none,0,p⟩
noncomputable def view (e:Expr):Nd:=match e with
 | .Constant c k p=>{ nd0 e 0 p with c:=c,n:=k }
 | .Name x p=>{ nd0 e 1 p with s:=x }
 | .BoolOp o vs p=>{ nd0 e 2 p with bo:=o,l:=vs }
 | .UnaryOp o x p=>{ nd0 e 3 p with uo:=o,x:=x }
 | .BinOp l o r p=>{ nd0 e 4 p with x:=l,op:=o,y:=r }
 | .Compare l os rs p=>{ nd0 e 5 p with x:=l,cs:=os,l:=rs }
 | .IfExp a b c p=>{ nd0 e 6 p with x:=a,y:=b,z:=c }
 | .Tuple vs k p=>{ nd0 e 7 p with l:=vs,n:=k }
 | .List vs p=>{ nd0 e 8 p with l:=vs }
 | .Dict ks vs p=>{ nd0 e 9 p with m:=ks,l:=vs }
 | .ListComp x gs f p=>{ nd0 e 10 p with x:=x,g:=gs,f:=f }
 | .Call f as ks p=>{ nd0 e (if ks.isEmpty then 11 else 99) p with x:=f,l:=as }
 | .Attribute y n p=>{ nd0 e 12 p with x:=y,s:=n }
 | .Subscript y z p=>{ nd0 e 13 p with x:=y,y:=z }
 | .Slice l u s p=>{ nd0 e (if s.isNone then 14 else 98) p with lo:=l,hi:=u }
 | .Set ..=>nd0 e 15 default
 | .Starred ..=>nd0 e 16 default
 | _=>nd0 e 97 default
noncomputable def backT (t:Nat) (n:Nd):Expr:=match t with
 | 0=>.Constant n.c n.n n.p
 | 1=>.Name n.s n.p
 | 2=>.BoolOp n.bo n.l n.p
 | 3=>.UnaryOp n.uo n.x n.p
 | 4=>.BinOp n.x n.op n.y n.p
 | 5=>.Compare n.x n.cs n.l n.p
 | 6=>.IfExp n.x n.y n.z n.p
 | 7=>.Tuple n.l n.n n.p
 | 8=>.List n.l n.p
 | 9=>.Dict n.m n.l n.p
 | 10=>.ListComp n.x n.g n.f n.p
 | 11=>.Call n.x n.l [] n.p
 | 12=>.Attribute n.x n.s n.p
 | 13=>.Subscript n.x n.y n.p
 | 14=>.Slice n.lo n.hi none n.p
 | _=>n.z
theorem view_back (e:Expr):e=backT (view e).t (view e):=by
 cases e
 case Call f as ks p=>cases ks<;>rfl
 case Slice l u s p=>cases s<;>rfl
 all_goals rfl
abbrev tg (e:Expr) (k:Nat):Bool:=Nat.beq (view e).t k
theorem tgE {e:Expr} {k:Nat} (h:tg e k=true):e=backT k (view e):=(view_back e).trans (congrArg (backT · (view e)) (Nat.eq_of_beq_eq_true h))
theorem an {a b:Bool} (h:(a&&b)=true):a=true∧b=true:=(Bool.and_eq_true a b).mp h
section
variable {a b c d e f g i j:Bool} {z:Prop}
theorem an1 (h:(a&&b)=true) (k:a=true→b=true→z):z:=k (an h).1 (an h).2
theorem an2 (h:(a&&(b&&c))=true) (k:a=true→b=true→c=true→z):z:=an1 h fun x y=>an1 y (k x)
theorem an3 (h:(a&&(b&&(c&&d)))=true) (k:a=true→b=true→c=true→d=true→z):z:=an1 h fun x y=>an2 y (k x)
theorem an4 (h:(a&&(b&&(c&&(d&&e))))=true) (k:a=true→b=true→c=true→d=true→e=true→z):z:=an1 h fun x y=>an3 y (k x)
theorem an5 (h:(a&&(b&&(c&&(d&&(e&&f)))))=true) (k:a=true→b=true→c=true→d=true→e=true→f=true→z):z:=an1 h fun x y=>an4 y (k x)
theorem an6 (h:(a&&(b&&(c&&(d&&(e&&(f&&g))))))=true) (k:a=true→b=true→c=true→d=true→e=true→f=true→g=true→z):z:=an1 h fun x y=>an5 y (k x)
theorem an7 (h:(a&&(b&&(c&&(d&&(e&&(f&&(g&&i)))))))=true) (k:a=true→b=true→c=true→d=true→e=true→f=true→g=true→i=true→z):z:=an1 h fun x y=>an6 y (k x)
theorem an8 (h:(a&&(b&&(c&&(d&&(e&&(f&&(g&&(i&&j))))))))=true) (k:a=true→b=true→c=true→d=true→e=true→f=true→g=true→i=true→j=true→z):z:=an1 h fun x y=>an7 y (k x)
end
noncomputable def notSet (e:Expr):Bool:=!tg e 15
noncomputable def notStar (e:Expr):Bool:=!tg e 16
noncomputable def notSlice (e:Expr):Bool:=!tg e 14&&!tg e 98
noncomputable def notSuper (e:Expr):Bool:=!(tg e 11&&(tg (view e).x 1&&(view e).l.isEmpty))
noncomputable def hd (e:Expr) (l:List Expr):Expr:=l.headD e
noncomputable def one (l:List Expr):Bool:=Nat.beq l.length 1
noncomputable def two (l:List Expr):Bool:=Nat.beq l.length 2
theorem oneE {l:List Expr} (d:Expr) (h:one l=true):l=[hd d l]:=by
 match l,h with
 | [x],_=>rfl
noncomputable def hd2 (e:Expr) (l:List Expr):Expr:=hd e l.tail
theorem twoE {l:List Expr} (d:Expr) (h:two l=true):l=[hd d l,hd2 d l]:=by
 match l,h with
 | [x,y],_=>rfl
noncomputable def okBound (o:Option Expr) (b:Option Int):Bool:=match o,b with
 | none,none=>true
 | some e,some i=>tg e 0&&decide ((view e).c = .int i)
 | none,some _=>false
 | some _,none=>false
noncomputable def okTargets (sc:Scope) (tbl:List Str):List Expr→List Nat→Bool
 | [],is=>is.isEmpty
 | e::es,is=>tg e 1&&(!is.isEmpty&&(okSet sc tbl (view e).s (is.headD 0)&&okTargets sc tbl es is.tail))
noncomputable def okTarget (sc:Scope) (tbl:List Str) (t:Expr) (is:List Nat) (one:Bool):Bool:=if one then okTargets sc tbl [t] is else tg t 7&&okTargets sc tbl (view t).l is
noncomputable def isBi (sc:Scope) (e:Expr) (x:Str):Bool:=tg e 11&&(tg (view e).x 1&&isGlob sc (view (view e).x).s x)
noncomputable def isMe (e:Expr) (x:Str):Bool:=tg e 11&&(tg (view e).x 12&&((view (view e).x).s==x&&((view (view e).x).p.endLine==(view e).p.line&&notSuper (view (view e).x).x)))
noncomputable def srcArgs (k:IK) (it:Expr):List Expr:=match k with
 | .val=>[it]
 | _=>(view it).l
noncomputable def srcSide (sc:Scope) (k:IK) (one:Bool) (it:Expr):Bool:=match k with
 | .val=>true
 | .range=>isBi sc it "range"
 | .enum=>isBi sc it "enumerate"&&!one
 | .zip=>isBi sc it "zip"&&one
mutual
noncomputable def okE (sc:Scope) (tbl:List Str):CE→Expr→Bool
 | .none,e=>tg e 0&&decide ((view e).c = .none)
 | .bool b,e=>tg e 0&&decide ((view e).c = .bool b)
 | .int i,e=>tg e 0&&decide ((view e).c = .int i)
 | .str x,e=>tg e 0&&decide ((view e).c = .str x)
 | .var i,e=>tg e 1&&okVar sc tbl (view e).s i
 | .bop a es,e=>tg e 2&&((a==decide ((view e).bo = .And))&&(!(view e).l.isEmpty&&okEs sc tbl es (view e).l))
 | .not x,e=>tg e 3&&(decide ((view e).uo = .Not)&&okE sc tbl x (view e).x)
 | .neg x,e=>tg e 3&&(decide ((view e).uo = .USub)&&okE sc tbl x (view e).x)
 | .bin op a b,e=>tg e 4&&(decide ((view e).op=opN op)&&(okE sc tbl a (view e).x&&okE sc tbl b (view e).y))
 | .addm a b,e=>tg e 4&&(decide ((view e).op = .Add)&&(okE sc tbl a (view e).x&&okE sc tbl b (view e).y))
 | .cmp op a b,e=>tg e 5&&(decide ((view e).cs=[cmpN op])&&(one (view e).l&&(notSet (hd e (view e).l)&&(okE sc tbl a (view e).x&&okE sc tbl b (hd e (view e).l)))))
 | .cmp2 o1 o2 a b c,e=>tg e 5&&(decide ((view e).cs=[cmpN o1,cmpN o2])&&(two (view e).l&&(notSet (hd e (view e).l)&&(notSet (hd2 e (view e).l)&&(okE sc tbl a (view e).x&&(okE sc tbl b (hd e (view e).l)&&okE sc tbl c (hd2 e (view e).l)))))))
 | .ite t a b,e=>tg e 6&&(okE sc tbl t (view e).x&&(okE sc tbl a (view e).y&&okE sc tbl b (view e).z))
 | .tup es,e=>tg e 7&&okEs sc tbl es (view e).l
 | .lst es,e=>tg e 8&&okEs sc tbl es (view e).l
 | .newl es,e=>tg e 8&&okEs sc tbl es (view e).l
 | .newd kvs,e=>tg e 9&&(decide ((view e).m.length≤15)&&okKs sc tbl kvs (view e).m (view e).l)
 | .comp _ c,e=>tg e 10&&(isGen c&&(okCompScope sc (view e).f&&(((view e).f.names.all fun x=>!(x.2==.local||x.2==.cell)||!tbl.contains x.1||(targetsC c).any fun i=>decide (tbl[i]?=some x.1))&&(((view e).f.names.all fun x=>x.2 != .free||tbl.contains x.1)&&(decide (targetsC c).Nodup&&okC sc (compScope sc (view e).f) (view e).f tbl true c (view e).x (view e).g)))))
 | .call f es,e=>isBi sc e (fnT.getD f "")&&okEs sc tbl es (view e).l
 | .inst c es,e=>isBi sc e (clsNm.getD c "")&&okEs sc tbl es (view e).l
 | .bi b a,e=>isBi sc e (biN b)&&(one (view e).l&&(notStar (hd e (view e).l)&&okE sc tbl a (hd e (view e).l)))
 | .sortedSet a,e=>isBi sc e "sorted"&&(one (view e).l&&(isBi sc (hd e (view e).l) "set"&&(one (view (hd e (view e).l)).l&&(notStar (hd e (view (hd e (view e).l)).l)&&okE sc tbl a (hd e (view (hd e (view e).l)).l)))))
 | .sortedItems a,e=>isBi sc e "sorted"&&(one (view e).l&&(isMe (hd e (view e).l) "items"&&((view (hd e (view e).l)).l.isEmpty&&okE sc tbl a (view (view (hd e (view e).l)).x).x)))
 | .tupZip a b,e=>isBi sc e "tuple"&&(one (view e).l&&(isBi sc (hd e (view e).l) "zip"&&(two (view (hd e (view e).l)).l&&(notStar (hd e (view (hd e (view e).l)).l)&&(notStar (hd2 e (view (hd e (view e).l)).l)&&(okE sc tbl a (hd e (view (hd e (view e).l)).l)&&okE sc tbl b (hd2 e (view (hd e (view e).l)).l)))))))
 | .listRange a,e=>isBi sc e "list"&&(one (view e).l&&(isBi sc (hd e (view e).l) "range"&&(one (view (hd e (view e).l)).l&&(notStar (hd e (view (hd e (view e).l)).l)&&okE sc tbl a (hd e (view (hd e (view e).l)).l)))))
 | .umeth o m es,e=>isMe e (methT.getD m "")&&(decide ((view e).l.length<20)&&(okE sc tbl o (view (view e).x).x&&okEs sc tbl es (view e).l))
 | .bmeth o m es,e=>isMe e (bmN m)&&(decide ((view e).l.length<20)&&(okE sc tbl o (view (view e).x).x&&okEs sc tbl es (view e).l))
 | .attr o a,e=>tg e 12&&(decide ((view e).s=attrN a)&&(notSuper (view e).x&&okE sc tbl o (view e).x))
 | .sub o i,e=>tg e 13&&(notSlice (view e).y&&(okE sc tbl o (view e).x&&okE sc tbl i (view e).y))
 | .slice o lo hi,e=>tg e 13&&(tg (view e).y 14&&(okBound (view (view e).y).lo lo&&(okBound (view (view e).y).hi hi&&okE sc tbl o (view e).x)))
noncomputable def okEs (sc:Scope) (tbl:List Str):List CE→List Expr→Bool
 | [],es=>es.isEmpty
 | c::cs,es=>!es.isEmpty&&(notStar (hd default es)&&(okE sc tbl c (hd default es)&&okEs sc tbl cs es.tail))
noncomputable def okKs (sc:Scope) (tbl:List Str):List CE→List (Option Expr)→List Expr→Bool
 | [],ks,vs=>ks.isEmpty&&vs.isEmpty
 | k::r,ks,vs=>!ks.isEmpty&&((ks.headD none).isSome&&(okE sc tbl k ((ks.headD none).getD default)&&okVs sc tbl r ks.tail vs))
noncomputable def okVs (sc:Scope) (tbl:List Str):List CE→List (Option Expr)→List Expr→Bool
 | [],_,_=>false
 | v::r,ks,vs=>!vs.isEmpty&&(okE sc tbl v (hd default vs)&&okKs sc tbl r ks vs.tail)
noncomputable def okC (osc sc fsc:Scope) (tbl:List Str) (first:Bool):CC→Expr→List Comprehension→Bool
 | .elt c,e,gens=>gens.isEmpty&&okE sc tbl c e
 | .gen t one k src cond rest,e,gens=>!gens.isEmpty&&(decide ((gens.headD default).is_async=0)&&(okTarget fsc tbl (gens.headD default).target t one&&(notSet (gens.headD default).iter&&(srcSide (if first then osc else sc) k one (gens.headD default).iter&&(okEs (if first then osc else sc) tbl src (srcArgs k (gens.headD default).iter)&&
   (okEs sc tbl cond (gens.headD default).ifs&&(decide (cond.length≤1)&&okC osc sc fsc tbl false rest e gens.tail)))))))
end
noncomputable def compsLocal (sc:Scope) (x:Str) (e:Expr):Bool:=!tg e 10||!((view e).f.names.any fun (n,k)=>n==x&&(k==.local||k==.cell))
noncomputable def okSwap (e:Expr):Bool:=!tg e 7||((view e).l.all notStar&&!(view e).l.all (constantsAlone 8))
structure Sd where
 t:Nat
 x:Expr
 y:Expr
 a:List Stmt
 b:List Stmt
 p:Pos
noncomputable def viewS (s:Stmt):Sd:=match s with
 | .Assign ts v p=>⟨if one ts then 0 else 99,hd v ts,v,[],[s],p⟩
 | .Expr v p=>⟨1,v,v,[],[s],p⟩
 | .If x a b p=>⟨2,x,x,a,b,p⟩
 | .While x a b p=>⟨if b.isEmpty then 3 else 99,x,x,a,[s],p⟩
 | .For t i a b p=>⟨if b.isEmpty then 4 else 99,t,i,a,[s],p⟩
 | .Return v p=>⟨if v.isSome then 5 else 99,v.getD default,default,[],[s],p⟩
 | _=>⟨99,default,default,[],[s],default⟩
noncomputable def backS (t:Nat) (n:Sd):Stmt:=match t with
 | 0=>.Assign [n.x] n.y n.p
 | 1=>.Expr n.x n.p
 | 2=>.If n.x n.a n.b n.p
 | 3=>.While n.x n.a [] n.p
 | 4=>.For n.x n.y n.a [] n.p
 | 5=>.Return (some n.x) n.p
 | _=>n.b.headD (.Pass n.p)
theorem viewS_back (s:Stmt):s=backS (viewS s).t (viewS s):=by
 cases s
 case Assign ts v p=>
  rcases ts with _ | ⟨t,_ | ⟨u,ts⟩⟩<;>rfl
 case While x a b p=>cases b<;>rfl
 case For t i a b p=>cases b<;>rfl
 case Return v p=>cases v<;>rfl
 all_goals rfl
abbrev tgS (s:Stmt) (k:Nat):Bool:=Nat.beq (viewS s).t k
theorem tgSE {s:Stmt} {k:Nat} (h:tgS s k=true):s=backS k (viewS s):=(viewS_back s).trans (congrArg (backS · (viewS s)) (Nat.eq_of_beq_eq_true h))
mutual
noncomputable def okS (sc:Scope) (tbl:List Str):CS→Stmt→Bool
 | .assign i c,s=>tgS s 0&&(tg (viewS s).x 1&&(okSet sc tbl (view (viewS s).x).s i&&(okE sc tbl c (viewS s).y&&(compsLocal sc (view (viewS s).x).s (viewS s).y&&((((view (viewS s).x).p.line==(viewS s).p.line))&&((viewS s).y.pos.line==(viewS s).p.line))))))
 | .assignA o a c,s=>tgS s 0&&(tg (viewS s).x 12&&(decide ((view (viewS s).x).s=attrN a)&&(okE sc tbl c (viewS s).y&&okE sc tbl o (view (viewS s).x).x)))
 | .assignS o i c,s=>tgS s 0&&(tg (viewS s).x 13&&(notSlice (view (viewS s).x).y&&(okE sc tbl c (viewS s).y&&(okE sc tbl o (view (viewS s).x).x&&okE sc tbl i (view (viewS s).x).y))))
 | .assignT is c,s=>tgS s 0&&(tg (viewS s).x 7&&(okTargets sc tbl (view (viewS s).x).l is&&(okE sc tbl c (viewS s).y&&(decide (2≤(view (viewS s).x).l.length)&&(decide (is.Nodup)&&okSwap (viewS s).y)))))
 | .expr c,s=>tgS s 1&&(okE sc tbl c (viewS s).x&&tg (viewS s).x 11)
 | .ite t a b,s=>tgS s 2&&(okE sc tbl t (viewS s).x&&(okSs sc tbl a (viewS s).a&&okSs sc tbl b (viewS s).b))
 | .while t b,s=>tgS s 3&&(okE sc tbl t (viewS s).x&&okSs sc tbl b (viewS s).a)
 | .for t one k src b,s=>tgS s 4&&(okTarget sc tbl (viewS s).x t one&&(notSet (viewS s).y&&(srcSide sc k one (viewS s).y&&(okEs sc tbl src (srcArgs k (viewS s).y)&&okSs sc tbl b (viewS s).a))))
 | .ret c,s=>tgS s 5&&okE sc tbl c (viewS s).x
 | .stop,_=>true
noncomputable def okSs (sc:Scope) (tbl:List Str):List CS→List Stmt→Bool
 | [],ss=>ss.isEmpty
 | c::cs,ss=>!ss.isEmpty&&(okS sc tbl c (ss.headD (.Pass default))&&okSs sc tbl cs ss.tail)
end
noncomputable def varT:List (List Str):=[
 (["text","sign"]:List String).map Str.ofString,
 (["self"]:List String).map Str.ofString,
 (["self"]:List String).map Str.ofString,
 (["self","op","kids","node","kid"]:List String).map Str.ofString,
 (["self","op"]:List String).map Str.ofString,
 (["self","n"]:List String).map Str.ofString,
 (["self","n"]:List String).map Str.ofString,
 (["self","n","below","stack","kid","made","k"]:List String).map Str.ofString,
 (["self"]:List String).map Str.ofString,
 (["self"]:List String).map Str.ofString,
 (["self"]:List String).map Str.ofString,
 (["self","a"]:List String).map Str.ofString,
 (["self","a","b","kept","gone"]:List String).map Str.ofString,
 (["self","a"]:List String).map Str.ofString,
 (["self","a"]:List String).map Str.ofString,
 (["self"]:List String).map Str.ofString,
 (["self"]:List String).map Str.ofString,
 (["self","n","kid"]:List String).map Str.ofString,
 (["self","op","numbers","n","kid","c"]:List String).map Str.ofString,
 (["self","n","other"]:List String).map Str.ofString,
 (["self","n"]:List String).map Str.ofString,
 (["self","a","b","reason"]:List String).map Str.ofString,
 (["self","a","b","reason","merged","kept","gone"]:List String).map Str.ofString,
 (["self"]:List String).map Str.ofString,
 (["self"]:List String).map Str.ofString,
 (["self","c"]:List String).map Str.ofString,
 (["self","c","n"]:List String).map Str.ofString,
 (["self","op","classes","n","c"]:List String).map Str.ofString,
 (["self","one","other"]:List String).map Str.ofString,
 (["self","heap","found","c","node"]:List String).map Str.ofString,
 (["self","mine","theirs","is_new","head","c","node","d","late"]:List String).map Str.ofString,
 (["self","pair","op","kids","kid","many","n"]:List String).map Str.ofString,
 (["self","a","b","n"]:List String).map Str.ofString,
 (["feed","wide","cells","spot"]:List String).map Str.ofString,
 (["feed","heap","rows","lap","way","kid","row","pairs"]:List String).map Str.ofString,
 (["rows","pairs","homes","is_turned","wanted","n","row","m","kid","one","other","low","high","home"]:List String).map Str.ofString,
 (["rows","homes","n","row","kid"]:List String).map Str.ofString,
 (["heads","late","shared","many","one","other","pair"]:List String).map Str.ofString,
 (["term","heads","kids","kid"]:List String).map Str.ofString,
 (["heap","term","kids","kid"]:List String).map Str.ofString,
 (["leaves","some","one","other","more","op","leaf"]:List String).map Str.ofString,
 (["heap","homes","n"]:List String).map Str.ofString,
 (["script","feed","one","rows","told","other","late_rows","late_told","states","homes","late_homes","heads","late_heads","shared","spots","meet","mirror","again","a","b","c","pair","term","n"]:List String).map Str.ofString]
noncomputable def pathT:List (Str×Str):=([
 ("","is_op"),("Bank","__init__"),("Bank","size"),("Bank","take"),("Bank","require"),("Bank","op"),("Bank","kids"),("Bank","term"),("Unions","__init__"),("Unions","make"),("Unions","size"),("Unions","find"),("Unions","merge"),("Unions","members"),("Unions","classes"),("Heap","__init__"),("Heap","size"),("Heap","node"),("Heap","add"),("Heap","look_at"),("Heap","find"),("Heap","merge"),("Heap","join"),("Heap","settle"),("Heap","classes"),("Heap","members"),("Heap","nodes_of"),("Heap","seek"),("Meet","__init__"),("Meet","nodes_by_op"),("Meet","go_up"),("Meet","put"),("Meet","class_of"),("","_law_draw"),("","_law_side"),("","_law_homes"),("","_law_heads"),("","_law_shared"),("","_law_class"),("","_law_place"),("","_law_terms"),("","_law_state"),("","law")]:List (String×String)).map fun x=>(Str.ofString x.1,Str.ofString x.2)
abbrev pw:Program:=PySem.Challenge.pw_pq0006_01
noncomputable def defIn (x:Str):List Stmt→Option (Arguments×List Stmt×Scope)
 | []=>none
 | .FunctionDef n a b _ _ _ sc _ _ _::r=>if n=x then some (a,b,sc) else defIn x r
 | _::r=>defIn x r
noncomputable def clsIn' (x:Str):List Stmt→Option (List Stmt)
 | []=>none
 | .ClassDef n _ _ b _ _ _ _ _ _ _::r=>if n=x then some b else clsIn' x r
 | _::r=>clsIn' x r
noncomputable def theDef (i:Nat):Option (Arguments×List Stmt×Scope):=(pathT[i]?).bind fun p=>if p.1="" then defIn p.2 pw.main.body else (clsIn' p.1 pw.main.body).bind fun b=>defIn p.2 b
noncomputable def okFn (i:Nat):Bool:=match theDef i,cprog.fns[i]?,varT[i]? with
 | some (a,b,sc),some fn,some tbl=>okSs sc tbl fn.body b&&decide (a.args.map (·.arg)=tbl.take fn.params)&&decide (a.args.length=fn.params)
 | _,_,_=>false
theorem okFn_all:((List.range 43).all okFn)=true:=by kernel_rfl!
noncomputable def fnP (i:Nat):Arguments:=((theDef i).getD default).1
noncomputable def fnB (i:Nat):List Stmt:=((theDef i).getD default).2.1
noncomputable def fnS (i:Nat):Scope:=((theDef i).getD default).2.2
abbrev sV (x:String) (n:Nat):Value:=.str (Str.ofString x) n
abbrev iV (i:Int):Value:=.int i 0
abbrev rV (a:Nat):Value:=.ref a
abbrev eD (P:Params) (x:String) (n:Nat) (v:Value):DictEntry:={ hash:=PyData.keyHash P (Str.ofString x),key:=sV x n,val:=v }
abbrev fO (a i:Nat) (x q:String) (m:Value):Addr×Obj:=(a,{ cls:=.type "function",data:=.func { name:=Str.ofString x,qualname:=Str.ofString q,params:=fnP i,body:=.stmts (fnB i),scope:=fnS i,globals:=3,closure:=[],defaults:=.none,kwdefaults:=.none,pyModule:=m,code:=.ref (a - 1) } })
abbrev cO (a:Nat) (f q:String) (n1 n2 n3:Nat) (L c:Int) (r:Nat) (k:Int) (x y z u v:Value) (j:Int) (n4:Nat):Addr×Obj:=(a,{ cls:=.type "code",data:=.fields #[sV f n1,sV q n2,sV "/claim/cut.py" n3,iV L,iV c,iV 0,iV 0,iV 3,rV r,.bool true,iV k,x,y,z,u,v,iV j,iV L,sV "/claim/cut.py" n4] })
noncomputable def KF (P:Params):Frag:=[
 (3,{ cls:=Value.type "dict",data:=Data.dict #[eD P "__name__" 165 (sV "law_pq0006_01" 743),eD P "__doc__" 166 .none,eD P "__package__" 167 .none,{ hash:=PyData.keyHash P (Str.ofString "__loader__"),key:=sV "__loader__" 168,val:=Value.builtin "__main__.__loader__#opaque" },eD P "__spec__" 169 .none,eD P "__annotations__" 170 (rV 6),eD P "__builtins__" 171 (rV 4),eD P "__file__" 173 (sV "/claim/cut.py" 172),eD P "__cached__" 174 .none,eD P "_wall" 193 (rV 21),eD P "HeapError" 233 (rV 47),eD P "TermFault" 249 (rV 60),eD P "is_op" 257 (rV 67),eD P "parts" 263 (rV 72),eD P "Bank" 394 (rV 174),eD P "Unions" 498 (rV 256),eD P "Heap" 665 (rV 386),eD P "Meet" 742 (rV 433),eD P "_law_draw" 754 (rV 444),eD P "_law_side" 768 (rV 451),eD P "_law_homes" 774 (rV 456),eD P "_law_heads" 780 (rV 461),eD P "_law_shared" 786 (rV 466),eD P "_law_class" 792 (rV 471),eD P "_law_place" 798 (rV 476),eD P "_law_terms" 804 (rV 481),eD P "_law_state" 810 (rV 486),eD P "law" 816 (rV 491)] 28 }),
 (173,{ cls:=Value.type "dict",data:=Data.dict #[eD P "__module__" 271 (sV "alikeheap.terms" 250),{ hash:=PyData.keyHash P (Str.ofString "__firstlineno__"),key:=sV "__firstlineno__" 275,val:=Value.int 23 274 },eD P "__init__" 282 (rV 86),eD P "size" 289 (rV 93),eD P "take" 295 (rV 98),eD P "require" 303 (rV 105),eD P "put" 313 (rV 112),eD P "put_all" 319 (rV 117),eD P "cut" 327 (rV 124),eD P "op" 335 (rV 131),eD P "kids" 343 (rV 138),eD P "node" 351 (rV 145),eD P "term" 357 (rV 150),eD P "weight" 365 (rV 157),eD P "depth" 373 (rV 164),eD P "seek" 382 (rV 171),eD P "__static_attributes__" 387 (rV 172),eD P "__dict__" 389 (rV 175),eD P "__weakref__" 391 (rV 176),eD P "__doc__" 392 .none] 4 }),
 (174,{ cls:=Value.type "type",data:=Data.cls { name:=Str.ofString "Bank",bases:=[Value.type "object"],mro:=[rV 174,Value.type "object"],ns:=173,qualname:=Str.ofString "Bank" },slots:=#[none,none,some (sV "Bank" 264),some (sV "Bank" 272),some (Value.builtin "object.__new__"),some (Value.bool true)] }),
 (255,{ cls:=Value.type "dict",data:=Data.dict #[eD P "__module__" 404 (sV "alikeheap.unions" 395),{ hash:=PyData.keyHash P (Str.ofString "__firstlineno__"),key:=sV "__firstlineno__" 408,val:=Value.int 93 407 },eD P "__init__" 415 (rV 192),eD P "make" 422 (rV 199),eD P "size" 429 (rV 206),eD P "find" 437 (rV 213),eD P "merge" 448 (rV 220),eD P "members" 456 (rV 227),eD P "classes" 462 (rV 232),eD P "log" 469 (rV 239),eD P "back" 479 (rV 246),eD P "cut" 487 (rV 253),eD P "__static_attributes__" 491 (rV 254),eD P "__dict__" 493 (rV 257),eD P "__weakref__" 495 (rV 258),eD P "__doc__" 496 .none] 4 }),
 (256,{ cls:=Value.type "type",data:=Data.cls { name:=Str.ofString "Unions",bases:=[Value.type "object"],mro:=[rV 256,Value.type "object"],ns:=255,qualname:=Str.ofString "Unions" },slots:=#[none,none,some (sV "Unions" 397),some (sV "Unions" 405),some (Value.builtin "object.__new__"),some (Value.bool true)] }),
 (385,{ cls:=Value.type "dict",data:=Data.dict #[eD P "__module__" 508 (sV "alikeheap.heap" 499),{ hash:=PyData.keyHash P (Str.ofString "__firstlineno__"),key:=sV "__firstlineno__" 512,val:=Value.int 140 511 },eD P "__init__" 519 (rV 274),eD P "size" 526 (rV 281),eD P "node" 532 (rV 286),eD P "add" 538 (rV 291),eD P "put" 544 (rV 296),eD P "look_at" 553 (rV 303),eD P "find" 561 (rV 310),eD P "are_like" 570 (rV 317),eD P "merge" 580 (rV 324),eD P "join" 593 (rV 331),eD P "settle" 600 (rV 338),eD P "is_settled" 607 (rV 345),eD P "classes" 614 (rV 352),eD P "members" 622 (rV 359),eD P "nodes_of" 628 (rV 364),eD P "many_nodes" 635 (rV 371),eD P "seek" 641 (rV 376),eD P "users" 649 (rV 383),eD P "__static_attributes__" 658 (rV 384),eD P "__dict__" 660 (rV 387),eD P "__weakref__" 662 (rV 388),eD P "__doc__" 663 .none] 4 }),
 (386,{ cls:=Value.type "type",data:=Data.cls { name:=Str.ofString "Heap",bases:=[Value.type "object"],mro:=[rV 386,Value.type "object"],ns:=385,qualname:=Str.ofString "Heap" },slots:=#[none,none,some (sV "Heap" 501),some (sV "Heap" 509),some (Value.builtin "object.__new__"),some (Value.bool true)] }),
 (432,{ cls:=Value.type "dict",data:=Data.dict #[eD P "__module__" 675 (sV "alikeheap.grammars" 666),{ hash:=PyData.keyHash P (Str.ofString "__firstlineno__"),key:=sV "__firstlineno__" 679,val:=Value.int 223 678 },eD P "__init__" 688 (rV 404),eD P "nodes_by_op" 699 (rV 411),eD P "go_up" 714 (rV 418),eD P "put" 720 (rV 423),eD P "class_of" 730 (rV 430),eD P "__static_attributes__" 735 (rV 431),eD P "__dict__" 737 (rV 434),eD P "__weakref__" 739 (rV 435),eD P "__doc__" 740 .none] 4 }),
 (433,{ cls:=Value.type "type",data:=Data.cls { name:=Str.ofString "Meet",bases:=[Value.type "object"],mro:=[rV 433,Value.type "object"],ns:=432,qualname:=Str.ofString "Meet" },slots:=#[none,none,some (sV "Meet" 668),some (sV "Meet" 676),some (Value.builtin "object.__new__"),some (Value.bool true)] }),
 cO 66 "is_op" "is_op" 252 253 254 16 1 63 181 (rV 64) .none .none .none (rV 65) 255 256,
 fO 67 0 "is_op" "is_op" (sV "alikeheap.terms" 250),
 cO 85 "__init__" "Bank.__init__" 276 277 278 25 1 80 181 (rV 81) .none (rV 82) (rV 83) (rV 84) 280 281,
 fO 86 1 "__init__" "Bank.__init__" (sV "alikeheap.terms" 250),
 cO 92 "size" "Bank.size" 283 284 285 31 1 87 181 (rV 88) .none (rV 89) (rV 90) (rV 91) 287 288,
 fO 93 2 "size" "Bank.size" (sV "alikeheap.terms" 250),
 cO 97 "take" "Bank.take" 290 291 292 34 3 94 181 (rV 95) .none .none .none (rV 96) 293 294,
 fO 98 3 "take" "Bank.take" (sV "alikeheap.terms" 250),
 cO 104 "require" "Bank.require" 296 297 298 48 2 99 181 (rV 100) .none (rV 101) (rV 102) (rV 103) 301 302,
 fO 105 4 "require" "Bank.require" (sV "alikeheap.terms" 250),
 cO 130 "op" "Bank.op" 328 329 330 63 2 125 181 (rV 126) .none (rV 127) (rV 128) (rV 129) 333 334,
 fO 131 5 "op" "Bank.op" (sV "alikeheap.terms" 250),
 cO 137 "kids" "Bank.kids" 336 337 338 66 2 132 181 (rV 133) .none (rV 134) (rV 135) (rV 136) 341 342,
 fO 138 6 "kids" "Bank.kids" (sV "alikeheap.terms" 250),
 cO 149 "term" "Bank.term" 352 353 354 72 2 146 181 (rV 147) .none .none .none (rV 148) 355 356,
 fO 150 7 "term" "Bank.term" (sV "alikeheap.terms" 250),
 cO 191 "__init__" "Unions.__init__" 409 410 411 95 1 186 181 (rV 187) .none (rV 188) (rV 189) (rV 190) 413 414,
 fO 192 8 "__init__" "Unions.__init__" (sV "alikeheap.unions" 395),
 cO 198 "make" "Unions.make" 416 417 418 100 1 193 181 (rV 194) .none (rV 195) (rV 196) (rV 197) 420 421,
 fO 199 9 "make" "Unions.make" (sV "alikeheap.unions" 395),
 cO 205 "size" "Unions.size" 423 424 425 105 1 200 181 (rV 201) .none (rV 202) (rV 203) (rV 204) 427 428,
 fO 206 10 "size" "Unions.size" (sV "alikeheap.unions" 395),
 cO 212 "find" "Unions.find" 430 431 432 108 2 207 181 (rV 208) .none (rV 209) (rV 210) (rV 211) 435 436,
 fO 213 11 "find" "Unions.find" (sV "alikeheap.unions" 395),
 cO 219 "merge" "Unions.merge" 438 439 440 113 3 214 181 (rV 215) .none (rV 216) (rV 217) (rV 218) 446 447,
 fO 220 12 "merge" "Unions.merge" (sV "alikeheap.unions" 395),
 cO 226 "members" "Unions.members" 449 450 451 122 2 221 181 (rV 222) .none (rV 223) (rV 224) (rV 225) 454 455,
 fO 227 13 "members" "Unions.members" (sV "alikeheap.unions" 395),
 cO 231 "classes" "Unions.classes" 457 458 459 125 1 228 181 (rV 229) .none .none .none (rV 230) 460 461,
 fO 232 14 "classes" "Unions.classes" (sV "alikeheap.unions" 395),
 cO 273 "__init__" "Heap.__init__" 513 514 515 142 1 268 181 (rV 269) .none (rV 270) (rV 271) (rV 272) 517 518,
 fO 274 15 "__init__" "Heap.__init__" (sV "alikeheap.heap" 499),
 cO 280 "size" "Heap.size" 520 521 522 152 1 275 181 (rV 276) .none (rV 277) (rV 278) (rV 279) 524 525,
 fO 281 16 "size" "Heap.size" (sV "alikeheap.heap" 499),
 cO 285 "node" "Heap.node" 527 528 529 155 2 282 181 (rV 283) .none .none .none (rV 284) 530 531,
 fO 286 17 "node" "Heap.node" (sV "alikeheap.heap" 499),
 cO 290 "add" "Heap.add" 533 534 535 158 3 287 181 (rV 288) .none .none .none (rV 289) 536 537,
 fO 291 18 "add" "Heap.add" (sV "alikeheap.heap" 499),
 cO 302 "look_at" "Heap.look_at" 545 546 547 172 2 297 181 (rV 298) .none (rV 299) (rV 300) (rV 301) 551 552,
 fO 303 19 "look_at" "Heap.look_at" (sV "alikeheap.heap" 499),
 cO 309 "find" "Heap.find" 554 555 556 177 2 304 181 (rV 305) .none (rV 306) (rV 307) (rV 308) 559 560,
 fO 310 20 "find" "Heap.find" (sV "alikeheap.heap" 499),
 cO 323 "merge" "Heap.merge" 571 572 573 183 4 318 181 (rV 319) .none (rV 320) (rV 321) (rV 322) 578 579,
 fO 324 21 "merge" "Heap.merge" (sV "alikeheap.heap" 499),
 cO 330 "join" "Heap.join" 581 582 583 186 4 325 181 (rV 326) .none (rV 327) (rV 328) (rV 329) 591 592,
 fO 331 22 "join" "Heap.join" (sV "alikeheap.heap" 499),
 cO 337 "settle" "Heap.settle" 594 595 596 197 1 332 181 (rV 333) .none (rV 334) (rV 335) (rV 336) 598 599,
 fO 338 23 "settle" "Heap.settle" (sV "alikeheap.heap" 499),
 cO 351 "classes" "Heap.classes" 608 609 610 204 1 346 181 (rV 347) .none (rV 348) (rV 349) (rV 350) 612 613,
 fO 352 24 "classes" "Heap.classes" (sV "alikeheap.heap" 499),
 cO 358 "members" "Heap.members" 615 616 617 207 2 353 181 (rV 354) .none (rV 355) (rV 356) (rV 357) 620 621,
 fO 359 25 "members" "Heap.members" (sV "alikeheap.heap" 499),
 cO 363 "nodes_of" "Heap.nodes_of" 623 624 625 210 2 360 181 (rV 361) .none .none .none (rV 362) 626 627,
 fO 364 26 "nodes_of" "Heap.nodes_of" (sV "alikeheap.heap" 499),
 cO 375 "seek" "Heap.seek" 636 637 638 216 3 372 181 (rV 373) .none .none .none (rV 374) 639 640,
 fO 376 27 "seek" "Heap.seek" (sV "alikeheap.heap" 499),
 cO 403 "__init__" "Meet.__init__" 680 681 682 225 3 398 181 (rV 399) .none (rV 400) (rV 401) (rV 402) 686 687,
 fO 404 28 "__init__" "Meet.__init__" (sV "alikeheap.grammars" 666),
 cO 410 "nodes_by_op" "Meet.nodes_by_op" 689 690 691 234 2 405 181 (rV 406) .none (rV 407) (rV 408) (rV 409) 697 698,
 fO 411 29 "nodes_by_op" "Meet.nodes_by_op" (sV "alikeheap.grammars" 666),
 cO 417 "go_up" "Meet.go_up" 700 701 702 241 1 412 181 (rV 413) .none (rV 414) (rV 415) (rV 416) 712 713,
 fO 418 30 "go_up" "Meet.go_up" (sV "alikeheap.grammars" 666),
 cO 422 "put" "Meet.put" 715 716 717 250 4 419 181 (rV 420) .none .none .none (rV 421) 718 719,
 fO 423 31 "put" "Meet.put" (sV "alikeheap.grammars" 666),
 cO 429 "class_of" "Meet.class_of" 721 722 723 260 3 424 181 (rV 425) .none (rV 426) (rV 427) (rV 428) 728 729,
 fO 430 32 "class_of" "Meet.class_of" (sV "alikeheap.grammars" 666),
 cO 443 "_law_draw" "_law_draw" 745 746 747 264 2 438 181 (rV 439) .none (rV 440) (rV 441) (rV 442) 752 753,
 fO 444 33 "_law_draw" "_law_draw" (sV "law_pq0006_01" 743),
 cO 450 "_law_side" "_law_side" 755 756 757 270 1 445 181 (rV 446) .none (rV 447) (rV 448) (rV 449) 766 767,
 fO 451 34 "_law_side" "_law_side" (sV "law_pq0006_01" 743),
 cO 455 "_law_homes" "_law_homes" 769 770 771 285 2 452 181 (rV 453) .none .none .none (rV 454) 772 773,
 fO 456 35 "_law_homes" "_law_homes" (sV "law_pq0006_01" 743),
 cO 460 "_law_heads" "_law_heads" 775 776 777 298 2 457 181 (rV 458) .none .none .none (rV 459) 778 779,
 fO 461 36 "_law_heads" "_law_heads" (sV "law_pq0006_01" 743),
 cO 465 "_law_shared" "_law_shared" 781 782 783 300 2 462 181 (rV 463) .none .none .none (rV 464) 784 785,
 fO 466 37 "_law_shared" "_law_shared" (sV "law_pq0006_01" 743),
 cO 470 "_law_class" "_law_class" 787 788 789 310 2 467 181 (rV 468) .none .none .none (rV 469) 790 791,
 fO 471 38 "_law_class" "_law_class" (sV "law_pq0006_01" 743),
 cO 475 "_law_place" "_law_place" 793 794 795 313 2 472 181 (rV 473) .none .none .none (rV 474) 796 797,
 fO 476 39 "_law_place" "_law_place" (sV "law_pq0006_01" 743),
 cO 480 "_law_terms" "_law_terms" 799 800 801 316 0 477 181 (rV 478) .none .none .none (rV 479) 802 803,
 fO 481 40 "_law_terms" "_law_terms" (sV "law_pq0006_01" 743),
 cO 485 "_law_state" "_law_state" 805 806 807 325 1 482 181 (rV 483) .none .none .none (rV 484) 808 809,
 fO 486 41 "_law_state" "_law_state" (sV "law_pq0006_01" 743),
 cO 490 "law" "law" 811 812 813 328 1 487 181 (rV 488) .none .none .none (rV 489) 814 815,
 fO 491 42 "law" "law" (sV "law_pq0006_01" 743)]
noncomputable def fnA:List Addr:=[67,86,93,98,105,131,138,150,192,199,206,213,220,227,232,274,281,286,291,303,310,324,331,338,352,359,364,376,404,411,418,423,430,444,451,456,461,466,471,476,481,486,491]
end
section
open PySem PySem.W PyProof.Rows PySem.Calls PySem.SeqAt
open scoped Classical
theorem wp_if {c:Prop} [Decidable c] {M:Model} {A:Around} {α:Type} {a b:Sem α} {Q:α→Shared→Prop} {E:Value→Shared→Prop} {s:Shared} (h1:c→wpAny M A a Q E s) (h2:¬c→wpAny M A b Q E s):wpAny M A (if c then a else b) Q E s:=by
 by_cases h:c
 ·rw [if_pos h];exact h1 h
 ·rw [if_neg h];exact h2 h
structure Gx where
 w:World
 base:Heap
 mg:Str→Option Value
 mb:Str→Option Value
structure Fx where
 fsc:Scope
 sc:Scope
 tbl:List Str
 env:Env
 X:List Addr
 own:List Addr
structure Bs (g:Gx):Prop where
 K:(KF g.w.params).In g.base
 gl:g.base.Ns mainGlobals g.mg
 bl:g.base.Ns builtinsNs g.mb
 lim:g.base.NoLimit
 bi:∀x:Str,x≠"__name__"→g.mb x=bootBuiltins x
structure OkA (A:Around) (d:Nat):Prop where
 handled:A.handled=none
 depth:A.depth+4*d+40≤recursionLimit
 units:A.units+30*d+300≤cLine
structure EnvR (g:Gx) (x:Fx) (μ:Mu) (ρ:Loc) (h:Heap):Prop where
 scope:x.env.scope=x.sc
 fn:x.sc.kind = .function
 glob:x.env.globals=mainGlobals
 blt:x.env.builtins=builtinsNs
 ns:∃m,h.Ns x.env.locals m∧∀(i:Nat) y v,x.tbl[i]?=some y→x.sc.names.lookup y=some .local→ρ i=some v→∃u,m y=some u∧VR g.w x.X μ h v u
 locX:x.env.locals∈x.own
 cell:∀(i:Nat) y,x.tbl[i]?=some y→(x.sc.names.lookup y=some .cell∨x.sc.names.lookup y=some .free)→∃c ov,x.env.cells.lookup y=some c∧c∈x.X∧c≠x.env.locals∧h.IsCell c ov∧∀v,ρ i=some v→∃u,ov=some u∧VR g.w x.X μ h v u
 inj:∀y z c,x.env.cells.lookup y=some c→x.env.cells.lookup z=some c→y=z
 set:∀y,x.fsc.names.lookup y=some .cell→∀c,x.env.cells.lookup y=some c→c∈x.own
 lset:∀y,x.fsc.names.lookup y=some .local→x.sc.names.lookup y=some .local
 cset:∀y,x.fsc.names.lookup y=some .cell→x.sc.names.lookup y=some .cell
 own:∀b∈x.own,b∈x.X
 tbl:x.tbl.Nodup
structure Nx (g:Gx) (X:List Addr) (μ:Mu) (s:Shared) (σ:CSt) (s':Shared) (μ':Mu):Prop where
 st:St [] μ s μ' s'
 R:Rel g.w g.base X μ' σ s'.heap
structure Got (g:Gx) (X:List Addr) (μ:Mu) (s:Shared) (σ:CSt) (v:CV) (u:Value) (s':Shared) (μ':Mu):Prop extends Nx g X μ s σ s' μ' where
 r:VR g.w X μ' s'.heap v u
structure GotL (g:Gx) (X:List Addr) (μ:Mu) (s:Shared) (σ:CSt) (v:List CV) (u:List Value) (s':Shared) (μ':Mu):Prop extends Nx g X μ s σ s' μ' where
 r:VRs g.w X μ' s'.heap v u
structure Cx (g:Gx) (A:Around) (d:Nat) (x:Fx) (μ:Mu) (ρ:Loc) (σ:CSt) (s:Shared):Prop where
 B:Bs g
 O:OkA A d
 V:EnvR g x μ ρ s.heap
 R:Rel g.w g.base x.X μ σ s.heap
section
variable {g:Gx} {A:Around} {d:Nat} {x:Fx} {X:List Addr} {μ μ₁ μ₂:Mu} {ρ:Loc} {σ σ₁ σ₂:CSt} {s s₁ s₂:Shared} {v:CV} {u:Value}
theorem St.kp0 {X:List Addr} {μ μ':Mu} {s s':Shared} (x:St [] μ s μ' s'):Kp X μ s.heap X μ' s'.heap:=x.kp (by simp)
theorem Nx.kp (n:Nx g X μ s σ s₁ μ₁):Kp X μ s.heap X μ₁ s₁.heap:=n.st.kp0
theorem Nx.refl (R:Rel g.w g.base X μ σ s.heap):Nx g X μ s σ s μ:=⟨.refl _ _ _,R⟩
theorem Nx.tok (n:Nx g X μ s σ s₁ μ₁) (t:Nat):Nx g X μ s σ { s₁ with toks:=t } μ₁:=⟨n.st.tok t,n.R⟩
theorem Nx.trans (a:Nx g X μ s σ₁ s₁ μ₁) (b:Nx g X μ₁ s₁ σ₂ s₂ μ₂):Nx g X μ s σ₂ s₂ μ₂:=⟨a.st.trans0 b.st,b.R⟩
theorem Nx.and (a:Nx g X μ s σ₁ s₁ μ₁) (b:Got g X μ₁ s₁ σ₂ v u s₂ μ₂):Got g X μ s σ₂ v u s₂ μ₂:=⟨a.trans b.toNx,b.r⟩
theorem Got.now (R:Rel g.w g.base X μ σ s.heap) (r:VR g.w X μ s.heap v u):Got g X μ s σ v u s μ:=⟨.refl R,r⟩
theorem Got.tok (R:Rel g.w g.base X μ σ s.heap) (t:Nat) (r:VR g.w X μ s.heap v u):Got g X μ s σ v u { s with toks:=t } μ:=⟨(Nx.refl R).tok t,r⟩
theorem Rel.bs (R:Rel g.w g.base X μ σ s.heap) (B:Bs g):(KF g.w.params).In s.heap∧s.heap.Ns mainGlobals g.mg∧s.heap.Ns builtinsNs g.mb∧s.heap.NoLimit:=
 ⟨fun a o e=>R.keep _ _ (B.K a o e),B.gl.keeps R.keep,B.bl.keeps R.keep,B.lim.keeps R.keep⟩
theorem EnvR.keep (V:EnvR g x μ ρ s.heap) (R:Rel g.w g.base x.X μ σ s.heap) (y:St [] μ s μ₁ s₁):EnvR g x μ₁ ρ s₁.heap:=by
 have kept:∀b o,b∈x.X→s.heap.get? b=some o→s₁.heap.get? b=some o:=fun b o m e=>y.keep b o e (fun f=>R.notX b f m) (by simp)
 obtain ⟨m,hm,hv⟩:=V.ns
 refine { V with ns:=⟨m,?_,fun i z v h1 h2 h3=>?_⟩,cell:=fun i z h1 h2=>?_ }
 ·obtain ⟨o,es,ep,ho,r⟩:=hm
  exact ⟨o,es,ep,kept _ _ (V.own _ V.locX) ho,r⟩
 ·obtain ⟨u,hu,r⟩:=hv i z v h1 h2 h3
  exact ⟨u,hu,VR.mono y.kp0 _ r⟩
 ·obtain ⟨c,ov,h4,h5,h6,⟨o,ho,hd⟩,h7⟩:=V.cell i z h1 h2
  refine ⟨c,ov,h4,h5,h6,⟨o,kept _ _ h5 ho,hd⟩,fun v hv=>?_⟩
  obtain ⟨u,hu,r⟩:=h7 v hv
  exact ⟨u,hu,VR.mono y.kp0 _ r⟩
theorem Cx.next (C:Cx g A d x μ ρ σ s) (n:Nx g x.X μ s σ₁ s₁ μ₁):Cx g A d x μ₁ ρ σ₁ s₁:=⟨C.B,C.O,C.V.keep C.R n.st,n.R⟩
end
structure Does (d:Nat) (c:CE) (ρ:Loc) (σ:CSt) (v:CV) (σ':CSt):Prop where
 go:∀{e:Expr} {g:Gx} {A:Around} {x:Fx} {μ:Mu} {s:Shared} {E Q:Value→Shared→Prop},okE x.sc x.tbl c e=true→Cx g A d x μ ρ σ s→(∀u s' μ',Got g x.X μ s σ' v u s' μ'→Q u s')→wpAny (model pw g.w) A (eval e x.env) Q E s
structure DoesT (d:Nat) (c:CE) (ρ:Loc) (σ:CSt) (b:Bool) (σ':CSt):Prop where
 go:∀{e:Expr} {g:Gx} {A:Around} {x:Fx} {μ:Mu} {s:Shared} {E:Value→Shared→Prop} {Q:Bool→Shared→Prop},okE x.sc x.tbl c e=true→Cx g A d x μ ρ σ s→(∀s' μ',Nx g x.X μ s σ' s' μ'→Q b s')→wpAny (model pw g.w) A (isTrue e x.env (eval e x.env)) Q E s
structure OpD (op:Operator) (a b r:CV) (σ σ':CSt):Prop where
 go:∀{g:Gx} {A:Around} {X:List Addr} {μ:Mu} {s:Shared} {E Q:Value→Shared→Prop} {va vb:Value},Rel g.w g.base X μ σ s.heap→VR g.w X μ s.heap a va→VR g.w X μ s.heap b vb→
 (∀u s' μ',Got g X μ s σ' r u s' μ'→Q u s')→wpAny (model pw g.w) A (binaryOp op va vb) Q E s
section
variable {d:Nat} {ρ:Loc} {σ σ₁ σ₂ σ₃:CSt} {a b c:CE}
theorem Does.nil:Does d .none ρ σ .none σ:=⟨fun ok C K=>by
 refine an1 ok fun h1 h2=>?_
 rw [tgE h1]
 show wpAny _ _ (eval (.Constant _ _ _) _) _ _ _
 rw [of_decide_eq_true h2]
 exact wpAny_pure (a:=Value.none) (K _ _ _ (.now C.R rfl))⟩
theorem Does.bool {i:Bool}:Does d (.bool i) ρ σ (.bool i) σ:=⟨fun ok C K=>by
 refine an1 ok fun h1 h2=>?_
 rw [tgE h1]
 show wpAny _ _ (eval (.Constant _ _ _) _) _ _ _
 rw [of_decide_eq_true h2]
 exact wpAny_pure (a:=Value.bool i) (K _ _ _ (.now C.R rfl))⟩
theorem Does.int {i:Int}:Does d (.int i) ρ σ (.int i) σ:=⟨fun ok C K=>by
 refine an1 ok fun h1 h2=>?_
 rw [tgE h1]
 show wpAny _ _ (eval (.Constant _ _ _) _) _ _ _
 rw [of_decide_eq_true h2]
 exact wpAny_Constant_int (K _ _ _ (.tok C.R _ ⟨_,rfl⟩))⟩
theorem Does.var {i:Nat} {v:CV} (hv:ρ i=some v):Does d (.var i) ρ σ v σ:=⟨fun {e g A x μ s E Q} ok C K=>by
 refine an1 ok fun h0 ok=>?_
 rw [tgE h0]
 show wpAny _ _ (eval (.Name _ _) _) _ _ _
 generalize (view e).s=y at ok
 simp only [okVar,plainName,kindVar,Bool.and_eq_true,Bool.or_eq_true,decide_eq_true_eq,bne_iff_ne] at ok
 have kd:∀y,x.env.kindOf y=x.sc.names.lookup y:=fun y=>by unfold Env.kindOf;rw [C.V.scope]
 have hk:x.env.scope.kind = .function:=C.V.scope▸C.V.fn
 refine wpAny_Name ?_ (beq_eq_false_iff_ne.mpr ok.2.1)
 rcases ok.1.2 with (h2 | h2) | h2
 ·obtain ⟨m,hm,hl⟩:=C.V.ns
  obtain ⟨u,hu,r⟩:=hl i y _ ok.1.1 h2 hv
  exact wpAny_loadName_local hk ((kd y).trans h2) hm hu (K _ _ _ (.now C.R r))
 ·obtain ⟨c,ov,h5,ξ,ξ,h6,h7⟩:=C.V.cell i y ok.1.1 (.inl h2)
  obtain ⟨u,e7,r⟩:=h7 _ hv
  exact wpAny_loadName_cell hk ((kd y).trans h2) h5 (e7▸h6) (K _ _ _ (.now C.R r))
 ·obtain ⟨c,ov,h5,ξ,ξ,h6,h7⟩:=C.V.cell i y ok.1.1 (.inr h2)
  obtain ⟨u,e7,r⟩:=h7 _ hv
  exact wpAny_loadName_free hk ((kd y).trans h2) h5 (e7▸h6) (K _ _ _ (.now C.R r)) (beq_eq_false_iff_ne.mpr ok.2.2)⟩
theorem Does.ite {t:CE} {i:Bool} {v:CV} (T:DoesT d t ρ σ i σ₁) (S:Does d (if i then a else b) ρ σ₁ v σ₂):Does d (.ite t a b) ρ σ v σ₂:=⟨fun ok C K=>by
 refine an3 ok fun h1 o1 o2 o3=>?_
 rw [tgE h1]
 show wpAny _ _ (eval (.IfExp _ _ _ _) _) _ _ _
 rw [arm_eval_IfExp]
 refine wpAny_bind (T.go o1 C fun s' μ' n=>?_)
 cases i
 ·exact S.go o3 (C.next n) fun u s₂ μ₂ G=>K _ _ _ (n.and G)
 ·exact S.go o2 (C.next n) fun u s₂ μ₂ G=>K _ _ _ (n.and G)⟩
theorem DoesT.not {i:Bool} (T:DoesT d a ρ σ i σ₁):DoesT d (.not a) ρ σ (!i) σ₁:=⟨fun ok C K=>by
 refine an2 ok fun h1 o1 o2=>?_
 rw [tgE h1]
 show wpAny _ _ (isTrue (.UnaryOp _ _ _) _ (eval (.UnaryOp _ _ _) _)) _ _ _
 rw [of_decide_eq_true o1]
 exact wpAny_isTrue_Not (T.go o2 C fun s' μ' n=>K _ _ n)⟩
theorem Does.bin {op:Op} {u v w:CV} (A:Does d a ρ σ u σ₁) (B:Does d b ρ σ₁ v σ₂) (O:OpD (opN op) u v w σ₂ σ₃):Does d (.bin op a b) ρ σ w σ₃:=⟨fun ok C K=>by
 refine an3 ok fun h1 h2 o1 o2=>?_
 rw [tgE h1]
 show wpAny _ _ (eval (.BinOp _ _ _ _) _) _ _ _
 rw [of_decide_eq_true h2,arm_eval_BinOp]
 exact wpAny_bind (A.go o1 C fun ξ ξ ξ n=>wpAny_bind (wpAny_holding (B.go o2 (C.next n.toNx) fun ξ ξ ξ m=>wpAny_bind (wpAny_standAt (wpAny_operate' (O.go m.R (VR.mono m.kp _ n.r) m.r fun ξ ξ ξ k=>K _ _ _ (n.toNx.and (m.toNx.and k))))))))⟩
end
section
variable {σ:CSt} {i j:Int}
theorem OpD.addI:OpD .Add (.int i) (.int j) (.int (i+j)) σ σ:=⟨fun R w3 w4 K=>by
 obtain ⟨ξ,e⟩:=w3
 obtain ⟨ξ,e'⟩:=w4
 rw [e,e'];exact PySem.P.add_int (K _ _ _ (.tok R _ ⟨_,rfl⟩))⟩
theorem OpD.subI:OpD .Sub (.int i) (.int j) (.int (i - j)) σ σ:=⟨fun R w1 w2 K=>by
 obtain ⟨ξ,e⟩:=w1
 obtain ⟨ξ,e'⟩:=w2
 rw [e,e'];exact PySem.P.sub_int (K _ _ _ (.tok R _ ⟨_,rfl⟩))⟩
end
section
variable {M:Model} {A:Around} {E:Value→Shared→Prop} {s:Shared} {env:Env}
theorem starEach_plain {e:Expr} {rest:List Expr} (h:notStar e=true):starEach (e::rest) env=(false,eval e env)::starEach rest env:=by
 cases e<;>first | rfl | cases h
theorem attributeBase_plain {o:Expr} {n:Str} {whole:Sem Value} (h:notSuper o=true):attributeBase o n env whole=whole:=by
 cases o
 case Call f a k p=>
  cases f
  case Name=>cases a<;>cases k<;>first | rfl | cases h
  all_goals rfl
 all_goals rfl
theorem evalArgs_of {f:Value} {args:List (Bool×Sem Value)} {Q:Args→Shared→Prop} (hp:args.any (·.1)=false) (h:wpAny M A (spliced args) (fun vs s'=>Q ⟨vs,[]⟩ s') E s):wpAny M A (evalArgs f true args []) Q E s:=by
 cases args with
 | nil=>exact fun Γ p hΓ=>(PySem.evalArgs_none (E:=E) (h Γ p hΓ)) Γ p hΓ
 | cons a r=>
  obtain ⟨b,t⟩:=a
  cases b with
  | true=>cases hp
  | false=>exact evalArgs_plain h
theorem any_star {pos:Pos}:∀{es:List Expr},(es.all notStar)=true→(backTo pos (starEach es env)).any (·.1)=false∧(backTo pos (starEach es env)).all (!·.1)=true:=by
 intro l27
 induction l27 with
 | nil=>
  intro ξ
  exact ⟨rfl,rfl⟩
 | cons e es ih=>
  intro h
  have:=an (h:(notStar e&&es.all notStar)=true)
  rw [starEach_plain this.1]
  exact ih this.2
theorem MethodCall_gen {o:Expr} {name:Str} {apos pos:Pos} {args:List Expr} {Q:Value→Shared→Prop} (h1:notSuper o=true) (h2:args.all notStar=true) (h3:args.length<20) (h4:(apos.endLine==pos.line)=true)
  (h:∀pl:Sem Bool,wpAny M A (eval o env) (fun ov s₁=>wpAny M A (getMethod ov name pl) (fun fx s₂=>wpAny M A (callWith pos fx.1 fx.2 (backTo pos (starEach args env)) []) Q E s₂) E s₁) E s) :
  wpAny M A (eval (.Call (.Attribute o name apos) args [] pos) env) Q E s:=by
 rw [arm_eval_Call,attributeBase_plain h1]
 have few:methodCallForm (args.length+([]:List Keyword).length) (backTo pos (starEach args env)) (backToKw pos (keywordEach [] env))=true:=by
  unfold methodCallForm
  rw [(any_star h2).2]
  simp only [List.length_nil,Nat.add_zero,Bool.true_and,Bool.and_eq_true,decide_eq_true_eq]
  refine ⟨rfl,?_⟩
  show args.length+0<30
  lia
 refine wpAny_bind (wpAny_mono (h (do return (← importBound o env).getD true)) (fun ov s₁ h₁=>wpAny_bind (wpAny_standAt ?_)) fun ξ ξ x=>x)
 unfold methodCall
 rw [few]
 refine wpAny_bind (wpAny_holding ?_)
 show wpAny M A (getMethod ov name (do return (← importBound o env).getD true)) _ E s₁
 refine wpAny_mono h₁ (fun fx s₂ h₂=>?_) fun ξ ξ x=>x
 unfold methodCallPos
 rw [h4]
 exact wpAny_bind (wpAny_pure h₂)
abbrev KpOk (M:Model) (P:Heap→Prop) (f:Value):Prop:=∀h,P h→∃k,(k=Keeper.frame∨k=Keeper.machine∨k=Keeper.boundFrame)∧Looks M h (keeperOf f) k
theorem callWith_gen {P:Heap→Prop} {f:Value} {first:List Value} {pos:Pos} {args:List Expr} {Q:Value→Shared→Prop} (h2:args.all notStar=true) (hk:KpOk M P f)
  (h:wpAny M A (spliced (backTo pos (starEach args env))) (fun vs s₁=>P s₁.heap∧wpAny M A (call f (first++vs)) Q E s₁) E s):wpAny M A (callWith pos f first (backTo pos (starEach args env)) []) Q E s:=by
 refine callWith_of (P:=P) (by rw [(any_star h2).1];rfl) hk (evalArgs_of (any_star h2).1 h)
theorem keeps_builtin {id:String}:KpOk M (fun ξ=>True) (.builtin id):=fun ξ ξ=>⟨_,.inr (.inl rfl),Looks.of_pure rfl⟩
theorem keeps_type {id:String}:KpOk M (fun ξ=>True) (.type id):=fun ξ ξ=>⟨_,.inr (.inl rfl),Looks.of_pure rfl⟩
theorem Call_name {x:Str} {p pos:Pos} {args:List Expr} {Q:Value→Shared→Prop} {P:Heap→Prop} {f:Value} (h2:args.all notStar=true) (hk:KpOk M P f)
  (hn:∀Q':Value→Shared→Prop,Q' f s→wpAny M A (eval (.Name x p) env) Q' E s)
  (h:wpAny M A (spliced (backTo pos (starEach args env))) (fun vs s₁=>P s₁.heap∧wpAny M A (call f vs) Q E s₁) E s):wpAny M A (eval (.Call (.Name x p) args [] pos) env) Q E s:=by
 show wpAny M A (eval (.Name x p) env >>= fun f=>callWith pos f [] (backTo pos (starEach args env)) []) Q E s
 exact wpAny_bind (hn _ (callWith_gen h2 hk h))
end
structure DoesL (d:Nat) (cs:List CE) (ρ:Loc) (σ:CSt) (vs:List CV) (σ':CSt):Prop where
 go:∀{es:List Expr} {g:Gx} {A:Around} {x:Fx} {μ:Mu} {s:Shared} {pos:Pos} {E:Value→Shared→Prop} {Q:List Value→Shared→Prop},okEs x.sc x.tbl cs es=true→Cx g A d x μ ρ σ s→(∀us s' μ',GotL g x.X μ s σ' vs us s' μ'→Q us s')→wpAny (model pw g.w) A (spliced (backTo pos (starEach es x.env))) Q E s
section
variable {d:Nat} {ρ:Loc} {σ σ₁ σ₂:CSt} {c o:CE} {cs:List CE} {v:CV} {vs:List CV}
theorem big_fits {n:Nat} (h:n≤BIG):n≤sizeLine:=Nat.le_trans h (by decide)
theorem consE {es:List Expr} (h:(!es.isEmpty)=true):es=hd default es::es.tail:=by
 cases es
 ·cases h
 ·rfl
theorem okEs_star {sc:Scope} {tbl:List Str}:∀{cs:List CE} {es:List Expr},okEs sc tbl cs es=true→es.all notStar=true:=by
 intro l28
 induction l28 with
 | nil=>
  intro es h
  rw [List.isEmpty_iff.mp h];rfl
 | cons c cs ih=>
  intro es h
  refine an2 h fun h1 h2 h=>?_
  rw [consE h1,List.all_cons,h2,ih (an h).2];rfl
theorem DoesL.nil:DoesL d [] ρ σ [] σ:=⟨fun ok C K=>by
 rw [List.isEmpty_iff.mp ok]
 exact Calls.spliced_nil (K _ _ _ ⟨.refl C.R,trivial⟩)⟩
theorem DoesL.cons (S:Does d c ρ σ v σ₁) (T:DoesL d cs ρ σ₁ vs σ₂):DoesL d (c::cs) ρ σ (v::vs) σ₂:=⟨fun {es g A x μ s pos E Q} ok C K=>by
 refine an3 ok fun h1 h2 o1 o2=>?_
 rw [consE h1,starEach_plain h2]
 show wpAny _ A (spliced ((false,eval (hd default es) x.env)::backTo pos (starEach es.tail x.env))) _ _ _
 unfold spliced
 exact wpAny_bind (S.go o1 C fun u s₁ μ₁ n=>wpAny_bind (wpAny_pure (wpAny_bind (wpAny_holding (T.go o2 (C.next n.toNx) fun us s₂ μ₂ m=>wpAny_pure (K _ _ _ ⟨n.toNx.trans m.toNx,VR.mono m.toNx.kp _ n.r,m.r⟩))))))⟩
theorem DoesL.one (S:Does d c ρ σ v σ₁):DoesL d [c] ρ σ [v] σ₁:=.cons S .nil
end
section
variable {g:Gx} {X:List Addr} {μ:Mu} {σ:CSt} {s:Shared} {l:List CV} {xs:Array Value} {n tk:Nat}
theorem Nx.push (R:Rel g.w g.base X μ σ s.heap) (o:Obj) (tk:Nat):Nx g X μ s σ { s with heap:=s.heap.push o,toks:=tk } μ:=⟨St.push _ _,R.push _⟩
theorem Got.newTup (R:Rel g.w g.base X μ σ s.heap) (r:VRs g.w X μ s.heap l xs.toList):Got g X μ s σ (.tup l) (.ref s.heap.objs.size) { s with heap:=s.heap.push (tupO xs n),toks:=tk } μ:=
 ⟨.push R _ _,_,xs,n,rfl,Heap.get?_push_size _ rfl,R.notSize.1,R.notSize.2,VRs.mono (Kp.push _) _ r⟩
theorem Got.newLst (R:Rel g.w g.base X μ σ s.heap) (r:VRs g.w X μ s.heap l xs.toList):Got g X μ s σ (.lst l) (.ref s.heap.objs.size) { s with heap:=s.heap.push (lstO xs n),toks:=tk } μ:=
 ⟨.push R _ _,_,xs,n,rfl,Heap.get?_push_size _ rfl,R.notSize.1,R.notSize.2,VRs.mono (Kp.push _) _ r⟩
theorem Got.newObj {o':CObj} {h':Heap} {a:Addr} (R:Rel g.w g.base X μ σ s.heap) (k:∀b o,s.heap.get? b=some o→h'.get? b=some o) (f:s.heap.get? a=none∧∃o,h'.get? a=some o) (ho:Kp X μ s.heap X (μ++[(a,a)]) h'→OR g.w X (μ++[(a,a)]) h' (a,a) o') :
  Got g X μ s (σ++[o']) (.ref σ.length) (.ref a) { s with heap:=h',toks:=tk } (μ++[(a,a)]):=
 ⟨⟨St.alloc k f.1 f.1,(R.alloc k f f ho).1⟩,(a,a),by rw [← R.len];simp,rfl⟩
theorem Got.newList (R:Rel g.w g.base X μ σ s.heap) (r:VRs g.w X μ s.heap l xs.toList) :
  Got g X μ s (σ++[.list l]) (.ref σ.length) (.ref s.heap.objs.size) { s with heap:=s.heap.push (lstO xs n),toks:=tk } (μ++[(s.heap.objs.size,s.heap.objs.size)]):=
 .newObj R (fun ξ ξ e=>Heap.get?_push_of_some _ e) ⟨get_size _,_,Heap.get?_push_size _ rfl⟩ fun kp=>⟨rfl,xs,n,Heap.get?_push_size _ rfl,VRs.mono kp _ r⟩
end
section
variable {d:Nat} {ρ:Loc} {σ σ₁ σ₂:CSt} {c o:CE} {cs:List CE} {v:CV} {vs:List CV}
theorem Does.tup (S:DoesL d cs ρ σ vs σ₁) (hz:Nat.ble vs.length BIG=true):Does d (.tup cs) ρ σ (.tup vs) σ₁:=⟨fun ok C K=>by
 refine an1 ok fun h1 ok=>?_
 rw [tgE h1]
 show wpAny _ _ (eval (.Tuple _ _ _) _) _ _ _
 rw [arm_eval_Tuple]
 exact wpAny_bind (wpAny_standAt (wpAny_bind (S.go ok C fun us s₁ μ₁ n=>wpAny_newTuple (K _ _ _ (n.toNx.and (.newTup (xs:=us.toArray) n.R n.r))) (big_fits (VRs.length n.r▸Nat.le_of_ble_eq_true hz)))))⟩
theorem Does.lst (S:DoesL d cs ρ σ vs σ₁) (hz:Nat.ble vs.length BIG=true):Does d (.lst cs) ρ σ (.lst vs) σ₁:=⟨fun ok C K=>by
 refine an1 ok fun h1 ok=>?_
 rw [tgE h1]
 show wpAny _ _ (eval (.List _ _) _) _ _ _
 rw [arm_eval_List]
 exact wpAny_bind (wpAny_standAt (wpAny_bind (S.go ok C fun us s₁ μ₁ n=>wpAny_newList (K _ _ _ (n.toNx.and (.newLst (xs:=us.toArray) n.R n.r))) (big_fits (VRs.length n.r▸Nat.le_of_ble_eq_true hz)))))⟩
theorem Does.newl (S:DoesL d cs ρ σ vs σ₁) (hz:Nat.ble vs.length BIG=true):Does d (.newl cs) ρ σ (.ref σ₁.length) (σ₁++[.list vs]):=⟨fun ok C K=>by
 refine an1 ok fun h1 ok=>?_
 rw [tgE h1]
 show wpAny _ _ (eval (.List _ _) _) _ _ _
 rw [arm_eval_List]
 exact wpAny_bind (wpAny_standAt (wpAny_bind (S.go ok C fun us s₁ μ₁ n=>wpAny_newList (K _ _ _ (n.toNx.and (.newList (xs:=us.toArray) n.R n.r))) (big_fits (VRs.length n.r▸Nat.le_of_ble_eq_true hz)))))⟩
end
noncomputable def biV:List (Str×Value):=[("len",.builtin "len"),("sorted",.builtin "sorted"),("sum",.builtin "sum"),("max",.builtin "max"),("int",.type "int"),("str",.type "str"),("tuple",.type "tuple"),("list",.type "list"),("dict",.type "dict"),("set",.type "set"),("zip",.type "zip"),("range",.type "range"),("enumerate",.type "enumerate")]
theorem biV_boot:(biV.all fun p=>decide (bootBuiltins p.1=some p.2)&&p.1 != "__name__")=true:=by decide +kernel
theorem biV_glob (P:Params):(biV.all fun p=>decide (nsIn (KF P) mainGlobals p.1=some none))=true:=by kernel_rfl!
section
variable {g:Gx} {A:Around} {d:Nat} {x:Fx} {μ:Mu} {ρ:Loc} {σ:CSt} {s:Shared} {E:Value→Shared→Prop} {y nm:Str} {v:Value} {p:Pos} {Q:Value→Shared→Prop}
theorem isGlob_iff {sc:Scope} {x nm:Str} (h:isGlob sc x nm=true):x=nm∧sc.names.lookup x=some .globalImplicit∧(x==("__debug__":Str))=false∧x≠"":=by
 simp only [isGlob,Bool.and_eq_true,decide_eq_true_eq,bne_iff_ne,beq_iff_eq] at h
 exact ⟨h.1.1.1,h.1.1.2,beq_eq_false_iff_ne.mpr h.1.2,h.2⟩
theorem Cx.kind (C:Cx g A d x μ ρ σ s):x.env.scope.kind = .function∧x.env.kindOf=fun y=>x.sc.names.lookup y:=⟨C.V.scope▸C.V.fn,by unfold Env.kindOf;rw [C.V.scope]⟩
theorem name_bi (C:Cx g A d x μ ρ σ s) (ok:isGlob x.sc y nm=true) (hm:biV.contains (nm,v)=true) (h:Q v s):wpAny (model pw g.w) A (eval (.Name y p) x.env) Q E s:=by
 obtain ⟨rfl,hk,hd,ξ⟩:=isGlob_iff ok
 obtain ⟨b1,b2,b3,ξ⟩:=C.R.bs C.B
 have hm:=List.contains_iff_mem.mp hm
 refine an1 (List.all_eq_true.mp biV_boot _ hm) fun h1 h1'=>?_
 have h2:=of_decide_eq_true (List.all_eq_true.mp (biV_glob g.w.params) _ hm)
 exact Name_function_global C.kind.1 (by rw [C.kind.2];exact hk) (loadGlobal_builtin (by rw [C.V.glob];exact b2) (mg_none_of b1 b2 h2) (by rw [C.V.blt];exact b3) ((C.B.bi _ (bne_iff_ne.mp h1')).trans (of_decide_eq_true h1)) h) hd
theorem name_glob (C:Cx g A d x μ ρ σ s) (ok:isGlob x.sc y nm=true) (hv:nsIn (KF g.w.params) mainGlobals nm=some (some v)) (h:Q v s):wpAny (model pw g.w) A (eval (.Name y p) x.env) Q E s:=by
 obtain ⟨rfl,hk,hd,ξ⟩:=isGlob_iff ok
 obtain ⟨b1,b2,b3,ξ⟩:=C.R.bs C.B
 exact Name_function_global C.kind.1 (by rw [C.kind.2];exact hk) (loadGlobal_global (by rw [C.V.glob];exact b2) (mg_of b1 b2 hv) h) hd
end
structure Sx (g:Gx) (x:Fx) (μ:Mu) (s:Shared) (ρ:Loc) (σ:CSt) (s':Shared) (μ':Mu):Prop where
 st:St x.own μ s μ' s'
 R:Rel g.w g.base x.X μ' σ s'.heap
 V:EnvR g x μ' ρ s'.heap
section
variable {g:Gx} {A:Around} {d:Nat} {x:Fx} {μ μ₁ μ₂:Mu} {ρ ρ₁ ρ₂:Loc} {σ σ₁ σ₂:CSt} {s s₁ s₂:Shared} {v:CV} {u:Value} {E:Value→Shared→Prop}
theorem Cx.then (C:Cx g A d x μ ρ σ s) (n:Sx g x μ s ρ₁ σ₁ s₁ μ₁):Cx g A d x μ₁ ρ₁ σ₁ s₁:=⟨C.B,C.O,n.V,n.R⟩
theorem Cx.sx (C:Cx g A d x μ ρ σ s) (n:Nx g x.X μ s σ₁ s₁ μ₁):Sx g x μ s ρ σ₁ s₁ μ₁:=⟨n.st.weaken (by simp),n.R,C.V.keep C.R n.st⟩
theorem Sx.trans (a:Sx g x μ s ρ₁ σ₁ s₁ μ₁) (b:Sx g x μ₁ s₁ ρ₂ σ₂ s₂ μ₂):Sx g x μ s ρ₂ σ₂ s₂ μ₂:=⟨a.st.trans (fun q m=>a.R.insideX q (a.V.own q m)) b.st,b.R,b.V⟩
theorem Sx.kp (a:Sx g x μ s ρ₁ σ₁ s₁ μ₁):Kp x.X μ s.heap x.X μ₁ s₁.heap:=a.st.kp a.V.own
theorem tbl_inj {tbl:List Str} {i j:Nat} {y:Str} (nd:tbl.Nodup) (hi:tbl[i]?=some y) (hj:tbl[j]?=some y):i=j:=(List.getElem?_inj (List.getElem?_eq_some_iff.mp hi).1 nd).mp (hi.trans hj.symm)
theorem upd_eq {x:Nat}:upd ρ x v x=some v:=if_pos rfl
theorem upd_ne {x y:Nat} (h:y≠x):upd ρ x v y=ρ y:=if_neg h
theorem Sx.one {h':Heap} {tk:Nat} {c:Addr} (C:Cx g A d x μ ρ σ s) (hc:c∈x.own) (hs:∀b o,b≠c→s.heap.get? b=some o→h'.get? b=some o) (z:∃o,h'.get? c=some o) (hV:Kp x.X μ s.heap x.X μ h'→EnvR g x μ ρ₁ h'):Sx g x μ s ρ₁ σ { s with heap:=h',toks:=tk } μ:=
 have k:∀b o,s.heap.get? b=some o→b∉x.X→h'.get? b=some o:=fun b o e nx=>hs b o (fun q=>nx (q▸C.V.own c hc)) e
 ⟨⟨fun ξ ξ e=>e,fun ξ f=>.inl f,fun b o e ξ nr=>hs b o (fun q=>nr (q▸hc)) e,rfl,rfl⟩,
  C.R.keepX k fun b m=>if q:b=c then q▸z else (by obtain ⟨o,e⟩:=C.R.insideX b m;exact ⟨o,hs b o q e⟩),hV (C.R.kpX k)⟩
theorem store_sim {y:Str} {i:Nat} {Q:Unit→Shared→Prop} (C:Cx g A d x μ ρ σ s) (hx:okSet x.fsc x.tbl y i=true) (r:VR g.w x.X μ s.heap v u) (K:∀s',Sx g x μ s (upd ρ i v) σ s' μ→Q () s'):wpAny (model pw g.w) A (storeName x.env y u) Q E s:=by
 have V:=C.V
 refine an1 (an hx).1 fun hi hk=>?_
 replace hi:=of_decide_eq_true hi
 obtain ⟨k1,k2⟩:=C.kind
 have kd:∀y,x.env.kindOf y=x.sc.names.lookup y:=fun y=>by rw [k2]
 rcases (Bool.or_eq_true _ _).mp hk with hk | hk
 ·have hl:=V.lset y (of_decide_eq_true hk)
  obtain ⟨m,hm,hv⟩:=V.ns
  refine wpAny_storeName_local ((kd y).trans hl) hm (fun h' hn hs=>K _ (.one C V.locX hs.extBut ((by obtain ⟨o,ξ,ξ,ho,ξ⟩:=hn;exact ⟨o,ho⟩)) fun kp=>{ V with ns:=⟨_,hn,fun j z v' h1 h2 h3=>?_⟩,cell:=fun j z h1 h2=>?_ })) (by rw [k1];rfl)
  ·by_cases q:j=i
   ·rw [q] at h1 h3
    have e:z=y:=Option.some.inj (h1.symm.trans hi)
    rw [upd_eq] at h3
    exact ⟨u,by simp [e],VR.mono kp _ (Option.some.inj h3▸r)⟩
   ·have ny:z≠y:=fun e=>q (tbl_inj V.tbl h1 (e▸hi))
    rw [upd_ne q] at h3
    obtain ⟨u',hu',r'⟩:=hv j z v' h1 h2 h3
    exact ⟨u',by simp [ny,hu'],VR.mono kp _ r'⟩
  ·have nj:j≠i:=fun e=>by
    have ez:z=y:=Option.some.inj ((e▸h1).symm.trans hi)
    rw [ez,hl] at h2
    rcases h2 with h2 | h2<;>cases h2
   obtain ⟨c,ov,h4,h5,h6,h7,h8⟩:=V.cell j z h1 h2
   refine ⟨c,ov,h4,h5,h6,h7.sameBut hs h6,fun v' hv'=>?_⟩
   rw [upd_ne nj] at hv'
   obtain ⟨u',hu',r'⟩:=h8 v' hv'
   exact ⟨u',hu',VR.mono kp _ r'⟩
 ·replace hk:=of_decide_eq_true hk
  have hl:=V.cset y hk
  obtain ⟨c,ov,h4,h5,h6,h7,ξ⟩:=V.cell i y hi (.inl hl)
  refine wpAny_storeName_cell k1 ((kd y).trans hl) h4 h7 fun h' hn hs=>K _ (.one C (V.set y hk c h4) hs.extBut ((by obtain ⟨o,ho,ξ⟩:=hn;exact ⟨o,ho⟩)) fun kp=>{ V with ns:=?_,cell:=fun j z h1 h2=>?_ })
  ·obtain ⟨m,hm,hv⟩:=V.ns
   refine ⟨m,hm.sameBut hs (Ne.symm h6),fun j z v' h1 h2 h3=>?_⟩
   have nj:j≠i:=fun e=>by
    have ez:z=y:=Option.some.inj ((e▸h1).symm.trans hi)
    rw [ez,hl] at h2;cases h2
   rw [upd_ne nj] at h3
   obtain ⟨u',hu',r'⟩:=hv j z v' h1 h2 h3
   exact ⟨u',hu',VR.mono kp _ r'⟩
  ·by_cases q:j=i
   ·rw [q] at h1
    have e:z=y:=Option.some.inj (h1.symm.trans hi)
    refine ⟨c,some u,e▸h4,h5,h6,hn,fun v' hv'=>⟨u,rfl,VR.mono kp _ ?_⟩⟩
    rw [q,upd_eq] at hv'
    exact Option.some.inj hv'▸r
   ·obtain ⟨c',ov',g4,g5,g6,g7,g8⟩:=V.cell j z h1 h2
    have nc:c'≠c:=fun e=>q (tbl_inj V.tbl h1 ((V.inj z y c (e▸g4) h4)▸hi))
    refine ⟨c',ov',g4,g5,g6,g7.sameBut hs nc,fun v' hv'=>?_⟩
    rw [upd_ne q] at hv'
    obtain ⟨u',hu',r'⟩:=g8 v' hv'
    exact ⟨u',hu',VR.mono kp _ r'⟩
end
noncomputable def cTag:CE→Nat
 | .none=>0 | .bool _=>0 | .int _=>0 | .str _=>0 | .var _=>1 | .bop ..=>2 | .not _=>3 | .neg _=>3 | .bin ..=>4 | .addm ..=>4 | .cmp ..=>5 | .cmp2 ..=>5 | .ite ..=>6 | .tup _=>7 | .lst _=>8 | .newl _=>8 | .newd _=>9 | .comp ..=>10
 | .call ..=>11 | .inst ..=>11 | .bi ..=>11 | .sortedSet _=>11 | .sortedItems _=>11 | .tupZip ..=>11 | .listRange _=>11 | .umeth ..=>11 | .bmeth ..=>11 | .attr ..=>12 | .sub ..=>13 | .slice ..=>13
theorem okE_tag {sc:Scope} {tbl:List Str} {c:CE} {e:Expr} (h:okE sc tbl c e=true):tg e (cTag c)=true:=by
 cases c
 case call=>exact (an (an h).1).1
 case inst=>exact (an (an h).1).1
 case bi=>exact (an (an h).1).1
 case sortedSet=>exact (an (an h).1).1
 case sortedItems=>exact (an (an h).1).1
 case tupZip=>exact (an (an h).1).1
 case listRange=>exact (an (an h).1).1
 case umeth=>exact (an (an h).1).1
 case bmeth=>exact (an (an h).1).1
 all_goals exact (an h).1
theorem test_plain {e:Expr} {k:Nat} (h:tg e k=true) (p:(k==2||k==3||k==5||k==6)=false) (env:Env) (whole:Sem Value):isTrue e env whole=(do let v ← whole;standAt e.pos;holding [v] (truthy v)):=by
 cases e<;>first | rfl | (cases (Nat.eq_of_beq_eq_true h:_=k);cases p)
theorem swaps_no {e:Expr} {k:Nat} (h:tg e k=true) (p:(k==10||k==97)=false) (t:Option Expr) (n:Nat) (env:Env):swapsWith e t n env=pure false:=by
 cases e<;>first | rfl | (cases (Nat.eq_of_beq_eq_true h:_=k);cases p)
section
variable {d:Nat} {ρ ρ₁ ρ₂:Loc} {σ σ₁ σ₂:CSt} {c:CE} {i:Bool} {v:CV}
theorem DoesT.of (S:Does d c ρ σ (.bool i) σ₁) (p:(cTag c==2||cTag c==3||cTag c==5||cTag c==6)=false):DoesT d c ρ σ i σ₁:=⟨fun ok C K=>by
 rw [test_plain (okE_tag ok) p]
 exact wpAny_bind (S.go ok C fun u s' μ' n=>wpAny_bind (wpAny_standAt (wpAny_holding ((n.r:u = .bool i)▸wpAny_truthy_bool (K _ _ n.toNx)))))⟩
end
noncomputable def FlR (w:World) (X:List Addr) (μ:Mu) (h:Heap):Fl→Flow→Prop
 | .next,f=>f = .next
 | .ret v,f=>∃u,f = .ret u∧VR w X μ h v u
structure ExD (d:Nat) (c:CS) (ρ:Loc) (σ:CSt) (fl:Fl) (ρ':Loc) (σ':CSt):Prop where
 go:∀{st:Stmt} {g:Gx} {A:Around} {x:Fx} {μ:Mu} {s:Shared} {E:Value→Shared→Prop} {Q:Flow→Shared→Prop},okS x.sc x.tbl c st=true→x.fsc=x.sc→Cx g A d x μ ρ σ s→
  (∀f s' μ',Sx g x μ s ρ' σ' s' μ'→FlR g.w x.X μ' s'.heap fl f→Q f s')→wpAny (model pw g.w) A (exec st x.env) Q E s
structure RunD (d:Nat) (cs:List CS) (ρ:Loc) (σ:CSt) (fl:Fl) (ρ':Loc) (σ':CSt):Prop where
 go:∀{st:List Stmt} {g:Gx} {A:Around} {x:Fx} {μ:Mu} {s:Shared} {E:Value→Shared→Prop} {Q:Flow→Shared→Prop},okSs x.sc x.tbl cs st=true→x.fsc=x.sc→Cx g A d x μ ρ σ s→
  (∀f s' μ',Sx g x μ s ρ' σ' s' μ'→FlR g.w x.X μ' s'.heap fl f→Q f s')→wpAny (model pw g.w) A (execs st x.env) Q E s
section
variable {d:Nat} {ρ ρ₁ ρ₂:Loc} {σ σ₁ σ₂:CSt} {e:CE} {c:CS} {cs a b:List CS} {fl:Fl} {v:CV}
theorem consS {l:List Stmt} {q:Stmt} (h:(!l.isEmpty)=true):l=l.headD q::l.tail:=by
 cases l
 ·cases h
 ·rfl
theorem RunD.nil:RunD d [] ρ σ .next ρ σ:=⟨fun ok ξ C K=>by
 rw [List.isEmpty_iff.mp ok]
 exact wpAny_execs_nil (K _ _ _ (C.sx (.refl C.R)) rfl)⟩
theorem RunD.next (S:ExD d c ρ σ .next ρ₁ σ₁) (T:RunD d cs ρ₁ σ₁ fl ρ₂ σ₂):RunD d (c::cs) ρ σ fl ρ₂ σ₂:=⟨fun ok he C K=>by
 refine an2 ok fun h1 o1 o2=>?_
 rw [consS h1]
 exact wpAny_execs_cons (S.go o1 he C fun f s' μ' n r=>(r:f = .next)▸T.go o2 he (C.then n) fun f₂ s₂ μ₂ m r₂=>K _ _ _ (n.trans m) r₂)⟩
theorem RunD.stop (S:ExD d c ρ σ (.ret v) ρ₁ σ₁):RunD d (c::cs) ρ σ (.ret v) ρ₁ σ₁:=⟨fun ok he C K=>by
 refine an2 ok fun h1 o1 o2=>?_
 rw [consS h1]
 exact wpAny_execs_cons (S.go o1 he C fun f s' μ' n w5=>by obtain ⟨u,e,r⟩:=w5;exact e▸K _ _ _ n ⟨u,rfl,r⟩)⟩
theorem ExD.ret (S:Does d e ρ σ v σ₁):ExD d (.ret e) ρ σ (.ret v) ρ σ₁:=⟨fun ok he C K=>by
 refine an1 ok fun h1 ok=>?_
 rw [tgSE h1]
 show wpAny _ _ (exec (.Return _ _) _) _ _ _
 rw [exec_Return_some]
 exact wpAny_bind (wpAny_standAt (wpAny_bind (S.go ok C fun u s' μ' n=>wpAny_pure (K _ _ _ (C.sx n.toNx) ⟨u,rfl,n.r⟩))))⟩
theorem RunD.ret (S:Does d e ρ σ v σ₁):RunD d (.ret e::cs) ρ σ (.ret v) ρ σ₁:=.stop (.ret S)
theorem ExD.ite {t:CE} {i:Bool} (T:DoesT d t ρ σ i σ₁) (S:RunD d (if i then a else b) ρ σ₁ fl ρ₂ σ₂):ExD d (.ite t a b) ρ σ fl ρ₂ σ₂:=⟨fun ok he C K=>by
 refine an3 ok fun h1 o1 o2 o3=>?_
 rw [tgSE h1]
 show wpAny _ _ (exec (.If _ _ _ _) _) _ _ _
 rw [arm_exec_If]
 refine wpAny_bind (wpAny_standAt (wpAny_bind (T.go o1 C fun s' μ' n=>?_)))
 cases i
 ·exact S.go o3 he (C.next n) fun f s₂ μ₂ m r=>K _ _ _ ((C.sx n).trans m) r
 ·exact S.go o2 he (C.next n) fun f s₂ μ₂ m r=>K _ _ _ ((C.sx n).trans m) r⟩
theorem ExD.skip {t:CE} (T:DoesT d t ρ σ false σ₁):ExD d (.ite t a []) ρ σ .next ρ σ₁:=.ite (i:=false) T .nil
theorem ExD.assign {i:Nat} (S:Does d e ρ σ v σ₁) (p:(cTag e==10||cTag e==97)=false):ExD d (.assign i e) ρ σ .next (upd ρ i v) σ₁:=⟨fun {st g A x μ s E Q} ok he C K=>by
 refine an4 ok fun h1 h2 o1 o2 ok=>?_
 rw [tgSE h1]
 show wpAny _ _ (exec (.Assign [(viewS st).x] _ _) _) _ _ _
 rw [tgE h2]
 show wpAny _ _ (exec (.Assign [.Name _ _] _ _) _) _ _ _
 rw [arm_exec_Assign]
 refine wpAny_bind (wpAny_standAt ?_)
 show wpAny _ A (swapsWith (viewS st).y (some (.Name (view (viewS st).x).s (view (viewS st).x).p)) (viewS st).p.line x.env >>= _) _ E s
 rw [swaps_no (okE_tag o2) p]
 refine wpAny_bind (wpAny_pure (wpAny_bind (S.go o2 C fun u s₁ μ₁ n=>wpAny_bind (wpAny_pure ?_))))
 show wpAny _ A (PySem.assign (.Name (view (viewS st).x).s (view (viewS st).x).p) x.env u >>= fun ξ=>pure Flow.next) _ E s₁
 exact wpAny_bind (assign_Name (store_sim (C.next n.toNx) (he▸o1) n.r fun s₂ m=>wpAny_pure (K _ _ _ ((C.sx n.toNx).trans m) rfl)))⟩
end
theorem lookup_mem {l:List (Str×NameKind)} {x:Str} {k:NameKind} (h:l.lookup x=some k):(x,k)∈l:=mem_of_lookup h
theorem len0 {P:List Value→Prop} {vs:List Value} (h:vs.length=0) (k:P []):P vs:=by cases vs<;>first | exact k | cases h
theorem len1 {P:List Value→Prop} {vs:List Value} (h:vs.length=1) (k:∀a,P [a]):P vs:=by
 cases vs with
 | nil=>cases h
 | cons a r=>exact len0 (P:=fun r=>P (a::r)) (Nat.succ.inj h) (k a)
theorem len2 {P:List Value→Prop} {vs:List Value} (h:vs.length=2) (k:∀a b,P [a,b]):P vs:=by
 cases vs with
 | nil=>cases h
 | cons a r=>exact len1 (P:=fun r=>P (a::r)) (Nat.succ.inj h) (k a)
theorem len3 {P:List Value→Prop} {vs:List Value} (h:vs.length=3) (k:∀a b c,P [a,b,c]):P vs:=by
 cases vs with
 | nil=>cases h
 | cons a r=>exact len2 (P:=fun r=>P (a::r)) (Nat.succ.inj h) (k a)
theorem len4 {P:List Value→Prop} {vs:List Value} (h:vs.length=4) (k:∀a b c d,P [a,b,c,d]):P vs:=by
 cases vs with
 | nil=>cases h
 | cons a r=>exact len3 (P:=fun r=>P (a::r)) (Nat.succ.inj h) (k a)
noncomputable def fnNames (f n:Nat):List Str:=(varT.getD f []).take n
structure FnK (P:Params) (f n:Nat):Prop where
 it:∃oc od sl fd,(KF P).lookup (fnA.getD f 0)=some ⟨oc,od,.func fd,sl⟩∧fd.body = .stmts (fnB f)∧fd.scope=fnS f∧fd.closure=[]∧fd.globals=mainGlobals∧fd.builtins=builtinsNs∧codeIn (KF P) fd.code fd.qualname=true∧
  ∀vals:List Value,vals.length=n→bindArgs fd ⟨vals,[]⟩=pure ((fnNames f n).zip vals)
theorem fnK_0 (P:Params):FnK P 0 1:=⟨⟨_,_,_,_,rfl,rfl,rfl,rfl,rfl,rfl,by kernel_rfl!,fun vals h=>len1 (P:=fun v=>bindArgs _ ⟨v,[]⟩=pure ((fnNames 0 1).zip v)) h (fun a=>by kernel_rfl!)⟩⟩
theorem fnK_1 (P:Params):FnK P 1 1:=⟨⟨_,_,_,_,rfl,rfl,rfl,rfl,rfl,rfl,by kernel_rfl!,fun vals h=>len1 (P:=fun v=>bindArgs _ ⟨v,[]⟩=pure ((fnNames 1 1).zip v)) h (fun a=>by kernel_rfl!)⟩⟩
theorem fnK_2 (P:Params):FnK P 2 1:=⟨⟨_,_,_,_,rfl,rfl,rfl,rfl,rfl,rfl,by kernel_rfl!,fun vals h=>len1 (P:=fun v=>bindArgs _ ⟨v,[]⟩=pure ((fnNames 2 1).zip v)) h (fun a=>by kernel_rfl!)⟩⟩
theorem fnK_3 (P:Params):FnK P 3 3:=⟨⟨_,_,_,_,rfl,rfl,rfl,rfl,rfl,rfl,by kernel_rfl!,fun vals h=>len3 (P:=fun v=>bindArgs _ ⟨v,[]⟩=pure ((fnNames 3 3).zip v)) h (fun a b c=>by kernel_rfl!)⟩⟩
theorem fnK_4 (P:Params):FnK P 4 2:=⟨⟨_,_,_,_,rfl,rfl,rfl,rfl,rfl,rfl,by kernel_rfl!,fun vals h=>len2 (P:=fun v=>bindArgs _ ⟨v,[]⟩=pure ((fnNames 4 2).zip v)) h (fun a b=>by kernel_rfl!)⟩⟩
theorem fnK_5 (P:Params):FnK P 5 2:=⟨⟨_,_,_,_,rfl,rfl,rfl,rfl,rfl,rfl,by kernel_rfl!,fun vals h=>len2 (P:=fun v=>bindArgs _ ⟨v,[]⟩=pure ((fnNames 5 2).zip v)) h (fun a b=>by kernel_rfl!)⟩⟩
theorem fnK_6 (P:Params):FnK P 6 2:=⟨⟨_,_,_,_,rfl,rfl,rfl,rfl,rfl,rfl,by kernel_rfl!,fun vals h=>len2 (P:=fun v=>bindArgs _ ⟨v,[]⟩=pure ((fnNames 6 2).zip v)) h (fun a b=>by kernel_rfl!)⟩⟩
theorem fnK_7 (P:Params):FnK P 7 2:=⟨⟨_,_,_,_,rfl,rfl,rfl,rfl,rfl,rfl,by kernel_rfl!,fun vals h=>len2 (P:=fun v=>bindArgs _ ⟨v,[]⟩=pure ((fnNames 7 2).zip v)) h (fun a b=>by kernel_rfl!)⟩⟩
theorem fnK_8 (P:Params):FnK P 8 1:=⟨⟨_,_,_,_,rfl,rfl,rfl,rfl,rfl,rfl,by kernel_rfl!,fun vals h=>len1 (P:=fun v=>bindArgs _ ⟨v,[]⟩=pure ((fnNames 8 1).zip v)) h (fun a=>by kernel_rfl!)⟩⟩
theorem fnK_9 (P:Params):FnK P 9 1:=⟨⟨_,_,_,_,rfl,rfl,rfl,rfl,rfl,rfl,by kernel_rfl!,fun vals h=>len1 (P:=fun v=>bindArgs _ ⟨v,[]⟩=pure ((fnNames 9 1).zip v)) h (fun a=>by kernel_rfl!)⟩⟩
theorem fnK_10 (P:Params):FnK P 10 1:=⟨⟨_,_,_,_,rfl,rfl,rfl,rfl,rfl,rfl,by kernel_rfl!,fun vals h=>len1 (P:=fun v=>bindArgs _ ⟨v,[]⟩=pure ((fnNames 10 1).zip v)) h (fun a=>by kernel_rfl!)⟩⟩
theorem fnK_11 (P:Params):FnK P 11 2:=⟨⟨_,_,_,_,rfl,rfl,rfl,rfl,rfl,rfl,by kernel_rfl!,fun vals h=>len2 (P:=fun v=>bindArgs _ ⟨v,[]⟩=pure ((fnNames 11 2).zip v)) h (fun a b=>by kernel_rfl!)⟩⟩
theorem fnK_12 (P:Params):FnK P 12 3:=⟨⟨_,_,_,_,rfl,rfl,rfl,rfl,rfl,rfl,by kernel_rfl!,fun vals h=>len3 (P:=fun v=>bindArgs _ ⟨v,[]⟩=pure ((fnNames 12 3).zip v)) h (fun a b c=>by kernel_rfl!)⟩⟩
theorem fnK_13 (P:Params):FnK P 13 2:=⟨⟨_,_,_,_,rfl,rfl,rfl,rfl,rfl,rfl,by kernel_rfl!,fun vals h=>len2 (P:=fun v=>bindArgs _ ⟨v,[]⟩=pure ((fnNames 13 2).zip v)) h (fun a b=>by kernel_rfl!)⟩⟩
theorem fnK_14 (P:Params):FnK P 14 1:=⟨⟨_,_,_,_,rfl,rfl,rfl,rfl,rfl,rfl,by kernel_rfl!,fun vals h=>len1 (P:=fun v=>bindArgs _ ⟨v,[]⟩=pure ((fnNames 14 1).zip v)) h (fun a=>by kernel_rfl!)⟩⟩
theorem fnK_15 (P:Params):FnK P 15 1:=⟨⟨_,_,_,_,rfl,rfl,rfl,rfl,rfl,rfl,by kernel_rfl!,fun vals h=>len1 (P:=fun v=>bindArgs _ ⟨v,[]⟩=pure ((fnNames 15 1).zip v)) h (fun a=>by kernel_rfl!)⟩⟩
theorem fnK_16 (P:Params):FnK P 16 1:=⟨⟨_,_,_,_,rfl,rfl,rfl,rfl,rfl,rfl,by kernel_rfl!,fun vals h=>len1 (P:=fun v=>bindArgs _ ⟨v,[]⟩=pure ((fnNames 16 1).zip v)) h (fun a=>by kernel_rfl!)⟩⟩
theorem fnK_17 (P:Params):FnK P 17 2:=⟨⟨_,_,_,_,rfl,rfl,rfl,rfl,rfl,rfl,by kernel_rfl!,fun vals h=>len2 (P:=fun v=>bindArgs _ ⟨v,[]⟩=pure ((fnNames 17 2).zip v)) h (fun a b=>by kernel_rfl!)⟩⟩
theorem fnK_18 (P:Params):FnK P 18 3:=⟨⟨_,_,_,_,rfl,rfl,rfl,rfl,rfl,rfl,by kernel_rfl!,fun vals h=>len3 (P:=fun v=>bindArgs _ ⟨v,[]⟩=pure ((fnNames 18 3).zip v)) h (fun a b c=>by kernel_rfl!)⟩⟩
theorem fnK_19 (P:Params):FnK P 19 2:=⟨⟨_,_,_,_,rfl,rfl,rfl,rfl,rfl,rfl,by kernel_rfl!,fun vals h=>len2 (P:=fun v=>bindArgs _ ⟨v,[]⟩=pure ((fnNames 19 2).zip v)) h (fun a b=>by kernel_rfl!)⟩⟩
theorem fnK_20 (P:Params):FnK P 20 2:=⟨⟨_,_,_,_,rfl,rfl,rfl,rfl,rfl,rfl,by kernel_rfl!,fun vals h=>len2 (P:=fun v=>bindArgs _ ⟨v,[]⟩=pure ((fnNames 20 2).zip v)) h (fun a b=>by kernel_rfl!)⟩⟩
theorem fnK_21 (P:Params):FnK P 21 4:=⟨⟨_,_,_,_,rfl,rfl,rfl,rfl,rfl,rfl,by kernel_rfl!,fun vals h=>len4 (P:=fun v=>bindArgs _ ⟨v,[]⟩=pure ((fnNames 21 4).zip v)) h (fun a b c d=>by kernel_rfl!)⟩⟩
theorem fnK_22 (P:Params):FnK P 22 4:=⟨⟨_,_,_,_,rfl,rfl,rfl,rfl,rfl,rfl,by kernel_rfl!,fun vals h=>len4 (P:=fun v=>bindArgs _ ⟨v,[]⟩=pure ((fnNames 22 4).zip v)) h (fun a b c d=>by kernel_rfl!)⟩⟩
theorem fnK_23 (P:Params):FnK P 23 1:=⟨⟨_,_,_,_,rfl,rfl,rfl,rfl,rfl,rfl,by kernel_rfl!,fun vals h=>len1 (P:=fun v=>bindArgs _ ⟨v,[]⟩=pure ((fnNames 23 1).zip v)) h (fun a=>by kernel_rfl!)⟩⟩
theorem fnK_24 (P:Params):FnK P 24 1:=⟨⟨_,_,_,_,rfl,rfl,rfl,rfl,rfl,rfl,by kernel_rfl!,fun vals h=>len1 (P:=fun v=>bindArgs _ ⟨v,[]⟩=pure ((fnNames 24 1).zip v)) h (fun a=>by kernel_rfl!)⟩⟩
theorem fnK_25 (P:Params):FnK P 25 2:=⟨⟨_,_,_,_,rfl,rfl,rfl,rfl,rfl,rfl,by kernel_rfl!,fun vals h=>len2 (P:=fun v=>bindArgs _ ⟨v,[]⟩=pure ((fnNames 25 2).zip v)) h (fun a b=>by kernel_rfl!)⟩⟩
theorem fnK_26 (P:Params):FnK P 26 2:=⟨⟨_,_,_,_,rfl,rfl,rfl,rfl,rfl,rfl,by kernel_rfl!,fun vals h=>len2 (P:=fun v=>bindArgs _ ⟨v,[]⟩=pure ((fnNames 26 2).zip v)) h (fun a b=>by kernel_rfl!)⟩⟩
theorem fnK_27 (P:Params):FnK P 27 3:=⟨⟨_,_,_,_,rfl,rfl,rfl,rfl,rfl,rfl,by kernel_rfl!,fun vals h=>len3 (P:=fun v=>bindArgs _ ⟨v,[]⟩=pure ((fnNames 27 3).zip v)) h (fun a b c=>by kernel_rfl!)⟩⟩
theorem fnK_28 (P:Params):FnK P 28 3:=⟨⟨_,_,_,_,rfl,rfl,rfl,rfl,rfl,rfl,by kernel_rfl!,fun vals h=>len3 (P:=fun v=>bindArgs _ ⟨v,[]⟩=pure ((fnNames 28 3).zip v)) h (fun a b c=>by kernel_rfl!)⟩⟩
theorem fnK_29 (P:Params):FnK P 29 2:=⟨⟨_,_,_,_,rfl,rfl,rfl,rfl,rfl,rfl,by kernel_rfl!,fun vals h=>len2 (P:=fun v=>bindArgs _ ⟨v,[]⟩=pure ((fnNames 29 2).zip v)) h (fun a b=>by kernel_rfl!)⟩⟩
theorem fnK_30 (P:Params):FnK P 30 1:=⟨⟨_,_,_,_,rfl,rfl,rfl,rfl,rfl,rfl,by kernel_rfl!,fun vals h=>len1 (P:=fun v=>bindArgs _ ⟨v,[]⟩=pure ((fnNames 30 1).zip v)) h (fun a=>by kernel_rfl!)⟩⟩
theorem fnK_31 (P:Params):FnK P 31 4:=⟨⟨_,_,_,_,rfl,rfl,rfl,rfl,rfl,rfl,by kernel_rfl!,fun vals h=>len4 (P:=fun v=>bindArgs _ ⟨v,[]⟩=pure ((fnNames 31 4).zip v)) h (fun a b c d=>by kernel_rfl!)⟩⟩
theorem fnK_32 (P:Params):FnK P 32 3:=⟨⟨_,_,_,_,rfl,rfl,rfl,rfl,rfl,rfl,by kernel_rfl!,fun vals h=>len3 (P:=fun v=>bindArgs _ ⟨v,[]⟩=pure ((fnNames 32 3).zip v)) h (fun a b c=>by kernel_rfl!)⟩⟩
theorem fnK_33 (P:Params):FnK P 33 2:=⟨⟨_,_,_,_,rfl,rfl,rfl,rfl,rfl,rfl,by kernel_rfl!,fun vals h=>len2 (P:=fun v=>bindArgs _ ⟨v,[]⟩=pure ((fnNames 33 2).zip v)) h (fun a b=>by kernel_rfl!)⟩⟩
theorem fnK_34 (P:Params):FnK P 34 1:=⟨⟨_,_,_,_,rfl,rfl,rfl,rfl,rfl,rfl,by kernel_rfl!,fun vals h=>len1 (P:=fun v=>bindArgs _ ⟨v,[]⟩=pure ((fnNames 34 1).zip v)) h (fun a=>by kernel_rfl!)⟩⟩
theorem fnK_35 (P:Params):FnK P 35 2:=⟨⟨_,_,_,_,rfl,rfl,rfl,rfl,rfl,rfl,by kernel_rfl!,fun vals h=>len2 (P:=fun v=>bindArgs _ ⟨v,[]⟩=pure ((fnNames 35 2).zip v)) h (fun a b=>by kernel_rfl!)⟩⟩
theorem fnK_36 (P:Params):FnK P 36 2:=⟨⟨_,_,_,_,rfl,rfl,rfl,rfl,rfl,rfl,by kernel_rfl!,fun vals h=>len2 (P:=fun v=>bindArgs _ ⟨v,[]⟩=pure ((fnNames 36 2).zip v)) h (fun a b=>by kernel_rfl!)⟩⟩
theorem fnK_37 (P:Params):FnK P 37 2:=⟨⟨_,_,_,_,rfl,rfl,rfl,rfl,rfl,rfl,by kernel_rfl!,fun vals h=>len2 (P:=fun v=>bindArgs _ ⟨v,[]⟩=pure ((fnNames 37 2).zip v)) h (fun a b=>by kernel_rfl!)⟩⟩
theorem fnK_38 (P:Params):FnK P 38 2:=⟨⟨_,_,_,_,rfl,rfl,rfl,rfl,rfl,rfl,by kernel_rfl!,fun vals h=>len2 (P:=fun v=>bindArgs _ ⟨v,[]⟩=pure ((fnNames 38 2).zip v)) h (fun a b=>by kernel_rfl!)⟩⟩
theorem fnK_39 (P:Params):FnK P 39 2:=⟨⟨_,_,_,_,rfl,rfl,rfl,rfl,rfl,rfl,by kernel_rfl!,fun vals h=>len2 (P:=fun v=>bindArgs _ ⟨v,[]⟩=pure ((fnNames 39 2).zip v)) h (fun a b=>by kernel_rfl!)⟩⟩
theorem fnK_40 (P:Params):FnK P 40 0:=⟨⟨_,_,_,_,rfl,rfl,rfl,rfl,rfl,rfl,by kernel_rfl!,fun vals h=>len0 (P:=fun v=>bindArgs _ ⟨v,[]⟩=pure ((fnNames 40 0).zip v)) h (by kernel_rfl!)⟩⟩
theorem fnK_41 (P:Params):FnK P 41 1:=⟨⟨_,_,_,_,rfl,rfl,rfl,rfl,rfl,rfl,by kernel_rfl!,fun vals h=>len1 (P:=fun v=>bindArgs _ ⟨v,[]⟩=pure ((fnNames 41 1).zip v)) h (fun a=>by kernel_rfl!)⟩⟩
theorem fnK_42 (P:Params):FnK P 42 1:=⟨⟨_,_,_,_,rfl,rfl,rfl,rfl,rfl,rfl,by kernel_rfl!,fun vals h=>len1 (P:=fun v=>bindArgs _ ⟨v,[]⟩=pure ((fnNames 42 1).zip v)) h (fun a=>by kernel_rfl!)⟩⟩
theorem fnK (P:Params):∀(f:Nat) (fn:CFn),cprog.fns[f]?=some fn→FnK P f fn.params
 | 0,_,h=>Option.some.inj h▸fnK_0 P
 | 1,_,h=>Option.some.inj h▸fnK_1 P
 | 2,_,h=>Option.some.inj h▸fnK_2 P
 | 3,_,h=>Option.some.inj h▸fnK_3 P
 | 4,_,h=>Option.some.inj h▸fnK_4 P
 | 5,_,h=>Option.some.inj h▸fnK_5 P
 | 6,_,h=>Option.some.inj h▸fnK_6 P
 | 7,_,h=>Option.some.inj h▸fnK_7 P
 | 8,_,h=>Option.some.inj h▸fnK_8 P
 | 9,_,h=>Option.some.inj h▸fnK_9 P
 | 10,_,h=>Option.some.inj h▸fnK_10 P
 | 11,_,h=>Option.some.inj h▸fnK_11 P
 | 12,_,h=>Option.some.inj h▸fnK_12 P
 | 13,_,h=>Option.some.inj h▸fnK_13 P
 | 14,_,h=>Option.some.inj h▸fnK_14 P
 | 15,_,h=>Option.some.inj h▸fnK_15 P
 | 16,_,h=>Option.some.inj h▸fnK_16 P
 | 17,_,h=>Option.some.inj h▸fnK_17 P
 | 18,_,h=>Option.some.inj h▸fnK_18 P
 | 19,_,h=>Option.some.inj h▸fnK_19 P
 | 20,_,h=>Option.some.inj h▸fnK_20 P
 | 21,_,h=>Option.some.inj h▸fnK_21 P
 | 22,_,h=>Option.some.inj h▸fnK_22 P
 | 23,_,h=>Option.some.inj h▸fnK_23 P
 | 24,_,h=>Option.some.inj h▸fnK_24 P
 | 25,_,h=>Option.some.inj h▸fnK_25 P
 | 26,_,h=>Option.some.inj h▸fnK_26 P
 | 27,_,h=>Option.some.inj h▸fnK_27 P
 | 28,_,h=>Option.some.inj h▸fnK_28 P
 | 29,_,h=>Option.some.inj h▸fnK_29 P
 | 30,_,h=>Option.some.inj h▸fnK_30 P
 | 31,_,h=>Option.some.inj h▸fnK_31 P
 | 32,_,h=>Option.some.inj h▸fnK_32 P
 | 33,_,h=>Option.some.inj h▸fnK_33 P
 | 34,_,h=>Option.some.inj h▸fnK_34 P
 | 35,_,h=>Option.some.inj h▸fnK_35 P
 | 36,_,h=>Option.some.inj h▸fnK_36 P
 | 37,_,h=>Option.some.inj h▸fnK_37 P
 | 38,_,h=>Option.some.inj h▸fnK_38 P
 | 39,_,h=>Option.some.inj h▸fnK_39 P
 | 40,_,h=>Option.some.inj h▸fnK_40 P
 | 41,_,h=>Option.some.inj h▸fnK_41 P
 | 42,_,h=>Option.some.inj h▸fnK_42 P
 | _+43,_,h=>nomatch h
noncomputable def fnTabOk (f n:Nat):Bool:=decide ((fnS f).kind = .function)&&!(fnS f).isGenerator&&!(fnS f).isCoroutine&&decide ((varT.getD f []).Nodup)&&decide (n≤(varT.getD f []).length)&&
 ((varT.getD f []).all fun x=>decide ((fnS f).names.lookup x≠some .free))&&((fnNames f n).all fun x=>decide ((fnS f).names.lookup x=some .local)||decide ((fnS f).names.lookup x=some .cell))
theorem fnTab_all:((List.range 43).all fun f=>fnTabOk f ((cprog.fns[f]?.map (·.params)).getD 0))=true:=by decide +kernel
theorem get_ge {h:Heap} {b:Addr} (l:h.objs.size≤b):h.get? b=none:=by
 cases e:h.get? b with
 | none=>rfl
 | some o=>exact absurd (Heap.lt_size e) (Nat.not_lt.mpr l)
theorem bindL_keep {kindOf:Str→Option NameKind} {x:Str}:∀{bs:List (Str×Value)} {m:Str→Option Value},(∀p∈bs,p.1≠x)→bindL kindOf bs m x=m x:=by
 intro l43
 induction l43 with
 | nil=>
  intro ξ ξ
  exact rfl
 | cons a44 r ih=>
  obtain ⟨n,v⟩:=a44
  intro m h
  rw [bindL,ih fun p hp=>h p (.tail _ hp)]
  split
  ·show (if x=n then some v else m x)=m x
   rw [if_neg fun e=>h (n,v) (.head _) e.symm]
  ·rfl
theorem bindL_at {kindOf:Str→Option NameKind}:∀{ns:List Str} {vs:List Value} {m:Str→Option Value} {i:Nat} {x:Str} {u:Value},ns.Nodup→ns[i]?=some x→vs[i]?=some u→kindOf x=some .local→bindL kindOf (ns.zip vs) m x=some u:=by
 intro l45
 induction l45 with
 | nil=>
  intro ξ ξ ξ ξ ξ ξ h ξ ξ
  cases h
 | cons n ns ih=>
  intro l46
  cases l46 with
  | nil=>
   intro ξ ξ ξ ξ ξ ξ h ξ
   cases h
  | cons v vs=>
   intro m l47
   cases l47 with
   | zero=>
    intro x u nd h1 h2 hk
    cases h1;cases h2
    rw [List.zip_cons_cons,bindL,bindL_keep,if_pos hk,if_pos rfl]
    intro p hp e
    exact (List.nodup_cons.mp nd).1 (e▸(List.of_mem_zip (b:=p.2) hp).1)
   | succ i=>
    intro x u nd h1 h2 hk
    rw [List.zip_cons_cons,bindL]
    exact ih (List.nodup_cons.mp nd).2 (i:=i) h1 h2 hk
theorem bindC_keep {kindOf:Str→Option NameKind} {x:Str}:∀{bs:List (Str×Value)} {m:Str→Option Value},(∀p∈bs,p.1≠x)→bindC kindOf bs m x=m x:=by
 intro l48
 induction l48 with
 | nil=>
  intro ξ ξ
  exact rfl
 | cons a49 r ih=>
  obtain ⟨n,v⟩:=a49
  intro m h
  rw [bindC,ih fun p hp=>h p (.tail _ hp)]
  split
  ·rfl
  ·show (if x=n then some v else m x)=m x
   rw [if_neg fun e=>h (n,v) (.head _) e.symm]
theorem bindC_at {kindOf:Str→Option NameKind}:∀{ns:List Str} {vs:List Value} {m:Str→Option Value} {i:Nat} {x:Str} {u:Value},ns.Nodup→ns[i]?=some x→vs[i]?=some u→kindOf x≠some .local→bindC kindOf (ns.zip vs) m x=some u:=by
 intro l50
 induction l50 with
 | nil=>
  intro ξ ξ ξ ξ ξ ξ h ξ ξ
  cases h
 | cons n ns ih=>
  intro l51
  cases l51 with
  | nil=>
   intro ξ ξ ξ ξ ξ ξ h ξ
   cases h
  | cons v vs=>
   intro m l52
   cases l52 with
   | zero=>
    intro x u nd h1 h2 hk
    cases h1;cases h2
    rw [List.zip_cons_cons,bindC,bindC_keep,if_neg hk,if_pos rfl]
    intro p hp e
    exact (List.nodup_cons.mp nd).1 (e▸(List.of_mem_zip (b:=p.2) hp).1)
   | succ i=>
    intro x u nd h1 h2 hk
    rw [List.zip_cons_cons,bindC]
    exact ih (List.nodup_cons.mp nd).2 (i:=i) h1 h2 hk
theorem cells_has {x:Str}:∀(names:List (Str×NameKind)) (n:Nat) (acc:List (Str×Addr)),((x,NameKind.cell)∈names∨(acc.lookup x).isSome=true)→((cellsFrom n names acc).lookup x).isSome=true:=by
 intro l2
 induction l2 with
 | nil=>
  intro ξ ξ h
  exact h.elim (fun m=>by cases m) id
 | cons a3 r ih=>
  obtain ⟨y,k⟩:=a3
  intro n acc h
  unfold cellsFrom
  split
  ·refine ih _ _ ?_
   rcases h with m | h
   ·rcases List.mem_cons.mp m with e | m
    ·cases e;right;simp [List.lookup_cons]
    ·exact .inl m
   ·right;rw [List.lookup_cons];split
    ·rfl
    ·exact h
  ·rename_i hk
   refine ih _ _ ?_
   rcases h with m | h
   ·rcases List.mem_cons.mp m with e | m
    ·cases e;exact absurd rfl hk
    ·exact .inl m
   ·exact .inr h
theorem paramsL_get:∀{vs:List CV} {k i:Nat} {v:CV},paramsL k vs i=some v→k≤i∧vs[i - k]?=some v:=by
 intro l55
 induction l55 with
 | nil=>
  intro ξ ξ ξ h
  exact nomatch h
 | cons u vs ih=>
  intro k i v h
  by_cases e:i=k
  ·rw [e] at h⊢
   rw [Nat.sub_self]
   exact ⟨Nat.le_refl _,(if_pos rfl).symm.trans h⟩
  ·obtain ⟨a,b⟩:=ih (k:=k+1) ((if_neg e).symm.trans h)
   exact ⟨by lia,by rw [show i - k=(i - (k+1))+1 by lia];exact b⟩
structure OkF (A:Around) (d:Nat):Prop where
 handled:A.handled=none
 depth:A.depth+4*d+38≤recursionLimit
 units:A.units+30*d+280≤cLine
section
variable {g:Gx} {A:Around} {d:Nat} {x:Fx} {μ:Mu} {ρ ρ':Loc} {σ σ':CSt} {s:Shared}
theorem OkA.f (O:OkA A d):OkF A d:=⟨O.handled,by have:=O.depth;lia,by have:=O.units;lia⟩
theorem OkF.room (x:OkF A d):A.depth<recursionLimit:=by have:=x.depth;lia
theorem OkF.deeper (O:OkF A (d+1)) (env:Env):OkA (A.deeper env) d:=⟨O.handled,by have:=O.depth;show A.depth+1+4*d+40≤_;lia,by have:=O.units;show A.units+3+30*d+300≤_;lia⟩
structure Calls (d f:Nat) (args:List CV) (σ:CSt) (v:CV) (σ':CSt):Prop where
 go:∀{g:Gx} {A:Around} {X:List Addr} {μ:Mu} {s:Shared} {vs:List Value} {E Q:Value→Shared→Prop},Bs g→OkF A d→Rel g.w g.base X μ σ s.heap→VRs g.w X μ s.heap args vs→(∀u s' μ',Got g X μ s σ' v u s' μ'→Q u s')→
  codeAny (model pw g.w) A (.call (.ref (fnA.getD f 0)) ⟨vs,[]⟩) (fun r s'=>match r with | .ok (.ret v)=>Q v s' | .ok _=>False | .error e=>E e s') s
theorem body_ok {f:Nat} {fn:CFn} (hf:cprog.fns[f]?=some fn):f<43∧okSs (fnS f) (varT.getD f []) fn.body (fnB f)=true:=by
 have lt:f<43:=(List.getElem?_eq_some_iff.mp hf).1
 refine ⟨lt,?_⟩
 have h:=List.all_eq_true.mp okFn_all f (List.mem_range.mpr lt)
 unfold okFn at h
 rw [hf] at h
 unfold fnS fnB
 rw [List.getD_eq_getElem?_getD]
 cases hd:theDef f with
 | none=>rw [hd] at h;cases h
 | some y=>
  cases hv:varT[f]? with
  | none=>rw [hd,hv] at h;cases h
  | some tbl=>rw [hd,hv] at h;exact (an (an h).1).1
noncomputable def flV:Fl→CV
 | .next=>.none
 | .ret v=>v
end
section
variable {d f:Nat} {args:List CV} {ρ ρ':Loc} {σ σ':CSt} {fl:Fl} {v:CV}
theorem Calls.body {fn:CFn} (hfn:cprog.fns[f]?=some fn) (hlen:args.length=fn.params) (S:RunD d fn.body (paramsL 0 args) σ fl ρ' σ'):Calls (d+1) f args σ (flV fl) σ':=⟨fun {g A X μ s vs E Q} B O R rs K=>by
 obtain ⟨lt,okb⟩:=body_ok hfn
 obtain ⟨oc,od,sl,fd,hk,hbody,hsc,hclo,hgl,hbl,hcd,hbind⟩:=(fnK g.w.params f fn hfn).it
 have tab:=List.all_eq_true.mp fnTab_all f (List.mem_range.mpr lt)
 rw [hfn] at tab
 refine an1 tab fun tab t7=>?_
 refine an1 tab fun tab t6=>?_
 refine an1 tab fun tab t5=>?_
 refine an1 tab fun tab t4=>?_
 refine an1 tab fun tab t3=>?_
 refine an1 tab fun t1 t2=>?_
 replace t1:=of_decide_eq_true t1
 replace t4:=of_decide_eq_true t4
 have t5:fn.params≤(varT.getD f []).length:=of_decide_eq_true t5
 obtain ⟨b1,b2,b3,b4⟩:=R.bs B
 have hvl:vs.length=fn.params:=(VRs.length rs).trans hlen
 have ndn:(fnNames f fn.params).Nodup:=List.Sublist.nodup (List.take_sublist _ _) t4
 refine codeAny_call_cells O.room (b1 _ _ hk) rfl b4 (codeRec_of b1 hcd) hbody (hbind vs hvl) hclo (fun p hp=>?_) (fun s₁ hx=>?_) (hsc▸(Bool.not_eq_true' _).mp t3) (hsc▸(Bool.not_eq_true' _).mp t2) (hsc▸t1)
 ·rw [hsc]
  rcases (Bool.or_eq_true _ _).mp (List.all_eq_true.mp t7 p.1 (List.of_mem_zip (b:=p.2) hp).1) with e | e
  ·exact .inl (of_decide_eq_true e)
  ·exact .inr ⟨of_decide_eq_true e,cells_has _ _ _ (.inl (lookup_mem (of_decide_eq_true e)))⟩
 ·obtain ⟨h₁,tk,rfl,hkeep⟩:=hx.done
  generalize hL:s.heap.objs.size=L at hx⊢
  have fresh:∀b,L≤b→s.heap.get? b=none:=fun b l=>get_ge (hL▸l)
  generalize henv:callEnvC fd L (fnA.getD f 0)=env at hx⊢
  have eL:env.locals=L:=by rw [← henv];rfl
  have eS:env.scope=fnS f:=by rw [← henv];exact hsc
  have eG:env.globals=mainGlobals:=by rw [← henv];exact hgl
  have eB:env.builtins=builtinsNs:=by rw [← henv];exact hbl
  have eC:env.cells=cellsFrom (L+1) (fnS f).names []:=by rw [← henv,← hsc];rfl
  have eK:env.kindOf=fun x=>(fnS f).names.lookup x:=by unfold Env.kindOf;rw [eS]
  generalize hown:L::(fnS f).names.filterMap (fun p=>env.cells.lookup p.1)=own
  have cellOwn:∀y c,(fnS f).names.lookup y=some .cell→env.cells.lookup y=some c→c∈own:=fun y c h1 h2=>hown▸.tail _ (List.mem_filterMap.mpr ⟨_,lookup_mem h1,h2⟩)
  have ownF:∀b∈own,s.heap.get? b=none∧∃o,h₁.get? b=some o:=fun b m=>by
   rw [← hown] at m
   rcases List.mem_cons.mp m with e | m
   ·obtain ⟨o,ξ,ξ,ho,ξ⟩:=hx.toInCall.ns
    exact ⟨fresh _ (Nat.le_of_eq e.symm),o,e▸eL▸ho⟩
   ·obtain ⟨p,hp,hc⟩:=List.mem_filterMap.mp m
    obtain ⟨o,ho,ξ⟩:=hx.cell p.1 b hc
    exact ⟨fresh _ (Nat.le_of_lt (eL▸hx.above p.1 b (mem_of_lookup hc))),o,ho⟩
  have moreV:∀{c:CV} {v:Value},VR g.w X μ s.heap c v→VR g.w (own++X) μ h₁ c v:=fun r=>VR.more hkeep (fun b m=>(ownF b m).1) r
  have par:∀{i:Nat} {y:Str} {v:CV},(varT.getD f [])[i]?=some y→paramsL 0 args i=some v→∃u,vs[i]?=some u∧VR g.w X μ s.heap v u∧(fnNames f fn.params)[i]?=some y:=fun {i y v} hi hp=>by
   obtain ⟨u,hu,r⟩:=VRs.get rs (paramsL_get hp).2
   have lt:=(List.getElem?_eq_some_iff.mp hu).1
   exact ⟨u,hu,r,by unfold fnNames;rw [List.getElem?_take_of_lt (by lia)];exact hi⟩
  have V:EnvR g ⟨fnS f,fnS f,varT.getD f [],env,own++X,own⟩ μ (paramsL 0 args) h₁:=
   {scope:=eS,fn:=t1,glob:=eG,blt:=eB,locX:=by rw [← hown];exact eL▸.head _,set:=fun y h1 c h2=>cellOwn y c h1 h2,lset:=fun ξ e=>e,cset:=fun ξ e=>e,own:=fun b m=>List.mem_append_left _ m,tbl:=t4
    inj:=fun y z c h1 h2=>name_of_addr hx.apart (mem_of_lookup h1) (mem_of_lookup h2)
    ns:=⟨_,hx.toInCall.ns,fun i y v h1 h2 h3=>by
     obtain ⟨u,hu,r,hn⟩:=par h1 h3
     exact ⟨u,bindL_at ndn hn hu (by rw [eK];exact h2),moreV r⟩⟩
    cell:=fun i y h1 h2=>by
     have hc:(fnS f).names.lookup y=some .cell:=h2.resolve_right (of_decide_eq_true (List.all_eq_true.mp t6 y (List.mem_of_getElem? h1)))
     obtain ⟨c,hc'⟩:=Option.isSome_iff_exists.mp (cells_has (x:=y) (fnS f).names (L+1) [] (.inl (lookup_mem hc)))
     rw [← eC] at hc'
     refine ⟨c,_,hc',List.mem_append_left _ (cellOwn y c hc hc'),by rw [show (Fx.env _)=env from rfl,eL];exact Nat.ne_of_gt (eL▸hx.above y c (mem_of_lookup hc')),hx.cell y c hc',fun v hv=>?_⟩
     obtain ⟨u,hu,r,hn⟩:=par h1 hv
     exact ⟨u,bindC_at ndn hn hu (by rw [eK];show (fnS f).names.lookup y≠_;rw [hc];nofun),moreV r⟩ }
  have st₀:St own μ s μ { s with heap:=h₁,toks:=tk }:=(St.of_keeps hkeep:St [] μ s μ _).weaken (by simp)
  refine S.go (x:=⟨fnS f,fnS f,varT.getD f [],env,own++X,own⟩) (s:={ s with heap:=h₁,toks:=tk }) okb rfl ⟨B,O.deeper env,V,R.more hkeep ownF⟩ fun fv s' μ' n r=>?_
  have sub:∀b∈X,b∈own++X:=fun b m=>List.mem_append_right _ m
  refine K _ _ μ' ⟨⟨(st₀.trans (fun b m=>(ownF b m).2) n.st).weaken fun b m=>.inr (ownF b m).1,n.R.fewer sub⟩,?_⟩
  cases fl with
  | next=>rw [(r:fv = .next)];rfl
  | ret v=>obtain ⟨u,e,rv⟩:=r;rw [e];exact VR.fewer sub rv⟩
end
theorem glob_fns (P:Params):((List.range 43).all fun f=>fnT.getD f ""==""||decide (nsIn (KF P) mainGlobals (fnT.getD f "")=some (some (.ref (fnA.getD f 0)))))=true:=by kernel_rfl!
theorem keep_fns (P:Params):((List.range 43).all fun f=>keepIn (KF P) (.ref (fnA.getD f 0)))=true:=by kernel_rfl!
theorem cls_get (P:Params):((List.range 4).all fun c=>decide (findIn (KF P) (.ref (clsN c)) "__getattribute__"=some (some (.builtin "object.__getattribute__")))&&decide (findIn (KF P) (.ref (clsN c)) "__getattr__"=some none))=true:=by kernel_rfl!
theorem cls_fns (P:Params):((List.range 4).all fun c=>(List.range 22).all fun m=>match cprog.meth c m with
  | some f=>decide (findIn (KF P) (.ref (clsN c)) (methT.getD m "")=some (some (.ref (fnA.getD f 0))))&&(decide (typeIn (KF P) (.ref (fnA.getD f 0))=some (.type "function"))&&Nat.blt f 43)
  | none=>true)=true:=by kernel_rfl!
theorem cls_attrs (P:Params):((List.range 4).all fun c=>((clsIn (KF P) (clsN c)).any fun cd=>cd.hasDict)&&(List.range 17).all fun a=>decide (findIn (KF P) (.ref (clsN c)) (attrN a)=some none))=true:=by kernel_rfl!
theorem meth_attr:((List.range 22).all fun m=>(List.range 17).all fun a=>decide (attrN a≠methT.getD m ""))=true:=by decide +kernel
theorem attr_inj:((List.range 17).all fun a=>(List.range 17).all fun b=>decide (attrN a=attrN b→a=b))=true:=by decide +kernel
theorem all_lt {n i:Nat} {p:Nat→Bool} (h:(List.range n).all p=true) (l:i<n):p i=true:=List.all_eq_true.mp h i (List.mem_range.mpr l)
theorem attrN_inj {a b:Nat} (ha:a<17) (hb:b<17):attrN a=attrN b→a=b:=of_decide_eq_true (all_lt (all_lt attr_inj ha) hb)
section
variable {w:World} {X:List Addr} {μ:Mu} {h:Heap} {fs:List (Nat×CV)} {c:CV}
theorem ARs.keys:∀{fs:List (Nat×CV)} {ds:List DictEntry},ARs w X μ h fs ds→∀e∈ds,∃a t,a<17∧e.key = .str (attrN a) t:=by
 intro l56
 induction l56 with
 | nil=>
  intro l57
  cases l57 with
  | nil=>
   intro ξ ξ m
   exact nomatch m
  | cons ξ ξ=>
   intro r ξ ξ
   exact r.elim
 | cons a58 fs ih=>
  obtain ⟨a,c⟩:=a58
  intro l59
  cases l59 with
  | nil=>
   intro r ξ ξ
   exact r.elim
  | cons e ds=>
   intro r e' m
   exact (List.mem_cons.mp m).elim (fun q=>(by obtain ⟨t,ht⟩:=r.1;exact ⟨a,t,r.2.1,q▸ht⟩)) (ih r.2.2.2 e')
theorem ARs.noRef {ds:List DictEntry} (r:ARs w X μ h fs ds):ds.any (·.refKey)=false:=List.any_eq_false.mpr fun e m=>by
 obtain ⟨a,t,ξ,ht⟩:=r.keys e m
 rw [DictEntry.refKey,ht];nofun
theorem isStr_attr {a b:Nat} {t:Tok} (ha:a<17) (hb:b<17):(Value.str (attrN a) t).isStr (attrN b)=decide (a=b):=by
 by_cases e:a=b
 ·rw [e,decide_eq_true rfl];exact beq_self_eq_true _
 ·rw [decide_eq_false e];exact beq_eq_false_iff_ne.mpr fun z=>e (attrN_inj ha hb z)
theorem ARs.find:∀{fs:List (Nat×CV)} {ds:List DictEntry} {a:Nat} {c:CV},ARs w X μ h fs ds→a<17→fs.lookup a=some c→∃e,ds.find? (fun e=>e.key.isStr (attrN a))=some e∧VR w X μ h c e.val
 | [],_,_,_,_,_,hl=>nomatch hl
 | _::_,[],_,_,r,_,_=>r.elim
 | (b,c')::fs,e::ds,a,c,⟨⟨t,ht⟩,hb,r,rs⟩,ha,hl=>by
  rw [List.lookup_cons] at hl
  rw [List.find?_cons,ht,isStr_attr hb ha]
  by_cases z:a=b
  ·rw [beq_iff_eq.mpr z] at hl
   rw [decide_eq_true z.symm]
   exact ⟨e,rfl,Option.some.inj hl▸r⟩
  ·rw [beq_eq_false_iff_ne.mpr z] at hl
   rw [decide_eq_false (Ne.symm z)]
   exact ARs.find rs ha hl
theorem handed_vr:∀{c:CV} {v:Value},VR w X μ h c v→handedIn v=true:=by
 intro c v r
 cases c with
 | none=>exact (r:_=_)▸rfl
 | bool=>exact (r:_=_)▸rfl
 | int=>obtain ⟨ξ,e⟩:=r;exact e▸rfl
 | str=>obtain ⟨ξ,e⟩:=r;exact e▸rfl
 | tup=>obtain ⟨ξ,ξ,ξ,e,ξ⟩:=r;exact e▸rfl
 | lst=>obtain ⟨ξ,ξ,ξ,e,ξ⟩:=r;exact e▸rfl
 | dct=>obtain ⟨ξ,ξ,ξ,e,ξ⟩:=r;exact e▸rfl
 | ref=>obtain ⟨ξ,ξ,e⟩:=r;exact e▸rfl
structure InstC (w:World) (X:List Addr) (μ:Mu) (h:Heap) (c:Nat) (fs:List (Nat×CV)) (p:Addr×Addr) (ds:Array DictEntry) (n:Nat):Prop where
 lt:c<4
 iat:InstAt h p.1 (instObj (clsN c) p.2) (clsN c) (some (dctO ds n))
 rs:ARs w X μ h fs ds.toList
 nd:(fs.map (·.1)).Nodup
 dt:h.get? p.2=some (dctO ds n)
theorem inst_at {c:Nat} {p:Addr×Addr} {P:Prop} (o:OR w X μ h p (.inst c fs)) (K:∀ds n,InstC w X μ h c fs p ds n→P):P:=by
 obtain ⟨_,hc,g,_,ds,n,g2,r,nd⟩:=o
 exact K ds n ⟨hc,⟨g,rfl,rfl,g2⟩,r,nd,g2⟩
end
noncomputable def isMeth (c m f:Nat):Bool:=decide (cprog.meth c m=some f)&&Nat.blt m 22
section
variable {g:Gx} {A:Around} {X:List Addr} {μ:Mu} {s:Shared} {d f m c a i:Nat} {ρ:Loc} {σ σ₁ σ₂ σ₃:CSt} {o:CE} {es:List CE} {v:CV} {vs:List CV} {fs:List (Nat×CV)} {us:List Value} {E Q:Value→Shared→Prop}
theorem Calls.any (T:Calls d f vs σ v σ₁) (B:Bs g) (O:OkA A d) (R:Rel g.w g.base X μ σ s.heap) (rs:VRs g.w X μ s.heap vs us) (K:∀u s' μ',Got g X μ s σ₁ v u s' μ'→Q u s'):wpAny (model pw g.w) A (call (.ref (fnA.getD f 0)) us) Q E s:=
 wpAny_call (T.go B O.f R rs K)
theorem kp_fn (P:Params) {M:Model} (lt:f<43):KpOk M (fun h=>(KF P).In h) (.ref (fnA.getD f 0)):=fun h t=>keeps_K (all_lt (keep_fns P) lt) h t
theorem Does.call (S:DoesL d es ρ σ vs σ₁) (T:Calls d f vs σ₁ v σ₂):Does d (.call f es) ρ σ v σ₂:=⟨fun {e g A x μ s E Q} ok C K=>by
 refine an1 ok fun h1 ok=>?_
 refine an2 h1 fun h1 h2 h3=>?_
 rw [tgE h1]
 show wpAny _ _ (eval (.Call (view e).x _ _ _) _) _ _ _
 rw [tgE h2]
 obtain ⟨q,ξ,ξ,hne⟩:=isGlob_iff h3
 have lt:f<43:=Nat.lt_of_not_le fun ge=>hne (q.trans (by rw [List.getD_eq_getElem?_getD,List.getElem?_eq_none (by exact ge)];rfl))
 have hg:=all_lt (glob_fns g.w.params) lt
 rw [beq_eq_false_iff_ne.mpr (q▸hne),Bool.false_or] at hg
 exact Call_name (okEs_star ok) (kp_fn g.w.params lt) (fun Q' q=>name_glob C h3 (of_decide_eq_true hg) q) (S.go ok C fun us s₁ μ₁ n=>⟨(n.R.bs C.B).1,T.any C.B C.O n.R n.r fun u s₂ μ₂ m=>K _ _ _ (n.toNx.and m)⟩)⟩
theorem Does.umeth (So:Does d o ρ σ (.ref a) σ₁) (hi:σ₁[a]?=some (.inst c fs)) (hf:isMeth c m f=true) (S:DoesL d es ρ σ₁ vs σ₂) (T:Calls d f (.ref a::vs) σ₂ v σ₃):Does d (.umeth o m es) ρ σ v σ₃:=⟨fun {e g A x μ s E Q} ok C K=>by
 refine an3 ok fun h1 hl ok1 ok2=>?_
 refine an4 h1 fun h1 h2 h3 h4 h5=>?_
 refine an1 hf fun hf hm=>?_
 rw [tgE h1]
 show wpAny _ _ (eval (.Call (view e).x _ _ _) _) _ _ _
 rw [tgE h2]
 refine MethodCall_gen h5 (okEs_star ok2) (of_decide_eq_true hl) h4 fun pl=>So.go ok1 C fun u s₁ μ₁ n=>?_
 obtain ⟨q,hq,hu⟩:=n.r
 rw [hu]
 refine inst_at (n.R.obj a q _ hq hi) fun ds k I=>?_
 have H:=all_lt (all_lt (cls_fns g.w.params) I.lt) (Nat.le_of_ble_eq_true hm)
 rw [of_decide_eq_true hf] at H
 refine an2 H fun H4 H5 H6=>?_
 refine an1 (all_lt (cls_get g.w.params) I.lt) fun H1 H2=>?_
 have sh:shadowIn (some (dctO ds k)) (methT.getD m "")=some false:=by
  have fn:ds.toList.find? (fun e=>e.key.isStr (methT.getD m ""))=Option.none:=List.find?_eq_none.mpr fun e me=>by
   obtain ⟨a',t,ha,ht⟩:=I.rs.keys e me
   rw [ht]
   exact fun z=>of_decide_eq_true (all_lt (all_lt meth_attr (Nat.le_of_ble_eq_true hm)) ha) (eq_of_beq z)
  show (lookIn _ (dctO ds k)).map (·.isSome)=some false
  unfold lookIn
  simp only [fn,I.rs.noRef]
  rfl
 rw [show (view (view e).x).s=methT.getD m "" from eq_of_beq h3]
 refine method_fn (n.R.bs C.B).1 I.iat (of_decide_eq_true H1) (of_decide_eq_true H2) (of_decide_eq_true H4) (of_decide_eq_true H5) sh ?_
 exact callWith_gen (okEs_star ok2) (kp_fn g.w.params (Nat.le_of_ble_eq_true H6)) (S.go ok2 (C.next n.toNx) fun us s₂ μ₂ m=>⟨(m.R.bs C.B).1,T.any C.B C.O m.R ⟨⟨q,m.st.pre _ _ hq,rfl⟩,m.r⟩ fun u s₃ μ₃ k=>K _ _ _ (n.toNx.and (m.toNx.and k))⟩)⟩
theorem Does.attr (So:Does d o ρ σ (.ref i) σ₁) (hi:σ₁[i]?=some (.inst c fs)) (hl:fs.lookup a=some v) (ha:Nat.blt a 17=true):Does d (.attr o a) ρ σ v σ₁:=⟨fun {e g A x μ s E Q} ok C K=>by
 refine an3 ok fun h1 h2 h3 ok=>?_
 rw [tgE h1]
 show wpAny _ _ (eval (.Attribute _ _ _) _) _ _ _
 rw [of_decide_eq_true h2,arm_eval_Attribute,attributeBase_plain h3]
 refine wpAny_bind (So.go ok C fun u s₁ μ₁ n=>wpAny_bind (wpAny_standAt (wpAny_bind (wpAny_holding ?_))))
 obtain ⟨q,hq,hu⟩:=n.r
 rw [hu]
 refine inst_at (n.R.obj i q _ hq hi) fun ds k I=>?_
 have ha:=Nat.le_of_ble_eq_true ha
 refine an1 (all_lt (cls_attrs g.w.params) I.lt) fun G1 G2=>?_
 obtain ⟨cd,hcd,hd⟩:=any_some G1
 obtain ⟨en,he,re⟩:=I.rs.find ha hl
 have hf:findObj (KF g.w.params) (clsN c) (some (dctO ds k)) (attrN a)=some (.value en.val):=by
  have ho:W.ownOf cd (some (dctO ds k)) (attrN a)=some (some en.val):=by
   unfold W.ownOf
   rw [if_pos hd]
   show lookIn _ (dctO ds k)=_
   unfold lookIn
   simp only [he]
  unfold findObj
  rw [hcd,Option.bind_some,of_decide_eq_true (all_lt G2 ha),Option.bind_some,Option.bind_some,ho]
  rfl
 exact get_value (n.R.bs C.B).1 I.iat (of_decide_eq_true (an (all_lt (cls_get g.w.params) I.lt)).1) hf (handed_vr re) (wpAny_bind (wpAny_letTemporaryGo (wpAny_pure (K _ _ _ (n.toNx.and (.tok n.R _ re))))))⟩
end
noncomputable def runT (st:SharedT→Thread→Option (SharedT×Thread)) (ok:Thread→Bool):Nat→SharedT→Thread→Option SharedT
 | 0,_,_=>none
 | n+1,s,t=>match through t with
  | true=>some s
  | false=>match ok t with
   | false=>none
   | true=>match st s t with
    | some (s',t')=>runT st ok n s' t'
    | none=>none
theorem topRun_ofT {tb:String→Option Builtin} {p:Program} {w:World} {n₀:Nat} {ann:Option Value}:∀{n:Nat} {s s':SharedT} {t:Thread},runT (stepT (denote tb) p w) (stepOk n₀ ann) n s t=some s'→topRun tb p w n₀ ann n s.abs t=some s'.abs:=by
 intro l1
 induction l1 with
 | zero=>
  intro ξ ξ ξ h
  cases h
 | succ n ih=>
  intro s s' t h
  unfold runT at h
  unfold topRun
  cases he:through t with
  | true=>rw [he] at h;cases h;rfl
  | false=>
   rw [he] at h
   cases hk:stepOk n₀ ann t with
   | false=>rw [hk] at h;cases h
   | true=>
    rw [hk] at h
    cases hs:stepT (denote tb) p w s t with
    | none=>rw [hs] at h;cases h
    | some r=>obtain ⟨s₂,t₂⟩:=r;rw [hs] at h;rw [stepT_spec hs];exact ih h
noncomputable def treeOf:List Obj→BT→Nat→BT
 | [],t,_=>t
 | o::r,t,n=>treeOf r (t.ins n o) (n+1)
noncomputable def Sd0 (w:World) (os:OsState):SharedT:=⟨treeOf (boot_heap w.params).objs.toList .nil 0,11,(boot_heap w.params).life,#[],boot_drawn,boot_toks,os⟩
theorem S0_abs (w:World) (os:OsState):(Sd0 w os).abs=⟨boot_heap w.params,#[],boot_drawn,boot_toks,os⟩:=by kernel_rfl!
noncomputable def qw:Program:=PySem.W.view pw [24]
noncomputable def loose:List Str:=(["_wall","HeapError","TermFault","is_op","parts","Bank","Unions","Heap","Meet","_law_draw","_law_side","_law_homes","_law_heads","_law_shared","_law_class","_law_place","_law_terms","_law_state"]:List String).map Str.ofString
noncomputable def kAs:List Addr:=[3,173,174,255,256,385,386,432,433]++fnA.flatMap fun a=>[a - 1,a]
theorem kAs_eq (P:Params):kAs=(KF P).map (·.1):=by kernel_rfl!
noncomputable def Yf (s:Shared):List (Option Obj):=kAs.map s.heap.get?
noncomputable def Ya (w:World):List (Option Obj):=(KF w.params).map fun p=>some p.2
noncomputable def Xt:Shared→Bool:=fun _=>true
theorem size0:∀w:World,((boot_heap w.params).isNs mainGlobals&&(#[]:Array GenState).size==0,(boot_heap w.params).objs.size,(boot_heap w.params).nsMap mainGlobals "__annotations__")=(true,11,some (.ref 6)):=by
 intro w
 kernel_rfl!
theorem run0:∀(w:World) (os:OsState),((runT (Fast.tw10156331382660048174 (Fast.tw11892475500146522536 Fast.tw14364793385576792824) pw w) (Fast.tw6613529449190102663 11 (some (.ref 6))) 6500 (Sd0 w os) (topStub pw)).map fun s=>
  ((staticsOk (importedModules pw.main.body) (boot_heap w.params) s.abs.heap&&namesBound pw s.abs.heap&&gensDone s.abs&&laidKept (boot_heap w.params) s.abs.heap),
   Fast.tw4187177175401517315 qw loose (importedModules pw.main.body) Xt true s.abs,Yf s.abs))=some (true,openGood qw loose,Ya w):=by
 intro w os
 kernel_rfl!
theorem left_of {p q:Program} {loose:List Str} {Xt:Shared→Bool} {α:Type} {Yf:Shared→α} {Ya:World→α} {N:Nat}
  (b1:opening p=plainProg p.main.scope.names) (b2:Nat.ble 600 N=true) (b3:∀s,fenceModules? p s=some s)
  (run:∀(w:World) (os:OsState),((runT (stepT (denote treeTable) p w) (stepOk 11 (some (.ref 6))) N (Sd0 w os) (topStub p)).map fun s=>
   ((staticsOk (importedModules p.main.body) (boot_heap w.params) s.abs.heap&&namesBound p s.abs.heap&&gensDone s.abs&&laidKept (boot_heap w.params) s.abs.heap),
    openSeen q loose (importedModules p.main.body) Xt true s.abs,Yf s.abs))=some (true,openGood q loose,Ya w)):LeftO p q loose Xt Yf Ya N:=fun w=>by
 obtain ⟨⟨h,gs,d,k,os⟩,e,e'⟩:=Option.map_eq_some_iff.mp (boot_open b1 b2 b3 w)
 obtain ⟨rfl,rfl,rfl,rfl⟩:h=boot_heap w.params∧gs=#[]∧d=boot_drawn∧k=boot_toks:=by simpa using e'
 obtain ⟨z1,z2,z3⟩:_∧_∧_:=by simpa only [Prod.mk.injEq] using size0 w
 obtain ⟨s,hs,hl⟩:=Option.map_eq_some_iff.mp (run w os)
 have r:=topRun_ofT hs
 rw [S0_abs] at r
 have hp:=Prod.mk.inj hl
 have l1:=hp.1
 have hq:=Prod.mk.inj hp.2
 have l2:=hq.1
 have l3:=hq.2
 have t:topFrom treeTable p w N ⟨boot_heap w.params,#[],boot_drawn,boot_toks,os⟩=some s.abs:=by
  unfold topFrom
  dsimp only
  rw [z1,z2,z3,r]
  show (match staticsOk (importedModules p.main.body) (boot_heap w.params) s.abs.heap&&namesBound p s.abs.heap&&gensDone s.abs&&laidKept (boot_heap w.params) s.abs.heap with | true=>_ | false=>_)=_
  rw [l1]
 unfold openEnds
 rw [e]
 show (topFrom treeTable p w N _).map _=_
 rw [t]
 exact congrArg some (Prod.ext l2 l3)
theorem left:LeftO pw qw loose Xt Yf Ya 6500:=left_of (by kernel_rfl!) rfl (fun s=>by kernel_rfl!) (Fast.te10156331382660048174▸Fast.te11892475500146522536▸Fast.te14364793385576792824▸Fast.te6613529449190102663▸Fast.te4187177175401517315▸run0)
abbrev rw0:OpenLaw:=PySem.Challenge.rw_pq0006_01
theorem lawD_some:(defOf qw "law").isSome=true:=by kernel_rfl!
noncomputable def lawD:DefRec:=((defOf qw "law").get lawD_some).1
theorem lawD_eq:defOf qw "law"=some (lawD,[]):=by kernel_rfl!
theorem lawD_the:pw.theDef "law"=some (lawD.params,lawD.body,lawD.scope):=by kernel_rfl!
abbrev TheWalk:Prop:=WalkO qw loose (fun _ _=>True) (fun w h=>(KF w.params).In h) rw0.row.toRowW lawD [] fun f vs=>PySem.call f vs
theorem well:rw0.wellSaid=true:=Fast.te9446332074065402090▸(by decide +kernel:Fast.tw9446332074065402090 rw0=true)
theorem bare:pw.bare:=⟨rfl,rfl,rfl,rfl,rfl,by decide +kernel⟩
theorem opens:(chainsOk qw&&opensWell rw0.row.prog&&(frees rw0.row.toRowW&&rw0.row.within.isEmpty))=true:=by kernel_rfl!
theorem holds_of (call:TheWalk):PySem.Challenge.rw_pq0006_01.Holds:=
 holds_law well fun k1=>holds_open left (YP:=fun w h=>(KF w.params).In h) (XP:=fun _ _=>True) (fun w s e=>Frag.in_of (kAs_eq _) e) (fun _ _ _ x k=>Frag.In.keeps x k) (fun _ _=>trivial) (fun _ _ _ _ _=>trivial)
  lawD_eq lawD_the (by kernel_rfl!) (fun s _=>recFacts_nil rfl) (by kernel_rfl!) k1 opens bare ⟨[.list []],by kernel_rfl!,by kernel_rfl!⟩ call
noncomputable def CleanLaw:Prop:=∀ns:List Int,ns.length≤63→∃σ',Calls 60 42 [.lst (ns.map .int)] [] (.bool true) σ'
theorem law_at (P:Params):nsIn (KF P) mainGlobals "law"=some (some (.ref (fnA.getD 42 0))):=by kernel_rfl!
theorem vrs_ints {w:World} {P:Params} {h:Heap}:∀{ns:List Int} {vs:List Value},WellAll P h vs (ns.map .int)→VRs w [] [] h (ns.map .int) vs:=by
 intro l2
 induction l2 with
 | nil=>
  intro ξ x
  cases x;trivial
 | cons n ns ih=>
  intro ξ x
  cases x with
  | cons a b=>cases a with
   | int i t=>exact ⟨⟨t,rfl⟩,ih b⟩
theorem pre_dec {args:List WData} (h:rw0.row.toRowW.claim.pre args=true):∃ns:List Int,args=[.list (ns.map .int)]∧ns.length≤63:=by
 have h':(WShape.hasAll [] args [.list .int]&&rw0.pre.holds [] { args:=args })=true:=h
 refine an1 h' fun h1 h2=>?_
 cases args with
 | nil=>cases h1
 | cons d ds=>
  cases ds with
  | nil=>
   obtain ⟨xs,rfl,hx⟩:=hasW_list (an (show (WShape.has [] d (.list .int)&&WShape.hasAll [] [] [])=true from h1)).1
   obtain ⟨ns,rfl⟩:=items_int hx
   have h5:WTm.holds [] (.and (.not (.lit (.bool (decide ((63:Int)<((ns.map WData.int).length:Int)))))) (.lit (.bool true))) { args:=[.list (ns.map .int)] }=true:=h2
   have h6:¬(63:Int)<((ns.map WData.int).length:Int):=fun q=>by
    rw [decide_eq_true q] at h5
    cases h5
   rw [List.length_map] at h6
   exact ⟨ns,rfl,Int.ofNat_le.mp (Int.not_lt.mp h6)⟩
  | cons e ds=>exact nomatch (an (show (WShape.has [] d (.list .int)&&WShape.hasAll [] (e::ds) [])=true from h1)).2
theorem walk_of (L:CleanLaw):TheWalk:=by
 intro w s₀ s₁ mg mb G Y a o pm cd doc dV kV ha hd hcd hdf hmg hgens args vals as hpre hlay hreads hwell hsys
 obtain ⟨ns,rfl,hn⟩:=pre_dec hpre
 obtain ⟨σ',hcall⟩:=L ns hn
 have ea:a=fnA.getD 42 0:=by
  have:=mg_of Y G.T.g (law_at w.params)
  have e:lawD.name="law":=by kernel_rfl!
  rw [e,this] at hmg
  injection hmg with q
  injection q with q
  exact q.symm
 subst ea
 have e42:lawD.name="law":=by kernel_rfl!
 cases hwell with
 | cons hv hrest=>
  cases hrest
  cases hv with
  | list hg hall=>
   rename_i ad vs
   have B:Bs ⟨w,s₁.heap,mg,mb⟩:=⟨Y,G.T.g,G.T.b,G.T.nolimit,G.T.builtins⟩
   have nf:∀{b:Addr},¬foot ([]:Mu) b:=fun f=>by
    obtain ⟨i,p,h,ξ⟩:=f
    cases h
   have R:Rel w s₁.heap [] [] [] s₁.heap:=⟨rfl,fun i p o h=>(nomatch h),fun i j p q ξ h=>(nomatch h),fun b f=>absurd f nf,fun b o e=>e,fun b f=>absurd f nf,fun b f=>absurd f nf,fun b m=>(nomatch m),fun b m=>(nomatch m)⟩
   have rv:VR w [] [] s₁.heap (.lst (ns.map .int)) (.ref ad):=⟨ad,vs.toArray,0,rfl,hg,nf,List.not_mem_nil,vrs_ints hall⟩
   have O:OkA callerA 60:=⟨rfl,by show 1+300+4*60+40≤1000;decide,by show 4+30*60+300≤9900;decide⟩
   refine hcall.any B O R (us:=[.ref ad]) ⟨rv,trivial⟩ fun v s' μ' n=>?_
   have st:=n.st
   rw [(n.r:v = .bool true)]
   refine ⟨.inl ⟨_,.bool true,[],rfl,fun _=>rfl,.bool true,?_,fun _=>⟨.nil,fun a m=>by cases m⟩⟩,.of_keep fun b o e=>st.keep b o e nf List.not_mem_nil,st.os,?_⟩
   ·show (WShape.has [] (.bool true) .bool&&WTm.holds [] (.eq .res (.lit (.bool true))) _)=true
    kernel_rfl!
   ·rw [st.gens,hgens];exact AllBare.empty
theorem VRs.size {w:World} {X:List Addr} {μ:Mu} {h:Heap} {l:List CV} {xs:Array Value} (r:VRs w X μ h l xs.toList):xs.size=l.length:=by rw [← VRs.length r];rfl
section
variable {w:World} {X:List Addr} {μ:Mu} {h:Heap}
mutual
theorem VR.reads:∀{c:CV} {v:Value},VR w X μ h c v→(toD c).canLay0=true→∃as,Reads h v (toD c) as
 | .none,_,e,_=>(e:_=_)▸⟨_,.none⟩
 | .bool _,_,e,_=>(e:_=_)▸⟨_,.bool _⟩
 | .int _,_,r,_=>by
  obtain ⟨ξ,e⟩:=r
  exact e▸⟨_,.int _ _⟩
 | .str _,_,r,_=>by
  obtain ⟨ξ,e⟩:=r
  exact e▸⟨_,.str _ _⟩
 | .tup l,_,r,k=>by
  obtain ⟨a,xs,n,e,g,ξ,ξ,r⟩:=r
  obtain ⟨as,q⟩:=VRs.reads r k
  exact e▸⟨_,.tuple g rfl rfl q⟩
 | .lst l,_,r,k=>by
  obtain ⟨a,xs,n,e,g,ξ,ξ,r⟩:=r
  obtain ⟨as,q⟩:=VRs.reads r k
  exact e▸⟨_,.list g rfl rfl q⟩
 | .dct _,_,_,k=>nomatch k
 | .ref _,_,_,k=>nomatch k
theorem VRs.reads:∀{cs:List CV} {vs:List Value},VRs w X μ h cs vs→PyData.canLayAll0 (toDs cs)=true→∃as,ReadsAll h vs (toDs cs) as
 | [],[],_,_=>⟨_,.nil⟩
 | [],_::_,r,_=>r.elim
 | _::_,[],r,_=>r.elim
 | c::cs,v::vs,r,k=>by
  obtain ⟨as,q⟩:=VR.reads r.1 (an k).1
  obtain ⟨bs,p⟩:=VRs.reads r.2 (an k).2
  exact ⟨_,.cons q p⟩
end
end
section
variable {w:World} {base:Heap} {X:List Addr} {μ:Mu} {σ:CSt} {s:Shared} {A:Around} {d:Nat} {a b c:CV} {v va vb:Value} {r:Bool} {l:List CV} {E Q:Value→Shared→Prop}
noncomputable def thawO (i:Nat):Option CObj→CV
 | some (.list l)=>.lst l
 | _=>.ref i
theorem thaw_at {i:Nat} {o:Option CObj} (h:σ[i]?=o):thaw σ (.ref i)=thawO i o:=h▸rfl
theorem thaw_reads (R:Rel w base X μ σ s.heap) (hr:VR w X μ s.heap c v) (k:(toD (thaw σ c)).canLay0=true):∃as,Reads s.heap v (toD (thaw σ c)) as:=by
 cases c with
 | ref i=>
  obtain ⟨p,hp,e⟩:=hr
  generalize ho:σ[i]?=o at *
  rw [thaw_at ho] at k⊢
  match o,k with
  | some (.list l),k=>
   obtain ⟨ξ,xs,n,g,r⟩:=R.obj i p _ hp ho
   obtain ⟨as,q⟩:=VRs.reads r k
   exact e▸⟨_,.list g rfl rfl q⟩
 | _=>exact VR.reads hr k
structure CmpD (d:Nat) (op:Cmp) (a b:CV) (r:Bool) (σ:CSt):Prop where
 go:∀{g:Gx} {A:Around} {X:List Addr} {μ:Mu} {s:Shared} {va vb:Value} {E Q:Value→Shared→Prop},OkA A d→Rel g.w g.base X μ σ s.heap→VR g.w X μ s.heap a va→VR g.w X μ s.heap b vb→(∀t,Q (.bool r) { s with toks:=t })→wpAny (model pw g.w) A (compareOp (cmpN op) va vb) Q E s
theorem OkA.roomy (O:OkA A d) {n m:Nat} (hn:n≤64):A.units+min n m<cLine:=by have:=O.units;lia
theorem peq_some (h:peq a b=some r):plainD a=true∧plainD b=true∧r=PyData.eqv (toD a) (toD b):=by
 unfold peq at h
 by_cases k:(plainD a&&plainD b)=true
 ·rw [if_pos k] at h;exact ⟨(an k).1,(an k).2,(Option.some.inj h).symm⟩
 ·rw [if_neg k] at h;cases h
theorem CmpD.eq (h:peq (thaw σ a) (thaw σ b)=some r):CmpD d .eq a b r σ:=⟨fun O R ra rb q=>by
 obtain ⟨k1,k2,e⟩:=peq_some h
 refine an1 k1 fun k1 k3=>?_
 obtain ⟨ξ,q1⟩:=thaw_reads R ra k1
 obtain ⟨ξ,q2⟩:=thaw_reads R rb (an k2).1
 exact compareEq_reads q1 q2 k1 (an k2).1 (O.roomy (of_decide_eq_true k3)) (e▸q _)⟩
theorem CmpD.ne (h:peq (thaw σ a) (thaw σ b)=some r):CmpD d .ne a b (!r) σ:=⟨fun O R ra rb q=>by
 obtain ⟨k1,k2,e⟩:=peq_some h
 refine an1 k1 fun k1 k3=>?_
 obtain ⟨ξ,q1⟩:=thaw_reads R ra k1
 obtain ⟨ξ,q2⟩:=thaw_reads R rb (an k2).1
 exact compareNe_reads q1 q2 k1 (an k2).1 (O.roomy (of_decide_eq_true k3)) (e▸q _)⟩
theorem CmpD.lt {i j:Int}:CmpD d .lt (.int i) (.int j) (decide (i<j)) σ:=⟨fun O R w13 w14 q=>by obtain ⟨ξ,e⟩:=w13;obtain ⟨ξ,e'⟩:=w14;rw [e,e'];exact P.lt_int (q _)⟩
theorem CmpD.le {i j:Int}:CmpD d .le (.int i) (.int j) (decide (i≤j)) σ:=⟨fun O R w11 w12 q=>by obtain ⟨ξ,e⟩:=w11;obtain ⟨ξ,e'⟩:=w12;rw [e,e'];exact P.le_int (q _)⟩
theorem CmpD.gt {i j:Int}:CmpD d .gt (.int i) (.int j) (decide (j<i)) σ:=⟨fun O R w9 w10 q=>by obtain ⟨ξ,e⟩:=w9;obtain ⟨ξ,e'⟩:=w10;rw [e,e'];exact P.gt_int (q _)⟩
theorem CmpD.ge {i j:Int}:CmpD d .ge (.int i) (.int j) (decide (j≤i)) σ:=⟨fun O R w7 w8 q=>by obtain ⟨ξ,e⟩:=w7;obtain ⟨ξ,e'⟩:=w8;rw [e,e'];exact P.ge_int (q _)⟩
theorem bool_beq (x y:Bool):(Value.bool x==Value.bool y)=(x==y):=by cases x<;>cases y<;>rfl
theorem CmpD.isNotB {x y:Bool}:CmpD d .isNot (.bool x) (.bool y) (x != y) σ:=⟨fun O R ra rb q=>by
 rw [(ra:_=_),(rb:_=_)]
 exact wpAny_isNot_plain (by cases x<;>cases y<;>rfl) (by rw [bool_beq];exact q _)⟩
theorem CmpD.isN:CmpD d .is .none .none true σ:=⟨fun O R ra rb q=>by
 rw [(ra:_=_),(rb:_=_)]
 exact wpAny_is_plain rfl (q _)⟩
theorem CmpD.isT:CmpD d .is (.tup l) .none false σ:=⟨fun O R w6 rb q=>by
 obtain ⟨ξ,ξ,ξ,e,ξ⟩:=w6
 rw [e,(rb:_=_)]
 exact wpAny_is_plain rfl (q _)⟩
structure SeqAtC (w:World) (X:List Addr) (μ:Mu) (h:Heap) (l:List CV) (v:Value) (a:Addr) (xs:Array Value) (n:Nat):Prop where
 e:v = .ref a
 at_:h.get? a=some (tupO xs n)∨h.get? a=some (lstO xs n)
 r:VRs w X μ h l xs.toList
theorem lst_of {o:Option CObj} (h:(match o with | some (.list l)=>some l | _=>none)=some l):o=some (.list l):=by
 match o,h with
 | some (.list l'),h=>rw [Option.some.inj h]
theorem listOf_ref {i:Nat} (h:listOf σ (.ref i)=some l):σ[i]?=some (.list l):=lst_of h
theorem ofList {i:Nat} (h:σ[i]?=some (.list l)):listOf σ (.ref i)=some l:=by show (match σ[i]? with | some (.list l)=>some l | _=>none)=_;rw [h]
theorem listOf_at {P:Prop} (R:Rel w base X μ σ s.heap) (hr:VR w X μ s.heap c v) (e:listOf σ c=some l) (K:∀a xs n,v = .ref a→s.heap.get? a=some (lstO xs n)→VRs w X μ s.heap l xs.toList→P):P:=by
 cases c with
 | lst l'=>obtain ⟨a,xs,n,e',g,ξ,ξ,r⟩:=hr;exact K a xs n e' g (Option.some.inj e▸r)
 | ref i=>
  obtain ⟨p,hp,e'⟩:=hr
  obtain ⟨ξ,xs,n,g,r⟩:=R.obj i p _ hp (listOf_ref e)
  exact K _ xs n e' g r
 | _=>cases e
theorem seqOf_at {P:Prop} (R:Rel w base X μ σ s.heap) (hr:VR w X μ s.heap c v) (e:seqOf σ c=some l) (K:∀a xs n,SeqAtC w X μ s.heap l v a xs n→P):P:=by
 have go:listOf σ c=some l→P:=fun e=>listOf_at R hr e fun a xs n q g r=>K a xs n ⟨q,.inr g,r⟩
 cases c with
 | tup l'=>obtain ⟨a,xs,n,e',g,ξ,ξ,r⟩:=hr;exact K a xs n ⟨e',.inl g,Option.some.inj e▸r⟩
 | _=>exact go e
theorem containsL_some (h:containsL a l=some r):plainD a=true∧plainD (.lst l)=true∧((toDs l).any fun y=>PyData.eqv y (toD a))=r:=by
 unfold containsL at h
 by_cases k:(plainD a&&plainD (.lst l))=true
 ·rw [if_pos k] at h;exact ⟨(an k).1,(an k).2,Option.some.inj h⟩
 ·rw [if_neg k] at h;cases h
theorem depthAll_le (h:plainD (.lst l)=true):PyData.canLayAll0 (toDs l)=true∧PyData.depthAll (toDs l)≤64:=by
 refine an1 h fun h k=>?_
 replace k:=of_decide_eq_true k
 rw [toD,PyData.depth] at k
 exact ⟨h,by lia⟩
theorem CmpD.isinL (hs:seqOf σ b=some l) (h:containsL a l=some r):CmpD d .isin a b r σ:=⟨fun O R ra rb q=>by
 obtain ⟨k1,k2,hr⟩:=containsL_some h
 refine an1 k1 fun k1 k3=>?_
 obtain ⟨k2,k4⟩:=depthAll_le k2
 obtain ⟨ξ,qa⟩:=VR.reads ra k1
 refine seqOf_at R rb hs fun ad xs n S=>?_
 obtain ⟨ξ,qs⟩:=VRs.reads S.r k2
 rw [S.e]
 have O:=O.units
 exact S.at_.elim (fun g=>in_tuple_reads (.tuple g rfl rfl qs) qa k2 k1 (by lia) (hr▸q _)) fun g=>in_list_reads (.list g rfl rfl qs) qa k2 k1 (by lia) (hr▸q _)⟩
theorem CmpD.notinL (hs:seqOf σ b=some l) (h:containsL a l=some r):CmpD d .notin a b (!r) σ:=⟨fun O R ra rb q=>by
 obtain ⟨k1,k2,hr⟩:=containsL_some h
 refine an1 k1 fun k1 k3=>?_
 obtain ⟨k2,k4⟩:=depthAll_le k2
 obtain ⟨ξ,qa⟩:=VR.reads ra k1
 refine seqOf_at R rb hs fun ad xs n S=>?_
 obtain ⟨ξ,qs⟩:=VRs.reads S.r k2
 rw [S.e]
 have O:=O.units
 exact S.at_.elim (fun g=>notIn_tuple_reads (.tuple g rfl rfl qs) qa k2 k1 (by lia) (hr▸q _)) fun g=>notIn_list_reads (.list g rfl rfl qs) qa k2 k1 (by lia) (hr▸q _)⟩
end
section
variable {d:Nat} {ρ:Loc} {σ σ₁ σ₂ σ₃:CSt} {a b c:CE} {u v x:CV} {op o2:Cmp} {r r2 i j:Bool}
theorem marked_one {op:CmpOp} {r:Expr} {t:Sem Value} (h:notSet r=true):markedEach [op] [r] [t]=[t]:=by
 show [markedBehindIn op r t]=[t]
 unfold markedBehindIn
 cases r<;>first | rfl | cases h
theorem cmp1 {p:Pos} {u:Value} {op:CmpOp} {m:Sem Value}:compareChain p u [op] [m]=holding [u] m >>= fun v=>standAt p >>= fun ξ=>operate [u,v] (compareOp op u v):=rfl
theorem test1 {p:Pos} {u:Value} {op:CmpOp} {m:Sem Value}:testChain p u [op] [m]=holding [u] m >>= fun v=>standAt p >>= fun ξ=>operate [u,v] (compareOp op u v) >>= fun c=>holding [c] (truthy c):=rfl
theorem Does.cmp (S:Does d a ρ σ u σ₁) (T:Does d b ρ σ₁ v σ₂) (O:CmpD d op u v r σ₂):Does d (.cmp op a b) ρ σ (.bool r) σ₂:=⟨fun {e g A x μ s E Q} ok C K=>by
 refine an5 ok fun h1 h2 h3 h4 o1 o2=>?_
 rw [tgE h1]
 show wpAny _ _ (eval (.Compare _ (view e).cs (view e).l _) _) _ _ _
 rw [of_decide_eq_true h2,oneE e h3,arm_eval_Compare]
 refine wpAny_bind (S.go o1 C fun ua s₁ μ₁ n=>?_)
 rw [arm_evalEach_cons,arm_evalEach_nil,marked_one h4,cmp1]
 exact wpAny_bind (wpAny_holding (T.go o2 (C.next n.toNx) fun ub s₂ μ₂ m=>wpAny_bind (wpAny_standAt (wpAny_operate' (O.go C.O m.R (VR.mono m.kp _ n.r) m.r fun t=>K _ _ _ (n.toNx.and ⟨m.toNx.tok t,rfl⟩))))))⟩
theorem DoesT.cmp (S:Does d a ρ σ u σ₁) (T:Does d b ρ σ₁ v σ₂) (O:CmpD d op u v r σ₂):DoesT d (.cmp op a b) ρ σ r σ₂:=⟨fun {e g A x μ s E Q} ok C K=>by
 refine an5 ok fun h1 h2 h3 h4 o1 o2=>?_
 rw [tgE h1]
 show wpAny _ _ (isTrue (.Compare _ (view e).cs (view e).l _) _ (eval (.Compare _ (view e).cs (view e).l _) _)) _ _ _
 rw [of_decide_eq_true h2,oneE e h3,arm_isTrue_Compare]
 refine wpAny_bind (S.go o1 C fun ua s₁ μ₁ n=>?_)
 rw [arm_evalEach_cons,arm_evalEach_nil,marked_one h4,test1]
 exact wpAny_bind (wpAny_holding (T.go o2 (C.next n.toNx) fun ub s₂ μ₂ m=>wpAny_bind (wpAny_standAt (wpAny_bind (wpAny_operate' (O.go C.O m.R (VR.mono m.kp _ n.r) m.r fun t=>wpAny_holding (wpAny_truthy_bool (K _ _ (n.toNx.trans (m.toNx.tok t))))))))))⟩
theorem Does.neg {i:Int} (S:Does d a ρ σ (.int i) σ₁):Does d (.neg a) ρ σ (.int (-i)) σ₁:=⟨fun ok C K=>by
 refine an2 ok fun h1 o1 o2=>?_
 rw [tgE h1]
 show wpAny _ _ (eval (.UnaryOp _ _ _) _) _ _ _
 rw [of_decide_eq_true o1,arm_eval_UnaryOp]
 exact wpAny_bind (S.go o2 C fun u s₁ μ₁ n=>wpAny_bind (wpAny_standAt (wpAny_holding ((by obtain ⟨t,e⟩:=n.r;exact e▸P.neg_int (K _ _ _ (n.toNx.and (.tok n.R _ ⟨_,rfl⟩))))))))⟩
structure DoesB (d:Nat) (a:Bool) (cs:List CE) (ρ:Loc) (σ:CSt) (r:Bool) (σ':CSt):Prop where
 go:∀{es:List Expr} {op:BoolOp} {g:Gx} {A:Around} {x:Fx} {μ:Mu} {s:Shared} {E:Value→Shared→Prop} {Q:Bool→Shared→Prop},(a==decide (op = .And))=true→okEs x.sc x.tbl cs es=true→Cx g A d x μ ρ σ s→(∀s' μ',Nx g x.X μ s σ' s' μ'→Q r s')→wpAny (model pw g.w) A (allTrue op es x.env) Q E s
theorem DoesB.nil:DoesB d i [] ρ σ i σ:=⟨fun {es op g A x μ s E Q} ha ok C K=>by
 rw [List.isEmpty_iff.mp ok,arm_allTrue_nil]
 have K:=K _ _ (.refl C.R)
 rw [eq_of_beq ha] at K
 exact wpAny_pure (by cases op<;>exact K)⟩
theorem DoesB.cons {cs:List CE} (S:DoesT d c ρ σ i σ₁) (T:DoesB d i cs ρ σ₁ r σ₂):DoesB d i (c::cs) ρ σ r σ₂:=⟨fun {es op g A x μ s E Q} ha ok C K=>by
 refine an3 ok fun h1 h2 o1 o2=>?_
 rw [consE h1,arm_allTrue_cons]
 refine wpAny_bind (S.go o1 C fun s₁ μ₁ n=>?_)
 have L:=T.go (E:=E) (Q:=Q) ha o2 (C.next n) fun s₂ μ₂ m=>K _ _ (n.trans m)
 have ha:=eq_of_beq ha
 cases op<;>cases i<;>first | exact L | cases ha⟩
theorem DoesB.stop {cs:List CE} (S:DoesT d c ρ σ (!i) σ₁):DoesB d i (c::cs) ρ σ (!i) σ₁:=⟨fun {es op g A x μ s E Q} ha ok C K=>by
 refine an3 ok fun h1 h2 o1 o2=>?_
 rw [consE h1,arm_allTrue_cons]
 refine wpAny_bind (S.go o1 C fun s₁ μ₁ n=>?_)
 have L:=K _ _ n
 have ha:=eq_of_beq ha
 cases op<;>cases i<;>first | exact wpAny_pure L | cases ha⟩
theorem DoesT.bop {cs:List CE} (S:DoesB d i cs ρ σ r σ₁):DoesT d (.bop i cs) ρ σ r σ₁:=⟨fun ok C K=>by
 refine an3 ok fun h1 h2 h3 ok=>?_
 rw [tgE h1]
 show wpAny _ _ (isTrue (.BoolOp _ _ _) _ (eval (.BoolOp _ _ _) _)) _ _ _
 rw [arm_isTrue_BoolOp]
 exact S.go h2 ok C K⟩
end
section
variable {w:World} {d:Nat} {ρ:Loc} {σ σ₁ σ₂:CSt} {i j:Int} {x y l m:List CV} {a b:CV} {c e:CE} {X:List Addr} {μ:Mu} {h:Heap} {xs:Array Value}
theorem OpD.mulI (h:small i=true):OpD .Mult (.int i) (.int j) (.int (i*j)) σ σ:=⟨fun R w19 w20 K=>by
 obtain ⟨ξ,e⟩:=w19
 obtain ⟨ξ,e'⟩:=w20
 rw [e,e']
 replace h:i.natAbs<2 ^ 31:=of_decide_eq_true h
 exact PySem.P.mul_int (K _ _ _ (.tok R _ ⟨_,rfl⟩)) (.of_left (intBits_le_64 (by lia) (by lia)))⟩
theorem OpD.modI (h:0<j):OpD .Mod (.int i) (.int j) (.int (i.emod j)) σ σ:=⟨fun R w17 w18 K=>by
 obtain ⟨ξ,e⟩:=w17
 obtain ⟨ξ,e'⟩:=w18
 rw [e,e']
 exact mod_int' (by lia) (K _ _ _ (.tok R _ ⟨_,congrArg (Value.int · _) (Int.fmod_eq_emod_of_nonneg i (Int.le_of_lt h))⟩))⟩
theorem OpD.addS {x y:Str} (hx:Nat.blt x.cps.size 1000=true) (hy:Nat.blt y.cps.size 1000=true):OpD .Add (.str x) (.str y) (.str (x++y)) σ σ:=⟨fun R w15 w16 K=>by
 obtain ⟨ξ,e⟩:=w15
 obtain ⟨ξ,e'⟩:=w16
 rw [e,e']
 have hx:=Nat.le_of_ble_eq_true hx
 have hy:=Nat.le_of_ble_eq_true hy
 exact PyProof.Rows.add_str (fun t' tk=>K _ _ _ (.tok R _ ⟨_,rfl⟩)) (Nat.le_trans (show x.cps.size+y.cps.size≤2000 by lia) (by decide))⟩
theorem VRs.nil (r:VRs w X μ h l xs.toList) (e:xs.isEmpty=true):l=[]:=List.length_eq_zero_iff.mp ((VRs.size r).symm.trans (beq_iff_eq.mp e))
theorem OpD.addT (hz:x.length+y.length≤BIG):OpD .Add (.tup x) (.tup y) (.tup (x++y)) σ σ:=⟨fun {g A X μ s E Q va vb} R ra rb K=>by
 obtain ⟨a,xs,n,e,g1,nf,nx,rs⟩:=id ra
 obtain ⟨b,ys,m,e',g2,nf',nx',rs'⟩:=id rb
 rw [e,e']
 by_cases hx:xs.isEmpty=true
 ·exact concat_meets ⟨_,g1,rfl⟩ ⟨_,g2,rfl⟩ noFill_tuple_add seq_tuple_add PySem.F.slot_tuple_add PySem.F.entry_tuple_add (PySem.F.args_tuple_add_2 _ _) (tuple_addW0 a b xs ys n m Option.none Option.none #[] #[] hx) ⟨g1,g2,K _ _ _ (.now R (by rw [VRs.nil rs hx,← e'];exact rb))⟩
 ·by_cases hy:ys.isEmpty=true
  ·exact concat_meets ⟨_,g1,rfl⟩ ⟨_,g2,rfl⟩ noFill_tuple_add seq_tuple_add PySem.F.slot_tuple_add PySem.F.entry_tuple_add (PySem.F.args_tuple_add_2 _ _) (tuple_addW1 a b xs ys n m Option.none Option.none #[] #[] hx hy) ⟨g1,g2,K _ _ _ (.now R (by rw [VRs.nil rs' hy,List.append_nil,← e];exact ra))⟩
  ·exact concat_meets ⟨_,g1,rfl⟩ ⟨_,g2,rfl⟩ noFill_tuple_add seq_tuple_add PySem.F.slot_tuple_add PySem.F.entry_tuple_add (PySem.F.args_tuple_add_2 _ _) (tuple_addW2 a b xs ys n m Option.none Option.none #[] #[] hx hy (by rw [VRs.size rs,VRs.size rs'];exact big_fits hz)) ⟨g1,g2,K _ _ _ (.newTup (xs:=xs++ys) (n:=0) (tk:=s.toks) R (by rw [Array.toList_append];exact VRs.append rs rs'))⟩⟩
theorem OpD.addL (h1:listOf σ a=some l) (h2:listOf σ b=some m) (hz:l.length+m.length≤BIG):OpD .Add a b (.lst (l++m)) σ σ:=⟨fun {g A X μ s E Q va vb} R ra rb K=>
 listOf_at R ra h1 fun x xs n e g1 rs=>listOf_at R rb h2 fun y ys k e' g2 rs'=>by
  rw [e,e']
  exact PySem.P.add_list g1 g2 (K _ _ _ (.newLst (xs:=xs++ys) (n:=0) (tk:=s.toks) R (by rw [Array.toList_append];exact VRs.append rs rs'))) (by rw [VRs.size rs,VRs.size rs'];exact big_fits hz)⟩
theorem OpD.addM (h1:listOf σ a=some l) (h2:listOf σ b=some m) (hz:l.length+m.length≤BIG):OpD .Add a b (.ref σ.length) σ (σ++[.list (l++m)]):=⟨fun {g A X μ s E Q va vb} R ra rb K=>
 listOf_at R ra h1 fun x xs n e g1 rs=>listOf_at R rb h2 fun y ys k e' g2 rs'=>by
  rw [e,e']
  exact PySem.P.add_list g1 g2 (K _ _ _ (.newList (xs:=xs++ys) (n:=0) (tk:=s.toks) R (by rw [Array.toList_append];exact VRs.append rs rs'))) (by rw [VRs.size rs,VRs.size rs'];exact big_fits hz)⟩
theorem Does.addm {σ₃:CSt} {r:CV} (A:Does d c ρ σ a σ₁) (B:Does d e ρ σ₁ b σ₂) (O:OpD .Add a b r σ₂ σ₃):Does d (.addm c e) ρ σ r σ₃:=⟨fun ok C K=>by
 refine an2 ok fun h1 h2 ok=>?_
 exact (Does.bin (op:=.add) A B O).go (Bool.and_eq_true_iff.mpr ⟨h1,Bool.and_eq_true_iff.mpr ⟨h2,ok⟩⟩) C K⟩
end
abbrev Atom:=Int ⊕ Str
noncomputable def unAtom:Atom→CV
 | .inl i=>.int i
 | .inr x=>.str x
theorem unAtom_inj:∀{a b:Atom},unAtom a=unAtom b→a=b
 | .inl _,.inl _,h=>by cases h;rfl
 | .inl _,.inr _,h=>by cases h
 | .inr _,.inl _,h=>by cases h
 | .inr _,.inr _,h=>by cases h;rfl
noncomputable def isAtom:Atom→Value→Bool
 | .inl i,v=>Value.isInt i v
 | .inr x,v=>Value.isStrOf x v
theorem isAtom_shape {a:Atom} {v:Value} (h:isAtom a v=true):(∃i t,a = .inl i∧v = .int i t)∨∃x t,a = .inr x∧v = .str x t:=by
 cases a with
 | inl i=>obtain ⟨t,e⟩:=Value.isInt_shape h;exact .inl ⟨i,t,rfl,e⟩
 | inr x=>obtain ⟨t,e⟩:=Value.isStrOf_shape h;exact .inr ⟨x,t,rfl,e⟩
noncomputable def atomKind (prog:Program) (w:World):PySem.KeyKind prog w Atom where
 is:=isAtom
 hash:=fun | .inl i=>hashInt i | .inr x=>hashStr w x
 inj:=fun v a b ha hb=>by
  rcases isAtom_shape ha with ⟨i,t,rfl,rfl⟩ | ⟨i,t,rfl,rfl⟩<;>rcases isAtom_shape hb with ⟨j,u,rfl,e⟩ | ⟨j,u,rfl,e⟩<;>cases e<;>rfl
 byValue:=fun k v h=>by rcases isAtom_shape h with ⟨i,t,rfl,rfl⟩ | ⟨i,t,rfl,rfl⟩<;>rfl
 pyHash:=fun h q=>by
  rcases isAtom_shape h with ⟨i,t,rfl,rfl⟩ | ⟨i,t,rfl,rfl⟩
  ·exact wpAny_pyHash_int q
  ·exact wpAny_pyHash_str q
 eqBool:=fun {A E s} a b u v Q ha hb q=>by
  rcases isAtom_shape ha with ⟨i,t,rfl,rfl⟩ | ⟨i,t,rfl,rfl⟩<;>rcases isAtom_shape hb with ⟨j,u,rfl,rfl⟩ | ⟨j,u,rfl,rfl⟩
  ·have e:decide ((Sum.inl i:Atom) = .inl j)=(i==j):=by by_cases z:i=j<;>simp [z]
   exact wpAny_eqBool_int (e▸q)
  ·exact EqAt.int_str i t j u _ _ _ _ (by simpa using q)
  ·exact EqAt.str_int i t j u _ _ _ _ (by simpa using q)
  ·have e:decide ((Sum.inr i:Atom) = .inr j)=decide (i=j):=by by_cases z:i=j<;>simp [z]
   exact wpAny_eqBool_str (e▸q)
 «strs»:=fun k x t v h=>by
  rcases isAtom_shape h with ⟨i,t,rfl,e⟩ | ⟨i,t,rfl,e⟩
  ·cases e
  ·cases e;cases v<;>rfl
section
variable {w:World} {X:List Addr} {μ:Mu} {h:Heap}
theorem VR.atom {a:Atom} {v:Value}:VR w X μ h (unAtom a) v↔isAtom a v=true:=by
 cases a with
 | inl i=>exact ⟨fun w24=>by obtain ⟨t,e⟩:=w24;subst e;simp [isAtom,Value.isInt],fun e=>Value.isInt_shape e⟩
 | inr x=>exact ⟨fun w23=>by obtain ⟨t,e⟩:=w23;subst e;simp [isAtom,Value.isStrOf],fun e=>Value.isStrOf_shape e⟩
theorem hash_atom {prog:Program} (a:Atom):hashCV w (unAtom a)=(atomKind prog w).hash a:=by cases a<;>rfl
theorem hash_atoms {prog:Program}:∀ks:List Atom,hashCVs w (ks.map unAtom)=ks.map (atomKind prog w).hash:=by
 intro l4
 induction l4 with
 | nil=>
  exact rfl
 | cons k ks ih=>
  rw [List.map_cons,hashCVs,hash_atom (prog:=prog),ih];rfl
theorem VRs.atoms {prog:Program}:∀{ks:List Atom} {vs:List Value},VRs w X μ h (ks.map unAtom) vs→ItemsAre (atomKind prog w) ks vs:=by
 intro l35
 induction l35 with
 | nil=>
  intro l36
  cases l36 with
  | nil=>
   intro ξ
   exact .nil
  | cons ξ ξ=>
   intro r
   exact r.elim
 | cons ξ ξ ih=>
  intro l37
  cases l37 with
  | nil=>
   intro r
   exact r.elim
  | cons ξ ξ=>
   intro r
   exact .cons (VR.atom.mp r.1) (ih r.2)
theorem atoms_of:∀{l:List CV},(l.all fun | .int _=>true | .str x=>PyData.strOk x | _=>false)=true→∃ks:List Atom,l=ks.map unAtom:=by
 intro l38
 induction l38 with
 | nil=>
  intro ξ
  exact ⟨[],rfl⟩
 | cons c l ih=>
  intro h
  rw [List.all_cons,Bool.and_eq_true] at h
  obtain ⟨ks,rfl⟩:=ih h.2
  cases c with
  | int i=>exact ⟨.inl i::ks,rfl⟩
  | str x=>exact ⟨.inr x::ks,rfl⟩
  | _=>exact absurd h.1 Bool.false_ne_true
inductive KeyIs:CV→Prop
 | atom (a:Atom):KeyIs (unAtom a)
 | tup (ks:List Atom):KeyIs (.tup (ks.map unAtom))
theorem keyIs_of {k:CV} (h:keyOk k=true):KeyIs k:=by
 cases k with
 | int i=>exact .atom (.inl i)
 | str x=>exact .atom (.inr x)
 | tup l=>obtain ⟨ks,rfl⟩:=atoms_of h;exact .tup ks
 | _=>cases h
theorem VR.tupKey {prog:Program} {ks:List Atom} {v:Value} (r:VR w X μ h (.tup (ks.map unAtom)) v) {zz:Prop} (kk:∀a,v = .ref a→IsTupleKey (atomKind prog w) h ks a→zz):zz:=by
 obtain ⟨a,xs,n,e,g,ξ,ξ,r⟩:=r
 exact kk a e ⟨_,xs,n,g,rfl,rfl,VRs.atoms r⟩
theorem hash_tup {prog:Program} (ks:List Atom):hashCV w (.tup (ks.map unAtom))=(tupleKind (atomKind prog w)).hash ks:=by
 show hashT (hashCVs w (ks.map unAtom))=tupleKeyHash (atomKind prog w) ks
 rw [hash_atoms (prog:=prog)];rfl
end
section
variable {w:World} {X:List Addr} {μ:Mu} {s:Shared} {A:Around} {E:Value→Shared→Prop}
theorem pyHash_cv {prog:Program} {k:CV} {v:Value} {Q:Int→Shared→Prop} (hu:A.units<cLine) (r:VR w X μ s.heap k v) (hk:keyOk k=true) (h:∀t,Q (hashCV w k) { s with toks:=t }):wpAny (model prog w) A (pyHash v) Q E s:=by
 cases keyIs_of hk with
 | atom a=>
  refine (atomKind prog w).pyHash (VR.atom.mp r) ?_
  rw [← hash_atom];exact h _
 | tup ks=>
  refine VR.tupKey (prog:=prog) r fun a u2 q=>?_
  obtain rfl:=u2
  refine (tupleKind (atomKind prog w)).pyHash hu q ?_
  rw [← hash_tup];exact h _
theorem DRs.atoms {prog:Program}:∀{es:List (CV×CV)} {ds:List DictEntry} (k:Atom),DRs w X μ s.heap es ds→(es.all fun e=>sameKind (unAtom k) e.1)=true→
  (∀e∈ds,∃k,(atomKind prog w).is k e.key=true∧e.hash=(atomKind prog w).hash k)∧ds.findIdx? (fun e=>(atomKind prog w).is k e.key)=es.findIdx? fun e=>decide (e.1=unAtom k):=by
 intro l39
 induction l39 with
 | nil=>
  intro l40
  cases l40 with
  | nil=>
   intro k ξ ξ
   exact ⟨by simp,rfl⟩
  | cons ξ ξ=>
   intro ξ r ξ
   exact r.elim
 | cons a41 es ih=>
  obtain ⟨c,u⟩:=a41
  intro l42
  cases l42 with
  | nil=>
   intro ξ r ξ
   exact r.elim
  | cons e ds=>
   intro k v43 a
   obtain ⟨r1,r2,r3,r4,r5⟩:=v43
   rw [List.all_cons,Bool.and_eq_true] at a
   obtain ⟨i1,i2⟩:=ih k r5 a.2
   obtain ⟨q,rfl⟩:∃q,c=unAtom q:=by
    cases keyIs_of r4 with
    | atom q=>exact ⟨q,rfl⟩
    | tup ks=>have:=a.1;cases k<;>exact absurd this Bool.false_ne_true
   have hq:=VR.atom.mp r1
   refine ⟨fun e' m=>?_,?_⟩
   ·rcases List.mem_cons.mp m with rfl | m
    ·exact ⟨q,hq,r3.trans (hash_atom q)⟩
    ·exact i1 e' m
   ·rw [List.findIdx?_cons,List.findIdx?_cons,i2]
    have:(atomKind prog w).is k e.key=decide (unAtom q=unAtom k):=by
     by_cases eq:k=q
     ·subst eq;rw [decide_eq_true rfl];exact hq
     ·rw [decide_eq_false fun z=>eq (unAtom_inj z).symm]
      cases z:(atomKind prog w).is k e.key with
      | false=>rfl
      | true=>exact absurd ((atomKind prog w).inj _ _ _ z hq) eq
    rw [this]
theorem DRs.tups {prog:Program}:∀{es:List (CV×CV)} {ds:List DictEntry},DRs w X μ s.heap es ds→(∀e∈es,∃l,e.1 = .tup l)→
  ∃xs:List (List Atom×Addr×Value),ds=xs.map (entryOfKey (tupleKind (atomKind prog w)))∧(∀x∈xs,(tupleKind (atomKind prog w)).is s.heap x.1 x.2.1)∧es.map (·.1)=xs.map fun x=>CV.tup (x.1.map unAtom):=by
 intro l44
 induction l44 with
 | nil=>
  intro l45
  cases l45 with
  | nil=>
   intro ξ ξ
   exact ⟨[],rfl,by simp,rfl⟩
  | cons ξ ξ=>
   intro r ξ
   exact r.elim
 | cons a46 es ih=>
  obtain ⟨c,u⟩:=a46
  intro l47
  cases l47 with
  | nil=>
   intro r ξ
   exact r.elim
  | cons e ds=>
   intro v48 a
   obtain ⟨r1,r2,r3,r4,r5⟩:=v48
   obtain ⟨xs,e1,e2,e3⟩:=ih r5 fun e m=>a e (.tail _ m)
   obtain ⟨l,hl⟩:=a _ (.head _)
   obtain ⟨ks,rfl⟩:∃ks:List Atom,c = .tup (ks.map unAtom):=by
    cases keyIs_of r4 with
    | atom q=>cases q<;>cases hl
    | tup ks=>exact ⟨ks,rfl⟩
   refine VR.tupKey (prog:=prog) r1 fun b hb q=>?_
   refine ⟨(ks,b,e.val)::xs,?_,?_,?_⟩
   ·rw [List.map_cons,← e1]
    obtain ⟨eh,ek,ev⟩:=e
    simp only at r3 hb
    rw [r3,hb,hash_tup (prog:=prog)];rfl
   ·intro x m
    rcases List.mem_cons.mp m with rfl | m
    ·exact q
    ·exact e2 x m
   ·rw [List.map_cons,List.map_cons,e3]
theorem findIdx_map {α β:Type} (f:α→β) (p:β→Bool):∀l:List α,(l.map f).findIdx? p=l.findIdx? fun x=>p (f x):=by
 intro l5
 induction l5 with
 | nil=>
  exact rfl
 | cons x l ih=>
  rw [List.map_cons,List.findIdx?_cons,List.findIdx?_cons,ih]
theorem dictFind_cv {prog:Program} {k:CV} {v:Value} {es:List (CV×CV)} {ds:Array DictEntry} {n:Nat} {a:Addr} {Q:Option Nat→Shared→Prop} (hu:A.units<cLine) (r:VR w X μ s.heap k v) (hk:keyIn k es=true)
  (ho:s.heap.get? a=some (dctO ds n)) (q:DRs w X μ s.heap es ds.toList) (nd:(es.map (·.1)).Nodup) (h:Q (es.findIdx? fun e=>decide (e.1=k)) s):wpAny (model prog w) A (dictFind a v (hashCV w k)) Q E s:=by
 obtain ⟨k1,k2⟩:=Bool.and_eq_true_iff.mp hk
 cases keyIs_of k1 with
 | atom x=>
  obtain ⟨i1,i2⟩:=DRs.atoms (prog:=prog) x q k2
  rw [hash_atom (prog:=prog)]
  refine wpAny_dictFind_of (VR.atom.mp r) ho rfl (fun e m=>i1 e (Array.mem_toList_iff.mpr m)) ?_
  rw [← i2] at h
  obtain ⟨l⟩:=ds;simpa using h
 | tup ks=>
  refine VR.tupKey (prog:=prog) r fun b u1 tk=>?_
  obtain rfl:=u1
  obtain ⟨xs,e1,e2,e3⟩:=DRs.tups (prog:=prog) q fun e m=>by
   have:=List.all_eq_true.mp k2 e m
   cases hc:e.1 with
   | tup l=>exact ⟨l,rfl⟩
   | _=>rw [hc] at this;cases this
  rw [hash_tup (prog:=prog)]
  have inj:∀x y:List Atom,CV.tup (x.map unAtom)=CV.tup (y.map unAtom)→x=y:=fun x y e=>by
   injection e with e
   exact (List.map_inj_right fun ξ ξ z=>unAtom_inj z).mp e
  have nd':(xs.map (·.1)).Nodup:=by
   rw [e3] at nd
   have:(xs.map fun x=>CV.tup (x.1.map unAtom))=(xs.map (·.1)).map fun x=>CV.tup (x.map unAtom):=by rw [List.map_map];rfl
   rw [this] at nd
   exact List.Pairwise.of_map _ (fun a b z e=>z (by rw [e])) nd
  have fi:(es.findIdx? fun e=>decide (e.1=CV.tup (ks.map unAtom)))=xs.findIdx? fun x=>decide (x.1=ks):=by
   have l1:=findIdx_map (fun e:CV×CV=>e.1) (fun c=>decide (c=CV.tup (ks.map unAtom))) es
   have l2:=findIdx_map (fun x:List Atom×Addr×Value=>CV.tup (x.1.map unAtom)) (fun c=>decide (c=CV.tup (ks.map unAtom))) xs
   rw [← l1,e3,l2]
   congr 1
   funext x
   by_cases z:x.1=ks
   ·rw [decide_eq_true z,decide_eq_true (by rw [z])]
   ·rw [decide_eq_false z,decide_eq_false fun e=>z (inj _ _ e)]
  rw [fi] at h
  refine wpAny_dictFind_heap (knd:=tupleKind (atomKind prog w)) hu tk ho rfl e1 e2 nd' (fun hn=>?_) fun j p hj=>?_
  ·have:(xs.findIdx? fun x=>decide (x.1=ks))=none:=by
    rw [List.findIdx?_eq_none_iff]
    intro x m
    refine decide_eq_false fun z=>?_
    obtain ⟨j,hj⟩:=List.mem_iff_getElem?.mp m
    exact hn j x.2 (by rw [hj,← z])
   rw [this] at h;exact h
  ·have:(xs.findIdx? fun x=>decide (x.1=ks))=some j:=by
    obtain ⟨hl,he⟩:=List.getElem?_eq_some_iff.mp hj
    rw [List.findIdx?_eq_some_iff_getElem]
    refine ⟨hl,by rw [he];exact decide_eq_true rfl,fun i hi=>?_⟩
    rw [decide_eq_true_eq]
    intro z
    have:=idxH_unique nd' (i:=i) (j:=j) (k:=ks) (p:=xs[i].2) (q:=p) (by rw [List.getElem?_eq_getElem (Nat.lt_trans hi hl),← z]) hj
    lia
   rw [this] at h;exact h
end
theorem findIdx_spec {es:List (CV×CV)} {k:CV}:(es.findIdx? (fun e=>decide (e.1=k))=none∧findK es k=none∧hasK es k=false∧(∀u,setK es k u=es++[(k,u)]))∨
  ∃i c,es.findIdx? (fun e=>decide (e.1=k))=some i∧es[i]?=some (k,c)∧findK es k=some c∧hasK es k=true∧(∀u,setK es k u=es.set i (k,u))∧eraseK es k=es.eraseIdx i:=by
 induction es with
 | nil=>exact .inl ⟨rfl,rfl,rfl,fun ξ=>rfl⟩
 | cons e es ih=>
  obtain ⟨k',c'⟩:=e
  by_cases z:k'=k
  ·subst z
   refine .inr ⟨0,c',?_,rfl,?_,?_,fun u=>if_pos rfl,?_⟩
   ·rw [List.findIdx?_cons,if_pos (decide_eq_true rfl)]
   ·exact congrArg (Option.map Prod.snd) (List.find?_cons_of_pos (a:=(k',c')) (decide_eq_true rfl))
   ·show (decide (k'=k')||_)=true
    rw [decide_eq_true rfl];rfl
   ·exact List.eraseP_cons_of_pos (decide_eq_true rfl)
  ·have zf:¬decide (k'=k)=true:=fun q=>z (of_decide_eq_true q)
   rcases ih with ⟨h1,h2,h3,h4⟩ | ⟨i,c,h1,h2,h3,h4,h5,h6⟩
   ·refine .inl ⟨?_,?_,?_,fun u=>?_⟩
    ·rw [List.findIdx?_cons,h1,if_neg zf];rfl
    ·exact (congrArg (Option.map Prod.snd) (List.find?_cons_of_neg (a:=(k',c')) zf)).trans h2
    ·show (decide (k'=k)||hasK es k)=false
     rw [decide_eq_false z,h3];rfl
    ·rw [setK,if_neg z,h4];rfl
   ·refine .inr ⟨i+1,c,?_,h2,?_,?_,fun u=>?_,?_⟩
    ·rw [List.findIdx?_cons,h1,if_neg zf];rfl
    ·exact (congrArg (Option.map Prod.snd) (List.find?_cons_of_neg (a:=(k',c')) zf)).trans h3
    ·show (decide (k'=k)||hasK es k)=true
     rw [h4,Bool.or_true]
    ·rw [setK,if_neg z,h5];rfl
    ·exact (List.eraseP_cons_of_neg (a:=(k',c')) zf).trans (congrArg _ h6)
theorem setK_keys {es:List (CV×CV)} {k u:CV}:((setK es k u).map (·.1))=if hasK es k then es.map (·.1) else es.map (·.1)++[k]:=by
 rcases findIdx_spec (es:=es) (k:=k) with ⟨_,_,h3,h4⟩ | ⟨i,c,h1,h2,h3,h4,h5,h6⟩
 ·rw [h3,h4];simp
 ·rw [h4,h5,if_pos rfl]
  apply List.ext_getElem?
  intro j
  rw [List.getElem?_map,List.getElem?_map]
  by_cases e:i=j
  ·subst e;rw [h2,List.getElem?_set_self (List.getElem?_eq_some_iff.mp h2).1];rfl
  ·rw [List.getElem?_set_ne e]
theorem hasK_iff {es:List (CV×CV)} {k:CV}:hasK es k=true↔k∈es.map (·.1):=by
 unfold hasK
 rw [List.any_eq_true,List.mem_map]
 exact ⟨fun w22=>by obtain ⟨e,m,h⟩:=w22;exact ⟨e,m,of_decide_eq_true h⟩,fun w21=>by obtain ⟨e,m,h⟩:=w21;exact ⟨e,m,decide_eq_true h⟩⟩
theorem setK_nodup {es:List (CV×CV)} {k u:CV} (nd:(es.map (·.1)).Nodup):((setK es k u).map (·.1)).Nodup:=by
 rw [setK_keys]
 split
 ·exact nd
 ·rename_i h
  rw [List.nodup_append]
  refine ⟨nd,by simp,fun a ha b hb e=>?_⟩
  rw [List.mem_singleton] at hb
  subst hb;subst e
  exact h (hasK_iff.mpr ha)
theorem eraseK_sub {es:List (CV×CV)} {k:CV}:(eraseK es k).Sublist es:=List.eraseP_sublist
theorem eraseK_nodup {es:List (CV×CV)} {k:CV} (nd:(es.map (·.1)).Nodup):((eraseK es k).map (·.1)).Nodup:=List.Sublist.nodup (eraseK_sub.map _) nd
section
variable {w:World} {X:List Addr} {μ:Mu} {h:Heap}
theorem DRs.get:∀{es:List (CV×CV)} {ds:List DictEntry} {i:Nat} {k c:CV},DRs w X μ h es ds→es[i]?=some (k,c)→∃e,ds[i]?=some e∧VR w X μ h k e.key∧VR w X μ h c e.val∧e.hash=hashCV w k∧keyOk k=true:=by
 intro l50
 induction l50 with
 | nil=>
  intro ξ ξ ξ ξ ξ q
  cases q
 | cons a51 es ih=>
  obtain ⟨k',c'⟩:=a51
  intro l52
  cases l52 with
  | nil=>
   intro ξ ξ ξ r ξ
   exact r.elim
  | cons e ds=>
   intro l53
   cases l53 with
   | zero=>
    intro ξ ξ r q
    cases q;exact ⟨e,rfl,r.1,r.2.1,r.2.2.1,r.2.2.2.1⟩
   | succ i=>
    intro ξ ξ r q
    exact ih (i:=i) r.2.2.2.2 q
theorem DRs.modify:∀{es:List (CV×CV)} {ds:List DictEntry} {i:Nat} {k c u:CV} {v:Value},DRs w X μ h es ds→es[i]?=some (k,c)→VR w X μ h u v→DRs w X μ h (es.set i (k,u)) (ds.modify i fun e=>{ e with val:=v }):=by
 intro l54
 induction l54 with
 | nil=>
  intro ξ ξ ξ ξ ξ ξ ξ q ξ
  cases q
 | cons a55 es ih=>
  obtain ⟨k',c'⟩:=a55
  intro l56
  cases l56 with
  | nil=>
   intro ξ ξ ξ ξ ξ r ξ ξ
   exact r.elim
  | cons e ds=>
   intro l57
   cases l57 with
   | zero=>
    intro ξ ξ ξ ξ r q rv
    cases q;exact ⟨r.1,rv,r.2.2.1,r.2.2.2.1,r.2.2.2.2⟩
   | succ i=>
    intro ξ ξ ξ ξ r q rv
    rw [List.set_cons_succ,List.modify_succ_cons]
    exact ⟨r.1,r.2.1,r.2.2.1,r.2.2.2.1,ih (i:=i) r.2.2.2.2 q rv⟩
theorem DRs.append:∀{es fs:List (CV×CV)} {ds gs:List DictEntry},DRs w X μ h es ds→DRs w X μ h fs gs→DRs w X μ h (es++fs) (ds++gs):=by
 intro l58
 induction l58 with
 | nil=>
  intro ξ l59
  cases l59 with
  | nil=>
   intro ξ ξ r
   exact r
  | cons ξ ξ=>
   intro ξ r ξ
   exact r.elim
 | cons a60 ξ ih=>
  obtain ⟨ξ,ξ⟩:=a60
  intro ξ l61
  cases l61 with
  | nil=>
   intro ξ r ξ
   exact r.elim
  | cons ξ ξ=>
   intro ξ r q
   exact ⟨r.1,r.2.1,r.2.2.1,r.2.2.2.1,ih r.2.2.2.2 q⟩
theorem DRs.erase:∀{es:List (CV×CV)} {ds:List DictEntry} {i:Nat},DRs w X μ h es ds→DRs w X μ h (es.eraseIdx i) (ds.eraseIdx i):=by
 intro l62
 induction l62 with
 | nil=>
  intro l63
  cases l63 with
  | nil=>
   intro ξ ξ
   rw [List.eraseIdx_nil,List.eraseIdx_nil];trivial
  | cons ξ ξ=>
   intro ξ r
   exact r.elim
 | cons a64 ξ ih=>
  obtain ⟨ξ,ξ⟩:=a64
  intro l65
  cases l65 with
  | nil=>
   intro ξ r
   exact r.elim
  | cons ξ ξ=>
   intro l66
   cases l66 with
   | zero=>
    intro r
    exact r.2.2.2.2
   | succ i=>
    intro r
    exact ⟨r.1,r.2.1,r.2.2.1,r.2.2.2.1,ih r.2.2.2.2⟩
theorem DRs.size {es:List (CV×CV)} {ds:Array DictEntry} (r:DRs w X μ h es ds.toList):ds.size=es.length:=by rw [← DRs.length r];simp
end
section
variable {w:World} {X:List Addr} {μ:Mu} {s:Shared} {A:Around} {E:Value→Shared→Prop} {prog:Program} {es:List (CV×CV)} {ds:Array DictEntry} {n:Nat} {a:Addr} {k:CV} {v:Value}
theorem dictGet_cv {Q:Option Value→Shared→Prop} (hu:A.units<cLine) (r:VR w X μ s.heap k v) (hk:keyIn k es=true) (ho:s.heap.get? a=some (dctO ds n)) (q:DRs w X μ s.heap es ds.toList) (nd:(es.map (·.1)).Nodup)
  (h0:findK es k=none→∀t,Q none { s with toks:=t }) (h1:∀c u t,findK es k=some c→VR w X μ s.heap c u→Q (some u) { s with toks:=t }):wpAny (model prog w) A (dictGet a v) Q E s:=by
 unfold dictGet
 refine wpAny_holding (wpAny_bind (pyHash_cv hu r (Bool.and_eq_true_iff.mp hk).1 fun t=>wpAny_bind (dictFind_cv (s:={ s with toks:=t }) hu r hk ho q nd ?_)))
 rcases findIdx_spec (es:=es) (k:=k) with ⟨e1,e2,_⟩ | ⟨i,c,e1,e2,e3,_⟩
 ·rw [e1];exact wpAny_pure (h0 e2 t)
 ·rw [e1]
  obtain ⟨e,he,ξ,re,ξ⟩:=q.get e2
  refine wpAny_bind (wpAny_dictEntries (s:={ s with toks:=t }) ho rfl (wpAny_pure ?_))
  rw [← Array.getElem?_toList,he]
  exact h1 c e.val t e3 re
theorem dictSet_cv {u:CV} {uv:Value} {Q:Unit→Shared→Prop} (hu:A.units<cLine) (r:VR w X μ s.heap k v) (hk:keyIn k es=true) (ho:s.heap.get? a=some (dctO ds n)) (q:DRs w X μ s.heap es ds.toList) (nd:(es.map (·.1)).Nodup) (ru:VR w X μ s.heap u uv) (hz:es.length≤sizeLine)
  (hQ:∀h' ds' t,Heap.SameBut a s.heap h'→h'.get? a=some (dctO ds' (if hasK es k then n else n+1))→DRs w X μ s.heap (setK es k u) ds'.toList→Q () { s with heap:=h',toks:=t }):wpAny (model prog w) A (dictSet a v uv) Q E s:=by
 unfold dictSet
 refine wpAny_holding (wpAny_bind (pyHash_cv hu r (Bool.and_eq_true_iff.mp hk).1 fun t=>?_))
 unfold dictSetHashed
 refine wpAny_holding (wpAny_bind (dictFind_cv (s:={ s with toks:=t }) hu r hk ho q nd ?_))
 rcases findIdx_spec (es:=es) (k:=k) with ⟨e1,e2,e3,e4⟩ | ⟨i,c,e1,e2,e3,e4,e5,_⟩
 ·rw [e1]
  refine wpAny_bind (wpAny_rule (wpAny_updateDictKeys (s:={ s with toks:=t }) (hz:=by rw [DRs.size q];exact hz) ho rfl ?_))
  refine hQ _ (ds.push ⟨hashCV w k,v,uv⟩) t (Heap.SameBut.update ..) ?_ ?_
  ·rw [e3];exact Heap.get?_update_self _ ho rfl
  ·rw [e4,Array.toList_push]
   exact DRs.append q ⟨r,ru,rfl,(Bool.and_eq_true_iff.mp hk).1,trivial⟩
 ·rw [e1]
  refine wpAny_bind (wpAny_rule (wpAny_bind (wpAny_updateDict (s:={ s with toks:=t }) ho rfl (wpAny_point ?_))))
  refine hQ _ (ds.modify i fun e=>{ e with val:=uv }) t (Heap.SameBut.update ..) ?_ ?_
  ·rw [e4];exact Heap.get?_update_self _ ho rfl
  ·rw [e5,Array.toList_modify]
   exact q.modify e2 ru
theorem dictSetDefault_cv {u:CV} {uv:Value} {Q:Value→Shared→Prop} (hu:A.units<cLine) (r:VR w X μ s.heap k v) (hk:keyIn k es=true) (ho:s.heap.get? a=some (dctO ds n)) (q:DRs w X μ s.heap es ds.toList) (nd:(es.map (·.1)).Nodup) (ru:VR w X μ s.heap u uv) (hz:es.length≤sizeLine)
  (h1:∀c x t,findK es k=some c→VR w X μ s.heap c x→Q x { s with toks:=t })
  (h0:findK es k=none→∀h' ds' t,Heap.SameBut a s.heap h'→h'.get? a=some (dctO ds' (n+1))→DRs w X μ s.heap (es++[(k,u)]) ds'.toList→Q uv { s with heap:=h',toks:=t }):wpAny (model prog w) A (dictSetDefault a v uv) Q E s:=by
 unfold dictSetDefault
 refine wpAny_holding (wpAny_bind (pyHash_cv hu r (Bool.and_eq_true_iff.mp hk).1 fun t=>wpAny_bind (dictFind_cv (s:={ s with toks:=t }) hu r hk ho q nd ?_)))
 rcases findIdx_spec (es:=es) (k:=k) with ⟨e1,e2,e3,e4⟩ | ⟨i,c,e1,e2,e3,e4,e5,_⟩
 ·rw [e1]
  refine wpAny_bind (wpAny_rule (wpAny_bind (wpAny_updateDictKeys (s:={ s with toks:=t }) (hz:=by rw [DRs.size q];exact hz) ho rfl (wpAny_pure ?_))))
  refine h0 e2 _ (ds.push ⟨hashCV w k,v,uv⟩) t (Heap.SameBut.update ..) (Heap.get?_update_self _ ho rfl) ?_
  rw [Array.toList_push]
  exact DRs.append q ⟨r,ru,rfl,(Bool.and_eq_true_iff.mp hk).1,trivial⟩
 ·rw [e1]
  obtain ⟨e,he,ξ,re,ξ⟩:=q.get e2
  refine wpAny_bind (wpAny_dictEntries (s:={ s with toks:=t }) ho rfl ?_)
  rw [← Array.getElem?_toList,he]
  exact wpAny_bind (wpAny_rule (wpAny_pure (h1 c e.val t e3 re)))
end
theorem OkA.in1 {A:Around} {d:Nat} (O:OkA A d):A.in1.units<cLine:=by
 have:=O.units
 show A.units+1<cLine
 lia
section
variable {w:World} {base:Heap} {X:List Addr} {μ:Mu} {σ:CSt} {s:Shared} {A:Around} {d:Nat} {E:Value→Shared→Prop}
structure DictAt (w:World) (X:List Addr) (μ:Mu) (h:Heap) (es:List (CV×CV)) (a:Addr) (ds:Array DictEntry) (n:Nat):Prop where
 at_:h.get? a=some (dctO ds n)
 sm:(a==sysModules)=false
 rs:DRs w X μ h es ds.toList
 nd:(es.map (·.1)).Nodup
theorem DictAt.type {es:List (CV×CV)} {a:Addr} {ds:Array DictEntry} {n:Nat} (D:DictAt w X μ s.heap es a ds n):s.TypeIs (.ref a) "dict":=⟨_,D.at_,rfl⟩
theorem dictOf_dec {c:CV} {v:Value} {es:List (CV×CV)} {h:Heap} (R:Rel w base X μ σ h) (r:VR w X μ h c v) (e:dictOf σ c=some es) {zz:Prop} (kk:∀a ds n,v = .ref a→DictAt w X μ h es a ds n→zz):zz:=by
 cases c with
 | dct l=>cases e;obtain ⟨a,ds,n,e,g,ξ,ξ,sm,r,nd⟩:=r;exact kk a ds n e ⟨g,sm,r,nd⟩
 | ref i=>
  obtain ⟨p,hp,e'⟩:=r
  have e:(match σ[i]? with | some (.dict es _)=>some es | _=>none)=some es:=e
  cases ho:σ[i]? with
  | none=>rw [ho] at e;cases e
  | some o=>
   rw [ho] at e
   cases o with
   | dict l ep=>
    have e:some l=some es:=e
    cases e
    obtain ⟨ξ,sm,ds,g,r,nd⟩:=R.obj i p _ hp ho
    exact kk p.1 ds ep e' ⟨g,sm,r,nd⟩
   | _=>cases e
 | _=>cases e
theorem contains_dict {es:List (CV×CV)} {a:Addr} {ds:Array DictEntry} {n:Nat} {k:CV} {v:Value} {Q:Bool→Shared→Prop} (O:OkA A d) (D:DictAt w X μ s.heap es a ds n) (r:VR w X μ s.heap k v) (hk:keyIn k es=true)
  (h:∀t,Q (hasK es k) { s with toks:=t }):wpAny (model pw w) A (contains (.ref a) v) Q E s:=by
 unfold contains
 refine wpAny_holding ?_
 refine wpAny_bind (wpAny_specialOf D.type slot_dict_contains.lookup ?_)
 show wpAny _ _ (if (some (Value.builtin "dict.__contains__")==some Value.none)=true then _ else _) _ E s
 rw [if_neg (by rw [beq_builtin_none];exact Bool.false_ne_true)]
 refine wpAny_bind (wpAny_callSpecialUnlessNone?_slot (name:=Str.ofString "__contains__") D.type slot_dict_contains
  (wpAny_call_entry slot_dict_contains D.type entry_dict_contains ?_ (args_dict_contains _ _)))
 show wpAny _ _ (dictGet a v >>= _) _ _ s
 refine wpAny_bind (dictGet_cv O.in1 r hk D.at_ D.rs D.nd (fun hf t=>?_) fun c u t hf ξ=>?_)
 ·show wpAny _ _ (Builtin.Dict.pendingKey? a v >>= _) _ _ _
  have:hasK es k=false:=by
   rcases findIdx_spec (es:=es) (k:=k) with ⟨_,_,e,_⟩ | ⟨i,c,_,_,e,_⟩
   ·exact e
   ·rw [hf] at e;cases e
  rw [this] at h
  exact wpAny_bind (wpAny_pendingKey_other D.sm (wpAny_pure ⟨_,rfl,wpAny_truthy_bool (h t)⟩))
 ·show wpAny _ _ (ret (.bool true)) _ _ _
  have:hasK es k=true:=by
   rcases findIdx_spec (es:=es) (k:=k) with ⟨_,e,_⟩ | ⟨i,c,_,_,_,e,_⟩
   ·rw [hf] at e;cases e
   ·exact e
  rw [this] at h
  exact wpAny_pure ⟨_,rfl,wpAny_truthy_bool (h t)⟩
theorem in_dict {es:List (CV×CV)} {a:Addr} {ds:Array DictEntry} {n:Nat} {k:CV} {v:Value} {Q:Value→Shared→Prop} (O:OkA A d) (D:DictAt w X μ s.heap es a ds n) (r:VR w X μ s.heap k v) (hk:keyIn k es=true) :
  ((∀t,Q (.bool (hasK es k)) { s with toks:=t })→wpAny (model pw w) A (compareOp .In v (.ref a)) Q E s)∧((∀t,Q (.bool (!hasK es k)) { s with toks:=t })→wpAny (model pw w) A (compareOp .NotIn v (.ref a)) Q E s):=by
 refine ⟨fun h=>?_,fun h=>?_⟩
 ·show wpAny _ _ (do return .bool (← contains (.ref a) v)) Q E s
  exact wpAny_bind (contains_dict O D r hk fun t=>wpAny_pure (h t))
 ·show wpAny _ _ (do return .bool (!(← contains (.ref a) v))) Q E s
  exact wpAny_bind (contains_dict O D r hk fun t=>wpAny_pure (h t))
theorem get_dict {es:List (CV×CV)} {a:Addr} {ds:Array DictEntry} {n:Nat} {k c:CV} {v:Value} {Q:Value→Shared→Prop} (O:OkA A d) (D:DictAt w X μ s.heap es a ds n) (r:VR w X μ s.heap k v) (hk:keyIn k es=true) (hf:findK es k=some c)
  (h:∀u t,VR w X μ s.heap c u→Q u { s with toks:=t }):wpAny (model pw w) A (getItem (.ref a) v) Q E s:=by
 unfold getItem
 refine wpAny_holding ?_
 refine wpAny_bind (wpAny_sequenceKey D.type (by decide) ?_)
 refine wpAny_bind (wpAny_callSpecial?_slot (name:=Str.ofString "__getitem__") D.type slot_dict_getitem
  (wpAny_call_entry slot_dict_getitem D.type entry_dict_getitem ?_ (args_dict_getitem _ _)))
 show wpAny _ _ (dictGet a v >>= _) _ _ s
 refine wpAny_bind (dictGet_cv O.in1 r hk D.at_ D.rs D.nd (fun hf'=>by rw [hf] at hf';cases hf') fun c' u t hf' ru=>?_)
 rw [hf] at hf';cases hf'
 exact wpAny_pure ⟨u,rfl,wpAny_pure (h u t ru)⟩
theorem set_item_dict {es:List (CV×CV)} {a:Addr} {ds:Array DictEntry} {n:Nat} {k u:CV} {v uv:Value} {Q:Unit→Shared→Prop} (O:OkA A d) (D:DictAt w X μ s.heap es a ds n) (r:VR w X μ s.heap k v) (hk:keyIn k es=true) (ru:VR w X μ s.heap u uv) (hz:es.length≤sizeLine)
  (hQ:∀h' ds' t,Heap.SameBut a s.heap h'→h'.get? a=some (dctO ds' (if hasK es k then n else n+1))→DRs w X μ s.heap (setK es k u) ds'.toList→Q () { s with heap:=h',toks:=t }):wpAny (model pw w) A (setItem (.ref a) v uv) Q E s:=by
 unfold setItem
 refine wpAny_holding ?_
 refine wpAny_bind (wpAny_sequenceKey D.type (by decide) ?_)
 refine wpAny_bind (wpAny_callSpecial?_slot (name:=Str.ofString "__setitem__") D.type slot_dict_setitem
  (wpAny_call_entry slot_dict_setitem D.type entry_dict_setitem ?_ (args_dict_setitem _ _ _)))
 show wpAny _ _ (Builtin.Dict.notOrdered "__setitem__" ⟨[.ref a,v,uv],[]⟩ >>= _) _ _ s
 refine wpAny_bind (wpAny_notOrdered_dict D.type ?_)
 show wpAny _ _ (dictSet a v uv >>= _) _ _ s
 exact wpAny_bind (dictSet_cv O.in1 r hk D.at_ D.rs D.nd ru hz fun h' ds' t hs hg hd=>wpAny_pure ⟨.none,rfl,wpAny_pure (hQ h' ds' t hs hg hd)⟩)
theorem call_dict_get {es:List (CV×CV)} {a:Addr} {ds:Array DictEntry} {n:Nat} {k:CV} {v:Value} {Q:Value→Shared→Prop} (O:OkA A d) (D:DictAt w X μ s.heap es a ds n) (r:VR w X μ s.heap k v) (hk:keyIn k es=true)
  (h:∀u t,VR w X μ s.heap ((findK es k).getD .none) u→Q u { s with toks:=t }):wpAny (model pw w) A (call (.builtin "dict.get") [.ref a,v]) Q E s:=by
 refine wpAny_call_entry PySem.F.slot_dict_get D.type PySem.F.entry_dict_get ?_ (PySem.F.args_dict_get_2 _ _)
 show wpAny _ _ (dictGet a v >>= _) _ _ s
 refine wpAny_bind (dictGet_cv O.in1 r hk D.at_ D.rs D.nd (fun hf t=>?_) fun c u t hf ru=>?_)
 ·show wpAny _ _ (Builtin.Dict.missed a v >>= _) _ _ _
  rw [hf] at h
  exact wpAny_bind (wpAny_missed_other D.sm (wpAny_pure ⟨.none,rfl,h _ t rfl⟩))
 ·rw [hf] at h
  exact wpAny_pure ⟨u,rfl,h u t ru⟩
theorem call_dict_get2 {es:List (CV×CV)} {a:Addr} {ds:Array DictEntry} {n:Nat} {k dc:CV} {v dv:Value} {Q:Value→Shared→Prop} (O:OkA A d) (D:DictAt w X μ s.heap es a ds n) (r:VR w X μ s.heap k v) (hk:keyIn k es=true) (rd:VR w X μ s.heap dc dv)
  (h:∀u t,VR w X μ s.heap ((findK es k).getD dc) u→Q u { s with toks:=t }):wpAny (model pw w) A (call (.builtin "dict.get") [.ref a,v,dv]) Q E s:=by
 refine wpAny_call_entry PySem.F.slot_dict_get D.type PySem.F.entry_dict_get ?_ (PySem.F.args_dict_get_3 _ _ _)
 show wpAny _ _ (dictGet a v >>= _) _ _ s
 refine wpAny_bind (dictGet_cv O.in1 r hk D.at_ D.rs D.nd (fun hf t=>?_) fun c u t hf ru=>?_)
 ·show wpAny _ _ (Builtin.Dict.missed a v >>= _) _ _ _
  rw [hf] at h
  exact wpAny_bind (wpAny_missed_other D.sm (wpAny_pure ⟨dv,rfl,h _ t rd⟩))
 ·rw [hf] at h
  exact wpAny_pure ⟨u,rfl,h u t ru⟩
theorem call_dict_setdefault {es:List (CV×CV)} {a:Addr} {ds:Array DictEntry} {n:Nat} {k u:CV} {v uv:Value} {Q:Value→Shared→Prop} (O:OkA A d) (D:DictAt w X μ s.heap es a ds n) (r:VR w X μ s.heap k v) (hk:keyIn k es=true) (ru:VR w X μ s.heap u uv) (hz:es.length≤sizeLine)
  (h1:∀c x t,findK es k=some c→VR w X μ s.heap c x→Q x { s with toks:=t })
  (h0:findK es k=none→∀h' ds' t,Heap.SameBut a s.heap h'→h'.get? a=some (dctO ds' (n+1))→DRs w X μ s.heap (es++[(k,u)]) ds'.toList→Q uv { s with heap:=h',toks:=t }) :
  wpAny (model pw w) A (call (.builtin "dict.setdefault") [.ref a,v,uv]) Q E s:=by
 refine wpAny_call_entry PySem.F.slot_dict_setdefault D.type PySem.F.entry_dict_setdefault ?_ (PySem.F.args_dict_setdefault_3 _ _ _)
 unfold Builtin.«dict.setdefault»
 refine wpAny_bind ?_
 unfold Builtin.Dict.keyAndDefault
 refine wpAny_bind (wpAny_notOrdered_dict D.type ?_)
 show wpAny _ _ (pure (a,v,some uv)) _ _ s
 refine wpAny_pure ?_
 simp only [D.sm,Bool.false_eq_true,if_false]
 refine wpAny_bind (dictSetDefault_cv O.in1 r hk D.at_ D.rs D.nd ru hz (fun c x t hf rx=>wpAny_pure ⟨x,rfl,h1 c x t hf rx⟩) fun hf h' ds' t hs hg hd=>wpAny_pure ⟨uv,rfl,h0 hf h' ds' t hs hg hd⟩)
theorem call_dict_pop {es:List (CV×CV)} {a:Addr} {ds:Array DictEntry} {n:Nat} {k c:CV} {v:Value} {Q:Value→Shared→Prop} (O:OkA A d) (D:DictAt w X μ s.heap es a ds n) (r:VR w X μ s.heap k v) (hk:keyIn k es=true) (hf:findK es k=some c) (hz:es.length≤sizeLine)
  (h:∀x h' ds' t,VR w X μ s.heap c x→Heap.SameBut a s.heap h'→h'.get? a=some (dctO ds' (n+1))→DRs w X μ s.heap (eraseK es k) ds'.toList→Q x { s with heap:=h',toks:=t }) :
  wpAny (model pw w) A (call (.builtin "dict.pop") [.ref a,v]) Q E s:=by
 refine wpAny_call_entry PySem.F.slot_dict_pop D.type PySem.F.entry_dict_pop ?_ (PySem.F.args_dict_pop_2 _ _)
 obtain ⟨i,e1,e2,e6⟩:∃i,es.findIdx? (fun e=>decide (e.1=k))=some i∧es[i]?=some (k,c)∧eraseK es k=es.eraseIdx i:=by
  rcases findIdx_spec (es:=es) (k:=k) with ⟨_,e,_⟩ | ⟨i,c',e1,e2,e3,_,_,e6⟩
  ·rw [hf] at e;cases e
  ·rw [hf] at e3;cases e3;exact ⟨i,e1,e2,e6⟩
 unfold Builtin.«dict.pop»
 refine wpAny_bind ?_
 unfold Builtin.Dict.keyAndDefault
 refine wpAny_bind (wpAny_notOrdered_dict D.type ?_)
 show wpAny _ _ (pure (a,v,none)) _ _ s
 refine wpAny_pure ?_
 have go:wpAny (model pw w) A.in1 (Builtin.Dict.takeOut a v) (fun old s₁=>∃e,old=some e∧∃h' ds' t,s₁={ s with heap:=h',toks:=t }∧VR w X μ s.heap c e.val∧Heap.SameBut a s.heap h'∧h'.get? a=some (dctO ds' (n+1))∧DRs w X μ s.heap (eraseK es k) ds'.toList) (fun e s'=>E e s') s:=by
  unfold Builtin.Dict.takeOut
  refine wpAny_holding (wpAny_bind (pyHash_cv O.in1 r (Bool.and_eq_true_iff.mp hk).1 fun t=>wpAny_bind (dictFind_cv (s:={ s with toks:=t }) O.in1 r hk D.at_ D.rs D.nd ?_)))
  rw [e1]
  obtain ⟨e,he,ξ,re,ξ⟩:=D.rs.get e2
  refine wpAny_bind (wpAny_dictEntries (s:={ s with toks:=t }) D.at_ rfl ?_)
  rw [← Array.getElem?_toList,he]
  refine wpAny_bind (wpAny_updateDictKeys (s:={ s with toks:=t }) (hz:=by rw [DRs.size D.rs];exact hz) (hf:=?_) D.at_ rfl (wpAny_pure ⟨e,rfl,_,ds.eraseIdxIfInBounds i,t,rfl,re,Heap.SameBut.update ..,Heap.get?_update_self _ D.at_ rfl,?_⟩))
  ·rw [e6]
   obtain ⟨l⟩:=ds
   simp only [List.eraseIdxIfInBounds_toArray]
   exact DRs.erase D.rs
  ·obtain ⟨l⟩:=ds
   simp only [List.eraseIdxIfInBounds_toArray,List.size_toArray]
   have:=List.length_eraseIdx_le l i
   lia
 have ne:ds.isEmpty=false:=by
  have:=DRs.size D.rs
  have l:=(List.getElem?_eq_some_iff.mp e2).1
  rw [Array.isEmpty_eq_false_iff]
  intro z;subst z;simp at this;lia
 have tail:∀(empty:Bool),empty=false→wpAny (model pw w) A.in1 (do
   let old ← if empty then rule "dict.pop.empty";pure none else Builtin.Dict.takeOut a v
   if old.isNone then Builtin.Dict.missedRemoval a v
   match old,(none:Option Value) with
   | some e,_=>letGo [e.key] [e.val];ret e.val
   | none,some x=>rule "dict.pop.default";ret x
   | none,none=>rule "dict.pop.keyerror";raiseNew (← newExc (.type "KeyError") [v])) (fun fin s'=>∃v,fin = .done (.ret v)∧Q v s') (fun e s'=>E e s') s:=by
  rintro _ rfl
  rw [if_neg Bool.false_ne_true]
  refine wpAny_bind (wpAny_mono go (fun old s₁ ho=>?_) fun ξ ξ x=>x)
  obtain ⟨e,rfl,h',ds',t,rfl,re,hs,hg,hd⟩:=ho
  dsimp only [Option.isNone_some];rw [if_neg Bool.false_ne_true]
  exact wpAny_bind (wpAny_letGo (wpAny_pure ⟨e.val,rfl,h e.val h' ds' t re hs hg hd⟩))
 by_cases hp:(keyPart v).isSome=true
 ·dsimp only;rw [if_pos hp]
  exact wpAny_bind (wpAny_pure (tail false rfl))
 ·dsimp only;rw [if_neg hp]
  refine wpAny_bind (wpAny_dictEntries D.at_ rfl (wpAny_bind (wpAny_pure ?_)))
  rw [ne]
  exact tail false rfl
end
theorem big_int {n:Nat} (h:n≤BIG):(n:Int)<2 ^ 63:=Int.lt_of_le_of_lt (Int.ofNat_le.mpr h) (by decide)
theorem seqIndex_nat {j n:Nat} (h:j<n):seqIndex? (j:Int) n=some j:=by
 unfold seqIndex?
 have e:¬((j:Int)<0):=by lia
 have e2:(decide (0≤(j:Int))&&decide ((j:Int)<(n:Int)))=true:=Bool.and_eq_true_iff.mpr ⟨decide_eq_true (by lia),decide_eq_true (by lia)⟩
 rw [if_neg e]
 exact if_pos e2
section
variable {w:World} {A:Around} {E:Value→Shared→Prop} {s:Shared}
theorem tail_any {value slice:Expr} {o i:Value} {T id:String} {Q:Value→Shared→Prop} (hT:s.TypeIs o T)
  (hl:typeLookup (.type T) "__getitem__"=pure (some (.builtin id))) (hs:(tg slice 98)=false) (h:wpAny (model pw w) A (getItem o i) Q E s) :
  wpAny (model pw w) A (subscriptTail value slice o i) Q E s:=by
 unfold subscriptTail
 refine wpAny_bind ?_
 rw [getitemInPython_of_ne hT.not_modules]
 refine wpAny_bind (wpAny_specialOf hT hl ?_)
 have hs':∃vs,subscripted slice false o i=operate vs (getItem o i):=by
  cases slice
  case Slice l u t p=>cases t<;>first | exact ⟨_,rfl⟩ | cases hs
  all_goals exact ⟨_,rfl⟩
 obtain ⟨vs,hs'⟩:=hs'
 have fin:wpAny (model pw w) A (subscripted slice false o i) (fun r s₃=>wpAny (model pw w) A (letTemporaryGo value o r >>= fun ξ=>pure r) Q E s₃) E s:=by
  rw [hs']
  exact wpAny_operating (wpAny_mono h (fun r s₃ h₃=>wpAny_bind (wpAny_letTemporaryGo (wpAny_pure h₃))) fun ξ ξ x=>x)
 exact wpAny_pure (wpAny_bind fin)
end
structure SubD (d:Nat) (o i r:CV) (σ:CSt):Prop where
 go:∀{g:Gx} {A:Around} {X:List Addr} {μ:Mu} {s:Shared} {ov iv:Value} {value slice:Expr} {E Q:Value→Shared→Prop},OkA A d→(tg slice 98)=false→Rel g.w g.base X μ σ s.heap→VR g.w X μ s.heap o ov→VR g.w X μ s.heap i iv→
  (∀u s' μ',Got g X μ s σ r u s' μ'→Q u s')→wpAny (model pw g.w) A (subscriptTail value slice ov iv) Q E s
section
variable {w:World} {base:Heap} {X:List Addr} {μ:Mu} {σ:CSt} {s:Shared} {h:Heap} {A:Around} {d:Nat} {o i r k v:CV} {l:List CV} {es:List (CV×CV)} {E:Value→Shared→Prop}
theorem VRs.at {xs:Array Value} {j:Nat} {c:CV} (r:VRs w X μ h l xs.toList) (hc:l[j]?=some c) {zz:Prop} (kk:∀v,xs[j]?=some v→VR w X μ h c v→zz):zz:=by
 obtain ⟨v,hv,rv⟩:=VRs.get r hc
 exact kk v (by rw [← Array.getElem?_toList];exact hv) rv
theorem SubD.seq {j:Nat} (hs:seqOf σ o=some l) (hr:l[j]?=some r) (hb:l.length≤BIG):SubD d o (.int j) r σ:=⟨fun {g A X μ s ov iv value slice E Q} O hn R ro ⟨t,e⟩ K=>seqOf_at R ro hs fun a xs n S=>by
 refine S.r.at hr fun v hv rv=>?_
 have lt:=(List.getElem?_eq_some_iff.mp hr).1
 have hb:=big_int hb
 rw [S.e,e]
 refine S.at_.elim (fun g=>tail_any (T:="tuple") ⟨_,g,rfl⟩ slot_tuple_getitem.lookup hn (getItem_tuple (items:=xs) (j:=j) ⟨_,g,rfl,n,rfl⟩ (by lia) (by lia) (seqIndex_nat (VRs.size S.r▸lt)) hv (K _ _ _ (.now R rv)))) fun g=>
  tail_any (T:="list") ⟨_,g,rfl⟩ slot_list_getitem.lookup hn (wpAny_getItem_list (items:=xs) ⟨_,g,rfl,n,rfl⟩ (by lia) (by lia) hv (K _ _ _ (.now R rv)))⟩
theorem SubD.last (hs:listOf σ o=some l) (hr:l[l.length - 1]?=some r) (hb:l.length≤BIG):SubD d o (.int (-1)) r σ:=⟨fun {g A X μ s ov iv value slice E Q} O hn R ro ⟨t,e⟩ K=>listOf_at R ro hs fun a xs n e2 gl rs=>by
 refine rs.at hr fun v hv rv=>?_
 have lt:=(List.getElem?_eq_some_iff.mp hr).1
 have hz:=VRs.size rs
 rw [e2,e]
 exact tail_any (T:="list") ⟨_,gl,rfl⟩ slot_list_getitem.lookup hn (wpAny_getItem_list_neg (items:=xs) ⟨_,gl,rfl,n,rfl⟩ (by lia) (by lia) (by lia) (by rw [show (-1+(xs.size:Int)).toNat=l.length - 1 by lia];exact hv) (K _ _ _ (.now R rv)))⟩
theorem SubD.str {x:Str} {j:Nat} {c:Nat} (hr:x.cps[j]?=some c) (hb:x.cps.size≤BIG):SubD d (.str x) (.int j) (.str ⟨#[c]⟩) σ:=⟨fun {g A X μ s ov iv value slice E Q} O hn R w33 w34 K=>by
 obtain ⟨t,e⟩:=w33
 obtain ⟨t',e'⟩:=w34
 have lt:=(Array.getElem?_eq_some_iff.mp hr).1
 have hb:=big_int hb
 rw [e,e']
 refine tail_any (T:="str") (typeIs_str s x t) slot_str_getitem.lookup hn (PyProof.Rows.getItem_str (c:=c) ?_ ?_ (K _ _ _ (.tok R _ ⟨_,rfl⟩)))
 ·rw [Bool.or_eq_false_iff,decide_eq_false_iff_not,decide_eq_false_iff_not]
  lia
 ·show (seqIndex? j x.cps.size).bind (x.cps[·]?)=some c
  rw [seqIndex_nat lt,Option.bind_some]
  exact hr⟩
theorem SubD.dict (he:dictOf σ o=some es) (hk:keyIn i es=true) (hf:findK es i=some r):SubD d o i r σ:=⟨fun {g A X μ s ov iv value slice E Q} O hn R ro ri K=>by
 refine dictOf_dec R ro he fun a ds n e D=>?_
 rw [e]
 exact tail_any D.type slot_dict_getitem.lookup hn (get_dict O D ri hk hf fun u t ru=>K _ _ _ (.tok R _ ru))⟩
theorem CmpD.isinK (he:dictOf σ o=some es) (hk:keyIn i es=true):CmpD d .isin i o (hasK es i) σ:=⟨fun O R ra rb q=>by
 refine dictOf_dec R rb he fun a ds n e D=>?_
 rw [e]
 exact (in_dict O D ra hk).1 q⟩
theorem CmpD.notinK (he:dictOf σ o=some es) (hk:keyIn i es=true):CmpD d .notin i o (!hasK es i) σ:=⟨fun O R ra rb q=>by
 refine dictOf_dec R rb he fun a ds n e D=>?_
 rw [e]
 exact (in_dict O D ra hk).2 q⟩
theorem CmpD.isinS {x y:Str}:CmpD d .isin (.str x) (.str y) (!(Builtin.Str.occurrences y x 0 y.length 1).isEmpty) σ:=⟨fun O R w31 w32 q=>by
 obtain ⟨ξ,e⟩:=w31
 obtain ⟨ξ,e'⟩:=w32
 rw [e,e']
 exact PyProof.Rows.in_str (q _)⟩
end
section
variable {d:Nat} {ρ:Loc} {σ σ₁ σ₂ σ₃:CSt} {c o i:CE} {u v r:CV} {l:List CV}
theorem Does.sub (So:Does d o ρ σ u σ₁) (Si:Does d i ρ σ₁ v σ₂) (T:SubD d u v r σ₂):Does d (.sub o i) ρ σ r σ₂:=⟨fun {e g A x μ s E Q} ok C K=>by
 refine an3 ok fun h1 h2 o1 o2=>?_
 rw [tgE h1]
 exact Subscript_ (So.go o1 C fun ov s₁ μ₁ n=>Si.go o2 (C.next n.toNx) fun iv s₂ μ₂ m=>T.go C.O ((Bool.not_eq_true' _).mp (an h2).2) m.R (VR.mono m.kp _ n.r) m.r fun ξ ξ ξ k=>K _ _ _ (n.toNx.and (m.toNx.and k)))⟩
theorem bound_none {w:World} {A:Around} {E:Value→Shared→Prop} {s:Shared} {env:Env} {e:Option Expr} {Q:Value→Shared→Prop} (h:okBound e none=true) (q:Q .none s):wpAny (model pw w) A (evalPart e env) Q E s:=by
 cases e with
 | none=>exact wpAny_pure q
 | some e=>cases h
theorem bound_some {w:World} {A:Around} {E:Value→Shared→Prop} {s:Shared} {env:Env} {e:Option Expr} {i:Int} {Q:Value→Shared→Prop} (h:okBound e (some i)=true) (q:∀t,Q (.int i t) { s with toks:=s.toks+1 }):wpAny (model pw w) A (evalPart e env) Q E s:=by
 cases e with
 | none=>cases h
 | some e=>
  refine an1 h fun h1 h2=>?_
  rw [tgE h1,evalPart_some]
  show wpAny _ _ (eval (.Constant _ _ _) _) _ _ _
  rw [of_decide_eq_true h2]
  exact wpAny_Constant_int (q _)
theorem Does.slT {a:Nat} (So:Does d o ρ σ (.tup l) σ₁) (ha:1≤a) (hb:a≤l.length) (hz:l.length≤BIG):Does d (.slice o (some (.ofNat a)) none) ρ σ (.tup (l.drop a)) σ₁:=⟨fun {e g A x μ s E Q} ok C K=>by
 refine an4 ok fun h1 h2 h3 h4 ok=>?_
 rw [tgE h1]
 show wpAny _ _ (eval (.Subscript _ (view e).y _) _) _ _ _
 rw [tgE h2]
 refine Subscript_ (So.go ok C fun ov s₁ μ₁ n=>wpAny_Slice (bound_some h3 fun t=>bound_none h4 (wpAny_pure ?_)))
 obtain ⟨ad,xs,n',e',g,nf,nx,rs⟩:=id n.r
 generalize hob:({ cls:=.type "slice",data:=.fields #[.int (Int.ofNat a) t,.none,.none] }:Obj)=ob
 have hsl:Heap.IsSliceOf (s₁.heap.push ob) s₁.heap.objs.size (.int (Int.ofNat a) t) .none .none:=hob▸Heap.IsSliceOf.new ..
 have g':(s₁.heap.push ob).get? ad=some (tupO xs n'):=Heap.get?_push_of_some _ g
 have hxs:=VRs.size rs
 rw [e']
 have N:Nx _ x.X μ₁ s₁ σ₁ { s₁ with heap:=s₁.heap.push ob,toks:=s₁.toks+1 } μ₁:=.push n.R ob _
 exact tail_any (T:="tuple") (o:=.ref ad) (s:={ s₁ with heap:=s₁.heap.push ob,toks:=s₁.toks+1 }) ⟨_,g',rfl⟩ slot_tuple_getitem.lookup rfl
  (getItem_tuple_from (s:={ s₁ with heap:=s₁.heap.push ob,toks:=s₁.toks+1 }) (items:=xs) (a:=a) ⟨_,g',rfl,n',rfl⟩ hsl ha (by lia)
   (K _ _ _ (n.toNx.and (N.and (.newTup (xs:=(xs.toList.drop a).toArray) N.R (VRs.mono (Kp.push _) _ (rs.drop a)))))) (by rw [hxs];exact big_fits hz))⟩
theorem Does.slL {b:Nat} (So:Does d o ρ σ u σ₁) (hl:listOf σ₁ u=some l) (hz:l.length≤BIG):Does d (.slice o none (some (.ofNat b))) ρ σ (.lst (l.take b)) σ₁:=⟨fun {e g A x μ s E Q} ok C K=>by
 refine an4 ok fun h1 h2 h3 h4 ok=>?_
 rw [tgE h1]
 show wpAny _ _ (eval (.Subscript _ (view e).y _) _) _ _ _
 rw [tgE h2]
 refine Subscript_ (So.go ok C fun ov s₁ μ₁ n=>wpAny_Slice (bound_none h3 (bound_some h4 fun t=>wpAny_pure ?_)))
 refine listOf_at n.R n.r hl fun ad xs n' e' g rs=>?_
 generalize hob:({ cls:=.type "slice",data:=.fields #[.none,.int (Int.ofNat b) t,.none] }:Obj)=ob
 have hsl:Heap.IsSliceOf (s₁.heap.push ob) s₁.heap.objs.size .none (.int (Int.ofNat b) t) .none:=hob▸Heap.IsSliceOf.new ..
 have g':(s₁.heap.push ob).get? ad=some (lstO xs n'):=Heap.get?_push_of_some _ g
 have hxs:=VRs.size rs
 rw [e']
 have N:Nx _ x.X μ₁ s₁ σ₁ { s₁ with heap:=s₁.heap.push ob,toks:=s₁.toks+1 } μ₁:=.push n.R ob _
 refine tail_any (T:="list") (o:=.ref ad) (s:={ s₁ with heap:=s₁.heap.push ob,toks:=s₁.toks+1 }) ⟨_,g',rfl⟩ slot_list_getitem.lookup rfl
  (wpAny_getItem_list_slice (s:={ s₁ with heap:=s₁.heap.push ob,toks:=s₁.toks+1 }) (items:=xs) (lo:=Option.none) (hi:=some (Int.ofNat b)) (st:=Option.none) ⟨_,g',rfl,n',rfl⟩ hsl .none (.int ..) .none (by simp) ?_ (by rw [hxs];exact big_fits hz))
 rw [show slicePick xs Option.none (some (Int.ofNat b)) Option.none=(xs.toList.take b).toArray from slicePick_upto' xs b]
 exact K _ _ _ (n.toNx.and (N.and (.newLst (xs:=(xs.toList.take b).toArray) N.R (VRs.mono (Kp.push _) _ (rs.take b)))))⟩
end
theorem cls_sets (P:Params):((List.range 4).all fun c=>decide (findIn (KF P) (.ref (clsN c)) "__setattr__"=some (some (.builtin "object.__setattr__")))&&(plainOver (KF P) (clsN c)&&(List.range 17).all fun a=>decide (takerIn (KF P) (clsN c) (attrN a)=some none)))=true:=by kernel_rfl!
section
variable {w:World} {X:List Addr} {μ:Mu} {h:Heap} {A:Around} {E:Value→Shared→Prop} {s:Shared}
theorem set_item_list {l:Addr} {xs:Array Value} {n:Nat} {k:Int} {t:Tok} {v:Value} {Q:Unit→Shared→Prop} (hl:s.heap.get? l=some (lstO xs n)) (h0:0≤k) (hn:k<xs.size) (hb:xs.size≤BIG)
  (hQ:∀h' n',h'.get? l=some (lstO (xs.setIfInBounds k.toNat v) n')→Heap.SameBut l s.heap h'→Q () { s with heap:=h' }):wpAny (model pw w) A (setItem (.ref l) (.int k t) v) Q E s:=by
 have hb':=big_int hb
 have hfit:Builtin.List.listFitsIndex k=true:=fitsIndex_of h0 (by lia)
 have hT:s.TypeIs (.ref l) "list":=⟨_,hl,rfl⟩
 unfold setItem
 refine wpAny_holding ?_
 refine wpAny_bind (wpAny_sequenceKey hT (by decide) ?_)
 refine wpAny_bind (wpAny_callSpecial?_slot (name:=Str.ofString "__setitem__") hT slot_list_setitem
  (wpAny_call_entry slot_list_setitem hT entry_list_setitem ?_ (args_list_setitem _ _ _)))
 show wpAny _ _ (Builtin.List.listSubscript? (.int k t) >>= _) _ _ s
 refine wpAny_bind (wpAny_listSubscript_int hfit ?_)
 clear hfit hb'
 obtain ⟨j,rfl⟩:=Int.eq_ofNat_of_zero_le h0
 have hj:j<xs.size:=by lia
 have hx':xs[j]?=some xs[j]:=Array.getElem?_eq_getElem hj
 show wpAny _ _ ((seqItemAt l j >>= fun r=>pure (r.map (j,·))) >>= _) _ _ s
 refine wpAny_bind (wpAny_bind (wpAny_seqItemAt hl rfl (wpAny_pure ?_)))
 rw [hx']
 show wpAny _ _ (setSeqItemAt l j v >>= _) _ _ s
 have hfin:=IsL.update (show IsL s.heap l xs n from hl) (·.setIfInBounds j v)
 refine wpAny_bind (wpAny_setSeqItemAt hl rfl ?_)
 first
  | exact wpAny_bind (wpAny_pure (wpAny_pure ⟨.none,rfl,wpAny_pure (hQ _ _ hfin (Heap.SameBut.update ..))⟩))
  | exact wpAny_pure ⟨.none,rfl,wpAny_pure (hQ _ _ hfin (Heap.SameBut.update ..))⟩
theorem VRs.set:∀{cs:List CV} {vs:List Value} {i:Nat} {c:CV} {v:Value},VRs w X μ h cs vs→VR w X μ h c v→VRs w X μ h (cs.set i c) (vs.set i v):=by
 intro l90
 induction l90 with
 | nil=>
  intro l91
  cases l91 with
  | nil=>
   intro ξ ξ ξ ξ ξ
   exact trivial
  | cons ξ ξ=>
   intro ξ ξ ξ r ξ
   exact r.elim
 | cons ξ ξ ih=>
  intro l92
  cases l92 with
  | nil=>
   intro ξ ξ ξ r ξ
   exact r.elim
  | cons ξ ξ=>
   intro l93
   cases l93 with
   | zero=>
    intro ξ ξ r q
    exact ⟨q,r.2⟩
   | succ i=>
    intro ξ ξ r q
    exact ⟨r.1,ih (i:=i) r.2 q⟩
theorem ARs.put {a:Nat} {v:CV} {u:Value} {t:Tok} {hs:Int} (ha:a<17) (rv:VR w X μ h v u):∀{fs:List (Nat×CV)} {ds:List DictEntry},ARs w X μ h fs ds→ARs w X μ h (setAttrL fs a v) (putL (attrN a) hs (.str (attrN a) t) u ds):=by
 intro l94
 induction l94 with
 | nil=>
  intro l95
  cases l95 with
  | nil=>
   intro ξ
   exact ⟨⟨t,rfl⟩,ha,rv,trivial⟩
  | cons ξ ξ=>
   intro r
   exact r.elim
 | cons a96 fs ih=>
  obtain ⟨b,c⟩:=a96
  intro l97
  cases l97 with
  | nil=>
   intro r
   exact r.elim
  | cons e ds=>
   intro v98
   obtain ⟨⟨t',ht⟩,hb,r,rs⟩:=v98
   rw [setAttrL,putL,ht,isStr_attr hb ha]
   by_cases z:b=a
   ·rw [if_pos z,if_pos (decide_eq_true z)]
    exact ⟨⟨t',z▸rfl⟩,ha,rv,rs⟩
   ·rw [if_neg z,if_neg (by rw [decide_eq_false z];nofun)]
    exact ⟨⟨t',ht⟩,hb,r,ih rs⟩
theorem ARs.keysLt:∀{fs:List (Nat×CV)} {ds:List DictEntry},ARs w X μ h fs ds→∀x∈fs.map (·.1),x<17:=by
 intro l99
 induction l99 with
 | nil=>
  intro l100
  cases l100 with
  | nil=>
   intro ξ ξ m
   exact nomatch m
  | cons ξ ξ=>
   intro r ξ ξ
   exact r.elim
 | cons a101 fs ih=>
  obtain ⟨b,c⟩:=a101
  intro l102
  cases l102 with
  | nil=>
   intro r ξ ξ
   exact r.elim
  | cons e ds=>
   intro r x m
   exact (List.mem_cons.mp m).elim (fun q=>q▸r.2.1) (ih r.2.2.2 x)
theorem ARs.len:∀{fs:List (Nat×CV)} {ds:List DictEntry},ARs w X μ h fs ds→ds.length=fs.length:=by
 intro l103
 induction l103 with
 | nil=>
  intro l104
  cases l104 with
  | nil=>
   intro ξ
   exact rfl
  | cons ξ ξ=>
   intro r
   exact r.elim
 | cons a105 fs ih=>
  obtain ⟨b,c⟩:=a105
  intro l106
  cases l106 with
  | nil=>
   intro r
   exact r.elim
  | cons e ds=>
   intro r
   exact congrArg (·+1) (ih r.2.2.2)
theorem setAttrL_mem {a:Nat} {v:CV}:∀{fs:List (Nat×CV)} {x:Nat},x∈(setAttrL fs a v).map (·.1)→x=a∨x∈fs.map (·.1):=by
 intro l107
 induction l107 with
 | nil=>
  intro x m
  exact .inl (List.mem_singleton.mp m)
 | cons a108 fs ih=>
  obtain ⟨b,c⟩:=a108
  intro x m
  rw [setAttrL] at m
  by_cases e:b=a
  ·rw [if_pos e] at m
   exact (List.mem_cons.mp m).imp id (.tail _)
  ·rw [if_neg e] at m
   exact (List.mem_cons.mp m).elim (fun e=>.inr (e▸.head _)) fun m=>(ih m).imp id (.tail _)
theorem setAttrL_nodup {a:Nat} {v:CV}:∀{fs:List (Nat×CV)},(fs.map (·.1)).Nodup→((setAttrL fs a v).map (·.1)).Nodup:=by
 intro l109
 induction l109 with
 | nil=>
  intro ξ
  exact List.nodup_cons.mpr ⟨nofun,.nil⟩
 | cons a110 fs ih=>
  obtain ⟨b,c⟩:=a110
  intro nd
  obtain ⟨n1,n2⟩:=List.nodup_cons.mp nd
  rw [setAttrL]
  by_cases e:b=a
  ·rw [if_pos e];exact e▸nd
  ·rw [if_neg e]
   exact List.nodup_cons.mpr ⟨fun m=>(setAttrL_mem m).elim e n1,ih n2⟩
theorem osa_own {K:Frag} {x C dx:Addr} {name:Str} {tk:Tok} {v:Value} {ds:List DictEntry} {n:Nat} {RR:Result→Shared→Prop} (XK:K.In s.heap) (hx:s.heap.get? x=some (instObj C dx)) (D:s.heap.get? dx=some (PySem.W.dictOf ds n)) (hp:plainOver K C=true) (ht:takerIn K C name=some none) (hh:(clsIn K C).any (·.hasDict)=true)
  (hr:ds.any (·.refKey)=false) (hz:(putL name (PyData.keyHash w.params name) (.str name s.toks) v ds).length≤1000)
  (h:∀h',Heap.SameBut dx s.heap h'→h'.get? dx=some (PySem.W.dictOf (putL name (PyData.keyHash w.params name) (.str name s.toks) v ds) (putN name ds n))→RR (.ok (.ret .none)) { s with heap:=h',toks:=s.toks+1 }) :
  codeAny (model pw w) A (.call (.builtin "object.__setattr__") ⟨[.ref x,.str name tk,v],[]⟩) RR s:=by
 refine osa_open XK (show InstAt s.heap x (instObj C dx) C (some (PySem.W.dictOf ds n)) from ⟨hx,rfl,rfl,D⟩) hp ht fun b=>?_
 obtain ⟨cd,hc,hd'⟩:=any_some hh
 refine wpAny_bind (wpAny_pure (wpAny_bind (wpAny_bind (wpAny_loadPart hx (wpAny_bind ((looks_clsIn XK hc).here ?_))))))
 rw [hd']
 refine wpAny_pure (a:=some dx) (wpAny_bind (wpAny_pure (wpAny_bind ?_)))
 unfold nsSet
 refine wpAny_bind (wpAny_bind (wpAny_askSetting (wpAny_pure (wpAny_bind (wpAny_mkText (wpAny_bind (wpAny_loadPart D ?_)))))))
 dsimp only
 have c:(!ds.toArray.any (·.key.isStr name)&&ds.toArray.any (·.refKey))=false:=by
  rw [List.any_toArray,List.any_toArray,hr,Bool.and_false]
 rw [aRefKeyMayBeTheName_at,c]
 refine wpAny_updatePart D ?_
 have D':(s.heap.update dx (Obj.putName name (PyData.keyHash w.params name) (.str name s.toks) v)).get? dx=some (PySem.W.dictOf (putL name (PyData.keyHash w.params name) (.str name s.toks) v ds) (putN name ds n)):=by
  rw [← putName_dict]
  exact Heap.get?_update_self _ D (by rw [putName_dict];rfl)
 exact wpAny_bind (wpAny_lookBehind D' (pastItsLine_dict (by rw [List.size_toArray,sizeLine_eq];lia)) (wpAny_pure (h _ (Heap.SameBut.update ..) D')))
end
structure StoreD (d:Nat) (o i v:CV) (σ σ':CSt):Prop where
 go:∀{g:Gx} {A:Around} {X:List Addr} {μ:Mu} {s:Shared} {ov iv vv:Value} {E:Value→Shared→Prop} {Q:Unit→Shared→Prop},OkA A d→Rel g.w g.base X μ σ s.heap→VR g.w X μ s.heap o ov→VR g.w X μ s.heap i iv→VR g.w X μ s.heap v vv→
  (∀s',Nx g X μ s σ' s' μ→Q () s')→wpAny (model pw g.w) A (setItem ov iv vv) Q E s
section
variable {g:Gx} {A:Around} {X:List Addr} {μ:Mu} {s:Shared} {d:Nat} {σ:CSt} {o i v:CV} {l:List CV} {es:List (CV×CV)} {E:Value→Shared→Prop}
theorem Nx.store {a:Nat} {p:Addr×Addr} {o':CObj} {h':Heap} {tk:Nat} {ob:Obj} (R:Rel g.w g.base X μ σ s.heap) (hp:μ[a]?=some p) (h2:p.2=p.1) (hs:Heap.SameBut p.1 s.heap h') (hob:h'.get? p.1=some ob)
  (n:Kp X μ s.heap X μ h'→OR g.w X μ h' p o'):Nx g X μ s (σ.set a o') { s with heap:=h',toks:=tk } μ:=
 ⟨St.set hp fun b o e n1 ξ=>hs.extBut b o n1 e,R.set hp (fun b o e n1 ξ=>hs.extBut b o n1 e) ⟨⟨_,hob⟩,ob,by rw [h2];exact hob⟩ n⟩
theorem StoreD.list {a j:Nat} (ho:σ[a]?=some (.list l)) (hj:j<l.length) (hb:l.length≤BIG):StoreD d (.ref a) (.int j) v σ (σ.set a (.list (l.set j v))):=⟨fun {g A X μ s ov iv vv E Q} O R w37 w38 rv K=>by
 obtain ⟨p,hp,e⟩:=w37
 obtain ⟨t,e'⟩:=w38
 obtain ⟨h2,xs,n,g',rs⟩:=R.obj a p _ hp ho
 have hz:=VRs.size rs
 rw [e,e']
 exact set_item_list g' (Int.natCast_nonneg j) (by lia) (hz▸hb) fun h' n' hg hs=>K _ (.store (tk:=s.toks) R hp h2 hs hg fun kp=>⟨h2,_,_,hg,by rw [Array.toList_setIfInBounds];exact VRs.set (VRs.mono kp _ rs) (VR.mono kp _ rv)⟩)⟩
theorem StoreD.dict {a ep:Nat} (ho:σ[a]?=some (.dict es ep)) (hk:keyIn i es=true) (hz:es.length<BIG):StoreD d (.ref a) i v σ (σ.set a (.dict (setK es i v) (if hasK es i then ep else ep+1))):=⟨fun {g A X μ s ov iv vv E Q} O R w36 ri rv K=>by
 obtain ⟨p,hp,e⟩:=w36
 obtain ⟨h2,sm,ds,g',rs,nd⟩:=R.obj a p _ hp ho
 rw [e]
 exact set_item_dict O ⟨g',sm,rs,nd⟩ ri hk rv (big_fits (Nat.le_of_lt hz)) fun h' ds' t hs hg hd=>K _ (.store R hp h2 hs hg fun kp=>⟨h2,sm,ds',hg,DRs.mono kp _ hd,setK_nodup nd⟩)⟩
theorem nodup_lt:∀(n:Nat) (l:List Nat),l.Nodup→(∀x∈l,x<n)→l.length≤n:=by
 intro l6
 induction l6 with
 | zero=>
  intro l7
  cases l7 with
  | nil=>
   intro ξ ξ
   exact Nat.le_refl _
  | cons x ξ=>
   intro ξ h
   exact absurd (h x (.head _)) (Nat.not_lt_zero _)
 | succ n ih=>
  intro l nd h
  have h1:=ih (l.erase n) (nd.erase n) fun x m=>by
   have:=(List.Nodup.mem_erase_iff nd).mp m
   have:=h x this.2
   lia
  rw [List.length_erase] at h1
  split at h1<;>lia
theorem set_attr {i c a:Nat} {fs:List (Nat×CV)} {p:Addr×Addr} {v:CV} {u:Value} {Q:Unit→Shared→Prop} (B:Bs g) (R:Rel g.w g.base X μ σ s.heap) (hp:μ[i]?=some p) (ho:σ[i]?=some (.inst c fs)) (ha:a<17) (rv:VR g.w X μ s.heap v u)
  (K:∀s',Nx g X μ s (σ.set i (.inst c (setAttrL fs a v))) s' μ→Q () s'):wpAny (model pw g.w) A (setAttr (.ref p.1) (attrN a) u) Q E s:=by
 obtain ⟨hne,hc,gp,fl,ds,n,g2,rs,nd⟩:=R.obj i p _ hp ho
 refine an2 (all_lt (cls_sets g.w.params) hc) fun H1 H2 H3=>?_
 have nd':=setAttrL_nodup (a:=a) (v:=v) nd
 have put:=ARs.put (hs:=PyData.keyHash g.w.params (attrN a)) (t:=s.toks+1) ha rv rs
 have len:=nodup_lt 17 _ nd' (ARs.keysLt put)
 rw [List.length_map] at len
 have I:InstAt s.heap p.1 (instObj (clsN c) p.2) (clsN c) (some (PySem.W.dictOf ds.toList n)):=⟨gp,rfl,rfl,g2⟩
 refine set_plain (R.bs B).1 I (of_decide_eq_true H1) (osa_own (s:={ s with toks:=s.toks+1 }) (R.bs B).1 gp g2 H2 (of_decide_eq_true (all_lt H3 ha)) (an (all_lt (cls_attrs g.w.params) hc)).1 rs.noRef (by rw [ARs.len put];lia) fun h' hs' D'=>?_)
 have kf:∀b o,s.heap.get? b=some o→b≠p.2→h'.get? b=some o:=fun b o e nb=>hs'.extBut b o nb e
 have gp':=kf _ _ gp hne
 exact K _ ⟨St.set (tk:=s.toks+2) hp fun b o e ξ nb=>kf b o e nb,R.set hp (fun b o e ξ nb=>kf b o e nb) ⟨⟨_,gp'⟩,⟨_,D'⟩⟩ fun kp=>⟨hne,hc,gp',len,_,_,D',ARs.mono kp _ put,nd'⟩⟩
end
section
variable {d:Nat} {ρ:Loc} {σ σ₁ σ₂ σ₃ σ₄:CSt} {c o i:CE} {v u k:CV}
theorem ExD.assignS (S:Does d c ρ σ v σ₁) (So:Does d o ρ σ₁ u σ₂) (Si:Does d i ρ σ₂ k σ₃) (T:StoreD d u k v σ₃ σ₄) (p:(cTag c==10||cTag c==97)=false):ExD d (.assignS o i c) ρ σ .next ρ σ₄:=⟨fun {st g A x μ s E Q} ok he C K=>by
 refine an5 ok fun h1 h2 h3 oc oo oi=>?_
 rw [tgSE h1]
 show wpAny _ _ (exec (.Assign [(viewS st).x] _ _) _) _ _ _
 rw [arm_exec_Assign]
 refine wpAny_bind (wpAny_standAt ?_)
 show wpAny _ A (swapsWith (viewS st).y (some (viewS st).x) (viewS st).p.line x.env >>= _) _ E s
 rw [swaps_no (okE_tag oc) p]
 refine wpAny_bind (wpAny_pure (wpAny_bind (S.go oc C fun u s₁ μ₁ n=>?_)))
 rw [tgE h2]
 refine wpAny_bind (wpAny_pure ?_)
 show wpAny _ A (PySem.assign (.Subscript (view (viewS st).x).x (view (viewS st).x).y (view (viewS st).x).p) x.env u >>= fun ξ=>pure Flow.next) _ E s₁
 refine wpAny_bind ?_
 rw [arm_assign_Subscript]
 exact wpAny_bind (wpAny_holding (So.go oo (C.next n.toNx) fun ov s₂ μ₂ m=>wpAny_bind (wpAny_holding (Si.go oi ((C.next n.toNx).next m.toNx) fun iv s₃ μ₃ k=>wpAny_bind (wpAny_standAt (wpAny_bind (wpAny_holding (T.go C.O k.R (VR.mono k.kp _ m.r) k.r (VR.mono k.kp _ (VR.mono m.kp _ n.r)) fun s₄ z=>wpAny_release' (wpAny_pure (K _ _ _ (C.sx (n.toNx.trans (m.toNx.trans (k.toNx.trans z)))) rfl))))))))))⟩
theorem ExD.assignA {a j cc:Nat} {fs:List (Nat×CV)} (S:Does d c ρ σ v σ₁) (So:Does d o ρ σ₁ (.ref j) σ₂) (hj:σ₂[j]?=some (.inst cc fs)) (ha:Nat.blt a 17=true) (p:(cTag c==10||cTag c==97)=false):ExD d (.assignA o a c) ρ σ .next ρ (σ₂.set j (.inst cc (setAttrL fs a v))):=⟨fun {st g A x μ s E Q} ok he C K=>by
 refine an4 ok fun h1 h2 h3 oc oo=>?_
 rw [tgSE h1]
 show wpAny _ _ (exec (.Assign [(viewS st).x] _ _) _) _ _ _
 rw [arm_exec_Assign]
 refine wpAny_bind (wpAny_standAt ?_)
 show wpAny _ A (swapsWith (viewS st).y (some (viewS st).x) (viewS st).p.line x.env >>= _) _ E s
 rw [swaps_no (okE_tag oc) p]
 refine wpAny_bind (wpAny_pure (wpAny_bind (S.go oc C fun u s₁ μ₁ n=>?_)))
 rw [tgE h2]
 refine wpAny_bind (wpAny_pure ?_)
 show wpAny _ A (PySem.assign (.Attribute (view (viewS st).x).x (view (viewS st).x).s (view (viewS st).x).p) x.env u >>= fun ξ=>pure Flow.next) _ E s₁
 refine wpAny_bind ?_
 rw [of_decide_eq_true h3,arm_assign_Attribute]
 refine wpAny_bind (wpAny_holding (So.go oo (C.next n.toNx) fun ov s₂ μ₂ m=>?_))
 obtain ⟨q,hq,e⟩:=m.r
 rw [e]
 exact wpAny_bind (wpAny_standAt (wpAny_bind (wpAny_holding (set_attr C.B m.R hq hj (Nat.le_of_ble_eq_true ha) (VR.mono m.kp _ n.r) fun s₃ z=>wpAny_release' (wpAny_pure (K _ _ _ (C.sx (n.toNx.trans (m.toNx.trans z))) rfl))))))⟩
theorem ExD.expr (S:Does d c ρ σ v σ₁):ExD d (.expr c) ρ σ .next ρ σ₁:=⟨fun {st g A x μ s E Q} ok he C K=>by
 refine an2 ok fun h1 oc h2=>?_
 have hi:interactive x.env=false:=by unfold interactive;rw [C.kind.1];rfl
 rw [tgSE h1]
 show wpAny _ _ (exec (.Expr _ _) _) _ _ _
 rw [exec_Expr x.env _ _ hi (swaps_no h2 rfl _ _ _)]
 exact wpAny_bind (wpAny_standAt (wpAny_bind (S.go oc C fun u s₁ μ₁ n=>wpAny_dropValue (K _ _ _ (C.sx n.toNx) rfl))))⟩
theorem RunD.expr {cs:List CS} {fl:Fl} {ρ':Loc} (S:Does d c ρ σ v σ₁) (T:RunD d cs ρ σ₁ fl ρ' σ₂):RunD d (.expr c::cs) ρ σ fl ρ' σ₂:=.next (.expr S) T
end
section
variable {A:Around} {E:Value→Shared→Prop} {s:Shared}
theorem draw_list {prog:Program} {it t:Addr} {items:Array Value} (hne:t≠it):∀(n i:Nat) (s:Shared) (Q:List Value→Shared→Prop),s.heap.IsListIter it t i→s.heap.IsList t items→i+n≤items.size→
  (∀h',h'.IsListIter it t (i+n)→Heap.SameBut it s.heap h'→Q ((items.toList.drop i).take n) { s with heap:=h' })→wpAny (model prog w) A (draw (.ref it) n) Q E s:=by
 intro l1
 induction l1 with
 | zero=>
  intro i s Q hit ξ ξ hQ
  show wpAny _ _ (pure []) Q E s
  exact wpAny_pure (by simpa using hQ s.heap hit (Heap.SameBut.refl ..))
 | succ n ih=>
  intro i s Q hit ht hle hQ
  have hlt:i<items.size:=by lia
  show wpAny _ _ (pyNext (.ref it) >>= _) Q E s
  refine wpAny_bind (wpAny_pyNext_list_item hit ht (x:=items[i]) (by simp [hlt]) fun h₁ hit₁ hs₁=>?_)
  refine wpAny_bind (wpAny_holding (ih (i+1) _ _ hit₁ (ht.extBut hs₁.extBut hne) (by lia) fun h₂ hit₂ hs₂=>wpAny_pure ?_))
  have hd:items.toList.drop i=items[i]::items.toList.drop (i+1):=by simp [List.drop_eq_getElem_cons,hlt]
  have:=hQ h₂ (by rw [show i+(n+1)=i+1+n by lia];exact hit₂) (hs₁.trans hs₂)
  rw [hd,List.take_succ_cons] at this
  exact this
theorem unpackItems_list {prog:Program} {t:Addr} {items:Array Value} {Q:List Value→Shared→Prop} (hh:A.handled=none) (ht:s.heap.IsList t items)
  (hQ:∀h',Heap.ExtBut s.heap.objs.size s.heap h'→Q items.toList { s with heap:=h' }):wpAny (model prog w) A (unpackItems (.ref t) items.size none) Q E s:=by
 have hlt:t≠s.heap.objs.size:=by obtain ⟨o,ho,ξ⟩:=ht;exact Nat.ne_of_lt (Heap.lt_size ho)
 unfold unpackItems
 refine wpAny_bind ?_
 ·unfold notIterableAtAll
  refine wpAny_bind (wpAny_specialOf ht.typeIs slot_list_iter.lookup ?_)
  refine wpAny_pure ?_
  rw [if_neg Bool.false_ne_true]
  refine wpAny_bind (wpAny_holding (wpAny_pyIter_list ht ?_))
  refine wpAny_bind (wpAny_holding (draw_list hlt items.size 0 _ _ ⟨_,Heap.get?_push_size _ rfl,rfl,rfl⟩ (ht.push _) (by lia) fun h₁ hit₁ hs₁=>?_))
  have hall:List.take items.size (List.drop 0 items.toList)=items.toList:=by
   rw [List.drop_zero];exact List.take_of_length_le (by simp)
  rw [hall]
  rw [if_neg (by simp)]
  have ht₁:h₁.IsList t items:=(ht.push _).extBut hs₁.extBut hlt
  refine wpAny_bind (wpAny_holding (wpAny_pyNext_list_end hh hit₁ ht₁ (by simp) fun h₂ he₂=>?_))
  rw [show (none:Option Value).isSome=false from rfl,if_neg Bool.false_ne_true]
  refine wpAny_pure (hQ h₂ fun b o hb e=>he₂ b o hb (hs₁.extBut b o hb (Heap.get?_push_of_some _ e)))
theorem ext_size {h h':Heap} (he:Heap.ExtBut h.objs.size h h'):∀b o,h.get? b=some o→h'.get? b=some o:=fun b o e=>he b o (fun q=>by subst q;exact not_none e (get_size h)) e
end
theorem bindAll_length:∀{is:List Nat} {cs:List CV} {ρ ρ':Loc},bindAll ρ is cs=some ρ'→is.length=cs.length:=by
 intro l113
 induction l113 with
 | nil=>
  intro l114
  cases l114 with
  | nil=>
   intro ξ ξ ξ
   exact rfl
  | cons ξ ξ=>
   intro ξ ξ h
   cases h
 | cons ξ is ih=>
  intro l115
  cases l115 with
  | nil=>
   intro ξ ξ h
   cases h
  | cons ξ cs=>
   intro ξ ξ h
   exact congrArg (·+1) (ih h)
theorem upd_comm {ρ:Loc} {i j:Nat} {u v:CV} (h:i≠j):upd (upd ρ i v) j u=upd (upd ρ j u) i v:=by
 funext y
 unfold upd
 by_cases a:y=j
 ·rw [if_pos a]
  by_cases b:y=i
  ·exact absurd (b.symm.trans a) h
  ·rw [if_neg b,if_pos a]
 ·rw [if_neg a]
  by_cases b:y=i
  ·rw [if_pos b,if_pos b]
  ·rw [if_neg b,if_neg b,if_neg a]
theorem bindAll_late:∀{is:List Nat} {cs:List CV} {ρ ρ':Loc} {i:Nat} {c:CV},i∉is→bindAll (upd ρ i c) is cs=some ρ'→∃ρ₁,bindAll ρ is cs=some ρ₁∧ρ'=upd ρ₁ i c:=by
 intro l116
 induction l116 with
 | nil=>
  intro l117
  cases l117 with
  | nil=>
   intro ρ ξ ξ ξ ξ h
   cases h;exact ⟨ρ,rfl,rfl⟩
  | cons ξ ξ=>
   intro ξ ξ ξ ξ ξ h
   cases h
 | cons j is ih=>
  intro l118
  cases l118 with
  | nil=>
   intro ξ ξ ξ ξ ξ h
   cases h
  | cons u cs=>
   intro ρ ρ' i c n h
   have h':bindAll (upd (upd ρ i c) j u) is cs=some ρ':=h
   have ne:i≠j:=fun e=>n (by rw [e];exact .head _)
   rw [upd_comm ne] at h'
   exact ih (fun m=>n (.tail _ m)) h'
theorem bindAll_snoc:∀{is:List Nat} {cs:List CV} {ρ ρ₁:Loc} {i:Nat} {c:CV},bindAll ρ is cs=some ρ₁→bindAll ρ (is++[i]) (cs++[c])=some (upd ρ₁ i c):=by
 intro l119
 induction l119 with
 | nil=>
  intro l120
  cases l120 with
  | nil=>
   intro ξ ξ ξ ξ h
   cases h;rfl
  | cons ξ ξ=>
   intro ξ ξ ξ ξ h
   cases h
 | cons ξ is ih=>
  intro l121
  cases l121 with
  | nil=>
   intro ξ ξ ξ ξ h
   cases h
  | cons ξ cs=>
   intro ξ ξ ξ ξ h
   exact ih (cs:=cs) h
theorem bindAll_rev:∀{is:List Nat} {cs:List CV} {ρ ρ':Loc},is.Nodup→bindAll ρ is cs=some ρ'→bindAll ρ is.reverse cs.reverse=some ρ':=by
 intro l122
 induction l122 with
 | nil=>
  intro l123
  cases l123 with
  | nil=>
   intro ξ ξ ξ h
   exact h
  | cons ξ ξ=>
   intro ξ ξ ξ h
   cases h
 | cons i is ih=>
  intro l124
  cases l124 with
  | nil=>
   intro ξ ξ ξ h
   cases h
  | cons c cs=>
   intro ρ ρ' n h
   obtain ⟨n1,n2⟩:=List.nodup_cons.mp n
   obtain ⟨ρ₁,h1,e⟩:=bindAll_late n1 (show bindAll (upd ρ i c) is cs=some ρ' from h)
   rw [List.reverse_cons,List.reverse_cons,e]
   exact bindAll_snoc (ih n2 h1)
theorem VRs.rev {w:World} {X:List Addr} {μ:Mu} {h:Heap}:∀{cs:List CV} {vs:List Value},VRs w X μ h cs vs→VRs w X μ h cs.reverse vs.reverse:=by
 intro l125
 induction l125 with
 | nil=>
  intro l126
  cases l126 with
  | nil=>
   intro ξ
   exact trivial
  | cons ξ ξ=>
   intro r
   exact r.elim
 | cons ξ ξ ih=>
  intro l127
  cases l127 with
  | nil=>
   intro r
   exact r.elim
  | cons ξ ξ=>
   intro r
   rw [List.reverse_cons,List.reverse_cons];exact VRs.append (ih r.2) ⟨r.1,trivial⟩
structure SetsN (x:Fx) (i:Nat) (f:Value→Sem Unit):Prop where
 go:∀{g:Gx} {A:Around} {d:Nat} {μ:Mu} {ρ:Loc} {σ:CSt} {s:Shared} {v:CV} {u:Value} {E:Value→Shared→Prop} {Q:Unit→Shared→Prop},Cx g A d x μ ρ σ s→VR g.w x.X μ s.heap v u→(∀s',Sx g x μ s (upd ρ i v) σ s' μ→Q () s')→wpAny (model pw g.w) A (f u) Q E s
noncomputable def SetsL (x:Fx):List Nat→List (Value→Sem Unit)→Prop
 | [],[]=>True
 | i::is,f::fs=>SetsN x i f∧SetsL x is fs
 | _,_=>False
section
variable {g:Gx} {A:Around} {d:Nat} {x:Fx} {μ:Mu} {σ:CSt} {s:Shared} {v:CV} {u:Value} {E:Value→Shared→Prop} {y:Str} {i:Nat} {p:Pos} {one:Bool} {t:Expr}
theorem SetsN.name (h:okSet x.fsc x.tbl y i=true):SetsN x i (assign (.Name y p) x.env):=⟨fun C r K=>assign_Name (store_sim C h r K)⟩
theorem SetsN.bind (h:okSet x.fsc x.tbl y i=true):SetsN x i (bindName x.env y):=⟨fun C r K=>wpAny_bindName (store_sim C h r K)⟩
theorem SetsL.snoc {f:Value→Sem Unit}:∀{is:List Nat} {fs:List (Value→Sem Unit)},SetsL x is fs→SetsN x i f→SetsL x (is++[i]) (fs++[f])
 | [],[],_,k=>⟨k,trivial⟩
 | [],_::_,h,_=>h.elim
 | _::_,[],h,_=>h.elim
 | _::_,_::_,h,k=>⟨h.1,h.2.snoc k⟩
theorem SetsL.rev:∀{is:List Nat} {fs:List (Value→Sem Unit)},SetsL x is fs→SetsL x is.reverse fs.reverse
 | [],[],_=>trivial
 | [],_::_,h=>h.elim
 | _::_,[],h=>h.elim
 | _::_,_::_,h=>by rw [List.reverse_cons,List.reverse_cons];exact h.2.rev.snoc h.1
theorem SetsL.len:∀{is:List Nat} {fs:List (Value→Sem Unit)},SetsL x is fs→fs.length=is.length
 | [],[],_=>rfl
 | [],_::_,h=>h.elim
 | _::_,[],h=>h.elim
 | _::_,_::_,h=>congrArg (·+1) h.2.len
theorem SetsL.go {Q:Unit→Shared→Prop}:∀{is:List Nat} {fs:List (Value→Sem Unit)} {cs:List CV} {us:List Value} {ρ ρ':Loc} {s:Shared},SetsL x is fs→bindAll ρ is cs=some ρ'→Cx g A d x μ ρ σ s→VRs g.w x.X μ s.heap cs us→
  (∀s',Sx g x μ s ρ' σ s' μ→Q () s')→wpAny (model pw g.w) A (assignInOrder fs us) Q E s:=by
 intro l2
 induction l2 with
 | nil=>
  intro l3
  cases l3 with
  | nil=>
   intro l4
   cases l4 with
   | nil=>
    intro l5
    cases l5 with
    | nil=>
     intro ξ ξ ξ ξ hb C ξ K
     exact wpAny_pure (a:=()) (K _ (Option.some.inj hb▸C.sx (.refl C.R)))
    | cons ξ ξ=>
     intro ξ ξ ξ ξ ξ ξ r ξ
     exact r.elim
   | cons ξ ξ=>
    intro ξ ξ ξ ξ ξ hb ξ ξ ξ
    exact nomatch hb
  | cons ξ ξ=>
   intro ξ ξ ξ ξ ξ h ξ ξ ξ ξ
   exact h.elim
 | cons i is ih=>
  intro l6
  cases l6 with
  | nil=>
   intro ξ ξ ξ ξ ξ h ξ ξ ξ ξ
   exact h.elim
  | cons f fs=>
   intro l7
   cases l7 with
   | nil=>
    intro ξ ξ ξ ξ ξ hb ξ ξ ξ
    exact nomatch hb
   | cons c cs=>
    intro l8
    cases l8 with
    | nil=>
     intro ξ ξ ξ ξ ξ ξ r ξ
     exact r.elim
    | cons u us=>
     intro ρ ρ' s h hb C r K
     exact wpAny_bind (wpAny_holding (h.1.go C r.1 fun s₁ n=>ih h.2 hb (C.then n) (VRs.mono n.kp _ r.2) fun s₂ m=>K _ (n.trans m)))
theorem okTargets_sets:∀{ts:List Expr} {is:List Nat},okTargets x.fsc x.tbl ts is=true→SetsL x is ((assignEach ts x.env).map (·.2))∧(assignEach ts x.env).findIdx? (·.1)=none:=by
 intro l128
 induction l128 with
 | nil=>
  intro l129
  cases l129 with
  | nil=>
   intro ξ
   exact ⟨trivial,rfl⟩
  | cons ξ ξ=>
   intro ok
   exact nomatch ok
 | cons t ts ih=>
  intro l130
  cases l130 with
  | nil=>
   intro ok
   have:=(an (an ok).2).1
   cases this
  | cons i is=>
   intro ok
   refine an3 ok fun h1 ξ h2 h3=>?_
   obtain ⟨a,b⟩:=ih (is:=is) h3
   rw [tgE h1]
   refine ⟨⟨SetsN.name h2,a⟩,?_⟩
   show ((false,assign (.Name _ _) x.env)::assignEach ts x.env).findIdx? (·.1)=none
   rw [List.findIdx?_cons,b];rfl
theorem Cx.more {h':Heap} {ρ:Loc} (C:Cx g A d x μ ρ σ s) (k:∀b o,s.heap.get? b=some o→h'.get? b=some o):Nx g x.X μ s σ { s with heap:=h' } μ:=⟨St.of_keeps (tk:=s.toks) k,C.R.keeps k⟩
theorem unpack_sim {ρ:Loc} {l:List CV} {n:Nat} {Q:List Value→Shared→Prop} (C:Cx g A d x μ ρ σ s) (r:VR g.w x.X μ s.heap v u) (h:seqOf σ v=some l) (hn:n=l.length)
  (K:∀s' us,GotL g x.X μ s σ l us s' μ→Q us s'):wpAny (model pw g.w) A (unpackItems u n none) Q E s:=seqOf_at C.R r h fun a xs n' S=>by
 rw [S.e,hn.trans (VRs.size S.r).symm]
 exact S.at_.elim (fun g=>unpackItems_tuple C.O.handled ⟨_,g,rfl,_,rfl⟩ fun h' he=>K _ _ ⟨C.more (ext_size he),VRs.mono (.of_keeps (ext_size he)) _ S.r⟩)
  fun g=>unpackItems_list C.O.handled ⟨_,g,rfl,_,rfl⟩ fun h' he=>K _ _ ⟨C.more (ext_size he),VRs.mono (.of_keeps (ext_size he)) _ S.r⟩
theorem target_sim {is:List Nat} {ρ ρ':Loc} {Q:Unit→Shared→Prop} (ok:okTarget x.fsc x.tbl t is one=true) (hb:bindT σ ρ is one v=some ρ') (C:Cx g A d x μ ρ σ s) (r:VR g.w x.X μ s.heap v u)
  (K:∀s',Sx g x μ s ρ' σ s' μ→Q () s'):wpAny (model pw g.w) A (assign t x.env u) Q E s:=by
 cases one with
 | true=>
  obtain ⟨a,b⟩:=okTargets_sets (x:=x) ok
  match is,hb,a with
  | [i],hb,a=>
   refine an2 ok fun h1 ξ ok=>?_
   rw [tgE h1]
   exact assign_Name (store_sim C (an ok).1 r fun s' n=>K _ (Option.some.inj hb▸n))
 | false=>
  refine an1 ok fun h1 ok=>?_
  obtain ⟨l,e1,e2⟩:=Option.bind_eq_some_iff.mp hb
  obtain ⟨a,b⟩:=okTargets_sets (x:=x) ok
  have len:=a.len
  rw [List.length_map] at len
  rw [tgE h1]
  show wpAny _ _ (assign (.Tuple _ _ _) _ _) _ _ _
  rw [arm_assign_Tuple]
  refine wpAny_bind (wpAny_standAt ?_)
  unfold unpack
  rw [b,len]
  exact wpAny_bind (wpAny_holding (unpack_sim C r e1 (bindAll_length e2) fun s₁ us n=>a.go e2 (C.next n.toNx) n.r fun s₂ m=>K _ ((C.sx n.toNx).trans m)))
theorem names_of {f:Expr→Option Str} (hf:∀x p y,f (.Name x p)=some y→y=x):∀{es:List Expr} {is:List Nat},okTargets x.fsc x.tbl es is=true→(es.filterMap f).length=es.length→SetsL x is ((es.filterMap f).map fun n=>bindName x.env n):=by
 intro l131
 induction l131 with
 | nil=>
  intro l132
  cases l132 with
  | nil=>
   intro ξ ξ
   exact trivial
  | cons ξ ξ=>
   intro ok ξ
   exact nomatch ok
 | cons t ts ih=>
  intro l133
  cases l133 with
  | nil=>
   intro ok ξ
   have:=(an (an ok).2).1
   cases this
  | cons i is=>
   intro ok hl
   refine an3 ok fun h1 ξ h2 h3=>?_
   rw [tgE h1] at hl⊢
   cases h:f (backT 1 (view t)) with
   | none=>
    rw [List.filterMap_cons_none h] at hl
    have:=List.length_filterMap_le f ts
    rw [hl] at this
    exact absurd this (Nat.not_succ_le_self _)
   | some y=>
    rw [List.filterMap_cons_some h] at hl⊢
    rw [hf _ _ y h]
    exact ⟨.bind h2,ih (is:=is) h3 (Nat.succ.inj hl)⟩
theorem ite_some {c:Prop} [Decidable c] {α:Type} {a b:α} (e:(if c then some a else none)=some b):a=b:=by
 by_cases h:c
 ·rw [if_pos h] at e;exact Option.some.inj e
 ·rw [if_neg h] at e;cases e
theorem swapped_sim {es:List Expr} {k:Nat} {w:Expr} {is:List Nat} {M:Model} {Q:Option (List Str)→Shared→Prop} (ok:okTargets x.fsc x.tbl es is=true) (hsw:okSwap w=true)
  (h0:Q none s) (h1:∀xs:List Str,SetsL x is (xs.map fun n=>bindName x.env n)→Q (some xs) s):wpAny M A (swappedStores [.Tuple es k p] w x.env) Q E s:=by
 unfold swappedStores
 cases w with
 | Tuple vs j q=>
  have hsw:=an ((Bool.or_eq_true _ _).mp hsw |>.resolve_left nofun)
  dsimp only
  refine wp_if (fun ξ=>wpAny_pure h0) fun ξ=>wp_if (fun ξ=>wpAny_pure h0) fun ξ=>wp_if (fun ξ=>wpAny_pure h0) fun hl=>wp_if (fun ξ=>wpAny_pure h0) fun ξ=>?_
  rw [show vs.all (constantsAlone 8)=false from (Bool.not_eq_true' _).mp hsw.2]
  rw [if_neg Bool.false_ne_true]
  refine wpAny_pure (h1 _ (names_of (fun x p y e=>?_) ok ?_))
  ·first | exact ite_some e | exact (ite_some e).symm
  ·exact bne_eq_false_iff_eq.mp (Bool.or_eq_false_iff.mp (Bool.eq_false_iff.mpr hl)).1
 | _=>exact wpAny_pure h0
end
section
variable {d:Nat} {ρ ρ':Loc} {σ σ₁:CSt} {c:CE} {v:CV} {is:List Nat}
theorem ExD.assignT (S:Does d c ρ σ v σ₁) (hb:bindT σ₁ ρ is false v=some ρ') (p:(cTag c==10||cTag c==97)=false):ExD d (.assignT is c) ρ σ .next ρ' σ₁:=⟨fun {st g A x μ s E Q} ok he C K=>by
 refine an6 ok fun h1 h2 h3 oc ξ h5 h6=>?_
 replace h3:okTargets x.fsc x.tbl _ _=true:=he▸h3
 rw [tgSE h1]
 show wpAny _ _ (exec (.Assign [(viewS st).x] _ _) _) _ _ _
 rw [arm_exec_Assign]
 refine wpAny_bind (wpAny_standAt ?_)
 show wpAny _ A (swapsWith (viewS st).y (some (viewS st).x) (viewS st).p.line x.env >>= _) _ E s
 rw [swaps_no (okE_tag oc) p]
 refine wpAny_bind (wpAny_pure (wpAny_bind (S.go oc C fun u s₁ μ₁ n=>?_)))
 have C₁:=C.next n.toNx
 have E0:=C.sx n.toNx
 rw [tgE h2]
 refine wpAny_bind (swapped_sim h3 h6 ?_ fun xs hx=>?_)
 ·show wpAny _ A (PySem.assign (.Tuple (view (viewS st).x).l (view (viewS st).x).n (view (viewS st).x).p) x.env u >>= fun ξ=>pure Flow.next) _ E s₁
  exact wpAny_bind (target_sim (one:=false) (Bool.and_eq_true_iff.mpr ⟨rfl,h3⟩) hb C₁ n.r fun s₂ m=>wpAny_pure (K _ _ _ (E0.trans m) rfl))
 ·obtain ⟨l,e1,e2⟩:=Option.bind_eq_some_iff.mp hb
  show wpAny _ A (rule "assign.swapped-stores" >>= fun ξ=>unpackItems u xs.length none >>= fun items=>assignInOrder (xs.reverse.map fun n=>bindName x.env n) items.reverse >>= fun ξ=>pure Flow.next) _ E s₁
  refine wpAny_bind (wpAny_rule (wpAny_bind (unpack_sim C₁ n.r e1 ?_ fun s₂ us m=>?_)))
  ·have:=hx.len
   rw [List.length_map] at this
   exact this.trans (bindAll_length e2)
  ·refine wpAny_bind (SetsL.go (by rw [List.map_reverse];exact hx.rev) (bindAll_rev (of_decide_eq_true h5) e2) (C₁.next m.toNx) (VRs.rev m.r) fun s₃ k=>wpAny_pure (K _ _ _ (E0.trans ((C₁.sx m.toNx).trans k)) rfl))⟩
end
section
variable {w:World} {base:Heap} {X Y:List Addr} {μ:Mu} {σ:CSt} {h h':Heap}
theorem OR.mono {μ':Mu} (k:Kp Y μ h X μ' h') (e:∀b o,h.get? b=some o→b∉Y→h'.get? b=some o) {p:Addr×Addr} (n1:p.1∉Y) (n2:p.2∉Y):∀{o:CObj},OR w Y μ h p o→OR w X μ' h' p o:=by
 intro o r
 cases o with
 | list=>
  obtain ⟨q,xs,n,g,r⟩:=r
  exact ⟨q,xs,n,e _ _ g n1,VRs.mono k _ r⟩
 | dict=>
  obtain ⟨q,sm,ds,g,r,nd⟩:=r
  exact ⟨q,sm,ds,e _ _ g n1,DRs.mono k _ r,nd⟩
 | inst=>
  obtain ⟨q,c,g,fl,ds,n,g2,r,nd⟩:=r
  exact ⟨q,c,e _ _ g n1,fl,ds,n,e _ _ g2 n2,ARs.mono k _ r,nd⟩
theorem Rel.drop (R:Rel w base Y μ σ h) (k:∀b o,h.get? b=some o→b∉Y→h'.get? b=some o) (sub:∀b∈X,b∈Y) (z:∀b∈X,∃o,h'.get? b=some o):Rel w base X μ σ h':=
 ⟨R.len,fun i p o hp ho=>OR.mono ⟨fun ξ ξ e=>e,fun b o e nf nx=>⟨k b o e nx,nf,fun m=>nx (sub b m)⟩⟩ k (R.notX _ ⟨i,p,hp,.inl rfl⟩) (R.notX _ ⟨i,p,hp,.inr rfl⟩) (R.obj i p o hp ho),R.apart,fun b f m=>R.notX b f (sub b m),
  fun b o e=>k b o (R.keep b o e) fun m=>not_none e (R.aboveX b m),R.above,fun b f=>(by obtain ⟨o,e⟩:=R.inside b f;exact ⟨o,k b o e (R.notX b f)⟩),z,fun b m=>R.aboveX b (sub b m)⟩
end
noncomputable def EnvFoot (x:Fx) (b:Addr):Prop:=b=x.env.locals∨∃(i:Nat) (y:Str),x.tbl[i]?=some y∧(x.sc.names.lookup y=some .cell∨x.sc.names.lookup y=some .free)∧x.env.cells.lookup y=some b
abbrev Fx.at (x:Fx) (X:List Addr):Fx:={ x with X:=X }
section
variable {g:Gx} {x:Fx} {X X':List Addr} {μ μ':Mu} {ρ ρ':Loc} {h h':Heap}
theorem EnvR.to (V:EnvR g (x.at X) μ ρ h) (kf:∀b o,EnvFoot x b→h.get? b=some o→h'.get? b=some o) (kp:Kp X μ h X' μ' h') (hr:∀i v,ρ' i=some v→ρ i=some v) (own:∀b∈x.own,b∈X') (cl:∀b,EnvFoot x b→b∈X'):EnvR g (x.at X') μ' ρ' h':=by
 obtain ⟨m,hm,hv⟩:=V.ns
 refine { V with own:=own,ns:=⟨m,?_,fun i z v h1 h2 h3=>?_⟩,cell:=fun i z h1 h2=>?_ }
 ·obtain ⟨o,es,ep,ho,r⟩:=hm
  exact ⟨o,es,ep,kf _ _ (.inl rfl) ho,r⟩
 ·obtain ⟨u,hu,r⟩:=hv i z v h1 h2 (hr _ _ h3)
  exact ⟨u,hu,VR.mono kp _ r⟩
 ·obtain ⟨c,ov,h4,h5,h6,⟨o,ho,hd⟩,h7⟩:=V.cell i z h1 h2
  have f:EnvFoot x c:=.inr ⟨i,z,h1,h2,h4⟩
  refine ⟨c,ov,h4,cl c f,h6,⟨o,kf _ _ f ho,hd⟩,fun v hv=>?_⟩
  obtain ⟨u,hu,r⟩:=h7 v (hr _ _ hv)
  exact ⟨u,hu,VR.mono kp _ r⟩
theorem EnvR.footX (V:EnvR g (x.at X) μ ρ h) {b:Addr} (f:EnvFoot x b):b∈X∧∃o,h.get? b=some o:=by
 rcases f with e | ⟨i,z,h1,h2,h3⟩
 ·obtain ⟨m,⟨o,ξ,ξ,ho,ξ⟩,ξ⟩:=V.ns
  exact e▸⟨V.own _ V.locX,o,ho⟩
 ·obtain ⟨c,ov,h4,h5,ξ,⟨o,ho,ξ⟩,ξ⟩:=V.cell i z h1 h2
  exact Option.some.inj (h4.symm.trans h3)▸⟨h5,o,ho⟩
end
noncomputable def srcP (σ:CSt):Option (Nat×CObj)→Prop
 | none=>True
 | some (a,o)=>σ[a]?=some o
structure Loopy (g:Gx) (d:Nat) (target:Expr) (Ys:List Addr) (it:Value) (items:List CV) (so:Option (Nat×CObj)) (I:List Addr→Mu→Heap→Nat→Prop):Prop where
 live:∀{X:List Addr} {μ:Mu} {h:Heap} {i:Nat},I X μ h i→∀b∈Ys,∃o,h.get? b=some o
 keep:∀{X X':List Addr} {μ μ':Mu} {h h':Heap} {i:Nat},I X μ h i→Kp X μ h X' μ' h'→(∀b∈Ys,∀o,h.get? b=some o→h'.get? b=some o)→I X' μ' h' i
 item:∀{A:Around} {X:List Addr} {μ:Mu} {σ:CSt} {s:Shared} {i:Nat} {c:CV} {N:Shared→Prop} {Q:Value→Shared→Prop} {E:Value→Shared→Prop},A.handled=none→Rel g.w g.base X μ σ s.heap→(∀b∈Ys,b∈X)→srcP σ so→I X μ s.heap i→items[i]?=some c→
  (∀v h' tk,(∀b o,b∉Ys→s.heap.get? b=some o→h'.get? b=some o)→VR g.w X μ h' c v→I X μ h' (i+1)→Q v { s with heap:=h',toks:=tk })→
  wpAny (model pw g.w) A (pyNext it) (fun r s₁=>match r with | none=>N s₁ | some v=>wpAny (model pw g.w) A (letOwnedTupleGo target it v) (fun ξ s₂=>Q v s₂) E s₁) E s
 done:∀{A:Around} {X:List Addr} {μ:Mu} {σ:CSt} {s:Shared} {Q:Shared→Prop} {N:Value→Shared→Prop} {E:Value→Shared→Prop},A.handled=none→Rel g.w g.base X μ σ s.heap→(∀b∈Ys,b∈X)→srcP σ so→I X μ s.heap items.length→
  (∀h' tk,(∀b o,b∉Ys→s.heap.get? b=some o→h'.get? b=some o)→Q { s with heap:=h',toks:=tk })→
  wpAny (model pw g.w) A (pyNext it) (fun r s₁=>match r with | none=>Q s₁ | some v=>N v s₁) E s
 self:∀{A:Around} {X:List Addr} {μ:Mu} {s:Shared} {i:Nat} {Q:Value→Shared→Prop} {E:Value→Shared→Prop},I X μ s.heap i→Q it s→wpAny (model pw g.w) A (pyIter it) Q E s
structure Made (g:Gx) (d:Nat) (target:Expr) (X:List Addr) (μ:Mu) (s:Shared) (items:List CV) (so:Option (Nat×CObj)) (σ':CSt) (it:Value) (s':Shared) (μ':Mu) (Ys:List Addr) (I:List Addr→Mu→Heap→Nat→Prop):Prop where
 W:Loopy g d target Ys it items so I
 R:Rel g.w g.base (Ys++X) μ' σ' s'.heap
 st:St [] μ s μ' s'
 fr:∀b∈Ys,s.heap.get? b=none
 I0:I (Ys++X) μ' s'.heap 0
structure ItD (d:Nat) (k:IK) (one:Bool) (src:List CE) (ρ:Loc) (σ:CSt) (items:List CV) (so:Option (Nat×CObj)) (σ':CSt):Prop where
 go:∀{e target:Expr} {g:Gx} {A:Around} {x:Fx} {μ:Mu} {s:Shared} {E Q:Value→Shared→Prop},srcSide x.sc k one e=true→tg target (if one then 1 else 7)=true→okEs x.sc x.tbl src (srcArgs k e)=true→Cx g A d x μ ρ σ s→
  (∀it s' μ' Ys I,Made g d target x.X μ s items so σ' it s' μ' Ys I→Q it s')→wpAny (model pw g.w) A (eval e x.env) (fun v s₁=>wpAny (model pw g.w) A (pyIter v) Q E s₁) E s
inductive ForD (d:Nat) (t:List Nat) (one:Bool) (body:List CS) (so:Option (Nat×CObj)):List CV→Loc→CSt→Loc→CSt→Prop
 | nil {ρ σ} (h:srcP σ so):ForD d t one body so [] ρ σ ρ σ
 | cons {v l ρ ρ₁ ρ₂ ρ₃ σ σ₂ σ₃} (h:srcP σ so) (hb:bindT σ ρ t one v=some ρ₁) (B:RunD d body ρ₁ σ .next ρ₂ σ₂) (F:ForD d t one body so l ρ₂ σ₂ ρ₃ σ₃):ForD d t one body so (v::l) ρ σ ρ₃ σ₃
inductive WhileD (d:Nat) (t:CE) (body:List CS):Loc→CSt→Nat→Loc→CSt→Prop
 | done {ρ σ σ₁} (T:DoesT d t ρ σ false σ₁):WhileD d t body ρ σ 0 ρ σ₁
 | next {n ρ ρ₂ ρ₃ σ σ₁ σ₂ σ₃} (T:DoesT d t ρ σ true σ₁) (B:RunD d body ρ σ₁ .next ρ₂ σ₂) (W:WhileD d t body ρ₂ σ₂ n ρ₃ σ₃):WhileD d t body ρ σ (n+1) ρ₃ σ₃
theorem foldedSet_plain {it:Expr} {env:Env} {x:Value} (h:notSet it=true):foldedSetIterable it env x=pure x:=by
 cases it<;>first | rfl | cases h
theorem St.off {own Ys:List Addr} {μ μ':Mu} {s s':Shared} {h':Heap} {tk:Nat} (a:St own μ s μ' s') (fr:∀b∈Ys,s.heap.get? b=none) (k:∀b o,b∉Ys→s'.heap.get? b=some o→h'.get? b=some o):St own μ s μ' { s' with heap:=h',toks:=tk }:=
 ⟨a.pre,a.new,fun b o e nf nr=>k b o (fun m=>not_none e (fr b m)) (a.keep b o e nf nr),a.os,a.gens⟩
structure FI (g:Gx) (d:Nat) (x:Fx) (t:List Nat) (one:Bool) (body:List CS) (so:Option (Nat×CObj)) (items:List CV) (ρ':Loc) (σ':CSt) (Ys:List Addr) (I:List Addr→Mu→Heap→Nat→Prop) (μ:Mu) (s:Shared) (μ':Mu) (ρ₁:Loc) (σ₁:CSt) (i:Nat) (s':Shared):Prop where
 st:St x.own μ s μ' s'
 R:Rel g.w g.base (Ys++x.X) μ' σ₁ s'.heap
 V:EnvR g (x.at (Ys++x.X)) μ' ρ₁ s'.heap
 le:i≤items.length
 I:I (Ys++x.X) μ' s'.heap i
 F:ForD d t one body so (items.drop i) ρ₁ σ₁ ρ' σ'
section
variable {d:Nat} {ρ ρ':Loc} {σ σ₁ σ':CSt} {c:CE} {b:List CS} {t:List Nat} {one:Bool} {k:IK} {src:List CE} {items:List CV} {so:Option (Nat×CObj)}
theorem drop_cons {i:Nat} {v:CV} {l:List CV} (h:items.drop i=v::l):items[i]?=some v∧items.drop (i+1)=l:=by
 refine ⟨by rw [← List.head?_drop,h];rfl,by rw [← List.tail_drop,h];rfl⟩
theorem okTarget_tg {fsc:Scope} {tbl:List Str} {e:Expr} (h:okTarget fsc tbl e t one=true):tg e (if one then 1 else 7)=true:=by
 cases one
 ·exact (an h).1
 ·exact (an h).1
theorem ExD.for (S:ItD d k one src ρ σ items so σ₁) (F:ForD d t one b so items ρ σ₁ ρ' σ'):ExD d (.for t one k src b) ρ σ .next ρ' σ':=⟨fun {st g A x μ s E Q} ok he C K=>by
 refine an5 ok fun h1 h2 h3 h4 h5 h6=>?_
 replace h2:okTarget x.fsc x.tbl (viewS st).x t one=true:=he▸h2
 rw [tgSE h1]
 refine wpAny_For (S.go h4 (okTarget_tg h2) h5 C fun it s₂ μ₂ Ys I M=>?_) fun ξ=>foldedSet_plain h3
 have V0:EnvR g (x.at x.X) μ ρ s.heap:=C.V
 have YX:∀b∈Ys,b∈Ys++x.X:=fun b m=>List.mem_append_left _ m
 have sub:∀b∈x.X,b∈Ys++x.X:=fun b m=>List.mem_append_right _ m
 have offY:∀b o,s.heap.get? b=some o→b∉Ys:=fun b o e m=>not_none e (M.fr b m)
 have footX:∀b,EnvFoot x b→b∈x.X:=fun b f=>(V0.footX f).1
 have footY:∀b,EnvFoot x b→b∉Ys:=fun b f=>(by obtain ⟨ξ,o,e⟩:=V0.footX f;exact offY b o e)
 have ownY:∀b∈x.own,b∉Ys:=fun b m=>(by obtain ⟨o,e⟩:=C.R.insideX b (C.V.own b m);exact offY b o e)
 have XY:∀b∈x.X,b∉Ys:=fun b m=>(by obtain ⟨o,e⟩:=C.R.insideX b m;exact offY b o e)
 have kp₂:Kp x.X μ s.heap (Ys++x.X) μ₂ s₂.heap:=⟨M.st.pre,fun b o e nf nx=>⟨M.st.keep b o e nf (by simp),((M.st.kp0 (X:=x.X)).at_ b o e nf nx).2.1,fun m=>(List.mem_append.mp m).elim (offY b o e) nx⟩⟩
 refine codeAny_forLoop_any (fun n s'=>∃μ' ρ₁ σ₁ i,n=(items.drop i).length+1∧FI g d x t one b so items ρ' σ' Ys I μ s μ' ρ₁ σ₁ i s') ?_ _ ⟨μ₂,ρ,σ₁,0,rfl,M.st.weaken (by simp),M.R,V0.to (fun b o f e=>M.st.keep b o e (fun fb=>C.R.notX b fb (footX b f)) (by simp)) kp₂ (fun ξ ξ e=>e) (fun b m=>sub b (C.V.own b m)) (fun b f=>sub b (footX b f)),Nat.zero_le _,M.I0,F⟩
 rintro n s' ⟨μ',ρ₁,σ₁',i,hn,J⟩
 generalize hr:items.drop i=rest at *
 have F:=hr▸J.F
 cases F with
 | nil so_ok=>
  have hi:i=items.length:=Nat.le_antisymm J.le (List.drop_eq_nil_iff.mp hr)
  refine M.W.done C.O.handled J.R YX so_ok (hi▸J.I) fun h' tk hk=>wpAny_execs_nil ?_
  have kX:∀b o,s'.heap.get? b=some o→b∉Ys++x.X→h'.get? b=some o:=fun b o e nx=>hk b o (fun m=>nx (YX b m)) e
  refine K _ _ μ' ⟨J.st.off M.fr hk,J.R.drop kX sub fun b m=>(by obtain ⟨o,e⟩:=J.R.insideX b (sub b m);exact ⟨o,hk b o (XY b m) e⟩),?_⟩ rfl
  exact J.V.to (X':=x.X) (fun b o f e=>hk b o (footY b f) e) ⟨fun ξ ξ e=>e,fun b o e nf nx=>⟨kX b o e nx,nf,fun m=>nx (sub b m)⟩⟩ (fun ξ ξ e=>e) C.V.own footX
 | cons so_ok hb B F=>
  obtain ⟨hc,hd⟩:=drop_cons hr
  refine M.W.item C.O.handled J.R YX so_ok J.I hc fun v h' tk hk r hI=>?_
  have lv:=M.W.live hI
  have kX:∀b o,s'.heap.get? b=some o→b∉Ys++x.X→h'.get? b=some o:=fun b o e nx=>hk b o (fun m=>nx (YX b m)) e
  have V₃:EnvR g (x.at (Ys++x.X)) μ' ρ₁ h':=J.V.to (fun b o f e=>hk b o (footY b f) e) (J.R.kpX kX) (fun ξ ξ e=>e) (fun b m=>sub b (C.V.own b m)) (fun b f=>sub b (footX b f))
  have R₃:Rel g.w g.base (Ys++x.X) μ' σ₁' h':=J.R.keepX kX fun b m=>if q:b∈Ys then lv b q else (by obtain ⟨o,e⟩:=J.R.insideX b m;exact ⟨o,hk b o q e⟩)
  have C₃:Cx g A d (x.at (Ys++x.X)) μ' ρ₁ σ₁' { s' with heap:=h',toks:=tk }:=⟨C.B,C.O,V₃,R₃⟩
  refine target_sim (x:=x.at (Ys++x.X)) h2 hb C₃ r fun s₅ n=>B.go (x:=x.at (Ys++x.X)) h6 he (C₃.then n) fun f s₆ μ₆ m r=>?_
  rw [(r:f = .next)]
  have N:=n.trans m
  have N0:St x.own μ' { s' with heap:=h',toks:=tk } μ₆ s₆:=N.st
  refine ⟨_,?_,μ₆,_,_,i+1,rfl,(J.st.off M.fr hk).trans (fun b m=>R₃.insideX b (sub b (C.V.own b m))) N0,N.R,N.V,(List.getElem?_eq_some_iff.mp hc).1,M.W.keep hI N.kp fun b m o e=>N0.keep b o e (fun f=>R₃.notX b f (YX b m)) fun mo=>ownY b mo m,hd▸F⟩
  rw [hd,hn]
  exact Nat.lt_succ_self _⟩
theorem ExD.while {n:Nat} (W:WhileD d c b ρ σ n ρ' σ'):ExD d (.while c b) ρ σ .next ρ' σ':=⟨fun {st g A x μ s E Q} ok he C K=>by
 refine an2 ok fun h1 h2 h3=>?_
 rw [tgSE h1]
 refine wpAny_While (codeAny_whileLoop (fun n s'=>∃μ' ρ₁ σ₁,Sx g x μ s ρ₁ σ₁ s' μ'∧WhileD d c b ρ₁ σ₁ n ρ' σ') ?_ n ⟨μ,ρ,σ,C.sx (.refl C.R),W⟩)
 rintro n s' ⟨μ',ρ₁,σ₁,S,W⟩
 have C₁:=C.then S
 cases W with
 | done T=>exact T.go h2 C₁ fun s₁ μ₁ m=>wpAny_execs_nil (K _ _ _ (S.trans (C₁.sx m)) rfl)
 | next T B W=>
  refine T.go h2 C₁ fun s₁ μ₁ m=>B.go h3 he (C₁.next m) fun f s₂ μ₂ k r=>?_
  rw [(r:f = .next)]
  exact ⟨_,Nat.lt_succ_self _,μ₂,_,_,(S.trans (C₁.sx m)).trans k,W⟩⟩
end
section
variable {prog:Program} {w:World} {A:Around} {E:Value→Shared→Prop} {s:Shared}
theorem owned_plain {target:Expr} {I:Addr} {v:Value} {o:Obj} {T:String} {Q:Unit→Shared→Prop} (ho:s.heap.get? I=some o) (hc:o.cls = .type T)
  (hT:(["enumerate","zip","dict_itemiterator","dict_reverseitemiterator","odict_iterator","itertools.zip_longest","itertools.pairwise"]:List String).contains T=false) (h:Q () s):wpAny (model prog w) A (letOwnedTupleGo target (.ref I) v) Q E s:=by
 have key:wpAny (model prog w) A (match (Value.ref I,v) with
   | (.ref r,.ref a)=>(load r >>= fun o=>match o.cls,o.data with
    | .type n,.fields vs=>if (["enumerate","zip","dict_itemiterator","dict_reverseitemiterator","odict_iterator","itertools.zip_longest","itertools.pairwise"]:List String).contains n&&vs[0]?==some (rawInt a) then (rule "for.unpacks-the-owned-tuple" >>= fun ξ=>updateField r 0 .none) else pure ()
    | _,_=>pure ())
   | _=>pure ()) Q E s:=by
  cases v with
  | ref a=>
   refine wpAny_bind (wpAny_load ho ?_)
   rw [hc]
   generalize o.data=dd
   cases dd with
   | fields=>
    dsimp only
    rw [hT,Bool.false_and,if_neg Bool.false_ne_true]
    exact wpAny_pure h
   | _=>exact wpAny_pure h
  | _=>exact wpAny_pure h
 cases target with
 | Tuple=>exact key
 | List=>exact key
 | _=>exact wpAny_pure h
end
section
variable {w:World} {A:Around} {E:Value→Shared→Prop} {s:Shared} {X:List Addr} {μ:Mu}
theorem iter_dict {a:Addr} {ds:Array DictEntry} {n:Nat} {Q:Value→Shared→Prop} (hd:(a==sysModules)=false) (ho:s.heap.get? a=some (dctO ds n))
  (hQ:Q (.ref s.heap.objs.size) { s with heap:=s.heap.push { cls:=.type "dict_keyiterator",data:=.fields #[.ref a,.int 0 0,.int ds.size 0,.int n 0] } }):wpAny (model pw w) A (pyIter (.ref a)) Q E s:=by
 have hT:s.TypeIs (.ref a) "dict":=⟨_,ho,rfl⟩
 refine wpAny_pyIter_slot hT PySem.F.slot_dict_iter (wpAny_call_entry PySem.F.slot_dict_iter hT PySem.F.entry_dict_iter ?_ (PySem.F.args_dict_iter_1 _))
 unfold Builtin.«dict.__iter__»
 refine wpAny_bind ?_
 unfold Builtin.Dict.dictSlotNone
 refine wpAny_bind (wpAny_notOrdered_dict hT ?_)
 show wpAny _ _ (pure (Value.ref a)) _ _ s
 refine wpAny_pure ?_
 show wpAny _ _ (Builtin.Dict.showsAll a >>= _) _ _ s
 unfold Builtin.Dict.showsAll
 rw [if_neg (by rw [hd];exact Bool.false_ne_true)]
 refine wpAny_bind (wpAny_pure ?_)
 refine wpAny_bind (wpAny_dictEntries ho rfl ?_)
 refine wpAny_bind (wpAny_dictEpoch ho rfl ?_)
 refine wpAny_bind (wpAny_newObj_type (wpAny_pure ⟨_,rfl,"dict_keyiterator",_,⟨_,Heap.get?_push_size _ rfl,rfl⟩,PySem.F.slot_dict_keyiterator_next.lookup,?_⟩))
 simpa [rawInt] using hQ
theorem next_dict {it a:Addr} {i n:Nat} {ds:Array DictEntry} {e:DictEntry} {Q:Option Value→Shared→Prop} (hit:s.heap.IsKeyIter it a i ds.size n) (hm:s.heap.get? a=some (dctO ds n)) (hx:ds[i]?=some e)
  (hQ:∀h',h'.IsKeyIter it a (i+1) ds.size n→Heap.SameBut it s.heap h'→Q (some e.key) { s with heap:=h' }):wpAny (model pw w) A (pyNext (.ref it)) Q E s:=by
 obtain ⟨o,ho,hc,hd⟩:=id hit
 unfold pyNext
 refine wpAny_bind (wpAny_attempt (wpAny_callSpecial?_slot (name:=Str.ofString "__next__") hit.typeIs PySem.F.slot_dict_keyiterator_next
  (wpAny_call_entry PySem.F.slot_dict_keyiterator_next hit.typeIs PySem.F.entry_dict_keyiterator_next ?_ (PySem.F.args_dict_keyiterator_next_1 _))))
 refine wpAny_bind (wpAny_pure ?_)
 refine wpAny_bind ?_
 refine wpAny_bind ?_
 first | refine wpAny_bind (wpAny_typeNameOfWhole_keyiter hit.typeIs (wpAny_pure ?_)) | refine wpAny_bind (wpAny_typeNameOf_keyiter hit.typeIs (wpAny_pure ?_))
 refine wpAny_bind (wpAny_fieldsOf ho hd ?_)
 have hown:Builtin.Dict_items.ownsTuple "dict_keyiterator"=false:=by decide
 rw [hown,if_neg Bool.false_ne_true]
 show wpAny _ _ (if (Value.ref a==Value.none)=true then _ else _) _ _ s
 rw [if_neg (show ¬((Value.ref a==Value.none)=true) from Bool.false_ne_true)]
 refine wpAny_bind (wpAny_pure ?_)
 refine wpAny_bind (wpAny_dictEntries hm rfl ?_)
 rw [if_neg (by simp)]
 refine wpAny_bind (wpAny_pure ?_)
 refine wpAny_bind (wpAny_dictEpoch hm rfl ?_)
 rw [if_neg (by simp)]
 refine wpAny_pure ?_
 dsimp only
 rw [if_neg (Int.not_lt.mpr (Int.natCast_nonneg i)),Int.toNat_natCast,hx]
 refine wpAny_bind ?_
 first | refine wpAny_bind (wpAny_typeNameOfWhole_keyiter hit.typeIs (wpAny_pure ?_)) | refine wpAny_bind (wpAny_typeNameOf_keyiter hit.typeIs (wpAny_pure ?_))
 refine wpAny_bind (wpAny_isOneOf_keyiter hit.typeIs ?_)
 show wpAny _ _ (setField (.ref it) 1 (rawInt ((i:Int)+1)) >>= _) _ _ s
 refine wpAny_bind (wpAny_setField ho hd (by simp) ?_)
 have hit':(s.heap.update it (Obj.mapFields (·.setIfInBounds 1 (rawInt ((i:Int)+1))))).IsKeyIter it a (i+1) ds.size n:=
  ⟨_,Heap.get?_update_self _ ho (Obj.isFreed_of_fields (Obj.data_mapFields hd _)),(Obj.cls_mapFields ..).trans hc,by rw [Obj.data_mapFields hd];simp [rawInt]⟩
 refine wpAny_bind (wpAny_holding ?_)
 refine wpAny_bind (wpAny_isOneOf_keyiter (s:={ s with heap:=s.heap.update it (Obj.mapFields (·.setIfInBounds 1 (rawInt ((i:Int)+1)))) }) hit'.typeIs ?_)
 show wpAny _ _ (pure e.key) _ _ _
 exact wpAny_pure (wpAny_pure ⟨_,rfl,wpAny_pure (hQ _ hit' (Heap.SameBut.update ..))⟩)
theorem end_dict {it a:Addr} {i n:Nat} {ds:Array DictEntry} {Q:Option Value→Shared→Prop} (hh:A.handled=none) (hit:s.heap.IsKeyIter it a i ds.size n) (hm:s.heap.get? a=some (dctO ds n)) (hx:ds[i]?=none)
  (hQ:∀h',Heap.ExtBut it s.heap h'→Q none { s with heap:=h' }):wpAny (model pw w) A (pyNext (.ref it)) Q E s:=by
 obtain ⟨o,ho,hc,hd⟩:=id hit
 unfold pyNext
 refine wpAny_bind (wpAny_attempt (wpAny_callSpecial?_slot (name:=Str.ofString "__next__") hit.typeIs PySem.F.slot_dict_keyiterator_next
  (wpAny_call_entry PySem.F.slot_dict_keyiterator_next hit.typeIs PySem.F.entry_dict_keyiterator_next ?_ (PySem.F.args_dict_keyiterator_next_1 _))))
 refine wpAny_bind (wpAny_pure ?_)
 refine wpAny_bind ?_
 refine wpAny_bind ?_
 first | refine wpAny_bind (wpAny_typeNameOfWhole_keyiter hit.typeIs (wpAny_pure ?_)) | refine wpAny_bind (wpAny_typeNameOf_keyiter hit.typeIs (wpAny_pure ?_))
 refine wpAny_bind (wpAny_fieldsOf ho hd ?_)
 have hown:Builtin.Dict_items.ownsTuple "dict_keyiterator"=false:=by decide
 rw [hown,if_neg Bool.false_ne_true]
 show wpAny _ _ (if (Value.ref a==Value.none)=true then _ else _) _ _ s
 rw [if_neg (show ¬((Value.ref a==Value.none)=true) from Bool.false_ne_true)]
 refine wpAny_bind (wpAny_pure ?_)
 refine wpAny_bind (wpAny_dictEntries hm rfl ?_)
 rw [if_neg (by simp)]
 refine wpAny_bind (wpAny_pure ?_)
 refine wpAny_bind (wpAny_dictEpoch hm rfl ?_)
 rw [if_neg (by simp)]
 refine wpAny_pure ?_
 dsimp only
 rw [if_neg (Int.not_lt.mpr (Int.natCast_nonneg i)),Int.toNat_natCast,hx]
 refine wpAny_bind ?_
 first | refine wpAny_bind (wpAny_typeNameOfWhole_keyiter hit.typeIs (wpAny_pure ?_)) | refine wpAny_bind (wpAny_typeNameOf_keyiter hit.typeIs (wpAny_pure ?_))
 show wpAny _ _ (setField (.ref it) 0 .none >>= _) _ _ s
 refine wpAny_bind (wpAny_setField ho hd (by simp) ?_)
 show wpAny _ _ (newExc (.type "StopIteration") [] >>= _) _ _ _
 refine wpAny_bind ?_
 unfold newExc
 refine wpAny_bind (wpAny_newObj_type ?_ (by size_fits))
 refine wpAny_bind (m:=firstArgMember _ _) (wpAny_of_eq (a:=Value.none) (by first | rfl | (simp only [firstArgMember];rfl)) ?_)
 refine wpAny_newObj_type ?_ (by size_fits)
 rw [raiseNew]
 refine wpAny_bind (wpAny_handled ?_)
 rw [show A.in1.handled=none from hh]
 refine wpAny_bind (wpAny_pure (wpAny_throw ?_))
 refine wpAny_bind (wpAny_isInstance (T:="StopIteration") (b:=true) ⟨_,Heap.get?_push_size _ rfl,rfl⟩ isSubtype_stop ?_)
 exact wpAny_pure (hQ _ (((Heap.SameBut.update ..).extBut.push _).push _))
theorem DRs.keyAt {h:Heap} {es:List (CV×CV)} {ds:Array DictEntry} {i:Nat} {c:CV} (r:DRs w X μ h es ds.toList) (e:(es.map (·.1))[i]?=some c) {zz:Prop} (kk:∀en,ds[i]?=some en→VR w X μ h c en.key→zz):zz:=by
 rw [List.getElem?_map] at e
 obtain ⟨⟨k,u⟩,h1,h2⟩:=Option.map_eq_some_iff.mp e
 cases h2
 obtain ⟨en,he,rk,ξ⟩:=r.get h1
 exact kk en (by rw [← Array.getElem?_toList];exact he) rk
end
theorem getElem_intsUpto {n:Int} {i:Nat} {c:CV} (h:(intsUpto n)[i]?=some c):i<n.toNat∧c = .int (Int.ofNat i):=by
 unfold intsUpto at h
 rw [List.getElem?_map] at h
 obtain ⟨j,hj,e⟩:=Option.map_eq_some_iff.mp h
 obtain ⟨hl,e2⟩:=List.getElem?_eq_some_iff.mp hj
 rw [List.getElem_range] at e2
 rw [List.length_range] at hl
 subst e2
 exact ⟨hl,e.symm⟩
theorem range_size {n:Int} (h:0≤n):Builtin.Range.rangeSize 0 n 1=n.toNat:=by
 unfold Builtin.Range.rangeSize
 rw [if_pos (by decide)]
 split
 ·rw [Int.ediv_one];lia
 ·lia
theorem range_small {n:Int} (h:0≤n∧n<BIG):Builtin.Range.small 0 n 1=true:=by
 have hb:(BIG:Int)=100000:=rfl
 unfold Builtin.Range.small
 rw [range_size h.1]
 have f:∀i:Int,0≤i→i≤100000→Builtin.Range.rangeFitsLong i=true:=fun i h1 h2=>by
  unfold Builtin.Range.rangeFitsLong
  rw [Bool.and_eq_true,decide_eq_true_eq,decide_eq_true_eq]
  lia
 rw [f 0 (by lia) (by lia),f n (by lia) (by lia),f 1 (by lia) (by lia),f (n.toNat:Int) (by lia) (by lia),if_pos (by decide),f (n+(1 - 1)) (by lia) (by lia)]
 simp
structure Iter1 (g:Gx) (d:Nat) (it:Addr) (items:List CV) (so:Option (Nat×CObj)) (J:List Addr→Mu→Heap→Nat→Prop):Prop where
 cls:∀{X:List Addr} {μ:Mu} {h:Heap} {i:Nat},J X μ h i→∃o T,h.get? it=some o∧o.cls = .type T∧(["enumerate","zip","dict_itemiterator","dict_reverseitemiterator","odict_iterator","itertools.zip_longest","itertools.pairwise"]:List String).contains T=false
 keep:∀{X X':List Addr} {μ μ':Mu} {h h':Heap} {i:Nat},J X μ h i→Kp X μ h X' μ' h'→(∀o,h.get? it=some o→h'.get? it=some o)→J X' μ' h' i
 item:∀{A:Around} {X:List Addr} {μ:Mu} {σ:CSt} {s:Shared} {i:Nat} {c:CV} {Q:Option Value→Shared→Prop} {E:Value→Shared→Prop},A.handled=none→Rel g.w g.base X μ σ s.heap→srcP σ so→J X μ s.heap i→items[i]?=some c→(∀h',Heap.SameBut it s.heap h'→Kp X μ s.heap X μ h')→
  (∀v h' tk,Heap.SameBut it s.heap h'→VR g.w X μ h' c v→J X μ h' (i+1)→Q (some v) { s with heap:=h',toks:=tk })→wpAny (model pw g.w) A (pyNext (.ref it)) Q E s
 done:∀{A:Around} {X:List Addr} {μ:Mu} {σ:CSt} {s:Shared} {Q:Option Value→Shared→Prop} {E:Value→Shared→Prop},A.handled=none→Rel g.w g.base X μ σ s.heap→srcP σ so→J X μ s.heap items.length→
  (∀h',Heap.ExtBut it s.heap h'→Q none { s with heap:=h' })→wpAny (model pw g.w) A (pyNext (.ref it)) Q E s
 self:∀{A:Around} {X:List Addr} {μ:Mu} {s:Shared} {i:Nat} {Q:Value→Shared→Prop} {E:Value→Shared→Prop},J X μ s.heap i→Q (.ref it) s→wpAny (model pw g.w) A (pyIter (.ref it)) Q E s
section
variable {g:Gx} {d:Nat} {it a:Addr} {items l:List CV} {so:Option (Nat×CObj)} {J:List Addr→Mu→Heap→Nat→Prop} {target:Expr} {c:CV}
theorem not_mem1 {a b:Addr} (h:b∉[a]):b≠a:=fun q=>h (List.mem_singleton.mpr q)
theorem Iter1.loopy (W:Iter1 g d it items so J):Loopy g d target [it] (.ref it) items so J where
 live hI b m:=(by obtain ⟨o,ξ,ho,ξ⟩:=W.cls hI;exact ⟨o,List.mem_singleton.mp m▸ho⟩)
 keep hI kp k:=W.keep hI kp fun o e=>k it (List.mem_singleton.mpr rfl) o e
 item O R hX so hI hc K:=W.item O R so hI hc (fun h' hs=>R.kpX fun b o e nx=>hs.extBut b o (fun q=>nx (q▸hX it (List.mem_singleton.mpr rfl))) e) fun v h' tk hs r hJ=>
  let ⟨o,T,ho,hc,hT⟩:=W.cls hJ
  owned_plain ho hc hT (K v h' tk (fun b o nb e=>hs.extBut b o (not_mem1 nb) e) r hJ)
 done O R hX so hI K:=W.done O R so hI fun h' he=>K h' _ fun b o nb e=>he b o (not_mem1 nb) e
 self:=W.self
theorem none_at {w:World} {X:List Addr} {μ:Mu} {h:Heap} {xs:Array Value} (rs:VRs w X μ h items xs.toList):xs[items.length]?=none:=Array.getElem?_eq_none (Nat.le_of_eq (VRs.size rs))
theorem iter_list (hl:∀σ,srcP σ so→listOf σ c=some items):Iter1 g d it items so (fun X μ h i=>h.IsListIter it a i∧VR g.w X μ h c (.ref a)) where
 cls hI:=(by obtain ⟨⟨o,ho,hc,ξ⟩,ξ⟩:=hI;exact ⟨o,_,ho,hc,rfl⟩)
 keep hI kp k:=⟨(by obtain ⟨⟨o,ho,r⟩,ξ⟩:=hI;exact ⟨o,k o ho,r⟩),VR.mono kp _ hI.2⟩
 item O R so hI hc kp K:=listOf_at R hI.2 (hl _ so) fun a' xs n e g rs=>by
  cases e
  refine rs.at hc fun v hv rv=>?_
  exact wpAny_pyNext_list_item hI.1 ⟨_,g,rfl,n,rfl⟩ hv fun h' hit' hs=>K v h' _ hs (VR.mono (kp h' hs) _ rv) ⟨hit',VR.mono (kp h' hs) _ hI.2⟩
 done O R so hI K:=listOf_at R hI.2 (hl _ so) fun a' xs n e g rs=>by
  cases e
  exact wpAny_pyNext_list_end O hI.1 ⟨_,g,rfl,n,rfl⟩ (none_at rs) K
 self hI q:=wpAny_pyIter_listiter hI.1 q
theorem iter_tuple:Iter1 g d it items none (fun X μ h i=>h.IsTupleIter it a i∧VR g.w X μ h (.tup items) (.ref a)) where
 cls hI:=(by obtain ⟨⟨o,ho,hc,ξ⟩,ξ⟩:=hI;exact ⟨o,_,ho,hc,rfl⟩)
 keep hI kp k:=⟨(by obtain ⟨⟨o,ho,r⟩,ξ⟩:=hI;exact ⟨o,k o ho,r⟩),VR.mono kp _ hI.2⟩
 item O R so hI hc kp K:=by
  obtain ⟨a',xs,n,e,g,ξ,ξ,rs⟩:=id hI.2
  cases e
  refine rs.at hc fun v hv rv=>?_
  exact wpAny_pyNext_tuple_item hI.1 ⟨_,g,rfl,n,rfl⟩ hv fun h' hit' hs=>K v h' _ hs (VR.mono (kp h' hs) _ rv) ⟨hit',VR.mono (kp h' hs) _ hI.2⟩
 done O R so hI K:=by
  obtain ⟨a',xs,n,e,g,ξ,ξ,rs⟩:=id hI.2
  cases e
  exact wpAny_pyNext_tuple_end O hI.1 ⟨_,g,rfl,n,rfl⟩ (none_at rs) K
 self hI q:=wpAny_pyIter_tupleiter hI.1 q
theorem iter_range {n:Int}:Iter1 g d it (intsUpto n) none (fun ξ ξ h i=>IsRangeIter h it (i:Int) ((n.toNat:Int) - (i:Int)) 1) where
 cls hI:=⟨_,_,hI,rfl,rfl⟩
 keep hI kp k:=k _ hI
 item O R so hI hc kp K:=by
  obtain ⟨lt,e⟩:=getElem_intsUpto hc
  refine wpAny_pyNext_range_item hI (by lia) fun h' hit' hs=>K _ h' _ hs (e▸⟨_,rfl⟩) ?_
  rw [Int.natCast_succ,← Int.sub_sub]
  exact hit'
 done O R so hI K:=wpAny_pyNext_range_end O hI (by unfold intsUpto;rw [List.length_map,List.length_range];lia) K
 self hI q:=wpAny_pyIter_rangeiter hI q
theorem iter_dct {es:List (CV×CV)} {ep:Nat} {I0:List Addr→Mu→Heap→Prop} (jk:∀{X X':List Addr} {μ μ':Mu} {h h':Heap},I0 X μ h→Kp X μ h X' μ' h'→I0 X' μ' h')
  (jl:∀{X:List Addr} {μ:Mu} {σ:CSt} {h:Heap},Rel g.w g.base X μ σ h→srcP σ so→I0 X μ h→∃ds,h.get? a=some (dctO ds ep)∧DRs g.w X μ h es ds.toList):Iter1 g d it (es.map (·.1)) so (fun X μ h i=>h.IsKeyIter it a i es.length ep∧I0 X μ h) where
 cls hI:=(by obtain ⟨⟨o,ho,hc,ξ⟩,ξ⟩:=hI;exact ⟨o,_,ho,hc,rfl⟩)
 keep hI kp k:=⟨(by obtain ⟨⟨o,ho,r⟩,ξ⟩:=hI;exact ⟨o,k o ho,r⟩),jk hI.2 kp⟩
 item O R so hI hc kp K:=by
  obtain ⟨ds,g',rs⟩:=jl R so hI.2
  refine rs.keyAt hc fun en he rk=>?_
  have hz:=DRs.size rs
  exact next_dict (hz▸hI.1) g' he fun h' hit' hs=>K en.key h' _ hs (VR.mono (kp h' hs) _ rk) ⟨hz▸hit',jk hI.2 (kp h' hs)⟩
 done O R so hI K:=by
  obtain ⟨ds,g',rs⟩:=jl R so hI.2
  have hz:=DRs.size rs
  exact end_dict O (hz▸hI.1) g' (Array.getElem?_eq_none (by rw [hz,List.length_map];exact Nat.le_refl _)) K
 self hI q:=wpAny_pyIter_keyiter hI.1 q
theorem iter_str {x:Str} {t:Tok}:Iter1 g d it (x.cps.toList.map fun c=>.str ⟨#[c]⟩) none (fun ξ ξ h i=>h.IsStrIter it "str_ascii_iterator" x t i) where
 cls hI:=(by obtain ⟨o,ho,hc,ξ⟩:=hI;exact ⟨o,_,ho,hc,rfl⟩)
 keep hI kp k:=(by obtain ⟨o,ho,r⟩:=hI;exact ⟨o,k o ho,r⟩)
 item O R so hI hc kp K:=by
  rw [List.getElem?_map] at hc
  obtain ⟨c,h1,h2⟩:=Option.map_eq_some_iff.mp hc
  exact wpAny_pyNext_ascii_item hI (c:=c) (by rw [← Array.getElem?_toList];exact h1) fun h' hit' hs=>K _ h' _ hs (h2▸⟨_,rfl⟩) hit'
 done O R so hI K:=wpAny_pyNext_ascii_end O hI (Array.getElem?_eq_none (by rw [List.length_map];exact Nat.le_refl _)) K
 self hI q:=wpAny_pyIter_striter_ascii hI q
end
structure WalkD (d:Nat) (v:CV) (items:List CV) (so:Option (Nat×CObj)) (σ:CSt):Prop where
 go:∀{g:Gx} {A:Around} {X:List Addr} {μ:Mu} {s:Shared} {target:Expr} {u:Value} {E Q:Value→Shared→Prop},Rel g.w g.base X μ σ s.heap→VR g.w X μ s.heap v u→
  (∀it s' Ys I,Made g d target X μ s items so σ it s' μ Ys I→Q it s')→wpAny (model pw g.w) A (pyIter u) Q E s
section
variable {g:Gx} {A:Around} {d:Nat} {x:Fx} {X:List Addr} {μ μ₁:Mu} {σ σ₁:CSt} {s s₁ s₂:Shared} {E:Value→Shared→Prop} {items:List CV} {so:Option (Nat×CObj)} {target:Expr} {it:Value} {Ys:List Addr} {I J:List Addr→Mu→Heap→Nat→Prop} {ρ:Loc} {c:CE} {l:List CV}
theorem Made.many {h':Heap} {tk:Nat} (R:Rel g.w g.base X μ σ s.heap) (W:Loopy g d target Ys it items so I) (k:∀b o,s.heap.get? b=some o→h'.get? b=some o) (f:∀b∈Ys,s.heap.get? b=none∧∃o,h'.get? b=some o) (hI:I (Ys++X) μ h' 0):Made g d target X μ s items so σ it { s with heap:=h',toks:=tk } μ Ys I:=
 ⟨W,R.more k f,St.of_keeps k,fun b m=>(f b m).1,hI⟩
theorem size1 {o:Obj} (hf:o.isFreed=false) (b:Addr) (m:b∈[s.heap.objs.size]):s.heap.get? b=none∧∃o',(s.heap.push o).get? b=some o':=by
 rw [List.mem_singleton.mp m];exact ⟨get_size _,_,Heap.get?_push_size _ hf⟩
theorem Made.push {o:Obj} {tk:Nat} (R:Rel g.w g.base X μ σ s.heap) (W:Iter1 g d s.heap.objs.size items so J) (hf:o.isFreed=false) (hI:J ([s.heap.objs.size]++X) μ (s.heap.push o) 0):Made g d target X μ s items so σ (.ref s.heap.objs.size) { s with heap:=s.heap.push o,toks:=tk } μ [s.heap.objs.size] J:=
 .many R W.loopy (fun ξ ξ e=>Heap.get?_push_of_some _ e) (size1 hf) hI
theorem VR.pushX {v:CV} {u:Value} {o:Obj} (r:VR g.w X μ s.heap v u):VR g.w ([s.heap.objs.size]++X) μ (s.heap.push o) v u:=
 VR.more (fun ξ ξ e=>Heap.get?_push_of_some _ e) (fun b m=>by rw [List.mem_singleton.mp m];exact get_size _) r
theorem Made.after (R:Rel g.w g.base X μ σ s.heap) (n:Nx g X μ s σ₁ s₁ μ₁) {μ':Mu} (h:Made g d target X μ₁ s₁ items so σ₁ it s₂ μ' Ys I):Made g d target X μ s items so σ₁ it s₂ μ' Ys I:=
 ⟨h.W,h.R,n.st.trans0 h.st,fun b m=>none_of (fun o e=>by
  by_cases f:foot μ b
  ·exact n.R.inside b (f.pre n.st.pre)
  ·exact ⟨o,n.st.keep b o e f (by simp)⟩) (h.fr b m),h.I0⟩
theorem WalkD.lst:WalkD d (.lst l) l none σ:=⟨fun {g A X μ s target u E Q} R r K=>by
 obtain ⟨a,xs,n,e,g',ξ⟩:=id r
 rw [e]
 exact wpAny_pyIter_list ⟨_,g',rfl,n,rfl⟩ (K _ _ _ _ (.push (tk:=s.toks) R (iter_list (a:=a) (c:=.lst l) fun ξ ξ=>rfl) rfl ⟨⟨_,Heap.get?_push_size _ rfl,rfl,rfl⟩,VR.pushX (e▸r)⟩))⟩
theorem WalkD.tup:WalkD d (.tup l) l none σ:=⟨fun {g A X μ s target u E Q} R r K=>by
 obtain ⟨a,xs,n,e,g',ξ⟩:=id r
 rw [e]
 exact wpAny_pyIter_tuple ⟨_,g',rfl,n,rfl⟩ (K _ _ _ _ (.push (tk:=s.toks) R (iter_tuple (a:=a)) rfl ⟨⟨_,Heap.get?_push_size _ rfl,rfl,rfl⟩,VR.pushX (e▸r)⟩))⟩
theorem WalkD.ref {j:Nat} (hj:σ[j]?=some (.list l)):WalkD d (.ref j) l (some (j,.list l)) σ:=⟨fun {g A X μ s target u E Q} R r K=>by
 obtain ⟨p,hp,e⟩:=id r
 obtain ⟨ξ,xs,n,g',ξ⟩:=R.obj j p _ hp hj
 rw [e]
 exact wpAny_pyIter_list ⟨_,g',rfl,n,rfl⟩ (K _ _ _ _ (.push (tk:=s.toks) R (iter_list (a:=p.1) (c:=.ref j) fun σ' hs=>ofList hs) rfl ⟨⟨_,Heap.get?_push_size _ rfl,rfl,rfl⟩,VR.pushX (e▸r)⟩))⟩
theorem WalkD.dct {es:List (CV×CV)}:WalkD d (.dct es) (es.map (·.1)) none σ:=⟨fun {g A X μ s target u E Q} R r K=>by
 obtain ⟨a,ds,n,e,g',nf,nx,sm,rs,nd⟩:=id r
 rw [e]
 have kp:Kp X μ s.heap ([s.heap.objs.size]++X) μ (s.heap.push { cls:=.type "dict_keyiterator",data:=.fields #[.ref a,.int 0 0,.int ds.size 0,.int n 0] }):=
  ⟨fun ξ ξ e=>e,fun b o e nf nx=>⟨Heap.get?_push_of_some _ e,nf,fun m=>(List.mem_append.mp m).elim (fun m=>not_none e (by rw [List.mem_singleton.mp m];exact get_size _)) nx⟩⟩
 obtain ⟨k1,k2,k3⟩:=kp.at_ _ _ g' nf nx
 exact iter_dict sm g' (K _ _ _ _ (.push (tk:=s.toks) R (iter_dct (a:=a) (ep:=n) (I0:=fun X μ h=>h.get? a=some (dctO ds n)∧¬foot μ a∧a∉X∧DRs g.w X μ h es ds.toList) (fun j kp=>(by obtain ⟨k1,k2,k3⟩:=kp.at_ _ _ j.1 j.2.1 j.2.2.1;exact ⟨k1,k2,k3,DRs.mono kp _ j.2.2.2⟩)) fun ξ ξ j=>⟨ds,j.1,j.2.2.2⟩) rfl ⟨by rw [← DRs.size rs];exact ⟨_,Heap.get?_push_size _ rfl,rfl,rfl⟩,k1,k2,k3,DRs.mono kp _ rs⟩))⟩
theorem WalkD.dict {j ep:Nat} {es:List (CV×CV)} (hj:σ[j]?=some (.dict es ep)):WalkD d (.ref j) (es.map (·.1)) (some (j,.dict es ep)) σ:=⟨fun {g A X μ s target u E Q} R r K=>by
 obtain ⟨p,hp,e⟩:=id r
 obtain ⟨ξ,sm,ds,g',rs,nd⟩:=R.obj j p _ hp hj
 rw [e]
 exact iter_dict sm g' (K _ _ _ _ (.push (tk:=s.toks) R (iter_dct (a:=p.1) (ep:=ep) (I0:=fun X μ h=>μ[j]?=some p) (fun j1 kp=>kp.pre _ _ j1) fun R' so j1=>(by obtain ⟨ξ,ξ,ds,g,rs,ξ⟩:=R'.obj j p _ j1 so;exact ⟨ds,g,rs⟩)) rfl ⟨by rw [← DRs.size rs];exact ⟨_,Heap.get?_push_size _ rfl,rfl,rfl⟩,hp⟩))⟩
theorem WalkD.str {y:Str} (h:(y.cps.toList.all (·<128))=true):WalkD d (.str y) (y.cps.toList.map fun c=>.str ⟨#[c]⟩) none σ:=⟨fun {g A X μ s target u E Q} R w39 K=>by
 obtain ⟨t,e⟩:=w39
 rw [e]
 exact wpAny_pyIter_ascii (by rw [← Array.all_toList];exact h) (K _ _ _ _ (.push (tk:=s.toks) R (iter_str (t:=t)) rfl ⟨_,Heap.get?_push_size _ rfl,rfl,rfl⟩))⟩
theorem ItD.val {one:Bool} {v:CV} (S:Does d c ρ σ v σ₁) (W:WalkD d v items so σ₁):ItD d .val one [c] ρ σ items so σ₁:=⟨fun hs ht ok C K=>by
 refine an2 ok fun ξ ξ ok=>?_
 exact S.go (an ok).1 C fun u s₁ μ₁ n=>W.go n.R n.r fun it s₂ Ys I M=>K _ _ _ _ _ (M.after C.R n.toNx)⟩
theorem bi_call {nm:Str} {f:Value} {es:List CE} {vs:List CV} {e:Expr} {Q:Value→Shared→Prop} {s:Shared} (ok:isBi x.sc e nm=true) (hm:biV.contains (nm,f)=true) (hk:KpOk (model pw g.w) (fun ξ=>True) f) (S:DoesL d es ρ σ vs σ₁) (oks:okEs x.sc x.tbl es (view e).l=true) (C:Cx g A d x μ ρ σ s)
  (K:∀us s₁ μ₁,GotL g x.X μ s σ₁ vs us s₁ μ₁→wpAny (model pw g.w) A (call f us) Q E s₁):wpAny (model pw g.w) A (eval e x.env) Q E s:=by
 refine an2 ok fun h1 h2 h3=>?_
 rw [tgE h1]
 show wpAny _ _ (eval (.Call (view e).x _ _ _) _) _ _ _
 rw [tgE h2]
 exact Call_name (okEs_star oks) hk (fun Q' q=>name_bi C h3 hm q) (S.go oks C fun us s₁ μ₁ n=>⟨trivial,K _ _ _ n⟩)
theorem VRs.one {w:World} {X:List Addr} {μ:Mu} {h:Heap} {P:Prop} {v:CV} {us:List Value} (r:VRs w X μ h [v] us) (K:∀u,us=[u]→VR w X μ h v u→P):P:=by
 match us,r with
 | [u],r=>exact K u rfl r.1
 | _::_::_,r=>exact r.2.elim
theorem ItD.range {one:Bool} {n:Int} (S:Does d c ρ σ (.int n) σ₁) (h0:0≤n) (h1:n<BIG):ItD d .range one [c] ρ σ (intsUpto n) none σ₁:=⟨fun {e target g A x μ s E Q} hs ht ok C K=>by
 refine bi_call (f:=.type "range") hs rfl keeps_type (.one S) ok C fun us s₁ μ₁ m=>VRs.one m.r fun u e r=>?_
 obtain ⟨t,e'⟩:=r
 rw [e,e']
 refine call_range_1 ?_
 generalize ho:({ cls:=.type "range",data:=.fields #[.int 0 s₁.toks,.int n t,.int 1 (s₁.toks+1)] }:Obj)=o
 have N:Nx g x.X μ₁ s₁ σ₁ { s₁ with heap:=s₁.heap.push o,toks:=s₁.toks+1+1 } μ₁:=.push m.R o _
 have hr:IsRange (s₁.heap.push o) s₁.heap.objs.size 0 n 1 s₁.toks t (s₁.toks+1):=ho▸Heap.get?_push_size _ rfl
 refine wpAny_pyIter_range hr (range_small ⟨h0,h1⟩) (K _ _ _ _ _ (.after C.R (m.toNx.trans N) (.push (s:={ s₁ with heap:=s₁.heap.push o,toks:=s₁.toks+1+1 }) (tk:=s₁.toks+1+1) N.R (iter_range (n:=n)) rfl ?_)))
 show IsRangeIter _ _ _ _ _
 rw [show Builtin.Range.rangeSize 0 n 1=n.toNat from range_size h0]
 exact Heap.get?_push_size _ rfl⟩
theorem loopy_enum {e it a:Addr} {elts:List Expr} {k:Nat} {p:Pos} {c:CV} (hei:e≠it) (hl:∀σ,srcP σ so→listOf σ c=some l) :
  Loopy g d (.Tuple elts k p) [e,it] (.ref e) (l.zipIdx.map fun (x,i)=>.tup [.int (Int.ofNat i),x]) so (fun X μ h i=>(∃old,IsEnum h e it i old)∧h.IsListIter it a i∧VR g.w X μ h c (.ref a)) where
 live hI b m:=by
  obtain ⟨⟨old,he⟩,⟨o,ho,ξ⟩,ξ⟩:=hI
  exact (List.mem_cons.mp m).elim (fun q=>q▸⟨_,he⟩) fun m=>List.mem_singleton.mp m▸⟨o,ho⟩
 keep hI kp kk:=by
  obtain ⟨⟨old,he⟩,⟨o,ho,r⟩,rc⟩:=hI
  exact ⟨⟨old,kk e (by simp) _ he⟩,⟨o,kk it (by simp) _ ho,r⟩,VR.mono kp _ rc⟩
 item {A X μ σ s i cv N Q E} O R hX so hI hc hq:=listOf_at R hI.2.2 (hl _ so) fun a' xs n e' g' rs=>by
  obtain ⟨⟨old,he⟩,hit,r⟩:=hI
  cases e'
  rw [List.getElem?_map] at hc
  obtain ⟨⟨x,j⟩,h1,h2⟩:=Option.map_eq_some_iff.mp hc
  rw [List.getElem?_zipIdx] at h1
  obtain ⟨y,h3,h4⟩:=Option.map_eq_some_iff.mp h1
  obtain ⟨h4,h5⟩:=Prod.mk.inj h4
  rw [Nat.zero_add] at h5
  refine rs.at h3 fun v hv rv=>?_
  refine wpAny_pyNext_enum_item he hit ⟨_,g',rfl,n,rfl⟩ hv hei fun h' he' hit' ht hz kk=>?_
  refine wpAny_letOwnedTupleGo_enum (s:={ s with heap:=h',toks:=s.toks+1 }) he' fun h'' he'' hs=>?_
  have nb:∀{b},b∉[e,it]→b≠e∧b≠it:=fun nb=>⟨fun q=>nb (q▸.head _),fun q=>nb (q▸.tail _ (.head _))⟩
  have keep2:∀b o,b∉[e,it]→s.heap.get? b=some o→h''.get? b=some o:=fun b o m eq=>hs.extBut b o (nb m).1 (kk b o (nb m).1 (nb m).2 eq)
  have kp:Kp X μ s.heap X μ h'':=R.kpX fun b o eq nx=>keep2 b o (fun m=>nx (hX b m)) eq
  have ht'':h''.get? s.heap.objs.size=some (tupO #[.int i s.toks,v] 0):=hs.extBut _ _ (fun q=>R.notSize.2 (q▸hX e (.head _))) ht
  exact hq (.ref s.heap.objs.size) h'' (s.toks+1) keep2 (h2▸h4▸h5▸⟨_,_,_,rfl,ht'',R.notSize.1,R.notSize.2,⟨_,rfl⟩,VR.mono kp _ rv,trivial⟩) ⟨⟨v,he''⟩,((by obtain ⟨o,ho,r'⟩:=hit';exact ⟨o,hs.extBut _ _ (Ne.symm hei) ho,r'⟩)),VR.mono kp _ r⟩
 done {A X μ σ s Q N E} O R hX so hI hq:=listOf_at R hI.2.2 (hl _ so) fun a' xs n e' g' rs=>by
  obtain ⟨⟨old,he⟩,hit,r⟩:=hI
  cases e'
  exact wpAny_pyNext_enum_end O he hit ⟨_,g',rfl,n,rfl⟩ (Array.getElem?_eq_none (by rw [List.length_map,List.length_zipIdx,VRs.size rs];exact Nat.le_refl _)) fun h' hk=>hq h' s.toks fun b o nb eq=>hk b o (fun q=>nb (q▸.tail _ (.head _))) eq
 self hI q:=(by obtain ⟨⟨ξ,he⟩,ξ⟩:=hI;exact wpAny_pyIter_enum he q)
theorem ItD.enum {v:CV} (S:Does d c ρ σ v σ₁) (hv:listOf σ₁ v=some l) (hl:∀σ,srcP σ so→listOf σ v=some l):ItD d .enum false [c] ρ σ (l.zipIdx.map fun (x,i)=>.tup [.int (Int.ofNat i),x]) so σ₁:=⟨fun {e target g A x μ s E Q} hs ht ok C K=>by
 refine bi_call (f:=.type "enumerate") (an hs).1 rfl keeps_type (.one S) ok C fun us s₁ μ₁ m=>VRs.one m.r fun u e r=>listOf_at m.R r hv fun a xs n e' g' rs=>?_
 rw [e,e']
 rw [tgE ht] at K
 refine call_enumerate_list ⟨_,g',rfl,n,rfl⟩ fun h' he hit hz kk=>?_
 have f:∀b∈[s₁.heap.objs.size+1,s₁.heap.objs.size],s₁.heap.get? b=none∧∃o',h'.get? b=some o':=fun b mb=>(List.mem_cons.mp mb).elim (fun q=>q▸⟨get_ge (Nat.le_succ _),_,he⟩) fun mb=>List.mem_singleton.mp mb▸((by obtain ⟨o,ho,ξ⟩:=hit;exact ⟨get_size _,o,ho⟩))
 exact wpAny_pyIter_enum he (K _ _ _ _ _ (.after C.R m.toNx (.many (tk:=s₁.toks) m.R (loopy_enum (a:=a) (c:=v) (Nat.succ_ne_self _) hl) kk f ⟨⟨_,he⟩,hit,VR.more kk (fun b mb=>(f b mb).1) (e'▸r)⟩)))⟩
end
section
variable {prog:Program} {w:World} {A:Around} {E:Value→Shared→Prop} {s:Shared} {R:Result→Shared→Prop}
theorem append_call {D:Addr} {xs:Array Value} {n:Nat} {x:Value} {Q:Value→Shared→Prop} (ho:s.heap.get? D=some (lstO xs n)) (hz:xs.size≤sizeLine) (h:Q .none { s with heap:=s.heap.update D (Obj.mapSeq fun y=>y.push x) }) :
  wpAny (model prog w) A (call (.builtin "list.append") [.ref D,x]) Q E s:=
 call_meets F.slot_list_append ⟨_,ho,rfl⟩ F.entry_list_append (F.args_list_append_2 _ _) (PySem.list_append D xs n x hz) ⟨ho,h⟩
theorem compStart_sim {elt tg itx:Expr} {gens:List Comprehension} {ifs:List Expr} {scope:Scope} {pos:Pos} {depth:Nat} {it acc:Value} {env:Env} (hg:gens[depth]?=some ⟨tg,itx,ifs,0⟩)
  (self:∀(Q:Value→Shared→Prop) (E:Value→Shared→Prop),Q it s→wpAny (model prog w) A (pyIter it) Q E s)
  (h:codeAny (model prog w) A (.compLoop (.ListComp elt gens scope pos) depth it acc env) R s):codeAny (model prog w) A (.compStart (.ListComp elt gens scope pos) depth it acc env) R s:=by
 refine codeAny_of_tree ?_
 show wpAny _ _ ((compStart (.ListComp elt gens scope pos) depth it acc env).onRaise (fun x=>do noteFrame x env;standAt theWindowsPlace)) _ _ s
 refine wpAny_notedAt ?_
 unfold compStart
 have hc:(clausesOf (.ListComp elt gens scope pos))[depth]?=some ⟨tg,itx,ifs,0⟩:=hg
 rw [hc]
 show wpAny _ _ (ask >>= _) _ _ s
 refine wpAny_bind (wpAny_askSetting (wpAny_ite ?_))
 split
 ·first
   | exact wpAny_bind (wpAny_pure (wpAny_pure (And.intro rfl h)))
   | exact wpAny_pure (And.intro rfl h)
 ·refine wpAny_bind (wpAny_rule ?_)
  show wpAny _ _ (standAt itx.pos >>= _) _ _ s
  exact wpAny_bind (wpAny_standAt (wpAny_bind (self _ _ (wpAny_pure (And.intro rfl h)))))
end
noncomputable def tailT (elt:Expr) (gens:List Comprehension) (scope:Scope) (pos:Pos) (depth:Nat) (acc:Value) (env:Env):Sem Unit:=match gens[depth]? with
 | some g'=>do
  let x ← eval g'.iter env
  standAt g'.iter.pos
  let x ← if g'.is_async != 0 then foldedIterable g'.iter x else foldedSetIterable g'.iter env x
  let _ ← runOwn (.compStart (.ListComp elt gens scope pos) depth (← holding [x] (if g'.is_async != 0 then asyncIter x else pyIter x)) acc env) env
 | none=>do let _ ← call (.builtin "list.append") [acc,← eval elt env]
theorem compTurn_eq {elt tg itx:Expr} {gens:List Comprehension} {ifs:List Expr} {scope:Scope} {pos:Pos} {depth:Nat} {it acc:Value} {env:Env} (hg:gens[depth]?=some ⟨tg,itx,ifs,0⟩) (ha:∀g',gens[depth+1]?=some g'→g'.is_async=0) :
  compTurn (.ListComp elt gens scope pos) depth it acc env=(standAt itx.pos >>= fun ξ=>pyNext it >>= fun r=>match r with
   | none=>pure (.done .next)
   | some v=>letOwnedTupleGo tg it v >>= fun ξ=>assign tg env v >>= fun ξ=>(forIn ifs true fun c r=>if r=true then do let ok ← isTrue c env (eval c env);pure (ForInStep.yield ok) else pure (ForInStep.yield r)) >>= fun ok=>
    if ok=true then tailT elt gens scope pos (depth+1) acc env >>= fun ξ=>again (.compLoop (.ListComp elt gens scope pos) depth it acc env) else again (.compLoop (.ListComp elt gens scope pos) depth it acc env)):=by
 unfold compTurn tailT
 dsimp only
 rw [hg]
 cases h:gens[depth+1]? with
 | none=>rfl
 | some g'=>
  obtain ⟨a,b,c,e⟩:=g'
  obtain rfl:e=0:=ha _ h
  show (standAt itx.pos >>= fun ξ=>pyNext it >>= fun r=>match r with
   | none=>pure (.done .next)
   | some v=>letOwnedTupleGo tg it v >>= fun ξ=>assign tg env v >>= fun ξ=>(forIn ifs true fun c r=>if r=true then do let ok ← isTrue c env (eval c env);pure (ForInStep.yield ok) else pure (ForInStep.yield r)) >>= fun ok=>
    if ok=true then eval b env >>= fun x=>standAt b.pos >>= fun ξ=>foldedSetIterable b env x >>= fun x=>holding [x] (pyIter x) >>= fun y=>runOwn (.compStart (.ListComp elt gens scope pos) (depth+1) y acc env) env >>= fun ξ=>again (.compLoop (.ListComp elt gens scope pos) depth it acc env) else again (.compLoop (.ListComp elt gens scope pos) depth it acc env))=(standAt itx.pos >>= fun ξ=>pyNext it >>= fun r=>match r with
   | none=>pure (.done .next)
   | some v=>letOwnedTupleGo tg it v >>= fun ξ=>assign tg env v >>= fun ξ=>(forIn ifs true fun c r=>if r=true then do let ok ← isTrue c env (eval c env);pure (ForInStep.yield ok) else pure (ForInStep.yield r)) >>= fun ok=>
    if ok=true then (eval b env >>= fun x=>standAt b.pos >>= fun ξ=>foldedSetIterable b env x >>= fun x=>holding [x] (pyIter x) >>= fun y=>runOwn (.compStart (.ListComp elt gens scope pos) (depth+1) y acc env) env >>= fun ξ=>pure ()) >>= fun ξ=>again (.compLoop (.ListComp elt gens scope pos) depth it acc env) else again (.compLoop (.ListComp elt gens scope pos) depth it acc env))
  simp only [bind_assoc,pure_bind]
theorem bindAll_other:∀{is:List Nat} {cs:List CV} {ρ ρ':Loc} {j:Nat},j∉is→bindAll ρ is cs=some ρ'→ρ' j=ρ j:=by
 intro l134
 induction l134 with
 | nil=>
  intro l135
  cases l135 with
  | nil=>
   intro ξ ξ ξ ξ h
   cases h;rfl
  | cons ξ ξ=>
   intro ξ ξ ξ ξ h
   cases h
 | cons i is ih=>
  intro l136
  cases l136 with
  | nil=>
   intro ξ ξ ξ ξ h
   cases h
  | cons ξ cs=>
   intro ρ ξ j n h
   rw [ih (cs:=cs) (fun m=>n (.tail _ m)) h]
   unfold upd
   rw [if_neg fun e=>n (by rw [e];exact .head _)]
theorem bindT_other {σ:CSt} {is:List Nat} {one:Bool} {c:CV} {ρ ρ':Loc} {j:Nat} (n:j∉is) (h:bindT σ ρ is one c=some ρ'):ρ' j=ρ j:=by
 unfold bindT at h
 split at h
 ·exact bindAll_other n h
 ·obtain ⟨l,ξ,h⟩:=Option.bind_eq_some_iff.mp h
  exact bindAll_other n h
structure AccAt (g:Gx) (x:Fx) (μ:Mu) (h:Heap) (D:Addr) (l:List CV):Prop where
 acc:∃xs n,h.get? D=some (lstO xs n)∧VRs g.w x.X μ h l xs.toList
 DX:D∈x.X
 Dn:¬EnvFoot x D
 Do:D∉x.own
structure Tx (g:Gx) (x:Fx) (D:Addr) (μ:Mu) (s:Shared) (ρ:Loc) (σ:CSt) (l:List CV) (s':Shared) (μ':Mu):Prop where
 st:St (D::x.own) μ s μ' s'
 R:Rel g.w g.base x.X μ' σ s'.heap
 V:EnvR g x μ' ρ s'.heap
 a:AccAt g x μ' s'.heap D l
structure TailD (d:Nat) (rest:CC) (ρ:Loc) (σ:CSt) (l':List CV) (σ':CSt):Prop where
 go:∀{elt:Expr} {gens:List Comprehension} {scope osc:Scope} {pos:Pos} {depth:Nat} {g:Gx} {A:Around} {x:Fx} {μ:Mu} {s:Shared} {D:Addr} {l:List CV} {E:Value→Shared→Prop} {Q:Unit→Shared→Prop},okC osc x.sc x.fsc x.tbl false rest elt (gens.drop depth)=true→(targetsC rest).Nodup→
  (∀i∈targetsC rest,ρ i=none)→l.length+l'.length≤BIG→Cx g A d x μ ρ σ s→AccAt g x μ s.heap D l→(∀s' μ',Tx g x D μ s ρ σ' (l++l') s' μ'→Q () s')→wpAny (model pw g.w) A (tailT elt gens scope pos depth (.ref D) x.env) Q E s
structure CondD (d:Nat) (cond:List CE) (ρ:Loc) (σ:CSt) (b:Bool) (σ':CSt):Prop where
 go:∀{ifs:List Expr} {g:Gx} {A:Around} {x:Fx} {μ:Mu} {s:Shared} {E:Value→Shared→Prop} {Q:Bool→Shared→Prop},okEs x.sc x.tbl cond ifs=true→Cx g A d x μ ρ σ s→(∀s' μ',Nx g x.X μ s σ' s' μ'→Q b s')→
  wpAny (model pw g.w) A (forIn ifs true fun c r=>if r=true then do let ok ← isTrue c x.env (eval c x.env);pure (ForInStep.yield ok) else pure (ForInStep.yield r)) Q E s
inductive CLoop (d:Nat) (t:List Nat) (one:Bool) (cond:List CE) (rest:CC) (so:Option (Nat×CObj)):List CV→Loc→CSt→List CV→CSt→Prop
 | nil {ρ σ} (h:srcP σ so):CLoop d t one cond rest so [] ρ σ [] σ
 | cons {v items ρ ρ₁ σ σ₁ σ₂ σ₃ l₁ l₂} (h:srcP σ so) (hb:bindT σ ρ t one v=some ρ₁) (T:CondD d cond ρ₁ σ true σ₁) (B:TailD d rest ρ₁ σ₁ l₁ σ₂) (F:CLoop d t one cond rest so items ρ σ₂ l₂ σ₃):CLoop d t one cond rest so (v::items) ρ σ (l₁++l₂) σ₃
 | skip {v items ρ ρ₁ σ σ₁ σ₃ l₂} (h:srcP σ so) (hb:bindT σ ρ t one v=some ρ₁) (T:CondD d cond ρ₁ σ false σ₁) (F:CLoop d t one cond rest so items ρ σ₁ l₂ σ₃):CLoop d t one cond rest so (v::items) ρ σ l₂ σ₃
section
variable {d:Nat} {ρ:Loc} {σ σ₁ σ':CSt} {c:CE} {v:CV} {b:Bool}
theorem CondD.nil:CondD d [] ρ σ true σ:=⟨fun ok C K=>by
 rw [List.isEmpty_iff.mp ok]
 exact wpAny_tests_nil (K _ _ (.refl C.R))⟩
theorem CondD.one (T:DoesT d c ρ σ b σ₁):CondD d [c] ρ σ b σ₁:=⟨fun {ifs g A x μ s E Q} ok C K=>by
 refine an3 ok fun h1 ξ o1 o2=>?_
 rw [consE h1,List.isEmpty_iff.mp o2]
 exact wpAny_tests_one (T.go o1 C K)⟩
section
variable {g:Gx} {A:Around} {x:Fx} {μ μ' μ₁:Mu} {s s' s₁:Shared} {D:Addr} {l l' items:List CV} {t:List Nat} {one:Bool} {cond:List CE} {rest:CC} {so:Option (Nat×CObj)} {k:IK} {src:List CE}
theorem AccAt.next (a:AccAt g x μ s.heap D l) (R:Rel g.w g.base x.X μ σ s.heap) (st:St [] μ s μ₁ s₁):AccAt g x μ₁ s₁.heap D l:=by
 obtain ⟨xs,n,h,r⟩:=a.acc
 exact ⟨⟨xs,n,st.keep _ _ h (fun f=>R.notX D f a.DX) (by simp),VRs.mono st.kp0 _ r⟩,a.DX,a.Dn,a.Do⟩
theorem AccAt.own (a:AccAt g x μ s.heap D l) (C:Cx g A d x μ ρ σ s) {ρ₁:Loc} (n:Sx g x μ s ρ₁ σ₁ s₁ μ₁):AccAt g x μ₁ s₁.heap D l:=by
 obtain ⟨xs,m,h,r⟩:=a.acc
 exact ⟨⟨xs,m,n.st.keep _ _ h (fun f=>C.R.notX D f a.DX) a.Do,VRs.mono n.kp _ r⟩,a.DX,a.Dn,a.Do⟩
theorem TailD.elt (S:Does d c ρ σ v σ₁):TailD d (.elt c) ρ σ [v] σ₁:=⟨fun {elt gens scope osc pos depth g A x μ s D l E Q} ok nd hn hz C a K=>by
 refine an1 ok fun h1 o1=>?_
 have hg:gens[depth]?=none:=List.getElem?_eq_none (List.drop_eq_nil_iff.mp (List.isEmpty_iff.mp h1))
 unfold tailT
 rw [hg]
 show wpAny _ A (eval elt x.env >>= fun y=>call (.builtin "list.append") [.ref D,y] >>= fun ξ=>pure ()) _ E s
 refine wpAny_bind (S.go o1 C fun u s₁ μ₁ n=>?_)
 have C₁:=C.next n.toNx
 obtain ⟨xs,m,hD,rs⟩:=(a.next C.R n.st).acc
 refine wpAny_bind (append_call hD (big_fits (Nat.le_trans (Nat.le_of_eq (VRs.size rs)) (Nat.le_trans (Nat.le_add_right _ _) hz))) (wpAny_pure (K _ μ₁ ?_)))
 have hs:=Heap.SameBut.update s₁.heap D (Obj.mapSeq fun y=>y.push u)
 have hD₂:=IsL.update hD (fun y=>y.push u)
 have kX:∀b o,s₁.heap.get? b=some o→b∉x.X→(s₁.heap.update D (Obj.mapSeq fun y=>y.push u)).get? b=some o:=fun b o e nx=>hs.extBut b o (fun q=>nx (q▸a.DX)) e
 have zD:∃o,(s₁.heap.update D (Obj.mapSeq fun y=>y.push u)).get? D=some o:=⟨_,hD₂⟩
 have kp:=n.R.kpX kX
 have V₁:EnvR g (x.at x.X) μ₁ ρ s₁.heap:=C₁.V
 refine ⟨?_,n.R.keepX kX fun b m=>if q:b=D then (by rw [q];exact zD) else (by obtain ⟨o,e⟩:=n.R.insideX b m;exact ⟨o,hs.extBut b o q e⟩),V₁.to (fun b o f e=>hs.extBut b o (fun q=>a.Dn (q▸f)) e) kp (fun ξ ξ e=>e) C₁.V.own (fun b f=>(V₁.footX f).1),⟨⟨_,_,hD₂,?_⟩,a.DX,a.Dn,a.Do⟩⟩
 ·exact (n.st.weaken (by simp)).trans (fun b m=>n.R.insideX b ((List.mem_cons.mp m).elim (fun q=>q▸a.DX) (C.V.own b))) ⟨fun ξ ξ e=>e,fun ξ f=>.inl f,fun b o e ξ nr=>hs.extBut b o (fun q=>nr (q▸.head _)) e,rfl,rfl⟩
 ·rw [Array.toList_push]
  exact VRs.append (VRs.mono kp _ rs) ⟨VR.mono kp _ n.r,trivial⟩⟩
structure CI (g:Gx) (d:Nat) (x:Fx) (t:List Nat) (one:Bool) (cond:List CE) (rest:CC) (so:Option (Nat×CObj)) (items:List CV) (ρ:Loc) (σ':CSt) (Ys:List Addr) (I:List Addr→Mu→Heap→Nat→Prop) (D:Addr) (μ:Mu) (s:Shared) (l l':List CV) (μ':Mu) (σ₁:CSt) (i:Nat) (l₁ l₂:List CV) (s':Shared):Prop where
 st:St (D::x.own) μ s μ' s'
 R:Rel g.w g.base (Ys++x.X) μ' σ₁ s'.heap
 V:EnvR g (x.at (Ys++x.X)) μ' ρ s'.heap
 a:AccAt g (x.at (Ys++x.X)) μ' s'.heap D (l++l₁)
 le:i≤items.length
 I:I (Ys++x.X) μ' s'.heap i
 F:CLoop d t one cond rest so (items.drop i) ρ σ₁ l₂ σ'
 hl:l'=l₁++l₂
theorem gen_eta {gn:Comprehension} (h:gn.is_async=0):gn=⟨gn.target,gn.iter,gn.ifs,0⟩:=by cases gn;cases h;rfl
theorem turn_sim {α:Type} {fin:Sem α} {next:Bool→Sem α} {Q:α→Shared→Prop} {E:Value→Shared→Prop} {gn:Comprehension} {Ys:List Addr} {it:Value} {I:List Addr→Mu→Heap→Nat→Prop} {i:Nat} {ρ₁:Loc} {σb:CSt} (W:Loopy g d gn.target Ys it items so I) (ok:okTarget x.fsc x.tbl gn.target t one=true) (okc:okEs x.sc x.tbl cond gn.ifs=true)
  (C:Cx g A d (x.at (Ys++x.X)) μ ρ σ s) (a:AccAt g (x.at (Ys++x.X)) μ s.heap D l) (hI:I (Ys++x.X) μ s.heap i) (XY:∀b∈x.X,b∉Ys) (fX:∀b,EnvFoot x b→b∈x.X) (oX:∀b∈x.own,b∈x.X) (DX:D∈x.X) (so_ok:srcP σ so) (hc:items[i]?=some v) (hb:bindT σ ρ t one v=some ρ₁) (T:CondD d cond ρ₁ σ b σb)
  (K:∀s₆ μ₆,St (Ys++x.own) μ s μ₆ s₆→Cx g A d (x.at (Ys++x.X)) μ₆ ρ₁ σb s₆→AccAt g (x.at (Ys++x.X)) μ₆ s₆.heap D l→I (Ys++x.X) μ₆ s₆.heap (i+1)→wpAny (model pw g.w) A (next b) Q E s₆) :
  wpAny (model pw g.w) A (pyNext it >>= fun r=>match r with
   | none=>fin
   | some v=>letOwnedTupleGo gn.target it v >>= fun ξ=>assign gn.target x.env v >>= fun ξ=>(forIn gn.ifs true fun c r=>if r=true then do let ok ← isTrue c x.env (eval c x.env);pure (ForInStep.yield ok) else pure (ForInStep.yield r)) >>= next) Q E s:=by
 have YX:∀b∈Ys,b∈Ys++x.X:=fun b m=>List.mem_append_left _ m
 have sub:∀b∈x.X,b∈Ys++x.X:=fun b m=>List.mem_append_right _ m
 refine wpAny_bind (wpAny_mono (W.item (N:=fun ξ=>False) (Q:=fun v s₂=>wpAny (model pw g.w) A (assign gn.target x.env v >>= fun ξ=>(forIn gn.ifs true fun c r=>if r=true then do let ok ← isTrue c x.env (eval c x.env);pure (ForInStep.yield ok) else pure (ForInStep.yield r)) >>= next) Q E s₂) C.O.handled C.R YX so_ok hI hc ?k) (fun r s₁ hr=>?m) fun ξ ξ e=>e)
 case m=>
  cases r with
  | none=>exact hr.elim
  | some v=>exact wpAny_bind hr
 case k=>
  intro u h' tk hk r hI'
  have lv:=W.live hI'
  have kX:∀b o,s.heap.get? b=some o→b∉Ys++x.X→h'.get? b=some o:=fun b o e nx=>hk b o (fun m=>nx (YX b m)) e
  have kp:=C.R.kpX kX
  have R₃:Rel g.w g.base (Ys++x.X) μ σ h':=C.R.keepX kX fun b m=>if q:b∈Ys then lv b q else (by obtain ⟨o,e⟩:=C.R.insideX b m;exact ⟨o,hk b o q e⟩)
  have V₃:EnvR g (x.at (Ys++x.X)) μ ρ h':=C.V.to (x:=x) (fun b o f e=>hk b o (XY b (fX b f)) e) kp (fun ξ ξ e=>e) (fun b m=>sub b (oX b m)) fun b f=>sub b (fX b f)
  have C₃:Cx g A d (x.at (Ys++x.X)) μ ρ σ { s with heap:=h',toks:=tk }:=⟨C.B,C.O,V₃,R₃⟩
  have a₃:AccAt g (x.at (Ys++x.X)) μ h' D l:=(by obtain ⟨xs,n,h,r⟩:=a.acc;exact ⟨⟨xs,n,hk _ _ (XY D DX) h,VRs.mono kp _ r⟩,a.DX,a.Dn,a.Do⟩)
  have st₃:St (Ys++x.own) μ s μ { s with heap:=h',toks:=tk }:=⟨fun ξ ξ e=>e,fun ξ f=>.inl f,fun b o e ξ nr=>hk b o (fun m=>nr (List.mem_append_left _ m)) e,rfl,rfl⟩
  have inX:∀{ρ₂:Loc} {σ₂:CSt} {s₂:Shared} {μ₂:Mu},Cx g A d (x.at (Ys++x.X)) μ₂ ρ₂ σ₂ s₂→∀b∈Ys++x.own,∃o,s₂.heap.get? b=some o:=fun C b m=>C.R.insideX b ((List.mem_append.mp m).elim (YX b) fun m=>sub b (oX b m))
  refine wpAny_bind (target_sim (x:=x.at (Ys++x.X)) ok hb C₃ r fun s₅ n=>?_)
  have C₅:=C₃.then n
  refine wpAny_bind (T.go (x:=x.at (Ys++x.X)) okc C₅ fun s₆ μ₆ m=>?_)
  have N:=n.trans (C₅.sx m)
  have N0:St x.own μ { s with heap:=h',toks:=tk } μ₆ s₆:=N.st
  exact K s₆ μ₆ (st₃.trans (inX C₃) (N0.weaken fun b m=>.inl (List.mem_append_right _ m))) (C₃.then N) (a₃.own C₃ N) (W.keep hI' N.kp fun b m o e=>N0.keep b o e (fun f=>R₃.notX b f (YX b m)) fun mo=>XY b (oX b mo) m)
theorem loop_sim {elt:Expr} {gens:List Comprehension} {gn:Comprehension} {scope osc:Scope} {pos:Pos} {depth:Nat} {Ys:List Addr} {it:Value} {I:List Addr→Mu→Heap→Nat→Prop} {RR:Result→Shared→Prop} {μ₀:Mu} {s₀:Shared} (hg:gens[depth]?=some gn) (h0:gn.is_async=0) (ok:okTarget x.fsc x.tbl gn.target t one=true)
  (okc:okEs x.sc x.tbl cond gn.ifs=true) (okr:okC osc x.sc x.fsc x.tbl false rest elt (gens.drop (depth+1))=true) (W:Loopy g d gn.target Ys it items so I) (st₀:St (D::x.own) μ₀ s₀ μ s) (fr:∀b∈Ys,s₀.heap.get? b=none) (XY:∀b∈x.X,b∉Ys) (fX:∀b,EnvFoot x b→b∈x.X) (oX:∀b∈x.own,b∈x.X) (DX:D∈x.X)
  (C:Cx g A d (x.at (Ys++x.X)) μ ρ σ s) (a:AccAt g (x.at (Ys++x.X)) μ s.heap D l) (hI:I (Ys++x.X) μ s.heap 0) (F:CLoop d t one cond rest so items ρ σ l' σ') (hn:∀i∈t++targetsC rest,ρ i=none) (nd:(t++targetsC rest).Nodup) (hz:l.length+l'.length≤BIG)
  (K:∀s' μ',Tx g x D μ₀ s₀ ρ σ' (l++l') s' μ'→RR (.ok .next) s'):codeAny (model pw g.w) A (.compLoop (.ListComp elt gens scope pos) depth it (.ref D) x.env) RR s:=by
 have YX:∀b∈Ys,b∈Ys++x.X:=fun b m=>List.mem_append_left _ m
 have sub:∀b∈x.X,b∈Ys++x.X:=fun b m=>List.mem_append_right _ m
 have DO:∀b∈D::x.own,b∈x.X:=fun b m=>(List.mem_cons.mp m).elim (fun q=>q▸DX) (oX b)
 have ha:∀g',gens[depth+1]?=some g'→g'.is_async=0:=fun g' e=>by
  cases rest with
  | elt _=>rw [← List.head?_drop,List.isEmpty_iff.mp (an okr).1] at e;cases e
  | gen=>
   have h:=(an (an okr).2).1
   rw [← List.head?_drop] at e
   rw [List.headD_eq_head?_getD,e] at h
   exact of_decide_eq_true h
 have step:∀{fr':List Addr} {μ' μ'':Mu} {s' s'':Shared} {σ':CSt},Rel g.w g.base (Ys++x.X) μ' σ' s'.heap→St (D::x.own) μ₀ s₀ μ' s'→(∀b∈fr',b∈Ys∨b∈D::x.own)→St fr' μ' s' μ'' s''→St (D::x.own) μ₀ s₀ μ'' s'':=fun R a k b=>
  ((a.weaken fun b m=>.inl (List.mem_append_right _ m)).trans (fun b m=>R.insideX b ((List.mem_append.mp m).elim (YX b) fun m=>sub b (DO b m))) (b.weaken fun b m=>.inl (List.mem_append.mpr (k b m)))).weaken fun b m=>(List.mem_append.mp m).elim (fun m=>.inr (fr b m)) .inl
 refine codeAny_loop rfl (fun n s'=>∃μ' σ₁ i l₁ l₂,n=(items.drop i).length+1∧CI g d x t one cond rest so items ρ σ' Ys I D μ₀ s₀ l l' μ' σ₁ i l₁ l₂ s') ?_ _ ⟨μ,σ,0,[],l',rfl,st₀,C.R,C.V,(List.append_nil l).symm▸a,Nat.zero_le _,hI,F,rfl⟩
 rintro n s' ⟨μ',σ₁,i,l₁,l₂,hn',J⟩
 generalize hr:items.drop i=todo at *
 have F:=hr▸J.F
 show wpAny _ A ((compTurn (.ListComp elt gens scope pos) depth it (.ref D) x.env).onRaise (fun x_1=>do noteFrame x_1 x.env;theTreesLotGoes x_1)) _ _ s'
 refine wpAny_noted ?_
 rw [compTurn_eq (tg:=gn.target) (itx:=gn.iter) (ifs:=gn.ifs) (hg.trans (congrArg some (gen_eta h0))) ha]
 refine wpAny_bind (wpAny_standAt ?_)
 have C':Cx g A d (x.at (Ys++x.X)) μ' ρ σ₁ s':=⟨C.B,C.O,J.V,J.R⟩
 have less:∀{σ₁:CSt} {v:CV} {ρ₁:Loc},bindT σ₁ ρ t one v=some ρ₁→(∀j v,ρ j=some v→ρ₁ j=some v)∧∀j∈targetsC rest,ρ₁ j=none:=fun hb=>⟨fun j v e=>by
  rw [bindT_other (fun m=>by rw [hn j (List.mem_append_left _ m)] at e;cases e) hb];exact e,fun j m=>by
  rw [bindT_other (fun m'=>(List.nodup_append.mp nd).2.2 j m' j m rfl) hb]
  exact hn j (List.mem_append_right _ m)⟩
 have back:∀{μ₆:Mu} {ρ₁:Loc} {σb:CSt} {s₆:Shared},Cx g A d (x.at (Ys++x.X)) μ₆ ρ₁ σb s₆→(∀j v,ρ j=some v→ρ₁ j=some v)→EnvR g (x.at (Ys++x.X)) μ₆ ρ s₆.heap:=fun C le=>C.V.to (x:=x) (fun ξ ξ ξ e=>e) ⟨fun ξ ξ e=>e,fun ξ ξ e nf nx=>⟨e,nf,nx⟩⟩ le (fun b m=>sub b (oX b m)) fun b f=>sub b (fX b f)
 cases F with
 | nil so_ok=>
  have hi:i=items.length:=Nat.le_antisymm J.le (List.drop_eq_nil_iff.mp hr)
  refine wpAny_bind (wpAny_mono (W.done (N:=fun ξ ξ=>False) (Q:=fun s₄=>RR (.ok .next) s₄) C.O.handled J.R YX so_ok (hi▸J.I) fun h' tk hk=>K _ μ' ?_) (fun r s₁ hr=>?_) fun ξ ξ e=>e)
  ·have kX:∀b o,s'.heap.get? b=some o→b∉Ys++x.X→h'.get? b=some o:=fun b o e nx=>hk b o (fun m=>nx (YX b m)) e
   have kp:Kp (Ys++x.X) μ' s'.heap x.X μ' h':=⟨fun ξ ξ e=>e,fun b o e nf nx=>⟨kX b o e nx,nf,fun m=>nx (sub b m)⟩⟩
   obtain ⟨xs,n',hD,rs⟩:=J.a.acc
   exact ⟨J.st.off fr hk,J.R.drop kX sub fun b m=>(by obtain ⟨o,e⟩:=J.R.insideX b (sub b m);exact ⟨o,hk b o (XY b m) e⟩),J.V.to (x:=x) (X':=x.X) (fun b o f e=>hk b o (XY b (fX b f)) e) kp (fun ξ ξ e=>e) oX fX,
    ⟨xs,n',hk _ _ (XY D DX) hD,J.hl▸(List.append_nil l₁).symm▸VRs.mono kp _ rs⟩,DX,J.a.Dn,J.a.Do⟩
  ·cases r with
   | none=>exact wpAny_pure hr
   | some v=>exact hr.elim
 | @cons v' r' _ ρ₁ _ σb σc _ m₁ m₂ so_ok hb T B F=>
  obtain ⟨hc,hd⟩:=drop_cons hr
  obtain ⟨le,hnb⟩:=less hb
  refine turn_sim W ok okc C' J.a J.I XY fX oX DX so_ok hc hb T fun s₆ μ₆ st₆ C₆ a₆ I₆=>?_
  have hl:=J.hl
  refine wpAny_bind (B.go (x:=x.at (Ys++x.X)) okr (List.nodup_append.mp nd).2.1 hnb (by rw [hl] at hz;simp only [List.length_append] at hz ⊢;lia) C₆ a₆ fun s₇ μ₇ N=>wpAny_pure ⟨rfl,_,?_,μ₇,σc,i+1,l₁++m₁,m₂,rfl,?_⟩)
  ·rw [hn',hd];exact Nat.lt_succ_self _
  ·have s₇':=step C₆.R (step J.R J.st (fun b m=>(List.mem_append.mp m).imp id (.tail _)) st₆) (fun b m=>.inr m) N.st
   exact ⟨s₇',N.R,back ⟨C.B,C.O,N.V,N.R⟩ le,by rw [← List.append_assoc];exact N.a,(List.getElem?_eq_some_iff.mp hc).1,W.keep I₆ (N.st.kp fun b m=>sub b (DO b m)) fun b m o e=>N.st.keep b o e (fun f=>C₆.R.notX b f (YX b m)) fun mo=>XY b (DO b mo) m,hd▸F,by rw [hl,List.append_assoc]⟩
 | skip so_ok hb T F=>
  obtain ⟨hc,hd⟩:=drop_cons hr
  obtain ⟨le,hnb⟩:=less hb
  refine turn_sim W ok okc C' J.a J.I XY fX oX DX so_ok hc hb T fun s₆ μ₆ st₆ C₆ a₆ I₆=>wpAny_pure ⟨rfl,_,?_,μ₆,_,i+1,l₁,l₂,rfl,step J.R J.st (fun b m=>(List.mem_append.mp m).imp id (.tail _)) st₆,C₆.R,back C₆ le,a₆,(List.getElem?_eq_some_iff.mp hc).1,I₆,hd▸F,J.hl⟩
  rw [hn',hd];exact Nat.lt_succ_self _
end
end
noncomputable def closeL (env:Env):List (Str×NameKind)→List (Str×Addr)→List (Str×Addr)
 | [],cs=>cs
 | (n,k)::r,cs=>closeL env r (if k==.free then (n,(env.cells.lookup n).getD 0)::cs else cs)
theorem forIn_close {env:Env}:∀(l:List (Str×NameKind)) (cs:List (Str×Addr)),(∀x∈l,x.2 = .free→(env.cells.lookup x.1).isSome=true)→
  (forIn (m:=Sem) l cs fun x cs=>if x.2==.free then (do let a ← cellOf env x.1;pure (ForInStep.yield ((x.1,a)::cs))) else pure (ForInStep.yield cs))=pure (closeL env l cs):=by
 intro l8
 induction l8 with
 | nil=>
  intro cs ξ
  exact rfl
 | cons a9 r ih=>
  obtain ⟨n,k⟩:=a9
  intro cs h
  rw [List.forIn_cons]
  by_cases hk:(k==NameKind.free)=true
  ·obtain ⟨a,ha⟩:=Option.isSome_iff_exists.mp (h (n,k) (.head _) (beq_iff_eq.mp hk))
   have:cellOf env n=pure a:=by unfold cellOf;simp only at ha;rw [ha]
   simp only [hk,if_true,this,pure_bind]
   rw [ih _ fun x m=>h x (.tail _ m)]
   simp only [closeL,hk,if_true]
   simp only at ha
   rw [ha];rfl
  ·simp only [Bool.not_eq_true] at hk
   simp only [hk,Bool.false_eq_true,if_false,pure_bind]
   rw [ih _ fun x m=>h x (.tail _ m)]
   simp only [closeL,hk,Bool.false_eq_true,if_false]
theorem closureFor_eq {env:Env} {scope:Scope} (h:∀x∈scope.names,x.2 = .free→(env.cells.lookup x.1).isSome=true):closureFor scope env=pure (closeL env scope.names []):=by
 have:=forIn_close (env:=env) scope.names [] h
 show (forIn (m:=Sem) scope.names [] (fun x cs=>if x.2==.free then (do let a ← cellOf env x.1;pure (ForInStep.yield ((x.1,a)::cs))) else pure (ForInStep.yield cs)) >>= fun cs=>pure cs)=_
 rw [this,pure_bind]
theorem closeL_sub {env:Env}:∀(l:List (Str×NameKind)) (cs:List (Str×Addr)),(∀x∈l,x.2 = .free→(env.cells.lookup x.1).isSome=true)→(∀y c,cs.lookup y=some c→env.cells.lookup y=some c)→∀y c,(closeL env l cs).lookup y=some c→env.cells.lookup y=some c:=by
 intro l10
 induction l10 with
 | nil=>
  intro ξ ξ k y c e
  exact k y c e
 | cons a11 r ih=>
  obtain ⟨n,kd⟩:=a11
  intro cs h k y c e
  refine ih _ (fun x m=>h x (.tail _ m)) (fun y c e=>?_) y c e
  split at e
  ·rename_i hk
   obtain ⟨a,ha⟩:=Option.isSome_iff_exists.mp (h (n,kd) (.head _) (beq_iff_eq.mp hk))
   rw [List.lookup_cons] at e
   split at e
   ·rename_i hy
    have:y=n:=by simpa using hy
    subst this
    simp only at ha
    rw [ha] at e⊢
    exact e
   ·exact k y c e
  ·exact k y c e
theorem closeL_has {env:Env}:∀(l:List (Str×NameKind)) (cs:List (Str×Addr)) (y:Str),((y,NameKind.free)∈l∨(cs.lookup y).isSome=true)→((closeL env l cs).lookup y).isSome=true:=by
 intro l12
 induction l12 with
 | nil=>
  intro ξ ξ h
  exact h.elim (fun m=>by cases m) id
 | cons a13 r ih=>
  obtain ⟨n,kd⟩:=a13
  intro cs y h
  refine ih _ y ?_
  rcases h with m | h
  ·rcases List.mem_cons.mp m with e | m
   ·cases e
    right
    simp [List.lookup_cons]
   ·exact .inl m
  ·right
   split
   ·rw [List.lookup_cons]
    split
    ·rfl
    ·exact h
   ·exact h
theorem lookup_relab {sc:Scope} {p:Str→Bool}:∀(l:List (Str×NameKind)) (x:Str),(l.map fun (n,k)=>if k==.free&&p n then (n,NameKind.cell) else (n,k)).lookup x=(l.lookup x).map fun k=>if k==.free&&p x then .cell else k:=by
 intro l14
 induction l14 with
 | nil=>
  intro ξ
  exact rfl
 | cons a15 r ih=>
  obtain ⟨n,k⟩:=a15
  intro x
  have ih:=ih x
  show List.lookup x ((if (k==NameKind.free&&p n)=true then (n,NameKind.cell) else (n,k))::r.map fun (n,k)=>if k==.free&&p n then (n,NameKind.cell) else (n,k))=_
  by_cases hx:(x==n)=true
  ·have:x=n:=by simpa using hx
   subst this
   by_cases q:(k==NameKind.free&&p x)=true
   ·rw [if_pos q,List.lookup_cons,List.lookup_cons,hx]
    show some NameKind.cell=some (if (k==NameKind.free&&p x)=true then NameKind.cell else k)
    rw [if_pos q]
   ·rw [if_neg q,List.lookup_cons,List.lookup_cons,hx]
    show some k=some (if (k==NameKind.free&&p x)=true then NameKind.cell else k)
    rw [if_neg q]
  ·simp only [Bool.not_eq_true] at hx
   by_cases q:(k==NameKind.free&&p n)=true
   ·rw [if_pos q,List.lookup_cons,List.lookup_cons,hx];exact ih
   ·rw [if_neg q,List.lookup_cons,List.lookup_cons,hx];exact ih
structure CompOk (sc fsc':Scope) (tbl:List Str) (ts:List Nat):Prop where
 fn:fsc'.kind = .function
 loc:∀x∈fsc'.names,x.2 = .local→fsc'.names.lookup x.1=some .local
 cell:∀x∈fsc'.names,x.2≠.cell
 free:∀x∈fsc'.names,x.2 = .free→(sc.names.lookup x.1=some .cell∨sc.names.lookup x.1=some .free)∧x.1∈tbl
 own:∀x∈fsc'.names,x.2 = .local→x.1∈tbl→∃i∈ts,tbl[i]?=some x.1
theorem compOk_of {sc fsc':Scope} {tbl:List Str} {ts:List Nat} (h1:okCompScope sc fsc'=true) (h2:(fsc'.names.all fun x=>!(x.2==.local||x.2==.cell)||!tbl.contains x.1||ts.any fun i=>decide (tbl[i]?=some x.1))=true) (h3:(fsc'.names.all fun x=>x.2 != .free||tbl.contains x.1)=true):CompOk sc fsc' tbl ts:=by
 unfold okCompScope at h1
 simp only [Bool.and_eq_true,decide_eq_true_eq,List.all_eq_true,Bool.or_eq_true,bne_iff_ne,Bool.not_eq_true'] at h1 h2 h3
 obtain ⟨⟨⟨⟨⟨⟨a1,ξ⟩,ξ⟩,a2⟩,a3⟩,a4⟩,ξ⟩:=h1
 refine ⟨a1,fun x m e=>(a2 x m).resolve_left (fun q=>q e),fun x m=>a3 x m,fun x m e=>⟨(a4 x m).resolve_left fun q=>q e,?_⟩,fun x m e mt=>?_⟩
 ·exact List.contains_iff_mem.mp ((h3 x m).resolve_left fun q=>q e)
 ·rcases h2 x m with (q | q) | q
  ·rw [e] at q;exact nomatch q
  ·exact absurd (List.contains_iff_mem.mpr mt) (by rw [q];nofun)
  ·obtain ⟨i,hi,hq⟩:=List.any_eq_true.mp q
   exact ⟨i,hi,of_decide_eq_true hq⟩
theorem relabel_eq {fsc' sc:Scope} {env:Env} (h:env.scope=sc):relabel fsc' env=compScope sc fsc':=by
 unfold relabel compScope Env.kindOf
 rw [h]
 congr 1
 refine List.map_congr_left fun ⟨n,k⟩ ξ=>?_
 have:(List.lookup n sc.names==some NameKind.cell)=decide (List.lookup n sc.names=some NameKind.cell):=by
  by_cases q:List.lookup n sc.names=some NameKind.cell
  ·rw [decide_eq_true q,q];rfl
  ·rw [decide_eq_false q];exact beq_eq_false_iff_ne.mpr q
 dsimp only
 rw [this]
theorem comp_lookup {sc fsc':Scope} (x:Str):(compScope sc fsc').names.lookup x=(fsc'.names.lookup x).map fun k=>if k==.free&&(sc.kind==.function&&decide (sc.names.lookup x=some .cell)) then .cell else k:=by
 have:=lookup_relab (sc:=sc) (p:=fun n=>sc.kind==.function&&decide (sc.names.lookup n=some .cell)) fsc'.names x
 rw [← this]
 unfold compScope
 simp only [Bool.and_assoc]
noncomputable def compFx (x:Fx) (fsc':Scope) (cenv:Env) (L:Addr) (X:List Addr):Fx:=⟨fsc',compScope x.sc fsc',x.tbl,cenv,X,[L]⟩
section
variable {g:Gx} {A:Around} {d:Nat} {x:Fx} {X:List Addr} {μ μ':Mu} {ρ:Loc} {σ:CSt} {s:Shared} {h h':Heap} {fsc':Scope} {ts:List Nat} {L:Addr} {cenv:Env}
theorem frees_of (K:CompOk x.sc fsc' x.tbl ts) (V:EnvR g x μ ρ h):∀y∈fsc'.names,y.2 = .free→(x.env.cells.lookup y.1).isSome=true:=fun y m e=>by
 obtain ⟨h1,h2⟩:=K.free y m e
 obtain ⟨i,hi⟩:=List.mem_iff_getElem?.mp h2
 obtain ⟨c,ξ,h3,ξ⟩:=V.cell i y.1 hi h1
 rw [h3];rfl
theorem comp_free (K:CompOk x.sc fsc' x.tbl ts) {y:Str} (hx:(compScope x.sc fsc').names.lookup y=some .cell∨(compScope x.sc fsc').names.lookup y=some .free):(y,NameKind.free)∈fsc'.names:=by
 rw [comp_lookup] at hx
 cases q:fsc'.names.lookup y with
 | none=>rw [q] at hx;rcases hx with hx | hx<;>cases hx
 | some kd=>
  rw [q] at hx
  have m:=lookup_mem q
  cases kd with
  | free=>exact m
  | cell=>exact absurd rfl (K.cell _ m)
  | _=>rcases hx with hx | hx<;>cases hx
theorem comp_local {y:Str} (h2:(compScope x.sc fsc').names.lookup y=some .local):fsc'.names.lookup y=some .local:=by
 rw [comp_lookup] at h2
 cases q:fsc'.names.lookup y with
 | none=>rw [q] at h2;cases h2
 | some kd=>
  rw [q,Option.map_some] at h2
  replace h2:=Option.some.inj h2
  split at h2
  ·cases h2
  ·rw [h2]
theorem EnvR.comp (K:CompOk x.sc fsc' x.tbl ts) (V:EnvR g x μ ρ h) (k:∀b o,b∈x.X→h.get? b=some o→h'.get? b=some o) (kpX:Kp x.X μ h X μ' h') (sub:∀b∈x.X,b∈X) (LX:L∈X) (fL:h.get? L=none) (hm:h'.Ns L fun ξ=>none)
  (he:cenv={ compEnvC fsc' (closeL x.env fsc'.names []) L x.env with builtins:=x.env.builtins }):EnvR g (compFx x fsc' cenv L X) μ' (clr ts ρ) h'∧∀b,EnvFoot (compFx x fsc' cenv L X) b→b=L∨(b∈x.X∧∃o,h.get? b=some o):=by
 have frees:=frees_of K V
 have clrl:∀i v,clr ts ρ i=some v→ρ i=some v:=fun i v e=>by unfold clr at e;split at e;cases e;exact e
 have eC:cenv.cells=closeL x.env fsc'.names []:=by rw [he];rfl
 have eL:cenv.locals=L:=by rw [he];rfl
 have cellsub:=closeL_sub (env:=x.env) fsc'.names [] frees (by intro y c e;cases e)
 have cellOf':∀(i:Nat) y,x.tbl[i]?=some y→((compScope x.sc fsc').names.lookup y=some .cell∨(compScope x.sc fsc').names.lookup y=some .free)→∃c ov,cenv.cells.lookup y=some c∧c∈x.X∧h.IsCell c ov∧∀v,ρ i=some v→∃u,ov=some u∧VR g.w x.X μ h v u:=fun i y hi hx=>by
  have m:=comp_free K hx
  obtain ⟨c,ov,h3,h4,ξ,h5,h6⟩:=V.cell i y hi (K.free _ m rfl).1
  obtain ⟨c',hc'⟩:=Option.isSome_iff_exists.mp (closeL_has (env:=x.env) fsc'.names [] y (.inl m))
  have e:=Option.some.inj (h3.symm.trans (cellsub y c' hc'))
  exact ⟨c,ov,eC▸e▸hc',h4,h5,h6⟩
 refine ⟨{ scope:=by rw [he];exact relabel_eq V.scope,fn:=K.fn,glob:=by rw [he];exact V.glob,blt:=by rw [he];exact V.blt,ns:=⟨fun ξ=>none,eL▸hm,fun i y v h1 h2 h3=>?_⟩,locX:=eL▸.head _,cell:=fun i y h1 h2=>?_,inj:=fun y z c hx hy=>V.inj y z c (cellsub y c (eC▸hx)) (cellsub z c (eC▸hy)),lset:=fun y hx=>?_,set:=fun y hx=>absurd rfl (K.cell _ (lookup_mem hx)),cset:=fun y hx=>absurd rfl (K.cell _ (lookup_mem hx)),own:=fun b m=>List.mem_singleton.mp m▸LX,tbl:=V.tbl },fun b f=>?_⟩
 ·obtain ⟨j,hj,e⟩:=K.own _ (lookup_mem (comp_local h2)) rfl (List.mem_iff_getElem?.mpr ⟨i,h1⟩)
  have:j=i:=tbl_inj V.tbl e h1
  unfold clr at h3
  rw [if_pos (List.contains_iff_mem.mpr (this▸hj))] at h3
  cases h3
 ·obtain ⟨c,ov,g1,g2,⟨o,g3,g4⟩,g5⟩:=cellOf' i y h1 h2
  refine ⟨c,ov,g1,sub c g2,fun e=>?_,⟨o,k _ _ g2 g3,g4⟩,fun v hv=>?_⟩
  ·exact not_none (show h.get? L=some o from eL▸e▸g3) fL
  ·obtain ⟨u,e,r⟩:=g5 v (clrl _ _ hv)
   exact ⟨u,e,VR.mono kpX _ r⟩
 ·show (compScope x.sc fsc').names.lookup y=some .local
  rw [comp_lookup,show fsc'.names.lookup y=some .local from hx];rfl
 ·rcases f with e | ⟨i,y,h1,h2,h3⟩
  ·exact .inl (e.trans eL)
  ·obtain ⟨c,ov,g1,g2,⟨o,g3,ξ⟩,ξ⟩:=cellOf' i y h1 h2
   exact .inr (Option.some.inj (g1.symm.trans h3)▸⟨g2,o,g3⟩)
end
section
variable {d:Nat} {ρ:Loc} {σ σ₁ σ':CSt} {l' items:List CV} {t:List Nat} {one:Bool} {cond:List CE} {rest:CC} {so:Option (Nat×CObj)} {k:IK} {src:List CE}
theorem okC_gen {osc sc fsc:Scope} {tbl:List Str} {f:Bool} {e:Expr} {gens:List Comprehension} (h:okC osc sc fsc tbl f (.gen t one k src cond rest) e gens=true) {zz:Prop} (kk:∀gn,gens=gn::gens.tail→gn.is_async=0→okTarget fsc tbl gn.target t one=true→notSet gn.iter=true→srcSide (if f then osc else sc) k one gn.iter=true→okEs (if f then osc else sc) tbl src (srcArgs k gn.iter)=true→okEs sc tbl cond gn.ifs=true→okC osc sc fsc tbl false rest e gens.tail=true→zz):zz:=by
 refine an7 h fun h1 h2 h3 h4 h5 h6 h7 h=>?_
 cases gens with
 | nil=>cases h1
 | cons gn gs=>exact kk gn rfl (of_decide_eq_true h2) h3 h4 h5 h6 h7 ((an h).2)
theorem TailD.gen (S:ItD d k one src ρ σ items so σ₁) (F:CLoop d t one cond rest so items ρ σ₁ l' σ'):TailD d (.gen t one k src cond rest) ρ σ l' σ':=⟨fun {elt gens scope osc pos depth g A x μ s D l E Q} ok nd hn hz C a K=>by
 refine okC_gen ok fun gn hgs h0 h3 h4 h5 h6 h7 h8=>?_
 have hg:gens[depth]?=some gn:=by rw [← List.head?_drop,hgs];rfl
 rw [List.tail_drop] at h8
 unfold tailT
 rw [hg]
 dsimp only
 rw [h0]
 show wpAny _ A (eval gn.iter x.env >>= fun y=>standAt gn.iter.pos >>= fun ξ=>foldedSetIterable gn.iter x.env y >>= fun y=>holding [y] (pyIter y) >>= fun y=>runOwn (.compStart (.ListComp elt gens scope pos) depth y (.ref D) x.env) x.env >>= fun ξ=>pure ()) _ E s
 refine wpAny_bind (wpAny_mono (S.go (E:=E) h5 (okTarget_tg h3) h6 C (Q:=fun it s₂=>wpAny (model pw g.w) A (runOwn (.compStart (.ListComp elt gens scope pos) depth it (.ref D) x.env) x.env >>= fun ξ=>pure ()) Q E s₂) fun it s₂ μ₂ Ys I M=>?_) (fun y s₁ hx=>wpAny_bind (wpAny_standAt ?_)) fun ξ ξ e=>e)
 ·have V0:EnvR g (x.at x.X) μ ρ s.heap:=C.V
  have offY:∀b o,s.heap.get? b=some o→b∉Ys:=fun b o e m=>not_none e (M.fr b m)
  have sub:∀b∈x.X,b∈Ys++x.X:=fun b m=>List.mem_append_right _ m
  have keep₂:∀b o,b∈x.X→s.heap.get? b=some o→s₂.heap.get? b=some o:=fun b o m e=>M.st.keep b o e (fun f=>C.R.notX b f m) (by simp)
  have kp₂:Kp x.X μ s.heap (Ys++x.X) μ₂ s₂.heap:=⟨M.st.pre,fun b o e nf nx=>⟨M.st.keep b o e nf (by simp),((M.st.kp0 (X:=x.X)).at_ b o e nf nx).2.1,fun m=>(List.mem_append.mp m).elim (offY b o e) nx⟩⟩
  obtain ⟨xs,n,hD,rs⟩:=a.acc
  have C₂:Cx g A d (x.at (Ys++x.X)) μ₂ ρ σ₁ s₂:=⟨C.B,C.O,V0.to (fun b o f e=>keep₂ b o (V0.footX f).1 e) kp₂ (fun ξ ξ e=>e) (fun b m=>sub b (C.V.own b m)) fun b f=>sub b (V0.footX f).1,M.R⟩
  refine wpAny_bind (wpAny_runOwn (codeAny_mono (compStart_sim (R:=fun r s'=>r = .ok .next∧Q () s') (hg.trans (congrArg some (gen_eta h0))) (fun Q E' q=>M.W.self M.I0 q) ?_) fun r s' hr=>?_))
  ·exact loop_sim hg h0 h3 h7 h8 M.W (M.st.weaken (by simp)) M.fr (fun b m=>(by obtain ⟨o,e⟩:=C.R.insideX b m;exact offY b o e)) (fun b f=>(V0.footX f).1) C.V.own a.DX C₂ ⟨⟨xs,n,keep₂ _ _ a.DX hD,VRs.mono kp₂ _ rs⟩,sub _ a.DX,a.Dn,a.Do⟩ M.I0 F hn nd hz fun s' μ' T=>⟨rfl,K s' μ' T⟩
  ·rw [hr.1]
   exact wpAny_pure hr.2
 ·rw [foldedSet_plain h4]
  exact wpAny_bind (wpAny_pure (wpAny_bind (wpAny_holding hx)))⟩
end
section
variable {w:World} {base:Heap} {X Y:List Addr} {μ:Mu} {σ:CSt} {h h':Heap}
theorem snoc_at {α:Type} {l:List α} {a b:α} {i:Nat} {P:Prop} (h:(l++[a])[i]?=some b) (k1:i<l.length→l[i]?=some b→P) (k2:i=l.length→b=a→P):P:=by
 by_cases lt:i<l.length
 ·exact k1 lt ((List.getElem?_append_left lt).symm.trans h)
 ·rw [List.getElem?_append_right (Nat.le_of_not_lt lt)] at h
  cases q:i - l.length with
  | zero=>rw [q] at h;exact k2 (by lia) (Option.some.inj h).symm
  | succ k=>rw [q] at h;cases h
theorem Rel.adopt {D:Addr} {o':CObj} (R:Rel w base Y μ σ h) (sub:∀b∈X,b∈Y) (DY:D∈Y) (DX:D∉X) (n:Kp Y μ h X (μ++[(D,D)]) h→OR w X (μ++[(D,D)]) h (D,D) o'):Rel w base X (μ++[(D,D)]) (σ++[o']) h:=by
 have kp:Kp Y μ h X (μ++[(D,D)]) h:=⟨fun i q e=>by rw [List.getElem?_append_left (List.getElem?_eq_some_iff.mp e).1];exact e,fun b o e nf nx=>⟨e,fun f=>(foot_snoc.mp f).elim nf fun q=>nx (q.elim (·▸DY) (·▸DY)),fun m=>nx (sub b m)⟩⟩
 have off:∀{i:Nat} {q:Addr×Addr},μ[i]?=some q→q.1≠D∧q.2≠D:=fun {i q} e=>⟨fun z=>R.notX D ⟨i,q,e,.inl z.symm⟩ DY,fun z=>R.notX D ⟨i,q,e,.inr z.symm⟩ DY⟩
 have ft:∀{P:Addr→Prop} {b:Addr},foot (μ++[(D,D)]) b→(foot μ b→P b)→P D→P b:=fun f k1 k2=>(foot_snoc.mp f).elim k1 fun q=>q.elim (fun q=>q▸k2) fun q=>q▸k2
 refine ⟨by rw [List.length_append,List.length_append,R.len];rfl,fun j q o hq ho=>?_,fun i j q r ne hq hr=>?_,fun b f=>ft (P:=fun b=>b∉X) f (fun f m=>R.notX b f (sub b m)) DX,R.keep,fun b f=>ft (P:=fun b=>base.get? b=none) f (R.above b) (R.aboveX D DY),fun b f=>ft (P:=fun b=>∃o,h.get? b=some o) f (R.inside b) (R.insideX D DY),fun b m=>R.insideX b (sub b m),fun b m=>R.aboveX b (sub b m)⟩
 ·refine snoc_at hq (fun l e=>?_) fun l e=>?_
  ·rw [List.getElem?_append_left (R.len▸l)] at ho
   exact OR.mono kp (fun b o e ξ=>e) (R.notX _ ⟨j,q,e,.inl rfl⟩) (R.notX _ ⟨j,q,e,.inr rfl⟩) (R.obj j q o e ho)
  ·rw [l,R.len] at ho
   rw [e,Option.some.inj (ho.symm.trans List.getElem?_concat_length)]
   exact n kp
 ·refine snoc_at hq (fun l1 e1=>snoc_at hr (fun l2 e2=>R.apart i j q r ne e1 e2) fun l2 e2=>?_) fun l1 e1=>snoc_at hr (fun l2 e2=>?_) fun l2 e2=>absurd (l1.trans l2.symm) ne
  ·have:=off e1;rw [e2];exact ⟨this.1,this.1,this.2,this.2⟩
  ·have:=off e2;rw [e1];exact ⟨Ne.symm this.1,Ne.symm this.2,Ne.symm this.1,Ne.symm this.2⟩
end
noncomputable def madeOf (m:Bool) (l:List CV) (σ:CSt):CV×CSt:=if m then (.ref σ.length,σ++[.list l]) else (.lst l,σ)
structure CEnd (g:Gx) (x:Fx) (μ:Mu) (s:Shared) (σ:CSt) (l:List CV) (L D:Addr) (s':Shared) (μ':Mu):Prop where
 st:St [] μ s μ' s'
 R:Rel g.w g.base (L::D::x.X) μ' σ s'.heap
 acc:∃xs n,s'.heap.get? D=some (lstO xs n)∧VRs g.w (L::D::x.X) μ' s'.heap l xs.toList
 ns:∃nm,s'.heap.Ns L nm
 LD:L≠D
 nD:s.heap.get? D=none
 nL:s.heap.get? L=none
section
variable {g:Gx} {A:Around} {d:Nat} {x:Fx} {X:List Addr} {μ μ':Mu} {ρ ρ':Loc} {σ σ₁ σ₂:CSt} {s s':Shared} {L D:Addr} {l items:List CV} {t:List Nat} {one:Bool} {cond:List CE} {rest:CC} {so:Option (Nat×CObj)} {k:IK} {src:List CE} {m:Bool}
theorem CEnd.made (m:Bool) (H:CEnd g x μ s σ l L D s' μ') (C:Cx g A d x μ ρ σ₁ s) {P:Prop} (K:∀μ'',St [] μ s μ'' s'→Rel g.w g.base (L::x.X) μ'' (madeOf m l σ).2 s'.heap→VR g.w (L::x.X) μ'' s'.heap (madeOf m l σ).1 (.ref D)→P):P:=by
 have sub:∀b∈L::x.X,b∈L::D::x.X:=fun b m=>(List.mem_cons.mp m).elim (fun q=>q▸.head _) fun m=>.tail _ (.tail _ m)
 have DY:D∈L::D::x.X:=.tail _ (.head _)
 have DX:D∉L::x.X:=fun m=>(List.mem_cons.mp m).elim (fun q=>H.LD q.symm) fun m=>(by obtain ⟨o,e⟩:=C.R.insideX D m;exact not_none e H.nD)
 obtain ⟨xs,n,hD,rs⟩:=H.acc
 cases m with
 | true=>
  refine K (μ'++[(D,D)]) ⟨fun i p e=>by rw [List.getElem?_append_left (List.getElem?_eq_some_iff.mp (H.st.pre i p e)).1];exact H.st.pre i p e,fun b f=>(foot_snoc.mp f).elim (H.st.new b) fun q=>.inr (q.elim (·▸H.nD) (·▸H.nD)),H.st.keep,H.st.os,H.st.gens⟩ (H.R.adopt sub DY DX fun kp=>⟨rfl,xs,n,hD,VRs.mono kp _ rs⟩) ⟨(D,D),?_,rfl⟩
  show (μ'++[(D,D)])[σ.length]?=some (D,D)
  rw [← H.R.len];exact List.getElem?_concat_length
 | false=>exact K μ' H.st (H.R.fewer sub) ⟨D,xs,n,rfl,hD,fun f=>H.R.notX D f DY,DX,VRs.mono ⟨fun ξ ξ e=>e,fun b o e nf nx=>⟨e,nf,fun m=>nx (sub b m)⟩⟩ _ rs⟩
theorem old_none {μ₂:Mu} {s₂:Shared} (st:St [] μ s μ₂ s₂) (R:Rel g.w g.base X μ σ s.heap) {b:Addr} (R₂:∀b,foot μ₂ b→∃o,s₂.heap.get? b=some o) (n:s₂.heap.get? b=none):s.heap.get? b=none:=none_of (fun o e=>⟨o,by
 by_cases f:foot μ b
 ·obtain ⟨o',e'⟩:=R₂ b (f.pre st.pre)
  exact (not_none e' n).elim
 ·exact st.keep b o e f (by simp)⟩) n
theorem comp_run {e:Expr} {p:Pos} {E:Value→Shared→Prop} {use:Option (Value→Sem Unit)} {Q:Value→Shared→Prop} (S:ItD d k one src ρ σ items so σ₁) (F:CLoop d t one cond rest so items (clr (targetsC (.gen t one k src cond rest)) ρ) σ₁ l σ₂) (hz:l.length≤BIG) (ok:okE x.sc x.tbl (.comp m (.gen t one k src cond rest)) e=true) (C:Cx g A d x μ ρ σ s)
  (K:∀L D s' μ',CEnd g x μ s σ₂ l L D s' μ'→compPost (model pw g.w) A E use Q (.ref D) L (.ok .next) s'):wpAny (model pw g.w) A (comprehension (.ListComp (view e).x (view e).g (view e).f (view e).p) (view e).f x.env p (newList []) (firstAsync (view e).g) (firstIter (view e).g x.env) use) Q E s:=by
 refine an6 ok fun h1 ξ k1 k2 k3 k4 ok=>?_
 have KO:=compOk_of (ts:=targetsC (.gen t one k src cond rest)) k1 k2 k3
 refine okC_gen ok fun gn hgs h0 h3 h4 h5 h6 h7 h8=>?_
 generalize (view e).f=fsc' at *
 generalize (view e).x=elt at *
 have hg:(view e).g[0]?=some gn:=by rw [hgs];rfl
 rw [show firstAsync (view e).g=false by rw [hgs,gen_eta h0];rfl,show firstIter (view e).g x.env=eval gn.iter x.env by rw [hgs,gen_eta h0];rfl]
 refine wpAny_comprehension_free (g:=gn) (gs:=(view e).g.tail) hgs (fun x=>foldedSet_plain h4) (closureFor_eq (frees_of KO C.V)) KO.fn KO.loc (S.go h5 (okTarget_tg h3) h6 C fun itv s₂ μ₂ Ys I M=>?_)
 refine wpAny_newList ?_ (by decide)
 refine wpAny_newFunctionEnv KO.cell (by simp) (fun h' hns hsb=>?_) KO.fn
 have eL:∀o:Obj,(s₂.heap.push o).objs.size=s₂.heap.objs.size+1:=fun o=>Heap.size_push _ o
 dsimp only at hns hsb⊢
 generalize hD:s₂.heap.objs.size=D at hns hsb⊢
 generalize hL:(s₂.heap.push { cls:=.type "list",data:=.seq ([]:List Value).toArray }).objs.size=L at hns hsb⊢
 have LD:L≠D:=by rw [← hL,← hD,eL];exact Nat.succ_ne_self _
 have nD:s₂.heap.get? D=none:=hD▸get_size _
 have nL:s₂.heap.get? L=none:=get_ge (by rw [← hL,eL];exact Nat.le_succ _)
 have k₃:∀b o,s₂.heap.get? b=some o→h'.get? b=some o:=fun b o e=>hsb.extBut b o (fun q=>not_none (q▸e) nL) (Heap.get?_push_of_some _ (Heap.get?_push_of_some _ e))
 have gD:h'.get? D=some (lstO #[] 0):=hsb.extBut _ _ (Ne.symm LD) (Heap.get?_push_of_some _ (by rw [← hD];exact Heap.get?_push_size _ rfl))
 obtain ⟨oL,esL,epL,gL,dL⟩:=id hns
 have inM:∀b,foot μ₂ b→∃o,s₂.heap.get? b=some o:=M.R.inside
 have nDs:s.heap.get? D=none:=old_none M.st C.R inM nD
 have nLs:s.heap.get? L=none:=old_none M.st C.R inM nL
 have keepX:∀b o,b∈x.X→s.heap.get? b=some o→h'.get? b=some o:=fun b o m e=>k₃ b o (M.st.keep b o e (fun f=>C.R.notX b f m) (by simp))
 have LDX:∀b∈Ys++(L::D::x.X),b∈[L,D]∨b∈Ys++x.X:=fun b m=>by
  rcases List.mem_append.mp m with m | m
  ·exact .inr (List.mem_append_left _ m)
  ·rcases List.mem_cons.mp m with q | m
   ·exact .inl (q▸.head _)
   ·exact (List.mem_cons.mp m).imp (fun q=>by rw [q];exact .tail _ (.head _)) (List.mem_append_right _)
 have new2:∀b∈[L,D],s₂.heap.get? b=none∧s.heap.get? b=none∧∃o,h'.get? b=some o:=fun b m=>(List.mem_cons.mp m).elim (fun q=>q▸⟨nL,nLs,oL,gL⟩) fun m=>List.mem_singleton.mp m▸⟨nD,nDs,_,gD⟩
 have R₃:Rel g.w g.base (Ys++(L::D::x.X)) μ₂ σ₁ h':=(M.R.more (Y:=[L,D]) k₃ fun b m=>⟨(new2 b m).1,(new2 b m).2.2⟩).fewer fun b m=>List.mem_append.mpr (LDX b m)
 have offY:∀b o,s.heap.get? b=some o→b∉Ys:=fun b o e m=>not_none e (M.fr b m)
 have liveY:∀b∈Ys,∃o,s₂.heap.get? b=some o:=M.W.live M.I0
 have kp₀:Kp x.X μ s.heap (Ys++(L::D::x.X)) μ₂ h':=⟨M.st.pre,fun b o e nf nx=>⟨k₃ b o (M.st.keep b o e nf (by simp)),((M.st.kp0 (X:=x.X)).at_ b o e nf nx).2.1,fun m=>(LDX b m).elim (fun m=>not_none e (new2 b m).2.1) fun m=>(List.mem_append.mp m).elim (offY b o e) nx⟩⟩
 have sub:∀b∈x.X,b∈L::D::x.X:=fun b m=>.tail _ (.tail _ m)
 have sub':∀b∈L::D::x.X,b∈Ys++(L::D::x.X):=fun b m=>List.mem_append_right _ m
 obtain ⟨VC,hfoot⟩:=EnvR.comp (X:=Ys++(L::D::x.X)) (cenv:={ newEnv fsc' L x.env.globals (closeL x.env fsc'.names []) x.env.qual none .none (some x.env) builtinsNs with scope:=relabel fsc' x.env }) KO C.V (fun b o m e=>keepX b o m e) kp₀ (fun b m=>sub' b (sub b m)) (sub' _ (.head _)) nLs hns rfl
 have XY:∀b∈L::D::x.X,b∉Ys:=fun b m my=>by
  rcases List.mem_cons.mp m with q | m
  ·obtain ⟨o,e⟩:=liveY b my;exact not_none (q▸e) nL
  ·rcases List.mem_cons.mp m with q | m
   ·obtain ⟨o,e⟩:=liveY b my;exact not_none (q▸e) nD
   ·obtain ⟨o,e⟩:=C.R.insideX b m;exact offY b o e my
 generalize hce:({ newEnv fsc' L x.env.globals (closeL x.env fsc'.names []) x.env.qual none .none (some x.env) builtinsNs with scope:=relabel fsc' x.env }:Env)=cenv at VC hfoot⊢
 have fX:∀b,EnvFoot (compFx x fsc' cenv L (L::D::x.X)) b→b∈L::D::x.X:=fun b f=>(hfoot b f).elim (fun e=>e▸.head _) fun w43=>by obtain ⟨m,ξ⟩:=w43;exact sub b m
 have oX:∀b∈[L],b∈L::D::x.X:=fun b m=>List.mem_singleton.mp m▸.head _
 have kp₃:Kp (Ys++x.X) μ₂ s₂.heap (Ys++(L::D::x.X)) μ₂ h':=⟨fun ξ ξ e=>e,fun b o e nf nx=>⟨k₃ b o e,nf,fun m=>(LDX b m).elim (fun m=>not_none e (new2 b m).1) nx⟩⟩
 have hI':=M.W.keep M.I0 kp₃ fun b ξ o e=>k₃ b o e
 refine compStart_sim (prog:=pw) (hg.trans (congrArg some (gen_eta h0))) (fun Q E' q=>M.W.self hI' q) ?_
 have st₀:St [] μ s μ₂ { s₂ with heap:=h' }:=M.st.trans0 (St.of_keeps (tk:=s₂.toks) k₃)
 refine loop_sim (x:=compFx x fsc' cenv L (L::D::x.X)) (l:=[]) (s₀:=s) (μ₀:=μ) hg h0 h3 h7 (by rw [List.drop_one];exact h8) M.W (st₀.weaken (by simp)) M.fr XY fX oX (.tail _ (.head _)) ⟨C.B,C.O,VC,R₃⟩ ⟨⟨#[],0,gD,trivial⟩,sub' _ (.tail _ (.head _)),fun f=>(hfoot D f).elim (fun e=>LD e.symm) fun w42=>by obtain ⟨ξ,o,e⟩:=w42;exact not_none e nDs,fun m=>LD (List.mem_singleton.mp m).symm⟩ hI' F (fun i m=>if_pos (List.contains_iff_mem.mpr m)) (of_decide_eq_true k4) (by rw [List.length_nil,Nat.zero_add];exact hz) fun s' μ' T=>K L D s' μ' ?_
 obtain ⟨nm,hnm,ξ⟩:=T.V.ns
 exact ⟨T.st.weaken fun b m=>.inr ((List.mem_cons.mp m).elim (fun q=>q▸nDs) fun m=>List.mem_singleton.mp m▸nLs),T.R,T.a.acc,⟨nm,(show cenv.locals=L by rw [← hce];rfl)▸hnm⟩,LD,nDs,nLs⟩
theorem comp_use {e:Expr} {E:Value→Shared→Prop} {use:Value→Sem Unit} {Q:Unit→Shared→Prop} (S:ItD d k one src ρ σ items so σ₁) (F:CLoop d t one cond rest so items (clr (targetsC (.gen t one k src cond rest)) ρ) σ₁ l σ₂) (hz:l.length≤BIG) (ok:okE x.sc x.tbl (.comp m (.gen t one k src cond rest)) e=true) (C:Cx g A d x μ ρ σ s)
  (hu:∀{L:Addr} {s₁:Shared} {μ₁:Mu} {u:Value} {Q':Unit→Shared→Prop},Cx g A d (x.at (L::x.X)) μ₁ ρ (madeOf m l σ₂).2 s₁→VR g.w (L::x.X) μ₁ s₁.heap (madeOf m l σ₂).1 u→(∀s₂,Sx g (x.at (L::x.X)) μ₁ s₁ ρ' (madeOf m l σ₂).2 s₂ μ₁→Q' () s₂)→wpAny (model pw g.w) A (use u) Q' E s₁)
  (K:∀s' μ',Sx g x μ s ρ' (madeOf m l σ₂).2 s' μ'→Q () s'):wpAny (model pw g.w) A (evalThenUse e x.env use) Q E s:=by
 have V0:EnvR g (x.at x.X) μ ρ s.heap:=C.V
 rw [tgE (an ok).1]
 show wpAny _ A (evalThenUse (.ListComp _ _ _ _) x.env use) _ E s
 refine wpAny_bind (comp_run (E:=E) (use:=some use) (Q:=fun ξ s'=>wpAny (model pw g.w) A (pure ()) Q E s') S F hz ok C fun L D s' μ' H=>?_)
 ·obtain ⟨nm,hns⟩:=H.ns
  refine H.made m C fun μ'' st R r=>?_
  have offL:∀b o,s.heap.get? b=some o→b≠L:=fun b o e q=>not_none (q▸e) H.nL
  have subX:∀b∈x.X,b∈L::x.X:=fun b m=>.tail _ m
  have V₃:EnvR g (x.at (L::x.X)) μ'' ρ s'.heap:=V0.to (fun b o f e=>st.keep b o e (fun g=>C.R.notX b g (V0.footX f).1) (by simp)) ⟨st.pre,fun b o e nf nx=>⟨st.keep b o e nf (by simp),fun g=>(st.new b g).elim nf fun z=>not_none e z,fun mb=>(List.mem_cons.mp mb).elim (offL b o e) nx⟩⟩ (fun ξ ξ e=>e) (fun b m=>subX b (C.V.own b m)) fun b f=>subX b (V0.footX f).1
  have C₃:Cx g A d (x.at (L::x.X)) μ'' ρ (madeOf m l σ₂).2 s':=⟨C.B,C.O,V₃,R⟩
  refine hu C₃ r fun s₂ n=>?_
  have Lown:L∉x.own:=fun mo=>(by obtain ⟨o,e⟩:=C.R.insideX L (C.V.own L mo);exact not_none e H.nL)
  obtain ⟨o,es,ep,ho,hrest⟩:=hns
  refine ⟨nm,⟨o,es,ep,n.st.keep L o ho (fun f=>R.notX L f (.head _)) Lown,hrest⟩,fun h' hs'=>wpAny_pure (K _ μ'' ?_)⟩
  have a:St x.own μ s μ'' s₂:=(st.weaken (by simp)).trans (fun b mo=>R.insideX b (V₃.own b mo)) n.st
  have Rn:Rel g.w g.base (L::x.X) μ'' (madeOf m l σ₂).2 s₂.heap:=n.R
  have Vn:EnvR g (x.at (L::x.X)) μ'' ρ' s₂.heap:=n.V
  have kk:∀b o,s₂.heap.get? b=some o→b∉L::x.X→h'.get? b=some o:=fun b o e ny=>hs'.extBut b o (fun q=>ny (q▸.head _)) e
  exact ⟨⟨a.pre,a.new,fun b o e nf no=>hs'.extBut b o (offL b o e) (a.keep b o e nf no),a.os,a.gens⟩,Rn.drop (X:=x.X) kk subX fun b mb=>(by obtain ⟨o',e⟩:=Rn.insideX b (subX b mb);exact ⟨o',hs'.extBut b o' (fun q=>(by obtain ⟨o2,e2⟩:=C.R.insideX b mb;exact not_none (q▸e2) H.nL)) e⟩),
   Vn.to (X':=x.X) (fun b o f e=>hs'.extBut b o ((by obtain ⟨ξ,o,e⟩:=V0.footX f;exact offL b o e)) e) ⟨fun ξ ξ e=>e,fun b o e nf nx=>⟨kk b o e nx,nf,fun m=>nx (subX b m)⟩⟩ (fun ξ ξ e=>e) C.V.own fun b f=>(V0.footX f).1⟩
theorem Does.compG (S:ItD d k one src ρ σ items so σ₁) (F:CLoop d t one cond rest so items (clr (targetsC (.gen t one k src cond rest)) ρ) σ₁ l σ₂) (hz:l.length≤BIG):Does d (.comp m (.gen t one k src cond rest)) ρ σ (madeOf m l σ₂).1 (madeOf m l σ₂).2:=⟨fun {e g A x μ s E Q} ok C K=>by
 rw [tgE (an ok).1]
 refine comp_run (E:=E) (use:=none) (Q:=Q) S F hz ok C fun L D s' μ' H=>?_
 ·obtain ⟨nm,hns⟩:=H.ns
  refine H.made m C fun μ'' st R r=>⟨nm,hns,fun h' hs'=>K _ _ μ'' ?_⟩
  have offL:∀b o,s.heap.get? b=some o→b≠L:=fun b o e q=>not_none (q▸e) H.nL
  have subX:∀b∈x.X,b∈L::x.X:=fun b m=>.tail _ m
  have kk:∀b o,s'.heap.get? b=some o→b∉L::x.X→h'.get? b=some o:=fun b o e ny=>hs'.extBut b o (fun q=>ny (q▸.head _)) e
  exact ⟨⟨⟨st.pre,st.new,fun b o e nf no=>hs'.extBut b o (offL b o e) (st.keep b o e nf no),st.os,st.gens⟩,R.drop (X:=x.X) kk subX fun b mb=>(by obtain ⟨o',e⟩:=R.insideX b (subX b mb);exact ⟨o',hs'.extBut b o' (fun q=>(by obtain ⟨o2,e2⟩:=C.R.insideX b mb;exact not_none (q▸e2) H.nL)) e⟩)⟩,
   VR.mono ⟨fun ξ ξ e=>e,fun b o e nf nx=>⟨kk b o e nx,nf,fun m=>nx (subX b m)⟩⟩ _ r⟩⟩
theorem Does.comp (S:ItD d k one src ρ σ items so σ₁) (F:CLoop d t one cond rest so items (clr (targetsC (.gen t one k src cond rest)) ρ) σ₁ l σ₂) (hz:l.length≤BIG):Does d (.comp false (.gen t one k src cond rest)) ρ σ (.lst l) σ₂:=.compG (m:=false) S F hz
theorem ExD.assignC {i:Nat} (S:ItD d k one src ρ σ items so σ₁) (F:CLoop d t one cond rest so items (clr (targetsC (.gen t one k src cond rest)) ρ) σ₁ l σ₂) (hz:l.length≤BIG):ExD d (.assign i (.comp m (.gen t one k src cond rest))) ρ σ .next (upd ρ i (madeOf m l σ₂).1) (madeOf m l σ₂).2:=⟨fun {st g A x μ s E Q} ok he C K=>by
 refine an4 ok fun h1 h2 o1 o2 ok=>?_
 rw [tgSE h1]
 show wpAny _ _ (exec (.Assign [(viewS st).x] _ _) _) _ _ _
 rw [tgE h2]
 show wpAny _ _ (exec (.Assign [.Name _ _] _ _) _) _ _ _
 rw [arm_exec_Assign]
 refine wpAny_bind (wpAny_standAt ?_)
 obtain ⟨b,hb⟩:∃b,swapsWith (viewS st).y (some (.Name (view (viewS st).x).s (view (viewS st).x).p)) (viewS st).p.line x.env=pure b:=by rw [tgE (an o2).1];exact ⟨_,rfl⟩
 show wpAny _ A (swapsWith (viewS st).y (some (.Name (view (viewS st).x).s (view (viewS st).x).p)) (viewS st).p.line x.env >>= _) _ E s
 rw [hb]
 refine wpAny_bind (wpAny_pure ?_)
 cases b with
 | false=>
  refine wpAny_bind ((Does.compG S F hz).go o2 C fun u s₁ μ₁ n=>wpAny_bind (wpAny_pure ?_))
  show wpAny _ A (PySem.assign (.Name (view (viewS st).x).s (view (viewS st).x).p) x.env u >>= fun ξ=>pure Flow.next) _ E s₁
  exact wpAny_bind (assign_Name (store_sim (C.next n.toNx) (he▸o1) n.r fun s₂ m=>wpAny_pure (K _ _ _ ((C.sx n.toNx).trans m) rfl)))
 | true=>
  refine wpAny_bind (comp_use (ρ':=upd ρ i (madeOf m l σ₂).1) S F hz o2 C (fun {L s₁ μ₁ u Q'} C₁ r k=>?_) fun s' μ' n=>wpAny_pure (K _ _ μ' n rfl))
  show wpAny _ A (PySem.assign (.Name (view (viewS st).x).s (view (viewS st).x).p) x.env u) _ E s₁
  exact assign_Name (store_sim (x:=x.at (L::x.X)) C₁ (he▸o1) r k)⟩
end
section
variable {w:World} {A:Around} {E:Value→Shared→Prop} {s:Shared} {it t:Addr} {i n:Nat} {xs:Array Value} {x:Value} {Q:Value→Shared→Prop}
theorem nextOf_tup (hit:s.heap.IsTupleIter it t i) (ht:s.heap.get? t=some (tupO xs n))
  (K:∀{o:Obj},s.heap.get? it=some o→o.cls = .type "tuple_iterator"→o.data = .fields #[.ref t,.int i 0]→wpAny (model pw w) A.in1 (match xs[i]? with
   | some x=>(do setField (.ref it) 1 (rawInt ((i:Int)+1));ret x:Sem PySem.Fin)
   | none=>(do rule "tuple_iterator.__next__.end";setField (.ref it) 0 .none;Builtin.SmallTypes.stopIteration)) (fun fin s'=>∃v,fin = .done (.ret v)∧wpAny (model pw w) A (pure v) Q E s') E s):wpAny (model pw w) A (Builtin.SmallTypes.nextOf (.ref it)) Q E s:=by
 obtain ⟨o,ho,hc,hd⟩:=id hit
 refine wpAny_bind (wpAny_callSpecial?_slot (name:=Str.ofString "__next__") hit.typeIs PySem.F.slot_tuple_iterator_next
  (wpAny_call_entry PySem.F.slot_tuple_iterator_next hit.typeIs PySem.F.entry_tuple_iterator_next ?_ (PySem.F.args_tuple_iterator_next_1 _)))
 show wpAny _ _ (field (.ref it) 0 >>= _) _ _ s
 refine wpAny_bind (wpAny_field ho hd (x:=.ref t) rfl ?_)
 show wpAny _ _ (field (.ref it) 1 >>= _) _ _ s
 refine wpAny_bind (wpAny_field ho hd (x:=.int i 0) rfl ?_)
 exact wpAny_bind (m:=seqItems? (.ref t)) (wpAny_seqItems ht rfl (K ho hc hd))
theorem nextOf_item (hit:s.heap.IsTupleIter it t i) (ht:s.heap.get? t=some (tupO xs n)) (hx:xs[i]?=some x)
  (hQ:∀h',h'.IsTupleIter it t (i+1)→Heap.SameBut it s.heap h'→Q x { s with heap:=h' }):wpAny (model pw w) A (Builtin.SmallTypes.nextOf (.ref it)) Q E s:=
 nextOf_tup hit ht fun ho hc hd=>by
  rw [hx]
  exact wpAny_bind (wpAny_setField ho hd (Nat.le_refl 2) (wpAny_pure ⟨x,rfl,wpAny_pure (hQ _ ⟨_,Heap.get?_update_self _ ho (Obj.isFreed_of_fields (Obj.data_mapFields hd _)),(Obj.cls_mapFields ..).trans hc,by
   rw [Obj.data_mapFields hd];rfl⟩ (Heap.SameBut.update ..))⟩))
theorem stop_iter {α:Type} {Q:α→Shared→Prop} (hh:A.handled=none) (hE:∀h' e,(∀b o,s.heap.get? b=some o→h'.get? b=some o)→s.heap.get? e=none→(∃o,h'.get? e=some o∧o.cls = .type "StopIteration")→E (.ref e) { s with heap:=h' }):wpAny (model pw w) A (Builtin.SmallTypes.stopIteration) Q E s:=by
 refine wpAny_bind (wpAny_bind (m:=newTuple []) (wpAny_newTuple ?_))
 refine wpAny_bind (m:=firstArgMember _ _) (wpAny_of_eq (a:=Value.none) (by simp only [firstArgMember];rfl) ?_)
 refine wpAny_newObj_type ?_ (by size_fits)
 refine wpAny_bind (wpAny_handled ?_)
 rw [hh]
 exact wpAny_bind (wpAny_pure (wpAny_throw (hE _ _ (fun ξ ξ e=>Heap.get?_push_of_some _ (Heap.get?_push_of_some _ e)) (get_ge (Heap.size_push ..▸Nat.le_succ _)) ⟨_,Heap.get?_push_size _ rfl,rfl⟩)))
theorem nextOf_end (hh:A.handled=none) (hit:s.heap.IsTupleIter it t i) (ht:s.heap.get? t=some (tupO xs n)) (hx:xs[i]?=none)
  (hE:∀h' e,(∀b o,b≠it→s.heap.get? b=some o→h'.get? b=some o)→s.heap.get? e=none→(∃o,h'.get? e=some o∧o.cls = .type "StopIteration")→E (.ref e) { s with heap:=h' }):wpAny (model pw w) A (Builtin.SmallTypes.nextOf (.ref it)) Q E s:=
 nextOf_tup hit ht fun ho hc hd=>by
  rw [hx]
  exact wpAny_bind (wpAny_rule (wpAny_bind (wpAny_setField ho hd (Nat.le_succ 1) (stop_iter hh fun h' e k n c=>hE h' e (fun b o nb e=>k b o ((Heap.SameBut.update ..).extBut b o nb e)) (none_of (fun o q=>if z:e=it then ⟨_,(congrArg _ z).trans (Heap.get?_update_self (Obj.mapFields (·.setIfInBounds 0 Value.none)) ho (Obj.isFreed_of_fields (Obj.data_mapFields hd _)))⟩ else ⟨_,(Heap.SameBut.update ..).extBut e o z q⟩) n) c))))
end
abbrev zipO (L:Addr) (f0:Value) (b:Bool):Obj:={ cls:=.type "zip",dict:=none,data:=.fields #[f0,.bool b,.bool false,.ref (L+2),.ref (L+3)],slots:=#[] }
abbrev zipY (L:Addr):List Addr:=[L+4,L+2,L+3,L,L+1]
structure ZF (h0:Heap) (N:Nat) (L t1 t2:Addr) (f0:Value) (f:Bool) (a b:Value) (j k:Nat) (h:Heap):Prop where
 z:h.get? (L+4)=some (zipO L f0 f)
 TI:IsPair h (L+2) (.ref L) (.ref (L+1))
 TO:IsPair h (L+3) a b
 i1:h.IsTupleIter L t1 j
 i2:h.IsTupleIter (L+1) t2 k
 kk:∀b o,b∉zipY L→h0.get? b=some o→h.get? b=some o
 sz:h.objs.size=N
section
variable {h0 h h':Heap} {N:Nat} {L t1 t2:Addr} {f0 f1:Value} {f f':Bool} {a b a' b':Value} {j k j' k':Nat}
theorem ne_add (L:Nat) {a b:Nat} (n:a≠b):L+a≠L+b:=fun q=>n (Nat.add_left_cancel q)
theorem offZ {b c:Addr} (m:c∈zipY L) (n:b∉zipY L):b≠c:=fun q=>n (q▸m)
theorem m4:L+4∈zipY L:=.head _
theorem m2:L+2∈zipY L:=.tail _ (.head _)
theorem m3:L+3∈zipY L:=.tail _ (.tail _ (.head _))
theorem m0:L∈zipY L:=.tail _ (.tail _ (.tail _ (.head _)))
theorem m1:L+1∈zipY L:=.tail _ (.tail _ (.tail _ (.tail _ (.head _))))
theorem ZF.z' (Z:ZF h0 N L t1 t2 f0 f a b j k h) (s:Heap.SameBut (L+4) h h') (n:h'.get? (L+4)=some (zipO L f1 f')):ZF h0 N L t1 t2 f1 f' a b j k h':=
 ⟨n,s.extBut _ _ (ne_add L (a:=2) (b:=4) (by decide)) Z.TI,s.extBut _ _ (ne_add L (a:=3) (b:=4) (by decide)) Z.TO,Z.i1.extBut s.extBut (ne_add L (a:=0) (b:=4) (by decide)),Z.i2.extBut s.extBut (ne_add L (a:=1) (b:=4) (by decide)),fun b o n e=>s.extBut _ _ (offZ m4 n) (Z.kk b o n e),s.1.trans Z.sz⟩
theorem ZF.TO' (Z:ZF h0 N L t1 t2 f0 f a b j k h) (s:Heap.SameBut (L+3) h h') (n:IsPair h' (L+3) a' b'):ZF h0 N L t1 t2 f0 f a' b' j k h':=
 ⟨s.extBut _ _ (ne_add L (a:=4) (b:=3) (by decide)) Z.z,s.extBut _ _ (ne_add L (a:=2) (b:=3) (by decide)) Z.TI,n,Z.i1.extBut s.extBut (ne_add L (a:=0) (b:=3) (by decide)),Z.i2.extBut s.extBut (ne_add L (a:=1) (b:=3) (by decide)),fun b o n e=>s.extBut _ _ (offZ m3 n) (Z.kk b o n e),s.1.trans Z.sz⟩
theorem ZF.i1' (Z:ZF h0 N L t1 t2 f0 f a b j k h) (s:Heap.SameBut L h h') (n:h'.IsTupleIter L t1 j'):ZF h0 N L t1 t2 f0 f a b j' k h':=
 ⟨s.extBut _ _ (ne_add L (a:=4) (b:=0) (by decide)) Z.z,s.extBut _ _ (ne_add L (a:=2) (b:=0) (by decide)) Z.TI,s.extBut _ _ (ne_add L (a:=3) (b:=0) (by decide)) Z.TO,n,Z.i2.extBut s.extBut (ne_add L (a:=1) (b:=0) (by decide)),fun b o n e=>s.extBut _ _ (offZ m0 n) (Z.kk b o n e),s.1.trans Z.sz⟩
theorem ZF.i2' (Z:ZF h0 N L t1 t2 f0 f a b j k h) (s:Heap.SameBut (L+1) h h') (n:h'.IsTupleIter (L+1) t2 k'):ZF h0 N L t1 t2 f0 f a b j k' h':=
 ⟨s.extBut _ _ (ne_add L (a:=4) (b:=1) (by decide)) Z.z,s.extBut _ _ (ne_add L (a:=2) (b:=1) (by decide)) Z.TI,s.extBut _ _ (ne_add L (a:=3) (b:=1) (by decide)) Z.TO,Z.i1.extBut s.extBut (ne_add L (a:=0) (b:=1) (by decide)),n,fun b o n e=>s.extBut _ _ (offZ m1 n) (Z.kk b o n e),s.1.trans Z.sz⟩
theorem ZF.push (Z:ZF h0 N L t1 t2 f0 f a b j k h) {o:Obj}:ZF h0 (N+1) L t1 t2 f0 f a b j k (h.push o):=
 have up:∀{b o'},h.get? b=some o'→(h.push o).get? b=some o':=fun e=>Heap.get?_push_of_some _ e
 ⟨up Z.z,up Z.TI,up Z.TO,(by obtain ⟨o,e,r⟩:=Z.i1;exact ⟨o,up e,r⟩),(by obtain ⟨o,e,r⟩:=Z.i2;exact ⟨o,up e,r⟩),fun b o n e=>up (Z.kk b o n e),(Heap.size_push ..).trans (congrArg (·+1) Z.sz)⟩
end
noncomputable def ZLive (X:List Addr) (μ:Mu) (h:Heap) (f0:Value) (f:Bool):Prop:=f0 = .none∧f=false∨∃(T:Addr) (o:Obj),f0=rawInt T∧h.get? T=some o∧¬foot μ T∧T∉X
section
variable {w:World} {A:Around} {E:Value→Shared→Prop} {s:Shared} {h0:Heap} {N:Nat} {L t1 t2:Addr} {f0:Value} {f:Bool} {a b x y:Value} {k n1 n2:Nat} {xs ys:Array Value} {α β:Type} {g:α→β→Sem (ForInStep β)} {c:α} {l:List α} {e:β}
theorem wpAny_for_nil {Q:β→Shared→Prop} (h:Q e s):wpAny (model pw w) A (forIn (m:=Sem) ([]:List α) e g) Q E s:=wpAny_pure h
theorem wpAny_for_cons {Q:β→Shared→Prop} (h:wpAny (model pw w) A (g c e) (fun r s=>wpAny (model pw w) A (match r with | .done b=>pure b | .yield b=>forIn l b g) Q E s) E s):wpAny (model pw w) A (forIn (m:=Sem) (c::l) e g) Q E s:=by
 rw [List.forIn_cons]
 exact wpAny_bind h
theorem wpAny_for_arr {Q:β→Shared→Prop} (h:wpAny (model pw w) A (forIn (m:=Sem) l e g) Q E s):wpAny (model pw w) A (forIn (m:=Sem) l.toArray e g) Q E s:=by
 rw [List.forIn_toArray]
 exact h
theorem zip_held {T:Addr} {o:Obj} {j:Nat} {Q:Bool→Shared→Prop} (Z:ZF h0 N L t1 t2 (rawInt T) f a b j k s.heap) (hT:s.heap.get? T=some o) (K:∀h f,ZF h0 N L t1 t2 (rawInt T) f a b j k h→Q false { s with heap:=h }):wpAny (model pw w) A (Builtin.SmallTypes.ownedTupleIsFree (.ref (L+4))) Q E s:=by
 refine wpAny_bind (wpAny_field Z.z rfl (x:=rawInt T) rfl (wpAny_bind (m:=loadIfAlive T) (kdx_alive hT (wpAny_bind (m:=field _ _) (wpAny_field Z.z rfl (x:=.bool f) rfl ?_)))))
 cases f with
 | true=>exact wpAny_pure (K _ _ Z)
 | false=>exact wpAny_bind (m:=setField _ _ _) (wpAny_setField_rec Z.z (Nat.le_of_ble_eq_true rfl) fun h z hs=>wpAny_pure (K _ _ (Z.z' hs z)))
theorem zip_next {X:List Addr} {μ:Mu} {Q:PySem.Fin→Shared→Prop} (hh:A.handled=none) (Z:ZF s.heap s.heap.objs.size L t1 t2 f0 f a b k k s.heap) (lv:ZLive X μ s.heap f0 f) (YX:∀b∈zipY L,b∈X) (g1:s.heap.get? t1=some (tupO xs n1)) (g2:s.heap.get? t2=some (tupO ys n2)) (u1:t1∉zipY L) (u2:t2∉zipY L)
  (he:xs[k]?=none∨∃x y,xs[k]?=some x∧ys[k]?=some y)
  (hQ:∀x y h' f0 f a b,xs[k]?=some x→ys[k]?=some y→ZF s.heap (s.heap.objs.size+1) L t1 t2 f0 f a b (k+1) (k+1) h'→IsPair h' s.heap.objs.size x y→(f0=rawInt s.heap.objs.size∨∃(T:Addr) (o:Obj),f0=rawInt T∧s.heap.get? T=some o∧¬foot μ T∧T∉X)→Q (.done (.ret (.ref s.heap.objs.size))) { s with heap:=h' })
  (hE:∀h' e,xs[k]?=none→(∀b o,b∉zipY L→s.heap.get? b=some o→h'.get? b=some o)→(∃o,h'.get? e=some o∧o.cls = .type "StopIteration")→E (.ref e) { s with heap:=h' }):wpAny (model pw w) A (Builtin.«zip.__next__» ⟨[.ref (L+4)],[]⟩) Q E s:=by
 have hz₀:=Z.z
 show wpAny _ _ (field (.ref (L+4)) 2 >>= _) _ _ _
 refine wpAny_bind (wpAny_field Z.z rfl (x:=.bool false) rfl ?_)
 show wpAny _ _ (field (.ref (L+4)) 3 >>= _) _ _ _
 refine wpAny_bind (wpAny_field Z.z rfl (x:=.ref (L+2)) rfl ?_)
 refine wpAny_bind (wpAny_seqItems Z.TI rfl ?_)
 refine wpAny_bind (m:=Builtin.SmallTypes.ownedTupleIsFree (.ref (L+4))) ?_
 rcases lv with ⟨e,e'⟩ | ⟨T,o,e,hT,nf,nx⟩
 ·rw [e] at Z
  refine wpAny_bind (wpAny_field Z.z rfl (x:=.none) rfl ?_)
  refine wpAny_pure (wpAny_bind (m:=rule "zip.__next__.owned-tuple-again") (wpAny_rule (wpAny_bind (m:=field _ _) (wpAny_field Z.z rfl (x:=.ref (L+3)) rfl ?_))))
  refine wpAny_bind (m:=setField _ _ _) (wpAny_setField_rec Z.z (Nat.le_of_ble_eq_true rfl) fun h₁ hz hs=>?_)
  replace Z:=Z.z' hs hz
  refine wpAny_bind (m:=forIn _ _ _) (wpAny_for_cons (wpAny_bind (m:=Sem.onRaise _ _) (wpAny_onRaise (wpAny_bind (m:=Builtin.SmallTypes.nextOf (.ref L)) ?_))))
  rcases he with hx | ⟨x,y,hx,hy⟩
  ·refine nextOf_end (s:={ s with heap:=h₁ }) hh Z.i1 (Z.kk _ _ u1 g1) hx fun h₂ e k₂ n₂ c=>?_
   have k3:=k₂ _ _ (ne_add L (a:=4) (b:=0) (by decide)) Z.z
   refine wpAny_setField_rec (s:={ s with heap:=h₂ }) k3 (Nat.le_of_ble_eq_true rfl) fun h₃ ξ hs₃=>hE h₃ e hx (fun b o n e=>hs₃.extBut _ _ (offZ m4 n) (k₂ _ _ (offZ m0 n) (Z.kk _ _ n e))) ((by obtain ⟨o,ho,c⟩:=c;exact ⟨o,hs₃.extBut _ _ (fun q=>not_none Z.z (q▸n₂)) ho,c⟩))
  ·refine nextOf_item (s:={ s with heap:=h₁ }) Z.i1 (Z.kk _ _ u1 g1) hx fun h₂ i₂ s₂=>wpAny_pure ?_
   replace Z:=Z.i1' s₂ i₂
   refine wpAny_bind (m:=seqItems? _) (wpAny_seqItems Z.TO rfl ?_)
   refine wpAny_bind (m:=updateSeq _ _) (wpAny_updateSeq_pair (s:={ s with heap:=h₂ }) Z.TO fun h₃ i₃ s₃=>?_)
   replace Z:=Z.TO' s₃ (a':=x) (b':=b) i₃
   refine wpAny_bind (m:=letGo _ _) (wpAny_letGo (wpAny_pure ?_))
   refine wpAny_for_cons (wpAny_bind (m:=Sem.onRaise _ _) (wpAny_onRaise (wpAny_bind (m:=Builtin.SmallTypes.nextOf (.ref (L+1))) ?_)))
   refine nextOf_item (s:={ s with heap:=h₃ }) Z.i2 (Z.kk _ _ u2 g2) hy fun h₄ i₄ s₄=>wpAny_pure ?_
   replace Z:=Z.i2' s₄ i₄
   refine wpAny_bind (m:=seqItems? _) (wpAny_seqItems Z.TO rfl ?_)
   refine wpAny_bind (m:=updateSeq _ _) (wpAny_updateSeq_pair (s:={ s with heap:=h₄ }) Z.TO fun h₅ i₅ s₅=>?_)
   replace Z:=Z.TO' s₅ (a':=x) (b':=y) i₅
   refine wpAny_bind (m:=letGo _ _) (wpAny_letGo (wpAny_pure (wpAny_for_nil ?_)))
   refine wpAny_bind (m:=seqItems? _) (wpAny_seqItems Z.TO rfl (wpAny_bind (m:=newTuple _) (wpAny_newTuple ?_)))
   rw [Z.sz]
   have sz:=Z.sz
   replace Z:=Z.push (o:=tupO #[x,y] 0)
   have pr:IsPair (h₅.push (tupO #[x,y] 0)) s.heap.objs.size x y:=sz▸Heap.get?_push_size _ rfl
   have ne:s.heap.objs.size≠L+4:=fun q=>not_none hz₀ (q▸get_size _)
   refine wpAny_bind (m:=Builtin.SmallTypes.ownedTupleHandOut _ _) (wpAny_bind (m:=setField _ _ _) (wpAny_setField_rec (s:={ s with heap:=h₅.push (tupO #[x,y] 0) }) Z.z (Nat.le_of_ble_eq_true rfl) fun h₆ z₆ s₆=>?_))
   replace Z:=Z.z' s₆ z₆
   refine wpAny_setField_rec (s:={ s with heap:=h₆ }) Z.z (Nat.le_of_ble_eq_true rfl) fun h₇ z₇ s₇=>wpAny_pure ?_
   exact hQ x y h₇ _ _ _ _ hx hy (Z.z' s₇ z₇) (s₇.extBut _ _ ne (s₆.extBut _ _ ne pr)) (.inl rfl)
 ·rw [e] at Z
  refine zip_held Z hT fun h₁ f Z=>?_
  refine wpAny_bind (m:=forIn _ _ _) (wpAny_for_arr (wpAny_for_cons (wpAny_bind (m:=holding _ _) (wpAny_holding (wpAny_bind (m:=Builtin.SmallTypes.nextOf (.ref L)) ?_)))))
  rcases he with hx | ⟨x,y,hx,hy⟩
  ·exact nextOf_end (s:={ s with heap:=h₁ }) hh Z.i1 (Z.kk _ _ u1 g1) hx fun h₂ e k₂ ξ=>hE h₂ e hx fun b o n e=>k₂ _ _ (offZ m0 n) (Z.kk _ _ n e)
  ·refine nextOf_item (s:={ s with heap:=h₁ }) Z.i1 (Z.kk _ _ u1 g1) hx fun h₂ i₂ s₂=>wpAny_pure (wpAny_pure ?_)
   replace Z:=Z.i1' s₂ i₂
   refine wpAny_for_cons (wpAny_bind (m:=holding _ _) (wpAny_holding (wpAny_bind (m:=Builtin.SmallTypes.nextOf (.ref (L+1))) ?_)))
   refine nextOf_item (s:={ s with heap:=h₂ }) Z.i2 (Z.kk _ _ u2 g2) hy fun h₃ i₃ s₃=>wpAny_pure (wpAny_pure (wpAny_for_nil ?_))
   replace Z:=Z.i2' s₃ i₃
   refine wpAny_bind (m:=newTuple _) (wpAny_newTuple (wpAny_pure ?_) (show 2≤sizeLine by decide))
   rw [Z.sz]
   exact hQ x y _ _ _ _ _ hx hy (Z.push (o:=tupO #[x,y] 0)) (Z.sz▸Heap.get?_push_size _ rfl) (.inr ⟨T,o,rfl,hT,nf,nx⟩)
end
abbrev nmT:Expr:=.Name "" default
section
variable {g:Gx} {A:Around} {d:Nat} {X X₂:List Addr} {μ:Mu} {σ:CSt} {s:Shared} {E:Value→Shared→Prop} {it:Value} {Ys:List Addr} {items:List CV} {so:Option (Nat×CObj)} {I:List Addr→Mu→Heap→Nat→Prop} {i:Nat} {c:CV} {β:Type} {rest:Option Value→Sem β} {Q:β→Shared→Prop}
theorem Loopy.draw (W:Loopy g d nmT Ys it items so I) (O:A.handled=none) (R:Rel g.w g.base X μ σ s.heap) (hX:∀b∈Ys,b∈X) (hs:srcP σ so) (hI:I X μ s.heap i) (hc:items[i]?=some c)
  (K:∀v h' tk,(∀b o,b∉Ys→s.heap.get? b=some o→h'.get? b=some o)→VR g.w X μ h' c v→I X μ h' (i+1)→wpAny (model pw g.w) A (rest (some v)) Q E { s with heap:=h',toks:=tk }):wpAny (model pw g.w) A (pyNext it >>= rest) Q E s:=
 wpAny_bind (wpAny_mono (W.item (N:=fun s=>wpAny (model pw g.w) A (rest none) Q E s) (Q:=fun v s=>wpAny (model pw g.w) A (rest (some v)) Q E s) O R hX hs hI hc K) (fun r s h=>match r,h with
  | none,h=>h
  | some _,h=>fun Γ p hΓ=>h Γ p hΓ Γ p hΓ) fun ξ ξ x=>x)
theorem Loopy.fin (W:Loopy g d nmT Ys it items so I) (O:A.handled=none) (R:Rel g.w g.base X μ σ s.heap) (hX:∀b∈Ys,b∈X) (hs:srcP σ so) (hI:I X μ s.heap items.length)
  (K:∀h' tk,(∀b o,b∉Ys→s.heap.get? b=some o→h'.get? b=some o)→wpAny (model pw g.w) A (rest none) Q E { s with heap:=h',toks:=tk }):wpAny (model pw g.w) A (pyNext it >>= rest) Q E s:=
 wpAny_bind (wpAny_mono (W.done (Q:=fun s=>wpAny (model pw g.w) A (rest none) Q E s) (N:=fun v s=>wpAny (model pw g.w) A (rest (some v)) Q E s) O R hX hs hI K) (fun r s h=>match r,h with
  | none,h=>h
  | some _,h=>h) fun ξ ξ x=>x)
end
structure Ext (g:Gx) (h₀:Heap) (X:List Addr) (σ:CSt) (Ys:List Addr) (I:List Addr→Mu→Heap→Nat→Prop) (S:Addr) (items:List CV) (μ:Mu) (h:Heap) (i:Nat) (acc:Array Value) (c:Nat):Prop where
 k:∀b o,b≠S→b∉Ys→h₀.get? b=some o→h.get? b=some o
 R:Rel g.w g.base X μ σ h
 I:I X μ h i
 S:h.get? S=some (lstO acc c)
 rs:VRs g.w X μ h (items.take i) acc.toList
section
variable {g:Gx} {A:Around} {d:Nat} {X:List Addr} {μ:Mu} {σ:CSt} {s:Shared} {it:Value} {Ys:List Addr} {items:List CV} {so:Option (Nat×CObj)} {I:List Addr→Mu→Heap→Nat→Prop} {S:Addr} {h₀:Heap}
theorem extend_loop {Z:List Addr} {res:Value} {RR:Result→Shared→Prop} (W:Loopy g d nmT Ys it items so I) (O:A.handled=none) (YX:∀b∈Ys,b∈X) (SY:S∉Ys) (SX:S∈X) (ZX:∀b∈Z,b∈X) (hs:srcP σ so) (hz:items.length≤BIG)
  (K:∀h' tk acc c,(∀b o,b≠S→b∉Ys→h₀.get? b=some o→h'.get? b=some o)→h'.get? S=some (lstO acc c)→VRs g.w Z μ h' items acc.toList→RR (.ok (.ret res)) { s with heap:=h',toks:=tk }) :
  ∀(n i:Nat) {h:Heap} {tk:Nat} {acc:Array Value} {c:Nat},i+n=items.length→Ext g h₀ X σ Ys I S items μ h i acc c→codeAny (model pw g.w) A (.builtin "list.extend.loop" ⟨[.ref S,it,res],[]⟩) RR { s with heap:=h,toks:=tk }:=by
 intro l16
 induction l16 with
 | zero=>
  intro i h tk acc c hn J
  refine codeAny_builtin PySem.F.entry_extend_loop ?_
  rw [Around.under_plainId PySem.F.plain_extend_loop _]
  have hn:i=items.length:=hn
  exact W.fin (s:={ s with heap:=h,toks:=tk }) O J.R YX hs (hn▸J.I) fun h' tk' k=>wpAny_pure (K _ _ _ _ (fun b o n1 n2 e=>k b o n2 (J.k b o n1 n2 e)) (k S _ SY J.S) (VRs.mono ⟨fun ξ ξ e=>e,fun b o e nf nx=>⟨k b o (fun m=>nx (YX b m)) e,nf,fun m=>nx (ZX b m)⟩⟩ _ (by have:=J.rs;rw [hn,List.take_length] at this;exact this)))
 | succ n ih=>
  intro i h tk acc c hn J
  have lt:i<items.length:=by lia
  have hc:items[i]?=some items[i]:=List.getElem?_eq_getElem lt
  have hsz:acc.size=i:=(VRs.size J.rs).trans (by rw [List.length_take];lia)
  refine codeAny_builtin PySem.F.entry_extend_loop ?_
  rw [Around.under_plainId PySem.F.plain_extend_loop _]
  refine W.draw (s:={ s with heap:=h,toks:=tk }) O J.R YX hs J.I hc fun v h' tk' k rv hI=>?_
  have lv:=W.live hI
  have R':Rel g.w g.base X μ σ h':=J.R.keepX (fun b o e nx=>k b o (fun m=>nx (YX b m)) e) fun b m=>if q:b∈Ys then lv b q else (by obtain ⟨o,e⟩:=J.R.insideX b m;exact ⟨o,k b o q e⟩)
  have kp:=J.R.kpX (h':=h') fun b o e nx=>k b o (fun m=>nx (YX b m)) e
  have hS:=k S _ SY J.S
  have hs':=Heap.SameBut.update h' S (Obj.mapSeq fun y=>y.push v)
  have hS2:=IsL.update (show IsL h' S acc c from hS) (fun y=>y.push v)
  have kX:∀b o,h'.get? b=some o→b∉X→(h'.update S (Obj.mapSeq fun y=>y.push v)).get? b=some o:=fun b o e nx=>hs'.extBut b o (fun q=>nx (q▸SX)) e
  have kp2:=R'.kpX kX
  refine wpAny_bind (m:=updateSeq S (·.push v)) (wpAny_updateSeq (s:={ s with heap:=h',toks:=tk' }) hS rfl (wpAny_pure ⟨plainId_quiet PySem.F.plain_extend_loop _,ih (i+1) (by lia) ⟨fun b o n1 n2 e=>hs'.extBut b o n1 (k b o n2 (J.k b o n1 n2 e)),R'.keepX kX fun b m=>if q:b=S then ⟨_,(congrArg _ q).trans hS2⟩ else (by obtain ⟨o,e⟩:=R'.insideX b m;exact ⟨o,hs'.extBut b o q e⟩),W.keep hI kp2 fun b m o e=>hs'.extBut b o (fun q=>SY (q▸m)) e,hS2,?_⟩⟩) (by rw [hsz];exact big_fits (by lia)) (by show (acc.push v).size≤sizeLine+1;rw [Array.size_push,hsz];have:items.length≤sizeLine:=big_fits hz;lia))
  rw [List.take_add_one,hc,Array.toList_push]
  exact VRs.append (VRs.mono kp2 _ (VRs.mono kp _ J.rs)) ⟨VR.mono kp2 _ rv,trivial⟩
end
structure Drawn (g:Gx) (d:Nat) (h₀:Heap) (Z:List Addr) (μ:Mu) (σ:CSt) (S:Addr) (items:List CV) (so:Option (Nat×CObj)) (it:Value) (h:Heap) (X Ys:List Addr) (I:List Addr→Mu→Heap→Nat→Prop):Prop where
 W:Loopy g d nmT Ys it items so I
 R:Rel g.w g.base X μ σ h
 I0:I X μ h 0
 YX:∀b∈Ys,b∈X
 ZX:∀b∈Z,b∈X
 SX:S∈X
 SY:S∉Ys
 fr:∀b∈Ys,h₀.get? b=none
 S:h.get? S=some (lstO #[] 0)
 k:∀b o,h₀.get? b=some o→h.get? b=some o
section
variable {g:Gx} {A:Around} {d:Nat} {Z:List Addr} {μ:Mu} {σ:CSt} {s:Shared} {E:Value→Shared→Prop} {items:List CV} {so:Option (Nat×CObj)} {h₀:Heap}
theorem collect_P {P:List CV→Prop} {r:Addr} {ob:Obj} {T:String} {Q:List Value→Shared→Prop} (O:A.handled=none) (hr:s.heap.get? r=some ob) (hT:ob.cls = .type T) (nl:(Value.type T==Value.type "list")=false) (nt:(Value.type T==Value.type "tuple")=false)
  (hs:srcP σ so) (hz:∀items,P items→items.length≤BIG) (fr:h₀.get? s.heap.objs.size=none)
  (hint:∀(E:Value→Shared→Prop) (s':Shared) (Q:Bool→Shared→Prop),s'.heap.get? r=some ob→(∀b tk,Q b { s' with toks:=tk })→wpAny (model pw g.w) A.in1 (Builtin.List.listLengthHint (.ref r)) Q E s')
  (iter:∀(E:Value→Shared→Prop) (Q:Value→Shared→Prop),(∀it h tk dr X Ys I items,P items→Drawn g d h₀ Z μ σ s.heap.objs.size items so it h X Ys I→h.get? r=some ob→Q it { s with heap:=h,toks:=tk,drawn:=dr })→wpAny (model pw g.w) A.in1 (pyIter (.ref r)) Q E { s with heap:=s.heap.push (lstO #[] 0) })
  (K:∀h' tk dr vs items,P items→(∀b o,h₀.get? b=some o→h'.get? b=some o)→VRs g.w Z μ h' items vs→Q vs { s with heap:=h',toks:=tk,drawn:=dr }):wpAny (model pw g.w) A (collect (.ref r)) Q E s:=by
 refine wpAny_bind (wpAny_runValue (codeAny_builtin PySem.F.entry_proto_collect ?_))
 rw [Around.under_plainId PySem.F.plain_proto_collect _]
 refine wpAny_bind (m:=newList []) (wpAny_newObj_type (wpAny_pure ⟨plainId_quiet PySem.F.plain_list_iadd _,codeAny_builtin PySem.F.entry_list_iadd ?_⟩))
 rw [Around.under_plainId PySem.F.plain_list_iadd _]
 refine wpAny_bind (m:=typeOf _) (wpAny_typeOf (T:=T) (s:={ s with heap:=s.heap.push (lstO #[] 0) }) ⟨ob,Heap.get?_push_of_some _ hr,hT⟩ ?_)
 have h1:Builtin.List.listSameRef (.ref s.heap.objs.size) (.ref r)=false:=beq_eq_false_iff_ne.mpr fun q:s.heap.objs.size=r=>not_none hr (q▸get_size _)
 rw [h1,nl,nt]
 refine wpAny_bind (iter _ _ fun it h tk dr X Ys I items pi D hr'=>?_)
 have loop:∀{RR:Result→Shared→Prop} (h₃:Heap) (tk c:Nat),(∀h' tk acc c,h'.get? s.heap.objs.size=some (lstO acc c)→Q acc.toList { s with heap:=h',toks:=tk,drawn:=dr }→RR (.ok (.ret (.ref s.heap.objs.size))) { s with heap:=h',toks:=tk,drawn:=dr })→(∀b o,b≠s.heap.objs.size→h.get? b=some o→h₃.get? b=some o)→h₃.get? s.heap.objs.size=some (lstO #[] c)→codeAny (model pw g.w) A (.builtin "list.extend.loop" ⟨[.ref s.heap.objs.size,it,.ref s.heap.objs.size],[]⟩) RR { s with heap:=h₃,toks:=tk,drawn:=dr }:=fun h₃ tk c fin k hS=>by
  have kX:∀b o,h.get? b=some o→b∉X→h₃.get? b=some o:=fun b o e nx=>k b o (fun q=>nx (q▸D.SX)) e
  exact extend_loop (s:={ s with drawn:=dr }) D.W O D.YX D.SY D.SX D.ZX hs (hz _ pi) (fun h' tk' acc c' hk hS' rs=>fin h' tk' acc c' hS' (K h' tk' dr acc.toList _ pi (fun b o e=>hk b o (fun q=>not_none e (q▸fr)) (fun m=>not_none e (D.fr b m)) e) rs)) items.length 0 (Nat.zero_add _) ⟨fun b o n1 ξ e=>k b o n1 (D.k b o e),D.R.keepX kX fun b m=>if q:b=s.heap.objs.size then ⟨_,(congrArg _ q).trans hS⟩ else (by obtain ⟨o,e⟩:=D.R.insideX b m;exact ⟨o,k b o q e⟩),D.W.keep D.I0 (D.R.kpX kX) fun b m o e=>k b o (fun q=>D.SY (q▸m)) e,hS,trivial⟩
 refine wpAny_bind (wpAny_holding (hint _ { s with heap:=h,toks:=tk,drawn:=dr } _ hr' fun room tk=>?_))
 refine wpAny_ite_split (fun ξ=>?_) (fun ξ=>wpAny_pure ⟨plainId_quiet PySem.F.plain_extend_loop _,loop h tk 0 (fun h' tk acc c hS q=>wpAny_bind (m:=load s.heap.objs.size) (wpAny_load (s:={ s with heap:=h',toks:=tk,drawn:=dr }) hS (wpAny_pure q))) (fun ξ ξ ξ e=>e) D.S⟩)
 refine wpAny_bind (wpAny_rule (wpAny_bind (m:=updateSeq s.heap.objs.size (·.push .none) >>= fun ξ=>updateSeq s.heap.objs.size (·.pop)) (wpAny_bind (wpAny_updateSeq (s:={ s with heap:=h,toks:=tk,drawn:=dr }) D.S rfl ?_))))
 have hS₃:=Heap.get?_update_self (Obj.mapSeq (·.push Value.none)) D.S rfl
 refine wpAny_updateSeq (s:={ s with heap:=h.update s.heap.objs.size (Obj.mapSeq (·.push Value.none)),toks:=tk,drawn:=dr }) hS₃ rfl ?_
 exact wpAny_pure ⟨plainId_quiet PySem.F.plain_extend_loop _,loop _ tk _ (fun h' tk acc c hS q=>wpAny_bind (m:=load s.heap.objs.size) (wpAny_load (s:={ s with heap:=h',toks:=tk,drawn:=dr }) hS (wpAny_pure q))) (fun b o nb e=>(Heap.get?_update_other _ _ (Ne.symm nb)).trans ((Heap.get?_update_other _ _ (Ne.symm nb)).trans e)) (Heap.get?_update_self (Obj.mapSeq (·.pop)) hS₃ rfl)⟩
theorem collect_any {r:Addr} {ob:Obj} {T:String} {Q:List Value→Shared→Prop} (O:A.handled=none) (hr:s.heap.get? r=some ob) (hT:ob.cls = .type T) (nl:(Value.type T==Value.type "list")=false) (nt:(Value.type T==Value.type "tuple")=false)
  (hs:srcP σ so) (hz:items.length≤BIG) (fr:h₀.get? s.heap.objs.size=none)
  (hint:∀(E:Value→Shared→Prop) (s':Shared) (Q:Bool→Shared→Prop),s'.heap.get? r=some ob→(∀b tk,Q b { s' with toks:=tk })→wpAny (model pw g.w) A.in1 (Builtin.List.listLengthHint (.ref r)) Q E s')
  (iter:∀(E:Value→Shared→Prop) (Q:Value→Shared→Prop),(∀it h tk dr X Ys I,Drawn g d h₀ Z μ σ s.heap.objs.size items so it h X Ys I→h.get? r=some ob→Q it { s with heap:=h,toks:=tk,drawn:=dr })→wpAny (model pw g.w) A.in1 (pyIter (.ref r)) Q E { s with heap:=s.heap.push (lstO #[] 0) })
  (K:∀h' tk dr vs,(∀b o,h₀.get? b=some o→h'.get? b=some o)→VRs g.w Z μ h' items vs→Q vs { s with heap:=h',toks:=tk,drawn:=dr }):wpAny (model pw g.w) A (collect (.ref r)) Q E s:=
 collect_P (P:=(·=items)) O hr hT nl nt hs (fun ξ e=>e▸hz) fr hint (fun E Q q=>iter E Q fun it h tk dr X Ys I D=>q it h tk dr X Ys I _ rfl D) fun h' tk dr vs ξ e k r=>K h' tk dr vs k (e▸r)
end
structure ZSt (w:World) (L t1 t2:Addr) (l m:List CV) (X:List Addr) (μ:Mu) (h:Heap) (k:Nat):Prop where
 z:∃f0 f a b,ZF h h.objs.size L t1 t2 f0 f a b k k h∧ZLive X μ h f0 f
 l:VR w X μ h (.tup l) (.ref t1)
 m:VR w X μ h (.tup m) (.ref t2)
abbrev zipL (l m:List CV):List CV:=(l.zip m).map fun (x,y)=>.tup [x,y]
section
variable {g:Gx} {A:Around} {d:Nat} {X X':List Addr} {μ μ':Mu} {σ:CSt} {s:Shared} {E:Value→Shared→Prop} {h h' h0:Heap} {L t1 t2:Addr} {l m:List CV} {k N:Nat} {f0:Value} {f:Bool} {a b:Value} {Q:Option Value→Shared→Prop}
theorem ZF.now (Z:ZF h0 N L t1 t2 f0 f a b k k h) (kk:∀b∈zipY L,∀o,h.get? b=some o→h'.get? b=some o):ZF h' h'.objs.size L t1 t2 f0 f a b k k h':=
 ⟨kk _ m4 _ Z.z,kk _ m2 _ Z.TI,kk _ m3 _ Z.TO,(by obtain ⟨o,e,r⟩:=Z.i1;exact ⟨o,kk _ m0 _ e,r⟩),(by obtain ⟨o,e,r⟩:=Z.i2;exact ⟨o,kk _ m1 _ e,r⟩),fun ξ ξ ξ e=>e,rfl⟩
theorem ZLive.mono (v:ZLive X μ h f0 f) (kp:Kp X μ h X' μ' h'):ZLive X' μ' h' f0 f:=
 v.elim .inl fun w3=>by obtain ⟨T,o,e,hT,nf,nx⟩:=w3;exact .inr ⟨T,o,e,kp.at_ _ _ hT nf nx⟩
theorem VRs.back {xs:Array Value} {v:Value} (r:VRs g.w X μ h l xs.toList) (hv:xs[k]?=some v) {zz:Prop} (kk:∀c,l[k]?=some c→VR g.w X μ h c v→zz):zz:=by
 have lt:k<l.length:=VRs.size r▸(Array.getElem?_eq_some_iff.mp hv).1
 refine r.at (List.getElem?_eq_getElem lt) fun u hu ru=>?_
 exact kk _ (List.getElem?_eq_getElem lt) (Option.some.inj (hu.symm.trans hv)▸ru)
theorem VRs.gone {xs:Array Value} (r:VRs g.w X μ h l xs.toList) (hv:xs[k]?=none):l[k]?=none:=by
 cases hc:l[k]? with
 | none=>rfl
 | some c=>refine r.at hc fun v e ξ=>?_;rw [hv] at e;cases e
theorem zip_pyNext (O:A.handled=none) (R:Rel g.w g.base X μ σ s.heap) (YX:∀b∈zipY L,b∈X) (S:ZSt g.w L t1 t2 l m X μ s.heap k) (he:l.length=k∨∃x y,l[k]?=some x∧m[k]?=some y)
  (hQ:∀x y v h',l[k]?=some x→m[k]?=some y→(∀b o,b∉zipY L→s.heap.get? b=some o→h'.get? b=some o)→VR g.w X μ h' (.tup [x,y]) v→ZSt g.w L t1 t2 l m X μ h' (k+1)→Q (some v) { s with heap:=h' })
  (hE:∀h',l[k]?=none→(∀b o,b∉zipY L→s.heap.get? b=some o→h'.get? b=some o)→Q none { s with heap:=h' }):wpAny (model pw g.w) A (pyNext (.ref (L+4))) Q E s:=by
 obtain ⟨f0,f,a,b,Z,lv⟩:=S.z
 obtain ⟨ξ,xs,n1,e1,g1,ξ,nx1,r1⟩:=id S.l
 obtain ⟨ξ,ys,n2,e2,g2,ξ,nx2,r2⟩:=id S.m
 cases e1
 cases e2
 have hTy:s.TypeIs (.ref (L+4)) "zip":=⟨_,Z.z,rfl⟩
 refine wpAny_bind (wpAny_attempt (wpAny_callSpecial?_slot (name:=Str.ofString "__next__") hTy PySem.F.slot_zip_next
  (wpAny_call_entry PySem.F.slot_zip_next hTy PySem.F.entry_zip_next (zip_next O Z lv YX g1 g2 (fun m=>nx1 (YX _ m)) (fun m=>nx2 (YX _ m)) (he.imp (fun e:l.length=k=>e▸none_at r1) fun w2=>by obtain ⟨x,y,hx,hy⟩:=w2;exact (by refine r1.at hx fun x hx _=>?_;exact (by refine r2.at hy fun y hy _=>?_;exact ⟨x,y,hx,hy⟩))) (fun x y h' f0 f a b hx hy Z' pr lv'=>⟨_,rfl,wpAny_pure ?_⟩) fun h' e n k c=>?_) (PySem.F.args_zip_next_1 _))))
 ·refine r1.back hx fun x hx rx=>?_
  refine r2.back hy fun y hy ry=>?_
  have kp:Kp X μ s.heap X μ h':=R.kpX fun b o e nx=>Z'.kk b o (fun m=>nx (YX b m)) e
  exact hQ x y _ h' hx hy Z'.kk ⟨_,_,_,rfl,pr,R.notSize.1,R.notSize.2,VR.mono kp _ rx,VR.mono kp _ ry,trivial⟩ ⟨⟨f0,f,a,b,Z'.now fun ξ ξ ξ e=>e,.inr (lv'.elim (fun e=>⟨_,_,e,pr,R.notSize⟩) fun w1=>by obtain ⟨T,o,e,hT,nf,nx⟩:=w1;exact ⟨T,o,e,kp.at_ _ _ hT nf nx⟩)⟩,VR.mono kp _ S.l,VR.mono kp _ S.m⟩
 ·obtain ⟨o,ho,hc⟩:=c
  exact wpAny_bind (wpAny_isInstance (T:="StopIteration") (b:=true) (s:={ s with heap:=h' }) ⟨o,ho,hc⟩ isSubtype_stop (wpAny_pure (hE h' (r1.gone n) k)))
theorem zip_self (S:ZSt g.w L t1 t2 l m X μ s.heap k) {Q:Value→Shared→Prop} (q:Q (.ref (L+4)) s):wpAny (model pw g.w) A (pyIter (.ref (L+4))) Q E s:=by
 obtain ⟨f0,f,a,b,Z,ξ⟩:=S.z
 have hT:s.TypeIs (.ref (L+4)) "zip":=⟨_,Z.z,rfl⟩
 exact wpAny_pyIter_slot hT PySem.F.slot_zip_iter (wpAny_call_entry PySem.F.slot_zip_iter hT PySem.F.entry_zip_iter (wpAny_pure (a:=Fin.done (.ret (.ref (L+4)))) ⟨_,rfl,"zip",_,hT,PySem.F.slot_zip_next.lookup,q⟩) (PySem.F.args_zip_iter_1 _))
theorem zipL_at {c:CV} (hc:(zipL l m)[k]?=some c) {zz:Prop} (kk:∀x y,l[k]?=some x→m[k]?=some y→c = .tup [x,y]→zz):zz:=by
 rw [List.getElem?_map] at hc
 obtain ⟨⟨x,y⟩,h1,h2⟩:=Option.map_eq_some_iff.mp hc
 exact kk x y ((List.getElem?_zip_eq_some.mp h1).1) ((List.getElem?_zip_eq_some.mp h1).2) h2.symm
theorem zipL_len (hz:l.length=m.length):(zipL l m).length=l.length:=by rw [List.length_map,List.length_zip,hz,Nat.min_self]
theorem ZF.live (Z:ZF h0 N L t1 t2 f0 f a b k k h):∀b∈zipY L,∃o,h.get? b=some o:=by
 have i1:∃o,h.get? L=some o:=(by obtain ⟨o,ho,_⟩:=Z.i1;exact ⟨o,ho⟩)
 have i2:∃o,h.get? (L+1)=some o:=(by obtain ⟨o,ho,_⟩:=Z.i2;exact ⟨o,ho⟩)
 exact List.forall_mem_cons.mpr ⟨⟨_,Z.z⟩,List.forall_mem_cons.mpr ⟨⟨_,Z.TI⟩,List.forall_mem_cons.mpr ⟨⟨_,Z.TO⟩,List.forall_mem_cons.mpr ⟨i1,List.forall_mem_cons.mpr ⟨i2,fun ξ m=>nomatch m⟩⟩⟩⟩⟩
theorem loopy_zip {y:Str} {p:Pos} (hz:l.length=m.length):Loopy g d (.Name y p) (zipY L) (.ref (L+4)) (zipL l m) none (ZSt g.w L t1 t2 l m) where
 live hI:=(by obtain ⟨_,_,_,_,Z,_⟩:=hI.z;exact Z.live)
 keep hI kp kk:=⟨(by obtain ⟨f0,f,a,b,Z,lv⟩:=hI.z;exact ⟨f0,f,a,b,Z.now kk,lv.mono kp⟩),VR.mono kp _ hI.l,VR.mono kp _ hI.m⟩
 item {A X μ σ s i c N Q E} O R hX so hI hc hq:=by
  refine zipL_at hc fun x y hx hy e=>?_
  exact zip_pyNext O R hX hI (.inr ⟨x,y,hx,hy⟩) (fun x' y' v h' hx' hy' k r S=>wpAny_pure (a:=()) (hq v h' s.toks k (by rw [e,Option.some.inj (hx.symm.trans hx'),Option.some.inj (hy.symm.trans hy')];exact r) S)) fun h' n k=>nomatch hx.symm.trans n
 done {A X μ σ s Q N E} O R hX so hI hq:=zip_pyNext O R hX hI (.inl (zipL_len hz).symm) (fun x' y' v h' hx' ξ ξ ξ ξ=>absurd (List.getElem?_eq_some_iff.mp hx').1 (Nat.not_lt_of_le (Nat.le_of_eq (zipL_len hz).symm))) fun h' ξ k=>hq h' s.toks k
 self hI q:=zip_self hI q
end
theorem meets_zip {l1 l2:Addr} {xs ys:Array Value} :
  Meets (Builtin.«zip.__new__» ⟨[.type "zip",.ref l1,.ref l2],[]⟩) (fun ξ R s=>s.heap.IsTuple l1 xs∧s.heap.IsTuple l2 ys∧
   R (.ok (.ret (.ref (s.heap.objs.size+4)))) { s with heap:=((((s.heap.push { cls:=.type "tuple_iterator",data:=.fields #[.ref l1,.int 0 0] }).push { cls:=.type "tuple_iterator",data:=.fields #[.ref l2,.int 0 0] }).push { cls:=.type "tuple",data:=.seq #[.ref s.heap.objs.size,.ref (s.heap.objs.size+1)] }).push { cls:=.type "tuple",data:=.seq #[.none,.none] }).push (zipO s.heap.objs.size .none false) }):=
 .of_wp fun prog w A R s h=>by
  obtain ⟨hp,g,d,tk,os⟩:=s;obtain ⟨hl1,hl2,h⟩:=h
  have hsub:=sub_zip
  have hL1:Heap.IsTuple (Shared.heap ⟨hp,g,d,tk,os⟩) l1 xs:=hl1
  have hL2:Heap.IsTuple (Shared.heap ⟨hp.push { cls:=.type "tuple_iterator",data:=.fields #[.ref l1,.int 0 0] },g,d,tk,os⟩) l2 ys:=Heap.IsTuple.push hl2 _
  wp_walk using wpAny_pyIter_tuple hL1,wpAny_pyIter_tuple hL2
  simp only [Heap.size_push] at h⊢
  exact ⟨_,rfl,h⟩
section
variable {h:Heap} {o:Obj} {n:Nat}
theorem push_at (e:h.objs.size=n) (hf:o.isFreed=false):(h.push o).get? n=some o:=e▸Heap.get?_push_size _ hf
theorem push_sz (e:h.objs.size=n):(h.push o).objs.size=n+1:=(Heap.size_push ..).trans (congrArg (·+1) e)
theorem push_up {b:Addr} {o':Obj} (e:h.get? b=some o'):(h.push o).get? b=some o':=Heap.get?_push_of_some _ e
end
theorem ZF.new {h:Heap} {L t1 t2:Addr} (e:h.objs.size=L):ZF h (L+5) L t1 t2 .none false .none .none 0 0 (((((h.push { cls:=.type "tuple_iterator",data:=.fields #[.ref t1,.int 0 0] }).push { cls:=.type "tuple_iterator",data:=.fields #[.ref t2,.int 0 0] }).push { cls:=.type "tuple",data:=.seq #[.ref L,.ref (L+1)] }).push { cls:=.type "tuple",data:=.seq #[.none,.none] }).push (zipO L .none false)):=
 ⟨push_at (push_sz (push_sz (push_sz (push_sz e)))) rfl,push_up (push_up (push_at (push_sz (push_sz e)) rfl)),push_up (push_at (push_sz (push_sz (push_sz e))) rfl),⟨_,push_up (push_up (push_up (push_up (push_at e rfl)))),rfl,rfl⟩,⟨_,push_up (push_up (push_up (push_at (push_sz e) rfl))),rfl,rfl⟩,
  fun b o ξ e=>push_up (push_up (push_up (push_up (push_up e)))),push_sz (push_sz (push_sz (push_sz (push_sz e))))⟩
section
variable {g:Gx} {A:Around} {d:Nat} {X:List Addr} {μ:Mu} {σ σ₁ σ₂:CSt} {s:Shared} {E:Value→Shared→Prop} {l m:List CV} {u v:Value} {Q:Value→Shared→Prop} {ρ:Loc} {a b:CE}
theorem zip_made (R:Rel g.w g.base X μ σ s.heap) (ru:VR g.w X μ s.heap (.tup l) u) (rv:VR g.w X μ s.heap (.tup m) v)
  (K:∀L t1 t2 h',(∀b o,s.heap.get? b=some o→h'.get? b=some o)→(∀b∈zipY L,s.heap.get? b=none∧∃o,h'.get? b=some o)→ZSt g.w L t1 t2 l m (zipY L++X) μ h' 0→Q (.ref (L+4)) { s with heap:=h' }):wpAny (model pw g.w) A (call (.type "zip") [u,v]) Q E s:=by
 obtain ⟨t1,xs,n,e1,g1,ξ⟩:=id ru
 obtain ⟨t2,ys,k,e2,g2,ξ⟩:=id rv
 rw [e1,e2]
 rw [e1] at ru
 rw [e2] at rv
 have Z:=ZF.new (h:=s.heap) (t1:=t1) (t2:=t2) rfl
 have fr:∀b∈zipY s.heap.objs.size,s.heap.get? b=none:=fun b mb=>get_ge (by simp only [List.mem_cons,List.not_mem_nil,or_false] at mb;lia)
 have k:∀b o,s.heap.get? b=some o→_:=fun b o e=>Z.kk b o (fun m=>not_none e (fr b m)) e
 exact callType_new PySem.F.called_zip (by decide) (PySem.F.typeCall_zip_2 _ _) (PySem.F.newCall_zip_2 _ _) (fun obj=>PySem.F.args_object_init_3 obj _ _) PySem.F.entry_zip_new meets_zip ⟨⟨_,g1,rfl,n,rfl⟩,⟨_,g2,rfl,_,rfl⟩,⟨_,Z.z,rfl⟩,K _ t1 t2 _ k (fun b m=>⟨fr b m,Z.live b m⟩) ⟨⟨_,_,_,_,Z.now fun ξ ξ ξ e=>e,.inl ⟨rfl,rfl⟩⟩,VR.more k fr ru,VR.more k fr rv⟩⟩
theorem VRs.two {w:World} {X:List Addr} {μ:Mu} {h:Heap} {P:Prop} {v v':CV} {us:List Value} (r:VRs w X μ h [v,v'] us) (K:∀u u',us=[u,u']→VR w X μ h v u→VR w X μ h v' u'→P):P:=by
 match us,r with
 | [u,u'],r=>exact K u u' rfl r.1 r.2.1
 | [_],r=>exact r.2.elim
 | _::_::_::_,r=>exact r.2.2.elim
theorem ItD.zip (S:DoesL d [a,b] ρ σ [.tup l,.tup m] σ₁) (hz:l.length=m.length):ItD d .zip true [a,b] ρ σ (zipL l m) none σ₁:=⟨fun {e target g A x μ s E Q} hs ht ok C K=>by
 rw [tgE ht] at K
 exact bi_call (f:=.type "zip") (an hs).1 rfl keeps_type S ok C fun us s₁ μ₁ n=>VRs.two n.r fun u v e ru rv=>e▸zip_made n.R ru rv fun L t1 t2 h' k f hZ=>zip_self (s:={ s₁ with heap:=h' }) hZ (K _ _ _ _ _ (.after C.R n.toNx (.many (tk:=s₁.toks) n.R (loopy_zip hz) k f hZ)))⟩
end
theorem nd {a b:Bool} (h:a=true) (k:b=true):(a&&b)=true:=(Bool.and_eq_true a b).mpr ⟨h,k⟩
theorem okEs_one {sc:Scope} {tbl:List Str} {a:CE} {e:Expr} {l:List Expr} (h:one l=true) (n:notStar (hd e l)=true) (o:okE sc tbl a (hd e l)=true):okEs sc tbl [a] l=true:=by
 rw [oneE e h];exact nd rfl (nd n (nd o rfl))
theorem okEs_two {sc:Scope} {tbl:List Str} {a b:CE} {e:Expr} {l:List Expr} (h:two l=true) (n:notStar (hd e l)=true) (n':notStar (hd2 e l)=true) (o:okE sc tbl a (hd e l)=true) (o':okE sc tbl b (hd2 e l)=true):okEs sc tbl [a,b] l=true:=by
 rw [twoE e h];exact nd rfl (nd n (nd o (nd rfl (nd n' (nd o' rfl)))))
structure BiD (f:Value) (d:Nat) (c r:CV) (σ σ':CSt):Prop where
 go:∀{g:Gx} {A:Around} {X:List Addr} {μ:Mu} {s:Shared} {v:Value} {E Q:Value→Shared→Prop},Bs g→OkA A d→Rel g.w g.base X μ σ s.heap→VR g.w X μ s.heap c v→(∀u s' μ',Got g X μ s σ' r u s' μ'→Q u s')→wpAny (model pw g.w) A (call f [v]) Q E s
noncomputable def biF:BId→Value
 | .len=>.builtin "len" | .sorted=>.builtin "sorted" | .sum=>.builtin "sum" | .max=>.builtin "max" | .int=>.type "int" | .str=>.type "str" | .tuple=>.type "tuple" | .list=>.type "list" | .listm=>.type "list" | .dict=>.type "dict"
theorem biF_mem (b:BId):biV.contains (biN b,biF b)=true:=by cases b<;>rfl
theorem biF_keeps {M:Model} (b:BId):KpOk M (fun ξ=>True) (biF b):=by cases b<;>first | exact keeps_builtin | exact keeps_type
section
variable {g:Gx} {A:Around} {d:Nat} {x:Fx} {X:List Addr} {μ:Mu} {ρ:Loc} {σ σ₁ σ₂:CSt} {s:Shared} {E:Value→Shared→Prop} {a:CE} {c r:CV} {l:List CV}
theorem Does.bi {b:BId} (S:Does d a ρ σ c σ₁) (B:BiD (biF b) d c r σ₁ σ₂):Does d (.bi b a) ρ σ r σ₂:=⟨fun ok C K=>by
 refine an3 ok fun h1 h2 h3 h4=>?_
 exact bi_call h1 (biF_mem b) (biF_keeps b) (.one S) (okEs_one h2 h3 h4) C fun us s₁ μ₁ n=>VRs.one n.r fun u e r=>e▸B.go C.B C.O n.R r fun ξ ξ ξ m=>K _ _ _ (n.toNx.and m)⟩
theorem Got.kept {h':Heap} {tk:Nat} {dr:PySem.Drawn} {u:Value} (R:Rel g.w g.base X μ σ s.heap) (k:∀b o,s.heap.get? b=some o→h'.get? b=some o) (r:VR g.w X μ h' c u):Got g X μ s σ c u { s with heap:=h',toks:=tk,drawn:=dr } μ:=
 ⟨⟨St.of_keeps k,R.keeps k⟩,r⟩
theorem BiD.len (hl:seqOf σ c=some l) (hz:l.length≤BIG):BiD (.builtin "len") d c (.int l.length) σ σ:=⟨fun B O R rc K=>seqOf_at R rc hl fun a xs k S=>by
 have e:=VRs.size S.r
 have hb:=big_int hz
 rw [S.e]
 rcases S.at_ with g | g
 ·exact PyProof.Rows.len_tuple (items:=xs) ⟨_,g,rfl,k,rfl⟩ (e▸hb) (K _ _ _ (.tok R _ ⟨_,by rw [e]⟩))
 ·exact PySem.Calls.call_len_list (items:=xs) ⟨_,g,rfl,k,rfl⟩ (e▸hb) (K _ _ _ (.tok R _ ⟨_,by rw [e]⟩))⟩
theorem BiD.lenD {es:List (CV×CV)} (he:dictOf σ c=some es) (hz:es.length≤BIG):BiD (.builtin "len") d c (.int es.length) σ σ:=⟨fun B O R rc K=>by
 refine dictOf_dec R rc he fun a ds n e D=>?_
 have hb:=big_int hz
 rw [e]
 refine PyProof.Rows.call_len_slot (n:=es.length) D.type PySem.F.slot_dict_len (fun Q' hq=>wpAny_call_entry PySem.F.slot_dict_len D.type PySem.F.entry_dict_len ?_ (PySem.F.args_dict_len_1 _)) (by lia) (by lia) (K _ _ _ (.tok R _ ⟨_,rfl⟩))
 refine wpAny_bind (m:=Builtin.Dict.dictSlotNone "__len__" _) (wpAny_bind (wpAny_notOrdered_dict D.type (wpAny_pure ?_)))
 refine wpAny_bind (m:=dictSize a) (wpAny_bind (m:=dictEntries a (some keysPart)) (wpAny_dictEntries D.at_ rfl (wpAny_pure ?_)))
 refine wpAny_bind (m:=Builtin.Dict.pendingCount a) (wpAny_pendingCount_other D.sm (wpAny_bind (wpAny_mkInt (wpAny_pure ⟨_,rfl,?_⟩))))
 rw [Nat.add_zero,DRs.size D.rs]
 exact hq⟩
theorem ints_lie {w:World} {h:Heap}:∀{ns:List Int} {vs:List Value},VRs w X μ h (ns.map CV.int) vs→∃ps:List (Int×Tok),vs=ps.map (fun p=>Value.int p.1 p.2)∧ps.map (·.1)=ns:=by
 intro l17
 induction l17 with
 | nil=>
  intro l18
  cases l18 with
  | nil=>
   intro ξ
   exact ⟨[],rfl,rfl⟩
  | cons ξ ξ=>
   intro r
   exact r.elim
 | cons n ns ih=>
  intro l19
  cases l19 with
  | nil=>
   intro r
   exact r.elim
  | cons v vs=>
   intro r
   obtain ⟨t,e⟩:=r.1
   obtain ⟨ps,h1,h2⟩:=ih r.2
   exact ⟨(n,t)::ps,by rw [h1,e];rfl,congrArg (n::·) h2⟩
theorem ints_at {P:Prop} {v:Value} {ns:List Int} (R:Rel g.w g.base X μ σ s.heap) (rc:VR g.w X μ s.heap c v) (hl:listOf σ c=some (ns.map CV.int)) (K:∀a (ps:List (Int×Tok)),v = .ref a→s.heap.IsList a (intItems ps.toArray)→ps.map (·.1)=ns→P):P:=
 listOf_at R rc hl fun a xs n e g rs=>by
  obtain ⟨ps,h1,h2⟩:=ints_lie rs
  exact K a ps e ⟨_,g,rfl,n,by rw [← Array.toList_inj.mp (h1.trans (by simp [intItems]):xs.toList=(intItems ps.toArray).toList)]⟩ h2
theorem BiD.sum {ns:List Int} (hl:listOf σ c=some (ns.map CV.int)):BiD (.builtin "sum") d c (.int ns.sum) σ σ:=⟨fun B O R rc K=>ints_at R rc hl fun a ps e L q=>by
 rw [e]
 refine sum_intListG O.handled L fun h' tk u hk=>?_
 rw [preSum_eq,List.take_of_length_le (by simp),q]
 exact K _ _ _ (.kept R hk ⟨_,rfl⟩)⟩
theorem BiD.max {ns:List Int} {t:Int} (hl:listOf σ c=some (ns.map CV.int)) (ht:t∈ns) (hx:∀x∈ns,x≤t):BiD (.builtin "max") d c (.int t) σ σ:=⟨fun B O R rc K=>ints_at R rc hl fun a ps e L q=>by
 have len:ps.toArray.size=ns.length:=by rw [← q,List.length_map];rfl
 have hne:0<ps.toArray.size:=len▸List.length_pos_of_mem ht
 rw [e]
 refine max_intList O.handled L hne fun u h' tk hu hk=>?_
 obtain ⟨t',e'⟩:=intItems_at hu
 obtain ⟨b1,b2⟩:=argBest_gt (numAt ps.toArray) (ps.toArray.size - 1)
 generalize argBest (fun i j=>decide (numAt ps.toArray i > numAt ps.toArray j)) (ps.toArray.size - 1)=k at *
 have at_:∀j (hj:j<ns.length),numAt ps.toArray j=ns[j]:=fun j hj=>by
  have hj':j<ps.length:=(show ps.length=ns.length from len)▸hj
  simp [numAt,hj',← q]
 have kl:k<ns.length:=by lia
 obtain ⟨j,hj,ej⟩:=List.mem_iff_getElem.mp ht
 have h1:=b2 j (by lia)
 have h2:=hx _ (List.getElem_mem kl)
 rw [at_ j hj,at_ k kl,ej] at h1
 rw [e',at_ k kl,show ns[k]=t by lia]
 exact K _ _ _ (.kept R hk ⟨_,rfl⟩)⟩
theorem BiD.int {i:Int}:BiD (.type "int") d (.int i) (.int i) σ σ:=⟨fun B O R w45 K=>by
 obtain ⟨t,e⟩:=w45
 rw [e];exact call_int_int (K _ _ _ (.now R ⟨t,rfl⟩))⟩
theorem BiD.str {i:Int} (h:i.natAbs<2 ^ 31):BiD (.type "str") d (.int i) (.str (Str.ofString (toString i))) σ σ:=⟨fun B O R w44 K=>by
 obtain ⟨t,e⟩:=w44
 rw [e]
 exact PySem.P.str_of_int (if z:i.natAbs=0 then by rw [z];decide else Nat.lt_trans ((Nat.log2_lt z).mpr h) (by decide)) (K _ _ _ (.tok R _ ⟨_,rfl⟩))⟩
theorem BiD.tup:BiD (.type "tuple") d (.tup l) (.tup l) σ σ:=⟨fun B O R rc K=>by
 obtain ⟨a,xs,n,e,g,ξ⟩:=id rc
 rw [e] at rc⊢
 exact call_tuple_same (items:=xs) ⟨_,g,rfl,n,rfl⟩ (K _ _ _ (.now R rc))⟩
theorem BiD.tuple (hl:listOf σ c=some l) (hz:l.length≤BIG):BiD (.type "tuple") d c (.tup l) σ σ:=⟨fun {g A X μ s v E Q} B O R rc K=>listOf_at R rc hl fun a xs n e g' rs=>by
 rw [e]
 exact call_tuple_list ⟨_,g',rfl,n,rfl⟩ (fun h' hk=>K _ _ _ (Nx.and ⟨St.of_keeps (tk:=s.toks) hk,R.keeps hk⟩ (.newTup (s:={ s with heap:=h' }) (xs:=xs) (R.keeps hk) (VRs.mono (.of_keeps hk) _ rs)))) (VRs.size rs▸big_fits hz)⟩
theorem BiD.list (hl:listOf σ c=some l) (hz:l.length≤BIG):BiD (.type "list") d c (.lst l) σ σ:=⟨fun B O R rc K=>listOf_at R rc hl fun a xs n e g rs=>by
 rw [e]
 exact call_list_seq a (.inl rfl) g rfl rfl (fun h' c' hk hD=>K _ _ _ (.kept R hk ⟨_,xs,c',rfl,hD,R.notSize.1,R.notSize.2,VRs.mono (.of_keeps hk) _ rs⟩)) (VRs.size rs▸big_fits hz)⟩
theorem BiD.listm (hl:listOf σ c=some l) (hz:l.length≤BIG):BiD (.type "list") d c (.ref σ.length) σ (σ++[.list l]):=⟨fun B O R rc K=>listOf_at R rc hl fun a xs n e g rs=>by
 rw [e]
 exact call_list_seq a (.inl rfl) g rfl rfl (fun h' c' hk hD=>K _ _ _ (.newObj R hk ⟨get_size _,_,hD⟩ fun kp=>⟨rfl,xs,c',hD,VRs.mono kp _ rs⟩)) (VRs.size rs▸big_fits hz)⟩
end
theorem zip_no_len:typeLookup (.type "zip") "__len__"=pure none:=by rw [typeLookup_type,builtinLookup_eq_fast];kernel_rfl
theorem zip_no_hint:typeLookup (.type "zip") "__length_hint__"=pure none:=by rw [typeLookup_type,builtinLookup_eq_fast];kernel_rfl
section
variable {w:World} {A:Around} {E:Value→Shared→Prop} {s:Shared} {r:Addr}
theorem hint_none {T:String} {Q:Bool→Shared→Prop} (h1:typeLookup (.type T) "__len__"=pure none) (h2:typeLookup (.type T) "__length_hint__"=pure none) (hT:s.TypeIs (.ref r) T) (h:Q true s):wpAny (model pw w) A (Builtin.List.listLengthHint (.ref r)) Q E s:=
 wpAny_bind (wpAny_specialOf hT h1 (wpAny_bind (m:=specialOf (Value.ref r) (Str.ofString "__length_hint__")) (wpAny_specialOf hT h2 (wpAny_pure h))))
theorem call_tuple_row {Q:Value→Shared→Prop} (hT:s.TypeIs (.ref r) "zip")
  (hcol:∀{Q':List Value→Shared→Prop} {E':Value→Shared→Prop},(∀vs (s':Shared),vs.length≤sizeLine→Q (.ref s'.heap.objs.size) { s' with heap:=s'.heap.push { cls:=.type "tuple",data:=.seq vs.toArray } }→Q' vs s')→wpAny (model pw w) A.in1.in1 (collect (.ref r)) Q' E' s) :
  wpAny (model pw w) A (call (.type "tuple") [.ref r]) Q E s:=by
 refine callType_codes (Q₁:=fun obj s₁=>s₁.TypeIs obj "tuple"∧Q obj s₁) PySem.F.called_tuple (PySem.F.typeCall_tuple_1 _) PySem.F.entry_object_init (codeAny_of_tree ?_) fun obj s₁ h₁=>⟨h₁.1,PySem.F.args_object_init_2 obj _,object_init_meets PySem.F.called_tuple.init.lookup PySem.F.called_tuple.made (by decide) pw w A.in1 _ s₁ ⟨h₁.1,rfl,h₁.2⟩⟩
 show wpAny _ A.in1.in1 (do checkBuiltinCall "tuple.__new__" ⟨[.type "tuple",.ref r],[]⟩;again (.builtin "tuple.__new__" ⟨[.type "tuple",.ref r],[]⟩)) _ _ s
 refine wpAny_bind (wpAny_of_eq (PySem.F.newCall_tuple_1 _) (wpAny_pure ⟨plainId_quiet PySem.F.plain_tuple_new _,codeAny_builtin PySem.F.entry_tuple_new ?_⟩))
 rw [Around.under_plainId PySem.F.plain_tuple_new _]
 have hsub:=sub_tuple_self
 have hinit:=init_tuple_lookup
 have hmh:=madeHere_tuple
 wp_walk using wpAny_typeOf hT,hcol
 exact fun vs s' hz hq=>wpAny_bind (m:=Builtin.Tuple.tupleExact vs.toArray) (wpAny_newObj_type (wpAny_pure ⟨⟨_,Heap.get?_push_size _ rfl,rfl⟩,hq⟩) hz)
end
section
variable {g:Gx} {A:Around} {d:Nat} {x:Fx} {X:List Addr} {μ:Mu} {ρ:Loc} {σ σ₁ σ₂:CSt} {s:Shared} {E:Value→Shared→Prop} {a b:CE} {l m:List CV}
theorem VRs.of {w:World} {h:Heap}:∀{l:List CV} {vs:List Value},l.length=vs.length→(∀(j:Nat) (c:CV) (v:Value),l[j]?=some c→vs[j]?=some v→VR w X μ h c v)→VRs w X μ h l vs:=by
 intro l20
 induction l20 with
 | nil=>
  intro vs e ξ
  exact (List.length_eq_zero_iff.mp e.symm)▸trivial
 | cons c l ih=>
  intro l21
  cases l21 with
  | nil=>
   intro e k
   exact (Nat.succ_ne_zero _ e).elim
  | cons v vs=>
   intro e k
   exact ⟨k 0 c v rfl rfl,ih (Nat.succ.inj e) fun j c v=>k (j+1) c v⟩
theorem bi_one {nm:Str} {f:Value} {e:Expr} {Q:Value→Shared→Prop} (C:Cx g A d x μ ρ σ s) (ok:isBi x.sc e nm=true) (h1:one (view e).l=true) (hm:biV.contains (nm,f)=true) (hk:KpOk (model pw g.w) (fun ξ=>True) f) (hn:notStar (hd e (view e).l)=true)
  (K:wpAny (model pw g.w) A (eval (hd e (view e).l) x.env) (fun u s₁=>wpAny (model pw g.w) A (call f [u]) Q E s₁) E s):wpAny (model pw g.w) A (eval e x.env) Q E s:=by
 refine an2 ok fun h2 h3 h4=>?_
 rw [tgE h2]
 show wpAny _ _ (eval (.Call (view e).x _ _ _) _) _ _ _
 rw [tgE h3,oneE e h1]
 refine Call_name (by rw [List.all_cons,hn];rfl) hk (fun Q' q=>name_bi C h4 hm q) ?_
 rw [starEach_plain hn]
 show wpAny _ A (spliced [(false,eval _ x.env)]) _ _ _
 unfold spliced
 exact wpAny_bind (wpAny_mono K (fun v s₁ hq=>wpAny_bind (wpAny_pure (wpAny_bind (wpAny_holding (Calls.spliced_nil (wpAny_pure ⟨trivial,hq⟩)))))) fun ξ ξ x=>x)
theorem tuple_zip {h':Heap} {L t1 t2:Addr} {Q:Value→Shared→Prop} (hh:A.handled=none) (R:Rel g.w g.base X μ σ s.heap) (k:∀b o,s.heap.get? b=some o→h'.get? b=some o) (f:∀b∈zipY L,s.heap.get? b=none∧∃o,h'.get? b=some o) (S:ZSt g.w L t1 t2 l m (zipY L++X) μ h' 0) (hz:l.length=m.length) (hb:l.length≤BIG)
  (K:∀u s' μ',Got g X μ s σ (.tup (zipL l m)) u s' μ'→Q u s'):wpAny (model pw g.w) A (call (.type "tuple") [.ref (L+4)]) Q E { s with heap:=h' }:=by
 have hT:∃o,h'.get? (L+4)=some o∧o.cls = .type "zip":=(by obtain ⟨_,_,_,_,Z,_⟩:=S.z;exact ⟨_,Z.z,rfl⟩)
 obtain ⟨o,ho,hc⟩:=hT
 have hb':(zipL l m).length≤BIG:=zipL_len hz▸hb
 refine call_tuple_row (s:={ s with heap:=h' }) ⟨o,ho,hc⟩ fun {Q'} {E'} hq=>collect_any (g:=g) (d:=0) (h₀:=s.heap) (Z:=X) (σ:=σ) (μ:=μ) (so:=none) (s:={ s with heap:=h' }) hh ho hc (by decide) (by decide) trivial hb' (none_of (fun o e=>⟨o,k _ o e⟩) (get_size h')) (fun E' s' Q' hr q=>hint_none zip_no_len zip_no_hint ⟨o,hr,hc⟩ (q _ _)) (fun E' Q' q=>?_) fun h'' tk dr vs k'' rs=>hq vs _ (VRs.length rs▸big_fits hb') (K _ _ _ (Nx.and ⟨St.of_keeps k'',R.keeps k''⟩ (.newTup (s:={ s with heap:=h'',toks:=tk,drawn:=dr }) (xs:=vs.toArray) (R.keeps k'') rs)))
 have ff:∀b∈h'.objs.size::zipY L,s.heap.get? b=none∧∃o,(h'.push (lstO #[] 0)).get? b=some o:=fun b mb=>(List.mem_cons.mp mb).elim (fun q=>⟨none_of (fun o e=>⟨o,k _ o e⟩) (q▸get_size h'),_,q▸Heap.get?_push_size _ rfl⟩) fun mb=>⟨(f b mb).1,(by obtain ⟨o,e⟩:=(f b mb).2;exact ⟨o,push_up e⟩)⟩
 have S':ZSt g.w L t1 t2 l m ((h'.objs.size::zipY L)++X) μ (h'.push (lstO #[] 0)) 0:=(loopy_zip (g:=g) (d:=0) (y:="") (p:=default) hz).keep S ⟨fun ξ ξ e=>e,fun b o e nf nx=>⟨push_up e,nf,fun mb=>(List.mem_cons.mp mb).elim (fun q=>not_none e (q▸get_size h')) nx⟩⟩ fun b mb o e=>push_up e
 exact zip_self (s:={ s with heap:=h'.push (lstO #[] 0) }) S' (q _ _ _ _ ((h'.objs.size::zipY L)++X) (zipY L) _ ⟨loopy_zip hz,R.more (fun b o e=>push_up (k b o e)) ff,S',fun b m=>.tail _ (List.mem_append_left _ m),fun b m=>List.mem_append_right (h'.objs.size::zipY L) m,.head _,fun mb=>(by obtain ⟨o,e⟩:=(f _ mb).2;exact not_none e (get_size h')),fun b m=>(f b m).1,Heap.get?_push_size _ rfl,fun b o e=>push_up (k b o e)⟩ (push_up ho))
theorem notStar11 {e:Expr} (h:tg e 11=true):notStar e=true:=by
 unfold notStar
 rw [show tg e 16=Nat.beq (view e).t 16 from rfl,Nat.eq_of_beq_eq_true h]
 rfl
theorem Does.tupZip (S:DoesL d [a,b] ρ σ [.tup l,.tup m] σ₁) (hz:l.length=m.length) (hb:l.length≤BIG):Does d (.tupZip a b) ρ σ (.tup (zipL l m)) σ₁:=⟨fun {e g A x μ s E Q} ok C K=>by
 refine an6 ok fun h1 h2 h3 h4 h5 h6 ok=>?_
 exact bi_one C h1 h2 (f:=.type "tuple") rfl keeps_type (notStar11 (an h3).1) (bi_call h3 (f:=.type "zip") rfl keeps_type S (okEs_two h4 h5 h6 (an ok).1 (an ok).2) C fun us s₁ μ₁ n=>VRs.two n.r fun u v e ru rv=>e▸zip_made n.R ru rv fun L t1 t2 h' k f hZ=>tuple_zip C.O.handled n.R k f hZ hz hb fun ξ ξ ξ m=>K _ _ _ (n.toNx.and m))⟩
theorem Does.listRange {n:Int} (S:Does d a ρ σ (.int n) σ₁) (h0:0≤n) (h1:n<BIG):Does d (.listRange a) ρ σ (.lst (intsUpto n)) σ₁:=⟨fun {e g A x μ s E Q} ok C K=>by
 refine an4 ok fun h2 h3 h4 h5 ok=>?_
 refine bi_one C h2 h3 (f:=.type "list") rfl keeps_type (notStar11 (an h4).1) (bi_call h4 (f:=.type "range") rfl keeps_type (.one S) (okEs_one h5 (an ok).1 (an ok).2) C fun us s₁ μ₁ m=>VRs.one m.r fun u e ⟨t,r⟩=>?_)
 rw [e,r]
 refine call_range_1 ?_
 generalize ho:({ cls:=.type "range",data:=.fields #[.int 0 s₁.toks,.int n t,.int 1 (s₁.toks+1)] }:Obj)=o
 have N:Nx g x.X μ₁ s₁ σ₁ { s₁ with heap:=s₁.heap.push o,toks:=s₁.toks+1+1 } μ₁:=.push m.R o _
 have hr:IsRange (s₁.heap.push o) s₁.heap.objs.size 0 n 1 s₁.toks t (s₁.toks+1):=ho▸Heap.get?_push_size _ rfl
 have hb:(BIG:Int)=100000:=rfl
 refine call_list_range (s:={ s₁ with heap:=s₁.heap.push o,toks:=s₁.toks+1+1 }) C.O.handled hr (range_small ⟨h0,h1⟩) (range_size h0) (by lia) fun h' tk acc c hk hD hI=>K _ _ _ ((m.toNx.trans N).and (.kept (s:={ s₁ with heap:=s₁.heap.push o,toks:=s₁.toks+1+1 }) N.R hk ⟨_,acc,c,rfl,hD,N.R.notSize.1,N.R.notSize.2,?_⟩))
 exact VRs.of (by unfold intsUpto;rw [List.length_map,List.length_range,Array.length_toList,hI.1]) fun j c v hc hv=>by
  obtain ⟨ξ,ec⟩:=getElem_intsUpto hc
  obtain ⟨t,ev⟩:=hI.2 j v (by rw [← Array.getElem?_toList];exact hv)
  rw [ec,ev]
  exact ⟨t,by rw [Int.mul_one,Int.zero_add];rfl⟩⟩
end
theorem lk_list_keys:typeLookup (.type "list") "keys"=pure none:=by rw [typeLookup_type,builtinLookup_eq_fast];kernel_rfl
section
variable {w:World} {A:Around} {E:Value→Shared→Prop} {s:Shared}
theorem keys_by_list {a:Addr} {xs:Array Value} {k:Nat} {tk:Tok} {Q:Value→Shared→Prop} (hx:s.heap.get? a=some (lstO xs k)) (hA:A.handled=none)
  (h:∀h' tk e,Heap.NewExcOf s.heap h' e "AttributeError"→E (.ref e) { s with heap:=h',toks:=tk }) :
  wpAny (model pw w) A (getAttrBy (.ref a) (.str "keys" tk) false) Q E s:=by
 obtain ⟨hp,g,d,tk,os⟩:=s
 have hT:∀tk',(⟨hp,g,d,tk',os⟩:Shared).TypeIs (.ref a) "list":=fun ξ=>⟨_,hx,rfl⟩
 have f1:=sub_AttributeError
 have f3:=PySem.F.slot_list_getattribute.lookup
 have f4:=PySem.F.slot_list_getattribute.bind (.ref a)
 have f5:=am_list_getattr_none
 unfold getAttrBy
 repeat (any_goals (first | assumption | exact hT _ | ((with_reducible show wpAny _ _ (call (Value.builtin "list.__getattribute__") _ _) _ _ _);refine call_meets PySem.F.slot_list_getattribute (hT _) am_entry_list_getattribute (PySem.F.args_list_getattribute_2 _ _) (meets_getattribute_miss_list a xs k #[] "keys" _ lk_list_keys (by decide)) ⟨hx,hA,fun h' tk' e hx'=>?_⟩) | wp_step))
 obtain ⟨t',u',he⟩:=hx'.there
 show wpAny _ _ (getattributeRaised _ _ _ _ _ _ _) _ _ _
 unfold getattributeRaised
 repeat (any_goals (first | assumption | wp_step))
 exact h _ _ _ hx'.of
theorem no_keys_list {a:Addr} {xs:Array Value} {k:Nat} {Q:Option Value→Shared→Prop} (hx:s.heap.get? a=some (lstO xs k)) (hA:A.handled=none)
  (h:∀h' tk,(∀b o,s.heap.get? b=some o→h'.get? b=some o)→Q none { s with heap:=h',toks:=tk }):wpAny (model pw w) A (getAttr? (.ref a) "keys") Q E s:=
 wpAny_bind (wpAny_mkText (wpAny_bind (wpAny_attempt (keys_by_list (s:={ s with toks:=s.toks+1 }) hx hA fun h' tk e he=>
  let ⟨kk,_,o,_,ho,hc,_⟩:=he
  wpAny_bind (wpAny_isInstance (T:="AttributeError") (b:=true) (s:={ s with heap:=h',toks:=tk }) ⟨_,ho,hc⟩ sub_AttributeError (wpAny_pure (h h' tk fun b o e=>kk b o e)))))))
end
theorem entry_update_loop:entryFor table "dict.update.loop"=some Builtin.«dict.update.loop»:=entryFor_of_tree (by kernel_rfl)
theorem plain_update_loop:plainId "dict.update.loop"=true:=by decide +kernel
abbrev pairT (e:CV×CV):CV:=.tup [e.1,e.2]
section
variable {es acc:List (CV×CV)} {k c:CV}
theorem setK_sub (h:∀e∈acc,e.1∈es.map (·.1)) (hk:k∈es.map (·.1)):∀e∈setK acc k c,e.1∈es.map (·.1):=by
 intro e m
 have m:e.1∈(setK acc k c).map (·.1):=List.mem_map.mpr ⟨e,m,rfl⟩
 rw [setK_keys] at m
 have old:∀x∈acc.map (·.1),x∈es.map (·.1):=List.forall_mem_map.mpr h
 by_cases q:hasK acc k=true
 ·rw [if_pos q] at m;exact old _ m
 ·rw [if_neg q] at m
  exact (List.mem_append.mp m).elim (old _) fun m=>List.mem_singleton.mp m▸hk
theorem setK_length:(setK acc k c).length≤acc.length+1:=by
 have:=congrArg List.length (setK_keys (es:=acc) (k:=k) (u:=c))
 rw [List.length_map,apply_ite List.length,List.length_append,List.length_map] at this
 by_cases q:hasK acc k=true
 ·rw [if_pos q] at this;lia
 ·rw [if_neg q] at this;exact Nat.le_of_eq this
theorem keyIn_of (hall:es.all (fun e=>keyIn e.1 es)=true) (h:∀e∈acc,e.1∈es.map (·.1)) (hk:k∈es.map (·.1)):keyIn k acc=true:=by
 obtain ⟨e0,m0,q0⟩:=List.mem_map.mp hk
 refine an1 (List.all_eq_true.mp hall e0 m0) fun h1 h2=>?_
 rw [q0] at h1 h2
 refine nd h1 (List.all_eq_true.mpr fun e m=>?_)
 obtain ⟨e',m',q⟩:=List.mem_map.mp (h e m)
 exact q▸List.all_eq_true.mp h2 e' m'
end
structure UpJ (g:Gx) (h₀:Heap) (X:List Addr) (σ:CSt) (Ys:List Addr) (I:List Addr→Mu→Heap→Nat→Prop) (D:Addr) (es:List (CV×CV)) (μ:Mu) (h:Heap) (i:Nat) (acc:List (CV×CV)) (ds:Array DictEntry) (c:Nat):Prop where
 k:∀b o,b≠D→b∉Ys→h₀.get? b=some o→h.get? b=some o
 R:Rel g.w g.base X μ σ h
 I:I X μ h i
 D:h.get? D=some (dctO ds c)
 q:DRs g.w X μ h acc ds.toList
 nd:(acc.map (·.1)).Nodup
 sub:∀e∈acc,e.1∈es.map (·.1)
 al:acc.length≤i
section
variable {g:Gx} {A:Around} {d:Nat} {X Z:List Addr} {μ:Mu} {σ:CSt} {s:Shared} {E:Value→Shared→Prop} {it:Value} {Ys:List Addr} {es:List (CV×CV)} {so:Option (Nat×CObj)} {I:List Addr→Mu→Heap→Nat→Prop} {D:Addr} {h₀:Heap}
theorem update_loop {RR:Result→Shared→Prop} (W:Loopy g d nmT Ys it (es.map pairT) so I) (O:A.handled=none) (hu:A.in1.units<cLine) (YX:∀b∈Ys,b∈X) (DY:D∉Ys) (DX:D∈X) (ZX:∀b∈Z,b∈X) (hs:srcP σ so) (hz:es.length≤BIG) (hall:es.all (fun e=>keyIn e.1 es)=true)
  (K:∀h' tk ds c,(∀b o,b≠D→b∉Ys→h₀.get? b=some o→h'.get? b=some o)→h'.get? D=some (dctO ds c)→DRs g.w Z μ h' (dictMake [] es) ds.toList→((dictMake [] es).map (·.1)).Nodup→RR (.ok (.ret .none)) { s with heap:=h',toks:=tk }) :
  ∀(rest:List (CV×CV)) (i:Nat) {h:Heap} {tk:Nat} {acc:List (CV×CV)} {ds:Array DictEntry} {c:Nat},es.drop i=rest→dictMake acc rest=dictMake [] es→UpJ g h₀ X σ Ys I D es μ h i acc ds c→i≤es.length→codeAny (model pw g.w) A (.builtin "dict.update.loop" ⟨[.ref D,it,.int i 0,.none],[]⟩) RR { s with heap:=h,toks:=tk }:=by
 intro l17
 induction l17 with
 | nil=>
  intro i h tk acc ds c hr hd J le
  have hn:i=(es.map pairT).length:=by rw [List.length_map];exact Nat.le_antisymm le (List.drop_eq_nil_iff.mp hr)
  refine codeAny_builtin entry_update_loop ?_
  rw [Around.under_plainId plain_update_loop _]
  refine W.fin (s:={ s with heap:=h,toks:=tk }) O J.R YX hs (hn▸J.I) fun h' tk' k=>wpAny_bind (m:=Builtin.Dict.addKeywords D []) (wpAny_pure (wpAny_pure (K _ _ _ _ (fun b o n1 n2 e=>k b o n2 (J.k b o n1 n2 e)) (k D _ DY J.D) ?_ ?_)))
  ·rw [← hd];exact DRs.mono ⟨fun ξ ξ e=>e,fun b o e nf nx=>⟨k b o (fun m=>nx (YX b m)) e,nf,fun m=>nx (ZX b m)⟩⟩ _ J.q
  ·rw [← hd];exact J.nd
 | cons a18 rest ih=>
  obtain ⟨k0,c0⟩:=a18
  intro i h tk acc ds c hr hd J le
  have hc:es[i]?=some (k0,c0):=by rw [← List.head?_drop,hr];rfl
  have lt:i<es.length:=(List.getElem?_eq_some_iff.mp hc).1
  refine codeAny_builtin entry_update_loop ?_
  rw [Around.under_plainId plain_update_loop _]
  refine W.draw (c:=.tup [k0,c0]) (s:={ s with heap:=h,toks:=tk }) O J.R YX hs J.I (by rw [List.getElem?_map,hc];rfl) fun v h' tk' k rv hI=>?_
  have lv:=W.live hI
  have kX:∀b o,h.get? b=some o→b∉X→h'.get? b=some o:=fun b o e nx=>k b o (fun m=>nx (YX b m)) e
  have R':Rel g.w g.base X μ σ h':=J.R.keepX kX fun b m=>if q:b∈Ys then lv b q else (by obtain ⟨o,e⟩:=J.R.insideX b m;exact ⟨o,k b o q e⟩)
  have kp:=J.R.kpX kX
  obtain ⟨ta,txs,tn,e,tg,ξ,ξ,trs⟩:=id rv
  rw [e]
  refine VRs.two trs fun kv cv hkv rk rc=>?_
  refine wpAny_bind (m:=holding _ _) (wpAny_holding (wpAny_bind (m:=Sem.tryCatch _ _) (wpAny_tryCatch (wpAny_bind (m:=typeOf _) (wpAny_typeOf (T:="tuple") (s:={ s with heap:=h',toks:=tk' }) ⟨_,tg,rfl⟩ (wpAny_bind (m:=seqItems? _) (wpAny_seqItems tg rfl (wpAny_pure ?_))))))))
  rw [show (some txs).getD #[]=txs from rfl,hkv]
  have km:k0∈es.map (·.1):=List.mem_map.mpr ⟨_,List.mem_of_getElem? hc,rfl⟩
  refine wpAny_holding (dictSet_cv (s:={ s with heap:=h',toks:=tk' }) hu rk (keyIn_of hall J.sub km) (k D _ DY J.D) (DRs.mono kp _ J.q) J.nd rc (Nat.le_trans J.al (Nat.le_trans le (big_fits hz))) fun h'' ds' t' hs2 hD2 hd2=>?_)
  have k2:∀b o,h'.get? b=some o→b∉X→h''.get? b=some o:=fun b o e nx=>hs2.extBut b o (fun q=>nx (q▸DX)) e
  have kp2:=R'.kpX k2
  exact wpAny_pure ⟨plainId_quiet plain_update_loop _,ih (i+1) (by rw [← List.tail_drop,hr];rfl) hd ⟨fun b o n1 n2 e=>hs2.extBut b o n1 (k b o n2 (J.k b o n1 n2 e)),R'.keepX k2 fun b m=>if q:b=D then ⟨_,(congrArg _ q).trans hD2⟩ else (by obtain ⟨o,e⟩:=R'.insideX b m;exact ⟨o,hs2.extBut b o q e⟩),W.keep hI kp2 fun b m o e=>hs2.extBut b o (fun q=>DY (q▸m)) e,hD2,DRs.mono kp2 _ hd2,setK_nodup J.nd,setK_sub J.sub km,Nat.le_trans setK_length (Nat.succ_le_succ J.al)⟩ lt⟩
theorem Rel.notMods (B:Bs g) (R:Rel g.w g.base X μ σ s.heap):(s.heap.objs.size==sysModules)=false:=beq_eq_false_iff_ne.mpr fun e=>by
 have hk:∃o,(KF g.w.params).lookup 174=some o:=⟨_,rfl⟩
 obtain ⟨o,ho⟩:=hk
 have lt:=Heap.lt_size (R.keep _ _ (B.K _ _ ho))
 rw [e] at lt
 exact absurd lt (by decide)
theorem BiD.dict (hall:es.all (fun e=>keyIn e.1 es)=true) (hz:es.length≤BIG):BiD (.type "dict") d (.lst (es.map pairT)) (.dct (dictMake [] es)) σ σ:=⟨fun {g A X μ s v E Q} B O R r K=>by
 obtain ⟨a,xs,n,e,g',ξ,ξ,ξ⟩:=id r
 rw [e] at r⊢
 have gD:(s.heap.push (dctO #[] 0)).get? s.heap.objs.size=some (dctO #[] 0):=Heap.get?_push_size _ rfl
 have hTD:({ s with heap:=s.heap.push (dctO #[] 0) }:Shared).TypeIs (.ref s.heap.objs.size) "dict":=⟨_,gD,rfl⟩
 refine callType_codes (Q₁:=fun obj s₁=>obj = .ref s.heap.objs.size∧s₁={ s with heap:=s.heap.push (dctO #[] 0) }) PySem.F.kt_called_dict (PySem.F.kt_typeCall_dict_1 _) PySem.F.entry_dict_init (kt_code_dict_new _ ⟨rfl,rfl⟩) fun obj s₁ ⟨e1,e2⟩=>?_
 rw [e1,e2]
 refine ⟨hTD,PySem.F.args_dict_init_2 _ _,wpAny_bind (m:=Builtin.Dict.selfAndRest _ _) (wpAny_bind (wpAny_notOrdered_dict hTD (wpAny_pure ?_)))⟩
 refine wpAny_bind (m:=typeOf _) (wpAny_typeOf (T:="list") (s:={ s with heap:=s.heap.push (dctO #[] 0) }) ⟨_,push_up g',rfl⟩ ?_)
 refine wpAny_bind (m:=getAttr? _ _) (no_keys_list (s:={ s with heap:=s.heap.push (dctO #[] 0) }) (push_up g') O.handled fun h₁ tk₁ k₁=>?_)
 have k:∀b o,s.heap.get? b=some o→h₁.get? b=some o:=fun b o e=>k₁ _ _ (push_up e)
 have fr:∀b∈[s.heap.objs.size],s.heap.get? b=none∧∃o,h₁.get? b=some o:=fun b m=>by
  rw [List.mem_singleton.mp m];exact ⟨get_size _,_,k₁ _ _ gD⟩
 refine wpAny_bind (m:=rule _) (wpAny_rule (wpAny_bind (m:=pyIter _) (WalkD.lst.go (d:=d) (target:=nmT) (s:={ s with heap:=h₁,toks:=tk₁ }) (R.more k fr) (VR.more k (fun b m=>(fr b m).1) r) fun it s' Ys I M=>?_)))
 have DY:s.heap.objs.size∉Ys:=fun m=>not_none (k₁ _ _ gD) (M.fr _ m)
 have ZX:∀b∈X,b∈Ys++s.heap.objs.size::X:=fun b m=>List.mem_append_right _ (.tail _ m)
 refine wpAny_pure ⟨plainId_quiet plain_update_loop _,update_loop (A:=A.in1) (Z:=X) (h₀:=s'.heap) (s:=s') M.W O.handled (by have:=O.units;show A.units+1+1<cLine;lia) (fun b m=>List.mem_append_left _ m) DY (List.mem_append_right _ (.head _)) ZX trivial hz hall (fun h' tk ds c hk hD q nd=>⟨rfl,K _ _ _ ⟨⟨?_,?_⟩,_,ds,c,rfl,hD,(R.fresh (get_size _)).1,(R.fresh (get_size _)).2,R.notMods B,q,nd⟩⟩) es 0 rfl rfl ⟨fun ξ ξ ξ ξ e=>e,M.R,M.I0,M.st.keep _ _ (k₁ _ _ gD) (R.fresh (get_size _)).1 (by simp),trivial,List.nodup_nil,(fun ξ m=>nomatch m),Nat.le_refl _⟩ (Nat.zero_le _)⟩
 ·refine ((St.of_keeps (s:=s) (tk:=tk₁) k).trans0 M.st).off (Ys:=s.heap.objs.size::Ys) (fun b m=>(List.mem_cons.mp m).elim (fun q=>q▸get_size _) fun m=>none_of (fun o e=>⟨o,k b o e⟩) (M.fr b m)) fun b o nb e=>hk b o (fun q=>nb (q▸.head _)) (fun m=>nb (.tail _ m)) e
 ·refine M.R.drop (fun b o e nb=>hk b o (fun q=>nb (q▸List.mem_append_right _ (.head _))) (fun m=>nb (List.mem_append_left _ m)) e) ZX fun b m=>(by obtain ⟨o,e⟩:=M.R.insideX b (ZX b m);exact ⟨o,hk b o (fun q=>(R.fresh (get_size _)).2 (q▸m)) (fun my=>(by obtain ⟨o,e⟩:=R.insideX b m;exact not_none (k b o e) (M.fr b my))) e⟩)⟩
end
structure TyD (v:CV) (σ:CSt) (T:String):Prop where
 go:∀{w:World} {base:Heap} {X:List Addr} {μ:Mu} {s:Shared} {u:Value},Rel w base X μ σ s.heap→VR w X μ s.heap v u→s.TypeIs u T∧∀a,u = .ref a→∃o,s.heap.get? a=some o∧o.dict=none
structure MsD (m:MId) (T:String) (id:String):Prop where
 go:∀{M:Model} {A:Around} {s:Shared} {u:Value} {pl:Sem Bool} {E:Value→Shared→Prop} {Q:Value×List Value→Shared→Prop},s.TypeIs u T∧(∀a,u = .ref a→∃o,s.heap.get? a=some o∧o.dict=none)→Q (.builtin id,[u]) s→wpAny M A (getMethod u (bmN m) pl) Q E s
structure BmC (id:String) (d:Nat) (o:CV) (vs:List CV) (σ:CSt) (r:CV) (σ':CSt):Prop where
 go:∀{g:Gx} {A:Around} {X:List Addr} {μ:Mu} {s:Shared} {u:Value} {us:List Value} {E Q:Value→Shared→Prop},OkA A d→Rel g.w g.base X μ σ s.heap→VR g.w X μ s.heap o u→VRs g.w X μ s.heap vs us→(∀u s' μ',Got g X μ s σ' r u s' μ'→Q u s')→wpAny (model pw g.w) A (call (.builtin id) (u::us)) Q E s
theorem ty_ref {s:Shared} {T:String} {a:Addr} {o:Obj} {u:Value} (e:u = .ref a) (h:s.heap.get? a=some o) (hc:o.cls = .type T) (hd:o.dict=none):s.TypeIs u T∧∀a,u = .ref a→∃o,s.heap.get? a=some o∧o.dict=none:=
 e▸⟨⟨o,h,hc⟩,fun ξ q=>⟨o,Value.ref.inj q▸h,hd⟩⟩
theorem MsD.append:MsD .append "list" "list.append":=⟨fun h q=>getMethod_builtin h.1 PySem.F.plainAttrs_list PySem.F.slot_list_append PySem.F.type_list_append h.2 q⟩
theorem MsD.extend:MsD .extend "list" "list.extend":=⟨fun h q=>getMethod_builtin h.1 PySem.F.plainAttrs_list PySem.F.slot_list_extend PySem.F.type_list_extend h.2 q⟩
theorem MsD.pop:MsD .pop "list" "list.pop":=⟨fun h q=>getMethod_builtin h.1 PySem.F.plainAttrs_list PySem.F.slot_list_pop PySem.F.type_list_pop h.2 q⟩
theorem MsD.popD:MsD .pop "dict" "dict.pop":=⟨fun h q=>getMethod_builtin h.1 PySem.F.plainAttrs_dict PySem.F.slot_dict_pop PySem.F.type_dict_pop h.2 q⟩
theorem MsD.get:MsD .get "dict" "dict.get":=⟨fun h q=>getMethod_builtin h.1 PySem.F.plainAttrs_dict PySem.F.slot_dict_get PySem.F.type_dict_get h.2 q⟩
theorem MsD.setdefault:MsD .setdefault "dict" "dict.setdefault":=⟨fun h q=>getMethod_builtin h.1 PySem.F.plainAttrs_dict PySem.F.slot_dict_setdefault PySem.F.type_dict_setdefault h.2 q⟩
theorem MsD.isspace:MsD .isspace "str" "str.isspace":=⟨fun h q=>getMethod_builtin h.1 PySem.F.plainAttrs_str PySem.F.slot_str_isspace PySem.F.type_str_isspace h.2 q⟩
section
variable {σ:CSt} {i ep:Nat} {l l':List CV} {es es':List (CV×CV)} {x k v:CV} {d:Nat}
theorem TyD.list (h:σ[i]?=some (.list l)):TyD (.ref i) σ "list":=⟨fun R w61=>by obtain ⟨p,hp,e⟩:=w61;exact (by obtain ⟨ξ,ξ,ξ,g,ξ⟩:=R.obj i p _ hp h;exact ty_ref e g rfl rfl)⟩
theorem TyD.dict (h:σ[i]?=some (.dict es ep)):TyD (.ref i) σ "dict":=⟨fun R w60=>by obtain ⟨p,hp,e⟩:=w60;exact (by obtain ⟨ξ,ξ,ξ,g,ξ⟩:=R.obj i p _ hp h;exact ty_ref e g rfl rfl)⟩
theorem TyD.dct:TyD (.dct es) σ "dict":=⟨fun R w59=>by obtain ⟨ξ,ξ,ξ,e,g,ξ⟩:=w59;exact ty_ref e g rfl rfl⟩
theorem TyD.str {y:Str}:TyD (.str y) σ "str":=⟨fun R w58=>by obtain ⟨t,e⟩:=w58;rw [e];exact ⟨typeIs_str _ _ _,fun a q=>nomatch q⟩⟩
section
variable {g:Gx} {X:List Addr} {μ:Mu} {s:Shared} {p:Addr×Addr} {h':Heap} {xs:Array Value} {n tk:Nat} {c:CV} {u:Value} {ds:Array DictEntry}
theorem Got.set {o':CObj} {ob:Obj} (R:Rel g.w g.base X μ σ s.heap) (hp:μ[i]?=some p) (h2:p.2=p.1) (hs:Heap.SameBut p.1 s.heap h') (hg:h'.get? p.1=some ob) (n:Kp X μ s.heap X μ h'→OR g.w X μ h' p o') (rc:VR g.w X μ s.heap c u):Got g X μ s (σ.set i o') c u { s with heap:=h',toks:=tk } μ:=
 ⟨.store R hp h2 hs hg n,VR.mono ⟨fun ξ ξ e=>e,fun b o e nf nx=>⟨hs.extBut b o (fun q=>nf ⟨i,p,hp,.inl q⟩) e,nf,nx⟩⟩ _ rc⟩
theorem Got.setL (R:Rel g.w g.base X μ σ s.heap) (hp:μ[i]?=some p) (h2:p.2=p.1) (hs:Heap.SameBut p.1 s.heap h') (hg:h'.get? p.1=some (lstO xs n)) (rs:VRs g.w X μ s.heap l' xs.toList) (rc:VR g.w X μ s.heap c u):Got g X μ s (σ.set i (.list l')) c u { s with heap:=h',toks:=tk } μ:=
 .set R hp h2 hs hg (fun kp=>⟨h2,xs,n,hg,VRs.mono kp _ rs⟩) rc
theorem Got.setD (R:Rel g.w g.base X μ σ s.heap) (hp:μ[i]?=some p) (h2:p.2=p.1) (sm:(p.1==sysModules)=false) (hs:Heap.SameBut p.1 s.heap h') (hg:h'.get? p.1=some (dctO ds ep)) (rs:DRs g.w X μ s.heap es' ds.toList) (nd:(es'.map (·.1)).Nodup) (rc:VR g.w X μ s.heap c u):Got g X μ s (σ.set i (.dict es' ep)) c u { s with heap:=h',toks:=tk } μ:=
 .set R hp h2 hs hg (fun kp=>⟨h2,sm,ds,hg,DRs.mono kp _ rs,nd⟩) rc
end
theorem BmC.append (h:σ[i]?=some (.list l)) (hz:l.length<BIG):BmC "list.append" d (.ref i) [x] σ .none (σ.set i (.list (l++[x]))):=⟨fun O R ⟨p,hp,e⟩ rs K=>VRs.one rs fun u e' r=>by
 obtain ⟨h2,xs,n,g,rl⟩:=R.obj i p _ hp h
 rw [e,e']
 exact append_call g (VRs.size rl▸big_fits (Nat.le_of_lt hz)) (K _ _ _ (.setL (tk:=_) R hp h2 (Heap.SameBut.update ..) (IsL.update (show IsL _ p.1 xs n from g) (fun y=>y.push u)) (by rw [Array.toList_push];exact VRs.append rl ⟨r,trivial⟩) rfl))⟩
theorem BmC.extend {c:CV} (h:σ[i]?=some (.list l)) (hc:listOf σ c=some l') (hz:l.length+l'.length≤BIG):BmC "list.extend" d (.ref i) [c] σ .none (σ.set i (.list (l++l'))):=⟨fun O R ⟨p,hp,e⟩ rs K=>VRs.one rs fun u e' r=>listOf_at R r hc fun b ys k e2 g2 rl2=>by
 obtain ⟨h2,xs,n,g,rl⟩:=R.obj i p _ hp h
 rw [e,e',e2]
 have hb:xs.size+ys.size≤sizeLine:=by rw [VRs.size rl,VRs.size rl2];exact big_fits hz
 refine call_meets PySem.F.slot_list_extend ⟨_,g,rfl⟩ PySem.F.entry_list_extend (PySem.F.args_list_extend_2 _ _) (AutoSeq1.list_extend_list_list_0 p.1 xs n b ys k ?_ (by lia) (by lia)) ⟨g,g2,K _ _ _ (.setL (tk:=_) R hp h2 (Heap.SameBut.update ..) (IsL.update (show IsL _ p.1 xs n from g) (fun y=>y++ys)) (by rw [Array.toList_append];exact VRs.append rl rl2) rfl)⟩
 simp [Builtin.List.listTooLong]
 intro _
 lia⟩
theorem pop_toList (xs:Array Value):(xs.eraseIdxIfInBounds (xs.size - 1)).toList=xs.toList.dropLast:=by
 obtain ⟨q⟩:=xs
 simp only [List.eraseIdxIfInBounds_toArray,List.size_toArray]
 exact List.eraseIdx_length_sub_one
theorem VRs.dropLast {w:World} {X:List Addr} {μ:Mu} {h:Heap} {cs:List CV} {vs:List Value} (r:VRs w X μ h cs vs):VRs w X μ h cs.dropLast vs.dropLast:=by
 rw [List.dropLast_eq_take,List.dropLast_eq_take,VRs.length r]
 exact r.take _
theorem BmC.pop (h:σ[i]?=some (.list l)) (hx:l.getLast?=some x) (hz:l.length≤BIG):BmC "list.pop" d (.ref i) [] σ x (σ.set i (.list l.dropLast)):=⟨fun {g A X μ s u us E Q} O R w55 rs K=>by
 obtain ⟨p,hp,e⟩:=w55
 obtain ⟨h2,xs,n,g',rl⟩:=R.obj i p _ hp h
 have hl:=VRs.size rl
 rw [List.getLast?_eq_getElem?] at hx
 refine rl.at hx fun v hv rv=>?_
 rw [e,show us=[] from List.length_eq_zero_iff.mp (VRs.length rs)]
 refine call_meets PySem.F.slot_list_pop ⟨_,g',rfl⟩ PySem.F.entry_list_pop (PySem.F.args_list_pop_1 _) (PySem.MeetsSeq.list_pop_last p.1 xs n v (hl▸hv) (hl▸big_fits hz)) ⟨g',K _ _ _ (.setL R hp h2 (Heap.SameBut.update ..) (IsL.update (show IsL s.heap p.1 xs n from g') (fun y=>y.eraseIdxIfInBounds (xs.size - 1))) ?_ rv)⟩
 rw [pop_toList]
 exact VRs.dropLast rl⟩
theorem dict_at {P:Prop} {w:World} {base:Heap} {X:List Addr} {μ:Mu} {s:Shared} {u:Value} (R:Rel w base X μ σ s.heap) (r:VR w X μ s.heap (.ref i) u) (h:σ[i]?=some (.dict es ep)) (K:∀p ds,μ[i]?=some p→p.2=p.1→u = .ref p.1→DictAt w X μ s.heap es p.1 ds ep→P):P:=by
 obtain ⟨p,hp,e⟩:=r
 obtain ⟨h2,sm,ds,g,rd,nd⟩:=R.obj i p _ hp h
 exact K p ds hp h2 e ⟨g,sm,rd,nd⟩
theorem BmC.popD (h:σ[i]?=some (.dict es ep)) (hk:keyIn k es=true) (hf:findK es k=some v) (hz:es.length≤BIG):BmC "dict.pop" d (.ref i) [k] σ v (σ.set i (.dict (eraseK es k) (ep+1))):=⟨fun O R r rs K=>VRs.one rs fun u e' r'=>dict_at R r h fun p ds hp h2 e D=>by
 rw [e,e']
 exact call_dict_pop O D r' hk hf (big_fits hz) fun x h' ds' t rx hs hg hd=>K _ _ _ (.setD R hp h2 D.sm hs hg hd (eraseK_nodup D.nd) rx)⟩
theorem BmC.get {c:CV} (h:dictOf σ c=some es) (hk:keyIn k es=true):BmC "dict.get" d c [k] σ ((findK es k).getD .none) σ:=⟨fun O R r rs K=>VRs.one rs fun u e' r'=>by
 refine dictOf_dec R r h fun a ds n e D=>?_
 rw [e,e']
 exact call_dict_get O D r' hk fun u t ru=>K _ _ _ (.tok R t ru)⟩
theorem BmC.get2 {c:CV} (h:dictOf σ c=some es) (hk:keyIn k es=true):BmC "dict.get" d c [k,v] σ ((findK es k).getD v) σ:=⟨fun O R r rs K=>VRs.two rs fun u u' e' r1 r2=>by
 refine dictOf_dec R r h fun a ds n e D=>?_
 rw [e,e']
 exact call_dict_get2 O D r1 hk r2 fun u t ru=>K _ _ _ (.tok R t ru)⟩
theorem BmC.setdefault1 {c:CV} (h:σ[i]?=some (.dict es ep)) (hk:keyIn k es=true) (hz:es.length≤BIG) (hf:findK es k=some c):BmC "dict.setdefault" d (.ref i) [k,v] σ c σ:=⟨fun O R r rs K=>VRs.two rs fun u u' e' r1 r2=>dict_at R r h fun p ds hp h2 e D=>by
 rw [e,e']
 exact call_dict_setdefault O D r1 hk r2 (big_fits hz) (fun c' x t hf' rx=>K _ _ _ (.tok R t (Option.some.inj (hf.symm.trans hf')▸rx))) fun hf'=>nomatch hf.symm.trans hf'⟩
theorem snoc_nodup (nd:(es.map (·.1)).Nodup) (hf:findK es k=none):((es++[(k,v)]).map (·.1)).Nodup:=by
 have:=setK_nodup (k:=k) (u:=v) nd
 rcases findIdx_spec (es:=es) (k:=k) with ⟨_,_,_,e⟩ | ⟨i,c,_,_,e,_⟩
 ·rw [e] at this;exact this
 ·exact nomatch hf.symm.trans e
theorem BmC.setdefault0 (h:σ[i]?=some (.dict es ep)) (hk:keyIn k es=true) (hz:es.length≤BIG) (hf:findK es k=none):BmC "dict.setdefault" d (.ref i) [k,v] σ v (σ.set i (.dict (es++[(k,v)]) (ep+1))):=⟨fun O R r rs K=>VRs.two rs fun u u' e' r1 r2=>dict_at R r h fun p ds hp h2 e D=>by
 rw [e,e']
 exact call_dict_setdefault O D r1 hk r2 (big_fits hz) (fun c' x t hf' ξ=>nomatch hf.symm.trans hf') fun hf' h' ds' t hs hg hd=>K _ _ _ (.setD R hp h2 D.sm hs hg hd (snoc_nodup D.nd hf) r2)⟩
theorem BmC.isspace {x:Str}:BmC "str.isspace" d (.str x) [] σ (.bool (x.length > 0&&x.cps.all Unicode.isSpace)) σ:=⟨fun {g A X μ s u us E Q} O R w54 rs K=>by
 obtain ⟨t,e⟩:=w54
 rw [e,show us=[] from List.length_eq_zero_iff.mp (VRs.length rs)]
 exact call_gives PySem.F.slot_str_isspace (typeIs_str _ _ _) PySem.F.entry_str_isspace (PySem.F.args_str_isspace_1 _) (gives_str_isspace x t) (K _ _ _ (.now R rfl))⟩
end
theorem Does.bmeth {d:Nat} {ρ:Loc} {σ σ₁ σ₂ σ₃:CSt} {o:CE} {m:MId} {es:List CE} {v r:CV} {vs:List CV} {T id:String} (M:MsD m T id) (So:Does d o ρ σ v σ₁) (t:TyD v σ₁ T) (S:DoesL d es ρ σ₁ vs σ₂) (B:BmC id d v vs σ₂ r σ₃):Does d (.bmeth o m es) ρ σ r σ₃:=⟨fun {e g A x μ s E Q} ok C K=>by
 refine an3 ok fun h1 hl ok1 ok2=>?_
 refine an4 h1 fun h1 h2 h3 h4 h5=>?_
 rw [tgE h1]
 show wpAny _ _ (eval (.Call (view e).x _ _ _) _) _ _ _
 rw [tgE h2]
 refine MethodCall_gen h5 (okEs_star ok2) (of_decide_eq_true hl) h4 fun pl=>So.go ok1 C fun u s₁ μ₁ n=>?_
 rw [eq_of_beq h3]
 exact M.go (t.go n.R n.r) (callWith_gen (okEs_star ok2) keeps_builtin (S.go ok2 (C.next n.toNx) fun us s₂ μ₂ k=>⟨trivial,B.go C.O k.R (VR.mono k.kp _ n.r) k.r fun u s₃ μ₃ q=>K _ _ _ (n.toNx.and (k.toNx.and q))⟩))⟩
abbrev nV (i:Nat):CV:=.int (Int.ofNat i)
noncomputable def opS (o:Fin 3):Str:=⟨#[if o=0 then 97 else if o=1 then 98 else 102]⟩
abbrev opV (o:Fin 3):CV:=.str (opS o)
abbrev Row:=Fin 3×List Nat
abbrev rowV (r:Row):CV:=.tup (opV r.1::r.2.map nV)
theorem op_inj:∀i j,opS i=opS j→i=j:=by decide
theorem op_lt:∀i j,strLt (opS i) (opS j)=decide (i.val<j.val):=by decide
theorem op_ok:∀o,PyData.strOk (opS o)=true:=by decide +kernel
mutual
noncomputable def Dat:CV→Bool
 | .none=>true
 | .int _=>true
 | .str x=>PyData.strOk x
 | .tup l=>Dats l
 | .lst l=>Dats l
 | .bool _=>false
 | .dct _=>false
 | .ref _=>false
noncomputable def Dats:List CV→Bool
 | []=>true
 | x::r=>Dat x&&Dats r
end
theorem Dats_all {l:List CV} (h:∀x∈l,Dat x=true):Dats l=true:=by
 induction l with
 | nil=>rfl
 | cons x r ih=>exact nd (h x (.head _)) (ih fun y m=>h y (.tail _ m))
mutual
theorem dat_lay:∀{a:CV},Dat a=true→(toD a).canLay0=true
 | .none,_=>rfl
 | .int _,_=>rfl
 | .str x,h=>h
 | .tup l,h=>dats_lay h
 | .lst l,h=>dats_lay h
theorem dats_lay:∀{l:List CV},Dats l=true→PyData.canLayAll0 (toDs l)=true
 | [],_=>rfl
 | x::l,h=>nd (dat_lay (an h).1) (dats_lay (an h).2)
end
theorem dec_iff {p q:Prop} [Decidable p] [Decidable q] (h:p↔q):decide p=decide q:=decide_eq_decide.mpr h
mutual
theorem dat_eqv:∀{a b:CV},Dat a=true→Dat b=true→PyData.eqv (toD a) (toD b)=decide (a=b)
 | .none,b,_,hb=>by cases b<;>first | (cases hb;done) | exact (decide_eq_true rfl).symm | exact (decide_eq_false nofun).symm
 | .int i,b,_,hb=>by cases b<;>first | (cases hb;done) | exact (decide_eq_false nofun).symm | exact dec_iff ⟨congrArg _,CV.int.inj⟩
 | .str x,b,_,hb=>by cases b<;>first | (cases hb;done) | exact (decide_eq_false nofun).symm | exact dec_iff ⟨congrArg _,CV.str.inj⟩
 | .tup l,b,ha,hb=>by cases b<;>first | (cases hb;done) | exact (decide_eq_false nofun).symm | exact (dats_eqv ha hb).trans (dec_iff ⟨congrArg _,CV.tup.inj⟩)
 | .lst l,b,ha,hb=>by cases b<;>first | (cases hb;done) | exact (decide_eq_false nofun).symm | exact (dats_eqv ha hb).trans (dec_iff ⟨congrArg _,CV.lst.inj⟩)
theorem dats_eqv:∀{l m:List CV},Dats l=true→Dats m=true→PyData.eqvAll (toDs l) (toDs m)=decide (l=m)
 | [],[],_,_=>rfl
 | [],_::_,_,_=>rfl
 | _::_,[],_,_=>rfl
 | x::l,y::m,ha,hb=>by
  show (PyData.eqv (toD x) (toD y)&&PyData.eqvAll (toDs l) (toDs m))=_
  rw [dat_eqv (an ha).1 (an hb).1,dats_eqv (an ha).2 (an hb).2,← Bool.decide_and]
  exact dec_iff ⟨fun h=>by rw [h.1,h.2],fun h=>List.cons.inj h⟩
end
abbrev dp (a:CV):Nat:=(toD a).depth
theorem peq_dat {a b:CV} (ha:Dat a=true) (hb:Dat b=true) (da:dp a≤64) (db:dp b≤64):peq a b=some (decide (a=b)):=
 (if_pos (nd (nd (dat_lay ha) (decide_eq_true da)) (nd (dat_lay hb) (decide_eq_true db)))).trans (congrArg some (dat_eqv ha hb))
theorem peq_nat (a b:Nat):peq (nV a) (nV b)=some (decide (a=b)):=(peq_dat rfl rfl (Nat.zero_le _) (Nat.zero_le _)).trans (congrArg some (dec_iff ⟨fun h=>Int.ofNat.inj (CV.int.inj h),congrArg _⟩))
theorem peq_op (i j:Fin 3):peq (opV i) (opV j)=some (decide (i=j)):=(peq_dat (a:=opV i) (b:=opV j) (op_ok i) (op_ok j) (Nat.zero_le _) (Nat.zero_le _)).trans (congrArg some (dec_iff ⟨fun h=>op_inj _ _ (CV.str.inj h),congrArg _⟩))
theorem nV_inj {a b:Nat} (h:nV a=nV b):a=b:=Int.ofNat.inj (CV.int.inj h)
theorem map_nV_inj {as bs:List Nat} (h:as.map nV=bs.map nV):as=bs:=(List.map_inj_right fun a b q=>nV_inj q).mp h
theorem row_inj {r s:Row} (h:rowV r=rowV s):r=s:=
 have h:=List.cons.inj (CV.tup.inj h)
 Prod.ext (op_inj _ _ (CV.str.inj h.1)) (map_nV_inj h.2)
theorem dat_row (r:Row):Dat (rowV r)=true:=nd (op_ok _) (Dats_all fun x m=>(by obtain ⟨ξ,ξ,e⟩:=List.mem_map.mp m;exact e▸rfl))
theorem dps_le {n:Nat}:∀{l:List CV},(∀x∈l,dp x≤n)→PyData.depthAll (toDs l)≤n:=by
 intro l5
 induction l5 with
 | nil=>
  intro ξ
  exact Nat.zero_le _
 | cons x l ih=>
  intro h
  exact Nat.max_le.mpr ⟨h x (.head _),ih fun y m=>h y (.tail _ m)⟩
theorem dp_tup {n:Nat} {l:List CV} (h:∀x∈l,dp x≤n):dp (.tup l)≤n+1:=Nat.succ_le_succ (dps_le h)
theorem dp_row (r:Row):dp (rowV r)≤1:=dp_tup fun x m=>(List.mem_cons.mp m).elim (fun e=>e▸Nat.le_refl _) fun m=>(by obtain ⟨ξ,ξ,e⟩:=List.mem_map.mp m;exact e▸Nat.le_refl _)
theorem peq_row (r s:Row):peq (rowV r) (rowV s)=some (decide (r=s)):=
 (peq_dat (dat_row r) (dat_row s) (Nat.le_trans (dp_row r) (by decide)) (Nat.le_trans (dp_row s) (by decide))).trans (congrArg some (dec_iff ⟨row_inj,congrArg _⟩))
structure LtD (k:Nat) (x y:CV) (b:Bool):Prop where
 go:∀{w:World} {X:List Addr} {μ:Mu} {A:Around} {s:Shared} {vx vy:Value} {E Q:Value→Shared→Prop},VR w X μ s.heap x vx→VR w X μ s.heap y vy→A.units+k+75<cLine→Q (.bool b) s→wpAny (model pw w) A (compareOp .Lt vx vy) Q E s
inductive LexD (k:Nat):List CV→List CV→Bool→Prop
 | nil (ys):LexD k [] ys (decide (0<ys.length))
 | nil2 (x xs):LexD k (x::xs) [] false
 | same {x y xs ys b} (h:peq x y=some true) (T:LexD k xs ys b):LexD k (x::xs) (y::ys) b
 | diff {x y xs ys b} (h:peq x y=some false) (L:LtD k x y b):LexD k (x::xs) (y::ys) b
noncomputable def ltBody:(Value×Value)→Option PySem.Fin×Unit→Sem (ForInStep (Option PySem.Fin×Unit)):=fun x ξ=>do
 let __do_lift ← eqBool x.fst x.snd
 if (!__do_lift)=true then do
   rule "tuple.compare.by-the-first-pair-that-differs"
   let __do_lift ← richCompare CmpOp.Lt x.fst x.snd
   let __do_lift ← ret __do_lift
   pure (ForInStep.done (some __do_lift,()))
  else pure (ForInStep.yield (none,()))
theorem sub_tuple_tuple:isSubtype (.type "tuple") (.type "tuple")=pure true:=by rw [isSubtype_type];kernel_rfl
section
variable {w:World} {X:List Addr} {μ:Mu} {A:Around} {E:Value→Shared→Prop} {s:Shared} {x y:CV} {vx vy:Value} {k i:Nat} {b bb:Bool} {xs ys:List CV} {vs us:List Value}
theorem peq_eqBool {Q:Bool→Shared→Prop} (h:peq x y=some b) (rx:VR w X μ s.heap x vx) (ry:VR w X μ s.heap y vy) (hu:A.units+k+75<cLine) (q:Q b s):wpAny (model pw w) A (eqBool vx vy) Q E s:=by
 obtain ⟨k1,k2,e⟩:=peq_some h
 refine an1 k1 fun k1 k3=>?_
 obtain ⟨ξ,q1⟩:=VR.reads rx k1
 obtain ⟨ξ,q2⟩:=VR.reads ry (an k2).1
 have k3:=of_decide_eq_true k3
 exact eqBoolOverData pw w A E s _ _ _ _ _ _ _ q1 q2 k1 (an k2).1 (by lia) (e▸q)
theorem VRs.uncons {P:Prop} (r:VRs w X μ s.heap (x::xs) vs) (K:∀v us,vs=v::us→VR w X μ s.heap x v→VRs w X μ s.heap xs us→P):P:=by
 cases vs with
 | nil=>exact r.elim
 | cons v us=>exact K v us rfl r.1 r.2
theorem VRs.isNil (r:VRs w X μ s.heap [] vs):vs=[]:=List.length_eq_zero_iff.mp (VRs.length r)
theorem LexD.loop {RR:Option PySem.Fin×Unit→Shared→Prop} (hu:A.units+k+75<cLine) (L:LexD k xs ys b):∀{vs us:List Value},VRs w X μ s.heap xs vs→VRs w X μ s.heap ys us→
  RR (some (PySem.Fin.done (.ret (.bool b))),()) s→(b=decide (xs.length<ys.length)→RR (none,()) s)→wpAny (model pw w) A (forIn (vs.zip us) ((none,()):Option PySem.Fin×Unit) ltBody) RR E s:=by
 induction L with
 | nil ys=>intro vs us rs ts _ h0;rw [rs.isNil];exact wpAny_pure (h0 rfl)
 | nil2 x xs=>intro vs us rs ts _ h0;rw [ts.isNil,List.zip_nil_right];exact wpAny_pure (h0 rfl)
 | same h T ih=>
  intro vs us rs ts h1 h0
  refine rs.uncons fun v vs e r rs=>ts.uncons fun u us e' t ts=>?_
  rw [e,e',List.zip_cons_cons,List.forIn_cons]
  exact wpAny_bind (wpAny_bind (peq_eqBool h r t hu (wpAny_pure (ih rs ts h1 fun e=>h0 (e.trans (dec_iff Nat.succ_lt_succ_iff.symm))))))
 | diff h L=>
  intro vs us rs ts h1 h0
  refine rs.uncons fun v vs e r rs=>ts.uncons fun u us e' t ts=>?_
  rw [e,e',List.zip_cons_cons,List.forIn_cons]
  exact wpAny_bind (wpAny_bind (peq_eqBool h r t hu (wpAny_bind (wpAny_rule (wpAny_bind (L.go r t hu (wpAny_bind (wpAny_pure (wpAny_pure (wpAny_pure h1)))))))))) 
theorem lt_str_of {p q:Str}:LtD k (.str p) (.str q) (strLt p q):=⟨fun w66 w67 ξ q=>by obtain ⟨ξ,e⟩:=w66;obtain ⟨ξ,e'⟩:=w67;rw [e,e'];exact PyProof.Rows.lt_str q⟩
theorem LexD.kat {Q:Bool→Shared→Prop} (hu:A.units+k+75<cLine) (L:LexD k xs ys b):∀{vs us:List Value} {i:Nat} {fin:Bool},VRs w X μ s.heap xs vs→VRs w X μ s.heap ys us→((bb&&i==0)=true→∃p q l m,xs = .str p::l∧ys = .str q::m∧(peq (.str p) (.str q)=some false→b=strLt p q))→fin=decide (xs.length<ys.length)→Q b s→
  KatLex pw w A bb fin Q (vs.zip us) i s:=by
 induction L with
 | nil ys=>intro vs us i fin rs ts _ hf q;rw [rs.isNil,hf];exact q
 | nil2 x xs=>intro vs us i fin rs ts _ hf q;rw [ts.isNil,List.zip_nil_right,hf];exact q
 | same h T ih=>
  intro vs us i fin rs ts _ hf q
  refine rs.uncons fun v vs e r rs=>ts.uncons fun u us e' t ts=>?_
  rw [e,e',List.zip_cons_cons]
  exact kat_cons (peq_eqBool h r t hu (kat_yes (ih rs ts (fun z=>nomatch (an z).2) (hf.trans (dec_iff Nat.succ_lt_succ_iff)) q)))
 | diff h L=>
  intro vs us i fin rs ts hb hf q
  refine rs.uncons fun v vs e r rs=>ts.uncons fun u us e' t ts=>?_
  rw [e,e',List.zip_cons_cons]
  refine kat_cons (peq_eqBool h r t hu (kat_no ?_))
  cases z:bb&&i==0 with
  | false=>exact kat_one _ _ (L.go (Q:=W.BoolBack Q) r t hu q)
  | true=>
   obtain ⟨p,q',l,m,e1,e2,hb⟩:=hb z
   rw [(List.cons.inj e1).1,(List.cons.inj e2).1] at h
   rw [(List.cons.inj e1).1] at r
   rw [(List.cons.inj e2).1] at t
   obtain ⟨ξ,e3⟩:=r
   obtain ⟨ξ,e4⟩:=t
   rw [e3,e4]
   exact oneLt_str (by have e:=hb h;unfold strLt at e;exact e▸q)
theorem LtD.int {i j:Nat}:LtD k (nV i) (nV j) (decide (i<j)):=⟨fun w64 w65 ξ q=>by obtain ⟨ξ,e⟩:=w64;obtain ⟨ξ,e'⟩:=w65;rw [e,e'];exact P.lt_int ((dec_iff (show Int.ofNat i<Int.ofNat j↔i<j from Int.ofNat_lt)).symm▸q)⟩
theorem LtD.tup (L:LexD k xs ys b):LtD (k+1) (.tup xs) (.tup ys) b:=⟨fun {w X μ A s vx vy E Q} w62 w63 hu q=>by
 obtain ⟨a,vs,n,e,ga,ξ,ξ,rs⟩:=w62
 obtain ⟨c,us,m,e',gc,ξ,ξ,ts⟩:=w63
 have hTa:s.TypeIs (.ref a) "tuple":=⟨_,ga,rfl⟩
 have hTb:s.TypeIs (.ref c) "tuple":=⟨_,gc,rfl⟩
 rw [e,e']
 show wpAny (model pw w) A (richCompare .Lt (.ref a) (.ref c)) Q E s
 refine wpAny_richCompare_same_room hTa hTb PySem.F.slot_tuple_lt (wpAny_call_entry PySem.F.slot_tuple_lt hTa PySem.F.entry_tuple_lt ?_ (PySem.F.args_tuple_lt_2 _ _)) (by lia)
 unfold Builtin.«tuple.__lt__»
 refine wpAny_bind (wpAny_pure (wpAny_bind (wpAny_isInstance (T:="tuple") (b:=true) hTb sub_tuple_tuple ?_)))
 refine wpAny_bind (tupleItemsOf_ ⟨_,ga,rfl,n,rfl⟩ (wpAny_bind (tupleItemsOf_ ⟨_,gc,rfl,m,rfl⟩ (wpAny_bind (L.loop (A:=A.in1) (by show A.units+1+k+75<cLine;lia) rs ts ?_ fun e=>?_)))))
 ·exact wpAny_pure ⟨_,rfl,(fun z=>nomatch z),q⟩
 ·refine wpAny_pure ⟨_,rfl,?_⟩
  show (Value.bool (decide (vs.size<us.size))≠.notImplemented)∧Q (.bool (decide (vs.size<us.size))) s
  rw [VRs.size rs,VRs.size ts,← e]
  exact ⟨(fun z=>nomatch z),q⟩⟩
theorem LexD.nats:∀as bs:List Nat,LexD k (as.map nV) (bs.map nV) (decide (as<bs))
 | [],[]=>.nil _
 | [],b::bs=>(decide_eq_true (List.nil_lt_cons b bs))▸.nil _
 | a::as,[]=>(decide_eq_false (List.not_lt_nil (a::as)))▸.nil2 _ _
 | a::as,b::bs=>by
  rw [dec_iff List.cons_lt_cons_iff]
  by_cases e:a=b
  ·rw [dec_iff (q:=as<bs) ⟨fun h=>h.elim (fun h=>absurd h (e▸Nat.lt_irrefl a)) (·.2),fun h=>.inr ⟨e,h⟩⟩]
   exact .same ((peq_nat a b).trans (congrArg some (decide_eq_true e))) (nats as bs)
  ·rw [dec_iff (q:=a<b) ⟨fun h=>h.elim id fun h=>absurd h.1 e,.inl⟩]
   exact .diff ((peq_nat a b).trans (congrArg some (decide_eq_false e))) .int
abbrev encR (r:Row):List Nat:=r.1.val::r.2
theorem LexD.row (r t:Row):LexD k (opV r.1::r.2.map nV) (opV t.1::t.2.map nV) (decide (encR r<encR t)):=by
 rw [dec_iff List.cons_lt_cons_iff]
 by_cases e:r.1=t.1
 ·rw [dec_iff (q:=r.2<t.2) ⟨fun h=>h.elim (fun h=>absurd h (e▸Nat.lt_irrefl _)) (·.2),fun h=>.inr ⟨congrArg _ e,h⟩⟩]
  exact .same ((peq_op _ _).trans (congrArg some (decide_eq_true e))) (.nats _ _)
 ·rw [dec_iff (q:=r.1.val<t.1.val) ⟨fun h=>h.elim id fun h=>absurd (Fin.ext h.1) e,.inl⟩,← op_lt]
  exact .diff ((peq_op _ _).trans (congrArg some (decide_eq_false e))) lt_str_of
end
structure Ord (N:Nat) (cmp:Nat→Nat→(Bool→Shared→Prop)→Shared→Prop) (s:Shared) (key:Nat→List Nat):Prop where
 ask:∀{i j:Nat} {C:Bool→Shared→Prop},i<N→j<N→C (decide (key i<key j)) s→cmp i j C s
 inj:∀{i j:Nat},i<N→j<N→key i=key j→i=j
noncomputable def RK (cmp:Nat→Nat→(Bool→Shared→Prop)→Shared→Prop) (s:Shared) {α:Type} (t:KasT α) (Q:α→Prop):Prop:=∀G:α→Shared→Prop,(∀a,Q a→G a s)→t.kasWp cmp G s
theorem lt_or {a b:List Nat} (ne:a≠b) (h:¬a<b):b<a:=Decidable.byContradiction fun h'=>ne (List.le_antisymm (List.not_lt.mp h') (List.not_lt.mp h))
structure Gd (N:Nat) (p:Array Nat):Prop where
 perm:p.toList.Perm (List.range N)
section
variable {N:Nat} {cmp:Nat→Nat→(Bool→Shared→Prop)→Shared→Prop} {s:Shared} {key:Nat→List Nat} {α β:Type} {Q Q':α→Prop} {t:KasT α} {p:Array Nat} {i j m k:Nat}
theorem RK.ret {a:α} (h:Q a):RK cmp s (.ret a) Q:=fun G k=>k a h
theorem RK.bind {f:α→KasT β} {Q:β→Prop} (h:RK cmp s t fun a=>RK cmp s (f a) Q):RK cmp s (t.bind f) Q:=fun G k=>by
 rw [KasT.kasWp_bind]
 exact h _ fun a ha=>ha G k
theorem RK.mono (h:RK cmp s t Q) (k:∀a,Q a→Q' a):RK cmp s t Q':=fun G q=>h G fun a ha=>q a (k a ha)
theorem Gd.size (g:Gd N p):p.size=N:=by have:=g.perm.length_eq;simpa using this
theorem getD_at (h:k<p.size):p.getD k 0=p[k]:=by rw [Array.getD_eq_getD_getElem?,Array.getElem?_eq_getElem h];rfl
theorem Gd.bd (g:Gd N p) (h:k<N):p.getD k 0<N:=by
 have hk:k<p.size:=g.size.symm▸h
 exact List.mem_range.mp (g.perm.mem_iff.mp (getD_at hk▸Array.mem_toList_iff.mpr (Array.getElem_mem hk)))
theorem Gd.inj (g:Gd N p) (hi:i<N) (hj:j<N) (h:p.getD i 0=p.getD j 0):i=j:=by
 rw [getD_at (g.size.symm▸hi),getD_at (g.size.symm▸hj)] at h
 exact (List.getElem_inj (g.perm.nodup_iff.mpr List.nodup_range)).mp h
theorem RK.ask {c:Bool→KasT α} (O:Ord N cmp s key) (g:Gd N p) (hi:i<N) (hj:j<N) (ne:i≠j) (h1:key (p.getD i 0)<key (p.getD j 0)→RK cmp s (c true) Q) (h0:key (p.getD j 0)<key (p.getD i 0)→RK cmp s (c false) Q):RK cmp s (.ask (p.getD i 0) (p.getD j 0) c) Q:=fun G q=>
 O.ask (g.bd hi) (g.bd hj) (by
  by_cases h:key (p.getD i 0)<key (p.getD j 0)
  ·rw [decide_eq_true h];exact h1 h G q
  ·rw [decide_eq_false h];exact h0 (lt_or (fun e=>ne (g.inj hi hj (O.inj (g.bd hi) (g.bd hj) e))) h) G q)
noncomputable def Up (key:Nat→List Nat) (p:Array Nat) (m:Nat):Prop:=∀i j,i<j→j<m→key (p.getD i 0)<key (p.getD j 0)
theorem Up.step (u:Up key p m) (h:0<m→key (p.getD (m - 1) 0)<key (p.getD m 0)):Up key p (m+1):=fun i j hij hj=>
 (Nat.lt_or_eq_of_le (Nat.le_of_lt_succ hj)).elim (u i j hij) fun e=>by
  rw [e] at hij⊢
  exact (Nat.lt_or_eq_of_le (Nat.le_pred_of_lt hij)).elim (fun l=>List.lt_trans (u i _ l (Nat.pred_lt_of_lt hij)) (h (Nat.zero_lt_of_lt hij))) fun e=>e▸h (Nat.zero_lt_of_lt hij)
theorem Up.one:Up key p 1:=fun i j hij hj=>absurd hij (Nat.lt_one_iff.mp hj▸Nat.not_lt_zero i)
theorem asc_rk (O:Ord N cmp s key) (g:Gd N p):∀(f n:Nat),0<n→n+f=N→Up key p n→RK cmp s (kas_asc p f n) fun m=>n≤m∧m≤N∧Up key p m∧(m<N→key (p.getD m 0)<key (p.getD (m - 1) 0)):=by
 intro l1
 induction l1 with
 | zero=>
  intro n h0 h u
  exact .ret ⟨Nat.le_refl _,Nat.le_of_eq h,u,fun l=>absurd l (Nat.not_lt.mpr (Nat.le_of_eq h.symm))⟩
 | succ f ih=>
  intro n h0 h u
  have nN:n<N:=h▸Nat.lt_add_of_pos_right (Nat.succ_pos f)
  exact .ask O g nN (Nat.lt_of_le_of_lt (Nat.sub_le n 1) nN) (Nat.ne_of_gt (Nat.sub_lt h0 Nat.one_pos)) (fun hc=>.ret ⟨Nat.le_refl _,Nat.le_of_lt nN,u,fun ξ=>hc⟩) fun hc=>
  (ih (n+1) (Nat.succ_pos n) ((Nat.succ_add_eq_add_succ n f).trans h) (u.step fun ξ=>hc)).mono fun m q=>⟨Nat.le_of_succ_le q.1,q.2⟩
noncomputable def Dn (key:Nat→List Nat) (p:Array Nat) (m:Nat):Prop:=∀i j,i<j→j<m→key (p.getD j 0)<key (p.getD i 0)
theorem Dn.step (u:Dn key p m) (h:0<m→key (p.getD m 0)<key (p.getD (m - 1) 0)):Dn key p (m+1):=fun i j hij hj=>
 (Nat.lt_or_eq_of_le (Nat.le_of_lt_succ hj)).elim (u i j hij) fun e=>by
  rw [e] at hij⊢
  exact (Nat.lt_or_eq_of_le (Nat.le_pred_of_lt hij)).elim (fun l=>List.lt_trans (h (Nat.zero_lt_of_lt hij)) (u i _ l (Nat.pred_lt_of_lt hij))) fun e=>e▸h (Nat.zero_lt_of_lt hij)
theorem desc_rk (O:Ord N cmp s key) (g:Gd N p):∀(f n:Nat),0<n→n+f=N→Dn key p n→RK cmp s (kas_desc f p n 0) fun r=>r.1=p∧r.2.2=0∧n≤r.2.1∧r.2.1≤N∧Dn key p r.2.1:=by
 intro l2
 induction l2 with
 | zero=>
  intro n h0 h u
  exact .ret ⟨rfl,rfl,Nat.le_refl _,Nat.le_of_eq h,u⟩
 | succ f ih=>
  intro n h0 h u
  have nN:n<N:=h▸Nat.lt_add_of_pos_right (Nat.succ_pos f)
  have n1:=Nat.lt_of_le_of_lt (Nat.sub_le n 1) nN
  have ne:=Nat.ne_of_gt (Nat.sub_lt h0 Nat.one_pos)
  exact .ask O g nN n1 ne (fun hc=>(ih (n+1) (Nat.succ_pos n) ((Nat.succ_add_eq_add_succ n f).trans h) (u.step fun ξ=>hc)).mono fun r q=>⟨q.1,q.2.1,Nat.le_of_succ_le q.2.2.1,q.2.2.2⟩) fun hc=>
  .ask O g n1 nN (Ne.symm ne) (fun ξ=>.ret ⟨rfl,rfl,Nat.le_refl _,Nat.le_of_lt nN,u⟩) fun hc'=>absurd hc' (List.lt_asymm hc)
theorem getD_mirror (hm:m≤p.size):(kas_rev p 0 m).getD k 0=if k<m then p.getD (m - 1 - k) 0 else p.getD k 0:=by
 unfold kas_rev
 rw [Array.getD_eq_getD_getElem?,getElem?_mirror_all hm k]
 by_cases h:k<m
 ·rw [if_pos ⟨Nat.zero_le _,h⟩,if_pos h,Nat.zero_add,Array.getD_eq_getD_getElem?]
 ·rw [if_neg (fun q=>h q.2),if_neg h,Array.getD_eq_getD_getElem?]
theorem Gd.rev (g:Gd N p) (i j:Nat):Gd N (kas_rev p i j):=⟨(Array.perm_iff_toList_perm.mp (mirror_perm _ _ _ _)).trans g.perm⟩
noncomputable def Run (key:Nat→List Nat) (N:Nat) (r:Nat×Array Nat):Prop:=0<r.1∧r.1≤N∧Gd N r.2∧Up key r.2 r.1
theorem count_rk (O:Ord N cmp s key) (g:Gd N p) (h2:2≤N):RK cmp s (kas_count N p) (Run key N):=by
 refine .bind ((asc_rk O g (N - 1) 1 Nat.one_pos (by lia) .one).mono fun n ⟨a,b,u,e⟩=>?_)
 by_cases hn:(n==N)=true
 ·rw [if_pos hn];exact .ret ⟨a,b,g,u⟩
 ·rw [if_neg hn]
  have lt:n<N:=Nat.lt_of_le_of_ne b fun q=>hn (beq_iff_eq.mpr q)
  by_cases h1:n > 1
  ·rw [if_pos h1]
   exact .ask O g (by lia) (by lia) (by lia) (fun ξ=>.ret ⟨a,b,g,u⟩) fun hc=>absurd hc (List.lt_asymm (u 0 (n - 1) (by lia) (by lia)))
  ·rw [if_neg h1]
   have e1:n=1:=Nat.le_antisymm (Nat.le_of_not_lt h1) a
   rw [e1] at e⊢
   refine .bind ((desc_rk O g (N - 2) 2 (by decide) (by lia) (Dn.step (m:=1) (fun i j hij hj=>absurd hij (Nat.lt_one_iff.mp hj▸Nat.not_lt_zero i)) fun ξ=>e h2)).mono fun r ⟨q1,q2,q3,q4,q5⟩=>?_)
   rw [if_neg (by lia),q1]
   have hs:r.2.1≤p.size:=g.size.symm▸q4
   refine .bind ((asc_rk O (g.rev 0 r.2.1) (N - r.2.1) r.2.1 (by lia) (by lia) fun i j hij hj=>?_).mono fun m w75=>by obtain ⟨b1,b2,b3,ξ⟩:=w75;exact .ret ⟨by show 0<m;lia,b2,g.rev _ _,b3⟩)
   rw [getD_mirror hs,getD_mirror hs,if_pos (Nat.lt_trans hij hj),if_pos hj]
   exact q5 _ _ (by lia) (by lia)
noncomputable def Plc (key:Nat→List Nat) (p:Array Nat) (k l r:Nat):Prop:=(∀i,i<l→key (p.getD i 0)<key (p.getD k 0))∧∀i,r≤i→i<k→key (p.getD k 0)<key (p.getD i 0)
theorem place_rk (O:Ord N cmp s key) (g:Gd N p) (hk:k<N) (u:Up key p k):∀(f l r:Nat),r - l≤f→l≤r→r≤k→Plc key p k l r→RK cmp s (kas_place p k f l r) fun m=>m≤k∧Plc key p k m m:=by
 intro l3
 induction l3 with
 | zero=>
  intro l r h hl hr q
  exact .ret ⟨Nat.le_trans hl hr,q.1,fun i h1 h2=>q.2 i (by lia) h2⟩
 | succ f ih=>
  intro l r h hl hr q
  rw [kas_place]
  by_cases h':l≥r
  ·rw [if_pos h'];exact .ret ⟨Nat.le_trans hl hr,q.1,fun i h1 h2=>q.2 i (Nat.le_trans h' h1) h2⟩
  ·rw [if_neg h']
   refine .ask O g hk (by lia) (by lia) (fun hc=>ih l ((l+r) / 2) (by lia) (by lia) (by lia) ⟨q.1,fun i h1 h2=>?_⟩) fun hc=>ih ((l+r) / 2+1) r (by lia) (by lia) hr ⟨fun i hi=>?_,q.2⟩
   ·exact (Nat.lt_or_eq_of_le h1).elim (fun l=>List.lt_trans hc (u _ i l h2)) fun e=>e▸hc
   ·exact (Nat.lt_or_eq_of_le (Nat.le_of_lt_succ hi)).elim (fun l=>List.lt_trans (u i _ l (by lia)) hc) fun e=>e▸hc
theorem getD_bubble {a d:Nat} (hs:a<p.size) (hd:d≤a):(bubble p a d).getD k 0=if k=a - d then p.getD a 0 else if a - d<k∧k≤a then p.getD (k - 1) 0 else p.getD k 0:=by
 rw [Array.getD_eq_getD_getElem?,getElem?_bubble hs d hd k]
 by_cases h1:k=a - d
 ·rw [if_pos h1,if_pos h1,Array.getD_eq_getD_getElem?]
 ·rw [if_neg h1,if_neg h1]
  by_cases h2:a - d<k∧k≤a
  ·rw [if_pos h2,if_pos h2,Array.getD_eq_getD_getElem?]
  ·rw [if_neg h2,if_neg h2,Array.getD_eq_getD_getElem?]
theorem Gd.bub (g:Gd N p) (i j:Nat):Gd N (bubble p i j):=⟨(Array.perm_iff_toList_perm.mp (bubble_perm _ _ _)).trans g.perm⟩
theorem bin_rk (O:Ord N cmp s key):∀(f:Nat) {p:Array Nat} (k:Nat),Gd N p→k+f=N→Up key p k→RK cmp s (kas_bin f p k) fun p'=>Gd N p'∧Up key p' N:=by
 intro l4
 induction l4 with
 | zero=>
  intro p k g h u
  exact .ret ⟨g,h▸u⟩
 | succ f ih=>
  intro p k g h u
  have hk:k<N:=by lia
  refine .bind ((place_rk O g hk u k 0 k (Nat.le_refl _) (Nat.zero_le _) (Nat.le_refl _) ⟨fun i hi=>absurd hi (Nat.not_lt_zero i),fun i h1 h2=>absurd h2 (Nat.not_lt.mpr h1)⟩).mono fun l ⟨a,b,d⟩=>?_)
  have hs:k<p.size:=g.size.symm▸hk
  refine ih (k+1) (g.bub _ _) (by lia) fun i j hij hj=>?_
  rw [getD_bubble hs (Nat.sub_le _ _),getD_bubble hs (Nat.sub_le _ _),Nat.sub_sub_self a]
  by_cases hi:i=l
  ·rw [if_pos hi,if_neg (by lia),if_pos (by lia)]
   exact d (j - 1) (by lia) (by lia)
  ·rw [if_neg hi]
   by_cases hj':j=l
   ·rw [if_pos hj',if_neg (by lia)]
    exact b i (hj'▸hij)
   ·rw [if_neg hj']
    by_cases hjl:l<j∧j≤k
    ·rw [if_pos hjl]
     by_cases hil:l<i∧i≤k
     ·rw [if_pos hil];exact u _ _ (by lia) (by lia)
     ·rw [if_neg hil];exact u _ _ (by lia) (by lia)
    ·rw [if_neg hjl,if_neg (by lia)]
     exact u _ _ hij (by lia)
theorem sort_rk (O:Ord N cmp s key) (h2:2≤N):RK cmp s (kas_sort N) fun p=>Gd N p∧Up key p N:=
 .bind ((count_rk O ⟨.refl _⟩ h2).mono fun r w73=>by
  obtain ⟨a,b,g,u⟩:=w73
  by_cases h:r.1<N
  ·rw [if_pos h,Nat.max_eq_left a]
   exact bin_rk O (N - r.1) r.1 g (by lia) u
  ·rw [if_neg h]
   exact .ret ⟨g,Nat.le_antisymm b (Nat.le_of_not_lt h)▸u⟩)
end
structure KindD (κ:SortKind) (c:List CV):Prop where
 go:∀{w:World} {X:List Addr} {μ:Mu} {A:Around} {s:Shared} {vs:List Value} {E:Value→Shared→Prop} {Q:SortKind→Shared→Prop},2≤vs.length→VRs w X μ s.heap c vs→Q κ s→wpAny (model pw w) A (keyKind' vs.toArray) Q E s
structure AskD (κ:SortKind) (x y:CV) (b:Bool):Prop where
 go:∀{w:World} {X:List Addr} {μ:Mu} {A:Around} {s:Shared} {u v:Value} {E:Value→Shared→Prop} {Q:Bool→Shared→Prop},VR w X μ s.heap x u→VR w X μ s.heap y v→A.units+210<cLine→Q b s→wpAny (model pw w) A (keyLt' κ u v) Q E s
structure SortsTo (c r:List CV):Prop where
 few:c.length<64
 one:c.length<2→r=c
 go:2≤c.length→∃κ,KindD κ c∧∀{w:World} {X:List Addr} {μ:Mu} {A:Around} {s:Shared} {vs:List Value},VRs w X μ s.heap c vs→A.units+210<cLine→RK (kas_ask pw w A κ vs) s (kas_sort c.length) fun p=>p.size≤64∧(∀i∈p.toList,i<c.length)∧p.toList.map (c.getD · .none)=r
noncomputable def Asc {α:Type} (enc:α→List Nat) (r:List α):Prop:=r.Pairwise fun a b=>enc a<enc b
section
variable {α:Type} {f:α→CV} {enc:α→List Nat} {κ:SortKind} {l r l':List α} {x:α} {w:World} {X:List Addr} {μ:Mu} {s:Shared} {A:Around} {E:Value→Shared→Prop} {vs:List Value} {i:Nat} {c q:List CV}
theorem Asc.uniq (a:Asc enc l') (b:Asc enc r) (p:l'.Perm l) (q:r.Perm l):l'=r:=List.Perm.eq_of_pairwise (fun a b ξ ξ h h'=>absurd h' (List.lt_asymm h)) a b (p.trans q.symm)
theorem getD_lt (h:i<l.length):l.getD i x=l[i]:=by rw [List.getD_eq_getElem?_getD,List.getElem?_eq_getElem h];rfl
theorem getD_mem (h:i<l.length):l.getD i x∈l:=getD_lt (x:=x) h▸List.getElem_mem h
theorem VRs.pick (rs:VRs w X μ s.heap c vs) (h:i<c.length):VR w X μ s.heap (c.getD i .none) (vs.getD i .none):=by
 obtain ⟨v,hv,rv⟩:=VRs.get (i:=i) rs (List.getElem?_eq_getElem h)
 have e:vs.getD i .none=v:=by rw [List.getD_eq_getElem?_getD,hv];rfl
 exact e▸getD_lt (x:=CV.none) h▸rv
theorem VRs.picks (rs:VRs w X μ s.heap c vs):∀{p:List Nat},(∀i∈p,i<c.length)→VRs w X μ s.heap (p.map (c.getD · .none)) (p.map (vs.getD · .none))
 | [],_=>trivial
 | i::p,h=>⟨rs.pick (h i (.head _)),rs.picks fun j m=>h j (.tail _ m)⟩
theorem range_getD:(List.range l.length).map (l.getD · x)=l:=List.ext_getElem (by simp) fun k h1 h2=>by rw [List.getElem_map,List.getElem_range,getD_lt h2]
theorem map_getD (h:i<l.length):(l.map f).getD i .none=f (l.getD i x):=by rw [getD_lt (by rw [List.length_map];exact h),List.getElem_map,getD_lt h]
theorem SortsTo.of (kd:KindD κ (l.map f)) (ask:∀a∈l,∀b∈l,AskD κ (f a) (f b) (decide (enc a<enc b))) (inj:∀a∈l,∀b∈l,enc a=enc b→a=b) (nd:l.Nodup) (hz:l.length<64) (hp:r.Perm l) (hr:Asc enc r):SortsTo (l.map f) (r.map f) where
 few:=by rw [List.length_map];exact hz
 one h:=by
  rw [List.length_map] at h
  have a:Asc enc l:=match l,h with
   | [],_=>.nil
   | [x],_=>List.pairwise_singleton _ _
  rw [a.uniq hr (.refl _) hp]
 go h2:=⟨κ,kd,fun {w X μ A s vs} rs hu=>by
  rw [List.length_map] at h2⊢
  obtain ⟨x,hx⟩:∃x,x∈l:=List.exists_mem_of_length_pos (Nat.lt_of_lt_of_le Nat.two_pos h2)
  have O:Ord l.length (kas_ask pw w A κ vs) s fun i=>enc (l.getD i x):=⟨fun {i j C} hi hj h=>(ask _ (getD_mem hi) _ (getD_mem hj)).go (map_getD (f:=f) (x:=x) hi▸rs.pick (by rw [List.length_map];exact hi)) (map_getD (f:=f) (x:=x) hj▸rs.pick (by rw [List.length_map];exact hj)) hu h,fun hi hj e=>by
   have e:=inj _ (getD_mem hi) _ (getD_mem hj) e
   rw [getD_lt hi,getD_lt hj] at e
   exact (List.getElem_inj nd).mp e⟩
  refine (sort_rk O h2).mono fun p ⟨g,u⟩=>⟨by rw [g.size];exact Nat.le_of_lt hz,fun i m=>List.mem_range.mp (g.perm.mem_iff.mp m),?_⟩
  rw [← Asc.uniq (l':=p.toList.map (l.getD · x)) (List.pairwise_map.mpr (List.pairwise_iff_getElem.mpr fun i j hi hj hij=>by
   rw [Array.length_toList] at hi hj
   rw [Array.getElem_toList,Array.getElem_toList,← getD_at hi,← getD_at hj]
   exact u i j hij (g.size▸hj))) hr ((g.perm.map _).trans (by rw [range_getD])) hp,List.map_map]
  exact List.map_congr_left fun i m=>map_getD (List.mem_range.mp (g.perm.mem_iff.mp m))⟩
variable {base:Heap} {σ:CSt}
theorem sort_cv {a:Addr} {n:Nat} {P:PySem.Fin→Shared→Prop} (ho:s.heap.get? a=some (lstO vs.toArray n)) (R:Rel w base X μ σ s.heap) (haX:a∈X) (S:SortsTo c q) (rs:VRs w X μ s.heap c vs) (hu:A.units+210<cLine)
  (hP:∀h' out n,(∀b o,b≠a→s.heap.get? b=some o→h'.get? b=some o)→h'.get? a=some (lstO out n)→VRs w X μ h' q out.toList→P (.done (.ret .none)) { s with heap:=h' }) :
  wpAny (model pw w) A (Builtin.«list.sort» ⟨[.ref a],[]⟩) P E s:=by
 have hlen:vs.length=c.length:=VRs.length rs
 have hv:vs.length<64:=hlen▸S.few
 have big:∀{k:Nat},k≤64→k≤sizeLine:=fun h=>Nat.le_trans h (by decide)
 rw [list_sort_plain]
 refine wpAny_bind (listItems_at ho rfl (wpAny_bind (listUpdate_at ho rfl ?_ (big (Nat.le_of_lt hv)) (Nat.zero_le _))))
 have s1:=Heap.SameBut.update s.heap a (Obj.mapSeq fun ξ=>(#[]:Array Value))
 have ho1:=IsL.update (show IsL s.heap a vs.toArray n from ho) (fun ξ=>(#[]:Array Value))
 generalize s.heap.update a (Obj.mapSeq fun ξ=>(#[]:Array Value))=h₁ at s1 ho1⊢
 generalize (if (#[]:Array Value).size==vs.toArray.size then n else n+1)=c1 at ho1
 refine wpAny_bind (seqEpoch_at (s:={ s with heap:=h₁ }) ho1 rfl (wpAny_bind (wpAny_newTuple (wpAny_bind (wpAny_newList (wpAny_holding ?_) (Nat.zero_le _))) (big (Nat.le_of_lt hv)))))
 generalize hh3:(h₁.push { cls:=.type "tuple",data:=.seq vs.toArray.toList.toArray }).push { cls:=.type "list",data:=.seq ([]:List Value).toArray }=h₃
 have k13:∀b o,h₁.get? b=some o→h₃.get? b=some o:=fun b o e=>hh3▸push_up (push_up e)
 have k03:∀b o,b≠a→s.heap.get? b=some o→h₃.get? b=some o:=fun b o n e=>k13 b o (s1.extBut b o n e)
 have ho3:=k13 _ _ ho1
 have kX:∀b o,s.heap.get? b=some o→b∉X→h₃.get? b=some o:=fun b o e nx=>k03 b o (fun q=>nx (q▸haX)) e
 have R3:Rel w base X μ σ h₃:=R.keepX kX fun b m=>if q:b=a then ⟨_,(congrArg _ q).trans ho3⟩ else (by obtain ⟨o,e⟩:=R.insideX b m;exact ⟨o,k03 b o q e⟩)
 have rs3:=VRs.mono (R.kpX kX) _ rs
 have fin:∀out:List Value,VRs w X μ h₃ q out→P (.done (.ret .none)) { s with heap:=h₃.update a (Obj.mapSeq fun ξ=>out.toArray) }:=fun out ro=>by
  have s4:=Heap.SameBut.update h₃ a (Obj.mapSeq fun ξ=>out.toArray)
  exact hP _ out.toArray _ (fun b o n e=>s4.extBut b o n (k03 b o n e)) (IsL.update (show IsL h₃ a #[] c1 from ho3) (fun ξ=>out.toArray)) (VRs.mono (R3.kpX fun b o e nx=>s4.extBut b o (fun q=>nx (q▸haX)) e) _ ro)
 by_cases h2:vs.length<2
 ·rw [if_pos (show vs.toArray.size<2 from h2),if_pos (show vs.toArray.size<2 from h2)]
  refine wpAny_bind (wpAny_pure (wpAny_bind (wpAny_pure (wpAny_bind (seqEpoch_at (s:={ s with heap:=h₃ }) ho3 rfl ?_)))))
  rw [show (arrOf (SortSt.mk' general' (vs.toArray.zip vs.toArray) #[] 7 none)).map (·.2)=vs.toArray from Array.toList_inj.mp (by show ((vs.toArray.zip vs.toArray).map (·.2)).toList=vs;simp [List.map_snd_zip])]
  refine wpAny_bind (listUpdate_at (s:={ s with heap:=h₃ }) ho3 rfl ?_ (Nat.zero_le _) (Nat.le_succ_of_le (big (Nat.le_of_lt hv))))
  rw [bne_self_eq_false,if_neg Bool.false_ne_true]
  exact wpAny_pure (fin vs (S.one (hlen▸h2)▸rs3))
 ·have h2':2≤vs.length:=Nat.le_of_not_lt h2
  obtain ⟨κ,kd,run⟩:=S.go (hlen▸h2')
  rw [if_neg (show ¬vs.toArray.size<2 from h2),if_neg (show ¬vs.toArray.size<2 from h2)]
  refine wpAny_bind (kd.go (s:={ s with heap:=h₃ }) h2' rs3 ?_)
  have run:=run (s:={ s with heap:=h₃ }) rs3 hu (fun p s'=>(p.size≤64∧(∀i∈p.toList,i<c.length)∧p.toList.map (c.getD · .none)=q)∧s'={ s with heap:=h₃ }) fun p q=>⟨q,rfl⟩
  rw [← hlen] at run
  refine wpAny_bind (wpAny_mono (kat_run (Q:=fun st' s'=>∃p:Array Nat,arrOf st'=p.map (kas_item (vs.toArray.zip vs.toArray))∧failedOf st'=none∧(p.size≤64∧(∀i∈p.toList,i<vs.length)∧p.toList.map (c.getD · .none)=q)∧s'={ s with heap:=h₃ }) rfl h2' hv (fun p st' s' ξ a2 a3 a4=>⟨p,a2,a3,a4⟩) run) ?_ fun ξ ξ e=>e)
  rintro ⟨_,st'⟩ s' ⟨p,har,hf,⟨g,u,e⟩,rfl⟩
  dsimp only
  refine wpAny_bind (seqEpoch_at (s:={ s with heap:=h₃ }) ho3 rfl ?_)
  rw [kat_snds rfl har]
  refine wpAny_bind (listUpdate_at (s:={ s with heap:=h₃ }) ho3 rfl ?_ (Nat.zero_le _) (by rw [List.size_toArray,List.length_map,Array.length_toList];exact Nat.le_succ_of_le (big g)))
  rw [hf]
  rw [bne_self_eq_false];rw [if_neg Bool.false_ne_true]
  exact wpAny_pure (fin _ (e▸VRs.picks (s:={ s with heap:=h₃ }) rs3 (hlen▸u)))
end
section
variable {g:Gx} {A:Around} {d j ep:Nat} {X:List Addr} {μ:Mu} {σ:CSt} {s:Shared} {E:Value→Shared→Prop} {c r items:List CV} {v:CV} {so:Option (Nat×CObj)} {J:List Addr→Mu→Heap→Nat→Prop} {es:List (CV×CV)}
theorem sorted_tail {h':Heap} {tk:Nat} {dr:PySem.Drawn} {vs:List Value} {Q:Value→Shared→Prop} (O:OkA A d) (R:Rel g.w g.base X μ σ s.heap) (k:∀b o,s.heap.get? b=some o→h'.get? b=some o) (rs:VRs g.w X μ h' c vs) (S:SortsTo c r) (K:∀u s' μ',Got g X μ s σ (.lst r) u s' μ'→Q u s') :
  wpAny (model pw g.w) A.in1 (do let l ← newList vs;let _ ← holding [l] (call (.builtin "list.sort") [l]);ret l) (fun fin s'=>∃v,fin = .done (.ret v)∧Q v s') E { s with heap:=h',toks:=tk,drawn:=dr }:=by
 have hlen:=VRs.length rs
 refine wpAny_bind (wpAny_newList (s:={ s with heap:=h',toks:=tk,drawn:=dr }) ?_ (Nat.le_trans (Nat.le_of_lt (hlen▸S.few)) (by decide)))
 generalize hh2:h'.push { cls:=.type "list",data:=.seq vs.toArray }=h₂
 generalize hD:h'.objs.size=D
 have k2:∀b o,h'.get? b=some o→h₂.get? b=some o:=fun b o e=>hh2▸push_up e
 have gD:h₂.get? D=some (lstO vs.toArray 0):=hh2▸hD▸Heap.get?_push_size _ rfl
 have nD:h'.get? D=none:=hD▸get_size _
 have R':=R.keeps k
 have R2:Rel g.w g.base (D::X) μ σ h₂:=R'.more (Y:=[D]) k2 fun b m=>by rw [List.mem_singleton.mp m];exact ⟨nD,_,gD⟩
 have rs2:VRs g.w (D::X) μ h₂ c vs:=VRs.mono ⟨fun ξ ξ e=>e,fun b o e nf nx=>⟨k2 b o e,nf,fun m=>(List.mem_cons.mp m).elim (fun q=>not_none e (q▸nD)) nx⟩⟩ _ rs
 have DX:=R'.fresh nD
 refine wpAny_bind (wpAny_holding (wpAny_call_entry slot_list_sort ⟨_,gD,rfl⟩ entry_list_sort ?_ (args_list_sort _)))
 refine sort_cv (A:=A.in1.in1) (s:={ s with heap:=h₂,toks:=tk,drawn:=dr }) gD R2 (.head _) S rs2 (by have:=O.units;show A.units+1+1+210<cLine;lia) fun h₃ out n hk hg ro=>⟨_,rfl,?_⟩
 exact wpAny_pure ⟨_,rfl,K _ _ μ (.kept R (fun b o e=>hk b o (fun q=>not_none (k b o e) (q▸nD)) (k2 b o (k b o e))) ⟨D,out,n,rfl,hg,DX.1,DX.2,VRs.mono ⟨fun ξ ξ e=>e,fun b o e nf nx=>⟨e,nf,fun m=>nx (.tail _ m)⟩⟩ _ ro⟩)⟩
theorem sorted_call {u:Value} {P:Value→Shared→Prop} (h:wpAny (model pw g.w) A.in1 (collect u) (fun vs s'=>wpAny (model pw g.w) A.in1 (do let l ← newList vs;let _ ← holding [l] (call (.builtin "list.sort") [l]);ret l) (fun fin s'=>∃v,fin = .done (.ret v)∧P v s') E s') E s) :
  wpAny (model pw g.w) A (call (.builtin "sorted") [u]) P E s:=
 Calls.call_function_entry kind_sorted plain_sorted entry_sorted (args_sorted1 _) (wpAny_bind (m:=checkCount "sorted" 1 1 _) (wpAny_pure (wpAny_bind (m:=collect u) h)))
theorem BiD.sorted (S:SortsTo c r) (hl:listOf σ v=some c):BiD (.builtin "sorted") d v (.lst r) σ σ:=⟨fun {g A X μ s u E Q} B O R rv K=>listOf_at R rv hl fun a xs n e g' rs=>by
 rw [e]
 have kk:∀b o,s.heap.get? b=some o→((s.heap.push (seqObj "list" #[] 0)).update s.heap.objs.size (Obj.mapSeq (·++xs.toList.toArray))).get? b=some o:=fun b o e=>(Heap.get?_update_other _ _ (Nat.ne_of_gt (Heap.lt_size e))).trans (push_up e)
 exact sorted_call (collect_list (vs:=xs.toList) ⟨_,g',rfl,n,by simp⟩ (sorted_tail (tk:=s.toks) (dr:=s.drawn) O R kk (VRs.mono (.of_keeps kk) _ rs) S K) (by rw [Array.length_toList,VRs.size rs];exact Nat.le_trans (Nat.le_of_lt S.few) (by decide)))⟩
theorem collect_it {p:Addr} {ob o:Obj} {T:String} {Q:List Value→Shared→Prop} (O:A.handled=none) (R:Rel g.w g.base X μ σ s.heap) (hr:s.heap.get? p=some ob) (hT:ob.cls = .type T) (nl:(Value.type T==Value.type "list")=false) (nt:(Value.type T==Value.type "tuple")=false) (hs:srcP σ so) (hz:items.length≤BIG)
  (hint:∀(E:Value→Shared→Prop) (s':Shared) (Q:Bool→Shared→Prop),s'.TypeIs (.ref p) T→Q false s'→wpAny (model pw g.w) A.in1 (Builtin.List.listLengthHint (.ref p)) Q E s') (hf:o.isFreed=false)
  (W:Loopy g d nmT [(s.heap.push (lstO #[] 0)).objs.size] (.ref (s.heap.push (lstO #[] 0)).objs.size) items so J) (hI:J ([(s.heap.push (lstO #[] 0)).objs.size]++([s.heap.objs.size]++X)) μ ((s.heap.push (lstO #[] 0)).push o) 0)
  (iter:∀E Q,Q (.ref (s.heap.push (lstO #[] 0)).objs.size) { s with heap:=(s.heap.push (lstO #[] 0)).push o }→wpAny (model pw g.w) A.in1 (pyIter (.ref p)) Q E { s with heap:=s.heap.push (lstO #[] 0) })
  (K:∀h' tk dr vs,(∀b o,s.heap.get? b=some o→h'.get? b=some o)→VRs g.w X μ h' items vs→Q vs { s with heap:=h',toks:=tk,drawn:=dr }):wpAny (model pw g.w) A (collect (.ref p)) Q E s:=by
 have nL:s.heap.get? (s.heap.push (lstO #[] 0)).objs.size=none:=get_ge (by rw [push_sz rfl];exact Nat.le_succ _)
 have D:Drawn g d s.heap X μ σ s.heap.objs.size items so (.ref (s.heap.push (lstO #[] 0)).objs.size) ((s.heap.push (lstO #[] 0)).push o) ([(s.heap.push (lstO #[] 0)).objs.size]++([s.heap.objs.size]++X)) [(s.heap.push (lstO #[] 0)).objs.size] J:=
  ⟨W,(R.more (Y:=[s.heap.objs.size]) (fun b o e=>push_up e) (size1 rfl)).more (Y:=[_]) (fun b o e=>push_up e) (size1 (s:={ s with heap:=s.heap.push (lstO #[] 0) }) hf),hI,fun b m=>List.mem_append_left _ m,fun b m=>List.mem_append_right _ (List.mem_append_right _ m),List.mem_append_right _ (.head _),fun m=>Nat.ne_of_lt (by rw [push_sz rfl];exact Nat.lt_succ_self _) (List.mem_singleton.mp m),fun b m=>(List.mem_singleton.mp m).symm▸nL,push_up (Heap.get?_push_size _ rfl),fun b o e=>push_up (push_up e)⟩
 exact collect_any (d:=d) (Z:=X) (σ:=σ) (h₀:=s.heap) (so:=so) O hr hT nl nt hs hz (get_size _) (fun E s' Q hr q=>hint E s' Q ⟨_,hr,hT⟩ (q false s'.toks)) (fun E Q q=>iter E Q (q _ _ s.toks s.drawn _ _ _ D (push_up (push_up hr)))) K
theorem BiD.sortedD (S:SortsTo (es.map (·.1)) r) (hj:σ[j]?=some (.dict es ep)):BiD (.builtin "sorted") d (.ref j) (.lst r) σ σ:=⟨fun {g A X μ s u E Q} B O R rv K=>dict_at R rv hj fun p ds hp h2 e D=>by
 rw [e]
 have g1:(s.heap.push (lstO #[] 0)).get? p.1=some (dctO ds ep):=push_up D.at_
 refine sorted_call (collect_it (A:=A.in1) (d:=d) (so:=some (j,.dict es ep)) (items:=es.map (·.1)) O.handled R D.at_ rfl (by decide) (by decide) hj (Nat.le_trans (Nat.le_of_lt S.few) (by decide)) (fun E s' Q hT q=>kdl_hint_dict hT q) rfl (Iter1.loopy (iter_dct (so:=some (j,.dict es ep)) (a:=p.1) (ep:=ep) (I0:=fun X μ h=>μ[j]?=some p) (fun j1 kp=>kp.pre _ _ j1) fun R' so j1=>(by obtain ⟨ξ,ξ,ds,g,rs,ξ⟩:=R'.obj j p _ j1 so;exact ⟨ds,g,rs⟩))) ⟨?_,hp⟩ (fun E Q q=>iter_dict (s:={ s with heap:=s.heap.push (lstO #[] 0) }) D.sm g1 q) fun h' tk dr vs k rs=>sorted_tail O R k rs S K)
 rw [← DRs.size D.rs]
 exact ⟨_,Heap.get?_push_size _ rfl,rfl,rfl⟩⟩
end
section
variable {ns ms:List Nat} {rs qs:List Row} {w:World} {X:List Addr} {μ:Mu} {s:Shared} {α:Type} {hd:α→CV} {tl:α→List CV}
theorem kind_int:KindD oneType' (ns.map nV):=⟨fun h2 rs q=>kas_kind (T:=.type "int") h2 (fun v m=>by
 obtain ⟨i,hi⟩:=List.mem_iff_getElem?.mp m
 have lt:i<(ns.map nV).length:=VRs.length rs▸(List.getElem?_eq_some_iff.mp hi).1
 have r:=rs.pick lt
 rw [getD_lt lt,List.getElem_map,List.getD_eq_getElem?_getD,hi] at r
 obtain ⟨t,e⟩:=r
 rw [show v=_ from e]
 exact Looks.of_pure rfl) (by decide) (by decide) q⟩
theorem ask_int {i j:Nat}:AskD oneType' (nV i) (nV j) (decide (i<j)):=⟨fun w84 w85 ξ q=>by
 obtain ⟨ξ,e⟩:=w84
 obtain ⟨ξ,e'⟩:=w85
 rw [e,e',keyLt'_oneType]
 exact oneLt_int ((dec_iff (show Int.ofNat i<Int.ofNat j↔i<j from Int.ofNat_lt)).symm▸q)⟩
theorem SortsTo.nats (nd:ns.Nodup) (hz:ns.length<64) (hp:ms.Perm ns) (hr:ms.Pairwise (·<·)):SortsTo (ns.map nV) (ms.map nV):=
 .of (enc:=fun n=>[n]) kind_int (fun a ξ b ξ=>by rw [dec_iff (q:=a<b) (List.cons_lt_cons_iff.trans ⟨fun h=>h.elim id fun h=>absurd h.2 (List.not_lt_nil _),.inl⟩)];exact ask_int) (fun a ξ b ξ e=>(List.cons.inj e).1) nd hz hp (hr.imp fun h=>List.cons_lt_cons_iff.mpr (.inl h))
theorem SortsTo.two (a b:Nat):SortsTo [nV a,nV b] [nV (min a b),nV (max a b)] where
 few:=(by decide:2<64)
 one h:=absurd h (by decide:¬2<2)
 go _:=⟨oneType',kind_int (ns:=[a,b]),fun {w X μ A s vs} rs hu G k=>by
  have e:kas_sort 2 = .ask 1 0 fun b=>if b=true then .ret #[1,0] else .ret #[0,1]:=congrArg (KasT.ask 1 0) (funext fun b=>by cases b<;>rfl)
  show (kas_sort 2).kasWp _ _ _
  rw [e]
  refine (ask_int (i:=b) (j:=a)).go (rs.pick (i:=1) (by decide:1<2)) (rs.pick (i:=0) (by decide:0<2)) hu ?_
  by_cases h:b<a
  ·rw [decide_eq_true h,Nat.min_eq_right (Nat.le_of_lt h),Nat.max_eq_left (Nat.le_of_lt h)] at *
   exact k _ ⟨(by decide:2≤64),(by decide:∀i∈[1,0],i<2),rfl⟩
  ·rw [decide_eq_false h,Nat.min_eq_left (Nat.le_of_not_lt h),Nat.max_eq_right (Nat.le_of_not_lt h)] at *
   exact k _ ⟨(by decide:2≤64),(by decide:∀i∈[0,1],i<2),rfl⟩⟩
theorem firsts {T:Value} (hT:∀(a:α) (v:Value),VR w X μ s.heap (hd a) v→Looks (model pw w) s.heap (typeOf v) T):∀{l:List α} {vs:List Value},VRs w X μ s.heap (l.map fun a=>.tup (hd a::tl a)) vs→∃fs:List Value,KatTups s.heap vs fs∧fs.length=vs.length∧∀v∈fs,Looks (model pw w) s.heap (typeOf v) T:=by
 intro l
 induction l with
 | nil=>
  intro ξ r
  exact ⟨[],by rw [r.isNil];exact .nil,by rw [r.isNil],fun ξ m=>nomatch m⟩
 | cons a l ih=>
  intro vs r
  refine r.uncons fun v us e rv rs=>?_
  obtain ⟨fs,k1,k2,k3⟩:=ih rs
  obtain ⟨p,xs,n,e',g,ξ,ξ,rx⟩:=rv
  refine rx.at (j:=0) (c:=hd a) rfl fun f hf rf=>?_
  rw [e,e']
  exact ⟨f::fs,.cons g rfl rfl hf k1,congrArg (·+1) k2,fun v m=>(List.mem_cons.mp m).elim (fun q=>q▸hT a f rf) (k3 v)⟩
theorem kind_tup {T:Value} {l:List α} (hT:∀{w:World} {X:List Addr} {μ:Mu} {s:Shared} (a:α) (v:Value),VR w X μ s.heap (hd a) v→Looks (model pw w) s.heap (typeOf v) T) (h:(T==T)=true):KindD (tuples' (T != Value.type "tuple")) (l.map fun a=>.tup (hd a::tl a)):=⟨fun {w X μ A s vs E Q} h2 rs q=>by
 obtain ⟨fs,k1,k2,k3⟩:=firsts (s:=s) (fun a v r=>hT a v r) rs
 exact kat_kind k1 (k2▸Nat.lt_of_lt_of_le Nat.two_pos h2) k3 h q⟩
theorem ask_tup {b bb:Bool} {x y:List CV} (L:LexD 100 x y b) (hb:bb=true→∃p q l m,x = .str p::l∧y = .str q::m∧(peq (.str p) (.str q)=some false→b=strLt p q)):AskD (tuples' bb) (.tup x) (.tup y) b:=⟨fun w82 w83 hu q=>by
 obtain ⟨a,xs,n,e,g,ξ,ξ,r⟩:=w82
 obtain ⟨a',ys,n',e',g',ξ,ξ,r'⟩:=w83
 rw [e,e']
 exact kat_lt g rfl g' rfl (L.kat (by lia) r r' (fun h=>hb (an h).1) (by rw [VRs.size r,VRs.size r']) q)⟩
theorem encR_inj {a b:Row} (e:encR a=encR b):a=b:=Prod.ext (Fin.ext (List.cons.inj e).1) (List.cons.inj e).2
theorem SortsTo.rows (nd:rs.Nodup) (hz:rs.length<64) (hp:qs.Perm rs) (hr:Asc encR qs):SortsTo (rs.map rowV) (qs.map rowV):=
 .of (enc:=encR) (kind_tup (T:=.type "str") (hd:=fun r:Row=>opV r.1) (tl:=fun r=>r.2.map nV) (fun a v w81=>by obtain ⟨t,e⟩:=w81;exact e▸Looks.of_pure rfl) (by decide)) (fun a ξ b ξ=>ask_tup (.row a b) fun ξ=>⟨_,_,_,_,rfl,rfl,fun h=>by
  have h:=of_decide_eq_false (Option.some.inj ((peq_op a.1 b.1).symm.trans h))
  rw [op_lt]
  exact dec_iff ⟨fun q=>(List.cons_lt_cons_iff.mp q).elim id fun q=>absurd (Fin.ext q.1) h,fun q=>List.cons_lt_cons_iff.mpr (.inl q)⟩⟩) (fun ξ ξ ξ ξ=>encR_inj) nd hz hp hr
abbrev itmV (p:Row×Nat):CV:=.tup [rowV p.1,nV p.2]
theorem SortsTo.items {ps qs:List (Row×Nat)} (nd:(ps.map (·.1)).Nodup) (hz:ps.length<64) (hp:qs.Perm ps) (hr:Asc (fun p=>encR p.1) qs):SortsTo (ps.map itmV) (qs.map itmV):=
 have one:∀a∈ps,∀b∈ps,a.1=b.1→a=b:=fun a ha b hb e=>by
  obtain ⟨i,hi,e1⟩:=List.mem_iff_getElem.mp ha
  obtain ⟨j,hj,e2⟩:=List.mem_iff_getElem.mp hb
  have q:i=j:=(List.getElem_inj (h₀:=by rw [List.length_map];exact hi) (h₁:=by rw [List.length_map];exact hj) nd).mp (by rw [List.getElem_map,List.getElem_map,e1,e2,e])
  rw [← e1,← e2];simp only [q]
 .of (enc:=fun p=>encR p.1) (kind_tup (T:=.type "tuple") (hd:=fun p:Row×Nat=>rowV p.1) (tl:=fun p=>[nV p.2]) (fun a v w80=>by obtain ⟨ξ,ξ,ξ,e,g,ξ⟩:=w80;exact e▸(Looks.ld g).andThen .now) (by decide)) (fun a ha b hb=>ask_tup (bb:=(Value.type "tuple" != Value.type "tuple")) (by
  by_cases e:a.1=b.1
  ·have e:=one a ha b hb e
   rw [e,decide_eq_false (List.lt_irrefl _)]
   refine .same ((peq_row _ _).trans (congrArg some (decide_eq_true rfl))) (.same ((peq_nat _ _).trans (congrArg some (decide_eq_true rfl))) (.nil []))
  ·exact .diff ((peq_row _ _).trans (congrArg some (decide_eq_false e))) (.tup (k:=99) (.row a.1 b.1))) fun h=>absurd h (by decide)) (fun a ha b hb e=>one a ha b hb (encR_inj e)) ((List.pairwise_map.mp nd).imp fun h e=>h (congrArg _ e)) hz hp hr
end
noncomputable def VPs (w:World) (X:List Addr) (μ:Mu) (h:Heap) (es:List (CV×CV)) (ps:List (Value×Value)):Prop:=VRs w X μ h (es.map (·.1)) (ps.map (·.1))∧VRs w X μ h (es.map (·.2)) (ps.map (·.2))
inductive DNew:List (CV×CV)→Nat→List (CV×CV)→List (CV×CV)→Nat→Prop
 | nil {a n}:DNew a n [] a n
 | cons {a n k c r b m} (hk:keyIn k a=true) (hz:Nat.ble a.length 100=true) (T:DNew (setK a k c) (if hasK a k then n else n+1) r b m):DNew a n ((k,c)::r) b m
structure DoesKs (d:Nat) (kvs:List CE) (ρ:Loc) (σ:CSt) (es:List (CV×CV)) (σ':CSt):Prop where
 len:∀{sc:Scope} {tbl:List Str} {ks:List (Option Expr)} {vs:List Expr},okKs sc tbl kvs ks vs=true→ks.all (·.isSome)=true∧ks.length=vs.length∧kvs.length=2*ks.length
 go:∀{ks:List (Option Expr)} {vs:List Expr} {g:Gx} {A:Around} {x:Fx} {μ:Mu} {s:Shared} {pos:Pos} {E:Value→Shared→Prop} {Q:List (Value×Value)→Shared→Prop},okKs x.sc x.tbl kvs ks vs=true→Cx g A d x μ ρ σ s→
  (∀ps s' μ',Nx g x.X μ s σ' s' μ'→VPs g.w x.X μ' s'.heap es ps→Q ps s')→wpAny (model pw g.w) A (evalPairs (pairTrees ks vs x.env pos)) Q E s
section
variable {d:Nat} {ρ:Loc} {σ σ₁ σ₂ σ₃:CSt} {a b:CE} {kvs:List CE} {k c:CV} {es fs acc:List (CV×CV)} {n m:Nat}
theorem DoesKs.nil:DoesKs d [] ρ σ [] σ where
 len ok:=by rw [List.isEmpty_iff.mp (an ok).1,List.isEmpty_iff.mp (an ok).2];exact ⟨rfl,rfl,rfl⟩
 go ok C K:=by
  rw [List.isEmpty_iff.mp (an ok).1]
  exact evalPairs_nil (K _ _ _ (.refl C.R) ⟨trivial,trivial⟩)
theorem okKs_at {sc:Scope} {tbl:List Str} {ks:List (Option Expr)} {vs:List Expr} {P:Prop} (ok:okKs sc tbl (a::b::kvs) ks vs=true) (K:∀x y kr vr,ks=some x::kr→vs=y::vr→okE sc tbl a x=true→okE sc tbl b y=true→okKs sc tbl kvs kr vr=true→P):P:=by
 refine an5 ok fun h1 h2 h3 h4 h5 h6=>?_
 cases ks with
 | nil=>cases h1
 | cons k kr=>
  cases k with
  | none=>cases h2
  | some x=>exact K x _ kr _ rfl (consE h4) h3 h5 h6
theorem DoesKs.cons (S:Does d a ρ σ k σ₁) (S':Does d b ρ σ₁ c σ₂) (T:DoesKs d kvs ρ σ₂ es σ₃):DoesKs d (a::b::kvs) ρ σ ((k,c)::es) σ₃ where
 len ok:=okKs_at ok fun x y kr vr e e' ξ ξ h=>by
  obtain ⟨h1,h2,h3⟩:=T.len h
  rw [e,e']
  exact ⟨h1,congrArg (·+1) h2,(congrArg (·+2) h3).trans (Nat.mul_succ 2 _).symm⟩
 go {ks vs g A x μ s pos E Q} ok C K:=okKs_at ok fun e e' kr vr q q' h1 h2 h=>by
  rw [q,q']
  exact evalPairs_cons (S.go h1 C fun u s₁ μ₁ N=>wpAny_bind (S'.go h2 (C.next N.toNx) fun v s₂ μ₂ M=>wpAny_bind (wpAny_standAt (wpAny_pure (T.go h ((C.next N.toNx).next M.toNx) fun ps s₃ μ₃ L r=>K _ _ _ (N.toNx.trans (M.toNx.trans L)) ⟨⟨VR.mono L.kp _ (VR.mono M.kp _ N.r),r.1⟩,VR.mono L.kp _ M.r,r.2⟩)))))
variable {g:Gx} {A:Around} {X:List Addr} {μ:Mu} {E:Value→Shared→Prop} {D:Addr} {s:Shared}
theorem Rel.one (R:Rel g.w g.base (D::X) μ σ s.heap) {h':Heap} {o:Obj} (hs:Heap.SameBut D s.heap h') (hD:h'.get? D=some o):Rel g.w g.base (D::X) μ σ h'∧Kp (D::X) μ s.heap (D::X) μ h':=
 have kk:∀b o,s.heap.get? b=some o→b∉D::X→h'.get? b=some o:=fun b o e nx=>hs.extBut b o (fun q=>nx (q▸.head _)) e
 ⟨R.keepX kk fun b m=>if q:b=D then ⟨_,(congrArg _ q).trans hD⟩ else (by obtain ⟨o,e⟩:=R.insideX b m;exact ⟨o,hs.extBut b o q e⟩),R.kpX kk⟩
theorem DNew.go (T:DNew acc n es fs m) (hu:A.units<cLine):∀{ps:List (Value×Value)} {s:Shared} {ds:Array DictEntry} {Q:PUnit→Shared→Prop},Rel g.w g.base (D::X) μ σ s.heap→s.heap.get? D=some (dctO ds n)→DRs g.w (D::X) μ s.heap acc ds.toList→(acc.map (·.1)).Nodup→VPs g.w (D::X) μ s.heap es ps→
  (∀h' tk ds',Heap.SameBut D s.heap h'→h'.get? D=some (dctO ds' m)→Rel g.w g.base (D::X) μ σ h'→DRs g.w (D::X) μ h' fs ds'.toList→(fs.map (·.1)).Nodup→Q PUnit.unit { s with heap:=h',toks:=tk })→wpAny (model pw g.w) A (storeAll D ps) Q E s:=by
 induction T with
 | nil=>
  intro ps s ds Q R hD q nd r K
  rw [List.map_eq_nil_iff.mp r.1.isNil]
  exact wpAny_pure (K s.heap s.toks ds (.refl _ _) hD R q nd)
 | cons hk hz T ih=>
  intro ps s ds Q R hD q nd r K
  cases ps with
  | nil=>exact r.1.elim
  | cons p ps=>
   obtain ⟨⟨rk,r1⟩,rv,r2⟩:=r
   unfold storeAll
   rw [List.forIn_cons]
   refine wpAny_bind (wpAny_bind (dictSet_cv hu rk hk hD q nd rv (Nat.le_trans (Nat.le_of_ble_eq_true hz) (by decide)) fun h' ds' t hs hD' q'=>wpAny_pure ?_))
   obtain ⟨R',kp⟩:=R.one hs hD'
   exact ih (s:={ s with heap:=h',toks:=t }) R' hD' (DRs.mono kp _ q') (setK_nodup nd) ⟨VRs.mono kp _ r1,VRs.mono kp _ r2⟩ fun h'' tk ds'' hs'=>K h'' tk ds'' (hs.trans hs')
theorem Cx.push {x:Fx} {s:Shared} {o:Obj} (C:Cx g A d x μ ρ σ s) (hf:o.isFreed=false):Cx g A d (x.at ([s.heap.objs.size]++x.X)) μ ρ σ { s with heap:=s.heap.push o }:=
 have V:EnvR g (x.at x.X) μ ρ s.heap:=C.V
 ⟨C.B,C.O,V.to (fun b o ξ e=>push_up e) ⟨fun ξ ξ e=>e,fun b o e nf nx=>⟨push_up e,nf,fun m=>(List.mem_append.mp m).elim (fun m=>not_none e (List.mem_singleton.mp m▸get_size _)) nx⟩⟩ (fun ξ ξ e=>e) (fun b m=>List.mem_append_right _ (C.V.own b m)) fun b f=>List.mem_append_right _ (V.footX f).1,
  C.R.more (fun b o e=>push_up e) (size1 hf)⟩
theorem Does.newd0:Does d (.newd []) ρ σ (.ref σ.length) (σ++[.dict [] 0]):=⟨fun {e g A x μ s E Q} ok C K=>by
 refine an2 ok fun h1 h2 ok=>?_
 rw [tgE h1]
 show wpAny _ _ (eval (.Dict (view e).m (view e).l _) _) _ _ _
 rw [List.isEmpty_iff.mp (an ok).1,List.isEmpty_iff.mp (an ok).2]
 exact wpAny_Dict_empty (K _ _ _ (.newObj (tk:=s.toks) C.R (fun b o e=>push_up e) ⟨get_size _,_,Heap.get?_push_size _ rfl⟩ fun kp=>⟨rfl,C.R.notMods C.B,#[],Heap.get?_push_size _ rfl,trivial,.nil⟩))⟩
theorem Does.newd (S:DoesKs d (a::b::kvs) ρ σ es σ₁) (T:DNew [] 0 es fs m):Does d (.newd (a::b::kvs)) ρ σ (.ref σ₁.length) (σ₁++[.dict fs m]):=⟨fun {e g A x μ s E Q} ok C K=>by
 refine an2 ok fun h1 h2 ok=>?_
 obtain ⟨l1,l2,l3⟩:=S.len ok
 rw [tgE h1]
 show wpAny _ _ (eval (.Dict (view e).m (view e).l _) _) _ _ _
 have C₀:=C.push (o:=dctO #[] 0) rfl
 have main:wpAny (model pw g.w) A (evalPairs (pairTrees (view e).m (view e).l x.env (view e).p)) (fun vs s₁=>wpAny (model pw g.w) A (storeAll s.heap.objs.size vs) (fun ξ s₂=>Q (.ref s.heap.objs.size) s₂) E s₁) E { s with heap:=s.heap.push (dctO #[] 0) }:=S.go (x:=x.at ([s.heap.objs.size]++x.X)) ok C₀ fun ps s₁ μ₁ N r=>by
  have gD:=N.st.keep s.heap.objs.size _ (Heap.get?_push_size _ rfl) (fun f=>C₀.R.notX _ f (.head _)) (by simp)
  refine T.go (X:=x.X) (by have:=C.O.units;lia) N.R gD trivial .nil r fun h' tk ds' hs hD R' q' nd=>K _ _ (μ₁++[(s.heap.objs.size,s.heap.objs.size)]) ⟨⟨⟨fun i q e=>?_,fun b f=>?_,fun b o e nf ξ=>?_,N.st.os,N.st.gens⟩,?_⟩,_,by rw [← N.R.len];exact List.getElem?_concat_length,rfl⟩
  ·have e':=N.st.pre i q e
   rw [List.getElem?_append_left (List.getElem?_eq_some_iff.mp e').1]
   exact e'
  ·exact (foot_snoc.mp f).elim (fun f=>(N.st.new b f).imp id (none_of fun o e=>⟨o,push_up e⟩)) fun q=>.inr (q.elim (fun q=>q▸get_size _) fun q=>q▸get_size _)
  ·exact hs.extBut b o (fun q=>not_none e (q▸get_size _)) (N.st.keep b o (push_up e) nf (by simp))
  ·exact R'.adopt (fun b m=>.tail _ m) (.head _) (C.R.fresh (get_size _)).2 fun kp=>⟨rfl,C.R.notMods C.B,ds',hD,DRs.mono kp _ q',nd⟩
 exact wpAny_Dict_any l1 l2 (fun q=>by rw [q] at l3;cases l3) (of_decide_eq_true h2) main⟩
end
theorem inst_K (P:Params):((List.range 4).all fun c=>decide (nsIn (KF P) mainGlobals (clsNm.getD c "")=some (some (.ref (clsN c))))&&(keepIn (KF P) (.ref (clsN c))&&(makesIn (KF P) (clsN c)&&
 match cprog.init c with
 | some f=>decide (findIn (KF P) (.ref (clsN c)) "__init__"=some (some (.ref (fnA.getD f 0))))&&decide (typeIn (KF P) (.ref (fnA.getD f 0))=some (.type "function"))
 | none=>false)))=true:=by kernel_rfl!
theorem OkA.make {A:Around} {d:Nat} (O:OkA A d) (C:Addr) (rest:List Value):OkF (A.under (.builtin "type.__call__" ⟨.ref C::rest,[]⟩)) d:=
 ⟨O.handled,by have:=O.depth;show A.depth+1+4*d+38≤recursionLimit;lia,by have:=O.units;show A.units+1+30*d+280≤cLine;lia⟩
section
variable {g:Gx} {X:List Addr} {μ:Mu} {d f c:Nat} {ρ:Loc} {σ σ₁ σ₂:CSt} {s:Shared} {es:List CE} {vs:List CV}
theorem Got.inst (R:Rel g.w g.base X μ σ s.heap) (lt:c<4):Got g X μ s (σ++[.inst c []]) (.ref σ.length) (.ref (s.heap.objs.size+1)) { s with heap:=(s.heap.push emptyDict).push (instObj (clsN c) s.heap.objs.size) } (μ++[(s.heap.objs.size+1,s.heap.objs.size)]):=by
 have k:∀b o,s.heap.get? b=some o→((s.heap.push emptyDict).push (instObj (clsN c) s.heap.objs.size)).get? b=some o:=fun b o e=>push_up (push_up e)
 have gD:((s.heap.push emptyDict).push (instObj (clsN c) s.heap.objs.size)).get? s.heap.objs.size=some emptyDict:=push_up (Heap.get?_push_size _ rfl)
 have gI:((s.heap.push emptyDict).push (instObj (clsN c) s.heap.objs.size)).get? (s.heap.objs.size+1)=some (instObj (clsN c) s.heap.objs.size):=push_at (push_sz rfl) rfl
 have f1:s.heap.get? (s.heap.objs.size+1)=none:=get_ge (Nat.le_succ _)
 exact ⟨⟨St.alloc (tk:=s.toks) k f1 (get_size _),(R.alloc (p:=(s.heap.objs.size+1,s.heap.objs.size)) (o':=.inst c []) k ⟨f1,_,gI⟩ ⟨get_size _,_,gD⟩ fun kp=>⟨Nat.succ_ne_self _,lt,gI,by decide,#[],0,gD,trivial,.nil⟩).1⟩,_,by rw [← R.len];exact List.getElem?_concat_length,rfl⟩
theorem Does.inst (S:DoesL d es ρ σ vs σ₁) (hf:(cprog.init c==some f&&Nat.blt c 4)=true) (T:Calls d f (.ref σ₁.length::vs) (σ₁++[.inst c []]) .none σ₂):Does d (.inst c es) ρ σ (.ref σ₁.length) σ₂:=⟨fun {e g A x μ s E Q} ok C K=>by
 refine an1 ok fun h1 ok=>?_
 refine an2 h1 fun h1 h2 h3=>?_
 refine an1 hf fun hf lt=>?_
 have lt:c<4:=Nat.le_of_ble_eq_true lt
 rw [tgE h1]
 show wpAny _ _ (eval (.Call (view e).x _ _ _) _) _ _ _
 rw [tgE h2]
 have H:=all_lt (inst_K g.w.params) lt
 rw [eq_of_beq hf] at H
 refine an4 H fun H1 H2 H3 H4 H5=>?_
 refine Call_name (f:=.ref (clsN c)) (okEs_star ok) (fun h t=>keeps_K H2 h t) (fun Q' q=>name_glob C h3 (of_decide_eq_true H1) q) (S.go ok C fun us s₁ μ₁ n=>⟨(n.R.bs C.B).1,wpAny_call ?_⟩)
 have I:=Got.inst n.R lt
 refine make_core (makes_of (n.R.bs C.B).1 H3) (looks_findIn (n.R.bs C.B).1 (of_decide_eq_true H4)) (fun self=>bind_fn (n.R.bs C.B).1 self (of_decide_eq_true H5)) (.inl rfl) (codeAny_mono (T.go (E:=E) (Q:=fun u s'=>u = .none∧Q (.ref (s₁.heap.objs.size+1)) s') C.B (C.O.make _ _) I.R (vs:=.ref (s₁.heap.objs.size+1)::us) ⟨I.r,VRs.mono I.kp _ n.r⟩ fun u s₂ μ₂ m=>⟨m.r,K _ _ _ (n.toNx.and (I.toNx.and ⟨m.toNx,VR.mono m.kp _ I.r⟩))⟩) fun r s' h=>?_)
 cases r with
 | error e=>exact h
 | ok fl=>
  cases fl with
  | ret v=>exact h
  | _=>exact h.elim⟩
end
noncomputable def itmO (f0:Value) (f:Bool) (d:Addr) (i n ep:Nat) (ok ov:Value):Obj:={ cls:=.type "dict_itemiterator",dict:=none,data:=.fields #[f0,.bool f,.ref d,.int i 0,.int n 0,.int ep 0,ok,ov],slots:=#[] }
noncomputable def OwnT (h:Heap) (it:Addr) (f0:Value) (f:Bool):Prop:=(f0 = .none∧f=false)∨∃a oa,f0=rawInt (Int.ofNat a)∧h.get? a=some oa∧a≠it
noncomputable def OwnN (s:Shared) (f0 f0':Value):Prop:=f0'=rawInt (Int.ofNat s.heap.objs.size)∨(f0'=f0∧f0≠.none)
theorem owns_items:Builtin.Dict_items.ownsTuple "dict_itemiterator"=true:=by decide
section
variable {w:World} {A:Around} {E:Value→Shared→Prop} {s:Shared} {it d:Addr} {f0 ok ov key val:Value} {f:Bool} {i n ep:Nat} {ds:Array DictEntry} {en:DictEntry}
theorem owned_free {Q:Value→Shared→Prop} (hit:s.heap.get? it=some (itmO f0 f d i n ep ok ov)) (hf:OwnT s.heap it f0 f)
  (hQ:∀h' f0' f' ok' ov',h'.get? it=some (itmO f0' f' d i n ep ok' ov')→OwnN s f0 f0'→h'.get? s.heap.objs.size=some (tupO #[key,val] 0)→(∀b o,b≠it→s.heap.get? b=some o→h'.get? b=some o)→Q (.ref s.heap.objs.size) { s with heap:=h' }) :
  wpAny (model pw w) A (Builtin.Dict_items.pairFromOwner (.ref it) 6 key val) Q E s:=by
 refine wpAny_bind (m:=newTuple _) (wpAny_newTuple ?_ (by show 2≤sizeLine;decide))
 have ne:s.heap.objs.size≠it:=Nat.ne_of_gt (Heap.lt_size hit)
 generalize hh:s.heap.push { cls:=.type "tuple",data:=.seq [key,val].toArray }=h₁
 have k₁:∀b o,s.heap.get? b=some o→h₁.get? b=some o:=fun b o e=>hh▸push_up e
 have g₁:h₁.get? s.heap.objs.size=some (tupO #[key,val] 0):=hh▸Heap.get?_push_size _ rfl
 have hit₁:=k₁ _ _ hit
 refine wpAny_bind (m:=Builtin.Dict_items.ownedTupleIsFree _) (wpAny_bind (wpAny_field (s:={ s with heap:=h₁ }) hit₁ rfl (x:=f0) rfl ?_))
 rcases hf with ⟨e,e'⟩ | ⟨a,oa,e,ha,hai⟩
 ·rw [e,e'] at hit₁
  rw [e]
  refine wpAny_pure (wpAny_bind (wpAny_field (s:={ s with heap:=h₁ }) hit₁ rfl (x:=ok) rfl (wpAny_bind (wpAny_field (s:={ s with heap:=h₁ }) hit₁ rfl (x:=ov) rfl ?_))))
  refine wpAny_bind (wpAny_setField_rec (s:={ s with heap:=h₁ }) hit₁ (by simp) fun h₂ e₂ s₂=>wpAny_bind (wpAny_setField_rec (s:={ s with heap:=h₂ }) e₂ (by simp) fun h₃ e₃ s₃=>wpAny_bind (wpAny_setField_rec (s:={ s with heap:=h₃ }) e₃ (by simp) fun h₄ e₄ s₄=>wpAny_bind (wpAny_setField_rec (s:={ s with heap:=h₄ }) e₄ (by simp) fun h₅ e₅ s₅=>?_))))
  have up:∀b o,b≠it→h₁.get? b=some o→h₅.get? b=some o:=fun b o nb e=>s₅.extBut _ _ nb (s₄.extBut _ _ nb (s₃.extBut _ _ nb (s₂.extBut _ _ nb e)))
  exact wpAny_bind (wpAny_letGo (wpAny_pure (hQ h₅ (rawInt (Int.ofNat s.heap.objs.size)) false key val e₅ (.inl rfl) (up _ _ ne g₁) fun b o nb e=>up b o nb (k₁ b o e))))
 ·rw [e] at hit₁⊢
  show wpAny _ _ (loadIfAlive a >>= _) _ _ _
  refine wpAny_bind (kdx_alive (s:={ s with heap:=h₁ }) (k₁ a oa ha) (wpAny_bind (wpAny_field (s:={ s with heap:=h₁ }) hit₁ rfl (x:=.bool f) rfl ?_)))
  cases f with
  | true=>exact wpAny_pure (wpAny_pure (hQ h₁ _ _ _ _ hit₁ (.inr ⟨e.symm,fun z=>by rw [e] at z;cases z⟩) g₁ fun b o nb e=>k₁ b o e))
  | false=>exact wpAny_bind (wpAny_setField_rec (s:={ s with heap:=h₁ }) hit₁ (by simp) fun h₂ e₂ s₂=>wpAny_pure (wpAny_pure (hQ h₂ (rawInt (Int.ofNat a)) true ok ov e₂ (.inr ⟨e.symm,fun z=>by rw [e] at z;cases z⟩) (s₂.extBut _ _ ne g₁) fun b o nb e=>s₂.extBut _ _ nb (k₁ b o e))))
theorem items_item {Q:Option Value→Shared→Prop} (hit:s.heap.get? it=some (itmO f0 f d i ds.size ep ok ov)) (hod:s.heap.get? d=some (dctO ds ep)) (hx:ds[i]?=some en) (hf:OwnT s.heap it f0 f)
  (hQ:∀h' f0' f' ok' ov',h'.get? it=some (itmO f0' f' d (i+1) ds.size ep ok' ov')→OwnN s f0 f0'→h'.get? s.heap.objs.size=some (tupO #[en.key,en.val] 0)→(∀b o,b≠it→s.heap.get? b=some o→h'.get? b=some o)→Q (some (.ref s.heap.objs.size)) { s with heap:=h' }) :
  wpAny (model pw w) A (pyNext (.ref it)) Q E s:=by
 have hT:s.TypeIs (.ref it) "dict_itemiterator":=⟨_,hit,rfl⟩
 unfold pyNext
 refine wpAny_bind (wpAny_attempt (wpAny_callSpecial?_slot (name:=Str.ofString "__next__") hT PySem.F.slot_dict_itemiterator_next (wpAny_call_entry PySem.F.slot_dict_itemiterator_next hT PySem.F.entry_dict_itemiterator_next ?_ (PySem.F.args_dict_itemiterator_next_1 _))))
 refine wpAny_bind (wpAny_pure (wpAny_bind (wpAny_bind (wpAny_bind (wpAny_typeNameOfWhole_itemiter hT (wpAny_pure (wpAny_bind (wpAny_fieldsOf hit rfl ?_))))))))
 rw [owns_items,if_pos rfl]
 show wpAny _ _ (if (Value.ref d==Value.none)=true then _ else _) _ _ _
 rw [if_neg (show ¬((Value.ref d==Value.none)=true) from Bool.false_ne_true)]
 refine wpAny_bind (wpAny_pure (wpAny_bind (wpAny_dictEntries hod rfl ?_)))
 rw [if_neg (by simp)]
 refine wpAny_bind (wpAny_pure (wpAny_bind (wpAny_dictEpoch hod rfl ?_)))
 rw [if_neg (by simp)]
 refine wpAny_pure ?_
 dsimp only
 rw [if_neg (Int.not_lt.mpr (Int.natCast_nonneg i)),Int.toNat_natCast,hx]
 refine wpAny_bind (wpAny_bind (wpAny_typeNameOfWhole_itemiter hT (wpAny_pure (wpAny_bind (wpAny_isOneOf_itemiter hT ?_)))))
 show wpAny _ _ (setField (.ref it) 3 (rawInt ((i:Int)+1)) >>= _) _ _ s
 refine wpAny_bind (wpAny_setField_rec hit (by simp) fun h₁ he₁ hs₁=>?_)
 replace he₁:h₁.get? it=some (itmO f0 f d (i+1) ds.size ep ok ov):=by unfold itmO;rw [show ((i+1:Nat):Int)=(i:Int)+1 from rfl];simpa [rawInt] using he₁
 have hT₁:Shared.TypeIs { s with heap:=h₁ } (.ref it) "dict_itemiterator":=⟨_,he₁,rfl⟩
 have hz:h₁.objs.size=s.heap.objs.size:=hs₁.1
 refine wpAny_bind (wpAny_holding (wpAny_bind (wpAny_isOneOf_itemiter hT₁ (wpAny_bind (wpAny_isOneOf_itemiter hT₁ (owned_free (s:={ s with heap:=h₁ }) (key:=en.key) (val:=en.val) he₁ (hf.imp id fun w93=>by obtain ⟨a,oa,e,g,ne⟩:=w93;exact ⟨a,oa,e,hs₁.extBut _ _ ne g,ne⟩) fun h₂ f0' f' ok' ov' h2 h3 h4 h5=>wpAny_pure ⟨_,rfl,wpAny_pure ?_⟩))))))
 unfold OwnN at h3
 rw [show ({ s with heap:=h₁ }:Shared).heap.objs.size=s.heap.objs.size from hz] at h3 h4⊢
 exact hQ h₂ f0' f' ok' ov' h2 h3 h4 fun b o nb e=>h5 b o nb (hs₁.extBut _ _ nb e)
theorem items_end {Q:Option Value→Shared→Prop} (hh:A.handled=none) (hit:s.heap.get? it=some (itmO f0 f d i ds.size ep ok ov)) (hod:s.heap.get? d=some (dctO ds ep)) (hx:ds[i]?=none) (hQ:∀h',Heap.ExtBut it s.heap h'→Q none { s with heap:=h' }):wpAny (model pw w) A (pyNext (.ref it)) Q E s:=by
 have hT:s.TypeIs (.ref it) "dict_itemiterator":=⟨_,hit,rfl⟩
 unfold pyNext
 refine wpAny_bind (wpAny_attempt (wpAny_callSpecial?_slot (name:=Str.ofString "__next__") hT PySem.F.slot_dict_itemiterator_next (wpAny_call_entry PySem.F.slot_dict_itemiterator_next hT PySem.F.entry_dict_itemiterator_next ?_ (PySem.F.args_dict_itemiterator_next_1 _))))
 refine wpAny_bind (wpAny_pure (wpAny_bind (wpAny_bind (wpAny_bind (wpAny_typeNameOfWhole_itemiter hT (wpAny_pure (wpAny_bind (wpAny_fieldsOf hit rfl ?_))))))))
 rw [owns_items,if_pos rfl]
 show wpAny _ _ (if (Value.ref d==Value.none)=true then _ else _) _ _ _
 rw [if_neg (show ¬((Value.ref d==Value.none)=true) from Bool.false_ne_true)]
 refine wpAny_bind (wpAny_pure (wpAny_bind (wpAny_dictEntries hod rfl ?_)))
 rw [if_neg (by simp)]
 refine wpAny_bind (wpAny_pure (wpAny_bind (wpAny_dictEpoch hod rfl ?_)))
 rw [if_neg (by simp)]
 refine wpAny_pure ?_
 dsimp only
 rw [if_neg (Int.not_lt.mpr (Int.natCast_nonneg i)),Int.toNat_natCast,hx]
 refine wpAny_bind (wpAny_bind (wpAny_typeNameOfWhole_itemiter hT (wpAny_pure ?_)))
 show wpAny _ _ (setField (.ref it) 2 .none >>= _) _ _ s
 refine wpAny_bind (wpAny_setField hit rfl (by simp) ?_)
 exact stop_iter (A:=A.in1) hh fun h' e k n w92=>by obtain ⟨o,ho,hc⟩:=w92;exact wpAny_bind (wpAny_isInstance (T:="StopIteration") (b:=true) (s:={ s with heap:=h' }) ⟨o,ho,hc⟩ isSubtype_stop (wpAny_pure (hQ h' fun b o nb e=>k b o ((Heap.get?_update_other _ _ (Ne.symm nb)).trans e))))
end
noncomputable def ItSt (it d:Addr) (n ep:Nat) (X:List Addr) (μ:Mu) (h:Heap) (i:Nat):Prop:=
 ∃f0 f ok ov,h.get? it=some (itmO f0 f d i n ep ok ov)∧((f0 = .none∧f=false)∨∃a oa,f0=rawInt (Int.ofNat a)∧h.get? a=some oa∧¬foot μ a∧a∉X)
abbrev pairV (e:CV×CV):CV:=.tup [e.1,e.2]
section
variable {g:Gx} {d j ep n:Nat} {it a v D:Addr} {es:List (CV×CV)} {so:Option (Nat×CObj)} {A:Around} {E:Value→Shared→Prop} {s:Shared} {ds:Array DictEntry}
theorem loopy_items {p:Addr×Addr}:Loopy g d nmT [it] (.ref it) (es.map pairV) (some (j,.dict es ep)) (fun X μ h i=>ItSt it p.1 es.length ep X μ h i∧μ[j]?=some p) where
 live hI b m:=by rw [List.mem_singleton.mp m];obtain ⟨⟨ξ,ξ,ξ,ξ,ho,ξ⟩,ξ⟩:=hI;exact ⟨_,ho⟩
 keep hI kp k:=by
  obtain ⟨⟨f0,f,ok,ov,ho,r⟩,j1⟩:=hI
  refine ⟨⟨f0,f,ok,ov,k it (List.mem_singleton.mpr rfl) _ ho,r.imp id fun ⟨T,oT,e,hT,nf,nx⟩=>?_⟩,kp.pre _ _ j1⟩
  obtain ⟨k1,k2,k3⟩:=kp.at_ _ _ hT nf nx
  exact ⟨T,oT,e,k1,k2,k3⟩
 item {A X μ σ s i c N Q E} O R hX so hI hc K:=by
  obtain ⟨⟨f0,f,ok,ov,hit,hf⟩,j1⟩:=hI
  obtain ⟨ξ,ξ,ds,g',rs,ξ⟩:=R.obj j p _ j1 so
  rw [List.getElem?_map] at hc
  obtain ⟨e,he,hc⟩:=Option.map_eq_some_iff.mp hc
  obtain ⟨en,hen,rk,rc,ξ⟩:=rs.get he
  have iX:it∈X:=hX it (List.mem_singleton.mpr rfl)
  rw [← DRs.size rs] at hit
  refine items_item hit g' (by rw [← Array.getElem?_toList];exact hen) (hf.imp id fun w90=>by obtain ⟨T,oT,e,hT,ξ,nx⟩:=w90;exact ⟨T,oT,e,hT,fun q=>nx (q▸iX)⟩) fun h' f0' f' ok' ov' h1 h2 h3 h4=>wpAny_pure (a:=()) (K _ h' s.toks (fun b o nb e=>h4 b o (not_mem1 nb) e) ?_ ⟨⟨f0',f',ok',ov',DRs.size rs▸h1,.inr ?_⟩,j1⟩)
  ·have kp:Kp X μ s.heap X μ h':=R.kpX fun b o e nx=>h4 b o (fun q=>nx (q▸iX)) e
   exact hc▸⟨_,_,_,rfl,h3,R.notSize.1,R.notSize.2,VR.mono kp _ rk,VR.mono kp _ rc,trivial⟩
  ·rcases h2 with e | ⟨e,nn⟩
   ·exact ⟨_,_,e,h3,R.notSize.1,R.notSize.2⟩
   ·obtain ⟨T,oT,e',hT,nf,nx⟩:=hf.resolve_left fun q=>nn q.1
    exact ⟨T,oT,e.trans e',h4 _ _ (fun q=>nx (q▸iX)) hT,nf,nx⟩
 done {A X μ σ s Q N E} O R hX so hI K:=by
  obtain ⟨⟨f0,f,ok,ov,hit,hf⟩,j1⟩:=hI
  obtain ⟨ξ,ξ,ds,g',rs,ξ⟩:=R.obj j p _ j1 so
  rw [← DRs.size rs] at hit
  exact items_end O hit g' (Array.getElem?_eq_none (by rw [DRs.size rs,List.length_map];exact Nat.le_refl _)) fun h' he=>K h' _ fun b o nb e=>he b o (not_mem1 nb) e
 self hI q:=by
  obtain ⟨⟨ξ,ξ,ξ,ξ,ho,ξ⟩,ξ⟩:=hI
  have hT:Shared.TypeIs _ (.ref it) "dict_itemiterator":=⟨_,ho,rfl⟩
  exact wpAny_pyIter_slot hT PySem.F.slot_dict_itemiterator_iter (wpAny_call_entry PySem.F.slot_dict_itemiterator_iter hT kcp_entry (wpAny_pure (a:=Fin.done (.ret (.ref it))) ⟨_,rfl,"dict_itemiterator",_,hT,PySem.F.slot_dict_itemiterator_next.lookup,q⟩) (PySem.F.args_dict_itemiterator_iter_1 _))
noncomputable def viewO (D:Addr):Obj:={ cls:=.type "dict_items",data:=.fields #[.ref D] }
theorem iter_items {Q:Value→Shared→Prop} (hv:s.heap.get? v=some (viewO D)) (ho:s.heap.get? D=some (dctO ds ep)) (hQ:Q (.ref s.heap.objs.size) { s with heap:=s.heap.push (itmO .none false D 0 ds.size ep .none .none) }):wpAny (model pw g.w) A (pyIter (.ref v)) Q E s:=by
 have hT:s.TypeIs (.ref v) "dict_items":=⟨_,hv,rfl⟩
 refine wpAny_pyIter_slot hT PySem.F.slot_dict_items_iter (wpAny_call_entry PySem.F.slot_dict_items_iter hT PySem.F.entry_dict_items_iter ?_ (PySem.F.args_dict_items_iter_1 _))
 refine wpAny_bind (wpAny_pure (wpAny_bind (m:=Builtin.Dict_items.dictOf _) (wpAny_bind (wpAny_field hv rfl (x:=.ref D) rfl (wpAny_pure (wpAny_bind (m:=Builtin.Dict_items.newIterator _ _ _) ?_))))))
 unfold Builtin.Dict_items.newIterator
 refine wpAny_bind (wpAny_dictEntries ho rfl (wpAny_bind (wpAny_dictEpoch ho rfl ?_)))
 simp only [owns_items,if_true]
 exact wpAny_newObj_type (wpAny_pure ⟨_,rfl,"dict_itemiterator",_,⟨_,Heap.get?_push_size _ rfl,rfl⟩,PySem.F.slot_dict_itemiterator_next.lookup,hQ⟩) (by simp only [sizeOk,Builtin.Dict_items.ownedTupleFields,List.size_toArray,List.length_append,List.length_cons,List.length_nil];decide)
theorem items_view {Q:Value→Shared→Prop} (hd:(D==sysModules)=false) (ho:s.heap.get? D=some (dctO ds ep)) (hQ:Q (.ref s.heap.objs.size) { s with heap:=s.heap.push (viewO D) }):wpAny (model pw g.w) A (call (.builtin "dict.items") [.ref D]) Q E s:=by
 have hT:s.TypeIs (.ref D) "dict":=⟨_,ho,rfl⟩
 refine wpAny_call_entry PySem.F.slot_dict_items hT PySem.F.entry_dict_items ?_ (PySem.F.args_dict_items_1 _)
 refine wpAny_bind (m:=Builtin.Dict.noArgs _ _) (wpAny_bind (wpAny_notOrdered_dict hT (wpAny_pure (wpAny_bind (m:=Builtin.Dict.showsAll D) ?_))))
 unfold Builtin.Dict.showsAll
 rw [if_neg (by rw [hd];exact Bool.false_ne_true)]
 exact wpAny_pure (wpAny_bind (wpAny_newObj_type (wpAny_pure ⟨_,rfl,hQ⟩)))
theorem Does.sortedItems {ρ:Loc} {σ σ₁:CSt} {c:CE} {r:List CV} (So:Does d c ρ σ (.ref j) σ₁) (hj:σ₁[j]?=some (.dict es ep)) (S:SortsTo (es.map pairV) r):Does d (.sortedItems c) ρ σ (.lst r) σ₁:=⟨fun {e g A x μ s E Q} ok C K=>by
 refine an4 ok fun h1 h2 h3 h4 ok=>?_
 refine bi_one C h1 h2 (f:=.builtin "sorted") rfl keeps_builtin (notStar11 (an h3).1) ?_
 generalize hd e (view e).l=e' at h3 h4 ok⊢
 refine an4 h3 fun k1 k2 k3 k4 k5=>?_
 rw [tgE k1]
 show wpAny _ _ (eval (.Call (view e').x (view e').l _ _) _) _ _ _
 rw [tgE k2,List.isEmpty_iff.mp h4]
 refine MethodCall_gen k5 rfl (by decide) k4 fun pl=>So.go ok C fun u s₁ μ₁ N=>dict_at N.R N.r hj fun p ds hp h2 e D=>?_
 rw [e,eq_of_beq k3]
 refine getMethod_builtin D.type PySem.F.plainAttrs_dict PySem.F.slot_dict_items PySem.F.type_dict_items (fun b e=>Value.ref.inj e▸⟨_,D.at_,rfl⟩) (callWith_gen rfl keeps_builtin (Calls.spliced_nil ⟨trivial,items_view D.sm D.at_ ?_⟩))
 have M:Nx g x.X μ₁ s₁ σ₁ { s₁ with heap:=s₁.heap.push (viewO p.1) } μ₁:=.push N.R _ s₁.toks
 have g0:(s₁.heap.push (viewO p.1)).get? p.1=some (dctO ds ep):=push_up D.at_
 have gv:(s₁.heap.push (viewO p.1)).get? s₁.heap.objs.size=some (viewO p.1):=Heap.get?_push_size _ rfl
 refine sorted_call (collect_it (A:=A.in1) (d:=d) (so:=some (j,.dict es ep)) (items:=es.map pairV) (s:={ s₁ with heap:=s₁.heap.push (viewO p.1) }) C.O.handled M.R gv rfl (by decide) (by decide) hj (Nat.le_trans (Nat.le_of_lt S.few) (by decide)) (fun E s' Q hT q=>kdx_hint hT q) rfl loopy_items ⟨⟨.none,false,.none,.none,?_,.inl ⟨rfl,rfl⟩⟩,hp⟩ (fun E Q q=>iter_items (s:={ s₁ with heap:=(s₁.heap.push (viewO p.1)).push (lstO #[] 0) }) (push_up gv) (push_up g0) q) fun h' tk dr vs k rs=>sorted_tail C.O M.R k rs S fun ξ ξ ξ n=>K _ _ _ (N.toNx.and (M.and n)))
 rw [← DRs.size D.rs]
 exact Heap.get?_push_size _ rfl⟩
end
noncomputable def ofM (m:Nat):List Nat:=(List.range 8).filter fun j=>m.testBit j
noncomputable def isT (m:Nat):Bool:=Nat.blt m 256&&Nat.ble (ofM m).length 4
noncomputable def Tab (pl:List Nat):Prop:=∃m,isT m=true∧ofM m=pl
noncomputable def putP (pl:List Nat) (j:Nat):Nat:=SetTable.below pl.toArray j
noncomputable def slotP (pl:List Nat) (j:Nat):SetTable.Slot:=SetTable.slot ⟨7,pl.toArray,#[],0,false,0,false⟩ j
noncomputable def slotOk (pl:List Nat) (j:Nat):Bool:=match slotP pl j with
 | .empty=>!pl.contains j
 | .live i=>pl[i]?==some j
 | .dummy=>false
structure TabOk (t:SetTable) (pl:List Nat):Prop where
 mask:t.mask=7
 place:t.place=pl.toArray
 dum:t.dummies=#[]
 mem:Tab pl
theorem tabs_of {p:List Nat→Bool} {pl:List Nat} (h:((List.range 256).all fun m=>!isT m||p (ofM m))=true) (m:Tab pl):p pl=true:=by
 obtain ⟨m,k,e⟩:=m
 exact e▸((Bool.or_eq_true _ _).mp (all_lt h (Nat.le_of_ble_eq_true (an k).1))).resolve_left (by rw [k];exact Bool.false_ne_true)
theorem TabOk.slot {t:SetTable} {pl:List Nat} (T:TabOk t pl) (j:Nat):t.slot j=slotP pl j:=by
 unfold slotP SetTable.slot
 rw [T.place,T.dum]
theorem slots_all:((List.range 256).all fun m=>!isT m||(List.range 8).all fun j=>slotOk (ofM m) j)=true:=by decide +kernel
theorem slot_cases {pl:List Nat} {j:Nat} (m:Tab pl) (lt:j<8):(slotP pl j = .empty∧j∉pl)∨∃i,slotP pl j = .live i∧pl[i]?=some j:=by
 have h:=all_lt (tabs_of (p:=fun l=>(List.range 8).all fun j=>slotOk l j) slots_all m) lt
 unfold slotOk at h
 cases hs:slotP pl j with
 | empty=>rw [hs] at h;exact .inl ⟨rfl,fun q=>by rw [List.contains_iff_mem.mpr q] at h;cases h⟩
 | live i=>rw [hs] at h;exact .inr ⟨i,rfl,eq_of_beq h⟩
 | dummy=>rw [hs] at h;cases h
theorem puts_all:((List.range 256).all fun m=>!isT m||((ofM m).length==4||(List.range 8).all fun j=>(ofM m).contains j||(isT (m ||| 2 ^ j)&&decide (ofM (m ||| 2 ^ j)=(SetTable.insertAt (ofM m).toArray (putP (ofM m) j) j).toList))))=true:=by decide +kernel
theorem put_ok {pl:List Nat} {j:Nat} (m:Tab pl) (l3:pl.length<4) (lt:j<8) (nm:j∉pl):Tab (SetTable.insertAt pl.toArray (putP pl j) j).toList:=by
 obtain ⟨m,k,e⟩:=m
 have h:=((Bool.or_eq_true _ _).mp (all_lt puts_all (Nat.le_of_ble_eq_true (an k).1))).resolve_left (by rw [k];exact Bool.false_ne_true)
 rw [e] at h
 exact ((Bool.or_eq_true _ _).mp h).elim (fun h=>absurd (eq_of_beq h) (Nat.ne_of_lt l3)) fun h=>((Bool.or_eq_true _ _).mp (all_lt h lt)).elim (fun h=>absurd (List.contains_iff_mem.mp h) nm) fun h=>⟨_,(an h).1,of_decide_eq_true (an h).2⟩
theorem facts_all:((List.range 256).all fun m=>!isT m||(Nat.ble (ofM m).length 4&&(decide (ofM m).Nodup&&((List.range 8).any fun j=>!(ofM m).contains j))))=true:=by decide +kernel
theorem walk_all:((List.range 256).all fun m=>!isT m||(List.range 5).all fun k=>Nat.blt (ofM m).length k||SetTable.below (ofM m).toArray (if k=0 then 0 else (ofM m).getD (k - 1) 0+1)==k)=true:=by decide +kernel
theorem tab_facts {pl:List Nat} (m:Tab pl):(Nat.ble pl.length 4&&(decide pl.Nodup&&((List.range 8).any fun j=>!pl.contains j)))=true:=tabs_of (p:=fun l=>Nat.ble l.length 4&&(decide l.Nodup&&((List.range 8).any fun j=>!l.contains j))) facts_all m
theorem tabs_len {pl:List Nat} (m:Tab pl):pl.length≤4:=Nat.le_of_ble_eq_true (an (tab_facts m)).1
theorem tabs_nodup {pl:List Nat} (m:Tab pl):pl.Nodup:=of_decide_eq_true (an (an (tab_facts m)).2).1
theorem walk_at {pl:List Nat} {k:Nat} (m:Tab pl) (h:k≤pl.length):SetTable.below pl.toArray (if k=0 then 0 else pl.getD (k - 1) 0+1)=k:=
 ((Bool.or_eq_true _ _).mp (all_lt (tabs_of (p:=fun l=>(List.range 5).all fun k=>Nat.blt l.length k||SetTable.below l.toArray (if k=0 then 0 else l.getD (k - 1) 0+1)==k) walk_all m) (Nat.lt_succ_of_le (Nat.le_trans h (tabs_len m))))).elim (fun q=>absurd (Nat.le_of_ble_eq_true q) (Nat.not_lt.mpr h)) eq_of_beq
section
variable {t:SetTable} {pl:List Nat}
theorem TabOk.fits (T:TabOk t pl) {n:Nat} (h:n=pl.length):t.fits n=true:=by
 have:=tabs_len T.mem
 unfold SetTable.fits SetTable.fill
 rw [T.place,T.dum,T.mask,h]
 simp only [List.size_toArray,List.length_nil,beq_self_eq_true,Bool.true_and,decide_eq_true_eq]
 lia
theorem TabOk.roomy (T:TabOk t pl):t.tooFull=false:=by
 have:=tabs_len T.mem
 unfold SetTable.tooFull SetTable.fill
 rw [T.place,T.dum,T.mask]
 simp only [List.size_toArray,List.length_nil,decide_eq_false_iff_not]
 lia
theorem TabOk.gave (T:TabOk t pl):t.gaveWay=false:=by
 unfold SetTable.gaveWay;rw [T.mask];rfl
noncomputable def adv (x:Nat×Nat):Nat×Nat:=((x.1*5+1+x.2 / 32) % 8,x.2 / 32)
noncomputable def sq (x:Nat×Nat):Nat→Nat×Nat
 | 0=>x
 | n+1=>sq (adv x) n
theorem sq_add (x:Nat×Nat):∀m k,sq (sq x m) k=sq x (m+k)
 | 0,k=>by rw [Nat.zero_add];rfl
 | m+1,k=>by rw [Nat.succ_add];exact sq_add (adv x) m k
theorem sq_lt:∀(n:Nat) {x:Nat×Nat},x.1<8→(sq x n).1<8:=by
 intro l6
 induction l6 with
 | zero=>
  intro ξ h
  exact h
 | succ n ih=>
  intro ξ ξ
  exact ih (Nat.mod_lt _ (by decide))
noncomputable def P0 (x:Nat×Nat):SetTable.Probe:={ j:=x.1,more:=0,i:=x.1,perturb:=x.2,dummy:=none }
theorem TabOk.start (T:TabOk t pl) (h:Int):t.probeStart h=P0 (SetTable.bits h % 8,SetTable.bits h):=by
 unfold SetTable.probeStart P0 SetTable.runEnd
 rw [T.mask]
 dsimp only
 rw [if_neg (by lia),Nat.sub_self]
theorem TabOk.adv (T:TabOk t pl) (x:Nat×Nat):t.advance (P0 x)=P0 (adv x):=by
 unfold SetTable.advance P0 SetTable.leap SetTable.runEnd Mine.adv
 rw [T.mask]
 dsimp only
 rw [if_neg (by lia),if_neg (by lia),Nat.sub_self]
theorem cyc_all:((List.range 8).all fun i=>(List.range 8).all fun e=>(List.range 8).any fun n=>(sq (i,0) n).1==e)=true:=by decide +kernel
theorem hits:∀(k:Nat) {x:Nat×Nat} {e:Nat},x.1<8→e<8→x.2<32 ^ k→∃n,n≤k+7∧(sq x n).1=e
 | 0,(i,p),e,h1,h2,h3=>by
  obtain ⟨n,hn,h⟩:=List.any_eq_true.mp (all_lt (all_lt cyc_all h1) h2)
  rw [show p=0 from Nat.lt_one_iff.mp h3]
  exact ⟨n,by have:=List.mem_range.mp hn;lia,eq_of_beq h⟩
 | k+1,x,e,h1,h2,h3=>by
  obtain ⟨n,hn,h⟩:=hits k (x:=adv x) (Nat.mod_lt _ (by decide)) h2 (Nat.div_lt_of_lt_mul (by rw [Nat.mul_comm];exact h3))
  exact ⟨n+1,by lia,h⟩
theorem bits_lt (h:Int):SetTable.bits h<32 ^ 13:=by
 unfold SetTable.bits
 have h1:(h % (2 ^ 64:Int))<2 ^ 64:=Int.emod_lt_of_pos _ (by decide)
 have h2:0≤h % (2 ^ 64:Int):=Int.emod_nonneg _ (by decide)
 have:(2 ^ 64:Int)≤32 ^ 13:=by decide
 omega
abbrev st0 (h:Int):Nat×Nat:=(SetTable.bits h % 8,SetTable.bits h)
theorem st0_lt (h:Int):(st0 h).1<8:=Nat.mod_lt _ (by decide)
theorem free_some (m:Tab pl) (h:Int) {zz:Prop} (kk:∀n,n≤20→(sq (st0 h) n).1∉pl→zz):zz:=by
 obtain ⟨j,hj,hn⟩:=List.any_eq_true.mp (an (an (tab_facts m)).2).2
 obtain ⟨n,h1,h2⟩:=hits 13 (x:=st0 h) (st0_lt h) (List.mem_range.mp hj) (bits_lt h)
 exact kk n h1 (fun q=>by rw [h2] at q;rw [List.contains_iff_mem.mpr q] at hn;cases hn)
theorem go_spec (T:TabOk t pl) (hashAt:Nat→Int) (h:Int):∀(n fuel:Nat) (x:Nat×Nat),n<fuel→x.1<8→(sq x n).1∉pl→
  ∃m,m≤n∧(∀k,k<m→∃i,pl[i]?=some (sq x k).1∧hashAt i≠h)∧
   ((SetTable.probe.go t hashAt h fuel (P0 x)=some (.empty (sq x m).1 none)∧(sq x m).1∉pl)∨
    ∃i,SetTable.probe.go t hashAt h fuel (P0 x)=some (.candidate (sq x m).1 i (P0 (sq x (m+1))))∧pl[i]?=some (sq x m).1∧hashAt i=h∧m<n):=by
 intro n fuel
 induction fuel generalizing n with
 | zero=>
  intro x l
  exact absurd l (Nat.not_lt_zero _)
 | succ fuel ih=>
  intro x l lx hn
  rw [SetTable.probe.go,T.slot,show (P0 x).j=x.1 from rfl]
  rcases slot_cases T.mem lx with ⟨e,ne⟩ | ⟨i,e,hi⟩
  ·rw [e]
   exact ⟨0,Nat.zero_le _,fun k lk=>absurd lk (Nat.not_lt_zero _),.inl ⟨rfl,ne⟩⟩
  ·rw [e]
   dsimp only
   rw [T.adv]
   by_cases hh:hashAt i=h
   ·rw [if_pos (beq_iff_eq.mpr hh)]
    exact ⟨0,Nat.zero_le _,fun k lk=>absurd lk (Nat.not_lt_zero _),.inr ⟨i,rfl,hi,hh,Nat.pos_of_ne_zero fun q=>by rw [q] at hn;exact hn (List.mem_of_getElem? hi)⟩⟩
   ·rw [if_neg fun q=>hh (eq_of_beq q)]
    cases n with
    | zero=>exact absurd (List.mem_of_getElem? hi) hn
    | succ n=>
     obtain ⟨m,h1,h2,h3⟩:=ih n (Mine.adv x) (Nat.lt_of_succ_lt_succ l) (Nat.mod_lt _ (by decide)) hn
     refine ⟨m+1,Nat.succ_le_succ h1,fun k lk=>?_,h3.imp id fun w94=>by obtain ⟨i',a,b,c,d⟩:=w94;exact ⟨i',a,b,c,Nat.succ_lt_succ d⟩⟩
     cases k with
     | zero=>exact ⟨i,hi,hh⟩
     | succ k=>exact h2 k (Nat.lt_of_succ_lt_succ lk)
end
abbrev Ent:=Nat×CV×Value
abbrev entP (w:World) (en:List Ent):Array (Int×Value):=(en.map fun e=>(hashCV w e.2.1,e.2.2)).toArray
abbrev setO (w:World) (en:List Ent) (t:SetTable) (ep:Nat):Obj:=⟨.type "set",none,.set (entP w en) ep t,#[]⟩
noncomputable def isTK:CV→Bool
 | .tup l=>keyOk (.tup l)
 | _=>false
section
variable {w:World} {X:List Addr} {μ:Mu} {A:Around} {E:Value→Shared→Prop} {s:Shared} {c:CV} {v:Value} {ks ls:List Atom} {a:Addr} {en:List Ent} {t:SetTable} {ep i:Nat} {e:Ent}
theorem isTK_dec {P:Prop} (hc:isTK c=true) (r:VR w X μ s.heap c v) (K:∀(ks:List Atom) (b:Addr),c = .tup (ks.map unAtom)→v = .ref b→IsTupleKey (atomKind pw w) s.heap ks b→P):P:=by
 cases c with
 | tup l=>
  obtain ⟨ks,e⟩:=atoms_of hc
  rw [e] at r
  refine VR.tupKey (prog:=pw) r fun b e' q=>?_
  exact K ks b (congrArg _ e) e' q
 | _=>cases hc
theorem unTup_inj (h:CV.tup (ks.map unAtom) = .tup (ls.map unAtom)):ks=ls:=(List.map_inj_right fun x y=>unAtom_inj).mp (CV.tup.inj h)
theorem class_tuple {Q:Bool→Shared→Prop} (hk:IsTupleKey (atomKind pw w) s.heap ks a) (h:Q false s):wpAny (model pw w) A (ofAClassStatement 8 (.ref a)) Q E s:=by
 have hT:=hk.typeIs
 obtain ⟨o,items,n,ho,ξ,hd,hi⟩:=hk
 unfold ofAClassStatement
 refine wpAny_bind (wpAny_typeOf hT (wpAny_bind (wpAny_pure (wpAny_bind (wpAny_seqItems ho hd (wpAny_bind ?_))))))
 rw [← Array.forIn_toList]
 refine wpAny_forIn_list _ (fun rest r s'=>r.1=none∧s'=s∧∀v∈rest,carriedByValue v=true) _ ?_ ?_ _ _ ⟨rfl,rfl,hi.byValue⟩
 ·rintro v rest r s' ⟨hr,rfl,hall⟩
  have:ofAClassStatement 7 v=pure false:=by
   have:=hall v (.head _)
   cases v<;>first | (cases this;done) | rfl
  rw [this]
  exact wpAny_bind (wpAny_pure (wpAny_pure ⟨rfl,rfl,fun u m=>hall u (.tail _ m)⟩))
 ·rintro ⟨r1,r2⟩ s' ⟨hr,rfl,_⟩
  rw [show r1=none from hr]
  exact wpAny_pure h
theorem unseen {Q:Bool→Shared→Prop} (hk:IsTupleKey (atomKind pw w) s.heap ks a) {l:List Value} (hl:∀v∈l,∃(ls:List Atom) (b:Addr),v = .ref b∧IsTupleKey (atomKind pw w) s.heap ls b) (h:Q false s):wpAny (model pw w) A (searchCouldBeSeen (.ref a) l) Q E s:=by
 unfold searchCouldBeSeen
 refine wpAny_bind (wpAny_forIn_list _ (fun rest r s'=>r.1=none∧s'=s∧∀v∈rest,∃(ls:List Atom) (b:Addr),v = .ref b∧IsTupleKey (atomKind pw w) s.heap ls b) _ ?_ ?_ _ _ ⟨rfl,rfl,hl⟩)
 ·rintro v rest r s' ⟨hr,rfl,hall⟩
  obtain ⟨ls,b,e,hb⟩:=hall v (.head _)
  rw [e]
  refine wpAny_ite_split (fun ξ=>wpAny_pure ⟨rfl,rfl,fun u m=>hall u (.tail _ m)⟩) (fun ξ=>?_)
  exact wpAny_bind (wpAny_eqIsQuiet_tuple hk (wpAny_bind (wpAny_eqIsQuiet_tuple hb (wpAny_bind (class_tuple hk (wpAny_bind (class_tuple hb (wpAny_pure ⟨rfl,rfl,fun u m=>hall u (.tail _ m)⟩))))))))
 ·rintro ⟨r1,r2⟩ s' ⟨hr,rfl,_⟩
  rw [show r1=none from hr]
  exact wpAny_pure h
theorem ItemsAre.scan {ks:List Atom} {vs:List Value} (h:ItemsAre (atomKind pw w) ks vs):∀v∈vs,v.scannable=true:=by
 induction h with
 | nil=>exact fun ξ m=>nomatch m
 | cons h1 _ ih=>exact fun v m=>(List.mem_cons.mp m).elim (fun e=>by rw [e];rcases isAtom_shape h1 with ⟨i,t,_,e⟩ | ⟨i,t,_,e⟩<;>(rw [e];rfl)) (ih v)
theorem byval_tuple {Q:Bool→Shared→Prop} (hk:IsTupleKey (atomKind pw w) s.heap ks a) (h:∀b,Q b s):wpAny (model pw w) A (hashByValue 8 (.ref a)) Q E s:=by
 have hT:=hk.typeIs
 obtain ⟨o,items,n,ho,ξ,hd,hi⟩:=hk
 unfold hashByValue
 refine wpAny_bind (wpAny_specialOf hT PySem.F.slot_tuple_hash.lookup (wpAny_bind (wpAny_seqItems ho hd (wpAny_bind ?_))))
 show wpAny _ _ (forIn items _ _) _ _ s
 rw [← Array.forIn_toList]
 refine wpAny_forIn_list _ (fun rest r s'=>r.1=none∧s'=s∧∀v∈rest,v.scannable=true) _ ?_ ?_ _ _ ⟨rfl,rfl,ItemsAre.scan hi⟩
 ·rintro v rest r s' ⟨hr,rfl,hall⟩
  rw [hashByValue_scannable _ (hall v (.head _))]
  exact wpAny_bind (wpAny_pure (wpAny_ite_split (fun ξ=>wpAny_pure (wpAny_pure (h _))) fun ξ=>wpAny_pure ⟨rfl,rfl,fun u m=>hall u (.tail _ m)⟩))
 ·rintro ⟨r1,r2⟩ s' ⟨hr,rfl,_⟩
  rw [show r1=none from hr]
  exact wpAny_pure (h _)
theorem set_state {Q:(Array (Int×Value)×Nat×SetTable)→Shared→Prop} (g:s.heap.get? a=some (setO w en t ep)) (T:TabOk t (en.map (·.1))) (h:Q (entP w en,ep,t) s):wpAny (model pw w) A (setState a) Q E s:=
 wpAny_setState_of g rfl (T.fits (by simp)) h
noncomputable def hAt (w:World) (en:List Ent) (i:Nat):Int:=((entP w en)[i]?.map (·.1)).getD 0
noncomputable def Pass (en:List Ent) (c:CV) (x:Nat):Prop:=∃(i:Nat) (e:Ent),en[i]?=some e∧e.1=x∧e.2.1≠c
theorem ent_at (h:en[i]?=some e):(entP w en)[i]?=some (hashCV w e.2.1,e.2.2):=by
 unfold entP
 rw [List.getElem?_toArray,List.getElem?_map,h];rfl
theorem snd_at {x:Nat} {P:Prop} (h:(en.map (·.1))[i]?=some x) (K:∀e,en[i]?=some e→e.1=x→P):P:=by
 rw [List.getElem?_map] at h
 obtain ⟨e,he,h⟩:=Option.map_eq_some_iff.mp h
 exact K e he h
theorem T_probe (T:TabOk t (en.map (·.1))) (f:Nat→Int) (h:Int) (p:SetTable.Probe):t.probe f h p=SetTable.probe.go t f h 220 p:=by
 unfold SetTable.probe SetTable.turns
 rw [T.mask]
abbrev plc (w:World) (c:CV) (n:Nat):Nat:=(sq (st0 (hashCV w c)) n).1
theorem search_cv (g:s.heap.get? a=some (setO w en t ep)) (T:TabOk t (en.map (·.1))) (tk:∀e:Ent,e∈en→VR w X μ s.heap e.2.1 e.2.2∧isTK e.2.1=true) (rc:VR w X μ s.heap c v) (hc:isTK c=true) (hu:A.units<cLine) {Q:SetFound→Shared→Prop}
  (h1:c∈en.map (·.2.1)→Q (.there none) s) (h2:∀m,plc w c m∉en.map (·.1)→(∀q,q<m→Pass en c (plc w c q))→Q (.free (plc w c m) false) s) :
  ∀(n fuel m0:Nat) (stand:Option SetTable.Probe),n<fuel→n≤20→plc w c (m0+n)∉en.map (·.1)→stand.getD (t.probeStart (hashCV w c))=P0 (sq (st0 (hashCV w c)) m0)→(∀q,q<m0→Pass en c (plc w c q))→
   wpAny (model pw w) A (setSearchFrom a v (hashCV w c) true fuel stand) Q E s:=by
 intro n
 induction n using Nat.strongRecOn with
 | _ n ih=>
  intro fuel m0 stand lf l20 hn hst hp
  cases fuel with
  | zero=>exact absurd lf (Nat.not_lt_zero _)
  | succ fuel=>
  refine isTK_dec hc rc fun ks b ec ev hk=>?_
  refine wpAny_bind (set_state g T ?_)
  dsimp only
  rw [T.gave,hst]
  rw [if_neg Bool.false_ne_true]
  obtain ⟨m,lm,pass,res⟩:=go_spec T (hAt w en) (hashCV w c) n 220 (sq (st0 (hashCV w c)) m0) (by lia) (sq_lt _ (st0_lt _)) (by rw [sq_add];exact hn)
  simp only [sq_add] at pass res
  have hpass:∀q,q<m0+m→Pass en c (plc w c q):=fun q lq=>if l:q<m0 then hp q l else by
   obtain ⟨i,h1,h2⟩:=pass (q - m0) (by lia)
   rw [Nat.add_sub_cancel' (Nat.le_of_not_lt l)] at h1
   exact snd_at h1 fun e he h=>⟨i,e,he,h,fun z=>h2 (by unfold hAt;rw [ent_at he,z];rfl)⟩
  generalize hP:SetTable.probe t _ _ _=PP
  have hP:=(T_probe T (hAt w en) _ _).symm.trans hP
  rcases res with ⟨eg,ne⟩ | ⟨i,eg,hi,hh,lmn⟩
  ·rw [← hP.symm.trans eg |>.symm]
   exact wpAny_pure (h2 (m0+m) ne hpass)
  ·rw [← hP.symm.trans eg |>.symm]
   refine snd_at hi fun e he hi=>?_
   have hme:e∈en:=List.mem_of_getElem? he
   obtain ⟨re,hte⟩:=tk e hme
   refine isTK_dec hte re fun ls b' ec' ev' hk'=>?_
   dsimp only
   have stored:∀v∈((entP w en).filter (·.1==hashCV w c)).toList.map (·.2),∃(ls:List Atom) (b:Addr),v = .ref b∧IsTupleKey (atomKind pw w) s.heap ls b:=fun v mv=>by
    obtain ⟨p,hp,e1⟩:=List.mem_map.mp mv
    obtain ⟨e2,he2,q⟩:=List.mem_map.mp (Array.mem_toList_iff.mpr (Array.mem_filter.mp (Array.mem_toList_iff.mp hp)).1)
    obtain ⟨r2,ht2⟩:=tk e2 he2
    exact isTK_dec ht2 r2 fun ls2 b2 ξ ev2 hk2=>⟨ls2,b2,e1▸q▸ev2,hk2⟩
   have cont:wpAny (model pw w) A (do
     let some (_,y):=(entP w en)[i]? | unsupported "internal:set-entry"
     let equal ← holding [y] (eqBool y v)
     let (es',_,t') ← setState a
     if true&&equal then return .there none
     let some same:=t'.sameMemory t.moves t.mask | unsupported "set.changed-during-lookup:is-the-new-block-at-the-old-address"
     let still ← match (if same then t'.slot (plc w c (m0+m)) else .empty) with
      | .live i'=>match es'[i']? with
       | some (_,y')=>do pure (if ← isSame y' y then some i' else none)
       | none=>pure none
      | _=>pure none
     match still with
     | none=>rule "set.search.anew";setSearchFrom a v (hashCV w c) true fuel none
     | some i'=>if equal then return .there (some i') else setSearchFrom a v (hashCV w c) true fuel (some (P0 (sq (st0 (hashCV w c)) (m0+(m+1)))))) Q E s:=by
    rw [ent_at he,ev,show e.2.2=_ from ev']
    dsimp only
    refine wpAny_bind (wpAny_holding (wpAny_eqBool_tuple hu hk' hk (wpAny_bind (set_state g T ?_))))
    dsimp only
    by_cases eq:ls=ks
    ·rw [decide_eq_true eq]
     exact wpAny_pure (h1 (by rw [ec,← eq,← ec'];exact List.mem_map.mpr ⟨e,hme,rfl⟩))
    ·rw [decide_eq_false eq,show t.sameMemory t.moves t.mask=some true by unfold SetTable.sameMemory;simp]
     rw [Bool.and_false,if_neg Bool.false_ne_true];dsimp only;rw [if_pos rfl]
     have hsl:t.slot (plc w c (m0+m)) = .live i:=by
      rw [T.slot]
      rcases slot_cases T.mem (sq_lt (m0+m) (st0_lt (hashCV w c))) with ⟨_,ne⟩ | ⟨i',e1,e2⟩
      ·exact absurd (List.mem_map.mpr ⟨e,hme,hi⟩) ne
      ·rw [e1,(List.getElem?_inj (List.getElem?_eq_some_iff.mp e2).1 (tabs_nodup T.mem)).mp (e2.trans (by rw [List.getElem?_map,he];exact congrArg some hi:(en.map (·.1))[i]?=some (plc w c (m0+m))).symm)]
     rw [hsl]
     dsimp only
     rw [ent_at he,show e.2.2=_ from ev']
     dsimp only
     refine wpAny_bind ?_
     unfold isSame
     dsimp only
     rw [if_pos (beq_iff_eq.mpr rfl)]
     refine wpAny_pure (wpAny_bind (wpAny_pure ?_))
     rw [if_pos rfl]
     rw [← ev]
     refine ih (n - (m+1)) (by lia) fuel (m0+(m+1)) _ (by lia) (by lia) (by rw [show m0+(m+1)+(n - (m+1))=m0+n by lia];exact hn) rfl fun q lq=>if l:q<m0+m then hpass q l else ⟨i,e,he,by rw [show q=m0+m by lia];exact hi,fun z=>eq ?_⟩
     rw [ec',ec] at z
     exact unTup_inj z
   cases hl:t.led with
   | true=>exact cont
   | false=>
    rw [Bool.not_false,if_pos rfl]
    refine wpAny_bind ?_
    rw [ev] at cont⊢
    exact unseen hk stored cont
end
structure SetPu (w:World) (en:List Ent) (t:SetTable):Prop where
 tab:TabOk t (en.map (·.1))
 nd:(en.map (·.2.1)).Nodup
 reach:∀e:Ent,e∈en→∃r,plc w e.2.1 r=e.1∧∀q,q<r→plc w e.2.1 q∈en.map (·.1)
 led:t.led = !(w.params.followText "set-order")
structure Added (w:World) (X:List Addr) (μ:Mu) (a:Addr) (s:Shared) (c:CV) (en:List Ent) (h':Heap) (en':List Ent) (t':SetTable) (ep':Nat):Prop where
 hs:Heap.SameBut a s.heap h'
 at_:h'.get? a=some (setO w en' t' ep')
 S:SetPu w en' t'
 vs:∀e:Ent,e∈en'→VR w X μ s.heap e.2.1 e.2.2
 keys:∀x,x∈en'.map (·.2.1)↔x=c∨x∈en.map (·.2.1)
section
variable {α β:Type}
noncomputable def ins (p:Nat) (x:α) (l:List α):List α:=l.take p++x::l.drop p
theorem ins_map (f:α→β) (p:Nat) (x:α) (l:List α):(ins p x l).map f=ins p (f x) (l.map f):=by
 unfold ins;rw [List.map_append,List.map_cons,List.map_take,List.map_drop]
theorem ins_perm (p:Nat) (x:α) (l:List α):(ins p x l).Perm (x::l):=List.perm_middle.trans (by rw [List.take_append_drop])
theorem insertAt_list (xs:Array α) (p:Nat) (x:α):(SetTable.insertAt xs p x).toList=ins p x xs.toList:=by
 unfold SetTable.insertAt ins
 rw [Array.toList_append,Array.toList_push,Array.toList_extract,Array.toList_extract]
 simp only [List.extract_eq_take_drop,Nat.sub_zero,List.drop_zero,List.append_assoc,List.singleton_append]
 rw [List.take_of_length_le (l:=List.drop p xs.toList) (by simp)]
end
section
variable {w:World} {en:List Ent} {t:SetTable} {c:CV} {x:Value} {m:Nat} {pl:Bool}
theorem pass_in {y:Nat} (h:Pass en c y):y∈en.map (·.1):=(by obtain ⟨i,e,h1,h2,ξ⟩:=h;exact List.mem_map.mpr ⟨e,List.mem_of_getElem? h1,h2⟩)
structure Ends (w:World) (en:List Ent) (c:CV) (m:Nat):Prop where
 free:plc w c m∉en.map (·.1)
 pass:∀q,q<m→Pass en c (plc w c q)
abbrev enP (w:World) (en:List Ent) (c:CV) (m:Nat) (x:Value):List Ent:=ins (putP (en.map (·.1)) (plc w c m)) (plc w c m,c,x) en
theorem SetPu.absent (S:SetPu w en t) (Z:Ends w en c m):c∉en.map (·.2.1):=fun hc=>by
 obtain ⟨e,he,q⟩:=List.mem_map.mp hc
 obtain ⟨r,h1,h2⟩:=S.reach e he
 rw [q] at h1 h2
 rcases Nat.lt_trichotomy r m with l | l | l
 ·obtain ⟨i,e',h3,h4,h5⟩:=Z.pass r l
  obtain ⟨k,hk⟩:=List.mem_iff_getElem?.mp he
  have e1:(en.map (·.1))[i]?=some e.1:=by rw [List.getElem?_map,h3];exact congrArg some (h4.trans h1)
  have e2:(en.map (·.1))[k]?=some e.1:=by rw [List.getElem?_map,hk];rfl
  rw [(List.getElem?_inj (List.getElem?_eq_some_iff.mp e1).1 (tabs_nodup S.tab.mem)).mp (e1.trans e2.symm),hk] at h3
  exact h5 (Option.some.inj h3▸q)
 ·exact Z.free (l▸h1▸List.mem_map.mpr ⟨e,he,rfl⟩)
 ·exact Z.free (h2 m l)
theorem SetPu.put (S:SetPu w en t) (Z:Ends w en c m) (room:en.length<4):SetPu w (enP w en c m x) { (t.put (plc w c m)).1 with plain:=pl }:=by
 have h2:=put_ok S.tab.mem (by rw [List.length_map];exact room) (sq_lt m (st0_lt _)) Z.free
 rw [insertAt_list] at h2
 refine ⟨⟨S.tab.mask,?_,?_,by rw [ins_map];exact h2⟩,?_,fun e he=>?_,S.led⟩
 ·show SetTable.insertAt t.place (SetTable.below t.place _) _=_
  rw [S.tab.place,ins_map]
  exact Array.toList_inj.mp (insertAt_list ..)
 ·show (if SetTable.has t.dummies _=true then _ else t.dummies)=#[]
  rw [S.tab.dum]
  simp [SetTable.has]
 ·rw [ins_map]
  exact ((ins_perm _ _ _).nodup_iff).mpr (List.nodup_cons.mpr ⟨S.absent Z,S.nd⟩)
 ·have sub:∀y,y∈en.map (·.1)→y∈(enP w en c m x).map (·.1):=fun y my=>by
   rw [ins_map];exact (ins_perm _ _ _).mem_iff.mpr (.tail _ my)
  rcases List.mem_cons.mp ((ins_perm _ _ _).mem_iff.mp he) with e | he
  ·rw [e];exact ⟨m,rfl,fun q lq=>sub _ (pass_in (Z.pass q lq))⟩
  ·obtain ⟨r,a,b⟩:=S.reach e he
   exact ⟨r,a,fun q lq=>sub _ (b q lq)⟩
variable {X:List Addr} {μ:Mu} {A:Around} {E:Value→Shared→Prop} {s:Shared} {a:Addr} {ep:Nat}
structure SetC (w:World) (X:List Addr) (μ:Mu) (h:Heap) (a:Addr) (en:List Ent) (t:SetTable) (ep:Nat):Prop where
 g:h.get? a=some (setO w en t ep)
 S:SetPu w en t
 vs:∀e:Ent,e∈en→VR w X μ h e.2.1 e.2.2
theorem SetC.same (C:SetC w X μ s.heap a en t ep) (hc:c∈en.map (·.2.1)):Added w X μ a s c en s.heap en t ep:=⟨.refl _ _,C.g,C.S,C.vs,fun x=>⟨.inr,fun h=>h.elim (fun q=>q▸hc) id⟩⟩
theorem SetC.insEq (C:SetC w X μ s.heap a en t ep):SetTable.insertAt (entP w en) (t.put (plc w c m)).2 (hashCV w c,x)=entP w (enP w en c m x):=by
 show SetTable.insertAt (entP w en) (SetTable.below t.place _) _=_
 unfold entP
 rw [C.S.tab.place,ins_map]
 exact Array.toList_inj.mp (insertAt_list ..)
theorem SetC.l4 (C:SetC w X μ s.heap a en t ep):en.length≤4:=List.length_map (as:=en) (·.1)▸tabs_len C.S.tab.mem
theorem SetC.store (C:SetC w X μ s.heap a en t ep) (rc:VR w X μ s.heap c x) (room:en.length<4) (Z:Ends w en c m) {Q:Unit→Shared→Prop} (hQ:∀h' en' t' ep',Added w X μ a s c en h' en' t' ep'→Q () { s with heap:=h' }) :
  wpAny (model pw w) A (storeSet a (entP w (enP w en c m x)) { (t.put (plc w c m)).1 with plain:=pl }) Q E s:=by
 have pm:=ins_perm (putP (en.map (·.1)) (plc w c m)) (plc w c m,c,x) en
 refine wpAny_storeSet_of C.g rfl (hQ _ _ _ (ep+1) ⟨Heap.SameBut.update ..,Heap.get?_update_self (Obj.putSet _ _) C.g rfl,C.S.put Z room,fun e me=>?_,fun y=>by rw [(pm.map (·.2.1)).mem_iff,List.map_cons,List.mem_cons]⟩) ?_
 ·exact (List.mem_cons.mp (pm.mem_iff.mp me)).elim (fun q=>by rw [q];exact rc) (C.vs e)
 ·show (List.map _ _).toArray.size≤sizeLine
  rw [List.size_toArray,List.length_map,pm.length_eq]
  exact Nat.le_trans room (by decide)
theorem put_plain {j:Nat} {b:Bool}:(if b=true then (t.put j).1 else { (t.put j).1 with plain:=false })={ (t.put j).1 with plain:=(if b=true then (t.put j).1.plain else false) }:=by
 cases b<;>rfl
theorem SetC.addT (C:SetC w X μ s.heap a en t ep) (tk:∀e:Ent,e∈en→isTK e.2.1=true) (rc:VR w X μ s.heap c x) (hc:isTK c=true) (hu:A.units<cLine) (room:c∉en.map (·.2.1)→en.length<4) {Q:Bool→Shared→Prop}
  (hQ:∀b h' en' t' ep',Added w X μ a s c en h' en' t' ep'→Q b { s with heap:=h' }):wpAny (model pw w) A (setAddHashed a x (hashCV w c)) Q E s:=by
 refine isTK_dec hc rc fun ks b ec ev hk=>?_
 unfold setAddHashed setAddHashedIn
 refine wpAny_holding (wpAny_bind (set_state C.g C.S.tab ?_))
 dsimp only
 rw [show byScan x (entP w en)=false by rw [ev];rfl]
 rw [if_neg Bool.false_ne_true]
 refine free_some C.S.tab.mem (hashCV w c) fun n hn1 hn2=>?_
 unfold setSearch
 refine wpAny_bind (search_cv C.g C.S.tab (fun e he=>⟨C.vs e he,tk e he⟩) rc hc hu (fun hin=>wpAny_pure (hQ false s.heap _ _ _ (C.same hin))) (fun m hm hp=>?_) n 100000 0 none (Nat.lt_of_le_of_lt hn1 (by decide)) hn1 (by rw [Nat.zero_add];exact hn2) (C.S.tab.start _) (fun q lq=>absurd lq (Nat.not_lt_zero _)))
 have Z:Ends w en c m:=⟨hm,hp⟩
 have rm:=room (C.S.absent Z)
 dsimp only
 refine wpAny_bind (set_state C.g C.S.tab ?_)
 dsimp only
 have fin:∀bv:Bool,wpAny (model pw w) A (do
   storeSet a (SetTable.insertAt (entP w en) (t.put (plc w c m)).2 (hashCV w c,x)) (if bv=true then (t.put (plc w c m)).1 else { (t.put (plc w c m)).1 with plain:=false })
   if (!false&&(if bv=true then (t.put (plc w c m)).1 else { (t.put (plc w c m)).1 with plain:=false }).tooFull)=true then setRelay a (SetTable.grown ((entP w en).size+1))
   return true) Q E s:=fun bv=>by
  rw [put_plain,C.insEq,(C.S.put (x:=x) (pl:=(if bv=true then (t.put (plc w c m)).1.plain else false)) Z rm).tab.roomy]
  exact wpAny_bind (C.store rc rm Z fun h' ξ ξ ξ ha=>wpAny_pure (hQ true h' _ _ _ ha))
 cases hpl:(t.put (plc w c m)).1.plain with
 | true=>
  refine wpAny_bind ?_
  rw [ev] at fin⊢
  exact byval_tuple hk fin
 | false=>exact wpAny_bind (wpAny_pure (fin true))
theorem SetC.addI (C:SetC w X μ s.heap a en t ep) (ik:∀e:Ent,e∈en→isInt e.2.1=true) {i:Int} (rc:VR w X μ s.heap (.int i) x) (room:.int i∉en.map (·.2.1)→en.length<4) {Q:Bool→Shared→Prop}
  (hQ:∀b h' en' t' ep',Added w X μ a s (.int i) en h' en' t' ep'→Q b { s with heap:=h' }):wpAny (model pw w) A (setAddHashed a x (hashCV w (.int i))) Q E s:=by
 have hkey:(atomKind pw w).is (.inl i) x=true:=VR.atom (a:=.inl i).mp rc
 have key:∀e∈en,∃j,e.2.1 = .int j∧(atomKind pw w).is (.inl j) e.2.2=true:=fun e he=>by
  have r:=C.vs e he
  have k:=ik e he
  cases h:e.2.1 with
  | int j=>rw [h] at r;exact ⟨j,rfl,VR.atom (a:=.inl j).mp r⟩
  | _=>rw [h] at k;cases k
 obtain ⟨tk,ex⟩:=id rc
 have elems:ElemsOf (atomKind pw w) (entP w en).toList:=fun p hp=>by
  obtain ⟨e,he,q⟩:=List.mem_map.mp hp
  obtain ⟨j,e1,e2⟩:=key e he
  have r:=C.vs e he
  rw [e1] at r
  obtain ⟨tj,ev⟩:=r
  rw [← q]
  exact ⟨⟨.inl j,e2,by rw [e1];rfl⟩,by rw [show e.2.2=_ from ev];rfl⟩
 have hsz:(entP w en).size=en.length:=by simp
 unfold setAddHashed setAddHashedIn
 refine wpAny_holding (wpAny_bind (set_state C.g C.S.tab ?_))
 dsimp only
 rw [byScan_of (knd:=atomKind pw w) (by rw [ex];rfl) (by rw [hsz];exact Nat.lt_of_le_of_lt C.l4 (by decide)) elems]
 rw [if_pos rfl]
 unfold setAddByScan
 refine wpAny_bind (wpAny_bind (wpAny_rule (wpAny_bind (wpAny_setScan_of (knd:=atomKind pw w) (k:=.inl i) hkey C.g rfl (C.S.tab.fits (by simp)) elems ?_))))
 cases hr:List.findIdx? (fun e=>(atomKind pw w).is (.inl i) e.2) (entP w en).toList with
 | some k=>
  refine wpAny_pure (wpAny_pure (hQ false s.heap _ _ _ (C.same ?_)))
  obtain ⟨hj,hpj,ξ⟩:=List.findIdx?_eq_some_iff_getElem.mp hr
  obtain ⟨e,he,q⟩:=List.mem_map.mp (List.getElem_mem hj)
  obtain ⟨j,e1,e2⟩:=key e he
  rw [← q] at hpj
  exact List.mem_map.mpr ⟨e,he,e1.trans (congrArg CV.int (Sum.inl.inj ((atomKind pw w).inj _ _ _ e2 hpj)))⟩
 | none=>
  dsimp only
  have hnc:CV.int i∉en.map (·.2.1):=fun hm=>by
   obtain ⟨e,he,q⟩:=List.mem_map.mp hm
   have:=List.findIdx?_eq_none_iff.mp hr (hashCV w e.2.1,e.2.2) (List.mem_map.mpr ⟨e,he,rfl⟩)
   have r:=C.vs e he
   rw [q] at r
   exact Bool.false_ne_true (this.symm.trans (VR.atom (a:=.inl i).mp r))
  refine free_some C.S.tab.mem (hashCV w (.int i)) fun n hn1 hn2=>?_
  obtain ⟨m,lm,pass,res⟩:=go_spec C.S.tab (fun ξ=>hashCV w (.int i)+1) (hashCV w (.int i)) n 220 (st0 (hashCV w (.int i))) (Nat.lt_of_le_of_lt hn1 (by decide)) (st0_lt _) hn2
  have probe_eq:=T_probe C.S.tab (fun ξ=>hashCV w (.int i)+1) (hashCV w (.int i)) (t.probeStart (hashCV w (.int i)))
  rw [C.S.tab.start] at probe_eq
  rcases res with ⟨eg,ne⟩ | ⟨k,_,_,hh,_⟩
  ·have Z:Ends w en (.int i) m:=⟨ne,fun q lq=>by
    obtain ⟨k,h1,ξ⟩:=pass q lq
    exact snd_at h1 fun e he h1=>⟨k,e,he,h1,fun z=>hnc (List.mem_map.mpr ⟨e,List.mem_of_getElem? he,z⟩)⟩⟩
   have rm:=room hnc
   have S':=C.S.put (x:=x) (pl:=(t.put (plc w (.int i) m)).1.plain) Z rm
   have hlay:layNew t (entP w en) (hashCV w (.int i)) x=(entP w (enP w en (.int i) m x),(t.put (plc w (.int i) m)).1,false,false):=by
    unfold layNew
    rw [show t.freeSlot (hashCV w (.int i))=some (plc w (.int i) m,false) by unfold SetTable.freeSlot;rw [C.S.tab.start,probe_eq,eg];rfl]
    dsimp only
    unfold SetTable.orStandIn
    rw [C.insEq,show (t.put (plc w (.int i) m)).1.fits (entP w (enP w en (.int i) m x)).size=true from S'.tab.fits (by simp)];rfl
   have stp:wpAny (model pw w) A (storeSet a (entP w (enP w en (.int i) m x)) (t.put (plc w (.int i) m)).1) (fun ξ s'=>Q true s') E s:=C.store (pl:=(t.put (plc w (.int i) m)).1.plain) rc rm Z fun h' ξ ξ ξ ha=>hQ true h' _ _ _ ha
   rw [hlay,show hashByValue 8 x=pure true by rw [ex];exact hashByValue_scannable 8 rfl]
   dsimp only
   have S':(t.put (plc w (.int i) m)).1.tooFull=false:=S'.tab.roomy
   refine wpAny_bind (wpAny_pure (wpAny_ite_split (fun ξ=>?_) fun ξ=>?_))
   all_goals
    refine wpAny_bind (wpAny_pure ?_)
    rw [if_pos rfl,S',Bool.and_false,if_neg Bool.false_ne_true]
    exact wpAny_bind (wpAny_mono stp (fun ξ ξ h=>wpAny_pure (wpAny_pure h)) fun ξ ξ h=>h)
  ·exact absurd (show hashCV w (.int i)+1=hashCV w (.int i) from hh) (by lia)
end
structure SetL (l:List CV):Prop where
 kind:(∀c∈l,∃i,c = .int i)∨∀c∈l,isTK c=true
 few:∀m:List CV,m.Nodup→(∀x∈m,x∈l)→m.length≤4
structure SetJ (g:Gx) (h₀:Heap) (X:List Addr) (σ:CSt) (Ys:List Addr) (I:List Addr→Mu→Heap→Nat→Prop) (D:Addr) (l:List CV) (μ:Mu) (h:Heap) (i:Nat) (en:List Ent) (t:SetTable) (ep:Nat):Prop where
 k:∀b o,b≠D→b∉Ys→h₀.get? b=some o→h.get? b=some o
 R:Rel g.w g.base X μ σ h
 I:I X μ h i
 C:SetC g.w X μ h D en t ep
 keys:∀x,x∈en.map (·.2.1)↔x∈l.take i
section
variable {g:Gx} {A:Around} {d:Nat} {X Z:List Addr} {μ:Mu} {σ:CSt} {s:Shared} {E:Value→Shared→Prop} {it:Value} {Ys:List Addr} {l:List CV} {so:Option (Nat×CObj)} {I:List Addr→Mu→Heap→Nat→Prop} {D:Addr} {h₀:Heap} {en:List Ent} {t:SetTable} {ep:Nat} {c:CV} {x:Value}
theorem SetC.add (C:SetC g.w X μ s.heap D en t ep) (hu:A.units<cLine) (L:SetL l) (sub:∀x,x∈en.map (·.2.1)→x∈l) (hc:c∈l) (rc:VR g.w X μ s.heap c x) {Q:Bool→Shared→Prop}
  (hQ:∀b h' tk en' t' ep',Added g.w X μ D s c en h' en' t' ep'→Q b { s with heap:=h',toks:=tk }):wpAny (model pw g.w) A (setAdd D x) Q E s:=by
 have room:c∉en.map (·.2.1)→en.length<4:=fun nc=>List.length_map (as:=en) (·.2.1)▸L.few _ (List.nodup_cons.mpr ⟨nc,C.S.nd⟩) fun y my=>(List.mem_cons.mp my).elim (fun q=>q▸hc) (sub y)
 unfold setAdd
 rcases L.kind with kl | kl
 ·obtain ⟨i,e⟩:=kl c hc
  rw [e] at rc room hQ
  refine wpAny_holding (wpAny_bind (pyHash_cv hu rc rfl fun tk=>SetC.addI (s:={ s with toks:=tk }) ⟨C.g,C.S,C.vs⟩ (fun e me=>?_) rc room fun b h' ξ ξ ξ ha=>hQ b h' tk _ _ _ ⟨ha.hs,ha.at_,ha.S,ha.vs,ha.keys⟩))
  obtain ⟨i,e⟩:=kl _ (sub _ (List.mem_map.mpr ⟨e,me,rfl⟩))
  rw [e];rfl
 ·have kc:=kl c hc
  have ko:keyOk c=true:=by cases c<;>first | exact kc | cases kc
  exact wpAny_holding (wpAny_bind (pyHash_cv hu rc ko fun tk=>SetC.addT (s:={ s with toks:=tk }) ⟨C.g,C.S,C.vs⟩ (fun e me=>kl _ (sub _ (List.mem_map.mpr ⟨e,me,rfl⟩))) rc kc hu room fun b h' ξ ξ ξ ha=>hQ b h' tk _ _ _ ⟨ha.hs,ha.at_,ha.S,ha.vs,ha.keys⟩))
theorem SetC.mono {h h':Heap} {X':List Addr} {μ':Mu} (C:SetC g.w X μ h D en t ep) (kp:Kp X μ h X' μ' h') (k:∀o,h.get? D=some o→h'.get? D=some o):SetC g.w X' μ' h' D en t ep:=⟨k _ C.g,C.S,fun e m=>VR.mono kp _ (C.vs e m)⟩
theorem set_loop {RR:Result→Shared→Prop} (W:Loopy g d nmT Ys it l so I) (O:A.handled=none) (hu:A.in1.units<cLine) (L:SetL l) (YX:∀b∈Ys,b∈X) (DY:D∉Ys) (DX:D∈X) (ZX:∀b∈Z,b∈X) (hs:srcP σ so)
  (K:∀h' tk en t ep,(∀b o,b≠D→b∉Ys→h₀.get? b=some o→h'.get? b=some o)→SetC g.w Z μ h' D en t ep→(∀x,x∈en.map (·.2.1)↔x∈l)→RR (.ok (.ret .none)) { s with heap:=h',toks:=tk }) :
  ∀(n i:Nat) {h:Heap} {tk:Nat} {en:List Ent} {t:SetTable} {ep:Nat},i+n=l.length→SetJ g h₀ X σ Ys I D l μ h i en t ep→codeAny (model pw g.w) A (.builtin "set.update.loop" ⟨[.ref D,it],[]⟩) RR { s with heap:=h,toks:=tk }:=by
 intro l7
 induction l7 with
 | zero=>
  intro i h tk en t ep hn J
  refine codeAny_builtin PyProof.Rows.F.entry_set_update_loop ?_
  rw [Around.under_plainId PyProof.Rows.F.plain_set_update_loop _]
  have hn:i=l.length:=hn
  exact W.fin (s:={ s with heap:=h,toks:=tk }) O J.R YX hs (hn▸J.I) fun h' tk' k=>wpAny_pure (K _ _ _ _ _ (fun b o n1 n2 e=>k b o n2 (J.k b o n1 n2 e)) (J.C.mono ⟨fun ξ ξ e=>e,fun b o e nf nx=>⟨k b o (fun m=>nx (YX b m)) e,nf,fun m=>nx (ZX b m)⟩⟩ fun o e=>k D o DY e) fun x=>by rw [J.keys,hn,List.take_length])
 | succ n ih=>
  intro i h tk en t ep hn J
  have lt:i<l.length:=by lia
  have hc:l[i]?=some l[i]:=List.getElem?_eq_getElem lt
  refine codeAny_builtin PyProof.Rows.F.entry_set_update_loop ?_
  rw [Around.under_plainId PyProof.Rows.F.plain_set_update_loop _]
  refine W.draw (s:={ s with heap:=h,toks:=tk }) O J.R YX hs J.I hc fun v h' tk' k rv hI=>?_
  have lv:=W.live hI
  have kX:∀b o,h.get? b=some o→b∉X→h'.get? b=some o:=fun b o e nx=>k b o (fun m=>nx (YX b m)) e
  have R':Rel g.w g.base X μ σ h':=J.R.keepX kX fun b m=>if q:b∈Ys then lv b q else (by obtain ⟨o,e⟩:=J.R.insideX b m;exact ⟨o,k b o q e⟩)
  have C':=J.C.mono (J.R.kpX kX) fun o e=>k D o DY e
  refine wpAny_bind (m:=holding _ _) (wpAny_holding (SetC.add (s:={ s with heap:=h',toks:=tk' }) C' hu L (fun x m=>List.mem_of_mem_take ((J.keys x).mp m)) (List.getElem_mem lt) rv fun b h'' tk'' en' t' ep' ha=>?_))
  have k2:∀b o,h'.get? b=some o→b∉X→h''.get? b=some o:=fun b o e nx=>ha.hs.extBut b o (fun q=>nx (q▸DX)) e
  have kp2:=R'.kpX k2
  exact wpAny_pure ⟨plainId_quiet PyProof.Rows.F.plain_set_update_loop _,ih (i+1) (by lia) ⟨fun b o n1 n2 e=>ha.hs.extBut b o n1 (k b o n2 (J.k b o n1 n2 e)),R'.keepX k2 fun b m=>if q:b=D then ⟨_,(congrArg _ q).trans ha.at_⟩ else (by obtain ⟨o,e⟩:=R'.insideX b m;exact ⟨o,ha.hs.extBut b o q e⟩),W.keep hI kp2 fun b m o e=>ha.hs.extBut b o (fun q=>DY (q▸m)) e,⟨ha.at_,ha.S,fun e m=>VR.mono kp2 _ (ha.vs e m)⟩,fun x=>by
   rw [ha.keys,List.take_add_one,hc,List.mem_append,J.keys]
   exact Or.comm.trans (or_congr Iff.rfl (List.mem_singleton (b:=l[i])).symm)⟩⟩
abbrev set0 (w:World):Obj:=setO w [] (.fresh 0 0 (!(w.params.followText "set-order"))) 0
theorem setPu0 (w:World):SetPu w [] (.fresh 0 0 (!(w.params.followText "set-order"))):=⟨⟨rfl,rfl,rfl,0,rfl,rfl⟩,.nil,(fun ξ m=>nomatch m),rfl⟩
theorem set_new (v:Value) {Q₁:Value→Shared→Prop} (h:Q₁ (.ref s.heap.objs.size) { s with heap:=s.heap.push (set0 g.w) }) :
  codeAny (model pw g.w) A (.call (.builtin "set.__new__") ⟨[.type "set",v],[]⟩) (wants Q₁ E) s:=by
 refine codeAny_of_tree ?_
 show wpAny _ A.in1 (do checkBuiltinCall "set.__new__" ⟨[.type "set",v],[]⟩;again (.builtin "set.__new__" ⟨[.type "set",v],[]⟩)) _ _ s
 refine wpAny_bind (wpAny_of_eq (PySem.F.newCall_set_1 v) (wpAny_pure ⟨plainId_quiet PySem.F.plain_set_new _,codeAny_builtin PySem.F.entry_set_new ?_⟩))
 rw [Around.under_plainId PySem.F.plain_set_new _]
 unfold Builtin.«set.__new__» Builtin.Frozenset.newClass
 have hsub:=PySem.sub_set_self
 obtain ⟨hp,g,d,tk,os⟩:=s
 dsimp only
 wp_walk
 exact wpAny_askSetting (wpAny_pure (wpAny_bind (wpAny_alloc (wpAny_pure (wpAny_pure h)))))
end
section
variable {g:Gx} {A:Around} {d:Nat} {X:List Addr} {μ:Mu} {σ:CSt} {s:Shared} {E:Value→Shared→Prop} {l:List CV}
structure SetH (g:Gx) (X:List Addr) (μ:Mu) (s:Shared) (σ:CSt) (l:List CV) (s':Shared) (D:Addr) (en:List Ent) (t:SetTable) (ep:Nat):Prop where
 n:Nx g X μ s σ s' μ
 C:SetC g.w X μ s'.heap D en t ep
 keys:∀x,x∈en.map (·.2.1)↔x∈l
 nf:¬foot μ D
 nx:D∉X
set_option maxHeartbeats 3200000 in
theorem call_set {u:Value} (O:OkA A d) (R:Rel g.w g.base X μ σ s.heap) (r:VR g.w X μ s.heap (.lst l) u) (L:SetL l) {Q:Value→Shared→Prop} (hQ:∀s' en t ep D,SetH g X μ s σ l s' D en t ep→Q (.ref D) s') :
  wpAny (model pw g.w) A (call (.type "set") [u]) Q E s:=by
 obtain ⟨a,xs,n,e,gl,ξ⟩:=id r
 rw [e] at r⊢
 obtain ⟨ct,tl,hmro⟩:=PySem.F.called_set.mro
 have hmade:=PySem.F.called_set.made
 have hsub:=PySem.F.called_set.sub
 refine wpAny_call (codeAny_of_tree ?_)
 show wpAny _ _ (callAny (.type "set") _) _ _ _
 refine wpAny_pure ⟨Code.quiet_builtin _ (by decide +kernel),codeAny_builtin PySem.F.entry_type_call ?_⟩
 rw [Around.under_plain (weight_type_call_type "set" [.ref a] []) rfl]
 have h1:=PySem.F.called_set.notType
 have h2:=PySem.F.called_set.canCreate
 have hct:=PySem.F.typeCall_set_1 (.ref a)
 repeat (any_goals (first | assumption | wp_step))
 refine codeAny_mono (set_new (g:=g) (.ref a) (E:=E) (Q₁:=fun obj s₁=>obj = .ref s.heap.objs.size∧s₁={ s with heap:=s.heap.push (set0 g.w) }) ⟨rfl,rfl⟩) fun r₁ s₁ hr=>?_
 cases r₁ with
 | error e=>exact hr
 | ok fl=>
  cases fl with
  | ret obj=>
   obtain ⟨rfl,rfl⟩:=hr
   have hS:(s.heap.push (set0 g.w)).get? s.heap.objs.size=some (set0 g.w):=Heap.get?_push_size _ rfl
   have hT:Shared.TypeIs { s with heap:=s.heap.push (set0 g.w) } (.ref s.heap.objs.size) "set":=⟨_,hS,rfl⟩
   have hli:=PySem.F.called_set.init.lookup
   have hbi:=PySem.F.called_set.init.bind (.ref s.heap.objs.size)
   repeat (any_goals (first | assumption | wp_step))
   refine codeAny_mono (codeAny_call_builtin (R:=wants (fun r s₂=>r = .none∧Q (.ref s.heap.objs.size) s₂) E) PySem.F.called_set.init.plain PySem.F.entry_set_init (check_set_init_1 hT ?_)) fun r₂ s₂ hr₂=>?_
   ·have gl':(s.heap.push (set0 g.w)).get? a=some (lstO xs n):=push_up gl
    have hsls:=PySem.F.sub_list_set
    have hslf:=PySem.F.sub_list_frozenset
    have hne:(Value.type "list"==Value.type "dict")=false:=by decide
    have hl1:(s.heap.push (set0 g.w)).IsList a xs:=⟨_,gl',rfl,n,rfl⟩
    unfold Builtin.«set.__init__» noKeywords Builtin.Frozenset.updateFrom
    generalize hPI:pyIter=PI
    wp_walk
    rw [← hPI]
    have fr:=size1 (s:=s) (o:=set0 g.w) rfl
    refine WalkD.lst.go (d:=d) (target:=nmT) (s:={ s with heap:=s.heap.push (set0 g.w) }) (R.more (fun b o e=>push_up e) fr) (VR.more (fun b o e=>push_up e) (fun b m=>(fr b m).1) r) fun it s' Ys I M=>wpAny_bind (wpAny_runValue ?_)
    have DX:=(R.fresh (get_size s.heap)).2
    have DY:s.heap.objs.size∉Ys:=fun m=>not_none hS (M.fr _ m)
    have gD:s'.heap.get? s.heap.objs.size=some (set0 g.w):=M.st.keep _ _ hS (R.fresh (get_size _)).1 (by simp)
    refine set_loop (A:=A.in1.in1) (s:=s') (Z:=X) (h₀:=s'.heap) M.W O.handled (by have:=O.units;show A.units+1+1+1<cLine;lia) L (fun b m=>List.mem_append_left _ m) DY (List.mem_append_right _ (.head _)) (fun b m=>List.mem_append_right _ (.tail _ m)) trivial (fun h' tk en t ep hk C hm=>?_) l.length 0 (Nat.zero_add _) ⟨fun ξ ξ ξ ξ e=>e,M.R,M.I0,⟨gD,setPu0 g.w,fun ξ m=>nomatch m⟩,fun x=>by simp⟩
    have ZX:∀b∈X,b∈Ys++s.heap.objs.size::X:=fun b m=>List.mem_append_right _ (.tail _ m)
    have DF:=R.fresh (get_size s.heap)
    refine wpAny_pure (wpAny_pure ⟨rfl,hQ { s' with heap:=h',toks:=tk } en t ep _ ⟨⟨?_,?_⟩,C,hm,DF.1,DF.2⟩⟩)
    ·exact ((St.of_keeps (s:=s) (tk:=s.toks) fun b o e=>push_up e).trans0 M.st).off (Ys:=s.heap.objs.size::Ys) (fun b m=>(List.mem_cons.mp m).elim (fun q=>q▸get_size _) fun m=>none_of (fun o e=>⟨o,push_up e⟩) (M.fr b m)) fun b o nb e=>hk b o (fun q=>nb (q▸.head _)) (fun m=>nb (.tail _ m)) e
    ·exact M.R.drop (fun b o e nb=>hk b o (fun q=>nb (q▸List.mem_append_right _ (.head _))) (fun m=>nb (List.mem_append_left _ m)) e) ZX fun b m=>(by obtain ⟨o,e⟩:=M.R.insideX b (ZX b m);exact ⟨o,hk b o (fun q=>DF.2 (q▸m)) (fun my=>(by obtain ⟨o,e⟩:=R.insideX b m;exact not_none (push_up e) (M.fr b my))) e⟩)
   ·cases r₂ with
    | error e=>exact hr₂
    | ok fl₂=>
     cases fl₂ with
     | ret r=>
      obtain ⟨rfl,hq⟩:=hr₂
      repeat (any_goals (first | assumption | wp_step))
     | _=>exact hr₂.elim
  | _=>exact hr.elim
end
theorem slot_si_next:Slot "set_iterator" "__next__" "set_iterator.__next__":=
 .of (owner:="set_iterator") (n:="__next__") (by rw [typeLookup_type,builtinLookup_eq_fast];kernel_rfl) (by decide +kernel) (by decide +kernel) (by decide +kernel)
  (by first | exact .inl (by decide +kernel) | exact .inr (by decide +kernel)) (by rw [isSubtype_type];kernel_rfl)
theorem entry_si_next:entryFor table "set_iterator.__next__"=some Builtin.«set_iterator.__next__»:=entryFor_of_tree (by kernel_rfl)
theorem args_si_next (a:Value):argsOk "set_iterator.__next__" ⟨[a],[]⟩:=by unfold argsOk;kernel_rfl
theorem entry_set_iter:entryFor table "set.__iter__"=some Builtin.«frozenset.__iter__»:=entryFor_alias (id':="frozenset.__iter__") (by kernel_rfl) (by first | rfl | decide +kernel) (by decide +kernel) (by kernel_rfl)
theorem set_len_lookup:typeLookup (.type "set") "__len__"=pure (some (.builtin "set.__len__")):=by rw [typeLookup_type,builtinLookup_eq_fast];kernel_rfl
theorem hint_set {w:World} {A:Around} {E:Value→Shared→Prop} {s:Shared} {r:Addr} (hT:s.TypeIs (.ref r) "set") {Q:Bool→Shared→Prop} (h:Q false s):wpAny (model pw w) A (Builtin.List.listLengthHint (.ref r)) Q E s:=by
 unfold Builtin.List.listLengthHint
 refine wpAny_bind (wpAny_specialOf hT set_len_lookup ?_)
 generalize hid:("set.__len__":String)=id0
 wp_delta
 rw [show splitId id0=some ("set","__len__") from by subst hid;decide +kernel]
 rw [← hid]
 exact wpAny_bind (wpAny_isInstance (T:="set") (b:=true) hT (by rw [isSubtype_type];kernel_rfl) (wpAny_ite_split (fun hab=>absurd hab (by decide)) (fun ξ=>wpAny_ite_split (fun ξ=>wpAny_bind (wpAny_typeOf hT (wpAny_pure h))) (fun hab=>absurd (by decide +kernel) hab))))
section
variable {α β:Type}
theorem perm_inv {f:α→β} {l m:List β} (h:l.Perm m):∀{x:List α},m=x.map f→∃y:List α,l=y.map f∧y.Perm x:=by
 induction h with
 | nil=>exact fun e=>⟨[],rfl,by rw [List.map_eq_nil_iff.mp e.symm]⟩
 | cons a _ ih=>
  intro x e
  obtain ⟨b,z,e1,e2,e3⟩:=List.map_eq_cons_iff.mp e.symm
  obtain ⟨y,e4,p⟩:=ih e3.symm
  exact ⟨b::y,by rw [e4,List.map_cons,e2],e1▸p.cons b⟩
 | swap a b l=>
  intro x e
  obtain ⟨p,z,e1,e2,e3⟩:=List.map_eq_cons_iff.mp e.symm
  obtain ⟨q,y,e4,e5,e6⟩:=List.map_eq_cons_iff.mp e3
  exact ⟨q::p::y,by rw [List.map_cons,List.map_cons,e2,e5,e6],by rw [e1,e4];exact .swap ..⟩
 | trans _ _ ih1 ih2=>
  intro x e
  obtain ⟨y,e1,p⟩:=ih2 e
  obtain ⟨z,e2,q⟩:=ih1 e1
  exact ⟨z,e2,q.trans p⟩
theorem erase_perm:∀{l:List α} {i:Nat} (lt:i<l.length),(l[i]::l.eraseIdx i).Perm l:=by
 intro l6
 induction l6 with
 | nil=>
  intros;contradiction
 | cons x l ih=>
  intro l7
  cases l7 with
  | zero=>
   intro ξ
   exact .refl _
  | succ i=>
   intro lt
   exact (List.Perm.swap ..).trans ((ih (Nat.lt_of_succ_lt_succ lt)).cons x)
theorem pick_go (next:Nat→Nat):∀(fuel k:Nat) (left:List α) (out:Array α),left.length≤fuel→(pickOrder.go next fuel k left out).toList.Perm (out.toList++left):=by
 intro l1
 induction l1 with
 | zero=>
  intro k left out h
  rw [List.length_eq_zero_iff.mp (Nat.le_zero.mp h),List.append_nil];exact .refl _
 | succ fuel ih=>
  intro k left out h
  rw [pickOrder.go]
  cases hl:left[next k % left.length]? with
  | none=>
   cases left with
   | nil=>rw [List.append_nil]
   | cons x l=>exact absurd (List.getElem?_eq_none_iff.mp hl) (Nat.not_le.mpr (Nat.mod_lt _ (Nat.succ_pos _)))
  | some x=>
   obtain ⟨lt,hx⟩:=List.getElem?_eq_some_iff.mp hl
   refine (ih (k+1) (left.eraseIdx (next k % left.length)) (out.push x) (by rw [List.length_eraseIdx_of_lt lt];lia)).trans ?_
   rw [Array.toList_push,List.append_assoc,← hx]
   exact List.Perm.append_left _ (erase_perm lt)
theorem draw_perm {w:World} {A:Around} {E:Value→Shared→Prop}:∀(n:Nat) (xs:List α) {s:Shared} {Q:List α→Shared→Prop},xs.length≤n→(∀ys dr,ys.Perm xs→Q ys { s with drawn:=dr })→wpAny (model pw w) A (drawOrder n xs) Q E s:=by
 intro l2
 induction l2 with
 | zero=>
  intro xs s Q h hq
  rw [List.length_eq_zero_iff.mp (Nat.le_zero.mp h)] at hq⊢
  exact wpAny_pure (hq [] s.drawn .nil)
 | succ n ih=>
  intro l3
  cases l3 with
  | nil=>
   intro s Q h hq
   exact wpAny_pure (hq [] s.drawn .nil)
  | cons x l=>
   intro s Q h hq
   show wpAny _ _ (_ >>= _) _ _ _
   refine wpAny_bind ?_
   intro Γ p hΓ
   show PySem.Sem.wp _ _ (.choose .order (x::l).length .pure) _ _ _ _
   rw [PySem.Sem.wp_choose]
   refine ⟨Nat.succ_ne_zero _,?_⟩
   generalize hi:(model pw w).w.draws .order (s.drawn.get .order) % (x::l).length=i
   have lt:i<(x::l).length:=hi▸Nat.mod_lt _ (Nat.succ_pos _)
   have key:wpAny (model pw w) A (match (x::l)[i]? with | some x'=>(do return x'::(← drawOrder n ((x::l).eraseIdx i))) | none=>unsupported "internal:drawOrder") Q E { s with drawn:=s.drawn.bump .order }:=by
    rw [List.getElem?_eq_getElem lt]
    exact wpAny_bind (ih ((x::l).eraseIdx i) (by rw [List.length_eraseIdx_of_lt lt];exact Nat.le_of_succ_le_succ h) fun ys dr hp=>wpAny_pure (hq _ dr ((hp.cons _).trans (erase_perm lt))))
   rw [PySem.Sem.wp_pure]
   exact key
end
noncomputable def siO (first:Value) (i:Nat) (D n ep:Nat):Obj:={ cls:=.type "set_iterator",dict:=none,data:=.fields #[first,.int i 0,.ref D,.int n 0,.int ep 0],slots:=#[] }
noncomputable def slotOf (en:List Ent) (i:Nat):Nat:=if i=0 then 0 else (en.map (·.1)).getD (i - 1) 0+1
inductive SiF (w:World) (D:Addr) (en:List Ent) (t:SetTable) (ep:Nat) (ord:List Ent) (X:List Addr) (μ:Mu) (h:Heap) (i:Nat) (f:Value):Prop
 | text (e:f=rawInt 0) (ht:w.params.followText "set-order"=true) (ho:pickOrder (w.params.setOrder D ep) (entP w en)=entP w ord)
 | drawn (P:Addr) (idx:List Nat) (m:Nat) (e:f = .ref P) (hP:h.get? P=some (tupO (idx.map fun j=>rawInt (Int.ofNat j)).toArray m)) (nf:¬foot μ P) (nx:P∉X) (ho:idx.map (en[·]?)=ord.map some)
 | table (e:f=rawInt (Int.ofNat (slotOf en i))) (ht:w.params.followText "set-order"=false) (hd:(!t.plain&&decide ((entP w en).size > 1))=false) (ho:ord=en)
noncomputable def SiMode (w:World) (it D:Addr) (en:List Ent) (t:SetTable) (ep:Nat) (ord:List Ent) (X:List Addr) (μ:Mu) (h:Heap) (i:Nat):Prop:=∃f,h.get? it=some (siO f i D en.length ep)∧SiF w D en t ep ord X μ h i f
section
variable {w:World} {X:List Addr} {μ:Mu} {A:Around} {E:Value→Shared→Prop} {s:Shared} {it D:Addr} {en ord:List Ent} {t:SetTable} {ep i:Nat} {oe:Option Ent}
theorem by_text {Q:Bool→Shared→Prop} (h:Q (w.params.followText "set-order") s):wpAny (model pw w) A setsByText Q E s:=by
 unfold setsByText
 exact wpAny_bind (wpAny_askSetting (wpAny_pure h))
theorem si_next {Q:Option Value→Shared→Prop} (hh:A.handled=none) (M:SiMode w it D en t ep ord X μ s.heap i) (g:s.heap.get? D=some (setO w en t ep)) (S:SetPu w en t) (pm:ord.Perm en) (il:i≤ord.length) (iX:it∈X) (he:ord[i]?=oe)
  (hQ:∀e h',oe=some e→Heap.SameBut it s.heap h'→SiMode w it D en t ep ord X μ h' (i+1)→Q (some e.2.2) { s with heap:=h' })
  (hE:oe=none→∀h',(∀b o,b≠it→s.heap.get? b=some o→h'.get? b=some o)→Q none { s with heap:=h' }):wpAny (model pw w) A (pyNext (.ref it)) Q E s:=by
 obtain ⟨f,hf,M⟩:=M
 have hT:s.TypeIs (.ref it) "set_iterator":=⟨_,hf,rfl⟩
 unfold pyNext
 refine wpAny_bind (wpAny_attempt (wpAny_callSpecial?_slot (name:=Str.ofString "__next__") hT slot_si_next (wpAny_call_entry slot_si_next hT entry_si_next ?_ (args_si_next _))))
 have fin:∀{α:Type} {Q':α→Shared→Prop} (h₁:Heap),oe=none→Heap.SameBut it s.heap h₁→wpAny (model pw w) A.in1 Builtin.SmallTypes.stopIteration Q' (fun e s'=>wpAny (model pw w) A (match (Except.error e:Except Value (Option Value)) with
   | Except.ok (some v)=>pure (some v)
   | Except.ok none=>unsupported "iter:the-iterator's-class-has-lost-its-__next__-amid-the-walk"
   | Except.error e=>do
    let __do_lift ← isInstance e (Value.type "StopIteration")
    if __do_lift=true then pure none else throw e) Q E s') { s with heap:=h₁ }:=fun h₁ ho hs=>
  stop_iter (A:=A.in1) (s:={ s with heap:=h₁ }) hh fun h' e k n w1=>by obtain ⟨o,ho',hc⟩:=w1;exact wpAny_bind (wpAny_isInstance (T:="StopIteration") (b:=true) (s:={ s with heap:=h' }) ⟨o,ho',hc⟩ isSubtype_stop (wpAny_pure (hE ho h' fun b o nb e=>k b o (hs.extBut b o nb e))))
 have hz:(entP w en).size=en.length:=by simp
 refine wpAny_bind (wpAny_pure (wpAny_bind (wpAny_fieldsOf hf rfl ?_)))
 dsimp only
 refine wpAny_bind (m:=setEntries D) (wpAny_bind (set_state g S.tab (wpAny_pure ?_)))
 rw [if_neg (by rw [hz];simp)]
 cases M with
 | text e ht ho=>
  rw [e]
  show wpAny _ _ (setNext D 0 i ep >>= _) _ _ s
  refine wpAny_bind ?_
  refine wpAny_bind (set_state g S.tab (wpAny_bind (by_text ?_)))
  rw [ht]
  rw [if_pos rfl,bne_self_eq_false,if_neg Bool.false_ne_true]
  refine wpAny_bind ?_
  unfold setWalk
  refine wpAny_bind (set_state g S.tab (wpAny_bind (by_text ?_)))
  rw [ht]
  refine wpAny_bind (wpAny_askSetting (wpAny_pure (wpAny_pure ?_)))
  dsimp only
  rw [show (pickOrder ((model pw w).w.params.setOrder D ep) (entP w en))[i]?=oe.map fun e=>(hashCV w e.2.1,e.2.2) by
   show (pickOrder (w.params.setOrder D ep) (entP w en))[i]?=_
   rw [ho,List.getElem?_toArray,List.getElem?_map,he]]
  cases oe with
  | none=>exact wpAny_bind (wpAny_setField_rec hf (by simp [siO]) fun h₁ e₁ s₁=>fin h₁ rfl s₁)
  | some e'=>exact wpAny_bind (wpAny_setField_rec hf (by simp [siO]) fun h₁ e₁ s₁=>wpAny_bind (wpAny_setField_rec (s:={ s with heap:=h₁ }) e₁ (by simp [siO]) fun h₂ e₂ s₂=>wpAny_pure ⟨_,rfl,wpAny_pure (hQ e' h₂ rfl (s₁.trans s₂) ⟨rawInt 0,e₂,.text rfl ht ho⟩)⟩))
 | drawn P idx m e hP nf nx ho=>
  rw [e] at hf⊢
  have hi:idx[i]?.map (en[·]?)=oe.map some:=by rw [← List.getElem?_map,ho,List.getElem?_map,he]
  refine wpAny_bind (wpAny_seqItems hP rfl ?_)
  dsimp only
  rw [show (idx.map fun j=>rawInt (Int.ofNat j)).toArray[((i:Int)).toNat]?=idx[i]?.map fun j=>rawInt (Int.ofNat j) by rw [show ((i:Int)).toNat=i from rfl,List.getElem?_toArray,List.getElem?_map]]
  cases oe with
  | none=>
   rw [Option.map_eq_none_iff.mp hi]
   exact wpAny_bind (wpAny_setField_rec hf (by simp [siO]) fun h₁ e₁ s₁=>wpAny_bind (wpAny_setField_rec (s:={ s with heap:=h₁ }) e₁ (by simp [siO]) fun h₂ e₂ s₂=>fin h₂ rfl (s₁.trans s₂)))
  | some e'=>
   obtain ⟨j,hj,hej⟩:=Option.map_eq_some_iff.mp hi
   rw [hj]
   refine wpAny_bind (m:=setNextDrawn D j ep) ?_
   show wpAny _ _ (_ >>= _) _ _ _
   refine wpAny_bind (set_state g S.tab ?_)
   dsimp only
   rw [if_neg (by simp),ent_at hej]
   exact wpAny_pure (wpAny_bind (wpAny_setField_rec hf (by simp [siO]) fun h₂ e₂ s₂=>wpAny_pure ⟨_,rfl,wpAny_pure (hQ e' h₂ rfl s₂ ⟨.ref P,e₂,.drawn P idx m rfl (s₂.extBut _ _ (fun q=>nx (q▸iX)) hP) nf nx ho⟩)⟩))
 | table e ht hd ho=>
  rw [e]
  show wpAny _ _ (setNext D (slotOf en i) i ep >>= _) _ _ s
  refine wpAny_bind ?_
  refine wpAny_bind (set_state g S.tab (wpAny_bind (by_text ?_)))
  rw [ht]
  dsimp only
  show wpAny _ _ (if (!t.plain&&decide ((entP w en).size > 1))=true then _ else _) _ _ s
  rw [hd,if_neg Bool.false_ne_true]
  refine wpAny_bind ?_
  show wpAny _ _ (if (!t.led&&!(entP w en).isEmpty)=true then unsupported "set:maker-not-led" else pure ()) _ _ s
  rw [show t.led=true by rw [S.led,ht];rfl]
  refine wpAny_pure ?_
  rw [ho] at he il
  rw [show SetTable.below t.place (slotOf en i)=i by rw [S.tab.place];exact walk_at S.tab.mem (by rw [List.length_map];exact il),show (entP w en)[i]?=oe.map fun e=>(hashCV w e.2.1,e.2.2) by rw [List.getElem?_toArray,List.getElem?_map,he]]
  cases oe with
  | none=>exact wpAny_pure (wpAny_bind (wpAny_setField_rec hf (by simp [siO]) fun h₁ e₁ s₁=>fin h₁ rfl s₁))
  | some e'=>
   rw [show t.place[i]?=some e'.1 by rw [S.tab.place,List.getElem?_toArray,List.getElem?_map,he];rfl]
   have sl:slotOf en (i+1)=e'.1+1:=by
    unfold slotOf
    rw [if_neg (Nat.succ_ne_zero i),Nat.add_sub_cancel,List.getD_eq_getElem?_getD,List.getElem?_map,he];rfl
   exact wpAny_pure (wpAny_bind (wpAny_setField_rec hf (by simp [siO]) fun h₁ e₁ s₁=>wpAny_bind (wpAny_setField_rec (s:={ s with heap:=h₁ }) e₁ (by simp [siO]) fun h₂ e₂ s₂=>wpAny_pure ⟨_,rfl,wpAny_pure (hQ e' h₂ rfl (s₁.trans s₂) ⟨rawInt (Int.ofNat (e'.1+1)),e₂,.table (by rw [sl]) ht hd ho⟩)⟩)))
end
theorem slot_si_iter:Slot "set_iterator" "__iter__" "set_iterator.__iter__":=
 .of (owner:="set_iterator") (n:="__iter__") (by rw [typeLookup_type,builtinLookup_eq_fast];kernel_rfl) (by decide +kernel) (by decide +kernel) (by decide +kernel)
  (by first | exact .inl (by decide +kernel) | exact .inr (by decide +kernel)) (by rw [isSubtype_type];kernel_rfl)
theorem entry_si_iter:entryFor table "set_iterator.__iter__"=some Builtin.«dict_keyiterator.__iter__»:=entryFor_alias (id':="dict_keyiterator.__iter__") (by kernel_rfl) rfl (by decide +kernel) (by kernel_rfl)
theorem args_si_iter {a:Value}:argsOk "set_iterator.__iter__" ⟨[a],[]⟩:=by unfold argsOk;kernel_rfl
structure SiSt (w:World) (it D:Addr) (en:List Ent) (t:SetTable) (ep:Nat) (ord:List Ent) (X:List Addr) (μ:Mu) (h:Heap) (i:Nat):Prop where
 mode:SiMode w it D en t ep ord X μ h i
 C:SetC w X μ h D en t ep
 nf:¬foot μ D
 nx:D∉X
section
variable {g:Gx} {A:Around} {d:Nat} {X:List Addr} {μ:Mu} {σ σ₁:CSt} {s:Shared} {E:Value→Shared→Prop} {it D:Addr} {en ord:List Ent} {t:SetTable} {ep i:Nat} {l r:List CV}
theorem SiSt.keep {X':List Addr} {μ':Mu} {h h':Heap} (I:SiSt g.w it D en t ep ord X μ h i) (kp:Kp X μ h X' μ' h') (k:∀o,h.get? it=some o→h'.get? it=some o):SiSt g.w it D en t ep ord X' μ' h' i:=by
 obtain ⟨k1,k2,k3⟩:=kp.at_ _ _ I.C.g I.nf I.nx
 obtain ⟨f,hf,M⟩:=I.mode
 refine ⟨⟨f,k _ hf,?_⟩,I.C.mono kp fun o e=>(kp.at_ _ _ e I.nf I.nx).1,k2,k3⟩
 cases M with
 | text e ht ho=>exact .text e ht ho
 | drawn P idx m e hP nf nx ho=>
  obtain ⟨p1,p2,p3⟩:=kp.at_ _ _ hP nf nx
  exact .drawn P idx m e p1 p2 p3 ho
 | table e ht hd ho=>exact .table e ht hd ho
theorem loopy_set (pm:ord.Perm en):Loopy g d nmT [it] (.ref it) (ord.map (·.2.1)) none (SiSt g.w it D en t ep ord) where
 live hI b m:=(by obtain ⟨f,hf,_⟩:=hI.mode;exact List.mem_singleton.mp m▸⟨_,hf⟩)
 keep hI kp k:=hI.keep kp (k it (.head _))
 item {A X μ σ s i c N Q E} O R hX so hI hc K:=by
  rw [List.getElem?_map] at hc
  obtain ⟨e,he,hc⟩:=Option.map_eq_some_iff.mp hc
  have iX:it∈X:=hX it (.head _)
  refine si_next O hI.mode hI.C.g hI.C.S pm (Nat.le_of_lt (List.getElem?_eq_some_iff.mp he).1) iX he (fun e' h' q hs M'=>?_) fun q=>nomatch q
  have kp:Kp X μ s.heap X μ h':=R.kpX fun b o e nx=>hs.extBut b o (fun q=>nx (q▸iX)) e
  obtain ⟨k1,k2,k3⟩:=kp.at_ _ _ hI.C.g hI.nf hI.nx
  exact wpAny_pure (a:=()) (K _ h' s.toks (fun b o nb e=>hs.extBut b o (not_mem1 nb) e) (hc▸Option.some.inj q▸VR.mono kp _ (hI.C.vs e (pm.mem_iff.mp (List.mem_of_getElem? he)))) ⟨M',hI.C.mono kp fun o e=>(kp.at_ _ _ e hI.nf hI.nx).1,k2,k3⟩)
 done {A X μ σ s Q N E} O R hX so hI K:=by
  rw [List.length_map] at hI
  exact si_next (oe:=none) O hI.mode hI.C.g hI.C.S pm (Nat.le_refl _) (hX it (.head _)) (List.getElem?_eq_none (Nat.le_refl _)) (fun ξ ξ q=>nomatch q) fun ξ h' k=>K h' s.toks fun b o nb e=>k b o (not_mem1 nb) e
 self hI q:=by
  obtain ⟨f,hf,ξ⟩:=hI.mode
  have hT:Shared.TypeIs _ (.ref it) "set_iterator":=⟨_,hf,rfl⟩
  exact wpAny_pyIter_slot hT slot_si_iter (wpAny_call_entry slot_si_iter hT entry_si_iter (wpAny_pure (a:=Fin.done (.ret (.ref it))) ⟨_,rfl,"set_iterator",_,hT,slot_si_next.lookup,q⟩) args_si_iter)
theorem iter_set {Q:Value→Shared→Prop} (R:Rel g.w g.base X μ σ s.heap) (C:SetC g.w X μ s.heap D en t ep) (nf:¬foot μ D) (nx:D∉X)
  (hQ:∀ord it h' dr,ord.Perm en→(∀b o,s.heap.get? b=some o→h'.get? b=some o)→s.heap.get? it=none→SiSt g.w it D en t ep ord ([it]++X) μ h' 0→Q (.ref it) { s with heap:=h',drawn:=dr }) :
  wpAny (model pw g.w) A (pyIter (.ref D)) Q E s:=by
 have hT:s.TypeIs (.ref D) "set":=⟨_,C.g,rfl⟩
 have hz:(entP g.w en).size=en.length:=by simp
 refine wpAny_pyIter_slot hT PySem.F.slot_set_iter (wpAny_call_entry PySem.F.slot_set_iter hT entry_set_iter ?_ (PySem.F.args_set_iter_1 _))
 refine wpAny_bind (wpAny_pure (wpAny_bind (m:=Builtin.Frozenset.sizeOf _) (wpAny_bind (m:=setEntries _) (wpAny_bind (set_state C.g C.S.tab (wpAny_pure (wpAny_pure (wpAny_bind (m:=setDrawn _) ?_))))))))
 unfold setDrawn
 refine wpAny_bind (set_state C.g C.S.tab (wpAny_bind (by_text (wpAny_pure ?_))))
 have fin:∀(first:Value) (ord:List Ent) (h₁:Heap) (dr:PySem.Drawn),ord.Perm en→(∀b o,s.heap.get? b=some o→h₁.get? b=some o)→(∀it h',(∀b o,h₁.get? b=some o→h'.get? b=some o)→h₁.get? it=none→SiF g.w D en t ep ord ([it]++X) μ h' 0 first)→
   wpAny (model pw g.w) A.in1 (do ret (← newFields "set_iterator" [first,rawInt 0,.ref D,rawInt (entP g.w en).size,rawInt (← setEpoch D)])) (fun fin s'=>∃v,fin = .done (.ret v)∧∃T' r,s'.TypeIs v T'∧typeLookup (.type T') "__next__"=pure (some r)∧Q v s') E { s with heap:=h₁,drawn:=dr }:=fun first ord h₁ dr pm hk mode=>by
  refine wpAny_bind (m:=setEpoch D) (wpAny_bind (set_state (s:={ s with heap:=h₁,drawn:=dr }) (hk _ _ C.g) C.S.tab (wpAny_pure ?_)))
  rw [hz]
  have nit0:s.heap.get? h₁.objs.size=none:=none_of (fun o e=>⟨o,hk _ _ e⟩) (get_size _)
  refine wpAny_bind (wpAny_newObj_type (wpAny_pure ⟨_,rfl,"set_iterator",_,⟨_,Heap.get?_push_size _ rfl,rfl⟩,slot_si_next.lookup,hQ ord _ (h₁.push (siO first 0 D en.length ep)) dr pm (fun b o e=>push_up (hk b o e)) nit0 ⟨⟨first,Heap.get?_push_size _ rfl,mode _ _ (fun b o e=>push_up e) (get_size _)⟩,C.mono ⟨fun ξ ξ e=>e,fun b o e nf nx=>⟨push_up (hk b o e),nf,fun m=>(List.mem_cons.mp m).elim (fun q=>not_none e (q▸nit0)) nx⟩⟩ fun o e=>push_up (hk _ _ e),nf,fun m=>(List.mem_cons.mp m).elim (fun q=>not_none C.g (q▸nit0)) nx⟩⟩) (by simp only [sizeOk,List.size_toArray,List.length_cons,List.length_nil];decide))
 show wpAny _ _ (if (!(g.w.params.followText "set-order")&&(!t.plain&&decide ((entP g.w en).size > 1)))=true then _ else _) _ _ s
 refine wpAny_ite_split (fun hd=>?_) (fun hd=>wpAny_bind (wpAny_pure ?_))
 ·refine wpAny_bind (draw_perm _ _ (by simp) fun ys dr hp=>?_)
  rw [hz] at hp
  have yl:ys.length≤4:=by rw [hp.length_eq,List.length_range];exact C.l4
  refine wpAny_bind (wpAny_newTuple (s:={ s with drawn:=dr }) ?_ (by rw [List.length_map];exact Nat.le_trans yl (by decide)))
  obtain ⟨ord,ho,pm⟩:=perm_inv (f:=some) (hp.map (en[·]?)) (x:=en) (List.ext_getElem (by simp) fun k h1 h2=>by simp)
  refine fin _ ord _ dr pm (fun b o e=>push_up e) fun it h' hk nit=>.drawn _ ys 0 rfl (hk _ _ (Heap.get?_push_size _ rfl)) R.notSize.1 (fun m=>(List.mem_cons.mp m).elim (fun q=>?_) R.notSize.2) ho
  exact not_none (Heap.get?_push_size _ rfl) (q.symm▸nit)
 ·cases ht:g.w.params.followText "set-order" with
  | true=>
   obtain ⟨ord,ho,pm⟩:=perm_inv (f:=fun e:Ent=>(hashCV g.w e.2.1,e.2.2)) (pick_go (g.w.params.setOrder D ep) (entP g.w en).size 0 (entP g.w en).toList #[] (Nat.le_refl _)) (x:=en) rfl
   exact fin _ ord s.heap s.drawn pm (fun ξ ξ e=>e) fun it h' hk nit=>.text rfl ht (Array.toList_inj.mp ho)
  | false=>exact fin _ en s.heap s.drawn (.refl _) (fun ξ ξ e=>e) fun it h' hk nit=>.table rfl ht (by rw [ht] at hd;simpa using hd) rfl
theorem collect_set {Q:List Value→Shared→Prop} (O:A.handled=none) (R:Rel g.w g.base X μ σ s.heap) (C:SetC g.w X μ s.heap D en t ep) (nf:¬foot μ D) (nx:D∉X)
  (K:∀h' tk dr us (ord:List Ent),ord.Perm en→(∀b o,s.heap.get? b=some o→h'.get? b=some o)→VRs g.w X μ h' (ord.map (·.2.1)) us→Q us { s with heap:=h',toks:=tk,drawn:=dr }):wpAny (model pw g.w) A (collect (.ref D)) Q E s:=by
 refine collect_P (d:=0) (Z:=X) (σ:=σ) (h₀:=s.heap) (so:=none) (P:=fun items=>∃ord:List Ent,ord.Perm en∧items=ord.map (·.2.1)) O C.g rfl (by decide) (by decide) trivial (fun items w2=>by obtain ⟨ord,pm,e⟩:=w2;rw [e,List.length_map,pm.length_eq];exact Nat.le_trans C.l4 (by decide)) (get_size _) (fun E s' Q hr q=>hint_set ⟨_,hr,rfl⟩ (q false s'.toks)) (fun E Q q=>?_) fun h' tk dr vs items w1 k r=>by obtain ⟨ord,pm,e⟩:=w1;exact K h' tk dr vs ord pm k (e▸r)
 have fr:=size1 (s:=s) (o:=lstO #[] 0) rfl
 have R₁:Rel g.w g.base ([s.heap.objs.size]++X) μ σ (s.heap.push (lstO #[] 0)):=R.more (fun b o e=>push_up e) fr
 have C₁:SetC g.w ([s.heap.objs.size]++X) μ (s.heap.push (lstO #[] 0)) D en t ep:=C.mono ⟨fun ξ ξ e=>e,fun b o e nf nx=>⟨push_up e,nf,fun m=>(List.mem_cons.mp m).elim (fun q=>not_none e (q▸get_size _)) nx⟩⟩ fun o e=>push_up e
 refine iter_set (s:={ s with heap:=s.heap.push (lstO #[] 0) }) R₁ C₁ nf (fun m=>(List.mem_cons.mp m).elim (fun q=>not_none C.g (q▸get_size _)) nx) fun ord it h' dr pm k nit I=>q (.ref it) h' s.toks dr ([it]++([s.heap.objs.size]++X)) [it] _ _ ⟨ord,pm,rfl⟩ ⟨loopy_set pm,R₁.more k fun b m=>?_,I,fun b m=>List.mem_append_left _ m,fun b m=>List.mem_append_right _ (List.mem_append_right _ m),List.mem_append_right _ (.head _),fun m=>?_,fun b m=>?_,k _ _ (Heap.get?_push_size _ rfl),fun b o e=>k b o (push_up e)⟩ (k _ _ (push_up C.g))
 ·obtain ⟨f,hf,ξ⟩:=I.mode
  exact List.mem_singleton.mp m▸⟨nit,_,hf⟩
 ·exact not_none (Heap.get?_push_size _ rfl) (List.mem_singleton.mp m▸nit)
 ·exact List.mem_singleton.mp m▸none_of (fun o e=>⟨o,push_up e⟩) nit
theorem hd_one {e e':Expr} {l:List Expr} (h:one l=true):hd e l=hd e' l:=by
 match l,h with
 | [x],_=>rfl
theorem Does.sortedSet {ρ:Loc} {c:CE} (S:Does d c ρ σ (.lst l) σ₁) (L:SetL l) (Z:∀m:List CV,m.Nodup→(∀x,x∈m↔x∈l)→SortsTo m r):Does d (.sortedSet c) ρ σ (.lst r) σ₁:=⟨fun {e g A x μ s E Q} ok C K=>by
 refine an5 ok fun h1 h2 h3 h4 h5 h6=>?_
 refine bi_one C h1 h2 (f:=.builtin "sorted") rfl keeps_builtin (notStar11 (an h3).1) (bi_one C h3 h4 (f:=.type "set") rfl keeps_type (hd_one (e':=hd e (view e).l) h4▸h5) (S.go (hd_one (e':=hd e (view e).l) h4▸h6) C fun u s₁ μ₁ n=>call_set C.O n.R n.r L fun s₂ en t ep D H=>sorted_call (collect_set C.O.handled H.n.R H.C H.nf H.nx fun h₃ tk dr us ord pm k rs=>sorted_tail C.O H.n.R k rs (Z _ ?_ fun x=>?_) fun ξ ξ ξ m=>K _ _ _ (n.toNx.and (H.n.and m)))))
 ·exact (pm.map _).nodup_iff.mpr H.C.S.nd
 ·exact (pm.map (·.2.1)).mem_iff.trans (H.keys x)⟩
theorem list_of {α:Type} {f:α→CV}:∀{c:List CV},(∀x∈c,∃a,x=f a)→∃l:List α,c=l.map f:=by
 intro l11
 induction l11 with
 | nil=>
  intro ξ
  exact ⟨[],rfl⟩
 | cons x c ih=>
  intro h
  obtain ⟨a,e⟩:=h x (.head _)
  obtain ⟨l,e'⟩:=ih fun y m=>h y (.tail _ m)
  exact ⟨a::l,by rw [e,e'];rfl⟩
theorem set_part {α:Type} {f:α→CV} {m:List CV} {rs:List α} (inj:∀a b,f a=f b→a=b) (nd:m.Nodup) (sub:∀x∈m,x∈rs.map f) {zz:Prop} (kk:∀y:List α,m=y.map f→y.Nodup→(∀a,a∈y↔f a∈m)→zz):zz:=by
 obtain ⟨y,e⟩:=list_of (f:=f) fun x mx=>(by obtain ⟨r,_,e⟩:=List.mem_map.mp (sub x mx);exact ⟨r,e.symm⟩)
 refine kk y e ((List.pairwise_map.mp (e▸nd)).imp fun h q=>h (congrArg f q)) (fun a=>⟨fun h=>e▸List.mem_map.mpr ⟨a,h,rfl⟩,fun h=>?_⟩)
 rw [e] at h
 obtain ⟨b,mb,q⟩:=List.mem_map.mp h
 exact inj _ _ q▸mb
theorem set_perm {α:Type} {f:α→CV} {m:List CV} {rs qs:List α} (inj:∀a b,f a=f b→a=b) (nd:m.Nodup) (hm:∀x,x∈m↔x∈rs.map f) (hq:∀a,a∈qs↔a∈rs) (ndq:qs.Nodup) {zz:Prop} (kk:∀y:List α,m=y.map f→y.Nodup→qs.Perm y→zz):zz:=by
 refine set_part inj nd (fun x=>(hm x).mp) fun y e n k=>?_
 refine kk y e n ((List.perm_ext_iff_of_nodup ndq n).mpr fun a=>(hq a).trans (Iff.trans ⟨fun h=>(hm _).mpr (List.mem_map.mpr ⟨a,h,rfl⟩),fun h=>?_⟩ (k a).symm))
 obtain ⟨b,mb,q⟩:=List.mem_map.mp ((hm _).mp h)
 exact inj _ _ q▸mb
theorem Asc.nodup {α:Type} {enc:α→List Nat} {q:List α} (h:Asc enc q):q.Nodup:=List.Pairwise.imp (fun {a b} (h:enc a<enc b) (q:a=b)=>by rw [q] at h;exact List.lt_irrefl _ h) h
theorem Does.setN {ρ:Loc} {c:CE} {ns ms:List Nat} (S:Does d c ρ σ (.lst (ns.map nV)) σ₁) (h4:ns.length≤4) (hm:∀n,n∈ms↔n∈ns) (hr:ms.Pairwise (·<·)):Does d (.sortedSet c) ρ σ (.lst (ms.map nV)) σ₁:=
 .sortedSet S ⟨.inl fun c m=>(by obtain ⟨n,_,e⟩:=List.mem_map.mp m;exact ⟨_,e.symm⟩),fun m nd sub=>Nat.le_trans (List.Nodup.length_le_of_subset nd sub) (by rw [List.length_map];exact h4)⟩ fun m nd k=>by
  refine set_perm (fun ξ ξ=>nV_inj) nd k hm (hr.imp Nat.ne_of_lt) fun y e n p=>?_
  exact e▸.nats n (Nat.lt_of_le_of_lt (List.Nodup.length_le_of_subset (p.nodup_iff.mp (hr.imp Nat.ne_of_lt)) fun a ma=>(hm a).mp (p.mem_iff.mpr ma)) (Nat.lt_of_le_of_lt h4 (by decide))) p hr
theorem Does.setR {ρ:Loc} {c:CE} {rs qs:List Row} (S:Does d c ρ σ (.lst (rs.map rowV)) σ₁) (h4:∀m:List Row,m.Nodup→(∀x∈m,x∈rs)→m.length≤4) (hm:∀n,n∈qs↔n∈rs) (hr:Asc encR qs):Does d (.sortedSet c) ρ σ (.lst (qs.map rowV)) σ₁:=
 .sortedSet S ⟨.inr fun c m=>by
   obtain ⟨r,ξ,e⟩:=List.mem_map.mp m
   rw [← e]
   exact nd (op_ok _) (List.all_eq_true.mpr fun x m=>(by obtain ⟨_,_,e⟩:=List.mem_map.mp m;exact e▸rfl)),fun m nd sub=>by
   refine set_part (fun ξ ξ=>row_inj) nd sub fun y e n k=>?_
   rw [e,List.length_map]
   refine h4 y n fun a ma=>?_
   obtain ⟨b,mb,q⟩:=List.mem_map.mp (sub _ ((k a).mp ma))
   exact row_inj q▸mb⟩ fun m nd k=>by
  refine set_perm (fun ξ ξ=>row_inj) nd k hm hr.nodup fun y e n p=>?_
  exact e▸.rows n (Nat.lt_of_le_of_lt (h4 y n fun a ma=>(hm a).mp (p.mem_iff.mpr ma)) (by decide)) p hr
end
section
variable {d:Nat} {ρ:Loc} {σ σ₁ σ₂ σ₃:CSt} {a b c:CE} {u v x:CV} {o1 o2:Cmp} {r i j:Bool}
theorem Does.str {y:Str}:Does d (.str y) ρ σ (.str y) σ:=⟨fun ok C K=>by
 refine an1 ok fun h1 h2=>?_
 rw [tgE h1]
 show wpAny _ _ (eval (.Constant _ _ _) _) _ _ _
 rw [of_decide_eq_true h2]
 exact wpAny_Constant_str (K _ _ _ (.tok C.R _ ⟨_,rfl⟩))⟩
theorem DoesT.cmp2 (S:Does d a ρ σ u σ₁) (T:Does d b ρ σ₁ v σ₂) (O:CmpD d o1 u v true σ₂) (U:Does d c ρ σ₂ x σ₃) (O':CmpD d o2 v x r σ₃):DoesT d (.cmp2 o1 o2 a b c) ρ σ r σ₃:=⟨fun {e g A y μ s E Q} ok C K=>by
 refine an7 ok fun h1 h2 h3 h4 h5 k1 k2 k3=>?_
 rw [tgE h1]
 show wpAny _ _ (isTrue (.Compare _ (view e).cs (view e).l _) _ (eval (.Compare _ (view e).cs (view e).l _) _)) _ _ _
 rw [of_decide_eq_true h2,twoE e h3,arm_isTrue_Compare]
 refine wpAny_bind (S.go k1 C fun ua s₁ μ₁ n=>?_)
 rw [arm_evalEach_cons,arm_evalEach_cons,arm_evalEach_nil,show ∀t u:Sem Value,markedEach [cmpN o1,cmpN o2] [hd e (view e).l,hd2 e (view e).l] [t,u]=t::markedEach [cmpN o2] [hd2 e (view e).l] [u] from fun ξ ξ=>rfl,marked_one h5]
 refine wpAny_bind (wpAny_holding (T.go k2 (C.next n.toNx) fun ub s₂ μ₂ m=>wpAny_bind (wpAny_standAt (wpAny_bind (wpAny_holding (O.go C.O m.R (VR.mono m.kp _ n.r) m.r fun t=>?_))))))
 have M:Nx g y.X μ s σ₂ { s₂ with toks:=t } μ₂:=n.toNx.trans (m.toNx.tok t)
 refine wpAny_bind (wpAny_release' (wpAny_bind (wpAny_holding (wpAny_truthy_bool ?_))))
 rw [if_pos rfl,test1]
 exact wpAny_bind (wpAny_holding (U.go (s:={ s₂ with toks:=t }) k3 (C.next M) fun uc s₃ μ₃ k=>wpAny_bind (wpAny_standAt (wpAny_bind (wpAny_operate' (O'.go C.O k.R (VR.mono k.kp _ (show VR g.w y.X μ₂ s₂.heap v ub from m.r)) k.r fun t'=>wpAny_holding (wpAny_truthy_bool (K _ _ (M.trans (k.toNx.tok t'))))))))))⟩
theorem Does.andV (S:Does d a ρ σ (.bool true) σ₁) (T:Does d b ρ σ₁ (.bool r) σ₂):Does d (.bop true [a,b]) ρ σ (.bool r) σ₂:=⟨fun {e g A y μ s E Q} ok C K=>by
 refine an8 ok fun h1 h2 h3 k1 ξ k3 k4 ξ ok=>?_
 refine an1 ok fun k6 k7=>?_
 rw [tgE h1]
 show wpAny _ _ (eval (.BoolOp (view e).bo (view e).l _) _) _ _ _
 rw [of_decide_eq_true (eq_of_beq h2).symm,arm_eval_BoolOp,consE k1,consE k4,List.isEmpty_iff.mp k7]
 show wpAny _ A (eval _ _ >>= fun v=>standAt _ >>= fun ξ=>holding [v] (truthy v) >>= fun t=>match BoolOp.And,t with
   | .And,false | .Or,true=>pure v
   | _,_=>boolOp _ .And [eval _ _]) _ E s
 exact wpAny_bind (S.go k3 C fun u s₁ μ₁ n=>wpAny_bind (wpAny_standAt (wpAny_bind (wpAny_holding ((n.r:u = .bool true)▸wpAny_truthy_bool (T.go k6 (C.next n.toNx) fun u s₂ μ₂ m=>K _ _ _ (n.toNx.and m)))))))⟩
end
theorem big {a n:Nat} (h:a≤n) (k:Nat.ble n BIG=true):a≤BIG:=Nat.le_trans h (Nat.le_of_ble_eq_true k)
theorem bigS {a n:Nat} (h:a≤n) (k:Nat.blt n BIG=true):a<BIG:=Nat.lt_of_le_of_lt h (Nat.le_of_ble_eq_true k)
structure Frm (A:Nat→Prop) (σ σ':CSt):Prop where
 len:σ.length≤σ'.length
 keep:∀a o,σ[a]?=some o→¬A a→σ'[a]?=some o
section
variable {A B:Nat→Prop} {σ σ' σ'' τ:CSt} {a b h:Nat} {o o':CObj}
theorem Frm.refl:Frm A σ σ:=⟨Nat.le_refl _,fun ξ ξ e ξ=>e⟩
theorem Frm.trans (x:Frm A σ σ') (y:Frm A σ' σ''):Frm A σ σ'':=⟨Nat.le_trans x.len y.len,fun a o e n=>y.keep a o (x.keep a o e n) n⟩
theorem Frm.mono (x:Frm A σ σ') (h:∀a,a<σ.length→A a→B a):Frm B σ σ':=⟨x.len,fun a o e n=>x.keep a o e fun q=>n (h a (List.getElem?_eq_some_iff.mp e).1 q)⟩
theorem get_set (h:σ[a]?=some o):(σ.set a o')[a]?=some o':=List.getElem?_set_self (List.getElem?_eq_some_iff.mp h).1
theorem get_ne (h:σ[b]?=some o) (n:a≠b):(σ.set a o')[b]?=some o:=(List.getElem?_set_ne n).trans h
theorem get_app (h:σ[a]?=some o):(σ++τ)[a]?=some o:=(List.getElem?_append_left (List.getElem?_eq_some_iff.mp h).1).trans h
theorem get_new:(σ++[o])[σ.length]?=some o:=List.getElem?_concat_length
theorem Frm.set (h:A a):Frm A σ (σ.set a o):=⟨Nat.le_of_eq (List.length_set).symm,fun b ξ e n=>get_ne e fun q=>n (q▸h)⟩
theorem Frm.push:Frm A σ (σ++τ):=⟨by rw [List.length_append];exact Nat.le_add_right _ _,fun ξ ξ e ξ=>get_app e⟩
theorem lt_of (h:σ[a]?=some o):a<σ.length:=(List.getElem?_eq_some_iff.mp h).1
theorem ne_off (h:Nat) {j k:Nat} (n:Nat.beq j k=false):h+j≠h+k:=fun q=>Nat.ne_of_beq_eq_false n (Nat.add_left_cancel q)
theorem hi_ne {k:Nat} (l:h+15≤a) (n:Nat.blt k 15=true):a≠h+k:=fun q=>Nat.lt_irrefl _ (Nat.lt_of_lt_of_le (Nat.add_lt_add_left (Nat.le_of_ble_eq_true n) h) (q▸l))
end
structure KeyF {α:Type} (kf:α→CV):Prop where
 inj:∀{a b},kf a=kf b→a=b
 ok:∀a,keyOk (kf a)=true
 same:∀a b,sameKind (kf a) (kf b)=true
noncomputable def dm {α β:Type} (kf:α→CV) (vf:β→CV) (l:List (α×β)):List (CV×CV):=l.map fun p=>(kf p.1,vf p.2)
section
variable {α β:Type} [DecidableEq α] {kf:α→CV} {vf:β→CV} {l:List (α×β)} {a:α} {b:β}
noncomputable def dget (l:List (α×β)) (a:α):Option β:=(l.find? fun p=>decide (p.1=a)).map (·.2)
noncomputable def dset:List (α×β)→α→β→List (α×β)
 | [],a,b=>[(a,b)]
 | p::l,a,b=>if p.1=a then (a,b)::l else p::dset l a b
theorem KeyF.dec (K:KeyF kf) {a c:α}:decide (kf c=kf a)=decide (c=a):=dec_iff ⟨K.inj,congrArg _⟩
theorem KeyF.kin (K:KeyF kf):keyIn (kf a) (dm kf vf l)=true:=nd (K.ok a) (List.all_eq_true.mpr fun e m=>(by obtain ⟨p,ξ,q⟩:=List.mem_map.mp m;exact q▸K.same a p.1))
theorem KeyF.find (K:KeyF kf):findK (dm kf vf l) (kf a)=(dget l a).map vf:=by
 unfold findK dm dget
 rw [List.find?_map,Option.map_map,Option.map_map]
 exact congrArg (fun p=>((List.find? p l).map fun p=>vf p.2)) (funext fun p=>K.dec)
theorem KeyF.has (K:KeyF kf):hasK (dm kf vf l) (kf a)=(dget l a).isSome:=by
 unfold hasK dm dget
 rw [List.any_map,Option.isSome_map,Bool.eq_iff_iff,List.find?_isSome,List.any_eq_true]
 simp only [decide_eq_true_eq]
 exact ⟨fun w96=>by obtain ⟨p,m,h⟩:=w96;exact ⟨p,m,K.inj (of_decide_eq_true h)⟩,fun w95=>by obtain ⟨p,m,h⟩:=w95;exact ⟨p,m,decide_eq_true (congrArg kf h)⟩⟩
theorem KeyF.set (K:KeyF kf):∀{l:List (α×β)},setK (dm kf vf l) (kf a) (vf b)=dm kf vf (dset l a b):=by
 intro l
 induction l with
 | nil=>
  exact rfl
 | cons p l ih=>
  show (if kf p.1=kf a then _ else _::setK (dm kf vf l) (kf a) (vf b))=dm kf vf (if p.1=a then _ else _)
  by_cases e:p.1=a
  ·rw [if_pos (congrArg kf e),if_pos e];rfl
  ·rw [if_neg fun q=>e (K.inj q),if_neg e,ih];rfl
theorem dget_mem (h:dget l a=some b):(a,b)∈l:=by
 obtain ⟨p,h1,h2⟩:=Option.map_eq_some_iff.mp h
 have e:=of_decide_eq_true (List.find?_some (p:=fun p:α×β=>decide (p.1=a)) h1)
 rw [← e,← h2]
 exact List.mem_of_find?_eq_some h1
theorem dget_none (h:a∉l.map (·.1)):dget l a=none:=by
 cases e:dget l a with
 | none=>rfl
 | some b=>exact absurd (List.mem_map.mpr ⟨_,dget_mem e,rfl⟩) h
theorem dget_of (nd:(l.map (·.1)).Nodup) (m:(a,b)∈l):dget l a=some b:=by
 induction l with
 | nil=>cases m
 | cons p l ih=>
  have n:=List.nodup_cons.mp nd
  unfold dget
  rw [List.find?_cons]
  rcases List.mem_cons.mp m with e | m
  ·rw [← e,show decide ((a,b).1=a)=true from decide_eq_true rfl];rfl
  ·rw [decide_eq_false fun q:p.1=a=>n.1 (List.mem_map.mpr ⟨_,m,q.symm⟩)]
   exact ih n.2 m
theorem dget_key:(dget l a).isSome=true↔a∈l.map (·.1):=by
 unfold dget
 rw [Option.isSome_map,List.find?_isSome,List.mem_map]
 simp only [decide_eq_true_eq]
theorem dset_new (h:dget l a=none):dset l a b=l++[(a,b)]:=by
 induction l with
 | nil=>rfl
 | cons p l ih=>
  unfold dget at h
  rw [List.find?_cons] at h
  by_cases e:p.1=a
  ·rw [decide_eq_true e] at h;cases h
  ·rw [decide_eq_false e] at h
   show (if p.1=a then _ else _)=_
   rw [if_neg e,ih h];rfl
end
theorem keyF_nat:KeyF nV:=⟨nV_inj,fun ξ=>rfl,fun ξ ξ=>rfl⟩
theorem keyF_row:KeyF rowV:=⟨row_inj,fun r=>nd (op_ok _) (List.all_eq_true.mpr fun x m=>(by obtain ⟨ξ,ξ,e⟩:=List.mem_map.mp m;exact e▸rfl)),fun ξ ξ=>rfl⟩
abbrev pairN (p:Nat×Nat):CV:=.tup [nV p.1,nV p.2]
theorem keyF_pair:KeyF pairN:=⟨fun {a b} h=>have h:=List.cons.inj (CV.tup.inj h);Prod.ext (nV_inj h.1) (nV_inj (List.cons.inj h.2).1),fun ξ=>rfl,fun ξ ξ=>rfl⟩
section
variable {d:Nat} {e c:CE} {ρ:Loc} {σ:CSt} {α:Type} {fi go:α→CV} {p:α→Bool} {so:Option (Nat×CObj)} {t:Nat} {k:IK} {src:List CE}
theorem CLoop.map (hs:srcP σ so):∀{l:List α},(∀a∈l,Does d e (upd ρ t (fi a)) σ (go a) σ)→CLoop d [t] true [] (.elt e) so (l.map fi) ρ σ (l.map go) σ:=by
 intro l
 induction l with
 | nil=>
  intro ξ
  exact .nil hs
 | cons a l ih=>
  intro h
  exact .cons hs rfl .nil (.elt (h a (.head _))) (ih fun b m=>h b (.tail _ m))
theorem CLoop.fil (hs:srcP σ so):∀{l:List α},(∀a∈l,DoesT d c (upd ρ t (fi a)) σ (p a) σ)→(∀a∈l,p a=true→Does d e (upd ρ t (fi a)) σ (go a) σ)→CLoop d [t] true [c] (.elt e) so (l.map fi) ρ σ ((l.filter p).map go) σ:=by
 intro l
 induction l with
 | nil=>
  intro ξ ξ
  exact .nil hs
 | cons a l ih=>
  intro hc h
  have ih:=ih (fun b m=>hc b (.tail _ m)) fun b m=>h b (.tail _ m)
  have hc:=hc a (.head _)
  rw [List.filter_cons]
  cases q:p a with
  | true=>exact .cons hs rfl (.one (q▸hc)) (.elt (h a (.head _) q)) ih
  | false=>exact .skip hs rfl (.one (q▸hc)) ih
theorem Does.cmap0 {l:List α} (S:ItD d k true src ρ σ (l.map fi) none σ) (hz:l.length≤BIG) (h:∀a∈l,Does d e (upd (clr [t] ρ) t (fi a)) σ (go a) σ):Does d (.comp false (.gen [t] true k src [] (.elt e))) ρ σ (.lst (l.map go)) σ:=
 .comp S (.map (so:=none) trivial h) (by rw [List.length_map];exact hz)
theorem Does.cfil0 {l:List α} (S:ItD d k true src ρ σ (l.map fi) none σ) (hz:l.length≤BIG) (hc:∀a∈l,DoesT d c (upd (clr [t] ρ) t (fi a)) σ (p a) σ) (h:∀a∈l,p a=true→Does d e (upd (clr [t] ρ) t (fi a)) σ (go a) σ):Does d (.comp false (.gen [t] true k src [c] (.elt e))) ρ σ (.lst ((l.filter p).map go)) σ:=
 .comp S (.fil (so:=none) trivial hc h) (Nat.le_trans (by rw [List.length_map];exact List.length_filter_le _ _) hz)
theorem Does.cmap {l:List α} (S:ItD d k true src ρ σ (l.map fi) so σ) (hs:srcP σ so) (hz:l.length≤BIG) (h:∀a∈l,Does d e (upd (clr [t] ρ) t (fi a)) σ (go a) σ):Does d (.comp false (.gen [t] true k src [] (.elt e))) ρ σ (.lst (l.map go)) σ:=
 .comp S (.map hs h) (by rw [List.length_map];exact hz)
variable {body:List CS}
theorem ForD.inv {items:List CV} {one:Bool} {ts:List Nat} (J:Nat→Loc→CSt→Prop) (hs:∀i ρ σ,J i ρ σ→srcP σ so) (st:∀i v ρ σ,items[i]?=some v→J i ρ σ→∀zz:Prop,(∀ρ₁ ρ' σ',bindT σ ρ ts one v=some ρ₁→RunD d body ρ₁ σ .next ρ' σ'→J (i+1) ρ' σ'→zz)→zz) (n:Nat) :
  ∀(i:Nat) {ρ:Loc} {σ:CSt},i+n=items.length→J i ρ σ→∀{zz:Prop},(∀ρ' σ',ForD d ts one body so (items.drop i) ρ σ ρ' σ'→J items.length ρ' σ'→zz)→zz:=by
 induction n with
 | zero=>
  intro i ρ σ h j zz kk
  exact kk ρ σ (by rw [List.drop_eq_nil_of_le (Nat.le_of_eq (Eq.symm h:items.length=i))];exact .nil (hs _ _ _ j)) ((h:i=_)▸j)
 | succ n ih=>
  intro i ρ σ h j zz kk
  have lt:i<items.length:=by lia
  exact st i _ ρ σ (List.getElem?_eq_getElem lt) j _ fun ρ₁ ρ₂ σ₂ hb B j₂=>ih (i+1) (by lia) j₂ fun ρ₃ σ₃ F j₃=>kk ρ₃ σ₃ (by rw [List.drop_eq_getElem_cons lt];exact .cons (hs _ _ _ j) hb B F) j₃
theorem WhileD.inv (J:Nat→Loc→CSt→Prop) (D:Loc→CSt→Prop) (st:∀m ρ σ,J m ρ σ→∀zz:Prop,(∀σ₁,DoesT d c ρ σ false σ₁→D ρ σ₁→zz)→(∀σ₁ ρ' σ₂ m',DoesT d c ρ σ true σ₁→RunD d body ρ σ₁ .next ρ' σ₂→m'<m→J m' ρ' σ₂→zz)→zz) (m:Nat) :
  ∀{ρ:Loc} {σ:CSt},J m ρ σ→∀{zz:Prop},(∀n ρ' σ',WhileD d c body ρ σ n ρ' σ'→D ρ' σ'→zz)→zz:=by
 induction m using Nat.strongRecOn with
 | _ m ih=>
  intro ρ σ j zz kk
  exact st m ρ σ j _ (fun σ₁ T k=>kk _ _ _ (.done T) k) fun σ₁ ρ' σ₂ m' T B l j'=>ih m' l j' fun n ρ₃ σ₃ W k=>kk _ _ _ (.next T B W) k
variable {f:Nat} {args:List CV} {ρ':Loc} {σ':CSt} {v v':CV} {i j:Bool}
theorem Calls.run {fn:CFn} (hfn:cprog.fns[f]?=some fn) (hlen:args.length=fn.params) (S:RunD d fn.body (paramsL 0 args) σ (.ret v) ρ' σ'):Calls (d+1) f args σ v σ':=.body hfn hlen S
theorem Calls.fall {fn:CFn} (hfn:cprog.fns[f]?=some fn) (hlen:args.length=fn.params) (S:RunD d fn.body (paramsL 0 args) σ .next ρ' σ'):Calls (d+1) f args σ .none σ':=.body hfn hlen S
theorem Does.to (S:Does d e ρ σ v σ') (q:v=v'):Does d e ρ σ v' σ':=q▸S
theorem DoesT.to (S:DoesT d e ρ σ i σ') (q:i=j):DoesT d e ρ σ j σ':=q▸S
theorem CmpD.to {op:Cmp} (S:CmpD d op v v' i σ) (q:i=j):CmpD d op v v' j σ:=q▸S
theorem Does.len {l:List CV} {n:Nat} (S:Does d e ρ σ v σ') (hs:seqOf σ' v=some l) (hn:l.length=n) (hz:n≤BIG):Does d (.bi .len e) ρ σ (nV n) σ':=hn▸.bi S (.len hs (hn.symm▸hz))
theorem Does.lenD {l:List (CV×CV)} {n:Nat} (S:Does d e ρ σ v σ') (hs:dictOf σ' v=some l) (hn:l.length=n) (hz:n≤BIG):Does d (.bi .len e) ρ σ (nV n) σ':=hn▸.bi S (.lenD hs (hn.symm▸hz))
theorem Does.fld {i a cl f:Nat} {fs:List (Nat×CV)} {v:CV} (h0:ρ i=some (.ref a)) (hi:σ[a]?=some (.inst cl fs)) (hl:fs.lookup f=some v) (ha:Nat.blt f 17=true):Does d (.attr (.var i) f) ρ σ v σ:=.attr (.var h0) hi hl ha
theorem Does.tail {x:CV} {l:List CV} (S:Does d e ρ σ (.tup (x::l)) σ) (h:l.length≤1000):Does d (.slice e (some 1) none) ρ σ (.tup l) σ:=.slT (a:=1) S (Nat.le_refl _) (Nat.le_add_left 1 l.length) (big (Nat.succ_le_succ h) rfl)
theorem Does.idx {o i:CE} {u r:CV} {l:List CV} {j:Nat} {σ₁ σ₂:CSt} (So:Does d o ρ σ u σ₁) (Si:Does d i ρ σ₁ (nV j) σ₂) (hs:seqOf σ₂ u=some l) (hr:l[j]?=some r) (hb:l.length≤BIG):Does d (.sub o i) ρ σ r σ₂:=.sub So Si (.seq hs hr hb)
theorem ofDict {i ep:Nat} {es:List (CV×CV)} (h:σ[i]?=some (.dict es ep)):dictOf σ (.ref i)=some es:=by show (match σ[i]? with | some (.dict es _)=>some es | _=>none)=_;rw [h]
theorem ofSeq {i:Nat} {l:List CV} (h:σ[i]?=some (.list l)):seqOf σ (.ref i)=some l:=ofList h
theorem peq_str {x y:Str} (hx:PyData.strOk x=true) (hy:PyData.strOk y=true):peq (.str x) (.str y)=some (decide (x=y)):=(peq_dat (a:=.str x) (b:=.str y) hx hy (Nat.zero_le _) (Nat.zero_le _)).trans (congrArg some (dec_iff ⟨CV.str.inj,congrArg _⟩))
theorem eq_str {x y:Str} (hx:PyData.strOk x=true) (hy:PyData.strOk y=true):CmpD d .eq (.str x) (.str y) (decide (x=y)) σ:=.eq (peq_str hx hy)
theorem ne_str {x y:Str} (hx:PyData.strOk x=true) (hy:PyData.strOk y=true):CmpD d .ne (.str x) (.str y) (!decide (x=y)) σ:=.ne (peq_str hx hy)
theorem eq_nat {a b:Nat}:CmpD d .eq (nV a) (nV b) (decide (a=b)) σ:=.eq (peq_nat a b)
theorem ne_nat {a b:Nat}:CmpD d .ne (nV a) (nV b) (!decide (a=b)) σ:=.ne (peq_nat a b)
end
abbrev bankI (h:Nat):CObj:=.inst 0 [(0,.ref (h+2)),(1,.ref (h+3)),(2,.ref (h+4)),(3,.ref (h+5))]
abbrev numsV (rows:List Row):List (CV×CV):=dm rowV nV rows.zipIdx
structure BankR (σ:CSt) (h:Nat) (rows:List Row):Prop where
 i:σ[h+1]?=some (bankI h)
 nodes:σ[h+2]?=some (.list (rows.map rowV))
 nums:∃ep,σ[h+3]?=some (.dict (numsV rows) ep)
 ws:∃ws:List Int,ws.length=rows.length∧σ[h+4]?=some (.list (ws.map .int))
 ds:∃ds:List Int,ds.length=rows.length∧σ[h+5]?=some (.list (ds.map .int))
structure RowsOk (rows:List Row):Prop where
 wide:∀r∈rows,r.2.length≤2
 kids:∀(i:Nat) r,rows[i]?=some r→∀k∈r.2,k<i
 nd:rows.Nodup
 few:rows.length≤60
section
variable {A:Nat→Prop} {σ σ':CSt} {h i d:Nat} {rows:List Row} {r:Row} {o:Fin 3} {ks:List Nat} {v:CV}
theorem BankR.frm (B:BankR σ h rows) (x:Frm A σ σ') (n:∀k,Nat.blt k 6=true→¬A (h+k)):BankR σ' h rows:=
 ⟨x.keep _ _ B.i (n 1 rfl),x.keep _ _ B.nodes (n 2 rfl),(by obtain ⟨ep,e⟩:=B.nums;exact ⟨ep,x.keep _ _ e (n 3 rfl)⟩),(by obtain ⟨w,l,e⟩:=B.ws;exact ⟨w,l,x.keep _ _ e (n 4 rfl)⟩),(by obtain ⟨w,l,e⟩:=B.ds;exact ⟨w,l,x.keep _ _ e (n 5 rfl)⟩)⟩
theorem bank_len {ρ:Loc} (B:BankR σ h rows) (hl:rows.length≤100) (h0:ρ 0=some (.ref (h+1))):Does d (.bi .len (.attr (.var 0) 0)) ρ σ (nV rows.length) σ:=.len (.fld h0 B.i rfl rfl) (ofSeq B.nodes) (List.length_map _) (big hl rfl)
theorem bank_size (B:BankR σ h rows) (hl:rows.length≤100):Calls (d+1) 2 [.ref (h+1)] σ (nV rows.length) σ:=.run rfl rfl (.ret (bank_len B hl rfl))
theorem RowsOk.w (K:RowsOk rows) (hi:rows[i]?=some r):r.2.length≤2:=K.wide r (List.mem_of_getElem? hi)
theorem node_at {ρ:Loc} (B:BankR σ h rows) (K:RowsOk rows) (hi:rows[i]?=some r) (h0:ρ 0=some (.ref (h+1))) (h1:ρ 1=some (nV i)):Does d (.sub (.attr (.var 0) 0) (.var 1)) ρ σ (rowV r) σ:=
 .idx (.fld h0 B.i rfl rfl) (.var h1) (ofSeq B.nodes) (by rw [List.getElem?_map,hi];rfl) (by rw [List.length_map];exact big K.few rfl)
theorem bank_op (B:BankR σ h rows) (K:RowsOk rows) (hi:rows[i]?=some r):Calls (d+1) 5 [.ref (h+1),nV i] σ (opV r.1) σ:=
 .run rfl rfl (.ret (.idx (j:=0) (node_at B K hi rfl rfl) .int rfl rfl (big (Nat.succ_le_succ (by rw [List.length_map];exact K.w hi)) rfl)))
theorem bank_kids (B:BankR σ h rows) (K:RowsOk rows) (hi:rows[i]?=some r):Calls (d+1) 6 [.ref (h+1),nV i] σ (.tup (r.2.map nV)) σ:=
 .run rfl rfl (.ret (.tail (node_at B K hi rfl rfl) (by rw [List.length_map];exact Nat.le_trans (K.w hi) (by decide))))
theorem op_facts:∀o,(!decide (opS o=⟨#[]⟩)&&(decide (opS o=⟨#[(opS o).cps.getD 0 0]⟩)&&(!((opS o).length > 0&&(opS o).cps.all Unicode.isSpace)&&((Builtin.Str.occurrences ⟨#[40,41,91,93,123,125,44,58]⟩ (opS o) 0 8 1).isEmpty&&(Nat.blt ((opS o).cps.getD 0 0) 128&&!decide (opS o=⟨#[63]⟩))))))=true:=by decide +kernel
theorem nt {b:Bool} (h:(!b)=true):b=false:=(Bool.not_eq_true' b).mp h
theorem is_op_op:Calls (d+1) 0 [opV o] σ (.bool true) σ:=by
 refine an5 (op_facts o) fun f1 f2 f3 f4 f5 ξ=>?_
 have so:=op_ok o
 show Calls (d+1) 0 [.str (opS o)] σ (.bool true) σ
 generalize opS o=x at *
 generalize x.cps.getD 0 0=c at *
 have f2:=of_decide_eq_true f2
 refine .run rfl rfl (.ret (.andV (.cmp (.var rfl) .str (.to (ne_str so (by decide +kernel)) (by rw [nt f1];rfl))) (.cmp (.cfil0 (fi:=fun c:Nat=>.str ⟨#[c]⟩) (go:=fun c=>.str ⟨#[c]⟩) (p:=fun ξ=>false) (l:=[c]) (.val (.var (v:=.str x) rfl) (by rw [f2];exact .str (by rw [List.all_cons,decide_eq_true (show c<128 from Nat.le_of_ble_eq_true f5)];rfl))) (by decide:1≤BIG) (fun b m=>?_) fun ξ ξ q=>nomatch q) (.lst .nil rfl) (.eq rfl))))
 rw [List.mem_singleton.mp m,← f2]
 exact .bop (.cons (.to (.of (.bmeth .isspace (.var rfl) .str .nil .isspace) rfl) (nt f3)) (.cons (.to (.cmp (.var rfl) .str .isinS) (by rw [show (Str.length ⟨#[40,41,91,93,123,125,44,58]⟩)=8 from rfl,f4];rfl)) .nil))
theorem require_op:Calls (d+2) 4 [v,opV o] σ .none σ:=by
 refine an5 (op_facts o) fun ξ f2 ξ ξ ξ f6=>?_
 have f2:=of_decide_eq_true f2
 refine .fall rfl rfl (.next (.skip (.bop (.cons (.not (.of (.call (.one (.var rfl)) is_op_op) rfl)) (.cons (.to (.cmp (.sub (.var rfl) .int (.str (j:=0) (c:=(opS o).cps.getD 0 0) (by rw [f2];rfl) (by rw [f2];exact (by decide:1≤BIG)))) (.str (y:=⟨#[63]⟩)) (eq_str (by rw [← f2];exact op_ok o) (by decide +kernel))) (by rw [← f2];exact nt f6)) .nil)))) .nil)
theorem nums_at (hi:rows[i]?=some r):(r,i)∈rows.zipIdx:=List.mk_mem_zipIdx_iff_getElem?.mpr hi
theorem nums_key:rows.zipIdx.map (·.1)=rows:=List.zipIdx_map_fst ..
theorem nums_has:(dget rows.zipIdx r).isSome=decide (r∈rows):=by
 rw [Bool.eq_iff_iff,dget_key,nums_key,decide_eq_true_eq]
theorem Does.row {ρ:Loc} {a b:CE} (S:Does d a ρ σ (opV o) σ) (T:Does d b ρ σ (.tup (ks.map nV)) σ) (hw:ks.length≤1000):Does d (.bin .add (.tup [a]) b) ρ σ (rowV (o,ks)) σ:=
 .bin (.tup (.one S) rfl) T (.addT (x:=[opV o]) (by rw [List.length_map];exact big (Nat.add_le_add_left hw 1) rfl))
theorem take_old (B:BankR σ h rows) (K:RowsOk rows) (hi:rows[i]?=some (o,ks)):Calls (d+1) 3 [.ref (h+1),opV o,.tup (ks.map nV)] σ (nV i) σ:=by
 obtain ⟨ep,he⟩:=B.nums
 have hd:=ofDict he
 refine .run rfl rfl (.next (.assign (.row (.var rfl) (.bi (.var rfl) .tup) (Nat.le_trans (K.w hi) (by decide))) rfl) (.stop (.ite (i:=true) (.to (.cmp (.var rfl) (.fld rfl B.i rfl rfl) (.isinK hd keyF_row.kin)) (by rw [keyF_row.has,nums_has];exact decide_eq_true (List.mem_of_getElem? hi))) (.ret (.sub (.fld rfl B.i rfl rfl) (.var rfl) (.dict hd keyF_row.kin ?_))))))
 rw [keyF_row.find,dget_of (by rw [nums_key];exact K.nd) (nums_at hi)];rfl
end
section
variable {d t:Nat} {ρ:Loc} {σ:CSt} {body:List CS} {so:Option (Nat×CObj)}
theorem ForD.still (hs:srcP σ so):∀{items:List CV} {ρ:Loc},(∀v∈items,∀ρ',(∀x,x≠t→ρ' x=ρ x)→RunD d body (upd ρ' t v) σ .next (upd ρ' t v) σ)→∃ρ',ForD d [t] true body so items ρ σ ρ' σ∧∀x,x≠t→ρ' x=ρ x:=by
 intro l
 induction l with
 | nil=>
  intro ρ ξ
  exact ⟨ρ,.nil hs,fun ξ ξ=>rfl⟩
 | cons v l ih=>
  intro ρ st
  have off:∀x,x≠t→upd ρ t v x=ρ x:=fun x n=>if_neg n
  obtain ⟨ρ',F,k⟩:=ih (ρ:=upd ρ t v) fun w m ρ' k=>st w (.tail _ m) ρ' fun x n=>(k x n).trans (off x n)
  exact ⟨ρ',.cons hs rfl (st v (.head _) ρ fun ξ ξ=>rfl) F,fun x n=>(k x n).trans (off x n)⟩
theorem max_of:∀{l:List Int},l≠[]→∃t∈l,∀x∈l,x≤t
 | [],h=>absurd rfl h
 | [x],_=>⟨x,.head _,fun y m=>List.mem_singleton.mp m▸Int.le_refl _⟩
 | x::y::l,_=>by
  obtain ⟨t,m,h⟩:=max_of (l:=y::l) (by simp)
  by_cases e:x≤t
  ·exact ⟨t,.tail _ m,fun z mz=>(List.mem_cons.mp mz).elim (fun q=>q▸e) (h z)⟩
  ·exact ⟨x,.head _,fun z mz=>(List.mem_cons.mp mz).elim (fun q=>q▸Int.le_refl _) fun m=>Int.le_trans (h z m) (Int.le_of_not_le e)⟩
theorem le_nat {a b:Nat}:CmpD d .le (nV a) (nV b) (decide (a≤b)) σ:=.to .le (dec_iff (show Int.ofNat a≤Int.ofNat b↔a≤b from Int.ofNat_le))
theorem lt_nat {a b:Nat}:CmpD d .lt (nV a) (nV b) (decide (a<b)) σ:=.to .lt (dec_iff (show Int.ofNat a<Int.ofNat b↔a<b from Int.ofNat_lt))
theorem gt_nat {a b:Nat}:CmpD d .gt (nV a) (nV b) (decide (b<a)) σ:=.to .gt (dec_iff (show Int.ofNat b<Int.ofNat a↔b<a from Int.ofNat_lt))
theorem pred_nat {n:Nat}:OpD .Sub (nV (n+1)) (.int 1) (nV n) σ σ:=by
 have:=OpD.subI (σ:=σ) (i:=Int.ofNat (n+1)) (j:=1)
 rw [show Int.ofNat (n+1) - 1=Int.ofNat n from Int.add_sub_cancel (Int.ofNat n) 1] at this
 exact this
theorem Does.app {o e:CE} {b:Nat} {l:List CV} {v:CV} {σ' σ'':CSt} (So:Does d o ρ σ (.ref b) σ) (hb:σ[b]?=some (.list l)) (S:Does d e ρ σ v σ') (hb':σ'[b]?=some (.list l)) (hz:l.length<BIG) (hs:σ'.set b (.list (l++[v]))=σ''):Does d (.bmeth o .append [e]) ρ σ .none σ'':=hs▸.bmeth .append So (.list hb) (.one S) (.append hb' hz)
theorem Does.ext {o e:CE} {b:Nat} {l m:List CV} {v:CV} {σ' σ'':CSt} (So:Does d o ρ σ (.ref b) σ) (hb:σ[b]?=some (.list l)) (S:Does d e ρ σ v σ') (hb':σ'[b]?=some (.list l)) (hm:listOf σ' v=some m) (hz:l.length+m.length≤BIG) (hs:σ'.set b (.list (l++m))=σ''):Does d (.bmeth o .extend [e]) ρ σ .none σ'':=hs▸.bmeth .extend So (.list hb) (.one S) (.extend hb' hm hz)
end
section
variable {σ:CSt} {h i d:Nat} {rows:List Row} {r:Row} {o:Fin 3} {ks:List Nat}
theorem Does.picks {ρ:Loc} {ws:List Int} {f b:Nat} {x:CV} (h3:ρ 3=some (.tup (x::ks.map nV))) (h0:ρ 0=some (.ref (h+1))) (hi:σ[h+1]?=some (bankI h)) (hl:[(0,CV.ref (h+2)),(1,.ref (h+3)),(2,.ref (h+4)),(3,.ref (h+5))].lookup f=some (.ref b)) (ha:Nat.blt f 17=true) (hb:σ[b]?=some (.list (ws.map .int))) (hw:ks.length≤2) (hk:∀k∈ks,k<ws.length) (hz:ws.length≤100) :
  Does d (.comp false (.gen [4] true .val [.slice (.var 3) (some 1) none] [] (.elt (.sub (.attr (.var 0) f) (.var 4))))) ρ σ (.lst ((ks.map fun k=>ws.getD k 0).map .int)) σ:=by
 rw [List.map_map]
 exact .cmap0 (fi:=nV) (.val (.tail (.var h3) (by rw [List.length_map];exact Nat.le_trans hw (by decide))) .tup) (big hw rfl) fun k m=>.idx (.fld (show upd (clr [4] ρ) 4 (nV k) 0=_ from h0) hi hl ha) (.var rfl) (ofSeq hb) (by rw [List.getElem?_map,List.getElem?_eq_getElem (hk k m)];exact congrArg (fun x=>some (CV.int x)) (getD_lt (hk k m)).symm) (by rw [List.length_map];exact big hz rfl)
theorem take_new (B:BankR σ h rows) (hf:rows.length<60) (hw:ks.length≤2) (hk:∀k∈ks,k<rows.length) (hn:(o,ks)∉rows) {zz:Prop} (kk:∀σ',Calls (d+3) 3 [.ref (h+1),opV o,.tup (ks.map nV)] σ (nV rows.length) σ'→BankR σ' h (rows++[(o,ks)])→σ'.length=σ.length→Frm (fun a=>h+2≤a∧a≤h+5) σ σ'→zz):zz:=by
 obtain ⟨ep,he⟩:=B.nums
 obtain ⟨ws,hwl,hws⟩:=B.ws
 obtain ⟨ds,hdl,hds⟩:=B.ds
 have hl:=Nat.le_of_lt hf
 have few:rows.length<BIG:=bigS hl rfl
 have dn:dget rows.zipIdx (o,ks)=none:=dget_none (by rw [nums_key];exact hn)
 obtain ⟨md,hm1,hm2⟩:=max_of (l:=(ks.map fun k=>ds.getD k 0)++[0]) (by simp)
 have A:∀k,Nat.ble 2 k=true→Nat.ble k 5=true→h+2≤h+k∧h+k≤h+5:=fun k a b=>⟨Nat.add_le_add_left (Nat.le_of_ble_eq_true a) h,Nat.add_le_add_left (Nat.le_of_ble_eq_true b) h⟩
 obtain ⟨ρ₂,hfor,off⟩:=ForD.still (d:=d+2) (t:=4) (so:=none) (σ:=σ) (body:=[.ite (.not (.cmp2 .le .lt (.int 0) (.var 4) (.bi .len (.attr (.var 0) 0)))) [.stop] []]) trivial (items:=ks.map nV) (ρ:=upd (paramsL 0 [.ref (h+1),opV o,.tup (ks.map nV)]) 3 (rowV (o,ks))) fun v m ρ' k=>by
  obtain ⟨n,mn,e⟩:=List.mem_map.mp m
  rw [← e]
  exact .next (.skip (.not (.to (.cmp2 (.int (i:=Int.ofNat 0)) (.var rfl) (.to le_nat (decide_eq_true (Nat.zero_le n))) (bank_len B (Nat.le_trans hl (by decide)) ((if_neg (by decide)).trans (k 0 (by decide)))) lt_nat) (decide_eq_true (hk n mn))))) .nil
 have q0:ρ₂ 0=some (.ref (h+1)):=off 0 (by decide)
 have q3:ρ₂ 3=some (rowV (o,ks)):=off 3 (by decide)
 generalize hσ₃:σ.set (h+3) (.dict (numsV (rows++[(o,ks)])) (ep+1))=σ₃
 have g₃:∀{k ob},σ[h+k]?=some ob→Nat.beq 3 k=false→σ₃[h+k]?=some ob:=fun e n=>hσ₃▸get_ne e (ne_off h n)
 generalize hσ₄:σ₃.set (h+2) (.list (rows.map rowV++[rowV (o,ks)]))=σ₄
 have g₄:∀{k ob},σ₃[h+k]?=some ob→Nat.beq 2 k=false→σ₄[h+k]?=some ob:=fun e n=>hσ₄▸get_ne e (ne_off h n)
 generalize hσ₅:σ₄.set (h+4) (.list (ws.map .int++[.int (1+(ks.map fun k=>ws.getD k 0).sum)]))=σ₅
 have g₅:∀{k ob},σ₄[h+k]?=some ob→Nat.beq 4 k=false→σ₅[h+k]?=some ob:=fun e n=>hσ₅▸get_ne e (ne_off h n)
 generalize hσ₆:σ₅.set (h+5) (.list (ds.map .int++[.int (1+md)]))=σ₆
 have g₆:∀{k ob},σ₅[h+k]?=some ob→Nat.beq 5 k=false→σ₆[h+k]?=some ob:=fun e n=>hσ₆▸get_ne e (ne_off h n)
 have i₃:=g₃ B.i rfl
 have i₄:=g₄ i₃ rfl
 have i₅:=g₅ i₄ rfl
 have i₆:=g₆ i₅ rfl
 have n₄:σ₄[h+2]?=some (.list (rows.map rowV++[rowV (o,ks)])):=hσ₄▸get_set (g₃ B.nodes rfl)
 have n₆:=g₆ (g₅ n₄ rfl) rfl
 have w₄:=g₄ (g₃ hws rfl) rfl
 have d₅:=g₅ (g₄ (g₃ hds rfl) rfl) rfl
 have st:StoreD (d+2) (.ref (h+3)) (rowV (o,ks)) (nV rows.length) σ σ₃:=by
  have:=StoreD.dict (d:=d+2) (v:=nV rows.length) (i:=rowV (o,ks)) he keyF_row.kin (by show (List.map _ _).length<_;rw [List.length_map,List.length_zipIdx];exact few)
  rw [keyF_row.has,dn,keyF_row.set,dset_new dn,if_neg (by simp)] at this
  rw [← hσ₃]
  unfold numsV
  rw [List.zipIdx_append,Nat.zero_add]
  exact this
 refine kk σ₆ (.run rfl rfl (.next (.assign (.row (.var rfl) (.bi (.var rfl) .tup) (Nat.le_trans hw (by decide))) rfl) (.next (.skip (.to (.cmp (.var rfl) (.fld rfl B.i rfl rfl) (.isinK (ofDict he) keyF_row.kin)) (by rw [keyF_row.has,dn];rfl))) (.expr (.umeth (.var rfl) B.i rfl (.one (.var rfl)) require_op) (.next (.for (.val (.tail (.var rfl) (by rw [List.length_map];exact Nat.le_trans hw (by decide))) .tup) hfor) (.next (.assignS (bank_len B (Nat.le_trans hl (by decide)) q0) (.fld q0 B.i rfl rfl) (.var q3) st rfl)
  (.expr (.app (.fld q0 i₃ rfl rfl) (g₃ B.nodes rfl) (.var q3) (g₃ B.nodes rfl) (by rw [List.length_map];exact few) hσ₄)
  (.expr (.app (.fld q0 i₄ rfl rfl) w₄ (.bin .int (.bi (.picks q3 q0 i₄ rfl rfl w₄ hw (hwl▸hk) (by rw [hwl];exact Nat.le_trans hl (by decide))) (.sum rfl)) .addI) w₄ (by rw [List.length_map,hwl];exact few) hσ₅)
  (.expr (.app (.fld q0 i₅ rfl rfl) d₅ (.bin .int (.bi (.bin (.picks q3 q0 i₅ rfl rfl d₅ hw (hdl▸hk) (by rw [hdl];exact Nat.le_trans hl (by decide))) (.lst (.one .int) rfl) (.addL rfl rfl (by rw [List.length_map,List.length_map];exact big (Nat.add_le_add_right hw 1) rfl))) (.max (by rw [List.map_append];rfl) hm1 hm2)) .addI) d₅ (by rw [List.length_map,hdl];exact few) hσ₆)
  (.ret (.bin (.len (n:=rows.length+1) (.fld q0 i₆ rfl rfl) (ofSeq n₆) (by simp) few) .int pred_nat))))))))))) ⟨i₆,by rw [List.map_append];exact n₆,⟨_,g₆ (g₅ (g₄ (hσ₃▸get_set he) rfl) rfl) rfl⟩,⟨ws++[_],by rw [List.length_append,List.length_append,hwl];rfl,g₆ (by rw [List.map_append,← hσ₅];exact get_set w₄) rfl⟩,⟨ds++[_],by rw [List.length_append,List.length_append,hdl];rfl,by rw [List.map_append,← hσ₆];exact get_set d₅⟩⟩ (by rw [← hσ₆,← hσ₅,← hσ₄,← hσ₃];simp only [List.length_set]) ?_
 exact (((hσ₃▸.set (A 3 rfl rfl):Frm _ σ σ₃).trans (hσ₄▸.set (A 2 rfl rfl):Frm _ σ₃ σ₄)).trans (hσ₅▸.set (A 4 rfl rfl):Frm _ σ₄ σ₅)).trans (hσ₆▸.set (A 5 rfl rfl):Frm _ σ₅ σ₆)
end
noncomputable def fnd (par:List Nat):Nat→Nat→Nat
 | 0,a=>a
 | f+1,a=>if par.getD a 0=a then a else fnd par f (par.getD a 0)
noncomputable def ParOk (par:List Nat):Prop:=∀i,i<par.length→par.getD i 0≤i
noncomputable def rt (par:List Nat) (a:Nat):Nat:=fnd par (a+1) a
section
variable {par:List Nat}
theorem fnd_fuel (P:ParOk par):∀(f g a:Nat),a<par.length→a<f→a<g→fnd par f a=fnd par g a:=by
 intro l1
 induction l1 with
 | zero=>
  intro l2
  cases l2 with
  | zero=>
   intro ξ ξ h ξ
   exact absurd h (Nat.not_lt_zero _)
  | succ ξ=>
   intro ξ ξ h ξ
   exact absurd h (Nat.not_lt_zero _)
 | succ f ih=>
  intro l3
  cases l3 with
  | zero=>
   intro ξ ξ ξ h
   exact absurd h (Nat.not_lt_zero _)
  | succ g=>
   intro a hl h1 h2
   rw [fnd,fnd]
   by_cases e:par.getD a 0=a
   ·rw [if_pos e,if_pos e]
   ·rw [if_neg e,if_neg e]
    have:=P a hl
    exact ih g _ (by lia) (by lia) (by lia)
theorem rt_self {a:Nat} (h:par.getD a 0=a):rt par a=a:=by unfold rt;rw [fnd,if_pos h]
theorem rt_step (P:ParOk par) {a:Nat} (hl:a<par.length) (h:par.getD a 0≠a):rt par a=rt par (par.getD a 0):=by
 have:=P a hl
 unfold rt
 rw [fnd,if_neg h]
 exact fnd_fuel P _ _ _ (by lia) (by lia) (by lia)
theorem rt_ind (P:ParOk par) {Q:Nat→Prop} (h0:∀a,a<par.length→par.getD a 0=a→Q a) (h1:∀a,a<par.length→par.getD a 0≠a→Q (par.getD a 0)→Q a):∀a,a<par.length→Q a:=by
 intro a
 induction a using Nat.strongRecOn with
 | _ a ih=>
  intro hl
  by_cases e:par.getD a 0=a
  ·exact h0 a hl e
  ·have:=P a hl
   exact h1 a hl e (ih _ (by lia) (by lia))
theorem rt_le (P:ParOk par):∀a,a<par.length→rt par a≤a:=rt_ind P (fun a ξ e=>by rw [rt_self e];exact Nat.le_refl _) fun a hl e ih=>by
 rw [rt_step P hl e];exact Nat.le_trans ih (P a hl)
theorem rt_root (P:ParOk par):∀a,a<par.length→par.getD (rt par a) 0=rt par a:=rt_ind P (fun a ξ e=>by rw [rt_self e];exact e) fun a hl e ih=>by rw [rt_step P hl e];exact ih
theorem rt_lt (P:ParOk par) {a:Nat} (h:a<par.length):rt par a<par.length:=Nat.lt_of_le_of_lt (rt_le P a h) h
theorem rt_rt (P:ParOk par) {a:Nat} (h:a<par.length):rt par (rt par a)=rt par a:=rt_self (rt_root P a h)
theorem getD_append {n a:Nat} (h:a<par.length):(par++[n]).getD a 0=par.getD a 0:=by
 rw [List.getD_eq_getElem?_getD,List.getD_eq_getElem?_getD,List.getElem?_append_left h]
theorem getD_last {n:Nat}:(par++[n]).getD par.length 0=n:=by
 rw [List.getD_eq_getElem?_getD,List.getElem?_append_right (Nat.le_refl _),Nat.sub_self];rfl
theorem par_make (P:ParOk par):ParOk (par++[par.length]):=by
 intro i hi
 rw [List.length_append,List.length_singleton] at hi
 by_cases e:i<par.length
 ·rw [getD_append e];exact P i e
 ·obtain rfl:i=par.length:=by lia
  rw [getD_last];exact Nat.le_refl _
theorem rt_make (P:ParOk par):∀a,a<par.length→rt (par++[par.length]) a=rt par a:=rt_ind P (fun a hl e=>by rw [rt_self e,rt_self (by rw [getD_append hl];exact e)]) fun a hl e ih=>by
 rw [rt_step P hl e,rt_step (par_make P) (by simp;lia) (by rw [getD_append hl];exact e),getD_append hl];exact ih
theorem rt_new:rt (par++[par.length]) par.length=par.length:=rt_self getD_last
theorem getD_set {g k a:Nat} (hg:g<par.length):(par.set g k).getD a 0=if g=a then k else par.getD a 0:=by
 rw [List.getD_eq_getElem?_getD,List.getElem?_set]
 by_cases e:g=a
 ·rw [if_pos e,if_pos e];subst e;rw [if_pos hg];rfl
 ·rw [if_neg e,if_neg e,List.getD_eq_getElem?_getD]
theorem par_set (P:ParOk par) {g k:Nat} (hg:g<par.length) (hk:k<g):ParOk (par.set g k):=by
 intro i hi
 rw [List.length_set] at hi
 rw [getD_set hg]
 by_cases e:g=i
 ·rw [if_pos e];lia
 ·rw [if_neg e];exact P i hi
theorem rt_set (P:ParOk par) {g k:Nat} (hg:g<par.length) (hk:k<g) (rg:par.getD g 0=g) (rk:par.getD k 0=k):∀a,a<par.length→rt (par.set g k) a=if rt par a=g then k else rt par a:=by
 have P':=par_set P hg hk
 have hk':rt (par.set g k) k=k:=rt_self (by rw [getD_set hg,if_neg (by lia)];exact rk)
 refine rt_ind P (fun a hl e=>?_) fun a hl e ih=>?_
 ·rw [rt_self e]
  by_cases q:a=g
  ·subst q
   rw [if_pos rfl,rt_step P' (by rw [List.length_set];exact hl) (by rw [getD_set hg,if_pos rfl];lia),getD_set hg,if_pos rfl]
   exact hk'
  ·rw [if_neg q]
   exact rt_self (by rw [getD_set hg,if_neg (Ne.symm q)];exact e)
 ·have ne:g≠a:=fun q=>e (q▸rg)
  rw [rt_step P hl e,rt_step P' (by rw [List.length_set];exact hl) (by rw [getD_set hg,if_neg ne];exact e),getD_set hg,if_neg ne]
  exact ih
noncomputable def rootsN (par:List Nat):Nat:=((List.range par.length).filter fun i=>decide (par.getD i 0=i)).length
theorem roots_make:rootsN (par++[par.length])=rootsN par+1:=by
 unfold rootsN
 rw [List.length_append,List.length_singleton,List.range_succ,List.filter_append,List.length_append]
 congr 1
 ·congr 1
  apply List.filter_congr
  intro i hi
  rw [getD_append (List.mem_range.mp hi)]
 ·rw [List.filter_cons,getD_last,decide_eq_true rfl];rfl
theorem filter_less {l:List Nat} {p q:Nat→Bool} {g:Nat} (nd:l.Nodup) (hg:g∈l) (pg:p g=true) (qg:q g=false) (h:∀x∈l,x≠g→p x=q x):(l.filter q).length+1=(l.filter p).length:=by
 induction l with
 | nil=>cases hg
 | cons x l ih=>
  rw [List.nodup_cons] at nd
  rw [List.filter_cons,List.filter_cons]
  rcases List.mem_cons.mp hg with rfl | hg
  ·rw [pg,qg]
   simp only [Bool.false_eq_true,if_false,if_true,List.length_cons]
   rw [List.filter_congr (p:=p) (q:=q) fun y my=>h y (.tail _ my) fun e=>nd.1 (e▸my)]
  ·have:=ih nd.2 hg fun y my=>h y (.tail _ my)
   rw [h x (.head _) fun e=>nd.1 (e▸hg)]
   cases q x
   ·exact this
   ·simp only [if_true,List.length_cons];lia
theorem roots_set {g k:Nat} (hg:g<par.length) (hk:k<g) (rg:par.getD g 0=g):rootsN (par.set g k)+1=rootsN par:=by
 unfold rootsN
 rw [List.length_set]
 refine filter_less List.nodup_range (List.mem_range.mpr hg) (by rw [decide_eq_true rg]) (by rw [getD_set hg,if_pos rfl,decide_eq_false (by lia)]) fun x ξ ne=>?_
 rw [getD_set hg,if_neg (Ne.symm ne)]
end
abbrev uniI (h:Nat):CObj:=.inst 1 [(4,.ref (h+7)),(5,.ref (h+8)),(6,.ref (h+9))]
abbrev Lot:=Nat×List Nat
structure UniR (σ:CSt) (h:Nat) (par:List Nat) (lot:List Lot):Prop where
 i:σ[h+6]?=some (uniI h)
 pr:σ[h+7]?=some (.list (par.map nV))
 lots:σ[h+8]?=some (.list (lot.map fun p=>.ref p.1))
 merged:∃ms,σ[h+9]?=some (.list ms)∧ms.length+rootsN par≤par.length
 hi:∀p∈lot,h+15≤p.1
 lo:∀p∈lot,σ[p.1]?=some (.list (p.2.map nV))
 nd:(lot.map (·.1)).Nodup
 len:lot.length=par.length
 ok:ParOk par
 few:par.length≤60
 mem:∀(r:Nat) p,lot[r]?=some p→par.getD r 0=r→p.2.Nodup∧∀x,x∈p.2↔x<par.length∧rt par x=r
section
variable {A:Nat→Prop} {σ σ':CSt} {h a d:Nat} {par:List Nat} {lot:List Lot}
theorem UniR.frm (U:UniR σ h par lot) (x:Frm A σ σ') (n:∀k,(Nat.ble 6 k&&Nat.ble k 9)=true→¬A (h+k)) (n2:∀p∈lot,¬A p.1):UniR σ' h par lot:=
 ⟨x.keep _ _ U.i (n 6 rfl),x.keep _ _ U.pr (n 7 rfl),x.keep _ _ U.lots (n 8 rfl),(by obtain ⟨ms,e1,e2⟩:=U.merged;exact ⟨ms,x.keep _ _ e1 (n 9 rfl),e2⟩),U.hi,fun p m=>x.keep _ _ (U.lo p m) (n2 p m),U.nd,U.len,U.ok,U.few,U.mem⟩
theorem Does.num {ρ:Loc} {o e:CE} {b k:Nat} {ns:List Nat} {σ₁ σ₂:CSt} (So:Does d o ρ σ (.ref b) σ₁) (S:Does d e ρ σ₁ (nV k) σ₂) (hg:σ₂[b]?=some (.list (ns.map nV))) (hk:k<ns.length) (hl:ns.length≤2000):Does d (.sub o e) ρ σ (nV (ns.getD k 0)) σ₂:=
 .idx So S (ofSeq hg) (by rw [List.getElem?_map,List.getElem?_eq_getElem hk,getD_lt hk];rfl) (by rw [List.length_map];exact big hl rfl)
theorem UniR.few2 (U:UniR σ h par lot):par.length≤2000:=Nat.le_trans U.few (by decide)
theorem uni_len {ρ:Loc} (U:UniR σ h par lot) (h0:ρ 0=some (.ref (h+6))):Does d (.bi .len (.attr (.var 0) 4)) ρ σ (nV par.length) σ:=.len (.fld h0 U.i rfl rfl) (ofSeq U.pr) (List.length_map _) (big U.few rfl)
theorem uni_size (U:UniR σ h par lot):Calls (d+1) 10 [.ref (h+6)] σ (nV par.length) σ:=.run rfl rfl (.ret (uni_len U rfl))
theorem uni_find (U:UniR σ h par lot) (ha:a<par.length):Calls (d+1) 11 [.ref (h+6),nV a] σ (nV (rt par a)) σ:=by
 refine WhileD.inv (d:=d) (c:=.cmp .ne (.sub (.attr (.var 0) 4) (.var 1)) (.var 1)) (body:=[.assign 1 (.sub (.attr (.var 0) 4) (.var 1))])
  (fun m ρ τ=>τ=σ∧ρ 0=some (.ref (h+6))∧ρ 1=some (nV m)∧m<par.length∧rt par m=rt par a) (fun ρ τ=>τ=σ∧ρ 1=some (nV (rt par a))) (fun m ρ τ w97 zz k0 kk=>by
   obtain ⟨hτ,h0,h1,hm,hr⟩:=w97
   have hτ:=hτ.symm
   subst hτ
   have sub:Does d (.sub (.attr (.var 0) 4) (.var 1)) ρ σ (nV (par.getD m 0)) σ:=.num (.fld h0 U.i rfl rfl) (.var h1) U.pr hm U.few2
   have t:DoesT d (.cmp .ne (.sub (.attr (.var 0) 4) (.var 1)) (.var 1)) ρ σ _ σ:=.cmp sub (.var h1) ne_nat
   by_cases e:par.getD m 0=m
   ·exact k0 σ (.to t (by rw [decide_eq_true e];rfl)) ⟨rfl,h1.trans (congrArg (fun x=>some (nV x)) ((rt_self e).symm.trans hr))⟩
   ·have lt:par.getD m 0<m:=Nat.lt_of_le_of_ne (U.ok m hm) e
    exact kk σ _ σ _ (.to t (by rw [decide_eq_false e];rfl)) (.next (.assign sub rfl) .nil) lt ⟨rfl,(if_neg (by decide)).trans h0,if_pos rfl,Nat.lt_trans lt hm,(rt_step U.ok hm e).symm.trans hr⟩) a (ρ:=paramsL 0 [.ref (h+6),nV a]) (σ:=σ) ⟨rfl,rfl,rfl,ha,rfl⟩ fun n ρ' σ' W u=>?_
 obtain ⟨e1,e2⟩:=u
 exact .run rfl rfl (.next (.while W) (.ret (e1▸.var e2)))
end
section
variable {A:Nat→Prop} {σ σ':CSt} {h a d r:Nat} {par:List Nat} {lot:List Lot} {p:Lot}
theorem UniR.lotAt (U:UniR σ h par lot) (hr:r<par.length) {zz:Prop} (kk:∀p,lot[r]?=some p→p∈lot→zz):zz:=kk _ (List.getElem?_eq_getElem (U.len.symm▸hr)) (List.getElem_mem _)
theorem nodup_one {α:Type} {x:α}:[x].Nodup:=List.pairwise_singleton _ _
theorem lt_snoc {P:Prop} {n x:Nat} (h:x<n+1) (k1:x<n→P) (k2:x=n→P):P:=(Nat.lt_succ_iff_lt_or_eq.mp h).elim k1 k2
theorem uni_make_mem (U:UniR σ h par lot) {b:Nat} (hp:(lot++[(b,[par.length])])[r]?=some p) (hr:(par++[par.length]).getD r 0=r):p.2.Nodup∧∀x,x∈p.2↔x<(par++[par.length]).length∧rt (par++[par.length]) x=r:=by
 rw [List.length_append]
 refine snoc_at hp (fun lt e=>?_) fun e1 e2=>?_
 ·rw [U.len] at lt
  rw [getD_append lt] at hr
  obtain ⟨a,b⟩:=U.mem r p e hr
  refine ⟨a,fun x=>(b x).trans ⟨fun q=>⟨Nat.lt_succ_of_lt q.1,(rt_make U.ok x q.1).trans q.2⟩,fun q=>lt_snoc q.1 (fun l=>⟨l,(rt_make U.ok x l).symm.trans q.2⟩) fun l=>?_⟩⟩
  rw [l,rt_new] at q
  exact absurd lt (q.2▸Nat.lt_irrefl _)
 ·rw [U.len] at e1
  rw [e2,e1]
  refine ⟨nodup_one,fun x=>List.mem_singleton.trans ⟨fun q=>by rw [q];exact ⟨Nat.lt_succ_self _,rt_new⟩,fun q=>lt_snoc q.1 (fun l=>?_) id⟩⟩
  have:=rt_lt U.ok l
  rw [← rt_make U.ok x l,q.2] at this
  exact absurd this (Nat.lt_irrefl _)
theorem uni_make (U:UniR σ h par lot) (hl:h+15≤σ.length) (hf:par.length<60) {zz:Prop} (kk:∀σ',Calls (d+1) 9 [.ref (h+6)] σ (nV par.length) σ'→UniR σ' h (par++[par.length]) (lot++[(σ.length,[par.length])])→σ'.length=σ.length+1→Frm (fun a=>a=h+7∨a=h+8) σ σ'→zz):zz:=by
 have fb:=big U.few rfl
 have fb':par.length<BIG:=bigS U.few rfl
 obtain ⟨ms,m1,m2⟩:=U.merged
 generalize hσ₁:σ.set (h+7) (.list (par.map nV++[nV par.length]))=σ₁
 have l1:σ₁.length=σ.length:=by rw [← hσ₁,List.length_set]
 have f1:Frm (fun a=>a=h+7∨a=h+8) σ σ₁:=hσ₁▸.set (.inl rfl)
 generalize hσ₃:(σ₁++[CObj.list [nV par.length]]).set (h+8) (.list (lot.map (fun p=>CV.ref p.1)++[.ref σ₁.length]))=σ₃
 have f3:Frm (fun a=>a=h+7∨a=h+8) σ₁ σ₃:=hσ₃▸.trans .push (.set (.inr rfl))
 have F:=f1.trans f3
 have no:∀{k},Nat.beq k 7=false→Nat.beq k 8=false→¬(h+k=h+7∨h+k=h+8):=fun a b q=>q.elim (ne_off h a) (ne_off h b)
 have noH:∀{a},h+15≤a→¬(a=h+7∨a=h+8):=fun l q=>q.elim (hi_ne l rfl) (hi_ne l rfl)
 have i₁:=f1.keep _ _ U.i (no rfl rfl)
 have i₃:=F.keep _ _ U.i (no rfl rfl)
 have e₁:σ₁[h+8]?=some (.list (lot.map fun p=>.ref p.1)):=hσ₁▸get_ne U.lots (ne_off h rfl)
 have p₃:σ₃[h+7]?=some (.list (par.map nV++[nV par.length])):=hσ₃▸get_ne (get_app (hσ₁▸get_set U.pr)) (ne_off h rfl)
 have zl:(lot.map fun p=>CV.ref p.1).length=par.length:=by rw [List.length_map,U.len]
 refine kk σ₃ (.run rfl rfl (.expr (.app (.fld rfl U.i rfl rfl) U.pr (uni_len U rfl) U.pr (by rw [List.length_map];exact fb') hσ₁) (.expr (.app (.fld rfl i₁ rfl rfl) e₁ (.newl (.one (.len (.fld rfl i₁ rfl rfl) (ofSeq e₁) zl fb)) rfl) (get_app e₁) (by rw [zl];exact fb') hσ₃) (.ret (.bin (.len (n:=par.length+1) (.fld rfl i₃ rfl rfl) (ofSeq p₃) (by simp) fb') .int pred_nat))))) ⟨i₃,by rw [List.map_append];exact p₃,by rw [List.map_append,← hσ₃,l1];exact get_set (get_app e₁),⟨ms,F.keep _ _ m1 (no rfl rfl),by rw [roots_make,List.length_append];exact Nat.succ_le_succ m2⟩,fun p m=>(List.mem_append.mp m).elim (U.hi p) fun m=>by rw [List.mem_singleton.mp m];exact hl,fun p m=>(List.mem_append.mp m).elim (fun m=>F.keep _ _ (U.lo p m) (noH (U.hi p m))) fun m=>?_,?_,by rw [List.length_append,List.length_append,U.len];rfl,par_make U.ok,by rw [List.length_append];exact hf,fun r p=>uni_make_mem U⟩ (by rw [← hσ₃,List.length_set,List.length_append,l1];rfl) F
 ·rw [List.mem_singleton.mp m,← hσ₃,← l1]
  exact get_ne get_new (Ne.symm (hi_ne (l1▸hl) rfl))
 ·rw [List.map_append]
  refine List.nodup_append.mpr ⟨U.nd,nodup_one,fun a ma b mb q=>?_⟩
  obtain ⟨p,mp,e⟩:=List.mem_map.mp ma
  rw [List.mem_singleton.mp mb,← e] at q
  exact Nat.ne_of_lt (lt_of (U.lo p mp)) q
theorem lot_at {ρ:Loc} {e:CE} {σ₁:CSt} (U:UniR σ h par lot) (h0:ρ 0=some (.ref (h+6))) (i₁:σ₁[h+6]?=some (uniI h)) (l₁:σ₁[h+8]?=some (.list (lot.map fun p=>.ref p.1))) (S:Does d e ρ σ₁ (nV r) σ₁) (hp:lot[r]?=some p):Does d (.sub (.attr (.var 0) 5) e) ρ σ₁ (.ref p.1) σ₁:=
 .idx (.fld h0 i₁ rfl rfl) S (ofSeq l₁) (by rw [List.getElem?_map,hp];rfl) (by rw [List.length_map,U.len];exact big U.few rfl)
theorem nodup_few {l:List Nat} {n:Nat} (nd:l.Nodup) (h:∀x∈l,x<n):l.length≤n:=by
 have:=List.Nodup.length_le_of_subset nd (l₂:=List.range n) fun x mx=>List.mem_range.mpr (h x mx)
 rwa [List.length_range] at this
theorem uni_members (U:UniR σ h par lot) (ha:a<par.length) {rs:List Nat} (h1:rs.Pairwise (·<·)) (h2:∀x,x∈rs↔x<par.length∧rt par x=rt par a):Calls (d+2) 13 [.ref (h+6),nV a] σ (.lst (rs.map nV)) σ:=by
 refine U.lotAt (rt_lt U.ok ha) fun p hp mp=>?_
 obtain ⟨nd,mem⟩:=U.mem _ p hp (rt_root U.ok a ha)
 exact .run rfl rfl (.ret (.bi (lot_at U rfl U.i U.lots (.umeth (.var rfl) U.i rfl (.one (.var rfl)) (uni_find U ha)) hp) (.sorted (.nats nd (Nat.lt_of_le_of_lt (nodup_few nd fun x mx=>((mem x).mp mx).1) (Nat.lt_of_le_of_lt U.few (by decide))) ((List.perm_ext_iff_of_nodup (h1.imp Nat.ne_of_lt) nd).mpr fun x=>(h2 x).trans (mem x).symm) h1) (ofList (U.lo p mp)))))
theorem ItD.rangeN {ρ:Loc} {c:CE} {n:Nat} {one:Bool} {σ₁:CSt} (S:Does d c ρ σ (nV n) σ₁) (hn:n<BIG):ItD d .range one [c] ρ σ ((List.range n).map nV) none σ₁:=.range S (Int.natCast_nonneg n) (Int.ofNat_lt.mpr hn)
abbrev rootsL (par:List Nat):List Nat:=(List.range par.length).filter fun i=>decide (par.getD i 0=i)
theorem uni_classes (U:UniR σ h par lot):Calls (d+1) 14 [.ref (h+6)] σ (.lst ((rootsL par).map nV)) σ:=
 .run rfl rfl (.ret (.cfil0 (.rangeN (uni_len U rfl) (bigS U.few rfl)) (by rw [List.length_range];exact big U.few rfl) (fun k m=>.cmp (.num (.fld rfl U.i rfl rfl) (.var rfl) U.pr (List.mem_range.mp m) U.few2) (.var rfl) eq_nat) fun k ξ ξ=>.var rfl))
end
structure Two (par:List Nat) (a b k g:Nat):Prop where
 ha:a<par.length
 hb:b<par.length
 kg:k<g
 gl:g<par.length
 rk:par.getD k 0=k
 rg:par.getD g 0=g
 hk:min (rt par a) (rt par b)=k
 hg:max (rt par a) (rt par b)=g
section
variable {A:Nat→Prop} {σ σ':CSt} {h a b d r k g:Nat} {par:List Nat} {lot:List Lot} {p pk pg:Lot}
theorem two_of (P:ParOk par) (ha:a<par.length) (hb:b<par.length) (ne:rt par a≠rt par b) {zz:Prop} (kk:∀k g,Two par a b k g→zz):zz:=by
 have ra:=rt_root P a ha
 have rb:=rt_root P b hb
 rcases Nat.lt_or_gt_of_ne ne with l | l
 ·exact kk _ _ ⟨ha,hb,l,rt_lt P hb,ra,rb,Nat.min_eq_left (Nat.le_of_lt l),Nat.max_eq_right (Nat.le_of_lt l)⟩
 ·exact kk _ _ ⟨ha,hb,l,rt_lt P ha,rb,ra,Nat.min_eq_right (Nat.le_of_lt l),Nat.max_eq_left (Nat.le_of_lt l)⟩
theorem Two.kl (T:Two par a b k g):k<par.length:=Nat.lt_trans T.kg T.gl
theorem Two.rt (T:Two par a b k g) (P:ParOk par):∀x,x<par.length→rt (par.set g k) x=if rt par x=g then k else rt par x:=rt_set P T.gl T.kg T.rg T.rk
theorem set_get {α:Type} {l:List α} {i j:Nat} {x y:α} (hi:l[i]?=some y):(l.set i x)[j]?=if i=j then some x else l[j]?:=by
 rw [List.getElem?_set]
 by_cases e:i=j
 ·rw [if_pos e,if_pos e,if_pos (e▸(List.getElem?_eq_some_iff.mp hi).1)]
 ·rw [if_neg e,if_neg e]
theorem set_same {α β:Type} {l:List α} {i:Nat} {x y:α} {f:α→β} (hi:l[i]?=some y) (e:f x=f y):(l.set i x).map f=l.map f:=List.ext_getElem? fun j=>by
 rw [List.getElem?_map,set_get hi,List.getElem?_map]
 by_cases q:i=j
 ·rw [if_pos q,← q,hi];exact congrArg some e
 ·rw [if_neg q]
theorem UniR.one (U:UniR σ h par lot) {i j:Nat} {p q:Lot} (hi:lot[i]?=some p) (hj:lot[j]?=some q) (e:p.1=q.1):i=j:=by
 have h1:(lot.map (·.1))[i]?=some p.1:=by rw [List.getElem?_map,hi];rfl
 have h2:(lot.map (·.1))[j]?=some p.1:=by rw [List.getElem?_map,hj,e];rfl
 exact (List.getElem?_inj (List.getElem?_eq_some_iff.mp h1).1 U.nd).mp (h1.trans h2.symm)
theorem two_sort {ρ:Loc} {ea eb:CE} (T:Two par a b k g) (Sa:Does d ea ρ σ (nV (rt par a)) σ) (Sb:Does d eb ρ σ (nV (rt par b)) σ):Does d (.bi .sorted (.lst [ea,eb])) ρ σ (.lst [nV k,nV g]) σ:=by
 have:=BiD.sorted (d:=d) (σ:=σ) (SortsTo.two (rt par a) (rt par b)) (v:=.lst _) rfl
 rw [T.hk,T.hg] at this
 exact .bi (.lst (.cons Sa (.one Sb)) rfl) this
theorem uni_same (U:UniR σ h par lot) (ha:a<par.length) (hb:b<par.length) (e:rt par a=rt par b):Calls (d+2) 12 [.ref (h+6),nV a,nV b] σ .none σ:=by
 have:=BiD.sorted (d:=d+1) (σ:=σ) (SortsTo.two (rt par b) (rt par b)) (v:=.lst _) rfl
 rw [Nat.min_self,Nat.max_self] at this
 exact .run rfl rfl (.next (.assignT (.bi (.lst (.cons (.umeth (.var rfl) U.i rfl (.one (.var rfl)) (e▸uni_find U ha)) (.one (.umeth (.var rfl) U.i rfl (.one (.var rfl)) (uni_find U hb)))) rfl) this) rfl rfl) (.stop (.ite (i:=true) (.to (.cmp (.var rfl) (.var rfl) eq_nat) (decide_eq_true rfl)) (.ret .nil))))
theorem merge_mem (U:UniR σ h par lot) (T:Two par a b k g) (hpk:lot[k]?=some pk) (hpg:lot[g]?=some pg) (hp:(lot.set k (pk.1,pk.2++pg.2))[r]?=some p) (hr:(par.set g k).getD r 0=r):p.2.Nodup∧∀x,x∈p.2↔x<(par.set g k).length∧rt (par.set g k) x=r:=by
 rw [set_get hpk] at hp
 rw [getD_set T.gl] at hr
 rw [List.length_set]
 have ng:g≠r:=fun q=>by rw [if_pos q] at hr;exact Nat.ne_of_lt T.kg (hr.trans q.symm)
 rw [if_neg ng] at hr
 have rs:=T.rt U.ok
 by_cases q:k=r
 ·rw [if_pos q] at hp
  obtain ⟨ndk,memk⟩:=U.mem k pk hpk T.rk
  obtain ⟨ndg,memg⟩:=U.mem g pg hpg T.rg
  rw [← Option.some.inj hp,← q]
  refine ⟨List.nodup_append.mpr ⟨ndk,ndg,fun x mx y my z=>Nat.ne_of_lt T.kg (((memk x).mp mx).2.symm.trans (z▸((memg y).mp my).2))⟩,fun x=>List.mem_append.trans ⟨fun m=>m.elim (fun m=>?_) fun m=>?_,fun ⟨lx,rx⟩=>?_⟩⟩
  ·have ⟨lx,e⟩:=(memk x).mp m
   exact ⟨lx,by rw [rs x lx,if_neg (e▸Nat.ne_of_lt T.kg),e]⟩
  ·have ⟨lx,e⟩:=(memg x).mp m
   exact ⟨lx,by rw [rs x lx,if_pos e]⟩
  ·rw [rs x lx] at rx
   by_cases z:Mine.rt par x=g
   ·exact .inr ((memg x).mpr ⟨lx,z⟩)
   ·rw [if_neg z] at rx;exact .inl ((memk x).mpr ⟨lx,rx⟩)
 ·rw [if_neg q] at hp
  obtain ⟨n1,n2⟩:=U.mem r p hp hr
  refine ⟨n1,fun x=>(n2 x).trans ⟨fun w102=>by obtain ⟨lx,rx⟩:=w102;exact ⟨lx,by rw [rs x lx,if_neg (rx▸Ne.symm ng),rx]⟩,fun ⟨lx,rx⟩=>⟨lx,?_⟩⟩⟩
  rw [rs x lx] at rx
  by_cases z:Mine.rt par x=g
  ·rw [if_pos z] at rx;exact absurd rx q
  ·rw [if_neg z] at rx;exact rx
theorem uni_merge (U:UniR σ h par lot) (T:Two par a b k g) (hpk:lot[k]?=some pk) (hpg:lot[g]?=some pg) {zz:Prop} (kk:∀σ',Calls (d+2) 12 [.ref (h+6),nV a,nV b] σ (.tup [nV k,nV g]) σ'→UniR σ' h (par.set g k) (lot.set k (pk.1,pk.2++pg.2))→σ'.length=σ.length→Frm (fun a=>a=h+7∨a=h+9∨a=pk.1) σ σ'→zz):zz:=by
 have mpk:=List.mem_of_getElem? hpk
 have mpg:=List.mem_of_getElem? hpg
 have few:∀{r p},lot[r]?=some p→par.getD r 0=r→p.2.length≤60:=fun e q=>have ⟨n,m⟩:=U.mem _ _ e q;Nat.le_trans (nodup_few n fun x mx=>((m x).mp mx).1) U.few
 have hk:=U.hi pk mpk
 obtain ⟨ms,m1,m2⟩:=U.merged
 generalize hσ₁:σ.set (h+7) (.list ((par.map nV).set g (nV k)))=σ₁
 have i₁:σ₁[h+6]?=some (uniI h):=hσ₁▸get_ne U.i (ne_off h rfl)
 have l₁:σ₁[h+8]?=some (.list (lot.map fun p=>.ref p.1)):=hσ₁▸get_ne U.lots (ne_off h rfl)
 have lo₁:∀p∈lot,σ₁[p.1]?=some (.list (p.2.map nV)):=fun p m=>hσ₁▸get_ne (U.lo p m) (Ne.symm (hi_ne (U.hi p m) rfl))
 have c₁:=lo₁ pk mpk
 generalize hσ₂:σ₁.set pk.1 (.list (pk.2.map nV++pg.2.map nV))=σ₂
 have i₂:σ₂[h+6]?=some (uniI h):=hσ₂▸get_ne i₁ (hi_ne hk rfl)
 have m₂:σ₂[h+9]?=some (.list ms):=hσ₂▸get_ne (hσ₁▸get_ne m1 (ne_off h rfl)) (hi_ne hk rfl)
 generalize hσ₃:σ₂.set (h+9) (.list (ms++[.tup [nV k,nV g]]))=σ₃
 have F:Frm (fun a=>a=h+7∨a=h+9∨a=pk.1) σ σ₃:=((hσ₁▸.set (.inl rfl):Frm _ σ σ₁).trans (hσ₂▸.set (.inr (.inr rfl)):Frm _ σ₁ σ₂)).trans (hσ₃▸.set (.inr (.inl rfl)):Frm _ σ₂ σ₃)
 have no:∀{k},Nat.blt k 15=true→Nat.beq k 7=false→Nat.beq k 9=false→¬(h+k=h+7∨h+k=h+9∨h+k=pk.1):=fun l a b q=>q.elim (ne_off h a) fun q=>q.elim (ne_off h b) (Ne.symm (hi_ne hk l))
 refine kk σ₃ (.run rfl rfl (.next (.assignT (two_sort T (.umeth (.var rfl) U.i rfl (.one (.var rfl)) (uni_find U T.ha)) (.umeth (.var rfl) U.i rfl (.one (.var rfl)) (uni_find U T.hb))) rfl rfl) (.next (.skip (.to (.cmp (.var rfl) (.var rfl) eq_nat) (decide_eq_false (Nat.ne_of_lt T.kg)))) (.next (.assignS (.var rfl) (.fld rfl U.i rfl rfl) (.var rfl) (hσ₁▸.list U.pr (by rw [List.length_map];exact T.gl) (by rw [List.length_map];exact big U.few rfl)) rfl)
  (.expr (.ext (lot_at U rfl i₁ l₁ (.var rfl) hpk) c₁ (lot_at U rfl i₁ l₁ (.var rfl) hpg) c₁ (ofList (lo₁ pg mpg)) (by rw [List.length_map,List.length_map];exact big (Nat.add_le_add (few hpk T.rk) (few hpg T.rg)) rfl) hσ₂)
  (.expr (.app (.fld rfl i₂ rfl rfl) m₂ (.tup (.cons (.var rfl) (.one (.var rfl))) rfl) m₂ (bigS (Nat.le_trans (Nat.le_trans (Nat.le_add_right _ _) m2) U.few) rfl) hσ₃) (.ret (.tup (.cons (.var rfl) (.one (.var rfl))) rfl)))))))) ⟨F.keep _ _ U.i (no rfl rfl rfl),?_,?_,⟨_,hσ₃▸get_set m₂,?_⟩,fun p mp=>?_,fun p mp=>?_,by rw [set_same (x:=(pk.1,pk.2++pg.2)) (f:=fun p:Lot=>p.1) hpk rfl];exact U.nd,by rw [List.length_set,List.length_set,U.len],par_set U.ok T.gl T.kg,by rw [List.length_set];exact U.few,fun r p=>merge_mem U T hpk hpg⟩ (by rw [← hσ₃,List.length_set,← hσ₂,List.length_set,← hσ₁,List.length_set]) F
 ·rw [List.map_set]
  exact hσ₃▸get_ne (hσ₂▸get_ne (hσ₁▸get_set U.pr) (hi_ne hk rfl)) (ne_off h rfl)
 ·rw [set_same (x:=(pk.1,pk.2++pg.2)) (f:=fun p:Lot=>CV.ref p.1) hpk rfl]
  exact F.keep _ _ U.lots (no rfl rfl rfl)
 ·rw [List.length_append,List.length_set,List.length_singleton,Nat.add_right_comm,Nat.add_assoc,roots_set T.gl T.kg T.rg]
  exact m2
 ·exact (List.mem_or_eq_of_mem_set mp).elim (U.hi p) fun e=>e▸hk
 ·obtain ⟨j,hj⟩:=List.mem_iff_getElem?.mp mp
  rw [set_get hpk] at hj
  by_cases q:k=j
  ·rw [if_pos q] at hj
   rw [← Option.some.inj hj,List.map_append]
   exact hσ₃▸get_ne (hσ₂▸get_set c₁) (Ne.symm (hi_ne hk rfl))
  ·rw [if_neg q] at hj
   have l:=U.hi p (List.mem_of_getElem? hj)
   exact F.keep _ _ (U.lo p (List.mem_of_getElem? hj)) fun z=>z.elim (hi_ne l rfl) fun z=>z.elim (hi_ne l rfl) fun z=>q (U.one hpk hj z.symm)
end
section
variable {α β:Type} [DecidableEq α] {kf:α→CV} {vf:β→CV} {l:List (α×β)} {a:α} {b:β}
noncomputable def derase (l:List (α×β)) (a:α):List (α×β):=l.filter fun p=>decide (p.1≠a)
theorem derase_out (h:a∉l.map (·.1)):derase l a=l:=List.filter_eq_self.mpr fun p m=>decide_eq_true fun q=>h (q▸List.mem_map.mpr ⟨p,m,rfl⟩)
theorem KeyF.erase (K:KeyF kf):∀{l:List (α×β)},(l.map (·.1)).Nodup→eraseK (dm kf vf l) (kf a)=dm kf vf (derase l a):=by
 intro l
 induction l with
 | nil=>
  intro ξ
  exact rfl
 | cons p l ih=>
  intro nd
  have n:=List.nodup_cons.mp nd
  show ((kf p.1,vf p.2)::dm kf vf l).eraseP _=dm kf vf ((p::l).filter _)
  rw [List.eraseP_cons,K.dec,List.filter_cons]
  by_cases e:p.1=a
  ·rw [decide_eq_true e,decide_eq_false (fun q=>q e),if_neg Bool.false_ne_true]
   have n1:p.1∉l.map (·.1):=n.1
   exact congrArg (fun l=>dm kf vf l) (derase_out (e▸n1)).symm
  ·rw [decide_eq_false e,decide_eq_true (p:=p.1≠a) e,if_pos rfl]
   exact congrArg ((kf p.1,vf p.2)::·) (ih n.2)
theorem mem_derase {p:α×β}:p∈derase l a↔p∈l∧p.1≠a:=List.mem_filter.trans (and_congr_right fun ξ=>decide_eq_true_iff)
theorem derase_keys:(derase l a).map (·.1)=(l.map (·.1)).filter fun c=>decide (c≠a):=by
 unfold derase
 rw [List.filter_map];rfl
theorem dset_keys:∀{l:List (α×β)},a∈l.map (·.1)→(dset l a b).map (·.1)=l.map (·.1):=by
 intro l
 induction l with
 | nil=>
  intro h
  exact nomatch h
 | cons p l ih=>
  intro h
  show (if p.1=a then (a,b)::l else p::dset l a b).map (·.1)=_
  by_cases e:p.1=a
  ·rw [if_pos e,List.map_cons,List.map_cons,e]
  ·rw [if_neg e,List.map_cons,List.map_cons,ih ((List.mem_cons.mp h).resolve_left (Ne.symm e))]
theorem mem_dset:∀{l:List (α×β)} {p:α×β},(l.map (·.1)).Nodup→p∈dset l a b→p=(a,b)∨(p∈l∧p.1≠a):=by
 intro l
 induction l with
 | nil=>
  intro p ξ m
  exact .inl (List.mem_singleton.mp m)
 | cons q l ih=>
  intro p nd m
  have n:=List.nodup_cons.mp nd
  have m:p∈(if q.1=a then (a,b)::l else q::dset l a b):=m
  by_cases e:q.1=a
  ·rw [if_pos e] at m
   exact (List.mem_cons.mp m).imp id fun m=>⟨.tail _ m,fun z=>n.1 (List.mem_map.mpr ⟨p,m,z.trans e.symm⟩)⟩
  ·rw [if_neg e] at m
   exact (List.mem_cons.mp m).elim (fun z=>.inr ⟨z▸.head _,z▸e⟩) fun m=>(ih n.2 m).imp id fun z=>⟨.tail _ z.1,z.2⟩
noncomputable def dsum (f:α×β→Nat) (l:List (α×β)):Nat:=(l.map f).sum
theorem dsum_erase {f:α×β→Nat}:∀{l:List (α×β)} {p:α×β},(l.map (·.1)).Nodup→p∈l→dsum f (derase l p.1)+f p=dsum f l:=by
 intro l
 induction l with
 | nil=>
  intros
  contradiction
 | cons q l ih=>
  intro p nd m
  have n:=List.nodup_cons.mp nd
  unfold dsum derase
  rw [List.filter_cons,List.map_cons,List.sum_cons]
  rcases List.mem_cons.mp m with e | m
  ·rw [e,if_neg (by simp),show List.filter _ l=l from derase_out n.1,Nat.add_comm]
  ·have ne:q.1≠p.1:=fun z=>n.1 (List.mem_map.mpr ⟨p,m,z.symm⟩)
   rw [if_pos (by simpa using ne),List.map_cons,List.sum_cons,Nat.add_assoc]
   exact congrArg _ (ih n.2 m)
theorem dsum_set {f:α×β→Nat}:∀{l:List (α×β)} {p:α×β},(l.map (·.1)).Nodup→p∈l→dsum f (dset l p.1 b)+f p=dsum f l+f (p.1,b):=by
 intro l
 induction l with
 | nil=>
  intros
  contradiction
 | cons q l ih=>
  intro p nd m
  have n:=List.nodup_cons.mp nd
  show (List.map f (if _ then _ else _)).sum+_=(List.map f _).sum+_
  rw [List.map_cons,List.sum_cons]
  rcases List.mem_cons.mp m with e | m
  ·rw [e,if_pos rfl,List.map_cons,List.sum_cons];lia
  ·have ne:q.1≠p.1:=fun z=>n.1 (List.mem_map.mpr ⟨p,m,z.symm⟩)
   rw [if_neg ne,List.map_cons,List.sum_cons,Nat.add_assoc,Nat.add_assoc]
   exact congrArg _ (ih n.2 m)
theorem dsum_mem {f:α×β→Nat}:∀{l:List (α×β)} {p:α×β},p∈l→f p≤dsum f l:=by
 intro l
 induction l with
 | nil=>
  intros
  contradiction
 | cons q l ih=>
  intro p m
  unfold dsum
  rw [List.map_cons,List.sum_cons]
  exact (List.mem_cons.mp m).elim (fun e=>e▸Nat.le_add_right _ _) fun m=>Nat.le_trans (ih m) (Nat.le_add_left _ _)
end
abbrev Use:=Nat×Nat×List Nat
structure HS where
 rows:List Row
 par:List Nat
 lot:List Lot
 use:List Use
 known:List (Row×Nat)
 waiting:List Nat
 edges:List CV
 forest:List CV
 told:Nat
abbrev heapI (h:Nat):CObj:=.inst 2 [(7,.ref (h+1)),(8,.ref (h+6)),(9,.ref (h+10)),(10,.ref (h+11)),(11,.ref (h+12)),(4,.ref (h+13)),(12,.ref (h+14)),(13,.int 0)]
abbrev knV (known:List (Row×Nat)):List (CV×CV):=dm rowV nV known
abbrev useV (use:List Use):List (CV×CV):=dm nV (fun q:Nat×List Nat=>.ref q.1) use
abbrev useSum (use:List Use):Nat:=dsum (fun p=>p.2.2.length) use
noncomputable def flat (n:Nat) (l:List CV):Prop:=∀x∈l,Dat x=true∧dp x≤n
structure HR (σ:CSt) (h:Nat) (S:HS):Prop where
 i:σ[h]?=some (heapI h)
 B:BankR σ h S.rows
 U:UniR σ h S.par S.lot
 K:RowsOk S.rows
 n:S.rows.length=S.par.length
 e:σ[h+10]?=some (.list S.edges)
 ef:flat 3 S.edges
 f:σ[h+11]?=some (.list S.forest)
 ff:flat 0 S.forest
 k:∃ep,σ[h+12]?=some (.dict (knV S.known) ep)
 u:∃ep,σ[h+13]?=some (.dict (useV S.use) ep)
 w:σ[h+14]?=some (.list (S.waiting.map nV))
 uh:∀p∈S.use,h+15≤p.2.1
 uc:∀p∈S.use,σ[p.2.1]?=some (.list (p.2.2.map nV))
 nd:(S.lot.map (·.1)++S.use.map (·.2.1)).Nodup
 uk:(S.use.map (·.1)).Nodup
 um:∀c,c∈S.use.map (·.1)↔c<S.par.length∧S.par.getD c 0=c
 kd:(S.known.map (·.1)).Nodup
 kw:∀p∈S.known,p.1.2.length≤2
 kn:∀p∈S.known,p.2<S.par.length
 wo:∀x∈S.waiting,x<S.par.length
 uo:∀p∈S.use,∀x∈p.2.2,x<S.par.length
 room:h+15≤σ.length
 ul:useSum S.use≤2*S.par.length
 pot:S.known.length+S.waiting.length+rootsN S.par*121≤S.par.length*122
 el:S.edges.length+rootsN S.par≤S.par.length+S.told
 tl:S.told≤100
 fl:S.forest.length+rootsN S.par≤S.par.length
inductive Own (h:Nat) (S:HS):Nat→Prop
 | lo {k} (l:Nat.blt k 15=true):Own h S (h+k)
 | lot {p} (m:p∈S.lot):Own h S p.1
 | use {p} (m:p∈S.use):Own h S p.2.1
structure Stp (h:Nat) (S:HS) (σ:CSt) (S':HS) (σ':CSt):Prop where
 frm:Frm (Own h S) σ σ'
 own:∀a,Own h S' a→Own h S a∨σ.length≤a
noncomputable def nodeOf (S:HS) (i:Nat):Row:=match S.rows[i]? with
 | some r=>(r.1,r.2.map (rt S.par))
 | none=>(0,[])
section
variable {A:Nat→Prop} {σ σ' σ'':CSt} {h a d i:Nat} {S S' S'':HS} {r:Row}
theorem HR.frm (H:HR σ h S) (x:Frm A σ σ') (n:∀a,Own h S a→¬A a):HR σ' h S:=
 have o:∀k,Nat.blt k 15=true→¬A (h+k):=fun k hk=>n _ (.lo hk)
 {H with
  i:=x.keep _ _ H.i (o 0 rfl),B:=H.B.frm x fun k l=>o k (Nat.ble_eq.mpr (Nat.le_trans (Nat.le_of_ble_eq_true l) (by decide))),U:=H.U.frm x (fun k l=>o k (Nat.ble_eq.mpr (Nat.le_trans (Nat.succ_le_succ (Nat.le_of_ble_eq_true (an l).2)) (by decide)))) fun p m=>n _ (.lot m),
  e:=x.keep _ _ H.e (o 10 rfl),f:=x.keep _ _ H.f (o 11 rfl),k:=(by obtain ⟨ep,e⟩:=H.k;exact ⟨ep,x.keep _ _ e (o 12 rfl)⟩),u:=(by obtain ⟨ep,e⟩:=H.u;exact ⟨ep,x.keep _ _ e (o 13 rfl)⟩),w:=x.keep _ _ H.w (o 14 rfl),
  uc:=fun p m=>x.keep _ _ (H.uc p m) (n _ (.use m)),room:=Nat.le_trans H.room x.len }
theorem Stp.refl:Stp h S σ S σ:=⟨.refl,fun ξ o=>.inl o⟩
theorem Stp.trans (x:Stp h S σ S' σ') (y:Stp h S' σ' S'' σ''):Stp h S σ S'' σ'':=
 ⟨⟨Nat.le_trans x.frm.len y.frm.len,fun a o e n=>y.frm.keep a o (x.frm.keep a o e n) fun o=>(x.own a o).elim n (Nat.not_le_of_lt (lt_of e))⟩,fun a o=>(y.own a o).elim (x.own a) fun q=>.inr (Nat.le_trans x.frm.len q)⟩
theorem HR.low (H:HR σ h S) (o:Own h S a):h≤a:=by
 cases o with
 | lo l=>exact Nat.le_add_right _ _
 | lot m=>exact Nat.le_trans (Nat.le_add_right _ 15) (H.U.hi _ m)
 | use m=>exact Nat.le_trans (Nat.le_add_right _ 15) (H.uh _ m)
theorem HR.kid (H:HR σ h S) (hi:S.rows[i]?=some r):∀k∈r.2,k<S.par.length:=fun k m=>Nat.lt_trans (H.K.kids i r hi k m) (H.n▸(List.getElem?_eq_some_iff.mp hi).1)
theorem HR.rowAt (H:HR σ h S) (hi:i<S.par.length) {zz:Prop} (kk:∀r,S.rows[i]?=some r→zz):zz:=kk _ (List.getElem?_eq_getElem (H.n.symm▸hi))
theorem nodeOf_at (hi:S.rows[i]?=some r):nodeOf S i=(r.1,r.2.map (rt S.par)):=by unfold nodeOf;rw [hi]
theorem heap_size (H:HR σ h S):Calls (d+2) 16 [.ref h] σ (nV S.par.length) σ:=
 .run rfl rfl (.ret (.umeth (.fld rfl H.i rfl rfl) H.B.i rfl .nil (H.n▸bank_size H.B (Nat.le_trans H.K.few (by decide)))))
theorem heap_find (H:HR σ h S) (hi:i<S.par.length):Calls (d+2) 20 [.ref h,nV i] σ (nV (rt S.par i)) σ:=
 .run rfl rfl (.ret (.umeth (.fld rfl H.i rfl rfl) H.U.i rfl (.one (.var rfl)) (uni_find H.U hi)))
theorem heap_classes (H:HR σ h S):Calls (d+2) 24 [.ref h] σ (.lst ((rootsL S.par).map nV)) σ:=
 .run rfl rfl (.ret (.umeth (.fld rfl H.i rfl rfl) H.U.i rfl .nil (uni_classes H.U)))
theorem heap_members (H:HR σ h S) (hi:i<S.par.length) {rs:List Nat} (h1:rs.Pairwise (·<·)) (h2:∀x,x∈rs↔x<S.par.length∧rt S.par x=rt S.par i):Calls (d+3) 25 [.ref h,nV i] σ (.lst (rs.map nV)) σ:=
 .run rfl rfl (.ret (.umeth (.fld rfl H.i rfl rfl) H.U.i rfl (.one (.var rfl)) (uni_members H.U hi h1 h2)))
theorem Does.find {ρ:Loc} {e:CE} {j:Nat} (H:HR σ h S) (h0:ρ j=some (.ref h)) (S':Does (d+2) e ρ σ (nV i) σ) (hi:i<S.par.length):Does (d+2) (.umeth (.var j) 7 [e]) ρ σ (nV (rt S.par i)) σ:=.umeth (.var h0) H.i rfl (.one S') (heap_find H hi)
theorem heap_node (H:HR σ h S) (hi:i<S.par.length):Calls (d+3) 17 [.ref h,nV i] σ (rowV (nodeOf S i)) σ:=by
 refine H.rowAt hi fun r hr=>?_
 have wd:=H.K.w hr
 have:=Does.cmap0 (d:=d+2) (ρ:=paramsL 0 [.ref h,nV i]) (t:=2) (k:=.val) (src:=[.umeth (.attr (.var 0) 7) 4 [.var 1]]) (e:=.umeth (.var 0) 7 [.var 2]) (fi:=nV) (go:=fun k=>nV (rt S.par k)) (l:=r.2) (.val (.umeth (.fld rfl H.i rfl rfl) H.B.i rfl (.one (.var rfl)) (bank_kids H.B H.K hr)) .tup) (big wd rfl) fun k m=>.find H rfl (.var rfl) (H.kid hr k m)
 rw [nodeOf_at hr]
 exact .run rfl rfl (.ret (.row (.umeth (.fld rfl H.i rfl rfl) H.B.i rfl (.one (.var rfl)) (bank_op H.B H.K hr)) (.bi this (.tuple (by rw [List.map_map];rfl) (by rw [List.length_map,List.length_map];exact big wd rfl))) (by rw [List.length_map];exact Nat.le_trans wd (by decide))))
end
noncomputable def Lo (h:Nat) (ks:List Nat) (a:Nat):Prop:=∃k∈ks,a=h+k
abbrev At (h:Nat) (ks:List Nat) (b a:Nat):Prop:=a=b∨Lo h ks a
section
variable {h b a k:Nat} {ks:List Nat}
theorem Lo.on (m:ks.contains k=true):Lo h ks (h+k):=⟨k,List.contains_iff_mem.mp m,rfl⟩
theorem Lo.off (p:Nat→Bool) (hk:p k=true) (hp:(ks.all fun j=>!p j)=true):¬Lo h ks (h+k):=fun w107=>by
 obtain ⟨j,m,e⟩:=w107
 rw [Nat.add_left_cancel e] at hk
 have:=List.all_eq_true.mp hp j m
 rw [hk] at this;cases this
theorem Lo.far (l:h+15≤a) (hp:(ks.all fun j=>Nat.blt j 15)=true):¬Lo h ks a:=fun w106=>by obtain ⟨ξ,m,e⟩:=w106;exact hi_ne l (List.all_eq_true.mp hp _ m) e
theorem At.off (hb:h+15≤b) (l:Nat.blt k 15=true) (p:Nat→Bool) (hk:p k=true) (hp:(ks.all fun j=>!p j)=true):¬At h ks b (h+k):=fun q=>q.elim (Ne.symm (hi_ne hb l)) (Lo.off p hk hp)
theorem At.far (l:h+15≤a) (n:a≠b) (hp:(ks.all fun j=>Nat.blt j 15)=true):¬At h ks b a:=fun q=>q.elim n (Lo.far l hp)
theorem blt_of {k n m:Nat} (h:Nat.blt k n=true) (l:Nat.ble n m=true):Nat.blt k m=true:=Nat.ble_eq.mpr (Nat.le_trans (Nat.le_of_ble_eq_true h) (Nat.le_of_ble_eq_true l))
end
noncomputable def edgeV (a b:Nat) (x:CV):CV:=.tup [nV a,nV b,x]
noncomputable def joinS (S:HS) (k g:Nat) (pk pg:Lot) (uk ug:Nat×List Nat) (x:CV) (new:Nat):HS:=
 {S with par:=S.par.set g k,lot:=S.lot.set k (pk.1,pk.2++pg.2),use:=dset (derase S.use g) k (new,uk.2++ug.2),waiting:=S.waiting++ug.2,edges:=S.edges++[x],forest:=S.forest++[nV S.edges.length] }
section
variable {σ:CSt} {h a b d k g:Nat} {S:HS} {x:CV} {pk pg:Lot} {uk ug:Nat×List Nat}
theorem HR.useAt (H:HR σ h S) {c:Nat} (hc:c<S.par.length) (hr:S.par.getD c 0=c) {zz:Prop} (kk:∀u,(c,u)∈S.use→zz):zz:=by
 obtain ⟨p,m,e⟩:=List.mem_map.mp ((H.um c).mpr ⟨hc,hr⟩)
 exact kk p.2 (e▸m)
theorem use_one {use:List Use} (nd:(use.map (·.2.1)).Nodup) {p q:Use} (mp:p∈use) (mq:q∈use) (e:p.2.1=q.2.1):p.1=q.1:=by
 obtain ⟨i,hi,e1⟩:=List.mem_iff_getElem.mp mp
 obtain ⟨j,hj,e2⟩:=List.mem_iff_getElem.mp mq
 have z:i=j:=(List.getElem_inj (h₀:=by rw [List.length_map];exact hi) (h₁:=by rw [List.length_map];exact hj) nd).mp (by rw [List.getElem_map,List.getElem_map,e1,e2,e])
 rw [← e1,← e2];simp only [z]
theorem HR.useLen (H:HR σ h S):S.use.length≤60:=List.length_map (as:=S.use) (·.1)▸Nat.le_trans (nodup_few H.uk fun c m=>((H.um c).mp m).1) H.U.few
theorem HR.edge (H:HR σ h S) (hx:Dat x=true) (dx:dp x≤2):flat 3 (S.edges++[edgeV a b x]):=fun y m=>(List.mem_append.mp m).elim (H.ef y) fun m=>by
 rw [List.mem_singleton.mp m]
 exact ⟨Dats_all fun z m=>(List.mem_cons.mp m).elim (fun e=>e▸rfl) fun m=>(List.mem_cons.mp m).elim (fun e=>e▸rfl) fun m=>List.mem_singleton.mp m▸hx,dp_tup fun z m=>(List.mem_cons.mp m).elim (fun e=>e▸Nat.zero_le _) fun m=>(List.mem_cons.mp m).elim (fun e=>e▸Nat.zero_le _) fun m=>List.mem_singleton.mp m▸dx⟩
theorem HR.eLt (H:HR σ h S):S.edges.length<BIG:=bigS (n:=160) (by have:=H.el;have:=H.tl;have:=H.U.few;lia) rfl
theorem join_same (H:HR σ h S) (ha:a<S.par.length) (hb:b<S.par.length) (e:rt S.par a=rt S.par b) (hx:Dat x=true) (dx:dp x≤2) (ht:S.told<100) {zz:Prop} (kk:∀σ',Calls (d+3) 22 [.ref h,nV a,nV b,x] σ (.bool false) σ'→HR σ' h { S with edges:=S.edges++[edgeV a b x],told:=S.told+1 }→σ'.length=σ.length→Stp h S σ { S with edges:=S.edges++[edgeV a b x],told:=S.told+1 } σ'→zz):zz:=by
 generalize hσ₁:σ.set (h+10) (.list (S.edges++[edgeV a b x]))=σ₁
 have f:Frm (fun a=>a=h+10) σ σ₁:=hσ₁▸.set rfl
 have U₁:=H.U.frm f (fun k l q=>by rw [Nat.add_left_cancel q] at l;cases l) fun p m=>hi_ne (H.U.hi p m) rfl
 have i₁:σ₁[h]?=some (heapI h):=f.keep _ _ H.i (ne_off h (j:=0) rfl)
 refine kk σ₁ (.run rfl rfl (.expr (.app (.fld rfl H.i rfl rfl) H.e (.tup (.cons (.var rfl) (.cons (.var rfl) (.one (.var rfl)))) rfl) H.e H.eLt hσ₁) (.next (.assign (.umeth (.fld rfl i₁ rfl rfl) U₁.i rfl (.cons (.var rfl) (.one (.var rfl))) (uni_same U₁ ha hb e)) rfl) (.stop (.ite (i:=true) (.cmp (.var rfl) .nil .isN) (.ret .bool)))))) { H with
  i:=i₁,B:=H.B.frm f fun k l q=>by rw [Nat.add_left_cancel q] at l;cases l
  U:=U₁,e:=hσ₁▸get_set H.e,ef:=H.edge hx dx,f:=f.keep _ _ H.f (ne_off h rfl),k:=(by obtain ⟨ep,e⟩:=H.k;exact ⟨ep,f.keep _ _ e (ne_off h rfl)⟩),u:=(by obtain ⟨ep,e⟩:=H.u;exact ⟨ep,f.keep _ _ e (ne_off h rfl)⟩),w:=f.keep _ _ H.w (ne_off h rfl),uc:=fun p m=>f.keep _ _ (H.uc p m) (hi_ne (H.uh p m) rfl),room:=Nat.le_trans H.room f.len
  el:=by rw [List.length_append,Nat.add_right_comm];exact Nat.succ_le_succ H.el
  tl:=ht } (by rw [← hσ₁,List.length_set]) ⟨f.mono fun a ξ q=>q▸.lo rfl,fun a o=>.inl (by cases o with | lo l=>exact .lo l | lot m=>exact .lot m | use m=>exact .use m)⟩
structure JoinD (d h:Nat) (σ:CSt) (S:HS) (a b:Nat) (x:CV) (k g:Nat) (pk pg:Lot) (uk ug:Nat×List Nat) (σ':CSt):Prop where
 T:Two S.par a b k g
 hpk:S.lot[k]?=some pk
 hpg:S.lot[g]?=some pg
 muk:(k,uk)∈S.use
 mug:(g,ug)∈S.use
 go:Calls (d+3) 22 [.ref h,nV a,nV b,x] σ (.bool true) σ'
 H:HR σ' h (joinS S k g pk pg uk ug (edgeV a b x) σ.length)
 len:σ'.length=σ.length+1
 st:Stp h S σ (joinS S k g pk pg uk ug (edgeV a b x) σ.length) σ'
theorem join_diff (H:HR σ h S) (ha:a<S.par.length) (hb:b<S.par.length) (ne:rt S.par a≠rt S.par b) (hx:Dat x=true) (dx:dp x≤2) {zz:Prop} (kk:∀k g pk pg uk ug σ',JoinD d h σ S a b x k g pk pg uk ug σ'→zz):zz:=by
 refine two_of H.U.ok ha hb ne fun k g T=>?_
 refine H.U.lotAt T.kl fun pk hpk mpk=>?_
 refine H.U.lotAt T.gl fun pg hpg mpg=>?_
 refine H.useAt T.kl T.rk fun uk muk=>?_
 refine H.useAt T.gl T.rg fun ug mug=>?_
 have hk:=H.U.hi pk mpk
 have nd':=List.nodup_append.mp H.nd
 have pkU:∀p∈S.use,p.2.1≠pk.1:=fun p m q=>nd'.2.2 _ (List.mem_map.mpr ⟨pk,mpk,rfl⟩) _ (List.mem_map.mpr ⟨p,m,rfl⟩) q.symm
 have few:=H.U.few
 have ugl:ug.2.length≤120:=Nat.le_trans (dsum_mem (f:=fun p:Use=>p.2.2.length) mug) (Nat.le_trans H.ul (Nat.mul_le_mul_left 2 few))
 have ukl:uk.2.length≤120:=Nat.le_trans (dsum_mem (f:=fun p:Use=>p.2.2.length) muk) (Nat.le_trans H.ul (Nat.mul_le_mul_left 2 few))
 have wl:S.waiting.length≤8000:=by have:=H.pot;lia
 obtain ⟨kep,kn⟩:=H.k
 obtain ⟨uep,us⟩:=H.u
 generalize hσ₁:σ.set (h+10) (.list (S.edges++[edgeV a b x]))=σ₁
 have f₁:Frm (At h [7,9,10,11,13,14] pk.1) σ σ₁:=hσ₁▸.set (.inr (.on rfl))
 have f₁':Frm (fun a=>a=h+10) σ σ₁:=hσ₁▸.set rfl
 have U₁:=H.U.frm f₁' (fun k l q=>by rw [Nat.add_left_cancel q] at l;cases l) fun p m=>hi_ne (H.U.hi p m) rfl
 have i₁:σ₁[h]?=some (heapI h):=f₁'.keep _ _ H.i (ne_off h (j:=0) rfl)
 refine uni_merge (d:=d) U₁ T hpk hpg fun σ₂ hm U₂ l₂ f₂'=>?_
 have f₂:Frm (At h [7,9,10,11,13,14] pk.1) σ₁ σ₂:=f₂'.mono fun a ξ q=>q.elim (fun e=>.inr (e▸.on rfl)) fun q=>q.elim (fun e=>.inr (e▸.on rfl)) .inl
 generalize hσ₃:σ₂.set (h+11) (.list (S.forest++[nV S.edges.length]))=σ₃
 generalize hσ₄:σ₃.set (h+14) (.list (S.waiting.map nV++ug.2.map nV))=σ₄
 generalize hσ₅:σ₄.set (h+13) (.dict (useV (derase S.use g)) (uep+1))=σ₅
 generalize hσ₆:σ₅++[CObj.list (uk.2.map nV++ug.2.map nV)]=σ₆
 generalize hσ₇:σ₆.set (h+13) (.dict (useV (dset (derase S.use g) k (σ.length,uk.2++ug.2))) (uep+1))=σ₇
 have f₃:Frm (Lo h [11,13,14]) σ₂ σ₃:=hσ₃▸.set (.on rfl)
 have f₄:Frm (Lo h [11,13,14]) σ₃ σ₄:=hσ₄▸.set (.on rfl)
 have f₅:Frm (Lo h [11,13,14]) σ₄ σ₅:=hσ₅▸.set (.on rfl)
 have f₆:Frm (Lo h [11,13,14]) σ₅ σ₆:=hσ₆▸.push
 have f₇:Frm (Lo h [11,13,14]) σ₆ σ₇:=hσ₇▸.set (.on rfl)
 have no:∀{k},Nat.blt k 15=true→([7,9,10,11,13,14].all fun j=>!Nat.beq k j)=true→¬At h [7,9,10,11,13,14] pk.1 (h+k):=fun {k} l n=>At.off hk l (Nat.beq k) (Nat.beq_refl k) n
 have noU:∀p∈S.use,¬At h [7,9,10,11,13,14] pk.1 p.2.1:=fun p m=>At.far (H.uh p m) (pkU p m) rfl
 have up:∀{τ τ'},Frm (Lo h [11,13,14]) τ τ'→Frm (At h [7,9,10,11,13,14] pk.1) τ τ':=fun f=>f.mono fun a ξ w105=>by obtain ⟨k,m,e⟩:=w105;exact .inr ⟨k,List.mem_append_right [7,9,10] m,e⟩
 have g₂:=f₁.trans f₂
 have g₃:=g₂.trans (up f₃)
 have g₄:=g₃.trans (up f₄)
 have g₅:=g₄.trans (up f₅)
 have f₂₇:=(((f₃.trans f₄).trans f₅).trans f₆).trans f₇
 have F:=g₂.trans (up f₂₇)
 have i₂:=g₂.keep _ _ H.i (no (k:=0) rfl rfl)
 have i₃:=g₃.keep _ _ H.i (no (k:=0) rfl rfl)
 have i₄:=g₄.keep _ _ H.i (no (k:=0) rfl rfl)
 have i₆:=(g₅.trans (up f₆)).keep _ _ H.i (no (k:=0) rfl rfl)
 have on₂:∀{k o},σ[h+k]?=some o→Nat.blt k 15=true→Nat.beq k 10=false→Nat.beq k 7=false→Nat.beq k 9=false→σ₂[h+k]?=some o:=fun e l a b c=>f₂'.keep _ _ (f₁'.keep _ _ e (ne_off h a)) fun q=>q.elim (ne_off h b) fun q=>q.elim (ne_off h c) (Ne.symm (hi_ne hk l))
 have e₂:σ₂[h+10]?=some (.list (S.edges++[edgeV a b x])):=f₂'.keep _ _ (hσ₁▸get_set H.e) fun q=>q.elim (ne_off h rfl) fun q=>q.elim (ne_off h rfl) (Ne.symm (hi_ne hk rfl))
 have fo₂:=on₂ H.f rfl rfl rfl rfl
 have w₃:σ₃[h+14]?=some (.list (S.waiting.map nV)):=hσ₃▸get_ne (on₂ H.w rfl rfl rfl rfl) (ne_off h rfl)
 have us₃:σ₃[h+13]?=some (.dict (useV S.use) uep):=hσ₃▸get_ne (on₂ us rfl rfl rfl rfl) (ne_off h rfl)
 have us₄:σ₄[h+13]?=some (.dict (useV S.use) uep):=hσ₄▸get_ne us₃ (ne_off h rfl)
 have us₅:σ₅[h+13]?=some (.dict (useV (derase S.use g)) (uep+1)):=hσ₅▸get_set us₄
 have us₆:σ₆[h+13]?=some (.dict (useV (derase S.use g)) (uep+1)):=hσ₆▸get_app us₅
 have fk:findK (useV S.use) (nV k)=some (.ref uk.1):=by rw [keyF_nat.find,dget_of H.uk muk];rfl
 have fg:findK (useV S.use) (nV g)=some (.ref ug.1):=by rw [keyF_nat.find,dget_of H.uk mug];rfl
 have ul:(useV S.use).length≤BIG:=by show (List.map _ _).length≤BIG;rw [List.length_map];exact big H.useLen rfl
 have elen:(S.edges++[edgeV a b x]).length=S.edges.length+1:=List.length_append
 have mE:(k,uk)∈derase S.use g:=mem_derase.mpr ⟨muk,Nat.ne_of_lt T.kg⟩
 have kE:k∈(derase S.use g).map (·.1):=List.mem_map.mpr ⟨_,mE,rfl⟩
 have ndE:((derase S.use g).map (·.1)).Nodup:=by rw [derase_keys];exact H.uk.filter _
 have l₅:σ₅.length=σ.length:=by rw [← hσ₅,← hσ₄,← hσ₃,List.length_set,List.length_set,List.length_set,l₂,← hσ₁,List.length_set]
 have l₇:σ₇.length=σ.length+1:=by rw [← hσ₇,List.length_set,← hσ₆,List.length_append,l₅];rfl
 have st:StoreD (d+2) (.ref (h+13)) (nV k) (.ref σ₅.length) σ₆ σ₇:=by
  have:=StoreD.dict (d:=d+2) (i:=nV k) (v:=.ref σ.length) us₆ keyF_nat.kin (by show (List.map _ _).length<BIG;rw [List.length_map];exact bigS (Nat.le_trans (List.length_filter_le _ _) H.useLen) rfl)
  rw [keyF_nat.has,if_pos (dget_key.mpr kE)] at this
  rw [l₅,← hσ₇]
  unfold useV
  rw [← keyF_nat.set]
  exact this
 have pop:Does (d+2) (.bmeth (.attr (.var 0) 4) .pop [.var 6]) (upd (upd (upd (paramsL 0 [.ref h,nV a,nV b,x]) 4 (.tup [nV k,nV g])) 5 (nV k)) 6 (nV g)) σ₄ (.ref ug.1) σ₅:=by
  have:=BmC.popD (d:=d+2) us₄ keyF_nat.kin fg ul
  rw [keyF_nat.erase H.uk,hσ₅] at this
  exact .bmeth .popD (.fld rfl i₄ rfl rfl) (.dict us₄) (.one (.var rfl)) this
 have go:Calls (d+3) 22 [.ref h,nV a,nV b,x] σ (.bool true) σ₇:=.run rfl rfl (.expr (.app (.fld rfl H.i rfl rfl) H.e (.tup (.cons (.var rfl) (.cons (.var rfl) (.one (.var rfl)))) rfl) H.e H.eLt hσ₁) (.next (.assign (.umeth (.fld rfl i₁ rfl rfl) U₁.i rfl (.cons (.var rfl) (.one (.var rfl))) hm) rfl) (.next (.skip (.cmp (.var rfl) .nil .isT)) (.next (.assignT (.var rfl) rfl rfl)
  (.expr (.app (.fld rfl i₂ rfl rfl) fo₂ (.bin (.len (.fld rfl i₂ rfl rfl) (ofSeq e₂) elen H.eLt) .int pred_nat) fo₂ (bigS (Nat.le_trans (Nat.le_add_right _ _) (Nat.le_trans H.fl few)) rfl) hσ₃)
  (.expr (.ext (.fld rfl i₃ rfl rfl) w₃ (.sub (.fld rfl i₃ rfl rfl) (.var rfl) (.dict (ofDict us₃) keyF_nat.kin fg)) w₃ (ofList (g₃.keep _ _ (H.uc _ mug) (noU _ mug))) (by rw [List.length_map,List.length_map];exact big (Nat.add_le_add wl ugl) rfl) hσ₄)
  (.next (.assignS (.addm (.sub (.fld rfl i₄ rfl rfl) (.var rfl) (.dict (ofDict us₄) keyF_nat.kin fk)) pop (hσ₆▸.addM (ofList (g₅.keep _ _ (H.uc _ muk) (noU _ muk))) (ofList (g₅.keep _ _ (H.uc _ mug) (noU _ mug))) (by rw [List.length_map,List.length_map];exact big (Nat.add_le_add ukl ugl) rfl))) (.fld rfl i₆ rfl rfl) (.var rfl) st rfl)
  (.ret .bool))))))))
 have rs:=roots_set T.gl T.kg T.rg
 have pl:(S.par.set g k).length=S.par.length:=List.length_set
 have U₇:UniR σ₇ h (S.par.set g k) (S.lot.set k (pk.1,pk.2++pg.2)):=U₂.frm f₂₇ (fun k l=>Lo.off (fun k=>Nat.ble 6 k&&Nat.ble k 9) l rfl) fun p m=>Lo.far (U₂.hi p m) rfl
 have lots:(S.lot.set k (pk.1,pk.2++pg.2)).map (·.1)=S.lot.map (·.1):=set_same (x:=(pk.1,pk.2++pg.2)) (f:=fun p:Lot=>p.1) hpk rfl
 refine kk k g pk pg uk ug σ₇ ⟨T,hpk,hpg,muk,mug,go,?_,l₇,?_⟩
 ·refine {
      i:=F.keep _ _ H.i (no (k:=0) rfl rfl),B:=H.B.frm F fun k l=>At.off hk (blt_of l rfl) (Nat.blt · 6) l rfl,U:=U₇,K:=H.K,n:=H.n.trans pl.symm,e:=f₂₇.keep _ _ e₂ (Lo.off (Nat.beq 10) rfl rfl),ef:=H.edge hx dx
      f:=hσ₇▸get_ne (hσ₆▸get_app (hσ₅▸get_ne (hσ₄▸get_ne (hσ₃▸get_set fo₂) (ne_off h rfl)) (ne_off h rfl))) (ne_off h rfl)
      ff:=fun y m=>(List.mem_append.mp m).elim (H.ff y) fun m=>List.mem_singleton.mp m▸⟨rfl,Nat.le_refl _⟩
      k:=⟨kep,F.keep _ _ kn (no rfl rfl)⟩,u:=⟨_,hσ₇▸get_set us₆⟩
      w:=List.map_append (f:=nV)▸hσ₇▸get_ne (hσ₆▸get_app (hσ₅▸get_ne (hσ₄▸get_set w₃) (ne_off h rfl))) (ne_off h rfl)
      uh:=fun p m=>(mem_dset ndE m).elim (fun e=>e▸H.room) fun m=>H.uh p (mem_derase.mp m.1).1
      uc:=fun p m=>(mem_dset ndE m).elim (fun e=>by
       rw [e,← l₅,List.map_append,← hσ₇]
       exact get_ne (hσ₆▸get_new) (Ne.symm (hi_ne (l₅.symm▸H.room) rfl))) fun m=>F.keep _ _ (H.uc p (mem_derase.mp m.1).1) (noU p (mem_derase.mp m.1).1)
      nd:=?_,uk:=(dset_keys (b:=(σ.length,uk.2++ug.2)) kE).symm▸ndE
      um:=fun c=>?_
      kd:=H.kd,kw:=H.kw,kn:=fun p m=>pl.symm▸H.kn p m
      wo:=fun y m=>pl.symm▸(List.mem_append.mp m).elim (H.wo y) (H.uo _ mug y)
      uo:=fun p m y my=>pl.symm▸(mem_dset ndE m).elim (fun e=>by rw [e] at my;exact (List.mem_append.mp my).elim (H.uo _ muk y) (H.uo _ mug y)) fun m=>H.uo p (mem_derase.mp m.1).1 y my
      room:=Nat.le_trans H.room F.len,ul:=?_,pot:=?_,el:=?_,tl:=H.tl,fl:=?_ }
  ·refine List.nodup_append.mpr ⟨lots▸nd'.1,List.pairwise_map.mpr (List.Pairwise.imp_of_mem (fun {p q} mp mq npq e=>?_) (List.pairwise_map.mp (dset_keys (b:=(σ.length,uk.2++ug.2)) kE▸ndE))),fun y my z mz q=>?_⟩
   ·have new:∀{r:Use},r∈S.use→r.2.1≠σ.length:=fun m=>Nat.ne_of_lt (lt_of (H.uc _ m))
    rcases mem_dset ndE mp with e1 | ⟨m1,_⟩<;>rcases mem_dset ndE mq with e2 | ⟨m2,_⟩
    ·exact npq (by rw [e1,e2])
    ·rw [e1] at e;exact new (mem_derase.mp m2).1 e.symm
    ·rw [e2] at e;exact new (mem_derase.mp m1).1 e
    ·exact npq (use_one nd'.2.1 (mem_derase.mp m1).1 (mem_derase.mp m2).1 e)
   ·rw [show (joinS S k g pk pg uk ug (edgeV a b x) σ.length).lot.map (·.1)=S.lot.map (·.1) from lots] at my
    obtain ⟨p,mp,e⟩:=List.mem_map.mp mz
    rcases mem_dset ndE mp with e1 | ⟨m1,_⟩
    ·obtain ⟨p',mp',e'⟩:=List.mem_map.mp my
     rw [e1] at e
     exact Nat.ne_of_lt (lt_of (H.U.lo _ mp')) (e'.trans (q.trans e.symm))
    ·exact nd'.2.2 _ my _ (List.mem_map.mpr ⟨p,(mem_derase.mp m1).1,e⟩) q
  ·show c∈(dset (derase S.use g) k (σ.length,uk.2++ug.2)).map (·.1)↔c<(S.par.set g k).length∧(S.par.set g k).getD c 0=c
   rw [dset_keys kE,derase_keys,List.mem_filter,H.um,decide_eq_true_iff,pl,getD_set T.gl]
   constructor
   ·rintro ⟨⟨c1,c2⟩,c3⟩;exact ⟨c1,by rw [if_neg (Ne.symm c3)];exact c2⟩
   ·rintro ⟨c1,c2⟩
    by_cases e:g=c
    ·rw [if_pos e] at c2;exact absurd (c2.trans e.symm) (Nat.ne_of_lt T.kg)
    ·rw [if_neg e] at c2;exact ⟨⟨c1,c2⟩,Ne.symm e⟩
  all_goals rw [show (joinS S k g pk pg uk ug (edgeV a b x) σ.length).par.length=S.par.length from pl]
  ·have s1:=dsum_set (f:=fun p:Use=>p.2.2.length) (b:=(σ.length,uk.2++ug.2)) ndE mE
   have s2:=dsum_erase (f:=fun p:Use=>p.2.2.length) H.uk mug
   have:=H.ul
   simp only [List.length_append] at s1 s2
   show useSum (dset (derase S.use g) k (σ.length,uk.2++ug.2))≤_
   lia
  ·show S.known.length+(S.waiting++ug.2).length+rootsN (S.par.set g k)*121≤S.par.length*122
   rw [List.length_append]
   have:=H.pot
   lia
  ·show (S.edges++[edgeV a b x]).length+rootsN (S.par.set g k)≤S.par.length+S.told
   rw [elen,Nat.add_right_comm,Nat.add_assoc,rs]
   exact H.el
  ·show (S.forest++[nV S.edges.length]).length+rootsN (S.par.set g k)≤S.par.length
   rw [List.length_append,List.length_singleton,Nat.add_right_comm,Nat.add_assoc,rs]
   exact H.fl
 ·refine ⟨F.mono fun a ξ q=>q.elim (fun e=>e▸.lot mpk) fun w104=>by obtain ⟨j,m,e⟩:=w104;exact e▸.lo (List.all_eq_true.mp (show ([7,9,10,11,13,14].all fun j=>Nat.blt j 15)=true from rfl) j m),fun a o=>?_⟩
  cases o with
  | lo l=>exact .inl (.lo l)
  | lot m=>exact (List.mem_or_eq_of_mem_set m).elim (fun m=>.inl (.lot m)) fun e=>.inl (e▸Own.lot (p:=pk) mpk)
  | use m=>exact (mem_dset ndE m).elim (fun e=>.inr (e▸Nat.le_refl _)) fun m=>.inl (.use (mem_derase.mp m.1).1)
end
structure Inv {α:Type} (c:Nat→α) (ex:Nat→Prop) (S:HS):Prop where
 users:∀p∈S.use,∀(i:Nat) r,S.rows[i]?=some r→(∃k∈r.2,rt S.par k=p.1)→i∈p.2.2
 snd:∀i,i<S.par.length→c (rt S.par i)=c i
 ksnd:∀p∈S.known,∃s,S.rows[p.2]?=some s∧s.1=p.1.1∧s.2.map c=p.1.2.map c
 kkid:∀p∈S.known,∀k∈p.1.2,k<S.par.length
 done:∀i,i<S.par.length→i∈S.waiting∨ex i∨∃j,(nodeOf S i,j)∈S.known∧rt S.par j=rt S.par i
noncomputable def Cong {α:Type} (c:Nat→α) (rows:List Row):Prop:=∀(i j:Nat) r s,rows[i]?=some r→rows[j]?=some s→r.1=s.1→r.2.map c=s.2.map c→c i=c j
structure Coarse (S S':HS):Prop where
 n:S'.par.length=S.par.length
 up:∀a b,a<S.par.length→b<S.par.length→rt S.par a=rt S.par b→rt S'.par a=rt S'.par b
theorem Coarse.refl {S:HS}:Coarse S S:=⟨rfl,fun ξ ξ ξ ξ e=>e⟩
theorem Coarse.trans {S S' S'':HS} (x:Coarse S S') (y:Coarse S' S''):Coarse S S'':=⟨y.n.trans x.n,fun a b ha hb e=>y.up a b (x.n.symm▸ha) (x.n.symm▸hb) (x.up a b ha hb e)⟩
noncomputable def fuelS (S:HS):Nat:=S.waiting.length+rootsN S.par*121
structure Goes {α:Type} (c:Nat→α) (ex:Nat→Prop) (h:Nat) (σ:CSt) (S:HS) (σ':CSt) (S':HS):Prop where
 H:HR σ' h S'
 I:Inv c ex S'
 C:Coarse S S'
 st:Stp h S σ S' σ'
 rows:S'.rows=S.rows
section
variable {σ σ':CSt} {h a b d k g n:Nat} {S S':HS} {x v:CV} {pk pg:Lot} {uk ug:Nat×List Nat} {α:Type} {c:Nat→α} {xx:Nat→Prop}
structure JoinR (c:Nat→α) (xx:Nat→Prop) (d h:Nat) (σ:CSt) (S:HS) (a b:Nat) (x v:CV) (σ':CSt) (S':HS):Prop extends Goes c xx h σ S σ' S' where
 go:Calls (d+3) 22 [.ref h,nV a,nV b,x] σ v σ'
 known:S'.known=S.known
 told:S'.told≤S.told+1
 told':rt S.par a≠rt S.par b→S'.told=S.told
 fuel:fuelS S'≤fuelS S
 one:rt S'.par a=rt S'.par b
 node:∀i,i<S.par.length→i∈S'.waiting∨nodeOf S' i=nodeOf S i
theorem JoinD.res (J:JoinD d h σ S a b x k g pk pg uk ug σ') (H:HR σ h S) (I:Inv c xx S) (e:c a=c b):JoinR c xx d h σ S a b x (.bool true) σ' (joinS S k g pk pg uk ug (edgeV a b x) σ.length):=by
 have T:=J.T
 have rs:=T.rt H.U.ok
 have pl:(joinS S k g pk pg uk ug (edgeV a b x) σ.length).par.length=S.par.length:=List.length_set
 have ckg:c k=c g:=by
  rw [← T.hk,← T.hg]
  rcases Nat.le_total (rt S.par a) (rt S.par b) with q | q
  ·rw [Nat.min_eq_left q,Nat.max_eq_right q,I.snd a T.ha,I.snd b T.hb,e]
  ·rw [Nat.min_eq_right q,Nat.max_eq_left q,I.snd a T.ha,I.snd b T.hb,e]
 have ndE:((derase S.use g).map (·.1)).Nodup:=derase_keys (l:=S.use)▸H.uk.filter _
 have nodes:∀i,i<S.par.length→i∈S.waiting++ug.2∨nodeOf (joinS S k g pk pg uk ug (edgeV a b x) σ.length) i=nodeOf S i:=fun i hi=>by
  refine H.rowAt hi fun r hr=>?_
  by_cases q:∃y∈r.2,rt S.par y=g
  ·exact .inl (List.mem_append_right _ (I.users _ J.mug i r hr q))
  ·rw [nodeOf_at hr,nodeOf_at (S:=joinS S k g pk pg uk ug (edgeV a b x) σ.length) hr]
   exact .inr (congrArg (Prod.mk r.1) (List.map_congr_left fun y my=>(rs y (H.kid hr y my)).trans (if_neg fun z=>q ⟨y,my,z⟩)))
 refine { H:=J.H,C:=⟨pl,fun y z hy hz q=>?_⟩,st:=J.st,rows:=rfl,go:=J.go,known:=rfl,told:=Nat.le_succ _,told':=fun ξ=>rfl,fuel:=?_,one:=?_,node:=nodes,I:=⟨fun p mp i r hr ⟨y,my,ry⟩=>?_,fun i hi=>?_,I.ksnd,fun p mp y my=>pl▸I.kkid p mp y my,fun i hi=>?_⟩ }
 ·replace ry:rt (S.par.set g k) y=p.1:=ry
  rw [rs y (H.kid hr y my)] at ry
  rcases mem_dset ndE mp with e | ⟨mp,np⟩
  ·rw [e]
   refine List.mem_append.mpr ?_
   by_cases q:rt S.par y=g
   ·exact .inr (I.users _ J.mug i r hr ⟨y,my,q⟩)
   ·rw [if_neg q,e] at ry
    exact .inl (I.users _ J.muk i r hr ⟨y,my,ry⟩)
  ·by_cases q:rt S.par y=g
   ·rw [if_pos q] at ry;exact absurd ry.symm np
   ·rw [if_neg q] at ry
    exact I.users p (mem_derase.mp mp).1 i r hr ⟨y,my,ry⟩
 ·rw [pl] at hi
  show c (rt (S.par.set g k) i)=c i
  rw [rs i hi]
  by_cases q:rt S.par i=g
  ·rw [if_pos q,ckg,← q];exact I.snd i hi
  ·rw [if_neg q];exact I.snd i hi
 ·rw [pl] at hi
  rcases nodes i hi with w | nq
  ·exact .inl w
  ·rcases I.done i hi with w | e | ⟨j,mj,ej⟩
   ·exact .inl (List.mem_append_left _ w)
   ·exact .inr (.inl e)
   ·refine .inr (.inr ⟨j,nq▸mj,?_⟩)
    show rt (S.par.set g k) j=rt (S.par.set g k) i
    rw [rs j (H.kn _ mj),rs i hi,ej]
 ·show rt (S.par.set g k) y=rt (S.par.set g k) z
  rw [rs y hy,rs z hz,q]
 ·have s1:=roots_set T.gl T.kg T.rg
  have s2:=dsum_mem (f:=fun p:Use=>p.2.2.length) J.mug
  have s3:=H.ul
  have s4:=H.U.few
  show (S.waiting++ug.2).length+rootsN (S.par.set g k)*121≤S.waiting.length+rootsN S.par*121
  rw [List.length_append]
  lia
 ·show rt (S.par.set g k) a=rt (S.par.set g k) b
  rw [rs a T.ha,rs b T.hb,← T.hk,← T.hg]
  rcases Nat.le_total (rt S.par a) (rt S.par b) with q | q
  ·rw [Nat.min_eq_left q,Nat.max_eq_right q,ite_self,if_pos rfl]
  ·rw [Nat.min_eq_right q,Nat.max_eq_left q,ite_self,if_pos rfl]
theorem heap_join (H:HR σ h S) (I:Inv c xx S) (ha:a<S.par.length) (hb:b<S.par.length) (hc:c a=c b) (hx:Dat x=true) (dx:dp x≤2) (ht:rt S.par a=rt S.par b→S.told<100) {zz:Prop} (kk:∀v σ' S',JoinR c xx d h σ S a b x v σ' S'→zz):zz:=by
 by_cases e:rt S.par a=rt S.par b
 ·refine join_same (d:=d) H ha hb e hx dx (ht e) fun σ' h1 h2 ξ h4=>?_
  exact kk _ σ' _ { H:=h2,I:={ I with },C:=⟨rfl,fun ξ ξ ξ ξ e=>e⟩,st:=h4,rows:=rfl,go:=h1,known:=rfl,told:=Nat.le_refl _,told':=fun q=>absurd e q,fuel:=Nat.le_refl _,one:=e,node:=fun i ξ=>.inr rfl }
 ·refine join_diff (d:=d) H ha hb e hx dx fun k g pk pg uk ug σ' J=>?_
  exact kk _ _ _ (J.res H I hc)
theorem heap_merge (H:HR σ h S) (I:Inv c xx S) (ha:a<S.par.length) (hb:b<S.par.length) (hc:c a=c b) (hx:Dat x=true) (dx:dp x≤2) (ht:S.told<100) {zz:Prop} (kk:∀v σ' S',Calls (d+4) 21 [.ref h,nV a,nV b,x] σ v σ'→Goes c xx h σ S σ' S'→S'.told≤S.told+1→rt S'.par a=rt S'.par b→zz):zz:=
 heap_join (d:=d) H I ha hb hc hx dx (fun ξ=>ht) fun v σ' S' J=>kk v σ' S' (.run rfl rfl (.ret (.umeth (.var rfl) H.i rfl (.cons (.var rfl) (.cons (.var rfl) (.one (.var rfl)))) J.go))) J.toGoes J.told J.one
theorem nodeOf_row (H:HR σ h S) (hn:n<S.par.length):(nodeOf S n).2.length≤2∧∀k∈(nodeOf S n).2,k<S.par.length:=by
 refine H.rowAt hn fun r hr=>?_
 rw [nodeOf_at hr]
 exact ⟨(List.length_map (as:=r.2) _).symm▸H.K.w hr,fun k m=>(by obtain ⟨y,my,e⟩:=List.mem_map.mp m;exact e▸rt_lt H.U.ok (H.kid hr y my))⟩
theorem HR.cell (H:HR σ h S) {o:CObj} (l:(Nat.ble 12 k&&Nat.ble k 14)=true) (hw:(σ.set (h+k) o)[h+14]?=some (.list (S'.waiting.map nV))) (hk:∃ep,(σ.set (h+k) o)[h+12]?=some (.dict (knV S'.known) ep)) (hu:∃ep,(σ.set (h+k) o)[h+13]?=some (.dict (useV S.use) ep))
  (e:S'={ S with waiting:=S'.waiting,known:=S'.known }) (kd:(S'.known.map (·.1)).Nodup) (kw:∀p∈S'.known,p.1.2.length≤2) (kn:∀p∈S'.known,p.2<S.par.length) (wo:∀x∈S'.waiting,x<S.par.length) (pot:S'.known.length+S'.waiting.length+rootsN S.par*121≤S.par.length*122):HR (σ.set (h+k) o) h S'∧Stp h S σ S' (σ.set (h+k) o):=by
 generalize S'.waiting=w at *
 generalize S'.known=q at *
 subst e
 have f:Frm (fun a=>a=h+k) σ (σ.set (h+k) o):=.set rfl
 have l15:Nat.blt k 15=true:=Nat.ble_eq.mpr (Nat.succ_le_succ (Nat.le_of_ble_eq_true (an l).2))
 have n:∀j,Nat.blt j 12=true→h+j≠h+k:=fun j hj q=>Nat.lt_irrefl _ (Nat.lt_of_lt_of_le (Nat.le_of_ble_eq_true hj) (Nat.add_left_cancel q▸Nat.le_of_ble_eq_true (an l).1))
 exact ⟨{ H with
  i:=f.keep _ _ H.i (n 0 rfl),B:=H.B.frm f fun j l=>n j (blt_of l rfl),U:=H.U.frm f (fun j l=>n j (Nat.ble_eq.mpr (Nat.le_trans (Nat.succ_le_succ (Nat.le_of_ble_eq_true (an l).2)) (by decide)))) fun p m=>hi_ne (H.U.hi p m) l15,e:=f.keep _ _ H.e (n 10 rfl),f:=f.keep _ _ H.f (n 11 rfl),k:=hk,u:=hu,w:=hw
  uc:=fun p m=>f.keep _ _ (H.uc p m) (hi_ne (H.uh p m) l15),room:=Nat.le_trans H.room f.len,kd:=kd,kw:=kw,kn:=kn,wo:=wo,pot:=pot },f.mono fun a ξ e=>e▸.lo l15,fun a o=>.inl (by cases o with | lo l=>exact .lo l | lot m=>exact .lot m | use m=>exact .use m)⟩
end
section
variable {σ σ':CSt} {h d n:Nat} {S S':HS} {α:Type} {c:Nat→α} {xx:Nat→Prop}
abbrev likeV:CV:=.tup [.str ⟨#[108,105,107,101]⟩]
theorem heap_look (H:HR σ h S) (I:Inv c xx S) (Cg:Cong c S.rows) (hn:n<S.par.length) (slack:S.known.length+fuelS S<S.par.length*122) {zz:Prop} (kk:∀σ' S',Calls (d+4) 19 [.ref h,nV n] σ .none σ'→Goes c (fun i=>xx i∧i≠n) h σ S σ' S'→S'.told=S.told→fuelS S'≤fuelS S→zz):zz:=by
 obtain ⟨nw,nk⟩:=nodeOf_row H hn
 obtain ⟨ep,hk⟩:=H.k
 refine H.rowAt hn fun r hr=>?_
 have kl:S.known.length≤7320:=by have:=H.pot;have:=H.U.few;lia
 have cn:(nodeOf S n).2.map c=r.2.map c:=by
  rw [nodeOf_at hr,List.map_map]
  exact List.map_congr_left fun y my=>I.snd y (H.kid hr y my)
 have n1:(nodeOf S n).1=r.1:=by rw [nodeOf_at hr]
 have node:Does (d+3) (.umeth (.var 0) 11 [.var 1]) (paramsL 0 [.ref h,nV n]) σ (rowV (nodeOf S n)) σ:=.umeth (.var rfl) H.i rfl (.one (.var rfl)) (heap_node H hn)
 cases e:dget S.known (nodeOf S n) with
 | some j=>
  have mj:=dget_mem e
  have jl:=H.kn _ mj
  have sd:Does (d+3) (.bmeth (.attr (.var 0) 11) .setdefault [.umeth (.var 0) 11 [.var 1],.var 1]) (paramsL 0 [.ref h,nV n]) σ (nV j) σ:=.bmeth .setdefault (.fld rfl H.i rfl rfl) (.dict hk) (.cons node (.one (.var rfl))) (.setdefault1 hk keyF_row.kin (by show (List.map _ _).length≤_;rw [List.length_map];exact big kl rfl) (by rw [keyF_row.find,e];rfl))
  by_cases q:rt S.par j=rt S.par n
  ·refine kk σ S (.fall rfl rfl (.next (.assign sd rfl) (.next (.skip (.cmp (.find H rfl (.var rfl) jl) (.find H rfl (.var rfl) hn) (.to ne_nat (by rw [decide_eq_true q];rfl)))) .nil))) { H:=H,I:={ I with done:=fun i hi=>?_ },C:=.refl,st:=.refl,rows:=rfl } rfl (Nat.le_refl _)
   rcases I.done i hi with w | x | y
   ·exact .inl w
   ·by_cases z:i=n
    ·exact .inr (.inr ⟨j,z▸mj,z▸q⟩)
    ·exact .inr (.inl ⟨x,z⟩)
   ·exact .inr (.inr y)
  ·have cj:c j=c n:=let ⟨s,hs,s1,s2⟩:=I.ksnd _ mj;Cg j n s r hs hr (s1.trans n1) (s2.trans cn)
   refine heap_join (d:=d) (x:=likeV) H I jl hn cj (by decide +kernel) (by decide +kernel) (fun z=>absurd z q) fun v σ' S' J=>?_
   refine kk σ' S' (.fall rfl rfl (.next (.assign sd rfl) (.next (.ite (i:=true) (.cmp (.find H rfl (.var rfl) jl) (.find H rfl (.var rfl) hn) (.to ne_nat (by rw [decide_eq_false q];rfl))) (.expr (.umeth (.var rfl) H.i rfl (.cons (.var rfl) (.cons (.var rfl) (.one (.tup (.one .str) rfl)))) J.go) .nil)) .nil))) { J.toGoes with I:={ J.I with done:=fun i hi=>?_ } } (J.told' q) J.fuel
   rcases J.I.done i hi with w | x | y
   ·exact .inl w
   ·by_cases z:i=n
    ·rcases J.node n hn with w | q
     ·exact .inl (z▸w)
     ·exact .inr (.inr ⟨j,by rw [z,q,J.known];exact mj,z▸J.one⟩)
    ·exact .inr (.inl ⟨x,z⟩)
   ·exact .inr (.inr y)
 | none=>
  have nm:nodeOf S n∉S.known.map (·.1):=fun m=>by have:=dget_key.mpr m;rw [e] at this;cases this
  have ek:knV S.known++[(rowV (nodeOf S n),nV n)]=knV (S.known++[(nodeOf S n,n)]):=by show List.map _ _++_=List.map _ _;rw [List.map_append];rfl
  obtain ⟨eq,e2⟩:=H.u
  obtain ⟨H₁,st⟩:=H.cell (k:=12) (S':={ S with known:=S.known++[(nodeOf S n,n)] }) (o:=.dict (knV (S.known++[(nodeOf S n,n)])) (ep+1)) rfl (get_ne H.w (ne_off h rfl)) ⟨_,get_set hk⟩ ⟨eq,get_ne e2 (ne_off h rfl)⟩ rfl
   (by
    rw [List.map_append]
    exact List.nodup_append.mpr ⟨H.kd,nodup_one,fun a ma b mb q=>nm (q.trans (List.mem_singleton.mp mb:b=nodeOf S n)▸ma)⟩)
   (fun p m=>(List.mem_append.mp m).elim (H.kw p) fun m=>List.mem_singleton.mp m▸nw) (fun p m=>(List.mem_append.mp m).elim (H.kn p) fun m=>List.mem_singleton.mp m▸hn) H.wo (by
    rw [List.length_append]
    unfold fuelS at slack
    show S.known.length+1+S.waiting.length+_≤_
    lia)
  have sd:Does (d+3) (.bmeth (.attr (.var 0) 11) .setdefault [.umeth (.var 0) 11 [.var 1],.var 1]) (paramsL 0 [.ref h,nV n]) σ (nV n) (σ.set (h+12) (.dict (knV (S.known++[(nodeOf S n,n)])) (ep+1))):=ek▸.bmeth .setdefault (.fld rfl H.i rfl rfl) (.dict hk) (.cons node (.one (.var rfl))) (.setdefault0 hk keyF_row.kin (by show (List.map _ _).length≤_;rw [List.length_map];exact big kl rfl) (by rw [keyF_row.find,e];rfl))
  refine kk _ { S with known:=S.known++[(nodeOf S n,n)] } (.fall rfl rfl (.next (.assign sd rfl) (.next (.skip (.cmp (.find H₁ rfl (.var rfl) hn) (.find H₁ rfl (.var rfl) hn) (.to ne_nat (by rw [decide_eq_true rfl];rfl)))) .nil))) { H:=H₁,I:=⟨I.users,I.snd,fun p m=>?_,fun p m=>?_,fun i hi=>?_⟩,C:=⟨rfl,fun ξ ξ ξ ξ e=>e⟩,st:=st,rows:=rfl } rfl (Nat.le_refl _)
  ·exact (List.mem_append.mp m).elim (I.ksnd p) fun m=>by rw [List.mem_singleton.mp m];exact ⟨r,hr,n1.symm,cn.symm⟩
  ·exact (List.mem_append.mp m).elim (I.kkid p) fun m=>by rw [List.mem_singleton.mp m];exact nk
  ·rcases I.done i hi with w | x | ⟨j,mj,ej⟩
   ·exact .inl w
   ·by_cases z:i=n
    ·exact .inr (.inr ⟨i,z▸List.mem_append_right _ (List.mem_singleton.mpr rfl),rfl⟩)
    ·exact .inr (.inl ⟨x,z⟩)
   ·exact .inr (.inr ⟨j,List.mem_append_left _ mj,ej⟩)
theorem Goes.trans {S'':HS} {σ'':CSt} {yy:Nat→Prop} (x:Goes c xx h σ S σ' S') (y:Goes c yy h σ' S' σ'' S''):Goes c yy h σ S σ'' S'':=⟨y.H,y.I,x.C.trans y.C,x.st.trans y.st,y.rows.trans x.rows⟩
theorem heap_settle (H:HR σ h S) (I:Inv c (fun ξ=>False) S) (Cg:Cong c S.rows) {zz:Prop} (kk:∀σ' S',Calls (d+5) 23 [.ref h] σ .none σ'→Goes c (fun ξ=>False) h σ S σ' S'→S'.told=S.told→S'.waiting=[]→zz):zz:=by
 refine WhileD.inv (d:=d+4) (c:=.cmp .gt (.bi .len (.attr (.var 0) 12)) (.int 0)) (body:=[.expr (.umeth (.var 0) 13 [.bmeth (.attr (.var 0) 12) .pop []])])
  (fun m ρ τ=>ρ 0=some (.ref h)∧∃S',Goes c (fun ξ=>False) h σ S τ S'∧S'.told=S.told∧m=fuelS S') (fun ρ τ=>∃S',Goes c (fun ξ=>False) h σ S τ S'∧S'.told=S.told∧S'.waiting=[]) (fun m ρ τ w109 zz k0 kk=>by
   obtain ⟨r0,S',G,ht,hm⟩:=w109
   have H':=G.H
   have wl:S'.waiting.length≤7320:=by have:=H'.pot;have:=H'.U.few;lia
   have ec:DoesT (d+4) (.cmp .gt (.bi .len (.attr (.var 0) 12)) (.int 0)) ρ τ (decide (0<S'.waiting.length)) τ:=.cmp (.len (.fld r0 H'.i rfl rfl) (ofSeq H'.w) (List.length_map _) (big wl rfl)) .int gt_nat
   rcases List.eq_nil_or_concat S'.waiting with e | ⟨w,x,e⟩
   ·exact k0 τ (.to ec (by rw [e];rfl)) ⟨S',G,ht,e⟩
   ·rw [List.concat_eq_append] at e
    have wN:S'.waiting.length=w.length+1:=by rw [e,List.length_append];rfl
    have hw:=H'.w
    rw [e,List.map_append] at hw
    obtain ⟨kp,hk⟩:=H'.k
    obtain ⟨up,hu⟩:=H'.u
    have pot:=H'.pot
    obtain ⟨H₁,st⟩:=H'.cell (k:=14) (S':={ S' with waiting:=w }) (o:=.list (w.map nV)) rfl (get_set hw) ⟨kp,get_ne hk (ne_off h rfl)⟩ ⟨up,get_ne hu (ne_off h rfl)⟩ rfl H'.kd H'.kw H'.kn (fun y m=>H'.wo y (e▸List.mem_append_left _ m)) (by show S'.known.length+w.length+_≤_;lia)
    have I₁:Inv c (fun i=>i=x) { S' with waiting:=w }:={ G.I with
     done:=fun i hi=>by
      rcases G.I.done i hi with q | q | y
      ·rw [e] at q
       exact (List.mem_append.mp q).imp id fun q=>.inl (List.mem_singleton.mp q)
      ·exact q.elim
      ·exact .inr (.inr y) }
    refine heap_look (d:=d) (n:=x) H₁ I₁ (show Cong c S'.rows from G.rows▸Cg) (H'.wo x (e▸List.mem_append_right _ (List.mem_singleton.mpr rfl))) (by
     unfold fuelS
     show S'.known.length+(w.length+rootsN S'.par*121)<S'.par.length*122
     lia) fun τ₂ S₂ b1 b2 b3 b4=>?_
    have G₁:Goes c (fun i=>i=x) h σ S _ { S' with waiting:=w }:={ H:=H₁,I:=I₁,C:=⟨G.C.n,G.C.up⟩,st:=G.st.trans st,rows:=G.rows }
    have G₂:=G₁.trans b2
    refine kk τ ρ τ₂ (fuelS S₂) (.to ec (decide_eq_true (wN▸Nat.succ_pos _))) (.expr (.umeth (.var r0) H'.i rfl (.one (.bmeth .pop (.fld r0 H'.i rfl rfl) (.list hw) .nil (.pop hw List.getLast?_concat (by rw [List.length_append,List.length_map];exact big (wN▸wl) rfl)))) (show Calls _ 19 _ _ _ _ from (List.dropLast_concat (l₁:=w.map nV) (b:=nV x)).symm▸b1)) .nil) ?_ ⟨r0,S₂,{ G₂ with I:={ G₂.I with done:=fun i hi=>(G₂.I.done i hi).imp id (Or.imp (fun q=>q.2 q.1) id) } },b3.trans ht,rfl⟩
    rw [hm]
    refine Nat.lt_of_le_of_lt b4 ?_
    unfold fuelS
    show w.length+_<S'.waiting.length+_
    rw [wN]
    exact Nat.add_lt_add_right (Nat.lt_succ_self _) _) (fuelS S) (ρ:=paramsL 0 [.ref h]) (σ:=σ) ⟨rfl,S,⟨H,I,.refl,.refl,rfl⟩,rfl,rfl⟩ fun ξ ρ' σ' W u1=>?_
 obtain ⟨S',h1,h2,h3⟩:=u1
 exact kk σ' S' (.fall rfl rfl (.next (.while W) .nil)) h1 h2 h3
end
noncomputable def plus (cs:List Nat) (n:Nat) (p:Use):Use:=(p.1,p.2.1,p.2.2++if p.1∈cs then [n] else [])
section
variable {cs ks par:List Nat} {n x s:Nat}
theorem sum_plus:∀{use:List Use},useSum (use.map (plus cs n))=useSum use+((use.map (·.1)).filter fun k=>decide (k∈cs)).length:=by
 intro l8
 induction l8 with
 | nil=>
  exact rfl
 | cons p use ih=>
  show (p.2.2++if p.1∈cs then [n] else []).length+useSum (use.map (plus cs n))=p.2.2.length+useSum use+(List.filter _ (p.1::use.map (·.1))).length
  rw [ih,List.filter_cons,List.length_append,← Nat.add_assoc]
  by_cases e:p.1∈cs
  ·rw [if_pos e,if_pos (decide_eq_true e),Nat.add_right_comm _ [n].length];exact Nat.add_right_comm _ 1 _
  ·rw [if_neg e,if_neg (fun q=>e (of_decide_eq_true q))];rfl
theorem sum_plus_le {use:List Use} (nd:(use.map (·.1)).Nodup) (l:cs.length≤2):useSum (use.map (plus cs n))≤useSum use+2:=by
 rw [sum_plus];exact Nat.add_le_add_left (Nat.le_trans (List.Nodup.length_le_of_subset (nd.filter _) fun x m=>of_decide_eq_true (List.mem_filter.mp m).2) l) _
noncomputable def cls (par ks:List Nat):List Nat:=(List.range par.length).filter fun x=>decide (x∈ks.map (rt par))
theorem mem_cls (P:ParOk par) (hk:∀k∈ks,k<par.length):x∈cls par ks↔x∈ks.map (rt par):=List.mem_filter.trans ⟨fun h=>of_decide_eq_true h.2,fun h=>⟨List.mem_range.mpr ((by obtain ⟨k,m,e⟩:=List.mem_map.mp h;exact e▸rt_lt P (hk k m))),decide_eq_true h⟩⟩
theorem cls_lt:(cls par ks).Pairwise (·<·):=List.pairwise_lt_range.filter _
theorem cls_few (P:ParOk par) (hk:∀k∈ks,k<par.length) (hw:ks.length≤2):(cls par ks).length≤2:=Nat.le_trans (List.Nodup.length_le_of_subset (cls_lt.imp Nat.ne_of_lt) fun x m=>(mem_cls P hk).mp m) ((List.length_map (as:=ks) _).symm▸hw)
theorem nodup_snoc {l:List Nat} (h:l.Nodup) (k:∀x∈l,x<s):(l++[s]).Nodup:=List.nodup_append.mpr ⟨h,nodup_one,fun a ma b mb q=>Nat.lt_irrefl _ (q.trans (List.mem_singleton.mp mb)▸k a ma)⟩
end
section
variable {σ σ':CSt} {h a b d i:Nat} {S:HS} {α:Type} {c:Nat→α} {o:Fin 3} {ks:List Nat} {rows:List Row}
theorem add_old (H:HR σ h S) (hw:ks.length≤2) (hi:S.rows[i]?=some (o,ks)):Calls (d+2) 18 [.ref h,opV o,.tup (ks.map nV)] σ (nV i) σ:=
 .run rfl rfl (.next (.assign (.umeth (.fld rfl H.i rfl rfl) H.B.i rfl (.cons (.var rfl) (.one (.var rfl))) (take_old H.B H.K hi)) rfl) (.stop (.ite (i:=true) (.cmp (.var rfl) (.umeth (.fld rfl H.i rfl rfl) H.U.i rfl .nil (uni_size H.U)) (.to lt_nat (decide_eq_true (H.n▸(List.getElem?_eq_some_iff.mp hi).1)))) (.ret (.var rfl)))))
theorem rows_more (K:RowsOk rows) (hw:ks.length≤2) (hk:∀k∈ks,k<rows.length) (hn:(o,ks)∉rows) (hf:rows.length<60):RowsOk (rows++[(o,ks)]) where
 wide r m:=(List.mem_append.mp m).elim (K.wide r) fun m=>by rw [List.mem_singleton.mp m];exact hw
 kids i r hi k mk:=snoc_at hi (fun ξ hi=>K.kids i r hi k mk) fun e1 e2=>by rw [e1];rw [e2] at mk;exact hk k mk
 nd:=List.nodup_append.mpr ⟨K.nd,nodup_one,fun a ma b mb q=>hn (q.trans (List.mem_singleton.mp mb)▸ma)⟩
 few:=by rw [List.length_append];exact hf
noncomputable def addS (S:HS) (o:Fin 3) (ks:List Nat) (a b:Nat):HS:={ S with rows:=S.rows++[(o,ks)],par:=S.par++[S.par.length],lot:=S.lot++[(a,[S.par.length])],use:=(S.use++[(S.par.length,b,[])]).map (plus (cls S.par ks) S.par.length) }
theorem add_inv (H:HR σ h S) (I:Inv c (fun ξ=>False) S) (hk:∀k∈ks,k<S.par.length):Inv c (fun i=>i=S.par.length) (addS S o ks a b):=by
 have pn:(S.par++[S.par.length]).length=S.par.length+1:=List.length_append
 have rn:=rt_make H.U.ok
 have at_:∀{i r},S.rows[i]?=some r→(S.rows++[(o,ks)])[i]?=some r:=fun e=>(List.getElem?_append_left (List.getElem?_eq_some_iff.mp e).1).trans e
 refine ⟨fun p m i r hr ⟨k,mk,ek⟩=>?_,fun i hi=>?_,fun p m=>?_,fun p m k mk=>pn▸Nat.lt_succ_of_lt (I.kkid p m k mk),fun i hi=>?_⟩
 ·obtain ⟨q,mq,e⟩:=List.mem_map.mp m
  subst e
  have hr:S.rows[i]?=some r∨(i=S.rows.length∧r=(o,ks)):=snoc_at hr (fun ξ e=>.inl e) fun e1 e2=>.inr ⟨e1,e2⟩
  have kl:k<S.par.length:=hr.elim (fun hr=>H.kid hr k mk) fun e=>hk k (by rw [e.2] at mk;exact mk)
  replace ek:rt (S.par++[S.par.length]) k=q.1:=ek
  rw [rn k kl] at ek
  rcases List.mem_append.mp mq with mq | mq
  ·rcases hr with hr | ⟨e1,e2⟩
   ·exact List.mem_append_left _ (I.users q mq i r hr ⟨k,mk,ek⟩)
   ·rw [e2] at mk
    show i∈q.2.2++if q.1∈cls S.par ks then [S.par.length] else []
    rw [if_pos ((mem_cls H.U.ok hk).mpr (ek▸List.mem_map.mpr ⟨k,mk,rfl⟩)),e1,H.n]
    exact List.mem_append_right _ (List.mem_singleton.mpr rfl)
  ·rw [List.mem_singleton.mp mq] at ek
   exact absurd ek (Nat.ne_of_lt (rt_lt H.U.ok kl))
 ·show c (rt (S.par++[S.par.length]) i)=c i
  exact lt_snoc (pn▸hi) (fun l=>by rw [rn i l];exact I.snd i l) fun e=>by rw [e,rt_new]
 ·obtain ⟨s,e1,e2,e3⟩:=I.ksnd p m
  exact ⟨s,at_ e1,e2,e3⟩
 ·refine lt_snoc (pn▸hi) (fun l=>?_) fun e=>.inr (.inl e)
  rcases I.done i l with w | e | ⟨j,mj,ej⟩
  ·exact .inl w
  ·exact e.elim
  ·refine H.rowAt l fun r hr=>?_
   have eq:nodeOf (addS S o ks a b) i=nodeOf S i:=by
    rw [nodeOf_at (S:=addS S o ks a b) (at_ hr),nodeOf_at hr]
    exact congrArg (Prod.mk r.1) (List.map_congr_left fun y my=>rn y (H.kid hr y my))
   refine .inr (.inr ⟨j,eq▸mj,?_⟩)
   show rt (S.par++[S.par.length]) j=rt (S.par++[S.par.length]) i
   rw [rn j (H.kn _ mj),rn i l,ej]
end
section
variable {σ:CSt} {h d:Nat} {S:HS} {α:Type} {c:Nat→α} {o:Fin 3} {ks:List Nat}
structure AddR {α:Type} (c:Nat→α) (h:Nat) (σ:CSt) (S:HS) (r:Row) (σ':CSt) (S':HS):Prop where
 H:HR σ' h S'
 I:Inv c (fun ξ=>False) S'
 st:Stp h S σ S' σ'
 rows:S'.rows=S.rows++[r]
 n:S'.par.length=S.par.length+1
 told:S'.told=S.told
 up:∀a b,a<S.par.length→b<S.par.length→rt S.par a=rt S.par b→rt S'.par a=rt S'.par b
theorem add_new (H:HR σ h S) (I:Inv c (fun ξ=>False) S) (Cg:Cong c (S.rows++[(o,ks)])) (hf:S.rows.length<60) (hw:ks.length≤2) (hk:∀k∈ks,k<S.rows.length) (hn:(o,ks)∉S.rows) {zz:Prop} (kk:∀σ' S',Calls (d+5) 18 [.ref h,opV o,.tup (ks.map nV)] σ (nV S.par.length) σ'→AddR c h σ S (o,ks) σ' S'→zz):zz:=by
 have hk':∀k∈ks,k<S.par.length:=H.n▸hk
 have hf':S.par.length<60:=H.n▸hf
 have P:=H.U.ok
 generalize hA:(fun a=>Lo h [2,3,4,5,7,8,13] a∨∃p∈S.use,a=p.2.1)=A
 have no:∀{k},Nat.blt k 15=true→([2,3,4,5,7,8,13].all fun j=>!Nat.beq k j)=true→¬A (h+k):=fun {k} l n=>hA▸fun q=>q.elim (Lo.off (Nat.beq k) (Nat.beq_refl k) n) fun w20=>by obtain ⟨p,m,e⟩:=w20;exact hi_ne (H.uh p m) l e.symm
 have on:∀{k},[2,3,4,5,7,8,13].contains k=true→A (h+k):=fun {k} l=>hA▸.inl (.on l)
 have mem:∀j,j<4→[2,3,4,5,7,8,13].contains (2+j)=true:=by decide
 refine take_new (d:=d+1) H.B hf hw hk hn fun σ₁ t1 B1 l1 f1'=>?_
 rw [H.n] at t1
 have f1:Frm A σ σ₁:=f1'.mono fun a ξ w19=>by
  obtain ⟨q1,q2⟩:=w19
  obtain ⟨j,e⟩:=Nat.le.dest q1
  rw [← e,Nat.add_assoc] at q2⊢
  exact on (mem j (Nat.lt_of_add_lt_add_left (n:=2) (Nat.lt_succ_of_le (Nat.le_of_add_le_add_left q2))))
 have lotA:∀p∈S.lot,¬A p.1:=fun p m=>hA▸fun q=>q.elim (Lo.far (H.U.hi p m) rfl) fun w18=>by obtain ⟨q,mq,e⟩:=w18;exact (List.nodup_append.mp H.nd).2.2 _ (List.mem_map.mpr ⟨p,m,rfl⟩) _ (List.mem_map.mpr ⟨q,mq,rfl⟩) e
 have far:∀{a},h+15≤a→¬(h+2≤a∧a≤h+5):=fun l q=>Nat.lt_irrefl _ (Nat.lt_of_le_of_lt l (Nat.lt_of_le_of_lt q.2 (Nat.add_lt_add_left (by decide) h)))
 have off:∀{k},Nat.blt 5 k=true→¬(h+2≤h+k∧h+k≤h+5):=fun l q=>Nat.lt_irrefl _ (Nat.lt_of_le_of_lt (Nat.le_of_add_le_add_left q.2) (Nat.le_of_ble_eq_true l))
 have U1:UniR σ₁ h S.par S.lot:=H.U.frm f1' (fun k l=>off (Nat.ble_eq.mpr (Nat.le_of_ble_eq_true (an l).1))) fun p m=>far (H.U.hi p m)
 have i1:=f1.keep _ _ H.i (no (k:=0) rfl rfl)
 refine uni_make (d:=d+3) U1 (l1.symm▸H.room) hf' fun σ₂ t2 U2 l2 f2'=>?_
 rw [l1] at l2 U2
 have f2:Frm A σ₁ σ₂:=f2'.mono fun a ξ q=>q.elim (fun e=>e▸on rfl) fun e=>e▸on rfl
 have F2:=f1.trans f2
 obtain ⟨uep,us⟩:=H.u
 obtain ⟨kep,kn⟩:=H.k
 have i2:=F2.keep _ _ H.i (no (k:=0) rfl rfl)
 have us2:σ₂[h+13]?=some (.dict (useV S.use) uep):=f2'.keep _ _ (f1'.keep _ _ us (off rfl)) fun q=>q.elim (ne_off h rfl) (ne_off h rfl)
 have nk:S.par.length∉S.use.map (·.1):=fun m=>Nat.lt_irrefl _ ((H.um _).mp m).1
 have dn:dget S.use S.par.length=none:=dget_none nk
 have ndk:((S.use++[(S.par.length,σ.length+1,([]:List Nat))]).map (·.1)).Nodup:=by
  rw [List.map_append];exact nodup_snoc H.uk fun x m=>((H.um x).mp m).1
 generalize hσ₄:List.set (σ₂++[CObj.list []]) (h+13) (CObj.dict (useV (S.use++[(S.par.length,σ.length+1,[])])) (uep+1))=σ₄
 have f4':Frm (fun a=>a=h+13) σ₂ σ₄:=hσ₄▸.trans .push (.set rfl)
 have F4:=F2.trans (f4'.mono fun a ξ e=>e▸on rfl)
 have st:StoreD (d+4) (.ref (h+13)) (nV S.par.length) (.ref σ₂.length) (σ₂++[CObj.list []]) σ₄:=by
  have:=StoreD.dict (d:=d+4) (i:=nV S.par.length) (v:=.ref σ₂.length) (get_app (τ:=[CObj.list []]) us2) keyF_nat.kin (by show (List.map _ _).length<BIG;rw [List.length_map];exact bigS H.useLen rfl)
  rw [keyF_nat.has,dn,if_neg (by simp),l2] at this
  rw [l2,← hσ₄]
  unfold useV
  rw [← dset_new dn,← keyF_nat.set]
  exact this
 have i4:=F4.keep _ _ H.i (no (k:=0) rfl rfl)
 have us4:σ₄[h+13]?=some (.dict (useV (S.use++[(S.par.length,σ.length+1,[])])) (uep+1)):=hσ₄▸get_set (get_app us2)
 have farU:∀p∈S.use,¬(p.2.1=h+7∨p.2.1=h+8):=fun p m q=>q.elim (hi_ne (H.uh p m) rfl) (hi_ne (H.uh p m) rfl)
 have uc4:∀p∈S.use,σ₄[p.2.1]?=some (.list (p.2.2.map nV)):=fun p m=>f4'.keep _ _ (f2'.keep _ _ (f1'.keep _ _ (H.uc p m) (far (H.uh p m))) (farU p m)) (hi_ne (H.uh p m) rfl)
 have U4:UniR σ₄ h (S.par++[S.par.length]) (S.lot++[(σ.length,[S.par.length])]):=U2.frm f4' (fun k l q=>by rw [Nat.add_left_cancel q] at l;cases l) fun p m=>hi_ne (U2.hi p m) rfl
 have new4:σ₄[σ.length+1]?=some (.list []):=hσ₄▸l2▸get_ne get_new (Ne.symm (hi_ne (Nat.le_trans H.room F2.len) rfl))
 generalize hcs:cls S.par ks=cs
 have cm:∀x,x∈cs↔x∈ks.map (rt S.par):=fun x=>hcs▸mem_cls P hk'
 have clt:cs.Pairwise (·<·):=hcs▸cls_lt
 have cw:cs.length≤2:=hcs▸cls_few P hk' hw
 have cr:∀x∈cs,x<S.par.length∧S.par.getD x 0=x:=fun x m=>by
  obtain ⟨k,mk,e⟩:=List.mem_map.mp ((cm x).mp m)
  rw [← e];exact ⟨rt_lt P (hk' k mk),rt_root P k (hk' k mk)⟩
 have pn:(S.par++[S.par.length]).length=S.par.length+1:=List.length_append
 have nds:=(List.nodup_append.mp H.nd).2.1
 refine ForD.inv (d:=d+4) (body:=[.expr (.bmeth (.sub (.attr (.var 0) 4) (.var 5)) .append [.var 3])]) (so:=none) (items:=cs.map nV) (one:=true) (ts:=[5])
  (fun i ρ τ=>(∀p∈S.use,τ[p.2.1]?=some (.list ((plus (cs.take i) S.par.length p).2.2.map nV)))∧Frm (fun a=>∃p∈S.use,a=p.2.1) σ₄ τ∧ρ 0=some (.ref h)∧ρ 3=some (nV S.par.length)) (fun ξ ξ ξ ξ=>trivial)
  (fun i v ρ τ hv w17 zz kk=>by
   obtain ⟨ju,jf,r0,r3⟩:=w17
   rw [List.getElem?_map] at hv
   obtain ⟨y,hy,e⟩:=Option.map_eq_some_iff.mp hv
   subst e
   have tk:cs.take (i+1)=cs.take i++[y]:=by rw [List.take_add_one,hy];rfl
   have yn:y∉cs.take i:=fun m=>(List.nodup_append.mp (tk▸(clt.imp Nat.ne_of_lt).sublist (List.take_sublist _ _))).2.2 y m y (.head _) rfl
   obtain ⟨yl,yr⟩:=cr y (List.mem_of_getElem? hy)
   refine H.useAt yl yr fun u mu=>?_
   have ul:u.2.length≤120:=Nat.le_trans (dsum_mem (f:=fun p:Use=>p.2.2.length) mu) (Nat.le_trans H.ul (Nat.mul_le_mul_left 2 H.U.few))
   have cp:τ[u.1]?=some (.list (u.2.map nV)):=by
    have:=ju _ mu
    unfold plus at this
    rw [if_neg yn,List.append_nil] at this
    exact this
   have nh:∀{k},Nat.blt k 15=true→¬∃p∈S.use,h+k=p.2.1:=fun l w16=>by obtain ⟨q,mq,e⟩:=w16;exact hi_ne (H.uh q mq) l e.symm
   refine kk _ _ (τ.set u.1 (.list (u.2.map nV++[nV S.par.length]))) rfl (.expr (.app (.sub (.fld r0 (jf.keep _ _ i4 (nh (k:=0) rfl)) rfl rfl) (.var rfl) (.dict (ofDict (jf.keep _ _ us4 (nh rfl))) keyF_nat.kin (by rw [keyF_nat.find,dget_of ndk (List.mem_append_left _ mu)];rfl))) cp (.var r3) cp (by rw [List.length_map];exact bigS ul rfl) rfl) .nil) ⟨fun q mq=>?_,jf.trans (.set ⟨_,mu,rfl⟩),r0,r3⟩
   by_cases z:q.1=y
   ·have e:q=(y,u):=Prod.ext z (Option.some.inj ((dget_of H.uk (z▸mq:(y,q.2)∈S.use)).symm.trans (dget_of H.uk mu)))
    rw [e]
    unfold plus
    rw [if_pos (tk▸List.mem_append_right _ (.head _)),List.map_append]
    exact get_set cp
   ·have e:plus (cs.take (i+1)) S.par.length q=plus (cs.take i) S.par.length q:=by
     unfold plus
     rw [tk]
     by_cases w:q.1∈cs.take i
     ·rw [if_pos w,if_pos (List.mem_append_left _ w)]
     ·rw [if_neg w,if_neg fun m=>(List.mem_append.mp m).elim w fun m=>z (List.mem_singleton.mp m)]
    rw [e]
    exact get_ne (ju q mq) fun q'=>z (use_one nds mq mu q'.symm)) cs.length 0 (ρ:=upd (paramsL 0 [.ref h,opV o,.tup (ks.map nV)]) 3 (nV S.par.length)) (σ:=σ₄) ((Nat.zero_add _).trans (List.length_map _).symm)
  ⟨fun p m=>by unfold plus;rw [List.take_zero,if_neg List.not_mem_nil,List.append_nil];exact uc4 p m,.refl,rfl,rfl⟩ fun ρ₂ σ₅ hfor u2=>?_
 obtain ⟨ju,jf,r0,r3⟩:=u2
 rw [List.length_map,List.take_length] at ju
 have F5:Frm A σ σ₅:=F4.trans (jf.mono fun a ξ q=>hA▸.inr q)
 have addr:∀p∈S.use,p.2.1<σ.length:=fun p m=>lt_of (H.uc p m)
 have u5:∀{k},Nat.blt k 15=true→¬∃p∈S.use,h+k=p.2.1:=fun l w15=>by obtain ⟨q,mq,e⟩:=w15;exact hi_ne (H.uh q mq) l e.symm
 have U5:UniR σ₅ h (S.par++[S.par.length]) (S.lot++[(σ.length,[S.par.length])]):=U4.frm jf (fun k l=>u5 (Nat.ble_eq.mpr (Nat.le_trans (Nat.succ_le_succ (Nat.le_of_ble_eq_true (an l).2)) (by decide)))) fun p m ⟨q,mq,e⟩=>(List.mem_append.mp m).elim (fun m=>lotA p m (hA▸.inr ⟨q,mq,e⟩)) fun m=>by
  rw [List.mem_singleton.mp m] at e
  exact Nat.lt_irrefl _ (e▸addr q mq)
 have B5:BankR σ₅ h (S.rows++[(o,ks)]):=((B1.frm f2' fun k l q=>q.elim (fun q=>by rw [Nat.add_left_cancel q] at l;cases l) fun q=>by rw [Nat.add_left_cancel q] at l;cases l).frm f4' fun k l q=>by rw [Nat.add_left_cancel q] at l;cases l).frm jf fun k l=>u5 (blt_of l rfl)
 have nin:S.par.length∉cs:=fun m=>Nat.lt_irrefl _ (cr _ m).1
 have kp:∀{k ob},σ[h+k]?=some ob→Nat.blt k 15=true→([2,3,4,5,7,8,13].all fun j=>!Nat.beq k j)=true→σ₅[h+k]?=some ob:=fun e l n=>F5.keep _ _ e (no l n)
 have H5:HR σ₅ h (addS S o ks σ.length (σ.length+1)):=by
  refine {
   i:=kp (k:=0) H.i rfl rfl,B:=B5,U:=U5,K:=rows_more H.K hw hk hn hf,n:=by show (S.rows++[(o,ks)]).length=(S.par++[S.par.length]).length;rw [List.length_append,pn,H.n];rfl,e:=kp H.e rfl rfl,ef:=H.ef,f:=kp H.f rfl rfl,ff:=H.ff,k:=⟨kep,kp kn rfl rfl⟩
   u:=⟨uep+1,by show σ₅[h+13]?=some (.dict (List.map _ (List.map _ _)) _);rw [List.map_map];exact jf.keep _ _ us4 (u5 rfl)⟩,w:=kp H.w rfl rfl,uh:=fun p m=>?_,uc:=fun p m=>?_,nd:=?_,uk:=by show ((List.map _ _).map _).Nodup;rw [List.map_map];exact ndk
   um:=fun x=>?_,kd:=H.kd,kw:=H.kw,kn:=fun p m=>pn▸Nat.lt_succ_of_lt (H.kn p m),wo:=fun x m=>pn▸Nat.lt_succ_of_lt (H.wo x m),uo:=fun p m x mx=>pn▸?_,room:=Nat.le_trans H.room F5.len,ul:=pn▸?_,pot:=?_,el:=?_,tl:=H.tl,fl:=?_ }
  ·obtain ⟨q,mq,e⟩:=List.mem_map.mp m
   subst e
   exact (List.mem_append.mp mq).elim (H.uh q) fun m=>by rw [List.mem_singleton.mp m];exact Nat.le_succ_of_le H.room
  ·obtain ⟨q,mq,e⟩:=List.mem_map.mp m
   subst e
   rw [hcs]
   rcases List.mem_append.mp mq with mq | mq
   ·exact ju q mq
   ·rw [List.mem_singleton.mp mq]
    unfold plus
    rw [if_neg nin]
    exact jf.keep _ _ new4 fun w13=>by obtain ⟨q,mq,e⟩:=w13;exact Nat.lt_irrefl _ (Nat.lt_trans (Nat.lt_succ_self _) (e▸addr q mq))
  ·show ((S.lot++[_]).map (fun p:Lot=>p.1)++((List.map _ (S.use++[_])).map fun p:Use=>p.2.1)).Nodup
   rw [List.map_map,List.map_append,List.map_append,← List.append_assoc]
   have nd:=List.nodup_append.mp H.nd
   refine nodup_snoc (List.perm_append_comm.nodup_iff.mp ?_) fun x m=>?_
   ·rw [← List.append_assoc]
    exact nodup_snoc (List.perm_append_comm.nodup_iff.mp H.nd) fun x m=>(List.mem_append.mp m).elim (fun m=>(by obtain ⟨p,m,e⟩:=List.mem_map.mp m;exact e▸addr p m)) fun m=>(by obtain ⟨p,m,e⟩:=List.mem_map.mp m;exact e▸lt_of (H.U.lo p m))
   ·refine Nat.lt_succ_of_le ((List.mem_append.mp m).elim (fun m=>(List.mem_append.mp m).elim (fun m=>?_) fun m=>Nat.le_of_eq (List.mem_singleton.mp m)) fun m=>?_)
    ·obtain ⟨p,m,e⟩:=List.mem_map.mp m
     exact e▸Nat.le_of_lt (lt_of (H.U.lo p m))
    ·obtain ⟨p,m,e⟩:=List.mem_map.mp m
     exact e▸Nat.le_of_lt (addr p m)
  ·show x∈(List.map _ (S.use++[_])).map _↔x<(S.par++[S.par.length]).length∧(S.par++[S.par.length]).getD x 0=x
   rw [List.map_map,List.map_append,List.mem_append,pn]
   constructor
   ·intro m
    rcases m with m | m
    ·obtain ⟨a,b⟩:=(H.um x).mp m
     exact ⟨Nat.lt_succ_of_lt a,(getD_append a).trans b⟩
    ·rw [List.mem_singleton.mp m]
     exact ⟨Nat.lt_succ_self _,getD_last⟩
   ·rintro ⟨a,b⟩
    exact lt_snoc a (fun z=>.inl ((H.um x).mpr ⟨z,(getD_append z).symm.trans b⟩)) fun z=>.inr (List.mem_singleton.mpr z)
  ·obtain ⟨q,mq,e⟩:=List.mem_map.mp m
   subst e
   rcases List.mem_append.mp mx with mx | mx
   ·refine Nat.lt_succ_of_lt ((List.mem_append.mp mq).elim (fun m=>H.uo q m x mx) fun m=>?_)
    rw [List.mem_singleton.mp m] at mx;cases mx
   ·by_cases z:q.1∈cls S.par ks
    ·rw [if_pos z] at mx;exact Nat.lt_succ_of_le (Nat.le_of_eq (List.mem_singleton.mp mx))
    ·rw [if_neg z] at mx;cases mx
  ·refine Nat.le_trans (sum_plus_le ndk (hcs▸cw)) (Nat.le_trans (Nat.le_of_eq ?_) (Nat.add_le_add_right H.ul 2))
   unfold useSum dsum
   rw [List.map_append,List.sum_append];rfl
  ·have:=H.pot
   show S.known.length+S.waiting.length+rootsN (S.par++[S.par.length])*121≤(S.par++[S.par.length]).length*122
   rw [roots_make,pn];lia
  ·have:=H.el
   show S.edges.length+rootsN (S.par++[S.par.length])≤(S.par++[S.par.length]).length+S.told
   rw [roots_make,pn];lia
  ·have:=H.fl
   show S.forest.length+rootsN (S.par++[S.par.length])≤(S.par++[S.par.length]).length
   rw [roots_make,pn];lia
 have find4:∀{k},k<S.par.length→Calls (d+4) 20 [.ref h,nV k] σ₄ (nV (rt S.par k)) σ₄:=fun {k} kl=>.run rfl rfl (.ret (.umeth (.fld rfl i4 rfl rfl) U4.i rfl (.one (.var rfl)) (rt_make P k kl▸uni_find U4 (by rw [pn];exact Nat.lt_succ_of_lt kl))))
 refine heap_look (d:=d) (n:=S.par.length) H5 (add_inv H I hk') Cg (pn▸Nat.lt_succ_self _) (by
  have:=H.pot
  show S.known.length+(S.waiting.length+rootsN (S.par++[S.par.length])*121)<(S.par++[S.par.length]).length*122
  rw [roots_make,pn];lia) fun σ₆ S₆ b1 b2 b3 b4=>?_
 refine kk σ₆ S₆ (.run rfl rfl (.next (.assign (.umeth (.fld rfl H.i rfl rfl) H.B.i rfl (.cons (.var rfl) (.one (.var rfl))) t1) rfl) (.next (.skip (.cmp (.var rfl) (.umeth (.fld rfl i1 rfl rfl) U1.i rfl .nil (uni_size U1)) (.to lt_nat (decide_eq_false (Nat.lt_irrefl _))))) (.expr (.umeth (.fld rfl i1 rfl rfl) U1.i rfl .nil t2)
  (.next (.assignS (.newl .nil rfl) (.fld rfl (get_app i2) rfl rfl) (.var rfl) st rfl) (.next (.for (.val (.setN (ns:=ks.map (rt S.par)) (.to (.cmap0 (fi:=nV) (go:=fun k=>nV (rt S.par k)) (l:=ks) (.val (.var rfl) .tup) (big hw rfl) fun k m=>.umeth (.var rfl) i4 rfl (.one (.var rfl)) (find4 (hk' k m))) (by rw [List.map_map];rfl)) ((List.length_map (as:=ks) _).symm▸Nat.le_trans hw (by decide)) cm clt) .lst) hfor)
  (.expr (.umeth (.var r0) H5.i rfl (.one (.var r3)) b1) (.ret (.var r3))))))))) ?_
 refine ⟨b2.H,{ b2.I with done:=fun i hi=>(b2.I.done i hi).imp id (Or.imp (fun q=>q.2 q.1) id) },Stp.trans ⟨F5.mono fun a ξ q=>?_,fun a q=>?_⟩ b2.st,b2.rows,b2.C.n.trans pn,b3,fun a b ha hb e=>b2.C.up a b (pn▸Nat.lt_succ_of_lt ha) (pn▸Nat.lt_succ_of_lt hb) ((rt_make P a ha).trans (e.trans (rt_make P b hb).symm))⟩
 ·rw [← hA] at q
  exact q.elim (fun w12=>by obtain ⟨j,m,e⟩:=w12;exact e▸.lo (List.all_eq_true.mp (show ([2,3,4,5,7,8,13].all fun j=>Nat.blt j 15)=true from rfl) j m)) fun w11=>by obtain ⟨p,m,e⟩:=w11;exact e▸.use m
 ·cases q with
  | lo l=>exact .inl (.lo l)
  | lot m=>exact (List.mem_append.mp m).elim (fun m=>.inl (.lot m)) fun m=>.inr (by rw [List.mem_singleton.mp m];exact Nat.le_refl _)
  | use m=>
   obtain ⟨q,mq,e⟩:=List.mem_map.mp m
   subst e
   exact (List.mem_append.mp mq).elim (fun m=>.inl (Own.use (p:=q) m)) fun m=>.inr (by rw [List.mem_singleton.mp m];exact Nat.le_succ _)
end
section
variable {σ l m:CSt} {o o':CObj} {d a cc h:Nat} {fs:List (Nat×CV)} {c:CE} {v v':CV} {ρ:Loc}
theorem atk {k:Nat}:(σ++l)[σ.length+k]?=l[k]?:=by rw [List.getElem?_append_right (Nat.le_add_right _ _),Nat.add_sub_cancel_left]
theorem ExD.field (S:Does d c ρ (σ++.inst cc fs::l) v ((σ++.inst cc fs::l)++m)) (e:v=v') (h0:ρ 0=some (.ref σ.length)) (ha:Nat.blt a 17=true) (p:(cTag c==10||cTag c==97)=false):ExD d (.assignA (.var 0) a c) ρ (σ++.inst cc fs::l) .next ρ (σ++.inst cc (setAttrL fs a v')::(l++m)):=by
 have g:((σ++.inst cc fs::l)++m)[σ.length]?=some (.inst cc fs):=get_app (atk (k:=0))
 have:=ExD.assignA S (.var h0) g ha p
 rw [List.append_assoc,List.set_append_right _ _ (Nat.le_refl _),Nat.sub_self,e] at this
 exact this
theorem ExD.fieldL (h0:ρ 0=some (.ref σ.length)) (ha:Nat.blt a 17=true):ExD d (.assignA (.var 0) a (.newl [])) ρ (σ++.inst cc fs::l) .next ρ (σ++.inst cc (setAttrL fs a (.ref (σ.length+(l.length+1))))::(l++[.list []])):=.field (.newl .nil rfl) (congrArg CV.ref List.length_append) h0 ha rfl
theorem ExD.fieldD (h0:ρ 0=some (.ref σ.length)) (ha:Nat.blt a 17=true):ExD d (.assignA (.var 0) a (.newd [])) ρ (σ++.inst cc fs::l) .next ρ (σ++.inst cc (setAttrL fs a (.ref (σ.length+(l.length+1))))::(l++[.dict [] 0])):=.field .newd0 (congrArg CV.ref List.length_append) h0 ha rfl
abbrev bank0 (h:Nat):CSt:=[.inst 0 [(0,.ref (h+1)),(1,.ref (h+2)),(2,.ref (h+3)),(3,.ref (h+4))],.list [],.dict [] 0,.list [],.list []]
abbrev uni0 (h:Nat):CSt:=[.inst 1 [(4,.ref (h+1)),(5,.ref (h+2)),(6,.ref (h+3))],.list [],.list [],.list []]
theorem bank_new (e:σ.length=h):Does (d+1) (.inst 0 []) ρ σ (.ref σ.length) (σ++bank0 h):=e▸.inst (f:=1) .nil rfl (.fall rfl rfl (.next (.fieldL rfl rfl) (.next (.fieldD rfl rfl) (.next (.fieldL rfl rfl) (.next (.fieldL rfl rfl) .nil)))))
theorem uni_new (e:σ.length=h):Does (d+1) (.inst 1 []) ρ σ (.ref σ.length) (σ++uni0 h):=e▸.inst (f:=8) .nil rfl (.fall rfl rfl (.next (.fieldL rfl rfl) (.next (.fieldL rfl rfl) (.next (.fieldL rfl rfl) .nil))))
abbrev heap0 (h:Nat):CSt:=[heapI h,bankI h,.list [],.dict [] 0,.list [],.list [],uniI h,.list [],.list [],.list [],.list [],.list [],.dict [] 0,.dict [] 0,.list []]
theorem heap_new:Does (d+2) (.inst 2 []) ρ σ (.ref σ.length) (σ++heap0 σ.length):=
 .inst (f:=15) .nil rfl (.fall rfl rfl (.next (.field (bank_new (h:=σ.length+1) List.length_append) (v':=.ref (σ.length+1)) (congrArg CV.ref List.length_append) rfl rfl rfl) (.next (.field (uni_new (h:=σ.length+6) List.length_append) (v':=.ref (σ.length+6)) (congrArg CV.ref List.length_append) rfl rfl rfl) (.next (.fieldL rfl rfl) (.next (.fieldL rfl rfl) (.next (.fieldD rfl rfl) (.next (.fieldD rfl rfl) (.next (.fieldL rfl rfl) (.next (.field (m:=[]) (v:=.int 0) (v':=.int 0) (by rw [List.append_nil];exact .int) rfl rfl rfl rfl) .nil)))))))))
end
noncomputable def S0:HS:=⟨[],[],[],[],[],[],[],[],0⟩
theorem heap0_HR (σ:CSt):HR (σ++heap0 σ.length) σ.length S0:=by
 have a:∀k,(σ++heap0 σ.length)[σ.length+k]?=_:=fun k=>atk
 exact {
  i:=a 0,B:=⟨a 1,a 2,⟨0,a 3⟩,⟨[],rfl,a 4⟩,⟨[],rfl,a 5⟩⟩
  U:={ i:=a 6,pr:=a 7,lots:=a 8,merged:=⟨[],a 9,Nat.le_refl _⟩,hi:=nofun,lo:=nofun,nd:=.nil,len:=rfl,ok:=nofun,few:=Nat.zero_le _,mem:=nofun }
  K:={ wide:=nofun,kids:=nofun,nd:=.nil,few:=Nat.zero_le _ }
  n:=rfl,e:=a 10,ef:=nofun,f:=a 11,ff:=nofun,k:=⟨0,a 12⟩,u:=⟨0,a 13⟩,w:=a 14,uh:=nofun,uc:=nofun,nd:=.nil,uk:=.nil
  um:=fun c=>⟨nofun,fun m=>absurd m.1 (Nat.not_lt_zero _)⟩,kd:=.nil,kw:=nofun,kn:=nofun,wo:=nofun,uo:=nofun,room:=by rw [List.length_append];exact Nat.le_refl _
  ul:=Nat.zero_le _,pot:=Nat.le_refl _,el:=Nat.le_refl _,tl:=Nat.zero_le _,fl:=Nat.le_refl _ }
theorem inv0 {α:Type} (c:Nat→α):Inv c (fun ξ=>False) S0:=⟨nofun,nofun,nofun,nofun,nofun⟩
theorem asc_perm {α:Type} {enc:α→List Nat} {l:List α} (nd:l.Pairwise fun a b=>enc a≠enc b) {zz:Prop} (kk:∀qs,qs.Perm l→Asc enc qs→zz):zz:=
 have p:=List.mergeSort_perm l fun a b=>decide (enc a≤enc b)
 kk _ p (List.Pairwise.imp (R:=fun a b=>decide (enc a≤enc b)=true∧enc a≠enc b) (fun h=>(List.le_iff_lt_or_eq.mp (of_decide_eq_true h.1)).resolve_right h.2) ((List.pairwise_mergeSort (le:=fun a b=>decide (enc a≤enc b)) (fun ξ ξ ξ h k=>decide_eq_true (List.le_trans (of_decide_eq_true h) (of_decide_eq_true k))) (fun a b=>(Bool.or_eq_true _ _).mpr ((List.le_total (enc a) (enc b)).imp decide_eq_true decide_eq_true)) l).and ((p.pairwise_iff fun h=>Ne.symm h).mpr nd)))
theorem nodup_ex {α:Type} [DecidableEq α]:∀l:List α,∃m:List α,m.Nodup∧∀x,x∈m↔x∈l:=by
 intro l4
 induction l4 with
 | nil=>
  exact ⟨[],.nil,fun ξ=>Iff.rfl⟩
 | cons a l ih=>
  obtain ⟨m,n,h⟩:=ih
  by_cases q:a∈m
  ·exact ⟨m,n,fun x=>(h x).trans ⟨.tail _,fun k=>(List.mem_cons.mp k).elim (fun e=>e▸(h a).mp q) id⟩⟩
  ·exact ⟨a::m,List.nodup_cons.mpr ⟨q,n⟩,fun x=>by rw [List.mem_cons,List.mem_cons,h]⟩
theorem rows_ex (l:List Row) {zz:Prop} (kk:∀qs,(∀r,r∈qs↔r∈l)→Asc encR qs→zz):zz:=by
 obtain ⟨m,n,h⟩:=nodup_ex l
 refine asc_perm (enc:=encR) (n.imp fun h e=>h (encR_inj e)) fun qs p a=>?_
 exact kk qs (fun r=>p.mem_iff.trans (h r)) a
noncomputable def memS (S:HS) (i:Nat):List Nat:=(List.range S.par.length).filter fun x=>decide (rt S.par x=rt S.par i)
theorem rows_exE (l:List Row):∃qs,(∀r,r∈qs↔r∈l)∧Asc encR qs:=rows_ex l fun qs a b=>⟨qs,a,b⟩
theorem mem_memS {S:HS} {i x:Nat}:x∈memS S i↔x<S.par.length∧rt S.par x=rt S.par i:=by unfold memS;rw [List.mem_filter,List.mem_range,decide_eq_true_eq]
section
variable {σ:CSt} {h d i:Nat} {S:HS} {o:Fin 3} {ks:List Nat} {qs:List Row}
theorem memS_le:(memS S i).length≤S.par.length:=Nat.le_trans (List.length_filter_le _ _) (Nat.le_of_eq List.length_range)
theorem heap_nodes (H:HR σ h S) (hi:i<S.par.length) (h4:∀m:List Row,m.Nodup→(∀x∈m,x∈(memS S i).map (nodeOf S))→m.length≤4) (hm:∀n,n∈qs↔n∈(memS S i).map (nodeOf S)) (hr:Asc encR qs):Calls (d+4) 26 [.ref h,nV i] σ (.lst (qs.map rowV)) σ:=
 .run rfl rfl (.ret (.setR (.to (.cmap0 (fi:=nV) (go:=fun k=>rowV (nodeOf S k)) (.val (.umeth (.var rfl) H.i rfl (.one (.var rfl)) (heap_members H hi (rs:=memS S i) (List.pairwise_lt_range.filter _) fun x=>mem_memS)) .lst) (big (Nat.le_trans memS_le H.U.few) rfl) fun k m=>.umeth (.var rfl) H.i rfl (.one (.var rfl)) (heap_node H (mem_memS.mp m).1)) (by rw [List.map_map];rfl)) h4 hm hr))
theorem rts_cmp {ρ:Loc} {e:CE} {t:Nat} (H:HR σ h S) (S':ItD (d+2) .val true [e] ρ σ (ks.map nV) none σ) (h0:clr [t] ρ 0=some (.ref h)) (ht:(0==t)=false) (hw:ks.length≤2) (hk:∀k∈ks,k<S.par.length):Does (d+2) (.bi .tuple (.comp false (.gen [t] true .val [e] [] (.elt (.umeth (.var 0) 7 [.var t]))))) ρ σ (.tup ((ks.map (rt S.par)).map nV)) σ:=
 .bi (.cmap0 (fi:=nV) (go:=fun k=>nV (rt S.par k)) S' (big hw rfl) fun k m=>.find H ((if_neg (ne_of_beq_false ht)).trans h0) (.var (if_pos rfl)) (hk k m)) (.tuple (by rw [List.map_map];rfl) (by rw [List.length_map,List.length_map];exact big hw rfl))
noncomputable def seekV (S:HS) (r:Row):CV:=(dget S.known (r.1,r.2.map (rt S.par))).elim (.int (-1)) fun j=>nV (rt S.par j)
theorem heap_seek (H:HR σ h S) (hw:ks.length≤2) (hk:∀k∈ks,k<S.par.length):Calls (d+3) 27 [.ref h,opV o,.lst (ks.map nV)] σ (seekV S (o,ks)) σ:=by
 obtain ⟨ep,hkn⟩:=H.k
 have g:=BmC.get2 (d:=d+2) (v:=.int (-1)) (ofDict hkn) (keyF_row.kin (a:=(o,ks.map (rt S.par))))
 rw [keyF_row.find] at g
 have m:Does (d+2) (.bmeth (.attr (.var 0) 11) .get [.bin .add (.tup [.var 1]) (.bi .tuple (.comp false (.gen [4] true .val [.var 2] [] (.elt (.umeth (.var 0) 7 [.var 4]))))),.neg (.int 1)]) (paramsL 0 [.ref h,opV o,.lst (ks.map nV)]) σ _ σ:=.bmeth .get (.fld rfl H.i rfl rfl) (.dict hkn) (.cons (.row (.var rfl) (rts_cmp (t:=4) H (.val (.var rfl) .lst) rfl rfl hw hk) (by rw [List.length_map];exact Nat.le_trans hw (by decide))) (.one (.neg .int))) g
 unfold seekV
 cases e:dget S.known (o,ks.map (rt S.par)) with
 | some j=>
  rw [e] at m
  exact .run rfl rfl (.next (.assign m rfl) (.ret (.ite (i:=false) (.cmp (.var rfl) .int (.to .lt (decide_eq_false (Int.not_lt.mpr (Int.natCast_nonneg j))))) (.find H rfl (.var rfl) (H.kn _ (dget_mem e))))))
 | none=>
  rw [e] at m
  exact .run rfl rfl (.next (.assign m rfl) (.ret (.ite (i:=true) (.cmp (.var rfl) .int .lt) (.neg .int))))
end
abbrev cS:CV:=.str ⟨#[99,101,108,108,115]⟩
abbrev sS:CV:=.str ⟨#[115,112,111,116]⟩
abbrev feedO (cells:List Int) (spot ep:Nat):CObj:=.dict [(cS,.lst (cells.map .int)),(sS,nV spot)] ep
noncomputable def dV (cells:List Int) (spot wide:Nat):Nat:=if spot<cells.length then (cells.getD spot 0 % (wide:Int)).toNat else (3*spot*spot+7*spot+5*cells.length) % 97 % wide
theorem dV_lt {cells:List Int} {spot wide:Nat} (h:0<wide):dV cells spot wide<wide:=by
 unfold dV
 by_cases e:spot<cells.length
 ·rw [if_pos e]
  exact (Int.toNat_lt (Int.emod_nonneg _ (Int.ofNat_ne_zero.mpr (Nat.ne_of_gt h)))).mpr (Int.emod_lt_of_pos _ (Int.ofNat_lt.mpr h))
 ·rw [if_neg e];exact Nat.mod_lt _ h
theorem kin_c (a b:CV):keyIn cS [(cS,a),(sS,b)]=true:=by kernel_rfl!
theorem kin_s (a b:CV):keyIn sS [(cS,a),(sS,b)]=true:=by kernel_rfl!
theorem cs_ne:cS≠sS:=fun h=>absurd (CV.str.inj h) (by decide +kernel)
theorem fk_c (a b:CV):findK [(cS,a),(sS,b)] cS=some a:=congrArg (Option.map Prod.snd) (List.find?_cons_of_pos (a:=(cS,a)) (decide_eq_true rfl))
theorem fk_s (a b:CV):findK [(cS,a),(sS,b)] sS=some b:=congrArg (Option.map Prod.snd) ((List.find?_cons_of_neg (a:=(cS,a)) fun h=>cs_ne (of_decide_eq_true h)).trans (List.find?_cons_of_pos (a:=(sS,b)) (decide_eq_true rfl)))
theorem hk_s (a b:CV):hasK [(cS,a),(sS,b)] sS=true:=List.any_eq_true.mpr ⟨(sS,b),.tail _ (.head _),decide_eq_true rfl⟩
theorem sk_s (a b c:CV):setK [(cS,a),(sS,b)] sS c=[(cS,a),(sS,c)]:=(if_neg cs_ne).trans (congrArg _ (if_pos rfl))
section
variable {d a b w:Nat} {σ:CSt}
theorem mul_nat (h:a<100000):OpD .Mult (nV a) (nV b) (nV (a*b)) σ σ:=.mulI (decide_eq_true (show a<2 ^ 31 from Nat.lt_trans h (by decide)))
theorem add_nat:OpD .Add (nV a) (nV b) (nV (a+b)) σ σ:=.addI
theorem mod_nat (h:0<w):OpD .Mod (nV a) (nV w) (nV (a % w)) σ σ:=.modI (Int.ofNat_lt.mpr h)
variable {cells:List Int} {spot ep wide:Nat}
theorem law_draw (hf:σ[0]?=some (feedO cells spot ep)) (hc:cells.length≤40) (hs:spot<100) (hw:0<wide):Calls (d+1) 33 [.ref 0,nV wide] σ (nV (dV cells spot wide)) (σ.set 0 (feedO cells (spot+1) ep)):=by
 generalize hσ:σ.set 0 (feedO cells (spot+1) ep)=σ₁
 have st:StoreD d (.ref 0) sS (nV (spot+1)) σ σ₁:=by
  have:=StoreD.dict (d:=d) (v:=nV (spot+1)) hf (kin_s _ _) (by decide:2<BIG)
  rw [sk_s,hk_s,if_pos rfl,hσ] at this
  exact this
 have ln:Does d (.bi .len (.var 2)) (upd (upd (paramsL 0 [.ref 0,nV wide]) 2 (.lst (cells.map .int))) 3 (nV spot)) σ₁ (nV cells.length) σ₁:=.len (.var rfl) rfl (List.length_map _) (big hc rfl)
 unfold dV
 by_cases e:spot<cells.length
 ·rw [if_pos e]
  have m:OpD .Mod (.int (cells.getD spot 0)) (nV wide) (nV (cells.getD spot 0 % (wide:Int)).toNat) σ₁ σ₁:=by
   have:=OpD.modI (σ:=σ₁) (i:=cells.getD spot 0) (Int.ofNat_lt.mpr hw)
   rw [show nV (cells.getD spot 0 % (wide:Int)).toNat = .int (cells.getD spot 0 % (wide:Int)) from congrArg CV.int (Int.toNat_of_nonneg (Int.emod_nonneg _ (Int.ofNat_ne_zero.mpr (Nat.ne_of_gt hw))))]
   exact this
  exact .run rfl rfl (.next (.assignT (.tup (.cons (.sub (.var rfl) .str (.dict (ofDict hf) (kin_c _ _) (fk_c _ _))) (.one (.sub (.var rfl) .str (.dict (ofDict hf) (kin_s _ _) (fk_s _ _))))) rfl) rfl rfl) (.next (.assignS (.bin (.var rfl) .int .addI) (.var rfl) .str st rfl) (.stop (.ite (i:=true) (.cmp (.var rfl) ln (.to lt_nat (decide_eq_true e)))
   (.ret (.bin (.bi (.idx (.var rfl) (.var rfl) rfl (by rw [List.getElem?_map,List.getElem?_eq_getElem e,getD_lt e];rfl) (by rw [List.length_map];exact big hc rfl)) .int) (.var rfl) m))))))
 ·rw [if_neg e]
  have e1:3*spot<100000:=by lia
  have e2:3*spot*spot<100000:=Nat.lt_of_le_of_lt (Nat.mul_le_mul (Nat.mul_le_mul_left 3 (Nat.le_of_lt hs)) (Nat.le_of_lt hs)) (by decide)
  exact .run rfl rfl (.next (.assignT (.tup (.cons (.sub (.var rfl) .str (.dict (ofDict hf) (kin_c _ _) (fk_c _ _))) (.one (.sub (.var rfl) .str (.dict (ofDict hf) (kin_s _ _) (fk_s _ _))))) rfl) rfl rfl) (.next (.assignS (.bin (.var rfl) .int .addI) (.var rfl) .str st rfl) (.next (.skip (.cmp (.var rfl) ln (.to lt_nat (decide_eq_false e))))
   (.ret (.bin (.bin (.bin (.bin (.bin (.bin (.int (i:=Int.ofNat 3)) (.var rfl) (mul_nat (by decide))) (.var rfl) (mul_nat e1)) (.bin (.int (i:=Int.ofNat 7)) (.var rfl) (mul_nat (by decide))) add_nat) (.bin (.int (i:=Int.ofNat 5)) ln (mul_nat (by decide))) add_nat) (.int (i:=Int.ofNat 97)) (mod_nat (by decide))) (.var rfl) (mod_nat hw))))))
end
theorem any_dat {x:CV} (hx:Dat x=true):∀{l:List CV},(∀y∈l,Dat y=true)→((toDs l).any fun y=>PyData.eqv y (toD x))=decide (x∈l):=by
 intro l11
 induction l11 with
 | nil=>
  intro ξ
  exact rfl
 | cons y l ih=>
  intro h
  show (PyData.eqv (toD y) (toD x)||(toDs l).any fun y=>PyData.eqv y (toD x))=_
  rw [ih fun z m=>h z (.tail _ m),dat_eqv (h y (.head _)) hx,← Bool.decide_or]
  exact dec_iff ⟨fun q=>q.elim (fun e=>e▸.head _) (.tail _),fun m=>(List.mem_cons.mp m).imp Eq.symm id⟩
theorem contains_dat {x:CV} {l:List CV} (hx:Dat x=true) (hl:∀y∈l,Dat y=true) (dx:dp x≤64) (dl:∀y∈l,dp y≤63):containsL x l=some (decide (x∈l)):=
 (if_pos (nd (nd (dat_lay hx) (decide_eq_true dx)) (nd (dat_lay (a:=.lst l) (Dats_all hl)) (decide_eq_true (Nat.succ_le_succ (dps_le dl)))))).trans (congrArg some (any_dat hx hl))
theorem contains_row {r:Row} {rows:List Row}:containsL (rowV r) (rows.map rowV)=some (decide (r∈rows)):=
 (contains_dat (dat_row r) (fun y m=>(by obtain ⟨s,ξ,e⟩:=List.mem_map.mp m;exact e▸dat_row s)) (Nat.le_trans (dp_row r) (by decide)) fun y m=>(by obtain ⟨s,ξ,e⟩:=List.mem_map.mp m;exact e▸Nat.le_trans (dp_row s) (by decide))).trans (congrArg some (dec_iff ⟨fun m=>(by obtain ⟨ξ,ms,e⟩:=List.mem_map.mp m;exact row_inj e▸ms),fun m=>List.mem_map.mpr ⟨r,m,rfl⟩⟩))
noncomputable def shapeOk (r:Row):Prop:=(r.1=0∧r.2.length≤1)∨(r.1=1∧r.2.length=0)∨(r.1=2∧1≤r.2.length∧r.2.length≤2)
structure SideRows (rows:List Row):Prop where
 K:RowsOk rows
 ge:2≤rows.length
 shape:∀r∈rows,shapeOk r
theorem SideRows.add {rows:List Row} {r:Row} (R:SideRows rows) (hl:rows.length≤10) (hs:shapeOk r) (hk:∀k∈r.2,k<rows.length) (hn:r∉rows):SideRows (rows++[r]) where
 K:=rows_more R.K (o:=r.1) (ks:=r.2) (hs.elim (fun h=>Nat.le_succ_of_le h.2) fun h=>h.elim (fun h=>h.2▸Nat.zero_le _) fun h=>h.2.2) hk hn (Nat.lt_of_le_of_lt hl (by decide))
 ge:=Nat.le_trans R.ge (by rw [List.length_append];exact Nat.le_add_right _ _)
 shape s m:=(List.mem_append.mp m).elim (R.shape s) fun m=>by rw [List.mem_singleton.mp m];exact hs
noncomputable def leafRows:List Row:=[(0,[]),(1,[])]
theorem leaf_ok:SideRows leafRows where
 K:=⟨by decide,fun i r hi k m=>(show ∀r∈leafRows,∀k∈r.2,False by decide) r (List.mem_of_getElem? hi) k m |>.elim,by decide,by decide⟩
 ge:=by decide
 shape r m:=(List.mem_cons.mp m).elim (fun e=>e▸.inl ⟨rfl,Nat.zero_le _⟩) fun m=>List.mem_singleton.mp m▸.inr (.inl ⟨rfl,rfl⟩)
section
variable {d:Nat} {ρ:Loc} {σ:CSt} {so:Option (Nat×CObj)} {body:List CS} {one:Bool} {ts:List Nat}
theorem ForD.each {α:Type} {f:α→CV} {l:List α} (J:Nat→Loc→CSt→Prop) (hs:∀i ρ σ,J i ρ σ→srcP σ so) (st:∀i a ρ σ,l[i]?=some a→J i ρ σ→∀zz:Prop,(∀ρ₁ ρ' σ',bindT σ ρ ts one (f a)=some ρ₁→RunD d body ρ₁ σ .next ρ' σ'→J (i+1) ρ' σ'→zz)→zz) (j:J 0 ρ σ) {zz:Prop} (kk:∀ρ' σ',ForD d ts one body so (l.map f) ρ σ ρ' σ'→J l.length ρ' σ'→zz):zz:=
 ForD.inv (items:=l.map f) J hs (fun i v ρ σ hv j=>by
  rw [List.getElem?_map] at hv
  obtain ⟨a,ha,e⟩:=Option.map_eq_some_iff.mp hv
  exact e▸st i a ρ σ ha j) l.length 0 ((Nat.zero_add _).trans (List.length_map _).symm) j fun ρ' σ' F j=>kk ρ' σ' F (by rw [List.length_map] at j;exact j)
theorem ForD.upto {n:Nat} (J:Nat→Loc→CSt→Prop) (hs:∀i ρ σ,J i ρ σ→srcP σ so) (st:∀i ρ σ,i<n→J i ρ σ→∀zz:Prop,(∀ρ₁ ρ' σ',bindT σ ρ ts one (nV i)=some ρ₁→RunD d body ρ₁ σ .next ρ' σ'→J (i+1) ρ' σ'→zz)→zz) (j:J 0 ρ σ) {zz:Prop} (kk:∀ρ' σ',ForD d ts one body so ((List.range n).map nV) ρ σ ρ' σ'→J n ρ' σ'→zz):zz:=
 ForD.each (f:=nV) (l:=List.range n) J hs (fun i a ρ σ ha j=>by
  have l:=(List.getElem?_eq_some_iff.mp ha).1
  rw [List.length_range] at l
  rw [List.getElem?_range l] at ha
  exact Option.some.inj ha▸st i ρ σ l j) j fun ρ' σ' F j=>kk ρ' σ' F (by rw [List.length_range] at j;exact j)
end
abbrev lapB:List CS:=[.assignT [4,5] (.tup [.call 33 [.var 0,.int 3],.call 33 [.var 0,.bi .len (.var 2)]]),.assign 6 (.ite (.cmp .eq (.var 4) (.int 1)) (.tup [.str ⟨#[102]⟩,.var 5,.call 33 [.var 0,.bi .len (.var 2)]]) (.sub (.tup [.tup [.str ⟨#[102]⟩,.var 5],.tup [],.tup [.str ⟨#[97]⟩,.var 5]]) (.var 4))),.ite (.cmp .notin (.var 6) (.var 2)) [.expr (.bmeth (.var 2) .append [.var 6])] []]
section
variable {cells:List Int} {ep d b spot k n:Nat} {ρ:Loc} {σ τ:CSt} {rows:List Row}
structure RowR (cells:List Int) (ep d b spot:Nat) (ρ:Loc) (τ:CSt) (rows:List Row) (r:Row) (τ':CSt) (spot':Nat):Prop where
 go:Does (d+1) (.ite (.cmp .eq (.var 4) (.int 1)) (.tup [.str ⟨#[102]⟩,.var 5,.call 33 [.var 0,.bi .len (.var 2)]]) (.sub (.tup [.tup [.str ⟨#[102]⟩,.var 5],.tup [],.tup [.str ⟨#[97]⟩,.var 5]]) (.var 4))) ρ τ (rowV r) τ'
 sh:shapeOk r
 kid:∀k∈r.2,k<rows.length
 f:τ'[0]?=some (feedO cells spot' ep)
 r:τ'[b]?=some (.list (rows.map rowV))
 le:spot'≤spot+1
 frm:Frm (fun a=>a=0∨a=b) τ τ'
theorem lap_row {way kid:Nat} (hc:cells.length≤40) (hs:spot<100) (h0:0<rows.length) (hl:rows.length≤10) (hb:b≠0) (hw:way<3) (hk:kid<rows.length) (r0:ρ 0=some (.ref 0)) (r2:ρ 2=some (.ref b)) (r4:ρ 4=some (nV way)) (r5:ρ 5=some (nV kid)) (f:τ[0]?=some (feedO cells spot ep)) (r:τ[b]?=some (.list (rows.map rowV))) {zz:Prop} (kk:∀r τ' spot',RowR cells ep d b spot ρ τ rows r τ' spot'→zz):zz:=by
 have h:way=0∨way=1∨way=2:=by lia
 rcases h with e | e | e<;>subst e
 ·exact kk (2,[kid]) τ spot ⟨.ite (i:=false) (.cmp (.var r4) (.int (i:=Int.ofNat 1)) eq_nat) (.idx (j:=0) (.tup (.cons (.tup (.cons .str (.one (.var r5))) rfl) (.cons (.tup .nil rfl) (.one (.tup (.cons .str (.one (.var r5))) rfl)))) rfl) (.var r4) rfl rfl (by decide:3≤BIG)),.inr (.inr ⟨rfl,Nat.le_refl 1,Nat.le_succ 1⟩),fun k m=>List.mem_singleton.mp m▸hk,f,r,Nat.le_succ _,.refl⟩
 ·exact kk (2,[kid,dV cells spot rows.length]) _ (spot+1) ⟨.ite (i:=true) (.cmp (.var r4) (.int (i:=Int.ofNat 1)) eq_nat) (.tup (.cons .str (.cons (.var r5) (.one (.call (.cons (.var r0) (.one (.len (.var r2) (ofSeq r) (List.length_map _) (big hl rfl)))) (law_draw f hc hs h0))))) rfl),.inr (.inr ⟨rfl,Nat.le_succ 1,Nat.le_refl 2⟩),fun k m=>(List.mem_cons.mp m).elim (fun e=>e▸hk) fun m=>List.mem_singleton.mp m▸dV_lt h0,get_set f,get_ne r (Ne.symm hb),Nat.le_refl _,.set (.inl rfl)⟩
 ·exact kk (0,[kid]) τ spot ⟨.ite (i:=false) (.cmp (.var r4) (.int (i:=Int.ofNat 1)) eq_nat) (.idx (j:=2) (.tup (.cons (.tup (.cons .str (.one (.var r5))) rfl) (.cons (.tup .nil rfl) (.one (.tup (.cons .str (.one (.var r5))) rfl)))) rfl) (.var r4) rfl rfl (by decide:3≤BIG)),.inl ⟨rfl,Nat.le_refl 1⟩,fun k m=>List.mem_singleton.mp m▸hk,f,r,Nat.le_succ _,.refl⟩
structure LapR (cells:List Int) (ep b spot:Nat) (ρ:Loc) (τ:CSt) (n:Nat) (rows:List Row) (spot':Nat) (ρ':Loc) (τ':CSt):Prop where
 R:SideRows rows
 le:rows.length≤n
 f:τ'[0]?=some (feedO cells spot' ep)
 r:τ'[b]?=some (.list (rows.map rowV))
 sp:spot'≤spot
 r0:ρ' 0=ρ 0
 r1:ρ' 1=ρ 1
 r2:ρ' 2=ρ 2
 frm:Frm (fun a=>a=0∨a=b) τ τ'
theorem lap_body (hc:cells.length≤40) (hs:spot<90) (R:SideRows rows) (hl:rows.length≤10) (hb:b≠0) (r0:ρ 0=some (.ref 0)) (r2:ρ 2=some (.ref b)) (hf:τ[0]?=some (feedO cells spot ep)) (hr:τ[b]?=some (.list (rows.map rowV))) {zz:Prop} (kk:∀ρ' τ' rows' spot',RunD (d+1) lapB ρ τ .next ρ' τ'→LapR cells ep b (spot+3) ρ τ (rows.length+1) rows' spot' ρ' τ'→zz):zz:=by
 have n0:0<rows.length:=Nat.lt_of_lt_of_le (by decide) R.ge
 generalize hτ₁:τ.set 0 (feedO cells (spot+1) ep)=τ₁
 have f1:τ₁[0]?=some (feedO cells (spot+1) ep):=hτ₁▸get_set hf
 have g1:τ₁[b]?=some (.list (rows.map rowV)):=hτ₁▸get_ne hr (Ne.symm hb)
 generalize hτ₂:τ₁.set 0 (feedO cells (spot+1+1) ep)=τ₂
 have dr1:=law_draw (d:=d) (wide:=3) hf hc (Nat.lt_trans hs (by decide)) (by decide)
 rw [hτ₁] at dr1
 have dr2:=law_draw (d:=d) f1 hc (Nat.lt_of_le_of_lt hs (by decide)) n0
 rw [hτ₂] at dr2
 have wl:=dV_lt (cells:=cells) (spot:=spot) (wide:=3) (by decide)
 have kl:=dV_lt (cells:=cells) (spot:=spot+1) n0
 generalize dV cells spot 3=way at dr1 wl
 generalize dV cells (spot+1) rows.length=kid at dr2 kl
 have fr:Frm (fun a=>a=0∨a=b) τ τ₂:=(hτ₁▸.set (.inl rfl):Frm _ τ τ₁).trans (hτ₂▸.set (.inl rfl))
 refine lap_row (d:=d) (ep:=ep) (ρ:=upd (upd ρ 4 (nV way)) 5 (nV kid)) (τ:=τ₂) (spot:=spot+1+1) hc (Nat.lt_of_le_of_lt (Nat.succ_le_succ hs) (by decide)) n0 hl hb wl kl r0 r2 rfl rfl (hτ₂▸get_set f1) (hτ₂▸get_ne g1 (Ne.symm hb)) fun r τ₃ spot' Q=>?_
 have c:=CmpD.notinL (d:=d+1) (ofSeq Q.r) (contains_row (r:=r))
 have run:∀{ρ' τ'},ExD (d+1) (.ite (.cmp .notin (.var 6) (.var 2)) [.expr (.bmeth (.var 2) .append [.var 6])] []) (upd (upd (upd ρ 4 (nV way)) 5 (nV kid)) 6 (rowV r)) τ₃ .next ρ' τ'→RunD (d+1) lapB ρ τ .next ρ' τ':=fun E=>.next (.assignT (.tup (.cons (.call (.cons (.var r0) (.one (.int (i:=Int.ofNat 3)))) dr1) (.one (.call (.cons (.var r0) (.one (.len (.var r2) (ofSeq g1) (List.length_map _) (big hl rfl)))) dr2))) rfl) rfl rfl) (.next (.assign Q.go rfl) (.next E .nil))
 have sp:spot'≤spot+3:=Q.le
 by_cases m:r∈rows
 ·exact kk _ τ₃ rows spot' (run (.skip (.cmp (.var rfl) (.var r2) (.to c (by rw [decide_eq_true m];rfl))))) ⟨R,Nat.le_succ _,Q.f,Q.r,sp,rfl,rfl,rfl,fr.trans Q.frm⟩
 ·exact kk _ _ (rows++[r]) spot' (run (.ite (i:=true) (.cmp (.var rfl) (.var r2) (.to c (by rw [decide_eq_false m];rfl))) (.expr (.app (.var r2) Q.r (.var rfl) Q.r (by rw [List.length_map];exact bigS hl rfl) rfl) .nil))) ⟨R.add hl Q.sh Q.kid m,by rw [List.length_append];exact Nat.le_refl _,get_ne Q.f hb,by rw [List.map_append];exact get_set Q.r,sp,rfl,rfl,rfl,(fr.trans Q.frm).trans (.set (.inr rfl))⟩
theorem laps (hc:cells.length≤40) (hs:spot≤60) (hb:b≠0) (r0:ρ 0=some (.ref 0)) (r2:ρ 2=some (.ref b)) (hf:σ[0]?=some (feedO cells spot ep)) (hr:σ[b]?=some (.list (leafRows.map rowV))) {zz:Prop} (kk:∀ρ' σ' rows spot',ExD (d+1) (.for [3] true .range [.bin .add (.int 1) (.call 33 [.var 0,.int 3])] lapB) ρ σ .next ρ' σ'→LapR cells ep b (spot+10) ρ σ 5 rows spot' ρ' σ'→zz):zz:=by
 have dr:=law_draw (d:=d) (wide:=3) hf hc (Nat.lt_of_le_of_lt hs (by decide)) (by decide)
 have wl:=dV_lt (cells:=cells) (spot:=spot) (wide:=3) (by decide)
 generalize dV cells spot 3=n at dr wl
 refine ForD.upto (d:=d+1) (ts:=[3]) (one:=true) (body:=lapB) (so:=none) (ρ:=ρ) (n:=1+n) (fun i ρ' τ=>∃rows spot',LapR cells ep b (spot+1+3*i) ρ σ (2+i) rows spot' ρ' τ) (fun ξ ξ ξ ξ=>trivial)
  (fun i ρ₁ τ il w112 zz kk=>by
   obtain ⟨rows,spot',Q⟩:=w112
   have sp:=Q.sp
   have le:=Q.le
   refine lap_body (d:=d) (ρ:=upd ρ₁ 3 (nV i)) hc (by lia) Q.R (by lia) hb (Q.r0.trans r0) (Q.r2.trans r2) Q.f Q.r fun ρ₂ τ₂ rows' spot'' k0 Q'=>?_
   exact kk _ ρ₂ τ₂ rfl k0 ⟨rows',spot'',Q'.R,by have:=Q'.le;lia,Q'.f,Q'.r,by have:=Q'.sp;lia,Q'.r0.trans Q.r0,Q'.r1.trans Q.r1,Q'.r2.trans Q.r2,Q.frm.trans Q'.frm⟩)
  ⟨leafRows,spot+1,leaf_ok,Nat.le_refl _,get_set hf,get_ne hr (Ne.symm hb),Nat.le_refl _,rfl,rfl,rfl,.set (.inl rfl)⟩ fun ρ' σ' hfor u1=>?_
 obtain ⟨rows,spot',Q⟩:=u1
 exact kk ρ' σ' rows spot' (.for (.rangeN (.bin (.int (i:=Int.ofNat 1)) (.call (.cons (.var r0) (.one (.int (i:=Int.ofNat 3)))) dr) add_nat) (bigS (n:=4) (by lia) rfl)) hfor) { Q with le:=by have:=Q.le;lia,sp:=by have:=Q.sp;lia }
end
abbrev Good (rows:List Row) (pairs:List (Nat×Nat)) (c:Nat→Nat):Prop:=Cong c rows∧∀q∈pairs,c q.1=c q.2
noncomputable def allC (rows:List Row) (pairs:List (Nat×Nat)) (i:Nat):{ c:Nat→Nat // Good rows pairs c }→Nat:=fun c=>c.1 i
section
variable {rows:List Row} {pairs:List (Nat×Nat)}
theorem allC_map {ks ls:List Nat} (h:ks.map (allC rows pairs)=ls.map (allC rows pairs)) (c:{ c:Nat→Nat // Good rows pairs c }):ks.map c.1=ls.map c.1:=by
 have:=congrArg (List.map fun f=>f c) h
 rw [List.map_map,List.map_map] at this
 exact this
theorem allC_cong:Cong (allC rows pairs) rows:=fun i j r s hi hj e1 e2=>funext fun c=>c.2.1 i j r s hi hj e1 (allC_map e2 c)
theorem allC_pair {q:Nat×Nat} (m:q∈pairs):allC rows pairs q.1=allC rows pairs q.2:=funext fun c=>c.2.2 q m
theorem allC_inv {xx:Nat→Prop} {S:HS} (I:Inv (allC rows pairs) xx S) {c:Nat→Nat} (g:Good rows pairs c):Inv c xx S where
 users:=I.users
 snd i hi:=congrFun (I.snd i hi) ⟨c,g⟩
 ksnd p m:=(by obtain ⟨s,h1,h2,h3⟩:=I.ksnd p m;exact ⟨s,h1,h2,allC_map h3 ⟨c,g⟩⟩)
 kkid:=I.kkid
 done:=I.done
theorem cong_take {α:Type} {c:Nat→α} {n:Nat} (h:Cong c rows):Cong c (rows.take n):=fun i j r s hi hj=>by
 have a:=(List.getElem?_eq_some_iff.mp hi).1
 have b:=(List.getElem?_eq_some_iff.mp hj).1
 rw [List.length_take] at a b
 rw [List.getElem?_take_of_lt (Nat.lt_of_lt_of_le a (Nat.min_le_left _ _))] at hi
 rw [List.getElem?_take_of_lt (Nat.lt_of_lt_of_le b (Nat.min_le_left _ _))] at hj
 exact h i j r s hi hj
end
noncomputable def pairsOf (cells:List Int) (s n k:Nat):List (Nat×Nat):=(List.range k).map fun i=>(dV cells (s+2*i) n,dV cells (s+2*i+1) n)
theorem pairs_at {cells:List Int} {s n k i:Nat} (h:i<k):(pairsOf cells s n k)[i]?=some (dV cells (s+2*i) n,dV cells (s+2*i+1) n):=by
 unfold pairsOf
 rw [List.getElem?_map,List.getElem?_range h];rfl
section
variable {cells:List Int} {ep d b h p spot:Nat} {ρ:Loc} {σ:CSt} {rows:List Row} {S:HS} {α:Type} {c:Nat→α}
theorem opV_idx {ρ:Loc} {e:CE} {r:Row} (S:Does d e ρ σ (rowV r) σ) (hw:r.2.length≤1000):Does d (.sub e (.int 0)) ρ σ (opV r.1) σ:=.idx (j:=0) S (.int (i:=Int.ofNat 0)) rfl rfl (by rw [List.length_cons,List.length_map];exact big (Nat.succ_le_succ hw) rfl)
theorem kids_of {ρ:Loc} {e:CE} {r:Row} (S:Does d e ρ σ (rowV r) σ) (hw:r.2.length≤1000):Does d (.slice e (some 1) none) ρ σ (.tup (r.2.map nV)) σ:=.tail S (by rw [List.length_map];exact hw)
structure AddsR {α:Type} (c:Nat→α) (h:Nat) (ρ:Loc) (σ:CSt) (rows:List Row) (ρ':Loc) (σ':CSt) (S:HS):Prop where
 H:HR σ' h S
 I:Inv c (fun ξ=>False) S
 rows:S.rows=rows
 told:S.told=0
 st:Stp h S0 σ S σ'
 k:∀x,x≠6→ρ' x=ρ x
theorem adds (R:SideRows rows) (hl:rows.length≤5) (Cg:Cong c rows) (r1:ρ 1=some (.ref h)) (r2:ρ 2=some (.ref b)) (H:HR σ h S0) (hb:¬Own h S0 b) (hr:σ[b]?=some (.list (rows.map rowV))) {zz:Prop} (kk:∀ρ' σ' S,ExD (d+5) (.for [6] true .val [.var 2] [.expr (.umeth (.var 1) 12 [.sub (.var 6) (.int 0),.slice (.var 6) (some 1) none])]) ρ σ .next ρ' σ'→AddsR c h ρ σ rows ρ' σ' S→zz):zz:=by
 refine ForD.each (d:=d+5) (so:=some (b,.list (rows.map rowV))) (one:=true) (ts:=[6]) (f:=rowV) (l:=rows) (ρ:=ρ) (σ:=σ) (body:=[.expr (.umeth (.var 1) 12 [.sub (.var 6) (.int 0),.slice (.var 6) (some 1) none])])
  (fun i ρ' τ=>∃S,AddsR c h ρ σ (rows.take i) ρ' τ S) (fun ξ ξ ξ w115=>by obtain ⟨S,Q⟩:=w115;exact Q.st.frm.keep _ _ hr hb)
  (fun i r ρ₁ τ hr' w114 zz kk=>by
   obtain ⟨S,Q⟩:=w114
   have il:=(List.getElem?_eq_some_iff.mp hr').1
   have mr:=List.mem_of_getElem? hr'
   have tl:(rows.take i).length=i:=by rw [List.length_take];exact Nat.min_eq_left (Nat.le_of_lt il)
   have tk:rows.take (i+1)=rows.take i++[r]:=by rw [List.take_add_one,hr'];rfl
   have nd:r∉rows.take i:=fun m=>(List.nodup_append.mp (tk▸R.K.nd.sublist (List.take_sublist _ _))).2.2 r m r (.head _) rfl
   have wd:=R.K.wide r mr
   have w:=Nat.le_trans wd (by decide:2≤1000)
   refine add_new (d:=d) (o:=r.1) (ks:=r.2) Q.H Q.I (by rw [Q.rows,← tk];exact cong_take Cg) (by rw [Q.rows,tl];exact Nat.lt_of_lt_of_le il (Nat.le_trans hl (by decide))) wd (fun k mk=>by rw [Q.rows,tl];exact R.K.kids i r hr' k mk) (by rw [Q.rows];exact nd) fun τ' S' k A=>?_
   exact kk _ _ τ' rfl (.expr (.umeth (.var ((Q.k 1 (by decide)).trans r1)) Q.H.i rfl (.cons (opV_idx (.var rfl) w) (.one (kids_of (.var rfl) w))) k) .nil) ⟨S',A.H,A.I,by rw [A.rows,Q.rows,tk],A.told.trans Q.told,Q.st.trans A.st,fun x hx=>(if_neg hx).trans (Q.k x hx)⟩)
  ⟨S0,H,inv0 c,rfl,rfl,.refl,fun ξ ξ=>rfl⟩ fun ρ' σ' hfor u3=>?_
 obtain ⟨S,Q⟩:=u3
 rw [List.take_length] at Q
 exact kk ρ' σ' S (.for (.val (.var r2) (.ref hr)) hfor) Q
abbrev tellE:CE:=.tup [.str ⟨#[116,111,108,100]⟩,.bin .add (.str ⟨#[116]⟩) (.bi .str (.var 3))]
noncomputable def tellX (i:Nat):CV:=.tup [.str ⟨#[116,111,108,100]⟩,.str (⟨#[116]⟩++Str.ofString (toString (Int.ofNat i)))]
theorem tell_ok:∀i,i<2→(Nat.blt (Str.ofString (toString (Int.ofNat i))).cps.size 1000&&(Dat (tellX i)&&Nat.ble (dp (tellX i)) 2))=true:=by decide +kernel
abbrev tellB:List CS:=[.expr (.bmeth (.var 7) .append [.tup [.call 33 [.var 0,.bi .len (.var 2)],.call 33 [.var 0,.bi .len (.var 2)]]]),.expr (.umeth (.var 1) 8 [.sub (.sub (.var 7) (.neg (.int 1))) (.int 0),.sub (.sub (.var 7) (.neg (.int 1))) (.int 1),tellE])]
structure TellR {α:Type} (c:Nat→α) (cells:List Int) (ep h p spot:Nat) (ρ:Loc) (σ:CSt) (S:HS) (pairs:List (Nat×Nat)) (n:Nat) (ρ':Loc) (σ':CSt) (S':HS):Prop where
 H:HR σ' h S'
 I:Inv c (fun ξ=>False) S'
 rows:S'.rows=S.rows
 told:S'.told≤n
 own:∀a,a<σ.length→Own h S' a→Own h S a
 frm:Frm (fun a=>a=0∨a=p∨Own h S a) σ σ'
 f:σ'[0]?=some (feedO cells (spot+1+2*n) ep)
 p:σ'[p]?=some (.list (pairs.map pairN))
 k:∀x,x≠3→ρ' x=ρ x
 one:∀q∈pairs,rt S'.par q.1=rt S'.par q.2
theorem tells (hc:cells.length≤40) (hs:spot≤80) (hl:S.rows.length≤5) (hl0:0<S.rows.length) (Hc:∀q∈pairsOf cells (spot+1) S.rows.length (dV cells spot 3),c q.1=c q.2) (r0:ρ 0=some (.ref 0)) (r1:ρ 1=some (.ref h)) (r2:ρ 2=some (.ref b)) (r7:ρ 7=some (.ref p))
  (H:HR σ h S) (I:Inv c (fun ξ=>False) S) (ht:S.told=0) (n0:¬Own h S 0) (nb:¬Own h S b) (np:¬Own h S p) (b0:b≠0) (p0:p≠0) (bp:b≠p) (hf:σ[0]?=some (feedO cells spot ep)) (hr:σ[b]?=some (.list (S.rows.map rowV))) (hp:σ[p]?=some (.list [])) {zz:Prop} (kk:∀ρ' σ' S',ExD (d+4) (.for [3] true .range [.call 33 [.var 0,.int 3]] tellB) ρ σ .next ρ' σ'→TellR c cells ep h p spot ρ σ S (pairsOf cells (spot+1) S.rows.length (dV cells spot 3)) (dV cells spot 3) ρ' σ' S'→zz):zz:=by
 have dr:=law_draw (d:=d+3) (wide:=3) hf hc (Nat.lt_of_le_of_lt hs (by decide)) (by decide)
 have kl:=dV_lt (cells:=cells) (spot:=spot) (wide:=3) (by decide)
 generalize dV cells spot 3=k at dr kl Hc kk
 have pn:=H.n
 refine ForD.upto (d:=d+4) (so:=none) (one:=true) (ts:=[3]) (ρ:=ρ) (n:=k) (body:=tellB)
  (fun i ρ' τ=>∃S',TellR c cells ep h p spot ρ σ S ((pairsOf cells (spot+1) S.rows.length k).take i) i ρ' τ S') (fun ξ ξ ξ ξ=>trivial)
  (fun i ρ₁ τ il w113 zz kk=>by
   obtain ⟨S',Q⟩:=w113
   have rb:τ[b]?=some (.list (S.rows.map rowV)):=Q.frm.keep _ _ hr fun q=>q.elim b0 fun q=>q.elim bp nb
   have pa:=pairs_at (cells:=cells) (s:=spot+1) (n:=S.rows.length) il
   have m1:=dV_lt (cells:=cells) (spot:=spot+1+2*i) hl0
   have m2:=dV_lt (cells:=cells) (spot:=spot+1+2*i+1) hl0
   have hcq:=Hc _ (List.mem_of_getElem? pa)
   have i2:i<2:=by lia
   have d1:=law_draw (d:=d+3) Q.f hc (by lia) hl0
   generalize hτ₁:τ.set 0 (feedO cells (spot+1+2*i+1) ep)=τ₁ at d1
   have t0:τ₁[0]?=some (feedO cells (spot+1+2*i+1) ep):=hτ₁▸get_set Q.f
   have tb:τ₁[b]?=some (.list (S.rows.map rowV)):=hτ₁▸get_ne rb (Ne.symm b0)
   have tp:=get_ne (o':=feedO cells (spot+1+2*i+1) ep) Q.p (Ne.symm p0)
   rw [hτ₁] at tp
   have d2:=law_draw (d:=d+3) t0 hc (by lia) hl0
   generalize hτ₂:τ₁.set 0 (feedO cells (spot+1+2*i+1+1) ep)=τ₂ at d2
   have up:=get_ne (o':=feedO cells (spot+1+2*i+1+1) ep) tp (Ne.symm p0)
   rw [hτ₂] at up
   have mem:∀q∈(pairsOf cells (spot+1) S.rows.length k).take i,q.1<S.par.length∧q.2<S.par.length:=fun q m=>by
    obtain ⟨z,hz,e⟩:=List.mem_map.mp (List.mem_of_mem_take m)
    rw [← e,← pn];exact ⟨dV_lt hl0,dV_lt hl0⟩
   have tk:(pairsOf cells (spot+1) S.rows.length k).take (i+1)=(pairsOf cells (spot+1) S.rows.length k).take i++[(dV cells (spot+1+2*i) S.rows.length,dV cells (spot+1+2*i+1) S.rows.length)]:=by rw [List.take_add_one,pa];rfl
   have old:=Q.one
   generalize dV cells (spot+1+2*i) S.rows.length=x at d1 m1 hcq tk
   generalize dV cells (spot+1+2*i+1) S.rows.length=y at d2 m2 hcq tk
   have Ll:((pairsOf cells (spot+1) S.rows.length k).take i).length≤i:=by rw [List.length_take];exact Nat.min_le_left _ _
   rw [tk] at kk
   generalize (pairsOf cells (spot+1) S.rows.length k).take i=L at tp up mem old Ll Q kk
   generalize hτ₃:τ₂.set p (.list (L.map pairN++[pairN (x,y)]))=τ₃
   have v3:τ₃[p]?=some (.list (L.map pairN++[pairN (x,y)])):=hτ₃▸get_set up
   have fr3:Frm (fun a=>a=0∨a=p) τ τ₃:=((hτ₁▸.set (.inl rfl):Frm _ τ τ₁).trans (hτ₂▸.set (.inl rfl):Frm _ τ₁ τ₂)).trans (hτ₃▸.set (.inr rfl))
   have n0':¬Own h S' 0:=fun o=>n0 (Q.own _ (lt_of hf) o)
   have np':¬Own h S' p:=fun o=>np (Q.own _ (lt_of hp) o)
   have H3:HR τ₃ h S':=Q.H.frm fr3 fun a o e=>e.elim (fun z=>n0' (z▸o)) fun z=>np' (z▸o)
   have w0:τ₃[0]?=some (feedO cells (spot+1+2*(i+1)) ep):=hτ₃▸get_ne (hτ₂▸get_set t0) p0
   refine an2 (tell_ok i i2) fun x1 x2 x3=>?_
   have pl':S'.par.length=S.rows.length:=by rw [← Q.H.n,Q.rows]
   refine heap_merge (d:=d) (x:=tellX i) H3 Q.I (pl'.symm▸m1) (pl'.symm▸m2) hcq x2 (Nat.le_of_ble_eq_true x3) (Nat.lt_of_le_of_lt Q.told (Nat.lt_trans i2 (by decide))) fun v τ₄ S₄ k1 G k7 k8=>?_
   have last:Does (d+4) (.sub (.var 7) (.neg (.int 1))) (upd ρ₁ 3 (nV i)) τ₃ (pairN (x,y)) τ₃:=.sub (.var ((Q.k 7 (by decide)).trans r7)) (.neg .int) (.last (ofList v3) (by rw [List.length_append];exact List.getElem?_concat_length) (by rw [List.length_append,List.length_map];exact big (Nat.succ_le_succ (Nat.le_trans Ll (Nat.le_of_lt i2))) rfl))
   refine kk _ _ τ₄ rfl (.expr (.app (.var ((Q.k 7 (by decide)).trans r7)) Q.p (.tup (.cons (.call (.cons (.var ((Q.k 0 (by decide)).trans r0)) (.one (.len (.var ((Q.k 2 (by decide)).trans r2)) (ofSeq rb) (List.length_map _) (big hl rfl)))) d1) (.one (.call (.cons (.var ((Q.k 0 (by decide)).trans r0)) (.one (.len (.var ((Q.k 2 (by decide)).trans r2)) (ofSeq tb) (List.length_map _) (big hl rfl)))) d2))) rfl) up (by rw [List.length_map];exact bigS (Nat.le_trans Ll (Nat.le_of_lt i2)) rfl) hτ₃)
    (.expr (.umeth (.var ((Q.k 1 (by decide)).trans r1)) H3.i rfl (.cons (.idx (j:=0) last (.int (i:=Int.ofNat 0)) rfl rfl (by decide:2≤BIG)) (.cons (.idx (j:=1) last (.int (i:=Int.ofNat 1)) rfl rfl (by decide:2≤BIG)) (.one (.tup (.cons .str (.one (.bin .str (.bi (.var rfl) (.str (Nat.lt_trans i2 (by decide)))) (.addS rfl x1)))) rfl)))) k1) .nil)) ⟨S₄,G.H,G.I,G.rows.trans Q.rows,Nat.le_trans k7 (Nat.succ_le_succ Q.told),fun a la o=>?_,⟨Nat.le_trans (Nat.le_trans Q.frm.len fr3.len) G.st.frm.len,fun a o e na=>?_⟩,?_,?_,fun x hx=>(if_neg hx).trans (Q.k x hx),?_⟩
   ·exact (G.st.own a o).elim (Q.own a la) fun q=>absurd (Nat.lt_of_lt_of_le (Nat.lt_of_lt_of_le la Q.frm.len) fr3.len) (Nat.not_lt_of_le q)
   ·exact G.st.frm.keep _ _ (fr3.keep _ _ (Q.frm.keep _ _ e na) fun q=>na (q.imp id .inl)) fun o=>na (.inr (.inr (Q.own _ (lt_of e) o)))
   ·exact G.st.frm.keep _ _ w0 n0'
   ·rw [List.map_append];exact G.st.frm.keep _ _ v3 np'
   ·exact fun q m=>(List.mem_append.mp m).elim (fun m=>G.C.up _ _ (pl'.trans pn▸(mem q m).1) (pl'.trans pn▸(mem q m).2) (old q m)) fun m=>List.mem_singleton.mp m▸k8)
  ⟨S,H.frm (.set (A:=fun a=>a=0) rfl) fun a o e=>n0 (e▸o),I,rfl,Nat.le_of_eq ht,fun ξ ξ o=>o,.set (.inl rfl),get_set hf,get_ne hp (Ne.symm p0),fun ξ ξ=>rfl,nofun⟩ fun ρ' σ' hfor u2=>?_
 obtain ⟨S',Q⟩:=u2
 have pl:(pairsOf cells (spot+1) S.rows.length k).length=k:=(List.length_map _).trans List.length_range
 rw [List.take_of_length_le (Nat.le_of_eq pl)] at Q
 exact kk ρ' σ' S' (.for (.rangeN (.call (.cons (.var r0) (.one (.int (i:=Int.ofNat 3)))) dr) (bigS (Nat.le_of_lt kl) rfl)) hfor) Q
end
theorem HR.high {σ:CSt} {h a:Nat} {S:HS} (H:HR σ h S) (o:Own h S a):a<σ.length:=by
 cases o with
 | lo l=>exact Nat.lt_of_lt_of_le (Nat.add_lt_add_left (Nat.le_of_ble_eq_true l) h) H.room
 | lot m=>exact lt_of (H.U.lo _ m)
 | use m=>exact lt_of (H.uc _ m)
theorem own0 {h a:Nat} (o:Own h S0 a):h≤a∧a<h+15:=by
 cases o with
 | lo l=>exact ⟨Nat.le_add_right _ _,Nat.add_lt_add_left (Nat.le_of_ble_eq_true l) h⟩
 | lot m=>cases m
 | use m=>cases m
structure SideOk (rows:List Row) (pairs:List (Nat×Nat)) (S:HS):Prop where
 rw:S.rows=rows
 R:SideRows rows
 le:rows.length≤5
 few:pairs.length≤2
 lt:∀q∈pairs,q.1<rows.length∧q.2<rows.length
 wait:S.waiting=[]
 joined:∀q∈pairs,rt S.par q.1=rt S.par q.2
 inv:∀c,Good rows pairs c→Inv c (fun ξ=>False) S
structure SideR (cells:List Int) (ep h:Nat) (σ:CSt) (rows:List Row) (pairs:List (Nat×Nat)) (spot p:Nat) (σ':CSt) (S:HS):Prop where
 H:HR σ' h S
 O:SideOk rows pairs S
 r:σ'[h+15]?=some (.list (rows.map rowV))
 p:σ'[p]?=some (.list (pairs.map pairN))
 f:σ'[0]?=some (feedO cells spot ep)
 frm:Frm (fun a=>a=0) σ σ'
section
variable {cells:List Int} {ep d spot:Nat} {σ:CSt}
theorem law_side (hf:σ[0]?=some (feedO cells spot ep)) (hc:cells.length≤40) (hs:spot≤40) {zz:Prop} (kk:∀rows pairs spot' p σ' S,Calls (d+6) 34 [.ref 0] σ (.tup [.ref σ.length,.ref (σ.length+15),.ref p]) σ'→spot'≤spot+20→SideR cells ep σ.length σ rows pairs spot' p σ' S→zz):zz:=by
 have zl:=lt_of hf
 have hl:(σ++heap0 σ.length).length=σ.length+15:=List.length_append
 generalize hσ₁:(σ++heap0 σ.length)++[CObj.list (leafRows.map rowV)]=σ₁
 have nl:Does (d+5) (.newl [.tup [.str ⟨#[97]⟩],.tup [.str ⟨#[98]⟩]]) (paramsL 0 [.ref 0]) (σ++heap0 σ.length) (.ref (σ.length+15)) σ₁:=hl▸hσ₁▸.newl (.cons (.tup (.one .str) rfl) (.one (.tup (.one .str) rfl))) rfl
 have hn:Does (d+5) (.inst 2 []) (paramsL 0 [.ref 0]) σ (.ref σ.length) (σ++heap0 σ.length):=heap_new
 have fr1:Frm (fun ξ=>False) σ σ₁:=hσ₁▸.trans .push .push
 have b1:σ₁[σ.length+15]?=some (.list (leafRows.map rowV)):=hσ₁▸hl▸get_new
 have H1:HR σ₁ σ.length S0:=(heap0_HR σ).frm (A:=fun ξ=>False) (hσ₁▸.push) fun ξ ξ q=>q
 have l1:σ₁.length=σ.length+16:=by rw [← hσ₁,List.length_append,hl];rfl
 generalize hh:σ.length=h at zl nl hn b1 H1 l1 kk
 have f1:=fr1.keep _ _ hf id
 refine laps (d:=d+4) (ρ:=upd (upd (paramsL 0 [.ref 0]) 1 (.ref h)) 2 (.ref (h+15))) hc (Nat.le_trans hs (by decide)) (Nat.succ_ne_zero _:h+15≠0) rfl rfl f1 b1 fun ρ₂ σ₂ rows spot₂ e2 L=>?_
 have sp:=L.sp
 have low:∀{a},a=0∨a=h+15→¬Own h S0 a:=fun q o=>q.elim (fun e=>Nat.not_lt_of_le (own0 o).1 (e▸zl)) fun e=>Nat.lt_irrefl _ (e▸(own0 o).2)
 have H2:HR σ₂ h S0:=H1.frm L.frm fun a o q=>low q o
 have n0:0<rows.length:=Nat.lt_of_lt_of_le (by decide) L.R.ge
 have kl:=dV_lt (cells:=cells) (spot:=spot₂) (wide:=3) (by decide)
 have hP:(pairsOf cells (spot₂+1) rows.length (dV cells spot₂ 3)).length=dV cells spot₂ 3:=(List.length_map _).trans List.length_range
 have plt:∀q∈pairsOf cells (spot₂+1) rows.length (dV cells spot₂ 3),q.1<rows.length∧q.2<rows.length:=fun q m=>by
  obtain ⟨z,ξ,e⟩:=List.mem_map.mp m
  rw [← e]
  exact ⟨dV_lt n0,dV_lt n0⟩
 have l2:h+16≤σ₂.length:=l1▸L.frm.len
 refine adds (d:=d) (c:=allC rows (pairsOf cells (spot₂+1) rows.length (dV cells spot₂ 3))) L.R L.le allC_cong (L.r1.trans rfl) (L.r2.trans rfl) H2 (low (.inr rfl)) L.r fun ρ₃ σ₃ S₃ e3 A=>?_
 have rw3:=A.rows
 have own3:∀{a},a<h+16→Own h S₃ a→Own h S0 a:=fun l o=>(A.st.own _ o).elim id fun q=>absurd (Nat.lt_of_lt_of_le l l2) (Nat.not_lt_of_le q)
 have l3:h+16≤σ₃.length:=Nat.le_trans l2 A.st.frm.len
 subst rw3
 have z16:0<h+16:=Nat.succ_pos _
 have pk:∀{x},x≠6→x≠7→upd ρ₃ 7 (.ref σ₃.length) x=ρ₂ x:=fun a b=>(if_neg b).trans (A.k _ a)
 refine tells (d:=d+1) (ρ:=upd ρ₃ 7 (.ref σ₃.length)) (σ:=σ₃++[CObj.list []]) (b:=h+15) (p:=σ₃.length) hc (by lia) L.le n0 (fun q m=>allC_pair m) ((pk (by decide) (by decide)).trans L.r0) ((pk (by decide) (by decide)).trans L.r1) ((pk (by decide) (by decide)).trans L.r2) rfl (A.H.frm (A:=fun ξ=>False) .push fun ξ ξ q=>q) A.I A.told (fun o=>low (.inl rfl) (own3 z16 o)) (fun o=>low (.inr rfl) (own3 (Nat.lt_succ_self _) o)) (fun o=>Nat.lt_irrefl _ (A.H.high o)) (Nat.succ_ne_zero _) (Nat.ne_of_gt (Nat.lt_of_lt_of_le z16 l3)) (Nat.ne_of_lt (Nat.lt_of_succ_le l3)) (get_app (A.st.frm.keep _ _ L.f (low (.inl rfl)))) (get_app (A.st.frm.keep _ _ L.r (low (.inr rfl)))) get_new fun ρ₅ σ₅ S₅ e5 T=>?_
 generalize hpairs:pairsOf cells (spot₂+1) S₃.rows.length (dV cells spot₂ 3)=pairs at T hP plt
 refine heap_settle (d:=d) T.H T.I (by rw [T.rows];exact hpairs▸allC_cong) fun σ₆ S₆ c6 G tl6 w6=>?_
 have tk:∀{x},x≠3→x≠6→x≠7→ρ₅ x=ρ₂ x:=fun a b c=>(T.k _ a).trans (pk b c)
 have nl3:∀{a},a=0∨a=h+15→¬Own h S₃ a:=fun q o=>low q (own3 (q.elim (fun e=>e▸z16) fun e=>e▸Nat.lt_succ_self _) o)
 have nl5:∀{a},a<σ₃.length+1→¬Own h S₃ a→¬Own h S₅ a:=fun l n o=>n (T.own _ (by rw [List.length_append];exact l) o)
 have pl5:S₅.par.length=S₃.rows.length:=by rw [← T.H.n,T.rows]
 refine kk S₃.rows pairs (spot₂+1+2*dV cells spot₂ 3) σ₃.length σ₆ S₆ (.run rfl rfl (.next (.assignT (.tup (.cons hn (.one nl)) rfl) rfl rfl) (.next e2 (.next e3 (.next (.assign (.newl .nil rfl) rfl) (.next e5 (.expr (.umeth (.var ((tk (by decide) (by decide) (by decide)).trans L.r1)) T.H.i rfl .nil c6) (.ret (.tup (.cons (.var ((tk (by decide) (by decide) (by decide)).trans L.r1)) (.cons (.var ((tk (by decide) (by decide) (by decide)).trans L.r2)) (.one (.var ((T.k 7 (by decide)).trans rfl))))) rfl))))))))) (by lia) ⟨G.H,⟨G.rows.trans T.rows,L.R,L.le,by lia,plt,w6,fun q m=>G.C.up _ _ (pl5▸(plt q m).1) (pl5▸(plt q m).2) (T.one q m),fun c g=>allC_inv G.I g⟩,?_,?_,?_,?_⟩
 ·exact G.st.frm.keep _ _ (T.frm.keep _ _ (get_app (A.st.frm.keep _ _ L.r (low (.inr rfl)))) fun q=>q.elim (Nat.succ_ne_zero _) fun q=>q.elim (Nat.ne_of_lt (Nat.lt_of_succ_le l3)) (nl3 (.inr rfl))) (nl5 (Nat.le_succ_of_le (Nat.lt_of_succ_le l3)) (nl3 (.inr rfl)))
 ·exact G.st.frm.keep _ _ T.p (nl5 (Nat.lt_succ_self _) fun o=>Nat.lt_irrefl _ (A.H.high o))
 ·exact G.st.frm.keep _ _ T.f (nl5 (Nat.succ_pos _) (nl3 (.inl rfl)))
 ·refine ⟨Nat.le_trans (Nat.le_trans (Nat.le_trans fr1.len L.frm.len) A.st.frm.len) (Nat.le_trans (Frm.push (A:=fun ξ=>False)).len (Nat.le_trans T.frm.len G.st.frm.len)),fun a o e n=>?_⟩
  have la:a<h:=hh▸lt_of e
  have ns:¬Own h S0 a:=fun o=>Nat.not_lt_of_le (own0 o).1 la
  have n3:¬Own h S₃ a:=fun o=>ns (own3 (Nat.lt_of_lt_of_le la (Nat.le_add_right _ _)) o)
  have l3':a<σ₃.length:=Nat.lt_of_lt_of_le la (Nat.le_trans (Nat.le_add_right _ _) l3)
  exact G.st.frm.keep _ _ (T.frm.keep _ _ (get_app (A.st.frm.keep _ _ (L.frm.keep _ _ (fr1.keep _ _ e id) fun q=>q.elim n (Nat.ne_of_lt (Nat.lt_of_lt_of_le la (Nat.le_add_right h 15)))) ns)) fun q=>q.elim n fun q=>q.elim (Nat.ne_of_lt l3') n3) (nl5 (Nat.lt_succ_of_lt l3') n3)
end
section
variable {σ:CSt} {h i:Nat} {S:HS} {rows:List Row} {pairs:List (Nat×Nat)}
theorem SideOk.len (O:SideOk rows pairs S) (H:HR σ h S):S.par.length=rows.length:=by rw [← H.n,O.rw]
theorem side_cong (H:HR σ h S) (O:SideOk rows pairs S):Cong (rt S.par) rows:=by
 intro i j r s hi hj e1 e2
 have I:=O.inv (fun ξ=>0) ⟨fun ξ ξ ξ ξ ξ ξ ξ ξ=>rfl,fun ξ ξ=>rfl⟩
 have fd:∀{i r},rows[i]?=some r→∃j,((r.1,r.2.map (rt S.par)),j)∈S.known∧rt S.par j=rt S.par i:=fun {i r} hi=>by
  rcases I.done i ((O.len H).symm▸(List.getElem?_eq_some_iff.mp hi).1) with w | w | x
  ·rw [O.wait] at w;cases w
  ·exact w.elim
  ·rw [nodeOf_at (O.rw.symm▸hi)] at x;exact x
 obtain ⟨x,mx,ex⟩:=fd hi
 obtain ⟨y,my,ey⟩:=fd hj
 rw [← e1,← e2] at my
 have e:=Option.some.inj ((dget_of H.kd mx).symm.trans (dget_of H.kd my))
 rw [← ex,← ey,e]
theorem side_good (H:HR σ h S) (O:SideOk rows pairs S):Good rows pairs (rt S.par):=⟨side_cong H O,O.joined⟩
theorem side_sound (H:HR σ h S) (O:SideOk rows pairs S) {c:Nat→Nat} (g:Good rows pairs c) (hi:i<rows.length):c (rt S.par i)=c i:=(O.inv c g).snd i ((O.len H).symm▸hi)
end
noncomputable def Keep (n:Nat) (ρ ρ':Loc):Prop:=∀x,Nat.blt x n=true→ρ' x=ρ x
theorem Keep.refl {n:Nat} {ρ:Loc}:Keep n ρ ρ:=fun ξ ξ=>rfl
theorem Keep.upd {n y:Nat} {v:CV} {ρ ρ':Loc} (k:Keep n ρ ρ') (h:Nat.ble n y=true):Keep n ρ (upd ρ' y v):=fun x l=>(if_neg fun e:x=y=>Nat.lt_irrefl _ (Nat.lt_of_lt_of_le (Nat.le_of_ble_eq_true l) (e▸Nat.le_of_ble_eq_true h))).trans (k x l)
theorem Keep.trans {n m:Nat} {ρ ρ' ρ'':Loc} (k:Keep n ρ ρ') (j:Keep m ρ' ρ'') (h:Nat.ble n m=true):Keep n ρ ρ'':=fun x l=>(j x (blt_of l h)).trans (k x l)
abbrev gAt (hm:List Nat) (i:Nat):Nat:=hm.getD i 0
section
variable {d i m w b n k:Nat} {ρ ρ':Loc} {σ τ τ':CSt} {hm:List Nat} {r s:Row} {rows:List Row} {L L' L'':List (Nat×Nat)}
theorem ForD.enum {l:List CV} {so:Option (Nat×CObj)} {body:List CS} {one:Bool} {ts:List Nat} (J:Nat→Loc→CSt→Prop) (hs:∀i ρ σ,J i ρ σ→srcP σ so) (st:∀i x ρ σ,l[i]?=some x→J i ρ σ→∀zz:Prop,(∀ρ₁ ρ' σ',bindT σ ρ ts one (.tup [nV i,x])=some ρ₁→RunD d body ρ₁ σ .next ρ' σ'→J (i+1) ρ' σ'→zz)→zz) (j:J 0 ρ σ) {zz:Prop} (kk:∀ρ' σ',ForD d ts one body so (l.zipIdx.map fun (x,i)=>CV.tup [.int (Int.ofNat i),x]) ρ σ ρ' σ'→J l.length ρ' σ'→zz):zz:=
 ForD.each (f:=fun (x,i)=>CV.tup [.int (Int.ofNat i),x]) (l:=l.zipIdx) J hs (fun i a ρ σ ha j=>by
  rw [List.getElem?_zipIdx] at ha
  obtain ⟨y,hy,e⟩:=Option.map_eq_some_iff.mp ha
  rw [Nat.zero_add] at e
  subst e
  exact st i y ρ σ hy j) j fun ρ' σ' F j=>kk ρ' σ' F (by rw [List.length_zipIdx] at j;exact j)
theorem peq_nats {as bs:List Nat}:peq (.lst (as.map nV)) (.lst (bs.map nV))=some (decide (as=bs)):=
 have D:∀as:List Nat,Dat (.lst (as.map nV))=true∧dp (.lst (as.map nV))≤64:=fun as=>⟨Dats_all fun x m=>(by obtain ⟨ξ,ξ,e⟩:=List.mem_map.mp m;exact e▸rfl),Nat.succ_le_succ (dps_le fun x m=>(by obtain ⟨ξ,ξ,e⟩:=List.mem_map.mp m;exact e▸Nat.zero_le _))⟩
 (peq_dat (D as).1 (D bs).1 (D as).2 (D bs).2).trans (congrArg some (dec_iff ⟨fun h=>map_nV_inj (CV.lst.inj h),fun h=>by rw [h]⟩))
theorem DoesT.and2 {a c:CE} {x y:Bool} (A:DoesT d a ρ σ x σ) (C:DoesT d c ρ σ y σ):DoesT d (.bop true [a,c]) ρ σ (x&&y) σ:=by
 cases x with
 | false=>exact .bop (.stop (i:=true) A)
 | true=>cases y with
  | false=>exact .bop (.cons A (.stop (i:=true) C))
  | true=>exact .bop (.cons A (.cons C .nil))
theorem Does.lstN {e:CE} {v:Nat} (hv:ρ v=some (.lst (hm.map nV))) (S:Does d e ρ τ (nV k) τ) (hk:k<hm.length) (hl:hm.length≤2000):Does d (.sub (.var v) e) ρ τ (nV (gAt hm k)) τ:=
 .idx (.var hv) S rfl (by rw [List.getElem?_map,List.getElem?_eq_getElem hk];exact congrArg (fun x=>some (nV x)) (getD_lt hk).symm) (by rw [List.length_map];exact big hl rfl)
theorem Does.rowAt {e:CE} {v:Nat} (hv:ρ v=some (.ref b)) (hb:τ[b]?=some (.list (rows.map rowV))) (S:Does d e ρ τ (nV i) τ) (hi:rows[i]?=some r) (hl:rows.length≤2000):Does d (.sub (.var v) e) ρ τ (rowV r) τ:=
 .idx (.var hv) S (ofSeq hb) (by rw [List.getElem?_map,hi];rfl) (by rw [List.length_map];exact big hl rfl)
theorem Does.homes {e:CE} {t v:Nat} (S:Does d e ρ τ (rowV r) τ) (tv:Nat.beq v t=false) (hw:r.2.length≤2) (hv:ρ v=some (.lst (hm.map nV))) (hk:∀k∈r.2,k<hm.length) (hl:hm.length≤2000) :
  Does d (.comp false (.gen [t] true .val [.slice e (some 1) none] [] (.elt (.sub (.var v) (.var t))))) ρ τ (.lst ((r.2.map (gAt hm)).map nV)) τ:=
 have ne:=Nat.ne_of_beq_eq_false tv
 .to (.cmap0 (fi:=nV) (go:=fun k=>nV (gAt hm k)) (.val (kids_of S (Nat.le_trans hw (by decide))) .tup) (big hw rfl) fun k m=>.lstN ((if_neg ne).trans ((if_neg (by simp [ne])).trans hv)) (.var (if_pos rfl)) (hk k m) hl) (by rw [List.map_map];rfl)
noncomputable def lk (hm:List Nat) (r s:Row):Bool:=decide (r.1=s.1)&&decide (r.2.map (gAt hm)=s.2.map (gAt hm))
noncomputable def cnd (rows:List Row) (hm:List Nat) (m i:Nat):Prop:=∃r s,rows[m]?=some r∧rows[i]?=some s∧lk hm r s=true
abbrev wantB:List CS:=[.ite (.bop true [.cmp .eq (.sub (.sub (.var 0) (.var 7)) (.int 0)) (.sub (.var 6) (.int 0)),.cmp .eq (.comp false (.gen [8] true .val [.slice (.sub (.var 0) (.var 7)) (some 1) none] [] (.elt (.sub (.var 2) (.var 8))))) (.comp false (.gen [8] true .val [.slice (.var 6) (some 1) none] [] (.elt (.sub (.var 2) (.var 8)))))]) [.expr (.bmeth (.var 4) .append [.tup [.var 7,.var 5]])] []]
structure WantR (rows:List Row) (hm:List Nat) (w:Nat) (τ:CSt) (L:List (Nat×Nat)) (n:Nat) (P:Nat→Nat→Prop) (L':List (Nat×Nat)) (τ':CSt):Prop where
 c:τ'[w]?=some (.list (L'.map pairN))
 frm:Frm (fun a=>a=w) τ τ'
 old:∀q∈L,q∈L'
 new:∀q∈L',q∈L∨cnd rows hm q.1 q.2
 all:∀m i,P m i→cnd rows hm m i→(m,i)∈L'
 len:L'.length≤L.length+n
theorem WantR.next {P P' Q:Nat→Nat→Prop} {τ'':CSt} (x:WantR rows hm w τ L n P L' τ') (y:WantR rows hm w τ' L' k P' L'' τ'') (h:∀m i,Q m i→P m i∨P' m i):WantR rows hm w τ L (n+k) Q L'' τ'':=
 ⟨y.c,x.frm.trans y.frm,fun q m=>y.old q (x.old q m),fun q m=>(y.new q m).elim (x.new q) .inr,fun m i q c=>(h m i q).elim (fun p=>y.old _ (x.all m i p c)) fun p=>y.all m i p c,Nat.le_trans y.len (by rw [← Nat.add_assoc];exact Nat.add_le_add_right x.len k)⟩
theorem RowsOk.kl (K:RowsOk rows) (hi:rows[i]?=some r):∀k∈r.2,k<rows.length:=fun k m=>Nat.lt_trans (K.kids i r hi k m) (List.getElem?_eq_some_iff.mp hi).1
theorem want_one (K:RowsOk rows) (hmr:hm.length=rows.length) (r0:ρ 0=some (.ref b)) (r2:ρ 2=some (.lst (hm.map nV))) (r4:ρ 4=some (.ref w)) (r5:ρ 5=some (nV i)) (r6:ρ 6=some (rowV s)) (r7:ρ 7=some (nV m)) (hb:τ[b]?=some (.list (rows.map rowV))) (hw:τ[w]?=some (.list (L.map pairN))) (hi:rows[i]?=some s) (hm':rows[m]?=some r) (hL:L.length≤1000) {zz:Prop} (kk:∀τ' L',RunD d wantB ρ τ .next ρ τ'→WantR rows hm w τ L 1 (fun m' i'=>m'=m∧i'=i) L' τ'→zz):zz:=by
 have few:=Nat.le_trans K.few (by decide:60≤2000)
 have hl:hm.length≤2000:=hmr▸few
 have em:Does d (.sub (.var 0) (.var 7)) ρ τ (rowV r) τ:=.rowAt r0 hb (.var r7) hm' few
 have w2:=Nat.le_trans (by decide:2≤1000) (Nat.le_refl _)
 have T:DoesT d (.bop true [.cmp .eq (.sub (.sub (.var 0) (.var 7)) (.int 0)) (.sub (.var 6) (.int 0)),.cmp .eq (.comp false (.gen [8] true .val [.slice (.sub (.var 0) (.var 7)) (some 1) none] [] (.elt (.sub (.var 2) (.var 8))))) (.comp false (.gen [8] true .val [.slice (.var 6) (some 1) none] [] (.elt (.sub (.var 2) (.var 8)))))]) ρ τ (lk hm r s) τ:=
  .and2 (.cmp (opV_idx em (Nat.le_trans (K.w hm') (by decide))) (opV_idx (.var r6) (Nat.le_trans (K.w hi) (by decide))) (.eq (peq_op _ _))) (.cmp (.homes em rfl (K.w hm') r2 (hmr▸K.kl hm') hl) (.homes (.var r6) rfl (K.w hi) r2 (hmr▸K.kl hi) hl) (.eq peq_nats))
 cases e:lk hm r s with
 | true=>exact kk _ (L++[(m,i)]) (.next (.ite (i:=true) (.to T e) (.expr (.app (.var r4) hw (.tup (.cons (.var r7) (.one (.var r5))) rfl) hw (by rw [List.length_map];exact bigS hL rfl) rfl) .nil)) .nil) ⟨by rw [List.map_append];exact get_set hw,.set rfl,fun q mq=>List.mem_append_left _ mq,fun q mq=>(List.mem_append.mp mq).imp id fun mq=>by rw [List.mem_singleton.mp mq];exact ⟨r,s,hm',hi,e⟩,fun m' i' q ξ=>by rw [q.1,q.2];exact List.mem_append_right _ (List.mem_singleton.mpr rfl),by rw [List.length_append];exact Nat.le_refl _⟩
 | false=>exact kk τ L (.next (.skip (.to T e)) .nil) ⟨hw,.refl,fun q mq=>mq,fun q mq=>.inl mq,fun m' i' q w119=>by obtain ⟨r',s',h1,h2,h3⟩:=w119;exact (by
   rw [q.1,hm'] at h1
   rw [q.2,hi] at h2
   rw [← Option.some.inj h1,← Option.some.inj h2,e] at h3
   cases h3),Nat.le_succ _⟩
abbrev wantR:CS:=.for [7] true .range [.var 5] wantB
theorem want_row (K:RowsOk rows) (hmr:hm.length=rows.length) (r0:ρ 0=some (.ref b)) (r2:ρ 2=some (.lst (hm.map nV))) (r4:ρ 4=some (.ref w)) (r5:ρ 5=some (nV i)) (r6:ρ 6=some (rowV s)) (hb:τ[b]?=some (.list (rows.map rowV))) (bw:b≠w) (hw:τ[w]?=some (.list (L.map pairN))) (hi:rows[i]?=some s) (hL:L.length≤900) {zz:Prop} (kk:∀ρ' τ' L',ExD d wantR ρ τ .next ρ' τ'→WantR rows hm w τ L i (fun m' i'=>m'<i∧i'=i) L' τ'→Keep 7 ρ ρ'→zz):zz:=by
 have few:=K.few
 have il:=(List.getElem?_eq_some_iff.mp hi).1
 refine ForD.upto (d:=d) (so:=none) (one:=true) (ts:=[7]) (ρ:=ρ) (σ:=τ) (n:=i) (body:=wantB)
  (fun k ρ' τ'=>∃L',WantR rows hm w τ L k (fun m' i'=>m'<k∧i'=i) L' τ'∧Keep 7 ρ ρ') (fun ξ ξ ξ ξ=>trivial)
  (fun k ρ₁ τ₁ kl w118 zz kk=>by
   obtain ⟨L',Q,kp⟩:=w118
   have len:=Q.len
   refine want_one (d:=d) (ρ:=upd ρ₁ 7 (nV k)) (m:=k) K hmr ((kp 0 rfl).trans r0) ((kp 2 rfl).trans r2) ((kp 4 rfl).trans r4) ((kp 5 rfl).trans r5) ((kp 6 rfl).trans r6) rfl (Q.frm.keep _ _ hb bw) Q.c hi (List.getElem?_eq_getElem (Nat.lt_trans kl il)) (by lia) fun τ₂ L₂ k1 Q'=>?_
   exact kk _ _ τ₂ rfl k1 ⟨L₂,Q.next Q' fun m' i' q=>lt_snoc q.1 (fun l=>.inl ⟨l,q.2⟩) fun e=>.inr ⟨e,q.2⟩,kp.upd rfl⟩)
  ⟨L,⟨hw,.refl,fun ξ m=>m,fun ξ m=>.inl m,fun ξ ξ q=>absurd q.1 (Nat.not_lt_zero _),Nat.le_refl _⟩,.refl⟩ fun ρ' τ' hfor u2=>?_
 obtain ⟨L',Q,kp⟩:=u2
 exact kk ρ' τ' L' (.for (.rangeN (.var r5) (bigS (Nat.le_trans (Nat.le_of_lt il) few) rfl)) hfor) Q kp
theorem want_all (K:RowsOk rows) (l5:rows.length≤5) (hmr:hm.length=rows.length) (r0:ρ 0=some (.ref b)) (r2:ρ 2=some (.lst (hm.map nV))) (r4:ρ 4=some (.ref w)) (hb:τ[b]?=some (.list (rows.map rowV))) (bw:b≠w) (hw:τ[w]?=some (.list (L.map pairN))) (hL:L.length≤10) {zz:Prop} (kk:∀ρ' τ' L',ExD d (.for [5,6] false .enum [.var 0] [wantR]) ρ τ .next ρ' τ'→WantR rows hm w τ L 25 (fun m i=>m<i) L' τ'→Keep 5 ρ ρ'→zz):zz:=by
 refine ForD.enum (d:=d) (so:=some (b,.list (rows.map rowV))) (one:=false) (ts:=[5,6]) (ρ:=ρ) (σ:=τ) (body:=[wantR]) (l:=rows.map rowV)
  (fun k ρ' τ'=>∃L',WantR rows hm w τ L (k*5) (fun m i=>i<k∧m<i) L' τ'∧Keep 5 ρ ρ') (fun ξ ξ ξ w117=>by obtain ⟨ξ,Q,ξ⟩:=w117;exact Q.frm.keep _ _ hb bw)
  (fun k x ρ₁ τ₁ hx w116 zz kk=>by
   obtain ⟨L',Q,kp⟩:=w116
   rw [List.getElem?_map] at hx
   obtain ⟨s,hs,e⟩:=Option.map_eq_some_iff.mp hx
   subst e
   have kl:=(List.getElem?_eq_some_iff.mp hs).1
   have len:=Q.len
   refine want_row (d:=d) (ρ:=upd (upd ρ₁ 5 (nV k)) 6 (rowV s)) K hmr ((kp 0 rfl).trans r0) ((kp 2 rfl).trans r2) ((kp 4 rfl).trans r4) rfl rfl (Q.frm.keep _ _ hb bw) bw Q.c hs (by lia) fun ρ₂ τ₂ L₂ k1 Q' kp'=>?_
   have Z:=Q.next Q' (Q:=fun m i=>i<k+1∧m<i) fun m' i' q=>lt_snoc q.1 (fun l=>.inl ⟨l,q.2⟩) fun e=>.inr ⟨e▸q.2,e⟩
   exact kk _ ρ₂ τ₂ rfl (.next k1 .nil) ⟨L₂,{ Z with len:=Nat.le_trans Z.len (by lia) },Keep.trans ((kp.upd rfl).upd rfl) kp' rfl⟩)
  ⟨L,⟨hw,.refl,fun ξ m=>m,fun ξ m=>.inl m,fun ξ ξ q=>absurd q.1 (Nat.not_lt_zero _),Nat.le_refl _⟩,.refl⟩ fun ρ' τ' hfor u1=>?_
 obtain ⟨L',Q,kp⟩:=u1
 rw [List.length_map] at Q
 exact kk ρ' τ' L' (.for (.enum (so:=some (b,.list (rows.map rowV))) (.var r0) (ofList hb) fun σ h=>ofList h) hfor) { Q with all:=fun m i q c=>Q.all m i ⟨(by obtain ⟨ξ,ξ,ξ,hs,ξ⟩:=c;exact (List.getElem?_eq_some_iff.mp hs).1),q⟩ c,len:=Nat.le_trans Q.len (Nat.add_le_add_left (Nat.mul_le_mul_right 5 l5) _) } kp
end
structure HomesOk (rows:List Row) (pairs:List (Nat×Nat)) (hm:List Nat):Prop where
 len:hm.length=rows.length
 le:∀i,i<rows.length→gAt hm i≤i
 snd:∀c,Good rows pairs c→∀i,i<rows.length→c (gAt hm i)=c i
noncomputable def turn (hm:List Nat) (low high:Nat):List Nat:=hm.map fun x=>if x=high then low else x
theorem turn_at {hm:List Nat} {low high i:Nat} (h:i<hm.length):gAt (turn hm low high) i=if gAt hm i=high then low else gAt hm i:=by
 unfold turn gAt
 rw [List.getD_eq_getElem?_getD,List.getElem?_map,List.getD_eq_getElem?_getD,List.getElem?_eq_getElem h];rfl
theorem turn_le {low high:Nat} (h:low<high):∀{hm:List Nat},(turn hm low high).sum≤hm.sum:=by
 intro l1
 induction l1 with
 | nil=>
  exact Nat.le_refl _
 | cons x hm ih=>
  exact Nat.add_le_add (by
  show (if x=high then low else x)≤x
  by_cases z:x=high
  ·rw [if_pos z,z];exact Nat.le_of_lt h
  ·rw [if_neg z];exact Nat.le_refl _) (ih)
theorem turn_lt {low high:Nat} (h:low<high):∀{hm:List Nat},high∈hm→(turn hm low high).sum<hm.sum:=by
 intro l2
 induction l2 with
 | nil=>
  intros;contradiction
 | cons x hm ih=>
  intro m
  show (if x=high then low else x)+(turn hm low high).sum<x+hm.sum
  by_cases z:x=high
  ·rw [if_pos z,z];exact Nat.add_lt_add_of_lt_of_le h (turn_le h)
  ·rw [if_neg z];exact Nat.add_lt_add_left (ih ((List.mem_cons.mp m).resolve_left (Ne.symm z))) x
section
variable {d x y w:Nat} {ρ:Loc} {τ:CSt} {hm:List Nat} {rows:List Row} {pairs L:List (Nat×Nat)}
theorem HomesOk.turn (h:HomesOk rows pairs hm) (hx:x<rows.length) (hy:y<rows.length) (hc:∀c,Good rows pairs c→c x=c y):HomesOk rows pairs (turn hm (min (gAt hm x) (gAt hm y)) (max (gAt hm x) (gAt hm y))) where
 len:=(List.length_map _).trans h.len
 le i hi:=by
  rw [turn_at (h.len.symm▸hi)]
  have:=h.le i hi
  by_cases e:gAt hm i=max (gAt hm x) (gAt hm y)
  ·rw [if_pos e];exact Nat.le_trans (Nat.le_trans (Nat.min_le_left _ _) (Nat.le_max_left _ _)) (e▸this)
  ·rw [if_neg e];exact this
 snd c g i hi:=by
  rw [turn_at (h.len.symm▸hi)]
  have s:=h.snd c g i hi
  by_cases e:gAt hm i=max (gAt hm x) (gAt hm y)
  ·rw [if_pos e,← s,e]
   have sx:=h.snd c g x hx
   have sy:=h.snd c g y hy
   rcases Nat.le_total (gAt hm x) (gAt hm y) with q | q
   ·rw [Nat.min_eq_left q,Nat.max_eq_right q,sx,sy,hc c g]
   ·rw [Nat.min_eq_right q,Nat.max_eq_left q,sx,sy,hc c g]
  ·rw [if_neg e];exact s
abbrev turnB:List CS:=[.ite (.cmp .ne (.sub (.var 2) (.var 9)) (.sub (.var 2) (.var 10))) [.assignT [11,12] (.bi .sorted (.lst [.sub (.var 2) (.var 9),.sub (.var 2) (.var 10)])),.assignT [2,3] (.tup [.comp false (.gen [13] true .val [.var 2] [] (.elt (.ite (.cmp .eq (.var 13) (.var 12)) (.var 11) (.var 13)))),.bool true])] []]
theorem turn_cmp {low high:Nat} (hl:hm.length≤100) (r2:ρ 2=some (.lst (hm.map nV))) (r11:ρ 11=some (nV low)) (r12:ρ 12=some (nV high)):Does d (.comp false (.gen [13] true .val [.var 2] [] (.elt (.ite (.cmp .eq (.var 13) (.var 12)) (.var 11) (.var 13))))) ρ τ (.lst ((turn hm low high).map nV)) τ:=
 .to (.cmap0 (fi:=nV) (go:=fun x=>nV (if x=high then low else x)) (.val (.var r2) .lst) (big hl rfl) fun k m=>by
  have c:DoesT d (.cmp .eq (.var 13) (.var 12)) (upd (clr [13] ρ) 13 (nV k)) τ (decide (k=high)) τ:=.cmp (.var rfl) (.var r12) eq_nat
  by_cases z:k=high
  ·rw [if_pos z];exact .ite (i:=true) (.to c (decide_eq_true z)) (.var r11)
  ·rw [if_neg z];exact .ite (i:=false) (.to c (decide_eq_false z)) (.var rfl)) (by unfold turn;rw [List.map_map];rfl)
theorem turn_one (hl:hm.length≤100) (r2:ρ 2=some (.lst (hm.map nV))) (r9:ρ 9=some (nV x)) (r10:ρ 10=some (nV y)) (hx:x<hm.length) (hy:y<hm.length) :
  (gAt hm x=gAt hm y∧RunD d turnB ρ τ .next ρ τ)∨(gAt hm x≠gAt hm y∧RunD d turnB ρ τ .next (upd (upd (upd (upd ρ 11 (nV (min (gAt hm x) (gAt hm y)))) 12 (nV (max (gAt hm x) (gAt hm y)))) 2 (.lst ((turn hm (min (gAt hm x) (gAt hm y)) (max (gAt hm x) (gAt hm y))).map nV))) 3 (.bool true)) τ):=by
 have hl':=Nat.le_trans hl (by decide:100≤2000)
 have s9:Does d (.sub (.var 2) (.var 9)) ρ τ (nV (gAt hm x)) τ:=.lstN r2 (.var r9) hx hl'
 have s10:Does d (.sub (.var 2) (.var 10)) ρ τ (nV (gAt hm y)) τ:=.lstN r2 (.var r10) hy hl'
 have T:DoesT d (.cmp .ne (.sub (.var 2) (.var 9)) (.sub (.var 2) (.var 10))) ρ τ (!decide (gAt hm x=gAt hm y)) τ:=.cmp s9 s10 ne_nat
 by_cases e:gAt hm x=gAt hm y
 ·exact .inl ⟨e,.next (.skip (.to T (by rw [decide_eq_true e];rfl))) .nil⟩
 ·exact .inr ⟨e,.next (.ite (i:=true) (.to T (by rw [decide_eq_false e];rfl)) (.next (.assignT (.bi (.lst (.cons s9 (.one s10)) rfl) (.sorted (.two _ _) rfl)) rfl rfl) (.next (.assignT (.tup (.cons (turn_cmp hl r2 rfl rfl) (.one .bool)) rfl) rfl rfl) .nil))) .nil⟩
structure TurnR (rows:List Row) (pairs:List (Nat×Nat)) (hm:List Nat) (ρ:Loc) (L:List (Nat×Nat)) (hm':List Nat) (t:Bool) (ρ':Loc):Prop where
 ok:HomesOk rows pairs hm'
 r2:ρ' 2=some (.lst (hm'.map nV))
 r3:ρ' 3=some (.bool t)
 no:t=false→hm'=hm∧∀q∈L,gAt hm q.1=gAt hm q.2
 yes:t=true→hm'.sum<hm.sum
 k:Keep 2 ρ ρ'
theorem turn_all (l5:rows.length≤5) (h:HomesOk rows pairs hm) (r2:ρ 2=some (.lst (hm.map nV))) (r3:ρ 3=some (.bool false)) (r4:ρ 4=some (.ref w)) (hw:τ[w]?=some (.list (L.map pairN))) (hL:∀q∈L,q.1<rows.length∧q.2<rows.length∧∀c,Good rows pairs c→c q.1=c q.2) {zz:Prop} (kk:∀ρ' hm' t,ExD d (.for [9,10] false .val [.var 4] turnB) ρ τ .next ρ' τ→TurnR rows pairs hm ρ L hm' t ρ'→zz):zz:=by
 refine ForD.each (d:=d) (so:=some (w,.list (L.map pairN))) (one:=false) (ts:=[9,10]) (f:=pairN) (l:=L) (ρ:=ρ) (σ:=τ) (body:=turnB)
  (fun i ρ' τ'=>τ'=τ∧∃hm' t,TurnR rows pairs hm ρ (L.take i) hm' t ρ') (fun ξ ξ ξ w123=>by obtain ⟨e,ξ⟩:=w123;rw [e];exact hw)
  (fun i q ρ₁ τ₁ hq w122 zz kk=>by
   obtain ⟨e,hm',t,Q⟩:=w122
   obtain ⟨q1,q2,q3⟩:=hL q (List.mem_of_getElem? hq)
   have tk:L.take (i+1)=L.take i++[q]:=by rw [List.take_add_one,hq];rfl
   have len:=Q.ok.len
   rcases turn_one (d:=d) (ρ:=upd (upd ρ₁ 9 (nV q.1)) 10 (nV q.2)) (τ:=τ₁) (len▸Nat.le_trans l5 (by decide)) Q.r2 rfl rfl (len.symm▸q1) (len.symm▸q2) with ⟨e',he⟩ | ⟨ne,he⟩
   ·refine kk _ _ τ₁ rfl he ⟨e,hm',t,Q.ok,Q.r2,Q.r3,fun ht=>?_,Q.yes,(Q.k.upd rfl).upd rfl⟩
    obtain ⟨a,b⟩:=Q.no ht
    exact ⟨a,fun z m=>(List.mem_append.mp (tk▸m)).elim (b z) fun m=>by rw [List.mem_singleton.mp m,← a];exact e'⟩
   ·refine kk _ _ τ₁ rfl he ⟨e,_,true,Q.ok.turn q1 q2 q3,rfl,rfl,nofun,fun ξ=>?_,((((Q.k.upd rfl).upd rfl).upd rfl).upd rfl |>.upd rfl).upd rfl⟩
    have ts:=turn_lt (hm:=hm') (low:=min (gAt hm' q.1) (gAt hm' q.2)) (high:=max (gAt hm' q.1) (gAt hm' q.2)) (by lia) (by
     have g:∀{i},i<rows.length→gAt hm' i∈hm':=fun l=>by unfold gAt;rw [getD_lt (len.symm▸l)];exact List.getElem_mem _
     rcases Nat.le_total (gAt hm' q.1) (gAt hm' q.2) with z | z
     ·rw [Nat.max_eq_right z];exact g q2
     ·rw [Nat.max_eq_left z];exact g q1)
    cases t with
    | true=>exact Nat.lt_trans ts (Q.yes rfl)
    | false=>rw [(Q.no rfl).1] at ts ⊢;exact ts)
  ⟨rfl,hm,false,h,r2,r3,fun ξ=>⟨rfl,nofun⟩,nofun,.refl⟩ fun ρ' τ' hfor u4=>?_
 obtain ⟨e,hm',t,Q⟩:=u4
 rw [List.take_length] at Q
 subst e
 exact kk ρ' hm' t (.for (.val (.var r4) (.ref hw)) hfor) Q
theorem homes0:HomesOk rows pairs (List.range rows.length) where
 len:=List.length_range
 le i hi:=by unfold gAt;rw [List.getD_eq_getElem?_getD,List.getElem?_range hi];exact Nat.le_refl _
 snd c _ i hi:=by unfold gAt;rw [List.getD_eq_getElem?_getD,List.getElem?_range hi];rfl
theorem law_homes {σ:CSt} {b p:Nat} (R:SideRows rows) (l5:rows.length≤5) (pf:pairs.length≤2) (plt:∀q∈pairs,q.1<rows.length∧q.2<rows.length) (hb:σ[b]?=some (.list (rows.map rowV))) (hp:σ[p]?=some (.list (pairs.map pairN))) {zz:Prop} (kk:∀hm σ',Calls (d+1) 35 [.ref b,.ref p] σ (.lst (hm.map nV)) σ'→HomesOk rows pairs hm→Good rows pairs (gAt hm)→Frm (fun ξ=>False) σ σ'→zz):zz:=by
 refine WhileD.inv (d:=d) (c:=.var 3) (body:=[.assignT [3,4] (.tup [.bool false,.bi .listm (.var 1)]),.for [5,6] false .enum [.var 0] [wantR],.for [9,10] false .val [.var 4] turnB])
  (fun m ρ' τ=>ρ' 0=some (.ref b)∧ρ' 1=some (.ref p)∧Frm (fun ξ=>False) σ τ∧∃hm t,HomesOk rows pairs hm∧ρ' 2=some (.lst (hm.map nV))∧ρ' 3=some (.bool t)∧(t=false→Good rows pairs (gAt hm))∧m=hm.sum+hm.sum+(if t=true then 1 else 0))
  (fun ρ' τ=>∃hm,HomesOk rows pairs hm∧ρ' 2=some (.lst (hm.map nV))∧Good rows pairs (gAt hm)∧Frm (fun ξ=>False) σ τ)
  (fun m ρ₂ τ w121 zz k0 kk=>by
   obtain ⟨s0,s1,fr,hm,t,h,s2,s3,hg,hmm⟩:=w121
   cases t with
   | false=>exact k0 τ (.of (.var s3) rfl) ⟨hm,h,s2,hg rfl,fr⟩
   | true=>
    have tb:=fr.keep _ _ hb id
    have tp:=fr.keep _ _ hp id
    have f1:Frm (fun ξ=>False) τ (τ++[CObj.list (pairs.map pairN)]):=.push
    refine want_all (d:=d) (ρ:=upd (upd ρ₂ 3 (.bool false)) 4 (.ref τ.length)) (hm:=hm) R.K l5 h.len s0 s2 rfl (get_app tb) (Nat.ne_of_lt (lt_of tb)) get_new (Nat.le_trans pf (by decide)) fun ρ₄ τ₂ L k1 Q kp=>?_
    have hL:∀q∈L,q.1<rows.length∧q.2<rows.length∧∀c,Good rows pairs c→c q.1=c q.2:=fun q mq=>(Q.new q mq).elim (fun m=>⟨(plt q m).1,(plt q m).2,fun c g=>g.2 q m⟩) fun w120=>by
     obtain ⟨r,s,hr,hs,e⟩:=w120
     refine an1 e fun e1 e2=>?_
     have mc:∀{i:Nat} {r:Row} {c:Nat→Nat},Good rows pairs c→rows[i]?=some r→r.2.map c=(r.2.map (gAt hm)).map c:=fun {i r c} g hr=>by
      rw [List.map_map]
      exact List.map_congr_left fun k mk=>(h.snd c g k (R.K.kl hr k mk)).symm
     exact ⟨(List.getElem?_eq_some_iff.mp hr).1,(List.getElem?_eq_some_iff.mp hs).1,fun c g=>g.1 _ _ r s hr hs (of_decide_eq_true e1) (by rw [mc g hr,mc g hs,of_decide_eq_true e2])⟩
    refine turn_all (d:=d) (τ:=τ₂) (ρ:=ρ₄) l5 h ((kp 2 rfl).trans s2) (kp 3 rfl) (kp 4 rfl) Q.c hL fun ρ₅ hm' t' o1 T=>?_
    refine kk τ ρ₅ τ₂ (hm'.sum+hm'.sum+(if t'=true then 1 else 0)) (.of (.var s3) rfl) (.next (.assignT (.tup (.cons .bool (.one (.bi (.var s1) (.listm (ofList tp) (by rw [List.length_map];exact big pf rfl))))) rfl) rfl rfl) (.next k1 (.next o1 .nil))) ?_ ⟨(T.k 0 rfl).trans ((kp 0 rfl).trans s0),(T.k 1 rfl).trans ((kp 1 rfl).trans s1),⟨Nat.le_trans (Nat.le_trans fr.len f1.len) Q.frm.len,fun a o e n=>Q.frm.keep _ _ (get_app (fr.keep _ _ e n)) (Nat.ne_of_lt (Nat.lt_of_lt_of_le (lt_of e) fr.len))⟩,hm',t',T.ok,T.r2,T.r3,fun ht=>?_,rfl⟩
    ·rw [hmm]
     cases t' with
     | true=>exact Nat.succ_lt_succ (Nat.add_lt_add (T.yes rfl) (T.yes rfl))
     | false=>rw [(T.no rfl).1];exact Nat.lt_succ_self _
    ·obtain ⟨e,al⟩:=T.no ht
     rw [e]
     have lk':∀{r s:Row},r.1=s.1→r.2.map (gAt hm)=s.2.map (gAt hm)→lk hm r s=true:=fun a b=>nd (decide_eq_true a) (decide_eq_true b)
     refine ⟨fun i j r s hr hs e1 e2=>?_,fun q m=>al q (Q.old q m)⟩
     rcases Nat.lt_trichotomy i j with z | z | z
     ·exact al _ (Q.all i j z ⟨r,s,hr,hs,lk' e1 e2⟩)
     ·rw [z]
     ·exact (al _ (Q.all j i z ⟨s,r,hs,hr,lk' e1.symm e2.symm⟩)).symm)
  _ (ρ:=upd (upd (paramsL 0 [CV.ref b,CV.ref p]) 2 (.lst ((List.range rows.length).map nV))) 3 (.bool true)) (σ:=σ) ⟨rfl,rfl,.refl,_,true,homes0,rfl,rfl,nofun,rfl⟩ fun ξ ρ' σ' W u3=>?_
 obtain ⟨hm,j1,j2,j3,j4⟩:=u3
 exact kk hm σ' (.run rfl rfl (.next (.assignT (.tup (.cons (.listRange (n:=Int.ofNat rows.length) (.len (.var rfl) (ofSeq hb) (List.length_map _) (big l5 rfl)) (Int.natCast_nonneg _) (Int.ofNat_lt.mpr (bigS l5 rfl))) (.one .bool)) rfl) rfl rfl) (.next (.while W) (.ret (.var j2))))) j1 j3 j4
theorem homes_are {σ:CSt} {h i:Nat} {S:HS} (H:HR σ h S) (O:SideOk rows pairs S) (h1:HomesOk rows pairs hm) (h2:Good rows pairs (gAt hm)) (hi:i<rows.length):gAt hm i=rt S.par i:=by
 have pl:=O.len H
 have le:=rt_le H.U.ok i (pl.symm▸hi)
 have le':=h1.le i hi
 have e1:=h1.snd _ (side_good H O) i hi
 have e2:=side_sound H O h2 hi
 have e3:=rt_le H.U.ok (gAt hm i) (pl.symm▸Nat.lt_of_le_of_lt le' hi)
 have e4:=h1.le (rt S.par i) (Nat.lt_of_le_of_lt le hi)
 exact Nat.le_antisymm (e2▸e4) (e1▸e3)
theorem homes_eq {σ:CSt} {h:Nat} {S:HS} (H:HR σ h S) (O:SideOk rows pairs S) (h1:HomesOk rows pairs hm) (h2:Good rows pairs (gAt hm)):hm=(List.range rows.length).map (rt S.par):=
 List.ext_getElem (by rw [List.length_map,List.length_range,h1.len]) fun i a b=>by
  rw [List.getElem_map,List.getElem_range,← homes_are H O h1 h2 (h1.len▸a)]
  exact (getD_lt a).symm
end
abbrev Hd:=List (Row×Nat)
section
variable {α β:Type} [DecidableEq α] {kf:α→CV} {vf:β→CV} {a:α} {b:β}
theorem dset_same:∀{l:List (α×β)},dget l a=some b→dset l a b=l:=by
 intro l3
 induction l3 with
 | nil=>
  intros;contradiction
 | cons p l ih=>
  intro h
  show (if p.1=a then (a,b)::l else p::dset l a b)=_
  unfold dget at h
  rw [List.find?_cons] at h
  by_cases e:p.1=a
  ·rw [decide_eq_true e] at h
   rw [if_pos e,← e,← Option.some.inj h]
  ·rw [decide_eq_false e] at h
   rw [if_neg e,ih h]
theorem dict_make (K:KeyF kf):∀(ps acc:List (α×β)),(acc.map (·.1)).Nodup→(∀p∈acc++ps,∀q∈acc++ps,p.1=q.1→p.2=q.2)→
  ∃hs:List (α×β),dictMake (dm kf vf acc) (dm kf vf ps)=dm kf vf hs∧(hs.map (·.1)).Nodup∧(∀p,p∈hs↔p∈acc++ps)∧hs.length≤acc.length+ps.length:=by
 intro l
 induction l with
 | nil=>
  intro acc nd ξ
  exact ⟨acc,rfl,nd,fun p=>by rw [List.append_nil],Nat.le_refl _⟩
 | cons p ps ih=>
  intro acc nd fn
  have s:setK (dm kf vf acc) (kf p.1) (vf p.2)=dm kf vf (dset acc p.1 p.2):=K.set
  have sub:∀{q},q∈acc++ps→q∈acc++p::ps:=fun m=>(List.mem_append.mp m).elim (List.mem_append_left _) fun m=>List.mem_append_right _ (.tail _ m)
  cases e:dget acc p.1 with
  | some c=>
   have mq:=dget_mem e
   have q:p.2=c:=fn p (List.mem_append_right _ (.head _)) _ (List.mem_append_left _ mq) rfl
   obtain ⟨hs,h1,h2,h3,h4⟩:=ih acc nd fun a ma b mb=>fn a (sub ma) b (sub mb)
   refine ⟨hs,?_,h2,fun x=>(h3 x).trans ⟨sub,fun m=>(List.mem_append.mp m).elim (List.mem_append_left _) fun m=>(List.mem_cons.mp m).elim (fun z=>List.mem_append_left _ ?_) (List.mem_append_right _)⟩,Nat.le_trans h4 (Nat.add_le_add_left (Nat.le_succ _) _)⟩
   ·show dictMake (setK (dm kf vf acc) (kf p.1) (vf p.2)) (dm kf vf ps)=_
    rw [s,q,dset_same e];exact h1
   ·rw [z,show p=(p.1,c) from Prod.ext rfl q];exact mq
  | none=>
   obtain ⟨hs,h1,h2,h3,h4⟩:=ih (acc++[p]) (by
    rw [List.map_append]
    exact List.nodup_append.mpr ⟨nd,nodup_one,fun a ma b mb q=>by
     have:=dget_key.mpr (q.trans (List.mem_singleton.mp mb:b=p.1)▸ma)
     rw [e] at this;cases this⟩) (by rw [List.append_assoc];exact fn)
   refine ⟨hs,?_,h2,fun x=>by rw [h3,List.append_assoc];rfl,by rw [List.length_append,Nat.add_assoc,Nat.add_comm [p].length] at h4;exact h4⟩
   show dictMake (setK (dm kf vf acc) (kf p.1) (vf p.2)) (dm kf vf ps)=_
   rw [s,dset_new e];exact h1
end
noncomputable def headL (rows:List Row) (G:Nat→Nat):Hd:=rows.zipIdx.map fun p=>((p.1.1,p.1.2.map G),G p.2)
section
variable {d:Nat} {ρ:Loc} {σ:CSt} {rows:List Row} {G G':Nat→Nat} {p:Row×Nat}
theorem mem_headL:p∈headL rows G↔∃(i:Nat) (r:Row),rows[i]?=some r∧p=((r.1,r.2.map G),G i):=
 List.mem_map.trans ⟨fun w125=>by obtain ⟨x,m,e⟩:=w125;exact ⟨x.2,x.1,List.mk_mem_zipIdx_iff_getElem?.mp m,e.symm⟩,fun w124=>by obtain ⟨i,r,h,e⟩:=w124;exact ⟨(r,i),List.mk_mem_zipIdx_iff_getElem?.mpr h,e.symm⟩⟩
theorem headL_congr (K:RowsOk rows) (h:∀i,i<rows.length→G i=G' i):headL rows G=headL rows G':=List.map_congr_left fun x m=>by
 have hx:=List.mk_mem_zipIdx_iff_getElem?.mp m
 show ((x.1.1,x.1.2.map G),G x.2)=((x.1.1,x.1.2.map G'),G' x.2)
 rw [h x.2 (List.getElem?_eq_some_iff.mp hx).1,List.map_congr_left fun k mk=>h k (K.kl hx k mk)]
theorem CLoop.mapT {α:Type} {e:CE} {ts:List Nat} {one:Bool} {so:Option (Nat×CObj)} {fi go:α→CV} {bnd:α→Loc} (hs:srcP σ so):∀{l:List α},(∀a∈l,bindT σ ρ ts one (fi a)=some (bnd a)∧Does d e (bnd a) σ (go a) σ)→CLoop d ts one [] (.elt e) so (l.map fi) ρ σ (l.map go) σ:=by
 intro l
 induction l with
 | nil=>
  intro ξ
  exact .nil hs
 | cons a l ih=>
  intro h
  exact .cons hs (h a (.head _)).1 .nil (.elt (h a (.head _)).2) (ih fun b m=>h b (.tail _ m))
structure HeadR (rows:List Row) (G:Nat→Nat) (hs:Hd):Prop where
 nd:(hs.map (·.1)).Nodup
 mem:∀p,p∈hs↔p∈headL rows G
 len:hs.length≤rows.length
theorem law_heads {b:Nat} {hm:List Nat} (K:RowsOk rows) (hl:hm.length=rows.length) (hb:σ[b]?=some (.list (rows.map rowV))) (C:Cong (gAt hm) rows) {zz:Prop} (kk:∀hs:Hd,Calls (d+1) 36 [.ref b,.lst (hm.map nV)] σ (.dct (knV hs)) σ→HeadR rows (gAt hm) hs→zz):zz:=by
 have few:=K.few
 have lH:(headL rows (gAt hm)).length=rows.length:=(List.length_map _).trans List.length_zipIdx
 have hl2:hm.length≤2000:=hl▸Nat.le_trans few (by decide)
 obtain ⟨hs,h1,h2,h3,h4⟩:=dict_make (vf:=nV) keyF_row (headL rows (gAt hm)) [] .nil (fun p mp q mq e=>by
  obtain ⟨i,r,hr,e1⟩:=mem_headL.mp mp
  obtain ⟨j,s,hs,e2⟩:=mem_headL.mp mq
  rw [e1,e2] at e⊢
  have e:=Prod.mk.inj e
  exact C i j r s hr hs e.1 e.2)
 refine kk hs (.run rfl rfl (.ret (.to (.bi (.to (.comp (.enum (so:=some (b,.list (rows.map rowV))) (.var rfl) (ofList hb) fun σ h=>ofList h) (by
  rw [List.zipIdx_map,List.map_map]
  exact .mapT (α:=Row×Nat) (so:=some (b,.list (rows.map rowV))) (fi:=fun p=>.tup [nV p.2,rowV p.1]) (go:=fun p=>.tup [rowV (p.1.1,p.1.2.map (gAt hm)),nV (gAt hm p.2)]) (bnd:=fun p=>upd (upd (clr [2,3] (paramsL 0 [.ref b,.lst (hm.map nV)])) 2 (nV p.2)) 3 (rowV p.1)) hb fun p m=>⟨rfl,by
   have hx:=List.mk_mem_zipIdx_iff_getElem?.mp m
   have wd:=K.w hx
   exact .tup (.cons (.row (opV_idx (.var rfl) (Nat.le_trans wd (by decide))) (.bi (.homes (.var rfl) rfl wd rfl (hl▸K.kl hx) hl2) (.tuple rfl (by rw [List.length_map,List.length_map];exact big wd rfl))) (by rw [List.length_map];exact Nat.le_trans wd (by decide))) (.one (.lstN rfl (.var rfl) (hl▸(List.getElem?_eq_some_iff.mp hx).1) hl2))) rfl⟩) (by rw [List.length_map,List.length_zipIdx];exact big few rfl)) (by show _=CV.lst ((dm rowV nV (headL rows (gAt hm))).map pairT);unfold dm headL;rw [List.map_map,List.map_map];rfl)) (.dict (List.all_eq_true.mpr fun e m=>(by obtain ⟨p,ξ,e⟩:=List.mem_map.mp m;exact e▸keyF_row.kin)) (by show (List.map _ _).length≤_;rw [List.length_map,lH];exact big few rfl))) (congrArg CV.dct h1)))) ⟨h2,fun p=>by rw [h3,List.nil_append],by rw [List.length_nil,Nat.zero_add,lH] at h4;exact h4⟩
end
inductive Sh (A B:Hd):Nat×Nat→Prop
 | up (r:Row) (c:Nat) (s:Row) (d:Nat):(r,c)∈A→(s,d)∈B→r.1=s.1→r.2.length=s.2.length→(∀q∈r.2.zip s.2,Sh A B q)→Sh A B (c,d)
abbrev shL {α:Type} (sh:List α):List (α×Unit):=sh.map fun q=>(q,())
abbrev stV {α:Type} (kf:α→CV) (sh:List α):List (CV×CV):=dm kf (fun ξ:Unit=>.bool true) (shL sh)
abbrev shV (sh:List (Nat×Nat)):List (CV×CV):=stV pairN sh
theorem st_keys {α:Type} {st:List α}:(shL st).map (·.1)=st:=by rw [List.map_map];exact List.map_id _
section
variable {α:Type} [DecidableEq α] {kf:α→CV} {st:List α} {x:α}
theorem st_has (K:KeyF kf):hasK (stV kf st) (kf x)=decide (x∈st):=by
 rw [K.has,Bool.eq_iff_iff,dget_key,st_keys,decide_eq_true_eq]
theorem sh_len:(stV kf st).length=st.length:=by show (List.map _ (List.map _ _)).length=_;rw [List.length_map,List.length_map]
theorem st_ks:(stV kf st).map (·.1)=st.map kf:=by
 show List.map _ (List.map _ (List.map _ st))=_
 rw [List.map_map,List.map_map];rfl
theorem st_new (K:KeyF kf) (m:x∉st):setK (stV kf st) (kf x) (.bool true)=stV kf (st++[x]):=by
 have e:setK (stV kf st) (kf x) (.bool true)=dm kf (fun ξ:Unit=>.bool true) (dset (shL st) x ()):=K.set
 rw [e,dset_new (dget_none (l:=shL st) (a:=x) ((st_keys (st:=st)).symm▸m))]
 show _=dm _ _ (List.map _ _)
 rw [List.map_append];rfl
theorem st_nodup (nd:st.Nodup) (m:x∉st):(st++[x]).Nodup:=List.nodup_append.mpr ⟨nd,nodup_one,fun a ma b mb z=>m (z.trans (List.mem_singleton.mp mb)▸ma)⟩
theorem st_put (K:KeyF kf) (nd:st.Nodup) {zz:Prop} (kk:∀st',setK (stV kf st) (kf x) (.bool true)=stV kf st'→st'.Nodup→x∈st'→st<+:st'→(∀y∈st',y∈st∨y=x)→zz):zz:=by
 have e:setK (stV kf st) (kf x) (.bool true)=dm kf (fun ξ:Unit=>.bool true) (dset (shL st) x ()):=K.set
 by_cases m:x∈st
 ·exact kk st (by rw [e,dset_same (dget_of (l:=shL st) (a:=x) (b:=()) ((st_keys (st:=st)).symm▸nd) (show (x,())∈shL st from List.mem_map.mpr ⟨x,m,rfl⟩))]) nd m (List.prefix_refl _) (fun y m=>.inl m)
 ·exact kk (st++[x]) (st_new K m) (st_nodup nd m) (List.mem_append_right _ (.head _)) (List.prefix_append _ _) (fun y m=>(List.mem_append.mp m).imp id List.mem_singleton.mp)
end
section
variable {sh sh' sh'':List (Nat×Nat)} {q:Nat×Nat} {r s:Row}
theorem sh_has:hasK (shV sh) (pairN q)=decide (q∈sh):=by
 rw [keyF_pair.has,Bool.eq_iff_iff,dget_key,st_keys,decide_eq_true_eq]
theorem zip_pairs:∀{as bs:List Nat},zipL (as.map nV) (bs.map nV)=(as.zip bs).map pairN:=by
 intro l4
 induction l4 with
 | nil=>
  intro bs
  cases bs<;>rfl
 | cons a as ih=>
  intro l5
  cases l5 with
  | nil=>
   exact rfl
  | cons b bs=>
   exact congrArg (pairN (a,b)::·) ih
theorem peq_nil {l:List CV} (h:∀x∈l,Dat x=true∧dp x≤10):peq (.lst l) (.lst [])=some (decide (l=[])):=
 (peq_dat (a:=.lst l) (b:=.lst []) (Dats_all fun x m=>(h x m).1) rfl (Nat.succ_le_succ (dps_le fun x m=>Nat.le_trans (h x m).2 (by decide))) (by decide +kernel)).trans (congrArg some (dec_iff ⟨CV.lst.inj,congrArg _⟩))
noncomputable def goes (sh:List (Nat×Nat)) (r s:Row):Prop:=r.1=s.1∧r.2.length=s.2.length∧∀q∈r.2.zip s.2,q∈sh
theorem goes.mono (g:goes sh r s) (h:∀q∈sh,q∈sh'):goes sh' r s:=⟨g.1,g.2.1,fun q m=>h q (g.2.2 q m)⟩
end
structure HdOk (A:Hd):Prop where
 w:∀p∈A,p.1.2.length≤2
 nd:(A.map (·.1)).Nodup
 l:A.length≤5
abbrev shareI:CS:=.ite (.bop true [.cmp .eq (.sub (.var 4) (.int 0)) (.sub (.var 5) (.int 0)),.cmp .eq (.bi .len (.var 4)) (.bi .len (.var 5))]) [.ite (.cmp .eq (.comp false (.gen [6] true .zip [.slice (.var 4) (some 1) none,.slice (.var 5) (some 1) none] [.cmp .notin (.var 6) (.var 2)] (.elt (.int 1)))) (.lst [])) [.assignS (.var 2) (.tup [.sub (.var 0) (.var 4),.sub (.var 1) (.var 5)]) (.bool true)] []] []
structure ShI (a:Nat) (A B:Hd) (sh:List (Nat×Nat)) (τ:CSt):Prop where
 c:∃ep,τ[a]?=some (.dict (shV sh) ep)
 nd:sh.Nodup
 ok:∀q∈sh,Sh A B q
structure ShR (a:Nat) (A B:Hd) (sh:List (Nat×Nat)) (τ:CSt) (sh':List (Nat×Nat)) (τ':CSt):Prop extends ShI a A B sh' τ' where
 ext:sh<+:sh'
 frm:Frm (fun x=>x=a) τ τ'
section
variable {A B:Hd} {a c c' d:Nat} {ρ:Loc} {τ τ' τ'' σ:CSt} {sh sh₀ sh' sh'':List (Nat×Nat)} {r s:Row}
theorem ShR.refl (I:ShI a A B sh τ):ShR a A B sh τ sh τ:={ I with ext:=List.prefix_refl _,frm:=.refl }
theorem ShR.trans (x:ShR a A B sh τ sh' τ') (y:ShR a A B sh' τ' sh'' τ''):ShR a A B sh τ sh'' τ'':={ y with ext:=x.ext.trans y.ext,frm:=x.frm.trans y.frm }
theorem ShI.len (I:ShI a A B sh τ) (oA:HdOk A) (oB:HdOk B):sh.length≤25:=by
 have m:∀q∈sh,q∈A.flatMap fun p=>B.map fun q=>(p.2,q.2):=fun q m=>by
  cases I.ok q m with
  | up r c s d h1 h2=>exact List.mem_flatMap.mpr ⟨_,h1,List.mem_map.mpr ⟨_,h2,rfl⟩⟩
 have l:∀A:Hd,(A.flatMap fun p=>B.map fun q=>(p.2,q.2)).length=A.length*B.length:=fun A=>by
  induction A with
  | nil=>exact (Nat.zero_mul _).symm
  | cons p A ih=>rw [List.flatMap_cons,List.length_append,List.length_map,ih,List.length_cons,Nat.add_mul,Nat.one_mul,Nat.add_comm]
 exact Nat.le_trans (List.Nodup.length_le_of_subset I.nd m) (l A▸Nat.mul_le_mul oA.l oB.l)
theorem hd_at {A:Hd} {v e:Nat} (nd:(A.map (·.1)).Nodup) (h0:ρ v=some (.dct (knV A))) (h4:ρ e=some (rowV r)) (m:(r,c)∈A):Does d (.sub (.var v) (.var e)) ρ τ (nV c) τ:=.sub (.var h0) (.var h4) (.dict rfl keyF_row.kin (by rw [keyF_row.find,dget_of nd m];rfl))
theorem row_len {v:Nat} (h:ρ v=some (rowV r)) (hw:r.2.length≤2):Does d (.bi .len (.var v)) ρ τ (nV (r.2.length+1)) τ:=.len (.var h) rfl (congrArg Nat.succ (List.length_map _)) (big (Nat.succ_le_succ hw) rfl)
theorem share_one (oA:HdOk A) (oB:HdOk B) (r0:ρ 0=some (.dct (knV A))) (r1:ρ 1=some (.dct (knV B))) (r2:ρ 2=some (.ref a)) (r4:ρ 4=some (rowV r)) (r5:ρ 5=some (rowV s)) (mr:(r,c)∈A) (ms:(s,c')∈B) (I:ShI a A B sh τ) {zz:Prop} (kk:∀τ' sh',ExD d shareI ρ τ .next ρ τ'→ShR a A B sh τ sh' τ'→(goes sh r s→(c,c')∈sh')→zz):zz:=by
 have wr:r.2.length≤2:=oA.w _ mr
 have ws:s.2.length≤2:=oB.w _ ms
 have w2:2≤1000:=by decide
 obtain ⟨ep,ht⟩:=I.c
 have T:DoesT d (.bop true [.cmp .eq (.sub (.var 4) (.int 0)) (.sub (.var 5) (.int 0)),.cmp .eq (.bi .len (.var 4)) (.bi .len (.var 5))]) ρ τ (decide (r.1=s.1)&&decide (r.2.length+1=s.2.length+1)) τ:=.and2 (.cmp (opV_idx (.var r4) (Nat.le_trans wr w2)) (opV_idx (.var r5) (Nat.le_trans ws w2)) (.eq (peq_op _ _))) (.cmp (row_len r4 wr) (row_len r5 ws) eq_nat)
 cases e:decide (r.1=s.1)&&decide (r.2.length+1=s.2.length+1) with
 | false=>exact kk τ sh (.skip (.to T e)) (.refl I) (fun g=>by rw [decide_eq_true g.1,decide_eq_true (congrArg Nat.succ g.2.1)] at e;cases e)
 | true=>
  have e1:=of_decide_eq_true (an e).1
  have e2:=Nat.succ.inj (of_decide_eq_true (an e).2)
  have C:DoesT d (.cmp .eq (.comp false (.gen [6] true .zip [.slice (.var 4) (some 1) none,.slice (.var 5) (some 1) none] [.cmp .notin (.var 6) (.var 2)] (.elt (.int 1)))) (.lst [])) ρ τ (decide (((r.2.zip s.2).filter fun q=>!decide (q∈sh)).map (fun ξ=>CV.int 1)=[])) τ:=
   .cmp (.cfil0 (fi:=pairN) (go:=fun ξ=>.int 1) (zip_pairs▸.zip (.cons (kids_of (.var r4) (Nat.le_trans wr w2)) (.one (kids_of (.var r5) (Nat.le_trans ws w2)))) (by rw [List.length_map,List.length_map,e2])) (by rw [List.length_zip];exact big (Nat.le_trans (Nat.min_le_left _ _) wr) rfl) (fun q m=>.cmp (.var rfl) (.var r2) (.to (.notinK (ofDict ht) keyF_pair.kin) (by rw [sh_has]))) fun q m ξ=>.int) (.lst .nil rfl) (.eq (peq_nil fun x m=>(by obtain ⟨ξ,ξ,e⟩:=List.mem_map.mp m;exact e▸⟨rfl,Nat.zero_le _⟩)))
  have em:((r.2.zip s.2).filter fun q=>!decide (q∈sh)).map (fun ξ=>CV.int 1)=[]↔∀q∈r.2.zip s.2,q∈sh:=by
   rw [List.map_eq_nil_iff,List.filter_eq_nil_iff]
   simp
  by_cases z:((r.2.zip s.2).filter fun q=>!decide (q∈sh)).map (fun ξ=>CV.int 1)=[]
  ·have st:=StoreD.dict (d:=d) (i:=pairN (c,c')) (v:=.bool true) ht keyF_pair.kin (by rw [sh_len];exact bigS (I.len oA oB) rfl)
   refine st_put (x:=(c,c')) keyF_pair I.nd fun sh' h1 h2 h3 h4 h5=>?_
   rw [h1] at st
   exact kk _ sh' (.ite (i:=true) (.to T e) (.next (.ite (i:=true) (.to C (decide_eq_true z)) (.next (.assignS .bool (.var r2) (.tup (.cons (hd_at oA.nd r0 r4 mr) (.one (hd_at oB.nd r1 r5 ms))) rfl) st rfl) .nil)) .nil)) ⟨⟨⟨_,get_set ht⟩,h2,fun q m=>(h5 q m).elim (I.ok q) fun e=>e▸.up r c s c' mr ms e1 e2 fun q m=>I.ok q (em.mp z q m)⟩,h4,.set rfl⟩ (fun ξ=>h3)
  ·exact kk τ sh (.ite (i:=true) (.to T e) (.next (.skip (.to C (decide_eq_false z))) .nil)) (.refl I) (fun g=>absurd (em.mpr g.2.2) z)
theorem hd_walk {A:Hd}:WalkD d (.dct (knV A)) (A.map fun p=>rowV p.1) none τ:=by
 have:(knV A).map (·.1)=A.map fun p=>rowV p.1:=List.map_map
 exact this▸.dct
theorem share_row (oA:HdOk A) (oB:HdOk B) (r0:ρ 0=some (.dct (knV A))) (r1:ρ 1=some (.dct (knV B))) (r2:ρ 2=some (.ref a)) (r4:ρ 4=some (rowV r)) (mr:(r,c)∈A) (I:ShI a A B sh τ) (sub:∀q∈sh₀,q∈sh) {zz:Prop} (kk:∀ρ' τ' sh',ExD d (.for [5] true .val [.var 1] [shareI]) ρ τ .next ρ' τ'→ShR a A B sh τ sh' τ'→(∀s c',(s,c')∈B→goes sh₀ r s→(c,c')∈sh')→Keep 5 ρ ρ'→zz):zz:=by
 refine ForD.each (d:=d) (so:=none) (one:=true) (ts:=[5]) (f:=fun p:Row×Nat=>rowV p.1) (l:=B) (ρ:=ρ) (σ:=τ) (body:=[shareI])
  (fun k ρ' τ'=>∃sh',ShR a A B sh τ sh' τ'∧(∀j s c',j<k→B[j]?=some (s,c')→goes sh₀ r s→(c,c')∈sh')∧Keep 5 ρ ρ') (fun ξ ξ ξ ξ=>trivial)
  (fun k p ρ₁ τ₁ hp w128 zz kk=>by
   obtain ⟨sh₂,Q,j,kp⟩:=w128
   refine share_one (d:=d) (ρ:=upd ρ₁ 5 (rowV p.1)) (τ:=τ₁) (s:=p.1) (c':=p.2) oA oB ((kp 0 rfl).trans r0) ((kp 1 rfl).trans r1) ((kp 2 rfl).trans r2) ((kp 4 rfl).trans r4) rfl mr (List.mem_of_getElem? hp) Q.toShI fun τ₂ sh₃ m1 R m3=>?_
   refine kk _ _ τ₂ rfl (.next m1 .nil) ⟨sh₃,Q.trans R,fun j' s c' jk hj g=>lt_snoc jk (fun l=>R.ext.subset (j j' s c' l hj g)) fun e=>?_,kp.upd rfl⟩
   rw [e,hp] at hj
   have e:=Option.some.inj hj
   subst e
   exact m3 (g.mono fun q m=>Q.ext.subset (sub q m)))
  ⟨sh,.refl I,fun ξ ξ ξ l=>absurd l (Nat.not_lt_zero _),.refl⟩ fun ρ' τ' hfor u3=>?_
 obtain ⟨sh',Q,j,kp⟩:=u3
 exact kk ρ' τ' sh' (.for (.val (.var r1) hd_walk) hfor) Q (fun s c' m g=>(by obtain ⟨i,hi⟩:=List.mem_iff_getElem?.mp m;exact j i s c' (List.getElem?_eq_some_iff.mp hi).1 hi g)) kp
theorem share_all (oA:HdOk A) (oB:HdOk B) (r0:ρ 0=some (.dct (knV A))) (r1:ρ 1=some (.dct (knV B))) (r2:ρ 2=some (.ref a)) (I:ShI a A B sh τ) {zz:Prop} (kk:∀ρ' τ' sh',ExD d (.for [4] true .val [.var 0] [.for [5] true .val [.var 1] [shareI]]) ρ τ .next ρ' τ'→ShR a A B sh τ sh' τ'→(∀r c s c',(r,c)∈A→(s,c')∈B→goes sh r s→(c,c')∈sh')→Keep 4 ρ ρ'→zz):zz:=by
 refine ForD.each (d:=d) (so:=none) (one:=true) (ts:=[4]) (f:=fun p:Row×Nat=>rowV p.1) (l:=A) (ρ:=ρ) (σ:=τ) (body:=[.for [5] true .val [.var 1] [shareI]])
  (fun k ρ' τ'=>∃sh',ShR a A B sh τ sh' τ'∧(∀j r c s c',j<k→A[j]?=some (r,c)→(s,c')∈B→goes sh r s→(c,c')∈sh')∧Keep 4 ρ ρ') (fun ξ ξ ξ ξ=>trivial)
  (fun k p ρ₁ τ₁ hp w127 zz kk=>by
   obtain ⟨sh₂,Q,j,kp⟩:=w127
   refine share_row (d:=d) (ρ:=upd ρ₁ 4 (rowV p.1)) (r:=p.1) (c:=p.2) (sh₀:=sh) oA oB ((kp 0 rfl).trans r0) ((kp 1 rfl).trans r1) ((kp 2 rfl).trans r2) rfl (List.mem_of_getElem? hp) Q.toShI (fun q m=>Q.ext.subset m) fun ρ₂ τ₂ sh₃ m1 R m3 kp'=>?_
   refine kk _ ρ₂ τ₂ rfl (.next m1 .nil) ⟨sh₃,Q.trans R,fun j' r c s c' jk hj ms g=>lt_snoc jk (fun l=>R.ext.subset (j j' r c s c' l hj ms g)) fun e=>?_,Keep.trans (kp.upd rfl) kp' rfl⟩
   rw [e,hp] at hj
   have e:=Option.some.inj hj
   subst e
   exact m3 s c' ms g)
  ⟨sh,.refl I,fun ξ ξ ξ ξ ξ l=>absurd l (Nat.not_lt_zero _),.refl⟩ fun ρ' τ' hfor u2=>?_
 obtain ⟨sh',Q,j,kp⟩:=u2
 exact kk ρ' τ' sh' (.for (.val (.var r0) hd_walk) hfor) Q (fun r c s c' m ms g=>(by obtain ⟨i,hi⟩:=List.mem_iff_getElem?.mp m;exact j i r c s c' (List.getElem?_eq_some_iff.mp hi).1 hi ms g)) kp
theorem law_shared (oA:HdOk A) (oB:HdOk B) {zz:Prop} (kk:∀σ' sh ep,Calls (d+1) 37 [.dct (knV A),.dct (knV B)] σ (.ref σ.length) σ'→σ'[σ.length]?=some (.dict (shV sh) ep)→sh.Nodup→(∀q,q∈sh↔Sh A B q)→Frm (fun ξ=>False) σ σ'→zz):zz:=by
 refine WhileD.inv (d:=d) (c:=.cmp .gt (.bi .len (.var 2)) (.var 3)) (body:=[.assign 3 (.bi .len (.var 2)),.for [4] true .val [.var 0] [.for [5] true .val [.var 1] [shareI]]])
  (fun m ρ' τ=>ρ' 0=some (.dct (knV A))∧ρ' 1=some (.dct (knV B))∧ρ' 2=some (.ref σ.length)∧Frm (fun x=>x=σ.length) (σ++[CObj.dict [] 0]) τ∧∃(z:Int) (sh:List (Nat×Nat)),ρ' 3=some (.int z)∧ShI σ.length A B sh τ∧(z<sh.length∨(z=sh.length∧∀r c s c',(r,c)∈A→(s,c')∈B→goes sh r s→(c,c')∈sh))∧m=2*(30 - sh.length)+(if z<sh.length then 1 else 0))
  (fun ρ' τ=>ρ' 2=some (.ref σ.length)∧∃sh,ShI σ.length A B sh τ∧(∀r c s c',(r,c)∈A→(s,c')∈B→goes sh r s→(c,c')∈sh)∧Frm (fun x=>x=σ.length) (σ++[CObj.dict [] 0]) τ)
  (fun m ρ₂ τ w126 zz k0 kk=>by
   obtain ⟨s0,s1,s2,fr,z,sh,s3,I,hz,hm⟩:=w126
   have len:=I.len oA oB
   obtain ⟨ep,ht⟩:=I.c
   have el:Does d (.bi .len (.var 2)) ρ₂ τ (nV sh.length) τ:=.lenD (.var s2) (ofDict ht) sh_len (big len rfl)
   have ec:DoesT d (.cmp .gt (.bi .len (.var 2)) (.var 3)) ρ₂ τ (decide (z<(sh.length:Int))) τ:=.cmp el (.var s3) .gt
   rcases hz with lt | ⟨ez,cl⟩
   ·refine share_all (d:=d) (ρ:=upd ρ₂ 3 (nV sh.length)) oA oB s0 s1 s2 I fun ρ₄ τ₂ sh' m1 R m3 kp=>?_
    have len':=R.toShI.len oA oB
    obtain ⟨ext,e⟩:=R.ext
    have ll:sh'.length=sh.length+ext.length:=by rw [← e,List.length_append]
    refine kk τ ρ₄ τ₂ (2*(30 - sh'.length)+(if (sh.length:Int)<sh'.length then 1 else 0)) (.to ec (decide_eq_true lt)) (.next (.assign el rfl) (.next m1 .nil)) ?_ ⟨(kp 0 rfl).trans s0,(kp 1 rfl).trans s1,(kp 2 rfl).trans s2,fr.trans R.frm,sh.length,sh',kp 3 rfl,R.toShI,?_,rfl⟩
    ·rw [hm,if_pos lt]
     by_cases q:ext.length=0
     ·rw [if_neg (by lia)];lia
     ·rw [if_pos (by lia)];lia
    ·by_cases q:ext.length=0
     ·rw [List.eq_nil_of_length_eq_zero q,List.append_nil] at e
      rw [← e] at m3⊢
      exact .inr ⟨rfl,m3⟩
     ·exact .inl (by lia)
   ·exact k0 τ (.to ec (decide_eq_false (by lia))) ⟨s2,sh,I,cl,fr⟩)
  61 (ρ:=upd (upd (paramsL 0 [.dct (knV A),.dct (knV B)]) 2 (.ref σ.length)) 3 (.int (-1))) (σ:=σ++[CObj.dict [] 0]) ⟨rfl,rfl,rfl,.refl,-1,[],rfl,⟨⟨0,get_new⟩,.nil,nofun⟩,.inl (by decide),rfl⟩ fun ξ ρ' σ' W u1=>?_
 obtain ⟨s2,sh,I,j,fr⟩:=u1
 obtain ⟨ep,ht⟩:=I.c
 refine kk σ' sh ep (.run rfl rfl (.next (.assignT (.tup (.cons .newd0 (.one (.neg .int))) rfl) rfl rfl) (.next (.while W) (.ret (.var s2))))) ht I.nd (fun q=>⟨I.ok q,fun x=>?_⟩) ⟨Nat.le_trans (Frm.push (A:=fun ξ=>False)).len fr.len,fun a o e ξ=>fr.keep _ _ (get_app e) (Nat.ne_of_lt (lt_of e))⟩
 induction x with
 | up r c s d h1 h2 h3 h4 _ ih=>exact j r c s d h1 h2 ⟨h3,h4,ih⟩
end
theorem one_of {α β:Type} {f:α→β} {l:List α} (nd:(l.map f).Nodup) {p q:α} (mp:p∈l) (mq:q∈l) (e:f p=f q):p=q:=by
 obtain ⟨i,hi,e1⟩:=List.mem_iff_getElem.mp mp
 obtain ⟨j,hj,e2⟩:=List.mem_iff_getElem.mp mq
 have z:i=j:=(List.getElem_inj (h₀:=by rw [List.length_map];exact hi) (h₁:=by rw [List.length_map];exact hj) nd).mp (by rw [List.getElem_map,List.getElem_map,e1,e2,e])
 rw [← e1,← e2];simp only [z]
abbrev It:=Nat×Row
noncomputable def keyR (r:Row):Row:=(r.1,[r.2.length])
abbrev itV (x:It):CV:=.tup [nV x.1,rowV x.2]
noncomputable def fil (xs:List It) (k:Row):List It:=xs.filter fun x=>decide (keyR x.2=k)
abbrev gaV (gs:List (Row×Nat)):List (CV×CV):=dm rowV (fun a:Nat=>CV.ref a) gs
structure GR (τ:CSt) (f:Nat) (gs:List (Row×Nat)) (xs:List It):Prop where
 d:∃ep,τ[f]?=some (.dict (gaV gs) ep)
 hi:∀g∈gs,f<g.2
 l:∀g∈gs,τ[g.2]?=some (.list ((fil xs g.1).map itV))
 na:(gs.map (·.2)).Nodup
 nd:(gs.map (·.1)).Nodup
 key:∀k,k∈gs.map (·.1)↔∃x∈xs,keyR x.2=k
 few:gs.length≤xs.length
section
variable {A:Nat→Prop} {σ σ' τ:CSt} {d f c:Nat} {gs:List (Row×Nat)} {xs:List It} {x:It} {k r:Row} {ρ:Loc}
theorem mem_fil:x∈fil xs k↔x∈xs∧keyR x.2=k:=List.mem_filter.trans (and_congr_right fun ξ=>decide_eq_true_iff)
theorem fil_new (e:keyR x.2=k):fil (xs++[x]) k=fil xs k++[x]:=by
 unfold fil
 rw [List.filter_append,List.filter_cons,if_pos (decide_eq_true e)];rfl
theorem fil_old (e:keyR x.2≠k):fil (xs++[x]) k=fil xs k:=by
 unfold fil
 rw [List.filter_append,List.filter_cons,if_neg (fun q=>e (of_decide_eq_true q))]
 exact List.append_nil _
theorem GR.frm (G:GR σ f gs xs) (x:Frm A σ σ') (n:∀a,f≤a→¬A a):GR σ' f gs xs:=by
 obtain ⟨ep,e⟩:=G.d
 exact { G with d:=⟨ep,x.keep _ _ e (n _ (Nat.le_refl _))⟩,l:=fun g m=>x.keep _ _ (G.l g m) (n _ (Nat.le_of_lt (G.hi g m))) }
abbrev nboE:CE:=.bmeth (.bmeth (.var 2) .setdefault [.tup [.sub (.var 4) (.int 0),.bin .sub (.bi .len (.var 4)) (.int 1)],.newl []]) .append [.tup [.var 3,.var 4]]
theorem nbo_one (r2:ρ 2=some (.ref f)) (r3:ρ 3=some (nV c)) (r4:ρ 4=some (rowV r)) (hw:r.2.length≤2) (G:GR τ f gs xs) (hx:xs.length≤1000) {zz:Prop} (kk:∀τ' gs',Does d nboE ρ τ .none τ'→GR τ' f gs' (xs++[(c,r)])→Frm (fun a=>f≤a) τ τ'→zz):zz:=by
 obtain ⟨ep,hd⟩:=G.d
 have fl:=lt_of hd
 have hd1:=get_app (τ:=[CObj.list []]) hd
 have glen:(gaV gs).length≤1000:=by show (List.map _ _).length≤_;rw [List.length_map];exact Nat.le_trans G.few hx
 have args:DoesL d [.tup [.sub (.var 4) (.int 0),.bin .sub (.bi .len (.var 4)) (.int 1)],.newl []] ρ τ [rowV (keyR r),.ref τ.length] (τ++[.list []]):=.cons (.tup (.cons (opV_idx (r:=r) (.var r4) (Nat.le_trans hw (by decide))) (.one (.bin (row_len r4 hw) .int pred_nat))) rfl) (.one (.newl .nil rfl))
 have app:∀{a τ₂} {l:List It},Does d (.bmeth (.var 2) .setdefault [.tup [.sub (.var 4) (.int 0),.bin .sub (.bi .len (.var 4)) (.int 1)],.newl []]) ρ τ (.ref a) τ₂→τ₂[a]?=some (.list (l.map itV))→l.length≤1000→Does d nboE ρ τ .none (τ₂.set a (.list (l.map itV++[itV (c,r)]))):=fun S h2 h3=>.bmeth .append S (.list h2) (.one (.tup (.cons (.var r3) (.one (.var r4))) rfl)) (.append h2 (by rw [List.length_map];exact bigS h3 rfl))
 have len:(xs++[(c,r)]).length=xs.length+1:=List.length_append
 have fll:∀k,(fil xs k).length≤1000:=fun k=>Nat.le_trans (List.length_filter_le _ _) hx
 have pu:Frm (fun a=>f≤a) τ (τ++[CObj.list []]):=.push
 cases e:dget gs (keyR r) with
 | some a=>
  have ma:=dget_mem e
  have fa:=G.hi _ ma
  have la:=get_app (τ:=[CObj.list []]) (G.l _ ma)
  have mk:keyR r∈gs.map (·.1):=List.mem_map.mpr ⟨_,ma,rfl⟩
  refine kk _ gs (app (.bmeth .setdefault (.var r2) (.dict hd) args (.setdefault1 hd1 keyF_row.kin (big glen rfl) (by rw [keyF_row.find,e];rfl))) la (fll _)) ⟨⟨ep,get_ne hd1 (Nat.ne_of_gt fa)⟩,G.hi,fun g mg=>?_,G.na,G.nd,fun k=>(G.key k).trans ⟨fun w132=>by obtain ⟨x,m,q⟩:=w132;exact ⟨x,List.mem_append_left _ m,q⟩,fun w131=>by obtain ⟨x,m,q⟩:=w131;exact (List.mem_append.mp m).elim (fun m=>⟨x,m,q⟩) fun m=>(G.key k).mp (by rw [List.mem_singleton.mp m] at q;exact q▸mk)⟩,len▸Nat.le_succ_of_le G.few⟩ (pu.trans (.set (Nat.le_of_lt fa)))
  by_cases z:keyR r=g.1
  ·have q:g=(keyR r,a):=one_of G.nd mg ma z.symm
   rw [q,fil_new (x:=(c,r)) rfl,List.map_append]
   exact get_set la
  ·rw [fil_old (x:=(c,r)) z]
   exact get_ne (get_app (G.l g mg)) fun q=>z (congrArg Prod.fst (one_of G.na ma mg q))
 | none=>
  have nk:keyR r∉gs.map (·.1):=fun m=>by have:=dget_key.mpr m;rw [e] at this;cases this
  have ek:gaV gs++[(rowV (keyR r),.ref τ.length)]=gaV (gs++[(keyR r,τ.length)]):=by show List.map _ _++_=List.map _ _;rw [List.map_append];rfl
  have h2:((τ++[CObj.list []]).set f (.dict (gaV (gs++[(keyR r,τ.length)])) (ep+1)))[τ.length]?=some (.list (([]:List It).map itV)):=get_ne get_new (Nat.ne_of_lt fl)
  have nw:fil xs (keyR r)=[]:=List.filter_eq_nil_iff.mpr fun x m q=>nk ((G.key _).mpr ⟨x,m,of_decide_eq_true q⟩)
  refine kk _ (gs++[(keyR r,τ.length)]) (app (.bmeth .setdefault (.var r2) (.dict hd) args (ek▸.setdefault0 hd1 keyF_row.kin (big glen rfl) (by rw [keyF_row.find,e];rfl))) h2 (Nat.zero_le _)) ⟨⟨ep+1,get_ne (get_set hd1) (Nat.ne_of_gt fl)⟩,fun g mg=>(List.mem_append.mp mg).elim (G.hi g) fun m=>by rw [List.mem_singleton.mp m];exact fl,fun g mg=>?_,?_,?_,fun k=>?_,?_⟩ ((pu.trans (.set (Nat.le_refl f))).trans (.set (Nat.le_of_lt fl)))
  ·rcases List.mem_append.mp mg with mg | mg
   ·rw [fil_old (x:=(c,r)) fun q=>nk (List.mem_map.mpr ⟨g,mg,q.symm⟩)]
    exact get_ne (get_ne (get_app (G.l g mg)) (Nat.ne_of_lt (G.hi g mg))) (Nat.ne_of_gt (lt_of (G.l g mg)))
   ·rw [List.mem_singleton.mp mg,fil_new (x:=(c,r)) rfl,nw]
    exact get_set h2
  ·rw [List.map_append]
   exact nodup_snoc G.na fun a m=>(by obtain ⟨g,mg,q⟩:=List.mem_map.mp m;exact q▸lt_of (G.l g mg))
  ·rw [List.map_append]
   exact List.nodup_append.mpr ⟨G.nd,nodup_one,fun a ma b mb q=>nk (q.trans (List.mem_singleton.mp mb:b=keyR r)▸ma)⟩
  ·rw [List.map_append,List.mem_append,G.key]
   exact ⟨fun q=>q.elim (fun w130=>by obtain ⟨x,m,q⟩:=w130;exact ⟨x,List.mem_append_left _ m,q⟩) fun m=>⟨_,List.mem_append_right _ (.head _),(List.mem_singleton.mp m).symm⟩,fun w129=>by obtain ⟨x,m,q⟩:=w129;exact (List.mem_append.mp m).imp (fun m=>⟨x,m,q⟩) fun m=>by rw [List.mem_singleton.mp m] at q;exact List.mem_singleton.mpr q.symm⟩
  ·rw [List.length_append,len];exact Nat.succ_le_succ G.few
end
theorem nodup_of {α:Type} [DecidableEq α]:∀{l m:List α},m.Nodup→(∀x∈m,x∈l)→l.length≤m.length→l.Nodup:=by
 intro l
 induction l with
 | nil=>
  intro ξ ξ ξ ξ
  exact .nil
 | cons a l ih=>
  intro m nd sub le
  exact List.nodup_cons.mpr ⟨fun ma=>Nat.not_succ_le_self _ (Nat.le_trans le (List.Nodup.length_le_of_subset nd fun x mx=>(List.mem_cons.mp (sub x mx)).elim (fun e=>e▸ma) id)),ih (nd.erase a) (fun x mx=>(List.mem_cons.mp (sub x (List.mem_of_mem_erase mx))).resolve_left fun e=>(nd.mem_erase_iff.mp mx).1 e) (by
  by_cases ma:a∈m
  ·rw [List.length_erase_of_mem ma];exact Nat.le_pred_of_lt le
  ·rw [List.erase_of_not_mem ma];exact Nat.le_of_lt le)⟩
noncomputable def quo (pairs:List (Nat×Nat)) (x:Nat):Nat:=match pairs with
 | []=>x
 | [(a,b)]=>if x=b then a else x
 | (a,b)::(a',b')::_=>if (if x=b then a else x)=(if b'=b then a else b') then (if a'=b then a else a') else (if x=b then a else x)
theorem quo_ok {pairs:List (Nat×Nat)} (h:pairs.length≤2):∀q∈pairs,quo pairs q.1=quo pairs q.2:=by
 rcases pairs with _ | ⟨⟨a,b⟩,_ | ⟨⟨a',b'⟩,_ | ⟨p,ps⟩⟩⟩
 ·intro q m;cases m
 ·intro q m
  rw [List.mem_singleton.mp m]
  show (if a=b then a else a)=if b=b then a else b
  rw [if_pos rfl];split<;>rfl
 ·intro q m
  have m':q=(a,b)∨q=(a',b'):=by simpa using m
  rcases m' with rfl | rfl
  ·show (if (if a=b then a else a)=(if b'=b then a else b') then (if a'=b then a else a') else (if a=b then a else a))=if (if b=b then a else b)=(if b'=b then a else b') then (if a'=b then a else a') else (if b=b then a else b)
   rw [if_pos (rfl:b=b)]
   have:(if a=b then a else a)=a:=by split<;>rfl
   rw [this]
  ·show (if (if a'=b then a else a')=(if b'=b then a else b') then (if a'=b then a else a') else (if a'=b then a else a'))=if (if b'=b then a else b')=(if b'=b then a else b') then (if a'=b then a else a') else (if b'=b then a else b')
   rw [if_pos (rfl:(if b'=b then a else b')=(if b'=b then a else b'))]
   by_cases z:(if a'=b then a else a')=(if b'=b then a else b')
   ·rw [if_pos z]
   ·rw [if_neg z]
 ·simp at h
theorem ite_or {p:Prop} [Decidable p] {a b v:Nat} (h:(if p then a else b)=v):(p∧a=v)∨(¬p∧b=v):=by
 by_cases q:p
 ·rw [if_pos q] at h;exact .inl ⟨q,h⟩
 ·rw [if_neg q] at h;exact .inr ⟨q,h⟩
theorem quo_many {pairs:List (Nat×Nat)} (h:pairs.length≤2) (v:Nat) (k:∀x,x<5→quo pairs x=v):False:=by
 have k0:=k 0 (by decide)
 have k1:=k 1 (by decide)
 have k2:=k 2 (by decide)
 have k3:=k 3 (by decide)
 rcases pairs with _ | ⟨⟨a,b⟩,_ | ⟨⟨a',b'⟩,_ | ⟨p,ps⟩⟩⟩
 ·simp only [quo] at k0 k1;lia
 ·simp only [quo] at k0 k1 k2
  have:=ite_or k0
  have:=ite_or k1
  have:=ite_or k2
  lia
 ·simp only [quo] at k0 k1 k2 k3
  generalize (if b'=b then a else b')=B at k0 k1 k2 k3
  generalize (if a'=b then a else a')=A at k0 k1 k2 k3
  generalize e0:(if 0=b then a else 0)=y0 at k0
  generalize e1:(if 1=b then a else 1)=y1 at k1
  generalize e2:(if 2=b then a else 2)=y2 at k2
  generalize e3:(if 3=b then a else 3)=y3 at k3
  have:=ite_or k0
  have:=ite_or k1
  have:=ite_or k2
  have:=ite_or k3
  have:=ite_or e0
  have:=ite_or e1
  have:=ite_or e2
  have:=ite_or e3
  lia
 ·simp at h
noncomputable def Few (S:HS):Prop:=∀i,∀m:List Row,m.Nodup→(∀x∈m,x∈(memS S i).map (nodeOf S))→m.length≤4
section
variable {σ:CSt} {h:Nat} {S:HS} {rows:List Row} {pairs:List (Nat×Nat)}
theorem side_few (H:HR σ h S) (O:SideOk rows pairs S):Few S:=fun i m nd sub=>Nat.le_of_not_lt fun lt=>by
 have pl:=O.len H
 have l5:=O.le
 have lm:((memS S i).map (nodeOf S)).length=(memS S i).length:=List.length_map _
 have le1:=List.Nodup.length_le_of_subset nd sub
 have le2:=memS_le (S:=S) (i:=i)
 have all:∀x,x<5→rt S.par x=rt S.par i:=fun x hx=>by
  have e:(memS S i).length=(List.range S.par.length).length:=by rw [List.length_range];lia
  exact of_decide_eq_true ((List.length_filter_eq_length_iff.mp e) x (List.mem_range.mpr (by lia)))
 have full:memS S i=List.range S.par.length:=List.filter_eq_self.mpr fun x m=>decide_eq_true (all x (by rw [List.mem_range] at m;lia))
 have nd':((memS S i).map (nodeOf S)).Nodup:=nodup_of nd sub (by lia)
 have inj:∀x y,x<5→y<5→nodeOf S x=nodeOf S y→x=y:=fun x y hx hy e=>one_of nd' (full▸List.mem_range.mpr (by lia)) (full▸List.mem_range.mpr (by lia)) e
 have mapr:∀{x:Nat} {r:Row},rows[x]?=some r→r.2.map (rt S.par)=List.replicate r.2.length (rt S.par i):=fun {x r} hr=>List.eq_replicate_iff.mpr ⟨List.length_map _,fun z mz=>by
  obtain ⟨k,mk,e⟩:=List.mem_map.mp mz
  exact e▸all k (Nat.lt_of_lt_of_le (O.R.K.kl hr k mk) l5)⟩
 have g:Good rows pairs (quo pairs):=⟨fun x y r s hr hs e1 e2=>by
  have len:r.2.length=s.2.length:=by have:=congrArg List.length e2;rw [List.length_map,List.length_map] at this;exact this
  rw [inj x y (Nat.lt_of_lt_of_le (List.getElem?_eq_some_iff.mp hr).1 l5) (Nat.lt_of_lt_of_le (List.getElem?_eq_some_iff.mp hs).1 l5) (by rw [nodeOf_at (O.rw.symm▸hr),nodeOf_at (O.rw.symm▸hs),mapr hr,mapr hs,e1,len])],quo_ok O.few⟩
 exact quo_many O.few (quo pairs (rt S.par i)) fun x hx=>by rw [← side_sound H O g (by lia:x<rows.length),all x hx]
end
noncomputable def nsOf (S:HS) (c:Nat):List Row:=Classical.choose (rows_exE ((memS S c).map (nodeOf S)))
noncomputable def itemsL (S:HS):List It:=(rootsL S.par).flatMap fun c=>(nsOf S c).map fun r=>(c,r)
section
variable {σ σ₀ τ:CSt} {h d c f:Nat} {S:HS} {r:Row} {x:It} {xs:List It} {L:List Row} {ρ:Loc} {e:CE}
theorem ns_mem:r∈nsOf S c↔r∈(memS S c).map (nodeOf S):=(Classical.choose_spec (rows_exE ((memS S c).map (nodeOf S)))).1 r
theorem ns_asc:Asc encR (nsOf S c):=(Classical.choose_spec (rows_exE ((memS S c).map (nodeOf S)))).2
theorem ns_few (F:Few S):(nsOf S c).length≤4:=F c _ ns_asc.nodup fun ξ=>ns_mem.mp
theorem mem_roots:c∈rootsL S.par↔c<S.par.length∧S.par.getD c 0=c:=by rw [List.mem_filter,List.mem_range,decide_eq_true_eq]
theorem mem_itemsL (H:HR σ h S):(c,r)∈itemsL S↔∃x,x<S.par.length∧rt S.par x=c∧nodeOf S x=r:=by
 unfold itemsL
 rw [List.mem_flatMap]
 constructor
 ·rintro ⟨c',mc,m⟩
  obtain ⟨r',mr,e⟩:=List.mem_map.mp m
  have e:=Prod.mk.inj e
  obtain ⟨h1,h2⟩:=mem_roots.mp mc
  obtain ⟨x,mx,ex⟩:=List.mem_map.mp (ns_mem.mp mr)
  have mx:=mem_memS.mp mx
  exact ⟨x,mx.1,by rw [mx.2,rt_self h2,e.1],ex.trans e.2⟩
 ·rintro ⟨x,hx,e1,e2⟩
  have lt:=rt_lt H.U.ok hx
  exact ⟨c,e1▸mem_roots.mpr ⟨lt,rt_root H.U.ok x hx⟩,List.mem_map.mpr ⟨r,ns_mem.mpr (List.mem_map.mpr ⟨x,mem_memS.mpr ⟨hx,by rw [← e1,rt_rt H.U.ok hx]⟩,e2⟩),rfl⟩⟩
theorem items_few (F:Few S):∀{l:List Nat},(l.flatMap fun c=>(nsOf S c).map fun r=>(c,r)).length≤l.length*4:=by
 intro l
 induction l with
 | nil=>
  exact Nat.zero_le _
 | cons c l ih=>
  rw [List.flatMap_cons,List.length_append,List.length_map,List.length_cons,Nat.add_mul,Nat.one_mul,Nat.add_comm]
  exact Nat.add_le_add (ih) (ns_few F)
theorem nbo_row (Q:Does d e ρ σ₀ (.lst (L.map rowV)) τ) (r2:ρ 2=some (.ref f)) (r3:ρ 3=some (nV c)) {gs:List (Row×Nat)} (G:GR τ f gs xs) (hL:∀r∈L,r.2.length≤2) (hx:xs.length+L.length≤1000) {zz:Prop} (kk:∀ρ' τ' gs',ExD d (.for [4] true .val [e] [.expr nboE]) ρ σ₀ .next ρ' τ'→GR τ' f gs' (xs++L.map fun r=>(c,r))→Frm (fun a=>f≤a) τ τ'→Keep 4 ρ ρ'→zz):zz:=by
 refine ForD.each (d:=d) (so:=none) (one:=true) (ts:=[4]) (f:=rowV) (l:=L) (ρ:=ρ) (σ:=τ) (body:=[.expr nboE])
  (fun i ρ' τ'=>∃gs,GR τ' f gs (xs++(L.take i).map fun r=>(c,r))∧Frm (fun a=>f≤a) τ τ'∧Keep 4 ρ ρ') (fun ξ ξ ξ ξ=>trivial)
  (fun i r ρ₁ τ₁ hr w135 zz kk=>by
   obtain ⟨gs,G,fr,kp⟩:=w135
   refine nbo_one (d:=d) (ρ:=upd ρ₁ 4 (rowV r)) (r:=r) ((kp 2 rfl).trans r2) ((kp 3 rfl).trans r3) rfl (hL r (List.mem_of_getElem? hr)) G (by rw [List.length_append,List.length_map,List.length_take];lia) fun τ₂ gs' m1 G' fr'=>?_
   refine kk _ _ τ₂ rfl (.expr m1 .nil) ⟨gs',?_,fr.trans fr',kp.upd rfl⟩
   rw [List.take_add_one,hr,List.map_append,← List.append_assoc]
   exact G')
  ⟨gs,by rw [List.take_zero,List.map_nil,List.append_nil];exact G,.refl,.refl⟩ fun ρ' τ' hfor u2=>?_
 obtain ⟨gs',G',fr,kp⟩:=u2
 rw [List.take_length] at G'
 exact kk ρ' τ' gs' (.for (.val Q .lst) hfor) G' fr kp
theorem nodes_by_op {v0:CV} (H:HR σ h S) (hl:S.par.length≤5) (F:Few S) {zz:Prop} (kk:∀σ' gs,Calls (d+5) 29 [v0,.ref h] σ (.ref σ.length) σ'→GR σ' σ.length gs (itemsL S)→Frm (fun ξ=>False) σ σ'→zz):zz:=by
 have ni:∀{τ},Frm (fun a=>σ.length≤a) (σ++[.dict [] 0]) τ→HR τ h S:=fun f=>(H.frm (A:=fun ξ=>False) .push fun ξ ξ q=>q).frm f fun a o=>Nat.not_le_of_lt (H.high o)
 have rl:(rootsL S.par).length≤5:=Nat.le_trans (List.length_filter_le _ _) (by rw [List.length_range];exact hl)
 refine ForD.each (d:=d+4) (so:=none) (one:=true) (ts:=[3]) (f:=nV) (l:=rootsL S.par) (ρ:=upd (paramsL 0 [v0,.ref h]) 2 (.ref σ.length)) (σ:=σ++[.dict [] 0]) (body:=[.for [4] true .val [.umeth (.var 1) 16 [.var 3]] [.expr nboE]])
  (fun i ρ' τ=>∃gs,GR τ σ.length gs ((rootsL S.par).take i |>.flatMap fun c=>(nsOf S c).map fun r=>(c,r))∧Frm (fun a=>σ.length≤a) (σ++[.dict [] 0]) τ∧Keep 3 (upd (paramsL 0 [v0,.ref h]) 2 (.ref σ.length)) ρ') (fun ξ ξ ξ ξ=>trivial)
  (fun i c ρ₁ τ₁ hc w134 zz kk=>by
   obtain ⟨gs,G,fr,kp⟩:=w134
   have mc:=(mem_roots (S:=S)).mp (List.mem_of_getElem? hc)
   have H2:=ni fr
   have fl:=items_few F (l:=(rootsL S.par).take i)
   have nl:=ns_few F (c:=c)
   rw [List.length_take] at fl
   refine nbo_row (d:=d+4) (ρ:=upd ρ₁ 3 (nV c)) (L:=nsOf S c) (c:=c) (e:=.umeth (.var 1) 16 [.var 3]) (.umeth (.var (kp 1 rfl)) H2.i rfl (.one (.var rfl)) (heap_nodes H2 mc.1 (F c) (fun ξ=>ns_mem) ns_asc)) (kp 2 rfl) rfl G (fun r mr=>by
    obtain ⟨x,mx,e⟩:=List.mem_map.mp (ns_mem.mp mr)
    exact e▸(nodeOf_row H (mem_memS.mp mx).1).1) (by lia) fun ρ₂ τ₂ gs' m1 G' fr' kp'=>?_
   refine kk _ ρ₂ τ₂ rfl (.next m1 .nil) ⟨gs',?_,fr.trans fr',Keep.trans (kp.upd rfl) kp' rfl⟩
   rw [List.take_add_one,hc,List.flatMap_append]
   show GR τ₂ _ _ (_++List.flatMap _ [c])
   rw [List.flatMap_cons,List.flatMap_nil,List.append_nil]
   exact G')
  ⟨[],⟨⟨0,get_new⟩,nofun,nofun,.nil,.nil,fun k=>⟨nofun,fun w133=>by obtain ⟨ξ,m,ξ⟩:=w133;exact nomatch m⟩,Nat.le_refl _⟩,.refl,.refl⟩ fun ρ' τ hfor u1=>?_
 obtain ⟨gs,G,fr,kp⟩:=u1
 rw [List.take_length] at G
 exact kk τ gs (.run rfl rfl (.next (.assign .newd0 rfl) (.next (.for (.val (.umeth (.var rfl) (ni .refl).i rfl .nil (heap_classes (ni .refl))) .lst) hfor) (.ret (.var (kp 2 rfl)))))) G ⟨Nat.le_trans (Frm.push (A:=fun ξ=>False)).len fr.len,fun a o e ξ=>fr.keep _ _ (get_app e) (Nat.not_le_of_lt (lt_of e))⟩
end
abbrev Pr:=Nat×Nat
abbrev Itm:=Pr×Fin 3×List Pr
structure MSt where
 rows:List Row
 nums:List (Pr×Nat)
 pis:List Pr
abbrev MSt.pi (M:MSt) (n:Nat):Pr:=M.pis.getD n (0,0)
abbrev MSt.num (M:MSt) (q:Pr):Nat:=(dget M.nums q).getD 0
noncomputable def rowM (M:MSt) (it:Itm):Row:=(it.2.1,it.2.2.map M.num)
noncomputable def pushM (M:MSt) (it:Itm):MSt:=⟨M.rows++[rowM M it],if (dget M.nums it.1).isSome then M.nums else M.nums++[(it.1,M.rows.length)],M.pis++[it.1]⟩
abbrev allM (M:MSt) (it:Itm):Prop:=∀q∈it.2.2,(dget M.nums q).isSome=true
noncomputable def putM (M:MSt) (it:Itm):MSt:=if allM M it∧rowM M it∉M.rows then pushM M it else M
structure MOk (A B:Hd) (M:MSt):Prop where
 len:M.pis.length=M.rows.length
 prod:∀(n:Nat) r,M.rows[n]?=some r→((r.1,r.2.map fun k=>(M.pi k).1),(M.pi n).1)∈A∧((r.1,r.2.map fun k=>(M.pi k).2),(M.pi n).2)∈B
 num:∀q n,dget M.nums q=some n→n<M.rows.length∧M.pi n=q
 cov:∀n,n<M.rows.length→∃k,dget M.nums (M.pi n)=some k∧k≤n
 kid:∀(n:Nat) r,M.rows[n]?=some r→∀k∈r.2,k<n∧dget M.nums (M.pi k)=some k
 nd:M.rows.Nodup
noncomputable def M0:MSt:=⟨[],[],[]⟩
theorem M0_ok (A B:Hd):MOk A B M0:=⟨rfl,nofun,nofun,nofun,nofun,.nil⟩
inductive ItOk (A B:Hd):Itm→Prop
 | mk (r:Row) (c:Nat) (s:Row) (d:Nat):(r,c)∈A→(s,d)∈B→r.1=s.1→r.2.length=s.2.length→ItOk A B ((c,d),r.1,r.2.zip s.2)
section
variable {A B:Hd} {M:MSt} {it:Itm} {q:Pr} {n k:Nat} {as bs:List Nat}
theorem hd_fun (o:HdOk A) {r:Row} {c d:Nat} (h:(r,c)∈A) (h':(r,d)∈A):c=d:=Option.some.inj ((dget_of o.nd h).symm.trans (dget_of o.nd h'))
theorem map_and {α β γ δ:Type} {as:List γ} {bs:List δ} {f:γ→α×β} {g:δ→α×β} (h:as.map f=bs.map g):(as.map fun k=>(f k).1)=bs.map (fun k=>(g k).1)∧(as.map fun k=>(f k).2)=bs.map fun k=>(g k).2:=by
 have h1:=congrArg (List.map (·.1)) h
 have h2:=congrArg (List.map (·.2)) h
 rw [List.map_map,List.map_map] at h1 h2
 exact ⟨h1,h2⟩
theorem MOk.cong (m:MOk A B M) (oA:HdOk A) (oB:HdOk B):Cong M.pi M.rows:=fun i j r s hi hj e1 e2=>by
 obtain ⟨a1,b1⟩:=m.prod i r hi
 obtain ⟨a2,b2⟩:=m.prod j s hj
 obtain ⟨ea,eb⟩:=map_and e2
 rw [e1,ea] at a1
 rw [e1,eb] at b1
 exact Prod.ext (hd_fun oA a1 a2) (hd_fun oB b1 b2)
theorem MOk.le (m:MOk A B M) (oA:HdOk A) (oB:HdOk B):M.rows.length≤25:=by
 have kids:∀r∈M.rows,∀k∈r.2,dget M.nums (M.pi k)=some k:=fun r mr k mk=>(by obtain ⟨n,hn⟩:=List.mem_iff_getElem?.mp mr;exact (m.kid n r hn k mk).2)
 have inj2:∀(as bs:List Nat),(∀k∈as,dget M.nums (M.pi k)=some k)→(∀k∈bs,dget M.nums (M.pi k)=some k)→(as.map fun k=>(M.pi k).1)=(bs.map fun k=>(M.pi k).1)→(as.map fun k=>(M.pi k).2)=(bs.map fun k=>(M.pi k).2)→as=bs:=fun as=>by
  induction as with
  | nil=>exact fun bs ξ ξ h ξ=>(List.map_eq_nil_iff.mp h.symm).symm
  | cons a as ih=>
   intro bs ha hb h1 h2
   cases bs with
   | nil=>cases h1
   | cons b bs=>
    have h1:=List.cons.inj h1
    have h2:=List.cons.inj h2
    have ea:=ha a (.head _)
    rw [show M.pi a=M.pi b from Prod.ext h1.1 h2.1,hb b (.head _)] at ea
    rw [Option.some.inj ea,ih bs (fun k mk=>ha k (.tail _ mk)) (fun k mk=>hb k (.tail _ mk)) h1.2 h2.2]
 have:=List.Nodup.length_le_of_subset (l₁:=M.rows.map fun r=>((r.1,r.2.map fun k=>(M.pi k).1),(r.1,r.2.map fun k=>(M.pi k).2))) (l₂:=A.flatMap fun p=>B.map fun q=>(p.1,q.1))
  (List.pairwise_map.mpr (List.Pairwise.imp_of_mem (fun {a b} ma mb ne q=>ne (by
   have q:=Prod.mk.inj q
   have w:=Prod.mk.inj q.1
   exact Prod.ext w.1 (inj2 a.2 b.2 (kids a ma) (kids b mb) w.2 (Prod.mk.inj q.2).2))) m.nd)) fun x mx=>by
  obtain ⟨r,mr,e⟩:=List.mem_map.mp mx
  obtain ⟨n,hn⟩:=List.mem_iff_getElem?.mp mr
  obtain ⟨h1,h2⟩:=m.prod n r hn
  exact e▸List.mem_flatMap.mpr ⟨_,h1,List.mem_map.mpr ⟨_,h2,rfl⟩⟩
 have l:∀A:Hd,(A.flatMap fun p=>B.map fun q=>(p.1,q.1)).length=A.length*B.length:=fun A=>by
  induction A with
  | nil=>exact (Nat.zero_mul _).symm
  | cons p A ih=>rw [List.flatMap_cons,List.length_append,List.length_map,ih,List.length_cons,Nat.add_mul,Nat.one_mul,Nat.add_comm]
 rw [l,List.length_map] at this
 exact Nat.le_trans this (Nat.mul_le_mul oA.l oB.l)
theorem push_pi (m:MOk A B M) (h:k<M.rows.length):(pushM M it).pi k=M.pi k:=by
 show (M.pis++[it.1]).getD k (0,0)=M.pis.getD k (0,0)
 rw [List.getD_eq_getElem?_getD,List.getElem?_append_left (by rw [m.len];exact h),← List.getD_eq_getElem?_getD]
theorem push_pi_new (m:MOk A B M):(pushM M it).pi M.rows.length=it.1:=by
 show (M.pis++[it.1]).getD _ (0,0)=_
 rw [List.getD_eq_getElem?_getD,← m.len,List.getElem?_append_right (Nat.le_refl _),Nat.sub_self];rfl
theorem dget_snoc {l:List (Pr×Nat)} {q q':Pr} {n:Nat}:dget (l++[(q',n)]) q=if (dget l q).isSome then dget l q else if q'=q then some n else none:=by
 unfold dget
 rw [List.find?_append,List.find?_cons]
 cases l.find? fun p=>decide (p.1=q) with
 | some p=>rfl
 | none=>
  by_cases e:q'=q
  ·rw [decide_eq_true e,if_pos e];rfl
  ·rw [decide_eq_false e,if_neg e];rfl
theorem push_num:dget (pushM M it).nums q=if q=it.1∧dget M.nums it.1=none then some M.rows.length else dget M.nums q:=by
 unfold pushM
 cases e:dget M.nums it.1 with
 | some n=>show dget M.nums q=_;rw [if_neg fun h=>nomatch h.2]
 | none=>
  show dget (M.nums++[(it.1,M.rows.length)]) q=_
  rw [dget_snoc]
  by_cases z:q=it.1
  ·rw [z,e,if_neg (by simp),if_pos rfl,if_pos ⟨rfl,rfl⟩]
  ·rw [if_neg (Ne.symm z),if_neg (fun h:q=it.1∧(none:Option Nat)=none=>z h.1)]
   cases dget M.nums q<;>rfl
theorem push_old (h:dget M.nums q=some n):dget (pushM M it).nums q=some n:=by
 rw [push_num,if_neg (fun z=>by rw [z.1,z.2] at h;cases h),h]
theorem some_num (h:(dget M.nums q).isSome=true):dget M.nums q=some (M.num q):=by
 obtain ⟨n,e⟩:=Option.isSome_iff_exists.mp h
 unfold MSt.num
 rw [e];rfl
theorem zip_fst:∀{as bs:List Nat},as.length=bs.length→(as.zip bs).map (·.1)=as:=fun h=>List.map_fst_zip (Nat.le_of_eq h)
theorem zip_snd:∀{as bs:List Nat},as.length=bs.length→(as.zip bs).map (·.2)=bs:=fun h=>List.map_snd_zip (Nat.le_of_eq h.symm)
theorem row_pi {M':MSt} {r s:Row} (h:r.2.length=s.2.length) (al:∀q∈r.2.zip s.2,M'.pi (M.num q)=q):(((r.2.zip s.2).map M.num).map fun k=>(M'.pi k).1)=r.2∧(((r.2.zip s.2).map M.num).map fun k=>(M'.pi k).2)=s.2:=by
 rw [List.map_map,List.map_map]
 exact ⟨Eq.trans (List.map_congr_left (g:=fun q:Nat×Nat=>q.1) fun q mq=>show (M'.pi (M.num q)).1=q.1 from congrArg Prod.fst (al q mq)) (zip_fst h),Eq.trans (List.map_congr_left (g:=fun q:Nat×Nat=>q.2) fun q mq=>show (M'.pi (M.num q)).2=q.2 from congrArg Prod.snd (al q mq)) (zip_snd h)⟩
theorem push_len:(pushM M it).rows.length=M.rows.length+1:=List.length_append
theorem MOk.push (m:MOk A B M) (io:ItOk A B it) (al:allM M it) (nw:rowM M it∉M.rows):MOk A B (pushM M it):=by
 have nl:∀q∈it.2.2,M.num q<M.rows.length∧M.pi (M.num q)=q:=fun q mq=>m.num q _ (some_num (al q mq))
 have np:∀q∈it.2.2,(pushM M it).pi (M.num q)=q:=fun q mq=>(push_pi m (nl q mq).1).trans (nl q mq).2
 have at':∀{n:Nat} {r:Row},(M.rows++[rowM M it])[n]?=some r→(M.rows[n]?=some r∧n<M.rows.length)∨(n=M.rows.length∧r=rowM M it):=fun h=>snoc_at h (fun l e=>.inl ⟨e,l⟩) fun a b=>.inr ⟨a,b⟩
 refine ⟨by show (M.pis++[it.1]).length=(M.rows++[rowM M it]).length;rw [List.length_append,List.length_append,m.len];rfl,fun n r hn=>?_,fun q n hn=>?_,fun n hn=>?_,fun n r hn k mk=>?_,List.nodup_append.mpr ⟨m.nd,nodup_one,fun a ma b mb e=>nw (e.trans (List.mem_singleton.mp mb)▸ma)⟩⟩
 ·rcases at' hn with ⟨h,l⟩ | ⟨e1,e2⟩
  ·have kp:∀k∈r.2,(pushM M it).pi k=M.pi k:=fun k mk=>push_pi m (Nat.lt_trans (m.kid n r h k mk).1 l)
   rw [List.map_congr_left fun k mk=>congrArg Prod.fst (kp k mk),List.map_congr_left fun k mk=>congrArg Prod.snd (kp k mk),push_pi m l]
   exact m.prod n r h
  ·rw [e1,e2,push_pi_new m]
   cases io with
   | mk r c s d ha hb q1 q2=>
    obtain ⟨z1,z2⟩:=row_pi (M:=M) (M':=pushM M ((c,d),r.1,r.2.zip s.2)) q2 np
    show ((r.1,((r.2.zip s.2).map M.num).map _),c)∈A∧((r.1,((r.2.zip s.2).map M.num).map _),d)∈B
    rw [z1,z2]
    exact ⟨ha,q1▸hb⟩
 ·rw [push_len]
  rw [push_num] at hn
  by_cases h:q=it.1∧dget M.nums it.1=none
  ·rw [if_pos h] at hn
   rw [← Option.some.inj hn,push_pi_new m]
   exact ⟨Nat.lt_succ_self _,h.1.symm⟩
  ·rw [if_neg h] at hn
   obtain ⟨h1,h2⟩:=m.num q n hn
   exact ⟨Nat.lt_succ_of_lt h1,(push_pi m h1).trans h2⟩
 ·refine lt_snoc (push_len▸hn) (fun l=>?_) fun e=>?_
  ·obtain ⟨k,h1,h2⟩:=m.cov n l
   exact ⟨k,(push_pi m l).symm▸push_old h1,h2⟩
  ·rw [e,push_pi_new m]
   cases e:dget M.nums it.1 with
   | some k=>exact ⟨k,push_old e,Nat.le_of_lt (m.num _ _ e).1⟩
   | none=>exact ⟨M.rows.length,by rw [push_num,if_pos ⟨rfl,e⟩],Nat.le_refl _⟩
 ·rcases at' hn with ⟨h,l⟩ | ⟨e1,e2⟩
  ·obtain ⟨h1,h2⟩:=m.kid n r h k mk
   exact ⟨h1,(push_pi m (Nat.lt_trans h1 l)).symm▸push_old h2⟩
  ·rw [e2] at mk
   obtain ⟨q,mq,e⟩:=List.mem_map.mp mk
   rw [← e,e1,np q mq]
   exact ⟨(nl q mq).1,push_old (some_num (al q mq))⟩
theorem MOk.put (m:MOk A B M) (io:ItOk A B it):MOk A B (putM M it):=by
 unfold putM
 by_cases h:allM M it∧rowM M it∉M.rows
 ·rw [if_pos h];exact m.push io h.1 h.2
 ·rw [if_neg h];exact m
theorem put_len:((¬(allM M it∧rowM M it∉M.rows))∧putM M it=M)∨(putM M it).rows.length=M.rows.length+1:=by
 unfold putM
 by_cases h:allM M it∧rowM M it∉M.rows
 ·rw [if_pos h];exact .inr push_len
 ·rw [if_neg h];exact .inl ⟨h,rfl⟩
theorem fold_len:∀(its:List Itm) (M:MSt),M.rows.length≤(its.foldl putM M).rows.length∧((its.foldl putM M).rows.length=M.rows.length→its.foldl putM M=M∧∀it∈its,allM M it→rowM M it∈M.rows):=by
 intro l
 induction l with
 | nil=>
  intro M
  exact ⟨Nat.le_refl _,fun ξ=>⟨rfl,nofun⟩⟩
 | cons it its ih=>
  intro M
  obtain ⟨h1,h2⟩:=ih (putM M it)
  rw [List.foldl_cons]
  rcases put_len (M:=M) (it:=it) with ⟨e1,e2⟩ | e
  ·rw [e2] at h1 h2⊢
   exact ⟨h1,fun e=>⟨(h2 e).1,fun x mx al=>(List.mem_cons.mp mx).elim (fun z=>Decidable.byContradiction fun n=>e1 ⟨z▸al,z▸n⟩) fun mx=>(h2 e).2 x mx al⟩⟩
  ·exact ⟨by lia,fun e'=>by lia⟩
theorem MOk.fold:∀{its:List Itm} {M:MSt},MOk A B M→(∀it∈its,ItOk A B it)→MOk A B (its.foldl putM M):=by
 intro l
 induction l with
 | nil=>
  intro ξ m ξ
  exact m
 | cons it its ih=>
  intro M m h
  exact ih (m.put (h it (.head _))) fun x mx=>h x (.tail _ mx)
noncomputable def lapsM (its:List Itm):Nat→MSt→MSt
 | 0,M=>M
 | n+1,M=>if (its.foldl putM M).rows.length=M.rows.length then M else lapsM its n (its.foldl putM M)
theorem lapsM_succ {its:List Itm} {n:Nat} {M:MSt}:lapsM its (n+1) M=if (its.foldl putM M).rows.length=M.rows.length then M else lapsM its n (its.foldl putM M):=rfl
theorem MOk.laps {its:List Itm} (oA:HdOk A) (oB:HdOk B) (hi:∀it∈its,ItOk A B it):∀(n:Nat) {M:MSt},MOk A B M→25<M.rows.length+n→MOk A B (lapsM its n M)∧its.foldl putM (lapsM its n M)=lapsM its n M
 | 0,M,m,h=>absurd h (Nat.not_lt_of_le (m.le oA oB))
 | n+1,M,m,h=>by
  rw [lapsM_succ]
  by_cases e:(its.foldl putM M).rows.length=M.rows.length
  ·rw [if_pos e];exact ⟨m,((fold_len its M).2 e).1⟩
  ·rw [if_neg e]
   have:=(fold_len its M).1
   exact (m.fold hi).laps oA oB hi n (by lia)
structure MDone (A B:Hd) (M:MSt):Prop extends MOk A B M where
 all:∀it,ItOk A B it→allM M it→rowM M it∈M.rows
theorem MDone.of (m:MOk A B M) {its:List Itm} (hi:∀it,ItOk A B it→it∈its) (e:its.foldl putM M=M):MDone A B M:=
 {m with all:=fun it io al=>((fold_len its M).2 (by rw [e])).2 it (hi it io) al }
theorem MDone.at (m:MDone A B M) (oA:HdOk A) (oB:HdOk B) {r s:Row} {c d:Nat} (ha:(r,c)∈A) (hb:(s,d)∈B) (e1:r.1=s.1) (e2:r.2.length=s.2.length) (al:∀q∈r.2.zip s.2,(dget M.nums q).isSome=true) {zz:Prop} (kk:∀n,M.rows[n]?=some (r.1,(r.2.zip s.2).map M.num)→n<M.rows.length→M.pi n=(c,d)→zz):zz:=by
 obtain ⟨n,hn⟩:=List.mem_iff_getElem?.mp (m.all _ (.mk r c s d ha hb e1 e2) al)
 obtain ⟨p1,p2⟩:=m.prod n _ hn
 obtain ⟨z1,z2⟩:=row_pi (M:=M) (M':=M) e2 fun q mq=>(m.num q _ (some_num (al q mq))).2
 replace p1:((r.1,((r.2.zip s.2).map M.num).map fun k=>(M.pi k).1),(M.pi n).1)∈A:=p1
 replace p2:((r.1,((r.2.zip s.2).map M.num).map fun k=>(M.pi k).2),(M.pi n).2)∈B:=p2
 rw [z1] at p1
 rw [z2,e1] at p2
 exact kk n hn ((List.getElem?_eq_some_iff.mp hn).1) (Prod.ext (hd_fun oA p1 ha) (hd_fun oB p2 hb))
theorem MDone.has (m:MDone A B M) (oA:HdOk A) (oB:HdOk B) (h:Sh A B q):(dget M.nums q).isSome=true:=by
 induction h with
 | up r c s d ha hb e1 e2 _ ih=>
  refine m.at oA oB ha hb e1 e2 ih fun n ξ l e=>?_
  obtain ⟨k,h,ξ⟩:=m.cov n l
  rw [← e,h];rfl
theorem MOk.sh (m:MOk A B M):∀(n:Nat),n<M.rows.length→Sh A B (M.pi n):=fun n=>by
 induction n using Nat.strongRecOn with
 | ind n ih=>
  intro hn
  obtain ⟨p1,p2⟩:=m.prod n _ (List.getElem?_eq_getElem hn)
  refine .up _ _ _ _ p1 p2 rfl (by rw [List.length_map,List.length_map]) fun q mq=>?_
  rw [List.zip_map'] at mq
  obtain ⟨k,mk,e⟩:=List.mem_map.mp mq
  have:=(m.kid n _ (List.getElem?_eq_getElem hn) k mk).1
  exact e▸ih k this (Nat.lt_trans this hn)
theorem MDone.iff (m:MDone A B M) (oA:HdOk A) (oB:HdOk B):(dget M.nums q).isSome=true↔Sh A B q:=by
 refine ⟨fun h=>?_,m.has oA oB⟩
 obtain ⟨h1,h2⟩:=m.num q _ (some_num h)
 rw [← h2];exact m.sh _ h1
theorem Sh.swap (h:Sh A B q):Sh B A (q.2,q.1):=by
 induction h with
 | up r c s d ha hb e1 e2 _ ih=>
  refine .up s d r c hb ha e1.symm e2.symm fun q mq=>?_
  obtain ⟨i,hi⟩:=List.mem_iff_getElem?.mp mq
  rw [List.getElem?_zip_eq_some] at hi
  exact ih (q.2,q.1) (List.mem_iff_getElem?.mpr ⟨i,List.getElem?_zip_eq_some.mpr ⟨hi.2,hi.1⟩⟩)
end
abbrev meetI (m h1 h2:Nat):CObj:=.inst 3 [(14,.ref h1),(15,.ref h2),(16,.ref (m+1)),(1,.ref (m+16))]
abbrev nmV (nums:List (Pr×Nat)):List (CV×CV):=dm pairN nV nums
structure MR (σ:CSt) (m h1 h2:Nat) (A B:Hd) (M:MSt) (S:HS):Prop where
 i:σ[m]?=some (meetI m h1 h2)
 H:HR σ (m+1) S
 nm:∃ep,σ[m+16]?=some (.dict (nmV M.nums) ep)
 nl:M.nums.length≤M.rows.length
 ok:MOk A B M
 rw:S.rows=M.rows
 inv:Inv M.pi (fun ξ=>False) S
 told:S.told≤M.rows.length
 jn:∀n k,n<M.rows.length→dget M.nums (M.pi n)=some k→rt S.par k=rt S.par n
 no:¬Own (m+1) S (m+16)
structure MStp (m:Nat) (S:HS) (σ:CSt) (S':HS) (σ':CSt):Prop where
 frm:Frm (fun a=>Own (m+1) S a∨a=m+16) σ σ'
 own:∀a,Own (m+1) S' a→Own (m+1) S a∨σ.length≤a
section
variable {σ σ' σ'':CSt} {m h h1 h2 d:Nat} {A B:Hd} {M:MSt} {S S' S'':HS} {it:Itm} {q:Pr}
theorem MStp.refl:MStp m S σ S σ:=⟨.refl,fun ξ o=>.inl o⟩
theorem MStp.trans (x:MStp m S σ S' σ') (y:MStp m S' σ' S'' σ''):MStp m S σ S'' σ'':=
 ⟨⟨Nat.le_trans x.frm.len y.frm.len,fun a o e n=>y.frm.keep a o (x.frm.keep a o e n) fun z=>z.elim (fun o=>(x.own a o).elim (fun o=>n (.inl o)) fun q=>absurd q (Nat.not_le_of_lt (lt_of e))) fun z=>n (.inr z)⟩,
  fun a o=>(y.own a o).elim (x.own a) fun q=>.inr (Nat.le_trans x.frm.len q)⟩
theorem Stp.meet (x:Stp (m+1) S σ S' σ'):MStp m S σ S' σ':=⟨x.frm.mono fun ξ ξ o=>.inl o,x.own⟩
theorem inv_congr {α:Type} {c c':Nat→α} {xx:Nat→Prop} (H:HR σ h S) (I:Inv c xx S) (e:∀i,i<S.par.length→c' i=c i):Inv c' xx S where
 users:=I.users
 snd i hi:=by rw [e i hi,e _ (rt_lt H.U.ok hi),I.snd i hi]
 ksnd p mp:=by
  obtain ⟨s,h1,h2,h3⟩:=I.ksnd p mp
  refine ⟨s,h1,h2,?_⟩
  rw [List.map_congr_left (g:=c) fun k mk=>e k (H.kid h1 k mk),h3]
  exact (List.map_congr_left fun k mk=>e k (I.kkid p mp k mk)).symm
 kkid:=I.kkid
 done:=I.done
theorem ItOk.w (io:ItOk A B it) (oA:HdOk A):it.2.2.length≤2:=by
 cases io with
 | mk r c s d ha hb e1 e2=>
  show (r.2.zip s.2).length≤2
  rw [List.length_zip]
  exact Nat.le_trans (Nat.min_le_left _ _) (oA.w _ ha)
theorem pair_dat:Dat (pairN q)=true∧dp (pairN q)≤10:=⟨rfl,Nat.le_trans (dp_tup (n:=0) fun x mx=>(List.mem_cons.mp mx).elim (fun e=>e▸Nat.le_refl _) fun mx=>List.mem_singleton.mp mx▸Nat.le_refl _) (by decide)⟩
theorem MR.pl (R:MR σ m h1 h2 A B M S):S.par.length=M.rows.length:=R.H.n.symm.trans (congrArg _ R.rw)
theorem MR.nm0 (R:MR σ m h1 h2 A B M S):¬Own (m+1) S m:=fun o=>Nat.not_succ_le_self m (R.H.low o)
theorem MR.nums (R:MR σ m h1 h2 A B M S) (oA:HdOk A) (oB:HdOk B):(nmV M.nums).length≤25:=by
 show (List.map _ _).length≤_
 rw [List.length_map];exact Nat.le_trans R.nl (R.ok.le oA oB)
abbrev tmV:CV:=.tup [.str ⟨#[116,111,108,100]⟩,.str ⟨#[109,101,101,116]⟩]
theorem MR.size {ρ:Loc} {τ:CSt} (r0:ρ 0=some (.ref m)) (i:τ[m]?=some (meetI m h1 h2)) (H:HR τ (m+1) S):Does (d+2) (.umeth (.attr (.var 0) 16) 0 []) ρ τ (nV S.par.length) τ:=.umeth (.fld r0 i rfl rfl) H.i rfl .nil (heap_size H)
theorem meet_put (oA:HdOk A) (oB:HdOk B) (R:MR σ m h1 h2 A B M S) (io:ItOk A B it) {zz:Prop} (kk:∀σ' S',Calls (d+6) 31 [.ref m,pairN it.1,opV it.2.1,.tup (it.2.2.map pairN)] σ (.bool (decide ((putM M it).rows.length≠M.rows.length))) σ'→MR σ' m h1 h2 A B (putM M it) S'→MStp m S σ S' σ'→zz):zz:=by
 have w2:=io.w oA
 obtain ⟨ep,nm⟩:=R.nm
 have pl:=R.pl
 have le:=R.ok.le oA oB
 have nms:=R.nums oA oB
 have T1:DoesT (d+5) (.cmp .ne (.comp false (.gen [4] true .val [.var 3] [.cmp .notin (.var 4) (.attr (.var 0) 1)] (.elt (.var 4)))) (.lst [])) (paramsL 0 [.ref m,pairN it.1,opV it.2.1,.tup (it.2.2.map pairN)]) σ (!decide ((it.2.2.filter fun q=>!(dget M.nums q).isSome).map pairN=[])) σ:=
  .cmp (.cfil0 (fi:=pairN) (go:=pairN) (.val (.var rfl) .tup) (big w2 rfl) (fun q mq=>.cmp (.var rfl) (.fld rfl R.i rfl rfl) (.to (.notinK (ofDict nm) keyF_pair.kin) (by rw [keyF_pair.has]))) fun q mq ξ=>.var rfl) (.lst .nil rfl) (.ne (peq_nil fun x mx=>(by obtain ⟨q,ξ,e⟩:=List.mem_map.mp mx;exact e▸pair_dat)))
 have ai:(it.2.2.filter fun q=>!(dget M.nums q).isSome).map pairN=[]↔allM M it:=by
  rw [List.map_eq_nil_iff,List.filter_eq_nil_iff]
  exact ⟨fun h q mq=>by have:=h q mq;cases z:(dget M.nums q).isSome with | true=>rfl | false=>rw [z] at this;exact absurd rfl this,fun h q mq=>by rw [h q mq];exact Bool.false_ne_true⟩
 by_cases al:allM M it
 case neg=>
  have pe:putM M it=M:=if_neg fun h=>al h.1
  rw [pe,decide_eq_false (fun h=>h rfl)] at kk
  exact kk σ S (.run rfl rfl (.stop (.ite (i:=true) (.to T1 (by rw [decide_eq_false (mt ai.mp al)];rfl)) (.ret .bool)))) R .refl
 have T1:=DoesT.to T1 (j:=false) (by rw [decide_eq_true (ai.mpr al)];rfl)
 have K:∀{ρ:Loc},ρ 0=some (.ref m)→ρ 3=some (.tup (it.2.2.map pairN))→Does (d+5) (.bi .tuple (.comp false (.gen [4] true .val [.var 3] [] (.elt (.sub (.attr (.var 0) 1) (.var 4)))))) ρ σ (.tup ((rowM M it).2.map nV)) σ:=fun r0 r3=>
  .bi (.cmap0 (fi:=pairN) (go:=fun q=>nV (M.num q)) (.val (.var r3) .tup) (big w2 rfl) fun q mq=>.sub (.fld r0 R.i rfl rfl) (.var rfl) (.dict (ofDict nm) keyF_pair.kin (by rw [keyF_pair.find,some_num (al q mq)];rfl))) (.tuple (by unfold rowM;rw [List.map_map];rfl) (by rw [List.length_map];exact big (Nat.le_trans (Nat.le_of_eq (List.length_map _)) w2) rfl))
 have rl:(rowM M it).2.length≤2:=Nat.le_trans (Nat.le_of_eq (List.length_map _)) w2
 have re:(it.2.1,(rowM M it).2)=rowM M it:=rfl
 by_cases old:rowM M it∈M.rows
 ·have pe:putM M it=M:=if_neg fun h=>h.2 old
  obtain ⟨i,hi⟩:=List.mem_iff_getElem?.mp old
  rw [pe,decide_eq_false (fun h=>h rfl)] at kk
  exact kk σ S (.run rfl rfl (.next (.skip T1) (.next (.assign (MR.size rfl R.i R.H) rfl) (.next (.assign (.umeth (.fld rfl R.i rfl rfl) R.H.i rfl (.cons (.var rfl) (.one (K rfl rfl))) (add_old (o:=it.2.1) R.H rl (by rw [R.rw];exact hi))) rfl) (.stop (.ite (i:=true) (.cmp (MR.size rfl R.i R.H) (.var rfl) (.to eq_nat (decide_eq_true rfl))) (.ret .bool))))))) R .refl
 ·have pe:putM M it=pushM M it:=if_pos ⟨al,old⟩
  have ok':MOk A B (pushM M it):=R.ok.push io al old
  have I0:Inv (pushM M it).pi (fun ξ=>False) S:=inv_congr R.H R.inv fun i hi=>push_pi R.ok (pl▸hi)
  have nlk:∀k∈(rowM M it).2,k<S.rows.length:=fun k mk=>by
   obtain ⟨q,mq,e⟩:=List.mem_map.mp mk
   rw [R.rw,← e]
   exact (R.ok.num q _ (some_num (al q mq))).1
  refine add_new (d:=d) R.H I0 (o:=it.2.1) (ks:=(rowM M it).2) (by rw [R.rw];exact ok'.cong oA oB) (by rw [R.rw];exact Nat.lt_of_le_of_lt le (by decide)) rl nlk (by rw [R.rw];exact old) fun σ₁ S₁ a1 a=>?_
  have rows1:S₁.rows=(pushM M it).rows:=by rw [a.rows,R.rw];rfl
  have i1:σ₁[m]?=some (meetI m h1 h2):=a.st.frm.keep _ _ R.i R.nm0
  have nm1:σ₁[m+16]?=some (.dict (nmV M.nums) ep):=a.st.frm.keep _ _ nm R.no
  have no1:¬Own (m+1) S₁ (m+16):=fun o=>(a.st.own _ o).elim R.no fun q=>absurd q (Nat.not_le_of_lt (lt_of nm))
  generalize hρ:upd (upd (paramsL 0 [.ref m,pairN it.1,opV it.2.1,.tup (it.2.2.map pairN)]) 5 (nV S.par.length)) 6 (nV S.par.length)=ρ₂
  have t0:ρ₂ 0=some (.ref m):=hρ▸rfl
  have t1:ρ₂ 1=some (pairN it.1):=hρ▸rfl
  have t5:ρ₂ 5=some (nV S.par.length):=hρ▸rfl
  have t6:ρ₂ 6=some (nV S.par.length):=hρ▸rfl
  obtain ⟨σ₂,k,ep',f1,f2,f3,f4⟩:∃σ₂ k ep',Does (d+5) (.bmeth (.attr (.var 0) 1) .setdefault [.var 1,.var 6]) ρ₂ σ₁ (nV k) σ₂∧dget (pushM M it).nums it.1=some k∧σ₂[m+16]?=some (.dict (nmV (pushM M it).nums) ep')∧Frm (fun a=>a=m+16) σ₁ σ₂:=by
   cases e:dget M.nums it.1 with
   | some k=>
    have pn:(pushM M it).nums=M.nums:=if_pos (by rw [e];rfl)
    exact ⟨σ₁,k,ep,.bmeth .setdefault (.fld t0 i1 rfl rfl) (.dict nm1) (.cons (.var t1) (.one (.var t6))) (.setdefault1 nm1 keyF_pair.kin (big nms rfl) (by rw [keyF_pair.find,e];rfl)),by rw [pn,e],by rw [pn];exact nm1,.refl⟩
   | none=>
    have pn:(pushM M it).nums=M.nums++[(it.1,M.rows.length)]:=if_neg (by rw [e];exact Bool.false_ne_true)
    refine ⟨_,S.par.length,ep+1,.bmeth .setdefault (.fld t0 i1 rfl rfl) (.dict nm1) (.cons (.var t1) (.one (.var t6))) (.setdefault0 nm1 keyF_pair.kin (big nms rfl) (by rw [keyF_pair.find,e];rfl)),by rw [push_num,if_pos ⟨rfl,e⟩,pl],?_,.set rfl⟩
    rw [get_set nm1,pn,pl]
    show _=some (CObj.dict (List.map _ _) _)
    rw [List.map_append];rfl
  have H2:HR σ₂ (m+1) S₁:=a.H.frm f4 fun a o e=>no1 (e▸o)
  have i2:σ₂[m]?=some (meetI m h1 h2):=f4.keep _ _ i1 (ne_off m (j:=0) rfl)
  have kn:=ok'.num _ _ f2
  have ll:(pushM M it).rows.length=M.rows.length+1:=push_len
  have np:S₁.par.length=M.rows.length+1:=a.n.trans (congrArg Nat.succ pl)
  have kpi:(pushM M it).pi k=(pushM M it).pi S.par.length:=by rw [kn.2,pl,push_pi_new R.ok]
  have told1:S₁.told≤M.rows.length:=a.told▸R.told
  refine heap_merge (d:=d+1) (x:=tmV) H2 a.I (np▸ll▸kn.1) (by rw [a.n];exact Nat.lt_succ_self _) kpi (by decide +kernel) (by decide +kernel) (Nat.lt_of_le_of_lt told1 (Nat.lt_of_le_of_lt le (by decide))) fun v σ₃ S₂ g1 G g7 g8=>?_
  have no2:¬Own (m+1) S₂ (m+16):=fun o=>(G.st.own _ o).elim no1 fun q=>absurd q (Nat.not_le_of_lt (lt_of f3))
  rw [pe,decide_eq_true (show (pushM M it).rows.length≠M.rows.length from ll▸Nat.succ_ne_self _)] at kk
  refine kk σ₃ S₂ (.run rfl rfl (.next (.skip T1) (.next (.assign (MR.size rfl R.i R.H) rfl) (.next (.assign (.umeth (.fld rfl R.i rfl rfl) R.H.i rfl (.cons (.var rfl) (.one (K rfl rfl))) a1) rfl) (.next (.skip (.cmp (MR.size (hρ▸t0) i1 a.H) (.var (hρ▸t5)) (.to eq_nat (decide_eq_false (a.n▸Nat.succ_ne_self _))))) (.expr (.umeth (.fld (hρ▸t0) i1 rfl rfl) a.H.i rfl (.cons (hρ▸f1) (.cons (.var (hρ▸t6)) (.one (.tup (.cons .str (.one .str)) rfl)))) g1) (.ret .bool))))))) ?_ ?_
  ·refine ⟨G.st.frm.keep _ _ i2 fun o=>Nat.not_succ_le_self m (H2.low o),G.H,⟨ep',G.st.frm.keep _ _ f3 no1⟩,?_,ok',G.rows.trans rows1,G.I,ll▸Nat.le_trans g7 (Nat.succ_le_succ told1),fun n k' hn hk=>?_,no2⟩
   ·rw [ll]
    show (if (dget M.nums it.1).isSome then M.nums else M.nums++[(it.1,M.rows.length)]).length≤_
    by_cases e:(dget M.nums it.1).isSome
    ·rw [if_pos e];exact Nat.le_succ_of_le R.nl
    ·rw [if_neg e,List.length_append];exact Nat.succ_le_succ R.nl
   ·refine lt_snoc (ll▸hn) (fun l=>?_) fun e=>?_
    ·rw [push_pi R.ok l] at hk
     obtain ⟨k0,c1,c2⟩:=R.ok.cov n l
     rw [push_old c1] at hk
     have e:=Option.some.inj hk
     subst e
     have lk:k0<M.rows.length:=Nat.lt_of_le_of_lt c2 l
     exact G.C.up _ _ (np▸Nat.lt_succ_of_lt lk) (np▸Nat.lt_succ_of_lt l) (a.up _ _ (pl▸lk) (pl▸l) (R.jn n k0 l c1))
    ·rw [e,push_pi_new R.ok,f2] at hk
     rw [← Option.some.inj hk,e,← pl]
     exact g8
  ·exact a.st.meet.trans ((⟨f4.mono fun ξ ξ e=>.inr e,fun ξ o=>.inl o⟩:MStp m S₁ σ₁ S₁ σ₂).trans G.st.meet)
end
noncomputable def itOf (x y:It):Itm:=((x.1,y.1),x.2.1,x.2.2.zip y.2.2)
noncomputable def itsOf (xs ys:List It) (ks:List Row):List Itm:=ks.flatMap fun k=>(fil xs k).flatMap fun x=>(fil ys k).map fun y=>itOf x y
noncomputable def ksOf (xs:List It):List Row:=Classical.choose (rows_exE (xs.map fun x:It=>keyR x.2))
theorem ks_mem {xs:List It} {k:Row}:k∈ksOf xs↔∃x∈xs,keyR x.2=k:=((Classical.choose_spec (rows_exE (xs.map fun x:It=>keyR x.2))).1 k).trans List.mem_map
theorem ks_asc {xs:List It}:Asc encR (ksOf xs):=(Classical.choose_spec (rows_exE (xs.map fun x:It=>keyR x.2))).2
structure Meets (S1 S2:HS) (A B:Hd):Prop where
 l1:S1.par.length≤5
 l2:S2.par.length≤5
 F1:Few S1
 F2:Few S2
 oA:HdOk A
 oB:HdOk B
 hA:∀c r,(c,r)∈itemsL S1↔(r,c)∈A
 hB:∀c r,(c,r)∈itemsL S2↔(r,c)∈B
noncomputable def itsT (S1 S2:HS):List Itm:=itsOf (itemsL S1) (itemsL S2) (ksOf (itemsL S1))
noncomputable def meetM (S1 S2:HS):MSt:=lapsM (itsT S1 S2) 26 M0
section
variable {S1 S2:HS} {A B:Hd} {x y:It} {k:Row} {it:Itm}
theorem Meets.io (T:Meets S1 S2 A B) (mx:x∈fil (itemsL S1) k) (my:y∈fil (itemsL S2) k):ItOk A B (itOf x y)∧x.2.2.length=y.2.2.length:=by
 obtain ⟨h1,e1⟩:=mem_fil.mp mx
 obtain ⟨h2,e2⟩:=mem_fil.mp my
 have e:=Prod.mk.inj (e1.trans e2.symm)
 have e4:=(List.cons.inj e.2).1
 exact ⟨.mk x.2 x.1 y.2 y.1 ((T.hA _ _).mp h1) ((T.hB _ _).mp h2) e.1 e4,e4⟩
theorem Meets.its (T:Meets S1 S2 A B):it∈itsT S1 S2↔ItOk A B it:=by
 constructor
 ·intro m
  obtain ⟨k,ξ,m⟩:=List.mem_flatMap.mp m
  obtain ⟨x,mx,m⟩:=List.mem_flatMap.mp m
  obtain ⟨y,my,e⟩:=List.mem_map.mp m
  exact e▸(T.io mx my).1
 ·intro io
  cases io with
  | mk r c s d ha hb e1 e2=>
   have m1:=(T.hA c r).mpr ha
   exact List.mem_flatMap.mpr ⟨keyR r,ks_mem.mpr ⟨_,m1,rfl⟩,List.mem_flatMap.mpr ⟨(c,r),mem_fil.mpr ⟨m1,rfl⟩,List.mem_map.mpr ⟨(d,s),mem_fil.mpr ⟨(T.hB d s).mpr hb,by unfold keyR;rw [e1,e2]⟩,rfl⟩⟩⟩
theorem Meets.laps (T:Meets S1 S2 A B):MDone A B (meetM S1 S2):=by
 obtain ⟨h1,h2⟩:=MOk.laps T.oA T.oB (its:=itsT S1 S2) (fun it m=>T.its.mp m) 26 (M0_ok A B) (by decide)
 exact .of h1 (fun it io=>T.its.mpr io) h2
end
section
variable {τ:CSt} {f d:Nat} {gs:List (Row×Nat)} {xs:List It} {k:Row} {ρ:Loc} {one:Bool}
theorem gr_get (G:GR τ f gs xs) (r2:ρ 2=some (.ref f)) (r4:ρ 4=some (rowV k)) {zz:Prop} (kk:∀so,ItD d .val one [.bmeth (.var 2) .get [.var 4,.lst []]] ρ τ ((fil xs k).map itV) so τ→(∀τ',GR τ' f gs xs→srcP τ' so)→zz):zz:=by
 obtain ⟨ep,hd⟩:=G.d
 have g:=BmC.get2 (d:=d) (v:=.lst []) (ofDict hd) (keyF_row.kin (a:=k))
 rw [keyF_row.find] at g
 have m:Does d (.bmeth (.var 2) .get [.var 4,.lst []]) ρ τ _ τ:=.bmeth .get (.var r2) (.dict hd) (.cons (.var r4) (.one (.lst .nil rfl))) g
 cases e:dget gs k with
 | some a=>
  rw [e] at m
  have ma:=dget_mem e
  exact kk (some (a,.list ((fil xs k).map itV))) (.val m (.ref (G.l _ ma))) (fun τ' G'=>G'.l _ ma)
 | none=>
  rw [e] at m
  have nw:fil xs k=[]:=List.filter_eq_nil_iff.mpr fun x mx q=>by
   have:=dget_key.mpr ((G.key k).mpr ⟨x,mx,of_decide_eq_true q⟩)
   rw [e] at this;cases this
  exact kk none (nw▸.val m .lst) (fun ξ ξ=>trivial)
theorem gr_sub (G:GR τ f gs xs) (mk:k∈ksOf xs) (r1:ρ 1=some (.ref f)) (r4:ρ 4=some (rowV k)) {zz:Prop} (kk:∀so,ItD d .val one [.sub (.var 1) (.var 4)] ρ τ ((fil xs k).map itV) so τ→(∀τ',GR τ' f gs xs→srcP τ' so)→zz):zz:=by
 obtain ⟨ep,hd⟩:=G.d
 obtain ⟨a,e⟩:=Option.isSome_iff_exists.mp (dget_key.mpr ((G.key k).mpr (ks_mem.mp mk)))
 have ma:=dget_mem e
 exact kk (some (a,.list ((fil xs k).map itV))) (.val (.sub (.var r1) (.var r4) (.dict (ofDict hd) keyF_row.kin (by rw [keyF_row.find,e];rfl))) (.ref (G.l _ ma))) (fun τ' G'=>G'.l _ ma)
theorem gr_keys (G:GR τ f gs xs) (hx:xs.length≤60) (r1:ρ 1=some (.ref f)):Does d (.bi .sorted (.var 1)) ρ τ (.lst ((ksOf xs).map rowV)) τ:=by
 obtain ⟨ep,hd⟩:=G.d
 have ek:(gaV gs).map (·.1)=(gs.map (·.1)).map rowV:=by rw [List.map_map];show List.map _ (List.map _ gs)=_;rw [List.map_map];rfl
 exact .bi (.var r1) (.sortedD (ek▸.rows G.nd (by rw [List.length_map];exact Nat.lt_of_le_of_lt (Nat.le_trans G.few hx) (by decide)) ((List.perm_ext_iff_of_nodup ks_asc.nodup G.nd).mpr fun k=>ks_mem.trans (G.key k).symm) ks_asc) hd)
end
abbrev putI:CS:=.ite (.umeth (.var 0) 20 [.tup [.var 5,.var 7],.sub (.var 6) (.int 0),.tupZip (.slice (.var 6) (some 1) none) (.slice (.var 8) (some 1) none)]) [.assign 3 (.bool true)] []
structure GoSt (m h1 h2 f1 f2:Nat) (A B:Hd) (M:MSt) (S:HS) (τ0:CSt) (its:List Itm) (ρ:Loc) (τ:CSt):Prop where
 r:∃S',MR τ m h1 h2 A B (its.foldl putM M) S'∧MStp m S τ0 S' τ
 n:ρ 3=some (.bool (decide ((its.foldl putM M).rows.length≠M.rows.length)))
 r0:ρ 0=some (.ref m)
 r1:ρ 1=some (.ref f1)
 r2:ρ 2=some (.ref f2)
structure GoC (S1 S2:HS) (A B:Hd) (m h1 h2 f1 f2:Nat) (S:HS) (τ0:CSt) (ga1 ga2:List (Row×Nat)):Prop where
 T:Meets S1 S2 A B
 hf:∀{S' τ},MStp m S τ0 S' τ→GR τ f1 ga1 (itemsL S1)∧GR τ f2 ga2 (itemsL S2)
section
variable {m h1 h2 f1 f2 d:Nat} {A B:Hd} {M:MSt} {S S1 S2:HS} {τ0 τ:CSt} {ga1 ga2:List (Row×Nat)} {its:List Itm} {ρ ρ':Loc} {x y:It} {k:Row}
theorem GoSt.upd (G:GoSt m h1 h2 f1 f2 A B M S τ0 its ρ τ) (h:Keep 4 ρ ρ'):GoSt m h1 h2 f1 f2 A B M S τ0 its ρ' τ:=
 ⟨G.r,(h 3 rfl).trans G.n,(h 0 rfl).trans G.r0,(h 1 rfl).trans G.r1,(h 2 rfl).trans G.r2⟩
theorem Meets.w1 (T:Meets S1 S2 A B) (mx:x∈fil (itemsL S1) k):x.2.2.length≤2:=T.oA.w _ ((T.hA x.1 x.2).mp (mem_fil.mp mx).1)
theorem Meets.w2 (T:Meets S1 S2 A B) (mx:x∈fil (itemsL S2) k):x.2.2.length≤2:=T.oB.w _ ((T.hB x.1 x.2).mp (mem_fil.mp mx).1)
theorem go_one (T:Meets S1 S2 A B) (G:GoSt m h1 h2 f1 f2 A B M S τ0 its ρ τ) (mx:x∈fil (itemsL S1) k) (my:y∈fil (itemsL S2) k) (r5:ρ 5=some (nV x.1)) (r6:ρ 6=some (rowV x.2)) (r7:ρ 7=some (nV y.1)) (r8:ρ 8=some (rowV y.2)) {zz:Prop} (kk:∀ρ' τ',RunD (d+6) [putI] ρ τ .next ρ' τ'→GoSt m h1 h2 f1 f2 A B M S τ0 (its++[itOf x y]) ρ' τ'→(∀z,z≠3→ρ' z=ρ z)→zz):zz:=by
 obtain ⟨⟨S',R,st⟩,n,r0,r1,r2⟩:=G
 obtain ⟨io,el⟩:=T.io mx my
 refine meet_put (d:=d) T.oA T.oB R io fun τ' S'' e1 e2 e3=>?_
 have wx:=Nat.le_trans (T.w1 mx) (by decide:2≤1000)
 have tE:DoesT (d+6) (.umeth (.var 0) 20 [.tup [.var 5,.var 7],.sub (.var 6) (.int 0),.tupZip (.slice (.var 6) (some 1) none) (.slice (.var 8) (some 1) none)]) ρ τ _ τ':=
  .of (.umeth (.var r0) R.i rfl (.cons (.tup (.cons (.var r5) (.one (.var r7))) rfl) (.cons (opV_idx (r:=x.2) (.var r6) wx) (.one (.to (.tupZip (.cons (kids_of (.var r6) wx) (.one (kids_of (.var r8) (Nat.le_trans (T.w2 my) (by decide))))) (by rw [List.length_map,List.length_map,el]) (by rw [List.length_map];exact big wx rfl)) (congrArg CV.tup zip_pairs))))) e1) rfl
 have fo:(its++[itOf x y]).foldl putM M=putM (its.foldl putM M) (itOf x y):=List.foldl_append
 have mono:=(fold_len its M).1
 rcases put_len (M:=its.foldl putM M) (it:=itOf x y) with ⟨_,h⟩ | h
 ·rw [h] at tE e2
  exact kk ρ τ' (.next (.skip (.to tE (decide_eq_false fun q=>q rfl))) .nil) ⟨⟨S'',fo▸h.symm▸e2,st.trans e3⟩,by rw [fo,h];exact n,r0,r1,r2⟩ (fun z ξ=>rfl)
 ·exact kk (Mine.upd ρ 3 (.bool true)) τ' (.next (.ite (i:=true) (.to tE (decide_eq_true (h▸Nat.succ_ne_self _))) (.next (.assign .bool rfl) .nil)) .nil) ⟨⟨S'',fo▸e2,st.trans e3⟩,by rw [fo,decide_eq_true (by lia)];rfl,r0,r1,r2⟩ (fun z hz=>if_neg hz)
theorem go_in (C:GoC S1 S2 A B m h1 h2 f1 f2 S τ0 ga1 ga2) (G:GoSt m h1 h2 f1 f2 A B M S τ0 its ρ τ) (mx:x∈fil (itemsL S1) k) (r4:ρ 4=some (rowV k)) (r5:ρ 5=some (nV x.1)) (r6:ρ 6=some (rowV x.2)) {zz:Prop} (kk:∀ρ' τ',ExD (d+6) (.for [7,8] false .val [.bmeth (.var 2) .get [.var 4,.lst []]] [putI]) ρ τ .next ρ' τ'→GoSt m h1 h2 f1 f2 A B M S τ0 (its++(fil (itemsL S2) k).map fun y=>itOf x y) ρ' τ'→ρ' 4=ρ 4→zz):zz:=by
 have gr:∀{its ρ τ},GoSt m h1 h2 f1 f2 A B M S τ0 its ρ τ→GR τ f2 ga2 (itemsL S2):=fun G=>(by obtain ⟨ξ,ξ,st⟩:=G.r;exact (C.hf st).2)
 refine gr_get (d:=d+6) (one:=false) (gr G) G.r2 r4 fun so s1 s2=>?_
 refine ForD.each (d:=d+6) (so:=so) (one:=false) (ts:=[7,8]) (f:=itV) (l:=fil (itemsL S2) k) (ρ:=ρ) (σ:=τ) (body:=[putI])
  (fun i ρ' τ'=>GoSt m h1 h2 f1 f2 A B M S τ0 (its++((fil (itemsL S2) k).take i).map fun y=>itOf x y) ρ' τ'∧ρ' 4=ρ 4∧ρ' 5=ρ 5∧ρ' 6=ρ 6) (fun ξ ξ ξ j=>s2 _ (gr j.1))
  (fun i y ρ₁ τ₁ hy w137 zz kk=>by
   obtain ⟨j1,j4,j5,j6⟩:=w137
   refine go_one (d:=d) (y:=y) (ρ:=Mine.upd (Mine.upd ρ₁ 7 (nV y.1)) 8 (rowV y.2)) C.T (j1.upd ((Keep.refl.upd rfl).upd rfl)) mx (List.mem_of_getElem? hy) (j5.trans r5) (j6.trans r6) rfl rfl fun ρ₂ τ₂ a1 a2 a3=>?_
   refine kk _ ρ₂ τ₂ rfl a1 ⟨?_,(a3 4 (by decide)).trans j4,(a3 5 (by decide)).trans j5,(a3 6 (by decide)).trans j6⟩
   rw [List.take_add_one,hy,List.map_append,← List.append_assoc]
   exact a2)
  ⟨by rw [List.take_zero,List.map_nil,List.append_nil];exact G,rfl,rfl,rfl⟩ fun ρ' τ' hfor u2=>?_
 obtain ⟨j1,j2,ξ,ξ⟩:=u2
 rw [List.take_length] at j1
 exact kk ρ' τ' (.for s1 hfor) j1 j2
theorem go_mid (C:GoC S1 S2 A B m h1 h2 f1 f2 S τ0 ga1 ga2) (G:GoSt m h1 h2 f1 f2 A B M S τ0 its ρ τ) (mk:k∈ksOf (itemsL S1)) (r4:ρ 4=some (rowV k)) {zz:Prop} (kk:∀ρ' τ',ExD (d+6) (.for [5,6] false .val [.sub (.var 1) (.var 4)] [.for [7,8] false .val [.bmeth (.var 2) .get [.var 4,.lst []]] [putI]]) ρ τ .next ρ' τ'→GoSt m h1 h2 f1 f2 A B M S τ0 (its++(fil (itemsL S1) k).flatMap fun x=>(fil (itemsL S2) k).map fun y=>itOf x y) ρ' τ'→zz):zz:=by
 have gr:∀{its ρ τ},GoSt m h1 h2 f1 f2 A B M S τ0 its ρ τ→GR τ f1 ga1 (itemsL S1):=fun G=>(by obtain ⟨ξ,ξ,st⟩:=G.r;exact (C.hf st).1)
 refine gr_sub (d:=d+6) (one:=false) (gr G) mk G.r1 r4 fun so s1 s2=>?_
 refine ForD.each (d:=d+6) (so:=so) (one:=false) (ts:=[5,6]) (f:=itV) (l:=fil (itemsL S1) k) (ρ:=ρ) (σ:=τ) (body:=[.for [7,8] false .val [.bmeth (.var 2) .get [.var 4,.lst []]] [putI]])
  (fun i ρ' τ'=>GoSt m h1 h2 f1 f2 A B M S τ0 (its++((fil (itemsL S1) k).take i).flatMap fun x=>(fil (itemsL S2) k).map fun y=>itOf x y) ρ' τ'∧ρ' 4=ρ 4) (fun ξ ξ ξ j=>s2 _ (gr j.1))
  (fun i x ρ₁ τ₁ hx w136 zz kk=>by
   obtain ⟨j1,j4⟩:=w136
   refine go_in (d:=d) (x:=x) (ρ:=Mine.upd (Mine.upd ρ₁ 5 (nV x.1)) 6 (rowV x.2)) C (j1.upd ((Keep.refl.upd rfl).upd rfl)) (List.mem_of_getElem? hx) (j4.trans r4) rfl rfl fun ρ₂ τ₂ a1 a2 a3=>?_
   refine kk _ ρ₂ τ₂ rfl (.next a1 .nil) ⟨?_,a3.trans j4⟩
   rw [List.take_add_one,hx,List.flatMap_append,← List.append_assoc]
   show GoSt m h1 h2 f1 f2 A B M S τ0 (_++List.flatMap _ [x]) ρ₂ τ₂
   rw [List.flatMap_cons,List.flatMap_nil,List.append_nil]
   exact a2)
  ⟨by rw [List.take_zero,List.flatMap_nil,List.append_nil];exact G,rfl⟩ fun ρ' τ' hfor u1=>?_
 obtain ⟨j1,ξ⟩:=u1
 rw [List.take_length] at j1
 exact kk ρ' τ' (.for s1 hfor) j1
theorem go_out (C:GoC S1 S2 A B m h1 h2 f1 f2 S τ0 ga1 ga2) (G:GoSt m h1 h2 f1 f2 A B M S τ0 [] ρ τ) (hx:(itemsL S1).length≤60) {zz:Prop} (kk:∀ρ' τ',ExD (d+6) (.for [4] true .val [.bi .sorted (.var 1)] [.for [5,6] false .val [.sub (.var 1) (.var 4)] [.for [7,8] false .val [.bmeth (.var 2) .get [.var 4,.lst []]] [putI]]]) ρ τ .next ρ' τ'→GoSt m h1 h2 f1 f2 A B M S τ0 (itsT S1 S2) ρ' τ'→zz):zz:=by
 refine ForD.each (d:=d+6) (so:=none) (one:=true) (ts:=[4]) (f:=rowV) (l:=ksOf (itemsL S1)) (ρ:=ρ) (σ:=τ) (body:=[.for [5,6] false .val [.sub (.var 1) (.var 4)] [.for [7,8] false .val [.bmeth (.var 2) .get [.var 4,.lst []]] [putI]]])
  (fun i ρ' τ'=>GoSt m h1 h2 f1 f2 A B M S τ0 (itsOf (itemsL S1) (itemsL S2) ((ksOf (itemsL S1)).take i)) ρ' τ') (fun ξ ξ ξ ξ=>trivial)
  (fun i k ρ₁ τ₁ hk j1 zz kk=>by
   refine go_mid (d:=d) (ρ:=Mine.upd ρ₁ 4 (rowV k)) C (j1.upd (Keep.refl.upd rfl)) (List.mem_of_getElem? hk) rfl fun ρ₂ τ₂ a1 a2=>?_
   refine kk _ ρ₂ τ₂ rfl (.next a1 .nil) ?_
   unfold itsOf at a2⊢
   rw [List.take_add_one,hk,List.flatMap_append]
   show GoSt m h1 h2 f1 f2 A B M S τ0 (_++List.flatMap _ [k]) ρ₂ τ₂
   rw [List.flatMap_cons,List.flatMap_nil,List.append_nil]
   exact a2)
  G fun ρ' τ' hfor j1=>?_
 rw [List.take_length] at j1
 obtain ⟨ξ,ξ,st⟩:=G.r
 exact kk ρ' τ' (.for (.val (gr_keys (C.hf st).1 hx G.r1) .lst) hfor) j1
end
theorem ExD.fieldV {σ l:CSt} {d a cc:Nat} {fs:List (Nat×CV)} {c:CE} {v:CV} {ρ:Loc} (S:Does d c ρ (σ++.inst cc fs::l) v (σ++.inst cc fs::l)) (h0:ρ 0=some (.ref σ.length)) (ha:Nat.blt a 17=true) (p:(cTag c==10||cTag c==97)=false):ExD d (.assignA (.var 0) a c) ρ (σ++.inst cc fs::l) .next ρ (σ++.inst cc (setAttrL fs a v)::l):=by
 have:=ExD.field (m:=[]) (by rw [List.append_nil];exact S) rfl h0 ha p
 rw [List.append_nil] at this
 exact this
section
variable {Q:Nat→Prop} {σ σ' τ:CSt} {m h1 h2 d:Nat} {A B:Hd} {M:MSt} {S S' S1 S2:HS} {ρ:Loc}
theorem MR.frm (R:MR σ m h1 h2 A B M S) (x:Frm Q σ σ') (n:∀a,a=m∨Own (m+1) S a∨a=m+16→¬Q a):MR σ' m h1 h2 A B M S:=by
 obtain ⟨ep,e⟩:=R.nm
 exact { R with i:=x.keep _ _ R.i (n _ (.inl rfl)),H:=R.H.frm x fun a o=>n a (.inr (.inl o)),nm:=⟨ep,x.keep _ _ e (n _ (.inr (.inr rfl)))⟩ }
theorem MR.settle (oA:HdOk A) (oB:HdOk B) (R:MR σ m h1 h2 A B M S) {zz:Prop} (kk:∀σ' S',Calls (d+5) 23 [.ref (m+1)] σ .none σ'→MR σ' m h1 h2 A B M S'→MStp m S σ S' σ'→S'.waiting=[]→zz):zz:=by
 refine heap_settle (d:=d) R.H R.inv (by rw [R.rw];exact R.ok.cong oA oB) fun σ' S' a1 G a7 a8=>?_
 obtain ⟨ep,e⟩:=R.nm
 have pl:=R.pl
 refine kk σ' S' a1 ⟨G.st.frm.keep _ _ R.i R.nm0,G.H,⟨ep,G.st.frm.keep _ _ e R.no⟩,R.nl,R.ok,G.rows.trans R.rw,G.I,a7▸R.told,fun n k hn hk=>G.C.up k n (pl▸(R.ok.num _ _ hk).1) (pl▸hn) (R.jn n k hn hk),fun o=>(G.st.own _ o).elim R.no fun q=>absurd q (Nat.not_le_of_lt (lt_of e))⟩ G.st.meet a8
theorem MR.high (R:MR σ m h1 h2 A B M S) {a:Nat} (q:Own (m+1) S a∨a=m+16):a<σ.length:=q.elim R.H.high fun e=>(by obtain ⟨ξ,h⟩:=R.nm;exact e▸lt_of h)
theorem items_len {n:Nat} (F:Few S) (hl:S.par.length≤5):(itemsL S).length≤60:=Nat.le_trans (items_few F) (Nat.le_trans (Nat.mul_le_mul_right 4 (Nat.le_trans (List.length_filter_le _ _) (Nat.le_trans (Nat.le_of_eq List.length_range) hl))) (by decide))
theorem go_up (T:Meets S1 S2 A B) (R:MR σ m h1 h2 A B M S) (Hs:HR σ h1 S1) (Ht:HR σ h2 S2) {zz:Prop} (kk:∀σ' S',Calls (d+7) 30 [.ref m] σ (.bool (decide (((itsT S1 S2).foldl putM M).rows.length≠M.rows.length))) σ'→MR σ' m h1 h2 A B ((itsT S1 S2).foldl putM M) S'→MStp m S σ S' σ'→zz):zz:=by
 refine nodes_by_op (d:=d+1) (v0:=.ref m) Hs T.l1 T.F1 fun τ1 ga1 a1 g1 a6=>?_
 have R1:MR τ1 m h1 h2 A B M S:=R.frm a6 fun ξ ξ q=>q
 refine nodes_by_op (d:=d+1) (v0:=.ref m) (Ht.frm a6 fun ξ ξ q=>q) T.l2 T.F2 fun τ2 ga2 b1 g2 b6=>?_
 have R2:MR τ2 m h1 h2 A B M S:=R1.frm b6 fun ξ ξ q=>q
 have C:GoC S1 S2 A B m h1 h2 σ.length τ1.length S τ2 ga1 ga2:=⟨T,fun st=>⟨(g1.frm b6 fun ξ ξ q=>q).frm st.frm fun a la q=>Nat.not_lt_of_le la (R.high q),g2.frm st.frm fun a la q=>Nat.not_lt_of_le la (R1.high q)⟩⟩
 refine go_out (d:=d) (M:=M) (ρ:=upd (upd (upd (paramsL 0 [.ref m]) 1 (.ref σ.length)) 2 (.ref τ1.length)) 3 (.bool false)) C ⟨⟨S,R2,.refl⟩,by rw [List.foldl_nil,decide_eq_false (fun h=>h rfl)];rfl,rfl,rfl,rfl⟩ (items_len (n:=0) T.F1 T.l1) fun ρ₂ τ3 c1 c2=>?_
 obtain ⟨⟨S',c3,c4⟩,c5,ξ,ξ,ξ⟩:=c2
 exact kk τ3 S' (.run rfl rfl (.next (.assignT (.tup (.cons (.umeth (.var rfl) R.i rfl (.one (.fld rfl R.i rfl rfl)) a1) (.cons (.umeth (.var rfl) R1.i rfl (.one (.fld rfl R1.i rfl rfl)) b1) (.one .bool))) rfl) rfl rfl) (.next c1 (.ret (.var c5))))) c3 ((⟨(a6.trans b6).mono fun ξ ξ q=>q.elim,fun ξ o=>.inl o⟩:MStp m S σ S τ2).trans c4)
abbrev settleE:CE:=.umeth (.attr (.var 0) 16) 15 []
theorem meet_new {x y:Nat} (rx:ρ x=some (.ref h1)) (ry:ρ y=some (.ref h2)) (T:Meets S1 S2 A B) (Hs:HR σ h1 S1) (Ht:HR σ h2 S2) {zz:Prop} (kk:∀σ' S,Does (d+8) (.inst 3 [.var x,.var y]) ρ σ (.ref σ.length) σ'→MR σ' σ.length h1 h2 A B (meetM S1 S2) S→S.waiting=[]→Frm (fun ξ=>False) σ σ'→zz):zz:=by
 have hl:(σ++[CObj.inst 3 [(14,.ref h1),(15,.ref h2)]]).length=σ.length+1:=List.length_append
 have hn:Does (d+7) (.inst 2 []) (paramsL 0 [.ref σ.length,.ref h1,.ref h2]) (σ++[CObj.inst 3 [(14,.ref h1),(15,.ref h2)]]) (.ref (σ.length+1)) ((σ++[CObj.inst 3 [(14,.ref h1),(15,.ref h2)]])++heap0 (σ.length+1)):=hl▸heap_new
 have run:∀{fl ρ' σ'},RunD (d+7) [.while (.umeth (.var 0) 19 []) [.expr settleE],.expr settleE] (paramsL 0 [.ref σ.length,.ref h1,.ref h2]) (σ++meetI σ.length h1 h2::(heap0 (σ.length+1)++[.dict [] 0])) fl ρ' σ'→RunD (d+7) b_Meet_init (paramsL 0 [.ref σ.length,.ref h1,.ref h2]) (σ++[.inst 3 []]) fl ρ' σ':=fun W=>
  .next (.fieldV (.var rfl) rfl rfl rfl) (.next (.fieldV (.var rfl) rfl rfl rfl) (.next (.field (m:=heap0 (σ.length+1)) hn rfl rfl rfl rfl) (.next (.fieldD rfl rfl) W)))
 have e1:σ++meetI σ.length h1 h2::(heap0 (σ.length+1)++[.dict [] 0])=((σ++[meetI σ.length h1 h2])++heap0 (σ.length+1))++[.dict [] 0]:=by rw [List.append_assoc,List.append_assoc];rfl
 have i0:(σ++meetI σ.length h1 h2::(heap0 (σ.length+1)++[.dict [] 0]))[σ.length]?=some (meetI σ.length h1 h2):=atk (k:=0)
 have H0:HR (σ++meetI σ.length h1 h2::(heap0 (σ.length+1)++[.dict [] 0])) (σ.length+1) S0:=by
  have h:=heap0_HR (σ++[meetI σ.length h1 h2])
  rw [show (σ++[meetI σ.length h1 h2]).length=σ.length+1 from List.length_append] at h
  rw [e1]
  exact h.frm (A:=fun ξ=>False) .push fun ξ ξ q=>q
 have d0:(σ++meetI σ.length h1 h2::(heap0 (σ.length+1)++[.dict [] 0]))[σ.length+16]?=some (.dict (nmV M0.nums) 0):=atk
 have fr0:Frm (fun ξ=>False) σ (σ++meetI σ.length h1 h2::(heap0 (σ.length+1)++[.dict [] 0])):=.push
 generalize σ++meetI σ.length h1 h2::(heap0 (σ.length+1)++[.dict [] 0])=σ₁ at run i0 H0 d0 fr0
 have no:¬Own (σ.length+1) S0 (σ.length+16):=fun o=>Nat.lt_irrefl _ ((Nat.add_assoc σ.length 1 15)▸(own0 o).2)
 have R0:MR σ₁ σ.length h1 h2 A B M0 S0:=⟨i0,H0,⟨0,d0⟩,Nat.le_refl _,M0_ok A B,rfl,inv0 _,Nat.le_refl _,nofun,no⟩
 have keep:∀{S' τ},MStp σ.length S0 σ₁ S' τ→Frm (fun a=>σ.length≤a) σ τ:=fun st=>⟨Nat.le_trans fr0.len st.frm.len,fun a o e n=>st.frm.keep _ _ (fr0.keep _ _ e id) fun q=>q.elim (fun o=>n (Nat.le_of_succ_le (own0 o).1)) fun q=>n (q▸Nat.le_add_right _ _)⟩
 have stl:∀{τ M S},MR τ σ.length h1 h2 A B M S→∃τ' S',Does (d+7) settleE (paramsL 0 [.ref σ.length,.ref h1,.ref h2]) τ .none τ'∧MR τ' σ.length h1 h2 A B M S'∧MStp σ.length S τ S' τ'∧S'.waiting=[]:=fun R=>by
  refine R.settle (d:=d+2) T.oA T.oB fun τ' S' a1 a2 a3 a4=>?_
  exact ⟨τ',S',.umeth (.fld rfl R.i rfl rfl) R.H.i rfl .nil a1,a2,a3,a4⟩
 refine WhileD.inv (d:=d+7) (c:=.umeth (.var 0) 19 []) (body:=[.expr settleE])
  (fun k ρ' τ=>ρ'=paramsL 0 [.ref σ.length,.ref h1,.ref h2]∧∃M S',MR τ σ.length h1 h2 A B M S'∧MStp σ.length S0 σ₁ S' τ∧26≤M.rows.length+k∧lapsM (itsT S1 S2) k M=meetM S1 S2)
  (fun ρ' τ=>ρ'=paramsL 0 [.ref σ.length,.ref h1,.ref h2]∧∃S',MR τ σ.length h1 h2 A B (meetM S1 S2) S'∧MStp σ.length S0 σ₁ S' τ)
  (fun k ρ' τ w21 zz k0 kk=>by
   obtain ⟨e,M,S',R,st,hk,hl⟩:=w21
   have q:=keep st
   have le:=R.ok.le T.oA T.oB
   refine go_up (d:=d) T R (Hs.frm q fun a o=>Nat.not_le_of_lt (Hs.high o)) (Ht.frm q fun a o=>Nat.not_le_of_lt (Ht.high o)) fun τ' S'' g1 g2 g3=>?_
   have ec:DoesT (d+7) (.umeth (.var 0) 19 []) ρ' τ _ τ':=.of (.umeth (.var (e▸rfl)) R.i rfl .nil g1) rfl
   cases k with
   | zero=>exact absurd (Nat.le_trans hk le) (by decide)
   | succ k=>
    rw [lapsM_succ] at hl
    by_cases c:((itsT S1 S2).foldl putM M).rows.length=M.rows.length
    ·rw [if_pos c] at hl
     rw [((fold_len _ M).2 c).1,hl] at g2
     exact k0 τ' (.to ec (decide_eq_false fun h=>h c)) ⟨e,S'',g2,st.trans g3⟩
    ·rw [if_neg c] at hl
     obtain ⟨τ₂,S₂,s1,s2,s3,ξ⟩:=stl g2
     have:=(fold_len (itsT S1 S2) M).1
     exact kk τ' ρ' τ₂ k (.to ec (decide_eq_true c)) (.expr (e▸s1) .nil) (Nat.lt_succ_self _) ⟨e,_,S₂,s2,(st.trans g3).trans s3,by lia,hl⟩)
  26 (ρ:=paramsL 0 [.ref σ.length,.ref h1,.ref h2]) (σ:=σ₁) ⟨rfl,M0,S0,R0,.refl,Nat.le_refl _,rfl⟩ fun ξ ρ' τ W u3=>?_
 obtain ⟨e,S',w2,w3⟩:=u3
 subst e
 obtain ⟨τ₂,S₂,s1,s2,s3,s4⟩:=stl w2
 exact kk τ₂ S₂ (.inst (f:=28) (.cons (.var rx) (.one (.var ry))) rfl (.fall rfl rfl (run (.next (.while W) (.expr s1 .nil))))) s2 s4 ⟨(keep (w3.trans s3)).len,fun a o e ξ=>(keep (w3.trans s3)).keep _ _ e (Nat.not_le_of_lt (lt_of e))⟩
end
abbrev pV (o:Option Nat):CV:=o.elim (.int (-1)) nV
abbrev oV (o:Option Nat):CV:=o.elim .none nV
section
variable {S1 S2:HS} {A B:Hd} {σ:CSt} {m h1 h2 n a b d:Nat} {M:MSt} {S:HS} {q:Pr}
theorem MR.root (R:MR σ m h1 h2 A B M S) (h:dget M.nums q=some n):rt S.par n=n:=by
 have pl:=R.pl
 obtain ⟨l,e⟩:=R.ok.num q n h
 have l':n<S.par.length:=pl▸l
 have le:=rt_le R.H.U.ok n l'
 have s:M.pi (rt S.par n)=M.pi n:=R.inv.snd n l'
 obtain ⟨k,h1,h2⟩:=R.ok.cov (rt S.par n) (Nat.lt_of_le_of_lt le l)
 rw [s,e,h] at h1
 exact Nat.le_antisymm le (Option.some.inj h1▸h2)
theorem MR.rtN (R:MR σ m h1 h2 A B M S) (h:n<M.rows.length):dget M.nums (M.pi n)=some (rt S.par n):=by
 obtain ⟨k,h1,h2⟩:=R.ok.cov n h
 rw [h1,← R.jn n k h h1,R.root h1]
theorem meet_class (R:MR σ m h1 h2 A B M S) (Hs:HR σ h1 S1) (Ht:HR σ h2 S2) (ha:a<S1.par.length) (hb:b<S2.par.length) :
  Calls (d+3) 32 [.ref m,nV a,nV b] σ (pV (dget M.nums (rt S1.par a,rt S2.par b))) σ:=by
 obtain ⟨ep,nm⟩:=R.nm
 have g:=BmC.get2 (d:=d+2) (v:=.int (-1)) (ofDict nm) (keyF_pair.kin (a:=(rt S1.par a,rt S2.par b)))
 rw [keyF_pair.find] at g
 have m:Does (d+2) (.bmeth (.attr (.var 0) 1) .get [.tup [.umeth (.attr (.var 0) 14) 7 [.var 1],.umeth (.attr (.var 0) 15) 7 [.var 2]],.neg (.int 1)]) (paramsL 0 [.ref m,nV a,nV b]) σ _ σ:=.bmeth .get (.fld rfl R.i rfl rfl) (.dict nm) (.cons (.tup (.cons (.umeth (.fld rfl R.i rfl rfl) Hs.i rfl (.one (.var rfl)) (heap_find Hs ha)) (.one (.umeth (.fld rfl R.i rfl rfl) Ht.i rfl (.one (.var rfl)) (heap_find Ht hb)))) rfl) (.one (.neg .int))) g
 cases e:dget M.nums (rt S1.par a,rt S2.par b) with
 | none=>
  rw [e] at m
  exact .run rfl rfl (.next (.assign m rfl) (.ret (.ite (i:=true) (.cmp (.var rfl) .int .lt) (.neg .int))))
 | some n=>
  rw [e] at m
  have f:=heap_find (d:=d) R.H (R.pl▸(R.ok.num _ _ e).1:n<S.par.length)
  rw [R.root e] at f
  exact .run rfl rfl (.next (.assign m rfl) (.ret (.ite (i:=false) (.cmp (.var rfl) .int (.to .lt (decide_eq_false (Int.not_lt.mpr (Int.natCast_nonneg n))))) (.umeth (.fld rfl R.i rfl rfl) R.H.i rfl (.one (.var rfl)) f))))
end
set_option genInjectivity false in
set_option genSizeOf false in
inductive Tm where
 | l0 (o:Fin 3)
 | l1 (o:Fin 3) (t:Tm)
 | l2 (o:Fin 3) (t u:Tm)
noncomputable section
noncomputable def Tm.op (t:Tm):Fin 3:=t.rec (fun o=>o) (fun o ξ ξ=>o) fun o ξ ξ ξ ξ=>o
noncomputable def Tm.kids (t:Tm):List Tm:=t.rec (fun ξ=>[]) (fun ξ t ξ=>[t]) fun ξ t u ξ ξ=>[t,u]
noncomputable def tmV' (t:Tm):CV:=t.rec (fun o=>.tup [opV o]) (fun o ξ a=>.tup [opV o,a]) fun o ξ ξ a b=>.tup [opV o,a,b]
noncomputable def Tm.dep (t:Tm):Nat:=t.rec (fun ξ=>1) (fun ξ ξ a=>a+1) fun ξ ξ ξ a b=>max a b+1
noncomputable def clsK (A:Hd) (o:Fin 3) (os:List (Option Nat)):Option Nat:=if none∈os then none else dget A (o,os.map (·.getD 0))
noncomputable def tcl (A:Hd) (t:Tm):Option Nat:=t.rec (fun o=>clsK A o []) (fun o ξ a=>clsK A o [a]) fun o ξ ξ a b=>clsK A o [a,b]
end
theorem Tm.ind {P:Tm→Prop} (h:∀t:Tm,(∀k∈t.kids,P k)→P t) (t:Tm):P t:=by
 induction t with
 | l0 o=>exact h _ nofun
 | l1 o t ih=>exact h _ fun k m=>List.mem_singleton.mp m▸ih
 | l2 o t u ih ih'=>exact h _ fun k m=>(List.mem_cons.mp m).elim (fun e=>e▸ih) fun m=>List.mem_singleton.mp m▸ih'
section
variable {t k:Tm} {A:Hd} {os:List (Option Nat)} {x:Option Nat} {d:Nat} {σ:CSt}
theorem tm_V:tmV' t = .tup (opV t.op::t.kids.map tmV'):=by cases t<;>rfl
theorem tm_kid_dep (h:k∈t.kids):k.dep+1≤t.dep:=by
 cases t with
 | l0 o=>cases h
 | l1 o u=>exact List.mem_singleton.mp h▸Nat.le_refl _
 | l2 o u v=>exact Nat.succ_le_succ ((List.mem_cons.mp h).elim (fun e=>e▸Nat.le_max_left _ _) fun m=>List.mem_singleton.mp m▸Nat.le_max_right _ _)
theorem tm_dep:1≤t.dep:=by cases t<;>exact Nat.succ_le_succ (Nat.zero_le _)
theorem tm_len:t.kids.length≤2:=by
 cases t with
 | l0=>exact Nat.zero_le _
 | l1=>exact Nat.le_succ _
 | l2=>exact Nat.le_refl _
theorem tcl_eq:tcl A t=clsK A t.op (t.kids.map (tcl A)):=by cases t<;>rfl
theorem oV_none:CV.none∈os.map oV↔none∈os:=⟨fun m=>(by
 obtain ⟨x,mx,e⟩:=List.mem_map.mp m
 cases x with
 | none=>exact mx
 | some n=>cases e),fun m=>List.mem_map.mpr ⟨none,m,rfl⟩⟩
theorem opt_some {v:CV} (h:none∉os):os.map (fun x=>x.elim v nV)=(os.map (·.getD 0)).map nV:=by
 rw [List.map_map]
 exact List.map_congr_left fun x mx=>by
  cases x with
  | none=>exact absurd mx h
  | some n=>rfl
theorem opt_dat {v:CV} (hv:Dat v=true) (dv:dp v≤63):Dat (x.elim v nV)=true∧dp (x.elim v nV)≤63:=by
 cases x with
 | none=>exact ⟨hv,dv⟩
 | some n=>exact ⟨rfl,Nat.zero_le _⟩
theorem opt_in {v b:CV} {l:List CV} (hs:seqOf σ b=some l) (hv:Dat v=true) (dv:dp v≤63) (e:l=os.map fun x=>x.elim v nV) (h:v∈l↔none∈os):CmpD d .isin v b (decide (none∈os)) σ:=
 .to (.isinL hs (contains_dat hv (fun y m=>by rw [e] at m;obtain ⟨x,ξ,q⟩:=List.mem_map.mp m;exact q▸(opt_dat hv dv).1) (Nat.le_trans dv (by decide)) fun y m=>by rw [e] at m;obtain ⟨x,ξ,q⟩:=List.mem_map.mp m;exact q▸(opt_dat hv dv).2)) (dec_iff h)
theorem law_class (oA:HdOk A):∀(t:Tm) (d:Nat),t.dep≤d→Calls d 38 [tmV' t,.dct (knV A)] σ (oV (tcl A t)) σ:=by
 refine Tm.ind fun t ih d hd=>?_
 obtain ⟨d,e⟩:∃j,d=j+1:=⟨d - 1,(Nat.sub_add_cancel (Nat.le_trans tm_dep hd)).symm⟩
 subst e
 have tl:=tm_len (t:=t)
 have kl:(t.kids.map tmV').length≤2:=(List.length_map _).symm▸tl
 have ll:(t.kids.map (tcl A)).length≤2:=(List.length_map _).symm▸tl
 have em:(t.kids.map fun k=>oV (tcl A k))=(t.kids.map (tcl A)).map oV:=by rw [List.map_map];rfl
 have ec:ExD d (.assign 2 (.comp false (.gen [3] true .val [.slice (.var 0) (some 1) none] [] (.elt (.call 38 [.var 3,.var 1]))))) (paramsL 0 [.tup (opV t.op::t.kids.map tmV'),.dct (knV A)]) σ .next (upd (paramsL 0 [.tup (opV t.op::t.kids.map tmV'),.dct (knV A)]) 2 (.lst (t.kids.map fun k=>oV (tcl A k)))) σ:=
  .assignC (m:=false) (.val (.tail (.var rfl) (Nat.le_trans kl (by decide))) .tup) (.map (so:=none) (fi:=tmV') trivial fun k mk=>.call (.cons (.var rfl) (.one (.var rfl))) (ih k mk d (Nat.le_of_succ_le_succ (Nat.le_trans (tm_kid_dep mk) hd)))) (by rw [List.length_map];exact big tl rfl)
 rw [em] at ec
 rw [tcl_eq,tm_V]
 generalize t.kids.map (tcl A)=os at ec ll
 have T:=opt_in (d:=d) (σ:=σ) (v:=.none) (b:=.lst (os.map oV)) (os:=os) rfl rfl (Nat.zero_le _) rfl oV_none
 unfold clsK
 by_cases n:none∈os
 ·rw [if_pos n]
  exact .run rfl rfl (.next ec (.ret (.ite (i:=true) (.cmp .nil (.var rfl) (.to T (decide_eq_true n))) .nil)))
 ·rw [if_neg n]
  have g:=BmC.get (d:=d) (σ:=σ) (c:=.dct (knV A)) (es:=knV A) rfl (keyF_row.kin (a:=(t.op,os.map (·.getD 0))))
  rw [keyF_row.find,show ((dget A (t.op,os.map (·.getD 0))).map nV).getD .none=oV (dget A (t.op,os.map (·.getD 0))) by cases dget A (t.op,os.map (·.getD 0))<;>rfl] at g
  exact .run rfl rfl (.next ec (.ret (.ite (i:=false) (.cmp .nil (.var rfl) (.to T (decide_eq_false n))) (.bmeth .get (.var rfl) .dct (.one (.row (.idx (j:=0) (.var rfl) (.int (i:=Int.ofNat 0)) rfl rfl (big (Nat.succ_le_succ kl) rfl)) (.bi (.var rfl) (.tuple (congrArg some (opt_some n)) (by rw [List.length_map,List.length_map];exact big ll rfl))) (by rw [List.length_map];exact Nat.le_trans ll (by decide)))) g))))
end
noncomputable def plO (M:MSt) (A B:Hd) (t:Tm):Option Nat:=(tcl A t).bind fun c=>(tcl B t).bind fun d=>dget M.nums (c,d)
noncomputable abbrev clsD (A:Hd) (t:Tm):Nat:=(tcl A t).getD 0
section
variable {A B:Hd} {M:MSt} {σ:CSt} {m h1 h2 c d:Nat} {S:HS} {t:Tm} {os:List (Option Nat)}
theorem clsD_of (h:tcl A t=some c):tcl A t=some (clsD A t):=by unfold clsD;rw [h];rfl
theorem cls_some (h:tcl A t=some c):(∀k∈t.kids,tcl A k=some (clsD A k))∧((t.op,t.kids.map (clsD A)),c)∈A:=by
 rw [tcl_eq] at h
 unfold clsK at h
 by_cases n:none∈t.kids.map (tcl A)
 ·rw [if_pos n] at h;cases h
 ·rw [if_neg n,List.map_map] at h
  refine ⟨fun k mk=>?_,dget_mem h⟩
  cases e:tcl A k with
  | none=>exact absurd (List.mem_map.mpr ⟨k,mk,e⟩) n
  | some c=>exact e▸clsD_of e
theorem cls_of (oA:HdOk A) (h:∀k∈t.kids,tcl A k=some (clsD A k)) (mm:((t.op,t.kids.map (clsD A)),c)∈A):tcl A t=some c:=by
 rw [tcl_eq]
 unfold clsK
 rw [if_neg (fun n=>by
  obtain ⟨k,mk,e⟩:=List.mem_map.mp n
  rw [h k mk] at e;cases e),List.map_map]
 exact dget_of oA.nd mm
structure Both (M:MSt) (A B:Hd) (t:Tm) (c d n:Nat):Prop where
 row:M.rows[n]?=some (t.op,t.kids.map fun k=>M.num (clsD A k,clsD B k))
 lt:n<M.rows.length
 pi:M.pi n=(c,d)
 has:dget M.nums (c,d)=some (M.num (c,d))
theorem both (D:MDone A B M) (oA:HdOk A) (oB:HdOk B):∀(t:Tm) c d,tcl A t=some c→tcl B t=some d→∃n,Both M A B t c d n:=by
 refine Tm.ind fun t ih c d hc hd=>?_
 obtain ⟨a1,a2⟩:=cls_some hc
 obtain ⟨b1,b2⟩:=cls_some hd
 have ez:(t.kids.map (clsD A)).zip (t.kids.map (clsD B))=t.kids.map fun k=>(clsD A k,clsD B k):=List.zip_map'
 refine D.at oA oB a2 b2 rfl (by rw [List.length_map,List.length_map]) (fun q mq=>by
  rw [ez] at mq
  obtain ⟨k,mk,e⟩:=List.mem_map.mp mq
  obtain ⟨ξ,h⟩:=ih k mk _ _ (a1 k mk) (b1 k mk)
  rw [← e,h.has];rfl) fun n q1 q2 q3=>?_
 obtain ⟨k,h,ξ⟩:=D.cov n q2
 rw [ez,List.map_map] at q1
 exact ⟨n,q1,q2,q3,some_num (by rw [← q3,h];rfl)⟩
theorem plO_some (e1:tcl A t=some c) (e2:tcl B t=some d):plO M A B t=dget M.nums (c,d):=by unfold plO;rw [e1,e2];rfl
theorem plO_none (D:MDone A B M) (oA:HdOk A) (oB:HdOk B):plO M A B t=none↔tcl A t=none∨tcl B t=none:=by
 cases e1:tcl A t with
 | none=>exact ⟨fun ξ=>.inl rfl,fun ξ=>(by unfold plO;rw [e1];rfl)⟩
 | some c=>
  cases e2:tcl B t with
  | none=>exact ⟨fun ξ=>.inr rfl,fun ξ=>(by unfold plO;rw [e1,e2];rfl)⟩
  | some d=>
   obtain ⟨ξ,h⟩:=both D oA oB t c d e1 e2
   exact ⟨fun h'=>(by rw [plO_some e1 e2,h.has] at h';cases h'),fun h=>h.elim nofun nofun⟩
theorem pV_none:CV.int (-1)∈os.map pV↔none∈os:=⟨fun m=>(by
 obtain ⟨x,mx,e⟩:=List.mem_map.mp m
 cases x with
 | none=>exact mx
 | some n=>exact nomatch (CV.int.inj e:Int.ofNat n=Int.negSucc 0)),fun m=>List.mem_map.mpr ⟨none,m,rfl⟩⟩
theorem law_place (oA:HdOk A) (oB:HdOk B) (R:MR σ m h1 h2 A B M S) (D:MDone A B M) (W:S.waiting=[]):∀(t:Tm) (d:Nat),t.dep≤d→Calls (d+3) 39 [.ref (m+1),tmV' t] σ (pV (plO M A B t)) σ:=by
 refine Tm.ind fun t ih d hd=>?_
 obtain ⟨d,e⟩:∃j,d=j+1:=⟨d - 1,(Nat.sub_add_cancel (Nat.le_trans tm_dep hd)).symm⟩
 subst e
 have tl:=tm_len (t:=t)
 have kl:(t.kids.map tmV').length≤2:=(List.length_map _).symm▸tl
 have em:(t.kids.map fun k=>pV (plO M A B k))=(t.kids.map (plO M A B)).map pV:=by rw [List.map_map];rfl
 have ec:ExD (d+3) (.assign 2 (.comp false (.gen [3] true .val [.slice (.var 1) (some 1) none] [] (.elt (.call 39 [.var 0,.var 3]))))) (paramsL 0 [.ref (m+1),.tup (opV t.op::t.kids.map tmV')]) σ .next (upd (paramsL 0 [.ref (m+1),.tup (opV t.op::t.kids.map tmV')]) 2 (.lst (t.kids.map fun k=>pV (plO M A B k)))) σ:=
  .assignC (m:=false) (.val (.tail (.var rfl) (Nat.le_trans kl (by decide))) .tup) (.map (so:=none) (fi:=tmV') trivial fun k mk=>.call (.cons (.var rfl) (.one (.var rfl))) (ih k mk d (Nat.le_of_succ_le_succ (Nat.le_trans (tm_kid_dep mk) hd)))) (by rw [List.length_map];exact big tl rfl)
 have T:=opt_in (d:=d+3) (σ:=σ) (v:=.int (-1)) (b:=.lst ((t.kids.map (plO M A B)).map pV)) (os:=t.kids.map (plO M A B)) rfl rfl (Nat.zero_le _) rfl pV_none
 rw [em] at ec
 rw [tm_V,show d+1+3=(d+3)+1 from Nat.add_right_comm d 1 3]
 by_cases n:none∈t.kids.map (plO M A B)
 ·have pn:plO M A B t=none:=by
   obtain ⟨k,mk,e⟩:=List.mem_map.mp n
   refine (plO_none D oA oB).mpr (((plO_none D oA oB).mp e).imp (fun e=>?_) fun e=>?_)
   ·cases e':tcl A t with
    | none=>rfl
    | some c=>rw [(cls_some e').1 k mk] at e;cases e
   ·cases e':tcl B t with
    | none=>rfl
    | some c=>rw [(cls_some e').1 k mk] at e;cases e
  rw [pn]
  exact .run rfl rfl (.next ec (.ret (.ite (i:=true) (.cmp (.neg .int) (.var rfl) (.to T (decide_eq_true n))) (.neg .int))))
 ·have some':∀k∈t.kids,tcl A k=some (clsD A k)∧tcl B k=some (clsD B k)∧dget M.nums (clsD A k,clsD B k)=some (M.num (clsD A k,clsD B k)):=fun k mk=>by
   have pk:plO M A B k≠none:=fun e=>n (List.mem_map.mpr ⟨k,mk,e⟩)
   cases e1:tcl A k with
   | none=>exact absurd ((plO_none D oA oB).mpr (.inl e1)) pk
   | some c=>
    cases e2:tcl B k with
    | none=>exact absurd ((plO_none D oA oB).mpr (.inr e2)) pk
    | some d=>
     have a:=clsD_of e1
     have b:=clsD_of e2
     obtain ⟨ξ,h⟩:=both D oA oB k _ _ a b
     exact ⟨e1▸a,e2▸b,h.has⟩
  have ek:(t.kids.map (plO M A B)).map pV=(t.kids.map fun k=>M.num (clsD A k,clsD B k)).map nV:=by
   rw [List.map_map,List.map_map]
   exact List.map_congr_left fun k mk=>by
    show pV (plO M A B k)=_
    rw [plO_some (some' k mk).1 (some' k mk).2.1,(some' k mk).2.2];rfl
  have kl':∀x∈t.kids.map (fun k=>M.num (clsD A k,clsD B k)),x<S.par.length:=fun x mx=>by
   obtain ⟨k,mk,e⟩:=List.mem_map.mp mx
   rw [R.pl,← e];exact (R.ok.num _ _ (some' k mk).2.2).1
  have rts:(t.kids.map fun k=>M.num (clsD A k,clsD B k)).map (rt S.par)=t.kids.map fun k=>M.num (clsD A k,clsD B k):=by
   rw [List.map_map]
   exact List.map_congr_left fun k mk=>R.root (some' k mk).2.2
  have pis:(t.kids.map fun k=>M.num (clsD A k,clsD B k)).map M.pi=t.kids.map fun k=>(clsD A k,clsD B k):=by
   rw [List.map_map]
   exact List.map_congr_left fun k mk=>(R.ok.num _ _ (some' k mk).2.2).2
  have sk:=heap_seek (d:=d) R.H (o:=t.op) (by rw [List.length_map];exact tl) kl'
  have sv:seekV S (t.op,t.kids.map fun k=>M.num (clsD A k,clsD B k))=pV (plO M A B t):=by
   show (dget S.known (t.op,List.map _ _)).elim _ _=_
   rw [rts]
   cases e:plO M A B t with
   | some k=>
    cases e1:tcl A t with
    | none=>rw [(plO_none D oA oB).mpr (.inl e1)] at e;cases e
    | some c=>
     cases e2:tcl B t with
     | none=>rw [(plO_none D oA oB).mpr (.inr e2)] at e;cases e
     | some dd=>
      rw [plO_some e1 e2] at e
      obtain ⟨i,b⟩:=both D oA oB t c dd e1 e2
      rcases R.inv.done i (R.pl▸b.lt) with w | w | ⟨j,w1,w2⟩
      ·rw [W] at w;cases w
      ·exact w.elim
      ·rw [nodeOf_at (R.rw▸b.row)] at w1
       replace w1:((t.op,(t.kids.map fun k=>M.num (clsD A k,clsD B k)).map (rt S.par)),j)∈S.known:=w1
       rw [rts] at w1
       rw [dget_of R.H.kd w1]
       show nV (rt S.par j)=nV k
       rw [w2,← R.jn i k b.lt (b.pi▸e),R.root e]
   | none=>
    cases e':dget S.known (t.op,t.kids.map fun k=>M.num (clsD A k,clsD B k)) with
    | none=>rfl
    | some j=>
     obtain ⟨s,s1,s2,s3⟩:=R.inv.ksnd _ (dget_mem e')
     replace s2:s.1=t.op:=s2
     replace s3:s.2.map M.pi=(t.kids.map fun k=>M.num (clsD A k,clsD B k)).map M.pi:=s3
     rw [pis] at s3
     obtain ⟨p1,p2⟩:=R.ok.prod j s (R.rw▸s1)
     obtain ⟨f1,f2⟩:=map_and s3
     rw [f1,s2] at p1
     rw [f2,s2] at p2
     rcases (plO_none D oA oB).mp e with e | e
     ·rw [cls_of oA (fun k mk=>(some' k mk).1) p1] at e;cases e
     ·rw [cls_of oB (fun k mk=>(some' k mk).2.1) p2] at e;cases e
  rw [sv] at sk
  exact .run rfl rfl (.next ec (.ret (.ite (i:=false) (.cmp (.neg .int) (.var rfl) (.to T (decide_eq_false n))) (.umeth (.var rfl) R.H.i rfl (.cons (.idx (j:=0) (.var rfl) (.int (i:=Int.ofNat 0)) rfl rfl (big (Nat.succ_le_succ kl) rfl)) (.one (.to (.var rfl) (congrArg CV.lst ek)))) sk))))
end
abbrev leavesT:List Tm:=[.l0 0,.l0 1]
abbrev someA:List Tm:=leavesT.map (.l1 2 ·)++leavesT.map (.l1 0 ·)
noncomputable def someT:List Tm:=someA++leavesT.flatMap fun t=>leavesT.map fun u=>.l2 2 t u
noncomputable def moreT:List Tm:=([2,0]:List (Fin 3)).flatMap fun o=>someT.map (.l1 o ·)
noncomputable def twoT (t u:Tm):List Tm:=[.l2 2 t u,.l2 2 u t]
noncomputable def fitT:List Tm:=someT.flatMap fun t=>leavesT.flatMap fun u=>twoT t u
noncomputable def termsT:List Tm:=(leavesT++someT)++(moreT++fitT)
abbrev extI:CS:=.expr (.bmeth (.var 4) .extend [.lst [.tup [.str ⟨#[102]⟩,.var 2,.var 6],.tup [.str ⟨#[102]⟩,.var 6,.var 2]]])
section
variable {d p:Nat} {ρ:Loc} {σ τ:CSt} {l:List CV} {t u:Tm}
theorem CLoop.flat {α:Type} {so:Option (Nat×CObj)} {rest:CC} {x:Nat} {fi:α→CV} {go:α→List CV} (hs:srcP σ so):∀{l:List α},(∀a∈l,TailD d rest (upd ρ x (fi a)) σ (go a) σ)→CLoop d [x] true [] rest so (l.map fi) ρ σ (l.flatMap go) σ:=by
 intro l
 induction l with
 | nil=>
  intro ξ
  exact .nil hs
 | cons a l ih=>
  intro h
  exact .cons hs rfl .nil (h a (.head _)) (ih fun b m=>h b (.tail _ m))
theorem ext_one (r4:ρ 4=some (.ref p)) (r2:ρ 2=some (tmV' t)) (r6:ρ 6=some (tmV' u)) (h:τ[p]?=some (.list l)) (hl:l.length≤1000):RunD d [extI] ρ τ .next ρ (τ.set p (.list (l++(twoT t u).map tmV'))):=
 .expr (.ext (m:=(twoT t u).map tmV') (.var r4) h (.lst (.cons (.tup (.cons .str (.cons (.var r2) (.one (.var r6)))) rfl) (.one (.tup (.cons .str (.cons (.var r6) (.one (.var r2)))) rfl))) rfl) h rfl (big (Nat.add_le_add_right hl 2) rfl) rfl) .nil
theorem ext_row (r0:ρ 0=some (.lst (leavesT.map tmV'))) (r4:ρ 4=some (.ref p)) (r2:ρ 2=some (tmV' t)) (h:τ[p]?=some (.list l)) (hl:l.length≤900) {zz:Prop} (kk:∀ρ' τ',ExD d (.for [6] true .val [.var 0] [extI]) ρ τ .next ρ' τ'→τ'[p]?=some (.list (l++(leavesT.flatMap fun u=>twoT t u).map tmV'))→Frm (fun a=>a=p) τ τ'→Keep 6 ρ ρ'→zz):zz:=
 kk _ _ (.for (.val (.var r0) .lst) (.cons trivial rfl (ext_one r4 r2 rfl h (Nat.le_trans hl (by decide))) (.cons trivial rfl (ext_one r4 r2 rfl (get_set h) (by rw [List.length_append];exact Nat.le_trans (Nat.add_le_add_right hl 2) (by decide))) (.nil trivial)))) (by rw [get_set (get_set h),List.append_assoc];rfl) (.trans (.set rfl) (.set rfl)) ((Keep.refl.upd rfl).upd rfl)
theorem ext_all (r0:ρ 0=some (.lst (leavesT.map tmV'))) (r1:ρ 1=some (.lst (someT.map tmV'))) (r4:ρ 4=some (.ref p)) (h:τ[p]?=some (.list l)) (hl:l.length≤100) {zz:Prop} (kk:∀ρ' τ',ExD d (.for [2] true .val [.var 1] [.for [6] true .val [.var 0] [extI]]) ρ τ .next ρ' τ'→τ'[p]?=some (.list (l++fitT.map tmV'))→Frm (fun a=>a=p) τ τ'→ρ' 0=ρ 0→ρ' 1=ρ 1→ρ' 4=ρ 4→zz):zz:=by
 refine ForD.each (d:=d) (so:=none) (one:=true) (ts:=[2]) (f:=tmV') (l:=someT) (ρ:=ρ) (σ:=τ) (body:=[.for [6] true .val [.var 0] [extI]])
  (fun i ρ' τ'=>τ'[p]?=some (.list (l++((someT.take i).flatMap fun t=>leavesT.flatMap fun u=>twoT t u).map tmV'))∧(l++((someT.take i).flatMap fun t=>leavesT.flatMap fun u=>twoT t u).map tmV').length=l.length+4*i∧Frm (fun a=>a=p) τ τ'∧ρ' 0=ρ 0∧ρ' 1=ρ 1∧ρ' 4=ρ 4) (fun ξ ξ ξ ξ=>trivial)
  (fun i t ρ₁ τ₁ ht w138 zz kk=>by
   obtain ⟨h',len,fr,k0,k1,k4⟩:=w138
   have il:i<8:=(List.getElem?_eq_some_iff.mp ht).1
   refine ext_row (d:=d) (ρ:=upd ρ₁ 2 (tmV' t)) (t:=t) (k0.trans r0) (k4.trans r4) rfl h' (by rw [len];lia) fun ρ₂ τ₂ a1 a2 a3 kp=>?_
   have e:(someT.take (i+1)).flatMap (fun t=>leavesT.flatMap fun u=>twoT t u)=((someT.take i).flatMap fun t=>leavesT.flatMap fun u=>twoT t u)++leavesT.flatMap fun u=>twoT t u:=by
    rw [List.take_add_one,ht,List.flatMap_append]
    show _++List.flatMap _ [t]=_
    rw [List.flatMap_cons,List.flatMap_nil,List.append_nil]
   rw [e,List.map_append,← List.append_assoc] at kk
   exact kk _ ρ₂ τ₂ rfl (.next a1 .nil) ⟨a2,by rw [List.length_append,len];rfl,fr.trans a3,(kp 0 rfl).trans k0,(kp 1 rfl).trans k1,(kp 4 rfl).trans k4⟩)
  ⟨by rw [List.take_zero,List.flatMap_nil,List.map_nil,List.append_nil];exact h,by rw [List.take_zero,List.flatMap_nil,List.map_nil,List.append_nil];rfl,.refl,rfl,rfl,rfl⟩ fun ρ' τ' hfor u1=>?_
 obtain ⟨h',ξ,fr,k0,k1,k4⟩:=u1
 rw [List.take_length] at h'
 exact kk ρ' τ' (.for (.val (.var r1) .lst) hfor) h' fr k0 k1 k4
theorem law_terms {zz:Prop} (kk:∀σ',Calls (d+1) 40 [] σ (.lst (termsT.map tmV')) σ'→Frm (fun ξ=>False) σ σ'→zz):zz:=by
 have one:∀(o:Fin 3) {ρ:Loc},ρ 0=some (.lst (leavesT.map tmV'))→Does d (.comp false (.gen [2] true .val [.var 0] [] (.elt (.tup [.str (opS o),.var 2])))) ρ σ (.lst ((leavesT.map (.l1 o ·)).map tmV')) σ:=fun o ξ r0=>.to (.cmap0 (fi:=tmV') (go:=fun t=>tmV' (.l1 o t)) (.val (.var r0) .lst) (by decide:2≤BIG) fun t m=>.tup (.cons .str (.one (.var rfl))) rfl) rfl
 have two:∀{ρ:Loc},ρ 0=some (.lst (leavesT.map tmV'))→Does d (.comp false (.gen [2] true .val [.var 0] [] (.gen [3] true .val [.var 0] [] (.elt (.tup [.str ⟨#[102]⟩,.var 2,.var 3]))))) ρ σ (.lst ((leavesT.flatMap fun t=>leavesT.map fun u=>Tm.l2 2 t u).map tmV')) σ:=fun r0=>.to (.comp (.val (.var r0) .lst) (.flat (so:=none) (fi:=tmV') (go:=fun t=>leavesT.map fun u=>tmV' (.l2 2 t u)) trivial fun t m=>.gen (.val (.var r0) .lst) (.map (so:=none) (fi:=tmV') trivial fun u m=>.tup (.cons .str (.cons (.var rfl) (.one (.var rfl)))) rfl)) (by decide:4≤BIG)) rfl
 generalize hρ:upd (upd (upd (paramsL 0 []) 0 (.lst (leavesT.map tmV'))) 1 (.lst (someA.map tmV'))) 1 (.lst (someT.map tmV'))=ρ₁
 have s0:ρ₁ 0=some (.lst (leavesT.map tmV')):=hρ▸rfl
 have s1:ρ₁ 1=some (.lst (someT.map tmV')):=hρ▸rfl
 have more:ExD d (.assign 4 (.comp true (.gen [5] true .val [.tup [.str ⟨#[102]⟩,.str ⟨#[97]⟩]] [] (.gen [2] true .val [.var 1] [] (.elt (.tup [.var 5,.var 2])))))) ρ₁ σ .next (upd ρ₁ 4 (.ref σ.length)) (σ++[.list (([2,0]:List (Fin 3)).flatMap fun o=>someT.map fun t=>tmV' (.l1 o t))]):=
  .assignC (m:=true) (.val (.tup (.cons (.str (y:=opS 2)) (.one (.str (y:=opS 0)))) rfl) .tup) (.flat (so:=none) (fi:=opV) (l:=[2,0]) (go:=fun o=>someT.map fun t=>tmV' (.l1 o t)) trivial fun o m=>.gen (.val (.var s1) .lst) (.map (so:=none) (fi:=tmV') trivial fun t m=>.tup (.cons (.var rfl) (.one (.var rfl))) rfl)) (by decide:16≤BIG)
 refine ext_all (d:=d) (ρ:=upd ρ₁ 4 (.ref σ.length)) (p:=σ.length) (l:=moreT.map tmV') (τ:=σ++[.list (moreT.map tmV')]) s0 s1 rfl get_new (by decide:16≤100) fun ρ' τ e g fr k0 k1 k4=>?_
 refine kk τ (.run rfl rfl (.next (.assign (.to (.lst (.cons (.tup (.one (.str (y:=opS 0))) rfl) (.one (.tup (.one (.str (y:=opS 1))) rfl))) rfl) rfl) rfl) (.next (.assign (.to (.bin (one 2 rfl) (one 0 rfl) (.addL rfl rfl (by decide:4≤BIG))) rfl) rfl) (.next (.assign (.to (.bin (.var rfl) (two rfl) (.addL rfl rfl (by decide:8≤BIG))) (v':=.lst (someT.map tmV')) rfl) rfl) (.next (hρ▸more) (.next e (.ret (.to (.bin (.bin (.var (k0.trans s0)) (.var (k1.trans s1)) (.addL rfl rfl (by decide:10≤BIG))) (.var (k4.trans rfl)) (.addL rfl (ofList g) (by decide:58≤BIG))) (by unfold termsT;rw [List.map_append,List.map_append,List.map_append]))))))))) ⟨Nat.le_trans (Frm.push (A:=fun ξ=>False)).len fr.len,fun a o e ξ=>fr.keep _ _ (get_app e) (Nat.ne_of_lt (lt_of e))⟩
theorem terms_ok:∀t∈termsT,t.dep≤5:=fun t m=>of_decide_eq_true (List.all_eq_true.mp (show (termsT.all fun t=>decide (t.dep≤5))=true by decide +kernel) t m)
end
theorem tm_ex {o:Fin 3} {ts:List Tm} (h:ts.length≤2) {zz:Prop} (kk:∀t:Tm,t.op=o→t.kids=ts→zz):zz:=by
 cases ts with
 | nil=>exact kk (.l0 o) rfl rfl
 | cons a ts=>cases ts with
  | nil=>exact kk (.l1 o a) rfl rfl
  | cons b ts=>cases ts with
   | nil=>exact kk (.l2 o a b) rfl rfl
   | cons c ts=>exact absurd (Nat.le_of_succ_le_succ (Nat.le_of_succ_le_succ h)) (Nat.not_succ_le_zero _)
abbrev belI:CS:=.ite (.cmp .notin (.var 4) (.var 2)) [.assignS (.var 2) (.var 4) (.bool true),.expr (.bmeth (.var 3) .append [.var 4])] []
abbrev belF:CS:=.for [4] true .val [.umeth (.var 0) 4 [.bmeth (.var 3) .pop []]] [belI]
abbrev belA (p a:Nat):Prop:=a=p∨a=p+1
structure Bel (rows:List Row) (p n m:Nat) (e:Nat→Prop) (τ₀:CSt) (ρ₀ ρ:Loc) (τ:CSt) (bl st:List Nat):Prop where
 d:∃ep,τ[p]?=some (.dict (stV nV bl) ep)
 s:τ[p+1]?=some (.list (st.map nV))
 nd:bl.Nodup
 lt:∀b∈bl,b<rows.length
 sub:∀b∈st,b∈bl
 n:n∈bl
 c:∀x∈bl,x∈st∨e x∨∀r,rows[x]?=some r→∀y∈r.2,y∈bl
 pot:st.length+(rows.length - bl.length)≤m
 few:m≤100
 fr:Frm (belA p) τ₀ τ
 kp:Keep 4 ρ₀ ρ
section
variable {rows:List Row} {p n m h d k:Nat} {e:Nat→Prop} {τ₀ τ τ':CSt} {ρ₀ ρ ρ':Loc} {bl st:List Nat} {r:Row} {σ:CSt}
theorem Bel.one (b:Bel rows p n m e τ₀ ρ₀ ρ τ bl st) (K:RowsOk rows) (hk:k<rows.length) (r2:ρ 2=some (.ref p)) (r3:ρ 3=some (.ref (p+1))) (r4:ρ 4=some (nV k)) {zz:Prop} (kk:∀τ' bl' st',RunD d [belI] ρ τ .next ρ τ'→Bel rows p n m e τ₀ ρ₀ ρ τ' bl' st'→k∈bl'→(∀x∈bl,x∈bl')→zz):zz:=by
 obtain ⟨ep,hd⟩:=b.d
 have T:DoesT d (.cmp .notin (.var 4) (.var 2)) ρ τ (!decide (k∈bl)) τ:=.to (.cmp (.var r4) (.var r2) (.notinK (ofDict hd) keyF_nat.kin)) (by rw [st_has keyF_nat])
 by_cases c:k∈bl
 ·exact kk τ bl st (.next (.skip (.to T (by rw [decide_eq_true c];rfl))) .nil) b c (fun ξ m=>m)
 ·have few:=K.few
  have nd:=st_nodup b.nd c
  have lt:∀x∈bl++[k],x<rows.length:=fun x mx=>(List.mem_append.mp mx).elim (b.lt x) fun mx=>List.mem_singleton.mp mx▸hk
  have l:=nodup_few nd lt
  have bl60:=nodup_few b.nd b.lt
  have S:=StoreD.dict (d:=d) (v:=.bool true) hd (keyF_nat.kin (a:=k)) (by rw [sh_len];exact bigS (Nat.le_trans bl60 few) rfl)
  rw [st_new keyF_nat c] at S
  have s1:=get_ne (o':=.dict (stV nV (bl++[k])) (if hasK (stV nV bl) (nV k) then ep else ep+1)) b.s (Nat.ne_of_lt (Nat.lt_succ_self p))
  have ln:(bl++[k]).length=bl.length+1:=List.length_append
  refine kk _ (bl++[k]) (st++[k]) (.next (.ite (i:=true) (.to T (by rw [decide_eq_false c];rfl)) (.next (.assignS .bool (.var r2) (.var r4) S rfl) (.expr (.app (.var r3) s1 (.var r4) s1 (by rw [List.length_map];exact bigS (n:=100) (Nat.le_trans (Nat.le_trans (Nat.le_add_right _ _) b.pot) b.few) rfl) rfl) .nil))) .nil) ?_ (List.mem_append_right _ (.head _)) (fun x m=>List.mem_append_left _ m)
  exact { b with
   d:=⟨_,get_ne (get_set hd) (Nat.ne_of_gt (Nat.lt_succ_self p))⟩
   s:=by rw [List.map_append];exact get_set s1
   nd,lt
   sub:=fun x mx=>(List.mem_append.mp mx).elim (fun q=>List.mem_append_left _ (b.sub x q)) fun q=>List.mem_append_right _ q
   n:=List.mem_append_left _ b.n
   c:=fun x mx=>(List.mem_append.mp mx).elim (fun q=>(b.c x q).imp (fun q=>List.mem_append_left _ q) fun z=>z.imp id fun z r hr y my=>List.mem_append_left _ (z r hr y my)) fun q=>.inl (List.mem_append_right _ q)
   pot:=by rw [ln];have:=b.pot;rw [List.length_append,List.length_singleton];rw [ln] at l;lia
   fr:=b.fr.trans ((Frm.set (.inl rfl)).trans (.set (.inr rfl))) }
theorem Bel.bank (b:Bel rows p n m e τ₀ ρ₀ ρ τ bl st) (B:BankR τ₀ h rows) (hh:h+5<p):BankR τ h rows:=
 B.frm b.fr fun k l q=>have l:=Nat.le_of_lt_succ (Nat.le_of_ble_eq_true l);by rcases q with q | q<;>lia
theorem Bel.kids (b:Bel rows p n (m+1) (fun ξ=>False) τ₀ ρ₀ ρ τ bl (st++[k])) (B:BankR τ₀ h rows) (K:RowsOk rows) (hh:h+5<p) (r0:ρ₀ 0=some (.ref (h+1))) (r2:ρ₀ 2=some (.ref p)) (r3:ρ₀ 3=some (.ref (p+1))) {zz:Prop} (kk:∀ρ' τ' bl' st',ExD (d+1) belF ρ τ .next ρ' τ'→Bel rows p n m (fun ξ=>False) τ₀ ρ₀ ρ' τ' bl' st'→zz):zz:=by
 obtain ⟨ep,hd⟩:=b.d
 have kl:=b.lt k (b.sub k (List.mem_append_right _ (.head _)))
 have hr:=List.getElem?_eq_getElem kl
 generalize rows[k]=r at hr
 have P:=b.pot
 rw [List.length_append,List.length_singleton] at P
 have b₁:Bel rows p n m (fun x=>x=k) τ₀ ρ₀ ρ (τ.set (p+1) (.list (st.map nV))) bl st:={ b with
  d:=⟨ep,get_ne hd (Nat.ne_of_gt (Nat.lt_succ_self p))⟩
  s:=get_set b.s
  sub:=fun x mx=>b.sub x (List.mem_append_left _ mx)
  c:=fun x mx=>(b.c x mx).elim (fun q=>(List.mem_append.mp q).imp id fun q=>.inl (List.mem_singleton.mp q)) fun q=>.inr (.inr (q.resolve_left id))
  pot:=by lia
  few:=Nat.le_of_succ_le b.few
  fr:=b.fr.trans (.set (.inr rfl)) }
 have e2:=BmC.pop (d:=d+1) (x:=nV k) b.s (by rw [List.map_append];exact List.getLast?_concat) (by rw [List.length_map,List.length_append];exact big (n:=100) (Nat.le_trans (by rw [List.length_singleton];lia) b.few) rfl)
 rw [show ((st++[k]).map nV).dropLast=st.map nV by rw [List.map_append];exact List.dropLast_concat] at e2
 have k0:=b.kp
 generalize τ.set (p+1) (.list (st.map nV))=τ₁ at b₁ e2
 have B₁:=b₁.bank B hh
 refine ForD.each (d:=d+1) (so:=none) (one:=true) (ts:=[4]) (f:=nV) (l:=r.2) (ρ:=ρ) (σ:=τ₁) (body:=[belI])
  (fun i ρ' τ'=>∃bl' st',Bel rows p n m (fun x=>x=k) τ₀ ρ₀ ρ' τ' bl' st'∧∀x∈r.2.take i,x∈bl') (fun ξ ξ ξ ξ=>trivial)
  (fun i x ρ₁ τ₂ hx w139 zz kk=>by
   obtain ⟨bl₁,st₁,j1,j2⟩:=w139
   have j1':Bel rows p n m (fun x=>x=k) τ₀ ρ₀ (upd ρ₁ 4 (nV x)) τ₂ bl₁ st₁:={ j1 with kp:=j1.kp.upd rfl }
   refine j1'.one (d:=d+1) K (Nat.lt_trans (K.kids k r hr x (List.mem_of_getElem? hx)) kl) ((j1'.kp 2 rfl).trans r2) ((j1'.kp 3 rfl).trans r3) rfl fun τ₃ bl₂ st₂ m1 m2 m3 m4=>?_
   refine kk _ _ τ₃ rfl m1 ⟨bl₂,st₂,m2,fun y my=>?_⟩
   rw [List.take_add_one,hx] at my
   exact (List.mem_append.mp my).elim (fun q=>m4 y (j2 y q)) fun q=>List.mem_singleton.mp q▸m3)
  ⟨bl,st,b₁,nofun⟩ fun ρ' τ' F u1=>?_
 obtain ⟨bl',st',j1,j2⟩:=u1
 rw [List.take_length] at j2
 exact kk ρ' τ' bl' st' (.for (.val (.umeth (.var ((k0 0 rfl).trans r0)) (b.bank B hh).i rfl (.one (.bmeth .pop (.var ((k0 3 rfl).trans r3)) (.list b.s) .nil e2)) (bank_kids B₁ K hr)) .tup) F) { j1 with c:=fun x mx=>(j1.c x mx).imp id fun z=>z.elim (fun q=>.inr fun r' hr'=>by rw [q,hr] at hr';exact Option.some.inj hr'▸j2) .inr }
end
abbrev madeI:CS:=.assignS (.var 5) (.var 6) (.bin .add (.tup [.umeth (.var 0) 3 [.var 6]]) (.bi .tuple (.comp false (.gen [4] true .val [.umeth (.var 0) 4 [.var 6]] [] (.elt (.sub (.var 5) (.var 4)))))))
noncomputable abbrev mkV (md:List (Nat×Tm)):List (CV×CV):=dm nV tmV' md
section
variable {rows:List Row} {p n h d k q ep:Nat} {τ₀ τ:CSt} {ρ₀ ρ:Loc} {bl:List Nat} {r:Row} {σ:CSt} {md:List (Nat×Tm)} {P:Nat→Tm→Prop}
theorem Bel.all (b:Bel rows p n rows.length (fun ξ=>False) τ₀ ρ₀ ρ₀ τ₀ [n] [n]) (B:BankR τ₀ h rows) (K:RowsOk rows) (hh:h+5<p) (r0:ρ₀ 0=some (.ref (h+1))) (r2:ρ₀ 2=some (.ref p)) (r3:ρ₀ 3=some (.ref (p+1))) {zz:Prop} (kk:∀ρ' τ' bl m,ExD (d+1) (.while (.cmp .gt (.bi .len (.var 3)) (.int 0)) [belF]) ρ₀ τ₀ .next ρ' τ'→Bel rows p n m (fun ξ=>False) τ₀ ρ₀ ρ' τ' bl []→zz):zz:=by
 refine WhileD.inv (d:=d+1) (c:=.cmp .gt (.bi .len (.var 3)) (.int 0)) (body:=[belF])
  (fun m ρ' τ'=>∃bl st,Bel rows p n m (fun ξ=>False) τ₀ ρ₀ ρ' τ' bl st)
  (fun ρ' τ'=>∃bl m,Bel rows p n m (fun ξ=>False) τ₀ ρ₀ ρ' τ' bl [])
  (fun m ρ₁ τ₁ w141 zz k0 kk=>by
   obtain ⟨bl,st,j⟩:=w141
   have T:DoesT (d+1) (.cmp .gt (.bi .len (.var 3)) (.int 0)) ρ₁ τ₁ _ τ₁:=.cmp (.len (.var ((j.kp 3 rfl).trans r3)) (ofSeq j.s) (List.length_map _) (big (n:=100) (Nat.le_trans (Nat.le_trans (Nat.le_add_right _ _) j.pot) j.few) rfl)) .int .gt
   rcases List.eq_nil_or_concat st with e | ⟨L,x,e⟩
   ·subst e
    exact k0 τ₁ (.to T rfl) ⟨bl,m,j⟩
   ·rw [List.concat_eq_append] at e
    subst e
    cases m with
    | zero=>exact absurd (Nat.le_trans (Nat.le_add_right _ _) j.pot) (by rw [List.length_append];exact Nat.not_succ_le_zero _)
    | succ m=>
     refine j.kids (d:=d) B K hh r0 r2 r3 fun ρ₂ τ₂ bl' st' F j'=>?_
     exact kk τ₁ ρ₂ τ₂ m (.to T (decide_eq_true (by rw [List.length_append];exact Int.ofNat_lt.mpr (Nat.succ_pos _)))) (.next F .nil) (Nat.lt_succ_self m) ⟨bl',st',j'⟩)
  rows.length ⟨[n],[n],b⟩ fun ξ ρ' τ' W u2=>?_
 obtain ⟨bl,m,j⟩:=u2
 exact kk ρ' τ' bl m (.while W) j
theorem made_one (B:BankR τ h rows) (K:RowsOk rows) (hP:∀n r t f,rows[n]?=some r→t.op=r.1→t.kids=r.2.map f→(∀k∈r.2,P k (f k))→P n t) (hr:rows[k]?=some r) (r0:ρ 0=some (.ref (h+1))) (r5:ρ 5=some (.ref q)) (r6:ρ 6=some (nV k)) (hd:τ[q]?=some (.dict (mkV md) ep)) (hm:md.length≤100) (hu:∀p∈md,P p.1 p.2) (hk:∀x∈r.2,x∈md.map (·.1)) (nk:k∉md.map (·.1)) {zz:Prop} (kk:∀t ep',ExD (d+1) madeI ρ τ .next ρ (τ.set q (.dict (mkV (md++[(k,t)])) ep'))→P k t→zz):zz:=by
 have wd:=K.wide r (List.mem_of_getElem? hr)
 have fs:∀x∈r.2,dget md x=some ((dget md x).getD (.l0 0))∧P x ((dget md x).getD (.l0 0)):=fun x mx=>by
  have:=dget_key.mpr (hk x mx)
  cases e:dget md x with
  | none=>rw [e] at this;cases this
  | some t=>exact ⟨rfl,hu _ (dget_mem e)⟩
 refine tm_ex (o:=r.1) (ts:=r.2.map fun x=>(dget md x).getD (.l0 0)) (by rw [List.length_map];exact wd) fun t t1 t2=>?_
 have S:=StoreD.dict (d:=d+1) (v:=tmV' t) hd (keyF_nat.kin (a:=k)) (by show (List.map _ _).length<BIG;rw [List.length_map];exact bigS hm rfl)
 rw [keyF_nat.set,dset_new (dget_none nk)] at S
 exact kk t _ (.assignS (.to (.bin (.tup (.one (.umeth (.var r0) B.i rfl (.one (.var r6)) (bank_op B K hr))) rfl) (.bi (.cmap0 (fi:=nV) (go:=fun x=>tmV' ((dget md x).getD (.l0 0))) (l:=r.2) (.val (.umeth (.var r0) B.i rfl (.one (.var r6)) (bank_kids B K hr)) .tup) (big wd rfl) fun x mx=>.sub (.var r5) (.var rfl) (.dict (ofDict hd) keyF_nat.kin (by rw [keyF_nat.find,(fs x mx).1];rfl))) (.tuple rfl (by rw [List.length_map];exact big wd rfl))) (.addT (by rw [List.length_map];exact big (n:=3) (Nat.add_le_add_left wd 1) rfl))) (by rw [tm_V,t1,t2,List.map_map];rfl)) (.var r5) (.var r6) S rfl) (hP k r t _ hr t1 t2 fun x mx=>(fs x mx).2)
theorem bank_term (B:BankR σ h rows) (K:RowsOk rows) (hP:∀n r t f,rows[n]?=some r→t.op=r.1→t.kids=r.2.map f→(∀k∈r.2,P k (f k))→P n t) (hn:n<rows.length) {zz:Prop} (kk:∀σ' t,Calls (d+2) 7 [.ref (h+1),nV n] σ (tmV' t) σ'→P n t→Frm (fun ξ=>False) σ σ'→zz):zz:=by
 have few:=K.few
 obtain ⟨ξ,ξ,hds⟩:=B.ds
 have hl:=lt_of hds
 have ln1:(σ++[CObj.dict (stV nV [n]) 1]).length=σ.length+1:=List.length_append
 have e1:ExD (d+1) (.assignT [2,3] (.tup [.newd [.var 1,.bool true],.newl [.var 1]])) (paramsL 0 [.ref (h+1),nV n]) σ .next (upd (upd (paramsL 0 [.ref (h+1),nV n]) 2 (.ref σ.length)) 3 (.ref (σ.length+1))) ((σ++[.dict (stV nV [n]) 1])++[.list [nV n]]):=
  .assignT (.tup (.cons (.newd (.cons (.var rfl) .bool .nil) (.cons rfl rfl .nil)) (.one (.to (.newl (.one (.var rfl)) rfl) (congrArg CV.ref ln1)))) rfl) rfl rfl
 have fr1:Frm (fun ξ=>False) σ ((σ++[CObj.dict (stV nV [n]) 1])++[CObj.list [nV n]]):=Frm.push.trans .push
 generalize hρ:upd (upd (paramsL 0 [.ref (h+1),nV n]) 2 (.ref σ.length)) 3 (.ref (σ.length+1))=ρ₁ at e1
 generalize hσ:(σ++[CObj.dict (stV nV [n]) 1])++[CObj.list [nV n]]=σ₁ at e1 fr1
 have b1:Bel rows σ.length n rows.length (fun ξ=>False) σ₁ ρ₁ ρ₁ σ₁ [n] [n]:={ d:=⟨1,hσ▸get_app get_new⟩,s:=hσ▸ln1▸get_new,nd:=nodup_one,lt:=fun b m=>List.mem_singleton.mp m▸hn,sub:=fun ξ m=>m,n:=.head _,c:=fun ξ m=>.inl m,pot:=by rw [List.length_singleton];lia,few:=Nat.le_trans few (by decide),fr:=.refl,kp:=.refl }
 have B1:BankR σ₁ h rows:=B.frm fr1 fun ξ ξ q=>q
 refine b1.all (d:=d) B1 K hl (hρ▸rfl) (hρ▸rfl) (hρ▸rfl) fun ρ₂ σ₂ bl m w1 b=>?_
 have B2:=b.bank B1 hl
 obtain ⟨epb,db⟩:=b.d
 have nd:=b.nd
 have pr:((List.range rows.length).filter fun x=>decide (x∈bl)).Perm bl:=(List.perm_ext_iff_of_nodup (List.nodup_range.filter _) nd).mpr fun x=>List.mem_filter.trans ⟨fun h=>of_decide_eq_true h.2,fun h=>⟨List.mem_range.mpr (b.lt x h),decide_eq_true h⟩⟩
 have pw:((List.range rows.length).filter fun x=>decide (x∈bl)).Pairwise (·<·):=List.pairwise_lt_range.filter _
 generalize (List.range rows.length).filter (fun x=>decide (x∈bl))=rs at pr pw
 have fr3:Frm (fun ξ=>False) σ₂ (σ₂++[CObj.dict [] 0]):=.push
 have g3:(σ₂++[CObj.dict [] 0])[σ₂.length]?=some (.dict (mkV []) 0):=get_new
 have l12:=b.fr.len
 have l01:=fr1.len
 have rl:=Nat.le_trans (Nat.le_of_eq pr.length_eq) (Nat.le_trans (nodup_few nd b.lt) few)
 have sr:Does (d+1) (.bi .sorted (.var 2)) (upd ρ₂ 5 (.ref σ₂.length)) (σ₂++[.dict [] 0]) (.lst (rs.map nV)) (σ₂++[.dict [] 0]):=
  .bi (.var ((b.kp 2 rfl).trans (hρ▸rfl))) (.sortedD (by rw [show (stV nV bl).map (·.1)=bl.map nV by show (List.map _ (List.map _ (List.map _ bl)))=_;rw [List.map_map,List.map_map];rfl];exact .nats nd (Nat.lt_of_le_of_lt (nodup_few nd b.lt) (Nat.lt_of_le_of_lt few (by decide))) pr pw) (fr3.keep _ _ db id))
 have r0:upd ρ₂ 5 (.ref σ₂.length) 0=some (.ref (h+1)):=(b.kp 0 rfl).trans (hρ▸rfl)
 have r1:upd ρ₂ 5 (.ref σ₂.length) 1=some (nV n):=(b.kp 1 rfl).trans (hρ▸rfl)
 have r5:upd ρ₂ 5 (.ref σ₂.length) 5=some (.ref σ₂.length):=rfl
 have w2:ExD (d+1) (.assign 5 (.newd [])) ρ₂ σ₂ .next (upd ρ₂ 5 (.ref σ₂.length)) (σ₂++[.dict [] 0]):=.assign .newd0 rfl
 generalize upd ρ₂ 5 (.ref σ₂.length)=ρ₃ at sr r0 r1 r5 w2
 refine ForD.each (d:=d+1) (so:=none) (one:=true) (ts:=[6]) (f:=nV) (l:=rs) (ρ:=ρ₃) (σ:=σ₂++[.dict [] 0]) (body:=[madeI])
  (fun i ρ' τ=>(∃(md:List (Nat×Tm)) (ep:Nat),τ[σ₂.length]?=some (.dict (mkV md) ep)∧md.map (·.1)=rs.take i∧∀p∈md,P p.1 p.2)∧Frm (fun a=>a=σ₂.length) (σ₂++[.dict [] 0]) τ∧Keep 6 ρ₃ ρ') (fun ξ ξ ξ ξ=>trivial)
  (fun i k ρ' τ hk w140 zz kk=>by
   obtain ⟨⟨md,ep,m1,m2,m3⟩,m4,m5⟩:=w140
   obtain ⟨il,ik⟩:=List.getElem?_eq_some_iff.mp hk
   have e:rs.take i++k::rs.drop (i+1)=rs:=by rw [← ik,← List.drop_eq_getElem_cons il];exact List.take_append_drop i rs
   have pw':(rs.take i++k::rs.drop (i+1)).Pairwise (·<·):=by rw [e];exact pw
   obtain ⟨ξ,q2,q3⟩:=List.pairwise_append.mp pw'
   have kb:=pr.mem_iff.mp (List.mem_of_getElem? hk)
   have hr:=List.getElem?_eq_getElem (b.lt k kb)
   have ml:md.length≤100:=by
    have:=congrArg List.length m2
    rw [List.length_map,List.length_take] at this
    lia
   refine made_one (d:=d) (ρ:=upd ρ' 6 (nV k)) ((B2.frm fr3 fun ξ ξ q=>q).frm m4 fun j l q=>Nat.lt_irrefl _ (Nat.lt_of_lt_of_le (Nat.lt_of_lt_of_le (lt_of db) (Nat.le_of_eq q.symm)) (Nat.le_trans (Nat.add_le_add_left (Nat.le_of_lt_succ (Nat.le_of_ble_eq_true l)) h) (Nat.le_of_lt hl)))) K hP hr ((m5 0 rfl).trans r0) ((m5 5 rfl).trans r5) rfl m1 ml m3
    (fun x mx=>by
     rw [m2]
     have xl:=K.kids k _ hr x mx
     have xr:x∈rs.take i++k::rs.drop (i+1):=by rw [e];exact pr.mem_iff.mpr (((b.c k kb).resolve_left nofun).resolve_left id _ hr x mx)
     exact (List.mem_append.mp xr).resolve_right fun q=>(List.mem_cons.mp q).elim (fun q=>Nat.lt_irrefl _ (q▸xl)) fun q=>Nat.lt_asymm xl (List.rel_of_pairwise_cons q2 q))
    (m2▸fun q=>Nat.lt_irrefl _ (q3 k q k (.head _))) fun t ep' t1 t2=>?_
   refine kk _ _ _ rfl (.next t1 .nil) ⟨⟨md++[(k,t)],ep',get_set m1,by rw [List.map_append,m2,List.take_add_one,hk];rfl,fun p mp=>(List.mem_append.mp mp).elim (m3 p) fun mp=>List.mem_singleton.mp mp▸t2⟩,m4.trans (.set rfl),m5.upd rfl⟩)
  ⟨⟨[],0,g3,rfl,nofun⟩,.refl,.refl⟩ fun ρ₄ σ₄ F u3=>?_
 obtain ⟨⟨md,ep,m1,m2,m3⟩,m4,m5⟩:=u3
 rw [List.take_length] at m2
 have ht:=dget_key.mpr (m2▸pr.mem_iff.mpr b.n:n∈md.map (·.1))
 obtain ⟨t,et⟩:=Option.isSome_iff_exists.mp ht
 refine kk σ₄ t (.run rfl rfl (.next e1 (.next w1 (.next w2 (.next (.for (.val sr .lst) F) (.ret (.sub (.var ((m5 5 rfl).trans r5)) (.var ((m5 1 rfl).trans r1)) (.dict (ofDict m1) keyF_nat.kin (by rw [keyF_nat.find,et];rfl))))))))) (m3 _ (dget_mem et)) ?_
 have l34:=m4.len
 have l23:=fr3.len
 exact ⟨by lia,fun a o e ξ=>m4.keep _ _ (fr3.keep _ _ (b.fr.keep _ _ (fr1.keep _ _ e id) fun q=>by have:=lt_of e;rcases q with q | q<;>lia) id) fun q=>by have:=lt_of e;lia⟩
end
noncomputable def kidsT:Nat→List (List Nat)
 | 0=>[[]]
 | w+1=>[]::(List.range 5).flatMap fun a=>(kidsT w).map (a::·)
theorem kidsT_mem:∀{ks:List Nat} {w:Nat},ks.length≤w→(∀k∈ks,k<5)→ks∈kidsT w:=by
 intro l6
 induction l6 with
 | nil=>
  intro l7
  cases l7 with
  | zero=>
   intro ξ ξ
   exact .head _
  | succ ξ=>
   intro ξ ξ
   exact .head _
 | cons k ks ih=>
  intro l8
  cases l8 with
  | zero=>
   intros;contradiction
  | succ w=>
   intro h l
   exact .tail _ (List.mem_flatMap.mpr ⟨k,List.mem_range.mpr (l k (.head _)),List.mem_map.mpr ⟨ks,ih (Nat.le_of_succ_le_succ h) fun x m=>l x (.tail _ m),rfl⟩⟩)
abbrev keysT:List Row:=(kidsT 1).map ((0,·))++((kidsT 0).map ((1,·))++(kidsT 2).map ((2,·)))
theorem flat.cons {n:Nat} {x:CV} {l:List CV} (h:Dat x=true∧dp x≤n) (f:flat n l):flat n (x::l):=fun y m=>(List.mem_cons.mp m).elim (fun e=>e▸h) (f y)
theorem flat.nil {n:Nat}:flat n []:=nofun
theorem flat.nats {ns:List Nat}:flat 0 (ns.map nV):=fun x m=>(by obtain ⟨ξ,ξ,e⟩:=List.mem_map.mp m;exact e▸⟨rfl,Nat.le_refl _⟩)
theorem flat.lst {n k:Nat} {l:List CV} (f:flat n l) (h:n<k):Dat (.lst l)=true∧dp (.lst l)≤k:=⟨Dats_all fun x m=>(f x m).1,Nat.le_trans (Nat.succ_le_succ (dps_le fun x m=>(f x m).2)) h⟩
theorem flat.tup {n k:Nat} {l:List CV} (f:flat n l) (h:n<k):Dat (.tup l)=true∧dp (.tup l)≤k:=⟨Dats_all fun x m=>(f x m).1,Nat.le_trans (dp_tup fun x m=>(f x m).2) h⟩
section
variable {σ:CSt} {h:Nat} {S:HS} {rows:List Row} {pairs:List (Nat×Nat)}
theorem side_known (H:HR σ h S) (O:SideOk rows pairs S):S.known.length<64:=by
 have I:=O.inv _ (side_good H O)
 have le:=O.le
 have:=List.Nodup.length_le_of_subset H.kd (l₂:=keysT) fun r m=>by
  obtain ⟨p,mp,e⟩:=List.mem_map.mp m
  obtain ⟨s,s1,s2,s3⟩:=I.ksnd p mp
  have ln:=congrArg List.length s3
  rw [List.length_map,List.length_map] at ln
  have kk:∀k∈p.1.2,k<5:=fun k mk=>Nat.lt_of_lt_of_le (I.kkid p mp k mk) (O.len H▸le)
  have er:r=(s.1,p.1.2):=by rw [← e,s2]
  rcases O.R.shape s (O.rw▸List.mem_of_getElem? s1) with q | q | q
  ·exact List.mem_append_left _ (List.mem_map.mpr ⟨_,kidsT_mem (ln▸q.2) kk,by rw [er,q.1]⟩)
  ·exact List.mem_append_right _ (List.mem_append_left _ (List.mem_map.mpr ⟨_,kidsT_mem (ln▸Nat.le_of_eq q.2) kk,by rw [er,q.1]⟩))
  ·exact List.mem_append_right _ (List.mem_append_right _ (List.mem_map.mpr ⟨_,kidsT_mem (ln▸q.2.2) kk,by rw [er,q.1]⟩))
 rw [List.length_map] at this
 exact Nat.lt_of_le_of_lt this (by decide +kernel)
theorem law_state (H0:HR σ h S) (O:SideOk rows pairs S) {zz:Prop} (kk:∀v,(Dat v=true∧dp v≤10)→(∀{d τ},HR τ h S→Calls (d+3) 41 [.ref h] τ v τ)→zz):zz:=by
 refine asc_perm (enc:=fun p:Row×Nat=>encR p.1) (l:=S.known) ((List.pairwise_map.mp H0.kd).imp fun n e=>n (encR_inj e)) fun r p1 p2=>?_
 have hr:flat 2 (r.map itmV):=fun x m=>(by obtain ⟨p,ξ,e⟩:=List.mem_map.mp m;exact e▸(flat.cons ⟨dat_row _,dp_row _⟩ (flat.cons ⟨rfl,Nat.zero_le _⟩ .nil)).tup (Nat.lt_succ_self 1))
 refine kk (.tup [.lst (((List.range S.par.length).map (rt S.par)).map nV),.lst S.edges,.lst S.forest,.lst (r.map itmV),.lst (S.waiting.map nV)]) ((flat.cons (n:=9) (flat.nats.lst (by decide)) (.cons (H0.ef.lst (by decide)) (.cons (H0.ff.lst (by decide)) (.cons (hr.lst (by decide)) (.cons (flat.nats.lst (by decide)) .nil))))).tup (by decide)) (fun {d τ} H=>?_)
 have few:=H.U.few
 obtain ⟨ep,hk⟩:=H.k
 have sl:=side_known H0 O
 have:=H.el
 have:=H.tl
 have:=H.fl
 have:=H.pot
 have ln:∀{l:List CV},l.length≤8000→l.length≤BIG:=fun h=>big h rfl
 have so:SortsTo ((knV S.known).map pairV) (r.map itmV):=by
  rw [show (knV S.known).map pairV=S.known.map itmV by show List.map _ (List.map _ _)=_;rw [List.map_map];rfl]
  exact .items H0.kd sl p1 p2
 exact .run rfl rfl (.next (.assignC (m:=false) (.rangeN (.umeth (.var rfl) H.i rfl .nil (heap_size H)) (bigS few rfl)) (.map (so:=none) (go:=fun i=>nV (rt S.par i)) trivial fun i mi=>.find H rfl (.var rfl) (List.mem_range.mp mi)) (by rw [List.length_map,List.length_range];exact big few rfl)) (.ret (.to (.tup (.cons (.var rfl) (.cons (.bi (.fld rfl H.i rfl rfl) (.list (ofList H.e) (ln (by lia)))) (.cons (.bi (.fld rfl H.i rfl rfl) (.list (ofList H.f) (ln (by lia)))) (.cons (.sortedItems (.fld rfl H.i rfl rfl) hk so) (.one (.bi (.fld rfl H.i rfl rfl) (.list (ofList H.w) (ln (by rw [List.length_map];lia))))))))) rfl) (by rw [List.map_map];rfl))))
end
set_option genInjectivity false in
set_option genSizeOf false in
structure Sid where
 rows:List Row
 pairs:List (Nat×Nat)
 S:HS
 h:Nat
 b:Nat
 A:Hd
 v:CV
structure SidOk (sp:Nat) (D:Sid) (τ:CSt):Prop where
 H:HR τ D.h D.S
 O:SideOk D.rows D.pairs D.S
 row:τ[D.b]?=some (.list (D.rows.map rowV))
 oA:HdOk D.A
 hA:∀p,p∈D.A↔p∈headL D.rows (rt D.S.par)
 d:Dat D.v=true∧dp D.v≤10
 e:∀{d τ},HR τ D.h D.S→Calls (d+3) 41 [.ref D.h] τ D.v τ
 lo:∀a,a=D.b∨Own D.h D.S a→a<sp
set_option genInjectivity false in
set_option genSizeOf false in
structure LD where
 x:Sid
 y:Sid
 sh:List Pr
 a:Nat
 sp:Nat
 m1:Nat
 m2:Nat
 m3:Nat
 S3:HS
 S4:HS
 S5:HS
noncomputable abbrev LD.M (D:LD):MSt:=meetM D.x.S D.y.S
noncomputable abbrev LD.M' (D:LD):MSt:=meetM D.y.S D.x.S
structure LOk (D:LD) (τ:CSt):Prop where
 X:SidOk D.sp D.x τ
 Y:SidOk D.sp D.y τ
 shd:∃ep,τ[D.a]?=some (.dict (shV D.sh) ep)
 shn:D.sh.Nodup
 shi:∀q,q∈D.sh↔Sh D.x.A D.y.A q
 R1:MR τ D.m1 D.x.h D.y.h D.x.A D.y.A D.M D.S3
 R2:MR τ D.m2 D.y.h D.x.h D.y.A D.x.A D.M' D.S4
 R3:MR τ D.m3 D.x.h D.y.h D.x.A D.y.A D.M D.S5
 w:D.S3.waiting=[]
 la:D.a<D.sp
 k1:D.sp<D.m1
 k2:D.sp<D.m2
 k3:D.sp<D.m3
abbrev hmV (D:Sid):CV:=.lst (((List.range D.rows.length).map (rt D.S.par)).map nV)
structure LV (D:LD) (ρ:Loc):Prop where
 r2:ρ 2=some (.ref D.x.h)
 r3:ρ 3=some (.ref D.x.b)
 r5:ρ 5=some (.ref D.y.h)
 r6:ρ 6=some (.ref D.y.b)
 r8:ρ 8=some (.lst [D.x.v,D.y.v])
 r9:ρ 9=some (hmV D.x)
 r10:ρ 10=some (hmV D.y)
 r11:ρ 11=some (.dct (knV D.x.A))
 r12:ρ 12=some (.dct (knV D.y.A))
 r13:ρ 13=some (.ref D.a)
 r14:ρ 14=some (.ref D.sp)
 r15:ρ 15=some (.ref D.m1)
 r16:ρ 16=some (.ref D.m2)
 r17:ρ 17=some (.ref D.m3)
structure Spots (D:LD) (P:Pr→Prop) (m:Nat) (τ:CSt) (l:List (Pr×Option Nat)):Prop where
 d:∃ep,τ[D.sp]?=some (.dict (dm pairN pV l) ep)
 ok:∀p∈l,p.2=dget D.M.nums p.1
 len:l.length≤m
 cov:∀q,P q→q∈l.map (·.1)
structure Lg (D:LD) (P:Pr→Prop) (m:Nat) (τ:CSt):Prop extends LOk D τ where
 s:∃l,Spots D P m τ l
section
variable {D:LD} {X Y:Sid} {τ τ':CSt} {ρ ρ':Loc} {Q:Nat→Prop} {P P':Pr→Prop} {sp sp' m i j d a:Nat} {q:Pr} {l:List (Pr×Option Nat)} {o:Option Nat} {r:Row} {c:Nat}
theorem SidOk.frm (K:SidOk sp X τ) (x:Frm Q τ τ') (n:∀a,Q a→sp≤a):SidOk sp X τ':=
 have n:∀a,a=X.b∨Own X.h X.S a→¬Q a:=fun a o q=>Nat.not_lt_of_le (n a q) (K.lo a o)
 {K with H:=K.H.frm x fun a o=>n a (.inr o),row:=x.keep _ _ K.row (n _ (.inl rfl)) }
theorem SidOk.items (K:SidOk sp X τ):(c,r)∈itemsL X.S↔(r,c)∈X.A:=by
 have pl:=K.O.len K.H
 rw [mem_itemsL K.H,K.hA,mem_headL]
 constructor
 ·rintro ⟨x,hx,e1,e2⟩
  refine K.H.rowAt hx fun s hr=>?_
  exact ⟨x,s,K.O.rw▸hr,by rw [← nodeOf_at hr,e1,e2]⟩
 ·rintro ⟨i,s,hs,e⟩
  have e:=Prod.mk.inj e
  exact ⟨i,pl▸(List.getElem?_eq_some_iff.mp hs).1,e.2.symm,by rw [nodeOf_at (K.O.rw.symm▸hs),e.1]⟩
theorem SidOk.meets (K:SidOk sp X τ) (K':SidOk sp' Y τ'):Meets X.S Y.S X.A Y.A:=
 ⟨K.O.len K.H▸K.O.le,K'.O.len K'.H▸K'.O.le,side_few K.H K.O,side_few K'.H K'.O,K.oA,K'.oA,fun ξ ξ=>K.items,fun ξ ξ=>K'.items⟩
theorem MR.up {σ:CSt} {h1 h2:Nat} {A B:Hd} {M:MSt} {S:HS} (R:MR σ m h1 h2 A B M S) (q:a=m∨Own (m+1) S a∨a=m+16):m≤a:=
 q.elim (fun e=>Nat.le_of_eq e.symm) fun q=>q.elim (fun o=>Nat.le_of_succ_le (R.H.low o)) fun e=>e▸Nat.le_add_right _ _
theorem LOk.frm (L:LOk D τ) (x:Frm (fun a=>a=D.sp) τ τ'):LOk D τ':=
 {L with
  X:=L.X.frm x fun ξ=>Nat.le_of_eq∘Eq.symm,Y:=L.Y.frm x fun ξ=>Nat.le_of_eq∘Eq.symm
  shd:=(by obtain ⟨ep,e⟩:=L.shd;exact ⟨ep,x.keep _ _ e (Nat.ne_of_lt L.la)⟩)
  R1:=L.R1.frm x fun ξ q=>Nat.ne_of_gt (Nat.lt_of_lt_of_le L.k1 (L.R1.up q))
  R2:=L.R2.frm x fun ξ q=>Nat.ne_of_gt (Nat.lt_of_lt_of_le L.k2 (L.R2.up q))
  R3:=L.R3.frm x fun ξ q=>Nat.ne_of_gt (Nat.lt_of_lt_of_le L.k3 (L.R3.up q)) }
theorem LOk.D1 (L:LOk D τ):MDone D.x.A D.y.A D.M:=(L.X.meets L.Y).laps
theorem LOk.D2 (L:LOk D τ):MDone D.y.A D.x.A D.M':=(L.Y.meets L.X).laps
theorem LV.upd (V:LV D ρ) (h:Keep 18 ρ ρ'):LV D ρ':=
 ⟨(h _ rfl).trans V.r2,(h _ rfl).trans V.r3,(h _ rfl).trans V.r5,(h _ rfl).trans V.r6,(h _ rfl).trans V.r8,(h _ rfl).trans V.r9,(h _ rfl).trans V.r10,(h _ rfl).trans V.r11,(h _ rfl).trans V.r12,(h _ rfl).trans V.r13,(h _ rfl).trans V.r14,(h _ rfl).trans V.r15,(h _ rfl).trans V.r16,(h _ rfl).trans V.r17⟩
theorem Lg.mono (G:Lg D P m τ) (h:∀q,P' q→P q):Lg D P' m τ:={ G with s:=(by obtain ⟨l,s⟩:=G.s;exact ⟨l,{ s with cov:=fun q p=>s.cov q (h q p) }⟩ )}
theorem Lg.frm (G:Lg D P m τ) (x:Frm (fun ξ=>False) τ τ'):Lg D P m τ':=
 {G.toLOk.frm (x.mono fun ξ ξ q=>q.elim) with s:=(by obtain ⟨l,s⟩:=G.s;exact ⟨l,{ s with d:=(by obtain ⟨ep,e⟩:=s.d;exact ⟨ep,x.keep _ _ e id⟩ )}⟩ )}
theorem Spots.get (s:Spots D P m τ l) (h:P q):dget l q=some (dget D.M.nums q):=by
 have:=dget_key.mpr (s.cov q h)
 cases e:dget l q with
 | none=>rw [e] at this;cases this
 | some o=>exact congrArg some (s.ok _ (dget_mem e))
theorem ge0:CmpD d .ge (pV o) (.int 0) o.isSome τ:=by
 cases o with
 | none=>exact .ge
 | some n=>exact .to .ge (decide_eq_true (Int.natCast_nonneg n))
theorem ne_same:CmpD d .ne (pV o) (pV o) false τ:=by
 cases o with
 | none=>exact .to (.ne (peq_dat (a:=.int (-1)) (b:=.int (-1)) rfl rfl (Nat.zero_le _) (Nat.zero_le _))) (by rw [decide_eq_true rfl];rfl)
 | some n=>exact .to ne_nat (by rw [decide_eq_true rfl];rfl)
theorem hm_at {f:Nat→Nat} {n:Nat} (h:i<n):gAt ((List.range n).map f) i=f i:=by
 unfold gAt
 rw [List.getD_eq_getElem?_getD,List.getElem?_map,List.getElem?_range h];rfl
theorem Does.hm {v:Nat} {e:CE} (hv:ρ v=some (hmV X)) (S:Does d e ρ τ (nV i) τ) (hi:i<X.rows.length) (O:X.rows.length≤5):Does d (.sub (.var v) e) ρ τ (nV (rt X.S.par i)) τ:=
 have l:((List.range X.rows.length).map (rt X.S.par)).length=X.rows.length:=(List.length_map _).trans List.length_range
 .to (.lstN hv S (l.symm▸hi) (l.symm▸Nat.le_trans O (by decide))) (congrArg nV (hm_at hi))
end
abbrev ckA:CS:=.assignT [20,21] (.tup [.umeth (.var 15) 21 [.var 18,.var 19],.tup [.sub (.var 9) (.var 18),.sub (.var 10) (.var 19)]])
abbrev ckB:CS:=.ite (.bop false [.cmp .isNot (.cmp .ge (.var 20) (.int 0)) (.cmp .isin (.var 21) (.var 13)),.cmp .ne (.bmeth (.var 14) .setdefault [.var 21,.var 20]) (.var 20),.cmp .ne (.umeth (.var 17) 21 [.var 18,.var 19]) (.var 20)]) [.ret (.bool false)] []
abbrev ckC:CS:=.ite (.cmp .isNot (.cmp .ge (.umeth (.var 16) 21 [.var 19,.var 18]) (.int 0)) (.cmp .ge (.var 20) (.int 0))) [.ret (.bool false)] []
section
variable {D:LD} {τ τ':CSt} {ρ ρ':Loc} {P:Pr→Prop} {m i j d:Nat} {q:Pr}
theorem Keep.le {n k:Nat} (h:Keep n ρ ρ') (l:Nat.ble k n=true):Keep k ρ ρ':=fun x lt=>h x (blt_of lt l)
abbrev prAt (D:LD) (i j:Nat):Pr:=(rt D.x.S.par i,rt D.y.S.par j)
theorem Spots.set {l:List (Pr×Option Nat)} (L:LOk D τ) (s:Spots D P m τ l) (hm:m<BIG) (r14:ρ 14=some (.ref D.sp)) (r20:ρ 20=some (pV (dget D.M.nums q))) (r21:ρ 21=some (pairN q)) {zz:Prop} (kk:∀τ',Does d (.bmeth (.var 14) .setdefault [.var 21,.var 20]) ρ τ (pV (dget D.M.nums q)) τ'→Lg D (fun x=>P x∨x=q) (m+1) τ'→zz):zz:=by
 obtain ⟨ep,hd⟩:=s.d
 have hz:(dm pairN pV l).length≤BIG:=Nat.le_trans (Nat.le_of_eq (List.length_map _)) (Nat.le_trans s.len (Nat.le_of_lt hm))
 cases e:dget l q with
 | some o=>
  have ho:o=dget D.M.nums q:=s.ok _ (dget_mem e)
  exact kk τ (.bmeth .setdefault (.var r14) (.dict hd) (.cons (.var r21) (.one (.var r20))) (.setdefault1 hd keyF_pair.kin hz (by rw [keyF_pair.find,e,← ho];rfl))) { L with s:=⟨l,{ s with len:=Nat.le_succ_of_le s.len,cov:=fun x h=>h.elim (s.cov x) fun e'=>e'▸dget_key.mp (by rw [e];rfl) }⟩ }
 | none=>
  have b:=BmC.setdefault0 (d:=d) (v:=pV (dget D.M.nums q)) hd (keyF_pair.kin (a:=q)) hz (by rw [keyF_pair.find,e];rfl)
  refine kk _ (.bmeth .setdefault (.var r14) (.dict hd) (.cons (.var r21) (.one (.var r20))) b) { L.frm (.set rfl) with s:=⟨l++[(q,dget D.M.nums q)],⟨ep+1,?_⟩,fun p mp=>(List.mem_append.mp mp).elim (s.ok p) fun mp=>List.mem_singleton.mp mp▸rfl,by rw [List.length_append];exact Nat.succ_le_succ s.len,fun x h=>?_⟩ }
  ·rw [get_set hd];unfold dm;rw [List.map_append];rfl
  ·rw [List.map_append]
   exact h.elim (fun h=>List.mem_append_left _ (s.cov x h)) fun e=>List.mem_append_right _ (List.mem_singleton.mpr e)
theorem ck_one (G:Lg D P m τ) (V:LV D ρ) (hi:i<D.x.rows.length) (hj:j<D.y.rows.length) (r18:ρ 18=some (nV i)) (r19:ρ 19=some (nV j)) (hm:m≤1000) {zz:Prop} (kk:∀ρ' τ',RunD (d+3) [ckA,ckB,ckC] ρ τ .next ρ' τ'→Lg D (fun x=>P x∨x=prAt D i j) (m+1) τ'→Keep 20 ρ ρ'→zz):zz:=by
 have L:=G.toLOk
 obtain ⟨l,s⟩:=G.s
 obtain ⟨eps,hsh⟩:=L.shd
 have cl:∀{m S τ'},MR τ' m D.x.h D.y.h D.x.A D.y.A D.M S→LOk D τ'→Calls (d+3) 32 [.ref m,nV i,nV j] τ' (pV (dget D.M.nums (prAt D i j))) τ':=fun R L'=>meet_class R L'.X.H L'.Y.H (L'.X.O.len L'.X.H▸hi) (L'.Y.O.len L'.Y.H▸hj)
 have eA:ExD (d+3) ckA ρ τ .next (upd (upd ρ 20 (pV (dget D.M.nums (prAt D i j)))) 21 (pairN (prAt D i j))) τ:=
  .assignT (.tup (.cons (.umeth (.var V.r15) L.R1.i rfl (.cons (.var r18) (.one (.var r19))) (cl L.R1 L)) (.one (.tup (.cons (.hm V.r9 (.var r18) hi L.X.O.le) (.one (.hm V.r10 (.var r19) hj L.Y.O.le))) rfl))) rfl) rfl rfl
 have k20:Keep 20 ρ (upd (upd ρ 20 (pV (dget D.M.nums (prAt D i j)))) 21 (pairN (prAt D i j))):=(Keep.refl.upd rfl).upd rfl
 have r20:upd (upd ρ 20 (pV (dget D.M.nums (prAt D i j)))) 21 (pairN (prAt D i j)) 20=some (pV (dget D.M.nums (prAt D i j))):=rfl
 have r21:upd (upd ρ 20 (pV (dget D.M.nums (prAt D i j)))) 21 (pairN (prAt D i j)) 21=some (pairN (prAt D i j)):=rfl
 generalize upd (upd ρ 20 (pV (dget D.M.nums (prAt D i j)))) 21 (pairN (prAt D i j))=ρ₁ at eA k20 r20 r21
 have V1:=V.upd (k20.le rfl)
 have osh:(dget D.M.nums (prAt D i j)).isSome=decide (prAt D i j∈D.sh):=by
  rw [Bool.eq_iff_iff,L.D1.iff L.X.oA L.Y.oA,decide_eq_true_eq,L.shi]
 have osw:(dget D.M'.nums (rt D.y.S.par j,rt D.x.S.par i)).isSome=(dget D.M.nums (prAt D i j)).isSome:=by
  rw [Bool.eq_iff_iff,L.D1.iff L.X.oA L.Y.oA,L.D2.iff L.Y.oA L.X.oA]
  exact ⟨Sh.swap,Sh.swap⟩
 refine s.set (d:=d+3) L (Nat.lt_of_le_of_lt hm (by decide)) V1.r14 r20 r21 fun τ₂ e2 G2=>?_
 have L2:=G2.toLOk
 have c18:=(k20 18 rfl).trans r18
 have c19:=(k20 19 rfl).trans r19
 have eB:ExD (d+3) ckB ρ₁ τ .next ρ₁ τ₂:=.skip (.bop (.cons (.to (.cmp (.cmp (.var r20) .int ge0) (.cmp (.var r21) (.var V1.r13) (.isinK (ofDict hsh) keyF_pair.kin)) .isNotB) (by rw [sh_has,osh];exact bne_self_eq_false _)) (.cons (.cmp e2 (.var r20) ne_same) (.cons (.cmp (.umeth (.var V1.r17) L2.R3.i rfl (.cons (.var c18) (.one (.var c19))) (cl L2.R3 L2)) (.var r20) ne_same) .nil))))
 have eC:ExD (d+3) ckC ρ₁ τ₂ .next ρ₁ τ₂:=.skip (.to (.cmp (.cmp (.umeth (.var V1.r16) L2.R2.i rfl (.cons (.var c19) (.one (.var c18))) (meet_class L2.R2 L2.Y.H L2.X.H (L.Y.O.len L.Y.H▸hj) (L.X.O.len L.X.H▸hi))) .int ge0) (.cmp (.var r20) .int ge0) .isNotB) (by rw [osw];exact bne_self_eq_false _))
 exact kk ρ₁ τ₂ (.next eA (.next eB (.next eC .nil))) G2 k20
theorem ck_row (G:Lg D P m τ) (V:LV D ρ) (hi:i<D.x.rows.length) (r18:ρ 18=some (nV i)) (hm:m≤900) {zz:Prop} (kk:∀ρ' τ',ExD (d+3) (.for [19] true .range [.bi .len (.var 6)] [ckA,ckB,ckC]) ρ τ .next ρ' τ'→Lg D (fun x=>P x∨∃j,j<D.y.rows.length∧x=prAt D i j) (m+D.y.rows.length) τ'→Keep 19 ρ ρ'→zz):zz:=by
 have le:=G.Y.O.le
 refine ForD.upto (d:=d+3) (so:=none) (one:=true) (ts:=[19]) (n:=D.y.rows.length) (ρ:=ρ) (σ:=τ) (body:=[ckA,ckB,ckC])
  (fun n ρ' τ'=>Lg D (fun x=>P x∨∃j,j<n∧x=prAt D i j) (m+n) τ'∧Keep 19 ρ ρ') (fun ξ ξ ξ ξ=>trivial)
  (fun n ρ₁ τ₁ hn w147 zz kk=>by
   obtain ⟨j1,j2⟩:=w147
   refine ck_one (d:=d) (ρ:=upd ρ₁ 19 (nV n)) j1 (V.upd ((j2.upd rfl).le rfl)) hi hn ((j2 18 rfl).trans r18) rfl (by lia) fun ρ₂ τ₂ a1 a2 a3=>?_
   exact kk _ ρ₂ τ₂ rfl a1 ⟨a2.mono fun q h=>h.elim (fun h=>.inl (.inl h)) fun w146=>by obtain ⟨j,hj,e⟩:=w146;exact lt_snoc hj (fun l=>.inl (.inr ⟨j,l,e⟩)) fun z=>.inr (z▸e),(j2.upd rfl).trans a3 rfl⟩)
  ⟨G.mono fun q h=>h.elim id fun w145=>by obtain ⟨ξ,h,ξ⟩:=w145;exact absurd h (Nat.not_lt_zero _),.refl⟩ fun ρ' τ' F u5=>?_
 obtain ⟨j1,j2⟩:=u5
 exact kk ρ' τ' (.for (.rangeN (.len (.var V.r6) (ofSeq G.Y.row) (List.length_map _) (big le rfl)) (bigS le rfl)) F) j1 j2
theorem ck_all (G:Lg D (fun ξ=>False) 0 τ) (V:LV D ρ) {zz:Prop} (kk:∀ρ' τ',ExD (d+3) (.for [18] true .range [.bi .len (.var 3)] [.for [19] true .range [.bi .len (.var 6)] [ckA,ckB,ckC]]) ρ τ .next ρ' τ'→Lg D (fun x=>∃i,i<D.x.rows.length∧∃j,j<D.y.rows.length∧x=prAt D i j) (D.x.rows.length*D.y.rows.length) τ'→Keep 18 ρ ρ'→zz):zz:=by
 have le:=G.X.O.le
 have le':=G.Y.O.le
 refine ForD.upto (d:=d+3) (so:=none) (one:=true) (ts:=[18]) (n:=D.x.rows.length) (ρ:=ρ) (σ:=τ) (body:=[.for [19] true .range [.bi .len (.var 6)] [ckA,ckB,ckC]])
  (fun n ρ' τ'=>Lg D (fun x=>∃i,i<n∧∃j,j<D.y.rows.length∧x=prAt D i j) (n*D.y.rows.length) τ'∧Keep 18 ρ ρ') (fun ξ ξ ξ ξ=>trivial)
  (fun n ρ₁ τ₁ hn w144 zz kk=>by
   obtain ⟨j1,j2⟩:=w144
   refine ck_row (d:=d) (ρ:=upd ρ₁ 18 (nV n)) j1 (V.upd (j2.upd rfl)) hn rfl (Nat.le_trans (Nat.mul_le_mul (Nat.le_trans (Nat.le_of_lt hn) le) le') (by decide)) fun ρ₂ τ₂ a1 a2 a3=>?_
   refine kk _ ρ₂ τ₂ rfl (.next a1 .nil) ⟨?_,(j2.upd rfl).trans a3 rfl⟩
   rw [Nat.succ_mul]
   exact a2.mono fun q w143=>by obtain ⟨i,hi,h⟩:=w143;exact lt_snoc hi (fun l=>.inl ⟨i,l,h⟩) fun e=>.inr (e▸h))
  ⟨by rw [Nat.zero_mul];exact G.mono fun q w142=>by obtain ⟨ξ,h,ξ⟩:=w142;exact absurd h (Nat.not_lt_zero _),.refl⟩ fun ρ' τ' F u4=>?_
 obtain ⟨j1,j2⟩:=u4
 exact kk ρ' τ' (.for (.rangeN (.len (.var V.r3) (ofSeq G.X.row) (List.length_map _) (big le rfl)) (bigS le rfl)) F) j1 j2
end
abbrev PA (D:LD) (x:Pr):Prop:=∃i,i<D.x.rows.length∧∃j,j<D.y.rows.length∧x=prAt D i j
abbrev ckD:CS:=.ite (.cmp .ne (.bi .sorted (.comp false (.gen [21] true .val [.var 13] [] (.elt (.sub (.var 14) (.var 21)))))) (.umeth (.attr (.var 15) 16) 10 [])) [.ret (.bool false)] []
abbrev prE:CE:=.tup [.call 38 [.var 22,.var 11],.call 38 [.var 22,.var 12]]
abbrev ckF:CS:=.ite (.cmp .ne (.call 39 [.attr (.var 15) 16,.var 22]) (.ite (.cmp .isin .none (.var 21)) (.neg (.int 1)) (.sub (.var 14) (.var 21)))) [.ret (.bool false)] []
abbrev ckH:CS:=.ite (.cmp .ne (.bmeth (.var 14) .get [prE,.neg (.int 1)]) (.umeth (.attr (.var 15) 16) 7 [.var 23])) [.ret (.bool false)] []
abbrev ckG:CS:=.assign 22 (.umeth (.attr (.attr (.var 15) 16) 7) 5 [.var 23])
abbrev statE:CE:=.lst [.call 41 [.var 2],.call 41 [.var 5]]
section
variable {D:LD} {τ τ':CSt} {ρ ρ':Loc} {m i j d sp c c' n:Nat} {q:Pr} {X:Sid} {r s:Row} {t:Tm}
theorem SidOk.cls (K:SidOk sp X τ) (h:(r,c)∈X.A) {zz:Prop} (kk:∀i,i<X.rows.length→c=rt X.S.par i→zz):zz:=by
 obtain ⟨i,_,hi,e⟩:=mem_headL.mp ((K.hA _).mp h)
 exact kk i ((List.getElem?_eq_some_iff.mp hi).1) (congrArg Prod.snd e)
theorem LOk.pa (L:LOk D τ) (h:(r,c)∈D.x.A) (h':(s,c')∈D.y.A):PA D (c,c'):=
 L.X.cls h fun i a e=>L.Y.cls h' fun j b e'=>⟨i,a,j,b,Prod.ext e e'⟩
theorem Lg.sub {e:CE} (G:Lg D (PA D) m τ) (h:PA D q) (r14:ρ 14=some (.ref D.sp)) (S:Does d e ρ τ (pairN q) τ):Does d (.sub (.var 14) e) ρ τ (pV (dget D.M.nums q)) τ:=by
 obtain ⟨_,s⟩:=G.s
 obtain ⟨_,hd⟩:=s.d
 exact .sub (.var r14) S (.dict (ofDict hd) keyF_pair.kin (by rw [keyF_pair.find,s.get h];rfl))
theorem LOk.heap (L:LOk D τ) (V:LV D ρ):Does d (.attr (.var 15) 16) ρ τ (.ref (D.m1+1)) τ:=.fld V.r15 L.R1.i rfl rfl
theorem ck_sorted (G:Lg D (PA D) m τ) (V:LV D ρ):ExD (d+3) ckD ρ τ .next ρ τ:=by
 have L:=G.toLOk
 have R:=L.R1
 obtain ⟨eps,hsh⟩:=L.shd
 have nm:∀q∈D.sh,dget D.M.nums q=some (D.M.num q):=fun q m=>some_num ((L.D1.iff L.X.oA L.Y.oA).mpr ((L.shi q).mp m))
 have pa:∀q∈D.sh,PA D q:=fun q mq=>by
  cases (L.shi q).mp mq with
  | up r c s d ha hb=>exact L.pa ha hb
 have nd:(D.sh.map D.M.num).Nodup:=List.pairwise_map.mpr (List.Pairwise.imp_of_mem (fun {x y} mx my ne e=>ne (by rw [← (R.ok.num x _ (nm x mx)).2,e,(R.ok.num y _ (nm y my)).2])) L.shn)
 have pl:=R.pl
 have pr:(rootsL D.S3.par).Perm (D.sh.map D.M.num):=(List.perm_ext_iff_of_nodup (List.nodup_range.filter _) nd).mpr fun x=>(mem_roots (S:=D.S3)).trans ⟨fun w150=>by
  obtain ⟨l,e⟩:=w150
  have h:=R.rtN (n:=x) (pl▸l)
  rw [rt_self e] at h
  exact List.mem_map.mpr ⟨D.M.pi x,(L.shi _).mpr ((L.D1.iff L.X.oA L.Y.oA).mp (by rw [h];rfl)),by show (dget _ _).getD 0=x;rw [h];rfl⟩,fun m=>by
  obtain ⟨q,mq,e⟩:=List.mem_map.mp m
  have h:=nm q mq
  have l:D.M.num q<D.S3.par.length:=pl▸(R.ok.num q _ h).1
  have:=rt_root R.H.U.ok _ l
  rw [R.root h] at this
  exact e▸⟨l,this⟩⟩
 have sl:=pr.length_eq▸Nat.le_trans (List.length_filter_le _ _) (by rw [List.length_range,pl];exact L.D1.le L.X.oA L.Y.oA)
 exact .skip (.to (.cmp (.bi (.cmap (so:=some (D.a,.dict (shV D.sh) eps)) (l:=D.sh) (fi:=pairN) (go:=fun q=>nV (D.M.num q)) (by
  have w:=WalkD.dict (d:=d+3) hsh
  rw [st_ks] at w
  exact .val (.var V.r13) w) hsh (by rw [List.length_map] at sl;exact big sl rfl) fun q mq=>.to (G.sub (pa q mq) V.r14 (.var rfl)) (by rw [nm q mq];rfl)) (.sorted (r:=(rootsL D.S3.par).map nV) (by
  have:=SortsTo.nats nd (Nat.lt_of_le_of_lt sl (by decide)) pr (List.pairwise_lt_range.filter _)
  rw [List.map_map] at this;exact this) rfl)) (.umeth (L.heap V) R.H.i rfl .nil (heap_classes R.H)) (.ne peq_nats)) (by rw [decide_eq_true rfl];rfl))
theorem ck_pair (L:LOk D τ) (V:LV D ρ) (hd:t.dep≤d) (r22:ρ 22=some (tmV' t)):Does d prE ρ τ (.tup ([tcl D.x.A t,tcl D.y.A t].map oV)) τ:=
 .tup (.cons (.call (.cons (.var r22) (.one (.var V.r11))) (law_class L.X.oA t d hd)) (.one (.call (.cons (.var r22) (.one (.var V.r12))) (law_class L.Y.oA t d hd)))) rfl
theorem ck_term (G:Lg D (PA D) m τ) (V:LV D ρ) (hd:t.dep≤d) (r22:ρ 22=some (tmV' t)) {zz:Prop} (kk:∀ρ',RunD (d+3) [.assign 21 prE,ckF] ρ τ .next ρ' τ→Keep 18 ρ ρ'→zz):zz:=by
 have L:=G.toLOk
 have e1:=ExD.assign (i:=21) (ck_pair (d:=d+3) L V (Nat.le_add_right_of_le hd) r22) rfl
 have kp:Keep 18 ρ (upd ρ 21 (.tup ([tcl D.x.A t,tcl D.y.A t].map oV))):=Keep.refl.upd rfl
 have q21:upd ρ 21 (.tup ([tcl D.x.A t,tcl D.y.A t].map oV)) 21=some (.tup ([tcl D.x.A t,tcl D.y.A t].map oV)):=rfl
 have q22:upd ρ 21 (.tup ([tcl D.x.A t,tcl D.y.A t].map oV)) 22=some (tmV' t):=r22
 generalize upd ρ 21 (.tup ([tcl D.x.A t,tcl D.y.A t].map oV))=ρ₁ at e1 kp q21 q22
 have V1:=V.upd kp
 have T:=opt_in (d:=d+3) (σ:=τ) (v:=.none) (b:=.tup ([tcl D.x.A t,tcl D.y.A t].map oV)) (os:=[tcl D.x.A t,tcl D.y.A t]) rfl rfl (Nat.zero_le _) rfl oV_none
 have er:Does (d+3) (.ite (.cmp .isin .none (.var 21)) (.neg (.int 1)) (.sub (.var 14) (.var 21))) ρ₁ τ (pV (plO D.M D.x.A D.y.A t)) τ:=by
  by_cases n:none∈[tcl D.x.A t,tcl D.y.A t]
  ·rw [(plO_none L.D1 L.X.oA L.Y.oA).mpr ((List.mem_cons.mp n).imp Eq.symm fun h=>(List.mem_singleton.mp h).symm)]
   exact .ite (i:=true) (.cmp .nil (.var q21) (.to T (decide_eq_true n))) (.neg .int)
  ·cases a:tcl D.x.A t with
   | none=>exact absurd (a▸.head _) n
   | some c=>cases b:tcl D.y.A t with
    | none=>exact absurd (b▸.tail _ (.head _)) n
    | some c'=>
     rw [plO_some a b]
     refine .ite (i:=false) (.cmp .nil (.var q21) (.to T (decide_eq_false n))) (G.sub (L.pa (cls_some a).2 (cls_some b).2) V1.r14 (.var ?_))
     rw [q21,a,b];rfl
 exact kk ρ₁ (.next e1 (.next (.skip (.cmp (.call (.cons (L.heap V1) (.one (.var q22))) (law_place L.X.oA L.Y.oA L.R1 L.D1 L.w t d hd)) er ne_same)) .nil)) kp
theorem ck_terms (hd:5≤d) (G:Lg D (PA D) m τ) (V:LV D ρ) {zz:Prop} (kk:∀ρ' τ',ExD (d+3) (.for [22] true .val [.call 40 []] [.assign 21 prE,ckF]) ρ τ .next ρ' τ'→Lg D (PA D) m τ'→Keep 18 ρ ρ'→zz):zz:=by
 refine law_terms (d:=d+2) (σ:=τ) fun τ' t1 t2=>?_
 have G':=G.frm t2
 refine ForD.each (d:=d+3) (so:=none) (one:=true) (ts:=[22]) (f:=tmV') (l:=termsT) (ρ:=ρ) (σ:=τ') (body:=[.assign 21 prE,ckF]) (fun n ρ' τ₂=>τ₂=τ'∧Keep 18 ρ ρ') (fun ξ ξ ξ ξ=>trivial)
  (fun n t ρ₁ τ₂ ht w149 zz kk=>by
   obtain ⟨e,j⟩:=w149
   subst e
   refine ck_term (d:=d) (ρ:=upd ρ₁ 22 (tmV' t)) G' (V.upd (j.upd rfl)) (Nat.le_trans (terms_ok t (List.mem_of_getElem? ht)) hd) rfl fun ρ₂ a1 a2=>?_
   exact kk _ ρ₂ τ₂ rfl a1 ⟨rfl,(j.upd rfl).trans a2 rfl⟩)
  ⟨rfl,.refl⟩ fun ρ' τ₂ F u7=>?_
 obtain ⟨e,j⟩:=u7
 subst e
 exact kk ρ' τ₂ (.for (.val (.call .nil t1) .lst) F) G' j
theorem dep_le (h:∀k∈t.kids,k.dep≤n):t.dep≤n+1:=by
 cases t with
 | l0=>exact Nat.succ_le_succ (Nat.zero_le _)
 | l1 o t=>exact Nat.succ_le_succ (h t (.head _))
 | l2 o t u=>exact Nat.succ_le_succ (Nat.max_le.mpr ⟨h t (.head _),h u (.tail _ (.head _))⟩)
theorem tcl_row {A:Hd} {f:Nat→Tm} {g:Nat→Nat} (oA:HdOk A) (e1:t.op=r.1) (e2:t.kids=r.2.map f) (h:∀k∈r.2,tcl A (f k)=some (g k)) (mm:((r.1,r.2.map g),c)∈A):tcl A t=some c:=by
 refine cls_of oA (fun k mk=>?_) ?_
 ·rw [e2] at mk
  obtain ⟨x,mx,e⟩:=List.mem_map.mp mk
  exact e▸clsD_of (h x mx)
 ·rw [e1,e2,List.map_map,List.map_congr_left (f:=clsD A∘f) (g:=g) fun k mk=>by show (tcl A (f k)).getD 0=_;rw [h k mk];rfl]
  exact mm
structure NumT (D:LD) (n:Nat) (t:Tm):Prop where
 d:t.dep≤n+1
 a:tcl D.x.A t=some (D.M.pi n).1
 b:tcl D.y.A t=some (D.M.pi n).2
theorem ck_num (hd:26≤d) (G:Lg D (PA D) m τ) (V:LV D ρ) (hn:n<D.M.rows.length) (r23:ρ 23=some (nV n)) {zz:Prop} (kk:∀ρ' τ',RunD (d+3) [ckG,ckH] ρ τ .next ρ' τ'→Lg D (PA D) m τ'→Keep 18 ρ ρ'→zz):zz:=by
 have L:=G.toLOk
 have K:=L.R1.H.K
 refine bank_term (d:=d+1) (P:=NumT D) L.R1.H.B K (fun n r t f hr e1 e2 h=>by
  obtain ⟨p1,p2⟩:=L.R1.ok.prod n r (L.R1.rw▸hr)
  exact ⟨dep_le fun k mk=>by
   rw [e2] at mk
   obtain ⟨x,mx,e⟩:=List.mem_map.mp mk
   exact e▸Nat.le_trans (h x mx).d (K.kids n r hr x mx),tcl_row L.X.oA e1 e2 (fun k mk=>(h k mk).a) p1,tcl_row L.Y.oA e1 e2 (fun k mk=>(h k mk).b) p2⟩) (L.R1.rw.symm▸hn:n<D.S3.rows.length) fun τ' t t1 t2 t3=>?_
 have G':=G.frm t3
 have L':=G'.toLOk
 obtain ⟨l,s⟩:=G'.s
 obtain ⟨ep,hd'⟩:=s.d
 have V1:=V.upd (Keep.refl.upd rfl:Keep 18 ρ (upd ρ 22 (tmV' t)))
 have g:=BmC.get2 (d:=d+3) (v:=.int (-1)) (ofDict hd') (keyF_pair.kin (a:=D.M.pi n))
 rw [keyF_pair.find,s.get (L.pa (cls_some t2.a).2 (cls_some t2.b).2),L.R1.rtN hn] at g
 have ep:Does (d+3) prE (upd ρ 22 (tmV' t)) τ' (pairN (D.M.pi n)) τ':=.to (ck_pair L' V1 (Nat.le_trans t2.d (Nat.le_trans hn (Nat.le_trans (L.D1.le L.X.oA L.Y.oA) (Nat.le_add_right_of_le (Nat.le_of_succ_le hd))))) rfl) (by rw [t2.a,t2.b];rfl)
 exact kk _ τ' (.next (.assign (.umeth (.attr (L.heap V) L.R1.H.i rfl rfl) L.R1.H.B.i rfl (.one (.var r23)) t1) rfl) (.next (.skip (.cmp (.bmeth .get (.var V1.r14) (.dict hd') (.cons ep (.one (.neg .int))) g) (.umeth (L'.heap V1) L'.R1.H.i rfl (.one (.var r23)) (heap_find L'.R1.H (L'.R1.pl▸hn))) (ne_same (o:=some _)))) .nil)) G' (Keep.refl.upd rfl)
theorem ck_nums (hd:26≤d) (G:Lg D (PA D) m τ) (V:LV D ρ) {zz:Prop} (kk:∀ρ' τ',ExD (d+3) (.for [23] true .range [.umeth (.attr (.var 15) 16) 0 []] [ckG,ckH]) ρ τ .next ρ' τ'→Lg D (PA D) m τ'→Keep 18 ρ ρ'→zz):zz:=by
 have L:=G.toLOk
 have le:=L.D1.le L.X.oA L.Y.oA
 refine ForD.upto (d:=d+3) (so:=none) (one:=true) (ts:=[23]) (n:=D.M.rows.length) (ρ:=ρ) (σ:=τ) (body:=[ckG,ckH]) (fun n ρ' τ'=>Lg D (PA D) m τ'∧Keep 18 ρ ρ') (fun ξ ξ ξ ξ=>trivial)
  (fun n ρ₁ τ₁ hn w148 zz kk=>by
   obtain ⟨j1,j2⟩:=w148
   refine ck_num hd (ρ:=upd ρ₁ 23 (nV n)) j1 (V.upd (j2.upd rfl)) hn rfl fun ρ₂ τ₂ a1 a2 a3=>?_
   exact kk _ ρ₂ τ₂ rfl a1 ⟨a2,(j2.upd rfl).trans a3 rfl⟩)
  ⟨G,.refl⟩ fun ρ' τ' F u6=>?_
 obtain ⟨j1,j2⟩:=u6
 exact kk ρ' τ' (.for (.rangeN (.to (.umeth (L.heap V) L.R1.H.i rfl .nil (heap_size L.R1.H)) (congrArg nV L.R1.pl)) (bigS le rfl)) F) j1 j2
theorem LOk.states (L:LOk D τ) (r2:ρ 2=some (.ref D.x.h)) (r5:ρ 5=some (.ref D.y.h)):Does (d+3) statE ρ τ (.lst [D.x.v,D.y.v]) τ:=
 .lst (.cons (.call (.one (.var r2)) (L.X.e L.X.H)) (.one (.call (.one (.var r5)) (L.Y.e L.Y.H)))) rfl
theorem law_end (hd:26≤d) (G:Lg D (fun ξ=>False) 0 τ) (V:LV D ρ) {zz:Prop} (kk:∀ρ' τ',RunD (d+3) (b_law.drop 8) ρ τ (.ret (.bool true)) ρ' τ'→zz):zz:=by
 refine ck_all (d:=d) G V fun ρ₁ τ₁ a1 a2 a3=>?_
 have V1:=V.upd a3
 refine ck_terms (d:=d) (Nat.le_trans (by decide) hd) a2 V1 fun ρ₂ τ₂ b1 b2 b3=>?_
 have V2:=V1.upd b3
 refine ck_nums hd b2 V2 fun ρ₃ τ₃ c1 c2 c3=>?_
 have V3:=V2.upd c3
 have dd:=(flat.cons c2.X.d (.cons c2.Y.d .nil)).lst (Nat.lt_succ_self _)
 have d64:=Nat.le_trans dd.2 (by decide:11≤64)
 exact kk ρ₃ τ₃ (.next a1 (.next (ck_sorted a2 V1) (.next b1 (.next c1 (.ret (.to (.cmp (c2.states V3.r2 V3.r5) (.var V3.r8) (.eq (peq_dat dd.1 dd.1 d64 d64))) (by rw [decide_eq_true rfl])))))))
end
structure Sid0 (σ:CSt) (h b p:Nat) (rows:List Row) (pairs:List (Nat×Nat)) (S:HS):Prop where
 H:HR σ h S
 O:SideOk rows pairs S
 r:σ[b]?=some (.list (rows.map rowV))
 pr:σ[p]?=some (.list (pairs.map pairN))
 zh:0<h
 zb:0<b
 zp:0<p
section
variable {σ σ':CSt} {ρ:Loc} {rows rows':List Row} {pairs pairs':List (Nat×Nat)} {S S':HS} {hm:List Nat} {d b b' p p' h h' sp sp' ep spot:Nat} {cells:List Int} {u v:CV} {X:Sid}
theorem Sid0.frm (K:Sid0 σ h b p rows pairs S) (x:Frm (fun a=>a=0) σ σ'):Sid0 σ' h b p rows pairs S:=
 {K with H:=K.H.frm x fun ξ o=>Nat.ne_of_gt (Nat.lt_of_lt_of_le K.zh (K.H.low o)),r:=x.keep _ _ K.r (Nat.ne_of_gt K.zb),pr:=x.keep _ _ K.pr (Nat.ne_of_gt K.zp) }
theorem Sid0.still (K:Sid0 σ h b p rows pairs S) (x:Frm (fun ξ=>False) σ σ'):Sid0 σ' h b p rows pairs S:=K.frm (x.mono fun ξ ξ q=>q.elim)
theorem SideR.sid (R:SideR cells ep h σ rows pairs spot p σ' S) (zh:0<h):Sid0 σ' h (h+15) p rows pairs S:=
 ⟨R.H,R.O,R.r,R.p,zh,Nat.succ_pos _,Nat.pos_of_ne_zero fun e=>by have:=R.p;rw [e,R.f] at this;cases this⟩
theorem Sid0.of (K:Sid0 σ h b p rows pairs S) (ok:HomesOk rows pairs hm) (g:Good rows pairs (gAt hm)) (v1:Dat v=true∧dp v≤10) (v2:∀{d τ},HR τ h S→Calls (d+3) 41 [.ref h] τ v τ) {zz:Prop} (kk:∀D:Sid,Calls (d+1) 36 [.ref b,.lst (hm.map nV)] σ (.dct (knV D.A)) σ→SidOk σ.length D σ→D.h=h→D.b=b→D.v=v→hmV D = .lst (hm.map nV)→zz):zz:=by
 have e:=homes_eq K.H K.O ok g
 refine law_heads (d:=d) K.O.R.K ok.len K.r g.1 fun A a1 a2=>?_
 have hg:headL rows (gAt hm)=headL rows (rt S.par):=headL_congr K.O.R.K fun i hi=>homes_are K.H K.O ok g hi
 refine kk ⟨rows,pairs,S,h,b,A,v⟩ a1 ⟨K.H,K.O,K.r,⟨fun p mp=>?_,a2.nd,Nat.le_trans a2.len K.O.le⟩,fun p=>hg▸a2.mem p,v1,v2,fun a o=>o.elim (fun e=>e▸lt_of K.r) K.H.high⟩ rfl rfl rfl (by rw [e])
 obtain ⟨i,r,hr,q⟩:=mem_headL.mp ((a2.mem p).mp mp)
 rw [q]
 exact Nat.le_trans (Nat.le_of_eq (List.length_map _)) (K.O.R.K.w hr)
theorem SidOk.mono (K:SidOk sp X σ) (h:sp≤sp'):SidOk sp' X σ:={ K with lo:=fun a o=>Nat.lt_of_lt_of_le (K.lo a o) h }
theorem SidOk.still (K:SidOk sp X σ) (x:Frm (fun ξ=>False) σ σ'):SidOk sp X σ':=K.frm x fun ξ q=>q.elim
theorem law_mid (K:Sid0 σ h b p rows pairs S) (L:Sid0 σ h' b' p' rows' pairs' S') (u1:Dat u=true∧dp u≤10) (u2:∀{d τ},HR τ h S→Calls (d+3) 41 [.ref h] τ u τ) (v1:Dat v=true∧dp v≤10) (v2:∀{d τ},HR τ h' S'→Calls (d+3) 41 [.ref h'] τ v τ)
  (r2:ρ 2=some (.ref h)) (r3:ρ 3=some (.ref b)) (r4:ρ 4=some (.ref p)) (r5:ρ 5=some (.ref h')) (r6:ρ 6=some (.ref b')) (r7:ρ 7=some (.ref p')) (r8:ρ 8=some (.lst [u,v])) {zz:Prop} (kk:∀ρ' τ',RunD 59 (b_law.drop 4) ρ σ (.ret (.bool true)) ρ' τ'→zz):zz:=by
 refine law_homes (d:=58) K.O.R K.O.le K.O.few K.O.lt K.r K.pr fun hm σ₁ c1 c2 c3 c4=>?_
 have L1:=L.still c4
 refine law_homes (d:=58) L1.O.R L1.O.le L1.O.few L1.O.lt L1.r L1.pr fun hm' σ₂ e1 e2 e3 e4=>?_
 refine ((K.still c4).still e4).of (d:=58) c2 c3 u1 u2 fun X x1 x2 x3 x4 x5 x6=>?_
 refine (L1.still e4).of (d:=58) e2 e3 v1 v2 fun Y y1 y2 y3 y4 y5 y6=>?_
 refine law_shared (d:=58) (σ:=σ₂) x2.oA y2.oA fun σ₃ sh eps m1 m2 m3 m4 m5=>?_
 have f4:Frm (fun ξ=>False) σ₂ (σ₃++[CObj.dict [] 0]):=m5.trans .push
 have X4:=(x2.still f4).mono m5.len
 have Y4:=(y2.still f4).mono m5.len
 have T:=x2.meets y2
 have q2:ρ 2=some (.ref X.h):=x3▸r2
 have q5:ρ 5=some (.ref Y.h):=y3▸r5
 generalize hρ:upd (upd (upd (upd (upd (upd ρ 9 (.lst (hm.map nV))) 10 (.lst (hm'.map nV))) 11 (.dct (knV X.A))) 12 (.dct (knV Y.A))) 13 (.ref σ₂.length)) 14 (.ref σ₃.length)=ρ₄
 have e13:ExD 59 (.assignT [13,14] (.tup [.call 37 [.var 11,.var 12],.newd []])) (upd (upd (upd (upd ρ 9 (.lst (hm.map nV))) 10 (.lst (hm'.map nV))) 11 (.dct (knV X.A))) 12 (.dct (knV Y.A))) σ₂ .next ρ₄ (σ₃++[CObj.dict [] 0]):=hρ▸.assignT (.tup (.cons (.call (.cons (.var rfl) (.one (.var rfl))) m1) (.one .newd0)) rfl) rfl rfl
 refine meet_new (d:=51) (ρ:=ρ₄) (x:=2) (y:=5) (hρ▸q2) (hρ▸q5) T X4.H Y4.H fun σ₅ S3 i1 i2 i3 i4=>?_
 have X5:=X4.still i4
 have Y5:=Y4.still i4
 refine meet_new (d:=51) (ρ:=ρ₄) (x:=5) (y:=2) (hρ▸q5) (hρ▸q2) (y2.meets x2) Y5.H X5.H fun σ₆ S4 j1 j2 ξ j4=>?_
 have X6:=X5.still j4
 have Y6:=Y5.still j4
 refine meet_new (d:=51) (ρ:=ρ₄) (x:=2) (y:=5) (hρ▸q2) (hρ▸q5) T X6.H Y6.H fun σ₇ S5 k1 k2 ξ k4=>?_
 have l4:(σ₃++[CObj.dict [] 0]).length=σ₃.length+1:=List.length_append
 have l5:=i4.len
 have l6:=j4.len
 have f7:Frm (fun ξ=>False) (σ₃++[CObj.dict [] 0]) σ₇:=(i4.trans j4).trans k4
 have G:Lg ⟨X,Y,sh,σ₂.length,σ₃.length,(σ₃++[CObj.dict [] 0]).length,σ₅.length,σ₆.length,S3,S4,S5⟩ (fun ξ=>False) 0 σ₇:=
  {X:=X6.still k4,Y:=Y6.still k4,shd:=⟨eps,f7.keep _ _ (get_app m2) id⟩,shn:=m3,shi:=m4
   R1:=(i2.frm j4 fun ξ ξ q=>q).frm k4 fun ξ ξ q=>q
   R2:=j2.frm k4 fun ξ ξ q=>q
   R3:=k2,w:=i3,la:=lt_of m2
   k1:=l4▸Nat.lt_succ_self _
   k2:=Nat.lt_of_lt_of_le (l4▸Nat.lt_succ_self _) l5
   k3:=Nat.lt_of_lt_of_le (l4▸Nat.lt_succ_self _) (Nat.le_trans l5 l6)
   s:=⟨[],⟨0,f7.keep _ _ get_new id⟩,nofun,Nat.le_refl _,nofun⟩ }
 have V:LV ⟨X,Y,sh,σ₂.length,σ₃.length,(σ₃++[CObj.dict [] 0]).length,σ₅.length,σ₆.length,S3,S4,S5⟩ (upd (upd (upd ρ₄ 15 (.ref (σ₃++[CObj.dict [] 0]).length)) 16 (.ref σ₅.length)) 17 (.ref σ₆.length)):=
  ⟨hρ▸q2,hρ▸x4▸r3,hρ▸q5,hρ▸y4▸r6,hρ▸x5▸y5▸r8,hρ▸congrArg some x6.symm,hρ▸congrArg some y6.symm,hρ▸rfl,hρ▸rfl,hρ▸rfl,hρ▸rfl,rfl,rfl,rfl⟩
 refine law_end (d:=56) (by decide) G V fun ρ' τ' e=>?_
 exact kk ρ' τ' (.next (.assignT (.tup (.cons (.call (.cons (.var r3) (.one (.var r4))) c1) (.one (.call (.cons (.var r6) (.one (.var r7))) e1))) rfl) rfl rfl) (.next (.assignT (.tup (.cons (.call (.cons (.var r3) (.one (.var rfl))) x1) (.one (.call (.cons (.var r6) (.one (.var rfl))) y1))) rfl) rfl rfl) (.next e13 (.next (.assignT (.tup (.cons i1 (.cons j1 (.one k1))) rfl) rfl rfl) e))))
end
theorem dn_feed {a b:CV}:DNew [] 0 [(cS,a),(sS,b)] [(cS,a),(sS,b)] 2:=by
 refine .cons (by kernel_rfl!) rfl ?_
 rw [show setK ([]:List (CV×CV)) cS a=[(cS,a)] from rfl,show hasK ([]:List (CV×CV)) cS=false from rfl]
 refine .cons (by kernel_rfl!) rfl ?_
 rw [show setK [(cS,a)] sS b=[(cS,a),(sS,b)] from if_neg cs_ne,show hasK [(cS,a)] sS=false from (Bool.or_false _).trans (decide_eq_false cs_ne)]
 exact .nil
theorem cleanLaw:∀ns:List Int,ns.length≤63→∃σ',Calls 60 42 [.lst (ns.map .int)] [] (.bool true) σ':=by
 intro ns hn
 have hc:(ns.take 40).length≤40:=Nat.le_trans (Nat.le_of_eq List.length_take) (Nat.min_le_left _ _)
 have l63:(ns.map CV.int).length≤63:=by rw [List.length_map];exact hn
 have tk:(ns.map CV.int).take 40=(ns.take 40).map CV.int:=List.map_take.symm
 have sl:Does 59 (.bi .list (.slice (.var 0) none (some 40))) (paramsL 0 [.lst (ns.map .int)]) [] (.lst ((ns.take 40).map .int)) []:=tk▸.bi (b:=.list) (.slL (b:=40) (.var rfl) rfl (big l63 rfl)) (.list rfl (by rw [tk,List.length_map];exact big hc rfl))
 have e1:ExD 59 (.assign 1 (.newd [.str ⟨#[99,101,108,108,115]⟩,.bi .list (.slice (.var 0) none (some 40)),.str ⟨#[115,112,111,116]⟩,.int 0])) (paramsL 0 [.lst (ns.map .int)]) [] .next (upd (paramsL 0 [.lst (ns.map .int)]) 1 (.ref 0)) [feedO (ns.take 40) 0 2]:=
  .assign (.newd (.cons .str sl (.cons .str .int .nil)) dn_feed) rfl
 generalize hρ₁:upd (paramsL 0 [.lst (ns.map .int)]) 1 (.ref 0)=ρ₁ at e1
 refine law_side (d:=53) (cells:=ns.take 40) (spot:=0) (ep:=2) (σ:=[feedO (ns.take 40) 0 2]) rfl hc (Nat.zero_le _) fun rows pairs s1 p σ₁ S a1 a2 R=>?_
 refine law_side (d:=53) R.f hc (Nat.le_trans a2 (by decide)) fun rows' pairs' s2 p' σ₂ S' b1 ξ R'=>?_
 have K:=R.sid (Nat.succ_pos 0)
 have K':=K.frm R'.frm
 have L:=R'.sid (lt_of R.f)
 refine law_state K.H K.O fun u u1 u2=>?_
 refine law_state L.H L.O fun v v1 v2=>?_
 refine law_mid (ρ:=upd (upd (upd (upd (upd (upd (upd ρ₁ 2 (.ref 1)) 3 (.ref (1+15))) 4 (.ref p)) 5 (.ref σ₁.length)) 6 (.ref (σ₁.length+15))) 7 (.ref p')) 8 (.lst [u,v])) K' L u1 u2 v1 v2 rfl rfl rfl rfl rfl rfl rfl fun ρ' τ' e=>?_
 exact ⟨τ',.run rfl rfl (.next e1 (.next (.assignT (.call (.one (.var (hρ₁▸rfl))) a1) rfl rfl) (.next (.assignT (.call (.one (.var (hρ₁▸rfl))) b1) rfl rfl) (.next (.assign (.lst (.cons (.call (.one (.var rfl)) (u2 K'.H)) (.one (.call (.one (.var rfl)) (v2 L.H)))) rfl) rfl) e))))⟩
end
end Mine
end
theorem PySem.Challenge.cw_pq0006_01_holds : PySem.Challenge.rw_pq0006_01.Holds := by
  exact Mine.holds_of (Mine.walk_of Mine.cleanLaw)
