import PyProof.Rows.All
import Wide.Pins
import Wide.Tm
import Wide.OneHead
import Wide.BridgeG
import Wide.Line
import OpenK.Peek
import OpenK.KGet
import OpenK.KMake
import Open.Head
import Open.FastLooks
import Open.Line
import OpenK.KWalk
import Open.FastRun
import Open.FastT9
import KE.BytesMake
import KE.KBytesWalk
import KE.KLam
import KE.KMethU
import KE.KNestM
import KE.KRevIter
import Wide.FinOn
import Lean
import PySem.Challenge.RW_og0112_01
set_option Elab.async false
set_option maxRecDepth 100000
set_option maxHeartbeats 0
set_option tactic.hygienic false
set_option genInjectivity false
set_option genSizeOf false
set_option genCtorIdx false
set_option backward.match.sparseCases false
set_option linter.all false
set_option bootstrap.genMatcherCode false
namespace Mine.Internal
noncomputable section
section
open PySem
set_option tactic.hygienic true
abbrev aa:=@Nat.le_of_ble_eq_true
abbrev ac:=@List.length_cons
abbrev ae:=@List.length_append
abbrev aj:=@Nat.eq_of_beq_eq_true
abbrev am:=@List.mem_cons
abbrev an:=@wpAny_bind
abbrev ao:=@List.length_nil
abbrev aw:=@Nat.le_trans
abbrev ay:=@List.append_assoc
abbrev az:=@Heap.get?_push_of_some
abbrev aB:=@Nat.lt_of_lt_of_le
abbrev aC:=@List.map_cons
abbrev aD:=@Nat.le_refl
abbrev aJ:=@Nat.ne_of_lt
abbrev aM:=@wpAny_mono
abbrev aN:=@Heap.lt_size
abbrev aO:=@List.nodup_append
abbrev aP:=@wpAny_pure
abbrev aQ:=@List.lookup_cons
abbrev aR:=@List.mem_singleton
abbrev aS:=@List.all_eq_true
abbrev aU:=@of_decide_eq_true
abbrev aV:=@Bool.and_eq_true
abbrev aW:=@Array.length_toList
abbrev aX:=@Option.map_eq_some_iff
abbrev aZ:=@List.mem_append_right
abbrev a7:=@Nat.le_of_eq
abbrev a9:=@List.cons_append
abbrev bc:=@absurd
abbrev be:=@Heap.get?_push_size
abbrev bg:=@List.length_map
abbrev bi:=@if_neg
abbrev bj:=@Int.ofNat_eq_natCast
abbrev bk:=@Bool.and_eq_true_iff
abbrev bo:=@Nat.zero_le
abbrev bp:=@Nat.ble_eq_true_of_le
abbrev br:=@if_pos
abbrev bv:=@Bool.or_eq_true_iff
abbrev bz:=@beq_self_eq_true
abbrev bA:=@wpAny_with_toks
abbrev bB:=@List.nil_append
abbrev bG:=@Calls.spliced_cons
abbrev bM:=@Bool.false_ne_true
abbrev bO:=@Nat.not_lt
abbrev bV:=@Nat.succ_le_succ
abbrev bW:=@List.not_mem_nil
abbrev bX:=@List.size_toArray
abbrev bY:=@Nat.lt_of_le_of_lt
abbrev b8:=@beq_eq_false_iff_ne
abbrev cb:=@Nat.le_of_lt
abbrev cf:=@Calls.spliced_nil
abbrev cg:=@List.getElem?_eq_getElem
abbrev cj:=@List.mem_map_of_mem
abbrev cn:=@List.nodup_cons
abbrev cr:=@and_true
abbrev cz:=@List.append_nil
abbrev cC:=@List.length_take
abbrev cD:=@List.length_drop
abbrev cG:=@decide_eq_true_eq
abbrev cH:=@Int.natCast_nonneg
abbrev cI:=@List.mem_map
abbrev df:=@beq_iff_eq
abbrev dj:=@Option.some.inj
abbrev dr:=@Nat.sub_add_cancel
abbrev dR:=@Nat.lt_succ_self
abbrev eB:=@List.mem_append
abbrev eN:=@Nat.lt_irrefl
abbrev eO:=@List.cons.inj
end
section
open PySem PySem.W PyProof.Rows
set_option tactic.hygienic true
section
noncomputable def pg:Program:=PySem.Challenge.pw_og0112_01
def bdy:List Stmt:=behindTheImports pg
def Gu:Env:={scope:=pg.main.scope,locals:=mainNs,globals:=mainNs,cells:=[],code:=.ref 13,frame:=some 14}
def mh:Code:=.body bdy Gu
noncomputable def MU:Obj:={cls:=.type "tuple",data:=.seq #[]}
noncomputable def MV:Obj:={cls:=.none,data:=.fields #[]}
noncomputable def Xc:Obj:={cls:=.type "code",data:=.fields #[.str (Str.ofString "<module>") 182,.str (Str.ofString "<module>") 183,.str (Str.ofString "/claim/cut.py") 184,.int 1 0,.int 0 0,.int 0 0,.int 0 0,
 .int 0 0,.ref 11,.bool false,.int 181 0,.ref 12,.none,.none,.none,.none,.int 185 0,.int 1 0,.str (Str.ofString "/claim/cut.py") 186]}
noncomputable def Xd:Obj:={cls:=.type "frame",slots:=#[some (.ref 13),some (.ref 3),some (.ref 3),none,some (.str (Str.ofString "__main__") 164),none,some (.ref 0)]}
def IY(P:Params):Heap:=⟨⟨[boot_o_0 P,boot_o_1 P,boot_o_2 P,boot_o_3 P,boot_o_4 P,boot_o_5 P,boot_o_6 P,boot_o_7 P,boot_o_8 P,boot_o_9 P,boot_o_10 P,MU,MV,Xc,Xd]⟩,{}⟩
def Oq(P:Params):BT:=.node (boot_o_0 P)
 (.node (boot_o_1 P) (.node (boot_o_3 P) (.node (boot_o_7 P) .nil .nil) (.node MU .nil .nil)) (.node (boot_o_5 P) (.node (boot_o_9 P) .nil .nil) (.node Xc .nil .nil)))
 (.node (boot_o_2 P) (.node (boot_o_4 P) (.node (boot_o_8 P) .nil .nil) (.node MV .nil .nil)) (.node (boot_o_6 P) (.node (boot_o_10 P) .nil .nil) (.node Xd .nil .nil)))
noncomputable def MP:Pos:=⟨0,0,0,0⟩
noncomputable def pEnd:Pos:=⟨892,0,899,136⟩
def S0(w:World)(os:OsState):SharedT:=⟨Oq w.params,15,{},⟨[]⟩,{},187,os⟩
noncomputable def xV:Option Value:=some (.ref 6)
def M6:List Frame:=[topFrame MP]
def qv:Program:=view pg [135]
def lz:List Str:=(pg.main.scope.names.map (·.1)).dropLast
noncomputable def Os:Shared->Bool:=λ_=>true
noncomputable def yv(p:Program)(mods:List Str)(H:Heap)(s:Shared):Bool:=staticsOk mods H s.heap&&namesBound p s.heap&&gensDone s&&laidKept H s.heap
def Ot(yw:SharedT->Bool)(yx:List Nat)(mods:List Str)(H:Heap)(r:Flow×SharedT×Code×Pos):=(r.1,r.2.2,yw r.2.1,yx.map r.2.1.tree.get,yv pg mods H r.2.1.abs,openSeen qv lz mods Os true r.2.1.abs)
def qy(yw:SharedT->Bool)(yx:List Nat)(D:Params->List Obj)(w:World):Prop:=∀os:OsState,(segRunT treeTable pg w 11 xV 1 7000 (S0 w os) (piecesOf bdy Gu mh MP M6)).map (Ot yw yx (importedModules pg.main.body) (boot_heap w.params))=
 some (.next,(mh,pEnd),true,(D w.params).map some,true,openGood qv lz)
end
noncomputable def HM:Str:=Str.ofString " ACCEPT ACCESS ADD ADVANCING AFTER ALL ALPHABETIC ALPHABETIC-LOWER ALPHABETIC-UPPER ALPHANUMERIC ALPHANUMERIC-EDITED ALSO ALTERNATE AND ANY ARE AREA AREAS ASCENDING ASSIGN AT AUTHOR BEFORE BINARY BLANK BLOCK BY CALL CHARACTER CHARACTERS CLOSE COMP COMP-3 COMPUTATIONAL COMPUTATIONAL-3 COMPUTE CONFIGURATION CONTAINS CONTENT CONTINUE CONVERTING COPY CORR CORRESPONDING COUNT DATA DATE-COMPILED DATE-WRITTEN DELETE DELIMITED DELIMITER DEPENDING DESCENDING DISPLAY DIVIDE DIVISION DOWN DUPLICATES DYNAMIC ELSE END END-ADD END-CALL END-COMPUTE END-DELETE END-DIVIDE END-EVALUATE END-IF END-MULTIPLY END-PERFORM END-READ END-RETURN END-REWRITE END-SEARCH END-START END-STRING END-SUBTRACT END-UNSTRING END-WRITE ENVIRONMENT EQUAL ERROR EVALUATE EXCEPTION EXIT EXTEND EXTERNAL FALSE FD FILE FILE-CONTROL FILLER FIRST FOR FROM GIVING GLOBAL GO GREATER HIGH-VALUE HIGH-VALUES I-O I-O-CONTROL IDENTIFICATION IF IN INDEX INDEXED INITIAL INITIALIZE INPUT INPUT-OUTPUT INSPECT INSTALLATION INTO INVALID IS JUST JUSTIFIED KEY LABEL LEADING LEFT LESS LINE LINES LINKAGE LOCK LOW-VALUE LOW-VALUES MERGE MODE MOVE MULTIPLY NATIVE NEGATIVE NEXT NO NOT NUMERIC NUMERIC-EDITED OBJECT-COMPUTER OCCURS OF OFF OMITTED ON OPEN OPTIONAL OR ORDER ORGANIZATION OTHER OUTPUT OVERFLOW PACKED-DECIMAL PERFORM PIC PICTURE POINTER POSITIVE PROCEDURE PROCEED PROGRAM PROGRAM-ID QUOTE QUOTES RANDOM READ RECORD RECORDS REDEFINES REFERENCE RELATIVE RELEASE REMAINDER RENAMES REPLACE REPLACING RETURN REWRITE RIGHT ROUNDED RUN SAME SD SEARCH SECTION SECURITY SELECT SENTENCE SEPARATE SEQUENTIAL SET SIGN SIZE SORT SORT-MERGE SOURCE-COMPUTER SPACE SPACES SPECIAL-NAMES STANDARD START STATUS STOP STRING SUBTRACT SYNC SYNCHRONIZED TALLYING TEST THAN THEN THROUGH THRU TIMES TO TRAILING TRUE UNSTRING UNTIL UP UPON USAGE USING VALUE VALUES VARYING WHEN WITH WORKING-STORAGE WRITE ZERO ZEROES ZEROS "
noncomputable def wK:List Nat:=[32,65,67,67,69,80,84,32,65,67,67,69,83,83,32,65,68,68,32,65,68,86,65,78,67,73,78,71,32,65,70,84,69,82,32,65,76,76,32,65,76,80,72,65,66,69,84,73,67,32,65,76,80,72,65,66,69,84,73,67,45,76,79,87,69,82,32,65,76,80,72,65,66,69,84,73,67,45,85,80,80,69,82,32,65,76,80,72,65,78,85,77,69,82,73,67,32,65,76,80,72,65,78,85,77,69,82,73,67,45,69,68,73,84,69,68,32,65,76,83,79,32,65,76,84,69,82,78,65,84,69,32,65,78,68,32,65,78,89,32,65,82,69,32,65,82,69,65,32,65,82,69,65,83,32,65,83,67,69,78,68,73,78,71,32,65,83,83,73,71,78,32,65,84,32,65,85,84,72,79,82,32,66,69,70,79,82,69,32,66,73,78,65,82,89,32,66,76,65,78,75,32,66,76,79,67,75,32,66,89,32,67,65,76,76,32,67,72,65,82,65,67,84,69,82,32,67,72,65,82,65,67,84,69,82,83,32,67,76,79,83,69,32,67,79,77,80,32,67,79,77,80,45,51,32,67,79,77,80,85,84,65,84,73,79,78,65,76,32,67,79,77,80,85,84,65,84,73,79,78,65,76,45,51,32,67,79,77,80,85,84,69,32,67,79,78,70,73,71,85,82,65,84,73,79,78,32,67,79,78,84,65,73,78,83,32,67,79,78,84,69,78,84,32,67,79,78,84,73,78,85,69,32,67,79,78,86,69,82,84,73,78,71,32,67,79,80,89,32,67,79,82,82,32,67,79,82,82,69,83,80,79,78,68,73,78,71,32,67,79,85,78,84,32,68,65,84,65,32,68,65,84,69,45,67,79,77,80,73,76,69,68,32,68,65,84,69,45,87,82,73,84,84,69,78,32,68,69,76,69,84,69,32,68,69,76,73,77,73,84,69,68,32,68,69,76,73,77,73,84,69,82,32,68,69,80,69,78,68,73,78,71,32,68,69,83,67,69,78,68,73,78,71,32,68,73,83,80,76,65,89,32,68,73,86,73,68,69,32,68,73,86,73,83,73,79,78,32,68,79,87,78,32,68,85,80,76,73,67,65,84,69,83,32,68,89,78,65,77,73,67,32,69,76,83,69,32,69,78,68,32,69,78,68,45,65,68,68,32,69,78,68,45,67,65,76,76,32,69,78,68,45,67,79,77,80,85,84,69,32,69,78,68,45,68,69,76,69,84,69,32,69,78,68,45,68,73,86,73,68,69,32,69,78,68,45,69,86,65,76,85,65,84,69,32,69,78,68,45,73,70,32,69,78,68,45,77,85,76,84,73,80,76,89,32,69,78,68,45,80,69,82,70,79,82,77,32,69,78,68,45,82,69,65,68,32,69,78,68,45,82,69,84,85,82,78,32,69,78,68,45,82,69,87,82,73,84,69,32,69,78,68,45,83,69,65,82,67,72,32,69,78,68,45,83,84,65,82,84,32,69,78,68,45,83,84,82,73,78,71,32,69,78,68,45,83,85,66,84,82,65,67,84,32,69,78,68,45,85,78,83,84,82,73,78,71,32,69,78,68,45,87,82,73,84,69,32,69,78,86,73,82,79,78,77,69,78,84,32,69,81,85,65,76,32,69,82,82,79,82,32,69,86,65,76,85,65,84,69,32,69,88,67,69,80,84,73,79,78,32,69,88,73,84,32,69,88,84,69,78,68,32,69,88,84,69,82,78,65,76,32,70,65,76,83,69,32,70,68,32,70,73,76,69,32,70,73,76,69,45,67,79,78,84,82,79,76,32,70,73,76,76,69,82,32,70,73,82,83,84,32,70,79,82,32,70,82,79,77,32,71,73,86,73,78,71,32,71,76,79,66,65,76,32,71,79,32,71,82,69,65,84,69,82,32,72,73,71,72,45,86,65,76,85,69,32,72,73,71,72,45,86,65,76,85,69,83,32,73,45,79,32,73,45,79,45,67,79,78,84,82,79,76,32,73,68,69,78,84,73,70,73,67,65,84,73,79,78,32,73,70,32,73,78,32,73,78,68,69,88,32,73,78,68,69,88,69,68,32,73,78,73,84,73,65,76,32,73,78,73,84,73,65,76,73,90,69,32,73,78,80,85,84,32,73,78,80,85,84,45,79,85,84,80,85,84,32,73,78,83,80,69,67,84,32,73,78,83,84,65,76,76,65,84,73,79,78,32,73,78,84,79,32,73,78,86,65,76,73,68,32,73,83,32,74,85,83,84,32,74,85,83,84,73,70,73,69,68,32,75,69,89,32,76,65,66,69,76,32,76,69,65,68,73,78,71,32,76,69,70,84,32,76,69,83,83,32,76,73,78,69,32,76,73,78,69,83,32,76,73,78,75,65,71,69,32,76,79,67,75,32,76,79,87,45,86,65,76,85,69,32,76,79,87,45,86,65,76,85,69,83,32,77,69,82,71,69,32,77,79,68,69,32,77,79,86,69,32,77,85,76,84,73,80,76,89,32,78,65,84,73,86,69,32,78,69,71,65,84,73,86,69,32,78,69,88,84,32,78,79,32,78,79,84,32,78,85,77,69,82,73,67,32,78,85,77,69,82,73,67,45,69,68,73,84,69,68,32,79,66,74,69,67,84,45,67,79,77,80,85,84,69,82,32,79,67,67,85,82,83,32,79,70,32,79,70,70,32,79,77,73,84,84,69,68,32,79,78,32,79,80,69,78,32,79,80,84,73,79,78,65,76,32,79,82,32,79,82,68,69,82,32,79,82,71,65,78,73,90,65,84,73,79,78,32,79,84,72,69,82,32,79,85,84,80,85,84,32,79,86,69,82,70,76,79,87,32,80,65,67,75,69,68,45,68,69,67,73,77,65,76,32,80,69,82,70,79,82,77,32,80,73,67,32,80,73,67,84,85,82,69,32,80,79,73,78,84,69,82,32,80,79,83,73,84,73,86,69,32,80,82,79,67,69,68,85,82,69,32,80,82,79,67,69,69,68,32,80,82,79,71,82,65,77,32,80,82,79,71,82,65,77,45,73,68,32,81,85,79,84,69,32,81,85,79,84,69,83,32,82,65,78,68,79,77,32,82,69,65,68,32,82,69,67,79,82,68,32,82,69,67,79,82,68,83,32,82,69,68,69,70,73,78,69,83,32,82,69,70,69,82,69,78,67,69,32,82,69,76,65,84,73,86,69,32,82,69,76,69,65,83,69,32,82,69,77,65,73,78,68,69,82,32,82,69,78,65,77,69,83,32,82,69,80,76,65,67,69,32,82,69,80,76,65,67,73,78,71,32,82,69,84,85,82,78,32,82,69,87,82,73,84,69,32,82,73,71,72,84,32,82,79,85,78,68,69,68,32,82,85,78,32,83,65,77,69,32,83,68,32,83,69,65,82,67,72,32,83,69,67,84,73,79,78,32,83,69,67,85,82,73,84,89,32,83,69,76,69,67,84,32,83,69,78,84,69,78,67,69,32,83,69,80,65,82,65,84,69,32,83,69,81,85,69,78,84,73,65,76,32,83,69,84,32,83,73,71,78,32,83,73,90,69,32,83,79,82,84,32,83,79,82,84,45,77,69,82,71,69,32,83,79,85,82,67,69,45,67,79,77,80,85,84,69,82,32,83,80,65,67,69,32,83,80,65,67,69,83,32,83,80,69,67,73,65,76,45,78,65,77,69,83,32,83,84,65,78,68,65,82,68,32,83,84,65,82,84,32,83,84,65,84,85,83,32,83,84,79,80,32,83,84,82,73,78,71,32,83,85,66,84,82,65,67,84,32,83,89,78,67,32,83,89,78,67,72,82,79,78,73,90,69,68,32,84,65,76,76,89,73,78,71,32,84,69,83,84,32,84,72,65,78,32,84,72,69,78,32,84,72,82,79,85,71,72,32,84,72,82,85,32,84,73,77,69,83,32,84,79,32,84,82,65,73,76,73,78,71,32,84,82,85,69,32,85,78,83,84,82,73,78,71,32,85,78,84,73,76,32,85,80,32,85,80,79,78,32,85,83,65,71,69,32,85,83,73,78,71,32,86,65,76,85,69,32,86,65,76,85,69,83,32,86,65,82,89,73,78,71,32,87,72,69,78,32,87,73,84,72,32,87,79,82,75,73,78,71,45,83,84,79,82,65,71,69,32,87,82,73,84,69,32,90,69,82,79,32,90,69,82,79,69,83,32,90,69,82,79,83,32]
theorem Ay:HM=⟨wK.toArray⟩:=by refine(congrArg Str.ofString (a₂:=String.ofList (wK.map Char.ofNat)) ?_).trans ((Fast.ofString_ofList _).trans ?_)<;>kernel_rfl
section
noncomputable def bZ(s:String):Str:=Str.ofString s
def E4(P:Params)(k:String)(t:Nat)(v:Value):DictEntry:=⟨PyData.keyHash P (bZ k),.str (bZ k) t,v⟩
def pH(P:Params)(l:List (String×Nat×Value))(n:Nat):Obj:=⟨.type "dict",none,.dict (l.map λx=>E4 P x.1 x.2.1 x.2.2).toArray n,#[]⟩
structure jI where
 a:Nat
 i:Nat
 j:Nat
 q:String
 t:Nat
 u:Nat
 line:Nat
 argc:Nat
 k7:Bool
 d:Value
 m:String
 mt:Nat
noncomputable def rO:Stmt:=.Pass ⟨0,0,0,0⟩
def DG(i:Nat):Nat->Stmt|0=>(bdy.drop i).headD rO|j+1=>match(bdy.drop i).headD rO with|.ClassDef _ _ _ b _ _ _ _ _ _ _=>(b.drop j).headD rO|_=>rO
def jI.fd(r:jI):FuncData:=match DG r.i r.j with|.FunctionDef name args body _ _ _ scope _ _ _=>{name:=name,qualname:=bZ r.q,params:=args,body:=.stmts body,scope:=scope,globals:=3,closure:=[],defaults:=r.d,kwdefaults:=.none,pyModule:=.str (bZ r.m) r.mt,code:=.ref (r.a-1)}|_=>default
def jI.ob(r:jI):Obj:={cls:=.type "function",data:=.func r.fd}
def jI.co(r:jI):Obj:={cls:=.type "code",data:=.fields (match r.k7 with|true=>#[.str r.fd.name r.t,.str (bZ r.q) (r.t+1),.str (bZ "/claim/cut.py") (r.t+2),.int r.line 0,.int r.argc 0,.int 0 0,.int 0 0,.int 3 0,.ref (r.a-6),.bool true,.int 181 0,.ref (r.a-5),.none,.ref (r.a-4),.ref (r.a-3),.ref (r.a-2),.int r.u 0,.int r.line 0,.str (bZ "/claim/cut.py") (r.u+1)]|false=>#[.str r.fd.name r.t,.str (bZ r.q) (r.t+1),.str (bZ "/claim/cut.py") (r.t+2),.int r.line 0,.int r.argc 0,.int 0 0,.int 0 0,.int 3 0,.ref (r.a-4),.bool true,.int 181 0,.ref (r.a-3),.none,.none,.none,.ref (r.a-2),.int r.u 0,.int r.line 0,.str (bZ "/claim/cut.py") (r.u+1)])}
noncomputable def vG:List jI:=[
 ⟨82,7,0,"decimal",274,279,21,2,true,.ref 75,"ledgerspeak.decimals",261⟩,
 ⟨89,8,0,"negated",282,286,28,1,true,.none,"ledgerspeak.decimals",261⟩,
 ⟨117,12,0,"worth_of",314,320,42,1,true,.none,"ledgerspeak.decimals",261⟩,
 ⟨124,13,0,"read_decimal",323,333,47,1,true,.none,"ledgerspeak.decimals",261⟩,
 ⟨131,14,0,"write_decimal",336,341,62,1,true,.none,"ledgerspeak.decimals",261⟩,
 ⟨147,16,1,"Token.__init__",360,368,71,5,true,.ref 140,"ledgerspeak.tokens",344⟩,
 ⟨168,17,0,"quoted",390,394,79,1,true,.none,"ledgerspeak.tokens",344⟩,
 ⟨177,22,0,"is_part_next",451,457,85,1,true,.none,"ledgerspeak.references",397⟩,
 ⟨184,23,0,"read_subscripts",460,466,98,2,true,.none,"ledgerspeak.references",397⟩,
 ⟨191,24,0,"read_part",469,476,106,2,true,.none,"ledgerspeak.references",397⟩,
 ⟨198,25,0,"read_ref",479,488,113,2,true,.none,"ledgerspeak.references",397⟩,
 ⟨212,27,0,"read_figure",499,503,130,1,true,.none,"ledgerspeak.references",397⟩,
 ⟨219,28,0,"read_operand",506,512,134,2,true,.none,"ledgerspeak.references",397⟩,
 ⟨224,29,0,"shown_octets",515,518,143,1,false,.none,"ledgerspeak.references",397⟩,
 ⟨229,30,0,"shown_subscripts",521,524,145,2,false,.none,"ledgerspeak.references",397⟩,
 ⟨236,31,0,"show_ref",527,534,150,2,true,.none,"ledgerspeak.references",397⟩,
 ⟨243,32,0,"show_operand",537,542,158,2,true,.none,"ledgerspeak.references",397⟩,
 ⟨251,39,0,"read_expression",571,575,172,1,true,.none,"ledgerspeak.expressions",545⟩,
 ⟨258,40,0,"sign_among",578,584,174,2,true,.none,"ledgerspeak.expressions",545⟩,
 ⟨265,41,0,"read_sum",587,594,179,2,true,.none,"ledgerspeak.expressions",545⟩,
 ⟨272,42,0,"read_product",597,604,187,2,true,.none,"ledgerspeak.expressions",545⟩,
 ⟨279,43,0,"read_factor",607,615,193,2,true,.none,"ledgerspeak.expressions",545⟩,
 ⟨286,44,0,"is_lone_number",618,624,203,1,true,.none,"ledgerspeak.expressions",545⟩,
 ⟨293,45,0,"read_power",627,633,208,2,true,.none,"ledgerspeak.expressions",545⟩,
 ⟨300,46,0,"read_primary",636,643,214,2,true,.none,"ledgerspeak.expressions",545⟩,
 ⟨321,49,0,"show_expression",662,668,229,1,true,.none,"ledgerspeak.expressions",545⟩,
 ⟨348,59,0,"word_here",746,752,255,2,true,.ref 341,"ledgerspeak.conditions",685⟩,
 ⟨355,60,0,"is_relation_at",755,761,258,2,true,.none,"ledgerspeak.conditions",685⟩,
 ⟨362,61,0,"place_of_word",764,769,263,1,true,.none,"ledgerspeak.conditions",685⟩,
 ⟨369,62,0,"is_predicate_here",772,778,266,1,true,.none,"ledgerspeak.conditions",685⟩,
 ⟨376,63,0,"is_bare_relation_here",781,785,270,1,true,.none,"ledgerspeak.conditions",685⟩,
 ⟨390,64,1,"ConditionReader.__init__",800,807,274,4,true,.none,"ledgerspeak.conditions",685⟩,
 ⟨397,64,2,"ConditionReader.either",810,815,280,1,true,.none,"ledgerspeak.conditions",685⟩,
 ⟨404,64,3,"ConditionReader.both",818,823,286,1,true,.none,"ledgerspeak.conditions",685⟩,
 ⟨411,64,4,"ConditionReader.turned",826,830,292,1,true,.none,"ledgerspeak.conditions",685⟩,
 ⟨418,64,5,"ConditionReader.single",833,841,298,1,true,.none,"ledgerspeak.conditions",685⟩,
 ⟨425,64,6,"ConditionReader.unbracketed",844,849,312,1,true,.none,"ledgerspeak.conditions",685⟩,
 ⟨453,64,10,"ConditionReader.predicate",874,882,342,2,true,.none,"ledgerspeak.conditions",685⟩,
 ⟨460,64,11,"ConditionReader.relation",885,892,356,2,true,.none,"ledgerspeak.conditions",685⟩,
 ⟨467,64,12,"ConditionReader.sign_here",895,901,363,1,true,.none,"ledgerspeak.conditions",685⟩,
 ⟨482,65,0,"read_condition",916,922,375,2,true,.ref 475,"ledgerspeak.conditions",685⟩,
 ⟨489,66,0,"show_relation",925,930,379,1,true,.none,"ledgerspeak.conditions",685⟩,
 ⟨496,67,0,"strength_of",933,937,382,1,true,.none,"ledgerspeak.conditions",685⟩,
 ⟨503,68,0,"in_place",940,946,384,2,true,.none,"ledgerspeak.conditions",685⟩,
 ⟨510,69,0,"show_simple",949,953,387,1,true,.none,"ledgerspeak.conditions",685⟩,
 ⟨517,70,0,"show_condition",956,962,393,1,true,.none,"ledgerspeak.conditions",685⟩,
 ⟨525,73,0,"operand_text",983,987,408,1,true,.none,"ledgerspeak.showing",965⟩,
 ⟨532,74,0,"ref_text",990,994,410,1,true,.none,"ledgerspeak.showing",965⟩,
 ⟨537,75,0,"joined",997,1000,412,1,false,.none,"ledgerspeak.showing",965⟩,
 ⟨544,76,0,"worded",1003,1008,414,2,true,.none,"ledgerspeak.showing",965⟩,
 ⟨549,77,0,"show_body",1011,1014,416,2,false,.none,"ledgerspeak.showing",965⟩,
 ⟨556,78,0,"show_phrase",1017,1021,420,1,true,.none,"ledgerspeak.showing",965⟩,
 ⟨561,79,0,"show_branches",1024,1027,424,2,false,.none,"ledgerspeak.showing",965⟩,
 ⟨568,80,0,"show_pair",1030,1034,426,1,true,.none,"ledgerspeak.showing",965⟩,
 ⟨575,81,0,"show_range",1037,1042,428,2,true,.none,"ledgerspeak.showing",965⟩,
 ⟨606,86,0,"show_varying",1074,1084,454,1,true,.none,"ledgerspeak.showing",965⟩,
 ⟨613,87,0,"show_loop",1087,1092,460,1,true,.none,"ledgerspeak.showing",965⟩,
 ⟨620,88,0,"show_perform",1095,1102,469,2,true,.none,"ledgerspeak.showing",965⟩,
 ⟨625,89,0,"show_call",1105,1108,474,2,false,.none,"ledgerspeak.showing",965⟩,
 ⟨630,90,0,"show_control",1111,1114,479,2,false,.none,"ledgerspeak.showing",965⟩,
 ⟨637,94,0,"is_reserved",1123,1127,497,1,true,.none,"ledgerspeak.reader",1117⟩,
 ⟨642,95,0,"octets_of_text",1130,1133,499,1,false,.none,"ledgerspeak.reader",1117⟩,
 ⟨657,96,1,"Reader.__init__",1149,1155,506,3,true,.ref 650,"ledgerspeak.reader",1117⟩,
 ⟨665,96,2,"Reader.peek",1159,1164,511,2,true,.ref 658,"ledgerspeak.reader",1117⟩,
 ⟨672,96,3,"Reader.is_done",1167,1171,516,1,true,.none,"ledgerspeak.reader",1117⟩,
 ⟨686,96,5,"Reader.take",1182,1187,524,1,true,.none,"ledgerspeak.reader",1117⟩,
 ⟨694,96,6,"Reader.is_kind",1191,1198,531,3,true,.ref 687,"ledgerspeak.reader",1117⟩,
 ⟨701,96,7,"Reader.is_word",1201,1208,535,2,true,.none,"ledgerspeak.reader",1117⟩,
 ⟨708,96,8,"Reader.skip",1211,1216,543,2,true,.none,"ledgerspeak.reader",1117⟩,
 ⟨715,96,9,"Reader.need",1219,1224,549,2,true,.none,"ledgerspeak.reader",1117⟩,
 ⟨722,96,10,"Reader.one_of",1227,1233,553,2,true,.none,"ledgerspeak.reader",1117⟩,
 ⟨737,96,12,"Reader.is_name",1244,1249,564,2,true,.ref 730,"ledgerspeak.reader",1117⟩,
 ⟨744,96,13,"Reader.name",1252,1256,567,1,true,.none,"ledgerspeak.reader",1117⟩,
 ⟨759,96,15,"Reader.is_sign",1268,1274,578,3,true,.ref 752,"ledgerspeak.reader",1117⟩,
 ⟨766,96,16,"Reader.skip_sign",1277,1282,581,2,true,.none,"ledgerspeak.reader",1117⟩,
 ⟨773,96,17,"Reader.need_sign",1285,1290,587,2,true,.none,"ledgerspeak.reader",1117⟩,
 ⟨780,96,18,"Reader.is_number",1293,1297,591,1,true,.none,"ledgerspeak.reader",1117⟩,
 ⟨787,96,19,"Reader.signed",1300,1306,596,1,true,.none,"ledgerspeak.reader",1117⟩,
 ⟨808,96,22,"Reader.octets",1324,1329,619,1,true,.none,"ledgerspeak.reader",1117⟩,
 ⟨822,99,0,"word_ahead",1347,1354,629,3,true,.none,"ledgerspeak.readarith",1343⟩,
 ⟨829,100,0,"phrase_words",1357,1361,632,1,true,.none,"ledgerspeak.readarith",1343⟩,
 ⟨836,101,0,"opening_length",1364,1375,642,2,true,.none,"ledgerspeak.readarith",1343⟩,
 ⟨843,102,0,"body_here",1378,1384,662,2,true,.none,"ledgerspeak.readarith",1343⟩,
 ⟨850,103,0,"branches_here",1387,1397,667,3,true,.none,"ledgerspeak.readarith",1343⟩,
 ⟨857,104,0,"begins_operand",1400,1404,676,1,true,.none,"ledgerspeak.readarith",1343⟩,
 ⟨864,106,0,"name_pair",1409,1414,681,1,true,.none,"ledgerspeak.readflow",1407⟩,
 ⟨871,107,0,"read_range",1417,1422,686,1,true,.none,"ledgerspeak.readflow",1407⟩,
 ⟨878,108,0,"times_here",1425,1431,691,1,true,.none,"ledgerspeak.readflow",1407⟩,
 ⟨885,109,0,"read_varying",1434,1441,705,1,true,.none,"ledgerspeak.readflow",1407⟩,
 ⟨892,110,0,"read_loop",1444,1451,713,1,true,.none,"ledgerspeak.readflow",1407⟩,
 ⟨899,111,0,"is_range_here",1454,1460,732,1,true,.none,"ledgerspeak.readflow",1407⟩,
 ⟨906,112,0,"read_perform",1463,1472,739,2,true,.none,"ledgerspeak.readflow",1407⟩,
 ⟨913,113,0,"read_goto",1475,1481,748,2,true,.none,"ledgerspeak.readflow",1407⟩,
 ⟨920,114,0,"read_mode",1484,1490,760,2,true,.none,"ledgerspeak.readflow",1407⟩,
 ⟨927,115,0,"read_args",1493,1500,769,1,true,.none,"ledgerspeak.readflow",1407⟩,
 ⟨934,116,0,"read_call",1503,1511,782,2,true,.none,"ledgerspeak.readflow",1407⟩,
 ⟨939,118,0,"_law_box",1516,1519,790,1,false,.none,"law_og0112_01",1514⟩,
 ⟨946,119,0,"_law_draw",1522,1529,799,2,true,.none,"law_og0112_01",1514⟩,
 ⟨954,120,0,"_law_ref",1532,1544,810,2,true,.ref 947,"law_og0112_01",1514⟩,
 ⟨961,121,0,"_law_operand",1547,1553,820,2,true,.none,"law_og0112_01",1514⟩,
 ⟨968,122,0,"_law_tokens",1556,1562,831,1,true,.none,"law_og0112_01",1514⟩,
 ⟨975,123,0,"_law_body",1565,1569,843,1,true,.none,"law_og0112_01",1514⟩,
 ⟨982,124,0,"_law_shown",1572,1576,845,1,true,.none,"law_og0112_01",1514⟩,
 ⟨989,125,0,"_law_read_body",1579,1584,847,1,true,.none,"law_og0112_01",1514⟩,
 ⟨994,126,0,"_law_branches",1587,1590,852,2,false,.none,"law_og0112_01",1514⟩,
 ⟨1001,127,0,"_law_pair",1593,1597,855,1,true,.none,"law_og0112_01",1514⟩,
 ⟨1008,128,0,"_law_until",1600,1605,857,1,true,.none,"law_og0112_01",1514⟩,
 ⟨1013,129,0,"_law_loop",1608,1611,860,1,false,.none,"law_og0112_01",1514⟩,
 ⟨1020,130,0,"_law_perform",1614,1620,871,1,true,.none,"law_og0112_01",1514⟩,
 ⟨1025,131,0,"_law_goto",1623,1626,875,1,false,.none,"law_og0112_01",1514⟩,
 ⟨1032,132,0,"_law_call",1629,1635,879,1,true,.none,"law_og0112_01",1514⟩,
 ⟨1039,133,0,"_law_back",1638,1645,884,2,true,.none,"law_og0112_01",1514⟩,
 ⟨1044,134,0,"_law_written",1648,1651,888,0,false,.none,"law_og0112_01",1514⟩,
 ⟨1051,135,0,"law",1654,1662,892,1,true,.none,"law_og0112_01",1514⟩]
def fO:List (String×Nat×Value):=[("__name__",165,(.str (bZ "law_og0112_01") 1514)),("__doc__",166,.none),("__package__",167,.none),("__loader__",168,(.builtin "__main__.__loader__#opaque")),("__spec__",169,.none),("__annotations__",170,(.ref 6)),("__builtins__",171,(.ref 4)),("__file__",173,(.str (bZ "/claim/cut.py") 172)),("__cached__",174,.none),("LedgerError",228,(.ref 40)),("TokenFault",244,(.ref 53)),("GrammarFault",260,(.ref 65)),("FIGURES",264,(.str (bZ "0123456789") 263)),("cut_quotient",272,(.ref 74)),("decimal",281,(.ref 82)),("negated",288,(.ref 89)),("units_at",299,(.ref 96)),("is_whole",306,(.ref 103)),("whole_of",313,(.ref 110)),("worth_of",322,(.ref 117)),("read_decimal",335,(.ref 124)),("write_decimal",343,(.ref 131)),("Token",389,(.ref 157)),("quoted",396,(.ref 168)),("MOST_SUBSCRIPTS",400,(.int (7) 399)),("FIGURE_NAMES",434,(.ref 169)),("FIGURE_SHOWN",450,(.ref 170)),("is_part_next",459,(.ref 177)),("read_subscripts",468,(.ref 184)),("read_part",478,(.ref 191)),("read_ref",490,(.ref 198)),("read_all",498,(.ref 205)),("read_figure",505,(.ref 212)),("read_operand",514,(.ref 219)),("shown_octets",520,(.ref 224)),("shown_subscripts",526,(.ref 229)),("show_ref",536,(.ref 236)),("show_operand",544,(.ref 243)),("MOST_DEEP_expressions",548,(.int (20) 547)),("SIGNED",550,(.int (3) 549)),("RAISED",552,(.int (4) 551)),("BARE",554,(.int (5) 553)),("LEVELS",570,(.ref 244)),("read_expression",577,(.ref 251)),("sign_among",586,(.ref 258)),("read_sum",596,(.ref 265)),("read_product",606,(.ref 272)),("read_factor",617,(.ref 279)),("is_lone_number",626,(.ref 286)),("read_power",635,(.ref 293)),("read_primary",645,(.ref 300)),("level_of",652,(.ref 307)),("bracketed",661,(.ref 314)),("show_expression",670,(.ref 321)),("right_part",677,(.ref 328)),("show_signed",684,(.ref 335)),("MOST_DEEP_conditions",688,(.int (20) 687)),("OPPOSITES",707,(.ref 336)),("CLASSES",712,(.ref 337)),("WORDS_OF_SIGNS",728,(.ref 338)),("WORDS_OF_RELATIONS",738,(.ref 339)),("RELATIONS",744,(.ref 340)),("word_here",754,(.ref 348)),("is_relation_at",763,(.ref 355)),("place_of_word",771,(.ref 362)),("is_predicate_here",780,(.ref 369)),("is_bare_relation_here",787,(.ref 376)),("ConditionReader",915,(.ref 470)),("read_condition",924,(.ref 482)),("show_relation",932,(.ref 489)),("strength_of",939,(.ref 496)),("in_place",948,(.ref 503)),("show_simple",955,(.ref 510)),("show_condition",964,(.ref 517)),("PHRASES",982,(.ref 518)),("operand_text",989,(.ref 525)),("ref_text",996,(.ref 532)),("joined",1002,(.ref 537)),("worded",1010,(.ref 544)),("show_body",1016,(.ref 549)),("show_phrase",1023,(.ref 556)),("show_branches",1029,(.ref 561)),("show_pair",1036,(.ref 568)),("show_range",1044,(.ref 575)),("show_if",1053,(.ref 582)),("show_part",1061,(.ref 589)),("show_parts",1067,(.ref 594)),("show_evaluate",1073,(.ref 599)),("show_varying",1086,(.ref 606)),("show_loop",1094,(.ref 613)),("show_perform",1104,(.ref 620)),("show_call",1110,(.ref 625)),("show_control",1116,(.ref 630)),("MOST_OCTET",1120,(.int (255) 1119)),("RESERVED",1122,(.str HM 1121)),("is_reserved",1129,(.ref 637)),("octets_of_text",1135,(.ref 642)),("Reader",1342,(.ref 811)),("FIGURE_WORDS",1346,(.str (bZ " ZERO ZEROS ZEROES SPACE SPACES HIGH-VALUE HIGH-VALUES LOW-VALUE LOW-VALUES QUOTE QUOTES ALL ") 1345)),("word_ahead",1356,(.ref 822)),("phrase_words",1363,(.ref 829)),("opening_length",1377,(.ref 836)),("body_here",1386,(.ref 843)),("branches_here",1399,(.ref 850)),("begins_operand",1406,(.ref 857)),("name_pair",1416,(.ref 864)),("read_range",1424,(.ref 871)),("times_here",1433,(.ref 878)),("read_varying",1443,(.ref 885)),("read_loop",1453,(.ref 892)),("is_range_here",1462,(.ref 899)),("read_perform",1474,(.ref 906)),("read_goto",1483,(.ref 913)),("read_mode",1492,(.ref 920)),("read_args",1502,(.ref 927)),("read_call",1513,(.ref 934)),("_law_box",1521,(.ref 939)),("_law_draw",1531,(.ref 946)),("_law_ref",1546,(.ref 954)),("_law_operand",1555,(.ref 961)),("_law_tokens",1564,(.ref 968)),("_law_body",1571,(.ref 975)),("_law_shown",1578,(.ref 982)),("_law_read_body",1586,(.ref 989)),("_law_branches",1592,(.ref 994)),("_law_pair",1599,(.ref 1001)),("_law_until",1607,(.ref 1008)),("_law_loop",1613,(.ref 1013)),("_law_perform",1622,(.ref 1020)),("_law_goto",1628,(.ref 1025)),("_law_call",1637,(.ref 1032)),("_law_back",1647,(.ref 1039)),("_law_written",1653,(.ref 1044)),("law",1664,(.ref 1051))]
def zk:List (Nat×List (String×Nat×Value)×Nat):=[
 (169,[("ZERO",401,(.str (bZ "ZERO") 402)),("ZEROS",403,(.str (bZ "ZERO") 404)),("ZEROES",405,(.str (bZ "ZERO") 406)),("SPACE",407,(.str (bZ "SPACE") 408)),("SPACES",409,(.str (bZ "SPACE") 410)),("HIGH-VALUE",411,(.str (bZ "HIGH") 412)),("HIGH-VALUES",413,(.str (bZ "HIGH") 414)),("LOW-VALUE",415,(.str (bZ "LOW") 416)),("LOW-VALUES",417,(.str (bZ "LOW") 418)),("QUOTE",419,(.str (bZ "QUOTE") 420)),("QUOTES",421,(.str (bZ "QUOTE") 422))],11),
 (170,[("ZERO",435,(.str (bZ "ZERO") 436)),("SPACE",437,(.str (bZ "SPACE") 438)),("HIGH",439,(.str (bZ "HIGH-VALUE") 440)),("LOW",441,(.str (bZ "LOW-VALUE") 442)),("QUOTE",443,(.str (bZ "QUOTE") 444))],5),
 (244,[("+",555,(.int (1) 556)),("-",557,(.int (1) 558)),("*",559,(.int (2) 560)),("/",561,(.int (2) 562)),("**",563,(.int (4) 564))],5),
 (336,[("=",689,(.str (bZ "<>") 690)),("<>",691,(.str (bZ "=") 692)),("<",693,(.str (bZ ">=") 694)),(">=",695,(.str (bZ "<") 696)),(">",697,(.str (bZ "<=") 698)),("<=",699,(.str (bZ ">") 700))],6),
 (338,[("POSITIVE",713,(.str (bZ "POSITIVE") 714)),("NEGATIVE",715,(.str (bZ "NEGATIVE") 716)),("ZERO",717,(.str (bZ "ZERO") 718)),("ZEROS",719,(.str (bZ "ZERO") 720)),("ZEROES",721,(.str (bZ "ZERO") 722))],5),
 (339,[("GREATER",729,(.str (bZ ">") 730)),("LESS",731,(.str (bZ "<") 732)),("EQUAL",733,(.str (bZ "=") 734))],3),
 (518,[("size",967,(.str (bZ "ON SIZE ERROR") 968)),("over",969,(.str (bZ "ON OVERFLOW") 970)),("end",971,(.str (bZ "AT END") 972)),("invalid",973,(.str (bZ "INVALID KEY") 974)),("fault",975,(.str (bZ "ON EXCEPTION") 976))],5)]
def kex(P:Params):List (Nat×Obj):=[(0,boot_o_0 P),
 (2,⟨.none,none,.dict #[E4 P "type.__subclasses__.Exception.0" 225 (.int (40) 0),E4 P "type.__subclasses__.Exception.n" 226 (.int (1) 0)] 2,#[]⟩),
 (3,pH P fO 134),
 (4,⟨.type "module",some 0,.plain,#[]⟩),
 (75,⟨.type "tuple",none,.seq #[.int (0) 273] 0,#[]⟩),
 (139,⟨.type "tuple",none,.seq #[.int (0) 358,.int (0) 359] 0,#[]⟩),
 (140,⟨.type "tuple",none,.seq #[.ref 139,.bool false] 0,#[]⟩),
 (156,pH P [("__module__",353,(.str (bZ "ledgerspeak.tokens") 344)),("__firstlineno__",357,(.int (69) 356)),("__init__",370,(.ref 147)),("told",377,(.ref 154)),("__static_attributes__",382,(.ref 155)),("__dict__",384,(.ref 158)),("__weakref__",386,(.ref 159)),("__doc__",387,.none)] 4),
 (157,⟨.type "type",none,.cls ⟨bZ "Token",[.type "object"],[.ref 157,.type "object"],156,bZ "Token",true,[],[],false,none,false⟩,#[none,none,some (.str (bZ "Token") 346),some (.str (bZ "Token") 354),some (.builtin "object.__new__"),some (.bool true)]⟩),
 (158,⟨.type "getset_descriptor",none,.fields #[.str (bZ "__dict__") 383,.ref 157,.builtin "function.__dict__",.builtin "function.__dict__#set"],#[]⟩),
 (159,⟨.type "getset_descriptor",none,.fields #[.str (bZ "__weakref__") 385,.ref 157,.builtin "ExceptionGroup.__weakref__",.none],#[]⟩),
 (337,⟨.type "tuple",none,.seq #[.str (bZ "NUMERIC") 708,.str (bZ "ALPHABETIC") 709,.str (bZ "ALPHABETIC-LOWER") 710,.str (bZ "ALPHABETIC-UPPER") 711] 0,#[]⟩),
 (340,⟨.type "tuple",none,.seq #[.str (bZ "=") 739,.str (bZ "<") 740,.str (bZ ">") 741,.str (bZ "<=") 742,.str (bZ ">=") 743] 0,#[]⟩),
 (341,⟨.type "tuple",none,.seq #[.int (0) 745] 0,#[]⟩),
 (469,pH P [("__module__",795,(.str (bZ "ledgerspeak.conditions") 685)),("__firstlineno__",799,(.int (272) 798)),("__init__",809,(.ref 390)),("either",817,(.ref 397)),("both",825,(.ref 404)),("turned",832,(.ref 411)),("single",843,(.ref 418)),("unbracketed",851,(.ref 425)),("in_brackets",859,(.ref 432)),("subject_of_last",866,(.ref 439)),("sign_of_last",873,(.ref 446)),("predicate",884,(.ref 453)),("relation",894,(.ref 460)),("sign_here",903,(.ref 467)),("__static_attributes__",908,(.ref 468)),("__dict__",910,(.ref 471)),("__weakref__",912,(.ref 472)),("__doc__",913,.none)] 4),
 (470,⟨.type "type",none,.cls ⟨bZ "ConditionReader",[.type "object"],[.ref 470,.type "object"],469,bZ "ConditionReader",true,[],[],false,none,false⟩,#[none,none,some (.str (bZ "ConditionReader") 788),some (.str (bZ "ConditionReader") 796),some (.builtin "object.__new__"),some (.bool true)]⟩),
 (471,⟨.type "getset_descriptor",none,.fields #[.str (bZ "__dict__") 909,.ref 470,.builtin "function.__dict__",.builtin "function.__dict__#set"],#[]⟩),
 (472,⟨.type "getset_descriptor",none,.fields #[.str (bZ "__weakref__") 911,.ref 470,.builtin "ExceptionGroup.__weakref__",.none],#[]⟩),
 (475,⟨.type "tuple",none,.seq #[.none] 0,#[]⟩),
 (650,⟨.type "tuple",none,.seq #[.int (0) 1148] 0,#[]⟩),
 (658,⟨.type "tuple",none,.seq #[.int (0) 1158] 0,#[]⟩),
 (687,⟨.type "tuple",none,.seq #[.int (0) 1190] 0,#[]⟩),
 (730,⟨.type "tuple",none,.seq #[.int (0) 1243] 0,#[]⟩),
 (752,⟨.type "tuple",none,.seq #[.int (0) 1267] 0,#[]⟩),
 (810,pH P [("__module__",1143,(.str (bZ "ledgerspeak.reader") 1117)),("__firstlineno__",1147,(.int (504) 1146)),("__init__",1157,(.ref 657)),("peek",1166,(.ref 665)),("is_done",1173,(.ref 672)),("fault",1181,(.ref 679)),("take",1189,(.ref 686)),("is_kind",1200,(.ref 694)),("is_word",1210,(.ref 701)),("skip",1218,(.ref 708)),("need",1226,(.ref 715)),("one_of",1235,(.ref 722)),("word",1242,(.ref 729)),("is_name",1251,(.ref 737)),("name",1258,(.ref 744)),("names",1266,(.ref 751)),("is_sign",1276,(.ref 759)),("skip_sign",1284,(.ref 766)),("need_sign",1292,(.ref 773)),("is_number",1299,(.ref 780)),("signed",1308,(.ref 787)),("whole",1316,(.ref 794)),("literal",1323,(.ref 801)),("octets",1331,(.ref 808)),("__static_attributes__",1335,(.ref 809)),("__dict__",1337,(.ref 812)),("__weakref__",1339,(.ref 813)),("__doc__",1340,.none)] 4),
 (811,⟨.type "type",none,.cls ⟨bZ "Reader",[.type "object"],[.ref 811,.type "object"],810,bZ "Reader",true,[],[],false,none,false⟩,#[none,none,some (.str (bZ "Reader") 1136),some (.str (bZ "Reader") 1144),some (.builtin "object.__new__"),some (.bool true)]⟩),
 (812,⟨.type "getset_descriptor",none,.fields #[.str (bZ "__dict__") 1336,.ref 811,.builtin "function.__dict__",.builtin "function.__dict__#set"],#[]⟩),
 (813,⟨.type "getset_descriptor",none,.fields #[.str (bZ "__weakref__") 1338,.ref 811,.builtin "ExceptionGroup.__weakref__",.none],#[]⟩),
 (947,⟨.type "tuple",none,.seq #[.bool false] 0,#[]⟩)]
def bN(P:Params):List (Nat×Obj):=kex P++zk.map (λx=>(x.1,pH P x.2.1 x.2.2))++vG.flatMap λr=>[(r.a-1,r.co),(r.a,r.ob)]
def Qe:List Nat:=[0,2,3,4,75,139,140,156,157,158,159,337,340,341,469,470,471,472,475,650,658,687,730,752,810,811,812,813,947]++zk.map (·.1)++vG.flatMap λr=>[r.a-1,r.a]
def Qf(P:Params):List Obj:=(bN P).map (·.2)
end
section
noncomputable def L4(s:SharedT):Bool:=Nat.ble 1052 s.n
noncomputable def tab0:Obj:={cls:=.none,data:=.fields #[]}
def Cc:List Nat:=Qe++[295,477]
def Cd(P:Params):List Obj:=Qf P++[tab0,tab0]
theorem Qc(w:World):qy L4 Cc Cd (w.withFollow "special-get-raises" false):=by unfold qy;rw[Fast.te10110043849684766642,Fast.te14364793385576792824];intro os;kernel_rfl
theorem Qd(w:World):qy L4 Cc Cd (w.withFollow "special-get-raises" true):=by unfold qy;rw[Fast.te10110043849684766642,Fast.te14364793385576792824];intro os;kernel_rfl
end
section
theorem kas_lt:(Qe.all λa=>Nat.blt a 1052)=true:=by kernel_rfl
theorem za(P:Params):Qe=(bN P).map (·.1):=by kernel_rfl
noncomputable def mW(o:Obj):Bool:=match o.data with|.freed=>false|_=>true
theorem EM{o:Obj}(h:mW o=true):alive o=some o:=by obtain⟨c,d,dt,sl⟩:=o;cases dt<;>first|rfl|cases h
theorem Ce(P:Params):((Qf P).all mW)=true:=by kernel_rfl
theorem AD{s:SharedT}:∀{l:List Nat} {L:List Obj},Nat.ble 1052 s.n=true->(l.all λa=>Nat.blt a 1052)=true->(L.all mW)=true->l.map s.tree.get=L.map some->l.map s.abs.heap.get?=L.map some|[],[],_,_,_,_=>rfl|[],_::_,_,_,_,h=>by cases h|_::_,[],_,_,_,h=>by cases h|a::l,o::L,h1,h2,h3,h=>by rw[List.all_cons,aV]at h2 h3;rw[aC,aC,List.cons.injEq]at h;rw[aC,aC,AD h1 h2.2 h3.2 h.2];have lt:a<s.n:=aB (aa h2.1) (aa h1);have e:s.abs.heap.get? a=some o:=(abs_get lt h.1).trans (EM h3.1);rw[e]
theorem in_of:∀{K:Frag} {h:Heap},(K.map (·.1)).map h.get?=(K.map (·.2)).map some->K.In h
 |[],h,_=>λa o e=>by cases e|(b,x)::K,h,e=>by
  rw[aC,aC,aC,aC,List.cons.injEq]at e;intro a o l;rw[aQ]at l
  split at l
  ·rename_i q;have q:=df.mp q;cases l;rw[q];exact e.1
  ·exact in_of e.2 a o l
end
section
theorem J9:∀(w:World) (os:OsState),topGo treeTable pg w 11 xV 12 ⟨boot_heap w.params,⟨[]⟩,boot_drawn,boot_toks,os⟩ (topStub pg)=
  some (⟨IY w.params,⟨[]⟩,{},187,os⟩,⟨denote treeTable mh,mh,MP,M6⟩):=by
 rw[Fast.te15667345088766844465,Fast.te11892475500146522536,Fast.te14364793385576792824];intro w os;kernel_rfl
theorem Ka:∀(w:World) (os:OsState),segRun treeTable pg w 11 xV 1 1 ⟨IY w.params,⟨[]⟩,{},187,os⟩ (blockOf bdy Gu mh MP M6)=some (.next,(S0 w os).abs,mh,MP):=by rw[Fast.te14374325043358763698,Fast.te14364793385576792824];intro w os;kernel_rfl
theorem Gv:∀w:World,(fencedOpening treeTable pg w 20000).map (λs=>(s.heap,s.gens,s.drawn,s.toks))=some (boot_heap w.params,Array.mk [],boot_drawn,boot_toks):=
 boot_open (by kernel_rfl) (by decide+kernel) (λs=>by kernel_rfl)
theorem Gw:∀w:World,((boot_heap w.params).isNs mainGlobals&&(Array.mk []:Array GenState).size==0,(boot_heap w.params).objs.size,(boot_heap w.params).nsMap mainGlobals "__annotations__")=(true,11,xV):=by rw[Fast.te8920871248978507458];intro w;kernel_rfl
theorem Kb(w:World)(s:Shared):topRun treeTable pg w 11 xV 2 s ⟨doneF .next,mh,pEnd,M6⟩=some s:=by obtain⟨h,g,d,t,os⟩:=s;kernel_rfl
end
section
theorem IP{yw:SharedT->Bool}{yx:List Nat}{D:Params->List Obj}{α:Type}{Yf:Shared->α}{Ya:World->α}(run:∀w,qy yw yx D w)(hy:∀w s,yw s=true->yx.map s.tree.get=(D w.params).map some->Yf s.abs=Ya w):LeftO pg qv lz Os Yf Ya 20000 true:=by
 intro w;obtain⟨⟨h,gs,d,k,os⟩,e,e'⟩:=aX.mp (Gv w);obtain⟨rfl,rfl,rfl,rfl⟩:h=boot_heap w.params/\gs=Array.mk []/\d=boot_drawn/\k=boot_toks:=by simpa using e'
 obtain⟨z1,z2,z3⟩:_/\_/\_:=by simpa only[Prod.mk.injEq]using Gw w
 obtain⟨⟨f,s,c,p'⟩,h1,h2⟩:=aX.mp (run w os);obtain⟨e1,e2,e3,e6,e4,e5⟩:f=.next/\(c,p')=(mh,pEnd)/\yw s=true/\yx.map s.tree.get=(D w.params).map some/\yv pg (importedModules pg.main.body) (boot_heap w.params) s.abs=true/\openSeen qv lz (importedModules pg.main.body) Os true s.abs=openGood qv lz:=by unfold Ot at h2;simpa only[Prod.mk.injEq]using h2
 obtain⟨rfl,rfl⟩:=Prod.mk.inj e2;subst e1
 have r1:topRun treeTable pg w 11 xV (7000+2) (S0 w os).abs (restOf (bdy++[]) Gu mh MP M6)=some s.abs:=
  piece_app (segRun_of h1) (piece_nil (Kb w s.abs))
 rw[cz]at r1;have r2:=piece_block (Ka w os) r1;have r3:=go_top (J9 w os) r2;have r4:=topRun_mono (20000-(12+(1+(7000+2)))) _ _ _ _ r3;have t:topFrom treeTable pg w 20000 ⟨boot_heap w.params,Array.mk [],boot_drawn,boot_toks,os⟩=some s.abs:=by unfold topFrom;dsimp only;rw[z1,z2,z3];have r4':topRun treeTable pg w 11 xV 20000 ⟨boot_heap w.params,Array.mk [],boot_drawn,boot_toks,os⟩ (topStub pg)=some s.abs:=r4;rw[r4'];show(match yv pg (importedModules pg.main.body) (boot_heap w.params) s.abs with|true=>_|false=>_)=_;rw[e4]
 unfold openEnds;rw[e];show(topFrom treeTable pg w 20000 _).map _=_;rw[t];show some (openSeen qv lz (importedModules pg.main.body) Os true s.abs,Yf s.abs)=_;rw[e5,hy w s e3 e6]
lay_quick PySem.Program.tablesWhole
theorem F0:pg.tablesWhole=true:=by rw[Fast.te6922068901642942510];kernel_rfl
theorem MF:(chainsOk qv&&opensWell pg&&(frees PySem.Challenge.rw_og0112_01.row.toRowW&&PySem.Challenge.rw_og0112_01.row.within.isEmpty))=true:=by kernel_rfl
theorem hd4:pg.bare:=⟨rfl,rfl,rfl,rfl,rfl,F0⟩
theorem hd6:PySem.Challenge.rw_og0112_01.row.toRowW.promised:=by w_witness2
theorem L6(said:OpenLaw.wellSaid PySem.Challenge.rw_og0112_01=true){yw:SharedT->Bool}{yx:List Nat}{D:Params->List Obj}{YP:Heap->Prop}(run:∀w,qy yw yx D w)(hy:∀s,yw s=true->YP s.abs.heap)
  (hd:∀(w:World) (s:SharedT),yw s=true->yx.map s.tree.get=(D w.params).map some->yx.map s.abs.heap.get?=(D w.params).map some) (hk:∀h h',YP h->(∀b o,h.get? b=some o->h'.get? b=some o)->YP h')
  (call:∀d kwd,defOf qv PySem.Challenge.rw_og0112_01.row.name=some (d,kwd)->WalkO qv lz (λ_ _=>True) (λw h=>YP h/\yx.map h.get?=(D w.params).map some) PySem.Challenge.rw_og0112_01.row.toRowW d kwd λf vs=>PySem.call f vs):PySem.Challenge.rw_og0112_01.Holds:=by
 refine holds_law said λRC=>holds_open (r:=PySem.Challenge.rw_og0112_01.row) (q:=qv) (loose:=lz) (Xt:=Os) (XP:=λ_ _=>True) (Yf:=λs=>(YP s.heap,yx.map s.heap.get?)) (Ya:=λw=>(True,(D w.params).map some)) (YP:=λw h=>YP h/\yx.map h.get?=(D w.params).map some) (N:=20000)
  (IP run λw s e1 e2=>?_) (λw s e=>?_) (λw h h' e k=>?_) (λ_ _=>trivial) (λ_ _ _ _ _=>trivial) rfl rfl rfl (λs e=>recFacts_nil (by rfl)) (by rfl) RC MF hd4 hd6 (call _ _ rfl)
 ·exact Prod.ext (eq_true (hy s e1)) (hd w s e1 e2)
 ·obtain⟨e1,e2⟩:=Prod.mk.inj e;exact⟨of_eq_true e1,e2⟩
 ·refine⟨hk h h' e.1 k,?_⟩;rw[←e.2];have key:∀(l:List Nat) (L:List Obj),l.map h.get?=L.map some->l.map h'.get?=l.map h.get?:=λl=>by induction l with|nil=>intro L _;rfl|cons a l ih=>intro L e;cases L with|nil=>cases e|cons o L=>rw[aC,aC,List.cons.injEq]at e;rw[aC,aC,ih L e.2,e.1,k _ _ e.1]
  exact key yx _ e.2
end
section
theorem UO:∀w,qy L4 Cc Cd w:=byRow2 "special-get-raises" Qc Qd
theorem H8:(Cc.all λa=>Nat.blt a 1052)=true:=by kernel_rfl
theorem y9(P:Params):((Cd P).all mW)=true:=by kernel_rfl
theorem L5{h:Heap}{P:Params}(e:Cc.map h.get?=(Cd P).map some):Frag.In (bN P) h/\h.get? 295=some tab0/\h.get? 477=some tab0:=by
 unfold Cc Cd at e;rw[List.map_append,List.map_append]at e;have len:(Qe.map h.get?).length=((Qf P).map some).length:=by rw[bg,bg,za P];unfold Qf;rw[bg,bg]
 obtain⟨e1,e2⟩:=List.append_inj e len;refine⟨in_of (by rw[←za];exact e1),?_⟩;have e2:[h.get? 295,h.get? 477]=[some tab0,some tab0]:=e2;simp only[List.cons.injEq,cr]at e2;exact e2
theorem top(said:OpenLaw.wellSaid PySem.Challenge.rw_og0112_01=true)
  (call:∀d kwd,defOf qv PySem.Challenge.rw_og0112_01.row.name=some (d,kwd)->WalkO qv lz (λ_ _=>True) (λw h=>Frag.In (bN w.params) h/\h.get? 295=some tab0/\h.get? 477=some tab0) PySem.Challenge.rw_og0112_01.row.toRowW d kwd λf vs=>PySem.call f vs):PySem.Challenge.rw_og0112_01.Holds:=by
 refine L6 (YP:=λ_=>True) said UO (λs e=>trivial) (λw s e1 e2=>AD e1 H8 (y9 _) e2) (λh h' e k=>trivial) λd kwd e=>?_;intro w s₀ s₁ mg mb G Y;exact call d kwd e w s₀ s₁ mg mb G (L5 Y.2)
end
def xU:=And.intro Fast.te11788848310118352699 (And.intro Fast.te9807087744658564304 (And.intro Fast.te12862048085361865435 (And.intro Fast.te8377067652309620493 (And.intro Fast.te18344453789297297638 (And.intro Fast.te14412699480532031325 (And.intro Fast.te17119622794617984870 (And.intro Fast.te13582783067957832011 (And.intro Fast.te10501279942588096481 (And.intro Fast.te8179353310426384613 (And.intro Fast.te9558739934217749035 (And.intro Fast.te16286561074155671207 (And.intro Fast.te482687673346738481 (And.intro Fast.te5923862056798008813 (And.intro Fast.te17868728402115742887 (And.intro Fast.te6984425678791042302 (And.intro Fast.te16848011837605711753 (And.intro Fast.te440149845449813962 (And.intro Fast.te15029574424589162856 (And.intro Fast.te15410450039723396583 (And.intro Fast.te8326940854005059898 (Fast.te13343964577679436407)))))))))))))))))))))
section
theorem HJ(l:List Str)(x:Str)(h:(l.all λy=>y.cps.size !=x.cps.size)=true):l.contains x=false:=by cases hc:l.contains x with|false=>rfl|true=>have hm:=List.contains_iff_mem.mp hc;have:=aS.mp h x hm;simp at this
theorem mU(lk:Look):∀(a b:List Stmt),noRoadLSs lk (a++b)=(noRoadLSs lk a&&noRoadLSs lk b)|[],b=>(Bool.true_and _).symm|s::r,b=>by show(noRoadLS lk s&&noRoadLSs lk (r++b))=((noRoadLS lk s&&noRoadLSs lk r)&&noRoadLSs lk b);rw[mU lk r b,Bool.and_assoc]
theorem b7{a b:Bool}(x:a=true)(y:b=true):(a&&b)=true:=by rw[x,y];rfl
noncomputable def ie:Look:={strict:=false,foot:=none,bare:=[]}
noncomputable def gA:Program:=PySem.Challenge.rw_og0112_01.row.prog
def gB:List Stmt:=gA.main.body
theorem Ca:(!(importedModules gB).all cThrough.contains)=false:=by
 have h:(importedModules gB).all cThrough.contains=true:=by((try simp only[xU]);kernel_rfl)
 rw[h];rfl
theorem Ul:(!readsOut gA gB "vars")=true:=by((try simp only[xU]);kernel_rfl)
theorem Um:(!readsOut gA gB "dir")=true:=by((try simp only[xU]);kernel_rfl)
theorem Un:(!readsOut gA gB "locals")=true:=by((try simp only[xU]);kernel_rfl)
theorem HK:(["vars","dir","locals"]:List Str).filter (readsOut gA gB)=[]:=by have h1:=Ul;have h2:=Um;have h3:=Un;simp only[Bool.not_eq_true']at h1 h2 h3;simp[List.filter,h1,h2,h3]
def Jz:List Stmt:=gB.take 93
def Ew:List Stmt:=gB.drop 94
def Uo:Stmt:=(gB.drop 93).headD (.Pass ⟨0,0,0,0⟩)
theorem Ex{α:Type}(d:α):∀(n:Nat) (l:List α),Nat.blt n l.length=true->l=l.take n++(l.drop n).headD d::l.drop (n+1)|_,[],h=>by cases h|0,a::l,_=>rfl|n+1,a::l,h=>by have:=Ex d n l (bp (Nat.le_of_succ_le_succ (aa h)));exact congrArg (a::·) this
theorem HL:gB=Jz++Uo::Ew:=Ex _ 93 gB (by kernel_rfl)
theorem ZK:noRoadLSs ie Jz=true:=by((try simp only[xU]);kernel_rfl)
theorem ZL:noRoadLSs ie Ew=true:=by((try simp only[xU]);kernel_rfl)
def sK:Str:=⟨wK.toArray⟩
theorem Up:HM=sK:=Ay
theorem HN:sK.cps.size=1860:=by decide+kernel
theorem LP:∃p1 k p2 p3,Uo=.Assign [.Name "RESERVED" p1] (.Constant (.str sK) k p2) p3:=by rw[←Up];exact⟨_,_,_,_,rfl⟩
theorem Ey:frameAttrs.contains sK=false:=HJ _ _ (by rw[HN];(try simp only[xU]);kernel_rfl)
theorem HP:sK.opensWith "__"=false:=by decide+kernel
theorem LQ:attrL sK=true:=by unfold attrL;rw[Ey,HP];rfl
theorem LR:ie.word sK=true:=by unfold Look.word;rw[LQ];rfl
theorem LS:roadStr sK=false:=by unfold roadStr;simp only[←Array.any_toList];show((wK.any λc=>c==123||c==125)||((wK.any (·==46))&&!(wK.any λc=>decide (c<=32))))=false;decide+kernel
theorem PX:ie.str sK=true:=by unfold Look.str;rw[LR,LS];simp
theorem ZM:noRoadLS ie Uo=true:=by
 obtain⟨p1,k,p2,p3,e⟩:=LP;rw[e];show(ie.stores [.Name "RESERVED" p1]&&(noRoadLs ie [.Name "RESERVED" p1])&&noRoadL ie (.Constant (.str sK) k p2))=true;refine b7 (b7 ?_ ?_) ?_
 ·rfl
 ·show(ie.name "RESERVED"&&true)=true;decide+kernel
 ·exact PX
theorem LU:noRoadLSs ie gB=true:=by rw[HL,mU];exact b7 ZK (b7 ZM ZL)
theorem HQ:({strict:=!(importedModules gA.main.body).all cThrough.contains,foot:=none,bare:=(["vars","dir","locals"]:List Str).filter (readsOut gA gA.main.body)}:Look)=ie:=by have h1:(!(importedModules gA.main.body).all cThrough.contains)=false:=Ca;have h2:(["vars","dir","locals"]:List Str).filter (readsOut gA gA.main.body)=[]:=HK;rw[h1,h2];rfl
theorem HR:looksOpen gA=true:=by
 unfold looksOpen;refine b7 (b7 (b7 (b7 (b7 ?_ ?_) ?_) ?_) ?_) ?_
 ·(try simp only[xU]);kernel_rfl
 ·(try simp only[xU]);kernel_rfl
 ·(try simp only[xU]);kernel_rfl
 ·(try simp only[xU]);kernel_rfl
 ·rw[HQ];exact LU
 ·(try simp only[xU]);kernel_rfl
theorem LV:OpenRow.partSaid PySem.Challenge.rw_og0112_01.row=true:=by
 unfold OpenRow.partSaid;refine b7 (b7 (b7 (b7 (b7 (b7 (b7 (b7 (b7 (b7 (b7 (b7 (b7 ?_ ?_) ?_) ?_) ?_) ?_) ?_) ?_) ?_) ?_) ?_) ?_) ?_) ?_
 ·exact HR
 all_goals ((try simp only[xU]);kernel_rfl)
theorem said:OpenLaw.wellSaid PySem.Challenge.rw_og0112_01=true:=by
 unfold OpenLaw.wellSaid;refine b7 (b7 (b7 (b7 (b7 (b7 (b7 (b7 (b7 (b7 (b7 (b7 (b7 (b7 (b7 (b7 (b7 (b7 ?_ ?_) ?_) ?_) ?_) ?_) ?_) ?_) ?_) ?_) ?_) ?_) ?_) ?_) ?_) ?_) ?_) ?_) ?_
 ·unfold OpenRow.wellSaid;exact b7 (b7 LV (by((try simp only[xU]);kernel_rfl))) (by((try simp only[xU]);kernel_rfl))
 all_goals ((try simp only[xU]);kernel_rfl)
end
end
section
set_option tactic.hygienic true
inductive LT where
 |v(i:Nat)|n(k:Nat)|a(x y:LT)|m(k:Nat)(x:LT)
noncomputable def hd(l:List Nat):Nat:=List.casesOn l 0 λa z_=>a
noncomputable def tl(l:List Nat):List Nat:=List.casesOn l [] λz_ r=>r
def nth(ρ:List Nat)(i:Nat):Nat:=Nat.rec (motive:=λz_=>List Nat->Nat) hd (λz_ f ρ=>f (tl ρ)) i ρ
def LT.den(ρ:List Nat)(t:LT):Nat:=LT.rec (λi=>nth ρ i) (λk=>k) (λz_ z_ x y=>x+y) (λk z_ x=>k*x) t
def dot(l ρ:List Nat):Nat:=List.rec (motive:=λz_=>List Nat->Nat) (λz_=>0) (λa z_ f ρ=>a*hd ρ+f (tl ρ)) l ρ
def mZ(l m:List Nat):List Nat:=List.rec (motive:=λz_=>List Nat->List Nat) (λm=>m) (λa z_ f m=>(a+hd m)::f (tl m)) l m
noncomputable def mulL(k:Nat)(l:List Nat):List Nat:=l.map λa=>k*a
noncomputable def unit(i:Nat):List Nat:=Nat.rec [1] (λz_ l=>0::l) i
def LT.lin(t:LT):List Nat:=LT.rec (λi=>0::unit i) (λk=>[k]) (λz_ z_ x y=>mZ x y) (λk z_ x=>mulL k x) t
theorem Fe(y ρ):dot y ρ=hd y*hd ρ+dot (tl y) (tl ρ):=by cases y with|nil=>show 0=0*hd ρ+0;rw[Nat.zero_mul]|cons a r=>rfl
theorem jf(x):∀(y ρ:List Nat),dot (mZ x y) ρ=dot x ρ+dot y ρ:=by induction x with|nil=>exact λy ρ=>(Nat.zero_add _).symm|cons a r ih=>intro y ρ;show(a+hd y)*hd ρ+dot (mZ r (tl y)) (tl ρ)=a*hd ρ+dot r (tl ρ)+dot y ρ;rw[ih,Fe y ρ,Nat.add_mul,Nat.add_add_add_comm]
theorem u5(k)(x:List Nat):∀ρ:List Nat,dot (mulL k x) ρ=k*dot x ρ:=by induction x with|nil=>exact λρ=>rfl|cons a r ih=>intro ρ;show k*a*hd ρ+dot (mulL k r) (tl ρ)=k*(a*hd ρ+dot r (tl ρ));rw[ih,Nat.mul_add,Nat.mul_assoc]
theorem Ff(i):∀ρ:List Nat,dot (unit i) ρ=nth ρ i:=by induction i with|zero=>exact λρ=>Nat.one_mul (hd ρ)|succ i ih=>intro ρ;show 0*hd ρ+dot (unit i) (tl ρ)=nth (tl ρ) i;rw[ih,Nat.zero_mul,Nat.zero_add]
theorem LT.kL(ρ)(e:LT):dot e.lin (1::ρ)=e.den ρ:=by induction e with|v i=>show 0*1+dot (unit i) ρ=nth ρ i;rw[Ff,Nat.zero_mul,Nat.zero_add]|n k=>exact Nat.mul_one k|a x y hx hy=>show dot (mZ x.lin y.lin) _=x.den ρ+y.den ρ;rw[jf,hx,hy]|m k x hx=>show dot (mulL k x.lin) _=k*x.den ρ;rw[u5,hx]
def X7(l m:List Nat):Bool:=List.rec (motive:=λz_=>List Nat->Bool) (λz_=>true) (λa z_ f m=>Nat.ble a (hd m)&&f (tl m)) l m
theorem Mi(x):∀{y:List Nat},X7 x y=true->∀ρ,dot x ρ<=dot y ρ:=by induction x with|nil=>exact λz_ ρ=>bo _|cons a r ih=>intro y h ρ;have h:=bk.mp h;rw[Fe y ρ];exact Nat.add_le_add (Nat.mul_le_mul_right _ (aa h.1)) (ih h.2 _)
inductive LH where
 |o|c (a b:LT) (r:LH)|d (k:Nat) (a b:LT) (r:LH)
def QA(ρ:List Nat)(G:Prop)(h:LH):Prop:=LH.rec G (λa b z_ g=>a.den ρ<=b.den ρ->g) (λz_ a b z_ g=>a.den ρ<=b.den ρ->g) h
def Im(h:LH):List Nat:=LH.rec [] (λa z_ z_ l=>mZ a.lin l) (λk a z_ z_ l=>mZ (mulL k a.lin) l) h
def Io(h:LH):List Nat:=LH.rec [] (λz_ b z_ l=>mZ b.lin l) (λk z_ b z_ l=>mZ (mulL k b.lin) l) h
theorem Ip(hs):(dot (Im hs) (1::ρ)<=dot (Io hs) (1::ρ)->G)->QA ρ G hs:=by induction hs with|o=>exact λh=>h (aD _)|c a b r ih=>refine λh h1=>ih λh2=>h ?_;show dot (mZ a.lin (Im r)) (1::ρ)<=dot (mZ b.lin (Io r)) (1::ρ);rw[jf,jf,a.kL,b.kL];exact Nat.add_le_add h1 h2|d k a b r ih=>refine λh h1=>ih λh2=>h ?_;show dot (mZ (mulL k a.lin) (Im r)) (1::ρ)<=dot (mZ (mulL k b.lin) (Io r)) (1::ρ);rw[jf,jf,u5,u5,a.kL,b.kL];exact Nat.add_le_add (Nat.mul_le_mul_left k h1) h2
theorem aA(ρ)(hs:LH)(A B:LT)(c:X7 (mZ A.lin (Io hs)) (mZ B.lin (Im hs))=true):QA ρ (A.den ρ<=B.den ρ) hs:=
 Ip _ λh=>by have:=Mi _ c (1::ρ);rw[jf,jf,A.kL,B.kL]at this;exact Nat.le_of_add_le_add_right (aw this (Nat.add_le_add_left h _))
theorem mC(e:Nat.ble a b=true):a<=b:=aa e
theorem mA(j k)(e:Nat.ble j k=true):a+j<=a+k:=Nat.add_le_add_left (aa e) a
theorem mB(j)(h:a+k<=n)(e:Nat.ble j k=true):a+j<=n:=aw (mA j k e) h
theorem mE(h:a<=n)(e:Nat.ble n m=true):a<=m:=aw h (aa e)
theorem oM0(h0:(1000000+b).succ<=1000000):a=b:=(Nat.not_succ_le_self _ (aw (bV (Nat.le_add_right _ b)) h0)).elim
theorem oM1(h0:(1000000+a).succ<=1000000):a=b:=(Nat.not_succ_le_self _ (aw (bV (Nat.le_add_right _ a)) h0)).elim
theorem oM2(h0:1000000+a=1000000+b):a=b:=Nat.le_antisymm (aA [a,b] (.c (.a (.n 1000000) (.v 0)) (.a (.n 1000000) (.v 1)) .o) (.v 0) (.v 1) rfl (a7 h0)) (aA [b,a] (.c (.a (.n 1000000) (.v 0)) (.a (.n 1000000) (.v 1)) .o) (.v 0) (.v 1) rfl (a7 h0.symm))
theorem oM3(h0:b<1000):¬1000000+a=b:=λe=>eN _ (aB h0 (e▸aw (mC rfl) (Nat.le_add_right 1000000 a)))
theorem WP{a b:Nat}(h0:b<=a):a=a-b+b:=(dr h0).symm
theorem oM5{a b:Nat}(h0:a<=b):¬a>b:=Nat.not_lt_of_le (aA [a,b] (.c (.v 0) (.v 1) .o) (.v 0) (.v 1) rfl h0)
theorem oM7{a b c:Nat}(h0:b<=a)(h1:a<=c+b):a-b<=c:=Nat.sub_le_of_le_add h1
theorem oM8{a b c:Nat}(h0:a<=b)(h1:c<=b)(h2:b<=a+c):min a b-(b-c)=min (a-(b-c)) c:=by rw[Nat.min_eq_left h0,Nat.min_eq_left (Nat.sub_le_of_le_add (by rw[Nat.add_sub_cancel' h1];exact h0))]
theorem oM9{a b c:Nat}(h0:c<=a)(h1:b<=a)(h2:a<=c+b):a-b<=min c a:=Nat.le_min.mpr ⟨Nat.sub_le_of_le_add h2,Nat.sub_le _ _⟩
theorem Vc{a b c:Nat}(h0:b<=a)(h1:c<=a)(h2:a<=b+c):a-b<=c-(b-(a-c)):=a7 (by rw[Nat.sub_sub_right c (Nat.sub_le_of_le_add h2),Nat.add_sub_cancel' h1])
theorem Vd{a b c:Nat}(h0:c<=b)(h1:a<=b)(h2:b<=c+a):a-(b-c)=c-(b-a):=by rw[Nat.sub_sub_right a h0,Nat.sub_sub_right c h1,Nat.add_comm]
theorem Ve{a b:Nat}(h0:a<=b):min a b=a:=Nat.min_eq_left h0
theorem QB{a b c:Nat}(h0:b<=a)(h1:a<=b+c):a<=b+(c-(c-(a-b))):=a7 (by rw[Nat.sub_sub_self (Nat.sub_le_of_le_add (Nat.add_comm b c▸h1)),Nat.add_sub_cancel' h0])
theorem U4{a b c:Nat}(h0:a=b+(c-(c-(a-b)))):a<=b+c:=aw (a7 h0) (Nat.add_le_add_left (Nat.sub_le _ _) b)
theorem U5{a b c d:Nat}(h0:c<=b)(h1:a=c)(h2:d=b):a<=b:=aA [c,b,a] (.c (.v 0) (.v 1) (.c (.v 2) (.v 0) .o)) (.v 2) (.v 1) rfl h0 (a7 h1)
theorem U6{a b c d e f:Nat}(h0:a<=d+e)(h1:b=d)(h2:c=e)(h3:f=a):a<=b+c:=aA [a,d,e,b,c] (.c (.v 0) (.a (.v 1) (.v 2)) (.c (.v 1) (.v 3) (.c (.v 2) (.v 4) .o))) (.v 0) (.a (.v 3) (.v 4)) rfl h0 (a7 h1.symm) (a7 h2.symm)
theorem Qv{a b c d e f:Nat}(h0:b<=a)(h1:a<=b+c)(h2:d=b)(h3:e=c)(h4:f=a):a<=b+(c-(c-(a-b))):=QB h0 h1
theorem N2(h0:b<=1048576)(h1:a=b):a<=16777216:=aA [b,a] (.c (.v 0) (.n 1048576) (.c (.v 1) (.v 0) .o)) (.v 1) (.n 16777216) rfl h0 (a7 h1)
theorem S7{a:Nat}(h0:a<256):0<=(a:Int)/\(a:Int)<256:=⟨cH a,Int.ofNat_lt.mpr h0⟩
theorem P6{a b c:Nat}(h0:c=b)(h1:a<c):a<b:=aA [c,b,a] (.c (.v 0) (.v 1) (.c (.a (.v 2) (.n 1)) (.v 0) .o)) (.a (.v 2) (.n 1)) (.v 1) rfl (a7 h0) h1
theorem Vf{a b c:Nat}(h0:a=c)(h1:¬b<a):a<=b:=aA [a,b] (.c (.v 0) (.v 1) .o) (.v 0) (.v 1) rfl (Nat.le_of_not_lt h1)
theorem Vg{a b c:Nat}(h0:c=a)(h1:¬b<c):a<=b:=aA [a,c,b] (.c (.v 0) (.v 1) (.c (.v 1) (.v 2) .o)) (.v 0) (.v 2) rfl (a7 h0.symm) (Nat.le_of_not_lt h1)
theorem Vh(h0:a<=8388608/\b<=1000):a<=16777216:=aw h0.1 (mC rfl)
theorem Vi:¬((a+1:Nat):Int)=0:=λe=>Nat.succ_ne_zero a (Int.ofNat.inj e)
theorem Vj(h0:a+b<=1048576)(h1:c=a)(h2:d=b):a+b<=16777216:=aA [a,b] (.c (.a (.v 0) (.v 1)) (.n 1048576) .o) (.a (.v 0) (.v 1)) (.n 16777216) rfl h0
theorem Vk{a b c:Nat}:((a+b:Nat):Int)+(c:Int)=((a+(b+c):Nat):Int):=congrArg Int.ofNat (Nat.add_assoc a b c)
theorem Vl{a:Nat}(h0:a<=1000):(a:Int)<=1000000:=Int.ofNat_le.mpr (mE h0 rfl)
theorem Pg(h0:min a b=a):0+a<=b:=aw (a7 ((Nat.zero_add a).trans h0.symm)) (Nat.min_le_right a b)
theorem Nc(h0:a+b<=c):a+1+b<=c+1:=aA [a,b,c] (.c (.a (.v 0) (.v 1)) (.v 2) .o) (.a (.a (.v 0) (.n 1)) (.v 1)) (.a (.v 2) (.n 1)) rfl h0
theorem TY(h0:a+1+b<=c+1):a+b<=c:=aA [a,b,c] (.c (.a (.a (.v 0) (.n 1)) (.v 1)) (.a (.v 2) (.n 1)) .o) (.a (.v 0) (.v 1)) (.v 2) rfl h0
theorem TZ{a b c:Nat}(h0:c<=a):a<=b↔c<=b/\a<=b:=⟨λh=>⟨aw h0 h,h⟩,And.right⟩
theorem T1{a b c:Nat}(h0:¬a<=c):a<=b↔a<=b/\c<=b:=⟨λh=>⟨h,aw (cb (Nat.lt_of_not_le h0)) h⟩,And.left⟩
theorem T3(h0:a<b):a<b-1+1:=by rw[dr (bY (bo a) h0)];exact h0
theorem Ph(h0:a<=b-1)(h1:c<b):a<b:=bY h0 (Nat.sub_lt (bY (bo c) h1) Nat.zero_lt_one)
theorem T4(h0:a+(b+1)<c):a+1+b<c:=aA [a,b,c] (.c (.a (.a (.v 0) (.a (.v 1) (.n 1))) (.n 1)) (.v 2) .o) (.a (.a (.a (.v 0) (.n 1)) (.v 1)) (.n 1)) (.v 2) rfl h0
theorem B4(h0:a+(c+1)<b):a<b:=aA [a,c,b] (.c (.a (.a (.v 0) (.a (.v 1) (.n 1))) (.n 1)) (.v 2) .o) (.a (.v 0) (.n 1)) (.v 2) rfl h0
theorem Pi{a b c d:Nat}(h0:c=d)(h1:a=c)(h2:b=d):a=b:=Nat.le_antisymm (aA [c,d,a,b] (.c (.v 0) (.v 1) (.c (.v 2) (.v 0) (.c (.v 1) (.v 3) .o))) (.v 2) (.v 3) rfl (a7 h0) (a7 h1) (a7 h2.symm)) (aA [d,c,a,b] (.c (.v 0) (.v 1) (.c (.v 1) (.v 2) (.c (.v 3) (.v 0) .o))) (.v 3) (.v 2) rfl (a7 h0.symm) (a7 h1.symm) (a7 h2))
theorem Vm(h0:a+d=e)(h1:c+0=e):((a+b:Nat):Int)<((c+0:Nat):Int)↔b<d:=Int.ofNat_lt.trans (by rw[h1,←h0];exact Nat.add_lt_add_iff_left)
theorem Vn(h0:b+d=e)(h1:a+0=e):((a+0:Nat):Int)<=((b+c:Nat):Int)↔¬c<d:=Int.ofNat_le.trans (by rw[h1,←h0];exact Nat.add_le_add_iff_left.trans bO.symm)
theorem Vo{a b:Nat}(h0:a<=b):a=min a b:=(Nat.min_eq_left h0).symm
theorem Vp{a b:Nat}(h0:¬b<=a):a=min b a:=(Nat.min_eq_right (cb (Nat.lt_of_not_le h0))).symm
theorem Vq:1<=a+1:=aA [a] .o (.n 1) (.a (.v 0) (.n 1)) rfl
theorem Vr{a b:Nat}(h0:(a:Int)=max 0 (min c (b:Int))):a<=b:=Int.ofNat_le.mp (Int.le_trans (Int.le_of_eq h0) (Int.max_le.mpr ⟨cH b,Int.min_le_right c b⟩))
theorem Vs{a:Nat}:¬(a:Int)<0:=Int.not_lt.mpr (cH a)
theorem Vt{a b:Nat}(h0:a<b)(h1:c=(a:Int)):0<=(a:Int)/\(a:Int)<(b:Int):=⟨cH a,Int.ofNat_lt.mpr h0⟩
theorem Vu(h0:b+1<=a):0<=((a-(b+1):Nat):Int)/\((a-(b+1):Nat):Int)<(a:Int):=⟨cH _,Int.ofNat_lt.mpr (Nat.sub_lt (aB (Nat.succ_pos b) h0) (Nat.succ_pos b))⟩
theorem Vv{a:Nat}:0<=(a:Int):=cH a
theorem Vw(h0:a<0):max (a+(b:Int)) 0=max 0 (min (a+(b:Int)) (b:Int)):=by rw[Int.min_eq_left (by have:=Int.add_le_add_right (Int.le_of_lt h0) (b:Int);rwa [Int.zero_add]at this),Int.max_comm]
theorem Vx{b:Nat}(h0:¬a<0):min a (b:Int)=max 0 (min a (b:Int)):=(Int.max_eq_right (Int.le_min.mpr ⟨Int.not_lt.mp h0,cH b⟩)).symm
theorem Vy{a b:Nat}(h0:(b:Int)<(a:Int)):((a:Int)-(b:Int)-1+1).toNat=a-b:=by rw[Int.sub_add_cancel];exact Int.toNat_sub a b
theorem Vz{a b:Nat}(h0:¬(b:Int)<(a:Int)):Int.toNat 0=a-b:=(Nat.sub_eq_zero_of_le (Int.ofNat_le.mp (Int.not_lt.mp h0))).symm
theorem VA{a b:Nat}:((a:Int)+(b:Int)*1).toNat=a+b:=by rw[Int.mul_one];rfl
theorem Mj{a b c d:Nat}(h0:c<=d):min (a-b) (c-b)<=d:=aw (Nat.min_le_right _ _) (aw (Nat.sub_le _ _) h0)
theorem VB{a b c d:Nat}(h0:c<=16777216)(h1:d=c):min (a-b) (c-b)<=16777216:=Mj h0
theorem BE(h0:a<=1048576)(h1:b=a):a<=16777216:=aA [a] (.c (.v 0) (.n 1048576) .o) (.v 0) (.n 16777216) rfl h0
theorem QC{a b c d:Nat}(h0:c<=1048576)(h1:d=c):min (a-b) (c-b)<=1048576:=Mj h0
theorem Ky(h0:a<=b):a+1<=b+1:=aA [a,b] (.c (.v 0) (.v 1) .o) (.a (.v 0) (.n 1)) (.a (.v 1) (.n 1)) rfl h0
theorem VD{a b c d:Nat}(h0:b<=c)(h1:a+c=d)(h2:a+c=d):a+b+(c-b)=d:=by rw[Nat.add_assoc,Nat.add_sub_cancel' h0];exact h1
theorem VE{a b c d e:Nat}(h0:b+c*d<=e+d):a+b+(c*d+d)<=a+(d+e)+d:=aA [b,c*d,e,d,a] (.c (.a (.v 0) (.v 1)) (.a (.v 2) (.v 3)) .o) (.a (.a (.v 4) (.v 0)) (.a (.v 1) (.v 3))) (.a (.a (.v 4) (.a (.v 3) (.v 2))) (.v 3)) rfl h0
theorem aaq(h0:a<=b+1):a+1<=b+1+1:=aA [a,b] (.c (.v 0) (.a (.v 1) (.n 1)) .o) (.a (.v 0) (.n 1)) (.a (.v 1) (.n 2)) rfl h0
theorem aar(h0:a+1<=b+1):a+1<=b+1+1:=aA [a,b] (.c (.a (.v 0) (.n 1)) (.a (.v 1) (.n 1)) .o) (.a (.v 0) (.n 1)) (.a (.v 1) (.n 2)) rfl h0
theorem aas(h0:a<=b):a<=b+1:=aA [a,b] (.c (.v 0) (.v 1) .o) (.v 0) (.a (.v 1) (.n 1)) rfl h0
theorem VF(h0:a+1<b+1):a<b:=aA [a,b] (.c (.a (.v 0) (.n 2)) (.a (.v 1) (.n 1)) .o) (.a (.v 0) (.n 1)) (.v 1) rfl h0
theorem UK(h0:d<=8388608/\c<=1000)(h1:a+b*c<=d+c)(h2:e=c):a+b*c<=16777216:=aw h1 (aw (Nat.add_le_add h0.1 h0.2) (mC rfl))
theorem UL(h0:a<=1048575):a+2<=16777216:=aA [a] (.c (.v 0) (.n 1048575) .o) (.a (.v 0) (.n 2)) (.n 16777216) rfl h0
theorem UM(h0:a<=1048575):a+1<=1048576:=aA [a] (.c (.v 0) (.n 1048575) .o) (.a (.v 0) (.n 1)) (.n 1048576) rfl h0
theorem UN(h0:a<=1000):¬a>16777216:=Nat.not_lt_of_le (aA [a] (.c (.v 0) (.n 1000) .o) (.v 0) (.n 16777216) rfl h0)
theorem UF{a:Nat}(h0:a<256):(a:Int)<=1114111:=Int.ofNat_le.mpr (aw (cb h0) (mC rfl))
theorem SP(h0:b+1<=a):a=a-1+1:=(dr (aw (bV (bo b)) h0)).symm
theorem SQ(h0:a+1<=b+1):a<=b:=aA [a,b] (.c (.a (.v 0) (.n 1)) (.a (.v 1) (.n 1)) .o) (.v 0) (.v 1) rfl h0
theorem VG:a<=8+a:=aA [a] .o (.v 0) (.a (.n 8) (.v 0)) rfl
theorem VH:0+1+1+1+a+1<=8+a:=aA [a] .o (.a (.a (.n 3) (.v 0)) (.n 1)) (.a (.n 8) (.v 0)) rfl
theorem VI:0+1+1+1+1+1+a+1<=8+a:=aA [a] .o (.a (.a (.n 5) (.v 0)) (.n 1)) (.a (.n 8) (.v 0)) rfl
theorem VJ:0+1+1+1+1+1+1+1+a+1<=8+a:=aA [a] .o (.a (.a (.n 7) (.v 0)) (.n 1)) (.a (.n 8) (.v 0)) rfl
theorem VK(h0:a<=4)(h1:b<=12)(h2:d<=9)(h3:c<=8+d):a+(b+c)<=60:=aA [a,b,d,c] (.c (.v 0) (.n 4) (.c (.v 1) (.n 12) (.c (.v 2) (.n 9) (.c (.v 3) (.a (.n 8) (.v 2)) .o)))) (.a (.v 0) (.a (.v 1) (.v 3))) (.n 60) rfl h0 h1 h2 h3
theorem VL(h0:a<=60):0<=999999/\a<=8388608:=⟨aA [] .o (.n 0) (.n 999999) rfl,aA [a] (.c (.v 0) (.n 60) .o) (.v 0) (.n 8388608) rfl h0⟩
theorem VN(h0:a<=60):a+(0+1+(0+1+1)+1)<=140:=aA [a] (.c (.v 0) (.n 60) .o) (.a (.v 0) (.n 4)) (.n 140) rfl h0
theorem VO(h0:a<=60):0+1+1+1+(a+(0+1+1+1+1+1+1+1+1+1+1+1)+1)<=140:=aA [a] (.c (.v 0) (.n 60) .o) (.a (.n 3) (.a (.v 0) (.n 12))) (.n 140) rfl h0
theorem VP(h0:a<=60):a+(0+1+1+1+1+1+1+1+1)<=140:=aA [a] (.c (.v 0) (.n 60) .o) (.a (.v 0) (.n 8)) (.n 140) rfl h0
theorem VQ(h0:a<=60)(h1:b<=60):a+(0+1+1+(b+1)+1)<=140:=aA [a,b] (.c (.v 0) (.n 60) (.c (.v 1) (.n 60) .o)) (.a (.v 0) (.a (.a (.n 2) (.a (.v 1) (.n 1))) (.n 1))) (.n 140) rfl h0 h1
theorem VS(h0:a<=60)(h1:b<=7):a+(0+1+1+1+1)<=8388608/\a+(0+1+1+1+1)+b<=8388608/\0<=999999/\a+(0+1+1+1+1)+b<=8388608:=⟨aA [a] (.c (.v 0) (.n 60) .o) (.a (.v 0) (.n 4)) (.n 8388608) rfl h0,aA [a,b] (.c (.v 0) (.n 60) (.c (.v 1) (.n 7) .o)) (.a (.a (.v 0) (.n 4)) (.v 1)) (.n 8388608) rfl h0 h1,aA [] .o (.n 0) (.n 999999) rfl,aA [a,b] (.c (.v 0) (.n 60) (.c (.v 1) (.n 7) .o)) (.a (.a (.v 0) (.n 4)) (.v 1)) (.n 8388608) rfl h0 h1⟩
theorem VT(h0:a<=60):a+(0+1)<=8388608/\a+(0+1)+(0+1)<=8388608/\a+(0+1)+(0+1)+(0+1)<=8388608/\a+(0+1)+(0+1)+(0+1)+(0+1)<=8388608/\0<=999999/\a+(0+1)+(0+1)+(0+1)+(0+1)<=8388608:=⟨aA [a] (.c (.v 0) (.n 60) .o) (.a (.v 0) (.n 1)) (.n 8388608) rfl h0,aA [a] (.c (.v 0) (.n 60) .o) (.a (.v 0) (.n 2)) (.n 8388608) rfl h0,aA [a] (.c (.v 0) (.n 60) .o) (.a (.v 0) (.n 3)) (.n 8388608) rfl h0,aA [a] (.c (.v 0) (.n 60) .o) (.a (.v 0) (.n 4)) (.n 8388608) rfl h0,aA [] .o (.n 0) (.n 999999) rfl,aA [a] (.c (.v 0) (.n 60) .o) (.a (.v 0) (.n 4)) (.n 8388608) rfl h0⟩
theorem VU(h0:a<=60):0+1+1+1+1+(a+(0+1+1+1+1)+(0+1+1+1+1+1+1+1))<=8388608/\0<=999999/\0+1+1+1+1+(a+(0+1+1+1+1)+(0+1+1+1+1+1+1+1))<=8388608:=⟨aA [a] (.c (.v 0) (.n 60) .o) (.a (.n 4) (.a (.v 0) (.n 11))) (.n 8388608) rfl h0,aA [] .o (.n 0) (.n 999999) rfl,aA [a] (.c (.v 0) (.n 60) .o) (.a (.n 4) (.a (.v 0) (.n 11))) (.n 8388608) rfl h0⟩
theorem VV(h0:a<=60)(h1:b<=60):a+(0+1)<=8388608/\a+(0+1)+(0+1+1)<=8388608/\a+(0+1)+(0+1+1)+(0+1)<=8388608/\a+(0+1)+(0+1+1)+(0+1)+b<=8388608/\0<=999999/\a+(0+1)+(0+1+1)+(0+1)+b<=8388608:=⟨aA [a] (.c (.v 0) (.n 60) .o) (.a (.v 0) (.n 1)) (.n 8388608) rfl h0,aA [a] (.c (.v 0) (.n 60) .o) (.a (.v 0) (.n 3)) (.n 8388608) rfl h0,aA [a] (.c (.v 0) (.n 60) .o) (.a (.v 0) (.n 4)) (.n 8388608) rfl h0,aA [a,b] (.c (.v 0) (.n 60) (.c (.v 1) (.n 60) .o)) (.a (.a (.v 0) (.n 4)) (.v 1)) (.n 8388608) rfl h0 h1,aA [] .o (.n 0) (.n 999999) rfl,aA [a,b] (.c (.v 0) (.n 60) (.c (.v 1) (.n 60) .o)) (.a (.a (.v 0) (.n 4)) (.v 1)) (.n 8388608) rfl h0 h1⟩
theorem VW(h0:a<=60)(h1:b<=60)(h2:c<=60)(h3:d<=140):a+(0+1+1+1+1+1+1)+b+(0+1+1+1+1)+c+(0+1+1+1+1+1+1+1)+d<=350:=aA [a,b,c,d] (.c (.v 0) (.n 60) (.c (.v 1) (.n 60) (.c (.v 2) (.n 60) (.c (.v 3) (.n 140) .o)))) (.a (.a (.a (.a (.a (.a (.v 0) (.n 6)) (.v 1)) (.n 4)) (.v 2)) (.n 7)) (.v 3)) (.n 350) rfl h0 h1 h2 h3
theorem VX(h0:e<=10)(h1:a<=60)(h2:b<=60)(h3:c<=60)(h4:d<=140):a+(0+1+1+1+1+1+1)<=8388608/\a+(0+1+1+1+1+1+1)+b<=8388608/\a+(0+1+1+1+1+1+1)+b+(0+1+1+1+1)<=8388608/\a+(0+1+1+1+1+1+1)+b+(0+1+1+1+1)+c<=8388608/\a+(0+1+1+1+1+1+1)+b+(0+1+1+1+1)+c+(0+1+1+1+1+1+1+1)<=8388608/\a+(0+1+1+1+1+1+1)+b+(0+1+1+1+1)+c+(0+1+1+1+1+1+1+1)+d<=8388608/\e<=999999:=⟨aA [a] (.c (.v 0) (.n 60) .o) (.a (.v 0) (.n 6)) (.n 8388608) rfl h1,aA [a,b] (.c (.v 0) (.n 60) (.c (.v 1) (.n 60) .o)) (.a (.a (.v 0) (.n 6)) (.v 1)) (.n 8388608) rfl h1 h2,aA [a,b] (.c (.v 0) (.n 60) (.c (.v 1) (.n 60) .o)) (.a (.a (.a (.v 0) (.n 6)) (.v 1)) (.n 4)) (.n 8388608) rfl h1 h2,aA [a,b,c] (.c (.v 0) (.n 60) (.c (.v 1) (.n 60) (.c (.v 2) (.n 60) .o))) (.a (.a (.a (.a (.v 0) (.n 6)) (.v 1)) (.n 4)) (.v 2)) (.n 8388608) rfl h1 h2 h3,aA [a,b,c] (.c (.v 0) (.n 60) (.c (.v 1) (.n 60) (.c (.v 2) (.n 60) .o))) (.a (.a (.a (.a (.a (.v 0) (.n 6)) (.v 1)) (.n 4)) (.v 2)) (.n 7)) (.n 8388608) rfl h1 h2 h3,aA [a,b,c,d] (.c (.v 0) (.n 60) (.c (.v 1) (.n 60) (.c (.v 2) (.n 60) (.c (.v 3) (.n 140) .o)))) (.a (.a (.a (.a (.a (.a (.v 0) (.n 6)) (.v 1)) (.n 4)) (.v 2)) (.n 7)) (.v 3)) (.n 8388608) rfl h1 h2 h3 h4,aA [e] (.c (.v 0) (.n 10) .o) (.v 0) (.n 999999) rfl h0⟩
theorem VY(h0:a<=350)(h1:b<=350):a+(0+1+1+1+1+1+1+1+b)<=8388608:=aA [a,b] (.c (.v 0) (.n 350) (.c (.v 1) (.n 350) .o)) (.a (.v 0) (.a (.n 7) (.v 1))) (.n 8388608) rfl h0 h1
theorem VZ(h0:a<=350)(h1:b<=350)(h2:c<=350):a+(0+1+1+1+1+1+1+1+(b+(0+1+1+1+1+1+1+1+c)))<=8388608:=aA [a,b,c] (.c (.v 0) (.n 350) (.c (.v 1) (.n 350) (.c (.v 2) (.n 350) .o))) (.a (.v 0) (.a (.n 7) (.a (.v 1) (.a (.n 7) (.v 2))))) (.n 8388608) rfl h0 h1 h2
theorem V0(h0:a<=60):a+(0+1+1+1+1+1+1)<=1200:=aA [a] (.c (.v 0) (.n 60) .o) (.a (.v 0) (.n 6)) (.n 1200) rfl h0
theorem V7(h0:a<=2):a+(0+1+1+1+1+1+1)<=1200:=aA [a] (.c (.v 0) (.n 2) .o) (.a (.v 0) (.n 6)) (.n 1200) rfl h0
theorem V9(h0:a<=140):0+1+1+1+1+1+1+1+1+1+1+1+1+1+1+1+1+(0+1+1+1+1+1+(a+1)+1)<=1200:=aA [a] (.c (.v 0) (.n 140) .o) (.a (.n 16) (.a (.a (.n 5) (.a (.v 0) (.n 1))) (.n 1))) (.n 1200) rfl h0
theorem Wa(h0:a<=140):0+1+1+1+1+1+1+1+1+1+1+1+1+1+1+1+(0+1+1+1+1+1+(a+1)+1)<=1200:=aA [a] (.c (.v 0) (.n 140) .o) (.a (.n 15) (.a (.a (.n 5) (.a (.v 0) (.n 1))) (.n 1))) (.n 1200) rfl h0
theorem Wb(h0:a<=350):0+1+1+1+1+1+1+1+1+1+1+1+1+1+1+1+1+(0+1+1+1+1+1+1+1+(a+1)+1)<=1200:=aA [a] (.c (.v 0) (.n 350) .o) (.a (.n 16) (.a (.a (.n 7) (.a (.v 0) (.n 1))) (.n 1))) (.n 1200) rfl h0
theorem Wc(h0:a<=350):0+1+1+1+1+1+1+1+1+1+1+1+1+1+1+1+(0+1+1+1+1+1+1+1+(a+1)+1)<=1200:=aA [a] (.c (.v 0) (.n 350) .o) (.a (.n 15) (.a (.a (.n 7) (.a (.v 0) (.n 1))) (.n 1))) (.n 1200) rfl h0
theorem Wd(h0:a<=350)(h1:b<=350):0+1+1+1+1+1+1+1+1+1+1+1+1+1+1+1+1+(0+1+1+1+1+1+1+1+(a+(0+1+1+1+1+1+(b+1)+1)+1)+1)<=1200:=aA [a,b] (.c (.v 0) (.n 350) (.c (.v 1) (.n 350) .o)) (.a (.n 16) (.a (.a (.n 7) (.a (.a (.v 0) (.a (.a (.n 5) (.a (.v 1) (.n 1))) (.n 1))) (.n 1))) (.n 1))) (.n 1200) rfl h0 h1
theorem We(h0:a<=350)(h1:b<=350):0+1+1+1+1+1+1+1+1+1+1+1+1+1+1+1+(0+1+1+1+1+1+1+1+(a+(0+1+1+1+1+1+(b+1)+1)+1)+1)<=1200:=aA [a,b] (.c (.v 0) (.n 350) (.c (.v 1) (.n 350) .o)) (.a (.n 15) (.a (.a (.n 7) (.a (.a (.v 0) (.a (.a (.n 5) (.a (.v 1) (.n 1))) (.n 1))) (.n 1))) (.n 1))) (.n 1200) rfl h0 h1
theorem QD(h0:a<=350)(h1:b<=350)(h2:c<=350):0+1+1+1+1+1+1+1+1+1+1+1+1+1+1+1+1+(0+1+1+1+1+1+1+1+(a+(0+1+1+1+1+1+(b+(0+1+1+1+1+1+(c+1)+1)+1)+1)+1)+1)<=1200:=aA [a,b,c] (.c (.v 0) (.n 350) (.c (.v 1) (.n 350) (.c (.v 2) (.n 350) .o))) (.a (.n 16) (.a (.a (.n 7) (.a (.a (.v 0) (.a (.a (.n 5) (.a (.a (.v 1) (.a (.a (.n 5) (.a (.v 2) (.n 1))) (.n 1))) (.n 1))) (.n 1))) (.n 1))) (.n 1))) (.n 1200) rfl h0 h1 h2
theorem QE(h0:a<=350)(h1:b<=350)(h2:c<=350):0+1+1+1+1+1+1+1+1+1+1+1+1+1+1+1+(0+1+1+1+1+1+1+1+(a+(0+1+1+1+1+1+(b+(0+1+1+1+1+1+(c+1)+1)+1)+1)+1)+1)<=1200:=aA [a,b,c] (.c (.v 0) (.n 350) (.c (.v 1) (.n 350) (.c (.v 2) (.n 350) .o))) (.a (.n 15) (.a (.a (.n 7) (.a (.a (.v 0) (.a (.a (.n 5) (.a (.a (.v 1) (.a (.a (.n 5) (.a (.v 2) (.n 1))) (.n 1))) (.n 1))) (.n 1))) (.n 1))) (.n 1))) (.n 1200) rfl h0 h1 h2
theorem QF(h0:a<=60):a+(0+1+1+1+1+1+1)<=8388608:=aA [a] (.c (.v 0) (.n 60) .o) (.a (.v 0) (.n 6)) (.n 8388608) rfl h0
theorem QG(h0:a<=2):a+(0+1+1+1+1+1+1)<=8388608:=aA [a] (.c (.v 0) (.n 2) .o) (.a (.v 0) (.n 6)) (.n 8388608) rfl h0
theorem QH(h0:b<=140)(h1:a<=16):a+(0+1+1+1+1+1+1+1)<=8388608/\a+(0+1+1+1+1+1+1+1)+b<=8388608:=⟨aA [a] (.c (.v 0) (.n 16) .o) (.a (.v 0) (.n 7)) (.n 8388608) rfl h1,aA [b,a] (.c (.v 0) (.n 140) (.c (.v 1) (.n 16) .o)) (.a (.a (.v 1) (.n 7)) (.v 0)) (.n 8388608) rfl h0 h1⟩
theorem QI(h0:b<=350)(h1:a<=16):a+(0+1+1+1+1+1+1+1+1+1)<=8388608/\a+(0+1+1+1+1+1+1+1+1+1)+b<=8388608:=⟨aA [a] (.c (.v 0) (.n 16) .o) (.a (.v 0) (.n 9)) (.n 8388608) rfl h1,aA [b,a] (.c (.v 0) (.n 350) (.c (.v 1) (.n 16) .o)) (.a (.a (.v 1) (.n 9)) (.v 0)) (.n 8388608) rfl h0 h1⟩
theorem QJ(h0:b<=350)(h1:c<=350)(h2:a<=16):a+(0+1+1+1+1+1+1+1+1+1)<=8388608/\a+(0+1+1+1+1+1+1+1+1+1)+(b+(0+1+1+1+1+1+(c+1)+1))<=8388608:=⟨aA [a] (.c (.v 0) (.n 16) .o) (.a (.v 0) (.n 9)) (.n 8388608) rfl h2,aA [b,c,a] (.c (.v 0) (.n 350) (.c (.v 1) (.n 350) (.c (.v 2) (.n 16) .o))) (.a (.a (.v 2) (.n 9)) (.a (.v 0) (.a (.a (.n 5) (.a (.v 1) (.n 1))) (.n 1)))) (.n 8388608) rfl h0 h1 h2⟩
theorem QK(h0:b<=350)(h1:c<=350)(h2:d<=350)(h3:a<=16):a+(0+1+1+1+1+1+1+1+1+1)<=8388608/\a+(0+1+1+1+1+1+1+1+1+1)+(b+(0+1+1+1+1+1+(c+(0+1+1+1+1+1+(d+1)+1)+1)+1))<=8388608:=⟨aA [a] (.c (.v 0) (.n 16) .o) (.a (.v 0) (.n 9)) (.n 8388608) rfl h3,aA [b,c,d,a] (.c (.v 0) (.n 350) (.c (.v 1) (.n 350) (.c (.v 2) (.n 350) (.c (.v 3) (.n 16) .o)))) (.a (.a (.v 3) (.n 9)) (.a (.v 0) (.a (.a (.n 5) (.a (.a (.v 1) (.a (.a (.n 5) (.a (.v 2) (.n 1))) (.n 1))) (.n 1))) (.n 1)))) (.n 8388608) rfl h0 h1 h2 h3⟩
theorem QL(h0:a<=20)(h1:b<=20):a+(0+1+1+1+1+(b+1)+1)<=60:=aA [a,b] (.c (.v 0) (.n 20) (.c (.v 1) (.n 20) .o)) (.a (.v 0) (.a (.a (.n 4) (.a (.v 1) (.n 1))) (.n 1))) (.n 60) rfl h0 h1
theorem QM(h0:a+1<=60)(h1:b+1<=1200):0+1+1+1+1+1+1+1+(a+1+(b+1+1)+1)<=8388608:=aA [a,b] (.c (.a (.v 0) (.n 1)) (.n 60) (.c (.a (.v 1) (.n 1)) (.n 1200) .o)) (.a (.n 7) (.a (.a (.a (.v 0) (.n 1)) (.a (.v 1) (.n 2))) (.n 1))) (.n 8388608) rfl h0 h1
theorem QN(h0:a+1<=1200)(h1:b<=30):0+1+1+1+1+1+1+1+(a+1+(b+(0+1+1+1+1+1+1+1+1+1+1+1+1)+1)+1)<=8388608:=aA [a,b] (.c (.a (.v 0) (.n 1)) (.n 1200) (.c (.v 1) (.n 30) .o)) (.a (.n 7) (.a (.a (.a (.v 0) (.n 1)) (.a (.v 1) (.n 13))) (.n 1))) (.n 8388608) rfl h0 h1
theorem QO(h0:a<=30):0+1+1+1+1+1+1+1+(a+(0+1+1+1+1+1+1+1+1+1+1+1+1)+1)<=8388608:=aA [a] (.c (.v 0) (.n 30) .o) (.a (.n 7) (.a (.v 0) (.n 13))) (.n 8388608) rfl h0
theorem QP(h0:a<=30):0+1+1+1+1+1+1+1+(a+(0+1+1+1+1+1+1+1+1+1+1+1+1)+1)<=5000:=aA [a] (.c (.v 0) (.n 30) .o) (.a (.n 7) (.a (.v 0) (.n 13))) (.n 5000) rfl h0
theorem QQ(h0:b+1<=1200)(h1:a+1<=60):0+1+1+1+1+1+1+1+(a+1+(b+1+1)+1)<=5000:=aA [b,a] (.c (.a (.v 0) (.n 1)) (.n 1200) (.c (.a (.v 1) (.n 1)) (.n 60) .o)) (.a (.n 7) (.a (.a (.a (.v 1) (.n 1)) (.a (.v 0) (.n 2))) (.n 1))) (.n 5000) rfl h0 h1
theorem QR(h0:a+1<=1200)(h1:b<=30):0+1+1+1+1+1+1+1+(a+1+(b+(0+1+1+1+1+1+1+1+1+1+1+1+1)+1)+1)<=5000:=aA [a,b] (.c (.a (.v 0) (.n 1)) (.n 1200) (.c (.v 1) (.n 30) .o)) (.a (.n 7) (.a (.a (.a (.v 0) (.n 1)) (.a (.v 1) (.n 13))) (.n 1))) (.n 5000) rfl h0 h1
theorem NE(h0:a<=20):0+1+1+1+1+1+1+a<=8388608:=aA [a] (.c (.v 0) (.n 20) .o) (.a (.n 6) (.v 0)) (.n 8388608) rfl h0
theorem NF(h0:a<=100)(h1:b<=60):a<=8388608/\0+1+1+1+1+1+1+a<=8388608/\0+1+1+1+1+1+1+a+(0+1+1+1+1+1+1+1+1+1+1+1+1+1+1)<=8388608/\0+1+1+1+1+1+1+a+(0+1+1+1+1+1+1+1+1+1+1+1+1+1+1)+b<=8388608:=⟨aA [a] (.c (.v 0) (.n 100) .o) (.v 0) (.n 8388608) rfl h0,aA [a] (.c (.v 0) (.n 100) .o) (.a (.n 6) (.v 0)) (.n 8388608) rfl h0,aA [a] (.c (.v 0) (.n 100) .o) (.a (.a (.n 6) (.v 0)) (.n 14)) (.n 8388608) rfl h0,aA [a,b] (.c (.v 0) (.n 100) (.c (.v 1) (.n 60) .o)) (.a (.a (.a (.n 6) (.v 0)) (.n 14)) (.v 1)) (.n 8388608) rfl h0 h1⟩
theorem NG(h0:a+1<=20)(h1:b+1<=20):a+1+(b+1+1)<=100:=aA [a,b] (.c (.a (.v 0) (.n 1)) (.n 20) (.c (.a (.v 1) (.n 1)) (.n 20) .o)) (.a (.a (.v 0) (.n 1)) (.a (.v 1) (.n 2))) (.n 100) rfl h0 h1
theorem NH(h0:a+1<=20)(h1:b+1<=20)(h2:c+1<=20):a+1+(b+1+(c+1+1)+1)<=100:=aA [a,b,c] (.c (.a (.v 0) (.n 1)) (.n 20) (.c (.a (.v 1) (.n 1)) (.n 20) (.c (.a (.v 2) (.n 1)) (.n 20) .o))) (.a (.a (.v 0) (.n 1)) (.a (.a (.a (.v 1) (.n 1)) (.a (.v 2) (.n 2))) (.n 1))) (.n 100) rfl h0 h1 h2
theorem NI(h0:a<=20):0+1+1+1+1+1+(a+1)<=5000:=aA [a] (.c (.v 0) (.n 20) .o) (.a (.n 5) (.a (.v 0) (.n 1))) (.n 5000) rfl h0
theorem NJ(h0:a+1<=20)(h1:b<=60):0+1+1+1+1+1+(a+1+(0+1+1+1+1+1+1+1+1+1+1+1+1+(b+1)+1)+1)<=5000:=aA [a,b] (.c (.a (.v 0) (.n 1)) (.n 20) (.c (.v 1) (.n 60) .o)) (.a (.n 5) (.a (.a (.a (.v 0) (.n 1)) (.a (.a (.n 12) (.a (.v 1) (.n 1))) (.n 1))) (.n 1))) (.n 5000) rfl h0 h1
theorem NK(h0:a+1<=20)(h1:b+1<=20)(h2:c<=60):0+1+1+1+1+1+(a+1+(b+1+1)+(0+1+1+1+1+1+1+1+1+1+1+1+1+(c+1)+1)+1)<=5000:=aA [a,b,c] (.c (.a (.v 0) (.n 1)) (.n 20) (.c (.a (.v 1) (.n 1)) (.n 20) (.c (.v 2) (.n 60) .o))) (.a (.n 5) (.a (.a (.a (.a (.v 0) (.n 1)) (.a (.v 1) (.n 2))) (.a (.a (.n 12) (.a (.v 2) (.n 1))) (.n 1))) (.n 1))) (.n 5000) rfl h0 h1 h2
theorem NL(h0:a+1<=20)(h1:b+1<=20)(h2:c+1<=20)(h3:d<=60):0+1+1+1+1+1+(a+1+(b+1+(c+1+1)+1)+(0+1+1+1+1+1+1+1+1+1+1+1+1+(d+1)+1)+1)<=5000:=aA [a,b,c,d] (.c (.a (.v 0) (.n 1)) (.n 20) (.c (.a (.v 1) (.n 1)) (.n 20) (.c (.a (.v 2) (.n 1)) (.n 20) (.c (.v 3) (.n 60) .o)))) (.a (.n 5) (.a (.a (.a (.a (.v 0) (.n 1)) (.a (.a (.a (.v 1) (.n 1)) (.a (.v 2) (.n 2))) (.n 1))) (.a (.a (.n 12) (.a (.v 3) (.n 1))) (.n 1))) (.n 1))) (.n 5000) rfl h0 h1 h2 h3
theorem NM(h0:a<=60):0+1+1+1+(0+1+1+1+1+1+1+1+1+1)+(0+1)+a<=80:=aA [a] (.c (.v 0) (.n 60) .o) (.a (.n 13) (.v 0)) (.n 80) rfl h0
theorem NN(h0:a<=60):0+1+1+1+(0+1+1+1+1+1+1+1)+(0+1)+a<=80:=aA [a] (.c (.v 0) (.n 60) .o) (.a (.n 11) (.v 0)) (.n 80) rfl h0
theorem NP(h0:a<=60):0+1+1+1+1+1+1+1+1+1<=8388608/\0+1+1+1+(0+1+1+1+1+1+1+1+1+1)<=8388608/\0+1+1+1+(0+1+1+1+1+1+1+1+1+1)+(0+1)<=8388608/\0+1+1+1+(0+1+1+1+1+1+1+1+1+1)+(0+1)+a<=8388608:=⟨aA [] .o (.n 9) (.n 8388608) rfl,aA [] .o (.n 12) (.n 8388608) rfl,aA [] .o (.n 13) (.n 8388608) rfl,aA [a] (.c (.v 0) (.n 60) .o) (.a (.n 13) (.v 0)) (.n 8388608) rfl h0⟩
theorem NQ(h0:a<=60):0+1+1+1+1+1+1+1<=8388608/\0+1+1+1+(0+1+1+1+1+1+1+1)<=8388608/\0+1+1+1+(0+1+1+1+1+1+1+1)+(0+1)<=8388608/\0+1+1+1+(0+1+1+1+1+1+1+1)+(0+1)+a<=8388608:=⟨aA [] .o (.n 7) (.n 8388608) rfl,aA [] .o (.n 10) (.n 8388608) rfl,aA [] .o (.n 11) (.n 8388608) rfl,aA [a] (.c (.v 0) (.n 60) .o) (.a (.n 11) (.v 0)) (.n 8388608) rfl h0⟩
theorem NR(h0:a<=80)(h1:b<=80):a+(b+1)<=300:=aA [a,b] (.c (.v 0) (.n 80) (.c (.v 1) (.n 80) .o)) (.a (.v 0) (.a (.v 1) (.n 1))) (.n 300) rfl h0 h1
theorem NT(h0:a<=80)(h1:b<=80)(h2:c<=80):a+(b+(c+1)+1)<=300:=aA [a,b,c] (.c (.v 0) (.n 80) (.c (.v 1) (.n 80) (.c (.v 2) (.n 80) .o))) (.a (.v 0) (.a (.a (.v 1) (.a (.v 2) (.n 1))) (.n 1))) (.n 300) rfl h0 h1 h2
theorem NU(h0:a+1<=60):0<=8388608/\0+1+1+1+1+(a+1+1)<=8388608/\0+1+1+1+1+(a+1+1)+(0+1+1+1+1+1+1+1+1+1)<=8388608:=⟨aA [] .o (.n 0) (.n 8388608) rfl,aA [a] (.c (.a (.v 0) (.n 1)) (.n 60) .o) (.a (.n 4) (.a (.v 0) (.n 2))) (.n 8388608) rfl h0,aA [a] (.c (.a (.v 0) (.n 1)) (.n 60) .o) (.a (.a (.n 4) (.a (.v 0) (.n 2))) (.n 9)) (.n 8388608) rfl h0⟩
theorem NV(h0:a+1<=60)(h1:b+1<=100):0<=8388608/\0+1+1+1+1+(a+1+1)<=8388608/\0+1+1+1+1+(a+1+1)+(b+1+(0+1+1+1+1+1+1+1+1+1)+1)<=8388608:=⟨aA [] .o (.n 0) (.n 8388608) rfl,aA [a] (.c (.a (.v 0) (.n 1)) (.n 60) .o) (.a (.n 4) (.a (.v 0) (.n 2))) (.n 8388608) rfl h0,aA [a,b] (.c (.a (.v 0) (.n 1)) (.n 60) (.c (.a (.v 1) (.n 1)) (.n 100) .o)) (.a (.a (.n 4) (.a (.v 0) (.n 2))) (.a (.v 1) (.n 11))) (.n 8388608) rfl h0 h1⟩
theorem NW(h0:a+1<=60)(h1:b+1<=100):0+1+1+1+1+(a+1+1)+(b+1+(0+1+1+1+1+1+1+1+1+1)+1)<=5000:=aA [a,b] (.c (.a (.v 0) (.n 1)) (.n 60) (.c (.a (.v 1) (.n 1)) (.n 100) .o)) (.a (.a (.n 4) (.a (.v 0) (.n 2))) (.a (.v 1) (.n 11))) (.n 5000) rfl h0 h1
theorem NX(h0:b+1<=60)(h1:a<=300):a<=8388608/\0+1+1+1+1+1+(0+1)<=8388608/\0+1+1+1+1+1+(0+1)+a<=8388608/\0+1+1+1+1+(b+1+(0+1+1+1+1+1+(0+1)+a+1)+1)<=8388608/\0+1+1+1+1+(b+1+(0+1+1+1+1+1+(0+1)+a+1)+1)+(0+1+1+1+1+1+1+1+1+1)<=8388608:=⟨aA [a] (.c (.v 0) (.n 300) .o) (.v 0) (.n 8388608) rfl h1,aA [] .o (.n 6) (.n 8388608) rfl,aA [a] (.c (.v 0) (.n 300) .o) (.a (.n 6) (.v 0)) (.n 8388608) rfl h1,aA [b,a] (.c (.a (.v 0) (.n 1)) (.n 60) (.c (.v 1) (.n 300) .o)) (.a (.n 4) (.a (.a (.a (.v 0) (.n 1)) (.a (.a (.n 6) (.v 1)) (.n 1))) (.n 1))) (.n 8388608) rfl h0 h1,aA [b,a] (.c (.a (.v 0) (.n 1)) (.n 60) (.c (.v 1) (.n 300) .o)) (.a (.a (.n 4) (.a (.a (.a (.v 0) (.n 1)) (.a (.a (.n 6) (.v 1)) (.n 1))) (.n 1))) (.n 9)) (.n 8388608) rfl h0 h1⟩
theorem NY(h0:b+1<=60)(h1:a<=300)(h2:c+1<=100):a<=8388608/\0+1+1+1+1+1+(0+1)<=8388608/\0+1+1+1+1+1+(0+1)+a<=8388608/\0+1+1+1+1+(b+1+(0+1+1+1+1+1+(0+1)+a+1)+1)<=8388608/\0+1+1+1+1+(b+1+(0+1+1+1+1+1+(0+1)+a+1)+1)+(c+1+(0+1+1+1+1+1+1+1+1+1)+1)<=8388608:=⟨aA [a] (.c (.v 0) (.n 300) .o) (.v 0) (.n 8388608) rfl h1,aA [] .o (.n 6) (.n 8388608) rfl,aA [a] (.c (.v 0) (.n 300) .o) (.a (.n 6) (.v 0)) (.n 8388608) rfl h1,aA [b,a] (.c (.a (.v 0) (.n 1)) (.n 60) (.c (.v 1) (.n 300) .o)) (.a (.n 4) (.a (.a (.a (.v 0) (.n 1)) (.a (.a (.n 6) (.v 1)) (.n 1))) (.n 1))) (.n 8388608) rfl h0 h1,aA [b,a,c] (.c (.a (.v 0) (.n 1)) (.n 60) (.c (.v 1) (.n 300) (.c (.a (.v 2) (.n 1)) (.n 100) .o))) (.a (.a (.n 4) (.a (.a (.a (.v 0) (.n 1)) (.a (.a (.n 6) (.v 1)) (.n 1))) (.n 1))) (.a (.v 2) (.n 11))) (.n 8388608) rfl h0 h1 h2⟩
theorem NZ(h0:a+1<=60)(h1:b<=300):0+1+1+1+1+(a+1+(0+1+1+1+1+1+(0+1)+b+1)+1)+(0+1+1+1+1+1+1+1+1+1)<=5000:=aA [a,b] (.c (.a (.v 0) (.n 1)) (.n 60) (.c (.v 1) (.n 300) .o)) (.a (.a (.n 4) (.a (.a (.a (.v 0) (.n 1)) (.a (.a (.n 6) (.v 1)) (.n 1))) (.n 1))) (.n 9)) (.n 5000) rfl h0 h1
theorem N1(h0:a+1<=60)(h1:b<=300)(h2:c+1<=100):0+1+1+1+1+(a+1+(0+1+1+1+1+1+(0+1)+b+1)+1)+(c+1+(0+1+1+1+1+1+1+1+1+1)+1)<=5000:=aA [a,b,c] (.c (.a (.v 0) (.n 1)) (.n 60) (.c (.v 1) (.n 300) (.c (.a (.v 2) (.n 1)) (.n 100) .o))) (.a (.a (.n 4) (.a (.a (.a (.v 0) (.n 1)) (.a (.a (.n 6) (.v 1)) (.n 1))) (.n 1))) (.a (.v 2) (.n 11))) (.n 5000) rfl h0 h1 h2
theorem Ou(h0:a=2∨a=3∨a=4∨a=6∨a=9∨a=90):0<a:=Nat.pos_of_ne_zero λe=>by subst e;revert h0;decide
theorem Jn{a:Nat}(h0:0<a):0<=(a:Int):=cH a
theorem Ov{a:Nat}(h0:0<a):(a:Int)≠0:=λe=>Nat.ne_of_gt h0 (Int.ofNat.inj e)
theorem Ow{a:Nat}(h0:0<a):0<(a:Int):=Int.ofNat_lt.mpr h0
theorem Ox{b:Nat}(h0:0<=a)(h1:a<(b:Int)):a.toNat<b:=(Int.toNat_lt h0).mpr h1
theorem Oy{a:Nat}(h0:a<=1000000)(h1:b=(a:Int)):a.succ<=18446744073709551616:=aw (bV h0) (mC rfl)
theorem Oz{a b:Nat}(h0:c=(a:Int))(h1:(a:Int)<(b:Int)):a<b:=Int.ofNat_lt.mp h1
theorem OA{a:Nat}:(a:Int)+1=((a+1:Nat):Int):=rfl
theorem DF(h0:1<=a):a=a-1+1:=(dr h0).symm
theorem OB(h0:b<=1000000)(h1:a<=b):a<=1000000:=aA [b,a] (.c (.v 0) (.n 1000000) (.c (.v 1) (.v 0) .o)) (.v 1) (.n 1000000) rfl h0 h1
theorem N4(h0:a<48):a<=48:=aA [a] (.c (.a (.v 0) (.n 1)) (.n 48) .o) (.v 0) (.n 48) rfl h0
theorem N5:min 48 a<=100000:=aw (Nat.min_le_left _ _) (mC rfl)
theorem N7:min 48 a<=48:=Nat.min_le_left _ _
theorem QS(h0:140<=a):a=a-136+135+1:=(dr (aw (mC rfl) h0:136<=a)).symm
theorem QT(h0:140<=a+135+1):5<=a+135:=aA [a] .o (.n 5) (.a (.v 0) (.n 135)) rfl
theorem QU(h0:150<=a):110<=a:=aA [a] (.c (.n 150) (.v 0) .o) (.n 110) (.v 0) rfl h0
theorem QV(h0:150<=a):140<=a:=aA [a] (.c (.n 150) (.v 0) .o) (.n 140) (.v 0) rfl h0
theorem QW(h0:200<=a):60<=a:=aA [a] (.c (.n 200) (.v 0) .o) (.n 60) (.v 0) rfl h0
theorem Fg(h0:200<=a):35<=a:=aA [a] (.c (.n 200) (.v 0) .o) (.n 35) (.v 0) rfl h0
theorem Fh(h0:200<=a):150<=a:=aA [a] (.c (.n 200) (.v 0) .o) (.n 150) (.v 0) rfl h0
theorem Pe(h0:101<=a):a=a-1+1:=(dr (aw (mC rfl) h0)).symm
theorem Pf(h0:101<=a+1):100<=a:=aA [a] (.c (.n 101) (.a (.v 0) (.n 1)) .o) (.n 100) (.v 0) rfl h0
theorem QX(h0:a<=3*b):3+a<=3*(b+1):=aA [a,b] (.c (.v 0) (.m 3 (.v 1)) .o) (.a (.n 3) (.v 0)) (.m 3 (.a (.v 1) (.n 1))) rfl h0
theorem QY(h0:a<=3*b):a+1<=3*(b+1):=aA [a,b] (.c (.v 0) (.m 3 (.v 1)) .o) (.a (.v 0) (.n 1)) (.m 3 (.a (.v 1) (.n 1))) rfl h0
theorem QZ(h0:a<999990):a<=999999:=aA [a] (.c (.a (.v 0) (.n 1)) (.n 999990) .o) (.v 0) (.n 999999) rfl h0
theorem Q0(h0:a<999990):a+2<=999999:=aA [a] (.c (.a (.v 0) (.n 1)) (.n 999990) .o) (.a (.v 0) (.n 2)) (.n 999999) rfl h0
theorem Q3(h0:a+2*(c+1)<999990)(h1:b<=2):a+b+2*c<999990:=aA [a,c,b] (.c (.a (.a (.v 0) (.m 2 (.a (.v 1) (.n 1)))) (.n 1)) (.n 999990) (.c (.v 2) (.n 2) .o)) (.a (.a (.a (.v 0) (.v 2)) (.m 2 (.v 1))) (.n 1)) (.n 999990) rfl h0 h1
theorem Q4(h0:a+2*(b+1)<999990):a<999990:=aA [a,b] (.c (.a (.a (.v 0) (.m 2 (.a (.v 1) (.n 1)))) (.n 1)) (.n 999990) .o) (.a (.v 0) (.n 1)) (.n 999990) rfl h0
theorem Q5(h0:b<=5000)(h1:a<=3*b):a<=500000:=aA [b,a] (.d 3 (.v 0) (.n 5000) (.c (.v 1) (.m 3 (.v 0)) .o)) (.v 1) (.n 500000) rfl h0 h1
theorem Q6(h0:b<=5000)(h1:c<=3*b)(h2:a<=3*c):a<=1048575:=aw h2 (aw (Nat.mul_le_mul_left 3 (aw h1 (Nat.mul_le_mul_left 3 h0))) (mC rfl))
theorem Q7(h0:5<=a):a=a-5+4+1:=(dr h0).symm
theorem Q8(h0:b<=5000)(h1:c<=3*b)(h2:d<=3*c)(h3:a<=d+1):a<=45001:=aw h3 (aw (bV (aw h2 (Nat.mul_le_mul_left 3 (aw h1 (Nat.mul_le_mul_left 3 h0))))) (mC rfl))
theorem Q9(h0:a<=45001):0+2*a<999990:=aA [a] (.d 2 (.v 0) (.n 45001) .o) (.a (.a (.n 0) (.m 2 (.v 0))) (.n 1)) (.n 999990) rfl h0
theorem Of:((a+1+b:Nat):Int)=((a+(b+1):Nat):Int):=congrArg Int.ofNat (by rw[Nat.add_assoc,Nat.add_comm 1 b])
theorem Og:(a:Int)+(0:Int)*1=(a:Int):=by rw[Int.zero_mul,Int.add_zero]
theorem Oh:(a:Int)-(0:Int)=(a:Int):=Int.sub_zero _
theorem Oi:((a+b:Nat):Int)=(a:Int)+(b:Int)*1:=by rw[Int.mul_one];rfl
theorem PY:a<=a+1+1:=aA [a] .o (.v 0) (.a (.v 0) (.n 2)) rfl
theorem PZ:(a:Int)-0=(a:Int):=Int.sub_zero _
theorem P0{a:Nat}(h0:a<=100000)(h1:¬0<(a:Int)):0=(a:Int):=Int.le_antisymm (cH a) (Int.not_lt.mp h1)
theorem P1{a b:Nat}(h0:(b:Int)<(a:Int)):(a:Int)-(b:Int)=((a-b:Nat):Int):=(Int.ofNat_sub (cb (Int.ofNat_lt.mp h0))).symm
theorem P2{a b:Nat}(h0:a-b<=100000)(h1:¬(b:Int)<(a:Int)):0=((a-b:Nat):Int):=by rw[Nat.sub_eq_zero_of_le (Int.ofNat_le.mp (Int.not_lt.mp h1))];rfl
theorem Jh(h0:a=c)(h1:b=c+1):a<=b:=aA [a,c,b] (.c (.v 0) (.v 1) (.c (.a (.v 1) (.n 1)) (.v 2) .o)) (.v 0) (.v 2) rfl (a7 h0) (a7 h1.symm)
theorem Ji{a b:Nat}(h0:a=b):a<=b:=aA [a,b] (.c (.v 0) (.v 1) .o) (.v 0) (.v 1) rfl (a7 h0)
theorem NB(h0:b<=100000)(h1:c<b)(h2:a<=c):a<=16777216:=aA [b,c,a] (.c (.v 0) (.n 100000) (.c (.a (.v 1) (.n 1)) (.v 0) (.c (.v 2) (.v 1) .o))) (.v 2) (.n 16777216) rfl h0 h1 h2
theorem Dh(h0:b<a)(h1:c=a+1-b):a+1-(b+1)<c:=by rw[h1,Nat.add_sub_add_right,Nat.succ_sub (cb h0)];exact dR _
theorem NC(h0:b<=100000)(h1:c=b)(h2:a<=c):a<=1048576:=aA [b,c,a] (.c (.v 0) (.n 100000) (.c (.v 1) (.v 0) (.c (.v 2) (.v 1) .o))) (.v 2) (.n 1048576) rfl h0 (a7 h1) h2
theorem M8(h0:a+c=d)(h1:e=d):0<=((a+b:Nat):Int):=cH _
theorem Na{a b c d e:Nat}(h0:c<=d+e*b):a+(b+c)<=a+d+(e*b+b):=aA [c,d,e*b,a,b] (.c (.v 0) (.a (.v 1) (.v 2)) .o) (.a (.v 3) (.a (.v 4) (.v 0))) (.a (.a (.v 3) (.v 1)) (.a (.v 2) (.v 4))) rfl h0
theorem Nb(h0:a<=b):0+a<=b+1:=aA [a,b] (.c (.v 0) (.v 1) .o) (.a (.n 0) (.v 0)) (.a (.v 1) (.n 1)) rfl h0
theorem JF(h0:a<=1000)(h1:b=a):a<=16777216:=aA [a] (.c (.v 0) (.n 1000) .o) (.v 0) (.n 16777216) rfl h0
theorem Qh(h0:a+b<1000000)(h1:c=b)(h2:d=a)(h3:e=c):a+b<=16777216:=aA [a,b] (.c (.a (.a (.v 0) (.v 1)) (.n 1)) (.n 1000000) .o) (.a (.v 0) (.v 1)) (.n 16777216) rfl h0
theorem Qi(h0:a+b<1000000)(h1:c=b)(h2:d=a)(h3:e=c):a+b<=1048576:=aA [a,b] (.c (.a (.a (.v 0) (.v 1)) (.n 1)) (.n 1000000) .o) (.a (.v 0) (.v 1)) (.n 1048576) rfl h0
theorem Ps(h0:a<1000000)(h1:b=a):a<=16777216:=aA [a] (.c (.a (.v 0) (.n 1)) (.n 1000000) .o) (.v 0) (.n 16777216) rfl h0
theorem Pt(h0:a<1000000):a+1<=1048576:=aA [a] (.c (.a (.v 0) (.n 1)) (.n 1000000) .o) (.a (.v 0) (.n 1)) (.n 1048576) rfl h0
theorem Jd{a b c:Nat}(h0:c=a)(h1:b=c):a=b:=Nat.le_antisymm (aA [a,c,b] (.c (.v 0) (.v 1) (.c (.v 1) (.v 2) .o)) (.v 0) (.v 2) rfl (a7 h0.symm) (a7 h1.symm)) (aA [c,a,b] (.c (.v 0) (.v 1) (.c (.v 2) (.v 0) .o)) (.v 2) (.v 1) rfl (a7 h0) (a7 h1))
theorem Je{a b c d:Nat}(h0:b=c)(h1:d=b)(h2:a<c):a<b:=aA [c,b,a] (.c (.v 0) (.v 1) (.c (.a (.v 2) (.n 1)) (.v 0) .o)) (.a (.v 2) (.n 1)) (.v 1) rfl (a7 h0.symm) h2
theorem Jf(h0:c=a)(h1:d=c)(h2:b<a):a-1-b<a:=bY (Nat.sub_le _ _) (Nat.sub_lt (bY (bo b) h2) Nat.zero_lt_one)
theorem Nk(h0:c=a)(h1:d=a)(h2:d<=1048576)(h3:e=d)(h4:b<a):a-1-(a-1-b)=b:=Nat.sub_sub_self (Nat.le_sub_one_of_lt h4)
theorem Nl(h0:d=a)(h1:c=d)(h2:b<a):a-1-b<c:=by rw[h1,h0];exact Jf rfl rfl h2
theorem Nm(h0:d=b)(h1:e=b)(h2:e<=1048576)(h3:a=e)(h4:c<b):a-1-(b-1-c)=c:=by rw[h3,h1];exact Nat.sub_sub_self (Nat.le_sub_one_of_lt h4)
theorem Qr(h0:¬a<1052):1052<=a:=aA [a] (.c (.n 1052) (.v 0) .o) (.n 1052) (.v 0) rfl (Nat.le_of_not_lt h0)
theorem Qy(h0:a+(b+1)<=990):a<1000:=aA [a,b] (.c (.a (.v 0) (.a (.v 1) (.n 1))) (.n 990) .o) (.a (.v 0) (.n 1)) (.n 1000) rfl h0
theorem JR{a b c d:Nat}(h0:c=d)(h1:a=c)(h2:b=d):a<=b:=aA [c,d,a,b] (.c (.v 0) (.v 1) (.c (.v 2) (.v 0) (.c (.v 1) (.v 3) .o))) (.v 2) (.v 3) rfl (a7 h0) (a7 h1) (a7 h2.symm)
theorem JS(h0:c=d)(h1:b=c)(h2:a=d):a<=b+0:=aA [d,c,b,a] (.c (.v 0) (.v 1) (.c (.v 1) (.v 2) (.c (.v 3) (.v 0) .o))) (.v 3) (.a (.v 2) (.n 0)) rfl (a7 h0.symm) (a7 h1.symm) (a7 h2)
theorem JT{a b c d:Nat}(h0:c=d)(h1:b=c)(h2:a=d):a<=b:=aA [d,c,b,a] (.c (.v 0) (.v 1) (.c (.v 1) (.v 2) (.c (.v 3) (.v 0) .o))) (.v 3) (.v 2) rfl (a7 h0.symm) (a7 h1.symm) (a7 h2)
theorem PA:a+61<=a+3*b+61:=aA [a,b] .o (.a (.v 0) (.n 61)) (.a (.a (.v 0) (.m 3 (.v 1))) (.n 61)) rfl
theorem Ra(h0:a+b<=990):a<1000:=aA [a,b] (.c (.a (.v 0) (.v 1)) (.n 990) .o) (.a (.v 0) (.n 1)) (.n 1000) rfl h0
theorem Ol(h0:a<=10):a+1<=11:=aA [a] (.c (.v 0) (.n 10) .o) (.a (.v 0) (.n 1)) (.n 11) rfl h0
theorem Rb(h0:a%2=0):2*(a/2)+1=a+1:=by rw[Nat.mul_div_cancel' (Nat.dvd_of_mod_eq_zero h0)]
theorem Rc(h0:¬a%2=0):2*(a/2)+2=a+1:=by have e:=Nat.div_add_mod a 2;rw[(Nat.mod_two_eq_zero_or_one a).resolve_left h0]at e;exact congrArg (·+1) e
theorem Rd(h0:a+(b+1)<=990):a+1<1000:=aA [a,b] (.c (.a (.v 0) (.a (.v 1) (.n 1))) (.n 990) .o) (.a (.v 0) (.n 2)) (.n 1000) rfl h0
theorem JA(h0:a<=991):a+1<1000:=aA [a] (.c (.v 0) (.n 991) .o) (.a (.v 0) (.n 2)) (.n 1000) rfl h0
theorem Jl(h0:a+b<=990):a<=991:=aA [a,b] (.c (.a (.v 0) (.v 1)) (.n 990) .o) (.v 0) (.n 991) rfl h0
theorem Re:a+1+b=a+(b+1):=Nat.le_antisymm (aA [a,b] .o (.a (.a (.v 0) (.n 1)) (.v 1)) (.a (.v 0) (.a (.v 1) (.n 1))) rfl) (aA [a,b] .o (.a (.v 0) (.a (.v 1) (.n 1))) (.a (.a (.v 0) (.n 1)) (.v 1)) rfl)
theorem Qw(h0:d=e)(h1:0<e)(h2:c=d)(h3:b=e):0<a+min b c:=aB (Nat.lt_min.mpr ⟨h3.symm▸h1,(h2.trans h0).symm▸h1⟩) (Nat.le_add_left _ _)
theorem PD(h0:63<(a:Int)):¬(a:Int)<=63:=Int.not_le.mpr h0
theorem PG{a:Nat}(h0:¬63<(a:Int)):a<=63:=Int.ofNat_le.mp (Int.not_lt.mp h0)
theorem PP(h0:a<=600):301+1+a<=990:=aA [a] (.c (.v 0) (.n 600) .o) (.a (.n 302) (.v 0)) (.n 990) rfl h0
theorem PQ(h0:a<=600):4+3+3*a+61<9900:=aA [a] (.d 3 (.v 0) (.n 600) .o) (.a (.a (.n 7) (.m 3 (.v 0))) (.n 62)) (.n 9900) rfl h0
theorem Rf(h0:a<=1):a=0∨a=1:=Nat.le_one_iff_eq_zero_or_eq_one.mp h0
theorem Rg(h0:2<=a)(h1:a<=4):a=2∨a=3∨a=4:=(by decide:∀a,a<5->2<=a->a=2∨a=3∨a=4) a (Nat.lt_succ_of_le h1) h0
theorem Rh(h0:5<=a)(h1:a<=8):a=5∨a=6∨a=7∨a=8:=(by decide:∀a,a<9->5<=a->a=5∨a=6∨a=7∨a=8) a (Nat.lt_succ_of_le h1) h0
theorem Ri(h0:a+(b+1)<=990):a+1+b<=990:=aA [a,b] (.c (.a (.v 0) (.a (.v 1) (.n 1))) (.n 990) .o) (.a (.a (.v 0) (.n 1)) (.v 1)) (.n 990) rfl h0
theorem Rj(h0:a+3*(b+1)+61<c):a+3+3*b+61<c:=aA [a,b,c] (.c (.a (.a (.v 0) (.m 3 (.a (.v 1) (.n 1)))) (.n 62)) (.v 2) .o) (.a (.a (.a (.v 0) (.n 3)) (.m 3 (.v 1))) (.n 62)) (.v 2) rfl h0
theorem aI{α:Type}{y:α}{P:Prop}(h:none=some y):P:=by cases h
theorem Oj{α:Type}{y:α}{P:Prop}(h:some y=none):P:=by cases h
theorem il{P:Prop}(h:true=false):P:=by cases h
theorem bq{P:Prop}(h:false=true):P:=by cases h
theorem fS{α β:Type}{a c:α}{b d:β}{P:Prop}(h:some (a,b)=some (c,d))(k:a=c->b=d->P):P:=by cases h;exact k rfl rfl
theorem bD{α:Type}{a c:α}{P:Prop}(h:some a=some c)(k:a=c->P):P:=by cases h;exact k rfl
theorem aG {p0:Prop}{p1:Prop}{P:Prop}(h:p0/\p1)(f:p0->p1->P):P:=f h.1 h.2
theorem b0{α0:Type}{p0:α0->Prop}{P:Prop}(h:∃x0,p0 x0)(f:∀x0,p0 x0->P):P:=h.elim λx0 h=>f x0 h
theorem dy {p0:Prop}{p1:Prop}{p2:Prop}{P:Prop}(h:p0/\p1/\p2)(f:p0->p1->p2->P):P:=f h.1 h.2.1 h.2.2
theorem aH{α0:Type}{p0:α0->Prop}{p1:α0->Prop}{P:Prop}(h:∃x0,p0 x0/\p1 x0)(f:∀x0,p0 x0->p1 x0->P):P:=h.elim λx0 h=>f x0 h.1 h.2
theorem nA{α0:Type}{α1:Type}{p0:α0->α1->Prop}{P:Prop}(h:∃x0 x1,p0 x0 x1)(f:∀x0 x1,p0 x0 x1->P):P:=h.elim λx0 h=>h.elim λx1 h=>f x0 x1 h
theorem vZ {p0:Prop}{p1:Prop}{p2:Prop}{p3:Prop}{P:Prop}(h:p0/\p1/\p2/\p3)(f:p0->p1->p2->p3->P):P:=f h.1 h.2.1 h.2.2.1 h.2.2.2
theorem nE{α0:Type}{p0:α0->Prop}{p1:α0->Prop}{p2:α0->Prop}{P:Prop}(h:∃x0,p0 x0/\p1 x0/\p2 x0)(f:∀x0,p0 x0->p1 x0->p2 x0->P):P:=h.elim λx0 h=>f x0 h.1 h.2.1 h.2.2
theorem bU{α0:Type}{α1:Type}{p0:α0->α1->Prop}{p1:α0->α1->Prop}{P:Prop}(h:∃x0 x1,p0 x0 x1/\p1 x0 x1)(f:∀x0 x1,p0 x0 x1->p1 x0 x1->P):P:=h.elim λx0 h=>h.elim λx1 h=>f x0 x1 h.1 h.2
theorem Wg{α0:Type}{α1:Type}{α2:Type}{p0:α0->α1->α2->Prop}{P:Prop}(h:∃x0 x1 x2,p0 x0 x1 x2)(f:∀x0 x1 x2,p0 x0 x1 x2->P):P:=h.elim λx0 h=>h.elim λx1 h=>h.elim λx2 h=>f x0 x1 x2 h
theorem P9{α0:Type}{p0:α0->Prop}{p1:α0->Prop}{p2:α0->Prop}{p3:α0->Prop}{P:Prop}(h:∃x0,p0 x0/\p1 x0/\p2 x0/\p3 x0)(f:∀x0,p0 x0->p1 x0->p2 x0->p3 x0->P):P:=h.elim λx0 h=>f x0 h.1 h.2.1 h.2.2.1 h.2.2.2
theorem dp{α0:Type}{α1:Type}{p0:α0->α1->Prop}{p1:α0->α1->Prop}{p2:α0->α1->Prop}{P:Prop}(h:∃x0 x1,p0 x0 x1/\p1 x0 x1/\p2 x0 x1)(f:∀x0 x1,p0 x0 x1->p1 x0 x1->p2 x0 x1->P):P:=h.elim λx0 h=>h.elim λx1 h=>f x0 x1 h.1 h.2.1 h.2.2
theorem Bv{α0:Type}{α1:Type}{α2:Type}{p0:α0->α1->α2->Prop}{p1:α0->α1->α2->Prop}{P:Prop}(h:∃x0 x1 x2,p0 x0 x1 x2/\p1 x0 x1 x2)(f:∀x0 x1 x2,p0 x0 x1 x2->p1 x0 x1 x2->P):P:=h.elim λx0 h=>h.elim λx1 h=>h.elim λx2 h=>f x0 x1 x2 h.1 h.2
theorem C9{α0:Type}{α1:Type}{α2:Type}{α3:Type}{p0:α0->α1->α2->α3->Prop}{P:Prop}(h:∃x0 x1 x2 x3,p0 x0 x1 x2 x3)(f:∀x0 x1 x2 x3,p0 x0 x1 x2 x3->P):P:=h.elim λx0 h=>h.elim λx1 h=>h.elim λx2 h=>h.elim λx3 h=>f x0 x1 x2 x3 h
theorem Hg {p0:Prop}{p1:Prop}{p2:Prop}{p3:Prop}{p4:Prop}{p5:Prop}{P:Prop}(h:p0/\p1/\p2/\p3/\p4/\p5)(f:p0->p1->p2->p3->p4->p5->P):P:=f h.1 h.2.1 h.2.2.1 h.2.2.2.1 h.2.2.2.2.1 h.2.2.2.2.2
theorem LI{α0:Type}{p0:α0->Prop}{p1:α0->Prop}{p2:α0->Prop}{p3:α0->Prop}{p4:α0->Prop}{P:Prop}(h:∃x0,p0 x0/\p1 x0/\p2 x0/\p3 x0/\p4 x0)(f:∀x0,p0 x0->p1 x0->p2 x0->p3 x0->p4 x0->P):P:=h.elim λx0 h=>f x0 h.1 h.2.1 h.2.2.1 h.2.2.2.1 h.2.2.2.2
theorem N6{α0:Type}{α1:Type}{p0:α0->α1->Prop}{p1:α0->α1->Prop}{p2:α0->α1->Prop}{p3:α0->α1->Prop}{P:Prop}(h:∃x0 x1,p0 x0 x1/\p1 x0 x1/\p2 x0 x1/\p3 x0 x1)(f:∀x0 x1,p0 x0 x1->p1 x0 x1->p2 x0 x1->p3 x0 x1->P):P:=h.elim λx0 h=>h.elim λx1 h=>f x0 x1 h.1 h.2.1 h.2.2.1 h.2.2.2
theorem GI{α0:Type}{α1:Type}{α2:Type}{p0:α0->α1->α2->Prop}{p1:α0->α1->α2->Prop}{p2:α0->α1->α2->Prop}{P:Prop}(h:∃x0 x1 x2,p0 x0 x1 x2/\p1 x0 x1 x2/\p2 x0 x1 x2)(f:∀x0 x1 x2,p0 x0 x1 x2->p1 x0 x1 x2->p2 x0 x1 x2->P):P:=h.elim λx0 h=>h.elim λx1 h=>h.elim λx2 h=>f x0 x1 x2 h.1 h.2.1 h.2.2
theorem GH{α0:Type}{α1:Type}{α2:Type}{α3:Type}{p0:α0->α1->α2->α3->Prop}{p1:α0->α1->α2->α3->Prop}{P:Prop}(h:∃x0 x1 x2 x3,p0 x0 x1 x2 x3/\p1 x0 x1 x2 x3)(f:∀x0 x1 x2 x3,p0 x0 x1 x2 x3->p1 x0 x1 x2 x3->P):P:=h.elim λx0 h=>h.elim λx1 h=>h.elim λx2 h=>h.elim λx3 h=>f x0 x1 x2 x3 h.1 h.2
theorem Ef{α0:Type}{α1:Type}{α2:Type}{α3:Type}{α4:Type}{p0:α0->α1->α2->α3->α4->Prop}{P:Prop}(h:∃x0 x1 x2 x3 x4,p0 x0 x1 x2 x3 x4)(f:∀x0 x1 x2 x3 x4,p0 x0 x1 x2 x3 x4->P):P:=h.elim λx0 h=>h.elim λx1 h=>h.elim λx2 h=>h.elim λx3 h=>h.elim λx4 h=>f x0 x1 x2 x3 x4 h
theorem Wh{α0:Type}{p0:α0->Prop}{p1:α0->Prop}{p2:α0->Prop}{p3:α0->Prop}{p4:α0->Prop}{p5:α0->Prop}{P:Prop}(h:∃x0,p0 x0/\p1 x0/\p2 x0/\p3 x0/\p4 x0/\p5 x0)(f:∀x0,p0 x0->p1 x0->p2 x0->p3 x0->p4 x0->p5 x0->P):P:=h.elim λx0 h=>f x0 h.1 h.2.1 h.2.2.1 h.2.2.2.1 h.2.2.2.2.1 h.2.2.2.2.2
theorem BQ{α0:Type}{α1:Type}{α2:Type}{p0:α0->α1->α2->Prop}{p1:α0->α1->α2->Prop}{p2:α0->α1->α2->Prop}{p3:α0->α1->α2->Prop}{P:Prop}(h:∃x0 x1 x2,p0 x0 x1 x2/\p1 x0 x1 x2/\p2 x0 x1 x2/\p3 x0 x1 x2)(f:∀x0 x1 x2,p0 x0 x1 x2->p1 x0 x1 x2->p2 x0 x1 x2->p3 x0 x1 x2->P):P:=h.elim λx0 h=>h.elim λx1 h=>h.elim λx2 h=>f x0 x1 x2 h.1 h.2.1 h.2.2.1 h.2.2.2
theorem Nn{α0:Type}{α1:Type}{α2:Type}{α3:Type}{p0:α0->α1->α2->α3->Prop}{p1:α0->α1->α2->α3->Prop}{p2:α0->α1->α2->α3->Prop}{P:Prop}(h:∃x0 x1 x2 x3,p0 x0 x1 x2 x3/\p1 x0 x1 x2 x3/\p2 x0 x1 x2 x3)(f:∀x0 x1 x2 x3,p0 x0 x1 x2 x3->p1 x0 x1 x2 x3->p2 x0 x1 x2 x3->P):P:=h.elim λx0 h=>h.elim λx1 h=>h.elim λx2 h=>h.elim λx3 h=>f x0 x1 x2 x3 h.1 h.2.1 h.2.2
theorem Wi{α0:Type}{α1:Type}{α2:Type}{p0:α0->α1->α2->Prop}{p1:α0->α1->α2->Prop}{p2:α0->α1->α2->Prop}{p3:α0->α1->α2->Prop}{p4:α0->α1->α2->Prop}{P:Prop}(h:∃x0 x1 x2,p0 x0 x1 x2/\p1 x0 x1 x2/\p2 x0 x1 x2/\p3 x0 x1 x2/\p4 x0 x1 x2)(f:∀x0 x1 x2,p0 x0 x1 x2->p1 x0 x1 x2->p2 x0 x1 x2->p3 x0 x1 x2->p4 x0 x1 x2->P):P:=h.elim λx0 h=>h.elim λx1 h=>h.elim λx2 h=>f x0 x1 x2 h.1 h.2.1 h.2.2.1 h.2.2.2.1 h.2.2.2.2
theorem uH{α0:Type}{α1:Type}{α2:Type}{α3:Type}{p0:α0->α1->α2->α3->Prop}{p1:α0->α1->α2->α3->Prop}{p2:α0->α1->α2->α3->Prop}{p3:α0->α1->α2->α3->Prop}{P:Prop}(h:∃x0 x1 x2 x3,p0 x0 x1 x2 x3/\p1 x0 x1 x2 x3/\p2 x0 x1 x2 x3/\p3 x0 x1 x2 x3)(f:∀x0 x1 x2 x3,p0 x0 x1 x2 x3->p1 x0 x1 x2 x3->p2 x0 x1 x2 x3->p3 x0 x1 x2 x3->P):P:=h.elim λx0 h=>h.elim λx1 h=>h.elim λx2 h=>h.elim λx3 h=>f x0 x1 x2 x3 h.1 h.2.1 h.2.2.1 h.2.2.2
theorem Oc{α0:Type}{α1:Type}{α2:Type}{α3:Type}{α4:Type}{p0:α0->α1->α2->α3->α4->Prop}{p1:α0->α1->α2->α3->α4->Prop}{p2:α0->α1->α2->α3->α4->Prop}{P:Prop}(h:∃x0 x1 x2 x3 x4,p0 x0 x1 x2 x3 x4/\p1 x0 x1 x2 x3 x4/\p2 x0 x1 x2 x3 x4)(f:∀x0 x1 x2 x3 x4,p0 x0 x1 x2 x3 x4->p1 x0 x1 x2 x3 x4->p2 x0 x1 x2 x3 x4->P):P:=h.elim λx0 h=>h.elim λx1 h=>h.elim λx2 h=>h.elim λx3 h=>h.elim λx4 h=>f x0 x1 x2 x3 x4 h.1 h.2.1 h.2.2
theorem GN{α0:Type}{α1:Type}{α2:Type}{α3:Type}{α4:Type}{α5:Type}{p0:α0->α1->α2->α3->α4->α5->Prop}{p1:α0->α1->α2->α3->α4->α5->Prop}{P:Prop}(h:∃x0 x1 x2 x3 x4 x5,p0 x0 x1 x2 x3 x4 x5/\p1 x0 x1 x2 x3 x4 x5)(f:∀x0 x1 x2 x3 x4 x5,p0 x0 x1 x2 x3 x4 x5->p1 x0 x1 x2 x3 x4 x5->P):P:=h.elim λx0 h=>h.elim λx1 h=>h.elim λx2 h=>h.elim λx3 h=>h.elim λx4 h=>h.elim λx5 h=>f x0 x1 x2 x3 x4 x5 h.1 h.2
theorem Tt{α0:Type}{α1:Type}{α2:Type}{α3:Type}{α4:Type}{α5:Type}{α6:Type}{p0:α0->α1->α2->α3->α4->α5->α6->Prop}{P:Prop}(h:∃x0 x1 x2 x3 x4 x5 x6,p0 x0 x1 x2 x3 x4 x5 x6)(f:∀x0 x1 x2 x3 x4 x5 x6,p0 x0 x1 x2 x3 x4 x5 x6->P):P:=h.elim λx0 h=>h.elim λx1 h=>h.elim λx2 h=>h.elim λx3 h=>h.elim λx4 h=>h.elim λx5 h=>h.elim λx6 h=>f x0 x1 x2 x3 x4 x5 x6 h
theorem Wj{α0:Type}{α1:Type}{α2:Type}{p0:α0->α1->α2->Prop}{p1:α0->α1->α2->Prop}{p2:α0->α1->α2->Prop}{p3:α0->α1->α2->Prop}{p4:α0->α1->α2->Prop}{p5:α0->α1->α2->Prop}{p6:α0->α1->α2->Prop}{P:Prop}(h:∃x0 x1 x2,p0 x0 x1 x2/\p1 x0 x1 x2/\p2 x0 x1 x2/\p3 x0 x1 x2/\p4 x0 x1 x2/\p5 x0 x1 x2/\p6 x0 x1 x2)(f:∀x0 x1 x2,p0 x0 x1 x2->p1 x0 x1 x2->p2 x0 x1 x2->p3 x0 x1 x2->p4 x0 x1 x2->p5 x0 x1 x2->p6 x0 x1 x2->P):P:=h.elim λx0 h=>h.elim λx1 h=>h.elim λx2 h=>f x0 x1 x2 h.1 h.2.1 h.2.2.1 h.2.2.2.1 h.2.2.2.2.1 h.2.2.2.2.2.1 h.2.2.2.2.2.2
theorem sH{α0:Type}{α1:Type}{α2:Type}{α3:Type}{p0:α0->α1->α2->α3->Prop}{p1:α0->α1->α2->α3->Prop}{p2:α0->α1->α2->α3->Prop}{p3:α0->α1->α2->α3->Prop}{p4:α0->α1->α2->α3->Prop}{p5:α0->α1->α2->α3->Prop}{P:Prop}(h:∃x0 x1 x2 x3,p0 x0 x1 x2 x3/\p1 x0 x1 x2 x3/\p2 x0 x1 x2 x3/\p3 x0 x1 x2 x3/\p4 x0 x1 x2 x3/\p5 x0 x1 x2 x3)(f:∀x0 x1 x2 x3,p0 x0 x1 x2 x3->p1 x0 x1 x2 x3->p2 x0 x1 x2 x3->p3 x0 x1 x2 x3->p4 x0 x1 x2 x3->p5 x0 x1 x2 x3->P):P:=h.elim λx0 h=>h.elim λx1 h=>h.elim λx2 h=>h.elim λx3 h=>f x0 x1 x2 x3 h.1 h.2.1 h.2.2.1 h.2.2.2.1 h.2.2.2.2.1 h.2.2.2.2.2
theorem SU{α0:Type}{α1:Type}{α2:Type}{α3:Type}{α4:Type}{α5:Type}{α6:Type}{α7:Type}{p0:α0->α1->α2->α3->α4->α5->α6->α7->Prop}{P:Prop}(h:∃x0 x1 x2 x3 x4 x5 x6 x7,p0 x0 x1 x2 x3 x4 x5 x6 x7)(f:∀x0 x1 x2 x3 x4 x5 x6 x7,p0 x0 x1 x2 x3 x4 x5 x6 x7->P):P:=h.elim λx0 h=>h.elim λx1 h=>h.elim λx2 h=>h.elim λx3 h=>h.elim λx4 h=>h.elim λx5 h=>h.elim λx6 h=>h.elim λx7 h=>f x0 x1 x2 x3 x4 x5 x6 x7 h
theorem Kw{α0:Type}{α1:Type}{α2:Type}{α3:Type}{α4:Type}{α5:Type}{α6:Type}{α7:Type}{p0:α0->α1->α2->α3->α4->α5->α6->α7->Prop}(x0 x1 x2 x3 x4 x5 x6 x7)(h:p0 x0 x1 x2 x3 x4 x5 x6 x7):∃x0 x1 x2 x3 x4 x5 x6 x7,p0 x0 x1 x2 x3 x4 x5 x6 x7:=⟨x0,x1,x2,x3,x4,x5,x6,x7,h⟩
theorem Pk{α0:Type}{α1:Type}{α2:Type}{α3:Type}{α4:Type}{p0:α0->α1->α2->α3->α4->Prop}(x0 x1 x2 x3 x4)(h:p0 x0 x1 x2 x3 x4):∃x0 x1 x2 x3 x4,p0 x0 x1 x2 x3 x4:=⟨x0,x1,x2,x3,x4,h⟩
end
section
open PySem PySem.W PyProof.Rows PySem.Calls
set_option genInjectivity true
inductive AV where
 |none
 |bool(b:Bool)
 |int(i:Int)
 |str(l:List Nat)
 |bytes(l:List Nat)
 |aT(l:List AV)
 |list(l:List AV)
 |tok(kind worth:List Nat)
 |dict(l:List (List Nat×AV))
 |fn(k:Nat)
 |sp(k:Nat)
 |pos(rem:List AV)(k:Nat)
 |lam(d:Int)
 |eD
set_option genInjectivity false
noncomputable abbrev bQ(l:List Nat):Str:=⟨l.toArray⟩
structure vx where
 cells:List Int
 great:Int
 state:Int
 place:Int
inductive Ent where
 |call(k:Nat)(vs:List AV)(rem:List AV)(last:AV)(box:vx)(a:AV)(Zz:List AV)(XD:AV)(ZA:vx)
 |len(l:List Nat)
structure G where
 rem:List AV
 last:AV
 box:vx
 log:List Ent
structure Ctx where
 prog:Program
 w:World
 K:Frag
 base:Heap
 eX:Nat->Option Value
 kI:Addr->Addr->Obj->Prop
 lZ:Addr->Addr->Obj->Prop
 B6:Str
 rp:Str
 tabs:List (Addr×Pos×Str)
 code:Value
 qual:Str
 T:List AV
 box:Option Addr
 rd:Option (Addr×Addr×Addr×Addr)
 cd:Option (Addr×Addr)
noncomputable abbrev Ctx.M(c:Ctx):Model:=model c.prog c.w
noncomputable def Ctx.mu(c:Ctx):List Addr:=c.box.toList++((c.rd.map λx=>x.2.1).toList++((c.cd.map λx=>x.2).toList++c.tabs.map (·.1)))
noncomputable def Ctx.HA(c:Ctx)(k:Nat):Option Value:=match k with|0=>c.box.map .ref|1=>c.rd.map λx=>.ref x.1|2=>c.rd.map λx=>.ref x.2.2.1|3=>c.cd.map λx=>.ref x.1|4=>c.rd.map λx=>.ref x.2.2.2|_=>none
def gI:List DictEntry->List (Str×Value)->Prop|[],[]=>True|e::es,p::ps=>(∃t,e.key=.str p.1 t)/\e.val=p.2/\gI es ps|_,_=>False
abbrev cF:=Addr->Option Obj
def Ext(F F':cF):Prop:=∀b o,F b=some o->F' b=some o
theorem Ext.refl(F:cF):Ext F F:=λz_ z_ e=>e
theorem Ext.trans(x:Ext F F')(y:Ext F' F''):Ext F F'':=λb o e=>y b o (x b o e)
inductive ju(F:cF)(a:Addr)(q:Str):Prop
 |mk(oc:Obj)(vs:Array Value)(t:Tok)(h1:F a=some oc)(h2:oc.data=.fields vs)(h3:vs[1]?=some (.str q t))
theorem ju.mono(x:Ext F F')(h:ju F a q):ju F' a q:=let ⟨oc,vs,t,h1,h2,h3⟩:=h;⟨oc,vs,t,x _ _ h1,h2,h3⟩
class inductive f8 (R:Value->AV->Prop):List Value->List AV->Prop
 |nil:f8 R [] []
 |cons{v vs a as}(h:R v a)(hs:f8 R vs as):f8 R (v::vs) (a::as)
class inductive wC (R:Value->AV->Prop):List (Str×Value)->List (List Nat×AV)->Prop
 |nil:wC R [] []
 |cons{k v vs a as}(h:R v a)(hs:wC R vs as):wC R ((bQ k,v)::vs) ((k,a)::as)
class inductive VM (c:Ctx) (F:cF):Value->AV->Prop
 |none:VM c F .none .none
 |bool{b}:VM c F (.bool b) (.bool b)
 |int{i t}:VM c F (.int i t) (.int i)
 |str{l t}(hn:l.length<=16777216):VM c F (.str (bQ l) t) (.str l)
 |bytes{l t}(hb:∀x,x∈l->x<256):VM c F (.bytes (l.map UInt8.ofNat).toArray t) (.bytes l)
 |aT{a o vs n l}(h:F a=some o)(hc:o.cls=.type "tuple")(hd:o.data=.seq vs n)(hn:l.length<=1048576)(hs:f8 (VM c F) vs.toList l):VM c F (.ref a) (.aT l)
 |list{a o vs n l}(h:F a=some o)(hc:o.cls=.type "list")(hd:o.data=.seq vs n)(hn:l.length<=1048576)(hs:f8 (VM c F) vs.toList l):VM c F (.ref a) (.list l)
 |tok{a d kind worth es n t1 t2 v3 v4}(h:F a=some (instObj 157 d))(hd:F d=some (dictOf es n))
   (he:gI es [("kind",.str (bQ kind) t1),("worth",.str (bQ worth) t2),("at",v3),("is_in_a",v4)]) (hk:kind.length<=16777216) (hw:worth.length<=16777216):VM c F (.ref a) (.tok kind worth)
 |dict{a o kvs l}(h:F a=some o)(hm:(a==sysModules)=false)(hd:o.IsDictOf (strKind c.prog c.w) kvs)(hs:wC (VM c F) kvs l):VM c F (.ref a) (.dict l)
 |fn{v k}(h:c.eX k=some v):VM c F v (.fn k)
 |sp{v k}(h:c.HA k=some v):VM c F v (.sp k)
 |pos{rem k t}(p:Nat)(hp:p+rem.length=c.T.length)(hr:c.T.drop p=rem):VM c F (.int ((p+k:Nat):Int) t) (.pos rem k)
 |lam{a o d cl oc t cc}(h:F a=some o)(hb:c.kI cl cc o)(hc:F cl=some oc)(hd:oc.data=.cell (some (.int d t)))(hcc:ju F cc c.B6):VM c F (.ref a) (.lam d)
 |eD{a o cl oc v cc}(h:F a=some o)(hb:c.lZ cl cc o)(hc:F cl=some oc)(hd:oc.data=.cell (some v))(hv:c.HA 1=some v)(hcc:ju F cc c.rp):VM c F (.ref a) .eD
abbrev dh(c:Ctx)(F):=f8 (VM c F)
abbrev Gq(c:Ctx)(F):=wC (VM c F)
theorem VM.to(x:Ext F F')(hD:∀(o:Obj) kvs,o.IsDictOf (strKind c.prog c.w) kvs->o.IsDictOf (strKind c'.prog c'.w) kvs)(hT:c'.T=c.T)(hf:∀k v,c.eX k=some v->c'.eX k=some v)(hs:∀k v,c.HA k=some v->c'.HA k=some v)
  (hl:∀a b o,c.kI a b o->c'.kI a b o) (hq:c'.B6=c.B6) (Pv:∀a b o,c.lZ a b o->c'.lZ a b o) (ZB:c'.rp=c.rp) (h:VM c F v a):VM c' F' v a:=
 VM.rec (motive_1:=λv a z_=>VM c' F' v a) (motive_2:=λv a z_=>dh c' F' v a) (motive_3:=λv a z_=>Gq c' F' v a)
  .none .bool .int .str .bytes (λh hc hd hn z_ ih=>.aT (x _ _ h) hc hd hn ih) (λh hc hd hn z_ ih=>.list (x _ _ h) hc hd hn ih) (λh hd he hk hw=>.tok (x _ _ h) (x _ _ hd) he hk hw)
  (λh hm hd z_ ih=>.dict (x _ _ h) hm (hD _ _ hd) ih) (λh=>.fn (hf _ _ h)) (λh=>.sp (hs _ _ h)) (λp hp hr=>.pos p (by rw[hT];exact hp) (by rw[hT];exact hr))
  (λh hb hc hd hcc=>.lam (x _ _ h) (hl _ _ _ hb) (x _ _ hc) hd (by rw[hq];exact hcc.mono x)) (λh hb hc hd hv hcc=>.eD (x _ _ h) (Pv _ _ _ hb) (x _ _ hc) hd (hs _ _ hv) (by rw[ZB];exact hcc.mono x))
  .nil (λz_ z_ h hs=>.cons h hs) .nil (λz_ z_ h hs=>.cons h hs) h
theorem f8.ind{motive:∀(vs:List Value) (as:List AV),dh c F vs as->Prop}(nil:motive [] [] .nil)(cons:∀{v vs a as} (h:VM c F v a) (hs:dh c F vs as),motive vs as hs->motive (v::vs) (a::as) (.cons h hs))(h:dh c F vs as):motive vs as h:=f8.rec nil (λh hs ih=>cons h hs ih) h
theorem wC.ind{motive:∀(vs:List (Str×Value)) (as:List (List Nat×AV)),Gq c F vs as->Prop}(nil:motive [] [] .nil)(cons:∀{k v vs a as} (h:VM c F v a) (hs:Gq c F vs as),motive vs as hs->motive ((bQ k,v)::vs) ((k,a)::as) (.cons h hs))(h:Gq c F vs as):motive vs as h:=wC.rec nil (λh hs ih=>cons h hs ih) h
theorem f8.imp(k:∀{v:Value} {a:AV},VM c F v a->VM c' F' v a){vs:List Value}(h:dh c F vs as):dh c' F' vs as:=
 h.ind (motive:=λvs as z_=>dh c' F' vs as) .nil λh z_ ih=>.cons (k h) ih
theorem VM.mono(x:Ext F F')(h:VM c F v a):VM c F' v a:=
 h.to x (λz_ z_ h=>h) rfl (λz_ z_ h=>h) (λz_ z_ h=>h) (λz_ z_ z_ h=>h) rfl (λz_ z_ z_ h=>h) rfl
theorem f8.mono(x:Ext F F')(h:dh c F v a):dh c F' v a:=h.imp λh=>h.mono x
section
variable{c:Ctx}{F:cF}{v:Value}{P:Value->Prop}
def VC(c:Ctx)(F:cF)(P:Value->Prop)(a:AV):Prop:=AV.casesOn a (P .none) (λb=>P (.bool b)) (λi=>∀t,P (.int i t)) (λl=>∀t,l.length<=16777216->P (.str (bQ l) t)) (λl=>∀t,(∀x,x∈l->x<256)->P (.bytes (l.map UInt8.ofNat).toArray t))
 (λl=>∀a o vs n,F a=some o->o.cls=.type "tuple"->o.data=.seq vs n->l.length<=1048576->dh c F vs.toList l->P (.ref a))
 (λl=>∀a o vs n,F a=some o->o.cls=.type "list"->o.data=.seq vs n->l.length<=1048576->dh c F vs.toList l->P (.ref a))
 (λk w=>∀a d es n t1 t2 v3 v4,F a=some (instObj 157 d)->F d=some (dictOf es n)->gI es [("kind",.str (bQ k) t1),("worth",.str (bQ w) t2),("at",v3),("is_in_a",v4)]->k.length<=16777216->w.length<=16777216->P (.ref a))
 (λl=>∀a o kvs,F a=some o->(a==sysModules)=false->o.IsDictOf (strKind c.prog c.w) kvs->Gq c F kvs l->P (.ref a))
 (λk=>∀v,c.eX k=some v->P v) (λk=>∀v,c.HA k=some v->P v) (λrem k=>∀p t,p+rem.length=c.T.length->c.T.drop p=rem->P (.int ((p+k:Nat):Int) t))
 (λd=>∀a o cl oc t cc,F a=some o->c.kI cl cc o->F cl=some oc->oc.data=.cell (some (.int d t))->ju F cc c.B6->P (.ref a))
 (∀a o cl oc w cc,F a=some o->c.lZ cl cc o->F cl=some oc->oc.data=.cell (some w)->c.HA 1=some w->ju F cc c.rp->P (.ref a))
theorem VM.el(h:VM c F v a)(k:VC c F P a):P v:=by induction h using VM.casesOn with|none=>exact k|bool=>exact k|int=>exact k _|str hn=>exact k _ hn|bytes hb=>exact k _ hb|aT h1 h2 h3 h4 h5=>exact k _ _ _ _ h1 h2 h3 h4 h5|list h1 h2 h3 h4 h5=>exact k _ _ _ _ h1 h2 h3 h4 h5|tok h1 h2 h3 h4 h5=>exact k _ _ _ _ _ _ _ _ h1 h2 h3 h4 h5|dict h1 h2 h3 h4=>exact k _ _ _ h1 h2 h3 h4|fn h=>exact k _ h|sp h=>exact k _ h|pos p h1 h2=>exact k p _ h1 h2|lam h1 h2 h3 h4 h5=>exact k _ _ _ _ _ _ h1 h2 h3 h4 h5|eD h1 h2 h3 h4 h5 h6=>exact k _ _ _ _ _ _ h1 h2 h3 h4 h5 h6
@[elab_as_elim] theorem VM.noneE(h:VM c F v .none)(k:P .none):P v:=h.el k
@[elab_as_elim] theorem VM.dJ(h:VM c F v (.int i))(k:∀t,P (.int i t)):P v:=h.el k
@[elab_as_elim] theorem VM.i6(h:VM c F v (.str l))(k:∀t,l.length<=16777216->P (.str (bQ l) t)):P v:=h.el k
@[elab_as_elim] theorem VM.listE(h:VM c F v (.list l))(k:∀a o vs n,F a=some o->o.cls=.type "list"->o.data=.seq vs n->l.length<=1048576->dh c F vs.toList l->P (.ref a)):P v:=h.el k
@[elab_as_elim] theorem VM.qj(h:VM c F v (.aT l))(k:∀a o vs n,F a=some o->o.cls=.type "tuple"->o.data=.seq vs n->l.length<=1048576->dh c F vs.toList l->P (.ref a)):P v:=h.el k
@[elab_as_elim] theorem VM.vC(h:VM c F v (.dict l))(k:∀a o kvs,F a=some o->(a==sysModules)=false->o.IsDictOf (strKind c.prog c.w) kvs->Gq c F kvs l->P (.ref a)):P v:=h.el k
@[elab_as_elim] theorem VM.zz(h:VM c F v (.sp j))(k:c.HA j=some v->P v):P v:=h.el (P:=λw=>(c.HA j=some w->P w)->P w) (λz_ e f=>f e) k
@[elab_as_elim] theorem VM.IZ(h:VM c F v (.fn j))(k:c.eX j=some v->P v):P v:=h.el (P:=λw=>(c.eX j=some w->P w)->P w) (λz_ e f=>f e) k
@[elab_as_elim] theorem VM.xW(h:VM c F v (.pos rem j))(k:∀p t,p+rem.length=c.T.length->c.T.drop p=rem->P (.int ((p+j:Nat):Int) t)):P v:=h.el k
@[elab_as_elim] theorem VM.Ec(h:VM c F v (.bool b))(k:P (.bool b)):P v:=h.el k
@[elab_as_elim] theorem VM.Pw(h:VM c F v (.tok k w))(K:∀a d es n t1 t2 v3 v4,F a=some (instObj 157 d)->F d=some (dictOf es n)->gI es [("kind",.str (bQ k) t1),("worth",.str (bQ w) t2),("at",v3),("is_in_a",v4)]->k.length<=16777216->w.length<=16777216->P (.ref a)):P v:=h.el K
@[elab_as_elim] theorem VM.C8(h:VM c F v .eD)(k:∀a o cl oc w cc,F a=some o->c.lZ cl cc o->F cl=some oc->oc.data=.cell (some w)->c.HA 1=some w->ju F cc c.rp->P (.ref a)):P v:=h.el k
end
section
variable{c:Ctx}{F:cF}{v:Value}{a:AV}{vs:List Value}{as:List AV}{P:List Value->Prop}
theorem f8.un(h:dh c F (v::vs) (a::as)):VM c F v a/\dh c F vs as:=by cases h with|cons h hs=>exact⟨h,hs⟩
@[elab_as_elim] theorem f8.sC(h:dh c F vs [])(k:P []):P vs:=by cases h;exact k
@[elab_as_elim] theorem f8.hG(h:dh c F vs (a::as))(k:∀v vs,VM c F v a->dh c F vs as->P (v::vs)):P vs:=by cases h with|cons h hs=>exact k _ _ h hs
theorem f8.MU{P:Prop}(h:dh c F [] (a::as)):P:=h.hG (P:=λl=>l=[]->P) (λz_ z_ z_ z_ e=>nomatch e) rfl
theorem f8.MV{P:Prop}(h:dh c F (v::vs) []):P:=h.sC (P:=λl=>l=v::vs->P) (λe=>nomatch e) rfl
theorem f8.one{P:Prop}(h:dh c F vs [a])(k:∀v,vs=[v]->VM c F v a->P):P:=by revert k;exact h.hG λv l h1 h=>h.sC λk=>k v rfl h1
theorem f8.two{P:Prop}(h:dh c F vs [a,b])(k:∀v w,vs=[v,w]->VM c F v a->VM c F w b->P):P:=by revert k;exact h.hG λv l h1 h=>h.hG λw l h2 h=>h.sC λk=>k v w rfl h1 h2
theorem VM.Uf{P:Prop}(h:VM c F (.ref b) (.int i)):P:=h.dJ (P:=λw=>w=.ref b->P) (λz_ e=>nomatch e) rfl
end
theorem f8.length{vs}(h:dh c F vs as):vs.length=as.length:=
 h.ind (motive:=λvs as z_=>vs.length=as.length) rfl λz_ z_ ih=>congrArg Nat.succ ih
theorem f8.append{vs ws}(h:dh c F vs as)(y:dh c F ws bs):dh c F (vs++ws) (as++bs):=
 h.ind (motive:=λvs as z_=>dh c F (vs++ws) (as++bs)) y λh z_ ih=>.cons h ih
theorem f8.get{vs}(h:dh c F vs as):∀{i:Nat} {a:AV},as[i]?=some a->∃v,vs[i]?=some v/\VM c F v a:=
 h.ind (motive:=λvs as z_=>∀{i:Nat} {a:AV},as[i]?=some a->∃v,vs[i]?=some v/\VM c F v a) (λe=>by rw[List.getElem?_nil]at e;exact aI e) (by
  intro v vs a as h hs ih i b e;cases i with|zero=>exact⟨_,rfl,dj e▸h⟩|succ i=>exact ih e)
theorem f8.drop(k){vs}(h:dh c F vs as):dh c F (vs.drop k) (as.drop k):=
 h.ind (motive:=λvs as z_=>∀k,dh c F (vs.drop k) (as.drop k)) (λk=>by rw[List.drop_nil,List.drop_nil];exact .nil) (λh hs ih k=>match k with|0=>.cons h hs|k+1=>ih k) k
theorem f8.take(k){vs}(h:dh c F vs as):dh c F (vs.take k) (as.take k):=
 h.ind (motive:=λvs as z_=>∀k,dh c F (vs.take k) (as.take k)) (λk=>by rw[List.take_nil,List.take_nil];exact .nil) (λh z_ ih k=>match k with|0=>.nil|k+1=>.cons h (ih k)) k
theorem f8.reverse{vs}(h:dh c F vs as):dh c F vs.reverse as.reverse:=
 h.ind (motive:=λvs as z_=>dh c F vs.reverse as.reverse) .nil λh z_ ih=>by rw[List.reverse_cons,List.reverse_cons];exact ih.append (.cons h .nil)
inductive Ug(c:Ctx)(rem:List AV)(F:cF)(h:Heap)(r d tl nd:Addr):Prop
 |mk(es:List DictEntry)(n p:Nat)(t:Tok)(h1:h.get? d=some (dictOf es n))(h2:es.length<=10)(h3:gI es [("tokens",.ref tl),("at",.int (p:Int) t),("named",.ref nd)])(h4:p+rem.length=c.T.length)(h5:c.T.drop p=rem)
  (h6:F r=some (instObj 811 d)) (h7:VM c F (.ref tl) (.list c.T)) (h8:VM c F (.ref nd) (.dict []))
def yQ(c:Ctx)(rem:List AV)(F:cF)(h:Heap):Prop:=∀r d tl nd,c.rd=some (r,d,tl,nd)->Ug c rem F h r d tl nd
inductive Uh(c:Ctx)(last:AV)(F:cF)(h:Heap)(x d:Addr):Prop
 |mk(es:List DictEntry)(n:Nat)(vr vn vd vl:Value)(h1:h.get? d=some (dictOf es n))(h2:es.length<=10)(h3:gI es [("reader",vr),("is_named",vn),("depth",vd),("last",vl)])
  (h4:VM c F vr (.sp 1)) (h5:VM c F vn .eD) (h6:VM c F vd (.int 0)) (h7:VM c F vl last) (h8:F x=some (instObj 470 d)) (h9:handedIn vl=true)
def yR(c:Ctx)(last:AV)(F:cF)(h:Heap):Prop:=∀x d,c.cd=some (x,d)->Uh c last F h x d
inductive Px(c:Ctx)(bx:vx)(F:cF)(h:Heap)(b:Addr):Prop
 |mk(o:Obj)(vc vg vs vp:Value)(n:Nat)(h1:h.get? b=some o)(h2:o.cls=.type "list")(h3:o.data=.seq #[vc,vg,vs,vp] n)
  (h4:VM c F vc (.list (bx.cells.map .int))) (h5:VM c F vg (.int bx.great)) (h6:VM c F vs (.int bx.state)) (h7:VM c F vp (.int bx.place))
def rq(c:Ctx)(bx:vx)(F:cF)(h:Heap):Prop:=∀b,c.box=some b->Px c bx F h b
def TabOk(c:Ctx)(F:cF)(h:Heap):Prop:=∀P p q,(P,p,q)∈c.tabs->∃ps,h.get? P=some (tabObj ps)/\(ps=#[]∨∃c',ps=#[rawInt p.line,rawInt p.col,.ref c']/\ju F c' q)
structure gG(c:Ctx)(g:G)(F:cF)(h:Heap):Prop where
 rd:yQ c g.rem F h
 cd:yR c g.last F h
 box:rq c g.box F h
 tab:TabOk c F h
theorem yQ.to(x:yQ c rem F h)(e1:c'.rd=c.rd)(e2:c'.T=c.T)(e:Ext F F')(v1:∀v,VM c F v (.list c.T)->VM c' F' v (.list c.T))(v2:∀v,VM c F v (.dict [])->VM c' F' v (.dict []))
  (k:∀r d tl nd,c.rd=some (r,d,tl,nd)->∀o,h.get? d=some o->h'.get? d=some o):yQ c' rem F' h':=λr d tl nd q=>by
 rw[e1]at q;obtain⟨es,n,p,t,h1,h2,h3,h4,h5,h6,h7,h8⟩:=x r d tl nd q;exact⟨es,n,p,t,k _ _ _ _ q _ h1,h2,h3,by rw[e2];exact h4,by rw[e2];exact h5,e _ _ h6,by rw[e2];exact v1 _ h7,v2 _ h8⟩
theorem yR.to(x:yR c last F h)(e1:c'.cd=c.cd)(e:Ext F F')(v1:∀v,VM c F v (.sp 1)->VM c' F' v (.sp 1))(v2:∀v,VM c F v .eD->VM c' F' v .eD)(v3:∀v,VM c F v (.int 0)->VM c' F' v (.int 0))(v4:∀v,VM c F v last->VM c' F' v last)
  (k:∀x d,c.cd=some (x,d)->∀o,h.get? d=some o->h'.get? d=some o):yR c' last F' h':=λy d q=>by
 rw[e1]at q;obtain⟨es,n,vr,vn,vd,vl,h1,h2,h3,h4,h5,h6,h7,h8,h9⟩:=x y d q;exact⟨es,n,vr,vn,vd,vl,k _ _ q _ h1,h2,h3,v1 _ h4,v2 _ h5,v3 _ h6,v4 _ h7,e _ _ h8,h9⟩
theorem rq.to(x:rq c bx F h)(e1:c'.box=c.box)(v1:∀v (l:List Int),VM c F v (.list (l.map .int))->VM c' F' v (.list (l.map .int)))(v2:∀v i,VM c F v (.int i)->VM c' F' v (.int i))
  (k:∀b,c.box=some b->∀o,h.get? b=some o->h'.get? b=some o):rq c' bx F' h':=λb q=>by
 rw[e1]at q;obtain⟨o,vc,vg,vs,vp,n,h1,h2,h3,h4,h5,h6,h7⟩:=x b q;exact⟨o,vc,vg,vs,vp,n,k b q _ h1,h2,h3,v1 _ _ h4,v2 _ _ h5,v2 _ _ h6,v2 _ _ h7⟩
theorem TabOk.to(x:TabOk c F h)(e1:c'.tabs=c.tabs)(e:Ext F F')(k:∀P p q,(P,p,q)∈c.tabs->∀o,h.get? P=some o->h'.get? P=some o):TabOk c' F' h':=λP p q hq=>by rw[e1]at hq;refine aH (x P p q hq) λps h1 h2=>⟨ps,k P p q hq _ h1,h2.imp id λ⟨c',h3,h4⟩=>⟨c',h3,h4.mono e⟩⟩
theorem yQ.mono(x:yQ c rem F h)(e:Ext F F')(k:∀r d tl nd,c.rd=some (r,d,tl,nd)->∀o,h.get? d=some o->h'.get? d=some o):yQ c rem F' h':=x.to rfl rfl e (λz_ y=>y.mono e) (λz_ y=>y.mono e) k
theorem yR.mono(x:yR c last F h)(e:Ext F F')(k:∀x d,c.cd=some (x,d)->∀o,h.get? d=some o->h'.get? d=some o):yR c last F' h':=x.to rfl e (λz_ y=>y.mono e) (λz_ y=>y.mono e) (λz_ y=>y.mono e) (λz_ y=>y.mono e) k
theorem rq.mono(x:rq c bx F h)(e:Ext F F')(k:∀b,c.box=some b->∀o,h.get? b=some o->h'.get? b=some o):rq c bx F' h':=x.to rfl (λz_ z_ y=>y.mono e) (λz_ z_ y=>y.mono e) k
theorem TabOk.mono(x:TabOk c F h)(e:Ext F F')(k:∀P p q,(P,p,q)∈c.tabs->∀o,h.get? P=some o->h'.get? P=some o):TabOk c F' h':=x.to rfl e k
theorem yS{c:Ctx}{r d tl n}(h1:c.rd=some (r,d,tl,n)):d∈c.mu:=by unfold Ctx.mu;rw[h1];simp
theorem yT{c:Ctx}(h1:c.cd=some (x,d)):d∈c.mu:=by unfold Ctx.mu;rw[h1];simp
theorem kJ{c:Ctx}(h1:c.box=some b):b∈c.mu:=by unfold Ctx.mu;rw[h1];simp
theorem uI{c:Ctx}(h:(P,p,q)∈c.tabs):P∈c.mu:=by unfold Ctx.mu;simp only[eB];exact .inr (.inr (.inr (cj (f:=(·.1)) h)))
structure Inv(c:Ctx)(F:cF)(g:G)(s:Shared):Prop where
 cE:∀b o,F b=some o->s.heap.get? b=some o
 base:∀b o,c.base.get? b=some o->F b=some o
 apart:∀b,b∈c.mu->F b=none
 d7:gG c g F s.heap
 fJ:c.mu.Nodup
structure eZ(c:Ctx)(L:Addr)(s s':Shared):Prop where
 keep:∀b o,b∉c.mu->b≠L->s.heap.get? b=some o->s'.heap.get? b=some o
 ns:∀m,s.heap.Ns L m->s'.heap.Ns L m
 alive:∀b,(s.heap.get? b).isSome=true->(s'.heap.get? b).isSome=true
 gens:s'.gens=s.gens
 os:s'.os=s.os
theorem eZ.refl:eZ c L s s:=⟨λz_ z_ z_ z_ e=>e,λz_ x=>x,λz_ x=>x,rfl,rfl⟩
theorem eZ.trans(x:eZ c L s s')(y:eZ c L s' s''):eZ c L s s'':=
 ⟨λb o h1 h2 e=>y.keep b o h1 h2 (x.keep b o h1 h2 e),λm e=>y.ns m (x.ns m e),λb e=>y.alive b (x.alive b e),y.gens.trans x.gens,y.os.trans x.os⟩
theorem gG.alive(x:gG c g F h)(hb:b∈c.mu):∃o,h.get? b=some o:=by
 refine Or.elim (eB.mp hb) (λhb=>?_) λhb=>?_
 ·rw[Option.mem_toList]at hb;obtain⟨o,_,_,_,_,_,h1,_⟩:=x.box b hb;exact⟨o,h1⟩
 ·refine Or.elim (eB.mp hb) (λhb=>?_) λhb=>?_
  ·rw[Option.mem_toList,aX]at hb;obtain⟨⟨r,d,tl,nd⟩,h1,h2⟩:=hb;have h2:d=b:=h2;obtain⟨_,_,_,_,h3,_⟩:=x.rd r d tl nd h1;exact⟨_,h2▸h3⟩
  ·refine Or.elim (eB.mp hb) (λhb=>?_) λhb=>?_
   ·rw[Option.mem_toList,aX]at hb;obtain⟨⟨y,d⟩,h1,h2⟩:=hb;have h2:d=b:=h2;obtain⟨_,_,_,_,_,_,h3,_⟩:=x.cd y d h1;exact⟨_,h2▸h3⟩
   ·obtain⟨⟨P,p,q⟩,h1,h2⟩:=cI.mp hb;have h2:P=b:=h2;refine aH (x.tab P p q h1) λz_ h3 z_=>⟨_,h2▸h3⟩
section
structure XF(s:Shared)(F F':cF):Prop where
 ext:Ext F F'
 low:∀b,(s.heap.get? b).isSome=true->F' b=F b
theorem XF.refl:XF s F F:=⟨Ext.refl F,λz_ z_=>rfl⟩
theorem XF.trans(x:XF s F F')(hs:∀b,(s.heap.get? b).isSome=true->(s'.heap.get? b).isSome=true)(y:XF s' F' F''):XF s F F'':=
 ⟨x.ext.trans y.ext,λb hb=>(y.low b (hs b hb)).trans (x.low b hb)⟩
noncomputable def fq(F:cF)(a:Addr)(o:Obj):cF:=λb=>if b=a then some o else F b
theorem b9(F:cF)(a)(o):fq F a o a=some o:=by simp[fq]
theorem bf(h:b≠a):fq F a o b=F b:=by simp[fq,h]
theorem gG.mono(x:gG c g F h)(e:Ext F F')(k:∀b,b∈c.mu->∀o,h.get? b=some o->h'.get? b=some o):gG c g F' h':=
 ⟨x.rd.mono e λz_ z_ z_ z_ q=>k _ (yS q),x.cd.mono e λz_ z_ q=>k _ (yT q),x.box.mono e λz_ q=>k _ (kJ q),x.tab.mono e λz_ z_ z_ q=>k _ (uI q)⟩
theorem Inv.toks(I:Inv c F g s)(t):Inv c F g {s with toks:=t}:=⟨I.cE,I.base,I.apart,I.d7,I.fJ⟩
theorem eZ.toks(t):eZ c L s {s with toks:=t}:=⟨λz_ z_ z_ z_ e=>e,λz_ x=>x,λz_ x=>x,rfl,rfl⟩
theorem bu{h:Heap}(e:(h.get? b).isSome=true):∃o,h.get? b=some o:=Option.isSome_iff_exists.mp e
theorem bw{h:Heap}(e:(h.get? b).isSome=true):b<h.objs.size:=let ⟨_,q⟩:=bu e;aN q
theorem ia{h:Heap}(b)(e:(h.get? b).isSome=true):((h.push o).get? b).isSome=true:=by refine b0 (bu e) λx q=>?_;rw[az _ q];rfl
theorem Inv.free(I:Inv c F g s):F s.heap.objs.size=none:=by cases q:F s.heap.objs.size with|none=>rfl|some o'=>exact bc (aN (I.cE _ _ q)) (eN _)
theorem Inv.j6(I:Inv c F g s)(o:Obj):Ext F (fq F s.heap.objs.size o):=λb o' e=>by
 by_cases q:b=s.heap.objs.size
 ·subst q;rw[I.free]at e;exact aI e
 ·rw[bf q];exact e
theorem Inv.EB(I:Inv c F g s)(o:Obj):XF s F (fq F s.heap.objs.size o):=
 ⟨I.j6 o,λb hb=>bf (aJ (bw hb))⟩
theorem Inv.BN(I:Inv c F g s)(hb:b∈c.mu):b≠s.heap.objs.size:=by refine b0 (I.d7.alive hb) λo h=>aJ (aN h)
theorem Inv.push(I:Inv c F g s)(o:Obj)(hf:o.isFreed=false)(t):
  Inv c (fq F s.heap.objs.size o) g {s with heap:=s.heap.push o,toks:=t}/\XF s F (fq F s.heap.objs.size o)/\∀L,eZ c L s {s with heap:=s.heap.push o,toks:=t}:=by
 refine⟨⟨λb o' e=>?_,λb o' e=>I.j6 o _ _ (I.base b o' e),λb hb=>?_,I.d7.mono (I.j6 o) λb z_ o' e=>az _ e,I.fJ⟩,I.EB o,
  λL=>⟨λb o' z_ z_ e=>az _ e,λm x=>x.push o,λb e=>ia b e,rfl,rfl⟩⟩
 ·by_cases q:b=s.heap.objs.size
  ·subst q;rw[b9]at e;(refine bD e λx=>?_;subst x);exact be _ hf
  ·rw[bf q]at e;exact az _ (I.cE b o' e)
 ·rw[bf (I.BN hb)];exact I.apart b hb
theorem Inv.gc(I:Inv c F g s)(o:Obj)(t):
  Inv c F g {s with heap:=s.heap.push o,toks:=t}/\∀L,eZ c L s {s with heap:=s.heap.push o,toks:=t}:=
 ⟨⟨λb o' e=>az _ (I.cE b o' e),I.base,I.apart,I.d7.mono (Ext.refl F) λb z_ o' e=>az _ e,I.fJ⟩,
  λL=>⟨λb o' z_ z_ e=>az _ e,λm x=>x.push o,λb e=>ia b e,rfl,rfl⟩⟩
abbrev Loc:=List (Nat×AV)
noncomputable def fW(x:Nat):Loc->Option AV|[]=>none|p::r=>match Nat.beq p.1 x with|true=>some p.2|false=>fW x r
noncomputable def db(x:Nat)(a:AV):Loc->Loc|[]=>[(x,a)]|p::r=>match Nat.beq p.1 x with|true=>(x,a)::r|false=>p::db x a r
theorem AQ:fW x (p::r)=match Nat.beq p.1 x with|true=>some p.2|false=>fW x r:=rfl
theorem MI:db x a (p::r)=match Nat.beq p.1 x with|true=>(x,a)::r|false=>p::db x a r:=rfl
theorem c0:Nat.beq a b=true↔a=b:=⟨aj,λh=>by subst h;exact Nat.beq_refl a⟩
theorem cv(x)(a)(y):∀l:Loc,fW y (db x a l)=if y=x then some a else fW y l
 |[]=>by
  show(match Nat.beq x y with|true=>some a|false=>none)=if y=x then some a else none
  cases h:Nat.beq x y with
  |true=>rw[br (c0.mp h).symm]|false=>
   have:¬y=x:=λe=>by rw[c0.mpr e.symm]at h;exact il h
   rw[bi this]
 |p::r=>by
  have ih:=cv x a y r;rw[MI,AQ];cases h:Nat.beq p.1 x with
  |true=>
   have hp:=c0.mp h;dsimp only;rw[AQ];by_cases q:y=x
   ·rw[br q,c0.mpr q.symm]
   ·have h1:Nat.beq x y=false:=by cases z:Nat.beq x y with|false=>rfl|true=>exact bc (c0.mp z).symm q
    have h2:Nat.beq p.1 y=false:=by rw[hp];exact h1
    rw[bi q,h1,h2]
  |false=>
   dsimp only;rw[AQ];cases h2:Nat.beq p.1 y with
   |true=>
    have hy:=c0.mp h2;have:¬y=x:=λe=>by rw[c0.mpr (hy.trans e)]at h;exact il h
    rw[bi this]
   |false=>exact ih
structure Sg where
 ah:Loc
 own:Option (Nat×List AV)
variable(nm:Nat->Str)
inductive wB(c:Ctx)(env:Env)(F:cF)(m:Str->Option Value)(x:Nat)(a:AV):Prop
 |mk(v:Value)(h1:VM c F v a)(h2:(env.kindOf (nm x)=some .local/\m (nm x)=some v)∨
  ((env.kindOf (nm x)=some .cell∨env.kindOf (nm x)=some .free)/\∃cl o,env.cells.lookup (nm x)=some cl/\F cl=some o/\o.data=.cell (some v)))
inductive RK(c:Ctx)(env:Env)(F:cF)(m:Str->Option Value)(h:Heap)(x:Nat)(l:List AV):Prop
 |mk(a:Addr)(o:Obj)(vs:Array Value)(n:Nat)(h1:env.kindOf (nm x)=some .local)(h2:m (nm x)=some (.ref a))(h3:h.get? a=some o)(h4:o.cls=.type "list")(h5:o.data=.seq vs n)(h6:dh c F vs.toList l)
  (h7:a∉c.mu) (h8:a≠env.locals) (h9:F a=none) (h10:c.base.objs.size<=a) (h11:l.length<=1048576) (h12:o={cls:=.type "list",dict:=none,data:=.seq vs n,slots:=#[]})
def KL(k:Option NameKind):Prop:=k=some .local∨k=some .cell∨k=some .free
inductive WH(c:Ctx)(env:Env)(F:cF)(σ:Sg)(hp:Heap):Prop
 |mk(m:Str->Option Value)(h:hp.Ns env.locals m)(h1:∀x a,fW x σ.ah=some a->KL (env.kindOf (nm x))->wB nm c env F m x a)(h2:∀x l,σ.own=some (x,l)->RK nm c env F m hp x l)
structure ax(c:Ctx)(env:Env)(F:cF)(σ:Sg)(s:Shared):Prop where
 kind:env.scope.kind=.function
 glob:env.globals=mainGlobals
 blt:env.builtins=builtinsNs
 hcode:env.code=c.code/\env.qual=c.qual
 cR:env.locals∉c.mu
 fN:F env.locals=none
 above:c.base.objs.size<=env.locals
 tk:0<s.toks
 yc:∀x,(env.kindOf x=some .cell∨env.kindOf x=some .free)->∃cl,env.cells.lookup x=some cl
 ns:WH nm c env F σ s.heap
theorem wB.mono(h:wB nm c env F m x a)(e:Ext F F'):wB nm c env F' m x a:=by obtain⟨v,hv,h⟩:=h;refine⟨v,hv.mono e,h.imp id ?_⟩;rintro⟨hk,cl,o,h1,h2,h3⟩;exact⟨hk,cl,o,h1,e _ _ h2,h3⟩
theorem gp{h:Heap}(x:h.Ns L m):(h.get? L).isSome=true:=by refine Bv x λo z_ z_ e z_=>?_;rw[e];rfl
theorem ax.alive(f:ax nm c env F σ s):(s.heap.get? env.locals).isSome=true:=by obtain⟨m,hn,_⟩:=f.ns;exact gp hn
theorem ax.step(f:ax nm c env F σ s)(x:XF s F F')(y:eZ c env.locals s s')(tk:s.toks<=s'.toks):ax nm c env F' σ s':=by obtain⟨m,hn,hl,ho⟩:=f.ns;refine⟨f.kind,f.glob,f.blt,f.hcode,f.cR,(x.low _ (f.alive)).trans f.fN,f.above,aB f.tk tk,f.yc,m,y.ns m hn,λz a e hk=>(hl z a e hk).mono nm x.ext,λz l e=>?_⟩;obtain⟨a,o,vs,n,h1,h2,h3,h4,h5,h6,h7,h8,h9,h10,h11,h12⟩:=(ho z l e);exact⟨a,o,vs,n,h1,h2,y.keep a o h7 h8 h3,h4,h5,h6.mono x.ext,h7,h8,(x.low a (by rw[h3];rfl)).trans h9,h10,h11,h12⟩
theorem ax.big(f:ax nm c env F σ s):c.base.objs.size<=s.heap.objs.size:=aw f.above (cb (bw f.alive))
inductive aE(c:Ctx)(F:cF)(s:Shared)(L:Addr)(g:G)(a:AV)(v:Value)(s':Shared):Prop
 |mk(F':cF)(x:XF s F F')(h:VM c F' v a)(i:Inv c F' g s')(y:eZ c L s s')
inductive ji(c:Ctx)(F:cF)(s:Shared)(L:Addr)(g:G)(b:Bool)(r:Bool)(s':Shared):Prop
 |mk(e:r=b)(F':cF)(x:XF s F F')(i:Inv c F' g s')(y:eZ c L s s')
inductive Dp(c:Ctx)(F:cF)(s:Shared)(L:Addr)(g:G)(as:List AV)(vs:List Value)(s':Shared):Prop
 |mk(F':cF)(x:XF s F F')(h:dh c F' vs as)(i:Inv c F' g s')(y:eZ c L s s')
theorem aE.after(x:XF s F F')(y:eZ c L s s₁)(p:aE c F' s₁ L g a v s'):aE c F s L g a v s':=by obtain⟨F2,h1,h2,h3,h4⟩:=p;exact⟨F2,x.trans y.alive h1,h2,h3,y.trans h4⟩
theorem ji.after(x:XF s F F')(y:eZ c L s s₁)(p:ji c F' s₁ L g a v s'):ji c F s L g a v s':=by obtain⟨e,F2,h1,h3,h4⟩:=p;exact⟨e,F2,x.trans y.alive h1,h3,y.trans h4⟩
theorem aE.now(hv:VM c F v a)(I:Inv c F g s)(t):aE c F s L g a v {s with toks:=t}:=
 ⟨F,XF.refl,hv,I.toks t,eZ.toks t⟩
theorem aE.here(hv:VM c F v a)(I:Inv c F g s):aE c F s L g a v s:=
 ⟨F,XF.refl,hv,I,eZ.refl⟩
end
end
section
open PySem
noncomputable def one(l:List AV):Option AV:=match l with|[a]=>some a|_=>none
noncomputable def two(l:List AV):Option (AV×AV):=match l with|[a,b]=>some (a,b)|_=>none
noncomputable def vStr(a:AV):Option (List Nat):=match a with|.str l=>some l|_=>none
noncomputable def vInt(a:AV):Option Int:=match a with|.int l=>some l|_=>none
noncomputable def vBool(a:AV):Option Bool:=match a with|.bool l=>some l|_=>none
noncomputable def yF(a:AV):Option (List Nat):=match a with|.bytes l=>some l|_=>none
noncomputable def D5(a:AV):Option (List AV):=match a with|.aT l=>some l|_=>none
noncomputable def jL(a:AV):Option (List AV):=match a with|.list l=>some l|_=>none
noncomputable def Xn(a:AV):Option Nat:=match a with|.fn l=>some l|_=>none
noncomputable def D6(k:Nat)(a:AV):Bool:=match a with|.sp j=>Nat.beq j k|_=>false
noncomputable def grd(b:Bool)(x:Option β):Option β:=match b with|true=>x|false=>none
theorem a8{α β:Type}{o:Option α}{f:α->Option β}{y:β}(h:o.bind f=some y):∃a,o=some a/\f a=some y:=by cases o with|none=>exact aI h|some a=>exact⟨a,rfl,h⟩
theorem dX{β:Type}{x:Option β}{y:β}(h:grd b x=some y):b=true/\x=some y:=by cases b with|false=>exact aI h|true=>exact⟨rfl,h⟩
theorem TG{α γ:Type}{o:Option α}{f:α->Option γ}{y:γ}{P:Prop}(h:o.bind f=some y)(k:∀a,o=some a->f a=some y->P):P:=by cases o with|none=>exact aI h|some p=>exact k p rfl h
noncomputable def oB(o:Option α)(f:α->Bool):Bool:=match o with|some a=>f a|none=>false
theorem jJ(h:oB o f=true):∃a,o=some a/\f a=true:=by cases o with|none=>exact bq h|some a=>exact⟨a,rfl,h⟩
theorem lO(h:one l=some a):l=[a]:=by cases l with|nil=>exact aI h|cons x r=>cases r with|nil=>(refine bD h λx=>?_;subst x);rfl|cons y t=>exact aI h
theorem ni(h:two l=some p):l=[p.1,p.2]:=by cases l with|nil=>exact aI h|cons x r=>cases r with|nil=>exact aI h|cons y t=>cases t with|nil=>(refine fS h λx y=>?_;subst x y);rfl|cons z t=>exact aI h
theorem eP(h:vStr a=some l):a=.str l:=by cases a<;>(first|exact aI h|(refine bD h λx=>?_;subst x));rfl
theorem du(h:vInt a=some l):a=.int l:=by cases a<;>(first|exact aI h|(refine bD h λx=>?_;subst x));rfl
theorem qG(h:vBool a=some l):a=.bool l:=by cases a<;>(first|exact aI h|(refine bD h λx=>?_;subst x));rfl
theorem BW(h:yF a=some l):a=.bytes l:=by cases a<;>(first|exact aI h|(refine bD h λx=>?_;subst x));rfl
theorem uf(h:D5 a=some l):a=.aT l:=by cases a<;>(first|exact aI h|(refine bD h λx=>?_;subst x));rfl
theorem hU(h:jL a=some l):a=.list l:=by cases a<;>(first|exact aI h|(refine bD h λx=>?_;subst x));rfl
theorem Lm(h:Xn a=some l):a=.fn l:=by cases a<;>(first|exact aI h|(refine bD h λx=>?_;subst x));rfl
theorem pI(h:D6 k a=true):a=.sp k:=by cases a with|sp j=>rw[aj h]|_=>exact bq h
noncomputable def GA(a:AV):Option (List AV×Nat):=match a with|.pos r k=>some (r,k)|_=>none
noncomputable def Ln(i:Int):Option Nat:=match i with|.ofNat n=>some n|.negSucc _=>none
def qH(a:AV):Option Nat:=(vInt a).bind Ln
def yB(a:AV):Option Nat:=(vStr a).bind λl=>match l with|[c]=>some c|_=>none
noncomputable def mG(a:AV):Bool:=match a with|.none=>true|_=>false
noncomputable def isEnd(a:AV):Bool:=match a with|.pos r k=>(match r with|[]=>Nat.beq k 0|_::_=>false)|_=>false
noncomputable def isNil(l:List AV):Bool:=match l with|[]=>true|_::_=>false
theorem zA(h:GA a=some p):a=.pos p.1 p.2:=by cases a<;>(first|exact aI h|(refine fS h λx y=>?_;subst x y));rfl
theorem Ah(h:Ln i=some n):i=.ofNat n:=by cases i<;>(first|(refine bD h λx=>?_;subst x)|exact aI h);rfl
theorem gb(h:qH a=some n):a=.int (.ofNat n):=by refine aH (a8 h) λi h1 h2=>?_;rw[du h1,Ah h2]
theorem ue(h:yB a=some n):a=.str [n]:=by refine aH (a8 h) λl h1 h2=>?_;rw[eP h1];cases l with|nil=>exact aI h2|cons x t=>cases t with|nil=>(refine bD h2 λx=>?_;subst x);rfl|cons y t=>exact aI h2
theorem lX(h:mG a=true):a=.none:=by cases a<;>first|rfl|exact bq h
theorem wg(h:isEnd a=true):a=.pos [] 0:=by
 cases a with
 |pos r k=>cases r with|nil=>rw[aj h]|cons x t=>exact bq h
 |_=>exact bq h
theorem qB(h:isNil l=true):l=[]:=by cases l<;>first|rfl|exact bq h
noncomputable def fj:List Nat->List Nat->Bool
 |[],[]=>true|a::r,b::t=>match Nat.beq a b with|true=>fj r t|false=>false
 |_,_=>false
noncomputable def bT(c:Nat):List Nat->List (List Nat)|[]=>[[]]|x::r=>match Nat.beq x c with|true=>[]::bT c r|false=>match bT c r with|[]=>[[x]]|h::t=>(x::h)::t
noncomputable def cT(c:Nat)(y:List Nat):List Nat->List Nat|[]=>[]|x::r=>match Nat.beq x c with|true=>y++cT c y r|false=>x::cT c y r
noncomputable def kZ:List Nat->List Nat->Bool|[],_=>true|_::_,[]=>false|a::r,b::t=>match Nat.beq a b with|true=>kZ r t|false=>false
def BX(y:List Nat):List Nat->Bool|[]=>kZ y []|x::r=>match kZ y (x::r)with|true=>true|false=>BX y r
def Ho(y:List Nat):List AV->Option Bool|[]=>some false|a::r=>(vStr a).bind λx=>(Ho y r).bind λb=>some (fj x y||b)
noncomputable def cN(y:List Nat):List (List Nat)->List Nat|[]=>[]|[x]=>x|x::r=>x++(y++cN y r)
def strsOf:List AV->Option (List (List Nat))|[]=>some []|a::r=>(vStr a).bind λx=>(strsOf r).bind λl=>some (x::l)
def kW(y:List Nat):List (List Nat×AV)->Option AV|[]=>none|p::r=>match fj p.1 y with|true=>some p.2|false=>kW y r
noncomputable def cB(n:Nat)(l:List Nat):Bool:=Nat.ble l.length n
noncomputable def Ai:Nat->Nat->List Nat->List Nat|0,_,acc=>acc|f+1,n,acc=>match Nat.ble 10 n with|true=>Ai f (n/10) ((48+n%10)::acc)|false=>(48+n)::acc
def digits(n:Nat):List Nat:=Ai 20 n []
noncomputable def mH:Nat->List AV->Bool|_,[]=>false|0,_::_=>true|k+1,_::r=>mH k r
noncomputable def p7:Nat->List AV->Option AV|_,[]=>none|0,x::_=>some x|k+1,_::r=>p7 k r
noncomputable def Lo:Nat->List Nat->Option Nat|_,[]=>none|0,x::_=>some x|k+1,_::r=>Lo k r
noncomputable def D7:Nat->List AV->Option (List AV)|0,l=>some l|_+1,[]=>none|k+1,_::r=>D7 k r
mutual
def uB:AV->AV->Option Bool
 |.none,y=>grd (mG y) (some true)|.bool a,y=>(vBool y).bind λb=>some (a==b)|.int a,y=>(vInt y).bind λb=>some (a==b)|.str a,y=>(vStr y).bind λb=>some (fj a b)|.bytes a,y=>(yF y).bind λb=>some (fj a b)|.aT a,y=>(D5 y).bind λb=>mI a b|.list a,y=>(jL y).bind λb=>match Nat.beq a.length b.length with|true=>mI a b|false=>some false
 |_,_=>none
def mI:List AV->List AV->Option Bool|[],[]=>some true|a::r,b::t=>(uB a b).bind λx=>(mI r t).bind λy=>some (x&&y)|[],_::_=>some false|_::_,[]=>some false
end
noncomputable def mx(a b:Nat):Nat:=match Nat.ble a b with|true=>b|false=>a
mutual
noncomputable def dep:AV->Nat|.aT l=>deps l+1|.list l=>deps l+1|_=>0
noncomputable def deps:List AV->Nat|[]=>0|a::r=>mx (dep a) (deps r)
end
noncomputable def dn:AV->Option Bool|.none=>some false|.bool b=>some b|.int i=>some (i !=0)|.str l=>some (match l with|[]=>false|_::_=>true)|.aT l=>some (match l with|[]=>false|_::_=>true)|.list l=>some (match l with|[]=>false|_::_=>true)|_=>none
def OX(lim:List Nat->Bool)(x y:AV):Option AV:=match x with|.int a=>(vInt y).bind λb=>some (.int (a+b))|.str a=>(vStr y).bind λb=>grd (lim (a++b)) (some (.str (a++b)))|.list a=>(jL y).bind λb=>grd (Nat.ble (a.length+b.length) 1048576) (some (.list (a++b)))|.pos r k=>(qH y).bind λn=>some (.pos r (k+n))|_=>none
def BZ(f:Int->Int->Option AV)(x y:AV):Option AV:=(vInt x).bind λa=>(vInt y).bind λb=>f a b
def Lp(a:List Nat)(b:Int):Option AV:=match b with|.ofNat n=>(match n with|0=>some (.str [])|k+1=>(match k with|0=>some (.str a)|_+1=>none))|.negSucc k=>grd (Nat.blt k 1000) (some (.str []))
def OY(x y:AV):Option AV:=match x with|.int a=>(vInt y).bind λb=>grd (Nat.blt b.natAbs 18446744073709551616) (some (.int (a*b)))|.str a=>(vInt y).bind λb=>Lp a b|_=>none
noncomputable def Lq(a b:Int):Option AV:=match b==0||!(Nat.blt b.natAbs 1073741824)with|true=>none|false=>some (.int (a.fdiv b))
noncomputable def Lr(a b:Int):Option AV:=match b==0 with|true=>none|false=>some (.int (a.fmod b))
def OZ(a b:Int):Option AV:=(Ln b).bind λn=>grd (Nat.ble n 1000&&Nat.blt a.natAbs 18446744073709551616) (some (.int (a ^ n)))
def v6(lim:List Nat->Bool)(op:Operator)(x y:AV):Option AV:=match op with|.Add=>OX lim x y|.Sub=>BZ (λa b=>some (.int (a-b))) x y|.Mult=>OY x y|.FloorDiv=>BZ Lq x y|.Mod=>BZ Lr x y|.Pow=>BZ OZ x y|_=>none
def Xo(y:List Nat)(a:AV):Option Bool:=match a with|.str x=>some (BX y x)|.aT l=>Ho y l|.list l=>Ho y l|.dict l=>some (match kW y l with|some _=>true|none=>false)|_=>none
def TH(x y:AV):Option Bool:=(vStr x).bind λa=>Xo a y
noncomputable def uC:AV->Option Bool|.none=>some true|.bool _=>some false|.int _=>some false|.str _=>some false|.bytes _=>some false|.aT _=>some false|.list _=>some false|.tok _ _=>some false|_=>none
noncomputable def Hp(o:Option Bool):Option Bool:=o.bind λx=>some (!x)
def Ls(f:Int->Int->Bool)(x y:AV):Option Bool:=(vInt x).bind λa=>(vInt y).bind λb=>some (f a b)
def Xp(x y:AV):Option Bool:=match x with|.int a=>(vInt y).bind λb=>some (decide (a<b))|.pos r k=>grd (isEnd y) (some (mH k r))|_=>none
def Xq(x y:AV):Option Bool:=match x with|.int a=>(vInt y).bind λb=>some (decide (a≥b))|.pos r k=>grd (isEnd y) (some (!mH k r))|_=>none
def yC(op:CmpOp)(x y:AV):Option Bool:=match op with|.Is=>grd (mG y) (uC x)|.IsNot=>grd (mG y) (Hp (uC x))|.Eq=>grd (Nat.ble (dep x) 60) (uB x y)|.NotEq=>grd (Nat.ble (dep x) 60) (Hp (uB x y))|.Lt=>Xp x y|.LtE=>Ls (λa b=>decide (a<=b)) x y|.Gt=>Ls (λa b=>decide (a>b)) x y|.GtE=>Xq x y|.In=>TH x y|.NotIn=>Hp (TH x y)
def Hq(l:List AV)(i:Int):Option AV:=match i with|.ofNat k=>p7 k l|.negSucc k=>grd (Nat.ble (k+1) l.length) (p7 (l.length-(k+1)) l)
def O0(x j:AV):Option AV:=match x with|.aT l=>(vInt j).bind λi=>Hq l i|.list l=>(vInt j).bind λi=>Hq l i|.str l=>(qH j).bind λk=>(Lo k l).bind λc=>some (.str [c])|.dict l=>(vStr j).bind λy=>kW y l|_=>none
noncomputable def TI(n:Nat):Int->Nat|.ofNat k=>(match Nat.ble k n with|true=>k|false=>n)|.negSucc k=>n-(k+1)
def bnd(d:Nat)(n:Nat)(o:Option AV):Option Nat:=match o with|none=>some d|some a=>(vInt a).bind λi=>some (TI n i)
def eC(l:List α)(lo hi:Option AV):Option (List α):=(bnd 0 l.length lo).bind λa=>(bnd l.length l.length hi).bind λb=>some ((l.take b).drop a)
noncomputable def O1(g:G)(n:Nat):Option AV:=match n with|0=>some (.list (g.box.cells.map .int))|1=>some (.int g.box.great)|2=>some (.int g.box.state)|3=>some (.int g.box.place)|_=>none
theorem Kf{P:Prop}(h:O1 g n=some r)(k0:n=0->r=.list (g.box.cells.map .int)->P)(k1:n=1->r=.int g.box.great->P)(k2:n=2->r=.int g.box.state->P)(k3:n=3->r=.int g.box.place->P):P:=by
 rcases n with _|_|_|_|n
 ·(refine bD h λx=>?_;subst x);exact k0 rfl rfl
 ·(refine bD h λx=>?_;subst x);exact k1 rfl rfl
 ·(refine bD h λx=>?_;subst x);exact k2 rfl rfl
 ·(refine bD h λx=>?_;subst x);exact k3 rfl rfl
 ·exact aI h
def Ke(g:G)(j:AV):Option AV:=(qH j).bind λn=>O1 g n
noncomputable def O2(g:G)(n:Nat)(i:Int):Option G:=match n with|1=>some {g with box:={g.box with great:=i}}|2=>some {g with box:={g.box with state:=i}}|3=>some {g with box:={g.box with place:=i}}|_=>none
def yE(g:G)(j v:AV):Option G:=(qH j).bind λn=>(vInt v).bind λi=>O2 g n i
def Kh(g:G)(v j:AV):Option AV:=match v with|.sp k=>(match Nat.beq k 2 with|true=>(GA j).bind λp=>p7 p.2 p.1|false=>grd (Nat.beq k 0) (Ke g j))|_=>O0 v j
def sD(o:AV)(lo hi:Option AV):Option AV:=match o with|.str l=>(eC l lo hi).bind λr=>some (.str r)|.list l=>(eC l lo hi).bind λr=>some (.list r)|.aT l=>(eC l lo hi).bind λr=>some (.aT r)|_=>none
theorem Lu{lo hi:Option AV}{r:AV}{P:Prop}(h:sD o lo hi=some r)(k1:∀l q,o=.str l->eC l lo hi=some q->.str q=r->P)(k2:∀l q,o=.list l->eC l lo hi=some q->.list q=r->P)(k3:∀l q,o=.aT l->eC l lo hi=some q->.aT q=r->P):P:=by induction o using AV.casesOn<;>first|exact aI h|exact TG h λq e h=>bD h (k1 _ q rfl e)|exact TG h λq e h=>bD h (k2 _ q rfl e)|exact TG h λq e h=>bD h (k3 _ q rfl e)
noncomputable def D8(g:G)(n:Nat):Option AV:=match n with|2=>some (.pos g.rem 0)|3=>some (.sp 2)|4=>some (.dict [])|_=>none
noncomputable def D9(g:G)(n:Nat):Option AV:=match n with|5=>some (.sp 1)|6=>some .eD|7=>some (.int 0)|8=>some g.last|_=>none
noncomputable def Jq(k w:List Nat)(n:Nat):Option AV:=match n with|0=>some (.str k)|1=>some (.str w)|_=>none
def DO(g:G)(o:AV)(n:Nat):Option AV:=match o with|.tok k w=>Jq k w n|.sp j=>(match Nat.beq j 1 with|true=>D8 g n|false=>grd (Nat.beq j 3) (D9 g n))|_=>none
def O3(s:List Nat):Option AV:=match fj s [67,79,78,84,73,78,85,69]with|true=>some (.str [99,111,110,116,105,110,117,101])|false=>grd (fj s [69,88,73,84]) (some (.str [101,120,105,116]))
def O4(s:List Nat):Option AV:=match fj s [114,101,102,101,114,101,110,99,101]with|true=>some (.str [82,69,70,69,82,69,78,67,69])|false=>grd (fj s [99,111,110,116,101,110,116]) (some (.str [67,79,78,84,69,78,84]))
def mD(lim:List Nat->Bool)(m:Nat)(s:List Nat)(as:List AV):Option AV:=match Nat.beq m 10 with|true=>(one as).bind λa=>(jL a).bind λl=>(strsOf l).bind λxs=>grd (lim (cN s xs)&&cB 1000 s) (some (.str (cN s xs)))|false=>match Nat.beq m 12 with|true=>(one as).bind λa=>(yB a).bind λc=>grd (cB 1048575 s) (some (.list ((bT c s).map .str)))|false=>match Nat.beq m 13 with|true=>(one as).bind λa=>(vStr a).bind λy=>some (.bool (kZ y s))|false=>match Nat.beq m 14 with|true=>grd (isNil as) (O3 s)|false=>grd (Nat.beq m 15&&isNil as) (O4 s)
noncomputable def sF(c:Nat):List Nat->Option Nat|[]=>none|x::r=>match Nat.beq x c with|true=>some 0|false=>match sF c r with|some k=>some (k+1)|none=>none
def allB:List AV->Option AV|[]=>some (.bool true)|a::r=>(vBool a).bind λb=>(allB r).bind λy=>(vBool y).bind λx=>some (.bool (b&&x))
def Lv:List AV->Option (List Nat)|[]=>some []|a::r=>(qH a).bind λn=>grd (Nat.blt n 256) ((Lv r).bind λl=>some (n::l))
def O5(a:AV):Option AV:=match a with|.str l=>some (.int l.length)|.list l=>some (.int l.length)|.aT l=>some (.int l.length)|.sp k=>grd (Nat.beq k 2) (some (.pos [] 0))|_=>none
noncomputable def O6(a:AV):Option AV:=match a with|.list l=>some (.aT l)|.aT l=>some (.aT l)|_=>none
def O7(k:Nat)(a:AV):Option AV:=match k with|0=>O5 a|1=>(vInt a).bind λi=>some (.int i)|2=>(vInt a).bind λi=>some (.int i.natAbs)|3=>(jL a).bind allB|4=>O6 a|5=>(D5 a).bind λl=>some (.list l)|6=>(qH a).bind λn=>grd (Nat.blt n 1000) (some (.str (digits n)))|7=>(yB a).bind λc=>some (.int c)|8=>(qH a).bind λn=>grd (Nat.blt n 256) (some (.str [n]))|9=>(jL a).bind λl=>(Lv l).bind λr=>some (.bytes r)|_=>none
def s7(k:Nat)(as:List AV):Option AV:=(one as).bind λa=>grd (Nat.ble 900 k) (O7 (k-900) a)
inductive PE where
 |aq(i:Int)|ak(l:List Nat)|ck|cBool(b:Bool)|dx(l:List Nat)
 |ah(x:Nat)
 |dD(k:Nat)
 |attr(o:PE)(a:Nat)
 |sub(o i:PE)
 |eC(o lo:PE)
 |fU(o hi:PE)
 |jw(o lo hi:PE)
 |aT(es:List PE)
 |lst(es:List PE)
 |iI(l:List (List Nat×AV))
 |bin(op:Operator)(a b:PE)
 |dE(a:PE)
 |neg(a:PE)
 |dF(es:List PE)
 |lM(es:List PE)
 |cmp(op:CmpOp)(a b:PE)
 |ite(t a b:PE)
 |ai(k:Nat)(args:List PE)
 |dM(x:Nat)(args:List PE)
 |aY(o:PE)(m:Nat)(args:List PE)
 |joinR(sep:PE)(x:PE)
 |dS(o:PE)(ch:Nat)(y:List Nat)
 |comp(elt:PE)(bI:List Nat)(dB:Bool)(ik:Nat)(ies:List PE)(cond:List PE)
 |lamD(x:Nat)
 |ek(x:Nat)
theorem iG{γ:Type}{f:AV->G->Option γ}{y:γ}{P:Prop}(k:∀a b,o=some (a,b)->f a b=some y->P)(h:(match(generalizing:=false) o with|some (a,b)=>f a b|none=>none)=some y):P:=by cases o with|none=>exact aI h|some p=>exact k p.1 p.2 rfl h
theorem xJ{γ:Type}{f:List AV->G->Option γ}{y:γ}{P:Prop}(k:∀a b,o=some (a,b)->f a b=some y->P)(h:(match(generalizing:=false) o with|some (a,b)=>f a b|none=>none)=some y):P:=by cases o with|none=>exact aI h|some p=>exact k p.1 p.2 rfl h
theorem RP{γ:Type}{f:Nat->List AV->Option γ}{y:γ}{P:Prop}(k:∀a b,o=some (a,b)->f a b=some y->P)(h:(match(generalizing:=false) o with|some (a,b)=>f a b|none=>none)=some y):P:=by cases o with|none=>exact aI h|some p=>exact k p.1 p.2 rfl h
theorem CY{γ:Type}{f:AV->Option γ}{y:γ}{P:Prop}(k:∀a,o=some a->f a=some y->P)(h:(match(generalizing:=false) o with|some a=>f a|none=>none)=some y):P:=by cases o with|none=>exact aI h|some p=>exact k p rfl h
theorem RO{γ:Type}{f:List AV->Option γ}{y:γ}{P:Prop}(k:∀a,o=some a->f a=some y->P)(h:(match(generalizing:=false) o with|some a=>f a|none=>none)=some y):P:=by cases o with|none=>exact aI h|some p=>exact k p rfl h
theorem WK{γ:Type}{f:Bool->Option γ}{y:γ}{P:Prop}(k:∀a,o=some a->f a=some y->P)(h:(match(generalizing:=false) o with|some a=>f a|none=>none)=some y):P:=by cases o with|none=>exact aI h|some p=>exact k p rfl h
theorem Xr{γ:Type}{f:G->Option γ}{y:γ}{P:Prop}(k:∀a,o=some a->f a=some y->P)(h:(match(generalizing:=false) o with|some a=>f a|none=>none)=some y):P:=by cases o with|none=>exact aI h|some p=>exact k p rfl h
theorem YI{γ:Type}{f:List (List Nat)->Option γ}{y:γ}{P:Prop}(k:∀a,o=some a->f a=some y->P)(h:(match(generalizing:=false) o with|some a=>f a|none=>none)=some y):P:=by cases o with|none=>exact aI h|some p=>exact k p rfl h
theorem RU{γ:Type}{f:Loc->Option γ}{y:γ}{P:Prop}(k:∀a,o=some a->f a=some y->P)(h:(match(generalizing:=false) o with|some a=>f a|none=>none)=some y):P:=by cases o with|none=>exact aI h|some p=>exact k p rfl h
theorem sN{γ:Type}{x:Option γ}{y:γ}{P:Prop}(k:b=true->x=some y->P)(h:(match(generalizing:=false) b with|true=>x|false=>none)=some y):P:=by cases b with|false=>exact aI h|true=>exact k rfl h
theorem RN{γ:Type}{x z:Option γ}{y:γ}{P:Prop}(k:o=some true->x=some y->P)(k':o=some false->z=some y->P)(h:(match(generalizing:=false) o with|some true=>x|some false=>z|none=>none)=some y):P:=by cases o with|none=>exact aI h|some b=>cases b with|true=>exact k rfl h|false=>exact k' rfl h
theorem WJ{γ:Type}{x z:Option γ}{y:γ}{P:Prop}(k:o=some false->x=some y->P)(k':o=some true->z=some y->P)(h:(match(generalizing:=false) o with|some false=>x|some true=>z|none=>none)=some y):P:=by cases o with|none=>exact aI h|some b=>cases b with|false=>exact k rfl h|true=>exact k' rfl h
theorem Gx{l:List PE}{P:Prop}(k:l=[]->x=some y->P)(k':l≠[]->z=some y->P)(h:(match(generalizing:=false) l with|[]=>x|_::_=>z)=some y):P:=by cases l with|nil=>exact k rfl h|cons a l=>exact k' (λe=>nomatch e) h
theorem mStr{γ:Type}{o:Option (AV×G)}{f:List Nat->G->Option γ}{y:γ}{P:Prop}(k:∀s g,o=some (.str s,g)->f s g=some y->P)(h:(match(generalizing:=false) o with|some (.str s,g)=>f s g|_=>none)=some y):P:=by cases o with|none=>exact aI h|some p=>obtain⟨v,g⟩:=p;cases v with|str s=>exact k s g rfl h|_=>exact aI h
theorem M9{γ:Type}{o:Option (AV×G)}{f:List AV->G->Option γ}{y:γ}{P:Prop}(k:∀s g,o=some (.list s,g)->f s g=some y->P)(h:(match(generalizing:=false) o with|some (.list s,g)=>f s g|_=>none)=some y):P:=by cases o with|none=>exact aI h|some p=>obtain⟨v,g⟩:=p;cases v with|list s=>exact k s g rfl h|_=>exact aI h
theorem SG{γ:Type}{o:Option (AV×G)}{f:Int->G->Option γ}{y:γ}{P:Prop}(k:∀s g,o=some (.int s,g)->f s g=some y->P)(h:(match(generalizing:=false) o with|some (.int s,g)=>f s g|_=>none)=some y):P:=by cases o with|none=>exact aI h|some p=>obtain⟨v,g⟩:=p;cases v with|int s=>exact k s g rfl h|_=>exact aI h
theorem SJ{γ:Type}{o:Option AV}{f:Int->Option γ}{y:γ}{P:Prop}(k:∀s,o=some (.int s)->f s=some y->P)(h:(match(generalizing:=false) o with|some (.int s)=>f s|_=>none)=some y):P:=by cases o with|none=>exact aI h|some v=>cases v with|int s=>exact k s rfl h|_=>exact aI h
theorem TJ{γ:Type}{o:Option (AV×G)}{f:G->Option γ}{y:γ}{P:Prop}(k:∀g,o=some (.sp 0,g)->f g=some y->P)(h:(match(generalizing:=false) o with|some (.sp 0,g)=>f g|_=>none)=some y):P:=by
 cases o with
 |none=>exact aI h|some p=>
  obtain⟨v,g⟩:=p;cases v with
  |sp s=>cases s with|zero=>exact k g rfl h|succ s=>exact aI h
  |_=>exact aI h
theorem TK{γ:Type}{o:Option (Nat×List AV)}{p:Option AV}{x y:γ}{P:Prop}(k:o=none->b=true->p=none->some x=some y->P)(h:(match(generalizing:=false) o,b,p with|none,true,none=>some x|_,_,_=>none)=some y):P:=by cases o with|some a=>exact aI h|none=>cases b with|false=>exact aI h|true=>cases p with|some a=>exact aI h|none=>exact k rfl rfl rfl h
theorem iE{f:AV->G->Option γ}(e:o=some (a,b))(h:f a b=y):(match(generalizing:=false) o with|some (a,b)=>f a b|none=>none)=y:=by cases e;exact h
theorem Ea{f:List AV->G->Option γ}(e:o=some (a,b))(h:f a b=y):(match(generalizing:=false) o with|some (a,b)=>f a b|none=>none)=y:=by cases e;exact h
theorem R9{f:Nat->List AV->Option γ}(e:o=some (a,b))(h:f a b=y):(match(generalizing:=false) o with|some (a,b)=>f a b|none=>none)=y:=by cases e;exact h
theorem Gs{f:AV->Option γ}(e:o=some a)(h:f a=y):(match(generalizing:=false) o with|some a=>f a|none=>none)=y:=by cases e;exact h
theorem Xs{f:List AV->Option γ}(e:o=some a)(h:f a=y):(match(generalizing:=false) o with|some a=>f a|none=>none)=y:=by cases e;exact h
theorem Xu{f:Bool->Option γ}(e:o=some a)(h:f a=y):(match(generalizing:=false) o with|some a=>f a|none=>none)=y:=by cases e;exact h
theorem Xv{f:G->Option γ}(e:o=some a)(h:f a=y):(match(generalizing:=false) o with|some a=>f a|none=>none)=y:=by cases e;exact h
theorem Zn{f:List (List Nat)->Option γ}(e:o=some a)(h:f a=y):(match(generalizing:=false) o with|some a=>f a|none=>none)=y:=by cases e;exact h
theorem O8{f:Loc->Option γ}(e:o=some a)(h:f a=y):(match(generalizing:=false) o with|some a=>f a|none=>none)=y:=by cases e;exact h
theorem yG(e:b=true)(h:x=y):(match(generalizing:=false) b with|true=>x|false=>none)=y:=by cases e;exact h
theorem MY(e:o=some true)(h:x=y):(match(generalizing:=false) o with|some true=>x|some false=>z|none=>none)=y:=by cases e;exact h
theorem O9(e:o=some false)(h:z=y):(match(generalizing:=false) o with|some true=>x|some false=>z|none=>none)=y:=by cases e;exact h
theorem Pa{o:Option (AV×G)}{f:List Nat->G->Option γ}(e:o=some (.str s,g))(h:f s g=y):(match(generalizing:=false) o with|some (.str s,g)=>f s g|_=>none)=y:=by cases e;exact h
theorem Pb{o:Option (AV×G)}{f:List AV->G->Option γ}(e:o=some (.list s,g))(h:f s g=y):(match(generalizing:=false) o with|some (.list s,g)=>f s g|_=>none)=y:=by cases e;exact h
theorem TL{o:Option (AV×G)}{f:Int->G->Option γ}(e:o=some (.int s,g))(h:f s g=y):(match(generalizing:=false) o with|some (.int s,g)=>f s g|_=>none)=y:=by cases e;exact h
theorem TM{o:Option (AV×G)}{f:G->Option γ}(e:o=some (.sp 0,g))(h:f g=y):(match(generalizing:=false) o with|some (.sp 0,g)=>f g|_=>none)=y:=by cases e;exact h
theorem TN{o:Option (Nat×List AV)}{p:Option AV}(e1:o=none)(e2:b=true)(e3:p=none)(h:some x=y):(match(generalizing:=false) o,b,p with|none,true,none=>some x|_,_,_=>none)=y:=by cases e1;cases e2;cases e3;exact h
theorem TP{o:Option AV}{f:Int->Option γ}(e:o=some (.int s))(h:f s=y):(match(generalizing:=false) o with|some (.int s)=>f s|_=>none)=y:=by cases e;exact h
theorem SY{γ:Type}{f:G->Option γ}{f':G->Option γ}{y:γ}{P:Prop}(k:∀g,o=some (true,g)->f g=some y->P)(k':∀g,o=some (false,g)->f' g=some y->P)(h:(match(generalizing:=false) o with|some (true,g)=>f g|some (false,g)=>f' g|none=>none)=some y):P:=by cases o with|none=>exact aI h|some p=>obtain⟨b,g⟩:=p;cases b with|true=>exact k g rfl h|false=>exact k' g rfl h
theorem TQ{f f':G->Option γ}(e:o=some (true,g))(h:f g=y):(match(generalizing:=false) o with|some (true,g)=>f g|some (false,g)=>f' g|none=>none)=y:=by cases e;exact h
theorem TR{f f':G->Option γ}(e:o=some (false,g))(h:f' g=y):(match(generalizing:=false) o with|some (true,g)=>f g|some (false,g)=>f' g|none=>none)=y:=by cases e;exact h
theorem TS(e:o=some true)(h:z=y):(match(generalizing:=false) o with|some false=>x|some true=>z|none=>none)=y:=by cases e;exact h
theorem TT(e:o=some false)(h:x=y):(match(generalizing:=false) o with|some false=>x|some true=>z|none=>none)=y:=by cases e;exact h
abbrev By:=Nat->List AV->G->Option (AV×G)
structure Jc where
 g6:Nat->Option AV
 jB:Nat->Option Nat
 iJ:Nat->Option Nat
 lim:List Nat->Bool
 on:Bool
noncomputable def note(T:Jc)(r:AV)(g:G):G:=match T.on with|true=>(match r with|.str s=>{g with log:=.len s::g.log}|_=>g)|false=>g
abbrev CR:=PE->Sg->G->Option (AV×G)
noncomputable def ci(ih:CR):List PE->Sg->G->Option (List AV×G)
 |[],_,g=>some ([],g)|e::r,σ,g=>match ih e σ g with
  |some (v,g1)=>match ci ih r σ g1 with|some (vs,g2)=>some (v::vs,g2)|none=>none
  |none=>none
def kU(ih:CR):List PE->Sg->G->Option (AV×G)
 |[],_,_=>none|e::r,σ,g=>match ih e σ g with
  |some (v,g1)=>match r with|[]=>some (v,g1)|_::_=>match dn v with|some true=>kU ih r σ g1|some false=>some (v,g1)|none=>none
  |none=>none
def CX(ih:CR):List PE->Sg->G->Option (AV×G)
 |[],_,_=>none|e::r,σ,g=>match ih e σ g with
  |some (v,g1)=>match r with|[]=>some (v,g1)|_::_=>match dn v with|some false=>CX ih r σ g1|some true=>some (v,g1)|none=>none
  |none=>none
noncomputable def seqItems:AV->Option (List AV)|.aT l=>some l|.list l=>some l|.str l=>some (l.map λc=>.str [c])|.bytes l=>some (l.map λ(c:Nat)=>.int (Int.ofNat c))|_=>none
theorem yp{P:Prop}(h:seqItems a=some l)(k1:∀x,a=.aT x->x=l->P)(k2:∀x,a=.list x->x=l->P)(k3:∀x,a=.str x->(x.map λc=>.str [c])=l->P)(k4:∀x,a=.bytes x->(x.map λ(c:Nat)=>.int (Int.ofNat c))=l->P):P:=by induction a using AV.casesOn<;>first|exact aI h|exact bD h (k1 _ rfl)|exact bD h (k2 _ rfl)|exact bD h (k3 _ rfl)|exact bD h (k4 _ rfl)
noncomputable def hJ(a:Nat):Nat->List AV|0=>[]|n+1=>.int a::hJ (a+1) n
noncomputable def jH(a:Nat):List AV->List AV|[]=>[]|x::r=>.aT [.int a,x]::jH (a+1) r
def eS(ik:Nat)(vs:List AV):Option (List AV):=match ik with|0=>(one vs).bind seqItems|1=>(one vs).bind λv=>(qH v).bind λn=>some (hJ 0 n)|2=>(two vs).bind λp=>(qH p.1).bind λa=>(qH p.2).bind λb=>grd (Nat.blt a 1000000&&Nat.blt b 1000000) (some (hJ a (b-a)))|3=>(one vs).bind λv=>(jL v).bind λl=>some (jH 0 l)|_=>none
def jj(bI:List Nat)(dB:Bool)(v:AV)(l:Loc):Option Loc:=match dB with
 |false=>match bI with|[x]=>some (db x v l)|_=>none
 |true=>match v with
  |.aT vs=>match Nat.beq vs.length bI.length with|true=>some ((bI.zip vs).foldl (λl p=>db p.1 p.2 l) l)|false=>none
  |_=>none
theorem zK{P:Prop}(h:jj bI true v l=some l')(k:∀vs,v=.aT vs->vs.length=bI.length->l'=(bI.zip vs).foldl (λl p=>db p.1 p.2 l) l->P):P:=by
 cases v with
 |aT vs=>have h:(match Nat.beq vs.length bI.length with|true=>some ((bI.zip vs).foldl (λl p=>db p.1 p.2 l) l)|false=>none)=some l':=h;cases q:Nat.beq vs.length bI.length with|false=>rw[q]at h;exact aI h|true=>rw[q]at h;exact k vs rfl (c0.mp q) (dj h).symm
 |_=>exact aI h
def uo(ih:CR):List PE->Sg->G->Option (Bool×G)
 |[],_,g=>some (true,g)|e::r,σ,g=>match ih e σ g with
  |some (v,g1)=>match dn v with|some true=>uo ih r σ g1|some false=>some (false,g1)|none=>none
  |none=>none
def fw(ih:CR)(elt:PE)(bI:List Nat)(dB:Bool)(cond:List PE)(σ:Sg):List AV->Loc->G->Option (List AV×G)
 |[],_,g=>some ([],g)|v::r,l,g=>match jj bI dB v l with
  |some l1=>match uo ih cond ⟨l1,none⟩ g with
   |some (true,g1)=>match ih elt ⟨l1,none⟩ g1 with
    |some (x,g2)=>match fw ih elt bI dB cond σ r l1 g2 with|some (xs,g3)=>some (x::xs,g3)|none=>none
    |none=>none
   |some (false,g1)=>fw ih elt bI dB cond σ r l1 g1|none=>none
  |none=>none
noncomputable def fX(k:Nat):Bool:=Nat.blt k 900
def jA(O:By)(f:AV)(vs:List AV)(g:G):Option (AV×G):=match f with
 |.fn k=>match fX k with|true=>O k vs g|false=>match s7 k vs with|some v=>some (v,g)|none=>none
 |.lam d=>O 800 (.int d::vs) g|.eD=>O 801 vs g|_=>none
theorem zC{g:G}{P:Prop}(h:jA O f vs g=some r)(k1:∀k,f=.fn k->fX k=true->O k vs g=some r->P)(k2:∀k v,f=.fn k->s7 k vs=some v->(v,g)=r->P)(k3:∀d,f=.lam d->O 800 (.int d::vs) g=some r->P)(k4:f=.eD->O 801 vs g=some r->P):P:=by
 induction f using AV.casesOn with
 |fn k=>have h:(match fX k with|true=>O k vs g|false=>match s7 k vs with|some v=>some (v,g)|none=>none)=some r:=h;cases q:fX k with|true=>rw[q]at h;exact k1 k rfl q h|false=>rw[q]at h;revert h;exact CY λv e h=>bD h (k2 k v rfl e)
 |lam d=>exact k3 d rfl h|eD=>exact k4 rfl h|_=>exact aI h
def vB(T:Jc)(s:List Nat)(m:Nat)(vs:List AV)(g:G):Option (AV×G):=match Nat.beq m 16 with|true=>(one vs).bind λa=>(yB a).bind λc=>(sF c s).bind λk=>some (.int k,g)|false=>(mD T.lim m s vs).bind λv=>some (v,note T v g)
def qd(l:List (List Nat×AV))(vs:List AV):Option AV:=(two vs).bind λp=>(vStr p.1).bind λy=>match kW y l with|some v=>some v|none=>some p.2
def C7(T:Jc)(O:By)(o:AV)(m:Nat)(vs:List AV)(g:G):Option (AV×G):=match o with|.sp j=>(match Nat.beq j 1 with|true=>(T.jB m).bind λk=>O k (.sp 1::vs) g|false=>grd (Nat.beq j 3) (match Nat.beq m 6 with|true=>O 801 vs g|false=>(T.iJ m).bind λk=>O k (.sp 3::vs) g))|.str s=>vB T s m vs g|.dict l=>grd (Nat.beq m 17) ((qd l vs).bind λv=>some (v,g))|_=>none
def dz(T:Jc)(O:By)(ih:CR):CR
 |.aq i,_,g=>some (.int i,g)|.ak l,_,g=>some (.str l,g)|.ck,_,g=>some (.none,g)|.cBool b,_,g=>some (.bool b,g)|.dx l,_,g=>some (.bytes l,g)|.ah x,σ,g=>match fW x σ.ah with|some v=>some (v,g)|none=>none
 |.dD k,_,g=>match T.g6 k with|some v=>some (v,g)|none=>none
 |.attr o a,σ,g=>match ih o σ g with
  |some (v,g1)=>match DO g1 v a with|some r=>some (r,g1)|none=>none
  |none=>none
 |.sub o i,σ,g=>match ih o σ g with
  |some (v,g1)=>match ih i σ g1 with
   |some (j,g2)=>match Kh g2 v j with|some r=>some (r,g2)|none=>none
   |none=>none
  |none=>none
 |.eC o lo,σ,g=>match ih o σ g with
  |some (v,g1)=>match ih lo σ g1 with
   |some (a,g2)=>match sD v (some a) none with|some r=>some (r,g2)|none=>none
   |none=>none
  |none=>none
 |.fU o hi,σ,g=>match ih o σ g with
  |some (v,g1)=>match ih hi σ g1 with
   |some (a,g2)=>match sD v none (some a)with|some r=>some (r,g2)|none=>none
   |none=>none
  |none=>none
 |.jw o lo hi,σ,g=>match ih o σ g with
  |some (v,g1)=>match ih lo σ g1 with
   |some (a,g2)=>match ih hi σ g2 with
    |some (b,g3)=>match sD v (some a) (some b)with|some r=>some (r,g3)|none=>none
    |none=>none
   |none=>none
  |none=>none
 |.aT es,σ,g=>match ci ih es σ g with
  |some (vs,g1)=>match Nat.ble vs.length 1000 with|true=>some (.aT vs,g1)|false=>none
  |none=>none
 |.lst es,σ,g=>match ci ih es σ g with
  |some (vs,g1)=>match Nat.ble vs.length 1000 with|true=>some (.list vs,g1)|false=>none
  |none=>none
 |.iI l,_,g=>some (.dict l,g)|.bin op a b,σ,g=>match ih a σ g with
  |some (x,g1)=>match ih b σ g1 with
   |some (y,g2)=>match v6 T.lim op x y with|some r=>some (r,note T r g2)|none=>none
   |none=>none
  |none=>none
 |.dE a,σ,g=>match ih a σ g with
  |some (x,g1)=>match dn x with|some b=>some (.bool (!b),g1)|none=>none
  |none=>none
 |.neg a,σ,g=>match ih a σ g with|some (.int i,g1)=>some (.int (-i),g1)|_=>none
 |.dF es,σ,g=>kU ih es σ g|.lM es,σ,g=>CX ih es σ g|.cmp op a b,σ,g=>match ih a σ g with
  |some (x,g1)=>match ih b σ g1 with
   |some (y,g2)=>match yC op x y with|some r=>some (.bool r,g2)|none=>none
   |none=>none
  |none=>none
 |.ite t a b,σ,g=>match ih t σ g with
  |some (x,g1)=>match dn x with|some true=>ih a σ g1|some false=>ih b σ g1|none=>none
  |none=>none
 |.ai k args,σ,g=>match T.g6 k with
  |some f=>match ci ih args σ g with|some (vs,g1)=>jA O f vs g1|none=>none
  |none=>none
 |.dM x args,σ,g=>match fW x σ.ah with
  |some f=>match ci ih args σ g with|some (vs,g1)=>jA O f vs g1|none=>none
  |none=>none
 |.aY o m args,σ,g=>match ih o σ g with
  |some (v,g1)=>match ci ih args σ g1 with|some (vs,g2)=>C7 T O v m vs g2|none=>none
  |none=>none
 |.dS o ch y,σ,g=>match ih o σ g with
  |some (.str s,g1)=>match cB 500000 s&&cB 10 y&&!fj [ch] y with|true=>some (.str (cT ch y s),g1)|false=>none
  |_=>none
 |.joinR sep x,σ,g=>match ih sep σ g with
  |some (.str s,g1)=>match ih x σ g1 with
   |some (.list l,g2)=>match strsOf l.reverse with|some xs=>(match T.lim (cN s xs)&&cB 1000 s with|true=>some (.str (cN s xs),note T (.str (cN s xs)) g2)|false=>none)|none=>none
   |_=>none
  |_=>none
 |.comp elt bI dB ik ies cond,σ,g=>match ci ih ies σ g with
  |some (vs,g1)=>match eS ik vs with
   |some items=>match Nat.ble items.length 100000 with|true=>(match fw ih elt bI dB cond σ items σ.ah g1 with|some (xs,g2)=>some (.list xs,g2)|none=>none)|false=>none
   |none=>none
  |none=>none
 |.lamD x,σ,g=>match fW x σ.ah with|some (.int d)=>some (.lam d,g)|_=>none
 |.ek x,σ,g=>match σ.own with
  |some (y,l)=>match Nat.beq x y with|true=>some (.int l.length,g)|false=>none
  |none=>none
def ev(T:Jc)(O:By):Nat->CR|0=>λz_ z_ z_=>none|n+1=>dz T O (ev T O n)
inductive PS where
 |ca(x:Nat)(e:PE)
 |own(x:Nat)(es:List PE)
 |hY(xs:List Nat)(e:PE)
 |cZ(o:PE)(a:Nat)(e:PE)
 |setItem(o i e:PE)
 |app(x:Nat)(e:PE)
 |sG(x:Nat)(e:PE)
 |expr(e:PE)
 |ret(e:PE)
 |cu(t:PE)(a b:List PS)
 |dk(t:PE)(b:List PS)
 |ff(bI:List Nat)(dB:Bool)(ik:Nat)(ies:List PE)(b:List PS)
 |pA(b:List PS)
 |cw
 |freeze(x:Nat)
inductive Out where
 |next(σ:Sg)(g:G)
 |ret(v:AV)(g:G)
theorem Pc{o:Option Out}{f:Sg->G->Option Out}(e:o=some (.next σ g))(h:f σ g=y):(match(generalizing:=false) o with|some (.next σ g)=>f σ g|some (.ret v g)=>some (.ret v g)|none=>none)=y:=by cases e;exact h
theorem Sa{o:Option Out}{f:Sg->G->Option Out}(e:o=some (.ret v g)):(match(generalizing:=false) o with|some (.next σ g)=>f σ g|some (.ret v g)=>some (.ret v g)|none=>none)=some (.ret v g):=by cases e;rfl
theorem R0{o:Option Out}{f:Sg->G->Option Out}{P:Prop}(k:∀σ g,o=some (.next σ g)->f σ g=some y->P)(k':∀v g,o=some (.ret v g)->some (Out.ret v g)=some y->P)(h:(match(generalizing:=false) o with|some (.next σ g)=>f σ g|some (.ret v g)=>some (.ret v g)|none=>none)=some y):P:=by
 cases o with
 |none=>exact aI h|some p=>cases p with
  |next σ g=>exact k σ g rfl h
  |ret v g=>exact k' v g rfl h
abbrev Lw:=PS->Sg->G->Option Out
abbrev TU:=List PS->Sg->G->Option Out
noncomputable def bm(ih:Lw):TU|[],σ,g=>some (.next σ g)|s::r,σ,g=>match ih s σ g with|some (.next σ1 g1)=>bm ih r σ1 g1|some (.ret v g1)=>some (.ret v g1)|none=>none
def kF(E:CR)(ih:Lw)(t:PE)(b:List PS):Nat->Sg->G->Option Out
 |0,_,_=>none|n+1,σ,g=>match E t σ g with
  |some (x,g1)=>match dn x with
   |some true=>match bm ih b σ g1 with|some (.next σ1 g2)=>kF E ih t b n σ1 g2|some (.ret v g2)=>some (.ret v g2)|none=>none
   |some false=>some (.next σ g1)|none=>none
  |none=>none
noncomputable def fM(σ:Sg)(x:Nat):Bool:=match σ.own with|some (y,_)=>!Nat.beq x y|none=>true
def jE(ih:Lw)(bI:List Nat)(dB:Bool)(b:List PS):List AV->Sg->G->Option Out
 |[],σ,g=>some (.next σ g)|v::r,σ,g=>match bI.all (fM σ)with
  |true=>match jj bI dB v σ.ah with
   |some l1=>match bm ih b ⟨l1,σ.own⟩ g with|some (.next σ1 g1)=>jE ih bI dB b r σ1 g1|some (.ret v g1)=>some (.ret v g1)|none=>none
   |none=>none
  |false=>none
def Pd(g:G)(v:AV):Option G:=(GA v).bind λp=>(D7 p.2 p.1).bind λr'=>some {g with rem:=r'}
noncomputable def setC(g:G)(v:AV):Option G:=match v with|.none=>some {g with last:=.none}|.aT l=>some {g with last:=.aT l}|_=>none
def DP(g:G)(o:AV)(n:Nat)(v:AV):Option G:=match Nat.beq n 2 with|true=>grd (D6 1 o) (Pd g v)|false=>grd (Nat.beq n 8&&D6 3 o) (setC g v)
def dc(W:Nat)(E:CR)(ih:Lw):Lw
 |.ca x e,σ,g=>match E e σ g with
  |some (v,g1)=>match fM σ x with|true=>some (.next ⟨db x v σ.ah,σ.own⟩ g1)|false=>none
  |none=>none
 |.own x es,σ,g=>match ci E es σ g with
  |some (vs,g1)=>match σ.own,Nat.ble vs.length 1000,fW x σ.ah with|none,true,none=>some (.next ⟨σ.ah,some (x,vs)⟩ g1)|_,_,_=>none
  |none=>none
 |.hY xs e,σ,g=>match E e σ g with
  |some (v,g1)=>match xs.all (fM σ)with
   |true=>match jj xs true v σ.ah with|some l=>some (.next ⟨l,σ.own⟩ g1)|none=>none
   |false=>none
  |none=>none
 |.cZ o a e,σ,g=>match E e σ g with
  |some (v,g1)=>match E o σ g1 with
   |some (ov,g2)=>match DP g2 ov a v with|some g3=>some (.next σ g3)|none=>none
   |none=>none
  |none=>none
 |.setItem o i e,σ,g=>match E e σ g with
  |some (v,g1)=>match E o σ g1 with
   |some (.sp 0,g2)=>match E i σ g2 with
    |some (j,g3)=>match yE g3 j v with|some g4=>some (.next σ g4)|none=>none
    |none=>none
   |_=>none
  |none=>none
 |.app x e,σ,g=>match E e σ g with
  |some (v,g1)=>match σ.own with
   |some (y,l)=>match Nat.beq x y&&Nat.blt l.length 1000000 with|true=>some (.next ⟨σ.ah,some (y,l++[v])⟩ g1)|false=>none
   |none=>none
  |none=>none
 |.sG x e,σ,g=>match E e σ g with
  |some (.list vs,g1)=>match σ.own with
   |some (y,l)=>match Nat.beq x y&&Nat.blt (l.length+vs.length) 1000000 with|true=>some (.next ⟨σ.ah,some (y,l++vs)⟩ g1)|false=>none
   |none=>none
  |_=>none
 |.expr e,σ,g=>match E e σ g with|some (_,g1)=>some (.next σ g1)|none=>none
 |.ret e,σ,g=>match E e σ g with|some (v,g1)=>some (.ret v g1)|none=>none
 |.cu t a b,σ,g=>match E t σ g with
  |some (x,g1)=>match dn x with|some true=>bm ih a σ g1|some false=>bm ih b σ g1|none=>none
  |none=>none
 |.dk t b,σ,g=>kF E ih t b W σ g|.ff bI dB ik ies b,σ,g=>match ci E ies σ g with
  |some (vs,g1)=>match eS ik vs with
   |some items=>match Nat.ble items.length 100000 with|true=>jE ih bI dB b items σ g1|false=>none
   |none=>none
  |none=>none
 |.pA b,σ,g=>bm ih b σ g|.cw,_,_=>none|.freeze x,σ,g=>match σ.own with
  |some (y,l)=>match Nat.beq x y with|true=>some (.next ⟨db x (.list l) σ.ah,none⟩ g)|false=>none
  |none=>none
def ex(W:Nat)(E:CR):Nat->Lw|0=>λz_ z_ z_=>none|n+1=>dc W E (ex W E n)
end
section
open PySem PySem.W PyProof.Rows PySem.Calls
theorem ez:∀{x y:List Nat},fj x y=true↔x=y|[],[]=>⟨λz_=>rfl,λz_=>rfl⟩|[],_::_=>⟨λh=>(bq h),λh=>(by cases h)⟩|_::_,[]=>⟨λh=>(bq h),λh=>(by cases h)⟩|a::x,b::y=>by show(match Nat.beq a b with|true=>fj x y|false=>false)=true↔_;cases h:Nat.beq a b with|true=>rw[ez (x:=x),List.cons.injEq];exact⟨λq=>⟨c0.mp h,q⟩,λq=>q.2⟩|false=>exact⟨λq=>(bq q),λq=>(by rw[(eO q).1,Nat.beq_refl]at h;exact il h)⟩
theorem uF(x y):fj x y=decide (x=y):=by cases h:fj x y with|true=>exact(decide_eq_true (ez.mp h)).symm|false=>exact(decide_eq_false λe=>by rw[ez.mpr e]at h;exact il h).symm
section
variable{c:Ctx}{A:Around}{E:Value->Shared->Prop}{s:Shared}{F:cF}{g:G}{L:Addr}
theorem Inv.isTuple(I:Inv c F g s)(h:F a=some o)(hc:o.cls=.type "tuple")(hd:o.data=.seq vs n):s.heap.IsTuple a vs:=⟨o,I.cE _ _ h,hc,n,hd⟩
theorem Inv.isList(I:Inv c F g s)(h:F a=some o)(hc:o.cls=.type "list")(hd:o.data=.seq vs n):s.heap.IsList a vs:=⟨o,I.cE _ _ h,hc,n,hd⟩
set_option tactic.hygienic true in
theorem BD(I:Inv c F g s)(hv:VM c F v a)(h:dn a=some b)(hQ:∀t,Q b {s with toks:=t}):
  wpAny c.M A (truthy v) Q E s:=by
 induction hv using VM.casesOn<;>first|exact aI h|replace h:=bD h id
 case none=>subst h;exact truthy_none (hQ s.toks)
 case bool b=>subst h;exact wpAny_truthy_bool (hQ s.toks)
 case int i t=>subst h;exact truthy_int (hQ s.toks)
 case str l t hn=>
  refine PySem.P.truthy_str (by simp only[Str.length,bX];omega) ?_;have:(((bQ l).length:Int) !=0)=b:=by subst h;cases l with|nil=>rfl|cons x r=>simp only[Str.length,bX,ac,bne_iff_ne,ne_eq];exact Vi
  rw[this];exact hQ _
 case aT a o vs n l hF hc hd hn hs=>
  have hl:=hs.length;rw[aW]at hl;refine truthy_tuple (I.isTuple hF hc hd) (by omega) ?_;have:(!vs.isEmpty)=b:=by subst h;rw[show vs.isEmpty=decide (vs.size=0)from rfl,hl];cases l<;>simp
  rw[this];exact hQ _
 case list a o vs n l hF hc hd hn hs=>
  have hl:=hs.length;rw[aW]at hl;refine wpAny_truthy_list (I.isList hF hc hd) (by omega) ?_;have:(!vs.isEmpty)=b:=by subst h;rw[show vs.isEmpty=decide (vs.size=0)from rfl,hl];(clear hn hs hl;cases l)<;>simp
  rw[this];exact hQ _
end
noncomputable def led(c:Ctx)(L:Addr)(h:Heap):List (Addr×Obj):=
 (List.range h.objs.size).filterMap λb=>if b=L∨(c.base.get? b).isSome=true then none else(h.get? b).map λo=>(b,o)
theorem pT:(b,o)∈led c L h↔h.get? b=some o/\b≠L/\c.base.get? b=none:=by
 unfold led;rw[List.mem_filterMap];constructor
 ·rintro⟨a,_,e⟩;by_cases q:a=L∨(c.base.get? a).isSome=true
  ·rw[br q]at e;exact aI e
  ·rw[bi q]at e;refine aH (aX.mp e) λo' ho e=>?_;(clear left;cases e);rw[not_or]at q;refine⟨ho,q.1,?_⟩;cases z:c.base.get? b with|none=>rfl|some x=>rw[z]at q;exact bc rfl q.2
 ·rintro⟨h1,h2,h3⟩;refine⟨b,List.mem_range.mpr (aN h1),?_⟩;rw[bi (by rw[not_or];exact⟨h2,by rw[h3];simp⟩),h1];rfl
theorem mw(c:Ctx)(L)(h:Heap):News c.base L h (led c L h):=λp hp=>by obtain⟨b,o⟩:=p;exact pT.mp hp
theorem eU{h:Heap}(x:h.Ns L m)(y:h.Ns L m'):m=m':=by refine BQ x λo es n a1 a2 a3 a4=>BQ y λo' es' n' b1 b2 b3 b4=>?_;rw[a1]at b1;(refine bD b1 λx=>?_;subst x);rw[a2]at b2;(clear b3;cases b2);funext k;rw[←a4,←b4]
section
variable{nm:Nat->Str}{c:Ctx}{env:Env}{F:cF}{σ:Sg}{g:G}{s:Shared}
theorem ud(I:Inv c F g s)(f:ax nm c env F σ s):∃m,s.heap.Ns env.locals m/\Fr c.base env.locals s.heap m:=by obtain⟨m,hn,_⟩:=f.ns;exact⟨m,hn,hn,λb o e=>I.cE _ _ (I.base _ _ e),f.above⟩
theorem AC{L:Addr}(I:Inv c F g s)(hn:s.heap.Ns L m)(hL:F L=none)(hM:L∉c.mu)
  (F':Fr c.base L h' m) (N':News c.base L h' ((s.heap.objs.size,o)::led c L s.heap)) (t):
  Inv c (fq F s.heap.objs.size o) g {s with heap:=h',toks:=t}/\XF s F (fq F s.heap.objs.size o)/\eZ c L s {s with heap:=h',toks:=t}:=by
 have kp:∀b o,b≠L->s.heap.get? b=some o->h'.get? b=some o:=λb o h1 e=>by cases z:c.base.get? b with|some x=>have:=I.cE _ _ (I.base _ _ z);rw[this]at e;(refine bD e λx=>?_;subst x);exact F'.keep _ _ z|none=>exact(N' _ (.tail _ (pT.mpr ⟨e,h1,z⟩))).1
 have fL:∀b o,F b=some o->b≠L:=λb o e q=>by rw[q,hL]at e;exact aI e
 have al:∀b,(s.heap.get? b).isSome=true->(h'.get? b).isSome=true:=λb e=>by
  by_cases q:b=L
  ·(clear hL;subst q);exact gp F'.ns
  ·refine b0 (bu e) λo e=>?_;rw[kp b o q e];rfl
 refine⟨⟨λb o' e=>?_,λb o' e=>I.j6 o _ _ (I.base b o' e),λb hb=>?_,I.d7.mono (I.j6 o) λb hb o e=>kp b o (λq=>hM (q▸hb)) e,I.fJ⟩,
  I.EB o,⟨λb o' z_ h2 e=>kp b o' h2 e,λm' x=>by rw[eU x hn];exact F'.ns,al,rfl,rfl⟩⟩
 ·by_cases q:b=s.heap.objs.size
  ·subst q;rw[b9]at e;(refine bD e λx=>?_;subst x);exact(N' _ (.head _)).1
  ·rw[bf q]at e;exact kp b o' (fL b o' e) (I.cE b o' e)
 ·rw[bf (I.BN hb)];exact I.apart b hb
end
theorem dA:cB n l=true↔l.length<=n:=by unfold cB;rw[Nat.ble_eq]
theorem vw(a b):(bQ a:Str)++bQ b=bQ (a++b):=by show Str.mk (a.toArray++b.toArray)=_;simp
section
variable{nm:Nat->Str}{c:Ctx}{A:Around}{E:Value->Shared->Prop}{s:Shared}{F:cF}{g:G}{env:Env}{σ:Sg}
theorem Gm(h:BZ f x y=some r):∃a b,x=.int a/\y=.int b/\f a b=some r:=by refine aH (a8 h) λa h1 h=>aH (a8 h) λb h2 h=>⟨a,b,du h1,du h2,h⟩
theorem pY(H:∀{a b:Int} {t u:Tok} {r:AV} {s:Shared} {F:cF},Inv c F g s->f a b=some r->wpAny c.M A (binaryOp op (.int a t) (.int b u)) (aE c F s env.locals g r) E s)
 (I:Inv c F g s) (hx:VM c F v x) (hy:VM c F w y) (h:BZ f x y=some r):wpAny c.M A (binaryOp op v w) (aE c F s env.locals g r) E s:=by
 have oz:=(Gm h);refine dp oz λa b kO sy h=>?_;subst kO sy;exact hx.dJ λt=>hy.dJ λu=>H I h
theorem add_list(I:Inv c F g s)(f:ax nm c env F σ s)(hx:VM c F v (.list a))(hy:VM c F w (.list b))(q':a.length+b.length<=1048576):wpAny c.M A (binaryOp .Add v w) (aE c F s env.locals g (.list (a++b))) E s:=by refine hx.listE λl1 o1 vs1 n1 h1 hc1 hd1 hn1 hs1=>hy.listE λl2 o2 vs2 n2 h2 hc2 hd2 hn2 hs2=>aH (ud I f) λm hn xL=>?_;have e1:=hs1.length;have e2:=hs2.length;refine add_lists (vs:=vs1.toList) (ws:=vs2.toList) xL (mw c env.locals s.heap) (I.isList h1 hc1 hd1) (I.isList h2 hc2 hd2) (λh' F' N'=>?_) (by rw[e1,e2,sizeLine_eq];exact Vj q' e1 e2);refine dy (AC I hn f.fN f.cR F' N' s.toks) λI' X Y=>?_;exact⟨_,X,.list (b9 _ _ _) rfl rfl (by rw[ae];exact q') ((hs1.mono X.ext).append (hs2.mono X.ext)),I',Y⟩
theorem MK(hlim:∀l,lim l=true->l.length<=8388608)(I:Inv c F g s)(f:ax nm c env F σ s)(hx:VM c F v x)(hy:VM c F w y)(h:OX lim x y=some r):
  wpAny c.M A (binaryOp .Add v w) (aE c F s env.locals g r) E s:=by
 cases x with|int a=>refine aH (a8 h) λb h1 h=>?_;rw[du h1]at hy;refine bD h λx=>?_;subst x;exact hx.dJ λt=>hy.dJ λu=>add_int (aE.now .int I _)|str a=>refine aH (a8 h) λb h1 h=>aG (dX h) λq h=>?_;rw[eP h1]at hy;refine bD h λx=>?_;subst x;have q:=hlim _ q;rw[ae]at q;refine hx.i6 λt z_=>hy.i6 λu z_=>PyProof.Rows.add_str (λt' tk=>?_) (by simp only[Str.length,bX,sizeLine_eq];exact mE q rfl);rw[vw];exact aE.now (.str (by rw[ae];exact mE q rfl)) I _|list a=>refine aH (a8 h) λb h1 h=>aG (dX h) λq h=>?_;rw[hU h1]at hy;refine bD h λx=>?_;subst x;exact add_list I f hx hy (aa q)|pos rr k=>refine aH (a8 h) λn h1 h=>?_;rw[gb h1]at hy;refine bD h λx=>?_;subst x;refine hx.xW λp t hp hr=>hy.dJ λu=>add_int ?_;rw[show((p+k:Nat):Int)+(Int.ofNat n)=((p+(k+n):Nat):Int)from by simp only[bj];exact Vk];exact aE.now (.pos p hp hr) I _|_=>exact aI h
theorem ML(I:Inv c F g s)(hx:VM c F v x)(hy:VM c F w y)(h:OY x y=some r):
  wpAny c.M A (binaryOp .Mult v w) (aE c F s env.locals g r) E s:=by
 cases x with
 |int a=>refine aH (a8 h) λb h1 h=>aG (dX h) λq h=>?_;rw[du h1]at hy;refine bD h λx=>?_;subst x;have q':=aa q;exact hx.dJ λt=>hy.dJ λu=>PyProof.Rows.mul_int (aE.now .int I _) (IntMulOk.of_right (intBits_le_64 (by omega) (by omega)))|str a=>
  refine aH (a8 h) λb h1 h=>?_;rw[du h1]at hy;refine hx.i6 λt hl=>hy.dJ λu=>?_;cases b with
  |ofNat n=>cases n with|zero=>refine bD h λx=>?_;subst x;exact SB.mul ⟨by decide,λq=>bc (by decide) q,λq=>bc (by decide) q⟩ λt' k=>aE.now (.str (l:=[]) (by simp)) I _|succ n=>cases n with|zero=>refine bD h λx=>?_;subst x;exact SB.mul ⟨by decide,λz_ q=>Bool.noConfusion (show true=false from q),λz_ q=>Bool.noConfusion (show true=false from q)⟩ λt' k=>aE.now (.str hl) I _|succ n=>exact aI h
  |negSucc k=>
   refine aG (dX h) λq h=>?_;refine bD h λx=>?_;subst x;have q':=aa q;refine SB.mul ⟨?_,λz=>bc (by omega) z,λz=>bc (by omega) z⟩ λt' k'=>?_
   ·rw[Bool.or_eq_false_iff];exact⟨decide_eq_false (by omega),decide_eq_false (by omega)⟩
   ·rw[show Txt.mul (bQ a) (Int.negSucc k)=bQ []from by unfold Txt.mul;rw[br (by omega)];rfl];exact aE.now (.str (l:=[]) (by simp)) I _
 |_=>exact aI h
theorem MM(I:Inv c F g s)(h:Lq a b=some r):wpAny c.M A (binaryOp .FloorDiv (.int a t) (.int b u)) (aE c F s env.locals g r) E s:=by
 unfold Lq at h
 split at h
 ·exact aI h
 ·rename_i q;refine bD h λx=>?_;subst x;rw[Bool.or_eq_false_iff]at q;have q0:b≠0:=by simpa using q.1
  have q2:=q.2;rw[Bool.not_eq_false']at q2;have q':=aa q2;exact floordiv_int q0 (aE.now .int I _) (.inl (PyProof.noPylong_small q'))
theorem MN(I:Inv c F g s)(h:Lr a b=some r):wpAny c.M A (binaryOp .Mod (.int a t) (.int b u)) (aE c F s env.locals g r) E s:=by
 unfold Lr at h
 split at h
 ·exact aI h
 ·rename_i q;refine bD h λx=>?_;subst x;exact mod_int' (by simpa using q) (aE.now .int I _)
theorem MO(I:Inv c F g s)(h:OZ a b=some r):wpAny c.M A (binaryOp .Pow (.int a t) (.int b u)) (aE c F s env.locals g r) E s:=by refine aH (a8 h) λn h1 h=>aG (dX h) λq h=>?_;rw[Ah h1];refine bD h λx=>?_;subst x;simp only[aV]at q;have q1:=aa q.1;have q2:=aa q.2;refine pow_int_small (by simp) (by simp only[bj];exact Vl q1) q2 ?_;exact aE.now .int I _
theorem Kj(hlim:∀l,lim l=true->l.length<=8388608)(I:Inv c F g s)(f:ax nm c env F σ s)(hx:VM c F v x)(hy:VM c F w y)(h:v6 lim op x y=some r):
  wpAny c.M A (binaryOp op v w) (aE c F s env.locals g r) E s:=by
 cases op with|Add=>exact MK hlim I f hx hy h|Sub=>exact pY (λI h=>by(refine bD h λx=>?_;subst x);exact PySem.P.sub_int (aE.now .int I _)) I hx hy h|Mult=>exact ML I hx hy h|FloorDiv=>exact pY (λI h=>MM I h) I hx hy h|Mod=>exact pY (λI h=>MN I h) I hx hy h|Pow=>exact pY (λI h=>MO I h) I hx hy h|_=>exact aI h
end
end
section
open PySem PySem.W PyProof.Rows PySem.Calls PySem.SeqAt
theorem gU:∀{y x:List Nat},kZ y x=true↔x.take y.length=y|[],x=>⟨λz_=>rfl,λz_=>rfl⟩|_::_,[]=>⟨λq=>bq q,λq=>bc q.symm (List.cons_ne_nil _ _)⟩|a::r,b::t=>by show(match Nat.beq a b with|true=>kZ r t|false=>false)=true↔_;rw[ac,List.take_succ_cons,List.cons.injEq];cases h:Nat.beq a b with|true=>rw[gU (y:=r)];exact⟨λq=>⟨(c0.mp h).symm,q⟩,λq=>q.2⟩|false=>exact⟨λq=>(bq q),λq=>(by rw[q.1,Nat.beq_refl]at h;exact il h)⟩
theorem qM:∀{x:List Nat},BX y x=true↔∃i,i+y.length<=x.length/\(x.drop i).take y.length=y
 |[]=>by
  show kZ y []=true↔_;rw[gU];constructor
  ·intro h;have:y=[]:=by simpa using h.symm
   subst this;exact⟨0,by simp,by simp⟩
  ·rintro⟨i,h1,h2⟩;simpa using h2
 |b::t=>by
  have ih:=qM (y:=y) (x:=t);show(match kZ y (b::t)with|true=>true|false=>BX y t)=true↔_;cases h:kZ y (b::t)with
  |true=>refine⟨λz_=>⟨0,?_,gU.mp h⟩,λz_=>rfl⟩;have:=congrArg List.length (gU.mp h);rw[cC]at this;exact Pg this|false=>
   rw[ih];constructor
   ·rintro⟨i,h1,h2⟩;exact⟨i+1,by rw[ac];exact Nc h1,by rw[List.drop_succ_cons];exact h2⟩
   ·rintro⟨i,h1,h2⟩;cases i with|zero=>rw[List.drop_zero]at h2;rw[gU.mpr h2]at h;exact il h|succ i=>rw[ac]at h1;rw[List.drop_succ_cons]at h2;exact⟨i,by exact TY h1,h2⟩
theorem Jr(x y):(!(Builtin.Str.occurrences (bQ x) (bQ y) 0 (bQ x).length 1).isEmpty)=BX y x:=by
 have ln:(bQ x).length=x.length:=by simp[Str.length]
 have ly:(bQ y).length=y.length:=by simp[Str.length]
 have at_:∀i,StrLaws.At (bQ x) (bQ y) (bQ x).length i↔(i+y.length<=x.length/\(x.drop i).take y.length=y):=λi=>by unfold StrLaws.At;rw[ln,ly,StrLaws.subAt_eq,ly];simp
 refine Or.elim (StrLaws.occ_head (bQ x) (bQ y) 1 (aD 1)) (λoz=>?_) λoz=>?_;(refine aG oz λh hn=>?_);rotate_left;(refine dp oz λi r h ha z_=>?_);rotate_right
 ·rw[h];cases q:BX y x with|false=>rfl|true=>refine b0 (qM.mp q) λi hi=>bc ((at_ i).mpr hi) (hn i)
 ·rw[h,qM.mpr ⟨i,(at_ i).mp ha⟩];rfl
theorem jz{c}{F}{v}{l}(h:VM c F v (.str l)):∃t,v=.str (bQ l) t/\l.length<=16777216:=h.i6 λt h=>⟨t,rfl,h⟩
theorem jG{c}{F}{v}{l}(h:VM c F v (.bytes l)):∃t,v=.bytes (l.map UInt8.ofNat).toArray t/\∀x,x∈l->x<256:=h.el (P:=λv=>∃t,v=.bytes (l.map UInt8.ofNat).toArray t/\∀x,x∈l->x<256) λt h=>⟨t,rfl,h⟩
theorem Js{a b n}:mx a b<=n↔a<=n/\b<=n:=by
 unfold mx;cases h:Nat.ble a b with
 |true=>have:=aa h;dsimp only;exact TZ this|false=>
  have:¬a<=b:=λq=>by rw[bp q]at h;exact il h
  dsimp only;exact T1 this
theorem yJ(h:deps l<=n):∀a∈l,dep a<=n:=by induction l with|nil=>intro a ha;cases ha|cons b r ih=>have h:=Js.mp h;intro a ha;cases ha with|head=>exact h.1|tail _ ha=>exact ih h.2 a ha
section
variable{nm:Nat->Str}{c:Ctx}{A:Around}{E:Value->Shared->Prop}{s:Shared}{F:cF}{g:G}{env:Env}{σ:Sg}
theorem all_range:(List.range n).all p=true↔∀i,i<n->p i=true:=by rw[aS];exact⟨λh i hi=>h i (List.mem_range.mpr hi),λh i hi=>h i (List.mem_range.mp hi)⟩
def yK:List AV->List AV->Option (List Bool)|a::r,b::t=>(uB a b).bind λx=>(yK r t).bind λy=>some (x::y)|_,_=>some []
theorem td(h:mI (a::x) (b::y)=some r):∃p q,uB a b=some p/\mI x y=some q/\r=(p&&q):=by refine aH (a8 h) λp hp h=>aH (a8 h) λq hq h=>⟨p,q,hp,hq,bD h Eq.symm⟩
theorem B3(hp:uB a b=some p)(hl:yK x y=some l):yK (a::x) (b::y)=some (p::l):=by show(uB a b).bind (λx'=>(yK x y).bind λy'=>some (x'::y'))=_;rw[hp,hl];rfl
theorem nW:∀{a b:List AV} {r:Bool},mI a b=some r->∃l,yK a b=some l/\l.length=min a.length b.length/\r=(l.all id&&a.length==b.length)|[],[],r,h=>by(refine bD h λx=>?_;subst x);exact⟨[],rfl,rfl,rfl⟩|[],_::_,r,h=>by(refine bD h λx=>?_;subst x);exact⟨[],rfl,(Nat.zero_min _).symm,rfl⟩|_::_,[],r,h=>by(refine bD h λx=>?_;subst x);exact⟨[],rfl,(Nat.min_zero _).symm,rfl⟩|a::x,b::y,r,h=>by refine dp (td h) λp q hp hq nq=>?_;subst nq;refine nE (nW hq) λl h1 h2 sy=>?_;subst sy;refine⟨p::l,B3 hp h1,by rw[ac,ac,ac,h2];exact(Nat.succ_min_succ _ _).symm,?_⟩;rw[show((a::x).length==(b::y).length)=(x.length==y.length)from by rw[Bool.eq_iff_iff,df,df];exact Nat.succ_inj,List.all_cons,Bool.and_assoc];rfl
theorem wj{P:AV->AV->Bool->Prop}(h0:P .none .none true)(h1:∀a b,P (.bool a) (.bool b) (a==b))(h2:∀a b,P (.int a) (.int b) (a==b))(h3:∀a b,P (.str a) (.str b) (fj a b))(h4:∀a b,P (.bytes a) (.bytes b) (fj a b))
  (h5:∀a b r,mI a b=some r->P (.aT a) (.aT b) r) (h6:∀a b r,a.length=b.length->mI a b=some r->P (.list a) (.list b) r) (h7:∀a b,a.length≠b.length->P (.list a) (.list b) false) (h:uB x y=some r):P x y r:=by
 cases x with
 |none=>refine aG (dX (show grd (mG y) (some true)=some r from h)) λq h=>?_;(refine bD h λx=>?_;subst x);rw[lX q];exact h0|bool a=>refine aH (a8 (show(vBool y).bind (λb=>some (a==b))=some r from h)) λb q h=>?_;(refine bD h λx=>?_;subst x);rw[qG q];exact h1 a b|int a=>refine aH (a8 (show(vInt y).bind (λb=>some (a==b))=some r from h)) λb q h=>?_;(refine bD h λx=>?_;subst x);rw[du q];exact h2 a b|str a=>refine aH (a8 (show(vStr y).bind (λb=>some (fj a b))=some r from h)) λb q h=>?_;(refine bD h λx=>?_;subst x);rw[eP q];exact h3 a b|bytes a=>refine aH (a8 (show(yF y).bind (λb=>some (fj a b))=some r from h)) λb q h=>?_;(refine bD h λx=>?_;subst x);rw[BW q];exact h4 a b|aT a=>refine aH (a8 (show(D5 y).bind (λb=>mI a b)=some r from h)) λb q h=>?_;rw[uf q];exact h5 a b r h|list a=>refine aH (a8 (show(jL y).bind (λb=>match Nat.beq a.length b.length with|true=>mI a b|false=>some false)=some r from h)) λb q h=>?_;rw[hU q];cases z:Nat.beq a.length b.length with|true=>rw[z]at h;exact h6 a b r (aj z) h|false=>rw[z]at h;(refine bD h λx=>?_;subst x);exact h7 a b λe=>by rw[e,Nat.beq_refl]at z;exact il z
 |_=>exact aI h
theorem lY:∀{l m:List Nat},(∀x,x∈l->x<256)->(∀x,x∈m->x<256)->l.map UInt8.ofNat=m.map UInt8.ofNat->l=m|[],[],_,_,_=>rfl|[],_::_,_,_,h=>by simp at h|_::_,[],_,_,h=>by simp at h|a::l,b::m,h1,h2,h=>by rw[aC,aC,List.cons.injEq]at h;have e:=congrArg UInt8.toNat h.1;have ha:=h1 a (.head _);have hb:=h2 b (.head _);rw[UInt8.toNat_ofNat',UInt8.toNat_ofNat',Nat.mod_eq_of_lt ha,Nat.mod_eq_of_lt hb]at e;rw[e,lY (λx hx=>h1 x (.tail _ hx)) (λx hx=>h2 x (.tail _ hx)) h.2]
theorem bytes_inj{l m:List Nat}(h1:∀x,x∈l->x<256)(h2:∀x,x∈m->x<256)(h:(l.map UInt8.ofNat).toArray=(m.map UInt8.ofNat).toArray):l=m:=
 lY h1 h2 (by simpa using h)
theorem yL{v}{l}(h:VM c F v (.aT l)):∃a o vs n,v=.ref a/\F a=some o/\o.cls=.type "tuple"/\o.data=.seq vs n/\l.length<=1048576/\dh c F vs.toList l:=h.qj λa o vs n h1 h2 h3 h4 h5=>⟨a,o,vs,n,rfl,h1,h2,h3,h4,h5⟩
theorem mJ{v}{l}(h:VM c F v (.list l)):∃a o vs n,v=.ref a/\F a=some o/\o.cls=.type "list"/\o.data=.seq vs n/\l.length<=1048576/\dh c F vs.toList l:=h.listE λa o vs n h1 h2 h3 h4 h5=>⟨a,o,vs,n,rfl,h1,h2,h3,h4,h5⟩
theorem yM{v}{i}(h:VM c F v (.int i)):∃t,v=.int i t:=h.dJ λt=>⟨t,rfl⟩
theorem pN{v}{i}(h:VM c F v (.bool i)):v=.bool i:=h.Ec rfl
theorem qN{n}(ih:∀{a b:AV} {v:Value} {r:Bool},dep a<n->VM c F v a->VM c F v b->uB a b=some r->r=true):
  ∀{a b:List AV} {vs:List Value} {r:Bool},deps a<n->dh c F vs a->dh c F vs b->mI a b=some r->r=true
 |[],[],_,_,_,_,_,h=>bD h Eq.symm|[],_::_,_,_,_,x,y,_=>(Nat.succ_ne_zero _ (y.length.symm.trans x.length)).elim|_::_,[],_,_,_,x,y,_=>(Nat.succ_ne_zero _ (x.length.symm.trans y.length)).elim|a::x,b::y,_,_,d,h1,h2,h=>by refine dp (td h) λp q hp hq nq=>?_;subst nq;refine aG (Js.mp (Nat.le_of_lt_succ (show mx (dep a) (deps x)<n-1+1 from T3 d))) λd1 d2=>?_;revert h2;refine h1.hG λv vs h1 hs1 h2=>aG h2.un λh2 hs2=>?_;rw[ih (Ph d1 d) h1 h2 hp,qN ih (Ph d2 d) hs1 hs2 hq];rfl
theorem uE:∀(n:Nat) {a b:AV} {v:Value} {r:Bool},dep a<n->VM c F v a->VM c F v b->uB a b=some r->r=true
 |0,_,_,_,_,d,_,_,_=>bc d (Nat.not_lt_zero _)|n+1,a,b,v,r,d,x,y,h=>by
  refine wj (P:=λa b r=>dep a<n+1->VM c F v a->VM c F v b->r=true) (λz_ z_ z_=>rfl) (λa b z_ x y=>?_) (λa b z_ x y=>?_) (λa b z_ x y=>?_) (λa b z_ x y=>?_) (λa b r h d x y=>?_) (λa b r z_ h d x y=>?_) (λa b e d x y=>?_) h d x y
  ·cases (pN x).symm.trans (pN y);exact bz _
  ·refine b0 (yM x) λt dN=>?_;subst dN;refine b0 (yM y) λu e=>?_;cases e;exact bz _
  ·refine aH (jz x) λt dN z_=>?_;subst dN;refine aH (jz y) λu e z_=>?_;have e2:a.toArray=b.toArray:=congrArg Str.cps (Value.str.inj e).1;exact ez.mpr (by simpa using e2)
  ·refine aH (jG x) λt dN ha=>?_;subst dN;refine aH (jG y) λu e hb=>?_;exact ez.mpr (bytes_inj ha hb (Value.bytes.inj e).1)
  ·refine sH (yL x) λp o vs m nq q1 z_ q2 z_ q3=>?_;subst nq;refine sH (yL y) λp' o' vs' m' e z1 z_ z2 z_ z3=>?_;cases e;cases q1.symm.trans z1;cases q2.symm.trans z2;exact qN (λd x y h=>uE n d x y h) (Nat.lt_of_succ_lt_succ d) q3 z3 h
  ·refine sH (mJ x) λp o vs m nq q1 z_ q2 z_ q3=>?_;subst nq;refine sH (mJ y) λp' o' vs' m' e z1 z_ z2 z_ z3=>?_;cases e;cases q1.symm.trans z1;cases q2.symm.trans z2;exact qN (λd x y h=>uE n d x y h) (Nat.lt_of_succ_lt_succ d) q3 z3 h
  ·refine sH (mJ x) λp o vs m nq q1 z_ q2 z_ q3=>?_;subst nq;refine sH (mJ y) λp' o' vs' m' e' z1 z_ z2 z_ z3=>?_;cases e';cases q1.symm.trans z1;cases q2.symm.trans z2;exact bc (q3.length.symm.trans z3.length) e
theorem wk:∀{a b:List AV} {l:List Bool},yK a b=some l->∀(j:Nat) (x y:AV),a[j]?=some x->b[j]?=some y->∃r,uB x y=some r/\l[j]?=some r|[],_,_,_,j,x,y,h1,_=>by simp at h1|_::_,[],_,_,j,x,y,_,h2=>by simp at h2|a::r,b::t,l,h,j,x,y,h1,h2=>by refine aH (a8 h) λp hp h=>aH (a8 h) λq hq h=>?_;rw[←bD h id];cases j with|zero=>rw[←bD h1 id,←bD h2 id];exact⟨p,hp,rfl⟩|succ j=>exact wk hq j x y h1 h2
def LA(c:Ctx)(F:cF)(s:Shared)(n:Nat):Prop:=∀{A:Around} {v w:Value} {a b:AV} {r:Bool},dep a<n->A.units+n<cLine->VM c F v a->VM c F w b->uB a b=some r->EqAt A s v w r
theorem wm(ih:LA c F s n)(hu:A.units+(n+1)<cLine){vs ws:Array Value}(hs:deps as<n)(h1:dh c F vs.toList as)(h2:dh c F ws.toList bs)(h3:yK as bs=some l)
  (j) (hj1:j<vs.size) (hj2:j<ws.size):EqAt A.in1 s vs[j] ws[j] (l.getD j false):=by
 have e1:=h1.length;have e2:=h2.length;have a1:as[j]?=some (as[j]'(e1▸hj1)):=cg _;have b1:bs[j]?=some (bs[j]'(e2▸hj2)):=cg _;refine aH (h1.get a1) λv' g1 m1=>aH (h2.get b1) λw' g2 m2=>aH (wk h3 j _ _ a1 b1) λr' g3 g4=>?_;have q1:vs[j]=v':=by simpa [hj1]using g1
 have q2:ws[j]=w':=by simpa [hj2]using g2
 have q3:l.getD j false=r':=by simp[List.getD,g4]
 rw[q1,q2,q3];exact ih (bY (yJ (aD _) _ (List.getElem_mem _)) hs) (by show A.units+1+n<cLine;exact T4 hu) m1 m2 g3
theorem wn(l:List Bool)(k)(hk:l.length=k):((List.range k).all λj=>l.getD j false)=l.all id:=by
 subst hk;rw[Bool.eq_iff_iff,all_range,aS];constructor
 ·intro h x hx;obtain⟨i,hi,rfl⟩:=List.getElem_of_mem hx;have:=h i hi;simpa [List.getD,hi]using this
 ·intro h i hi;have:=h _ (List.getElem_mem hi);simpa [List.getD,hi]using this
noncomputable def LB(v:Value):Bool:=match v with|.float _ _=>true|_=>false
theorem Ed(I:Inv c F g s){n:Nat}(ih:LA c F s n)(hu:A.units+(n+1)<cLine){x y}(hx:VM c F v x)(hy:VM c F w y)(hd:dep x<=n)(h:uB x y=some r):RcAt A s v w r/\RcNeAt A s v w (!r)/\LB v=false:=by
 refine wj (P:=λx y r=>VM c F v x->VM c F w y->dep x<=n->RcAt A s v w r/\RcNeAt A s v w (!r)/\LB v=false) (λx y z_=>?_) (λa b x y z_=>?_) (λa b x y z_=>?_) (λa b x y z_=>?_) (λa b x y z_=>?_) (λa b r h x y d=>?_) (λa b r q h x y d=>?_) (λa b q x y z_=>?_) h hx hy hd
 ·exact x.noneE (y.noneE ⟨RcAt.none_none,RcNeAt.none_none,rfl⟩)
 ·rw[pN x,pN y];exact⟨RcAt.bool_bool _ _,RcNeAt.bool_bool _ _,rfl⟩
 ·exact x.dJ λt=>y.dJ λu=>⟨RcAt.int_int _ _ _ _,RcNeAt.int_int _ _ _ _,rfl⟩
 ·refine x.i6 λt z_=>y.i6 λu z_=>?_;rw[show fj a b=(bQ a==bQ b)from by rw[uF,Bool.eq_iff_iff,cG,df];simp];exact⟨RcAt.str_str _ _ _ _,RcNeAt.str_str _ _ _ _,rfl⟩
 ·refine aH (jG x) λt dN ha=>?_;subst dN;refine aH (jG y) λu dN hb=>?_;subst dN;rw[show fj a b=((a.map UInt8.ofNat).toArray.toList==(b.map UInt8.ofNat).toArray.toList)from by
   rw[uF,Bool.eq_iff_iff,cG,df];exact⟨λq=>by rw[q],λq=>lY ha hb q⟩]
  exact⟨λprog w E Q h=>eq_bytes h,λprog w E Q h=>ne_bytes h,rfl⟩
 ·refine x.qj λp o vs m q1 q2 q3 q4 q5=>y.qj λp' o' vs' m' z1 z2 z3 z4 z5=>?_;refine nE (nW h) λbl h1 h2 sy=>?_;subst sy;have e1:=q5.length;have e2:=z5.length;rw[aW]at e1 e2;have it:=wm (A:=A) ih hu (Nat.lt_of_succ_le d) q5 z5 h1;have u:=RcAt.tuples (A:=A) (s:=s) (I.isTuple q1 q2 q3) (I.isTuple z1 z2 z3) (B4 hu) (e:=λj=>bl.getD j false) it;have u':=RcNeAt.tuples (A:=A) (s:=s) (I.isTuple q1 q2 q3) (I.isTuple z1 z2 z3) (B4 hu) (e:=λj=>bl.getD j false) it;rw[e1,e2,wn bl _ h2]at u u';exact⟨u,u',rfl⟩
 ·refine x.listE λp o vs m q1 q2 q3 q4 q5=>y.listE λp' o' vs' m' z1 z2 z3 z4 z5=>?_;refine nE (nW h) λbl h1 h2 sy=>?_;subst sy;have e1:=q5.length;have e2:=z5.length;rw[aW]at e1 e2;have it:=wm (A:=A) ih hu (Nat.lt_of_succ_le d) q5 z5 h1;have u:=RcAt.lists (A:=A) (s:=s) (I.isList q1 q2 q3) (I.isList z1 z2 z3) (Pi q e1 e2) (B4 hu) (e:=λj=>bl.getD j false) it;have u':=RcNeAt.lists (A:=A) (s:=s) (I.isList q1 q2 q3) (I.isList z1 z2 z3) (Pi q e1 e2) (B4 hu) (e:=λj=>bl.getD j false) it;rw[e1,wn bl _ (by rw[h2,q,Nat.min_self])]at u u';rw[show(a.length==b.length)=true from by rw[q];exact bz _,Bool.and_true];exact⟨u,u',rfl⟩
 ·refine x.listE λp o vs m q1 q2 q3 q4 q5=>y.listE λp' o' vs' m' z1 z2 z3 z4 z5=>?_;have e1:=q5.length;have e2:=z5.length;rw[aW]at e1 e2;have ne:(vs.size !=vs'.size)=true:=by rw[e1,e2,bne_iff_ne];exact q
  exact⟨RcAt.lists_lengths (I.isList q1 q2 q3) (I.isList z1 z2 z3) ne (B4 hu),RcNeAt.lists_lengths (I.isList q1 q2 q3) (I.isList z1 z2 z3) ne (B4 hu),rfl⟩
theorem EqAt.of(nf:LB v=false)(q:v=w->r=true)(h:RcAt A s v w r):EqAt A s v w r:=λprog w E Q hQ=>by
 refine wpAny_holding<|wpAny_ite_split (λhab=>?_) (λz_=>?_)
 ·rw[q (eq_of_beq hab)]at hQ;exact an (wpAny_rule (aP hQ))
 ·skip;induction v using Value.casesOn<;>first|exact il nf|exact an (h _ _ _ _ (wpAny_truthy_bool hQ))
theorem yN(I:Inv c F g s):∀n:Nat,LA c F s n|0=>λh=>bc h (Nat.not_lt_zero _)|n+1=>λhd hu hv hw h=>let z:=Ed I (yN I n) hu hv hw (Nat.le_of_lt_succ hd) h;EqAt.of z.2.2 (λe=>uE _ hd hv (e▸hw) h) z.1
end
section
variable{nm:Nat->Str}{c:Ctx}{A:Around}{E:Value->Shared->Prop}{s:Shared}{F:cF}{g:G}{env:Env}{σ:Sg}
theorem qe(h:Gq c F kvs l)(y):match kW y l with
  |some a=>∃v,valueAt kvs (bQ y)=some v/\VM c F v a|none=>valueAt kvs (bQ y)=none:=by
 induction h using wC.ind with
 |nil=>exact rfl|@cons k v vs a as h hs ih=>
  have e0:kW y ((k,a)::as)=match fj k y with|true=>some a|false=>kW y as:=rfl
  rw[e0];have e:valueAt ((bQ k,v)::vs) (bQ y)=if k=y then some v else valueAt vs (bQ y):=by
   unfold valueAt;by_cases q:k=y
   ·subst q;simp
   ·have:¬(bQ k=bQ y):=λz=>q (by simpa using z);simp[q,this]
  rw[e];rw[uF];by_cases q:k=y
  ·rw[decide_eq_true q,br q];exact⟨v,rfl,h⟩
  ·rw[decide_eq_false q,bi q];exact ih
def jh(y:List Nat)(v:Value):Bool:=match v with|.str x _=>x==bQ y|_=>false
theorem sh{A}:∀{vs:List Value} {l:List AV} {r:Bool},dh c F vs l->Ho y l=some r->
  (∀v,v∈vs->EqAt A s v (.str (bQ y) t) (jh y v))/\vs.any (jh y)=r
 |[],[],r,_,h=>by rw[←bD h id];exact⟨λv hv=>(by cases hv),rfl⟩|[],_::_,r,hh,h=>hh.MU|_::_,[],r,hh,h=>hh.MV|v::vs,a::as,r,hh,h=>by
  refine aG hh.un λh1 hs=>aH (a8 h) λx e1 h=>aH (a8 h) λb hb h=>?_;rw[eP e1]at h1;refine aG (sh (A:=A) (t:=t) hs hb) λh2 h3=>aH (jz h1) λt' e2 z_=>?_;rw[←bD h id,e2];refine⟨λv hv=>?_,?_⟩
  ·cases hv with|head=>exact EqAt.str_str _ _ _ _|tail _ hv=>exact h2 v hv
  ·rw[List.any_cons,h3];congr 1;unfold jh;rw[uF,Bool.eq_iff_iff,df,cG];simp
theorem MJ(I:Inv c F g s)(hx:VM c F v (.str a))(hy:VM c F w y)(h:Xo a y=some r):
  wpAny c.M A (compareOp .In v w) (aE c F s env.locals g (.bool r)) E s/\wpAny c.M A (compareOp .NotIn v w) (aE c F s env.locals g (.bool (!r))) E s:=by
 refine aH (jz hx) λt1 dN z_=>?_;subst dN;cases y with
 |str b=>
  refine bD h λx=>?_;subst x;refine hy.i6 λt2 z_=>⟨PyProof.Rows.in_str ?_,PyProof.Rows.notIn_str ?_⟩
  ·rw[Jr];exact aE.here .bool I
  ·rw[Jr];exact aE.here .bool I
 |aT l=>
  refine hy.qj λp o vs n hF hc hd hn hs=>aG (sh (A:=A.in1) (s:=s) (t:=t1) hs h) λh1 h2=>?_;have h2':vs.any (jh a)=r:=by rw[←h2,Array.any_toList]
  refine⟨in_tupleAt (jh a) (I.isTuple hF hc hd) (λy hy=>h1 y (by simpa using hy)) ?_,notIn_tupleAt (jh a) (I.isTuple hF hc hd) (λy hy=>h1 y (by simpa using hy)) ?_⟩
  ·rw[h2'];exact aE.here .bool I
  ·rw[h2'];exact aE.here .bool I
 |list l=>
  refine hy.listE λp o vs n hF hc hd hn hs=>aG (sh (A:=A.in1) (s:=s) (t:=t1) hs h) λh1 h2=>?_;have h2':vs.any (jh a)=r:=by rw[←h2,Array.any_toList]
  refine⟨in_listAt (jh a) (I.isList hF hc hd) (λy hy=>h1 y (by simpa using hy)) ?_,notIn_listAt (jh a) (I.isList hF hc hd) (λy hy=>h1 y (by simpa using hy)) ?_⟩
  ·rw[h2'];exact aE.here .bool I
  ·rw[h2'];exact aE.here .bool I
 |dict l=>
  refine hy.vC λad o kvs hF hm hd hs=>?_;have D:=Heap.dictOf_iff.mpr ⟨o,I.cE _ _ hF,hd⟩;have z:=qe hs a;have h:some (match kW a l with|some _=>true|none=>false)=some r:=h;have e:(valueAt kvs (bQ a)).isSome=r:=by cases q:kW a l with|some x=>rw[q]at z h;refine aH z λv z z_=>?_;rw[z];(refine bD h λx=>?_;subst x);rfl|none=>rw[q]at z h;rw[z];(refine bD h λx=>?_;subst x);rfl
  refine⟨wpAny_in_of (strKind_is _ _ _ _) hm D.mapOf ?_,wpAny_notIn_of (strKind_is _ _ _ _) hm D.mapOf ?_⟩
  ·rw[e];exact aE.now .bool I _
  ·rw[e];exact aE.now .bool I _
 |_=>exact aI h
theorem J6(I:Inv c F g s)(hx:VM c F v x)(hy:VM c F w y)(h:TH x y=some r):
  wpAny c.M A (compareOp .In v w) (aE c F s env.locals g (.bool r)) E s/\wpAny c.M A (compareOp .NotIn v w) (aE c F s env.locals g (.bool (!r))) E s:=by
 refine aH (a8 h) λa e h=>?_;rw[eP e]at hx;exact MJ I hx hy h
theorem oG:∀{k:Nat} {r:List AV},mH k r=decide (k<r.length)|k,[]=>by cases k<;>simp[mH]|0,_::_=>by simp[mH]|k+1,_::r=>by rw[mH,oG];simp
theorem IW(hu:A.units+61<cLine)(I:Inv c F g s)(hx:VM c F v x)(hy:VM c F w y)(hd:dep x<=60)(h:uB x y=some r):
  ∀{Q:Value->Shared->Prop},(∀t,Q (.bool r) {s with toks:=t})->wpAny c.M A (compareOp .Eq v w) Q E s:=
 λhQ=>(Ed I (yN I 60) hu hx hy hd h).1 _ _ _ _ (hQ s.toks)
theorem IX(hu:A.units+61<cLine)(I:Inv c F g s)(hx:VM c F v x)(hy:VM c F w y)(hd:dep x<=60)(h:uB x y=some r):
  ∀{Q:Value->Shared->Prop},(∀t,Q (.bool (!r)) {s with toks:=t})->wpAny c.M A (compareOp .NotEq v w) Q E s:=
 λhQ=>(Ed I (yN I 60) hu hx hy hd h).2.1 _ _ _ _ (hQ s.toks)
theorem ua(I:Inv c F g s)(hx:VM c F v x)(h:uC x=some r):
  wpAny c.M A (compareOp .Is v .none) (aE c F s env.locals g (.bool r)) E s/\wpAny c.M A (compareOp .IsNot v .none) (aE c F s env.locals g (.bool (!r))) E s:=by
 have ne:v≠.none->r=false->(wpAny c.M A (compareOp .Is v .none) (aE c F s env.locals g (.bool r)) E s/\wpAny c.M A (compareOp .IsNot v .none) (aE c F s env.locals g (.bool (!r))) E s):=λe q=>by rw[q];exact⟨is_none_ne e (aE.here .bool I),isnot_none_ne e (aE.here .bool I)⟩
 induction hx using VM.casesOn<;>first|exact aI h|exact ne (λe=>nomatch e) (bD h Eq.symm)|(rw[←bD h id];exact⟨is_none_none (aE.here .bool I),isnot_none_none (aE.here .bool I)⟩)
theorem si(h:Hp o=some r):∃b,o=some b/\r=!b:=by refine aH (a8 h) λb e h=>?_;(refine bD h λx=>?_;subst x);exact⟨b,e,rfl⟩
theorem Bs(H:∀{a b:Int} {t u:Tok},wpAny c.M A (compareOp op (.int a t) (.int b u)) (aE c F s env.locals g (.bool (f a b))) E s)
 (hx:VM c F v x) (hy:VM c F w y) (h:Ls f x y=some r):wpAny c.M A (compareOp op v w) (aE c F s env.locals g (.bool r)) E s:=by
 refine aH (a8 h) λa h1 h=>aH (a8 h) λb h2 h=>?_;rw[du h1]at hx;rw[du h2]at hy;refine bD h λx=>?_;subst x;exact hx.dJ λt=>hy.dJ λu=>H
theorem RL(I:Inv c F g s)(hx:VM c F v x)(hy:VM c F w y)(h:Xp x y=some r):wpAny c.M A (compareOp .Lt v w) (aE c F s env.locals g (.bool r)) E s:=by
 cases x with
 |int a=>refine aH (a8 h) λb h1 h=>?_;rw[du h1]at hy;refine bD h λx=>?_;subst x;exact hx.dJ λt=>hy.dJ λu=>lt_int (aE.here .bool I)|pos rr k=>
  refine aG (dX h) λq h=>?_;rw[wg q]at hy;refine bD h λx=>?_;subst x;refine hx.xW λp t hp hr=>hy.xW λp2 t2 hp2 hr2=>lt_int ?_;rw[show decide (((p+k:Nat):Int)<((p2+0:Nat):Int))=mH k rr from by
   rw[oG,Bool.eq_iff_iff,cG,cG];exact Vm hp hp2]
  exact aE.here .bool I
 |_=>exact aI h
theorem RM(I:Inv c F g s)(hx:VM c F v x)(hy:VM c F w y)(h:Xq x y=some r):wpAny c.M A (compareOp .GtE v w) (aE c F s env.locals g (.bool r)) E s:=by
 cases x with
 |int a=>refine aH (a8 h) λb h1 h=>?_;rw[du h1]at hy;refine bD h λx=>?_;subst x;exact hx.dJ λt=>hy.dJ λu=>ge_int (aE.here .bool I)|pos rr k=>
  refine aG (dX h) λq h=>?_;rw[wg q]at hy;refine bD h λx=>?_;subst x;refine hx.xW λp t hp hr=>hy.xW λp2 t2 hp2 hr2=>ge_int ?_;rw[show decide (((p2+0:Nat):Int)<=((p+k:Nat):Int))=!mH k rr from by
   rw[oG,Bool.eq_iff_iff,cG,Bool.not_eq_true',decide_eq_false_iff_not];exact Vn hp hp2]
  exact aE.here .bool I
 |_=>exact aI h
theorem CZ(hu:A.units+61<cLine)(I:Inv c F g s)(hx:VM c F v x)(hy:VM c F w y)(h:yC op x y=some r):
  wpAny c.M A (compareOp op v w) (aE c F s env.locals g (.bool r)) E s:=by
 cases op with|Is=>refine aG (dX h) λq h=>?_;rw[lX q]at hy;exact hy.noneE (ua I hx h).1|IsNot=>refine aG (dX h) λq h=>?_;refine aH (si h) λb q2 kO=>?_;subst kO;rw[lX q]at hy;exact hy.noneE (ua I hx q2).2|Eq=>refine aG (dX h) λq h=>IW hu I hx hy (aa q) h λt=>aE.now .bool I t|NotEq=>refine aG (dX h) λq h=>?_;refine aH (si h) λb q2 kO=>?_;subst kO;exact IX hu I hx hy (aa q) q2 λt=>aE.now .bool I t|Lt=>exact RL I hx hy h|LtE=>exact Bs (le_int (aE.here .bool I)) hx hy h|Gt=>exact Bs (gt_int (aE.here .bool I)) hx hy h|GtE=>exact RM I hx hy h|In=>exact(J6 I hx hy h).1|NotIn=>refine aH (si h) λb q2 kO=>?_;subst kO;exact(J6 I hx hy q2).2
end
end
section
open PySem PySem.W PyProof.Rows PySem.Calls
theorem iH:∀{k:Nat} {l:List AV},p7 k l=l[k]?|0,[]=>rfl|_+1,[]=>rfl|0,_::_=>rfl|k+1,_::r=>iH (k:=k) (l:=r)
theorem xG:∀{k:Nat} {l:List Nat},Lo k l=l[k]?|0,[]=>rfl|_+1,[]=>rfl|0,_::_=>rfl|k+1,_::r=>xG (k:=k) (l:=r)
def gC(c:Ctx)(F:cF):Option AV->Value->Prop|none,v=>v=.none|some a,v=>VM c F v a
theorem xH{lo}(h:bnd d n lo=some a):∃li:Option Int,lo=li.map .int/\a=li.elim d (clipAt n):=by
 cases lo with
 |none=>exact⟨none,rfl,bD h Eq.symm⟩|some x=>
  refine aH (a8 h) λi e h=>⟨some i,congrArg some (du e),(bD h Eq.symm).trans ?_⟩;cases i with
  |ofNat k=>refine .trans ?_ (clipAt_nat n k).symm;show(match Nat.ble k n with|true=>k|false=>n)=_;cases q:Nat.ble k n with|true=>exact Vo (aa q)|false=>exact Vp λz=>by rw[bp z]at q;exact il q
  |negSucc k=>exact(clipAt_neg n (k+1) (Vq)).symm
theorem Br(n)(i):clipAt n i<=n:=by have:=clipAt_cast n i;exact Vr this
theorem vo{α:Type}{l r:List α}{lo hi}(h:eC l lo hi=some r):∃(li ui:Option Int),lo=li.map .int/\hi=ui.map .int/\
  r=(l.drop (li.elim 0 (clipAt l.length))).take (ui.elim l.length (clipAt l.length)-li.elim 0 (clipAt l.length)):=by
 refine aH (a8 h) λa ha h=>?_;refine aH (a8 h) λb hb h=>?_;refine aH (xH ha) λli e1 e3=>?_;refine aH (xH hb) λui e2 e4=>?_;exact⟨li,ui,e1,e2,by rw[←bD h id,e3,e4];exact List.drop_take⟩
theorem zt(h:gC c F (li.map .int) v):(li=none/\v=.none)∨∃i t,li=some i/\v=.int i t:=by cases li with|none=>exact .inl ⟨rfl,h⟩|some i=>have h:=h;exact h.dJ λt=>.inr ⟨_,_,rfl,rfl⟩
theorem lJ{c}{F}{li}{v}(h:gC c F (li.map .int) v):IsPart v li:=by
 refine Or.elim (zt h) (λoz=>?_) λoz=>?_;(revert oz;refine λoz=>aG oz λjx dN=>?_;subst jx dN);rotate_left;(revert oz;refine λoz=>bU oz λi t kO sy=>?_;subst kO sy);rotate_right
 ·exact .none
 ·exact .int _ _
theorem sf(h:k<n):seqIndex? (Int.ofNat k) n=some k:=by unfold seqIndex?;have e:(if Int.ofNat k<0 then Int.ofNat k+(n:Int)else Int.ofNat k)=(k:Int):=bi (by simp only[bj];exact Vs);simp only[e];rw[br (by rw[aV,cG,cG];exact Vt h e),Int.toNat_natCast]
theorem zu(h:k+1<=n):seqIndex? (Int.negSucc k) n=some (n-(k+1)):=by
 unfold seqIndex?;have e:(if Int.negSucc k<0 then Int.negSucc k+(n:Int)else Int.negSucc k)=((n-(k+1):Nat):Int):=by rw[br (by omega)];omega
 simp only[e];rw[br (by rw[aV,cG,cG];exact Vu h),Int.toNat_natCast]
theorem CI(l)(li ui):Txt.slice (bQ l) li ui=bQ ((l.drop (li.elim 0 (clipAt l.length))).take (ui.elim l.length (clipAt l.length)-li.elim 0 (clipAt l.length))):=by
 have cM:(bQ l).length=l.length:=by simp[Str.length]
 have e:Builtin.Str.strSliceIndices li ui 1 l.length=(List.range (ui.elim l.length (clipAt l.length)-li.elim 0 (clipAt l.length))).map (li.elim 0 (clipAt l.length)+·):=by
  have h1:Builtin.Str.strSliceIndices li ui 1 l.length=sliceRange (sliceBounds li ui none l.length).1 (sliceBounds li ui none l.length).2.1 (sliceBounds li ui none l.length).2.2:=by cases li<;>cases ui<;>rfl
  rw[h1,sliceBounds_plain];exact sliceRange_one _ _
 unfold Txt.slice;rw[cM,e];have hA:li.elim 0 (clipAt l.length)<=l.length:=by cases li with|none=>exact bo _|some i=>exact Br _ i
 have hB:ui.elim l.length (clipAt l.length)<=l.length:=by cases ui with|none=>exact aD _|some i=>exact Br _ i
 split
 ·rename_i q;simp only[bg,List.length_range,aV,df]at q;have q:=q.2;generalize li.elim 0 (clipAt l.length)=a at *;generalize ui.elim l.length (clipAt l.length)=b at *;by_cases z:l.length=0
  ·have:l=[]:=List.length_eq_zero_iff.mp z;subst this;simp
  ·have h1:a=0:=by omega
   have h2:b=l.length:=by omega
   subst h1;subst h2;simp
 ·have:=pick_run l.toArray (li.elim 0 (clipAt l.length)) (ui.elim l.length (clipAt l.length)-li.elim 0 (clipAt l.length));rw[show(bQ l).cps=l.toArray from rfl,this]
section
variable{nm:Nat->Str}{c:Ctx}{A:Around}{E:Value->Shared->Prop}{s:Shared}{F:cF}{g:G}{env:Env}{σ:Sg}{value slice:Expr}
theorem cW{T id}(hT:s.TypeIs o T)
  (hl:typeLookup (.type T) "__getitem__"=pure (some (.builtin id))) (hs:∀o i,∃ops,subscripted slice false o i=operate ops (getItem o i)) (hg:wpAny c.M A (getItem o i) Q E s):wpAny c.M A (subscriptTail value slice o i) Q E s:=by
 refine b0 (hs o i) λops hs=>tail_any (ops:=ops) hT hl hg hs
theorem CK(hs:∀o i,∃ops,subscripted slice false o i=operate ops (getItem o i))(I:Inv c F g s)(hx:VM c F v (.aT l))(hy:VM c F w (.int i))(h:Hq l i=some r):
  wpAny c.M A (subscriptTail value slice v w) (aE c F s env.locals g r) E s:=by
 refine hy.dJ λt=>hx.qj λa o vs n hF hc hd hn hvs=>?_;have ht:IsTup s.heap a vs:=⟨o,I.cE _ _ hF,hc,n,hd⟩;have hl:=hvs.length;rw[aW]at hl;cases i with|ofNat k=>have h:p7 k l=some r:=h;rw[iH]at h;refine aH (hvs.get h) λy h1 h2=>?_;have hk:=(List.getElem?_eq_some_iff.mp h).1;refine cW ht.typeIs slot_tuple_getitem.lookup hs (getItem_tuple (j:=k) (x:=y) ht (by simp only[bj];omega) (by simp only[bj];omega) ?_ (by simpa using h1) (aE.here h2 I));rw[hl];exact sf hk|negSucc k=>refine aG (dX h) λq h=>?_;have q:=aa q;rw[iH]at h;refine aH (hvs.get h) λy h1 h2=>cW ht.typeIs slot_tuple_getitem.lookup hs (getItem_tuple (j:=l.length-(k+1)) (x:=y) ht (by omega) (by omega) ?_ (by simpa using h1) (aE.here h2 I));rw[hl];exact zu q
theorem zv(hs:∀o i,∃ops,subscripted slice false o i=operate ops (getItem o i))(I:Inv c F g s)(hx:VM c F v (.list l))(hy:VM c F w (.int i))(h:Hq l i=some r):
  wpAny c.M A (subscriptTail value slice v w) (aE c F s env.locals g r) E s:=by
 refine hy.dJ λt=>hx.listE λa o vs n hF hc hd hn hvs=>?_;have ht:=I.isList hF hc hd;have hl:=hvs.length;rw[aW]at hl;cases i with|ofNat k=>have h:p7 k l=some r:=h;rw[iH]at h;refine aH (hvs.get h) λy h1 h2=>?_;have hk:=(List.getElem?_eq_some_iff.mp h).1;exact cW ht.typeIs slot_list_getitem.lookup hs (wpAny_getItem_list (x:=y) ht (by simp only[bj];exact Vv) (by simp only[bj];omega) (by simpa using h1) (aE.here h2 I))|negSucc k=>refine aG (dX h) λq h=>?_;have q:=aa q;rw[iH]at h;refine aH (hvs.get h) λy h1 h2=>cW ht.typeIs slot_list_getitem.lookup hs (wpAny_getItem_list_neg (x:=y) ht (by omega) (by omega) (by omega) ?_ (aE.here h2 I));rw[show(Int.negSucc k+(vs.size:Int)).toNat=l.length-(k+1)from by omega];simpa using h1
theorem Ki(hs:∀o i,∃ops,subscripted slice false o i=operate ops (getItem o i))(I:Inv c F g s)(hx:VM c F v x)(hy:VM c F i j)(h:O0 x j=some r):
  wpAny c.M A (subscriptTail value slice v i) (aE c F s env.locals g r) E s:=by
 cases x with
 |aT l=>refine aH (a8 h) λz e h=>?_;rw[du e]at hy;exact CK hs I hx hy h|list l=>refine aH (a8 h) λz e h=>?_;rw[du e]at hy;exact zv hs I hx hy h|str l=>
  refine aH (a8 h) λk e1 h=>aH (a8 h) λch e h=>?_;rw[gb e1]at hy;refine bD h λx=>?_;subst x;rw[xG]at e;have hk:=(List.getElem?_eq_some_iff.mp e).1;refine hy.dJ λu=>hx.i6 λt hn=>cW (typeIs_str _ _ _) PySem.F.slot_str_getitem.lookup hs (getItem_str (c:=ch) ?_ ?_ (aE.now (.str (l:=[ch]) (by simp)) I _))
  ·simp only[bj,Bool.or_eq_false_iff,decide_eq_false_iff_not];omega
  ·rw[show seqIndex? (Int.ofNat k) (bQ l).length=some k from by simp only[Str.length,bX];exact sf hk];simpa using e
 |dict l=>refine aH (a8 h) λy e h=>?_;rw[eP e]at hy;refine hy.i6 λu z_=>hx.vC λa o kvs hF hm hd hvs=>?_;have z:=qe hvs y;rw[h]at z;refine aH z λw h1 h2=>?_;have hd':=Heap.dictOf_iff.mpr ⟨o,I.cE _ _ hF,hd⟩;exact cW hd'.typeIs slot_dict_getitem.lookup hs (wpAny_getItem_of (k:=bQ y) (knd:=strKind c.prog c.w) (strKind_is _ _ _ _) hd'.mapOf h1 (aE.now h2 I _))|_=>exact aI h
theorem mf{lo hi}(e1:lo=li.map .int)(e2:hi=ui.map .int)(pl:gC c F' lo vl)(pu:gC c F' hi vu):IsPart vl li/\IsPart vu ui:=by subst e1;subst e2;exact⟨lJ pl,lJ pu⟩
noncomputable def dI(vl vu:Value):Obj:={cls:=.type "slice",data:=.fields #[vl,vu,.none]}
theorem CL(lo hi)(n:Nat):Builtin.Slice.sliceAdjust lo hi 1 (n:Int)=(((lo.elim 0 (clipAt n):Nat):Int),((hi.elim n (clipAt n):Nat):Int)):=by
 unfold Builtin.Slice.sliceAdjust;have h1:¬((1:Int)<0):=by omega
 cases lo<;>cases hi<;>simp only[Option.elim,clipAt_cast]<;>(congr 1<;>(try split)<;>(first|exact Vw ‹_›|exact Vx ‹_›))
theorem places_eq(a b:Nat):Builtin.Slice.slicePlaces (a:Int) (b:Int) 1=b-a:=by
 unfold Builtin.Slice.slicePlaces;have h1:(1:Int)>0:=by omega
 simp only[h1,if_true,Int.ediv_one]
 split<;>(first|exact Vy ‹_›|exact Vz ‹_›)
theorem ng(p:IsPart v li)(h:Q li s):wpAny c.M A (Builtin.Slice.slicePartIndex v) Q E s:=by cases p with|none=>exact slicePart_none h|int i t=>exact slicePart_int h
theorem oE{Q:Int×Int×Nat->Shared->Prop}(hs:s.heap.IsSliceOf sl vl vu .none)(pl:IsPart vl li)(pu:IsPart vu ui)
  (h:Q (((li.elim 0 (clipAt n):Nat):Int),1,ui.elim n (clipAt n)-li.elim 0 (clipAt n)) s):
  wpAny c.M A (Builtin.Slice.sliceApplied (.ref sl) (pure (n:Int))) Q E s:=by
 refine nE (id hs) λos hos hcs hds=>an (an (wpAny_field hos hds (x:=vl) rfl (an (wpAny_field hos hds (x:=vu) rfl (an (wpAny_field hos hds (x:=.none) rfl (aP ?_)))))));refine an (slicePart_none ?_);refine an (ng pl (an (ng pu (an (aP ?_)))));show wpAny _ _ (match Builtin.Slice.sliceAdjust li ui 1 (n:Int)with|(lo,hi)=>pure (lo,(1:Int),Builtin.Slice.slicePlaces lo hi 1)) _ _ s;rw[CL];show wpAny _ _ (pure (_,(1:Int),Builtin.Slice.slicePlaces _ _ 1)) _ _ s;rw[places_eq];exact aP h
theorem Gf(xs:Array Value)(a k:Nat):((List.range k).filterMap λ(i:Nat)=>xs[((a:Int)+(i:Int)*1).toNat]?).toArray=((xs.toList.drop a).take k).toArray:=by
 have e:(λ(i:Nat)=>xs[((a:Int)+(i:Int)*1).toNat]?)=λi=>xs[a+i]?:=by
  funext i;have:((a:Int)+(i:Int)*1).toNat=a+i:=by exact VA
  rw[this]
 rw[e];have:=pick_run xs a k;rw[List.filterMap_map]at this;have e2:((λx=>xs[x]?) ∘ λx=>a+x)=λk=>xs[a+k]?:=rfl;rw[e2]at this;rw[this]
theorem kT(ht:IsTup s.heap t items)(hs:s.heap.IsSliceOf sl vl vu .none)(pl:IsPart vl li)(pu:IsPart vu ui)
  (h:∀r,r=((items.toList.drop (li.elim 0 (clipAt items.size))).take (ui.elim items.size (clipAt items.size)-li.elim 0 (clipAt items.size)))->
   (r=items.toList->Q (.ref t) s)/\Q (.ref s.heap.objs.size) {s with heap:=s.heap.push {cls:=.type "tuple",data:=.seq r.toArray}})
  (hsz:items.size<=sizeLine):wpAny c.M A (getItem (.ref t) (.ref sl)) Q E s:=by
 refine aG (h _ rfl) λh1 h2=>?_;have hdrop:sizeOk (.seq ((items.toList.drop (li.elim 0 (clipAt items.size))).take (ui.elim items.size (clipAt items.size)-li.elim 0 (clipAt items.size))).toArray):=by show(List.toArray _).size<=sizeLine;rw[bX,cC,cD,aW];exact Mj hsz
 refine nE (id hs) λos hos hcs hds=>?_;have hTs:s.TypeIs (.ref sl) "slice":=⟨os,hos,hcs⟩;unfold getItem;try with_reducible refine wpAny_holding ?_
 first|refine an (aP ?_)|skip
 refine an (wpAny_sequenceKey ht.typeIs (by decide) ?_)
 refine an (wpAny_callSpecial?_slot (name:=Str.ofString "__getitem__") ht.typeIs slot_tuple_getitem
  (wpAny_call_entry slot_tuple_getitem ht.typeIs entry_tuple_getitem ?_ (args_tuple_getitem _ _)))
 show wpAny _ _ (Builtin.Tuple.tupleItemsOf (.ref t)>>=_) _ _ s;refine an (tupleItemsOf_ ht ?_);refine an (wpAny_typeOf hTs ?_);refine an (oE hs pl pu ?_);generalize hA:li.elim 0 (clipAt items.size)=a at *;generalize hB:ui.elim items.size (clipAt items.size)-a=k at *;show wpAny _ _ (if((a:Int)==0&&(1:Int)==1&&k==items.size)=true then _ else _) _ _ s;by_cases q:((a:Int)==0&&(1:Int)==1&&k==items.size)=true
 ·rw[br q];simp only[aV,df]at q;have qa:a=0:=by omega
  have:=h1 (by rw[qa,q.2,List.drop_zero];exact List.take_of_length_le (by simp));refine an<|an (wpAny_typeOf ht.typeIs (aP ?_))
  first
   |exact an (aP ⟨_,rfl,aP this⟩)
   |exact an (wpAny_rule (aP ⟨_,rfl,aP this⟩))
   |exact an (wpAny_rule (an (aP (aP ⟨_,rfl,aP this⟩))))
   |exact an (aP (an (aP (aP ⟨_,rfl,aP this⟩))))
 ·rw[bi q,Gf items a]
  first
   |exact an (m:=Builtin.Tuple.tupleExact _) (wpAny_newObj_type (aP ⟨_,rfl,aP h2⟩) hdrop)
   |exact an (m:=Builtin.Tuple.tupleExact _) (wpAny_newObj_type (an (aP (aP ⟨_,rfl,aP h2⟩))) hdrop)
   |exact an (an (m:=Builtin.Tuple.tupleExact _) (wpAny_newObj_type (aP (aP ⟨_,rfl,aP h2⟩)) hdrop))
   |exact an (an (m:=Builtin.Tuple.tupleExact _) (wpAny_newObj_type (aP ⟨_,rfl,aP h2⟩) hdrop))
theorem CM{vs:Array Value}(h:dh c F' vs.toList l)(a k):dh c F' (((vs.toList.drop a).take k).toArray).toList ((l.drop a).take k):=by rw[List.toList_toArray];exact(h.drop a).take k
theorem IT(hs:∀o i,∃ops,subscripted slice false o i=operate ops (getItem o i)){lo hi}(I:Inv c F g s)(pl:gC c F lo vl)(pu:gC c F hi vu)(hx:VM c F v (.str l))(e:eC l lo hi=some rr):wpAny c.M A (subscriptTail value slice v (.ref s.heap.objs.size)) (aE c F s env.locals g (.str rr)) E {s with heap:=s.heap.push (dI vl vu)}:=by
 have hsl:(s.heap.push (dI vl vu)).IsSliceOf s.heap.objs.size vl vu .none:=⟨_,be _ rfl,rfl,rfl⟩;refine dp (vo e) λli ui e1 e2 e3=>aG (mf e1 e2 pl pu) λp1 p2=>?_;rw[e3];refine hx.i6 λt hn=>?_;have ht:=CI l li ui;refine cW (typeIs_str _ _ _) PySem.F.slot_str_getitem.lookup hs ?_;have cM:(bQ l).length=l.length:=by simp[Str.length]
 have key:∀(t':Tok) (k:Nat),aE c F s env.locals g (.str ((l.drop (li.elim 0 (clipAt l.length))).take (ui.elim l.length (clipAt l.length)-li.elim 0 (clipAt l.length)))) (.str (Txt.slice (bQ l) li ui) t') {s with heap:=s.heap.push (dI vl vu),toks:=k}:=by intro t' k;rw[ht];have I2:=I.gc (dI vl vu) k;exact⟨F,XF.refl,.str (by rw[cC,cD];exact VB hn cM),I2.1,I2.2 _⟩
 cases p1 with
 |none=>cases p2 with|none=>exact(wpAny_getItem_str_slice (l:=none) (u:=none) (st:=none) hsl rfl (post_val_or_str ⟨aw (Txt.slice_le _ _ _) (by rw[cM,sizeLine_eq];omega),λt' k=>key t' k⟩))|int j u=>exact(wpAny_getItem_str_slice (l:=none) (u:=some (j,u)) (st:=none) hsl rfl (post_val_or_str ⟨aw (Txt.slice_le _ _ _) (by rw[cM,sizeLine_eq];omega),λt' k=>key t' k⟩))
 |int i u=>cases p2 with|none=>exact(wpAny_getItem_str_slice (l:=some (i,u)) (u:=none) (st:=none) hsl rfl (post_val_or_str ⟨aw (Txt.slice_le _ _ _) (by rw[cM,sizeLine_eq];omega),λt' k=>key t' k⟩))|int j u'=>exact(wpAny_getItem_str_slice (l:=some (i,u)) (u:=some (j,u')) (st:=none) hsl rfl (post_val_or_str ⟨aw (Txt.slice_le _ _ _) (by rw[cM,sizeLine_eq];omega),λt' k=>key t' k⟩))
theorem Gg(hs:∀o i,∃ops,subscripted slice false o i=operate ops (getItem o i)){lo hi:Option AV}(I:Inv c F g s)(pl:gC c F lo vl)(pu:gC c F hi vu)(hx:VM c F v (.list l))(e:eC l lo hi=some rr):wpAny c.M A (subscriptTail value slice v (.ref s.heap.objs.size)) (aE c F s env.locals g (.list rr)) E {s with heap:=s.heap.push (dI vl vu)}:=by have I1:=(I.gc (dI vl vu) s.toks);have hsl:(s.heap.push (dI vl vu)).IsSliceOf s.heap.objs.size vl vu .none:=⟨_,be _ rfl,rfl,rfl⟩;refine dp (vo e) λli ui e1 e2 e3=>aG (mf e1 e2 pl pu) λp1 p2=>?_;rw[e3];refine hx.listE λa o vs n hF hc hd hn hvs=>?_;have hl:=hvs.length;rw[aW]at hl;have ht:=I1.1.isList hF hc hd;refine cW (s:={s with heap:=s.heap.push (dI vl vu)}) ht.typeIs slot_list_getitem.lookup hs (wpAny_getItem_list_slice ht hsl p1 p2 .none (by simp) ?_ (by rw[hl,sizeLine_eq];exact BE hn hl));rw[slicePick_plain,hl];refine dy (I1.1.push {cls:=.type "list",data:=.seq ((vs.toList.drop (li.elim 0 (clipAt l.length))).take (ui.elim l.length (clipAt l.length)-li.elim 0 (clipAt l.length))).toArray} rfl s.toks) λJ1 J2 J3=>?_;refine⟨_,(⟨J2.ext,λb hb=>J2.low b (ia b hb)⟩:XF s F _),.list (b9 _ _ _) rfl rfl (by rw[cC,cD];exact QC hn hl) ?_,J1,(I1.2 _).trans (J3 _)⟩;exact CM (hvs.mono J2.ext) _ _
theorem IU(hs:∀o i,∃ops,subscripted slice false o i=operate ops (getItem o i)){lo hi}(I:Inv c F g s)(pl:gC c F lo vl)(pu:gC c F hi vu)(hx:VM c F v (.aT l))(e:eC l lo hi=some rr):wpAny c.M A (subscriptTail value slice v (.ref s.heap.objs.size)) (aE c F s env.locals g (.aT rr)) E {s with heap:=s.heap.push (dI vl vu)}:=by
 have I1:=(I.gc (dI vl vu) s.toks);have hsl:(s.heap.push (dI vl vu)).IsSliceOf s.heap.objs.size vl vu .none:=⟨_,be _ rfl,rfl,rfl⟩;refine dp (vo e) λli ui e1 e2 e3=>aG (mf e1 e2 pl pu) λp1 p2=>?_;rw[e3];refine hx.qj λa o vs n hF hc hd hn hvs=>?_;have hl:=hvs.length;rw[aW]at hl;have ht:IsTup (s.heap.push (dI vl vu)) a vs:=⟨o,I1.1.cE _ _ hF,hc,n,hd⟩;refine cW (s:={s with heap:=s.heap.push (dI vl vu)}) ht.typeIs slot_tuple_getitem.lookup hs (kT ht hsl p1 p2 (λr hr=>?_) (by rw[hl,sizeLine_eq];exact BE hn hl));rw[hl]at hr;have len2:((l.drop (li.elim 0 (clipAt l.length))).take (ui.elim l.length (clipAt l.length)-li.elim 0 (clipAt l.length))).length<=1048576:=by rw[cC,cD];exact QC hn hl
 have V:∀F',dh c F' vs.toList l->dh c F' r ((l.drop (li.elim 0 (clipAt l.length))).take (ui.elim l.length (clipAt l.length)-li.elim 0 (clipAt l.length))):=λF' hv=>by rw[hr];exact(hv.drop _).take _
 constructor
 ·intro e;have:=V F hvs;rw[e]at this;exact⟨F,XF.refl,.aT hF hc hd len2 this,I1.1,I1.2 _⟩
 ·refine dy (I1.1.push {cls:=.type "tuple",data:=.seq r.toArray} rfl s.toks) λJ1 J2 J3=>⟨_,(⟨J2.ext,λb hb=>J2.low b (ia b hb)⟩:XF s F _),.aT (b9 _ _ _) rfl rfl len2 ?_,J1,(I1.2 _).trans (J3 _)⟩;rw[List.toList_toArray];exact V _ (hvs.mono J2.ext)
theorem xX(hs:∀o i,∃ops,subscripted slice false o i=operate ops (getItem o i)){lo hi}(I:Inv c F g s)(hx:VM c F v x)(pl:gC c F lo vl)(pu:gC c F hi vu)(h:sD x lo hi=some r):
  wpAny c.M A (subscriptTail value slice v (.ref s.heap.objs.size)) (aE c F s env.locals g r) E {s with heap:=s.heap.push (dI vl vu)}:=
 Lu h (λl q e h r=>r▸IT hs I pl pu (e▸hx) h) (λl q e h r=>r▸Gg hs I pl pu (e▸hx) h) (λl q e h r=>r▸IU hs I pl pu (e▸hx) h)
end
structure nu(nm:Nat->Str):Prop where
 n0:nm 0=Str.ofString "kind"
 n1:nm 1=Str.ofString "worth"
 n2:nm 2=Str.ofString "at"
 n3:nm 3=Str.ofString "tokens"
 n4:nm 4=Str.ofString "named"
 n5:nm 5=Str.ofString "reader"
 n6:nm 6=Str.ofString "is_named"
 n7:nm 7=Str.ofString "depth"
 n8:nm 8=Str.ofString "last"
 n10:nm 10=Str.ofString "join"
 YJ:nm 11=Str.ofString "replace"
 n12:nm 12=Str.ofString "split"
 n13:nm 13=Str.ofString "startswith"
 n14:nm 14=Str.ofString "lower"
 n15:nm 15=Str.ofString "upper"
 n16:nm 16=Str.ofString "index"
 n17:nm 17=Str.ofString "get"
 n18:nm 18=Str.ofString "append"
 n19:nm 19=Str.ofString "extend"
 inj:∀i j,nm i=nm j->i=j
noncomputable def gX(K:Frag)(C:Addr)(n:Str):Bool:=plainGet K C n&&hasDictIn K C&&(findIn K (.ref C) n==some none)
noncomputable def setOk(K:Frag)(C:Addr)(n:Str):Bool:=(findIn K (.ref C) "__setattr__"==some (some (.builtin "object.__setattr__")))&&plainOver K C&&(takerIn K C n==some none)&&hasDictIn K C
structure gD(nm:Nat->Str)(c:Ctx):Prop where
 xM:c.K.In c.base
 tok:∀a,a<=1->gX c.K 157 (nm a)=true
 rd:∀a,2<=a->a<=4->gX c.K 811 (nm a)=true
 cd:∀a,5<=a->a<=8->gX c.K 470 (nm a)=true
 Sd:setOk c.K 811 (nm 2)=true
 Se:setOk c.K 470 (nm 8)=true
theorem gR(name)(h:gI es ps):getL name es=some ((ps.find? (·.1==name)).map (·.2)):=by
 induction es generalizing ps with
 |nil=>cases ps with|nil=>rfl|cons p ps=>exact h.elim
 |cons e es ih=>cases ps with
  |nil=>exact h.elim|cons p ps=>
   obtain⟨⟨t,h1⟩,h2,h3⟩:=h;have ih:=ih h3;unfold getL at ih ⊢;have hk:e.key.isStr name=(p.1==name):=by rw[h1];rfl
   have hr:e.refKey=false:=by unfold DictEntry.refKey;rw[h1]
   rw[List.find?_cons,List.find?_cons,List.any_cons,hk,hr];cases q:(p.1==name)with|true=>simp[h2]|false=>simpa using ih
theorem hO(h:gI es ps):es.length=ps.length:=by
 induction es generalizing ps with
 |nil=>cases ps with|nil=>rfl|cons p ps=>exact h.elim
 |cons e es ih=>cases ps with|nil=>exact h.elim|cons p ps=>rw[ac,ac,ih h.2.2]
noncomputable def Cq(name:Str)(v:Value):List (Str×Value)->List (Str×Value)|[]=>[]|p::r=>if p.1=name then(p.1,v)::r else p::Cq name v r
theorem Fw:Cq name v (p::r)=if p.1=name then(p.1,v)::r else p::Cq name v r:=rfl
theorem Cr(name:Str)(hsh:Int)(key v:Value)(h:gI es ps)(hm:name∈ps.map (·.1)):gI (putL name hsh key v es) (Cq name v ps):=by
 induction es generalizing ps with
 |nil=>cases ps with|nil=>cases hm|cons p ps=>exact h.elim
 |cons e es ih=>cases ps with
  |nil=>exact h.elim|cons p ps=>
   obtain⟨⟨t,h1⟩,h2,h3⟩:=h;have hk:e.key.isStr name=(p.1==name):=by rw[h1];rfl
   unfold putL;rw[Fw];rw[hk];by_cases q:p.1=name
   ·rw[br q,br (df.mpr q)];exact⟨⟨t,h1⟩,rfl,h3⟩
   ·rw[bi q,bi (by simpa using q)];refine⟨⟨t,h1⟩,h2,ih h3 ?_⟩;rw[aC,am]at hm;exact hm.resolve_left λz=>q z.symm
section
variable{nm:Nat->Str}{c:Ctx}{A:Around}{E:Value->Shared->Prop}{s:Shared}{F:cF}{g:G}{env:Env}{σ:Sg}
theorem Inv.xM(I:Inv c F g s)(k:gD nm c):c.K.In s.heap:=k.xM.keeps λz_ z_ e=>I.cE _ _ (I.base _ _ e)
theorem fc{ex}(X:c.K.In s.heap)(h1:s.heap.get? a=some (instObj C d))(h2:s.heap.get? d=some (dictOf es n))(he:gI es ps)
  (hg:gX c.K C name=true) (hp:(ps.find? (·.1==name)).map (·.2)=some v) (hv:handedIn v=true) (hQ:Q v {s with toks:=s.toks+1}):
  wpAny c.M A (getAttr (.ref a) name ex) Q E s:=by
 unfold gX at hg;simp only[aV,df]at hg;have I:InstAt s.heap a (instObj C d) C (some (dictOf es n)):=⟨h1,rfl,rfl,h2⟩;refine get_value X I (plainGet_of hg.1.1).1 (findObj_own hg.1.2 hg.2 rfl ?_) hv hQ;rw[lookIn_dict,gR _ he,hp]
set_option tactic.hygienic true in
theorem gS(h:VM c F v a)(ha:∀k,a≠.fn k):handedIn v=true:=by
 induction h using VM.casesOn<;>first|rfl|skip
 ·exact bc rfl (ha _)
 ·rename_i k h
  match k,h with|0,h|1,h|2,h|3,h|4,h=>exact aH (aX.mp h) λz_ z_ e=>e▸rfl|_+5,h=>exact aI h
theorem Fy(N:nu nm)(k:gD nm c){v}(I:Inv c F g s)(hx:VM c F v (.tok kd wt))(h:Jq kd wt a=some r):
  wpAny c.M A (getAttr v (nm a) true) (aE c F s env.locals g r) E s:=by
 have X:=I.xM k;refine hx.Pw λad d es n t1 t2 v3 v4 hF hd he hk hw=>?_
 match a,h with|0,h=>refine bD h λx=>?_;subst x;exact fc X (I.cE _ _ hF) (I.cE _ _ hd) he (k.tok 0 (mC rfl)) (v:=.str (bQ _) t1) (by rw[N.n0];rfl) rfl (aE.now (.str hk) I _)|1,h=>refine bD h λx=>?_;subst x;exact fc X (I.cE _ _ hF) (I.cE _ _ hd) he (k.tok 1 (mC rfl)) (v:=.str (bQ _) t2) (by rw[N.n1];rfl) rfl (aE.now (.str hw) I _)|_+2,h=>exact aI h
theorem Fz(N:nu nm)(k:gD nm c){v:Value}(I:Inv c F g s)(hx:VM c F v (.sp 1))(h:D8 g a=some r):
  wpAny c.M A (getAttr v (nm a) true) (aE c F s env.locals g r) E s:=by
 have X:=I.xM k;have hs:(c.rd.map λx=>Value.ref x.1)=some v:=hx.zz λh=>h;rw[aX]at hs;(clear hx;obtain⟨⟨rr,d,tl,nd⟩,q,rfl⟩:=hs);obtain⟨es,n,p,t,h1,h2,h3,h4,h5,h6,h7,h8⟩:=I.d7.rd _ _ _ _ q
 match a,h with|2,h=>refine bD h λx=>?_;subst x;exact fc X (I.cE _ _ h6) h1 h3 (k.rd 2 (mC rfl) (mC rfl)) (v:=.int (p:Int) t) (by rw[N.n2];rfl) rfl (aE.now (VM.pos (k:=0) (rem:=g.rem) p h4 h5) I _)|3,h=>refine bD h λx=>?_;subst x;refine fc X (I.cE _ _ h6) h1 h3 (k.rd 3 (mC rfl) (mC rfl)) (v:=.ref tl) (by rw[N.n3];rfl) rfl (aE.now (.sp ?_) I _);show c.rd.map _=_;rw[q];rfl|4,h=>refine bD h λx=>?_;subst x;exact fc X (I.cE _ _ h6) h1 h3 (k.rd 4 (mC rfl) (mC rfl)) (v:=.ref nd) (by rw[N.n4];rfl) rfl (aE.now h8 I _)|0,h=>exact aI h|1,h=>exact aI h|_+5,h=>exact aI h
theorem FA(N:nu nm)(k:gD nm c){v:Value}(I:Inv c F g s)(hx:VM c F v (.sp 3))(h:D9 g a=some r):
  wpAny c.M A (getAttr v (nm a) true) (aE c F s env.locals g r) E s:=by
 have X:=I.xM k;have hs:(c.cd.map λx=>Value.ref x.1)=some v:=hx.zz λh=>h;rw[aX]at hs;(clear hx;obtain⟨⟨x,d⟩,q,rfl⟩:=hs);obtain⟨es,n,vr,vn,vd,vl,h1,h2,h3,h4,h5,h6,h7,h8,h9⟩:=I.d7.cd _ _ q
 match a,h with|5,h=>refine bD h λx=>?_;subst x;exact fc X (I.cE _ _ h8) h1 h3 (k.cd 5 (mC rfl) (by exact mC rfl)) (v:=vr) (by rw[N.n5];rfl) (gS h4 λz_ e=>AV.noConfusion e) (aE.now h4 I _)|6,h=>refine bD h λx=>?_;subst x;exact fc X (I.cE _ _ h8) h1 h3 (k.cd 6 (mC rfl) (by exact mC rfl)) (v:=vn) (by rw[N.n6];rfl) (gS h5 λz_ e=>AV.noConfusion e) (aE.now h5 I _)|7,h=>refine bD h λx=>?_;subst x;exact fc X (I.cE _ _ h8) h1 h3 (k.cd 7 (mC rfl) (by exact mC rfl)) (v:=vd) (by rw[N.n7];rfl) (gS h6 λz_ e=>AV.noConfusion e) (aE.now h6 I _)|8,h=>refine bD h λx=>?_;subst x;exact fc X (I.cE _ _ h8) h1 h3 (k.cd 8 (mC rfl) (mC rfl)) (v:=vl) (by rw[N.n8];rfl) h9 (aE.now h7 I _)|0,h=>exact aI h|1,h=>exact aI h|2,h=>exact aI h|3,h=>exact aI h|4,h=>exact aI h|_+9,h=>exact aI h
theorem GC(N:nu nm)(k:gD nm c){v:Value}(I:Inv c F g s)(hx:VM c F v x)(h:DO g x a=some r):
  wpAny c.M A (getAttr v (nm a) true) (aE c F s env.locals g r) E s:=by
 cases x with
 |tok kd wt=>exact Fy N k I hx h|sp j=>have h:(match Nat.beq j 1 with|true=>D8 g a|false=>grd (Nat.beq j 3) (D9 g a))=some r:=h;cases q:Nat.beq j 1 with|true=>rw[q]at h;rw[aj q]at hx;exact Fz N k I hx h|false=>rw[q]at h;refine aG (dX h) λq h=>?_;rw[aj q]at hx;exact FA N k I hx h
 |_=>exact aI h
set_option tactic.hygienic true in
theorem Cs(L)(h):((led c L h).map (·.1)).Nodup:=by
 unfold led;rw[List.map_filterMap];refine List.Nodup.sublist ?_ (List.nodup_range (n:=h.objs.size));have:∀l:List Nat,List.Sublist (List.filterMap (λx=>Option.map (λx=>x.fst) (if x=L∨(c.base.get? x).isSome=true then none else Option.map (λo=>(x,o)) (h.get? x))) l) l:=by
  intro l;induction l with
  |nil=>exact .slnil|cons x l ih=>
   rw[List.filterMap_cons]
   split
   ·exact .cons _ ih
   ·rename_i b e;have:b=x:=by
     split at e
     ·exact aI e
     ·rw[Option.map_map,aX]at e;refine aH e λz_ z_ e=>e.symm
    (clear e;subst this);exact .cons_cons _ ih
 exact this _
theorem sY(h1:s.heap.get? d=some od)(h2:d≠L)(h3:c.base.get? d=none):
  ∃pre post,led c L s.heap=pre++(d,od)::post/\(∀p∈pre,p.1≠d)/\∀p∈post,p.1≠d:=by
 have hm:=pT.mpr ⟨h1,h2,h3⟩;refine nA (List.append_of_mem hm) λpre post e=>⟨pre,post,e,?_⟩;have nd:=Cs (c:=c) L s.heap;rw[e,List.map_append,aC,aO]at nd;refine dy nd λz_ n2 n3=>?_;rw[cn]at n2;refine⟨λp hp q=>n3 _ (cj hp) _ (.head _) q,λp hp q=>n2.1 (q▸(cj (f:=λx:Addr×Obj=>x.1) hp:p.1∈_))⟩
theorem zS(I:Inv c F g s)(hn:s.heap.Ns L m)(hL:F L=none)
  (e:led c L s.heap=pre++(d,od)::post)
  (F':Fr c.base L h' m) (N':News c.base L h' (pre++(d,od')::post)):(∀b o,b≠L->b≠d->s.heap.get? b=some o->h'.get? b=some o)/\h'.get? d=some od'/\
  (∀b,(s.heap.get? b).isSome=true->(h'.get? b).isSome=true):=by
 have kp:∀b o,b≠L->b≠d->s.heap.get? b=some o->h'.get? b=some o:=λb o h1 h2 q=>by
  cases z:c.base.get? b with
  |some x=>have:=I.cE _ _ (I.base _ _ z);rw[this]at q;(refine bD q λx=>?_;subst x);exact F'.keep _ _ z|none=>
   have hm:=pT.mpr ⟨q,h1,z⟩;rw[e]at hm;refine Or.elim (eB.mp hm) (λhm=>?_) λhm=>?_
   ·exact(N' _ (List.mem_append_left _ hm)).1
   ·refine Or.elim (am.mp hm) (λhm=>?_) λhm=>?_
    ·exact bc (congrArg (·.1) hm) h2
    ·exact(N' _ (aZ _ (.tail _ hm))).1
 have hd:=(N' _ (aZ _ (.head _))).1;refine⟨kp,hd,λb q=>?_⟩;by_cases q1:b=L
 ·(clear hn hL e N';subst q1);exact gp F'.ns
 ·by_cases q2:b=d
  ·(clear e N';subst q2);rw[hd];rfl
  ·refine b0 (bu q) λo q=>?_;rw[kp b o q1 q2 q];rfl
inductive rV(c:Ctx)(F:cF)(s:Shared)(L:Addr)(g:G)(s':Shared):Prop
 |mk(F':cF)(x:XF s F F')(i:Inv c F' g s')(y:eZ c L s s')
theorem xl:∀{k:Nat} {l r:List AV},D7 k l=some r->k<=l.length/\r=l.drop k|0,l,r,h=>by(refine bD h λx=>?_;subst x);exact⟨bo _,rfl⟩|k+1,[],r,h=>by exact aI h|k+1,_::l,r,h=>by refine aG (xl (k:=k) (l:=l) h) λh1 h2=>?_;exact⟨by rw[ac];exact Ky h1,h2⟩
theorem Ct(I:Inv c F g s)(hb:b∈c.mu):c.base.get? b=none:=by cases z:c.base.get? b with|none=>rfl|some x=>have:=I.base _ _ z;rw[I.apart _ hb]at this;exact aI this
theorem xm(name)(v):∀ps:List (Str×Value),(Cq name v ps).length=ps.length
 |[]=>rfl|p::ps=>by
  rw[Fw];by_cases q:p.1=name
  ·rw[br q];rfl
  ·rw[bi q];exact congrArg Nat.succ (xm name v ps)
theorem xn(nd:c.mu.Nodup){r d tl n x d':Addr}(h1:c.rd=some (r,d,tl,n))(h2:c.cd=some (x,d')):d≠d':=by unfold Ctx.mu at nd;rw[h1,h2,aO]at nd;intro e;have nd:=nd.2.1;rw[aO]at nd;exact nd.2.2 d (by simp) d (by simp[e]) rfl
theorem tK(nd:c.mu.Nodup){r d tl n b}(h1:c.rd=some (r,d,tl,n))(h2:c.box=some b):b≠d:=by unfold Ctx.mu at nd;rw[h1,h2,aO]at nd;exact λe=>nd.2.2 b (by simp) b (by simp[e]) rfl
theorem tM(nd:c.mu.Nodup)(h1:c.cd=some (x,d))(h2:c.box=some b):b≠d:=by unfold Ctx.mu at nd;rw[h1,h2,aO]at nd;exact λe=>nd.2.2 b (by simp) b (by simp[e]) rfl
theorem Cu(nd:c.mu.Nodup){r d tl n P}(h1:c.rd=some (r,d,tl,n))(h2:(P,p,q)∈c.tabs):P≠d:=by unfold Ctx.mu at nd;rw[h1,aO]at nd;intro e;have nd:=nd.2.1;rw[aO]at nd;exact nd.2.2 d (by simp) P (aZ _ (cj (f:=(·.1)) h2)) e.symm
theorem Cv(nd:c.mu.Nodup)(h1:c.cd=some (x,d))(h2:(P,p,q)∈c.tabs):P≠d:=by unfold Ctx.mu at nd;rw[h1,aO]at nd;intro e;have nd:=nd.2.1;rw[aO]at nd;have nd:=nd.2.1;rw[aO]at nd;exact nd.2.2 d (by simp) P (cj (f:=(·.1)) h2) e.symm
theorem zn(nd:c.mu.Nodup)(h1:c.box=some b)(h2:(P,p,q)∈c.tabs):P≠b:=by unfold Ctx.mu at nd;rw[h1,aO]at nd;exact λe=>nd.2.2 b (by simp) P (aZ _ (aZ _ (cj (f:=(·.1)) h2))) e.symm
theorem Bf(X:c.K.In s.heap)(I:Inv c F g s)(f:ax nm c env F σ s)(hd:d∈c.mu)(h1:s.heap.get? xa=some (instObj C d))(h2:s.heap.get? d=some (dictOf es n))(he:gI es ps)(hz:es.length<=10)
  (hm:name∈ps.map (·.1)) (hs:setOk c.K C name=true)
  (hI:∀es' n' h',gI es' (Cq name v ps)->es'.length<=10->h'.get? d=some (dictOf es' n')->(∀b o,b≠env.locals->b≠d->s.heap.get? b=some o->h'.get? b=some o)->gG c g' F h'):
  wpAny c.M A (setAttr (.ref xa) name v) (λz_=>rV c F s env.locals g') E s:=by
 refine aH (ud I f) λm hn xL=>?_;unfold setOk at hs;simp only[aV,df]at hs;have hdL:d≠env.locals:=λq=>f.cR (q▸hd);refine dp (sY (L:=env.locals) h2 hdL (Ct I hd)) λpre post e p1 p2=>?_;have II:InstAt s.heap xa (instObj C d) C (some (dictOf es n)):=⟨h1,rfl,rfl,h2⟩;have N0:=mw c env.locals s.heap;rw[e]at N0;have E1:=Cr name (PyData.keyHash c.w.params name) (.str name (s.toks+1)) v he hm;have cM:(PySem.W.putL name (PyData.keyHash c.w.params name) (.str name (s.toks+1)) v es).length<=10:=by rw[hO E1,xm,←hO he];exact hz
 refine set_plain X II hs.1.1.1 (osa_dict (s:={s with toks:=s.toks+1}) xL N0 X II rfl hs.1.1.2 hs.1.2 hs.2 ?_ p1 p2 (by rw[putName_dict]) rfl (aw cM (mC rfl)) λh' F' N'=>?_)
 ·rw[lookIn_dict,gR _ he];rfl
 ·refine dy (zS I hn f.fN e F' N') λk1 k2 k3=>?_;refine⟨F,XF.refl,⟨λb o e=>?_,I.base,I.apart,hI _ _ h' E1 cM k2 k1,I.fJ⟩,⟨λb o q1 q2 q3=>k1 b o q2 (λz=>q1 (z▸hd)) q3,λm' x=>by rw[eU x hn];exact F'.ns,k3,rfl,rfl⟩⟩;exact k1 b o (λq=>by rw[q,f.fN]at e;exact aI e) (λq=>by rw[q,I.apart _ hd]at e;exact aI e) (I.cE _ _ e)
theorem IJ(N:nu nm)(k:gD nm c){o v}(I:Inv c F g s)(f:ax nm c env F σ s)(hx:VM c F o (.sp 1))(hy:VM c F v y)(h:Pd g y=some g'):
  wpAny c.M A (setAttr o (nm 2) v) (λz_=>rV c F s env.locals g') E s:=by
 obtain⟨⟨r,kk⟩,q0,h⟩:=a8 h;refine aH (a8 h) λr' hdrop h=>?_;refine bD h λx=>?_;subst x;rw[zA q0]at hy;refine aG (xl hdrop) λe1 e2=>?_;have hs:(c.rd.map λx=>Value.ref x.1)=some o:=hx.zz λh=>h;rw[aX]at hs;(clear hx;obtain⟨⟨rr,d,tl,nd⟩,q,rfl⟩:=hs);obtain⟨es,n,p,t,h1,h2,h3,h4,h5,h6,h7,h8⟩:=I.d7.rd _ _ _ _ q;refine hy.xW λp' t' hp' hr'=>?_;refine Bf (I.xM k) I f (yS q) (I.cE _ _ h6) h1 h3 h2 (by rw[N.n2];exact .tail _ (.head _)) k.Sd λes' n' h' E' hz' hd' k1=>?_;refine⟨λr1 d1 tl1 nd1 q1=>?_,I.d7.cd.mono (Ext.refl F) λz_ z_ q1 o=>k1 _ o (λz=>f.cR (z▸yT q1)) (λz=>xn I.fJ q q1 z.symm),I.d7.box.mono (Ext.refl F) λz_ q1 o=>k1 _ o (λz=>f.cR (z▸kJ q1)) (tK I.fJ q q1),I.d7.tab.mono (Ext.refl F) λz_ z_ z_ q1 o=>k1 _ o (λz=>f.cR (z▸uI q1)) (Cu I.fJ q q1)⟩;rw[q]at q1;cases q1;rw[N.n2]at E';refine⟨es',n',p'+kk,_,hd',hz',E',?_,?_,h6,h7,h8⟩
 ·skip;rw[e2,cD];have hp':=hp';have e1:=e1;exact VD ‹_› ‹_› hp'
 ·skip;rw[←List.drop_drop,hr',e2]
theorem Bg(N:nu nm)(k:gD nm c){o v}(I:Inv c F g s)(f:ax nm c env F σ s)(hx:VM c F o (.sp 3))(hy:VM c F v y)(hh:handedIn v=true):
  wpAny c.M A (setAttr o (nm 8) v) (λz_=>rV c F s env.locals {g with last:=y}) E s:=by
 have hs:(c.cd.map λx=>Value.ref x.1)=some o:=hx.zz λh=>h;rw[aX]at hs;(clear hx;obtain⟨⟨xx,d⟩,q,rfl⟩:=hs);obtain⟨es,n,vr,vn,vd,vl,h1,h2,h3,h4,h5,h6,h7,h8,h9⟩:=I.d7.cd _ _ q;refine Bf (I.xM k) I f (yT q) (I.cE _ _ h8) h1 h3 h2 (by rw[N.n8];exact .tail _ (.tail _ (.tail _ (.head _)))) k.Se λes' n' h' E' hz' hd' k1=>?_;refine⟨I.d7.rd.mono (Ext.refl F) λz_ z_ z_ z_ q1 o=>k1 _ o (λz=>f.cR (z▸yS q1)) (λz=>xn I.fJ q1 q z),λy d1 q1=>?_,I.d7.box.mono (Ext.refl F) λz_ q1 o=>k1 _ o (λz=>f.cR (z▸kJ q1)) (tM I.fJ q q1),I.d7.tab.mono (Ext.refl F) λz_ z_ z_ q1 o=>k1 _ o (λz=>f.cR (z▸uI q1)) (Cv I.fJ q q1)⟩;rw[q]at q1;(refine fS q1 λx y=>?_;subst x y);rw[N.n8]at E';exact⟨es',n',vr,vn,vd,v,hd',hz',E',h4,h5,h6,hy,h8,hh⟩
theorem IK(N:nu nm)(k:gD nm c)(I:Inv c F g s)(f:ax nm c env F σ s)(hx:VM c F o x)(hy:VM c F v y)(h:DP g x a y=some g'):
  wpAny c.M A (setAttr o (nm a) v) (λz_=>rV c F s env.locals g') E s:=by
 unfold DP at h;cases q:Nat.beq a 2 with|true=>rw[q]at h;refine aG (dX h) λq1 h=>?_;rw[pI q1]at hx;rw[aj q];exact IJ N k I f hx hy h|false=>rw[q]at h;refine aG (dX h) λq1 h=>?_;rw[aV]at q1;rw[pI q1.2]at hx;rw[aj q1.1];cases y with|none=>(refine bD h λx=>?_;subst x);exact Bg N k I f hx hy (gS hy λz_ e=>AV.noConfusion e)|aT l=>(refine bD h λx=>?_;subst x);exact Bg N k I f hx hy (gS hy λz_ e=>AV.noConfusion e)|_=>exact aI h
end
end
section
open PySem PySem.W PyProof.Rows PySem.Calls PySem.Builtin.Str
theorem join_eq(s):∀xs:List (List Nat),Str.join (bQ s) (xs.map bQ)=bQ (cN s xs)|[]=>rfl|[x]=>rfl|x::y::r=>by show(bQ x)++(bQ s)++Str.join (bQ s) ((y::r).map bQ)=_;rw[join_eq s (y::r),vw,vw,ay];rfl
theorem tn(s):∀xs:List (List Nat),(xs.map List.length).sum+xs.length*s.length<=(cN s xs).length+s.length|[]=>by simp[cN]|[x]=>by simp[cN]|x::y::r=>by have ih:=tn s (y::r);show _<=(x++(s++cN s (y::r))).length+s.length;rw[ae,ae,aC,List.sum_cons,ac,Nat.succ_mul];exact VE ih
theorem kt:bT c (x::r)=match Nat.beq x c with|true=>[]::bT c r|false=>match bT c r with|[]=>[[x]]|h::t=>(x::h)::t:=rfl
theorem ub(c:Nat):∀x,bT c x≠[]|[]=>List.cons_ne_nil _ _|x::r=>by rw[kt];cases Nat.beq x c with|true=>exact List.cons_ne_nil _ _|false=>cases bT c r with|nil=>exact List.cons_ne_nil _ _|cons h t=>exact List.cons_ne_nil _ _
theorem gP(c):∀(x:List Nat) (ps:List (List Nat)),ps≠[]->(∀p∈ps,c∉p)->cN [c] ps=x->ps=bT c x
 |[],ps,hne,hf,hj=>by match ps,hne with|[p],_=>have:p=[]:=hj;subst this;rfl|p::q::r,_=>exfalso;have:p++([c]++cN [c] (q::r))=[]:=hj;simp at this
 |a::x,ps,hne,hf,hj=>by
  rw[kt]
  match ps,hne with
  |[p],_=>
   have hp:=hj;subst hp;have hc:=hf _ (.head _);rw[am,not_or]at hc;have hb:Nat.beq a c=false:=by cases z:Nat.beq a c with|false=>rfl|true=>exact bc (c0.mp z).symm hc.1
   rw[hb];have:=gP c x [x] (by simp) (by simpa using hc.2) rfl;rw[←this]
  |p::q::r,_=>
   have hj:=hj;have hp:=hf p (.head _);cases p with
   |nil=>have e1:=(eO hj).1;have e2:=(eO hj).2;rw[c0.mpr e1.symm];have:=gP c x (q::r) (by simp) (λp' h=>hf p' (.tail _ h)) e2;rw[←this]|cons b p=>
    have e1:=(eO hj).1;have e2:=(eO hj).2;(clear hj;subst e1);rw[am,not_or]at hp;have hb:Nat.beq b c=false:=by cases z:Nat.beq b c with|false=>rfl|true=>exact bc (c0.mp z).symm hp.1
    rw[hb];have:=gP c x (p::q::r) (by simp) (λp' h=>by
     (clear hj;(refine Or.elim (am.mp h) (λoz=>?_) λh=>?_;(subst oz)))
     ·exact hp.2
     ·exact hf p' (.tail _ h)) e2
    rw[←this]
theorem toL:bQ p.cps.toList=p:=by cases p;rfl
theorem wM(x)(c):Txt.split (bQ x) ⟨#[c]⟩=(bT c x).map bQ:=by
 have h1:=StrLaws.join_split (bQ x) ⟨#[c]⟩;have h2:=StrLaws.split_free (bQ x) c;have h3:Txt.split (bQ x) ⟨#[c]⟩≠[]:=by
  intro e;rw[e]at h1;have hx:x=[]:=by have:=congrArg (λs:Str=>s.cps.toList) h1;simpa [Str.join,Str.empty]using this.symm
  subst hx;have:Txt.split (bQ []) ⟨#[c]⟩=[bQ []]:=by unfold Txt.split;rw[br];rw[Bool.or_eq_true];left;rfl
  rw[this]at e;cases e
 have e:(Txt.split (bQ x) ⟨#[c]⟩)=((Txt.split (bQ x) ⟨#[c]⟩).map λp=>p.cps.toList).map bQ:=by
  rw[List.map_map];have:(bQ ∘ λp:Str=>p.cps.toList)=id:=by funext p;exact toL
  rw[this,List.map_id]
 have hs:=gP c x ((Txt.split (bQ x) ⟨#[c]⟩).map λp=>p.cps.toList) (by simpa using h3) (by
  intro p hp;refine aH (cI.mp hp) λq hq kO=>?_;subst kO;exact h2 q hq) (by
  have:=join_eq [c] ((Txt.split (bQ x) ⟨#[c]⟩).map λp=>p.cps.toList);rw[←e]at this;have h1':=h1;rw[h1']at this;have:=congrArg (λs:Str=>s.cps.toList) this;simpa using this.symm)
 rw[e,hs]
theorem qc(c)(y):∀x:List Nat,cN y (bT c x)=cT c y x
 |[]=>rfl|a::x=>by
  have ih:=qc c y x;rw[kt];show _=match Nat.beq a c with|true=>y++cT c y x|false=>a::cT c y x
  cases h:Nat.beq a c with
  |true=>cases q:bT c x with|nil=>exact bc q (ub c x)|cons p r=>rw[q]at ih;show[]++(y++cN y (p::r))=_;rw[ih];rfl
  |false=>cases q:bT c x with|nil=>exact bc q (ub c x)|cons p r=>rw[q]at ih;cases r with|nil=>show a::p=_;rw[←ih];rfl|cons p' r=>show(a::p)++_=_;rw[←ih];rfl
theorem xZ(x y)(c):Txt.replace (bQ x) ⟨#[c]⟩ (bQ y)=bQ (cT c y x):=by rw[StrLaws.replace_one,wM,join_eq,qc]
theorem lN(c:Nat):∀x:List Nat,(bT c x).length<=x.length+1|[]=>aD 1|a::x=>by have ih:=lN c x;rw[kt];cases Nat.beq a c with|true=>exact bV ih|false=>cases e:bT c x with|nil=>exact bV (bo _)|cons h t=>rw[e]at ih;exact Nat.le_succ_of_le ih
theorem rF(c:Nat):∀x:List Nat,∀p∈bT c x,p.length<=x.length
 |[],p,h=>by cases aR.mp h;exact aD 0|a::x,p,h=>by
  have ih:=rF c x;rw[kt]at h;cases q:Nat.beq a c with
  |true=>
   rw[q]at h;refine Or.elim (am.mp h) (λoz=>?_) λh=>?_;(subst oz)
   ·exact bo _
   ·exact Nat.le_succ_of_le (ih p h)
  |false=>
   rw[q]at h;cases e:bT c x with
   |nil=>rw[e]at h;cases aR.mp h;exact bV (bo _)|cons hh t=>
    rw[e]at h ih;refine Or.elim (am.mp h) (λoz=>?_) λh=>?_;(subst oz)
    ·exact bV (ih hh (.head _))
    ·exact Nat.le_succ_of_le (ih p (.tail _ h))
theorem L3(x y:List Nat):Txt.startswith (bQ x) (bQ y)=kZ y x:=by
 rw[Bool.eq_iff_iff,gU];unfold Txt.startswith
 rw[aV,cG];rw[StrLaws.subAt_eq];rw[List.drop_zero,df];constructor
 ·rintro⟨_,h⟩;exact h
 ·refine λh=>⟨?_,h⟩;have:=congrArg List.length h;rw[cC]at this;exact Pg this
theorem uc(c:Nat):∀{x:List Nat} {k:Nat},sF c x=some k->x[k]?=some c/\∀j,j<k->x[j]?≠some c|[],k,h=>aI h|a::x,k,h=>by have h:(match Nat.beq a c with|true=>some 0|false=>match sF c x with|some k=>some (k+1)|none=>none)=some k:=h;cases hb:Nat.beq a c with|true=>rw[hb]at h;(refine bD h λx=>?_;subst x);exact⟨by rw[c0.mp hb];rfl,λj hj=>bc hj (Nat.not_lt_zero j)⟩|false=>rw[hb]at h;cases e:sF c x with|none=>rw[e]at h;exact aI h|some k'=>rw[e]at h;refine bD h λx=>?_;subst x;refine aG (uc c e) λh1 h2=>⟨h1,λj hj=>?_⟩;cases j with|zero=>intro z;rw[c0.mpr (dj z)]at hb;exact il hb|succ j=>exact h2 j (VF hj)
theorem C5(h:sF c x=some k):∃r,occurrences (bQ x) (bQ [c]) 0 (bQ x).length 1=k::r:=by
 refine aG (uc c h) λh1 h2=>?_;have key:=λi=>StrLaws.subAt_one (bQ x) c i;refine Or.elim (StrLaws.occ_head (bQ x) (bQ [c]) 1 (aD 1)) (λoz=>?_) λoz=>?_;(refine aG oz λz_ hn=>?_);rotate_left;(refine dp oz λi r e hi hn=>?_);rotate_right
 ·exact bc ((key k).mpr h1) (hn k)
 ·have:i=k:=by
   rcases Nat.lt_trichotomy i k with q|q|q
   ·exact bc ((key i).mp hi) (h2 i q)
   ·exact q
   ·exact bc ((key k).mpr h1) (hn k q)
  (clear h h1 h2;subst this);exact⟨r,e⟩
theorem zy:∀m,m<1000->(Nat.toDigits 10 m).map Char.toNat=digits m:=by
 have:((List.range 1000).all λm=>fj ((Nat.toDigits 10 m).map Char.toNat) (digits m))=true:=by decide+kernel
 exact λm hm=>ez.mp (aS.mp this m (List.mem_range.mpr hm))
theorem HV(h:m<1000):Str.ofString (toString (Int.ofNat m))=bQ (digits m):=by rw[Str.ofString_eq_toList,←zy m h];show(⟨((Nat.repr m).toList.map Char.toNat).toArray⟩:Str)=_;simp
theorem om:∀{as:List AV} {xs:List (List Nat)},strsOf as=some xs->as=xs.map .str|[],xs,h=>by(refine bD h λx=>?_;subst x);rfl|a::as,xs,h=>by refine aH (a8 h) λx e1 h=>aH (a8 h) λl e2 h=>?_;rw[←bD h id,eP e1,om e2];rfl
theorem rE:∀{vs:List Value} {xs:List (List Nat)},dh c F vs (xs.map .str)->∃l:List (Str×Tok),vs=strValues l/\l.map (·.1)=xs.map bQ|_,[],h=>h.sC ⟨[],rfl,rfl⟩|_,x::xs,h=>h.hG λv vs h hs=>by refine aH (jz h) λt e1 z_=>aH (rE hs) λl e2 e=>?_;exact⟨(bQ x,t)::l,by rw[e1,e2];rfl,by rw[aC,aC,e]⟩
theorem wL:∀{l:List (Str×Tok)} {xs:List (List Nat)},l.map (·.1)=xs.map bQ->(∀x∈xs,x.length<=16777216)->dh c F (strValues l) (xs.map .str)|[],[],_,_=>.nil|p::l,x::xs,h,hn=>by obtain⟨p1,t⟩:=p;rw[aC,aC]at h;refine aG (eO h) λh1 h2=>?_;have h1:=h1;subst h1;exact .cons (.str (hn x (.head _))) (wL h2 λy hy=>hn y (.tail _ hy))|[],_::_,h,_=>by cases h|_::_,[],h,_=>by cases h
theorem tm(h:(cB 8388608 (cN s xs)&&cB 1000 s)=true):JoinOk (bQ s) (xs.map bQ)=true:=by
 rw[aV,dA,dA]at h;refine joinOk_of ?_;have:=tn s xs;have e:((xs.map bQ).map (·.length))=xs.map List.length:=by rw[List.map_map];rfl
 rw[e,bg];have:(bQ s).length=s.length:=rfl;rw[this];exact UK h ‹_› this
section
variable{nm:Nat->Str}{c:Ctx}{A:Around}{E:Value->Shared->Prop}{s:Shared}{F:cF}{g:G}{env:Env}{σ:Sg}
theorem H3:Txt.lower (bQ [67,79,78,84,73,78,85,69])=bQ [99,111,110,116,105,110,117,101]:=by decide+kernel
theorem H4:Txt.lower (bQ [69,88,73,84])=bQ [101,120,105,116]:=by decide+kernel
theorem H5:Txt.upper (bQ [114,101,102,101,114,101,110,99,101])=bQ [82,69,70,69,82,69,78,67,69]:=by decide+kernel
theorem H6:Txt.upper (bQ [99,111,110,116,101,110,116])=bQ [67,79,78,84,69,78,84]:=by decide+kernel
structure SM(c:Ctx)(name:Str)(l:List Nat)(id:String):Prop where
 get:∀{A:Around} {E:Value->Shared->Prop} {s:Shared} {t:Tok} {pl:Sem Bool} {Q:Value×List Value->Shared->Prop},Q (.builtin id,[.str (bQ l) t]) s->wpAny c.M A (getMethod (.str (bQ l) t) name pl) Q E s
def EK(c:Ctx)(nm:Nat->Str)(m:Nat)(l:List Nat)(as:List AV)(r:AV):Prop:=∃id,SM c (nm m) l id/\
  ∀{A:Around} {E:Value->Shared->Prop} {s:Shared} {F:cF} {g:G} {env:Env} {σ:Sg} {t:Tok} {ba:List Value},l.length<=16777216->Inv c F g s->ax nm c env F σ s->dh c F ba as->
   wpAny c.M A (call (.builtin id) (.str (bQ l) t::ba)) (aE c F s env.locals g r) E s
theorem ip(h:dh c F ba [a]):∃v,ba=[v]/\VM c F v a:=
 h.hG λv vs h hs=>hs.sC ⟨v,rfl,h⟩
theorem H7(N:nu nm)(e:strsOf as=some xs)(q:(cB 8388608 (cN l xs)&&cB 1000 l)=true):EK c nm 10 l [.list as] (.str (cN l xs)):=by refine⟨"str.join",⟨λhQ=>by rw[N.n10];exact GM.join hQ⟩,λhl I f hv=>?_⟩;refine aH (ip hv) λv dN hv1=>?_;subst dN;refine hv1.listE λa o vs n hF hc hd hn hvs=>?_;rw[om e]at hvs;refine aH (rE hvs) λtl e1 e2=>?_;have hL:=I.isList hF hc hd;rw[show vs=(strValues tl).toArray from by rw[←e1]]at hL;refine SC.join (texts:=xs.map bQ) hL e2 (tm q) λt' k=>?_;rw[show Txt.join (bQ l) (xs.map bQ)=bQ (cN l xs)from by unfold Txt.join;rw[StrLaws.glued_eq_join,join_eq]];rw[aV,dA,dA]at q;exact aE.now (.str (aw q.1 (by decide))) I _
theorem EL(N:nu nm)(q:l.length<=1048575):EK c nm 12 l [.str [ch]] (.list ((bT ch l).map .str)):=by
 refine⟨"str.split",⟨λhQ=>by rw[N.n12];exact GM.split hQ⟩,λhl I f hv=>?_⟩;refine aH (ip hv) λv dN hv1=>?_;subst dN;refine hv1.i6 λt' z_=>aH (ud I f) λm' hn xL=>?_;refine splitN1 (y:=bQ [ch]) xL (mw c _ _) rfl (λtl h' k e F' N'=>?_) (by simp only[Str.length,bX,sizeLine_eq];exact UL q);refine dy (AC I hn f.fN f.cR F' N' k) λI' X Y=>?_;have e:tl.map (·.1)=(bT ch l).map bQ:=by rw[e];exact wM l ch
 refine⟨_,X,.list (b9 _ _ _) rfl rfl ?_ ?_,I',Y⟩
 ·rw[bg];exact aw (lN ch l) (UM q)
 ·rw[List.toList_toArray];exact wL e λx hx=>aw (rF ch l x hx) hl
theorem pQ(N:nu nm)(hx:fj l x=true)(hz:y.length<=1000):(Txt.lower (bQ x)=bQ y->EK c nm 14 l [] (.str y))/\(Txt.upper (bQ x)=bQ y->EK c nm 15 l [] (.str y)):=by
 have:=ez.mp hx;subst this;have tl:tooLong (bQ y).length=false:=by unfold tooLong;rw[sizeLine_eq];simp only[Str.length,bX];exact decide_eq_false (UN hz)
 refine⟨λhy=>⟨"str.lower",⟨λhQ=>by rw[N.n14];exact GM.lower hQ⟩,λhl I f hv=>?_⟩,λhy=>⟨"str.upper",⟨λhQ=>by rw[N.n15];exact GM.upper hQ⟩,λhl I f hv=>?_⟩⟩
 ·cases hv;refine SC.lower (by rw[hy];exact tl) ?_;rw[hy];exact aE.now (.str (aw hz (by decide))) I _
 ·cases hv;refine SC.upper (by rw[hy];exact tl) ?_;rw[hy];exact aE.now (.str (aw hz (by decide))) I _
theorem C6(hlim:∀l,lim l=true->l.length<=8388608)(N:nu nm)(h:mD lim m l as=some r):EK c nm m l as r:=by
 unfold mD at h;cases q0:Nat.beq m 10 with|true=>rw[q0]at h;refine aH (a8 h) λa e1 h=>aH (a8 h) λls e2 h=>aH (a8 h) λxs e3 h=>aG (dX h) λq h=>?_;refine bD h λx=>?_;subst x;rw[aV]at q;rw[aj q0,lO e1,hU e2];exact H7 N e3 (by rw[aV,dA];exact⟨hlim _ q.1,q.2⟩)|false=>
 rw[q0]at h;cases q1:Nat.beq m 12 with|true=>rw[q1]at h;refine aH (a8 h) λa e1 h=>aH (a8 h) λch e2 h=>aG (dX h) λq h=>?_;refine bD h λx=>?_;subst x;rw[dA]at q;rw[aj q1,lO e1,ue e2];exact EL N q|false=>
 rw[q1]at h;cases q2:Nat.beq m 13 with|true=>rw[q2]at h;refine aH (a8 h) λa e1 h=>aH (a8 h) λy e2 h=>?_;refine bD h λx=>?_;subst x;rw[aj q2,lO e1,eP e2];refine⟨"str.startswith",⟨λhQ=>by rw[N.n13];exact GM.startswith hQ⟩,λhl I f hv=>?_⟩;refine aH (ip hv) λv dN hv1=>?_;subst dN;refine hv1.i6 λt' z_=>SC.startswith ?_;rw[L3];exact aE.here .bool I|false=>
 rw[q2]at h;cases q3:Nat.beq m 14 with
 |true=>rw[q3]at h;refine aG (dX h) λe h=>?_;rw[aj q3,qB e];unfold O3 at h;cases z:fj l [67,79,78,84,73,78,85,69]with|true=>rw[z]at h;(refine bD h λx=>?_;subst x);exact(pQ N z (by decide)).1 H3|false=>rw[z]at h;refine aG (dX h) λq h=>?_;(refine bD h λx=>?_;subst x);exact(pQ N q (by decide)).1 H4
 |false=>rw[q3]at h;refine aG (dX h) λe h=>?_;rw[aV]at e;rw[aj e.1,qB e.2];unfold O4 at h;cases z:fj l [114,101,102,101,114,101,110,99,101]with|true=>rw[z]at h;(refine bD h λx=>?_;subst x);exact(pQ N z (by decide)).2 H5|false=>rw[z]at h;refine aG (dX h) λq h=>?_;(refine bD h λx=>?_;subst x);exact(pQ N q (by decide)).2 H6
end
structure zJ(c:Ctx):Prop where
 Nd:c.eX 900=some (.builtin "len")
 Uw:c.eX 901=some (.type "int")
 Ux:c.eX 902=some (.builtin "abs")
 Uy:c.eX 903=some (.builtin "all")
 Uz:c.eX 904=some (.type "tuple")
 UA:c.eX 905=some (.type "list")
 UB:c.eX 906=some (.type "str")
 UC:c.eX 907=some (.builtin "ord")
 UD:c.eX 908=some (.builtin "chr")
 UE:c.eX 909=some (.type "bytes")
theorem Az:∀{as:List AV} {l:List Nat},Lv as=some l->as=l.map (λ(n:Nat)=>AV.int (Int.ofNat n))/\∀x∈l,x<256
 |[],l,h=>by(refine bD h λx=>?_;subst x);exact⟨rfl,λx hx=>by cases hx⟩|a::as,l,h=>by
  refine aH (a8 h) λn e1 h=>aG (dX h) λq h=>aH (a8 h) λl' e2 h=>aG (Az e2) λe3 h2=>?_;rw[←bD h id,gb e1];refine⟨by rw[e3];rfl,λx hx=>?_⟩;refine Or.elim (am.mp hx) (λe4=>?_) λhx=>?_
  ·rw[e4];exact aa q
  ·exact h2 x hx
def pF(nm:Nat->Str)(c:Ctx):Prop:=∀{A:Around} {E:Value->Shared->Prop} {s:Shared} {F:cF} {g:G} {env:Env} {σ:Sg} {v:Value} {l:List Nat},A.handled=none->Inv c F g s->ax nm c env F σ s->
 VM c F v (.list (l.map λ(n:Nat)=>AV.int (Int.ofNat n)))->(∀x∈l,x<256)->wpAny c.M A (call (.type "bytes") [v]) (aE c F s env.locals g (.bytes l)) E s
section
variable{nm:Nat->Str}{c:Ctx}{A:Around}{E:Value->Shared->Prop}{s:Shared}{F:cF}{g:G}{env:Env}{σ:Sg}
noncomputable def Sf(l:List AV)(i:Nat):Bool:=match l[i]? with|some (.bool b)=>b|_=>false
theorem tj:∀{l:List AV} {r:AV},allB l=some r->r=.bool ((List.range l.length).all (Sf l))/\∀a∈l,∃b,a=.bool b
 |[],r,h=>by(refine bD h λx=>?_;subst x);exact⟨rfl,λa h=>(nomatch h)⟩|a::l,r,h=>by
  refine aH (a8 h) λb e1 h=>aH (a8 h) λy e2 h=>aH (a8 h) λx e3 h=>aG (tj e2) λh1 h2=>?_;have h1:=AV.bool.inj ((qG e3).symm.trans h1);rw[←bD h id,qG e1];refine⟨?_,λa h=>?_⟩
  ·rw[ac,List.range_succ_eq_map,List.all_cons,List.all_map,h1];rfl
  ·refine Or.elim (am.mp h) (λe=>?_) λh=>?_
   ·exact⟨_,e⟩
   ·exact h2 a h
theorem LZ(hh:A.handled=none)(I:Inv c F g s)(f:ax nm c env F σ s)(hv:VM c F v (.list l))(h:allB l=some r):wpAny c.M A (call (.builtin "all") [v]) (aE c F s env.locals g r) E s:=by
 refine aG (tj h) λjx h2=>?_;subst jx;refine hv.listE λa o vs n hF hc hd hn hvs=>?_;have hl:=hvs.length;rw[aW]at hl;have hne:a≠s.heap.objs.size:=aJ (aN (I.cE _ _ hF));have hh1:A.in1.handled=none:=hh;refine aG (I.gc {cls:=.type "list_iterator",data:=.fields #[.ref a,.int 0 0]} s.toks) λJ1 J2=>call_all_walk (wpAny_pyIter_list (I.isList hF hc hd) ⟨s.heap.objs.size,_,_,vs.size,_,_,Sf l,rfl,Walks.list hh1 s.heap.objs.size a hne vs,⟨⟨_,be _ rfl,rfl,rfl⟩,(I.isList hF hc hd).push _⟩,?_,?_⟩)
 ·intro i v s' Q' E' hP hQ;have hi:=(Array.getElem?_eq_some_iff.mp hP).1;have hi':i<l.length:=by exact P6 hl hi
  refine aH (hvs.get (cg hi')) λw h3 h4=>?_;have:some w=some v:=by rw[←h3,←hP];simp
  refine bD this λx=>?_;subst x;refine b0 (h2 _ (List.getElem_mem hi')) λb e=>?_;rw[e]at h4;refine h4.Ec (wpAny_truthy_bool ?_);have:Sf l i=b:=by unfold Sf;rw[cg hi',e]
  rw[this]at hQ;exact hQ
 ·intro h' tk hk;rw[hl];have kp:=λb o e=>hk b o (by simpa using aJ (aN e)) (az _ e);refine⟨F,XF.refl,.bool,⟨λb o e=>kp b o (I.cE b o e),I.base,I.apart,I.d7.mono (Ext.refl F) λb z_ o e=>kp b o e,I.fJ⟩,⟨λb o z_ z_ e=>kp b o e,λm x=>x.keeps kp,λb e=>by refine b0 (bu e) λo e=>?_;show(h'.get? b).isSome=true;rw[kp b o e];rfl,rfl,rfl⟩⟩
theorem L0(I:Inv c F g s)(hv:VM c F v a)(h:O5 a=some r):wpAny c.M A (call (.builtin "len") [v]) (aE c F s env.locals g r) E s:=by cases a with|str l=>refine bD h λx=>?_;subst x;exact hv.i6 λt hn=>PySem.P.len_str (by simp only[Str.length,bX];omega) (aE.now .int I _)|list l=>refine bD h λx=>?_;subst x;refine hv.listE λa o vs n hF hc hd hn hvs=>?_;have hl:=hvs.length;rw[aW]at hl;refine call_len_list (I.isList hF hc hd) (by omega) ?_;rw[hl];exact aE.now .int I _|aT l=>refine bD h λx=>?_;subst x;refine hv.qj λa o vs n hF hc hd hn hvs=>?_;have hl:=hvs.length;rw[aW]at hl;refine PyProof.Rows.len_tuple (items:=vs) ⟨o,I.cE _ _ hF,hc,n,hd⟩ (by omega) ?_;rw[hl];exact aE.now .int I _|sp j=>refine aG (dX h) λq0 h=>?_;refine bD h λx=>?_;subst x;rw[aj q0]at hv;have hs:(c.rd.map λx=>Value.ref x.2.2.1)=some v:=hv.zz λh=>h;rw[aX]at hs;obtain⟨⟨rr,d,tl,nd⟩,q,rfl⟩:=hs;obtain⟨es,n,p,t,h1,h2,h3,h4,h5,h6,h7,h8⟩:=I.d7.rd _ _ _ _ q;refine sH (mJ h7) λa o vs n e hF hc hd hn hvs=>?_;cases e;have hl:=hvs.length;rw[aW]at hl;refine call_len_list (I.isList hF hc hd) (by omega) ?_;rw[hl];exact aE.now (.pos (k:=0) c.T.length (by simp) (by simp)) I _|_=>exact aI h
theorem EA(I:Inv c F g s)(fr:ax nm c env F σ s)(hv:VM c F v a)(h:O6 a=some r):wpAny c.M A (call (.type "tuple") [v]) (aE c F s env.locals g r) E s:=by cases a with|list l=>refine bD h λx=>?_;subst x;refine hv.listE λa o vs n hF hc hd hn hvs=>?_;have hl:=hvs.length;rw[aW]at hl;refine aH (ud I fr) λm hns xL=>?_;refine call_tuple_list (I.isList hF hc hd) (λh' hk=>?_) (by rw[hl,sizeLine_eq];exact BE hn hl);have Ih:Inv c F g {s with heap:=h'}:=⟨λb o e=>hk _ _ (I.cE b o e),I.base,I.apart,I.d7.mono (Ext.refl F) λb z_ o e=>hk _ _ e,I.fJ⟩;have Sh:eZ c env.locals s {s with heap:=h'}:=⟨λb o z_ z_ e=>hk _ _ e,λm' x=>x.keeps hk,λb e=>by refine b0 (bu e) λo e=>?_;rw[hk _ _ e];rfl,rfl,rfl⟩;refine dy (Ih.push {cls:=.type "tuple",data:=.seq vs} rfl s.toks) λJ1 J2 J3=>⟨_,XF.trans XF.refl Sh.alive J2,.aT (b9 _ _ _) rfl rfl hn (hvs.mono J2.ext),J1,Sh.trans (J3 _)⟩|aT l=>refine bD h λx=>?_;subst x;refine sH (yL hv) λa o vs n nq hF hc hd hn hvs=>?_;subst nq;exact call_tuple_tup (items:=vs) ⟨o,I.cE _ _ hF,hc,n,hd⟩ (aE.here hv I)|_=>exact aI h
theorem HU(I:Inv c F g s)(hv:VM c F v (.aT l)):wpAny c.M A (call (.type "list") [v]) (aE c F s env.locals g (.list l)) E s:=by
 refine hv.qj λa o vs n hF hc hd hn hvs=>?_;have hl:=hvs.length;rw[aW]at hl;refine call_list_seq a (.inr rfl) (I.cE _ _ hF) hc hd (λh' c' hk he=>?_) (by rw[hl,sizeLine_eq];exact BE hn hl);have al:∀b,(s.heap.get? b).isSome=true->(h'.get? b).isSome=true:=λb e=>by refine b0 (bu e) λo e=>?_;rw[hk _ _ e];rfl
 refine⟨fq F s.heap.objs.size {cls:=.type "list",dict:=none,data:=.seq vs c',slots:=#[]},I.EB _,.list (b9 _ _ _) rfl rfl hn (hvs.mono (I.j6 _)),⟨λb o' e=>?_,λb o' e=>I.j6 _ _ _ (I.base b o' e),λb hb'=>?_,I.d7.mono (I.j6 _) λb z_ o e=>hk _ _ e,I.fJ⟩,
  ⟨λb o' z_ z_ e=>hk _ _ e,λm' x=>x.keeps hk,al,rfl,rfl⟩⟩
 ·by_cases q:b=s.heap.objs.size
  ·subst q;rw[b9]at e;(refine bD e λx=>?_;subst x);exact he
  ·rw[bf q]at e;exact hk _ _ (I.cE b o' e)
 ·rw[bf (I.BN hb')];exact I.apart b hb'
theorem uQ(q:n<1000):(digits n).length<=1000:=by
 have:((List.range 1000).all λm=>Nat.ble (digits m).length 1000)=true:=by decide+kernel
 exact aa (aS.mp this n (List.mem_range.mpr q))
theorem Cb(I:Inv c F g s)(hv:VM c F v (.int (.ofNat n)))(q':n<1000):wpAny c.M A (call (.type "str") [v]) (aE c F s env.locals g (.str (digits n))) E s:=by
 refine hv.dJ λt=>PySem.P.str_of_int ?_ ?_
 ·skip;by_cases z:n=0
  ·subst z;decide
  ·exact aB ((Nat.log2_lt z).mpr (show n<2 ^ 10 by omega)) (by decide)
 ·rw[HV q'];exact aE.now (.str (aw (uQ q') (by decide))) I _
theorem HW(B:zJ c)(hb:pF nm c)(hh:A.handled=none)(I:Inv c F g s)(fr:ax nm c env F σ s)(hf:c.eX (k+900)=some f)(hv:VM c F v a)(h:O7 k a=some r):
  wpAny c.M A (call f [v]) (aE c F s env.locals g r) E s:=by
 match k,hf,h with|0,hf,h=>cases B.Nd.symm.trans hf;exact L0 I hv h|1,hf,h=>cases B.Uw.symm.trans hf;refine aH (a8 h) λi e h=>?_;rw[du e]at hv;refine bD h λx=>?_;subst x;exact hv.dJ λt=>call_int_int (aE.here .int I)|2,hf,h=>cases B.Ux.symm.trans hf;refine aH (a8 h) λi e h=>?_;rw[du e]at hv;refine bD h λx=>?_;subst x;refine hv.dJ λt=>call_abs_int λu tk=>?_;rw[show(if i<0 then -i else i)=(i.natAbs:Int)from by split<;>omega];exact aE.now .int I _|3,hf,h=>cases B.Uy.symm.trans hf;refine aH (a8 h) λl e h=>?_;rw[hU e]at hv;exact LZ hh I fr hv h|4,hf,h=>cases B.Uz.symm.trans hf;exact EA I fr hv h|5,hf,h=>cases B.UA.symm.trans hf;refine aH (a8 h) λl e h=>?_;rw[uf e]at hv;refine bD h λx=>?_;subst x;exact HU I hv|6,hf,h=>cases B.UB.symm.trans hf;refine aH (a8 h) λn e h=>aG (dX h) λq h=>?_;rw[gb e]at hv;refine bD h λx=>?_;subst x;exact Cb I hv (aa q)|7,hf,h=>cases B.UC.symm.trans hf;refine aH (a8 h) λn e h=>?_;rw[ue e]at hv;refine bD h λx=>?_;subst x;exact hv.i6 λt z_=>PySem.P.ord_of_char (aE.now .int I _)|8,hf,h=>cases B.UD.symm.trans hf;refine aH (a8 h) λn e h=>aG (dX h) λq h=>?_;rw[gb e]at hv;refine bD h λx=>?_;subst x;have q':=aa q;exact hv.dJ λt=>PyProof.Rows.chr_of_range (by simp) (by simp only[bj];exact UF q') (aE.now (.str (l:=[n]) (by simp)) I _)|9,hf,h=>cases B.UE.symm.trans hf;refine aH (a8 h) λl e h=>aH (a8 h) λr' e2 h=>?_;rw[hU e]at hv;refine bD h λx=>?_;subst x;refine aG (Az e2) λjx h2=>?_;subst jx;exact hb hh I fr hv h2|_+10,hf,h=>exact aI h
theorem C1(B:zJ c)(hb:pF nm c)(hh:A.handled=none)(I:Inv c F g s)(fr:ax nm c env F σ s)(hf:c.eX k=some f)(hv:dh c F ba as)(h:s7 k as=some r):
  wpAny c.M A (call f ba) (aE c F s env.locals g r) E s:=by
 refine aH (a8 h) λa e h=>aG (dX h) λq h=>?_;rw[lO e]at hv;refine aH (ip hv) λv dN hv1=>?_;subst dN;exact HW B hb hh (k:=k-900) I fr (by rw[dr (aa q)];exact hf) hv1 h
end
def nr(h:Heap)(I:Addr):Prop:=∃o T,h.get? I=some o/\o.cls=.type T/\["enumerate","zip","dict_itemiterator","dict_reverseitemiterator","odict_iterator","itertools.zip_longest","itertools.pairwise"].contains T=false
def nt(c:Ctx):Prop:=∀{A:Around} {E:Value->Shared->Prop} {s:Shared} {b:Array UInt8} {t:Tok} {Q:Value->Shared->Prop},
 (∀(o:Obj) (St:Nat->Heap->Prop),o.isFreed=false->(∀A':Around,A'.handled=none->Walks c.prog c.w A' s.heap.objs.size [s.heap.objs.size] [s.heap.objs.size] b.size (λi v=>∃x u,b[i]?=some x/\v=.int (x.toNat:Int) u) St)->St 0 (s.heap.push o)->
   (∀i h,St i h->nr h s.heap.objs.size)->Q (.ref s.heap.objs.size) {s with heap:=s.heap.push o})->wpAny c.M A (pyIter (.bytes b t)) Q E s
def sS(nm:Nat->Str)(c:Ctx):Prop:=∀{A:Around} {E:Value->Shared->Prop} {s:Shared} {F:cF} {g:G} {env:Env} {σ:Sg} {v:Value} {t:Tok} {sep:List Nat} {l:List AV} {xs:List (List Nat)},
 A.handled=none->Inv c F g s->ax nm c env F σ s->VM c F v (.list l)->strsOf l.reverse=some xs->(cB 8388608 (cN sep xs)&&cB 1000 sep)=true->
  wpAny c.M A (call (.type "reversed") [v]) (λit s₁=>(∀b o,s.heap.get? b=some o->s₁.heap.get? b=some o)/\wpAny c.M A (call (.builtin "str.join") [.str (bQ sep) t,it]) (aE c F s env.locals g (.str (cN sep xs))) E s₁) E s
structure Sys where
 nm:Nat->Str
 gn:Nat->Str
 c:Ctx
 T:Jc
 O:By
 cP:Around->Prop
 mi:Nat->Expr->Prop
abbrev KK:=Str->Option NameKind
noncomputable def sk(kk:KK)(sc:Scope):KK:=λx=>(sc.names.map λ(n,k)=>if(k==.free&&kk n==some .cell)then(n,.cell)else(n,k)).lookup x
def toPy:AV->Option PyData|.int i=>some (.int i)|.str l=>some (.str (bQ l))|_=>none
def vI:List (List Nat×AV)->Option (List (PyData×PyData))|[]=>some []|(k,a)::r=>(toPy a).bind λd=>(vI r).bind λD=>some ((.str (bQ k),d)::D)
noncomputable def Ni(as:List Expr)(ks:List Keyword):Bool:=match as with|[]=>(match ks with|[]=>false|_::_=>true)|_::_=>true
noncomputable def Ks(f:Expr)(b:Bool):Bool:=@Expr.casesOn (λz_=>Bool) f (λz_ z_ z_=>true) (λz_ z_ z_=>true) (λz_ z_ z_ z_=>true) (λz_ z_ z_=>true) (λz_ z_ z_ z_=>true) (λz_ z_ z_ z_=>true) (λz_ z_ z_=>true) (λz_ z_ z_=>true) (λz_ z_ z_ z_=>true) (λz_ z_ z_ z_=>true) (λz_ z_ z_ z_ z_=>true) (λz_ z_ z_ z_=>true) (λz_ z_=>true) (λz_ z_=>true) (λz_ z_=>true) (λz_ z_ z_ z_=>true) (λz_ z_ z_ z_=>true) (λz_ z_ z_ z_=>true) (λz_ z_=>true) (λz_ z_ z_=>true) (λz_ z_ z_=>true) (λz_ z_ z_=>true) (λz_ z_=>true) (λz_ z_=>b) (λz_ z_=>true) (λz_ z_ z_=>true) (λz_ z_ z_ z_=>true)
def en(e:Expr):Bool:=@Expr.casesOn (λz_=>Bool) e (λz_ z_ z_=>true) (λz_ z_ z_=>true) (λz_ z_ z_ z_=>true) (λz_ z_ z_=>true) (λz_ z_ z_ z_=>true) (λz_ z_ z_ z_=>true) (λz_ z_ z_=>true) (λz_ z_ z_=>true) (λz_ z_ z_ z_=>true) (λz_ z_ z_ z_=>true) (λz_ z_ z_ z_ z_=>true) (λz_ z_ z_ z_=>true) (λz_ z_=>true) (λz_ z_=>true) (λz_ z_=>true) (λz_ z_ z_ z_=>true) (λf as ks z_=>Ks f (Ni as ks)) (λz_ z_ z_ z_=>true) (λz_ z_=>true) (λz_ z_ z_=>true) (λz_ z_ z_=>true) (λz_ z_ z_=>true) (λz_ z_=>true) (λz_ z_=>true) (λz_ z_=>true) (λz_ z_ z_=>true) (λz_ z_ z_ z_=>true)
def vJ(nm:Nat->Str)(bI:List Nat)(dB:Bool)(dg:Expr):Prop:=
 (dB=false/\∃x px,bI=[x]/\dg=Expr.Name (nm x) px)∨(dB=true/\∃(ns:List Expr) (k:Nat) (pt:Pos),dg=Expr.Tuple ns k pt/\ns.length=bI.length/\∀(i x:Nat) (e:Expr),bI[i]?=some x->ns[i]?=some e->∃px,e=Expr.Name (nm x) px)
structure oJ(S:Sys)(kk:KK)(bI:List Nat)(dB:Bool)(dg:Expr)(sc:Scope):Prop where
 ht:vJ S.nm bI dB dg
 hl:∀x∈bI,sc.names.lookup (S.nm x)=some .local
 hnd:bI.Nodup
 hsk:sc.kind=.function
 hcell:∀y∈sc.names,y.2≠.cell
 hloc:∀y∈sc.names,y.2=.local->(∃x∈bI,S.nm x=y.1)∨∀x,S.nm x≠y.1
 hnames:∀y∈sc.names,y.2=.local->sc.names.lookup y.1=some .local
 hfree:∀y∈sc.names,y.2=.free->kk y.1=some .cell∨kk y.1=some .free
structure Kt(l:List (List Nat×AV))(keys:List (Option Expr))(values:List Expr)(D:List (PyData×PyData)):Prop where
 h:litPairs keys values=some D
 hl:vI l=some D
 hs:strKeyed D=true
 hn:(strKeysOf D).Nodup
 hall:keys.all (·.isSome)=true
 hle:keys.length=values.length
 h0:keys≠[]
 cM:keys.length<=15
 hb:∀q∈l,∀x,q.2=.str x->x.length<=16777216
inductive Ku(S:Sys)(kk:KK)(R:List Expr->Prop):Nat->Expr->Prop
 |plain{ea}(h:R [ea]):Ku S kk R 0 ea
 |range{k n ea p p'}(hn:n=1∨n=2)(hk:S.T.g6 k=some (.fn 910))(h:kk (S.gn k)=some .globalImplicit)(hd:(S.gn k==("__debug__":Str))=false)(ha:R ea)(hl:ea.length=n):Ku S kk R n (.Call (.Name (S.gn k) p') ea [] p)
mutual
def oK(S:Sys):KK->PE->Expr->Prop|kk,.aq i,e=>∃k p,e=(.Constant (.int i) k p)|kk,.ak l,e=>∃k p,e=(.Constant (.str (bQ l)) k p)/\l.length<=16777216|kk,.ck,e=>∃k p,e=(.Constant .none k p)|kk,.cBool b,e=>∃k p,e=(.Constant (.bool b) k p)|kk,.dx l,e=>∃k p,e=(.Constant (.bytes (l.map UInt8.ofNat)) k p)/\∀x∈l,x<256|kk,.ah x,e=>∃p,e=(.Name (S.nm x) p)/\KL (kk (S.nm x))/\(S.nm x==("__debug__":Str))=false/\(S.nm x==("__classdict__":Str))=false|kk,.dD k,e=>∃p,e=(.Name (S.gn k) p)/\kk (S.gn k)=some .globalImplicit/\(S.gn k==("__debug__":Str))=false|kk,.attr o a,e=>∃eo p,e=(.Attribute eo (S.nm a) p)/\oK S kk o eo/\en eo=true|kk,.sub o i,e=>∃eo ei p,e=(.Subscript eo ei p)/\oK S kk o eo/\oK S kk i ei|kk,.eC o lo,e=>∃eo nk p p',e=(.Subscript eo (.Slice (some nk) none none p') p)/\oK S kk o eo/\oK S kk lo nk|kk,.fU o hi,e=>∃eo p8 p p',e=(.Subscript eo (.Slice none (some p8) none p') p)/\oK S kk o eo/\oK S kk hi p8|kk,.jw o lo hi,e=>∃eo nk p8 p p',e=(.Subscript eo (.Slice (some nk) (some p8) none p') p)/\oK S kk o eo/\oK S kk lo nk/\oK S kk hi p8|kk,.aT es,e=>∃ees k p,e=(.Tuple ees k p)/\pj S kk es ees|kk,.lst es,e=>∃ees p,e=(.List ees p)/\pj S kk es ees|kk,.iI l,e=>∃keys values p D,e=(.Dict keys values p)/\Kt l keys values D|kk,.bin op a b,e=>∃ea eb p,e=(.BinOp ea op eb p)/\oK S kk a ea/\oK S kk b eb|kk,.dE a,e=>∃ea p,e=(.UnaryOp .Not ea p)/\oK S kk a ea|kk,.neg a,e=>∃ea p,e=(.UnaryOp .USub ea p)/\oK S kk a ea|kk,.dF es,e=>∃ees p,e=(.BoolOp .And ees p)/\pj S kk es ees|kk,.lM es,e=>∃ees p,e=(.BoolOp .Or ees p)/\pj S kk es ees|kk,.cmp op a b,e=>∃ea eb p,e=(.Compare ea [op] [eb] p)/\oK S kk a ea/\oK S kk b eb|kk,.ite t a b,e=>∃et ea eb p,e=(.IfExp et ea eb p)/\oK S kk t et/\oK S kk a ea/\oK S kk b eb|kk,.ai k args,e=>∃bP p p',e=(.Call (.Name (S.gn k) p') bP [] p)/\kk (S.gn k)=some .globalImplicit/\(S.gn k==("__debug__":Str))=false/\pj S kk args bP|kk,.dM x args,e=>∃bP p p',e=(.Call (.Name (S.nm x) p') bP [] p)/\KL (kk (S.nm x))/\(S.nm x==("__debug__":Str))=false/\(S.nm x==("__classdict__":Str))=false/\pj S kk args bP|kk,.aY o m args,e=>∃eo bP apos p,e=(.Call (.Attribute eo (S.nm m) apos) bP [] p)/\oK S kk o eo/\en eo=true/\pj S kk args bP/\(apos.endLine==p.line)=true/\bP.length<30|kk,.joinR o x,e=>∃eo ex apos p p' p'' k,e=(.Call (.Attribute eo (S.nm 10) apos) [.Call (.Name (S.gn k) p') [ex] [] p''] [] p)/\oK S kk o eo/\en eo=true/\oK S kk x ex/\(apos.endLine==p.line)=true/\S.T.g6 k=some (.fn 912)/\kk (S.gn k)=some .globalImplicit/\(S.gn k==("__debug__":Str))=false/\∀y q,ex≠.Starred y q|kk,.dS o ch y,e=>∃eo apos p p' p'' k k',e=(.Call (.Attribute eo (S.nm 11) apos) [.Constant (.str (bQ [ch])) k p',.Constant (.str (bQ y)) k' p''] [] p)/\oK S kk o eo/\en eo=true/\(apos.endLine==p.line)=true|kk,.comp elt bI dB ik ies cond,e=>∃fu dg gk dU sc p,e=(.ListComp fu [⟨dg,gk,dU,0⟩] sc p)/\Ku S kk (λl=>pj S kk ies l) ik gk/\pj S (sk kk sc) cond dU/\oK S (sk kk sc) elt fu/\oJ S kk bI dB dg sc/\ik≠3|kk,.lamD x,e=>S.mi x e/\kk (S.nm x)=some .cell|kk,.ek x,e=>∃k p p' p'',e=(.Call (.Name (S.gn k) p') [.Name (S.nm x) p''] [] p)/\S.T.g6 k=some (.fn 900)/\kk (S.gn k)=some .globalImplicit/\(S.gn k==("__debug__":Str))=false/\(S.nm x==("__debug__":Str))=false
def pj(S:Sys):KK->List PE->List Expr->Prop|_,[],[]=>True|kk,a::r,ea::er=>oK S kk a ea/\(∀x p,ea≠.Starred x p)/\pj S kk r er|_,_,_=>False
end
structure RE(S:Sys)(kk:KK)(pe:PE)(e:Expr):Prop where
 mk'::h:oK S kk pe e
structure fA(S:Sys)(kk:KK)(pe:List PE)(e:List Expr):Prop where
 mk'::h:pj S kk pe e
abbrev RI(S:Sys)(kk:KK)(ik:Nat)(ies:List PE)(e:Expr):Prop:=Ku S kk (λl=>pj S kk ies l) ik e
theorem fA.nil:fA S kk [] []:=⟨trivial⟩
theorem fA.cons(h:RE S kk a ea)(hs:∀x p,ea≠.Starred x p)(t:fA S kk r er):fA S kk (a::r) (ea::er):=⟨h.h,hs,t.h⟩
theorem RI.plain(h:RE S kk a ea)(hs:∀x p,ea≠.Starred x p):RI S kk 0 [a] ea:=Ku.plain ⟨h.h,hs,trivial⟩
theorem RI.range{kk}(hn:n=1∨n=2)(hk:S.T.g6 k=some (.fn 910))(h:kk (S.gn k)=some .globalImplicit)(hd:(S.gn k==("__debug__":Str))=false)(ha:fA S kk a ea)(hl:ea.length=n):RI S kk n a (.Call (.Name (S.gn k) p') ea [] p):=Ku.range hn hk h hd ha.h hl
section
variable{S:Sys}
theorem RE.aq{kk i k p}:RE S kk (.aq i) (.Constant (.int i) k p):=⟨_,_,rfl⟩
theorem RE.ak{kk l k p}(h:l.length<=16777216):RE S kk (.ak l) (.Constant (.str (bQ l)) k p):=⟨_,_,rfl,h⟩
theorem RE.ck{kk k p}:RE S kk .ck (.Constant .none k p):=⟨_,_,rfl⟩
theorem RE.cBool{kk b k p}:RE S kk (.cBool b) (.Constant (.bool b) k p):=⟨_,_,rfl⟩
theorem RE.dx{kk l k p}(h:∀x∈l,x<256):RE S kk (.dx l) (.Constant (.bytes (l.map UInt8.ofNat)) k p):=⟨_,_,rfl,h⟩
theorem RE.ah{kk x p}(h:KL (kk (S.nm x)))(hd:(S.nm x==("__debug__":Str))=false)(hc:(S.nm x==("__classdict__":Str))=false):RE S kk (.ah x) (.Name (S.nm x) p):=⟨_,rfl,h,hd,hc⟩
theorem RE.dD{kk k p}(h:kk (S.gn k)=some .globalImplicit)(hd:(S.gn k==("__debug__":Str))=false):RE S kk (.dD k) (.Name (S.gn k) p):=⟨_,rfl,h,hd⟩
theorem RE.attr{kk o eo a p}(ho:RE S kk o eo)(hb:en eo=true):RE S kk (.attr o a) (.Attribute eo (S.nm a) p):=⟨_,_,rfl,ho.h,hb⟩
theorem RE.sub{kk o eo i ei p}(ho:RE S kk o eo)(hi:RE S kk i ei):RE S kk (.sub o i) (.Subscript eo ei p):=⟨_,_,_,rfl,ho.h,hi.h⟩
theorem RE.eC{kk o eo lo nk p p'}(ho:RE S kk o eo)(hl:RE S kk lo nk):RE S kk (.eC o lo) (.Subscript eo (.Slice (some nk) none none p') p):=⟨_,_,_,_,rfl,ho.h,hl.h⟩
theorem RE.fU{kk o eo hi p8 p p'}(ho:RE S kk o eo)(hl:RE S kk hi p8):RE S kk (.fU o hi) (.Subscript eo (.Slice none (some p8) none p') p):=⟨_,_,_,_,rfl,ho.h,hl.h⟩
theorem RE.jw{kk o eo lo nk hi p8 p p'}(ho:RE S kk o eo)(hl:RE S kk lo nk)(hh:RE S kk hi p8):RE S kk (.jw o lo hi) (.Subscript eo (.Slice (some nk) (some p8) none p') p):=⟨_,_,_,_,_,rfl,ho.h,hl.h,hh.h⟩
theorem RE.aT{kk es ees k p}(h:fA S kk es ees):RE S kk (.aT es) (.Tuple ees k p):=⟨_,_,_,rfl,h.h⟩
theorem RE.lst{kk es ees p}(h:fA S kk es ees):RE S kk (.lst es) (.List ees p):=⟨_,_,rfl,h.h⟩
theorem RE.iI{kk l keys values p D}(h:Kt l keys values D):RE S kk (.iI l) (.Dict keys values p):=⟨_,_,_,_,rfl,h⟩
theorem RE.bin{kk op a ea b eb p}(ha:RE S kk a ea)(hb:RE S kk b eb):RE S kk (.bin op a b) (.BinOp ea op eb p):=⟨_,_,_,rfl,ha.h,hb.h⟩
theorem RE.dE{kk a ea p}(ha:RE S kk a ea):RE S kk (.dE a) (.UnaryOp .Not ea p):=⟨_,_,rfl,ha.h⟩
theorem RE.neg{kk a ea p}(ha:RE S kk a ea):RE S kk (.neg a) (.UnaryOp .USub ea p):=⟨_,_,rfl,ha.h⟩
theorem RE.dF{kk es ees p}(h:fA S kk es ees):RE S kk (.dF es) (.BoolOp .And ees p):=⟨_,_,rfl,h.h⟩
theorem RE.lM{kk es ees p}(h:fA S kk es ees):RE S kk (.lM es) (.BoolOp .Or ees p):=⟨_,_,rfl,h.h⟩
theorem RE.cmp{kk op a ea b eb p}(ha:RE S kk a ea)(hb:RE S kk b eb):RE S kk (.cmp op a b) (.Compare ea [op] [eb] p):=⟨_,_,_,rfl,ha.h,hb.h⟩
theorem RE.ite{kk t et a ea b eb p}(ht:RE S kk t et)(ha:RE S kk a ea)(hb:RE S kk b eb):RE S kk (.ite t a b) (.IfExp et ea eb p):=⟨_,_,_,_,rfl,ht.h,ha.h,hb.h⟩
theorem RE.ai{kk k args bP p p'}(h:kk (S.gn k)=some .globalImplicit)(hd:(S.gn k==("__debug__":Str))=false)(ha:fA S kk args bP):RE S kk (.ai k args) (.Call (.Name (S.gn k) p') bP [] p):=⟨_,_,_,rfl,h,hd,ha.h⟩
theorem RE.dM{kk x args bP p p'}(h:KL (kk (S.nm x)))(hd:(S.nm x==("__debug__":Str))=false)(hc:(S.nm x==("__classdict__":Str))=false)(ha:fA S kk args bP):RE S kk (.dM x args) (.Call (.Name (S.nm x) p') bP [] p):=⟨_,_,_,rfl,h,hd,hc,ha.h⟩
theorem RE.aY{kk o eo m args bP apos p}(ho:RE S kk o eo)(hb:en eo=true)(ha:fA S kk args bP)(hp:(apos.endLine==p.line)=true)(hn:bP.length<30):RE S kk (.aY o m args) (.Call (.Attribute eo (S.nm m) apos) bP [] p):=⟨_,_,_,_,rfl,ho.h,hb,ha.h,hp,hn⟩
theorem RE.joinR{kk o eo x ex apos p p' p'' k}(ho:RE S kk o eo)(hb:en eo=true)(hx:RE S kk x ex)(hp:(apos.endLine==p.line)=true)(hk:S.T.g6 k=some (.fn 912))(h:kk (S.gn k)=some .globalImplicit)(hd:(S.gn k==("__debug__":Str))=false)(hst:∀y q,ex≠.Starred y q):RE S kk (.joinR o x) (.Call (.Attribute eo (S.nm 10) apos) [.Call (.Name (S.gn k) p') [ex] [] p''] [] p):=⟨_,_,_,_,_,_,_,rfl,ho.h,hb,hx.h,hp,hk,h,hd,hst⟩
theorem RE.dS{kk o eo ch y apos p p' p'' k k'}(ho:RE S kk o eo)(hb:en eo=true)(hp:(apos.endLine==p.line)=true):RE S kk (.dS o ch y) (.Call (.Attribute eo (S.nm 11) apos) [.Constant (.str (bQ [ch])) k p',.Constant (.str (bQ y)) k' p''] [] p):=⟨_,_,_,_,_,_,_,rfl,ho.h,hb,hp⟩
theorem RE.comp{kk elt fu bI dB dg ik ies gk cond dU sc p}(hit:RI S kk ik ies gk)(hc:fA S (sk kk sc) cond dU)(he:RE S (sk kk sc) elt fu)(hs:oJ S kk bI dB dg sc)(hnn:ik≠3):RE S kk (.comp elt bI dB ik ies cond) (.ListComp fu [⟨dg,gk,dU,0⟩] sc p):=⟨_,_,_,_,_,_,rfl,hit,hc.h,he.h,hs,hnn⟩
theorem RE.lamD{kk x e}(h:S.mi x e)(hk:kk (S.nm x)=some .cell):RE S kk (.lamD x) e:=⟨h,hk⟩
theorem RE.ek{kk x k p p' p''}(hk:S.T.g6 k=some (.fn 900))(h:kk (S.gn k)=some .globalImplicit)(hd:(S.gn k==("__debug__":Str))=false)(hd2:(S.nm x==("__debug__":Str))=false):RE S kk (.ek x) (.Call (.Name (S.gn k) p') [.Name (S.nm x) p''] [] p):=⟨_,_,_,_,rfl,hk,h,hd,hd2⟩
end
theorem mn{P:Expr->Prop}{a b}(h:b=a)(k:P a):P b:=h▸k
@[elab_as_elim] theorem RE.cs{S:Sys}{motive:∀(kk:KK) (pe:PE) (e:Expr),RE S kk pe e->Prop}(h:RE S kk pe e)
 (aq:∀{kk:KK} {i:Int} {k:Nat} {p:Pos},motive kk (.aq i) (.Constant (.int i) k p) (@RE.aq S kk i k p))
 (ak:∀{kk:KK} {l:List Nat} {k:Nat} {p:Pos} (h:l.length<=16777216),motive kk (.ak l) (.Constant (.str (bQ l)) k p) (@RE.ak S kk l k p h))
 (ck:∀{kk:KK} {k:Nat} {p:Pos},motive kk .ck (.Constant .none k p) (@RE.ck S kk k p))
 (cBool:∀{kk:KK} {b:Bool} {k:Nat} {p:Pos},motive kk (.cBool b) (.Constant (.bool b) k p) (@RE.cBool S kk b k p))
 (dx:∀{kk:KK} {l:List Nat} {k:Nat} {p:Pos} (h:∀x∈l,x<256),motive kk (.dx l) (.Constant (.bytes (l.map UInt8.ofNat)) k p) (@RE.dx S kk l k p h))
 (ah:∀{kk:KK} {x:Nat} {p:Pos} (h:KL (kk (S.nm x))) (hd:(S.nm x==("__debug__":Str))=false) (hc:(S.nm x==("__classdict__":Str))=false),motive kk (.ah x) (.Name (S.nm x) p) (@RE.ah S kk x p h hd hc))
 (dD:∀{kk:KK} {k:Nat} {p:Pos} (h:kk (S.gn k)=some .globalImplicit) (hd:(S.gn k==("__debug__":Str))=false),motive kk (.dD k) (.Name (S.gn k) p) (@RE.dD S kk k p h hd))
 (attr:∀{kk:KK} {o:PE} {eo:Expr} {a:Nat} {p:Pos} (ho:RE S kk o eo) (hb:en eo=true),motive kk (.attr o a) (.Attribute eo (S.nm a) p) (@RE.attr S kk o eo a p ho hb))
 (sub:∀{kk:KK} {o:PE} {eo:Expr} {i:PE} {ei:Expr} {p:Pos} (ho:RE S kk o eo) (hi:RE S kk i ei),motive kk (.sub o i) (.Subscript eo ei p) (@RE.sub S kk o eo i ei p ho hi))
 (eC:∀{kk:KK} {o:PE} {eo:Expr} {lo:PE} {nk:Expr} {p p':Pos} (ho:RE S kk o eo) (hl:RE S kk lo nk),motive kk (.eC o lo) (.Subscript eo (.Slice (some nk) none none p') p) (@RE.eC S kk o eo lo nk p p' ho hl))
 (fU:∀{kk:KK} {o:PE} {eo:Expr} {hi:PE} {p8:Expr} {p p':Pos} (ho:RE S kk o eo) (hl:RE S kk hi p8),motive kk (.fU o hi) (.Subscript eo (.Slice none (some p8) none p') p) (@RE.fU S kk o eo hi p8 p p' ho hl))
 (jw:∀{kk:KK} {o:PE} {eo:Expr} {lo:PE} {nk:Expr} {hi:PE} {p8:Expr} {p p':Pos} (ho:RE S kk o eo) (hl:RE S kk lo nk) (hh:RE S kk hi p8),motive kk (.jw o lo hi) (.Subscript eo (.Slice (some nk) (some p8) none p') p) (@RE.jw S kk o eo lo nk hi p8 p p' ho hl hh))
 (aT:∀{kk:KK} {es:List PE} {ees:List Expr} {k:Nat} {p:Pos} (h:fA S kk es ees),motive kk (.aT es) (.Tuple ees k p) (@RE.aT S kk es ees k p h))
 (lst:∀{kk:KK} {es:List PE} {ees:List Expr} {p:Pos} (h:fA S kk es ees),motive kk (.lst es) (.List ees p) (@RE.lst S kk es ees p h))
 (iI:∀{kk:KK} {l:List (List Nat×AV)} {keys:List (Option Expr)} {values:List Expr} {p:Pos} {D:List (PyData×PyData)} (h:Kt l keys values D),motive kk (.iI l) (.Dict keys values p) (@RE.iI S kk l keys values p D h))
 (bin:∀{kk:KK} {op:Operator} {a:PE} {ea:Expr} {b:PE} {eb:Expr} {p:Pos} (ha:RE S kk a ea) (hb:RE S kk b eb),motive kk (.bin op a b) (.BinOp ea op eb p) (@RE.bin S kk op a ea b eb p ha hb))
 (dE:∀{kk:KK} {a:PE} {ea:Expr} {p:Pos} (ha:RE S kk a ea),motive kk (.dE a) (.UnaryOp .Not ea p) (@RE.dE S kk a ea p ha))
 (neg:∀{kk:KK} {a:PE} {ea:Expr} {p:Pos} (ha:RE S kk a ea),motive kk (.neg a) (.UnaryOp .USub ea p) (@RE.neg S kk a ea p ha))
 (dF:∀{kk:KK} {es:List PE} {ees:List Expr} {p:Pos} (h:fA S kk es ees),motive kk (.dF es) (.BoolOp .And ees p) (@RE.dF S kk es ees p h))
 (lM:∀{kk:KK} {es:List PE} {ees:List Expr} {p:Pos} (h:fA S kk es ees),motive kk (.lM es) (.BoolOp .Or ees p) (@RE.lM S kk es ees p h))
 (cmp:∀{kk:KK} {op:CmpOp} {a:PE} {ea:Expr} {b:PE} {eb:Expr} {p:Pos} (ha:RE S kk a ea) (hb:RE S kk b eb),motive kk (.cmp op a b) (.Compare ea [op] [eb] p) (@RE.cmp S kk op a ea b eb p ha hb))
 (ite:∀{kk:KK} {t:PE} {et:Expr} {a:PE} {ea:Expr} {b:PE} {eb:Expr} {p:Pos} (ht:RE S kk t et) (ha:RE S kk a ea) (hb:RE S kk b eb),motive kk (.ite t a b) (.IfExp et ea eb p) (@RE.ite S kk t et a ea b eb p ht ha hb))
 (ai:∀{kk:KK} {k:Nat} {args:List PE} {bP:List Expr} {p p':Pos} (h:kk (S.gn k)=some .globalImplicit) (hd:(S.gn k==("__debug__":Str))=false) (ha:fA S kk args bP),motive kk (.ai k args) (.Call (.Name (S.gn k) p') bP [] p) (@RE.ai S kk k args bP p p' h hd ha))
 (dM:∀{kk:KK} {x:Nat} {args:List PE} {bP:List Expr} {p p':Pos} (h:KL (kk (S.nm x))) (hd:(S.nm x==("__debug__":Str))=false) (hc:(S.nm x==("__classdict__":Str))=false) (ha:fA S kk args bP),motive kk (.dM x args) (.Call (.Name (S.nm x) p') bP [] p) (@RE.dM S kk x args bP p p' h hd hc ha))
 (aY:∀{kk:KK} {o:PE} {eo:Expr} {m:Nat} {args:List PE} {bP:List Expr} {apos p:Pos} (ho:RE S kk o eo) (hb:en eo=true) (ha:fA S kk args bP) (hp:(apos.endLine==p.line)=true) (hn:bP.length<30),motive kk (.aY o m args) (.Call (.Attribute eo (S.nm m) apos) bP [] p) (@RE.aY S kk o eo m args bP apos p ho hb ha hp hn))
 (joinR:∀{kk:KK} {o:PE} {eo:Expr} {x:PE} {ex:Expr} {apos p p' p'':Pos} {k:Nat} (ho:RE S kk o eo) (hb:en eo=true) (hx:RE S kk x ex) (hp:(apos.endLine==p.line)=true) (hk:S.T.g6 k=some (.fn 912)) (h:kk (S.gn k)=some .globalImplicit) (hd:(S.gn k==("__debug__":Str))=false) (hst:∀y q,ex≠.Starred y q),motive kk (.joinR o x) (.Call (.Attribute eo (S.nm 10) apos) [.Call (.Name (S.gn k) p') [ex] [] p''] [] p) (@RE.joinR S kk o eo x ex apos p p' p'' k ho hb hx hp hk h hd hst))
 (dS:∀{kk:KK} {o:PE} {eo:Expr} {ch:Nat} {y:List Nat} {apos p p' p'':Pos} {k k':Nat} (ho:RE S kk o eo) (hb:en eo=true) (hp:(apos.endLine==p.line)=true),motive kk (.dS o ch y) (.Call (.Attribute eo (S.nm 11) apos) [.Constant (.str (bQ [ch])) k p',.Constant (.str (bQ y)) k' p''] [] p) (@RE.dS S kk o eo ch y apos p p' p'' k k' ho hb hp))
 (comp:∀{kk:KK} {elt:PE} {fu:Expr} {bI:List Nat} {dB:Bool} {dg:Expr} {ik:Nat} {ies:List PE} {gk:Expr} {cond:List PE} {dU:List Expr} {sc:Scope} {p:Pos} (hit:RI S kk ik ies gk) (hc:fA S (sk kk sc) cond dU) (he:RE S (sk kk sc) elt fu) (hs:oJ S kk bI dB dg sc) (hnn:ik≠3),motive kk (.comp elt bI dB ik ies cond) (.ListComp fu [⟨dg,gk,dU,0⟩] sc p) (@RE.comp S kk elt fu bI dB dg ik ies gk cond dU sc p hit hc he hs hnn))
 (lamD:∀{kk:KK} {x:Nat} {e:Expr} (h:S.mi x e) (hk:kk (S.nm x)=some .cell),motive kk (.lamD x) e (@RE.lamD S kk x e h hk))
 (ek:∀{kk:KK} {x k:Nat} {p p' p'':Pos} (hk:S.T.g6 k=some (.fn 900)) (h:kk (S.gn k)=some .globalImplicit) (hd:(S.gn k==("__debug__":Str))=false) (hd2:(S.nm x==("__debug__":Str))=false),motive kk (.ek x) (.Call (.Name (S.gn k) p') [.Name (S.nm x) p''] [] p) (@RE.ek S kk x k p p' p'' hk h hd hd2)):motive kk pe e h:=by
 revert h;induction pe using PE.casesOn with
 |aq i=>exact λh=>have h0:=h.h;h0.elim λk h0=>h0.elim λp h0=>mn (P:=λe=>∀h,motive kk (.aq i) e h) h0 (λh=>aq) h|ak l=>exact λh=>have h0:=h.h;h0.elim λk h0=>h0.elim λp h0=>mn (P:=λe=>∀h,motive kk (.ak l) e h) h0.1 (λh=>ak h0.2) h|ck=>exact λh=>have h0:=h.h;h0.elim λk h0=>h0.elim λp h0=>mn (P:=λe=>∀h,motive kk .ck e h) h0 (λh=>ck) h|cBool b=>exact λh=>have h0:=h.h;h0.elim λk h0=>h0.elim λp h0=>mn (P:=λe=>∀h,motive kk (.cBool b) e h) h0 (λh=>cBool) h|dx l=>exact λh=>have h0:=h.h;h0.elim λk h0=>h0.elim λp h0=>mn (P:=λe=>∀h,motive kk (.dx l) e h) h0.1 (λh=>dx h0.2) h|ah x=>exact λh=>have h0:=h.h;h0.elim λp h0=>mn (P:=λe=>∀h,motive kk (.ah x) e h) h0.1 (λh=>ah h0.2.1 h0.2.2.1 h0.2.2.2) h|dD k=>exact λh=>have h0:=h.h;h0.elim λp h0=>mn (P:=λe=>∀h,motive kk (.dD k) e h) h0.1 (λh=>dD h0.2.1 h0.2.2) h|attr o a=>exact λh=>have h0:=h.h;h0.elim λeo h0=>h0.elim λp h0=>mn (P:=λe=>∀h,motive kk (.attr o a) e h) h0.1 (λh=>attr ⟨h0.2.1⟩ h0.2.2) h|sub o i=>exact λh=>have h0:=h.h;h0.elim λeo h0=>h0.elim λei h0=>h0.elim λp h0=>mn (P:=λe=>∀h,motive kk (.sub o i) e h) h0.1 (λh=>sub ⟨h0.2.1⟩ ⟨h0.2.2⟩) h|eC o lo=>exact λh=>have h0:=h.h;h0.elim λeo h0=>h0.elim λnk h0=>h0.elim λp h0=>h0.elim λp' h0=>mn (P:=λe=>∀h,motive kk (.eC o lo) e h) h0.1 (λh=>eC ⟨h0.2.1⟩ ⟨h0.2.2⟩) h|fU o hi=>exact λh=>have h0:=h.h;h0.elim λeo h0=>h0.elim λp8 h0=>h0.elim λp h0=>h0.elim λp' h0=>mn (P:=λe=>∀h,motive kk (.fU o hi) e h) h0.1 (λh=>fU ⟨h0.2.1⟩ ⟨h0.2.2⟩) h|jw o lo hi=>exact λh=>have h0:=h.h;h0.elim λeo h0=>h0.elim λnk h0=>h0.elim λp8 h0=>h0.elim λp h0=>h0.elim λp' h0=>mn (P:=λe=>∀h,motive kk (.jw o lo hi) e h) h0.1 (λh=>jw ⟨h0.2.1⟩ ⟨h0.2.2.1⟩ ⟨h0.2.2.2⟩) h|aT es=>exact λh=>have h0:=h.h;h0.elim λees h0=>h0.elim λk h0=>h0.elim λp h0=>mn (P:=λe=>∀h,motive kk (.aT es) e h) h0.1 (λh=>aT ⟨h0.2⟩) h|lst es=>exact λh=>have h0:=h.h;h0.elim λees h0=>h0.elim λp h0=>mn (P:=λe=>∀h,motive kk (.lst es) e h) h0.1 (λh=>lst ⟨h0.2⟩) h|iI l=>exact λh=>have h0:=h.h;h0.elim λkeys h0=>h0.elim λvalues h0=>h0.elim λp h0=>h0.elim λD h0=>mn (P:=λe=>∀h,motive kk (.iI l) e h) h0.1 (λh=>iI h0.2) h|bin op a b=>exact λh=>have h0:=h.h;h0.elim λea h0=>h0.elim λeb h0=>h0.elim λp h0=>mn (P:=λe=>∀h,motive kk (.bin op a b) e h) h0.1 (λh=>bin ⟨h0.2.1⟩ ⟨h0.2.2⟩) h|dE a=>exact λh=>have h0:=h.h;h0.elim λea h0=>h0.elim λp h0=>mn (P:=λe=>∀h,motive kk (.dE a) e h) h0.1 (λh=>dE ⟨h0.2⟩) h|neg a=>exact λh=>have h0:=h.h;h0.elim λea h0=>h0.elim λp h0=>mn (P:=λe=>∀h,motive kk (.neg a) e h) h0.1 (λh=>neg ⟨h0.2⟩) h|dF es=>exact λh=>have h0:=h.h;h0.elim λees h0=>h0.elim λp h0=>mn (P:=λe=>∀h,motive kk (.dF es) e h) h0.1 (λh=>dF ⟨h0.2⟩) h|lM es=>exact λh=>have h0:=h.h;h0.elim λees h0=>h0.elim λp h0=>mn (P:=λe=>∀h,motive kk (.lM es) e h) h0.1 (λh=>lM ⟨h0.2⟩) h|cmp op a b=>exact λh=>have h0:=h.h;h0.elim λea h0=>h0.elim λeb h0=>h0.elim λp h0=>mn (P:=λe=>∀h,motive kk (.cmp op a b) e h) h0.1 (λh=>cmp ⟨h0.2.1⟩ ⟨h0.2.2⟩) h|ite t a b=>exact λh=>have h0:=h.h;h0.elim λet h0=>h0.elim λea h0=>h0.elim λeb h0=>h0.elim λp h0=>mn (P:=λe=>∀h,motive kk (.ite t a b) e h) h0.1 (λh=>ite ⟨h0.2.1⟩ ⟨h0.2.2.1⟩ ⟨h0.2.2.2⟩) h|ai k args=>exact λh=>have h0:=h.h;h0.elim λbP h0=>h0.elim λp h0=>h0.elim λp' h0=>mn (P:=λe=>∀h,motive kk (.ai k args) e h) h0.1 (λh=>ai h0.2.1 h0.2.2.1 ⟨h0.2.2.2⟩) h|dM x args=>exact λh=>have h0:=h.h;h0.elim λbP h0=>h0.elim λp h0=>h0.elim λp' h0=>mn (P:=λe=>∀h,motive kk (.dM x args) e h) h0.1 (λh=>dM h0.2.1 h0.2.2.1 h0.2.2.2.1 ⟨h0.2.2.2.2⟩) h|aY o m args=>exact λh=>have h0:=h.h;h0.elim λeo h0=>h0.elim λbP h0=>h0.elim λapos h0=>h0.elim λp h0=>mn (P:=λe=>∀h,motive kk (.aY o m args) e h) h0.1 (λh=>aY ⟨h0.2.1⟩ h0.2.2.1 ⟨h0.2.2.2.1⟩ h0.2.2.2.2.1 h0.2.2.2.2.2) h|joinR o x=>exact λh=>have h0:=h.h;h0.elim λeo h0=>h0.elim λex h0=>h0.elim λapos h0=>h0.elim λp h0=>h0.elim λp' h0=>h0.elim λp'' h0=>h0.elim λk h0=>mn (P:=λe=>∀h,motive kk (.joinR o x) e h) h0.1 (λh=>joinR ⟨h0.2.1⟩ h0.2.2.1 ⟨h0.2.2.2.1⟩ h0.2.2.2.2.1 h0.2.2.2.2.2.1 h0.2.2.2.2.2.2.1 h0.2.2.2.2.2.2.2.1 h0.2.2.2.2.2.2.2.2) h
 |dS o ch y=>exact λh=>have h0:=h.h;h0.elim λeo h0=>h0.elim λapos h0=>h0.elim λp h0=>h0.elim λp' h0=>h0.elim λp'' h0=>h0.elim λk h0=>h0.elim λk' h0=>mn (P:=λe=>∀h,motive kk (.dS o ch y) e h) h0.1 (λh=>dS ⟨h0.2.1⟩ h0.2.2.1 h0.2.2.2) h|comp elt bI dB ik ies cond=>exact λh=>have h0:=h.h;h0.elim λfu h0=>h0.elim λdg h0=>h0.elim λgk h0=>h0.elim λdU h0=>h0.elim λsc h0=>h0.elim λp h0=>mn (P:=λe=>∀h,motive kk (.comp elt bI dB ik ies cond) e h) h0.1 (λh=>comp h0.2.1 ⟨h0.2.2.1⟩ ⟨h0.2.2.2.1⟩ h0.2.2.2.2.1 h0.2.2.2.2.2) h|lamD x=>exact λh=>lamD h.h.1 h.h.2|ek x=>exact λh=>have h0:=h.h;h0.elim λk h0=>h0.elim λp h0=>h0.elim λp' h0=>h0.elim λp'' h0=>mn (P:=λe=>∀h,motive kk (.ek x) e h) h0.1 (λh=>ek h0.2.1 h0.2.2.1 h0.2.2.2.1 h0.2.2.2.2) h
@[elab_as_elim] theorem RI.cs{motive:∀(kk:KK) (ik:Nat) (ies:List PE) (e:Expr),RI S kk ik ies e->Prop}(h:RI S kk ik ies e)
  (plain:∀{kk a ea} (h:RE S kk a ea) (hs:∀x p,ea≠.Starred x p),motive kk 0 [a] ea (.plain h hs))
  (range:∀{kk k n a ea p p'} (hn:n=1∨n=2) (hk:S.T.g6 k=some (.fn 910)) (h:kk (S.gn k)=some .globalImplicit) (hd:(S.gn k==("__debug__":Str))=false) (ha:fA S kk a ea) (hl:ea.length=n),motive kk n a (.Call (.Name (S.gn k) p') ea [] p) (.range hn hk h hd ha hl)):motive kk ik ies e h:=by
 cases h with
 |plain h=>match ies,h with|[a],h=>exact plain ⟨h.1⟩ h.2.1
 |range hn hk h hd ha hl=>exact range hn hk h hd ⟨ha⟩ hl
theorem fA.CW{kk}:∀{er:List Expr},fA S kk [] er->er=[]|[],_=>rfl|_::_,h=>h.h.elim
theorem fA.ne{kk}:∀{r:List PE} {er:List Expr},fA S kk r er->r≠[]->∃e t,er=e::t|[],_,_,h=>bc rfl h|_::_,[],h,_=>h.h.elim|_::_,e::t,_,_=>⟨e,t,rfl⟩
theorem RE.Nj{kk:KK}{ies cond:List PE}(he:RE S kk (.comp elt bI dB ik ies cond) (.ListComp fu gens sc pc)):
  ∃dg gk dU,gens=[⟨dg,gk,dU,0⟩]/\RI S kk ik ies gk/\fA S (sk kk sc) cond dU/\RE S (sk kk sc) elt fu/\oJ S kk bI dB dg sc/\ik≠3:=by
 obtain⟨h⟩:=he;obtain⟨a1,a2,a3,a4,a5,a6,q,h1,h2,h3,h4,h5⟩:=h;cases q;exact⟨_,_,_,rfl,h1,⟨h2⟩,⟨h3⟩,h4,h5⟩
theorem fA.ind{kk}{motive:∀(l:List PE) (el:List Expr),fA S kk l el->Prop}(nil:motive [] [] .nil)(cons:∀{a ea r er} (h:RE S kk a ea) (hs:∀x p,ea≠.Starred x p) (t:fA S kk r er),motive r er t->motive (a::r) (ea::er) (.cons h hs t)):∀{l:List PE} {el:List Expr} (h:fA S kk l el),motive l el h|[],[],z_=>nil|[],_::_,h=>h.h.elim|_::_,[],h=>h.h.elim|a::r,e::t,h=>cons ⟨h.h.1⟩ h.h.2.1 ⟨h.h.2.2⟩ (fA.ind nil cons ⟨h.h.2.2⟩)
inductive gm(c:Ctx)(F:cF)(s:Shared)(g:G)(a:AV)(v:Value)(s':Shared):Prop
 |mk(F':cF)(x:XF s F F')(h:VM c F' v a)(i:Inv c F' g s')(y:∀L,L∉c.mu->(s.heap.get? L).isSome=true->eZ c L s s')
def Kp(c:Ctx)(F:cF)(f:Value):Prop:=∀h:Heap,(∀b o,F b=some o->h.get? b=some o)->∃k,(k=Keeper.frame∨k=Keeper.machine∨k=Keeper.boundFrame)/\Looks c.M h (keeperOf f) k
structure zI(S:Sys):Prop where
 fn:∀{i fb g r g' f ba F s A E},fX i=true->S.O i fb g=some (r,g')->S.cP A->S.c.eX i=some f->Inv S.c F g s->0<s.toks->S.c.base.objs.size<=s.heap.objs.size->dh S.c F ba fb->wpAny S.c.M A (call f ba) (gm S.c F s g' r) E s
 lam:∀{d fb g r g' f ba F s A E},S.O 800 (.int d::fb) g=some (r,g')->S.cP A->VM S.c F f (.lam d)->Inv S.c F g s->0<s.toks->S.c.base.objs.size<=s.heap.objs.size->dh S.c F ba fb->wpAny S.c.M A (call f ba) (gm S.c F s g' r) E s
 eD:∀{fb g r g' f ba F s A E},S.O 801 fb g=some (r,g')->S.cP A->VM S.c F f .eD->Inv S.c F g s->0<s.toks->S.c.base.objs.size<=s.heap.objs.size->dh S.c F ba fb->wpAny S.c.M A (call f ba) (gm S.c F s g' r) E s
 kp:∀{F f k},VM S.c F f (.fn k)->(∀b o,S.c.base.get? b=some o->F b=some o)->Kp S.c F f
 SN:∀{F f d},VM S.c F f (.lam d)->Kp S.c F f
 kpc:∀{F f},VM S.c F f .eD->Kp S.c F f
structure cQ(S:Sys):Prop where
 hlim:∀l,S.T.lim l=true->l.length<=8388608
 hon:S.T.on=false
 N:nu S.nm
 K:gD S.nm S.c
 B:zJ S.c
 by_:pF S.nm S.c
 WR:nt S.c
 WL:sS S.nm S.c
 sm:sysModules<S.c.base.objs.size
 rH:∀{A},S.cP A->A.handled=none
 rU:∀{A},S.cP A->A.units+61<cLine
 sx:zI S
 glob:∀{k a A E s F g env} {Q:Value->Shared->Prop},S.T.g6 k=some a->Inv S.c F g s->env.globals=mainGlobals->env.builtins=builtinsNs->(∀v,VM S.c F v a->Q v s)->wpAny S.c.M A (loadGlobal env (S.gn k)) Q E s
 lam:∀{x e env σ s F g d A E},S.mi x e->S.cP A->Inv S.c F g s->ax S.nm S.c env F σ s->env.kindOf (S.nm x)=some .cell->fW x σ.ah=some (.int d)->wpAny S.c.M A (eval e env) (aE S.c F s env.locals g (.lam d)) E s
 lamT:∀{x e},S.mi x e->(∀env x,foldedSetIterable e env x=pure x)/\(∀env w,isTrue e env w=(do let v ←w;standAt e.pos;holding [v] (truthy v)))/\∀o i,subscripted e false o i=operate [o,i] (getItem o i)
 jB:∀{m k},S.T.jB m=some k->∃f,S.c.eX k=some (.ref f)/\plainGet S.c.K 811 (S.nm m)=true/\findIn S.c.K (.ref 811) (S.nm m)=some (some (.ref f))/\isFn S.c.K (.ref f)=true/\fX k=true/\S.nm m≠"tokens"/\S.nm m≠"at"/\S.nm m≠"named"
 iJ:∀{m k},S.T.iJ m=some k->∃f,S.c.eX k=some (.ref f)/\plainGet S.c.K 470 (S.nm m)=true/\findIn S.c.K (.ref 470) (S.nm m)=some (some (.ref f))/\isFn S.c.K (.ref f)=true/\fX k=true/\S.nm m≠"reader"/\S.nm m≠"is_named"/\S.nm m≠"depth"/\S.nm m≠"last"
end
section
open PySem PySem.W PyProof.Rows PySem.Calls PySem.Builtin.Str PyProof.V
section
variable{nm:Nat->Str}{c:Ctx}{A:Around}{E:Value->Shared->Prop}{s:Shared}{F:cF}{g:G}{env:Env}{σ:Sg}
theorem gW(h:wpAny c.M A t (aE c F s env.locals g a) E s)(f:ax nm c env F σ s)
  (k:∀v s' F',XF s F F'->VM c F' v a->Inv c F' g s'->eZ c env.locals s s'->ax nm c env F' σ s'->Q v s'):wpAny c.M A t Q E s:=
 aM (wpAny_toks_of (aD _) h) (λ_ _ ⟨tk,_,X,V,I,Y⟩=>k _ _ _ X V I Y (f.step nm X Y tk)) (λz_ z_ x=>x.2)
theorem goB(h:wpAny c.M A t (ji c F s env.locals g b) E s)(f:ax nm c env F σ s)
  (k:∀s' F',XF s F F'->Inv c F' g s'->eZ c env.locals s s'->ax nm c env F' σ s'->Q b s'):wpAny c.M A t Q E s:=
 aM (wpAny_toks_of (aD _) h) (λ_ _ ⟨tk,e,_,X,I,Y⟩=>e▸k _ _ X I Y (f.step nm X Y tk)) (λz_ z_ x=>x.2)
theorem vz(h:wpAny c.M A t (Dp c F s env.locals g as) E s)(f:ax nm c env F σ s)
  (k:∀vs s' F',XF s F F'->dh c F' vs as->Inv c F' g s'->eZ c env.locals s s'->ax nm c env F' σ s'->Q vs s'):wpAny c.M A t Q E s:=
 aM (wpAny_toks_of (aD _) h) (λ_ _ ⟨tk,_,X,V,I,Y⟩=>k _ _ _ X V I Y (f.step nm X Y tk)) (λz_ z_ x=>x.2)
theorem io(X:XF s F F')(Y:eZ c env.locals s s')(h:wpAny c.M A t (aE c F' s' env.locals g' a) E s'):wpAny c.M A t (aE c F s env.locals g' a) E s':=
 aM h (λz_ z_ p=>p.after X Y) λz_ z_ x=>x
theorem pZ(X:XF s F F')(Y:eZ c env.locals s s')(h:wpAny c.M A t (ji c F' s' env.locals g' b) E s'):wpAny c.M A t (ji c F s env.locals g' b) E s':=
 aM h (λz_ z_ p=>p.after X Y) λz_ z_ x=>x
theorem XF.two(x:XF s F F')(y:eZ c L s s')(x':XF s' F' F''):XF s F F'':=x.trans y.alive x'
theorem i5(I:Inv c F g s)(f:ax nm c env F σ s)(hx:fW x σ.ah=some a)(hk:KL (env.kindOf (nm x)))(hc:(nm x==("__classdict__":Str))=false)
  (hQ:∀v,VM c F v a->Q v s):wpAny c.M A (loadName env (nm x)) Q E s:=by
 obtain⟨m,hn,hl,_⟩:=f.ns;obtain⟨v,hv,h⟩:=(hl x a hx hk);refine Or.elim h (λoz=>?_) λoz=>?_;(refine aG oz λh1 h2=>?_);rotate_left;(obtain⟨h1,cl,o,h2,h3,h4⟩:=oz);rotate_right
 ·exact wpAny_loadName_local f.kind h1 hn h2 (hQ v hv)
 ·have hC:s.heap.IsCell cl (some v):=⟨o,I.cE _ _ h3,h4⟩;refine Or.elim h1 (λh1=>?_) λh1=>?_
  ·exact wpAny_loadName_cell f.kind h1 h2 hC (hQ v hv)
  ·exact wpAny_loadName_free f.kind h1 h2 hC (hQ v hv) hc
theorem lK(I:Inv c F g s)(hv:VM c F v a)(h:dn a=some b):wpAny c.M A (truthy v) (ji c F s env.locals g b) E s:=
 BD I hv h λt=>⟨rfl,F,XF.refl,I.toks t,eZ.toks t⟩
theorem Bt(I:Inv c F g s)(hv:dh c F vs as)(hn:as.length<=1048576):wpAny c.M A (newTuple vs) (aE c F s env.locals g (.aT as)) E s:=by have e:=hv.length;refine wpAny_newObj_type ?_ (by show vs.toArray.size<=sizeLine;rw[bX,e,sizeLine_eq];exact BE hn e);refine dy (I.push {cls:=.type "tuple",data:=.seq vs.toArray} rfl s.toks) λJ1 J2 J3=>?_;exact⟨_,J2,.aT (b9 _ _ _) rfl rfl hn (by rw[List.toList_toArray];exact hv.mono J2.ext),J1,J3 _⟩
theorem xY(I:Inv c F g s)(hv:dh c F vs as)(hn:as.length<=1048576):wpAny c.M A (newList vs) (aE c F s env.locals g (.list as)) E s:=by have e:=hv.length;refine wpAny_newObj_type ?_ (by show vs.toArray.size<=sizeLine;rw[bX,e,sizeLine_eq];exact BE hn e);refine dy (I.push {cls:=.type "list",data:=.seq vs.toArray} rfl s.toks) λJ1 J2 J3=>?_;exact⟨_,J2,.list (b9 _ _ _) rfl rfl hn (by rw[List.toList_toArray];exact hv.mono J2.ext),J1,J3 _⟩
theorem G4(h:toPy a=some d)(hb:∀x,a=.str x->x.length<=16777216)(hf:Flat v d):VM c F v a:=by induction a using AV.casesOn with|int i=>rw[←bD h id]at hf;refine b0 hf.int_inv λt e=>?_;rw[e];exact .int|str l=>rw[←bD h id]at hf;refine b0 hf.str_inv λt e=>?_;rw[e];exact .str (hb _ rfl)|_=>exact aI h
theorem sO:∀{l:List (List Nat×AV)} {D:List (PyData×PyData)} {kvs:List (Str×Value)},vI l=some D->(∀q∈l,∀x,q.2=.str x->x.length<=16777216)->FlatPairs PyData.str kvs D->Gq c F kvs l
 |[],D,kvs,h,_,hf=>by(refine bD h λx=>?_;subst x);cases hf;exact .nil|(k,a)::l,D,kvs,h,hb,hf=>by
  refine aH (a8 h) λd e1 h=>aH (a8 h) λD' e2 h=>?_;refine bD h λx=>?_;subst x;cases hf with|@cons k' v _ kvs' _ h1 h2=>
  exact .cons (G4 e1 (hb _ (.head _)) h1) (sO e2 (λq hq=>hb q (.tail _ hq)) h2)
theorem gm.Kk(h:gm c F s g a v s')(f:ax nm c env F σ s):aE c F s env.locals g a v s':=by obtain⟨F',X,V,I,Y⟩:=h;exact⟨F',X,V,I,Y _ f.cR f.alive⟩
theorem dY(h:fA S kk pD es)(env):starEach es env=es.map λe=>(false,eval e env):=
 h.ind (motive:=λz_ es z_=>starEach es env=es.map λe=>(false,eval e env)) rfl λ{a ea r er} z_ hs z_ ih=>by rw[aC,←ih];induction ea using Expr.casesOn<;>first|rfl|exact bc rfl (hs _ _)
theorem cX(pos)(env):∀es:List Expr,backTo pos (es.map λe=>(false,eval e env))=es.map λe=>(false,eval e env)|[]=>rfl|e::es=>by show(false,eval e env)::backTo pos (es.map λe=>(false,eval e env))=_;rw[cX pos env es];rfl
theorem noStar(env):∀es:List Expr,(es.map λe=>(false,eval e env)).any (·.1)=false|[]=>rfl|e::es=>by rw[aC,List.any_cons,noStar env es];rfl
theorem ft{es:List Expr}(hk:Kp c F f)
  (h:wpAny c.M A (spliced (es.map λe=>(false,eval e env))) (λvs s₁=>(∀b o,F b=some o->s₁.heap.get? b=some o)/\wpAny c.M A (call f (first++vs)) Q E s₁) E s):
  wpAny c.M A (callWith pos f first (es.map λe=>(false,eval e env)) []) Q E s:=by
 refine callWith_of (P:=λh=>∀b o,F b=some o->h.get? b=some o) (by rw[noStar];rfl) hk ?_;cases es with|nil=>refine an (an (aM h (λvs s' h'=>?_) λz_ z_ x=>x));refine aP<|wpAny_holding<|an (aP (an (aP (aP h'))))|cons e es=>exact Calls.evalArgs_plain h
end
section
variable{nm:Nat->Str}{c:Ctx}{A:Around}{E:Value->Shared->Prop}{s:Shared}{F:cF}{g:G}{env:Env}{σ:Sg}
structure MS(nm:Nat->Str)(c:Ctx)(F:cF)(bI:List Nat)(m m':Str->Option Value)(l l':Loc):Prop where
 new:∀x∈bI,∃w a,fW x l'=some a/\m' (nm x)=some w/\VM c F w a
 Eb:∀y,(∀x∈bI,nm x≠y)->m' y=m y
 G0:∀y,y∉bI->fW y l'=fW y l
structure dZ(L:Addr)(s s':Shared):Prop where
 keep:∀b o,b≠L->s.heap.get? b=some o->s'.heap.get? b=some o
 alive:∀b,(s.heap.get? b).isSome=true->(s'.heap.get? b).isSome=true
 gens:s'.gens=s.gens
 os:s'.os=s.os
theorem dZ.refl:dZ L s s:=⟨λz_ z_ z_ e=>e,λz_ e=>e,rfl,rfl⟩
theorem dZ.trans(x:dZ L s s')(y:dZ L s' s''):dZ L s s'':=
 ⟨λb o h e=>y.keep b o h (x.keep b o h e),λb e=>y.alive b (x.alive b e),y.gens.trans x.gens,y.os.trans x.os⟩
theorem kG(hL:env.locals=L)(hk:env.scope.kind=.function)(hl:env.kindOf (nm x)=some .local)(hn:s.heap.Ns L m)
  (hQ:∀s',s'.heap.Ns L (λy=>if y=nm x then some v else m y)->dZ L s s'->Q () s'):wpAny c.M A (assign (.Name (nm x) px) env v) Q E s:=by
 subst hL;refine wpAny_assign_Name (wpAny_storeName_local hl hn (λh' hn' hs=>hQ _ hn' ⟨λb o h1 e=>hs.extBut b o h1 e,λb e=>?_,rfl,rfl⟩) (by rw[hk];rfl));by_cases q:b=env.locals
 ·subst q;exact gp hn'
 ·refine b0 (bu e) λo e=>?_;rw[hs.extBut b o q e];rfl
theorem wh(hL:env.locals=L)(hk:env.scope.kind=.function)(inj:∀i j,nm i=nm j->i=j):∀(ns:List Expr) (bI:List Nat) (ba:List Value) (as:List AV) (s:Shared) (m:Str->Option Value) (l:Loc) {Q:Unit->Shared->Prop},ns.length=bI.length->
  (∀(i x:Nat) (e:Expr),bI[i]?=some x->ns[i]?=some e->∃px,e=Expr.Name (nm x) px)->(∀x∈bI,env.kindOf (nm x)=some .local)->bI.Nodup->dh c F ba as->as.length=bI.length->s.heap.Ns L m->
  (∀s' m',s'.heap.Ns L m'->dZ L s s'->MS nm c F bI m m' l ((bI.zip as).foldl (λl p=>db p.1 p.2 l) l)->Q () s')->
  wpAny c.M A (assignInOrder ((assignEach ns env).map (·.2)) ba) Q E s
 |[],[],ba,as,s,m,l,Q,_,_,_,_,hv,ha,hn,hQ=>by cases as with|nil=>cases hv;exact aP (hQ s m hn dZ.refl ⟨λx hx=>(nomatch hx),λz_ z_=>rfl,λz_ z_=>rfl⟩)|cons a as=>cases ha
 |e::ns,x::bI,ba,as,s,m,l,Q,h1,h2,h3,h4,hv,ha,hn,hQ=>by
  cases hv with
  |nil=>cases ha|@cons v ba a as hv hvs=>
   refine b0 (h2 0 x e rfl rfl) λpx dN=>?_;subst dN;rw[cn]at h4;refine an (wpAny_holding (kG hL hk (h3 x (.head _)) hn λs1 hn1 o1=>?_));refine wh hL hk inj ns bI ba as s1 _ (db x a l) (by simpa using h1) (λi y e hy he=>h2 (i+1) y e (by simpa using hy) (by simpa using he)) (λy hy=>h3 y (.tail _ hy)) h4.2 hvs (by simpa using ha) hn1 λs2 m2 hn2 o2 B=>?_;refine hQ s2 m2 hn2 (o1.trans o2) ⟨λy hy=>?_,λy hy=>?_,λy hy=>?_⟩
   ·(clear h3 ha hQ h2 hn1;(refine Or.elim (am.mp hy) (λoz=>?_) λhy=>?_;(subst oz)))
    ·refine⟨v,a,?_,?_,hv⟩
     ·rw[List.zip_cons_cons,List.foldl_cons,B.G0 y h4.1,cv,br rfl]
     ·rw[B.Eb (nm y) λz hz e=>h4.1 (inj _ _ e▸hz),br rfl]
    ·exact B.new y hy
   ·rw[B.Eb y λz hz=>hy z (.tail _ hz),bi λe=>hy x (.head _) e.symm]
   ·rw[am,not_or]at hy;rw[List.zip_cons_cons,List.foldl_cons,B.G0 y hy.2,cv,bi hy.1]
 |[],_::_,_,_,_,_,_,_,h1,_,_,_,_,_,_,_=>by cases h1|_::_,[],_,_,_,_,_,_,h1,_,_,_,_,_,_,_=>by cases h1
theorem iQ:∀(ns:List Expr) (bI:List Nat),ns.length=bI.length->(∀(i x:Nat) (e:Expr),bI[i]?=some x->ns[i]?=some e->∃px,e=Expr.Name (nm x) px)->assignEach ns env=ns.map λe=>(false,assign e env)|[],_,_,_=>rfl|e::ns,[],h,_=>by cases h|e::ns,x::bI,h,h2=>by refine b0 (h2 0 x e rfl rfl) λpx dN=>?_;subst dN;have:=iQ ns bI (by simpa using h) (λi y e hy he=>h2 (i+1) y e (by simpa using hy) (by simpa using he));show(false,assign (.Name (nm x) px) env)::assignEach ns env=_;rw[this];rfl
theorem nw(hL:env.locals=L)(hk:env.scope.kind=.function)(inj:∀i j,nm i=nm j->i=j)(hh:A.handled=none)
  (ht:vJ nm bI dB dg) (hl:∀x∈bI,env.kindOf (nm x)=some .local) (hnd:bI.Nodup) (TW:∀b o,F b=some o->s.heap.get? b=some o) (hv:VM c F v a) (hb:jj bI dB a l=some l') (hn:s.heap.Ns L m)
  (hQ:∀s' m',s'.heap.Ns L m'->dZ L s s'->MS nm c F bI m m' l l'->Q () s'):wpAny c.M A (assign dg env v) Q E s:=by
 refine Or.elim ht (λoz=>?_) λoz=>?_;(obtain⟨rfl,x,px,rfl,rfl⟩:=oz);rotate_left;(obtain⟨rfl,ns,k,pt,rfl,h1,h2⟩:=oz);rotate_right
 ·have:l'=db x a l:=by unfold jj at hb;simpa using hb.symm
  subst this;refine kG hL hk (hl x (.head _)) hn λs' hn' o=>hQ s' _ hn' o ⟨λy hy=>?_,λy hy=>?_,λy hy=>?_⟩
  ·rw[aR]at hy;subst hy;exact⟨v,a,by rw[cv,br rfl],br rfl,hv⟩
  ·exact bi λe=>hy x (.head _) e.symm
  ·rw[aR]at hy;rw[cv,bi hy]
 ·refine zK hb λas e0 q e9=>?_;subst e0;subst e9;refine hv.qj λad o vs n hF hc hd hn' hvs=>?_;have ht:s.heap.IsTuple ad vs:=⟨o,TW _ _ hF,hc,n,hd⟩;have ea:=iQ (env:=env) ns bI h1 h2;have hsz:=hvs.length;rw[aW]at hsz;have star:∀ns:List Expr,(ns.map λe=>(false,assign e env)).findIdx? (·.1)=none:=by intro ns;rw[List.findIdx?_eq_none_iff];intro p hp;refine aH (cI.mp hp) λe z_ kO=>?_;subst kO;rfl
  refine wpAny_assign_Tuple hh ht (by rw[ea,bg,h1,hsz,q]) (by rw[ea];exact star ns) λh1' he=>?_;have on:dZ L s {s with heap:=h1'}:=by refine⟨λb o z_ e=>he b o (aJ (aN e)) e,λb e=>?_,rfl,rfl⟩;refine b0 (bu e) λo e=>?_;rw[he b o (aJ (aN e)) e];rfl
  have hn1:({s with heap:=h1'}:Shared).heap.Ns L m:=hn.at' λo e=>he L o (aJ (aN e)) e;refine wh hL hk inj ns bI vs.toList as {s with heap:=h1'} m l h1 h2 hl hnd hvs q hn1 λs' m' hn' o B=>hQ s' m' hn' (on.trans o) B
end
structure qk(c:Ctx)(F:cF)(L:Addr)(s₀ s:Shared)(items:List AV)(it:Value)(I:Addr)(fp:List Addr)(P:Nat->Value->Prop)(St:Nat->Heap->Prop):Prop where
 isI:it=.ref I
 walk:∀A':Around,A'.handled=none->Walks c.prog c.w A' I fp [I] items.length P St
 st:St 0 s.heap
 self:I∈fp
 cls:∀i h,St i h->nr h I
 fresh:(s₀.heap.get? I).isSome=false
 ul:F I=none
 mq:I∉c.mu
 CN:I≠L
 fps:∀b∈fp,b=I∨∃o,F b=some o
 ba:∀i v a,P i v->items[i]?=some a->VM c F v a
section
variable{nm:Nat->Str}{c:Ctx}{A:Around}{E:Value->Shared->Prop}{s:Shared}{F:cF}{g:G}{env:Env}{σ:Sg}
theorem iM{h:Heap}:(h.get? h.objs.size).isSome=false:=by cases e:h.get? h.objs.size with|none=>rfl|some o=>exact bc (aN e) (eN _)
theorem Oe(hb:nt c)(I:Inv c F g s)(f:ax nm c env F σ s)(hv:VM c F v a)(hi:seqItems a=some items)
  (hQ:∀it s',(∃Ia fp P St,qk c F env.locals s s' items it Ia fp P St)->Inv c F g s'->eZ c env.locals s s'->ax nm c env F σ s'->Q it s'):wpAny c.M A (pyIter v) Q E s:=by
 have ag:∀(o:Obj),let s':Shared:={s with heap:=s.heap.push o};Inv c F g s'/\eZ c env.locals s s'/\ax nm c env F σ s':=λo=>by refine aG (I.gc o s.toks) λa b=>⟨a,b _,f.step nm XF.refl (b _) (aD _)⟩
 have KQ:=λh=>I.BN h rfl;have hL:=(aJ (bw f.alive)).symm;refine yp hi ?_ ?_ ?_ ?_<;>clear hi<;>intro l ea ei<;>rw[ea]at hv<;>rw[←ei]at hQ<;>clear ea ei
 ·refine hv.qj λad o vs n hF hc hd hn hvs=>?_;have ht:=I.isTuple hF hc hd;refine dy (ag {cls:=.type "tuple_iterator",data:=.fields #[.ref ad,.int 0 0]}) λr1 r2 r3=>?_;have hl:=hvs.length;refine wpAny_pyIter_tuple ht (hQ _ _ ⟨s.heap.objs.size,[s.heap.objs.size,ad],λi v=>vs[i]?=some v,λi h=>h.IsTupleIter s.heap.objs.size ad i/\h.IsTuple ad vs,?_⟩ r1 r2 r3)
  exact{
      isI:=rfl
      walk:=λA' hA=>hl▸Walks.tuple hA s.heap.objs.size ad (aJ (aN (I.cE _ _ hF))) vs
      st:=⟨⟨_,be _ rfl,rfl,rfl⟩,I.isTuple hF hc hd|>.push _⟩
      self:=.head _
      cls:=λi h st=>by refine nE st.1 λo h1 h2 z_=>?_;exact⟨o,_,h1,h2,by decide⟩
      fresh:=iM
      ul:=I.free
      mq:=KQ
      CN:=hL
      fps:=λb hb=>by
       refine Or.elim (am.mp hb) (λoz=>?_) λhb=>?_;(subst oz)
       ·exact .inl rfl
       ·rw[aR]at hb;subst hb;exact .inr ⟨_,hF⟩
      ba:=λi v a hP ha=>by
       refine aH (hvs.get ha) λw h1 h2=>?_;have:some w=some v:=by rw[←h1,←hP];simp
       (refine bD this λx=>?_;subst x);exact h2}
 ·refine hv.listE λad o vs n hF hc hd hn hvs=>?_;have ht:=I.isList hF hc hd;refine dy (ag {cls:=.type "list_iterator",data:=.fields #[.ref ad,.int 0 0]}) λr1 r2 r3=>?_;have hl:=hvs.length;refine wpAny_pyIter_list ht (hQ _ _ ⟨s.heap.objs.size,[s.heap.objs.size,ad],λi v=>vs[i]?=some v,λi h=>h.IsListIter s.heap.objs.size ad i/\h.IsList ad vs,?_⟩ r1 r2 r3)
  exact{
      isI:=rfl
      walk:=λA' hA=>hl▸Walks.list hA s.heap.objs.size ad (aJ (aN (I.cE _ _ hF))) vs
      st:=⟨⟨_,be _ rfl,rfl,rfl⟩,by refine aH ht λo h1 h2=>?_;exact⟨o,az _ h1,h2⟩⟩
      self:=.head _
      cls:=λi h st=>by refine nE st.1 λo h1 h2 z_=>?_;exact⟨o,_,h1,h2,by decide⟩
      fresh:=iM
      ul:=I.free
      mq:=KQ
      CN:=hL
      fps:=λb hb=>by
       refine Or.elim (am.mp hb) (λoz=>?_) λhb=>?_;(subst oz)
       ·exact .inl rfl
       ·rw[aR]at hb;subst hb;exact .inr ⟨_,hF⟩
      ba:=λi v a hP ha=>by
       refine aH (hvs.get ha) λw h1 h2=>?_;have:some w=some v:=by rw[←h1,←hP];simp
       (refine bD this λx=>?_;subst x);exact h2}
 ·refine aH (jz hv) λt dN hn=>?_;subst dN
  have step:∀(T:String) (hW:∀A':Around,A'.handled=none->Walks c.prog c.w A' s.heap.objs.size [s.heap.objs.size] [s.heap.objs.size] (bQ l).cps.size (SignAt (bQ l)) (λi h=>h.IsStrIter s.heap.objs.size T (bQ l) t i))
    (hT:["enumerate","zip","dict_itemiterator","dict_reverseitemiterator","odict_iterator","itertools.zip_longest","itertools.pairwise"].contains T=false),
    Q (.ref s.heap.objs.size) {s with heap:=s.heap.push {cls:=.type T,data:=.fields #[.str (bQ l) t,.int 0 0]}}:=λT hW hT=>by
   refine dy (ag {cls:=.type T,data:=.fields #[.str (bQ l) t,.int 0 0]}) λr1 r2 r3=>hQ _ _ ⟨s.heap.objs.size,[s.heap.objs.size],SignAt (bQ l),λi h=>h.IsStrIter s.heap.objs.size T (bQ l) t i,?_⟩ r1 r2 r3
   exact{
       isI:=rfl
       walk:=λA' hA=>by rw[bg];exact hW A' hA
       st:=⟨_,be _ rfl,rfl,rfl⟩
       self:=.head _
       cls:=λi h st=>by refine nE st λo h1 h2 z_=>?_;exact⟨o,_,h1,h2,hT⟩
       fresh:=iM
       ul:=I.free
       mq:=KQ
       CN:=hL
       fps:=λb hb=>.inl (by simpa using hb)
       ba:=λi v a hP ha=>by
        revert hP;refine λoz=>bU oz λch u h1 sy=>?_;clear oz;subst sy;have h1:l[i]?=some ch:=by simpa using h1
        rw[List.getElem?_map,h1]at ha;refine bD ha λx=>?_;subst x;exact .str (l:=[ch]) (by simp)}
  cases ha:(bQ l).cps.all (·<128)
  ·exact wpAny_pyIter_wide ha (step "str_iterator" (λA' hA=>Walks.strWide hA _ _ t) (by decide))
  ·exact wpAny_pyIter_ascii ha (step "str_ascii_iterator" (λA' hA=>Walks.strAscii hA _ _ t) (by decide))
 ·refine aH (jG hv) λt dN hn=>?_;subst dN;refine hb λo St ho hW hst hc=>dy (ag o) λr1 r2 r3=>hQ _ _ ⟨s.heap.objs.size,[s.heap.objs.size],λi v=>∃x u,((l.map UInt8.ofNat).toArray)[i]?=some x/\v=.int (x.toNat:Int) u,St,?_⟩ r1 r2 r3
  exact{
      isI:=rfl
      walk:=λA' hA=>by have:=hW A' hA;rw[show(l.map UInt8.ofNat).toArray.size=l.length from by simp]at this;rw[bg];exact this
      st:=hst
      self:=.head _
      cls:=hc
      fresh:=iM
      ul:=I.free
      mq:=KQ
      CN:=hL
      fps:=λb hb=>.inl (by simpa using hb)
      ba:=λi v a hP ha=>by
       revert hP;refine λoz=>bU oz λx u h1 sy=>?_;clear oz;subst sy;have h3:(l.map UInt8.ofNat)[i]?=some x:=by simpa using h1
       rw[List.getElem?_map,aX]at h3 ha;revert h3;refine λoz=>aH oz λy h4 kO=>?_;clear oz;subst kO;revert ha;refine λoz=>aH oz λy' h2 kO=>?_;clear oz;subst kO;rw[h4]at h2;(refine bD h2 λx=>?_;subst x);have:=hn y (List.mem_of_getElem? h4);rw[show((UInt8.ofNat y).toNat:Int)=Int.ofNat y from by
        rw[UInt8.toNat_ofNat',Nat.mod_eq_of_lt (by omega)];rfl]
       exact .int}
theorem i9:∀n a,(hJ a n).length=n|0,_=>rfl|n+1,a=>by unfold hJ;rw[ac,i9 n (a+1)]
theorem qw:∀(n a i:Nat) {x:AV},(hJ a n)[i]?=some x->x=.int ((a+i:Nat):Int)
 |0,a,i,x,h=>by simp[hJ]at h|n+1,a,0,x,h=>by simp[hJ]at h;exact h.symm|n+1,a,i+1,x,h=>by
  have h:(hJ (a+1) n)[i]?=some x:=by simpa [hJ]using h
  rw[qw n (a+1) i h];congr 1;exact Of
theorem zR{a n:Nat}(I:Inv c F g s)(f:ax nm c env F σ s)(hr:IsRange s.heap r x y 1 t u v)(hx:x=(a:Int))(hsz:Builtin.Range.rangeSize x y 1=(n:Int))(hsm:Builtin.Range.small x y 1=true)
  (hQ:∀it s',(∃Ia fp P St,qk c F env.locals s s' (hJ a n) it Ia fp P St)->Inv c F g s'->eZ c env.locals s s'->ax nm c env F σ s'->Q it s'):wpAny c.M A (pyIter (.ref r)) Q E s:=by
 subst hx;refine aG (I.gc {cls:=.type "range_iterator",data:=.fields #[rawInt a,rawInt (Builtin.Range.rangeSize a y 1),rawInt 1]} s.toks) λi1 i2=>wpAny_pyIter_range hr hsm (hQ _ _ ⟨s.heap.objs.size,[s.heap.objs.size],λi v=>∃t,v=.int ((a:Int)+i*1) t,λi h=>IsRangeIter h s.heap.objs.size ((a:Int)+(i:Nat)*1) ((n:Int)-(i:Nat)) 1,?_⟩ i1 (i2 _) (f.step nm XF.refl (i2 _) (aD _)))
 exact{
     isI:=rfl
     walk:=λA' hA=>by rw[i9 n a];exact Walks.range hA s.heap.objs.size (a:Int) 1 n
     st:=by
      rw[hsz];have e1:(a:Int)+((0:Nat):Int)*1=(a:Int):=by exact Og
      have e2:(n:Int)-((0:Nat):Int)=(n:Int):=by exact Oh
      exact be _ rfl
     self:=.head _
     cls:=λi h st=>⟨_,_,st,rfl,by decide⟩
     fresh:=iM
     ul:=I.free
     mq:=λh=>I.BN h rfl
     CN:=(aJ (bw f.alive)).symm
     fps:=λb hb=>.inl (by simpa using hb)
     ba:=λi w b hP hb=>by
      revert hP;refine λoz=>b0 oz λt' dN=>?_;clear oz;subst dN;rw[qw _ _ _ hb];have e:((a+i:Nat):Int)=(a:Int)+(i:Int)*1:=by exact Oi
      rw[e];exact .int}
end
section
variable{c:Ctx}{s:Shared}{F:cF}{g:G}
theorem Inv.grow(I:Inv c F g s)(hk:∀b o,s.heap.get? b=some o->h'.get? b=some o)(t):Inv c F g {s with heap:=h',toks:=t}:=
 ⟨λb o e=>hk _ _ (I.cE b o e),I.base,I.apart,I.d7.mono (Ext.refl F) λb z_ o e=>hk _ _ e,I.fJ⟩
theorem iZ{h h':Heap}(hk:∀b o,h.get? b=some o->h'.get? b=some o)(b)(e:(h.get? b).isSome=true):(h'.get? b).isSome=true:=by refine b0 (bu e) λo e=>?_;rw[hk _ _ e];rfl
theorem eZ.grow{L:Addr}(hk:∀b o,s.heap.get? b=some o->h'.get? b=some o)(t):eZ c L s {s with heap:=h',toks:=t}:=
 ⟨λb o z_ z_ e=>hk _ _ e,λm' x=>x.keeps hk,iZ hk,rfl,rfl⟩
end
def ej(S:Sys)(n:Nat):Prop:=∀{kk:KK} {pe:PE} {e:Expr},RE S kk pe e->∀{env:Env} {σ:Sg} {g g':G} {a:AV} {F:cF} {s:Shared} {A:Around} {E:Value->Shared->Prop},(∀x,env.kindOf x=kk x)->S.cP A->
 ev S.T S.O n pe σ g=some (a,g')->Inv S.c F g s->ax S.nm S.c env F σ s->wpAny S.c.M A (eval e env) (aE S.c F s env.locals g' a) E s/\
  ∀b,dn a=some b->wpAny S.c.M A (isTrue e env (eval e env)) (ji S.c F s env.locals g' b) E s
section
variable{S:Sys}{n:Nat}{env:Env}{σ:Sg}{A:Around}{E:Value->Shared->Prop}{s:Shared}{F:cF}{kk:KK}
theorem lL(ih:ej S n)(hk:∀x,env.kindOf x=kk x)(hA:S.cP A):∀{pD:List PE} {es:List Expr} {g g':G} {as:List AV} {F:cF} {s:Shared},fA S kk pD es->ci (ev S.T S.O n) pD σ g=some (as,g')->Inv S.c F g s->ax S.nm S.c env F σ s->
  wpAny S.c.M A (spliced (es.map λe=>(false,eval e env))) (Dp S.c F s env.locals g' as) E s:=by
 intro pD es g g' as F s hr;induction hr using fA.ind generalizing g g' as F s with|nil=>intro h I f;refine fS h λx y=>?_;subst x y;exact cf ⟨F,XF.refl,.nil,I,eZ.refl⟩|cons hr hs t ihs=>refine iG λv g1 e1 h=>?_;revert h;refine xJ λvs g2 e2 h I f=>?_;refine fS h λx y=>?_;subst x y;refine bG (gW (ih hr hk hA e1 I f).1 f λv' s' F' X V I' Y f'=>?_);refine vz (ihs e2 I' f') f' λvs' s2 F2 X2 V2 I2 Y2 f2=>⟨F2,X.two Y X2,.cons (V.mono X2.ext) V2,I2,Y.trans Y2⟩
theorem sU(ok:cQ S)(h:RE S kk pe e)(env)(x):foldedSetIterable e env x=pure x:=by induction h using RE.cs<;>first|rfl|(exact(ok.lamT (by assumption)).1 env x)
theorem GD(ok:cQ S)(h:RE S kk pe e):∀o i,subscripted e false o i=operate [o,i] (getItem o i):=by induction h using RE.cs<;>first|(intro o i;rfl)|exact(ok.lamT (by assumption)).2.2
theorem ku(ok:cQ S)(hk:∀x,env.kindOf x=kk x)(h:kk (S.gn k)=some .globalImplicit)(hd:(S.gn k==("__debug__":Str))=false)(hv:S.T.g6 k=some a)(I:Inv S.c F g s)(f:ax S.nm S.c env F σ s)
  (hQ:∀v,VM S.c F v a->Q v s):wpAny S.c.M A (eval (.Name (S.gn k) p) env) Q E s:=
 Calls.Name_function_global f.kind (by rw[hk];exact h) (ok.glob hv I f.glob f.blt hQ) hd
structure mj(S:Sys):Prop where
 Ur:S.c.eX 910=some (.type "range")
 SI:S.c.eX 912=some (.type "reversed")
theorem zL(ok:cQ S)(rg:mj S)(ih:ej S n)(hk:∀x,env.kindOf x=kk x)(hA:S.cP A)(hr:RI S kk ik ies gk)
  (he:ci (ev S.T S.O n) ies σ g=some (vs,g1)) (hi:eS ik vs=some items) (cM:items.length<=100000) (I:Inv S.c F g s) (f:ax S.nm S.c env F σ s)
  (hQ:∀it s₁ s₂ F',(∃Ia fp P St,qk S.c F' env.locals s₁ s₂ items it Ia fp P St)->XF s F F'->Inv S.c F' g1 s₂->eZ S.c env.locals s s₁->eZ S.c env.locals s₁ s₂->ax S.nm S.c env F' σ s₂->Q it s₂):
  wpAny S.c.M A (eval gk env) (λx s₁=>wpAny S.c.M A (pyIter x) Q E s₁) E s:=by
 induction hr using RI.cs with
 |plain h hs=>revert he;refine iG λv g2 e1 he=>?_;refine fS he λx y=>?_;subst x y;refine gW (ih h hk hA e1 I f).1 f λv' s' F' X V I' Y f'=>?_;have hi:=hi;exact Oe ok.WR I' f' V hi λit s2 J I2 Y2 f2=>hQ it s' s2 F' J X I2 Y Y2 f2|@range _ kf _ a ea p p' hn hkf h hd ha hl=>
  refine an (ku ok hk h hd hkf I f λfv sw=>?_);rw[dY ha env,cX];have sw:S.c.eX 910=some fv:=sw.IZ λh=>h;rw[rg.Ur]at sw;(refine bD sw λx=>?_;subst x);refine ft (c:=S.c) (F:=F) (λh z_=>⟨.machine,.inr (.inl rfl),Looks.of_pure rfl⟩)<|vz (lL ih hk hA ha he I f) f λvs' s' F' X V I' Y f'=>⟨λb o e=>I'.cE _ _ (X.ext _ _ e),?_⟩
  (clear hl;(refine Or.elim hn (λoz=>?_) λoz=>?_;(subst oz);rotate_left;(subst oz);rotate_right))
  ·refine aH (a8 hi) λx e1 hi=>aH (a8 hi) λm e2 hi=>?_;refine bD hi λx=>?_;subst x;rw[lO e1,gb e2]at V;refine aH (ip V) λv dN hv=>?_;subst dN;refine hv.dJ λt=>call_range_1<|aG (I'.gc {cls:=.type "range",data:=.fields #[.int 0 s'.toks,.int (Int.ofNat m) t,.int 1 (s'.toks+1)]} (s'.toks+1+1)) λJ1 J2=>?_
   have f2:=f'.step S.nm XF.refl (J2 _) (by show s'.toks<=s'.toks+1+1;exact PY);rw[i9]at cM;refine zR (a:=0) (n:=m) J1 f2 (IsRange.new _ _ _ _ _ _ _) rfl ?_ (small_one (by omega) (by omega) (by simp only[bj];omega) (by simp only[bj];omega)) λit s2 J I2 Y2 f3=>hQ it _ s2 F' J X I2 (Y.trans (J2 _)) Y2 f3;rw[rangeSize_one]
   split<;>(first|exact PZ|exact P0 cM ‹_›)
  ·refine aH (a8 hi) λx e1 hi=>aH (a8 hi) λa' e2 hi=>aH (a8 hi) λb' e3 hi=>aG (dX hi) λq hi=>?_;refine bD hi λx=>?_;subst x;rw[ni e1,gb e2,gb e3]at V;cases V with|@cons v1 vs1 _ _ hv1 V=>
   refine aH (ip V) λv2 dN hv2=>?_;subst dN;refine hv1.dJ λt1=>hv2.dJ λt2=>call_range_2 ?_;rw[aV]at q;have q1:=aa q.1;have q2:=aa q.2;rw[i9]at cM;refine aG (I'.gc {cls:=.type "range",data:=.fields #[.int (Int.ofNat a') t1,.int (Int.ofNat b') t2,.int 1 s'.toks]} (s'.toks+1)) λJ1 J2=>?_;have f2:=f'.step S.nm XF.refl (J2 _) (by show s'.toks<=s'.toks+1;exact mA 0 1 rfl);refine zR (a:=a') (n:=b' - a') J1 f2 (IsRange.new _ _ _ _ _ _ _) rfl ?_ (small_one (by simp only[bj];omega) (by simp only[bj];omega) (by simp only[bj];omega) (by simp only[bj];omega)) λit s2 J I2 Y2 f3=>hQ it _ s2 F' J X I2 (Y.trans (J2 _)) Y2 f3;rw[rangeSize_one]
   split<;>(first|exact P1 ‹_›|exact P2 cM ‹_›)
noncomputable def clsOf(env:Env):List (Str×NameKind)->List (Str×Addr)->List (Str×Addr)|[],acc=>acc|(n,k)::r,acc=>if k==.free then clsOf env r ((n,(env.cells.lookup n).getD 0)::acc)else clsOf env r acc
theorem uO{acc:List (Str×Addr)}:clsOf env ((x,k)::r) acc=if k==.free then clsOf env r ((x,(env.cells.lookup x).getD 0)::acc)else clsOf env r acc:=rfl
theorem yd(h:∀y∈sc.names,y.2=.free->∃cl,env.cells.lookup y.1=some cl):closureFor sc env=pure (clsOf env sc.names []):=by
 have key:∀(l:List (Str×NameKind)) (acc:List (Str×Addr)),(∀y∈l,y.2=.free->∃cl,env.cells.lookup y.1=some cl)->
   (forIn l acc (λx r=>match x with|(name,kind)=>if(kind==NameKind.free)=true then do let a ←cellOf env name;pure (ForInStep.yield ((name,a)::r))else pure (ForInStep.yield r)):Sem (List (Str×Addr)))=pure (clsOf env l acc):=by
  intro l;induction l with
  |nil=>intro acc _;rfl|cons x l ih=>
   intro acc hl;obtain⟨n,k⟩:=x;rw[List.forIn_cons];rw[uO];by_cases q:(k==NameKind.free)=true
   ·refine b0 (hl (n,k) (.head _) (by simpa using q)) λcl e=>?_;have e:env.cells.lookup n=some cl:=e;simp only[q,if_true,cellOf,e,Option.getD_some,pure_bind];exact ih _ λy hy=>hl y (.tail _ hy)
   ·simp only[q,if_false,pure_bind];exact ih _ λy hy=>hl y (.tail _ hy)
 unfold closureFor;have:=key sc.names [] h;simp only[bind_pure]at this ⊢;exact this
theorem ny:∀(l:List (Str×NameKind)) (acc:List (Str×Addr)),(∀y∈l,y.2=.free->∃cl,env.cells.lookup y.1=some cl)->(∀p∈acc,env.cells.lookup p.1=some p.2)->∀p∈clsOf env l acc,env.cells.lookup p.1=some p.2
 |[],acc,_,h,p,hp=>h p hp|(n,k)::r,acc,hl,h,p,hp=>by
  rw[uO]at hp;by_cases q:(k==NameKind.free)=true
  ·rw[br q]at hp;refine b0 (hl (n,k) (.head _) (by simpa using q)) λcl e=>?_;have e:env.cells.lookup n=some cl:=e;refine ny r _ (λy hy=>hl y (.tail _ hy)) (λp' hp'=>?_) p hp;refine Or.elim (am.mp hp') (λoz=>?_) λhp'=>?_;(subst oz)
   ·rw[e];rfl
   ·exact h p' hp'
  ·rw[bi q]at hp;exact ny r _ (λy hy=>hl y (.tail _ hy)) h p hp
theorem nx:∀(l:List (Str×NameKind)) (acc:List (Str×Addr)) (x:Str),((x,NameKind.free)∈l∨x∈acc.map (·.1))->x∈(clsOf env l acc).map (·.1)
 |[],acc,x,h=>by
  refine Or.elim h (λh=>?_) λh=>?_
  ·cases h
  ·exact h
 |(n,k)::r,acc,x,h=>by
  rw[uO];by_cases q:(k==NameKind.free)=true
  ·rw[br q];refine nx r _ x<|Or.elim h (λh=>?_) λh=>?_
   ·refine Or.elim (am.mp h) (λh=>?_) λh=>?_
    ·cases h;exact .inr (.head _)
    ·exact .inl h
   ·exact .inr (.tail _ h)
  ·rw[bi q];refine nx r _ x<|Or.elim h (λh=>?_) λh=>?_
   ·refine Or.elim (am.mp h) (λh=>?_) λh=>?_
    ·cases h;exact bc rfl q
    ·exact .inl h
   ·exact .inr h
theorem sz{l:List (Str×Addr)}(h:x∈l.map (·.1))(hm:∀p∈l,env.cells.lookup p.1=some p.2):l.lookup x=env.cells.lookup x:=by
 induction l with
 |nil=>cases h|cons p l ih=>
  obtain⟨y,a⟩:=p;by_cases q:x=y
  ·subst q;rw[aQ,bz];exact(hm _ (.head _)).symm
  ·have qb:(x==y)=false:=by simpa using q
   rw[aQ,qb];refine ih ?_ λp hp=>hm p (.tail _ hp);rw[aC,am]at h;exact h.resolve_left q
end
section
variable{prog:Program}{w:World}{A:Around}{R:Result->Shared->Prop}{s:Shared}
theorem um(I:Nat->Shared->Prop)
  (turn:∀n s,I n s->wpAny (model prog w) A (pyNext it) (λr s₁=>match r with
   |none=>R (.ok .next) s₁|some v=>wpAny (model prog w) A (letOwnedTupleGo target it v) (λz_ s₁'=>wpAny (model prog w) A (assign target env v) (λz_ s₂=>
     wpAny (model prog w) A (forIn ifs true λc r=>if r=true then do let ok ←isTrue c env (eval c env);pure (ForInStep.yield ok)else pure (ForInStep.yield r)) (λok s₃=>
      if ok=true then wpAny (model prog w) A (eval elt env) (λx s₄=>
       wpAny (model prog w) A (call (.builtin "list.append") [acc,x]) (λz_ s₅=>∃m,m<n/\I m s₅) (notedBy (model prog w) A env λe s'=>R (.error e) s') s₄) (notedBy (model prog w) A env λe s'=>R (.error e) s') s₃
      else ∃m,m<n/\I m s₃) (notedBy (model prog w) A env λe s'=>R (.error e) s') s₂) (notedBy (model prog w) A env λe s'=>R (.error e) s') s₁') (notedBy (model prog w) A env λe s'=>R (.error e) s') s₁)
   (notedBy (model prog w) A env λe s'=>R (.error e) s') s)
  (n) (h:I n s):
  codeAny (model prog w) A (.compLoop (.ListComp elt [⟨target,iter,ifs,0⟩] scope pos) 0 it acc env) R s:=by
 refine codeAny_loop rfl I (λn s hI=>?_) n h;refine wpAny_noted ?_;refine an (wpAny_standAt (an (aM (turn n s hI) (λr s₁ h₁=>?_) λz_ z_ h'=>h')));cases r with|none=>exact aP h₁|some v=>refine an (aM h₁ (λz_ s₁' h₁'=>?_) λz_ z_ h'=>h');refine an (aM h₁' (λz_ s₂ h₂=>an (aM h₂ (λok s₃ h₃=>?_) λz_ z_ h'=>h')) λz_ z_ h'=>h');cases ok with|false=>exact aP ⟨rfl,h₃⟩|true=>exact an (an (aM h₃ (λx s₄ h₄=>an (aM h₄ (λz_ s₅ h₅=>aP (aP ⟨rfl,h₅⟩)) λz_ z_ h'=>h')) λz_ z_ h'=>h'))
end
section
variable{S:Sys}{n:Nat}{env:Env}{σ:Sg}{A:Around}{E:Value->Shared->Prop}{s:Shared}{F:cF}{kk:KK}
theorem vM{c:Ctx}(h:nr s.heap Ia)(hQ:Q () s):wpAny c.M A (letOwnedTupleGo dg (.ref Ia) v) Q E s:=by
 refine dp h λo T h1 h2 h3=>?_;have key:wpAny c.M A (letOwnedTupleGo (.List [] ⟨0,0,0,0⟩) (.ref Ia) v) Q E s:=by
  induction v using Value.casesOn with
  |ref a=>refine an (wpAny_load h1 ?_);(clear h1;obtain⟨cls,di,data,sl⟩:=o);have h2:=h2;subst h2;induction data using Data.casesOn with|fields vs=>show wpAny c.M A (if(["enumerate","zip","dict_itemiterator","dict_reverseitemiterator","odict_iterator","itertools.zip_longest","itertools.pairwise"].contains T&&vs[0]?==some (rawInt a))=true then _ else _) Q E s;rw[h3];exact aP hQ|_=>exact aP hQ
  |_=>exact aP hQ
 induction dg using Expr.casesOn<;>first|exact key|exact aP hQ
theorem vP(ih:ej S n)(hk:∀x,env.kindOf x=kk x)(hA:S.cP A):∀{pD:List PE} {es:List Expr} {g g':G} {b:Bool} {F:cF} {s:Shared},fA S kk pD es->uo (ev S.T S.O n) pD σ g=some (b,g')->Inv S.c F g s->ax S.nm S.c env F σ s->
  wpAny S.c.M A (forIn es true λc r=>if r=true then do let ok ←isTrue c env (eval c env);pure (ForInStep.yield ok)else pure (ForInStep.yield r)) (ji S.c F s env.locals g' b) E s:=by
 intro pD es g g' b F s hr;induction hr using fA.ind generalizing g g' b F s with
 |nil=>intro h I f;refine fS h λx y=>?_;subst x y;exact aP ⟨rfl,F,XF.refl,I,eZ.refl⟩|@cons a ea r er hr hs t ihs=>
  refine iG λv g1 e1 h I f=>?_;rw[List.forIn_cons];have off:∀(es:List Expr) (s:Shared) {Q:Bool->Shared->Prop},Q false s->wpAny S.c.M A (forIn es false λc r=>if r=true then do let ok ←isTrue c env (eval c env);pure (ForInStep.yield ok)else pure (ForInStep.yield r)) Q E s:=by intro es;induction es with|nil=>intro s Q hQ;rw[List.forIn_nil];exact aP hQ|cons e es ih=>intro s Q hQ;rw[List.forIn_cons];simp only[Bool.false_eq_true,if_false,pure_bind];exact ih s hQ
  revert h;refine RN (λe2 h=>?_) λe2 h=>?_
  ·refine an (an (goB ((ih hr hk hA e1 I f).2 true e2) f λs' F' X I' Y f'=>aP ?_));exact pZ X Y (ihs h I' f')
  ·refine fS h λx y=>?_;subst x y;refine an (an (goB ((ih hr hk hA e1 I f).2 false e2) f λs' F' X I' Y f'=>aP ?_));exact off er s' ⟨rfl,F',X,I',Y⟩
theorem lR(p:Str->NameKind->Bool)(k')(y):∀l:List (Str×NameKind),(l.map λ(n,k)=>if p n k then(n,k')else(n,k)).lookup y=(l.lookup y).map λk=>if p y k then k' else k
 |[]=>rfl|(n,k)::r=>by
  have ih:=lR p k' y r;have e:(if p n k=true then(n,k')else(n,k))=(n,if p n k=true then k' else k):=by split<;>rfl
  show List.lookup y ((if p n k=true then(n,k')else(n,k))::_)=_;rw[e,aQ,aQ];cases q:y==n with
  |true=>
       have:y=n:=by simpa using q
       (clear e q;subst this);rfl
  |false=>exact ih
theorem g7:∀{l:List (Str×NameKind)},l.lookup y=some k->(y,k)∈l
 |[],h=>by exact aI h|(n,k0)::r,h=>by
  rw[aQ]at h;cases q:y==n with
  |true=>
       rw[q]at h;(refine bD h λx=>?_;subst x);have:y=n:=by simpa using q
       subst this;exact .head _
  |false=>rw[q]at h;exact .tail _ (g7 h)
theorem iL(hk:∀x,env.kindOf x=kk x)(hF:env.scope.kind=.function)(x):(compEnvC sc cl C env).kindOf x=sk kk sc x:=by
 have:(λ(p:Str×NameKind)=>match p with|(n,k)=>if(k==NameKind.free&&env.scope.kind==ScopeKind.function&&env.kindOf n==some NameKind.cell)=true then(n,NameKind.cell)else(n,k))=
   (λ(p:Str×NameKind)=>match p with|(n,k)=>if(k==NameKind.free&&kk n==some NameKind.cell)=true then(n,NameKind.cell)else(n,k)):=by
  funext ⟨n,k⟩;have e:(env.scope.kind==ScopeKind.function)=true:=by rw[hF];rfl
  simp only[hk,e,Bool.and_true]
 exact congrArg (λf=>List.lookup x (List.map f sc.names)) this
theorem BC{bI:List Nat}(hk:∀x,env.kindOf x=kk x)(hsk:sc.kind=.function)(hcell:∀y∈sc.names,y.2≠.cell)
  (hloc:∀y∈sc.names,y.2=.local->(∃x∈bI,S.nm x=y.1)∨∀x,S.nm x≠y.1) (hl:∀x∈bI,sc.names.lookup (S.nm x)=some .local) (hfree:∀y∈sc.names,y.2=.free->kk y.1=some .cell∨kk y.1=some .free) (inj:∀i j,S.nm i=S.nm j->i=j)
  (f:ax S.nm S.c env F σ s) (ext:Ext F F') (hn:s'.heap.Ns C m') (hnew:∀x∈bI,∃w a,fW x l1=some a/\m' (S.nm x)=some w/\VM S.c F' w a) (hold:∀y,y∉bI->fW y l1=fW y σ.ah)
  (Nr:C∉S.c.mu) (YX:F' C=none) (hCb:S.c.base.objs.size<=C) (tk:0<s'.toks):ax S.nm S.c (compEnvC sc (clsOf env sc.names []) C env) F' ⟨l1,none⟩ s':=by
 have hcells:=λy hy e=>f.yc _ (by rw[hk];exact hfree y hy e);have hlk:∀y,(y,NameKind.free)∈sc.names->(clsOf env sc.names []).lookup y=env.cells.lookup y:=λy hy=>sz (nx _ _ _ (.inl hy)) (ny _ _ hcells λp hp=>by cases hp);have kind:∀y,sk kk sc y=(sc.names.lookup y).map λk=>if(k==.free&&kk y==some .cell)then .cell else k:=λy=>lR (λn k=>k==.free&&kk n==some .cell) .cell y sc.names
 have isFree:∀y,(sk kk sc y=some .cell∨sk kk sc y=some .free)->(y,NameKind.free)∈sc.names:=λy h=>by rw[kind]at h;cases q:sc.names.lookup y with|none=>rw[q]at h;refine Or.elim h (λh=>?_) λh=>?_<;>exact aI h|some k0=>rw[q,Option.map_some]at h;have hm:=g7 q;have hc:=hcell _ hm;cases k0 with|free=>exact hm|cell=>exact bc rfl hc|_=>refine Or.elim h (λh=>?_) λh=>?_<;>simp at h
 refine⟨hsk,f.glob,f.blt,f.hcode,Nr,YX,hCb,tk,λy h=>?_,m',hn,λx a hx hK=>?_,λx l e=>by exact aI e⟩
 ·rw[iL hk f.kind]at h;have hm:=isFree y h;refine b0 (hcells _ hm rfl) λcl e=>⟨cl,(hlk y hm).trans e⟩
 ·rw[iL hk f.kind]at hK;refine Or.elim hK (λhK=>?_) λhK=>?_
  ·have hm:(S.nm x,NameKind.local)∈sc.names:=by rw[kind]at hK;cases q:sc.names.lookup (S.nm x)with|none=>rw[q]at hK;exact aI hK|some k0=>rw[q,Option.map_some]at hK;have hm:=g7 q;have hc:=hcell _ hm;cases k0 with|«local»=>exact hm|cell=>exact bc rfl hc|free=>simp at hK;split at hK<;>cases hK|_=>simp at hK
   refine aH ((hloc _ hm rfl).resolve_right λq=>q x rfl) λx' hx' e=>?_;have:=inj _ _ e;subst this;refine dp (hnew x' hx') λw a' h1 h2 h3=>?_;rw[h1]at hx;(refine bD hx λx=>?_;subst x);exact⟨w,h3,.inl ⟨by rw[iL hk f.kind];exact hK,h2⟩⟩
  ·have hm:=isFree _ hK;have hnt:x∉bI:=λh=>by
    have e1:=hl x h;have e2:sk kk sc (S.nm x)=some .local:=by rw[kind,e1];rfl
    rw[e2]at hK;refine Or.elim hK (λhK=>?_) λhK=>?_<;>cases hK
   rw[hold x hnt]at hx;obtain⟨mo,hno,hlo,_⟩:=f.ns;have hko:KL (env.kindOf (S.nm x)):=by rw[hk];exact(hfree _ hm rfl).elim (λe=>.inr (.inl e)) λe=>.inr (.inr e)
   obtain⟨v,hv,h⟩:=(hlo x a hx hko);refine Or.elim h (λoz=>?_) λoz=>?_;(refine aG oz λh1 z_=>?_);rotate_left;(obtain⟨_,cl,o,h2,h3,h4⟩:=oz);rotate_right
   ·rw[hk]at h1;refine Or.elim (hfree _ hm rfl) (λe=>?_) λe=>?_<;>(have e:=e;rw[e]at h1;cases h1)
   ·exact⟨v,hv.mono ext,.inr ⟨by rw[iL hk f.kind];exact hK,cl,o,(hlk _ hm).trans h2,ext _ _ h3,h4⟩⟩
end
section
variable{S:Sys}{n:Nat}{env:Env}{σ:Sg}{A:Around}{E:Value->Shared->Prop}{s:Shared}{F:cF}{kk:KK}
theorem Inv.kept(I:Inv c F g s)(h1:∀b o,F b=some o->s'.heap.get? b=some o)(h2:∀b,b∈c.mu->∀o,s.heap.get? b=some o->s'.heap.get? b=some o):Inv c F g s':=
 ⟨h1,I.base,I.apart,I.d7.mono (Ext.refl F) h2,I.fJ⟩
structure vL(c:Ctx)(dg:Expr)(F:cF)(L:Addr)(s₀ s:Shared)(items:List AV)(Ia:Addr)(wr fp:List Addr)(St:Nat->Heap->Prop):Prop where
 turn:∀{A':Around} {E:Value->Shared->Prop} {X:Shared->Prop} {i:Nat} {a:AV} {s':Shared} {F':cF} {g':G} {Q:Value->Shared->Prop},A'.handled=none->items[i]?=some a->St i s'.heap->Ext F F'->(∀b∈wr,F' b=none)->Inv c F' g' s'->
  (∀v h1 tk1 F1,VM c F1 v a->XF s' F' F1->Inv c F1 g' {s' with heap:=h1,toks:=tk1}->St (i+1) h1->(∀b o,b∉wr->s'.heap.get? b=some o->h1.get? b=some o)->s'.toks<=tk1->Q v {s' with heap:=h1,toks:=tk1})->
  wpAny c.M A' (pyNext (.ref Ia)) (λr s₁=>match r with|none=>X s₁|some v=>wpAny c.M A' (letOwnedTupleGo dg (.ref Ia) v) (λz_ s₂=>Q v s₂) E s₁) E s'
 frame:∀i h h',St i h->(∀b∈fp,∀o,h.get? b=some o->h'.get? b=some o)->St i h'
 done:∀{A':Around} {E:Value->Shared->Prop} {s':Shared} {Q:Option Value->Shared->Prop},A'.handled=none->St items.length s'.heap->(∀h' tk,(∀b o,b∉wr->s'.heap.get? b=some o->h'.get? b=some o)->Q none {s' with heap:=h',toks:=tk})->wpAny c.M A' (pyNext (.ref Ia)) Q E s'
 De:∀{A':Around} {E:Value->Shared->Prop} {i:Nat} {s':Shared} {Q:Value->Shared->Prop},A'.handled=none->St i s'.heap->Q (.ref Ia) s'->wpAny c.M A' (pyIter (.ref Ia)) Q E s'
 st:St 0 s.heap
 GV:∀i h,St i h->∀b∈wr,(h.get? b).isSome=true
 fresh:∀b∈wr,(s₀.heap.get? b).isSome=false
 ul:∀b∈wr,F b=none
 mq:∀b∈wr,b∉c.mu
 CN:∀b∈wr,b≠L
 fps:∀b∈fp,b∈wr∨∃o,F b=some o
theorem qk.gen{St:Nat->Heap->Prop}(J:qk c F L s₀ s items it I fp P St){A₀:Around}(h₀:A₀.handled=none)(dg):vL c dg F L s₀ s items I [I] fp St where
 turn:=λ{A' E X i a s' F' g' Q} hA ha st x nF Iv h=>by
  refine bA (n:=s'.toks) (aD _) ((J.walk A' hA).item i _ _ _ ?_ st λv h1 tk1 hP st1 k1 ht1=>?_)
  ·cases Nat.lt_or_ge i items.length with|inl q=>exact q|inr q=>rw[List.getElem?_eq_none q]at ha;exact aI ha
  ·have up:=λb o hb e=>k1 b o (by simpa using hb) e;exact vM (J.cls (i+1) _ st1) (h v h1 tk1 F' ((J.ba i v a hP ha).mono x) XF.refl (Inv.kept Iv (λb o e=>up b o (λq=>by rw[q,nF I (.head _)]at e;exact aI e) (Iv.cE b o e)) λb hb o e=>up b o (λq=>J.mq (q▸hb)) e) st1 k1 ht1)
 frame:=λi h h' st k=>(J.walk A₀ h₀).frame i h h' st k
 done:=λhA st h=>(J.walk _ hA).done _ _ _ st h
 De:=λhA st h=>(J.walk _ hA).self _ _ _ _ st h
 st:=J.st
 GV:=λi h st b hb=>by rw[aR]at hb;subst hb;refine bU (J.cls i h st) λo z_ e z_=>?_;rw[e];rfl
 fresh:=λb hb=>by rw[aR]at hb;subst hb;exact J.fresh
 ul:=λb hb=>by rw[aR]at hb;subst hb;exact J.ul
 mq:=λb hb=>by rw[aR]at hb;subst hb;exact J.mq
 CN:=λb hb=>by rw[aR]at hb;subst hb;exact J.CN
 fps:=λb hb=>(J.fps b hb).imp (λe=>by rw[e];exact .head _) id
structure CJ(S:Sys)(n:Nat)(elt:PE)(bI:List Nat)(dB:Bool)(cond:List PE)(σ:Sg)(items final:List AV)(gF:G)(St:Nat->Heap->Prop)(wr:List Addr)(C D:Addr)(s3:Shared)(F2:cF)(k:Nat)(s':Shared)(i:Nat)(F':cF)(g':G)(l:Loc)(ys:Array Value)(xs ag:List AV)(m:Str->Option Value):Prop where
 cnt:k=items.length+1-i
 le:i<=items.length
 st:St i s'.heap
 acc:s'.heap.PlainList D ys
 vs:dh S.c F' ys.toList xs
 len:xs.length<=i
 xf:XF s3 F2 F'
 inv:Inv S.c F' g' s'
 ns:s'.heap.Ns C m
 keep:∀b o,b∉S.c.mu->b≠C->b∉wr->b≠D->s3.heap.get? b=some o->s'.heap.get? b=some o
 alive:∀b,(s3.heap.get? b).isSome=true->(s'.heap.get? b).isSome=true
 gens:s'.gens=s3.gens
 os:s'.os=s3.os
 tk:s3.toks<=s'.toks
 ev:fw (ev S.T S.O n) elt bI dB cond σ (items.drop i) l g'=some (ag,gF)
 fin:xs++ag=final
 old:∀y,y∉bI->fW y l=fW y σ.ah
structure SS(S:Sys)(env:Env)(F:cF)(s:Shared)(gF:G)(final:List AV)(D C:Addr)(s':Shared)(F':cF)(m:Str->Option Value):Prop where
 ns:s'.heap.Ns C m
 vm:VM S.c F' (.ref D) (.list final)
 inv:Inv S.c F' gF s'
 xf:XF s F F'
 stp:eZ S.c env.locals s s'
 mu:C∉S.c.mu
 ul:F' C=none
 ne:C≠env.locals
 fresh:(s.heap.get? C).isSome=false
 tk:0<s'.toks
set_option tactic.hygienic true in
theorem vN(ok:cQ S)(rg:mj S)(ih:ej S n)(hk:∀x,env.kindOf x=kk x)(hA:S.cP A){cond}
  (Df:∀x,foldedSetIterable gk env x=pure x) (hc:fA S (sk kk sc) cond dU) (he:RE S (sk kk sc) elt fu) (cs:oJ S kk bI dB dg sc)
  (hiter:∀{Q:Value->Shared->Prop},(∀it s₁ s₂ F',(∃Ia wr fp St,it=.ref Ia/\Ia∈wr/\vL S.c dg F' env.locals s₁ s₂ items Ia wr fp St)->XF s F F'->Inv S.c F' g1 s₂->eZ S.c env.locals s s₁->eZ S.c env.locals s₁ s₂->ax S.nm S.c env F' σ s₂->Q it s₂)->
   wpAny S.c.M A (eval gk env) (λx s₁=>wpAny S.c.M A (pyIter x) Q E s₁) E s)
  (cM:items.length<=100000) (hcomp:fw (ev S.T S.O n) elt bI dB cond σ items σ.ah g1=some (final,gF))
 (hend:∀D C s' F' m,SS S env F s gF final D C s' F' m->compPost S.c.M A E use Q (.ref D) C (.ok .next) s')
  (I:Inv S.c F g s) (f:ax S.nm S.c env F σ s):wpAny S.c.M A (comprehension (.ListComp fu [⟨dg,gk,dU,0⟩] sc p) sc env gk.pos (newList []) false (eval gk env) use) Q E s:=by
 have hcells:=λy hy e=>f.yc _ (by rw[hk];exact cs.hfree y hy e);refine wpAny_comprehension_free (g:=⟨dg,gk,dU,0⟩) (gs:=[]) rfl Df (yd hcells) cs.hsk cs.hnames<|hiter λit s₁ s₂ F2 J X I2 Y1 Y2 f2=>?_
 revert J;refine λoz=>Nn oz λIa wr fp St nq hIw J=>?_;clear oz;subst nq;refine wpAny_newObj_type (wpAny_newFunctionEnv cs.hcell (by intro y hy;simp at hy) (λh₁ hns₁ hsb₁=>?_) cs.hsk);generalize hH2:s₂.heap.push {cls:=.type "list",dict:=none,data:=.seq ([]:List Value).toArray}=H2 at hns₁ hsb₁ ⊢;have hC:H2.objs.size=s₂.heap.objs.size+1:=by rw[←hH2,Heap.size_push]
 have hDC:s₂.heap.objs.size≠H2.objs.size:=by rw[hC];exact aJ (dR _)
 have old:=λb o e=>hsb₁.extBut b o (by rw[hC];exact aJ (Nat.lt_succ_of_lt (aN e))) (az _ (hH2▸az _ e));have hacc:h₁.PlainList s₂.heap.objs.size #[]:=⟨_,hsb₁.extBut _ _ hDC (az _ (hH2▸be _ rfl))⟩;generalize hCn:H2.objs.size=C at hC hDC hns₁ hsb₁ ⊢;generalize Jg:s₂.heap.objs.size=D at hC hDC hacc ⊢;generalize hs3:({s₂ with heap:=h₁,toks:=s₂.toks+([]:List (Str×Value)).length}:Shared)=s3;have Bz:s3.heap=h₁:=by rw[←hs3]
 have No:s3.toks=s₂.toks:=by rw[←hs3];rfl
 have I3:Inv S.c F2 g1 s3:=by rw[←hs3];exact I2.grow old _
 have Y3:∀L,eZ S.c L s₂ s3:=λL=>by rw[←hs3];exact eZ.grow old _
 have Dg:(s3.heap.get? C).isSome=true:=by rw[Bz];exact gp hns₁
 have BA:(s3.heap.get? D).isSome=true:=by rw[Bz];refine b0 hacc λn' e=>?_;rw[e];rfl
 have below:∀b,(s₂.heap.get? b).isSome=true->b≠C/\b≠D:=λb hb=>by have:=bw hb;rw[Jg]at this;exact⟨by rw[hC];exact aJ (Nat.lt_succ_of_lt this),aJ this⟩
 have Np:∀b,s₂.heap.objs.size<=b->F2 b=none:=λb hb=>by cases z:F2 b with|none=>rfl|some o'=>exact bc (aN (I2.cE _ _ z)) (bO.mpr hb)
 have Nq:=Np C (Jh Jg hC);have GW:=Np D (Ji Jg);have Jj:∀b,s₂.heap.objs.size<=b->b∉S.c.mu:=λb hb h=>by refine b0 (I2.d7.alive h) λo e=>bc (aN e) (bO.mpr hb)
 have Nr:=Jj C (Jh Jg hC);have Nt:=Jj D (Ji Jg);have GX:=λb hb=>J.GV 0 _ J.st b hb;have WS:=λq=>(below C (GX C q)).1 rfl;have ST:=λq=>(below D (GX D q)).2 rfl;have hCb:S.c.base.objs.size<=C:=aw f.above (by rw[hC,←Jg];exact Nat.le_succ_of_le (cb (bw f2.alive)));have BB:=λb hb=>by
  refine Or.elim (J.fps b hb) (λq=>?_) λoz=>?_;rotate_left;(refine b0 oz λo e=>?_);rotate_right
  ·exact below b (GX b q)
  ·exact⟨λq=>(by rw[q,Nq]at e;exact aI e),λq=>(by rw[q,GW]at e;exact aI e)⟩
 have Kv:=λb hb=>by
  refine Or.elim (J.fps b hb) (λq=>?_) λoz=>?_;rotate_left;(refine b0 oz λo e=>?_);rotate_right
  ·exact J.mq b q
  ·exact λh=>by rw[I2.apart _ h]at e;exact aI e
 have st3:St 0 s3.heap:=J.frame _ _ _ J.st λb z_ o e=>by rw[Bz];exact old b o e
 have WT:({newEnv sc C env.globals (clsOf env sc.names []) env.qual none Value.none (some env) env.builtins with scope:=relabel sc env}:Env)=compEnvC sc (clsOf env sc.names []) C env:=rfl;have loop:codeAny S.c.M A (.compLoop (.ListComp fu [⟨dg,gk,dU,0⟩] sc p) 0 (.ref Ia) (.ref D) (compEnvC sc (clsOf env sc.names []) C env)) (compPost S.c.M A E use Q (.ref D) C) s3:=by
  refine um (λk s'=>∃i F' g' l ys xs ag m,CJ S n elt bI dB cond σ items final gF St wr C D s3 F2 k s' i F' g' l ys xs ag m) ?_ (items.length+1)
   (Kw 0 F2 g1 σ.ah #[] [] final _ {cnt:=rfl,le:=bo _,st:=st3,acc:=by rw[Bz];exact hacc,vs:=.nil,len:=bo _,xf:=XF.refl,inv:=I3,ns:=by rw[Bz];exact hns₁,keep:=λz_ z_ z_ z_ z_ z_ e=>e,alive:=λz_ e=>e,gens:=rfl,os:=rfl,tk:=aD _,ev:=hcomp,fin:=rfl,old:=λz_ z_=>rfl})
  refine λk s' T=>SU T λi F' g' l ys xs ag m T=>?_;have Kx:=(T.xf.low C Dg).trans Nq;have GY:=(T.xf.low D BA).trans GW;have Nu:=λb hb=>(T.xf.low b ((Y3 env.locals).alive _ (GX b hb))).trans (J.ul b hb);have fN:∀b o,F' b=some o->b≠C/\b≠D/\b∉wr:=λb o e=>⟨λq=>(by rw[q,Kx]at e;exact aI e),λq=>(by rw[q,GY]at e;exact aI e),λq=>(by rw[Nu b q]at e;exact aI e)⟩;by_cases hlt:i<items.length
  ·
   have hdrop:=List.drop_eq_getElem_cons hlt;have xI:=cg hlt;generalize items[i]=a at hdrop xI;have GZ:=T.cnt;have pk:=T.ev;rw[hdrop]at pk;revert pk;refine RU λl1 eb pk=>?_
   ·refine J.turn (ok.rH hA) xI T.st T.xf.ext Nu T.inv λv h1 tk1 F1 hV X1 I1 st1 up1 SV=>?_;have ht1:s3.toks<=tk1:=aw T.tk SV;have Nv:F1 C=none:=(X1.low C (T.alive C Dg)).trans Kx;have Nw:F1 D=none:=(X1.low D (T.alive D BA)).trans GY;have hck:∀x,(compEnvC sc (clsOf env sc.names []) C env).kindOf x=sk kk sc x:=iL hk f.kind;have Nx:∀x∈bI,(compEnvC sc (clsOf env sc.names []) C env).kindOf (S.nm x)=some .local:=λx hx=>by rw[hck];have:=lR (λn k=>k==.free&&kk n==some .cell) .cell (S.nm x) sc.names;show(sc.names.map λ(n,k)=>if(k==.free&&kk n==some .cell)then(n,.cell)else(n,k)).lookup (S.nm x)=_;rw[this,cs.hl x hx];rfl
    have SW:=λb o e=>I1.cE b o e;have YT:=T.ns.at' λo e=>up1 C o WS e;refine bA (n:=s3.toks) ht1 (nw (s:={s' with heap:=h1,toks:=tk1}) (L:=C) rfl cs.hsk ok.N.inj (ok.rH hA) cs.ht Nx cs.hnd SW hV eb YT λs2 m2 SX o2 B Ny=>?_);have WU:=λb o h1' h2 e=>o2.keep b o h2 (up1 b o h1' e);have YU:∀b,(s'.heap.get? b).isSome=true->(s2.heap.get? b).isSome=true:=λb e=>by
     by_cases q:b∈wr
     ·exact o2.alive b (J.GV (i+1) _ st1 b q)
     ·refine b0 (bu e) λoo e=>?_;exact o2.alive b (by show(h1.get? b).isSome=true;rw[up1 b oo q e];rfl)
    have WV:=I1.kept (λb o e=>o2.keep b o (λq=>by rw[q,Nv]at e;exact aI e) (I1.cE b o e)) λb hb o e=>o2.keep b o (λq=>Nr (q▸hb)) e;have hold:=λy hy=>(B.G0 y hy).trans (T.old y hy)
    have fC:ax S.nm S.c (compEnvC sc (clsOf env sc.names []) C env) F1 ⟨l1,none⟩ s2:=
     BC hk cs.hsk cs.hcell cs.hloc cs.hl cs.hfree ok.N.inj f2 (T.xf.ext.trans X1.ext) SX (λx hx=>by refine dp (B.new x hx) λw b e1 e2 e3=>?_;exact⟨w,b,e1,e2,e3⟩) hold Nr Nv hCb (aB (by rw[No];exact f2.tk) Ny)
    have st2:St (i+1) s2.heap:=J.frame _ _ _ st1 λb hb o e=>o2.keep b o (BB b hb).1 e;have ye:∀b,(s3.heap.get? b).isSome=true->(s2.heap.get? b).isSome=true:=λb e=>YU b (T.alive b e);have vO:∀b o,b∉S.c.mu->b≠C->b∉wr->b≠D->s3.heap.get? b=some o->s2.heap.get? b=some o:=λb o q1 q2 q3 q4 e=>WU b o q3 q2 (T.keep b o q1 q2 q3 q4 e);have Jk:s2.gens=s3.gens:=o2.gens.trans T.gens;have os2:s2.os=s3.os:=o2.os.trans T.os;have Nz:s2.heap.PlainList D ys:=T.acc.at λo e=>WU D o ST hDC e;have xf1:XF s3 F2 F1:=T.xf.trans T.alive X1;revert pk;refine SY (λg2 ec pk=>?_) λg2 ec pk=>?_
    ·skip;refine bA (n:=s3.toks) Ny (goB (vP ih hck hA hc ec WV fC) fC λs4 F4 X4 I4 Y4 f4 SZ=>?_);rw[br rfl];revert pk;refine iG λx g3 ee pk=>?_
     ·revert pk;refine xJ λxs' g4 er pk=>?_
      ·skip;refine fS pk λx y=>?_;subst x y;refine bA (n:=s3.toks) SZ (gW (ih he hck hA ee I4 f4).1 f4 λxv s5 F5 X5 V5 I5 Y5 f5 YV=>?_);have NA:=(Nz.at λo e=>Y4.keep D o Nt hDC e).at λo e=>Y5.keep D o Nt hDC e;have hsz:ys.size<=sizeLine:=by have e1:=T.vs.length;rw[aW]at e1;have e2:=T.len;rw[e1,sizeLine_eq];exact NB cM hlt e2
       refine wpAny_list_append_plain (hsz:=hsz) NA λh6 WW MT=>?_;have F5D:=(X5.low D (Y4.alive _ (ye _ BA))).trans ((X4.low D (ye _ BA)).trans Nw);refine⟨items.length+1-(i+1),by exact Dh hlt GZ,Kw (i+1) F5 g3 l1 (ys.push xv) (xs++[x]) xs' m2 ?_⟩
       exact{
           cnt:=rfl
           le:=hlt
           st:=by have a4:=J.frame _ _ s4.heap st2 λb hb o e=>Y4.keep b o (Kv b hb) (BB b hb).1 e;have a5:=J.frame _ _ s5.heap a4 λb hb o e=>Y5.keep b o (Kv b hb) (BB b hb).1 e;exact J.frame _ _ _ a5 λb hb o e=>MT.extBut b o (BB b hb).2 e
           acc:=WW
           vs:=by rw[Array.toList_push];exact(T.vs.mono (X1.ext.trans (X4.ext.trans X5.ext))).append (.cons V5 .nil)
           len:=by rw[ae,List.length_singleton];have:=T.len;exact Ky this
           xf:=(xf1.trans ye X4).trans (λb e=>Y4.alive b (ye b e)) X5
           inv:=I5.kept (λb o e=>MT.extBut b o (λq=>by rw[q,F5D]at e;exact aI e) (I5.cE b o e)) λb hb o e=>MT.extBut b o (λq=>Nt (by rw[←q];exact hb)) e
           ns:=((Y5.ns m2 (Y4.ns m2 SX))).at' λo e=>MT.extBut C o hDC.symm e
           keep:=λb o q1 q2 q3 q4 e=>MT.extBut b o q4 (Y5.keep b o q1 q2 (Y4.keep b o q1 q2 (vO b o q1 q2 q3 q4 e)))
           alive:=λb e=>by
            have e5:=Y5.alive b (Y4.alive b (ye b e));by_cases q:b=D
            ·(clear Jg hC hacc BA GW GY Nw NA F5D;subst q);refine b0 WW λnn e'=>?_;show(h6.get? b).isSome=true;rw[e'];rfl
            ·refine b0 (bu e5) λoo e'=>?_;show(h6.get? b).isSome=true;rw[MT.extBut b oo q e'];rfl
           gens:=Y5.gens.trans (Y4.gens.trans Jk)
           os:=Y5.os.trans (Y4.os.trans os2)
           tk:=YV
           ev:=er
           fin:=by rw[ay];exact T.fin
           old:=hold}
    ·skip;refine bA (n:=s3.toks) Ny (goB (vP ih hck hA hc ec WV fC) fC λs4 F4 X4 I4 Y4 f4 SZ=>?_);refine⟨items.length+1-(i+1),by exact Dh hlt GZ,Kw (i+1) F4 g2 l1 ys xs ag m2 ?_⟩
     exact{
         cnt:=rfl
         le:=hlt
         st:=J.frame _ _ s4.heap st2 λb hb o e=>Y4.keep b o (Kv b hb) (BB b hb).1 e
         acc:=Nz.at λo e=>Y4.keep D o Nt hDC e
         vs:=T.vs.mono (X1.ext.trans X4.ext)
         len:=Nat.le_succ_of_le T.len
         xf:=xf1.trans ye X4
         inv:=I4
         ns:=Y4.ns m2 SX
         keep:=λb o q1 q2 q3 q4 e=>Y4.keep b o q1 q2 (vO b o q1 q2 q3 q4 e)
         alive:=λb e=>Y4.alive b (ye b e)
         gens:=Y4.gens.trans Jk
         os:=Y4.os.trans os2
         tk:=SZ
         ev:=pk
         fin:=T.fin
         old:=hold}
  ·
   have hin:=Nat.le_antisymm T.le (bO.mp hlt);have hrest:ag=[]/\g'=gF:=by have:=T.ev;rw[hin,List.drop_length]at this;(refine fS this λx y=>?_;subst x y);exact⟨rfl,rfl⟩
   revert hrest;refine λoz=>aG oz λjx dN=>?_;clear oz;subst jx dN;have hfin:=T.fin;rw[cz]at hfin;(clear hcomp;subst hfin);refine bA (n:=s3.toks) T.tk (J.done (ok.rH hA) (hin▸T.st) λh₂ tk₂ up Di=>?_);have S1:=T.ns.at' λo e=>up C o WS e;refine b0 T.acc λnD hD=>?_;have YW:h₂.get? D=some {cls:=.type "list",data:=.seq ys nD}:=up D _ ST hD;have ex:Ext F' (fq F' D {cls:=.type "list",data:=.seq ys nD}):=λb o e=>by rw[bf (fN b o e).2.1];exact e
   have hlen2:xs.length<=1048576:=by have:=T.len;exact NC cM hin this
   have S2:∀b,(s₁.heap.get? b).isSome=true->b∉wr:=λb hb q=>by rw[J.fresh b q]at hb;exact bq hb
   have kp:=λb o h1 h2 h3 e=>up b o h3 (T.keep b o h1 (below b h2).1 h3 (below b h2).2 (by rw[Bz];exact old b o e));refine hend D C _ (fq F' D {cls:=.type "list",data:=.seq ys nD}) m ⟨S1,.list (b9 _ _ _) rfl rfl hlen2 (T.vs.mono ex),⟨λb o e=>?_,λb o e=>ex _ _ (T.inv.base b o e),λb hb=>?_,T.inv.d7.mono ex λb hb o e=>up b o (λq=>J.mq b q hb) e,I.fJ⟩,⟨(X.ext.trans T.xf.ext).trans ex,λb hb=>?_⟩,?_,Nr,?_,?_,?_,?_⟩
   ·by_cases q:b=D
    ·(clear Jg hC hacc BA GW ST BB GY hD ex;subst q);rw[b9]at e;(refine bD e λx=>?_;subst x);exact YW
    ·rw[bf q]at e;exact up b o (fN b o e).2.2 (T.inv.cE b o e)
   ·rw[bf (λq=>Nt (by rw[←q];exact hb))];exact T.inv.apart b hb
   ·have b2:=Y2.alive b (Y1.alive b hb);rw[bf (below b b2).2,T.xf.low b ((Y3 env.locals).alive b b2),X.low b hb]
   ·refine Y1.trans ⟨λb o h1 h2 e=>?_,λm' x=>?_,λb hb=>?_,?_,?_⟩
    ·have b1:(s₁.heap.get? b).isSome=true:=by rw[e];rfl
     exact kp b o h1 (Y2.alive b b1) (S2 b b1) (Y2.keep b o h1 h2 e)
    ·have x2:=Y2.ns m' x;have b1:=gp x;exact x2.at' λo e=>kp env.locals o f.cR (Y2.alive _ b1) (S2 _ b1) e
    ·have b2:=Y2.alive b hb;have b3:=T.alive b ((Y3 env.locals).alive b b2);refine b0 (bu b3) λo e=>?_;rw[up b o (S2 b hb) e];rfl
    ·exact(T.gens.trans ((Y3 env.locals).gens)).trans Y2.gens
    ·exact(T.os.trans ((Y3 env.locals).os)).trans Y2.os
   ·rw[bf hDC.symm];exact Kx
   ·exact λq=>(below env.locals (f2.alive)).1 q.symm
   ·cases z:(s.heap.get? C).isSome with|false=>rfl|true=>exact bc rfl (below C (Y2.alive C (Y1.alive C z))).1
   ·exact aB (by rw[No];exact f2.tk) Di
 exact codeAny_compStart_list loop (J.De (ok.rH hA) st3 loop)
theorem ql(ok:cQ S)(hit:RI S kk ik ies gk)(x):foldedSetIterable gk env x=pure x:=by induction hit using RI.cs with|plain h hs=>exact sU ok h env x|range=>rfl
theorem vQ(ok:cQ S)(rg:mj S)(ih:ej S n)(hk:∀x,env.kindOf x=kk x)(hA:S.cP A)(hit:RI S kk ik ies gk)(hev:ci (ev S.T S.O n) ies σ g=some (vs,g1))(hi:eS ik vs=some items)(cM:items.length<=100000)
  (I:Inv S.c F g s) (f:ax S.nm S.c env F σ s) (hQ:∀it s₁ s₂ F',(∃Ia wr fp St,it=.ref Ia/\Ia∈wr/\vL S.c dg F' env.locals s₁ s₂ items Ia wr fp St)->XF s F F'->Inv S.c F' g1 s₂->eZ S.c env.locals s s₁->eZ S.c env.locals s₁ s₂->ax S.nm S.c env F' σ s₂->Q it s₂):
  wpAny S.c.M A (eval gk env) (λx s₁=>wpAny S.c.M A (pyIter x) Q E s₁) E s:=
 zL ok rg ih hk hA hit hev hi cM I f λit s₁ s₂ F2 ⟨Ia,fp,P,St,J⟩ X I2 Y1 Y2 f2=>hQ it s₁ s₂ F2 ⟨Ia,[Ia],fp,St,J.isI,.head _,J.gen (ok.rH hA) dg⟩ X I2 Y1 Y2 f2
theorem vR(ok:cQ S)(rg:mj S)(ih:ej S n)(hk:∀x,env.kindOf x=kk x)(hA:S.cP A){cond}
  (Df:∀x,foldedSetIterable gk env x=pure x) (hc:fA S (sk kk sc) cond dU) (he:RE S (sk kk sc) elt fu) (cs:oJ S kk bI dB dg sc)
  (hiter:∀{Q:Value->Shared->Prop},(∀it s₁ s₂ F',(∃Ia wr fp St,it=.ref Ia/\Ia∈wr/\vL S.c dg F' env.locals s₁ s₂ items Ia wr fp St)->XF s F F'->Inv S.c F' g1 s₂->eZ S.c env.locals s s₁->eZ S.c env.locals s₁ s₂->ax S.nm S.c env F' σ s₂->Q it s₂)->
   wpAny S.c.M A (eval gk env) (λx s₁=>wpAny S.c.M A (pyIter x) Q E s₁) E s)
  (cM:items.length<=100000) (hcomp:fw (ev S.T S.O n) elt bI dB cond σ items σ.ah g1=some (final,gF))
  (I:Inv S.c F g s) (f:ax S.nm S.c env F σ s):wpAny S.c.M A (eval (.ListComp fu [⟨dg,gk,dU,0⟩] sc p) env) (aE S.c F s env.locals gF (.list final)) E s:=by
 refine vN ok rg ih hk hA Df hc he cs hiter cM hcomp (use:=none) (λD C s' F' m T=>⟨m,T.ns,λh' hs=>?_⟩) I f;have kp:=λb o h e=>hs.extBut b o h e;have nC:∀b,(s.heap.get? b).isSome=true->b≠C:=λb hb q=>by rw[q,T.fresh]at hb;exact bq hb
 refine⟨F',T.xf,T.vm,T.inv.kept (λb o e=>kp b o (λq=>by rw[q,T.ul]at e;exact aI e) (T.inv.cE b o e)) λb hb o e=>kp b o (λq=>T.mu (by rw[←q];exact hb)) e,
  ⟨λb o h1 h2 e=>kp b o (nC b (by rw[e];rfl)) (T.stp.keep b o h1 h2 e),λm' x=>(T.stp.ns m' x).at' λo e=>kp _ o (Ne.symm T.ne) e,λb hb=>?_,T.stp.gens,T.stp.os⟩⟩
 refine b0 (bu (T.stp.alive b hb)) λo e=>?_;rw[kp b o (nC b hb) e];rfl
theorem GE(ok:cQ S)(rg:mj S)(ih:ej S n)(hk:∀x,env.kindOf x=kk x)(hA:S.cP A){cond}
  (hit:RI S kk ik ies gk) (hc:fA S (sk kk sc) cond dU) (he:RE S (sk kk sc) elt fu) (cs:oJ S kk bI dB dg sc)
  (hev:ci (ev S.T S.O n) ies σ g=some (vs,g1)) (hi:eS ik vs=some items) (cM:items.length<=100000) (hcomp:fw (ev S.T S.O n) elt bI dB cond σ items σ.ah g1=some (final,gF))
  (I:Inv S.c F g s) (f:ax S.nm S.c env F σ s):wpAny S.c.M A (eval (.ListComp fu [⟨dg,gk,dU,0⟩] sc p) env) (aE S.c F s env.locals gF (.list final)) E s:=
 vR ok rg ih hk hA (ql ok hit) hc he cs (vQ ok rg ih hk hA hit hev hi cM I f) cM hcomp I f
end
section
variable{S:Sys}{n:Nat}{env:Env}{σ:Sg}{A:Around}{E:Value->Shared->Prop}{s:Shared}{F:cF}{kk:KK}{g g':G}
theorem vA(ok:cQ S)(hA:S.cP A)(hf:VM S.c F f fa)(hv:dh S.c F ba as)(h:jA S.O fa as g=some (r,g'))(I:Inv S.c F g s)(fr:ax S.nm S.c env F σ s):
  wpAny S.c.M A (call f ba) (aE S.c F s env.locals g' r) E s:=by
 refine zC h (λk e q h=>?_) (λk v e h1 h2=>?_) (λd e h=>?_) (λe h=>?_)<;>rw[e]at hf
 ·exact hf.IZ λhf=>aM (ok.sx.fn q h hA hf I fr.tk fr.big hv) (λz_ z_ p=>p.Kk fr) λz_ z_ x=>x
 ·cases h2;exact hf.IZ λhf=>C1 ok.B ok.by_ (ok.rH hA) I fr hf hv h1
 ·exact aM (ok.sx.lam h hA hf I fr.tk fr.big hv) (λz_ z_ p=>p.Kk fr) λz_ z_ x=>x
 ·exact aM (ok.sx.eD h hA hf I fr.tk fr.big hv) (λz_ z_ p=>p.Kk fr) λz_ z_ x=>x
theorem p9(h:T.on=false)(r)(g):note T r g=g:=by unfold note;rw[h]
theorem Nf(ok:cQ S)(hf:VM S.c F f fa)(h:jA S.O fa as g=some (r,g'))(hb:∀b o,S.c.base.get? b=some o->F b=some o):Kp S.c F f:=
 zC h (λk e z_ z_=>ok.sx.kp (e▸hf) hb) (λk v e z_ z_=>ok.sx.kp (e▸hf) hb) (λd e z_=>ok.sx.SN (e▸hf)) (λe z_=>ok.sx.kpc (e▸hf))
theorem callArgs(ok:cQ S)(ih:ej S n)(hk:∀x,env.kindOf x=kk x)(hA:S.cP A)
  (ha:fA S kk args bP) (hf:VM S.c F f fa) (h1:ci (ev S.T S.O n) args σ g=some (as,g1)) (h2:jA S.O fa as g1=some (r,g')) (I:Inv S.c F g s) (fr:ax S.nm S.c env F σ s):
  wpAny S.c.M A (callWith pos f [] (backTo pos (starEach bP env)) []) (aE S.c F s env.locals g' r) E s:=by
 rw[dY ha env,cX];refine ft (F:=F) (Nf ok hf h2 I.base)<|vz (lL ih hk hA ha h1 I fr) fr λvs s' F' X V I' Y f'=>⟨λb o e=>I'.cE _ _ (X.ext _ _ e),?_⟩
 exact io X Y (vA ok hA (hf.mono X.ext) V h2 I' f')
theorem vy(hb:en eo=true)(nm)(env)(w):attributeBase eo nm env w=w:=by
 induction eo using Expr.casesOn with
 |Call f as ks p=>
  induction f using Expr.casesOn with
  |Name id q=>cases as with|cons a as=>rfl|nil=>cases ks with|cons k ks=>rfl|nil=>exact bq hb
  |_=>rfl
 |_=>rfl
theorem gQ(hb:en eo=true)(hp:(apos.endLine==pos.line)=true)(hn:bP.length<30)(hs:starEach bP env=bP.map λe=>(false,eval e env))
  (h:wpAny M A (eval eo env) (λov s₁=>wpAny M A (getMethod ov name (do return (←importBound eo env).getD true)) (λfx s₂=>wpAny M A (callWith pos fx.1 fx.2 (bP.map λe=>(false,eval e env)) []) Q E s₂) E s₁) E s):
  wpAny M A (eval (.Call (.Attribute eo name apos) bP [] pos) env) Q E s:=by
 have e0:eval (.Call (.Attribute eo name apos) bP [] pos) env=(do
   let ov ←attributeBase eo name env (eval eo env)
   standAt apos.atName
   methodCall eo name apos pos env ov (bP.length+([]:List Keyword).length) (backTo pos (starEach bP env)) (backToKw pos (keywordEach [] env))):=rfl
 have e1:attributeBase eo name env (eval eo env)=eval eo env:=vy hb _ _ _;have e2:methodCallForm bP.length (bP.map λe=>(false,eval e env)) []=true:=by
  unfold methodCallForm;have:(bP.map λe=>(false,eval e env)).all (λx=>!x.1)=true:=by rw[List.all_map];exact aS.mpr λz_ z_=>rfl
  rw[this];exact decide_eq_true hn
 rw[e0,e1,hs,cX];refine an (aM h (λov s₁ h₁=>an (wpAny_standAt ?_)) λz_ z_ x=>x)
 show wpAny M A (do
  let (f,first) ←holding [ov] (calleeOf (methodCallForm bP.length (bP.map λe=>(false,eval e env)) []) eo env ov name)
  let callPos ←methodCallPos (methodCallForm bP.length (bP.map λe=>(false,eval e env)) []) eo env apos pos
  callWith callPos f first (bP.map λe=>(false,eval e env)) []) Q E s₁
 rw[e2];refine an (wpAny_holding ?_);unfold calleeOf;refine aM h₁ (λfx s₂ h₂=>?_) λz_ z_ x=>x;obtain⟨f,first⟩:=fx;refine an ?_;unfold methodCallPos;rw[hp];exact aP h₂
theorem eE(c)(F)(id):Kp c F (.builtin id):=λz_ z_=>⟨.machine,.inr (.inl rfl),Looks.of_pure rfl⟩
theorem zB(c)(F)(id):Kp c F (.type id):=λz_ z_=>⟨.machine,.inr (.inl rfl),Looks.of_pure rfl⟩
def MQ(S:Sys)(A:Around)(E:Value->Shared->Prop)(env:Env)(σ:Sg)(as:List AV)(g1 g':G)(r:AV)(F:cF)(s:Shared)(Q:Value×List Value->Shared->Prop):Prop:=
 ∀{f:Value} {first:List Value},Kp S.c F f->(∀{vs:List Value} {s':Shared} {F':cF},Ext F F'->dh S.c F' vs as->Inv S.c F' g1 s'->ax S.nm S.c env F' σ s'->wpAny S.c.M A (call f (first++vs)) (aE S.c F' s' env.locals g' r) E s')->Q (f,first) s
section
variable{r:AV}{ov:Value}{m:Nat}{as:List AV}{g1 g0:G}{pl:Sem Bool}{Q:Value×List Value->Shared->Prop}
theorem GF(ok:cQ S)(hA:S.cP A)(go:MQ S A E env σ as g1 g' r F s Q)(hf:VM S.c F ov (.sp 1))(hk':S.T.jB m=some k)(h2:S.O k (.sp 1::as) g1=some (r,g'))(I:Inv S.c F g0 s)(fr:ax S.nm S.c env F σ s):
  wpAny S.c.M A (getMethod ov (S.nm m) pl) Q E s:=by
 obtain⟨fa,q1,q2,q3,q4,q5,q6,q7,q8⟩:=ok.jB hk';have hs:(S.c.rd.map λx=>Value.ref x.1)=some ov:=hf.zz λh=>h;rw[aX]at hs;obtain⟨⟨rr,d,tl,nd⟩,q,rfl⟩:=hs;obtain⟨es,n',p,t,z1,z2,z3,z4,z5,z6,z7,z8⟩:=I.d7.rd _ _ _ _ q;refine aH (ud I fr) λm' hn xL=>?_;have II:InstAt s.heap rr (instObj 811 d) 811 (some (dictOf es n')):=⟨I.cE _ _ z6,rfl,rfl,z1⟩;have Kl:getL (S.nm m) es=some none:=by
  rw[gR _ z3];have b1:((Str.ofString "tokens")==S.nm m)=false:=by simpa using Ne.symm q6
  have b2:((Str.ofString "at")==S.nm m)=false:=by simpa using Ne.symm q7
  have b3:((Str.ofString "named")==S.nm m)=false:=by simpa using Ne.symm q8
  simp only[List.find?_cons,List.find?_nil,b1,b2,b3,Option.map_none]
 refine method_inst xL ok.K.xM II q2 q3 q4 Kl<|go (ok.sx.kp (.fn q1) I.base) λ{vs s' F'} X V I' f'=>aM (ok.sx.fn q5 h2 hA q1 I' f'.tk f'.big (.cons (hf.mono X) V)) (λz_ z_ p=>p.Kk f') λz_ z_ x=>x
theorem GG(ok:cQ S)(hA:S.cP A)(go:MQ S A E env σ as g1 g' r F s Q)(hf:VM S.c F ov (.sp 3))(hk':S.T.iJ m=some k)(h2:S.O k (.sp 3::as) g1=some (r,g'))(I:Inv S.c F g0 s)(fr:ax S.nm S.c env F σ s):
  wpAny S.c.M A (getMethod ov (S.nm m) pl) Q E s:=by
 obtain⟨fa,q1,q2,q3,q4,q5,q6,q7,q8,q9⟩:=ok.iJ hk';have hs:(S.c.cd.map λx=>Value.ref x.1)=some ov:=hf.zz λh=>h;rw[aX]at hs;obtain⟨⟨rr,d⟩,q,rfl⟩:=hs;obtain⟨es,n',vr,vn,vd,vl,z1,z2,z3,z4,z5,z6,z7,z8,z9⟩:=I.d7.cd _ _ q;refine aH (ud I fr) λm' hn xL=>?_;have II:InstAt s.heap rr (instObj 470 d) 470 (some (dictOf es n')):=⟨I.cE _ _ z8,rfl,rfl,z1⟩;have Kl:getL (S.nm m) es=some none:=by
  rw[gR _ z3];have b1:((Str.ofString "reader")==S.nm m)=false:=by simpa using Ne.symm q6
  have b2:((Str.ofString "is_named")==S.nm m)=false:=by simpa using Ne.symm q7
  have b3:((Str.ofString "depth")==S.nm m)=false:=by simpa using Ne.symm q8
  have b4:((Str.ofString "last")==S.nm m)=false:=by simpa using Ne.symm q9
  simp only[List.find?_cons,List.find?_nil,b1,b2,b3,b4,Option.map_none]
 refine method_inst xL ok.K.xM II q2 q3 q4 Kl<|go (ok.sx.kp (.fn q1) I.base) λ{vs s' F'} X V I' f'=>aM (ok.sx.fn q5 h2 hA q1 I' f'.tk f'.big (.cons (hf.mono X) V)) (λz_ z_ p=>p.Kk f') λz_ z_ x=>x
theorem C3(ok:cQ S)(hA:S.cP A)(go:MQ S A E env σ as g1 g' r F {s with toks:=s.toks+1} Q)(hf:VM S.c F ov (.sp 3))(h2:S.O 801 as g1=some (r,g'))(I:Inv S.c F g0 s)(fr:ax S.nm S.c env F σ s):
  wpAny S.c.M A (getMethod ov (S.nm 6) pl) Q E s:=by
 have hs:(S.c.cd.map λx=>Value.ref x.1)=some ov:=hf.zz λh=>h;rw[aX]at hs;obtain⟨⟨rr,d⟩,q,rfl⟩:=hs;obtain⟨es,n',vr,vn,vd,vl,z1,z2,z3,z4,z5,z6,z7,z8,z9⟩:=I.d7.cd _ _ q;refine aH (ud I fr) λm' hn xL=>?_;have II:InstAt s.heap rr (instObj 470 d) 470 (some (dictOf es n')):=⟨I.cE _ _ z8,rfl,rfl,z1⟩;have hok:=ok.K.cd 6 (mC rfl) (mC rfl);unfold gX at hok;simp only[aV,df]at hok;refine kmu_own xL ok.K.xM II hok.1.1 hok.2 ?_;refine fc (I.xM ok.K) (I.cE _ _ z8) z1 z3 (ok.K.cd 6 (mC rfl) (by exact mC rfl)) (v:=vn) (by rw[ok.N.n6];rfl) (gS z5 λz_ e=>AV.noConfusion e) ?_;exact go (ok.sx.kpc z5) λ{vs s' F'} X V I' f'=>aM (ok.sx.eD h2 hA (z5.mono X) I' f'.tk f'.big V) (λz_ z_ p=>p.Kk f') λz_ z_ x=>x
theorem C4(ok:cQ S)(go:MQ S A E env σ as g1 g' r F s Q)(hf:VM S.c F ov (.str l))(h2:vB S.T l m as g1=some (r,g')):wpAny S.c.M A (getMethod ov (S.nm m) pl) Q E s:=by refine hf.i6 (P:=λov=>wpAny S.c.M A (getMethod ov (S.nm m) pl) Q E s) λt hl=>?_;unfold vB at h2;cases q:Nat.beq m 16 with|true=>rw[q]at h2;refine aH (a8 h2) λa e1 h2=>aH (a8 h2) λch e2 h2=>aH (a8 h2) λk e h2=>?_;refine fS h2 λx y=>?_;subst x y;rw[aj q,ok.N.n16];refine GM.index (go (eE _ _ _) λ{vs s' F'} X V I' f'=>?_);rw[lO e1,ue e2]at V;refine aH (ip V) λv dN hv=>?_;subst dN;refine hv.i6 λt' z_=>b0 (C5 e) λr' e=>SC.index e (aE.now .int I' _)|false=>rw[q]at h2;refine aH (a8 h2) λv e h2=>?_;rw[p9 ok.hon]at h2;refine fS h2 λx y=>?_;subst x y;refine aH (C6 (c:=S.c) ok.hlim ok.N e) λid YK hc=>YK.get (go (eE _ _ _) λ{vs s' F'} X V I' f'=>hc hl I' f' V)
theorem Bu(ok:cQ S)(go:MQ S A E env σ as g1 g1 r F s Q)(hf:VM S.c F ov (.dict l))(h2:qd l as=some r)(I:Inv S.c F g0 s):wpAny S.c.M A (getMethod ov (S.nm 17) pl) Q E s:=by
 refine aH (a8 h2) λp e1 h2=>aH (a8 h2) λy e2 h2=>hf.vC λa o kvs hF hm hd hvs=>?_;have hd':=Heap.dictOf_iff.mpr ⟨o,I.cE _ _ hF,hd⟩;rw[ok.N.n17];refine getMethod_builtin hd'.typeIs PySem.F.plainAttrs_dict PySem.F.slot_dict_get PySem.F.type_dict_get hd'.mapOf.noDict (go (eE _ _ _) λ{vs s' F'} X V I' f'=>?_);have hd2:=Heap.dictOf_iff.mpr ⟨o,I'.cE _ _ (X _ _ hF),hd⟩;rw[ni e1,eP e2]at V;cases V with|@cons v1 vs1 _ _ hv1 V=>
 refine aH (ip V) λv2 dN hv2=>?_;subst dN;refine hv1.i6 λt' z_=>call_meetsIn PySem.F.slot_dict_get hd2.typeIs PySem.F.entry_dict_get (PySem.F.args_dict_get_3 _ _ _) (meets_dict_get_default (PySem.strKind S.c.prog S.c.w) a (strKind_is _ _ _ _) hm v2) ⟨_,hd2.mapOf,?_⟩;have z:=qe hvs y;have h2:=h2;cases q:kW y l with|some v=>rw[q]at z h2;refine bD h2 λx=>?_;subst x;refine aH z λw z1 z2=>?_;rw[z1];exact aE.now (z2.mono X) I' _|none=>rw[q]at z h2;refine bD h2 λx=>?_;subst x;have z:=z;rw[z];exact aE.now hv2 I' _
end
theorem C0(ok:cQ S)(ih:ej S n)(hk:∀x,env.kindOf x=kk x)(hA:S.cP A)
  (ha:fA S kk args bP) (hf:VM S.c F ov oa) (h1:ci (ev S.T S.O n) args σ g=some (as,g1)) (h2:C7 S.T S.O oa m as g1=some (r,g')) (I:Inv S.c F g s) (fr:ax S.nm S.c env F σ s):
  wpAny S.c.M A (getMethod ov (S.nm m) pl) (λfx s₂=>wpAny S.c.M A (callWith pos fx.1 fx.2 (bP.map λe=>(false,eval e env)) []) (aE S.c F s env.locals g' r) E s₂) E s:=by
 have go:∀{s:Shared},Inv S.c F g s->ax S.nm S.c env F σ s->MQ S A E env σ as g1 g' r F s (λfx s₂=>wpAny S.c.M A (callWith pos fx.1 fx.2 (bP.map λe=>(false,eval e env)) []) (aE S.c F s env.locals g' r) E s₂):=by
  intro s I fr f first hkp hcall
  refine ft (F:=F) hkp<|vz (lL ih hk hA ha h1 I fr) fr λvs s' F' X V I' Y f'=>⟨λb o e=>I'.cE _ _ (X.ext _ _ e),?_⟩
  exact io X Y (hcall X.ext V I' f')
 cases oa with
 |sp j=>have h2:(match Nat.beq j 1 with|true=>(S.T.jB m).bind λk=>S.O k (.sp 1::as) g1|false=>grd (Nat.beq j 3) (match Nat.beq m 6 with|true=>S.O 801 as g1|false=>(S.T.iJ m).bind λk=>S.O k (.sp 3::as) g1))=some (r,g'):=h2;cases q:Nat.beq j 1 with|true=>rw[q]at h2;refine aH (a8 h2) λk e h2=>?_;rw[aj q]at hf;exact GF ok hA (go I fr) hf e h2 I fr|false=>rw[q]at h2;refine aG (dX h2) λq3 h2=>?_;rw[aj q3]at hf;cases q6:Nat.beq m 6 with|true=>rw[q6]at h2;rw[aj q6];have YL:=fr.step S.nm (F':=F) XF.refl (eZ.toks (c:=S.c) (L:=env.locals) (s:=s) (s.toks+1)) (Nat.le_succ _);exact C3 ok hA (λhkp hc=>io (s':={s with toks:=s.toks+1}) (F':=F) XF.refl (eZ.toks _) (go (I.toks _) YL hkp hc)) hf h2 I fr|false=>rw[q6]at h2;refine aH (a8 h2) λk e h2=>GG ok hA (go I fr) hf e h2 I fr
 |str l=>exact C4 ok (go I fr) hf h2|dict l=>refine aG (dX (show grd (Nat.beq m 17) ((qd l as).bind λv=>some (v,g1))=some (r,g')from h2)) λq h2=>aH (a8 h2) λv e h2=>?_;refine fS h2 λx y=>?_;subst x y;rw[aj q];exact Bu ok (go I fr) hf e I|_=>exact aI h2
end
section
variable{S:Sys}{n:Nat}{env:Env}{σ:Sg}{A:Around}{E:Value->Shared->Prop}{s:Shared}{F:cF}{kk:KK}{g g':G}
theorem Inv.M7(I:Inv c F g s)(ha:s.heap.objs.size<=a)(ho:h'.get? a=some o)(hk:∀b o',s.heap.get? b=some o'->h'.get? b=some o')(t):
  Inv c (fq F a o) g {s with heap:=h',toks:=t}/\XF s F (fq F a o)/\∀L,eZ c L s {s with heap:=h',toks:=t}:=by
 have hF:F a=none:=by cases z:F a with|none=>rfl|some o'=>exact bc (aN (I.cE _ _ z)) (bO.mpr ha)
 have ex:Ext F (fq F a o):=λb o' e=>by
  by_cases q:b=a
  ·rw[q,hF]at e;exact aI e
  ·rw[bf q];exact e
 refine⟨⟨λb o' e=>?_,λb o' e=>ex _ _ (I.base _ _ e),λb hb=>?_,I.d7.mono ex λb z_ o' e=>hk _ _ e,I.fJ⟩,⟨ex,λb hb=>bf (aJ (aB (bw hb) ha))⟩,λL=>eZ.grow hk t⟩
 ·by_cases q:b=a
  ·(clear hF ex;subst q);rw[b9]at e;(refine bD e λx=>?_;subst x);exact ho
  ·rw[bf q]at e;exact hk _ _ (I.cE _ _ e)
 ·refine b0 (I.d7.alive hb) λo' e=>?_;rw[bf (aJ (aB (aN e) ha))];exact I.apart b hb
def plainT(e:Expr):Prop:=∀env w,isTrue e env w=(do let v ←w;standAt e.pos;holding [v] (truthy v))
theorem da(hp:plainT e)(f:ax S.nm S.c env F σ s)(h:wpAny S.c.M A (eval e env) (aE S.c F s env.locals g' a) E s):
  wpAny S.c.M A (eval e env) (aE S.c F s env.locals g' a) E s/\∀b,dn a=some b->wpAny S.c.M A (isTrue e env (eval e env)) (ji S.c F s env.locals g' b) E s:=
 ⟨h,λb hb=>isTrue_plain (gW h f λz_ z_ z_ X V I' Y z_=>pZ X Y (lK I' V hb)) (hp _ _)⟩
theorem CV(hx:∀x,S.mi x e->behindInMarks op e=false)(h:RE S kk pe e):behindInMarks op e=false:=by induction h using RE.cs<;>first|rfl|exact hx _ (by assumption)
theorem SF(ih:ej S n)(hk:∀x,env.kindOf x=kk x)(hA:S.cP A):∀{pD:List PE} {es:List Expr} {g g':G} {a:AV} {b:Bool} {F:cF} {s:Shared},fA S kk pD es->kU (ev S.T S.O n) pD σ g=some (a,g')->dn a=some b->Inv S.c F g s->ax S.nm S.c env F σ s->
  wpAny S.c.M A (isTrue (.BoolOp .And es p) env w) (ji S.c F s env.locals g' b) E s:=by
 intro pD es g g' a b F s hr;induction hr using fA.ind generalizing g g' a b F s with
 |nil=>intro h;exact aI h|cons hr hs t ihs=>
  refine iG λv g1 e1 h hb I f=>isTrue_and ?_;revert h;refine Gx (λer h=>?_) λhne h=>?_
  ·refine fS h λx y=>?_;subst x y;subst er;refine goB ((ih hr hk hA e1 I f).2 b hb) f λs' F' X I' Y f'=>?_;obtain rfl:=t.CW;cases b with|true=>rw[br rfl];exact isTrue_and_nil ⟨rfl,F',X,I',Y⟩|false=>rw[bi bM];exact⟨rfl,F',X,I',Y⟩
  ·revert h;refine RN (λe2 h=>?_) λe2 h=>?_
   ·refine goB ((ih hr hk hA e1 I f).2 true e2) f λs' F' X I' Y f'=>?_;rw[br rfl];exact pZ X Y (ihs h hb I' f')
   ·refine fS h λx y=>?_;subst x y;refine goB ((ih hr hk hA e1 I f).2 false e2) f λs' F' X I' Y f'=>?_;rw[bi bM];rw[e2]at hb;(refine bD hb λx=>?_;subst x);exact⟨rfl,F',X,I',Y⟩
theorem YH(ih:ej S n)(hk:∀x,env.kindOf x=kk x)(hA:S.cP A):∀{pD:List PE} {es:List Expr} {g g':G} {a:AV} {b:Bool} {F:cF} {s:Shared},fA S kk pD es->CX (ev S.T S.O n) pD σ g=some (a,g')->dn a=some b->Inv S.c F g s->ax S.nm S.c env F σ s->
  wpAny S.c.M A (isTrue (.BoolOp .Or es p) env w) (ji S.c F s env.locals g' b) E s:=by
 intro pD es g g' a b F s hr;induction hr using fA.ind generalizing g g' a b F s with
 |nil=>intro h;exact aI h|cons hr hs t ihs=>
  refine iG λv g1 e1 h hb I f=>isTrue_or ?_;revert h;refine Gx (λer h=>?_) λhne h=>?_
  ·refine fS h λx y=>?_;subst x y;subst er;refine goB ((ih hr hk hA e1 I f).2 b hb) f λs' F' X I' Y f'=>?_;obtain rfl:=t.CW;cases b with|true=>rw[br rfl];exact⟨rfl,F',X,I',Y⟩|false=>rw[bi bM];exact isTrue_or_nil ⟨rfl,F',X,I',Y⟩
  ·revert h;refine WJ (λe2 h=>?_) λe2 h=>?_
   ·refine goB ((ih hr hk hA e1 I f).2 false e2) f λs' F' X I' Y f'=>?_;rw[bi bM];exact pZ X Y (ihs h hb I' f')
   ·refine fS h λx y=>?_;subst x y;refine goB ((ih hr hk hA e1 I f).2 true e2) f λs' F' X I' Y f'=>?_;rw[br rfl];rw[e2]at hb;(refine bD hb λx=>?_;subst x);exact⟨rfl,F',X,I',Y⟩
theorem Gy(ih:ej S n)(hk:∀x,env.kindOf x=kk x)(hA:S.cP A):∀{pD:List PE} {es:List Expr} {g g':G} {a:AV} {F:cF} {s:Shared},fA S kk pD es->kU (ev S.T S.O n) pD σ g=some (a,g')->Inv S.c F g s->ax S.nm S.c env F σ s->
  wpAny S.c.M A (eval (.BoolOp .And es p) env) (aE S.c F s env.locals g' a) E s:=by
 intro pD es g g' a F s hr;induction hr using fA.ind generalizing g g' a F s with
 |nil=>intro h;exact aI h|cons hr hs t ihs=>
  refine iG λv g1 e1 h I f=>?_;revert h;refine Gx (λer h=>?_) λhne h=>?_
  ·refine fS h λx y=>?_;subst x y;subst er;obtain rfl:=t.CW;exact BoolOp_one (ih hr hk hA e1 I f).1
  ·obtain⟨e9,t9,rfl⟩:=t.ne hne;refine BoolOp_and (gW (ih hr hk hA e1 I f).1 f λv' s' F' X V I' Y f'=>?_);revert h;refine RN (λe2 h=>?_) λe2 h=>?_
   ·refine goB (lK I' V e2) f' λs2 F2 X2 I2 Y2 f2=>?_;rw[br rfl];exact io (X.two Y X2) (Y.trans Y2) (ihs h I2 f2)
   ·refine fS h λx y=>?_;subst x y;refine goB (lK I' V e2) f' λs2 F2 X2 I2 Y2 f2=>?_;rw[bi bM];exact⟨F2,X.two Y X2,V.mono X2.ext,I2,Y.trans Y2⟩
theorem Kc(ih:ej S n)(hk:∀x,env.kindOf x=kk x)(hA:S.cP A):∀{pD:List PE} {es:List Expr} {g g':G} {a:AV} {F:cF} {s:Shared},fA S kk pD es->CX (ev S.T S.O n) pD σ g=some (a,g')->Inv S.c F g s->ax S.nm S.c env F σ s->
  wpAny S.c.M A (eval (.BoolOp .Or es p) env) (aE S.c F s env.locals g' a) E s:=by
 intro pD es g g' a F s hr;induction hr using fA.ind generalizing g g' a F s with
 |nil=>intro h;exact aI h|cons hr hs t ihs=>
  refine iG λv g1 e1 h I f=>?_;revert h;refine Gx (λer h=>?_) λhne h=>?_
  ·refine fS h λx y=>?_;subst x y;subst er;obtain rfl:=t.CW;exact BoolOp_one (ih hr hk hA e1 I f).1
  ·obtain⟨e9,t9,rfl⟩:=t.ne hne;refine BoolOp_or (gW (ih hr hk hA e1 I f).1 f λv' s' F' X V I' Y f'=>?_);revert h;refine WJ (λe2 h=>?_) λe2 h=>?_
   ·refine goB (lK I' V e2) f' λs2 F2 X2 I2 Y2 f2=>?_;rw[bi bM];exact io (X.two Y X2) (Y.trans Y2) (ihs h I2 f2)
   ·refine fS h λx y=>?_;subst x y;refine goB (lK I' V e2) f' λs2 F2 X2 I2 Y2 f2=>?_;rw[br rfl];exact⟨F2,X.two Y X2,V.mono X2.ext,I2,Y.trans Y2⟩
theorem Kd(hs:∀o i,∃ops,subscripted slice false o i=operate ops (getItem o i))(I:Inv S.c F g s)(hx:VM S.c F v (.sp 0))(hy:VM S.c F i j)(h:Ke g j=some r):
  wpAny S.c.M A (subscriptTail value slice v i) (aE S.c F s env.locals g r) E s:=by
 refine hx.zz λhs'=>?_;have hs':(S.c.box.map Value.ref)=some v:=hs';rw[aX]at hs';(clear hx;(revert hs';refine λoz=>aH oz λb q kO=>?_;clear oz;subst kO));obtain⟨o,vc,vg,vs,vp,n',z1,z2,z3,z4,z5,z6,z7⟩:=I.d7.box _ q;have hL:s.heap.IsList b #[vc,vg,vs,vp]:=⟨o,z1,z2,n',z3⟩;refine aH (a8 h) λn e h=>?_;rw[gb e]at hy;refine hy.dJ λt=>?_;refine Kf h (λe1 e2=>?_) (λe1 e2=>?_) (λe1 e2=>?_) λe1 e2=>?_<;>((clear hy e h;subst e1);subst e2)
 ·exact cW hL.typeIs slot_list_getitem.lookup hs (wpAny_getItem_list (x:=vc) hL (by decide) (by decide) rfl (aE.here z4 I))
 ·exact cW hL.typeIs slot_list_getitem.lookup hs (wpAny_getItem_list (x:=vg) hL (by decide) (by decide) rfl (aE.here z5 I))
 ·exact cW hL.typeIs slot_list_getitem.lookup hs (wpAny_getItem_list (x:=vs) hL (by decide) (by decide) rfl (aE.here z6 I))
 ·exact cW hL.typeIs slot_list_getitem.lookup hs (wpAny_getItem_list (x:=vp) hL (by decide) (by decide) rfl (aE.here z7 I))
theorem Kg(hs:∀o i,∃ops,subscripted slice false o i=operate ops (getItem o i))(I:Inv S.c F g s)(hx:VM S.c F v (.sp 2))(hy:VM S.c F i (.pos rm k))(h:p7 k rm=some r):
  wpAny S.c.M A (subscriptTail value slice v i) (aE S.c F s env.locals g r) E s:=by
 refine hx.zz λhs'=>?_;have hs':(S.c.rd.map λx=>Value.ref x.2.2.1)=some v:=hs';rw[aX]at hs';(clear hx;obtain⟨⟨rr,d,tl,nd⟩,q,rfl⟩:=hs');obtain⟨es,n',p,t,z1,z2,z3,z4,z5,z6,z7,z8⟩:=I.d7.rd _ _ _ _ q;refine z7.listE λa o vs n hF hc hd hn hvs=>hy.xW λp' t' hp hr=>?_;rw[iH,←hr,List.getElem?_drop]at h;refine aH (hvs.get h) λw h1 h2=>?_;have hl:=hvs.length;have:p'+k<S.c.T.length:=(List.getElem?_eq_some_iff.mp h).1;exact cW (I.isList hF hc hd).typeIs slot_list_getitem.lookup hs (wpAny_getItem_list (x:=w) (I.isList hF hc hd) (M8 hp hl) (by omega) (by rw[Int.toNat_natCast];simpa using h1) (aE.here h2 I))
theorem Gz(hs:∀o i,∃ops,subscripted slice false o i=operate ops (getItem o i))(I:Inv S.c F g s)(hx:VM S.c F v x)(hy:VM S.c F i j)(h:Kh g x j=some r):
  wpAny S.c.M A (subscriptTail value slice v i) (aE S.c F s env.locals g r) E s:=by
 cases x with
 |sp k=>have h:(match Nat.beq k 2 with|true=>(GA j).bind λp=>p7 p.2 p.1|false=>grd (Nat.beq k 0) (Ke g j))=some r:=h;cases q:Nat.beq k 2 with|true=>rw[q]at h;refine aH (a8 h) λp e h=>?_;rw[aj q]at hx;rw[zA e]at hy;exact Kg hs I hx hy h|false=>rw[q]at h;refine aG (dX h) λq h=>?_;rw[aj q]at hx;exact Kd hs I hx hy h
 |_=>exact Ki hs I hx hy h
theorem GB(ok:cQ S)(rg:mj S)(lx:∀{x e op},S.mi x e->behindInMarks op e=false)(ih:ej S n):ej S (n+1):=by
 intro kk pe e hr env σ g g' a F s A E hk hA h I f;have h:=h;induction hr using RE.cs with
 |@aq _ i k p=>refine fS h λx y=>?_;subst x y;exact da (λz_ z_=>rfl) f (show wpAny S.c.M A (mkInt i) _ E s from wpAny_mkInt (aE.now .int I _))|@ak _ l k p hl=>refine fS h λx y=>?_;subst x y;exact da (λz_ z_=>rfl) f (wpAny_Constant_str (aE.now (.str hl) I _))|ck=>(refine fS h λx y=>?_;subst x y);exact da (λz_ z_=>rfl) f (Constant_none (aE.here .none I))|cBool=>(refine fS h λx y=>?_;subst x y);exact da (λz_ z_=>rfl) f (Constant_bool (aE.here .bool I))|@dx _ l k p hl=>refine fS h λx y=>?_;subst x y;refine da (λz_ z_=>rfl) f (show wpAny S.c.M A (mkTextBytes (l.map UInt8.ofNat).toArray) _ E s from wpAny_mkTextBytes (aE.now (.bytes hl) I _))|@ah _ x p hkl hd hc=>revert h;refine CY λv e h=>?_;refine fS h λx y=>?_;subst x y;exact da (λz_ z_=>rfl) f (wpAny_Name (i5 I f e (by rw[hk];exact hkl) hc λv hv=>aE.here hv I) hd)|@dD _ k p hg hd=>revert h;refine CY λv e h=>?_;refine fS h λx y=>?_;subst x y;exact da (λz_ z_=>rfl) f (ku ok hk hg hd e I f λv hv=>aE.here hv I)|@attr _ o eo at_ p ho hb=>
  revert h;refine iG λv g1 e1 h=>?_;revert h;refine CY λr e2 h=>?_;refine fS h λx y=>?_;subst x y;refine da (λz_ z_=>rfl) f (Attribute_any_ (gW (ih ho hk hA e1 I f).1 f λv' s' F' X V I' Y f'=>io X Y (GC ok.N ok.K I' V e2)) ?_)
  have e0:eval (.Attribute eo (S.nm at_) p) env=(do
   let o ←attributeBase eo (S.nm at_) env (eval eo env)
   standAt p.atName
   let r ←holding [o] (getAttr o (S.nm at_) true)
   letTemporaryGo eo o r
   pure r):=rfl
  have e1:attributeBase eo (S.nm at_) env (eval eo env)=eval eo env:=vy hb _ _ _;rw[e0,e1]
 |@sub _ o eo i ei p ho hi=>have hsub:∀o i,∃ops,subscripted ei false o i=operate ops (getItem o i):=λo i=>⟨_,GD ok hi o i⟩;revert h;refine iG λv g1 e1 h=>?_;revert h;refine iG λj g2 e2 h=>da (λz_ z_=>rfl) f (Subscript_ (gW (ih ho hk hA e1 I f).1 f λv' s' F' X V I' Y f'=>gW (ih hi hk hA e2 I' f').1 f' λj' s2 F2 X2 V2 I2 Y2 f2=>?_));revert h;refine CY λr e3 h=>?_;refine fS h λx y=>?_;subst x y;exact io (X.two Y X2) (Y.trans Y2) (Gz hsub I2 (V.mono X2.ext) V2 e3)|@eC _ o eo lo nk p p' ho hl=>revert h;refine iG λv g1 e1 h=>?_;revert h;refine iG λj g2 e2 h=>?_;revert h;refine CY λr e3 h=>?_;refine fS h λx y=>?_;subst x y;refine da (λz_ z_=>rfl) f (Subscript_ (gW (ih ho hk hA e1 I f).1 f λv' s' F' X V I' Y f'=>wpAny_Slice ?_));refine gW (t:=eval nk env) (ih hl hk hA e2 I' f').1 f' λj' s2 F2 X2 V2 I2 Y2 f2=>evalPart_none_step (evalPart_none_step ?_);exact aM (xX (lo:=some j) (hi:=none) (λo i=>⟨_,rfl⟩) I2 (V.mono X2.ext) V2 rfl e3) (λz_ z_ p=>p.after (X.two Y X2) (Y.trans Y2)) λz_ z_ x=>x|@fU _ o eo lo nk p p' ho hl=>revert h;refine iG λv g1 e1 h=>?_;revert h;refine iG λj g2 e2 h=>?_;revert h;refine CY λr e3 h=>?_;refine fS h λx y=>?_;subst x y;refine da (λz_ z_=>rfl) f (Subscript_ (gW (ih ho hk hA e1 I f).1 f λv' s' F' X V I' Y f'=>wpAny_Slice (evalPart_none_step ?_)));refine gW (t:=eval nk env) (ih hl hk hA e2 I' f').1 f' λj' s2 F2 X2 V2 I2 Y2 f2=>evalPart_none_step<|aM (xX (lo:=none) (hi:=some j) (λo i=>⟨_,rfl⟩) I2 (V.mono X2.ext) rfl V2 e3) (λz_ z_ p=>p.after (X.two Y X2) (Y.trans Y2)) λz_ z_ x=>x|@jw _ o eo lo nk hi p8 p p' ho hl hh=>revert h;refine iG λv g1 e1 h=>?_;revert h;refine iG λj g2 e2 h=>?_;revert h;refine iG λu g3 e3 h=>?_;revert h;refine CY λr e4 h=>?_;refine fS h λx y=>?_;subst x y;refine da (λz_ z_=>rfl) f (Subscript_ (gW (ih ho hk hA e1 I f).1 f λv' s' F' X V I' Y f'=>wpAny_Slice ?_));refine gW (t:=eval nk env) (ih hl hk hA e2 I' f').1 f' λj' s2 F2 X2 V2 I2 Y2 f2=>gW (t:=eval p8 env) (ih hh hk hA e3 I2 f2).1 f2 λu' s3 F3 X3 V3 I3 Y3 f3=>evalPart_none_step<|aM (xX (lo:=some j) (hi:=some u) (λo i=>⟨_,rfl⟩) I3 ((V.mono X2.ext).mono X3.ext) (V2.mono X3.ext) V3 e4) (λz_ z_ p=>p.after ((X.two Y X2).two (Y.trans Y2) X3) ((Y.trans Y2).trans Y3)) λz_ z_ x=>x|@aT _ es ees k p hs=>revert h;refine xJ λvs g1 e1 h=>?_;revert h;refine sN λq h=>?_;refine fS h λx y=>?_;subst x y;refine da (λz_ z_=>rfl) f (Tuple_ ?_);rw[dY hs env,cX];exact vz (lL ih hk hA hs e1 I f) f λvs' s' F' X V I' Y f'=>io X Y (Bt I' V (aw (aa q) (mC rfl)))|@lst _ es ees p hs=>revert h;refine xJ λvs g1 e1 h=>?_;revert h;refine sN λq h=>?_;refine fS h λx y=>?_;subst x y;refine da (λz_ z_=>rfl) f (List_ ?_);rw[dY hs env,cX];exact vz (lL ih hk hA hs e1 I f) f λvs' s' F' X V I' Y f'=>io X Y (xY I' V (aw (aa q) (mC rfl)))|@iI _ l keys values p D ds=>
  refine fS h λx y=>?_;subst x y;refine da (λz_ z_=>rfl) f (Dict_lits_str ds.h ds.hs ds.hn ds.hall ds.hle ds.h0 ds.cM λa o h₁ tk ha ho hT hkp=>?_);refine aH hT λkvs hd hf=>dy (I.M7 ha ho hkp tk) λJ1 J2 J3=>?_;have hsm:(a==sysModules)=false:=by have h1:=f.above;have h2:=bw f.alive;have h3:=ok.sm;exact b8.mpr (Nat.ne_of_gt (aB h3 (aw h1 (aw (cb h2) ha))))
  exact⟨_,J2,.dict (b9 _ _ _) hsm hd (sO ds.hl ds.hb hf),J1,J3 _⟩
 |@bin _ op x ex y ey p hx hy=>revert h;refine iG λv g1 e1 h=>?_;revert h;refine iG λj g2 e2 h=>?_;revert h;refine CY λr e3 h=>?_;rw[p9 ok.hon]at h;refine fS h λx y=>?_;subst x y;refine da (λz_ z_=>rfl) f (wpAny_BinOp (gW (ih hx hk hA e1 I f).1 f λv' s' F' X V I' Y f'=>gW (ih hy hk hA e2 I' f').1 f' λj' s2 F2 X2 V2 I2 Y2 f2=>?_));exact io (X.two Y X2) (Y.trans Y2) (Kj ok.hlim I2 f2 (V.mono X2.ext) V2 e3)|@dE _ x ex p hx=>
  revert h;refine iG λv g1 e1 h=>?_;revert h;refine WK λb e2 h=>?_;refine fS h λx y=>?_;subst x y;refine⟨UnaryOp_ (gW (ih hx hk hA e1 I f).1 f λv' s' F' X V I' Y f'=>not_of ?_),λb' hb'=>isTrue_not ?_⟩
  ·exact goB (lK I' V e2) f' λs2 F2 X2 I2 Y2 f2=>⟨F2,X.two Y X2,.bool,I2,Y.trans Y2⟩
  ·have:b'=!b:=bD hb' Eq.symm;(clear hb';subst this);exact goB ((ih hx hk hA e1 I f).2 b e2) f λs2 F2 X2 I2 Y2 f2=>⟨rfl,F2,X2,I2,Y2⟩
 |@neg _ x ex p hx=>revert h;refine SG λi g1 e1 h=>?_;refine fS h λx y=>?_;subst x y;refine da (λz_ z_=>rfl) f (UnaryOp_ (gW (ih hx hk hA e1 I f).1 f λv' s' F' X V I' Y f'=>?_));refine V.dJ λt=>PyProof.Rows.neg_int ⟨F',X,.int,I'.toks _,Y.trans (eZ.toks _)⟩|@dF _ es ees p hs=>exact⟨Gy ih hk hA hs h I f,λb hb=>SF ih hk hA hs h hb I f⟩|@lM _ es ees p hs=>exact⟨Kc ih hk hA hs h I f,λb hb=>YH ih hk hA hs h hb I f⟩|@cmp _ op x ex y ey p hx hy=>
  revert h;refine iG λv g1 e1 h=>?_;revert h;refine iG λj g2 e2 h=>?_;revert h;refine WK λr e3 h=>?_;refine fS h λx y=>?_;subst x y;have hm:behindInMarks op ey=false:=CV (λx hx=>lx hx) hy
  refine⟨wpAny_Compare1 (gW (ih hx hk hA e1 I f).1 f λv' s' F' X V I' Y f'=>gW (ih hy hk hA e2 I' f').1 f' λj' s2 F2 X2 V2 I2 Y2 f2=>?_) hm,
   λb hb=>wpAny_isTrue_Compare1 (gW (ih hx hk hA e1 I f).1 f λv' s' F' X V I' Y f'=>gW (ih hy hk hA e2 I' f').1 f' λj' s2 F2 X2 V2 I2 Y2 f2=>?_) hm⟩
  ·exact io (X.two Y X2) (Y.trans Y2) (CZ (ok.rU hA) I2 (V.mono X2.ext) V2 e3)
  ·refine gW (CZ (env:=env) (ok.rU hA) I2 (V.mono X2.ext) V2 e3) f2 λc' s3 F3 X3 V3 I3 Y3 f3=>pZ ((X.two Y X2).two (Y.trans Y2) X3) ((Y.trans Y2).trans Y3) (lK I3 V3 hb)
 |@ite _ t et x ex y ey p ht hx hy=>
  revert h;refine iG λv g1 e1 h=>?_;revert h;refine RN (λe2 h=>?_) λe2 h=>?_
  ·refine⟨IfExp_ (goB ((ih ht hk hA e1 I f).2 true e2) f λs' F' X I' Y f'=>?_),λb hb=>isTrue_IfExp (goB ((ih ht hk hA e1 I f).2 true e2) f λs' F' X I' Y f'=>?_)⟩
   ·rw[br rfl];exact io X Y (ih hx hk hA h I' f').1
   ·rw[br rfl];exact pZ X Y ((ih hx hk hA h I' f').2 b hb)
  ·refine⟨IfExp_ (goB ((ih ht hk hA e1 I f).2 false e2) f λs' F' X I' Y f'=>?_),λb hb=>isTrue_IfExp (goB ((ih ht hk hA e1 I f).2 false e2) f λs' F' X I' Y f'=>?_)⟩
   ·rw[bi bM];exact io X Y (ih hy hk hA h I' f').1
   ·rw[bi bM];exact pZ X Y ((ih hy hk hA h I' f').2 b hb)
 |@ai _ k args bP p p' hg hd ha=>revert h;refine CY λfa e1 h=>?_;revert h;refine xJ λvs g1 e2 h=>da (λz_ z_=>rfl) f<|an (ku ok hk hg hd e1 I f λfv sw=>callArgs ok ih hk hA ha sw e2 h I f)|@dM _ x args bP p p' hkl hd hc ha=>revert h;refine CY λfa e1 h=>?_;revert h;refine xJ λvs g1 e2 h=>da (λz_ z_=>rfl) f ?_;exact an (wpAny_Name (i5 I f e1 (by rw[hk];exact hkl) hc λfv sw=>callArgs ok ih hk hA ha sw e2 h I f) hd)|@aY _ o eo m args bP apos p ho hb ha hp hn=>revert h;refine iG λv g1 e1 h=>?_;revert h;refine xJ λvs g2 e2 h=>da (λz_ z_=>rfl) f (gQ hb hp hn (dY ha env) ?_);exact gW (ih ho hk hA e1 I f).1 f λv' s' F' X V I' Y f'=>aM (C0 ok ih hk hA ha V e2 h I' f') (λz_ z_ z=>aM z (λz_ z_ p=>p.after X Y) λz_ z_ x=>x) λz_ z_ x=>x|@joinR _ o eo x ex apos p p' p'' k ho hb hx hp SH hg hd hst=>
  revert h;refine mStr λsp g1 e1 h=>?_;revert h;refine M9 λl g2 e2 h=>?_;revert h;refine YI λxs e3 h=>?_;revert h;refine sN λq h=>?_;rw[aV]at q;have q:(cB 8388608 (cN sp xs)&&cB 1000 sp)=true:=by rw[aV,dA];exact⟨ok.hlim _ q.1,q.2⟩
  rw[p9 ok.hon]at h;cases (h);refine da (λz_ z_=>rfl) f (gQ hb hp (by simp) rfl (gW (ih ho hk hA e1 I f).1 f λv' s' F' X V I' Y f'=>?_));refine aH (jz V) λt dN hl=>?_;subst dN;rw[ok.N.n10];refine GM.join (ft (es:=[.Call (.Name (S.gn k) p') [ex] [] p'']) (F:=F') (eE S.c F' "str.join") ?_);refine bG (aM (Q:=λit s₁=>(∀b o,F' b=some o->s₁.heap.get? b=some o)/\wpAny S.c.M A (call (.builtin "str.join") [.str (bQ sp) t,it]) (aE S.c F s env.locals g' (.str (cN sp xs))) E s₁) ?_ (λit s₁ h₁=>cf h₁) λz_ z_ x=>x);refine an (ku ok hk hg hd SH I' f' λfv sw=>?_);refine sw.IZ λsw=>?_;rw[rg.SI]at sw;(refine bD sw λx=>?_;subst x);rw[dY (.cons hx hst .nil) env,cX];refine ft (es:=[ex]) (F:=F') (zB S.c F' "reversed")<|bG (gW (ih hx hk hA e2 I' f').1 f' λlv s2 F2 X2 V2 I2 Y2 f2=>cf ⟨λb o e=>I2.cE _ _ (X2.ext _ _ e),?_⟩)
  exact aM (ok.WL (t:=t) (E:=E) (ok.rH hA) I2 f2 V2 e3 q) (λit s₁ z=>⟨λb o e=>z.1 _ _ (I2.cE _ _ (X2.ext _ _ e)),aM z.2 (λz_ z_ p=>p.after (X.two Y X2) (Y.trans Y2)) λz_ z_ x=>x⟩) λz_ z_ x=>x
 |@dS _ o eo ch y apos p p' p'' k k' ho hb hp=>
  revert h;refine mStr λsp g1 e1 h=>?_;revert h;refine sN λq h=>?_;refine fS h λx y=>?_;subst x y;rw[aV,aV,dA,dA,Bool.not_eq_true']at q;refine da (λz_ z_=>rfl) f (gQ hb hp (by simp) rfl (gW (ih ho hk hA e1 I f).1 f λv' s' F' X V I' Y f'=>?_));refine aH (jz V) λt dN hl=>?_;subst dN;rw[ok.N.YJ];refine GM.of (.str (bQ sp) t) (typeIs_str _ _ _) PySem.F.slot_str_replace PySem.F.type_str_replace GM.noRef (ft (F:=F') (eE _ _ _) ?_);refine bG (wpAny_Constant_str (bG (wpAny_Constant_str (cf ⟨λb o e=>I'.cE _ _ e,?_⟩))));have tk:=f'.tk;have hyz:((bQ [ch]:Str)==bQ y)=false:=by
   rw[b8];intro e;have:[ch]=y:=by simpa using congrArg (λs:Str=>s.cps.toList) e
   rw[ez.mpr this]at q;exact bc q.2 (by simp)
  have hsz:(bQ sp).length+((bQ sp).length+1)*(bQ y).length<=16777216:=by simp only[Str.length,bX];have:(sp.length+1)*y.length<=(sp.length+1)*10:=Nat.mul_le_mul_left _ q.1.2;have:=q.1.1;omega
  refine SC.replace (Nat.ne_of_gt tk) (Nat.succ_ne_zero _) (aJ (dR _)) hyz hsz λt' kk'=>?_;have e:=xZ sp y ch;have e':=e;rw[e'];refine⟨F',X,.str ?_,I'.toks _,Y.trans (eZ.toks _)⟩;rw[←qc];have h1:∀ps:List (List Nat),(cN y ps).length<=(ps.map List.length).sum+ps.length*y.length:=by intro ps;induction ps with|nil=>simp[cN]|cons p ps ih=>cases ps with|nil=>simp[cN]|cons p2 ps=>show(p++(y++cN y (p2::ps))).length<=_;rw[ae,ae,aC,List.sum_cons,ac,Nat.succ_mul];exact Na ih
  have h2:∀x:List Nat,((bT ch x).map List.length).sum<=x.length:=by
   intro x;induction x with
   |nil=>simp[bT]|cons a x ih=>
    unfold bT
    split
    ·rw[aC,List.sum_cons,ac,ao];exact Nb ih
    ·split
     ·simp
     ·rename_i hh tt e;rw[e]at ih;simp only[aC,List.sum_cons,ac]at *;exact Nc ih
  have h3:=h1 (bT ch sp);have h4:=h2 sp;have h5:=lN ch sp;have h6:=Nat.mul_le_mul h5 q.1.2;have:=q.1.1;omega
 |@comp _ elt fu bI dB dg ik ies gk cond dU sc p hit hc he cs hnn=>revert h;refine xJ λvs g1 e1 h=>?_;revert h;refine RO λitems e2 h=>?_;revert h;refine sN λq h=>?_;revert h;refine xJ λxs g2 e3 h=>?_;refine fS h λx y=>?_;subst x y;exact da (λz_ z_=>rfl) f (GE ok rg ih hk hA hit hc he cs e1 e2 (aa q) e3 I f)|@lamD _ x e hl hc=>revert h;refine SJ λd e1 h=>?_;refine fS h λx y=>?_;subst x y;exact da (ok.lamT hl).2.1 f (ok.lam hl hA I f (by rw[hk];exact hc) e1)|@ek _ x k p p' p'' SH hg hd hd2=>
  revert h;refine RP λy l ho h=>?_;revert h;refine sN λq h=>?_;have q:=c0.mp q;subst q;refine fS h λx y=>?_;subst x y;refine da (λz_ z_=>rfl) f<|an (ku ok hk hg hd SH I f λfv sw=>?_)
  refine sw.IZ λsw=>?_;rw[ok.B.Nd]at sw;(refine bD sw λx=>?_;subst x);obtain⟨m,hn,_,hown⟩:=f.ns;obtain⟨a,o,vs,n',z1,z2,z3,z4,z5,z6,z7,z8,z9,Gn,Go⟩:=(hown x l ho);refine ft (es:=[.Name (S.nm x) p'']) (F:=F) (eE _ _ _)<|bG (wpAny_Name (wpAny_loadName_local f.kind z1 hn z2 (cf ⟨λb o e=>I.cE _ _ e,?_⟩)) hd2)
  have hl:=z6.length;rw[aW]at hl;refine call_len_list (items:=vs) ⟨o,z3,z4,n',z5⟩ (by omega) ?_;rw[hl];exact aE.now .int I _
theorem oH(ok:cQ S)(rg:mj S)(lx:∀{x e op},S.mi x e->behindInMarks op e=false):∀n,ej S n|0=>λz_=>λz_ z_ h=>by exact aI h|n+1=>GB ok rg lx (oH ok rg lx n)
end
structure gw(c:Ctx)(L:Addr)(oa nY:Option Addr)(s s':Shared)(F F':cF):Prop where
 ext:Ext F F'
 low:∀b,(s.heap.get? b).isSome=true->oa≠some b->F' b=F b
 keep:∀b o,b∉c.mu->b≠L->oa≠some b->s.heap.get? b=some o->s'.heap.get? b=some o
 alive:∀b,(s.heap.get? b).isSome=true->(s'.heap.get? b).isSome=true
 gens:s'.gens=s.gens
 os:s'.os=s.os
 fresh:∀a,nY=some a->oa=some a∨(s.heap.get? a).isSome=false
theorem gw.refl:gw c L oa oa s s F F:=⟨Ext.refl F,λz_ z_ z_=>rfl,λz_ z_ z_ z_ z_ e=>e,λz_ e=>e,rfl,rfl,λz_ e=>.inl e⟩
theorem gw.trans(x:gw c L oa nY s s' F F')(y:gw c L nY U0 s' s'' F' F''):gw c L oa U0 s s'' F F'':=by
 have ne:∀b,(s.heap.get? b).isSome=true->oa≠some b->nY≠some b:=λb hb h e=>by
  refine Or.elim (x.fresh b e) (λh'=>?_) λh'=>?_
  ·exact h h'
  ·rw[hb]at h';exact il h'
 refine⟨x.ext.trans y.ext,λb hb h=>(y.low b (x.alive b hb) (ne b hb h)).trans (x.low b hb h),λb o h1 h2 h3 e=>y.keep b o h1 h2 (ne b (by rw[e];rfl) h3) (x.keep b o h1 h2 h3 e),λb e=>y.alive b (x.alive b e),
  y.gens.trans x.gens,y.os.trans x.os,λa e=>?_⟩
 refine Or.elim (y.fresh a e) (λh=>?_) λh=>?_
 ·exact x.fresh a h
 ·refine .inr ?_;cases z:(s.heap.get? a).isSome with|false=>rfl|true=>rw[x.alive a z]at h;exact il h
theorem gw.sq(x:XF s F F')(y:eZ c L s s'):gw c L oa oa s s' F F':=
 ⟨x.ext,λb hb z_=>x.low b hb,λb o h1 h2 z_ e=>y.keep b o h1 h2 e,y.alive,y.gens,y.os,λz_ e=>.inl e⟩
theorem gw.GT(y:dZ L s s'):gw c L oa oa s s' F F:=
 ⟨Ext.refl F,λz_ z_ z_=>rfl,λb o z_ h2 z_ e=>y.keep b o h2 e,y.alive,y.gens,y.os,λz_ e=>.inl e⟩
theorem gw.drop(x:gw c L oa nY s s' F F'):gw c L oa none s s' F F':=
 ⟨x.ext,x.low,x.keep,x.alive,x.gens,x.os,λz_ e=>by exact aI e⟩
inductive Qs(nm:Nat->Str)(env:Env)(s:Shared)(oa:Option Addr)(x:Nat):Prop
 |mk(a:Addr)(m:Str->Option Value)(h1:oa=some a)(h2:s.heap.Ns env.locals m)(h3:m (nm x)=some (.ref a))
def cx(nm:Nat->Str)(env:Env)(s:Shared)(σ:Sg)(oa:Option Addr):Prop:=match σ.own with|none=>oa=none|some (x,_)=>Qs nm env s oa x
theorem cx.keep(h:cx nm env s σ oa)(k:∀m,s.heap.Ns env.locals m->s'.heap.Ns env.locals m):cx nm env s' σ oa:=by
 unfold cx at *
 split at h
 ·exact h
 ·obtain⟨a,m,h1,h2,h3⟩:=h;exact⟨a,m,h1,k m h2,h3⟩
inductive Qt(S:Sys)(env:Env)(s:Shared)(F:cF)(oa:Option Addr)(σ':Sg)(g':G)(s':Shared):Prop
 |mk(F':cF)(nY:Option Addr)(x:gw S.c env.locals oa nY s s' F F')(i:Inv S.c F' g' s')(f:ax S.nm S.c env F' σ' s')(o:cx S.nm env s' σ' nY)
inductive Qu(S:Sys)(env:Env)(s:Shared)(F:cF)(oa:Option Addr)(a:AV)(g':G)(fl:Flow)(s':Shared):Prop
 |mk(v:Value)(e:fl=.ret v)(F':cF)(x:gw S.c env.locals oa none s s' F F')(h:VM S.c F' v a)(i:Inv S.c F' g' s')
def cO(S:Sys)(env:Env)(s:Shared)(F:cF)(oa:Option Addr)(out:Out)(fl:Flow)(s':Shared):Prop:=match out with|.next σ' g'=>fl=.next/\Qt S env s F oa σ' g' s'|.ret a g'=>Qu S env s F oa a g' fl s'
theorem cO.after(x:gw S.c env.locals oa oa₁ s s₁ F F₁)(p:cO S env s₁ F₁ oa₁ out fl s'):cO S env s F oa out fl s':=by
 unfold cO at *
 split at p
 ·obtain⟨h1,F',nY,h2,h3,h4,h5⟩:=p;exact⟨h1,F',nY,x.trans h2,h3,h4,h5⟩
 ·obtain⟨v,h1,F',h2,h3,h4⟩:=p;exact⟨v,h1,F',x.trans h2,h3,h4⟩
def uD(σ:Sg)(xs:List Nat):Prop:=∀x∈xs,fM σ x=true
theorem nv(inj:∀i j,nm i=nm j->i=j)(f:ax nm c env F σ s)(hn:s.heap.Ns env.locals m)(hn':s'.heap.Ns env.locals m')(o:dZ env.locals s s')
  (B:MS nm c F bI m m' σ.ah l') (hl:∀x∈bI,env.kindOf (nm x)=some .local) (ho:uD σ bI) (tk:0<s'.toks):ax nm c env F ⟨l',σ.own⟩ s':=by
 obtain⟨m0,hn0,h1,h2⟩:=f.ns;have:=eU hn0 hn;(clear hn;subst this);refine⟨f.kind,f.glob,f.blt,f.hcode,f.cR,f.fN,f.above,tk,f.yc,m',hn',λx a hx hk=>?_,λx l e=>?_⟩
 ·by_cases q:x∈bI
  ·refine dp (B.new x q) λw a' e1 e2 e3=>?_;rw[e1]at hx;(refine bD hx λx=>?_;subst x);exact⟨w,e3,.inl ⟨hl x q,e2⟩⟩
  ·rw[B.G0 x q]at hx;obtain⟨v,hv,h⟩:=(h1 x a hx hk);refine⟨v,hv,h.imp (λh=>⟨h.1,?_⟩) id⟩;rw[B.Eb _ λy hy e=>q (by rw[←inj _ _ e];exact hy)];exact h.2
 ·obtain⟨a,oo,vs,n,z1,z2,z3,z4,z5,z6,z7,z8,z9,Gn,Go,K3⟩:=(h2 x l e);have q:x∉bI:=λq=>by have:=ho x q;unfold fM at this;rw[e]at this;simp at this
  refine⟨a,oo,vs,n,z1,?_,o.keep a oo z8 z3,z4,z5,z6,z7,z8,z9,Gn,Go,K3⟩;rw[B.Eb _ λy hy e=>q (by rw[←inj _ _ e];exact hy)];exact z2
set_option tactic.hygienic true in
theorem uk(inj:∀i j,nm i=nm j->i=j)(h:cx nm env s σ oa)(hn:s.heap.Ns env.locals m)(hn':s'.heap.Ns env.locals m')
  (B:MS nm c F bI m m' σ.ah l') (ho:uD σ bI):cx nm env s' ⟨l',σ.own⟩ oa:=by
 unfold cx at *;dsimp only
 split at h
 ·exact h
 ·rename_i x l e;obtain⟨a,m0,h1,h2,h3⟩:=h;have:=eU h2 hn;(clear hn;subst this);have q:x∉bI:=λq=>by have:=ho x q;unfold fM at this;rw[e]at this;simp at this
  exact⟨a,m',h1,hn',by rw[B.Eb _ λy hy e=>q (by rw[←inj _ _ e];exact hy)];exact h3⟩
def SwOk(S:Sys)(kk:KK)(bI:List Nat)(ns:List Expr)(k:Nat)(tp:Pos)(ee:Expr):Prop:=
 ∀env:Env,(∀x,env.kindOf x=kk x)->env.scope.kind=.function->swappedStores [.Tuple ns k tp] ee env=pure none∨swappedStores [.Tuple ns k tp] ee env=pure (some (bI.map S.nm))
def gz(ee:Expr):Prop:=∀t line env,swapsWith ee t line env=pure false
class inductive Aj (R:PS->Stmt->Prop):List PS->List Stmt->Prop
 |nil:Aj R [] []
 |cons{a ea r er}(h:R a ea)(t:Aj R r er):Aj R (a::r) (ea::er)
 |freeze{x r er}(t:Aj R r er):Aj R (.freeze x::r) er
class inductive RS (S:Sys) (kk:KK):PS->Stmt->Prop
 |ca{x e ee px p}(he:RE S kk e ee)(hl:kk (S.nm x)=some .local)(hs:gz ee):RS S kk (.ca x e) (.Assign [.Name (S.nm x) px] ee p)
 |OQ{x elt bI dB ik ies cond fu gens sc pc px p}(he:RE S kk (.comp elt bI dB ik ies cond) (.ListComp fu gens sc pc))(hl:kk (S.nm x)=some .local)(hline:(px.line==pc.line)=true)
   (hany:(sc.names.any λ(n,k)=>n==S.nm x&&(k==.local||k==.cell))=false):RS S kk (.ca x (.comp elt bI dB ik ies cond)) (.Assign [.Name (S.nm x) px] (.ListComp fu gens sc pc) p)
 |own{x es ees px pl p}(he:fA S kk es ees)(hl:kk (S.nm x)=some .local):RS S kk (.own x es) (.Assign [.Name (S.nm x) px] (.List ees pl) p)
 |hY{xs e ee ns k tp p}(he:RE S kk e ee)(hs:gz ee)(ht:ns.length=xs.length)(hn:∀(i x:Nat) (e:Expr),xs[i]?=some x->ns[i]?=some e->∃px,e=Expr.Name (S.nm x) px)(hl:∀x∈xs,kk (S.nm x)=some .local)(hnd:xs.Nodup)
   (hw:SwOk S kk xs ns k tp ee):RS S kk (.hY xs e) (.Assign [.Tuple ns k tp] ee p)
 |cZ{o eo a e ee tp p}(he:RE S kk e ee)(ho:RE S kk o eo)(hs:gz ee):RS S kk (.cZ o a e) (.Assign [.Attribute eo (S.nm a) tp] ee p)
 |setItem{o eo i ei e ee tp p}(he:RE S kk e ee)(ho:RE S kk o eo)(hi:RE S kk i ei)(hs:gz ee):RS S kk (.setItem o i e) (.Assign [.Subscript eo ei tp] ee p)
 |app{x e ee np ap cp p}(he:RE S kk e ee)(hst:∀y q,ee≠.Starred y q)(hd:(S.nm x==("__debug__":Str))=false)(hp:(ap.endLine==cp.line)=true):RS S kk (.app x e) (.Expr (.Call (.Attribute (.Name (S.nm x) np) (S.nm 18) ap) [ee] [] cp) p)
 |sG{x es ees pl np ap cp p}(he:fA S kk es ees)(hd:(S.nm x==("__debug__":Str))=false)(hp:(ap.endLine==cp.line)=true):RS S kk (.sG x (.lst es)) (.Expr (.Call (.Attribute (.Name (S.nm x) np) (S.nm 19) ap) [.List ees pl] [] cp) p)
 |expr{e ee p}(he:RE S kk e ee)(hs:gz ee):RS S kk (.expr e) (.Expr ee p)
 |ret{e ee p}(he:RE S kk e ee):RS S kk (.ret e) (.Return (some ee) p)
 |cu{t et a ea b eb p}(ht:RE S kk t et)(ha:Aj (RS S kk) a ea)(hb:Aj (RS S kk) b eb):RS S kk (.cu t a b) (.If et ea eb p)
 |dk{t et b eb p}(ht:RE S kk t et)(hb:Aj (RS S kk) b eb):RS S kk (.dk t b) (.While et eb [] p)
 |ff{bI dB dg ik ies gk b eb p}(ht:vJ S.nm bI dB dg)(hl:∀x∈bI,kk (S.nm x)=some .local)(hnd:bI.Nodup)(hi:RI S kk ik ies gk)(hb:Aj (RS S kk) b eb)(hnn:ik≠3):RS S kk (.ff bI dB ik ies b) (.For dg gk eb [] p)
 |pA{b eb h₀ hs p}(hb:Aj (RS S kk) b eb):RS S kk (.pA b) (.Try eb (h₀::hs) [] [] p)
 |cw{st}:RS S kk .cw st
abbrev s9(S:Sys)(kk:KK):=Aj (RS S kk)
theorem Aj.ind{motive:∀(l:List PS) (el:List Stmt),s9 S kk l el->Prop}(nil:motive [] [] .nil)(cons:∀{a ea r er} (h:RS S kk a ea) (t:s9 S kk r er),motive r er t->motive (a::r) (ea::er) (.cons h t))(freeze:∀{x r er} (t:s9 S kk r er),motive r er t->motive (.freeze x::r) er (.freeze t)):
  ∀{l:List PS} {el:List Stmt} (h:s9 S kk l el),motive l el h:=λh=>Aj.rec nil (λh t ih=>cons h t ih) (λt ih=>freeze t ih) h
section
variable{S:Sys}{n:Nat}{env:Env}{σ:Sg}{A:Around}{E:Value->Shared->Prop}{s:Shared}{F:cF}{kk:KK}{g g':G}{oa:Option Addr}
theorem gT(hs:swapsWith value (some t) p.line env=pure false)(hw:swappedStores [t] value env=pure none)(hst:(assignEach [t] env).map (·.2)=[assign t env])
  (h:wpAny M A (eval value env) (λv s₁=>wpAny M A (assign t env v) (λz_=>Q .next) E s₁) E s):wpAny M A (exec (.Assign [t] value p) env) Q E s:=by
 refine an (wpAny_standAt ?_);have e:swapsWithSole [t] value p.line env=pure false:=hs;rw[e];refine an (aP ?_);refine an (aM h (λv s₁ h₁=>?_) λz_ z_ x=>x);rw[hw];refine an (aP ?_);rw[hst];exact an (aM h₁ (λz_ z_ x=>aP x) λz_ z_ x=>x)
theorem DL(ok:cQ S)(hk:∀x,env.kindOf x=kk x)(hl:kk (S.nm x)=some .local)(I:Inv S.c F g s)(f:ax S.nm S.c env F σ s)(ho:cx S.nm env s σ oa)(hno:fM σ x=true)(hv:VM S.c F v a)
  (hQ:∀s',cO S env s F oa (.next ⟨db x a σ.ah,σ.own⟩ g) .next s'->dZ env.locals s s'->Q () s'):wpAny S.c.M A (assign (.Name (S.nm x) px) env v) Q E s:=by
 obtain⟨m,hn,_⟩:=f.ns;have hl':∀y∈[x],env.kindOf (S.nm y)=some .local:=λy hy=>by rw[aR]at hy;subst hy;rw[hk];exact hl
 have hno':uD σ [x]:=λy hy=>by rw[aR]at hy;(clear hl;subst hy);exact hno
 refine bA (n:=s.toks) (aD _) (kG rfl f.kind (hl' x (.head _)) hn λs' hn' o htk=>?_);have B:MS S.nm S.c F [x] m (λy=>if y=S.nm x then some v else m y) σ.ah (db x a σ.ah):=⟨λy hy=>by
   rw[aR]at hy;(clear hl hno;subst hy);exact⟨v,a,by rw[cv,br rfl],br rfl,hv⟩,λy hy=>bi λe=>hy x (.head _) e.symm,λy hy=>by
   rw[aR]at hy;rw[cv,bi hy]⟩
 refine hQ s' ⟨rfl,F,oa,gw.GT o,I.kept (λb oo e=>o.keep b oo (λq=>by rw[q,f.fN]at e;exact aI e) (I.cE b oo e)) (λb hb oo e=>o.keep b oo (λq=>f.cR (by rw[←q];exact hb)) e),
  nv ok.N.inj f hn hn' o B hl' hno' (aB f.tk htk),uk ok.N.inj ho hn hn' B hno'⟩ o
theorem Lx(ok:cQ S)(ih:ej S n)(hk:∀x,env.kindOf x=kk x)(hA:S.cP A)(he:RE S kk e ee)(hl:kk (S.nm x)=some .local)(hs:gz ee)(h:ev S.T S.O n e σ g=some (a,g'))(hno:fM σ x=true)
  (I:Inv S.c F g s) (f:ax S.nm S.c env F σ s) (ho:cx S.nm env s σ oa):wpAny S.c.M A (exec (.Assign [.Name (S.nm x) px] ee p) env) (cO S env s F oa (.next ⟨db x a σ.ah,σ.own⟩ g')) E s:=by
 refine gT (hs _ _ _) rfl rfl (gW (ih he hk hA h I f).1 f λv s' F' X V I' Y f'=>?_);exact DL ok hk hl I' f' (ho.keep λm hm=>Y.ns m hm) hno V λs'' P z_=>P.after (gw.sq X Y)
theorem Ly(ih:ej S n)(hk:∀x,env.kindOf x=kk x)(hA:S.cP A)(he:RE S kk e ee)(h:ev S.T S.O n e σ g=some (a,g'))(I:Inv S.c F g s)(f:ax S.nm S.c env F σ s):
  wpAny S.c.M A (exec (.Return (some ee) p) env) (cO S env s F oa (.ret a g')) E s:=
 wpAny_Return_some (gW (ih he hk hA h I f).1 f λv z_ F' X V I' Y z_=>⟨v,rfl,F',(gw.sq X Y).drop,V,I'⟩)
theorem Hr(ih:ej S n)(hk:∀x,env.kindOf x=kk x)(hA:S.cP A)(he:RE S kk e ee)(hs:gz ee)(h:ev S.T S.O n e σ g=some (a,g'))(I:Inv S.c F g s)(f:ax S.nm S.c env F σ s)(ho:cx S.nm env s σ oa):
  wpAny S.c.M A (exec (.Expr ee p) env) (cO S env s F oa (.next σ g')) E s:=
 wpAny_Expr_any (gW (ih he hk hA h I f).1 f λz_ z_ F' X z_ I' Y f'=>⟨rfl,F',oa,gw.sq X Y,I',f',ho.keep λm hm=>Y.ns m hm⟩) (by unfold interactive;rw[f.kind];rfl) (hs _ _ _)
end
section
variable{S:Sys}{n:Nat}{env:Env}{σ:Sg}{A:Around}{E:Value->Shared->Prop}{s:Shared}{F:cF}{kk:KK}{g g':G}{oa:Option Addr}
def HY(S:Sys)(W n k:Nat):Prop:=∀{kk:KK} {ps:PS} {st:Stmt},RS S kk ps st->∀{env:Env} {σ:Sg} {g:G} {out:Out} {F:cF} {s:Shared} {A:Around} {E:Value->Shared->Prop} {oa:Option Addr},(∀x,env.kindOf x=kk x)->S.cP A->
 ex W (ev S.T S.O n) k ps σ g=some out->Inv S.c F g s->ax S.nm S.c env F σ s->cx S.nm env s σ oa->wpAny S.c.M A (exec st env) (cO S env s F oa out) E s
def P7(S:Sys)(W n k:Nat):Prop:=∀{kk:KK} {ps:List PS} {sts:List Stmt},s9 S kk ps sts->∀{env:Env} {σ:Sg} {g:G} {out:Out} {F:cF} {s:Shared} {A:Around} {E:Value->Shared->Prop} {oa:Option Addr},(∀x,env.kindOf x=kk x)->S.cP A->
 bm (ex W (ev S.T S.O n) k) ps σ g=some out->Inv S.c F g s->ax S.nm S.c env F σ s->cx S.nm env s σ oa->wpAny S.c.M A (execs sts env) (cO S env s F oa out) E s
theorem HZ(hl:σ.own=some (x,l))(I:Inv S.c F g s)(f:ax S.nm S.c env F σ s)(ho:cx S.nm env s σ oa):
  ∃F',gw S.c env.locals oa none s s F F'/\Inv S.c F' g s/\ax S.nm S.c env F' ⟨db x (.list l) σ.ah,none⟩ s/\cx S.nm env s ⟨db x (.list l) σ.ah,none⟩ none:=by
 obtain⟨m,hn,hlo,hown⟩:=f.ns;obtain⟨a,o,vs,n,z1,z2,z3,z4,z5,z6,z7,z8,z9,Gn,Go⟩:=(hown x l hl);unfold cx at ho;rw[hl]at ho;obtain⟨a',m',h1,h2,h3⟩:=ho;have:=eU h2 hn;(clear hown;subst this);rw[z2]at h3;cases h3;subst h1;have ex:Ext F (fq F a o):=λb o' e=>by
  by_cases q:b=a
  ·rw[q,z9]at e;exact aI e
  ·rw[bf q];exact e
 refine⟨fq F a o,⟨ex,λb hb h=>bf (λq=>h (by rw[q])),λz_ z_ z_ z_ z_ e=>e,λz_ e=>e,rfl,rfl,λz_ e=>by exact aI e⟩,⟨λb o' e=>?_,λb o' e=>ex _ _ (I.base _ _ e),λb hb=>?_,I.d7.mono ex λz_ z_ z_ e=>e,I.fJ⟩,
  ⟨f.kind,f.glob,f.blt,f.hcode,f.cR,?_,f.above,f.tk,f.yc,m',hn,λy b hy hk=>?_,λy l' e=>by exact aI e⟩,rfl⟩
 ·by_cases q:b=a
  ·(clear z9 Gn;subst q);rw[b9]at e;(refine bD e λx=>?_;subst x);exact z3
  ·rw[bf q]at e;exact I.cE _ _ e
 ·rw[bf (λq=>z7 (by rw[←q];exact hb))];exact I.apart b hb
 ·rw[bf z8.symm];exact f.fN
 ·rw[cv]at hy;by_cases q:y=x
  ·rw[br q]at hy;(refine bD hy λx=>?_;subst x);(clear hl;subst q);exact⟨.ref a,.list (b9 _ _ _) z4 z5 Go (z6.mono ex),.inl ⟨z1,z2⟩⟩
  ·rw[bi q]at hy;exact(hlo y b hy hk).mono S.nm ex
theorem EH(ih:HY S W n k)(P8:∀{x:Nat} {σ:Sg} {g:G} {out:Out},ex W (ev S.T S.O n) k (.freeze x) σ g=some out->∃l,σ.own=some (x,l)/\out=.next ⟨db x (.list l) σ.ah,none⟩ g)(hk:∀x,env.kindOf x=kk x)(hA:S.cP A):
  ∀{ps:List PS} {sts:List Stmt},s9 S kk ps sts->∀{σ:Sg} {g:G} {out:Out} {F:cF} {s:Shared} {E:Value->Shared->Prop} {oa:Option Addr},
   bm (ex W (ev S.T S.O n) k) ps σ g=some out->Inv S.c F g s->ax S.nm S.c env F σ s->cx S.nm env s σ oa->wpAny S.c.M A (execs sts env) (cO S env s F oa out) E s:=by
 intro ps sts hr;induction hr using Aj.ind with
 |nil=>intro σ g out F s E oa h I f ho;refine bD h λx=>?_;subst x;exact wpAny_execs_nil ⟨rfl,F,oa,gw.refl,I,f,ho⟩|cons hr t ihs=>
  intro σ g out F s E oa h I f ho;refine wpAny_execs_cons ?_;revert h;refine R0 (λσ1 g1 e1 h=>?_) λv g1 e1 h=>?_
  ·refine aM (ih hr hk hA e1 I f ho) (λfl s' p=>?_) λz_ z_ x=>x;obtain⟨rfl,F',nY,X,I',f',ho'⟩:=p;exact aM (ihs h I' f' ho') (λz_ z_ p=>p.after X) λz_ z_ x=>x
  ·refine bD h λx=>?_;subst x;refine aM (ih hr hk hA e1 I f ho) (λfl s' p=>?_) λz_ z_ x=>x;obtain⟨v',rfl,F9,p1,p2,p3⟩:=p;exact⟨v',rfl,F9,p1,p2,p3⟩
 |freeze t ihs=>
  intro σ g out F s E oa;refine R0 (λσ1 g1 e1 h I f ho=>?_) λv g1 e1 h I f ho=>?_
  ·refine aH (P8 e1) λl hl e=>?_;cases e;refine P9 (HZ hl I f ho) λF' X I' f' ho'=>aM (ihs h I' f' ho') (λz_ z_ p=>p.after X) λz_ z_ x=>x
  ·refine aH (P8 e1) λl hl e=>?_;exact Out.noConfusion e
end
section
variable{S:Sys}{n:Nat}{env:Env}{σ:Sg}{A:Around}{E:Value->Shared->Prop}{s:Shared}{F:cF}{kk:KK}{g g':G}{oa:Option Addr}
theorem Qa(iq:ej S n)(ih:∀{ps:List PS} {sts:List Stmt},s9 S kk ps sts->∀{σ:Sg} {g:G} {out:Out} {F:cF} {s:Shared} {E:Value->Shared->Prop} {oa:Option Addr},
   bm (ex W (ev S.T S.O n) k) ps σ g=some out->Inv S.c F g s->ax S.nm S.c env F σ s->cx S.nm env s σ oa->wpAny S.c.M A (execs sts env) (cO S env s F oa out) E s)
  (hk:∀x,env.kindOf x=kk x) (hA:S.cP A) (ht:RE S kk t et) (ha:s9 S kk a ea) (hb:s9 S kk b eb)
  (h:dc W (ev S.T S.O n) (ex W (ev S.T S.O n) k) (.cu t a b) σ g=some out) (I:Inv S.c F g s) (f:ax S.nm S.c env F σ s) (ho:cx S.nm env s σ oa):wpAny S.c.M A (exec (.If et ea eb p) env) (cO S env s F oa out) E s:=by
 revert h;refine iG λx g1 e1 h=>?_
 split at h
 ·rename_i e2;refine wpAny_If (goB ((iq ht hk hA e1 I f).2 true e2) f λs' F' X I' Y f'=>?_);exact aM (ih ha h I' f' (ho.keep λm hm=>Y.ns m hm)) (λz_ z_ p=>p.after (gw.sq X Y)) λz_ z_ x=>x
 ·rename_i e2;refine wpAny_If (goB ((iq ht hk hA e1 I f).2 false e2) f λs' F' X I' Y f'=>?_);exact aM (ih hb h I' f' (ho.keep λm hm=>Y.ns m hm)) (λz_ z_ p=>p.after (gw.sq X Y)) λz_ z_ x=>x
 ·exact aI h
theorem rV.X8(f:ax S.nm S.c env F σ s)(ho:cx S.nm env s σ oa)(h:rV S.c F s env.locals g₁ s₁)(tk:s.toks<=s₁.toks):cO S env s F oa (.next σ g₁) .next s₁:=by obtain⟨F',X,I',Y⟩:=h;exact⟨rfl,F',oa,gw.sq X Y,I',f.step S.nm X Y tk,ho.keep λm hm=>Y.ns m hm⟩
theorem y7(ok:cQ S)(iq:ej S n)(hk:∀x,env.kindOf x=kk x)(hA:S.cP A)(he:RE S kk e ee)(hoo:RE S kk o eo)(hs:gz ee)
  (h1:ev S.T S.O n e σ g=some (v,g1)) (h2:ev S.T S.O n o σ g1=some (ov,g2)) (h3:DP g2 ov a v=some g3) (I:Inv S.c F g s) (f:ax S.nm S.c env F σ s) (ho:cx S.nm env s σ oa):
  wpAny S.c.M A (exec (.Assign [.Attribute eo (S.nm a) tp] ee p) env) (cO S env s F oa (.next σ g3)) E s:=by
 refine plainObj_wpAny_Assign_Attribute (gW (iq he hk hA h1 I f).1 f λv' s1 F1 X1 V1 I1 Y1 f1=>gW (iq hoo hk hA h2 I1 f1).1 f1 λov' s2 F2 X2 V2 I2 Y2 f2=>?_) (hs _ _ _);refine aM (wpAny_toks_of (aD _) (IK ok.N ok.K I2 f2 V2 (V1.mono X2.ext) h3)) (λz_ s3 z=>?_) λz_ z_ x=>x.2;exact((z.2.X8 f2 ((ho.keep λm hm=>Y1.ns m hm).keep λm hm=>Y2.ns m hm) z.1).after (gw.sq X2 Y2)).after (gw.sq X1 Y1)
end
section
variable{S:Sys}{n:Nat}{env:Env}{σ:Sg}{A:Around}{E:Value->Shared->Prop}{s:Shared}{F:cF}{kk:KK}{g g':G}{oa:Option Addr}
theorem L1(ok:cQ S)(iq:ej S n)(hk:∀x,env.kindOf x=kk x)(hA:S.cP A)(he:fA S kk es ees)(hl:kk (S.nm x)=some .local)
  (h1:ci (ev S.T S.O n) es σ g=some (vs,g1)) (hon:σ.own=none) (cM:vs.length<=1000) (hlk:fW x σ.ah=none) (I:Inv S.c F g s) (f:ax S.nm S.c env F σ s) (ho:cx S.nm env s σ oa):
  wpAny S.c.M A (exec (.Assign [.Name (S.nm x) px] (.List ees pl) p) env) (cO S env s F oa (.next ⟨σ.ah,some (x,vs)⟩ g1)) E s:=by
 have hoa:oa=none:=by unfold cx at ho;rw[hon]at ho;exact ho
 (clear ho;subst hoa);refine gT rfl rfl rfl (List_ ?_);rw[dY he env,cX];refine vz (lL iq hk hA he h1 I f) f λba s1 F1 X1 V1 I1 Y1 f1=>?_;have e:=V1.length;refine wpAny_newObj_type ?_ (by show ba.toArray.size<=sizeLine;rw[bX,e,sizeLine_eq];exact JF cM e);refine aG (I1.gc {cls:=.type "list",data:=.seq ba.toArray} s1.toks) λI2 Y2=>?_;have f2:=f1.step S.nm XF.refl (Y2 env.locals) (aD _);obtain⟨m,hn,hlo,_⟩:=f2.ns;have hkl:env.kindOf (S.nm x)=some .local:=by rw[hk];exact hl
 refine bA (n:=s1.toks) (aD _) (kG (s:={s1 with heap:=s1.heap.push {cls:=.type "list",data:=.seq ba.toArray}}) rfl f.kind hkl hn λs3 GU o3 htk=>?_);have YC:=(aJ (bw f1.alive)).symm;have Ee:=λh=>I1.BN h rfl;have hget:s3.heap.get? s1.heap.objs.size=some {cls:=.type "list",data:=.seq ba.toArray}:=o3.keep _ _ YC (be _ rfl);have hI3:=I2.kept (λb oo e=>o3.keep b oo (λq=>by rw[q,f1.fN]at e;exact aI e) (I2.cE b oo e)) (λb hb oo e=>o3.keep b oo (λq=>f.cR (by rw[←q];exact hb)) e);refine⟨rfl,F1,some s1.heap.objs.size,?_,hI3,⟨f.kind,f.glob,f.blt,f.hcode,f.cR,f1.fN,f.above,aB f1.tk htk,f.yc,_,GU,λy a hy hky=>?_,λy l' e'=>?_⟩,⟨s1.heap.objs.size,_,rfl,GU,br rfl⟩⟩
 ·have w:gw S.c env.locals none none s s3 F F1:=((gw.sq X1 Y1).trans (gw.sq XF.refl (Y2 env.locals))).trans (gw.GT o3);refine⟨w.ext,w.low,w.keep,w.alive,w.gens,w.os,λa e=>.inr ?_⟩;cases q:(s.heap.get? a).isSome with|false=>rfl|true=>have e':=dj e;rw[←e']at q;exact bc (bw (Y1.alive _ q)) (eN _)
 ·have q:y≠x:=λq=>by(clear hl GU;subst q);have hy:=hy;rw[hlk]at hy;exact aI hy
  obtain⟨v,hv,h⟩:=(hlo y a hy hky);refine⟨v,hv,h.imp (λh=>⟨h.1,?_⟩) id⟩;rw[bi λe=>q (ok.N.inj _ _ e)];exact h.2
 ·refine fS e' λx y=>?_;subst x y;exact⟨s1.heap.objs.size,_,ba.toArray,0,hkl,br rfl,hget,rfl,rfl,by rw[List.toList_toArray];exact V1,Ee,YC,I1.free,aw f.above (cb (bw f1.alive)),aw cM (mC rfl),rfl⟩
end
section
variable{S:Sys}{n:Nat}{env:Env}{σ:Sg}{A:Around}{E:Value->Shared->Prop}{s:Shared}{F:cF}{kk:KK}{g g':G}{oa:Option Addr}
theorem ownAt(hl:σ.own=some (x,l))(f:ax S.nm S.c env F σ s)(ho:cx S.nm env s σ oa):∃a m vs,oa=some a/\s.heap.Ns env.locals m/\m (S.nm x)=some (.ref a)/\env.kindOf (S.nm x)=some .local/\s.heap.PlainList a vs/\dh S.c F vs.toList l/\a∉S.c.mu/\a≠env.locals/\F a=none/\
  S.c.base.objs.size<=a/\l.length<=1048576:=by
 obtain⟨m,hn,hlo,hown⟩:=f.ns;obtain⟨a,o,vs,n,z1,z2,z3,z4,z5,z6,z7,z8,z9,Gn,Go,K3⟩:=(hown x l hl);unfold cx at ho;rw[hl]at ho;obtain⟨a',m',h1,h2,h3⟩:=ho;have:=eU h2 hn;(clear hlo hown;subst this);rw[z2]at h3;cases h3;exact⟨a,m',vs,h1,hn,z2,z1,⟨n,by rw[z3,K3]⟩,z6,z7,z8,z9,Gn,Go⟩
theorem Ej(hl:σ.own=some (x,l))(I:Inv S.c F g s)(f:ax S.nm S.c env F σ s)(hn:s.heap.Ns env.locals m)(hm:m (S.nm x)=some (.ref a))(hkl:env.kindOf (S.nm x)=some .local)
  (Ee:a∉S.c.mu) (aL:a≠env.locals) (aF:F a=none) (ab:S.c.base.objs.size<=a) (hp:h'.PlainList a ws) (hs:Heap.SameBut a s.heap h') (hv:dh S.c F ws.toList l') (cM:l'.length<=1048576) (ht:s.toks<=t) (hoa:oa=some a):
  cO S env s F oa (.next ⟨σ.ah,some (x,l')⟩ g) .next {s with heap:=h',toks:=t}:=by
 subst hoa;obtain⟨m0,hn0,hlo,_⟩:=f.ns;have:=eU hn0 hn;subst this;have kp:=λb o h e=>hs.extBut b o h e;have hn':=hn.at' λo e=>kp _ o aL.symm e;refine b0 (id hp) λnn hg=>?_
 refine⟨rfl,F,some a,⟨Ext.refl F,λz_ z_ z_=>rfl,λb o z_ z_ h3 e=>kp b o (λq=>h3 (by rw[q])) e,λb hb=>?_,rfl,rfl,λz_ e=>.inl e⟩,I.kept (λb o e=>kp b o (λq=>by rw[q,aF]at e;exact aI e) (I.cE b o e)) (λb hb o e=>kp b o (λq=>Ee (by rw[←q];exact hb)) e),
  ⟨f.kind,f.glob,f.blt,f.hcode,f.cR,f.fN,f.above,aB f.tk ht,f.yc,m0,hn',λy b hy hk=>hlo y b hy hk,λy l2 e=>?_⟩,⟨a,m0,rfl,hn',hm⟩⟩
 ·by_cases q:b=a
  ·(clear hp hs;subst q);show(h'.get? b).isSome=true;rw[hg];rfl
  ·refine b0 (bu hb) λo e=>?_;show(h'.get? b).isSome=true;rw[kp b o q e];rfl
 ·refine fS e λx y=>?_;subst x y;exact⟨a,_,ws,nn,hkl,hm,hg,rfl,rfl,hv,Ee,aL,aF,ab,cM,rfl⟩
theorem LF(ok:cQ S)(iq:ej S n)(hk:∀x,env.kindOf x=kk x)(hA:S.cP A)(he:RE S kk e ee)(hst:∀y q,ee≠.Starred y q)(hd:(S.nm x==("__debug__":Str))=false)(hp:(ap.endLine==cp.line)=true)
  (h1:ev S.T S.O n e σ g=some (v,g1)) (hl:σ.own=some (x,l)) (cM:l.length<1000000) (I:Inv S.c F g s) (f:ax S.nm S.c env F σ s) (ho:cx S.nm env s σ oa):
  wpAny S.c.M A (exec (.Expr (.Call (.Attribute (.Name (S.nm x) np) (S.nm 18) ap) [ee] [] cp) p) env) (cO S env s F oa (.next ⟨σ.ah,some (x,l++[v])⟩ g1)) E s:=by
 have hsp:=dY (.cons he hst .nil) env;obtain⟨a,m,vs,hoa,hn,hm,hkl,hpl,hvs,Ee,aL,aF,ab,hll⟩:=ownAt hl f ho;refine wpAny_Expr_any (gQ (M:=S.c.M) rfl hp (by simp) hsp (wpAny_Name (wpAny_loadName_local f.kind hkl hn hm ?_) hd)) (by unfold interactive;rw[f.kind];rfl) rfl;refine b0 (id hpl) λnn hg=>?_;rw[ok.N.n18];refine getMethod_list_append hg rfl rfl (ft (F:=F) (eE S.c F "list.append") ?_);refine bG (gW (iq he hk hA h1 I f).1 f λw s1 F1 X1 V1 I1 Y1 f1=>cf ⟨λb o e=>I1.cE _ _ (X1.ext _ _ e),?_⟩);have LG:=hpl.at λo e=>Y1.keep a o Ee aL e;have hsz:vs.size<=sizeLine:=by have e1:=hvs.length;rw[aW]at e1;rw[e1,sizeLine_eq];exact Ps cM e1
 refine wpAny_list_append_plain (hsz:=hsz) LG λh2 hl2 hs2=>?_;refine(Ej hl I1 f1 (Y1.ns m hn) hm hkl Ee aL ((X1.low a (by rw[hg];rfl)).trans aF) ab hl2 hs2 ?_ ?_ (aD _) hoa).after (gw.sq X1 Y1)
 ·rw[Array.toList_push];exact(hvs.mono X1.ext).append (.cons V1 .nil)
 ·rw[ae,List.length_singleton];exact Pt cM
end
section
variable{S:Sys}{n:Nat}{env:Env}{σ:Sg}{A:Around}{E:Value->Shared->Prop}{s:Shared}{F:cF}{kk:KK}{g g':G}{oa:Option Addr}
set_option tactic.hygienic true in
theorem zj(iq:ej S n)(ih:∀{ps:List PS} {sts:List Stmt},s9 S kk ps sts->∀{σ:Sg} {g:G} {out:Out} {F:cF} {s:Shared} {E:Value->Shared->Prop} {oa:Option Addr},
   bm (ex W (ev S.T S.O n) k) ps σ g=some out->Inv S.c F g s->ax S.nm S.c env F σ s->cx S.nm env s σ oa->wpAny S.c.M A (execs sts env) (cO S env s F oa out) E s)
  (hk:∀x,env.kindOf x=kk x) (hA:S.cP A) (ht:RE S kk t et) (hb:s9 S kk b eb) (N)
  (h:kF (ev S.T S.O n) (ex W (ev S.T S.O n) k) t b N σ g=some out) (I:Inv S.c F g s) (f:ax S.nm S.c env F σ s) (ho:cx S.nm env s σ oa) (hR:∀fl s',cO S env s F oa out fl s'->R (.ok fl) s'):
  codeAny S.c.M A (.whileLoop et eb [] env) R s:=by
 refine codeAny_whileLoop (λN s'=>∃σ' g' F' nY,kF (ev S.T S.O n) (ex W (ev S.T S.O n) k) t b N σ' g'=some out/\Inv S.c F' g' s'/\ax S.nm S.c env F' σ' s'/\cx S.nm env s' σ' nY/\gw S.c env.locals oa nY s s' F F') ?_ N
  ⟨σ,g,F,oa,h,I,f,ho,gw.refl⟩
 rintro N s1 ⟨σ1,g1,F1,oa1,h1,I1,f1,ho1,X1⟩;cases N with
 |zero=>exact aI h1|succ N=>
  revert h1;refine iG λx g2 e1 h1=>?_
  split at h1
  ·rename_i e2;refine goB ((iq ht hk hA e1 I1 f1).2 true e2) f1 λs2 F2 X2 I2 Y2 f2=>?_
   split at h1
   ·rename_i σ3 g3 e3;refine aM (ih hb e3 I2 f2 (ho1.keep λm hm=>Y2.ns m hm)) (λfl s3 p=>?_) λz_ z_ x=>x;obtain⟨rfl,F3,Tx,X3,I3,f3,OD⟩:=p;exact⟨N,dR N,σ3,g3,F3,Tx,h1,I3,f3,OD,X1.trans ((gw.sq X2 Y2).trans X3)⟩
   ·rename_i v g3 e3;(clear h;(refine bD h1 λx=>?_;subst x));refine aM (ih hb e3 I2 f2 (ho1.keep λm hm=>Y2.ns m hm)) (λfl s3 p=>?_) λz_ z_ x=>x;obtain⟨v',rfl,F9,p1,p2,p3⟩:=p;exact hR _ _ (cO.after (out:=.ret v g3) X1 (cO.after (out:=.ret v g3) (gw.sq X2 Y2) ⟨v',rfl,F9,p1,p2,p3⟩))
   ·exact aI h1
  ·rename_i e2;(clear h;(refine bD h1 λx=>?_;subst x));refine goB ((iq ht hk hA e1 I1 f1).2 false e2) f1 λs2 F2 X2 I2 Y2 f2=>?_;exact wpAny_execs_nil (hR _ _ ⟨rfl,F2,oa1,X1.trans (gw.sq X2 Y2),I2,f2,ho1.keep λm hm=>Y2.ns m hm⟩)
  ·exact aI h1
theorem EJ(iq:ej S n)(ih:∀{ps:List PS} {sts:List Stmt},s9 S kk ps sts->∀{σ:Sg} {g:G} {out:Out} {F:cF} {s:Shared} {E:Value->Shared->Prop} {oa:Option Addr},
   bm (ex W (ev S.T S.O n) k) ps σ g=some out->Inv S.c F g s->ax S.nm S.c env F σ s->cx S.nm env s σ oa->wpAny S.c.M A (execs sts env) (cO S env s F oa out) E s)
  (hk:∀x,env.kindOf x=kk x) (hA:S.cP A) (ht:RE S kk t et) (hb:s9 S kk b eb)
  (h:kF (ev S.T S.O n) (ex W (ev S.T S.O n) k) t b W σ g=some out) (I:Inv S.c F g s) (f:ax S.nm S.c env F σ s) (ho:cx S.nm env s σ oa):wpAny S.c.M A (exec (.While et eb [] p) env) (cO S env s F oa out) E s:=by
 refine wpAny_While (zj iq ih hk hA ht hb W h I f ho λfl s' q=>?_);exact q
end
section
variable{S:Sys}{n:Nat}{env:Env}{σ:Sg}{A:Around}{E:Value->Shared->Prop}{s:Shared}{F:cF}{kk:KK}{g g':G}{oa:Option Addr}
structure FJ(S:Sys)(n W k:Nat)(env:Env)(bI:List Nat)(dB:Bool)(b:List PS)(items:List AV)(out:Out)(St:Nat->Heap->Prop)(Ia:Addr)(s:Shared)(F F2:cF)(oa:Option Addr)(N:Nat)(s':Shared)(i:Nat)(σ':Sg)(g':G)(F':cF)(nY:Option Addr):Prop where
 cnt:N=items.length+1-i
 le:i<=items.length
 st:St i s'.heap
 inv:Inv S.c F' g' s'
 fr:ax S.nm S.c env F' σ' s'
 ow:cx S.nm env s' σ' nY
 x:gw S.c env.locals oa nY s s' F F'
 ext:Ext F2 F'
 noI:nY≠some Ia
 ul:F' Ia=none
 ev:jE (ex W (ev S.T S.O n) k) bI dB b (items.drop i) σ' g'=some out
theorem DK(I:Inv S.c F g s)(f:ax S.nm S.c env F σ s)(ho:cx S.nm env s σ oa)(h:F x≠none∨(s.heap.get? x).isSome=false):oa≠some x:=by
 intro e;cases q:σ.own with
 |none=>unfold cx at ho;rw[q]at ho;have ho:=ho;rw[ho]at e;exact aI e|some p=>
  obtain⟨y,l⟩:=p;obtain⟨a,m,vs,hoa,hn,hm,hkl,hpl,hvs,Ee,aL,aF,ab,hll⟩:=ownAt q f ho;rw[hoa]at e;(refine bD e λx=>?_;subst x);refine Or.elim h (λh=>?_) λh=>?_
  ·exact h aF
  ·refine b0 hpl λnn hg=>?_;rw[hg]at h;exact il h
set_option tactic.hygienic true in
theorem LC(ok:cQ S)(rg:mj S)(iq:ej S n)(ih:∀{ps:List PS} {sts:List Stmt},s9 S kk ps sts->∀{σ:Sg} {g:G} {out:Out} {F:cF} {s:Shared} {E:Value->Shared->Prop} {oa:Option Addr},
   bm (ex W (ev S.T S.O n) k) ps σ g=some out->Inv S.c F g s->ax S.nm S.c env F σ s->cx S.nm env s σ oa->wpAny S.c.M A (execs sts env) (cO S env s F oa out) E s)
  (hk:∀x,env.kindOf x=kk x) (hA:S.cP A)
  (ht:vJ S.nm bI dB dg) (hl:∀x∈bI,kk (S.nm x)=some .local) (hnd:bI.Nodup) (hi:RI S kk ik ies gk) (hb:s9 S kk b eb)
  (h1:ci (ev S.T S.O n) ies σ g=some (vs,g1)) (h2:eS ik vs=some items) (cM:items.length<=100000)
  (h3:jE (ex W (ev S.T S.O n) k) bI dB b items σ g1=some out) (I:Inv S.c F g s) (f:ax S.nm S.c env F σ s) (ho:cx S.nm env s σ oa):
  wpAny S.c.M A (exec (.For dg gk eb [] p) env) (cO S env s F oa out) E s:=by
 refine wpAny_For (zL ok rg iq hk hA hi h1 h2 cM I f λit s₁ s₂ F2 J X I2 Y1 Y2 f2=>?_) (λx=>?_)
 ·refine C9 J λIa fp P St J=>?_;have hit':=J.isI;subst hit';have W':=J.walk A (ok.rH hA);have ho2:=(ho.keep λm hm=>Y1.ns m hm).keep λm hm=>Y2.ns m hm;have Pj:=DK I f ho (.inr (by
   cases z:(s.heap.get? Ia).isSome with|false=>rfl|true=>have:=Y1.alive Ia z;rw[J.fresh]at this;exact bq this))
  have hX:gw S.c env.locals oa oa s s₂ F F2:=gw.sq X (Y1.trans Y2);have sI:∀b,(s.heap.get? b).isSome=true->b≠Ia:=λb hb q=>by have:=Y1.alive b hb;rw[q,J.fresh]at this;exact bq this
  refine codeAny_forLoop_any (λN s'=>∃i σ' g' F' nY,FJ S n W k env bI dB b items out St Ia s F F2 oa N s' i σ' g' F' nY) ?_ (items.length+1)
   (Pk 0 σ g1 F2 oa {cnt:=rfl,le:=bo _,st:=J.st,inv:=I2,fr:=f2,ow:=ho2,x:=hX,ext:=Ext.refl _,noI:=Pj,ul:=J.ul,ev:=h3})
  refine λN s' T=>Ef T λi σ' g' F' nY T=>?_
  have stepI:∀(h₂:Heap) (tk₂:Nat),(∀b o,b∉[Ia]->s'.heap.get? b=some o->h₂.get? b=some o)->s'.toks<=tk₂->gw S.c env.locals oa nY s {s' with heap:=h₂,toks:=tk₂} F F'/\Inv S.c F' g' {s' with heap:=h₂,toks:=tk₂}/\
    ax S.nm S.c env F' σ' {s' with heap:=h₂,toks:=tk₂}/\cx S.nm env {s' with heap:=h₂,toks:=tk₂} σ' nY:=by
   intro h₂ tk₂ hk₂ Di;have up:=λb o hb e=>hk₂ b o (by simpa using hb) e;obtain⟨m,hn,hlo,hown⟩:=T.fr.ns;have hn2:=hn.at' λo e=>up _ o (Ne.symm J.CN) e
   refine⟨⟨T.x.ext,T.x.low,λb o q1 q2 q3 e=>up b o (sI b (by rw[e];rfl)) (T.x.keep b o q1 q2 q3 e),λb hb=>?_,T.x.gens,T.x.os,T.x.fresh⟩,T.inv.kept (λb o e=>up b o (λq=>by rw[q,T.ul]at e;exact aI e) (T.inv.cE b o e)) (λb hb o e=>up b o (λq=>J.mq (by rw[←q];exact hb)) e),
    ⟨T.fr.kind,T.fr.glob,T.fr.blt,T.fr.hcode,T.fr.cR,T.fr.fN,T.fr.above,aB T.fr.tk Di,T.fr.yc,m,hn2,hlo,λy l' e=>?_⟩,T.ow.keep λm' hm'=>by rw[eU hm' hn];exact hn2⟩
   ·refine b0 (bu (T.x.alive b hb)) λo e=>?_;rw[up b o (sI b hb) e];rfl
   ·obtain⟨a,o,vs',n',z1,z2,z3,z4,z5,z6,z7,z8,z9,Gn,Go,K3⟩:=(hown y l' e);refine⟨a,o,vs',n',z1,z2,up a o (λq=>?_) z3,z4,z5,z6,z7,z8,z9,Gn,Go,K3⟩;refine BQ (ownAt e T.fr T.ow) λa' m' vs2 hoa hn' hm' z_=>?_;have:=eU hn' hn;(clear hlo hown;subst this);rw[z2]at hm';cases hm';exact T.noI (by rw[hoa,q])
  by_cases hlt:i<items.length
  ·have hdrop:=List.drop_eq_getElem_cons hlt;have xI:=cg hlt;generalize items[i]=a at hdrop xI;have GZ:=T.cnt;have hev:=T.ev;rw[hdrop]at hev;revert hev;refine sN λhno hev=>?_;revert hev;refine RU λl1 eb hev=>bA (n:=s'.toks) (aD _) (W'.item i _ _ _ hlt T.st λv h1' tk1 hP st1 k1 ht1=>?_);refine vZ (stepI h1' tk1 k1 ht1) λx1 i1 f1 o1=>vM (J.cls (i+1) _ st1) ?_;have hV:=(J.ba i v a hP xI).mono T.ext;have hl':∀x∈bI,env.kindOf (S.nm x)=some .local:=λx hx=>by rw[hk];exact hl x hx
   have hno':=λx hx=>aS.mp hno x hx;obtain⟨m,hn,_⟩:=f1.ns;refine bA (n:=tk1) (aD _) (nw (s:={s' with heap:=h1',toks:=tk1}) (L:=env.locals) rfl f1.kind ok.N.inj (ok.rH hA) ht hl' hnd i1.cE hV eb hn λs2 m2 hn2 oo B Ny=>?_);have I3:=i1.kept (λb oo' e=>oo.keep b oo' (λq=>by rw[q,f1.fN]at e;exact aI e) (i1.cE b oo' e)) (λb hb oo' e=>oo.keep b oo' (λq=>f1.cR (by rw[←q];exact hb)) e);have f3:=nv ok.N.inj f1 hn hn2 oo B hl' hno' (aB f1.tk Ny);have o3:=uk ok.N.inj o1 hn hn2 B hno';have x3:=x1.trans (gw.GT oo);have Xw:=oo.alive Ia (by
    refine bU (J.cls (i+1) _ st1) λoi z_ e z_=>?_;rw[e];rfl)
   have st2:=W'.frame _ _ _ st1 λb hb o e=>oo.keep b o (λq=>by
    refine Or.elim (J.fps b hb) (λr=>?_) λoz=>?_;rotate_left;(refine b0 oz λo' e'=>?_);rotate_right
    ·exact J.CN (r▸q)
    ·rw[q,f2.fN]at e';exact aI e') e
   have after:∀{s4:Shared} {F4:cF} {Pl:Option Addr},gw S.c env.locals nY Pl s2 s4 F' F4->St (i+1) s4.heap/\Pl≠some Ia/\F4 Ia=none:=λ{s4 F4 Pl} X4=>by
    refine⟨W'.frame _ _ _ st2 λb hb o e=>?_,λe=>?_,(X4.low Ia Xw T.noI).trans T.ul⟩
    ·refine Or.elim (J.fps b hb) (λr=>?_) λoz=>?_;rotate_left;(refine b0 oz λo' e'=>?_);rotate_right
     ·(clear Pj sI k1;subst r);exact X4.keep _ o J.mq J.CN T.noI e
     ·exact X4.keep b o (λq=>by rw[I2.apart _ q]at e';exact aI e') (λq=>by rw[q,f2.fN]at e';exact aI e') (DK T.inv T.fr T.ow (.inl (by rw[T.ext _ _ e'];simp))) e
    ·refine Or.elim (X4.fresh Ia e) (λq=>?_) λq=>?_
     ·exact T.noI q
     ·rw[Xw]at q;exact il q
   split at hev
   ·rename_i σ4 g4 e4;refine aM (ih hb e4 I3 f3 o3) (λfl s4 p=>?_) λz_ z_ x=>x;obtain⟨rfl,F4,Pl,X4,I4,f4,Zr⟩:=p;refine dy (after X4) λq1 q2 q3=>⟨items.length+1-(i+1),by exact Dh hlt GZ,Pk (i+1) σ4 g4 F4 Pl {cnt:=rfl,le:=hlt,st:=q1,inv:=I4,fr:=f4,ow:=Zr,x:=x3.trans X4,ext:=T.ext.trans X4.ext,noI:=q2,ul:=q3,ev:=hev}⟩
   ·rename_i v4 g4 e4;(clear h3;(refine bD hev λx=>?_;subst x));refine aM (ih hb e4 I3 f3 o3) (λfl s4 p=>?_) λz_ z_ x=>x;obtain⟨v',rfl,F9,p1,p2,p3⟩:=p;exact cO.after (out:=.ret v4 g4) x3 ⟨v',rfl,F9,p1,p2,p3⟩
   ·exact aI hev
  ·have hin:=Nat.le_antisymm T.le (bO.mp hlt);have hev:=T.ev;rw[hin,List.drop_length]at hev;(clear h3;(refine bD hev λx=>?_;subst x));refine bA (n:=s'.toks) (aD _) (W'.done _ _ _ (hin▸T.st) λh₂ tk₂ hk₂ Di=>wpAny_execs_nil ?_);refine vZ (stepI h₂ tk₂ hk₂ Di) λx1 i1 f1 o1=>⟨rfl,F',nY,x1,i1,f1,o1⟩
 ·induction hi using RI.cs with|plain h hs=>exact sU ok h env x|range=>rfl
end
section
variable{S:Sys}{n:Nat}{env:Env}{σ:Sg}{A:Around}{E:Value->Shared->Prop}{s:Shared}{F:cF}{kk:KK}{g g':G}{oa:Option Addr}{nm:Nat->Str}{c:Ctx}
theorem bindNames(hk:env.scope.kind=.function)(inj:∀i j,nm i=nm j->i=j):∀(xs:List Nat) (ba:List Value) (s:Shared) (m:Str->Option Value) {Q:Unit->Shared->Prop},xs.length=ba.length->(∀x∈xs,env.kindOf (nm x)=some .local)->xs.Nodup->s.heap.Ns env.locals m->
  (∀s' m',s'.heap.Ns env.locals m'->dZ env.locals s s'->(∀(i x:Nat) (v:Value),xs[i]?=some x->ba[i]?=some v->m' (nm x)=some v)->(∀y,(∀x∈xs,nm x≠y)->m' y=m y)->Q () s')->
  wpAny c.M A (assignInOrder (xs.map λx=>bindName env (nm x)) ba) Q E s
 |[],[],s,m,Q,_,_,_,hn,hQ=>aP (hQ s m hn dZ.refl (λi x v h=>by simp at h) λz_ z_=>rfl)|x::xs,v::ba,s,m,Q,cM,hl,hnd,hn,hQ=>by
  rw[cn]at hnd;refine an (wpAny_holding (wpAny_bindName (wpAny_storeName_local (hl x (.head _)) hn (λh' hn' hs=>?_) (by rw[hk];rfl))));have o1:dZ env.locals s {s with heap:=h',toks:=s.toks+1}:=⟨λb o h1 e=>hs.extBut b o h1 e,λb e=>by
   by_cases q:b=env.locals
   ·subst q;exact gp hn'
   ·refine b0 (bu e) λo e=>?_;rw[hs.extBut b o q e];rfl,rfl,rfl⟩
  refine bindNames hk inj xs ba {s with heap:=h',toks:=s.toks+1} _ (by simpa using cM) (λy hy=>hl y (.tail _ hy)) hnd.2 hn' λs2 m2 hn2 o2 h1 h2=>?_;refine hQ s2 m2 hn2 (o1.trans o2) (λi y w hy hw=>?_) λy hy=>?_
  ·cases i with|zero=>simp at hy hw;subst hy;subst hw;rw[h2 _ λz hz e=>hnd.1 (by rw[←inj _ _ e];exact hz),br rfl]|succ i=>exact h1 i y w (by simpa using hy) (by simpa using hw)
  ·rw[h2 y λz hz=>hy z (.tail _ hz),bi λe=>hy x (.head _) e.symm]
 |[],_::_,_,_,_,h,_,_,_,_=>by cases h|_::_,[],_,_,_,h,_,_,_,_=>by cases h
theorem qi(y):∀(bI:List Nat) (as:List AV) (l:Loc),y∉bI->fW y ((bI.zip as).foldl (λl p=>db p.1 p.2 l) l)=fW y l|[],_,_,_=>rfl|x::bI,[],l,_=>rfl|x::bI,a::as,l,h=>by rw[am,not_or]at h;rw[List.zip_cons_cons,List.foldl_cons,qi y bI as _ h.2,cv,bi h.1]
theorem vK:∀(bI:List Nat) (as:List AV) (l:Loc) (i x:Nat) (a:AV),bI.Nodup->bI[i]?=some x->as[i]?=some a->fW x ((bI.zip as).foldl (λl p=>db p.1 p.2 l) l)=some a|[],_,_,_,_,_,_,h,_=>by simp at h|y::bI,[],l,i,x,a,_,_,h=>by simp at h|y::bI,b::as,l,i,x,a,hnd,h1,h2=>by rw[cn]at hnd;rw[List.zip_cons_cons,List.foldl_cons];cases i with|zero=>simp at h1 h2;subst h1;subst h2;rw[qi y bI as _ hnd.1,cv,br rfl]|succ i=>exact vK bI as _ i x a hnd.2 (by simpa using h1) (by simpa using h2)
theorem GS(ok:cQ S)(iq:ej S n)(hk:∀x,env.kindOf x=kk x)(hA:S.cP A)(he:RE S kk e ee)(hs:gz ee)(ht:ns.length=xs.length)
  (hn:∀(i x:Nat) (e:Expr),xs[i]?=some x->ns[i]?=some e->∃px,e=Expr.Name (S.nm x) px) (hl:∀x∈xs,kk (S.nm x)=some .local) (hnd:xs.Nodup) (hw:SwOk S kk xs ns k tp ee)
  (h1:ev S.T S.O n e σ g=some (v,g1)) (hno:xs.all (fM σ)=true) (hb:jj xs true v σ.ah=some l') (I:Inv S.c F g s) (f:ax S.nm S.c env F σ s) (ho:cx S.nm env s σ oa):
  wpAny S.c.M A (exec (.Assign [.Tuple ns k tp] ee p) env) (cO S env s F oa (.next ⟨l',σ.own⟩ g1)) E s:=by
 have hl':∀x∈xs,env.kindOf (S.nm x)=some .local:=λx hx=>by rw[hk];exact hl x hx
 have hno':=λx hx=>aS.mp hno x hx
 have fin:∀{s1 s2:Shared} {F1:cF} {m m2:Str->Option Value},XF s F F1->Inv S.c F1 g1 s1->eZ S.c env.locals s s1->ax S.nm S.c env F1 σ s1->s1.heap.Ns env.locals m->s2.heap.Ns env.locals m2->dZ env.locals s1 s2->MS S.nm S.c F1 xs m m2 σ.ah l'->s1.toks<=s2.toks->cO S env s F oa (.next ⟨l',σ.own⟩ g1) .next s2:=
  λ{s1 s2 F1 m m2} X1 I1 Y1 f1 hn1 hn2 o B tk=>⟨rfl,F1,oa,(gw.sq X1 Y1).trans (gw.GT o),I1.kept (λb oo e=>o.keep b oo (λq=>by rw[q,f1.fN]at e;exact aI e) (I1.cE b oo e)) (λb hb oo e=>o.keep b oo (λq=>f1.cR (by rw[←q];exact hb)) e),
   nv ok.N.inj f1 hn1 hn2 o B hl' hno' (aB f1.tk tk),uk ok.N.inj (ho.keep λm hm=>Y1.ns m hm) hn1 hn2 B hno'⟩
 have hs':swapsWithSole [.Tuple ns k tp] ee p.line env=pure false:=by unfold swapsWithSole;exact hs _ _ _
 refine Or.elim (hw env hk f.kind) (λw=>?_) λw=>?_
 ·refine Assign_Tuple (gW (iq he hk hA h1 I f).1 f λv' s1 F1 X1 V1 I1 Y1 f1=>?_) hs' w;obtain⟨m,hn1,_⟩:=f1.ns;exact bA (n:=s1.toks) (aD _) (nw (L:=env.locals) rfl f1.kind ok.N.inj (ok.rH hA) (.inr ⟨rfl,ns,k,tp,rfl,ht,hn⟩) hl' hnd I1.cE V1 hb hn1 λs2 m2 hn2 o B tk=>fin X1 I1 Y1 f1 hn1 hn2 o B tk)
 ·refine Assign_Tuple_swapped (gW (iq he hk hA h1 I f).1 f λv' s1 F1 X1 V1 I1 Y1 f1=>?_) hs' w;refine zK hb λas e0 q e9=>?_;(clear h1;subst e0);subst e9;refine V1.qj λad o vs n' hF hc hd hn' hvs=>?_;have hsz:=hvs.length;obtain⟨m,hn1,_⟩:=f1.ns;rw[bg,show xs.length=vs.size from by exact Jd q hsz];refine wpAny_unpackItems_tuple (ok.rH hA) (I1.isTuple hF hc hd) λh2 hE=>?_;rw[←List.map_reverse,List.map_map];have on:dZ env.locals s1 {s1 with heap:=h2}:=⟨λb o z_ e=>hE b o (aJ (aN e)) e,λb e=>by
   refine b0 (bu e) λo e=>?_;rw[hE b o (aJ (aN e)) e];rfl,rfl,rfl⟩
  have hn2:({s1 with heap:=h2}:Shared).heap.Ns env.locals m:=hn1.at' λo e=>hE _ o (aJ (aN e)) e;refine bA (n:=s1.toks) (aD _) (bindNames (nm:=S.nm) f1.kind ok.N.inj xs.reverse vs.toList.reverse {s1 with heap:=h2} m (by simp;exact Jd q hsz) (λx hx=>hl' x (List.mem_reverse.mp hx)) ((List.reverse_perm xs).nodup_iff.mpr hnd) hn2 λs3 m3 GU o3 b1 b2 tk=>?_);refine fin X1 I1 Y1 f1 hn1 GU (on.trans o3) ⟨λx hx=>?_,λy hy=>b2 y λx hx=>hy x (List.mem_reverse.mp hx),λy hy=>qi y xs as _ hy⟩ tk;refine b0 (List.getElem?_of_mem hx) λi hi=>?_;have hlt:=(List.getElem?_eq_some_iff.mp hi).1;refine aH (hvs.get (cg (Je q hsz hlt:i<as.length))) λw hw1 hw2=>?_;refine⟨w,as[i],vK xs as _ i x _ hnd hi (cg (Je q hsz hlt)),b1 (xs.length-1-i) x w ?_ ?_,hw2⟩
  ·rw[List.getElem?_reverse (Jf q hsz hlt),show xs.length-1-(xs.length-1-i)=i from by exact Nk ht q hn' hsz hlt];exact hi
  ·rw[List.getElem?_reverse (by simp;exact Nl q hsz hlt),show vs.toList.length-1-(xs.length-1-i)=i from by simp;exact Nm ht q hn' hsz hlt];exact hw1
end
section
variable{S:Sys}{n:Nat}{env:Env}{σ:Sg}{A:Around}{E:Value->Shared->Prop}{s:Shared}{F:cF}{kk:KK}{g g':G}{oa:Option Addr}
theorem L2(ih:∀{ps:List PS} {sts:List Stmt},s9 S kk ps sts->∀{σ:Sg} {g:G} {out:Out} {F:cF} {s:Shared} {E:Value->Shared->Prop} {oa:Option Addr},
   bm (ex W (ev S.T S.O n) k) ps σ g=some out->Inv S.c F g s->ax S.nm S.c env F σ s->cx S.nm env s σ oa->wpAny S.c.M A (execs sts env) (cO S env s F oa out) E s)
 (hb:s9 S kk b eb) (h:bm (ex W (ev S.T S.O n) k) b σ g=some out) (I:Inv S.c F g s) (f:ax S.nm S.c env F σ s) (ho:cx S.nm env s σ oa):
  wpAny S.c.M A (exec (.Try eb (h₀::hs) [] [] p) env) (cO S env s F oa out) E s:=by
 refine wpAny_Try_except (aM (ih hb h I f ho) (λfl s1 q=>?_) λz_ z_ x=>x);cases out with
 |next σ1 g1=>revert q;refine λoz=>aG oz λjx q=>?_;clear oz;subst jx;exact wpAny_execs_nil ⟨rfl,q⟩
 |ret v g1=>obtain⟨v',rfl,F9,p1,p2,p3⟩:=q;exact⟨v',rfl,F9,p1,p2,p3⟩
theorem y8(ok:cQ S)(iq:ej S n)(hk:∀x,env.kindOf x=kk x)(hA:S.cP A)(he:RE S kk e ee)(hoo:RE S kk o eo)(hi:RE S kk i ei)(hs:gz ee)
  (h1:ev S.T S.O n e σ g=some (v,g1)) (h2:ev S.T S.O n o σ g1=some (.sp 0,g2)) (h3:ev S.T S.O n i σ g2=some (j,g3)) (h4:yE g3 j v=some g4) (I:Inv S.c F g s) (f:ax S.nm S.c env F σ s) (ho:cx S.nm env s σ oa):
  wpAny S.c.M A (exec (.Assign [.Subscript eo ei tp] ee p) env) (cO S env s F oa (.next σ g4)) E s:=by
 refine gT (hs _ _ _) rfl rfl (gW (iq he hk hA h1 I f).1 f λv' s1 F1 X1 V1 I1 Y1 f1=>?_);refine an (wpAny_holding (gW (iq hoo hk hA h2 I1 f1).1 f1 λov s2 F2 X2 V2 I2 Y2 f2=>an (wpAny_holding (gW (iq hi hk hA h3 I2 f2).1 f2 λiv s3 F3 X3 V3 I3 Y3 f3=>an (wpAny_standAt (an (wpAny_holding ?_)))))));have Sm:=V2.mono X3.ext;have Sn:=(V1.mono X2.ext).mono X3.ext;refine Sm.zz λhs'=>?_;have hs':(S.c.box.map Value.ref)=some ov:=hs';rw[aX]at hs';(clear V2 Sm;(revert hs';refine λoz=>aH oz λb q kO=>?_;subst kO));obtain⟨o',vc,vg,Sl,vp,n',z1,z2,z3,z4,z5,z6,z7⟩:=I3.d7.box _ q;have hL:s3.heap.IsList b #[vc,vg,Sl,vp]:=⟨o',z1,z2,n',z3⟩;have bL:b≠env.locals:=λe=>f3.cR (by rw[←e];exact kJ q)
 have key:∀{ki:Int} {t:Tok} {items':Array Value},iv=.int ki t->0<=ki->ki<4->items'=(#[vc,vg,Sl,vp]:Array Value).setIfInBounds ki.toNat v'->
   (∃So vs' Sp,items'=#[vc,So,vs',Sp]/\VM S.c F3 vc (.list (g4.box.cells.map .int))/\VM S.c F3 So (.int g4.box.great)/\VM S.c F3 vs' (.int g4.box.state)/\VM S.c F3 Sp (.int g4.box.place))->g4.rem=g3.rem->g4.last=g3.last->
   wpAny S.c.M A (setItem (.ref b) iv v') (λz_ s'=>cO S env s F oa (.next σ g4) .next s') E s3:=by
  intro ki t items' e1 hk0 hk4 e2 e3 e4 e5;subst e1;refine wpAny_setItem_list hL hk0 (by omega) (by simp;omega) λh' hl' hsb=>?_;rw[←e2]at hl';refine Wi e3 λSo vs' Sp e6 w1 w2 w3 w4=>?_;have kp:=λx o h e=>hsb.extBut x o h e;have bF:∀x o,F3 x=some o->x≠b:=λx o e q2=>by rw[q2,I3.apart _ (kJ q)]at e;exact aI e
  have hn':∀m,s3.heap.Ns env.locals m->h'.Ns env.locals m:=λm hm=>hm.at' λo e=>kp _ o bL.symm e;have al:∀x,(s3.heap.get? x).isSome=true->(h'.get? x).isSome=true:=λx hx=>by
   by_cases q2:x=b
   ·subst q2;refine aH hl' λo2 e z_=>?_;rw[e];rfl
   ·refine b0 (bu hx) λo2 e=>?_;rw[kp x o2 q2 e];rfl
  have I4:Inv S.c F3 g4 {s3 with heap:=h'}:=by
   refine⟨λx o e=>kp x o (bF x o e) (I3.cE x o e),I3.base,I3.apart,⟨?_,?_,λb1 q1=>?_,I3.d7.tab.mono (Ext.refl F3) λz_ z_ z_ q1 o=>kp _ o (zn I3.fJ q q1)⟩,I3.fJ⟩
   ·rw[e4];exact I3.d7.rd.mono (Ext.refl F3) λz_ z_ z_ z_ q1 o=>kp _ o (tK I3.fJ q1 q).symm
   ·rw[e5];exact I3.d7.cd.mono (Ext.refl F3) λz_ z_ q1 o=>kp _ o (tM I3.fJ q1 q).symm
   ·rw[q]at q1;(refine bD q1 λx=>?_;subst x);obtain⟨o2,y1,y2,n2,y3⟩:=hl';exact⟨o2,vc,So,vs',Sp,n2,y1,y2,by rw[y3,e6],w1,w2,w3,w4⟩
  have St:eZ S.c env.locals s3 {s3 with heap:=h'}:=⟨λx o h1 z_ e=>kp x o (λq2=>h1 (by rw[q2];exact kJ q)) e,hn',al,rfl,rfl⟩;have P:rV S.c F3 s3 env.locals g4 {s3 with heap:=h'}:=⟨F3,XF.refl,I4,St⟩;have OD:=((ho.keep λm hm=>Y1.ns m hm).keep λm hm=>Y2.ns m hm).keep λm hm=>Y3.ns m hm;exact(((P.X8 f3 OD (aD _)).after (gw.sq X3 Y3)).after (gw.sq X2 Y2)).after (gw.sq X1 Y1)
 refine aH (a8 h4) λnn e1 h4=>aH (a8 h4) λw e2 h4=>?_;rw[gb e1]at V3;rw[du e2]at Sn;refine b0 (yM V3) λt3 dN=>?_;subst dN;unfold O2 at h4
 split at h4
 ·refine bD h4 λx=>?_;subst x;exact aM (key rfl (by decide) (by decide) rfl ⟨_,_,_,rfl,z4,Sn,z6,z7⟩ rfl rfl) (λz_ z_ h=>wpAny_release h) λz_ z_ x=>x
 ·refine bD h4 λx=>?_;subst x;exact aM (key rfl (by decide) (by decide) rfl ⟨_,_,_,rfl,z4,z5,Sn,z7⟩ rfl rfl) (λz_ z_ h=>wpAny_release h) λz_ z_ x=>x
 ·refine bD h4 λx=>?_;subst x;exact aM (key rfl (by decide) (by decide) rfl ⟨_,_,_,rfl,z4,z5,z6,Sn⟩ rfl rfl) (λz_ z_ h=>wpAny_release h) λz_ z_ x=>x
 ·exact aI h4
end
section
variable{S:Sys}{n:Nat}{env:Env}{σ:Sg}{A:Around}{E:Value->Shared->Prop}{s:Shared}{F:cF}{kk:KK}{g g':G}{oa:Option Addr}
theorem DJ(I:Inv S.c F g s)(f:ax S.nm S.c env F σ s)(ho:cx S.nm env s σ oa)(hC:C≠env.locals)(hm:C∉S.c.mu)(hF:F C=none)(hoC:oa≠some C)(hs:Heap.SameBut C s.heap h'):
  Inv S.c F g {s with heap:=h'}/\ax S.nm S.c env F σ {s with heap:=h'}/\cx S.nm env {s with heap:=h'} σ oa:=by
 have up:=λb o hb e=>hs.extBut b o hb e;obtain⟨m,hn,hlo,hown⟩:=f.ns;have hn2:=hn.at' λo e=>up _ o hC.symm e
 refine⟨I.kept (λb o e=>up b o (λq=>by rw[q,hF]at e;exact aI e) (I.cE b o e)) (λb hb o e=>up b o (λq=>hm (by rw[←q];exact hb)) e),
  ⟨f.kind,f.glob,f.blt,f.hcode,f.cR,f.fN,f.above,f.tk,f.yc,m,hn2,hlo,λy l' e=>?_⟩,ho.keep λm' hm'=>by rw[eU hm' hn];exact hn2⟩
 obtain⟨a,o,vs',n',z1,z2,z3,z4,z5,z6,z7,z8,z9,Gn,Go,K3⟩:=(hown y l' e);refine⟨a,o,vs',n',z1,z2,up a o (λq=>?_) z3,z4,z5,z6,z7,z8,z9,Gn,Go,K3⟩;refine BQ (ownAt e f ho) λa' m' vs2 hoa hn' hm' z_=>?_;have:=eU hn' hn;(clear hn hlo hown hn2;subst this);rw[z2]at hm';cases hm';exact hoC (by rw[hoa,q])
theorem Hh(ok:cQ S)(rg:mj S)(ih:ej S n)(hk:∀x,env.kindOf x=kk x)(hA:S.cP A){cond}
  (he:RE S kk (.comp elt bI dB ik ies cond) (.ListComp fu gens sc pc)) (hlx:kk (S.nm x)=some .local) (hline:(px.line==pc.line)=true) (hany:(sc.names.any λ(n,k)=>n==S.nm x&&(k==.local||k==.cell))=false)
  (h:ev S.T S.O (n+1) (.comp elt bI dB ik ies cond) σ g=some (v,g1)) (hno:fM σ x=true) (I:Inv S.c F g s) (f:ax S.nm S.c env F σ s) (ho:cx S.nm env s σ oa):
  wpAny S.c.M A (exec (.Assign [.Name (S.nm x) px] (.ListComp fu gens sc pc) p) env) (cO S env s F oa (.next ⟨db x v σ.ah,σ.own⟩ g1)) E s:=by
 have h:=h;have hsw:swapsWith (.ListComp fu gens sc pc) (some (.Name (S.nm x) px)) p.line env=pure true:=by
  have e1:(env.blockKind==ScopeKind.function)=true:=by
   have:env.blockKind=.function:=by unfold Env.blockKind;rw[f.kind];rfl
   rw[this];rfl
  have e2:(env.kindOf (S.nm x)==some .local)=true:=by rw[hk,hlx];rfl
  show(pure (env.blockKind==.function&&env.kindOf (S.nm x)==some .local&&px.line==pc.line&&!(sc.names.any λ(n,k)=>n==S.nm x&&(k==.local||k==.cell))):Sem Bool)=pure true;rw[e1,e2,hline,hany];rfl
 rw[exec_Assign_Name_used _ _ _ _ hsw];refine an (wpAny_standAt (an ?_));obtain⟨dg,gk,dU,rfl,hit,hc,hel,cs,hnn⟩:=he.Nj;revert h;refine xJ λvs g2 e1 h=>?_;revert h;refine RO λitems e2 h=>?_;revert h;refine sN λq h=>?_;revert h;refine xJ λxs g3 e3 h=>?_;cases (h);refine an (vN ok rg ih hk hA (ql ok hit) hc hel cs (vQ ok rg ih hk hA hit e1 e2 (aa q) I f) (aa q) e3 (use:=some (assign (.Name (S.nm x) px) env)) (Q:=λz_ s3=>wpAny S.c.M A (pure ()) (λz_ s3=>wpAny S.c.M A (pure Flow.next) (cO S env s F oa (.next ⟨db x (.list xs) σ.ah,σ.own⟩ g1)) E s3) E s3) (λD C s' F' m T=>?_) I f);have f1:ax S.nm S.c env F' σ s':=by have f0:=f.step S.nm (s':={s' with toks:=s.toks}) T.xf ⟨T.stp.keep,T.stp.ns,T.stp.alive,T.stp.gens,T.stp.os⟩ (aD _);exact⟨f0.kind,f0.glob,f0.blt,f0.hcode,f0.cR,f0.fN,f0.above,T.tk,f0.yc,f0.ns⟩
 have hoC:=DK I f ho (.inr T.fresh);have Dg:=gp T.ns;refine DL ok hk hlx T.inv f1 (ho.keep λm hm=>T.stp.ns m hm) hno T.vm λs3 P o3=>?_;obtain⟨_,F3,Tx,X3,I3,f3,OD⟩:=P;have GU:=T.ns.at' λo e=>o3.keep C o T.ne e;refine⟨m,GU,λh' hs'=>aP (aP ?_)⟩;have Zh:=(X3.low C Dg hoC).trans T.ul;have Ty:=λe=>by
  refine Or.elim (X3.fresh C e) (λq=>?_) λq=>?_
  ·exact hoC q
  ·rw[Dg]at q;exact il q
 refine dy (DJ I3 f3 OD T.ne T.mu Zh Ty hs') λj1 j2 j3=>?_;have w:=(gw.sq (oa:=oa) T.xf T.stp).trans X3;have nC:∀b,(s.heap.get? b).isSome=true->b≠C:=λb hb q=>by rw[q,T.fresh]at hb;exact bq hb
 refine⟨rfl,F3,Tx,⟨w.ext,w.low,λb o q1 q2 q3 e=>hs'.extBut b o (nC b (by rw[e];rfl)) (w.keep b o q1 q2 q3 e),λb hb=>?_,w.gens,w.os,w.fresh⟩,j1,j2,j3⟩;refine b0 (bu (w.alive b hb)) λo e=>?_;rw[hs'.extBut b o (nC b hb) e];rfl
end
section
variable{S:Sys}{n:Nat}{env:Env}{σ:Sg}{A:Around}{E:Value->Shared->Prop}{s:Shared}{F:cF}{kk:KK}{g g':G}{oa:Option Addr}
theorem EN(its its2)(n):∃n',Obj.mapSeq (λx=>x++its2) {cls:=.type "list",data:=.seq its n}={cls:=.type "list",data:=.seq (its++its2) n'}:=⟨_,mapSeq_app its its2 n none #[]⟩
theorem H1(ok:cQ S)(iq:ej S n)(hk:∀x,env.kindOf x=kk x)(hA:S.cP A)(he:fA S kk es ees)(hd:(S.nm x==("__debug__":Str))=false)(hp:(ap.endLine==cp.line)=true)
  (h1:ci (ev S.T S.O n) es σ g=some (vs,g1)) (Qg:vs.length<=1000) (hl:σ.own=some (x,l)) (cM:l.length+vs.length<1000000) (I:Inv S.c F g s) (f:ax S.nm S.c env F σ s) (ho:cx S.nm env s σ oa):
  wpAny S.c.M A (exec (.Expr (.Call (.Attribute (.Name (S.nm x) np) (S.nm 19) ap) [.List ees pl] [] cp) p) env) (cO S env s F oa (.next ⟨σ.ah,some (x,l++vs)⟩ g1)) E s:=by
 obtain⟨a,m,its,hoa,hn,hm,hkl,hpl,hvs,Ee,aL,aF,ab,hll⟩:=ownAt hl f ho;refine wpAny_Expr_any (gQ (M:=S.c.M) (bP:=[.List ees pl]) rfl hp (by simp) rfl (wpAny_Name (wpAny_loadName_local f.kind hkl hn hm ?_) hd)) (by unfold interactive;rw[f.kind];rfl) rfl;refine b0 (id hpl) λnn hg=>?_;rw[ok.N.n19];have hT:s.TypeIs (.ref a) "list":=⟨_,hg,rfl⟩;refine getMethod_builtin hT PySem.F.plainAttrs_list PySem.F.slot_list_extend PySem.F.type_list_extend (λa' e=>by cases e;exact⟨_,hg,rfl⟩) (ft (F:=F) (eE S.c F "list.extend") ?_);refine bG (List_ ?_);rw[dY he env,cX];refine vz (lL iq hk hA he h1 I f) f λba s1 F1 X1 V1 I1 Y1 f1=>?_;have e:=V1.length;refine wpAny_newObj_type (cf ?_) (by show ba.toArray.size<=sizeLine;rw[bX,e,sizeLine_eq];exact JF Qg e);refine aG (I1.gc {cls:=.type "list",data:=.seq ba.toArray} s1.toks) λI2 Y2=>?_;have f2:=f1.step S.nm XF.refl (Y2 env.locals) (aD _);have LG:=hpl.at λo e=>Y1.keep a o Ee aL e;refine b0 (id LG) λn1 hg1=>?_;have hg2:(s1.heap.push {cls:=.type "list",data:=.seq ba.toArray}).get? a=some {cls:=.type "list",data:=.seq its n1}:=az _ hg1;have hb:=be s1.heap (o:={cls:=.type "list",data:=.seq ba.toArray}) rfl;refine⟨λb o e=>I2.cE _ _ (X1.ext _ _ e),?_⟩;have hsz:its.size=l.length:=by have:=hvs.length;rw[aW]at this;exact this
 have e3:ba.toArray.size=ba.length:=by simp
 have hz:its.size+ba.toArray.size<=sizeLine:=by rw[e3,e,hsz,sizeLine_eq];exact Qh cM e hsz e3
 refine call_meets PySem.F.slot_list_extend ⟨_,hg2,rfl⟩ PySem.F.entry_list_extend (PySem.F.args_list_extend_2 _ _) (AutoSeq1.list_extend_list_list_0 a its n1 _ ba.toArray 0 (extend_door hz) (aw (Nat.le_add_right _ _) hz)) ⟨hg2,hb,?_⟩;refine b0 (EN its ba.toArray n1) λn2 e2=>?_;have hg3:((s1.heap.push {cls:=.type "list",data:=.seq ba.toArray}).update a (Obj.mapSeq λx=>x++ba.toArray)).PlainList a (its++ba.toArray):=⟨n2,by rw[Heap.get?_update_self _ hg2 (by rw[e2];rfl),e2]⟩;refine(Ej (s:={s1 with heap:=s1.heap.push {cls:=.type "list",data:=.seq ba.toArray}}) (l':=l++vs) hl I2 f2 ((Y2 env.locals).ns m (Y1.ns m hn)) hm hkl Ee aL ((X1.low a (by rw[hg];rfl)).trans aF) ab hg3 (Heap.SameBut.update ..) ?_ ?_ (aD _) hoa).after ((gw.sq X1 Y1).trans (gw.sq XF.refl (Y2 env.locals)))
 ·rw[Array.toList_append,List.toList_toArray];exact(hvs.mono X1.ext).append V1
 ·rw[ae];exact Qi cM e hsz e3
end
section
variable{S:Sys}
theorem EI:∀(k:Nat) {x:Nat} {σ:Sg} {g:G} {out:Out},ex W (ev S.T S.O n) k (.freeze x) σ g=some out->∃l,σ.own=some (x,l)/\out=.next ⟨db x (.list l) σ.ah,none⟩ g|0,x,σ,g,out,h=>by exact aI h|k+1,x,σ,g,out,h=>by have h:=h;revert h;refine RP λy l e h=>?_;revert h;refine sN λq h=>?_;have q:=c0.mp q;refine bD h λx=>?_;subst x;exact⟨l,by rw[e,q],rfl⟩
theorem H0(ok:cQ S)(rg:mj S)(iq:∀n,ej S n)(ih:HY S W n k):HY S W n (k+1):=by
 intro kk ps st hr env σ g out F s A E oa hk hA h I f ho;have h:=h
 have ihs:∀{ps:List PS} {sts:List Stmt},s9 S kk ps sts->∀{σ:Sg} {g:G} {out:Out} {F:cF} {s:Shared} {E:Value->Shared->Prop} {oa:Option Addr},
   bm (ex W (ev S.T S.O n) k) ps σ g=some out->Inv S.c F g s->ax S.nm S.c env F σ s->cx S.nm env s σ oa->wpAny S.c.M A (execs sts env) (cO S env s F oa out) E s:=EH ih (EI k) hk hA
 induction hr using RS.casesOn with
 |ca he hl hs=>revert h;refine iG λv g1 e1 h=>?_;revert h;refine sN λhno h=>?_;refine bD h λx=>?_;subst x;exact Lx ok (iq n) hk hA he hl hs e1 hno I f ho|OQ he hl hline hany=>revert h;refine iG λv g1 e1 h=>?_;revert h;refine sN λhno h=>?_;refine bD h λx=>?_;subst x;cases n with|zero=>exact aI e1|succ n=>exact Hh ok rg (iq n) hk hA he hl hline hany e1 hno I f ho
 |own he hl=>revert h;refine xJ λvs g1 e1 h=>?_;revert h;refine TK λe2 e3 e4 h=>?_;refine bD h λx=>?_;subst x;exact L1 ok (iq n) hk hA he hl e1 e2 (aa e3) e4 I f ho|hY he hs ht hn hl hnd hw=>revert h;refine iG λv g1 e1 h=>?_;revert h;refine sN λhno h=>?_;revert h;refine RU λl' hb h=>?_;refine bD h λx=>?_;subst x;exact GS ok (iq n) hk hA he hs ht hn hl hnd hw e1 hno hb I f ho|cZ he hoo hs=>revert h;refine iG λv g1 e1 h=>?_;revert h;refine iG λov g2 e2 h=>?_;revert h;refine Xr λg3 e3 h=>?_;refine bD h λx=>?_;subst x;exact y7 ok (iq n) hk hA he hoo hs e1 e2 e3 I f ho|setItem he hoo hi hs=>revert h;refine iG λv g1 e1 h=>?_;revert h;refine TJ λg2 e2 h=>?_;revert h;refine iG λj g3 e3 h=>?_;revert h;refine Xr λg4 e4 h=>?_;refine bD h λx=>?_;subst x;exact y8 ok (iq n) hk hA he hoo hi hs e1 e2 e3 e4 I f ho|app he hst hd hp=>revert h;refine iG λv g1 e1 h=>?_;revert h;refine RP λy l e2 h=>?_;revert h;refine sN λq h=>?_;rw[aV]at q;have q1:=c0.mp q.1;subst q1;refine bD h λx=>?_;subst x;exact LF ok (iq n) hk hA he hst hd hp e1 e2 (aa q.2) I f ho|@sG x es ees pl np ap cp p he hd hp=>revert h;refine M9 λvs g1 e1 h=>?_;revert h;refine RP λy l e2 h=>?_;revert h;refine sN λq h=>?_;rw[aV]at q;have q1:=c0.mp q.1;subst q1;refine bD h λx=>?_;subst x;cases n with|zero=>exact aI e1|succ n=>have e1:=e1;revert e1;refine xJ λvs' g' e3 e1=>?_;revert e1;refine sN λe4 e1=>?_;cases e1;exact H1 ok (iq n) hk hA he hd hp e3 (aa e4) e2 (aa q.2) I f ho
 |expr he hs=>revert h;refine iG λv g1 e1 h=>?_;refine bD h λx=>?_;subst x;exact Hr (iq n) hk hA he hs e1 I f ho|ret he=>revert h;refine iG λv g1 e1 h=>?_;refine bD h λx=>?_;subst x;exact Ly (iq n) hk hA he e1 I f|cu ht ha hb=>exact Qa (iq n) ihs hk hA ht ha hb h I f ho|dk ht hb=>exact EJ (iq n) ihs hk hA ht hb h I f ho|ff ht hl hnd hi hb hnn=>revert h;refine xJ λvs g1 e1 h=>?_;revert h;refine RO λitems e2 h=>?_;revert h;refine sN λq h=>LC ok rg (iq n) ihs hk hA ht hl hnd hi hb e1 e2 (aa q) h I f ho|pA hb=>exact L2 ihs hb h I f ho|cw=>exact aI h
theorem JE(ok:cQ S)(rg:mj S)(iq:∀n,ej S n):∀k,HY S W n k|0=>λz_=>λz_ z_ h=>by exact aI h|k+1=>H0 ok rg iq (JE ok rg iq k)
theorem yP(ok:cQ S)(rg:mj S)(iq:∀n,ej S n):P7 S W n k:=by intro kk ps sts hr env σ g out F s A E oa hk hA h I f ho;exact EH (JE ok rg iq k) (EI k) hk hA hr h I f ho
end
theorem kh:∀(l:List (Str×Value)) (init:List (Str×Value)),
  (forIn l init (λx sl=>if(List.lookup x.1 sl).isNone=true then pure (ForInStep.yield (sl++[(x.1,x.2)]))else pure (ForInStep.yield sl)):Sem (List (Str×Value)))=
   pure (l.foldl (λsl x=>if(List.lookup x.1 sl).isNone=true then sl++[(x.1,x.2)]else sl) init)
 |[],init=>by simp|x::l,init=>by
  rw[List.forIn_cons,List.foldl_cons];by_cases h:(List.lookup x.1 init).isNone=true
  ·rw[br h,br h,pure_bind];exact kh l _
  ·rw[bi h,bi h,pure_bind];exact kh l _
theorem ii:∀{ps:List Str} {vs:List Value},n∈ps.take vs.length->(List.lookup n (ps.zip vs)).isNone=false|[],vs,h=>by simp at h|p::ps,[],h=>by simp at h|p::ps,v::vs,h=>by rw[List.zip_cons_cons,aQ];rw[ac,List.take_succ_cons,am]at h;cases q:n==p with|true=>rfl|false=>exact ii (h.resolve_left λe=>by rw[e]at q;simp at q)
theorem kj:∀{ps:List Str} {vs:List Value},n∉ps->List.lookup n (ps.zip vs)=none|[],vs,h=>by rfl|p::ps,[],h=>by rfl|p::ps,v::vs,h=>by rw[am,not_or]at h;rw[List.zip_cons_cons,aQ,b8.mpr h.1];exact kj h.2
theorem tX:∀(l init:List (Str×Value)),(∀x∈l,(List.lookup x.1 init).isNone=false)->l.foldl (λsl x=>if(List.lookup x.1 sl).isNone=true then sl++[(x.1,x.2)]else sl) init=init|[],init,_=>rfl|x::l,init,h=>by rw[List.foldl_cons,bi (by rw[h x (.head _)];simp)];exact tX l init λy hy=>h y (.tail _ hy)
theorem fold_add:∀(l init:List (Str×Value)),(l.map (·.1)).Nodup->(∀x∈l,List.lookup x.1 init=none)->l.foldl (λsl x=>if(List.lookup x.1 sl).isNone=true then sl++[(x.1,x.2)]else sl) init=init++l
 |[],init,_,_=>by simp|x::l,init,hnd,h=>by
  rw[aC,cn]at hnd;rw[List.foldl_cons,br (by rw[h x (.head _)];rfl),fold_add l _ hnd.2 (λy hy=>?_),ay]
  ·rfl
  ·rw[List.lookup_append,h y (.tail _ hy)];have:(y.1==x.1)=false:=b8.mpr λe=>hnd.1 (by rw[←e];exact cj (f:=(·.1)) hy);simp[aQ,this]
theorem xz:∀(ps:List Str) (l:List Value) (pre:List (Str×Value)),ps.Nodup->ps.length<=l.length->(∀n∈ps,List.lookup n pre=none)->ps.filterMap (λn=>(List.lookup n (pre++ps.zip l)).map (n,·))=ps.zip l
 |[],l,pre,_,_,_=>by simp|p::ps,[],pre,_,h,_=>by simp at h|p::ps,v::l,pre,hnd,h,hpre=>by
  rw[cn]at hnd;have ih:=xz ps l (pre++[(p,v)]) hnd.2 (by simpa using h) λn hn=>by rw[List.lookup_append,hpre n (.tail _ hn)];have:(n==p)=false:=b8.mpr λe=>hnd.1 (e▸hn);simp[aQ,this]
  rw[List.filterMap_cons,List.lookup_append,hpre p (.head _),List.zip_cons_cons];simp only[Option.none_or,aQ,bz,Option.map_some];congr 1;rw[ay]at ih;exact ih
theorem r9:∀(ps:List Str) (vs:List Value),ps.zip vs=(ps.take vs.length).zip vs|[],vs=>by simp|p::ps,[]=>by simp|p::ps,v::vs=>by rw[ac,List.take_succ_cons,List.zip_cons_cons,List.zip_cons_cons,←r9 ps vs]
theorem RB[Decidable c](h:b=b'):(if c then a else b)=(if c then a else b'):=by rw[h]
theorem bind_eq(hp:fd.params=⟨[],as,none,[],kd,none,BU⟩)(hps:as.map (·.arg)=ps):
  ∃X1 X2:Option (Array Value)->Sem (List (Str×Value)),bindArgs fd ⟨ba,[]⟩=seqItems? fd.defaults>>=λr=>if(decide (ba.length>ps.length)&&(none:Option Arg).isNone)=true then X1 r else
   if(!(List.filter (λn=>(List.lookup n (ps.zip ba)).isNone) (List.take (ps.length-(List.drop ((r.getD #[]).toList.length-ps.length) (r.getD #[]).toList).length) ps)).isEmpty)=true then X2 r else
   forIn ((List.drop (ps.length-(List.drop ((r.getD #[]).toList.length-ps.length) (r.getD #[]).toList).length) ps).zip (List.drop ((r.getD #[]).toList.length-ps.length) (r.getD #[]).toList)) (ps.zip ba) (λx sl=>if(List.lookup x.1 sl).isNone=true then pure (ForInStep.yield (sl++[(x.1,x.2)]))else pure (ForInStep.yield sl))>>=
    λsl=>pure (List.filterMap (λn=>Option.map (λx=>(n,x)) (List.lookup n sl)) ps):=by
 cases fd;cases (hps);cases (hp);unfold bindArgs;dsimp only;refine⟨_,_,congrArg (seqItems? _>>=·) (funext λr=>RB (RB (congrArg (forIn _ _ _>>=·) (funext λsl=>?_))))⟩;show(forIn ([]:List Str) _ _>>=_)=_;rw[List.forIn_nil,pure_bind];exact(bi bM).trans (congrArg (λl=>pure (List.filterMap (λn=>Option.map (λx=>(n,x)) (List.lookup n sl)) l)) (cz _))
theorem FX{ps:List Str}{ba D:List Value}(hD:D.length<=ps.length)(hall:ps.length<=ba.length+D.length):(List.filter (λn=>(List.lookup n (ps.zip ba)).isNone) (List.take (ps.length-D.length) ps))=[]:=by rw[List.filter_eq_nil_iff];intro n hn;rw[ii (List.mem_of_mem_take (i:=ps.length-D.length) (by rw[List.take_take,Nat.min_eq_left (oM7 hD hall)];exact hn))];simp
theorem FY{ps:List Str}{ba D:List Value}(hnd:ps.Nodup)(hle:ba.length<=ps.length)(hD:D.length<=ps.length)(hall:ps.length<=ba.length+D.length):
  List.filterMap (λn=>Option.map (λx=>(n,x)) (List.lookup n (((List.drop (ps.length-D.length) ps).zip D).foldl (λsl x=>if(List.lookup x.1 sl).isNone=true then sl++[(x.1,x.2)]else sl) (ps.zip ba)))) ps=ps.zip (ba++D.drop (D.length-(ps.length-ba.length))):=by
 have e3:(List.drop (ps.length-D.length) ps).zip D=(((ps.take ba.length).drop (ps.length-D.length)).zip (D.take (ba.length-(ps.length-D.length))))++((ps.drop ba.length).zip (D.drop (ba.length-(ps.length-D.length)))):=by rw[←List.zip_append (by rw[cD,cC,cC];exact oM8 hle hD hall),List.take_append_drop];congr 1;rw[←List.drop_append_of_le_length (by rw[cC];exact oM9 hle hD hall),List.take_append_drop]
 have m1:∀x∈(((ps.take ba.length).drop (ps.length-D.length)).zip (D.take (ba.length-(ps.length-D.length)))),(List.lookup x.1 (ps.zip ba)).isNone=false:=λx hx=>by have:x.1∈(ps.take ba.length).drop (ps.length-D.length):=(List.of_mem_zip (a:=x.1) (b:=x.2) hx).1;exact ii (List.mem_of_mem_drop this)
 have m2:∀x∈((ps.drop ba.length).zip (D.drop (ba.length-(ps.length-D.length)))),List.lookup x.1 (ps.zip ba)=none:=λx hx=>by have hm:=(List.of_mem_zip (a:=x.1) (b:=x.2) hx).1;have e8:=r9 ps ba;rw[e8];refine kj λhn=>?_;rw[←List.take_append_drop ba.length ps,aO]at hnd;exact hnd.2.2 _ hn _ hm rfl
 have m3:(((ps.drop ba.length).zip (D.drop (ba.length-(ps.length-D.length)))).map (·.1)).Nodup:=by
  have:((ps.drop ba.length).zip (D.drop (ba.length-(ps.length-D.length)))).map (·.1)=ps.drop ba.length:=by rw[List.map_fst_zip];rw[cD,cD];exact Vc hle hD hall
  rw[this];exact(List.drop_sublist _ _).nodup hnd
 rw[e3,List.foldl_append,tX _ _ m1,fold_add _ _ m3 m2];have e4:ps.zip ba++(ps.drop ba.length).zip (D.drop (ba.length-(ps.length-D.length)))=ps.zip (ba++D.drop (D.length-(ps.length-ba.length))):=by have e8:=r9 ps ba;rw[e8,show D.length-(ps.length-ba.length)=ba.length-(ps.length-D.length)from by exact Vd hle hD hall,←List.zip_append (by rw[cC];exact Ve hle),List.take_append_drop]
 rw[e4];have e6:=xz ps (ba++D.drop (D.length-(ps.length-ba.length))) [] hnd (by rw[ae,cD];exact QB hle hall) (λz_ z_=>rfl);rw[bB]at e6;rw[e6]
theorem rN{M:Model}{A:Around}
  (hp:fd.params=⟨[],as,none,[],kd,none,BU⟩) (hps:as.map (·.arg)=ps) (hnd:ps.Nodup) (hle:ba.length<=ps.length) (hD:D.length<=ps.length) (hall:ps.length<=ba.length+D.length)
  (hdef:wpAny M A (seqItems? fd.defaults) (λr s'=>(r.getD #[]).toList=D/\s'=s) E s)
  (hQ:Q (ps.zip (ba++D.drop (D.length-(ps.length-ba.length)))) s):wpAny M A (bindArgs fd ⟨ba,[]⟩) Q E s:=by
 refine nA (bind_eq (ba:=ba) hp hps) λX1 X2 e=>?_;rw[e];refine an (aM hdef (λr s' h=>?_) λz_ z_ x=>x);rw[h.2,h.1,show D.length-ps.length=0 from Nat.sub_eq_zero_of_le hD,List.drop_zero,FX hD hall,bi (λq=>oM5 hle (aU (bk.mp q).1)),bi (show ¬((!([]:List Str).isEmpty)=true)from bM),kh,pure_bind,FY hnd hle hD hall];exact aP hQ
noncomputable abbrev Ctx.at(c:Ctx)(cd:Value)(q:Str):Ctx:={c with code:=cd,qual:=q}
section
variable{c:Ctx}{F:cF}{cd:Value}{q:Str}
theorem VM.at(h:VM c F v a):VM (c.at cd q) F v a:=
 h.to (c:=c) (c':=c.at cd q) (Ext.refl F) (λz_ z_ h=>h) rfl (λz_ z_ h=>h) (λz_ z_ h=>h) (λz_ z_ z_ h=>h) rfl (λz_ z_ z_ h=>h) rfl
theorem f8.at(h:dh c F v a):dh (c.at cd q) F v a:=h.imp VM.at
theorem JX:(c.at cd q).at cd' q'=c.at cd' q':=rfl
theorem Bj:c.at c.code c.qual=c:=rfl
theorem VM.back(h:VM (c.at cd q) F v a):VM c F v a:=Bj (c:=c)▸JX (c:=c) (cd:=cd) (q:=q)▸h.at (cd:=c.code) (q:=c.qual)
theorem gG.at(x:gG c g F h):gG (c.at cd q) g F h:=
 ⟨x.rd.to rfl rfl (Ext.refl F) (λz_ y=>y.at) (λz_ y=>y.at) λz_ z_ z_ z_ z_ z_ e=>e,x.cd.to rfl (Ext.refl F) (λz_ y=>y.at) (λz_ y=>y.at) (λz_ y=>y.at) (λz_ y=>y.at) λz_ z_ z_ z_ e=>e,
  x.box.to rfl (λz_ z_ y=>y.at) (λz_ z_ y=>y.at) λz_ z_ z_ e=>e,x.tab⟩
theorem Inv.at(I:Inv c F g s):Inv (c.at cd q) F g s:=⟨I.cE,I.base,I.apart,I.d7.at,I.fJ⟩
theorem Inv.back(I:Inv (c.at cd q) F g s):Inv c F g s:=Bj (c:=c)▸JX (c:=c) (cd:=cd) (q:=q)▸I.at (cd:=c.code) (q:=c.qual)
end
section
variable{nm:Nat->Str}{c:Ctx}{s s₁:Shared}{F:cF}{g:G}{env:Env}{m cm:Str->Option Value}
open Classical in
noncomputable def lH(F:cF)(env:Env)(cm:Str->Option Value)(h:Heap):cF:=λb=>if ∃y v,env.cells.lookup y=some b/\cm y=some v then h.get? b else F b
theorem Ij(I:Inv c F g s)(x:InCallC s env.locals m env.cells cm s₁)(tk:s.toks<=s₁.toks)(ht:0<s.toks)(hbig:c.base.objs.size<=s.heap.objs.size)
  (hkf:env.scope.kind=.function) (Kl:env.globals=mainGlobals) (hbl:env.builtins=builtinsNs) (hcode:env.code=c.code/\env.qual=c.qual)
  (Rt:∀y,(env.kindOf y=some .cell∨env.kindOf y=some .free)->∃cl,env.cells.lookup y=some cl)
  (hl:∀y a,fW y l=some a->KL (env.kindOf (nm y))->∃v,VM c F v a/\((env.kindOf (nm y)=some .local/\m (nm y)=some v)∨(env.kindOf (nm y)=some .cell/\cm (nm y)=some v))):
  XF s F (lH F env cm s₁.heap)/\Inv c (lH F env cm s₁.heap) g s₁/\ax nm c env (lH F env cm s₁.heap) ⟨l,none⟩ s₁/\(∀b,s.heap.objs.size<=b->(∀y v,env.cells.lookup y=some b->cm y≠some v)->lH F env cm s₁.heap b=none):=by
 have hi:∀{y b},env.cells.lookup y=some b->s.heap.objs.size<b:=λh=>bY x.toInCall.fresh (x.above _ _ (mem_of_lookup h));have hF:∀{b},s.heap.objs.size<=b->F b=none:=λ{b} hb=>by cases z:F b with|none=>rfl|some o=>exact bc (aN (I.cE _ _ z)) (bO.mpr hb)
 have low:∀b,b<=s.heap.objs.size->lH F env cm s₁.heap b=F b:=λb hb=>by exact bi λ⟨y,v,h,_⟩=>bc (hi h) (bO.mpr hb)
 have ex:Ext F (lH F env cm s₁.heap):=λb o e=>by rw[low b (cb (aN (I.cE _ _ e)))];exact e
 have kp:=x.toInCall.keep;refine⟨⟨ex,λb hb=>low b (cb (bw hb))⟩,⟨λb o e=>?_,λb o e=>ex _ _ (I.base _ _ e),λb hb=>?_,I.d7.mono ex λb z_ o e=>kp _ _ e,I.fJ⟩,?_,λb hb hn=>?_⟩
 ·unfold lH at e
  split at e
  ·exact e
  ·exact kp _ _ (I.cE _ _ e)
 ·refine b0 (I.d7.alive hb) λo e=>?_;rw[low b (cb (aN e))];exact I.apart b hb
 ·have hL:=x.toInCall.fresh;refine⟨hkf,Kl,hbl,hcode,λhb=>?_,?_,aw hbig hL,aB ht tk,Rt,m,x.toInCall.ns,λy a hy hk=>?_,λy l' e=>by exact aI e⟩
  ·refine b0 (I.d7.alive hb) λo e=>bc (aN e) (bO.mpr hL)
  ·unfold lH;rw[bi λ⟨y,v,h,_⟩=>bc (x.above _ _ (mem_of_lookup h)) (eN _)];exact hF hL
  ·refine aH (hl y a hy hk) λv hv h=>⟨v,hv.mono ex,h.imp id λ⟨h1,h2⟩=>?_⟩;refine b0 (Rt (nm y) (.inl h1)) λcl hc=>aH (x.cell _ _ hc) λo ho hd=>⟨.inl h1,cl,o,hc,?_,by rw[hd,h2]⟩;unfold lH;rw[br ⟨_,_,hc,h2⟩];exact ho
 ·unfold lH;rw[bi λ⟨y,v,h,e⟩=>hn y v h e];exact hF hb
end
end
section
open PySem
structure vF where
 id:Nat
 params:List Nat
 dflt:List AV
 body:List PS
 addr:Nat
inductive Tr(α:Type) where
 |au
 |node(v:Option α)(l r:Tr α)
noncomputable def Tr.get:Tr α->Nat->Option α|.au,_=>none|.node v l r,k=>match k with|0=>v|k+1=>match Nat.beq (k%2) 0 with|true=>l.get (k/2)|false=>r.get (k/2)
noncomputable def oM(ps:List Nat)(ds vs:List AV):Option Loc:=match Nat.ble vs.length ps.length&&(Nat.ble ds.length ps.length&&Nat.beq ps.length (vs.length+(ds.drop (ds.length-(ps.length-vs.length))).length))with|true=>some (ps.zip (vs++ds.drop (ds.length-(ps.length-vs.length))))|false=>none
def uw(T:Jc)(fr:vF)(O:By)(vs:List AV)(g:G):Option (AV×G):=match oM fr.params fr.dflt vs with
 |some l=>match bm (ex 5000 (ev T O 60) 30) fr.body ⟨l,none⟩ g with|some (.ret v g')=>some (v,g')|some (.next _ g')=>some (.none,g')|none=>none
 |none=>none
end
section
open PySem PySem.W PyProof.Rows PySem.Calls PySem.Builtin.Str PyProof.V
theorem tE:∀{b:List (Str×Value)} {m:Str->Option Value},y∉b.map (·.1)->bindL k b m y=m y
 |[],m,_=>rfl|(n,v)::b,m,h=>by
  rw[aC,am,not_or]at h;unfold bindL;rw[tE h.2]
  split
  ·exact bi h.1
  ·rfl
theorem ot:∀{b:List (Str×Value)} {m:Str->Option Value},y∉b.map (·.1)->bindC k b m y=m y
 |[],m,_=>rfl|(n,v)::b,m,h=>by
  rw[aC,am,not_or]at h;unfold bindC;rw[ot h.2]
  split
  ·rfl
  ·exact bi h.1
theorem tF(hk:k y=some .local):∀{b:List (Str×Value)} {m:Str->Option Value},(b.map (·.1)).Nodup->(y,v)∈b->bindL k b m y=some v
 |[],m,_,h=>by cases h|(n,w)::b,m,hnd,h=>by
  rw[aC,cn]at hnd;unfold bindL;refine Or.elim (am.mp h) (λe=>?_) λh=>?_
  ·cases e;rw[tE hnd.1,br hk,br rfl]
  ·exact tF hk hnd.2 h
theorem tG(hk:k y=some .cell):∀{b:List (Str×Value)} {m:Str->Option Value},(b.map (·.1)).Nodup->(y,v)∈b->bindC k b m y=some v
 |[],m,_,h=>by cases h|(n,w)::b,m,hnd,h=>by
  rw[aC,cn]at hnd;unfold bindC;refine Or.elim (am.mp h) (λe=>?_) λh=>?_
  ·cases e;rw[ot hnd.1,bi (by rw[hk];simp),br rfl]
  ·exact tG hk hnd.2 h
theorem cellsFrom_some:∀(names:List (Str×NameKind)) (n:Nat) (acc:List (Str×Addr)),(y,NameKind.cell)∈names∨(∃c,acc.lookup y=some c)->∃c,(cellsFrom n names acc).lookup y=some c
 |[],n,acc,h=>by
  refine Or.elim h (λh=>?_) λh=>?_
  ·cases h
  ·exact h
 |(x,k)::r,n,acc,h=>by
  unfold cellsFrom
  split
  ·rename_i hk;refine cellsFrom_some r _ _ ?_;refine Or.elim h (λh=>?_) λoz=>?_;rotate_left;(refine b0 oz λc h=>?_);rotate_right
   ·refine Or.elim (am.mp h) (λe=>?_) λh=>?_
    ·cases e;exact .inr ⟨n,by rw[aQ];simp⟩
    ·exact .inl h
   ·by_cases q:y=x
    ·exact .inr ⟨n,by rw[aQ,df.mpr q]⟩
    ·exact .inr ⟨c,by rw[aQ,b8.mpr q];exact h⟩
  ·rename_i hk;refine cellsFrom_some r _ _<|Or.elim h (λh=>?_) λh=>?_
   ·refine Or.elim (am.mp h) (λe=>?_) λh=>?_
    ·cases e;exact bc rfl hk
    ·exact .inl h
   ·exact .inr h
structure wb(c:Ctx)(nm:Nat->Str)(fr:vF)(o:Obj)(fd:FuncData)(as:List Arg)(kd:List (Option Expr))(BU:List Expr)(dv:List Value):Prop where
 ob:c.base.get? fr.addr=some o
 dat:o.data=.func fd
 par:fd.params=⟨[],as,none,[],kd,none,BU⟩
 nms:as.map (·.arg)=fr.params.map nm
 fJ:(fr.params.map nm).Nodup
 fk:fd.scope.kind=.function
 co:fd.scope.isCoroutine=false
 ge:fd.scope.isGenerator=false
 clo:fd.closure=[]
 dD:fd.globals=mainGlobals
 blt:fd.builtins=builtinsNs
 Jo:c.base.CodeRec fd.code fd.qualname
 R5:(fd.defaults=.none/\dv=[])∨∃T oT n,fd.defaults=.ref T/\c.base.get? T=some oT/\oT.data=.seq dv.toArray n
 dle:dv.length<=fr.params.length
 R6:∀F,dh c F dv fr.dflt
 knd:∀p∈fr.params,fd.scope.names.lookup (nm p)=some .local∨fd.scope.names.lookup (nm p)=some .cell
 nof:∀y,fd.scope.names.lookup y≠some .free
 K0:fd.code=c.code/\fd.qualname++".<locals>."=c.qual
 MW:c.base.NoLimit
theorem kH:∀{l:Loc},fW y l=some a->(y,a)∈l|[],h=>by exact aI h|p::r,h=>by rw[AQ]at h;cases q:Nat.beq p.1 y with|true=>rw[q]at h;refine bD h λx=>?_;subst x;rw[←c0.mp q];exact .head _|false=>rw[q]at h;exact .tail _ (kH h)
theorem pU:∀{ps:List Nat} {vs:List Value} {as:List AV},dh c F vs as->(y,a)∈ps.zip as->∃v,VM c F v a/\(nm y,v)∈(ps.map nm).zip vs
 |[],vs,as,_,h=>by simp at h|p::ps,[],[],_,h=>by simp at h|p::ps,[],_::_,hh,h=>hh.MU|p::ps,_::_,[],hh,h=>hh.MV|p::ps,v::vs,b::as,hh,h=>by
  refine aG hh.un λhv hs=>?_;refine Or.elim (am.mp h) (λe=>?_) λh=>?_
  ·(clear hh;cases e);exact⟨v,hv,.head _⟩
  ·obtain⟨w,h1,h2⟩:=pU hs h;exact⟨w,h1,.tail _ h2⟩
theorem v5(h:oM ps ds vs=some l):vs.length<=ps.length/\ds.length<=ps.length/\ps.length<=vs.length+ds.length/\l=ps.zip (vs++ds.drop (ds.length-(ps.length-vs.length))):=by
 unfold oM at h
 split at h
 ·rename_i q;refine bD h λx=>?_;subst x;simp only[aV]at q;refine dy q λq1 q2 q3=>?_;have q1:=aa q1;have q2:=aa q2;have q3:=aj q3;rw[cD]at q3;exact⟨q1,q2,by exact U4 q3,rfl⟩
 ·exact aI h
section
variable{S:Sys}{A:Around}{E:Value->Shared->Prop}{s:Shared}{F:cF}{g g':G}{fr:vF}{o:Obj}{fd:FuncData}{as:List Arg}{kd:List (Option Expr)}{BU:List Expr}{dv:List Value}
set_option backward.match.sparseCases true in
theorem rD(FI:wb S.c S.nm fr o fd as kd BU dv)(hb:fd.body=.stmts sts)(hl:oM fr.params fr.dflt fb=some l)(hd:A.depth<recursionLimit)
  (I:Inv S.c F g s) (tk:0<s.toks) (big:S.c.base.objs.size<=s.heap.objs.size) (hv:dh S.c F ba fb)
  (h:∀(env:Env) (s₁:Shared) (F₁:cF),(∀x,env.kindOf x=fd.scope.names.lookup x)->XF s F F₁->Inv S.c F₁ g s₁->ax S.nm S.c env F₁ ⟨l,none⟩ s₁->s.heap.objs.size<=env.locals->(∀b o,s.heap.get? b=some o->s₁.heap.get? b=some o)->s₁.gens=s.gens->s₁.os=s.os->
   (∀y cl,env.cells.lookup y=some cl->y∉fr.params.map S.nm->F₁ cl=none/\s₁.heap.IsCell cl none/\env.locals<cl)->
   wpAny S.c.M (A.deeper env) (execs sts env) (λfl s'=>R (.ok (.ret (match fl with|.ret v=>v|_=>.none))) s')
    (λe s'=>wpAny S.c.M (A.deeper env) (leaving env e) (λz_ s''=>R (.error e) s'') (λe' s''=>R (.error e') s'') s') s₁):
  codeAny S.c.M A (.call (.ref fr.addr) ⟨ba,[]⟩) R s:=by
 refine vZ (v5 hl) λh1 h2 h3 sy=>?_;subst sy;have hkeep:∀b o,S.c.base.get? b=some o->s.heap.get? b=some o:=λb o e=>I.cE _ _ (I.base _ _ e);have lv:=hv.length;have ld:=(FI.R6 F).length;have lp:(fr.params.map S.nm).length=fr.params.length:=bg ..;refine(codeAny_call_function hd (hkeep _ _ FI.ob) FI.dat FI.co FI.ge hb (by
  refine uH FI.Jo λcc oc vs tq e1 e2 e3 e4=>⟨cc,oc,vs,tq,e1,hkeep _ _ e2,e3,e4⟩) ?_)
 refine rN (D:=dv) FI.par FI.nms FI.fJ (by rw[lp];exact U5 h1 lv lp) (by rw[lp];exact FI.dle) (by rw[lp];exact U6 h3 lv ld lp) ?_ ?_
 ·refine Or.elim FI.R5 (λoz=>?_) λoz=>?_;(refine aG oz λe1 e2=>?_);rotate_left;(refine GI oz λT oT n e1 e2 e3=>?_);rotate_right
  ·rw[e1,e2];exact aP ⟨rfl,rfl⟩
  ·rw[e1];exact wpAny_seqItems (hkeep _ _ e2) e3 ⟨by simp,rfl⟩
 ·rw[lp];have evs:dh S.c F (ba++dv.drop (dv.length-(fr.params.length-ba.length))) (fb++fr.dflt.drop (fr.dflt.length-(fr.params.length-fb.length))):=by rw[lv,ld];exact hv.append ((FI.R6 F).drop _)
  have MZ:(((fr.params.map S.nm).zip (ba++dv.drop (dv.length-(fr.params.length-ba.length)))).map (·.1)).Nodup:=by rw[List.map_fst_zip (by rw[evs.length,lp,ae,cD];exact Qv h1 h3 lv ld lp)];exact FI.fJ
  have cellOf:∀n y,fd.scope.names.lookup y=some .cell->∃cl,(cellsFrom n fd.scope.names []).lookup y=some cl:=λn y hy=>cellsFrom_some _ _ _ (.inl (mem_of_lookup hy));rw[FI.clo];refine bA (n:=s.toks) (aD _) (wpAny_newFunctionEnv_cells FI.fk (λx hx=>?_) λenv he s₁ x htk=>?_)
  ·have hm:=(List.of_mem_zip (a:=x.1) (b:=x.2) hx).1;refine aH (cI.mp hm) λp hp e=>?_;rw[←e];refine Or.elim (FI.knd p hp) (λq=>?_) λq=>?_
   ·exact .inl q
   ·refine b0 (cellOf (s.heap.objs.size+1) _ q) λcl e2=>?_;exact .inr ⟨q,by rw[e2];rfl⟩
  ·have hkind:∀x,env.kindOf x=fd.scope.names.lookup x:=λx=>by rw[he];rfl
   have hloc:env.locals=s.heap.objs.size:=by rw[he];rfl
   have hcells:env.cells=cellsFrom (s.heap.objs.size+1) fd.scope.names []:=by rw[he];rfl
   refine⟨(FI.MW.keeps hkeep).keeps x.toInCall.keep,codeAny_func ?_⟩
   refine vZ (Ij (nm:=S.nm) (l:=fr.params.zip (fb++fr.dflt.drop (fr.dflt.length-(fr.params.length-fb.length)))) I x htk tk big (by rw[he];exact FI.fk) (by rw[he];exact FI.dD) (by rw[he];exact FI.blt)
    (by rw[he];exact FI.K0) (λy hy=>by
     rw[hkind]at hy;rcases hy with hy|hy
     ·rw[hcells];exact cellOf _ y hy
     ·exact bc hy (FI.nof y)) (λy a hy hk=>by
     obtain⟨v,h5,h6⟩:=pU (nm:=S.nm) evs (kH hy);refine⟨v,h5,?_⟩;rcases hk with hk|hk|hk
     ·exact .inl ⟨hk,tF hk MZ h6⟩
     ·exact .inr ⟨hk,tG hk MZ h6⟩
     ·rw[hkind]at hk;exact bc hk (FI.nof _))) λX I₁ f₁ hn=>?_
   refine bU x.done λh₁ tk₁ e1 e2=>?_;refine aM (h env s₁ _ hkind X I₁ f₁ (by rw[hloc];exact aD _) x.toInCall.keep (by rw[e1]) (by rw[e1]) λy cl hy XX=>?_) (λfl s' q=>q) λz_ z_ q=>q;have hcm:bindC env.kindOf ((fr.params.map S.nm).zip (ba++dv.drop (dv.length-(fr.params.length-ba.length)))) (λz_=>none) y=none:=by refine ot λq=>XX ?_;rw[List.map_fst_zip (by rw[evs.length,lp,ae,cD];exact Qv h1 h3 lv ld lp)]at q;exact q
   have hlt:=x.above _ _ (mem_of_lookup hy);refine⟨hn cl (cb (hloc▸hlt)) λy' v h5 h6=>?_,by have:=x.cell _ _ hy;rw[hcm]at this;exact this,hlt⟩;have:=name_of_addr x.apart (mem_of_lookup h5) (mem_of_lookup hy);(clear hy XX;subst this);rw[hcm]at h6;exact aI h6
set_option backward.match.sparseCases true in
theorem ms{sts}(FI:wb S.c S.nm fr o fd as kd BU dv)(hb:fd.body=.stmts sts){fb}{l}(hl:oM fr.params fr.dflt fb=some l)(hd:A.depth<recursionLimit)
  (I:Inv S.c F g s) (tk:0<s.toks) (big:S.c.base.objs.size<=s.heap.objs.size) {ba} (hv:dh S.c F ba fb) {Q:Value->Shared->Prop}
  (h:∀(env:Env) (s₁:Shared) (F₁:cF),(∀x,env.kindOf x=fd.scope.names.lookup x)->XF s F F₁->Inv S.c F₁ g s₁->ax S.nm S.c env F₁ ⟨l,none⟩ s₁->s.heap.objs.size<=env.locals->(∀b o,s.heap.get? b=some o->s₁.heap.get? b=some o)->s₁.gens=s.gens->s₁.os=s.os->
   (∀y cl,env.cells.lookup y=some cl->y∉fr.params.map S.nm->F₁ cl=none/\s₁.heap.IsCell cl none/\env.locals<cl)->
   wpAny S.c.M (A.deeper env) (execs sts env) (λfl s'=>Q (match fl with|.ret v=>v|_=>.none) s')
    (λe s'=>wpAny S.c.M (A.deeper env) (leaving env e) (λz_ s''=>E e s'') (λe' s''=>E e' s'') s') s₁):
  wpAny S.c.M A (call (.ref fr.addr) ba) Q E s:=wpAny_call (rD FI hb hl hd I tk big hv h)
theorem wW{env:Env}(X:XF s F F₁)(hL:s.heap.objs.size<=env.locals)(hk:∀b o,s.heap.get? b=some o->s₁.heap.get? b=some o)(hg:s₁.gens=s.gens)(ho:s₁.os=s.os)
 (Y:gw S.c env.locals none nY s₁ s' F₁ F') (hv:VM S.c F' v a) (I':Inv S.c F' g' s'):gm S.c F s g' a v s':=by
 have al:∀b,(s.heap.get? b).isSome=true->(s₁.heap.get? b).isSome=true:=λb hb=>by refine b0 (bu hb) λo e=>?_;rw[hk _ _ e];rfl
 have ne:∀b,(s.heap.get? b).isSome=true->b≠env.locals:=λb hb e=>bc (bw hb) (bO.mpr (e▸hL));refine⟨F',⟨X.ext.trans Y.ext,λb hb=>(Y.low b (al b hb) (by simp)).trans (X.low b hb)⟩,hv,I',λL U7 U8=>⟨λb o h1 z_ e=>Y.keep b o h1 (ne b (by rw[e];rfl)) (by simp) (hk _ _ e),λm x=>?_,λb hb=>Y.alive b (al b hb),Y.gens.trans hg,Y.os.trans ho⟩⟩;exact x.at' λo e=>Y.keep _ o U7 (ne L U8) (by simp) (hk _ _ e)
set_option tactic.hygienic true in
theorem Mf(ok:cQ S)(rg:mj S)(lx:∀{x e op},S.mi x e->behindInMarks op e=false)(FI:wb S.c S.nm fr o fd as kd BU dv)(hb:fd.body=.stmts sts)(hrs:s9 S (λx=>fd.scope.names.lookup x) fr.body sts)
  (h:uw S.T fr S.O fb g=some (r,g')) (hA:∀env,S.cP (A.deeper env)) (hd:A.depth<recursionLimit) (I:Inv S.c F g s) (tk:0<s.toks) (big:S.c.base.objs.size<=s.heap.objs.size) (hv:dh S.c F ba fb):
  wpAny S.c.M A (call (.ref fr.addr) ba) (gm S.c F s g' r) E s:=by
 unfold uw at h
 split at h
 ·rename_i l hl;refine ms FI hb hl hd I tk big hv λenv s₁ F₁ hk X I₁ f₁ hL hkp hg ho z_=>?_;have H:∀{out E'},bm (ex 5000 (ev S.T S.O 60) 30) fr.body ⟨l,none⟩ g=some out->wpAny S.c.M (A.deeper env) (execs sts env) (cO S env s₁ F₁ none out) E' s₁:=λe=>yP ok rg (λn=>oH ok rg lx n) hrs hk (hA env) e I₁ f₁ rfl
  split at h
  ·rename_i v g1 e;refine fS h λx y=>?_;subst x y;refine aM (H e) (λfl s' p=>?_) λz_ z_ x=>x;obtain⟨v',rfl,F',Y,V,I'⟩:=p;exact wW X hL hkp hg ho Y V I'
  ·rename_i σ' g1 e;refine fS h λx y=>?_;subst x y;refine aM (H e) (λfl s' p=>?_) λz_ z_ x=>x;obtain⟨rfl,F',nY,Y,I',f',ho'⟩:=p;exact wW X hL hkp hg ho Y .none I'
  ·exact aI h
 ·exact aI h
end
end
section
open PySem
section
open PE PS
noncomputable def te:List PS:=[cu (.cmp .Lt (ah 21) (aq 0)) [.ret (aT [.bin .Mult (ah 20) (.bin .Pow (aq 10) (.neg (ah 21))),aq 0])] [],dk (dF [.cmp .Gt (ah 21) (aq 0),.cmp .Eq (.bin .Mod (ah 20) (aq 10)) (aq 0)]) [ca 20 (.bin .FloorDiv (ah 20) (aq 10)),ca 21 (.bin .Sub (ah 21) (aq 1))],.ret (aT [ah 20,ah 21])]
noncomputable def tf:List PS:=[.ret (aT [.neg (.sub (ah 22) (aq 0)),.sub (ah 22) (aq 1)])]
noncomputable def qO:List PS:=[ca 24 (aq 0),ff [25] false 0 [ah 23] [ca 24 (.bin .Add (.bin .Mult (ah 24) (aq 10)) (aY (dD 0) 16 [ah 25]))],.ret (ah 24)]
noncomputable def jN:List PS:=[ca 27 (.ite (.cmp .In (fU (ah 26) (aq 1)) (aT [ak [43],ak [45]])) (aq 1) (aq 0)),hY [28,29] (aT [.eC (ah 26) (ah 27),ak []]),cu (.cmp .In (ak [46]) (ah 28)) [ca 30 (aY (ah 28) 16 [ak [46]]),hY [28,29] (aT [fU (ah 28) (ah 30),.eC (ah 28) (.bin .Add (ah 30) (aq 1))]),cu (.cmp .Eq (ah 29) (ak [])) [cw] []] [],cu (.cmp .Eq (.bin .Add (ah 28) (ah 29)) (ak [])) [cw] [],ff [2] false 2 [ah 27,ai 2 [ah 26]] [cu (dF [.cmp .NotIn (.sub (ah 26) (ah 2)) (dD 0),.cmp .NotEq (ah 2) (.bin .Add (ah 27) (ai 2 [ah 28]))]) [cw] []],ca 20 (ai 3 [.bin .Add (ah 28) (ah 29)]),.ret (ai 4 [.ite (.cmp .Eq (fU (ah 26) (aq 1)) (ak [45])) (.neg (ah 20)) (ah 20),ai 2 [ah 29]])]
noncomputable def jm:List PS:=[ca 23 (ai 6 [ai 5 [.sub (ah 22) (aq 0)]]),cu (.cmp .Gt (.sub (ah 22) (aq 1)) (aq 0)) [ca 23 (.bin .Add (.bin .Mult (ak [48]) (.bin .Sub (.bin .Add (.sub (ah 22) (aq 1)) (aq 1)) (ai 2 [ah 23]))) (ah 23)),ca 23 (.bin .Add (.bin .Add (fU (ah 23) (.bin .Sub (ai 2 [ah 23]) (.sub (ah 22) (aq 1)))) (ak [46])) (.eC (ah 23) (.bin .Sub (ai 2 [ah 23]) (.sub (ah 22) (aq 1)))))] [],.ret (.ite (.cmp .Lt (.sub (ah 22) (aq 0)) (aq 0)) (.bin .Add (ak [45]) (ah 23)) (ah 23))]
noncomputable def wo:List PS:=[.ret (.bin .Add (.bin .Add (ak [34]) (dS (ah 26) 34 [34,34])) (ak [34]))]
noncomputable def jO:List PS:=[hY [7,28] (aT [aq 0,aq 0]),dk (lM [.cmp .Gt (ah 7) (aq 0),dF [.cmp .Eq (ah 28) (aq 0),aY (ah 5) 31 [ak [40]]]]) [cu (.cmp .Is (aY (ah 5) 32 [ah 28]) ck) [.ret (.cBool false)] [],cu (aY (ah 5) 31 [ak [40],ah 28]) [ca 7 (.bin .Add (ah 7) (aq 1))] [cu (aY (ah 5) 31 [ak [41],ah 28]) [ca 7 (.bin .Sub (ah 7) (aq 1))] [cu (dF [.cmp .Eq (ah 7) (aq 1),aY (ah 5) 31 [ak [58],ah 28]]) [.ret (.cBool true)] []]],ca 28 (.bin .Add (ah 28) (aq 1))],.ret (.cBool false)]
noncomputable def iw:List PS:=[.expr (aY (ah 5) 34 [ak [40]]),.own 35 [dM 33 [ah 5]],dk (dE (aY (ah 5) 36 [ak [41]])) [cu (.cmp .GtE (ek 35) (dD 7)) [cw] [],.app 35 (dM 33 [ah 5])],.freeze 35,.ret (ai 8 [ah 35])]
noncomputable def oN:List PS:=[.expr (aY (ah 5) 34 [ak [40]]),ca 27 (dM 33 [ah 5]),.expr (aY (ah 5) 34 [ak [58]]),ca 37 (.ite (aY (ah 5) 31 [ak [41]]) ck (dM 33 [ah 5])),.expr (aY (ah 5) 34 [ak [41]]),.ret (aT [ah 27,ah 37])]
noncomputable def qP:List PS:=[ca 38 (aY (ah 5) 38 []),.own 39 [],dk (.cmp .NotEq (aY (ah 5) 40 [ak [79,70,32,73,78]]) (ak [])) [.app 39 (aY (ah 5) 38 [])],ca 41 (aT []),cu (dF [aY (ah 5) 31 [ak [40]],dE (ai 9 [ah 5])]) [ca 41 (ai 10 [ah 5,ah 33])] [],ca 42 (.ite (ai 9 [ah 5]) (ai 11 [ah 5,ah 33]) ck),.freeze 39,.ret (aT [ak [114,101,102],ah 38,ai 8 [ah 39],ah 41,ah 42])]
noncomputable def k8:List PS:=[cu (lM [dE (aY (ah 5) 43 [ak [119,111,114,100]]),.cmp .NotIn (.attr (aY (ah 5) 32 []) 1) (dD 12)]) [.ret ck] [],.ret (aT [ak [102,105,103,117,114,101],.sub (dD 12) (.attr (aY (ah 5) 44 []) 1)])]
noncomputable def jP:List PS:=[cu (aY (ah 5) 45 []) [.ret (aT [ak [110,117,109,98,101,114],aY (ah 5) 46 []])] [],cu (aY (ah 5) 43 [ak [108,105,116,101,114,97,108]]) [.ret (aT [ak [116,101,120,116],aY (ah 5) 47 []])] [],cu (aY (ah 5) 48 [ak [65,76,76]]) [cw] [],ca 25 (ai 13 [ah 5]),.ret (.ite (.cmp .Is (ah 25) ck) (ai 14 [ah 5,ah 33]) (ah 25))]
noncomputable def jQ:List PS:=[.ret (ai 16 [aY (ak []) 10 [.comp (ai 15 [ah 49]) [49] false 0 [ah 47] []]])]
noncomputable def hZ:List PS:=[ca 51 (.comp (dM 50 [ah 52]) [52] false 0 [ah 41] []),cu (.cmp .NotEq (.comp (ah 26) [26] false 0 [.eC (ah 51) (aq 1)] [.cmp .In (.sub (ah 26) (aq 0)) (ak [40,43,45])]) (.lst [])) [ca 51 (.comp (.bin .Add (.bin .Add (ak [40]) (ah 26)) (ak [41])) [26] false 0 [ah 51] [])] [],.ret (.bin .Add (.bin .Add (ak [32,40]) (aY (ak [32]) 10 [ah 51])) (ak [41]))]
noncomputable def qQ:List PS:=[ca 35 (aY (ak [32,79,70,32]) 10 [.bin .Add (.lst [.sub (ah 53) (aq 1)]) (ai 17 [.sub (ah 53) (aq 2)])]),cu (.cmp .NotEq (.sub (ah 53) (aq 3)) (aT [])) [ca 35 (.bin .Add (ah 35) (ai 18 [.sub (ah 53) (aq 3),ah 50]))] [],cu (.cmp .IsNot (.sub (ah 53) (aq 4)) ck) [ca 37 (.ite (.cmp .Is (.sub (.sub (ah 53) (aq 4)) (aq 1)) ck) (ak []) (.bin .Add (ak [32]) (dM 50 [.sub (.sub (ah 53) (aq 4)) (aq 1)]))),ca 35 (.bin .Add (.bin .Add (.bin .Add (.bin .Add (.bin .Add (ah 35) (ak [32,40])) (dM 50 [.sub (.sub (ah 53) (aq 4)) (aq 0)])) (ak [32,58])) (ah 37)) (ak [41]))] [],.ret (ah 35)]
noncomputable def jR:List PS:=[cu (.cmp .Eq (.sub (ah 54) (aq 0)) (ak [114,101,102])) [.ret (ai 19 [ah 54,ah 50])] [],cu (.cmp .Eq (.sub (ah 54) (aq 0)) (ak [110,117,109,98,101,114])) [.ret (ai 20 [.sub (ah 54) (aq 1)])] [],cu (.cmp .Eq (.sub (ah 54) (aq 0)) (ak [102,105,103,117,114,101])) [.ret (.sub (dD 21) (.sub (ah 54) (aq 1)))] [],.ret (.bin .Add (.ite (.cmp .Eq (.sub (ah 54) (aq 0)) (ak [97,108,108])) (ak [65,76,76,32]) (ak [])) (ai 22 [.sub (ah 54) (aq 1)]))]
noncomputable def ix:List PS:=[.ret (ai 23 [ah 5,aq 0])]
noncomputable def mK:List PS:=[ca 56 (aY (ah 5) 32 []),cu (lM [.cmp .Is (ah 56) ck,.cmp .NotEq (.attr (ah 56) 0) (ak [115,105,103,110]),.cmp .NotIn (.attr (ah 56) 1) (ah 55)]) [.ret (ak [])] [],.ret (.attr (ah 56) 1)]
noncomputable def qR:List PS:=[cu (.cmp .Gt (ah 7) (dD 24)) [cw] [],ca 35 (ai 25 [ah 5,ah 7]),dk (.cmp .NotEq (ai 26 [ah 5,aT [ak [43],ak [45]]]) (ak [])) [ca 57 (.attr (aY (ah 5) 44 []) 1),ca 35 (aT [ah 57,ah 35,ai 25 [ah 5,ah 7]])],.ret (ah 35)]
noncomputable def jS:List PS:=[ca 35 (ai 27 [ah 5,ah 7]),dk (.cmp .NotEq (ai 26 [ah 5,aT [ak [42],ak [47]]]) (ak [])) [ca 57 (.attr (aY (ah 5) 44 []) 1),ca 35 (aT [ah 57,ah 35,ai 27 [ah 5,ah 7]])],.ret (ah 35)]
noncomputable def lf:List PS:=[ca 57 (ai 26 [ah 5,aT [ak [43],ak [45]]]),cu (.cmp .Eq (ah 57) (ak [])) [.ret (ai 28 [ah 5,ah 7])] [],.expr (aY (ah 5) 44 []),ca 58 (dF [.cmp .Eq (ah 57) (ak [45]),ai 29 [ah 5]]),ca 35 (ai 28 [ah 5,ah 7]),cu (ah 58) [.ret (aT [ak [110,117,109,98,101,114],ai 30 [.sub (ah 35) (aq 1)]])] [],.ret (.ite (.cmp .Eq (ah 57) (ak [45])) (aT [ak [110,101,103],ah 35]) (ah 35))]
noncomputable def iT:List PS:=[hY [56,29] (aT [aY (ah 5) 32 [],aY (ah 5) 32 [aq 1]]),cu (lM [.cmp .Is (ah 56) ck,.cmp .NotEq (.attr (ah 56) 0) (ak [110,117,109,98,101,114])]) [.ret (.cBool false)] [],.ret (lM [.cmp .Is (ah 29) ck,.cmp .NotEq (.attr (ah 29) 0) (ak [115,105,103,110]),.cmp .NotEq (.attr (ah 29) 1) (ak [42,42])])]
noncomputable def mL:List PS:=[ca 35 (ai 31 [ah 5,ah 7]),dk (.cmp .NotEq (ai 26 [ah 5,aT [ak [42,42]]]) (ak [])) [.expr (aY (ah 5) 44 []),ca 35 (aT [ak [42,42],ah 35,ai 31 [ah 5,ah 7]])],.ret (ah 35)]
noncomputable def jT:List PS:=[cu (.cmp .NotEq (ai 26 [ah 5,aT [ak [43],ak [45]]]) (ak [])) [cw] [],cu (dE (aY (ah 5) 36 [ak [40]])) [.ret (ai 32 [ah 5,.lamD 7])] [],ca 35 (ai 23 [ah 5,.bin .Add (ah 7) (aq 1)]),.expr (aY (ah 5) 34 [ak [41]]),.ret (ah 35)]
noncomputable def iy:List PS:=[.own 59 [],ca 60 (ah 52),dk (dF [.cmp .In (.sub (ah 60) (aq 0)) (dD 33),.cmp .GtE (ai 34 [.sub (ah 60) (aq 1)]) (.sub (dD 33) (.sub (ah 60) (aq 0)))]) [cw,ca 60 (.sub (ah 60) (aq 1))],cu (.cmp .In (.sub (ah 60) (aq 0)) (dD 33)) [cw] [cu (.cmp .Eq (.sub (ah 60) (aq 0)) (ak [110,101,103])) [cw] [.app 59 (ai 36 [ah 60,dD 35])]],.freeze 59,.ret (.joinR (ak []) (ah 59))]
noncomputable def oO:List PS:=[ca 56 (aY (ah 5) 32 [ah 28]),.ret (.ite (dF [.cmp .IsNot (ah 56) ck,.cmp .Eq (.attr (ah 56) 0) (ak [119,111,114,100])]) (.attr (ah 56) 1) (ak []))]
noncomputable def iU:List PS:=[ca 56 (aY (ah 5) 32 [ah 28]),cu (dF [.cmp .IsNot (ah 56) ck,.cmp .Eq (.attr (ah 56) 0) (ak [115,105,103,110]),.cmp .In (.attr (ah 56) 1) (dD 38)]) [.ret (.cBool true)] [],.ret (.cmp .In (ai 39 [ah 5,ah 28]) (dD 40))]
noncomputable def jn:List PS:=[ca 28 (.ite (.cmp .Eq (ai 39 [ah 5]) (ak [73,83])) (aq 1) (aq 0)),.ret (.ite (.cmp .Eq (ai 39 [ah 5,ah 28]) (ak [78,79,84])) (.bin .Add (ah 28) (aq 1)) (ah 28))]
noncomputable def gH:List PS:=[ca 28 (ai 41 [ah 5]),ca 61 (ai 39 [ah 5,ah 28]),.ret (lM [ai 42 [ah 5,ah 28],.cmp .In (ah 61) (dD 43),.cmp .In (ah 61) (dD 44)])]
noncomputable def fG:List PS:=[.ret (ai 42 [ah 5,ai 41 [ah 5]])]
noncomputable def jo:List PS:=[ca 57 (.ite (.cmp .Eq (.sub (ah 62) (aq 1)) (ak [60,62])) (ak [78,79,84,32,61]) (.sub (ah 62) (aq 1))),.ret (.bin .Add (.bin .Add (.bin .Add (.bin .Add (ai 35 [.sub (ah 62) (aq 2)]) (ak [32])) (ah 57)) (ak [32])) (ai 35 [.sub (ah 62) (aq 3)]))]
noncomputable def lg:List PS:=[.ret (aY (iI [([111,114],.int 1),([97,110,100],.int 2),([110,111,116],.int 3)]) 17 [.sub (ah 62) (aq 0),aq 4])]
noncomputable def qS:List PS:=[ca 26 (ai 45 [ah 62]),.ret (.ite (.cmp .Lt (ai 46 [ah 62]) (ah 63)) (.bin .Add (.bin .Add (ak [40]) (ah 26)) (ak [41])) (ah 26))]
noncomputable def lh:List PS:=[cu (.cmp .Eq (.sub (ah 62) (aq 0)) (ak [114,101,108])) [.ret (ai 47 [ah 62])] [],cu (.cmp .Eq (.sub (ah 62) (aq 0)) (ak [110,97,109,101,100])) [.ret (ai 35 [.sub (ah 62) (aq 1)])] [],.ret (.bin .Add (.bin .Add (ai 35 [.sub (ah 62) (aq 2)]) (ak [32,73,83,32])) (.sub (ah 62) (aq 1)))]
noncomputable def iV:List PS:=[.own 59 [],ca 60 (ah 62),dk (dF [.cmp .In (.sub (ah 60) (aq 0)) (aT [ak [111,114],ak [97,110,100]]),.cmp .GtE (ai 46 [.sub (ah 60) (aq 1)]) (ai 46 [ah 60])]) [.app 59 (.bin .Add (.bin .Add (.bin .Add (ak [32]) (aY (.sub (ah 60) (aq 0)) 15 [])) (ak [32])) (ai 48 [.sub (ah 60) (aq 2),.bin .Add (ai 46 [ah 60]) (aq 1)])),ca 60 (.sub (ah 60) (aq 1))],cu (.cmp .Eq (.sub (ah 60) (aq 0)) (ak [97,110,100])) [.app 59 (.bin .Add (.bin .Add (.bin .Add (ak [40]) (ai 45 [.sub (ah 60) (aq 1)])) (ak [41,32,65,78,68,32])) (ai 48 [.sub (ah 60) (aq 2),aq 3]))] [cu (.cmp .Eq (.sub (ah 60) (aq 0)) (ak [110,111,116])) [.app 59 (.bin .Add (ak [78,79,84,32]) (ai 48 [.sub (ah 60) (aq 1),aq 4]))] [.app 59 (ai 49 [ah 60])]],.freeze 59,.ret (.joinR (ak []) (ah 59))]
noncomputable def jU:List PS:=[.ret (ai 36 [ah 54,dD 35])]
noncomputable def qU:List PS:=[.ret (ai 19 [ah 53,dD 35])]
noncomputable def wp:List PS:=[.ret (aY (ak [32]) 10 [.comp (ah 42) [42] false 0 [ah 64] [.cmp .NotEq (ah 42) (ak [])]])]
noncomputable def wq:List PS:=[.ret (.ite (.cmp .Eq (ah 26) (ak [])) (ak []) (.bin .Add (.bin .Add (ah 61) (ak [32])) (ah 26)))]
noncomputable def oP:List PS:=[cu (.cmp .Eq (ai 2 [ah 65]) (aq 0)) [cw] [],.ret (ai 50 [.comp (dM 66 [ah 67]) [67] false 0 [ah 65] []])]
noncomputable def lj:List PS:=[cu (.cmp .Eq (fU (ah 68) (aq 4)) (ak [110,111,116,32])) [.ret (.bin .Add (ak [78,79,84,32]) (.sub (dD 51) (.eC (ah 68) (aq 4))))] [],.ret (.sub (dD 51) (ah 68))]
noncomputable def jp:List PS:=[.ret (ai 50 [.comp (.bin .Add (.bin .Add (ai 52 [ah 68]) (ak [32])) (ai 53 [ah 65,ah 66])) [68,65] true 0 [ah 69] []])]
noncomputable def oQ:List PS:=[.ret (.ite (.cmp .Eq (.sub (ah 70) (aq 1)) (ak [])) (.sub (ah 70) (aq 0)) (.bin .Add (.bin .Add (.sub (ah 70) (aq 0)) (ak [32,79,70,32])) (.sub (ah 70) (aq 1))))]
noncomputable def mM:List PS:=[.ret (.ite (.cmp .Eq (ah 71) (ah 8)) (ai 54 [ah 71]) (.bin .Add (.bin .Add (ai 54 [ah 71]) (ak [32,84,72,82,85,32])) (ai 54 [ah 8])))]
noncomputable def jV:List PS:=[.own 73 [],ff [53,27,74,62] true 0 [ah 72] [ca 75 (.bin .Add (.bin .Add (.bin .Add (.bin .Add (ai 55 [ah 53]) (ak [32,70,82,79,77,32])) (ai 35 [ah 27])) (ak [32,66,89,32])) (ai 35 [ah 74])),.app 73 (.bin .Add (.bin .Add (ah 75) (ak [32,85,78,84,73,76,32])) (ai 45 [ah 62]))],.freeze 73,.ret (aY (ak [32,65,70,84,69,82,32]) 10 [ah 73])]
noncomputable def oR:List PS:=[cu (.cmp .Eq (.sub (ah 76) (aq 0)) (ak [111,110,99,101])) [.ret (ak [])] [],cu (.cmp .Eq (.sub (ah 76) (aq 0)) (ak [116,105,109,101,115])) [.ret (.bin .Add (ai 56 [.sub (ah 76) (aq 1)]) (ak [32,84,73,77,69,83]))] [],ca 77 (.ite (.sub (ah 76) (aq 1)) (ak [87,73,84,72,32,84,69,83,84,32,65,70,84,69,82]) (ak [87,73,84,72,32,84,69,83,84,32,66,69,70,79,82,69])),cu (.cmp .Eq (.sub (ah 76) (aq 0)) (ak [117,110,116,105,108])) [.ret (.bin .Add (.bin .Add (ah 77) (ak [32,85,78,84,73,76,32])) (ai 45 [.sub (ah 76) (aq 2)]))] [],.ret (.bin .Add (.bin .Add (ah 77) (ak [32,86,65,82,89,73,78,71,32])) (ai 57 [.sub (ah 76) (aq 2)]))]
noncomputable def jW:List PS:=[hY [79,76] (aT [.sub (ah 78) (aq 1),ai 58 [.sub (ah 78) (aq 2)]]),cu (.cmp .Eq (.sub (ah 79) (aq 0)) (ak [114,97,110,103,101])) [.ret (ai 50 [.lst [ak [80,69,82,70,79,82,77],ai 59 [.sub (ah 79) (aq 1),.sub (ah 79) (aq 2)],ah 76]])] [],.ret (ai 50 [.lst [ak [80,69,82,70,79,82,77],ah 76,ai 53 [.sub (ah 79) (aq 1),ah 66],ak [69,78,68,45,80,69,82,70,79,82,77]]])]
noncomputable def oS:List PS:=[hY [61,54,80,69] (ah 78),ca 73 (.comp (.bin .Add (.bin .Add (.bin .Add (ak [66,89,32]) (aY (ah 81) 15 [])) (ak [32])) (ai 56 [ah 67])) [81,67] true 0 [ah 80] []),ca 77 (ai 50 [.lst [ak [67,65,76,76],ai 56 [ah 54],ai 60 [ak [85,83,73,78,71],ai 50 [ah 73]]]]),.ret (ai 50 [.lst [ah 77,ai 61 [ah 69,ah 66],ak [69,78,68,45,67,65,76,76]]])]
noncomputable def jX:List PS:=[ca 61 (.sub (ah 78) (aq 0)),cu (.cmp .Eq (ah 61) (ak [105,102])) [cw] [],cu (.cmp .Eq (ah 61) (ak [101,118,97,108,117,97,116,101])) [cw] [],cu (.cmp .Eq (ah 61) (ak [112,101,114,102,111,114,109])) [.ret (ai 62 [ah 78,ah 66])] [],cu (.cmp .Eq (ah 61) (ak [103,111,116,111])) [.ret (.bin .Add (ak [71,79,32,84,79,32]) (ai 54 [.sub (ah 78) (aq 1)]))] [],cu (.cmp .Eq (ah 61) (ak [103,111,116,111,45,100,101,112])) [.ret (.bin .Add (.bin .Add (.bin .Add (ak [71,79,32,84,79,32]) (ai 50 [.comp (ai 54 [ah 70]) [70] false 0 [.sub (ah 78) (aq 1)] []])) (ak [32,68,69,80,69,78,68,73,78,71,32,79,78,32])) (ai 55 [.sub (ah 78) (aq 2)]))] [],cu (.cmp .Eq (ah 61) (ak [99,97,108,108])) [.ret (ai 63 [ah 78,ah 66])] [],.ret (aY (iI [([99,111,110,116,105,110,117,101],.str [67,79,78,84,73,78,85,69]),([101,120,105,116],.str [69,88,73,84]),([101,120,105,116,45,112,114,111,103,114,97,109],.str [69,88,73,84,32,80,82,79,71,82,65,77]),([115,116,111,112],.str [83,84,79,80,32,82,85,78])]) 17 [ah 61,ak []])]
noncomputable def lm:List PS:=[.ret (.cmp .In (.bin .Add (.bin .Add (ak [32]) (ah 61)) (ak [32])) (dD 64))]
noncomputable def iW:List PS:=[ca 82 (.comp (ai 65 [ah 57]) [57] false 0 [ah 26] []),cu (.comp (ah 24) [24] false 0 [ah 82] [.cmp .Gt (ah 24) (dD 66)]) [.ret ck] [],.ret (ai 67 [ah 82])]
noncomputable def mN:List PS:=[ca 56 (aY (ah 5) 32 [ah 28]),.ret (dF [.cmp .IsNot (ah 56) ck,.cmp .Eq (.attr (ah 56) 0) (ak [119,111,114,100]),.cmp .Eq (.attr (ah 56) 1) (ah 61)])]
noncomputable def jY:List PS:=[cu (.cmp .Eq (ah 68) (ak [115,105,122,101])) [.ret (aT [aT [ak [79,78]],aT [ak [83,73,90,69],ak [69,82,82,79,82]],aT []])] [],cu (.cmp .Eq (ah 68) (ak [111,118,101,114])) [.ret (aT [aT [ak [79,78]],aT [ak [79,86,69,82,70,76,79,87]],aT []])] [],cu (.cmp .Eq (ah 68) (ak [101,110,100])) [.ret (aT [aT [ak [65,84]],aT [ak [69,78,68]],aT []])] [],cu (.cmp .Eq (ah 68) (ak [105,110,118,97,108,105,100])) [.ret (aT [aT [],aT [ak [73,78,86,65,76,73,68]],aT [ak [75,69,89]]])] [],.ret (aT [aT [ak [79,78]],aT [ak [69,88,67,69,80,84,73,79,78]],aT []])]
noncomputable def iX:List PS:=[hY [28,83] (aT [aq 0,ah 68]),cu (aY (ah 68) 13 [ak [110,111,116,32]]) [cu (dE (ai 68 [ah 5,aq 0,ak [78,79,84]])) [.ret (aq 0)] [],hY [28,83] (aT [aq 1,.eC (ah 68) (aq 4)])] [],hY [84,85,86] (ai 69 [ah 83]),ff [61] false 0 [ah 84] [cu (ai 68 [ah 5,ah 28,ah 61]) [ca 28 (.bin .Add (ah 28) (aq 1))] []],cu (dF [.cmp .Eq (ah 68) (ak [102,97,117,108,116]),ai 68 [ah 5,ah 28,ak [79,86,69,82,70,76,79,87]]]) [.ret (.bin .Add (ah 28) (aq 1))] [],ff [61] false 0 [ah 85] [cu (dE (ai 68 [ah 5,ah 28,ah 61])) [.ret (aq 0)] [],ca 28 (.bin .Add (ah 28) (aq 1))],ff [61] false 0 [ah 86] [cu (ai 68 [ah 5,ah 28,ah 61]) [ca 28 (.bin .Add (ah 28) (aq 1))] []],.ret (ah 28)]
noncomputable def oU:List PS:=[ca 88 (dM 87 [ah 5]),cu (.cmp .Eq (ah 88) (aT [])) [cw] [],.ret (ah 88)]
noncomputable def jq:List PS:=[.own 69 [],ff [68] false 0 [ah 89] [ca 37 (ai 70 [ah 5,ah 68]),cu (.cmp .Gt (ah 37) (aq 0)) [ff [90] false 1 [ah 37] [.expr (aY (ah 5) 44 [])],.app 69 (aT [ah 68,ai 71 [ah 5,ah 87]])] []],.freeze 69,.ret (ai 8 [ah 69])]
noncomputable def iY:List PS:=[cu (lM [aY (ah 5) 45 [],aY (ah 5) 43 [ak [108,105,116,101,114,97,108]],aY (ah 5) 91 []]) [.ret (.cBool true)] [],.ret (dF [aY (ah 5) 43 [ak [119,111,114,100]],.cmp .In (.bin .Add (.bin .Add (ak [32]) (.attr (aY (ah 5) 32 []) 1)) (ak [32])) (dD 72)])]
noncomputable def oV:List PS:=[ca 38 (aY (ah 5) 38 []),cu (lM [aY (ah 5) 48 [ak [73,78]],aY (ah 5) 48 [ak [79,70]]]) [.ret (aT [ah 38,aY (ah 5) 38 []])] [],.ret (aT [ah 38,ak []])]
noncomputable def mO:List PS:=[ca 71 (ai 73 [ah 5]),cu (lM [aY (ah 5) 48 [ak [84,72,82,85]],aY (ah 5) 48 [ak [84,72,82,79,85,71,72]]]) [.ret (aT [ah 71,ai 73 [ah 5]])] [],.ret (aT [ah 71,ah 71])]
noncomputable def mP:List PS:=[cu (dE (ai 74 [ah 5])) [.ret ck] [],ca 92 (.attr (ah 5) 2),ca 35 ck,pA [ca 35 (ai 32 [ah 5,dD 75])],cu (aY (ah 5) 48 [ak [84,73,77,69,83]]) [.ret (ah 35)] [],cZ (ah 5) 2 (ah 92),.ret ck]
noncomputable def jZ:List PS:=[ca 53 (ai 14 [ah 5,dD 75]),.expr (aY (ah 5) 93 [ak [70,82,79,77]]),ca 27 (ai 75 [ah 5]),.expr (aY (ah 5) 93 [ak [66,89]]),ca 74 (ai 75 [ah 5]),.expr (aY (ah 5) 93 [ak [85,78,84,73,76]]),.ret (aT [ah 53,ah 27,ah 74,ai 76 [ah 5]])]
noncomputable def oW:List PS:=[ca 94 (.cBool false),cu (lM [aY (ah 5) 95 [ak [87,73,84,72]],aY (ah 5) 95 [ak [84,69,83,84]]]) [.expr (aY (ah 5) 48 [ak [87,73,84,72]]),.expr (aY (ah 5) 93 [ak [84,69,83,84]]),ca 94 (aY (ah 5) 48 [ak [65,70,84,69,82]]),cu (dE (ah 94)) [.expr (aY (ah 5) 93 [ak [66,69,70,79,82,69]])] [],cu (dE (lM [aY (ah 5) 95 [ak [85,78,84,73,76]],aY (ah 5) 95 [ak [86,65,82,89,73,78,71]]])) [cw] []] [],cu (aY (ah 5) 48 [ak [85,78,84,73,76]]) [.ret (aT [ak [117,110,116,105,108],ah 94,ai 76 [ah 5]])] [],cu (aY (ah 5) 48 [ak [86,65,82,89,73,78,71]]) [.own 72 [ai 77 [ah 5]],dk (aY (ah 5) 48 [ak [65,70,84,69,82]]) [.app 72 (ai 77 [ah 5])],.freeze 72,.ret (aT [ak [118,97,114,121,105,110,103],ah 94,ai 8 [ah 72]])] [],ca 96 (ai 78 [ah 5]),.ret (.ite (.cmp .Is (ah 96) ck) (aT [ak [111,110,99,101]]) (aT [ak [116,105,109,101,115],ah 96]))]
noncomputable def jr:List PS:=[cu (dE (aY (ah 5) 91 [])) [.ret (.cBool false)] [],ca 92 (.attr (ah 5) 2),ca 96 (ai 78 [ah 5]),cZ (ah 5) 2 (ah 92),.ret (.cmp .Is (ah 96) ck)]
noncomputable def j0:List PS:=[.expr (aY (ah 5) 93 [ak [80,69,82,70,79,82,77]]),cu (ai 79 [ah 5]) [hY [71,8] (ai 80 [ah 5]),.ret (aT [ak [112,101,114,102,111,114,109],aT [ak [114,97,110,103,101],ah 71,ah 8],ai 81 [ah 5]])] [],ca 76 (ai 81 [ah 5]),ca 65 (ai 71 [ah 5,ah 87]),.expr (aY (ah 5) 93 [ak [69,78,68,45,80,69,82,70,79,82,77]]),.ret (aT [ak [112,101,114,102,111,114,109],aT [ak [98,111,100,121],ah 65],ah 76])]
noncomputable def oX:List PS:=[.expr (aY (ah 5) 93 [ak [71,79]]),.expr (aY (ah 5) 48 [ak [84,79]]),.own 97 [ai 73 [ah 5]],dk (aY (ah 5) 91 []) [.app 97 (ai 73 [ah 5])],cu (aY (ah 5) 48 [ak [68,69,80,69,78,68,73,78,71]]) [.expr (aY (ah 5) 48 [ak [79,78]]),.freeze 97,.ret (aT [ak [103,111,116,111,45,100,101,112],ai 8 [ah 97],ai 14 [ah 5,dD 75]])] [],cu (.cmp .Gt (ek 97) (aq 1)) [cw] [],.freeze 97,.ret (aT [ak [103,111,116,111],.sub (ah 97) (aq 0)])]
noncomputable def oY:List PS:=[ca 98 (aY (ah 5) 48 [ak [66,89]]),cu (aY (ah 5) 48 [ak [82,69,70,69,82,69,78,67,69]]) [.ret (ak [114,101,102,101,114,101,110,99,101])] [],cu (aY (ah 5) 48 [ak [67,79,78,84,69,78,84]]) [.ret (ak [99,111,110,116,101,110,116])] [],cu (ah 98) [cw] [],.ret (ah 81)]
noncomputable def oZ:List PS:=[.own 80 [],ca 81 (ak [114,101,102,101,114,101,110,99,101]),dk (.cBool true) [ca 81 (ai 82 [ah 5,ah 81]),cu (dE (ai 74 [ah 5])) [cw] [],ca 54 (ai 32 [ah 5,dD 75]),cu (dF [.cmp .Eq (ah 81) (ak [114,101,102,101,114,101,110,99,101]),.cmp .NotEq (.sub (ah 54) (aq 0)) (ak [114,101,102])]) [cw] [],.app 80 (aT [ah 81,ah 54]),cu (dE (lM [ai 74 [ah 5],aY (ah 5) 95 [ak [66,89]],aY (ah 5) 95 [ak [82,69,70,69,82,69,78,67,69]],aY (ah 5) 95 [ak [67,79,78,84,69,78,84]]])) [.freeze 80,.ret (ai 8 [ah 80])] []]]
noncomputable def o0:List PS:=[.expr (aY (ah 5) 93 [ak [67,65,76,76]]),ca 99 (ai 32 [ah 5,dD 75]),ca 80 (.ite (aY (ah 5) 48 [ak [85,83,73,78,71]]) (ai 83 [ah 5]) (aT [])),ca 69 (ai 84 [ah 5,ah 87,aT [ak [102,97,117,108,116],ak [110,111,116,32,102,97,117,108,116]]]),.expr (aY (ah 5) 48 [ak [69,78,68,45,67,65,76,76]]),.ret (aT [ak [99,97,108,108],ah 99,ah 80,ah 69])]
noncomputable def eH:List PS:=[ca 102 (.sub (ah 100) (aq 3)),.setItem (ah 100) (aq 3) (.bin .Add (ah 102) (aq 1)),cu (.cmp .Gt (.sub (ah 100) (aq 1)) (aq 0)) [ca 103 (.bin .Mod (.sub (ah 100) (aq 1)) (ah 101)),.setItem (ah 100) (aq 1) (.bin .FloorDiv (.sub (ah 100) (aq 1)) (ah 101)),.ret (ah 103)] [],.setItem (ah 100) (aq 2) (.bin .Mod (.bin .Add (.bin .Add (.bin .Mult (.sub (ah 100) (aq 2)) (aq 16807)) (.bin .Mult (ah 102) (ah 102))) (aq 29)) (aq 2147483647)),cu (.cmp .Lt (ah 102) (ai 2 [.sub (ah 100) (aq 0)])) [.ret (.bin .Mod (.sub (.sub (ah 100) (aq 0)) (ah 102)) (ah 101))] [],.ret (.bin .Mod (.bin .Pow (.bin .FloorDiv (.sub (ah 100) (aq 2)) (aq 3)) (aq 3)) (ah 101))]
noncomputable def tg:List PS:=[ca 38 (.sub (.lst [ak [65],ak [66,45,49],ak [73,84,69,77],ak [88,57]]) (ai 85 [ah 100,aq 4])),ca 39 (fU (.lst [ak [71,49],ak [71,50]]) (ai 85 [ah 100,aq 3])),cu (ah 104) [.ret (aT [ak [114,101,102],ah 38,ai 8 [ah 39],aT [],ck])] [],ca 105 (ai 85 [ah 100,aq 6]),hY [67,16] (aT [aT [ak [110,117,109,98,101,114],aT [.bin .Add (aq 1) (ai 85 [ah 100,aq 9]),aq 0]],aT [ak [114,101,102],ak [73],aT [],aT [],ck]]),ca 41 (.sub (.lst [aT [],aT [ah 67],aT [ah 16],aT [ah 67,ah 16],aT [ah 16,ah 67,ah 16],aT []]) (ah 105)),ca 42 (.sub (.lst [ck,aT [ah 67,ck],aT [ah 16,ah 67],ck]) (ai 85 [ah 100,aq 4])),.ret (aT [ak [114,101,102],ah 38,ai 8 [ah 39],ah 41,ah 42])]
noncomputable def lu:List PS:=[ca 107 (.sub (ah 106) (ai 85 [ah 100,ai 2 [ah 106]])),cu (.cmp .Eq (ah 107) (ak [110])) [.ret (aT [ak [110,117,109,98,101,114],.sub (.lst [aT [aq 0,aq 0],aT [aq 5,aq 0],aT [.neg (aq 3),aq 0],aT [aq 125,aq 2],aT [.neg (aq 5),aq 1],aT [aq 70,aq 0]]) (ai 85 [ah 100,aq 6])])] [],cu (.cmp .Eq (ah 107) (ak [116])) [.ret (aT [ak [116,101,120,116],.sub (.lst [dx [65,66],dx [120],dx [51],dx [122,101,114,111]]) (ai 85 [ah 100,aq 4])])] [],cu (.cmp .Eq (ah 107) (ak [102])) [.ret (aT [ak [102,105,103,117,114,101],.sub (.lst [ak [90,69,82,79],ak [83,80,65,67,69],ak [72,73,71,72],ak [76,79,87],ak [81,85,79,84,69]]) (ai 85 [ah 100,aq 5])])] [],cu (.cmp .Eq (ah 107) (ak [122])) [.ret (aT [ak [102,105,103,117,114,101],ak [90,69,82,79]])] [],.ret (.ite (.cmp .Eq (ah 107) (ak [97])) (aT [ak [97,108,108],dx [120,121]]) (ai 86 [ah 100]))]
noncomputable def fP:List PS:=[.own 35 [],ff [61] false 0 [aY (dS (dS (ah 26) 40 [32,40,32]) 41 [32,41,32]) 12 [ak [32]]] [cu (.cmp .Eq (fU (ah 61) (aq 1)) (ak [34])) [.app 35 (ai 87 [ak [108,105,116,101,114,97,108],jw (ah 61) (aq 1) (.neg (aq 1))])] [cu (dF [.cmp .Eq (fU (ah 61) (aq 1)) (ak [45]),.cmp .Gt (ai 2 [ah 61]) (aq 1)]) [sG 35 (.lst [ai 87 [ak [115,105,103,110],ak [45]],ai 87 [ak [110,117,109,98,101,114],.eC (ah 61) (aq 1)]])] [cu (.cmp .In (ah 61) (aT [ak [40],ak [41],ak [58],ak [43],ak [45],ak [42],ak [47],ak [42,42],ak [61],ak [60],ak [62],ak [60,61],ak [62,61]])) [.app 35 (ai 87 [ak [115,105,103,110],ah 61])] [cu (.cmp .NotEq (ah 61) (ak [])) [.app 35 (ai 87 [.ite (.cmp .In (.sub (ah 61) (aq 0)) (ak [48,49,50,51,52,53,54,55,56,57])) (ak [110,117,109,98,101,114]) (ak [119,111,114,100]),ah 61])] []]]]],.freeze 35,.ret (ah 35)]
noncomputable def qV:List PS:=[.ret (jw (aT [aT [ak [99,111,110,116,105,110,117,101]],aT [ak [101,120,105,116]],aT [ak [99,111,110,116,105,110,117,101]]]) (ai 85 [ah 100,aq 2]) (.bin .Add (aq 2) (ai 85 [ah 100,aq 2])))]
noncomputable def o4:List PS:=[.ret (.sub (iI [([99,111,110,116,105,110,117,101],.str [67,79,78,84,73,78,85,69]),([101,120,105,116],.str [69,88,73,84])]) (.sub (ah 78) (aq 0)))]
noncomputable def js:List PS:=[.own 35 [],dk (lM [aY (ah 5) 95 [ak [67,79,78,84,73,78,85,69]],aY (ah 5) 95 [ak [69,88,73,84]]]) [.app 35 (aT [aY (.attr (aY (ah 5) 44 []) 1) 14 []])],.freeze 35,.ret (ai 8 [ah 35])]
noncomputable def qW:List PS:=[.ret (.sub (.lst [aT [ak [80,49],ak []],aT [ak [80,45,50],ak [83,49]],aT [ak [76,65,83,84],ak []],aT [ak [80,49],ak [83,50]]]) (ai 85 [ah 100,aq 4]))]
noncomputable def o5:List PS:=[ca 53 (ai 86 [ah 100]),.ret (.sub (.lst [aT [ak [114,101,108],ak [61],ah 53,aT [ak [110,117,109,98,101,114],aT [aq 5,aq 0]]],aT [ak [110,111,116],aT [ak [99,108,97,115,115],ak [78,85,77,69,82,73,67],ah 53]],aT [ak [115,105,103,110],ak [90,69,82,79],ah 53],aT [ak [114,101,108],ak [60,61],ah 53,ah 53]]) (ai 85 [ah 100,aq 4]))]
noncomputable def qX:List PS:=[ca 105 (ai 85 [ah 100,aq 4]),cu (.cmp .Eq (ah 105) (aq 0)) [.ret (aT [ak [111,110,99,101]])] [],cu (.cmp .Eq (ah 105) (aq 1)) [.ret (aT [ak [116,105,109,101,115],.ite (.cmp .Eq (ai 85 [ah 100,aq 2]) (aq 0)) (ai 86 [ah 100]) (aT [ak [110,117,109,98,101,114],aT [.bin .Add (aq 3) (ai 85 [ah 100,aq 90]),aq 0]])])] [],ca 94 (.cmp .Eq (ai 85 [ah 100,aq 2]) (aq 1)),cu (.cmp .Eq (ah 105) (aq 2)) [.ret (aT [ak [117,110,116,105,108],ah 94,ai 88 [ah 100]])] [],ca 72 (.comp (aT [ai 86 [ah 100],ai 89 [ah 100,ak [114,110]],ai 89 [ah 100,ak [114,110]],ai 88 [ah 100]]) [90] false 1 [.bin .Add (aq 1) (ai 85 [ah 100,aq 3])] []),.ret (aT [ak [118,97,114,121,105,110,103],ah 94,ai 8 [ah 72]])]
noncomputable def lw:List PS:=[ca 71 (ai 90 [ah 100]),ca 79 (.ite (.cmp .Eq (ai 85 [ah 100,aq 2]) (aq 0)) (aT [ak [98,111,100,121],ai 91 [ah 100]]) (aT [ak [114,97,110,103,101],ah 71,.sub (.lst [ah 71,ai 90 [ah 100]]) (ai 85 [ah 100,aq 2])])),.ret (aT [ak [112,101,114,102,111,114,109],ah 79,ai 92 [ah 100]])]
noncomputable def qY:List PS:=[cu (.cmp .Eq (ai 85 [ah 100,aq 2]) (aq 0)) [.ret (aT [ak [103,111,116,111],ai 90 [ah 100]])] [],.ret (aT [ak [103,111,116,111,45,100,101,112],ai 8 [.comp (ai 90 [ah 100]) [90] false 1 [.bin .Add (aq 1) (ai 85 [ah 100,aq 3])] []],ai 86 [ah 100]])]
noncomputable def qZ:List PS:=[.own 80 [],ff [90] false 1 [ai 85 [ah 100,aq 4]] [.app 80 (.ite (.cmp .Eq (ai 85 [ah 100,aq 2]) (aq 0)) (aT [ak [114,101,102,101,114,101,110,99,101],ai 86 [ah 100]]) (aT [ak [99,111,110,116,101,110,116],ai 89 [ah 100,ak [114,116,122]]]))],.freeze 80,.ret (aT [ak [99,97,108,108],ai 89 [ah 100,ak [114,116]],ai 8 [ah 80],ai 93 [ah 100,.lst [ak [102,97,117,108,116],ak [110,111,116,32,102,97,117,108,116]]]])]
noncomputable def lA:List PS:=[ca 53 (aT [ak [114,101,102],ak [65],aT [],aT [],ck]),ca 72 (.lst [aT [aT [ak [115,116,111,112]],ak [83,84,79,80,32,82,85,78]],aT [aT [ak [101,120,105,116,45,112,114,111,103,114,97,109]],ak [69,88,73,84,32,80,82,79,71,82,65,77]],aT [aT [ak [101,120,105,116]],ak [69,88,73,84]],aT [aT [ak [99,111,110,116,105,110,117,101]],ak [67,79,78,84,73,78,85,69]],aT [aT [ak [111,112,101,110],aT []],ak []],aT [aT [ak [99,97,108,108],aT [ak [116,101,120,116],dx [65,66]],aT [aT [ak [99,111,110,116,101,110,116],ah 53],aT [ak [99,111,110,116,101,110,116],ah 53],aT [ak [114,101,102,101,114,101,110,99,101],ah 53]],aT []],ak [67,65,76,76,32,34,65,66,34,32,85,83,73,78,71,32,66,89,32,67,79,78,84,69,78,84,32,65,32,66,89,32,67,79,78,84,69,78,84,32,65,32,66,89,32,82,69,70,69,82,69,78,67,69,32,65,32,69,78,68,45,67,65,76,76]],aT [aT [ak [103,111,116,111,45,100,101,112],aT [aT [ak [80,49],ak []],aT [ak [80,50],ak [83]]],ah 53],ak [71,79,32,84,79,32,80,49,32,80,50,32,79,70,32,83,32,68,69,80,69,78,68,73,78,71,32,79,78,32,65]],aT [aT [ak [112,101,114,102,111,114,109],aT [ak [114,97,110,103,101],aT [ak [80,49],ak []],aT [ak [80,49],ak []]],aT [ak [117,110,116,105,108],.cBool true,aT [ak [115,105,103,110],ak [90,69,82,79],ah 53]]],ak [80,69,82,70,79,82,77,32,80,49,32,87,73,84,72,32,84,69,83,84,32,65,70,84,69,82,32,85,78,84,73,76,32,65,32,73,83,32,90,69,82,79]],aT [aT [ak [112,101,114,102,111,114,109],aT [ak [98,111,100,121],aT [aT [ak [101,120,105,116]]]],aT [ak [116,105,109,101,115],ah 53]],ak [80,69,82,70,79,82,77,32,65,32,84,73,77,69,83,32,69,88,73,84,32,69,78,68,45,80,69,82,70,79,82,77]]]),.ret (ai 96 [.comp (.cmp .Eq (ai 95 [ah 78,dD 94]) (ah 26)) [78,26] true 0 [ah 72] []])]
noncomputable def nG:List PS:=[ca 109 (.comp (ai 97 [ah 110]) [110] false 0 [fU (ah 108) (aq 48)] []),ca 111 (aq 0),cu (dF [ah 109,.cmp .GtE (ai 5 [.sub (ah 109) (aq 0)]) (.bin .Pow (aq 10) (aq 15))]) [ca 111 (.bin .Mod (.bin .FloorDiv (ai 5 [.sub (ah 109) (aq 0)]) (aq 2)) (.bin .Pow (aq 10) (aq 260)))] [],ca 112 (aq 1),ff [110] false 0 [ah 109] [ca 112 (.bin .Mod (.bin .Add (.bin .Add (.bin .Mult (ah 112) (aq 48271)) (.bin .Mod (ah 110) (aq 2147483647))) (aq 593)) (aq 2147483647))],.ret (.lst [ah 109,ah 111,ah 112,aq 0])]
noncomputable def wu:List PS:=[cu (.cmp .Lt (.bin .Add (.attr (ah 9) 2) (ah 28)) (ai 2 [.attr (ah 9) 3])) [.ret (.sub (.attr (ah 9) 3) (.bin .Add (.attr (ah 9) 2) (ah 28)))] [],.ret ck]
noncomputable def o7:List PS:=[.ret (.cmp .GtE (.attr (ah 9) 2) (ai 2 [.attr (ah 9) 3]))]
noncomputable def wv:List PS:=[ca 56 (aY (ah 9) 32 []),cu (.cmp .Is (ah 56) ck) [cw] [],cZ (ah 9) 2 (.bin .Add (.attr (ah 9) 2) (aq 1)),.ret (ah 56)]
noncomputable def o8:List PS:=[ca 56 (aY (ah 9) 32 [ah 28]),.ret (dF [.cmp .IsNot (ah 56) ck,.cmp .Eq (.attr (ah 56) 0) (ah 0)])]
noncomputable def o9:List PS:=[ca 28 (aq 0),ff [61] false 0 [aY (ah 113) 12 [ak [32]]] [cu (lM [dE (aY (ah 9) 43 [ak [119,111,114,100],ah 28]),.cmp .NotEq (.attr (aY (ah 9) 32 [ah 28]) 1) (ah 61)]) [.ret (.cBool false)] [],ca 28 (.bin .Add (ah 28) (aq 1))],.ret (.cBool true)]
noncomputable def ww:List PS:=[cu (dE (aY (ah 9) 95 [ah 113])) [.ret (.cBool false)] [],cZ (ah 9) 2 (.bin .Add (.attr (ah 9) 2) (ai 2 [aY (ah 113) 12 [ak [32]]])),.ret (.cBool true)]
noncomputable def wx:List PS:=[cu (dE (aY (ah 9) 48 [ah 113])) [cw] []]
noncomputable def rb:List PS:=[ff [61] false 0 [aY (ah 113) 12 [ak [32]]] [cu (aY (ah 9) 48 [ah 61]) [.ret (ah 61)] []],.ret (ak [])]
noncomputable def pb:List PS:=[.ret (dF [aY (ah 9) 43 [ak [119,111,114,100],ah 28],dE (ai 98 [.attr (aY (ah 9) 32 [ah 28]) 1])])]
noncomputable def wy:List PS:=[cu (dE (aY (ah 9) 91 [])) [cw] [],.ret (.attr (aY (ah 9) 44 []) 1)]
noncomputable def pd:List PS:=[.ret (dF [aY (ah 9) 43 [ak [115,105,103,110],ah 28],.cmp .Eq (.attr (aY (ah 9) 32 [ah 28]) 1) (ah 57)])]
noncomputable def lB:List PS:=[cu (dE (aY (ah 9) 31 [ah 57])) [.ret (.cBool false)] [],cZ (ah 9) 2 (.bin .Add (.attr (ah 9) 2) (aq 1)),.ret (.cBool true)]
noncomputable def lC:List PS:=[cu (dE (aY (ah 9) 36 [ah 57])) [cw] []]
noncomputable def lD:List PS:=[cu (lM [aY (ah 9) 31 [ak [43]],aY (ah 9) 31 [ak [45]]]) [.ret (aY (ah 9) 43 [ak [110,117,109,98,101,114],aq 1])] [],.ret (aY (ah 9) 43 [ak [110,117,109,98,101,114]])]
noncomputable def rc:List PS:=[cu (dE (aY (ah 9) 45 [])) [cw] [],ca 114 (aY (ah 9) 36 [ak [45]]),cu (dE (ah 114)) [.expr (aY (ah 9) 36 [ak [43]])] [],ca 35 (ai 99 [.attr (aY (ah 9) 44 []) 1]),.ret (.ite (ah 114) (ai 30 [ah 35]) (ah 35))]
noncomputable def re:List PS:=[cu (dE (aY (ah 9) 43 [ak [108,105,116,101,114,97,108]])) [cw] [],ca 35 (ai 100 [.attr (aY (ah 9) 32 []) 1]),cu (.cmp .Is (ah 35) ck) [cw] [],cZ (ah 9) 2 (.bin .Add (.attr (ah 9) 2) (aq 1)),.ret (ah 35)]
noncomputable def rf:List PS:=[ca 35 (aY (ah 9) 115 []),dk (aY (.attr (ah 9) 5) 48 [ak [79,82]]) [ca 35 (aT [ak [111,114],ah 35,aY (ah 9) 115 []])],.ret (ah 35)]
noncomputable def wz:List PS:=[ca 35 (aY (ah 9) 116 []),dk (aY (.attr (ah 9) 5) 48 [ak [65,78,68]]) [ca 35 (aT [ak [97,110,100],ah 35,aY (ah 9) 116 []])],.ret (ah 35)]
noncomputable def rh:List PS:=[cu (dF [.cmp .Eq (ai 39 [.attr (ah 9) 5]) (ak [78,79,84]),dE (ai 101 [.attr (ah 9) 5])]) [.expr (aY (.attr (ah 9) 5) 44 []),.ret (aT [ak [110,111,116],aY (ah 9) 117 []])] [],.ret (aY (ah 9) 117 [])]
noncomputable def ri:List PS:=[cu (dE (aY (.attr (ah 9) 5) 31 [ak [40]])) [.ret (aY (ah 9) 118 [])] [],ca 119 (.attr (.attr (ah 9) 5) 2),pA [.ret (aY (ah 9) 120 [])],cZ (.attr (ah 9) 5) 2 (ah 119),pA [.ret (aY (ah 9) 118 [])]]
noncomputable def jt:List PS:=[cu (ai 101 [.attr (ah 9) 5]) [.ret (aY (ah 9) 121 [aY (ah 9) 122 []])] [],ca 123 (ai 75 [.attr (ah 9) 5]),cu (dF [.cmp .Eq (.sub (ah 123) (aq 0)) (ak [114,101,102]),aY (ah 9) 6 [.sub (ah 123) (aq 1),.sub (ah 123) (aq 2)]]) [cZ (ah 9) 8 ck,.ret (aT [ak [110,97,109,101,100],ah 123])] [],cu (ai 102 [.attr (ah 9) 5]) [.ret (aY (ah 9) 124 [ah 123])] [],.ret (aT [ak [114,101,108],aY (ah 9) 125 [],aY (ah 9) 122 [],ah 123])]
noncomputable def lE:List PS:=[ca 61 (ai 39 [.attr (ah 9) 5,ai 41 [.attr (ah 9) 5]]),cu (dF [.cmp .NotIn (ah 61) (dD 43),.cmp .NotIn (ah 61) (dD 44)]) [.ret (aY (ah 9) 121 [ah 123])] [],cZ (ah 9) 8 ck,.expr (aY (.attr (ah 9) 5) 48 [ak [73,83]]),ca 126 (aY (.attr (ah 9) 5) 48 [ak [78,79,84]]),.expr (aY (.attr (ah 9) 5) 44 []),cu (.cmp .In (ah 61) (dD 43)) [ca 35 (aT [ak [99,108,97,115,115],ah 61,ah 123])] [ca 35 (aT [ak [115,105,103,110],.sub (dD 44) (ah 61),ah 123])],.ret (.ite (ah 126) (aT [ak [110,111,116],ah 35]) (ah 35))]
noncomputable def mQ:List PS:=[.expr (aY (.attr (ah 9) 5) 48 [ak [73,83]]),ca 126 (aY (.attr (ah 9) 5) 48 [ak [78,79,84]]),ca 57 (aY (ah 9) 127 []),cZ (ah 9) 8 (aT [ah 123,.ite (ah 126) (.sub (dD 103) (ah 57)) (ah 57)]),.ret (aT [ak [114,101,108],.sub (.attr (ah 9) 8) (aq 1),ah 123,ai 75 [.attr (ah 9) 5]])]
noncomputable def lF:List PS:=[ca 56 (aY (.attr (ah 9) 5) 44 []),cu (.cmp .Eq (.attr (ah 56) 0) (ak [115,105,103,110])) [.ret (.attr (ah 56) 1)] [],.expr (aY (.attr (ah 9) 5) 48 [.ite (.cmp .Eq (.attr (ah 56) 1) (ak [69,81,85,65,76])) (ak [84,79]) (ak [84,72,65,78])]),ca 57 (.sub (dD 40) (.attr (ah 56) 1)),cu (dF [.cmp .NotEq (.attr (ah 56) 1) (ak [69,81,85,65,76]),.cmp .Eq (ai 39 [.attr (ah 9) 5]) (ak [79,82]),.cmp .Eq (ai 39 [.attr (ah 9) 5,aq 1]) (ak [69,81,85,65,76])]) [.expr (aY (.attr (ah 9) 5) 44 []),.expr (aY (.attr (ah 9) 5) 44 []),.expr (aY (.attr (ah 9) 5) 48 [ak [84,79]]),.ret (.bin .Add (ah 57) (ak [61]))] [],.ret (ah 57)]
noncomputable def wA:List PS:=[ca 100 (ai 104 [ah 108]),cu (dE (ai 105 [])) [.ret (.cBool false)] [],hY [76,128,129] (aT [ai 106 [ah 100],ai 107 [ah 100],ai 108 [ah 100]]),cu (.cmp .NotEq (ai 110 [ai 95 [ah 76,dD 94],dD 109]) (ah 76)) [.ret (.cBool false)] [],.ret (dF [.cmp .Eq (ai 110 [ai 95 [ah 128,dD 94],dD 111]) (ah 128),.cmp .Eq (ai 110 [ai 95 [ah 129,dD 94],dD 112]) (ah 129)])]
noncomputable def eJ:List PS:=[ca 35 (dM 130 [ah 5,dD 113]),.ret (.ite (aY (ah 5) 131 []) (ah 35) ck)]
noncomputable def Jt:List (List Nat):=[[107,105,110,100],[119,111,114,116,104],[97,116],[116,111,107,101,110,115],[110,97,109,101,100],[114,101,97,100,101,114],[105,115,95,110,97,109,101,100],[100,101,112,116,104],[108,97,115,116],[115,101,108,102],[106,111,105,110],[114,101,112,108,97,99,101],[115,112,108,105,116],[115,116,97,114,116,115,119,105,116,104],[108,111,119,101,114],[117,112,112,101,114],[105,110,100,101,120],[103,101,116],[97,112,112,101,110,100],[101,120,116,101,110,100],[117,110,105,116,115],[115,99,97,108,101],[97],[102,105,103,117,114,101,115],[110,117,109,98,101,114],[102,105,103,117,114,101],[116,101,120,116],[98,101,103,105,110],[97,104,101,97,100],[98,101,104,105,110,100],[112,111,105,110,116],[105,115,95,115,105,103,110],[112,101,101,107],[114,101,97,100,95,101,120,112,114],[110,101,101,100,95,115,105,103,110],[102,111,117,110,100],[115,107,105,112,95,115,105,103,110],[108,101,110,103,116,104],[110,97,109,101],[113,117,97,108,105,102,105,101,114,115],[111,110,101,95,111,102],[115,117,98,115,99,114,105,112,116,115],[112,97,114,116],[105,115,95,107,105,110,100],[116,97,107,101],[105,115,95,110,117,109,98,101,114],[115,105,103,110,101,100],[111,99,116,101,116,115],[115,107,105,112],[111,99,116,101,116],[115,104,111,119,95,101,120,112,114],[116,101,120,116,115],[101,120,112,114],[114,101,102],[111,112,101,114,97,110,100],[115,105,103,110,115],[116,111,107,101,110],[115,105,103,110],[105,115,95,111,119,110],[112,105,101,99,101,115],[104,101,114,101],[119,111,114,100],[99,111,110,100],[108,101,97,115,116],[112,97,114,116,115],[115,116,97,116,101,109,101,110,116,115],[115,104,111,119],[111,110,101],[107,101,121],[98,114,97,110,99,104,101,115],[112,97,105,114],[102,105,114,115,116],[114,111,119,115],[116,111,108,100],[115,116,101,112],[114,111,119],[108,111,111,112],[104,101,97,100],[115,116,97,116,101,109,101,110,116],[103,111,97,108],[97,114,103,115],[109,111,100,101],[110,117,109,98,101,114,115],[98,97,114,101],[101,97,114,108,121],[110,101,101,100,101,100],[108,97,116,101],[114,101,97,100,95,98,111,100,121],[98,111,100,121],[107,101,121,115],[116,117,114,110],[105,115,95,110,97,109,101],[109,97,114,107],[110,101,101,100],[105,115,95,97,102,116,101,114],[105,115,95,119,111,114,100],[99,111,117,110,116],[112,97,105,114,115],[105,115,95,98,121],[99,97,108,108,101,100],[98,111,120],[108,105,109,105,116],[112,108,97,99,101],[100,105,103,105,116],[105,115,95,112,108,97,105,110],[119,97,121],[115,111,114,116,115],[115,111,114,116],[115,99,114,105,112,116],[99,101,108,108,115],[99,101,108,108],[103,114,101,97,116],[115,116,97,116,101],[119,111,114,100,115],[105,115,95,98,101,108,111,119],[98,111,116,104],[116,117,114,110,101,100],[115,105,110,103,108,101],[117,110,98,114,97,99,107,101,116,101,100],[115,116,97,114,116],[105,110,95,98,114,97,99,107,101,116,115],[114,101,108,97,116,105,111,110],[115,117,98,106,101,99,116,95,111,102,95,108,97,115,116],[115,117,98,106,101,99,116],[112,114,101,100,105,99,97,116,101],[115,105,103,110,95,111,102,95,108,97,115,116],[105,115,95,110,111,116],[115,105,103,110,95,104,101,114,101],[106,117,109,112],[99,97,108,108],[114,101,97,100],[105,115,95,100,111,110,101],[101,105,116,104,101,114],[109,97,115,107],[115,112,111,116],[105,110,110,101,114],[105,115,95,105,110,95,97]]
noncomputable def gnL:List (List Nat):=[[70,73,71,85,82,69,83],[114,97,110,103,101],[108,101,110],[119,111,114,116,104,95,111,102],[100,101,99,105,109,97,108],[97,98,115],[115,116,114],[77,79,83,84,95,83,85,66,83,67,82,73,80,84,83],[116,117,112,108,101],[105,115,95,112,97,114,116,95,110,101,120,116],[114,101,97,100,95,115,117,98,115,99,114,105,112,116,115],[114,101,97,100,95,112,97,114,116],[70,73,71,85,82,69,95,78,65,77,69,83],[114,101,97,100,95,102,105,103,117,114,101],[114,101,97,100,95,114,101,102],[99,104,114],[113,117,111,116,101,100],[108,105,115,116],[115,104,111,119,110,95,115,117,98,115,99,114,105,112,116,115],[115,104,111,119,95,114,101,102],[119,114,105,116,101,95,100,101,99,105,109,97,108],[70,73,71,85,82,69,95,83,72,79,87,78],[115,104,111,119,110,95,111,99,116,101,116,115],[114,101,97,100,95,115,117,109],[77,79,83,84,95,68,69,69,80,95,101,120,112,114,101,115,115,105,111,110,115],[114,101,97,100,95,112,114,111,100,117,99,116],[115,105,103,110,95,97,109,111,110,103],[114,101,97,100,95,102,97,99,116,111,114],[114,101,97,100,95,112,111,119,101,114],[105,115,95,108,111,110,101,95,110,117,109,98,101,114],[110,101,103,97,116,101,100],[114,101,97,100,95,112,114,105,109,97,114,121],[114,101,97,100,95,111,112,101,114,97,110,100],[76,69,86,69,76,83],[108,101,118,101,108,95,111,102],[115,104,111,119,95,101,120,112,114,101,115,115,105,111,110],[115,104,111,119,95,111,112,101,114,97,110,100],[114,101,118,101,114,115,101,100],[82,69,76,65,84,73,79,78,83],[119,111,114,100,95,104,101,114,101],[87,79,82,68,83,95,79,70,95,82,69,76,65,84,73,79,78,83],[112,108,97,99,101,95,111,102,95,119,111,114,100],[105,115,95,114,101,108,97,116,105,111,110,95,97,116],[67,76,65,83,83,69,83],[87,79,82,68,83,95,79,70,95,83,73,71,78,83],[115,104,111,119,95,99,111,110,100,105,116,105,111,110],[115,116,114,101,110,103,116,104,95,111,102],[115,104,111,119,95,114,101,108,97,116,105,111,110],[105,110,95,112,108,97,99,101],[115,104,111,119,95,115,105,109,112,108,101],[106,111,105,110,101,100],[80,72,82,65,83,69,83],[115,104,111,119,95,112,104,114,97,115,101],[115,104,111,119,95,98,111,100,121],[115,104,111,119,95,112,97,105,114],[114,101,102,95,116,101,120,116],[111,112,101,114,97,110,100,95,116,101,120,116],[115,104,111,119,95,118,97,114,121,105,110,103],[115,104,111,119,95,108,111,111,112],[115,104,111,119,95,114,97,110,103,101],[119,111,114,100,101,100],[115,104,111,119,95,98,114,97,110,99,104,101,115],[115,104,111,119,95,112,101,114,102,111,114,109],[115,104,111,119,95,99,97,108,108],[82,69,83,69,82,86,69,68],[111,114,100],[77,79,83,84,95,79,67,84,69,84],[98,121,116,101,115],[119,111,114,100,95,97,104,101,97,100],[112,104,114,97,115,101,95,119,111,114,100,115],[111,112,101,110,105,110,103,95,108,101,110,103,116,104],[98,111,100,121,95,104,101,114,101],[70,73,71,85,82,69,95,87,79,82,68,83],[110,97,109,101,95,112,97,105,114],[98,101,103,105,110,115,95,111,112,101,114,97,110,100],[114,101,97,100,95,101,120,112,114,101,115,115,105,111,110],[114,101,97,100,95,99,111,110,100,105,116,105,111,110],[114,101,97,100,95,118,97,114,121,105,110,103],[116,105,109,101,115,95,104,101,114,101],[105,115,95,114,97,110,103,101,95,104,101,114,101],[114,101,97,100,95,114,97,110,103,101],[114,101,97,100,95,108,111,111,112],[114,101,97,100,95,109,111,100,101],[114,101,97,100,95,97,114,103,115],[98,114,97,110,99,104,101,115,95,104,101,114,101],[95,108,97,119,95,100,114,97,119],[95,108,97,119,95,114,101,102],[84,111,107,101,110],[95,108,97,119,95,117,110,116,105,108],[95,108,97,119,95,111,112,101,114,97,110,100],[95,108,97,119,95,112,97,105,114],[95,108,97,119,95,98,111,100,121],[95,108,97,119,95,108,111,111,112],[95,108,97,119,95,98,114,97,110,99,104,101,115],[95,108,97,119,95,115,104,111,119,110],[115,104,111,119,95,99,111,110,116,114,111,108],[97,108,108],[105,110,116],[105,115,95,114,101,115,101,114,118,101,100],[114,101,97,100,95,100,101,99,105,109,97,108],[111,99,116,101,116,115,95,111,102,95,116,101,120,116],[105,115,95,98,97,114,101,95,114,101,108,97,116,105,111,110,95,104,101,114,101],[105,115,95,112,114,101,100,105,99,97,116,101,95,104,101,114,101],[79,80,80,79,83,73,84,69,83],[95,108,97,119,95,98,111,120],[95,108,97,119,95,119,114,105,116,116,101,110],[95,108,97,119,95,112,101,114,102,111,114,109],[95,108,97,119,95,103,111,116,111],[95,108,97,119,95,99,97,108,108],[114,101,97,100,95,112,101,114,102,111,114,109],[95,108,97,119,95,98,97,99,107],[114,101,97,100,95,103,111,116,111],[114,101,97,100,95,99,97,108,108],[95,108,97,119,95,114,101,97,100,95,98,111,100,121]]
end
noncomputable def eG:List PS:=[.ca 133 (.ai 85 [.ah 100,.bin .Pow (.aq 2) (.ai 2 [.ah 89])]),.ret (.ai 8 [.comp (.aT [.ah 68,.ai 91 [.ah 100]]) [134,68] true 3 [.ah 89] [.cmp .Eq (.bin .Mod (.bin .FloorDiv (.ah 133) (.bin .Pow (.aq 2) (.ah 134))) (.aq 2)) (.aq 1)]])]
def yq:Tr vF:=(.node (some ⟨0,[20,21],[.int 0],te,82⟩) (.node (some ⟨1,[22],[],tf,89⟩) (.node (some ⟨3,[26],[],jN,124⟩) (.node (some ⟨7,[5,33],[],iw,184⟩) (.node (some ⟨15,[54,50],[],jR,243⟩) (.node (some ⟨31,[62],[],lg,496⟩) (.node (some ⟨63,[5,87],[],j0,906⟩) (.node (some ⟨127,[9,113],[],rb,722⟩) .au .au) .au) .au) (.node (some ⟨47,[78,66],[],oS,625⟩) (.node (some ⟨79,[100],[],qY,1025⟩) .au .au) .au)) (.node (some ⟨23,[5,7],[],jT,300⟩) (.node (some ⟨39,[65,66],[],oP,549⟩) (.node (some ⟨71,[26],[],fP,968⟩) (.node (some ⟨135,[9],[],re,808⟩) .au .au) .au) .au) (.node (some ⟨55,[5,87,89],[],jq,850⟩) (.node none (.node (some ⟨151,[9],[],wz,404⟩) .au .au) .au) .au))) (.node (some ⟨11,[5,33],[],jP,219⟩) (.node (some ⟨19,[5,7],[],jS,272⟩) (.node (some ⟨35,[54],[],jU,525⟩) (.node (some ⟨67,[5,87],[],o0,934⟩) (.node (some ⟨131,[9,57],[],lB,766⟩) .au .au) .au) .au) (.node (some ⟨51,[5,28,61],[],mN,822⟩) .au .au)) (.node (some ⟨27,[5],[],jn,362⟩) (.node (some ⟨43,[71,8],[],mM,575⟩) (.node (some ⟨75,[100],[],qW,1001⟩) .au .au) .au) (.node (some ⟨59,[5],[],mP,878⟩) (.node none (.node (some ⟨155,[9,123],[],lE,453⟩) .au .au) .au) (.node (some ⟨123,[9,0,28],[.int 0],o8,694⟩) .au .au))))) (.node (some ⟨5,[26],[],wo,168⟩) (.node (some ⟨9,[5,33],[],qP,198⟩) (.node (some ⟨17,[5,55],[],mK,258⟩) (.node (some ⟨33,[62],[],lh,510⟩) (.node (some ⟨65,[5,81],[],oY,920⟩) (.node (some ⟨129,[9],[],wy,744⟩) .au .au) .au) .au) (.node (some ⟨49,[61],[],lm,637⟩) (.node (some ⟨81,[],[],lA,1044⟩) .au .au) .au)) (.node (some ⟨25,[5,28],[.int 0],oO,348⟩) (.node (some ⟨41,[69,66],[],jp,561⟩) (.node (some ⟨73,[78],[],o4,982⟩) .au .au) .au) (.node (some ⟨57,[5],[],oV,864⟩) (.node none (.node (some ⟨153,[9],[],ri,418⟩) .au .au) .au) (.node (some ⟨121,[9],[],o7,672⟩) .au .au)))) (.node (some ⟨13,[41,50],[],hZ,229⟩) (.node (some ⟨21,[5],[],iT,286⟩) (.node (some ⟨37,[64],[],wp,537⟩) (.node (some ⟨69,[100,104],[.bool false],tg,954⟩) (.node (some ⟨133,[9],[],lD,780⟩) .au .au) .au) .au) (.node (some ⟨53,[5,68],[],iX,836⟩) .au .au)) (.node (some ⟨29,[5],[],fG,376⟩) (.node (some ⟨45,[76],[],oR,613⟩) (.node (some ⟨77,[100],[],qX,1013⟩) .au .au) .au) (.node (some ⟨61,[5],[],oW,892⟩) (.node none (.node (some ⟨157,[9],[],lF,467⟩) .au .au) .au) (.node (some ⟨125,[9,113],[],ww,708⟩) .au .au)))))) (.node (some ⟨2,[23],[],qO,117⟩) (.node (some ⟨4,[22],[],jm,131⟩) (.node (some ⟨8,[5,33],[],oN,191⟩) (.node (some ⟨16,[5],[],ix,251⟩) (.node (some ⟨32,[62,63],[],qS,503⟩) (.node (some ⟨64,[5,87],[],oX,913⟩) (.node (some ⟨128,[9,28],[.int 0],pb,737⟩) .au .au) .au) .au) (.node (some ⟨48,[78,66],[],jX,630⟩) (.node (some ⟨80,[100],[],qZ,1032⟩) .au .au) .au)) (.node (some ⟨24,[52],[],iy,321⟩) (.node (some ⟨40,[68],[],lj,556⟩) (.node (some ⟨72,[100],[],qV,975⟩) .au .au) .au) (.node (some ⟨56,[5],[],iY,857⟩) (.node none (.node (some ⟨152,[9],[],rh,411⟩) .au .au) .au) (.node (some ⟨120,[9,28],[.int 0],wu,665⟩) .au .au)))) (.node (some ⟨12,[47],[],jQ,224⟩) (.node (some ⟨20,[5,7],[],lf,279⟩) (.node (some ⟨36,[53],[],qU,532⟩) (.node (some ⟨68,[100,101],[],eH,946⟩) (.node (some ⟨132,[9,57],[],lC,773⟩) .au .au) .au) .au) (.node (some ⟨52,[68],[],jY,829⟩) .au .au)) (.node (some ⟨28,[5],[],gH,369⟩) (.node (some ⟨44,[72],[],jV,606⟩) (.node (some ⟨76,[100],[],o5,1008⟩) .au .au) .au) (.node (some ⟨60,[5],[],jZ,885⟩) (.node none (.node (some ⟨156,[9,123],[],mQ,460⟩) .au .au) .au) (.node (some ⟨124,[9,113],[],o9,701⟩) .au .au))))) (.node (some ⟨6,[5],[],jO,177⟩) (.node (some ⟨10,[5],[],k8,212⟩) (.node (some ⟨18,[5,7],[],qR,265⟩) (.node (some ⟨34,[62],[],iV,517⟩) (.node (some ⟨66,[5],[],oZ,927⟩) (.node (some ⟨130,[9,57,28],[.int 0],pd,759⟩) .au .au) .au) .au) (.node (some ⟨50,[26],[],iW,642⟩) (.node (some ⟨82,[108],[],nG,939⟩) .au .au) .au)) (.node (some ⟨26,[5,28],[],iU,355⟩) (.node (some ⟨42,[70],[],oQ,568⟩) (.node (some ⟨74,[5],[],js,989⟩) .au .au) .au) (.node (some ⟨58,[5],[],mO,871⟩) (.node none (.node (some ⟨154,[9],[],jt,425⟩) .au .au) .au) (.node (some ⟨122,[9],[],wv,686⟩) .au .au)))) (.node (some ⟨14,[53,50],[],qQ,236⟩) (.node (some ⟨22,[5,7],[],mL,293⟩) (.node (some ⟨38,[61,26],[],wq,544⟩) (.node (some ⟨70,[100,106],[],lu,961⟩) (.node (some ⟨134,[9],[],rc,787⟩) .au .au) .au) (.node (some ⟨102,[100,89],[],eG,994⟩) .au .au)) (.node (some ⟨54,[5,87],[],oU,843⟩) (.node none (.node (some ⟨150,[9],[],rf,397⟩) .au .au) .au) .au)) (.node (some ⟨30,[62],[],jo,489⟩) (.node (some ⟨46,[78,66],[],jW,620⟩) (.node (some ⟨78,[100],[],lw,1020⟩) .au .au) .au) (.node (some ⟨62,[5],[],jr,899⟩) .au (.node (some ⟨126,[9,113],[],wx,715⟩) .au .au)))))))
noncomputable def Ms:Tr AV:=(.node (some (.str [48,49,50,51,52,53,54,55,56,57])) (.node (some (.fn 910)) (.node (some (.fn 2)) (.node (some (.int 7)) (.node (some (.fn 908)) (.node (some (.fn 23)) (.node (some (.fn 47)) .au .au) (.node (some (.fn 48)) .au .au)) (.node (some (.fn 30)) (.node (some (.fn 62)) .au .au) (.node (some (.fn 64)) .au .au))) (.node (some (.fn 18)) (.node (some (.fn 25)) (.node (some (.fn 54)) .au .au) (.node (some (.dict [([61],.str [60,62]),([60,62],.str [61]),([60],.str [62,61]),([62,61],.str [60]),([62],.str [60,61]),([60,61],.str [62])])) .au .au)) (.node (some (.fn 36)) (.node (some (.fn 100)) .au .au) .au))) (.node (some (.fn 8)) (.node (some (.fn 14)) (.node (some (.fn 24)) (.node (some (.fn 909)) .au .au) (.node (some (.fn 3)) .au .au)) (.node (some (.dict [([115,105,122,101],.str [79,78,32,83,73,90,69,32,69,82,82,79,82]),([111,118,101,114],.str [79,78,32,79,86,69,82,70,76,79,87]),([101,110,100],.str [65,84,32,69,78,68]),([105,110,118,97,108,105,100],.str [73,78,86,65,76,73,68,32,75,69,89]),([102,97,117,108,116],.str [79,78,32,69,88,67,69,80,84,73,79,78])])) (.node (some (.fn 66)) .au .au) .au)) (.node (some (.fn 20)) (.node (some (.aT [.str [78,85,77,69,82,73,67],.str [65,76,80,72,65,66,69,84,73,67],.str [65,76,80,72,65,66,69,84,73,67,45,76,79,87,69,82],.str [65,76,80,72,65,66,69,84,73,67,45,85,80,80,69,82]])) (.node (some (.fn 16)) .au .au) (.node (some (.fn 79)) .au .au)) (.node (some (.fn 43)) (.node (some (.fn 72)) .au .au) .au)))) (.node (some (.fn 902)) (.node (some (.fn 6)) (.node (some (.fn 905)) (.node (some (.dict [([43],.int 1),([45],.int 1),([42],.int 2),([47],.int 2),([42,42],.int 4)])) (.node (some (.fn 907)) .au .au) (.node (some (.fn 901)) .au .au)) (.node (some (.fn 33)) (.node (some (.fn 61)) .au .au) (.node (some (.fn 74)) .au .au))) (.node (some (.fn 19)) (.node (some (.fn 27)) (.node (some (.fn 57)) .au .au) (.node (some (.fn 81)) .au .au)) (.node (some (.fn 44)) (.node (some (.fn 70)) .au .au) .au))) (.node (some (.fn 10)) (.node (some (.dict [([90,69,82,79],.str [90,69,82,79]),([83,80,65,67,69],.str [83,80,65,67,69]),([72,73,71,72],.str [72,73,71,72,45,86,65,76,85,69]),([76,79,87],.str [76,79,87,45,86,65,76,85,69]),([81,85,79,84,69],.str [81,85,79,84,69])])) (.node (some (.fn 912)) (.node (some (.fn 52)) .au .au) (.node (some (.fn 29)) .au .au)) (.node (some (.fn 39)) (.node (some (.fn 68)) .au .au) .au)) (.node (some (.fn 21)) (.node (some (.fn 34)) (.node (some (.fn 60)) .au .au) (.node (some (.fn 63)) .au .au)) (.node (some (.fn 41)) (.node (some (.fn 102)) .au .au) .au))))) (.node (some (.fn 900)) (.node (some (.fn 0)) (.node (some (.fn 904)) (.node (some (.fn 5)) (.node (some (.fn 11)) (.node (some (.str [32,65,67,67,69,80,84,32,65,67,67,69,83,83,32,65,68,68,32,65,68,86,65,78,67,73,78,71,32,65,70,84,69,82,32,65,76,76,32,65,76,80,72,65,66,69,84,73,67,32,65,76,80,72,65,66,69,84,73,67,45,76,79,87,69,82,32,65,76,80,72,65,66,69,84,73,67,45,85,80,80,69,82,32,65,76,80,72,65,78,85,77,69,82,73,67,32,65,76,80,72,65,78,85,77,69,82,73,67,45,69,68,73,84,69,68,32,65,76,83,79,32,65,76,84,69,82,78,65,84,69,32,65,78,68,32,65,78,89,32,65,82,69,32,65,82,69,65,32,65,82,69,65,83,32,65,83,67,69,78,68,73,78,71,32,65,83,83,73,71,78,32,65,84,32,65,85,84,72,79,82,32,66,69,70,79,82,69,32,66,73,78,65,82,89,32,66,76,65,78,75,32,66,76,79,67,75,32,66,89,32,67,65,76,76,32,67,72,65,82,65,67,84,69,82,32,67,72,65,82,65,67,84,69,82,83,32,67,76,79,83,69,32,67,79,77,80,32,67,79,77,80,45,51,32,67,79,77,80,85,84,65,84,73,79,78,65,76,32,67,79,77,80,85,84,65,84,73,79,78,65,76,45,51,32,67,79,77,80,85,84,69,32,67,79,78,70,73,71,85,82,65,84,73,79,78,32,67,79,78,84,65,73,78,83,32,67,79,78,84,69,78,84,32,67,79,78,84,73,78,85,69,32,67,79,78,86,69,82,84,73,78,71,32,67,79,80,89,32,67,79,82,82,32,67,79,82,82,69,83,80,79,78,68,73,78,71,32,67,79,85,78,84,32,68,65,84,65,32,68,65,84,69,45,67,79,77,80,73,76,69,68,32,68,65,84,69,45,87,82,73,84,84,69,78,32,68,69,76,69,84,69,32,68,69,76,73,77,73,84,69,68,32,68,69,76,73,77,73,84,69,82,32,68,69,80,69,78,68,73,78,71,32,68,69,83,67,69,78,68,73,78,71,32,68,73,83,80,76,65,89,32,68,73,86,73,68,69,32,68,73,86,73,83,73,79,78,32,68,79,87,78,32,68,85,80,76,73,67,65,84,69,83,32,68,89,78,65,77,73,67,32,69,76,83,69,32,69,78,68,32,69,78,68,45,65,68,68,32,69,78,68,45,67,65,76,76,32,69,78,68,45,67,79,77,80,85,84,69,32,69,78,68,45,68,69,76,69,84,69,32,69,78,68,45,68,73,86,73,68,69,32,69,78,68,45,69,86,65,76,85,65,84,69,32,69,78,68,45,73,70,32,69,78,68,45,77,85,76,84,73,80,76,89,32,69,78,68,45,80,69,82,70,79,82,77,32,69,78,68,45,82,69,65,68,32,69,78,68,45,82,69,84,85,82,78,32,69,78,68,45,82,69,87,82,73,84,69,32,69,78,68,45,83,69,65,82,67,72,32,69,78,68,45,83,84,65,82,84,32,69,78,68,45,83,84,82,73,78,71,32,69,78,68,45,83,85,66,84,82,65,67,84,32,69,78,68,45,85,78,83,84,82,73,78,71,32,69,78,68,45,87,82,73,84,69,32,69,78,86,73,82,79,78,77,69,78,84,32,69,81,85,65,76,32,69,82,82,79,82,32,69,86,65,76,85,65,84,69,32,69,88,67,69,80,84,73,79,78,32,69,88,73,84,32,69,88,84,69,78,68,32,69,88,84,69,82,78,65,76,32,70,65,76,83,69,32,70,68,32,70,73,76,69,32,70,73,76,69,45,67,79,78,84,82,79,76,32,70,73,76,76,69,82,32,70,73,82,83,84,32,70,79,82,32,70,82,79,77,32,71,73,86,73,78,71,32,71,76,79,66,65,76,32,71,79,32,71,82,69,65,84,69,82,32,72,73,71,72,45,86,65,76,85,69,32,72,73,71,72,45,86,65,76,85,69,83,32,73,45,79,32,73,45,79,45,67,79,78,84,82,79,76,32,73,68,69,78,84,73,70,73,67,65,84,73,79,78,32,73,70,32,73,78,32,73,78,68,69,88,32,73,78,68,69,88,69,68,32,73,78,73,84,73,65,76,32,73,78,73,84,73,65,76,73,90,69,32,73,78,80,85,84,32,73,78,80,85,84,45,79,85,84,80,85,84,32,73,78,83,80,69,67,84,32,73,78,83,84,65,76,76,65,84,73,79,78,32,73,78,84,79,32,73,78,86,65,76,73,68,32,73,83,32,74,85,83,84,32,74,85,83,84,73,70,73,69,68,32,75,69,89,32,76,65,66,69,76,32,76,69,65,68,73,78,71,32,76,69,70,84,32,76,69,83,83,32,76,73,78,69,32,76,73,78,69,83,32,76,73,78,75,65,71,69,32,76,79,67,75,32,76,79,87,45,86,65,76,85,69,32,76,79,87,45,86,65,76,85,69,83,32,77,69,82,71,69,32,77,79,68,69,32,77,79,86,69,32,77,85,76,84,73,80,76,89,32,78,65,84,73,86,69,32,78,69,71,65,84,73,86,69,32,78,69,88,84,32,78,79,32,78,79,84,32,78,85,77,69,82,73,67,32,78,85,77,69,82,73,67,45,69,68,73,84,69,68,32,79,66,74,69,67,84,45,67,79,77,80,85,84,69,82,32,79,67,67,85,82,83,32,79,70,32,79,70,70,32,79,77,73,84,84,69,68,32,79,78,32,79,80,69,78,32,79,80,84,73,79,78,65,76,32,79,82,32,79,82,68,69,82,32,79,82,71,65,78,73,90,65,84,73,79,78,32,79,84,72,69,82,32,79,85,84,80,85,84,32,79,86,69,82,70,76,79,87,32,80,65,67,75,69,68,45,68,69,67,73,77,65,76,32,80,69,82,70,79,82,77,32,80,73,67,32,80,73,67,84,85,82,69,32,80,79,73,78,84,69,82,32,80,79,83,73,84,73,86,69,32,80,82,79,67,69,68,85,82,69,32,80,82,79,67,69,69,68,32,80,82,79,71,82,65,77,32,80,82,79,71,82,65,77,45,73,68,32,81,85,79,84,69,32,81,85,79,84,69,83,32,82,65,78,68,79,77,32,82,69,65,68,32,82,69,67,79,82,68,32,82,69,67,79,82,68,83,32,82,69,68,69,70,73,78,69,83,32,82,69,70,69,82,69,78,67,69,32,82,69,76,65,84,73,86,69,32,82,69,76,69,65,83,69,32,82,69,77,65,73,78,68,69,82,32,82,69,78,65,77,69,83,32,82,69,80,76,65,67,69,32,82,69,80,76,65,67,73,78,71,32,82,69,84,85,82,78,32,82,69,87,82,73,84,69,32,82,73,71,72,84,32,82,79,85,78,68,69,68,32,82,85,78,32,83,65,77,69,32,83,68,32,83,69,65,82,67,72,32,83,69,67,84,73,79,78,32,83,69,67,85,82,73,84,89,32,83,69,76,69,67,84,32,83,69,78,84,69,78,67,69,32,83,69,80,65,82,65,84,69,32,83,69,81,85,69,78,84,73,65,76,32,83,69,84,32,83,73,71,78,32,83,73,90,69,32,83,79,82,84,32,83,79,82,84,45,77,69,82,71,69,32,83,79,85,82,67,69,45,67,79,77,80,85,84,69,82,32,83,80,65,67,69,32,83,80,65,67,69,83,32,83,80,69,67,73,65,76,45,78,65,77,69,83,32,83,84,65,78,68,65,82,68,32,83,84,65,82,84,32,83,84,65,84,85,83,32,83,84,79,80,32,83,84,82,73,78,71,32,83,85,66,84,82,65,67,84,32,83,89,78,67,32,83,89,78,67,72,82,79,78,73,90,69,68,32,84,65,76,76,89,73,78,71,32,84,69,83,84,32,84,72,65,78,32,84,72,69,78,32,84,72,82,79,85,71,72,32,84,72,82,85,32,84,73,77,69,83,32,84,79,32,84,82,65,73,76,73,78,71,32,84,82,85,69,32,85,78,83,84,82,73,78,71,32,85,78,84,73,76,32,85,80,32,85,80,79,78,32,85,83,65,71,69,32,85,83,73,78,71,32,86,65,76,85,69,32,86,65,76,85,69,83,32,86,65,82,89,73,78,71,32,87,72,69,78,32,87,73,84,72,32,87,79,82,75,73,78,71,45,83,84,79,82,65,71,69,32,87,82,73,84,69,32,90,69,82,79,32,90,69,82,79,69,83,32,90,69,82,79,83,32])) .au .au) (.node (some (.fn 903)) .au .au)) (.node (some (.fn 32)) (.node (some (.fn 58)) .au .au) (.node (some (.fn 67)) .au .au))) (.node (some (.int 20)) (.node (some (.dict [([71,82,69,65,84,69,82],.str [62]),([76,69,83,83],.str [60]),([69,81,85,65,76],.str [61])])) (.node (some (.str [32,90,69,82,79,32,90,69,82,79,83,32,90,69,82,79,69,83,32,83,80,65,67,69,32,83,80,65,67,69,83,32,72,73,71,72,45,86,65,76,85,69,32,72,73,71,72,45,86,65,76,85,69,83,32,76,79,87,45,86,65,76,85,69,32,76,79,87,45,86,65,76,85,69,83,32,81,85,79,84,69,32,81,85,79,84,69,83,32,65,76,76,32])) .au .au) (.node (some (.fn 82)) .au .au)) (.node (some (.fn 35)) (.node (some (.fn 76)) .au .au) .au))) (.node (some (.dict [([90,69,82,79],.str [90,69,82,79]),([90,69,82,79,83],.str [90,69,82,79]),([90,69,82,79,69,83],.str [90,69,82,79]),([83,80,65,67,69],.str [83,80,65,67,69]),([83,80,65,67,69,83],.str [83,80,65,67,69]),([72,73,71,72,45,86,65,76,85,69],.str [72,73,71,72]),([72,73,71,72,45,86,65,76,85,69,83],.str [72,73,71,72]),([76,79,87,45,86,65,76,85,69],.str [76,79,87]),([76,79,87,45,86,65,76,85,69,83],.str [76,79,87]),([81,85,79,84,69],.str [81,85,79,84,69]),([81,85,79,84,69,83],.str [81,85,79,84,69])])) (.node (some (.fn 4)) (.node (some (.fn 15)) (.node (some (.fn 51)) .au .au) (.node (some (.fn 50)) .au .au)) (.node (some (.fn 40)) (.node (some (.fn 55)) .au .au) .au)) (.node (some (.fn 22)) (.node (some (.dict [([80,79,83,73,84,73,86,69],.str [80,79,83,73,84,73,86,69]),([78,69,71,65,84,73,86,69],.str [78,69,71,65,84,73,86,69]),([90,69,82,79],.str [90,69,82,79]),([90,69,82,79,83],.str [90,69,82,79]),([90,69,82,79,69,83],.str [90,69,82,79])])) (.node (some (.fn 101)) .au .au) (.node (some (.fn 80)) .au .au)) (.node (some (.fn 38)) (.node (some (.fn 77)) .au .au) .au)))) (.node (some (.fn 906)) (.node (some (.fn 7)) (.node (some (.fn 13)) (.node none (.node (some (.int 255)) .au .au) (.node (some (.fn 49)) .au .au)) (.node (some (.fn 37)) (.node (some (.fn 65)) .au .au) .au)) (.node (some (.fn 17)) (.node (some (.fn 26)) (.node (some (.fn 56)) .au .au) (.node (some (.fn 78)) .au .au)) (.node (some (.fn 45)) (.node (some (.fn 75)) .au .au) .au))) (.node (some (.fn 9)) (.node (some (.fn 12)) (.node (some (.aT [.str [61],.str [60],.str [62],.str [60,61],.str [62,61]])) (.node (some (.fn 53)) .au .au) (.node (some (.fn 28)) .au .au)) (.node (some (.fn 42)) (.node (some (.fn 69)) .au .au) .au)) (.node (some (.fn 1)) (.node (some (.fn 31)) (.node (some (.fn 59)) .au .au) (.node (some (.fn 103)) .au .au)) (.node (some (.fn 46)) (.node (some (.fn 73)) .au .au) .au))))))
noncomputable def Yc:Tr Nat:=(.node none (.node none (.node none (.node none (.node none (.node (some 130) .au (.node (some 124) .au .au)) (.node (some 135) .au .au)) .au) (.node none (.node none (.node none (.node none (.node (some 121) .au .au) .au) .au) .au) (.node none (.node (some 123) .au .au) (.node none (.node (some 128) .au .au) .au)))) (.node none .au (.node none .au (.node none (.node (some 133) .au .au) (.node none (.node (some 126) .au .au) .au))))) (.node none (.node none (.node none (.node none (.node (some 120) .au .au) (.node (some 125) .au .au)) (.node none (.node (some 127) .au .au) .au)) (.node none (.node none (.node (some 131) .au .au) .au) (.node none (.node (some 122) .au .au) .au))) (.node none (.node none (.node none (.node (some 132) .au .au) .au) .au) (.node none (.node none (.node (some 129) .au .au) .au) (.node none (.node (some 134) .au .au) .au)))))
noncomputable def Yd:Tr Nat:=(.node none (.node none (.node none (.node none (.node none (.node none (.node none (.node (some 157) .au .au) .au) .au) .au) .au) (.node none (.node none .au (.node none .au (.node (some 151) .au .au))) .au)) (.node none (.node none .au (.node none .au (.node none .au (.node (some 156) .au .au)))) (.node none (.node none .au (.node none .au (.node (some 153) .au .au))) .au))) (.node none (.node none .au (.node none (.node none (.node none (.node none (.node (some 150) .au .au) .au) .au) (.node none .au (.node (some 152) .au .au))) (.node none .au (.node none .au (.node (some 155) .au .au))))) (.node none .au (.node none (.node none .au (.node none .au (.node (some 154) .au .au))) .au))))
def T0:Jc:=⟨Ms.get,Yc.get,Yd.get,cB 8388608,false⟩
mutual
noncomputable def cS:AV->Bool|.aT l=>gh l|.list l=>gh l|.sp _=>false|.pos _ _=>false|.lam _=>false|.eD=>false|.dict _=>false|_=>true
noncomputable def gh:List AV->Bool|[]=>true|a::r=>cS a&&gh r
end
noncomputable def dQ:List AV->Bool|[]=>true|.tok _ _::r=>dQ r|_=>false
def u9(O:By)(a:List Nat)(r:Nat)(ts:List AV)(g1:G):Option (AV×G):=
 (bm (ex 5000 (ev T0 O 60) 30) eJ ⟨[(26,.str a),(130,.fn r),(5,.sp 1)],none⟩ {g1 with rem:=ts,last:=.none}).bind λo=>match o with|.ret v g2=>grd (cS v) (some (v,{g2 with rem:=g1.rem,last:=g1.last}))|.next _ _=>none
def spec(O:By)(k:Nat)(vs:List AV)(g:G):Option (AV×G):=match Nat.beq k 100 with
 |true=>(two vs).bind λp=>(vStr p.1).bind λa=>(vStr p.2).bind λb=>some (.tok a b,g)|false=>match Nat.beq k 101 with|true=>(one vs).bind λp=>grd (D6 1 p) ((O 150 [.sp 3] {g with last:=.none}).bind λq=>grd (cS q.1) (some (q.1,{q.2 with last:=g.last})))|false=>match Nat.beq k 103 with|true=>(two vs).bind λp=>(vStr p.1).bind λa=>(Xn p.2).bind λr=>(O 71 [.str a] g).bind λq=>(jL q.1).bind λts=>grd (dQ ts) (u9 O a r ts q.2)|false=>match Nat.beq k 800 with|true=>(two vs).bind λp=>(vInt p.1).bind λd=>grd (D6 1 p.2) (O 18 [.sp 1,.int (d+1)] g)|false=>match Nat.beq k 801 with|true=>(two vs).bind λp=>(vStr p.1).bind λz_=>(D5 p.2).bind λz_=>some (.bool false,g)|false=>none
def OO:Nat->By|0=>λz_ z_ z_=>none|n+1=>λk vs g=>match yq.get k with|some fr=>uw T0 fr (OO n) vs g|none=>spec (OO n) k vs g
end
section
open PySem PySem.W PyProof.Rows PySem.Calls
section
def fT(s:Str)(l:List Nat):Bool:=fj s.cps.toList l
theorem bK(h:fT s l=true):s=bQ l:=by obtain⟨⟨x⟩⟩:=s;have:=ez.mp h;(clear h;subst this);rfl
def sL(a b:Str):Bool:=fj a.cps.toList b.cps.toList
theorem w7(h:sL a b=true):a=b:=by obtain⟨⟨x⟩⟩:=a;obtain⟨⟨y⟩⟩:=b;have:x=y:=ez.mp h;(clear h;subst this);rfl
theorem ke(a b:Str):(a==b)=sL a b:=by cases q:sL a b with|true=>rw[w7 q];exact bz b|false=>refine b8.mpr λe=>?_;subst e;rw[show sL a a=true from ez.mpr rfl]at q;exact il q
def jy(n:Str):List (Str×α)->Option α|[]=>none|p::r=>match sL n p.1 with|true=>some p.2|false=>jy n r
theorem eF(n:Str):∀l:List (Str×α),l.lookup n=jy n l
 |[]=>rfl|(m,a)::r=>by
  have e:jy n ((m,a)::r)=match sL n m with|true=>some a|false=>jy n r:=rfl
  rw[aQ,ke,eF n r,e];cases sL n m<;>rfl
noncomputable def pB:List α->Nat->Option α|[],_=>none|a::_,0=>some a|_::r,k+1=>pB r k
def gv(x:Nat):List Nat:=match pB Jt x with|some l=>l|none=>[1000000+x]
def gnN(x:Nat):List Nat:=match pB gnL x with|some l=>l|none=>[1000000+x]
def bJ(x:Nat):Str:=bQ (gv x)
def vX(x:Nat):Str:=bQ (gnN x)
def kb(l:List Nat):List (List Nat)->Bool|[]=>true|m::r=>match fj l m with|true=>false|false=>kb l r
def gM:List (List Nat)->Bool|[]=>true|l::r=>kb l r&&gM r
noncomputable def MG(l:List Nat):Bool:=match l with|[]=>false|c::_=>Nat.blt c 1000000
theorem w9(h:kb l (m::r)=true)(P:Prop)(k:fj l m=false->kb l r=true->P):P:=by have h:(match fj l m with|true=>false|false=>kb l r)=true:=h;cases q:fj l m with|true=>rw[q]at h;exact bq h|false=>rw[q]at h;exact k q h
theorem oC:∀{r:List (List Nat)} {i:Nat} {m:List Nat},kb l r=true->pB r i=some m->l≠m
 |[],i,m,_,h=>by exact aI h|a::r,i,m,h,e=>by
  refine w9 h _ λq h=>?_
  ·cases i with|zero=>(refine bD e λx=>?_;subst x);rintro rfl;rw[ez.mpr rfl]at q;exact il q|succ i=>exact oC (r:=r) h e
theorem xB:∀{r:List (List Nat)} {i j:Nat} {m:List Nat},gM r=true->pB r i=some m->pB r j=some m->i=j
 |[],i,j,m,_,h,_=>by exact aI h|a::r,i,j,m,h,e1,e2=>by
  have h':=bk.mp h;cases i with
  |zero=>cases j with|zero=>rfl|succ j=>(refine bD e1 λx=>?_;subst x);exact bc rfl (oC (r:=r) h'.1 e2)
  |succ i=>cases j with|zero=>(refine bD e2 λx=>?_;subst x);exact bc rfl (oC (r:=r) h'.1 e1)|succ j=>rw[xB (r:=r) h'.2 e1 e2]
theorem km:∀{r:List (List Nat)} {i:Nat} {m:List Nat},r.all p=true->pB r i=some m->p m=true|[],i,m,_,h=>by exact aI h|a::r,i,m,h,e=>by rw[List.all_cons,aV]at h;cases i with|zero=>(refine bD e λx=>?_;subst x);exact h.1|succ i=>exact km (r:=r) h.2 e
theorem F7:(gM Jt&&Jt.all MG)=true:=by kernel_rfl
theorem IQ(h:gv i=gv j):i=j:=by
 refine aG (bk.mp F7) λh1 h2=>?_;unfold gv at h;cases e1:pB Jt i with
 |some l=>cases e2:pB Jt j with|some m=>rw[e1,e2]at h;have h:=h;subst h;exact xB h1 e1 e2|none=>rw[e1,e2]at h;have h:=h;subst h;have:=km h2 e1;have:=aa this;exact oM0 this
 |none=>cases e2:pB Jt j with|some m=>rw[e1,e2]at h;have h:=h;subst h;have:=km h2 e2;have:=aa this;exact oM1 this|none=>rw[e1,e2]at h;have h:=h;simp only[List.cons.injEq,cr]at h;exact oM2 h
theorem u6(h:bQ a=bQ b):a=b:=by have:=congrArg (λs:Str=>s.cps.toList) h;exact this
theorem fi(i j)(h:bJ i=bJ j):i=j:=IQ (u6 h)
def sd(l:List Nat):Bool:=!(fj l [95,95,100,101,98,117,103,95,95])&&!(fj l [95,95,99,108,97,115,115,100,105,99,116,95,95])&&!(fj l [46,48])
theorem Ga:(Jt.all sd&&gnL.all sd)=true:=by kernel_rfl
theorem Q1:Str.ofString "__debug__"=bQ [95,95,100,101,98,117,103,95,95]:=by kernel_rfl
theorem Q2:Str.ofString "__classdict__"=bQ [95,95,99,108,97,115,115,100,105,99,116,95,95]:=by kernel_rfl
theorem xC(h:sd l=true):(bQ l==("__debug__":Str))=false/\(bQ l==("__classdict__":Str))=false/\fj l [46,48]=false:=by
 refine aG (bk.mp h) λh h3=>aG (bk.mp h) λh1 h2=>⟨?_,?_,by simpa using h3⟩
 ·skip;rw[Q1,ke];show fj l _=false;simpa using h1
 ·skip;rw[Q2,ke];show fj l _=false;simpa using h2
theorem tY(x):sd [1000000+x]=true:=by
 have a:∀k,k<1000->Nat.beq (1000000+x) k=false:=λk hk=>by cases q:Nat.beq (1000000+x) k with|false=>rfl|true=>exact bc (aj q) (oM3 hk)
 have b:∀k r,k<1000->fj [1000000+x] (k::r)=false:=λk r hk=>by show(match Nat.beq (1000000+x) k with|true=>fj [] r|false=>false)=false;rw[a k hk]
 unfold sd;rw[b _ _ (by decide),b _ _ (by decide),b _ _ (by decide)];rfl
theorem bH(x):(bJ x==("__debug__":Str))=false/\(bJ x==("__classdict__":Str))=false/\fj (gv x) [46,48]=false:=by refine xC ?_;unfold gv;cases e:pB Jt x with|some l=>exact km (bk.mp Ga).1 e|none=>exact tY x
theorem nN(x):(vX x==("__debug__":Str))=false:=by refine(xC ?_).1;unfold gnN;cases e:pB gnL x with|some l=>exact km (bk.mp Ga).2 e|none=>exact tY x
end
section
abbrev NS:=List (Str×NameKind)
noncomputable def dK(ns:NS):KK:=λx=>ns.lookup x
theorem jc(ns:NS)(x):dK ns x=jy x ns:=eF x ns
noncomputable def gi(o:Option NameKind):Bool:=decide (o=some .globalImplicit)
noncomputable def yt(o:Option NameKind):Bool:=decide (o=some .local)
noncomputable def Ib(o:Option NameKind):Bool:=decide (o=some .cell)||decide (o=some .free)
def kl(o:Option NameKind):Bool:=yt o||Ib o
theorem AJ(h:Ib o=true):o=some .cell∨o=some .free:=(bv.mp h).imp aU aU
theorem Ei(h:kl o=true):KL o:=(bv.mp h).imp aU AJ
theorem sX(h:gi o=true):o=some .globalImplicit:=aU h
theorem nP(h:yt o=true):o=some .local:=aU h
theorem tt(h:(a&&b)=true):a=true/\b=true:=bk.mp h
noncomputable def wG(e:Expr):Bool:=!Nat.beq e.ctorIdx 22
theorem qF(h:wG e=true):∀x p,e≠.Starred x p:=by rintro x p rfl;exact bq h
noncomputable def isFree:NameKind->Bool|.free=>true|_=>false
noncomputable def isCell(o:Option NameKind):Bool:=decide (o=some .cell)
def pv(ns:NS):NS->NS|[]=>[]|p::r=>(match isFree p.2&&isCell (jy p.1 ns)with|true=>(p.1,.cell)|false=>p)::pv ns r
theorem uJ(ns:NS):∀l:NS,pv ns l=l.map λ(n,k)=>if(k==.free&&dK ns n==some .cell)then(n,.cell)else(n,k)
 |[]=>rfl|(n,k)::r=>by
  have e:pv ns ((n,k)::r)=(match isFree k&&isCell (jy n ns)with|true=>(n,.cell)|false=>(n,k))::pv ns r:=rfl;rw[e,uJ ns r,aC];congr 1;show _=if(k==.free&&dK ns n==some .cell)=true then(n,NameKind.cell)else(n,k)
  rw[jc];cases k with
  |free=>cases jy n ns with|none=>rfl|some q=>cases q<;>rfl
  |_=>rfl
section view
theorem dC[Decidable c]{f:c->Bool}{P:Prop}(H:(if h:c then f h else false)=true)(K:∀h:c,f h=true->P):P:=by
 by_cases h:c
 ·rw[dif_pos h]at H;exact K h H
 ·rw[dif_neg h]at H;exact bq H
theorem tk{P:Prop}(H:(a&&b)=true)(K:a=true->b=true->P):P:=K (tt H).1 (tt H).2
noncomputable def EU(q:List (Option Expr)->List Expr->Pos->Bool)(e:Expr):Bool:=if h:e.ctorIdx=6 then Expr.Dict.elim e h q else false
@[elab_as_elim] theorem B7{q}{P:Expr->Prop}(H:EU q e=true)(K:∀a b c,q a b c=true->P (.Dict a b c)):P e:=dC H λh=>Expr.Dict.elim (motive_1:=λe=>∀h,Expr.Dict.elim e h q=true->P e) e h (λa b c z_=>K a b c) h
noncomputable def l8(q:Expr->List Comprehension->Scope->Pos->Bool)(e:Expr):Bool:=if h:e.ctorIdx=8 then Expr.ListComp.elim e h q else false
@[elab_as_elim] theorem lG{q}{P:Expr->Prop}(H:l8 q e=true)(K:∀a b c d,q a b c d=true->P (.ListComp a b c d)):P e:=dC H λh=>Expr.ListComp.elim (motive_1:=λe=>∀h,Expr.ListComp.elim e h q=true->P e) e h (λa b c d z_=>K a b c d) h
noncomputable def wP(q:BoolOp->List Expr->Pos->Bool)(e:Expr):Bool:=if h:e.ctorIdx=0 then Expr.BoolOp.elim e h q else false
@[elab_as_elim] theorem wQ{q}{P:Expr->Prop}(H:wP q e=true)(K:∀a b c,q a b c=true->P (.BoolOp a b c)):P e:=dC H λh=>Expr.BoolOp.elim (motive_1:=λe=>∀h,Expr.BoolOp.elim e h q=true->P e) e h (λa b c z_=>K a b c) h
noncomputable def AK(q:Expr->Operator->Expr->Pos->Bool)(e:Expr):Bool:=if h:e.ctorIdx=2 then Expr.BinOp.elim e h q else false
@[elab_as_elim] theorem ze{q}{P:Expr->Prop}(H:AK q e=true)(K:∀a b c d,q a b c d=true->P (.BinOp a b c d)):P e:=dC H λh=>Expr.BinOp.elim (motive_1:=λe=>∀h,Expr.BinOp.elim e h q=true->P e) e h (λa b c d z_=>K a b c d) h
noncomputable def tv(q:UnaryOp->Expr->Pos->Bool)(e:Expr):Bool:=if h:e.ctorIdx=3 then Expr.UnaryOp.elim e h q else false
@[elab_as_elim] theorem uU{q}{P:Expr->Prop}(H:tv q e=true)(K:∀a b c,q a b c=true->P (.UnaryOp a b c)):P e:=dC H λh=>Expr.UnaryOp.elim (motive_1:=λe=>∀h,Expr.UnaryOp.elim e h q=true->P e) e h (λa b c z_=>K a b c) h
noncomputable def mY(q:Arguments->Expr->Scope->Pos->Bool)(e:Expr):Bool:=if h:e.ctorIdx=4 then Expr.Lambda.elim e h q else false
@[elab_as_elim] theorem wR{q}{P:Expr->Prop}(H:mY q e=true)(K:∀a b c d,q a b c d=true->P (.Lambda a b c d)):P e:=dC H λh=>Expr.Lambda.elim (motive_1:=λe=>∀h,Expr.Lambda.elim e h q=true->P e) e h (λa b c d z_=>K a b c d) h
noncomputable def AL(q:Expr->Expr->Expr->Pos->Bool)(e:Expr):Bool:=if h:e.ctorIdx=5 then Expr.IfExp.elim e h q else false
@[elab_as_elim] theorem zf{q}{P:Expr->Prop}(H:AL q e=true)(K:∀a b c d,q a b c d=true->P (.IfExp a b c d)):P e:=dC H λh=>Expr.IfExp.elim (motive_1:=λe=>∀h,Expr.IfExp.elim e h q=true->P e) e h (λa b c d z_=>K a b c d) h
noncomputable def tw(q:Expr->List CmpOp->List Expr->Pos->Bool)(e:Expr):Bool:=if h:e.ctorIdx=15 then Expr.Compare.elim e h q else false
@[elab_as_elim] theorem uV{q}{P:Expr->Prop}(H:tw q e=true)(K:∀a b c d,q a b c d=true->P (.Compare a b c d)):P e:=dC H λh=>Expr.Compare.elim (motive_1:=λe=>∀h,Expr.Compare.elim e h q=true->P e) e h (λa b c d z_=>K a b c d) h
noncomputable def uW(q:Expr->List Expr->List Keyword->Pos->Bool)(e:Expr):Bool:=if h:e.ctorIdx=16 then Expr.Call.elim e h q else false
@[elab_as_elim] theorem oq{q}{P:Expr->Prop}(H:uW q e=true)(K:∀a b c d,q a b c d=true->P (.Call a b c d)):P e:=dC H λh=>Expr.Call.elim (motive_1:=λe=>∀h,Expr.Call.elim e h q=true->P e) e h (λa b c d z_=>K a b c d) h
noncomputable def rK(q:Const->Nat->Pos->Bool)(e:Expr):Bool:=if h:e.ctorIdx=19 then Expr.Constant.elim e h q else false
@[elab_as_elim] theorem dl{q}{P:Expr->Prop}(H:rK q e=true)(K:∀a b c,q a b c=true->P (.Constant a b c)):P e:=dC H λh=>Expr.Constant.elim (motive_1:=λe=>∀h,Expr.Constant.elim e h q=true->P e) e h (λa b c z_=>K a b c) h
noncomputable def eK(q:Expr->Str->Pos->Bool)(e:Expr):Bool:=if h:e.ctorIdx=20 then Expr.Attribute.elim e h q else false
@[elab_as_elim] theorem eL{q}{P:Expr->Prop}(H:eK q e=true)(K:∀a b c,q a b c=true->P (.Attribute a b c)):P e:=dC H λh=>Expr.Attribute.elim (motive_1:=λe=>∀h,Expr.Attribute.elim e h q=true->P e) e h (λa b c z_=>K a b c) h
noncomputable def j7(q:Expr->Expr->Pos->Bool)(e:Expr):Bool:=if h:e.ctorIdx=21 then Expr.Subscript.elim e h q else false
@[elab_as_elim] theorem j8{q}{P:Expr->Prop}(H:j7 q e=true)(K:∀a b c,q a b c=true->P (.Subscript a b c)):P e:=dC H λh=>Expr.Subscript.elim (motive_1:=λe=>∀h,Expr.Subscript.elim e h q=true->P e) e h (λa b c z_=>K a b c) h
noncomputable def uX(q:Str->Pos->Bool)(e:Expr):Bool:=if h:e.ctorIdx=23 then Expr.Name.elim e h q else false
@[elab_as_elim] theorem f9{q}{P:Expr->Prop}(H:uX q e=true)(K:∀a b,q a b=true->P (.Name a b)):P e:=dC H λh=>Expr.Name.elim (motive_1:=λe=>∀h,Expr.Name.elim e h q=true->P e) e h (λa b z_=>K a b) h
noncomputable def EX(q:List Expr->Pos->Bool)(e:Expr):Bool:=if h:e.ctorIdx=24 then Expr.List.elim e h q else false
@[elab_as_elim] theorem nQ{q}{P:Expr->Prop}(H:EX q e=true)(K:∀a b,q a b=true->P (.List a b)):P e:=dC H λh=>Expr.List.elim (motive_1:=λe=>∀h,Expr.List.elim e h q=true->P e) e h (λa b z_=>K a b) h
noncomputable def pS(q:List Expr->Nat->Pos->Bool)(e:Expr):Bool:=if h:e.ctorIdx=25 then Expr.Tuple.elim e h q else false
@[elab_as_elim] theorem l0{q}{P:Expr->Prop}(H:pS q e=true)(K:∀a b c,q a b c=true->P (.Tuple a b c)):P e:=dC H λh=>Expr.Tuple.elim (motive_1:=λe=>∀h,Expr.Tuple.elim e h q=true->P e) e h (λa b c z_=>K a b c) h
noncomputable def AM(q:Option Expr->Option Expr->Option Expr->Pos->Bool)(e:Expr):Bool:=if h:e.ctorIdx=26 then Expr.Slice.elim e h q else false
@[elab_as_elim] theorem zg{q}{P:Expr->Prop}(H:AM q e=true)(K:∀a b c d,q a b c d=true->P (.Slice a b c d)):P e:=dC H λh=>Expr.Slice.elim (motive_1:=λe=>∀h,Expr.Slice.elim e h q=true->P e) e h (λa b c d z_=>K a b c d) h
noncomputable def wS(q:Option Expr->Pos->Bool)(e:Stmt):Bool:=if h:e.ctorIdx=3 then Stmt.Return.elim e h q else false
@[elab_as_elim] theorem wT{q}{P:Stmt->Prop}(H:wS q e=true)(K:∀a b,q a b=true->P (.Return a b)):P e:=dC H λh=>Stmt.Return.elim (motive_2:=λe=>∀h,Stmt.Return.elim e h q=true->P e) e h (λa b z_=>K a b) h
noncomputable def j9(q:List Expr->Expr->Pos->Bool)(e:Stmt):Bool:=if h:e.ctorIdx=5 then Stmt.Assign.elim e h q else false
@[elab_as_elim] theorem iA{q}{P:Stmt->Prop}(H:j9 q e=true)(K:∀a b c,q a b c=true->P (.Assign a b c)):P e:=dC H λh=>Stmt.Assign.elim (motive_2:=λe=>∀h,Stmt.Assign.elim e h q=true->P e) e h (λa b c z_=>K a b c) h
noncomputable def JO(q:Expr->Expr->List Stmt->List Stmt->Pos->Bool)(e:Stmt):Bool:=if h:e.ctorIdx=9 then Stmt.For.elim e h q else false
@[elab_as_elim] theorem EY{q}{P:Stmt->Prop}(H:JO q e=true)(K:∀a b c d e,q a b c d e=true->P (.For a b c d e)):P e:=dC H λh=>Stmt.For.elim (motive_2:=λe=>∀h,Stmt.For.elim e h q=true->P e) e h (λa b c d e z_=>K a b c d e) h
noncomputable def AN(q:Expr->List Stmt->List Stmt->Pos->Bool)(e:Stmt):Bool:=if h:e.ctorIdx=11 then Stmt.While.elim e h q else false
@[elab_as_elim] theorem zh{q}{P:Stmt->Prop}(H:AN q e=true)(K:∀a b c d,q a b c d=true->P (.While a b c d)):P e:=dC H λh=>Stmt.While.elim (motive_2:=λe=>∀h,Stmt.While.elim e h q=true->P e) e h (λa b c d z_=>K a b c d) h
noncomputable def Qq(q:Expr->List Stmt->List Stmt->Pos->Bool)(e:Stmt):Bool:=if h:e.ctorIdx=12 then Stmt.If.elim e h q else false
@[elab_as_elim] theorem Ie{q}{P:Stmt->Prop}(H:Qq q e=true)(K:∀a b c d,q a b c d=true->P (.If a b c d)):P e:=dC H λh=>Stmt.If.elim (motive_2:=λe=>∀h,Stmt.If.elim e h q=true->P e) e h (λa b c d z_=>K a b c d) h
noncomputable def JP(q:List Stmt->List ExceptHandler->List Stmt->List Stmt->Pos->Bool)(e:Stmt):Bool:=if h:e.ctorIdx=17 then Stmt.Try.elim e h q else false
@[elab_as_elim] theorem EZ{q}{P:Stmt->Prop}(H:JP q e=true)(K:∀a b c d e,q a b c d e=true->P (.Try a b c d e)):P e:=dC H λh=>Stmt.Try.elim (motive_2:=λe=>∀h,Stmt.Try.elim e h q=true->P e) e h (λa b c d e z_=>K a b c d e) h
noncomputable def E0(q:Expr->Pos->Bool)(e:Stmt):Bool:=if h:e.ctorIdx=24 then Stmt.Expr.elim e h q else false
@[elab_as_elim] theorem nR{q}{P:Stmt->Prop}(H:E0 q e=true)(K:∀a b,q a b=true->P (.Expr a b)):P e:=dC H λh=>Stmt.Expr.elim (motive_2:=λe=>∀h,Stmt.Expr.elim e h q=true->P e) e h (λa b z_=>K a b) h
noncomputable def nilB:List α->Bool|[]=>true|_::_=>false
theorem jb(h:nilB l=true):l=[]:=by cases l with|nil=>rfl|cons a l=>exact bq h
@[elab_as_elim] theorem iB{P:List α->Prop}(h:nilB l=true)(K:P []):P l:=by rw[jb h];exact K
def kS(q:α->Bool)(l:List α):Bool:=match l with|[]=>false|a::r=>q a&&nilB r
@[elab_as_elim] theorem eV{q:α->Bool}{P:List α->Prop}(h:kS q l=true)(K:∀a,q a=true->P [a]):P l:=by cases l with|nil=>exact bq h|cons a l=>exact iB (tt h).2 (K a (tt h).1)
def EW(q r:α->Bool)(l:List α):Bool:=match l with|[]=>false|a::t=>q a&&kS r t
@[elab_as_elim] theorem Aq{P:List α->Prop}(h:EW q r l=true)(K:∀a b,q a=true->r b=true->P [a,b]):P l:=by cases l with|nil=>exact bq h|cons a l=>exact eV (tt h).2 λb=>K a b (tt h).1
theorem zQ{l:List α}(h:kS q l=true):∃a,l=[a]/\q a=true:=eV h λa h=>⟨a,rfl,h⟩
theorem zD{l:List α}(h:EW q r l=true):∃a b,l=[a,b]/\q a=true/\r b=true:=Aq h λa b h k=>⟨a,b,rfl,h,k⟩
section
variable{f g h:Expr->Bool}{fs:List Expr->Bool}{P:Expr->Prop}{e:Expr}
def JN(f:Expr->Bool)(n:Nat):Expr->Bool:=eK λeo s z_=>fT s (gv n)&&en eo&&f eo
@[elab_as_elim] theorem Em{n:Nat}(H:JN f n e=true)(K:∀eo p,en eo=true->f eo=true->P (.Attribute eo (bJ n) p)):P e:=eL H λa s p H=>tk H λh h2=>tk h λh1 h3=>by rw[bK h1];exact K a p h3 h2
def ET(f g:Expr->Bool):Expr->Bool:=j7 λeo i z_=>f eo&&g i
@[elab_as_elim] theorem pP(H:ET f g e=true)(K:∀a b p,f a=true->g b=true->P (.Subscript a b p)):P e:=j8 H λa b p H=>tk H (K a b p)
noncomputable def AI:Option Expr->Bool|none=>true|some _=>false
noncomputable def tu(f:Expr->Bool):Option Expr->Bool|some e=>f e|none=>false
@[elab_as_elim] theorem ru{P:Option Expr->Prop}(H:AI o=true)(K:P none):P o:=by cases o with|none=>exact K|some e=>exact bq H
@[elab_as_elim] theorem j4{P:Option Expr->Prop}(H:tu f o=true)(K:∀e,f e=true->P (some e)):P o:=by cases o with|none=>exact bq H|some e=>exact K e H
def Sk(f g:Option Expr->Bool):Expr->Bool:=AM λlo hi st z_=>AI st&&(f lo&&g hi)
@[elab_as_elim] theorem yX{f g:Option Expr->Bool}(H:Sk f g e=true)(K:∀a b p,f a=true->g b=true->P (.Slice a b none p)):P e:=zg H λa b c p H=>tk H λh1 h2=>ru h1 (tk h2 (K a b p))
def H9(fs:List Expr->Bool):Expr->Bool:=pS λes z_ z_=>fs es
theorem Ig(H:H9 fs e=true):∃es k p,e=.Tuple es k p/\fs es=true:=l0 H λa b c h=>⟨a,b,c,rfl,h⟩
def Me(fs:List Expr->Bool):Expr->Bool:=EX λes z_=>fs es
def Ic(op:Operator)(f g:Expr->Bool):Expr->Bool:=AK λa o b z_=>decide (o=op)&&f a&&g b
@[elab_as_elim] theorem Ao{op:Operator}(H:Ic op f g e=true)(K:∀a b p,f a=true->g b=true->P (.BinOp a op b p)):P e:=ze H λa o b p H=>tk H λh h2=>tk h λh1 h3=>by rw[aU h1];exact K a b p h3 h2
def UX(op:UnaryOp)(f:Expr->Bool):Expr->Bool:=tv λo a z_=>decide (o=op)&&f a
@[elab_as_elim] theorem En{op:UnaryOp}(H:UX op f e=true)(K:∀a p,f a=true->P (.UnaryOp op a p)):P e:=uU H λo a p H=>tk H λh1 h2=>by rw[aU h1];exact K a p h2
def EV(op:BoolOp)(fs:List Expr->Bool):Expr->Bool:=wP λo a z_=>decide (o=op)&&fs a
@[elab_as_elim] theorem wE{op:BoolOp}(H:EV op fs e=true)(K:∀a p,fs a=true->P (.BoolOp op a p)):P e:=wQ H λo a p H=>tk H λh1 h2=>by rw[aU h1];exact K a p h2
def Id(op:CmpOp)(f g:Expr->Bool):Expr->Bool:=tw λa os bs z_=>kS (λo=>decide (o=op)) os&&f a&&kS g bs
@[elab_as_elim] theorem Ap{op:CmpOp}(H:Id op f g e=true)(K:∀a b p,f a=true->g b=true->P (.Compare a [op] [b] p)):P e:=uV H λa os bs p H=>tk H λh h2=>tk h λh1 h3=>eV h1 λo h1=>eV h2 λb h2=>by rw[aU h1];exact K a b p h3 h2
theorem GJ(H:Id op f g e=true):∃a b p,e=.Compare a [op] [b] p/\f a=true/\g b=true:=Ap H λa b p h k=>⟨a,b,p,rfl,h,k⟩
def XT(f g h:Expr->Bool):Expr->Bool:=AL λa b c z_=>f a&&g b&&h c
@[elab_as_elim] theorem LM(H:XT f g h e=true)(K:∀a b c p,f a=true->g b=true->h c=true->P (.IfExp a b c p)):P e:=zf H λa b c p H=>tk H λh h3=>tk h λh1 h2=>K a b c p h1 h2 h3
def jv(p1:Str->Bool):Expr->Bool:=uX λs z_=>p1 s
theorem gY{p1:Str->Bool}(H:jv p1 e=true):∃s p,e=.Name s p/\p1 s=true:=f9 H λa b h=>⟨a,b,rfl,h⟩
def iz(p1:Str->Bool)(fs:List Expr->Bool):Expr->Bool:=uW λfn es ks z_=>jv p1 fn&&fs es&&nilB ks
@[elab_as_elim] theorem i3{p1:Str->Bool}(H:iz p1 fs e=true)(K:∀s es p p',p1 s=true->fs es=true->P (.Call (.Name s p') es [] p)):P e:=oq H λfn es ks p H=>tk H λh h2=>tk h λh1 h3=>f9 h1 λs p' h1=>iB h2 (K s es p p' h1 h3)
theorem Dv(H:iz p1 fs e=true):∃s es p p',e=.Call (.Name s p') es [] p/\p1 s=true/\fs es=true:=i3 H λs es p p' h k=>⟨s,es,p,p',rfl,h,k⟩
def wF(f:Expr->Bool)(m:Nat)(fs:List Expr->Bool):Expr->Bool:=uW λfn es ks p=>eK (λeo s ap=>fT s (gv m)&&en eo&&(ap.endLine==p.line)&&f eo) fn&&fs es&&nilB ks
@[elab_as_elim] theorem rx{m:Nat}(H:wF f m fs e=true)(K:∀eo ap es p,en eo=true->(ap.endLine==p.line)=true->f eo=true->fs es=true->P (.Call (.Attribute eo (bJ m) ap) es [] p)):P e:=oq H λfn es ks p H=>tk H λh h2=>tk h λh1 h5=>iB h2 (eL h1 λeo s ap h1=>tk h1 λh h4=>tk h λh h3=>tk h λh1 h6=>by rw[bK h1];exact K eo ap es p h6 h3 h4 h5)
def jd(q:Const->Bool):Expr->Bool:=rK λc z_ z_=>q c
theorem BJ{q:Const->Bool}(H:jd q e=true):∃c k p,e=.Constant c k p/\q c=true:=dl H λa b c h=>⟨a,b,c,rfl,h⟩
theorem qf{q}(H:eK q e=true):∃a b c,e=.Attribute a b c/\q a b c=true:=eL H λa b c h=>⟨a,b,c,rfl,h⟩
theorem jC{q}(H:mY q e=true):∃a b c d,e=.Lambda a b c d/\q a b c d=true:=wR H λa b c d h=>⟨a,b,c,d,rfl,h⟩
theorem G9(H:Ic op f g e=true):∃a b p,e=.BinOp a op b p/\f a=true/\g b=true:=Ao H λa b p h k=>⟨a,b,p,rfl,h,k⟩
end
noncomputable def zi(q:Int->Bool)(e:Const):Bool:=if h:e.ctorIdx=2 then Const.int.elim e h q else false
@[elab_as_elim] theorem ti{q}{P:Const->Prop}(H:zi q e=true)(K:∀a,q a=true->P (.int a)):P e:=dC H λh=>Const.int.elim (motive:=λe=>∀h,Const.int.elim e h q=true->P e) e h (λa z_=>K a) h
noncomputable def uT(q:Str->Bool)(e:Const):Bool:=if h:e.ctorIdx=5 then Const.str.elim e h q else false
@[elab_as_elim] theorem n9{q}{P:Const->Prop}(H:uT q e=true)(K:∀a,q a=true->P (.str a)):P e:=dC H λh=>Const.str.elim (motive:=λe=>∀h,Const.str.elim e h q=true->P e) e h (λa z_=>K a) h
noncomputable def AO(q:Bool->Bool)(e:Const):Bool:=if h:e.ctorIdx=1 then Const.bool.elim e h q else false
@[elab_as_elim] theorem yV{q}{P:Const->Prop}(H:AO q e=true)(K:∀a,q a=true->P (.bool a)):P e:=dC H λh=>Const.bool.elim (motive:=λe=>∀h,Const.bool.elim e h q=true->P e) e h (λa z_=>K a) h
noncomputable def wU(q:List UInt8->Bool)(e:Const):Bool:=if h:e.ctorIdx=6 then Const.bytes.elim e h q else false
@[elab_as_elim] theorem wD{q}{P:Const->Prop}(H:wU q e=true)(K:∀a,q a=true->P (.bytes a)):P e:=dC H λh=>Const.bytes.elim (motive:=λe=>∀h,Const.bytes.elim e h q=true->P e) e h (λa z_=>K a) h
theorem BK(h:zi q c=true):∃x,c=.int x/\q x=true:=ti h λa h=>⟨a,rfl,h⟩
def Qo(i:Int):Const->Bool:=zi λj=>decide (j=i)
def UW(l:List Nat):Const->Bool:=uT λs=>fT s l&&cB 16777216 l
noncomputable def JM(c:Const):Bool:=Nat.beq c.ctorIdx 0
theorem El(h:JM c=true):c=.none:=by induction c using Const.casesOn<;>first|exact bq h|rfl
def Qp(b:Bool):Const->Bool:=AO λc=>decide (c=b)
noncomputable def eqB:List UInt8->List Nat->Bool|[],[]=>true|a::r,b::t=>Nat.beq a.toNat b&&eqB r t|_,_=>false
def Md(l:List Nat):Const->Bool:=wU λb=>eqB b l
theorem yW:∀{a:List UInt8} {l:List Nat},eqB a l=true->a=l.map UInt8.ofNat/\∀x∈l,x<256
 |[],[],_=>⟨rfl,λx hx=>by cases hx⟩|[],_::_,h=>by exact bq h|_::_,[],h=>by exact bq h|a::r,b::t,h=>by
  refine aG (tt h) λh1 h2=>?_;have h1:=aj h1;refine aG (yW h2) λh3 h4=>?_;(clear h;subst h1);refine⟨by rw[aC,h3];congr 1;exact(UInt8.ofNat_toNat).symm,λx hx=>?_⟩;refine Or.elim (am.mp hx) (λoz=>?_) λhx=>?_;(subst oz)
  ·exact a.toNat_lt
  ·exact h4 x hx
end view
end
section
def An(ns:NS)(x:Nat)(s:Str):Bool:=fT s (gv x)&&kl (jy s ns)
def i0(ns:NS)(k:Nat)(s:Str):Bool:=fT s (gnN k)&&gi (jy s ns)
noncomputable def EP(x:Nat):List Nat->Bool|[]=>false|y::r=>Nat.beq x y||EP x r
def sE:List Nat->Bool|[]=>true|x::r=>!EP x r&&sE r
def lW:List Nat->List Expr->Bool|[],[]=>true|x::r,e::t=>jv (λs=>fT s (gv x)) e&&lW r t|[],_::_=>false|_::_,[]=>false
def Qm(bI:List Nat)(s:Str):Bool:=kS (λx=>fT s (gv x)) bI
def BP(bI:List Nat)(dB:Bool)(e:Expr):Bool:=match dB with|false=>jv (Qm bI) e|true=>H9 (lW bI) e
def wO(s:Str):List Nat->Bool|[]=>false|x::r=>fT s (gv x)||wO s r
theorem nI(h:isCell o=true):o=some .cell:=aU h
def KU(ns:NS)(bI:List Nat)(all:NS):NS->Bool|[]=>true|p::r=>(match p.2 with|.cell=>false|.local=>(wO p.1 bI||fT p.1 [46,48])&&yt (jy p.1 all)|.free=>Ib (jy p.1 ns)|_=>true)&&KU ns bI all r
noncomputable def ja:ScopeKind->Bool|.function=>true|_=>false
noncomputable def UU(a:PyData):Option Int:=match a with|.int i=>some i|_=>none
noncomputable def UV(a:PyData):Option Str:=match a with|.str i=>some i|_=>none
theorem EQ(h:UU a=some i):a=.int i:=by induction a using PyData.casesOn<;>first|exact aI h|exact congrArg _ (bD h id)
theorem ER(h:UV a=some i):a=.str i:=by induction a using PyData.casesOn<;>first|exact aI h|exact congrArg _ (bD h id)
def ES(a b:PyData):Bool:=oB (UU a) (λi=>oB (UU b) λj=>decide (i=j))||oB (UV a) λi=>oB (UV b) λj=>sL i j
def AH:List (PyData×PyData)->List (PyData×PyData)->Bool|[],[]=>true|p::r,q::t=>ES p.1 q.1&&ES p.2 q.2&&AH r t|_,_=>false
noncomputable def rJ:List (List Nat×AV)->List (List Nat)|[]=>[]|p::r=>p.1::rJ r
def uS:List (List Nat×AV)->Bool|[]=>true|p::r=>(match p.2 with|.str x=>cB 16777216 x|.int _=>true|_=>false)&&uS r
def Qn(l:List (List Nat×AV))(ks:List (Option Expr))(vs:List Expr):Bool:=oB (litPairs ks vs) λD=>oB (vI l) λD'=>AH D D'&&gM (rJ l)&&Nat.ble ks.length 15&&Nat.blt 0 ks.length&&Nat.beq ks.length vs.length&&ks.all (·.isSome)&&uS l
variable(lb:Expr->Bool)
mutual
def dH:PE->NS->Expr->Bool
 |.aq i,_=>jd (Qo i)|.ak l,_=>jd (UW l)|.ck,_=>jd JM|.cBool b,_=>jd (Qp b)|.dx l,_=>jd (Md l)|.ah x,ns=>jv (An ns x)|.dD k,ns=>jv (i0 ns k)|.attr o a,ns=>JN (dH o ns) a|.sub o i,ns=>ET (dH o ns) (dH i ns)|.eC o lo,ns=>ET (dH o ns) (Sk (tu (dH lo ns)) AI)|.fU o hi,ns=>ET (dH o ns) (Sk AI (tu (dH hi ns)))|.jw o lo hi,ns=>ET (dH o ns) (Sk (tu (dH lo ns)) (tu (dH hi ns)))|.aT es,ns=>H9 (dW es ns)|.lst es,ns=>Me (dW es ns)|.iI l,_=>EU λks vs z_=>Qn l ks vs|.bin op a b,ns=>Ic op (dH a ns) (dH b ns)|.dE a,ns=>UX .Not (dH a ns)|.neg a,ns=>UX .USub (dH a ns)|.dF es,ns=>EV .And (dW es ns)|.lM es,ns=>EV .Or (dW es ns)|.cmp op a b,ns=>Id op (dH a ns) (dH b ns)|.ite t a b,ns=>XT (dH t ns) (dH a ns) (dH b ns)|.ai k args,ns=>iz (i0 ns k) (dW args ns)|.dM x args,ns=>iz (An ns x) (dW args ns)|.aY o m args,ns=>λe=>(Nat.blt args.length 30)&&wF (dH o ns) m (dW args ns) e|.joinR o x,ns=>wF (dH o ns) 10 (kS λe=>iz (i0 ns 37) (kS λe=>wG e&&dH x ns e) e)|.dS o ch y,ns=>wF (dH o ns) 11 (EW (jd (uT λa=>fT a [ch])) (jd (uT λb=>fT b y)))
 |.comp elt bI dB ik ies cond,ns=>l8 λfu gs sc z_=>kS (λcm=>decide (cm.is_async=0)&&ja sc.kind&&sE bI&&BP bI dB cm.target&&KU ns bI sc.names sc.names&&(bI.all λx=>yt (jy (bJ x) sc.names))&&dH elt (pv ns sc.names) fu&&dW cond (pv ns sc.names) cm.ifs&&
   (match ik with|0=>dW ies ns [cm.iter]|1=>iz (i0 ns 1) (dW ies ns) cm.iter&&Nat.beq ies.length 1|2=>iz (i0 ns 1) (dW ies ns) cm.iter&&Nat.beq ies.length 2|_=>false)) gs
 |.lamD x,ns=>λe=>Nat.beq x 7&&lb e&&isCell (jy (bJ 7) ns)|.ek x,ns=>iz (i0 ns 2) (kS (jv λs=>fT s (gv x)))
def dW:List PE->NS->List Expr->Bool|[],_=>λes=>(match es with|[]=>true|_=>false)|a::r,ns=>λes=>(match es with|e::t=>wG e&&dH a ns e&&dW r ns t|[]=>false)
end
end
section
structure uA(S:Sys)(lb:Expr->Bool):Prop where
 nm:S.nm=bJ
 gn:S.gn=vX
 g1:S.T.g6 1=some (.fn 910)
 g2:S.T.g6 2=some (.fn 900)
 XE:S.T.g6 37=some (.fn 912)
 lam:∀e,lb e=true->S.mi 7 e
 OS:∀x e,S.mi x e->∃a b c d,e=.Lambda a b c d
section
variable{S:Sys}{lb:Expr->Bool}(H:uA S lb)
include H
theorem LJ(h:An ns x s=true):s=S.nm x/\KL (dK ns (S.nm x))/\(S.nm x==("__debug__":Str))=false/\(S.nm x==("__classdict__":Str))=false:=by refine aG (tt h) λh1 h2=>?_;have e:s=bJ x:=bK h1;rw[H.nm,jc];exact⟨e,Ei (e▸h2),(bH x).1,(bH x).2.1⟩
theorem yU(h:i0 ns k s=true):s=S.gn k/\dK ns (S.gn k)=some .globalImplicit/\(S.gn k==("__debug__":Str))=false:=by refine aG (tt h) λh1 h2=>?_;have e:s=vX k:=bK h1;rw[H.gn,jc];exact⟨e,sX (e▸h2),nN k⟩
theorem kD:∀{bI:List Nat} {es:List Expr},lW bI es=true->es.length=bI.length/\∀(i x:Nat) (e:Expr),bI[i]?=some x->es[i]?=some e->∃px,e=Expr.Name (S.nm x) px|[],[],_=>⟨rfl,λi x e h=>by simp at h⟩|[],_::_,h=>by exact bq h|x::r,[],h=>by exact bq h|x::r,e::t,h=>by refine aG (tt h) λh1 h2=>bU (gY h1) λs p e9 h1=>aG (kD h2) λh3 h4=>⟨by rw[ac,ac,h3],λi y e hi he=>?_⟩;cases i with|zero=>(refine bD hi λx=>?_;subst x);(refine bD he λx=>?_;subst x);exact⟨p,by rw[e9,bK h1,H.nm];rfl⟩|succ i=>exact h4 i y e hi he
theorem DW(h:BP bI dB e=true):vJ S.nm bI dB e:=by cases dB with|false=>refine bU (gY (show jv (Qm bI) e=true from h)) λs p e1 h'=>?_;subst e1;refine aH (zQ h') λx e2 h'=>?_;exact .inl ⟨rfl,x,p,e2,by rw[bK h',H.nm];rfl⟩|true=>refine Bv (Ig (show H9 (lW bI) e=true from h)) λes k p e1 h'=>?_;subst e1;exact .inr ⟨rfl,es,k,p,rfl,kD H h'⟩
theorem w6:∀{bI:List Nat},wO s bI=true->∃x∈bI,S.nm x=s
 |[],h=>by exact bq h|x::r,h=>by
  refine Or.elim (bv.mp (show(fT s (gv x)||wO s r)=true from h)) (λq=>?_) λq=>?_
  ·exact⟨x,.head _,by rw[bK q,H.nm];rfl⟩
  ·refine aH (w6 q) λy h1 h2=>⟨y,.tail _ h1,h2⟩
theorem rs:∀{l:NS},KU ns bI all l=true->∀y∈l,y.2≠.cell/\(y.2=.local->((∃x∈bI,S.nm x=y.1)∨∀x,S.nm x≠y.1)/\all.lookup y.1=some .local)/\(y.2=.free->dK ns y.1=some .cell∨dK ns y.1=some .free)
 |[],_,y,hy=>by cases hy|p::r,h,y,hy=>by
  refine aG (tt (show((match p.2 with|.cell=>false|.local=>(wO p.1 bI||fT p.1 [46,48])&&yt (jy p.1 all)|.free=>Ib (jy p.1 ns)|_=>true)&&KU ns bI all r)=true from h)) λh1 h2=>?_;refine Or.elim (am.mp hy) (λoz=>?_) λhy=>?_;(subst oz)
  ·refine⟨λq=>?_,λq=>?_,λq=>?_⟩
   ·rw[q]at h1;exact bq h1
   ·rw[q]at h1;refine aG (tt h1) λh3 h4=>?_;refine⟨?_,by rw[eF];exact nP h4⟩;refine Or.elim (bv.mp h3) (λh5=>?_) λh5=>?_
    ·exact .inl (w6 H h5)
    ·refine .inr λx e=>?_;rw[H.nm,bK h5]at e;have:=u6 e;have h6:=(bH x).2.2;rw[this,ez.mpr rfl]at h6;exact il h6
   ·rw[q]at h1;rw[jc];exact AJ h1
  ·exact rs h2 y hy
end
theorem A1:∀{l:List Nat},EP x l=false->x∉l|[],_=>by simp|y::r,h=>by have h':(Nat.beq x y||EP x r)=false:=h;rw[Bool.or_eq_false_iff]at h';rw[am,not_or];exact⟨λe=>by rw[e,Nat.beq_refl]at h';exact bc h'.1 (by simp),A1 h'.2⟩
theorem kB:∀{l:List Nat},sE l=true->l.Nodup|[],_=>List.nodup_nil|x::r,h=>by refine aG (tt (show(!EP x r&&sE r)=true from h)) λh1 h2=>?_;rw[cn];exact⟨A1 (by simpa using h1),kB h2⟩
theorem iK(h:ja k=true):k=.function:=by cases k<;>first|rfl|exact bq h
theorem A2(h:ES a b=true):a=b:=by
 refine Or.elim (bv.mp h) (λh=>?_) λh=>?_
 ·refine aH (jJ h) λi e1 h=>aH (jJ h) λj e2 h=>?_;rw[EQ e1,EQ e2,aU h]
 ·refine aH (jJ h) λi e1 h=>aH (jJ h) λj e2 h=>?_;rw[ER e1,ER e2,w7 h]
theorem w8:∀{a b:List (PyData×PyData)},AH a b=true->a=b|[],[],_=>rfl|[],_::_,h=>by exact bq h|_::_,[],h=>by exact bq h|(a,b)::r,(c,d)::t,h=>by refine aG (tt (show(ES a c&&ES b d&&AH r t)=true from h)) λh1 h2=>aG (tt h1) λh1 h3=>?_;rw[A2 h1,A2 h3,w8 h2]
theorem rP:∀{l:List (List Nat×AV)} {D:List (PyData×PyData)},vI l=some D->strKeyed D=true/\strKeysOf D=(rJ l).map bQ|[],D,h=>by(refine bD h λx=>?_;subst x);exact⟨rfl,rfl⟩|(k,a)::r,D,h=>by refine aH (a8 h) λd e1 h=>aH (a8 h) λD' e2 h=>?_;refine bD h λx=>?_;subst x;refine aG (rP e2) λh1 h2=>?_;exact⟨h1,by show bQ k::strKeysOf D'=_;rw[h2];rfl⟩
theorem rQ:∀{r:List (List Nat)},kb l r=true->l∉r
 |[],_=>by simp|m::r,h=>by
  refine w9 h _ λq h=>?_
  ·rw[am,not_or];exact⟨λe=>by(rw[e,ez.mpr rfl]at q;exact il q),rQ h⟩
theorem ma:∀{r:List (List Nat)},gM r=true->(r.map bQ).Nodup|[],_=>List.nodup_nil|l::r,h=>by refine aG (tt (show(kb l r&&gM r)=true from h)) λh1 h2=>?_;rw[aC,cn];refine⟨λhm=>?_,ma h2⟩;refine aH (cI.mp hm) λm h3 h4=>?_;rw[u6 h4]at h3;exact rQ h1 h3
theorem tI:∀{l:List (List Nat×AV)},uS l=true->∀q∈l,∀x,q.2=.str x->x.length<=16777216
 |[],_,q,hq=>by cases hq|p::r,h,q,hq=>by
  refine aG (tt (show((match p.2 with|.str x=>cB 16777216 x|.int _=>true|_=>false)&&uS r)=true from h)) λh1 h2=>?_;refine Or.elim (am.mp hq) (λoz=>?_) λhq=>?_;(subst oz)
  ·intro x e;rw[e]at h1;exact aa h1
  ·exact tI h2 q hq
theorem LL(h:Qn l ks vs=true):RE S kk (.iI l) (.Dict ks vs p):=by refine aH (jJ h) λD e1 h=>aH (jJ h) λD' e2 h=>tk h λh h7=>tk h λh h6=>tk h λh h5=>tk h λh h4=>tk h λh h3=>tk h λh1 h2=>?_;rw[w8 h1]at e1;refine aG (rP e2) λq1 q2=>?_;exact .iI ⟨e1,e2,q1,by rw[q2];exact ma h2,h6,aj h5,(λe=>by rw[e]at h4;exact bq h4),aa h3,tI h7⟩
end
section
theorem fA.len:∀{l:List PE} {es:List Expr},fA S kk l es->l.length=es.length:=λ{l}=>by induction l with|nil=>intro es h;rw[h.CW];rfl|cons a r ih=>intro es h;cases es with|nil=>exact h.h.elim|cons e t=>rw[ac,ac,ih ⟨h.h.2.2⟩]
section
variable{S:Sys}{lb:Expr->Bool}(H:uA S lb)
include H
theorem Py{Q:Str->Prop}(h:An ns x s=true)(K:KL (dK ns (S.nm x))->(S.nm x==("__debug__":Str))=false->(S.nm x==("__classdict__":Str))=false->Q (S.nm x)):Q s:=by refine vZ (LJ H h) λe h1 h2 h3=>?_;rw[e];exact K h1 h2 h3
theorem LK{Q:Str->Prop}(h:i0 ns k s=true)(K:dK ns (S.gn k)=some .globalImplicit->(S.gn k==("__debug__":Str))=false->Q (S.gn k)):Q s:=by refine dy (yU H h) λe h1 h2=>?_;rw[e];exact K h1 h2
theorem Ek(h2:ja sc.kind=true)(h3:sE bI=true)(h4:BP bI dB dg=true)(h5:KU ns bI sc.names sc.names=true)(h6:(bI.all λx=>yt (jy (bJ x) sc.names))=true):
  oJ S (dK ns) bI dB dg sc:=
 ⟨DW H h4,λx hx=>by rw[H.nm,eF];exact nP (aS.mp h6 x hx),kB h3,iK h2,λy hy=>(rs H h5 y hy).1,λy hy q=>((rs H h5 y hy).2.1 q).1,λy hy q=>((rs H h5 y hy).2.1 q).2,λy hy q=>(rs H h5 y hy).2.2 q⟩
theorem HB{ies cond}
  (h2:ja sc.kind=true) (h3:sE bI=true) (h4:BP bI dB dg=true) (h5:KU ns bI sc.names sc.names=true) (h6:(bI.all λx=>yt (jy (bJ x) sc.names))=true)
  (he:RE S (dK (pv ns sc.names)) elt fu) (hc:fA S (dK (pv ns sc.names)) cond dU) (hi:RI S (dK ns) ik ies gk) (hnn:ik≠3):
  RE S (dK ns) (.comp elt bI dB ik ies cond) (.ListComp fu [⟨dg,gk,dU,0⟩] sc pc):=by
 have e:dK (pv ns sc.names)=sk (dK ns) sc:=by rw[uJ];rfl
 rw[e]at he hc;exact .comp hi hc he (Ek H h2 h3 h4 h5 h6) hnn
theorem Jp{ns}(hs:∀es,dW lb ies ns es=true->fA S (dK ns) ies es)(h:(match ik with
   |0=>dW lb ies ns [gk]|1=>iz (i0 ns 1) (dW lb ies ns) gk&&Nat.beq ies.length 1|2=>iz (i0 ns 1) (dW lb ies ns) gk&&Nat.beq ies.length 2|_=>false)=true):RI S (dK ns) ik ies gk/\ik≠3:=by
 have rng:∀{n:Nat},n=1∨n=2->(iz (i0 ns 1) (dW lb ies ns) gk&&Nat.beq ies.length n)=true->RI S (dK ns) n ies gk:=λ{n} hn h=>by refine tk h λh1 h2=>i3 h1 λs es p p' h3 h4=>LK H h3 (Q:=λs=>RI S (dK ns) n ies (.Call (.Name s p') es [] p)) λh5 h6=>?_;exact .range hn H.g1 h5 h6 (hs es h4) (by rw[←fA.len (hs es h4)];exact aj h2)
 split at h
 ·exact⟨Ku.plain (hs _ h).h,by decide⟩
 ·exact⟨rng (.inl rfl) h,by decide⟩
 ·exact⟨rng (.inr rfl) h,by decide⟩
 ·exact bq h
mutual
theorem bE:∀(pe:PE) (ns:NS) (e:Expr),dH lb pe ns e=true->RE S (dK ns) pe e|.aq i,ns,e,h=>dl h λc k p h=>ti h λj h2=>by rw[aU h2];exact .aq|.ak l,ns,e,h=>dl h λc k p h=>n9 h λj h2=>tk h2 λh1 h2=>by rw[bK h1];exact .ak (aa h2)|.ck,ns,e,h=>dl h λc k p h=>by rw[El h];exact .ck|.cBool b,ns,e,h=>dl h λc k p h=>yV h λj h2=>by rw[aU h2];exact .cBool|.dx l,ns,e,h=>dl h λc k p h=>wD h λj h2=>by rw[(yW h2).1];exact .dx (yW h2).2|.ah x,ns,e,h=>f9 h λs p h=>Py H h (Q:=λs=>RE S (dK ns) (.ah x) (.Name s p)) .ah|.dD k,ns,e,h=>f9 h λs p h=>LK H h (Q:=λs=>RE S (dK ns) (.dD k) (.Name s p)) .dD|.attr o a,ns,e,h=>Em h λeo p h1 h2=>by rw[←H.nm];exact .attr (bE o ns _ h2) h1|.sub o i,ns,e,h=>pP h λeo ei p h1 h2=>.sub (bE o ns _ h1) (bE i ns _ h2)|.eC o lo,ns,e,h=>pP h λeo ei p h1 h2=>yX h2 λa b p' h3 h4=>j4 h3 λa h3=>ru h4 (.eC (bE o ns _ h1) (bE lo ns _ h3))|.fU o hi,ns,e,h=>pP h λeo ei p h1 h2=>yX h2 λa b p' h3 h4=>j4 h4 λb h4=>ru h3 (.fU (bE o ns _ h1) (bE hi ns _ h4))|.jw o lo hi,ns,e,h=>pP h λeo ei p h1 h2=>yX h2 λa b p' h3 h4=>j4 h3 λa h3=>j4 h4 λb h4=>.jw (bE o ns _ h1) (bE lo ns _ h3) (bE hi ns _ h4)|.aT es,ns,e,h=>l0 h λees k p h=>.aT (dq es ns _ h)|.lst es,ns,e,h=>nQ h λees p h=>.lst (dq es ns _ h)|.iI l,ns,e,h=>B7 h λks vs p h=>LL h|.bin op a b,ns,e,h=>Ao h λx y p h1 h2=>.bin (bE a ns _ h1) (bE b ns _ h2)|.dE a,ns,e,h=>En h λx p h1=>.dE (bE a ns _ h1)|.neg a,ns,e,h=>En h λx p h1=>.neg (bE a ns _ h1)|.dF es,ns,e,h=>wE h λx p h1=>.dF (dq es ns _ h1)|.lM es,ns,e,h=>wE h λx p h1=>.lM (dq es ns _ h1)|.cmp op a b,ns,e,h=>Ap h λx y p h1 h2=>.cmp (bE a ns _ h1) (bE b ns _ h2)|.ite t a b,ns,e,h=>LM h λx y z p h1 h2 h3=>.ite (bE t ns _ h1) (bE a ns _ h2) (bE b ns _ h3)|.ai k args,ns,e,h=>i3 h λs es p p' h1 h2=>LK H h1 (Q:=λs=>RE S (dK ns) (.ai k args) (.Call (.Name s p') es [] p)) λh3 h4=>.ai h3 h4 (dq args ns _ h2)|.dM x args,ns,e,h=>i3 h λs es p p' h1 h2=>Py H h1 (Q:=λs=>RE S (dK ns) (.dM x args) (.Call (.Name s p') es [] p)) λh3 h4 h5=>.dM h3 h4 h5 (dq args ns _ h2)|.aY o m args,ns,e,h=>tk (show(Nat.blt args.length 30&&wF (dH lb o ns) m (dW lb args ns) e)=true from h) λh0 h=>rx h λeo ap es p h1 h2 h3 h4=>by rw[←H.nm];exact .aY (bE o ns _ h3) h1 (dq args ns _ h4) h2 (by rw[←fA.len (dq args ns _ h4)];exact aa h0)|.joinR o x,ns,e,h=>rx h λeo ap es p h1 h2 h3 h4=>eV h4 λe k1=>i3 k1 λs es p1 p2 h5 k2=>eV k2 λe k3=>tk k3 λh7 h8=>by refine dy (yU H h5) λe h9 h10=>?_;rw[←H.nm,e];exact .joinR (bE o ns _ h3) h1 (bE x ns _ h8) h2 H.XE h9 h10 (qF h7)|.dS o ch y,ns,e,h=>rx h λeo ap es p h1 h2 h3 h4=>Aq h4 λa b h5 h6=>dl h5 λc k p1 z5=>dl h6 λc2 k2 p2 z6=>n9 z5 λs y5=>n9 z6 λs2 y6=>by rw[←H.nm,bK y5,bK y6];exact .dS (bE o ns _ h3) h1 h2|.comp elt bI dB ik ies cond,ns,e,h=>lG h λfu gs sc p h0=>eV h0 λcm h=>by obtain⟨dg,gk,dU,z⟩:=cm;refine tk h λh h9=>tk h λh h8=>tk h λh h7=>tk h λh h6=>tk h λh h5=>tk h λh h4=>tk h λh h3=>tk h λh1 h2=>?_;have q:=Jp H (λes=>dq ies ns es) h9;rw[show z=0 from aU h1];exact HB H h2 h3 h4 h5 h6 (bE elt _ _ h7) (dq cond _ _ h8) q.1 q.2|.lamD x,ns,e,h=>tk (show(Nat.beq x 7&&lb e&&isCell (jy (bJ 7) ns))=true from h) λh h3=>tk h λh1 h2=>by rw[aj h1];refine .lamD (H.lam e h2) ?_;rw[H.nm,jc];exact nI h3|.ek x,ns,e,h=>i3 h λs es p p' h1 h2=>eV h2 λe k2=>f9 k2 λs2 p2 k3=>by refine dy (yU H h1) λe h3 h4=>?_;rw[e,bK k3,show bQ (gv x)=S.nm x by rw[H.nm];rfl];exact .ek H.g2 h3 h4 (by rw[H.nm];exact(bH x).1)
theorem dq:∀(l:List PE) (ns:NS) (es:List Expr),dW lb l ns es=true->fA S (dK ns) l es|[],ns,[],h=>.nil|[],ns,e::t,h=>bq h|a::r,ns,[],h=>bq h|a::r,ns,e::t,h=>tk (show(wG e&&dH lb a ns e&&dW lb r ns t)=true from h) λh h3=>tk h λh1 h2=>.cons (bE a ns e h2) (qF h1) (dq r ns t h3)
end
end
end
section
noncomputable def jg(e:Expr):Bool:=!(Nat.beq e.ctorIdx 8||(Nat.beq e.ctorIdx 9||Nat.beq e.ctorIdx 10))
theorem iO(h:jg e=true):gz e:=by intro t line env;induction e using Expr.casesOn<;>first|rfl|exact bq h
noncomputable def lc:NameKind->Bool|.local=>true|.cell=>true|_=>false
def tP(s:Str):NS->Bool|[]=>false|p::r=>(sL p.1 s&&lc p.2)||tP s r
theorem we(s):∀l:NS,(l.any λ(n,k)=>n==s&&(k==.local||k==.cell))=tP s l|[]=>rfl|(n,k)::r=>by have e:tP s ((n,k)::r)=((sL n s&&lc k)||tP s r):=rfl;rw[List.any_cons,we s r,e,←ke];(clear e;cases k)<;>rfl
def DS(px:Pos)(s:Str)(e:Expr):Bool:=jg e||l8 (λz_ z_ sc pc=>(px.line==pc.line)&&!(tP s sc.names)) e
theorem DT{P:Expr->Prop}(h:DS px s e=true)(K1:jg e=true->P e)(K2:∀elt gens sc pc,((px.line==pc.line)&&!(tP s sc.names))=true->P (.ListComp elt gens sc pc)):P e:=(bv.mp h).elim K1 λh=>lG h K2
def Xj(e:Expr):Bool:=!Nat.beq e.ctorIdx 25||pS (λvs z_ z_=>!(vs.all (constantsAlone 8))||vs.all (foldedForSure 8)) e
def K6(ns:NS)(xs:List Nat):Bool:=xs.all λx=>yt (jy (bJ x) ns)
def Wq(q:Str->Pos->Expr->Bool):Stmt->Bool:=j9 λts ee z_=>kS (uX λs px=>q s px ee) ts
def Yn(q:List Expr->Expr->Bool):Stmt->Bool:=j9 λts ee z_=>kS (pS λes z_ z_=>q es ee) ts
def Yo(q:Expr->Str->Expr->Bool):Stmt->Bool:=j9 λts ee z_=>kS (eK λeo s z_=>q eo s ee) ts
def Yp(q:Expr->Expr->Expr->Bool):Stmt->Bool:=j9 λts ee z_=>kS (j7 λeo ei z_=>q eo ei ee) ts
def kEx(q:Expr->Bool):Stmt->Bool:=E0 λe z_=>q e
def Wr(m:Nat)(x:Nat)(f:Expr->Bool):Expr->Bool:=uW λfn es ks cp=>eK (λb s2 ap=>uX (λs z_=>fT s (gv x)) b&&fT s2 (gv m)&&(ap.endLine==cp.line)) fn&&kS f es&&nilB ks
def Yq(q:Expr->Bool):Stmt->Bool:=wS λo z_=>tu q o
def Rr(q:Expr->Bool)(a b:List Stmt->Bool):Stmt->Bool:=Qq λe x y z_=>q e&&a x&&b y
def Yr(q:Expr->Bool)(a:List Stmt->Bool):Stmt->Bool:=AN λe x o z_=>q e&&a x&&nilB o
def Ys(q:Expr->Expr->Bool)(a:List Stmt->Bool):Stmt->Bool:=JO λt i x o z_=>q t i&&a x&&nilB o
noncomputable def JW:List α->Bool|[]=>false|_::_=>true
@[elab_as_elim] theorem FF{P:List α->Prop}(h:JW l=true)(K:∀a r,P (a::r)):P l:=by cases l with|nil=>exact bq h|cons a l=>exact K a l
def Yt(a:List Stmt->Bool):Stmt->Bool:=JP λx hs o1 o2 z_=>a x&&JW hs&&nilB o1&&nilB o2
section
variable{s:Stmt}{e:Expr}
variable{P:Stmt->Prop}
@[elab_as_elim] theorem DU(H:Wq q s=true)(K:∀x px ee p,q x px ee=true->P (.Assign [.Name x px] ee p)):P s:=iA H λts ee p H=>eV H λt H=>f9 H λa b=>K a b ee p
@[elab_as_elim] theorem K9(H:Yn q s=true)(K:∀es k tp ee p,q es ee=true->P (.Assign [.Tuple es k tp] ee p)):P s:=iA H λts ee p H=>eV H λt H=>l0 H λa b c=>K a b c ee p
@[elab_as_elim] theorem La(H:Yo q s=true)(K:∀eo x tp ee p,q eo x ee=true->P (.Assign [.Attribute eo x tp] ee p)):P s:=iA H λts ee p H=>eV H λt H=>eL H λa b c=>K a b c ee p
@[elab_as_elim] theorem Lb(H:Yp q s=true)(K:∀eo x tp ee p,q eo x ee=true->P (.Assign [.Subscript eo x tp] ee p)):P s:=iA H λts ee p H=>eV H λt H=>j8 H λa b c=>K a b c ee p
@[elab_as_elim] theorem DV{P:Expr->Prop}(H:Wr m x f e=true)(K:∀np ap ee cp,(ap.endLine==cp.line)=true->f ee=true->P (.Call (.Attribute (.Name (bJ x) np) (bJ m) ap) [ee] [] cp)):P e:=oq H λfn es ks cp H=>tk H λh h2=>tk h λh1 h3=>iB h2 (eV h3 λee h3=>eL h1 λb s2 ap h1=>tk h1 λh h4=>tk h λh1 h5=>f9 h1 λs np h1=>by rw[bK h1,bK h5];exact K np ap ee cp h4 h3)
@[elab_as_elim] theorem Lc(H:Yq q s=true)(K:∀ee p,q ee=true->P (.Return (some ee) p)):P s:=wT H λo p H=>j4 H λee=>K ee p
@[elab_as_elim] theorem Hk(H:Rr q a b s=true)(K:∀ee x y p,q ee=true->a x=true->b y=true->P (.If ee x y p)):P s:=Ie H λee x y p H=>tk H λh h3=>tk h λh1 h2=>K ee x y p h1 h2 h3
@[elab_as_elim] theorem Ld(H:Yr q a s=true)(K:∀ee x p,q ee=true->a x=true->P (.While ee x [] p)):P s:=zh H λee x o p H=>tk H λh h3=>iB h3 (tk h (K ee x p))
@[elab_as_elim] theorem Le(H:Ys q a s=true)(K:∀t i x p,q t i=true->a x=true->P (.For t i x [] p)):P s:=EY H λt i x o p H=>tk H λh h3=>iB h3 (tk h (K t i x p))
@[elab_as_elim] theorem Lf(H:Yt a s=true)(K:∀x h hs p,a x=true->P (.Try x (h::hs) [] [] p)):P s:=EZ H λx hs o1 o2 p H=>tk H λh h2=>tk h λh h3=>tk h λh1 h4=>iB h2 (iB h3 (FF h4 λb r=>K x b r p h1))
end
variable(lb:Expr->Bool)
def OM(ns:NS)(ik:Nat)(ies:List PE)(gk:Expr):Bool:=match ik with|0=>dW lb ies ns [gk]|1=>iz (i0 ns 1) (dW lb ies ns) gk&&Nat.beq ies.length 1|2=>iz (i0 ns 1) (dW lb ies ns) gk&&Nat.beq ies.length 2|_=>false
noncomputable def Rs:PE->Option (List PE)|.lst es=>some es|_=>none
noncomputable def P8(a:PS)(x y:Bool):Bool:=PS.casesOn (motive_1:=λz_=>Bool) a (λz_ z_=>y) (λz_ z_=>y) (λz_ z_=>y) (λz_ z_ z_=>y) (λz_ z_ z_=>y) (λz_ z_=>y) (λz_ z_=>y) (λz_=>y) (λz_=>y) (λz_ z_ z_=>y) (λz_ z_=>y) (λz_ z_ z_ z_ z_=>y) (λz_=>y) y λz_=>x
theorem Lg{P:Prop}(h:P8 a x y=true)(K1:∀z,a=.freeze z->x=true->P)(K2:y=true->P):P:=by induction a using PS.casesOn<;>first|exact K2 h|exact K1 _ rfl h
noncomputable def cns(f:Stmt->Bool)(g:List Stmt->Bool):List Stmt->Bool|[]=>false|s::t=>f s&&g t
@[elab_as_elim] theorem Lh{P:List Stmt->Prop}(h:cns f g l=true)(K:∀s t,f s=true->g t=true->P (s::t)):P l:=by cases l with|nil=>exact bq h|cons s t=>exact tk h (K s t)
mutual
def OT:PS->NS->Stmt->Bool|.ca x e,ns=>Wq λs px ee=>fT s (gv x)&&yt (jy s ns)&&DS px s ee&&dH lb e ns ee|.own x es,ns=>Wq λs z_ ee=>fT s (gv x)&&yt (jy s ns)&&Me (dW lb es ns) ee|.hY xs e,ns=>Yn λes ee=>lW xs es&&K6 ns xs&&sE xs&&Xj ee&&jg ee&&dH lb e ns ee|.cZ o a e,ns=>Yo λeo s ee=>fT s (gv a)&&jg ee&&dH lb e ns ee&&dH lb o ns eo|.setItem o i e,ns=>Yp λeo ei ee=>jg ee&&dH lb e ns ee&&dH lb o ns eo&&dH lb i ns ei|.app x e,ns=>kEx (Wr 18 x λee=>wG ee&&dH lb e ns ee)|.sG x e,ns=>kEx (Wr 19 x λee=>(match Rs e with|some es=>Me (dW lb es ns) ee|none=>false))|.expr e,ns=>kEx λee=>jg ee&&dH lb e ns ee|.ret e,ns=>Yq (dH lb e ns)|.cu t a b,ns=>Rr (dH lb t ns) (iP a ns) (iP b ns)|.dk t b,ns=>Yr (dH lb t ns) (iP b ns)|.ff bI dB ik ies b,ns=>Ys (λt i=>BP bI dB t&&K6 ns bI&&sE bI&&OM lb ns ik ies i) (iP b ns)|.pA b,ns=>Yt (iP b ns)|.cw,_=>λz_=>true|.freeze _,_=>λz_=>false
def iP:List PS->NS->List Stmt->Bool|[],_=>λss=>(match ss with|[]=>true|_=>false)|a::r,ns=>λss=>P8 a (iP r ns ss) (cns (OT a ns) (iP r ns) ss)
end
end
section
section
variable{S:Sys}{lb:Expr->Bool}(H:uA S lb)
include H
set_option backward.match.sparseCases true in
theorem qE{env:Env}{ns}(hk:∀x,env.kindOf x=dK ns x){line}:∀{bI:List Nat} {es:List Expr},lW bI es=true->∀(l:List Str),(es.filterMap λ|.Name id pos=>if env.kindOf id==some .local&&pos.line==line then some id else none|_=>none)=l->l.length=es.length->l=bI.map S.nm
 |[],[],_,l,e,_=>by rw[←e];rfl|[],_::_,h,_,_,_=>by exact bq h|x::r,[],h,_,_,_=>by exact bq h|x::r,e::t,h,l,e1,e2=>by
  refine aG (tt h) λh1 h2=>bU (gY h1) λs p e9 h1=>?_;(clear h;subst e9);rw[List.filterMap_cons]at e1;dsimp only at e1;by_cases c:(env.kindOf s==some .local&&p.line==line)=true
  ·rw[br c]at e1;rw[←e1]at e2 ⊢;rw[qE hk h2 _ rfl (Nat.succ.inj e2),aC,bK h1,H.nm];rfl
  ·rw[bi c]at e1;rw[←e1,ac]at e2;exact bc (aw (a7 e2.symm) (List.length_filterMap_le _ t)) (Nat.not_succ_le_self _)
omit H in
theorem Aa[Decidable c](e:a=x)(h:¬c->b=x∨b=y):(if c then a else b)=x∨(if c then a else b)=y:=by
 by_cases q:c
 ·rw[br q];exact .inl e
 ·rw[bi q];exact h q
omit H in
theorem OK[Decidable c](q:¬c)(h:b=x∨b=y):(if c then a else b)=x∨(if c then a else b)=y:=by rw[bi q];exact h
omit H in
theorem TE{a b:Nat}(h:¬((a !=b||c)=true)):a=b:=Decidable.byContradiction λe=>h (bv.mpr (.inl (bne_iff_ne.mpr e)))
theorem OL{ns:NS}(h1:lW bI es=true)(h2:Xj ee=true):SwOk S (dK ns) bI es k tp ee:=by
 intro env hk hf;induction ee using Expr.casesOn with
 |Tuple vs k2 p2=>
  have h2:(!(vs.all (constantsAlone 8))||vs.all (foldedForSure 8))=true:=h2;refine Aa rfl λc1=>Aa rfl λc2=>Aa rfl λc3=>Aa rfl λc4=>?_;have c5:¬(vs.all (constantsAlone 8)=true):=by
   rw[Bool.or_eq_true]at h2;refine Or.elim h2 (λq=>?_) λq=>?_
   ·simpa using q
   ·exact bc q c4
  refine OK c5 (.inr ?_);exact congrArg (λl=>pure (some l)) (qE H hk h1 _ rfl (TE c3))
 |_=>exact .inl rfl
theorem Ab(h:K6 ns xs=true):∀x∈xs,dK ns (S.nm x)=some .local:=λx hx=>by rw[jc,H.nm];exact nP (aS.mp h x hx)
theorem nmE(h:fT s (gv x)=true):s=S.nm x:=by rw[H.nm];exact bK h
theorem Ac(h:OM lb ns ik ies gk=true):RI S (dK ns) ik ies gk/\ik≠3:=Jp H (λes=>dq H ies ns es) h
theorem Zm{Q:Str->Prop}(h:fT s (gv x)=true)(K:Q (S.nm x)):Q s:=by rw[nmE H h];exact K
omit H in
theorem OP(h:yt (jy s ns)=true):dK ns s=some .local:=by rw[jc];exact nP h
omit H in
theorem RE.K7(h:RE S kk e ee):∀elt gens sc pc,ee=.ListComp elt gens sc pc->(∃a1 a2 a3 a4 a5 a6,e=.comp a1 a2 a3 a4 a5 a6)∨∃x,S.mi x ee:=by induction h using RE.cs<;>first|exact λz_ z_ z_ z_ e=>Expr.noConfusion e|exact λz_ z_ z_ z_ z_=>.inl ⟨_,_,_,_,_,_,rfl⟩|exact λz_ z_ z_ z_ z_=>.inr ⟨_,‹_›⟩
theorem K8(hl:dK ns (S.nm x)=some .local)(h3:DS px (S.nm x) ee=true)(he:RE S (dK ns) e ee):RS S (dK ns) (.ca x e) (.Assign [.Name (S.nm x) px] ee p):=by
 revert he;refine DT (P:=λee=>RE S (dK ns) e ee->RS S (dK ns) (.ca x e) (.Assign [.Name (S.nm x) px] ee p)) h3 (λh3 he=>.ca he hl (iO h3)) (λelt gens sc pc h3 he=>tk h3 λh5 h6=>?_);rcases he.K7 _ _ _ _ rfl with⟨a1,a2,a3,a4,a5,a6,e9⟩|⟨y,hl⟩
 ·rw[e9]at he ⊢;exact .OQ he hl h5 (by rw[we];exact Bool.not_eq_true' _▸h6)
 ·obtain⟨_,_,_,_,q⟩:=H.OS _ _ hl;cases q
mutual
theorem Hj:∀(ps:PS) (ns:NS) (st:Stmt),OT lb ps ns st=true->RS S (dK ns) ps st
 |.ca x e,ns,st,h=>DU h λs px ee p h=>tk h λh h4=>tk h λh h3=>tk h λh1 h2=>by rw[nmE H h1]at h2 h3 ⊢;exact K8 H (OP h2) h3 (bE H e ns ee h4)|.own x es,ns,st,h=>DU h λs px ee p h=>tk h λh h3=>tk h λh1 h2=>nQ h3 λees pl h4=>by rw[nmE H h1]at h2 ⊢;exact .own (dq H es ns _ h4) (OP h2)|.hY xs e,ns,st,h=>K9 h λes k tp ee p h=>tk h λh h6=>tk h λh h5=>tk h λh h4=>tk h λh h3=>tk h λh1 h2=>.hY (bE H e ns ee h6) (iO h5) (kD H h1).1 (kD H h1).2 (Ab H h2) (kB h3) (OL H h1 h4)|.cZ o a e,ns,st,h=>La h λeo s tp ee p h=>tk h λh h4=>tk h λh h3=>tk h λh1 h2=>Zm H h1 (Q:=λs=>RS S (dK ns) (.cZ o a e) (.Assign [.Attribute eo s tp] ee p)) (.cZ (bE H e ns ee h3) (bE H o ns eo h4) (iO h2))|.setItem o i e,ns,st,h=>Lb h λeo ei tp ee p h=>tk h λh h4=>tk h λh h3=>tk h λh1 h2=>.setItem (bE H e ns ee h2) (bE H o ns eo h3) (bE H i ns ei h4) (iO h1)|.app x e,ns,st,h=>nR h λee p h=>DV h λnp ap e2 cp h1 h2=>tk h2 λh3 h4=>by rw[←H.nm];exact .app (bE H e ns e2 h4) (qF h3) (by rw[H.nm];exact(bH x).1) h1|.sG x e,ns,st,h=>nR h λee p h=>DV h λnp ap e2 cp h1 h2=>by rw[←H.nm];induction e using PE.casesOn<;>first|exact bq h2|exact nQ h2 λees pl h4=>.sG (dq H _ ns _ h4) (by rw[H.nm];exact(bH x).1) h1
 |.expr e,ns,st,h=>nR h λee p h=>tk h λh1 h2=>.expr (bE H e ns ee h2) (iO h1)|.ret e,ns,st,h=>Lc h λee p h=>.ret (bE H e ns ee h)|.cu t a b,ns,st,h=>Hk h λee x y p h1 h2 h3=>.cu (bE H t ns ee h1) (fh a ns x h2) (fh b ns y h3)|.dk t b,ns,st,h=>Ld h λee x p h1 h2=>.dk (bE H t ns ee h1) (fh b ns x h2)|.ff bI dB ik ies b,ns,st,h=>Le h λt i x p h h2=>tk h λh h6=>tk h λh h5=>tk h λh1 h4=>.ff (DW H h1) (Ab H h4) (kB h5) (Ac H h6).1 (fh b ns x h2) (Ac H h6).2|.pA b,ns,st,h=>Lf h λx h₀ hs p h=>.pA (fh b ns x h)|.cw,ns,st,h=>.cw|.freeze x,ns,st,h=>bq h
theorem fh:∀(l:List PS) (ns:NS) (ss:List Stmt),iP lb l ns ss=true->s9 S (dK ns) l ss|[],ns,[],h=>.nil|[],ns,s::t,h=>bq h|a::r,ns,ss,h=>Lg h (λz e h=>e▸.freeze (fh r ns ss h)) (λh=>Lh h λs t h1 h2=>.cons (Hj a ns s h1) (fh r ns t h2))
end
end
end
end
section
open PySem PySem.W PyProof.Rows PySem.Calls PySem.Builtin.Str PyProof.V
section
theorem ur(c):nt c:=by
 intro A E s b t Q h;refine KBw.pyIter_bytes (h {cls:=.type "bytes_iterator",data:=.fields #[.bytes b t,.int 0 0]} (λi h=>KBw.IsBytesIter h s.heap.objs.size b t i) rfl (λA' hh=>?_) ⟨_,be _ rfl,rfl,rfl⟩ λi h st=>?_)
 ·exact KBw.walks hh s.heap.objs.size b t
 ·refine nE st λo ho hc z_=>⟨o,"bytes_iterator",ho,hc,by decide⟩
theorem zP:∀{vs:List Value} {l:List Nat},dh c F vs (l.map λ(n:Nat)=>AV.int (Int.ofNat n))->IntsAre vs (l.map λ(n:Nat)=>(n:Int))|_,[],h=>h.sC .nil|_,n::l,h=>h.hG λv vs h hs=>h.dJ (P:=λv=>IntsAre (v::vs) _) λt=>.cons _ _ (zP hs)
theorem yj(l:List Nat):byteArr (l.map λ(n:Nat)=>(n:Int))=(l.map UInt8.ofNat).toArray:=by unfold byteArr;rw[List.map_map];rfl
theorem Do(nm:Nat->Str)(c:Ctx):pF nm c:=by
 intro A E s F g env σ v l hh I f hv hl;refine hv.listE λa o vs n h hc hd hn hs=>?_;have L:s.heap.IsList a vs.toList.toArray:=⟨o,I.cE _ _ h,hc,n,by simpa using hd⟩;have e:=hs.length;refine call_bytes_ints L (zP hs) (λk hk=>?_) (by rw[sizeLine_eq];exact N2 hn e) hh λh' t k hk=>?_
 ·refine aH (cI.mp hk) λx hx kO=>?_;subst kO;have:=hl x hx;exact S7 this
 ·rw[yj];exact⟨F,XF.refl,.bytes hl,I.grow hk _,eZ.grow hk _⟩
end
end
section
open PySem PySem.W PyProof.Rows PySem.Calls PySem.Builtin.Str PyProof.V
open Builtin Builtin.Str Builtin.Int
section
theorem Fq:typeLookup (.type "list_reverseiterator") "__len__"=pure none:=by rw[typeLookup_type,builtinLookup_eq_fast];kernel_rfl
theorem IA:typeLookup (.type "list_reverseiterator") "__length_hint__"=pure (some (.builtin "list_reverseiterator.__length_hint__")):=by rw[typeLookup_type,builtinLookup_eq_fast];kernel_rfl
theorem Fs:splitId "list_reverseiterator.__length_hint__"=some ("list_reverseiterator","__length_hint__"):=by decide+kernel
section
variable{prog:Program}{w:World}{A:Around}{E:Value->Shared->Prop}{s:Shared}{I:Addr}{fp wr:List Addr}{G:Array GenState->Array GenState->Prop}{n:Nat}{P:Nat->Value->Prop}{St:Nat->Shared->Prop}
theorem Co(W:WalksS prog w A.in1 I fp wr G n P St)(hT:∀i s,St i s->s.TypeIs (.ref I) "list_reverseiterator")(hst:St 0 s)(hfp:∀b∈fp,b<s.heap.objs.size)(hI:I∈fp)
  (hQ:∀s' acc,Moved wr G s s'->ItemsOf P acc n->Q acc.toList s') (hn:n<=sizeLine):wpAny (model prog w) A (collect (.ref I)) Q E s:=by
 have hSf:=λhm=>eN _ (hfp _ hm);have hSI:s.heap.objs.size≠I:=λe=>hSf (e▸hI);have h1:Builtin.List.listSameRef (.ref s.heap.objs.size) (.ref I)=false:=by simp[Builtin.List.listSameRef,hSI]
 refine an (wpAny_runValue (codeAny_builtin F.entry_proto_collect ?_));refine an (wpAny_newObj_type ?_);refine aP ⟨plainId_quiet F.plain_list_iadd _,codeAny_builtin F.entry_list_iadd ?_⟩;have hst₁:=W.frame 0 s (s.heap.push {cls:=.type "list",data:=.seq ([]:List Value).toArray}) s.toks hst (aD _) λb z_ o e=>az _ e;have hS₁:(s.heap.push {cls:=.type "list",data:=.seq ([]:List Value).toArray}).get? s.heap.objs.size=some {cls:=.type "list",data:=.seq ([]:List Value).toArray}:=be _ rfl;show wpAny _ A.in1 (Builtin.List.listExtendWith (.ref s.heap.objs.size) (.ref I) (.ref s.heap.objs.size)) _ _ _;refine an (wpAny_typeOf (hT 0 _ hst₁) ?_);rw[bi (by rw[h1];decide)];refine an (W.self 0 _ _ _ hst₁ ?_);refine an (wpAny_holding ?_);refine an (wpAny_specialOf (hT 0 _ hst₁) Fq ?_);refine an (wpAny_specialOf (hT 0 _ hst₁) IA ?_)
 (generalize hid:("list_reverseiterator.__length_hint__":String)=id0;wp_delta;rw[show splitId id0=some ("list_reverseiterator","__length_hint__")from by subst hid;exact Fs];subst hid)
 refine an (wpAny_isInstance (b:=true) (hT 0 _ hst₁) (by rw[isSubtype_type];kernel_rfl) ?_);refine aP ?_;refine aP ⟨plainId_quiet F.plain_extend_loop _,codeAny_extend_loopS W hn _ hSf _ n 0 _ _ _ rfl (bo _) hst₁ hS₁ (ItemsOf.nil P) λs' acc' c' hm hS' hacc=>?_⟩;refine an (wpAny_load hS' ?_);exact aP (hQ s' acc' (Moved.drop_new (o:={cls:=.type "list",data:=.seq ([]:List Value).toArray}) (tk:=s.toks) hm (aD _)) hacc)
theorem joinRev(W:WalksS prog w A.in1.in1 I fp wr G n P St)(hT:∀i s,St i s->s.TypeIs (.ref I) "list_reverseiterator")(hst:St 0 s)(hfp:∀b∈fp,b<s.heap.objs.size)(hI:I∈fp)
  (hstr:∀i v,P i v->∃y u,v=Value.str y u)
  (hq:∀s' (l:List (Str×Tok)),Moved wr G s s'->ItemsOf P (strValues l).toArray n->JoinOk x (l.map (·.1))=true/\∀t' k,Q (.str (Txt.join x (l.map (·.1))) t') {s' with toks:=k})
  (hsz:n<=sizeLine):wpAny (model prog w) A (call (.builtin "str.join") [.str x t,.ref I]) Q E s:=by
 refine wpAny_call (codeAny_call_builtin F.slot_str_join.plain F.entry_str_join (F.slot_str_join.check _ _ _ _ _ _ _ _ (typeIs_str _ _ _) (F.args_str_join_2 _ _) ?_));rw[join_tree_other];refine an (wpAny_typeOf (hT 0 s hst) ?_);refine an (wpAny_tryCatch (W.of_in1.self 0 s _ _ hst ?_));refine an (Co W hT hst hfp hI (λs' acc hm hacc=>?_) hsz);refine b0 (exists_strValues acc.toList λv hv=>by
  obtain⟨j,hj,rfl⟩:=Array.mem_iff_getElem.mp (Array.mem_toList_iff.mp hv);exact hstr j _ (hacc.2 j _ (Array.getElem?_eq_getElem hj))) λl hl=>?_
 rw[←hl];have hacc':ItemsOf P (strValues l).toArray n:=by rw[hl];simpa using hacc
 refine aG (hq s' l hm hacc') λhok hpost=>?_;unfold JoinOk at hok;rw[Bool.not_eq_true']at hok;have g:Gives (joinTail x (strValues l)) (joinMade x l):=by have g0:=gives_joinTail x l hok;cases l with|nil=>exact g0|cons p r=>(clear hl hacc';cases r)<;>exact g0
 exact g prog w A (wants Q E) s' (post_join l ⟨joinFit_length hok,hpost⟩)
end
end
section
theorem xy:∀{a b:List (Str×Tok)},strValues a=strValues b->a.map (·.1)=b.map (·.1)
 |[],[],_=>rfl|[],_::_,h=>by cases h|_::_,[],h=>by cases h|p::a,q::b,h=>by
  have h:=h;refine aG (eO h) λh1 h2=>?_;rw[aC,aC,xy h2];injection h1 with h3 h4
  rw[h3]
theorem CC{vs:Array Value}(h:ItemsOf (λi v=>vs[vs.size-1-i]?=some v) acc.toArray vs.size):acc=vs.toList.reverse:=by
 refine aG h λh1 h2=>?_;refine List.ext_getElem? λi=>?_;by_cases hi:i<acc.length
 ·have e:=h2 i acc[i] (by simp[hi]);rw[List.getElem?_reverse (by rw[aW];exact P6 h1 hi),aW];rw[show vs.toList[vs.size-1-i]?=vs[vs.size-1-i]? from Array.getElem?_toList,e];exact cg hi
 ·rw[List.getElem?_eq_none (Vf h1 hi),List.getElem?_eq_none (by rw[List.length_reverse,aW];exact Vg h1 hi)]
theorem yY(nm:Nat->Str)(c:Ctx):sS nm c:=by
 intro A E s F g env σ v t sep l xs hh I f hv hx q;refine hv.listE λa o vs n h hc hd hn hs=>?_;have L:=I.isList h hc hd;have e0:=hs.length;have ha:=aN (I.cE _ _ h);have kp:∀b o,s.heap.get? b=some o->(s.heap.push (revObj a ((vs.size:Int)-1))).get? b=some o:=λb o e=>az _ e;have VR:=hs.reverse;rw[om hx]at VR;refine aH (rE VR) λtl e1 e2=>?_;refine call_reversed_list L ⟨kp,?_⟩;have W:=(Walks.listRev (prog:=c.prog) (w:=c.w) (A:=A.in1.in1) hh s.heap.objs.size a (aJ ha) vs).toS;refine joinRev W (λi s' st=>st.2.1.typeIs) ⟨bo _,⟨_,be _ rfl,rfl,by simp[revObj]⟩,L.at λo e=>kp a o e⟩ (λb hb=>?_) (List.mem_cons_self ..) (λi v hP=>?_) (λs' l' hm hit=>?_) (by rw[sizeLine_eq];exact N2 hn e0)
 ·rw[Heap.size_push];refine Or.elim (am.mp hb) (λoz=>?_) λhb=>?_;(subst oz)
  ·exact dR _
  ·rw[aR.mp hb];exact Nat.lt_succ_of_lt ha
 ·have hm:v∈strValues tl:=by rw[←e1,List.mem_reverse];exact Array.mem_toList_iff.mpr (Array.mem_of_getElem? hP)
  refine aH (cI.mp hm) λp z_ e=>?_;exact⟨p.1,p.2,e.symm⟩
 ·have e3:=CC hit;rw[e1]at e3;have e4:=(xy e3).trans e2;rw[e4];refine⟨tm q,λt' k=>?_⟩;have:Txt.join (bQ sep) (xs.map bQ)=bQ (cN sep xs):=by unfold Txt.join;rw[StrLaws.glued_eq_join,join_eq]
  rw[this];rw[aV,dA,dA]at q;have kk:=λb o e=>hm.heap b o (λhb=>by rw[aR.mp hb]at e;exact bc (aN e) (eN _)) (kp b o e);have hg:=hm.gens;have ho:=hm.os;exact⟨F,XF.refl,.str (Vh q),⟨λb o e=>kk _ _ (I.cE b o e),I.base,I.apart,I.d7.mono (Ext.refl F) λb z_ o e=>kk _ _ e,I.fJ⟩,⟨λb o z_ z_ e=>kk _ _ e,λm' x=>x.keeps kk,iZ kk,hg,ho⟩⟩
end
end
section
open PySem PySem.W PyProof.Rows PySem.Calls
section
noncomputable def E2:Obj:=⟨.none,none,.freed,#[]⟩
def bh(P:Params):Heap:=⟨((List.range 1052).map λa=>((bN P).lookup a).getD E2).toArray,{}⟩
theorem JQ(P)(a):(bh P).objs[a]?=if a<1052 then some (((bN P).lookup a).getD E2)else none:=by
 unfold bh;rw[List.getElem?_toArray,List.getElem?_map];by_cases h:a<1052
 ·rw[List.getElem?_range h,br h];rfl
 ·rw[List.getElem?_eq_none (by rw[List.length_range];exact Qr h),bi h];rfl
theorem uK(P):(bh P).objs.size=1052:=by unfold bh;rw[bX,bg,List.length_range]
theorem tz{h:Heap}(e:h.objs[a]?=some o):h.get? a=alive o:=by unfold Heap.get?;rw[e];(clear e;obtain⟨c,d,dt,sl⟩:=o);cases dt<;>rfl
theorem yZ{P:Params}(h:(bh P).get? a=some o):(bN P).lookup a=some o:=by have lt:=aN h;rw[uK]at lt;have e:=JQ P a;rw[br lt]at e;rw[tz e]at h;cases q:(bN P).lookup a with|none=>rw[q]at h;exact aI h|some o'=>rw[q]at h;(clear q;obtain⟨c,d,dt,sl⟩:=o');cases dt<;>first|exact h|exact aI h
theorem i4{α:Type}{o:α}:∀{l:List (Nat×α)},l.lookup a=some o->a∈l.map (·.1)/\o∈l.map (·.2)
 |[],h=>by exact aI h|(b,x)::l,h=>by
  rw[aQ]at h
  split at h
  ·rename_i q;refine bD h λx=>?_;subst x;exact⟨by rw[df.mp q];exact List.mem_cons_self ..,List.mem_cons_self ..⟩
  ·exact⟨List.mem_cons_of_mem _ (i4 h).1,List.mem_cons_of_mem _ (i4 h).2⟩
theorem ir(P:Params):Frag.In (bN P) (bh P):=by intro a o l;refine aG (i4 l) λh1 h2=>?_;have lt:a<1052:=aa (aS.mp kas_lt a h1);have e:=JQ P a;rw[br lt]at e;rw[tz e];have l':=l;rw[l'];exact EM (aS.mp (Ce P) o h2)
theorem wJ(k:Frag.In (bN P) h):∀b o,(bh P).get? b=some o->h.get? b=some o:=λb o e=>k b o (yZ e)
noncomputable def AP(k:Nat):List (Nat×Value)->Option Value|[]=>none|p::r=>match Nat.beq p.1 k with|true=>some p.2|false=>AP k r
noncomputable def UY:List (Nat×Value):=[(100,.ref 157),(101,.ref 482),(103,.ref 1039),(900,.builtin "len"),(901,.type "int"),(902,.builtin "abs"),(903,.builtin "all"),(904,.type "tuple"),(905,.type "list"),(906,.type "str"),
 (907,.builtin "ord"),(908,.builtin "chr"),(909,.type "bytes"),(910,.type "range"),(912,.type "reversed")]
def d9(k:Nat):Option Value:=match yq.get k with|some fr=>some (.ref fr.addr)|none=>AP k UY
theorem tA{q:Value->Bool}:∀{l:List (Nat×Value)},(l.all λp=>q p.2)=true->AP k l=some f->q f=true|[],_,h=>by exact aI h|p::r,h1,h=>by refine aG (tt h1) λh2 h3=>?_;have h:(match Nat.beq p.1 k with|true=>some p.2|false=>AP k r)=some f:=h;cases z:Nat.beq p.1 k with|true=>rw[z]at h;rw[←dj h];exact h2|false=>rw[z]at h;exact tA h3 h
theorem Cf(P):(gX (bN P) 157 (bJ 0)&&gX (bN P) 157 (bJ 1)&&gX (bN P) 811 (bJ 2)&&gX (bN P) 811 (bJ 3)&&gX (bN P) 811 (bJ 4)&&
  gX (bN P) 470 (bJ 5)&&gX (bN P) 470 (bJ 6)&&gX (bN P) 470 (bJ 7)&&gX (bN P) 470 (bJ 8)&&setOk (bN P) 811 (bJ 2)&&setOk (bN P) 470 (bJ 8))=true:=by kernel_rfl
end
section
def xr(n:List Nat)(e:DictEntry):Bool:=match e.key with|.str x _=>fT x n|_=>false
def gE(n:List Nat):List DictEntry->Option Value|[]=>none|e::r=>match xr n e with|true=>some e.val|false=>gE n r
theorem FL(n)(e:DictEntry):e.key.isStr (bQ n)=xr n e:=by unfold xr;cases e.key with|str x t=>show(x==bQ n)=fT x n;rw[ke];rfl|_=>rfl
theorem dP(n)(es:List DictEntry):nsFind es.toArray (bQ n)=gE n es:=by
 unfold nsFind findBy;rw[List.find?_toArray];induction es with
 |nil=>rfl|cons e r ih=>
  have h:gE n (e::r)=match xr n e with|true=>some e.val|false=>gE n r:=rfl
  have k:=FL n e;rw[List.find?_cons,h];show Option.map _ (match e.key.isStr (bQ n)with|true=>some e|false=>List.find? (λe=>e.key.isStr (bQ n)) r)=_;rw[k];cases xr n e with|true=>rfl|false=>exact ih
noncomputable def im(o:Obj):List DictEntry:=match o.data with|.dict es _=>es.toList|_=>[]
noncomputable def isDict(o:Obj):Bool:=match o.data with|.dict es _=>es.toList.all λe=>(match e.key with|.str _ _=>true|_=>false)|_=>false
theorem mv{h:Heap}(e:h.get? a=some o)(d:isDict o=true):h.Ns a (nsFind (im o).toArray):=by
 delta isDict at d;cases q:o.data with
 |dict es n=>
  rw[q]at d;have e1:im o=es.toList:=by delta im;rw[q]
  rw[e1];refine⟨o,es,n,e,q,λx hx=>?_,λname=>by rw[Array.toArray_toList]⟩;have:=aS.mp d x (Array.mem_toList_iff.mpr hx);cases z:x.key with|str y t=>exact⟨y,t,rfl⟩|_=>rw[z]at this;exact bq this
 |_=>rw[q]at d;exact bq d
theorem k3(P:Params):(bN P).lookup 3=some (pH P fO 134):=by kernel_rfl
theorem k0(P:Params):(bN P).lookup 0=some (boot_o_0 P):=by kernel_rfl
theorem BI(P:Params):isDict (pH P fO 134)=true:=by kernel_rfl
theorem Ro(P:Params):isDict (boot_o_0 P)=true:=by kernel_rfl
noncomputable def Yu(o:Option Value)(v:Value):Bool:=match o with|some w=>decide (w=v)|none=>false
theorem Mz(h:Yu o v=true):o=some v:=by cases o with|none=>exact bq h|some w=>rw[aU h]
noncomputable def JY(q:Str->Bool)(v:Value):Bool:=@Value.casesOn (λz_=>Bool) v false false false (λz_=>false) (λz_ z_=>false) (λz_ z_=>false) (λx z_=>q x) (λz_ z_=>false) (λz_=>false) (λz_=>false) (λz_=>false)
theorem FM(h:JY q v=true):∃x t,v=.str x t/\q x=true:=by induction v using Value.casesOn<;>first|exact bq h|exact⟨_,_,rfl,h⟩
noncomputable def JZ(q:Int->Bool)(v:Value):Bool:=@Value.casesOn (λz_=>Bool) v false false false (λz_=>false) (λx z_=>q x) (λz_ z_=>false) (λz_ z_=>false) (λz_ z_=>false) (λz_=>false) (λz_=>false) (λz_=>false)
theorem FN(h:JZ q v=true):∃x t,v=.int x t/\q x=true:=by induction v using Value.casesOn<;>first|exact bq h|exact⟨_,_,rfl,h⟩
noncomputable def FO(q:Bool->Bool)(v:Value):Bool:=@Value.casesOn (λz_=>Bool) v false false false q (λz_ z_=>false) (λz_ z_=>false) (λz_ z_=>false) (λz_ z_=>false) (λz_=>false) (λz_=>false) (λz_=>false)
theorem Cz(h:FO q v=true):∃x,v=.bool x/\q x=true:=by induction v using Value.casesOn<;>first|exact bq h|exact⟨_,rfl,h⟩
def FP(v:Value)(a:AV):Bool:=match a with|.str l=>JY (λs=>fT s l&&cB 16777216 l) v|.int j=>JZ (λi=>decide (i=j)) v|.bool b=>FO (λc=>decide (c=b)) v|_=>false
theorem vf(h:FP v a=true):VM c F v a:=by cases a with|str l=>refine bU (FM h) λs t e h=>?_;rw[e,bK (tt h).1];exact .str (aa (tt h).2)|int j=>refine bU (FN h) λs t e h=>?_;rw[e,aU h];exact .int|bool b=>refine aH (Cz h) λs e h=>?_;rw[e,aU h];exact .bool|_=>exact bq h
def wa:List Value->List AV->Bool|[],[]=>true|v::r,a::t=>FP v a&&wa r t|[],_::_=>false|_::_,[]=>false
theorem qC:∀{vs:List Value} {l:List AV},wa vs l=true->dh c F vs l|[],[],_=>.nil|[],_::_,h=>by exact bq h|v::r,[],h=>by exact bq h|v::r,a::t,h=>.cons (vf (tt h).1) (qC (tt h).2)
noncomputable def qA(q:Nat->Bool)(v:Value):Bool:=if h:v.ctorIdx=10 then Value.ref.elim v h q else false
@[elab_as_elim] theorem kC{q}{P:Value->Prop}(H:qA q v=true)(K:∀a,q a=true->P (.ref a)):P v:=dC H λh=>Value.ref.elim (motive:=λv=>∀h,Value.ref.elim v h q=true->P v) v h (λa z_=>K a) h
noncomputable def J0(q:String->Bool)(v:Value):Bool:=if h:v.ctorIdx=8 then Value.type.elim v h q else false
theorem FQ{q}(H:J0 q v=true):∃a,v=.type a/\q a=true:=dC H λh=>Value.type.elim (motive:=λv=>∀h,Value.type.elim v h q=true->∃a,v=.type a/\q a=true) v h (λa z_ h=>⟨a,rfl,h⟩) h
noncomputable def onSeq(q:Array Value->Bool)(v:Data):Bool:=if h:v.ctorIdx=2 then Data.seq.elim v h λa z_=>q a else false
theorem wd{q}(H:onSeq q v=true):∃a n,v=.seq a n/\q a=true:=dC H λh=>Data.seq.elim (motive:=λv=>∀h,Data.seq.elim v h (λa z_=>q a)=true->∃a n,v=.seq a n/\q a=true) v h (λa n z_ h=>⟨a,n,rfl,h⟩) h
def tupS(K:List (Nat×Obj))(x:Nat)(l:List AV):Bool:=oB (K.lookup x) λo=>J0 (λt=>decide (t="tuple")) o.cls&&onSeq (λvs=>wa vs.toList l&&Nat.ble l.length 1048576) o.data
def M0:List (String×Nat×Value)->List (List Nat×AV)->Bool|[],[]=>true|x::r,y::t=>fT (bZ x.1) y.1&&FP x.2.2 y.2&&M0 r t|_,_=>false
def tabS(x:Nat)(l:List (List Nat×AV)):List (Nat×List (String×Nat×Value)×Nat)->Bool|[]=>false|y::r=>(Nat.beq y.1 x&&M0 y.2.1 l&&gM (rJ l))||tabS x l r
def Wu(K:List (Nat×Obj))(v:Value):AV->Bool|.fn i=>Yu (d9 i) v|.aT l=>qA (λx=>tupS K x l) v|.dict l=>qA (λx=>tabS x l zk) v|a=>FP v a
def Wv(P:Params)(k:Nat)(a:AV):Bool:=Nat.beq k 64||(gE (gnN k) (im (pH P fO 134))).elim ((gE (gnN k) (im (boot_o_0 P))).elim false λv=>Wu (bN P) v a) λv=>Wu (bN P) v a
noncomputable def Rv(f:Nat->α->Bool)(k:Nat):Option α->Bool|some a=>f k a|none=>true
def Tr.allI(f:Nat->α->Bool):Tr α->(Nat->Nat)->Bool|.au,_=>true|.node v l r,φ=>Rv f (φ 0) v&&l.allI f (λj=>φ (2*j+1))&&r.allI f (λj=>φ (2*j+2))
theorem Tr.ic:∀{t:Tr α} {φ:Nat->Nat},t.allI f φ=true->∀{k:Nat} {a:α},t.get k=some a->f (φ k) a=true
 |.au,φ,_,k,a,e=>by exact aI e|.node v l r,φ,h,k,a,e=>by
  refine aG (tt (show(Rv f (φ 0) v&&l.allI f (λj=>φ (2*j+1))&&r.allI f (λj=>φ (2*j+2)))=true from h)) λh h3=>aG (tt h) λh1 h2=>?_;cases k with
  |zero=>have e:v=some a:=e;rw[e]at h1;exact h1|succ k=>
   have e:(match Nat.beq (k%2) 0 with|true=>l.get (k/2)|false=>r.get (k/2))=some a:=e;cases q:Nat.beq (k%2) 0 with
   |true=>
    rw[q]at e;have:=Tr.ic h2 e;have q:=aj q
    rwa [show 2*(k/2)+1=k+1 by exact Rb q]at this
   |false=>
    rw[q]at e;have:=Tr.ic h3 e;have q:¬k%2=0:=λz=>by rw[z]at q;exact il q
    rwa [show 2*(k/2)+2=k+1 by exact Rc q]at this
theorem Rw(P:Params):Ms.allI (Wv P) id=true:=by kernel_rfl
theorem Bk(P):∀x∈zk,(bN P).lookup x.1=some (pH P x.2.1 x.2.2):=by intro x hx;unfold zk at hx;simp only[am,bW,or_false]at hx;rcases hx with rfl|rfl|rfl|rfl|rfl|rfl|rfl<;>kernel_rfl
end
section
structure kY(c:Ctx):Prop where
 K:c.K=bN c.w.params
 base:c.base=bh c.w.params
 eX:c.eX=d9
def MA(c:Ctx)(F:cF):Prop:=∀b o,c.base.get? b=some o->F b=some o
section
variable{c:Ctx}{F:cF}(C:kY c)(B:MA c F)
include C B
theorem nJ(h:(bN c.w.params).lookup a=some o):F a=some o:=B _ _ (by rw[C.base];exact ir _ _ _ h)
theorem IM(h:tupS (bN c.w.params) x l=true):VM c F (.ref x) (.aT l):=by refine aH (jJ h) λo e h=>aG (tt h) λh h3=>aH (FQ h) λt e1 h1=>bU (wd h3) λvs n e2 h3=>?_;rw[aU h1]at e1;exact .aT (nJ C B e) e1 e2 (aa (tt h3).2) (qC (tt h3).1)
omit C B in
theorem tU(hw:w.params=P):∀{l:List (String×Nat×Value)} {m:List (List Nat×AV)},M0 l m=true->
  ∃kvs,Pairs (strKind prog w) (l.map λx=>E4 P x.1 x.2.1 x.2.2) kvs/\Gq c F kvs m/\kvs.map (·.1)=(rJ m).map bQ
 |[],[],_=>⟨[],.nil,.nil,rfl⟩|[],_::_,h=>by exact bq h|_::_,[],h=>by exact bq h|(s,t,v)::r,(k,a)::m,h=>by refine aG (tt (show(fT (bZ s) k&&FP v a&&M0 r m)=true from h)) λh h3=>aG (tt h) λh1 h2=>nE (tU (P:=P) (prog:=prog) (w:=w) hw h3) λkvs h4 h5 h6=>?_;refine⟨(bQ k,v)::kvs,.cons ?_ rfl h4,.cons (vf h2) h5,by rw[aC,h6];rfl⟩;show(strKind prog w).is (bQ k) (.str (bZ s) t)=true;rw[bK h1];exact strKind_is _ _ _ _
theorem IO(h:tabS x m zk=true):VM c F (.ref x) (.dict m):=by
 have key:∀{L:List (Nat×List (String×Nat×Value)×Nat)},tabS x m L=true->∃y∈L,y.1=x/\M0 y.2.1 m=true/\gM (rJ m)=true:=λ{L}=>by
  induction L with
  |nil=>intro h;exact bq h|cons y r ih=>
   refine λh=>Or.elim (bv.mp (show((Nat.beq y.1 x&&M0 y.2.1 m&&gM (rJ m))||tabS x m r)=true from h)) (λq=>?_) λq=>?_
   ·refine aG (tt q) λq q3=>aG (tt q) λq1 q2=>⟨y,.head _,aj q1,q2,q3⟩
   ·refine aH (ih q) λz z1 z2=>⟨z,.tail _ z1,z2⟩
 refine P9 (key h) λy hy kO h1 h2=>?_;subst kO;refine nE (tU (P:=c.w.params) (c:=c) (F:=F) (prog:=c.prog) (w:=c.w) rfl h1) λkvs h3 h4 h5=>?_;have lt:y.1<1052:=by have:=(i4 (Bk c.w.params y hy)).1;exact aa (aS.mp kas_lt _ this)
 refine .dict (nJ C B (Bk _ y hy)) ?_ ⟨_,_,⟨rfl,rfl,rfl⟩,rfl,λe he=>?_,by simpa using h3,by rw[h5];exact ma h2⟩ h4
 ·have all:(zk.all λy=>!(y.1==sysModules))=true:=by kernel_rfl
  have:=aS.mp all y hy;simpa using this
 ·have he:e∈(y.2.1.map λx=>E4 c.w.params x.1 x.2.1 x.2.2):=by simpa using he
  refine aH (cI.mp he) λz z_ kO=>?_;subst kO;exact⟨bZ z.1,strKind_is _ _ _ _,rfl⟩
theorem FR(h:Wu (bN c.w.params) v a=true):VM c F v a:=by induction a using AV.casesOn with|fn i=>exact .fn (by rw[C.eX];exact Mz h)|aT l=>exact kC h λx h=>IM C B h|dict l=>exact kC h λx h=>IO C B h|_=>exact vf h
end
theorem FS(P):gE (gnN 64) (im (pH P fO 134))=some (.str HM 1121):=by kernel_rfl
theorem Su:Ms.get 64=some (.str wK):=by kernel_rfl
theorem FU:cB 16777216 wK=true:=by kernel_rfl
theorem J4{P:Prop}(h:o.elim g f=true)(k:∀a,o=some a->f a=true->P)(j:o=none->g=true->P):P:=by cases o with|none=>exact j rfl h|some a=>exact k a rfl h
theorem Eo(C:kY c){E:Value->Shared->Prop}{Q:Value->Shared->Prop}(h:Ms.get k=some a)(I:Inv c F g s)(h1:env.globals=mainGlobals)(h2:env.builtins=builtinsNs)
  (hQ:∀v,VM c F v a->Q v s):wpAny c.M A (loadGlobal env (vX k)) Q E s:=by
 have e3:=mv (I.cE _ _ (nJ C I.base (k3 _))) (BI c.w.params);have e0:=mv (I.cE _ _ (nJ C I.base (k0 _))) (Ro c.w.params);have yw:=Tr.ic (Rw c.w.params) h;have dD:∀v,gE (gnN k) (im (pH c.w.params fO 134))=some v->VM c F v a->wpAny c.M A (loadGlobal env (vX k)) Q E s:=λv hv V=>loadGlobal_global (by rw[h1];exact e3) ((dP _ _).trans hv) (hQ v V);refine Or.elim (bv.mp yw) (λq=>?_) λq=>J4 q (λv hv q=>dD v hv (FR C I.base q)) λhn q=>J4 q (λv hv q=>loadGlobal_builtin (by rw[h1];exact e3) ((dP _ _).trans hn) (by rw[h2];exact e0) ((dP _ _).trans hv) (hQ v (FR C I.base q))) λ_ q=>bq q;have:=aj q;subst this;refine bD h λx=>?_;subst x;refine dD _ (FS _) ?_;rw[Ay];exact .str (aa FU)
end
section
def Ep(P:Params)(C:Nat)(m k:Nat):Bool:=oB (yq.get k) λfr=>plainGet (bN P) C (bJ m)&&oB (findIn (bN P) (.ref C) (bJ m)) (λo=>oB o λv=>qA (λx=>Nat.beq x fr.addr) v)&&isFn (bN P) (.ref fr.addr)&&fX k
def Ws(P:Params)(m k:Nat):Bool:=Ep P 811 m k&&!Nat.beq m 3&&!Nat.beq m 2&&!Nat.beq m 4
def Wt(P:Params)(m k:Nat):Bool:=Ep P 470 m k&&!Nat.beq m 5&&!Nat.beq m 6&&!Nat.beq m 7&&!Nat.beq m 8
theorem PB(P):Yc.allI (Ws P) id=true:=by kernel_rfl
theorem PC(P):Yd.allI (Wt P) id=true:=by kernel_rfl
theorem zq(h:yq.get k=some fr):d9 k=some (.ref fr.addr):=by unfold d9;rw[h]
theorem As(h:Ep P C m k=true):∃f,d9 k=some (.ref f)/\plainGet (bN P) C (bJ m)=true/\findIn (bN P) (.ref C) (bJ m)=some (some (.ref f))/\isFn (bN P) (.ref f)=true/\fX k=true:=by refine aH (jJ h) λfr e h=>aG (tt h) λh h4=>aG (tt h) λh h3=>aG (tt h) λh1 h2=>aH (jJ h2) λo e2 h2=>aH (jJ h2) λv e3 h2=>?_;exact⟨fr.addr,zq e,h1,by rw[e2,e3];exact kC (P:=λv=>some (some v)=some (some (Value.ref fr.addr))) h2 λx h=>by rw[aj h],h3,h4⟩
theorem ry(h:(!Nat.beq m k)=true):bJ m≠bJ k:=λe=>by rw[fi _ _ e,Nat.beq_refl]at h;exact bq h
theorem Ru:(fT (Str.ofString "kind") (gv 0)&&fT (Str.ofString "worth") (gv 1)&&fT (Str.ofString "at") (gv 2)&&fT (Str.ofString "tokens") (gv 3)&&fT (Str.ofString "named") (gv 4)&&fT (Str.ofString "reader") (gv 5)&&
  fT (Str.ofString "is_named") (gv 6)&&fT (Str.ofString "depth") (gv 7)&&fT (Str.ofString "last") (gv 8))=true/\(fT (Str.ofString "join") (gv 10)&&fT (Str.ofString "replace") (gv 11)&&fT (Str.ofString "split") (gv 12)&&
  fT (Str.ofString "startswith") (gv 13)&&fT (Str.ofString "lower") (gv 14)&&fT (Str.ofString "upper") (gv 15)&&fT (Str.ofString "index") (gv 16)&&fT (Str.ofString "get") (gv 17)&&fT (Str.ofString "append") (gv 18)&&fT (Str.ofString "extend") (gv 19))=true:=⟨by kernel_rfl,by kernel_rfl⟩
theorem oe:nu bJ:=by refine aG Ru λh q=>aG (tt h) λh h8=>aG (tt h) λh h7=>aG (tt h) λh h6=>aG (tt h) λh h5=>aG (tt h) λh h4=>aG (tt h) λh h3=>aG (tt h) λh h2=>aG (tt h) λh0 h1=>aG (tt q) λq q19=>aG (tt q) λq q18=>aG (tt q) λq q17=>aG (tt q) λq q16=>aG (tt q) λq q15=>aG (tt q) λq q14=>aG (tt q) λq q13=>aG (tt q) λq q12=>aG (tt q) λq10 q11=>⟨(bK h0).symm,(bK h1).symm,(bK h2).symm,(bK h3).symm,(bK h4).symm,(bK h5).symm,(bK h6).symm,(bK h7).symm,(bK h8).symm,(bK q10).symm,(bK q11).symm,(bK q12).symm,(bK q13).symm,(bK q14).symm,(bK q15).symm,(bK q16).symm,(bK q17).symm,(bK q18).symm,(bK q19).symm,fi⟩
theorem Ar(C:kY c):gD bJ c:=by
 have h:=Cf c.w.params;refine aG (tt h) λh h11=>aG (tt h) λh h10=>aG (tt h) λh h9=>aG (tt h) λh h8=>aG (tt h) λh h7=>aG (tt h) λh h6=>aG (tt h) λh h5=>aG (tt h) λh h4=>aG (tt h) λh h3=>aG (tt h) λh1 h2=>?_;rw[←C.K]at h1 h2 h3 h4 h5 h6 h7 h8 h9 h10 h11;refine⟨by rw[C.K,C.base];exact ir _,λa ha=>?_,λa h1 h2=>?_,λa h1 h2=>?_,h10,h11⟩
 ·refine Or.elim ((Rf ha:a=0∨a=1)) (λoz=>?_) λoz=>?_;(subst oz);rotate_left;(subst oz);rotate_right
  ·exact h1
  ·exact h2
 ·rcases(Rg h1 h2:a=2∨a=3∨a=4)with rfl|rfl|rfl
  ·exact h3
  ·exact h4
  ·exact h5
 ·rcases(Rh h1 h2:a=5∨a=6∨a=7∨a=8)with rfl|rfl|rfl|rfl
  ·exact h6
  ·exact h7
  ·exact h8
  ·exact h9
theorem Pz(C:kY c):zJ c:=by constructor<;>(rw[C.eX];rfl)
theorem XZ(C:kY c):c.eX 910=some (.type "range")/\c.eX 912=some (.type "reversed"):=by constructor<;>(rw[C.eX];rfl)
noncomputable def r7(x:Nat):List Nat->Bool|[]=>true|y::r=>!Nat.beq x y&&r7 x r
def m6:List Nat->Bool|[]=>true|x::r=>r7 x r&&m6 r
theorem tQ:∀{l:List Nat},r7 x l=true->x∉l|[],_=>by simp|y::r,h=>by refine aG (tt (show(!Nat.beq x y&&r7 x r)=true from h)) λh1 h2=>?_;rw[am,not_or];exact⟨λe=>by(rw[e,Nat.beq_refl]at h1;exact bq h1),tQ h2⟩
theorem iF:∀{l:List (Nat×α)},m6 (l.map (·.1))=true->(a,o)∈l->l.lookup a=some o
 |[],_,h=>by cases h|(b,x)::l,h,hm=>by
  refine aG (tt (show(r7 b (l.map (·.1))&&m6 (l.map (·.1)))=true from h)) λh1 h2=>?_;rw[aQ];refine Or.elim (am.mp hm) (λe=>?_) λhm=>?_
  ·cases e;rw[bz]
  ·have:(a==b)=false:=b8.mpr λe=>tQ h1 (by rw[←e];exact cj (f:=(·.1)) hm);rw[this];exact iF h2 hm
theorem Cy:m6 Qe=true:=by kernel_rfl
theorem wc(P)(h:r∈vG):(bN P).lookup r.a=some r.ob/\(bN P).lookup (r.a-1)=some r.co:=by
 have ap:m6 ((bN P).map (·.1))=true:=by rw[←za];exact Cy
 have m:∀x∈[(r.a-1,r.co),(r.a,r.ob)],x∈bN P:=λx hx=>aZ _ (List.mem_flatMap.mpr ⟨r,h,hx⟩);exact⟨iF ap (m _ (by simp)),iF ap (m _ (by simp))⟩
noncomputable def rowAt(a:Nat):List jI->Option jI|[]=>none|r::t=>match Nat.beq r.a a with|true=>some r|false=>rowAt a t
theorem mz:∀{l:List jI},rowAt a l=some r->r∈l/\r.a=a|[],h=>aI h|x::t,h=>by have h:(match Nat.beq x.a a with|true=>some x|false=>rowAt a t)=some r:=h;cases q:Nat.beq x.a a with|true=>rw[q]at h;refine bD h λx=>?_;subst x;exact⟨.head _,aj q⟩|false=>rw[q]at h;exact aG (mz h) λh1 h2=>⟨.tail _ h1,h2⟩
end
section
noncomputable def isDef(s:Stmt):Bool:=@Stmt.casesOn (λz_=>Bool) s (λz_ z_ z_ z_ z_ z_ z_ z_ z_ z_=>true) (λz_ z_ z_ z_ z_ z_ z_ z_ z_ z_=>false) (λz_ z_ z_ z_ z_ z_ z_ z_ z_ z_ z_=>false) (λz_ z_=>false) (λz_ z_=>false) (λz_ z_ z_=>false) (λz_ z_ z_ z_ z_ z_ z_=>false) (λz_ z_ z_ z_=>false) (λz_ z_ z_ z_ z_=>false) (λz_ z_ z_ z_ z_=>false) (λz_ z_ z_ z_ z_=>false) (λz_ z_ z_ z_=>false) (λz_ z_ z_ z_=>false) (λz_ z_ z_=>false) (λz_ z_ z_=>false) (λz_ z_ z_=>false) (λz_ z_ z_=>false) (λz_ z_ z_ z_ z_=>false) (λz_ z_ z_ z_ z_=>false) (λz_ z_ z_=>false) (λz_ z_=>false) (λz_ z_ z_ z_=>false) (λz_ z_=>false) (λz_ z_=>false) (λz_ z_=>false) (λz_=>false) (λz_=>false) (λz_=>false)
def zT:List Arg->List Nat->Bool|[],[]=>true|a::r,x::t=>fT a.arg (gv x)&&zT r t|_,_=>false
theorem v8:∀{as:List Arg} {ps:List Nat},zT as ps=true->as.map (·.arg)=ps.map bJ|[],[],_=>rfl|[],_::_,h=>by exact bq h|_::_,[],h=>by exact bq h|a::r,x::t,h=>by refine aG (tt (show(fT a.arg (gv x)&&zT r t)=true from h)) λh1 h2=>?_;rw[aC,aC,v8 h2,bK h1];rfl
noncomputable def v9:Option α->Bool|none=>true|some _=>false
theorem my(h:v9 o=true):o=none:=by cases o with|none=>rfl|some a=>exact bq h
def KZ(p:Arguments)(ps:List Nat):Bool:=nilB p.posonlyargs&&v9 p.vararg&&nilB p.kwonlyargs&&v9 p.kwarg&&zT p.args ps
theorem zU(h:KZ p ps=true):p=⟨[],p.args,none,[],p.kw_defaults,none,p.defaults⟩/\p.args.map (·.arg)=ps.map bJ:=by obtain⟨po,ar,va,ko,kd,kw,de⟩:=p;refine aG (tt h) λh h5=>aG (tt h) λh h4=>aG (tt h) λh h3=>aG (tt h) λh1 h2=>?_;have h1:po=[]:=jb h1;have h2:va=none:=my h2;have h3:ko=[]:=jb h3;have h4:kw=none:=my h4;exact⟨by rw[h1,h2,h3,h4],v8 h5⟩
def Xe(o:Option NameKind):Bool:=yt o||isCell o
def qz:NS->Bool|[]=>true|p::r=>!isFree p.2&&qz r
theorem nO:∀{ns:NS},qz ns=true->∀y,ns.lookup y≠some .free
 |[],_,y=>by simp|(x,k)::r,h,y=>by
  refine aG (tt (show(!isFree k&&qz r)=true from h)) λh1 h2=>?_;rw[aQ]
  split
  ·rintro e;(refine bD e λx=>?_;subst x);exact bq h1
  ·exact nO h2 y
def Zg(P:Params)(d:Value)(as:List AV):Bool:=(Nat.beq d.ctorIdx 0&&isNil as)||qA (λT=>oB ((bN P).lookup T) λo=>onSeq (λvs=>wa vs.toList as) o.data) d
def Tv(P:Params)(fr:vF)(r:jI):Bool:=isDef (DG r.i r.j)&&KZ r.fd.params fr.params&&sE fr.params&&ja r.fd.scope.kind&&!r.fd.scope.isCoroutine&&!r.fd.scope.isGenerator&&
 (fr.params.all λp=>Xe (jy (bJ p) r.fd.scope.names))&&qz r.fd.scope.names&&Zg P r.d fr.dflt&&Nat.ble fr.dflt.length fr.params.length
theorem k2(P):∃o,(bN P).lookup 2=some o/\isDict o=true/\gE [115,121,115,46,114,101,99,117,114,115,105,111,110,108,105,109,105,116] (im o)=none:=⟨((bN P).lookup 2).getD default,by kernel_rfl,by kernel_rfl,by kernel_rfl⟩
theorem Tw:Str.ofString "sys.recursionlimit"=bQ [115,121,115,46,114,101,99,117,114,115,105,111,110,108,105,109,105,116]:=by kernel_rfl
theorem DH(P):(bh P).NoLimit:=by refine nE (k2 P) λo h1 h2 h3=>⟨_,mv (ir _ _ _ h1) h2,?_⟩;rw[Tw,dP];exact h3
theorem DI{r:jI}(h:isDef (DG r.i r.j)=true):r.fd.qualname=bZ r.q/\r.fd.globals=3/\r.fd.closure=[]/\r.fd.defaults=r.d/\r.fd.code=.ref (r.a-1)/\r.fd.builtins=0:=by unfold jI.fd;generalize DG r.i r.j=s at h ⊢;induction s using Stmt.casesOn<;>first|exact bq h|exact⟨rfl,rfl,rfl,rfl,rfl,rfl⟩
theorem OC{c:Ctx}(C:kY c)(hr:rowAt fr.addr vG=some r)(h:Tv c.w.params fr r=true):
  ∃kd BU dv,wb (c.at r.fd.code (r.fd.qualname++".<locals>.")) bJ fr r.ob r.fd r.fd.params.args kd BU dv:=by
 refine aG (mz hr) λhm ha=>aG (wc c.w.params hm) λl1 l2=>aG (tt h) λh h10=>aG (tt h) λh h9=>aG (tt h) λh h8=>aG (tt h) λh h7=>aG (tt h) λh h6=>aG (tt h) λh h5=>aG (tt h) λh h4=>aG (tt h) λh h3=>aG (tt h) λh1 h2=>Hg (DI h1) λq1 q2 q3 q4 q5 q6=>aG (zU h2) λp1 p2=>?_;have nd:(fr.params.map bJ).Nodup:=by have:=kB h3;exact List.pairwise_map.mpr (this.imp λhne e=>hne (fi _ _ e))
 have knd:∀p∈fr.params,r.fd.scope.names.lookup (bJ p)=some .local∨r.fd.scope.names.lookup (bJ p)=some .cell:=λp hp=>by have:=aS.mp h7 p hp;rw[eF];exact(bv.mp this).imp aU aU
 have Jo:(bh c.w.params).CodeRec r.fd.code r.fd.qualname:=by rw[q1,q5];refine⟨_,_,_,r.t+1,rfl,ir _ _ _ l2,rfl,?_⟩;cases r.k7<;>rfl
 have base:c.base=bh c.w.params:=C.base
 have mk:∀dv,((r.fd.defaults=.none/\dv=[])∨∃T oT n,r.fd.defaults=.ref T/\(bh c.w.params).get? T=some oT/\oT.data=.seq dv.toArray n)->dv.length<=fr.params.length->(∀F,dh (c.at r.fd.code (r.fd.qualname++".<locals>.")) F dv fr.dflt)->
   wb (c.at r.fd.code (r.fd.qualname++".<locals>.")) bJ fr r.ob r.fd r.fd.params.args r.fd.params.kw_defaults r.fd.params.defaults dv:=λdv d1 d2 d3=>
  {
   ob:=by show c.base.get? fr.addr=_;rw[base,←ha];exact ir _ _ _ l1
   dat:=rfl
   par:=p1
   nms:=p2
   fJ:=nd
   fk:=iK h4
   co:=by simpa using h5
   ge:=by simpa using h6
   clo:=q3
   dD:=q2
   blt:=q6
   Jo:=by show c.base.CodeRec _ _;rw[base];exact Jo
   R5:=by show(_∨∃T oT n,_/\c.base.get? T=_/\_);rw[base];exact d1
   dle:=d2
   R6:=d3
   knd:=knd
   nof:=nO h8
   K0:=⟨rfl,rfl⟩
   MW:=by show c.base.NoLimit;rw[base];exact DH _}
 refine Or.elim (bv.mp h9) (λh9=>?_) λh9=>?_
 ·have e:r.d=.none:=by have h9:=(tt h9).1;revert h9;generalize r.d=v;intro h9;induction v using Value.casesOn<;>first|rfl|exact bq h9
  exact⟨_,_,[],mk [] (.inl ⟨q4.trans e,rfl⟩) (bo _) λF=>by rw[qB (tt h9).2];exact .nil⟩
 ·refine aH (kC (P:=λv=>∃T,v=.ref T/\oB ((bN c.w.params).lookup T) (λo=>onSeq (λvs=>wa vs.toList fr.dflt) o.data)=true) h9 λT h=>⟨T,rfl,h⟩) λT e h9=>aH (jJ h9) λo e2 h9=>bU (wd h9) λvs n e3 h9=>?_;have V:∀F,dh (c.at r.fd.code (r.fd.qualname++".<locals>.")) F vs.toList fr.dflt:=λF=>qC h9;exact⟨_,_,vs.toList,mk vs.toList (.inr ⟨T,o,n,q4.trans e,ir _ _ _ e2,by rw[e3,Array.toArray_toList]⟩) (by rw[(V λz_=>none).length];exact aa h10) V⟩
end
section
noncomputable def ut:List Nat:=[105,110,110,101,114]
theorem pE(h:(!b)=true):b=false:=by cases b with|false=>rfl|true=>exact bq h
def rX(q:List Arg->Bool)(a:Arguments):Bool:=nilB a.posonlyargs&&v9 a.vararg&&nilB a.kwonlyargs&&nilB a.kw_defaults&&v9 a.kwarg&&nilB a.defaults&&q a.args
theorem oI(h:rX q a=true):a=⟨[],a.args,none,[],[],none,[]⟩/\q a.args=true:=by obtain⟨po,ar,va,ko,kd,kw,de⟩:=a;refine aG (tt h) λh h7=>aG (tt h) λh h6=>aG (tt h) λh h5=>aG (tt h) λh h4=>aG (tt h) λh h3=>aG (tt h) λh1 h2=>?_;have h1:po=[]:=jb h1;have h2:va=none:=my h2;have h3:ko=[]:=jb h3;have h4:kd=[]:=jb h4;have h5:kw=none:=my h5;have h6:de=[]:=jb h6;exact⟨by rw[h1,h2,h3,h4,h5,h6],h7⟩
def Sq:NS->List (List Nat×NameKind)->Bool|[],[]=>true|a::r,b::t=>fT a.1 b.1&&decide (a.2=b.2)&&Sq r t|[],_::_=>false|_::_,[]=>false
theorem x9:∀{ns:NS} {l:List (List Nat×NameKind)},Sq ns l=true->ns=l.map λp=>(bQ p.1,p.2)|[],[],_=>rfl|[],_::_,h=>by exact bq h|_::_,[],h=>by exact bq h|(x,k)::r,b::t,h=>by refine aG (tt h) λh h3=>aG (tt h) λh1 h2=>?_;have h1:x=bQ b.1:=bK h1;have h2:k=b.2:=aU h2;rw[aC,x9 h3,h1,h2]
def qu:Expr->Bool:=iz (λs=>fT s (gnN 23)) (EW (jv λs=>fT s ut) (Ic .Add (jv λs=>fT s (gv 7)) (jd (Qo 1))))
def KO:Expr->Bool:=mY λa b sc p=>rX (kS λx=>fT x.arg ut) a&&ja sc.kind&&!sc.isGenerator&&!sc.isCoroutine&&Sq sc.names [(ut,.local),(gv 7,.free),(gnN 23,.globalImplicit)]&&qu b&&Nat.beq p.line 218&&Nat.beq p.col 36
def lS(a:Nat):Expr->Bool:=match Nat.beq a 300 with|true=>KO|false=>λz_=>false
def Bo(lb:Expr->Bool)(body:List PS)(fd:FuncData):Bool:=match fd.body with|.stmts ss=>iP lb body fd.scope.names ss|_=>false
def Wy(P:Params)(k:Nat)(fr:vF):Bool:=Nat.beq k 102||(match rowAt fr.addr vG with|some r=>Tv P fr r&&Bo (lS fr.addr) fr.body r.fd|none=>false)
theorem RD(P:Params):yq.allI (Wy P) id=true:=by kernel_rfl
end
section
def Hb:Str:=bZ "read_primary"++".<locals>."
def I0:Str:=bZ "read_condition"++".<locals>."
def Au(cl cc:Addr)(o:Obj):Prop:=∃(params:Arguments) (body:Expr) (sc:Scope) (p:Pos) (pm ctv:Value),KO (.Lambda params body sc p)=true/\o.data=.func (kla_fn "<lambda>" (Hb++"<lambda>") params body sc [(bJ 7,cl)] pm (.ref cc) ctv)
def nl:Expr->Bool:=Id .In (jv λs=>fT s (gv 38)) (eK λb s z_=>jv (λs=>fT s (gv 5)) b&&fT s (gv 4))
def RQ:Expr->Bool:=mY λa b sc p=>rX (EW (λx=>fT x.arg (gv 38)) λx=>fT x.arg (gv 39)) a&&ja sc.kind&&!sc.isGenerator&&!sc.isCoroutine&&Sq sc.names [(gv 38,.local),(gv 39,.local),(gv 5,.free)]&&nl b&&Nat.beq p.line 377&&Nat.beq p.col 39
def wH(cl cc:Addr)(o:Obj):Prop:=∃(params:Arguments) (body:Expr) (sc:Scope) (p:Pos) (pm ctv:Value),RQ (.Lambda params body sc p)=true/\o.data=.func (kla_fn "<lambda>" (I0++"<lambda>") params body sc [(bJ 5,cl)] pm (.ref cc) ctv)
structure ep(c:Ctx):Prop extends kY c where
 lb:c.kI=Au
 lq:c.B6=Hb++"<lambda>"
 Km:c.lZ=wH
 MR:c.rp=I0++"<lambda>"
 tb:c.tabs=[(295,⟨218,36,0,0⟩,Hb++"<lambda>"),(477,⟨377,39,0,0⟩,I0++"<lambda>")]
 tp:gh c.T=true
theorem ep.at(C:ep c)(cd)(q):ep (c.at cd q):=⟨⟨C.K,C.base,C.eX⟩,C.lb,C.lq,C.Km,C.MR,C.tb,C.tp⟩
def Rm(P:Params)(fr:vF):Bool:=keepIn (bN P) (.ref fr.addr)
theorem Mq(P):yq.allI (λz_ fr=>Rm P fr) id=true:=by kernel_rfl
theorem Mr(P):(keepIn (bN P) (.ref 157)&&keepIn (bN P) (.ref 482)&&keepIn (bN P) (.ref 1039))=true:=by kernel_rfl
theorem rY(e:h.get? a=some o)(hd:o.data=.func fd):Looks M h (keeperOf (.ref a)) .frame:=by obtain⟨c,d,dt,sl⟩:=o;cases hd;exact(Looks.ld (part:=none) e).andThen .now
noncomputable def Rn(v:Value):Bool:=match v with|.ref a=>Nat.beq a 157||(Nat.beq a 482||Nat.beq a 1039)|_=>true
theorem Iz(h:Rn v=true):v=.ref 157∨v=.ref 482∨v=.ref 1039∨∀a,v≠.ref a:=by
 cases v with
 |ref a=>
  have h:(Nat.beq a 157||(Nat.beq a 482||Nat.beq a 1039))=true:=h;refine Or.elim (bv.mp h) (λq=>?_) λq=>?_
  ·exact .inl (by rw[aj q])
  ·refine Or.elim (bv.mp q) (λq=>?_) λq=>?_
   ·exact .inr (.inl (by rw[aj q]))
   ·exact .inr (.inr (.inl (by rw[aj q])))
 |_=>exact .inr (.inr (.inr λa e=>nomatch e))
theorem Cn(h:d9 k=some f):(∃fr,yq.get k=some fr/\f=.ref fr.addr)∨f=.ref 157∨f=.ref 482∨f=.ref 1039∨∀a,f≠.ref a:=by unfold d9 at h;cases e:yq.get k with|some fr=>rw[e]at h;exact .inl ⟨fr,rfl,(dj h).symm⟩|none=>rw[e]at h;exact .inr (Iz (tA (q:=Rn) (by kernel_rfl) h))
theorem JD(C:ep c)(h:c.eX k=some f)(hb:∀b o,c.base.get? b=some o->F b=some o):Kp c F f:=by
 intro H hH;rw[C.eX]at h;have hin:Frag.In (bN c.w.params) H:=λa o e=>hH _ _ (hb _ _ (by rw[C.base];exact ir _ _ _ e));have fin:keepIn (bN c.w.params) f=true->∃k,(k=Keeper.frame∨k=Keeper.machine∨k=Keeper.boundFrame)/\Looks c.M H (keeperOf f) k:=λe=>keeps_K e H hin;refine aG (tt (Mr c.w.params)) λh1 h3=>aG (tt h1) λh1 h2=>?_;rcases Cn h with⟨fr,e1,rfl⟩|rfl|rfl|rfl|hn
 ·exact fin (Tr.ic (Mq c.w.params) e1)
 ·exact fin h1
 ·exact fin h2
 ·exact fin h3
 ·refine⟨.machine,.inr (.inl rfl),Looks.of_pure ?_⟩;(clear h fin;cases f)<;>first|rfl|exact bc rfl (hn _)
theorem EF{c}(C:ep c){F:cF}{f}{d}(h:VM c F f (.lam d)):Kp c F f:=by refine h.el (P:=Kp c F) λa o cl oc t cc h hb hc hd hcc H hH=>?_;rw[C.lb]at hb;refine GN hb λz_ z_ z_ z_ z_ z_ z_ e=>?_;exact⟨.frame,.inl rfl,rY (hH _ _ h) e⟩
theorem AB{c}(C:ep c){F:cF}{f}(h:VM c F f .eD):Kp c F f:=by refine h.el (P:=Kp c F) λa o cl oc w cc h hb hc hd hv hcc H hH=>?_;rw[C.Km]at hb;refine GN hb λz_ z_ z_ z_ z_ z_ z_ e=>?_;exact⟨.frame,.inl rfl,rY (hH _ _ h) e⟩
def cP(n:Nat)(A:Around):Prop:=A.handled=none/\A.depth+n<=990/\A.units+3*n+61<cLine
theorem gu(h:cP (n+1) A):cP n (A.deeper env):=by refine dy h λh1 h2 h3=>?_;exact⟨h1,by show A.depth+1+n<=990;exact Ri h2,by show A.units+3+3*n+61<cLine;exact Rj h3⟩
def nH(c:Ctx)(n:Nat):Sys:={nm:=bJ,gn:=vX,c,T:=T0,O:=OO n,cP:=cP n,mi:=λx e=>x=7/\KO e=true/\c.code=.ref 299/\c.qual=Hb}
theorem uL(h:KO e=true):∃a b c d,e=.Lambda a b c d:=by refine GH (jC h) λa b c d e1 z_=>⟨a,b,c,d,e1⟩
end
section
theorem Ua:Str.ofString "__builtins__"=bQ [95,95,98,117,105,108,116,105,110,115,95,95]:=by kernel_rfl
theorem bmod(P):∃o,(bN P).lookup 4=some o/\o.cls=.type "module"/\o.dict=some 0/\o.data=.plain/\gE [95,95,98,117,105,108,116,105,110,115,95,95] (im (pH P fO 134))=some (.ref 4):=
 ⟨((bN P).lookup 4).getD default,by kernel_rfl,by kernel_rfl,by kernel_rfl,by kernel_rfl,by kernel_rfl⟩
theorem ro(C:kY c)(I:Inv c F g s)(hP:4≠P):s.heap.BuiltinsAt (nsFind (im (pH c.w.params fO 134)).toArray) P:=by refine LI (bmod c.w.params) λo h1 h2 h3 h4 h5=>⟨4,o,?_,by decide,by decide,hP,I.cE _ _ (nJ C I.base h1),h2,h3,h4⟩;rw[Ua,dP];exact h5
theorem gG.tabs(x:gG c g F h)(e:Ext F F')(fJ:c.mu.Nodup)(hP:P∈c.tabs.map (·.1))(k:∀b o,b≠P->h.get? b=some o->h'.get? b=some o)
  (t:∀p q,(P,p,q)∈c.tabs->∃ps,h'.get? P=some (tabObj ps)/\(ps=#[]∨∃c',ps=#[rawInt p.line,rawInt p.col,.ref c']/\ju F' c' q)):gG c g F' h':=by
 have n1:=(aO.mp fJ).2.2;have Pu:=(aO.mp fJ).2.1;have n2:=(aO.mp Pu).2.2;have Ub:=(aO.mp Pu).2.1;have n3:=(aO.mp Ub).2.2;refine⟨λr d tl nd q=>?_,λy d q=>?_,λb q=>?_,λP' p q hq=>?_⟩
 ·obtain⟨es,n,p,t,h1,h2,h3,h4,h5,h6,h7,h8⟩:=x.rd r d tl nd q;exact⟨es,n,p,t,k d _ (n2 d (by rw[q];simp) P (aZ _ hP)) h1,h2,h3,h4,h5,e _ _ h6,h7.mono e,h8.mono e⟩
 ·obtain⟨es,n,vr,vn,vd,vl,h1,h2,h3,h4,h5,h6,h7,h8,h9⟩:=x.cd y d q;exact⟨es,n,vr,vn,vd,vl,k d _ (n3 d (by rw[q];simp) P hP) h1,h2,h3,h4.mono e,h5.mono e,h6.mono e,h7.mono e,e _ _ h8,h9⟩
 ·obtain⟨o,vc,vg,vs,vp,n,h1,h2,h3,h4,h5,h6,h7⟩:=x.box b q;exact⟨o,vc,vg,vs,vp,n,k b _ (n1 b (by rw[q];simp) P (aZ _ (aZ _ hP))) h1,h2,h3,h4.mono e,h5.mono e,h6.mono e,h7.mono e⟩
 ·by_cases z:P'=P
  ·(clear hP;subst z);exact t p q hq
  ·refine aH (x.tab P' p q hq) λps h1 h2=>⟨ps,k _ _ z h1,h2.imp id λ⟨c',h3,h4⟩=>⟨c',h3,h4.mono e⟩⟩
theorem zG(C:kY c){E:Value->Shared->Prop}
  (I:Inv c F g s) (hcode:env.code=.ref cA) (Ju:env.globals=mainGlobals) (hL:env.locals∉c.mu) (hd:codeHdIn (bN c.w.params) cA P=true) (ht:(P,pos',q)∈c.tabs) (hp1:pos'.line=pos.line) (hp2:pos'.col=pos.col)
  (uni:∀p' q',(P,p',q')∈c.tabs->p'=pos'/\q'=q) (h4:4≠P) (hcl:closureFor sc env=pure clos):
  wpAny c.M A (makeFunction "<lambda>" q params (.expr body) sc env [] [] [] pos pos.line) (λv s'=>∃(F':cF) (a:Addr) (o:Obj) (cc:Addr) (pm ctv:Value),v=.ref a/\XF s F F'/\Inv c F' g s'/\eZ c env.locals s s'/\F' a=some o/\
   o.data=.func (kla_fn "<lambda>" q params body sc clos pm (.ref cc) ctv)/\ju F' cc q) E s:=by
 have Dt:=mv (I.cE _ _ (nJ C I.base (k3 _))) (BI c.w.params);have Uc:=cj (f:=(·.1)) ht
 have Hy:P∈c.mu:=
  aZ _ (aZ _ (aZ _ Uc))
 have Ud:=I.apart P Hy;have hLP:env.locals≠P:=λz=>hL (z▸Hy);have K0:=codeHd_of_K (λa o e=>I.cE _ _ (nJ C I.base e)) hd;have hgP:mainGlobals≠P:=λz=>by have:=nJ C I.base (k3 c.w.params);rw[show(3:Nat)=P from z,Ud]at this;exact aI this
 have fresh:∀{b},s.heap.objs.size<=b->F b=none:=λ{b} hb=>by cases z:F b with|none=>rfl|some o=>exact bc (aN (I.cE _ _ z)) (bO.mpr hb)
 refine aH (I.d7.tab P pos' q ht) λps hps hor=>?_;refine Or.elim hor (λoz=>?_) λoz=>?_;(subst oz);rotate_left;(revert oz;refine λoz=>aH oz λc' dN hcf=>?_;subst dN);rotate_right
 ·refine kla_makeFunction hcl Ju Dt hcode K0 hps trivial rfl hgP (ro C I h4) λc' ctv h' tk hx hge hlt hrec htb=>uH hrec λc2 oc vs t e2 hoc hdc hv=>?_;cases e2;have Sb:=fresh (cb (bY hge hlt));have Ue:=fresh hge;have hne:=aJ hlt;refine⟨fq (fq F c' oc) h'.objs.size (kla_obj "<lambda>" q params body sc clos (((nsFind (im (pH c.w.params fO 134)).toArray) "__name__").getD .none) c' ctv),h'.objs.size,_,c',((nsFind (im (pH c.w.params fO 134)).toArray) "__name__").getD .none,ctv,rfl,?_,?_,?_,b9 _ _ _,rfl,⟨oc,vs,t,?_,hdc,hv⟩⟩
  ·have ex:Ext F (fq (fq F c' oc) h'.objs.size (kla_obj "<lambda>" q params body sc clos (((nsFind (im (pH c.w.params fO 134)).toArray) "__name__").getD .none) c' ctv)):=λb o e=>by rw[bf (λz=>by rw[z,Sb]at e;exact aI e),bf (λz=>by rw[z,Ue]at e;exact aI e)];exact e
   exact⟨ex,λb hb=>by
    have:=bw hb;rw[bf (aJ (aB this (cb (bY hge hlt)))),bf (aJ (aB this hge))]⟩
  ·have ex:Ext F (fq (fq F c' oc) h'.objs.size (kla_obj "<lambda>" q params body sc clos (((nsFind (im (pH c.w.params fO 134)).toArray) "__name__").getD .none) c' ctv)):=λb o e=>by rw[bf (λz=>by rw[z,Sb]at e;exact aI e),bf (λz=>by rw[z,Ue]at e;exact aI e)];exact e
   refine⟨λb o e=>?_,λb o e=>ex _ _ (I.base _ _ e),λb hb=>?_,?_,I.fJ⟩
   ·by_cases z:b=h'.objs.size
    ·subst z;rw[b9]at e;(refine bD e λx=>?_;subst x);exact be _ rfl
    ·rw[bf z]at e;refine az _ ?_;by_cases z2:b=c'
     ·(clear Ue;subst z2);rw[b9]at e;(refine bD e λx=>?_;subst x);exact hoc
     ·rw[bf z2]at e;exact hx _ _ (λz3=>by rw[z3,Ud]at e;exact aI e) (I.cE _ _ e)
   ·refine b0 (I.d7.alive hb) λo e=>?_;have:=aN e;rw[bf (aJ (aB this (cb (bY hge hlt)))),bf (aJ (aB this hge))];exact I.apart b hb
   ·refine I.d7.tabs ex I.fJ Uc (λb o hb e=>az _ (hx b o hb e)) λp' q' hq'=>?_;(clear ht;(refine aG (uni p' q' hq') λjx dN=>?_;subst jx dN));refine⟨_,az _ htb,.inr ⟨c',by rw[hp1,hp2];rfl,oc,vs,t,?_,hdc,hv⟩⟩;rw[bf hne,b9]
  ·refine⟨λb o hb hbL e=>az _ (hx b o (λz=>hb (z▸Hy)) e),λm hn=>(hn.extBut hx hLP).push _,λb hb=>?_,rfl,rfl⟩;refine ia b ?_;by_cases z:b=P
   ·(clear hd ht uni Uc Hy Ud hLP hgP;subst z);rw[htb];rfl
   ·refine b0 (bu hb) λo e=>?_;rw[hx b o z e];rfl
  ·rw[bf hne,b9]
 ·have hf:codeAmong pos (#[rawInt pos'.line,rawInt pos'.col,Value.ref c']:Array Value).toList=some (.ref c'):=by show(if(((pos'.line:Nat):Int)==((pos.line:Nat):Int)&&((pos'.col:Nat):Int)==((pos.col:Nat):Int))=true then _ else _)=_;rw[hp1,hp2];simp
  refine kla_makeFunctionHit hcl Ju Dt hcode K0 hps trivial hf (ro C I h4) λctv h' tk hk hsz=>?_;have Sb:=fresh hsz;have ex:∀o,Ext F (fq F h'.objs.size o):=λo' b o e=>by rw[bf (λz=>by rw[z,Sb]at e;exact aI e)];exact e
  refine⟨fq F h'.objs.size (kla_obj "<lambda>" q params body sc clos (((nsFind (im (pH c.w.params fO 134)).toArray) "__name__").getD .none) c' ctv),h'.objs.size,_,c',((nsFind (im (pH c.w.params fO 134)).toArray) "__name__").getD .none,ctv,rfl,?_,?_,?_,b9 _ _ _,rfl,hcf.mono (ex _)⟩
  ·exact⟨ex _,λb hb=>by
    have:=bw hb;rw[bf (aJ (aB this hsz))]⟩
  ·refine⟨λb o e=>?_,λb o e=>ex _ _ _ (I.base _ _ e),λb hb=>?_,I.d7.mono (ex _) λb z_ o e=>az _ (hk _ _ e),I.fJ⟩
   ·by_cases z:b=h'.objs.size
    ·subst z;rw[b9]at e;(refine bD e λx=>?_;subst x);exact be _ rfl
    ·rw[bf z]at e;exact az _ (hk _ _ (I.cE _ _ e))
   ·refine b0 (I.d7.alive hb) λo e=>?_;have:=aN e;rw[bf (aJ (aB this hsz))];exact I.apart b hb
  ·exact⟨λb o z_ z_ e=>az _ (hk _ _ e),λm hn=>hn.keeps λb o e=>az _ (hk _ _ e),λb hb=>iZ (λb o e=>az _ (hk _ _ e)) b hb,rfl,rfl⟩
end
section
theorem qt:bJ 135=bQ ut:=by kernel_rfl
theorem Du(h:KO e=true):∃(ann:Option Expr) (x:Arg) (body:Expr) (sc:Scope) (p:Pos),x.arg=bJ 135/\e=.Lambda ⟨[],[x],none,[],[],none,[]⟩ body sc p/\sc.kind=.function/\sc.isGenerator=false/\sc.isCoroutine=false/\
  sc.names=[(bJ 135,.local),(bJ 7,.free),(vX 23,.globalImplicit)]/\qu body=true/\p.line=218/\p.col=36:=by
 refine GH (jC h) λa b sc p nq h0=>?_;subst nq;refine aG (tt h0) λh h8=>aG (tt h) λh h7=>aG (tt h) λh h6=>aG (tt h) λh h5=>aG (tt h) λh h4=>aG (tt h) λh h3=>aG (tt h) λh1 h2=>aG (oI h1) λq1 q2=>aH (zQ q2) λx q3 q4=>?_;rw[q3]at q1;exact⟨none,x,b,sc,p,by rw[qt];exact bK q4,by rw[q1],iK h2,pE h3,pE h4,by rw[qt];exact x9 h5,h6,aj h7,aj h8⟩
theorem yo(h:qu body=true):∃p1 p2 p3 p4 p5 k p6,body=.Call (.Name (vX 23) p1) [.Name (bJ 135) p2,.BinOp (.Name (bJ 7) p3) .Add (.Constant (.int 1) k p4) p5] [] p6:=by
 refine Nn (Dv h) λs es p p' e1 h1 h2=>dp (zD h2) λa b e2 h3 h4=>bU (gY h3) λs2 p2 e3 h3=>GI (G9 h4) λx y p3 e4 h4 h5=>bU (gY h4) λs4 p4 e5 h4=>Bv (BJ h5) λc k p5 e6 h5=>aH (BK h5) λj e7 h5=>?_;have h1:s=vX 23:=bK h1;have h3:s2=bJ 135:=by rw[qt];exact bK h3
 have h4:s4=bJ 7:=bK h4;exact⟨p',p2,p4,p5,p3,k,p,by rw[e1,e2,e3,e4,e5,e6,e7,h1,h3,h4,aU h5]⟩
theorem Ha(hn:sc.names=[(bJ 135,.local),(bJ 7,.free),(vX 23,.globalImplicit)])(hc:env.cells.lookup (bJ 7)=some cl):closureFor sc env=pure [(bJ 7,cl)]:=by
 unfold closureFor;rw[hn];have:cellOf env (bJ 7)=pure cl:=by unfold cellOf;rw[hc]
 simp[this]
theorem Dw(P):codeHdIn (bN P) 299 295=true:=by kernel_rfl
theorem Dx(C:ep c){E:Value->Shared->Prop}(hb:KO e=true)(h1:c.code=.ref 299)(h2:c.qual=Hb)(I:Inv c F g s)(f:ax bJ c env F σ s)
  (hk:env.kindOf (bJ 7)=some .cell) (hl:fW 7 σ.ah=some (.int d)):wpAny c.M A (eval e env) (aE c F s env.locals g (.lam d)) E s:=by
 obtain⟨_,x,body,sc,p,hx,rfl,hfk,hgen,hco,hn,hbody,hp1,hp2⟩:=Du hb;obtain⟨m,_,hloc,_⟩:=f.ns;obtain⟨v,hv,hor⟩:=(hloc 7 _ hl (.inr (.inl hk)));refine Or.elim hor (λoz=>?_) λoz=>?_;(refine aG oz λhz z_=>?_);rotate_left;(obtain⟨_,cl,oc,q1,q2,q3⟩:=oz);rotate_right
 ·rw[hk]at hz;cases hz
 ·revert q3;refine hv.dJ λt q3=>kla_eval rfl ?_;rw[f.hcode.2,h2];have tb:(295,(⟨218,36,0,0⟩:Pos),Hb++"<lambda>")∈c.tabs:=by rw[C.tb];exact .head _
  refine aM (zG C.tokY I (f.hcode.1.trans h1) f.glob f.cR (Dw _) tb hp1.symm hp2.symm (λp' q' hq=>?_) (by decide) (Ha hn q1)) (λr s' hr=>?_) λz_ z_ z=>z
  ·rw[C.tb]at hq;refine Or.elim (am.mp hq) (λz=>?_) λz=>?_
   ·(clear hq;cases z);exact⟨rfl,rfl⟩
   ·refine Or.elim (am.mp z) (λz=>?_) λz=>?_
    ·cases z
    ·cases z
  ·obtain⟨F',a,o,cc,pm,ctv,rfl,X,I',Y,z1,z2,z3⟩:=hr;refine⟨F',X,.lam z1 ?_ (X.ext _ _ q2) q3 (by rw[C.lq];exact z3),I',Y⟩;rw[C.lb];exact⟨_,body,sc,p,pm,ctv,hb,z2⟩
end
section
theorem je:∀{l:List (Str×Value)},(l.map (·.1)).Nodup->(k,v)∈l->l.lookup k=some v
 |[],_,h=>by cases h|(y,w)::l,hnd,h=>by
  rw[aC,cn]at hnd;rw[aQ];refine Or.elim (am.mp h) (λe=>?_) λh=>?_
  ·cases e;rw[bz]
  ·have:(k==y)=false:=b8.mpr λe=>hnd.1 (e▸cj (f:=(·.1)) h);rw[this];exact je hnd.2 h
theorem vW(C:ep c)(n):mj (nH c n):=⟨(XZ C.tokY).1,(XZ C.tokY).2⟩
theorem yn(h:(nH c n).mi x e):behindInMarks op e=false:=by refine C9 (uL h.2.1) λa b d p nq=>?_;subst nq;cases op<;>rfl
theorem sW(X:XF s F F₁)(hL:s.heap.objs.size<=L)(hk:∀b o,s.heap.get? b=some o->s₁.heap.get? b=some o)(hg:s₁.gens=s.gens)(ho:s₁.os=s.os)
  (P:aE (c.at cd q) F₁ s₁ L g' r v s'):gm c F s g' r v s':=by
 obtain⟨F',Y,V,I',Z⟩:=P;have al:∀b,(s.heap.get? b).isSome=true->(s₁.heap.get? b).isSome=true:=λb hb=>by refine b0 (bu hb) λo e=>?_;rw[hk _ _ e];rfl
 have ne:∀b,(s.heap.get? b).isSome=true->b≠L:=λb hb e=>bc (bw hb) (bO.mpr (e▸hL));refine⟨F',X.trans al Y,V.back,I'.back,λL' U7 U8=>⟨λb o h1 z_ e=>Z.keep b o h1 (ne b (by rw[e];rfl)) (hk _ _ e),λm x=>?_,λb hb=>Z.alive b (al b hb),Z.gens.trans hg,Z.os.trans ho⟩⟩;exact x.at' λo e=>Z.keep _ o U7 (ne L' U8) (hk _ _ e)
theorem zE(C:ep c){E:Value->Shared->Prop}{ps:List Nat}
 (ok:cQ (nH (c.at (.ref cc) (q++".<locals>.")) n)) (I:Inv c F g s) (tk:0<s.toks) (big:c.base.objs.size<=s.heap.objs.size)
  (h:F a=some o) (hd:o.data=.func (kla_fn "<lambda>" q ⟨[],as,none,[],[],none,[]⟩ body sc [(bJ x7,cl)] pm (.ref cc) ctv)) (hcc:ju F cc q) (hcl:F cl=some oc) (hcd:oc.data=.cell (some v0)) (hv0:VM c F v0 a0)
  (hps:as.map (·.arg)=ps.map bJ) (hnd:(ps.map bJ).Nodup) (hk:sc.kind=.function) (hgen:sc.isGenerator=false) (hco:sc.isCoroutine=false) (hcell:∀x∈sc.names,x.2≠.cell) (u0:∀y,sc.names.lookup y≠some .cell)
  (hloc:∀p∈ps,sc.names.lookup (bJ p)=some .local) (hfree:sc.names.lookup (bJ x7)=some .free) (Qx:∀y,sc.names.lookup y=some .free->y=bJ x7)
  (hre:RE (nH (c.at (.ref cc) (q++".<locals>.")) n) (λx=>sc.names.lookup x) pe body) (hv:dh c F ba fb) (cM:fb.length=ps.length) (hev:ev T0 (OO n) 60 pe ⟨ps.zip fb++[(x7,a0)],none⟩ g=some (r,g')) (hA:cP (n+1) A):
  wpAny c.M A (call (.ref a) ba) (gm c F s g' r) E s:=by
 have lv:=hv.length;have lp:(ps.map bJ).length=ps.length:=bg ..;obtain⟨occ,vs,t,k1,k2,k3'⟩:=hcc;have MW:=(DH c.w.params).keeps λb o e=>I.cE _ _ (I.base _ _ (by rw[C.base];exact e));refine wpAny_call (kla_callFunE (fd:=kla_fn "<lambda>" q ⟨[],as,none,[],[],none,[]⟩ body sc [(bJ x7,cl)] pm (.ref cc) ctv) (by have:=hA.2.1;unfold recursionLimit;exact Qy this) (I.cE _ _ h) hd hco hgen rfl ⟨cc,occ,vs,t,rfl,I.cE _ _ k1,k2,k3'⟩ ?_);refine rN (D:=[]) (as:=as) (kd:=[]) (BU:=[]) (ps:=ps.map bJ) rfl hps hnd (JR cM lv lp) (bo _) (by rw[ao];exact JS cM lv lp) (aP ⟨rfl,rfl⟩) ?_;rw[List.drop_nil,cz];have MZ:(((ps.map bJ).zip ba).map (·.1)).Nodup:=by rw[List.map_fst_zip (JT cM lv lp)];exact hnd
 refine wpAny_newFunctionEnv hcell (λx hx=>?_) (λh' hns hsb=>?_) hk
 ·refine aH (cI.mp (List.of_mem_zip (a:=x.1) (b:=x.2) hx).1) λp hp e=>?_;rw[←e];exact hloc p hp
 ·have hk₁:=λb o e=>hsb.extBut b o (aJ (aN e)) (az _ e);refine⟨MW.keeps hk₁,kla_codeExpr ?_⟩;have fr:ax bJ (c.at (.ref cc) (q++".<locals>.")) (newEnv sc s.heap.objs.size mainGlobals [(bJ x7,cl)] (q++".<locals>.") (some a) (.ref cc) none builtinsNs) F ⟨ps.zip fb++[(x7,a0)],none⟩ {s with heap:=h',toks:=s.toks+((ps.map bJ).zip ba).length}:=by
   refine⟨hk,rfl,rfl,⟨rfl,rfl⟩,λhb=>?_,I.free,big,aB tk (Nat.le_add_right _ _),λx hx=>?_,_,hns,λy b hy hkl=>?_,λy l e=>by exact aI e⟩
   ·refine b0 (I.d7.alive hb) λo e=>bc (aN e) (eN _)
   ·refine Or.elim hx (λhx=>?_) λhx=>?_
    ·exact bc hx (u0 x)
    ·have:=Qx x hx;(clear hx;subst this);exact⟨cl,by show List.lookup _ [(bJ x7,cl)]=_;rw[aQ,bz]⟩
   ·refine Or.elim (eB.mp (kH hy)) (λhm=>?_) λhm=>?_
    ·refine aH (pU (nm:=bJ) hv hm) λv h1 h2=>⟨v,h1.at,.inl ⟨hloc y (List.of_mem_zip hm).1,?_⟩⟩;refine je ?_ (List.mem_reverse.mpr h2);rw[List.map_reverse];exact(List.reverse_perm _).nodup_iff.mpr MZ
    ·(clear hy hkl;cases aR.mp hm);exact⟨v0,hv0.at,.inr ⟨.inr hfree,cl,oc,by show List.lookup _ [(bJ x7,cl)]=_;rw[aQ,bz],hcl,hcd⟩⟩
  have I₁:Inv (c.at (.ref cc) (q++".<locals>.")) F g {s with heap:=h',toks:=s.toks+((ps.map bJ).zip ba).length}:=
   ⟨λb o e=>hk₁ _ _ (I.cE _ _ e),I.base,I.apart,I.d7.at.mono (Ext.refl F) λb z_ o e=>hk₁ _ _ e,I.fJ⟩
  exact aM ((oH ok (vW (C.at _ _) n) (λh=>yn h) 60 hre (λz_=>rfl) (gu hA) hev I₁ fr).1) (λv s' p=>sW (s₁:={s with heap:=h',toks:=s.toks+((ps.map bJ).zip ba).length}) XF.refl (aD _) hk₁ rfl rfl p) λz_ z_ x=>x
end
section
theorem Jv(C:ep c)(sx:zI (nH c n)):cQ (nH c n) where
 hlim:=λl h=>dA.mp h
 hon:=rfl
 N:=oe
 K:=Ar C.tokY
 B:=Pz C.tokY
 by_:=Do _ _
 WR:=ur _
 WL:=yY _ _
 sm:=by show sysModules<c.base.objs.size;rw[C.base,uK];decide
 rH:=λh=>h.1
 rU:=λh=>bY (PA) h.2.2
 sx:=sx
 glob:=λh I h1 h2 hQ=>Eo C.tokY h I h1 h2 hQ
 lam:=λh z_ I f hk hl=>by revert h;refine λoz=>vZ oz λjx h2 h3 h4=>?_;clear oz;subst jx;exact Dx C h2 h3 h4 I f hk hl
 lamT:=λh=>by refine C9 (uL h.2.1) λa b d p nq=>?_;subst nq;exact⟨λz_ z_=>rfl,λz_ z_=>rfl,λz_ z_=>rfl⟩
 jB:=λ{m k} h=>by
  have h:=Tr.ic (PB c.w.params) h;refine aG (tt (show(Ep c.w.params 811 m k&&!Nat.beq m 3&&!Nat.beq m 2&&!Nat.beq m 4)=true from h)) λh h4=>aG (tt h) λh h3=>aG (tt h) λh1 h2=>LI (As h1) λf q1 q2 q3 q4 q5=>?_;have N:=oe;refine⟨f,by show c.eX k=_;rw[C.eX];exact q1,by show plainGet c.K _ _=_;rw[C.K];exact q2,by show findIn c.K _ _=_;rw[C.K];exact q3,by show isFn c.K _=_;rw[C.K];exact q4,q5,?_,?_,?_⟩
  ·exact N.n3▸ry h2
  ·exact N.n2▸ry h3
  ·exact N.n4▸ry h4
 iJ:=λ{m k} h=>by
  have h:=Tr.ic (PC c.w.params) h;refine aG (tt (show(Ep c.w.params 470 m k&&!Nat.beq m 5&&!Nat.beq m 6&&!Nat.beq m 7&&!Nat.beq m 8)=true from h)) λh h5=>aG (tt h) λh h4=>aG (tt h) λh h3=>aG (tt h) λh1 h2=>LI (As h1) λf q1 q2 q3 q4 q5=>?_;have N:=oe;refine⟨f,by show c.eX k=_;rw[C.eX];exact q1,by show plainGet c.K _ _=_;rw[C.K];exact q2,by show findIn c.K _ _=_;rw[C.K];exact q3,by show isFn c.K _=_;rw[C.K];exact q4,q5,?_,?_,?_,?_⟩
  ·exact N.n5▸ry h2
  ·exact N.n6▸ry h3
  ·exact N.n7▸ry h4
  ·exact N.n8▸ry h5
theorem KX(h:OO (n+1) 800 (.int d::fb) g=some (r,g')):fb=[.sp 1]/\OO n 18 [.sp 1,.int (d+1)] g=some (r,g'):=by have h:=h;refine aH (a8 h) λp e1 h=>aH (a8 h) λd' e2 h=>aG (dX h) λe3 h=>?_;have e1:=ni e1;rw[du e2,pI e3]at e1;(clear e2;cases e1);exact⟨rfl,h⟩
end
section
def kX(n:Nat):Prop:=∀c,ep c->cQ (nH c n)
theorem KW(h:O 18 [.sp 1,.int (d+1)] g=o):ev T0 O 60 (.ai 23 [.ah 135,.bin .Add (.ah 7) (.aq 1)]) ⟨[135].zip [AV.sp 1]++[(7,AV.int d)],none⟩ g=o:=by rw[←h];kernel_rfl
theorem yu(H:kX n)(C:ep c){E:Value->Shared->Prop}(h:OO (n+1) 800 (.int d::fb) g=some (r,g'))(hA:cP (n+1) A)
  (hf:VM c F f (.lam d)) (I:Inv c F g s) (tk:0<s.toks) (big:c.base.objs.size<=s.heap.objs.size) (hv:dh c F ba fb):wpAny c.M A (call f ba) (gm c F s g' r) E s:=by
 have oz:=(KX h);refine aG oz λjx h=>?_;subst jx;refine hf.el (P:=λf=>wpAny c.M A (call f ba) (gm c F s g' r) E s) λa o cl oc t cc h1 hb h2 h3 hcc=>?_;rw[C.lb]at hb;rw[C.lq]at hcc;refine GN hb λparams body sc p pm ctv q1 q2=>?_;obtain⟨_,x,body',sc',p',hx,e,hfk,hgen,hco,hn,hbody,hp1,hp2⟩:=Du q1;(clear q1 hp1 hp2;cases e);refine Tt (yo hbody) λp1 p2 p3 p4 p5 k p6 Zd=>?_;subst Zd;have n1:(bJ 7==bJ 135)=false:=b8.mpr λe=>bc (fi _ _ e) (by decide);have n2:(vX 23==bJ 135)=false:=by kernel_rfl
 have n3:(vX 23==bJ 7)=false:=by kernel_rfl
 have l1:sc.names.lookup (bJ 135)=some .local:=by rw[hn,aQ,bz]
 have l2:sc.names.lookup (bJ 7)=some .free:=by rw[hn,aQ,n1,aQ,bz]
 have l3:sc.names.lookup (vX 23)=some .globalImplicit:=by rw[hn,aQ,n2,aQ,n3,aQ,bz]
 refine zE (ps:=[135]) (x7:=7) (a0:=.int d) (pe:=.ai 23 [.ah 135,.bin .Add (.ah 7) (.aq 1)]) C (H _ (C.at _ _)) I tk big h1 q2 hcc h2 h3 .int (by rw[aC,hx];rfl) (by simp) hfk hgen hco (λx hx=>?_) (λy hy=>?_) (λp hp=>?_) l2 (λy hy=>?_) ?_ hv rfl ?_ hA
 ·rw[hn]at hx;simp only[am,bW,or_false]at hx;rcases hx with rfl|rfl|rfl<;>simp
 ·have:=mem_of_lookup hy;rw[hn]at this;simp only[am,bW,or_false,Prod.mk.injEq]at this;rcases this with⟨_,h⟩|⟨_,h⟩|⟨_,h⟩<;>cases h
 ·rw[aR.mp hp];exact l1
 ·have:=mem_of_lookup hy;rw[hn]at this;simp only[am,bW,or_false,Prod.mk.injEq]at this;rcases this with⟨_,h⟩|⟨h,_⟩|⟨_,h⟩
  ·cases h
  ·exact h
  ·cases h
 ·refine .ai l3 (nN 23) (.cons (.ah ?_ (bH 135).1 (bH 135).2.1) (λz_ z_=>by simp) (.cons (.bin (.ah ?_ (bH 7).1 (bH 7).2.1) .aq) (λz_ z_=>by simp) .nil))
  ·exact .inl l1
  ·exact .inr (.inr l2)
 ·exact KW h
end
section
theorem x8(h:RQ e=true):∃(x y:Arg) (body:Expr) (sc:Scope) (p:Pos),[x,y].map (·.arg)=[38,39].map bJ/\e=.Lambda ⟨[],[x,y],none,[],[],none,[]⟩ body sc p/\sc.kind=.function/\sc.isGenerator=false/\sc.isCoroutine=false/\
  sc.names=[(bJ 38,.local),(bJ 39,.local),(bJ 5,.free)]/\nl body=true/\p.line=377/\p.col=39:=by
 refine GH (jC h) λa b sc p nq h0=>?_;subst nq;refine aG (tt h0) λh h8=>aG (tt h) λh h7=>aG (tt h) λh h6=>aG (tt h) λh h5=>aG (tt h) λh h4=>aG (tt h) λh h3=>aG (tt h) λh1 h2=>aG (oI h1) λq1 q2=>dp (zD q2) λx y q3 q4 q5=>?_;rw[q3]at q1;have z1:=bK q4;have z2:=bK q5;exact⟨x,y,b,sc,p,by rw[aC,aC,z1,z2];rfl,by rw[q1],iK h2,pE h3,pE h4,x9 h5,h6,aj h7,aj h8⟩
theorem vD(h:nl body=true):∃p1 p2 p3 p4,body=.Compare (.Name (bJ 38) p1) [.In] [.Attribute (.Name (bJ 5) p2) (bJ 4) p3] p4:=by refine GI (GJ h) λa b p e1 h1 h2=>bU (gY h1) λs p1 e2 h1=>Bv (qf h2) λc s2 p3 e3 h2=>aG (tt h2) λh3 h4=>bU (gY h3) λs3 p2 e4 h3=>?_;have h1:s=bJ 38:=bK h1;have h3:s3=bJ 5:=bK h3;have h4:s2=bJ 4:=bK h4;exact⟨p1,p2,p3,p,by rw[e1,e2,e3,e4,h1,h3,h4]⟩
theorem GK(h:OO (n+1) 801 fb g=some (r,g')):∃a b,fb=[.str a,.aT b]/\r=.bool false/\g'=g:=by have h:=h;refine aH (a8 h) λp e1 h=>aH (a8 h) λa e2 h=>aH (a8 h) λb e3 h=>?_;refine fS h λx y=>?_;subst x y;exact⟨a,b,by rw[ni e1,eP e2,uf e3],rfl,rfl⟩
theorem GL:ev T0 O 60 (.cmp .In (.ah 38) (.attr (.ah 5) 4)) ⟨[38,39].zip [AV.str a,AV.aT b]++[(5,.sp 1)],none⟩ g=some (.bool false,g):=by kernel_rfl
theorem vE(H:kX n)(C:ep c){E:Value->Shared->Prop}(h:OO (n+1) 801 fb g=some (r,g'))(hA:cP (n+1) A)
  (hf:VM c F f .eD) (I:Inv c F g s) (tk:0<s.toks) (big:c.base.objs.size<=s.heap.objs.size) (hv:dh c F ba fb):wpAny c.M A (call f ba) (gm c F s g' r) E s:=by
 refine dp (GK h) λsa sb kO sy nq=>?_;subst kO sy nq;refine hf.C8 λa o cl oc v cc h1 hb h2 h3 hv0 hcc=>?_;rw[C.Km]at hb;rw[C.MR]at hcc;refine GN hb λparams body sc p pm ctv q1 q2=>?_;obtain⟨x,y,body',sc',p',hx,e,hfk,hgen,hco,hn,hbody,hp1,hp2⟩:=x8 q1;(clear q1 hp1 hp2;cases e);refine C9 (vD hbody) λp1 p2 p3 p4 nq=>?_;subst nq;have ne:∀{i j},i≠j->(bJ i==bJ j)=false:=λh=>b8.mpr λe=>h (fi _ _ e);have l1:sc.names.lookup (bJ 38)=some .local:=by rw[hn,aQ,bz]
 have l2:sc.names.lookup (bJ 39)=some .local:=by rw[hn,aQ,ne (by decide),aQ,bz]
 have l3:sc.names.lookup (bJ 5)=some .free:=by rw[hn,aQ,ne (by decide),aQ,ne (by decide),aQ,bz]
 refine zE (ps:=[38,39]) (x7:=5) (a0:=.sp 1) (pe:=.cmp .In (.ah 38) (.attr (.ah 5) 4)) C (H _ (C.at _ _)) I tk big h1 q2 hcc h2 h3 (.sp hv0) hx ?_ hfk hgen hco (λx hx=>?_) (λy hy=>?_) (λp hp=>?_) l3 (λy hy=>?_) ?_ hv rfl GL hA
 ·have:bJ 38≠bJ 39:=λe=>bc (fi _ _ e) (by decide);simp[this]
 ·rw[hn]at hx;simp only[am,bW,or_false]at hx;rcases hx with rfl|rfl|rfl<;>simp
 ·have:=mem_of_lookup hy;rw[hn]at this;simp only[am,bW,or_false,Prod.mk.injEq]at this;rcases this with⟨_,h⟩|⟨_,h⟩|⟨_,h⟩<;>cases h
 ·refine Or.elim (am.mp hp) (λoz=>?_) λhp=>?_;(subst oz)
  ·exact l1
  ·rw[aR.mp hp];exact l2
 ·have:=mem_of_lookup hy;rw[hn]at this;simp only[am,bW,or_false,Prod.mk.injEq]at this;rcases this with⟨_,h⟩|⟨_,h⟩|⟨h,_⟩
  ·cases h
  ·cases h
  ·exact h
 ·exact .cmp (.ah (.inl l1) (bH 38).1 (bH 38).2.1) (.attr (.ah (.inr (.inr l3)) (bH 5).1 (bH 5).2.1) rfl)
end
section
theorem gm.back(P:gm (c.at cd q) F s g' r v s'):gm c F s g' r v s':=by obtain⟨F',Y,V,I',Z⟩:=P;exact⟨F',Y,V.back,I'.back,λL h1 h2=>let y:=Z L h1 h2;⟨y.keep,y.ns,y.alive,y.gens,y.os⟩⟩
set_option tactic.hygienic true in
theorem Gb(h:Bo lb body fd=true):∃ss,fd.body=.stmts ss/\iP lb body fd.scope.names ss=true:=by
 unfold Bo at h
 split at h
 ·rename_i ss e;exact⟨ss,e,h⟩
 ·exact bq h
theorem Wz:(match rowAt 300 vG with|some r=>r.q|none=>"")="read_primary":=by kernel_rfl
theorem BH(h:a=300->c.code=.ref 299/\c.qual=Hb):uA (nH c n) (lS a) where
 nm:=rfl
 gn:=rfl
 g1:=by show Ms.get 1=_;kernel_rfl
 g2:=by show Ms.get 2=_;kernel_rfl
 XE:=by show Ms.get 37=_;kernel_rfl
 lam:=λe he=>by have he:(match Nat.beq a 300 with|true=>KO|false=>λz_=>false) e=true:=he;cases q:Nat.beq a 300 with|true=>rw[q]at he;exact⟨rfl,he,h (aj q)⟩|false=>rw[q]at he;exact bq he
 OS:=λx e he=>uL he.2.1
theorem pJ(h:cP n A):A.depth<recursionLimit:=by have:=h.2.1;unfold recursionLimit;exact Ra this
set_option tactic.hygienic true in
theorem HX(H:kX n)(C:ep c){E:Value->Shared->Prop}(hi:yq.get i=some fr)(h2:i≠102)(h:uw T0 fr (OO n) fb g=some (r,g'))(hA:cP (n+1) A)
  (hf:c.eX i=some f) (I:Inv c F g s) (tk:0<s.toks) (big:c.base.objs.size<=s.heap.objs.size) (hv:dh c F ba fb):wpAny c.M A (call f ba) (gm c F s g' r) E s:=by
 rw[C.eX,zq hi]at hf;refine bD hf λx=>?_;subst x;have yw:=Tr.ic (RD c.w.params) hi;refine Or.elim (bv.mp (show(Nat.beq i 102||(match rowAt fr.addr vG with|some r=>Tv c.w.params fr r&&Bo (lS fr.addr) fr.body r.fd|none=>false))=true from yw)) (λq=>?_) λq=>?_
 ·exact bc (aj q) h2
 ·split at q
  ·rename_i row hr;refine aG (tt q) λq1 q2=>aH (Gb q2) λss e1 e2=>Wg (OC C.tokY hr q1) λkd BU dv FI=>?_;have C':ep (c.at row.fd.code (row.fd.qualname++".<locals>.")):=C.at _ _;have sn:uA (nH (c.at row.fd.code (row.fd.qualname++".<locals>.")) n) (lS fr.addr):=BH λha=>by
    have d1:=(tt (tt (tt (tt (tt (tt (tt (tt (tt q1).1).1).1).1).1).1).1).1).1;refine Hg (DI d1) λx1 z_ z_ z_ x5 z_=>?_;have hq:row.q="read_primary":=by have:=Wz;rw[ha]at hr;rw[hr]at this;exact this
    have ra:=(mz hr).2;refine⟨?_,?_⟩
    ·skip;rw[x5,ra,ha]
    ·skip;rw[x1,hq];rfl
   refine aM (Mf (S:=nH (c.at row.fd.code (row.fd.qualname++".<locals>.")) n) (H _ C') (vW C' n) (λh=>yn h) FI e1 (fh sn fr.body _ ss e2) h (λenv=>gu hA) (pJ hA) I.at tk big hv.at) (λv s' p=>p.back) λz_ z_ x=>x
  ·exact bq q
end
section
def jF(n i:Nat):Prop:=∀{c:Ctx},ep c->∀{fb g r g' f ba F s A} {E:Value->Shared->Prop},OO (n+1) i fb g=some (r,g')->cP (n+1) A->c.eX i=some f->Inv c F g s->0<s.toks->c.base.objs.size<=s.heap.objs.size->dh c F ba fb->wpAny c.M A (call f ba) (gm c F s g' r) E s
structure AA(n:Nat):Prop where
 h100:jF n 100
 UG:jF n 101
 UH:jF n 102
 UI:jF n 103
theorem ED(h:spec O i fb g=some o):i=100∨i=101∨i=103∨i=800∨i=801:=by
 unfold spec at h;cases q1:Nat.beq i 100 with|true=>exact .inl (aj q1)|false=>
 rw[q1]at h;cases q2:Nat.beq i 101 with|true=>exact .inr (.inl (aj q2))|false=>
 rw[q2]at h;cases q3:Nat.beq i 103 with|true=>exact .inr (.inr (.inl (aj q3)))|false=>
 rw[q3]at h;cases q4:Nat.beq i 800 with|true=>exact .inr (.inr (.inr (.inl (aj q4))))|false=>
 rw[q4]at h;cases q5:Nat.beq i 801 with|true=>exact .inr (.inr (.inr (.inr (aj q5))))|false=>rw[q5]at h;exact aI h
theorem JC:d9 800=none/\d9 801=none:=⟨by kernel_rfl,by kernel_rfl⟩
theorem EE(C:ep c):zI (nH c 0) where
 fn:=λz_ h=>by exact aI h
 lam:=λh=>by exact aI h
 eD:=λh=>by exact aI h
 kp:=λhv hb=>hv.IZ λh=>JD C h hb
 SN:=λhv=>EF C hv
 kpc:=λhv=>AB C hv
theorem EG(H:kX n)(X:AA n)(C:ep c):zI (nH c (n+1)) where
 fn:=λ{i fb g r g' f ba F s A E} _ h hA hf I tk big hv=>by
  have h:=h;by_cases e2:i=102
  ·subst e2;exact X.UH C h hA hf I tk big hv
  have h':(match yq.get i with|some fr=>uw T0 fr (OO n) fb g|none=>spec (OO n) i fb g)=some (r,g'):=h;cases e:yq.get i with
  |some fr=>rw[e]at h';exact HX H C e e2 h' hA hf I tk big hv|none=>
   rw[e]at h';have hf':c.eX i=some f:=hf;rcases ED h' with z|z|z|z|z
   ·(clear e2 h' e;subst z);exact X.h100 C h hA hf I tk big hv
   ·(clear e2 h' e;subst z);exact X.UG C h hA hf I tk big hv
   ·(clear e2 h' e;subst z);exact X.UI C h hA hf I tk big hv
   ·rw[C.eX,z,JC.1]at hf';exact aI hf'
   ·rw[C.eX,z,JC.2]at hf';exact aI hf'
 lam:=λh hA hf I tk big hv=>yu H C h hA hf I tk big hv
 eD:=λh hA hf I tk big hv=>vE H C h hA hf I tk big hv
 kp:=λhv hb=>hv.IZ λh=>JD C h hb
 SN:=λhv=>EF C hv
 kpc:=λhv=>AB C hv
theorem rn(X:∀n,kX n->AA n):∀n,kX n|0=>λz_ C=>Jv C (EE C)|n+1=>λz_ C=>Jv C (EG (rn X n) (X n (rn X n)) C)
end
section
noncomputable abbrev Ctx.fv(c:Ctx)(f:Nat->Option Value):Ctx:={c with eX:=f}
section
variable{c:Ctx}{F:cF}{f:Nat->Option Value}(hf:∀k v,c.eX k=some v->f k=some v)
include hf
theorem VM.more(h:VM c F v a):VM (c.fv f) F v a:=
 h.to (c:=c) (c':=c.fv f) (Ext.refl F) (λz_ z_ h=>h) rfl hf (λz_ z_ h=>h) (λz_ z_ z_ h=>h) rfl (λz_ z_ z_ h=>h) rfl
theorem gG.more(x:gG c g F h):gG (c.fv f) g F h:=
 ⟨x.rd.to rfl rfl (Ext.refl F) (λz_ y=>y.more hf) (λz_ y=>y.more hf) λz_ z_ z_ z_ z_ z_ e=>e,x.cd.to rfl (Ext.refl F) (λz_ y=>y.more hf) (λz_ y=>y.more hf) (λz_ y=>y.more hf) (λz_ y=>y.more hf) λz_ z_ z_ z_ e=>e,
  x.box.to rfl (λz_ z_ y=>y.more hf) (λz_ z_ y=>y.more hf) λz_ z_ z_ e=>e,x.tab⟩
theorem Inv.more(I:Inv c F g s):Inv (c.fv f) F g s:=⟨I.cE,I.base,I.apart,I.d7.more hf,I.fJ⟩
end
theorem Dy(name)(hsh)(t)(v)(h:gI es ps)(hm:name∉ps.map (·.1)):gI (putL name hsh (.str name t) v es) (ps++[(name,v)]):=by
 induction es generalizing ps with
 |nil=>cases ps with|nil=>exact⟨⟨t,rfl⟩,rfl,trivial⟩|cons p ps=>exact h.elim
 |cons e es ih=>cases ps with
  |nil=>exact h.elim|cons p ps=>
   obtain⟨⟨t',h1⟩,h2,h3⟩:=h;rw[aC,am,not_or]at hm;have hk:e.key.isStr name=(p.1==name):=by rw[h1];rfl
   unfold putL;rw[hk,bi (by simpa using λz=>hm.1 z.symm)];exact⟨⟨t',h1⟩,h2,ih h3 hm.2⟩
section
variable{nm:Nat->Str}{c:Ctx}{A:Around}{E:Value->Shared->Prop}{s:Shared}{F:cF}{g:G}{env:Env}{σ:Sg}
theorem BO(k:gD nm c){Q:Unit->Shared->Prop}(I:Inv c F g s)(f:ax nm c env F σ s)(hown:σ.own=none)(hdL:d≠env.locals)(Tk:F d=none)(hdm:d∉c.mu)
  (h1:s.heap.get? x=some (instObj C d)) (h2:s.heap.get? d=some (dictOf es n)) (he:gI es ps) (hz:es.length<=10) (hm:name∉ps.map (·.1)) (hs:setOk c.K C name=true)
  (hQ:∀es' n' h' t',gI es' (ps++[(name,v)])->s.toks<=t'->h'.get? d=some (dictOf es' n')->(∀b o,b≠env.locals->b≠d->s.heap.get? b=some o->h'.get? b=some o)->
   Inv c F g {s with heap:=h',toks:=t'}->ax nm c env F σ {s with heap:=h',toks:=t'}->(∀b,(s.heap.get? b).isSome=true->(h'.get? b).isSome=true)->(∀m,s.heap.Ns env.locals m->h'.Ns env.locals m)->Q () {s with heap:=h',toks:=t'}):
  wpAny c.M A (setAttr (.ref x) name v) Q E s:=by
 have X:=I.xM k;refine aH (ud I f) λm hn xL=>?_;unfold setOk at hs;simp only[aV,df]at hs;have hb:c.base.get? d=none:=by cases z:c.base.get? d with|none=>rfl|some o=>rw[I.base _ _ z]at Tk;exact Oj Tk
 refine dp (sY (L:=env.locals) h2 hdL hb) λpre post e p1 p2=>?_;have II:InstAt s.heap x (instObj C d) C (some (dictOf es n)):=⟨h1,rfl,rfl,h2⟩;have N0:=mw c env.locals s.heap;rw[e]at N0;have E1:=Dy name (PyData.keyHash c.w.params name) (s.toks+1) v he hm;have cM:(PySem.W.putL name (PyData.keyHash c.w.params name) (.str name (s.toks+1)) v es).length<=11:=by rw[hO E1,ae,←hO he,List.length_singleton];exact Ol hz
 refine set_plain X II hs.1.1.1 (osa_dict (s:={s with toks:=s.toks+1}) xL N0 X II rfl hs.1.1.2 hs.1.2 hs.2 ?_ p1 p2 (by rw[putName_dict]) rfl (aw cM (mC rfl)) λh' F' N'=>?_)
 ·rw[lookIn_dict,gR _ he];rfl
 ·refine dy (zS I hn f.fN e F' N') λk1 k2 k3=>?_;have fF:=λb o e=>k1 b o (λq=>by rw[q,f.fN]at e;exact aI e) (λq=>by rw[q,Tk]at e;exact aI e) (I.cE _ _ e);have ns:∀m',s.heap.Ns env.locals m'->h'.Ns env.locals m':=λm' x=>by rw[eU x hn];exact F'.ns
  have I':∀t',Inv c F g {s with heap:=h',toks:=t'}:=λt'=>⟨fF,I.base,I.apart,I.d7.mono (Ext.refl F) λb hb o e=>k1 b o (λq=>f.cR (q▸hb)) (λq=>hdm (q▸hb)) e,I.fJ⟩;refine hQ _ _ _ _ E1 (aw (Nat.le_succ _) (Nat.le_succ _)) k2 k1 (I' _) ?_ k3 ns;obtain⟨m1,q1,q2,q3⟩:=f.ns;refine⟨f.kind,f.glob,f.blt,f.hcode,f.cR,f.fN,f.above,aB f.tk (aw (Nat.le_succ _) (Nat.le_succ _)),f.yc,m1,ns _ q1,q2,λy l hy=>?_⟩;rw[hown]at hy;exact aI hy
end
end
section
section
variable{nm:Nat->Str}{c:Ctx}{A:Around}{E:Value->Shared->Prop}{g:G}{env:Env}{σ:Sg}{x d C:Addr}{s₀:Shared}{F₀:cF}
structure Mk(nm:Nat->Str)(c:Ctx)(env:Env)(σ:Sg)(g:G)(x d C:Addr)(s₀:Shared)(F₀:cF)(F:cF)(s:Shared)(ps:List (Str×Value)):Prop where
 ext:XF s₀ F₀ F
 inv:Inv c F g s
 fr:ax nm c env F σ s
 hx:s.heap.get? x=some (instObj C d)
 hd:∃es n,s.heap.get? d=some (dictOf es n)/\gI es ps
 ne:d≠env.locals/\x≠env.locals/\d≠x
 hF:F d=none
 hm:d∉c.mu/\x∉c.mu
 keep:∀b o,b≠env.locals->b≠d->s₀.heap.get? b=some o->s.heap.get? b=some o
 alive:∀b,(s₀.heap.get? b).isSome=true->(s.heap.get? b).isSome=true
 gens:s.gens=s₀.gens
 os:s.os=s₀.os
theorem nj(k:gD nm c)(H:Mk nm c env σ g x d C s₀ F₀ F s ps)(hown:σ.own=none)(hj:fW 9 σ.ah=some (.fn j))(Sz:c.eX j=some (.ref x))(hk:KL (env.kindOf (nm 9)))(hdb:(nm 9==("__debug__":Str))=false)
  (hdc:(nm 9==("__classdict__":Str))=false) {Q:Flow->Shared->Prop} (hs:gz ve) (hev:wpAny c.M A (eval ve env) (λv s'=>aE c F s env.locals g a v s'/\∀b o,b≠env.locals->s.heap.get? b=some o->s'.heap.get? b=some o) E s) (hm:name∉ps.map (·.1)) (hl:ps.length<=10) (J8:setOk c.K C name=true)
  (hQ:∀F' s' v,VM c F' v a->Ext F F'->Mk nm c env σ g x d C s₀ F₀ F' s' (ps++[(name,v)])->Q .next s'):wpAny c.M A (exec (.Assign [.Attribute (.Name (nm 9) p1) name p2] ve p3) env) Q E s:=by
 refine plainObj_wpAny_Assign_Attribute (aM (wpAny_toks_of (aD _) hev) (λv s1 ⟨tk,⟨F1,X1,V1,I1,Y1⟩,kk⟩=>?_) λz_ z_ x=>x.2) (hs _ _ _);have f1:=H.fr.step nm X1 Y1 tk;refine bU H.hd λes n q1 q2=>?_;have x1:=Y1.keep _ _ H.hm.2 H.ne.2.1 H.hx;have d1:=Y1.keep _ _ H.hm.1 H.ne.1 q1;have YG:=(X1.low d (by rw[q1];rfl)).trans H.hF;refine wpAny_Name (i5 I1 f1 hj hk hdc λov hov=>?_) hdb;refine hov.IZ λhov=>?_;rw[Sz]at hov;(refine bD hov λx=>?_;subst x);refine BO k I1 f1 hown H.ne.1 YG H.hm.1 x1 d1 q2 (by rw[hO q2];exact hl) hm J8 λes' n' h' t' E' ht hd' kp I' f' al ns'=>?_;refine hQ F1 _ v V1 X1.ext ⟨H.ext.trans H.alive X1,I',f',kp _ _ H.ne.2.1 (Ne.symm H.ne.2.2) x1,⟨es',n',hd',E'⟩,H.ne,YG,H.hm,λb o b2 b3 e=>kp b o b2 b3 (kk b o b2 (H.keep b o b2 b3 e)),λb hb=>al b (Y1.alive b (H.alive b hb)),Y1.gens.trans H.gens,Y1.os.trans H.os⟩
end
end
section
theorem Inv.Ag(I:Inv c F g s)(k:∀b o,s.heap.get? b=some o->h'.get? b=some o):Inv c F g {s with heap:=h'}:=
 ⟨λb o e=>k _ _ (I.cE _ _ e),I.base,I.apart,I.d7.mono (Ext.refl F) λb z_ o e=>k _ _ e,I.fJ⟩
theorem construct(C:kY c){E:Value->Shared->Prop}{Cl fI}{Q:Value->Shared->Prop}(I:Inv c F g s)(hm:makesIn (bN c.w.params) Cl=true)
  (hi:findIn (bN c.w.params) (.ref Cl) "__init__"=some (some (.ref fI))) (hf:typeIn (bN c.w.params) (.ref fI)=some (.type "function"))
  (h:∀h':Heap,(∀b o,s.heap.get? b=some o->h'.get? b=some o)->h'.get? (s.heap.objs.size+1)=some (instObj Cl s.heap.objs.size)->h'.get? s.heap.objs.size=some (dictOf [] 0)->h'.objs.size=s.heap.objs.size+2->
   codeAny c.M (A.under (.builtin "type.__call__" ⟨.ref Cl::ag,[]⟩)) (.call (.ref fI) ⟨.ref (s.heap.objs.size+1)::ag,[]⟩) (InitBack (s.heap.objs.size+1) λr s'=>match r with|.ok (.ret v)=>Q v s'|.ok _=>False|.error e=>E e s') {s with heap:=h'}):
  wpAny c.M A (call (.ref Cl) ag) Q E s:=by
 obtain⟨hh,gg,d,t,os⟩:=s;have X:Frag.In (bN c.w.params) hh:=λa o e=>I.cE _ _ (nJ C I.base e);have k:∀b o,hh.get? b=some o->((hh.push emptyDict).push (instObj Cl hh.objs.size)).get? b=some o:=λb o e=>az _ (az _ e);refine wpAny_call (make_core (makes_of X hm) (looks_findIn X hi) (λself=>bind_fn X self hf) (.inl rfl) (h _ k ?_ ?_ ?_))
 ·have:=be (hh.push emptyDict) (o:=instObj Cl hh.objs.size) rfl
  rwa [Heap.size_push]at this
 ·exact az _ (be _ rfl)
 ·rw[Heap.size_push,Heap.size_push]
end
section
section
variable{nm:Nat->Str}{c:Ctx}{A:Around}{E:Value->Shared->Prop}{g:G}{env:Env}{σ:Sg}{x d C:Addr}
theorem Mk.freeze(H:Mk nm c env σ g x d C s₁ F₁ F' s' ps)(X:XF s F F₁)(hk:∀b o,s.heap.get? b=some o->s₁.heap.get? b=some o)(hg:s₁.gens=s.gens)(ho:s₁.os=s.os)
  (hx:s.heap.objs.size<=x) (hd:s.heap.objs.size<=d) (hL:s.heap.objs.size<=env.locals) (Kn:F' x=none):
  ∃es n F'',gI es ps/\F'' x=some (instObj C d)/\F'' d=some (dictOf es n)/\Ext F' F''/\XF s F F''/\Inv c F'' g s'/\∀L',L'∉c.mu->(s.heap.get? L').isSome=true->eZ c L' s s':=by
 refine bU H.hd λes n q1 q2=>?_;have al:∀b,(s.heap.get? b).isSome=true->(s₁.heap.get? b).isSome=true:=λb hb=>by refine b0 (bu hb) λo e=>?_;rw[hk _ _ e];rfl
 have ne:∀{b y},(s.heap.get? b).isSome=true->s.heap.objs.size<=y->b≠y:=λhb hy e=>bc (bw hb) (bO.mpr (e▸hy));have ex:Ext F' (fq (fq F' d (dictOf es n)) x (instObj C d)):=λb o e=>by rw[bf (λz=>by rw[z,Kn]at e;exact aI e),bf (λz=>by rw[z,H.hF]at e;exact aI e)];exact e
 have X2:=X.trans al H.ext;refine⟨es,n,_,q2,b9 _ _ _,by rw[bf H.ne.2.2,b9],ex,⟨X2.ext.trans ex,λb hb=>?_⟩,⟨λb o e=>?_,λb o e=>ex _ _ (H.inv.base _ _ e),λb hb=>?_,H.inv.d7.mono ex λb z_ o e=>e,H.inv.fJ⟩,λL' h1 h2=>⟨λb o b1 z_ e=>?_,λm hn=>?_,λb hb=>H.alive b (al b hb),H.gens.trans hg,H.os.trans ho⟩⟩
 ·rw[bf (ne hb hx),bf (ne hb hd)];exact X2.low b hb
 ·by_cases z:b=x
  ·(clear hx Kn ex;subst z);rw[b9]at e;(refine bD e λx=>?_;subst x);exact H.hx
  ·rw[bf z]at e;by_cases z2:b=d
   ·(clear ex;subst z2);rw[b9]at e;(refine bD e λx=>?_;subst x);exact q1
   ·rw[bf z2]at e;exact H.inv.cE _ _ e
 ·have n1:b≠x:=λz=>H.hm.2 (z▸hb);have n2:b≠d:=λz=>H.hm.1 (z▸hb);rw[bf n1,bf n2];exact H.inv.apart b hb
 ·have hb:(s.heap.get? b).isSome=true:=by rw[e];rfl
  exact H.keep b o (ne hb hL) (ne hb hd) (hk _ _ e)
 ·exact hn.at' λo e=>H.keep _ o (ne h2 hL) (ne h2 hd) (hk _ _ e)
end
set_option backward.match.sparseCases true in
theorem oj{x d Cl}{S:Sys}(hS:S.c=c)(hN:S.nm=bJ)
  (FI:wb c bJ fr o fd as kd BU dv) (hb:fd.body=.stmts sts) (hl:oM fr.params fr.dflt fb=some l) (hd:A.depth<recursionLimit) (I:Inv c F g s) (tk:0<s.toks) (big:c.base.objs.size<=s.heap.objs.size) (hv:dh c F ba fb)
  (hx:s.heap.get? x=some (instObj Cl d)) (hdd:s.heap.get? d=some (dictOf [] 0)) (ZR:F d=none) (Kn:F x=none) (hm:d∉c.mu/\x∉c.mu) (hne:d≠x)
  (h:∀(env:Env) (s₁:Shared) (F₁:cF),(∀y,env.kindOf y=fd.scope.names.lookup y)->XF s F F₁->Mk bJ c env ⟨l,none⟩ g x d Cl s₁ F₁ F₁ s₁ []->s.heap.objs.size<=env.locals->(∀b o,s.heap.get? b=some o->s₁.heap.get? b=some o)->s₁.gens=s.gens->s₁.os=s.os->F₁ x=none->
   ∀E,wpAny c.M (A.deeper env) (execs sts env) (λfl s'=>R (.ok (.ret (match fl with|.ret v=>v|_=>.none))) s') E s₁):
  codeAny c.M A (.call (.ref fr.addr) ⟨ba,[]⟩) R s:=by
 subst hS;rw[←hN]at FI;refine rD (S:=S) FI hb hl hd I tk big hv λenv s₁ F₁ hk X I₁ f₁ hL hkp hg ho z_=>?_;rw[hN]at f₁;have lx:=bw (b:=x) (h:=s.heap) (by rw[hx];rfl);have ld:=bw (b:=d) (h:=s.heap) (by rw[hdd];rfl);have LY:=(X.low x (by rw[hx];rfl)).trans Kn;exact h env s₁ F₁ hk X ⟨XF.refl,I₁,f₁,hkp _ _ hx,⟨[],0,hkp _ _ hdd,trivial⟩,⟨aJ (aB ld hL),aJ (aB lx hL),hne⟩,(X.low d (by rw[hdd];rfl)).trans ZR,hm,λb o z_ z_ e=>e,λb hb=>hb,rfl,rfl⟩ hL hkp hg ho LY _
end
section
def vH(fr:vF)(r:jI):Bool:=isDef (DG r.i r.j)&&KZ r.fd.params fr.params&&sE fr.params&&ja r.fd.scope.kind&&!r.fd.scope.isCoroutine&&!r.fd.scope.isGenerator&&
 (fr.params.all λp=>Xe (jy (bJ p) r.fd.scope.names))&&qz r.fd.scope.names
theorem lT{c:Ctx}(base:c.base=bh c.w.params)(hr:rowAt fr.addr vG=some r)(h:vH fr r=true)(d1:(r.d=.none/\dv=[])∨∃T oT n,r.d=.ref T/\(bh c.w.params).get? T=some oT/\oT.data=.seq dv.toArray n)
  (d2:dv.length<=fr.params.length) (d3:∀F,dh (c.at r.fd.code (r.fd.qualname++".<locals>.")) F dv fr.dflt):
  wb (c.at r.fd.code (r.fd.qualname++".<locals>.")) bJ fr r.ob r.fd r.fd.params.args r.fd.params.kw_defaults r.fd.params.defaults dv:=by
 refine aG (mz hr) λhm ha=>aG (wc c.w.params hm) λl1 l2=>aG (tt h) λh h8=>aG (tt h) λh h7=>aG (tt h) λh h6=>aG (tt h) λh h5=>aG (tt h) λh h4=>aG (tt h) λh h3=>aG (tt h) λh1 h2=>Hg (DI h1) λq1 q2 q3 q4 q5 q6=>aG (zU h2) λp1 p2=>?_;have nd:(fr.params.map bJ).Nodup:=by have:=kB h3;exact List.pairwise_map.mpr (this.imp λhne e=>hne (fi _ _ e))
 have knd:∀p∈fr.params,r.fd.scope.names.lookup (bJ p)=some .local∨r.fd.scope.names.lookup (bJ p)=some .cell:=λp hp=>by have:=aS.mp h7 p hp;rw[eF];exact(bv.mp this).imp aU aU
 have Jo:(bh c.w.params).CodeRec r.fd.code r.fd.qualname:=by rw[q1,q5];refine⟨_,_,_,r.t+1,rfl,ir _ _ _ l2,rfl,?_⟩;cases r.k7<;>rfl
 exact
  {
   ob:=by show c.base.get? fr.addr=_;rw[base,←ha];exact ir _ _ _ l1
   dat:=rfl
   par:=p1
   nms:=p2
   fJ:=nd
   fk:=iK h4
   co:=by simpa using h5
   ge:=by simpa using h6
   clo:=q3
   dD:=q2
   blt:=q6
   Jo:=by show c.base.CodeRec _ _;rw[base];exact Jo
   R5:=by rw[q4];show(_∨∃T oT n,_/\c.base.get? T=_/\_);rw[base];exact d1
   dle:=d2
   R6:=d3
   knd:=knd
   nof:=nO h8
   K0:=⟨rfl,rfl⟩
   MW:=by show c.base.NoLimit;rw[base];exact DH _}
noncomputable def FZ:Pos:=⟨0,0,0,0⟩
def lI:Expr:=.Starred (.Name (bQ []) FZ) FZ
noncomputable def sts(b:FuncBody):List Stmt:=match b with|.stmts l=>l|_=>[]
def nS(l:List Stmt)(i:Nat):Stmt:=(l.drop i).headD rO
def nX(l:List Expr)(i:Nat):Expr:=(l.drop i).headD lI
@[irreducible] def cq(a:Nat):jI:=match rowAt a vG with|some r=>r|none=>⟨0,0,0,"",0,0,0,0,false,.none,"",0⟩
def bS(a i:Nat):Stmt:=nS (sts (cq a).fd.body) i
noncomputable def stE(d:α)(ca:List Expr->Expr->Pos->α)(ret:Option Expr->Pos->α)(iff:Expr->List Stmt->List Stmt->Pos->α)(s:Stmt):α:=@Stmt.casesOn (λz_=>α) s (λz_ z_ z_ z_ z_ z_ z_ z_ z_ z_=>d) (λz_ z_ z_ z_ z_ z_ z_ z_ z_ z_=>d) (λz_ z_ z_ z_ z_ z_ z_ z_ z_ z_ z_=>d) ret (λz_ z_=>d) ca (λz_ z_ z_ z_ z_ z_ z_=>d) (λz_ z_ z_ z_=>d) (λz_ z_ z_ z_ z_=>d) (λz_ z_ z_ z_ z_=>d) (λz_ z_ z_ z_ z_=>d) (λz_ z_ z_ z_=>d) iff (λz_ z_ z_=>d) (λz_ z_ z_=>d) (λz_ z_ z_=>d) (λz_ z_ z_=>d) (λz_ z_ z_ z_ z_=>d) (λz_ z_ z_ z_ z_=>d) (λz_ z_ z_=>d) (λz_ z_=>d) (λz_ z_ z_ z_=>d) (λz_ z_=>d) (λz_ z_=>d) (λz_ z_=>d) (λz_=>d) (λz_=>d) (λz_=>d)
noncomputable def J5(d:α)(att:Expr->α)(cal:Expr->List Expr->List Keyword->α)(num:Nat->α)(aT:List Expr->α)(lcm:Expr->List Comprehension->Scope->α)(e:Expr):α:=@Expr.casesOn (λz_=>α) e (λz_ z_ z_=>d) (λz_ z_ z_=>d) (λz_ z_ z_ z_=>d) (λz_ z_ z_=>d) (λz_ z_ z_ z_=>d) (λz_ z_ z_ z_=>d) (λz_ z_ z_=>d) (λz_ z_ z_=>d) (λx l s z_=>lcm x l s) (λz_ z_ z_ z_=>d) (λz_ z_ z_ z_ z_=>d) (λz_ z_ z_ z_=>d) (λz_ z_=>d) (λz_ z_=>d) (λz_ z_=>d) (λz_ z_ z_ z_=>d) (λf l k z_=>cal f l k) (λz_ z_ z_ z_=>d) (λz_ z_=>d) (λz_ k z_=>num k) (λo z_ z_=>att o) (λz_ z_ z_=>d) (λz_ z_=>d) (λz_ z_=>d) (λz_ z_=>d) (λl z_ z_=>aT l) (λz_ z_ z_ z_=>d)
def sT(s:Stmt):Expr:=stE lI (λl z_ z_=>nX l 0) (λz_ z_=>lI) (λt z_ z_ z_=>t) s
def sV(s:Stmt):Expr:=stE lI (λz_ v z_=>v) (λo z_=>o.getD lI) (λz_ z_ z_ z_=>lI) s
def sB(s:Stmt):List Stmt:=stE [] (λz_ z_ z_=>[]) (λz_ z_=>[]) (λz_ l z_ z_=>l) s
def sP(s:Stmt):Pos:=stE FZ (λz_ z_ p=>p) (λz_ p=>p) (λz_ z_ z_ p=>p) s
def xO(e:Expr):Expr:=J5 lI (λo=>o) (λf z_ z_=>f) (λz_=>lI) (λz_=>lI) (λz_ z_ z_=>lI) e
def xA(e:Expr)(i:Nat):Expr:=J5 lI (λz_=>lI) (λz_ l z_=>nX l i) (λz_=>lI) (λz_=>lI) (λz_ z_ z_=>lI) e
def Tm(e:Expr):List Expr:=J5 [] (λz_=>[]) (λz_ l z_=>l) (λz_=>[]) (λz_=>[]) (λz_ z_ z_=>[]) e
def xK(e:Expr):List Keyword:=J5 [] (λz_=>[]) (λz_ z_ l=>l) (λz_=>[]) (λz_=>[]) (λz_ z_ z_=>[]) e
noncomputable def xP(e:Expr):Pos:=e.pos
noncomputable def xN(e:Expr):Nat:=match e with|.Constant _ k _=>k|.Tuple _ k _=>k|_=>0
abbrev gx(c:Ctx)(a:Nat):Ctx:=c.at (cq a).fd.code ((cq a).fd.qualname++".<locals>.")
def W7(e:Expr):Expr:=J5 lI (λz_=>lI) (λz_ z_ z_=>lI) (λz_=>lI) (λz_=>lI) (λx z_ z_=>x) e
def Hd(e:Expr):Scope:=J5 (cq 0).fd.scope (λz_=>(cq 0).fd.scope) (λz_ z_ z_=>(cq 0).fd.scope) (λz_=>(cq 0).fd.scope) (λz_=>(cq 0).fd.scope) (λz_ z_ s=>s) e
def Y9(e:Expr):Comprehension:=J5 ⟨lI,lI,[],0⟩ (λz_=>⟨lI,lI,[],0⟩) (λz_ z_ z_=>⟨lI,lI,[],0⟩) (λz_=>⟨lI,lI,[],0⟩) (λz_=>⟨lI,lI,[],0⟩) (λz_ l z_=>l.headD ⟨lI,lI,[],0⟩) e
def W6(e:Expr):List Expr:=J5 [] (λz_=>[]) (λz_ z_ z_=>[]) (λz_=>[]) (λl=>l) (λz_ z_ z_=>[]) e
def pi(s:Stmt)(a:Nat)(e:Expr):Stmt:=.Assign [.Attribute (.Name (bJ 9) (xP (xO (sT s)))) (bJ a) (xP (sT s))] e (sP s)
def sj(e:Expr)(a:Nat):Expr:=.Name (bJ a) (xP e)
noncomputable def A8:vF:=⟨1000,[9,0,1,2,136],[.fn 998,.bool false],[],147⟩
theorem Mn:rowAt 147 vG=some (cq 147):=by kernel_rfl
theorem Mo:vH A8 (cq 147)=true:=by kernel_rfl
theorem Iy:(cq 147).fd.body=.stmts [pi (bS 147 0) 0 (sj (sV (bS 147 0)) 0),pi (bS 147 1) 1 (sj (sV (bS 147 1)) 1),pi (bS 147 2) 2 (sj (sV (bS 147 2)) 2),pi (bS 147 3) 136 (sj (sV (bS 147 3)) 136)]:=by kernel_rfl
theorem Mp:(cq 147).d=.ref 140:=by kernel_rfl
theorem Wm(P):∃T o n,(bN P).lookup 140=some o/\o.data=.seq [Value.ref T,.bool false].toArray n:=
 ⟨139,((bN P).lookup 140).getD default,0,by kernel_rfl,by kernel_rfl⟩
theorem Wl(P):makesIn (bN P) 157=true/\findIn (bN P) (.ref 157) "__init__"=some (some (.ref 147))/\typeIn (bN P) (.ref 147)=some (.type "function"):=⟨by kernel_rfl,by kernel_rfl,by kernel_rfl⟩
theorem Wn(P):(setOk (bN P) 157 (bJ 0)&&setOk (bN P) 157 (bJ 1)&&setOk (bN P) 157 (bJ 2)&&setOk (bN P) 157 (bJ 136))=true:=by kernel_rfl
end
section
theorem J7(h:OO (n+1) 100 fb g=some (r,g')):∃a b,fb=[.str a,.str b]/\r=.tok a b/\g'=g:=by have h:=h;refine aH (a8 h) λp e1 h=>aH (a8 h) λa e2 h=>aH (a8 h) λb e3 h=>?_;refine fS h λx y=>?_;subst x y;exact⟨a,b,by rw[ni e1,eP e2,eP e3],rfl,rfl⟩
theorem eQ{E:Value->Shared->Prop}(k:gD bJ c)(H:Mk bJ c env σ g x d C s₀ F₀ F s ps)(hown:σ.own=none)(hj:fW 9 σ.ah=some (.fn 999))(Sz:c.eX 999=some (.ref x))(hk:KL (env.kindOf (bJ 9)))
 (hb:fW b σ.ah=some av) (hkb:KL (env.kindOf (bJ b))) (hm:bJ a∉ps.map (·.1)) (hl:ps.length<=10) (J8:setOk c.K C (bJ a)=true) {st} {Q:Flow->Shared->Prop}
  (hQ:∀F' s' v,VM c F' v av->Ext F F'->Mk bJ c env σ g x d C s₀ F₀ F' s' (ps++[(bJ a,v)])->wpAny c.M A (execs ag env) Q E s'):wpAny c.M A (execs (pi st a (sj e b)::ag) env) Q E s:=
 wpAny_execs_cons (nj k H hown hj Sz hk (bH 9).1 (bH 9).2.1 (λz_ z_ z_=>rfl) (wpAny_Name (i5 H.inv H.fr hb hkb (bH b).2.1 λz_ hv=>⟨aE.here hv H.inv,λz_ z_ z_ e=>e⟩) (bH b).1) hm hl J8 λF' s' v V X M=>hQ F' s' v V X M)
end
section
noncomputable def su(f:Nat->Option Value)(x T:Addr)(j:Nat):Option Value:=match Nat.beq j 999 with|true=>some (.ref x)|false=>match Nat.beq j 998 with|true=>some (.ref T)|false=>f j
theorem A7:d9 999=none/\d9 998=none:=⟨by kernel_rfl,by kernel_rfl⟩
theorem rC:∀k v,d9 k=some v->su d9 x T k=some v:=λk v h=>by
 unfold su
 split
 ·rename_i q;rw[aj q,A7.1]at h;exact aI h
 ·split
  ·rename_i q;rw[aj q,A7.2]at h;exact aI h
  ·exact h
theorem Mm:d9 100=some (.ref 157):=by kernel_rfl
theorem Ez(h:o=some .local∨o=some .cell):KL o:=h.elim .inl λh=>.inr (.inl h)
theorem Uu:Code.weight (.builtin "type.__call__" ⟨.ref C::ag,[]⟩)=1:=by kernel_rfl
theorem Hw(n):jF n 100:=by
 intro c C fb g r g' f ba F s A E h hA hf I tk big hv;refine dp (J7 h) λa b kO sy nq=>?_;subst kO sy nq;rw[C.eX,Mm]at hf;refine bD hf λx=>?_;subst x;refine dy (Wl c.w.params) λm1 m2 m3=>Bv (Wm c.w.params) λT oT nT eT dT=>hv.two λw1 w2 e V1 V2=>?_;subst e;refine construct C.tokY I m1 m2 m3 λh' k hx hd hsz=>?_;have hmore:∀j v,c.eX j=some v->su d9 (s.heap.objs.size+1) T j=some v:=λj v e=>rC j v (by rw[C.eX]at e;exact e);have FI:=lT (c:=c.fv (su d9 (s.heap.objs.size+1) T)) (fr:=A8) (r:=cq 147) C.base Mn Mo (dv:=[.ref T,.bool false]) (.inr ⟨140,oT,nT,Mp,ir _ _ _ eT,dT⟩) (by show 2<=5;decide) (λF=>.cons (.fn rfl) (.cons .bool .nil));have k1:gD bJ (gx (c.fv (su d9 (s.heap.objs.size+1) T)) 147):=let k:=Ar C.tokY;⟨k.xM,k.tok,k.rd,k.cd,k.Sd,k.Se⟩
 have I1:Inv (gx (c.fv (su d9 (s.heap.objs.size+1) T)) 147) F g' {s with heap:=h'}:=((I.Ag k).more hmore).at;have fresh:∀{y},s.heap.objs.size<=y->F y=none:=λ{y} hy=>by cases z:F y with|none=>rfl|some o=>exact bc (aN (I.cE _ _ z)) (bO.mpr hy)
 have Yb:∀{y},s.heap.objs.size<=y->y∉c.mu:=λ{y} hy hm=>by refine b0 (I.d7.alive hm) λo e=>bc (aN e) (bO.mpr hy)
 refine aG (tt (Wn c.w.params)) λsets z4=>aG (tt sets) λsets z3=>aG (tt sets) λz1 z2=>?_;rw[←C.K]at z1 z2 z3 z4
 refine oj (c:=(gx (c.fv (su d9 (s.heap.objs.size+1) T)) 147)) (S:=nH (gx (c.fv (su d9 (s.heap.objs.size+1) T)) 147) 0) (s:={s with heap:=h'}) (fr:=A8) (l:=[(9,.fn 999),(0,.str a),(1,.str b),(2,.fn 998),(136,.bool false)]) (fb:=[.fn 999,.str a,.str b]) rfl rfl FI Iy rfl (by have:=hA.2.1;show A.depth+Code.weight _<recursionLimit;rw[Uu];unfold recursionLimit;exact Rd this) I1 tk (aw big (by show _<=h'.objs.size;rw[hsz];exact Nat.le_add_right _ _))
  (.cons (.fn rfl) (.cons (V1.more hmore).at (.cons (V2.more hmore).at .nil))) hx hd (fresh (aD _)) (fresh (Nat.le_succ _)) ⟨Yb (aD _),Yb (Nat.le_succ _)⟩ (aJ (dR _)) λenv s₁ F₁ hk X M hL hkp hg ho LY E'=>?_
 have kl:∀p∈A8.params,KL (env.kindOf (bJ p)):=λp hp=>by rw[hk];exact Ez (FI.knd p hp)
 have ne:∀{i j:Nat},i≠j->bJ i≠bJ j:=λh e=>h (fi _ _ e);refine eQ k1 M rfl rfl rfl (kl 9 (by decide)) (av:=.str a) rfl (kl 0 (by decide)) (by simp) (by simp) z1 λF2 s2 v1 W1 X2 M2=>?_;refine eQ k1 M2 rfl rfl rfl (kl 9 (by decide)) (av:=.str b) rfl (kl 1 (by decide)) (by simp[ne]) (by simp) z2 λF3 s3 v2 W2 X3 M3=>?_;refine eQ k1 M3 rfl rfl rfl (kl 9 (by decide)) (av:=.fn 998) rfl (kl 2 (by decide)) (by simp[ne]) (by simp) z3 λF4 s4 v3 W3 X4 M4=>?_;refine eQ k1 M4 rfl rfl rfl (kl 9 (by decide)) (av:=.bool false) rfl (kl 136 (by decide)) (by simp[ne]) (by simp) z4 λF5 s5 v4 W4 X5 M5=>wpAny_execs_nil ?_;refine⟨rfl,?_⟩;have X0:XF s F F₁:=⟨X.ext,λb hb=>X.low b (iZ k b hb)⟩;have hsz':s.heap.objs.size<=h'.objs.size:=by rw[hsz];exact Nat.le_add_right _ _
 have P5:=(M5.ext.low _ (by rw[hkp _ _ hx];rfl)).trans LY;refine Wj (M5.freeze X0 (λb o e=>hkp _ _ (k _ _ e)) hg ho (Nat.le_succ _) (aD _) (aw hsz' hL) P5) λes nn F6 E6 Fx Fd X6 JB I6 S6=>?_;have I7:Inv c F6 g' s5:=⟨I6.cE,I6.base,I6.apart,I.d7.mono JB.ext λb hb o e=>M5.keep b o (aJ (aB (aN e) (aw hsz' hL))) (aJ (aN e)) (hkp _ _ (k _ _ e)),I6.fJ⟩;have n0:=oe.n0;have n1:=oe.n1;have n2:=oe.n2;have aav:bJ 136=("is_in_a":Str):=by kernel_rfl
 revert E6;refine W1.i6 λt1 b1=>W2.i6 λt2 b2 E6=>?_;exact⟨F6,JB,.tok Fx Fd E6 b1 b2,I7,λL h1 h2=>let y:=S6 L h1 h2;⟨y.keep,y.ns,y.alive,y.gens,y.os⟩⟩
end
section
section
variable{c c₂:Ctx}{F:cF}
theorem VM.plain(hf:∀k v,c.eX k=some v->c₂.eX k=some v)(h:VM c F v a):cS a=true->VM c₂ F v a:=
 VM.rec (motive_1:=λv a z_=>cS a=true->VM c₂ F v a) (motive_2:=λv a z_=>gh a=true->dh c₂ F v a) (motive_3:=λz_ z_ z_=>True)
  (λz_=>.none) (λz_=>.bool) (λz_=>.int) (λh z_=>.str h) (λh z_=>.bytes h) (λh hc hd hn z_ ih p=>.aT h hc hd hn (ih p)) (λh hc hd hn z_ ih p=>.list h hc hd hn (ih p)) (λh hd he hk hw z_=>.tok h hd he hk hw)
  (λz_ z_ z_ z_ z_ p=>bq p) (λh z_=>.fn (hf _ _ h)) (λz_ p=>bq p) (λz_ z_ z_ p=>bq p) (λz_ z_ z_ z_ z_ p=>bq p) (λz_ z_ z_ z_ z_ z_ p=>bq p)
  (λz_=>.nil) (λz_ z_ h hs p=>.cons (h (bk.mp p).1) (hs (bk.mp p).2)) trivial (λz_ z_ z_ z_=>trivial) h
end
end
section
theorem Da(hn:sc.names=[(bJ 38,.local),(bJ 39,.local),(bJ 5,.free)])(hc:env.cells.lookup (bJ 5)=some cl):closureFor sc env=pure [(bJ 5,cl)]:=by
 unfold closureFor;rw[hn];have:cellOf env (bJ 5)=pure cl:=by unfold cellOf;rw[hc]
 simp[this]
theorem zF(P):codeHdIn (bN P) 481 477=true:=by kernel_rfl
theorem Bw(C:ep c){E:Value->Shared->Prop}(hb:RQ e=true)(h1:c.code=.ref 481)(h2:c.qual=I0)(I:Inv c F g s)(f:ax bJ c env F σ s)
  (hk:env.kindOf (bJ 5)=some .cell) (hl:fW 5 σ.ah=some (.sp 1)):wpAny c.M A (eval e env) (aE c F s env.locals g .eD) E s:=by
 obtain⟨x,y,body,sc,p,hx,rfl,hfk,hgen,hco,hn,hbody,hp1,hp2⟩:=x8 hb;obtain⟨m,_,hloc,_⟩:=f.ns;obtain⟨v,hv,hor⟩:=(hloc 5 _ hl (.inr (.inl hk)));refine Or.elim hor (λoz=>?_) λoz=>?_;(refine aG oz λhz z_=>?_);rotate_left;(obtain⟨_,cl,oc,q1,q2,q3⟩:=oz);rotate_right
 ·rw[hk]at hz;cases hz
 ·refine hv.zz λhsp=>kla_eval rfl ?_;rw[f.hcode.2,h2];have tb:(477,(⟨377,39,0,0⟩:Pos),I0++"<lambda>")∈c.tabs:=by rw[C.tb];exact .tail _ (.head _)
  refine aM (zG C.tokY I (f.hcode.1.trans h1) f.glob f.cR (zF _) tb hp1.symm hp2.symm (λp' q' hq=>?_) (by decide) (Da hn q1)) (λr s' hr=>?_) λz_ z_ z=>z
  ·rw[C.tb]at hq;refine Or.elim (am.mp hq) (λz=>?_) λz=>?_
   ·cases z
   ·refine Or.elim (am.mp z) (λz=>?_) λz=>?_
    ·(clear hq;cases z);exact⟨rfl,rfl⟩
    ·cases z
  ·obtain⟨F',a,o,cc,pm,ctv,rfl,X,I',Y,z1,z2,z3⟩:=hr;refine⟨F',X,.eD z1 ?_ (X.ext _ _ q2) q3 hsp (by rw[C.MR];exact z3),I',Y⟩;rw[C.Km];exact⟨_,body,sc,p,pm,ctv,hb,z2⟩
section
variable{nm:Nat->Str}{c:Ctx}{A:Around}{E:Value->Shared->Prop}{g:G}{env:Env}{σ:Sg}{x d C:Addr}
theorem Mk.zH(H:Mk nm c env σ g x d C s₁ F₁ F' s' ps)(X:XF s F F₁)(hk:∀b o,s.heap.get? b=some o->s₁.heap.get? b=some o)(hg:s₁.gens=s.gens)(ho:s₁.os=s.os)
  (hx:s.heap.objs.size<=x) (hd:s.heap.objs.size<=d) (hL:s.heap.objs.size<=env.locals) (Kn:F' x=none):
  ∃es n F'',gI es ps/\F'' x=some (instObj C d)/\F'' d=none/\s'.heap.get? d=some (dictOf es n)/\Ext F' F''/\XF s F F''/\Inv c F'' g s'/\∀L',L'∉c.mu->(s.heap.get? L').isSome=true->eZ c L' s s':=by
 refine bU H.hd λes n q1 q2=>?_;have al:∀b,(s.heap.get? b).isSome=true->(s₁.heap.get? b).isSome=true:=λb hb=>by refine b0 (bu hb) λo e=>?_;rw[hk _ _ e];rfl
 have ne:∀{b y},(s.heap.get? b).isSome=true->s.heap.objs.size<=y->b≠y:=λhb hy e=>bc (bw hb) (bO.mpr (e▸hy));have ex:Ext F' (fq F' x (instObj C d)):=λb o e=>by rw[bf (λz=>by rw[z,Kn]at e;exact aI e)];exact e
 have X2:=X.trans al H.ext;refine⟨es,n,_,q2,b9 _ _ _,by rw[bf H.ne.2.2];exact H.hF,q1,ex,⟨X2.ext.trans ex,λb hb=>?_⟩,⟨λb o e=>?_,λb o e=>ex _ _ (H.inv.base _ _ e),λb hb=>?_,H.inv.d7.mono ex λb z_ o e=>e,H.inv.fJ⟩,λL' h1 h2=>⟨λb o b1 z_ e=>?_,λm hn=>?_,λb hb=>H.alive b (al b hb),H.gens.trans hg,H.os.trans ho⟩⟩
 ·rw[bf (ne hb hx)];exact X2.low b hb
 ·by_cases z:b=x
  ·(clear hx Kn ex;subst z);rw[b9]at e;(refine bD e λx=>?_;subst x);exact H.hx
  ·rw[bf z]at e;exact H.inv.cE _ _ e
 ·have n1:b≠x:=λz=>H.hm.2 (z▸hb);rw[bf n1];exact H.inv.apart b hb
 ·have hb:(s.heap.get? b).isSome=true:=by rw[e];rfl
  exact H.keep b o (ne hb hL) (ne hb hd) (hk _ _ e)
 ·exact hn.at' λo e=>H.keep _ o (ne h2 hL) (ne h2 hd) (hk _ _ e)
end
noncomputable def GP:vF:=⟨1001,[9,5,6,7],[],[],390⟩
theorem Ko:rowAt 390 vG=some (cq 390):=by kernel_rfl
theorem Ng:vH GP (cq 390)=true:=by kernel_rfl
theorem SO:(cq 390).d=.none:=by kernel_rfl
theorem GQ:(cq 390).fd.body=.stmts [pi (bS 390 0) 5 (sj (sV (bS 390 0)) 5),pi (bS 390 1) 6 (sj (sV (bS 390 1)) 6),pi (bS 390 2) 7 (sj (sV (bS 390 2)) 7),pi (bS 390 3) 8 (.Constant .none (xN (sV (bS 390 3))) (xP (sV (bS 390 3))))]:=by kernel_rfl
theorem YM(P):makesIn (bN P) 470=true/\findIn (bN P) (.ref 470) "__init__"=some (some (.ref 390))/\typeIn (bN P) (.ref 390)=some (.type "function"):=⟨by kernel_rfl,by kernel_rfl,by kernel_rfl⟩
theorem YN(P):(setOk (bN P) 470 (bJ 5)&&setOk (bN P) 470 (bJ 6)&&setOk (bN P) 470 (bJ 7)&&setOk (bN P) 470 (bJ 8))=true:=by kernel_rfl
end
section
section
variable{c:Ctx}{A:Around}{E:Value->Shared->Prop}{g:G}{s:Shared}{F:cF}
theorem mV(I:Inv c F g s){y}(hy:s.heap.objs.size<=y):F y=none:=by cases z:F y with|none=>rfl|some o=>exact bc (aN (I.cE _ _ z)) (bO.mpr hy)
theorem fg(I:Inv c F g s){y}(hy:s.heap.objs.size<=y):y∉c.mu:=λhm=>by refine b0 (I.d7.alive hm) λo e=>bc (aN e) (bO.mpr hy)
theorem G8(C:ep c)(hA:A.depth<=991)(I:Inv c F g s)(tk:0<s.toks)(big:c.base.objs.size<=s.heap.objs.size){vr vl vd}(hr:VM c F vr (.sp 1))(hl:VM c F vl .eD)(hd0:VM c F vd (.int 0)){Q:Value->Shared->Prop}
  (hQ:∀F' s' es n w1 w2 w3,XF s F F'->Inv c F' g s'->(∀L,L∉c.mu->(s.heap.get? L).isSome=true->eZ c L s s')->F' (s.heap.objs.size+1)=some (instObj 470 s.heap.objs.size)->F' s.heap.objs.size=none->s'.heap.get? s.heap.objs.size=some (dictOf es n)->
   gI es [("reader",w1),("is_named",w2),("depth",w3),("last",.none)]->VM c F' w1 (.sp 1)->VM c F' w2 .eD->VM c F' w3 (.int 0)->Q (.ref (s.heap.objs.size+1)) s'):
  wpAny c.M A (call (.ref 470) [vr,vl,vd]) Q E s:=by
 refine dy (YM c.w.params) λm1 m2 m3=>construct C.tokY I m1 m2 m3 λh' k hx hd hsz=>?_;have hmore:∀j v,c.eX j=some v->su d9 (s.heap.objs.size+1) 0 j=some v:=λj v e=>rC j v (by rw[C.eX]at e;exact e);have FI:=lT (c:=c.fv (su d9 (s.heap.objs.size+1) 0)) (fr:=GP) (r:=cq 390) C.base Ko Ng (dv:=[]) (.inl ⟨SO,rfl⟩) (bo _) (λF=>.nil);have k1:gD bJ (gx (c.fv (su d9 (s.heap.objs.size+1) 0)) 390):=let k:=Ar C.tokY;⟨k.xM,k.tok,k.rd,k.cd,k.Sd,k.Se⟩
 have I1:Inv (gx (c.fv (su d9 (s.heap.objs.size+1) 0)) 390) F g {s with heap:=h'}:=((I.Ag k).more hmore).at;refine aG (tt (YN c.w.params)) λsets z4=>aG (tt sets) λsets z3=>aG (tt sets) λz1 z2=>?_;rw[←C.K]at z1 z2 z3 z4
 refine oj (c:=(gx (c.fv (su d9 (s.heap.objs.size+1) 0)) 390)) (S:=nH (gx (c.fv (su d9 (s.heap.objs.size+1) 0)) 390) 0) (s:={s with heap:=h'}) (fr:=GP) (l:=[(9,.fn 999),(5,.sp 1),(6,.eD),(7,.int 0)]) (fb:=[.fn 999,.sp 1,.eD,.int 0]) rfl rfl FI GQ rfl (by show A.depth+Code.weight _<recursionLimit;rw[Uu];unfold recursionLimit;exact JA hA) I1 tk (aw big (by show _<=h'.objs.size;rw[hsz];exact Nat.le_add_right _ _))
  (.cons (.fn rfl) (.cons (hr.more hmore).at (.cons (hl.more hmore).at (.cons (hd0.more hmore).at .nil)))) hx hd (mV I (aD _)) (mV I (Nat.le_succ _)) ⟨fg I (aD _),fg I (Nat.le_succ _)⟩ (aJ (dR _)) λenv s₁ F₁ hk X M hL hkp hg ho LY E'=>?_
 have kl:∀p∈GP.params,KL (env.kindOf (bJ p)):=λp hp=>by rw[hk];exact Ez (FI.knd p hp)
 have ne:∀{i j:Nat},i≠j->bJ i≠bJ j:=λh e=>h (fi _ _ e);refine eQ k1 M rfl rfl rfl (kl 9 (by decide)) (av:=.sp 1) rfl (kl 5 (by decide)) (by simp) (by simp) z1 λF2 s2 v1 W1 X2 M2=>?_;refine eQ k1 M2 rfl rfl rfl (kl 9 (by decide)) (av:=.eD) rfl (kl 6 (by decide)) (by simp[ne]) (by simp) z2 λF3 s3 v2 W2 X3 M3=>?_;refine eQ k1 M3 rfl rfl rfl (kl 9 (by decide)) (av:=.int 0) rfl (kl 7 (by decide)) (by simp[ne]) (by simp) z3 λF4 s4 v3 W3 X4 M4=>?_;refine wpAny_execs_cons (nj (a:=.none) k1 M4 rfl (j:=999) rfl rfl (kl 9 (by decide)) (bH 9).1 (bH 9).2.1 (λz_ z_ z_=>rfl) (Constant_none ⟨aE.here .none M4.inv,λz_ z_ z_ e=>e⟩) (by simp[ne]) (by simp) z4 λF5 s5 v4 W4 X5 M5=>wpAny_execs_nil ?_);refine⟨rfl,?_⟩;have X0:XF s F F₁:=⟨X.ext,λb hb=>X.low b (iZ k b hb)⟩;have hsz':s.heap.objs.size<=h'.objs.size:=by rw[hsz];exact Nat.le_add_right _ _
 have P5:=(M5.ext.low _ (by rw[hkp _ _ hx];rfl)).trans LY;obtain⟨es,nn,F6,E6,Fx,Fd,hes,X6,JB,I6,S6⟩:=M5.zH X0 (λb o e=>hkp _ _ (k _ _ e)) hg ho (Nat.le_succ _) (aD _) (aw hsz' hL) P5;have I7:Inv c F6 g s5:=⟨I6.cE,I6.base,I6.apart,I.d7.mono JB.ext λb hb o e=>M5.keep b o (aJ (aB (aN e) (aw hsz' hL))) (aJ (aN e)) (hkp _ _ (k _ _ e)),I6.fJ⟩;have n5:=oe.n5;have n6:=oe.n6;have n7:=oe.n7;have n8:=oe.n8;(clear M5;have e4:=W4.noneE (P:=λv=>v=.none) rfl;subst e4);refine hQ F6 s5 es nn v1 v2 v3 JB I7 (λL h1 h2=>let y:=S6 L h1 h2;⟨y.keep,y.ns,y.alive,y.gens,y.os⟩) Fx Fd hes E6 ?_ ?_ ?_
 ·exact W1.zz λh=>.sp h
 ·exact W2.C8 λz_ z_ z_ z_ z_ z_ h hb hc hd hv hcc=>.eD (X6 _ _ (X5 _ _ (X4 _ _ h))) hb (X6 _ _ (X5 _ _ (X4 _ _ hc))) hd hv (((hcc.mono X4).mono X5).mono X6)
 ·exact W3.dJ λz_=>.int
end
end
section
noncomputable abbrev Ctx.xR(c:Ctx)(x d:Addr):Ctx:={c with cd:=some (x,d)}
theorem ep.xR(C:ep c)(x d:Addr):ep (c.xR x d):=⟨⟨C.K,C.base,C.eX⟩,C.lb,C.lq,C.Km,C.MR,C.tb,C.tp⟩
theorem ib:∀l:List Int,gh (l.map .int)=true|[]=>rfl|_::r=>ib r
section
variable{c:Ctx}{F:cF}{x d:Addr}
theorem fZ:b∈c.mu↔b∈c.box.toList∨b∈(c.rd.map λx=>x.2.1).toList∨b∈(c.cd.map λx=>x.2).toList∨b∈c.tabs.map (·.1):=by unfold Ctx.mu;simp only[eB]
theorem mS:b∈(c.xR x d).mu↔b∈c.box.toList∨b∈(c.rd.map λx=>x.2.1).toList∨b=d∨b∈c.tabs.map (·.1):=by rw[fZ];simp
theorem nK(h:b∈(c.xR x d).mu):b∈c.mu∨b=d:=by
 rw[mS]at h;rw[fZ];rcases h with h|h|h|h
 ·exact .inl (.inl h)
 ·exact .inl (.inr (.inl h))
 ·exact .inr h
 ·exact .inl (.inr (.inr (.inr h)))
theorem Hz(n:c.mu.Nodup)(h:d∉c.mu):(c.xR x d).mu.Nodup:=by
 have hb:=mt fZ.mpr h;simp only[not_or]at hb;refine dy (aO.mp n) λa1 a2 a3=>dy (aO.mp a2) λb1 b2 b3=>dy (aO.mp b2) λc1 c2 c3=>aO.mpr ⟨a1,aO.mpr ⟨b1,?_,λa ha b hb'=>?_⟩,λa ha b hb'=>?_⟩
 ·skip;exact cn.mpr ⟨hb.2.2.2,c2⟩
 ·refine Or.elim (am.mp (show b∈d::c.tabs.map (·.1)from hb')) (λe=>?_) λhb'=>?_
  ·rintro rfl;exact hb.2.1 (e▸ha)
  ·exact b3 a ha b (aZ _ hb')
 ·refine Or.elim (eB.mp hb') (λq=>?_) λq=>?_
  ·exact a3 a ha b (List.mem_append_left _ q)
  ·refine Or.elim (am.mp (show b∈d::c.tabs.map (·.1)from q)) (λe=>?_) λq=>?_
   ·(clear hb';rintro rfl);exact hb.1 (e▸ha)
   ·exact a3 a ha b (aZ _ (aZ _ q))
theorem VM.Am(hp:c₂.prog=c.prog)(hw:c₂.w=c.w)(h:VM c F v (.dict [])):VM c₂ F v (.dict []):=by exact h.vC λa o kvs h hm hd hs=>.dict h hm (by rw[hp,hw];exact hd) (hs.ind (motive:=λvs as z_=>as=[]->Gq c₂ F vs as) (λz_=>.nil) (λz_ z_ z_ e=>nomatch e) rfl)
theorem Inv.Tf(C:ep c)(I:Inv c F g s)(hx:F x=some (instObj 470 d))(hd:F d=none)(hm:d∉c.mu)(hes:s.heap.get? d=some (dictOf es n))
  (E6:gI es [("reader",w1),("is_named",w2),("depth",w3),("last",.none)]) (W1:VM c F w1 (.sp 1)) (W2:VM c F w2 .eD) (W3:VM c F w3 (.int 0)):Inv (c.xR x d) F {g with last:=.none} s:=by
 have pl:∀{v:Value} {a:AV},VM c F v a->cS a=true->VM (c.xR x d) F v a:=λh p=>VM.plain (c:=c) (c₂:=c.xR x d) (λk v e=>e) h p;refine⟨I.cE,I.base,λb hb=>(nK hb).elim (I.apart b) λe=>e▸hd,⟨λr dd tl nd e=>?_,λy dd e=>?_,λb e=>?_,I.d7.tab⟩,Hz I.fJ hm⟩
 ·obtain⟨es,n,p,t,h1,h2,h3,h4,h5,h6,h7,h8⟩:=I.d7.rd r dd tl nd e;exact⟨es,n,p,t,h1,h2,h3,h4,h5,h6,pl h7 C.tp,VM.Am (c:=c) (c₂:=c.xR x d) rfl rfl h8⟩
 ·refine fS e λx y=>?_;subst x y;refine⟨es,n,w1,w2,w3,.none,hes,by rw[hO E6];exact aa rfl,E6,?_,?_,?_,.none,hx,rfl⟩
  ·exact W1.zz λh=>.sp h
  ·exact W2.C8 λz_ z_ z_ z_ z_ z_ h hb hc hd hv hcc=>.eD h hb hc hd hv hcc
  ·exact W3.dJ λz_=>.int
 ·obtain⟨o,vc,vg,vs,vp,n,h1,h2,h3,h4,h5,h6,h7⟩:=I.d7.box b e;exact⟨o,vc,vg,vs,vp,n,h1,h2,h3,pl h4 (ib _),pl h5 rfl,pl h6 rfl,pl h7 rfl⟩
theorem Inv.Od(C:ep c)(I:Inv c F g s)(X:XF s F F')(hm:d∉c.mu)(hL:L∉c.mu)(I':Inv (c.xR x d) F' g1 s')(Y:eZ (c.xR x d) L s s'):Inv c F' {g1 with last:=g.last} s':=by
 have pl:∀{v:Value} {a:AV},VM (c.xR x d) F' v a->cS a=true->VM c F' v a:=λh p=>VM.plain (c:=c.xR x d) (c₂:=c) (λk v e=>e) h p;have Zy:∀y dd,c.cd=some (y,dd)->∀o,s.heap.get? dd=some o->s'.heap.get? dd=some o:=λy dd e o ho=>by
  have hmem:dd∈c.mu:=fZ.mpr (.inr (.inr (.inl (by rw[e];simp))));refine Y.keep dd o (λhb=>?_) (λz=>hL (z▸hmem)) ho;have n:=I.fJ;refine dy (aO.mp n) λa1 a2 a3=>dy (aO.mp a2) λb1 b2 b3=>dy (aO.mp b2) λc1 c2 c3=>?_;have inC:dd∈(c.cd.map λx=>x.2).toList:=by rw[e];simp
  rcases mS.mp hb with h|h|h|h
  ·exact a3 dd h dd (aZ _ (List.mem_append_left _ inC)) rfl
  ·exact b3 dd h dd (List.mem_append_left _ inC) rfl
  ·exact hm (h▸hmem)
  ·exact c3 dd inC dd h rfl
 refine⟨I'.cE,I'.base,λb hb=>?_,⟨λr dd tl nd e=>?_,λy dd e=>?_,λb e=>?_,I'.d7.tab⟩,I.fJ⟩
 ·rcases fZ.mp hb with h|h|h|h
  ·exact I'.apart b (mS.mpr (.inl h))
  ·exact I'.apart b (mS.mpr (.inr (.inl h)))
  ·rw[Option.mem_toList,aX]at h;obtain⟨⟨y,dd⟩,e,rfl⟩:=h;obtain⟨_,_,_,_,_,_,h1,_⟩:=I.d7.cd y dd e;exact(X.low dd (by rw[h1];rfl)).trans (I.apart dd hb)
  ·exact I'.apart b (mS.mpr (.inr (.inr (.inr h))))
 ·obtain⟨es,n,p,t,h1,h2,h3,h4,h5,h6,h7,h8⟩:=I'.d7.rd r dd tl nd e;exact⟨es,n,p,t,h1,h2,h3,h4,h5,h6,pl h7 C.tp,VM.Am (c:=c.xR x d) (c₂:=c) rfl rfl h8⟩
 ·obtain⟨es,n,vr,vn,vd,vl,h1,h2,h3,h4,h5,h6,h7,h8,h9⟩:=I.d7.cd y dd e;exact⟨es,n,vr,vn,vd,vl,Zy y dd e _ h1,h2,h3,h4.mono X.ext,h5.mono X.ext,h6.mono X.ext,h7.mono X.ext,X.ext _ _ h8,h9⟩
 ·obtain⟨o,vc,vg,vs,vp,n,h1,h2,h3,h4,h5,h6,h7⟩:=I'.d7.box b e;exact⟨o,vc,vg,vs,vp,n,h1,h2,h3,pl h4 (ib _),pl h5 rfl,pl h6 rfl,pl h7 rfl⟩
end
end
section
noncomputable def RY:List Nat:=[67,111,110,100,105,116,105,111,110,82,101,97,100,101,114]
noncomputable def Ds:vF:=⟨101,[5,6],[.none],[],482⟩
def KF:Expr:=sT (bS 482 0)
def BG:Stmt:=nS (sB (bS 482 0)) 0
def pp:Expr:=xO (xO (sV BG))
def qr:Expr:=xA pp 1
def KG:Expr:=.Call (.Name (bQ RY) (xP (xO pp))) [sj (xA pp 0) 5,qr,.Constant (.int 0) (xN (xA pp 2)) (xP (xA pp 2))] [] (xP pp)
theorem KH:rowAt 482 vG=some (cq 482):=by kernel_rfl
theorem N8:vH Ds (cq 482)=true:=by kernel_rfl
theorem N9:(cq 482).d=.ref 475/\(cq 482).fd.code=.ref 481/\(cq 482).fd.qualname++".<locals>."=I0:=⟨by kernel_rfl,by kernel_rfl,by kernel_rfl⟩
theorem G6:(cq 482).fd.body=.stmts (.If KF [.Return (some (.Call (.Attribute KG (bJ 132) (xP (xO (sV BG)))) [] [] (xP (sV BG)))) (sP BG)] [] (sP (bS 482 0))::(sts (cq 482).fd.body).drop 1):=by kernel_rfl
theorem Ta:dH (lS 0) (.cmp .Is (.ah 6) .ck) (cq 482).fd.scope.names KF=true/\gi (jy (bQ RY) (cq 482).fd.scope.names)=true/\isCell (jy (bJ 5) (cq 482).fd.scope.names)=true/\RQ qr=true/\((xP (xO (sV BG))).endLine==(xP (sV BG)).line)=true:=⟨by kernel_rfl,by kernel_rfl,by kernel_rfl,by kernel_rfl,by kernel_rfl⟩
theorem YZ(P):∃o n,(bN P).lookup 475=some o/\o.data=.seq [Value.none].toArray n:=⟨((bN P).lookup 475).getD default,0,by kernel_rfl,by kernel_rfl⟩
theorem Y0(P):gE RY (im (pH P fO 134))=some (.ref 470):=by kernel_rfl
theorem Tb(P):keepIn (bN P) (.ref 470)=true:=by kernel_rfl
theorem Tc:(bQ RY==("__debug__":Str))=false:=by kernel_rfl
theorem Oa:T0.iJ 132=some 150:=by kernel_rfl
theorem KI:d9 101=some (.ref 482):=by kernel_rfl
theorem KJ(h:OO (n+1) 101 fb g=some (r,g')):fb=[.sp 1]/\∃g1,OO n 150 [.sp 3] {g with last:=.none}=some (r,g1)/\cS r=true/\g'={g1 with last:=g.last}:=by have h:=h;refine aH (a8 h) λp e1 h=>aG (dX h) λe2 h=>aH (a8 h) λq e3 h=>aG (dX h) λe4 h=>?_;refine fS h λx y=>?_;subst x y;exact⟨by rw[lO e1,pI e2],q.2,e3,e4,rfl⟩
theorem G7(H:kX n):jF n 101:=by
 intro c C fb g r g' f ba F s A E h hA hf I tk big hv;obtain⟨rfl,g1,Td,pr,rfl⟩:=KJ h;rw[C.eX,KI]at hf;refine bD hf λx=>?_;subst x;refine bU (YZ c.w.params) λoT nT eT dT=>hv.one λw1 e V1=>?_;subst e;have FI:=lT (c:=c) (fr:=Ds) (r:=cq 482) C.base KH N8 (dv:=[.none]) (.inr ⟨475,oT,nT,N9.1,ir _ _ _ eT,dT⟩) (by show 1<=2;decide) (λF=>.cons .none .nil);have C':ep (gx c 482):=C.at _ _;refine dy N9 λWZ hcode Ob=>?_;obtain⟨c1,c2,c3,c4,c5⟩:=Ta;refine ms (S:=nH (gx c 482) n) (fr:=Ds) (l:=[(5,.sp 1),(6,.none)]) FI G6 rfl (pJ hA) I.at tk big (.cons V1.at .nil) λenv s₁ F₁ hk X I₁ f₁ hL hkp hg ho z_=>?_;have ok:=H _ C';have rg:=vW C' n;have hA':cP n (A.deeper env):=gu hA;have k5:env.kindOf (bJ 5)=some .cell:=by rw[hk,eF];exact nI c3
 have RT:RE (nH (gx c 482) n) (λx=>(cq 482).fd.scope.names.lookup x) (.cmp .Is (.ah 6) .ck) KF:=bE (BH (a:=0) (λh=>by cases h)) _ _ _ c1;refine wpAny_execs_cons (wpAny_If (goB ((oH ok rg (λh=>yn h) 60 RT hk hA' (a:=.bool true) (g':=g) (σ:=⟨[(5,.sp 1),(6,.none)],none⟩) rfl I₁ f₁).2 true rfl) f₁ λs' F' X' I' Y' f'=>?_));refine wpAny_execs_cons (wpAny_Return_some ?_);refine aM (Q:=aE (gx c 482) F' s' env.locals {g1 with last:=g.last} r) ?_ (λv s'' p=>sW X hL hkp hg ho (p.after X' Y')) λz_ z_ z=>z;refine gQ rfl c5 (by decide) rfl ?_;have Dt:=mv (I'.cE _ _ (nJ C'.tokY I'.base (k3 _))) (BI c.w.params);refine an (Calls.Name_function_global f'.kind (by rw[hk,eF];exact sX c2) (loadGlobal_global (by rw[f'.glob];exact Dt) ((dP _ _).trans (Y0 _)) ?_) Tc);have Te:∃a b d q,qr=.Lambda a b d q:=by refine Oc (x8 c4) λz_ z_ z_ z_ z_ z_ e z_=>⟨_,_,_,_,e⟩
 rw[show starEach [sj (xA pp 0) 5,qr,.Constant (.int 0) (xN (xA pp 2)) (xP (xA pp 2))] env=[sj (xA pp 0) 5,qr,.Constant (.int 0) (xN (xA pp 2)) (xP (xA pp 2))].map (λe=>(false,eval e env))from by refine C9 Te λz_ z_ z_ z_ e=>?_;rw[e];rfl,cX];refine ft (F:=F') (λhh KM=>keeps_K (Tb c.w.params) hh λa o e=>KM _ _ (I'.base _ _ (by show c.base.get? a=_;rw[C.base];exact ir _ _ _ e))) ?_;refine bG (gW (g:=g) (a:=.sp 1) (wpAny_Name (i5 I' f' rfl (.inr (.inl k5)) (bH 5).2.1 λz_ hv=>aE.here hv I') (bH 5).1) f' λv1 s1 F1 X1 V1 I1 Y1 f1=>?_);refine bG (gW (Bw C' c4 hcode Ob I1 f1 k5 rfl) f1 λv2 s2 F2 X2 V2 I2 Y2 f2=>?_);refine bG (gW (a:=.int 0) (g:=g) (show wpAny _ _ (mkInt 0) (aE _ F2 s2 env.locals g (.int 0)) _ s2 from wpAny_mkInt (aE.now .int I2 _)) f2 λv3 s3 F3 X3 V3 I3 Y3 f3=>?_);refine cf ⟨λb o e=>I3.cE _ _ (X3.ext _ _ (X2.ext _ _ (X1.ext _ _ e))),?_⟩;refine bA (n:=s3.toks) (aD _) (G8 C' (by have:=hA'.2.1;exact Jl this) I3 f3.tk f3.big ((V1.mono X2.ext).mono X3.ext) (V2.mono X3.ext) V3 λF4 s4 es nn u1 u2 u3 X4 I4 S4 Fx Fd hes E6 U1 U2 U3 htk=>?_);have dm:=fg I3 (aD _);have SL:=S4 env.locals f3.cR f3.alive;have f4:=f3.step bJ X4 SL htk;refine aH (ud I4 f4) λm' hn xL=>?_;have II:InstAt s4.heap (s3.heap.objs.size+1) (instObj 470 s3.heap.objs.size) 470 (some (dictOf es nn)):=⟨I4.cE _ _ Fx,rfl,rfl,hes⟩;obtain⟨fa,q1,q2,q3,q4,q5,q6,q7,q8,q9⟩:=ok.iJ Oa;have q6:bJ 132≠"reader":=q6;have q7:bJ 132≠"is_named":=q7;have q8:bJ 132≠"depth":=q8;have q9:bJ 132≠"last":=q9;have Kl:getL (bJ 132) es=some none:=by
  rw[gR _ E6];have b1:((Str.ofString "reader")==bJ 132)=false:=by simpa using Ne.symm q6
  have b2:((Str.ofString "is_named")==bJ 132)=false:=by simpa using Ne.symm q7
  have b3:((Str.ofString "depth")==bJ 132)=false:=by simpa using Ne.symm q8
  have b4:((Str.ofString "last")==bJ 132)=false:=by simpa using Ne.symm q9
  simp only[List.find?_cons,List.find?_nil,b1,b2,b3,b4,Option.map_none]
 refine method_inst xL ok.K.xM II q2 q3 q4 Kl<|ft (env:=env) (es:=[]) (F:=F4) (ok.sx.kp (.fn q1) I4.base) (cf ⟨λb o e=>I4.cE _ _ e,?_⟩)
 have I5:=I4.Tf C' Fx Fd dm hes E6 U1 U2 U3;refine aM ((H _ (C'.xR (s3.heap.objs.size+1) s3.heap.objs.size)).sx.fn (i:=150) rfl Td hA' q1 I5 f4.tk f4.big (.cons (.sp rfl) .nil)) (λv s6 P=>?_) λz_ z_ z=>z;obtain⟨F6,X6,V6,I6,S6⟩:=P;have Tg:=aJ (bw f3.alive);have Y6:=S6 env.locals (λhm=>(nK hm).elim f3.cR Tg) f4.alive;have P3:aE (gx c 482) F3 s3 env.locals {g1 with last:=g.last} r v s6:=by refine⟨F6,X4.trans SL.alive X6,VM.plain (c:=(gx c 482).xR (s3.heap.objs.size+1) s3.heap.objs.size) (c₂:=(gx c 482)) (λk v e=>e) V6 pr,I4.Od C' X6 dm f3.cR I6 Y6,λb o b1 b2 e=>?_,λm x=>Y6.ns m (SL.ns m x),λb hb=>Y6.alive b (SL.alive b hb),Y6.gens.trans SL.gens,Y6.os.trans SL.os⟩;exact Y6.keep b o (λhm=>(nK hm).elim b1 λz=>bc (aN e) (by rw[z];exact eN _)) b2 (SL.keep b o b1 b2 e)
 exact((P3.after X3 Y3).after X2 Y2).after X1 Y1
end
section
theorem tV:∀(l:List AV) (a i:Nat) {x:AV},(jH a l)[i]?=some x->∃y,l[i]?=some y/\x=.aT [.int ((a+i:Nat):Int),y]|[],a,i,x,h=>by simp[jH]at h|y::l,a,0,x,h=>by simp only[jH,List.getElem?_cons_zero,Option.some.injEq]at h;exact⟨y,rfl,h.symm⟩|y::l,a,i+1,x,h=>by refine aH (tV l (a+1) i h) λz h1 h2=>?_;exact⟨z,h1,by rw[h2];congr 3;congr 1;exact Re⟩
theorem kA:∀(l:List AV) (a:Nat),(jH a l).length=l.length|[],_=>rfl|_::l,a=>by rw[jH,ac,ac,kA l]
section
variable{c:Ctx}{F:cF}{g:G}{s:Shared}{L:Addr}
theorem Rp(hF:F l=some o)(hc:o.cls=.type "list")(hd:o.data=.seq vs nn)(hv:dh c F vs.toList ks)(I:Inv c F g s)(hL:(s.heap.get? L).isSome=true)
  (he:IsEnum h' (s.heap.objs.size+1) s.heap.objs.size 0 .none) (hi:h'.IsListIter s.heap.objs.size l 0) (hk:∀b o,s.heap.get? b=some o->h'.get? b=some o) {A₀:Around} (h₀:A₀.handled=none) (elts) (k) (pos):
  vL c (.Tuple elts k pos) F L s {s with heap:=h'} (jH 0 ks) (s.heap.objs.size+1) [s.heap.objs.size+1,s.heap.objs.size] [s.heap.objs.size+1,s.heap.objs.size,l]
   (λi h=>(∃old,IsEnum h (s.heap.objs.size+1) s.heap.objs.size i old)/\h.IsListIter s.heap.objs.size l i/\h.IsList l vs):=by
 have ll:=aN (I.cE _ _ hF);have lv:=hv.length;have W:=λA hA=>WalksT.enumerate (prog:=c.prog) (w:=c.w) (A:=A) hA (s.heap.objs.size+1) s.heap.objs.size l (Nat.succ_ne_self _) (aJ (Nat.lt_succ_of_lt ll)) (aJ ll) vs;have Rz:∀b∈[s.heap.objs.size+1,s.heap.objs.size],s.heap.objs.size<=b:=λb hb=>by
  refine Or.elim (am.mp hb) (λoz=>?_) λhb=>?_;(subst oz)
  ·exact Nat.le_succ _
  ·rw[aR]at hb;subst hb;exact aD _
 exact
  {turn:=λ{A' E X i a s' F' g' Q} hA ha st x nF Iv h=>by
    refine aH (tV _ _ _ ha) λy hy kO=>?_;subst kO;rw[Nat.zero_add]at h;have lt:i<vs.size:=by cases Nat.lt_or_ge i vs.size with|inl q=>exact q|inr q=>rw[List.getElem?_eq_none (by rw[←lv];exact q)]at hy;exact aI hy
    refine bA (n:=s'.toks) (aD _) ((W A' hA).item i s' _ _ lt st λT ba h1 tk1 hP hT Ww mid RA htk=>?_);revert hP;refine λoz=>bU oz λt xv hx sy=>?_;clear oz;subst sy;refine(W A' hA).go elts k pos i T _ _ E mid λh2 st2 vO=>?_;have Yw:=(W A' hA).apart _ _ _ mid;obtain⟨oT,t1,t2,n2,t3⟩:=Ww;have tT:=vO _ _ Yw t1;have Yx:F' T=none:=by cases z:F' T with|none=>rfl|some o=>exact bc (aN (Iv.cE _ _ z)) (bO.mpr hT)
    have kp:=λb o hb e=>vO b o hb (RA b o hb e);have ex:Ext F' (fq F' T oT):=λb o e=>by rw[bf (λz=>by rw[z,Yx]at e;exact aI e)];exact e
    have mun:=λb hb q=>fg I (Rz b q) hb;have hxv:VM c F xv y:=by refine aH (hv.get hy) λw w1 w2=>?_;rw[Array.getElem?_toList,hx]at w1;(refine bD w1 λx=>?_;subst x);exact w2
    refine h (.ref T) h2 tk1 (fq F' T oT) ?_ ⟨ex,λb hb=>bf (aJ (aB (bw hb) hT))⟩ ⟨λb o e=>?_,λb o e=>ex _ _ (Iv.base _ _ e),λb hb=>?_,Iv.d7.mono ex λb hb o e=>kp b o (mun b hb) e,Iv.fJ⟩ st2 kp htk
    ·exact .aT (b9 _ _ _) t2 t3 (by show 2<=_;exact mC rfl) (.cons .int (.cons ((hxv.mono x).mono ex) .nil))
    ·by_cases z:b=T
     ·(clear mid Yw t1 Yx ex;subst z);rw[b9]at e;(refine bD e λx=>?_;subst x);exact tT
     ·rw[bf z]at e;exact kp b o (λq=>by rw[nF b q]at e;exact aI e) (Iv.cE _ _ e)
    ·refine b0 (Iv.d7.alive hb) λo e=>?_;rw[bf (aJ (aB (aN e) hT))];exact Iv.apart b hb
   frame:=λi h h' st k=>(W A₀ h₀).frame i h h' st k
   done:=λhA st h=>(W _ hA).done _ _ _ (by rw[kA,←lv]at st;exact st) h
   De:=λhA st h=>(W _ hA).self _ _ _ _ st h
   st:=⟨⟨_,he⟩,hi,by refine aH (I.isList hF hc hd) λo h1 h2=>?_;exact⟨o,hk _ _ h1,h2⟩⟩
   GV:=λi h st b hb=>by
    obtain⟨⟨old,e1⟩,⟨o2,e2,_⟩,_⟩:=st;refine Or.elim (am.mp hb) (λoz=>?_) λhb=>?_;(subst oz)
    ·rw[e1];rfl
    ·rw[aR]at hb;subst hb;rw[e2];rfl
   fresh:=λb hb=>by cases z:(s.heap.get? b).isSome with|false=>rfl|true=>exact bc (bw z) (bO.mpr (Rz b hb))
   ul:=λb hb=>mV I (Rz b hb)
   mq:=λb hb=>fg I (Rz b hb)
   CN:=λb hb=>λz=>bc (bw hL) (bO.mpr (z▸Rz b hb))
   fps:=λb hb=>by
    refine Or.elim (am.mp hb) (λoz=>?_) λhb=>?_;(subst oz)
    ·exact .inl (.head _)
    ·refine Or.elim (am.mp hb) (λoz=>?_) λhb=>?_;(subst oz)
     ·exact .inl (.tail _ (.head _))
     ·rw[aR]at hb;(clear hi ll W;subst hb);exact .inr ⟨o,hF⟩}
end
end
section
section
variable{c:Ctx}{env:Env}{F:cF}{σ:Sg}{s:Shared}{g:G}
theorem cellSet(I:Inv c F g s)(f:ax bJ c env F σ s)(hown:σ.own=none)(hv:VM c F v a)(hk:env.kindOf (bJ x)=some .cell)(hl:env.cells.lookup (bJ x)=some cl)(hF:F cl=none)(hm:cl∉c.mu)(hne:cl≠env.locals)(hal:(s.heap.get? cl).isSome=true)
  (hc:h'.IsCell cl (some v)) (hs:Heap.SameBut cl s.heap h'):∃F',Ext F F'/\F'=(λb=>if b=cl then h'.get? cl else F b)/\Inv c F' g {s with heap:=h'}/\ax bJ c env F' ⟨db x a σ.ah,none⟩ {s with heap:=h'}/\(∀b o,b≠cl->s.heap.get? b=some o->h'.get? b=some o)/\∀b,(s.heap.get? b).isSome=true->(h'.get? b).isSome=true:=by
 refine aH hc λoc c1 c2=>?_;have kp:=λb o h e=>hs.extBut b o h e;have ex:Ext F (λb=>if b=cl then h'.get? cl else F b):=λb o e=>by show(if b=cl then _ else _)=_;rw[bi (λz=>by rw[z,hF]at e;exact aI e)];exact e
 have nF:∀b o,F b=some o->b≠cl:=λb o e z=>by rw[z,hF]at e;exact aI e
 refine⟨_,ex,rfl,⟨λb o e=>?_,λb o e=>ex _ _ (I.base _ _ e),λb hb=>?_,I.d7.mono ex λb hb o e=>kp b o (λz=>hm (z▸hb)) e,I.fJ⟩,?_,kp,λb hb=>?_⟩
 ·have e:=e;by_cases z:b=cl
  ·rw[br z]at e;rw[z];exact e
  ·rw[bi z]at e;exact kp b o z (I.cE _ _ e)
 ·skip;rw[bi (λ(z:b=cl)=>hm (by rw[←z];exact hb))];exact I.apart b hb
 ·obtain⟨m,hn,hlo,_⟩:=f.ns;refine⟨f.kind,f.glob,f.blt,f.hcode,f.cR,?_,f.above,f.tk,f.yc,m,hn.at' λo e=>kp _ o (Ne.symm hne) e,λy b hy hky=>?_,λy l e=>by exact aI e⟩
  ·skip;rw[bi (Ne.symm hne)];exact f.fN
  ·rw[cv]at hy;by_cases z:y=x
   ·rw[br z]at hy;refine bD hy λx=>?_;subst x;subst z;exact⟨v,hv.mono ex,.inr ⟨.inl hk,cl,oc,hl,by show(if cl=cl then _ else _)=_;rw[br rfl];exact c1,c2⟩⟩
   ·rw[bi z]at hy;exact(hlo y b hy hky).mono bJ ex
 ·by_cases z:b=cl
  ·(clear hl hF hm hne hal hs ex nF;subst z);rw[c1];rfl
  ·refine b0 (bu hb) λo e=>?_;rw[kp b o z e];rfl
end
noncomputable def vY:List Nat:=[101,110,117,109,101,114,97,116,101]
noncomputable def uv:PE:=.ai 85 [.ah 100,.bin .Pow (.aq 2) (.ai 2 [.ah 89])]
noncomputable def iC:PE:=.aT [.ah 68,.ai 91 [.ah 100]]
noncomputable def iD:PE:=.cmp .Eq (.bin .Mod (.bin .FloorDiv (.ah 133) (.bin .Pow (.aq 2) (.ah 134))) (.aq 2)) (.aq 1)
def qx:vF:=⟨102,[100,89],[],eG,994⟩
theorem KR:yq.get 102=some qx:=by kernel_rfl
def iu:Expr:=sV (bS 994 0)
def yr:Expr:=sV (bS 994 1)
def iN:Expr:=xA yr 0
def nM:Comprehension:=Y9 iN
def Dz:Expr:=.Tuple (W6 nM.target) (xN nM.target) (xP nM.target)
def Om:Expr:=.Call (.Name (bQ vY) (xP (xO nM.iter))) [sj (xA nM.iter 0) 89] [] (xP nM.iter)
def DA:Expr:=.ListComp (W7 iN) [⟨Dz,Om,nM.ifs,0⟩] (Hd iN) (xP iN)
theorem KS:rowAt 994 vG=some (cq 994):=by kernel_rfl
theorem Oo:vH qx (cq 994)=true:=by kernel_rfl
theorem Tl:(cq 994).d=.none:=by kernel_rfl
theorem He:(cq 994).fd.body=.stmts [.Assign [sj (sT (bS 994 0)) 133] (.Call (xO iu) (Tm iu) (xK iu) (xP iu)) (sP (bS 994 0)),.Return (some (.Call (.Name (vX 8) (xP (xO yr))) [DA] [] (xP yr))) (sP (bS 994 1))]:=by kernel_rfl
theorem Tn:isCell (jy (bJ 133) (cq 994).fd.scope.names)=true/\dH (lS 0) uv (cq 994).fd.scope.names (.Call (xO iu) (Tm iu) (xK iu) (xP iu))=true/\gi (jy (vX 8) (cq 994).fd.scope.names)=true/\gi (jy (bQ vY) (cq 994).fd.scope.names)=true/\kl (jy (bJ 89) (cq 994).fd.scope.names)=true:=
 ⟨by kernel_rfl,by kernel_rfl,by kernel_rfl,by kernel_rfl,by kernel_rfl⟩
theorem To:ja (Hd iN).kind=true/\BP [134,68] true Dz=true/\KU (cq 994).fd.scope.names [134,68] (Hd iN).names (Hd iN).names=true/\([134,68].all λx=>yt (jy (bJ x) (Hd iN).names))=true/\dH (lS 0) iC (pv (cq 994).fd.scope.names (Hd iN).names) (W7 iN)=true/\dW (lS 0) [iD] (pv (cq 994).fd.scope.names (Hd iN).names) nM.ifs=true:=
 ⟨by kernel_rfl,by kernel_rfl,by kernel_rfl,by kernel_rfl,by kernel_rfl,by kernel_rfl⟩
theorem W8(P):gE vY (im (pH P fO 134))=none/\gE vY (im (boot_o_0 P))=some (.type "enumerate"):=⟨by kernel_rfl,by kernel_rfl⟩
theorem Tp:(bQ vY==("__debug__":Str))=false:=by kernel_rfl
theorem Za:T0.g6 8=some (.fn 904):=by kernel_rfl
theorem Tq(h:jA O (.fn 904) [.list xs] g=some (r,g')):r=.aT xs/\g'=g:=by have h:=h;(refine fS h λx y=>?_;subst x y);exact⟨rfl,rfl⟩
theorem Hf(h:bm (ex 5000 (ev T0 (OO n) 60) 30) eG ⟨[(100,a),(89,b)],none⟩ g=some out):∃ks mk g1 xs g2,b=.list ks/\ev T0 (OO n) 60 uv ⟨[(100,a),(89,.list ks)],none⟩ g=some (mk,g1)/\ks.length<=100000/\
  fw (ev T0 (OO n) 58) iC [134,68] true [iD] ⟨[(100,a),(89,.list ks),(133,mk)],none⟩ (jH 0 ks) [(100,a),(89,.list ks),(133,mk)] g1=some (xs,g2)/\out=.ret (.aT xs) g2:=by
 have h:(match ex 5000 (ev T0 (OO n) 60) 30 (.ca 133 uv) ⟨[(100,a),(89,b)],none⟩ g with|some (.next σ1 g1)=>bm (ex 5000 (ev T0 (OO n) 60) 30) [.ret (.ai 8 [.comp iC [134,68] true 3 [.ah 89] [iD]])] σ1 g1|some (.ret v g1)=>some (.ret v g1)|none=>none)=some out:=h;revert h;refine R0 (λσ1 g1 e h=>?_) λv g1 e h=>?_
 ·have e:=e;revert e;refine iG λmk g2 em e=>?_;have e:=e;cases (e);have h:(match ex 5000 (ev T0 (OO n) 60) 30 (.ret (.ai 8 [.comp iC [134,68] true 3 [.ah 89] [iD]])) ⟨[(100,a),(89,b),(133,mk)],none⟩ g1 with
   |some (.next σ1 g1)=>some (.next σ1 g1)|some (.ret v g1)=>some (.ret v g1)|none=>none)=some out:=h
  have x:∀{o},ex 5000 (ev T0 (OO n) 60) 30 (.ret (.ai 8 [.comp iC [134,68] true 3 [.ah 89] [iD]])) ⟨[(100,a),(89,b),(133,mk)],none⟩ g1=some o->∃ks xs g2,b=.list ks/\ks.length<=100000/\
    fw (ev T0 (OO n) 58) iC [134,68] true [iD] ⟨[(100,a),(89,.list ks),(133,mk)],none⟩ (jH 0 ks) [(100,a),(89,.list ks),(133,mk)] g1=some (xs,g2)/\o=.ret (.aT xs) g2:=λ{o} e2=>by
   have e2:=e2;revert e2;refine iG λv g3 ev1 e2=>?_;have ev1:(match ci (ev T0 (OO n) 59) [.comp iC [134,68] true 3 [.ah 89] [iD]] ⟨[(100,a),(89,b),(133,mk)],none⟩ g1 with|some (vs,g1)=>jA (OO n) (.fn 904) vs g1|none=>none)=some (v,g3):=ev1;revert ev1;refine xJ λvs g4 ev2 ev1=>?_;have ev2:=ev2;revert ev2;refine iG λv1 g5 Zb e6=>?_;have e6:=e6;(clear ev2;cases (e6));have e9:(match eS 3 [b]with|some items=>(match Nat.ble items.length 100000 with|true=>(match fw (ev T0 (OO n) 58) iC [134,68] true [iD] ⟨[(100,a),(89,b),(133,mk)],none⟩ items [(100,a),(89,b),(133,mk)] g1 with|some (xs,g2)=>some (AV.list xs,g2)|none=>none)|false=>none)|none=>none)=some (v1,g4):=Zb;revert e9;refine RO λitems e8 e9=>?_;revert e9;refine sN λq e9=>?_;revert e9;refine xJ λxs g8 Zc e9=>?_;have e8:=e8;refine aH (a8 e8) λks Ts e8=>?_;cases (e8);have Ts:=hU Ts;subst Ts;cases (e9);refine aG (Tq ev1) λjx dN=>?_;subst jx dN;cases (e2);rw[kA]at q;exact⟨ks,xs,_,rfl,aa q,Zc,rfl⟩
  revert h;refine R0 (λσ2 g2 e2 h9=>?_) λv g2 e2 h9=>?_
  ·refine BQ (x e2) λks xs g3 z1 z2 z3 z4=>?_;exact Out.noConfusion z4
  ·refine BQ (x e2) λks xs g3 z1 z2 z3 z4=>?_;(clear h x e2;subst z1);exact⟨ks,mk,g1,xs,g3,rfl,em,z2,z3,(dj h9).symm.trans z4⟩
 ·have e:=e;revert e;refine iG λmk g2 em e=>?_;have e:=e;exact Out.noConfusion (dj e)
theorem KV{n}{fb}{g g'}{r}(h:OO (n+1) 102 fb g=some (r,g')):∃a ks mk g1 xs,fb=[a,.list ks]/\ev T0 (OO n) 60 uv ⟨[(100,a),(89,.list ks)],none⟩ g=some (mk,g1)/\ks.length<=100000/\
  fw (ev T0 (OO n) 58) iC [134,68] true [iD] ⟨[(100,a),(89,.list ks),(133,mk)],none⟩ (jH 0 ks) [(100,a),(89,.list ks),(133,mk)] g1=some (xs,g')/\r=.aT xs:=by
 have h:(match yq.get 102 with|some fr=>uw T0 fr (OO n) fb g|none=>spec (OO n) 102 fb g)=some (r,g'):=h;have h:(match oM qx.params qx.dflt fb with|some l=>(match bm (ex 5000 (ev T0 (OO n) 60) 30) qx.body ⟨l,none⟩ g with|some (.ret v g')=>some (v,g')|some (.next _ g')=>some (AV.none,g')|none=>none)|none=>none)=some (r,g'):=h;revert h;refine RU λl hl h=>vZ (v5 hl) λl1 l2 l3 l4=>?_
 match fb,l1,l3,l4 with|[a,b],_,_,l4=>have l4:=l4;(clear hl);have h:(match bm (ex 5000 (ev T0 (OO n) 60) 30) eG ⟨[(100,a),(89,b)],none⟩ g with|some (.ret v g')=>some (v,g')|some (.next _ g')=>some (AV.none,g')|none=>none)=some (r,g'):=h;cases e:bm (ex 5000 (ev T0 (OO n) 60) 30) eG ⟨[(100,a),(89,b)],none⟩ g with|none=>rw[e]at h;exact aI h|some out=>obtain⟨ks,mk,g1,xs,g3,z0,z1,z2,z3,z4⟩:=Hf e;rw[e,z4]at h;have h:=h;(clear z4;cases (h));exact⟨a,ks,mk,g1,xs,by rw[z0],z1,z2,z3,rfl⟩
end
section
theorem Hx(H:kX n):jF n 102:=by
 intro c C fb g r g' f ba F s A E h hA hf I tk big hv;obtain⟨a,ks,mk,g1,xs,rfl,hev,cM,hcomp,rfl⟩:=KV h;rw[C.eX,zq KR]at hf;refine bD hf λx=>?_;subst x;obtain⟨c1,c2,c3,c4,c5⟩:=Tn;refine Hg To λc6 c7 c8 c9 c10 c11=>hv.two λw1 w2 e V1 V2=>?_;subst e;have FI:=lT (c:=c) (fr:=qx) (r:=cq 994) C.base KS Oo (dv:=[]) (.inl ⟨Tl,rfl⟩) (bo _) (λF=>.nil);have C':ep (gx c 994):=C.at _ _;refine ms (S:=nH (gx c 994) n) (fr:=qx) (l:=[(100,a),(89,.list ks)]) FI He rfl (pJ hA) I.at tk big (.cons V1.at (.cons V2.at .nil)) λenv s₁ F₁ hk X I₁ f₁ hL hkp hg ho hcells=>?_;have ok:=H _ C';have rg:=vW C' n;have hA':cP n (A.deeper env):=gu hA;have sn:uA (nH (gx c 994) n) (lS 0):=BH (a:=0) (λh=>by cases h);have B5:∀m,ej (nH (gx c 994) n) m:=λm=>oH ok rg (λh=>yn h) m;have Mw:env.kindOf (bJ 133)=some .cell:=by rw[hk,eF];exact nI c1
 have I₁:=I₁;have f₁:=f₁;refine b0 (f₁.yc (bJ 133) (.inl Mw)) λcl hcl=>dy (hcells (bJ 133) cl hcl (λhm=>by
  obtain⟨p,hp,e⟩:=cI.mp hm;have:=fi _ _ e;subst this;exact bc hp (by decide))) λq1 q2 q3=>?_
 have Yi:=λhm=>fg I (cb (bY hL q3)) hm;have Yj:=Nat.ne_of_gt q3;have R1:=bE sn _ _ _ c2;have cal:(s₁.heap.get? cl).isSome=true:=by refine aH q2 λo e z_=>?_;rw[e];rfl
 refine wpAny_execs_cons (gT rfl rfl rfl (gW (B5 60 R1 hk hA' hev I₁ f₁).1 f₁ λv s2 F2 X2 Sm I2 Y2 f2=>?_));have Wo:s2.heap.IsCell cl none:=by refine aH q2 λo e e2=>?_;exact⟨o,Y2.keep cl o Yi Yj e,e2⟩
 refine wpAny_assign_Name (wpAny_storeName_cell f2.kind Mw hcl Wo λh3 hc3 hs3=>?_);refine Wh (cellSet I2 f2 rfl Sm Mw hcl ((X2.low cl cal).trans q1) Yi Yj (Y2.alive cl cal) hc3 hs3) λF3 ex3 eF3 I3 f3 kp3 Yk=>?_;have f3:ax bJ (gx c 994) env F3 ⟨[(100,a),(89,.list ks),(133,mk)],none⟩ {s2 with heap:=h3}:=f3;refine wpAny_execs_cons (wpAny_Return_some ?_);refine aM (Q:=aE (gx c 994) F3 {s2 with heap:=h3} env.locals g' (.aT xs)) ?_ (λv s'' p=>?_) λz_ z_ z=>z
 ·skip;refine an (ku ok hk (show(λx=>(cq 994).fd.scope.names.lookup x) (vX 8)=_ from(eF (vX 8) (cq 994).fd.scope.names).trans (sX c3)) (nN 8) Za I3 f3 λfv sw=>?_);rw[show starEach [DA] env=[DA].map (λe=>(false,eval e env))from rfl,cX];refine ft (F:=F3) (ok.sx.kp sw I3.base) ?_;refine bG (gW (g:=g') (a:=.list xs) ?_ f3 λv4 s4 F4 X4 V4 I4 Y4 f4=>cf ⟨λb o e=>I4.cE _ _ (X4.ext _ _ e),?_⟩)
  ·have ee:dK (pv (cq 994).fd.scope.names (Hd iN).names)=sk (dK (cq 994).fd.scope.names) (Hd iN):=by rw[uJ];rfl
   have Rel:=bE sn iC _ _ c10;have Yl:=dq sn [iD] _ _ c11;rw[ee]at Rel Yl
   refine vR ok rg (B5 58) (kk:=dK (cq 994).fd.scope.names) hk hA' (bI:=[134,68]) (dB:=true) (λx=>rfl) Yl Rel (Ek sn c6 (by decide) c7 c8 c9)
    (λ{Q} hQ=>?_) (by rw[kA];exact cM) hcomp I3 f3
   ·skip;have Dt:=mv (I3.cE _ _ (nJ C'.tokY I3.base (k3 _))) (BI c.w.params);have ns0:=mv (I3.cE _ _ (nJ C'.tokY I3.base (k0 _))) (Ro c.w.params);refine an (Calls.Name_function_global f3.kind (by rw[hk,eF];exact sX c4) (loadGlobal_builtin (by rw[f3.glob];exact Dt) ((dP _ _).trans (W8 _).1) (by rw[f3.blt];exact ns0) ((dP _ _).trans (W8 _).2) ?_) Tp);rw[show starEach [sj (xA nM.iter 0) 89] env=[sj (xA nM.iter 0) 89].map (λe=>(false,eval e env))from rfl,cX];refine ft (F:=F3) (zB _ _ _) ?_;refine bG (wpAny_Name (i5 I3 f3 (a:=.list ks) rfl (by rw[hk,eF];exact Ei c5) (bH 89).2.1 λvk hvk=>cf ⟨λb o e=>I3.cE _ _ e,?_⟩) (bH 89).1);refine hvk.listE λl o vs nn hF hc hd hn hs=>call_enumerate_list (I3.isList hF hc hd) λh' hE hI hsz hkk=>wpAny_pyIter_enum hE<|hQ _ {s2 with heap:=h3} {s2 with heap:=h'} F3 ⟨_,_,_,_,rfl,.head _,Rp hF hc hd hs I3 f3.alive hE hI hkk hA'.1 (W6 nM.target) (xN nM.target) (xP nM.target)⟩ XF.refl (I3.Ag hkk) eZ.refl (eZ.grow hkk _) (f3.step bJ XF.refl (eZ.grow (c:=(gx c 994)) hkk s2.toks) (aD _))
  ·exact io X4 Y4 (vA ok hA' (sw.mono X4.ext) (.cons V4 .nil) rfl I4 f4)
 ·obtain⟨F5,X5,V5,I5,Y5⟩:=p;have Rq:∀b,(s.heap.get? b).isSome=true->b≠cl:=λb hb z=>bc (bw hb) (bO.mpr (z▸cb (bY hL q3)));have rl:∀b,(s.heap.get? b).isSome=true->b≠env.locals:=λb hb z=>bc (bw hb) (bO.mpr (z▸hL));have Wp:∀b,(s.heap.get? b).isSome=true->(s₁.heap.get? b).isSome=true:=λb hb=>by refine b0 (bu hb) λo e=>?_;rw[hkp _ _ e];rfl
  have kp:∀b o,b∉c.mu->s.heap.get? b=some o->s''.heap.get? b=some o:=λb o hb e=>by
   have hbs:(s.heap.get? b).isSome=true:=by rw[e];rfl
   exact Y5.keep b o hb (rl b hbs) (kp3 b o (Rq b hbs) (Y2.keep b o hb (rl b hbs) (hkp b o e)))
  refine⟨F5,⟨((X.ext.trans X2.ext).trans ex3).trans X5.ext,λb hb=>?_⟩,V5.back,I5.back,λL' h1 h2=>⟨λb o b1 z_ e=>kp b o b1 e,λm x=>x.at' λo e=>kp L' o h1 e,λb hb=>Y5.alive b (Yk b (Y2.alive b (Wp b hb))),Y5.gens.trans (Y2.gens.trans hg),Y5.os.trans (Y2.os.trans ho)⟩⟩;rw[X5.low b (Yk b (Y2.alive b (Wp b hb))),eF3];show(if b=cl then _ else F2 b)=_;rw[bi (Rq b hb),X2.low b (Wp b hb),X.low b hb]
end
section
noncomputable def HS:vF:=⟨1002,[9,3,2],[.int 0],[],657⟩
theorem LW:rowAt 657 vG=some (cq 657):=by kernel_rfl
theorem P4:vH HS (cq 657)=true:=by kernel_rfl
theorem Us:(cq 657).d=.ref 650:=by kernel_rfl
theorem HT:(cq 657).fd.body=.stmts [pi (bS 657 0) 3 (sj (sV (bS 657 0)) 3),pi (bS 657 1) 2 (sj (sV (bS 657 1)) 2),pi (bS 657 2) 4 (.Dict [] [] (xP (sV (bS 657 2))))]:=by kernel_rfl
theorem ZN(P):∃o t n,(bN P).lookup 650=some o/\o.data=.seq [Value.int 0 t].toArray n:=⟨((bN P).lookup 650).getD default,1148,0,by kernel_rfl,by kernel_rfl⟩
theorem ZO(P):makesIn (bN P) 811=true/\findIn (bN P) (.ref 811) "__init__"=some (some (.ref 657))/\typeIn (bN P) (.ref 657)=some (.type "function"):=⟨by kernel_rfl,by kernel_rfl,by kernel_rfl⟩
theorem ZP(P):(setOk (bN P) 811 (bJ 3)&&setOk (bN P) 811 (bJ 2)&&setOk (bN P) 811 (bJ 4))=true:=by kernel_rfl
section
variable{c:Ctx}{A:Around}{E:Value->Shared->Prop}{g:G}{s:Shared}{F:cF}
theorem LX(h:dQ (a::r)=true):(∃k w,a=.tok k w)/\dQ r=true:=by cases a<;>first|exact⟨⟨_,_,rfl⟩,h⟩|exact bq h
theorem VM.Ut(h:VM c F v (.tok k w)):VM c₂ F v (.tok k w):=
 h.Pw λz_ z_ z_ z_ z_ z_ z_ z_ h hd he hk hw=>.tok h hd he hk hw
theorem f8.toks:∀{ts:List AV} {vs:List Value},dh c F vs ts->dQ ts=true->dh c₂ F vs ts|[],_,h,_=>h.sC .nil|a::r,_,h,p=>by obtain⟨⟨k,w,rfl⟩,p⟩:=LX p;exact h.hG λv vs h hs=>.cons h.Ut (f8.toks hs p)
theorem VM.toks{v}(h:VM c F v (.list ts))(p:dQ ts=true):VM c₂ F v (.list ts):=
 h.listE λa o vs n h hc hd hn hs=>.list h hc hd hn (hs.toks p)
theorem uP{σ:Sg}(I:Inv c F g s)(hb:sysModules<c.base.objs.size)(big:c.base.objs.size<=s.heap.objs.size):
  wpAny c.M A (eval (.Dict [] [] p) env) (λv s'=>aE c F s env.locals g (.dict []) v s'/\∀b o,b≠env.locals->s.heap.get? b=some o->s'.heap.get? b=some o) E s:=by
 refine wpAny_Dict_empty<|dy (I.push {cls:=.type "dict",data:=.dict #[]} rfl s.toks) λI' X Y=>⟨⟨_,X,.dict (b9 _ _ _) ?_ ⟨_,_,⟨rfl,rfl,rfl⟩,rfl,λe he=>by simp at he,.nil,by simp⟩ .nil,I',Y _⟩,λb o z_ e=>az _ e⟩
 exact b8.mpr (Nat.ne_of_gt (aB hb big))
theorem Hv(C:ep c)(hA:A.depth<=991)(I:Inv c F g s)(tk:0<s.toks)(big:c.base.objs.size<=s.heap.objs.size){ts:List AV}(hr:VM c F vt (.list ts))(hts:dQ ts=true){Q:Value->Shared->Prop}
  (hQ:∀F' s' es n w1 w2 w3,XF s F F'->Inv c F' g s'->(∀L,L∉c.mu->(s.heap.get? L).isSome=true->eZ c L s s')->F' (s.heap.objs.size+1)=some (instObj 811 s.heap.objs.size)->F' s.heap.objs.size=none->s'.heap.get? s.heap.objs.size=some (dictOf es n)->
   gI es [("tokens",w1),("at",w2),("named",w3)]->VM c F' w1 (.list ts)->VM c F' w2 (.int 0)->VM c F' w3 (.dict [])->Q (.ref (s.heap.objs.size+1)) s'):
  wpAny c.M A (call (.ref 811) [vt]) Q E s:=by
 refine dy (ZO c.w.params) λm1 m2 m3=>Bv (ZN c.w.params) λoT tT nT eT dT=>construct C.tokY I m1 m2 m3 λh' k hx hd hsz=>?_;have hmore:∀j v,c.eX j=some v->su d9 (s.heap.objs.size+1) 0 j=some v:=λj v e=>rC j v (by rw[C.eX]at e;exact e);have FI:=lT (c:=c.fv (su d9 (s.heap.objs.size+1) 0)) (fr:=HS) (r:=cq 657) C.base LW P4 (dv:=[.int 0 tT]) (.inr ⟨650,oT,nT,Us,ir _ _ _ eT,dT⟩) (by show 1<=3;decide) (λF=>.cons .int .nil);have k1:gD bJ (gx (c.fv (su d9 (s.heap.objs.size+1) 0)) 657):=let k:=Ar C.tokY;⟨k.xM,k.tok,k.rd,k.cd,k.Sd,k.Se⟩
 have I1:Inv (gx (c.fv (su d9 (s.heap.objs.size+1) 0)) 657) F g {s with heap:=h'}:=((I.Ag k).more hmore).at;refine aG (tt (ZP c.w.params)) λsets z3=>aG (tt sets) λz1 z2=>?_;rw[←C.K]at z1 z2 z3;have hsz':s.heap.objs.size<=h'.objs.size:=by rw[hsz];exact Nat.le_add_right _ _
 refine oj (c:=(gx (c.fv (su d9 (s.heap.objs.size+1) 0)) 657)) (S:=nH (gx (c.fv (su d9 (s.heap.objs.size+1) 0)) 657) 0) (s:={s with heap:=h'}) (fr:=HS) (l:=[(9,.fn 999),(3,.list ts),(2,.int 0)]) (fb:=[.fn 999,.list ts]) rfl rfl FI HT rfl (by show A.depth+Code.weight _<recursionLimit;rw[Uu];unfold recursionLimit;exact JA hA) I1 tk (aw big hsz')
  (.cons (.fn rfl) (.cons (hr.more hmore).at .nil)) hx hd (mV I (aD _)) (mV I (Nat.le_succ _)) ⟨fg I (aD _),fg I (Nat.le_succ _)⟩ (aJ (dR _)) λenv s₁ F₁ hk X M hL hkp hg ho LY E'=>?_
 have kl:∀p∈HS.params,KL (env.kindOf (bJ p)):=λp hp=>by rw[hk];exact Ez (FI.knd p hp)
 have ne:∀{i j:Nat},i≠j->bJ i≠bJ j:=λh e=>h (fi _ _ e);refine eQ k1 M rfl rfl rfl (kl 9 (by decide)) (av:=.list ts) rfl (kl 3 (by decide)) (by simp) (by simp) z1 λF2 s2 v1 W1 X2 M2=>?_;refine eQ k1 M2 rfl rfl rfl (kl 9 (by decide)) (av:=.int 0) rfl (kl 2 (by decide)) (by simp[ne]) (by simp) z2 λF3 s3 v2 W2 X3 M3=>?_;have Uv:=M3.fr.big;have sm:sysModules<c.base.objs.size:=by rw[C.base,uK];decide
 refine wpAny_execs_cons (nj (a:=.dict []) k1 M3 rfl (j:=999) rfl rfl (kl 9 (by decide)) (bH 9).1 (bH 9).2.1 (λz_ z_ z_=>rfl) (uP (σ:=⟨[],none⟩) M3.inv sm Uv) (by simp[ne]) (by simp) z3 λF5 s5 v4 W4 X5 M5=>wpAny_execs_nil ?_);refine⟨rfl,?_⟩;have X0:XF s F F₁:=⟨X.ext,λb hb=>X.low b (iZ k b hb)⟩;have P5:=(M5.ext.low _ (by rw[hkp _ _ hx];rfl)).trans LY;obtain⟨es,nn,F6,E6,Fx,Fd,hes,X6,JB,I6,S6⟩:=M5.zH X0 (λb o e=>hkp _ _ (k _ _ e)) hg ho (Nat.le_succ _) (aD _) (aw hsz' hL) P5;have I7:Inv c F6 g s5:=⟨I6.cE,I6.base,I6.apart,I.d7.mono JB.ext λb hb o e=>M5.keep b o (aJ (aB (aN e) (aw hsz' hL))) (aJ (aN e)) (hkp _ _ (k _ _ e)),I6.fJ⟩;have n3:=oe.n3;have n2:=oe.n2;have n4:=oe.n4;refine hQ F6 s5 es nn v1 v2 v4 JB I7 (λL h1 h2=>let y:=S6 L h1 h2;⟨y.keep,y.ns,y.alive,y.gens,y.os⟩) Fx Fd hes E6 ?_ ?_ ?_
 ·exact(VM.toks (c:=(gx (c.fv (su d9 (s.heap.objs.size+1) 0)) 657)) (c₂:=c) W1 hts).mono ((X3.trans X5).trans X6)
 ·exact W2.dJ λz_=>.int
 ·exact(VM.Am (c:=(gx (c.fv (su d9 (s.heap.objs.size+1) 0)) 657)) (c₂:=c) rfl rfl W4).mono X6
end
end
section
noncomputable abbrev Ctx.pO(c:Ctx)(x d tl nd:Addr)(T:List AV):Ctx:={c with rd:=some (x,d,tl,nd),cd:=none,T:=T}
theorem Ev(h:dQ (a::r)=true):cS a=true/\dQ r=true:=by cases a<;>first|exact⟨rfl,h⟩|exact bq h
theorem rB:∀{l:List AV},dQ l=true->gh l=true|[],_=>rfl|a::r,h=>by show(cS a&&gh r)=true;rw[(Ev h).1,rB (Ev h).2];rfl
theorem ep.pO(C:ep c)(x d tl nd:Addr)(h:dQ T=true):ep (c.pO x d tl nd T):=⟨⟨C.K,C.base,C.eX⟩,C.lb,C.lq,C.Km,C.MR,C.tb,rB h⟩
section
variable{c:Ctx}{F:cF}{x d tl nd:Addr}{T:List AV}
theorem Aw:b∈(c.pO x d tl nd T).mu↔b∈c.box.toList∨b=d∨b∈c.tabs.map (·.1):=by rw[fZ];simp
theorem nZ(h:b∈(c.pO x d tl nd T).mu):b∈c.mu∨b=d:=by
 rw[Aw]at h;rw[fZ];rcases h with h|h|h
 ·exact .inl (.inl h)
 ·exact .inr h
 ·exact .inl (.inr (.inr (.inr h)))
theorem HH(n:c.mu.Nodup)(h:d∉c.mu):(c.pO x d tl nd T).mu.Nodup:=by
 have hb:=mt fZ.mpr h;simp only[not_or]at hb;refine dy (aO.mp n) λa1 a2 a3=>dy (aO.mp a2) λb1 b2 b3=>dy (aO.mp b2) λc1 c2 c3=>aO.mpr ⟨a1,?_,λa ha b hb'=>?_⟩
 ·skip;exact cn.mpr ⟨hb.2.2.2,c2⟩
 ·refine Or.elim (am.mp (show b∈d::c.tabs.map (·.1)from hb')) (λe=>?_) λq=>?_
  ·(clear hb';rintro rfl);exact hb.1 (e▸ha)
  ·exact a3 a ha b (aZ _ (aZ _ q))
theorem Ax(n:c.mu.Nodup)(h:d∉c.mu)(hb:b∈(c.rd.map λx=>x.2.1).toList∨b∈(c.cd.map λx=>x.2).toList):b∉(c.pO x d tl nd T).mu:=λhw=>by
 have hm:b∈c.mu:=fZ.mpr (hb.elim (λh=>.inr (.inl h)) λh=>.inr (.inr (.inl h)));refine dy (aO.mp n) λa1 a2 a3=>dy (aO.mp a2) λb1 b2 b3=>dy (aO.mp b2) λc1 c2 c3=>?_;rcases Aw.mp hw with q|q|q
 ·refine Or.elim hb (λhb=>?_) λhb=>?_
  ·exact a3 b q b (List.mem_append_left _ hb) rfl
  ·exact a3 b q b (aZ _ (List.mem_append_left _ hb)) rfl
 ·exact h (q▸hm)
 ·refine Or.elim hb (λhb=>?_) λhb=>?_
  ·exact b3 b hb b (aZ _ q) rfl
  ·exact c3 b hb b q rfl
theorem Inv.T7(I:Inv c F g s)(hx:F x=some (instObj 811 d))(hd:F d=none)(hm:d∉c.mu)(hes:s.heap.get? d=some (dictOf es n))
  (E6:gI es [("tokens",.ref tl),("at",.int 0 t),("named",.ref nd)]) (W1:VM c F (.ref tl) (.list T)) (W3:VM c F (.ref nd) (.dict [])) (hT:dQ T=true):Inv (c.pO x d tl nd T) F {g with rem:=T,last:=.none} s:=by
 have pl:∀{v:Value} {a:AV},VM c F v a->cS a=true->VM (c.pO x d tl nd T) F v a:=λh p=>VM.plain (c:=c) (c₂:=c.pO x d tl nd T) (λk v e=>e) h p;refine⟨I.cE,I.base,λb hb=>(nZ hb).elim (I.apart b) λe=>e▸hd,⟨λr dd tl' nd' e=>?_,λy dd e=>?_,λb e=>?_,I.d7.tab⟩,HH I.fJ hm⟩
 ·cases e;exact⟨es,n,0,t,hes,by rw[hO E6];exact aa rfl,E6,Nat.zero_add _,rfl,hx,VM.toks (c:=c) (c₂:=c.pO x d tl nd T) W1 hT,VM.Am (c:=c) (c₂:=c.pO x d tl nd T) rfl rfl W3⟩
 ·exact aI e
 ·obtain⟨o,vc,vg,vs,vp,n,h1,h2,h3,h4,h5,h6,h7⟩:=I.d7.box b e;exact⟨o,vc,vg,vs,vp,n,h1,h2,h3,pl h4 (ib _),pl h5 rfl,pl h6 rfl,pl h7 rfl⟩
theorem Inv.Pq(I:Inv c F g s)(ex:Ext F F')(low:∀b,b∈c.mu->F' b=none)(hm:d∉c.mu)(kp:∀b o,b∈c.mu->b∉(c.pO x d tl nd T).mu->s.heap.get? b=some o->s'.heap.get? b=some o)
  (I':Inv (c.pO x d tl nd T) F' g2 s'):Inv c F' {g2 with rem:=g.rem,last:=g.last} s':=by
 have pl:∀{v:Value} {a:AV},VM (c.pO x d tl nd T) F' v a->cS a=true->VM c F' v a:=λh p=>VM.plain (c:=c.pO x d tl nd T) (c₂:=c) (λk v e=>e) h p;refine⟨I'.cE,I'.base,low,⟨λr dd tl' nd' e=>?_,λy dd e=>?_,λb e=>?_,I'.d7.tab⟩,I.fJ⟩
 ·obtain⟨es,n,p,t,h1,h2,h3,h4,h5,h6,h7,h8⟩:=I.d7.rd r dd tl' nd' e;have inR:dd∈(c.rd.map λx=>x.2.1).toList:=by rw[e];simp
  exact⟨es,n,p,t,kp dd _ (fZ.mpr (.inr (.inl inR))) (Ax I.fJ hm (.inl inR)) h1,h2,h3,h4,h5,ex _ _ h6,h7.mono ex,h8.mono ex⟩
 ·obtain⟨es,n,vr,vn,vd,vl,h1,h2,h3,h4,h5,h6,h7,h8,h9⟩:=I.d7.cd y dd e;have inC:dd∈(c.cd.map λx=>x.2).toList:=by rw[e];simp
  exact⟨es,n,vr,vn,vd,vl,kp dd _ (fZ.mpr (.inr (.inr (.inl inC)))) (Ax I.fJ hm (.inr inC)) h1,h2,h3,h4.mono ex,h5.mono ex,h6.mono ex,h7.mono ex,ex _ _ h8,h9⟩
 ·obtain⟨o,vc,vg,vs,vp,n,h1,h2,h3,h4,h5,h6,h7⟩:=I'.d7.box b e;exact⟨o,vc,vg,vs,vp,n,h1,h2,h3,pl h4 (ib _),pl h5 rfl,pl h6 rfl,pl h7 rfl⟩
end
noncomputable def HI:List Nat:=[95,108,97,119,95,116,111,107,101,110,115]
noncomputable def Sc:List Nat:=[82,101,97,100,101,114]
noncomputable def yO:vF:=⟨103,[26,130],[],[],1039⟩
def uN:Expr:=sV (bS 1039 0)
def mR:Expr:=xA uN 0
def uG:Expr:=.Call (.Name (bQ HI) (xP (xO mR))) [sj (xA mR 0) 26] [] (xP mR)
def rk:List Stmt:=(sts (cq 1039).fd.body).drop 1
theorem Hu:rowAt 1039 vG=some (cq 1039):=by kernel_rfl
theorem LE:vH yO (cq 1039)=true:=by kernel_rfl
theorem Pn:(cq 1039).d=.none:=by kernel_rfl
theorem Eh:(cq 1039).fd.body=.stmts (.Assign [sj (sT (bS 1039 0)) 5] (.Call (.Name (bQ Sc) (xP (xO uN))) [uG] [] (xP uN)) (sP (bS 1039 0))::rk):=by kernel_rfl
theorem Pm:yt (jy (bJ 5) (cq 1039).fd.scope.names)=true/\gi (jy (bQ Sc) (cq 1039).fd.scope.names)=true/\gi (jy (bQ HI) (cq 1039).fd.scope.names)=true/\kl (jy (bJ 26) (cq 1039).fd.scope.names)=true/\iP (lS 0) eJ (cq 1039).fd.scope.names rk=true:=
 ⟨by kernel_rfl,by kernel_rfl,by kernel_rfl,by kernel_rfl,by kernel_rfl⟩
theorem Xy(P):gE Sc (im (pH P fO 134))=some (.ref 811)/\gE HI (im (pH P fO 134))=some (.ref 968):=⟨by kernel_rfl,by kernel_rfl⟩
theorem Po:(bQ Sc==("__debug__":Str))=false/\(bQ HI==("__debug__":Str))=false:=⟨by kernel_rfl,by kernel_rfl⟩
theorem T6(P):keepIn (bN P) (.ref 811)=true:=by kernel_rfl
theorem Eg:d9 103=some (.ref 1039)/\d9 71=some (.ref 968):=⟨by kernel_rfl,by kernel_rfl⟩
theorem LD(h:OO (n+1) 103 fb g=some (r,g')):∃a k ts g1 g2,fb=[.str a,.fn k]/\OO n 71 [.str a] g=some (.list ts,g1)/\dQ ts=true/\
  bm (ex 5000 (ev T0 (OO n) 60) 30) eJ ⟨[(26,.str a),(130,.fn k),(5,.sp 1)],none⟩ {g1 with rem:=ts,last:=.none}=some (.ret r g2)/\cS r=true/\g'={g2 with rem:=g1.rem,last:=g1.last}:=by
 have h:=h;refine aH (a8 h) λp e1 h=>aH (a8 h) λa e2 h=>aH (a8 h) λk e3 h=>aH (a8 h) λq e4 h=>aH (a8 h) λts e5 h=>aG (dX h) λe6 h=>aH (a8 h) λo e7 h=>?_;cases o with
 |next σ g2=>exact aI h
 |ret v g2=>refine aG (dX h) λe8 h=>?_;refine fS h λx y=>?_;subst x y;exact⟨a,k,ts,q.2,g2,by rw[ni e1,eP e2,Lm e3],by rw[e4,←hU e5],e6,e7,e8,rfl⟩
end
section
theorem Ht(H:kX n):jF n 103:=by
 intro c C fb g r g' f ba F s A E h hA hf I tk big hv;obtain⟨a,kf,ts,g1,g2,rfl,Zs,hts,hex,pr,rfl⟩:=LD h;rw[C.eX,Eg.1]at hf;refine bD hf λx=>?_;subst x;obtain⟨c1,c2,c3,c4,c5⟩:=Pm;refine hv.two λw1 w2 e V1 V2=>?_;subst e;have FI:=lT (c:=c) (fr:=yO) (r:=cq 1039) C.base Hu LE (dv:=[]) (.inl ⟨Pn,rfl⟩) (bo _) (λF=>.nil);have C':ep (gx c 1039):=C.at _ _;refine ms (S:=nH (gx c 1039) n) (fr:=yO) (l:=[(26,.str a),(130,.fn kf)]) FI Eh rfl (pJ hA) I.at tk big (.cons V1.at (.cons V2.at .nil)) λenv s₁ F₁ hk X I₁ f₁ hL hkp hg ho z_=>?_;have ok:=H _ C';have hA':cP n (A.deeper env):=gu hA;have I₁:=I₁;have f₁:=f₁;have k5:env.kindOf (bJ 5)=some .local:=by rw[hk,eF];exact nP c1
 refine wpAny_execs_cons (gT rfl rfl rfl ?_);have Dt:=mv (I₁.cE _ _ (nJ C'.tokY I₁.base (k3 _))) (BI c.w.params);refine an (Calls.Name_function_global f₁.kind (by rw[hk,eF];exact sX c2) (loadGlobal_global (by rw[f₁.glob];exact Dt) ((dP _ _).trans (Xy _).1) ?_) Po.1);rw[show starEach [uG] env=[uG].map (λe=>(false,eval e env))from rfl,cX];refine ft (F:=F₁) (λhh KM=>keeps_K (T6 c.w.params) hh λa o e=>KM _ _ (I₁.base _ _ (by show c.base.get? a=_;rw[C.base];exact ir _ _ _ e))) ?_;refine bG (gW (g:=g1) (a:=.list ts) ?_ f₁ λv4 s4 F4 X4 V4 I4 Y4 f4=>cf ⟨λb o e=>I4.cE _ _ (X4.ext _ _ e),?_⟩)
 ·skip;refine an (Calls.Name_function_global f₁.kind (by rw[hk,eF];exact sX c3) (loadGlobal_global (by rw[f₁.glob];exact Dt) ((dP _ _).trans (Xy _).2) ?_) Po.2);rw[show starEach [sj (xA mR 0) 26] env=[sj (xA mR 0) 26].map (λe=>(false,eval e env))from rfl,cX];have Xz:(gx c 1039).eX 71=some (.ref 968):=by show c.eX 71=_;rw[C.eX];exact Eg.2
  refine ft (F:=F₁) (ok.sx.kp (.fn Xz) I₁.base) ?_;refine bG (wpAny_Name (i5 I₁ f₁ (a:=.str a) rfl (by rw[hk,eF];exact Ei c4) (bH 26).2.1 λvk hvk=>cf ⟨λb o e=>I₁.cE _ _ e,?_⟩) (bH 26).1);exact aM (ok.sx.fn (i:=71) rfl Zs hA' Xz I₁ f₁.tk f₁.big (.cons hvk .nil)) (λz_ z_ p=>p.Kk f₁) λz_ z_ x=>x
 refine bA (n:=s4.toks) (aD _) (Hv C' (by have:=hA'.2.1;exact Jl this) I4 f4.tk f4.big V4 hts λF5 s5 es nn u1 u2 u3 X5 I5 S5 Fx Fd hes E6 U1 U2 U3 htk=>?_);have dm:=fg I4 (aD _);have SL:=S5 env.locals f4.cR f4.alive;have f5:=f4.step bJ X5 SL htk;have⟨tl,htl⟩:∃tl,u1=.ref tl:=U1.listE λa z_ z_ z_ z_ z_ z_ z_ z_=>⟨a,rfl⟩;have⟨nd,hnd⟩:∃nd,u3=.ref nd:=U3.vC λa z_ z_ z_ z_ z_ z_=>⟨a,rfl⟩;have⟨t0,ht0⟩:∃t0,u2=.int 0 t0:=U2.dJ λt=>⟨t,rfl⟩;(clear U2;subst htl hnd ht0);have I6:=I5.T7 Fx Fd dm hes E6 U1 U3 hts;obtain⟨m,hn,hlo,_⟩:=f5.ns;refine bA (n:=s5.toks) (aD _) (kG rfl f5.kind k5 hn λs6 Zt o6 T8=>?_);have Tg:=aJ (bw f4.alive);have nL:∀b o,F5 b=some o->b≠env.locals:=λb o e z=>by rw[z,f5.fN]at e;exact aI e
 have C2:=C'.pO (s4.heap.objs.size+1) s4.heap.objs.size tl nd hts;have rj:env.locals∉((gx c 1039).pO (s4.heap.objs.size+1) s4.heap.objs.size tl nd ts).mu:=λhm=>(nZ hm).elim f5.cR Tg
 have I7:Inv ((gx c 1039).pO (s4.heap.objs.size+1) s4.heap.objs.size tl nd ts) F5 {g1 with rem:=ts,last:=.none} s6:=
  I6.kept (λb o e=>o6.keep b o (nL b o e) (I6.cE _ _ e)) λb hb o e=>o6.keep b o (λz=>rj (z▸hb)) e
 have f7:ax bJ ((gx c 1039).pO (s4.heap.objs.size+1) s4.heap.objs.size tl nd ts) env F5 ⟨[(26,.str a),(130,.fn kf),(5,.sp 1)],none⟩ s6:=by
  refine⟨f5.kind,f5.glob,f5.blt,f5.hcode,rj,f5.fN,f5.above,aB f5.tk T8,f5.yc,_,Zt,λy b hy hky=>?_,λy l e=>by exact aI e⟩;have old:∀(z:Nat) (av:AV),fW z [(26,.str a),(130,.fn kf)]=some av->cS av=true->z≠5->KL (env.kindOf (bJ z))->wB bJ ((gx c 1039).pO (s4.heap.objs.size+1) s4.heap.objs.size tl nd ts) env F5 (λy=>if y=bJ 5 then some (.ref (s4.heap.objs.size+1))else m y) z av:=λz av hz pz nz kz=>by obtain⟨v,v1,v2⟩:=(hlo z av hz kz);refine⟨v,VM.plain (c:=(gx c 1039)) (c₂:=(gx c 1039).pO (s4.heap.objs.size+1) s4.heap.objs.size tl nd ts) (λk v e=>e) v1 pz,v2.imp (λ⟨q1,q2⟩=>⟨q1,?_⟩) id⟩;rw[bi (λe=>nz (fi _ _ e))];exact q2
  refine Or.elim (am.mp (kH hy)) (λe=>?_) λhm=>?_
  ·(clear hy;cases e);exact old 26 _ rfl rfl (by decide) hky
  ·refine Or.elim (am.mp hm) (λe=>?_) λhm=>?_
   ·(clear hy;cases e);exact old 130 _ rfl rfl (by decide) hky
   ·(clear hy hky;cases aR.mp hm);exact⟨.ref (s4.heap.objs.size+1),.sp rfl,.inl ⟨k5,br rfl⟩⟩
 have sn:uA (nH ((gx c 1039).pO (s4.heap.objs.size+1) s4.heap.objs.size tl nd ts) n) (lS 0):=BH (a:=0) (λh=>by cases h);have ok2:=H _ C2;have XA:=vW C2 n;have B5:∀m,ej (nH ((gx c 1039).pO (s4.heap.objs.size+1) s4.heap.objs.size tl nd ts) n) m:=λm=>oH ok2 XA (λh=>yn h) m;refine aM (yP ok2 XA B5 (fh sn eJ _ rk c5) hk hA' hex I7 f7 rfl) (λfl s8 p=>?_) λz_ z_ x=>x;obtain⟨v',rfl,F8,Y8,V8,I8⟩:=p;have al:∀b,(s.heap.get? b).isSome=true->(s₁.heap.get? b).isSome=true:=λb hb=>by refine b0 (bu hb) λo e=>?_;rw[hkp _ _ e];rfl
 have XB:=λb hb=>SL.alive b (Y4.alive b (al b hb));have Zu:=λb hb=>o6.alive b (XB b hb);have rl:∀b,(s.heap.get? b).isSome=true->b≠env.locals:=λb hb z=>bc (bw hb) (bO.mpr (z▸hL));have Zv:=aw hL (cb (bw f4.alive));have T9:∀b,(s.heap.get? b).isSome=true->b≠s4.heap.objs.size:=λb hb z=>bc (bw hb) (bO.mpr (z▸Zv));have kp:∀b o,b∉c.mu->s.heap.get? b=some o->s8.heap.get? b=some o:=λb o hb e=>by
  have hbs:(s.heap.get? b).isSome=true:=by rw[e];rfl
  exact Y8.keep b o (λhm=>(nZ hm).elim hb (T9 b hbs)) (rl b hbs) (by simp) (o6.keep b o (rl b hbs) (SL.keep b o hb (rl b hbs) (Y4.keep b o hb (rl b hbs) (hkp b o e))))
 have Pp:=λb hb=>Y8.low b (o6.alive b hb) (by simp);have I9:Inv (gx c 1039) F8 {g2 with rem:=g1.rem,last:=g1.last} s8:=by
  refine I5.Pq Y8.ext (λb hb=>?_) dm (λb o hb hnb e=>?_) I8
  ·refine b0 (I5.d7.alive hb) λo e=>?_;rw[Pp b (by rw[e];rfl)];exact I5.apart b hb
  ·exact Y8.keep b o hnb (λz=>f5.cR (z▸hb)) (by simp) (o6.keep b o (λz=>f5.cR (z▸hb)) e)
 refine⟨F8,⟨((X.ext.trans X4.ext).trans X5.ext).trans Y8.ext,λb hb=>?_⟩,?_,I9.back,λL' h1 h2=>⟨λb o b1 z_ e=>kp b o b1 e,λm x=>x.at' λo e=>kp L' o h1 e,λb hb=>Y8.alive b (Zu b hb),Y8.gens.trans (o6.gens.trans (SL.gens.trans (Y4.gens.trans hg))),Y8.os.trans (o6.os.trans (SL.os.trans (Y4.os.trans ho)))⟩⟩
 ·rw[Pp b (XB b hb),X5.low b (Y4.alive b (al b hb)),X4.low b (al b hb),X.low b hb]
 ·exact VM.plain (c:=(gx c 1039).pO (s4.heap.objs.size+1) s4.heap.objs.size tl nd ts) (c₂:=c) (λk v e=>e) V8 pr
theorem th:∀n,kX n:=rn λn H=>⟨Hw n,G7 H,Hx H,Ht H⟩
end
end
section
open PySem PySem.W PyProof.Rows PySem.Calls PyProof.V
section
noncomputable abbrev Ctx.sJ(c:Ctx)(b:Addr):Ctx:={c with box:=some b}
theorem ep.sJ(C:ep c)(b:Addr):ep (c.sJ b):=⟨⟨C.K,C.base,C.eX⟩,C.lb,C.lq,C.Km,C.MR,C.tb,C.tp⟩
theorem wX:∀{vs:List Value} {l:List Int},dh c F vs (l.map .int)->dh c₂ F' vs (l.map .int)|_,[],h=>h.sC .nil|_,i::l,h=>h.hG λv vs h hs=>h.dJ (P:=λv=>dh c₂ F' (v::vs) _) λt=>.cons .int (wX hs)
theorem f8.four{P:Prop}(h:dh c F vl [a1,a2,a3,a4])(k:∀v1 v2 v3 v4,vl=[v1,v2,v3,v4]->VM c F v1 a1->VM c F v2 a2->VM c F v3 a3->VM c F v4 a4->P):P:=by revert k;exact h.hG λv1 l h1 h=>h.hG λv2 l h2 h=>h.hG λv3 l h3 h=>h.hG λv4 l h4 h=>h.sC λk=>k v1 v2 v3 v4 rfl h1 h2 h3 h4
section
variable{c:Ctx}{F:cF}{g:G}{s:Shared}
set_option backward.match.sparseCases true in
theorem LN{sts}(FI:wb c bJ fr o fd as kd BU [])(hb:fd.body=.stmts sts)(hd:A.depth<recursionLimit)(hcell:∀x∈fd.scope.names,x.2≠.cell)(u0:∀y,fd.scope.names.lookup y≠some .cell)
  (I:Inv c F g s) (big:c.base.objs.size<=s.heap.objs.size) (hv:dh c F ba fb) (cM:fb.length=fr.params.length) (hpos:0<fr.params.length)
  (h:∀(env:Env) (s₁:Shared),(∀x,env.kindOf x=fd.scope.names.lookup x)->Inv c F g s₁->ax bJ c env F ⟨fr.params.zip fb,none⟩ s₁->s.heap.objs.size<=env.locals->(∀b o,s.heap.get? b=some o->s₁.heap.get? b=some o)->s₁.gens=s.gens->s₁.os=s.os->
   wpAny c.M (A.deeper env) (execs sts env) (λfl s'=>R (.ok (.ret (match fl with|.ret v=>v|_=>.none))) s')
    (λe s'=>wpAny c.M (A.deeper env) (leaving env e) (λz_ s''=>R (.error e) s'') (λe' s''=>R (.error e') s'') s') s₁):
  codeAny c.M A (.call (.ref fr.addr) ⟨ba,[]⟩) R s:=by
 have hkeep:∀b o,c.base.get? b=some o->s.heap.get? b=some o:=λb o e=>I.cE _ _ (I.base _ _ e);have lv:=hv.length;have lp:(fr.params.map bJ).length=fr.params.length:=bg ..;refine(codeAny_call_function hd (hkeep _ _ FI.ob) FI.dat FI.co FI.ge hb (by
  refine uH FI.Jo λcc oc vs tq e1 e2 e3 e4=>⟨cc,oc,vs,tq,e1,hkeep _ _ e2,e3,e4⟩) ?_)
 refine rN (D:=[]) FI.par FI.nms FI.fJ (JR cM lv lp) (bo _) (by rw[ao];exact JS cM lv lp) ?_ ?_
 ·refine Or.elim FI.R5 (λoz=>?_) λoz=>?_;(refine aG oz λe1 z_=>?_);rotate_left;(refine GI oz λT oT n e1 e2 e3=>?_);rotate_right
  ·rw[e1];exact aP ⟨rfl,rfl⟩
  ·rw[e1];exact wpAny_seqItems (hkeep _ _ e2) e3 ⟨by simp,rfl⟩
 ·rw[List.drop_nil,cz,FI.clo];have MZ:(((fr.params.map bJ).zip ba).map (·.1)).Nodup:=by rw[List.map_fst_zip (JT cM lv lp)];exact FI.fJ
  have hloc:=λp hp=>(FI.knd p hp).elim id λe=>bc e (u0 _);refine wpAny_newFunctionEnv hcell (λx hx=>?_) (λh' hns hsb=>?_) FI.fk
  ·refine aH (cI.mp (List.of_mem_zip (a:=x.1) (b:=x.2) hx).1) λp hp e=>?_;rw[←e];exact hloc p hp
  ·have hk₁:=λb o e=>hsb.extBut b o (aJ (aN e)) (az _ e);refine⟨(FI.MW.keeps hkeep).keeps hk₁,codeAny_func ?_⟩
   have I₁:Inv c F g {s with heap:=h',toks:=s.toks+((fr.params.map bJ).zip ba).length}:=
    ⟨λb o e=>hk₁ _ _ (I.cE _ _ e),I.base,I.apart,I.d7.mono (Ext.refl F) λb z_ o e=>hk₁ _ _ e,I.fJ⟩
   refine h _ {s with heap:=h',toks:=s.toks+((fr.params.map bJ).zip ba).length} (λz_=>rfl) I₁ ?_ (aD _) hk₁ rfl rfl;refine⟨FI.fk,FI.dD,FI.blt,FI.K0,λhb=>fg I (aD _) hb,I.free,big,?_,λx hx=>?_,_,hns,λy b hy hkl=>?_,λy l e=>by exact aI e⟩
   ·skip;rw[List.length_zip];exact Qw cM hpos lv lp
   ·refine Or.elim hx (λhx=>?_) λhx=>?_
    ·exact bc hx (u0 x)
    ·exact bc hx (FI.nof x)
   ·have hm:=kH hy;refine aH (pU (nm:=bJ) hv hm) λv h1 h2=>⟨v,h1,.inl ⟨hloc y (List.of_mem_zip hm).1,?_⟩⟩;refine je ?_ (List.mem_reverse.mpr h2);rw[List.map_reverse];exact(List.reverse_perm _).nodup_iff.mpr MZ
theorem VM.Et(h:VM c F v (.list l)):∃a o vs n,v=.ref a/\F a=some o/\o.cls=.type "list"/\o.data=.seq vs n/\l.length<=1048576/\dh c F vs.toList l:=
 h.listE (P:=λv=>∃a o vs n,v=.ref a/\F a=some o/\o.cls=.type "list"/\o.data=.seq vs n/\l.length<=1048576/\dh c F vs.toList l) λa o vs n h1 h2 h3 h4 h5=>⟨a,o,vs,n,rfl,h1,h2,h3,h4,h5⟩
theorem Inv.PU{cells:List Int}{gr st}(hg:g₂.box=⟨cells,gr,st,0⟩)(I:Inv c F g s)(U9:c.box=none)(hrd:c.rd=none)(hcd:c.cd=none)(hF:F b=some o)(hc:o.cls=.type "list")(hd:o.data=.seq vs n)
  (hv:dh c F vs.toList [.list (cells.map .int),.int gr,.int st,.int 0]) (hbase:c.base.get? b=none) (hbm:b∉c.mu):Inv (c.sJ b) (λx=>if x=b then none else F x) g₂ s:=by
 have ne:∀x,x≠b->(if x=b then none else F x)=F x:=λx h=>bi h;have fF:∀x o',(if x=b then none else F x)=some o'->F x=some o':=λx o' e=>by
  by_cases z:x=b
  ·rw[br z]at e;exact aI e
  ·rw[bi z]at e;exact e
 have KQ:∀x,x∈(c.sJ b).mu->x=b∨x∈c.mu:=λx hx=>by
  rw[fZ]at hx ⊢;rcases hx with h|h|h|h
  ·have h:=h;rw[Option.mem_toList]at h;(refine bD h λx=>?_;subst x);exact .inl rfl
  ·exact .inr (.inr (.inl h))
  ·exact .inr (.inr (.inr (.inl h)))
  ·exact .inr (.inr (.inr (.inr h)))
 refine⟨λx o' e=>I.cE _ _ (fF x o' e),λx o' e=>?_,λx hx=>?_,⟨λr d tl nd e=>?_,λy d e=>?_,λx e=>?_,λP p q hq=>?_⟩,?_⟩
 ·skip;rw[ne x (λz=>by rw[z]at e;rw[hbase]at e;exact aI e)];exact I.base _ _ e
 ·skip;refine Or.elim (KQ x hx) (λz=>?_) λz=>?_
  ·exact br z
  ·by_cases q:x=b
   ·exact br q
   ·rw[ne x q];exact I.apart x z
 ·have e:=e;rw[hrd]at e;exact aI e
 ·have e:=e;rw[hcd]at e;exact aI e
 ·refine bD e λx=>?_;subst x;obtain⟨vl⟩:=vs;have hv:=hv;have hv0:=hv;refine hv.four λvc vg Sl vp e h1 h2 h3 h4=>?_;(clear hv hv0;subst e);refine⟨o,vc,vg,Sl,vp,n,I.cE _ _ hF,hc,hd,?_,?_,?_,?_⟩
  ·rw[hg];refine sH h1.Et λcl o2 vs2 n2 e9 Va hc2 hd2 hn2 hs2=>?_;subst e9;refine .list ?_ hc2 hd2 hn2 (wX hs2);rw[ne cl]
   ·exact Va
   ·(clear hbase fF KQ;rintro rfl);rw[hF]at Va;(clear hc2;(refine bD Va λx=>?_;subst x));rw[hd]at hd2;cases hd2;cases cells with|nil=>exact hs2.MV|cons i r=>exact hs2.un.1.Uf
  ·rw[hg];exact h2.dJ λz_=>.int
  ·rw[hg];exact h3.dJ λz_=>.int
  ·rw[hg];exact h4.dJ λz_=>.int
 ·refine aH (I.d7.tab P p q hq) λps h1 h2=>⟨ps,h1,h2.imp id ?_⟩;rintro⟨c',e1,oc,vs',t',e2,e3,e4⟩;refine⟨c',e1,oc,vs',t',?_,e3,e4⟩;rw[ne c' (λz=>by rw[z,hF]at e2;(refine bD e2 λx=>?_;subst x);rw[hd]at e3;cases e3)];exact e2
 ·have n:=I.fJ;have e:c.mu=c.tabs.map (·.1):=by unfold Ctx.mu;rw[U9,hrd,hcd];rfl
  have e2:(c.sJ b).mu=b::c.tabs.map (·.1):=by show(some b).toList++((c.rd.map λx=>x.2.1).toList++((c.cd.map λx=>x.2).toList++c.tabs.map (·.1)))=_;rw[hrd,hcd];rfl
  rw[e2];exact cn.mpr ⟨by rw[←e];exact hbm,by rw[←e];exact n⟩
end
noncomputable def AR(o:Obj):Bool:=match o.cls with|.type t=>decide (t="list")|_=>false
theorem Mg(P:Params):((Qf P).all λo=>!AR o)=true:=by kernel_rfl
theorem j5(h:(bh P).get? b=some o)(hc:o.cls=.type "list"):False:=by have h1:=(i4 (yZ h)).2;have:=aS.mp (Mg P) o h1;unfold AR at this;rw[hc]at this;simp at this
noncomputable def Jx:vF:=⟨104,[108],[],[],1051⟩
noncomputable def AS:NameKind->Bool|.cell=>false|_=>true
def u4:NS->Bool|[]=>true|p::r=>AS p.2&&u4 r
theorem oh:∀{ns:NS},u4 ns=true->(∀x∈ns,x.2≠.cell)/\∀y,ns.lookup y≠some .cell
 |[],_=>⟨λz_ h=>(by cases h),λy h=>(aI h)⟩|(n,k)::r,h=>by
  refine aG (tt (show(AS k&&u4 r)=true from h)) λh1 h2=>aG (oh h2) λq1 q2=>⟨λx hx=>?_,λy=>?_⟩
  ·refine Or.elim (am.mp hx) (λe=>?_) λhx=>?_
   ·cases e;rintro e;have e:k=.cell:=e;rw[e]at h1;exact bq h1
   ·exact q1 x hx
  ·rw[aQ]
   split
   ·rintro e;(clear h;(refine bD e λx=>?_;subst x));exact bq h1
   ·exact q2 y
def rA:List Stmt:=(sts (cq 1051).fd.body).drop 1
def wY:Expr:=.Call (xO (sV (bS 1051 0))) (Tm (sV (bS 1051 0))) (xK (sV (bS 1051 0))) (xP (sV (bS 1051 0)))
theorem HF:rowAt 1051 vG=some (cq 1051):=by kernel_rfl
theorem HG:vH Jx (cq 1051)=true:=by kernel_rfl
theorem PO:(cq 1051).d=.none:=by kernel_rfl
theorem Eu:(cq 1051).fd.body=.stmts (.Assign [sj (sT (bS 1051 0)) 100] wY (sP (bS 1051 0))::rA):=by kernel_rfl
theorem PN:yt (jy (bJ 100) (cq 1051).fd.scope.names)=true/\dH (lS 0) (.ai 104 [.ah 108]) (cq 1051).fd.scope.names wY=true/\iP (lS 0) (wA.drop 1) (cq 1051).fd.scope.names rA=true/\u4 (cq 1051).fd.scope.names=true:=
 ⟨by kernel_rfl,by kernel_rfl,by kernel_rfl,by kernel_rfl⟩
end
section
noncomputable def R3:G:=⟨[],.none,⟨[],0,0,0⟩,[]⟩
def Op(N:Nat):Prop:=∀xs:List Int,xs.length<=63->∃cells gr st g g',g.box=⟨cells,gr,st,0⟩/\OO N 82 [.list (xs.map .int)] R3=some (.list [.list (cells.map .int),.int gr,.int st,.int 0],R3)/\
 bm (ex 5000 (ev T0 (OO N) 60) 30) (wA.drop 1) ⟨[(100,.sp 0)],none⟩ g=some (.ret (.bool true) g')
noncomputable abbrev Jw:=PySem.Challenge.rw_og0112_01
theorem rz:∀{xs:List WData},WShape.hasItems [] xs .int=true->∃l:List Int,xs=l.map WData.int|[],_=>⟨[],rfl⟩|d::r,h=>by refine aG (tt (show(WShape.has [] d .int&&WShape.hasItems [] r .int)=true from h)) λh1 h2=>?_;(clear h;(refine b0 (rz h2) λl dN=>?_;subst dN));induction d using WData.casesOn<;>first|exact bq h1|exact⟨_::l,rfl⟩
theorem Er(h:Jw.row.toRowW.claim.pre args=true):∃l:List Int,args=[.list (l.map .int)]/\l.length<=63:=by
 refine aG (tt (show(WShape.hasAll [] args [.list .int]&&Jw.pre.holds [] {args:=args})=true from h)) λh1 h2=>?_
 match args,h1 with
 |[],h1=>exact bq h1|[d],h1=>
  have h1:=h1;refine aG (tt h1) λh1 z_=>?_;cases d with
  |list xs=>
   (clear h;(refine b0 (rz (xs:=xs) ((Bool.or_false _).symm.trans h1)) λl dN=>?_;subst dN));refine⟨l,rfl,?_⟩;have e0:Jw.pre=.and (.not (.lt (.lit (.int 63)) (.len (.arg 0)))) (.lit (.bool true)):=rfl;rw[e0]at h2;have e:decide ((63:Int)<((l.map WData.int).length:Int))=false:=by
    cases q:decide ((63:Int)<((l.map WData.int).length:Int))with
    |false=>rfl|true=>
     have h3:=aU q;rw[bg]at h3;have h4:¬(l.length:Int)<=63:=by exact PD h3
     simp[WTm.holds,WTm.value,less?,Num.less?,h3,h4]at h2;try omega
   rw[bg]at e;have:=of_decide_eq_false e;exact PG this
  |_=>exact bq h1
 |_::_::_,h1=>exact bq (tt h1).2
def ZD(d:WData)(v:Value):Prop:=match d with|.int i=>∃t,v=.int i t|_=>True
theorem B8(r:ReadsW R cl h v d as):ZD d v:=by induction r using ReadsW.casesOn<;>first|exact True.intro|exact⟨_,rfl⟩
def ZE(R:WRecords)(cl:Str->Option Addr)(h:Heap)(vs:List Value)(ds:List WData):Prop:=match vs with|[]=>ds=[]|v::vs=>(match ds with|[]=>False|d::ds=>(∃as,ReadsW R cl h v d as)/\∃bs,ReadsAllW R cl h vs ds bs)
theorem og(r:ReadsAllW R cl h vs ds as):ZE R cl h vs ds:=by induction r using ReadsAllW.casesOn with|nil=>exact rfl|cons h1 h2=>exact⟨⟨_,h1⟩,_,h2⟩
theorem l6:∀{vs:List Value} {l:List Int} {as:List Addr},ReadsAllW R cl h vs (l.map .int) as->dh c F vs (l.map .int)|[],[],_,_=>.nil|[],_::_,_,h=>nomatch (show _::_=[]from og h)|_::_,[],_,h=>(og h).elim|v::vs,i::l,_,h=>by obtain⟨⟨as1,h1⟩,bs,h2⟩:=(show(∃as,ReadsW R cl _ v (.int i) as)/\∃bs,ReadsAllW R cl _ vs (l.map .int) bs from og h);refine b0 ((show ∃t,v=.int i t from B8 h1)) λt e=>?_;rw[e];exact .cons .int (l6 h2)
def gL(w:World):Ctx:={prog:=Jw.prog,w:=w,K:=bN w.params,base:=bh w.params,eX:=d9,kI:=Au,lZ:=wH,B6:=Hb++"<lambda>",rp:=I0++"<lambda>",tabs:=[(295,⟨218,36,0,0⟩,Hb++"<lambda>"),(477,⟨377,39,0,0⟩,I0++"<lambda>")],code:=.none,qual:=Str.ofString "",T:=[],box:=none,rd:=none,cd:=none}
theorem HC(w):ep (gL w):=⟨⟨rfl,rfl,rfl⟩,rfl,rfl,rfl,rfl,rfl,rfl⟩
def HeapOk(w:World)(h:Heap):Prop:=Frag.In (bN w.params) h/\h.get? 295=some (tabObj #[])/\h.get? 477=some (tabObj #[])
def mT(w:World)(l:Addr)(o:Obj):cF:=λx=>if x=l then some o else(bh w.params).get? x
noncomputable def PH:List Nat:=[108,97,119]
theorem Ui(P):gE PH (im (pH P fO 134))=some (.ref 1051):=by kernel_rfl
theorem Es:Jw.row.name=bQ PH:=by kernel_rfl
theorem wI(P):((bN P).lookup 295=none)/\((bN P).lookup 477=none):=⟨by kernel_rfl,by kernel_rfl⟩
theorem Av(h:(bN P).lookup a=none):(bh P).get? a=none:=by cases q:(bh P).get? a with|none=>rfl|some o=>rw[yZ q]at h;exact Oj h
theorem B9(args):Jw.row.toRowW.claim.post args (.bool true) args=true:=by kernel_rfl
theorem PI(h:O 82 [a] g=r):ev T0 O 60 (.ai 104 [.ah 108]) ⟨[(108,a)],none⟩ g=r:=by rw[←h];kernel_rfl
theorem uM{P:Nat->Prop}(h1:P 295)(h2:P 477)(hb:b∈[295,477]):P b:=by
 refine Or.elim (am.mp hb) (λe=>?_) λhb=>?_
 ·rw[e];exact h1
 ·rw[aR.mp hb];exact h2
theorem HD{l:List Int}(vi:dh c F vl (l.map .int))(hvb:dh c' F' vl (.list x::r)):False:=by cases l with|nil=>revert hvb;exact vi.sC λh=>h.MU|cons i l=>revert hvb;refine vi.hG λv vs h z_ hvb=>?_;have h1:=hvb.un.1;refine GH h1.Et λa o vs n e z_=>?_;(clear hvb h1;subst e);exact h.dJ (P:=λv=>v=.ref a->False) (λt e=>nomatch e) rfl
@[elab_as_elim] theorem y0{P:List Value->List Addr->Prop}(hrd:ReadsAllW R cl h ba [.list ds] as)
  (K:∀la o vs n xs,h.get? la=some o->o.cls=.type "list"->o.data=.seq vs n->ReadsAllW R cl h vs.toList ds xs->P [.ref la] ((la::xs)++[])):P ba as:=by
 cases hrd with|cons hr1 hr2=>cases hr2 with|nil=>cases hr1 with|list h1 h2 h3 h4=>exact K _ _ _ _ _ h1 h2 h3 h4
theorem DB{N:Nat}(hN:N<=600)(PL:Op N)(hdef:defOf qv Jw.row.name=some (d,kwd)):WalkO qv lz (λz_ z_=>True) HeapOk Jw.row.toRowW d kwd λf vs=>PySem.call f vs:=by
 refine λw s₀ s mg mb Gr Y a o pm cd doc dV kV ha ho hcr hdf hmg hgens args ba as hpre hlay hrd PJ hsys=>dy Y λK t1 t2=>?_;(clear hlay PJ;(refine aH (Er hpre) λl dN PK=>?_;subst dN));have Dt:=mv (K _ _ (k3 w.params)) (BI w.params);have ZF:=eU Gr.T.g Dt;have hname:=(defOf_name hdef).trans Es;have ea:a=1051:=by rw[ZF,hname,dP,Ui]at hmg;cases hmg;rfl
 (clear hmg;subst ea);refine y0 hrd λla ol vs nn as' hla Pv XI hls=>?_;have lsize:l.length<=1048576:=by exact mE PK rfl
 have PM:(bh w.params).get? la=none:=by cases q:(bh w.params).get? la with|none=>rfl|some o'=>have:=wJ K _ _ q;rw[hla]at this;refine bD this λx=>?_;subst x;exact(j5 q Pv).elim
 have cE:∀b o,mT w la ol b=some o->s.heap.get? b=some o:=λb o e=>by
  unfold mT at e
  split at e
  ·rename_i z;rw[z,hla];exact e
  ·exact wJ K _ _ e
 have ZG:(gL w).mu=[295,477]:=rfl;have y4:∀b,b∈(gL w).mu->s.heap.get? b=some (tabObj #[]):=λb hb=>uM (P:=λb=>s.heap.get? b=some (tabObj #[])) t1 t2 hb;have I:Inv (gL w) (mT w la ol) R3 s:=by
  refine⟨cE,λb o e=>?_,λb hb=>?_,⟨λr d tl nd e=>(aI e),λy d e=>(aI e),λb e=>(by exact aI e),λP p q hq=>?_⟩,by rw[ZG];decide⟩
  ·have e:(bh w.params).get? b=some o:=e;unfold mT;rw[bi (λz=>by rw[z,PM]at e;exact aI e)];exact e
  ·have hb':=y4 b hb;unfold mT;rw[bi (λz=>by rw[z,hla]at hb';(clear hla cE;(refine bD hb' λx=>?_;subst x));cases Pv)];exact uM (P:=λb=>(bh w.params).get? b=none) (Av (wI _).1) (Av (wI _).2) hb
  ·exact⟨#[],y4 P (fZ.mpr (.inr (.inr (.inr (cj (f:=(·.1)) hq))))),.inl rfl⟩
 have V:VM (gL w) (mT w la ol) (.ref la) (.list (l.map .int)):=.list (by unfold mT;exact br rfl) Pv XI (by rw[bg];exact lsize) (l6 hls);have big:(gL w).base.objs.size<=s.heap.objs.size:=by show(bh w.params).objs.size<=_;exact aN ha
 refine vZ PN λc1 c2 c3 c4=>Oc (PL l PK) λcells gr st g g' hgb ZH hex=>?_;have C:=HC w;have FI:=lT (c:=gL w) (fr:=Jx) (r:=cq 1051) C.base HF HG (dv:=[]) (.inl ⟨PO,rfl⟩) (bo _) (λF=>.nil);have C':ep (gx (gL w) 1051):=C.at _ _;refine wpAny_call (LN (c:=gx (gL w) 1051) FI Eu (by decide) (oh c4).1 (oh c4).2 I.at big (.cons V.at .nil) rfl (by decide) λenv s₁ hk I₁ f₁ hL hkp hg ho=>?_);have ok:=th N _ C';have rg:=vW C' N;have hA':cP N (callerA.deeper env):=⟨rfl,by show 301+1+N<=990;exact PP hN,by show 4+3+3*N+61<9900;exact PQ hN⟩;have sn:uA (nH (gx (gL w) 1051) N) (lS 0):=BH (a:=0) (λh=>by cases h);have B5:∀m,ej (nH (gx (gL w) 1051) N) m:=λm=>oH ok rg (λh=>yn h) m;have R1:=bE sn _ _ _ c2;have PR:env.kindOf (bJ 100)=some .local:=by rw[hk,eF];exact nP c1
 have f₁:=f₁;refine wpAny_execs_cons (gT rfl rfl rfl (gW (B5 60 R1 hk hA' (PI ZH) I₁ f₁).1 f₁ λv s2 F2 X2 V2 I2 Y2 f2=>?_));refine sH V2.Et λbx ob vsb nb e9 LO hcb hdb hnb hvb=>?_;(clear V2;subst e9);have Uj:(s.heap.get? bx).isSome=true->False:=λhb=>by
  have e1:(s₁.heap.get? bx).isSome=true:=by refine b0 (bu hb) λo e=>?_;rw[hkp _ _ e];rfl
  have e2:=(X2.low bx e1).symm.trans LO;unfold mT at e2
  split at e2
  ·have e2:=dj e2;rw[←e2,XI]at hdb;injection hdb with hdb
   rw[←hdb]at hvb;exact HD (c:=gL w) (F:=mT w la ol) (l6 hls) hvb
  ·exact j5 e2 hcb
 have PT:(gx (gL w) 1051).base.get? bx=none:=by cases q:(bh w.params).get? bx with|none=>exact q|some o'=>exact(j5 (by rw[←show F2 bx=some o' from I2.base _ _ q,LO]at q;exact q) hcb).elim
 have ZI:bx∉(gx (gL w) 1051).mu:=λhb=>by rw[I2.apart _ hb]at LO;exact aI LO
 have I3:=I2.PU hgb rfl rfl rfl LO hcb hdb hvb PT ZI;have C2:=C'.sJ bx;obtain⟨m,hn,hlo,_⟩:=f2.ns;have PV:bx≠env.locals:=λz=>by rw[z,f2.fN]at LO;exact aI LO
 refine bA (n:=s2.toks) (aD _) (kG rfl f2.kind PR hn λs3 GU o3 Uk=>?_);have rj:=λhm=>by
  have:env.locals=bx∨env.locals∈(gx (gL w) 1051).mu:=by
   refine Or.elim (am.mp (show env.locals∈[bx,295,477]from hm)) (λz=>?_) λz=>?_
   ·exact .inl z
   ·exact .inr z
  exact this.elim (Ne.symm PV) f2.cR
 have XJ:(if env.locals=bx then none else F2 env.locals)=none:=by rw[bi (Ne.symm PV)];exact f2.fN
 have I4:Inv ((gx (gL w) 1051).sJ bx) (λx=>if x=bx then none else F2 x) g s3:=
  I3.kept (λb o e=>o3.keep b o (λz=>by rw[z]at e;rw[XJ]at e;exact aI e) (I3.cE _ _ e)) λb hb o e=>o3.keep b o (λz=>rj (z▸hb)) e
 have f4:ax bJ ((gx (gL w) 1051).sJ bx) env (λx=>if x=bx then none else F2 x) ⟨[(100,.sp 0)],none⟩ s3:=by refine⟨f2.kind,f2.glob,f2.blt,f2.hcode,rj,XJ,f2.above,aB f2.tk Uk,f2.yc,_,GU,λy b hy hky=>?_,λy l e=>by exact aI e⟩;(clear hky;cases aR.mp (kH hy));exact⟨.ref bx,.sp rfl,.inl ⟨PR,br rfl⟩⟩
 have ZJ:uA (nH ((gx (gL w) 1051).sJ bx) N) (lS 0):=BH (a:=0) (λh=>by cases h);have ok2:=th N _ C2;have PW:∀m,ej (nH ((gx (gL w) 1051).sJ bx) N) m:=λm=>oH ok2 (vW C2 N) (λh=>yn h) m;refine aM (yP ok2 (vW C2 N) PW (fh ZJ (wA.drop 1) _ rA c3) hk hA' hex I4 f4 rfl) (λfl s5 p=>?_) λz_ z_ x=>x;obtain⟨v',rfl,F5,Y5,V5,I5⟩:=p;refine V5.Ec ?_;have rl:∀b,(s.heap.get? b).isSome=true->b≠env.locals:=λb hb z=>bc (bw hb) (bO.mpr (z▸hL));have kp:∀b o,b∉(gL w).mu->s.heap.get? b=some o->s5.heap.get? b=some o:=λb o hb e=>by
  have hbs:(s.heap.get? b).isSome=true:=by rw[e];rfl
  refine Y5.keep b o (λhm=>?_) (rl b hbs) (by simp) (o3.keep b o (rl b hbs) (Y2.keep b o hb (rl b hbs) (hkp b o e)));refine Or.elim (am.mp (show b∈[bx,295,477]from hm)) (λz=>?_) λz=>?_
  ·subst z;exact Uj hbs
  ·exact hb z
 have Jy:∀b∈(gL w).mu,isCodeTable s.heap b/\∃ps,s5.heap.get? b=some (tabObj ps):=λb hb=>by have hd:=uM (P:=λb=>∃cA,CodeHd s.heap cA b) ⟨299,codeHd_of_K K (Dw _)⟩ ⟨481,codeHd_of_K K (zF _)⟩ hb;obtain⟨cA,oc,vc,q1,q2,q3,q4,q5,q6,q7,z1,z2,z3,z4,_⟩:=hd;refine⟨⟨cA,oc,vc,z1,z2,z3,z4⟩,?_⟩;(clear z4;obtain⟨⟨P,p,q⟩,hm,rfl⟩:=cI.mp (show b∈(gL w).tabs.map (·.1)from hb));refine aH (I5.d7.tab P p q hm) λps h1 z_=>⟨ps,h1⟩
 refine⟨.inl ⟨_,.bool true,[],rfl,λcls=>rfl,.bool _,B9 _,λz_=>⟨List.nodup_nil,λa ha=>by cases ha⟩⟩,⟨λb o e=>?_,λb o e=>?_⟩,Y5.os.trans (o3.os.trans (Y2.os.trans ho)),.of_eq (Y5.gens.trans (o3.gens.trans (Y2.gens.trans (hg.trans hgens))))⟩
 ·by_cases hb:b∈(gL w).mu
  ·obtain⟨h1,ps,h2⟩:=Jy b hb;have e2:=y4 b hb;rw[e]at e2;refine bD e2 λx=>?_;subst x;refine .inr (.inl ⟨h1,rfl,#[],ps,rfl,?_⟩);rw[h2,Array.empty_append]
  ·exact .inl (kp b o hb e)
 ·by_cases hb:b∈(gL w).mu
  ·obtain⟨_,ps,h2⟩:=Jy b hb;exact⟨_,h2⟩
  ·exact⟨o,kp b o hb e⟩
end
end
section
open PySem
section
inductive FT where
 |ret(v:AV)(g:G)
 |fail
 |call(n k:Nat)(vs:List AV)(g:G)(K:AV->G->FT)
 |need(n b:Nat)(K:FT)
def FT.run:FT->Option (AV×G)
 |.ret v g=>some (v,g)|.fail=>none|.call n k vs g K=>match OO n k vs g with|some (v,g1)=>(K v g1).run|none=>none
 |.need n b K=>match Nat.ble n b with|true=>K.run|false=>none
theorem DM{f:AV->FT}{P:Prop}(k:∀a,o=some a->(f a).run=some y->P)(h:(match(generalizing:=false) o with|some a=>f a|none=>FT.fail).run=some y):P:=by cases o with|none=>exact aI h|some p=>exact k p rfl h
theorem Xg{f:List AV->FT}{P:Prop}(k:∀a,o=some a->(f a).run=some y->P)(h:(match(generalizing:=false) o with|some a=>f a|none=>FT.fail).run=some y):P:=by cases o with|none=>exact aI h|some p=>exact k p rfl h
theorem R7{f:Loc->FT}{P:Prop}(k:∀a,o=some a->(f a).run=some y->P)(h:(match(generalizing:=false) o with|some a=>f a|none=>FT.fail).run=some y):P:=by cases o with|none=>exact aI h|some p=>exact k p rfl h
theorem Xh{f:G->FT}{P:Prop}(k:∀a,o=some a->(f a).run=some y->P)(h:(match(generalizing:=false) o with|some a=>f a|none=>FT.fail).run=some y):P:=by cases o with|none=>exact aI h|some p=>exact k p rfl h
theorem Zi{f:List (List Nat)->FT}{P:Prop}(k:∀a,o=some a->(f a).run=some y->P)(h:(match(generalizing:=false) o with|some a=>f a|none=>FT.fail).run=some y):P:=by cases o with|none=>exact aI h|some p=>exact k p rfl h
theorem Xi{f:Bool->FT}{P:Prop}(k:∀a,o=some a->(f a).run=some y->P)(h:(match(generalizing:=false) o with|some a=>f a|none=>FT.fail).run=some y):P:=by cases o with|none=>exact aI h|some p=>exact k p rfl h
theorem Zj{f:vF->FT}{P:Prop}(k:∀a,o=some a->(f a).run=some y->P)(h:(match(generalizing:=false) o with|some a=>f a|none=>FT.fail).run=some y):P:=by cases o with|none=>exact aI h|some p=>exact k p rfl h
theorem R8{f:Nat->List AV->FT}{P:Prop}(k:∀a b,o=some (a,b)->(f a b).run=some y->P)(h:(match(generalizing:=false) o with|some (a,b)=>f a b|none=>FT.fail).run=some y):P:=by cases o with|none=>exact aI h|some p=>exact k p.1 p.2 rfl h
theorem zV{P:Prop}(k:b=true->x.run=some y->P)(h:(match(generalizing:=false) b with|true=>x|false=>FT.fail).run=some y):P:=by cases b with|false=>exact aI h|true=>exact k rfl h
theorem OE{P:Prop}(k:o=some true->x.run=some y->P)(k':o=some false->z.run=some y->P)(h:(match(generalizing:=false) o with|some true=>x|some false=>z|none=>FT.fail).run=some y):P:=by cases o with|none=>exact aI h|some b=>cases b with|true=>exact k rfl h|false=>exact k' rfl h
theorem Zk{P:Prop}(k:o=some false->x.run=some y->P)(k':o=some true->z.run=some y->P)(h:(match(generalizing:=false) o with|some false=>x|some true=>z|none=>FT.fail).run=some y):P:=by cases o with|none=>exact aI h|some b=>cases b with|true=>exact k' rfl h|false=>exact k rfl h
theorem OG{v:AV}{f:List Nat->FT}{P:Prop}(k:∀s,v=.str s->(f s).run=some y->P)(h:(match(generalizing:=false) v with|.str s=>f s|_=>FT.fail).run=some y):P:=by cases v with|str s=>exact k s rfl h|_=>exact aI h
theorem OH{v:AV}{f:List AV->FT}{P:Prop}(k:∀s,v=.list s->(f s).run=some y->P)(h:(match(generalizing:=false) v with|.list s=>f s|_=>FT.fail).run=some y):P:=by cases v with|list s=>exact k s rfl h|_=>exact aI h
theorem TA{v:AV}{f:Int->FT}{P:Prop}(k:∀s,v=.int s->(f s).run=some y->P)(h:(match(generalizing:=false) v with|.int s=>f s|_=>FT.fail).run=some y):P:=by cases v with|int s=>exact k s rfl h|_=>exact aI h
theorem TB{o:Option AV}{f:Int->FT}{P:Prop}(k:∀s,o=some (.int s)->(f s).run=some y->P)(h:(match(generalizing:=false) o with|some (.int s)=>f s|_=>FT.fail).run=some y):P:=by cases o with|none=>exact aI h|some v=>cases v with|int s=>exact k s rfl h|_=>exact aI h
theorem TC{v:AV}{P:Prop}(k:v=.sp 0->x.run=some y->P)(h:(match(generalizing:=false) v with|.sp 0=>x|_=>FT.fail).run=some y):P:=by
 cases v with
 |sp s=>cases s with|zero=>exact k rfl h|succ n=>exact aI h
 |_=>exact aI h
theorem TD{o:Option (Nat×List AV)}{p:Option AV}{P:Prop}(k:o=none->b=true->p=none->x.run=some y->P)(h:(match(generalizing:=false) o,b,p with|none,true,none=>x|_,_,_=>FT.fail).run=some y):P:=by cases o with|some a=>exact aI h|none=>cases b with|false=>exact aI h|true=>cases p with|some a=>exact aI h|none=>exact k rfl rfl rfl h
abbrev KT:=AV->G->FT
abbrev CQ:=PE->Sg->G->KT->FT
abbrev K4:=Nat->List AV->G->KT->FT
def BV(md:Bool):List Nat->Bool:=match md with|true=>λz_=>true|false=>cB 8388608
noncomputable def zW(md:Bool)(r:AV)(K:FT):FT:=match md with|true=>(match r with|.str l=>.need l.length 8388608 K|_=>K)|false=>K
noncomputable def gd(ih:CQ):List PE->Sg->G->(List AV->G->FT)->FT|[],_,g,k=>k [] g|e::r,σ,g,k=>ih e σ g λv g1=>gd ih r σ g1 λvs g2=>k (v::vs) g2
def ux(ih:CQ):List PE->Sg->G->KT->FT|[],_,_,_=>.fail|e::r,σ,g,k=>ih e σ g λv g1=>match r with|[]=>k v g1|_::_=>match dn v with|some true=>ux ih r σ g1 k|some false=>k v g1|none=>.fail
def zX(ih:CQ):List PE->Sg->G->KT->FT|[],_,_,_=>.fail|e::r,σ,g,k=>ih e σ g λv g1=>match r with|[]=>k v g1|_::_=>match dn v with|some false=>zX ih r σ g1 k|some true=>k v g1|none=>.fail
def uy(ih:CQ):List PE->Sg->G->(Bool->G->FT)->FT|[],_,g,k=>k true g|e::r,σ,g,k=>ih e σ g λv g1=>match dn v with|some true=>uy ih r σ g1 k|some false=>k false g1|none=>.fail
def pK(ih:CQ)(elt:PE)(bI:List Nat)(dB:Bool)(cond:List PE):List AV->Loc->G->(List AV->G->FT)->FT
 |[],_,g,k=>k [] g|v::r,l,g,k=>match jj bI dB v l with
  |some l1=>uy ih cond ⟨l1,none⟩ g λb g1=>match b with|true=>ih elt ⟨l1,none⟩ g1 λx g2=>pK ih elt bI dB cond r l1 g2 λxs g3=>k (x::xs) g3|false=>pK ih elt bI dB cond r l1 g1 k
  |none=>.fail
def uz(O:K4)(f:AV)(vs:List AV)(g:G)(k:KT):FT:=match f with
 |.fn i=>match fX i with|true=>O i vs g k|false=>match s7 i vs with|some v=>k v g|none=>.fail
 |.lam d=>O 800 (.int d::vs) g k|.eD=>O 801 vs g k|_=>.fail
def yA(md:Bool)(s:List Nat)(m:Nat)(vs:List AV)(g:G)(k:KT):FT:=match Nat.beq m 16 with
 |true=>match((one vs).bind λa=>(yB a).bind λc=>sF c s)with|some i=>k (.int i) g|none=>.fail
 |false=>match mD (BV md) m s vs with|some v=>zW md v (k v g)|none=>.fail
def DN(md:Bool)(O:K4)(o:AV)(m:Nat)(vs:List AV)(g:G)(k:KT):FT:=match o with
 |.sp j=>match Nat.beq j 1 with
  |true=>match T0.jB m with|some i=>O i (.sp 1::vs) g k|none=>.fail
  |false=>match Nat.beq j 3 with
   |true=>match Nat.beq m 6 with|true=>O 801 vs g k|false=>match T0.iJ m with|some i=>O i (.sp 3::vs) g k|none=>.fail
   |false=>.fail
 |.str s=>yA md s m vs g k|.dict l=>match Nat.beq m 17 with
  |true=>match qd l vs with|some v=>k v g|none=>.fail
  |false=>.fail
 |_=>.fail
def zY(md:Bool)(O:K4)(ih:CQ):CQ
 |.aq i,_,g,k=>k (.int i) g|.ak l,_,g,k=>k (.str l) g|.ck,_,g,k=>k .none g|.cBool b,_,g,k=>k (.bool b) g|.dx l,_,g,k=>k (.bytes l) g|.ah x,σ,g,k=>match fW x σ.ah with|some v=>k v g|none=>.fail
 |.dD i,_,g,k=>match T0.g6 i with|some v=>k v g|none=>.fail
 |.attr o a,σ,g,k=>ih o σ g λv g1=>match DO g1 v a with|some r=>k r g1|none=>.fail
 |.sub o i,σ,g,k=>ih o σ g λv g1=>ih i σ g1 λj g2=>match Kh g2 v j with|some x=>k x g2|none=>.fail
 |.eC o lo,σ,g,k=>ih o σ g λv g1=>ih lo σ g1 λa g2=>match sD v (some a) none with|some r=>k r g2|none=>.fail
 |.fU o hi,σ,g,k=>ih o σ g λv g1=>ih hi σ g1 λa g2=>match sD v none (some a)with|some r=>k r g2|none=>.fail
 |.jw o lo hi,σ,g,k=>ih o σ g λv g1=>ih lo σ g1 λa g2=>ih hi σ g2 λb g3=>match sD v (some a) (some b)with|some r=>k r g3|none=>.fail
 |.aT es,σ,g,k=>gd ih es σ g λvs g1=>match Nat.ble vs.length 1000 with|true=>k (.aT vs) g1|false=>.fail
 |.lst es,σ,g,k=>gd ih es σ g λvs g1=>match Nat.ble vs.length 1000 with|true=>k (.list vs) g1|false=>.fail
 |.iI l,_,g,k=>k (.dict l) g|.bin op a b,σ,g,k=>ih a σ g λx g1=>ih b σ g1 λy g2=>match v6 (BV md) op x y with|some r=>zW md r (k r g2)|none=>.fail
 |.dE a,σ,g,k=>ih a σ g λx g1=>match dn x with|some b=>k (.bool (!b)) g1|none=>.fail
 |.neg a,σ,g,k=>ih a σ g λx g1=>match x with|.int i=>k (.int (-i)) g1|_=>.fail
 |.dF es,σ,g,k=>ux ih es σ g k|.lM es,σ,g,k=>zX ih es σ g k|.cmp op a b,σ,g,k=>ih a σ g λx g1=>ih b σ g1 λy g2=>match yC op x y with|some r=>k (.bool r) g2|none=>.fail
 |.ite t a b,σ,g,k=>ih t σ g λx g1=>match dn x with|some true=>ih a σ g1 k|some false=>ih b σ g1 k|none=>.fail
 |.ai i args,σ,g,k=>match T0.g6 i with|some f=>gd ih args σ g λvs g1=>uz O f vs g1 k|none=>.fail
 |.dM x args,σ,g,k=>match fW x σ.ah with|some f=>gd ih args σ g λvs g1=>uz O f vs g1 k|none=>.fail
 |.aY o m args,σ,g,k=>ih o σ g λv g1=>gd ih args σ g1 λvs g2=>DN md O v m vs g2 k|.dS o ch y,σ,g,k=>ih o σ g λv g1=>match v with|.str s=>(match cB 500000 s&&cB 10 y&&!fj [ch] y with|true=>k (.str (cT ch y s)) g1|false=>.fail)|_=>.fail
 |.joinR sep x,σ,g,k=>ih sep σ g λv g1=>match v with|.str s=>ih x σ g1 λw g2=>(match w with|.list l=>(match strsOf l.reverse with|some xs=>(match BV md (cN s xs)&&cB 1000 s with|true=>zW md (.str (cN s xs)) (k (.str (cN s xs)) g2)|false=>.fail)|none=>.fail)|_=>.fail)|_=>.fail
 |.comp elt bI dB ik ies cond,σ,g,k=>gd ih ies σ g λvs g1=>match eS ik vs with
  |some items=>match Nat.ble items.length 100000 with|true=>pK ih elt bI dB cond items σ.ah g1 λxs g2=>k (.list xs) g2|false=>.fail
  |none=>.fail
 |.lamD x,σ,g,k=>match fW x σ.ah with|some (.int d)=>k (.lam d) g|_=>.fail
 |.ek x,σ,g,k=>match σ.own with
  |some (y,l)=>match Nat.beq x y with|true=>k (.int l.length) g|false=>.fail
  |none=>.fail
def OI(md:Bool)(O:K4):Nat->CQ|0=>λz_ z_ z_ z_=>.fail|n+1=>zY md O (OI md O n)
abbrev KN:=Sg->G->FT
abbrev K5:=PS->Sg->G->KN->KT->FT
noncomputable def gf(ih:K5):List PS->Sg->G->KN->KT->FT|[],σ,g,kn,_=>kn σ g|s::r,σ,g,kn,kr=>ih s σ g (λσ1 g1=>gf ih r σ1 g1 kn kr) kr
def qD(E:CQ)(ih:K5)(t:PE)(b:List PS):Nat->Sg->G->KN->KT->FT|0,_,_,_,_=>.fail|n+1,σ,g,kn,kr=>E t σ g λx g1=>match dn x with|some true=>gf ih b σ g1 (λσ1 g2=>qD E ih t b n σ1 g2 kn kr) kr|some false=>kn σ g1|none=>.fail
def yD(ih:K5)(bI:List Nat)(dB:Bool)(b:List PS):List AV->Sg->G->KN->KT->FT
 |[],σ,g,kn,_=>kn σ g|v::r,σ,g,kn,kr=>match bI.all (fM σ)with
  |true=>match jj bI dB v σ.ah with|some l1=>gf ih b ⟨l1,σ.own⟩ g (λσ1 g1=>yD ih bI dB b r σ1 g1 kn kr) kr|none=>.fail
  |false=>.fail
noncomputable def Hi(md:Bool)(n:Nat)(K:FT):FT:=match md with|true=>.need n 999999 K|false=>match Nat.ble n 999999 with|true=>K|false=>.fail
def zZ(md:Bool)(W:Nat)(E:CQ)(ih:K5):K5
 |.ca x e,σ,g,kn,_=>E e σ g λv g1=>match fM σ x with|true=>kn ⟨db x v σ.ah,σ.own⟩ g1|false=>.fail
 |.own x es,σ,g,kn,_=>gd E es σ g λvs g1=>match σ.own,Nat.ble vs.length 1000,fW x σ.ah with|none,true,none=>kn ⟨σ.ah,some (x,vs)⟩ g1|_,_,_=>.fail
 |.hY xs e,σ,g,kn,_=>E e σ g λv g1=>match xs.all (fM σ)with
  |true=>match jj xs true v σ.ah with|some l=>kn ⟨l,σ.own⟩ g1|none=>.fail
  |false=>.fail
 |.cZ o a e,σ,g,kn,_=>E e σ g λv g1=>E o σ g1 λov g2=>match DP g2 ov a v with|some g3=>kn σ g3|none=>.fail
 |.setItem o i e,σ,g,kn,_=>E e σ g λv g1=>E o σ g1 λov g2=>match ov with
  |.sp 0=>E i σ g2 λj g3=>match yE g3 j v with|some g4=>kn σ g4|none=>.fail
  |_=>.fail
 |.app x e,σ,g,kn,_=>E e σ g λv g1=>match σ.own with
  |some (y,l)=>match Nat.beq x y with|true=>Hi md l.length (kn ⟨σ.ah,some (y,l++[v])⟩ g1)|false=>.fail
  |none=>.fail
 |.sG x e,σ,g,kn,_=>E e σ g λv g1=>match v with
  |.list vs=>(match σ.own with
   |some (y,l)=>match Nat.beq x y with|true=>Hi md (l.length+vs.length) (kn ⟨σ.ah,some (y,l++vs)⟩ g1)|false=>.fail
   |none=>.fail)
  |_=>.fail
 |.expr e,σ,g,kn,_=>E e σ g λz_ g1=>kn σ g1|.ret e,σ,g,_,kr=>E e σ g kr|.cu t a b,σ,g,kn,kr=>E t σ g λx g1=>match dn x with|some true=>gf ih a σ g1 kn kr|some false=>gf ih b σ g1 kn kr|none=>.fail
 |.dk t b,σ,g,kn,kr=>qD E ih t b W σ g kn kr|.ff bI dB ik ies b,σ,g,kn,kr=>gd E ies σ g λvs g1=>match eS ik vs with
  |some items=>match Nat.ble items.length 100000 with|true=>yD ih bI dB b items σ g1 kn kr|false=>.fail
  |none=>.fail
 |.pA b,σ,g,kn,kr=>gf ih b σ g kn kr|.cw,_,_,_,_=>.fail|.freeze x,σ,g,kn,_=>match σ.own with
  |some (y,l)=>match Nat.beq x y with|true=>kn ⟨db x (.list l) σ.ah,none⟩ g|false=>.fail
  |none=>.fail
def OJ(md:Bool)(W:Nat)(E:CQ):Nat->K5|0=>λz_ z_ z_ z_ z_=>.fail|n+1=>zZ md W E (OJ md W E n)
def DQ(md:Bool)(fr:vF)(O:K4)(vs:List AV)(g:G)(k:KT):FT:=match oM fr.params fr.dflt vs with|some l=>gf (OJ md 5000 (OI md O 60) 30) fr.body ⟨l,none⟩ g (λz_ g'=>k .none g') k|none=>.fail
noncomputable def DR(k:Nat):List Nat->Bool|[]=>false|x::r=>match Nat.beq k x with|true=>true|false=>DR k r
def MX(md:Bool)(S:List Nat):Nat->K4|0=>λz_ z_ z_ z_=>.fail|n+1=>λk vs g K=>match DR k S with|true=>.call (n+1) k vs g K|false=>match yq.get k with|some fr=>DQ md fr (MX md S n) vs g K|none=>.call (n+1) k vs g K
def treeOf(md:Bool)(S:List Nat)(n k:Nat)(vs:List AV)(g:G):FT:=match n with|0=>.fail|n+1=>match yq.get k with|some fr=>DQ md fr (MX md S n) vs g .ret|none=>.fail
end
section
structure rL(x:CR)(c:CQ):Prop where
 it:∀{e:PE} {σ:Sg} {g:G} {k:KT} {r:AV×G},(c e σ g k).run=some r->∃v g1,x e σ g=some (v,g1)/\(k v g1).run=some r
structure Cg(x:By)(c:K4):Prop where
 it:∀{i:Nat} {vs:List AV} {g:G} {k:KT} {r:AV×G},(c i vs g k).run=some r->∃v g1,x i vs g=some (v,g1)/\(k v g1).run=some r
theorem cL{r:AV×G}(h:FT.run .fail=some r):False:=by exact aI h
theorem uY{md}{r}{K}{z:AV×G}(h:(zW md r K).run=some z):K.run=some z/\(md=true->∀l,r=.str l->cB 8388608 l=true):=by cases md with|false=>exact⟨h,λe=>bq e⟩|true=>induction r using AV.casesOn with|str l=>revert h;refine sN λq h=>?_;exact⟨h,λz_ l' e=>by cases e;exact q⟩|_=>exact⟨h,λz_ l' e=>AV.noConfusion e⟩
theorem Ii{md}{op}{x y r}(h:v6 (BV md) op x y=some r)(q:md=true->∀l,r=.str l->cB 8388608 l=true):v6 (cB 8388608) op x y=some r:=by
 cases md with
 |false=>exact h|true=>cases op with
  |Add=>cases x with|str a=>refine aH (a8 h) λb e h=>aG (dX h) λz_ h=>?_;refine bD h λx=>?_;subst x;show((vStr y).bind λb=>grd (cB 8388608 (a++b)) (some (AV.str (a++b))))=_;rw[e];show grd (cB 8388608 (a++b)) (some (AV.str (a++b)))=_;rw[q rfl _ rfl];rfl|_=>exact h
  |_=>exact h
theorem Ch(h:mD (BV md) m s as=some r)(q:md=true->∀l,r=.str l->cB 8388608 l=true):mD (cB 8388608) m s as=some r:=by cases md with|false=>exact h|true=>unfold mD at h ⊢;cases z:Nat.beq m 10 with|false=>rw[z]at h;exact h|true=>rw[z]at h;refine aH (a8 h) λa e1 h=>aH (a8 h) λl e2 h=>aH (a8 h) λxs e3 h=>aG (dX h) λw h=>?_;have w:cB 1000 s=true:=w;refine bD h λx=>?_;subst x;rw[e1];show((jL a).bind λl=>(strsOf l).bind λxs=>grd (cB 8388608 (cN s xs)&&cB 1000 s) (some (AV.str (cN s xs))))=_;rw[e2];show((strsOf l).bind λxs=>grd (cB 8388608 (cN s xs)&&cB 1000 s) (some (AV.str (cN s xs))))=_;rw[e3];show grd (cB 8388608 (cN s xs)&&cB 1000 s) (some (AV.str (cN s xs)))=_;rw[q rfl _ rfl,w];rfl
theorem d0(H:rL x c):∀{es:List PE} {σ:Sg} {g:G} {k:List AV->G->FT} {r:AV×G},(gd c es σ g k).run=some r->∃vs g1,ci x es σ g=some (vs,g1)/\(k vs g1).run=some r|[],σ,g,k,r,h=>⟨[],g,rfl,h⟩|e::t,σ,g,k,r,h=>by refine bU (H.it h) λv g1 e1 h1=>bU (d0 H h1) λvs g2 e2 h2=>⟨v::vs,g2,iE e1 (Ea e2 rfl),h2⟩
theorem tB(H:rL x c):∀{es:List PE} {σ:Sg} {g:G} {k:KT} {r:AV×G},(ux c es σ g k).run=some r->∃v g1,kU x es σ g=some (v,g1)/\(k v g1).run=some r
 |[],σ,g,k,r,h=>(cL h).elim|[e],σ,g,k,r,h=>by refine bU (H.it h) λv g1 e1 h1=>⟨v,g1,iE e1 rfl,h1⟩|e::e'::t,σ,g,k,r,h=>by
  refine bU (H.it h) λv g1 e1 h1=>?_;have h1:(match dn v with|some true=>ux c (e'::t) σ g1 k|some false=>k v g1|none=>.fail).run=some r:=h1;revert h1;refine OE (λq h1=>?_) λq h1=>?_
  ·refine bU (tB H h1) λw g2 e2 h2=>⟨w,g2,iE e1 (MY q e2),h2⟩
  ·exact⟨v,g1,iE e1 (O9 q rfl),h1⟩
theorem wV(H:rL x c):∀{es:List PE} {σ:Sg} {g:G} {k:KT} {r:AV×G},(zX c es σ g k).run=some r->∃v g1,CX x es σ g=some (v,g1)/\(k v g1).run=some r
 |[],σ,g,k,r,h=>(cL h).elim|[e],σ,g,k,r,h=>by refine bU (H.it h) λv g1 e1 h1=>⟨v,g1,iE e1 rfl,h1⟩|e::e'::t,σ,g,k,r,h=>by
  refine bU (H.it h) λv g1 e1 h1=>?_;have h1:(match dn v with|some false=>zX c (e'::t) σ g1 k|some true=>k v g1|none=>.fail).run=some r:=h1;revert h1;refine Zk (λq h1=>?_) λq h1=>?_
  ·refine bU (wV H h1) λw g2 e2 h2=>⟨w,g2,iE e1 (TT q e2),h2⟩
  ·exact⟨v,g1,iE e1 (TS q rfl),h1⟩
theorem rM(H:rL x c):∀{es:List PE} {σ:Sg} {g:G} {k:Bool->G->FT} {r:AV×G},(uy c es σ g k).run=some r->∃b g1,uo x es σ g=some (b,g1)/\(k b g1).run=some r
 |[],σ,g,k,r,h=>⟨true,g,rfl,h⟩|e::t,σ,g,k,r,h=>by
  refine bU (H.it h) λv g1 e1 h1=>?_;revert h1;refine OE (λq h1=>?_) λq h1=>?_
  ·refine bU (rM H h1) λb g2 e2 h2=>⟨b,g2,iE e1 (MY q e2),h2⟩
  ·exact⟨false,g1,iE e1 (O9 q rfl),h1⟩
theorem l9(H:rL x c){cond}:∀{vs:List AV} {l:Loc} {g:G} {k:List AV->G->FT} {r:AV×G},(pK c elt bI dB cond vs l g k).run=some r->
  ∃xs g1,fw x elt bI dB cond σ vs l g=some (xs,g1)/\(k xs g1).run=some r
 |[],l,g,k,r,h=>⟨[],g,rfl,h⟩|v::t,l,g,k,r,h=>by revert h;refine R7 λl1 eb h=>bU (rM H h) λb g1 e1 h1=>?_;cases b with|true=>refine bU (H.it h1) λw g2 e2 h2=>bU (l9 H (σ:=σ) h2) λxs g3 e3 h3=>⟨w::xs,g3,O8 eb (TQ e1 (iE e2 (Ea e3 rfl))),h3⟩|false=>refine bU (l9 H (σ:=σ) h1) λxs g3 e3 h3=>?_;exact⟨xs,g3,O8 eb (TR e1 e3),h3⟩
theorem tC{O}{C}(H:Cg O C){f}{vs}{g}{k}{r:AV×G}(h:(uz C f vs g k).run=some r):∃v g1,jA O f vs g=some (v,g1)/\(k v g1).run=some r:=by
 induction f using AV.casesOn with
 |fn i=>delta uz at h;dsimp only at h;cases q:fX i with|true=>rw[q]at h;refine bU (H.it h) λv g1 e1 h1=>?_;exact⟨v,g1,by delta jA;dsimp only;rw[q];exact e1,h1⟩|false=>rw[q]at h;revert h;refine DM λv e h=>?_;exact⟨v,g,by delta jA;dsimp only;rw[q];dsimp only;rw[e],h⟩
 |lam d=>exact H.it h|eD=>exact H.it h|_=>exact(cL h).elim
theorem Ci{md}{s}{m}{vs}{g}{k}{r:AV×G}(h:(yA md s m vs g k).run=some r):∃v g1,vB T0 s m vs g=some (v,g1)/\(k v g1).run=some r:=by
 unfold yA at h;unfold vB;cases q:Nat.beq m 16 with
 |true=>rw[q]at h;cases e:((one vs).bind λa=>(yB a).bind λc=>sF c s)with|none=>rw[e]at h;exact(cL h).elim|some i=>rw[e]at h;refine aH (a8 e) λa e1 e=>aH (a8 e) λc e2 e=>⟨.int i,g,?_,h⟩;rw[e1];show((yB a).bind λc=>(sF c s).bind λk=>some (AV.int k,g))=_;rw[e2];show((sF c s).bind λk=>some (AV.int k,g))=_;rw[e];rfl
 |false=>rw[q]at h;cases e:mD (BV md) m s vs with|none=>rw[e]at h;exact(cL h).elim|some v=>rw[e]at h;refine aG (uY h) λh1 q=>⟨v,g,?_,h1⟩;rw[show mD T0.lim m s vs=some v from Ch e q];rfl
theorem Cj(H:Cg O C)(h:(DN md C o m vs g k).run=some r):∃v g1,C7 T0 O o m vs g=some (v,g1)/\(k v g1).run=some r:=by
 cases o with
 |sp j=>
  have h:(match Nat.beq j 1 with|true=>(match T0.jB m with|some i=>C i (.sp 1::vs) g k|none=>.fail)|false=>(match Nat.beq j 3 with|true=>(match Nat.beq m 6 with|true=>C 801 vs g k|false=>(match T0.iJ m with|some i=>C i (.sp 3::vs) g k|none=>.fail))|false=>.fail)).run=some r:=h;show ∃v g1,(match Nat.beq j 1 with|true=>(T0.jB m).bind λk=>O k (.sp 1::vs) g|false=>grd (Nat.beq j 3) (match Nat.beq m 6 with|true=>O 801 vs g|false=>(T0.iJ m).bind λk=>O k (.sp 3::vs) g))=some (v,g1)/\(k v g1).run=some r;cases q:Nat.beq j 1 with
  |true=>rw[q]at h;cases e:T0.jB m with|none=>rw[e]at h;exact(cL h).elim|some i=>rw[e]at h;exact H.it h
  |false=>rw[q]at h;cases q3:Nat.beq j 3 with|false=>rw[q3]at h;exact(cL h).elim|true=>rw[q3]at h;cases q6:Nat.beq m 6 with|true=>rw[q6]at h;exact H.it h|false=>rw[q6]at h;cases e:T0.iJ m with|none=>rw[e]at h;exact(cL h).elim|some i=>rw[e]at h;exact H.it h
 |str s=>exact Ci h|dict l=>have h:(match Nat.beq m 17 with|true=>(match qd l vs with|some v=>k v g|none=>.fail)|false=>.fail).run=some r:=h;show ∃v g1,grd (Nat.beq m 17) ((qd l vs).bind λv=>some (v,g))=some (v,g1)/\(k v g1).run=some r;cases q:Nat.beq m 17 with|false=>rw[q]at h;exact(cL h).elim|true=>rw[q]at h;cases e:qd l vs with|none=>rw[e]at h;exact(cL h).elim|some v=>rw[e]at h;exact⟨v,g,rfl,h⟩
 |_=>exact(cL h).elim
end
section
theorem E3(HO:Cg O C)(H:rL x c):rL (dz T0 O x) (zY md C c) where
 it:=by
  intro e σ g k r h;cases e with
  |aq i=>exact⟨_,_,rfl,h⟩|ak l=>exact⟨_,_,rfl,h⟩|ck=>exact⟨_,_,rfl,h⟩|cBool b=>exact⟨_,_,rfl,h⟩|dx l=>exact⟨_,_,rfl,h⟩|ah y=>revert h;refine DM λv e1 h=>⟨v,g,Gs e1 rfl,h⟩|dD y=>revert h;refine DM λv e1 h=>⟨v,g,Gs e1 rfl,h⟩|attr o a=>refine bU (H.it h) λv g1 e1 h1=>?_;revert h1;refine DM λw e2 h1=>⟨w,g1,iE e1 (Gs e2 rfl),h1⟩|sub o i=>refine bU (H.it h) λv g1 e1 h1=>bU (H.it h1) λj g2 e2 h2=>?_;revert h2;refine DM λw e3 h2=>⟨w,g2,iE e1 (iE e2 (Gs e3 rfl)),h2⟩|eC o lo=>refine bU (H.it h) λv g1 e1 h1=>bU (H.it h1) λj g2 e2 h2=>?_;revert h2;refine DM λw e3 h2=>⟨w,g2,iE e1 (iE e2 (Gs e3 rfl)),h2⟩|fU o hi=>refine bU (H.it h) λv g1 e1 h1=>bU (H.it h1) λj g2 e2 h2=>?_;revert h2;refine DM λw e3 h2=>⟨w,g2,iE e1 (iE e2 (Gs e3 rfl)),h2⟩|jw o lo hi=>refine bU (H.it h) λv g1 e1 h1=>bU (H.it h1) λj g2 e2 h2=>bU (H.it h2) λj' g3 e3 h3=>?_;revert h3;refine DM λw e4 h3=>⟨w,g3,iE e1 (iE e2 (iE e3 (Gs e4 rfl))),h3⟩|aT es=>refine bU (d0 H h) λvs g1 e1 h1=>?_;revert h1;refine zV λq h1=>⟨_,g1,Ea e1 (yG q rfl),h1⟩|lst es=>refine bU (d0 H h) λvs g1 e1 h1=>?_;revert h1;refine zV λq h1=>⟨_,g1,Ea e1 (yG q rfl),h1⟩|iI l=>exact⟨_,_,rfl,h⟩|bin op a b=>refine bU (H.it h) λv g1 e1 h1=>bU (H.it h1) λj g2 e2 h2=>?_;revert h2;refine DM λw e3 h2=>aG (uY h2) λh4 q=>?_;have e4:=Ii e3 q;exact⟨w,g2,iE e1 (iE e2 (Gs e4 rfl)),h4⟩|dE a=>refine bU (H.it h) λv g1 e1 h1=>?_;revert h1;refine Xi λw e2 h1=>⟨_,g1,iE e1 (Xu e2 rfl),h1⟩|neg a=>refine bU (H.it h) λv g1 e1 h1=>?_;revert h1;refine TA λi ei h1=>?_;subst ei;exact⟨_,g1,TL e1 rfl,h1⟩|dF es=>exact tB H h|lM es=>exact wV H h|cmp op a b=>refine bU (H.it h) λv g1 e1 h1=>bU (H.it h1) λj g2 e2 h2=>?_;revert h2;refine Xi λw e3 h2=>⟨_,g2,iE e1 (iE e2 (Xu e3 rfl)),h2⟩|ite t a b=>
   refine bU (H.it h) λv g1 e1 h1=>?_;revert h1;refine OE (λe2 h1=>?_) λe2 h1=>?_
   ·refine bU (H.it h1) λw g2 e3 h2=>⟨w,g2,iE e1 (MY e2 e3),h2⟩
   ·refine bU (H.it h1) λw g2 e3 h2=>⟨w,g2,iE e1 (O9 e2 e3),h2⟩
  |ai i args=>revert h;refine DM λf e1 h=>bU (d0 H h) λvs g1 e2 h1=>bU (tC HO h1) λw g2 e3 h2=>⟨w,g2,Gs e1 (Ea e2 e3),h2⟩|dM y args=>revert h;refine DM λf e1 h=>bU (d0 H h) λvs g1 e2 h1=>bU (tC HO h1) λw g2 e3 h2=>⟨w,g2,Gs e1 (Ea e2 e3),h2⟩|aY o m args=>refine bU (H.it h) λv g1 e1 h1=>bU (d0 H h1) λvs g2 e2 h2=>bU (Cj HO h2) λw g3 e3 h3=>⟨w,g3,iE e1 (Ea e2 e3),h3⟩|joinR sep y=>
   refine bU (H.it h) λv g1 e1 h1=>?_;revert h1;refine OG λs es h1=>?_;subst es;refine bU (H.it h1) λw g2 e2 h2=>?_;revert h2;refine OH λl el h2=>?_;subst el;revert h2;refine Zi λxs e3 h2=>?_;revert h2;refine zV λq h2=>aG (uY h2) λh3 q3=>?_;have q4:(T0.lim (cN s xs)&&cB 1000 s)=true:=by refine aG (bk.mp q) λq1 q2=>?_;rw[q2,Bool.and_true];cases md with|false=>exact q1|true=>exact q3 rfl _ rfl
   exact⟨_,g2,Pa e1 (Pb e2 (Zn e3 (yG q4 rfl))),h3⟩
  |dS o ch y=>refine bU (H.it h) λv g1 e1 h1=>?_;revert h1;refine OG λs es h1=>?_;subst es;revert h1;refine zV λq h1=>⟨_,g1,Pa e1 (yG q rfl),h1⟩|comp elt bI dB ik ies cond=>refine bU (d0 H h) λvs g1 e1 h1=>?_;revert h1;refine Xg λitems e2 h1=>?_;revert h1;refine zV λq h1=>bU (l9 H (σ:=σ) h1) λxs g2 e3 h2=>⟨_,g2,Ea e1 (Xs e2 (yG q (Ea e3 rfl))),h2⟩|lamD y=>revert h;refine TB λd e1 h=>⟨_,g,TP e1 rfl,h⟩|ek y=>revert h;refine R8 λy' l e1 h=>?_;revert h;refine zV λq h=>⟨_,g,R9 e1 (yG q rfl),h⟩
theorem uZ(HO:Cg O C):∀n,rL (ev T0 O n) (OI md C n)|0=>⟨λh=>(cL h).elim⟩|n+1=>E3 HO (uZ HO n)
end
section
def Bh(o:Option Out)(kn:KN)(kr:KT)(r:AV×G):Prop:=∃out,o=some out/\(match out with|.next σ g=>(kn σ g).run=some r|.ret v g=>(kr v g).run=some r)
structure Cw(x:Lw)(c:K5):Prop where
 it:∀{s:PS} {σ:Sg} {g:G} {kn:KN} {kr:KT} {r:AV×G},(c s σ g kn kr).run=some r->Bh (x s σ g) kn kr r
theorem d6(H:Cw x c):∀{l:List PS} {σ:Sg} {g:G} {kn:KN} {kr:KT} {r:AV×G},(gf c l σ g kn kr).run=some r->Bh (bm x l σ g) kn kr r
 |[],σ,g,kn,kr,r,h=>⟨.next σ g,rfl,h⟩|s::t,σ,g,kn,kr,r,h=>by
  refine aH (H.it h) λout e h1=>?_;cases out with
  |next σ1 g1=>refine aH (d6 H h1) λFB e2 h2=>⟨FB,Pc e e2,h2⟩
  |ret v g1=>exact⟨.ret v g1,Sa e,h1⟩
theorem ph(HE:rL E EC)(H:Cw x c):∀{n:Nat} {σ:Sg} {g:G} {kn:KN} {kr:KT} {r:AV×G},(qD EC c t b n σ g kn kr).run=some r->Bh (kF E x t b n σ g) kn kr r
 |0,σ,g,kn,kr,r,h=>(cL h).elim|n+1,σ,g,kn,kr,r,h=>by
  refine bU (HE.it h) λv g1 e1 h1=>?_;revert h1;refine OE (λe2 h1=>?_) λe2 h1=>?_
  ·refine aH (d6 H h1) λout e3 h2=>?_;cases out with
   |next σ1 g2=>refine aH (ph HE H h2) λFB e4 h3=>⟨FB,iE e1 (MY e2 (Pc e3 e4)),h3⟩
   |ret v' g2=>exact⟨.ret v' g2,iE e1 (MY e2 (Sa e3)),h2⟩
  ·exact⟨.next σ g1,iE e1 (O9 e2 rfl),h1⟩
theorem tO(H:Cw x c):∀{vs:List AV} {σ:Sg} {g:G} {kn:KN} {kr:KT} {r:AV×G},(yD c bI dB b vs σ g kn kr).run=some r->Bh (jE x bI dB b vs σ g) kn kr r
 |[],σ,g,kn,kr,r,h=>⟨.next σ g,rfl,h⟩|v::t,σ,g,kn,kr,r,h=>by
  revert h;refine zV λq h=>?_;revert h;refine R7 λl1 e1 h=>aH (d6 H h) λout e3 h2=>?_;cases out with
  |next σ1 g2=>refine aH (tO H h2) λFB e4 h3=>⟨FB,yG q (O8 e1 (Pc e3 e4)),h3⟩
  |ret v' g2=>exact⟨.ret v' g2,yG q (O8 e1 (Sa e3)),h2⟩
theorem Bi(h:(Hi md n K).run=some r):K.run=some r/\Nat.blt n 1000000=true:=by
 unfold Hi at h
 split at h
 ·skip;revert h;refine sN λq h=>⟨h,bp (bV (aa q))⟩
 ·revert h;refine zV λq h=>⟨h,bp (bV (aa q))⟩
theorem Cx(HE:rL E EC)(H:Cw x c):Cw (dc W E x) (zZ md W EC c) where
 it:=by
  intro s σ g kn kr r h;cases s with
  |ca y e=>refine bU (HE.it h) λv g1 e1 h1=>?_;revert h1;refine zV λq h1=>⟨_,iE e1 (yG q rfl),h1⟩|own y es=>refine bU (d0 HE h) λvs g1 e1 h1=>?_;revert h1;refine TD λq1 q2 q3 h1=>⟨.next ⟨σ.ah,some (y,vs)⟩ g1,Ea e1 (TN q1 q2 q3 rfl),h1⟩|hY xs e=>refine bU (HE.it h) λv g1 e1 h1=>?_;revert h1;refine zV λq h1=>?_;revert h1;refine R7 λl e2 h1=>⟨_,iE e1 (yG q (O8 e2 rfl)),h1⟩|cZ o a e=>refine bU (HE.it h) λv g1 e1 h1=>bU (HE.it h1) λov g2 e2 h2=>?_;revert h2;refine Xh λg3 e3 h2=>⟨_,iE e1 (iE e2 (Xv e3 rfl)),h2⟩|setItem o i e=>refine bU (HE.it h) λv g1 e1 h1=>bU (HE.it h1) λov g2 e2 h2=>?_;revert h2;refine TC λe0 h2=>?_;subst e0;refine bU (HE.it h2) λj g3 e3 h3=>?_;revert h3;refine Xh λg4 e4 h3=>⟨.next σ g4,iE e1 (TM e2 (iE e3 (Xv e4 rfl))),h3⟩|app y e=>refine bU (HE.it h) λv g1 e1 h1=>?_;revert h1;refine R8 λy' l e2 h1=>?_;revert h1;refine zV λq h1=>aG (Bi h1) λh2 q2=>?_;exact⟨.next ⟨σ.ah,some (y',l++[v])⟩ g1,iE e1 (R9 e2 (yG (by rw[q,q2];rfl) rfl)),h2⟩|sG y e=>refine bU (HE.it h) λv g1 e1 h1=>?_;revert h1;refine OH λvs ev h1=>?_;subst ev;revert h1;refine R8 λy' l e2 h1=>?_;revert h1;refine zV λq h1=>aG (Bi h1) λh2 q2=>?_;exact⟨.next ⟨σ.ah,some (y',l++vs)⟩ g1,Pb e1 (R9 e2 (yG (by rw[q,q2];rfl) rfl)),h2⟩|expr e=>refine bU (HE.it h) λv g1 e1 h1=>⟨_,iE e1 rfl,h1⟩|ret e=>refine bU (HE.it h) λv g1 e1 h1=>⟨.ret v g1,iE e1 rfl,h1⟩|cu t a b=>
   refine bU (HE.it h) λv g1 e1 h1=>?_;revert h1;refine OE (λe2 h1=>?_) λe2 h1=>?_
   ·refine aH (d6 H h1) λout e3 h2=>⟨out,iE e1 (MY e2 e3),h2⟩
   ·refine aH (d6 H h1) λout e3 h2=>⟨out,iE e1 (O9 e2 e3),h2⟩
  |dk t b=>exact ph HE H h|ff bI dB ik ies b=>refine bU (d0 HE h) λvs g1 e1 h1=>?_;revert h1;refine Xg λitems e2 h1=>?_;revert h1;refine zV λq h1=>aH (tO H h1) λout e3 h2=>⟨out,Ea e1 (Xs e2 (yG q e3)),h2⟩|pA b=>exact d6 H h|cw=>exact(cL h).elim|freeze y=>revert h;refine R8 λy' l e1 h=>?_;revert h;refine zV λq h=>⟨_,R9 e1 (yG q rfl),h⟩
theorem u7(HE:rL E EC):∀n,Cw (ex W E n) (OJ md W EC n)|0=>⟨λh=>(cL h).elim⟩|n+1=>Cx HE (u7 HE n)
theorem xp(HO:Cg O C)(h:(DQ md fr C vs g k).run=some r):∃v g1,uw T0 fr O vs g=some (v,g1)/\(k v g1).run=some r:=by
 revert h;refine R7 λl e h=>aH (d6 (u7 (uZ HO 60) 30) h) λout e1 h1=>?_;cases out with
 |next σ g1=>exact⟨.none,g1,by unfold uw;rw[e];dsimp only;rw[e1],h1⟩
 |ret v g1=>exact⟨v,g1,by unfold uw;rw[e];dsimp only;rw[e1],h1⟩
theorem xq(h:(FT.call n k vs g K).run=some r):∃v g1,OO n k vs g=some (v,g1)/\(K v g1).run=some r:=by unfold FT.run at h;revert h;refine iG λv g1 e h=>⟨v,g1,e,h⟩
theorem u8:∀n,Cg (OO n) (MX md S n)
 |0=>⟨λh=>(cL h).elim⟩|n+1=>⟨λ{i vs g k r} h=>by
  unfold MX at h;try dsimp only at h
  split at h
  ·exact xq h
  ·split at h
   ·rename_i fr e;refine bU (xp (u8 n) h) λv g1 e1 h1=>?_;exact⟨v,g1,by unfold OO;(try dsimp only);rw[e];exact e1,h1⟩
   ·exact xq h⟩
theorem FC(h:(treeOf md S n k vs g).run=some r):OO n k vs g=some r:=by
 unfold treeOf at h
 split at h
 ·exact(cL h).elim
 ·revert h;refine Zj λfr e h=>bU (xp (u8 _) h) λv g1 e1 h1=>?_;have h1:some (v,g1)=some r:=h1;rw[←h1];unfold OO;try dsimp only
  rw[e];exact e1
def Ok(n0 k:Nat)(vs:List AV)(g:G)(v:AV)(g1:G):Prop:=∀n,n0<=n->OO n k vs g=some (v,g1)
structure Fact where
 n0:Nat
 k:Nat
 vs:List AV
 g:G
 v:AV
 g1:G
 ok:Ok n0 k vs g v g1
noncomputable abbrev aK(h:Ok n0 k vs g v g1):Fact:=⟨n0,k,vs,g,v,g1,h⟩
abbrev Key:=Nat×List AV×G
noncomputable def Fact.key(f:Fact):Key:=(f.k,f.vs,f.g)
noncomputable def play:FT->List Fact->Option (List Key×List (Nat×Nat)×(AV×G))
 |.ret v g,_=>some ([],[],(v,g))|.fail,_=>none|.call _ _ _ _ _,[]=>none|.call n k vs g K,f::fs=>match Nat.ble f.n0 n with|true=>(match play (K f.v f.g1) fs with|some (ks,ns,r)=>some ((k,vs,g)::ks,ns,r)|none=>none)|false=>none
 |.need n b K,fs=>match play K fs with|some (ks,ns,r)=>some (ks,(n,b)::ns,r)|none=>none
theorem FE{K:AV->G->FT}(e:OO n k vs g=some (v,g1)):(FT.call n k vs g K).run=(K v g1).run:=by
 have h:(FT.call n k vs g K).run=(match OO n k vs g with|some (v,g1)=>(K v g1).run|none=>none):=by kernel_rfl
 rw[h,e]
theorem rT{t:FT}:∀{fs:List Fact} {ks:List Key} {ns:List (Nat×Nat)} {r:AV×G},play t fs=some (ks,ns,r)->(∃more,fs.map Fact.key=ks++more)->(∀l∈ns,l.1<=l.2)->t.run=some r:=by
 induction t with
 |ret v g=>exact λh z_ z_=>congrArg (Option.map λ(x:List Key×List (Nat×Nat)×(AV×G))=>x.2.2) h|fail=>exact λh z_ z_=>aI h|call n k vs g K ih=>
  intro fs;cases fs with
  |nil=>exact λh z_ z_=>aI h|cons f fs=>
   intro ks ns r h hk hn;revert h;refine sN λq h=>?_;cases e:play (K f.v f.g1) fs with
   |none=>rw[e]at h;exact aI h|some p=>
    rw[e]at h;have h:some ((k,vs,g)::p.1,p.2)=some (ks,ns,r):=h;refine fS h λx y=>?_;subst x;refine b0 hk λmore hk=>?_;have h1:f.key=(k,vs,g):=(eO hk).1;have e':OO n k vs g=some (f.v,f.g1):=by rw[←f.ok n (aa q)];exact congrArg (λx:Key=>OO n x.1 x.2.1 x.2.2) h1.symm
    rw[FE e'];exact(ih _ _ (e.trans (congrArg (λx=>some (p.1,x)) y)) ⟨more,(eO hk).2⟩ hn)
 |need n b K ih=>intro fs ks ns r h hk hn;cases e:play K fs with|none=>have h:(match play K fs with|some (ks,ns,r)=>some (ks,(n,b)::ns,r)|none=>none)=some (ks,ns,r):=h;rw[e]at h;exact aI h|some p=>have h:(match play K fs with|some (ks,ns,r)=>some (ks,(n,b)::ns,r)|none=>none)=some (ks,ns,r):=h;rw[e]at h;have h:some (p.1,(n,b)::p.2.1,p.2.2)=some (ks,ns,r):=h;refine fS h λx y=>?_;subst x;refine fS (congrArg some y) λx2 y2=>?_;subst x2 y2;exact yG (bp (hn (n,b) (.head _))) (ih e hk λl' hl'=>hn l' (.tail _ hl'))
theorem Jm(fs:List Fact)(ns:List (Nat×Nat))(hn:∀l∈ns,l.1<=l.2)(h:∀m,play (treeOf md S (m+d) k vs g) fs=some (fs.map Fact.key,ns,(v,g1))):Ok d k vs g v g1:=by intro n hd;obtain⟨m,rfl⟩:∃m,n=m+d:=⟨n-d,by exact WP hd⟩;exact FC (rT (h m) ⟨[],by rw[cz]⟩ hn)
theorem fK(fs:List Fact)(h:∀m,play (treeOf false S (m+d) k vs g) fs=some (fs.map Fact.key,[],(v,g1))):Ok d k vs g v g1:=Jm fs [] (λz_ h=>by cases h) h
theorem Ok.le(h:Ok n0 k vs g v g1)(hn:n0<=n1):Ok n1 k vs g v g1:=λn h'=>h n (aw hn h')
end
section
noncomputable abbrev tW(w:List Nat):AV:=.tok [119,111,114,100] w
noncomputable abbrev tS(w:List Nat):AV:=.tok [115,105,103,110] w
noncomputable abbrev tN(w:List Nat):AV:=.tok [110,117,109,98,101,114] w
noncomputable abbrev tL(w:List Nat):AV:=.tok [108,105,116,101,114,97,108] w
noncomputable abbrev R(ts:List AV)(la:AV)(bx:vx):G:=⟨ts,la,bx,[]⟩
noncomputable def fB:List (List Nat):=[[65],[66,45,49],[73,84,69,77],[88,57],[71,49],[71,50],[73],[80,49],[80,45,50],[83,49],[83,50],[76,65,83,84]]
def tkB(a b:AV):Bool:=match a with|.tok k w=>(match b with|.tok k2 w2=>fj k k2&&fj w w2|_=>false)|_=>false
theorem ya:∀{a b:List Nat},fj a b=true->a=b|[],[],_=>rfl|[],_::_,h=>by exact bq h|_::_,[],h=>by exact bq h|x::r,y::t,h=>by have h:(match Nat.beq x y with|true=>fj r t|false=>false)=true:=h;cases q:Nat.beq x y with|true=>rw[q]at h;rw[aj q,ya h]|false=>rw[q]at h;exact bq h
theorem Kq(h:tkB a b=true):a=b:=by
 cases a with
 |tok k w=>cases b with|tok k2 w2=>have h:(fj k k2&&fj w w2)=true:=h;rw[aV]at h;rw[ya h.1,ya h.2]|_=>exact bq h
 |_=>exact bq h
theorem ij{l:List AV}(h:l.any (tkB x)=true):x∈l:=by refine aH (List.any_eq_true.mp h) λy h1 h2=>?_;rw[Kq h2];exact h1
theorem qg{l:List (List Nat)}(h:l.any (fj x)=true):x∈l:=by refine aH (List.any_eq_true.mp h) λy h1 h2=>?_;rw[ya h2];exact h1
theorem Nh{l m:List AV}(h:(l.all λx=>m.any (tkB x))=true){x}(hx:x∈l):x∈m:=ij (aS.mp h x hx)
theorem Db{l m:List (List Nat)}(h:(l.all λx=>m.any (fj x))=true){x}(hx:x∈l):x∈m:=qg (aS.mp h x hx)
theorem i7{l:List α}(h:l.map f=l.map g):∀a∈l,f a=g a:=List.map_inj_left.mp h
theorem Kr{l:List α}{d}{k:α->Nat}{vs:α->List AV}{g:α->G}{v:α->AV}{g1:α->G}(h:∀m,(l.map λa=>OO (m+d) (k a) (vs a) (g a))=l.map λa=>some (v a,g1 a)):∀a∈l,Ok d (k a) (vs a) (g a) (v a) (g1 a):=λa ha n hd=>by obtain⟨m,rfl⟩:∃m,n=m+d:=⟨n-d,by exact WP hd⟩;exact i7 (h m) a ha
theorem YO{l:List α}(ha:a∈l)(k)(vs)(g:α->G)(v:α->AV)(g1:α->G)(h:∀m,(l.map λa=>OO (m+d) k vs (g a))=l.map λa=>some (v a,g1 a)):Ok d k vs (g a) (v a) (g1 a):=
 Kr (k:=λz_=>k) (vs:=λz_=>vs) h a ha
def cJ(d k:Nat)(vs:List AV)(ts:List AV)(v:AV)(xQ:List AV):Prop:=∀la bx,Ok d k vs (R ts la bx) v (R xQ la bx)
structure sQ where
 n0:Nat
 k:Nat
 vs:List AV
 ts:List AV
 v:AV
 xQ:List AV
 ok:cJ n0 k vs ts v xQ
noncomputable abbrev fR(h:cJ d k vs ts v xQ):sQ:=⟨d,k,vs,ts,v,xQ,h⟩
def sQ.at(la:AV)(bx:vx)(f:sQ):Fact:=⟨f.n0,f.k,f.vs,R f.ts la bx,f.v,R f.xQ la bx,f.ok la bx⟩
theorem okR(S)(fs:List sQ)(h:∀m la bx,play (treeOf false S (m+d) k vs (R ts la bx)) (fs.map (sQ.at la bx))=some ((fs.map (sQ.at la bx)).map Fact.key,[],(v,R xQ la bx))):cJ d k vs ts v xQ:=
 λla bx=>fK (S:=S) _ λm=>h m la bx
theorem qh{l:List α}(ha:a∈l)(k)(vs)(ts:α->List AV)(v:α->AV)(xQ:α->List AV)(h:∀m la bx,(l.map λa=>OO (m+d) k vs (R (ts a) la bx))=l.map λa=>some (v a,R (xQ a) la bx)):cJ d k vs (ts a) (v a) (xQ a):=
 λla bx=>YO ha k vs (λa=>R (ts a) la bx) v (λa=>R (xQ a) la bx) λm=>h m la bx
theorem cJ.le(h:cJ n0 k vs ts v xQ)(hn:n0<=n1):cJ n1 k vs ts v xQ:=λla bx=>(h la bx).le hn
theorem isName(h:w∈fB){ag}:cJ 8 128 [.sp 1] (tW w::ag) (.bool true) (tW w::ag):=
 qh h 128 [.sp 1] (λw=>tW w::ag) (λz_=>.bool true) (λw=>tW w::ag) λm la bx=>by kernel_rfl
theorem ct(h:w∈fB):cJ 9 129 [.sp 1] (tW w::ag) (.str w) ag:=
 okR [128] [fR (isName h (ag:=ag))] λm la bx=>by kernel_rfl
noncomputable def lP:List (List Nat):=[[65],[66,45,49],[73,84,69,77],[88,57]]
noncomputable def sR:List (List Nat):=[[80,49],[80,45,50],[76,65,83,84]]
def GR:List AV:=[tW [70,82,79,77],tW [66,89],tW [85,78,84,73,76],tW [65,70,84,69,82],tW [84,73,77,69,83],tW [73,83],tS [61],tS [60,61],tW [67,79,78,84,73,78,85,69],tW [69,88,73,84],tW [85,83,73,78,71],tW [79,78],tW [78,79,84],tW [69,78,68,45,67,65,76,76],tS [41],tS [58],tW [73],tW [87,73,84,72],tW [84,72,82,85],tW [68,69,80,69,78,68,73,78,71]]++(lP++sR).map tW
inductive gy:List AV->Prop
 |nil:gy []
 |num{w:List Nat}{r:List AV}:gy (tN w::r)
 |cons{t:AV}{r:List AV}(h:t∈GR):gy (t::r)
noncomputable def sg1:AV:=.aT [.str [43],.str [45]]
noncomputable def sg2:AV:=.aT [.str [42],.str [47]]
noncomputable def YQ:AV:=.aT [.str [42,42]]
section
variable{ag:List AV}
theorem lQ{vs}(h:gy ag)(h0:cJ d k vs [] v [])(h2:∀w r,cJ d k vs (tN w::r) v (tN w::r))(h1:∀r m la bx,(GR.map λt=>OO (m+d) k vs (R (t::r) la bx))=GR.map λt=>some (v,R (t::r) la bx)):cJ d k vs ag v ag:=by cases h with|nil=>exact h0|num=>exact h2 _ _|@cons t r h=>exact qh h k vs (λt=>t::r) (λz_=>v) (λt=>t::r) (h1 r)
theorem kv(h:gy ag):cJ 9 127 [.sp 1,.str [79,70,32,73,78]] ag (.str []) ag:=lQ h (okR [] [] λm la bx=>by kernel_rfl) (λw r=>okR [] [] λm la bx=>by kernel_rfl) λr m la bx=>by kernel_rfl
theorem ml(h:gy ag):cJ 8 130 [.sp 1,.str [40]] ag (.bool false) ag:=lQ h (okR [] [] λm la bx=>by kernel_rfl) (λw r=>okR [] [] λm la bx=>by kernel_rfl) λr m la bx=>by kernel_rfl
theorem gZ(h:gy ag):cJ 10 6 [.sp 1] ag (.bool false) ag:=okR [130] [fR (ml h)] λm la bx=>by kernel_rfl
theorem ug(h:gy ag):cJ 8 17 [.sp 1,sg1] ag (.str []) ag:=lQ h (okR [] [] λm la bx=>by kernel_rfl) (λw r=>okR [] [] λm la bx=>by kernel_rfl) λr m la bx=>by kernel_rfl
theorem uh(h:gy ag):cJ 8 17 [.sp 1,sg2] ag (.str []) ag:=lQ h (okR [] [] λm la bx=>by kernel_rfl) (λw r=>okR [] [] λm la bx=>by kernel_rfl) λr m la bx=>by kernel_rfl
theorem uj(h:gy ag):cJ 8 17 [.sp 1,YQ] ag (.str []) ag:=lQ h (okR [] [] λm la bx=>by kernel_rfl) (λw r=>okR [] [] λm la bx=>by kernel_rfl) λr m la bx=>by kernel_rfl
theorem RR:cJ 8 17 [.sp 1,x] (tW w::ag) (.str []) (tW w::ag):=okR [] [] λm la bx=>by kernel_rfl
theorem WQ:cJ 8 17 [.sp 1,x] (tN w::ag) (.str []) (tN w::ag):=okR [] [] λm la bx=>by kernel_rfl
theorem d8:cJ 9 127 [.sp 1,.str [79,70,32,73,78]] (tW [79,70]::ag) (.str [79,70]) ag:=okR [] [] λm la bx=>by kernel_rfl
theorem eR:cJ 9 127 [.sp 1,.str [79,70,32,73,78]] (tS [40]::ag) (.str []) (tS [40]::ag):=okR [] [] λm la bx=>by kernel_rfl
theorem gJ:cJ 8 130 [.sp 1,.str [40]] (tS [40]::ag) (.bool true) (tS [40]::ag):=okR [] [] λm la bx=>by kernel_rfl
theorem Dc(h:cJ n0 18 [.sp 1,.int (d+1)] ts v xQ):cJ (n0+1) 800 [.int d,.sp 1] ts v xQ:=λla bx n hn=>by obtain⟨m,rfl⟩:∃m,n=m+1:=⟨n-1,by exact SP hn⟩;have:=h la bx m (SQ hn);exact this
theorem Ja(hd:d=0∨d=1)(hs:cJ 8 17 [.sp 1,sg1] ts (.str []) ts)(h:cJ 30 23 [.sp 1,.int d] ts v ag)(f:gy ag):cJ 36 18 [.sp 1,.int d] ts v ag:=by(refine Or.elim hd (λoz=>?_) λoz=>?_;(subst oz);rotate_left;(subst oz);rotate_right)<;>exact okR [17,23] [fR hs,fR h,fR (uj f),fR (uh f),fR (ug f)] λm la bx=>by kernel_rfl
theorem Jb(hs:cJ 8 17 [.sp 1,sg1] ts (.str []) ts)(h:cJ 60 23 [.sp 1,.int 0] ts v ag)(f:gy ag):cJ 66 18 [.sp 1,.int 0] ts v ag:=
 okR [17,23] [fR hs,fR h,fR (uj f),fR (uh f),fR (ug f)] λm la bx=>by kernel_rfl
theorem Dd(h:cJ 36 18 [.sp 1,.int 0] ts v ag):cJ 38 16 [.sp 1] ts v ag:=okR [18] [fR h] λm la bx=>by kernel_rfl
theorem yb(h:cJ 66 18 [.sp 1,.int 0] ts v ag):cJ 68 16 [.sp 1] ts v ag:=okR [18] [fR h] λm la bx=>by kernel_rfl
end
end
section
noncomputable def dL:List Nat:=[1,2,3,4,5,6,7,8,9]
abbrev tD(d:Nat):AV:=tN [d+48]
noncomputable def jK(i:Int)(s:Int):AV:=.aT [.str [110,117,109,98,101,114],.aT [.int i,.int s]]
abbrev pq(d:Nat):AV:=jK (.ofNat d) 0
noncomputable def Ik(w:List Nat)(qs:List (List Nat))(s:List AV)(p:AV):AV:=.aT [.str [114,101,102],.str w,.aT (qs.map .str),.aT s,p]
def uu:AV:=Ik [73] [] [] .none
def qT:List (List Nat)->List AV|[]=>[]|q::r=>tW [79,70]::tW q::qT r
theorem Qz:[73]∈fB:=by decide
theorem JU(_:d∈dL):gy (tD d::r):=.num
theorem AU:gy (tW [73]::r):=.cons (ij (by kernel_rfl))
theorem ef:gy (tS [41]::r):=.cons (ij (by kernel_rfl))
theorem kK:gy (tS [58]::r):=.cons (ij (by kernel_rfl))
inductive tH(f:AV):List AV->List AV->List AV->AV->Prop
 |no{ag:List AV}(h:gy ag):tH f ag ag [] .none
 |sub{T ag s:List AV}(a:cJ 14 6 [.sp 1] (tS [40]::T) (.bool false) (tS [40]::T))(b:cJ 45 7 [.sp 1,f] (tS [40]::T) (.aT s) ag)(h:gy ag):tH f (tS [40]::T) ag s .none
 |part{T ag:List AV}{p:AV}(a:cJ 14 6 [.sp 1] (tS [40]::T) (.bool true) (tS [40]::T))(b:cJ 45 8 [.sp 1,f] (tS [40]::T) p ag):tH f (tS [40]::T) ag [] p
 |both{T T2 ag s:List AV}{p:AV}(a:cJ 14 6 [.sp 1] (tS [40]::T) (.bool false) (tS [40]::T))(b:cJ 45 7 [.sp 1,f] (tS [40]::T) (.aT s) T2)(c:cJ 14 6 [.sp 1] T2 (.bool true) T2)(d:cJ 45 8 [.sp 1,f] T2 p ag):tH f (tS [40]::T) ag s p
section
variable{ag:List AV}
inductive Hs:List (List Nat)->Prop
 |q0:Hs []
 |q1{a}(h:a∈fB):Hs [a]
 |q2{a b}(h:a∈fB)(h':b∈fB):Hs [a,b]
theorem ka(hw:w∈fB)(hq:Hs qs)(t:tH f T ag s p):cJ 50 9 [.sp 1,f] (tW w::(qT qs++T)) (Ik w qs s p) ag:=by
 cases t with
 |no h=>cases hq with|q0=>exact okR [129,127,130,6,7,8] [fR (ct hw (ag:=ag)),fR (kv h),fR (ml h),fR (gZ h)] λm la bx=>by kernel_rfl|@q1 a h1=>exact okR [129,127,130,6,7,8] [fR (ct hw (ag:=qT [a]++ag)),fR (d8 (ag:=tW a::ag)),fR (ct h1 (ag:=ag)),fR (kv h),fR (ml h),fR (gZ h)] λm la bx=>by kernel_rfl|@q2 a b h1 h2=>exact okR [129,127,130,6,7,8] [fR (ct hw (ag:=qT [a,b]++ag)),fR (d8 (ag:=tW a::(qT [b]++ag))),fR (ct h1 (ag:=qT [b]++ag)),fR (d8 (ag:=tW b::ag)),fR (ct h2 (ag:=ag)),fR (kv h),fR (ml h),fR (gZ h)] λm la bx=>by kernel_rfl
 |@sub T _ s x y h=>cases hq with|q0=>exact okR [129,127,130,6,7,8] [fR (ct hw (ag:=tS [40]::T)),fR (eR (ag:=T)),fR (gJ (ag:=T)),fR x,fR y,fR (gZ h)] λm la bx=>by kernel_rfl|@q1 a h1=>exact okR [129,127,130,6,7,8] [fR (ct hw (ag:=qT [a]++tS [40]::T)),fR (d8 (ag:=tW a::tS [40]::T)),fR (ct h1 (ag:=tS [40]::T)),fR (eR (ag:=T)),fR (gJ (ag:=T)),fR x,fR y,fR (gZ h)] λm la bx=>by kernel_rfl|@q2 a b h1 h2=>exact okR [129,127,130,6,7,8] [fR (ct hw (ag:=qT [a,b]++tS [40]::T)),fR (d8 (ag:=tW a::(qT [b]++tS [40]::T))),fR (ct h1 (ag:=qT [b]++tS [40]::T)),fR (d8 (ag:=tW b::tS [40]::T)),fR (ct h2 (ag:=tS [40]::T)),fR (eR (ag:=T)),fR (gJ (ag:=T)),fR x,fR y,fR (gZ h)] λm la bx=>by kernel_rfl
 |@part T _ p x y=>cases hq with|q0=>exact okR [129,127,130,6,7,8] [fR (ct hw (ag:=tS [40]::T)),fR (eR (ag:=T)),fR (gJ (ag:=T)),fR x,fR x,fR y] λm la bx=>by kernel_rfl|@q1 a h1=>exact okR [129,127,130,6,7,8] [fR (ct hw (ag:=qT [a]++tS [40]::T)),fR (d8 (ag:=tW a::tS [40]::T)),fR (ct h1 (ag:=tS [40]::T)),fR (eR (ag:=T)),fR (gJ (ag:=T)),fR x,fR x,fR y] λm la bx=>by kernel_rfl|@q2 a b h1 h2=>exact okR [129,127,130,6,7,8] [fR (ct hw (ag:=qT [a,b]++tS [40]::T)),fR (d8 (ag:=tW a::(qT [b]++tS [40]::T))),fR (ct h1 (ag:=qT [b]++tS [40]::T)),fR (d8 (ag:=tW b::tS [40]::T)),fR (ct h2 (ag:=tS [40]::T)),fR (eR (ag:=T)),fR (gJ (ag:=T)),fR x,fR x,fR y] λm la bx=>by kernel_rfl
 |@both T T2 _ s p x y x2 y2=>cases hq with|q0=>exact okR [129,127,130,6,7,8] [fR (ct hw (ag:=tS [40]::T)),fR (eR (ag:=T)),fR (gJ (ag:=T)),fR x,fR y,fR x2,fR y2] λm la bx=>by kernel_rfl|@q1 a h1=>exact okR [129,127,130,6,7,8] [fR (ct hw (ag:=qT [a]++tS [40]::T)),fR (d8 (ag:=tW a::tS [40]::T)),fR (ct h1 (ag:=tS [40]::T)),fR (eR (ag:=T)),fR (gJ (ag:=T)),fR x,fR y,fR x2,fR y2] λm la bx=>by kernel_rfl|@q2 a b h1 h2=>exact okR [129,127,130,6,7,8] [fR (ct hw (ag:=qT [a,b]++tS [40]::T)),fR (d8 (ag:=tW a::(qT [b]++tS [40]::T))),fR (ct h1 (ag:=qT [b]++tS [40]::T)),fR (d8 (ag:=tW b::tS [40]::T)),fR (ct h2 (ag:=tS [40]::T)),fR (eR (ag:=T)),fR (gJ (ag:=T)),fR x,fR y,fR x2,fR y2] λm la bx=>by kernel_rfl
theorem E5(h:d∈dL)(he:e=0∨e=1):cJ 25 23 [.sp 1,.int e] (tD d::ag) (pq d) ag:=by(refine Or.elim he (λoz=>?_) λoz=>?_;(subst oz);rotate_left;(subst oz);rotate_right)<;>exact qh h 23 _ (λd=>tD d::ag) pq (λz_=>ag) λm la bx=>by kernel_rfl
theorem wZ(h:w∈fB):cJ 10 10 [.sp 1] (tW w::ag) .none (tW w::ag):=qh h 10 _ (λw=>tW w::ag) (λz_=>.none) (λw=>tW w::ag) λm la bx=>by kernel_rfl
theorem AW(h:w∈fB):cJ 10 125 [.sp 1,.str [65,76,76]] (tW w::ag) (.bool false) (tW w::ag):=qh h 125 _ (λw=>tW w::ag) (λz_=>.bool false) (λw=>tW w::ag) λm la bx=>by kernel_rfl
theorem Il(hw:w∈fB)(h:cJ 20 9 [.sp 1,f] (tW w::T) v ag):cJ 25 11 [.sp 1,f] (tW w::T) v ag:=
 okR [125,10,9] [fR (AW hw (ag:=T)),fR (wZ hw (ag:=T)),fR h] λm la bx=>by kernel_rfl
theorem zl(hw:w∈fB)(h:cJ 50 9 [.sp 1,f] (tW w::T) v ag):cJ 55 11 [.sp 1,f] (tW w::T) v ag:=
 okR [125,10,9] [fR (AW hw (ag:=T)),fR (wZ hw (ag:=T)),fR h] λm la bx=>by kernel_rfl
theorem Ck(he:e=0∨e=1)(h:cJ 25 11 [.sp 1,.lam e] (tW w::T) v ag):cJ 30 23 [.sp 1,.int e] (tW w::T) v ag:=by(refine Or.elim he (λoz=>?_) λoz=>?_;(subst oz);rotate_left;(subst oz);rotate_right)<;>exact okR [17,11] [fR (RR (w:=w) (ag:=T) (x:=sg1)),fR h] λm la bx=>by kernel_rfl
theorem E7(h:cJ 55 11 [.sp 1,.lam 0] (tW w::T) v ag):cJ 60 23 [.sp 1,.int 0] (tW w::T) v ag:=
 okR [17,11] [fR (RR (w:=w) (ag:=T) (x:=sg1)),fR h] λm la bx=>by kernel_rfl
theorem Cm(hw:w∈fB)(h:gy ag):cJ 20 9 [.sp 1,f] (tW w::ag) (Ik w [] [] .none) ag:=
 okR [129,127,130,6,7,8] [fR (ct hw (ag:=ag)),fR (kv h),fR (ml h),fR (gZ h)] λm la bx=>by kernel_rfl
theorem AX(h:d∈dL)(he:e=0∨e=1)(f:gy ag):cJ 36 18 [.sp 1,.int e] (tD d::ag) (pq d) ag:=Ja he WQ ((E5 h he).le (by decide)) f
theorem AY(he:e=0∨e=1)(f:gy ag):cJ 36 18 [.sp 1,.int e] (tW [73]::ag) uu ag:=Ja he RR (Ck he (Il Qz (Cm Qz f))) f
inductive Mh:AV->Prop
 |e:Mh (.fn 16)
 |l:Mh (.lam 0)
inductive Sub where
 |one(d:Nat)|ind|eY(d:Nat)|xS(d:Nat)
inductive oL where
 |one(d:Nat)|ind(d:Nat)
def Sub.ok:Sub->Prop|.one d=>d∈dL|.ind=>True|.eY d=>d∈dL|.xS d=>d∈dL
def oL.ok:oL->Prop|.one d=>d∈dL|.ind d=>d∈dL
def Sub.v:Sub->List AV|.one d=>[pq d]|.ind=>[uu]|.eY d=>[pq d,uu]|.xS d=>[uu,pq d,uu]
def Sub.T:Sub->List AV->List AV|.one d,r=>tD d::tS [41]::r|.ind,r=>tW [73]::tS [41]::r|.eY d,r=>tD d::tW [73]::tS [41]::r|.xS d,r=>tW [73]::tD d::tW [73]::tS [41]::r
def oL.v:oL->AV|.one d=>.aT [pq d,.none]|.ind d=>.aT [uu,pq d]
def oL.T:oL->List AV->List AV|.one d,r=>tD d::tS [58]::tS [41]::r|.ind d,r=>tW [73]::tS [58]::tD d::tS [41]::r
theorem w0(s:Sub):cJ 14 6 [.sp 1] (tS [40]::s.T ag) (.bool false) (tS [40]::s.T ag):=by cases s<;>exact okR [] [] λm la bx=>by kernel_rfl
theorem w5(p:oL):cJ 14 6 [.sp 1] (tS [40]::p.T ag) (.bool true) (tS [40]::p.T ag):=by cases p<;>exact okR [] [] λm la bx=>by kernel_rfl
theorem E8(h:d∈dL)(f:gy ag):cJ 38 16 [.sp 1] (tD d::ag) (pq d) ag:=Dd (AX h (.inl rfl) f)
theorem E9(h:d∈dL)(f:gy ag):cJ 37 800 [.int 0,.sp 1] (tD d::ag) (pq d) ag:=Dc (AX h (.inr rfl) f)
theorem Fa(f:gy ag):cJ 38 16 [.sp 1] (tW [73]::ag) uu ag:=Dd (AY (.inl rfl) f)
theorem Fb(f:gy ag):cJ 37 800 [.int 0,.sp 1] (tW [73]::ag) uu ag:=Dc (AY (.inr rfl) f)
theorem AZ(hf:Mh f){s:Sub}(hs:s.ok):cJ 45 7 [.sp 1,f] (tS [40]::s.T ag) (.aT s.v) ag:=by
 cases hf with
 |e=>cases s with|one d=>exact okR [16] [fR (E8 (d:=d) hs (ef (r:=ag)))] λm la bx=>by kernel_rfl|ind=>exact okR [16] [fR (Fa (ef (r:=ag)))] λm la bx=>by kernel_rfl|eY d=>exact okR [16] [fR (E8 (d:=d) hs (AU (r:=tS [41]::ag))),fR (Fa (ef (r:=ag)))] λm la bx=>by kernel_rfl|xS d=>exact okR [16] [fR (Fa (JU hs (r:=tW [73]::tS [41]::ag))),fR (E8 (d:=d) hs (AU (r:=tS [41]::ag))),fR (Fa (ef (r:=ag)))] λm la bx=>by kernel_rfl
 |l=>cases s with|one d=>exact okR [16] [fR (E9 (d:=d) hs (ef (r:=ag)))] λm la bx=>by kernel_rfl|ind=>exact okR [16] [fR (Fb (ef (r:=ag)))] λm la bx=>by kernel_rfl|eY d=>exact okR [16] [fR (E9 (d:=d) hs (AU (r:=tS [41]::ag))),fR (Fb (ef (r:=ag)))] λm la bx=>by kernel_rfl|xS d=>exact okR [16] [fR (Fb (JU hs (r:=tW [73]::tS [41]::ag))),fR (E9 (d:=d) hs (AU (r:=tS [41]::ag))),fR (Fb (ef (r:=ag)))] λm la bx=>by kernel_rfl
theorem A0(hf:Mh f){p:oL}(hp:p.ok):cJ 45 8 [.sp 1,f] (tS [40]::p.T ag) p.v ag:=by
 cases hf with
 |e=>cases p with|one d=>exact okR [16] [fR (E8 (d:=d) hp (kK (r:=tS [41]::ag)))] λm la bx=>by kernel_rfl|ind d=>exact okR [16] [fR (Fa (kK (r:=tD d::tS [41]::ag))),fR (E8 (d:=d) hp (ef (r:=ag)))] λm la bx=>by kernel_rfl
 |l=>cases p with|one d=>exact okR [16] [fR (E9 (d:=d) hp (kK (r:=tS [41]::ag)))] λm la bx=>by kernel_rfl|ind d=>exact okR [16] [fR (Fb (kK (r:=tD d::tS [41]::ag))),fR (E9 (d:=d) hp (ef (r:=ag)))] λm la bx=>by kernel_rfl
end
noncomputable def qL:List (List (List Nat)):=[[],[[71,49]],[[71,49],[71,50]]]
theorem Lz(h:qs∈qL):Hs qs:=by
 simp only[qL,am,bW,or_false]at h;rcases h with rfl|rfl|rfl
 ·exact .q0
 ·exact .q1 (qg (by kernel_rfl))
 ·exact .q2 (qg (by kernel_rfl)) (qg (by kernel_rfl))
structure Ref where
 w:List Nat
 qs:List (List Nat)
 s:Option Sub
 p:Option oL
structure Ref.ok(r:Ref):Prop where
 w:r.w∈lP
 q:r.qs∈qL
 s:∀x,r.s=some x->x.ok
 p:∀x,r.p=some x->x.ok
def Ref.v(r:Ref):AV:=Ik r.w r.qs (match r.s with|some s=>s.v|none=>[]) (match r.p with|some p=>p.v|none=>.none)
def yI(p:Option oL)(r:List AV):List AV:=match p with|some p=>tS [40]::p.T r|none=>r
def B0(s:Option Sub)(r:List AV):List AV:=match s with|some s=>tS [40]::s.T r|none=>r
def Ref.T(r:Ref)(ag:List AV):List AV:=tW r.w::(qT r.qs++B0 r.s (yI r.p ag))
theorem Fc(hf:Mh f){r:Ref}(h:r.ok)(fo:gy ag):tH f (B0 r.s (yI r.p ag)) ag (match r.s with|some s=>s.v|none=>[]) (match r.p with|some p=>p.v|none=>.none):=by
 obtain⟨w,qs,s,p⟩:=r;cases s with
 |none=>cases p with|none=>exact .no fo|some p=>exact .part (w5 p) (A0 hf (h.p p rfl))
 |some s=>cases p with|none=>exact .sub (w0 s) (AZ hf (h.s s rfl)) fo|some p=>exact .both (w0 s) (AZ hf (h.s s rfl)) (w5 p) (A0 hf (h.p p rfl))
theorem iS(h:w∈lP):w∈fB:=
 Db (l:=lP) (by kernel_rfl) h
theorem eh(h:w∈sR):w∈fB:=
 Db (l:=sR) (by kernel_rfl) h
theorem qI(hf:Mh f){r:Ref}(h:r.ok)(fo:gy ag):cJ 50 9 [.sp 1,f] (r.T ag) r.v ag:=ka (iS h.w) (Lz h.q) (Fc hf h fo)
theorem qJ(hf:Mh f){r:Ref}(h:r.ok)(fo:gy ag):cJ 55 11 [.sp 1,f] (r.T ag) r.v ag:=zl (iS h.w) (qI hf h fo)
theorem kE{r:Ref}(h:r.ok)(fo:gy ag):cJ 68 16 [.sp 1] (r.T ag) r.v ag:=yb (Jb RR (E7 (qJ .l h fo)) fo)
end
section
noncomputable def DX:List (List Nat×Int×Int):=[([48],0,0),([53],5,0),([51],3,0),([49,46,50,53],125,2),([48,46,53],5,1),([55,48],70,0)]
theorem nU(h:(DX.any λy=>fj y.1 x.1&&(decide (y.2.1=x.2.1)&&decide (y.2.2=x.2.2)))=true):x∈DX:=by obtain⟨⟨a,b,c⟩,h1,h2⟩:=List.any_eq_true.mp h;(clear h;obtain⟨x,y,z⟩:=x);refine aG (bk.mp h2) λh3 h4=>aG (bk.mp h4) λh4 h5=>?_;have h3:a=x:=ya h3;have h4:b=y:=aU h4;have h5:c=z:=aU h5;rw[←h3,←h4,←h5];exact h1
set_option genCtorIdx true in
inductive Num where
 |n0|n5|m3|DY|OU|OV
def Num.v:Num->AV|.n0=>jK 0 0|.n5=>jK 5 0|.m3=>jK (-3) 0|.DY=>jK 125 2|.OU=>jK (-5) 1|.OV=>jK 70 0
def Num.T(x:Num)(r:List AV):List AV:=match x with|.n0=>tN [48]::r|.n5=>tN [53]::r|.m3=>tS [45]::tN [51]::r|.DY=>tN [49,46,50,53]::r|.OU=>tS [45]::tN [48,46,53]::r|.OV=>tN [55,48]::r
section
variable{ag:List AV}
theorem wf(h:x∈DX):cJ 60 23 [.sp 1,.int 0] (tN x.1::ag) (jK x.2.1 x.2.2) ag:=
 qh h 23 _ (λx=>tN x.1::ag) (λx=>jK x.2.1 x.2.2) (λz_=>ag) λm la bx=>by kernel_rfl
theorem DZ(f:gy ag):cJ 8 21 [.sp 1] (tN w::ag) (.bool true) (tN w::ag):=by cases f with|nil=>exact okR [] [] λm la bx=>by kernel_rfl|num=>exact okR [] [] λm la bx=>by kernel_rfl|@cons t r h=>exact qh h 21 _ (λt=>tN w::t::r) (λz_=>.bool true) (λt=>tN w::t::r) λm la bx=>by kernel_rfl
theorem Hl:cJ 8 17 [.sp 1,sg1] (tS [45]::ag) (.str [45]) (tS [45]::ag):=okR [] [] λm la bx=>by kernel_rfl
theorem pL(h:x∈DX)(f:gy ag):cJ 68 16 [.sp 1] (tN x.1::ag) (jK x.2.1 x.2.2) ag:=yb (Jb WQ (wf h) f)
theorem Ad(h:x∈DX)(f:gy ag):cJ 68 16 [.sp 1] (tS [45]::tN x.1::ag) (jK (-x.2.1) x.2.2) ag:=
 yb (okR [17,21,23] [fR (Hl (ag:=tN x.1::ag)),fR (DZ (w:=x.1) f),fR (wf h (ag:=ag)),fR (uj f),fR (uh f),fR (ug f)] λm la bx=>by kernel_rfl)
theorem D0(x:Num)(f:gy ag):cJ 68 16 [.sp 1] (x.T ag) x.v ag:=by cases x with|n0=>exact pL (x:=([48],0,0)) (nU (by kernel_rfl)) f|n5=>exact pL (x:=([53],5,0)) (nU (by kernel_rfl)) f|m3=>exact Ad (x:=([51],3,0)) (nU (by kernel_rfl)) f|DY=>exact pL (x:=([49,46,50,53],125,2)) (nU (by kernel_rfl)) f|OU=>exact Ad (x:=([48,46,53],5,1)) (nU (by kernel_rfl)) f|OV=>exact pL (x:=([55,48],70,0)) (nU (by kernel_rfl)) f
end
inductive pM where
 |ref(r:Ref)|num(n:Num)
def pM.ok:pM->Prop|.ref r=>r.ok|.num _=>True
def pM.v:pM->AV|.ref r=>r.v|.num n=>n.v
def pM.T(o:pM)(r:List AV):List AV:=match o with|.ref x=>x.T r|.num n=>n.T r
theorem D1{o:pM}(h:o.ok)(f:gy ag):cJ 68 16 [.sp 1] (o.T ag) o.v ag:=by cases o with|ref r=>exact kE h f|num n=>exact D0 n f
inductive eu where
 |eq(r:Ref)|cls(r:Ref)|zero(r:Ref)|le(r r2:Ref)
def eu.ok:eu->Prop|.eq r=>r.ok|.cls r=>r.ok|.zero r=>r.ok|.le r r2=>r.ok/\r2.ok
def eu.v:eu->AV|.eq r=>.aT [.str [114,101,108],.str [61],r.v,jK 5 0]|.cls r=>.aT [.str [110,111,116],.aT [.str [99,108,97,115,115],.str [78,85,77,69,82,73,67],r.v]]|.zero r=>.aT [.str [115,105,103,110],.str [90,69,82,79],r.v]|.le r r2=>.aT [.str [114,101,108],.str [60,61],r.v,r2.v]
def eu.T(c:eu)(ag:List AV):List AV:=match c with|.eq r=>r.T (tS [61]::tN [53]::ag)|.cls r=>tW [78,79,84]::r.T (tW [73,83]::tW [78,85,77,69,82,73,67]::ag)|.zero r=>r.T (tW [73,83]::tW [90,69,82,79]::ag)|.le r r2=>r.T (tS [60,61]::r2.T ag)
section
variable{ag:List AV}
theorem Ae(f:gy ag):cJ 10 125 [.sp 1,.str [65,78,68]] ag (.bool false) ag:=lQ f (okR [] [] λm la bx=>by kernel_rfl) (λw r=>okR [] [] λm la bx=>by kernel_rfl) λr m la bx=>by kernel_rfl
theorem Hm(f:gy ag):cJ 10 125 [.sp 1,.str [79,82]] ag (.bool false) ag:=lQ f (okR [] [] λm la bx=>by kernel_rfl) (λw r=>okR [] [] λm la bx=>by kernel_rfl) λr m la bx=>by kernel_rfl
theorem D2:cJ 10 125 [.sp 1,.str [73,83]] (tS x::ag) (.bool false) (tS x::ag):=okR [] [] λm la bx=>by kernel_rfl
theorem Af:cJ 10 125 [.sp 1,.str [78,79,84]] (tS x::ag) (.bool false) (tS x::ag):=okR [] [] λm la bx=>by kernel_rfl
theorem OW:cJ 10 125 [.sp 1,.str [73,83]] (tW [73,83]::ag) (.bool true) ag:=okR [] [] λm la bx=>by kernel_rfl
theorem Li:cJ 10 125 [.sp 1,.str [78,79,84]] (tW [78,85,77,69,82,73,67]::ag) (.bool false) (tW [78,85,77,69,82,73,67]::ag):=okR [] [] λm la bx=>by kernel_rfl
theorem Lj:cJ 10 125 [.sp 1,.str [78,79,84]] (tW [90,69,82,79]::ag) (.bool false) (tW [90,69,82,79]::ag):=okR [] [] λm la bx=>by kernel_rfl
theorem mF:Ok 1 801 [.str a,.aT b] g (.bool false) g:=λn hn=>by obtain⟨m,rfl⟩:∃m,n=m+1:=⟨n-1,by exact DF hn⟩;rfl
theorem Lk:gy (tS [61]::ag):=.cons (ij (by kernel_rfl))
theorem Ll:gy (tS [60,61]::ag):=.cons (ij (by kernel_rfl))
theorem D3:gy (tW [73,83]::ag):=.cons (ij (by kernel_rfl))
theorem D4(h:w∈lP):w=[65]∨w=[66,45,49]∨w=[73,84,69,77]∨w=[88,57]:=by simpa [lP]using h
theorem Hn{c:eu}(h:c.ok)(f:gy ag)(bx):∃Xk,Ok 100 150 [.sp 3] (R (c.T ag) .none bx) c.v (R ag Xk bx):=by
 cases c with
 |eq r=>have e1:=kE h (ag:=tS [61]::tN [53]::ag) Lk;have e2:=D0 .n5 f;have hw:=D4 h.w;obtain⟨w,qs,s,p⟩:=r;refine⟨.aT [Ref.v ⟨w,qs,s,p⟩,.str [61]],?_⟩;refine fK (S:=[16,125]) [aK (e1 .none bx),aK (mF (a:=w) (b:=qs.map .str) (g:=R (tS [61]::tN [53]::ag) .none bx)),aK (D2 (x:=[61]) (ag:=tN [53]::ag) .none bx),aK (Af (x:=[61]) (ag:=tN [53]::ag) .none bx),aK (e2 (.aT [Ref.v ⟨w,qs,s,p⟩,.str [61]]) bx),aK (Ae f (.aT [Ref.v ⟨w,qs,s,p⟩,.str [61]]) bx),aK (Hm f (.aT [Ref.v ⟨w,qs,s,p⟩,.str [61]]) bx)] λm=>?_;rcases hw with q|q|q|q<;>(have q:=q;subst q;kernel_rfl)
 |cls r=>have e1:=kE h (ag:=tW [73,83]::tW [78,85,77,69,82,73,67]::ag) D3;have hw:=D4 h.w;obtain⟨w,qs,s,p⟩:=r;refine⟨.none,?_⟩;refine fK (S:=[16,125]) [aK (e1 .none bx),aK (mF (a:=w) (b:=qs.map .str) (g:=R (tW [73,83]::tW [78,85,77,69,82,73,67]::ag) .none bx)),aK (OW (ag:=tW [78,85,77,69,82,73,67]::ag) .none bx),aK (Li (ag:=ag) .none bx),aK (Ae f .none bx),aK (Hm f .none bx)] λm=>?_;rcases hw with q|q|q|q<;>(have q:=q;subst q;kernel_rfl)
 |zero r=>have e1:=kE h (ag:=tW [73,83]::tW [90,69,82,79]::ag) D3;have hw:=D4 h.w;obtain⟨w,qs,s,p⟩:=r;refine⟨.none,?_⟩;refine fK (S:=[16,125]) [aK (e1 .none bx),aK (mF (a:=w) (b:=qs.map .str) (g:=R (tW [73,83]::tW [90,69,82,79]::ag) .none bx)),aK (OW (ag:=tW [90,69,82,79]::ag) .none bx),aK (Lj (ag:=ag) .none bx),aK (Ae f .none bx),aK (Hm f .none bx)] λm=>?_;rcases hw with q|q|q|q<;>(have q:=q;subst q;kernel_rfl)
 |le r r2=>have e1:=kE h.1 (ag:=tS [60,61]::r2.T ag) Ll;have e2:=kE h.2 f;have hw:=D4 h.1.w;(clear h;obtain⟨w,qs,s,p⟩:=r);refine⟨.aT [Ref.v ⟨w,qs,s,p⟩,.str [60,61]],?_⟩;refine fK (S:=[16,125]) [aK (e1 .none bx),aK (mF (a:=w) (b:=qs.map .str) (g:=R (tS [60,61]::r2.T ag) .none bx)),aK (D2 (x:=[60,61]) (ag:=r2.T ag) .none bx),aK (Af (x:=[60,61]) (ag:=r2.T ag) .none bx),aK (e2 (.aT [Ref.v ⟨w,qs,s,p⟩,.str [60,61]]) bx),aK (Ae f (.aT [Ref.v ⟨w,qs,s,p⟩,.str [60,61]]) bx),aK (Hm f (.aT [Ref.v ⟨w,qs,s,p⟩,.str [60,61]]) bx)] λm=>?_;rcases hw with q|q|q|q<;>(have q:=q;subst q;kernel_rfl)
end
end
section
theorem iR{r:Ref}(h:r.ok):cS r.v=true:=by
 obtain⟨w,qs,s,p⟩:=r;have hq:Hs qs:=Lz h.q;induction hq using Hs.casesOn<;>cases s with
 |none=>cases p with|none=>rfl|some p=>cases p<;>rfl
 |some s=>cases s<;>(cases p with|none=>rfl|some p=>cases p<;>rfl)
theorem yH{c:eu}(h:c.ok):cS c.v=true:=by cases c with|eq r=>show(cS r.v&&_)=true;rw[iR h];rfl|cls r=>show(cS r.v&&_&&_)=true;rw[iR h];rfl|zero r=>show(cS r.v&&_)=true;rw[iR h];rfl|le r r2=>show(cS r.v&&(cS r2.v&&_))=true;rw[iR h.1,iR h.2];rfl
theorem Ak{c:eu}(h:c.ok)(f:gy ag):cJ 101 101 [.sp 1] (c.T ag) c.v ag:=λla bx n hn=>by obtain⟨m,rfl⟩:∃m,n=m+1:=⟨n-1,by exact Pe hn⟩;refine b0 (Hn h f bx) λXk e=>?_;have e:=e m (Pf hn);show((OO m 150 [.sp 3] (R (c.T ag) .none bx)).bind λq=>grd (cS q.1) (some (q.1,{q.2 with last:=la})))=_;rw[e];show grd (cS c.v) (some (c.v,R ag la bx))=_;rw[yH h];rfl
structure Row where
 r:Ref
 a:pM
 b:pM
 c:eu
structure Row.ok(x:Row):Prop where
 r:x.r.ok
 a:x.a.ok
 b:x.b.ok
 c:x.c.ok
def Row.v(x:Row):AV:=.aT [x.r.v,x.a.v,x.b.v,x.c.v]
def Row.T(x:Row)(ag:List AV):List AV:=x.r.T (tW [70,82,79,77]::x.a.T (tW [66,89]::x.b.T (tW [85,78,84,73,76]::x.c.T ag)))
theorem jl(h:tW w∈GR):gy (tW w::r):=.cons h
theorem nV{x:Row}(h:x.ok)(f:gy ag):cJ 110 60 [.sp 1] (x.T ag) x.v ag:=
 okR [9,16] [fR (qI .e h.r (ag:=tW [70,82,79,77]::x.a.T (tW [66,89]::x.b.T (tW [85,78,84,73,76]::x.c.T ag))) (jl (ij (by kernel_rfl)))),fR (D1 h.a (ag:=tW [66,89]::x.b.T (tW [85,78,84,73,76]::x.c.T ag)) (jl (ij (by kernel_rfl)))),
  fR (D1 h.b (ag:=tW [85,78,84,73,76]::x.c.T ag) (jl (ij (by kernel_rfl)))),fR (Ak h.c f)] λm la bx=>by kernel_rfl
inductive wi:List AV->Prop
 |nil:wi []
 |cont{r}:wi (tW [67,79,78,84,73,78,85,69]::r)
 |exit{r}:wi (tW [69,88,73,84]::r)
theorem wi.CS(h:wi r):gy r:=by cases h with|nil=>exact .nil|cont=>exact jl (ij (by kernel_rfl))|exit=>exact jl (ij (by kernel_rfl))
inductive Loop where
 |once
 |fy(r:Ref)
 |fz(k:Nat)
 |xT(af:Bool)(c:eu)
 |kP(af:Bool)(x:Row)
 |kQ(af:Bool)(x y:Row)
 |kR(af:Bool)(x y z:Row)
noncomputable def jM:List Nat:=(List.range 90).map (3+·)
def Loop.ok:Loop->Prop|.once=>True|.fy r=>r.ok|.fz k=>k∈jM|.xT _ c=>c.ok|.kP _ x=>x.ok|.kQ _ x y=>x.ok/\y.ok|.kR _ x y z=>x.ok/\y.ok/\z.ok
def Loop.v:Loop->AV|.once=>.aT [.str [111,110,99,101]]|.fy r=>.aT [.str [116,105,109,101,115],r.v]|.fz k=>.aT [.str [116,105,109,101,115],jK (.ofNat k) 0]|.xT b c=>.aT [.str [117,110,116,105,108],.bool b,c.v]|.kP b x=>.aT [.str [118,97,114,121,105,110,103],.bool b,.aT [x.v]]|.kQ b x y=>.aT [.str [118,97,114,121,105,110,103],.bool b,.aT [x.v,y.v]]|.kR b x y z=>.aT [.str [118,97,114,121,105,110,103],.bool b,.aT [x.v,y.v,z.v]]
def eI(b:Bool)(r:List AV):List AV:=tW [87,73,84,72]::tW [84,69,83,84]::tW (match b with|true=>[65,70,84,69,82]|false=>[66,69,70,79,82,69])::r
def Loop.T(l:Loop)(ag:List AV):List AV:=match l with|.once=>ag|.fy r=>r.T (tW [84,73,77,69,83]::ag)|.fz k=>tN (digits k)::tW [84,73,77,69,83]::ag|.xT b c=>eI b (tW [85,78,84,73,76]::c.T ag)|.kP b x=>eI b (tW [86,65,82,89,73,78,71]::x.T ag)|.kQ b x y=>eI b (tW [86,65,82,89,73,78,71]::x.T (tW [65,70,84,69,82]::y.T ag))|.kR b x y z=>eI b (tW [86,65,82,89,73,78,71]::x.T (tW [65,70,84,69,82]::y.T (tW [65,70,84,69,82]::z.T ag)))
section
variable{ag:List AV}
theorem tc{r:Ref}(h:r.ok):cJ 60 59 [.sp 1] (r.T (tW [84,73,77,69,83]::ag)) r.v ag:=
 okR [128,11] [fR (isName (iS h.w) (ag:=qT r.qs++B0 r.s (yI r.p (tW [84,73,77,69,83]::ag)))),fR (qJ .e h (ag:=tW [84,73,77,69,83]::ag) (jl (ij (by kernel_rfl))))] λm la bx=>by kernel_rfl
theorem B1(h:k∈jM):cJ 40 59 [.sp 1] (tN (digits k)::tW [84,73,77,69,83]::ag) (jK (.ofNat k) 0) ag:=
 qh h 59 _ (λk=>tN (digits k)::tW [84,73,77,69,83]::ag) (λk=>jK (.ofNat k) 0) (λz_=>ag) λm la bx=>by kernel_rfl
theorem B2(h:wi ag):cJ 30 59 [.sp 1] ag .none ag:=by cases h<;>exact okR [] [] λm la bx=>by kernel_rfl
theorem qK:gy (tW [65,70,84,69,82]::r):=jl (ij (by kernel_rfl))
theorem Al{l:Loop}(h:l.ok)(f:wi ag):cJ 120 61 [.sp 1] (l.T ag) l.v ag:=by
 cases l with
 |once=>have e:=B2 f;cases f<;>exact okR [59] [fR e] λm la bx=>by kernel_rfl|fy r=>have e:=tc h (ag:=ag);have hw:=D4 h.w;obtain⟨w,qs,s,p⟩:=r;refine okR [59] [fR e] λm la bx=>?_;rcases hw with q|q|q|q<;>(have q:=q;subst q;kernel_rfl)
 |fz k=>exact okR [59] [fR (B1 h (ag:=ag))] λm la bx=>by kernel_rfl|xT b c=>cases b<;>exact okR [] [fR (Ak h f.CS)] λm la bx=>by kernel_rfl|kP b x=>have e:=nV h f.CS;cases b<;>cases f<;>exact okR [60] [fR e] λm la bx=>by kernel_rfl|kQ b x y=>have e1:=nV h.1 (ag:=tW [65,70,84,69,82]::y.T ag) qK;have e2:=nV h.2 f.CS;cases b<;>cases f<;>exact okR [60] [fR e1,fR e2] λm la bx=>by kernel_rfl|kR b x y z=>have e1:=nV h.1 (ag:=tW [65,70,84,69,82]::y.T (tW [65,70,84,69,82]::z.T ag)) qK;have e2:=nV h.2.1 (ag:=tW [65,70,84,69,82]::z.T ag) qK;have e3:=nV h.2.2 f.CS;(clear h;cases b)<;>cases f<;>exact okR [60] [fR e1,fR e2,fR e3] λm la bx=>by kernel_rfl
end
end
section
structure Pr where
 w:List Nat
 q:Option (List Nat)
noncomputable def IR:List (List Nat):=[[83,49],[83,50]]
noncomputable def JH:Pr:=⟨[80,49],none⟩
noncomputable def JI:Pr:=⟨[80,45,50],some [83,49]⟩
noncomputable def JJ:Pr:=⟨[76,65,83,84],none⟩
noncomputable def JK:Pr:=⟨[80,49],some [83,50]⟩
def CU:List Pr:=[JH,JI,JJ,JK]
def zc:List (Pr×Pr):=[(JH,JI),(JH,JJ),(JH,JK),(JI,JH),(JI,JJ),(JI,JK),(JJ,JH),(JJ,JI),(JJ,JK),(JK,JH),(JK,JI),(JK,JJ)]
def zd(p q:Pr):Bool:=fj p.w q.w&&(match p.q with|some a=>(match q.q with|some b=>fj a b|none=>false)|none=>(match q.q with|some _=>false|none=>true))
theorem pR(h:zd p q=true):p=q:=by
 obtain⟨w,a⟩:=p;obtain⟨w',b⟩:=q;refine aG (bk.mp h) λh1 h2=>?_;have h1:w=w':=ya h1;(clear h;subst h1);cases a with
 |none=>cases b with|none=>rfl|some b=>exact bq h2
 |some a=>cases b with|none=>exact bq h2|some b=>have h2:=ya h2;rw[h2]
theorem tr{l:List Pr}(h:(l.any λx=>zd x p)=true):p∈l:=by refine aH (List.any_eq_true.mp h) λx h1 h2=>?_;rw[←pR h2];exact h1
def Pr.ok(p:Pr):Prop:=p∈CU
theorem Pr.ok.w{p:Pr}(h:p.ok):p.w∈sR:=
 qg (aS.mp (show(CU.all λp=>sR.any (fj p.w))=true by kernel_rfl) p h)
theorem Pr.ok.q{p:Pr}(h:p.ok):∀x,p.q=some x->x∈IR:=by intro x e;have z:=aS.mp (show(CU.all λp=>match p.q with|some q=>IR.any (fj q)|none=>true)=true by kernel_rfl) p h;rw[e]at z;exact qg z
theorem oA(h:(p,q)∈zc):p.ok/\q.ok:=by have z:=aS.mp (show(zc.all λx=>(CU.any λy=>zd y x.1)&&CU.any λy=>zd y x.2)=true by kernel_rfl) (p,q) h;refine aG (bk.mp z) λh1 h2=>?_;exact⟨tr h1,tr h2⟩
noncomputable def Pr.v(p:Pr):AV:=.aT [.str p.w,.str (match p.q with|some q=>q|none=>[])]
def Pr.T(p:Pr)(ag:List AV):List AV:=tW p.w::(match p.q with|some q=>tW [79,70]::tW q::ag|none=>ag)
theorem xD(h:w∈IR):w∈fB:=
 Db (l:=IR) (by kernel_rfl) h
def M1:List AV:=[tW [84,72,82,85],tW [87,73,84,72],tW [68,69,80,69,78,68,73,78,71]]++(lP++sR).map tW
inductive PF:List AV->Prop
 |nil:PF []
 |num{w:List Nat}{r:List AV}:PF (tN w::r)
 |cons{t:AV}{r:List AV}(h:t∈M1):PF (t::r)
section
variable{ag:List AV}
theorem PF.CS(h:PF ag):gy ag:=by cases h with|nil=>exact .nil|num=>exact .num|@cons t r h=>refine .cons<|Nh (l:=M1) (by kernel_rfl) h
theorem Gc(h:PF ag)(h0:cJ d k vs [] v [])(h2:∀w r,cJ d k vs (tN w::r) v (tN w::r))(h1:∀r m la bx,(M1.map λt=>OO (m+d) k vs (R (t::r) la bx))=M1.map λt=>some (v,R (t::r) la bx)):cJ d k vs ag v ag:=by cases h with|nil=>exact h0|num=>exact h2 _ _|@cons t r h=>exact qh h k vs (λt=>t::r) (λz_=>v) (λt=>t::r) (h1 r)
theorem WB(h:PF ag):cJ 10 125 [.sp 1,.str [73,78]] ag (.bool false) ag:=Gc h (okR [] [] λm la bx=>by kernel_rfl) (λw r=>okR [] [] λm la bx=>by kernel_rfl) λr m la bx=>by kernel_rfl
theorem WC(h:PF ag):cJ 10 125 [.sp 1,.str [79,70]] ag (.bool false) ag:=Gc h (okR [] [] λm la bx=>by kernel_rfl) (λw r=>okR [] [] λm la bx=>by kernel_rfl) λr m la bx=>by kernel_rfl
theorem Bp(h:PF ag):cJ 10 125 [.sp 1,.str [84,73,77,69,83]] ag (.bool false) ag:=Gc h (okR [] [] λm la bx=>by kernel_rfl) (λw r=>okR [] [] λm la bx=>by kernel_rfl) λr m la bx=>by kernel_rfl
theorem WD:cJ 10 125 [.sp 1,.str [73,78]] (tW [79,70]::ag) (.bool false) (tW [79,70]::ag):=okR [] [] λm la bx=>by kernel_rfl
theorem WE:cJ 10 125 [.sp 1,.str [79,70]] (tW [79,70]::ag) (.bool true) ag:=okR [] [] λm la bx=>by kernel_rfl
theorem gj{p:Pr}(h:p.ok)(f:PF ag):cJ 20 57 [.sp 1] (p.T ag) p.v ag:=by obtain⟨w,q⟩:=p;cases q with|none=>exact okR [129,125] [fR (ct (eh h.w) (ag:=ag)),fR (WB f),fR (WC f)] λm la bx=>by kernel_rfl|some q=>exact okR [129,125] [fR (ct (eh h.w) (ag:=tW [79,70]::tW q::ag)),fR (WD (ag:=tW q::ag)),fR (WE (ag:=tW q::ag)),fR (ct (xD (h.q q rfl)) (ag:=ag))] λm la bx=>by kernel_rfl
theorem zr{p:Pr}(h:p.ok)(f:PF ag):cJ 60 59 [.sp 1] (p.T ag) .none (p.T ag):=by obtain⟨w,q⟩:=p;cases q with|none=>exact okR [128,11,125] [fR (isName (eh h.w) (ag:=ag)),fR (zl (f:=.fn 16) (eh h.w) (ka (eh h.w) .q0 (.no f.CS))),fR (Bp f)] λm la bx=>by kernel_rfl|some q=>exact okR [128,11,125] [fR (isName (eh h.w) (ag:=tW [79,70]::tW q::ag)),fR (zl (f:=.fn 16) (eh h.w) (ka (eh h.w) (.q1 (xD (h.q q rfl))) (.no f.CS))),fR (Bp f)] λm la bx=>by kernel_rfl
theorem m9{p:Pr}(h:p.ok)(f:PF ag):cJ 65 62 [.sp 1] (p.T ag) (.bool true) (p.T ag):=
 okR [128,59] [fR (isName (eh h.w) (ag:=(p.T ag).tail)),fR (zr h f)] λm la bx=>by kernel_rfl
end
inductive sv where
 |one(p:Pr)|two(p q:Pr)
def sv.ok:sv->Prop|.one p=>p.ok|.two p q=>(p,q)∈zc
noncomputable def sv.first:sv->Pr|.one p=>p|.two p _=>p
noncomputable def sv.last:sv->Pr|.one p=>p|.two _ q=>q
def sv.T(r:sv)(ag:List AV):List AV:=match r with|.one p=>p.T ag|.two p q=>p.T (tW [84,72,82,85]::q.T ag)
inductive RF:List AV->Prop
 |nil:RF []
 |num{w:List Nat}{r:List AV}:RF (tN w::r)
 |eI{r:List AV}:RF (tW [87,73,84,72]::r)
 |ref{w:List Nat}{r:List AV}(h:w∈lP):RF (tW w::r)
section
variable{ag:List AV}
theorem RF.pf(h:RF ag):PF ag:=by cases h with|nil=>exact .nil|num=>exact .num|eI=>exact .cons (ij (by kernel_rfl))|ref h=>exact .cons (by simp[M1,h])
theorem Gd:PF (tW [84,72,82,85]::r):=.cons (ij (by kernel_rfl))
theorem MH(h:RF ag):cJ 10 125 [.sp 1,.str [84,72,82,85]] ag (.bool false) ag:=by cases h with|@ref w r h=>exact qh h 125 _ (λw=>tW w::r) (λz_=>.bool false) (λw=>tW w::r) λm la bx=>by kernel_rfl|_=>exact okR [] [] λm la bx=>by kernel_rfl
theorem CD(h:RF ag):cJ 10 125 [.sp 1,.str [84,72,82,79,85,71,72]] ag (.bool false) ag:=by cases h with|@ref w r h=>exact qh h 125 _ (λw=>tW w::r) (λz_=>.bool false) (λw=>tW w::r) λm la bx=>by kernel_rfl|_=>exact okR [] [] λm la bx=>by kernel_rfl
theorem RG:cJ 10 125 [.sp 1,.str [84,72,82,85]] (tW [84,72,82,85]::ag) (.bool true) ag:=okR [] [] λm la bx=>by kernel_rfl
theorem Ge{r:sv}(h:r.ok)(f:RF ag):cJ 30 58 [.sp 1] (r.T ag) (.aT [r.first.v,r.last.v]) ag:=by cases r with|one p=>exact okR [57,125] [fR (gj h f.pf),fR (MH f),fR (CD f)] λm la bx=>by kernel_rfl|two p q=>exact okR [57,125] [fR (gj (oA h).1 (ag:=tW [84,72,82,85]::q.T ag) Gd),fR (RG (ag:=q.T ag)),fR (gj (oA h).2 f.pf)] λm la bx=>by kernel_rfl
theorem xE{r:sv}(h:r.ok)(f:RF ag):cJ 65 62 [.sp 1] (r.T ag) (.bool true) (r.T ag):=by cases r with|one p=>exact m9 h f.pf|two p q=>exact m9 (oA h).1 Gd
theorem Bq{l:Loop}(h:l.ok):RF (l.T []):=by cases l with|once=>exact .nil|fy r=>exact .ref h.w|fz k=>exact .num|xT b c=>exact .eI|kP b x=>exact .eI|kQ b x y=>exact .eI|kR b x y z=>exact .eI
end
set_option genCtorIdx true in
inductive rI where
 |ce|Sj|e|ec
noncomputable def rI.v:rI->AV|.ce=>.aT [.aT [.str [99,111,110,116,105,110,117,101]],.aT [.str [101,120,105,116]]]|.Sj=>.aT [.aT [.str [99,111,110,116,105,110,117,101]],.aT [.str [101,120,105,116]],.aT [.str [99,111,110,116,105,110,117,101]]]|.e=>.aT [.aT [.str [101,120,105,116]]]|.ec=>.aT [.aT [.str [101,120,105,116]],.aT [.str [99,111,110,116,105,110,117,101]]]
def rI.T(b:rI)(r:List AV):List AV:=match b with|.ce=>tW [67,79,78,84,73,78,85,69]::tW [69,88,73,84]::r|.Sj=>tW [67,79,78,84,73,78,85,69]::tW [69,88,73,84]::tW [67,79,78,84,73,78,85,69]::r|.e=>tW [69,88,73,84]::r|.ec=>tW [69,88,73,84]::tW [67,79,78,84,73,78,85,69]::r
theorem rI.WF(b:rI):wi (b.T r):=by
 cases b
 ·exact .cont
 ·exact .cont
 ·exact .exit
 ·exact .exit
inductive BF:List AV->Prop
 |perf:BF [tW [69,78,68,45,80,69,82,70,79,82,77]]
 |not{r:List AV}:BF (tW [78,79,84]::r)
 |call:BF [tW [69,78,68,45,67,65,76,76]]
section
variable{ag:List AV}
theorem nc{b:rI}(f:BF ag):cJ 30 54 [.sp 1,.fn 74] (b.T ag) b.v ag:=by cases f<;>cases b<;>exact okR [] [] λm la bx=>by kernel_rfl
theorem vj{l:Loop}(h:l.ok){b:rI}:cJ 65 62 [.sp 1] (l.T (b.T ag)) (.bool false) (l.T (b.T ag)):=by cases l with|once=>cases b<;>exact okR [] [] λm la bx=>by kernel_rfl|fy r=>exact okR [128,59] [fR (isName (iS h.w) (ag:=(r.T (tW [84,73,77,69,83]::b.T ag)).tail)),fR (tc h (ag:=b.T ag))] λm la bx=>by kernel_rfl|fz k=>exact okR [] [] λm la bx=>by kernel_rfl|xT b c=>exact okR [] [] λm la bx=>by kernel_rfl|kP b x=>exact okR [] [] λm la bx=>by kernel_rfl|kQ b x y=>exact okR [] [] λm la bx=>by kernel_rfl|kR b x y z=>exact okR [] [] λm la bx=>by kernel_rfl
end
inductive Goal where
 |rng(r:sv)|JL(b:rI)
def Goal.ok:Goal->Prop|.rng r=>r.ok|.JL _=>True
structure wN where
 g:Goal
 l:Loop
def wN.v(x:wN):AV:=.aT [.str [112,101,114,102,111,114,109],match x.g with|.rng r=>.aT [.str [114,97,110,103,101],r.first.v,r.last.v]|.JL b=>.aT [.str [98,111,100,121],b.v],x.l.v]
def wN.T(x:wN):List AV:=tW [80,69,82,70,79,82,77]::(match x.g with|.rng r=>r.T (x.l.T [])|.JL b=>x.l.T (b.T [tW [69,78,68,45,80,69,82,70,79,82,77]]))
theorem IE{x:wN}(hg:x.g.ok)(hl:x.l.ok):cJ 130 63 [.sp 1,.fn 74] x.T x.v []:=by obtain⟨g,l⟩:=x;cases g with|rng r=>exact okR [62,58,61] [fR (xE hg (Bq hl)),fR (Ge hg (Bq hl)),fR (Al hl .nil)] λm la bx=>by kernel_rfl|JL b=>exact okR [62,61,54] [fR (vj hl (b:=b) (ag:=[tW [69,78,68,45,80,69,82,70,79,82,77]])),fR (Al hl (b.WF (r:=[tW [69,78,68,45,80,69,82,70,79,82,77]]))),fR (nc (b:=b) .perf)] λm la bx=>by kernel_rfl
end
section
section
variable{ag:List AV}
theorem vq:cJ 9 128 [.sp 1] (tW [68,69,80,69,78,68,73,78,71]::ag) (.bool false) (tW [68,69,80,69,78,68,73,78,71]::ag):=okR [] [] λm la bx=>by kernel_rfl
theorem Gh:PF (tW [68,69,80,69,78,68,73,78,71]::ag):=.cons (ij (by kernel_rfl))
theorem zw{p:Pr}(h:p.ok):PF (p.T ag):=.cons (by simp[M1,h.w])
theorem vv{p:Pr}(h:p.ok):cJ 8 128 [.sp 1] (p.T ag) (.bool true) (p.T ag):=isName (eh h.w) (ag:=(p.T ag).tail)
end
inductive Gp where
 |go(p:Pr)
 |d1(p:Pr)(r:Ref)
 |d2(p q:Pr)(r:Ref)
 |d3(p q s:Pr)(r:Ref)
def Gp.ok:Gp->Prop|.go p=>p.ok|.d1 p r=>p.ok/\r.ok|.d2 p q r=>p.ok/\q.ok/\r.ok|.d3 p q s r=>p.ok/\q.ok/\s.ok/\r.ok
def Gp.v:Gp->AV|.go p=>.aT [.str [103,111,116,111],p.v]|.d1 p r=>.aT [.str [103,111,116,111,45,100,101,112],.aT [p.v],r.v]|.d2 p q r=>.aT [.str [103,111,116,111,45,100,101,112],.aT [p.v,q.v],r.v]|.d3 p q s r=>.aT [.str [103,111,116,111,45,100,101,112],.aT [p.v,q.v,s.v],r.v]
def pC(r:Ref):List AV:=tW [68,69,80,69,78,68,73,78,71]::tW [79,78]::r.T []
def Gp.T:Gp->List AV|.go p=>tW [71,79]::tW [84,79]::p.T []|.d1 p r=>tW [71,79]::tW [84,79]::p.T (pC r)|.d2 p q r=>tW [71,79]::tW [84,79]::p.T (q.T (pC r))|.d3 p q s r=>tW [71,79]::tW [84,79]::p.T (q.T (s.T (pC r)))
theorem IG{x:Gp}(h:x.ok):cJ 80 64 [.sp 1,.fn 74] x.T x.v []:=by
 cases x with
 |go p=>exact okR [57,9] [fR (gj h .nil)] λm la bx=>by kernel_rfl|d1 p r=>exact okR [57,128,9] [fR (gj h.1 (ag:=pC r) Gh),fR (vq (ag:=tW [79,78]::r.T [])),fR (qI .e h.2 .nil)] λm la bx=>by kernel_rfl|d2 p q r=>exact okR [57,128,9] [fR (gj h.1 (ag:=q.T (pC r)) (zw h.2.1)),fR (vv h.2.1 (ag:=pC r)),fR (gj h.2.1 (ag:=pC r) Gh),fR (vq (ag:=tW [79,78]::r.T [])),fR (qI .e h.2.2 .nil)] λm la bx=>by kernel_rfl
 |d3 p q s r=>exact okR [57,128,9] [fR (gj h.1 (ag:=q.T (s.T (pC r))) (zw h.2.1)),fR (vv h.2.1 (ag:=s.T (pC r))),fR (gj h.2.1 (ag:=s.T (pC r)) (zw h.2.2.1)),fR (vv h.2.2.1 (ag:=pC r)),fR (gj h.2.2.1 (ag:=pC r) Gh),
   fR (vq (ag:=tW [79,78]::r.T [])),fR (qI .e h.2.2.2 .nil)] λm la bx=>by kernel_rfl
inductive pn where
 |ref(r:Ref)|ab|x|three|zero|RW
def pn.ok(o:pn):Prop:=pn.casesOn o (λr=>r.ok) True True True True True
def pn.v:pn->AV|.ref r=>r.v|.ab=>.aT [.str [116,101,120,116],.bytes [65,66]]|.x=>.aT [.str [116,101,120,116],.bytes [120]]|.three=>.aT [.str [116,101,120,116],.bytes [51]]|.zero=>.aT [.str [116,101,120,116],.bytes [122,101,114,111]]|.RW=>.aT [.str [102,105,103,117,114,101],.str [90,69,82,79]]
def pn.T(o:pn)(r:List AV):List AV:=match o with|.ref rr=>rr.T r|.ab=>tL [65,66]::r|.x=>tL [120]::r|.three=>tL [51]::r|.zero=>tL [122,101,114,111]::r|.RW=>tW [90,69,82,79]::r
section
variable{ag:List AV}
theorem kq{o:pn}(h:o.ok)(f:gy ag):cJ 55 11 [.sp 1,.fn 16] (o.T ag) o.v ag:=by cases o with|ref r=>exact qJ .e h f|_=>exact okR [] [] λm la bx=>by kernel_rfl
theorem gV{o:pn}(h:o.ok):cJ 14 56 [.sp 1] (o.T ag) (.bool true) (o.T ag):=by cases o with|ref r=>exact okR [128] [fR (isName (iS h.w) (ag:=(r.T ag).tail))] λm la bx=>by kernel_rfl|_=>exact okR [] [] λm la bx=>by kernel_rfl
inductive CF:List AV->Prop
 |on{r:List AV}:CF (tW [79,78]::r)
 |not{r:List AV}:CF (tW [78,79,84]::r)
 |call:CF [tW [69,78,68,45,67,65,76,76]]
theorem CF.CS(h:CF ag):gy ag:=by
 cases h
 ·exact jl (ij (by kernel_rfl))
 ·exact jl (ij (by kernel_rfl))
 ·exact jl (ij (by kernel_rfl))
theorem RH:gy (tW [66,89]::r):=jl (ij (by kernel_rfl))
theorem Gi:gy (tW [85,83,73,78,71]::r):=jl (ij (by kernel_rfl))
theorem Gj:cJ 14 56 [.sp 1] (tW [66,89]::ag) (.bool false) (tW [66,89]::ag):=okR [] [] λm la bx=>by kernel_rfl
theorem sg(h:CF ag):cJ 14 56 [.sp 1] ag (.bool false) ag:=by cases h<;>exact okR [] [] λm la bx=>by kernel_rfl
end
inductive Arg where
 |ref(r:Ref)|con(o:pn)
def Arg.ok:Arg->Prop|.ref r=>r.ok|.con o=>o.ok
noncomputable def Arg.op:Arg->pn|.ref r=>.ref r|.con o=>o
theorem Arg.sA{a:Arg}(h:a.ok):a.op.ok:=by cases a<;>exact h
def Arg.v:Arg->AV|.ref r=>.aT [.str [114,101,102,101,114,101,110,99,101],r.v]|.con o=>.aT [.str [99,111,110,116,101,110,116],o.v]
def Arg.T(a:Arg)(ag:List AV):List AV:=match a with|.ref r=>tW [66,89]::tW [82,69,70,69,82,69,78,67,69]::r.T ag|.con o=>tW [66,89]::tW [67,79,78,84,69,78,84]::o.T ag
inductive Args where
 |a1(a:Arg)|a2(a b:Arg)|a3(a b c:Arg)
def Args.ok:Args->Prop|.a1 a=>a.ok|.a2 a b=>a.ok/\b.ok|.a3 a b c=>a.ok/\b.ok/\c.ok
def Args.l:Args->List AV|.a1 a=>[a.v]|.a2 a b=>[a.v,b.v]|.a3 a b c=>[a.v,b.v,c.v]
def Args.T(x:Args)(ag:List AV):List AV:=match x with|.a1 a=>a.T ag|.a2 a b=>a.T (b.T ag)|.a3 a b c=>a.T (b.T (c.T ag))
section
variable{ag:List AV}
theorem zx{a:Arg}:gy (a.T ag):=by cases a<;>exact RH
theorem oF{a:Arg}:cJ 14 56 [.sp 1] (a.T ag) (.bool false) (a.T ag):=by cases a<;>exact Gj
theorem IV{x:Args}(h:x.ok)(f:CF ag):cJ 70 66 [.sp 1] (x.T ag) (.aT x.l) ag:=by cases x with|a1 a=>have e:=kq (Arg.sA h) f.CS;have b:=gV (Arg.sA h) (ag:=ag);have z:=sg f;cases a<;>cases f<;>exact okR [56,11] [fR b,fR e,fR z] λm la bx=>by kernel_rfl|a2 a a'=>have e:=kq (Arg.sA h.1) (ag:=a'.T ag) zx;have b:=gV (Arg.sA h.1) (ag:=a'.T ag);have y:=oF (a:=a') (ag:=ag);have e':=kq (Arg.sA h.2) f.CS;have b':=gV (Arg.sA h.2) (ag:=ag);have z:=sg f;cases a<;>cases a'<;>cases f<;>exact okR [56,11] [fR b,fR e,fR y,fR b',fR e',fR z] λm la bx=>by kernel_rfl|a3 a a' a2=>have e:=kq (Arg.sA h.1) (ag:=a'.T (a2.T ag)) zx;have b:=gV (Arg.sA h.1) (ag:=a'.T (a2.T ag));have y:=oF (a:=a') (ag:=a2.T ag);have e':=kq (Arg.sA h.2.1) (ag:=a2.T ag) zx;have b':=gV (Arg.sA h.2.1) (ag:=a2.T ag);have y':=oF (a:=a2) (ag:=ag);have e2:=kq (Arg.sA h.2.2) f.CS;have b2:=gV (Arg.sA h.2.2) (ag:=ag);have z:=sg f;(clear h;cases a)<;>cases a'<;>cases a2<;>cases f<;>exact okR [56,11] [fR b,fR e,fR y,fR b',fR e',fR y',fR b2,fR e2,fR z] λm la bx=>by kernel_rfl
end
structure pG where
 a:Option rI
 b:Option rI
def pG.l(x:pG):List AV:=(match x.a with|some b=>[.aT [.str [102,97,117,108,116],b.v]]|none=>[])++(match x.b with|some b=>[.aT [.str [110,111,116,32,102,97,117,108,116],b.v]]|none=>[])
def pG.T2(b:Option rI):List AV:=match b with|some b=>tW [78,79,84]::tW [79,78]::tW [69,88,67,69,80,84,73,79,78]::b.T [tW [69,78,68,45,67,65,76,76]]|none=>[tW [69,78,68,45,67,65,76,76]]
def pG.T(x:pG):List AV:=match x.a with|some a=>tW [79,78]::tW [69,88,67,69,80,84,73,79,78]::a.T (T2 x.b)|none=>T2 x.b
noncomputable def RJ:AV:=.aT [.str [102,97,117,108,116],.str [110,111,116,32,102,97,117,108,116]]
theorem Gk(x:pG):cJ 40 55 [.sp 1,.fn 74,RJ] x.T (.aT x.l) [tW [69,78,68,45,67,65,76,76]]:=by
 obtain⟨a,b⟩:=x;cases a with
 |none=>cases b with|none=>exact okR [] [] λm la bx=>by kernel_rfl|some b=>exact okR [54] [fR (nc (b:=b) .call)] λm la bx=>by kernel_rfl
 |some a=>cases b with|none=>exact okR [54] [fR (nc (b:=a) .call)] λm la bx=>by kernel_rfl|some b=>exact okR [54] [fR (nc (b:=a) (ag:=pG.T2 (some b)) .not),fR (nc (b:=b) .call)] λm la bx=>by kernel_rfl
theorem Gl(x:pG):CF x.T:=by
 obtain⟨a,b⟩:=x;cases a with
 |none=>cases b with|none=>exact .call|some b=>exact .not
 |some a=>exact .on
structure CP where
 o:pn
 a:Option Args
 b:pG
structure CP.ok(x:CP):Prop where
 o:x.o.ok
 a:∀y,x.a=some y->y.ok
def CP.v(x:CP):AV:=.aT [.str [99,97,108,108],x.o.v,.aT (match x.a with|some a=>a.l|none=>[]),.aT x.b.l]
def CP.T(x:CP):List AV:=tW [67,65,76,76]::x.o.T (match x.a with|some a=>tW [85,83,73,78,71]::a.T x.b.T|none=>x.b.T)
theorem IH{x:CP}(h:x.ok):cJ 90 67 [.sp 1,.fn 74] x.T x.v []:=by obtain⟨o,a,b⟩:=x;cases a with|some a=>exact okR [11,66,55] [fR (kq h.o (ag:=tW [85,83,73,78,71]::a.T b.T) Gi),fR (IV (h.a a rfl) (Gl b)),fR (Gk b)] λm la bx=>by kernel_rfl|none=>have e:=kq h.o (Gl b).CS;have e2:=Gk b;(clear h;obtain⟨p,q⟩:=b);cases p<;>cases q<;>exact okR [11,66,55] [fR e,fR e2] λm la bx=>by kernel_rfl
end
section
def Rk:List (List Nat):=fB++[[79,70],[70,82,79,77],[66,89],[85,78,84,73,76],[65,70,84,69,82],[84,73,77,69,83],[73,83],[78,79,84],[78,85,77,69,82,73,67],[90,69,82,79],[87,73,84,72],[84,69,83,84],[66,69,70,79,82,69],[86,65,82,89,73,78,71],[67,79,78,84,73,78,85,69],[69,88,73,84],[80,69,82,70,79,82,77],[69,78,68,45,80,69,82,70,79,82,77],[71,79],[84,79],[84,72,82,85],[68,69,80,69,78,68,73,78,71],[79,78],[67,65,76,76],[85,83,73,78,71],
 [82,69,70,69,82,69,78,67,69],[67,79,78,84,69,78,84],[69,88,67,69,80,84,73,79,78],[69,78,68,45,67,65,76,76]]
def sM:List (List Nat×List AV):=[([],[]),([45,51],[tS [45],tN [51]]),([45,48,46,53],[tS [45],tN [48,46,53]]),([34,65,66,34],[tL [65,66]]),([34,120,34],[tL [120]]),([34,51,34],[tL [51]]),([34,122,101,114,111,34],[tL [122,101,114,111]])]++[[40],[41],[58],[61],[60,61]].map (λw=>(w,[tS w]))++
 Rk.map (λw=>(w,[tW w]))++([[48],[49,46,50,53]]++(List.range 92).map λk=>digits (k+1)).map λw=>(w,[tN w])
def gN(w:List Nat):List (List Nat×List AV)->Option (List AV)|[]=>none|p::r=>match fj p.1 w with|true=>some p.2|false=>gN w r
def ew:List (List Nat)->Option (List AV)|[]=>some []|w::r=>match gN w sM with|some a=>(match ew r with|some b=>some (a++b)|none=>none)|none=>none
def wordsOf(t:List Nat):List (List Nat):=bT 32 (cT 41 [32,41,32] (cT 40 [32,40,32] t))
def bR(t:List Nat)(ts:List AV):Prop:=ew (wordsOf t)=some ts
theorem mc{P:Prop}(h:ew (w::r)=some x)(k:∀a z,gN w sM=some a->ew r=some z->a++z=x->P):P:=by have h:(match gN w sM with|some a=>(match ew r with|some b=>some (a++b)|none=>none)|none=>none)=some x:=h;cases e:gN w sM with|none=>rw[e]at h;exact aI h|some a=>rw[e]at h;cases e2:ew r with|none=>rw[e2]at h;exact aI h|some z=>rw[e2]at h;exact k a z e e2 (dj h)
theorem rR:∀{a b:List (List Nat)} {x y:List AV},ew a=some x->ew b=some y->ew (a++b)=some (x++y)|[],b,x,y,h,h'=>by(refine bD h λx=>?_;subst x);exact h'|w::r,b,x,y,h,h'=>mc h λa z e e2 e3=>by subst e3;show(match gN w sM with|some a=>(match ew (r++b)with|some b=>some (a++b)|none=>none)|none=>none)=_;rw[e,rR e2 h',ay]
theorem rS(c:Nat)(y:List Nat):∀a b:List Nat,cT c y (a++b)=cT c y a++cT c y b|[],b=>rfl|x::r,b=>by have ih:=rS c y r b;show(match Nat.beq x c with|true=>y++cT c y (r++b)|false=>x::cT c y (r++b))=(match Nat.beq x c with|true=>y++cT c y r|false=>x::cT c y r)++cT c y b;rw[ih];cases Nat.beq x c with|true=>exact(ay ..).symm|false=>rfl
theorem Fi(c:Nat):∀l:List Nat,bT c l≠[]|[]=>List.cons_ne_nil _ _|x::r=>by show(match Nat.beq x c with|true=>[]::bT c r|false=>match bT c r with|[]=>[[x]]|h::t=>(x::h)::t)≠[];cases Nat.beq x c with|true=>exact List.cons_ne_nil _ _|false=>cases bT c r with|nil=>exact List.cons_ne_nil _ _|cons h t=>exact List.cons_ne_nil _ _
theorem tJ(c:Nat):∀a b:List Nat,bT c (a++c::b)=bT c a++bT c b|[],b=>by show(match Nat.beq c c with|true=>[]::bT c b|false=>match bT c b with|[]=>[[c]]|h::t=>(c::h)::t)=[[]]++bT c b;rw[Nat.beq_refl];rfl|x::r,b=>by have ih:=tJ c r b;show(match Nat.beq x c with|true=>[]::bT c (r++c::b)|false=>match bT c (r++c::b)with|[]=>[[x]]|h::t=>(x::h)::t)=(match Nat.beq x c with|true=>[]::bT c r|false=>match bT c r with|[]=>[[x]]|h::t=>(x::h)::t)++bT c b;rw[ih];cases Nat.beq x c with|true=>rfl|false=>cases e:bT c r with|nil=>exact bc e (Fi c r)|cons h t=>rfl
theorem Fj(a b):wordsOf (a++32::b)=wordsOf a++wordsOf b:=by unfold wordsOf;rw[rS,rS];exact tJ 32 _ _
theorem bR.sp(h:bR a x)(h':bR b y):bR (a++32::b) (x++y):=by unfold bR;rw[Fj];exact rR h h'
theorem kc(c)(y)(hy:y.length=3):∀a:List Nat,(cT c y a).length<=3*a.length|[]=>bo _|x::r=>by have ih:=kc c y hy r;show(match Nat.beq x c with|true=>y++cT c y r|false=>x::cT c y r).length<=_;cases Nat.beq x c with|true=>show(y++cT c y r).length<=_;rw[ae,hy,ac];exact QX ih|false=>exact QY ih
theorem split_len(c:Nat):∀a:List Nat,(bT c a).length<=a.length+1|[]=>aD 1|x::r=>by have ih:=split_len c r;show(match Nat.beq x c with|true=>[]::bT c r|false=>match bT c r with|[]=>[[x]]|h::t=>(x::h)::t).length<=_;cases Nat.beq x c with|true=>exact bV ih|false=>cases e:bT c r with|nil=>exact bV (bo _)|cons h t=>rw[e]at ih;exact Nat.le_succ_of_le ih
def fQ:List PS:=match fP with|[_,.ff _ _ _ _ b,_,_]=>b|_=>[]
noncomputable def A3(acc a:List AV):List AV:=match a with|[]=>acc|_::_=>acc++a
noncomputable def zm(σ:Sg):AV:=.aT [match σ.own with|some (y,l)=>.aT [.int (.ofNat y),.list l]|none=>.none,.list (σ.ah.map λp=>.aT [.int (.ofNat p.1),p.2])]
theorem Fk(h:zm σ=zm σ'):σ=σ':=by
 obtain⟨l,o⟩:=σ;obtain⟨l',o'⟩:=σ';unfold zm at h;simp only[AV.aT.injEq,List.cons.injEq,AV.list.injEq,cr]at h;refine aG h λh1 h2=>?_;have e1:o=o':=by
  cases o with
  |none=>cases o' with|none=>rfl|some p=>exact AV.noConfusion h1
  |some p=>cases o' with|none=>exact AV.noConfusion h1|some p'=>obtain⟨y,a⟩:=p;obtain⟨y',a'⟩:=p';simp only[AV.aT.injEq,List.cons.injEq,AV.int.injEq,bj,Int.natCast_inj,AV.list.injEq,cr]at h1;rw[h1.1,h1.2]
 have e2:l=l':=by
  have key:∀(l l':Loc),(l.map λp=>AV.aT [.int (.ofNat p.1),p.2])=(l'.map λp=>AV.aT [.int (.ofNat p.1),p.2])->l=l':=by
   intro l;induction l with
   |nil=>intro l' h;cases l' with|nil=>rfl|cons p r=>cases h
   |cons p r ih=>intro l' h;cases l' with|nil=>cases h|cons p' r'=>rw[aC,aC,List.cons.injEq]at h;refine aG h λh1 h2=>?_;simp only[AV.aT.injEq,List.cons.injEq,AV.int.injEq,bj,Int.natCast_inj,cr]at h1;rw[ih _ h2,Prod.ext h1.1 h1.2]
  exact key _ _ h2
 rw[e1,e2]
theorem A4:Ok 1 100 [.str k,.str w] g (.tok k w) g:=λn hn=>by obtain⟨m,rfl⟩:∃m,n=m+1:=⟨n-1,by exact DF hn⟩;rfl
def A5(g:G)(a:AV):Fact:=match a with|.tok k w=>aK (A4 (k:=k) (w:=w) (g:=g))|_=>aK (A4 (k:=[]) (w:=[]) (g:=g))
noncomputable def JV(acc ts:List AV):List (Nat×Nat):=match ts with|[]=>[]|[_]=>[(acc.length,999999)]|a::b::_=>[(acc.length+[a,b].length,999999)]
def Iq(m:Nat)(t:List Nat)(acc:List AV)(g:G)(w:List Nat):FT:=gf (OJ true 5000 (OI true (MX true [] (m+4)) 60) 29) fQ ⟨[(26,.str t),(61,.str w)],some (35,acc)⟩ g (λσ g=>.ret (zm σ) g) (λz_ z_=>.fail)
theorem Fl(m:Nat)(t:List Nat)(acc)(g):(sM.map λx=>play (Iq m t acc g x.1) (x.2.map (A5 g)))=
  sM.map λx=>some ((x.2.map (A5 g)).map Fact.key,JV acc x.2,(zm ⟨[(26,.str t),(61,.str x.1)],some (35,A3 acc x.2)⟩,g)):=by kernel_rfl
theorem xc:(sM.all λx=>Nat.ble x.2.length 2)=true:=by kernel_rfl
theorem xd:∀{a b:List Nat},fj a b=true->a=b|[],[],_=>rfl|[],_::_,h=>bq h|_::_,[],h=>bq h|x::r,y::s,h=>by have h:(match Nat.beq x y with|true=>fj r s|false=>false)=true:=h;cases q:Nat.beq x y with|true=>rw[q]at h;rw[aj q,xd h]|false=>rw[q]at h;exact bq h
theorem m4:∀{l:List (List Nat×List AV)} {w:List Nat} {a:List AV},gN w l=some a->(w,a)∈l|[],w,a,h=>aI h|p::r,w,a,h=>by have h:(match fj p.1 w with|true=>some p.2|false=>gN w r)=some a:=h;cases q:fj p.1 w with|true=>rw[q]at h;refine bD h λx=>?_;subst x;rw[←xd q];exact .head _|false=>rw[q]at h;exact .tail _ (m4 h)
theorem Ir(h:gN w sM=some a)(hl:acc.length<999990):bm (ex 5000 (ev T0 (OO (m+4)) 60) 29) fQ ⟨[(26,.str t),(61,.str w)],some (35,acc)⟩ g=some (.next ⟨[(26,.str t),(61,.str w)],some (35,acc++a)⟩ g):=by
 have hm:=m4 h;have e:=i7 (Fl m t acc g) _ hm;have l2:=aa (aS.mp xc _ hm);have ns:∀p∈JV acc a,p.1<=p.2:=by match a,l2 with|[],_=>intro p hp;cases hp|[x],_=>intro p hp;cases aR.mp hp;show acc.length<=999999;exact QZ hl|[x,y],_=>intro p hp;cases aR.mp hp;show acc.length+2<=999999;exact Q0 hl
 have r:=rT e ⟨[],by rw[cz]⟩ ns;refine aH (d6 (u7 (uZ (u8 (m+4)) 60) 29) r) λout e1 h1=>?_;rw[e1];cases out with|ret v g'=>exact(cL h1).elim|next σ g'=>have h1:some (zm σ,g')=some (zm ⟨[(26,.str t),(61,.str w)],some (35,A3 acc a)⟩,g):=h1;simp only[Option.some.injEq,Prod.mk.injEq]at h1;rw[Fk h1.1,h1.2];cases a with|nil=>rw[cz];rfl|cons x r=>rfl
set_option tactic.hygienic true in
theorem xe:∀{ws:List (List Nat)} {ts acc:List AV} {l:Loc},ew ws=some ts->acc.length+2*ws.length<999990->(l=[(26,.str t)]∨∃u,l=[(26,.str t),(61,u)])->
  ∃l',jE (ex 5000 (ev T0 (OO (m+4)) 60) 29) [61] false fQ (ws.map .str) ⟨l,some (35,acc)⟩ g=some (.next ⟨l',some (35,acc++ts)⟩ g)
 |[],ts,acc,l,h,hn,hl=>by refine bD h λx=>?_;subst x;exact⟨l,by rw[cz];rfl⟩|w::r,ts,acc,l,h,hn,hl=>mc h λa b e e2 e3=>by
  subst e3;rw[ac]at hn;have la:a.length<=2:=aa (aS.mp xc _ (m4 e));refine b0 (xe (m:=m) (t:=t) (g:=g) (ws:=r) (ts:=b) (acc:=acc++a) (l:=[(26,.str t),(61,.str w)]) e2 (by rw[ae];exact Q3 hn la) (.inr ⟨_,rfl⟩)) λl' h'=>⟨l',?_⟩;have eb:jj [61] false (.str w) l=some [(26,.str t),(61,.str w)]:=by(refine Or.elim hl (λoz=>?_) λoz=>?_;(subst oz);rotate_left;(revert oz;refine λoz=>b0 oz λu dN=>?_;clear oz;subst dN);rotate_right)<;>rfl
  rw[ay]at h';show(match jj [61] false (.str w) l with|some l1=>(match bm (ex 5000 (ev T0 (OO (m+4)) 60) 29) fQ ⟨l1,some (35,acc)⟩ g with|some (.next σ1 g1)=>jE (ex 5000 (ev T0 (OO (m+4)) 60) 29) [61] false fQ (r.map .str) σ1 g1|some (.ret v g1)=>some (.ret v g1)|none=>none)|none=>none)=_;rw[eb];exact Pc (Ir e (Q4 hn)) h'
end
section
noncomputable def m8:PE:=.aY (.dS (.dS (.ah 26) 40 [32,40,32]) 41 [32,41,32]) 12 [.ak [32]]
theorem ME:fP=[.own 35 [],.ff [61] false 0 [m8] fQ,.freeze 35,.ret (.ah 35)]:=by kernel_rfl
theorem r8(h:l.length<=n):cB n l=true:=bp h
theorem FW(h:t.length<=5000):ev T0 O 60 m8 ⟨[(26,.str t)],o⟩ g=some (.list ((wordsOf t).map .str),g):=by
 have l1:=kc 40 [32,40,32] rfl t;have l2:=kc 41 [32,41,32] rfl (cT 40 [32,40,32] t);have e1:ev T0 O 58 (.dS (.ah 26) 40 [32,40,32]) ⟨[(26,.str t)],o⟩ g=some (.str (cT 40 [32,40,32] t),g):=by show(match(some (AV.str t,g):Option (AV×G))with|some (.str s,g1)=>(match cB 500000 s&&true&&true with|true=>some (AV.str (cT 40 [32,40,32] s),g1)|false=>none)|_=>none)=_;show(match cB 500000 t&&true&&true with|true=>some (AV.str (cT 40 [32,40,32] t),g)|false=>none)=_;rw[r8 (mE h rfl)];rfl
 have e2:ev T0 O 59 (.dS (.dS (.ah 26) 40 [32,40,32]) 41 [32,41,32]) ⟨[(26,.str t)],o⟩ g=some (.str (cT 41 [32,41,32] (cT 40 [32,40,32] t)),g):=by show dz T0 O (ev T0 O 58) (.dS (.dS (.ah 26) 40 [32,40,32]) 41 [32,41,32]) ⟨[(26,.str t)],o⟩ g=_;unfold dz;dsimp only;rw[e1];show(match cB 500000 (cT 40 [32,40,32] t)&&true&&true with|true=>some (AV.str (cT 41 [32,41,32] (cT 40 [32,40,32] t)),g)|false=>none)=_;rw[r8 (Q5 h l1)];rfl
 show dz T0 O (ev T0 O 59) m8 ⟨[(26,.str t)],o⟩ g=_;unfold m8 dz;dsimp only;rw[e2];show((grd (cB 1048575 (cT 41 [32,41,32] (cT 40 [32,40,32] t))) (some (AV.list ((wordsOf t).map .str)))).bind λv=>some (v,note T0 v g))=_;rw[r8 (Q6 h l1 l2)];rfl
theorem Cp(h:bR t ts)(hl:t.length<=5000):Ok 5 71 [.str t] g (.list ts) g:=λn hn=>by
 obtain⟨m,rfl⟩:∃m,n=(m+4)+1:=⟨n-5,by exact Q7 hn⟩;have wl:(wordsOf t).length<=45001:=by have l1:=kc 40 [32,40,32] rfl t;have l2:=kc 41 [32,41,32] rfl (cT 40 [32,40,32] t);have:=split_len 32 (cT 41 [32,41,32] (cT 40 [32,40,32] t));exact Q8 hl l1 l2 this
 refine b0 (xe (m:=m) (t:=t) (g:=g) (acc:=[]) (l:=[(26,.str t)]) h (by rw[ao];exact Q9 wl) (.inl rfl)) λl' e=>?_;have e2:ex 5000 (ev T0 (OO (m+4)) 60) 30 (.ff [61] false 0 [m8] fQ) ⟨[(26,.str t)],some (35,[])⟩ g=some (.next ⟨l',some (35,ts)⟩ g):=by
  show dc 5000 (ev T0 (OO (m+4)) 60) (ex 5000 (ev T0 (OO (m+4)) 60) 29) (.ff [61] false 0 [m8] fQ) ⟨[(26,.str t)],some (35,[])⟩ g=_;unfold dc;dsimp only;have e3:ci (ev T0 (OO (m+4)) 60) [m8] ⟨[(26,.str t)],some (35,[])⟩ g=some ([.list ((wordsOf t).map .str)],g):=by exact iE (FW hl) rfl
  rw[e3];show(match Nat.ble ((wordsOf t).map AV.str).length 100000 with|true=>jE (ex 5000 (ev T0 (OO (m+4)) 60) 29) [61] false fQ ((wordsOf t).map .str) ⟨[(26,.str t)],some (35,[])⟩ g|false=>none)=_;rw[bp (by rw[bg];exact mE wl rfl)];exact e
 show(match bm (ex 5000 (ev T0 (OO (m+4)) 60) 30) fP ⟨[(26,.str t)],none⟩ g with|some (.ret v g')=>some (v,g')|some (.next _ g')=>some (.none,g')|none=>none)=_;show(match bm (ex 5000 (ev T0 (OO (m+4)) 60) 30) (.ff [61] false 0 [m8] fQ::[.freeze 35,.ret (.ah 35)]) ⟨[(26,.str t)],some (35,[])⟩ g with|some (.ret v g')=>some (v,g')|some (.next _ g')=>some (.none,g')|none=>none)=_;have lk:fW 35 (db 35 (.list ts) l')=some (.list ts):=by rw[cv,br rfl]
 have e5:ev T0 (OO (m+4)) 60 (.ah 35) ⟨db 35 (.list ts) l',none⟩ g=some (.list ts,g):=by show(match fW 35 (db 35 (.list ts) l')with|some v=>some (v,g)|none=>none)=_;rw[lk]
 have e6:ex 5000 (ev T0 (OO (m+4)) 60) 30 (.ret (.ah 35)) ⟨db 35 (.list ts) l',none⟩ g=some (.ret (.list ts) g):=by show dc 5000 (ev T0 (OO (m+4)) 60) (ex 5000 (ev T0 (OO (m+4)) 60) 29) (.ret (.ah 35)) ⟨db 35 (.list ts) l',none⟩ g=_;unfold dc;dsimp only;rw[e5]
 have e4:bm (ex 5000 (ev T0 (OO (m+4)) 60) 30) [.freeze 35,.ret (.ah 35)] ⟨l',some (35,ts)⟩ g=some (.ret (.list ts) g):=by show bm (ex 5000 (ev T0 (OO (m+4)) 60) 30) [.ret (.ah 35)] ⟨db 35 (.list ts) l',none⟩ g=_;exact Sa e6
 rw[show bm (ex 5000 (ev T0 (OO (m+4)) 60) 30) (.ff [61] false 0 [m8] fQ::[.freeze 35,.ret (.ah 35)]) ⟨[(26,.str t)],some (35,[])⟩ g=_ from Pc e2 e4]
end
section
def eW(d k:Nat)(vs:List AV)(v:AV):Prop:=∀g,Ok d k vs g v g
structure fE where
 n0:Nat
 k:Nat
 vs:List AV
 v:AV
 ok:eW n0 k vs v
noncomputable abbrev fV(h:eW d k vs v):fE:=⟨d,k,vs,v,h⟩
noncomputable def fE.at(g:G)(f:fE):Fact:=⟨f.n0,f.k,f.vs,g,f.v,g,f.ok g⟩
theorem CO(S)(fs:List fE)(h:∀m g,play (treeOf false S (m+d) k vs g) (fs.map (fE.at g))=some ((fs.map (fE.at g)).map Fact.key,[],(v,g))):eW d k vs v:=
 λg=>fK (S:=S) _ λm=>h m g
theorem okN(S)(fs:List fE)(ns)(hn:∀l∈ns,l.1<=l.2)(h:∀m g,play (treeOf true S (m+d) k vs g) (fs.map (fE.at g))=some ((fs.map (fE.at g)).map Fact.key,ns,(v,g))):eW d k vs v:=
 λg=>Jm (md:=true) (S:=S) _ ns hn λm=>h m g
theorem BL{α}{l:List α}{a:α}(ha:a∈l)(vs:α->List AV)(v:α->AV)(S:List Nat)(fs:List fE)(h:∀m g,(l.map λa=>play (treeOf false S (m+d) k (vs a) g) (fs.map (fE.at g)))=l.map λa=>some ((fs.map (fE.at g)).map Fact.key,[],(v a,g))):eW d k (vs a) (v a):=
 CO S fs λm g=>i7 (h m g) a ha
theorem eW.le(h:eW n0 k vs v)(hn:n0<=n1):eW n1 k vs v:=λg=>(h g).le hn
noncomputable def Sub.t:Sub->List Nat|.one d=>[40,d+48,41]|.ind=>[40,73,41]|.eY d=>[40,d+48,32,73,41]|.xS d=>[40,73,32,d+48,32,73,41]
noncomputable def oL.t:oL->List Nat|.one d=>[40,d+48,32,58,41]|.ind d=>[40,73,32,58,32,d+48,41]
noncomputable def RZ:List (List Nat)->List Nat|[]=>[]|q::r=>32::([79,70]++32::(q++RZ r))
def Hc(s:Option Sub)(r:List Nat):List Nat:=match s with|some s=>32::(s.t++r)|none=>r
def BM(p:Option oL):List Nat:=match p with|some p=>32::(p.t++[])|none=>[]
def Ref.t(r:Ref):List Nat:=r.w++(RZ r.qs++Hc r.s (BM r.p))
theorem cK(h:d∈dL):eW 20 24 [pq d] (.str [d+48]):=BL h (λd=>[pq d]) (λd=>.str [d+48]) [] [] λm g=>by kernel_rfl
theorem cV:eW 20 24 [uu] (.str [73]):=CO [] [] λm g=>by kernel_rfl
def Ti:List (List Nat×List (List Nat)):=lP.flatMap λw=>qL.map λq=>(w,q)
theorem KP(h:w∈lP)(h':q∈qL):(w,q)∈Ti:=List.mem_flatMap.mpr ⟨w,h,cI.mpr ⟨q,h',rfl⟩⟩
theorem lU{r:Ref}(h:r.ok):eW 30 14 [r.v,.fn 24] (.str r.t):=by
 obtain⟨w,qs,s,p⟩:=r;have hm:=KP h.w h.q;have hs:=h.s;have hp:=h.p
 have go:∀(s:Option Sub) (p:Option oL) (fs:List fE),(∀m g,(Ti.map λa=>play (treeOf false [24] (m+30) 14 [Ref.v ⟨a.1,a.2,s,p⟩,.fn 24] g) (fs.map (fE.at g)))=Ti.map λa=>some ((fs.map (fE.at g)).map Fact.key,[],(.str (Ref.t ⟨a.1,a.2,s,p⟩),g)))->eW 30 14 [Ref.v ⟨w,qs,s,p⟩,.fn 24] (.str (Ref.t ⟨w,qs,s,p⟩)):=
  λs p fs hh=>BL hm (λa=>[Ref.v ⟨a.1,a.2,s,p⟩,.fn 24]) (λa=>.str (Ref.t ⟨a.1,a.2,s,p⟩)) [24] fs hh
 cases s with
 |none=>cases p with|none=>exact go none none [] λm g=>by kernel_rfl|some p=>have hp':oL.ok p:=hp p rfl;cases p with|one d=>exact go none (some (.one d)) [fV (cK hp')] λm g=>by kernel_rfl|ind d=>exact go none (some (.ind d)) [fV (cK hp'),fV cV] λm g=>by kernel_rfl
 |some s=>
  have hs':=hs s rfl;cases p with
  |none=>cases s with|one d=>exact go (some (.one d)) none [fV (cK hs')] λm g=>by kernel_rfl|ind=>exact go (some .ind) none [fV cV] λm g=>by kernel_rfl|eY d=>exact go (some (.eY d)) none [fV (cK hs'),fV cV] λm g=>by kernel_rfl|xS d=>exact go (some (.xS d)) none [fV cV,fV (cK hs'),fV cV] λm g=>by kernel_rfl
  |some p=>
   have hp':=hp p rfl;cases p with
   |one d'=>cases s with|one d=>exact go (some (.one d)) (some (.one d')) [fV (cK hs'),fV (cK hp')] λm g=>by kernel_rfl|ind=>exact go (some .ind) (some (.one d')) [fV cV,fV (cK hp')] λm g=>by kernel_rfl|eY d=>exact go (some (.eY d)) (some (.one d')) [fV (cK hs'),fV cV,fV (cK hp')] λm g=>by kernel_rfl|xS d=>exact go (some (.xS d)) (some (.one d')) [fV cV,fV (cK hs'),fV cV,fV (cK hp')] λm g=>by kernel_rfl
   |ind d'=>cases s with|one d=>exact go (some (.one d)) (some (.ind d')) [fV (cK hs'),fV (cK hp'),fV cV] λm g=>by kernel_rfl|ind=>exact go (some .ind) (some (.ind d')) [fV cV,fV (cK hp'),fV cV] λm g=>by kernel_rfl|eY d=>exact go (some (.eY d)) (some (.ind d')) [fV (cK hs'),fV cV,fV (cK hp'),fV cV] λm g=>by kernel_rfl|xS d=>exact go (some (.xS d)) (some (.ind d')) [fV cV,fV (cK hs'),fV cV,fV (cK hp'),fV cV] λm g=>by kernel_rfl
end
section
def cU:List (Nat×Nat)->Prop|[]=>True|p::r=>p.1<=p.2/\cU r
theorem xg:∀{l:List (Nat×Nat)},cU l->∀p∈l,p.1<=p.2
 |[],_,p,hp=>by cases hp|q::r,h,p,hp=>by
  refine Or.elim (am.mp hp) (λoz=>?_) λhp=>?_;(subst oz)
  ·exact h.1
  ·exact xg h.2 p hp
theorem nh(S)(fs:List fE)(ns)(hn:cU ns)(h:∀m g,play (treeOf true S (m+d) k vs g) (fs.map (fE.at g))=some ((fs.map (fE.at g)).map Fact.key,ns,(v,g))):eW d k vs v:=okN S fs ns (xg hn) h
def eM(x:List Nat)(tx:List AV):Prop:=∀a ta,bR a ta->bR (a++x) (ta++tx)
theorem eM.nil:eM [] []:=λa ta h=>by rw[cz,cz];exact h
theorem eM.cons(h:bR b tb)(h':eM x tx):eM (32::(b++x)) (tb++tx):=λa ta ha=>by have:=h' _ _ (ha.sp h);rw[ay,ay]at this;exact this
theorem gO{α}{l:List α}{a:α}(ha:a∈l)(t:α->List Nat)(ts:α->List AV)(h:(l.map λa=>ew (wordsOf (t a)))=l.map λa=>some (ts a)):bR (t a) (ts a):=i7 h a ha
theorem xh(h:w∈fB):bR w [tW w]:=gO h (λw=>w) (λw=>[tW w]) (by kernel_rfl)
theorem It{s:Sub}(h:s.ok):bR s.t (tS [40]::s.T []):=by cases s with|one d=>exact gO (l:=dL) h (λd=>(Sub.one d).t) (λd=>tS [40]::(Sub.one d).T []) (by kernel_rfl)|ind=>show ew _=_;kernel_rfl|eY d=>exact gO (l:=dL) h (λd=>(Sub.eY d).t) (λd=>tS [40]::(Sub.eY d).T []) (by kernel_rfl)|xS d=>exact gO (l:=dL) h (λd=>(Sub.xS d).t) (λd=>tS [40]::(Sub.xS d).T []) (by kernel_rfl)
theorem Iu{p:oL}(h:p.ok):bR p.t (tS [40]::p.T []):=by cases p with|one d=>exact gO (l:=dL) h (λd=>(oL.one d).t) (λd=>tS [40]::(oL.one d).T []) (by kernel_rfl)|ind d=>exact gO (l:=dL) h (λd=>(oL.ind d).t) (λd=>tS [40]::(oL.ind d).T []) (by kernel_rfl)
theorem Rl:bR [79,70] [tW [79,70]]:=by show ew _=_;kernel_rfl
theorem Fm:∀{qs:List (List Nat)},(∀q∈qs,q∈fB)->eM (RZ qs) (qT qs)|[],_=>.nil|q::r,h=>eM.cons Rl (eM.cons (xh (h q (.head _))) (Fm λq' hq=>h q' (.tail _ hq)))
theorem Sub.bn(s:Sub)(r):s.T r=s.T []++r:=by cases s<;>rfl
theorem oL.bn(p:oL)(r):p.T r=p.T []++r:=by cases p<;>rfl
theorem Fn(p:Option oL)(r):yI p r=yI p []++r:=by cases p with|none=>rfl|some p=>show _::p.T r=_::(p.T []++r);rw[←oL.bn]
theorem rW(s:Option Sub)(r):B0 s r=B0 s []++r:=by cases s with|none=>rfl|some s=>show _::s.T r=_::(s.T []++r);rw[←Sub.bn]
theorem Ref.bn(x:Ref)(r):x.T r=x.T []++r:=by unfold Ref.T;rw[Fn,rW,rW x.s (yI x.p [])];simp only[List.cons_append,ay]
theorem tail_sub(h:∀x,s=some x->x.ok)(hx:eM x tx):eM (Hc s x) (B0 s tx):=by cases s with|none=>exact hx|some s=>rw[rW];exact eM.cons (It (h s rfl)) hx
theorem Fo(h:∀x,p=some x->x.ok):eM (BM p) (yI p []):=by cases p with|none=>exact .nil|some p=>have:=eM.cons (Iu (h p rfl)) .nil;rw[cz (tS [40]::p.T [])]at this;exact this
theorem eM.app(h:eM x tx)(h':eM y ty):eM (x++y) (tx++ty):=λa ta ha=>by
 have:=h' _ _ (h _ _ ha)
 rwa [ay,ay]at this
theorem Ml(h:qs∈qL):∀q∈qs,q∈fB:=
 λq hq=>qg (aS.mp (aS.mp (show(qL.all λqs=>qs.all λq=>fB.any (fj q))=true by kernel_rfl) qs h) q hq)
theorem fm{r:Ref}(h:r.ok):bR r.t (r.T []):=((Fm (Ml h.q)).app (tail_sub h.s (Fo h.p))) _ _ (xh (iS h.w))
theorem cY{r:Ref}(h:r.ok):r.t.length<=60:=by
 obtain⟨w,qs,s,p⟩:=r;have h1:w.length<=4:=by have:=h.w;simp only[lP,am,bW,or_false]at this;rcases this with e|e|e|e<;>(have e:=e;subst e;decide)
 have h2:(RZ qs).length<=12:=by have:=h.q;simp only[qL,am,bW,or_false]at this;rcases this with e|e|e<;>(have e:=e;(clear h;subst e);decide)
 have h3:(BM p).length<=9:=by cases p with|none=>exact bo _|some p=>(clear h;cases p)<;>(show Nat.succ _<=9;simp[oL.t])
 have h4:(Hc s (BM p)).length<=8+(BM p).length:=by cases s with|none=>show(BM p).length<=_;exact VG|some s=>(clear h;cases s)<;>(simp only[Hc,Sub.t,ae,List.length_cons,List.length_nil];(first|exact VH|exact VI|exact VJ))
 simp only[Ref.t,ae];exact VK h1 h2 h3 h4
theorem vU{r:Ref}(h:r.ok):∃c t,r.t=c::t:=by obtain⟨w,qs,s,p⟩:=r;have:=h.w;simp only[lP,am,bW,or_false]at this;rcases this with e|e|e|e<;>(have e:=e;(clear h;subst e);exact⟨_,_,rfl⟩)
theorem show_ref{r:Ref}(h:r.ok):eW 40 24 [r.v] (.str r.t):=by have l:=cY h;exact nh [14] [fV (lU h)] [(0,999999),(r.t.length,8388608)] (by simp only[cU,cr];exact VL l) λm g=>by kernel_rfl
theorem i8{r:Ref}(h:r.ok):eW 40 36 [r.v] (.str r.t):=nh [14] [fV (lU h)] [] trivial λm g=>by kernel_rfl
theorem qn{r:Ref}(h:r.ok):eW 40 35 [r.v] (.str r.t):=nh [14] [fV (lU h)] [] trivial λm g=>by kernel_rfl
noncomputable def Num.t:Num->List Nat|.n0=>[48]|.n5=>[53]|.m3=>[45,51]|.DY=>[49,46,50,53]|.OU=>[45,48,46,53]|.OV=>[55,48]
theorem xi(x:Num):eW 40 24 [x.v] (.str x.t):=by cases x<;>exact CO [] [] λm g=>by kernel_rfl
theorem Iw(x:Num):bR x.t (x.T []):=by cases x<;>(show ew _=_;kernel_rfl)
theorem Num.bn(x:Num)(r):x.T r=x.T []++r:=by cases x<;>rfl
theorem Ix(x:Num):x.t.length<=60:=by cases x<;>decide
def pM.t:pM->List Nat|.ref r=>r.t|.num n=>n.t
theorem xj{o:pM}(h:o.ok):eW 40 24 [o.v] (.str o.t):=by cases o with|ref r=>exact show_ref h|num n=>exact xi n
theorem A6{o:pM}(h:o.ok):bR o.t (o.T []):=by cases o with|ref r=>exact fm h|num n=>exact Iw n
theorem pM.bn(o:pM)(r):o.T r=o.T []++r:=by cases o with|ref x=>exact x.bn r|num n=>exact n.bn r
theorem pV{o:pM}(h:o.ok):o.t.length<=60:=by cases o with|ref r=>exact cY h|num n=>exact Ix n
def eu.t:eu->List Nat|.eq r=>r.t++32::([61]++32::[53])|.cls r=>[78,79,84]++32::(r.t++32::[73,83,32,78,85,77,69,82,73,67])|.zero r=>r.t++32::[73,83,32,90,69,82,79]|.le r r2=>r.t++32::([60,61]++32::r2.t)
theorem m5{c:eu}(h:c.ok):c.t.length<=140:=by cases c with|eq r=>have:=cY h;simp only[eu.t,ae,List.length_cons,List.length_nil];exact VN this|cls r=>have:=cY h;simp only[eu.t,ae,List.length_cons,List.length_nil];exact VO this|zero r=>have:=cY h;simp only[eu.t,ae,List.length_cons,List.length_nil];exact VP this|le r r2=>have:=cY h.1;have:=cY h.2;simp only[eu.t,ae,List.length_cons,List.length_nil];exact VQ ‹_› this
theorem eu.bn(c:eu)(r):c.T r=c.T []++r:=by cases c with|eq x=>show x.T _=x.T _++r;rw[Ref.bn,x.bn (tS [61]::tN [53]::[])];simp only[ay,List.cons_append,List.nil_append]|cls x=>show tW _::x.T _=tW _::(x.T _++r);rw[Ref.bn,x.bn (tW [73,83]::tW [78,85,77,69,82,73,67]::[])];simp only[ay,List.cons_append,List.nil_append]|zero x=>show x.T _=x.T _++r;rw[Ref.bn,x.bn (tW [73,83]::tW [90,69,82,79]::[])];simp only[ay,List.cons_append,List.nil_append]|le x y=>show x.T _=x.T _++r;rw[Ref.bn,x.bn (tS [60,61]::y.T []),Ref.bn y r];simp only[ay,List.cons_append]
theorem Fp(h:ew (wordsOf t)=some ts):bR t ts:=h
theorem xk{c:eu}(h:c.ok):bR c.t (c.T []):=by cases c with|eq r=>show bR _ (r.T _);rw[Ref.bn];exact(fm h).sp (Fp (t:=[61,32,53]) (ts:=[tS [61],tN [53]]) (by kernel_rfl))|cls r=>show bR _ (tW _::r.T _);rw[Ref.bn];exact(Fp (t:=[78,79,84]) (ts:=[tW [78,79,84]]) (by kernel_rfl)).sp ((fm h).sp (Fp (t:=[73,83,32,78,85,77,69,82,73,67]) (ts:=[tW [73,83],tW [78,85,77,69,82,73,67]]) (by kernel_rfl)))|zero r=>show bR _ (r.T _);rw[Ref.bn];exact(fm h).sp (Fp (t:=[73,83,32,90,69,82,79]) (ts:=[tW [73,83],tW [90,69,82,79]]) (by kernel_rfl))|le r r2=>show bR _ (r.T _);rw[Ref.bn];exact(fm h.1).sp ((Fp (t:=[60,61]) (ts:=[tS [60,61]]) (by kernel_rfl)).sp (fm h.2))
end
section
theorem isText{r:Ref}(h:r.ok)(tag w)(ht:(tag,w)=([99,108,97,115,115],[78,85,77,69,82,73,67])∨(tag,w)=([115,105,103,110],[90,69,82,79])):eW 60 34 [.aT [.str tag,.str w,r.v]] (.str (r.t++[32,73,83,32]++w)):=by
 have l:=cY h;have hw:w.length<=7:=by refine Or.elim ht (λe=>?_) λe=>?_<;>cases e<;>decide
 refine nh [24] [fV (show_ref h)] [((r.t++[32,73,83,32]).length,8388608),((r.t++[32,73,83,32]++w).length,8388608),(0,999999),((r.t++[32,73,83,32]++w).length,8388608)] (by simp only[cU,ae,List.length_cons,List.length_nil,cr];exact VS l hw) λm g=>?_;refine Or.elim ht (λe=>?_) λe=>?_<;>(clear hw;cases e)<;>kernel_rfl
theorem tZ{c:eu}(h:c.ok):eW 70 34 [c.v] (.str c.t):=by
 cases c with
 |eq r=>
  have l:=cY h
  have e:eW 70 34 [(eu.eq r).v] (.str ((((r.t++[32])++[61])++[32])++[53])):=nh [24] [fV (show_ref h),fV (xi .n5)]
   [((r.t++[32]).length,8388608),(((r.t++[32])++[61]).length,8388608),((((r.t++[32])++[61])++[32]).length,8388608),(((((r.t++[32])++[61])++[32])++[53]).length,8388608),(0,999999),(((((r.t++[32])++[61])++[32])++[53]).length,8388608)]
   (by simp only[cU,ae,List.length_cons,List.length_nil,cr];exact VT l) λm g=>by kernel_rfl
  have q:((((r.t++[32])++[61])++[32])++[53])=(eu.eq r).t:=by simp only[eu.t,ay,List.cons_append,List.nil_append]
  rw[q]at e;exact e
 |cls r=>
  have l:=cY h
  have e:eW 70 34 [(eu.cls r).v] (.str ([78,79,84,32]++(r.t++[32,73,83,32]++[78,85,77,69,82,73,67]))):=nh [34] [fV (isText h [99,108,97,115,115] [78,85,77,69,82,73,67] (.inl rfl))]
   [(([78,79,84,32]++(r.t++[32,73,83,32]++[78,85,77,69,82,73,67])).length,8388608),(0,999999),(([78,79,84,32]++(r.t++[32,73,83,32]++[78,85,77,69,82,73,67])).length,8388608)]
   (by simp only[cU,ae,List.length_cons,List.length_nil,cr];exact VU l) λm g=>by kernel_rfl
  have q:[78,79,84,32]++(r.t++[32,73,83,32]++[78,85,77,69,82,73,67])=(eu.cls r).t:=by simp only[eu.t,ay,List.cons_append,List.nil_append]
  rw[q]at e;exact e
 |zero r=>
  have e:=(isText h [115,105,103,110] [90,69,82,79] (.inr rfl)).le (show 60<=70 by decide);have q:r.t++[32,73,83,32]++[90,69,82,79]=(eu.zero r).t:=by simp only[eu.t,ay,List.cons_append,List.nil_append]
  rw[q]at e;exact e
 |le r r2=>
  have l:=cY h.1;have l2:=cY h.2
  have e:eW 70 34 [(eu.le r r2).v] (.str ((((r.t++[32])++[60,61])++[32])++r2.t)):=nh [24] [fV (show_ref h.1),fV (show_ref h.2)]
   [((r.t++[32]).length,8388608),(((r.t++[32])++[60,61]).length,8388608),((((r.t++[32])++[60,61])++[32]).length,8388608),(((((r.t++[32])++[60,61])++[32])++r2.t).length,8388608),(0,999999),(((((r.t++[32])++[60,61])++[32])++r2.t).length,8388608)]
   (by simp only[cU,ae,List.length_cons,List.length_nil,cr];exact VV l l2) λm g=>by kernel_rfl
  have q:((((r.t++[32])++[60,61])++[32])++r2.t)=(eu.le r r2).t:=by simp only[eu.t,ay,List.cons_append,List.nil_append]
  rw[q]at e;exact e
def Row.t(x:Row):List Nat:=x.r.t++32::([70,82,79,77]++32::(x.a.t++32::([66,89]++32::(x.b.t++32::([85,78,84,73,76]++32::x.c.t)))))
def Row.s1(x:Row):List Nat:=x.r.t++[32,70,82,79,77,32]
def Row.s2(x:Row):List Nat:=x.s1++x.a.t
def Row.s3(x:Row):List Nat:=x.s2++[32,66,89,32]
def Row.s4(x:Row):List Nat:=x.s3++x.b.t
def Row.s5(x:Row):List Nat:=x.s4++[32,85,78,84,73,76,32]
def Row.s6(x:Row):List Nat:=x.s5++x.c.t
def Row.ns(x:Row)(k:Nat):List (Nat×Nat):=[(x.s1.length,8388608),(x.s2.length,8388608),(x.s3.length,8388608),(x.s4.length,8388608),(x.s5.length,8388608),(x.s6.length,8388608),(k,999999)]
theorem Row.s_eq(x:Row):x.s6=x.t:=by simp only[Row.s6,Row.s5,Row.s4,Row.s3,Row.s2,Row.s1,Row.t,ay,List.cons_append,List.nil_append]
theorem dw{x:Row}(h:x.ok):x.s6.length<=350:=by have:=cY h.r;have:=pV h.a;have:=pV h.b;have:=m5 h.c;simp only[Row.s6,Row.s5,Row.s4,Row.s3,Row.s2,Row.s1,ae,List.length_cons,List.length_nil];exact VW ‹_› ‹_› ‹_› this
theorem dO:∀{a b:List (Nat×Nat)},cU a->cU b->cU (a++b)|[],_,_,h=>h|_::_,_,h,h'=>⟨h.1,dO h.2 h'⟩
theorem oD{x:Row}(h:x.ok)(hk:k<=10):cU (x.ns k):=by have:=cY h.r;have:=pV h.a;have:=pV h.b;have:=m5 h.c;simp only[Row.ns,cU,Row.s6,Row.s5,Row.s4,Row.s3,Row.s2,Row.s1,ae,List.length_cons,List.length_nil,cr];exact VX hk ‹_› ‹_› ‹_› this
def Row.fs(x:Row)(h:x.ok):List fE:=[fV (i8 h.r),fV (xj h.a),fV (xj h.b),fV (tZ h.c)]
theorem CE{x:Row}(h:x.ok):eW 80 44 [.aT [x.v]] (.str x.t):=by have l:=dw h;rw[←x.s_eq];exact nh [36,24,34] (x.fs h) (x.ns 0++[(x.s6.length,8388608)]) (dO (oD h (by decide)) ⟨by show x.s6.length<=8388608;exact mE l rfl,True.intro⟩) λm g=>by kernel_rfl
theorem CG{x y:Row}(h:x.ok)(h':y.ok):eW 80 44 [.aT [x.v,y.v]] (.str (x.t++32::([65,70,84,69,82]++32::y.t))):=by
 have l:=dw h;have l':=dw h'
 have e:eW 80 44 [.aT [x.v,y.v]] (.str (x.s6++([32,65,70,84,69,82,32]++y.s6))):=nh [36,24,34] (x.fs h++y.fs h') (x.ns 0++(y.ns 1++[((x.s6++([32,65,70,84,69,82,32]++y.s6)).length,8388608)]))
  (dO (oD h (by decide)) (dO (oD h' (by decide)) ⟨by simp only[ae,List.length_cons,List.length_nil];exact VY l l',True.intro⟩)) λm g=>by kernel_rfl
 have q:x.s6++([32,65,70,84,69,82,32]++y.s6)=x.t++32::([65,70,84,69,82]++32::y.t):=by rw[x.s_eq,y.s_eq];simp only[ay,List.cons_append,List.nil_append]
 rw[q]at e;exact e
theorem CH{x y z:Row}(h:x.ok)(h':y.ok)(h2:z.ok):eW 80 44 [.aT [x.v,y.v,z.v]] (.str (x.t++32::([65,70,84,69,82]++32::(y.t++32::([65,70,84,69,82]++32::z.t))))):=by
 have l:=dw h;have l':=dw h';have l2:=dw h2
 have e:eW 80 44 [.aT [x.v,y.v,z.v]] (.str (x.s6++([32,65,70,84,69,82,32]++(y.s6++([32,65,70,84,69,82,32]++z.s6))))):=nh [36,24,34] (x.fs h++(y.fs h'++z.fs h2)) (x.ns 0++(y.ns 1++(z.ns 2++[((x.s6++([32,65,70,84,69,82,32]++(y.s6++([32,65,70,84,69,82,32]++z.s6)))).length,8388608)])))
  (dO (oD h (by decide)) (dO (oD h' (by decide)) (dO (oD h2 (by decide)) ⟨by simp only[ae,List.length_cons,List.length_nil];exact VZ l l' l2,True.intro⟩))) λm g=>by kernel_rfl
 have q:x.s6++([32,65,70,84,69,82,32]++(y.s6++([32,65,70,84,69,82,32]++z.s6)))=x.t++32::([65,70,84,69,82]++32::(y.t++32::([65,70,84,69,82]++32::z.t))):=by rw[x.s_eq,y.s_eq,z.s_eq];simp only[ay,List.cons_append,List.nil_append]
 rw[q]at e;exact e
noncomputable def wt(b:Bool):List Nat:=match b with|true=>[87,73,84,72,32,84,69,83,84,32,65,70,84,69,82]|false=>[87,73,84,72,32,84,69,83,84,32,66,69,70,79,82,69]
def Loop.t:Loop->List Nat|.once=>[]|.fy r=>r.t++32::[84,73,77,69,83]|.fz k=>digits k++32::[84,73,77,69,83]|.xT b c=>wt b++32::([85,78,84,73,76]++32::c.t)|.kP b x=>wt b++32::([86,65,82,89,73,78,71]++32::x.t)|.kQ b x y=>wt b++32::([86,65,82,89,73,78,71]++32::(x.t++32::([65,70,84,69,82]++32::y.t)))|.kR b x y z=>wt b++32::([86,65,82,89,73,78,71]++32::(x.t++32::([65,70,84,69,82]++32::(y.t++32::([65,70,84,69,82]++32::z.t)))))
theorem xF(h:k∈jM):eW 40 35 [jK (.ofNat k) 0] (.str (digits k)):=BL h (λk=>[jK (.ofNat k) 0]) (λk=>.str (digits k)) [] [] λm g=>by kernel_rfl
theorem se(h:k∈jM):Nat.ble (digits k).length 2=true:=i7 (l:=jM) (f:=λk=>Nat.ble (digits k).length 2) (g:=λz_=>true) (by kernel_rfl) k h
theorem FV{l:Loop}(h:l.ok):l.t.length<=1200:=by cases l with|once=>exact bo _|fy r=>have:=cY h;simp only[Loop.t,ae,List.length_cons,List.length_nil];exact V0 this|fz k=>have:=aa (se h);simp only[Loop.t,ae,List.length_cons,List.length_nil];exact V7 this|xT b c=>have:=m5 h;cases b<;>(simp only[Loop.t,wt,ae,List.length_cons,List.length_nil];(first|exact V9 this|exact Wa this))|kP b x=>have:=dw h;rw[x.s_eq]at this;cases b<;>(simp only[Loop.t,wt,ae,List.length_cons,List.length_nil];(first|exact Wb this|exact Wc this))|kQ b x y=>have:=dw h.1;have:=dw h.2;rw[Row.s_eq]at *;cases b<;>(simp only[Loop.t,wt,ae,List.length_cons,List.length_nil];(first|exact Wd ‹_› this|exact We ‹_› this))|kR b x y z=>have:=dw h.1;have:=dw h.2.1;have:=dw h.2.2;rw[Row.s_eq]at *;(clear h;cases b)<;>(simp only[Loop.t,wt,ae,List.length_cons,List.length_nil];(first|exact QD ‹_› ‹_› this|exact QE ‹_› ‹_› this))
theorem show_loop{l:Loop}(h:l.ok):eW 90 45 [l.v] (.str l.t):=by
 cases l with
 |once=>exact CO [] [] λm g=>by kernel_rfl|fy r=>
  have n:=cY h;have e:eW 90 45 [(Loop.fy r).v] (.str (r.t++[32,84,73,77,69,83])):=nh [35] [fV (qn h)] [((r.t++[32,84,73,77,69,83]).length,8388608)] (by simp only[cU,ae,List.length_cons,List.length_nil,cr];exact QF n) λm g=>by kernel_rfl
  exact e
 |fz k=>
  have n:=aa (se h);have e:eW 90 45 [(Loop.fz k).v] (.str (digits k++[32,84,73,77,69,83])):=nh [35] [fV (xF h)] [((digits k++[32,84,73,77,69,83]).length,8388608)] (by simp only[cU,ae,List.length_cons,List.length_nil,cr];exact QG n) λm g=>by kernel_rfl
  exact e
 |xT b c=>
  have n:=m5 h;have q:(wt b++[32,85,78,84,73,76,32])++c.t=(Loop.xT b c).t:=by simp only[Loop.t,ay,List.cons_append,List.nil_append]
  have hw:(wt b).length<=16:=by cases b<;>decide
  refine nh [34] [fV (tZ h)] [((wt b++[32,85,78,84,73,76,32]).length,8388608),(((wt b++[32,85,78,84,73,76,32])++c.t).length,8388608)] (by simp only[cU,ae,List.length_cons,List.length_nil,cr];exact QH n hw) λm g=>by cases b<;>kernel_rfl
 |kP b x=>
  have n:=dw h;rw[x.s_eq]at n;have q:(wt b++[32,86,65,82,89,73,78,71,32])++x.t=(Loop.kP b x).t:=by simp only[Loop.t,ay,List.cons_append,List.nil_append]
  have hw:(wt b).length<=16:=by cases b<;>decide
  refine nh [44] [fV (CE h)] [((wt b++[32,86,65,82,89,73,78,71,32]).length,8388608),(((wt b++[32,86,65,82,89,73,78,71,32])++x.t).length,8388608)] (by simp only[cU,ae,List.length_cons,List.length_nil,cr];exact QI n hw) λm g=>by cases b<;>kernel_rfl
 |kQ b x y=>
  have n:=dw h.1;have n':=dw h.2;rw[Row.s_eq]at n n';have q:(wt b++[32,86,65,82,89,73,78,71,32])++(x.t++32::([65,70,84,69,82]++32::y.t))=(Loop.kQ b x y).t:=by simp only[Loop.t,ay,List.cons_append,List.nil_append]
  have hw:(wt b).length<=16:=by cases b<;>decide
  refine nh [44] [fV (CG h.1 h.2)] [((wt b++[32,86,65,82,89,73,78,71,32]).length,8388608),(((wt b++[32,86,65,82,89,73,78,71,32])++(x.t++32::([65,70,84,69,82]++32::y.t))).length,8388608)] (by simp only[cU,ae,List.length_cons,List.length_nil,cr];exact QJ n n' hw) λm g=>by cases b<;>kernel_rfl
 |kR b x y z=>
  have n:=dw h.1;have n':=dw h.2.1;have n2:=dw h.2.2;rw[Row.s_eq]at n n' n2;have q:(wt b++[32,86,65,82,89,73,78,71,32])++(x.t++32::([65,70,84,69,82]++32::(y.t++32::([65,70,84,69,82]++32::z.t))))=(Loop.kR b x y z).t:=by simp only[Loop.t,ay,List.cons_append,List.nil_append]
  have hw:(wt b).length<=16:=by(clear q;cases b)<;>decide
  refine nh [44] [fV (CH h.1 h.2.1 h.2.2)] [((wt b++[32,86,65,82,89,73,78,71,32]).length,8388608),(((wt b++[32,86,65,82,89,73,78,71,32])++(x.t++32::([65,70,84,69,82]++32::(y.t++32::([65,70,84,69,82]++32::z.t))))).length,8388608)] (by simp only[cU,ae,List.length_cons,List.length_nil,cr];exact QK n n' n2 hw) λm g=>by cases b<;>kernel_rfl
end
section
theorem eA(h:ew (wordsOf w)=some ts):bR w ts:=h
theorem kN{x:Row}(h:x.ok):bR x.t (x.T []):=by show bR _ (x.r.T _);rw[Ref.bn x.r,pM.bn x.a,pM.bn x.b];exact(fm h.r).sp ((eA (ts:=[tW [70,82,79,77]]) (by kernel_rfl)).sp ((A6 h.a).sp ((eA (ts:=[tW [66,89]]) (by kernel_rfl)).sp ((A6 h.b).sp ((eA (ts:=[tW [85,78,84,73,76]]) (by kernel_rfl)).sp (xk h.c))))))
theorem Row.bn(x:Row)(r):x.T r=x.T []++r:=by show x.r.T _=x.r.T _++r;rw[Ref.bn x.r,pM.bn x.a,pM.bn x.b,eu.bn x.c r,Ref.bn x.r (tW _::x.a.T (tW _::x.b.T (tW _::x.c.T []))),pM.bn x.a (tW _::x.b.T _),pM.bn x.b (tW _::x.c.T [])];simp only[ay,List.cons_append]
theorem vh(b):bR (wt b) (eI b []):=by cases b<;>exact eA (by kernel_rfl)
theorem oy:bR [65,70,84,69,82] [tW [65,70,84,69,82]]:=eA (by kernel_rfl)
theorem kg:bR [86,65,82,89,73,78,71] [tW [86,65,82,89,73,78,71]]:=eA (by kernel_rfl)
theorem CA(h:k∈jM):bR (digits k) [tN (digits k)]:=gO h (λk=>digits k) (λk=>[tN (digits k)]) (by kernel_rfl)
theorem MB{l:Loop}(h:l.ok)(hn:l≠.once):bR l.t (l.T []):=by cases l with|once=>exact bc rfl hn|fy r=>show bR _ (r.T _);rw[Ref.bn];exact(fm h).sp (eA (ts:=[tW [84,73,77,69,83]]) (by kernel_rfl))|fz k=>exact(CA h).sp (eA (ts:=[tW [84,73,77,69,83]]) (by kernel_rfl))|xT b c=>exact(vh b).sp ((eA (ts:=[tW [85,78,84,73,76]]) (by kernel_rfl)).sp (xk h))|kP b x=>exact(vh b).sp (kg.sp (kN h))|kQ b x y=>show bR _ (eI b (tW _::x.T _));rw[Row.bn x];exact(vh b).sp (kg.sp ((kN h.1).sp (oy.sp (kN h.2))))|kR b x y z=>show bR _ (eI b (tW _::x.T (tW _::y.T _)));rw[Row.bn x,Row.bn y];exact(vh b).sp (kg.sp ((kN h.1).sp (oy.sp ((kN h.2.1).sp (oy.sp (kN h.2.2))))))
theorem Loop.bn(l:Loop)(r):l.T r=l.T []++r:=by cases l with|once=>rfl|fy x=>show x.T _=x.T _++r;rw[Ref.bn,x.bn (tW [84,73,77,69,83]::[])];simp only[ay,List.cons_append,List.nil_append]|fz k=>rfl|xT b c=>show eI b (tW _::c.T r)=eI b (tW _::c.T [])++r;rw[eu.bn c r];rfl|kP b x=>show eI b (tW _::x.T r)=eI b (tW _::x.T [])++r;rw[Row.bn x r];rfl|kQ b x y=>show eI b (tW _::x.T (tW _::y.T r))=eI b (tW _::x.T (tW _::y.T []))++r;rw[Row.bn x,Row.bn y r,Row.bn x (tW _::y.T [])];simp only[eI,ay,List.cons_append]|kR b x y z=>show eI b (tW _::x.T (tW _::y.T (tW _::z.T r)))=eI b (tW _::x.T (tW _::y.T (tW _::z.T [])))++r;rw[Row.bn x,Row.bn y,Row.bn z r,Row.bn x (tW _::y.T (tW _::z.T [])),Row.bn y (tW _::z.T [])];simp only[eI,ay,List.cons_append]
noncomputable def Pr.t(p:Pr):List Nat:=match p.q with|some q=>p.w++32::([79,70]++32::q)|none=>p.w
def sv.t:sv->List Nat|.one p=>p.t|.two p q=>p.t++32::([84,72,82,85]++32::q.t)
noncomputable def rI.t:rI->List Nat|.ce=>[67,79,78,84,73,78,85,69,32,69,88,73,84]|.Sj=>[67,79,78,84,73,78,85,69,32,69,88,73,84,32,67,79,78,84,73,78,85,69]|.e=>[69,88,73,84]|.ec=>[69,88,73,84,32,67,79,78,84,73,78,85,69]
theorem show_pair{p:Pr}(h:p.ok):eW 20 42 [p.v] (.str p.t):=BL (l:=CU) h (λp=>[p.v]) (λp=>.str p.t) [] [] λm g=>by kernel_rfl
theorem gq{p:Pr}(h:p.ok):bR p.t (p.T []):=gO (l:=CU) h (λp=>p.t) (λp=>p.T []) (by kernel_rfl)
theorem fD{p:Pr}(h:p.ok):∃c t,p.t=c::t:=by simp only[Pr.ok,CU,am,bW,or_false]at h;rcases h with rfl|rfl|rfl|rfl<;>exact⟨_,_,rfl⟩
theorem fe{p:Pr}(h:p.ok):p.t.length<=20:=by simp only[Pr.ok,CU,am,bW,or_false]at h;rcases h with rfl|rfl|rfl|rfl<;>decide
theorem Pr.bn(p:Pr)(r):p.T r=p.T []++r:=by obtain⟨w,q⟩:=p;cases q<;>rfl
theorem xt{r:sv}(h:r.ok):eW 30 43 [r.first.v,r.last.v] (.str r.t):=by cases r with|one p=>exact BL (l:=CU) h (λp=>[p.v,p.v]) (λp=>.str p.t) [] [] λm g=>by kernel_rfl|two p q=>exact BL (l:=zc) h (λx=>[x.1.v,x.2.v]) (λx=>.str (sv.two x.1 x.2).t) [] [] λm g=>by kernel_rfl
theorem Bl{r:sv}(h:r.ok):bR r.t (r.T []):=by cases r with|one p=>exact gq h|two p q=>exact gO (l:=zc) h (λx=>(sv.two x.1 x.2).t) (λx=>(sv.two x.1 x.2).T []) (by kernel_rfl)
theorem xu{r:sv}(h:r.ok):∃c t,r.t=c::t/\(c::t).length<=60:=by
 have key:∃c t,r.t=c::t:=by cases r with|one p=>exact fD h|two p q=>refine nA (fD (oA h).1) λc t e=>?_;exact⟨c,_,by show p.t++_=_;rw[e];rfl⟩
 refine nA key λc t e=>⟨c,t,e,?_⟩;rw[←e];cases r with|one p=>have:=fe h;show p.t.length<=60;exact mE this rfl|two p q=>have:=fe (oA h).1;have:=fe (oA h).2;simp only[sv.t,ae,List.length_cons,List.length_nil];exact QL ‹_› this
theorem sv.bn(x:sv)(r):x.T r=x.T []++r:=by cases x with|one p=>exact p.bn r|two p q=>show p.T _=p.T _++r;rw[p.bn,q.bn r,p.bn (tW _::q.T [])];simp only[ay,List.cons_append]
theorem xw(b:rI):eW 30 39 [b.v,.fn 73] (.str b.t):=by cases b<;>exact CO [] [] λm g=>by kernel_rfl
theorem Bm(b:rI):bR b.t (b.T []):=by cases b<;>exact eA (by kernel_rfl)
theorem pW(b:rI):b.t.length<=30:=by cases b<;>decide
theorem CB{l:Loop}(h:l.ok)(hn:l≠.once):∃c t,l.t=c::t:=by
 cases l with
 |once=>exact bc rfl hn|fy r=>refine nA (vU h) λc t e=>?_;exact⟨c,_,by show r.t++_=_;rw[e];rfl⟩|fz k=>have:(match digits k with|[]=>false|_::_=>true)=true:=i7 (l:=jM) (f:=λk=>match digits k with|[]=>false|_::_=>true) (g:=λz_=>true) (by kernel_rfl) k h;show ∃c t,digits k++_=c::t;cases e:digits k with|nil=>rw[e]at this;exact bq this|cons c t=>exact⟨c,_,rfl⟩
 |xT b c=>(clear h hn;cases b)<;>exact⟨_,_,rfl⟩|kP b x=>(clear h hn;cases b)<;>exact⟨_,_,rfl⟩|kQ b x y=>(clear h hn;cases b)<;>exact⟨_,_,rfl⟩|kR b x y z=>(clear h hn;cases b)<;>exact⟨_,_,rfl⟩
section
variable{Sw Sx lv:AV}{c c2:Nat}{rt lt:List Nat}
theorem Rx(hr:eW 30 43 [Sw,Sx] (.str (c::rt)))(l1:(c::rt).length<=60)(hl:eW 90 45 [lv] (.str (c2::lt)))(l2:(c2::lt).length<=1200):
  eW 100 46 [.aT [.str [112,101,114,102,111,114,109],.aT [.str [114,97,110,103,101],Sw,Sx],lv],.fn 73] (.str ([80,69,82,70,79,82,77]++32::((c::rt)++32::(c2::lt)))):=
 nh [45,43] [fV hl,fV hr] [(([80,69,82,70,79,82,77]++32::((c::rt)++32::(c2::lt))).length,8388608)] (by simp only[cU,ae,List.length_cons,List.length_nil,cr]at *;exact QM l1 l2) λm g=>by kernel_rfl
theorem MC(hr:eW 30 43 [Sw,Sx] (.str (c::rt)))(l1:(c::rt).length<=60)(hl:eW 90 45 [lv] (.str [])):
  eW 100 46 [.aT [.str [112,101,114,102,111,114,109],.aT [.str [114,97,110,103,101],Sw,Sx],lv],.fn 73] (.str ([80,69,82,70,79,82,77]++32::(c::rt))):=
 nh [45,43] [fV hl,fV hr] [(([80,69,82,70,79,82,77]++32::(c::rt)).length,8388608)] (by simp only[cU,ae,List.length_cons,List.length_nil,cr]at *;omega) λm g=>by kernel_rfl
theorem Ry{b:rI}(hl:eW 90 45 [lv] (.str (c2::lt)))(l2:(c2::lt).length<=1200):
  eW 100 46 [.aT [.str [112,101,114,102,111,114,109],.aT [.str [98,111,100,121],b.v],lv],.fn 73] (.str ([80,69,82,70,79,82,77]++32::((c2::lt)++32::(b.t++32::[69,78,68,45,80,69,82,70,79,82,77])))):=by
 have hb:=pW b;have e:=xw b;refine nh [45,39] [fV hl,fV e] [(([80,69,82,70,79,82,77]++32::((c2::lt)++32::(b.t++32::[69,78,68,45,80,69,82,70,79,82,77]))).length,8388608)] (by simp only[cU,ae,List.length_cons,List.length_nil,cr]at *;exact QN l2 hb) λm g=>?_;cases b<;>kernel_rfl
theorem MD{b:rI}(hl:eW 90 45 [lv] (.str [])):eW 100 46 [.aT [.str [112,101,114,102,111,114,109],.aT [.str [98,111,100,121],b.v],lv],.fn 73] (.str ([80,69,82,70,79,82,77]++32::(b.t++32::[69,78,68,45,80,69,82,70,79,82,77]))):=by have hb:=pW b;have e:=xw b;refine nh [45,39] [fV hl,fV e] [(([80,69,82,70,79,82,77]++32::(b.t++32::[69,78,68,45,80,69,82,70,79,82,77])).length,8388608)] (by simp only[cU,ae,List.length_cons,List.length_nil,cr]at *;exact QO hb) λm g=>?_;cases b<;>kernel_rfl
end
structure vT(v:AV)(ts:List AV):Prop where
 it:∃t,eW 110 48 [v,.fn 73] (.str t)/\bR t ts/\t.length<=5000
theorem m7(h:eW 100 46 [.aT [.str [112,101,114,102,111,114,109],g,l],.fn 73] (.str t)):eW 110 48 [.aT [.str [112,101,114,102,111,114,109],g,l],.fn 73] (.str t):=CO [46] [fV h] λm g=>by kernel_rfl
theorem pX:bR [80,69,82,70,79,82,77] [tW [80,69,82,70,79,82,77]]:=eA (by kernel_rfl)
theorem Bn:bR [69,78,68,45,80,69,82,70,79,82,77] [tW [69,78,68,45,80,69,82,70,79,82,77]]:=eA (by kernel_rfl)
theorem rI.bn(b:rI)(r):b.T r=b.T []++r:=by cases b<;>rfl
theorem zp{x:wN}(hg:x.g.ok)(hl:x.l.ok):vT x.v x.T:=by
 obtain⟨g,l⟩:=x;have hg:=hg;have hl:=hl;have sl:=show_loop hl;have ll:=FV hl;by_cases ho:l=.once
 ·subst ho;cases g with|rng r=>refine bU (xu hg) λc t e len=>?_;have sr:=xt hg;have lr:=Bl hg;rw[e]at sr lr;exact⟨_,m7 (MC sr len sl),pX.sp lr,by simp only[ae,List.length_cons,List.length_nil]at *;omega⟩|JL b=>have:=pW b;refine⟨_,m7 (MD (b:=b) sl),?_,by simp only[ae,List.length_cons,List.length_nil]at *;exact QP this⟩;show bR _ (tW _::b.T _);rw[b.bn];exact pX.sp ((Bm b).sp Bn)
 ·refine nA (CB hl ho) λc2 t2 e2=>?_;have lx:=MB hl ho;rw[e2]at sl lx ll;cases g with|rng r=>refine bU (xu hg) λc t e len=>?_;have sr:=xt hg;have lr:=Bl hg;rw[e]at sr lr;refine⟨_,m7 (Rx sr len sl ll),?_,by simp only[ae,List.length_cons,List.length_nil]at *;exact QQ ll len⟩;show bR _ (tW _::r.T _);rw[r.bn];exact pX.sp (lr.sp lx)|JL b=>have:=pW b;refine⟨_,m7 (Ry (b:=b) sl ll),?_,by simp only[ae,List.length_cons,List.length_nil]at *;exact QR ll this⟩;show bR _ (tW _::l.T (b.T _));rw[l.bn,b.bn];exact pX.sp (lx.sp ((Bm b).sp Bn))
end
section
theorem zM:bR [71,79,32,84,79] [tW [71,79],tW [84,79]]:=eA (by kernel_rfl)
theorem yf:bR [68,69,80,69,78,68,73,78,71,32,79,78] [tW [68,69,80,69,78,68,73,78,71],tW [79,78]]:=eA (by kernel_rfl)
section
variable{p1 p2 p3 rv:AV}{c1 c2 c3:Nat}{t1 t2 t3 rt:List Nat}
theorem ND(h:eW 20 42 [p1] (.str t1))(l:t1.length<=20):eW 110 48 [.aT [.str [103,111,116,111],p1],.fn 73] (.str ([71,79,32,84,79]++32::t1)):=
 nh [42] [fV h] [(([71,79,32,84,79,32]++t1).length,8388608)] (by simp only[cU,ae,List.length_cons,List.length_nil,cr]at *;exact NE l) λm g=>by kernel_rfl
noncomputable def vS(J rt:List Nat):List (Nat×Nat):=[(J.length,8388608),(([71,79,32,84,79,32]++J).length,8388608),((([71,79,32,84,79,32]++J)++[32,68,69,80,69,78,68,73,78,71,32,79,78,32]).length,8388608),(((([71,79,32,84,79,32]++J)++[32,68,69,80,69,78,68,73,78,71,32,79,78,32])++rt).length,8388608)]
theorem qm(h:J.length<=100)(h':rt.length<=60):cU (vS J rt):=by simp only[vS,cU,ae,List.length_cons,List.length_nil,cr]at *;exact NF h h'
theorem yg(J rt):((([71,79,32,84,79,32]++J)++[32,68,69,80,69,78,68,73,78,71,32,79,78,32])++rt)=[71,79,32,84,79]++32::(J++32::([68,69,80,69,78,68,73,78,71,32,79,78]++32::rt)):=by simp only[ay,List.cons_append,List.nil_append]
theorem Kz(h:eW 20 42 [p1] (.str (c1::t1)))(l:(c1::t1).length<=20)(hr:eW 40 36 [rv] (.str rt))(lr:rt.length<=60):
  eW 110 48 [.aT [.str [103,111,116,111,45,100,101,112],.aT [p1],rv],.fn 73] (.str ([71,79,32,84,79]++32::((c1::t1)++32::([68,69,80,69,78,68,73,78,71,32,79,78]++32::rt)))):=by
 rw[←yg (c1::t1) rt];exact nh [42,36] [fV h,fV hr] (vS (c1::t1) rt) (qm (mE l rfl) lr) λm g=>by kernel_rfl
theorem KA(h:eW 20 42 [p1] (.str (c1::t1)))(l:(c1::t1).length<=20)(h2:eW 20 42 [p2] (.str (c2::t2)))(l2:(c2::t2).length<=20)(hr:eW 40 36 [rv] (.str rt))(lr:rt.length<=60):
  eW 110 48 [.aT [.str [103,111,116,111,45,100,101,112],.aT [p1,p2],rv],.fn 73] (.str ([71,79,32,84,79]++32::(((c1::t1)++32::(c2::t2))++32::([68,69,80,69,78,68,73,78,71,32,79,78]++32::rt)))):=by
 rw[←yg ((c1::t1)++32::(c2::t2)) rt];exact nh [42,36] [fV h,fV h2,fV hr] (vS ((c1::t1)++32::(c2::t2)) rt) (qm (by simp only[ae,List.length_cons]at *;exact NG l l2) lr) λm g=>by kernel_rfl
theorem KB(h:eW 20 42 [p1] (.str (c1::t1)))(l:(c1::t1).length<=20)(h2:eW 20 42 [p2] (.str (c2::t2)))(l2:(c2::t2).length<=20)(h3:eW 20 42 [p3] (.str (c3::t3)))(l3:(c3::t3).length<=20)(hr:eW 40 36 [rv] (.str rt))(lr:rt.length<=60):
  eW 110 48 [.aT [.str [103,111,116,111,45,100,101,112],.aT [p1,p2,p3],rv],.fn 73] (.str ([71,79,32,84,79]++32::(((c1::t1)++32::((c2::t2)++32::(c3::t3)))++32::([68,69,80,69,78,68,73,78,71,32,79,78]++32::rt)))):=by
 rw[←yg ((c1::t1)++32::((c2::t2)++32::(c3::t3))) rt];exact nh [42,36] [fV h,fV h2,fV h3,fV hr] (vS ((c1::t1)++32::((c2::t2)++32::(c3::t3))) rt) (qm (by simp only[ae,List.length_cons]at *;exact NH l l2 l3) lr) λm g=>by kernel_rfl
end
theorem yh{x:Gp}(h:x.ok):vT x.v x.T:=by cases x with|go p=>have l:=fe h;exact⟨_,ND (show_pair h) l,zM.sp (gq h),by simp only[ae,List.length_cons,List.length_nil]at *;exact NI l⟩|d1 p r=>refine nA (fD h.1) λc t e=>?_;have l:=fe h.1;have s:=show_pair h.1;have x:=gq h.1;have lr:=cY h.2;rw[e]at l s x;refine⟨_,Kz s l (i8 h.2) lr,?_,by simp only[ae,List.length_cons,List.length_nil]at *;exact NJ l lr⟩;show bR _ (tW _::tW _::p.T _);rw[p.bn];exact zM.sp (x.sp (yf.sp (fm h.2)))|d2 p q r=>refine nA (fD h.1) λc t e=>?_;have l:=fe h.1;have s:=show_pair h.1;have x:=gq h.1;refine nA (fD h.2.1) λc2 t2 e2=>?_;have l2:=fe h.2.1;have s2:=show_pair h.2.1;have x2:=gq h.2.1;have lr:=cY h.2.2;rw[e]at l s x;rw[e2]at l2 s2 x2;refine⟨_,KA s l s2 l2 (i8 h.2.2) lr,?_,by simp only[ae,List.length_cons,List.length_nil]at *;exact NK l l2 lr⟩;show bR _ (tW _::tW _::p.T (q.T _));rw[p.bn,q.bn,←ay];exact zM.sp ((x.sp x2).sp (yf.sp (fm h.2.2)))|d3 p q u r=>refine nA (fD h.1) λc t e=>?_;have l:=fe h.1;have s:=show_pair h.1;have x:=gq h.1;refine nA (fD h.2.1) λc2 t2 e2=>?_;have l2:=fe h.2.1;have s2:=show_pair h.2.1;have x2:=gq h.2.1;refine nA (fD h.2.2.1) λc3 t3 e3=>?_;have l3:=fe h.2.2.1;have s3:=show_pair h.2.2.1;have x3:=gq h.2.2.1;have lr:=cY h.2.2.2;rw[e]at l s x;rw[e2]at l2 s2 x2;rw[e3]at l3 s3 x3;refine⟨_,KB s l s2 l2 s3 l3 (i8 h.2.2.2) lr,?_,by simp only[ae,List.length_cons,List.length_nil]at *;exact NL l l2 l3 lr⟩;show bR _ (tW _::tW _::p.T (q.T (u.T _)));rw[p.bn,q.bn,u.bn,←ay,←ay,ay (p.T []) (q.T []) (u.T [])];exact zM.sp ((x.sp (x2.sp x3)).sp (yf.sp (fm h.2.2.2)))
def pn.t:pn->List Nat|.ref r=>r.t|.ab=>[34,65,66,34]|.x=>[34,120,34]|.three=>[34,51,34]|.zero=>[34,122,101,114,111,34]|.RW=>[90,69,82,79]
theorem g9{o:pn}(h:o.ok):eW 40 35 [o.v] (.str o.t):=by cases o with|ref r=>exact qn h|_=>exact CO [] [] λm g=>by kernel_rfl
theorem zN{o:pn}(h:o.ok):bR o.t (o.T []):=by cases o with|ref r=>exact fm h|_=>exact eA (by kernel_rfl)
theorem Dj{o:pn}(h:o.ok):∃c t,o.t=c::t:=by cases o with|ref r=>exact vU h|_=>exact⟨_,_,rfl⟩
theorem uq{o:pn}(h:o.ok):o.t.length<=60:=by cases o with|ref r=>exact cY h|_=>decide
theorem pn.bn(o:pn)(r):o.T r=o.T []++r:=by cases o with|ref r'=>exact r'.bn r|_=>rfl
noncomputable def Arg.u:Arg->List Nat|.ref _=>[82,69,70,69,82,69,78,67,69]|.con _=>[67,79,78,84,69,78,84]
def Arg.s1(a:Arg):List Nat:=[66,89,32]++a.u
def Arg.s2(a:Arg):List Nat:=a.s1++[32]
def Arg.s3(a:Arg):List Nat:=a.s2++a.op.t
def Arg.ns(a:Arg):List (Nat×Nat):=[(a.u.length,8388608),(a.s1.length,8388608),(a.s2.length,8388608),(a.s3.length,8388608)]
def Arg.t(a:Arg):List Nat:=[66,89]++32::(a.u++32::a.op.t)
theorem Arg.s_eq(a:Arg):a.s3=a.t:=by simp only[Arg.s3,Arg.s2,Arg.s1,Arg.t,ay,List.cons_append,List.nil_append]
theorem kx{a:Arg}(h:a.ok):a.s3.length<=80:=by have:=uq (Arg.sA h);cases a<;>(simp only[Arg.s3,Arg.s2,Arg.s1,Arg.u,ae,List.length_cons,List.length_nil];(first|exact NM this|exact NN this))
theorem nB{a:Arg}(h:a.ok):cU a.ns:=by have:=uq (Arg.sA h);cases a<;>(simp only[Arg.ns,cU,Arg.s3,Arg.s2,Arg.s1,Arg.u,ae,List.length_cons,List.length_nil,cr];(first|exact NP this|exact NQ this))
theorem ky{a:Arg}(h:a.ok):bR a.t (a.T []):=by have x:=zN (Arg.sA h);have by_:bR [66,89] [tW [66,89]]:=eA (by kernel_rfl);cases a with|ref r=>exact by_.sp ((eA (w:=[82,69,70,69,82,69,78,67,69]) (ts:=[tW [82,69,70,69,82,69,78,67,69]]) (by kernel_rfl)).sp x)|con o=>exact by_.sp ((eA (w:=[67,79,78,84,69,78,84]) (ts:=[tW [67,79,78,84,69,78,84]]) (by kernel_rfl)).sp x)
theorem Arg.bn(a:Arg)(r):a.T r=a.T []++r:=by cases a with|ref x=>show tW _::tW _::x.T r=tW _::tW _::(x.T []++r);rw[x.bn r]|con o=>show tW _::tW _::o.T r=tW _::tW _::(o.T []++r);rw[o.bn r]
def Args.t:Args->List Nat|.a1 a=>a.s3|.a2 a b=>a.s3++32::b.s3|.a3 a b c=>a.s3++32::(b.s3++32::c.s3)
def Args.fs(x:Args)(h:x.ok):List fE:=match x,h with|.a1 _,h=>[fV (g9 (Arg.sA h))]|.a2 _ _,h=>[fV (g9 (Arg.sA h.1)),fV (g9 (Arg.sA h.2))]|.a3 _ _ _,h=>[fV (g9 (Arg.sA h.1)),fV (g9 (Arg.sA h.2.1)),fV (g9 (Arg.sA h.2.2))]
def Args.ns:Args->List (Nat×Nat)|.a1 a=>a.ns|.a2 a b=>a.ns++b.ns|.a3 a b c=>a.ns++(b.ns++c.ns)
theorem G1{x:Args}(h:x.ok):cU x.ns:=by cases x with|a1 a=>exact nB h|a2 a b=>exact dO (nB h.1) (nB h.2)|a3 a b c=>exact dO (nB h.1) (dO (nB h.2.1) (nB h.2.2))
theorem Dk{x:Args}(h:x.ok):x.t.length<=300:=by cases x with|a1 a=>have:=kx h;show a.s3.length<=300;exact mE this rfl|a2 a b=>have:=kx h.1;have:=kx h.2;simp only[Args.t,ae,List.length_cons];exact NR ‹_› this|a3 a b c=>have:=kx h.1;have:=kx h.2.1;have:=kx h.2.2;simp only[Args.t,ae,List.length_cons];exact NT ‹_› ‹_› this
theorem Dl{x:Args}(h:x.ok):bR x.t (x.T []):=by cases x with|a1 a=>show bR a.s3 _;rw[a.s_eq];exact ky h|a2 a b=>show bR (a.s3++32::b.s3) (a.T (b.T []));rw[a.s_eq,b.s_eq,a.bn];exact(ky h.1).sp (ky h.2)|a3 a b c=>show bR (a.s3++32::(b.s3++32::c.s3)) (a.T (b.T (c.T [])));rw[a.s_eq,b.s_eq,c.s_eq,a.bn,b.bn];exact(ky h.1).sp ((ky h.2.1).sp (ky h.2.2))
theorem Args.bn(x:Args)(r):x.T r=x.T []++r:=by cases x with|a1 a=>exact a.bn r|a2 a b=>show a.T _=a.T _++r;rw[a.bn,b.bn r,a.bn (b.T [])];simp only[ay]|a3 a b c=>show a.T _=a.T _++r;rw[a.bn,b.bn,c.bn r,a.bn (b.T _),b.bn (c.T [])];simp only[ay]
def pG.t(x:pG):List Nat:=match x.a,x.b with|none,none=>[]|some a,none=>[79,78,32,69,88,67,69,80,84,73,79,78,32]++a.t|none,some b=>[78,79,84,32,79,78,32,69,88,67,69,80,84,73,79,78,32]++b.t|some a,some b=>([79,78,32,69,88,67,69,80,84,73,79,78,32]++a.t)++32::([78,79,84,32,79,78,32,69,88,67,69,80,84,73,79,78,32]++b.t)
def pG.e(x:pG):List Nat:=match x.t with|[]=>[69,78,68,45,67,65,76,76]|c::t=>(c::t)++32::[69,78,68,45,67,65,76,76]
theorem Dm(x:pG):eW 40 41 [.aT x.l,.fn 73] (.str x.t):=by
 obtain⟨a,b⟩:=x;cases a with
 |none=>cases b with|none=>exact CO [] [] λm g=>by kernel_rfl|some b=>cases b<;>exact CO [] [] λm g=>by kernel_rfl
 |some a=>cases b with|none=>cases a<;>exact CO [] [] λm g=>by kernel_rfl|some b=>cases a<;>cases b<;>exact CO [] [] λm g=>by kernel_rfl
theorem G2(x:pG):bR x.e x.T:=by
 obtain⟨a,b⟩:=x;cases a with
 |none=>cases b with|none=>exact eA (by kernel_rfl)|some b=>cases b<;>exact eA (by kernel_rfl)
 |some a=>cases b with|none=>cases a<;>exact eA (by kernel_rfl)|some b=>cases a<;>cases b<;>exact eA (by kernel_rfl)
theorem G3(x:pG):x.t.length<=100:=by
 obtain⟨a,b⟩:=x;cases a with
 |none=>cases b with|none=>decide|some b=>cases b<;>decide
 |some a=>cases b with|none=>cases a<;>decide|some b=>cases a<;>cases b<;>decide
theorem yi{x:CP}(h:x.ok):vT x.v x.T:=by
 obtain⟨o,a,b⟩:=x;have ho:=h.o;refine nA (Dj ho) λc t e=>?_;have so:=g9 ho;have lo:=uq ho;have xo:=zN ho;have sb:=Dm b;have lb:=G3 b;have xb:=G2 b;have zO:bR [67,65,76,76] [tW [67,65,76,76]]:=eA (by kernel_rfl);have Dn:bR [85,83,73,78,71] [tW [85,83,73,78,71]]:=eA (by kernel_rfl);rw[e]at so lo xo;cases a with
 |none=>
  have key:eW 110 48 [CP.v ⟨o,none,b⟩,.fn 73] (.str (([67,65,76,76]++32::(c::t))++32::b.e)):=by
   have fs:cU [(0,8388608),(([67,65,76,76]++32::(c::t)).length,8388608),((([67,65,76,76]++32::(c::t))++32::b.e).length,8388608)]:=by unfold pG.e;cases eb:b.t with|nil=>simp only[cU,ae,List.length_cons,List.length_nil,cr]at *;exact NU lo|cons c' t'=>rw[eb]at lb;simp only[cU,ae,List.length_cons,List.length_nil,cr]at *;exact NV lo lb
   unfold pG.e at fs ⊢;generalize b.t=bt at *;cases bt with|nil=>exact nh [35,41] [fV so,fV sb] _ fs λm g=>by kernel_rfl|cons c' t'=>exact nh [35,41] [fV so,fV sb] _ fs λm g=>by kernel_rfl
  refine⟨_,key,?_,?_⟩
  ·show bR _ (tW _::o.T b.T);rw[o.bn,←a9];exact(zO.sp xo).sp xb
  ·unfold pG.e;cases eb:b.t with|nil=>simp only[ae,List.length_cons,List.length_nil]at *;omega|cons c' t'=>rw[eb]at lb;simp only[ae,List.length_cons,List.length_nil]at *;exact NW lo lb
 |some a=>
  have ha:=h.a a rfl;have la:=Dk ha;have na:=G1 ha;have xa:=Dl ha;have key:eW 110 48 [CP.v ⟨o,some a,b⟩,.fn 73] (.str (([67,65,76,76]++32::((c::t)++32::(([85,83,73,78,71]++[32])++a.t)))++32::b.e)):=by
   have fs:cU (a.ns++[(a.t.length,8388608),(([85,83,73,78,71]++[32]).length,8388608),((([85,83,73,78,71]++[32])++a.t).length,8388608),(([67,65,76,76]++32::((c::t)++32::(([85,83,73,78,71]++[32])++a.t))).length,8388608),((([67,65,76,76]++32::((c::t)++32::(([85,83,73,78,71]++[32])++a.t)))++32::b.e).length,8388608)]):=by refine dO na ?_;unfold pG.e;cases eb:b.t with|nil=>simp only[cU,ae,List.length_cons,List.length_nil,cr]at *;exact NX lo la|cons c' t'=>rw[eb]at lb;simp only[cU,ae,List.length_cons,List.length_nil,cr]at *;exact NY lo la lb
   unfold pG.e at fs ⊢;generalize b.t=bt at *;cases bt with
   |nil=>refine nh [35,41] (a.fs ha++[fV so,fV sb]) _ fs λm g=>?_;cases a with|a1 a=>cases a<;>kernel_rfl|a2 a a'=>cases a<;>cases a'<;>kernel_rfl|a3 a a' a2=>cases a<;>cases a'<;>cases a2<;>kernel_rfl
   |cons c' t'=>refine nh [35,41] (a.fs ha++[fV so,fV sb]) _ fs λm g=>?_;cases a with|a1 a=>cases a<;>kernel_rfl|a2 a a'=>cases a<;>cases a'<;>kernel_rfl|a3 a a' a2=>cases a<;>cases a'<;>cases a2<;>kernel_rfl
  refine⟨_,key,?_,?_⟩
  ·show bR _ (tW _::o.T (tW _::a.T b.T));rw[o.bn,a.bn];have:=(zO.sp (xo.sp (Dn.sp xa))).sp xb;simp only[ay,List.cons_append,List.nil_append]at this ⊢;exact this
  ·unfold pG.e;cases eb:b.t with|nil=>simp only[ae,List.length_cons,List.length_nil]at *;exact NZ lo la|cons c' t'=>rw[eb]at lb;simp only[ae,List.length_cons,List.length_nil]at *;exact N1 lo la lb
end
section
abbrev Bx(b:vx):G:=R [] .none b
structure lV(n:Nat)(b:vx):Prop where
 it:∃k:Nat,b.place=(k:Int)/\k<=n
theorem lV.le(h:lV n b)(hm:n<=m):lV m b:=let ⟨k,e,l⟩:=h.it;⟨k,e,aw l hm⟩
section
variable{O:By}{n:Nat}{σ:Sg}{g g1:G}
theorem fY(h1:ev T0 O n a σ g=some (x,g))(h2:ev T0 O n b σ g=some (y,g))(h3:v6 T0.lim op x y=some r):ev T0 O (n+1) (.bin op a b) σ g=some (r,g):=by show dz T0 O (ev T0 O n) (.bin op a b) σ g=_;unfold dz;dsimp only;rw[h1];dsimp only;rw[h2];dsimp only;rw[h3];rfl
theorem qq(h:ev T0 O 60 t σ g=some (.bool bb,g1)):ex 5000 (ev T0 O 60) (k+1) (.cu t a b) σ g=bm (ex 5000 (ev T0 O 60) k) (if bb then a else b) σ g1:=by show dc 5000 (ev T0 O 60) (ex 5000 (ev T0 O 60) k) (.cu t a b) σ g=_;unfold dc;dsimp only;rw[h];(clear h;cases bb)<;>rfl
end
theorem sZ:∀(l:List Int) (k:Nat),k<l.length->p7 k (l.map .int)=some (.int (l.getD k 0))|[],k,h=>by simp at h|x::r,0,h=>rfl|x::r,k+1,h=>by exact sZ r k (by simpa using h)
noncomputable def BS:List Nat:=[2,3,4,6,9,90]
def v7:List PS:=eH.drop 3
noncomputable def DC(b:vx):Int:=(b.state*16807+b.place*b.place+29).fmod 2147483647
def jk(b:vx)(L:Nat):Int×vx:=if b.great>0 then(b.great.fmod L,⟨b.cells,b.great.fdiv L,b.state,b.place+1⟩)else
 (if b.place<(b.cells.length:Int)then(b.cells.getD b.place.toNat 0).fmod L else((DC b).fdiv 3 ^ 3).fmod L,⟨b.cells,b.great,DC b,b.place+1⟩)
theorem DD(b:vx)(L):∃c:Int,(jk b L).1=c.fmod L:=by
 unfold jk
 split
 ·exact⟨_,rfl⟩
 ·split<;>exact⟨_,rfl⟩
theorem yy(b:vx)(L):(jk b L).2.place=b.place+1:=by
 unfold jk
 split<;>rfl
theorem KY(hL:L∈BS)(hd:∃c:Int,d=c.fmod L):∃k:Nat,k<L/\d=(k:Int):=by
 revert hd;refine λoz=>b0 oz λc dN=>?_;clear oz;subst dN;have lp:0<L:=by simp only[BS,am,bW,or_false]at hL;exact Ou hL
 have h0:0<=c.fmod L:=by rw[Int.fmod_eq_emod_of_nonneg c (Jn lp)];exact Int.emod_nonneg c (Ov lp)
 have h1:c.fmod L<L:=by rw[Int.fmod_eq_emod_of_nonneg c (Jn lp)];exact Int.emod_lt_of_pos c (Ow lp)
 exact⟨(c.fmod L).toNat,by exact Ox h0 h1,(Int.toNat_of_nonneg h0).symm⟩
@[elab_as_elim] theorem yz{P:Nat->Prop}(h:L∈BS)(k2:P 2)(k3:P 3)(k4:P 4)(k6:P 6)(k9:P 9)(k90:P 90):P L:=by simp only[BS,am,bW,or_false]at h;rcases h with rfl|rfl|rfl|rfl|rfl|rfl<;>assumption
theorem DE{m:Nat}{k L:Nat}(hp:b.place=(k:Int))(hk:k<=1000000)(hL:L∈BS):
  bm (ex 5000 (ev T0 (OO m) 60) 30) eH ⟨[(100,.sp 0),(101,.int L)],none⟩ (Bx b)=some (.ret (.int (jk b L).1) (Bx (jk b L).2)):=by
 obtain⟨cells,great,state,place⟩:=b;have hp:=hp;subst hp
 have e1:bm (ex 5000 (ev T0 (OO m) 60) 30) eH ⟨[(100,.sp 0),(101,.int L)],none⟩ (Bx ⟨cells,great,state,k⟩)=
   bm (ex 5000 (ev T0 (OO m) 60) 30) (eH.drop 2) ⟨[(100,.sp 0),(101,.int L),(102,.int k)],none⟩ (Bx ⟨cells,great,state,(k:Int)+1⟩):=by kernel_rfl
 rw[e1];by_cases hg:great>0
 ·have et:ev T0 (OO m) 60 (.cmp .Gt (.sub (.ah 100) (.aq 1)) (.aq 0)) ⟨[(100,.sp 0),(101,.int L),(102,.int k)],none⟩ (Bx ⟨cells,great,state,(k:Int)+1⟩)=some (.bool true,Bx ⟨cells,great,state,(k:Int)+1⟩):=by rw[←decide_eq_true hg];kernel_rfl
  have ed:jk ⟨cells,great,state,k⟩ L=(great.fmod L,⟨cells,great.fdiv L,state,(k:Int)+1⟩):=br hg;rw[ed];show bm (ex 5000 (ev T0 (OO m) 60) 30) (.cu (.cmp .Gt (.sub (.ah 100) (.aq 1)) (.aq 0)) _ []::_) _ _=_;unfold bm;rw[qq et,br rfl];refine yz hL ?_ ?_ ?_ ?_ ?_ ?_<;>kernel_rfl
 ·have et:ev T0 (OO m) 60 (.cmp .Gt (.sub (.ah 100) (.aq 1)) (.aq 0)) ⟨[(100,.sp 0),(101,.int L),(102,.int k)],none⟩ (Bx ⟨cells,great,state,(k:Int)+1⟩)=some (.bool false,Bx ⟨cells,great,state,(k:Int)+1⟩):=by rw[←decide_eq_false hg];kernel_rfl
  have e2:bm (ex 5000 (ev T0 (OO m) 60) 30) (eH.drop 2) ⟨[(100,.sp 0),(101,.int L),(102,.int k)],none⟩ (Bx ⟨cells,great,state,(k:Int)+1⟩)=bm (ex 5000 (ev T0 (OO m) 60) 30) v7 ⟨[(100,.sp 0),(101,.int L),(102,.int k)],none⟩ (Bx ⟨cells,great,state,(k:Int)+1⟩):=by show bm (ex 5000 (ev T0 (OO m) 60) 30) (.cu (.cmp .Gt (.sub (.ah 100) (.aq 1)) (.aq 0)) _ []::v7) _ _=_;rw[bm,qq et,bi bM];rfl
  rw[e2];have mm:v6 T0.lim .Mult (.int k) (.int k)=some (.int ((k:Int)*k)):=by show grd (Nat.blt (Int.natAbs k) 18446744073709551616) (some (AV.int ((k:Int)*k)))=_;rw[show Int.natAbs (k:Int)=k from rfl,show Nat.blt k 18446744073709551616=true from bp (Oy hk hp)];rfl
  let st:Int:=((state*16807+(k:Int)*k+29)).fmod 2147483647
  have es:ev T0 (OO m) 60 (.bin .Mod (.bin .Add (.bin .Add (.bin .Mult (.sub (.ah 100) (.aq 2)) (.aq 16807)) (.bin .Mult (.ah 102) (.ah 102))) (.aq 29)) (.aq 2147483647)) ⟨[(100,.sp 0),(101,.int L),(102,.int k)],none⟩ (Bx ⟨cells,great,state,(k:Int)+1⟩)=some (.int st,Bx ⟨cells,great,state,(k:Int)+1⟩):=by
   refine fY (x:=.int (state*16807+(k:Int)*k+29)) (y:=.int 2147483647) (fY (x:=.int (state*16807+(k:Int)*k)) (y:=.int 29) (fY (x:=.int (state*16807)) (y:=.int ((k:Int)*k)) ?_ (fY (x:=.int k) (y:=.int k) ?_ ?_ mm) rfl) ?_ rfl) ?_ rfl
   ·kernel_rfl
   ·kernel_rfl
   ·kernel_rfl
   ·kernel_rfl
   ·kernel_rfl
  have e3:bm (ex 5000 (ev T0 (OO m) 60) 30) v7 ⟨[(100,.sp 0),(101,.int L),(102,.int k)],none⟩ (Bx ⟨cells,great,state,(k:Int)+1⟩)=bm (ex 5000 (ev T0 (OO m) 60) 30) (v7.drop 1) ⟨[(100,.sp 0),(101,.int L),(102,.int k)],none⟩ (Bx ⟨cells,great,st,(k:Int)+1⟩):=by
   have:ex 5000 (ev T0 (OO m) 60) 30 (.setItem (.ah 100) (.aq 2) (.bin .Mod (.bin .Add (.bin .Add (.bin .Mult (.sub (.ah 100) (.aq 2)) (.aq 16807)) (.bin .Mult (.ah 102) (.ah 102))) (.aq 29)) (.aq 2147483647))) ⟨[(100,.sp 0),(101,.int L),(102,.int k)],none⟩ (Bx ⟨cells,great,state,(k:Int)+1⟩)=some (.next ⟨[(100,.sp 0),(101,.int L),(102,.int k)],none⟩ (Bx ⟨cells,great,st,(k:Int)+1⟩)):=by show dc 5000 (ev T0 (OO m) 60) (ex 5000 (ev T0 (OO m) 60) 29) _ _ _=_;unfold dc;dsimp only;rw[es];rfl
   show bm (ex 5000 (ev T0 (OO m) 60) 30) (.setItem (.ah 100) (.aq 2) (.bin .Mod (.bin .Add (.bin .Add (.bin .Mult (.sub (.ah 100) (.aq 2)) (.aq 16807)) (.bin .Mult (.ah 102) (.ah 102))) (.aq 29)) (.aq 2147483647))::v7.drop 1) _ _=_;rw[bm,this]
  rw[e3];have el:ev T0 (OO m) 60 (.cmp .Lt (.ah 102) (.ai 2 [.sub (.ah 100) (.aq 0)])) ⟨[(100,.sp 0),(101,.int L),(102,.int k)],none⟩ (Bx ⟨cells,great,st,(k:Int)+1⟩)=some (.bool (decide ((k:Int)<((cells.map AV.int).length:Int))),Bx ⟨cells,great,st,(k:Int)+1⟩):=by kernel_rfl
  by_cases hc:(k:Int)<((cells.map AV.int).length:Int)
  ·rw[decide_eq_true hc]at el;have hc':k<cells.length:=by rw[bg]at hc;exact Oz hp hc
   have ec:=sZ cells k hc';have ed:jk ⟨cells,great,state,k⟩ L=((cells.getD k 0).fmod L,⟨cells,great,st,(k:Int)+1⟩):=by unfold jk;rw[bi hg,br (by rw[bg]at hc;exact hc)];rfl
   rw[ed];show bm (ex 5000 (ev T0 (OO m) 60) 30) (.cu (.cmp .Lt (.ah 102) (.ai 2 [.sub (.ah 100) (.aq 0)])) [.ret (.bin .Mod (.sub (.sub (.ah 100) (.aq 0)) (.ah 102)) (.ah 101))] []::_) _ _=_;have er:ev T0 (OO m) 60 (.bin .Mod (.sub (.sub (.ah 100) (.aq 0)) (.ah 102)) (.ah 101)) ⟨[(100,.sp 0),(101,.int L),(102,.int k)],none⟩ (Bx ⟨cells,great,st,(k:Int)+1⟩)=some (.int ((cells.getD k 0).fmod L),Bx ⟨cells,great,st,(k:Int)+1⟩):=by
    refine fY (x:=.int (cells.getD k 0)) (y:=.int L) ?_ ?_ ?_
    ·show(match p7 k (cells.map AV.int)with|some r=>some (r,Bx ⟨cells,great,st,(k:Int)+1⟩)|none=>none)=_;rw[ec]
    ·kernel_rfl
    ·refine yz hL ?_ ?_ ?_ ?_ ?_ ?_<;>rfl
   rw[bm,qq el,br rfl,bm];have:ex 5000 (ev T0 (OO m) 60) 29 (.ret (.bin .Mod (.sub (.sub (.ah 100) (.aq 0)) (.ah 102)) (.ah 101))) ⟨[(100,.sp 0),(101,.int L),(102,.int k)],none⟩ (Bx ⟨cells,great,st,(k:Int)+1⟩)=some (.ret (.int ((cells.getD k 0).fmod L)) (Bx ⟨cells,great,st,(k:Int)+1⟩)):=by show dc 5000 (ev T0 (OO m) 60) (ex 5000 (ev T0 (OO m) 60) 28) _ _ _=_;unfold dc;dsimp only;rw[er]
   rw[this]
  ·rw[decide_eq_false hc]at el;have ed:jk ⟨cells,great,state,k⟩ L=(((st.fdiv 3) ^ 3).fmod L,⟨cells,great,st,(k:Int)+1⟩):=by unfold jk;rw[bi hg,bi (by rw[bg]at hc;exact hc)];rfl
   rw[ed];show bm (ex 5000 (ev T0 (OO m) 60) 30) (.cu (.cmp .Lt (.ah 102) (.ai 2 [.sub (.ah 100) (.aq 0)])) _ []::[.ret (.bin .Mod (.bin .Pow (.bin .FloorDiv (.sub (.ah 100) (.aq 2)) (.aq 3)) (.aq 3)) (.ah 101))]) _ _=_;have s0:0<=st:=by show 0<=Int.fmod _ 2147483647;rw[Int.fmod_eq_emod_of_nonneg _ (by omega)];exact Int.emod_nonneg _ (by omega)
   have s1:st<2147483647:=by show Int.fmod _ 2147483647<_;rw[Int.fmod_eq_emod_of_nonneg _ (by omega)];exact Int.emod_lt_of_pos _ (by omega)
   have pw:v6 T0.lim .Pow (.int (st.fdiv 3)) (.int 3)=some (.int ((st.fdiv 3) ^ 3)):=by
    show grd (Nat.ble 3 1000&&Nat.blt (st.fdiv 3).natAbs 18446744073709551616) (some (AV.int ((st.fdiv 3) ^ 3)))=_;have:(st.fdiv 3).natAbs<18446744073709551616:=by rw[Int.fdiv_eq_ediv_of_nonneg _ (by omega)];omega
    rw[show Nat.blt (st.fdiv 3).natAbs 18446744073709551616=true from bp this];rfl
   have er:ev T0 (OO m) 60 (.bin .Mod (.bin .Pow (.bin .FloorDiv (.sub (.ah 100) (.aq 2)) (.aq 3)) (.aq 3)) (.ah 101)) ⟨[(100,.sp 0),(101,.int L),(102,.int k)],none⟩ (Bx ⟨cells,great,st,(k:Int)+1⟩)=some (.int (((st.fdiv 3) ^ 3).fmod L),Bx ⟨cells,great,st,(k:Int)+1⟩):=by
    refine fY (x:=.int ((st.fdiv 3) ^ 3)) (y:=.int L) (fY (x:=.int (st.fdiv 3)) (y:=.int 3) (fY (x:=.int st) (y:=.int 3) ?_ ?_ rfl) ?_ pw) ?_ ?_
    ·kernel_rfl
    ·kernel_rfl
    ·kernel_rfl
    ·kernel_rfl
    ·refine yz hL ?_ ?_ ?_ ?_ ?_ ?_<;>rfl
   rw[bm,qq el,bi bM];have:ex 5000 (ev T0 (OO m) 60) 30 (.ret (.bin .Mod (.bin .Pow (.bin .FloorDiv (.sub (.ah 100) (.aq 2)) (.aq 3)) (.aq 3)) (.ah 101))) ⟨[(100,.sp 0),(101,.int L),(102,.int k)],none⟩ (Bx ⟨cells,great,st,(k:Int)+1⟩)=some (.ret (.int (((st.fdiv 3) ^ 3).fmod L)) (Bx ⟨cells,great,st,(k:Int)+1⟩)):=by show dc 5000 (ev T0 (OO m) 60) (ex 5000 (ev T0 (OO m) 60) 29) _ _ _=_;unfold dc;dsimp only;rw[er]
   show bm (ex 5000 (ev T0 (OO m) 60) 30) [.ret (.bin .Mod (.bin .Pow (.bin .FloorDiv (.sub (.ah 100) (.aq 2)) (.aq 3)) (.aq 3)) (.ah 101))] ⟨[(100,.sp 0),(101,.int L),(102,.int k)],none⟩ (Bx ⟨cells,great,st,(k:Int)+1⟩)=_;rw[bm,this]
theorem cy(h:lV n b)(hn:n<=1000000)(L:Nat)(hL:L∈BS):∃d b',d<L/\lV (n+1) b'/\Ok 1 68 [.sp 0,.int (.ofNat L)] (Bx b) (.int (.ofNat d)) (Bx b'):=by refine aH h.it λk hp hk=>?_;refine aH (KY hL (DD b L)) λd hd e=>?_;refine⟨d,(jk b L).2,hd,⟨k+1,by rw[yy,hp];exact OA,by exact Ky hk⟩,λn hn=>?_⟩;obtain⟨m,rfl⟩:∃m,n=m+1:=⟨n-1,by exact DF hn⟩;show(match bm (ex 5000 (ev T0 (OO m) 60) 30) eH ⟨[(100,.sp 0),(101,.int L)],none⟩ (Bx b)with|some (.ret v g')=>some (v,g')|some (.next _ g')=>some (.none,g')|none=>none)=_;rw[DE hp (OB ‹_› hk) hL,e];rfl
end
section
structure Raw where
 n0:Nat
 k:Nat
 vs:List AV
 g:G
 v:AV
 g1:G
noncomputable def Fact.raw(f:Fact):Raw:=⟨f.n0,f.k,f.vs,f.g,f.v,f.g1⟩
noncomputable def Raw.key(f:Raw):Key:=(f.k,f.vs,f.g)
noncomputable def tR:FT->List Raw->Option (List Key×List (Nat×Nat)×(AV×G))
 |.ret v g,_=>some ([],[],(v,g))|.fail,_=>none|.call _ _ _ _ _,[]=>none|.call n k vs g K,f::fs=>match Nat.ble f.n0 n with|true=>(match tR (K f.v f.g1) fs with|some (ks,ns,r)=>some ((k,vs,g)::ks,ns,r)|none=>none)|false=>none
 |.need n b K,fs=>match tR K fs with|some (ks,ns,r)=>some (ks,(n,b)::ns,r)|none=>none
theorem vb:∀(t:FT) (fs:List Fact),play t fs=tR t (fs.map Fact.raw)|.ret v g,fs=>rfl|.fail,fs=>rfl|.call _ _ _ _ _,[]=>rfl|.call n k vs g K,f::fs=>by have e:=vb (K f.v f.g1) fs;show(match Nat.ble f.n0 n with|true=>(match play (K f.v f.g1) fs with|some (ks,ns,r)=>some ((k,vs,g)::ks,ns,r)|none=>none)|false=>none)=(match Nat.ble f.n0 n with|true=>(match tR (K f.v f.g1) (fs.map Fact.raw)with|some (ks,ns,r)=>some ((k,vs,g)::ks,ns,r)|none=>none)|false=>none);rw[e]|.need n b K,fs=>by have e:=vb K fs;show(match play K fs with|some (ks,ns,r)=>some (ks,(n,b)::ns,r)|none=>none)=(match tR K (fs.map Fact.raw)with|some (ks,ns,r)=>some (ks,(n,b)::ns,r)|none=>none);rw[e]
theorem IL{α:Type}{l:List α}{a:α}(ha:a∈l)(S)(raws:α->List Raw)(v:α->AV)(fs:List Fact)(hf:fs.map Fact.raw=raws a)(h:∀m,(l.map λa=>tR (treeOf false S (m+d) k vs g) (raws a))=l.map λa=>some ((raws a).map Raw.key,[],(v a,g1))):Ok d k vs g (v a) g1:=by refine fK (S:=S) fs λm=>?_;have e:=i7 (h m) a ha;rw[vb,hf,e,←hf,List.map_map];rfl
def CT(c K k:Nat)(vs:List AV)(P:AV->Prop):Prop:=∀n b,lV n b->n+c<=1000000->∃v b',P v/\lV (n+c) b'/\Ok K k vs (Bx b) v (Bx b')
noncomputable def FG(w d:Nat):Option Sub:=match w with|1=>some (.one d)|2=>some .ind|3=>some (.eY d)|4=>some (.xS d)|_=>none
noncomputable def FH(w d:Nat):Option oL:=match w with|1=>some (.one d)|2=>some (.ind d)|_=>none
def refOf(x:Nat×Nat×Nat×Nat)(d:Nat):Ref:=⟨lP.getD x.1 [],qL.getD x.2.1 [],FG x.2.2.1 d,FH x.2.2.2 d⟩
noncomputable def c4:List (Nat×Nat×Nat×Nat):=(List.range 4).flatMap λa=>(List.range 3).flatMap λb=>(List.range 6).flatMap λc=>(List.range 4).map λd=>(a,b,c,d)
theorem Mx(h1:a<4)(h2:b<3)(h3:c<6)(h4:d<4):(a,b,c,d)∈c4:=
 List.mem_flatMap.mpr ⟨a,List.mem_range.mpr h1,List.mem_flatMap.mpr ⟨b,List.mem_range.mpr h2,List.mem_flatMap.mpr ⟨c,List.mem_range.mpr h3,cI.mpr ⟨d,List.mem_range.mpr h4,rfl⟩⟩⟩⟩
theorem My(h:d<9):1+d∈dL:=by
 have:∀d<9,1+d∈dL:=by decide
 exact this d h
theorem FK(h1:a<4)(h2:b<3)(h5:e∈dL):(refOf (a,b,c,d) e).ok:=by
 refine⟨?_,?_,λx hx=>?_,λx hx=>?_⟩
 ·have:∀a<4,lP.getD a []∈lP:=by decide
  exact this a h1
 ·have:∀b<3,qL.getD b []∈qL:=by decide
  exact this b h2
 ·have hx:FG c e=some x:=hx;unfold FG at hx
  split at hx<;>(first|(refine bD hx λx=>?_;subst x)|exact aI hx)
  ·exact h5
  ·exact trivial
  ·exact h5
  ·exact h5
 ·have hx:FH d e=some x:=hx;unfold FH at hx
  split at hx<;>(first|(refine bD hx λx=>?_;subst x)|exact aI hx)
  ·exact h5
  ·exact h5
theorem mX:CT 5 10 69 [.sp 0] λv=>∃r:Ref,r.ok/\v=r.v:=by
 refine λn b p hn=>dp (cy p (mB 0 hn rfl) 4 (by decide)) λd1 b1 l1 p1 f1=>?_;refine dp (cy p1 (mB 1 hn rfl) 3 (by decide)) λd2 b2 l2 p2 f2=>?_;refine dp (cy p2 (mB 2 hn rfl) 6 (by decide)) λd3 b3 l3 p3 f3=>?_;refine dp (cy p3 (mB 3 hn rfl) 9 (by decide)) λd4 b4 l4 p4 f4=>?_;refine dp (cy p4 (mB 4 hn rfl) 4 (by decide)) λd5 b5 l5 p5 f5=>?_;refine⟨_,b5,⟨refOf (d1,d2,d3,d5) (1+d4),FK l1 l2 (My l4),rfl⟩,p5,?_⟩
 exact IL (Mx l1 l2 l3 l5) [68] (λx=>[⟨1,68,[.sp 0,.int (.ofNat 4)],Bx b,.int (.ofNat x.1),Bx b1⟩,⟨1,68,[.sp 0,.int (.ofNat 3)],Bx b1,.int (.ofNat x.2.1),Bx b2⟩,⟨1,68,[.sp 0,.int (.ofNat 6)],Bx b2,.int (.ofNat x.2.2.1),Bx b3⟩,
  ⟨1,68,[.sp 0,.int (.ofNat 9)],Bx b3,.int (.ofNat d4),Bx b4⟩,⟨1,68,[.sp 0,.int (.ofNat 4)],Bx b4,.int (.ofNat x.2.2.2),Bx b5⟩]) (λx=>(refOf x (1+d4)).v) [aK f1,aK f2,aK f3,aK f4,aK f5] rfl λm=>by kernel_rfl
end
section
theorem JG:CT 6 15 70 [.sp 0,.str [114,110]] λv=>∃o:pM,o.ok/\v=o.v:=by
 refine λn b p hn=>dp (cy p (mB 0 hn rfl) 2 (by decide)) λd b1 l p1 f1=>?_
 match d,l with
 |0,_=>obtain⟨v,b2,⟨r,hr,rfl⟩,p2,f2⟩:=mX _ _ p1 (by omega);exact⟨_,b2,⟨.ref r,hr,rfl⟩,p2,fK (S:=[68,69]) [aK f1,aK f2] λm=>by kernel_rfl⟩|1,_=>
  refine dp (cy p1 (mB 1 hn rfl) 6 (by decide)) λe b2 l2 p2 f2=>?_
  match e,l2 with|0,_=>exact⟨_,b2,⟨.num .n0,trivial,rfl⟩,p2.le (mA 2 6 rfl),fK (S:=[68,69]) [aK f1,aK f2] λm=>by kernel_rfl⟩|1,_=>exact⟨_,b2,⟨.num .n5,trivial,rfl⟩,p2.le (mA 2 6 rfl),fK (S:=[68,69]) [aK f1,aK f2] λm=>by kernel_rfl⟩|2,_=>exact⟨_,b2,⟨.num .m3,trivial,rfl⟩,p2.le (mA 2 6 rfl),fK (S:=[68,69]) [aK f1,aK f2] λm=>by kernel_rfl⟩|3,_=>exact⟨_,b2,⟨.num .DY,trivial,rfl⟩,p2.le (mA 2 6 rfl),fK (S:=[68,69]) [aK f1,aK f2] λm=>by kernel_rfl⟩|4,_=>exact⟨_,b2,⟨.num .OU,trivial,rfl⟩,p2.le (mA 2 6 rfl),fK (S:=[68,69]) [aK f1,aK f2] λm=>by kernel_rfl⟩|5,_=>exact⟨_,b2,⟨.num .OV,trivial,rfl⟩,p2.le (mA 2 6 rfl),fK (S:=[68,69]) [aK f1,aK f2] λm=>by kernel_rfl⟩
theorem Qj(hs:(s=[114,116]/\L=2)∨(s=[114,116,122]/\L=3))(hd:d=1)(f1:Ok 1 68 [.sp 0,.int (.ofNat L)] (Bx b) (.int (.ofNat d)) (Bx b1))(p1:lV n b1)(hn:n+1<=1000000):
  ∃v b',(∃o:pn,o.ok/\v=o.v)/\lV (n+1) b'/\Ok 15 70 [.sp 0,.str s] (Bx b) v (Bx b'):=by
 subst hd;refine dp (cy p1 (mB 0 hn rfl) 4 (by decide)) λe b2 l2 p2 f2=>?_
 match e,l2 with|0,_=>exact⟨_,b2,⟨.ab,trivial,rfl⟩,p2,by(refine Or.elim hs (λoz=>?_) λoz=>?_;(revert oz;refine λoz=>aG oz λjx dN=>?_;subst jx dN);rotate_left;(revert oz;refine λoz=>aG oz λjx dN=>?_;subst jx dN);rotate_right)<;>exact fK (S:=[68,69]) [aK f1,aK f2] λm=>by kernel_rfl⟩|1,_=>exact⟨_,b2,⟨.x,trivial,rfl⟩,p2,by(refine Or.elim hs (λoz=>?_) λoz=>?_;(revert oz;refine λoz=>aG oz λjx dN=>?_;subst jx dN);rotate_left;(revert oz;refine λoz=>aG oz λjx dN=>?_;subst jx dN);rotate_right)<;>exact fK (S:=[68,69]) [aK f1,aK f2] λm=>by kernel_rfl⟩|2,_=>exact⟨_,b2,⟨.three,trivial,rfl⟩,p2,by(refine Or.elim hs (λoz=>?_) λoz=>?_;(revert oz;refine λoz=>aG oz λjx dN=>?_;subst jx dN);rotate_left;(revert oz;refine λoz=>aG oz λjx dN=>?_;subst jx dN);rotate_right)<;>exact fK (S:=[68,69]) [aK f1,aK f2] λm=>by kernel_rfl⟩|3,_=>exact⟨_,b2,⟨.zero,trivial,rfl⟩,p2,by(refine Or.elim hs (λoz=>?_) λoz=>?_;(revert oz;refine λoz=>aG oz λjx dN=>?_;subst jx dN);rotate_left;(revert oz;refine λoz=>aG oz λjx dN=>?_;subst jx dN);rotate_right)<;>exact fK (S:=[68,69]) [aK f1,aK f2] λm=>by kernel_rfl⟩
theorem Qk(hs:(s=[114,116]/\L=2)∨(s=[114,116,122]/\L=3))(hd:d=0)(f1:Ok 1 68 [.sp 0,.int (.ofNat L)] (Bx b) (.int (.ofNat d)) (Bx b1))(p1:lV n b1)(hn:n+5<=1000000):
  ∃v b',(∃o:pn,o.ok/\v=o.v)/\lV (n+5) b'/\Ok 15 70 [.sp 0,.str s] (Bx b) v (Bx b'):=by
 subst hd;obtain⟨v,b2,⟨r,hr,rfl⟩,p2,f2⟩:=mX _ _ p1 (by omega);exact⟨_,b2,⟨.ref r,hr,rfl⟩,p2,by(refine Or.elim hs (λoz=>?_) λoz=>?_;(revert oz;refine λoz=>aG oz λjx dN=>?_;subst jx dN);rotate_left;(revert oz;refine λoz=>aG oz λjx dN=>?_;subst jx dN);rotate_right)<;>exact fK (S:=[68,69]) [aK f1,aK f2] λm=>by kernel_rfl⟩
theorem uR:CT 6 15 70 [.sp 0,.str [114,116]] λv=>∃o:pn,o.ok/\v=o.v:=by
 refine λn b p hn=>dp (cy p (mB 0 hn rfl) 2 (by decide)) λd b1 l p1 f1=>?_
 match d,l with|0,_=>exact Qk (.inl ⟨rfl,rfl⟩) rfl f1 p1 (by omega)|1,_=>refine dp (Qj (.inl ⟨rfl,rfl⟩) rfl f1 p1 (mB 2 hn rfl)) λv b' h p' f=>?_;exact⟨v,b',h,p'.le (mA 2 6 rfl),f⟩
theorem L7:CT 6 15 70 [.sp 0,.str [114,116,122]] λv=>∃o:pn,o.ok/\v=o.v:=by
 refine λn b p hn=>dp (cy p (mB 0 hn rfl) 3 (by decide)) λd b1 l p1 f1=>?_
 match d,l with|0,_=>exact Qk (.inr ⟨rfl,rfl⟩) rfl f1 p1 (by omega)|1,_=>refine dp (Qj (.inr ⟨rfl,rfl⟩) rfl f1 p1 (mB 2 hn rfl)) λv b' h p' f=>?_;exact⟨v,b',h,p'.le (mA 2 6 rfl),f⟩|2,_=>exact⟨_,b1,⟨.RW,trivial,rfl⟩,p1.le (mA 1 6 rfl),fK (S:=[68,69]) [aK f1] λm=>by kernel_rfl⟩
theorem AE:CT 6 15 76 [.sp 0] λv=>∃c:eu,c.ok/\v=c.v:=by
 intro n b p hn;obtain⟨v,b1,⟨r,hr,rfl⟩,p1,f1⟩:=mX _ _ p (mB 5 hn rfl);refine dp (cy p1 (mB 5 hn rfl) 4 (by decide)) λe b2 l2 p2 f2=>?_
 match e,l2 with|0,_=>exact⟨_,b2,⟨.eq r,hr,rfl⟩,p2,fK (S:=[68,69]) [aK f1,aK f2] λm=>by kernel_rfl⟩|1,_=>exact⟨_,b2,⟨.cls r,hr,rfl⟩,p2,fK (S:=[68,69]) [aK f1,aK f2] λm=>by kernel_rfl⟩|2,_=>exact⟨_,b2,⟨.zero r,hr,rfl⟩,p2,fK (S:=[68,69]) [aK f1,aK f2] λm=>by kernel_rfl⟩|3,_=>exact⟨_,b2,⟨.le r r,⟨hr,hr⟩,rfl⟩,p2,fK (S:=[68,69]) [aK f1,aK f2] λm=>by kernel_rfl⟩
theorem l7:CT 1 5 75 [.sp 0] λv=>∃q:Pr,q.ok/\v=q.v:=by
 refine λn b p hn=>dp (cy p (mB 0 hn rfl) 4 (by decide)) λe b2 l2 p2 f2=>?_
 match e,l2 with|0,_=>exact⟨_,b2,⟨JH,tr (by kernel_rfl),rfl⟩,p2,fK (S:=[68]) [aK f2] λm=>by kernel_rfl⟩|1,_=>exact⟨_,b2,⟨JI,tr (by kernel_rfl),rfl⟩,p2,fK (S:=[68]) [aK f2] λm=>by kernel_rfl⟩|2,_=>exact⟨_,b2,⟨JJ,tr (by kernel_rfl),rfl⟩,p2,fK (S:=[68]) [aK f2] λm=>by kernel_rfl⟩|3,_=>exact⟨_,b2,⟨JK,tr (by kernel_rfl),rfl⟩,p2,fK (S:=[68]) [aK f2] λm=>by kernel_rfl⟩
theorem rG:CT 2 5 72 [.sp 0] λv=>∃q:rI,v=q.v:=by
 refine λn b p hn=>dp (cy p (mB 0 hn rfl) 2 (by decide)) λd b1 l1 p1 f1=>?_;refine dp (cy p1 (mB 1 hn rfl) 2 (by decide)) λe b2 l2 p2 f2=>?_
 match d,l1,e,l2 with|0,_,0,_=>exact⟨_,b2,⟨.ce,rfl⟩,p2,fK (S:=[68]) [aK f1,aK f2] λm=>by kernel_rfl⟩|0,_,1,_=>exact⟨_,b2,⟨.Sj,rfl⟩,p2,fK (S:=[68]) [aK f1,aK f2] λm=>by kernel_rfl⟩|1,_,0,_=>exact⟨_,b2,⟨.e,rfl⟩,p2,fK (S:=[68]) [aK f1,aK f2] λm=>by kernel_rfl⟩|1,_,1,_=>exact⟨_,b2,⟨.ec,rfl⟩,p2,fK (S:=[68]) [aK f1,aK f2] λm=>by kernel_rfl⟩
structure UQ(n:Nat)(b:vx)(x:Row)(b1 b2 b3 b4:vx):Prop where
 ok:x.ok
 p:lV (n+23) b4
 f1:Ok 10 69 [.sp 0] (Bx b) x.r.v (Bx b1)
 f2:Ok 15 70 [.sp 0,.str [114,110]] (Bx b1) x.a.v (Bx b2)
 f3:Ok 15 70 [.sp 0,.str [114,110]] (Bx b2) x.b.v (Bx b3)
 f4:Ok 15 76 [.sp 0] (Bx b3) x.c.v (Bx b4)
theorem AF(p:lV n b)(hn:n+23<=1000000):∃x b1 b2 b3 b4,UQ n b x b1 b2 b3 b4:=by obtain⟨_,b1,⟨r,hr,rfl⟩,p1,f1⟩:=mX _ _ p (mB 5 hn rfl);obtain⟨_,b2,⟨o,ho,rfl⟩,p2,f2⟩:=JG _ _ p1 (mB 11 hn rfl);obtain⟨_,b3,⟨o',ho',rfl⟩,p3,f3⟩:=JG _ _ p2 (mB 17 hn rfl);obtain⟨_,b4,⟨c,hc,rfl⟩,p4,f4⟩:=AE _ _ p3 (by omega);exact⟨⟨r,o,o',c⟩,b1,b2,b3,b4,⟨hr,ho,ho',hc⟩,p4,f1,f2,f3,f4⟩
theorem zb(h:d<90):3+d∈jM:=cI.mpr ⟨d,List.mem_range.mpr h,rfl⟩
theorem EO:CT 72 25 77 [.sp 0] λv=>∃l:Loop,l.ok/\v=l.v:=by
 refine λn b p hn=>dp (cy p (mB 0 hn rfl) 4 (by decide)) λd b1 l1 p1 f1=>?_
 match d,l1 with
 |0,_=>exact⟨_,b1,⟨.once,trivial,rfl⟩,p1.le (mA 1 72 rfl),fK (S:=[68,69,70,76]) [aK f1] λm=>by kernel_rfl⟩|1,_=>
  refine dp (cy p1 (mB 1 hn rfl) 2 (by decide)) λe b2 l2 p2 f2=>?_
  match e,l2 with|0,_=>obtain⟨_,b3,⟨r,hr,rfl⟩,p3,f3⟩:=mX _ _ p2 (mB 7 hn rfl);exact⟨_,b3,⟨.fy r,hr,rfl⟩,p3.le (mA 7 72 rfl),fK (S:=[68,69,70,76]) [aK f1,aK f2,aK f3] λm=>by kernel_rfl⟩|1,_=>refine dp (cy p2 (mB 2 hn rfl) 90 (by decide)) λk b3 l3 p3 f3=>?_;exact⟨_,b3,⟨.fz (3+k),zb l3,rfl⟩,p3.le (mA 3 72 rfl),fK (S:=[68,69,70,76]) [aK f1,aK f2,aK f3] λm=>by kernel_rfl⟩
 |2,_=>
  refine dp (cy p1 (mB 1 hn rfl) 2 (by decide)) λe b2 l2 p2 f2=>?_;obtain⟨_,b3,⟨c,hc,rfl⟩,p3,f3⟩:=AE _ _ p2 (mB 8 hn rfl)
  match e,l2 with|0,_=>exact⟨_,b3,⟨.xT false c,hc,rfl⟩,p3.le (mA 8 72 rfl),fK (S:=[68,69,70,76]) [aK f1,aK f2,aK f3] λm=>by kernel_rfl⟩|1,_=>exact⟨_,b3,⟨.xT true c,hc,rfl⟩,p3.le (mA 8 72 rfl),fK (S:=[68,69,70,76]) [aK f1,aK f2,aK f3] λm=>by kernel_rfl⟩
 |3,_=>
  refine dp (cy p1 (mB 1 hn rfl) 2 (by decide)) λe b2 l2 p2 f2=>?_;refine dp (cy p2 (mB 2 hn rfl) 3 (by decide)) λk b3 l3 p3 f3=>?_;refine Ef (AF p3 (mB 26 hn rfl)) λx c1 c2 c3 c4 h=>?_
  match k,l3 with
  |0,_=>match e,l2 with|0,_=>exact⟨_,c4,⟨.kP false x,h.ok,rfl⟩,h.p.le (mA 26 72 rfl),fK (S:=[68,69,70,76]) [aK f1,aK f2,aK f3,aK h.f1,aK h.f2,aK h.f3,aK h.f4] λm=>by kernel_rfl⟩|1,_=>exact⟨_,c4,⟨.kP true x,h.ok,rfl⟩,h.p.le (mA 26 72 rfl),fK (S:=[68,69,70,76]) [aK f1,aK f2,aK f3,aK h.f1,aK h.f2,aK h.f3,aK h.f4] λm=>by kernel_rfl⟩
  |1,_=>
   refine Ef (AF h.p (mB 49 hn rfl)) λy e1 e2 e3 e4 h'=>?_
   match e,l2 with|0,_=>exact⟨_,e4,⟨.kQ false x y,⟨h.ok,h'.ok⟩,rfl⟩,h'.p.le (mA 49 72 rfl),fK (S:=[68,69,70,76]) [aK f1,aK f2,aK f3,aK h.f1,aK h.f2,aK h.f3,aK h.f4,aK h'.f1,aK h'.f2,aK h'.f3,aK h'.f4] λm=>by kernel_rfl⟩|1,_=>exact⟨_,e4,⟨.kQ true x y,⟨h.ok,h'.ok⟩,rfl⟩,h'.p.le (mA 49 72 rfl),fK (S:=[68,69,70,76]) [aK f1,aK f2,aK f3,aK h.f1,aK h.f2,aK h.f3,aK h.f4,aK h'.f1,aK h'.f2,aK h'.f3,aK h'.f4] λm=>by kernel_rfl⟩
  |2,_=>
   refine Ef (AF h.p (mB 49 hn rfl)) λy e1 e2 e3 e4 h'=>Ef (AF h'.p (by omega)) λz g1 g2 g3 g4 h2=>?_
   match e,l2 with|0,_=>exact⟨_,g4,⟨.kR false x y z,⟨h.ok,h'.ok,h2.ok⟩,rfl⟩,h2.p.le (mA 72 72 rfl),fK (S:=[68,69,70,76]) [aK f1,aK f2,aK f3,aK h.f1,aK h.f2,aK h.f3,aK h.f4,aK h'.f1,aK h'.f2,aK h'.f3,aK h'.f4,aK h2.f1,aK h2.f2,aK h2.f3,aK h2.f4] λm=>by kernel_rfl⟩|1,_=>exact⟨_,g4,⟨.kR true x y z,⟨h.ok,h'.ok,h2.ok⟩,rfl⟩,h2.p.le (mA 72 72 rfl),fK (S:=[68,69,70,76]) [aK f1,aK f2,aK f3,aK h.f1,aK h.f2,aK h.f3,aK h.f4,aK h'.f1,aK h'.f2,aK h'.f3,aK h'.f4,aK h2.f1,aK h2.f2,aK h2.f3,aK h2.f4] λm=>by kernel_rfl⟩
theorem L8(h:p.ok)(h':q.ok):p=q∨(p,q)∈zc:=by
 have z:=aS.mp (aS.mp (show(CU.all λp=>CU.all λq=>zd p q||zc.any λx=>zd x.1 p&&zd x.2 q)=true by kernel_rfl) p h) q h';refine Or.elim (bv.mp z) (λz=>?_) λz=>?_
 ·exact .inl (pR z)
 ·obtain⟨⟨a,b⟩,h1,h2⟩:=List.any_eq_true.mp z;refine aG (bk.mp h2) λh3 h4=>?_;rw[←pR h3,←pR h4];exact .inr h1
theorem L9:CT 76 35 78 [.sp 0] λv=>∃x:wN,x.g.ok/\x.l.ok/\v=x.v:=by
 intro n b p hn;obtain⟨_,b1,⟨q,hq,rfl⟩,p1,f1⟩:=l7 _ _ p (mB 1 hn rfl);refine dp (cy p1 (mB 1 hn rfl) 2 (by decide)) λd b2 l2 p2 f2=>?_
 match d,l2 with
 |0,_=>obtain⟨_,b3,⟨bd,rfl⟩,p3,f3⟩:=rG _ _ p2 (mB 4 hn rfl);obtain⟨_,b4,⟨l,hl,rfl⟩,p4,f4⟩:=EO _ _ p3 (by omega);exact⟨_,b4,⟨⟨.JL bd,l⟩,trivial,hl,rfl⟩,p4.le (mA 76 76 rfl),fK (S:=[68,72,75,77]) [aK f1,aK f2,aK f3,aK f4] λm=>by kernel_rfl⟩|1,_=>
  obtain⟨_,b3,⟨q2,hq2,rfl⟩,p3,f3⟩:=l7 _ _ p2 (mB 3 hn rfl);refine dp (cy p3 (mB 3 hn rfl) 2 (by decide)) λe b4 l4 p4 f4=>?_;obtain⟨_,b5,⟨l,hl,rfl⟩,p5,f5⟩:=EO _ _ p4 (by omega)
  match e,l4 with
  |0,_=>exact⟨_,b5,⟨⟨.rng (.one q),l⟩,hq,hl,rfl⟩,p5.le (mA 76 76 rfl),fK (S:=[68,72,75,77]) [aK f1,aK f2,aK f3,aK f4,aK f5] λm=>by kernel_rfl⟩|1,_=>
   refine Or.elim (L8 hq hq2) (λoz=>?_) λh2=>?_;(subst oz)
   ·exact⟨_,b5,⟨⟨.rng (.one q),l⟩,hq,hl,rfl⟩,p5.le (mA 76 76 rfl),fK (S:=[68,72,75,77]) [aK f1,aK f2,aK f3,aK f4,aK f5] λm=>by kernel_rfl⟩
   ·exact⟨_,b5,⟨⟨.rng (.two q q2),l⟩,h2,hl,rfl⟩,p5.le (mA 76 76 rfl),fK (S:=[68,72,75,77]) [aK f1,aK f2,aK f3,aK f4,aK f5] λm=>by kernel_rfl⟩
theorem Ma:CT 10 35 79 [.sp 0] λv=>∃x:Gp,x.ok/\v=x.v:=by
 refine λn b p hn=>dp (cy p (mB 0 hn rfl) 2 (by decide)) λd b1 l1 p1 f1=>?_
 match d,l1 with
 |0,_=>obtain⟨_,b2,⟨q,hq,rfl⟩,p2,f2⟩:=l7 _ _ p1 (mB 2 hn rfl);exact⟨_,b2,⟨.go q,hq,rfl⟩,p2.le (mA 2 10 rfl),fK (S:=[68,69,75]) [aK f1,aK f2] λm=>by kernel_rfl⟩|1,_=>
  refine dp (cy p1 (mB 1 hn rfl) 3 (by decide)) λe b2 l2 p2 f2=>?_;obtain⟨_,b3,⟨q,hq,rfl⟩,p3,f3⟩:=l7 _ _ p2 (mB 3 hn rfl)
  match e,l2 with|0,_=>obtain⟨_,b4,⟨r,hr,rfl⟩,p4,f4⟩:=mX _ _ p3 (mB 8 hn rfl);exact⟨_,b4,⟨.d1 q r,⟨hq,hr⟩,rfl⟩,p4.le (mA 8 10 rfl),fK (S:=[68,69,75]) [aK f1,aK f2,aK f3,aK f4] λm=>by kernel_rfl⟩|1,_=>obtain⟨_,b4,⟨q2,hq2,rfl⟩,p4,f4⟩:=l7 _ _ p3 (mB 4 hn rfl);obtain⟨_,b5,⟨r,hr,rfl⟩,p5,f5⟩:=mX _ _ p4 (mB 9 hn rfl);exact⟨_,b5,⟨.d2 q q2 r,⟨hq,hq2,hr⟩,rfl⟩,p5.le (mA 9 10 rfl),fK (S:=[68,69,75]) [aK f1,aK f2,aK f3,aK f4,aK f5] λm=>by kernel_rfl⟩|2,_=>obtain⟨_,b4,⟨q2,hq2,rfl⟩,p4,f4⟩:=l7 _ _ p3 (mB 4 hn rfl);obtain⟨_,b5,⟨q3,hq3,rfl⟩,p5,f5⟩:=l7 _ _ p4 (mB 5 hn rfl);obtain⟨_,b6,⟨r,hr,rfl⟩,p6,f6⟩:=mX _ _ p5 (by omega);exact⟨_,b6,⟨.d3 q q2 q3 r,⟨hq,hq2,hq3,hr⟩,rfl⟩,p6.le (mA 10 10 rfl),fK (S:=[68,69,75]) [aK f1,aK f2,aK f3,aK f4,aK f5,aK f6] λm=>by kernel_rfl⟩
noncomputable def Ql:AV:=.list [.str [102,97,117,108,116],.str [110,111,116,32,102,97,117,108,116]]
theorem AG:CT 5 15 102 [.sp 0,Ql] λv=>∃x:pG,v=.aT x.l:=by
 refine λn b p hn=>dp (cy p (mB 0 hn rfl) 4 (by decide)) λd b1 l1 p1 f1=>?_
 match d,l1 with|0,_=>exact⟨_,b1,⟨⟨none,none⟩,rfl⟩,p1.le (mA 1 5 rfl),fK (S:=[68,72]) [aK f1] λm=>by kernel_rfl⟩|1,_=>obtain⟨_,b2,⟨x,rfl⟩,p2,f2⟩:=rG _ _ p1 (mB 3 hn rfl);exact⟨_,b2,⟨⟨some x,none⟩,rfl⟩,p2.le (mA 3 5 rfl),fK (S:=[68,72]) [aK f1,aK f2] λm=>by kernel_rfl⟩|2,_=>obtain⟨_,b2,⟨x,rfl⟩,p2,f2⟩:=rG _ _ p1 (mB 3 hn rfl);exact⟨_,b2,⟨⟨none,some x⟩,rfl⟩,p2.le (mA 3 5 rfl),fK (S:=[68,72]) [aK f1,aK f2] λm=>by kernel_rfl⟩|3,_=>obtain⟨_,b2,⟨x,rfl⟩,p2,f2⟩:=rG _ _ p1 (mB 3 hn rfl);obtain⟨_,b3,⟨y,rfl⟩,p3,f3⟩:=rG _ _ p2 (by omega);exact⟨_,b3,⟨⟨some x,some y⟩,rfl⟩,p3.le (mA 5 5 rfl),fK (S:=[68,72]) [aK f1,aK f2,aK f3] λm=>by kernel_rfl⟩
theorem arg_b(p:lV n b)(hn:n+7<=1000000):∃(a:Arg) (d:Nat) (b1 b':vx),a.ok/\lV (n+7) b'/\Ok 1 68 [.sp 0,.int (.ofNat 2)] (Bx b) (.int (.ofNat d)) (Bx b1)/\
  ((d=0/\∃r,a=.ref r/\Ok 10 69 [.sp 0] (Bx b1) r.v (Bx b'))∨(d=1/\∃o,a=.con o/\Ok 15 70 [.sp 0,.str [114,116,122]] (Bx b1) o.v (Bx b'))):=by
 refine dp (cy p (mB 0 hn rfl) 2 (by decide)) λd b1 l1 p1 f1=>?_
 match d,l1 with|0,_=>obtain⟨_,b2,⟨r,hr,rfl⟩,p2,f2⟩:=mX _ _ p1 (mB 6 hn rfl);exact⟨.ref r,0,b1,b2,hr,p2.le (mA 6 7 rfl),f1,.inl ⟨rfl,r,rfl,f2⟩⟩|1,_=>obtain⟨_,b2,⟨o,ho,rfl⟩,p2,f2⟩:=L7 _ _ p1 (by omega);exact⟨.con o,1,b1,b2,ho,p2,f1,.inr ⟨rfl,o,rfl,f2⟩⟩
theorem Mb:CT 33 35 80 [.sp 0] λv=>∃x:CP,x.ok/\v=x.v:=by
 refine λn b p hn=>dp (cy p (mB 0 hn rfl) 4 (by decide)) λd b1 l1 p1 f1=>?_
 match d,l1 with|0,_=>obtain⟨_,b2,⟨o,ho,rfl⟩,p2,f2⟩:=uR _ _ p1 (mB 7 hn rfl);obtain⟨_,b3,⟨x,rfl⟩,p3,f3⟩:=AG _ _ p2 (mB 12 hn rfl);exact⟨_,b3,⟨⟨o,none,x⟩,⟨ho,λz_ h=>by exact aI h⟩,rfl⟩,p3.le (mA 12 33 rfl),fK (S:=[68,69,70,102]) [aK f1,aK f2,aK f3] λm=>by kernel_rfl⟩|1,_=>refine uH (arg_b p1 (mB 8 hn rfl)) λa e c1 c2 ha pa fa hor=>?_;obtain⟨_,b2,⟨o,ho,rfl⟩,p2,f2⟩:=uR _ _ pa (mB 14 hn rfl);obtain⟨_,b3,⟨x,rfl⟩,p3,f3⟩:=AG _ _ p2 (mB 19 hn rfl);refine⟨_,b3,⟨⟨o,some (.a1 a),x⟩,⟨ho,λz_ h=>by(refine bD h λx=>?_;subst x);exact ha⟩,rfl⟩,p3.le (mA 19 33 rfl),?_⟩;(refine Or.elim hor (λoz=>?_) λoz=>?_;(obtain⟨rfl,r,rfl,fr⟩:=oz);rotate_left;(obtain⟨rfl,r,rfl,fr⟩:=oz);rotate_right)<;>exact fK (S:=[68,69,70,102]) [aK f1,aK fa,aK fr,aK f2,aK f3] λm=>by kernel_rfl|2,_=>refine uH (arg_b p1 (mB 8 hn rfl)) λa e c1 c2 ha pa fa hor=>uH (arg_b pa (mB 15 hn rfl)) λa' e' c1' c2' ha' UR US Mc=>?_;obtain⟨_,b2,⟨o,ho,rfl⟩,p2,f2⟩:=uR _ _ UR (mB 21 hn rfl);obtain⟨_,b3,⟨x,rfl⟩,p3,f3⟩:=AG _ _ p2 (mB 26 hn rfl);refine⟨_,b3,⟨⟨o,some (.a2 a a'),x⟩,⟨ho,λz_ h=>by(refine bD h λx=>?_;subst x);exact⟨ha,ha'⟩⟩,rfl⟩,p3.le (mA 26 33 rfl),?_⟩;(refine Or.elim hor (λoz=>?_) λoz=>?_;(obtain⟨rfl,r,rfl,fr⟩:=oz);rotate_left;(obtain⟨rfl,r,rfl,fr⟩:=oz);rotate_right)<;>(refine Or.elim Mc (λoz=>?_) λoz=>?_;(obtain⟨rfl,r',rfl,fr'⟩:=oz);rotate_left;(obtain⟨rfl,r',rfl,fr'⟩:=oz);rotate_right)<;>exact fK (S:=[68,69,70,102]) [aK f1,aK fa,aK fr,aK US,aK fr',aK f2,aK f3] λm=>by kernel_rfl|3,_=>refine uH (arg_b p1 (mB 8 hn rfl)) λa e c1 c2 ha pa fa hor=>uH (arg_b pa (mB 15 hn rfl)) λa' e' c1' c2' ha' UR US Mc=>uH (arg_b UR (mB 22 hn rfl)) λa2 e2 c12 c22 ha2 pa2 fa2 UT=>?_;obtain⟨_,b2,⟨o,ho,rfl⟩,p2,f2⟩:=uR _ _ pa2 (mB 28 hn rfl);obtain⟨_,b3,⟨x,rfl⟩,p3,f3⟩:=AG _ _ p2 (by omega);refine⟨_,b3,⟨⟨o,some (.a3 a a' a2),x⟩,⟨ho,λz_ h=>by(refine bD h λx=>?_;subst x);exact⟨ha,ha',ha2⟩⟩,rfl⟩,p3.le (mA 33 33 rfl),?_⟩;(clear ha;(refine Or.elim hor (λoz=>?_) λoz=>?_;(obtain⟨rfl,r,rfl,fr⟩:=oz);rotate_left;(obtain⟨rfl,r,rfl,fr⟩:=oz);rotate_right))<;>(clear ha';(refine Or.elim Mc (λoz=>?_) λoz=>?_;(obtain⟨rfl,r',rfl,fr'⟩:=oz);rotate_left;(obtain⟨rfl,r',rfl,fr'⟩:=oz);rotate_right))<;>(clear ha2;(refine Or.elim UT (λoz=>?_) λoz=>?_;(obtain⟨rfl,r2,rfl,XS⟩:=oz);rotate_left;(obtain⟨rfl,r2,rfl,XS⟩:=oz);rotate_right))<;>exact fK (S:=[68,69,70,102]) [aK f1,aK fa,aK fr,aK US,aK fr',aK fa2,aK XS,aK f2,aK f3] λm=>by kernel_rfl
end
section
section
variable{O:By}{n k:Nat}{σ:Sg}{g g1:G}{l:Loc}{o:Option (Nat×List AV)}
theorem jD(h:fW x l=some v):ev T0 O (n+1) (.ah x) ⟨l,o⟩ g=some (v,g):=by show(match fW x l with|some v=>some (v,g)|none=>none)=_;rw[h]
theorem us(h:ev T0 O 60 e σ g=some (v,g1))(hn:fM σ x=true):ex 5000 (ev T0 O 60) (k+1) (.ca x e) σ g=some (.next ⟨db x v σ.ah,σ.own⟩ g1):=by show dc 5000 (ev T0 O 60) (ex 5000 (ev T0 O 60) k) (.ca x e) σ g=_;unfold dc;dsimp only;rw[h];rw[hn]
theorem gK(h:ih s σ g=some (.next σ1 g1)):bm ih (s::r) σ g=bm ih r σ1 g1:=by rw[bm,h]
theorem KC(h:fW 110 l=some (.int i)):ev T0 O 59 (.ai 97 [.ah 110]) ⟨l,none⟩ g=some (.int i,g):=by
 show dz T0 O (ev T0 O 58) (.ai 97 [.ah 110]) ⟨l,none⟩ g=_;unfold dz;dsimp only;have e:ci (ev T0 O 58) [.ah 110] ⟨l,none⟩ g=some ([.int i],g):=by rw[ci,jD h];rfl
 rw[e];rfl
theorem qo:∀(ys:List Int) (l:Loc),fw (ev T0 O 59) (.ai 97 [.ah 110]) [110] false [] σ (ys.map .int) l g=some (ys.map .int,g)|[],l=>rfl|y::r,l=>by have e:=KC (O:=O) (g:=g) (l:=db 110 (.int y) l) (i:=y) (by rw[cv,br rfl]);have ih:=qo r (db 110 (.int y) l);rw[aC];show(match ev T0 O 59 (.ai 97 [.ah 110]) ⟨db 110 (.int y) l,none⟩ g with|some (x,g2)=>(match fw (ev T0 O 59) (.ai 97 [.ah 110]) [110] false [] σ (r.map .int) (db 110 (.int y) l) g2 with|some (xs,g3)=>some (x::xs,g3)|none=>none)|none=>none)=_;rw[e];dsimp only;rw[ih]
end
theorem N3(xs:List Int):sD (.list (xs.map .int)) none (some (.int 48))=some (.list ((xs.take 48).map .int)):=by
 have key:eC (xs.map AV.int) none (some (.int 48))=some ((xs.take 48).map AV.int):=by
  show(some (((xs.map AV.int).take (match Nat.ble 48 (xs.map AV.int).length with|true=>48|false=>(xs.map AV.int).length)).drop 0))=_;cases q:Nat.ble 48 (xs.map AV.int).length with
  |true=>rw[List.drop_zero,List.map_take]|false=>
   have:(xs.map AV.int).length<48:=by
    refine Or.elim (Nat.lt_or_ge (xs.map AV.int).length 48) (λh=>?_) λh=>?_
    ·exact h
    ·rw[bp h]at q;exact il q
   rw[List.drop_zero,List.map_take,List.take_of_length_le (aD _),List.take_of_length_le (N4 this)]
 show(eC (xs.map AV.int) none (some (.int 48))).bind (λr=>some (AV.list r))=_;rw[key];rfl
noncomputable def qp:PE:=.comp (.ai 97 [.ah 110]) [110] false 0 [.fU (.ah 108) (.aq 48)] []
noncomputable def yk:PE:=.dF [.ah 109,.cmp .GtE (.ai 5 [.sub (.ah 109) (.aq 0)]) (.bin .Pow (.aq 10) (.aq 15))]
noncomputable def yl:PE:=.bin .Mod (.bin .FloorDiv (.ai 5 [.sub (.ah 109) (.aq 0)]) (.aq 2)) (.bin .Pow (.aq 10) (.aq 260))
noncomputable def mr:PE:=.bin .Mod (.bin .Add (.bin .Add (.bin .Mult (.ah 112) (.aq 48271)) (.bin .Mod (.ah 110) (.aq 2147483647))) (.aq 593)) (.aq 2147483647)
theorem KD:nG=[.ca 109 qp,.ca 111 (.aq 0),.cu yk [.ca 111 yl] [],.ca 112 (.aq 1),.ff [110] false 0 [.ah 109] [.ca 112 mr],.ret (.lst [.ah 109,.ah 111,.ah 112,.aq 0])]:=by kernel_rfl
theorem Dq(xs:List Int):ev T0 O 60 qp ⟨[(108,.list (xs.map .int))],none⟩ g=some (.list ((xs.take 48).map .int),g):=by
 show dz T0 O (ev T0 O 59) qp ⟨[(108,.list (xs.map .int))],none⟩ g=_;unfold qp dz;dsimp only;have e:ci (ev T0 O 59) [.fU (.ah 108) (.aq 48)] ⟨[(108,.list (xs.map .int))],none⟩ g=some ([.list ((xs.take 48).map .int)],g):=by
  have:ev T0 O 59 (.fU (.ah 108) (.aq 48)) ⟨[(108,.list (xs.map .int))],none⟩ g=some (.list ((xs.take 48).map .int),g):=by show(match sD (.list (xs.map .int)) none (some (.int 48))with|some r=>some (r,g)|none=>none)=_;rw[N3]
  rw[ci,this];rfl
 rw[e];show(match Nat.ble ((xs.take 48).map AV.int).length 100000 with|true=>(match fw (ev T0 O 59) (.ai 97 [.ah 110]) [110] false [] ⟨[(108,.list (xs.map .int))],none⟩ ((xs.take 48).map .int) [(108,.list (xs.map .int))] g with|some (xs,g2)=>some (AV.list xs,g2)|none=>none)|false=>none)=_;rw[bp (by rw[bg,cC];exact N5),qo]
theorem vV:∀(ys:List Int) (l:Loc) (st:Int),fW 112 l=some (.int st)->∃l' st',jE (ex 5000 (ev T0 (OO m) 60) 29) [110] false [.ca 112 mr] (ys.map .int) ⟨l,none⟩ g=some (.next ⟨l',none⟩ g)/\fW 112 l'=some (.int st')/\fW 109 l'=fW 109 l/\fW 111 l'=fW 111 l
 |[],l,st,h=>⟨l,st,rfl,h,rfl,rfl⟩|y::r,l,st,h=>by
  let st1:Int:=(st*48271+y.fmod 2147483647+593).fmod 2147483647
  have hl:fW 112 (db 110 (.int y) l)=some (.int st):=by rw[cv,bi (by decide)];exact h
  have hy:fW 110 (db 110 (.int y) l)=some (.int y):=by rw[cv,br rfl]
  have e:ev T0 (OO m) 60 mr ⟨db 110 (.int y) l,none⟩ g=some (.int st1,g):=
   fY (x:=.int (st*48271+y.fmod 2147483647+593)) (y:=.int 2147483647) (fY (x:=.int (st*48271+y.fmod 2147483647)) (y:=.int 593) (fY (x:=.int (st*48271)) (y:=.int (y.fmod 2147483647)) (fY (x:=.int st) (y:=.int 48271) (jD hl) rfl rfl) (fY (x:=.int y) (y:=.int 2147483647) (jD hy) rfl rfl) rfl) rfl rfl) rfl rfl
  have es:=us (k:=28) (x:=112) e rfl;refine N6 (vV (m:=m) (g:=g) r (db 112 (.int st1) (db 110 (.int y) l)) st1 (by rw[cv,br rfl])) λl' st' h1 h2 h3 h4=>?_;refine⟨l',st',?_,h2,?_,?_⟩
  ·skip;show(match bm (ex 5000 (ev T0 (OO m) 60) 29) [.ca 112 mr] ⟨db 110 (.int y) l,none⟩ g with
    |some (.next σ1 g1)=>jE (ex 5000 (ev T0 (OO m) 60) 29) [110] false [.ca 112 mr] (r.map .int) σ1 g1|some (.ret v g1)=>some (.ret v g1)|none=>none)=_
   rw[gK es];exact h1
  ·rw[h3,cv,bi (by decide),cv,bi (by decide)]
  ·rw[h4,cv,bi (by decide),cv,bi (by decide)]
theorem Dr(ys:List Int)(gr)(h9:fW 109 l=some (.list (ys.map .int)))(h11:fW 111 l=some (.int gr))(cM:ys.length<=48):
  ∃st,bm (ex 5000 (ev T0 (OO m) 60) 30) [.ca 112 (.aq 1),.ff [110] false 0 [.ah 109] [.ca 112 mr],.ret (.lst [.ah 109,.ah 111,.ah 112,.aq 0])] ⟨l,none⟩ g=some (.ret (.list [.list (ys.map .int),.int gr,.int st,.int 0]) g):=by
 have e1:ex 5000 (ev T0 (OO m) 60) 30 (.ca 112 (.aq 1)) ⟨l,none⟩ g=some (.next ⟨db 112 (.int 1) l,none⟩ g):=us (v:=.int 1) rfl rfl;have WX:fW 109 (db 112 (.int 1) l)=some (.list (ys.map .int)):=by rw[cv,bi (by decide)];exact h9
 refine N6 (vV (m:=m) (g:=g) ys (db 112 (.int 1) l) 1 (by rw[cv,br rfl])) λl' st k1 k2 k3 k4=>?_;have e2:ex 5000 (ev T0 (OO m) 60) 30 (.ff [110] false 0 [.ah 109] [.ca 112 mr]) ⟨db 112 (.int 1) l,none⟩ g=some (.next ⟨l',none⟩ g):=by
  show dc 5000 (ev T0 (OO m) 60) (ex 5000 (ev T0 (OO m) 60) 29) (.ff [110] false 0 [.ah 109] [.ca 112 mr]) ⟨db 112 (.int 1) l,none⟩ g=_;unfold dc;dsimp only;have e:ci (ev T0 (OO m) 60) [.ah 109] ⟨db 112 (.int 1) l,none⟩ g=some ([.list (ys.map .int)],g):=by rw[ci,jD WX];rfl
  rw[e];show(match Nat.ble (ys.map AV.int).length 100000 with|true=>jE (ex 5000 (ev T0 (OO m) 60) 29) [110] false [.ca 112 mr] (ys.map .int) ⟨db 112 (.int 1) l,none⟩ g|false=>none)=_;rw[bp (by rw[bg];exact mE cM rfl)];exact k1
 have YY:fW 109 l'=some (.list (ys.map .int)):=by rw[k3];exact WX
 have S9:fW 111 l'=some (.int gr):=by rw[k4,cv,bi (by decide)];exact h11
 have e3:ex 5000 (ev T0 (OO m) 60) 30 (.ret (.lst [.ah 109,.ah 111,.ah 112,.aq 0])) ⟨l',none⟩ g=some (.ret (.list [.list (ys.map .int),.int gr,.int st,.int 0]) g):=by
  have e:ev T0 (OO m) 60 (.lst [.ah 109,.ah 111,.ah 112,.aq 0]) ⟨l',none⟩ g=some (.list [.list (ys.map .int),.int gr,.int st,.int 0],g):=by
   show dz T0 (OO m) (ev T0 (OO m) 59) _ _ _=_;unfold dz;dsimp only;have:ci (ev T0 (OO m) 59) [.ah 109,.ah 111,.ah 112,.aq 0] ⟨l',none⟩ g=some ([.list (ys.map .int),.int gr,.int st,.int 0],g):=by rw[ci,jD YY];dsimp only;rw[ci,jD S9];dsimp only;rw[ci,jD k2];rfl
   rw[this];rfl
  show dc 5000 (ev T0 (OO m) 60) (ex 5000 (ev T0 (OO m) 60) 29) _ _ _=_;unfold dc;dsimp only;rw[e]
 refine⟨st,?_⟩;rw[gK e1,gK e2,bm,e3]
theorem G5(xs:List Int):∃(cells:List Int) (gr st:Int),OO (m+1) 82 [.list (xs.map .int)] g=some (.list [.list (cells.map .int),.int gr,.int st,.int 0],g):=by
 let ys:=xs.take 48
 have cM:ys.length<=48:=by rw[cC];exact N7
 have e1:ex 5000 (ev T0 (OO m) 60) 30 (.ca 109 qp) ⟨[(108,.list (xs.map .int))],none⟩ g=some (.next ⟨[(108,.list (xs.map .int)),(109,.list (ys.map .int))],none⟩ g):=us (Dq xs) rfl;have e2:ex 5000 (ev T0 (OO m) 60) 30 (.ca 111 (.aq 0)) ⟨[(108,.list (xs.map .int)),(109,.list (ys.map .int))],none⟩ g=some (.next ⟨[(108,.list (xs.map .int)),(109,.list (ys.map .int)),(111,.int 0)],none⟩ g):=us (v:=.int 0) rfl rfl;have e3:∃gr,ex 5000 (ev T0 (OO m) 60) 30 (.cu yk [.ca 111 yl] []) ⟨[(108,.list (xs.map .int)),(109,.list (ys.map .int)),(111,.int 0)],none⟩ g=some (.next ⟨[(108,.list (xs.map .int)),(109,.list (ys.map .int)),(111,.int gr)],none⟩ g):=by
  generalize ys=zs;cases zs with
  |nil=>refine⟨0,?_⟩;kernel_rfl|cons c r=>
   have et:ev T0 (OO m) 60 yk ⟨[(108,.list (xs.map .int)),(109,.list ((c::r).map .int)),(111,.int 0)],none⟩ g=some (.bool (decide ((c.natAbs:Int)≥10 ^ 15)),g):=by kernel_rfl
   rw[qq et];cases decide ((c.natAbs:Int)≥10 ^ 15)with
   |true=>exact⟨((c.natAbs:Int).fdiv 2).fmod (10 ^ 260),by
     rw[br rfl];have eg:ev T0 (OO m) 60 yl ⟨[(108,.list (xs.map .int)),(109,.list ((c::r).map .int)),(111,.int 0)],none⟩ g=some (.int (((c.natAbs:Int).fdiv 2).fmod (10 ^ 260)),g):=by kernel_rfl
     rfl⟩
   |false=>exact⟨0,rfl⟩
 refine b0 e3 λgr e3=>b0 (Dr (m:=m) (g:=g) ys gr (l:=[(108,.list (xs.map .int)),(109,.list (ys.map .int)),(111,.int gr)]) rfl rfl cM) λst e4=>⟨ys,gr,st,?_⟩;show(match bm (ex 5000 (ev T0 (OO m) 60) 30) nG ⟨[(108,.list (xs.map .int))],none⟩ g with|some (.ret v g')=>some (v,g')|some (.next _ g')=>some (.none,g')|none=>none)=_;rw[KD,gK e1,gK e2,gK e3,e4]
theorem ym:eW 60 81 [] (.bool true):=CO [] [] λm g=>by kernel_rfl
end
section
mutual
noncomputable def fH:AV->Nat->Bool
 |.none,_=>true|.bool _,_=>true|.int _,_=>true|.str _,_=>true|.bytes _,_=>true|.aT l,n=>match n with|0=>false|n+1=>ig l n
 |.list l,n=>match n with|0=>false|n+1=>ig l n
 |_,_=>false
noncomputable def ig:List AV->Nat->Bool|[],_=>true|a::r,n=>fH a n&&ig r n
end
theorem rZ:∀l:List Nat,fj l l=true|[]=>rfl|a::r=>by show(match Nat.beq a a with|true=>fj r r|false=>false)=true;rw[Nat.beq_refl];exact rZ r
theorem Mt(h:a<=n)(h':b<=n):mx a b<=n:=by unfold mx;split<;>assumption
mutual
theorem pure_eq:∀(a:AV) (n:Nat),fH a n=true->uB a a=some true/\dep a<=n/\cS a=true|.none,n,_=>⟨rfl,bo _,rfl⟩|.bool b,n,_=>⟨by show some (b==b)=_;rw[bz],bo _,rfl⟩|.int i,n,_=>⟨by show some (i==i)=_;rw[bz],bo _,rfl⟩|.str l,n,_=>⟨by show some (fj l l)=_;rw[rZ],bo _,rfl⟩|.bytes l,n,_=>⟨by show some (fj l l)=_;rw[rZ],bo _,rfl⟩|.aT l,0,h=>by exact bq h|.aT l,n+1,h=>let ⟨h1,h2,h3⟩:=r0 l n h;⟨h1,bV h2,h3⟩|.list l,0,h=>by exact bq h|.list l,n+1,h=>by refine dy (r0 l n h) λh1 h2 h3=>⟨?_,bV h2,h3⟩;show(match Nat.beq l.length l.length with|true=>mI l l|false=>some false)=_;rw[Nat.beq_refl];exact h1|.tok _ _,n,h=>by exact bq h|.dict _,n,h=>by exact bq h|.fn _,n,h=>by exact bq h|.sp _,n,h=>by exact bq h|.pos _ _,n,h=>by exact bq h|.lam _,n,h=>by exact bq h|.eD,n,h=>by exact bq h
theorem r0:∀(l:List AV) (n:Nat),ig l n=true->mI l l=some true/\deps l<=n/\gh l=true
 |[],n,_=>⟨rfl,bo _,rfl⟩|a::r,n,h=>by
  have h:(fH a n&&ig r n)=true:=h;rw[aV]at h;refine dy (pure_eq a n h.1) λa1 a2 a3=>dy (r0 r n h.2) λr1 r2 r3=>⟨?_,Mt a2 r2,?_⟩
  ·show((uB a a).bind λx=>(mI r r).bind λy=>some (x&&y))=_;rw[a1,r1];rfl
  ·show(cS a&&gh r)=true;rw[a3,r3];rfl
end
theorem pt(h:ig l n=true):fH (.aT l) (n+1)=true:=h
theorem pc(h:fH a n=true)(h':ig r n=true):ig (a::r) n=true:=by show(fH a n&&ig r n)=true;rw[h,h'];rfl
theorem ga{r:Ref}(h:r.ok)(n):fH r.v (n+5)=true:=by
 obtain⟨w,qs,s,p⟩:=r;have hq:Hs qs:=Lz h.q;induction hq using Hs.casesOn<;>cases s with
 |none=>cases p with|none=>rfl|some p=>cases p<;>rfl
 |some s=>cases s<;>(cases p with|none=>rfl|some p=>cases p<;>rfl)
theorem Ft{o:pM}(h:o.ok)(n):fH o.v (n+5)=true:=by cases o with|ref r=>exact ga h n|num x=>(clear h;cases x)<;>rfl
theorem A9{c:eu}(h:c.ok)(n):fH c.v (n+8)=true:=by cases c with|eq r=>exact pt (pc rfl (pc rfl (pc (ga h (n+2)) (pc rfl rfl))))|cls r=>exact pt (pc rfl (pc (pt (pc rfl (pc rfl (pc (ga h (n+1)) rfl)))) rfl))|zero r=>exact pt (pc rfl (pc rfl (pc (ga h (n+2)) rfl)))|le r r2=>exact pt (pc rfl (pc rfl (pc (ga h.1 (n+2)) (pc (ga h.2 (n+2)) rfl))))
theorem ou{x:Row}(h:x.ok)(n):fH x.v (n+9)=true:=pt (pc (ga h.r (n+3)) (pc (Ft h.a (n+3)) (pc (Ft h.b (n+3)) (pc (A9 h.c n) rfl))))
theorem Ba{l:Loop}(h:l.ok)(n):fH l.v (n+11)=true:=by cases l with|once=>rfl|fy r=>exact pt (pc rfl (pc (ga h (n+5)) rfl))|fz k=>rfl|xT b c=>exact pt (pc rfl (pc rfl (pc (A9 h (n+2)) rfl)))|kP b x=>exact pt (pc rfl (pc rfl (pc (pt (pc (ou h n) rfl)) rfl)))|kQ b x y=>exact pt (pc rfl (pc rfl (pc (pt (pc (ou h.1 n) (pc (ou h.2 n) rfl))) rfl)))|kR b x y z=>exact pt (pc rfl (pc rfl (pc (pt (pc (ou h.1 n) (pc (ou h.2.1 n) (pc (ou h.2.2 n) rfl)))) rfl)))
theorem Mu(b:rI)(n):fH b.v (n+2)=true:=by cases b<;>rfl
theorem Bb{x:wN}(hl:x.l.ok):fH x.v 12=true:=by obtain⟨g,l⟩:=x;cases g with|rng r=>exact pt (pc rfl (pc rfl (pc (Ba hl 0) rfl)))|JL b=>exact pt (pc rfl (pc (pt (pc rfl (pc (Mu b 8) rfl))) (pc (Ba hl 0) rfl)))
theorem Bc{x:Gp}(h:x.ok):fH x.v 12=true:=by cases x with|go p=>rfl|d1 p r=>exact pt (pc rfl (pc rfl (pc (ga h.2 6) rfl)))|d2 p q r=>exact pt (pc rfl (pc rfl (pc (ga h.2.2 6) rfl)))|d3 p q s r=>exact pt (pc rfl (pc rfl (pc (ga h.2.2.2 6) rfl)))
theorem zo{o:pn}(h:o.ok)(n):fH o.v (n+5)=true:=by cases o with|ref r=>exact ga h n|_=>rfl
theorem ox{a:Arg}(h:a.ok)(n):fH a.v (n+6)=true:=by cases a with|ref r=>exact pt (pc rfl (pc (ga h n) rfl))|con o=>exact pt (pc rfl (pc (zo h n) rfl))
theorem IB{x:Args}(h:x.ok)(n):ig x.l (n+6)=true:=by cases x with|a1 a=>exact pc (ox h n) rfl|a2 a b=>exact pc (ox h.1 n) (pc (ox h.2 n) rfl)|a3 a b c=>exact pc (ox h.1 n) (pc (ox h.2.1 n) (pc (ox h.2.2 n) rfl))
theorem Fu(x:pG):ig x.l 10=true:=by
 obtain⟨a,b⟩:=x;cases a with
 |none=>cases b with|none=>rfl|some b=>cases b<;>rfl
 |some a=>cases b with|none=>cases a<;>rfl|some b=>cases a<;>cases b<;>rfl
theorem Bd{x:CP}(h:x.ok):fH x.v 12=true:=by obtain⟨o,a,b⟩:=x;cases a with|none=>exact pt (pc rfl (pc (zo h.o 6) (pc rfl (pc (pt (Fu b)) rfl))))|some a=>exact pt (pc rfl (pc (zo h.o 6) (pc (pt (IB (h.a a rfl) 4)) (pc (pt (Fu b)) rfl))))
theorem cmp_self(h:fH v 12=true):yC .NotEq v v=some false/\yC .Eq v v=some true:=by
 refine dy (pure_eq v 12 h) λh1 h2 z_=>?_;constructor
 ·show grd (Nat.ble (dep v) 60) ((uB v v).bind λx=>some (!x))=_;rw[bp (mE h2 rfl),h1];rfl
 ·show grd (Nat.ble (dep v) 60) (uB v v)=_;rw[bp (mE h2 rfl),h1];rfl
theorem r5:∀{a b:List AV},dQ a=true->dQ b=true->dQ (a++b)=true|[],b,_,h=>h|.tok _ _::r,b,h,h'=>r5 (a:=r) h h'|.none::_,_,h,_=>by exact bq h|.bool _::_,_,h,_=>by exact bq h|.int _::_,_,h,_=>by exact bq h|.str _::_,_,h,_=>by exact bq h|.bytes _::_,_,h,_=>by exact bq h|.aT _::_,_,h,_=>by exact bq h|.list _::_,_,h,_=>by exact bq h|.dict _::_,_,h,_=>by exact bq h|.fn _::_,_,h,_=>by exact bq h|.sp _::_,_,h,_=>by exact bq h|.pos _ _::_,_,h,_=>by exact bq h|.lam _::_,_,h,_=>by exact bq h|.eD::_,_,h,_=>by exact bq h
theorem Fv:(sM.all λx=>dQ x.2)=true:=by kernel_rfl
theorem Be:∀{ws:List (List Nat)} {ts:List AV},ew ws=some ts->dQ ts=true|[],ts,h=>by(refine bD h λx=>?_;subst x);rfl|w::r,ts,h=>mc h λa b e e2 e3=>by subst e3;exact r5 (aS.mp Fv _ (m4 e)) (Be e2)
theorem IC(hr:rid=63∨rid=64∨rid=67)(s:vT v ts)(rd:cJ 130 rid [.sp 1,.fn 74] ts v [])(p:fH v 12=true)(b):∃t,eW 110 48 [v,.fn 73] (.str t)/\Ok 140 103 [.str t,.fn rid] (Bx b) v (Bx b):=by
 refine nE s.it λt h1 h2 h3=>⟨t,h1,λn hn=>?_⟩;obtain⟨m,rfl⟩:∃m,n=(m+135)+1:=⟨n-136,by exact QS hn⟩;have tk:=Cp (g:=Bx b) h2 h3 (m+135) (QT hn);have run:bm (ex 5000 (ev T0 (OO (m+135)) 60) 30) eJ ⟨[(26,.str t),(130,.fn rid),(5,.sp 1)],none⟩ (R ts .none b)=some (.ret v (R [] .none b)):=by
  have pl:play (gf (OJ false 5000 (OI false (MX false [63,64,67] (m+135)) 60) 30) eJ ⟨[(26,.str t),(130,.fn rid),(5,.sp 1)],none⟩ (R ts .none b) (λz_ z_=>.fail) .ret) [aK (rd .none b)]=some ([aK (rd .none b)].map Fact.key,[],(v,R [] .none b)):=by rcases hr with rfl|rfl|rfl<;>kernel_rfl
  have r:=rT pl ⟨[],by rw[cz]⟩ (λz_ h=>by cases h);refine aH (d6 (u7 (uZ (u8 (m+135)) 60) 30) r) λout e1 e2=>?_;rw[e1];cases out with
  |next σ g=>exact(cL e2).elim
  |ret v' g'=>have e2:=e2;(refine fS e2 λx y=>?_;subst x y);rfl
 show((OO (m+135) 71 [.str t] (Bx b)).bind λq=>(jL q.1).bind λts=>grd (dQ ts) (u9 (OO (m+135)) t rid ts q.2))=_;rw[tk];show grd (dQ ts) (u9 (OO (m+135)) t rid ts (Bx b))=_;rw[Be h2];show((bm (ex 5000 (ev T0 (OO (m+135)) 60) 30) eJ ⟨[(26,.str t),(130,.fn rid),(5,.sp 1)],none⟩ (R ts .none b)).bind λo=>match o with|.ret v g2=>grd (cS v) (some (v,{g2 with rem:=[],last:=.none}))|.next _ _=>none)=_;rw[run];show grd (cS v) (some (v,R [] .none b))=_;rw[(pure_eq v 12 p).2.2];rfl
section
variable{O:By}{n:Nat}{σ:Sg}{g g1 g2:G}
theorem kM(hk:T0.g6 k=some (.fn i))(hi:fX i=true)(ha:ci (ev T0 O n) args σ g=some (vs,g1))(h:O i vs g1=some (v,g2)):ev T0 O (n+1) (.ai k args) σ g=some (v,g2):=by show dz T0 O (ev T0 O n) (.ai k args) σ g=_;unfold dz;dsimp only;rw[hk];rw[ha];show(match fX i with|true=>O i vs g1|false=>(match s7 i vs with|some v=>some (v,g1)|none=>none))=_;rw[hi];exact h
theorem Mv(h1:ev T0 O n a σ g=some (x,g1))(h2:ev T0 O n b σ g1=some (y,g2))(h3:yC op x y=some r):ev T0 O (n+1) (.cmp op a b) σ g=some (.bool r,g2):=by show dz T0 O (ev T0 O n) (.cmp op a b) σ g=_;unfold dz;dsimp only;rw[h1];dsimp only;rw[h2];dsimp only;rw[h3]
theorem me(h1:ev T0 O n a σ g=some (x,g1))(h2:ev T0 O n b σ g1=some (y,g2)):ci (ev T0 O n) [a,b] σ g=some ([x,y],g2):=by rw[ci,h1];dsimp only;rw[ci,h2];rfl
end
theorem r6(hN:150<=N)(hr:rid=63∨rid=64∨rid=67)(s:vT v ts)(rd:cJ 130 rid [.sp 1,.fn 74] ts v [])(p:fH v 12=true)(hx:fW x σ.ah=some v)(hg:T0.g6 gr=some (.fn rid))(h:yC op v v=some r)(k):
  ev T0 (OO N) (k+4) (.cmp op (.ai 110 [.ai 95 [.ah x,.dD 94],.dD gr]) (.ah x)) σ (Bx b)=some (.bool r,Bx b):=by
 refine aH (IC hr s rd p b) λt h1 h2=>?_;obtain⟨l,o⟩:=σ;have ex:∀j,ev T0 (OO N) (j+1) (.ah x) ⟨l,o⟩ (Bx b)=some (v,Bx b):=λj=>jD hx;have gl:∀j i f,T0.g6 i=some f->ev T0 (OO N) (j+1) (.dD i) ⟨l,o⟩ (Bx b)=some (f,Bx b):=λj i f e=>by show(match T0.g6 i with|some v=>some (v,Bx b)|none=>none)=_;rw[e]
 refine Mv (kM (i:=103) (by kernel_rfl) rfl (me (kM (i:=48) (by kernel_rfl) rfl (me (ex k) (gl k 94 (.fn 73) (by kernel_rfl))) (h1 (Bx b) N (QU hN))) (gl (k+1) gr _ hg)) (h2 N (QV hN))) (ex _) h
theorem BR(hN:200<=N)(hb:b.place=0):∃g',bm (ex 5000 (ev T0 (OO N) 60) 30) (wA.drop 1) ⟨[(100,.sp 0)],none⟩ (Bx b)=some (.ret (.bool true) g'):=by
 obtain⟨_,b1,⟨x,hg,hl,rfl⟩,p1,f1⟩:=L9 0 b ⟨0,hb,aD _⟩ (mC rfl);obtain⟨_,b2,⟨y,hy,rfl⟩,p2,f2⟩:=Ma _ _ p1 (mC rfl);obtain⟨_,b3,⟨z,hz,rfl⟩,p3,f3⟩:=Mb _ _ p2 (mC rfl);have c1:=cmp_self (Bb (x:=x) hl);have c2:=cmp_self (Bc hy);have c3:=cmp_self (Bd hz);have s1:ex 5000 (ev T0 (OO N) 60) 30 (.cu (.dE (.ai 105 [])) [.ret (.cBool false)] []) ⟨[(100,.sp 0)],none⟩ (Bx b)=some (.next ⟨[(100,.sp 0)],none⟩ (Bx b)):=by
  have e:ev T0 (OO N) 60 (.dE (.ai 105 [])) ⟨[(100,.sp 0)],none⟩ (Bx b)=some (.bool false,Bx b):=by have e0:ev T0 (OO N) 59 (.ai 105 []) ⟨[(100,.sp 0)],none⟩ (Bx b)=some (.bool true,Bx b):=kM (i:=81) (by kernel_rfl) rfl rfl (ym (Bx b) N (QW hN));show dz T0 (OO N) (ev T0 (OO N) 59) _ _ _=_;unfold dz;dsimp only;rw[e0];rfl
  rw[qq e,bi bM];rfl
 have lk:∀(j:Nat) (bb:vx),ci (ev T0 (OO N) (j+1)) [.ah 100] ⟨[(100,.sp 0)],none⟩ (Bx bb)=some ([.sp 0],Bx bb):=λj bb=>rfl;have s2:ex 5000 (ev T0 (OO N) 60) 30 (.hY [76,128,129] (.aT [.ai 106 [.ah 100],.ai 107 [.ah 100],.ai 108 [.ah 100]])) ⟨[(100,.sp 0)],none⟩ (Bx b)=some (.next ⟨[(100,.sp 0),(76,x.v),(128,y.v),(129,z.v)],none⟩ (Bx b3)):=by
  have e:ev T0 (OO N) 60 (.aT [.ai 106 [.ah 100],.ai 107 [.ah 100],.ai 108 [.ah 100]]) ⟨[(100,.sp 0)],none⟩ (Bx b)=some (.aT [x.v,y.v,z.v],Bx b3):=by
   show dz T0 (OO N) (ev T0 (OO N) 59) _ _ _=_;unfold dz;dsimp only;have e3:ci (ev T0 (OO N) 59) [.ai 106 [.ah 100],.ai 107 [.ah 100],.ai 108 [.ah 100]] ⟨[(100,.sp 0)],none⟩ (Bx b)=some ([x.v,y.v,z.v],Bx b3):=by rw[ci,kM (i:=78) (by kernel_rfl) rfl (lk 57 b) (f1 N (Fg hN))];dsimp only;rw[me (kM (i:=79) (by kernel_rfl) rfl (lk 57 b1) (f2 N (Fg hN))) (kM (i:=80) (by kernel_rfl) rfl (lk 57 b2) (f3 N (Fg hN)))]
   rw[e3];rfl
  show dc 5000 (ev T0 (OO N) 60) (ex 5000 (ev T0 (OO N) 60) 29) _ _ _=_;unfold dc;dsimp only;rw[e];rfl
 have s3:ex 5000 (ev T0 (OO N) 60) 30 (.cu (.cmp .NotEq (.ai 110 [.ai 95 [.ah 76,.dD 94],.dD 109]) (.ah 76)) [.ret (.cBool false)] []) ⟨[(100,.sp 0),(76,x.v),(128,y.v),(129,z.v)],none⟩ (Bx b3)=some (.next ⟨[(100,.sp 0),(76,x.v),(128,y.v),(129,z.v)],none⟩ (Bx b3)):=by rw[qq (r6 (Fh hN) (.inl rfl) (zp hg hl) (IE hg hl) (Bb hl) rfl (by kernel_rfl) c1.1 56),bi bM];rfl
 have s4:ev T0 (OO N) 60 (.dF [.cmp .Eq (.ai 110 [.ai 95 [.ah 128,.dD 94],.dD 111]) (.ah 128),.cmp .Eq (.ai 110 [.ai 95 [.ah 129,.dD 94],.dD 112]) (.ah 129)]) ⟨[(100,.sp 0),(76,x.v),(128,y.v),(129,z.v)],none⟩ (Bx b3)=some (.bool true,Bx b3):=by have a1:=r6 (N:=N) (σ:=⟨[(100,.sp 0),(76,x.v),(128,y.v),(129,z.v)],none⟩) (b:=b3) (x:=128) (gr:=111) (Fh hN) (.inr (.inl rfl)) (yh hy) (λla bx=>(IG hy la bx).le (mC rfl)) (Bc hy) rfl (by kernel_rfl) c2.2 55;have a2:=r6 (N:=N) (σ:=⟨[(100,.sp 0),(76,x.v),(128,y.v),(129,z.v)],none⟩) (b:=b3) (x:=129) (gr:=112) (Fh hN) (.inr (.inr rfl)) (yi hz) (λla bx=>(IH hz la bx).le (mC rfl)) (Bd hz) rfl (by kernel_rfl) c3.2 55;show kU (ev T0 (OO N) 59) _ _ _=_;rw[kU,a1];show(match dn (.bool true)with|some true=>kU (ev T0 (OO N) 59) [.cmp .Eq (.ai 110 [.ai 95 [.ah 129,.dD 94],.dD 112]) (.ah 129)] _ (Bx b3)|some false=>some (AV.bool true,Bx b3)|none=>none)=_;show kU (ev T0 (OO N) 59) [.cmp .Eq (.ai 110 [.ai 95 [.ah 129,.dD 94],.dD 112]) (.ah 129)] _ (Bx b3)=_;rw[kU,a2]
 refine⟨Bx b3,?_⟩
 have bl:wA.drop 1=[.cu (.dE (.ai 105 [])) [.ret (.cBool false)] [],.hY [76,128,129] (.aT [.ai 106 [.ah 100],.ai 107 [.ah 100],.ai 108 [.ah 100]]),
  .cu (.cmp .NotEq (.ai 110 [.ai 95 [.ah 76,.dD 94],.dD 109]) (.ah 76)) [.ret (.cBool false)] [],
  .ret (.dF [.cmp .Eq (.ai 110 [.ai 95 [.ah 128,.dD 94],.dD 111]) (.ah 128),.cmp .Eq (.ai 110 [.ai 95 [.ah 129,.dD 94],.dD 112]) (.ah 129)])]:=by kernel_rfl
 rw[bl,gK s1,gK s2,gK s3];have s5:ex 5000 (ev T0 (OO N) 60) 30 (.ret (.dF [.cmp .Eq (.ai 110 [.ai 95 [.ah 128,.dD 94],.dD 111]) (.ah 128),.cmp .Eq (.ai 110 [.ai 95 [.ah 129,.dD 94],.dD 112]) (.ah 129)])) ⟨[(100,.sp 0),(76,x.v),(128,y.v),(129,z.v)],none⟩ (Bx b3)=some (.ret (.bool true) (Bx b3)):=by show dc 5000 (ev T0 (OO N) 60) (ex 5000 (ev T0 (OO N) 60) 29) _ _ _=_;unfold dc;dsimp only;rw[s4]
 rw[bm,s5]
end
end
section
open PySem PySem.W PyProof.Rows PySem.Calls
section
theorem Tu:Op 200:=λxs z_=>by obtain⟨cells,gr,st,e⟩:=G5 (m:=199) xs (g:=R3);obtain⟨g',e'⟩:=BR (N:=200) (aD _) (b:=⟨cells,gr,st,0⟩) rfl;exact⟨cells,gr,st,_,g',rfl,e,e'⟩
theorem fin:PySem.Challenge.rw_og0112_01.Holds:=top said λz_ z_ e=>DB (by decide) Tu e
end
end
end
end Mine.Internal
theorem PySem.Challenge.cw_og0112_01_holds : PySem.Challenge.rw_og0112_01.Holds :=
  Mine.Internal.fin
