import PyProof.Rows.All
import Wide.All
import OpenK.AllK
import Wide.FinOn
import PySem.Challenge.RW_pc0147_01
set_option Elab.async false
set_option maxRecDepth 100000
set_option autoImplicit false
set_option maxHeartbeats 0
set_option genSizeOf false
set_option genInjectivity false
set_option linter.unusedVariables false
set_option linter.unusedSimpArgs false
section
open PySem PySem.W PyProof.Rows
namespace Mine
abbrev L:=PySem.Challenge.rw_pc0147_01
abbrev P:=PySem.Challenge.pw_pc0147_01

theorem bare_nil:(["vars","dir","locals"]:List Str).filter (readsOut P P.main.body)=[]:=by
 have h:((["vars","dir","locals"]:List Str).filter (readsOut P P.main.body)).isEmpty=true:=by kernel_rfl
 exact List.isEmpty_iff.mp h
theorem strict_eq:(!(importedModules P.main.body).all cThrough.contains)=false:=by
 have h:((importedModules P.main.body).all cThrough.contains)=true:=by kernel_rfl
 rw[h];rfl
noncomputable abbrev lk0:Look:={ strict:=false,foot:=none,bare:=[] }
theorem noRoad_append (lk:Look)(a b:List Stmt):noRoadLSs lk (a++b)=(noRoadLSs lk a&&noRoadLSs lk b):=by
 induction a with
 |nil=>exact(Bool.true_and _).symm
 |cons s r ih=>exact(congrArg (_&&·) ih).trans (Bool.and_assoc _ _ _).symm
theorem str_ok {x:Str}(h1:x.cps[0]?=some 32)(h2:x.cps.any (fun c=>c==123||c==125)=false)(h3:x.cps.any (· == 46)=false):lk0.str x=true:=by
 have hne:∀n:Str,n.cps[0]?≠some 32→x≠n:=by rintro n hn rfl;exact hn h1
 have hf:frameAttrs.contains x=false:=by
  rw[←Bool.not_eq_true,List.contains_iff_mem]
  intro hm
  have:∀n∈frameAttrs,n.cps[0]?≠some 32:=by decide +kernel
  exact this x hm h1
 have ho:x.opensWith "__" = false:=by
  rw[←Bool.not_eq_true]
  intro h
  have e:x.cps.extract 0 (Str.ofString "__").cps.size=(Str.ofString "__").cps:=by simpa [Str.opensWith] using h
  have hs:(Str.ofString "__").cps=#[95,95]:=by decide +kernel
  rw[hs]at e
  have e0:(x.cps.extract 0 2)[0]?=some 95:=by
   have e':x.cps.extract 0 2=#[95,95]:=e
   rw[e'];rfl
  rw[Array.getElem?_extract]at e0
  split at e0
  ·rw[Nat.zero_add,h1]at e0;simp at e0
  ·cases e0
 unfold Look.str roadStr
 rw[h2,h3]
 simp[Look.word,attrL,ho,lk0]
 exact .inr fun hm=>by rw[←List.contains_iff_mem,hf]at hm;cases hm
theorem body_split:P.main.body=P.main.body.take 51++((P.main.body.drop 51).take 1++P.main.body.drop 52):=by
 conv=>lhs;rw[←List.take_append_drop 51 P.main.body]
 congr 1
noncomputable def resB:List Stmt:=(P.main.body.drop 51).take 1
noncomputable def resL:List Nat:=[32,65,67,67,69,80,84,32,65,67,67,69,83,83,32,65,68,68,32,65,68,86,65,78,67,73,78,71,32,65,70,84,69,82,32,65,76,76,32,65,76,80,72,65,66,69,84,73,67,32,65,76,80,72,65,66,69,84,73,67,45,76,79,87,69,82,32,65,76,80,72,65,66,69,84,73,67,45,85,80,80,69,82,32,65,76,80,72,65,78,85,77,69,82,73,67,32,65,76,80,72,65,78,85,77,69,82,73,67,45,69,68,73,84,69,68,32,65,76,83,79,32,65,76,84,69,82,78,65,84,69,32,65,78,68,32,65,78,89,32,65,82,69,32,65,82,69,65,32,65,82,69,65,83,32,65,83,67,69,78,68,73,78,71,32,65,83,83,73,71,78,32,65,84,32,65,85,84,72,79,82,32,66,69,70,79,82,69,32,66,73,78,65,82,89,32,66,76,65,78,75,32,66,76,79,67,75,32,66,89,32,67,65,76,76,32,67,72,65,82,65,67,84,69,82,32,67,72,65,82,65,67,84,69,82,83,32,67,76,79,83,69,32,67,79,77,80,32,67,79,77,80,45,51,32,67,79,77,80,85,84,65,84,73,79,78,65,76,32,67,79,77,80,85,84,65,84,73,79,78,65,76,45,51,32,67,79,77,80,85,84,69,32,67,79,78,70,73,71,85,82,65,84,73,79,78,32,67,79,78,84,65,73,78,83,32,67,79,78,84,69,78,84,32,67,79,78,84,73,78,85,69,32,67,79,78,86,69,82,84,73,78,71,32,67,79,80,89,32,67,79,82,82,32,67,79,82,82,69,83,80,79,78,68,73,78,71,32,67,79,85,78,84,32,68,65,84,65,32,68,65,84,69,45,67,79,77,80,73,76,69,68,32,68,65,84,69,45,87,82,73,84,84,69,78,32,68,69,76,69,84,69,32,68,69,76,73,77,73,84,69,68,32,68,69,76,73,77,73,84,69,82,32,68,69,80,69,78,68,73,78,71,32,68,69,83,67,69,78,68,73,78,71,32,68,73,83,80,76,65,89,32,68,73,86,73,68,69,32,68,73,86,73,83,73,79,78,32,68,79,87,78,32,68,85,80,76,73,67,65,84,69,83,32,68,89,78,65,77,73,67,32,69,76,83,69,32,69,78,68,32,69,78,68,45,65,68,68,32,69,78,68,45,67,65,76,76,32,69,78,68,45,67,79,77,80,85,84,69,32,69,78,68,45,68,69,76,69,84,69,32,69,78,68,45,68,73,86,73,68,69,32,69,78,68,45,69,86,65,76,85,65,84,69,32,69,78,68,45,73,70,32,69,78,68,45,77,85,76,84,73,80,76,89,32,69,78,68,45,80,69,82,70,79,82,77,32,69,78,68,45,82,69,65,68,32,69,78,68,45,82,69,84,85,82,78,32,69,78,68,45,82,69,87,82,73,84,69,32,69,78,68,45,83,69,65,82,67,72,32,69,78,68,45,83,84,65,82,84,32,69,78,68,45,83,84,82,73,78,71,32,69,78,68,45,83,85,66,84,82,65,67,84,32,69,78,68,45,85,78,83,84,82,73,78,71,32,69,78,68,45,87,82,73,84,69,32,69,78,86,73,82,79,78,77,69,78,84,32,69,81,85,65,76,32,69,82,82,79,82,32,69,86,65,76,85,65,84,69,32,69,88,67,69,80,84,73,79,78,32,69,88,73,84,32,69,88,84,69,78,68,32,69,88,84,69,82,78,65,76,32,70,65,76,83,69,32,70,68,32,70,73,76,69,32,70,73,76,69,45,67,79,78,84,82,79,76,32,70,73,76,76,69,82,32,70,73,82,83,84,32,70,79,82,32,70,82,79,77,32,71,73,86,73,78,71,32,71,76,79,66,65,76,32,71,79,32,71,82,69,65,84,69,82,32,72,73,71,72,45,86,65,76,85,69,32,72,73,71,72,45,86,65,76,85,69,83,32,73,45,79,32,73,45,79,45,67,79,78,84,82,79,76,32,73,68,69,78,84,73,70,73,67,65,84,73,79,78,32,73,70,32,73,78,32,73,78,68,69,88,32,73,78,68,69,88,69,68,32,73,78,73,84,73,65,76,32,73,78,73,84,73,65,76,73,90,69,32,73,78,80,85,84,32,73,78,80,85,84,45,79,85,84,80,85,84,32,73,78,83,80,69,67,84,32,73,78,83,84,65,76,76,65,84,73,79,78,32,73,78,84,79,32,73,78,86,65,76,73,68,32,73,83,32,74,85,83,84,32,74,85,83,84,73,70,73,69,68,32,75,69,89,32,76,65,66,69,76,32,76,69,65,68,73,78,71,32,76,69,70,84,32,76,69,83,83,32,76,73,78,69,32,76,73,78,69,83,32,76,73,78,75,65,71,69,32,76,79,67,75,32,76,79,87,45,86,65,76,85,69,32,76,79,87,45,86,65,76,85,69,83,32,77,69,82,71,69,32,77,79,68,69,32,77,79,86,69,32,77,85,76,84,73,80,76,89,32,78,65,84,73,86,69,32,78,69,71,65,84,73,86,69,32,78,69,88,84,32,78,79,32,78,79,84,32,78,85,77,69,82,73,67,32,78,85,77,69,82,73,67,45,69,68,73,84,69,68,32,79,66,74,69,67,84,45,67,79,77,80,85,84,69,82,32,79,67,67,85,82,83,32,79,70,32,79,70,70,32,79,77,73,84,84,69,68,32,79,78,32,79,80,69,78,32,79,80,84,73,79,78,65,76,32,79,82,32,79,82,68,69,82,32,79,82,71,65,78,73,90,65,84,73,79,78,32,79,84,72,69,82,32,79,85,84,80,85,84,32,79,86,69,82,70,76,79,87,32,80,65,67,75,69,68,45,68,69,67,73,77,65,76,32,80,69,82,70,79,82,77,32,80,73,67,32,80,73,67,84,85,82,69,32,80,79,73,78,84,69,82,32,80,79,83,73,84,73,86,69,32,80,82,79,67,69,68,85,82,69,32,80,82,79,67,69,69,68,32,80,82,79,71,82,65,77,32,80,82,79,71,82,65,77,45,73,68,32,81,85,79,84,69,32,81,85,79,84,69,83,32,82,65,78,68,79,77,32,82,69,65,68,32,82,69,67,79,82,68,32,82,69,67,79,82,68,83,32,82,69,68,69,70,73,78,69,83,32,82,69,70,69,82,69,78,67,69,32,82,69,76,65,84,73,86,69,32,82,69,76,69,65,83,69,32,82,69,77,65,73,78,68,69,82,32,82,69,78,65,77,69,83,32,82,69,80,76,65,67,69,32,82,69,80,76,65,67,73,78,71,32,82,69,84,85,82,78,32,82,69,87,82,73,84,69,32,82,73,71,72,84,32,82,79,85,78,68,69,68,32,82,85,78,32,83,65,77,69,32,83,68,32,83,69,65,82,67,72,32,83,69,67,84,73,79,78,32,83,69,67,85,82,73,84,89,32,83,69,76,69,67,84,32,83,69,78,84,69,78,67,69,32,83,69,80,65,82,65,84,69,32,83,69,81,85,69,78,84,73,65,76,32,83,69,84,32,83,73,71,78,32,83,73,90,69,32,83,79,82,84,32,83,79,82,84,45,77,69,82,71,69,32,83,79,85,82,67,69,45,67,79,77,80,85,84,69,82,32,83,80,65,67,69,32,83,80,65,67,69,83,32,83,80,69,67,73,65,76,45,78,65,77,69,83,32,83,84,65,78,68,65,82,68,32,83,84,65,82,84,32,83,84,65,84,85,83,32,83,84,79,80,32,83,84,82,73,78,71,32,83,85,66,84,82,65,67,84,32,83,89,78,67,32,83,89,78,67,72,82,79,78,73,90,69,68,32,84,65,76,76,89,73,78,71,32,84,69,83,84,32,84,72,65,78,32,84,72,69,78,32,84,72,82,79,85,71,72,32,84,72,82,85,32,84,73,77,69,83,32,84,79,32,84,82,65,73,76,73,78,71,32,84,82,85,69,32,85,78,83,84,82,73,78,71,32,85,78,84,73,76,32,85,80,32,85,80,79,78,32,85,83,65,71,69,32,85,83,73,78,71,32,86,65,76,85,69,32,86,65,76,85,69,83,32,86,65,82,89,73,78,71,32,87,72,69,78,32,87,73,84,72,32,87,79,82,75,73,78,71,45,83,84,79,82,65,71,69,32,87,82,73,84,69,32,90,69,82,79,32,90,69,82,79,69,83,32,90,69,82,79,83,32]
noncomputable abbrev rl:List Char:=resL.map Char.ofNat
noncomputable abbrev rs:String := " ACCEPT ACCESS ADD ADVANCING AFTER ALL ALPHABETIC ALPHABETIC-LOWER ALPHABETIC-UPPER ALPHANUMERIC ALPHANUMERIC-EDITED ALSO ALTERNATE AND ANY ARE AREA AREAS ASCENDING ASSIGN AT AUTHOR BEFORE BINARY BLANK BLOCK BY CALL CHARACTER CHARACTERS CLOSE COMP COMP-3 COMPUTATIONAL COMPUTATIONAL-3 COMPUTE CONFIGURATION CONTAINS CONTENT CONTINUE CONVERTING COPY CORR CORRESPONDING COUNT DATA DATE-COMPILED DATE-WRITTEN DELETE DELIMITED DELIMITER DEPENDING DESCENDING DISPLAY DIVIDE DIVISION DOWN DUPLICATES DYNAMIC ELSE END END-ADD END-CALL END-COMPUTE END-DELETE END-DIVIDE END-EVALUATE END-IF END-MULTIPLY END-PERFORM END-READ END-RETURN END-REWRITE END-SEARCH END-START END-STRING END-SUBTRACT END-UNSTRING END-WRITE ENVIRONMENT EQUAL ERROR EVALUATE EXCEPTION EXIT EXTEND EXTERNAL FALSE FD FILE FILE-CONTROL FILLER FIRST FOR FROM GIVING GLOBAL GO GREATER HIGH-VALUE HIGH-VALUES I-O I-O-CONTROL IDENTIFICATION IF IN INDEX INDEXED INITIAL INITIALIZE INPUT INPUT-OUTPUT INSPECT INSTALLATION INTO INVALID IS JUST JUSTIFIED KEY LABEL LEADING LEFT LESS LINE LINES LINKAGE LOCK LOW-VALUE LOW-VALUES MERGE MODE MOVE MULTIPLY NATIVE NEGATIVE NEXT NO NOT NUMERIC NUMERIC-EDITED OBJECT-COMPUTER OCCURS OF OFF OMITTED ON OPEN OPTIONAL OR ORDER ORGANIZATION OTHER OUTPUT OVERFLOW PACKED-DECIMAL PERFORM PIC PICTURE POINTER POSITIVE PROCEDURE PROCEED PROGRAM PROGRAM-ID QUOTE QUOTES RANDOM READ RECORD RECORDS REDEFINES REFERENCE RELATIVE RELEASE REMAINDER RENAMES REPLACE REPLACING RETURN REWRITE RIGHT ROUNDED RUN SAME SD SEARCH SECTION SECURITY SELECT SENTENCE SEPARATE SEQUENTIAL SET SIGN SIZE SORT SORT-MERGE SOURCE-COMPUTER SPACE SPACES SPECIAL-NAMES STANDARD START STATUS STOP STRING SUBTRACT SYNC SYNCHRONIZED TALLYING TEST THAN THEN THROUGH THRU TIMES TO TRAILING TRUE UNSTRING UNTIL UP UPON USAGE USING VALUE VALUES VARYING WHEN WITH WORKING-STORAGE WRITE ZERO ZEROES ZEROS "
theorem rs_eq:rs=String.ofList rl:=by kernel_rfl
theorem res_at:resB=[.Assign [.Name "RESERVED" ⟨311,0,311,8⟩] (.Constant (.str (Str.ofString rs)) 0 ⟨311,11,311,1873⟩) ⟨311,0,311,1873⟩]:=by kernel_rfl
noncomputable def okL (l:List Nat):Bool:=l.head?==some 32&&l.all fun c=>!(Nat.beq c 123||Nat.beq c 125||Nat.beq c 46)
theorem okL_r:okL (rl.map Char.toNat)=true:=by kernel_rfl
theorem okL_s {l:List Nat}(h:okL l=true):lk0.str ⟨l.toArray⟩=true:=by
 simp only[okL,Bool.and_eq_true,beq_iff_eq]at h
 obtain⟨h1,h2⟩:=h
 refine str_ok ?_ ?_ ?_
 ·rw[←Array.getElem?_toList,←List.head?_eq_getElem?];exact h1
 ·rw[←Bool.not_eq_true,Array.any_eq_true']
  rintro⟨c,hc,h⟩
  have:=List.all_eq_true.mp h2 c (Array.mem_toList_iff.mpr hc)
  simp only[Bool.or_eq_true,beq_iff_eq]at h
  rcases h with rfl | rfl<;>simp at this
 ·rw[←Bool.not_eq_true,Array.any_eq_true']
  rintro⟨c,hc,h⟩
  have:=List.all_eq_true.mp h2 c (Array.mem_toList_iff.mpr hc)
  simp only[beq_iff_eq]at h
  subst h;simp at this
theorem nr_assign {n:Str}{p p2 p3:Pos}{k:Nat}{x:Str}(h:(lk0.stores [.Name n p]&&lk0.name n)=true)(hs:lk0.str x=true):noRoadLSs lk0 [.Assign [.Name n p] (.Constant (.str x) k p2) p3]=true:=by
 have e:noRoadLSs lk0 [.Assign [.Name n p] (.Constant (.str x) k p2) p3]=((lk0.stores [.Name n p]&&(lk0.name n&&true)&&lk0.str x)&&true):=rfl
 rw[Bool.and_eq_true]at h
 rw[e,h.1,h.2,hs];rfl
theorem res_road:noRoadLSs lk0 resB=true:=by
 rw[res_at]
 refine nr_assign (by kernel_rfl) ?_
 rw[rs_eq,Fast.ofString_ofList]
 exact okL_s okL_r
theorem road:noRoadLSs { strict:=!(importedModules P.main.body).all cThrough.contains,foot:=none,bare:=(["vars","dir","locals"]:List Str).filter (readsOut P P.main.body) } P.main.body=true:=by
 rw[bare_nil,strict_eq]
 have e1:noRoadLSs lk0 (P.main.body.take 51)=true:=by(rw[Fast.te8326940854005059898];kernel_rfl)
 have e2:noRoadLSs lk0 (P.main.body.drop 52)=true:=by(rw[Fast.te8326940854005059898];kernel_rfl)
 have e3:noRoadLSs lk0 resB=true:=res_road
 have:noRoadLSs lk0 P.main.body=true:=by
  rw[body_split,noRoad_append,noRoad_append,e1,e2]
  simp only[Bool.true_and,Bool.and_true]
  exact e3
 exact this
theorem looks:looksOpen P=true:=by
 unfold looksOpen
 simp only[Bool.and_eq_true]
 refine⟨⟨⟨⟨⟨?_,?_⟩,?_⟩,?_⟩,road⟩,?_⟩<;>(kernel_rfl)
theorem part:L.row.partSaid=true:=by
 unfold OpenRow.partSaid
 simp only[Bool.and_eq_true]
 refine⟨⟨⟨⟨⟨⟨⟨⟨⟨⟨⟨⟨⟨looks,?_⟩,?_⟩,?_⟩,?_⟩,?_⟩,?_⟩,?_⟩,?_⟩,?_⟩,?_⟩,?_⟩,?_⟩,?_⟩<;>(kernel_rfl)
theorem rowSaid:L.row.wellSaid=true:=by
 unfold OpenRow.wellSaid
 simp only[Bool.and_eq_true]
 refine⟨⟨part,?_⟩,?_⟩<;>(kernel_rfl)
theorem said:L.wellSaid=true:=by
 unfold OpenLaw.wellSaid
 iterate 18 (refine look_both ?_ ?_)
 exact rowSaid
 all_goals (kernel_rfl)
end Mine
end
section
namespace Mine.H
open PySem PySem.W
noncomputable abbrev rsv:Str:=Str.ofString Mine.rs
abbrev P0:Program:=PySem.Challenge.pw_pc0147_01
noncomputable def stmtAt:List Stmt→List Nat→Option Stmt
 |b,[i]=>b[i]?
 |b,i::r=>match b[i]? with | some (.ClassDef _ _ _ c _ _ _ _ _ _ _)=>stmtAt c r | _=>none
 |_,[]=>none
noncomputable def fn (l:List Nat)(q:Str):FuncData:=match stmtAt P0.main.body l with
 |some (.FunctionDef n a b _ _ _ sc _ _ _)=>{ name:=n,qualname:=q,params:=a,body:=.stmts b,scope:=sc,globals:=0,closure:=[],defaults:=.none,kwdefaults:=.none }
 |_=>{ name:=q,qualname:=q,params:=⟨[],[],none,[],[],none,[]⟩,body:=.stmts [],scope:=⟨.function,[],false,false,[]⟩,globals:=0,closure:=[],defaults:=.none,kwdefaults:=.none }
noncomputable def de (P:Params)(k:Str)(t:Nat)(v:Value):DictEntry:={ hash:=PyData.keyHash P k,key:=.str k t,val:=v }
noncomputable def tp (l:Array Value):Obj:={ cls:=.type "tuple",data:=.seq l }
noncomputable def fl (l:Array Value):Obj:={ cls:=.none,data:=.fields l }
noncomputable def cd (l:Array Value):Obj:={ cls:=.type "code",data:=.fields l }
noncomputable def f0 (l:List Nat)(q:Str):Obj:={ cls:=.none,data:=.func (fn l q) }
noncomputable def f1 (l:List Nat)(q:Str)(m:Value)(c:Nat):Obj:={ cls:=.type "function",data:=.func { fn l q with globals:=3,pyModule:=m,code:=.ref c } }
noncomputable def co (n q:Str)(t:Nat)(l c:Int)(r u:Nat):Obj:=cd #[.str n t,.str q (t+1),.str "/claim/cut.py" (t+2),.int l 0,.int c 0,.int 0 0,.int 0 0,.int 3 0,.ref r,.bool true,.int 181 0,.ref (r+1),.none,.ref (r+2),.ref (r+3),.ref (r+4),.int (Int.ofNat u) 0,.int l 0,.str "/claim/cut.py" (u+1)]
noncomputable abbrev m764:Value:=.str "ledgerspeak.reader" 764
noncomputable abbrev m524:Value:=.str "ledgerspeak.conditions" 524
noncomputable abbrev m194:Value:=.str "ledgerspeak.errors" 194
noncomputable abbrev m1036:Value:=.str "law_pc0147_01" 1036
noncomputable abbrev m445:Value:=.str "ledgerspeak.expressions" 445
noncomputable abbrev m268:Value:=.str "ledgerspeak.decimals" 268
noncomputable abbrev m343:Value:=.str "ledgerspeak.references" 343
noncomputable def nsE (P:Params):List DictEntry:=[de P "__doc__" 166 .none,de P "__package__" 167 .none,de P "__loader__" 168 (.builtin "__main__.__loader__#opaque"),de P "__spec__" 169 .none,de P "__annotations__" 170 (.ref 6),de P "__builtins__" 171 (.ref 4),de P "__file__" 173 (.str "/claim/cut.py" 172),de P "__cached__" 174 .none,de P "_wall" 193 (.ref 21),de P "LedgerError" 235 (.ref 47),de P "TokenFault" 251 (.ref 60),de P "GrammarFault" 267 (.ref 72),de P "FIGURES" 271 (.str "0123456789" 270),de P "cut_quotient" 279 (.ref 81),de P "decimal" 288 (.ref 89),de P "negated" 295 (.ref 96),de P "units_at" 306 (.ref 103),de P "is_whole" 313 (.ref 110),de P "whole_of" 320 (.ref 117),de P "worth_of" 329 (.ref 124),de P "read_decimal" 342 (.ref 131),de P "MOST_SUBSCRIPTS" 346 (.int 7 345),de P "FIGURE_NAMES" 380 (.ref 132),de P "is_part_next" 389 (.ref 139),de P "read_subscripts" 398 (.ref 146),de P "read_part" 408 (.ref 153),de P "read_ref" 420 (.ref 160),de P "read_all" 428 (.ref 167),de P "read_figure" 435 (.ref 174),de P "read_operand" 444 (.ref 181),de P "MOST_DEEP_expressions" 448 (.int 20 447),de P "read_expression" 455 (.ref 188),de P "sign_among" 464 (.ref 195),de P "read_sum" 474 (.ref 202),de P "read_product" 484 (.ref 209),de P "read_factor" 495 (.ref 216),de P "is_lone_number" 504 (.ref 223),de P "read_power" 513 (.ref 230),de P "read_primary" 523 (.ref 237),de P "MOST_DEEP_conditions" 527 (.int 20 526),de P "OPPOSITES" 546 (.ref 238),de P "CLASSES" 551 (.ref 239),de P "WORDS_OF_SIGNS" 567 (.ref 240),de P "WORDS_OF_RELATIONS" 577 (.ref 241),de P "RELATIONS" 583 (.ref 242),de P "word_here" 593 (.ref 250),de P "is_relation_at" 602 (.ref 257),de P "place_of_word" 610 (.ref 264),de P "is_predicate_here" 619 (.ref 271),de P "is_bare_relation_here" 626 (.ref 278),de P "ConditionReader" 754 (.ref 372),de P "read_condition" 763 (.ref 384),de P "MOST_OCTET" 767 (.int 255 766),de P "RESERVED" 769 (.str rsv 768),de P "is_reserved" 776 (.ref 391),de P "octets_of_text" 782 (.ref 396),de P "Reader" 989 (.ref 565),de P "Token" 1035 (.ref 595),de P "_law_signs" 1043 (.ref 600),de P "_law_turned" 1049 (.ref 607),de P "_law_draw" 1061 (.ref 614),de P "_law_pen" 1068 (.ref 621),de P "_law_reader" 1079 (.ref 628),de P "_law_ref" 1086 (.ref 635),de P "_law_part" 1105 (.ref 642),de P "_law_row" 1111 (.ref 647),de P "law" 1125 (.ref 654)]
noncomputable def nsO (P:Params)(v:Value)(m k:Nat):Obj:={ cls:=.type "dict",data:=Data.dict (de P "__name__" 165 v::(nsE P).take m).toArray k }
noncomputable def flE:List Value:=[.int 1 0,.int 0 0,.ref 20,.int 5 0,.int 0 0,.ref 27,.int 14 0,.int 0 0,.ref 56,.int 16 0,.int 0 0,.ref 68,.int 20 0,.int 0 0,.ref 80,.int 24 0,.int 0 0,.ref 88,.int 31 0,.int 0 0,.ref 95,.int 33 0,.int 0 0,.ref 102,.int 41 0,.int 0 0,.ref 109,.int 43 0,.int 0 0,.ref 116,.int 45 0,.int 0 0,.ref 123,.int 50 0,.int 0 0,.ref 130,.int 68 0,.int 0 0,.ref 138,.int 81 0,.int 0 0,.ref 145,.int 89 0,.int 0 0,.ref 152,.int 96 0,.int 0 0,.ref 159,.int 106 0,.int 0 0,.ref 166,.int 113 0,.int 0 0,.ref 173,.int 117 0,.int 0 0,.ref 180,.int 128 0,.int 0 0,.ref 187,.int 130 0,.int 0 0,.ref 194,.int 135 0,.int 0 0,.ref 201,.int 143 0,.int 0 0,.ref 208,.int 149 0,.int 0 0,.ref 215,.int 159 0,.int 0 0,.ref 222,.int 164 0,.int 0 0,.ref 229,.int 170 0,.int 0 0,.ref 236,.int 185 0,.int 0 0,.ref 249,.int 188 0,.int 0 0,.ref 256,.int 193 0,.int 0 0,.ref 263,.int 196 0,.int 0 0,.ref 270,.int 200 0,.int 0 0,.ref 277,.int 202 0,.int 0 0,.ref 284,.int 305 0,.int 0 0,.ref 383,.int 312 0,.int 0 0,.ref 390,.int 314 0,.int 0 0,.ref 395,.int 319 0,.int 0 0,.ref 402,.int 442 0,.int 0 0,.ref 575,.int 454 0,.int 0 0,.ref 606,.int 456 0,.int 0 0,.ref 613,.int 471 0,.int 0 0,.ref 620,.int 473 0,.int 0 0,.ref 627,.int 479 0,.int 0 0,.ref 634,.int 481 0,.int 0 0,.ref 641,.int 513 0,.int 0 0,.ref 646,.int 533 0,.int 0 0,.ref 653]
noncomputable def split (l:List Obj):List Obj × List Obj:=l.foldr (fun x p=>(x::p.2,p.1)) ([],[])
noncomputable def treeOf:Nat→List Obj→BT
 |0,_=>.nil
 |_+1,[]=>.nil
 |n+1,x::r=>.node x (treeOf n (split r).1) (treeOf n (split r).2)
noncomputable def F0 (P:Params):List Obj:=[boot_o_0 P,
 boot_o_1 P,
 { cls:=.none,data:=Data.dict #[de P "type.__subclasses__.Exception.0" 232 (.int 47 0),de P "type.__subclasses__.Exception.n" 233 (.int 1 0)] 2 },
 nsO P m1036 67 68,
 boot_o_4 P,
 boot_o_5 P,
 boot_o_6 P,
 boot_o_7 P,
 boot_o_8 P,
 boot_o_9 P,
 boot_o_10 P,
 tp #[],
 fl flE.toArray,
 cd #[.str "<module>" 182,.str "<module>" 183,.str "/claim/cut.py" 184,.int 1 0,.int 0 0,.int 0 0,.int 0 0,.int 0 0,.ref 11,.bool false,.int 181 0,.ref 12,.none,.none,.none,.none,.int 185 0,.int 1 0,.str "/claim/cut.py" 186],
 { cls:=.type "frame",slots:=#[some (.ref 13),some (.ref 3),some (.ref 3),none,some (.str "__main__" 164),none,some (.ref 0)] },
 tp #[],
 fl #[],
 tp #[.str "k" 190],
 tp #[],
 f0 [0] "_wall",
 co "_wall" "_wall" 187 1 1 15 191,
 f1 [0] "_wall" (.str "__main__" 164) 20,
 tp #[.type "Exception"],
 { cls:=.type "builtin_function_or_method",data:=Data.fields #[.builtin "type.__prepare__",.type "type"] },
 { cls:=.type "dict",data:=Data.dict #[de P "__module__" 203 m194,de P "__qualname__" 205 (.str "LedgerError" 204),de P "__firstlineno__" 207 (.int 5 206),de P "__init__" 218 (.ref 37),de P "told" 225 (.ref 44),de P "__static_attributes__" 228 (.ref 45)] 6 },
 tp #[],
 fl #[.int 7 0,.int 4 0,.ref 36,.int 12 0,.int 4 0,.ref 43],
 cd #[.str "LedgerError" 198,.str "LedgerError" 199,.str "/claim/cut.py" 200,.int 5 0,.int 0 0,.int 0 0,.int 0 0,.int 0 0,.ref 25,.bool false,.int 181 0,.ref 26,.none,.none,.none,.none,.int 201 0,.int 5 0,.str "/claim/cut.py" 202],
 { cls:=.type "frame",slots:=#[some (.ref 27),some (.ref 3),some (.ref 24),none,some m194,none,some (.ref 0)] },
 tp #[.int 0 208,.int 0 209],
 tp #[.ref 29],
 tp #[],
 fl #[],
 tp #[.str "self" 213,.str "what" 214,.str "at" 215],
 tp #[],
 f0 [2,0] "LedgerError.__init__",
 co "__init__" "LedgerError.__init__" 210 7 3 31 216,
 { cls:=.type "function",data:=.func { fn [2,0] "LedgerError.__init__" with globals:=3,defaults:=.ref 30,kwdefaults:=.none,pyModule:=.str "ledgerspeak.errors" 194,code:=.ref 36 } },
 tp #[],
 fl #[],
 tp #[.str "self" 222],
 tp #[],
 f0 [2,1] "LedgerError.told",
 co "told" "LedgerError.told" 219 12 1 38 223,
 f1 [2,1] "LedgerError.told" m194 43,
 tp #[.str "at" 226,.str "what" 227],
 { cls:=.type "dict",data:=Data.dict #[de P "__module__" 203 m194,de P "__firstlineno__" 207 (.int 5 206),de P "__init__" 218 (.ref 37),de P "told" 225 (.ref 44),de P "__static_attributes__" 228 (.ref 45),de P "__weakref__" 230 (.ref 48),de P "__doc__" 231 .none] 3 },
 { cls:=.type "type",data:=Data.cls { name := "LedgerError",bases:=[.type "Exception"],mro:=[.ref 47,.type "Exception",.type "BaseException",.type "object"],ns:=46,qualname := "LedgerError",subclasses:=[.ref 60,.ref 72] },slots:=#[some (.ref 22),none,some (.str "LedgerError" 196),some (.str "LedgerError" 204),some (.builtin "Exception.__new__"),some (.bool true)] },
 { cls:=.type "getset_descriptor",data:=Data.fields #[.str "__weakref__" 229,.ref 47,.builtin "ExceptionGroup.__weakref__",.none] },
 { cls:=.type "super",data:=Data.fields #[.ref 47,.ref 47,.ref 47] },
 { cls:=.type "builtin_function_or_method",data:=Data.fields #[.builtin "object.__init_subclass__",.ref 47] },
 tp #[.ref 47],
 { cls:=.type "builtin_function_or_method",data:=Data.fields #[.builtin "type.__prepare__",.type "type"] },
 { cls:=.type "dict",data:=Data.dict #[de P "__module__" 243 m194,de P "__qualname__" 245 (.str "TokenFault" 244),de P "__firstlineno__" 247 (.int 14 246),de P "__static_attributes__" 248 (.ref 58)] 4 },
 tp #[],
 fl #[],
 cd #[.str "TokenFault" 238,.str "TokenFault" 239,.str "/claim/cut.py" 240,.int 14 0,.int 0 0,.int 0 0,.int 0 0,.int 0 0,.ref 54,.bool false,.int 181 0,.ref 55,.none,.none,.none,.none,.int 241 0,.int 14 0,.str "/claim/cut.py" 242],
 { cls:=.type "frame",slots:=#[some (.ref 56),some (.ref 3),some (.ref 53),none,some m194,none,some (.ref 0)] },
 tp #[],
 { cls:=.type "dict",data:=Data.dict #[de P "__module__" 243 m194,de P "__firstlineno__" 247 (.int 14 246),de P "__static_attributes__" 248 (.ref 58),de P "__doc__" 249 .none] 2 }]
noncomputable def F1 (P:Params):List Obj:=[{ cls:=.type "type",data:=Data.cls { name := "TokenFault",bases:=[.ref 47],mro:=[.ref 60,.ref 47,.type "Exception",.type "BaseException",.type "object"],ns:=59,qualname := "TokenFault" },slots:=#[some (.ref 51),none,some (.str "TokenFault" 236),some (.str "TokenFault" 244),some (.builtin "Exception.__new__"),some (.bool true)] },
 { cls:=.type "super",data:=Data.fields #[.ref 60,.ref 60,.ref 60] },
 { cls:=.type "builtin_function_or_method",data:=Data.fields #[.builtin "object.__init_subclass__",.ref 60] },
 tp #[.ref 47],
 { cls:=.type "builtin_function_or_method",data:=Data.fields #[.builtin "type.__prepare__",.type "type"] },
 { cls:=.type "dict",data:=Data.dict #[de P "__module__" 259 m194,de P "__qualname__" 261 (.str "GrammarFault" 260),de P "__firstlineno__" 263 (.int 16 262),de P "__static_attributes__" 264 (.ref 70)] 4 },
 tp #[],
 fl #[],
 cd #[.str "GrammarFault" 254,.str "GrammarFault" 255,.str "/claim/cut.py" 256,.int 16 0,.int 0 0,.int 0 0,.int 0 0,.int 0 0,.ref 66,.bool false,.int 181 0,.ref 67,.none,.none,.none,.none,.int 257 0,.int 16 0,.str "/claim/cut.py" 258],
 { cls:=.type "frame",slots:=#[some (.ref 68),some (.ref 3),some (.ref 65),none,some m194,none,some (.ref 0)] },
 tp #[],
 { cls:=.type "dict",data:=Data.dict #[de P "__module__" 259 m194,de P "__firstlineno__" 263 (.int 16 262),de P "__static_attributes__" 264 (.ref 70),de P "__doc__" 265 .none] 2 },
 { cls:=.type "type",data:=Data.cls { name := "GrammarFault",bases:=[.ref 47],mro:=[.ref 72,.ref 47,.type "Exception",.type "BaseException",.type "object"],ns:=71,qualname := "GrammarFault" },slots:=#[some (.ref 63),none,some (.str "GrammarFault" 252),some (.str "GrammarFault" 260),some (.builtin "Exception.__new__"),some (.bool true)] },
 { cls:=.type "super",data:=Data.fields #[.ref 72,.ref 72,.ref 72] },
 { cls:=.type "builtin_function_or_method",data:=Data.fields #[.builtin "object.__init_subclass__",.ref 72] },
 tp #[],
 fl #[],
 tp #[.str "top" 275,.str "bottom" 276],
 tp #[],
 f0 [7] "cut_quotient",
 co "cut_quotient" "cut_quotient" 272 20 2 75 277,
 f1 [7] "cut_quotient" m268 80,
 tp #[.int 0 280],
 tp #[],
 fl #[],
 tp #[.str "units" 284,.str "scale" 285],
 tp #[],
 f0 [8] "decimal",
 co "decimal" "decimal" 281 24 2 83 286,
 { cls:=.type "function",data:=.func { fn [8] "decimal" with globals:=3,defaults:=.ref 82,kwdefaults:=.none,pyModule:=.str "ledgerspeak.decimals" 268,code:=.ref 88 } },
 tp #[],
 fl #[],
 tp #[.str "a" 292],
 tp #[],
 f0 [9] "negated",
 co "negated" "negated" 289 31 1 90 293,
 f1 [9] "negated" m268 95,
 tp #[],
 fl #[],
 tp #[.str "a" 299,.str "scale" 300,.str "is_rounded" 301,.str "size" 302,.str "half" 303],
 tp #[],
 f0 [10] "units_at",
 co "units_at" "units_at" 296 33 3 97 304,
 f1 [10] "units_at" m268 102,
 tp #[],
 fl #[],
 tp #[.str "a" 310],
 tp #[],
 f0 [11] "is_whole",
 co "is_whole" "is_whole" 307 41 1 104 311,
 f1 [11] "is_whole" m268 109,
 tp #[],
 fl #[],
 tp #[.str "a" 317],
 tp #[],
 f0 [12] "whole_of",
 co "whole_of" "whole_of" 314 43 1 111 318,
 f1 [12] "whole_of" m268 116,
 tp #[],
 fl #[]]
noncomputable def F2 (P:Params):List Obj:=[tp #[.str "figures" 324,.str "number" 325,.str "figure" 326],
 tp #[],
 f0 [13] "worth_of",
 co "worth_of" "worth_of" 321 45 1 118 327,
 f1 [13] "worth_of" m268 123,
 tp #[],
 fl #[],
 tp #[.str "text" 333,.str "begin" 334,.str "ahead" 335,.str "behind" 336,.str "point" 337,.str "at" 338,.str "units" 339],
 tp #[],
 f0 [14] "read_decimal",
 co "read_decimal" "read_decimal" 330 50 1 125 340,
 f1 [14] "read_decimal" m268 130,
 { cls:=.type "dict",data:=Data.dict #[de P "ZERO" 347 (.str "ZERO" 348),de P "ZEROS" 349 (.str "ZERO" 350),de P "ZEROES" 351 (.str "ZERO" 352),de P "SPACE" 353 (.str "SPACE" 354),de P "SPACES" 355 (.str "SPACE" 356),de P "HIGH-VALUE" 357 (.str "HIGH" 358),de P "HIGH-VALUES" 359 (.str "HIGH" 360),de P "LOW-VALUE" 361 (.str "LOW" 362),de P "LOW-VALUES" 363 (.str "LOW" 364),de P "QUOTE" 365 (.str "QUOTE" 366),de P "QUOTES" 367 (.str "QUOTE" 368)] 11 },
 tp #[],
 fl #[],
 tp #[.str "reader" 384,.str "depth" 385,.str "ahead" 386],
 tp #[],
 f0 [18] "is_part_next",
 co "is_part_next" "is_part_next" 381 68 1 133 387,
 f1 [18] "is_part_next" m343 138,
 tp #[],
 fl #[],
 tp #[.str "reader" 393,.str "read_expr" 394,.str "found" 395],
 tp #[],
 f0 [19] "read_subscripts",
 co "read_subscripts" "read_subscripts" 390 81 2 140 396,
 f1 [19] "read_subscripts" m343 145,
 tp #[],
 fl #[],
 tp #[.str "reader" 402,.str "read_expr" 403,.str "begin" 404,.str "length" 405],
 tp #[],
 f0 [20] "read_part",
 co "read_part" "read_part" 399 89 2 147 406,
 f1 [20] "read_part" m343 152,
 tp #[],
 fl #[],
 tp #[.str "reader" 412,.str "read_expr" 413,.str "name" 414,.str "qualifiers" 415,.str "subscripts" 416,.str "part" 417],
 tp #[],
 f0 [21] "read_ref",
 co "read_ref" "read_ref" 409 96 2 154 418,
 f1 [21] "read_ref" m343 159,
 tp #[],
 fl #[],
 tp #[.str "reader" 424,.str "figure" 425],
 tp #[],
 f0 [22] "read_all",
 co "read_all" "read_all" 421 106 1 161 426,
 f1 [22] "read_all" m343 166,
 tp #[],
 fl #[],
 tp #[.str "reader" 432],
 tp #[],
 f0 [23] "read_figure",
 co "read_figure" "read_figure" 429 113 1 168 433,
 f1 [23] "read_figure" m343 173,
 tp #[],
 fl #[],
 tp #[.str "reader" 439,.str "read_expr" 440,.str "figure" 441],
 tp #[],
 f0 [24] "read_operand"]
noncomputable def F3 (P:Params):List Obj:=[co "read_operand" "read_operand" 436 117 2 175 442,
 f1 [24] "read_operand" m343 180,
 tp #[],
 fl #[],
 tp #[.str "reader" 452],
 tp #[],
 f0 [27] "read_expression",
 co "read_expression" "read_expression" 449 128 1 182 453,
 f1 [27] "read_expression" m445 187,
 tp #[],
 fl #[],
 tp #[.str "reader" 459,.str "signs" 460,.str "token" 461],
 tp #[],
 f0 [28] "sign_among",
 co "sign_among" "sign_among" 456 130 2 189 462,
 f1 [28] "sign_among" m445 194,
 tp #[],
 fl #[],
 tp #[.str "reader" 468,.str "depth" 469,.str "found" 470,.str "sign" 471],
 tp #[],
 f0 [29] "read_sum",
 co "read_sum" "read_sum" 465 135 2 196 472,
 f1 [29] "read_sum" m445 201,
 tp #[],
 fl #[],
 tp #[.str "reader" 478,.str "depth" 479,.str "found" 480,.str "sign" 481],
 tp #[],
 f0 [30] "read_product",
 co "read_product" "read_product" 475 143 2 203 482,
 f1 [30] "read_product" m445 208,
 tp #[],
 fl #[],
 tp #[.str "reader" 488,.str "depth" 489,.str "sign" 490,.str "is_own" 491,.str "found" 492],
 tp #[],
 f0 [31] "read_factor",
 co "read_factor" "read_factor" 485 149 2 210 493,
 f1 [31] "read_factor" m445 215,
 tp #[],
 fl #[],
 tp #[.str "reader" 499,.str "token" 500,.str "behind" 501],
 tp #[],
 f0 [32] "is_lone_number",
 co "is_lone_number" "is_lone_number" 496 159 1 217 502,
 f1 [32] "is_lone_number" m445 222,
 tp #[],
 fl #[],
 tp #[.str "reader" 508,.str "depth" 509,.str "found" 510],
 tp #[],
 f0 [33] "read_power",
 co "read_power" "read_power" 505 164 2 224 511,
 f1 [33] "read_power" m445 229,
 tp #[],
 fl #[],
 tp #[.str "reader" 517,.str "depth" 518,.str "found" 519],
 tp #[.str "depth" 520],
 f0 [34] "read_primary",
 co "read_primary" "read_primary" 514 170 2 231 521,
 f1 [34] "read_primary" m445 236,
 { cls:=.type "dict",data:=Data.dict #[de P "=" 528 (.str "<>" 529),de P "<>" 530 (.str "=" 531),de P "<" 532 (.str ">=" 533),de P ">=" 534 (.str "<" 535),de P ">" 536 (.str "<=" 537),de P "<=" 538 (.str ">" 539)] 6 },
 tp #[.str "NUMERIC" 547,.str "ALPHABETIC" 548,.str "ALPHABETIC-LOWER" 549,.str "ALPHABETIC-UPPER" 550]]
noncomputable def F4 (P:Params):List Obj:=[{ cls:=.type "dict",data:=Data.dict #[de P "POSITIVE" 552 (.str "POSITIVE" 553),de P "NEGATIVE" 554 (.str "NEGATIVE" 555),de P "ZERO" 556 (.str "ZERO" 557),de P "ZEROS" 558 (.str "ZERO" 559),de P "ZEROES" 560 (.str "ZERO" 561)] 5 },
 { cls:=.type "dict",data:=Data.dict #[de P "GREATER" 568 (.str ">" 569),de P "LESS" 570 (.str "<" 571),de P "EQUAL" 572 (.str "=" 573)] 3 },
 tp #[.str "=" 578,.str "<" 579,.str ">" 580,.str "<=" 581,.str ">=" 582],
 tp #[.int 0 584],
 tp #[],
 fl #[],
 tp #[.str "reader" 588,.str "ahead" 589,.str "token" 590],
 tp #[],
 f0 [42] "word_here",
 co "word_here" "word_here" 585 185 2 244 591,
 { cls:=.type "function",data:=.func { fn [42] "word_here" with globals:=3,defaults:=.ref 243,kwdefaults:=.none,pyModule:=.str "ledgerspeak.conditions" 524,code:=.ref 249 } },
 tp #[],
 fl #[],
 tp #[.str "reader" 597,.str "ahead" 598,.str "token" 599],
 tp #[],
 f0 [43] "is_relation_at",
 co "is_relation_at" "is_relation_at" 594 188 2 251 600,
 f1 [43] "is_relation_at" m524 256,
 tp #[],
 fl #[],
 tp #[.str "reader" 606,.str "ahead" 607],
 tp #[],
 f0 [44] "place_of_word",
 co "place_of_word" "place_of_word" 603 193 1 258 608,
 f1 [44] "place_of_word" m524 263,
 tp #[],
 fl #[],
 tp #[.str "reader" 614,.str "ahead" 615,.str "word" 616],
 tp #[],
 f0 [45] "is_predicate_here",
 co "is_predicate_here" "is_predicate_here" 611 196 1 265 617,
 f1 [45] "is_predicate_here" m524 270,
 tp #[],
 fl #[],
 tp #[.str "reader" 623],
 tp #[],
 f0 [46] "is_bare_relation_here",
 co "is_bare_relation_here" "is_bare_relation_here" 620 200 1 272 624,
 f1 [46] "is_bare_relation_here" m524 277,
 tp #[],
 { cls:=.type "builtin_function_or_method",data:=Data.fields #[.builtin "type.__prepare__",.type "type"] },
 { cls:=.type "dict",data:=Data.dict #[de P "__module__" 634 m524,de P "__qualname__" 636 (.str "ConditionReader" 635),de P "__firstlineno__" 638 (.int 202 637),de P "__init__" 648 (.ref 292),de P "either" 656 (.ref 299),de P "both" 664 (.ref 306),de P "turned" 671 (.ref 313),de P "single" 682 (.ref 320),de P "unbracketed" 690 (.ref 327),de P "in_brackets" 698 (.ref 334),de P "subject_of_last" 705 (.ref 341),de P "sign_of_last" 712 (.ref 348),de P "predicate" 723 (.ref 355),de P "relation" 733 (.ref 362),de P "sign_here" 742 (.ref 369),de P "__static_attributes__" 747 (.ref 370)] 16 },
 tp #[],
 fl #[.int 204 0,.int 4 0,.ref 291,.int 210 0,.int 4 0,.ref 298,.int 216 0,.int 4 0,.ref 305,.int 222 0,.int 4 0,.ref 312,.int 228 0,.int 4 0,.ref 319,.int 242 0,.int 4 0,.ref 326,.int 253 0,.int 4 0,.ref 333,.int 262 0,.int 4 0,.ref 340,.int 267 0,.int 4 0,.ref 347,.int 272 0,.int 4 0,.ref 354,.int 286 0,.int 4 0,.ref 361,.int 293 0,.int 4 0,.ref 368],
 cd #[.str "ConditionReader" 629,.str "ConditionReader" 630,.str "/claim/cut.py" 631,.int 202 0,.int 0 0,.int 0 0,.int 0 0,.int 0 0,.ref 282,.bool false,.int 181 0,.ref 283,.none,.none,.none,.none,.int 632 0,.int 202 0,.str "/claim/cut.py" 633],
 { cls:=.type "frame",slots:=#[some (.ref 284),some (.ref 3),some (.ref 281),none,some m524,none,some (.ref 0)] },
 tp #[],
 fl #[],
 tp #[.str "self" 642,.str "reader" 643,.str "is_named" 644,.str "depth" 645],
 tp #[],
 f0 [47,0] "ConditionReader.__init__",
 co "__init__" "ConditionReader.__init__" 639 204 4 286 646,
 f1 [47,0] "ConditionReader.__init__" m524 291,
 tp #[],
 fl #[],
 tp #[.str "self" 652,.str "found" 653],
 tp #[],
 f0 [47,1] "ConditionReader.either",
 co "either" "ConditionReader.either" 649 210 1 293 654,
 f1 [47,1] "ConditionReader.either" m524 298]
noncomputable def F5 (P:Params):List Obj:=[tp #[],
 fl #[],
 tp #[.str "self" 660,.str "found" 661],
 tp #[],
 f0 [47,2] "ConditionReader.both",
 co "both" "ConditionReader.both" 657 216 1 300 662,
 f1 [47,2] "ConditionReader.both" m524 305,
 tp #[],
 fl #[],
 tp #[.str "self" 668],
 tp #[],
 f0 [47,3] "ConditionReader.turned",
 co "turned" "ConditionReader.turned" 665 222 1 307 669,
 f1 [47,3] "ConditionReader.turned" m524 312,
 tp #[],
 fl #[],
 tp #[.str "self" 675,.str "start" 676,.str "error" 677,.str "elder" 678,.str "far" 679],
 tp #[],
 f0 [47,4] "ConditionReader.single",
 co "single" "ConditionReader.single" 672 228 1 314 680,
 f1 [47,4] "ConditionReader.single" m524 319,
 tp #[],
 fl #[],
 tp #[.str "self" 686,.str "subject" 687],
 tp #[],
 f0 [47,5] "ConditionReader.unbracketed",
 co "unbracketed" "ConditionReader.unbracketed" 683 242 1 321 688,
 f1 [47,5] "ConditionReader.unbracketed" m524 326,
 tp #[],
 fl #[],
 tp #[.str "self" 694,.str "found" 695],
 tp #[],
 f0 [47,6] "ConditionReader.in_brackets",
 co "in_brackets" "ConditionReader.in_brackets" 691 253 1 328 696,
 f1 [47,6] "ConditionReader.in_brackets" m524 333,
 tp #[],
 fl #[],
 tp #[.str "self" 702],
 tp #[],
 f0 [47,7] "ConditionReader.subject_of_last",
 co "subject_of_last" "ConditionReader.subject_of_last" 699 262 1 335 703,
 f1 [47,7] "ConditionReader.subject_of_last" m524 340,
 tp #[],
 fl #[],
 tp #[.str "self" 709],
 tp #[],
 f0 [47,8] "ConditionReader.sign_of_last",
 co "sign_of_last" "ConditionReader.sign_of_last" 706 267 1 342 710,
 f1 [47,8] "ConditionReader.sign_of_last" m524 347,
 tp #[],
 fl #[],
 tp #[.str "self" 716,.str "subject" 717,.str "word" 718,.str "is_not" 719,.str "found" 720],
 tp #[],
 f0 [47,9] "ConditionReader.predicate",
 co "predicate" "ConditionReader.predicate" 713 272 2 349 721,
 f1 [47,9] "ConditionReader.predicate" m524 354,
 tp #[],
 fl #[],
 tp #[.str "self" 727,.str "subject" 728,.str "is_not" 729,.str "sign" 730],
 tp #[]]
noncomputable def F6 (P:Params):List Obj:=[f0 [47,10] "ConditionReader.relation",
 co "relation" "ConditionReader.relation" 724 286 2 356 731,
 f1 [47,10] "ConditionReader.relation" m524 361,
 tp #[],
 fl #[],
 tp #[.str "self" 737,.str "token" 738,.str "sign" 739],
 tp #[],
 f0 [47,11] "ConditionReader.sign_here",
 co "sign_here" "ConditionReader.sign_here" 734 293 1 363 740,
 f1 [47,11] "ConditionReader.sign_here" m524 368,
 tp #[.str "depth" 743,.str "is_named" 744,.str "last" 745,.str "reader" 746],
 { cls:=.type "dict",data:=Data.dict #[de P "__module__" 634 m524,de P "__firstlineno__" 638 (.int 202 637),de P "__init__" 648 (.ref 292),de P "either" 656 (.ref 299),de P "both" 664 (.ref 306),de P "turned" 671 (.ref 313),de P "single" 682 (.ref 320),de P "unbracketed" 690 (.ref 327),de P "in_brackets" 698 (.ref 334),de P "subject_of_last" 705 (.ref 341),de P "sign_of_last" 712 (.ref 348),de P "predicate" 723 (.ref 355),de P "relation" 733 (.ref 362),de P "sign_here" 742 (.ref 369),de P "__static_attributes__" 747 (.ref 370),de P "__dict__" 749 (.ref 373),de P "__weakref__" 751 (.ref 374),de P "__doc__" 752 .none] 4 },
 { cls:=.type "type",data:=Data.cls { name := "ConditionReader",bases:=[.type "object"],mro:=[.ref 372,.type "object"],ns:=371,qualname := "ConditionReader" },slots:=#[none,none,some (.str "ConditionReader" 627),some (.str "ConditionReader" 635),some (.builtin "object.__new__"),some (.bool true)] },
 { cls:=.type "getset_descriptor",data:=Data.fields #[.str "__dict__" 748,.ref 372,.builtin "function.__dict__",.builtin "function.__dict__#set"] },
 { cls:=.type "getset_descriptor",data:=Data.fields #[.str "__weakref__" 750,.ref 372,.builtin "ExceptionGroup.__weakref__",.none] },
 { cls:=.type "super",data:=Data.fields #[.ref 372,.ref 372,.ref 372] },
 { cls:=.type "builtin_function_or_method",data:=Data.fields #[.builtin "object.__init_subclass__",.ref 372] },
 tp #[.none],
 tp #[],
 fl #[],
 tp #[.str "reader" 758,.str "is_named" 759],
 tp #[.str "reader" 760],
 f0 [48] "read_condition",
 co "read_condition" "read_condition" 755 305 2 378 761,
 { cls:=.type "function",data:=.func { fn [48] "read_condition" with globals:=3,defaults:=.ref 377,kwdefaults:=.none,pyModule:=.str "ledgerspeak.conditions" 524,code:=.ref 383 } },
 tp #[],
 fl #[],
 tp #[.str "word" 773],
 tp #[],
 f0 [52] "is_reserved",
 co "is_reserved" "is_reserved" 770 312 1 385 774,
 f1 [52] "is_reserved" m764 390,
 tp #[],
 fl #[],
 f0 [53] "octets_of_text",
 cd #[.str "octets_of_text" 777,.str "octets_of_text" 778,.str "/claim/cut.py" 779,.int 314 0,.int 1 0,.int 0 0,.int 0 0,.int 3 0,.ref 392,.bool true,.int 181 0,.ref 393,.none,.none,.none,.ref 394,.int 780 0,.int 314 0,.str "/claim/cut.py" 781],
 f1 [53] "octets_of_text" m764 395,
 tp #[],
 { cls:=.type "builtin_function_or_method",data:=Data.fields #[.builtin "type.__prepare__",.type "type"] },
 { cls:=.type "dict",data:=Data.dict #[de P "__module__" 790 m764,de P "__qualname__" 792 (.str "Reader" 791),de P "__firstlineno__" 794 (.int 319 793),de P "__init__" 804 (.ref 411),de P "peek" 813 (.ref 419),de P "is_done" 820 (.ref 426),de P "fault" 828 (.ref 433),de P "take" 836 (.ref 440),de P "is_kind" 847 (.ref 448),de P "is_word" 857 (.ref 455),de P "skip" 865 (.ref 462),de P "need" 873 (.ref 469),de P "one_of" 882 (.ref 476),de P "word" 889 (.ref 483),de P "is_name" 898 (.ref 491),de P "name" 905 (.ref 498),de P "names" 913 (.ref 505),de P "is_sign" 923 (.ref 513),de P "skip_sign" 931 (.ref 520),de P "need_sign" 939 (.ref 527),de P "is_number" 946 (.ref 534),de P "signed" 955 (.ref 541),de P "whole" 963 (.ref 548),de P "literal" 970 (.ref 555),de P "octets" 978 (.ref 562),de P "__static_attributes__" 982 (.ref 563)] 26 },
 tp #[],
 fl #[.int 321 0,.int 4 0,.ref 410,.int 326 0,.int 4 0,.ref 418,.int 331 0,.int 4 0,.ref 425,.int 334 0,.int 4 0,.ref 432,.int 339 0,.int 4 0,.ref 439,.int 346 0,.int 4 0,.ref 447,.int 350 0,.int 4 0,.ref 454,.int 358 0,.int 4 0,.ref 461,.int 364 0,.int 4 0,.ref 468,.int 367 0,.int 4 0,.ref 475,.int 373 0,.int 4 0,.ref 482,.int 378 0,.int 4 0,.ref 490,.int 381 0,.int 4 0,.ref 497,.int 386 0,.int 4 0,.ref 504,.int 392 0,.int 4 0,.ref 512,.int 395 0,.int 4 0,.ref 519,.int 401 0,.int 4 0,.ref 526,.int 405 0,.int 4 0,.ref 533,.int 410 0,.int 4 0,.ref 540,.int 419 0,.int 4 0,.ref 547,.int 428 0,.int 4 0,.ref 554,.int 433 0,.int 4 0,.ref 561],
 cd #[.str "Reader" 785,.str "Reader" 786,.str "/claim/cut.py" 787,.int 319 0,.int 0 0,.int 0 0,.int 0 0,.int 0 0,.ref 400,.bool false,.int 181 0,.ref 401,.none,.none,.none,.none,.int 788 0,.int 319 0,.str "/claim/cut.py" 789],
 { cls:=.type "frame",slots:=#[some (.ref 402),some (.ref 3),some (.ref 399),none,some m764,none,some (.ref 0)] },
 tp #[.int 0 795],
 tp #[],
 fl #[],
 tp #[.str "self" 799,.str "tokens" 800,.str "at" 801],
 tp #[],
 f0 [54,0] "Reader.__init__",
 co "__init__" "Reader.__init__" 796 321 3 405 802,
 { cls:=.type "function",data:=.func { fn [54,0] "Reader.__init__" with globals:=3,defaults:=.ref 404,kwdefaults:=.none,pyModule:=.str "ledgerspeak.reader" 764,code:=.ref 410 } },
 tp #[.int 0 805],
 tp #[],
 fl #[],
 tp #[.str "self" 809,.str "ahead" 810],
 tp #[],
 f0 [54,1] "Reader.peek",
 co "peek" "Reader.peek" 806 326 2 413 811,
 { cls:=.type "function",data:=.func { fn [54,1] "Reader.peek" with globals:=3,defaults:=.ref 412,kwdefaults:=.none,pyModule:=.str "ledgerspeak.reader" 764,code:=.ref 418 } }]
noncomputable def F7 (P:Params):List Obj:=[tp #[],
 fl #[],
 tp #[.str "self" 817],
 tp #[],
 f0 [54,2] "Reader.is_done",
 co "is_done" "Reader.is_done" 814 331 1 420 818,
 f1 [54,2] "Reader.is_done" m764 425,
 tp #[],
 fl #[],
 tp #[.str "self" 824,.str "what" 825],
 tp #[],
 f0 [54,3] "Reader.fault",
 co "fault" "Reader.fault" 821 334 2 427 826,
 f1 [54,3] "Reader.fault" m764 432,
 tp #[],
 fl #[],
 tp #[.str "self" 832,.str "token" 833],
 tp #[],
 f0 [54,4] "Reader.take",
 co "take" "Reader.take" 829 339 1 434 834,
 f1 [54,4] "Reader.take" m764 439,
 tp #[.int 0 837],
 tp #[],
 fl #[],
 tp #[.str "self" 841,.str "kind" 842,.str "ahead" 843,.str "token" 844],
 tp #[],
 f0 [54,5] "Reader.is_kind",
 co "is_kind" "Reader.is_kind" 838 346 3 442 845,
 { cls:=.type "function",data:=.func { fn [54,5] "Reader.is_kind" with globals:=3,defaults:=.ref 441,kwdefaults:=.none,pyModule:=.str "ledgerspeak.reader" 764,code:=.ref 447 } },
 tp #[],
 fl #[],
 tp #[.str "self" 851,.str "words" 852,.str "ahead" 853,.str "word" 854],
 tp #[],
 f0 [54,6] "Reader.is_word",
 co "is_word" "Reader.is_word" 848 350 2 449 855,
 f1 [54,6] "Reader.is_word" m764 454,
 tp #[],
 fl #[],
 tp #[.str "self" 861,.str "words" 862],
 tp #[],
 f0 [54,7] "Reader.skip",
 co "skip" "Reader.skip" 858 358 2 456 863,
 f1 [54,7] "Reader.skip" m764 461,
 tp #[],
 fl #[],
 tp #[.str "self" 869,.str "words" 870],
 tp #[],
 f0 [54,8] "Reader.need",
 co "need" "Reader.need" 866 364 2 463 871,
 f1 [54,8] "Reader.need" m764 468,
 tp #[],
 fl #[],
 tp #[.str "self" 877,.str "words" 878,.str "word" 879],
 tp #[],
 f0 [54,9] "Reader.one_of",
 co "one_of" "Reader.one_of" 874 367 2 470 880,
 f1 [54,9] "Reader.one_of" m764 475,
 tp #[],
 fl #[],
 tp #[.str "self" 886]]
noncomputable def F8 (P:Params):List Obj:=[tp #[],
 f0 [54,10] "Reader.word",
 co "word" "Reader.word" 883 373 1 477 887,
 f1 [54,10] "Reader.word" m764 482,
 tp #[.int 0 890],
 tp #[],
 fl #[],
 tp #[.str "self" 894,.str "ahead" 895],
 tp #[],
 f0 [54,11] "Reader.is_name",
 co "is_name" "Reader.is_name" 891 378 2 485 896,
 { cls:=.type "function",data:=.func { fn [54,11] "Reader.is_name" with globals:=3,defaults:=.ref 484,kwdefaults:=.none,pyModule:=.str "ledgerspeak.reader" 764,code:=.ref 490 } },
 tp #[],
 fl #[],
 tp #[.str "self" 902],
 tp #[],
 f0 [54,12] "Reader.name",
 co "name" "Reader.name" 899 381 1 492 903,
 f1 [54,12] "Reader.name" m764 497,
 tp #[],
 fl #[],
 tp #[.str "self" 909,.str "found" 910],
 tp #[],
 f0 [54,13] "Reader.names",
 co "names" "Reader.names" 906 386 1 499 911,
 f1 [54,13] "Reader.names" m764 504,
 tp #[.int 0 914],
 tp #[],
 fl #[],
 tp #[.str "self" 918,.str "sign" 919,.str "ahead" 920],
 tp #[],
 f0 [54,14] "Reader.is_sign",
 co "is_sign" "Reader.is_sign" 915 392 3 507 921,
 { cls:=.type "function",data:=.func { fn [54,14] "Reader.is_sign" with globals:=3,defaults:=.ref 506,kwdefaults:=.none,pyModule:=.str "ledgerspeak.reader" 764,code:=.ref 512 } },
 tp #[],
 fl #[],
 tp #[.str "self" 927,.str "sign" 928],
 tp #[],
 f0 [54,15] "Reader.skip_sign",
 co "skip_sign" "Reader.skip_sign" 924 395 2 514 929,
 f1 [54,15] "Reader.skip_sign" m764 519,
 tp #[],
 fl #[],
 tp #[.str "self" 935,.str "sign" 936],
 tp #[],
 f0 [54,16] "Reader.need_sign",
 co "need_sign" "Reader.need_sign" 932 401 2 521 937,
 f1 [54,16] "Reader.need_sign" m764 526,
 tp #[],
 fl #[],
 tp #[.str "self" 943],
 tp #[],
 f0 [54,17] "Reader.is_number",
 co "is_number" "Reader.is_number" 940 405 1 528 944,
 f1 [54,17] "Reader.is_number" m764 533,
 tp #[],
 fl #[],
 tp #[.str "self" 950,.str "is_below" 951,.str "found" 952],
 tp #[],
 f0 [54,18] "Reader.signed"]
noncomputable def F9 (P:Params):List Obj:=[co "signed" "Reader.signed" 947 410 1 535 953,
 f1 [54,18] "Reader.signed" m764 540,
 tp #[],
 fl #[],
 tp #[.str "self" 959,.str "found" 960],
 tp #[],
 f0 [54,19] "Reader.whole",
 co "whole" "Reader.whole" 956 419 1 542 961,
 f1 [54,19] "Reader.whole" m764 547,
 tp #[],
 fl #[],
 tp #[.str "self" 967],
 tp #[],
 f0 [54,20] "Reader.literal",
 co "literal" "Reader.literal" 964 428 1 549 968,
 f1 [54,20] "Reader.literal" m764 554,
 tp #[],
 fl #[],
 tp #[.str "self" 974,.str "found" 975],
 tp #[],
 f0 [54,21] "Reader.octets",
 co "octets" "Reader.octets" 971 433 1 556 976,
 f1 [54,21] "Reader.octets" m764 561,
 tp #[.str "at" 979,.str "named" 980,.str "tokens" 981],
 { cls:=.type "dict",data:=Data.dict #[de P "__module__" 790 m764,de P "__firstlineno__" 794 (.int 319 793),de P "__init__" 804 (.ref 411),de P "peek" 813 (.ref 419),de P "is_done" 820 (.ref 426),de P "fault" 828 (.ref 433),de P "take" 836 (.ref 440),de P "is_kind" 847 (.ref 448),de P "is_word" 857 (.ref 455),de P "skip" 865 (.ref 462),de P "need" 873 (.ref 469),de P "one_of" 882 (.ref 476),de P "word" 889 (.ref 483),de P "is_name" 898 (.ref 491),de P "name" 905 (.ref 498),de P "names" 913 (.ref 505),de P "is_sign" 923 (.ref 513),de P "skip_sign" 931 (.ref 520),de P "need_sign" 939 (.ref 527),de P "is_number" 946 (.ref 534),de P "signed" 955 (.ref 541),de P "whole" 963 (.ref 548),de P "literal" 970 (.ref 555),de P "octets" 978 (.ref 562),de P "__static_attributes__" 982 (.ref 563),de P "__dict__" 984 (.ref 566),de P "__weakref__" 986 (.ref 567),de P "__doc__" 987 .none] 4 },
 { cls:=.type "type",data:=Data.cls { name := "Reader",bases:=[.type "object"],mro:=[.ref 565,.type "object"],ns:=564,qualname := "Reader" },slots:=#[none,none,some (.str "Reader" 783),some (.str "Reader" 791),some (.builtin "object.__new__"),some (.bool true)] },
 { cls:=.type "getset_descriptor",data:=Data.fields #[.str "__dict__" 983,.ref 565,.builtin "function.__dict__",.builtin "function.__dict__#set"] },
 { cls:=.type "getset_descriptor",data:=Data.fields #[.str "__weakref__" 985,.ref 565,.builtin "ExceptionGroup.__weakref__",.none] },
 { cls:=.type "super",data:=Data.fields #[.ref 565,.ref 565,.ref 565] },
 { cls:=.type "builtin_function_or_method",data:=Data.fields #[.builtin "object.__init_subclass__",.ref 565] },
 tp #[],
 { cls:=.type "builtin_function_or_method",data:=Data.fields #[.builtin "type.__prepare__",.type "type"] },
 { cls:=.type "dict",data:=Data.dict #[de P "__module__" 999 (.str "ledgerspeak.tokens" 990),de P "__qualname__" 1001 (.str "Token" 1000),de P "__firstlineno__" 1003 (.int 442 1002),de P "__init__" 1016 (.ref 585),de P "told" 1023 (.ref 592),de P "__static_attributes__" 1028 (.ref 593)] 6 },
 tp #[],
 fl #[.int 444 0,.int 4 0,.ref 584,.int 450 0,.int 4 0,.ref 591],
 cd #[.str "Token" 994,.str "Token" 995,.str "/claim/cut.py" 996,.int 442 0,.int 0 0,.int 0 0,.int 0 0,.int 0 0,.ref 573,.bool false,.int 181 0,.ref 574,.none,.none,.none,.none,.int 997 0,.int 442 0,.str "/claim/cut.py" 998],
 { cls:=.type "frame",slots:=#[some (.ref 575),some (.ref 3),some (.ref 572),none,some (.str "ledgerspeak.tokens" 990),none,some (.ref 0)] },
 tp #[.int 0 1004,.int 0 1005],
 tp #[.ref 577,.bool false],
 tp #[],
 fl #[],
 tp #[.str "self" 1009,.str "kind" 1010,.str "worth" 1011,.str "at" 1012,.str "is_in_a" 1013],
 tp #[],
 f0 [56,0] "Token.__init__",
 co "__init__" "Token.__init__" 1006 444 5 579 1014,
 { cls:=.type "function",data:=.func { fn [56,0] "Token.__init__" with globals:=3,defaults:=.ref 578,kwdefaults:=.none,pyModule:=.str "ledgerspeak.tokens" 990,code:=.ref 584 } },
 tp #[],
 fl #[],
 tp #[.str "self" 1020],
 tp #[],
 f0 [56,1] "Token.told",
 co "told" "Token.told" 1017 450 1 586 1021,
 f1 [56,1] "Token.told" (.str "ledgerspeak.tokens" 990) 591,
 tp #[.str "at" 1024,.str "is_in_a" 1025,.str "kind" 1026,.str "worth" 1027],
 { cls:=.type "dict",data:=Data.dict #[de P "__module__" 999 (.str "ledgerspeak.tokens" 990),de P "__firstlineno__" 1003 (.int 442 1002),de P "__init__" 1016 (.ref 585),de P "told" 1023 (.ref 592),de P "__static_attributes__" 1028 (.ref 593),de P "__dict__" 1030 (.ref 596),de P "__weakref__" 1032 (.ref 597),de P "__doc__" 1033 .none] 4 },
 { cls:=.type "type",data:=Data.cls { name := "Token",bases:=[.type "object"],mro:=[.ref 595,.type "object"],ns:=594,qualname := "Token" },slots:=#[none,none,some (.str "Token" 992),some (.str "Token" 1000),some (.builtin "object.__new__"),some (.bool true)] },
 { cls:=.type "getset_descriptor",data:=Data.fields #[.str "__dict__" 1029,.ref 595,.builtin "function.__dict__",.builtin "function.__dict__#set"] },
 { cls:=.type "getset_descriptor",data:=Data.fields #[.str "__weakref__" 1031,.ref 595,.builtin "ExceptionGroup.__weakref__",.none] },
 { cls:=.type "super",data:=Data.fields #[.ref 595,.ref 595,.ref 595] },
 { cls:=.type "builtin_function_or_method",data:=Data.fields #[.builtin "object.__init_subclass__",.ref 595] }]
noncomputable def F10 (P:Params):List Obj:=[tp #[.str "=" 1038,.str "<" 1039,.str ">" 1040,.str "<=" 1041,.str ">=" 1042],
 tp #[],
 fl #[],
 tp #[],
 tp #[],
 f0 [59] "_law_turned",
 co "_law_turned" "_law_turned" 1044 454 0 601 1047,
 f1 [59] "_law_turned" m1036 606,
 tp #[],
 fl #[],
 tp #[.str "pen" 1053,.str "many" 1054,.str "digit" 1055,.str "spot" 1056,.str "cell" 1057,.str "great" 1058],
 tp #[],
 f0 [60] "_law_draw",
 co "_law_draw" "_law_draw" 1050 456 2 608 1059,
 f1 [60] "_law_draw" m1036 613,
 tp #[],
 fl #[],
 tp #[.str "script" 1065],
 tp #[],
 f0 [61] "_law_pen",
 co "_law_pen" "_law_pen" 1062 471 1 615 1066,
 f1 [61] "_law_pen" m1036 620,
 tp #[],
 fl #[],
 tp #[.str "words" 1072,.str "tokens" 1073,.str "at" 1074,.str "word" 1075,.str "kind" 1076],
 tp #[],
 f0 [62] "_law_reader",
 co "_law_reader" "_law_reader" 1069 473 1 622 1077,
 f1 [62] "_law_reader" m1036 627,
 tp #[],
 fl #[],
 tp #[.str "name" 1083],
 tp #[],
 f0 [63] "_law_ref",
 co "_law_ref" "_law_ref" 1080 479 1 629 1084,
 f1 [63] "_law_ref" m1036 634,
 tp #[],
 fl #[],
 tp #[.str "pen" 1090,.str "last" 1091,.str "deep" 1092,.str "way" 1093,.str "words" 1094,.str "is_not" 1095,.str "found" 1096,.str "inner" 1097,.str "name" 1098,.str "other" 1099,.str "sign" 1100,.str "is_own" 1101,.str "told_sign" 1102],
 tp #[],
 f0 [64] "_law_part",
 co "_law_part" "_law_part" 1087 481 3 636 1103,
 f1 [64] "_law_part" m1036 641,
 tp #[],
 fl #[],
 f0 [65] "_law_row",
 cd #[.str "_law_row" 1106,.str "_law_row" 1107,.str "/claim/cut.py" 1108,.int 513 0,.int 2 0,.int 0 0,.int 0 0,.int 3 0,.ref 643,.bool true,.int 181 0,.ref 644,.none,.none,.none,.ref 645,.int 1109 0,.int 513 0,.str "/claim/cut.py" 1110],
 f1 [65] "_law_row" m1036 646,
 tp #[],
 fl #[],
 tp #[.str "script" 1115,.str "pen" 1116,.str "words" 1117,.str "due" 1118,.str "reader" 1119,.str "found" 1120,.str "caught" 1121,.str "error" 1122],
 tp #[],
 f0 [66] "law",
 co "law" "law" 1112 533 1 648 1123,
 f1 [66] "law" m1036 653]
noncomputable def F (P:Params):List Obj:=F0 P++(F1 P++(F2 P++(F3 P++(F4 P++(F5 P++(F6 P++(F7 P++(F8 P++(F9 P++(F10 P))))))))))
noncomputable def L0 (P:Params):List Obj:=(((((F P).take 15).set 2 (boot_o_2 P)).set 3 (boot_o_3 P)).set 12 (fl #[]))
noncomputable def T0 (P:Params):BT:=treeOf 12 (L0 P)
noncomputable def L1 (P:Params):List Obj:=(((((F P).take 51).set 3 (nsO P m194 10 11)).set 12 (fl (flE.take 6).toArray)).set 47 ({ cls:=.type "type",data:=Data.cls { name := "LedgerError",bases:=[.type "Exception"],mro:=[.ref 47,.type "Exception",.type "BaseException",.type "object"],ns:=46,qualname := "LedgerError" },slots:=#[some (.ref 22),none,some (.str "LedgerError" 196),some (.str "LedgerError" 204),some (.builtin "Exception.__new__"),some (.bool true)] }))
noncomputable def T1 (P:Params):BT:=treeOf 12 (L1 P)
noncomputable def L2 (P:Params):List Obj:=(((((F P).take 63).set 3 (nsO P m194 11 12)).set 12 (fl (flE.take 9).toArray)).set 47 ({ cls:=.type "type",data:=Data.cls { name := "LedgerError",bases:=[.type "Exception"],mro:=[.ref 47,.type "Exception",.type "BaseException",.type "object"],ns:=46,qualname := "LedgerError",subclasses:=[.ref 60] },slots:=#[some (.ref 22),none,some (.str "LedgerError" 196),some (.str "LedgerError" 204),some (.builtin "Exception.__new__"),some (.bool true)] }))
noncomputable def T2 (P:Params):BT:=treeOf 12 (L2 P)
noncomputable def L3 (P:Params):List Obj:=((((F P).take 111).set 3 (nsO P m268 18 19)).set 12 (fl (flE.take 27).toArray))
noncomputable def T3 (P:Params):BT:=treeOf 12 (L3 P)
noncomputable def L4 (P:Params):List Obj:=((((F P).take 154).set 3 (nsO P m343 26 27)).set 12 (fl (flE.take 45).toArray))
noncomputable def T4 (P:Params):BT:=treeOf 12 (L4 P)
noncomputable def L5 (P:Params):List Obj:=((((F P).take 238).set 3 (nsO P m445 39 40)).set 12 (fl (flE.take 81).toArray))
noncomputable def T5 (P:Params):BT:=treeOf 12 (L5 P)
noncomputable def L6 (P:Params):List Obj:=((((F P).take 265).set 3 (nsO P m524 48 49)).set 12 (fl (flE.take 90).toArray))
noncomputable def T6 (P:Params):BT:=treeOf 12 (L6 P)
noncomputable def L7 (P:Params):List Obj:=((((F P).take 279).set 3 (nsO P m524 50 51)).set 12 (fl (flE.take 96).toArray))
noncomputable def T7 (P:Params):BT:=treeOf 12 (L7 P)
noncomputable def L8 (P:Params):List Obj:=((((F P).take 377).set 3 (nsO P m524 51 52)).set 12 (fl (flE.take 99).toArray))
noncomputable def T8 (P:Params):BT:=treeOf 12 (L8 P)
noncomputable def L9 (P:Params):List Obj:=((((F P).take 397).set 3 (nsO P m764 56 57)).set 12 (fl (flE.take 108).toArray))
noncomputable def T9 (P:Params):BT:=treeOf 12 (L9 P)
noncomputable def L10 (P:Params):List Obj:=((((F P).take 570).set 3 (nsO P m764 57 58)).set 12 (fl (flE.take 111).toArray))
noncomputable def T10 (P:Params):BT:=treeOf 12 (L10 P)
noncomputable def L11 (P:Params):List Obj:=((((F P).take 622).set 3 (nsO P m1036 62 63)).set 12 (fl (flE.take 123).toArray))
noncomputable def T11 (P:Params):BT:=treeOf 12 (L11 P)
noncomputable def L12 (P:Params):List Obj:=(F P)
noncomputable def T12 (P:Params):BT:=treeOf 12 (L12 P)
noncomputable def env:Env:={ scope:=P0.main.scope,locals:=mainNs,globals:=mainNs,cells:=[],code:=.ref 13,frame:=some 14 }
noncomputable abbrev bd:List Stmt:=behindTheImports P0
noncomputable abbrev cE:Code:=.body bd env
theorem p0 (w:World):(fun os=>segRunT treeTable P0 w 11 (some (.ref 6)) 1 305 ⟨T0 w.params,15,{},#[],{},187,os⟩ (piecesOf ((bd.drop 0).take 3) env cE ⟨0,0,0,0⟩ [topFrame ⟨0,0,0,0⟩]))=
  fun os=>some (.next,⟨T1 w.params,51,{},#[],{},236,os⟩,cE,⟨5,0,13,35⟩):=by
 rw[Fast.te10110043849684766642,Fast.te14364793385576792824];kernel_rfl
theorem p1 (w:World):(fun os=>segRunT treeTable P0 w 11 (some (.ref 6)) 1 214 ⟨T1 w.params,51,{},#[],{},236,os⟩ (piecesOf ((bd.drop 3).take 1) env cE ⟨5,0,13,35⟩ [topFrame ⟨0,0,0,0⟩]))=
  fun os=>some (.next,⟨T2 w.params,63,{},#[],{},252,os⟩,cE,⟨14,0,15,8⟩):=by
 rw[Fast.te10110043849684766642,Fast.te14364793385576792824];kernel_rfl
theorem p2 (w:World):(fun os=>segRunT treeTable P0 w 11 (some (.ref 6)) 1 385 ⟨T2 w.params,63,{},#[],{},252,os⟩ (piecesOf ((bd.drop 4).take 8) env cE ⟨14,0,15,8⟩ [topFrame ⟨0,0,0,0⟩]))=
  fun os=>some (.next,⟨T3 w.params,111,{},#[],{},314,os⟩,cE,⟨41,0,42,20⟩):=by
 rw[Fast.te10110043849684766642,Fast.te14364793385576792824];kernel_rfl
theorem p3false (w:World):(fun os=>segRunT treeTable P0 (w.withFollow "special-get-raises" false) 11 (some (.ref 6)) 1 383 ⟨T3 (w.withFollow "special-get-raises" false).params,111,{},#[],{},314,os⟩ (piecesOf ((bd.drop 12).take 9) env cE ⟨41,0,42,20⟩ [topFrame ⟨0,0,0,0⟩]))=
  fun os=>some (.next,⟨T4 (w.withFollow "special-get-raises" false).params,154,{},#[],{},409,os⟩,cE,⟨89,0,95,26⟩):=by
 rw[Fast.te10110043849684766642,Fast.te14364793385576792824];kernel_rfl
theorem p3true (w:World):(fun os=>segRunT treeTable P0 (w.withFollow "special-get-raises" true) 11 (some (.ref 6)) 1 383 ⟨T3 (w.withFollow "special-get-raises" true).params,111,{},#[],{},314,os⟩ (piecesOf ((bd.drop 12).take 9) env cE ⟨41,0,42,20⟩ [topFrame ⟨0,0,0,0⟩]))=
  fun os=>some (.next,⟨T4 (w.withFollow "special-get-raises" true).params,154,{},#[],{},409,os⟩,cE,⟨89,0,95,26⟩):=by
 rw[Fast.te10110043849684766642,Fast.te14364793385576792824];kernel_rfl
theorem p4 (w:World):(fun os=>segRunT treeTable P0 w 11 (some (.ref 6)) 1 394 ⟨T4 w.params,154,{},#[],{},409,os⟩ (piecesOf ((bd.drop 21).take 14) env cE ⟨89,0,95,26⟩ [topFrame ⟨0,0,0,0⟩]))=
  fun os=>some (.next,⟨T5 w.params,238,{},#[],{},524,os⟩,cE,⟨170,0,177,16⟩):=by
 rw[Fast.te10110043849684766642,Fast.te14364793385576792824];kernel_rfl
theorem p5false (w:World):(fun os=>segRunT treeTable P0 (w.withFollow "special-get-raises" false) 11 (some (.ref 6)) 1 382 ⟨T5 (w.withFollow "special-get-raises" false).params,238,{},#[],{},524,os⟩ (piecesOf ((bd.drop 35).take 10) env cE ⟨170,0,177,16⟩ [topFrame ⟨0,0,0,0⟩]))=
  fun os=>some (.next,⟨T6 (w.withFollow "special-get-raises" false).params,265,{},#[],{},611,os⟩,cE,⟨193,0,195,68⟩):=by
 rw[Fast.te10110043849684766642,Fast.te14364793385576792824];kernel_rfl
theorem p5true (w:World):(fun os=>segRunT treeTable P0 (w.withFollow "special-get-raises" true) 11 (some (.ref 6)) 1 382 ⟨T5 (w.withFollow "special-get-raises" true).params,238,{},#[],{},524,os⟩ (piecesOf ((bd.drop 35).take 10) env cE ⟨170,0,177,16⟩ [topFrame ⟨0,0,0,0⟩]))=
  fun os=>some (.next,⟨T6 (w.withFollow "special-get-raises" true).params,265,{},#[],{},611,os⟩,cE,⟨193,0,195,68⟩):=by
 rw[Fast.te10110043849684766642,Fast.te14364793385576792824];kernel_rfl
theorem p6 (w:World):(fun os=>segRunT treeTable P0 w 11 (some (.ref 6)) 1 61 ⟨T6 w.params,265,{},#[],{},611,os⟩ (piecesOf ((bd.drop 45).take 2) env cE ⟨193,0,195,68⟩ [topFrame ⟨0,0,0,0⟩]))=
  fun os=>some (.next,⟨T7 w.params,279,{},#[],{},627,os⟩,cE,⟨200,0,201,56⟩):=by
 rw[Fast.te10110043849684766642,Fast.te14364793385576792824];kernel_rfl
theorem p7 (w:World):(fun os=>segRunT treeTable P0 w 11 (some (.ref 6)) 1 586 ⟨T7 w.params,279,{},#[],{},627,os⟩ (piecesOf ((bd.drop 47).take 1) env cE ⟨200,0,201,56⟩ [topFrame ⟨0,0,0,0⟩]))=
  fun os=>some (.next,⟨T8 w.params,377,{},#[],{},755,os⟩,cE,⟨202,0,304,19⟩):=by
 rw[Fast.te10110043849684766642,Fast.te14364793385576792824];kernel_rfl
theorem p8 (w:World):(fun os=>segRunT treeTable P0 w 11 (some (.ref 6)) 1 115 ⟨T8 w.params,377,{},#[],{},755,os⟩ (piecesOf ((bd.drop 48).take 6) env cE ⟨202,0,304,19⟩ [topFrame ⟨0,0,0,0⟩]))=
  fun os=>some (.next,⟨T9 w.params,397,{},#[],{},783,os⟩,cE,⟨314,0,318,25⟩):=by
 rw[Fast.te10110043849684766642,Fast.te14364793385576792824];kernel_rfl
theorem p9 (w:World):(fun os=>segRunT treeTable P0 w 11 (some (.ref 6)) 1 910 ⟨T9 w.params,397,{},#[],{},783,os⟩ (piecesOf ((bd.drop 54).take 1) env cE ⟨314,0,318,25⟩ [topFrame ⟨0,0,0,0⟩]))=
  fun os=>some (.next,⟨T10 w.params,570,{},#[],{},990,os⟩,cE,⟨319,0,440,20⟩):=by
 rw[Fast.te10110043849684766642,Fast.te14364793385576792824];kernel_rfl
theorem p10 (w:World):(fun os=>segRunT treeTable P0 w 11 (some (.ref 6)) 1 389 ⟨T10 w.params,570,{},#[],{},990,os⟩ (piecesOf ((bd.drop 55).take 7) env cE ⟨319,0,440,20⟩ [topFrame ⟨0,0,0,0⟩]))=
  fun os=>some (.next,⟨T11 w.params,622,{},#[],{},1069,os⟩,cE,⟨471,0,472,66⟩):=by
 rw[Fast.te10110043849684766642,Fast.te14364793385576792824];kernel_rfl
theorem p11 (w:World):(fun os=>segRunT treeTable P0 w 11 (some (.ref 6)) 1 166 ⟨T11 w.params,622,{},#[],{},1069,os⟩ (piecesOf ((bd.drop 62).take 5) env cE ⟨471,0,472,66⟩ [topFrame ⟨0,0,0,0⟩]))=
  fun os=>some (.next,⟨T12 w.params,655,{},#[],{},1126,os⟩,cE,⟨533,0,543,72⟩):=by
 rw[Fast.te10110043849684766642,Fast.te14364793385576792824];kernel_rfl
end Mine.H
end
section
namespace Mine.H
open PySem PySem.W
noncomputable def H0 (P:Params):Heap:=⟨⟨L0 P⟩,{}⟩
noncomputable def H1 (P:Params):Heap:=⟨⟨F P⟩,{}⟩
theorem q0 (w:World):(fun os=>topGo treeTable P0 w 11 (some (.ref 6)) 12 ⟨boot_heap w.params,#[],boot_drawn,boot_toks,os⟩ (topStub P0))=
  fun os=>some (⟨H0 w.params,#[],{},187,os⟩,⟨denote treeTable cE,cE,⟨0,0,0,0⟩,[topFrame ⟨0,0,0,0⟩]⟩):=by
 rw[Fast.te15667345088766844465,Fast.te14364793385576792824,Fast.te11892475500146522536];kernel_rfl
theorem q1 (w:World):(fun os=>segRun treeTable P0 w 11 (some (.ref 6)) 1 1 ⟨H0 w.params,#[],{},187,os⟩ (blockOf bd env cE ⟨0,0,0,0⟩ [topFrame ⟨0,0,0,0⟩]))=
  fun os=>some (.next,(⟨T0 w.params,15,{},#[],{},187,os⟩:SharedT).abs,cE,⟨0,0,0,0⟩):=by
 rw[Fast.te14374325043358763698,Fast.te14364793385576792824];kernel_rfl
theorem q2 (w:World):(fun os=>topRun treeTable P0 w 11 (some (.ref 6)) 2 (⟨T12 w.params,655,{},#[],{},1126,os⟩:SharedT).abs ⟨doneF .next,cE,⟨533,0,543,72⟩,[topFrame ⟨0,0,0,0⟩]⟩)=
  fun os=>some ⟨H1 w.params,#[],{},1126,os⟩:=by
 rw[Fast.te14082659384304107361,Fast.te14364793385576792824];kernel_rfl
theorem ex3 (w:World):(fun os=>segRunT treeTable P0 w 11 (some (.ref 6)) 1 383 ⟨T3 w.params,111,{},#[],{},314,os⟩ (piecesOf ((bd.drop 12).take 9) env cE ⟨41,0,42,20⟩ [topFrame ⟨0,0,0,0⟩]))=fun os=>some (.next,⟨T4 w.params,154,{},#[],{},409,os⟩,cE,⟨89,0,95,26⟩):=byRow2 "special-get-raises" (P:=fun w=>(fun os=>segRunT treeTable P0 w 11 (some (.ref 6)) 1 383 ⟨T3 w.params,111,{},#[],{},314,os⟩ (piecesOf ((bd.drop 12).take 9) env cE ⟨41,0,42,20⟩ [topFrame ⟨0,0,0,0⟩]))=fun os=>some (.next,⟨T4 w.params,154,{},#[],{},409,os⟩,cE,⟨89,0,95,26⟩)) p3false p3true w
theorem ex5 (w:World):(fun os=>segRunT treeTable P0 w 11 (some (.ref 6)) 1 382 ⟨T5 w.params,238,{},#[],{},524,os⟩ (piecesOf ((bd.drop 35).take 10) env cE ⟨170,0,177,16⟩ [topFrame ⟨0,0,0,0⟩]))=fun os=>some (.next,⟨T6 w.params,265,{},#[],{},611,os⟩,cE,⟨193,0,195,68⟩):=byRow2 "special-get-raises" (P:=fun w=>(fun os=>segRunT treeTable P0 w 11 (some (.ref 6)) 1 382 ⟨T5 w.params,238,{},#[],{},524,os⟩ (piecesOf ((bd.drop 35).take 10) env cE ⟨170,0,177,16⟩ [topFrame ⟨0,0,0,0⟩]))=fun os=>some (.next,⟨T6 w.params,265,{},#[],{},611,os⟩,cE,⟨193,0,195,68⟩)) p5false p5true w
theorem body_eq' {c:Code}{pos:Pos}{B:List Frame}:restOf bd env c pos B=restOf ((bd.drop 0).take 3++((bd.drop 3).take 1++((bd.drop 4).take 8++((bd.drop 12).take 9++((bd.drop 21).take 14++((bd.drop 35).take 10++((bd.drop 45).take 2++((bd.drop 47).take 1++((bd.drop 48).take 6++((bd.drop 54).take 1++((bd.drop 55).take 7++((bd.drop 62).take 5++[])))))))))))) env c pos B:=congrArg (fun b=>restOf b env c pos B) (by kernel_rfl)
noncomputable abbrev MM:Nat:=Nat.add 12 (Nat.add 1 (Nat.add 305 (Nat.add 214 (Nat.add 385 (Nat.add 383 (Nat.add 394 (Nat.add 382 (Nat.add 61 (Nat.add 586 (Nat.add 115 (Nat.add 910 (Nat.add 389 (Nat.add 166 2)))))))))))))
theorem run (w:World)(os:OsState):topRun treeTable P0 w 11 (some (.ref 6)) MM ⟨boot_heap w.params,#[],boot_drawn,boot_toks,os⟩ (topStub P0)=some ⟨H1 w.params,#[],{},1126,os⟩:=by
 refine go_top (congrFun (q0 w) os) ?_
 refine piece_block (congrFun (q1 w) os) ?_
 rw[body_eq']
 refine piece_app (segRun_of (congrFun (p0 w) os)) ?_
 refine piece_app (segRun_of (congrFun (p1 w) os)) ?_
 refine piece_app (segRun_of (congrFun (p2 w) os)) ?_
 refine piece_app (segRun_of (congrFun (ex3 w) os)) ?_
 refine piece_app (segRun_of (congrFun (p4 w) os)) ?_
 refine piece_app (segRun_of (congrFun (ex5 w) os)) ?_
 refine piece_app (segRun_of (congrFun (p6 w) os)) ?_
 refine piece_app (segRun_of (congrFun (p7 w) os)) ?_
 refine piece_app (segRun_of (congrFun (p8 w) os)) ?_
 refine piece_app (segRun_of (congrFun (p9 w) os)) ?_
 refine piece_app (segRun_of (congrFun (p10 w) os)) ?_
 refine piece_app (segRun_of (congrFun (p11 w) os)) ?_
 exact congrFun (q2 w) os
end Mine.H
end
section
namespace Mine.H
open PySem PySem.W
noncomputable abbrev keep:List Nat:=[0,2,3,4,6,7,9,10,11,12,13,14,16,17,18,19,20,21,22,23,24,26,27,28,29,30,31,32,33,34,36,37,38,39,40,41,43,44,45,46,47,50,51,52,53,54,56,58,59,60,61,62,63,64,65,66]
noncomputable def view:Program:={ P0 with main:={ P0.main with body:=keep.filterMap fun i=>P0.main.body[i]? } }
noncomputable abbrev loose:List Str:=["LedgerError","decimal","FIGURE_NAMES","OPPOSITES","WORDS_OF_SIGNS","WORDS_OF_RELATIONS","word_here","read_condition","Token"]
noncomputable def num:Nat→List Obj→Frag
 |_,[]=>[]
 |i,x::r=>(i,x)::num (i+1) r
noncomputable def K (P:Params):Frag:=num 0 (((F P).drop 0).take 23)++(num 29 (((F P).drop 29).take 20)++(num 51 (((F P).drop 51).take 1)++(num 58 (((F P).drop 58).take 3)++(num 63 (((F P).drop 63).take 1)++(num 70 (((F P).drop 70).take 3)++(num 75 (((F P).drop 75).take 204)++(num 286 (((F P).drop 286).take 89)++(num 377 (((F P).drop 377).take 20)++(num 404 (((F P).drop 404).take 164)++(num 577 (((F P).drop 577).take 21)++(num 600 (((F P).drop 600).take 55))))))))))))
noncomputable abbrev as:List Addr:=List.range' 0 23++List.range' 29 20++List.range' 51 1++List.range' 58 3++List.range' 63 1++List.range' 70 3++List.range' 75 204++List.range' 286 89++List.range' 377 20++List.range' 404 164++List.range' 577 21++List.range' 600 55
theorem as_eq (P:Params):as=(K P).map (·.1):=by kernel_rfl
theorem open1:opening P0=plainProg P0.main.scope.names:=by kernel_rfl
theorem open2 (s:Shared):fenceModules? P0 s=some s:=by kernel_rfl
theorem opens (w:World):(fencedOpening treeTable P0 w 9000).map (fun s=>(s.heap,s.gens,s.drawn,s.toks))=some (boot_heap w.params,#[],boot_drawn,boot_toks):=boot_open (p:=P0) (N:=9000) open1 (by decide) open2 w
theorem size (w:World):((boot_heap w.params).isNs mainGlobals&&(#[]:Array GenState).size==0,(boot_heap w.params).objs.size,(boot_heap w.params).nsMap mainGlobals "__annotations__")=(true,11,some (.ref 6)):=by
 rw[Fast.te8920871248978507458];kernel_rfl
abbrev R:=PySem.Challenge.rw_pc0147_01
theorem look1 (w:World):(fun os:OsState=>(staticsOk (importedModules P0.main.body) (boot_heap w.params) (H1 w.params)&&namesBound P0 (H1 w.params)&&gensDone ⟨H1 w.params,#[],{},1126,os⟩&&laidKept (boot_heap w.params) (H1 w.params)))=fun _=>true:=by
 kernel_rfl
theorem look3 (w:World):(fun os:OsState=>X.obsZ as ⟨H1 w.params,#[],{},1126,os⟩)=fun _=>X.valZ K 655 1126 w:=by
 kernel_rfl
end Mine.H
end
section
namespace Mine.H
open PySem PySem.W PyProof.Rows
noncomputable abbrev Xt:Shared→Bool:=fun s=>xlAt view [] s&&recOk (RowW.records R.row.toRowW) s
noncomputable def S1 (w:World)(os:OsState):Shared:=⟨H1 w.params,#[],{},1126,os⟩
theorem c1 (w:World):(fun os=>seen ((recsOf view).map (·.name)) (ownsOf view) [] { (S1 w os)with gens:=#[] })=fun _=>expectedOf view:=by rw[Fast.te5160383126252970620,Fast.te3399658132070893891,Fast.te5991557255702980513];kernel_rfl
theorem c2 (w:World):(fun os=>(S1 w os).heap.bltView)=fun _=>bltViewBooted:=by kernel_rfl
theorem c3 (w:World):(fun os=>(openSeen view loose (importedModules P0.main.body) Xt true (S1 w os)).2.2.1)=fun _=>true:=by rw[Fast.te4187177175401517315,Fast.te5923862056798008813];kernel_rfl
noncomputable abbrev resv:Str:=rsv
theorem vn:valNames view=(["FIGURES","MOST_SUBSCRIPTS","FIGURE_NAMES","MOST_DEEP_expressions","MOST_DEEP_conditions","OPPOSITES","CLASSES","WORDS_OF_SIGNS","WORDS_OF_RELATIONS","RELATIONS","MOST_OCTET","RESERVED","_law_signs"]:List Str):=by kernel_rfl
theorem v0 (w:World):((["FIGURES","MOST_SUBSCRIPTS","FIGURE_NAMES","MOST_DEEP_expressions","MOST_DEEP_conditions","OPPOSITES","CLASSES","WORDS_OF_SIGNS","WORDS_OF_RELATIONS","RELATIONS","MOST_OCTET","_law_signs"]:List Str).all fun x=>match valOf view x with | some d=>(H1 w.params).constOk x d | none=>true)=true:=by kernel_rfl
theorem vr:valOf view "RESERVED" = some (.str resv):=by kernel_rfl
theorem vh (w:World):(H1 w.params).nsMap mainGlobals "RESERVED" = some (.str resv 768):=by kernel_rfl
theorem const_str {h:Heap}{x s:Str}{t:Tok}(e:h.nsMap mainGlobals x=some (.str s t)):h.constOk x (.str s)=true:=by
 unfold Heap.constOk;rw[e];exact beq_self_eq_true s
theorem v2 (w:World):valsOk view (H1 w.params)=true:=by
 unfold valsOk
 rw[vn]
 refine List.all_eq_true.mpr fun x hx=>?_
 by_cases hr:x = "RESERVED"
 ·subst hr;rw[vr];exact const_str (vh w)
 ·refine List.all_eq_true.mp (v0 w) x ?_
  simpa only[List.mem_cons,List.mem_nil_iff,or_false,hr,false_or] using hx
theorem c4a (w:World):((recsOf view).all fun d=>(H1 w.params).tab0Ok d.name)=true:=by kernel_rfl
theorem c4b (w:World):(H1 w.params).bmainOk=true:=by kernel_rfl
theorem c4c (w:World):(!importsNone view||(H1 w.params).noSeerOk)=true:=by kernel_rfl
theorem c4' (w:World)(os:OsState):tabsOk view (S1 w os)=true:=by
 unfold tabsOk
 exact Bool.and_eq_true_iff.mpr ⟨Bool.and_eq_true_iff.mpr ⟨Bool.and_eq_true_iff.mpr ⟨c4a w,c4b w⟩,v2 w⟩,c4c w⟩
theorem c4 (w:World):(fun os=>tabsOk view (S1 w os))=fun _=>true:=funext fun os=>c4' w os
theorem c5 (w:World):(fun os=>pinSeenD view (drecsOf view) (S1 w os))=fun _=>pinGoodD (drecsOf view):=by rw[Fast.te16090120013241838585,Fast.te3247288618530077131];kernel_rfl
theorem c6 (w:World):(fun os=>plainSeenE view (looseW view loose) (S1 w os))=fun _=>plainGoodE view (looseW view loose):=by rw[Fast.te2386780881361962483,Fast.te821141287760084731];kernel_rfl
theorem c7 (w:World):(fun os=>plainSeenD view loose (S1 w os))=fun _=>plainGoodD view loose:=by rw[Fast.te11698064438423848299];kernel_rfl
theorem c8 (w:World):(fun os=>wideSeen view (S1 w os))=fun _=>wideGood view:=by rw[Fast.te7317090234206586261];kernel_rfl
theorem c9 (w:World):(fun os=>clsSeenW view loose (S1 w os))=fun _=>clsGoodW view loose:=by rw[Fast.te7369524293546568484];kernel_rfl
theorem tup9 {A1 A2 A3 A4 A5 A6 A7 A8 A9:Type}{a1 b1:A1}{a2 b2:A2}{a3 b3:A3}{a4 b4:A4}{a5 b5:A5}{a6 b6:A6}{a7 b7:A7}{a8 b8:A8}{a9 b9:A9}
  (e1:a1=b1) (e2:a2=b2) (e3:a3=b3) (e4:a4=b4) (e5:a5=b5) (e6:a6=b6) (e7:a7=b7) (e8:a8=b8) (e9:a9=b9):
  (a1,a2,a3,a4,a5,a6,a7,a8,a9)=(b1,b2,b3,b4,b5,b6,b7,b8,b9):=by rw[e1,e2,e3,e4,e5,e6,e7,e8,e9]
theorem tup3 {A1 A2 A3:Type}{a1 b1:A1}{a2 b2:A2}{a3 b3:A3}(e1:a1=b1)(e2:a2=b2)(e3:a3=b3):(a1,a2,a3)=(b1,b2,b3):=by rw[e1,e2,e3]
theorem look2 (w:World)(os:OsState):openSeen view loose (importedModules P0.main.body) Xt true (S1 w os)=openGood view loose:=by
 have h1:=congrFun (c1 w) os
 have h2:=congrFun (c2 w) os
 have h3:=congrFun (c3 w) os
 have h4:=congrFun (c4 w) os
 have h5:=congrFun (c5 w) os
 have h6:=congrFun (c6 w) os
 have h7:=congrFun (c7 w) os
 have h8:=congrFun (c8 w) os
 have h9:=congrFun (c9 w) os
 dsimp only at h1 h2 h3 h4 h5 h6 h7 h8 h9
 generalize S1 w os=s at h1 h2 h3 h4 h5 h6 h7 h8 h9 ⊢
 unfold openSeen at h3
 unfold openSeen openGood
 exact tup9 h1 h2 h3 h4 h5 h6 h7 h8 h9
theorem left:LeftO P0 view loose Xt (X.obsZ as) (X.valZ K 655 1126) 9000:=by
 refine LeftO.of_pieces opens size run (by decide) fun w=>?_
 funext os
 have l1:=congrFun (look1 w) os
 have l2:=look2 w os
 have l3:=congrFun (look3 w) os
 unfold S1 at l2
 exact tup3 l1 l2 l3
end Mine.H
end
section
namespace Mine.H
open PySem PySem.W PyProof.Rows PySem.W.X
noncomputable def dd:DefRec × List (PySem.Str × Expr):=match defOf view R.name with
 |some x=>x
 |none=>(⟨Str.empty,⟨[],[],none,[],[],none,[]⟩,[],⟨.function,[],false,false,[]⟩,⟨0,0,0,0⟩⟩,[])
theorem hdef:defOf view R.row.name=some (dd.1,[]):=by kernel_rfl
theorem hp:P0.theDef R.row.name=some (dd.1.params,dd.1.body,dd.1.scope):=by kernel_rfl
theorem hk:kwWritten? dd.1.params.kwonlyargs dd.1.params.kw_defaults=some []:=by kernel_rfl
theorem hch:chainsOk view=true:=by kernel_rfl
theorem how:opensWell R.prog=true:=by kernel_rfl
theorem hfr:(frees R.row.toRowW&&R.row.within.isEmpty)=true:=by kernel_rfl
theorem hbare:P0.bare:=⟨rfl,rfl,rfl,rfl,rfl,by decide +kernel⟩
end Mine.H
end
section
namespace Mine
open PySem
abbrev CS:=List Nat
noncomputable def pz (n:Nat):Pos:=⟨n / 17689,n / 133 % 133,n / 17689,n % 133⟩
inductive V where
 |none | bool (b:Bool)| int (i:Int)| str (s:CS)
 |tup (l:List V)| lst (l:List V)| dct (ks:List CS) (vs:List V)
 |rcd (C:Nat)(fs:List (Nat × V))
 |ref (i:Nat)| base (a:Nat)| clo (k:Nat) (l:List V)
inductive Cell where
 |inst (C:Nat)(fs:List (Nat × V))
 |list (l:List V)
 |exc (C:Nat)(fs:List (Nat × V))
 |new (C:Nat)(fs:List (Nat × V))
 |exd (C:Nat)(fs:List (Nat × V))
structure LcI where
 y:Str
 z:Str
 p1:Pos
 p2:Pos
 p3:Pos
 p4:Pos
 p5:Pos
 p6:Pos
 p7:Pos
 p8:Pos
 sc:Scope
inductive X where
 |none (p:Pos)| bool (b:Bool) (p:Pos)| int (i:Int) (p:Pos)| str (s:CS) (p:Pos)
 |loc (i:Nat)(p:Pos)| glob (g:Nat) (p:Pos)
 |attr (x:X)(f:Nat)(p:Pos)
 |call (f:X)(as:List X)(p:Pos)
 |bcall (b:Nat)(bp:Pos)(as:List X)(p:Pos)
 |meth (o:X)(f:Nat)(pa:Pos)(as:List X)(p:Pos)
 |bin (l:X)(op:Operator)(r:X)(p:Pos)
 |not (x:X)(p:Pos)| neg (x:X) (p:Pos)
 |and (xs:List X)(p:Pos)| or (xs:List X) (p:Pos)
 |ite (t a b:X)(p:Pos)
 |cmp (l:X)(op:CmpOp)(r:X)(p:Pos)
 |cmp2 (l:X)(op:CmpOp)(m:X)(op2:CmpOp)(r:X)(p:Pos)
 |tup (xs:List X)(k:Nat)(p:Pos)| lst (xs:List X) (p:Pos)| lstF (xs:List X) (p:Pos)| dct (ks vs:List X) (p:Pos)
 |sub (x i:X)(p:Pos)
 |slc (x:X)(lo hi:Option X)(sp p:Pos)
 |lam (k:Nat)(p:Pos)
 |nones (i:Nat)(L:LcI)(p pl pc:Pos)
inductive Hn where
 |nm (j k:Nat)(ps:List Pos)
 |tp (a b k o g h kk kt:Nat)(ps:List Pos)
 |rs (o g h b k1 k2:Nat)(ps:List Pos)
inductive S where
 |expr (x:X)(p:Pos)
 |asN (i:Nat)(pn:Pos)(x:X)(p:Pos)
 |asT (ts:List (Nat × Pos))(k:Nat)(pt:Pos)(x:X)(p:Pos)
 |asA (o:X)(f:Nat)(pa:Pos)(x:X)(p:Pos)
 |asI (o i:X)(pi:Pos)(x:X)(p:Pos)
 |ifs (t:X)(a b:List S)(p:Pos)
 |whl (t:X)(a:List S)(p:Pos)
 |forN (i:Nat)(pn:Pos)(x:X)(a:List S)(p:Pos)
 |forR (i:Nat)(pn:Pos)(bp cp:Pos)(x:X)(a:List S)(p:Pos)
 |forT (ts:List (Nat × Pos))(k:Nat)(pt:Pos)(x:X)(a:List S)(p:Pos)
 |ret (x:X)(p:Pos)
 |raise (x:X)(p:Pos)
 |try1 (a:List S)(g:Nat)(pg:Pos)(i:Nat)(h:Hn)(ph p:Pos)
structure FnD where
 nm:List Str
 np:Nat
 dflt:List V:=[]
 body:List S
end Mine
end
section
namespace Mine
open PySem
theorem hideG {P:Prop}(h:∀G:Prop,(P→G)→G):P:=h P id
theorem oi {α:Type}{a b:α}(h:some a=some b):a=b:=Option.some.inj h
theorem n0 {α:Type}{a:α}{P:Prop}(h:none=some a):P:=by cases h
theorem n1 {α:Type}{a:α}{P:Prop}(h:some a=none):P:=by cases h
inductive BI {α β:Type}(m:Option α)(k:α→Option β)(b:β):Prop
 |mk (a:α)(h1:m=some a)(h2:k a=some b)
theorem bI {α β:Type}{m:Option α}{k:α→Option β}{b:β}(h:m.bind k=some b):BI m k b:=by
 induction m using Option.casesOn with
 |none=>exact n0 h
 |some a=>exact⟨a,rfl,h⟩
theorem mI {α β:Type}{m:Option α}{k:α→β}{b:β}(h:m.map k=some b):∃a,m=some a∧k a=b:=by
 induction m using Option.casesOn with
 |none=>exact n0 h
 |some a=>exact⟨a,rfl,oi h⟩
theorem dp1 {a n c:Nat}(h:a+(n+1)<c):a+1+n<c:=Nat.lt_of_le_of_lt (Nat.le_of_eq (Nat.add_right_comm a 1 n)) h
theorem dp0 {a n c:Nat}(h:a+n<c):a<c:=Nat.lt_of_le_of_lt (Nat.le_add_right a n) h
theorem un3 {u n k c:Nat}(hk:k≤8)(h:u+8*(n+1)+64<c):u+k+8*n+64<c:=by
 refine Nat.lt_of_le_of_lt (Nat.add_le_add_right ?_ 64) h
 rw[Nat.add_assoc]
 exact Nat.add_le_add_left (Nat.le_trans (Nat.add_le_add_right hk _) (Nat.le_of_eq (Nat.add_comm 8 (8*n)))) u
theorem un80 {u n c:Nat}(hn:3≤n)(h:u+8*(n+1)+64<c):u+80<c:=by
 rw[Nat.add_assoc]at h
 exact Nat.lt_of_le_of_lt (Nat.add_le_add_left (Nat.add_le_add_right (Nat.mul_le_mul_left 8 (Nat.le_trans (show 2≤4 by decide) (Nat.succ_le_succ hn))) 64) u) h
theorem sz_ {n:Nat}(h:n≤1000):n≤sizeLine:=Nat.le_trans h (by rw[sizeLine_eq];decide)
theorem fit_ {n:Nat}(h:n≤1000):(n:Int)<2 ^ 63:=Int.lt_of_le_of_lt (Int.ofNat_le.mpr h) (by decide)
theorem k63 {k:Int}(h:k≤1000):k<2 ^ 63:=Int.lt_of_le_of_lt h (by decide)
theorem k63n {k:Int}(h:0≤k):-(2 ^ 63)≤k:=Int.le_trans (by decide) h
theorem szE {a n:Nat}(e:a=n)(h:a≤1000):n≤sizeLine:=e▸sz_ h
theorem le40 {g:Nat}(h:g≤10):g<40:=Nat.lt_of_le_of_lt h (by decide)
theorem ar1 {a b c:Nat}(h1:a≤b)(h2:b≤a+c):a+(c - (c - (b - a)))=b:=by rw[Nat.sub_sub_self (Nat.sub_le_iff_le_add'.mpr h2),Nat.add_sub_cancel' h1]
theorem ifI {α:Type}{p:Prop}[Decidable p]{x t:α}(h:(if p then some x else none)=some t):p∧x=t:=by
 by_cases q:p
 ·rw[if_pos q]at h;exact⟨q,oi h⟩
 ·rw[if_neg q]at h;exact n0 h
noncomputable def look {α:Type}:List (Nat × α)→Nat→Option α
 | [],_=>none
 |p::r,g=>bif Nat.beq g p.1 then some p.2 else look r g
noncomputable def look2 {α:Type}:List ((Nat × Nat) × α)→Nat→Nat→Option α
 | [],_,_=>none
 |p::r,g,f=>bif Nat.beq g p.1.1&&Nat.beq f p.1.2 then some p.2 else look2 r g f
theorem look_mem {α:Type}:∀{l:List (Nat × α)} {g:Nat} {v:α},look l g=some v→(g,v)∈l
 |p::r,g,v,h=>by
  unfold look at h
  cases e:Nat.beq g p.1 with
  |true =>
   rw[e]at h
   obtain rfl:=Nat.eq_of_beq_eq_true e
   obtain rfl:=Option.some.inj h
   exact .head _
  |false=>rw[e]at h;exact .tail _ (look_mem h)
theorem look2_mem {α:Type}:∀{l:List ((Nat × Nat) × α)} {g f:Nat} {v:α},look2 l g f=some v→((g,f),v)∈l
 |p::r,g,f,v,h=>by
  unfold look2 at h
  cases e:Nat.beq g p.1.1&&Nat.beq f p.1.2 with
  |true =>
   rw[e]at h
   obtain⟨e1,e2⟩:=Bool.and_eq_true_iff.mp e
   obtain rfl:=Nat.eq_of_beq_eq_true e1
   obtain rfl:=Nat.eq_of_beq_eq_true e2
   obtain rfl:=Option.some.inj h
   exact .head _
  |false=>rw[e]at h;exact .tail _ (look2_mem h)
theorem lkn {α:Type}{P:Nat→α→Prop}:∀g v,look ([]:List (Nat × α)) g=some v→P g v:=fun _ _ h=>n0 h
theorem lk {α:Type}{P:Nat→α→Prop}{g0:Nat}{v0:α}{r:List (Nat × α)}(h:P g0 v0)(t:∀g v,look r g=some v→P g v)(g:Nat)(v:α)(e:look ((g0,v0)::r) g=some v):P g v:=by
 cases q:Nat.beq g g0 with
 |true =>
  unfold look at e
  rw[q]at e
  obtain rfl:=Nat.eq_of_beq_eq_true q
  exact oi e▸h
 |false=>unfold look at e;rw[q]at e;exact t g v e
theorem lkm {α:Type}{P:Nat→α→Prop}{f:Nat→α}:∀{l:List Nat},(∀g∈l,P g (f g))→∀g v,look (l.map fun g=>(g,f g)) g=some v→P g v:=fun{l} h g v e=>by
 obtain⟨x,hx,q⟩:=List.mem_map.mp (look_mem e)
 obtain⟨rfl,rfl⟩:=Prod.mk.inj q
 exact h _ hx
inductive R (α:Type) where
 |ok (a:α)(s:List Cell)| ex (i:Nat) (s:List Cell)
abbrev O (α:Type):=Option (R α)
noncomputable def bnd {α β:Type}(m:O α)(f:α→List Cell→O β):O β:=match m with
 |none=>none
 |some (.ok a s)=>f a s
 |some (.ex i s)=>some (.ex i s)
noncomputable def lif {α:Type}(m:Option α)(s:List Cell):O α:=m.map fun a=>.ok a s
noncomputable def cle (a b:CS):Bool:=!(decide (b<a))
noncomputable def sml (n:Nat):Bool:=decide (n≤1000)
noncomputable def items (s:List Cell):V→Option (List V)
 | .lst l=>some l
 | .ref i=>match s[i]? with | some (.list l)=>some l | _=>none
 |_=>none
noncomputable def truthy (s:List Cell):V→Option Bool
 | .none=>some false
 | .bool b=>some b
 | .int i=>some (!decide (i=0))
 | .str l=>if sml l.length then some (!l.isEmpty)else none
 | .ref i=>match s[i]? with | some (.list l)=>if sml l.length then some (!l.isEmpty)else none | _=>none
 |_=>none
noncomputable def flatB:V→Bool
 | .none=>true
 | .int _=>true
 | .str l=>l.all fun c=>decide (c<1114112)
 |_=>false
noncomputable def isDataN:Nat→V→Bool
 |0,v=>flatB v
 |n+1,v=>match v with
  | .tup l=>l.all (isDataN n)
  | .lst l=>l.all (isDataN n)
  |v=>flatB v
noncomputable def isData (v:V):Bool:=isDataN 40 v
mutual
noncomputable def veq:V→V→Bool
 | .none,.none=>true
 | .int i,.int j=>decide (i=j)
 | .str a,.str b=>decide (a=b)
 | .tup a,.tup b=>veqL a b
 | .lst a,.lst b=>veqL a b
 |_,_=>false
noncomputable def veqL:List V→List V→Bool
 | [],[]=>true
 |a::r,b::t=>veq a b&&veqL r t
 |_,_=>false
end
noncomputable def isPre:CS→CS→Bool
 | [],_=>true
 |_::_,[]=>false
 |a::r,b::t=>decide (a=b)&&isPre r t
noncomputable def isSub (a:CS):CS→Bool
 | []=>a.isEmpty
 |b::t=>isPre a (b::t)||isSub a t
noncomputable def strsV:List V→Option (List CS)
 | []=>some []
 | .str b::r=>(strsV r).map (b::·)
 |_::_=>none
noncomputable def dget (a:CS):List CS→List V→Option V
 |k::ks,v::vs=>if a=k then some v else dget a ks vs
 |_,_=>none
noncomputable def isIn (a b:V):Option Bool:=match a,b with
 | .str x,.tup l=>(strsV l).map (·.contains x)
 | .str x,.dct ks _=>some (ks.contains x)
 | .str x,.str y=>some (isSub x y)
 |_,_=>none
noncomputable def isNone:V→Bool
 | .none=>true
 |_=>false
noncomputable def cmpV (op:CmpOp)(a b:V):Option Bool:=match op with
 | .Eq=>if isData a&&isData b then some (veq a b)else none
 | .NotEq=>if isData a&&isData b then some (!veq a b)else none
 | .Lt=>match a,b with | .int x,.int y=>some (decide (x<y))| _,_=>none
 | .LtE=>match a,b with | .int x,.int y=>some (decide (x≤y))| .str x,.str y=>some (cle x y)| _,_=>none
 | .Gt=>match a,b with | .int x,.int y=>some (decide (y<x))| _,_=>none
 | .GtE=>match a,b with | .int x,.int y=>some (decide (y≤x))| _,_=>none
 | .Is=>match b with | .none=>some (isNone a)| _=>none
 | .IsNot=>match b with | .none=>some (!isNone a)| _=>none
 | .In=>isIn a b
 | .NotIn=>(isIn a b).map (!·)
noncomputable def binN (op:Operator)(x y:Int):Option V:=match op with
 | .Add=>some (.int (x+y))
 | .Sub=>some (.int (x - y))
 | .Mult=>if x.natAbs<2 ^ 64 then some (.int (x*y))else none
 | .FloorDiv=>if y≠0∧y.natAbs<2 ^ 64 then some (.int (x.fdiv y))else none
 | .Mod=>if y≠0 then some (.int (x.fmod y))else none
 | .Pow=>if y=18∧x.natAbs<2 ^ 64 then some (.int (x ^ 18))else none
 |_=>none
noncomputable def binV (s:List Cell)(op:Operator)(a b:V):Option V:=match a with
 | .int x=>(match b with | .int y=>binN op x y | _=>none)
 | .str x=>(match b with | .str y=>(match op with | .Add=>if sml (x.length+y.length)then some (.str (x++y))else none | _=>none)| _=>none)
 |a=>(match op with | .Add=>(items s a).bind fun x=>(items s b).bind fun y=>if sml (x.length+y.length)then some (.lst (x++y))else none | _=>none)
noncomputable def subV (s:List Cell)(a i:V):Option V:=match i with
 | .int k=>if 0≤k∧k≤1000 then(match a with
  | .tup l=>l[k.toNat]?
  | .str l=>l[k.toNat]?.map fun c=>.str [c]
  |a=>(items s a).bind (·[k.toNat]?))else if k=-1 then(items s a).bind (·.getLast?)else none
 | .str x=>(match a with | .dct ks vs=>dget x ks vs | _=>none)
 |_=>none
noncomputable def slcV (s:List Cell)(a:V)(lo hi:Option V):Option V:=match lo,hi with
 |none,some (.int k)=>(items s a).bind fun l=>if sml l.length∧k.natAbs≤1000 then some (.lst (if 0≤k then l.take k.toNat else l.take (l.length - k.natAbs)))else none
 |some (.int k),none=>(items s a).bind fun l=>if sml l.length∧0≤k∧k≤1000 then some (.lst (l.drop k.toNat))else none
 |_,_=>none
theorem ifO {α:Type}{p:Prop}[Decidable p]{m:Option α}{t:α}(h:(if p then m else none)=some t):p∧m=some t:=by
 by_cases q:p
 ·exact⟨q,(if_pos q).symm.trans h⟩
 ·exact n0 ((if_neg q).symm.trans h)
theorem smlI {α:Type}{n:Nat}{m t:α}(h:(if sml n then some m else none)=some t):n≤1000∧m=t:=by
 obtain⟨a,b⟩:=ifI h;exact⟨of_decide_eq_true a,b⟩
theorem listB {α:Type}{o:Option Cell}{k:List V→Option α}{b:α}(h:(match o with | some (.list l)=>k l | _=>none)=some b):∃l,o=some (.list l)∧k l=some b:=by
 induction o using Option.casesOn with
 |none=>exact n0 h
 |some q=>induction q using Cell.casesOn with
  |list l=>exact⟨l,rfl,h⟩
  |_=>exact n0 h
inductive ItI (s:List Cell):V→List V→Prop where
 |lst {l}:ItI s (.lst l) l
 |ref {i l}:s[i]?=some (.list l)→ItI s (.ref i) l
theorem clI {a b:List V}(h:Cell.list a=.list b):a=b:=by cases h;rfl
theorem itI {s:List Cell}{v:V}{l:List V}(h:items s v=some l):ItI s v l:=by
 induction v using V.casesOn with
 |lst l=>obtain rfl:=oi h;exact .lst
 |ref i=>obtain⟨l,e,h⟩:=listB (k:=some) h;obtain rfl:=oi h;exact .ref e
 |_=>exact n0 h
inductive TruI (s:List Cell):V→Bool→Prop where
 |none:TruI s .none false
 |bool (b):TruI s (.bool b) b
 |int (i):TruI s (.int i) (!decide (i=0))
 |str {l}:l.length≤1000→TruI s (.str l) (!l.isEmpty)
 |ref {i l}:s[i]?=some (.list l)→l.length≤1000→TruI s (.ref i) (!l.isEmpty)
theorem truI {s:List Cell}{v:V}{b:Bool}(h:truthy s v=some b):TruI s v b:=by
 induction v using V.casesOn with
 |none=>obtain rfl:=oi h;exact .none
 |bool b=>obtain rfl:=oi h;exact .bool _
 |int i=>obtain rfl:=oi h;exact .int _
 |str l=>obtain⟨a,rfl⟩:=smlI h;exact .str a
 |ref i=>obtain⟨l,e,h⟩:=listB h;obtain⟨a,rfl⟩:=smlI h;exact .ref e a
 |_=>exact n0 h
inductive BinI (s:List Cell):Operator→V→V→V→Prop where
 |add {x y}:BinI s .Add (.int x) (.int y) (.int (x+y))
 |sub {x y}:BinI s .Sub (.int x) (.int y) (.int (x - y))
 |mul {x y}:x.natAbs<2 ^ 64→BinI s .Mult (.int x) (.int y) (.int (x*y))
 |div {x y}:y≠0→y.natAbs<2 ^ 64→BinI s .FloorDiv (.int x) (.int y) (.int (x.fdiv y))
 |mod {x y}:y≠0→BinI s .Mod (.int x) (.int y) (.int (x.fmod y))
 |pow {x}:x.natAbs<2 ^ 64→BinI s .Pow (.int x) (.int 18) (.int (x ^ 18))
 |str {x y}:x.length+y.length≤1000→BinI s .Add (.str x) (.str y) (.str (x++y))
 |lst {a b x y}:items s a=some x→items s b=some y→x.length+y.length≤1000→BinI s .Add a b (.lst (x++y))
theorem binL {s:List Cell}{op:Operator}{a b w:V}(h:(match op with | .Add=>(items s a).bind fun x=>(items s b).bind fun y=>if sml (x.length+y.length)then some (V.lst (x++y))else none | _=>none)=some w):BinI s op a b w:=by
 induction op using Operator.casesOn with
 |Add=>obtain⟨x,hx,h⟩:=bI h;obtain⟨y,hy,h⟩:=bI h;obtain⟨a,rfl⟩:=smlI h;exact .lst hx hy a
 |_=>exact n0 h
theorem binO {s:List Cell}{op:Operator}{a b w:V}(h:binV s op a b=some w):BinI s op a b w:=by
 induction a using V.casesOn with
 |int x=>induction b using V.casesOn with
  |int y=>induction op using Operator.casesOn with
   |Add=>obtain rfl:=oi h;exact .add
   |Sub=>obtain rfl:=oi h;exact .sub
   |Mult=>obtain⟨a,rfl⟩:=ifI h;exact .mul a
   |FloorDiv=>obtain⟨a,rfl⟩:=ifI h;exact .div a.1 a.2
   |Mod=>obtain⟨a,rfl⟩:=ifI h;exact .mod a
   |Pow=>obtain⟨⟨rfl,a⟩,rfl⟩:=ifI h;exact .pow a
   |_=>exact n0 h
  |_=>exact n0 h
 |str x=>induction b using V.casesOn with
  |str y=>induction op using Operator.casesOn with
   |Add=>obtain⟨a,rfl⟩:=smlI h;exact .str a
   |_=>exact n0 h
  |_=>exact n0 h
 |_=>exact binL h
inductive SubI (s:List Cell):V→V→V→Prop where
 |tup {l k w}:0≤k→k≤1000→l[k.toNat]?=some w→SubI s (.tup l) (.int k) w
 |str {l k ch}:0≤k→k≤1000→l[k.toNat]?=some ch→SubI s (.str l) (.int k) (.str [ch])
 |it {a l k w}:items s a=some l→0≤k→k≤1000→l[k.toNat]?=some w→SubI s a (.int k) w
 |dct {ks vs x w}:dget x ks vs=some w→SubI s (.dct ks vs) (.str x) w
 |last {a l w}:items s a=some l→l.getLast?=some w→SubI s a (.int (-1)) w
theorem ifE {α:Type}{p:Prop}[Decidable p]{x y:Option α}{t:α}(h:(if p then x else y)=some t):(p∧x=some t)∨y=some t:=by
 by_cases q:p
 ·exact .inl ⟨q,(if_pos q).symm.trans h⟩
 ·exact .inr ((if_neg q).symm.trans h)
theorem subO {s:List Cell}{a i w:V}(h:subV s a i=some w):SubI s a i w:=by
 induction i using V.casesOn with
 |int k =>
  rcases ifE h with⟨⟨h0,h1⟩,h⟩| h
  ·induction a using V.casesOn with
   |tup l=>exact .tup h0 h1 h
   |str l=>obtain⟨ch,hc,rfl⟩:=mI h;exact .str h0 h1 hc
   |lst l=>exact .it rfl h0 h1 h
   |ref i=>obtain⟨l,hl,h⟩:=bI h;exact .it hl h0 h1 h
   |_=>exact n0 h
  ·obtain⟨rfl,h⟩:=ifO h
   obtain⟨l,hl,h⟩:=bI h
   exact .last hl h
 |str x=>induction a using V.casesOn with
  |dct ks vs=>exact .dct h
  |_=>exact n0 h
 |_=>exact n0 h
inductive SlcI (s:List Cell)(a:V):V→V→Prop where
 |mk {l k}:items s a=some l→l.length≤1000→k.natAbs≤1000→SlcI s a (.int k) (.lst (if 0≤k then l.take k.toNat else l.take (l.length - k.natAbs)))
theorem slcO {s:List Cell}{a b w:V}(h:slcV s a none (some b)=some w):SlcI s a b w:=by
 induction b using V.casesOn with
 |int k=>obtain⟨l,hl,h⟩:=bI h;obtain⟨⟨a,b⟩,rfl⟩:=ifI h;exact .mk hl (of_decide_eq_true a) b
 |_=>exact n0 h
inductive SldI (s:List Cell)(a:V):V→V→Prop where
 |mk {l k}:items s a=some l→l.length≤1000→0≤k→k≤1000→SldI s a (.int k) (.lst (l.drop k.toNat))
theorem sldO {s:List Cell}{a b w:V}(h:slcV s a (some b) none=some w):SldI s a b w:=by
 induction b using V.casesOn with
 |int k=>obtain⟨l,hl,h⟩:=bI h;obtain⟨⟨a,b,d⟩,rfl⟩:=ifI h;exact .mk hl (of_decide_eq_true a) b d
 |_=>exact n0 h
noncomputable def nonesV (s:List Cell):List V→Option (List V)
 | []=>some []
 |v::r=>(items s v).bind fun l=>(nonesV s r).bind fun t=>if sml l.length then some (l.filter isNone++t)else none
noncomputable def nonesO (fr:List (Option V))(s:List Cell)(i:Nat):Option (List V):=(fr[i]?).join.bind fun v=>(items s v).bind fun l=>if sml l.length then nonesV s l else none
noncomputable def sumI:List V→Option Int
 | []=>some 0
 | .int i::r=>(sumI r).map (i+·)
 |_::_=>none
noncomputable def bifV (s:List Cell)(b:Nat)(as:List V):Option V:=match b with
 |0=>match as with | [v]=>(items s v).bind fun l=>if sml l.length then some (.int l.length)else none | _=>none
 |1=>match as with | [.int i]=>some (.int i.natAbs)| _=>none
 |2=>match as with | [v]=>(items s v).bind fun l=>if sml l.length then(sumI l).map .int else none | _=>none
 |3=>match as with | [.int a,.int b]=>some (.int (min a b))| _=>none
 |4=>match as with | [v]=>(items s v).bind fun l=>if sml l.length then some (.lst l)else none | _=>none
 |5=>match as with | [v]=>(items s v).bind fun l=>if sml l.length then some (.tup l)else none | _=>none
 |_=>none
theorem oneI {as:List V}{k:V→Option V}{w:V}(h:(match as with | [v]=>k v | _=>none)=some w):∃v,as=[v]∧k v=some w:=by
 induction as using List.casesOn with
 |nil=>exact n0 h
 |cons v r=>induction r using List.casesOn with
  |nil=>exact⟨v,rfl,h⟩
  |cons _ _=>exact n0 h
inductive BifI (s:List Cell):Nat→List V→V→Prop where
 |len {v l}:items s v=some l→l.length≤1000→BifI s 0 [v] (.int l.length)
 |abs {i}:BifI s 1 [.int i] (.int i.natAbs)
 |sum {v l t}:items s v=some l→sumI l=some t→BifI s 2 [v] (.int t)
 |min {a b}:BifI s 3 [.int a,.int b] (.int (min a b))
 |lst {v l}:items s v=some l→l.length≤1000→BifI s 4 [v] (.lst l)
 |tup {v l}:items s v=some l→l.length≤1000→BifI s 5 [v] (.tup l)
theorem bifO {s:List Cell}{as:List V}{w:V}:∀{b:Nat},bifV s b as=some w→BifI s b as w
 |0,h=>by
  obtain⟨v,rfl,h1⟩:=oneI h;obtain⟨l,hl,h⟩:=bI h1;obtain⟨a,rfl⟩:=smlI h;exact .len hl a
 |1,h=>by
  induction as using List.casesOn with
  |nil=>exact n0 h
  |cons v r=>induction v using V.casesOn with
   |int i=>induction r using List.casesOn with
    |nil=>obtain rfl:=oi h;exact .abs
    |cons=>exact n0 h
   |_=>exact n0 h
 |2,h=>by
  obtain⟨v,rfl,h1⟩:=oneI h;obtain⟨l,hl,h⟩:=bI h1;obtain⟨_,h⟩:=ifO h;obtain⟨t,ht,rfl⟩:=mI h;exact .sum hl ht
 | 3, h => by
  induction as using List.casesOn with
  |nil=>exact n0 h
  |cons v r=>induction v using V.casesOn with
   |int i=>induction r using List.casesOn with
    |nil=>exact n0 h
    |cons v r=>induction v using V.casesOn with
     |int i=>induction r using List.casesOn with
      |nil=>obtain rfl:=oi h;exact .min
      |cons=>exact n0 h
     |_=>exact n0 h
   |_=>exact n0 h
 |4,h=>by
  obtain⟨v,rfl,h1⟩:=oneI h;obtain⟨l,hl,h⟩:=bI h1;obtain⟨a,rfl⟩:=smlI h;exact .lst hl a
 |5,h=>by
  obtain⟨v,rfl,h1⟩:=oneI h;obtain⟨l,hl,h⟩:=bI h1;obtain⟨a,rfl⟩:=smlI h;exact .tup hl a
 |n+6,h=>n0 h
noncomputable def low (s:CS):CS:=s.map fun c=>if 65≤c&&c≤90 then c+32 else c
noncomputable def fget (f:Nat):List (Nat × V)→Option V
 | []=>none
 |(g,v)::r=>if f=g then some v else fget f r
noncomputable def fput (f:Nat)(v:V):List (Nat × V)→List (Nat × V)
 | []=>[(f,v)]
 |(g,w)::r=>if f=g then(f,v)::r else(g,w)::fput f v r
noncomputable def attrV (s:List Cell)(f:Nat):V→Option V
 | .ref i=>match s[i]? with
  |some (.inst C fs)=>if C=0 then none else fget f fs
  |some (.exc C fs)=>if C=0 then fget f fs else none
  |_=>none
 |_=>none
inductive AttI (s:List Cell)(f:Nat)(w:V):V→Prop where
 |inst {i C fs}:s[i]?=some (.inst C fs)→C≠0→fget f fs=some w→AttI s f w (.ref i)
 |exc {i fs}:s[i]?=some (.exc 0 fs)→fget f fs=some w→AttI s f w (.ref i)
theorem attC {o:Option Cell}{f:Nat}{w:V}(h:(match o with | some (.inst C fs)=>if C=0 then none else fget f fs | some (.exc C fs)=>if C=0 then fget f fs else none | _=>none)=some w):
  (∃C fs,o=some (.inst C fs)∧C≠0∧fget f fs=some w)∨∃fs,o=some (.exc 0 fs)∧fget f fs=some w:=by
 induction o using Option.casesOn with
 |none=>exact n0 h
 |some q=>induction q using Cell.casesOn with
  |inst C fs =>
   by_cases q:C=0
   ·exact n0 ((if_pos q).symm.trans h)
   ·exact .inl ⟨_,_,rfl,q,(if_neg q).symm.trans h⟩
  |exc C fs=>obtain⟨rfl,h⟩:=ifO h;exact .inr ⟨_,rfl,h⟩
  |_=>exact n0 h
theorem attO {s:List Cell}{f:Nat}{v w:V}(h:attrV s f v=some w):AttI s f w v:=by
 induction v using V.casesOn with
 |ref i =>
  rcases attC h with⟨_,_,e,c,h⟩| ⟨_,e,h⟩
  ·exact .inst e c h
  ·exact .exc e h
 |_=>exact n0 h
noncomputable def strO:X→Option CS
 | .str l _=>some l
 |_=>none
noncomputable def litO:X→Option V
 | .str l _=>some (.str l)
 | .int i _=>some (.int i)
 |_=>none
noncomputable def strL:List X→Option (List CS)
 | []=>some []
 |x::r=>(strO x).bind fun l=>(strL r).bind fun ls=>some (l::ls)
noncomputable def litL:List X→Option (List V)
 | []=>some []
 |x::r=>(litO x).bind fun l=>(litL r).bind fun ls=>some (l::ls)
theorem strO_ {x:X}{l:CS}(h:strO x=some l):∃p,x=.str l p:=by
 cases x with
 |str l p=>exact⟨p,by rw[oi h]⟩
 |_=>exact n0 h
theorem ifN {α:Type}{p:Prop}[Decidable p]{x t:α}(h:(if p then none else some x)=some t):¬p∧x=t:=by
 by_cases q:p
 ·exact n0 ((if_pos q).symm.trans h)
 ·exact⟨q,oi ((if_neg q).symm.trans h)⟩
inductive RS where
 |nx (fr:List (Option V))(s:List Cell)
 |rt (v:V)(s:List Cell)
 |ex (i:Nat)(fr:List (Option V))(s:List Cell)
noncomputable def excK:Option Cell→Option Nat
 |some (.exc C _)=>some C
 |some (.exd C _)=>some C
 |_=>none
theorem joinO {α:Type}{o:Option (Option α)}{v:α}(h:o.join=some v):o=some (some v):=by
 induction o using Option.casesOn with
 |none=>exact n0 h
 |some q=>exact congrArg some h
noncomputable def atP (o g h:Nat)(fr:List (Option V))(s:List Cell):Option V:=(fr[o]?).join.bind fun x=>(attrV s g x).bind fun q=>attrV s h q
noncomputable def excC0:Option Cell→Option (List (Nat × V))
 |some (.exc C fs)=>if C=0 then some fs else none
 |_=>none
theorem excC0_ {o:Option Cell}{fs:List (Nat × V)}(h:excC0 o=some fs):o=some (.exc 0 fs):=by
 induction o using Option.casesOn with
 |none=>exact n0 h
 |some q=>induction q using Cell.casesOn with
  |exc C fs=>obtain⟨rfl,rfl⟩:=ifI h;rfl
  |_=>exact n0 h
noncomputable def raiH (fr:List (Option V))(e:Nat)(v:V)(s:List Cell):Option RS:=match v with
 | .ref j=>if j=e then some (.ex e fr s)else(excC0 s[e]?).bind fun _=>(excC0 s[j]?).bind fun fs=>some (.ex j fr (s.set j (.exd 0 fs)))
 |_=>none
inductive RahI (fr:List (Option V))(e:Nat)(v:V)(s:List Cell)(o:RS):Prop
 |same (hv:v=.ref e)(ho:o=.ex e fr s)
 |elder (j:Nat)(fs fs':List (Nat × V))(hv:v=.ref j)(hj:j≠e)(he:s[e]?=some (.exc 0 fs'))(hc:s[j]?=some (.exc 0 fs))(ho:o=.ex j fr (s.set j (.exd 0 fs)))
theorem rahO {fr:List (Option V)}{e:Nat}{v:V}{s:List Cell}{o:RS}(h:raiH fr e v s=some o):RahI fr e v s o:=by
 induction v using V.casesOn with
 |ref j =>
  by_cases q:j=e
  ·subst q;exact .same rfl (oi ((if_pos rfl).symm.trans h)).symm
  ·obtain⟨f1,h1,h⟩:=bI ((if_neg q).symm.trans h)
   obtain⟨f2,h2,h⟩:=bI h
   exact .elder j f2 f1 rfl q (excC0_ h1) (excC0_ h2) (oi h).symm
 |_=>exact n0 h
noncomputable def hndV (h:Hn)(i e:Nat)(fr:List (Option V))(s:List Cell):Option RS:=match h with
 | .nm j k _=>(fr[k]?).join.bind fun v=>some (.nx ((fr.set j (some v)).set i none) s)
 | .tp a b k o g h _ _ _=>(excC0 s[e]?).bind fun _=>(fr[k]?).join.bind fun v=>(atP o g h fr s).bind fun w=>if a=b then none else some (.nx (((fr.set a (some v)).set b (some w)).set i none) s)
 | .rs o g h b k1 k2 _=>(atP o g h fr s).bind fun w=>(fr[b]?).join.bind fun u=>(cmpV .GtE w u).bind fun t=>(fr[if t then k1 else k2]?).join.bind fun v=>raiH (fr.set i none) e v s
noncomputable def tryH (g i:Nat)(h:Hn)(e:Nat)(fr:List (Option V))(s:List Cell):Option RS :=
 (excK s[e]?).bind fun C=>if C=g∧g=0 then hndV h i e (fr.set i (some (.ref e))) s else none
theorem excO {o:Option Cell}{C:Nat}(h:excK o=some C):∃fs,o=some (.exc C fs)∨o=some (.exd C fs):=by
 induction o using Option.casesOn with
 |none=>exact n0 h
 |some q=>induction q using Cell.casesOn with
  |exc C fs=>obtain rfl:=oi h;exact⟨_,.inl rfl⟩
  |exd C fs=>obtain rfl:=oi h;exact⟨_,.inr rfl⟩
  |_=>exact n0 h
noncomputable def raiS (fr:List (Option V))(v:V)(s:List Cell):Option RS:=match v with
 | .ref i=>match s[i]? with
  |some (.new C fs)=>if C=0 then some (.ex i fr (s.set i (.exc C fs)))else none
  |_=>none
 |_=>none
theorem newB {α:Type}{o:Option Cell}{k:Nat→List (Nat × V)→Option α}{b:α}(h:(match o with | some (.new C fs)=>k C fs | _=>none)=some b):∃C fs,o=some (.new C fs)∧k C fs=some b:=by
 induction o using Option.casesOn with
 |none=>exact n0 h
 |some q=>induction q using Cell.casesOn with
  |new C fs=>exact⟨C,fs,rfl,h⟩
  |_=>exact n0 h
inductive RaiI (fr:List (Option V))(v:V)(s:List Cell)(o:RS):Prop
 |mk (i:Nat)(fs:List (Nat × V))(hv:v=.ref i)(hc:s[i]?=some (.new 0 fs))(ho:RS.ex i fr (s.set i (.exc 0 fs))=o)
theorem raiO {fr:List (Option V)}{v:V}{s:List Cell}{o:RS}(h:raiS fr v s=some o):RaiI fr v s o:=by
 induction v using V.casesOn with
 |ref i =>
  obtain⟨C,fs,hc,h1⟩:=newB h
  obtain⟨rfl,rfl⟩:=ifI h1
  exact⟨i,fs,rfl,hc,rfl⟩
 |_=>exact n0 h
structure Tabs where
 fn:Nat→Option FnD
 init:Nat→Option Nat        -- a class's __init__
 lamn:Nat→Nat               -- a lambda's parameters
 mth:Nat→Nat→Option Nat
 gl:Nat→Option V
 lamc:Nat→List Nat          -- what a lambda captures (the maker's places)
 lam:Nat→Option X
noncomputable def methV (o:V)(f:Nat)(as:List V)(s:List Cell):O V:=match o with
 | .str l=>match f,as with
  |37,[.str [c]]=>if sml l.length then some (.ok (.lst ((Txt.split ⟨l.toArray⟩ ⟨#[c]⟩).map fun x=>.str x.cps.toList)) s)else none
  |38,[]=>if sml l.length&&l.all (fun c=>decide (c<128))then some (.ok (.str (low l)) s)else none
  |_,_=>none
 | .ref i=>match s[i]? with
  |some (.list l)=>match f,as with
   |39,[v]=>if sml l.length then some (.ok .none (s.set i (.list (l++[v]))))else none
   |_,_=>none
  |_=>none
 |_=>none
noncomputable def putT (fr:List (Option V)):List (Nat × Pos)→List V→Option (List (Option V))
 | [],[]=>some fr
 |(i,_)::r,v::t=>putT (fr.set i (some v)) r t
 |_,_=>none
noncomputable def enumV:Nat→List V→List V
 |_,[]=>[]
 |k,v::r=>.tup [.int k,v]::enumV (k+1) r
noncomputable def enumA:X→Option X
 | .bcall b _ as _=>bif Nat.beq b 6 then(match as with | [x]=>some x | _=>none)else none
 |_=>none
noncomputable def stT (ts:List (Nat × Pos))(fr:List (Option V))(v:V):Option (List (Option V)):=match v with
 | .tup vs=>putT fr ts vs
 |_=>none
noncomputable def caps (fr:List (Option V)):List Nat→Option (List V)
 | []=>some []
 |i::r=>match fr[i]? with
  |some (some v)=>(caps fr r).map (v::·)
  |_=>none
section
variable (T:Tabs)
noncomputable def methF (s:List Cell)(o:V)(f:Nat):Option (Option (V × Bool)):=match o with
 | .str _=>if f=37∨f=38 then some none else none
 | .ref i=>match s[i]? with
  |some (.list _)=>if f=39 then some none else none
  |some (.inst C fs)=>match fget f fs with
   |some v=>if f≤10∧C≠0 then some (some (v,false))else none
   |none=>if f<40 then(T.mth C f).map fun g=>some (.base g,true)else none
  |_=>none
 |_=>none
mutual
noncomputable def exX:Nat→X→List (Option V)→List Cell→O V
 |0,_,_,_=>none
 |n+1,x,fr,s=>match x with
  | .none _=>some (.ok .none s)
  | .bool b _=>some (.ok (.bool b) s)
  | .int i _=>some (.ok (.int i) s)
  | .str l _=>some (.ok (.str l) s)
  | .loc i _=>lif (fr[i]?.join) s
  | .glob g _=>lif (T.gl g) s
  | .attr x f _=>bnd (exX n x fr s) fun v s=>lif (attrV s f v) s
  | .call f as _=>bnd (exX n f fr s) fun f s=>bnd (exXs n as fr s) fun as s=>callV n f as s
  | .bcall b _ as _=>bnd (exXs n as fr s) fun as s=>lif (bifV s b as) s
  | .meth o f _ as _=>bnd (exX n o fr s) fun o s=>match methF T s o f with
   |some (some (g,b))=>bnd (exXs n as fr s) fun as s=>callV n g (if b then o::as else as) s
   |some none=>bnd (exXs n as fr s) fun as s=>methV o f as s
   |none=>none
  | .bin l op r _=>bnd (exX n l fr s) fun a s=>bnd (exX n r fr s) fun b s=>lif (binV s op a b) s
  | .not x _=>bnd (exX n x fr s) fun v s=>lif ((truthy s v).map fun b=>.bool (!b)) s
  | .neg x _=>bnd (exX n x fr s) fun v s=>match v with | .int i=>some (.ok (.int (-i)) s)| _=>none
  | .and xs _=>exBool n true xs fr s
  | .or xs _=>exBool n false xs fr s
  | .ite t a b _=>bnd (exX n t fr s) fun v s=>match truthy s v with
   |some true=>exX n a fr s
   |some false=>exX n b fr s
   |none=>none
  | .cmp l op r _=>bnd (exX n l fr s) fun a s=>bnd (exX n r fr s) fun b s=>lif ((cmpV op a b).map .bool) s
  | .cmp2 l op m op2 r _=>bnd (exX n l fr s) fun a s=>bnd (exX n m fr s) fun b s=>match cmpV op a b with
   |some true=>bnd (exX n r fr s) fun c s=>lif ((cmpV op2 b c).map .bool) s
   |some false=>some (.ok (.bool false) s)
   |none=>none
  | .tup xs _ _=>bnd (exXs n xs fr s) fun vs s=>if sml vs.length then some (.ok (.tup vs) s)else none
  | .lst xs _=>bnd (exXs n xs fr s) fun vs s=>if sml vs.length then some (.ok (.ref s.length) (s++[.list vs]))else none
  | .lstF xs _=>bnd (exXs n xs fr s) fun vs s=>if sml vs.length then some (.ok (.lst vs) s)else none
  | .dct ks vs _=>match strL ks,litL vs with
   |some ks,some vs=>if ks.length=vs.length∧ks.Nodup∧ks.length≤15 then some (.ok (.dct ks vs) s)else none
   |_,_=>none
  | .sub x i _=>bnd (exX n x fr s) fun a s=>bnd (exX n i fr s) fun b s=>lif (subV s a b) s
  | .slc x none (some hi) _ _=>bnd (exX n x fr s) fun a s=>bnd (exX n hi fr s) fun b s=>lif (slcV s a none (some b)) s
  | .slc x (some lo) none _ _=>bnd (exX n x fr s) fun a s=>bnd (exX n lo fr s) fun b s=>lif (slcV s a (some b) none) s
  | .slc _ _ _ _ _=>none
  | .lam k _=>lif ((caps fr (T.lamc k)).map (.clo k)) s
  | .nones i _ _ pl _=>match nonesO fr s i with
   |some t=>bnd (exX n (.lstF [] pl) fr s) fun v s=>lif ((cmpV .NotEq (.lst t) v).map .bool) s
   |none=>none
noncomputable def exXs:Nat→List X→List (Option V)→List Cell→O (List V)
 |0,_,_,_=>none
 |_+1,[],_,s=>some (.ok [] s)
 |n+1,x::r,fr,s=>bnd (exX n x fr s) fun v s=>bnd (exXs n r fr s) fun vs s=>some (.ok (v::vs) s)
noncomputable def exBool:Nat→Bool→List X→List (Option V)→List Cell→O V
 |0,_,_,_,_=>none
 |_+1,_,[],_,_=>none
 |n+1,_,[x],fr,s=>exX n x fr s
 |n+1,b,x::r,fr,s=>bnd (exX n x fr s) fun v s=>match truthy s v with
  |some t=>if t=b then exBool n b r fr s else some (.ok v s)
  |none=>none
noncomputable def callV:Nat→V→List V→List Cell→O V
 |0,_,_,_=>none
 |n+1,f,as,s=>match f with
  | .base g=>match T.fn g with
   |some d =>
    if as.length≤d.np&&d.np≤as.length+d.dflt.length then
     let bs:=as++d.dflt.drop (d.dflt.length - (d.np - as.length))
     match exSs n d.body (bs.map some++List.replicate (d.nm.length - d.np) none) s with
     |some (.nx _ s)=>some (.ok .none s)
     |some (.rt v s)=>some (.ok v s)
     |some (.ex i _ s)=>some (.ex i s)
     |none=>none
    else none
   |none=>match T.init g with
    |some k=>bnd (callV n (.base k) (.ref s.length::as) (s++[.inst g []])) fun v s'=>match v with | .none=>some (.ok (.ref s.length) s')| _=>none
    |none=>if g=0∧3≤n then match as with
      | [w,a]=>some (.ok (.ref s.length) (s++[.new g [(10,w),(1,a)]]))
      |_=>none
     else none
  | .clo k cs=>match T.lam k with
   |some x=>if as.length=T.lamn k then exX n x ((as++cs).map some) s else none
   |none=>none
  |_=>none
noncomputable def exSs:Nat→List S→List (Option V)→List Cell→Option RS
 |0,_,_,_=>none
 |_+1,[],fr,s=>some (.nx fr s)
 |n+1,t::r,fr,s=>match exS n t fr s with
  |some (.nx fr s)=>exSs n r fr s
  |o=>o
noncomputable def exS:Nat→S→List (Option V)→List Cell→Option RS
 |0,_,_,_=>none
 |n+1,t,fr,s=>match t with
  | .expr x _=>match exX n x fr s with
   |some (.ok _ s)=>some (.nx fr s)
   |some (.ex i s)=>some (.ex i fr s)
   |none=>none
  | .asN i _ x _=>match exX n x fr s with
   |some (.ok v s)=>some (.nx (fr.set i (some v)) s)
   |some (.ex i s)=>some (.ex i fr s)
   |none=>none
  | .asT ts _ _ x _=>match exX n x fr s with
   |some (.ok (.tup vs) s)=>(putT fr ts vs).map fun fr=>.nx fr s
   |some (.ok _ _)=>none
   |some (.ex i s)=>some (.ex i fr s)
   |none=>none
  | .asA o f _ x _=>match bnd (exX n x fr s) fun v s=>bnd (exX n o fr s) fun o s=>match o with
     | .ref i=>match s[i]? with
      |some (.inst C fs)=>if f≤10∧C≠0∧fs.length≤40 then some (.ok V.none (s.set i (.inst C (fput f v fs))))else none
      |_=>none
     |_=>none with
   |some (.ok _ s)=>some (.nx fr s)
   |some (.ex i s)=>some (.ex i fr s)
   |none=>none
  | .asI o k _ x _=>match bnd (exX n x fr s) fun v s=>bnd (exX n o fr s) fun o s=>bnd (exX n k fr s) fun k s=>match o,k with
     | .ref i,.int j=>match s[i]? with
      |some (.list l)=>if 0≤j∧j≤1000∧j.toNat<l.length then some (.ok V.none (s.set i (.list (l.set j.toNat v))))else none
      |_=>none
     |_,_=>none with
   |some (.ok _ s)=>some (.nx fr s)
   |some (.ex i s)=>some (.ex i fr s)
   |none=>none
  | .ifs t a b _=>match exX n t fr s with
   |some (.ok v s)=>match truthy s v with
    |some true=>exSs n a fr s
    |some false=>exSs n b fr s
    |none=>none
   |some (.ex i s)=>some (.ex i fr s)
   |none=>none
  | .whl t a _=>exW n t a fr s
  | .forN i _ x a _=>match exX n x fr s with
   |some (.ok v s)=>match v with
    | .lst l=>exF n (fun fr v=>some (fr.set i (some v))) a l fr s
    | .ref j=>exL n (fun fr v=>some (fr.set i (some v))) a j 0 fr s
    |_=>none
   |some (.ex i s)=>some (.ex i fr s)
   |none=>none
  | .forR i _ _ _ x a _=>match exX n x fr s with
   |some (.ok v s)=>match v with
    | .int k=>if 0≤k∧k≤1000 then exF n (fun fr v=>some (fr.set i (some v))) a ((List.range k.toNat).map fun j:Nat=>.int j) fr s else none
    |_=>none
   |some (.ex i s)=>some (.ex i fr s)
   |none=>none
  | .forT ts _ _ x a _=>match enumA x with
   |some x=>match bnd (exXs n [x] fr s) (fun vs s=>match vs with | [v]=>some (.ok v s)| _=>none)with
    |some (.ok v s)=>match v with
     | .lst l=>exF n (stT ts) a (enumV 0 l) fr s
     |_=>none
    |some (.ex i s)=>some (.ex i fr s)
    |none=>none
   |none=>none
  | .ret x _=>match exX n x fr s with
   |some (.ok v s)=>some (.rt v s)
   |some (.ex i s)=>some (.ex i fr s)
   |none=>none
  | .raise x _=>match exX n x fr s with
   |some (.ok v s)=>raiS fr v s
   |some (.ex i s)=>some (.ex i fr s)
   |none=>none
  | .try1 a g _ i h _ _=>match exSs n a fr s with
   |some (.ex e fr s)=>tryH g i h e fr s
   |o=>o
noncomputable def exW:Nat→X→List S→List (Option V)→List Cell→Option RS
 |0,_,_,_,_=>none
 |n+1,t,a,fr,s=>match exX n t fr s with
  |some (.ok v s)=>match truthy s v with
   |some true=>match exSs n a fr s with
    |some (.nx fr s)=>exW n t a fr s
    |o=>o
   |some false=>some (.nx fr s)
   |none=>none
  |some (.ex i s)=>some (.ex i fr s)
  |none=>none
noncomputable def exF:Nat→(List (Option V)→V→Option (List (Option V)))→List S→List V→List (Option V)→List Cell→Option RS
 |0,_,_,_,_,_=>none
 |_+1,_,_,[],fr,s=>some (.nx fr s)
 |n+1,st,a,v::r,fr,s=>match st fr v with
  |some fr=>match exSs n a fr s with
   |some (.nx fr s)=>exF n st a r fr s
   |o=>o
  |none=>none
noncomputable def exL:Nat→(List (Option V)→V→Option (List (Option V)))→List S→Nat→Nat→List (Option V)→List Cell→Option RS
 |0,_,_,_,_,_,_=>none
 |n+1,st,a,i,k,fr,s=>match items s (.ref i)with
  |some l=>match l[k]? with
   |none=>some (.nx fr s)
   |some v=>match st fr v with
    |some fr=>match exSs n a fr s with
     |some (.nx fr s)=>exL n st a i (k+1) fr s
     |o=>o
    |none=>none
  |none=>none
end
end
noncomputable def nxK (o:Option RS)(K:List (Option V)→List Cell→Option RS):Option RS:=match o with
 |some (.nx fr s)=>K fr s
 |o=>o
end Mine
end
section
namespace Mine
open PySem
noncomputable def bdx16:List S :=
 [.asT [(1,(pz 1221082)),(2,(pz 1222020))] 0 (pz 1221089) (.tup [(.int 0 (pz 1223222)),(.int 0 (pz 1223624))] 0 (pz 1223093)) (pz 1221098),
  .whl (.or [(.cmp (.loc 1 (pz 1239575)) .Gt (.int 0 (pz 1240643)) (pz 1239579)),(.and [(.cmp (.loc 2 (pz 1241451)) .Eq (.int 0 (pz 1242653)) (pz 1241456)),(.meth (.loc 0 (pz 1243462)) 20 (pz 1243470) [(.str [40] (pz 1245469))] (pz 1243475))] (pz 1241480))] (pz 1239619)) [.ifs (.cmp (.meth (.loc 0 (pz 1257399)) 11 (pz 1257404) [(.loc 2 (pz 1259006))] (pz 1257411)) .Is (.none (pz 1260345)) (pz 1257419)) [.ret (.bool false (pz 1276159)) (pz 1275228)] [] ⟨71,8,72,24⟩,
  .ifs (.meth (.loc 0 (pz 1292777)) 20 (pz 1292785) [(.str [40] (pz 1294784)),(.loc 2 (pz 1295456))] (pz 1292797)) [.asN 1 (pz 1310599) (.bin (.loc 1 (pz 1311671)) .Add (.int 1 (pz 1312739)) (pz 1311675)) (pz 1310611)] [.ifs (.meth (.loc 0 (pz 1328423)) 20 (pz 1328431) [(.str [41] (pz 1330430)),(.loc 2 (pz 1331102))] (pz 1328443)) [.asN 1 (pz 1345977) (.bin (.loc 1 (pz 1347049)) .Sub (.int 1 (pz 1348117)) (pz 1347053)) (pz 1345989)] [.ifs (.and [(.cmp (.loc 1 (pz 1363800)) .Eq (.int 1 (pz 1365002)) (pz 1363805)),(.meth (.loc 0 (pz 1365811)) 20 (pz 1365819) [(.str [58] (pz 1367818)),(.loc 2 (pz 1368490))] (pz 1365831))] (pz 1363836)) [.ret (.bool true (pz 1382292)) (pz 1381361)] [] ⟨77,8,78,23⟩] ⟨75,8,78,23⟩] ⟨73,8,78,23⟩,
  .asN 2 (pz 1398508) (.bin (.loc 2 (pz 1399580)) .Add (.int 1 (pz 1400648)) (pz 1399584)) (pz 1398520)] ⟨70,4,79,25⟩,
  .ret (.bool false (pz 1416599)) (pz 1415668)]
noncomputable def fdx16:FnD:={ nm:=["reader","depth","ahead"],np:=1,body:=bdx16 }
noncomputable def bdx19:List S :=
 [.asN 2 (pz 1716373) (.meth (.loc 0 (pz 1717313)) 19 (pz 1717318) [] (pz 1717320)) (pz 1716389),
  .asN 3 (pz 1734068) (.lst [] (pz 1735802)) (pz 1734073),
  .whl (.cmp (.meth (.loc 0 (pz 1752557)) 17 (pz 1752564) [(.str [79,70,32,73,78] (pz 1754434))] (pz 1752573)) .NotEq (.str [] (pz 1756037)) (pz 1752579)) [.expr (.meth (.loc 3 (pz 1769982)) 39 (pz 1769989) [(.meth (.loc 0 (pz 1772390)) 19 (pz 1772395) [] (pz 1772397))] (pz 1770004)) (pz 1770004)] ⟨99,4,100,40⟩,
  .asN 4 (pz 1787135) (.tup [] 0 (pz 1788869)) (pz 1787140),
  .ifs (.and [(.meth (.loc 0 (pz 1805222)) 20 (pz 1805230) [(.str [40] (pz 1807229))] (pz 1805235)),(.not (.call (.glob 16 (pz 1809114)) [(.loc 0 (pz 1810850))] (pz 1809122)) (pz 1808590))] (pz 1805266)) [.asN 4 (pz 1823049) (.call (.glob 17 (pz 1824796)) [(.loc 0 (pz 1826931)),(.loc 1 (pz 1828006))] (pz 1824815)) (pz 1823086)] [] ⟨102,4,103,55⟩,
  .asN 5 (pz 1840196) (.ite (.call (.glob 16 (pz 1845430)) [(.loc 0 (pz 1847166))] (pz 1845438)) (.call (.glob 18 (pz 1841139)) [(.loc 0 (pz 1842476)),(.loc 1 (pz 1843551))] (pz 1841158)) (.none (pz 1848906)) (pz 1841192)) (pz 1840261),
  .ret (.tup [(.str [114,101,102] (pz 1858958)),(.loc 2 (pz 1859895)),(.bcall 5 (pz 1860700) [(.loc 3 (pz 1861509))] (pz 1860712)),(.loc 4 (pz 1863251)),(.loc 5 (pz 1864853))] 0 (pz 1858869)) (pz 1857938)]
noncomputable def fdx19:FnD:={ nm:=["reader","read_expr","name","qualifiers","subscripts","part"],np:=2,body:=bdx19 }
noncomputable def bdx21:List S :=
 [.ifs (.or [(.not (.meth (.loc 0 (pz 2018026)) 14 (pz 2018034) [(.str [119,111,114,100] (pz 2020036))] (pz 2018042)) (pz 2017510)),(.cmp (.attr (.meth (.loc 0 (pz 2021510)) 11 (pz 2021515) [] (pz 2021517)) 4 (pz 2021523)) .NotIn (.glob 4 (pz 2025134)) (pz 2021543))] (pz 2017553)) [.ret (.none (pz 2036249)) (pz 2035318)] [] ⟨114,4,115,19⟩,
  .ret (.tup [(.str [102,105,103,117,114,101] (pz 2053540)),(.sub (.glob 4 (pz 2054884)) (.attr (.meth (.loc 0 (pz 2056620)) 13 (pz 2056625) [] (pz 2056627)) 4 (pz 2056633)) (pz 2054905))] 0 (pz 2053443)) (pz 2052512)]
noncomputable def fdx21:FnD:={ nm:=["reader"],np:=1,body:=bdx21 }
noncomputable def bdx22:List S :=
 [.ifs (.meth (.loc 0 (pz 2088246)) 23 (pz 2088256) [] (pz 2088258)) [.ret (.tup [(.str [110,117,109,98,101,114] (pz 2107143)),(.meth (.loc 0 (pz 2108481)) 24 (pz 2108488) [] (pz 2108490))] 0 (pz 2107028)) (pz 2106097)] [] ⟨118,4,119,42⟩,
  .ifs (.meth (.loc 0 (pz 2123624)) 14 (pz 2123632) [(.str [108,105,116,101,114,97,108] (pz 2125637))] (pz 2123643)) [.ret (.tup [(.str [116,101,120,116] (pz 2142519)),(.meth (.loc 0 (pz 2143591)) 25 (pz 2143598) [] (pz 2143600))] 0 (pz 2142404)) (pz 2141473)] [] ⟨120,4,121,40⟩,
  .ifs (.meth (.loc 0 (pz 2159002)) 16 (pz 2159007) [(.str [65,76,76] (pz 2160609))] (pz 2159014)) [.ret (.call (.glob 20 (pz 2177765)) [(.loc 0 (pz 2178969))] (pz 2177773)) (pz 2176842)] [] ⟨122,4,123,31⟩,
  .asN 2 (pz 2193978) (.call (.glob 21 (pz 2195189)) [(.loc 0 (pz 2196792))] (pz 2195197)) (pz 2194000),
  .ret (.ite (.cmp (.loc 2 (pz 2216759)) .Is (.none (pz 2218097)) (pz 2216767)) (.call (.glob 19 (pz 2212607)) [(.loc 0 (pz 2213811)),(.loc 1 (pz 2214886))] (pz 2212626)) (.loc 2 (pz 2219439)) (pz 2212656)) (pz 2211725)]
noncomputable def fdx22:FnD:={ nm:=["reader","read_expr","figure"],np:=2,body:=bdx22 }
noncomputable def bdx23:List S :=
 [.ret (.call (.glob 25 (pz 2283363)) [(.loc 0 (pz 2284567)),(.int 0 (pz 2285634))] (pz 2283374)) (pz 2282443)]
noncomputable def fdx23:FnD:={ nm:=["reader"],np:=1,body:=bdx23 }
noncomputable def bdx24:List S :=
 [.asN 2 (pz 2317800) (.meth (.loc 0 (pz 2318873)) 11 (pz 2318878) [] (pz 2318880)) (pz 2317816),
  .ifs (.or [(.cmp (.loc 2 (pz 2335891)) .Is (.none (pz 2337096)) (pz 2335899)),(.cmp (.attr (.loc 2 (pz 2338169)) 3 (pz 2338174)) .NotEq (.str [115,105,103,110] (pz 2340046)) (pz 2338184)),(.cmp (.attr (.loc 2 (pz 2341385)) 4 (pz 2341391)) .NotIn (.loc 1 (pz 2343931)) (pz 2341404))] (pz 2335951)) [.ret (.str [] (pz 2354649)) (pz 2353718)] [] ⟨132,4,133,17⟩,
  .ret (.attr (.loc 2 (pz 2371805)) 4 (pz 2371811)) (pz 2370880)]
noncomputable def fdx24:FnD:={ nm:=["reader","signs","token"],np:=2,body:=bdx24 }
noncomputable def bdx25:List S :=
 [.ifs (.cmp (.loc 1 (pz 2406647)) .Gt (.glob 11 (pz 2407735)) (pz 2406671)) [.raise (.meth (.loc 0 (pz 2425275)) 12 (pz 2425281) [(.str [98,114,97,99,107,101,116,115,32,97,114,101,32,110,101,115,116,101,100,32,116,111,111,32,100,101,101,112] (pz 2427041))] (pz 2425313)) (pz 2424515)] [] ⟨136,4,137,58⟩,
  .asN 2 (pz 2441623) (.call (.glob 26 (pz 2442702)) [(.loc 0 (pz 2444438)),(.loc 1 (pz 2445509))] (pz 2442717)) (pz 2441653),
  .whl (.cmp (.call (.glob 24 (pz 2460121)) [(.loc 0 (pz 2461591)),(.tup [(.str [43] (pz 2462794)),(.str [45] (pz 2463464))] 0 (pz 2462667))] (pz 2460141)) .NotEq (.str [] (pz 2464669)) (pz 2460147)) [.asN 3 (pz 2477536) (.attr (.meth (.loc 0 (pz 2478476)) 13 (pz 2478481) [] (pz 2478483)) 4 (pz 2478489)) (pz 2477558),
  .asN 2 (pz 2495226) (.tup [(.loc 3 (pz 2496431)),(.loc 2 (pz 2497236)),(.call (.glob 26 (pz 2498181)) [(.loc 0 (pz 2499917)),(.loc 1 (pz 2500988))] (pz 2498196))] 0 (pz 2496335)) (pz 2495271)] ⟨139,4,141,58⟩,
  .ret (.loc 2 (pz 2513317)) (pz 2512386)]
noncomputable def fdx25:FnD:={ nm:=["reader","depth","found","sign"],np:=2,body:=bdx25 }
noncomputable def bdx26:List S :=
 [.asN 2 (pz 2547757) (.call (.glob 27 (pz 2548835)) [(.loc 0 (pz 2550438)),(.loc 1 (pz 2551509))] (pz 2548850)) (pz 2547786),
  .whl (.cmp (.call (.glob 24 (pz 2566255)) [(.loc 0 (pz 2567725)),(.tup [(.str [42] (pz 2568928)),(.str [47] (pz 2569598))] 0 (pz 2568801))] (pz 2566275)) .NotEq (.str [] (pz 2570803)) (pz 2566281)) [.asN 3 (pz 2583670) (.attr (.meth (.loc 0 (pz 2584610)) 13 (pz 2584615) [] (pz 2584617)) 4 (pz 2584623)) (pz 2583692),
  .asN 2 (pz 2601360) (.tup [(.loc 3 (pz 2602565)),(.loc 2 (pz 2603370)),(.call (.glob 27 (pz 2604314)) [(.loc 0 (pz 2605917)),(.loc 1 (pz 2606988))] (pz 2604329))] 0 (pz 2602468)) (pz 2601404)] ⟨145,4,147,57⟩,
  .ret (.loc 2 (pz 2619451)) (pz 2618520)]
noncomputable def fdx26:FnD:={ nm:=["reader","depth","found","sign"],np:=2,body:=bdx26 }
noncomputable def bdx27:List S :=
 [.asN 2 (pz 2653890) (.call (.glob 24 (pz 2654834)) [(.loc 0 (pz 2656304)),(.tup [(.str [43] (pz 2657507)),(.str [45] (pz 2658177))] 0 (pz 2657380))] (pz 2654854)) (pz 2653923),
  .ifs (.cmp (.loc 2 (pz 2671981)) .Eq (.str [] (pz 2673051)) (pz 2671987)) [.ret (.call (.glob 29 (pz 2690748)) [(.loc 0 (pz 2692218)),(.loc 1 (pz 2693289))] (pz 2690763)) (pz 2689832)] [] ⟨151,4,152,40⟩,
  .expr (.meth (.loc 0 (pz 2706959)) 13 (pz 2706964) [] (pz 2706966)) (pz 2706966),
  .asN 3 (pz 2724648) (.and [(.cmp (.loc 2 (pz 2725852)) .Eq (.str [45] (pz 2726923)) (pz 2725859)),(.call (.glob 28 (pz 2728006)) [(.loc 0 (pz 2730008))] (pz 2728014))] (pz 2725886)) (pz 2724689),
  .asN 4 (pz 2742336) (.call (.glob 29 (pz 2743413)) [(.loc 0 (pz 2744883)),(.loc 1 (pz 2745954))] (pz 2743428)) (pz 2742364),
  .ifs (.loc 3 (pz 2760428)) [.ret (.tup [(.str [110,117,109,98,101,114] (pz 2779325)),(.call (.glob 31 (pz 2780664)) [(.sub (.loc 4 (pz 2781734)) (.int 1 (pz 2782534)) (pz 2781737))] (pz 2780674))] 0 (pz 2779212)) (pz 2778281)] [] ⟨156,4,157,44⟩,
  .ret (.ite (.cmp (.loc 2 (pz 2798752)) .Eq (.str [45] (pz 2799823)) (pz 2798759)) (.tup [(.str [110,101,103] (pz 2796475)),(.loc 4 (pz 2797413))] 0 (pz 2796350)) (.loc 4 (pz 2801031)) (pz 2796376)) (pz 2795445)]
noncomputable def fdx27:FnD:={ nm:=["reader","depth","sign","is_own","found"],np:=2,body:=bdx27 }
noncomputable def bdx28:List S :=
 [.asT [(1,(pz 2830781)),(2,(pz 2831720))] 0 (pz 2830789) (.tup [(.meth (.loc 0 (pz 2833060)) 11 (pz 2833065) [] (pz 2833067)),(.meth (.loc 0 (pz 2835070)) 11 (pz 2835075) [(.int 1 (pz 2836673))] (pz 2835078))] 0 (pz 2832951)) (pz 2830823),
  .ifs (.or [(.cmp (.loc 1 (pz 2848872)) .Is (.none (pz 2850077)) (pz 2848880)),(.cmp (.attr (.loc 1 (pz 2851150)) 3 (pz 2851155)) .NotEq (.str [110,117,109,98,101,114] (pz 2853029)) (pz 2851167))] (pz 2848906)) [.ret (.bool false (pz 2867633)) (pz 2866702)] [] ⟨161,4,162,20⟩,
  .ret (.or [(.cmp (.loc 2 (pz 2884787)) .Is (.none (pz 2886125)) (pz 2884795)),(.cmp (.attr (.loc 2 (pz 2887199)) 3 (pz 2887204)) .NotEq (.str [115,105,103,110] (pz 2889209)) (pz 2887214)),(.cmp (.attr (.loc 2 (pz 2890549)) 4 (pz 2890555)) .NotEq (.str [42,42] (pz 2892691)) (pz 2890563))] (pz 2884844)) (pz 2883913)]
noncomputable def fdx28:FnD:={ nm:=["reader","token","behind"],np:=1,body:=bdx28 }
noncomputable def bdx29:List S :=
 [.asN 2 (pz 2919226) (.call (.glob 30 (pz 2920305)) [(.loc 0 (pz 2922041)),(.loc 1 (pz 2923112))] (pz 2920320)) (pz 2919256),
  .whl (.cmp (.call (.glob 24 (pz 2937724)) [(.loc 0 (pz 2939194)),(.tup [(.str [42,42] (pz 2940398))] 0 (pz 2940267))] (pz 2937741)) .NotEq (.str [] (pz 2941870)) (pz 2937747)) [.expr (.meth (.loc 0 (pz 2955141)) 13 (pz 2955146) [] (pz 2955148)) (pz 2955148),
  .asN 2 (pz 2972829) (.tup [(.str [42,42] (pz 2974034)),(.loc 2 (pz 2974839)),(.call (.glob 30 (pz 2975784)) [(.loc 0 (pz 2977520)),(.loc 1 (pz 2978591))] (pz 2975799))] 0 (pz 2973938)) (pz 2972874)] ⟨166,4,168,58⟩,
  .ret (.loc 2 (pz 2990920)) (pz 2989989)]
noncomputable def fdx29:FnD:={ nm:=["reader","depth","found"],np:=2,body:=bdx29 }
noncomputable def bdx30:List S :=
 [.ifs (.cmp (.call (.glob 24 (pz 3025767)) [(.loc 0 (pz 3027237)),(.tup [(.str [43] (pz 3028440)),(.str [45] (pz 3029110))] 0 (pz 3028313))] (pz 3025787)) .NotEq (.str [] (pz 3030315)) (pz 3025793)) [.raise (.meth (.loc 0 (pz 3044390)) 12 (pz 3044396) [(.str [97,110,32,111,112,101,114,97,110,100,32,105,115,32,97,115,107,101,100,32,104,101,114,101] (pz 3046152))] (pz 3044424)) (pz 3043626)] [] ⟨171,4,172,54⟩,
  .ifs (.not (.meth (.loc 0 (pz 3061677)) 21 (pz 3061687) [(.str [40] (pz 3063952))] (pz 3061692)) (pz 3061160)) [.ret (.call (.glob 22 (pz 3079908)) [(.loc 0 (pz 3081644)),(.lam 0 (pz 3082750))] (pz 3079958)) (pz 3079027)] [] ⟨173,4,174,77⟩,
  .asN 2 (pz 3096116) (.call (.glob 25 (pz 3097191)) [(.loc 0 (pz 3098395)),(.bin (.loc 1 (pz 3099466)) .Add (.int 1 (pz 3100534)) (pz 3099470))] (pz 3097210)) (pz 3096146),
  .expr (.meth (.loc 0 (pz 3113806)) 22 (pz 3113816) [(.str [41] (pz 3116081))] (pz 3113821)) (pz 3113821),
  .ret (.loc 2 (pz 3132432)) (pz 3131501)]
noncomputable def fdx30:FnD:={ nm:=["reader","depth","found"],np:=2,body:=bdx30 }
noncomputable def bdx32:List S :=
 [.asN 2 (pz 3290695) (.meth (.loc 0 (pz 3291768)) 11 (pz 3291773) [(.loc 1 (pz 3293375))] (pz 3291780)) (pz 3290716),
  .ret (.ite (.and [(.cmp (.loc 2 (pz 3311332)) .IsNot (.none (pz 3313073)) (pz 3311344)),(.cmp (.attr (.loc 2 (pz 3314280)) 3 (pz 3314285)) .Eq (.str [119,111,114,100] (pz 3316157)) (pz 3314295))] (pz 3311369)) (.attr (.loc 2 (pz 3309322)) 4 (pz 3309328)) (.str [] (pz 3317761)) (pz 3309382)) (pz 3308451)]
noncomputable def fdx32:FnD:={ nm:=["reader","ahead","token"],np:=2,dflt:=[.int 0],body:=bdx32 }
noncomputable def bdx33:List S :=
 [.asN 2 (pz 3343762) (.meth (.loc 0 (pz 3344835)) 11 (pz 3344840) [(.loc 1 (pz 3346442))] (pz 3344847)) (pz 3343783),
  .ifs (.and [(.cmp (.loc 2 (pz 3361853)) .IsNot (.none (pz 3363594)) (pz 3361865)),(.cmp (.attr (.loc 2 (pz 3364801)) 3 (pz 3364806)) .Eq (.str [115,105,103,110] (pz 3366678)) (pz 3364816)),(.cmp (.attr (.loc 2 (pz 3368285)) 4 (pz 3368291)) .In (.glob 9 (pz 3370299)) (pz 3368304))] (pz 3361921)) [.ret (.bool true (pz 3380613)) (pz 3379682)] [] ⟨190,4,191,19⟩,
  .ret (.cmp (.call (.glob 32 (pz 3397771)) [(.loc 0 (pz 3399108)),(.loc 1 (pz 3400179))] (pz 3397786)) .In (.glob 8 (pz 3401532)) (pz 3397808)) (pz 3396877)]
noncomputable def fdx33:FnD:={ nm:=["reader","ahead","token"],np:=2,body:=bdx33 }
noncomputable def bdx34:List S :=
 [.asN 1 (pz 3432207) (.ite (.cmp (.call (.glob 32 (pz 3433953)) [(.loc 0 (pz 3435290))] (pz 3433961)) .Eq (.str [73,83] (pz 3436762)) (pz 3433969)) (.int 1 (pz 3433275)) (.int 0 (pz 3438099)) (pz 3433311)) (pz 3432247),
  .ret (.ite (.cmp (.call (.glob 32 (pz 3452580)) [(.loc 0 (pz 3453917)),(.loc 1 (pz 3454988))] (pz 3452595)) .Eq (.str [78,79,84] (pz 3456328)) (pz 3452604)) (.bin (.loc 1 (pz 3450834)) .Add (.int 1 (pz 3451902)) (pz 3450838)) (.loc 1 (pz 3457802)) (pz 3450886)) (pz 3449955)]
noncomputable def fdx34:FnD:={ nm:=["reader","ahead"],np:=1,body:=bdx34 }
noncomputable def bdx35:List S :=
 [.asN 1 (pz 3485274) (.call (.glob 34 (pz 3486354)) [(.loc 0 (pz 3488223))] (pz 3486362)) (pz 3485298),
  .asN 2 (pz 3502962) (.call (.glob 32 (pz 3503905)) [(.loc 0 (pz 3505242)),(.loc 1 (pz 3506313))] (pz 3503920)) (pz 3502989),
  .ret (.or [(.call (.glob 33 (pz 3521599)) [(.loc 0 (pz 3523601)),(.loc 1 (pz 3524672))] (pz 3521614)),(.cmp (.loc 2 (pz 3526011)) .In (.glob 6 (pz 3527086)) (pz 3526022)),(.cmp (.loc 2 (pz 3528557)) .In (.glob 7 (pz 3529639)) (pz 3528575))] (pz 3521659)) (pz 3520728)]
noncomputable def fdx35:FnD:={ nm:=["reader","ahead","word"],np:=1,body:=bdx35 }
noncomputable def bdx36:List S :=
 [.ret (.call (.glob 33 (pz 3556977)) [(.loc 0 (pz 3558979)),(.call (.glob 34 (pz 3560058)) [(.loc 0 (pz 3561927))] (pz 3560066))] (pz 3557008)) (pz 3556077)]
noncomputable def fdx36:FnD:={ nm:=["reader"],np:=1,body:=bdx36 }
noncomputable def bdx399:List S :=
 [.asA (.loc 0 (pz 3627321)) 6 (pz 3627328) (.loc 1 (pz 3629199)) (pz 3627337),
  .asA (.loc 0 (pz 3645010)) 7 (pz 3645019) (.loc 2 (pz 3647158)) (pz 3645030),
  .asA (.loc 0 (pz 3662699)) 8 (pz 3662705) (.loc 3 (pz 3664442)) (pz 3662713),
  .asA (.loc 0 (pz 3680388)) 9 (pz 3680393) (.none (pz 3681996)) (pz 3680400)]
noncomputable def fdx399:FnD:={ nm:=["self","reader","is_named","depth"],np:=4,body:=bdx399 }
noncomputable def bdx326:List S :=
 [.asN 1 (pz 3733456) (.meth (.loc 0 (pz 3734527)) 27 (pz 3734532) [] (pz 3734534)) (pz 3733470),
  .whl (.meth (.attr (.loc 0 (pz 3751948)) 6 (pz 3751955)) 16 (pz 3751960) [(.str [79,82] (pz 3754226))] (pz 3751966)) [.asN 1 (pz 3769370) (.tup [(.str [111,114] (pz 3770575)),(.loc 1 (pz 3771380)),(.meth (.loc 0 (pz 3772317)) 27 (pz 3772322) [] (pz 3772324))] 0 (pz 3770463)) (pz 3769399)] ⟨212,8,213,46⟩,
  .ret (.loc 1 (pz 3787461)) (pz 3786530)]
noncomputable def fdx326:FnD:={ nm:=["self","found"],np:=1,body:=bdx326 }
noncomputable def bdx327:List S :=
 [.asN 1 (pz 3839590) (.meth (.loc 0 (pz 3840661)) 28 (pz 3840668) [] (pz 3840670)) (pz 3839606),
  .whl (.meth (.attr (.loc 0 (pz 3858082)) 6 (pz 3858089)) 16 (pz 3858094) [(.str [65,78,68] (pz 3860361))] (pz 3858101)) [.asN 1 (pz 3875504) (.tup [(.str [97,110,100] (pz 3876710)),(.loc 1 (pz 3877648)),(.meth (.loc 0 (pz 3878585)) 28 (pz 3878592) [] (pz 3878594))] 0 (pz 3876600)) (pz 3875536)] ⟨218,8,219,49⟩,
  .ret (.loc 1 (pz 3893595)) (pz 3892664)]
noncomputable def fdx327:FnD:={ nm:=["self","found"],np:=1,body:=bdx327 }
noncomputable def bdx328:List S :=
 [.ifs (.and [(.cmp (.call (.glob 32 (pz 3946130)) [(.attr (.loc 0 (pz 3947465)) 6 (pz 3947472))] (pz 3946143)) .Eq (.str [78,79,84] (pz 3949610)) (pz 3946152)),(.not (.call (.glob 36 (pz 3951636)) [(.attr (.loc 0 (pz 3954567)) 6 (pz 3954574))] (pz 3951649)) (pz 3951117))] (pz 3946197)) [.expr (.meth (.attr (.loc 0 (pz 3963948)) 6 (pz 3963955)) 13 (pz 3963960) [] (pz 3963962)) (pz 3963962),
  .ret (.tup [(.str [110,111,116] (pz 3982710)),(.meth (.loc 0 (pz 3983647)) 29 (pz 3983654) [] (pz 3983656))] 0 (pz 3982593)) (pz 3981662)] [] ⟨223,8,225,41⟩,
  .ret (.meth (.loc 0 (pz 3999728)) 29 (pz 3999735) [] (pz 3999737)) (pz 3998806)]
noncomputable def fdx328:FnD:={ nm:=["self"],np:=1,body:=bdx328 }
noncomputable def bdx329:List S :=
 [.ifs (.not (.meth (.attr (.loc 0 (pz 4052795)) 6 (pz 4052802)) 20 (pz 4052810) [(.str [40] (pz 4055474))] (pz 4052815)) (pz 4052283)) [.ret (.meth (.loc 0 (pz 4071020)) 30 (pz 4071032) [] (pz 4071034)) (pz 4070103)] [] ⟨229,8,230,37⟩,
  .asN 1 (pz 4087236) (.attr (.attr (.loc 0 (pz 4088307)) 6 (pz 4088314)) 1 (pz 4088317)) (pz 4087253),
  .try1 [.ret (.meth (.loc 0 (pz 4124087)) 31 (pz 4124099) [] (pz 4124101)) (pz 4123170)] 0 (pz 4141248) 2 (.tp 3 4 2 0 6 1 0 0 [(pz 4161341),(pz 4161348),(pz 4161351),(pz 4158528),(pz 4159464),(pz 4158533),(pz 4160404),(pz 4160288),(pz 4158559)]) ⟨234,8,235,48⟩ ⟨232,8,235,48⟩,
  .asA (.attr (.loc 0 (pz 4175680)) 6 (pz 4175687)) 1 (pz 4175690) (.loc 1 (pz 4177959)) (pz 4175698),
  .try1 [.ret (.meth (.loc 0 (pz 4212532)) 30 (pz 4212544) [] (pz 4212546)) (pz 4211615)] 0 (pz 4229693) 2 (.rs 0 6 1 4 2 3 [(pz 4248982),(pz 4248989),(pz 4248992),(pz 4251393),(pz 4248999),(pz 4247777),(pz 4252601),(pz 4247813),(pz 4247015)]) ⟨239,8,240,59⟩ ⟨237,8,240,59⟩]
noncomputable def fdx329:FnD:={ nm:=["self","start","error","elder","far"],np:=1,body:=bdx329 }
noncomputable def bdx330:List S :=
 [.ifs (.call (.glob 36 (pz 4299922)) [(.attr (.loc 0 (pz 4302853)) 6 (pz 4302860))] (pz 4299935)) [.ret (.meth (.loc 0 (pz 4318666)) 35 (pz 4318675) [(.meth (.loc 0 (pz 4320542)) 32 (pz 4320558) [] (pz 4320560))] (pz 4318699)) (pz 4317768)] [] ⟨243,8,244,56⟩,
  .asN 1 (pz 4334884) (.call (.glob 23 (pz 4336232)) [(.attr (.loc 0 (pz 4338365)) 6 (pz 4338372))] (pz 4336245)) (pz 4334915),
  .ifs (.and [(.cmp (.sub (.loc 1 (pz 4352975)) (.int 0 (pz 4354041)) (pz 4352978)) .Eq (.str [114,101,102] (pz 4354849)) (pz 4352987)),(.meth (.loc 0 (pz 4356188)) 7 (pz 4356197) [(.sub (.loc 1 (pz 4358067)) (.int 1 (pz 4359133)) (pz 4358070)),(.sub (.loc 1 (pz 4359675)) (.int 2 (pz 4360741)) (pz 4359678))] (pz 4356221))] (pz 4353029)) [.asA (.loc 0 (pz 4370795)) 9 (pz 4370800) (.none (pz 4372403)) (pz 4370807),
  .ret (.tup [(.str [110,97,109,101,100] (pz 4389559)),(.loc 1 (pz 4390765))] 0 (pz 4389436)) (pz 4388505)] [] ⟨246,8,248,37⟩,
  .ifs (.call (.glob 35 (pz 4406052)) [(.attr (.loc 0 (pz 4408451)) 6 (pz 4408458))] (pz 4406065)) [.ret (.meth (.loc 0 (pz 4424800)) 34 (pz 4424810) [(.loc 1 (pz 4426813))] (pz 4424819)) (pz 4423888)] [] ⟨249,8,250,42⟩,
  .ret (.tup [(.str [114,101,108] (pz 4442088)),(.meth (.loc 0 (pz 4443025)) 33 (pz 4443038) [] (pz 4443040)),(.meth (.loc 0 (pz 4445839)) 32 (pz 4445855) [] (pz 4445857)),(.loc 1 (pz 4449058))] 0 (pz 4442010)) (pz 4441079)]
noncomputable def fdx330:FnD:={ nm:=["self","subject"],np:=1,body:=bdx330 }
noncomputable def bdx331:List S :=
 [.ifs (.cmp (.attr (.loc 0 (pz 4494484)) 8 (pz 4494490)) .GtE (.glob 12 (pz 4496376)) (pz 4494514)) [.raise (.meth (.attr (.loc 0 (pz 4513111)) 6 (pz 4513118)) 12 (pz 4513124) [(.str [98,114,97,99,107,101,116,115,32,97,114,101,32,110,101,115,116,101,100,32,116,111,111,32,100,101,101,112] (pz 4515549))] (pz 4513156)) (pz 4512358)] [] ⟨254,8,255,67⟩,
  .expr (.meth (.attr (.loc 0 (pz 4529460)) 6 (pz 4529467)) 22 (pz 4529477) [(.str [40] (pz 4532407))] (pz 4529482)) (pz 4529482),
  .asN 1 (pz 4547150) (.meth (.call (.glob 3 (pz 4548232)) [(.attr (.loc 0 (pz 4550365)) 6 (pz 4550372)),(.attr (.loc 0 (pz 4552107)) 7 (pz 4552116)),(.bin (.attr (.loc 0 (pz 4554117)) 8 (pz 4554123)) .Add (.int 1 (pz 4555856)) (pz 4554127))] (pz 4548276)) 26 (pz 4548283) [] (pz 4548285)) (pz 4547221),
  .expr (.meth (.attr (.loc 0 (pz 4564838)) 6 (pz 4564845)) 22 (pz 4564855) [(.str [41] (pz 4567785))] (pz 4564860)) (pz 4564860),
  .asA (.loc 0 (pz 4582527)) 9 (pz 4582532) (.none (pz 4584135)) (pz 4582539),
  .ret (.loc 1 (pz 4601155)) (pz 4600224)]
noncomputable def fdx331:FnD:={ nm:=["self","found"],np:=1,body:=bdx331 }
noncomputable def bdx332:List S :=
 [.ifs (.cmp (.attr (.loc 0 (pz 4653685)) 9 (pz 4653690)) .Is (.none (pz 4655427)) (pz 4653698)) [.raise (.meth (.attr (.loc 0 (pz 4672312)) 6 (pz 4672319)) 12 (pz 4672325) [(.str [97,32,114,101,108,97,116,105,111,110,32,105,115,32,109,105,115,115,105,110,103] (pz 4674743))] (pz 4672350)) (pz 4671552)] [] ⟨263,8,264,60⟩,
  .ret (.sub (.attr (.loc 0 (pz 4689599)) 9 (pz 4689604)) (.int 0 (pz 4690936)) (pz 4689607)) (pz 4688676)]
noncomputable def fdx332:FnD:={ nm:=["self"],np:=1,body:=bdx332 }
noncomputable def bdx333:List S :=
 [.ifs (.cmp (.attr (.loc 0 (pz 4742130)) 9 (pz 4742135)) .Is (.none (pz 4743872)) (pz 4742143)) [.raise (.meth (.attr (.loc 0 (pz 4760757)) 6 (pz 4760764)) 12 (pz 4760770) [(.str [97,32,114,101,108,97,116,105,111,110,32,105,115,32,109,105,115,115,105,110,103] (pz 4763188))] (pz 4760795)) (pz 4759997)] [] ⟨268,8,269,60⟩,
  .ret (.sub (.attr (.loc 0 (pz 4778044)) 9 (pz 4778049)) (.int 1 (pz 4779381)) (pz 4778052)) (pz 4777121)]
noncomputable def fdx333:FnD:={ nm:=["self"],np:=1,body:=bdx333 }
noncomputable def bdx334:List S :=
 [.asN 2 (pz 4830173) (.call (.glob 32 (pz 4831116)) [(.attr (.loc 0 (pz 4832451)) 6 (pz 4832458)),(.call (.glob 34 (pz 4834202)) [(.attr (.loc 0 (pz 4836069)) 6 (pz 4836076))] (pz 4834215))] (pz 4831157)) (pz 4830226),
  .ifs (.and [(.cmp (.loc 2 (pz 4848264)) .NotIn (.glob 6 (pz 4849875)) (pz 4848279)),(.cmp (.loc 2 (pz 4851480)) .NotIn (.glob 7 (pz 4853098)) (pz 4851502))] (pz 4848310)) [.ret (.meth (.loc 0 (pz 4867025)) 35 (pz 4867034) [(.loc 1 (pz 4868904))] (pz 4867043)) (pz 4866112)] [] ⟨274,8,275,41⟩,
  .asA (.loc 0 (pz 4883240)) 9 (pz 4883245) (.none (pz 4884848)) (pz 4883252),
  .expr (.meth (.attr (.loc 0 (pz 4900929)) 6 (pz 4900936)) 16 (pz 4900941) [(.str [73,83] (pz 4903207))] (pz 4900947)) (pz 4900947),
  .asN 3 (pz 4918620) (.meth (.attr (.loc 0 (pz 4919824)) 6 (pz 4919831)) 16 (pz 4919836) [(.str [78,79,84] (pz 4922103))] (pz 4919843)) (pz 4918646),
  .expr (.meth (.attr (.loc 0 (pz 4936307)) 6 (pz 4936314)) 13 (pz 4936319) [] (pz 4936321)) (pz 4936321),
  .ifs (.cmp (.loc 2 (pz 4954398)) .In (.glob 6 (pz 4955473)) (pz 4954409)) [.asN 4 (pz 4972222) (.tup [(.str [99,108,97,115,115] (pz 4973430)),(.loc 2 (pz 4974633)),(.loc 1 (pz 4975440))] 0 (pz 4973313)) (pz 4972249)] [.asN 4 (pz 5007600) (.tup [(.str [115,105,103,110] (pz 5008807)),(.sub (.glob 7 (pz 5009887)) (.loc 2 (pz 5011887)) (pz 5009893)),(.loc 1 (pz 5012828))] 0 (pz 5008706)) (pz 5007642)] ⟨280,8,283,59⟩,
  .ret (.ite (.loc 3 (pz 5028104)) (.tup [(.str [110,111,116] (pz 5025825)),(.loc 4 (pz 5026763))] 0 (pz 5025700)) (.loc 4 (pz 5029711)) (pz 5025721)) (pz 5024790)]
noncomputable def fdx334:FnD:={ nm:=["self","subject","word","is_not","found"],np:=2,body:=bdx334 }
noncomputable def bdx335:List S :=
 [.expr (.meth (.attr (.loc 0 (pz 5077819)) 6 (pz 5077826)) 16 (pz 5077831) [(.str [73,83] (pz 5080097))] (pz 5077837)) (pz 5077837),
  .asN 2 (pz 5095510) (.meth (.attr (.loc 0 (pz 5096714)) 6 (pz 5096721)) 16 (pz 5096726) [(.str [78,79,84] (pz 5098993))] (pz 5096733)) (pz 5095536),
  .asN 3 (pz 5113197) (.meth (.loc 0 (pz 5114135)) 36 (pz 5114145) [] (pz 5114147)) (pz 5113216),
  .asA (.loc 0 (pz 5130886)) 9 (pz 5130891) (.tup [(.loc 1 (pz 5132631)),(.ite (.loc 2 (pz 5136382)) (.sub (.glob 5 (pz 5133839)) (.loc 3 (pz 5135174)) (pz 5133845)) (.loc 3 (pz 5137988)) (pz 5133865))] 0 (pz 5132536)) (pz 5130940),
  .ret (.tup [(.str [114,101,108] (pz 5149648)),(.sub (.attr (.loc 0 (pz 5150585)) 9 (pz 5150590)) (.int 1 (pz 5151922)) (pz 5150593)),(.loc 1 (pz 5152464)),(.call (.glob 23 (pz 5153678)) [(.attr (.loc 0 (pz 5155811)) 6 (pz 5155818))] (pz 5153691))] 0 (pz 5149569)) (pz 5148638)]
noncomputable def fdx335:FnD:={ nm:=["self","subject","is_not","sign"],np:=2,body:=bdx335 }
noncomputable def bdx336:List S :=
 [.asN 1 (pz 5201643) (.meth (.attr (.loc 0 (pz 5202714)) 6 (pz 5202721)) 13 (pz 5202726) [] (pz 5202728)) (pz 5201664),
  .ifs (.cmp (.attr (.loc 1 (pz 5219734)) 3 (pz 5219739)) .Eq (.str [115,105,103,110] (pz 5221611)) (pz 5219749)) [.ret (.attr (.loc 1 (pz 5238495)) 4 (pz 5238501)) (pz 5237570)] [] ⟨295,8,296,30⟩,
  .expr (.meth (.attr (.loc 0 (pz 5254709)) 6 (pz 5254716)) 16 (pz 5254721) [(.ite (.cmp (.attr (.loc 1 (pz 5258060)) 4 (pz 5258066)) .Eq (.str [69,81,85,65,76] (pz 5260072)) (pz 5258077)) (.str [84,79] (pz 5256987)) (.str [84,72,65,78] (pz 5261813)) (pz 5257025))] (pz 5254765)) (pz 5254765),
  .asN 2 (pz 5272398) (.sub (.glob 8 (pz 5273350)) (.attr (.loc 1 (pz 5275883)) 4 (pz 5275889)) (pz 5273363)) (pz 5272432),
  .ifs (.and [(.cmp (.attr (.loc 1 (pz 5290490)) 4 (pz 5290496)) .NotEq (.str [69,81,85,65,76] (pz 5292502)) (pz 5290507)),(.cmp (.call (.glob 32 (pz 5294112)) [(.attr (.loc 0 (pz 5295447)) 6 (pz 5295454))] (pz 5294125)) .Eq (.str [79,82] (pz 5297591)) (pz 5294133)),(.cmp (.call (.glob 32 (pz 5298936)) [(.attr (.loc 0 (pz 5300271)) 6 (pz 5300278)),(.int 1 (pz 5302010))] (pz 5298952)) .Eq (.str [69,81,85,65,76] (pz 5302820)) (pz 5298963))] (pz 5290585)) [.expr (.meth (.attr (.loc 0 (pz 5308312)) 6 (pz 5308319)) 13 (pz 5308324) [] (pz 5308326)) (pz 5308326),
  .expr (.meth (.attr (.loc 0 (pz 5326001)) 6 (pz 5326008)) 13 (pz 5326013) [] (pz 5326015)) (pz 5326015),
  .expr (.meth (.attr (.loc 0 (pz 5343690)) 6 (pz 5343697)) 16 (pz 5343702) [(.str [84,79] (pz 5345968))] (pz 5343708)) (pz 5343708),
  .ret (.bin (.loc 2 (pz 5362317)) .Add (.str [61] (pz 5363254)) (pz 5362323)) (pz 5361392)] [] ⟨299,8,303,29⟩,
  .ret (.loc 2 (pz 5379470)) (pz 5378539)]
noncomputable def fdx336:FnD:={ nm:=["self","token","sign"],np:=1,body:=bdx336 }
noncomputable def bdx37:List S :=
 [.ifs (.cmp (.loc 1 (pz 5413780)) .Is (.none (pz 5415384)) (pz 5413788)) [.ret (.meth (.call (.glob 3 (pz 5432548)) [(.loc 0 (pz 5434683)),(.lam 1 (pz 5435794)),(.int 0 (pz 5442048))] (pz 5432606)) 26 (pz 5432613) [] (pz 5432615)) (pz 5431684)] [] ⟨306,4,307,97⟩,
  .ret (.meth (.call (.glob 3 (pz 5449701)) [(.loc 0 (pz 5451836)),(.loc 1 (pz 5452910)),(.int 0 (pz 5454243))] (pz 5449722)) 26 (pz 5449729) [] (pz 5449731)) (pz 5448800)]
noncomputable def fdx37:FnD:={ nm:=["reader","is_named"],np:=2,dflt:=[.none],body:=bdx37 }
noncomputable def bdx38:List S :=
 [.ret (.cmp (.bin (.bin (.str [32] (pz 5538134)) .Add (.loc 0 (pz 5538939)) (pz 5538141)) .Add (.str [32] (pz 5539876)) (pz 5538147)) .In (.glob 10 (pz 5540819)) (pz 5538159)) (pz 5537228)]
noncomputable def fdx38:FnD:={ nm:=["word"],np:=1,body:=bdx38 }
noncomputable def bdx299:List S :=
 [.asA (.loc 0 (pz 5696934)) 0 (pz 5696941) (.loc 1 (pz 5698812)) (pz 5696950),
  .asA (.loc 0 (pz 5714623)) 1 (pz 5714626) (.loc 2 (pz 5715961)) (pz 5714631),
  .asA (.loc 0 (pz 5732312)) 2 (pz 5732318) (.dct [] [] (pz 5734052)) (pz 5732323)]
noncomputable def fdx299:FnD:={ nm:=["self","tokens","at"],np:=3,dflt:=[.int 0],body:=bdx299 }
noncomputable def bdx211:List S :=
 [.ifs (.cmp (.bin (.attr (.loc 0 (pz 5785781)) 1 (pz 5785784)) .Add (.loc 1 (pz 5787122)) (pz 5785792)) .Lt (.bcall 0 (pz 5788192) [(.attr (.loc 0 (pz 5788729)) 0 (pz 5788736))] (pz 5788205)) (pz 5785811)) [.ret (.sub (.attr (.loc 0 (pz 5804542)) 0 (pz 5804549)) (.bin (.attr (.loc 0 (pz 5806150)) 1 (pz 5806153)) .Add (.loc 1 (pz 5807491)) (pz 5806161)) (pz 5804566)) (pz 5803635)] [] ⟨327,8,328,47⟩,
  .ret (.none (pz 5821695)) (pz 5820764)]
noncomputable def fdx211:FnD:={ nm:=["self","ahead"],np:=2,dflt:=[.int 0],body:=bdx211 }
noncomputable def bdx212:List S :=
 [.ifs (.not (.attr (.loc 0 (pz 5927829)) 0 (pz 5927836)) (pz 5927304)) [.ret (.call (.glob 0 (pz 5946062)) [(.loc 1 (pz 5947796)),(.tup [(.int 0 (pz 5948731)),(.int 0 (pz 5949133))] 0 (pz 5948602))] (pz 5946076)) (pz 5945145)] [] ⟨335,8,336,45⟩,
  .ret (.call (.glob 0 (pz 5963215)) [(.loc 1 (pz 5964949)),(.attr (.sub (.attr (.loc 0 (pz 5965753)) 0 (pz 5965760)) (.bcall 3 (pz 5967360) [(.attr (.loc 0 (pz 5967897)) 1 (pz 5967900)),(.bin (.bcall 0 (pz 5969102) [(.attr (.loc 0 (pz 5969639)) 0 (pz 5969646))] (pz 5969115)) .Sub (.int 1 (pz 5971646)) (pz 5969119))] (pz 5967391)) (pz 5965796)) 1 (pz 5965799))] (pz 5963273)) (pz 5962342)]
noncomputable def fdx212:FnD:={ nm:=["self","what"],np:=2,body:=bdx212 }
noncomputable def bdx213:List S :=
 [.asN 1 (pz 6015337) (.meth (.loc 0 (pz 6016408)) 11 (pz 6016413) [] (pz 6016415)) (pz 6015351),
  .ifs (.cmp (.loc 1 (pz 6033428)) .Is (.none (pz 6034633)) (pz 6033436)) [.raise (.meth (.loc 0 (pz 6052054)) 12 (pz 6052060) [(.str [116,104,101,32,116,101,120,116,32,101,110,100,115,32,116,111,111,32,101,97,114,108,121] (pz 6053549))] (pz 6052087)) (pz 6051289)] [] ⟨341,8,342,55⟩,
  .asA (.loc 0 (pz 6068403)) 1 (pz 6068406) (.bin (.attr (.loc 0 (pz 6069743)) 1 (pz 6069746)) .Add (.int 1 (pz 6071080)) (pz 6069750)) (pz 6068420),
  .ret (.loc 1 (pz 6087031)) (pz 6086100)]
noncomputable def fdx213:FnD:={ nm:=["self","token"],np:=1,body:=bdx213 }
noncomputable def bdx214:List S :=
 [.asN 3 (pz 6139160) (.meth (.loc 0 (pz 6140231)) 11 (pz 6140236) [(.loc 2 (pz 6141572))] (pz 6140243)) (pz 6139179),
  .ret (.and [(.cmp (.loc 3 (pz 6157787)) .IsNot (.none (pz 6159528)) (pz 6157799)),(.cmp (.attr (.loc 3 (pz 6160735)) 3 (pz 6160740)) .Eq (.loc 1 (pz 6162610)) (pz 6160748))] (pz 6157822)) (pz 6156891)]
noncomputable def fdx214:FnD:={ nm:=["self","kind","ahead","token"],np:=3,dflt:=[.int 0],body:=bdx214 }
noncomputable def bdx215:List S :=
 [.asN 2 (pz 6209916) (.int 0 (pz 6210984)) (pz 6209920),
  .forN 3 (pz 6228140) (.meth (.loc 1 (pz 6229213)) 37 (pz 6229219) [(.str [32] (pz 6230819))] (pz 6229224)) [.ifs (.or [(.not (.meth (.loc 0 (pz 6246767)) 14 (pz 6246775) [(.str [119,111,114,100] (pz 6248511)),(.loc 2 (pz 6249582))] (pz 6246790)) (pz 6246258)),(.cmp (.attr (.meth (.loc 0 (pz 6250921)) 11 (pz 6250926) [(.loc 2 (pz 6252262))] (pz 6250933)) 4 (pz 6250939)) .NotEq (.loc 3 (pz 6254405)) (pz 6250947))] (pz 6246292)) [.ret (.bool false (pz 6264993)) (pz 6264062)] [] ⟨353,12,354,28⟩,
  .asN 2 (pz 6281208) (.bin (.loc 2 (pz 6282280)) .Add (.int 1 (pz 6283348)) (pz 6282284)) (pz 6281220)] ⟨352,8,355,29⟩,
  .ret (.bool true (pz 6299298)) (pz 6298367)]
noncomputable def fdx215:FnD:={ nm:=["self","words","ahead","word"],np:=2,body:=bdx215 }
noncomputable def bdx216:List S :=
 [.ifs (.not (.meth (.loc 0 (pz 6352365)) 15 (pz 6352373) [(.loc 1 (pz 6354108))] (pz 6352380)) (pz 6351848)) [.ret (.bool false (pz 6370591)) (pz 6369660)] [] ⟨359,8,360,24⟩,
  .asA (.loc 0 (pz 6386805)) 1 (pz 6386808) (.bin (.attr (.loc 0 (pz 6388145)) 1 (pz 6388148)) .Add (.bcall 0 (pz 6389484) [(.meth (.loc 1 (pz 6390022)) 37 (pz 6390028) [(.str [32] (pz 6391628))] (pz 6390033))] (pz 6389502)) (pz 6388172)) (pz 6386842),
  .ret (.bool true (pz 6405432)) (pz 6404501)]
noncomputable def fdx216:FnD:={ nm:=["self","words"],np:=2,body:=bdx216 }
noncomputable def bdx217:List S :=
 [.forN 2 (pz 6511164) (.meth (.loc 1 (pz 6512237)) 37 (pz 6512243) [(.str [32] (pz 6513843))] (pz 6512248)) [.ifs (.meth (.loc 0 (pz 6529255)) 16 (pz 6529260) [(.loc 2 (pz 6530595))] (pz 6529266)) [.ret (.loc 2 (pz 6548016)) (pz 6547085)] [] ⟨369,12,370,27⟩] ⟨368,8,370,27⟩,
  .ret (.str [] (pz 6564631)) (pz 6563700)]
noncomputable def fdx217:FnD:={ nm:=["self","words","word"],np:=2,body:=bdx217 }
noncomputable def bdx218:List S :=
 [.ret (.and [(.meth (.loc 0 (pz 6706145)) 14 (pz 6706153) [(.str [119,111,114,100] (pz 6707889)),(.loc 1 (pz 6708960))] (pz 6706168)),(.not (.call (.glob 38 (pz 6711110)) [(.attr (.meth (.loc 0 (pz 6712711)) 11 (pz 6712716) [(.loc 1 (pz 6714052))] (pz 6712723)) 4 (pz 6712729))] (pz 6711134)) (pz 6710602))] (pz 6706214)) (pz 6705283)]
noncomputable def fdx218:FnD:={ nm:=["self","ahead"],np:=2,dflt:=[.int 0],body:=bdx218 }
noncomputable def bdx219:List S :=
 [.ifs (.not (.meth (.loc 0 (pz 6759212)) 18 (pz 6759220) [] (pz 6759222)) (pz 6758690)) [.raise (.meth (.loc 0 (pz 6777303)) 12 (pz 6777309) [(.str [97,32,110,97,109,101,32,105,115,32,97,115,107,101,100,32,104,101,114,101] (pz 6778795))] (pz 6777333)) (pz 6776535)] [] ⟨382,8,383,52⟩,
  .ret (.attr (.meth (.loc 0 (pz 6794590)) 13 (pz 6794595) [] (pz 6794597)) 4 (pz 6794603)) (pz 6793672)]
noncomputable def fdx219:FnD:={ nm:=["self"],np:=1,body:=bdx219 }
noncomputable def bdx220:List S :=
 [.ret (.and [(.meth (.loc 0 (pz 6953791)) 14 (pz 6953799) [(.str [115,105,103,110] (pz 6955535)),(.loc 2 (pz 6956606))] (pz 6953814)),(.cmp (.attr (.meth (.loc 0 (pz 6958079)) 11 (pz 6958084) [(.loc 2 (pz 6959420))] (pz 6958091)) 4 (pz 6958097)) .Eq (.loc 1 (pz 6961563)) (pz 6958105))] (pz 6953849)) (pz 6952918)]
noncomputable def fdx220:FnD:={ nm:=["self","sign","ahead"],np:=3,dflt:=[.int 0],body:=bdx220 }
noncomputable def bdx221:List S :=
 [.ifs (.not (.meth (.loc 0 (pz 7006858)) 20 (pz 7006866) [(.loc 1 (pz 7008600))] (pz 7006872)) (pz 7006340)) [.ret (.bool false (pz 7025084)) (pz 7024153)] [] ⟨396,8,397,24⟩,
  .asA (.loc 0 (pz 7041298)) 1 (pz 7041301) (.bin (.attr (.loc 0 (pz 7042638)) 1 (pz 7042641)) .Add (.int 1 (pz 7043975)) (pz 7042645)) (pz 7041315),
  .ret (.bool true (pz 7059925)) (pz 7058994)]
noncomputable def fdx221:FnD:={ nm:=["self","sign"],np:=2,body:=bdx221 }
noncomputable def bdx222:List S :=
 [.ifs (.not (.meth (.loc 0 (pz 7112992)) 21 (pz 7113002) [(.loc 1 (pz 7115002))] (pz 7113008)) (pz 7112476)) [.raise (.meth (.loc 0 (pz 7131083)) 12 (pz 7131089) [(.bin (.loc 1 (pz 7132557)) .Add (.str [32,105,115,32,97,115,107,101,100,32,104,101,114,101] (pz 7133507)) (pz 7132576))] (pz 7131114)) (pz 7130316)] [] ⟨402,8,403,53⟩]
noncomputable def fdx222:FnD:={ nm:=["self","sign"],np:=2,body:=bdx222 }
noncomputable def bdx223:List S :=
 [.ifs (.or [(.meth (.loc 0 (pz 7183212)) 20 (pz 7183220) [(.str [43] (pz 7184953))] (pz 7183225)),(.meth (.loc 0 (pz 7186026)) 20 (pz 7186034) [(.str [45] (pz 7187767))] (pz 7186039))] (pz 7183246)) [.ret (.meth (.loc 0 (pz 7201973)) 14 (pz 7201981) [(.str [110,117,109,98,101,114] (pz 7203719)),(.int 1 (pz 7205052))] (pz 7201994)) (pz 7201063)] [] ⟨406,8,407,44⟩,
  .ret (.meth (.loc 0 (pz 7219126)) 14 (pz 7219134) [(.str [110,117,109,98,101,114] (pz 7220872))] (pz 7219144)) (pz 7218213)]
noncomputable def fdx223:FnD:={ nm:=["self"],np:=1,body:=bdx223 }
noncomputable def bdx199:List S :=
 [.asA (.loc 0 (pz 7872681)) 3 (pz 7872686) (.loc 1 (pz 7874289)) (pz 7872693),
  .asA (.loc 0 (pz 7890370)) 4 (pz 7890376) (.loc 2 (pz 7892113)) (pz 7890384),
  .asA (.loc 0 (pz 7908059)) 1 (pz 7908062) (.loc 3 (pz 7909397)) (pz 7908067),
  .asA (.loc 0 (pz 7925748)) 5 (pz 7925756) (.loc 4 (pz 7927761)) (pz 7925766)]
noncomputable def fdx199:FnD:={ nm:=["self","kind","worth","at","is_in_a"],np:=5,dflt:=[.tup [.int 0,.int 0],.bool false],body:=bdx199 }
noncomputable def bdx39:List S :=
 [.ret (.dct [(.str [61] (pz 8050106)),(.str [60] (pz 8051580)),(.str [62] (pz 8053054)),(.str [60,61] (pz 8054529)),(.str [62,61] (pz 8056003))] [(.str [60,62] (pz 8050777)),(.str [62,61] (pz 8052251)),(.str [60,61] (pz 8053725)),(.str [62] (pz 8055332)),(.str [60] (pz 8056806))] (pz 8050024)) (pz 8049093)]
noncomputable def fdx39:FnD:={ nm:=[],np:=0,body:=bdx39 }
noncomputable def bdx40:List S :=
 [.ifs (.cmp (.sub (.loc 0 (pz 8084814)) (.int 2 (pz 8085348)) (pz 8084817)) .Gt (.int 0 (pz 8086018)) (pz 8084821)) [.asN 2 (pz 8102639) (.bin (.sub (.loc 0 (pz 8103709)) (.int 2 (pz 8104243)) (pz 8103712)) .Mod (.loc 1 (pz 8104916)) (pz 8103719)) (pz 8102655),
  .asI (.loc 0 (pz 8120326)) (.int 2 (pz 8120860)) (pz 8120329) (.bin (.sub (.loc 0 (pz 8121532)) (.int 2 (pz 8122066)) (pz 8121535)) .FloorDiv (.loc 1 (pz 8122873)) (pz 8121543)) (pz 8120346),
  .ret (.loc 2 (pz 8138955)) (pz 8138024)] [] ⟨457,4,460,20⟩,
  .asN 3 (pz 8155169) (.sub (.loc 0 (pz 8156106)) (.int 1 (pz 8156640)) (pz 8156109)) (pz 8155178),
  .asI (.loc 0 (pz 8172857)) (.int 1 (pz 8173391)) (pz 8172860) (.bin (.loc 3 (pz 8174064)) .Add (.int 1 (pz 8174999)) (pz 8174068)) (pz 8172871),
  .ifs (.cmp (.loc 3 (pz 8190949)) .GtE (.bcall 0 (pz 8192020) [(.sub (.loc 0 (pz 8192556)) (.int 0 (pz 8193090)) (pz 8192559))] (pz 8192028)) (pz 8190964)) [.ret (.bin (.bin (.bin (.bin (.bin (.sub (.loc 0 (pz 8209843)) (.int 3 (pz 8210377)) (pz 8209846)) .Add (.int 5 (pz 8211047)) (pz 8209850)) .Mult (.bin (.loc 3 (pz 8211854)) .Add (.int 3 (pz 8212789)) (pz 8211858)) (pz 8209731)) .Mult (.bin (.loc 3 (pz 8213596)) .Add (.int 11 (pz 8214532)) (pz 8213601)) (pz 8209745)) .FloorDiv (.int 7 (pz 8215469)) (pz 8209750)) .Mod (.loc 1 (pz 8216008)) (pz 8209757)) (pz 8208826)] [] ⟨463,4,464,66⟩,
  .asN 4 (pz 8225925) (.sub (.sub (.loc 0 (pz 8226862)) (.int 0 (pz 8227396)) (pz 8226865)) (.loc 3 (pz 8227801)) (pz 8226871)) (pz 8225940),
  .ifs (.cmp (.bcall 1 (pz 8244015) [(.loc 4 (pz 8244552))] (pz 8244021)) .Lt (.bin (.int 10 (pz 8245622)) .Pow (.int 18 (pz 8246426)) (pz 8245628)) (pz 8244032)) [.ret (.bin (.loc 4 (pz 8262777)) .Mod (.loc 1 (pz 8263715)) (pz 8262784)) (pz 8261853)] [] ⟨466,4,467,26⟩,
  .asN 5 (pz 8278993) (.bin (.bin (.int 2 (pz 8280061)) .Mult (.bin (.bcall 1 (pz 8280733) [(.loc 4 (pz 8281270))] (pz 8280739)) .Sub (.bin (.int 10 (pz 8282340)) .Pow (.int 18 (pz 8283144)) (pz 8282346)) (pz 8280750)) (pz 8280086)) .Add (.ite (.cmp (.loc 4 (pz 8284754)) .Lt (.int 0 (pz 8285689)) (pz 8284758)) (.int 1 (pz 8284081)) (.int 0 (pz 8286627)) (pz 8284100)) (pz 8280111)) (pz 8279047),
  .asI (.loc 0 (pz 8296680)) (.int 2 (pz 8297214)) (pz 8296683) (.bin (.loc 5 (pz 8297888)) .FloorDiv (.loc 1 (pz 8299093)) (pz 8297896)) (pz 8296699),
  .ret (.bin (.loc 5 (pz 8315309)) .Mod (.loc 1 (pz 8316380)) (pz 8315316)) (pz 8314385)]
noncomputable def fdx40:FnD:={ nm:=["pen","many","digit","spot","cell","great"],np:=2,body:=bdx40 }
noncomputable def bdx41:List S :=
 [.ret (.lst [(.bcall 4 (pz 8350820) [(.slc (.loc 0 (pz 8351492)) none (some (.int 63 (pz 8352560))) (pz 8352427) (pz 8351497))] (pz 8350833)),(.int 0 (pz 8353363)),(.int 0 (pz 8353765)),(.bin (.bcall 1 (pz 8354169) [(.bcall 2 (pz 8354705) [(.slc (.loc 0 (pz 8355244)) none (some (.int 63 (pz 8356312))) (pz 8356179) (pz 8355249))] (pz 8354718))] (pz 8354187)) .Mod (.int 1009 (pz 8357386)) (pz 8354194))] (pz 8350737)) (pz 8349806)]
noncomputable def fdx41:FnD:={ nm:=["script"],np:=1,body:=bdx41 }
noncomputable def bdx42:List S :=
 [.asN 1 (pz 8385128) (.lst [] (pz 8386330)) (pz 8385133),
  .forT [(2,(pz 8403349)),(3,(pz 8403887))] 0 (pz 8403355) (.bcall 6 (pz 8404964) [(.loc 0 (pz 8406300))] (pz 8404971)) [.asN 4 (pz 8421040) (.ite (.cmp2 (.str [65] (pz 8423317)) .LtE (.sub (.loc 3 (pz 8424256)) (.int 0 (pz 8424923)) (pz 8424259)) .LtE (.str [90] (pz 8425729)) (pz 8423335)) (.str [119,111,114,100] (pz 8421980)) (.ite (.cmp (.sub (.loc 3 (pz 8428544)) (.int 0 (pz 8429211)) (pz 8428547)) .In (.str [48,49,50,51,52,53,54,55,56,57] (pz 8430026)) (pz 8428563)) (.str [110,117,109,98,101,114] (pz 8426940)) (.ite (.cmp (.sub (.loc 3 (pz 8434172)) (.int 0 (pz 8434839)) (pz 8434175)) .Eq (.str [39] (pz 8435645)) (pz 8434182)) (.str [108,105,116,101,114,97,108] (pz 8432435)) (.str [115,105,103,110] (pz 8436854)) (pz 8432465)) (pz 8427012)) (pz 8422091)) (pz 8421160),
  .expr (.meth (.loc 1 (pz 8438731)) 39 (pz 8438738) [(.call (.glob 1 (pz 8440606)) [(.loc 4 (pz 8441409)),(.ite (.cmp (.loc 4 (pz 8444089)) .Eq (.str [108,105,116,101,114,97,108] (pz 8445166)) (pz 8444102)) (.slc (.loc 3 (pz 8442213)) (some (.int 1 (pz 8442880))) (some (.neg (.int 1 (pz 8443282)) (pz 8443149))) (pz 8442883) (pz 8442219)) (.loc 3 (pz 8447171)) (pz 8442250)),(.tup [(.int 1 (pz 8448106)),(.bin (.loc 2 (pz 8448509)) .Add (.int 1 (pz 8449178)) (pz 8448513))] 0 (pz 8447982))] (pz 8440668))] (pz 8438807)) (pz 8438807)] ⟨475,4,477,90⟩,
  .ret (.call (.glob 2 (pz 8456822)) [(.loc 1 (pz 8457760))] (pz 8456830)) (pz 8455899)]
noncomputable def fdx42:FnD:={ nm:=["words","tokens","at","word","kind"],np:=1,body:=bdx42 }
noncomputable def bdx43:List S :=
 [.ret (.tup [(.str [114,101,102] (pz 8492333)),(.loc 0 (pz 8493270)),(.tup [] 0 (pz 8494072)),(.tup [] 0 (pz 8494608)),(.none (pz 8495146))] 0 (pz 8492221)) (pz 8491290)]
noncomputable def fdx43:FnD:={ nm:=["name"],np:=1,body:=bdx43 }
noncomputable def bdx46:List S :=
 [.asT [(3,(pz 8526637)),(4,(pz 8527309))] 0 (pz 8526644) (.tup [(.call (.glob 40 (pz 8528519)) [(.loc 0 (pz 8529853)),(.ite (.cmp (.loc 2 (pz 8531194)) .Gt (.int 0 (pz 8532129)) (pz 8531198)) (.int 7 (pz 8530521)) (.int 6 (pz 8533067)) (pz 8530540))] (pz 8528546)),(.lstF [] (pz 8533604))] 0 (pz 8528418)) (pz 8526689),
  .asN 5 (pz 8544329) (.cmp (.call (.glob 40 (pz 8545538)) [(.loc 0 (pz 8546872)),(.int 3 (pz 8547540))] (pz 8545546)) .Eq (.int 1 (pz 8548344)) (pz 8545551)) (pz 8544354),
  .ifs (.cmp (.loc 3 (pz 8562417)) .Eq (.int 3 (pz 8563353)) (pz 8562422)) [.asT [(6,(pz 8580242)),(4,(pz 8581180)),(1,(pz 8582117))] 0 (pz 8580255) (.tup [(.tup [(.str [99,108,97,115,115] (pz 8583326)),(.str [78,85,77,69,82,73,67] (pz 8584534)),(.call (.glob 43 (pz 8586007)) [(.str [65] (pz 8587208))] (pz 8586012))] 0 (pz 8583220)),(.lstF [(.str [65] (pz 8588280)),(.str [73,83] (pz 8588951)),(.str [78,85,77,69,82,73,67] (pz 8589760))] (pz 8588165)),(.none (pz 8591363))] 0 (pz 8583118)) (pz 8580325)] [.ifs (.cmp (.loc 3 (pz 8598063)) .Eq (.int 4 (pz 8598999)) (pz 8598068)) [.asT [(6,(pz 8615620)),(4,(pz 8616558)),(1,(pz 8617495))] 0 (pz 8615633) (.tup [(.tup [(.str [110,97,109,101,100] (pz 8618704)),(.call (.glob 43 (pz 8619911)) [(.str [70,88] (pz 8621113))] (pz 8619917))] 0 (pz 8618588)),(.lstF [(.str [70,88] (pz 8622319))] (pz 8622187)),(.none (pz 8623257))] 0 (pz 8618470)) (pz 8615677)] [.ifs (.cmp (.loc 3 (pz 8633441)) .Eq (.int 6 (pz 8634377)) (pz 8633446)) [.asT [(7,(pz 8650998)),(6,(pz 8651936))] 0 (pz 8651005) (.call (.glob 47 (pz 8653011)) [(.loc 0 (pz 8654212)),(.bin (.loc 2 (pz 8654883)) .Sub (.int 1 (pz 8655818)) (pz 8654887))] (pz 8653026)) (pz 8651031),
  .asN 4 (pz 8668687) (.bin (.bin (.lstF [(.str [40] (pz 8669891))] (pz 8669759)) .Add (.loc 7 (pz 8670831)) (pz 8669767)) .Add (.lstF [(.str [41] (pz 8672035))] (pz 8671903)) (pz 8669775)) (pz 8668711),
  .ifs (.and [(.cmp (.bcall 0 (pz 8686776) [(.loc 7 (pz 8687314))] (pz 8686783)) .Eq (.int 1 (pz 8688650)) (pz 8686788)),(.cmp (.loc 7 (pz 8689458)) .NotEq (.lstF [(.str [70,88] (pz 8690797))] (pz 8690665)) (pz 8689468))] (pz 8686808)) [.asN 6 (pz 8704601) (.ite (.cmp (.loc 1 (pz 8706744)) .Is (.none (pz 8707816)) (pz 8706752)) (.none (pz 8705672)) (.tup [(.str [114,101,108] (pz 8709291)),(.sub (.loc 1 (pz 8710228)) (.int 1 (pz 8710895)) (pz 8710231)),(.sub (.loc 1 (pz 8711434)) (.int 0 (pz 8712101)) (pz 8711437)),(.call (.glob 43 (pz 8712644)) [(.sub (.loc 7 (pz 8713847)) (.int 0 (pz 8714647)) (pz 8713850))] (pz 8712654))] 0 (pz 8709197)) (pz 8705739)) (pz 8704675)] [.asN 1 (pz 8739978) (.none (pz 8740916)) (pz 8739985)] ⟨491,8,494,23⟩] [.asT [(8,(pz 8774820)),(9,(pz 8775625))] 0 (pz 8774827) (.tup [(.sub (.str [65,66,67] (pz 8776831)) (.call (.glob 40 (pz 8777639)) [(.loc 0 (pz 8778973)),(.int 3 (pz 8779641))] (pz 8777647)) (pz 8776850)),(.sub (.str [68,69,71] (pz 8780315)) (.call (.glob 40 (pz 8781123)) [(.loc 0 (pz 8782457)),(.int 3 (pz 8783125))] (pz 8781131)) (pz 8780334))] 0 (pz 8776744)) (pz 8774882),
  .asT [(10,(pz 8792509)),(11,(pz 8793315))] 0 (pz 8792517) (.tup [(.sub (.glob 15 (pz 8794659)) (.call (.glob 40 (pz 8796132)) [(.loc 0 (pz 8797466)),(.int 5 (pz 8798134))] (pz 8796140)) (pz 8794678)),(.cmp (.call (.glob 40 (pz 8798812)) [(.loc 0 (pz 8800146)),(.int 3 (pz 8800814))] (pz 8798820)) .Eq (.int 1 (pz 8801618)) (pz 8798825))] 0 (pz 8794570)) (pz 8792575),
  .asN 12 (pz 8810203) (.ite (.loc 11 (pz 8814890)) (.sub (.call (.glob 39 (pz 8811813)) [] (pz 8811815)) (.loc 10 (pz 8813682)) (pz 8811821)) (.loc 10 (pz 8816496)) (pz 8811841)) (pz 8810245),
  .ifs (.cmp (.loc 3 (pz 8828288)) .Eq (.int 2 (pz 8829224)) (pz 8828293)) [.asN 4 (pz 8846113) (.lstF [(.loc 9 (pz 8847319))] (pz 8847187)) (pz 8846123),
  .asN 6 (pz 8863802) (.ite (.cmp (.loc 1 (pz 8865945)) .Is (.none (pz 8867017)) (pz 8865953)) (.none (pz 8864873)) (.tup [(.str [114,101,108] (pz 8868492)),(.sub (.loc 1 (pz 8869429)) (.int 1 (pz 8870096)) (pz 8869432)),(.sub (.loc 1 (pz 8870635)) (.int 0 (pz 8871302)) (pz 8870638)),(.call (.glob 43 (pz 8871845)) [(.loc 9 (pz 8873048))] (pz 8871852))] 0 (pz 8868395)) (pz 8864937)) (pz 8863873)] [.ifs (.cmp (.loc 3 (pz 8881623)) .Eq (.int 1 (pz 8882559)) (pz 8881628)) [.asN 5 (pz 8899181) (.bool false (pz 8900386)) (pz 8899189),
  .asN 4 (pz 8916869) (.bin (.ite (.loc 11 (pz 8919550)) (.lstF [(.str [78,79,84] (pz 8918209))] (pz 8918077)) (.lstF [] (pz 8921154)) (pz 8918095)) .Add (.lstF [(.loc 10 (pz 8922094)),(.loc 9 (pz 8922899))] (pz 8921969)) (pz 8917979)) (pz 8916915),
  .asN 6 (pz 8934558) (.ite (.cmp (.loc 1 (pz 8936701)) .Is (.none (pz 8937773)) (pz 8936709)) (.none (pz 8935629)) (.tup [(.str [114,101,108] (pz 8939248)),(.loc 12 (pz 8940190)),(.sub (.loc 1 (pz 8941659)) (.int 0 (pz 8942326)) (pz 8941662)),(.call (.glob 43 (pz 8942869)) [(.loc 9 (pz 8944072))] (pz 8942876))] 0 (pz 8939153)) (pz 8935695)) (pz 8934631),
  .asN 1 (pz 8952246) (.ite (.cmp (.loc 1 (pz 8954256)) .Is (.none (pz 8955328)) (pz 8954264)) (.none (pz 8953184)) (.tup [(.sub (.loc 1 (pz 8956802)) (.int 0 (pz 8957469)) (pz 8956805)),(.loc 12 (pz 8958013))] 0 (pz 8956684)) (pz 8953226)) (pz 8952295)] [.asN 4 (pz 8987625) (.bin (.bin (.bin (.lstF [(.loc 8 (pz 8988830))] (pz 8988698)) .Add (.ite (.cmp (.loc 3 (pz 8991375)) .Eq (.int 5 (pz 8992311)) (pz 8991380)) (.lstF [(.str [73,83] (pz 8990170))] (pz 8990038)) (.lstF [] (pz 8993250)) (pz 8990058)) (pz 8988729)) .Add (.ite (.loc 11 (pz 8995666)) (.lstF [(.str [78,79,84] (pz 8994325))] (pz 8994193)) (.lstF [] (pz 8997270)) (pz 8994211)) (pz 8988759)) .Add (.lstF [(.loc 10 (pz 8998210)),(.loc 9 (pz 8999015))] (pz 8998085)) (pz 8988775)) (pz 8987711),
  .asT [(6,(pz 9005314)),(1,(pz 9006251))] 0 (pz 9005320) (.tup [(.tup [(.str [114,101,108] (pz 9007458)),(.loc 12 (pz 9008400)),(.call (.glob 43 (pz 9009873)) [(.loc 8 (pz 9011075))] (pz 9009879)),(.call (.glob 43 (pz 9012017)) [(.loc 9 (pz 9013220))] (pz 9012024))] 0 (pz 9007370)),(.tup [(.call (.glob 43 (pz 9014563)) [(.loc 8 (pz 9015765))] (pz 9014569)),(.loc 12 (pz 9016708))] 0 (pz 9014448))] 0 (pz 9007267)) (pz 9005405)] ⟨502,8,509,108⟩] ⟨499,8,509,108⟩] ⟨488,4,509,108⟩] ⟨486,4,509,108⟩] ⟨484,4,509,108⟩,
  .ifs (.loc 5 (pz 9022334)) [.ret (.tup [(.bin (.lstF [(.str [78,79,84] (pz 9041362))] (pz 9041230)) .Add (.loc 4 (pz 9042568)) (pz 9041238)),(.ite (.cmp (.loc 6 (pz 9044578)) .Is (.none (pz 9045783)) (pz 9044586)) (.none (pz 9043505)) (.tup [(.str [110,111,116] (pz 9047258)),(.loc 6 (pz 9048196))] 0 (pz 9047133)) (pz 9043542)),(.loc 1 (pz 9049267))] 0 (pz 9041155)) (pz 9040224)] [] ⟨510,4,511,81⟩,
  .ret (.tup [(.loc 4 (pz 9058381)),(.loc 6 (pz 9059319)),(.loc 1 (pz 9060256))] 0 (pz 9058262)) (pz 9057331)]
noncomputable def fdx46:FnD:={ nm:=["pen","last","deep","way","words","is_not","found","inner","name","other","sign","is_own","told_sign"],np:=3,body:=bdx46 }
noncomputable def bdx47:List S :=
 [.asT [(2,(pz 9092687)),(3,(pz 9093625)),(4,(pz 9094562))] 0 (pz 9092700) (.call (.glob 46 (pz 9095505)) [(.loc 0 (pz 9096839)),(.none (pz 9097510)),(.loc 1 (pz 9098314))] (pz 9095522)) (pz 9092729),
  .asN 5 (pz 9110375) (.lst [(.lst [(.loc 3 (pz 9111582))] (pz 9111450))] (pz 9111318)) (pz 9110387),
  .forR 6 (pz 9128600) (pz 9129673) (pz 9129711) (.call (.glob 40 (pz 9130481)) [(.loc 0 (pz 9131815)),(.ite (.cmp (.loc 1 (pz 9133156)) .Gt (.int 0 (pz 9134091)) (pz 9133160)) (.int 5 (pz 9132483)) (.int 3 (pz 9135029)) (pz 9132502))] (pz 9130508)) [.asN 7 (pz 9146290) (.cmp (.call (.glob 40 (pz 9147366)) [(.loc 0 (pz 9148700)),(.int 2 (pz 9149368))] (pz 9147374)) .Eq (.int 1 (pz 9150172)) (pz 9147379)) (pz 9146315),
  .asT [(8,(pz 9163978)),(3,(pz 9164783)),(4,(pz 9165720))] 0 (pz 9163991) (.call (.glob 46 (pz 9166663)) [(.loc 0 (pz 9167997)),(.loc 4 (pz 9168668)),(.loc 1 (pz 9169472))] (pz 9166680)) (pz 9164020),
  .asN 2 (pz 9181668) (.bin (.bin (.loc 2 (pz 9182740)) .Add (.lstF [(.ite (.loc 7 (pz 9185018)) (.str [79,82] (pz 9183945)) (.str [65,78,68] (pz 9186492)) (pz 9183965))] (pz 9183833)) (pz 9182769)) .Add (.loc 8 (pz 9187697)) (pz 9182776)) (pz 9181712),
  .ifs (.loc 7 (pz 9199759)) [.expr (.meth (.loc 5 (pz 9217581)) 39 (pz 9217588) [(.lst [(.loc 3 (pz 9219324))] (pz 9219192))] (pz 9217597)) (pz 9217597)] [.expr (.meth (.sub (.loc 5 (pz 9252959)) (.neg (.int 1 (pz 9253760)) (pz 9253627)) (pz 9252963)) 39 (pz 9252970) [(.loc 3 (pz 9255104))] (pz 9252977)) (pz 9252977)] ⟨520,8,523,34⟩] ⟨516,4,523,34⟩,
  .ifs (.nones 5 ⟨"row","one",(pz 9270111),(pz 9271183),(pz 9272122),(pz 9273327),(pz 9274265),(pz 9275203),(pz 9276142),(pz 9275211),⟨.function,[(".0",.local),("row",.local),("one",.local)],false,false,[]⟩⟩ (pz 9270025) (pz 9277346) (pz 9270031)) [.ret (.tup [(.loc 2 (pz 9288874)),(.none (pz 9289811))] 0 (pz 9288748)) (pz 9287817)] [] ⟨524,4,525,28⟩,
  .asN 11 (pz 9304955) (.none (pz 9306026)) (pz 9304962),
  .forN 9 (pz 9323178) (.loc 5 (pz 9324117)) [.asN 12 (pz 9340868) (.sub (.loc 9 (pz 9341805)) (.int 0 (pz 9342339)) (pz 9341808)) (pz 9340877),
  .forN 10 (pz 9359092) (.slc (.loc 9 (pz 9360030)) (some (.int 1 (pz 9360564))) none (pz 9360565) (pz 9360034)) [.asN 12 (pz 9376782) (.tup [(.str [97,110,100] (pz 9377855)),(.loc 12 (pz 9378792)),(.loc 10 (pz 9379595))] 0 (pz 9377734)) (pz 9376803)] ⟨529,8,530,37⟩,
  .asN 11 (pz 9393936) (.ite (.cmp (.loc 11 (pz 9396080)) .Is (.none (pz 9397285)) (pz 9396088)) (.loc 12 (pz 9395007)) (.tup [(.str [111,114] (pz 9398759)),(.loc 11 (pz 9399564)),(.loc 12 (pz 9400501))] 0 (pz 9398640)) (pz 9395049)) (pz 9393985)] ⟨527,4,531,62⟩,
  .ret (.tup [(.loc 2 (pz 9412161)),(.loc 11 (pz 9413099))] 0 (pz 9412036)) (pz 9411105)]
noncomputable def fdx47:FnD:={ nm:=["pen","deep","words","found","last","rows","turn","is_or","more","row","one","whole","both"],np:=2,body:=bdx47 }
noncomputable def bdx90:List S :=
 [.asN 1 (pz 9446465) (.call (.glob 41 (pz 9447274)) [(.loc 0 (pz 9448478))] (pz 9447282)) (pz 9446484),
  .asT [(2,(pz 9464156)),(3,(pz 9465092))] 0 (pz 9464161) (.call (.glob 47 (pz 9465901)) [(.loc 1 (pz 9467102)),(.int 1 (pz 9467770))] (pz 9465909)) (pz 9464180),
  .asT [(4,(pz 9481846)),(5,(pz 9482917)),(6,(pz 9483856))] 0 (pz 9481861) (.tup [(.call (.glob 42 (pz 9485201)) [(.bin (.loc 2 (pz 9486803)) .Add (.lstF [(.str [84,72,69,78] (pz 9488010))] (pz 9487878)) (pz 9486814))] (pz 9485219)),(.none (pz 9489348)),(.none (pz 9490152))] 0 (pz 9485099)) (pz 9481907),
  .try1 [.asN 5 (pz 9517759) (.call (.glob 37 (pz 9518840)) [(.loc 4 (pz 9520842)),(.lam 2 (pz 9521945))] (pz 9518887)) (pz 9517823)] 0 (pz 9535857) 7 (.nm 6 7 [(pz 9553138),(pz 9554343),(pz 9553146)]) ⟨539,4,540,22⟩ ⟨537,4,540,22⟩,
  .ifs (.cmp (.loc 3 (pz 9570690)) .Is (.none (pz 9571629)) (pz 9570698)) [.ret (.cmp (.loc 6 (pz 9589454)) .IsNot (.none (pz 9591328)) (pz 9589466)) (pz 9588535)] [] ⟨541,4,542,33⟩,
  .ret (.and [(.cmp (.loc 6 (pz 9606607)) .Is (.none (pz 9607945)) (pz 9606615)),(.cmp (.loc 5 (pz 9609152)) .Eq (.loc 3 (pz 9610356)) (pz 9609159)),(.cmp (.attr (.loc 4 (pz 9611565)) 1 (pz 9611568)) .Eq (.bcall 0 (pz 9613304) [(.loc 2 (pz 9613842))] (pz 9613311)) (pz 9611582))] (pz 9606662)) (pz 9605731)]
noncomputable def fdx90:FnD:={ nm:=["script","pen","words","due","reader","found","caught","error"],np:=1,body:=bdx90 }
noncomputable def lam_0:FnD × X:=({ nm:=["inner","depth"],np:=1,body:=[] },(.call (.glob 25 (pz 3084594)) [(.loc 0 (pz 3085797)),(.bin (.loc 1 (pz 3086735)) .Add (.int 1 (pz 3087803)) (pz 3086739))] (pz 3084612)))
noncomputable def lam_1:FnD × X:=({ nm:=["name","qualifiers","reader"],np:=2,body:=[] },(.cmp (.loc 0 (pz 5439103)) .In (.attr (.loc 2 (pz 5440177)) 2 (pz 5440183)) (pz 5439119)))
noncomputable def lam_2:FnD × X:=({ nm:=["name","qualifiers"],np:=2,body:=[] },(.cmp (.loc 0 (pz 9525262)) .Eq (.str [70,88] (pz 9526334)) (pz 9525270)))
noncomputable def fnL:List (Nat × FnD):=[
 (16,fdx16),
 (19,fdx19),
 (21,fdx21),
 (22,fdx22),
 (23,fdx23),
 (24,fdx24),
 (25,fdx25),
 (26,fdx26),
 (27,fdx27),
 (28,fdx28),
 (29,fdx29),
 (30,fdx30),
 (32,fdx32),
 (33,fdx33),
 (34,fdx34),
 (35,fdx35),
 (36,fdx36),
 (37,fdx37),
 (38,fdx38),
 (39,fdx39),
 (40,fdx40),
 (41,fdx41),
 (42,fdx42),
 (43,fdx43),
 (46,fdx46),
 (47,fdx47),
 (90,fdx90),
 (199,fdx199),
 (211,fdx211),
 (212,fdx212),
 (213,fdx213),
 (214,fdx214),
 (215,fdx215),
 (216,fdx216),
 (217,fdx217),
 (218,fdx218),
 (219,fdx219),
 (220,fdx220),
 (221,fdx221),
 (222,fdx222),
 (223,fdx223),
 (299,fdx299),
 (326,fdx326),
 (327,fdx327),
 (328,fdx328),
 (329,fdx329),
 (330,fdx330),
 (331,fdx331),
 (332,fdx332),
 (333,fdx333),
 (334,fdx334),
 (335,fdx335),
 (336,fdx336),
 (399,fdx399)]
noncomputable def fnT (g:Nat):Option FnD:=look fnL g
noncomputable def initL:List (Nat × Nat):=[
 (1,199),
 (2,299),
 (3,399)]
noncomputable def initT (g:Nat):Option Nat:=look initL g
noncomputable def lamnT (k:Nat):Nat:=(look [(0,1),(1,2),(2,2)] k).getD 0
noncomputable def mthL:List ((Nat × Nat) × Nat):=[
 ((2,11),211),
 ((2,12),212),
 ((2,13),213),
 ((2,14),214),
 ((2,15),215),
 ((2,16),216),
 ((2,17),217),
 ((2,18),218),
 ((2,19),219),
 ((2,20),220),
 ((2,21),221),
 ((2,22),222),
 ((2,23),223),
 ((3,26),326),
 ((3,27),327),
 ((3,28),328),
 ((3,29),329),
 ((3,30),330),
 ((3,31),331),
 ((3,32),332),
 ((3,33),333),
 ((3,34),334),
 ((3,35),335),
 ((3,36),336)]
noncomputable def mthT (C f:Nat):Option Nat:=look2 mthL C f
noncomputable def glA:List (Nat × V):=[
 (4,.dct [[90,69,82,79],[90,69,82,79,83],[90,69,82,79,69,83],[83,80,65,67,69],[83,80,65,67,69,83],[72,73,71,72,45,86,65,76,85,69],[72,73,71,72,45,86,65,76,85,69,83],[76,79,87,45,86,65,76,85,69],[76,79,87,45,86,65,76,85,69,83],[81,85,79,84,69],[81,85,79,84,69,83]] [.str [90,69,82,79],.str [90,69,82,79],.str [90,69,82,79],.str [83,80,65,67,69],.str [83,80,65,67,69],.str [72,73,71,72],.str [72,73,71,72],.str [76,79,87],.str [76,79,87],.str [81,85,79,84,69],.str [81,85,79,84,69]]),
 (5,.dct [[61],[60,62],[60],[62,61],[62],[60,61]] [.str [60,62],.str [61],.str [62,61],.str [60],.str [60,61],.str [62]]),
 (6,.tup [(.str [78,85,77,69,82,73,67]),(.str [65,76,80,72,65,66,69,84,73,67]),(.str [65,76,80,72,65,66,69,84,73,67,45,76,79,87,69,82]),(.str [65,76,80,72,65,66,69,84,73,67,45,85,80,80,69,82])]),
 (7,.dct [[80,79,83,73,84,73,86,69],[78,69,71,65,84,73,86,69],[90,69,82,79],[90,69,82,79,83],[90,69,82,79,69,83]] [.str [80,79,83,73,84,73,86,69],.str [78,69,71,65,84,73,86,69],.str [90,69,82,79],.str [90,69,82,79],.str [90,69,82,79]]),
 (8,.dct [[71,82,69,65,84,69,82],[76,69,83,83],[69,81,85,65,76]] [.str [62],.str [60],.str [61]]),
 (9,.tup [(.str [61]),(.str [60]),(.str [62]),(.str [60,61]),(.str [62,61])]),
 (10,.str Mine.resL),
 (11,.int 20),
 (12,.int 20),
 (15,.tup [(.str [61]),(.str [60]),(.str [62]),(.str [60,61]),(.str [62,61])])]
noncomputable def glG:List Nat:=[0,1,2,3,16,19,21,22,23,24,25,26,27,28,29,30,32,33,34,35,36,37,38,39,40,41,42,43,46,47]
noncomputable def glL:List (Nat × V):=glA++glG.map fun g=>(g,.base g)
noncomputable def glT (g:Nat):Option V:=look glL g
noncomputable def lamcT (k:Nat):List Nat:=(look [(0,[1]),(1,[0])] k).getD []
noncomputable def lamT (k:Nat):Option X:=look [(0,lam_0.2),(1,lam_1.2),(2,lam_2.2)] k
noncomputable def TB:Tabs:=⟨fnT,initT,lamnT,mthT,glT,lamcT,lamT⟩
end Mine
end
section
namespace Mine.Pu
open PySem
noncomputable def cres:Option RS→O V
 |some (.nx _ s)=>some (.ok .none s)
 |some (.rt v s)=>some (.ok v s)
 |some (.ex i _ s)=>some (.ex i s)
 |none=>none
noncomputable abbrev sel {α:Type}(b:Bool)(x y:α):α:=Bool.rec y x b
noncomputable abbrev bn (b:Bool):Bool:=Bool.rec true false b
theorem bn_eq {b:Bool}:(!b)=bn b:=by cases b<;>rfl
noncomputable def bsel (t:Bool)(m:O V)(v:V)(s:List Cell):O V:=if t=true then m else some (.ok v s)
noncomputable def sq (o:RS)(f:List (Option V)→List Cell→Option RS):Option RS:=match o with
 | .nx fr s=>f fr s
 |o=>some o
noncomputable def rtR (r:R V)(fr:List (Option V)):RS:=match r with
 | .ok v s=>.rt v s
 | .ex i s=>.ex i fr s
noncomputable def setA (s:List Cell)(o:V)(f:Nat)(v:V):Option (List Cell):=match o with
 | .ref i=>match s[i]? with
  |some (.inst C fs)=>if f≤10∧C≠0∧fs.length≤40 then some (s.set i (.inst C (fput f v fs)))else none
  |_=>none
 |_=>none
abbrev Fr:=List (Option V)
abbrev Sg:=List Cell
theorem crG {m:Option RS}{o:RS}{r:O V}(h:m=some o)(h2:cres (some o)=r):cres m=r:=h▸h2
theorem cresR {r:R V}{fr:Fr}:cres (some (rtR r fr))=some r:=by cases r<;>rfl
theorem cresN {s:Sg}{fr:Fr}:cres (some (.nx fr s))=some (.ok .none s):=rfl
theorem cresE {i:Nat}{s:Sg}{fr:Fr}:cres (some (.ex i fr s))=some (.ex i s):=rfl
section
variable {T:Tabs}

theorem xL0 {p:Pos}{n:Nat}{v:V}{r:Fr}{s:Sg}:exX T (n+1) (.loc 0 p) (some v::r) s=some (.ok v s):=rfl
theorem xL1 {p:Pos}{n:Nat}{x0:Option V}{v:V}{r:Fr}{s:Sg}:exX T (n+1) (.loc 1 p) (x0::some v::r) s=some (.ok v s):=rfl
theorem xL2 {p:Pos}{n:Nat}{x0 x1:Option V}{v:V}{r:Fr}{s:Sg}:exX T (n+1) (.loc 2 p) (x0::x1::some v::r) s=some (.ok v s):=rfl
theorem xL3 {p:Pos}{n:Nat}{x0 x1 x2:Option V}{v:V}{r:Fr}{s:Sg}:exX T (n+1) (.loc 3 p) (x0::x1::x2::some v::r) s=some (.ok v s):=rfl
theorem xL4 {p:Pos}{n:Nat}{x0 x1 x2 x3:Option V}{v:V}{r:Fr}{s:Sg}:exX T (n+1) (.loc 4 p) (x0::x1::x2::x3::some v::r) s=some (.ok v s):=rfl
theorem xL5 {p:Pos}{n:Nat}{x0 x1 x2 x3 x4:Option V}{v:V}{r:Fr}{s:Sg}:exX T (n+1) (.loc 5 p) (x0::x1::x2::x3::x4::some v::r) s=some (.ok v s):=rfl
theorem xL6 {p:Pos}{n:Nat}{x0 x1 x2 x3 x4 x5:Option V}{v:V}{r:Fr}{s:Sg}:exX T (n+1) (.loc 6 p) (x0::x1::x2::x3::x4::x5::some v::r) s=some (.ok v s):=rfl
theorem xL7 {p:Pos}{n:Nat}{x0 x1 x2 x3 x4 x5 x6:Option V}{v:V}{r:Fr}{s:Sg}:exX T (n+1) (.loc 7 p) (x0::x1::x2::x3::x4::x5::x6::some v::r) s=some (.ok v s):=rfl
theorem xL8 {p:Pos}{n:Nat}{x0 x1 x2 x3 x4 x5 x6 x7:Option V}{v:V}{r:Fr}{s:Sg}:exX T (n+1) (.loc 8 p) (x0::x1::x2::x3::x4::x5::x6::x7::some v::r) s=some (.ok v s):=rfl
theorem xL9 {p:Pos}{n:Nat}{x0 x1 x2 x3 x4 x5 x6 x7 x8:Option V}{v:V}{r:Fr}{s:Sg}:exX T (n+1) (.loc 9 p) (x0::x1::x2::x3::x4::x5::x6::x7::x8::some v::r) s=some (.ok v s):=rfl
theorem xL10 {p:Pos}{n:Nat}{x0 x1 x2 x3 x4 x5 x6 x7 x8 x9:Option V}{v:V}{r:Fr}{s:Sg}:exX T (n+1) (.loc 10 p) (x0::x1::x2::x3::x4::x5::x6::x7::x8::x9::some v::r) s=some (.ok v s):=rfl
theorem xL11 {p:Pos}{n:Nat}{x0 x1 x2 x3 x4 x5 x6 x7 x8 x9 x10:Option V}{v:V}{r:Fr}{s:Sg}:exX T (n+1) (.loc 11 p) (x0::x1::x2::x3::x4::x5::x6::x7::x8::x9::x10::some v::r) s=some (.ok v s):=rfl
theorem xL12 {p:Pos}{n:Nat}{x0 x1 x2 x3 x4 x5 x6 x7 x8 x9 x10 x11:Option V}{v:V}{r:Fr}{s:Sg}:exX T (n+1) (.loc 12 p) (x0::x1::x2::x3::x4::x5::x6::x7::x8::x9::x10::x11::some v::r) s=some (.ok v s):=rfl
theorem xNone {p:Pos}{n:Nat}{fr:Fr}{s:Sg}:exX T (n+1) (.none p) fr s=some (.ok (.none) s):=rfl
theorem xBool {b:Bool}{p:Pos}{n:Nat}{fr:Fr}{s:Sg}:exX T (n+1) (.bool b p) fr s=some (.ok (.bool b) s):=rfl
theorem xInt {b:Int}{p:Pos}{n:Nat}{fr:Fr}{s:Sg}:exX T (n+1) (.int b p) fr s=some (.ok (.int b) s):=rfl
theorem xStr {b:CS}{p:Pos}{n:Nat}{fr:Fr}{s:Sg}:exX T (n+1) (.str b p) fr s=some (.ok (.str b) s):=rfl
theorem xGlob {g:Nat}{p:Pos}{n:Nat}{fr:Fr}{s:Sg}{v:V}(h:T.gl g=some v):exX T (n+1) (.glob g p) fr s=some (.ok v s):=by
 show lif (T.gl g) s=_;rw[h];rfl
theorem xAttr {x:X}{f:Nat}{p:Pos}{n:Nat}{fr:Fr}{s:Sg}{s1:Sg}{o v:V}(h1:exX T n x fr s=some (.ok o s1))(h2:attrV s1 f o=some v):exX T (n+1) (.attr x f p) fr s=some (.ok v s1):=by
 show bnd (exX T n x fr s) (fun v s=>lif (attrV s f v) s)=_;rw[h1];show lif _ _=_;rw[h2];rfl
theorem xCallG {g:Nat}{q p:Pos}{as:List X}{n:Nat}{fr:Fr}{s:Sg}{s1:Sg}{f:V}{vs:List V}{r:R V}(h0:T.gl g=some f)(h1:exXs T (n+1) as fr s=some (.ok vs s1))(h2:callV T (n+1) f vs s1=some r):exX T (n+2) (.call (.glob g q) as p) fr s=some r:=by
 show bnd (exX T (n+1) (.glob g q) fr s) (fun f s=>bnd (exXs T (n+1) as fr s) fun as s=>callV T (n+1) f as s)=_;rw[xGlob h0];show bnd (exXs T (n+1) as fr s) _=_;rw[h1];exact h2
theorem xCallL {i:Nat}{q p:Pos}{as:List X}{n:Nat}{fr:Fr}{s:Sg}{s1:Sg}{f:V}{vs:List V}{r:R V}(h0:exX T n (.loc i q) fr s=some (.ok f s))(h1:exXs T n as fr s=some (.ok vs s1))(h2:callV T n f vs s1=some r):exX T (n+1) (.call (.loc i q) as p) fr s=some r:=by
 show bnd (exX T n (.loc i q) fr s) (fun f s=>bnd (exXs T n as fr s) fun as s=>callV T n f as s)=_;rw[h0];show bnd (exXs T n as fr s) _=_;rw[h1];exact h2
theorem xBcall {b:Nat}{q p:Pos}{as:List X}{n:Nat}{fr:Fr}{s:Sg}{s1:Sg}{vs:List V}{v:V}(h1:exXs T n as fr s=some (.ok vs s1))(h2:bifV s1 b vs=some v):exX T (n+1) (.bcall b q as p) fr s=some (.ok v s1):=by
 show bnd (exXs T n as fr s) (fun as s=>lif (bifV s b as) s)=_;rw[h1];show lif _ _=_;rw[h2];rfl
theorem xMeth {o:X}{f:Nat}{q p:Pos}{as:List X}{n:Nat}{fr:Fr}{s:Sg}{s1 s2:Sg}{ov g:V}{vs:List V}{r:R V}(h1:exX T n o fr s=some (.ok ov s1))(h2:methF T s1 ov f=some (some (g,true)))(h3:exXs T n as fr s1=some (.ok vs s2))(h4:callV T n g (ov::vs) s2=some r):exX T (n+1) (.meth o f q as p) fr s=some r:=by
 show bnd (exX T n o fr s) _=_;rw[h1]
 show(match methF T s1 ov f with
   |some (some (g,b))=>bnd (exXs T n as fr s1) fun as s=>callV T n g (if b then ov::as else as) s
   |some none=>bnd (exXs T n as fr s1) fun as s=>methV ov f as s
   |none=>none)=_
 rw[h2];show bnd (exXs T n as fr s1) _=_;rw[h3];exact h4
theorem xM7 {o:X}{q p:Pos}{as:List X}{n:Nat}{fr:Fr}{s:Sg}{s1 s2:Sg}{ov g:V}{vs:List V}{r:R V}(h1:exX T n o fr s=some (.ok ov s1))(h2:methF T s1 ov 7=some (some (g,false)))(h3:exXs T n as fr s1=some (.ok vs s2))(h4:callV T n g vs s2=some r):exX T (n+1) (.meth o 7 q as p) fr s=some r:=by
 show bnd (exX T n o fr s) _=_;rw[h1]
 show(match methF T s1 ov 7 with
   |some (some (g,b))=>bnd (exXs T n as fr s1) fun as s=>callV T n g (if b then ov::as else as) s
   |some none=>bnd (exXs T n as fr s1) fun as s=>methV ov 7 as s
   |none=>none)=_
 rw[h2];show bnd (exXs T n as fr s1) _=_;rw[h3];exact h4
theorem xM37 {o:X}{q p:Pos}{as:List X}{n:Nat}{fr:Fr}{s:Sg}{s1 s2:Sg}{ov:V}{vs:List V}{r:R V}(h1:exX T n o fr s=some (.ok ov s1))(h2:methF T s1 ov 37=some none)(h3:exXs T n as fr s1=some (.ok vs s2))(h4:methV ov 37 vs s2=some r):exX T (n+1) (.meth o 37 q as p) fr s=some r:=by
 show bnd (exX T n o fr s) _=_;rw[h1]
 show(match methF T s1 ov 37 with
   |some (some (g,b))=>bnd (exXs T n as fr s1) fun as s=>callV T n g (if b then ov::as else as) s
   |some none=>bnd (exXs T n as fr s1) fun as s=>methV ov 37 as s
   |none=>none)=_
 rw[h2];show bnd (exXs T n as fr s1) _=_;rw[h3];exact h4
theorem xM38 {o:X}{q p:Pos}{as:List X}{n:Nat}{fr:Fr}{s:Sg}{s1 s2:Sg}{ov:V}{vs:List V}{r:R V}(h1:exX T n o fr s=some (.ok ov s1))(h2:methF T s1 ov 38=some none)(h3:exXs T n as fr s1=some (.ok vs s2))(h4:methV ov 38 vs s2=some r):exX T (n+1) (.meth o 38 q as p) fr s=some r:=by
 show bnd (exX T n o fr s) _=_;rw[h1]
 show(match methF T s1 ov 38 with
   |some (some (g,b))=>bnd (exXs T n as fr s1) fun as s=>callV T n g (if b then ov::as else as) s
   |some none=>bnd (exXs T n as fr s1) fun as s=>methV ov 38 as s
   |none=>none)=_
 rw[h2];show bnd (exXs T n as fr s1) _=_;rw[h3];exact h4
theorem xM39 {o:X}{q p:Pos}{as:List X}{n:Nat}{fr:Fr}{s:Sg}{s1 s2:Sg}{ov:V}{vs:List V}{r:R V}(h1:exX T n o fr s=some (.ok ov s1))(h2:methF T s1 ov 39=some none)(h3:exXs T n as fr s1=some (.ok vs s2))(h4:methV ov 39 vs s2=some r):exX T (n+1) (.meth o 39 q as p) fr s=some r:=by
 show bnd (exX T n o fr s) _=_;rw[h1]
 show(match methF T s1 ov 39 with
   |some (some (g,b))=>bnd (exXs T n as fr s1) fun as s=>callV T n g (if b then ov::as else as) s
   |some none=>bnd (exXs T n as fr s1) fun as s=>methV ov 39 as s
   |none=>none)=_
 rw[h2];show bnd (exXs T n as fr s1) _=_;rw[h3];exact h4
theorem xsE {x:X}{r:List X}{n:Nat}{fr:Fr}{s:Sg}{s1:Sg}{i:Nat}(h:exX T n x fr s=some (.ex i s1)):exXs T (n+1) (x::r) fr s=some (.ex i s1):=by
 show bnd (exX T n x fr s) _=_;rw[h];rfl
theorem xMethE {o x:X}{f:Nat}{q p:Pos}{as:List X}{n:Nat}{fr:Fr}{s:Sg}{s1 s2:Sg}{ov g:V}{i:Nat}(h1:exX T (n+1) o fr s=some (.ok ov s1))(h2:methF T s1 ov f=some (some (g,true)))(h3:exX T n x fr s1=some (.ex i s2)):exX T (n+2) (.meth o f q (x::as) p) fr s=some (.ex i s2):=by
 show bnd (exX T (n+1) o fr s) _=_;rw[h1]
 show(match methF T s1 ov f with
   |some (some (g,b))=>bnd (exXs T (n+1) (x::as) fr s1) fun as s=>callV T (n+1) g (if b then ov::as else as) s
   |some none=>bnd (exXs T (n+1) (x::as) fr s1) fun as s=>methV ov f as s
   |none=>none)=_
 rw[h2];show bnd (exXs T (n+1) (x::as) fr s1) _=_;rw[xsE h3];rfl
theorem xCmp {l r:X}{op:CmpOp}{p:Pos}{n:Nat}{fr:Fr}{s:Sg}{s1 s2:Sg}{a b:V}{c:Bool}(h1:exX T n l fr s=some (.ok a s1))(h2:exX T n r fr s1=some (.ok b s2))(h3:cmpV op a b=some c):exX T (n+1) (.cmp l op r p) fr s=some (.ok (.bool c) s2):=by
 show bnd (exX T n l fr s) _=_;rw[h1];show bnd (exX T n r fr s1) _=_;rw[h2];show lif ((cmpV op a b).map V.bool) s2=_;rw[h3];rfl
theorem xCmp2t {l m r:X}{op op2:CmpOp}{p:Pos}{n:Nat}{fr:Fr}{s:Sg}{s1 s2 s3:Sg}{a b c:V}{t:Bool}(h1:exX T n l fr s=some (.ok a s1))(h2:exX T n m fr s1=some (.ok b s2))(h3:cmpV op a b=some true)(h4:exX T n r fr s2=some (.ok c s3))(h5:cmpV op2 b c=some t):exX T (n+1) (.cmp2 l op m op2 r p) fr s=some (.ok (.bool t) s3):=by
 show bnd (exX T n l fr s) _=_;rw[h1];show bnd (exX T n m fr s1) _=_;rw[h2];show(match cmpV op a b with | some true=>bnd (exX T n r fr s2) fun c s=>lif ((cmpV op2 b c).map V.bool) s | some false=>some (.ok (V.bool false) s2)| none=>none)=_;rw[h3];show bnd (exX T n r fr s2) _=_;rw[h4];show lif ((cmpV op2 b c).map V.bool) s3=_;rw[h5];rfl
theorem xCmp2f {l m r:X}{op op2:CmpOp}{p:Pos}{n:Nat}{fr:Fr}{s:Sg}{s1 s2:Sg}{a b:V}(h1:exX T n l fr s=some (.ok a s1))(h2:exX T n m fr s1=some (.ok b s2))(h3:cmpV op a b=some false):exX T (n+1) (.cmp2 l op m op2 r p) fr s=some (.ok (.bool false) s2):=by
 show bnd (exX T n l fr s) _=_;rw[h1];show bnd (exX T n m fr s1) _=_;rw[h2];show(match cmpV op a b with | some true=>bnd (exX T n r fr s2) fun c s=>lif ((cmpV op2 b c).map V.bool) s | some false=>some (.ok (V.bool false) s2)| none=>none)=_;rw[h3]
theorem xBin {l r:X}{op:Operator}{p:Pos}{n:Nat}{fr:Fr}{s:Sg}{s1 s2:Sg}{a b c:V}(h1:exX T n l fr s=some (.ok a s1))(h2:exX T n r fr s1=some (.ok b s2))(h3:binV s2 op a b=some c):exX T (n+1) (.bin l op r p) fr s=some (.ok c s2):=by
 show bnd (exX T n l fr s) _=_;rw[h1];show bnd (exX T n r fr s1) _=_;rw[h2];show lif (binV s2 op a b) s2=_;rw[h3];rfl
theorem xSub {l r:X}{p:Pos}{n:Nat}{fr:Fr}{s:Sg}{s1 s2:Sg}{a b c:V}(h1:exX T n l fr s=some (.ok a s1))(h2:exX T n r fr s1=some (.ok b s2))(h3:subV s2 a b=some c):exX T (n+1) (.sub l r p) fr s=some (.ok c s2):=by
 show bnd (exX T n l fr s) _=_;rw[h1];show bnd (exX T n r fr s1) _=_;rw[h2];show lif (subV s2 a b) s2=_;rw[h3];rfl
theorem xSld {l r:X}{q p:Pos}{n:Nat}{fr:Fr}{s:Sg}{s1 s2:Sg}{a b c:V}(h1:exX T n l fr s=some (.ok a s1))(h2:exX T n r fr s1=some (.ok b s2))(h3:slcV s2 a (some b) none=some c):exX T (n+1) (.slc l (some r) none q p) fr s=some (.ok c s2):=by
 show bnd (exX T n l fr s) _=_;rw[h1];show bnd (exX T n r fr s1) _=_;rw[h2];show lif (slcV s2 a (some b) none) s2=_;rw[h3];rfl
theorem xSlc {l r:X}{q p:Pos}{n:Nat}{fr:Fr}{s:Sg}{s1 s2:Sg}{a b c:V}(h1:exX T n l fr s=some (.ok a s1))(h2:exX T n r fr s1=some (.ok b s2))(h3:slcV s2 a none (some b)=some c):exX T (n+1) (.slc l none (some r) q p) fr s=some (.ok c s2):=by
 show bnd (exX T n l fr s) _=_;rw[h1];show bnd (exX T n r fr s1) _=_;rw[h2];show lif (slcV s2 a none (some b)) s2=_;rw[h3];rfl
theorem xNot {x:X}{p:Pos}{n:Nat}{fr:Fr}{s:Sg}{s1:Sg}{v:V}{b:Bool}(h1:exX T n x fr s=some (.ok v s1))(h2:truthy s1 v=some b):exX T (n+1) (.not x p) fr s=some (.ok (.bool (bn b)) s1):=by
 show bnd (exX T n x fr s) _=_;rw[h1];show lif ((truthy s1 v).map fun b=>V.bool (!b)) s1=_;rw[h2];cases b<;>rfl
theorem xNeg {x:X}{p:Pos}{n:Nat}{fr:Fr}{s:Sg}{s1:Sg}{i:Int}(h1:exX T n x fr s=some (.ok (.int i) s1)):exX T (n+1) (.neg x p) fr s=some (.ok (.int (-i)) s1):=by
 show bnd (exX T n x fr s) _=_;rw[h1];rfl
theorem xAnd {xs:List X}{p:Pos}{n:Nat}{fr:Fr}{s:Sg}{r:R V}(h:exBool T n true xs fr s=some r):exX T (n+1) (.and xs p) fr s=some r:=h
theorem xOr {xs:List X}{p:Pos}{n:Nat}{fr:Fr}{s:Sg}{r:R V}(h:exBool T n false xs fr s=some r):exX T (n+1) (.or xs p) fr s=some r:=h
theorem b1 {b:Bool}{x:X}{n:Nat}{fr:Fr}{s:Sg}{r:R V}(h:exX T n x fr s=some r):exBool T (n+1) b [x] fr s=some r:=h
theorem bA {x y:X}{r:List X}{n:Nat}{fr:Fr}{s:Sg}{s1:Sg}{v:V}{t:Bool}{o:R V}(h1:exX T n x fr s=some (.ok v s1))(h2:truthy s1 v=some t)(h3:bsel (t) (exBool T n true (y::r) fr s1) v s1=some o):exBool T (n+1) true (x::y::r) fr s=some o:=by
 show bnd (exX T n x fr s) _=_;rw[h1]
 show(match truthy s1 v with | some t=>if t=true then exBool T n true (y::r) fr s1 else some (.ok v s1)| none=>none)=_
 rw[h2];cases t<;>exact h3
theorem bO {x y:X}{r:List X}{n:Nat}{fr:Fr}{s:Sg}{s1:Sg}{v:V}{t:Bool}{o:R V}(h1:exX T n x fr s=some (.ok v s1))(h2:truthy s1 v=some t)(h3:bsel (bn t) (exBool T n false (y::r) fr s1) v s1=some o):exBool T (n+1) false (x::y::r) fr s=some o:=by
 show bnd (exX T n x fr s) _=_;rw[h1]
 show(match truthy s1 v with | some t=>if t=false then exBool T n false (y::r) fr s1 else some (.ok v s1)| none=>none)=_
 rw[h2];cases t<;>exact h3
theorem bsT {m:O V}{v:V}{s:Sg}{o:R V}(h:m=some o):bsel true m v s=some o:=h
theorem bsF {m:O V}{v:V}{s:Sg}:bsel false m v s=some (.ok v s):=rfl

theorem xIte {t a e:X}{p:Pos}{n:Nat}{fr:Fr}{s:Sg}{s1:Sg}{v:V}{b:Bool}{o:R V}(h1:exX T n t fr s=some (.ok v s1))(h2:truthy s1 v=some b)(h3:exX T n (sel b a e) fr s1=some o):exX T (n+1) (.ite t a e p) fr s=some o:=by
 show bnd (exX T n t fr s) _=_;rw[h1]
 show(match truthy s1 v with | some true=>exX T n a fr s1 | some false=>exX T n e fr s1 | none=>none)=_
 rw[h2];cases b<;>exact h3
theorem xTup {xs:List X}{k:Nat}{p:Pos}{n:Nat}{fr:Fr}{s:Sg}{s1:Sg}{vs:List V}(h1:exXs T n xs fr s=some (.ok vs s1))(h2:sml vs.length=true):exX T (n+1) (.tup xs k p) fr s=some (.ok (.tup vs) s1):=by
 show bnd (exXs T n xs fr s) _=_;rw[h1];exact if_pos h2
theorem xTupE {xs:List X}{k:Nat}{p:Pos}{n:Nat}{fr:Fr}{s:Sg}{s1:Sg}{i:Nat}(h1:exXs T n xs fr s=some (.ex i s1)):exX T (n+1) (.tup xs k p) fr s=some (.ex i s1):=by
 show bnd (exXs T n xs fr s) _=_;rw[h1];rfl
theorem xLstF {xs:List X}{p:Pos}{n:Nat}{fr:Fr}{s:Sg}{s1:Sg}{vs:List V}(h1:exXs T n xs fr s=some (.ok vs s1))(h2:sml vs.length=true):exX T (n+1) (.lstF xs p) fr s=some (.ok (.lst vs) s1):=by
 show bnd (exXs T n xs fr s) _=_;rw[h1];exact if_pos h2
theorem xLst {xs:List X}{p:Pos}{n:Nat}{fr:Fr}{s:Sg}{s1 s2:Sg}{vs:List V}{i:Nat}(h1:exXs T n xs fr s=some (.ok vs s1))(h2:sml vs.length=true)(h3:s1.length=i)(h4:s1++[.list vs]=s2):exX T (n+1) (.lst xs p) fr s=some (.ok (.ref i) s2):=by
 subst h3 h4;show bnd (exXs T n xs fr s) _=_;rw[h1];exact if_pos h2
theorem xLam {k:Nat}{p:Pos}{n:Nat}{fr:Fr}{s:Sg}{vs:List V}(h1:caps fr (T.lamc k)=some vs):exX T (n+1) (.lam k p) fr s=some (.ok (.clo k vs) s):=by
 show lif ((caps fr (T.lamc k)).map (V.clo k)) s=_;rw[h1];rfl
theorem xs0 {n:Nat}{fr:Fr}{s:Sg}:exXs T (n+1) [] fr s=some (.ok [] s):=rfl
theorem xs1 {x:X}{n:Nat}{fr:Fr}{s:Sg}{s1:Sg}{v:V}(h:exX T (n+1) x fr s=some (.ok v s1)):exXs T (n+2) [x] fr s=some (.ok [v] s1):=by
 show bnd (exX T (n+1) x fr s) _=_;rw[h];rfl
theorem xsC {x y:X}{r:List X}{n:Nat}{fr:Fr}{s:Sg}{s1 s2:Sg}{v:V}{vs:List V}(h:exX T n x fr s=some (.ok v s1))(h2:exXs T n (y::r) fr s1=some (.ok vs s2)):exXs T (n+1) (x::y::r) fr s=some (.ok (v::vs) s2):=by
 show bnd (exX T n x fr s) _=_;rw[h];show bnd (exXs T n (y::r) fr s1) _=_;rw[h2];rfl
theorem xsCE {x y:X}{r:List X}{n:Nat}{fr:Fr}{s:Sg}{s1 s2:Sg}{v:V}{i:Nat}(h:exX T n x fr s=some (.ok v s1))(h2:exXs T n (y::r) fr s1=some (.ex i s2)):exXs T (n+1) (x::y::r) fr s=some (.ex i s2):=by
 show bnd (exX T n x fr s) _=_;rw[h];show bnd (exXs T n (y::r) fr s1) _=_;rw[h2];rfl
theorem xT2E {x y:X}{k:Nat}{p:Pos}{n:Nat}{fr:Fr}{s s1 s2:Sg}{v:V}{i:Nat}(h1:exX T (n+1) x fr s=some (.ok v s1))(h2:exX T n y fr s1=some (.ex i s2)):exX T (n+3) (.tup [x,y] k p) fr s=some (.ex i s2):=xTupE (xsCE h1 (xsE h2))
theorem xT4b {x y z t:X}{k:Nat}{p:Pos}{n:Nat}{fr:Fr}{s s1 s2:Sg}{v:V}{i:Nat}(h1:exX T (n+1) x fr s=some (.ok v s1))(h2:exX T n y fr s1=some (.ex i s2)):exX T (n+3) (.tup [x,y,z,t] k p) fr s=some (.ex i s2):=xTupE (xsCE h1 (xsE h2))
theorem xT3E {x y z:X}{k:Nat}{p:Pos}{n:Nat}{fr:Fr}{s s1 s2 s3:Sg}{v w:V}{i:Nat}(h1:exX T (n+2) x fr s=some (.ok v s1))(h2:exX T (n+1) y fr s1=some (.ok w s2))(h3:exX T n z fr s2=some (.ex i s3)):exX T (n+4) (.tup [x,y,z] k p) fr s=some (.ex i s3):=xTupE (xsCE h1 (xsCE h2 (xsE h3)))
theorem xT4E {x y z t:X}{k:Nat}{p:Pos}{n:Nat}{fr:Fr}{s s1 s2 s3 s4:Sg}{v w u:V}{i:Nat}(h1:exX T (n+3) x fr s=some (.ok v s1))(h2:exX T (n+2) y fr s1=some (.ok w s2))(h3:exX T (n+1) z fr s2=some (.ok u s3))(h4:exX T n t fr s3=some (.ex i s4)):exX T (n+5) (.tup [x,y,z,t] k p) fr s=some (.ex i s4):=xTupE (xsCE h1 (xsCE h2 (xsCE h3 (xsE h4))))
theorem ss0 {n:Nat}{fr:Fr}{s:Sg}:exSs T (n+1) [] fr s=some (.nx fr s):=rfl
theorem ssR {x:X}{p:Pos}{l:List S}{n:Nat}{fr:Fr}{s:Sg}{r:R V}(h:exX T n x fr s=some r):exSs T (n+2) (.ret x p::l) fr s=some (rtR r fr):=by
 show(match (match exX T n x fr s with | some (.ok v s)=>some (RS.rt v s)| some (.ex i s)=>some (.ex i fr s)| none=>none)with | some (.nx fr s)=>exSs T (n+1) l fr s | o=>o)=_;rw[h];cases r<;>rfl
theorem ssE {x:X}{p:Pos}{l:List S}{n:Nat}{fr:Fr}{s:Sg}{s1:Sg}{v:V}{o:RS}(h:exX T n x fr s=some (.ok v s1))(h2:exSs T (n+1) l fr s1=some o):exSs T (n+2) (.expr x p::l) fr s=some o:=by
 show(match (match exX T n x fr s with | some (.ok _ s)=>some (RS.nx fr s)| some (.ex i s)=>some (.ex i fr s)| none=>none)with | some (.nx fr s)=>exSs T (n+1) l fr s | o=>o)=_;rw[h];exact h2
theorem ssEE {x:X}{p:Pos}{l:List S}{n:Nat}{fr:Fr}{s:Sg}{s1:Sg}{i:Nat}(h:exX T n x fr s=some (.ex i s1)):exSs T (n+2) (.expr x p::l) fr s=some (.ex i fr s1):=by
 show(match (match exX T n x fr s with | some (.ok _ s)=>some (RS.nx fr s)| some (.ex i s)=>some (.ex i fr s)| none=>none)with | some (.nx fr s)=>exSs T (n+1) l fr s | o=>o)=_;rw[h]
theorem ssA0 {q p:Pos}{x:X}{l:List S}{n:Nat}{y:Option V}{r:Fr}{s s1:Sg}{v:V}{o:RS}(h:exX T n x (y::r) s=some (.ok v s1))(h2:exSs T (n+1) l (some v::r) s1=some o):exSs T (n+2) (.asN 0 q x p::l) (y::r) s=some o:=by
 show(match (match exX T n x (y::r) s with | some (.ok v s)=>some (RS.nx (List.set (y::r) 0 (some v)) s)| some (.ex i s)=>some (.ex i (y::r) s)| none=>none)with | some (.nx fr s)=>exSs T (n+1) l fr s | o=>o)=_;rw[h];exact h2
theorem ssA1 {q p:Pos}{x:X}{l:List S}{n:Nat}{x0:Option V}{y:Option V}{r:Fr}{s s1:Sg}{v:V}{o:RS}(h:exX T n x (x0::y::r) s=some (.ok v s1))(h2:exSs T (n+1) l (x0::some v::r) s1=some o):exSs T (n+2) (.asN 1 q x p::l) (x0::y::r) s=some o:=by
 show(match (match exX T n x (x0::y::r) s with | some (.ok v s)=>some (RS.nx (List.set (x0::y::r) 1 (some v)) s)| some (.ex i s)=>some (.ex i (x0::y::r) s)| none=>none)with | some (.nx fr s)=>exSs T (n+1) l fr s | o=>o)=_;rw[h];exact h2
theorem ssA2 {q p:Pos}{x:X}{l:List S}{n:Nat}{x0 x1:Option V}{y:Option V}{r:Fr}{s s1:Sg}{v:V}{o:RS}(h:exX T n x (x0::x1::y::r) s=some (.ok v s1))(h2:exSs T (n+1) l (x0::x1::some v::r) s1=some o):exSs T (n+2) (.asN 2 q x p::l) (x0::x1::y::r) s=some o:=by
 show(match (match exX T n x (x0::x1::y::r) s with | some (.ok v s)=>some (RS.nx (List.set (x0::x1::y::r) 2 (some v)) s)| some (.ex i s)=>some (.ex i (x0::x1::y::r) s)| none=>none)with | some (.nx fr s)=>exSs T (n+1) l fr s | o=>o)=_;rw[h];exact h2
theorem ssA3 {q p:Pos}{x:X}{l:List S}{n:Nat}{x0 x1 x2:Option V}{y:Option V}{r:Fr}{s s1:Sg}{v:V}{o:RS}(h:exX T n x (x0::x1::x2::y::r) s=some (.ok v s1))(h2:exSs T (n+1) l (x0::x1::x2::some v::r) s1=some o):exSs T (n+2) (.asN 3 q x p::l) (x0::x1::x2::y::r) s=some o:=by
 show(match (match exX T n x (x0::x1::x2::y::r) s with | some (.ok v s)=>some (RS.nx (List.set (x0::x1::x2::y::r) 3 (some v)) s)| some (.ex i s)=>some (.ex i (x0::x1::x2::y::r) s)| none=>none)with | some (.nx fr s)=>exSs T (n+1) l fr s | o=>o)=_;rw[h];exact h2
theorem ssA4 {q p:Pos}{x:X}{l:List S}{n:Nat}{x0 x1 x2 x3:Option V}{y:Option V}{r:Fr}{s s1:Sg}{v:V}{o:RS}(h:exX T n x (x0::x1::x2::x3::y::r) s=some (.ok v s1))(h2:exSs T (n+1) l (x0::x1::x2::x3::some v::r) s1=some o):exSs T (n+2) (.asN 4 q x p::l) (x0::x1::x2::x3::y::r) s=some o:=by
 show(match (match exX T n x (x0::x1::x2::x3::y::r) s with | some (.ok v s)=>some (RS.nx (List.set (x0::x1::x2::x3::y::r) 4 (some v)) s)| some (.ex i s)=>some (.ex i (x0::x1::x2::x3::y::r) s)| none=>none)with | some (.nx fr s)=>exSs T (n+1) l fr s | o=>o)=_;rw[h];exact h2
theorem ssA5 {q p:Pos}{x:X}{l:List S}{n:Nat}{x0 x1 x2 x3 x4:Option V}{y:Option V}{r:Fr}{s s1:Sg}{v:V}{o:RS}(h:exX T n x (x0::x1::x2::x3::x4::y::r) s=some (.ok v s1))(h2:exSs T (n+1) l (x0::x1::x2::x3::x4::some v::r) s1=some o):exSs T (n+2) (.asN 5 q x p::l) (x0::x1::x2::x3::x4::y::r) s=some o:=by
 show(match (match exX T n x (x0::x1::x2::x3::x4::y::r) s with | some (.ok v s)=>some (RS.nx (List.set (x0::x1::x2::x3::x4::y::r) 5 (some v)) s)| some (.ex i s)=>some (.ex i (x0::x1::x2::x3::x4::y::r) s)| none=>none)with | some (.nx fr s)=>exSs T (n+1) l fr s | o=>o)=_;rw[h];exact h2
theorem ssA6 {q p:Pos}{x:X}{l:List S}{n:Nat}{x0 x1 x2 x3 x4 x5:Option V}{y:Option V}{r:Fr}{s s1:Sg}{v:V}{o:RS}(h:exX T n x (x0::x1::x2::x3::x4::x5::y::r) s=some (.ok v s1))(h2:exSs T (n+1) l (x0::x1::x2::x3::x4::x5::some v::r) s1=some o):exSs T (n+2) (.asN 6 q x p::l) (x0::x1::x2::x3::x4::x5::y::r) s=some o:=by
 show(match (match exX T n x (x0::x1::x2::x3::x4::x5::y::r) s with | some (.ok v s)=>some (RS.nx (List.set (x0::x1::x2::x3::x4::x5::y::r) 6 (some v)) s)| some (.ex i s)=>some (.ex i (x0::x1::x2::x3::x4::x5::y::r) s)| none=>none)with | some (.nx fr s)=>exSs T (n+1) l fr s | o=>o)=_;rw[h];exact h2
theorem ssA7 {q p:Pos}{x:X}{l:List S}{n:Nat}{x0 x1 x2 x3 x4 x5 x6:Option V}{y:Option V}{r:Fr}{s s1:Sg}{v:V}{o:RS}(h:exX T n x (x0::x1::x2::x3::x4::x5::x6::y::r) s=some (.ok v s1))(h2:exSs T (n+1) l (x0::x1::x2::x3::x4::x5::x6::some v::r) s1=some o):exSs T (n+2) (.asN 7 q x p::l) (x0::x1::x2::x3::x4::x5::x6::y::r) s=some o:=by
 show(match (match exX T n x (x0::x1::x2::x3::x4::x5::x6::y::r) s with | some (.ok v s)=>some (RS.nx (List.set (x0::x1::x2::x3::x4::x5::x6::y::r) 7 (some v)) s)| some (.ex i s)=>some (.ex i (x0::x1::x2::x3::x4::x5::x6::y::r) s)| none=>none)with | some (.nx fr s)=>exSs T (n+1) l fr s | o=>o)=_;rw[h];exact h2
theorem ssA8 {q p:Pos}{x:X}{l:List S}{n:Nat}{x0 x1 x2 x3 x4 x5 x6 x7:Option V}{y:Option V}{r:Fr}{s s1:Sg}{v:V}{o:RS}(h:exX T n x (x0::x1::x2::x3::x4::x5::x6::x7::y::r) s=some (.ok v s1))(h2:exSs T (n+1) l (x0::x1::x2::x3::x4::x5::x6::x7::some v::r) s1=some o):exSs T (n+2) (.asN 8 q x p::l) (x0::x1::x2::x3::x4::x5::x6::x7::y::r) s=some o:=by
 show(match (match exX T n x (x0::x1::x2::x3::x4::x5::x6::x7::y::r) s with | some (.ok v s)=>some (RS.nx (List.set (x0::x1::x2::x3::x4::x5::x6::x7::y::r) 8 (some v)) s)| some (.ex i s)=>some (.ex i (x0::x1::x2::x3::x4::x5::x6::x7::y::r) s)| none=>none)with | some (.nx fr s)=>exSs T (n+1) l fr s | o=>o)=_;rw[h];exact h2
theorem ssA9 {q p:Pos}{x:X}{l:List S}{n:Nat}{x0 x1 x2 x3 x4 x5 x6 x7 x8:Option V}{y:Option V}{r:Fr}{s s1:Sg}{v:V}{o:RS}(h:exX T n x (x0::x1::x2::x3::x4::x5::x6::x7::x8::y::r) s=some (.ok v s1))(h2:exSs T (n+1) l (x0::x1::x2::x3::x4::x5::x6::x7::x8::some v::r) s1=some o):exSs T (n+2) (.asN 9 q x p::l) (x0::x1::x2::x3::x4::x5::x6::x7::x8::y::r) s=some o:=by
 show(match (match exX T n x (x0::x1::x2::x3::x4::x5::x6::x7::x8::y::r) s with | some (.ok v s)=>some (RS.nx (List.set (x0::x1::x2::x3::x4::x5::x6::x7::x8::y::r) 9 (some v)) s)| some (.ex i s)=>some (.ex i (x0::x1::x2::x3::x4::x5::x6::x7::x8::y::r) s)| none=>none)with | some (.nx fr s)=>exSs T (n+1) l fr s | o=>o)=_;rw[h];exact h2
theorem ssA10 {q p:Pos}{x:X}{l:List S}{n:Nat}{x0 x1 x2 x3 x4 x5 x6 x7 x8 x9:Option V}{y:Option V}{r:Fr}{s s1:Sg}{v:V}{o:RS}(h:exX T n x (x0::x1::x2::x3::x4::x5::x6::x7::x8::x9::y::r) s=some (.ok v s1))(h2:exSs T (n+1) l (x0::x1::x2::x3::x4::x5::x6::x7::x8::x9::some v::r) s1=some o):exSs T (n+2) (.asN 10 q x p::l) (x0::x1::x2::x3::x4::x5::x6::x7::x8::x9::y::r) s=some o:=by
 show(match (match exX T n x (x0::x1::x2::x3::x4::x5::x6::x7::x8::x9::y::r) s with | some (.ok v s)=>some (RS.nx (List.set (x0::x1::x2::x3::x4::x5::x6::x7::x8::x9::y::r) 10 (some v)) s)| some (.ex i s)=>some (.ex i (x0::x1::x2::x3::x4::x5::x6::x7::x8::x9::y::r) s)| none=>none)with | some (.nx fr s)=>exSs T (n+1) l fr s | o=>o)=_;rw[h];exact h2
theorem ssA11 {q p:Pos}{x:X}{l:List S}{n:Nat}{x0 x1 x2 x3 x4 x5 x6 x7 x8 x9 x10:Option V}{y:Option V}{r:Fr}{s s1:Sg}{v:V}{o:RS}(h:exX T n x (x0::x1::x2::x3::x4::x5::x6::x7::x8::x9::x10::y::r) s=some (.ok v s1))(h2:exSs T (n+1) l (x0::x1::x2::x3::x4::x5::x6::x7::x8::x9::x10::some v::r) s1=some o):exSs T (n+2) (.asN 11 q x p::l) (x0::x1::x2::x3::x4::x5::x6::x7::x8::x9::x10::y::r) s=some o:=by
 show(match (match exX T n x (x0::x1::x2::x3::x4::x5::x6::x7::x8::x9::x10::y::r) s with | some (.ok v s)=>some (RS.nx (List.set (x0::x1::x2::x3::x4::x5::x6::x7::x8::x9::x10::y::r) 11 (some v)) s)| some (.ex i s)=>some (.ex i (x0::x1::x2::x3::x4::x5::x6::x7::x8::x9::x10::y::r) s)| none=>none)with | some (.nx fr s)=>exSs T (n+1) l fr s | o=>o)=_;rw[h];exact h2
theorem ssA12 {q p:Pos}{x:X}{l:List S}{n:Nat}{x0 x1 x2 x3 x4 x5 x6 x7 x8 x9 x10 x11:Option V}{y:Option V}{r:Fr}{s s1:Sg}{v:V}{o:RS}(h:exX T n x (x0::x1::x2::x3::x4::x5::x6::x7::x8::x9::x10::x11::y::r) s=some (.ok v s1))(h2:exSs T (n+1) l (x0::x1::x2::x3::x4::x5::x6::x7::x8::x9::x10::x11::some v::r) s1=some o):exSs T (n+2) (.asN 12 q x p::l) (x0::x1::x2::x3::x4::x5::x6::x7::x8::x9::x10::x11::y::r) s=some o:=by
 show(match (match exX T n x (x0::x1::x2::x3::x4::x5::x6::x7::x8::x9::x10::x11::y::r) s with | some (.ok v s)=>some (RS.nx (List.set (x0::x1::x2::x3::x4::x5::x6::x7::x8::x9::x10::x11::y::r) 12 (some v)) s)| some (.ex i s)=>some (.ex i (x0::x1::x2::x3::x4::x5::x6::x7::x8::x9::x10::x11::y::r) s)| none=>none)with | some (.nx fr s)=>exSs T (n+1) l fr s | o=>o)=_;rw[h];exact h2
theorem ssAE {j:Nat}{q p:Pos}{x:X}{l:List S}{n:Nat}{fr:Fr}{s:Sg}{s1:Sg}{i:Nat}(h:exX T n x fr s=some (.ex i s1)):exSs T (n+2) (.asN j q x p::l) fr s=some (.ex i fr s1):=by
 show(match (match exX T n x fr s with | some (.ok v s)=>some (RS.nx (fr.set j (some v)) s)| some (.ex i s)=>some (.ex i fr s)| none=>none)with | some (.nx fr s)=>exSs T (n+1) l fr s | o=>o)=_;rw[h]
theorem ssT {ts:List (Nat × Pos)}{k:Nat}{q p:Pos}{x:X}{l:List S}{n:Nat}{fr:Fr}{s:Sg}{s1:Sg}{vs:List V}{fr1:Fr}{o:RS}(h:exX T n x fr s=some (.ok (.tup vs) s1))(h1:putT fr ts vs=some fr1)(h2:exSs T (n+1) l fr1 s1=some o):exSs T (n+2) (.asT ts k q x p::l) fr s=some o:=by
 show(match (match exX T n x fr s with | some (.ok (.tup vs) s)=>(putT fr ts vs).map fun fr=>RS.nx fr s | some (.ok _ _)=>none | some (.ex i s)=>some (.ex i fr s)| none=>none)with | some (.nx fr s)=>exSs T (n+1) l fr s | o=>o)=_;rw[h];dsimp only;rw[h1];exact h2
theorem ssAA {o:X}{f:Nat}{q p:Pos}{x:X}{l:List S}{n:Nat}{fr:Fr}{s:Sg}{s1 s2 s3:Sg}{v ov:V}{o':RS}(h:exX T n x fr s=some (.ok v s1))(h1:exX T n o fr s1=some (.ok ov s2))(h3:setA s2 ov f v=some s3)(h4:exSs T (n+1) l fr s3=some o'):exSs T (n+2) (.asA o f q x p::l) fr s=some o':=by
 show(match (match bnd (exX T n x fr s) fun v s=>bnd (exX T n o fr s) fun o s=>match o with
     | .ref i=>match s[i]? with
      |some (.inst C fs)=>if f≤10∧C≠0∧fs.length≤40 then some (.ok V.none (s.set i (.inst C (fput f v fs))))else none
      |_=>none
     |_=>none with
   |some (.ok _ s)=>some (RS.nx fr s)
   |some (.ex i s)=>some (.ex i fr s)
   |none=>none)with | some (.nx fr s)=>exSs T (n+1) l fr s | o=>o)=_
 rw[h]
 show(match (match bnd (exX T n o fr s1) fun o s=>match o with
     | .ref i=>match s[i]? with
      |some (.inst C fs)=>if f≤10∧C≠0∧fs.length≤40 then some (.ok V.none (s.set i (.inst C (fput f v fs))))else none
      |_=>none
     |_=>none with
   |some (.ok _ s)=>some (RS.nx fr s)
   |some (.ex i s)=>some (.ex i fr s)
   |none=>none)with | some (.nx fr s)=>exSs T (n+1) l fr s | o=>o)=_
 rw[h1]
 unfold setA at h3
 cases ov with
 |ref i =>
  dsimp only[bnd]at h3 ⊢
  generalize s2[i]?=z at h3 ⊢
  match z,h3 with
  |some (.inst C fs),h3 =>
   dsimp only at h3 ⊢
   by_cases hc:f≤10∧C≠0∧fs.length≤40
   ·rw[if_pos hc]at h3 ⊢
    obtain rfl:=Option.some.inj h3
    exact h4
   ·rw[if_neg hc]at h3
    cases h3
 |_=>cases h3
theorem ssI {t:X}{a e l:List S}{p:Pos}{n:Nat}{fr:Fr}{s:Sg}{s1:Sg}{v:V}{b:Bool}{o o':RS}(h1:exX T n t fr s=some (.ok v s1))(h2:truthy s1 v=some b)(h3:exSs T n (sel b a e) fr s1=some o)(h4:sq o (exSs T (n+1) l)=some o'):exSs T (n+2) (.ifs t a e p::l) fr s=some o':=by
 show(match (match exX T n t fr s with | some (.ok v s)=>(match truthy s v with | some true=>exSs T n a fr s | some false=>exSs T n e fr s | none=>none)| some (.ex i s)=>some (.ex i fr s)| none=>none)with | some (.nx fr s)=>exSs T (n+1) l fr s | o=>o)=_
 rw[h1];dsimp only;rw[h2]
 cases b
 all_goals
  dsimp only at h3 ⊢;rw[h3];cases o<;>exact h4
theorem sqN {f:Fr→Sg→Option RS}{fr:Fr}{s:Sg}{o:RS}(h:f fr s=some o):sq (.nx fr s) f=some o:=h
theorem sqR {f:Fr→Sg→Option RS}{r:R V}{fr:Fr}:sq (rtR r fr) f=some (rtR r fr):=by cases r<;>rfl
theorem sqE {f:Fr→Sg→Option RS}{i:Nat}{fr:Fr}{s:Sg}:sq (.ex i fr s) f=some (.ex i fr s):=rfl
theorem ssW {t:X}{a l:List S}{p:Pos}{n:Nat}{fr:Fr}{s:Sg}{o o':RS}(h1:exW T n t a fr s=some o)(h2:sq o (exSs T (n+1) l)=some o'):exSs T (n+2) (.whl t a p::l) fr s=some o':=by
 show(match (exW T n t a fr s)with | some (.nx fr s)=>exSs T (n+1) l fr s | o=>o)=_
 rw[h1];cases o<;>exact h2
theorem wF {t:X}{a:List S}{n:Nat}{fr:Fr}{s:Sg}{s1:Sg}{v:V}(h1:exX T n t fr s=some (.ok v s1))(h2:truthy s1 v=some false):exW T (n+1) t a fr s=some (.nx fr s1):=by
 show(match exX T n t fr s with | some (.ok v s)=>(match truthy s v with | some true=>(match exSs T n a fr s with | some (.nx fr s)=>exW T n t a fr s | o=>o)| some false=>some (RS.nx fr s)| none=>none)| some (.ex i s)=>some (.ex i fr s)| none=>none)=_
 rw[h1];dsimp only;rw[h2]
theorem wT {t:X}{a:List S}{n:Nat}{fr:Fr}{s:Sg}{s1:Sg}{v:V}{o o':RS}(h1:exX T n t fr s=some (.ok v s1))(h2:truthy s1 v=some true)(h3:exSs T n a fr s1=some o)(h4:sq o (exW T n t a)=some o'):exW T (n+1) t a fr s=some o':=by
 show(match exX T n t fr s with | some (.ok v s)=>(match truthy s v with | some true=>(match exSs T n a fr s with | some (.nx fr s)=>exW T n t a fr s | o=>o)| some false=>some (RS.nx fr s)| none=>none)| some (.ex i s)=>some (.ex i fr s)| none=>none)=_
 rw[h1];dsimp only;rw[h2];dsimp only;rw[h3];cases o<;>exact h4
theorem ssF {i:Nat}{q p:Pos}{x:X}{a l:List S}{n:Nat}{fr:Fr}{s:Sg}{s1:Sg}{vs:List V}{o o':RS}(h1:exX T n x fr s=some (.ok (.lst vs) s1))(h2:exF T n (fun fr v=>some (fr.set i (some v))) a vs fr s1=some o)(h3:sq o (exSs T (n+1) l)=some o'):exSs T (n+2) (.forN i q x a p::l) fr s=some o':=by
 show(match (match exX T n x fr s with | some (.ok v s)=>(match v with | .lst l=>exF T n (fun fr v=>some (fr.set i (some v))) a l fr s | .ref j=>exL T n (fun fr v=>some (fr.set i (some v))) a j 0 fr s | _=>none)| some (.ex i s)=>some (.ex i fr s)| none=>none)with | some (.nx fr s)=>exSs T (n+1) l fr s | o=>o)=_
 rw[h1];dsimp only;rw[h2];cases o<;>exact h3
theorem ssFL {i:Nat}{q p:Pos}{x:X}{a l:List S}{n:Nat}{fr:Fr}{s:Sg}{s1:Sg}{j:Nat}{o o':RS}(h1:exX T n x fr s=some (.ok (.ref j) s1))(h2:exL T n (fun fr v=>some (fr.set i (some v))) a j 0 fr s1=some o)(h3:sq o (exSs T (n+1) l)=some o'):exSs T (n+2) (.forN i q x a p::l) fr s=some o':=by
 show(match (match exX T n x fr s with | some (.ok v s)=>(match v with | .lst l=>exF T n (fun fr v=>some (fr.set i (some v))) a l fr s | .ref j=>exL T n (fun fr v=>some (fr.set i (some v))) a j 0 fr s | _=>none)| some (.ex i s)=>some (.ex i fr s)| none=>none)with | some (.nx fr s)=>exSs T (n+1) l fr s | o=>o)=_
 rw[h1];dsimp only;rw[h2];cases o<;>exact h3
theorem ssFR {i:Nat}{q bp cp p:Pos}{x:X}{a l:List S}{n:Nat}{fr:Fr}{s:Sg}{s1:Sg}{k:Int}{o o':RS}(h1:exX T n x fr s=some (.ok (.int k) s1))(hk:0≤k∧k≤1000)(h2:exF T n (fun fr v=>some (fr.set i (some v))) a ((List.range k.toNat).map fun j:Nat=>.int j) fr s1=some o)(h3:sq o (exSs T (n+1) l)=some o'):exSs T (n+2) (.forR i q bp cp x a p::l) fr s=some o':=by
 show(match (match exX T n x fr s with | some (.ok v s)=>(match v with | .int k=>if 0≤k∧k≤1000 then exF T n (fun fr v=>some (fr.set i (some v))) a ((List.range k.toNat).map fun j:Nat=>.int j) fr s else none | _=>none)| some (.ex i s)=>some (.ex i fr s)| none=>none)with | some (.nx fr s)=>exSs T (n+1) l fr s | o=>o)=_
 rw[h1];dsimp only;rw[if_pos hk,h2];cases o<;>exact h3
theorem lE {i:Nat}{a:List S}{q k:Nat}{n:Nat}{fr:Fr}{s:Sg}{l:List V}(h0:s[q]?=some (.list l))(h1:l[k]?=none):exL T (n+1) (fun fr v=>some (fr.set i (some v))) a q k fr s=some (.nx fr s):=by
 show(match items s (.ref q)with | some l=>(match l[k]? with | none=>some (RS.nx fr s)| some v=>nxK (exSs T n a (fr.set i (some v)) s) (exL T n (fun fr v=>some (fr.set i (some v))) a q (k+1)))| none=>none)=_
 rw[show items s (.ref q)=some l by show(match s[q]? with | some (.list l)=>some l | _=>none)=_;rw[h0]];dsimp only;rw[h1]
theorem lC {i:Nat}{a:List S}{q k:Nat}{n:Nat}{fr:Fr}{s:Sg}{l:List V}{v:V}{o o':RS}(h0:s[q]?=some (.list l))(h1:l[k]?=some v)(h2:exSs T n a (fr.set i (some v)) s=some o)(h3:sq o (exL T n (fun fr v=>some (fr.set i (some v))) a q (k+1))=some o'):exL T (n+1) (fun fr v=>some (fr.set i (some v))) a q k fr s=some o':=by
 show(match items s (.ref q)with | some l=>(match l[k]? with | none=>some (RS.nx fr s)| some v=>nxK (exSs T n a (fr.set i (some v)) s) (exL T n (fun fr v=>some (fr.set i (some v))) a q (k+1)))| none=>none)=_
 rw[show items s (.ref q)=some l by show(match s[q]? with | some (.list l)=>some l | _=>none)=_;rw[h0]];dsimp only;rw[h1];dsimp only;rw[h2];cases o<;>exact h3
theorem f0 {st:Fr→V→Option Fr}{a:List S}{n:Nat}{fr:Fr}{s:Sg}:exF T (n+1) st a [] fr s=some (.nx fr s):=rfl
theorem fC {st:Fr→V→Option Fr}{a:List S}{n:Nat}{fr:Fr}{s:Sg}{v:V}{r:List V}{fr1:Fr}{o o':RS}(h0:st fr v=some fr1)(h1:exSs T n a fr1 s=some o)(h2:sq o (exF T n st a r)=some o'):exF T (n+1) st a (v::r) fr s=some o':=by
 show(match st fr v with | some fr=>(match exSs T n a fr s with | some (.nx fr s)=>exF T n st a r fr s | o=>o)| none=>none)=_
 rw[h0];dsimp only;rw[h1];cases o<;>exact h2
theorem fC1 {a:List S}{n:Nat}{x0:Option V}{y:Option V}{fr:Fr}{s:Sg}{v:V}{r:List V}{o o':RS}(h1:exSs T n a (x0::some v::fr) s=some o)(h2:sq o (exF T n (fun fr v=>some (fr.set 1 (some v))) a r)=some o'):exF T (n+1) (fun fr v=>some (fr.set 1 (some v))) a (v::r) (x0::y::fr) s=some o':=by
 exact fC rfl h1 h2
theorem fC2 {a:List S}{n:Nat}{x0 x1:Option V}{y:Option V}{fr:Fr}{s:Sg}{v:V}{r:List V}{o o':RS}(h1:exSs T n a (x0::x1::some v::fr) s=some o)(h2:sq o (exF T n (fun fr v=>some (fr.set 2 (some v))) a r)=some o'):exF T (n+1) (fun fr v=>some (fr.set 2 (some v))) a (v::r) (x0::x1::y::fr) s=some o':=by
 exact fC rfl h1 h2
theorem fC3 {a:List S}{n:Nat}{x0 x1 x2:Option V}{y:Option V}{fr:Fr}{s:Sg}{v:V}{r:List V}{o o':RS}(h1:exSs T n a (x0::x1::x2::some v::fr) s=some o)(h2:sq o (exF T n (fun fr v=>some (fr.set 3 (some v))) a r)=some o'):exF T (n+1) (fun fr v=>some (fr.set 3 (some v))) a (v::r) (x0::x1::x2::y::fr) s=some o':=by
 exact fC rfl h1 h2
theorem fC4 {a:List S}{n:Nat}{x0 x1 x2 x3:Option V}{y:Option V}{fr:Fr}{s:Sg}{v:V}{r:List V}{o o':RS}(h1:exSs T n a (x0::x1::x2::x3::some v::fr) s=some o)(h2:sq o (exF T n (fun fr v=>some (fr.set 4 (some v))) a r)=some o'):exF T (n+1) (fun fr v=>some (fr.set 4 (some v))) a (v::r) (x0::x1::x2::x3::y::fr) s=some o':=by
 exact fC rfl h1 h2
theorem ssX {x:X}{p:Pos}{l:List S}{n:Nat}{fr:Fr}{s:Sg}{s1 s2:Sg}{i:Nat}{fs:List (Nat × V)}(h:exX T n x fr s=some (.ok (.ref i) s1))(h1:s1[i]?=some (.new 0 fs))(h2:s1.set i (.exc 0 fs)=s2):exSs T (n+2) (.raise x p::l) fr s=some (.ex i fr s2):=by
 show(match (match exX T n x fr s with
   |some (.ok v s)=>raiS fr v s
   |some (.ex i s)=>some (.ex i fr s)
   |none=>none)with | some (.nx fr s)=>exSs T (n+1) l fr s | o=>o)=_
 rw[h];show(match (match s1[i]? with | some (.new C fs)=>if C=0 then some (RS.ex i fr (s1.set i (.exc C fs)))else none | _=>none)with | some (.nx fr s)=>exSs T (n+1) l fr s | o=>o)=_
 rw[h1];subst h2;rfl
theorem ssYn {a l:List S}{hh:Hn}{g i:Nat}{pg ph p:Pos}{n:Nat}{fr:Fr}{s:Sg}{s1:Sg}{fr1:Fr}{o:RS}(h:exSs T n a fr s=some (.nx fr1 s1))(h2:exSs T (n+1) l fr1 s1=some o):exSs T (n+2) (.try1 a g pg i hh ph p::l) fr s=some o:=by
 show(match (match exSs T n a fr s with
   |some (.ex e fr s)=>tryH g i hh e fr s
   |o=>o)with | some (.nx fr s)=>exSs T (n+1) l fr s | o=>o)=_
 rw[h];exact h2
theorem ssYr {a l:List S}{hh:Hn}{g i:Nat}{pg ph p:Pos}{n:Nat}{fr:Fr}{s:Sg}{s1:Sg}{v:V}(h:exSs T n a fr s=some (.rt v s1)):exSs T (n+2) (.try1 a g pg i hh ph p::l) fr s=some (.rt v s1):=by
 show(match (match exSs T n a fr s with
   |some (.ex e fr s)=>tryH g i hh e fr s
   |o=>o)with | some (.nx fr s)=>exSs T (n+1) l fr s | o=>o)=_
 rw[h]
theorem ssYT {a l:List S}{hh:Hn}{g i:Nat}{pg ph p:Pos}{n:Nat}{fr:Fr}{s:Sg}{s1:Sg}{fr1:Fr}{e:Nat}{o o':RS}(h:exSs T n a fr s=some (.ex e fr1 s1))(hc:tryH g i hh e fr1 s1=some o)(h2:sq o (exSs T (n+1) l)=some o'):exSs T (n+2) (.try1 a g pg i hh ph p::l) fr s=some o':=by
 show(match (match exSs T n a fr s with
   |some (.ex e fr s)=>tryH g i hh e fr s
   |o=>o)with | some (.nx fr s)=>exSs T (n+1) l fr s | o=>o)=_
 rw[h];dsimp only;rw[hc];cases o<;>exact h2
theorem ssD {o k x:X}{q p:Pos}{l:List S}{n:Nat}{fr:Fr}{s:Sg}{s1 s2 s3 s4:Sg}{v:V}{r:Nat}{j:Int}{c:List V}{o':RS}(h:exX T n x fr s=some (.ok v s1))(h1:exX T n o fr s1=some (.ok (.ref r) s2))(h2:exX T n k fr s2=some (.ok (.int j) s3))(h3:s3[r]?=some (.list c))(h4:0≤j∧j≤1000∧j.toNat<c.length)(h5:s3.set r (.list (c.set j.toNat v))=s4)(h6:exSs T (n+1) l fr s4=some o'):exSs T (n+2) (.asI o k q x p::l) fr s=some o':=by
 show(match (match bnd (exX T n x fr s) fun v s=>bnd (exX T n o fr s) fun o s=>bnd (exX T n k fr s) fun k s=>match o,k with
     | .ref i,.int j=>match s[i]? with
      |some (.list l)=>if 0≤j∧j≤1000∧j.toNat<l.length then some (.ok V.none (s.set i (.list (l.set j.toNat v))))else none
      |_=>none
     |_,_=>none with
   |some (.ok _ s)=>some (RS.nx fr s)
   |some (.ex i s)=>some (.ex i fr s)
   |none=>none)with | some (.nx fr s)=>exSs T (n+1) l fr s | o=>o)=_
 rw[h]
 dsimp only[bnd]
 rw[h1]
 dsimp only
 rw[h2]
 dsimp only
 rw[h3]
 dsimp only
 rw[if_pos h4]
 subst h5
 exact h6
theorem ssFT {ts:List (Nat × Pos)}{k:Nat}{q bp bp2 p:Pos}{x:X}{a l:List S}{n:Nat}{fr:Fr}{s:Sg}{s1:Sg}{vs:List V}{o o':RS}(h1:exXs T n [x] fr s=some (.ok [.lst vs] s1))(h2:exF T n (stT ts) a (enumV 0 vs) fr s1=some o)(h3:sq o (exSs T (n+1) l)=some o'):exSs T (n+2) (.forT ts k q (.bcall 6 bp [x] bp2) a p::l) fr s=some o':=by
 show(match (match bnd (exXs T n [x] fr s) (fun vs s=>match vs with | [v]=>some (.ok v s)| _=>none)with
   |some (.ok v s)=>(match v with
    | .lst l=>exF T n (stT ts) a (enumV 0 l) fr s
    |_=>none)
   |some (.ex i s)=>some (.ex i fr s)
   |none=>none)with | some (.nx fr s)=>exSs T (n+1) l fr s | o=>o)=_
 rw[h1];dsimp only[bnd];rw[h2];cases o<;>exact h3
theorem new_of {g k n:Nat}{as:List V}{s s':Sg}(hi:T.init g=some k)(hf:T.fn g=none)(h:callV T n (.base k) (.ref s.length::as) (s++[.inst g []])=some (.ok .none s')):callV T (n+1) (.base g) as s=some (.ok (.ref s.length) s'):=by
 show(match T.fn g with
   |some d =>
    if as.length≤d.np&&d.np≤as.length+d.dflt.length then
     match exSs T n d.body ((as++d.dflt.drop (d.dflt.length - (d.np - as.length))).map some++List.replicate (d.nm.length - d.np) none) s with
     |some (.nx _ s)=>some (R.ok V.none s)
     |some (.rt v s)=>some (R.ok v s)
     |some (.ex i _ s)=>some (R.ex i s)
     |none=>none
    else none
   |none=>match T.init g with
    |some k=>bnd (callV T n (V.base k) (V.ref s.length::as) (s++[Cell.inst g []])) fun v s'=>match v with | .none=>some (R.ok (V.ref s.length) s')| _=>none
    |none=>if g=0∧3≤n then match (generalizing:=false) as with
      | [w,a]=>some (R.ok (V.ref s.length) (s++[Cell.new g [(10,w),(1,a)]]))
      |_=>none
     else none)=_
 rw[hf]
 dsimp only
 rw[hi]
 dsimp only
 rw[h]
 rfl
theorem get_new {s:Sg}{c:Cell}:(s++[c])[s.length]?=some c:=(List.getElem?_append_right (Nat.le_refl _)).trans (by rw[Nat.sub_self];rfl)
theorem set_new {s:Sg}{c c':Cell}:(s++[c]).set s.length c'=s++[c']:=(List.set_append_right _ _ (Nat.le_refl _)).trans (by rw[Nat.sub_self];rfl)
theorem pT23 {x y z w:Option V}{r:Fr}{p q:Pos}{u v:V}:putT (x::y::z::w::r) [(2,p),(3,q)] [u,v]=some (x::y::some u::some v::r):=rfl
theorem cLeB {x y:CS}{b:Bool}(h:cle x y=b):cmpV .LtE (.str x) (.str y)=some b:=congrArg some h
theorem cSubB {x y:CS}{b:Bool}(h:isSub x y=b):cmpV .In (.str x) (.str y)=some b:=congrArg some h
theorem sStr0 {s:Sg}{c:Nat}{l:CS}:subV s (.str (c::l)) (.int 0)=some (.str [c]):=rfl
theorem setN {σ:Sg}{C f:Nat}{fs:List (Nat × V)}{v:V}{fs':List (Nat × V)}(h:(Nat.ble f 10&&!Nat.beq C 0&&Nat.ble fs.length 40)=true)(hf:fput f v fs=fs'):setA (σ++[.inst C fs]) (.ref σ.length) f v=some (σ++[.inst C fs']):=by
 unfold setA
 dsimp only
 rw[get_new]
 rw[Bool.and_eq_true,Bool.and_eq_true,Bool.not_eq_true']at h
 refine(if_pos ⟨Nat.le_of_ble_eq_true h.1.1,Nat.ne_of_beq_eq_false h.1.2,Nat.le_of_ble_eq_true h.2⟩).trans (congrArg some ?_)
 rw[hf]
 exact set_new
theorem tB {s:Sg}{b:Bool}:truthy s (.bool b)=some b:=rfl
theorem cNR {i:Nat}:cmpV .IsNot (.ref i) .none=some true:=rfl
theorem cNN:cmpV .IsNot .none .none=some false:=rfl
theorem cIR {i:Nat}:cmpV .Is (.ref i) .none=some false:=rfl
theorem cI0:cmpV .Is .none .none=some true:=rfl
theorem cEd {x y:CS}{b:Bool}(h1:isData (.str x)=true)(h2:isData (.str y)=true)(e:decide (x=y)=b):cmpV .Eq (.str x) (.str y)=some b:=(if_pos (Bool.and_eq_true_iff.mpr ⟨h1,h2⟩)).trans (congrArg some e)
theorem cET {x y:CS}(h1:isData (.str x)=true)(h2:isData (.str y)=true)(e:x=y):cmpV .Eq (.str x) (.str y)=some true:=cEd h1 h2 (decide_eq_true e)
theorem cEF {x y:CS}(h1:isData (.str x)=true)(h2:isData (.str y)=true)(e:¬x=y):cmpV .Eq (.str x) (.str y)=some false:=cEd h1 h2 (decide_eq_false e)
theorem cNd {x y:CS}{b:Bool}(h1:isData (.str x)=true)(h2:isData (.str y)=true)(e:decide (x=y)=b):cmpV .NotEq (.str x) (.str y)=some (bn b):=(if_pos (Bool.and_eq_true_iff.mpr ⟨h1,h2⟩)).trans (congrArg some ((congrArg (!·) e).trans bn_eq))
theorem cNT {x y:CS}(h1:isData (.str x)=true)(h2:isData (.str y)=true)(e:x=y):cmpV .NotEq (.str x) (.str y)=some false:=cNd h1 h2 (decide_eq_true e)
theorem cNF {x y:CS}(h1:isData (.str x)=true)(h2:isData (.str y)=true)(e:¬x=y):cmpV .NotEq (.str x) (.str y)=some true:=cNd h1 h2 (decide_eq_false e)
theorem cTi {x:CS}{l:List V}{ks:List CS}{b:Bool}(h:strsV l=some ks)(e:decide (x∈ks)=b):cmpV .In (.str x) (.tup l)=some b:=by
 rw[←e];show(strsV l).map (·.contains x)=_;rw[h];simp
theorem cTn {x:CS}{l:List V}{ks:List CS}{b:Bool}(h:strsV l=some ks)(e:decide (x∈ks)=b):cmpV .NotIn (.str x) (.tup l)=some (bn b):=by
 rw[←e,←bn_eq];show((strsV l).map (·.contains x)).map (!·)=_;rw[h];simp
theorem cTnT {x:CS}{l:List V}{ks:List CS}(h:strsV l=some ks)(e:x∈ks):cmpV .NotIn (.str x) (.tup l)=some false:=cTn h (decide_eq_true e)
theorem cTnF {x:CS}{l:List V}{ks:List CS}(h:strsV l=some ks)(e:¬x∈ks):cmpV .NotIn (.str x) (.tup l)=some true:=cTn h (decide_eq_false e)
theorem cDi {x:CS}{ks:List CS}{vs:List V}{b:Bool}(e:decide (x∈ks)=b):cmpV .In (.str x) (.dct ks vs)=some b:=by
 rw[←e];show some (ks.contains x)=_;simp
theorem cDn {x:CS}{ks:List CS}{vs:List V}{b:Bool}(e:decide (x∈ks)=b):cmpV .NotIn (.str x) (.dct ks vs)=some (bn b):=by
 rw[←e,←bn_eq];show some (!ks.contains x)=_;simp
theorem cDnT {x:CS}{ks:List CS}{vs:List V}(e:x∈ks):cmpV .NotIn (.str x) (.dct ks vs)=some false:=cDn (decide_eq_true e)
theorem cDnF {x:CS}{ks:List CS}{vs:List V}(e:¬x∈ks):cmpV .NotIn (.str x) (.dct ks vs)=some true:=cDn (decide_eq_false e)
theorem bAdd {s:Sg}{x y:Int}:binV s .Add (.int x) (.int y)=some (.int (x+y)):=rfl
theorem bSub {s:Sg}{x y:Int}:binV s .Sub (.int x) (.int y)=some (.int (x - y)):=rfl
theorem bStr {s:Sg}{x y:CS}(h:sml (x.length+y.length)=true):binV s .Add (.str x) (.str y)=some (.str (x++y)):=if_pos h
theorem bLL {s:Sg}{x y:List V}(h:sml (x.length+y.length)=true):binV s .Add (.lst x) (.lst y)=some (.lst (x++y)):=if_pos h
theorem sD {s:Sg}{ks:List CS}{vs:List V}{x:CS}{v:V}(h:dget x ks vs=some v):subV s (.dct ks vs) (.str x)=some v:=h
theorem sm0:sml ([]:List V).length=true:=rfl
theorem sm1 {a:V}:sml [a].length=true:=rfl
theorem sm2 {a b:V}:sml [a,b].length=true:=rfl
theorem sm3 {a b c:V}:sml [a,b,c].length=true:=rfl
theorem sm4 {a b c d:V}:sml [a,b,c,d].length=true:=rfl
theorem sm5 {a b c d e:V}:sml [a,b,c,d,e].length=true:=rfl
theorem cLtT {x y:Int}(h:x<y):cmpV .Lt (.int x) (.int y)=some true:=congrArg some (decide_eq_true h)
theorem cLtF {x y:Int}(h:¬x<y):cmpV .Lt (.int x) (.int y)=some false:=congrArg some (decide_eq_false h)
theorem cGtF {x y:Int}(h:¬y<x):cmpV .Gt (.int x) (.int y)=some false:=congrArg some (decide_eq_false h)
theorem cGtT {x y:Int}(h:y<x):cmpV .Gt (.int x) (.int y)=some true:=congrArg some (decide_eq_true h)
theorem cGeF {x y:Int}(h:¬y≤x):cmpV .GtE (.int x) (.int y)=some false:=congrArg some (decide_eq_false h)
theorem cGeT {x y:Int}(h:y≤x):cmpV .GtE (.int x) (.int y)=some true:=congrArg some (decide_eq_true h)
theorem sml_of {n:Nat}(h:n≤1000):sml n=true:=decide_eq_true h
theorem dT {P:Prop}[Decidable P](h:P):decide P=true:=decide_eq_true h
theorem dF {P:Prop}[Decidable P](h:¬P):decide P=false:=decide_eq_false h
end
end Mine.Pu
end
section
namespace Mine.Pu
open PySem
theorem c16 {x0:V}{σ:List Cell}(n:Nat):callV TB (n+1) (.base 16) [x0] σ=cres (exSs TB n bdx16 [some x0,none,none] σ):=rfl
theorem c19 {x0 x1:V}{σ:List Cell}(n:Nat):callV TB (n+1) (.base 19) [x0,x1] σ=cres (exSs TB n bdx19 [some x0,some x1,none,none,none,none] σ):=rfl
theorem c21 {x0:V}{σ:List Cell}(n:Nat):callV TB (n+1) (.base 21) [x0] σ=cres (exSs TB n bdx21 [some x0] σ):=rfl
theorem c22 {x0 x1:V}{σ:List Cell}(n:Nat):callV TB (n+1) (.base 22) [x0,x1] σ=cres (exSs TB n bdx22 [some x0,some x1,none] σ):=rfl
theorem c23 {x0:V}{σ:List Cell}(n:Nat):callV TB (n+1) (.base 23) [x0] σ=cres (exSs TB n bdx23 [some x0] σ):=rfl
theorem c24 {x0 x1:V}{σ:List Cell}(n:Nat):callV TB (n+1) (.base 24) [x0,x1] σ=cres (exSs TB n bdx24 [some x0,some x1,none] σ):=rfl
theorem c25 {x0 x1:V}{σ:List Cell}(n:Nat):callV TB (n+1) (.base 25) [x0,x1] σ=cres (exSs TB n bdx25 [some x0,some x1,none,none] σ):=rfl
theorem c26 {x0 x1:V}{σ:List Cell}(n:Nat):callV TB (n+1) (.base 26) [x0,x1] σ=cres (exSs TB n bdx26 [some x0,some x1,none,none] σ):=rfl
theorem c27 {x0 x1:V}{σ:List Cell}(n:Nat):callV TB (n+1) (.base 27) [x0,x1] σ=cres (exSs TB n bdx27 [some x0,some x1,none,none,none] σ):=rfl
theorem c29 {x0 x1:V}{σ:List Cell}(n:Nat):callV TB (n+1) (.base 29) [x0,x1] σ=cres (exSs TB n bdx29 [some x0,some x1,none] σ):=rfl
theorem c30 {x0 x1:V}{σ:List Cell}(n:Nat):callV TB (n+1) (.base 30) [x0,x1] σ=cres (exSs TB n bdx30 [some x0,some x1,none] σ):=rfl
theorem c32 {x0 x1:V}{σ:List Cell}(n:Nat):callV TB (n+1) (.base 32) [x0,x1] σ=cres (exSs TB n bdx32 [some x0,some x1,none] σ):=rfl
theorem c33 {x0 x1:V}{σ:List Cell}(n:Nat):callV TB (n+1) (.base 33) [x0,x1] σ=cres (exSs TB n bdx33 [some x0,some x1,none] σ):=rfl
theorem c34 {x0:V}{σ:List Cell}(n:Nat):callV TB (n+1) (.base 34) [x0] σ=cres (exSs TB n bdx34 [some x0,none] σ):=rfl
theorem c35 {x0:V}{σ:List Cell}(n:Nat):callV TB (n+1) (.base 35) [x0] σ=cres (exSs TB n bdx35 [some x0,none,none] σ):=rfl
theorem c36 {x0:V}{σ:List Cell}(n:Nat):callV TB (n+1) (.base 36) [x0] σ=cres (exSs TB n bdx36 [some x0] σ):=rfl
theorem c37 {x0 x1:V}{σ:List Cell}(n:Nat):callV TB (n+1) (.base 37) [x0,x1] σ=cres (exSs TB n bdx37 [some x0,some x1] σ):=rfl
theorem c38 {x0:V}{σ:List Cell}(n:Nat):callV TB (n+1) (.base 38) [x0] σ=cres (exSs TB n bdx38 [some x0] σ):=rfl
theorem c40 {x0 x1:V}{σ:List Cell}(n:Nat):callV TB (n+1) (.base 40) [x0,x1] σ=cres (exSs TB n bdx40 [some x0,some x1,none,none,none,none] σ):=rfl
theorem c41 {x0:V}{σ:List Cell}(n:Nat):callV TB (n+1) (.base 41) [x0] σ=cres (exSs TB n bdx41 [some x0] σ):=rfl
theorem c42 {x0:V}{σ:List Cell}(n:Nat):callV TB (n+1) (.base 42) [x0] σ=cres (exSs TB n bdx42 [some x0,none,none,none,none] σ):=rfl
theorem c43 {x0:V}{σ:List Cell}(n:Nat):callV TB (n+1) (.base 43) [x0] σ=cres (exSs TB n bdx43 [some x0] σ):=rfl
theorem c46 {x0 x1 x2:V}{σ:List Cell}(n:Nat):callV TB (n+1) (.base 46) [x0,x1,x2] σ=cres (exSs TB n bdx46 [some x0,some x1,some x2,none,none,none,none,none,none,none,none,none,none] σ):=rfl
theorem c47 {x0 x1:V}{σ:List Cell}(n:Nat):callV TB (n+1) (.base 47) [x0,x1] σ=cres (exSs TB n bdx47 [some x0,some x1,none,none,none,none,none,none,none,none,none,none,none] σ):=rfl
theorem c90 {x0:V}{σ:List Cell}(n:Nat):callV TB (n+1) (.base 90) [x0] σ=cres (exSs TB n bdx90 [some x0,none,none,none,none,none,none,none] σ):=rfl
theorem c199 {x0 x1 x2 x3 x4:V}{σ:List Cell}(n:Nat):callV TB (n+1) (.base 199) [x0,x1,x2,x3,x4] σ=cres (exSs TB n bdx199 [some x0,some x1,some x2,some x3,some x4] σ):=rfl
theorem c211 {x0 x1:V}{σ:List Cell}(n:Nat):callV TB (n+1) (.base 211) [x0,x1] σ=cres (exSs TB n bdx211 [some x0,some x1] σ):=rfl
theorem c212 {x0 x1:V}{σ:List Cell}(n:Nat):callV TB (n+1) (.base 212) [x0,x1] σ=cres (exSs TB n bdx212 [some x0,some x1] σ):=rfl
theorem c213 {x0:V}{σ:List Cell}(n:Nat):callV TB (n+1) (.base 213) [x0] σ=cres (exSs TB n bdx213 [some x0,none] σ):=rfl
theorem c214 {x0 x1 x2:V}{σ:List Cell}(n:Nat):callV TB (n+1) (.base 214) [x0,x1,x2] σ=cres (exSs TB n bdx214 [some x0,some x1,some x2,none] σ):=rfl
theorem c215 {x0 x1:V}{σ:List Cell}(n:Nat):callV TB (n+1) (.base 215) [x0,x1] σ=cres (exSs TB n bdx215 [some x0,some x1,none,none] σ):=rfl
theorem c216 {x0 x1:V}{σ:List Cell}(n:Nat):callV TB (n+1) (.base 216) [x0,x1] σ=cres (exSs TB n bdx216 [some x0,some x1] σ):=rfl
theorem c217 {x0 x1:V}{σ:List Cell}(n:Nat):callV TB (n+1) (.base 217) [x0,x1] σ=cres (exSs TB n bdx217 [some x0,some x1,none] σ):=rfl
theorem c218 {x0 x1:V}{σ:List Cell}(n:Nat):callV TB (n+1) (.base 218) [x0,x1] σ=cres (exSs TB n bdx218 [some x0,some x1] σ):=rfl
theorem c219 {x0:V}{σ:List Cell}(n:Nat):callV TB (n+1) (.base 219) [x0] σ=cres (exSs TB n bdx219 [some x0] σ):=rfl
theorem c220 {x0 x1 x2:V}{σ:List Cell}(n:Nat):callV TB (n+1) (.base 220) [x0,x1,x2] σ=cres (exSs TB n bdx220 [some x0,some x1,some x2] σ):=rfl
theorem c221 {x0 x1:V}{σ:List Cell}(n:Nat):callV TB (n+1) (.base 221) [x0,x1] σ=cres (exSs TB n bdx221 [some x0,some x1] σ):=rfl
theorem c222 {x0 x1:V}{σ:List Cell}(n:Nat):callV TB (n+1) (.base 222) [x0,x1] σ=cres (exSs TB n bdx222 [some x0,some x1] σ):=rfl
theorem c223 {x0:V}{σ:List Cell}(n:Nat):callV TB (n+1) (.base 223) [x0] σ=cres (exSs TB n bdx223 [some x0] σ):=rfl
theorem c299 {x0 x1 x2:V}{σ:List Cell}(n:Nat):callV TB (n+1) (.base 299) [x0,x1,x2] σ=cres (exSs TB n bdx299 [some x0,some x1,some x2] σ):=rfl
theorem c326 {x0:V}{σ:List Cell}(n:Nat):callV TB (n+1) (.base 326) [x0] σ=cres (exSs TB n bdx326 [some x0,none] σ):=rfl
theorem c327 {x0:V}{σ:List Cell}(n:Nat):callV TB (n+1) (.base 327) [x0] σ=cres (exSs TB n bdx327 [some x0,none] σ):=rfl
theorem c328 {x0:V}{σ:List Cell}(n:Nat):callV TB (n+1) (.base 328) [x0] σ=cres (exSs TB n bdx328 [some x0] σ):=rfl
theorem c329 {x0:V}{σ:List Cell}(n:Nat):callV TB (n+1) (.base 329) [x0] σ=cres (exSs TB n bdx329 [some x0,none,none,none,none] σ):=rfl
theorem c330 {x0:V}{σ:List Cell}(n:Nat):callV TB (n+1) (.base 330) [x0] σ=cres (exSs TB n bdx330 [some x0,none] σ):=rfl
theorem c331 {x0:V}{σ:List Cell}(n:Nat):callV TB (n+1) (.base 331) [x0] σ=cres (exSs TB n bdx331 [some x0,none] σ):=rfl
theorem c332 {x0:V}{σ:List Cell}(n:Nat):callV TB (n+1) (.base 332) [x0] σ=cres (exSs TB n bdx332 [some x0] σ):=rfl
theorem c333 {x0:V}{σ:List Cell}(n:Nat):callV TB (n+1) (.base 333) [x0] σ=cres (exSs TB n bdx333 [some x0] σ):=rfl
theorem c334 {x0 x1:V}{σ:List Cell}(n:Nat):callV TB (n+1) (.base 334) [x0,x1] σ=cres (exSs TB n bdx334 [some x0,some x1,none,none,none] σ):=rfl
theorem c335 {x0 x1:V}{σ:List Cell}(n:Nat):callV TB (n+1) (.base 335) [x0,x1] σ=cres (exSs TB n bdx335 [some x0,some x1,none,none] σ):=rfl
theorem c336 {x0:V}{σ:List Cell}(n:Nat):callV TB (n+1) (.base 336) [x0] σ=cres (exSs TB n bdx336 [some x0,none,none] σ):=rfl
theorem c399 {x0 x1 x2 x3:V}{σ:List Cell}(n:Nat):callV TB (n+1) (.base 399) [x0,x1,x2,x3] σ=cres (exSs TB n bdx399 [some x0,some x1,some x2,some x3] σ):=rfl
theorem tf1:TB.fn 1=none:=rfl
theorem tf2:TB.fn 2=none:=rfl
theorem tf3:TB.fn 3=none:=rfl
theorem ti1:TB.init 1=some 199:=rfl
theorem ti2:TB.init 2=some 299:=rfl
theorem ti3:TB.init 3=some 399:=rfl
theorem tm2_11:TB.mth 2 11=some 211:=rfl
theorem tm2_12:TB.mth 2 12=some 212:=rfl
theorem tm2_13:TB.mth 2 13=some 213:=rfl
theorem tm2_14:TB.mth 2 14=some 214:=rfl
theorem tm2_15:TB.mth 2 15=some 215:=rfl
theorem tm2_16:TB.mth 2 16=some 216:=rfl
theorem tm2_17:TB.mth 2 17=some 217:=rfl
theorem tm2_18:TB.mth 2 18=some 218:=rfl
theorem tm2_19:TB.mth 2 19=some 219:=rfl
theorem tm2_20:TB.mth 2 20=some 220:=rfl
theorem tm2_21:TB.mth 2 21=some 221:=rfl
theorem tm2_22:TB.mth 2 22=some 222:=rfl
theorem tm2_23:TB.mth 2 23=some 223:=rfl
theorem tm3_26:TB.mth 3 26=some 326:=rfl
theorem tm3_27:TB.mth 3 27=some 327:=rfl
theorem tm3_28:TB.mth 3 28=some 328:=rfl
theorem tm3_29:TB.mth 3 29=some 329:=rfl
theorem tm3_30:TB.mth 3 30=some 330:=rfl
theorem tm3_31:TB.mth 3 31=some 331:=rfl
theorem tm3_32:TB.mth 3 32=some 332:=rfl
theorem tm3_33:TB.mth 3 33=some 333:=rfl
theorem tm3_34:TB.mth 3 34=some 334:=rfl
theorem tm3_35:TB.mth 3 35=some 335:=rfl
theorem tm3_36:TB.mth 3 36=some 336:=rfl
noncomputable def figDK:List CS:=[[90,69,82,79],[90,69,82,79,83],[90,69,82,79,69,83],[83,80,65,67,69],[83,80,65,67,69,83],[72,73,71,72,45,86,65,76,85,69],[72,73,71,72,45,86,65,76,85,69,83],[76,79,87,45,86,65,76,85,69],[76,79,87,45,86,65,76,85,69,83],[81,85,79,84,69],[81,85,79,84,69,83]]
noncomputable def figDV:List V:=[.str [90,69,82,79],.str [90,69,82,79],.str [90,69,82,79],.str [83,80,65,67,69],.str [83,80,65,67,69],.str [72,73,71,72],.str [72,73,71,72],.str [76,79,87],.str [76,79,87],.str [81,85,79,84,69],.str [81,85,79,84,69]]
theorem tg4:TB.gl 4=some (.dct figDK figDV):=rfl
noncomputable def oppDK:List CS:=[[61],[60,62],[60],[62,61],[62],[60,61]]
noncomputable def oppDV:List V:=[.str [60,62],.str [61],.str [62,61],.str [60],.str [60,61],.str [62]]
theorem tg5:TB.gl 5=some (.dct oppDK oppDV):=rfl
noncomputable def clsL:List V:=[(.str [78,85,77,69,82,73,67]),(.str [65,76,80,72,65,66,69,84,73,67]),(.str [65,76,80,72,65,66,69,84,73,67,45,76,79,87,69,82]),(.str [65,76,80,72,65,66,69,84,73,67,45,85,80,80,69,82])]
theorem tg6:TB.gl 6=some (.tup clsL):=rfl
noncomputable def wsDK:List CS:=[[80,79,83,73,84,73,86,69],[78,69,71,65,84,73,86,69],[90,69,82,79],[90,69,82,79,83],[90,69,82,79,69,83]]
noncomputable def wsDV:List V:=[.str [80,79,83,73,84,73,86,69],.str [78,69,71,65,84,73,86,69],.str [90,69,82,79],.str [90,69,82,79],.str [90,69,82,79]]
theorem tg7:TB.gl 7=some (.dct wsDK wsDV):=rfl
noncomputable def wrDK:List CS:=[[71,82,69,65,84,69,82],[76,69,83,83],[69,81,85,65,76]]
noncomputable def wrDV:List V:=[.str [62],.str [60],.str [61]]
theorem tg8:TB.gl 8=some (.dct wrDK wrDV):=rfl
noncomputable def relL:List V:=[(.str [61]),(.str [60]),(.str [62]),(.str [60,61]),(.str [62,61])]
theorem tg9:TB.gl 9=some (.tup relL):=rfl
noncomputable def resW:CS:=Mine.resL
theorem tg10:TB.gl 10=some (.str resW):=rfl
theorem tg11:TB.gl 11=some (.int 20):=rfl
theorem tg12:TB.gl 12=some (.int 20):=rfl
noncomputable def sgnL:List V:=[(.str [61]),(.str [60]),(.str [62]),(.str [60,61]),(.str [62,61])]
theorem tg15:TB.gl 15=some (.tup sgnL):=rfl
theorem tg0:TB.gl 0=some (.base 0):=rfl
theorem tg1:TB.gl 1=some (.base 1):=rfl
theorem tg2:TB.gl 2=some (.base 2):=rfl
theorem tg3:TB.gl 3=some (.base 3):=rfl
theorem tg16:TB.gl 16=some (.base 16):=rfl
theorem tg19:TB.gl 19=some (.base 19):=rfl
theorem tg21:TB.gl 21=some (.base 21):=rfl
theorem tg22:TB.gl 22=some (.base 22):=rfl
theorem tg23:TB.gl 23=some (.base 23):=rfl
theorem tg24:TB.gl 24=some (.base 24):=rfl
theorem tg25:TB.gl 25=some (.base 25):=rfl
theorem tg26:TB.gl 26=some (.base 26):=rfl
theorem tg27:TB.gl 27=some (.base 27):=rfl
theorem tg29:TB.gl 29=some (.base 29):=rfl
theorem tg30:TB.gl 30=some (.base 30):=rfl
theorem tg32:TB.gl 32=some (.base 32):=rfl
theorem tg33:TB.gl 33=some (.base 33):=rfl
theorem tg34:TB.gl 34=some (.base 34):=rfl
theorem tg35:TB.gl 35=some (.base 35):=rfl
theorem tg36:TB.gl 36=some (.base 36):=rfl
theorem tg37:TB.gl 37=some (.base 37):=rfl
theorem tg38:TB.gl 38=some (.base 38):=rfl
theorem tg39:TB.gl 39=some (.base 39):=rfl
theorem tg40:TB.gl 40=some (.base 40):=rfl
theorem tg41:TB.gl 41=some (.base 41):=rfl
theorem tg42:TB.gl 42=some (.base 42):=rfl
theorem tg43:TB.gl 43=some (.base 43):=rfl
theorem tg46:TB.gl 46=some (.base 46):=rfl
theorem tg47:TB.gl 47=some (.base 47):=rfl
end Mine.Pu
end
section
namespace Mine.Pu
open PySem
local macro_rules | `(tactic| wide_open with 2 using [$ts,*]) => do let f := fun s => ((String.splitOn s " ").map fun x => Lean.mkIdent (.str `Mine.Pu x)).toArray; let as := ts.getElems ++ f "xL0 xL1 xL2 xL3 xL4 xL5 xL6 xL7 xL8 xL9 xL10 xL11 xL12 xs0 tB bsF sqR sqE ss0 f0 cNR cNN cIR cI0 xNone xBool xInt xStr cresR cresN cresE bAdd bSub sm0 sm1 sm2 sm3 sm4 sm5 ssA0 ssA1 ssA2 ssA3 ssA4 ssA5 ssA6 ssA7 ssA8 ssA9 ssA10 ssA11 ssA12 ssI ssR ssE ssAA ssT ssW ssFT ssF ssX fC1 fC2 fC3 fC4 wF xM37 xM38 xM39 xM7 xMeth xGlob xCallG xCallL xBcall xAttr xCmp xIte xNot xLam xNeg xAnd xOr xBin xSub xSlc xTup xLstF xLst xs1 xsC b1 bA bO bsT sqN"; let us := f "cresR cresN cresE"; let g := Lean.mkIdent `Mine.Pu.crG; `(tactic| with_reducible ((try apply $g); repeat (first $[| apply $as]* $[| (with_unfolding_all exact $us)]*)))
section
open PySem
theorem aq2 {a i:Nat}:a+1+i - a=i+1:=by rw[Nat.add_assoc,Nat.add_sub_cancel_left,Nat.add_comm]
theorem fu {a b m c:Nat}(h:a+b=m+c)(k:Nat):a+k+b=m+(c+k):=by rw[Nat.add_right_comm,h,Nat.add_assoc]
theorem exm {F c:Nat}(h:c≤F)(n:Nat):∃m,n+F=m+c:=⟨n+(F - c),by rw[Nat.add_assoc,Nat.sub_add_cancel h]⟩
theorem f7 {n K k:Nat}(hk:k≤5):n+(7 - k)+k+K+11=n+K+18:=show _=n+K+7+11 by rw[Nat.add_assoc n,Nat.sub_add_cancel (Nat.le_trans hk (by decide)),Nat.add_right_comm n 7 K]
theorem nn1 {a:Int}(h:0≤a):0≤a+1:=Int.add_nonneg h (by decide)
theorem nnN {a:Int}{k:Nat}(h:0≤a):0≤a+(k:Int):=Int.add_nonneg h (Int.natCast_nonneg _)
theorem ca1 {a:Int}{m:Nat}:a+((m+1:Nat):Int)=a+1+m:=by rw[Int.natCast_add,Int.add_comm (m:Int),←Int.add_assoc];rfl
theorem ca2 {a:Int}{m:Nat}:a+((m+2:Nat):Int)=a+m+1+1:=by rw[Int.natCast_add,←Int.add_assoc];exact(Int.add_assoc _ 1 1).symm
theorem caA {a:Int}{m n:Nat}:a+((m+n:Nat):Int)=a+m+n:=by rw[Int.natCast_add,Int.add_assoc]
theorem nnI {p:Prop}[Decidable p]{x y:Int}(hx:0≤x)(hy:0≤y):0≤if p then x else y:=by split;exact hx;exact hy
theorem tk {n:Nat}(h:n≤900):n≤1000:=Nat.le_trans h (by decide)
noncomputable abbrev WT:=CS × CS
noncomputable def tokC (i:Nat)(t:WT):Cell:=.inst 1 [(3,.str t.1),(4,.str t.2),(1,.tup [.int 1,.int (i+1)]),(5,.bool false)]
noncomputable def toksC:Nat→List WT→List Cell
 |_,[]=>[]
 |i,t::ts=>tokC i t::toksC (i+1) ts
noncomputable def rdC (π:List Cell)(a:Int)(nm:V):Cell:=.inst 2 [(0,.ref π.length),(1,.int a),(2,nm)]
noncomputable def enc (π:List Cell)(ts:List WT)(a:Int)(nm:V)(γ:List Cell):List Cell :=
 π++(.list ((List.range ts.length).map fun i=>V.ref (π.length+1+i))::(toksC 0 ts++(rdC π a nm::γ)))
noncomputable def rI (π:List Cell)(ts:List WT):Nat:=π.length+(ts.length+1)
noncomputable def cI (π:List Cell)(ts:List WT)(γ:List Cell):Nat:=π.length+(ts.length+2+γ.length)
section
variable {π γ γ1 γ2:List Cell}{ts:List WT}{a b:Int}{nm:V}{c c':Cell}{i:Nat}
theorem toksC_len:∀(ts:List WT) (i:Nat),(toksC i ts).length=ts.length
 | [],_=>rfl
 |t::ts,i=>by simp[toksC,toksC_len ts]
theorem toksC_get:∀(ts:List WT) (i j:Nat),(toksC i ts)[j]?=ts[j]?.map (tokC (i+j))
 | [],_,_=>rfl
 |t::ts,i,0=>rfl
 |t::ts,i,j+1=>by
  rw[toksC,List.getElem?_cons_succ,toksC_get ts,List.getElem?_cons_succ,show i+1+j=i+(j+1)from Nat.succ_add_eq_add_succ i j]
theorem enc_len:(enc π ts a nm γ).length=cI π ts γ:=by
 simp[enc,cI,toksC_len];omega
theorem enc_l:(enc π ts a nm γ)[π.length]?=some (.list ((List.range ts.length).map fun i=>V.ref (π.length+1+i))):=by
 simp[enc]
theorem enc_t:(enc π ts a nm γ)[π.length+1+i]?=if i<ts.length then ts[i]?.map (tokC i)else(enc π ts a nm γ)[π.length+1+i]?:=by
 split
 ·rename_i h
  rw[enc,List.getElem?_append_right (Nat.le_trans (Nat.le_succ _) (Nat.le_add_right _ _)),show π.length+1+i - π.length=i+1 from aq2,List.getElem?_cons_succ,List.getElem?_append_left (by rw[toksC_len];exact h),toksC_get,Nat.zero_add]
 ·rfl
theorem enc_tok {t:WT}(h:ts[i]?=some t):(enc π ts a nm γ)[π.length+1+i]?=some (tokC i t):=by
 rw[enc_t,if_pos (List.getElem?_eq_some_iff.mp h).1,h];rfl
theorem enc_r:(enc π ts a nm γ)[rI π ts]?=some (.inst 2 [(0,.ref π.length),(1,.int a),(2,nm)]):=by
 rw[enc,rI,List.getElem?_append_right (Nat.le_add_right _ _),show π.length+(ts.length+1) - π.length=ts.length+1 from Nat.add_sub_cancel_left _ _,List.getElem?_cons_succ,List.getElem?_append_right (Nat.le_of_eq (toksC_len ts 0)),toksC_len,Nat.sub_self]
 rfl
theorem enc_set_r {nm':V}:(enc π ts a nm γ).set (rI π ts) (.inst 2 [(0,.ref π.length),(1,.int b),(2,nm')])=enc π ts b nm' γ:=by
 rw[enc,rI,List.set_append_right _ _ (Nat.le_add_right _ _),show π.length+(ts.length+1) - π.length=ts.length+1 from Nat.add_sub_cancel_left _ _,List.set_cons_succ,List.set_append_right _ _ (Nat.le_of_eq (toksC_len ts 0)),toksC_len,Nat.sub_self]
 rfl
theorem enc_app:enc π ts a nm γ++[c]=enc π ts a nm (γ++[c]):=by simp[enc]
theorem enc_c:(enc π ts a nm (γ1++c::γ2))[cI π ts γ1]?=some c:=by
 rw[enc,cI,List.getElem?_append_right (Nat.le_add_right _ _),show π.length+(ts.length+2+γ1.length) - π.length=(ts.length+1+γ1.length)+1 from(Nat.add_sub_cancel_left _ _).trans (Nat.add_right_comm _ 1 _),List.getElem?_cons_succ,List.getElem?_append_right (by rw[toksC_len];exact Nat.le_trans (Nat.le_succ _) (Nat.le_add_right _ _)),toksC_len,
  show ts.length+1+γ1.length - ts.length=γ1.length+1 from aq2,List.getElem?_cons_succ,List.getElem?_append_right (Nat.le_refl _),Nat.sub_self]
 rfl
theorem enc_set_c:(enc π ts a nm (γ1++c::γ2)).set (cI π ts γ1) c'=enc π ts a nm (γ1++c'::γ2):=by
 rw[enc,cI,List.set_append_right _ _ (Nat.le_add_right _ _),show π.length+(ts.length+2+γ1.length) - π.length=(ts.length+1+γ1.length)+1 from(Nat.add_sub_cancel_left _ _).trans (Nat.add_right_comm _ 1 _),List.set_cons_succ,List.set_append_right _ _ (by rw[toksC_len];exact Nat.le_trans (Nat.le_succ _) (Nat.le_add_right _ _)),toksC_len,
  show ts.length+1+γ1.length - ts.length=γ1.length+1 from aq2,List.set_cons_succ,List.set_append_right _ _ (Nat.le_refl _),Nat.sub_self]
 rfl
end
noncomputable def tsOk (ts:List WT):Bool:=decide (ts.length≤900)&&ts.all fun t=>isData (.str t.1)&&isData (.str t.2)&&decide (t.2.length≤900)
noncomputable def atW (ts:List WT)(i:Int):Option WT:=if 0≤i then ts[i.toNat]? else none
section
variable {π γ γ1 γ2:List Cell}{ts:List WT}{a b:Int}{nm:V}{c c':Cell}{i:Nat}
noncomputable def isK (ts:List WT)(i:Int)(k:CS):Bool:=match atW ts i with | some t=>decide (t.1=k)| none=>false
noncomputable abbrev sWord:CS:=[119,111,114,100]
noncomputable abbrev sSign:CS:=[115,105,103,110]
noncomputable abbrev sNumber:CS:=[110,117,109,98,101,114]
noncomputable abbrev sLiteral:CS:=[108,105,116,101,114,97,108]
noncomputable def isWd (ts:List WT)(i:Int)(w:CS):Bool:=match atW ts i with | some t=>decide (t.1=sWord)&&decide (t.2=w)| none=>false
noncomputable def isSg (ts:List WT)(i:Int)(w:CS):Bool:=match atW ts i with | some t=>decide (t.1=sSign)&&decide (t.2=w)| none=>false
theorem atW_lt {i:Int}{t:WT}(h:atW ts i=some t):0≤i∧i<ts.length∧ts[i.toNat]?=some t:=by
 unfold atW at h
 split at h
 ·have:=(List.getElem?_eq_some_iff.mp h).1
  exact⟨by assumption,(Int.toNat_lt (by assumption)).mp this,h⟩
 ·cases h
theorem atW_none {i:Int}(h:atW ts i=none)(hi:0≤i):¬i<ts.length:=by
 unfold atW at h
 rw[if_pos hi,List.getElem?_eq_none_iff]at h
 exact fun q=>Nat.lt_irrefl _ (Nat.lt_of_lt_of_le ((Int.toNat_lt hi).mpr q) h)
theorem enc_tw {i:Int}{t:WT}(h:atW ts i=some t):(enc π ts a nm γ)[π.length+1+i.toNat]?=some (tokC i.toNat t):=enc_tok (atW_lt h).2.2
theorem tsOk_len (hs:tsOk ts=true):ts.length≤900:=by
 unfold tsOk at hs
 rw[Bool.and_eq_true]at hs
 exact of_decide_eq_true hs.1
theorem tok_data (hs:tsOk ts=true){i:Int}{t:WT}(h:atW ts i=some t):isData (.str t.1)=true∧isData (.str t.2)=true:=by
 unfold tsOk at hs
 rw[Bool.and_eq_true]at hs
 have:=List.all_eq_true.mp hs.2 t (List.mem_of_getElem? (atW_lt h).2.2)
 rw[Bool.and_eq_true,Bool.and_eq_true]at this
 exact this.1
theorem tok_len (hs:tsOk ts=true){i:Int}{t:WT}(h:atW ts i=some t):t.2.length≤900:=by
 unfold tsOk at hs
 rw[Bool.and_eq_true]at hs
 have:=List.all_eq_true.mp hs.2 t (List.mem_of_getElem? (atW_lt h).2.2)
 rw[Bool.and_eq_true]at this
 exact of_decide_eq_true this.2
theorem aR0:attrV (enc π ts a nm γ) 0 (.ref (rI π ts))=some (.ref π.length):=by simp only[attrV,enc_r];rfl
theorem aR1:attrV (enc π ts a nm γ) 1 (.ref (rI π ts))=some (.int a):=by simp only[attrV,enc_r];rfl
theorem aT3 {i:Int}{t:WT}(h:atW ts i=some t):attrV (enc π ts a nm γ) 3 (.ref (π.length+1+i.toNat))=some (.str t.1):=by simp only[attrV,enc_tw h];rfl
theorem aT4 {i:Int}{t:WT}(h:atW ts i=some t):attrV (enc π ts a nm γ) 4 (.ref (π.length+1+i.toNat))=some (.str t.2):=by simp only[attrV,enc_tw h];rfl
theorem aT1 {i:Int}{t:WT}(h:atW ts i=some t):attrV (enc π ts a nm γ) 1 (.ref (π.length+1+i.toNat))=some (.tup [.int 1,.int (i.toNat+1)]):=by simp only[attrV,enc_tw h];rfl
theorem fgetN {f:Nat}{v0 v1 v2:V}(h:2<f):fget f [(0,v0),(1,v1),(2,v2)]=none:=by
 simp only[fget]
 rw[if_neg (Nat.ne_of_gt (Nat.zero_lt_of_lt h)),if_neg (Nat.ne_of_gt (Nat.lt_trans (by decide) h)),if_neg (Nat.ne_of_gt h)]
theorem mth_lt {C f k:Nat}(h:TB.mth C f=some k):(Nat.ble 10 f&&Nat.ble f 39)=true :=
 List.all_eq_true.mp (show(mthL.all fun p=>Nat.ble 10 p.1.2&&Nat.ble p.1.2 39)=true by decide +kernel) _ (look2_mem h)
theorem mR {f k:Nat}(h:TB.mth 2 f=some k):methF TB (enc π ts a nm γ) (.ref (rI π ts)) f=some (some (.base k,true)):=by
 have h1:=mth_lt h
 rw[Bool.and_eq_true]at h1
 have h2:=Nat.le_of_ble_eq_true h1.1
 have h3:=Nat.le_of_ble_eq_true h1.2
 simp only[methF,enc_r]
 rw[fgetN (Nat.lt_of_lt_of_le (by decide) h2),if_pos (Nat.lt_succ_of_le h3),h]
 rfl
section
variable {v6 v7 v8 v9:V}
theorem aC6:attrV (enc π ts a nm (γ1++.inst 3 [(6,v6),(7,v7),(8,v8),(9,v9)]::γ2)) 6 (.ref (cI π ts γ1))=some v6:=by simp only[attrV,enc_c];rfl
theorem aC7:attrV (enc π ts a nm (γ1++.inst 3 [(6,v6),(7,v7),(8,v8),(9,v9)]::γ2)) 7 (.ref (cI π ts γ1))=some v7:=by simp only[attrV,enc_c];rfl
theorem aC8:attrV (enc π ts a nm (γ1++.inst 3 [(6,v6),(7,v7),(8,v8),(9,v9)]::γ2)) 8 (.ref (cI π ts γ1))=some v8:=by simp only[attrV,enc_c];rfl
theorem aC9:attrV (enc π ts a nm (γ1++.inst 3 [(6,v6),(7,v7),(8,v8),(9,v9)]::γ2)) 9 (.ref (cI π ts γ1))=some v9:=by simp only[attrV,enc_c];rfl
theorem mC7:methF TB (enc π ts a nm (γ1++.inst 3 [(6,v6),(7,v7),(8,v8),(9,v9)]::γ2)) (.ref (cI π ts γ1)) 7=some (some (v7,false)):=by simp only[methF,enc_c];rfl
theorem mC {f k:Nat}(h:TB.mth 3 f=some k):methF TB (enc π ts a nm (γ1++.inst 3 [(6,v6),(7,v7),(8,v8),(9,v9)]::γ2)) (.ref (cI π ts γ1)) f=some (some (.base k,true)):=by
 have h1:=mth_lt h
 rw[Bool.and_eq_true]at h1
 have h2:=Nat.le_of_ble_eq_true h1.1
 have h3:=Nat.le_of_ble_eq_true h1.2
 simp only[methF,enc_c,fget]
 have ne:∀{k:Nat},k<10→¬f=k:=fun q=>Nat.ne_of_gt (Nat.lt_of_lt_of_le q h2)
 rw[if_neg (ne (by decide)),if_neg (ne (by decide)),if_neg (ne (by decide)),if_neg (ne (by decide)),if_pos (Nat.lt_succ_of_le h3),h]
 rfl
end
theorem cE {x y:CS}(h1:isData (.str x)=true)(h2:isData (.str y)=true):cmpV .Eq (.str x) (.str y)=some (decide (x=y)):=cEd h1 h2 rfl
theorem mS7 {l:CS}{s:List Cell}:methF TB s (.str l) 37=some none:=rfl
theorem d211 {x:V}{σ:List Cell}(n:Nat):callV TB (n+1) (.base 211) [x] σ=callV TB (n+1) (.base 211) [x,.int 0] σ:=Eq.trans rfl rfl
theorem d214 {x y:V}{σ:List Cell}(n:Nat):callV TB (n+1) (.base 214) [x,y] σ=callV TB (n+1) (.base 214) [x,y,.int 0] σ:=Eq.trans rfl rfl
theorem d218 {x:V}{σ:List Cell}(n:Nat):callV TB (n+1) (.base 218) [x] σ=callV TB (n+1) (.base 218) [x,.int 0] σ:=Eq.trans rfl rfl
theorem d220 {x y:V}{σ:List Cell}(n:Nat):callV TB (n+1) (.base 220) [x,y] σ=callV TB (n+1) (.base 220) [x,y,.int 0] σ:=Eq.trans rfl rfl
theorem d32 {x:V}{σ:List Cell}(n:Nat):callV TB (n+1) (.base 32) [x] σ=callV TB (n+1) (.base 32) [x,.int 0] σ:=Eq.trans rfl rfl

theorem items_l:items (enc π ts a nm γ) (.ref π.length)=some ((List.range ts.length).map fun i=>V.ref (π.length+1+i)):=by
 show(match (enc π ts a nm γ)[π.length]? with | some (.list l)=>some l | _=>none)=_
 rw[enc_l]
theorem bLen (h:ts.length≤900):bifV (enc π ts a nm γ) 0 [.ref π.length]=some (.int ts.length):=by
 show((items (enc π ts a nm γ) (.ref π.length)).bind fun l=>if sml l.length then some (V.int l.length)else none)=_
 rw[items_l]
 show(if sml (List.length _)then some (V.int (List.length _))else none)=_
 rw[List.length_map,List.length_range]
 exact if_pos (sml_of (tk h))
theorem sTok (hl:ts.length≤900){j:Int}{t:WT}(h:atW ts j=some t):subV (enc π ts a nm γ) (.ref π.length) (.int j)=some (.ref (π.length+1+j.toNat)):=by
 obtain⟨h1,h2,h3⟩:=atW_lt h
 refine(if_pos ⟨h1,Int.le_trans (Int.le_of_lt h2) (Int.ofNat_le.mpr (tk hl))⟩).trans ?_
 show(items (enc π ts a nm γ) (.ref π.length)).bind (fun l=>l[j.toNat]?)=_
 rw[items_l]
 show(List.map _ _)[j.toNat]?=_
 rw[List.getElem?_map,List.getElem?_range ((Int.toNat_lt h1).mpr h2)]
 rfl
theorem peekT (hs:tsOk ts=true){k:Int}{t:WT}(h:atW ts (a+k)=some t)(n:Nat):callV TB (n+9) (.base 211) [.ref (rI π ts),.int k] (enc π ts a nm γ)=some (.ok (.ref (π.length+1+(a+k).toNat)) (enc π ts a nm γ)):=by
 have hl:=tsOk_len hs
 refine(c211 _).trans ?_
 delta bdx211
 wide_open with 2 using [aR1,aR0,bLen hl,cLtT (atW_lt h).2.1,sTok hl h]
theorem peekN (hs:tsOk ts=true){k:Int}(ha:0≤a+k)(h:atW ts (a+k)=none)(n:Nat):callV TB (n+9) (.base 211) [.ref (rI π ts),.int k] (enc π ts a nm γ)=some (.ok .none (enc π ts a nm γ)):=by
 have hl:=tsOk_len hs
 refine(c211 _).trans ?_
 delta bdx211
 wide_open with 2 using [aR1,aR0,bLen hl,cLtF (atW_none h ha)]
theorem peekT0 (hs:tsOk ts=true){t:WT}(h:atW ts a=some t)(n:Nat):callV TB (n+9) (.base 211) [.ref (rI π ts)] (enc π ts a nm γ)=some (.ok (.ref (π.length+1+a.toNat)) (enc π ts a nm γ)):=by
 have:=peekT (π:=π) (nm:=nm) (γ:=γ) hs (a:=a) (k:=0) (by rw[Int.add_zero];exact h) n
 rw[Int.add_zero]at this
 exact(d211 _).trans this
theorem peekN0 (hs:tsOk ts=true)(ha:0≤a)(h:atW ts a=none)(n:Nat):callV TB (n+9) (.base 211) [.ref (rI π ts)] (enc π ts a nm γ)=some (.ok .none (enc π ts a nm γ)):=
 (d211 _).trans (peekN hs (by rw[Int.add_zero];exact ha) (by rw[Int.add_zero];exact h) n)
theorem is_kind_s (hs:tsOk ts=true)(ha:0≤a){k:Int}(hk:0≤k){kd:CS}(hd:isData (.str kd)=true)(n:Nat):callV TB (n+20) (.base 214) [.ref (rI π ts),.str kd,.int k] (enc π ts a nm γ)=
  some (.ok (.bool (isK ts (a+k) kd)) (enc π ts a nm γ)):=by
 refine(c214 _).trans ?_
 unfold isK
 delta bdx214
 cases h:atW ts (a+k)with
 |some t=>wide_open with 2 using [mR tm2_11,peekT hs h,aT3 h,cEd (tok_data hs h).1 hd rfl]
 |none=>wide_open with 2 using [mR tm2_11,peekN hs (Int.add_nonneg ha hk) h]
theorem kind0 (hs:tsOk ts=true)(ha:0≤a){kd:CS}(hd:isData (.str kd)=true){b:Bool}(h:isK ts a kd=b)(n:Nat):callV TB (n+20) (.base 214) [.ref (rI π ts),.str kd] (enc π ts a nm γ)=some (.ok (.bool b) (enc π ts a nm γ)):=by
 have:=is_kind_s (π:=π) (nm:=nm) (γ:=γ) hs ha (Int.le_refl 0) hd n
 rw[Int.add_zero,h]at this
 exact(d214 _).trans this
noncomputable def one (w:CS):Prop:=(Txt.split ⟨w.toArray⟩ ⟨#[32]⟩).map (fun x=>V.str x.cps.toList)=[V.str w]∧w.length≤900∧isData (.str w)=true
theorem mSp {l:CS}{r:List V}{s:Sg}(h:l.length≤900)(e:(Txt.split ⟨l.toArray⟩ ⟨#[32]⟩).map (fun x=>V.str x.cps.toList)=r):methV (.str l) 37 [.str [32]] s=some (.ok (.lst r) s):=by
 subst e;exact if_pos (sml_of (tk h))
theorem mOne {w:CS}(hw:one w){s:Sg}:methV (.str w) 37 [.str [32]] s=some (.ok (.lst [.str w]) s):=mSp hw.2.1 hw.1
theorem bLen1 {s:Sg}{v:V}:bifV s 0 [.lst [v]]=some (.int 1):=rfl
theorem isK_of {j:Int}{t:WT}(h:atW ts j=some t){k:CS}(e:t.1=k):isK ts j k=true:=by unfold isK;rw[h];exact decide_eq_true e
theorem isK_no {j:Int}{t:WT}(h:atW ts j=some t){k:CS}(e:¬t.1=k):isK ts j k=false:=by unfold isK;rw[h];exact decide_eq_false e
theorem isK_none {j:Int}(h:atW ts j=none){k:CS}:isK ts j k=false:=by unfold isK;rw[h]
theorem kindK (hs:tsOk ts=true)(ha:0≤a){k:Int}(hk:0≤k){kd:CS}(hd:isData (.str kd)=true){b:Bool}(h:isK ts (a+k) kd=b)(n:Nat):callV TB (n+20) (.base 214) [.ref (rI π ts),.str kd,.int k] (enc π ts a nm γ)=some (.ok (.bool b) (enc π ts a nm γ)):=h▸is_kind_s hs ha hk hd n
theorem dW:isData (.str sWord)=true:=by decide
theorem dS:isData (.str sSign)=true:=by decide
theorem is_word_s (hs:tsOk ts=true)(ha:0≤a){w:CS}(hw:one w)(n:Nat):callV TB (n+34) (.base 215) [.ref (rI π ts),.str w] (enc π ts a nm γ)=
  some (.ok (.bool (isWd ts a w)) (enc π ts a nm γ)):=by
 obtain⟨w1,w2,w3⟩:=hw
 refine(c215 _).trans ?_
 unfold isWd
 delta bdx215
 have hk:=fun b h n=>kindK (π:=π) (nm:=nm) (γ:=γ) hs ha (Int.le_refl 0) dW (b:=b) h n
 rw[Int.add_zero]at hk
 cases h:atW ts a with
 |none=>wide_open with 2 using [mR tm2_14,mS7,mSp w2 w1,hk _ (isK_none h)]
 |some t =>
  have hp:=fun n=>peekT (π:=π) (nm:=nm) (γ:=γ) (a:=a) (k:=0) hs (by rw[Int.add_zero];exact h) n
  rw[Int.add_zero]at hp
  by_cases e1:t.1=sWord
  ·show _=some (R.ok (V.bool (decide (t.1=sWord)&&decide (t.2=w))) _)
   rw[dT e1]
   by_cases e2:t.2=w
   ·rw[dT e2]
    show _=some (R.ok (V.bool true) _)
    wide_open with 2 using [mR tm2_14,mR tm2_11,mS7,mSp w2 w1,hk _ (isK_of h e1),hp,aT4 h,cNT (tok_data hs h).2 w3 e2]
   ·rw[dF e2]
    show _=some (R.ok (V.bool false) _)
    wide_open with 2 using [mR tm2_14,mR tm2_11,mS7,mSp w2 w1,hk _ (isK_of h e1),hp,aT4 h,cNF (tok_data hs h).2 w3 e2]
  ·show _=some (R.ok (V.bool (decide (t.1=sWord)&&decide (t.2=w))) _)
   rw[dF e1]
   show _=some (R.ok (V.bool false) _)
   wide_open with 2 using [mR tm2_14,mS7,mSp w2 w1,hk _ (isK_no h e1)]
theorem setR1:setA (enc π ts a nm γ) (.ref (rI π ts)) 1 (.int b)=some (enc π ts b nm γ):=by
 unfold setA
 dsimp only
 rw[enc_r]
 exact(if_pos ⟨by decide,by decide,Nat.le_of_ble_eq_true rfl⟩).trans (congrArg some enc_set_r)
theorem is_wordB (hs:tsOk ts=true)(ha:0≤a){w:CS}(hw:one w){q:Bool}(h:isWd ts a w=q)(n:Nat):callV TB (n+34) (.base 215) [.ref (rI π ts),.str w] (enc π ts a nm γ)=some (.ok (.bool q) (enc π ts a nm γ)):=h▸is_word_s hs ha hw n
theorem skipT (hs:tsOk ts=true)(ha:0≤a){w:CS}(hw:one w)(h:isWd ts a w=true)(n:Nat):callV TB (n+44) (.base 216) [.ref (rI π ts),.str w] (enc π ts a nm γ)=some (.ok (.bool true) (enc π ts (a+1) nm γ)):=by
 refine(c216 _).trans ?_
 delta bdx216
 wide_open with 2 using [mR tm2_15,is_wordB hs ha hw h,aR1,mS7,mOne hw,bLen1,setR1]
theorem skipF (hs:tsOk ts=true)(ha:0≤a){w:CS}(hw:one w)(h:isWd ts a w=false)(n:Nat):callV TB (n+44) (.base 216) [.ref (rI π ts),.str w] (enc π ts a nm γ)=some (.ok (.bool false) (enc π ts a nm γ)):=by
 refine(c216 _).trans ?_
 delta bdx216
 wide_open with 2 using [mR tm2_15,is_wordB hs ha hw h]
theorem skip_s (hs:tsOk ts=true)(ha:0≤a){w:CS}(hw:one w)(n:Nat):callV TB (n+44) (.base 216) [.ref (rI π ts),.str w] (enc π ts a nm γ)=
  some (.ok (.bool (isWd ts a w)) (enc π ts (if isWd ts a w then a+1 else a) nm γ)):=by
 cases h:isWd ts a w with
 |true=>exact skipT hs ha hw h n
 |false=>exact skipF hs ha hw h n
theorem is_sign_s (hs:tsOk ts=true)(ha:0≤a){k:Int}(hk:0≤k){w:CS}(hd:isData (.str w)=true)(n:Nat):callV TB (n+30) (.base 220) [.ref (rI π ts),.str w,.int k] (enc π ts a nm γ)=
  some (.ok (.bool (isSg ts (a+k) w)) (enc π ts a nm γ)):=by
 refine(c220 _).trans ?_
 unfold isSg
 delta bdx220
 cases h:atW ts (a+k)with
 |some t =>
  by_cases e1:t.1=sSign
  ·show _=some (R.ok (V.bool (decide (t.1=sSign)&&decide (t.2=w))) _)
   rw[dT e1,Bool.true_and]
   wide_open with 2 using [mR tm2_14,mR tm2_11,kindK hs ha hk dS (isK_of h e1),peekT hs h,aT4 h,cEd (tok_data hs h).2 hd rfl]
  ·show _=some (R.ok (V.bool (decide (t.1=sSign)&&decide (t.2=w))) _)
   rw[dF e1]
   show _=some (R.ok (V.bool false) _)
   wide_open with 2 using [mR tm2_14,kindK hs ha hk dS (isK_no h e1)]
 |none=>wide_open with 2 using [mR tm2_14,kindK hs ha hk dS (isK_none h)]
theorem signB (hs:tsOk ts=true)(ha:0≤a){w:CS}(hd:isData (.str w)=true){q:Bool}(h:isSg ts a w=q)(n:Nat):callV TB (n+30) (.base 220) [.ref (rI π ts),.str w] (enc π ts a nm γ)=some (.ok (.bool q) (enc π ts a nm γ)):=by
 have:=is_sign_s (π:=π) (nm:=nm) (γ:=γ) hs ha (Int.le_refl 0) hd n
 rw[Int.add_zero,h]at this
 exact(d220 _).trans this
theorem skipgT (hs:tsOk ts=true)(ha:0≤a){w:CS}(hd:isData (.str w)=true)(h:isSg ts a w=true)(n:Nat):callV TB (n+40) (.base 221) [.ref (rI π ts),.str w] (enc π ts a nm γ)=some (.ok (.bool true) (enc π ts (a+1) nm γ)):=by
 refine(c221 _).trans ?_
 delta bdx221
 wide_open with 2 using [mR tm2_20,signB hs ha hd h,aR1,setR1]
theorem skipgF (hs:tsOk ts=true)(ha:0≤a){w:CS}(hd:isData (.str w)=true)(h:isSg ts a w=false)(n:Nat):callV TB (n+40) (.base 221) [.ref (rI π ts),.str w] (enc π ts a nm γ)=some (.ok (.bool false) (enc π ts a nm γ)):=by
 refine(c221 _).trans ?_
 delta bdx221
 wide_open with 2 using [mR tm2_20,signB hs ha hd h]
noncomputable def ftP (ts:List WT)(a:Int):Int:=min a (ts.length - 1)+1
noncomputable def newC (what:CS)(p:Int):Cell:=.new 0 [(10,.str what),(1,.tup [.int 1,.int p])]
noncomputable def excC (what:CS)(p:Int):Cell:=.exc 0 [(10,.str what),(1,.tup [.int 1,.int p])]
theorem enc_new:(enc π ts a nm (γ++[c]))[cI π ts γ]?=some c:=enc_c
theorem enc_set_new:(enc π ts a nm (γ++[c])).set (cI π ts γ) c'=enc π ts a nm (γ++[c']):=enc_set_c
theorem eSN {c:Cell}:enc π ts a nm γ++[c]=enc π ts a nm (γ++[c]):=enc_app
theorem newS {w p:V}{n:Nat}:callV TB (n+5) (.base 0) [w,p] (enc π ts a nm γ)=some (.ok (.ref (cI π ts γ)) (enc π ts a nm (γ++[.new 0 [(10,w),(1,p)]]))):=by
 rw[←enc_app,←enc_len (π:=π) (ts:=ts) (a:=a) (nm:=nm) (γ:=γ)]
 exact Eq.trans rfl rfl
theorem bMin {s:Sg}{x y:Int}:bifV s 3 [.int x,.int y]=some (.int (min x y)):=rfl
theorem tLst (h0:ts≠[])(h:ts.length≤900):truthy (enc π ts a nm γ) (.ref π.length)=some true:=by
 show(match (enc π ts a nm γ)[π.length]? with | some (.list l)=>if sml l.length then some (!l.isEmpty)else none | _=>none)=_
 rw[enc_l]
 show(if sml ((List.range ts.length).map fun i=>V.ref (π.length+1+i)).length then some (!((List.range ts.length).map fun i=>V.ref (π.length+1+i)).isEmpty)else none)=_
 rw[List.length_map,List.length_range,if_pos (sml_of (tk h))]
 induction ts using List.casesOn with
 |nil=>exact absurd rfl h0
 |cons t r=>rw[List.length_cons,List.range_succ_eq_map];rfl
theorem at_fault (hne:ts≠[])(ha:0≤a):∃t,atW ts (min a (ts.length - 1))=some t∧((min a (ts.length - 1:Int)).toNat:Int)=min a (ts.length - 1):=by
 have hpos:0<ts.length:=List.length_pos_iff.mpr hne
 have hn:0≤min a (ts.length - 1:Int):=Int.le_min.mpr ⟨ha,Int.sub_nonneg_of_le (Int.ofNat_le.mpr hpos)⟩
 exact⟨_,(if_pos hn).trans (List.getElem?_eq_getElem ((Int.toNat_lt hn).mpr (Int.lt_of_le_of_lt (Int.min_le_right _ _) (Int.sub_one_lt_of_le (Int.le_refl _))))),Int.toNat_of_nonneg hn⟩
theorem fault_s (hs:tsOk ts=true)(hne:ts≠[])(ha:0≤a){what:CS}(n:Nat):callV TB (n+24) (.base 212) [.ref (rI π ts),.str what] (enc π ts a nm γ)=
  some (.ok (.ref (cI π ts γ)) (enc π ts a nm (γ++[newC what (ftP ts a)]))):=by
 have hl:=tsOk_len hs
 obtain⟨t,hat,hc⟩:=at_fault hne ha
 have h1:=aT1 (π:=π) (a:=a) (nm:=nm) (γ:=γ) hat
 rw[hc]at h1
 refine(c212 _).trans ?_
 delta bdx212
 show _=some (R.ok (V.ref (cI π ts γ)) (enc π ts a nm (γ++[.new 0 [(10,.str what),(1,.tup [.int 1,.int (min a (ts.length - 1)+1)])]])))
 wide_open with 2 using [aR0,aR1,tLst hne hl,bLen hl,bMin,sTok hl hat,h1,tg0,newS]
theorem ssXF {x:X}{p:Pos}{l:List S}{n:Nat}{fr:Fr}{s:Sg}{what:CS}{k:Int}(h:exX TB n x fr s=some (.ok (.ref (cI π ts γ)) (enc π ts a nm (γ++[newC what k])))):exSs TB (n+2) (.raise x p::l) fr s=some (.ex (cI π ts γ) fr (enc π ts a nm (γ++[excC what k]))):=
 ssX h (enc_new (c:=newC what k)) (enc_set_new (c:=newC what k) (c':=excC what k))
end
end
section
open PySem

section
variable {π γ γ1 γ2:List Cell}{ts:List WT}{a b:Int}{nm:V}{c c':Cell}{i:Nat}
noncomputable abbrev mName:CS:=[97,32,110,97,109,101,32,105,115,32,97,115,107,101,100,32,104,101,114,101]
noncomputable abbrev mAsked:CS:=[32,105,115,32,97,115,107,101,100,32,104,101,114,101]
theorem takeT (hs:tsOk ts=true){t:WT}(h:atW ts a=some t)(n:Nat):callV TB (n+30) (.base 213) [.ref (rI π ts)] (enc π ts a nm γ)=some (.ok (.ref (π.length+1+a.toNat)) (enc π ts (a+1) nm γ)):=by
 refine(c213 _).trans ?_
 delta bdx213
 wide_open with 2 using [mR tm2_11,peekT0 hs h,aR1,setR1]
noncomputable def resv (w:CS):Bool:=isSub ([32]++w++[32]) resW
noncomputable def isNm (ts:List WT)(i:Int):Bool:=match atW ts i with | some t=>decide (t.1=sWord)&&!resv t.2 | none=>false
theorem cSub {x y:CS}:cmpV .In (.str x) (.str y)=some (isSub x y):=rfl
theorem is_reserved_s {w:CS}(h:w.length≤900){σ:List Cell}(n:Nat):callV TB (n+12) (.base 38) [.str w] σ=some (.ok (.bool (resv w)) σ):=by
 refine(c38 _).trans ?_
 delta bdx38
 show _=some (R.ok (V.bool (isSub ([32]++w++[32]) resW)) _)
 have h1:([32]:CS).length+w.length≤1000:=Nat.le_trans (Nat.add_le_add_left h 1) (by decide)
 have h2:([32]++w:CS).length+([32]:CS).length≤1000:=Nat.le_trans (Nat.add_le_add_right h 2) (by decide)
 wide_open with 2 using [tg10,cSub,bStr (sml_of h1),bStr (sml_of h2)]
theorem nameI (hs:tsOk ts=true)(ha:0≤a){q:Bool}(hq:isNm ts a=q)(n:Nat):callV TB (n+30) (.base 218) [.ref (rI π ts)] (enc π ts a nm γ)=
  some (.ok (.bool q) (enc π ts a nm γ)):=by
 subst hq
 refine(d218 _).trans ((c218 _).trans ?_)
 unfold isNm
 delta bdx218
 have hk:=fun b h n=>kindK (π:=π) (nm:=nm) (γ:=γ) hs ha (Int.le_refl 0) dW (b:=b) h n
 rw[Int.add_zero]at hk
 cases h:atW ts a with
 |some t =>
  have hp:=fun n=>peekT (π:=π) (nm:=nm) (γ:=γ) (a:=a) (k:=0) hs (by rw[Int.add_zero];exact h) n
  rw[Int.add_zero]at hp
  by_cases e1:t.1=sWord
  ·show _=some (R.ok (V.bool (decide (t.1=sWord)&&!resv t.2)) _)
   rw[dT e1,Bool.true_and,bn_eq]
   wide_open with 2 using [mR tm2_14,mR tm2_11,tg38,hk _ (isK_of h e1),hp,aT4 h,is_reserved_s (tok_len hs h)]
  ·show _=some (R.ok (V.bool (decide (t.1=sWord)&&!resv t.2)) _)
   rw[dF e1,Bool.false_and]
   wide_open with 2 using [mR tm2_14,hk _ (isK_no h e1)]
 |none=>wide_open with 2 using [mR tm2_14,hk _ (isK_none h)]
theorem name_ok (hs:tsOk ts=true)(ha:0≤a){t:WT}(h:atW ts a=some t)(hn:isNm ts a=true)(n:Nat):callV TB (n+40) (.base 219) [.ref (rI π ts)] (enc π ts a nm γ)=
  some (.ok (.str t.2) (enc π ts (a+1) nm γ)):=by
 refine(c219 _).trans ?_
 delta bdx219
 wide_open with 2 using [mR tm2_18,mR tm2_13,nameI hs ha hn,takeT hs h,aT4 h]
theorem name_ex (hs:tsOk ts=true)(hne:ts≠[])(ha:0≤a)(hn:isNm ts a=false)(n:Nat):callV TB (n+40) (.base 219) [.ref (rI π ts)] (enc π ts a nm γ)=
  some (.ex (cI π ts γ) (enc π ts a nm (γ++[excC mName (ftP ts a)]))):=by
 refine(c219 _).trans ?_
 delta bdx219
 wide_open with 2 using [mR tm2_18,mR tm2_12,nameI hs ha hn,fault_s hs hne ha,ssXF]
theorem need_sign_ok (hs:tsOk ts=true)(ha:0≤a){w:CS}(hd:isData (.str w)=true)(h:isSg ts a w=true)(n:Nat):callV TB (n+50) (.base 222) [.ref (rI π ts),.str w] (enc π ts a nm γ)=
  some (.ok .none (enc π ts (a+1) nm γ)):=by
 refine(c222 _).trans ?_
 delta bdx222
 wide_open with 2 using [mR tm2_21,skipgT hs ha hd h]
theorem need_sign_ex (hs:tsOk ts=true)(hne:ts≠[])(ha:0≤a){w:CS}(hd:isData (.str w)=true)(hw:w.length≤900)(h:isSg ts a w=false)(n:Nat):callV TB (n+50) (.base 222) [.ref (rI π ts),.str w] (enc π ts a nm γ)=
  some (.ex (cI π ts γ) (enc π ts a nm (γ++[excC (w++mAsked) (ftP ts a)]))):=by
 refine(c222 _).trans ?_
 delta bdx222
 have h1:w.length+mAsked.length≤1000:=Nat.le_trans (Nat.add_le_add_right hw 14) (by decide)
 wide_open with 2 using [mR tm2_21,mR tm2_12,skipgF hs ha hd h,bStr (sml_of h1),fault_s hs hne ha,ssXF]
theorem numI (hs:tsOk ts=true)(ha:0≤a)(h1:isSg ts a [43]=false)(h2:isSg ts a [45]=false){q:Bool}(hq:isK ts a sNumber=q)(n:Nat):callV TB (n+44) (.base 223) [.ref (rI π ts)] (enc π ts a nm γ)=
  some (.ok (.bool q) (enc π ts a nm γ)):=by
 have d1:isData (.str [43])=true:=by decide
 have d2:isData (.str [45])=true:=by decide
 have d3:isData (.str sNumber)=true:=by decide
 refine(c223 _).trans ?_
 delta bdx223
 wide_open with 2 using [mR tm2_20,mR tm2_14,signB hs ha d1 h1,signB hs ha d2 h2,kind0 hs ha d3 hq]
theorem one_of_no (hs:tsOk ts=true)(ha:0≤a)(h1:isWd ts a [79,70]=false)(h2:isWd ts a [73,78]=false)(n:Nat):callV TB (n+60) (.base 217) [.ref (rI π ts),.str [79,70,32,73,78]] (enc π ts a nm γ)=
  some (.ok (.str []) (enc π ts a nm γ)):=by
 have o1:one [79,70]:=⟨by kernel_rfl,by decide,by decide⟩
 have o2:one [73,78]:=⟨by kernel_rfl,by decide,by decide⟩
 have sp:(Txt.split ⟨([79,70,32,73,78]:CS).toArray⟩ ⟨#[32]⟩).map (fun x=>V.str x.cps.toList)=[.str [79,70],.str [73,78]]:=by kernel_rfl
 have sl:([79,70,32,73,78]:CS).length≤900:=by decide
 refine(c217 _).trans ?_
 delta bdx217
 wide_open with 2 using [mR tm2_16,mS7,mSp sl sp,skipF hs ha o1 h1,skipF hs ha o2 h2]
noncomputable def sLs (l:List CS):List V:=l.map .str
theorem sLs_of (l:List CS):strsV (sLs l)=some l:=by
 induction l with
 |nil=>rfl
 |cons x l ih=>simp[sLs,strsV]at ih ⊢;rw[ih]
noncomputable def sgA (ts:List WT)(i:Int)(l:List CS):CS:=match atW ts i with | some t=>if t.1=sSign∧t.2∈l then t.2 else[]| none=>[]
theorem sgaT {j:Int}{t:WT}(h:atW ts j=some t)(l:List CS)(e:t.1=sSign)(e2:t.2∈l):sgA ts j l=t.2:=by unfold sgA;rw[h];exact if_pos ⟨e,e2⟩
theorem sgaF {j:Int}{t:WT}(h:atW ts j=some t)(l:List CS)(e:¬(t.1=sSign∧t.2∈l)):sgA ts j l=[]:=by unfold sgA;rw[h];exact if_neg e
theorem sign_among_s (hs:tsOk ts=true)(ha:0≤a){l:List CS}(n:Nat):callV TB (n+24) (.base 24) [.ref (rI π ts),.tup (sLs l)] (enc π ts a nm γ)=
  some (.ok (.str (sgA ts a l)) (enc π ts a nm γ)):=by
 refine(c24 _).trans ?_
 delta bdx24
 cases h:atW ts a with
 |some t =>
  by_cases e1:t.1=sSign
  ·by_cases e2:t.2∈l
   ·rw[sgaT h l e1 e2]
    wide_open with 2 using [mR tm2_11,peekT0 hs h,aT3 h,aT4 h,cNT (tok_data hs h).1 dS e1,cTnT (sLs_of l) e2]
   ·rw[sgaF h l (fun q=>e2 q.2)]
    wide_open with 2 using [mR tm2_11,peekT0 hs h,aT3 h,aT4 h,cNT (tok_data hs h).1 dS e1,cTnF (sLs_of l) e2]
  ·rw[sgaF h l (fun q=>e1 q.1)]
   wide_open with 2 using [mR tm2_11,peekT0 hs h,aT3 h,cNF (tok_data hs h).1 dS e1]
 |none =>
  rw[show sgA ts a l=[]by unfold sgA;rw[h]]
  wide_open with 2 using [mR tm2_11,peekN0 hs ha h]
end
end
section
open PySem

section
variable {π γ γ1 γ2:List Cell}{ts:List WT}{a b:Int}{nm:V}{c c':Cell}{i:Nat}
theorem pT2a {x y z:Option V}{r:Fr}{p q:Pos}{v w:V}:putT (x::y::z::r) [(1,p),(2,q)] [v,w]=some (x::some v::some w::r):=rfl
theorem bTup0:bifV (enc π ts a nm (γ++[.list []])) 5 [.ref (cI π ts γ)]=some (.tup []):=by
 show(Option.bind (match (enc π ts a nm (γ++[Cell.list []]))[cI π ts γ]? with | some (.list l)=>some l | _=>none:Option (List V)) fun l=>if sml l.length then some (V.tup l)else none)=_
 rw[enc_new]
 rfl
theorem oAll:one [65,76,76]:=⟨by kernel_rfl,by decide,by decide⟩
noncomputable def isFig (ts:List WT)(i:Int):Bool:=match atW ts i with | some t=>decide (t.1=sWord)&&figDK.contains t.2 | none=>false
noncomputable abbrev refV (w:CS):V:=.tup [.str [114,101,102],.str w,.tup [],.tup [],.none]
theorem read_figure_no (hs:tsOk ts=true)(ha:0≤a)(h:isFig ts a=false)(n:Nat):callV TB (n+40) (.base 21) [.ref (rI π ts)] (enc π ts a nm γ)=
  some (.ok .none (enc π ts a nm γ)):=by
 refine(c21 _).trans ?_
 delta bdx21
 cases h0:atW ts a with
 |some t =>
  by_cases e1:t.1=sWord
  ·have e3:¬t.2∈figDK:=by simpa [isFig,h0,e1] using h
   wide_open with 2 using [mR tm2_14,mR tm2_11,tg4,kind0 hs ha dW (isK_of h0 e1),peekT0 hs h0,aT4 h0,cDnF e3]
  ·wide_open with 2 using [mR tm2_14,kind0 hs ha dW (isK_no h0 e1)]
 |none=>wide_open with 2 using [mR tm2_14,kind0 hs ha dW (isK_none h0)]
theorem e00:cmpV .Eq (.int 0) (.int 0)=some true:=by decide
theorem g00:cmpV .Gt (.int 0) (.int 0)=some false:=by decide
theorem is_part_next_no (hs:tsOk ts=true)(ha:0≤a)(h:isSg ts a [40]=false)(n:Nat):callV TB (n+44) (.base 16) [.ref (rI π ts)] (enc π ts a nm γ)=
  some (.ok (.bool false) (enc π ts a nm γ)):=by
 have d1:isData (.str [40])=true:=by decide
 refine(c16 _).trans ?_
 delta bdx16
 wide_open with 2 using [e00,g00,mR tm2_20,signB hs ha d1 h,pT2a]
noncomputable def plainF (ts:List WT)(i:Int):Bool:=decide (sgA ts i [[43],[45]]=[])&&decide (sgA ts i [[42],[47]]=[])&&decide (sgA ts i [[42,42]]=[])&&!isWd ts i [79,70]&&!isWd ts i [73,78]&&!isSg ts i [40]
theorem read_ref_ok (hs:tsOk ts=true)(ha:0≤a){t:WT}(h:atW ts a=some t)(hn:isNm ts a=true)(h1:isWd ts (a+1) [79,70]=false)(h2:isWd ts (a+1) [73,78]=false)(h3:isSg ts (a+1) [40]=false){f:V}(n:Nat):
  callV TB (n+75) (.base 19) [.ref (rI π ts),f] (enc π ts a nm γ)=some (.ok (refV t.2) (enc π ts (a+1) nm (γ++[.list []]))):=by
 have ha1:0≤a+1:=nn1 ha
 have d1:isData (.str [40])=true:=by decide
 have d2:isData (.str [])=true:=by decide
 refine(c19 _).trans ?_
 delta bdx19
 wide_open with 2 using [mR tm2_19,mR tm2_17,mR tm2_20,tg16,name_ok hs ha h hn,one_of_no hs ha1 h1 h2,signB hs ha1 d1 h3,is_part_next_no hs ha1 h3,cNT d2 d2 rfl,enc_len,eSN,bTup0]
theorem read_ref_ex (hs:tsOk ts=true)(hne:ts≠[])(ha:0≤a)(hn:isNm ts a=false){f:V}(n:Nat):
  callV TB (n+75) (.base 19) [.ref (rI π ts),f] (enc π ts a nm γ)=some (.ex (cI π ts γ) (enc π ts a nm (γ++[excC mName (ftP ts a)]))):=by
 refine(c19 _).trans ?_
 delta bdx19
 wide_open with 2 using [ssAE,mR tm2_19,name_ex hs hne ha hn]
noncomputable def noLit (ts:List WT)(i:Int):Bool:=!isSg ts i [43]&&!isSg ts i [45]&&!isK ts i sNumber&&!isK ts i sLiteral&&!isWd ts i [65,76,76]&&!isFig ts i
theorem noLit_all (h:noLit ts a=true):isSg ts a [43]=false∧isSg ts a [45]=false∧isK ts a sNumber=false∧isK ts a sLiteral=false∧isWd ts a [65,76,76]=false∧isFig ts a=false:=by
 simp only[noLit,Bool.and_eq_true,Bool.not_eq_true']at h
 obtain⟨⟨⟨⟨⟨h1,h2⟩,h3⟩,h4⟩,h5⟩,h6⟩:=h
 exact⟨h1,h2,h3,h4,h5,h6⟩
theorem dL:isData (.str sLiteral)=true:=by decide
theorem operand_ok (hs:tsOk ts=true)(ha:0≤a)(hl:noLit ts a=true){t:WT}(h:atW ts a=some t)(hn:isNm ts a=true)(h1:isWd ts (a+1) [79,70]=false)(h2:isWd ts (a+1) [73,78]=false)(h3:isSg ts (a+1) [40]=false){f:V}(n:Nat):
  callV TB (n+90) (.base 22) [.ref (rI π ts),f] (enc π ts a nm γ)=some (.ok (refV t.2) (enc π ts (a+1) nm (γ++[.list []]))):=by
 obtain⟨l1,l2,l3,l4,l5,l6⟩:=noLit_all hl
 refine(c22 _).trans ?_
 delta bdx22
 wide_open with 2 using [mR tm2_23,mR tm2_14,mR tm2_16,tg21,tg19,numI hs ha l1 l2 l3,kind0 hs ha dL l4,skipF hs ha oAll l5,read_figure_no hs ha l6,read_ref_ok hs ha h hn h1 h2 h3]
theorem operand_ex (hs:tsOk ts=true)(hne:ts≠[])(ha:0≤a)(hl:noLit ts a=true)(hn:isNm ts a=false){f:V}(n:Nat):
  callV TB (n+90) (.base 22) [.ref (rI π ts),f] (enc π ts a nm γ)=some (.ex (cI π ts γ) (enc π ts a nm (γ++[excC mName (ftP ts a)]))):=by
 obtain⟨l1,l2,l3,l4,l5,l6⟩:=noLit_all hl
 refine(c22 _).trans ?_
 delta bdx22
 wide_open with 2 using [mR tm2_23,mR tm2_14,mR tm2_16,tg21,tg19,numI hs ha l1 l2 l3,kind0 hs ha dL l4,skipF hs ha oAll l5,read_figure_no hs ha l6,read_ref_ex hs hne ha hn]
theorem amongE (hs:tsOk ts=true)(ha:0≤a){l:List CS}{r:CS}(h:sgA ts a l=r)(n:Nat):callV TB (n+24) (.base 24) [.ref (rI π ts),.tup (sLs l)] (enc π ts a nm γ)=some (.ok (.str r) (enc π ts a nm γ)):=h▸sign_among_s hs ha n
theorem among1 (hs:tsOk ts=true)(ha:0≤a)(h:sgA ts a [[43],[45]]=[])(n:Nat):callV TB (n+24) (.base 24) [.ref (rI π ts),.tup [.str [43],.str [45]]] (enc π ts a nm γ)=some (.ok (.str []) (enc π ts a nm γ)):=amongE hs ha h n
theorem among2 (hs:tsOk ts=true)(ha:0≤a)(h:sgA ts a [[42],[47]]=[])(n:Nat):callV TB (n+24) (.base 24) [.ref (rI π ts),.tup [.str [42],.str [47]]] (enc π ts a nm γ)=some (.ok (.str []) (enc π ts a nm γ)):=amongE hs ha h n
theorem among3 (hs:tsOk ts=true)(ha:0≤a)(h:sgA ts a [[42,42]]=[])(n:Nat):callV TB (n+24) (.base 24) [.ref (rI π ts),.tup [.str [42,42]]] (enc π ts a nm γ)=some (.ok (.str []) (enc π ts a nm γ)):=amongE hs ha h n
theorem cNil:cmpV .NotEq (.str []) (.str [])=some false:=by decide
theorem cNil':cmpV .Eq (.str []) (.str [])=some true:=by decide
theorem cap0 {x y:V}{r:Fr}:caps (some x::some y::r) (TB.lamc 0)=some [y]:=rfl
theorem primary_op (hs:tsOk ts=true)(ha:0≤a)(h0:sgA ts a [[43],[45]]=[])(h1:isSg ts a [40]=false){d:V}{r:R V}(hr:∀n,callV TB (n+90) (.base 22) [.ref (rI π ts),.clo 0 [d]] (enc π ts a nm γ)=some r)(n:Nat):
  callV TB (n+105) (.base 30) [.ref (rI π ts),d] (enc π ts a nm γ)=some r:=by
 have d1:isData (.str [40])=true:=by decide
 refine(c30 _).trans ?_
 delta bdx30
 wide_open with 2 using [mR tm2_21,tg24,tg22,cap0,among1 hs ha h0,cNil,skipgF hs ha d1 h1,hr]
theorem power_ok (hs:tsOk ts=true){d v:V}{a':Int}{γ':List Cell}(ha':0≤a')(hr:∀n,callV TB (n+105) (.base 30) [.ref (rI π ts),d] (enc π ts a nm γ)=some (.ok v (enc π ts a' nm γ')))(h:sgA ts a' [[42,42]]=[])(n:Nat):
  callV TB (n+115) (.base 29) [.ref (rI π ts),d] (enc π ts a nm γ)=some (.ok v (enc π ts a' nm γ')):=by
 refine(c29 _).trans ?_
 delta bdx29
 wide_open with 2 using [tg30,tg24,hr,among3 hs ha' h,cNil]
theorem power_ex {d:V}{j:Nat}{σ:List Cell}(hr:∀n,callV TB (n+105) (.base 30) [.ref (rI π ts),d] (enc π ts a nm γ)=some (.ex j σ))(n:Nat):
  callV TB (n+115) (.base 29) [.ref (rI π ts),d] (enc π ts a nm γ)=some (.ex j σ):=by
 refine(c29 _).trans ?_
 delta bdx29
 wide_open with 2 using [ssAE,tg30,hr]
theorem factor_s (hs:tsOk ts=true)(ha:0≤a)(h0:sgA ts a [[43],[45]]=[]){d:V}{r:R V}(hr:∀n,callV TB (n+115) (.base 29) [.ref (rI π ts),d] (enc π ts a nm γ)=some r)(n:Nat):
  callV TB (n+125) (.base 27) [.ref (rI π ts),d] (enc π ts a nm γ)=some r:=by
 refine(c27 _).trans ?_
 delta bdx27
 wide_open with 2 using [tg29,tg24,among1 hs ha h0,cNil',hr]
theorem product_ok (hs:tsOk ts=true){d v:V}{a':Int}{γ':List Cell}(ha':0≤a')(hr:∀n,callV TB (n+125) (.base 27) [.ref (rI π ts),d] (enc π ts a nm γ)=some (.ok v (enc π ts a' nm γ')))(h:sgA ts a' [[42],[47]]=[])(n:Nat):
  callV TB (n+135) (.base 26) [.ref (rI π ts),d] (enc π ts a nm γ)=some (.ok v (enc π ts a' nm γ')):=by
 refine(c26 _).trans ?_
 delta bdx26
 wide_open with 2 using [tg27,tg24,hr,among2 hs ha' h,cNil]
theorem product_ex {d:V}{j:Nat}{σ:List Cell}(hr:∀n,callV TB (n+125) (.base 27) [.ref (rI π ts),d] (enc π ts a nm γ)=some (.ex j σ))(n:Nat):
  callV TB (n+135) (.base 26) [.ref (rI π ts),d] (enc π ts a nm γ)=some (.ex j σ):=by
 refine(c26 _).trans ?_
 delta bdx26
 wide_open with 2 using [ssAE,tg27,hr]
theorem sum_ok (hs:tsOk ts=true){d:Int}(hd:d≤20){v:V}{a':Int}{γ':List Cell}(ha':0≤a')(hr:∀n,callV TB (n+135) (.base 26) [.ref (rI π ts),.int d] (enc π ts a nm γ)=some (.ok v (enc π ts a' nm γ')))(h:sgA ts a' [[43],[45]]=[])(n:Nat):
  callV TB (n+150) (.base 25) [.ref (rI π ts),.int d] (enc π ts a nm γ)=some (.ok v (enc π ts a' nm γ')):=by
 have hd':¬20<d:=by omega
 refine(c25 _).trans ?_
 delta bdx25
 wide_open with 2 using [tg11,tg26,tg24,cGtF hd',hr,among1 hs ha' h,cNil]
theorem sum_ex {d:Int}(hd:d≤20){j:Nat}{σ:List Cell}(hr:∀n,callV TB (n+135) (.base 26) [.ref (rI π ts),.int d] (enc π ts a nm γ)=some (.ex j σ))(n:Nat):
  callV TB (n+150) (.base 25) [.ref (rI π ts),.int d] (enc π ts a nm γ)=some (.ex j σ):=by
 have hd':¬20<d:=by omega
 refine(c25 _).trans ?_
 delta bdx25
 wide_open with 2 using [ssAE,tg11,tg26,cGtF hd',hr]
theorem expr_s {r:R V}(hr:∀n,callV TB (n+150) (.base 25) [.ref (rI π ts),.int 0] (enc π ts a nm γ)=some r)(n:Nat):
  callV TB (n+155) (.base 23) [.ref (rI π ts)] (enc π ts a nm γ)=some r:=by
 refine(c23 _).trans ?_
 delta bdx23
 wide_open with 2 using [tg25,hr]
theorem chain_ok (hs:tsOk ts=true)(ha:0≤a)(h0:sgA ts a [[43],[45]]=[]){d:Int}(hd:d≤20){v:V}{a':Int}{γ':List Cell}(ha':0≤a')(hf:plainF ts a'=true)(hr:∀n,callV TB (n+105) (.base 30) [.ref (rI π ts),.int d] (enc π ts a nm γ)=some (.ok v (enc π ts a' nm γ')))(n:Nat):
  callV TB (n+150) (.base 25) [.ref (rI π ts),.int d] (enc π ts a nm γ)=some (.ok v (enc π ts a' nm γ')):=by
 simp only[plainF,Bool.and_eq_true,decide_eq_true_eq,Bool.not_eq_true']at hf
 obtain⟨⟨⟨⟨⟨f1,f2⟩,f3⟩,f4⟩,f5⟩,f6⟩:=hf
 exact sum_ok hs hd ha' (product_ok hs ha' (factor_s hs ha h0 (power_ok hs ha' hr f3)) f2) f1 n
theorem chain_ex (hs:tsOk ts=true)(ha:0≤a)(h0:sgA ts a [[43],[45]]=[]){d:Int}(hd:d≤20){j:Nat}{σ:List Cell}(hr:∀n,callV TB (n+105) (.base 30) [.ref (rI π ts),.int d] (enc π ts a nm γ)=some (.ex j σ))(n:Nat):
  callV TB (n+150) (.base 25) [.ref (rI π ts),.int d] (enc π ts a nm γ)=some (.ex j σ):=
 sum_ex hd (product_ex (factor_s hs ha h0 (power_ex hr))) n

theorem primary_br_ok (hs:tsOk ts=true)(ha:0≤a)(h0:sgA ts a [[43],[45]]=[])(h1:isSg ts a [40]=true){d:Int}{v:V}{a':Int}{γ':List Cell}(ha':0≤a')(hr:∀n,callV TB (n+150) (.base 25) [.ref (rI π ts),.int (d+1)] (enc π ts (a+1) nm γ)=some (.ok v (enc π ts a' nm γ')))
  (h2:isSg ts a' [41]=true) (n:Nat):callV TB (n+165) (.base 30) [.ref (rI π ts),.int d] (enc π ts a nm γ)=some (.ok v (enc π ts (a'+1) nm γ')):=by
 have d1:isData (.str [40])=true:=by decide
 have d2:isData (.str [41])=true:=by decide
 refine(c30 _).trans ?_
 delta bdx30
 wide_open with 2 using [mR tm2_21,mR tm2_22,tg24,tg25,among1 hs ha h0,cNil,skipgT hs ha d1 h1,hr,need_sign_ok hs ha' d2 h2]
theorem primary_br_no (hs:tsOk ts=true)(hne:ts≠[])(ha:0≤a)(h0:sgA ts a [[43],[45]]=[])(h1:isSg ts a [40]=true){d:Int}{v:V}{a':Int}{γ':List Cell}(ha':0≤a')(hr:∀n,callV TB (n+150) (.base 25) [.ref (rI π ts),.int (d+1)] (enc π ts (a+1) nm γ)=some (.ok v (enc π ts a' nm γ')))
  (h2:isSg ts a' [41]=false) (n:Nat):callV TB (n+165) (.base 30) [.ref (rI π ts),.int d] (enc π ts a nm γ)=some (.ex (cI π ts γ') (enc π ts a' nm (γ'++[excC ([41]++mAsked) (ftP ts a')]))):=by
 have d1:isData (.str [40])=true:=by decide
 have d2:isData (.str [41])=true:=by decide
 have d3:([41]:CS).length≤900:=by decide
 refine(c30 _).trans ?_
 delta bdx30
 wide_open with 2 using [ssEE,mR tm2_21,mR tm2_22,tg24,tg25,among1 hs ha h0,cNil,skipgT hs ha d1 h1,hr,need_sign_ex hs hne ha' d2 d3 h2]
theorem primary_br_ex (hs:tsOk ts=true)(ha:0≤a)(h0:sgA ts a [[43],[45]]=[])(h1:isSg ts a [40]=true){d:Int}{j:Nat}{σ:List Cell}(hr:∀n,callV TB (n+150) (.base 25) [.ref (rI π ts),.int (d+1)] (enc π ts (a+1) nm γ)=some (.ex j σ))(n:Nat):
  callV TB (n+165) (.base 30) [.ref (rI π ts),.int d] (enc π ts a nm γ)=some (.ex j σ):=by
 have d1:isData (.str [40])=true:=by decide
 refine(c30 _).trans ?_
 delta bdx30
 wide_open with 2 using [ssAE,mR tm2_21,mR tm2_22,tg24,tg25,among1 hs ha h0,cNil,skipgT hs ha d1 h1,hr]
theorem power_okb (hs:tsOk ts=true){d v:V}{a':Int}{γ':List Cell}(ha':0≤a')(hr:∀n,callV TB (n+165) (.base 30) [.ref (rI π ts),d] (enc π ts a nm γ)=some (.ok v (enc π ts a' nm γ')))(h:sgA ts a' [[42,42]]=[])(n:Nat):
  callV TB (n+175) (.base 29) [.ref (rI π ts),d] (enc π ts a nm γ)=some (.ok v (enc π ts a' nm γ')):=by
 refine(c29 _).trans ?_
 delta bdx29
 wide_open with 2 using [tg30,tg24,hr,among3 hs ha' h,cNil]
theorem power_exb {d:V}{j:Nat}{σ:List Cell}(hr:∀n,callV TB (n+165) (.base 30) [.ref (rI π ts),d] (enc π ts a nm γ)=some (.ex j σ))(n:Nat):
  callV TB (n+175) (.base 29) [.ref (rI π ts),d] (enc π ts a nm γ)=some (.ex j σ):=by
 refine(c29 _).trans ?_
 delta bdx29
 wide_open with 2 using [ssAE,tg30,hr]
theorem factor_sb (hs:tsOk ts=true)(ha:0≤a)(h0:sgA ts a [[43],[45]]=[]){d:V}{r:R V}(hr:∀n,callV TB (n+175) (.base 29) [.ref (rI π ts),d] (enc π ts a nm γ)=some r)(n:Nat):
  callV TB (n+185) (.base 27) [.ref (rI π ts),d] (enc π ts a nm γ)=some r:=by
 refine(c27 _).trans ?_
 delta bdx27
 wide_open with 2 using [tg29,tg24,among1 hs ha h0,cNil',hr]
theorem product_okb (hs:tsOk ts=true){d v:V}{a':Int}{γ':List Cell}(ha':0≤a')(hr:∀n,callV TB (n+185) (.base 27) [.ref (rI π ts),d] (enc π ts a nm γ)=some (.ok v (enc π ts a' nm γ')))(h:sgA ts a' [[42],[47]]=[])(n:Nat):
  callV TB (n+195) (.base 26) [.ref (rI π ts),d] (enc π ts a nm γ)=some (.ok v (enc π ts a' nm γ')):=by
 refine(c26 _).trans ?_
 delta bdx26
 wide_open with 2 using [tg27,tg24,hr,among2 hs ha' h,cNil]
theorem product_exb {d:V}{j:Nat}{σ:List Cell}(hr:∀n,callV TB (n+185) (.base 27) [.ref (rI π ts),d] (enc π ts a nm γ)=some (.ex j σ))(n:Nat):
  callV TB (n+195) (.base 26) [.ref (rI π ts),d] (enc π ts a nm γ)=some (.ex j σ):=by
 refine(c26 _).trans ?_
 delta bdx26
 wide_open with 2 using [ssAE,tg27,hr]
theorem sum_okb (hs:tsOk ts=true){d:Int}(hd:d≤20){v:V}{a':Int}{γ':List Cell}(ha':0≤a')(hr:∀n,callV TB (n+195) (.base 26) [.ref (rI π ts),.int d] (enc π ts a nm γ)=some (.ok v (enc π ts a' nm γ')))(h:sgA ts a' [[43],[45]]=[])(n:Nat):
  callV TB (n+210) (.base 25) [.ref (rI π ts),.int d] (enc π ts a nm γ)=some (.ok v (enc π ts a' nm γ')):=by
 have hd':¬20<d:=by omega
 refine(c25 _).trans ?_
 delta bdx25
 wide_open with 2 using [tg11,tg26,tg24,cGtF hd',hr,among1 hs ha' h,cNil]
theorem sum_exb {d:Int}(hd:d≤20){j:Nat}{σ:List Cell}(hr:∀n,callV TB (n+195) (.base 26) [.ref (rI π ts),.int d] (enc π ts a nm γ)=some (.ex j σ))(n:Nat):
  callV TB (n+210) (.base 25) [.ref (rI π ts),.int d] (enc π ts a nm γ)=some (.ex j σ):=by
 have hd':¬20<d:=by omega
 refine(c25 _).trans ?_
 delta bdx25
 wide_open with 2 using [ssAE,tg11,tg26,cGtF hd',hr]
theorem expr_sb {r:R V}(hr:∀n,callV TB (n+210) (.base 25) [.ref (rI π ts),.int 0] (enc π ts a nm γ)=some r)(n:Nat):
  callV TB (n+215) (.base 23) [.ref (rI π ts)] (enc π ts a nm γ)=some r:=by
 refine(c23 _).trans ?_
 delta bdx23
 wide_open with 2 using [tg25,hr]
theorem chain_okb (hs:tsOk ts=true)(ha:0≤a)(h0:sgA ts a [[43],[45]]=[]){d:Int}(hd:d≤20){v:V}{a':Int}{γ':List Cell}(ha':0≤a')(hf:plainF ts a'=true)(hr:∀n,callV TB (n+165) (.base 30) [.ref (rI π ts),.int d] (enc π ts a nm γ)=some (.ok v (enc π ts a' nm γ')))(n:Nat):
  callV TB (n+210) (.base 25) [.ref (rI π ts),.int d] (enc π ts a nm γ)=some (.ok v (enc π ts a' nm γ')):=by
 simp only[plainF,Bool.and_eq_true,decide_eq_true_eq,Bool.not_eq_true']at hf
 obtain⟨⟨⟨⟨⟨f1,f2⟩,f3⟩,f4⟩,f5⟩,f6⟩:=hf
 exact sum_okb hs hd ha' (product_okb hs ha' (factor_sb hs ha h0 (power_okb hs ha' hr f3)) f2) f1 n
theorem chain_exb (hs:tsOk ts=true)(ha:0≤a)(h0:sgA ts a [[43],[45]]=[]){d:Int}(hd:d≤20){j:Nat}{σ:List Cell}(hr:∀n,callV TB (n+165) (.base 30) [.ref (rI π ts),.int d] (enc π ts a nm γ)=some (.ex j σ))(n:Nat):
  callV TB (n+210) (.base 25) [.ref (rI π ts),.int d] (enc π ts a nm γ)=some (.ex j σ):=
 sum_exb hd (product_exb (factor_sb hs ha h0 (power_exb hr))) n

end
end
section
open PySem

section
variable {π γ γ1 γ2:List Cell}{ts:List WT}{a b:Int}{nm:V}{c c':Cell}{i:Nat}
noncomputable abbrev wIS:CS:=[73,83]
noncomputable abbrev wNOT:CS:=[78,79,84]
noncomputable abbrev wTO:CS:=[84,79]
noncomputable abbrev wTHAN:CS:=[84,72,65,78]
noncomputable abbrev wOR:CS:=[79,82]
noncomputable abbrev wAND:CS:=[65,78,68]
noncomputable abbrev wEQUAL:CS:=[69,81,85,65,76]
noncomputable abbrev mRel:CS:=[97,32,114,101,108,97,116,105,111,110,32,105,115,32,109,105,115,115,105,110,103]
theorem oIS:one wIS:=⟨by kernel_rfl,by decide,by decide⟩
theorem oNOT:one wNOT:=⟨by kernel_rfl,by decide,by decide⟩
theorem oTO:one wTO:=⟨by kernel_rfl,by decide,by decide⟩
theorem oTHAN:one wTHAN:=⟨by kernel_rfl,by decide,by decide⟩
theorem oOR:one wOR:=⟨by kernel_rfl,by decide,by decide⟩
theorem oAND:one wAND:=⟨by kernel_rfl,by decide,by decide⟩
noncomputable def wdH (ts:List WT)(i:Int):CS:=match atW ts i with | some t=>if t.1=sWord then t.2 else[]| none=>[]
theorem wdH_data (hs:tsOk ts=true)(i:Int):isData (.str (wdH ts i))=true:=by
 unfold wdH
 split
 ·rename_i t h
  split
  ·exact(tok_data hs h).2
  ·rfl
 ·rfl
theorem wdT {j:Int}{t:WT}(h:atW ts j=some t)(e:t.1=sWord):wdH ts j=t.2:=by unfold wdH;rw[h];exact if_pos e
theorem wdF {j:Int}{t:WT}(h:atW ts j=some t)(e:¬t.1=sWord):wdH ts j=[]:=by unfold wdH;rw[h];exact if_neg e
theorem wdN {j:Int}(h:atW ts j=none):wdH ts j=[]:=by unfold wdH;rw[h]
theorem word_here_s (hs:tsOk ts=true)(ha:0≤a){k:Int}(hk:0≤k)(n:Nat):callV TB (n+20) (.base 32) [.ref (rI π ts),.int k] (enc π ts a nm γ)=
  some (.ok (.str (wdH ts (a+k))) (enc π ts a nm γ)):=by
 have h0:0≤a+k:=Int.add_nonneg ha hk
 refine(c32 _).trans ?_
 delta bdx32
 cases h:atW ts (a+k)with
 |some t =>
  by_cases e1:t.1=sWord
  ·rw[wdT h e1]
   wide_open with 2 using [mR tm2_11,peekT hs h,aT3 h,aT4 h,cET (tok_data hs h).1 dW e1]
  ·rw[wdF h e1]
   wide_open with 2 using [mR tm2_11,peekT hs h,aT3 h,cEF (tok_data hs h).1 dW e1]
 |none =>
  rw[wdN h]
  wide_open with 2 using [mR tm2_11,peekN hs h0 h]
theorem wordI (hs:tsOk ts=true)(ha:0≤a){k:Int}(hk:0≤k){w:CS}(h:wdH ts (a+k)=w)(n:Nat):callV TB (n+20) (.base 32) [.ref (rI π ts),.int k] (enc π ts a nm γ)=
  some (.ok (.str w) (enc π ts a nm γ)):=h▸word_here_s hs ha hk n
theorem word0 (hs:tsOk ts=true)(ha:0≤a){w:CS}(h:wdH ts a=w)(n:Nat):callV TB (n+20) (.base 32) [.ref (rI π ts)] (enc π ts a nm γ)=
  some (.ok (.str w) (enc π ts a nm γ)):=(d32 _).trans (wordI hs ha (Int.le_refl 0) (by rw[Int.add_zero];exact h) n)
noncomputable def relS:List CS:=[[61],[60],[62],[60,61],[62,61]]
theorem relL_s:strsV relL=some relS:=rfl
noncomputable def clsS:List CS:=[[78,85,77,69,82,73,67],[65,76,80,72,65,66,69,84,73,67],[65,76,80,72,65,66,69,84,73,67,45,76,79,87,69,82],[65,76,80,72,65,66,69,84,73,67,45,85,80,80,69,82]]
theorem clsL_s:strsV clsL=some clsS:=rfl
noncomputable def isRel (ts:List WT)(i:Int):Bool:=match atW ts i with
 |some t=>(decide (t.1=sSign)&&decide (t.2∈relS))||decide (wdH ts i∈wrDK)
 |none=>false
theorem nil_wr:¬([]:CS)∈wrDK:=by decide
theorem relO {j:Int}{t:WT}(h:atW ts j=some t):isRel ts j=((decide (t.1=sSign)&&decide (t.2∈relS))||decide (wdH ts j∈wrDK)):=by unfold isRel;rw[h]
theorem rel_at (hs:tsOk ts=true)(ha:0≤a){k:Int}(hk:0≤k){q:Bool}(hq:isRel ts (a+k)=q)(n:Nat):callV TB (n+35) (.base 33) [.ref (rI π ts),.int k] (enc π ts a nm γ)=
  some (.ok (.bool q) (enc π ts a nm γ)):=by
 have h0:0≤a+k:=Int.add_nonneg ha hk
 subst hq
 refine(c33 _).trans ?_
 delta bdx33
 cases h:atW ts (a+k)with
 |some t =>
  rw[relO h]
  by_cases e1:t.1=sSign
  ·by_cases e2:t.2∈relS
   ·rw[dT e1,dT e2]
    show _=some (R.ok (V.bool true) _)
    wide_open with 2 using [mR tm2_11,tg9,peekT hs h,aT3 h,aT4 h,cET (tok_data hs h).1 dS e1,cTi relL_s (dT e2)]
   ·rw[dT e1,dF e2]
    show _=some (R.ok (V.bool (decide (wdH ts (a+k)∈wrDK))) _)
    wide_open with 2 using [mR tm2_11,tg9,tg8,tg32,peekT hs h,aT3 h,aT4 h,cET (tok_data hs h).1 dS e1,cTi relL_s (dF e2),word_here_s hs ha hk,cDi rfl]
  ·rw[dF e1]
   show _=some (R.ok (V.bool (decide (wdH ts (a+k)∈wrDK))) _)
   wide_open with 2 using [mR tm2_11,tg8,tg32,peekT hs h,aT3 h,cEF (tok_data hs h).1 dS e1,word_here_s hs ha hk,cDi rfl]
 |none =>
  rw[show isRel ts (a+k)=false by unfold isRel;rw[h]]
  wide_open with 2 using [mR tm2_11,tg8,tg32,peekN hs h0 h,wordI hs ha hk (wdN h),cDi (dF nil_wr)]
noncomputable def plc (ts:List WT)(a:Int):Int:=(if wdH ts a=wIS then 1 else 0)+(if wdH ts (a+(if wdH ts a=wIS then 1 else 0))=wNOT then 1 else 0)
theorem plc_nn (ts:List WT)(a:Int):0≤plc ts a:=Int.add_nonneg (nnI (by decide) (by decide)) (nnI (by decide) (by decide))
theorem wz {j:Int}:wdH ts (j+0)=wdH ts j:=by rw[Int.add_zero]
theorem dIS:isData (.str wIS)=true:=by decide
theorem dNOT:isData (.str wNOT)=true:=by decide
theorem place_of_word_s (hs:tsOk ts=true)(ha:0≤a)(n:Nat):callV TB (n+35) (.base 34) [.ref (rI π ts)] (enc π ts a nm γ)=
  some (.ok (.int (plc ts a)) (enc π ts a nm γ)):=by
 have z:(0:Int)≤1:=by decide
 refine(c34 _).trans ?_
 delta bdx34
 unfold plc
 by_cases e1:wdH ts a=wIS
 ·rw[if_pos e1]
  by_cases e2:wdH ts (a+1)=wNOT
  ·rw[if_pos e2]
   wide_open with 2 using [tg32,word0 hs ha e1,wordI hs ha z e2,cET dIS dIS rfl,cET dNOT dNOT rfl]
  ·rw[if_neg e2,Int.add_zero]
   wide_open with 2 using [tg32,word0 hs ha e1,word_here_s hs ha z,cET dIS dIS rfl,cEF (wdH_data hs _) dNOT e2]
 ·rw[if_neg e1,Int.add_zero]
  by_cases e2:wdH ts a=wNOT
  ·rw[if_pos e2]
   wide_open with 2 using [tg32,word0 hs ha rfl,wordI hs ha (Int.le_refl 0) (wz.trans e2),cEF (wdH_data hs _) dIS e1,cET dNOT dNOT rfl]
  ·rw[if_neg e2,Int.add_zero]
   wide_open with 2 using [tg32,word0 hs ha rfl,wordI hs ha (Int.le_refl 0) wz,cEF (wdH_data hs _) dIS e1,cEF (wdH_data hs _) dNOT e2]
theorem bareB (hs:tsOk ts=true)(ha:0≤a){q:Bool}(h:isRel ts (a+plc ts a)=q)(n:Nat):callV TB (n+45) (.base 36) [.ref (rI π ts)] (enc π ts a nm γ)=
  some (.ok (.bool q) (enc π ts a nm γ)):=by
 refine(c36 _).trans ?_
 delta bdx36
 wide_open with 2 using [tg33,tg34,place_of_word_s hs ha,rel_at hs ha (plc_nn ts a) h]
noncomputable def isPred (ts:List WT)(i:Int):Bool:=isRel ts i||decide (wdH ts i∈clsS)||decide (wdH ts i∈wsDK)
theorem predB (hs:tsOk ts=true)(ha:0≤a){q:Bool}(h:isPred ts (a+plc ts a)=q)(n:Nat):callV TB (n+50) (.base 35) [.ref (rI π ts)] (enc π ts a nm γ)=
  some (.ok (.bool q) (enc π ts a nm γ)):=by
 subst h
 refine(c35 _).trans ?_
 delta bdx35
 unfold isPred
 cases e1:isRel ts (a+plc ts a)with
 |true =>
  rw[Bool.true_or,Bool.true_or]
  wide_open with 2 using [tg33,tg34,tg32,place_of_word_s hs ha,rel_at hs ha (plc_nn ts a) e1,word_here_s hs ha (plc_nn ts a)]
 |false =>
  by_cases e2:wdH ts (a+plc ts a)∈clsS
  ·rw[dT e2]
   show _=some (R.ok (V.bool true) _)
   wide_open with 2 using [tg33,tg34,tg32,tg6,place_of_word_s hs ha,rel_at hs ha (plc_nn ts a) e1,word_here_s hs ha (plc_nn ts a),cTi clsL_s (dT e2)]
  ·rw[dF e2]
   show _=some (R.ok (V.bool (decide (wdH ts (a+plc ts a)∈wsDK))) _)
   wide_open with 2 using [tg33,tg34,tg32,tg6,tg7,place_of_word_s hs ha,rel_at hs ha (plc_nn ts a) e1,word_here_s hs ha (plc_nn ts a),cTi clsL_s (dF e2),cDi rfl]
noncomputable def crC (π:List Cell)(ts:List WT)(isn:V)(dep:Int)(last:V):Cell:=.inst 3 [(6,.ref (rI π ts)),(7,isn),(8,.int dep),(9,last)]
variable {isn last last' v:V}{dep:Int}
theorem aK6:attrV (enc π ts a nm (γ1++crC π ts isn dep last::γ2)) 6 (.ref (cI π ts γ1))=some (.ref (rI π ts)):=aC6
theorem aK9:attrV (enc π ts a nm (γ1++crC π ts isn dep last::γ2)) 9 (.ref (cI π ts γ1))=some last:=aC9
theorem aK8:attrV (enc π ts a nm (γ1++crC π ts isn dep last::γ2)) 8 (.ref (cI π ts γ1))=some (.int dep):=aC8
theorem mK7:methF TB (enc π ts a nm (γ1++crC π ts isn dep last::γ2)) (.ref (cI π ts γ1)) 7=some (some (isn,false)):=mC7
theorem mK {f k:Nat}(h:TB.mth 3 f=some k):methF TB (enc π ts a nm (γ1++crC π ts isn dep last::γ2)) (.ref (cI π ts γ1)) f=some (some (.base k,true)):=mC h
theorem setK9:setA (enc π ts a nm (γ1++crC π ts isn dep last::γ2)) (.ref (cI π ts γ1)) 9 v=some (enc π ts a nm (γ1++crC π ts isn dep v::γ2)):=by
 unfold setA
 dsimp only
 rw[enc_c]
 exact(if_pos ⟨by decide,by decide,Nat.le_of_ble_eq_true rfl⟩).trans (congrArg some enc_set_c)
theorem sT0 {s:Sg}{x y:V}:subV s (.tup [x,y]) (.int 0)=some x:=rfl
theorem sT1 {s:Sg}{x y:V}:subV s (.tup [x,y]) (.int 1)=some y:=rfl
theorem cITu {l:List V}:cmpV .Is (.tup l) .none=some false:=rfl
theorem sig_ok {x y:V}(n:Nat):callV TB (n+30) (.base 333) [.ref (cI π ts γ1)] (enc π ts a nm (γ1++crC π ts isn dep (.tup [x,y])::γ2))=
  some (.ok y (enc π ts a nm (γ1++crC π ts isn dep (.tup [x,y])::γ2))):=by
 refine(c333 _).trans ?_
 delta bdx333
 wide_open with 2 using [aK9,sT1,cITu]
theorem sub_ok {x y:V}(n:Nat):callV TB (n+30) (.base 332) [.ref (cI π ts γ1)] (enc π ts a nm (γ1++crC π ts isn dep (.tup [x,y])::γ2))=
  some (.ok x (enc π ts a nm (γ1++crC π ts isn dep (.tup [x,y])::γ2))):=by
 refine(c332 _).trans ?_
 delta bdx332
 wide_open with 2 using [aK9,sT0,cITu]
theorem ap3 {g:List Cell}:(γ1++c::γ2)++g=γ1++c::(γ2++g):=List.append_assoc _ _ _
theorem sub_no (hs:tsOk ts=true)(hne:ts≠[])(ha:0≤a)(n:Nat):callV TB (n+40) (.base 332) [.ref (cI π ts γ1)] (enc π ts a nm (γ1++crC π ts isn dep .none::γ2))=
  some (.ex (cI π ts (γ1++crC π ts isn dep .none::γ2)) (enc π ts a nm (γ1++crC π ts isn dep .none::(γ2++[excC mRel (ftP ts a)])))):=by
 rw[←ap3]
 refine(c332 _).trans ?_
 delta bdx332
 wide_open with 2 using [aK9,aK6,mR tm2_12,fault_s hs hne ha,ssXF]
theorem sig_no (hs:tsOk ts=true)(hne:ts≠[])(ha:0≤a)(n:Nat):callV TB (n+40) (.base 333) [.ref (cI π ts γ1)] (enc π ts a nm (γ1++crC π ts isn dep .none::γ2))=
  some (.ex (cI π ts (γ1++crC π ts isn dep .none::γ2)) (enc π ts a nm (γ1++crC π ts isn dep .none::(γ2++[excC mRel (ftP ts a)])))):=by
 rw[←ap3]
 refine(c333 _).trans ?_
 delta bdx333
 wide_open with 2 using [aK9,aK6,mR tm2_12,fault_s hs hne ha,ssXF]
end
end
section
open PySem

section
variable {π γ γ1 γ2:List Cell}{ts:List WT}{a b:Int}{nm:V}{c c':Cell}{i:Nat}{isn last last' v:V}{dep:Int}
noncomputable def oppS (s:CS):CS:=match dget s oppDK oppDV with | some (.str x)=>x | _=>[]
noncomputable def wrS (s:CS):CS:=match dget s wrDK wrDV with | some (.str x)=>x | _=>[]
theorem opp_eq {s:CS}(h:s∈relS):dget s oppDK oppDV=some (.str (oppS s)):=by
 simp only[relS,List.mem_cons,List.not_mem_nil,or_false]at h
 rcases h with rfl | rfl | rfl | rfl | rfl<;>rfl
theorem wr_eq {s:CS}(h:s∈wrDK):dget s wrDK wrDV=some (.str (wrS s)):=by
 simp only[wrDK,List.mem_cons,List.not_mem_nil,or_false]at h
 rcases h with rfl | rfl | rfl<;>rfl
theorem wr_len {s:CS}(h:s∈wrDK):(wrS s).length=1:=by
 simp only[wrDK,List.mem_cons,List.not_mem_nil,or_false]at h
 rcases h with rfl | rfl | rfl<;>rfl
theorem wdH_some {i:Int}{w:CS}(h:wdH ts i=w)(hw:w≠[]):∃t,atW ts i=some t∧t.1=sWord∧t.2=w:=by
 unfold wdH at h
 split at h
 ·rename_i t ht
  split at h
  ·exact⟨t,ht,by assumption,h⟩
  ·exact absurd h.symm hw
 ·exact absurd h.symm hw
theorem isWd_eq {i:Int}{w:CS}(hw:w≠[]):isWd ts i w=decide (wdH ts i=w):=by
 unfold isWd wdH
 cases h:atW ts i with
 |none=>simp[Ne.symm hw]
 |some t=>by_cases e:t.1=sWord<;>simp[e,Ne.symm hw]
noncomputable def sgH (ts:List WT)(a:Int):CS × Int:=match atW ts a with
 |some t=>if t.1=sSign then(t.2,a+1)else
  let a2:=if isWd ts (a+1) (if t.2=wEQUAL then wTO else wTHAN)then a+1+1 else a+1
  if ¬t.2=wEQUAL∧wdH ts a2=wOR∧wdH ts (a2+1)=wEQUAL then(wrS t.2++[61],if isWd ts (a2+1+1) wTO then a2+1+1+1 else a2+1+1)
  else(wrS t.2,a2)
 |none=>([],a)
theorem isRel_some (h:isRel ts a=true):∃t,atW ts a=some t∧((t.1=sSign∧t.2∈relS)∨(¬t.1=sSign∧t.1=sWord∧t.2∈wrDK)):=by
 unfold isRel at h
 split at h
 ·rename_i t ht
  refine⟨t,ht,?_⟩
  by_cases e:t.1=sSign
  ·left
   refine⟨e,?_⟩
   have hw:wdH ts a=[]:=by
    unfold wdH
    rw[ht]
    have:¬t.1=sWord:=by rw[e];decide
    simp[this]
   simpa [e,hw,nil_wr] using h
  ·right
   refine⟨e,?_⟩
   simp only[e,decide_false,Bool.false_and,Bool.false_or,decide_eq_true_eq]at h
   unfold wdH at h
   rw[ht]at h
   simp only at h
   split at h
   ·exact⟨by assumption,h⟩
   ·exact absurd h nil_wr
 ·cases h
theorem dEQUAL:isData (.str wEQUAL)=true:=by decide
theorem dOR:isData (.str wOR)=true:=by decide
theorem skipI (hs:tsOk ts=true)(ha:0≤a){w:CS}(hw:one w){q:Bool}{e:Int}(h:isWd ts a w=q)(he:(if isWd ts a w then a+1 else a)=e)(n:Nat):callV TB (n+44) (.base 216) [.ref (rI π ts),.str w] (enc π ts a nm γ)=
  some (.ok (.bool q) (enc π ts e nm γ)):=by subst h he;exact skip_s hs ha hw n
theorem sgW {t:WT}{a2:Int}(ht:atW ts a=some t)(h0:¬t.1=sSign)(h2:(if isWd ts (a+1) (if t.2=wEQUAL then wTO else wTHAN)then a+1+1 else a+1)=a2):
  sgH ts a=if ¬t.2=wEQUAL∧wdH ts a2=wOR∧wdH ts (a2+1)=wEQUAL then(wrS t.2++[61],if isWd ts (a2+1+1) wTO then a2+1+1+1 else a2+1+1)else(wrS t.2,a2):=by
 subst h2;unfold sgH;rw[ht];exact if_neg h0
theorem sign_here_s (hs:tsOk ts=true)(ha:0≤a)(hr:isRel ts a=true)(n:Nat):callV TB (n+75) (.base 336) [.ref (cI π ts γ1)] (enc π ts a nm (γ1++crC π ts isn dep last::γ2))=
  some (.ok (.str (sgH ts a).1) (enc π ts (sgH ts a).2 nm (γ1++crC π ts isn dep last::γ2))):=by
 obtain⟨t,ht,hcase⟩:=isRel_some hr
 obtain⟨d1,d2⟩:=tok_data hs ht
 have ha1:0≤a+1:=nn1 ha
 refine(c336 _).trans ?_
 delta bdx336
 rcases hcase with⟨h1,h2⟩| ⟨h0,h1,h2⟩
 ·rw[show sgH ts a=(t.2,a+1)by unfold sgH;rw[ht];exact if_pos h1]
  wide_open with 2 using [aK6,mR tm2_13,takeT hs ht,aT3 ht,aT4 ht,cET d1 dS h1]
 ·have hw:=wr_eq h2
  by_cases e1:t.2=wEQUAL
  ·rw[sgW ht h0 rfl,if_neg (fun q=>q.1 e1),if_pos e1]
   wide_open with 2 using [aK6,mR tm2_13,mR tm2_16,tg8,takeT hs ht,aT3 ht,aT4 ht,cEF d1 dS h0,cET d2 dEQUAL e1,skip_s hs ha1 oTO,sD hw,cNT d2 dEQUAL e1]
  ·obtain⟨a2,h2e⟩:∃a2:Int,(if isWd ts (a+1) wTHAN=true then a+1+1 else a+1)=a2:=⟨_,rfl⟩
   rw[sgW (a2:=a2) ht h0 (by rw[if_neg e1,h2e])]
   have ha2:0≤a2:=by rw[←h2e];exact nnI (nn1 (nn1 ha)) (nn1 ha)
   have ha3:0≤a2+1+1:=nn1 (nn1 ha2)
   have z:(0:Int)≤1:=by decide
   have hl:(wrS t.2).length+([61]:CS).length≤1000:=by rw[wr_len h2];decide
   by_cases q1:wdH ts a2=wOR
   ·by_cases q2:wdH ts (a2+1)=wEQUAL
    ·obtain⟨t1,q3,_⟩:=wdH_some q1 (by decide)
     obtain⟨t2,q4,_⟩:=wdH_some q2 (by decide)
     rw[if_pos ⟨e1,q1,q2⟩]
     wide_open with 2 using [aK6,mR tm2_13,mR tm2_16,tg8,tg32,takeT hs ht,aT3 ht,aT4 ht,cEF d1 dS h0,cEF d2 dEQUAL e1,skipI hs ha1 oTHAN rfl h2e,sD hw,cNF d2 dEQUAL e1,word0 hs ha2 q1,cET dOR dOR rfl,wordI hs ha2 z q2,cET dEQUAL dEQUAL rfl,takeT hs q3,takeT hs q4,skip_s hs ha3 oTO,bStr (sml_of hl)]
    ·rw[if_neg (fun q=>q2 q.2.2)]
     wide_open with 2 using [aK6,mR tm2_13,mR tm2_16,tg8,tg32,takeT hs ht,aT3 ht,aT4 ht,cEF d1 dS h0,cEF d2 dEQUAL e1,skipI hs ha1 oTHAN rfl h2e,sD hw,cNF d2 dEQUAL e1,word0 hs ha2 q1,cET dOR dOR rfl,wordI hs ha2 z rfl,cEF (wdH_data hs _) dEQUAL q2]
   ·rw[if_neg (fun q=>q1 q.2.1)]
    wide_open with 2 using [aK6,mR tm2_13,mR tm2_16,tg8,tg32,takeT hs ht,aT3 ht,aT4 ht,cEF d1 dS h0,cEF d2 dEQUAL e1,skipI hs ha1 oTHAN rfl h2e,sD hw,cNF d2 dEQUAL e1,word0 hs ha2 rfl,cEF (wdH_data hs _) dOR q1]
end
end
section
open PySem

section
variable {π γ γ1 γ2:List Cell}{ts:List WT}{a b:Int}{nm:V}{c c':Cell}{i:Nat}{isn last last' v:V}{dep:Int}
noncomputable def ExO (π:List Cell)(ts:List WT)(nm:V)(a:Int)(o:Except Cell V)(a':Int)(g:List Cell):Prop:=∀γ n,callV TB (n+215) (.base 23) [.ref (rI π ts)] (enc π ts a nm γ)=some (match o with
 | .ok v=>.ok v (enc π ts a' nm (γ++g))
 | .error c=>.ex (cI π ts (γ++g)) (enc π ts a' nm (γ++(g++[c]))))
noncomputable def CO (K:Nat)(π:List Cell)(ts:List WT)(nm isn:V)(dep:Int)(f:Nat)(args:List V)(a:Int)(last:V)(o:Except Cell V)(a':Int)(last':V)(g:List Cell):Prop :=
 ∀γ1 γ2 n,callV TB (n+K) (.base f) (.ref (cI π ts γ1)::args) (enc π ts a nm (γ1++crC π ts isn dep last::γ2))=some (match o with
 | .ok v=>.ok v (enc π ts a' nm (γ1++crC π ts isn dep last'::(γ2++g)))
 | .error c=>.ex (cI π ts (γ1++crC π ts isn dep last'::(γ2++g))) (enc π ts a' nm (γ1++crC π ts isn dep last'::(γ2++(g++[c])))))
theorem ExO.cc {o:Except Cell V}{a':Int}{g:List Cell}(h:ExO π ts nm a o a' g)(n:Nat):callV TB (n+215) (.base 23) [.ref (rI π ts)] (enc π ts a nm (γ1++c::γ2))=some (match (generalizing:=false) o with
 | .ok v=>.ok v (enc π ts a' nm (γ1++c::(γ2++g)))
 | .error x=>.ex (cI π ts (γ1++c::(γ2++g))) (enc π ts a' nm (γ1++c::(γ2++(g++[x]))))):=by
 have:=h (γ1++c::γ2) n
 simp only[ap3]at this
 exact this
theorem ExO.ok {v:V}{a':Int}{g:List Cell}(h:ExO π ts nm a (.ok v) a' g)(n:Nat):callV TB (n+215) (.base 23) [.ref (rI π ts)] (enc π ts a nm (γ1++c::γ2))=some (.ok v (enc π ts a' nm (γ1++c::(γ2++g)))):=h.cc n
theorem ExO.er {x:Cell}{a':Int}{g:List Cell}(h:ExO π ts nm a (.error x) a' g)(n:Nat):callV TB (n+215) (.base 23) [.ref (rI π ts)] (enc π ts a nm (γ1++c::γ2))=some (.ex (cI π ts (γ1++c::(γ2++g))) (enc π ts a' nm (γ1++c::(γ2++(g++[x]))))):=h.cc n
theorem CO.go {K f:Nat}{args:List V}{o:Except Cell V}{a':Int}{g:List Cell}(h:CO K π ts nm isn dep f args a last o a' last' g)(n:Nat):callV TB (n+K) (.base f) (.ref (cI π ts γ1)::args) (enc π ts a nm (γ1++crC π ts isn dep last::γ2))=some (match (generalizing:=false) o with
 | .ok v=>.ok v (enc π ts a' nm (γ1++crC π ts isn dep last'::(γ2++g)))
 | .error c=>.ex (cI π ts (γ1++crC π ts isn dep last'::(γ2++g))) (enc π ts a' nm (γ1++crC π ts isn dep last'::(γ2++(g++[c]))))):=h _ _ n
theorem CO.ok {K f:Nat}{args:List V}{a':Int}{g:List Cell}(h:CO K π ts nm isn dep f args a last (.ok v) a' last' g)(n:Nat):callV TB (n+K) (.base f) (.ref (cI π ts γ1)::args) (enc π ts a nm (γ1++crC π ts isn dep last::γ2))=some (.ok v (enc π ts a' nm (γ1++crC π ts isn dep last'::(γ2++g)))):=h _ _ n
theorem CO.er {K f:Nat}{args:List V}{x:Cell}{a':Int}{g:List Cell}(h:CO K π ts nm isn dep f args a last (.error x) a' last' g)(n:Nat):callV TB (n+K) (.base f) (.ref (cI π ts γ1)::args) (enc π ts a nm (γ1++crC π ts isn dep last::γ2))=some (.ex (cI π ts (γ1++crC π ts isn dep last'::(γ2++g))) (enc π ts a' nm (γ1++crC π ts isn dep last'::(γ2++(g++[x]))))):=h _ _ n
noncomputable def ntW (ts:List WT)(a:Int):Bool:=decide (wdH ts (a+(if wdH ts a=wIS then 1 else 0))=wNOT)
noncomputable abbrev tRel:CS:=[114,101,108]
noncomputable abbrev tNot:CS:=[110,111,116]
noncomputable abbrev isE (ts:List WT)(a:Int):Int:=a+(if wdH ts a=wIS then 1 else 0)
theorem isE_nn (ha:0≤a):0≤isE ts a:=by unfold isE;split;exact nn1 ha;exact(Int.add_zero a).symm▸ha
theorem wI0:wIS≠[]:=by decide
theorem wN0:wNOT≠[]:=by decide
theorem skIs (hs:tsOk ts=true)(ha:0≤a)(n:Nat):callV TB (n+44) (.base 216) [.ref (rI π ts),.str wIS] (enc π ts a nm γ)=some (.ok (.bool (isWd ts a wIS)) (enc π ts (isE ts a) nm γ)):=by
 refine skipI hs ha oIS rfl ?_ n
 rw[isWd_eq wI0]
 by_cases e:wdH ts a=wIS
 ·rw[dT e];exact congrArg (fun z:Int=>a+z) (if_pos e).symm
 ·rw[dF e];exact(Int.add_zero a).symm.trans (congrArg (fun z:Int=>a+z) (if_neg e).symm)
theorem skNt (hs:tsOk ts=true)(ha:0≤a){q:Bool}(h:ntW ts a=q)(n:Nat):callV TB (n+44) (.base 216) [.ref (rI π ts),.str wNOT] (enc π ts (isE ts a) nm γ)=some (.ok (.bool q) (enc π ts (a+plc ts a) nm γ)):=by
 subst h
 refine skipI hs (isE_nn ha) oNOT (isWd_eq wN0) ?_ n
 rw[isWd_eq wN0]
 by_cases e:wdH ts (isE ts a)=wNOT
 ·rw[dT e];exact(Int.add_assoc _ _ _).trans (congrArg (fun z:Int=>a+((if wdH ts a=wIS then 1 else 0)+z)) (if_pos e).symm)
 ·rw[dF e];exact(Int.add_zero _).symm.trans ((Int.add_assoc _ _ _).trans (congrArg (fun z:Int=>a+((if wdH ts a=wIS then 1 else 0)+z)) (if_neg e).symm))
theorem wr_rel {s:CS}(h:s∈wrDK):wrS s∈relS∧(¬s=wEQUAL→wrS s++[61]∈relS):=by
 simp only[wrDK,List.mem_cons,List.not_mem_nil,or_false]at h
 rcases h with rfl | rfl | rfl
 ·exact⟨by decide,fun _=>by decide⟩
 ·exact⟨by decide,fun _=>by decide⟩
 ·exact⟨by decide,fun h=>absurd rfl h⟩
theorem sgH_rel (hr:isRel ts a=true):(sgH ts a).1∈relS:=by
 obtain⟨t,ht,hcase⟩:=isRel_some hr
 unfold sgH
 rw[ht]
 simp only
 rcases hcase with⟨h1,h2⟩| ⟨h0,h1,h2⟩
 ·rw[if_pos h1];exact h2
 ·rw[if_neg h0]
  obtain⟨r1,r2⟩:=wr_rel h2
  generalize (if isWd ts (a+1) (if t.2=wEQUAL then wTO else wTHAN)=true then a+1+1 else a+1)=a2
  split
  ·rename_i q;exact r2 q.1
  ·exact r1
noncomputable def sgT (ts:List WT)(a:Int):CS:=if ntW ts a then oppS (sgH ts (a+plc ts a)).1 else(sgH ts (a+plc ts a)).1
theorem sgT_T (h:ntW ts a=true):sgT ts a=oppS (sgH ts (a+plc ts a)).1:=if_pos h
theorem sgT_F (h:ntW ts a=false):sgT ts a=(sgH ts (a+plc ts a)).1:=if_neg (by rw[h];decide)
theorem relation_s (hs:tsOk ts=true)(ha:0≤a)(hr:isRel ts (a+plc ts a)=true){x:V}{o:Except Cell V}{a':Int}{g:List Cell}(hx:ExO π ts nm (sgH ts (a+plc ts a)).2 o a' g):
  CO 235 π ts nm isn dep 335 [x] a last (o.map fun v=>.tup [.str tRel,.str (sgT ts a),x,v]) a' (.tup [x,.str (sgT ts a)]) g:=by
 intro γ1 γ2 n
 have hp:0≤a+plc ts a:=Int.add_nonneg ha (plc_nn ts a)
 have ho:=opp_eq (sgH_rel hr)
 refine(c335 _).trans ?_
 delta bdx335
 cases hn:ntW ts a with
 |true =>
  rw[sgT_T hn]
  induction o using Except.casesOn with
  |ok v=>wide_open with 2 using [aK6,aK9,mR tm2_16,mK tm3_36,tg5,tg23,skIs hs ha,skNt hs ha hn,sign_here_s hs hp hr,sD ho,setK9,sT1,hx.ok]
  |error e=>wide_open with 2 using [aK6,aK9,mR tm2_16,mK tm3_36,tg5,tg23,skIs hs ha,skNt hs ha hn,sign_here_s hs hp hr,sD ho,setK9,sT1,hx.er,xT4E]
 |false =>
  rw[sgT_F hn]
  induction o using Except.casesOn with
  |ok v=>wide_open with 2 using [aK6,aK9,mR tm2_16,mK tm3_36,tg5,tg23,skIs hs ha,skNt hs ha hn,sign_here_s hs hp hr,setK9,sT1,hx.ok]
  |error e=>wide_open with 2 using [aK6,aK9,mR tm2_16,mK tm3_36,tg5,tg23,skIs hs ha,skNt hs ha hn,sign_here_s hs hp hr,setK9,sT1,hx.er,xT4E]
noncomputable def clsV (w:CS)(x:V):V:=if w∈clsS then .tup [.str [99,108,97,115,115],.str w,x]else match dget w wsDK wsDV with | some y=>.tup [.str [115,105,103,110],y,x]| none=>.none
theorem ws_eq {w:CS}(h:w∈wsDK):∃y,dget w wsDK wsDV=some y:=by
 simp only[wsDK,List.mem_cons,List.not_mem_nil,or_false]at h
 rcases h with rfl | rfl | rfl | rfl | rfl<;>exact⟨_,rfl⟩
theorem predicate_rel (hs:tsOk ts=true)(ha:0≤a)(h1:¬wdH ts (a+plc ts a)∈clsS)(h2:¬wdH ts (a+plc ts a)∈wsDK){x:V}{o:Except Cell V}{a':Int}{g:List Cell}(hx:CO 235 π ts nm isn dep 335 [x] a last o a' last' g):
  CO 250 π ts nm isn dep 334 [x] a last o a' last' g:=by
 intro γ1 γ2 n
 refine(c334 _).trans ?_
 delta bdx334
 wide_open with 2 using [aK6,mK tm3_35,tg34,tg32,tg6,tg7,place_of_word_s hs ha,word_here_s hs ha (plc_nn ts a),cTnF clsL_s h1,cDnF h2,hx.go]
theorem predicate_cls (hs:tsOk ts=true)(ha:0≤a)(h:wdH ts (a+plc ts a)∈clsS∨wdH ts (a+plc ts a)∈wsDK){x:V}:
  CO 250 π ts nm isn dep 334 [x] a last (.ok (if ntW ts a then .tup [.str tNot,clsV (wdH ts (a+plc ts a)) x]else clsV (wdH ts (a+plc ts a)) x)) (a+plc ts a+1) .none []:=by
 intro γ1 γ2 n
 obtain⟨t,ht,_,hw⟩:∃t,atW ts (a+plc ts a)=some t∧t.1=sWord∧t.2=wdH ts (a+plc ts a):=wdH_some rfl (by rcases h with h | h<;>(intro e;rw[e]at h;revert h;decide))
 rw[List.append_nil]
 have hb:∀y:V,callV TB (n+250) (.base 334) [.ref (cI π ts γ1),x] (enc π ts a nm (γ1++crC π ts isn dep last::γ2))=some (.ok (if ntW ts a then .tup [.str tNot,clsV (wdH ts (a+plc ts a)) x]else clsV (wdH ts (a+plc ts a)) x) (enc π ts (a+plc ts a+1) nm (γ1++crC π ts isn dep .none::γ2))):=fun _=>by
  refine(c334 _).trans ?_
  delta bdx334
  by_cases h1:wdH ts (a+plc ts a)∈clsS
  ·rw[show clsV (wdH ts (a+plc ts a)) x=_ from if_pos h1]
   cases hn:ntW ts a with
   |true=>wide_open with 2 using [aK6,setK9,mR tm2_16,mR tm2_13,tg34,tg32,tg6,place_of_word_s hs ha,word_here_s hs ha (plc_nn ts a),cTnT clsL_s h1,cTi clsL_s (dT h1),skIs hs ha,skNt hs ha hn,takeT hs ht]
   |false=>wide_open with 2 using [aK6,setK9,mR tm2_16,mR tm2_13,tg34,tg32,tg6,place_of_word_s hs ha,word_here_s hs ha (plc_nn ts a),cTnT clsL_s h1,cTi clsL_s (dT h1),skIs hs ha,skNt hs ha hn,takeT hs ht]
  ·have h2:wdH ts (a+plc ts a)∈wsDK:=h.resolve_left h1
   obtain⟨y,hy⟩:=ws_eq h2
   rw[show clsV (wdH ts (a+plc ts a)) x=.tup [.str [115,105,103,110],y,x]from(if_neg h1).trans (by rw[hy])]
   cases hn:ntW ts a with
   |true=>wide_open with 2 using [aK6,setK9,mR tm2_16,mR tm2_13,tg34,tg32,tg6,tg7,place_of_word_s hs ha,word_here_s hs ha (plc_nn ts a),cTnF clsL_s h1,cDnT h2,cTi clsL_s (dF h1),sD hy,skIs hs ha,skNt hs ha hn,takeT hs ht]
   |false=>wide_open with 2 using [aK6,setK9,mR tm2_16,mR tm2_13,tg34,tg32,tg6,tg7,place_of_word_s hs ha,word_here_s hs ha (plc_nn ts a),cTnF clsL_s h1,cDnT h2,cTi clsL_s (dF h1),sD hy,skIs hs ha,skNt hs ha hn,takeT hs ht]
 exact hb .none
noncomputable def NmO (π:List Cell)(ts:List WT)(nm isn:V)(w:CS)(b:Bool):Prop:=∀a γ n,callV TB (n+20) isn [.str w,.tup []] (enc π ts a nm γ)=some (.ok (.bool b) (enc π ts a nm γ))
noncomputable abbrev tNamed:CS:=[110,97,109,101,100]
noncomputable abbrev tRef:CS:=[114,101,102]
theorem dRef:isData (.str tRef)=true:=by decide
theorem cRef:cmpV .Eq (.str tRef) (.str tRef)=some true:=cET dRef dRef rfl
theorem sU0 {s:Sg}{x:V}{l:List V}:subV s (.tup (x::l)) (.int 0)=some x:=rfl
theorem sU1 {s:Sg}{x y:V}{l:List V}:subV s (.tup (x::y::l)) (.int 1)=some y:=rfl
theorem sU2 {s:Sg}{x y z:V}{l:List V}:subV s (.tup (x::y::z::l)) (.int 2)=some z:=rfl
theorem unb_bare (hs:tsOk ts=true)(ha:0≤a)(hb:isRel ts (a+plc ts a)=true){x y:V}{o:Except Cell V}{a':Int}{g:List Cell}(hx:CO 235 π ts nm isn dep 335 [x] a (.tup [x,y]) o a' last' g):
  CO 262 π ts nm isn dep 330 [] a (.tup [x,y]) o a' last' g:=by
 intro γ1 γ2 n
 refine(c330 _).trans ?_
 delta bdx330
 wide_open with 2 using [aK6,mK tm3_35,mK tm3_32,tg36,bareB hs ha hb,sub_ok,hx.go]
theorem unb_bare_no (hs:tsOk ts=true)(hne:ts≠[])(ha:0≤a)(hb:isRel ts (a+plc ts a)=true):
  CO 262 π ts nm isn dep 330 [] a .none (.error (excC mRel (ftP ts a))) a .none []:=by
 intro γ1 γ2 n
 rw[List.append_nil]
 refine(c330 _).trans ?_
 delta bdx330
 wide_open with 2 using [aK6,mK tm3_35,mK tm3_32,tg36,bareB hs ha hb,sub_no hs hne ha,xMethE]
theorem unb_ex (hs:tsOk ts=true)(ha:0≤a)(hb:isRel ts (a+plc ts a)=false){cx:Cell}{a':Int}{g:List Cell}(hx:ExO π ts nm a (.error cx) a' g):
  CO 262 π ts nm isn dep 330 [] a last (.error cx) a' last g:=by
 intro γ1 γ2 n
 refine(c330 _).trans ?_
 delta bdx330
 wide_open with 2 using [ssAE,aK6,tg36,tg23,bareB hs ha hb,hx.er]
theorem unb_named (hs:tsOk ts=true)(ha:0≤a)(hb:isRel ts (a+plc ts a)=false){w:CS}{a':Int}{g:List Cell}(hx:ExO π ts nm a (.ok (refV w)) a' g)(hN:NmO π ts nm isn w true):
  CO 262 π ts nm isn dep 330 [] a last (.ok (.tup [.str tNamed,refV w])) a' .none g:=by
 intro γ1 γ2 n
 have hN':=fun γ n=>hN a' γ n
 refine(c330 _).trans ?_
 delta bdx330
 wide_open with 2 using [aK6,mK7,setK9,tg36,tg23,bareB hs ha hb,hx.ok,cRef,sU0,sU1,sU2,hN']
theorem unb_pred (hs:tsOk ts=true)(ha:0≤a)(hb:isRel ts (a+plc ts a)=false){w:CS}{a':Int}{g:List Cell}(ha':0≤a')(hx:ExO π ts nm a (.ok (refV w)) a' g)(hN:NmO π ts nm isn w false)(hp:isPred ts (a'+plc ts a')=true)
  {o:Except Cell V} {a2:Int} {g2:List Cell} (hx2:CO 250 π ts nm isn dep 334 [refV w] a' last o a2 last' g2):
  CO 262 π ts nm isn dep 330 [] a last o a2 last' (g++g2):=by
 intro γ1 γ2 n
 have hN':=fun γ n=>hN a' γ n
 have hx2':=hx2 γ1 (γ2++g)
 simp only[List.append_assoc]at hx2' ⊢
 refine(c330 _).trans ?_
 delta bdx330
 wide_open with 2 using [aK6,mK7,mK tm3_34,tg36,tg23,tg35,bareB hs ha hb,hx.ok,cRef,sU0,sU1,sU2,hN',predB hs ha' hp,hx2']
theorem unb_left (hs:tsOk ts=true)(ha:0≤a)(hb:isRel ts (a+plc ts a)=false){w:CS}{a':Int}{g:List Cell}(ha':0≤a')(hx:ExO π ts nm a (.ok (refV w)) a' g)(hN:NmO π ts nm isn w false)(hp:isPred ts (a'+plc ts a')=false){x y:V}:
  CO 262 π ts nm isn dep 330 [] a (.tup [x,y]) (.ok (.tup [.str tRel,y,x,refV w])) a' (.tup [x,y]) g:=by
 intro γ1 γ2 n
 have hN':=fun γ n=>hN a' γ n
 refine(c330 _).trans ?_
 delta bdx330
 wide_open with 2 using [aK6,mK7,mK tm3_33,mK tm3_32,tg36,tg23,tg35,bareB hs ha hb,hx.ok,cRef,sU0,sU1,sU2,hN',predB hs ha' hp,sub_ok,sig_ok]
theorem unb_left_no (hs:tsOk ts=true)(hne:ts≠[])(ha:0≤a)(hb:isRel ts (a+plc ts a)=false){w:CS}{a':Int}{g:List Cell}(ha':0≤a')(hx:ExO π ts nm a (.ok (refV w)) a' g)(hN:NmO π ts nm isn w false)(hp:isPred ts (a'+plc ts a')=false):
  CO 262 π ts nm isn dep 330 [] a .none (.error (excC mRel (ftP ts a'))) a' .none g:=by
 intro γ1 γ2 n
 have hN':=fun γ n=>hN a' γ n
 have hsig:=fun n=>sig_no (π:=π) (nm:=nm) (γ1:=γ1) (γ2:=γ2++g) (isn:=isn) (dep:=dep) hs hne ha' n
 rw[List.append_assoc]at hsig
 refine(c330 _).trans ?_
 delta bdx330
 wide_open with 2 using [xT4b,aK6,mK7,mK tm3_33,mK tm3_32,tg36,tg23,tg35,bareB hs ha hb,hx.ok,cRef,sU0,sU1,sU2,hN',predB hs ha' hp,hsig]
theorem single_un (hs:tsOk ts=true)(ha:0≤a)(h:isSg ts a [40]=false){o:Except Cell V}{a':Int}{g:List Cell}(hx:CO 262 π ts nm isn dep 330 [] a last o a' last' g):CO 272 π ts nm isn dep 329 [] a last o a' last' g:=by
 intro γ1 γ2 n
 have d1:isData (.str [40])=true:=by decide
 refine(c329 _).trans ?_
 delta bdx329
 wide_open with 2 using [aK6,mR tm2_20,mK tm3_30,signB hs ha d1 h,hx.go]
end
end
section
open PySem

noncomputable def bothT:X:=(.meth (.attr (.loc 0 (pz 3858082)) 6 (pz 3858089)) 16 (pz 3858094) [(.str [65,78,68] (pz 3860361))] (pz 3858101))
noncomputable def bothB:List S:=[.asN 1 (pz 3875504) (.tup [(.str [97,110,100] (pz 3876710)),(.loc 1 (pz 3877648)),(.meth (.loc 0 (pz 3878585)) 28 (pz 3878592) [] (pz 3878594))] 0 (pz 3876600)) (pz 3875536)]
noncomputable def eitherT:X:=(.meth (.attr (.loc 0 (pz 3751948)) 6 (pz 3751955)) 16 (pz 3751960) [(.str [79,82] (pz 3754226))] (pz 3751966))
noncomputable def eitherB:List S:=[.asN 1 (pz 3769370) (.tup [(.str [111,114] (pz 3770575)),(.loc 1 (pz 3771380)),(.meth (.loc 0 (pz 3772317)) 27 (pz 3772322) [] (pz 3772324))] 0 (pz 3770463)) (pz 3769399)]
noncomputable abbrev tAnd:CS:=[97,110,100]
noncomputable abbrev tOr:CS:=[111,114]
noncomputable def OKc (π:List Cell)(ts:List WT)(nm isn:V)(dep:Int)(γ1:List Cell)(K f:Nat)(a:Int)(last:V)(γ:List Cell)(v:V)(a':Int)(last':V)(γ':List Cell):Prop :=
 ∀n,callV TB (n+K) (.base f) [.ref (cI π ts γ1)] (enc π ts a nm (γ1++crC π ts isn dep last::γ))=some (.ok v (enc π ts a' nm (γ1++crC π ts isn dep last'::γ')))
noncomputable def EXc (π:List Cell)(ts:List WT)(nm isn:V)(dep:Int)(γ1:List Cell)(K f:Nat)(a:Int)(last:V)(γ:List Cell)(j:Nat)(σ:List Cell):Prop :=
 ∀n,callV TB (n+K) (.base f) [.ref (cI π ts γ1)] (enc π ts a nm (γ1++crC π ts isn dep last::γ))=some (.ex j σ)
inductive BS (π:List Cell)(ts:List WT)(nm isn:V)(dep:Int)(γ1:List Cell)(K f:Nat)(w tag:CS):V→Int→V→List Cell→V→Int→V→List Cell→Nat→Prop where
 |nil {v a last γ}:BS π ts nm isn dep γ1 K f w tag v a last γ v a last γ 0
 |cons {v a last γ v2 a2 last2 γ2 v3 a3 last3 γ3 k}:isWd ts a w=true→OKc π ts nm isn dep γ1 K f (a+1) last γ v2 a2 last2 γ2→0≤a2→BS π ts nm isn dep γ1 K f w tag (.tup [.str tag,v,v2]) a2 last2 γ2 v3 a3 last3 γ3 k→BS π ts nm isn dep γ1 K f w tag v a last γ v3 a3 last3 γ3 (k+1)
section
variable {π γ γ1 γ2:List Cell}{ts:List WT}{a b:Int}{nm:V}{c c':Cell}{i:Nat}{isn last last' v:V}{dep:Int}
theorem both_lp (hs:tsOk ts=true){K k:Nat}(hK:45≤K){v3:V}{a3:Int}{last3:V}{γ3:List Cell}(hb:BS π ts nm isn dep γ1 K 328 wAND tAnd v a last γ v3 a3 last3 γ3 k)(ha:0≤a){o:RS}(ho:∀n,exW TB (n+K+11) bothT bothB [some (.ref (cI π ts γ1)),some v3] (enc π ts a3 nm (γ1++crC π ts isn dep last3::γ3))=some o)(n:Nat):
  exW TB (n+k+K+11) bothT bothB [some (.ref (cI π ts γ1)),some v] (enc π ts a nm (γ1++crC π ts isn dep last::γ))=some o:=by
 induction hb with
 |nil=>exact ho n
 |cons h hco ha2 hbl ih =>
  rename_i v a last γ v2 a2 last2 γ2 v3 a3 last3 γ3 k
  have hi:=ih ha2 ho
  obtain⟨m,hm⟩:=exm hK (n+k)
  have hc:=hco (n+k+4)
  rw[show n+k+4+K=m+49 from fu hm 4]at hc
  rw[show n+k+K+11=m+56 from congrArg (· + 11) hm]at hi
  rw[show n+(k+1)+K+11=m+57 from congrArg (· + 11) (fu hm 1)]
  refine wT (s1:=enc π ts (a+1) nm (γ1++crC π ts isn dep last::γ)) ?_ tB ?_ (sqN hi)
  ·delta bothT
   wide_open with 2 using [aK6,mR tm2_16,skipT hs ha oAND h]
  ·delta bothB
   wide_open with 2 using [mK tm3_28,hc]
theorem both_d (hs:tsOk ts=true){K:Nat}(hK:45≤K)(ha:0≤a)(h:isWd ts a wAND=false)(n:Nat):exW TB (n+K+11) bothT bothB [some (.ref (cI π ts γ1)),some v] (enc π ts a nm (γ1++crC π ts isn dep last::γ))=some (.nx [some (.ref (cI π ts γ1)),some v] (enc π ts a nm (γ1++crC π ts isn dep last::γ))):=by
 obtain⟨m,hm⟩:=exm hK n
 rw[show n+K+11=m+56 from congrArg (· + 11) hm]
 refine wF ?_ tB
 delta bothT
 wide_open with 2 using [aK6,mR tm2_16,skipF hs ha oAND h]
theorem both_r (hs:tsOk ts=true){K:Nat}(hK:45≤K)(ha:0≤a)(h:isWd ts a wAND=true){j:Nat}{σ:List Cell}(hx:EXc π ts nm isn dep γ1 K 328 (a+1) last γ j σ)(n:Nat):exW TB (n+K+11) bothT bothB [some (.ref (cI π ts γ1)),some v] (enc π ts a nm (γ1++crC π ts isn dep last::γ))=some (.ex j [some (.ref (cI π ts γ1)),some v] σ):=by
 obtain⟨m,hm⟩:=exm hK n
 have hc:=hx (n+2)
 rw[show n+2+K=m+47 from fu hm 2]at hc
 have hc':=hx (n+3)
 rw[show n+3+K=m+48 from fu hm 3]at hc'
 have hc'':=hx (n+4)
 rw[show n+4+K=m+49 from fu hm 4]at hc''
 rw[show n+K+11=m+56 from congrArg (· + 11) hm]
 refine wT (s1:=enc π ts (a+1) nm (γ1++crC π ts isn dep last::γ)) ?_ tB ?_ sqE
 ·delta bothT
  wide_open with 2 using [aK6,mR tm2_16,skipT hs ha oAND h]
 ·delta bothB
  wide_open with 2 using [ssAE,xT3E,mK tm3_28,hc,hc',hc'']
theorem both_ok (hs:tsOk ts=true){K k:Nat}(hK:45≤K)(hk:k≤5){v1:V}{a1:Int}{last1:V}{γ':List Cell}(hx:OKc π ts nm isn dep γ1 K 328 a last γ v1 a1 last1 γ')(ha1:0≤a1){v3:V}{a3:Int}{last3:V}{γ3:List Cell}(hb:BS π ts nm isn dep γ1 K 328 wAND tAnd v1 a1 last1 γ' v3 a3 last3 γ3 k)(ha3:0≤a3)(h:isWd ts a3 wAND=false):
  OKc π ts nm isn dep γ1 (K+22) 327 a last γ v3 a3 last3 γ3:=by
 intro n
 have e:=both_lp hs hK hb ha1 (both_d hs hK ha3 h) (n+(7 - k))
 have e1:=hx (n+18)
 rw[Nat.add_right_comm n 18 K]at e1
 rw[f7 hk]at e
 delta bothT bothB at e
 show callV TB (n+K+22) _ _ _=_
 refine(c327 _).trans ?_
 delta bdx327
 wide_open with 2 using [mK tm3_28,e1,e]
theorem both_e1 {K:Nat}{j:Nat}{σ:List Cell}(hx:EXc π ts nm isn dep γ1 K 328 a last γ j σ):EXc π ts nm isn dep γ1 (K+22) 327 a last γ j σ:=by
 intro n
 have e1:=hx (n+18)
 rw[Nat.add_right_comm n 18 K]at e1
 show callV TB (n+K+22) _ _ _=_
 refine(c327 _).trans ?_
 delta bdx327
 wide_open with 2 using [ssAE,mK tm3_28,e1]
theorem both_e2 (hs:tsOk ts=true){K k:Nat}(hK:45≤K)(hk:k≤5){v1:V}{a1:Int}{last1:V}{γ':List Cell}(hx:OKc π ts nm isn dep γ1 K 328 a last γ v1 a1 last1 γ')(ha1:0≤a1){v3:V}{a3:Int}{last3:V}{γ3:List Cell}(hb:BS π ts nm isn dep γ1 K 328 wAND tAnd v1 a1 last1 γ' v3 a3 last3 γ3 k)(ha3:0≤a3)(h:isWd ts a3 wAND=true){j:Nat}{σ:List Cell}(hx2:EXc π ts nm isn dep γ1 K 328 (a3+1) last3 γ3 j σ):
  EXc π ts nm isn dep γ1 (K+22) 327 a last γ j σ:=by
 intro n
 have e:=both_lp hs hK hb ha1 (both_r hs hK ha3 h hx2) (n+(7 - k))
 have e1:=hx (n+18)
 rw[Nat.add_right_comm n 18 K]at e1
 rw[f7 hk]at e
 delta bothT bothB at e
 show callV TB (n+K+22) _ _ _=_
 refine(c327 _).trans ?_
 delta bdx327
 wide_open with 2 using [mK tm3_28,e1,e]

theorem either_lp (hs:tsOk ts=true){K k:Nat}(hK:45≤K){v3:V}{a3:Int}{last3:V}{γ3:List Cell}(hb:BS π ts nm isn dep γ1 K 327 wOR tOr v a last γ v3 a3 last3 γ3 k)(ha:0≤a){o:RS}(ho:∀n,exW TB (n+K+11) eitherT eitherB [some (.ref (cI π ts γ1)),some v3] (enc π ts a3 nm (γ1++crC π ts isn dep last3::γ3))=some o)(n:Nat):
  exW TB (n+k+K+11) eitherT eitherB [some (.ref (cI π ts γ1)),some v] (enc π ts a nm (γ1++crC π ts isn dep last::γ))=some o:=by
 induction hb with
 |nil=>exact ho n
 |cons h hco ha2 hbl ih =>
  rename_i v a last γ v2 a2 last2 γ2 v3 a3 last3 γ3 k
  have hi:=ih ha2 ho
  obtain⟨m,hm⟩:=exm hK (n+k)
  have hc:=hco (n+k+4)
  rw[show n+k+4+K=m+49 from fu hm 4]at hc
  rw[show n+k+K+11=m+56 from congrArg (· + 11) hm]at hi
  rw[show n+(k+1)+K+11=m+57 from congrArg (· + 11) (fu hm 1)]
  refine wT (s1:=enc π ts (a+1) nm (γ1++crC π ts isn dep last::γ)) ?_ tB ?_ (sqN hi)
  ·delta eitherT
   wide_open with 2 using [aK6,mR tm2_16,skipT hs ha oOR h]
  ·delta eitherB
   wide_open with 2 using [mK tm3_27,hc]
theorem either_d (hs:tsOk ts=true){K:Nat}(hK:45≤K)(ha:0≤a)(h:isWd ts a wOR=false)(n:Nat):exW TB (n+K+11) eitherT eitherB [some (.ref (cI π ts γ1)),some v] (enc π ts a nm (γ1++crC π ts isn dep last::γ))=some (.nx [some (.ref (cI π ts γ1)),some v] (enc π ts a nm (γ1++crC π ts isn dep last::γ))):=by
 obtain⟨m,hm⟩:=exm hK n
 rw[show n+K+11=m+56 from congrArg (· + 11) hm]
 refine wF ?_ tB
 delta eitherT
 wide_open with 2 using [aK6,mR tm2_16,skipF hs ha oOR h]
theorem either_r (hs:tsOk ts=true){K:Nat}(hK:45≤K)(ha:0≤a)(h:isWd ts a wOR=true){j:Nat}{σ:List Cell}(hx:EXc π ts nm isn dep γ1 K 327 (a+1) last γ j σ)(n:Nat):exW TB (n+K+11) eitherT eitherB [some (.ref (cI π ts γ1)),some v] (enc π ts a nm (γ1++crC π ts isn dep last::γ))=some (.ex j [some (.ref (cI π ts γ1)),some v] σ):=by
 obtain⟨m,hm⟩:=exm hK n
 have hc:=hx (n+2)
 rw[show n+2+K=m+47 from fu hm 2]at hc
 have hc':=hx (n+3)
 rw[show n+3+K=m+48 from fu hm 3]at hc'
 have hc'':=hx (n+4)
 rw[show n+4+K=m+49 from fu hm 4]at hc''
 rw[show n+K+11=m+56 from congrArg (· + 11) hm]
 refine wT (s1:=enc π ts (a+1) nm (γ1++crC π ts isn dep last::γ)) ?_ tB ?_ sqE
 ·delta eitherT
  wide_open with 2 using [aK6,mR tm2_16,skipT hs ha oOR h]
 ·delta eitherB
  wide_open with 2 using [ssAE,xT3E,mK tm3_27,hc,hc',hc'']
theorem either_ok (hs:tsOk ts=true){K k:Nat}(hK:45≤K)(hk:k≤5){v1:V}{a1:Int}{last1:V}{γ':List Cell}(hx:OKc π ts nm isn dep γ1 K 327 a last γ v1 a1 last1 γ')(ha1:0≤a1){v3:V}{a3:Int}{last3:V}{γ3:List Cell}(hb:BS π ts nm isn dep γ1 K 327 wOR tOr v1 a1 last1 γ' v3 a3 last3 γ3 k)(ha3:0≤a3)(h:isWd ts a3 wOR=false):
  OKc π ts nm isn dep γ1 (K+22) 326 a last γ v3 a3 last3 γ3:=by
 intro n
 have e:=either_lp hs hK hb ha1 (either_d hs hK ha3 h) (n+(7 - k))
 have e1:=hx (n+18)
 rw[Nat.add_right_comm n 18 K]at e1
 rw[f7 hk]at e
 delta eitherT eitherB at e
 show callV TB (n+K+22) _ _ _=_
 refine(c326 _).trans ?_
 delta bdx326
 wide_open with 2 using [mK tm3_27,e1,e]
theorem either_e1 {K:Nat}{j:Nat}{σ:List Cell}(hx:EXc π ts nm isn dep γ1 K 327 a last γ j σ):EXc π ts nm isn dep γ1 (K+22) 326 a last γ j σ:=by
 intro n
 have e1:=hx (n+18)
 rw[Nat.add_right_comm n 18 K]at e1
 show callV TB (n+K+22) _ _ _=_
 refine(c326 _).trans ?_
 delta bdx326
 wide_open with 2 using [ssAE,mK tm3_27,e1]
theorem either_e2 (hs:tsOk ts=true){K k:Nat}(hK:45≤K)(hk:k≤5){v1:V}{a1:Int}{last1:V}{γ':List Cell}(hx:OKc π ts nm isn dep γ1 K 327 a last γ v1 a1 last1 γ')(ha1:0≤a1){v3:V}{a3:Int}{last3:V}{γ3:List Cell}(hb:BS π ts nm isn dep γ1 K 327 wOR tOr v1 a1 last1 γ' v3 a3 last3 γ3 k)(ha3:0≤a3)(h:isWd ts a3 wOR=true){j:Nat}{σ:List Cell}(hx2:EXc π ts nm isn dep γ1 K 327 (a3+1) last3 γ3 j σ):
  EXc π ts nm isn dep γ1 (K+22) 326 a last γ j σ:=by
 intro n
 have e:=either_lp hs hK hb ha1 (either_r hs hK ha3 h hx2) (n+(7 - k))
 have e1:=hx (n+18)
 rw[Nat.add_right_comm n 18 K]at e1
 rw[f7 hk]at e
 delta eitherT eitherB at e
 show callV TB (n+K+22) _ _ _=_
 refine(c326 _).trans ?_
 delta bdx326
 wide_open with 2 using [mK tm3_27,e1,e]

theorem init_g {σ:Sg}{r isn d:V}(n:Nat):callV TB (n+20) (.base 399) [.ref σ.length,r,isn,d] (σ++[.inst 3 []])=some (.ok .none (σ++[.inst 3 [(6,r),(7,isn),(8,d),(9,.none)]])):=by
 have s6:setA (σ++[.inst 3 []]) (.ref σ.length) 6 r=some (σ++[.inst 3 [(6,r)]]):=setN rfl rfl
 have s7:setA (σ++[.inst 3 [(6,r)]]) (.ref σ.length) 7 isn=some (σ++[.inst 3 [(6,r),(7,isn)]]):=setN rfl rfl
 have s8:setA (σ++[.inst 3 [(6,r),(7,isn)]]) (.ref σ.length) 8 d=some (σ++[.inst 3 [(6,r),(7,isn),(8,d)]]):=setN rfl rfl
 have s9:setA (σ++[.inst 3 [(6,r),(7,isn),(8,d)]]) (.ref σ.length) 9 .none=some (σ++[.inst 3 [(6,r),(7,isn),(8,d),(9,.none)]]):=setN rfl rfl
 refine(c399 _).trans ?_
 delta bdx399
 wide_open with 2 using [s6,s7,s8,s9]
theorem cr_new {isn:V}{d:Int}(n:Nat):callV TB (n+40) (.base 3) [.ref (rI π ts),isn,.int d] (enc π ts a nm γ)=some (.ok (.ref (cI π ts γ)) (enc π ts a nm (γ++crC π ts isn d .none::[]))):=by
 rw[←enc_app,←enc_len (π:=π) (ts:=ts) (a:=a) (nm:=nm) (γ:=γ)]
 exact new_of ti3 tf3 (init_g _)
theorem cIsF {x:V}(h:isNone x=false):cmpV .Is x .none=some false:=congrArg some h
theorem read_cond {isn:V}(hni:isNone isn=false){r:R V}(hx:∀n,callV TB (n+430) (.base 326) [.ref (cI π ts γ)] (enc π ts a nm (γ++crC π ts isn 0 .none::[]))=some r)(n:Nat):
  callV TB (n+445) (.base 37) [.ref (rI π ts),isn] (enc π ts a nm γ)=some r:=by
 refine(c37 _).trans ?_
 delta bdx37
 wide_open with 2 using [cIsF hni,tg3,mK tm3_26,cr_new,hx]
theorem dFX:isData (.str [70,88])=true:=by decide
theorem lamF {x y:V}{n:Nat}{σ:Sg}{o:R V}(h:exX TB (n+19) lam_2.2 [some x,some y] σ=some o):callV TB (n+20) (.clo 2 []) [x,y] σ=some o:=h
theorem named_fx {w:CS}(hw:isData (.str w)=true){b:Bool}(hb:decide (w=[70,88])=b):NmO π ts nm (.clo 2 []) w b:=by
 intro a γ n
 refine lamF ?_
 delta lam_2
 dsimp only
 wide_open with 2 using [cEd hw dFX hb]
end
end
section
open PySem

noncomputable def alphaW:CS→Bool
 |c::_=>Nat.ble 65 c&&Nat.ble c 90
 | []=>false
noncomputable def tokOf (w:CS):WT:=(if alphaW w then sWord else sSign,w)
noncomputable def Win (ts:List WT)(a:Int)(ws:List CS):Prop:=∀i:Nat,i<ws.length→atW ts (a+i)=ws[i]?.map tokOf
theorem win_cons {ts:List WT}{a:Int}{w:CS}{ws:List CS}(h:Win ts a (w::ws)):atW ts a=some (tokOf w)∧Win ts (a+1) ws:=by
 refine⟨by have:=h 0 (by simp);simpa using this,fun i hi=>?_⟩
 have:=h (i+1) (by simpa using hi)
 rw[show a+1+(i:Int)=a+((i+1:Nat):Int)from ca1.symm]
 simpa using this
theorem win_wd {ts:List WT}{a:Int}{w:CS}{ws:List CS}(h:Win ts a (w::ws)):wdH ts a=if alphaW w then w else[]:=by
 obtain⟨h,_⟩:=win_cons h
 unfold wdH
 rw[h]
 unfold tokOf
 by_cases q:alphaW w=true
 ·simp[q]
 ·have:¬sSign=sWord:=by decide
  simp[q,this]
theorem tok_rel {s:CS}(h:s∈relS):tokOf s=(sSign,s):=of_decide_eq_true (List.all_eq_true.mp (show(relS.all fun s=>decide (tokOf s=(sSign,s)))=true by decide) s h)
theorem nWS:¬sWord=sSign:=by decide
end
section
open PySem

section
variable {π γ γ1 γ2:List Cell}{ts:List WT}{a b:Int}{nm:V}{c c':Cell}{i:Nat}{isn last last' v:V}{dep:Int}
noncomputable def folOK:Option WT→Bool
 |none=>true
 |some t=>!(decide (t.1=sSign)&&decide (t.2∈[[43],[45],[42],[47],[42,42],[40]]))&&!(decide (t.1=sWord)&&decide (t.2∈[[79,70],[73,78]]))
theorem plain_of (h:folOK (atW ts a)=true):plainF ts a=true:=by
 unfold folOK at h
 unfold plainF sgA isWd isSg
 cases q:atW ts a with
 |none=>simp
 |some t =>
  rw[q]at h
  simp only[List.mem_cons,List.not_mem_nil,or_false,Bool.and_eq_true,Bool.not_eq_true',Bool.and_eq_false_iff,decide_eq_false_iff_not,not_or]at h
  by_cases e1:t.1=sSign
  ·have e2:¬t.1=sWord:=by rw[e1];decide
   have h1:=h.1.resolve_left (by simp[e1])
   simp[e1,e2,h1]
  ·by_cases e2:t.1=sWord
   ·have h2:=h.2.resolve_left (by simp[e2])
    simp[e1,e2,h2]
   ·simp[e1,e2]
noncomputable def nmOK (w:CS):Bool:=alphaW w&&!resv w&&!(decide (w=[65,76,76]))&&!(figDK.contains w)&&decide (w≠wNOT)&&decide (w≠wIS)&&!decide (w∈wrDK)
theorem sum_name (hs:tsOk ts=true)(ha:0≤a){w:CS}(hw:nmOK w=true)(h:atW ts a=some (tokOf w))(hf:folOK (atW ts (a+1))=true){d:Int}(hd:d≤20)(n:Nat):callV TB (n+150) (.base 25) [.ref (rI π ts),.int d] (enc π ts a nm γ)=some (.ok (refV w) (enc π ts (a+1) nm (γ++[.list []]))):=by
 have hp:=plain_of hf
 have hp':=hp
 simp only[nmOK,Bool.and_eq_true,Bool.not_eq_true',decide_eq_false_iff_not]at hw
 obtain⟨⟨⟨⟨⟨⟨w1,w2⟩,w3⟩,w4⟩,w5⟩,w6⟩,w7⟩:=hw
 have ht:tokOf w=(sWord,w):=by simp[tokOf,w1]
 rw[ht]at h
 simp only[plainF,Bool.and_eq_true,decide_eq_true_eq,Bool.not_eq_true']at hp
 obtain⟨⟨⟨⟨⟨f1,f2⟩,f3⟩,f4⟩,f5⟩,f6⟩:=hp
 have nWS:¬sWord=sSign:=by decide
 have nWN:¬sWord=sNumber:=by decide
 have nWL:¬sWord=sLiteral:=by decide
 have h0:sgA ts a [[43],[45]]=[]:=by simp[sgA,h,nWS]
 have h1:isSg ts a [40]=false:=by simp[isSg,h,nWS]
 have hn:isNm ts a=true:=by simp[isNm,h,w2]
 have w4':¬w∈figDK:=by simpa using w4
 have hl:noLit ts a=true:=by simp[noLit,isSg,isK,isWd,isFig,h,nWS,nWN,nWL,w3,w4']
 exact chain_ok hs ha h0 hd (nn1 ha) hp' (primary_op hs ha h0 h1 (d:=.int d) (r:=.ok (refV w) (enc π ts (a+1) nm (γ++[.list []]))) (operand_ok hs ha hl h hn f4 f5 f6)) n
theorem exo_name (hs:tsOk ts=true)(ha:0≤a){w:CS}(hw:nmOK w=true)(h:atW ts a=some (tokOf w))(hf:folOK (atW ts (a+1))=true):ExO π ts nm a (.ok (refV w)) (a+1) [.list []]:=by
 intro γ n
 exact expr_s (sum_name hs ha hw h hf (by decide)) (n+60)
noncomputable def badOp:Option WT→Bool
 |none=>true
 |some t=>!(decide (t.1=sSign)&&decide (t.2∈[[43],[45],[40]]))&&!decide (t.1=sNumber)&&!decide (t.1=sLiteral)&&!(decide (t.1=sWord)&&(!resv t.2||decide (t.2=[65,76,76])||figDK.contains t.2))
theorem sum_no (hs:tsOk ts=true)(hne:ts≠[])(ha:0≤a)(hb:badOp (atW ts a)=true){d:Int}(hd:d≤20)(n:Nat):callV TB (n+150) (.base 25) [.ref (rI π ts),.int d] (enc π ts a nm γ)=some (.ex (cI π ts γ) (enc π ts a nm (γ++[excC mName (ftP ts a)]))):=by
 have all:sgA ts a [[43],[45]]=[]∧isSg ts a [40]=false∧isNm ts a=false∧noLit ts a=true:=by
  unfold badOp at hb
  cases q:atW ts a with
  |none=>simp[sgA,isSg,isNm,noLit,isK,isWd,isFig,q]
  |some t =>
   rw[q]at hb
   simp only[List.mem_cons,List.not_mem_nil,or_false,Bool.and_eq_true,Bool.not_eq_true',Bool.and_eq_false_iff,decide_eq_false_iff_not,not_or,Bool.or_eq_false_iff,Bool.not_eq_false']at hb
   obtain⟨⟨⟨b1,b2⟩,b3⟩,b4⟩:=hb
   by_cases e1:t.1=sSign
   ·have e2:¬t.1=sWord:=by rw[e1];decide
    have h1:=b1.resolve_left (by simp[e1])
    have n1:¬sSign=sWord:=by decide
    have n2:¬sSign=sNumber:=by decide
    have n3:¬sSign=sLiteral:=by decide
    refine⟨?_,?_,?_,?_⟩<;>simp[sgA,isSg,isNm,noLit,isK,isWd,isFig,q,e1,h1,n1,n2,n3]
   ·by_cases e2:t.1=sWord
    ·have h2:=b4.resolve_left (by simp[e2])
     have n2:¬sWord=sNumber:=by decide
     have n3:¬sWord=sLiteral:=by decide
     have n4:¬sWord=sSign:=by decide
     obtain⟨⟨q1,q2⟩,q3⟩:=h2
     refine⟨?_,?_,?_,?_⟩<;>simp[sgA,isSg,isNm,noLit,isK,isWd,isFig,q,e2,n2,n3,n4,q1,q2]<;>simpa using q3
    ·refine⟨?_,?_,?_,?_⟩<;>simp[sgA,isSg,isNm,noLit,isK,isWd,isFig,q,e1,e2,b2,b3]
 obtain⟨h0,h1,hn,hl⟩:=all
 exact chain_ex hs ha h0 hd (primary_op hs ha h0 h1 (d:=.int d) (r:=.ex (cI π ts γ) (enc π ts a nm (γ++[excC mName (ftP ts a)]))) (operand_ex hs hne ha hl hn)) n
noncomputable def isnt (is nt:Bool):List CS:=(if is then[wIS]else[])++(if nt then[wNOT]else[])
theorem isnt_ok {is nt:Bool}{f:CS}{rest:List CS}(h:Win ts a (isnt is nt++(f::rest)))(hf1:f≠wIS)(hf2:f≠wNOT):plc ts a=((isnt is nt).length:Int)∧ntW ts a=nt∧Win ts (a+plc ts a) (f::rest):=by
 have aI:alphaW wIS=true:=rfl
 have aN:alphaW wNOT=true:=rfl
 have d1:¬wIS=wNOT:=by decide
 have d2:¬wNOT=wIS:=by decide
 have e1:¬([]:CS)=wIS:=by decide
 have e2:¬([]:CS)=wNOT:=by decide
 have hfw:∀{b:Int},Win ts b (f::rest)→¬wdH ts b=wIS∧¬wdH ts b=wNOT:=fun h=>by
  have:=win_wd h
  rw[this]
  split
  ·exact⟨hf1,hf2⟩
  ·exact⟨e1,e2⟩
 cases is<;>cases nt
 ·obtain⟨q1,q2⟩:=hfw h
  have hp:plc ts a=0:=by simp[plc,q1,q2]
  exact⟨by rw[hp];rfl,by simp[ntW,q1,q2],by rw[hp,Int.add_zero];exact h⟩
 ·have w1:=win_wd h
  obtain⟨_,h'⟩:=win_cons h
  have q0:wdH ts a=wNOT:=w1
  have hp:plc ts a=1:=by simp[plc,q0,d2]
  exact⟨by rw[hp];rfl,by simp[ntW,q0,d2],by rw[hp];exact h'⟩
 ·have w1:=win_wd h
  obtain⟨_,h'⟩:=win_cons h
  obtain⟨q1,q2⟩:=hfw h'
  have q0:wdH ts a=wIS:=w1
  have hp:plc ts a=1:=by simp[plc,q0,q2]
  exact⟨by rw[hp];rfl,by simp[ntW,q0,q2],by rw[hp];exact h'⟩
 ·have w1:=win_wd h
  obtain⟨_,h'⟩:=win_cons h
  have w2:=win_wd h'
  obtain⟨_,h''⟩:=win_cons h'
  have q0:wdH ts a=wIS:=w1
  have q1:wdH ts (a+1)=wNOT:=w2
  have hp:plc ts a=2:=by simp[plc,q0,q1]
  exact⟨by rw[hp];rfl,by simp[ntW,q0,q1],by rw[hp,show a+2=a+1+1 from(Int.add_assoc a 1 1).symm];exact h''⟩
theorem win_app {l1 l2:List CS}(h:Win ts a (l1++l2)):Win ts a l1∧Win ts (a+l1.length) l2:=by
 refine⟨fun i hi=>?_,fun i hi=>?_⟩
 ·rw[h i (by rw[List.length_append];exact Nat.lt_of_lt_of_le hi (Nat.le_add_right _ _)),List.getElem?_append_left hi]
 ·have:=h (l1.length+i) (by rw[List.length_append];exact Nat.add_lt_add_left hi _)
  rw[List.getElem?_append_right (Nat.le_add_right _ _),Nat.add_sub_cancel_left]at this
  rw[←caA]
  exact this
theorem turned_no (hs:tsOk ts=true)(ha:0≤a)(h:(decide (wdH ts a=wNOT)&&!isRel ts (a+plc ts a))=false){K:Nat}(hK:45≤K){r:R V}
  (hx:∀n,callV TB (n+K) (.base 329) [.ref (cI π ts γ1)] (enc π ts a nm (γ1++crC π ts isn dep last::γ))=some r) (n:Nat):callV TB (n+(K+12)) (.base 328) [.ref (cI π ts γ1)] (enc π ts a nm (γ1++crC π ts isn dep last::γ))=some r:=by
 obtain⟨m,hm⟩:=exm hK n
 have e1:=hx (n+7)
 rw[show n+7+K=m+52 from fu hm 7]at e1
 rw[show n+(K+12)=m+57 from congrArg (· + 12) hm]
 refine(c328 _).trans ?_
 delta bdx328
 by_cases e:wdH ts a=wNOT
 ·have e2:isRel ts (a+plc ts a)=true:=by rw[dT e,Bool.true_and,Bool.not_eq_false']at h;exact h
  wide_open with 2 using [aK6,mK tm3_29,tg32,tg36,word0 hs ha e,bareB hs ha e2,cET dNOT dNOT rfl,e1]
 ·wide_open with 2 using [aK6,mK tm3_29,tg32,tg36,word0 hs ha rfl,cEF (wdH_data hs _) dNOT e,e1]
theorem turned_ok (hs:tsOk ts=true)(ha:0≤a)(h1:wdH ts a=wNOT)(h2:isRel ts (a+plc ts a)=false){K:Nat}(hK:45≤K){v:V}{σ:List Cell}
  (hx:∀n,callV TB (n+K) (.base 329) [.ref (cI π ts γ1)] (enc π ts (a+1) nm (γ1++crC π ts isn dep last::γ))=some (.ok v σ)) (n:Nat):callV TB (n+(K+12)) (.base 328) [.ref (cI π ts γ1)] (enc π ts a nm (γ1++crC π ts isn dep last::γ))=some (.ok (.tup [.str tNot,v]) σ):=by
 obtain⟨t,ht,_,_⟩:=wdH_some h1 wN0
 obtain⟨m,hm⟩:=exm hK n
 have e1:=hx (n+2)
 rw[show n+2+K=m+47 from fu hm 2]at e1
 rw[show n+(K+12)=m+57 from congrArg (· + 12) hm]
 refine(c328 _).trans ?_
 delta bdx328
 wide_open with 2 using [aK6,mK tm3_29,mR tm2_13,tg32,tg36,word0 hs ha h1,bareB hs ha h2,cET dNOT dNOT rfl,takeT hs ht,e1]
theorem turned_ex (hs:tsOk ts=true)(ha:0≤a)(h1:wdH ts a=wNOT)(h2:isRel ts (a+plc ts a)=false){K:Nat}(hK:45≤K){j:Nat}{σ:List Cell}
  (hx:∀n,callV TB (n+K) (.base 329) [.ref (cI π ts γ1)] (enc π ts (a+1) nm (γ1++crC π ts isn dep last::γ))=some (.ex j σ)) (n:Nat):callV TB (n+(K+12)) (.base 328) [.ref (cI π ts γ1)] (enc π ts a nm (γ1++crC π ts isn dep last::γ))=some (.ex j σ):=by
 obtain⟨t,ht,_,_⟩:=wdH_some h1 wN0
 obtain⟨m,hm⟩:=exm hK n
 have e1:=hx (n+2)
 rw[show n+2+K=m+47 from fu hm 2]at e1
 rw[show n+(K+12)=m+57 from congrArg (· + 12) hm]
 refine(c328 _).trans ?_
 delta bdx328
 wide_open with 2 using [xT2E,aK6,mK tm3_29,mR tm2_13,tg32,tg36,word0 hs ha h1,bareB hs ha h2,cET dNOT dNOT rfl,takeT hs ht,e1]
end
end
section
open PySem

section
variable {π γ γ1 γ2:List Cell}{ts:List WT}{a b:Int}{nm:V}{c c':Cell}{i:Nat}{isn last last' v:V}{dep:Int}
theorem enc_newc:(enc π ts a nm (γ1++c::(γ2++[c'])))[cI π ts (γ1++c::γ2)]?=some c':=by
 rw[←ap3]
 exact enc_new
noncomputable def okW:CS→Bool
 |c::r=>(alphaW (c::r)||!(Nat.ble 48 c&&Nat.ble c 57)&&!Nat.beq c 39)&&isData (.str (c::r))&&decide (r.length≤800)
 | []=>false
noncomputable def encP (π:List Cell)(ts:List WT):List Cell:=π++(.list ((List.range ts.length).map fun i=>V.ref (π.length+1+i))::toksC 0 ts)
theorem encP_len:(encP π ts).length=π.length+1+ts.length:=by rw[encP,List.length_append,List.length_cons,toksC_len];exact Nat.add_right_comm π.length ts.length 1
theorem tok_init {σ:List Cell}{k w p:V}(n:Nat):callV TB (n+20) (.base 199) [.ref σ.length,k,w,p] (σ++[.inst 1 []])=some (.ok .none (σ++[.inst 1 [(3,k),(4,w),(1,p),(5,.bool false)]])):=by
 have s3:setA (σ++[.inst 1 []]) (.ref σ.length) 3 k=some (σ++[.inst 1 [(3,k)]]):=setN rfl rfl
 have s4:setA (σ++[.inst 1 [(3,k)]]) (.ref σ.length) 4 w=some (σ++[.inst 1 [(3,k),(4,w)]]):=setN rfl rfl
 have s1:setA (σ++[.inst 1 [(3,k),(4,w)]]) (.ref σ.length) 1 p=some (σ++[.inst 1 [(3,k),(4,w),(1,p)]]):=setN rfl rfl
 have s5:setA (σ++[.inst 1 [(3,k),(4,w),(1,p)]]) (.ref σ.length) 5 (.bool false)=some (σ++[.inst 1 [(3,k),(4,w),(1,p),(5,.bool false)]]):=setN rfl rfl
 refine(c199 _).trans ?_
 delta bdx199
 wide_open with 2 using [s3,s4,s1,s5]
theorem tok_new {σ:List Cell}{k w p:V}(n:Nat):callV TB (n+22) (.base 1) [k,w,p] σ=some (.ok (.ref σ.length) (σ++[.inst 1 [(3,k),(4,w),(1,p),(5,.bool false)]])):=new_of ti1 tf1 (tok_init (n+1))
theorem toksC_app:∀(l:List WT) (i:Nat) (t:WT),toksC i (l++[t])=toksC i l++[tokC (i+l.length) t]
 | [],i,t=>rfl
 |x::l,i,t=>by
  simp only[List.cons_append,toksC,toksC_app l,List.length_cons]
  rw[show i+1+l.length=i+(l.length+1)from Nat.succ_add_eq_add_succ _ _]
theorem encP_l:(encP π ts)[π.length]?=some (.list ((List.range ts.length).map fun i=>V.ref (π.length+1+i))):=by simp[encP]
theorem encP_l' {x:Cell}:(encP π ts++[x])[π.length]?=some (.list ((List.range ts.length).map fun i=>V.ref (π.length+1+i))):=by simp[encP]
theorem encP_snoc {t:WT}:(encP π ts++[tokC ts.length t]).set π.length (.list (((List.range ts.length).map fun i=>V.ref (π.length+1+i))++[.ref (π.length+1+ts.length)]))=encP π (ts++[t]):=by
 simp[encP,List.range_succ,toksC_app]
theorem isSub_1 (c:Nat):∀l:List Nat,isSub [c] l=l.any fun x=>decide (c=x)
 | []=>rfl
 |x::t=>by simp only[isSub,isPre,isSub_1 c t,List.any_cons,Bool.and_true]
theorem dDig (c:Nat):isSub [c] [48,49,50,51,52,53,54,55,56,57]=(Nat.ble 48 c&&Nat.ble c 57):=by
 by_cases h:c<58
 ·exact(show ∀c,c<58→isSub [c] [48,49,50,51,52,53,54,55,56,57]=(Nat.ble 48 c&&Nat.ble c 57)by decide +kernel) c h
 ·have e:Nat.ble c 57=false:=Bool.eq_false_iff.mpr fun q=>h (Nat.lt_succ_of_le (Nat.le_of_ble_eq_true q))
  rw[isSub_1,e,Bool.and_false,List.any_eq_false]
  intro x hx q
  have z:x<58:=of_decide_eq_true (List.all_eq_true.mp (show([48,49,50,51,52,53,54,55,56,57]:List Nat).all (fun x=>decide (x<58))=true by decide) x hx)
  exact h ((of_decide_eq_true q)▸z)
theorem cleA (c:Nat):cle [65] [c]=Nat.ble 65 c:=by
 unfold cle
 by_cases h:65≤c
 ·rw[Nat.ble_eq.mpr h];simp[List.cons_lt_cons_iff];first | exact h | exact Nat.lt_of_not_le h | exact Nat.not_lt.mpr h | omega
 ·rw[show Nat.ble 65 c=false from Bool.eq_false_iff.mpr fun q=>h (Nat.ble_eq.mp q)];simp[List.cons_lt_cons_iff];first | exact h | exact Nat.lt_of_not_le h | exact Nat.not_lt.mpr h | omega
theorem cleZ (c:Nat):cle [c] [90]=Nat.ble c 90:=by
 unfold cle
 by_cases h:c≤90
 ·rw[Nat.ble_eq.mpr h];simp[List.cons_lt_cons_iff];first | exact h | exact Nat.lt_of_not_le h | exact Nat.not_lt.mpr h | omega
 ·rw[show Nat.ble c 90=false from Bool.eq_false_iff.mpr fun q=>h (Nat.ble_eq.mp q)];simp[List.cons_lt_cons_iff];first | exact h | exact Nat.lt_of_not_le h | exact Nat.not_lt.mpr h | omega
noncomputable def rdTs:List (Nat × Pos):=[(2,(pz 8403349)),(3,(pz 8403887))]
noncomputable abbrev rdST:List (Option V)→V→Option (List (Option V)):=stT rdTs
noncomputable def rdB:List S:=[.asN 4 (pz 8421040) (.ite (.cmp2 (.str [65] (pz 8423317)) .LtE (.sub (.loc 3 (pz 8424256)) (.int 0 (pz 8424923)) (pz 8424259)) .LtE (.str [90] (pz 8425729)) (pz 8423335)) (.str [119,111,114,100] (pz 8421980)) (.ite (.cmp (.sub (.loc 3 (pz 8428544)) (.int 0 (pz 8429211)) (pz 8428547)) .In (.str [48,49,50,51,52,53,54,55,56,57] (pz 8430026)) (pz 8428563)) (.str [110,117,109,98,101,114] (pz 8426940)) (.ite (.cmp (.sub (.loc 3 (pz 8434172)) (.int 0 (pz 8434839)) (pz 8434175)) .Eq (.str [39] (pz 8435645)) (pz 8434182)) (.str [108,105,116,101,114,97,108] (pz 8432435)) (.str [115,105,103,110] (pz 8436854)) (pz 8432465)) (pz 8427012)) (pz 8422091)) (pz 8421160),
  .expr (.meth (.loc 1 (pz 8438731)) 39 (pz 8438738) [(.call (.glob 1 (pz 8440606)) [(.loc 4 (pz 8441409)),(.ite (.cmp (.loc 4 (pz 8444089)) .Eq (.str [108,105,116,101,114,97,108] (pz 8445166)) (pz 8444102)) (.slc (.loc 3 (pz 8442213)) (some (.int 1 (pz 8442880))) (some (.neg (.int 1 (pz 8443282)) (pz 8443149))) (pz 8442883) (pz 8442219)) (.loc 3 (pz 8447171)) (pz 8442250)),(.tup [(.int 1 (pz 8448106)),(.bin (.loc 2 (pz 8448509)) .Add (.int 1 (pz 8449178)) (pz 8448513))] 0 (pz 8447982))] (pz 8440668))] (pz 8438807)) (pz 8438807)]
theorem mL39':methF TB (encP π ts) (.ref π.length) 39=some none:=by
 unfold methF
 dsimp only
 rw[encP_l]
 rfl
theorem mApp (h:ts.length≤1000){k w:CS}:methV (.ref π.length) 39 [.ref (encP π ts).length] (encP π ts++[.inst 1 [(3,.str k),(4,.str w),(1,.tup [.int 1,.int (ts.length+1)]),(5,.bool false)]])=some (.ok .none (encP π (ts++[(k,w)]))):=by
 show(match (encP π ts++[_])[π.length]? with | some (.list l)=>if sml l.length then some (R.ok V.none ((encP π ts++[_]).set π.length (Cell.list (l++[V.ref (encP π ts).length]))))else none | _=>none)=_
 rw[encP_l',encP_len]
 dsimp only
 rw[List.length_map,List.length_range,if_pos (sml_of h)]
 exact congrArg (fun s=>some (R.ok V.none s)) (encP_snoc (t:=(k,w)))
theorem nF {T:Tabs}{st:Fr→V→Option Fr}{a:List S}{n m:Nat}{x y:Option V}{fr:Fr}{s:Sg}:exF T (n+60+0) st a (enumV m []) (x::y::fr) s=some (.nx (x::y::fr) s):=rfl
theorem xDct0 {T:Tabs}{n:Nat}{p:Pos}{fr:Fr}{s:Sg}:exX T (n+1) (.dct [] [] p) fr s=some (.ok (.dct [] []) s):=rfl
theorem rd_body {ch:Nat}{r:CS}(h1:okW (ch::r)=true)(hl':ts.length≤1000){f0 f4:Option V}(n:Nat):exSs TB (n+60) rdB [f0,some (.ref π.length),some (.int ts.length),some (.str (ch::r)),f4] (encP π ts)=
  some (.nx [f0,some (.ref π.length),some (.int ts.length),some (.str (ch::r)),some (.str (tokOf (ch::r)).1)] (encP π (ts++[tokOf (ch::r)]))):=by
 simp only[okW,Bool.and_eq_true]at h1
 obtain⟨⟨q1,q2⟩,q3⟩:=h1
 have n1:¬sWord=sLiteral:=by decide
 have n2:¬sSign=sLiteral:=by decide
 delta rdB
 cases hz:alphaW (ch::r)with
 |true =>
  have ha':=hz
  simp only[alphaW,Bool.and_eq_true]at ha'
  have k1:=(cleA ch).trans ha'.1
  have k2:=(cleZ ch).trans ha'.2
  rw[show tokOf (ch::r)=(sWord,ch::r)by unfold tokOf;rw[hz];rfl]
  wide_open with 2 using [sStr0,xCmp2t,cLeB k1,cLeB k2,mL39',tg1,cEF dW dL n1,tok_new,mApp hl']
 |false =>
  have d1:isData (.str [39])=true:=by decide
  have d2:isData (.str [ch])=true:=Bool.and_eq_true_iff.mpr ⟨(Bool.and_eq_true_iff.mp (show(decide (ch<1114112)&&r.all fun c=>decide (c<1114112))=true from q2)).1,rfl⟩
  rw[hz,Bool.false_or,Bool.and_eq_true]at q1
  have k1:isSub [ch] [48,49,50,51,52,53,54,55,56,57]=false:=by rw[dDig];exact(Bool.not_eq_true' _).mp q1.1
  have k2:¬ [ch]=[39]:=by
   intro e
   have e:ch=39:=(List.cons.inj e).1
   subst e
   exact absurd q1.2 (by decide)
  rw[show tokOf (ch::r)=(sSign,ch::r)by unfold tokOf;rw[hz];rfl]
  cases hy:Nat.ble 65 ch with
  |true =>
   have hz2:Nat.ble ch 90=false:=by
    rw[show alphaW (ch::r)=(Nat.ble 65 ch&&Nat.ble ch 90)from rfl,hy,Bool.true_and]at hz
    exact hz
   have k3:=(cleA ch).trans hy
   have k4:=(cleZ ch).trans hz2
   wide_open with 2 using [sStr0,xCmp2t,cLeB k3,cLeB k4,cSubB k1,cEF d2 d1 k2,mL39',tg1,cEF dS dL n2,tok_new,mApp hl']
  |false =>
   have k3:=(cleA ch).trans hy
   wide_open with 2 using [sStr0,xCmp2f,cLeB k3,cSubB k1,cEF d2 d1 k2,mL39',tg1,cEF dS dL n2,tok_new,mApp hl']
theorem rd_loop:∀(ws:List CS) (ts0:List WT) (f0 f2 f3 f4:Option V) (n:Nat),ws.all okW=true→ts0.length+ws.length≤900→∃fr,exF TB (n+60+ws.length) rdST rdB (enumV ts0.length (ws.map .str)) [f0,some (.ref π.length),f2,f3,f4] (encP π ts0)=some (.nx (f0::some (.ref π.length)::fr) (encP π (ts0++ws.map tokOf))):=fun ws=>by
 induction ws with
 |nil=>exact fun ts0 f0 f2 f3 f4 n _ _=>⟨_,by rw[List.map_nil,List.map_nil,List.append_nil];exact nF⟩
 |cons w ws ih =>
  intro ts0 f0 f2 f3 f4 n hk hl
  rw[List.all_cons,Bool.and_eq_true]at hk
  rw[List.length_cons]at hl
  obtain⟨fr,ih⟩:=ih (ts0++[tokOf w]) f0 (some (.int ts0.length)) (some (.str w)) (some (.str (tokOf w).1)) n hk.2 (by rw[List.length_append,List.length_singleton,Nat.add_right_comm];exact hl)
  rw[List.length_append,List.append_assoc]at ih
  refine⟨fr,?_⟩
  show exF TB (n+60+ws.length+1) rdST rdB (.tup [.int ts0.length,.str w]::enumV (ts0.length+1) (ws.map .str)) _ _=_
  refine fC rfl ?_ (sqN ih)
  rw[Nat.add_right_comm]
  match w,hk.1 with
  |ch::r,h1=>exact rd_body h1 (Nat.le_trans (Nat.le_add_right _ (ws.length+1)) (tk hl)) _
theorem rdr_init {σ:List Cell}{l:V}(n:Nat):callV TB (n+20) (.base 299) [.ref σ.length,l] (σ++[.inst 2 []])=some (.ok .none (σ++[.inst 2 [(0,l),(1,.int 0),(2,.dct [] [])]])):=by
 have s0:setA (σ++[.inst 2 []]) (.ref σ.length) 0 l=some (σ++[.inst 2 [(0,l)]]):=setN rfl rfl
 have s1:setA (σ++[.inst 2 [(0,l)]]) (.ref σ.length) 1 (.int 0)=some (σ++[.inst 2 [(0,l),(1,.int 0)]]):=setN rfl rfl
 have s2:setA (σ++[.inst 2 [(0,l),(1,.int 0)]]) (.ref σ.length) 2 (.dct [] [])=some (σ++[.inst 2 [(0,l),(1,.int 0),(2,.dct [] [])]]):=setN rfl rfl
 refine(c299 _).trans ?_
 delta bdx299
 wide_open with 2 using [s0,s1,s2,xDct0]
theorem rdr_new {σ:List Cell}{l:V}(n:Nat):callV TB (n+30) (.base 2) [l] σ=some (.ok (.ref σ.length) (σ++[.inst 2 [(0,l),(1,.int 0),(2,.dct [] [])]])):=new_of ti2 tf2 (rdr_init (n+9))
theorem encP_enc:encP π ts++[.inst 2 [(0,.ref π.length),(1,.int 0),(2,.dct [] [])]]=enc π ts 0 (.dct [] []) []:=by
 unfold encP enc
 rw[List.append_assoc]
 rfl
theorem rI_P:rI π ts=(encP π ts).length:=by rw[encP_len];first | rfl | exact Nat.add_right_comm _ _ _ | (unfold rI;omega)
theorem eP0:π++[.list []]=encP π []:=rfl
theorem reader_s {ws:List CS}(hk:ws.all okW=true)(hl:ws.length≤180)(n:Nat):callV TB (n+250) (.base 42) [.lst (ws.map .str)] π=some (.ok (.ref (rI π (ws.map tokOf))) (enc π (ws.map tokOf) 0 (.dct [] []) [])):=by
 obtain⟨fr,hlp⟩:=rd_loop (π:=π) ws [] (some (.lst (ws.map .str))) none none none (n+(186 - ws.length)) hk (by rw[List.length_nil,Nat.zero_add];exact Nat.le_trans hl (by decide))
 rw[show n+(186 - ws.length)+60+ws.length=n+246 from show _=n+186+60 by rw[Nat.add_right_comm _ 60,Nat.add_assoc n,Nat.sub_add_cancel (Nat.le_trans hl (by decide))],List.nil_append,List.length_nil]at hlp
 delta rdST rdB rdTs at hlp
 rw[rI_P,←encP_enc]
 refine(c42 _).trans ?_
 delta bdx42
 wide_open with 2 using [eP0,hlp,tg2,rdr_new,rfl]
end
end
section
open PySem

theorem nl {N k j b:Nat}(h:N+k≤b)(hk:j≤k):N+j≤b:=Nat.le_trans (Nat.add_le_add_left hk N) h
noncomputable def Pen (N:Nat)(c:Cell):Prop:=∃(l:List Int) (spot rest seed:Int),c=.list [.lst (l.map .int),.int spot,.int rest,.int seed]∧l.length≤63∧0≤spot∧spot≤N∧0≤rest∧0≤seed∧seed<1009
section
variable {N:Nat}{l:List Int}{spot rest seed m x:Int}{ρ:List Cell}
noncomputable abbrev penC (l:List Int)(spot rest seed:Int):Cell:=.list [.lst (l.map .int),.int spot,.int rest,.int seed]
theorem pS0:subV (penC l spot rest seed::ρ) (.ref 0) (.int 0)=some (.lst (l.map .int)):=rfl
theorem pS1:subV (penC l spot rest seed::ρ) (.ref 0) (.int 1)=some (.int spot):=rfl
theorem pS2:subV (penC l spot rest seed::ρ) (.ref 0) (.int 2)=some (.int rest):=rfl
theorem pS3:subV (penC l spot rest seed::ρ) (.ref 0) (.int 3)=some (.int seed):=rfl
theorem pG:(penC l spot rest seed::ρ)[0]?=some (.list [.lst (l.map .int),.int spot,.int rest,.int seed]):=rfl
theorem pH1 {a b c d:V}:0≤(1:Int)∧(1:Int)≤1000∧(1:Int).toNat<[a,b,c,d].length:=⟨by decide,by decide,Nat.le_of_ble_eq_true rfl⟩
theorem pH2 {a b c d:V}:0≤(2:Int)∧(2:Int)≤1000∧(2:Int).toNat<[a,b,c,d].length:=⟨by decide,by decide,Nat.le_of_ble_eq_true rfl⟩
theorem pU1 {a b c d v:V}{x:Cell}:(x::ρ).set 0 (.list ([a,b,c,d].set (1:Int).toNat v))=.list [a,v,c,d]::ρ:=rfl
theorem pU2 {a b c d v:V}{x:Cell}:(x::ρ).set 0 (.list ([a,b,c,d].set (2:Int).toNat v))=.list [a,b,v,d]::ρ:=rfl
theorem pLen {s:Sg}(h:l.length≤1000):bifV s 0 [.lst (l.map .int)]=some (.int l.length):=by
 show(if sml (l.map V.int).length then some (V.int (l.map V.int).length)else none)=_
 rw[List.length_map]
 exact if_pos (sml_of h)
theorem pSub {s:Sg}(h2:0≤spot)(hs:spot≤1000)(hx:l[spot.toNat]?=some x):subV s (.lst (l.map .int)) (.int spot)=some (.int x):=by
 refine(if_pos ⟨h2,hs⟩).trans ?_
 show(l.map V.int)[spot.toNat]?=_
 rw[List.getElem?_map,hx]
 rfl
theorem bMod {s:Sg}{y:Int}(h:y≠0):binV s .Mod (.int x) (.int y)=some (.int (x.fmod y)):=if_pos h
theorem bFd {s:Sg}{y:Int}(h:y≠0)(h2:y.natAbs<2 ^ 64):binV s .FloorDiv (.int x) (.int y)=some (.int (x.fdiv y)):=if_pos (c:=y≠0∧y.natAbs<2 ^ 64) ⟨h,h2⟩
theorem bMul {s:Sg}{y:Int}(h:x.natAbs<2 ^ 64):binV s .Mult (.int x) (.int y)=some (.int (x*y)):=if_pos h
theorem bFd7 {s:Sg}:binV s .FloorDiv (.int x) (.int 7)=some (.int (x.fdiv 7)):=bFd (by decide) (by decide)
theorem bMul2 {s:Sg}{y:Int}:binV s .Mult (.int 2) (.int y)=some (.int (2*y)):=bMul (by decide)
theorem bAbs {s:Sg}:bifV s 1 [.int x]=some (.int x.natAbs):=rfl
theorem cLtD {y:Int}:cmpV .Lt (.int x) (.int y)=some (decide (x<y)):=rfl
theorem sel01 {P:Prop}[Decidable P]{T:Tabs}{n:Nat}{p q:Pos}{fr:Fr}{s:Sg}:exX T (n+1) (sel (decide P) (.int 1 p) (.int 0 q)) fr s=some (.ok (.int (if P then 1 else 0)) s):=by
 by_cases h:P
 ·rw[dT h,if_pos h];rfl
 ·rw[dF h,if_neg h];rfl
noncomputable def P18:Int:=10 ^ 18
theorem pow18 (s:List Cell):binV s .Pow (.int 10) (.int 18)=some (.int P18):=by
 unfold P18
 show(if (18:Int)=18∧(10:Int).natAbs<2 ^ 64 then some (V.int ((10:Int) ^ 18))else none)=_
 exact if_pos ⟨rfl,by decide⟩
noncomputable abbrev grt (x:Int):Int:=2*((x.natAbs:Int) - P18)+(if x<0 then 1 else 0)
theorem draw1 (hm0:m≠0)(q2:m.natAbs<2 ^ 64)(q:0<rest)(n:Nat):callV TB (n+24) (.base 40) [.ref 0,.int m] (penC l spot rest seed::ρ)=some (.ok (.int (rest.fmod m)) (penC l spot (rest.fdiv m) seed::ρ)):=by
 refine(c40 _).trans ?_
 delta bdx40
 wide_open with 2 using [pS2,cGtT q,bMod hm0,bFd hm0 q2,ssD,pG,pH2,pU2]
theorem draw2 (hm0:m≠0)(q:¬0<rest)(hl1:l.length≤1000)(q3:(l.length:Int)≤spot)(b1:(seed+5).natAbs<2 ^ 64)(b2:((seed+5)*(spot+3)).natAbs<2 ^ 64)(n:Nat):
  callV TB (n+24) (.base 40) [.ref 0,.int m] (penC l spot rest seed::ρ)=some (.ok (.int ((((seed+5)*(spot+3)*(spot+11)).fdiv 7).fmod m)) (penC l (spot+1) rest seed::ρ)):=by
 refine(c40 _).trans ?_
 delta bdx40
 wide_open with 2 using [pS0,pS1,pS2,pS3,cGtF q,cGeT q3,bMod hm0,bFd7,bMul b1,bMul b2,ssD,pG,pH1,pU1,pLen hl1]
theorem draw3 (hm0:m≠0)(q:¬0<rest)(hl1:l.length≤1000)(q3:¬(l.length:Int)≤spot)(h2:0≤spot)(hs:spot≤1000)(hx:l[spot.toNat]?=some x)(q5:(x.natAbs:Int)<P18)(n:Nat):
  callV TB (n+24) (.base 40) [.ref 0,.int m] (penC l spot rest seed::ρ)=some (.ok (.int (x.fmod m)) (penC l (spot+1) rest seed::ρ)):=by
 refine(c40 _).trans ?_
 delta bdx40
 wide_open with 2 using [pS0,pS1,pS2,cGtF q,cGeF q3,cLtT q5,pow18,bAbs,bMod hm0,ssD,pG,pH1,pU1,pLen hl1,pSub h2 hs hx]
theorem draw4 (hm0:m≠0)(hm:m.natAbs<2 ^ 64)(q:¬0<rest)(hl1:l.length≤1000)(q3:¬(l.length:Int)≤spot)(h2:0≤spot)(hs:spot≤1000)(hx:l[spot.toNat]?=some x)(q5:¬(x.natAbs:Int)<P18)(n:Nat):
  callV TB (n+24) (.base 40) [.ref 0,.int m] (penC l spot rest seed::ρ)=some (.ok (.int ((grt x).fmod m)) (penC l (spot+1) ((grt x).fdiv m) seed::ρ)):=by
 refine(c40 _).trans ?_
 delta bdx40
 wide_open with 2 using [pS0,pS1,pS2,cGtF q,cGeF q3,cLtF q5,cLtD,sel01,pow18,bAbs,bMod hm0,bMul2,bFd hm0 hm,ssD,pG,pH1,pU1,pH2,pU2,pLen hl1,pSub h2 hs hx]
end
theorem mz {m:Int}(h:1≤m):m≠0∧0<m∧0≤m:=⟨fun e=>absurd (e▸h) (by decide),Int.lt_of_lt_of_le (by decide) h,Int.le_trans (by decide) h⟩
theorem n64 {m:Int}(h:0≤m)(h2:m<2 ^ 64):m.natAbs<2 ^ 64:=Int.ofNat_lt.mp ((Int.natAbs_of_nonneg h).symm▸h2)
theorem mb {m:Int}(h:1≤m)(h2:m≤1000):m.natAbs<2 ^ 64:=n64 (Int.le_trans (by decide) h) (Int.lt_of_le_of_lt h2 (by decide))
theorem sN {spot:Int}{N:Nat}(h2:0≤spot)(h3:spot≤N):0≤spot+1∧spot+1≤((N+1:Nat):Int):=⟨nn1 h2,Int.add_le_add_right h3 1⟩
theorem sM {spot:Int}{N:Nat}(h3:spot≤N)(hN:N≤500):spot≤500:=Int.le_trans h3 (Int.ofNat_le.mpr hN)
theorem sP {seed spot:Int}(h5:0≤seed)(h6:seed<1009)(h2:0≤spot)(h3:spot≤500):(seed+5).natAbs<2 ^ 64∧((seed+5)*(spot+3)).natAbs<2 ^ 64:=by
 have a1:0≤seed+5:=Int.add_nonneg h5 (by decide)
 have a2:0≤spot+3:=Int.add_nonneg h2 (by decide)
 have a3:seed+5≤1014:=Int.add_le_add_right (Int.le_of_lt h6) 5
 exact⟨n64 a1 (Int.lt_of_le_of_lt a3 (by decide)),n64 (Int.mul_nonneg a1 a2) (Int.lt_of_le_of_lt (Int.mul_le_mul a3 (Int.add_le_add_right h3 3) a2 (by decide)) (by decide))⟩
theorem gP {x:Int}(q:¬(x.natAbs:Int)<P18):0≤grt x:=by
 show 0≤2*((x.natAbs:Int) - P18)+(if x<0 then(1:Int)else 0)
 exact Int.add_nonneg (Int.mul_nonneg (by decide) (Int.sub_nonneg_of_le (Int.not_lt.mp q))) (nnI (by decide) (by decide))
theorem lP {l:List Int}{spot:Int}(h:¬(l.length:Int)≤spot)(h2:0≤spot):spot.toNat<l.length:=(Int.toNat_lt h2).mpr (Int.not_le.mp h)
theorem fdP {x m:Int}(h:0≤x)(hm:0≤m):0≤x.fdiv m:=by
 rw[Int.fdiv_eq_ediv_of_nonneg _ hm]
 exact Int.ediv_nonneg h hm
theorem draw_s {N:Nat}{c:Cell}(hp:Pen N c)(hN:N≤500){m:Int}(hm:1≤m)(hm2:m≤1000)(ρ:List Cell):∃(d:Int) (c':Cell),0≤d∧d<m∧Pen (N+1) c'∧∀n,callV TB (n+24) (.base 40) [.ref 0,.int m] (c::ρ)=some (.ok (.int d) (c'::ρ)):=by
 obtain⟨l,spot,rest,seed,rfl,h1,h2,h3,h4,h5,h6⟩:=hp
 obtain⟨hm0,hms,hmn⟩:=mz hm
 have q2:=mb hm hm2
 have hl1:l.length≤1000:=Nat.le_trans h1 (by decide)
 obtain⟨s1,s2⟩:=sN h2 h3
 have s3:=sM h3 hN
 by_cases q:0<rest
 ·exact⟨_,_,Int.fmod_nonneg_of_pos _ hms,Int.fmod_lt_of_pos _ hms,⟨l,spot,rest.fdiv m,seed,rfl,h1,h2,Int.le_trans h3 (Int.ofNat_le.mpr (Nat.le_succ N)),fdP h4 hmn,h5,h6⟩,draw1 hm0 q2 q⟩
 ·by_cases q3:(l.length:Int)≤spot
  ·obtain⟨b1,b2⟩:=sP h5 h6 h2 s3
   exact⟨_,_,Int.fmod_nonneg_of_pos _ hms,Int.fmod_lt_of_pos _ hms,⟨l,spot+1,rest,seed,rfl,h1,s1,s2,h4,h5,h6⟩,draw2 hm0 q hl1 q3 b1 b2⟩
  ·obtain⟨x,hx⟩:∃x,l[spot.toNat]?=some x:=⟨_,List.getElem?_eq_getElem (lP q3 h2)⟩
   have s4:spot≤1000:=Int.le_trans s3 (by decide)
   by_cases q5:(x.natAbs:Int)<P18
   ·exact⟨_,_,Int.fmod_nonneg_of_pos _ hms,Int.fmod_lt_of_pos _ hms,⟨l,spot+1,rest,seed,rfl,h1,s1,s2,h4,h5,h6⟩,draw3 hm0 q hl1 q3 h2 s4 hx q5⟩
   ·exact⟨_,_,Int.fmod_nonneg_of_pos _ hms,Int.fmod_lt_of_pos _ hms,⟨l,spot+1,_,seed,rfl,h1,s1,s2,fdP (gP q5) hmn,h5,h6⟩,draw4 hm0 q2 q hl1 q3 h2 s4 hx q5⟩
theorem pL0:List.length ([]:Sg)=0:=rfl
theorem pL1 {c:Cell}:([]:Sg)++[c]=[c]:=rfl
theorem pen_s {l:List Int}(hl:l.length≤63):∃c,Pen 0 c∧∀n,callV TB (n+20) (.base 41) [.lst (l.map .int)] []=some (.ok (.ref 0) [c]):=by
 have hsum:∀l:List Int,sumI (l.map .int)=some l.sum:=by
  intro l
  induction l with
  |nil=>rfl
  |cons x l ih=>simp[sumI,ih]
 have hl1:l.length≤1000:=Nat.le_trans hl (by decide)
 have ht:List.take 63 (l.map V.int)=l.map .int:=List.take_of_length_le (by simpa using hl)
 have e1:slcV [] (.lst (l.map V.int)) none (some (.int 63))=some (.lst (l.map .int)):=by
  show(if sml (l.map V.int).length∧(63:Int).natAbs≤1000 then some (V.lst (List.take 63 (l.map V.int)))else none)=_
  rw[ht]
  exact if_pos ⟨sml_of (by rw[List.length_map];exact hl1),by decide⟩
 have e2:bifV [] 4 [.lst (l.map V.int)]=some (.lst (l.map .int)):=if_pos (sml_of (by rw[List.length_map];exact hl1))
 have e3:bifV [] 2 [.lst (l.map V.int)]=some (.int l.sum):=(if_pos (sml_of (by rw[List.length_map];exact hl1))).trans (by rw[hsum];rfl)
 have e4:binV [] .Mod (.int (l.sum.natAbs:Int)) (.int 1009)=some (.int ((l.sum.natAbs:Int).fmod 1009)):=bMod (by decide)
 refine⟨.list [.lst (l.map .int),.int 0,.int 0,.int ((l.sum.natAbs:Int).fmod 1009)],⟨l,0,0,_,rfl,hl,by decide,by decide,by decide,Int.fmod_nonneg_of_pos _ (by decide),Int.fmod_lt_of_pos _ (by decide)⟩,fun n=>?_⟩
 refine(c41 _).trans ?_
 delta bdx41
 wide_open with 2 using [e1,e2,e3,e4,bAbs,pL0,pL1]
theorem ref_s {w:V}{σ:List Cell}(n:Nat):callV TB (n+12) (.base 43) [w] σ=some (.ok (.tup [.str tRef,w,.tup [],.tup [],.none]) σ):=by
 refine(c43 _).trans ?_
 delta bdx43
 wide_open with 2 using [rfl]
theorem turned_d {σ:List Cell}(n:Nat):callV TB (n+6) (.base 39) [] σ=some (.ok (.dct [[61],[60],[62],[60,61],[62,61]] [.str [60,62],.str [62,61],.str [60,61],.str [62],.str [60]]) σ):=Eq.trans rfl rfl
theorem atW_map {ws:List CS}{i:Nat}:atW (ws.map tokOf) (i:Int)=ws[i]?.map tokOf:=by
 unfold atW
 rw[if_pos (Int.natCast_nonneg _),Int.toNat_natCast,List.getElem?_map]
theorem win_map {P ws Q:List CS}:Win ((P++(ws++Q)).map tokOf) (P.length:Int) ws:=by
 intro i hi
 rw[←Int.natCast_add,atW_map,List.getElem?_append_right (Nat.le_add_right _ _),Nat.add_sub_cancel_left,List.getElem?_append_left hi]
theorem at_behind {P ws Q:List CS}:atW ((P++(ws++Q)).map tokOf) ((P.length:Int)+(ws.length:Int))=Q.head?.map tokOf:=by
 rw[←Int.natCast_add,atW_map,←List.append_assoc,List.getElem?_append_right (by simp),List.head?_eq_getElem?]
 simp
noncomputable def wdO:Option CS→CS
 |some w=>if alphaW w then w else[]
 |none=>[]
theorem wdH_behind {ts:List WT}{i:Int}{o:Option CS}(h:atW ts i=o.map tokOf):wdH ts i=wdO o:=by
 unfold wdH
 rw[h]
 induction o using Option.casesOn with
 |none=>rfl
 |some w =>
  unfold tokOf
  by_cases q:alphaW w=true
  ·simp[q,wdO]
  ·have:¬sSign=sWord:=by decide
   simp[q,this,wdO]
theorem tsOk_map {ws:List CS}(hk:ws.all okW=true)(hl:ws.length≤180):tsOk (ws.map tokOf)=true:=by
 unfold tsOk
 rw[Bool.and_eq_true,List.all_map]
 refine⟨by simp;omega,?_⟩
 rw[List.all_eq_true]at hk ⊢
 intro w hw
 have:=hk w hw
 match w,this with
 |ch::r,this =>
  simp only[okW,Bool.and_eq_true,decide_eq_true_eq]at this
  simp only[Function.comp,tokOf,Bool.and_eq_true,decide_eq_true_eq]
  refine⟨⟨?_,this.1.2⟩,by simp;omega⟩
  split<;>rfl
end
section
open PySem

noncomputable abbrev wTHEN:CS:=[84,72,69,78]
noncomputable abbrev wNUM:CS:=[78,85,77,69,82,73,67]
noncomputable abbrev tClass:CS:=[99,108,97,115,115]
noncomputable abbrev wFX:CS:=[70,88]
noncomputable def nmA:List CS:=[[65],[66],[67]]
noncomputable def nmD:List CS:=[[68],[69],[71]]
noncomputable def folT:List CS:=[wAND,wOR,wTHEN,[41]]
noncomputable def fol (ts:List WT)(i:Int):Prop:=∃w∈folT,atW ts i=some (tokOf w)
theorem nm_ok:(nmA++nmD++[wFX]).all (fun w=>nmOK w&&okW w&&folOK (some (tokOf w))&&isData (.str w))=true:=by decide +kernel
theorem nmP {w:CS}(h:w∈nmA++nmD++[wFX]):nmOK w=true∧okW w=true∧folOK (some (tokOf w))=true∧isData (.str w)=true:=by
 have:=List.all_eq_true.mp nm_ok w h
 simp only[Bool.and_eq_true]at this
 exact⟨this.1.1.1,this.1.1.2,this.1.2,this.2⟩
theorem nmAP {w:CS}(h:w∈nmA):w∈nmA++nmD++[wFX]:=List.mem_append_left _ (List.mem_append_left _ h)
theorem nmDP {w:CS}(h:w∈nmD):w∈nmA++nmD++[wFX]:=List.mem_append_left _ (List.mem_append_right _ h)
theorem nmF:wFX∈nmA++nmD++[wFX]:=List.mem_append_right _ (.head _)
theorem nmAF {w:CS}(h:w∈nmA++nmD):decide (w=wFX)=false:=by
 have:=List.all_eq_true.mp (show(nmA++nmD).all (fun w=>!decide (w=wFX))=true by decide) w h
 exact(Bool.not_eq_true' _).mp this
section
variable {π γ γ1 γ2:List Cell}{ts:List WT}{a b:Int}{nm:V}{c c':Cell}{i:Nat}{isn last last' v:V}{dep:Int}
theorem fol_ok (h:fol ts a):folOK (atW ts a)=true∧isPred ts (a+plc ts a)=false:=by
 obtain⟨w,hw,h⟩:=h
 rw[h]
 have h1:folT.all (fun w=>folOK (some (tokOf w))&&!decide (wdO (some w)=wIS)&&!decide (wdO (some w)=wNOT)&&!decide (wdO (some w)∈wrDK)&&!decide (wdO (some w)∈clsS)&&!decide (wdO (some w)∈wsDK)&&!(decide ((tokOf w).1=sSign)&&decide ((tokOf w).2∈relS)))=true:=by decide
 have h1:=List.all_eq_true.mp h1 w hw
 simp only[Bool.and_eq_true,Bool.not_eq_true',decide_eq_false_iff_not]at h1
 obtain⟨⟨⟨⟨⟨⟨q1,q2⟩,q3⟩,q4⟩,q5⟩,q6⟩,q7⟩:=h1
 have hwd:wdH ts a=wdO (some w):=wdH_behind h
 have hp:plc ts a=0:=by simp[plc,hwd,q2,q3]
 have hr:isRel ts a=false:=by rw[relO h,q7,hwd,dF q4];rfl
 refine⟨q1,?_⟩
 rw[hp,Int.add_zero,isPred,hr,hwd,dF q5,dF q6]
 rfl
theorem name_at {w:CS}(hw:nmOK w=true)(h:atW ts a=some (tokOf w)):wdH ts a=w∧plc ts a=0∧isRel ts (a+plc ts a)=false∧isSg ts a [40]=false∧decide (wdH ts a=wNOT)=false:=by
 simp only[nmOK,Bool.and_eq_true,Bool.not_eq_true',decide_eq_false_iff_not,decide_eq_true_eq]at hw
 obtain⟨⟨⟨⟨⟨⟨w1,w2⟩,w3⟩,w4⟩,w5⟩,w6⟩,w7⟩:=hw
 have htk:tokOf w=(sWord,w):=by simp[tokOf,w1]
 rw[htk]at h
 have wd0:wdH ts a=w:=wdT h rfl
 have pl0:plc ts a=0:=by simp[plc,wd0,w5,w6]
 refine⟨wd0,pl0,?_,?_,dF (by rw[wd0];exact w5)⟩
 ·rw[pl0,Int.add_zero,relO h,wd0,dF w7,dF nWS];rfl
 ·simp[isSg,h,nWS]
noncomputable def tS (own:Bool)(s:CS):CS:=if own then oppS s else s
theorem relp {is own:Bool}{s o:CS}(hs:tsOk ts=true)(ha:0≤a)(h1:s∈relS)(h2:o∈nmD)(hw:Win ts a (isnt is own++[s,o]))(hf:fol ts (a+(isnt is own++[s,o]).length)):
  isRel ts (a+plc ts a)=true∧wdH ts (a+plc ts a)=[]∧∀x:V,CO 235 π ts nm isn dep 335 [x] a last (.ok (.tup [.str tRel,.str (tS own s),x,refV o])) (a+(isnt is own++[s,o]).length) (.tup [x,.str (tS own s)]) [.list []]:=by
 have h3:relS.all (fun s=>decide (s≠wIS)&&decide (s≠wNOT)&&!alphaW s)=true:=by decide
 have h3:=List.all_eq_true.mp h3 s h1
 simp only[Bool.and_eq_true,decide_eq_true_eq,Bool.not_eq_true']at h3
 obtain⟨p1,p2,p3⟩:=isnt_ok hw h3.1.1 h3.1.2
 obtain⟨t1,hw2⟩:=win_cons p3
 obtain⟨t2,_⟩:=win_cons hw2
 rw[tok_rel h1]at t1
 have hr:isRel ts (a+plc ts a)=true:=by rw[relO t1,dT h1];rfl
 have hsg:sgH ts (a+plc ts a)=(s,a+plc ts a+1):=by unfold sgH;rw[t1];exact if_pos rfl
 have he:a+((isnt is own++[s,o]).length:Int)=a+plc ts a+1+1:=by rw[p1,List.length_append];exact ca2
 have hp:0≤a+plc ts a+1:=nn1 (Int.add_nonneg ha (plc_nn ts a))
 rw[he]at hf ⊢
 have hx:=exo_name (π:=π) (nm:=nm) hs hp (nmP (nmDP h2)).1 t2 (fol_ok hf).1
 have hT:sgT ts a=tS own s:=by unfold sgT tS;rw[p2,hsg]
 refine⟨hr,(win_wd p3).trans (if_neg (by rw[h3.2];decide)),fun x=>?_⟩
 have:=relation_s (π:=π) (nm:=nm) (isn:=isn) (dep:=dep) (last:=last) hs ha hr (x:=x) (by rw[hsg];exact hx)
 rw[hT]at this
 exact this
end
inductive KP where
 |cls | fx | opd (o:CS)| sg (own:Bool) (s o:CS)| full (n:CS) (is own:Bool) (s o:CS)
noncomputable abbrev LT:=Option (CS × CS)
noncomputable def lv:LT→V
 |none=>.none
 |some q=>.tup [refV q.1,.str q.2]
noncomputable def kOK:KP→Prop
 | .cls=>True
 | .fx=>True
 | .opd o=>o∈nmD
 | .sg _ s o=>s∈relS∧o∈nmD
 | .full n _ _ s o=>n∈nmA∧s∈relS∧o∈nmD
noncomputable def noSg:KP→Prop
 | .sg _ _ _=>False
 |_=>True
noncomputable def kws:KP→List CS
 | .cls=>[[65],wIS,wNUM]
 | .fx=>[wFX]
 | .opd o=>[o]
 | .sg own s o=>isnt false own++[s,o]
 | .full n is own s o=>n::(isnt is own++[s,o])
noncomputable def kv (L:LT):KP→V
 | .cls=>.tup [.str tClass,.str wNUM,refV [65]]
 | .fx=>.tup [.str tNamed,refV wFX]
 | .opd o=>match L with | none=>.none | some q=>.tup [.str tRel,.str q.2,refV q.1,refV o]
 | .sg own s o=>match L with | none=>.none | some q=>.tup [.str tRel,.str (tS own s),refV q.1,refV o]
 | .full n _ own s o=>.tup [.str tRel,.str (tS own s),refV n,refV o]
noncomputable def kl (L:LT):KP→LT
 | .cls=>none
 | .fx=>none
 | .opd _=>L
 | .sg own s _=>match L with | none=>none | some q=>some (q.1,tS own s)
 | .full n _ own s _=>some (n,tS own s)
noncomputable abbrev isF:V:=.clo 2 []
section
variable {π γ γ1 γ2:List Cell}{ts:List WT}{a b:Int}{nm:V}{c c':Cell}{i:Nat}{isn last last' v:V}{dep:Int}
noncomputable def KS (π:List Cell)(ts:List WT)(nm:V)(dep:Int)(f K:Nat)(a:Int)(L:LT)(v:V)(a':Int)(L':LT):Prop :=
 (isNone v=false∧∃g,CO K π ts nm isF dep f [] a (lv L) (.ok v) a' (lv L') g) ∨
 (isNone v=true∧∃w p a2 last2 g,0≤a2∧CO K π ts nm isF dep f [] a (lv L) (.error (excC w p)) a2 last2 g)
theorem k_s (hs:tsOk ts=true)(hne:ts≠[])(ha:0≤a){k:KP}(hk:kOK k)(hw:Win ts a (kws k))(hf:fol ts (a+(kws k).length))(L:LT):
  KS π ts nm dep 330 262 a L (kv L k) (a+(kws k).length) (kl L k)∧isSg ts a [40]=false∧(decide (wdH ts a=wNOT)&&!isRel ts (a+plc ts a))=false∧(noSg k→isRel ts (a+plc ts a)=false∧plc ts a=0):=by
 have ha1:0≤a+1:=nn1 ha
 cases k with
 |cls =>
  obtain⟨n1,n2,n3,n4⟩:=nmP (nmAP (.head _:([65]:CS)∈nmA))
  obtain⟨t0,hw1⟩:=win_cons hw
  obtain⟨m1,m2,m3,m4,m5⟩:=name_at n1 t0
  obtain⟨p1,p2,p3⟩:=isnt_ok (is:=true) (nt:=false) (f:=wNUM) (rest:=[]) hw1 (by decide) (by decide)
  refine⟨.inl ⟨rfl,?_⟩,m4,by rw[m5];rfl,fun _=>⟨m3,m2⟩⟩
  have hwd:wdH ts (a+1+plc ts (a+1))=wNUM:=win_wd p3
  have hc:=predicate_cls (π:=π) (nm:=nm) (isn:=isF) (dep:=dep) (last:=lv L) hs ha1 (.inl (by rw[hwd];exact .head _)) (x:=refV [65])
  rw[hwd,p2,p1]at hc
  have hpr:isPred ts (a+1+plc ts (a+1))=true:=by
   unfold isPred
   rw[hwd,show decide (wNUM∈clsS)=true from dT (.head _),Bool.or_true,Bool.true_or]
  have:=unb_pred (last:=lv L) hs ha m3 ha1 (exo_name hs ha n1 t0 (by rw[(win_cons hw1).1];rfl)) (named_fx n4 (nmAF (by decide))) hpr hc
  rw[show a+((kws .cls).length:Int)=a+1+((isnt true false).length:Int)+1 by show a+3=a+1+1+1;rw[Int.add_assoc,Int.add_assoc];rfl]
  exact⟨_,this⟩
 |fx =>
  obtain⟨n1,n2,n3,n4⟩:=nmP nmF
  obtain⟨t0,hw1⟩:=win_cons hw
  obtain⟨m1,m2,m3,m4,m5⟩:=name_at n1 t0
  exact⟨.inl ⟨rfl,_,unb_named (last:=lv L) hs ha m3 (exo_name hs ha n1 t0 (fol_ok hf).1) (named_fx n4 rfl)⟩,m4,by rw[m5];rfl,fun _=>⟨m3,m2⟩⟩
 |opd o =>
  obtain⟨n1,n2,n3,n4⟩:=nmP (nmDP hk)
  obtain⟨t0,hw1⟩:=win_cons hw
  obtain⟨m1,m2,m3,m4,m5⟩:=name_at n1 t0
  have hN:NmO π ts nm isF o false:=named_fx n4 (nmAF (List.mem_append_right _ hk))
  have hx:=exo_name (π:=π) (nm:=nm) hs ha n1 t0 (fol_ok hf).1
  refine⟨?_,m4,by rw[m5];rfl,fun _=>⟨m3,m2⟩⟩
  induction L using Option.casesOn with
  |none=>exact .inr ⟨rfl,_,_,_,_,_,ha1,unb_left_no hs hne ha m3 ha1 hx hN (fol_ok hf).2⟩
  |some q=>exact .inl ⟨rfl,_,unb_left hs ha m3 ha1 hx hN (fol_ok hf).2⟩
 |sg own s o =>
  obtain⟨r1,r2,r3⟩:=relp (π:=π) (nm:=nm) (isn:=isF) (dep:=dep) (last:=lv L) hs ha hk.1 hk.2 hw hf
  have h4:isSg ts a [40]=false:=by
   have h3:relS.all (fun s=>!decide (s=[40]))=true:=by decide
   have h3:=List.all_eq_true.mp h3 s hk.1
   rw[Bool.not_eq_true',decide_eq_false_iff_not]at h3
   induction own using Bool.casesOn with
   |true=>have:=(win_cons hw).1;unfold isSg;rw[this];rfl
   |false=>have:=(win_cons hw).1;unfold isSg;rw[this,tok_rel hk.1];exact(Bool.and_eq_false_iff).mpr (.inr (dF h3))
  refine⟨?_,h4,by rw[r1,Bool.not_true,Bool.and_false],fun h=>h.elim⟩
  induction L using Option.casesOn with
  |none=>exact .inr ⟨rfl,_,_,_,_,_,ha,unb_bare_no hs hne ha r1⟩
  |some q=>exact .inl ⟨rfl,_,unb_bare hs ha r1 (r3 _)⟩
 |full n is own s o =>
  obtain⟨n1,n2,n3,n4⟩:=nmP (nmAP hk.1)
  obtain⟨t0,hw1⟩:=win_cons hw
  obtain⟨m1,m2,m3,m4,m5⟩:=name_at n1 t0
  have he:a+((kws (.full n is own s o)).length:Int)=a+1+((isnt is own++[s,o]).length:Int):=ca1
  rw[he]at hf ⊢
  obtain⟨r1,r2,r3⟩:=relp (π:=π) (nm:=nm) (isn:=isF) (dep:=dep) (last:=lv L) hs ha1 hk.2.1 hk.2.2 hw1 hf
  have hnx:folOK (atW ts (a+1))=true:=by
   have h3:relS.all (fun s=>folOK (some (tokOf s)))=true:=by decide
   cases is<;>cases own
   ·rw[(win_cons hw1).1];exact List.all_eq_true.mp h3 s hk.2.1
   ·rw[(win_cons hw1).1];rfl
   ·rw[(win_cons hw1).1];rfl
   ·rw[(win_cons hw1).1];rfl
  have hpr:isPred ts (a+1+plc ts (a+1))=true:=by unfold isPred;rw[r1];rfl
  have hp:=predicate_rel hs ha1 (by rw[r2];decide) (by rw[r2];decide) (r3 (refV n))
  exact⟨.inl ⟨rfl,_,unb_pred hs ha m3 ha1 (exo_name hs ha n1 t0 hnx) (named_fx n4 (nmAF (List.mem_append_left _ hk.1))) hpr hp⟩,m4,by rw[m5];rfl,fun _=>⟨m3,m2⟩⟩
end
end
section
open PySem

noncomputable def jw (j:Bool):CS:=if j then wOR else wAND
noncomputable def jn (w:Option V)(b:V):V:=match w with
 |none=>b
 |some w=>.tup [.str tOr,w,b]
noncomputable def goR:Option V→V→List (Bool × V)→V
 |w,b,[]=>jn w b
 |w,b,(true,v)::R=>goR (some (jn w b)) v R
 |w,b,(false,v)::R=>goR w (.tup [.str tAnd,b,v]) R
noncomputable def goE:V→List (Bool × V)→V
 |v,[]=>v
 |v,(_,x)::R=>goR (some v) x R
noncomputable def nn (R:List (Bool × V)):Bool:=R.all fun p=>!isNone p.2
theorem nn_c {j:Bool}{v:V}{R:List (Bool × V)}(h:isNone v=false):nn ((j,v)::R)=nn R:=by
 show(!isNone v&&nn R)=_;rw[h];rfl
theorem nn_f {j:Bool}{v:V}{R:List (Bool × V)}(h:isNone v=true):nn ((j,v)::R)=false:=by
 show(!isNone v&&nn R)=_;rw[h];rfl
inductive RowAt (π:List Cell)(ts:List WT)(nm isn:V)(dep:Int)(γ1:List Cell)(Q:Nat→List Cell→Prop)(K:Nat)(e:Int):Int→V→List Cell→List (Bool × V)→Prop where
 |nil {last γ}:wdH ts e≠wAND→wdH ts e≠wOR→RowAt π ts nm isn dep γ1 Q K e e last γ []
 |ok {a last γ j v a2 last2 γ2 R}:wdH ts a=jw j→isNone v=false→OKc π ts nm isn dep γ1 K 328 (a+1) last γ v a2 last2 γ2→0≤a2→RowAt π ts nm isn dep γ1 Q K e a2 last2 γ2 R→RowAt π ts nm isn dep γ1 Q K e a last γ ((j,v)::R)
 |ex {a last γ j v R jx σ}:wdH ts a=jw j→isNone v=true→EXc π ts nm isn dep γ1 K 328 (a+1) last γ jx σ→Q jx σ→RowAt π ts nm isn dep γ1 Q K e a last γ ((j,v)::R)
section
variable {π γ γ1 γ2:List Cell}{ts:List WT}{a b e:Int}{nm:V}{c c':Cell}{i K:Nat}{isn last last' v:V}{dep:Int}{Q:Nat→List Cell→Prop}{R:List (Bool × V)}
theorem wA0:wAND≠[]:=by decide
theorem wO0:wOR≠[]:=by decide
theorem wAO:wAND≠wOR:=by decide
theorem isA (h:wdH ts a=wAND):isWd ts a wAND=true:=by rw[isWd_eq wA0];exact dT h
theorem noA (h:wdH ts a≠wAND):isWd ts a wAND=false:=by rw[isWd_eq wA0];exact dF h
theorem isO (h:wdH ts a=wOR):isWd ts a wOR=true:=by rw[isWd_eq wO0];exact dT h
theorem noO (h:wdH ts a≠wOR):isWd ts a wOR=false:=by rw[isWd_eq wO0];exact dF h
inductive BRo (π:List Cell)(ts:List WT)(nm isn:V)(dep:Int)(γ1:List Cell)(Q:Nat→List Cell→Prop)(K:Nat)(e:Int)(a:Int)(last:V)(γ:List Cell)(v w:V)(R:List (Bool × V)):Prop where
 |stop {v' a' last' γ' k R'}:BS π ts nm isn dep γ1 K 328 wAND tAnd v a last γ v' a' last' γ' k→0≤a'→wdH ts a'≠wAND→RowAt π ts nm isn dep γ1 Q K e a' last' γ' R'→k+R'.length≤R.length→nn R=nn R'→goR (some w) v R=goE (jn (some w) v') R'→goR none v R=goE v' R'→BRo π ts nm isn dep γ1 Q K e a last γ v w R
 |fail {v' a' last' γ' k jx σ}:BS π ts nm isn dep γ1 K 328 wAND tAnd v a last γ v' a' last' γ' k→0≤a'→wdH ts a'=wAND→EXc π ts nm isn dep γ1 K 328 (a'+1) last' γ' jx σ→Q jx σ→k≤R.length→nn R=false→BRo π ts nm isn dep γ1 Q K e a last γ v w R
theorem both_run (h:RowAt π ts nm isn dep γ1 Q K e a last γ R)(ha:0≤a)(v w:V):BRo π ts nm isn dep γ1 Q K e a last γ v w R:=by
 induction h generalizing v with
 |nil h1 h2=>exact .stop .nil ha h1 (.nil h1 h2) (Nat.le_refl _) rfl rfl rfl
 |ok hj hv hc ha2 hr ih =>
  rename_i a last γ j x a2 last2 γ2 R
  induction j using Bool.casesOn with
  |true=>exact .stop .nil ha (by rw[hj];exact wAO.symm) (.ok hj hv hc ha2 hr) (Nat.le_of_eq (Nat.zero_add _)) rfl rfl rfl
  |false =>
   cases ih ha2 (.tup [.str tAnd,v,x])with
   |stop b1 b2 b3 b4 b5 b6 b7 b8=>exact .stop (.cons (isA hj) hc ha2 b1) b2 b3 b4 (Nat.le_trans (Nat.le_of_eq (Nat.succ_add _ _)) (Nat.succ_le_succ b5)) ((nn_c hv).trans b6) b7 b8
   |fail b1 b2 b3 b4 b5 b6 b7=>exact .fail (.cons (isA hj) hc ha2 b1) b2 b3 b4 b5 (Nat.succ_le_succ b6) ((nn_c hv).trans b7)
 |ex hj hv hc hq =>
  rename_i a last γ j x R jx σ
  induction j using Bool.casesOn with
  |true=>exact .stop .nil ha (by rw[hj];exact wAO.symm) (.ex hj hv hc hq) (Nat.le_of_eq (Nat.zero_add _)) rfl rfl rfl
  |false=>exact .fail .nil ha hj hc hq (Nat.zero_le _) (nn_f hv)
inductive ERo (π:List Cell)(ts:List WT)(nm isn:V)(dep:Int)(γ1:List Cell)(Q:Nat→List Cell→Prop)(K:Nat)(e:Int)(a:Int)(last:V)(γ:List Cell)(v:V)(R:List (Bool × V)):Prop where
 |stop {last' γ' k}:BS π ts nm isn dep γ1 (K+22) 327 wOR tOr v a last γ (goE v R) e last' γ' k→0≤e→wdH ts e≠wOR→k≤R.length→nn R=true→ERo π ts nm isn dep γ1 Q K e a last γ v R
 |fail {v' a' last' γ' k jx σ}:BS π ts nm isn dep γ1 (K+22) 327 wOR tOr v a last γ v' a' last' γ' k→0≤a'→wdH ts a'=wOR→EXc π ts nm isn dep γ1 (K+22) 327 (a'+1) last' γ' jx σ→Q jx σ→k≤R.length→nn R=false→ERo π ts nm isn dep γ1 Q K e a last γ v R
theorem either_run (hs:tsOk ts=true)(hK:45≤K):∀(N:Nat) {a:Int} {last:V} {γ:List Cell} {R:List (Bool × V)},R.length≤N→N≤5→RowAt π ts nm isn dep γ1 Q K e a last γ R→0≤a→wdH ts a≠wAND→∀v,ERo π ts nm isn dep γ1 Q K e a last γ v R:=fun N=>by
 induction N with
 |zero =>
  intro a last γ R hN _ h ha hA v
  cases h with
  |nil h1 h2=>exact .stop .nil ha h2 (Nat.le_refl _) rfl
  |ok=>exact absurd hN (Nat.not_succ_le_zero _)
  |ex=>exact absurd hN (Nat.not_succ_le_zero _)
 |succ N ih =>
  intro a last γ R hN h5 h ha hA v
  cases h with
  |nil h1 h2=>exact .stop .nil ha h2 (Nat.le_refl _) rfl
  |ok hj hv hc ha2 hr =>
   rename_i j x a2 last2 γ2 R
   have hN2:=Nat.le_of_succ_le_succ hN
   cases j with
   |false=>exact absurd hj hA
   |true =>
    cases both_run hr ha2 x v with
    |stop b1 b2 b3 b4 b5 b6 b7 b8 =>
     rename_i v' a' last' γ' k R'
     have hb:=both_ok hs hK (Nat.le_trans (Nat.le_trans (Nat.le_trans (Nat.le_add_right _ _) b5) hN2) (Nat.le_of_succ_le h5)) hc ha2 b1 b2 (noA b3)
     cases ih (Nat.le_trans (Nat.le_trans (Nat.le_add_left _ _) b5) hN2) (Nat.le_of_succ_le h5) b4 b2 b3 (.tup [.str tOr,v,v'])with
     |stop c1 c2 c3 c4 c5 =>
      rename_i last2 γ3 k2
      refine .stop (k:=k2+1) (last':=last2) (γ':=γ3) ?_ c2 c3 (Nat.succ_le_succ (Nat.le_trans c4 (Nat.le_trans (Nat.le_add_left _ _) b5))) ((nn_c hv).trans (b6.trans c5))
      rw[show goE v ((true,x)::R)=goE (.tup [.str tOr,v,v']) R' from b7]
      exact .cons (isO hj) hb b2 c1
     |fail c1 c2 c3 c4 c5 c6 c7=>exact .fail (.cons (isO hj) hb b2 c1) c2 c3 c4 c5 (Nat.succ_le_succ (Nat.le_trans c6 (Nat.le_trans (Nat.le_add_left _ _) b5))) ((nn_c hv).trans (b6.trans c7))
    |fail b1 b2 b3 b4 b5 b6 b7=>exact .fail .nil ha hj (both_e2 hs hK (Nat.le_trans (Nat.le_trans b6 hN2) (Nat.le_of_succ_le h5)) hc ha2 b1 b2 (isA b3) b4) b5 (Nat.zero_le _) ((nn_c hv).trans b7)
  |ex hj hv hc hq =>
   rename_i j x R jx σ
   cases j with
   |false=>exact absurd hj hA
   |true=>exact .fail .nil ha hj (both_e1 hc) hq (Nat.zero_le _) (nn_f hv)
inductive Out (π:List Cell)(ts:List WT)(nm isn:V)(dep:Int)(γ1:List Cell)(Q:Nat→List Cell→Prop)(K f:Nat)(a:Int)(last:V)(γ:List Cell)(v:V)(e:Int)(P:V→Prop):Prop where
 |ok {last' γ'}:isNone v=false→P last'→OKc π ts nm isn dep γ1 K f a last γ v e last' γ'→Out π ts nm isn dep γ1 Q K f a last γ v e P
 |ex {jx σ}:isNone v=true→Q jx σ→EXc π ts nm isn dep γ1 K f a last γ jx σ→Out π ts nm isn dep γ1 Q K f a last γ v e P
theorem jn_n {w:Option V}{b:V}(h:isNone b=false):isNone (jn w b)=false:=by induction w using Option.casesOn with
 |none=>exact h
 |some _=>rfl
theorem goR_n:∀{R:List (Bool × V)} {w:Option V} {b:V},isNone b=false→nn R=true→isNone (goR w b R)=false
 | [],_,_,h,_=>jn_n h
 |(true,v)::R,w,b,h,hR=>by
  have hR:(!isNone v&&nn R)=true:=hR
  rw[Bool.and_eq_true,Bool.not_eq_true']at hR
  show isNone (goR (some (jn w b)) v R)=false
  exact goR_n hR.1 hR.2
 |(false,v)::R,w,b,h,hR=>by
  have hR:(!isNone v&&nn R)=true:=hR
  rw[Bool.and_eq_true]at hR
  show isNone (goR w (.tup [.str tAnd,b,v]) R)=false
  exact goR_n rfl hR.2
noncomputable def rV (v:V)(R:List (Bool × V)):V:=if isNone v=false∧nn R=true then goR none v R else .none
theorem either_row (hs:tsOk ts=true)(hK:45≤K)(hR:R.length≤5)(ha0:0≤a){a1:Int}{last1:V}{γ':List Cell}(hv:isNone v=false)(hx:OKc π ts nm isn dep γ1 K 328 a last γ v a1 last1 γ')(ha:0≤a1)(h:RowAt π ts nm isn dep γ1 Q K e a1 last1 γ' R):
  Out π ts nm isn dep γ1 Q (K+44) 326 a last γ (rV v R) e fun _=>True:=by
 have hK2:45≤K+22:=Nat.le_trans hK (Nat.le_add_right _ _)
 cases both_run h ha v v with
 |stop b1 b2 b3 b4 b5 b6 b7 b8 =>
  rename_i v' a' last' γ'' k R'
  have hb:=both_ok hs hK (Nat.le_trans (Nat.le_trans (Nat.le_add_right _ _) b5) hR) hx ha b1 b2 (noA b3)
  cases either_run hs hK 5 (Nat.le_trans (Nat.le_trans (Nat.le_add_left _ _) b5) hR) (Nat.le_refl _) b4 b2 b3 v' with
  |stop c1 c2 c3 c4 c5 =>
   have e1:rV v R=goE v' R':=(if_pos ⟨hv,b6.trans c5⟩).trans b8
   have e2:=goR_n (w:=none) hv (b6.trans c5)
   rw[e1]
   exact .ok (b8▸e2) trivial (either_ok hs hK2 (Nat.le_trans c4 (Nat.le_trans (Nat.le_trans (Nat.le_add_left _ _) b5) hR)) hb b2 c1 c2 (noO c3))
  |fail c1 c2 c3 c4 c5 c6 c7 =>
   have e1:rV v R=.none:=if_neg (fun q=>by rw[b6,c7]at q;exact absurd q.2 (by decide))
   rw[e1]
   exact .ex rfl c5 (either_e2 hs hK2 (Nat.le_trans c6 (Nat.le_trans (Nat.le_trans (Nat.le_add_left _ _) b5) hR)) hb b2 c1 c2 (isO c3) c4)
 |fail b1 b2 b3 b4 b5 b6 b7 =>
  have e1:rV v R=.none:=if_neg (fun q=>by rw[b7]at q;exact absurd q.2 (by decide))
  rw[e1]
  exact .ex rfl b5 (either_e1 (both_e2 hs hK (Nat.le_trans b6 hR) hx ha b1 b2 (isA b3) b4))
theorem either_err {jx:Nat}{σ:List Cell}(hv:isNone v=true)(hx:EXc π ts nm isn dep γ1 K 328 a last γ jx σ)(hq:Q jx σ):Out π ts nm isn dep γ1 Q (K+44) 326 a last γ (rV v R) e fun _=>True:=by
 have e1:rV v R=.none:=if_neg (fun q=>by rw[hv]at q;exact absurd q.1 (by decide))
 rw[e1]
 exact .ex rfl hq (either_e1 (both_e1 hx))
variable {α:Type}{ws:α→List CS}{fv:LT→α→V}{fl:LT→α→LT}
noncomputable def tws (ws:α→List CS):List (Bool × α)→List CS
 | []=>[]
 |(j,p)::t=>jw j::(ws p++tws ws t)
noncomputable def tvs (fv:LT→α→V)(fl:LT→α→LT):LT→List (Bool × α)→List (Bool × V)
 |_,[]=>[]
 |L,(j,p)::t=>(j,fv L p)::tvs fv fl (fl L p) t
theorem tvs_len:∀(t:List (Bool × α)) (L:LT),(tvs fv fl L t).length=t.length
 | [],_=>rfl
 |(j,p)::t,L=>congrArg (· + 1) (tvs_len t _)
noncomputable def PartS (π:List Cell)(ts:List WT)(nm isn:V)(dep:Int)(γ1:List Cell)(Q:Nat→List Cell→Prop)(K:Nat)(ws:α→List CS)(fv:LT→α→V)(fl:LT→α→LT)(p:α):Prop :=
 ∀(a:Int) (L:LT) (γ:List Cell),0≤a→Win ts a (ws p)→fol ts (a+(ws p).length)→Out π ts nm isn dep γ1 Q K 328 a (lv L) γ (fv L p) (a+(ws p).length) (fun l=>l=lv (fl L p))
theorem jw_wd {j:Bool}(h:atW ts a=some (tokOf (jw j))):wdH ts a=jw j:=(wdH_behind (o:=some (jw j)) h).trans (by cases j<;>rfl)
theorem jw_fol {j:Bool}(h:atW ts a=some (tokOf (jw j))):fol ts a:=⟨jw j,by cases j<;>decide,h⟩
theorem fol_t {t:List (Bool × α)}(hw:Win ts a (tws ws t))(hf:fol ts (a+(tws ws t).length)):fol ts a:=by
 match t with
 | []=>rw[show a+((tws ws ([]:List (Bool × α))).length:Int)=a from Int.add_zero a]at hf;exact hf
 |(j,p)::t=>exact jw_fol (win_cons hw).1
theorem row_at:∀{t:List (Bool × α)} {a:Int} {L:LT} {γ:List Cell},(∀q∈t,PartS π ts nm isn dep γ1 Q K ws fv fl q.2)→0≤a→Win ts a (tws ws t)→fol ts (a+(tws ws t).length)→wdH ts (a+(tws ws t).length)≠wAND→wdH ts (a+(tws ws t).length)≠wOR →
  RowAt π ts nm isn dep γ1 Q K (a+(tws ws t).length) a (lv L) γ (tvs fv fl L t)
 | [],a,L,γ,_,_,_,_,h1,h2=>by
  rw[show a+((tws ws ([]:List (Bool × α))).length:Int)=a from Int.add_zero a]at h1 h2 ⊢
  exact .nil h1 h2
 |(j,p)::t,a,L,γ,hp,ha,hw,hf,h1,h2=>by
  obtain⟨t0,hw1⟩:=win_cons hw
  obtain⟨hw2,hw3⟩:=win_app hw1
  have he:a+((tws ws ((j,p)::t)).length:Int)=a+1+((ws p).length:Int)+((tws ws t).length:Int):=by
   show a+(((ws p++tws ws t).length+1:Nat):Int)=_
   rw[List.length_append,ca1];exact caA
  rw[he]at hf h1 h2 ⊢
  have ha1:0≤a+1:=nn1 ha
  have ha2:0≤a+1+((ws p).length:Int):=nnN ha1
  cases hp (j,p) (.head _) (a+1) L γ ha1 hw2 (fol_t hw3 hf)with
  |ok e1 e2 e3 =>
   rename_i last' γ'
   obtain rfl:last'=lv (fl L p):=e2
   exact .ok (jw_wd t0) e1 e3 ha2 (row_at (fun q hq=>hp q (.tail _ hq)) ha2 hw3 hf h1 h2)
  |ex e1 e2 e3=>exact .ex (jw_wd t0) e1 e3 e2
noncomputable def rws (ws:α→List CS)(h:α)(t:List (Bool × α)):List CS:=ws h++tws ws t
noncomputable def rowV (fv:LT→α→V)(fl:LT→α→LT)(h:α)(t:List (Bool × α)):V:=rV (fv none h) (tvs fv fl (fl none h) t)
theorem row_s (hs:tsOk ts=true)(hK:45≤K){h:α}{t:List (Bool × α)}(ht:t.length≤5)(hh:PartS π ts nm isn dep γ1 Q K ws fv fl h)(hp:∀q∈t,PartS π ts nm isn dep γ1 Q K ws fv fl q.2)(ha:0≤a)(hw:Win ts a (rws ws h t))(hf:fol ts (a+(rws ws h t).length))(h1:wdH ts (a+(rws ws h t).length)≠wAND)(h2:wdH ts (a+(rws ws h t).length)≠wOR):
  Out π ts nm isn dep γ1 Q (K+44) 326 a .none γ (rowV fv fl h t) (a+(rws ws h t).length) fun _=>True:=by
 obtain⟨hw1,hw2⟩:=win_app hw
 have he:a+((rws ws h t).length:Int)=a+((ws h).length:Int)+((tws ws t).length:Int):=by
  show a+((ws h++tws ws t).length:Int)=_
  rw[List.length_append];exact caA
 rw[he]at hf h1 h2 ⊢
 have ha2:0≤a+((ws h).length:Int):=nnN ha
 cases hh a none γ ha hw1 (fol_t hw2 hf)with
 |ok e1 e2 e3 =>
  rename_i last' γ'
  obtain rfl:last'=lv (fl none h):=e2
  exact either_row hs hK (by rw[tvs_len];exact ht) ha e1 e3 ha2 (row_at hp ha2 hw2 hf h1 h2)
 |ex e1 e2 e3=>exact either_err e1 e3 e2
end
end
section
open PySem

noncomputable def Qin (π:List Cell)(ts:List WT)(nm:V)(γ1:List Cell)(j:Nat)(σ:List Cell):Prop:=∃a' γ' fs,0≤a'∧σ=enc π ts a' nm (γ1++γ')∧σ[j]?=some (.exc 0 fs)
noncomputable def Qout (j:Nat)(σ:List Cell):Prop:=excK σ[j]?=some 0
noncomputable def ntV (nt:Bool)(v:V):V:=if nt=true∧isNone v=false then .tup [.str tNot,v]else v
noncomputable abbrev P0:=Bool × KP
noncomputable def pOK (p:P0):Prop:=kOK p.2∧(p.1=true→noSg p.2)
noncomputable def ntW1 (nt:Bool)(l:List CS):List CS:=if nt then wNOT::l else l
noncomputable def pws (p:P0):List CS:=ntW1 p.1 (kws p.2)
noncomputable def pfv (L:LT)(p:P0):V:=ntV p.1 (kv L p.2)
noncomputable def pfl (L:LT)(p:P0):LT:=kl L p.2
section
variable {π γ γ1 γ2:List Cell}{ts:List WT}{a b e:Int}{nm:V}{c c':Cell}{i K K' f:Nat}{isn last last' v:V}{dep:Int}{Q Q':Nat→List Cell→Prop}{P:V→Prop}
theorem Out.mono (hK:K≤K')(hQ:∀j σ,Q j σ→Q' j σ)(h:Out π ts nm isn dep γ1 Q K f a last γ v e P):Out π ts nm isn dep γ1 Q' K' f a last γ v e P:=by
 obtain⟨d,rfl⟩:∃d,K'=d+K:=⟨K' - K,(Nat.sub_add_cancel hK).symm⟩
 cases h with
 |ok h1 h2 h3=>exact .ok h1 h2 (fun n=>by have:=h3 (n+d);rwa [Nat.add_assoc]at this)
 |ex h1 h2 h3=>exact .ex h1 (hQ _ _ h2) (fun n=>by have:=h3 (n+d);rwa [Nat.add_assoc]at this)
theorem qin_out {j:Nat}{σ:List Cell}(h:Qin π ts nm γ1 j σ):Qout j σ:=by
 obtain⟨_,_,fs,_,_,h⟩:=h
 unfold Qout
 rw[h]
 rfl
theorem ks_out {L L':LT}(hs:tsOk ts=true)(ha:0≤a)(h:KS π ts nm dep 330 262 a L v e L')(sg:isSg ts a [40]=false):Out π ts nm isF dep γ1 (Qin π ts nm γ1) 272 329 a (lv L) γ v e (fun l=>l=lv L'):=by
 rcases h with⟨h1,g,h2⟩| ⟨h1,w,p,a2,last2,g,h3,h2⟩
 ·exact .ok h1 rfl (fun n=>single_un hs ha sg h2 γ1 γ n)
 ·refine .ex (jx:=cI π ts (γ1++crC π ts isF dep last2::(γ++g))) (σ:=enc π ts a2 nm (γ1++crC π ts isF dep last2::((γ++g)++[excC w p]))) h1 ⟨a2,_,_,h3,rfl,enc_newc⟩ (fun n=>?_)
  have:=(single_un hs ha sg h2).er (γ1:=γ1) (γ2:=γ) n
  rw[←List.append_assoc γ g]at this
  exact this
theorem ntV_f:ntV false v=v:=if_neg (fun q=>absurd q.1 (by decide))
theorem ntV_n {nt:Bool}(h:isNone v=true):ntV nt v=v:=if_neg (fun q=>absurd (h.symm.trans q.2) (by decide))
theorem ntV_t (h:isNone v=false):ntV true v=.tup [.str tNot,v]:=if_pos ⟨rfl,h⟩
theorem turn_no (hs:tsOk ts=true)(ha:0≤a)(h:(decide (wdH ts a=wNOT)&&!isRel ts (a+plc ts a))=false)(hK:45≤K)(ho:Out π ts nm isn dep γ1 Q K 329 a last γ v e P):Out π ts nm isn dep γ1 Q (K+12) 328 a last γ v e P:=by
 cases ho with
 |ok h1 h2 h3=>exact .ok h1 h2 (fun n=>turned_no hs ha h hK h3 n)
 |ex h1 h2 h3=>exact .ex h1 h2 (fun n=>turned_no hs ha h hK h3 n)
theorem turn_t (hs:tsOk ts=true)(ha:0≤a)(h1:wdH ts a=wNOT)(h2:isRel ts (a+plc ts a)=false)(hK:45≤K)(ho:Out π ts nm isn dep γ1 Q K 329 (a+1) last γ v e P):Out π ts nm isn dep γ1 Q (K+12) 328 a last γ (ntV true v) e P:=by
 cases ho with
 |ok h3 h4 h5=>rw[ntV_t h3];exact .ok rfl h4 (fun n=>turned_ok hs ha h1 h2 hK h5 n)
 |ex h3 h4 h5=>rw[ntV_n h3];exact .ex h3 h4 (fun n=>turned_ex hs ha h1 h2 hK h5 n)
theorem plc_not (h:wdH ts a=wNOT):plc ts a=1:=by
 have h2:¬wNOT=wIS:=by decide
 simp[plc,h,h2]
theorem p_s (hs:tsOk ts=true)(hne:ts≠[]){p:P0}(hp:pOK p):PartS π ts nm isF dep γ1 (Qin π ts nm γ1) 284 pws pfv pfl p:=by
 intro a L γ ha hw hf
 obtain⟨nt,k⟩:=p
 induction nt using Bool.casesOn with
 |false =>
  obtain⟨k1,k2,k3,k4⟩:=k_s (π:=π) (nm:=nm) (dep:=dep) hs hne ha hp.1 hw hf L
  rw[show pfv L (false,k)=kv L k from ntV_f]
  exact turn_no hs ha k3 (by decide) (ks_out hs ha k1 k2)
 |true =>
  obtain⟨t0,hw1⟩:=win_cons hw
  have h1:wdH ts a=wNOT:=(win_wd hw).trans rfl
  have ha1:0≤a+1:=nn1 ha
  have he:a+((pws (true,k)).length:Int)=a+1+((kws k).length:Int):=ca1
  rw[he]at hf ⊢
  obtain⟨k1,k2,k3,k4⟩:=k_s (π:=π) (nm:=nm) (dep:=dep) hs hne ha1 hp.1 hw1 hf L
  obtain⟨k5,k6⟩:=k4 (hp.2 rfl)
  rw[k6,Int.add_zero]at k5
  exact turn_t hs ha h1 (by rw[plc_not h1];exact k5) (by decide) (ks_out hs ha1 k1 k2)
theorem br_at (h:atW ts a=some (tokOf [40])):isSg ts a [40]=true∧wdH ts a=[]∧plc ts a=0∧isRel ts a=false∧sgA ts a [[43],[45]]=[]:=by
 have h':atW ts a=some (sSign,[40]):=h
 have hw:wdH ts a=[]:=wdF h' (by decide)
 have e1:¬([]:CS)=wIS:=by decide
 have e2:¬([]:CS)=wNOT:=by decide
 have e3:¬([40]:CS)∈relS:=by decide
 have e4:¬([40]:CS)∈([[43],[45]]:List CS):=by decide
 refine⟨by unfold isSg;rw[h'];rfl,hw,by simp[plc,hw,e1,e2],?_,sgaF h' _ (fun q=>e4 q.2)⟩
 rw[relO h',hw,dF e3,dF nil_wr,Bool.and_false]
 rfl
theorem cb_at (h:atW ts a=some (tokOf [41])):isSg ts a [41]=true∧wdH ts a=[]∧fol ts a:=by
 have h':atW ts a=some (sSign,[41]):=h
 exact⟨by unfold isSg;rw[h'];rfl,wdF h' (by decide),[41],by decide,h⟩
theorem aK7:attrV (enc π ts a nm (γ1++crC π ts isn dep last::γ2)) 7 (.ref (cI π ts γ1))=some isn:=aC7
theorem d40:isData (.str [40])=true:=by decide
theorem d41:isData (.str [41])=true:=by decide
theorem br_ok (hs:tsOk ts=true)(ha:0≤a)(hd:¬20≤dep)(h1:isSg ts a [40]=true){a':Int}{G:List Cell}(ha':0≤a')
  (hx:∀n,callV TB (n+328) (.base 326) [.ref (cI π ts (γ1++crC π ts isn dep last::γ))] (enc π ts (a+1) nm ((γ1++crC π ts isn dep last::γ)++crC π ts isn (dep+1) .none::[]))=some (.ok v (enc π ts a' nm (γ1++crC π ts isn dep last::G)))) (h2:isSg ts a' [41]=true) (n:Nat):
  callV TB (n+350) (.base 331) [.ref (cI π ts γ1)] (enc π ts a nm (γ1++crC π ts isn dep last::γ))=some (.ok v (enc π ts (a'+1) nm (γ1++crC π ts isn dep .none::G))):=by
 refine(c331 _).trans ?_
 delta bdx331
 wide_open with 2 using [aK6,aK8,aK7,cGeF hd,tg12,tg3,mR tm2_22,need_sign_ok hs ha d40 h1,need_sign_ok hs ha' d41 h2,cr_new,mK tm3_26,hx,setK9]
theorem br_ex (hs:tsOk ts=true)(ha:0≤a)(hd:¬20≤dep)(h1:isSg ts a [40]=true){j:Nat}{σ:List Cell}
  (hx:∀n,callV TB (n+328) (.base 326) [.ref (cI π ts (γ1++crC π ts isn dep last::γ))] (enc π ts (a+1) nm ((γ1++crC π ts isn dep last::γ)++crC π ts isn (dep+1) .none::[]))=some (.ex j σ)) (n:Nat):
  callV TB (n+350) (.base 331) [.ref (cI π ts γ1)] (enc π ts a nm (γ1++crC π ts isn dep last::γ))=some (.ex j σ):=by
 refine(c331 _).trans ?_
 delta bdx331
 wide_open with 2 using [ssAE,aK6,aK8,aK7,cGeF hd,tg12,tg3,mR tm2_22,need_sign_ok hs ha d40 h1,cr_new,mK tm3_26,hx]
end
end
section
open PySem

section
variable {T:Tabs}{n:Nat}{fr:Fr}{s s1:Sg}{x:X}{l:List S}{v:V}{g i e j:Nat}{hh:Hn}{pg ph p p1:Pos}{ps:List Pos}{o o':RS}{sv ov:V}{x1 x2 x3 x4:Option V}{fs fe fj:List (Nat × V)}{w far:Int}{k k2:Nat}
theorem ssYr2 (h:exX T n x fr s=some (.ok v s1)):exSs T (n+4) (.try1 [.ret x p1] g pg i hh ph p::l) fr s=some (rtR (.ok v s1) fr):=ssYr (ssR h)
theorem ssYT2 (h:exX T n x fr s=some (.ex e s1))(hc:tryH g i hh e fr s1=some o)(h2:sq o (exSs T (n+3) l)=some o'):exSs T (n+4) (.try1 [.ret x p1] g pg i hh ph p::l) fr s=some o':=ssYT (ssR h) hc h2
theorem hTp (he:s[e]?=some (.exc 0 fs))(h1:attrV s 6 sv=some ov)(h2:attrV s 1 ov=some v):
  tryH 0 2 (.tp 3 4 2 0 6 1 k k2 ps) e [some sv,x1,x2,x3,x4] s=some (.nx [some sv,x1,none,some (.ref e),some v] s):=by
 unfold tryH
 rw[he,show excK (some (Cell.exc 0 fs))=some 0 from rfl,Option.bind_some]
 refine(if_pos ⟨rfl,rfl⟩).trans ?_
 show(excC0 s[e]?).bind _=_
 rw[he]
 show((attrV s 6 sv).bind fun q=>attrV s 1 q).bind (fun w=>some (RS.nx [some sv,x1,none,some (.ref e),some w] s))=_
 rw[h1]
 show(attrV s 1 ov).bind _=_
 rw[h2]
 rfl
theorem ssYTp (h:exX T n x [some sv,x1,x2,x3,x4] s=some (.ex e s1))(he:s1[e]?=some (.exc 0 fs))(h1:attrV s1 6 sv=some ov)(h2:attrV s1 1 ov=some v)(h3:exSs T (n+3) l [some sv,x1,none,some (.ref e),some v] s1=some o'):
  exSs T (n+4) (.try1 [.ret x p1] 0 pg 2 (.tp 3 4 2 0 6 1 k k2 ps) ph p::l) [some sv,x1,x2,x3,x4] s=some o':=ssYT2 h (hTp he h1 h2) (sqN h3)
theorem hRs (he:s[e]?=some (.exc 0 fe))(hj:s[j]?=some (.exc 0 fj))(h1:attrV s 6 sv=some ov)(h2:attrV s 1 ov=some (.int w)):
  ∃i σ',excK σ'[i]?=some 0∧∀ps,tryH 0 2 (.rs 0 6 1 4 2 3 ps) e [some sv,x1,x2,some (.ref j),some (.int far)] s=some (.ex i [some sv,x1,none,some (.ref j),some (.int far)] σ'):=by
 have key:∀ps,tryH 0 2 (.rs 0 6 1 4 2 3 ps) e [some sv,x1,x2,some (.ref j),some (.int far)] s=raiH [some sv,x1,none,some (.ref j),some (.int far)] e (.ref (if decide (far≤w)=true then e else j)) s:=by
  intro ps
  unfold tryH
  rw[he,show excK (some (Cell.exc 0 fe))=some 0 from rfl,Option.bind_some]
  refine(if_pos ⟨rfl,rfl⟩).trans ?_
  show((attrV s 6 sv).bind fun q=>attrV s 1 q).bind (fun w=>(cmpV .GtE w (.int far)).bind fun b=>(([some sv,x1,some (.ref e),some (.ref j),some (.int far)]:Fr)[if b then 2 else 3]?).join.bind fun v=>raiH [some sv,x1,none,some (.ref j),some (.int far)] e v s)=_
  rw[h1]
  show(attrV s 1 ov).bind _=_
  rw[h2]
  show(([some sv,x1,some (.ref e),some (.ref j),some (.int far)]:Fr)[if decide (far≤w)=true then 2 else 3]?).join.bind _=_
  cases decide (far≤w)<;>rfl
 have hE:excK s[e]?=some 0:=by rw[he];rfl
 by_cases q:(if decide (far≤w)=true then e else j)=e
 ·exact⟨e,s,hE,fun ps=>(key ps).trans (by rw[q];exact if_pos rfl)⟩
 ·have q2:(if decide (far≤w)=true then e else j)=j:=by
   cases hd:decide (far≤w)with
   |true=>rw[hd]at q;exact absurd rfl q
   |false=>rfl
  rw[q2]at q
  have hl:j<s.length:=(List.getElem?_eq_some_iff.mp hj).1
  refine⟨j,s.set j (.exd 0 fj),by rw[List.getElem?_set_self hl];rfl,fun ps=>(key ps).trans ?_⟩
  rw[q2]
  refine(if_neg q).trans ?_
  rw[he,hj]
  rfl
end
section
variable {π γ γ1 γ2 G:List Cell}{ts:List WT}{a b e a':Int}{nm:V}{c c':Cell}{i K K' f:Nat}{isn last last' v:V}{dep:Int}{Q Q':Nat→List Cell→Prop}{P:V→Prop}
theorem enc_apps {g:List Cell}:enc π ts a nm (γ++g)=enc π ts a nm γ++g:=by simp[enc]
theorem enc_keep {j:Nat}{fs:List (Nat × V)}{g:List Cell}(h:(enc π ts a nm γ)[j]?=some (.exc 0 fs)):(enc π ts b nm (γ++g))[j]?=some (.exc 0 fs):=by
 have h1:rI π ts≠j:=fun q=>by subst q;rw[enc_r]at h;cases h
 have h2:(enc π ts b nm γ)[j]?=some (.exc 0 fs):=by
  rw[←enc_set_r (a:=a) (nm:=nm),List.getElem?_set_ne h1];exact h
 rw[enc_apps,List.getElem?_append_left (List.getElem?_eq_some_iff.mp h2).1]
 exact h2
theorem single_ok (hs:tsOk ts=true)(ha:0≤a)(h1:isSg ts a [40]=true){σ:List Cell}(hx:∀n,callV TB (n+350) (.base 331) [.ref (cI π ts γ1)] (enc π ts a nm (γ1++crC π ts isn dep last::γ))=some (.ok v σ))(n:Nat):
  callV TB (n+372) (.base 329) [.ref (cI π ts γ1)] (enc π ts a nm (γ1++crC π ts isn dep last::γ))=some (.ok v σ):=by
 refine(c329 _).trans ?_
 delta bdx329
 wide_open with 2 using [ssYr2,aK6,aR1,mR tm2_20,mK tm3_31,signB hs ha d40 h1,hx]
theorem single_lone (hs:tsOk ts=true)(ha:0≤a)(h1:isSg ts a [40]=true){j:Nat}{fj:List (Nat × V)}(hx:∀n,callV TB (n+350) (.base 331) [.ref (cI π ts γ1)] (enc π ts a nm (γ1++crC π ts isn dep last::γ))=some (.ex j (enc π ts a' nm (γ1++crC π ts isn dep last::G))))
  (hj:(enc π ts a' nm (γ1++crC π ts isn dep last::G))[j]?=some (.exc 0 fj)) {σ:List Cell} (hu:∀n,callV TB (n+262) (.base 330) [.ref (cI π ts γ1)] (enc π ts a nm (γ1++crC π ts isn dep last::G))=some (.ok v σ)) (n:Nat):
  callV TB (n+372) (.base 329) [.ref (cI π ts γ1)] (enc π ts a nm (γ1++crC π ts isn dep last::γ))=some (.ok v σ):=by
 refine(c329 _).trans ?_
 delta bdx329
 wide_open with 2 using [ssYTp,ssYr2,hj,aK6,aR1,setR1,mR tm2_20,mK tm3_31,mK tm3_30,signB hs ha d40 h1,hx,hu]
theorem single_ex (hs:tsOk ts=true)(ha:0≤a)(h1:isSg ts a [40]=true){j:Nat}{fj:List (Nat × V)}(hx:∀n,callV TB (n+350) (.base 331) [.ref (cI π ts γ1)] (enc π ts a nm (γ1++crC π ts isn dep last::γ))=some (.ex j (enc π ts a' nm (γ1++crC π ts isn dep last::G))))
  (hj:(enc π ts a' nm (γ1++crC π ts isn dep last::G))[j]?=some (.exc 0 fj)) {w:CS} {p a2:Int} {g:List Cell} (hu:CO 262 π ts nm isn dep 330 [] a last (.error (excC w p)) a2 last g):
  ∃i σ',Qout i σ'∧EXc π ts nm isn dep γ1 372 329 a last γ i σ':=by
 have hu':=fun n=>hu.er (γ1:=γ1) (γ2:=G) n
 rw[←List.append_assoc G g]at hu'
 have he:(enc π ts a2 nm (γ1++crC π ts isn dep last::((G++g)++[excC w p])))[cI π ts (γ1++crC π ts isn dep last::(G++g))]?=some (excC w p):=enc_newc
 have hj2:(enc π ts a2 nm (γ1++crC π ts isn dep last::((G++g)++[excC w p])))[j]?=some (.exc 0 fj):=by
  have:=enc_keep (b:=a2) (g:=g++[excC w p]) hj
  rw[ap3,←List.append_assoc G g]at this
  exact this
 obtain⟨i,σ',q1,q2⟩:=hRs (x1:=some (.int a)) (x2:=none) (far:=a') he hj2 aK6 aR1
 refine⟨i,σ',q1,fun n=>?_⟩
 refine(c329 _).trans ?_
 delta bdx329
 wide_open with 2 using [ssYTp,ssYT2,q2,hj,aK6,aR1,setR1,mR tm2_20,mK tm3_31,mK tm3_30,signB hs ha d40 h1,hx,hu']
theorem exo_br_no (hs:tsOk ts=true)(hne:ts≠[])(ha:0≤a)(h0:atW ts a=some (tokOf [40]))(hb:badOp (atW ts (a+1))=true):ExO π ts nm a (.error (excC mName (ftP ts (a+1)))) (a+1) []:=by
 intro γ n
 obtain⟨b1,_,_,_,b5⟩:=br_at h0
 rw[List.append_nil]
 exact expr_sb (chain_exb hs ha b5 (d:=0) (by decide) (primary_br_ex hs ha b5 b1 (d:=0) (sum_no hs hne (nn1 ha) hb (by decide)))) n
theorem exo_br_un (hs:tsOk ts=true)(hne:ts≠[])(ha:0≤a)(h0:atW ts a=some (tokOf [40])){w:CS}(hw:nmOK w=true)(h1:atW ts (a+1)=some (tokOf w))(hf:folOK (atW ts (a+1+1))=true)(h2:isSg ts (a+1+1) [41]=false):ExO π ts nm a (.error (excC ([41]++mAsked) (ftP ts (a+1+1)))) (a+1+1) [.list []]:=by
 intro γ n
 obtain⟨b1,_,_,_,b5⟩:=br_at h0
 show _=some (R.ex (cI π ts (γ++[.list []])) (enc π ts (a+1+1) nm (γ++([.list []]++[excC ([41]++mAsked) (ftP ts (a+1+1))]))))
 rw[←List.append_assoc]
 exact expr_sb (chain_exb hs ha b5 (d:=0) (by decide) (primary_br_no hs hne ha b5 b1 (d:=0) (nn1 (nn1 ha)) (sum_name hs (nn1 ha) hw h1 hf (by decide)) h2)) n
theorem exo_br_ok (hs:tsOk ts=true)(ha:0≤a)(h0:atW ts a=some (tokOf [40])){w:CS}(hw:nmOK w=true)(h1:atW ts (a+1)=some (tokOf w))(h2:atW ts (a+1+1)=some (tokOf [41]))(hf:folOK (atW ts (a+1+1+1))=true):ExO π ts nm a (.ok (refV w)) (a+1+1+1) [.list []]:=by
 intro γ n
 obtain⟨b1,_,_,_,b5⟩:=br_at h0
 obtain⟨c1,_,c3⟩:=cb_at h2
 exact expr_sb (chain_okb hs ha b5 (d:=0) (by decide) (nn1 (nn1 (nn1 ha))) (plain_of hf) (primary_br_ok hs ha b5 b1 (d:=0) (nn1 (nn1 ha)) (sum_name hs (nn1 ha) hw h1 (fol_ok c3).1 (by decide)) c1)) n
noncomputable def lone:P0→List (Bool × P0)→Option CS
 |(false,.opd o),[]=>some o
 |_,_=>none
noncomputable def bv (L:LT)(h:P0)(t:List (Bool × P0)):V:=match lone h t with
 |some o=>kv L (.opd o)
 |none=>rowV pfv pfl h t
noncomputable def bl (L:LT)(h:P0)(t:List (Bool × P0)):LT:=match lone h t with
 |some _=>L
 |none=>none
theorem lone_s {h:P0}{t:List (Bool × P0)}{o:CS}(hl:lone h t=some o):h=(false,.opd o)∧t=[]:=by
 unfold lone at hl
 split at hl
 ·exact⟨by rw[Option.some.inj hl],rfl⟩
 ·cases hl
theorem bad_not:badOp (some (tokOf wNOT))=true:=by decide +kernel
theorem bad_rel {s:CS}(h:s∈relS):badOp (some (tokOf s))=true:=List.all_eq_true.mp (show(relS.all fun s=>badOp (some (tokOf s)))=true by decide) s h
theorem nxt {w:CS}(h:atW ts a=some (tokOf w))(q:(folOK (some (tokOf w))&&!(decide ((tokOf w).1=sSign)&&decide ((tokOf w).2=[41])))=true):folOK (atW ts a)=true∧isSg ts a [41]=false:=by
 rw[Bool.and_eq_true,Bool.not_eq_true']at q
 unfold isSg
 rw[h]
 exact q
theorem nxt_j {j:Bool}(h:atW ts a=some (tokOf (jw j))):folOK (atW ts a)=true∧isSg ts a [41]=false:=nxt h (by cases j<;>decide)
theorem inner_bad {h:P0}{t:List (Bool × P0)}(hp:pOK h)(hl:lone h t=none)(hv:isNone (rowV pfv pfl h t)=true)(hw:Win ts a (rws pws h t)):
  badOp (atW ts a)=true∨∃w,nmOK w=true∧atW ts a=some (tokOf w)∧folOK (atW ts (a+1))=true∧isSg ts (a+1) [41]=false:=by
 obtain⟨nt,k⟩:=h
 induction nt using Bool.casesOn with
 |true=>exact .inl (by rw[(win_cons hw).1];exact bad_not)
 |false =>
  have hk:kOK k:=hp.1
  cases k with
  |cls=>exact .inr ⟨_,(nmP (nmAP (.head _))).1,(win_cons hw).1,nxt (win_cons (win_cons hw).2).1 (by decide)⟩
  |fx =>
   match t with
   | []=>exact absurd hv (by decide)
   |(j,p)::t=>exact .inr ⟨_,(nmP nmF).1,(win_cons hw).1,nxt_j (win_cons (win_cons hw).2).1⟩
  |opd o =>
   match t with
   | []=>cases hl
   |(j,p)::t=>exact .inr ⟨_,(nmP (nmDP hk)).1,(win_cons hw).1,nxt_j (win_cons (win_cons hw).2).1⟩
  |sg own s o =>
   induction own using Bool.casesOn with
   |true=>exact .inl (by rw[(win_cons hw).1];exact bad_not)
   |false=>exact .inl (by rw[(win_cons hw).1];exact bad_rel hk.1)
  |full n is own s o =>
   have h3:relS.all (fun w=>folOK (some (tokOf w))&&!(decide ((tokOf w).1=sSign)&&decide ((tokOf w).2=[41])))=true:=by decide
   have h3:=List.all_eq_true.mp h3 s hk.2.1
   refine .inr ⟨_,(nmP (nmAP hk.1)).1,(win_cons hw).1,?_⟩
   have h2:=(win_cons hw).2
   cases is<;>cases own
   ·exact nxt (win_cons h2).1 h3
   ·exact nxt (win_cons h2).1 (by decide)
   ·exact nxt (win_cons h2).1 (by decide)
   ·exact nxt (win_cons h2).1 (by decide)
theorem br_s (hs:tsOk ts=true)(hne:ts≠[]){L:LT}{h:P0}{t:List (Bool × P0)}(hp:pOK h)(ht:∀q∈t,pOK q.2)(hl:t.length≤5)(ha:0≤a)(h0:atW ts a=some (tokOf [40]))(hw:Win ts (a+1) (rws pws h t))(h2:atW ts (a+1+(rws pws h t).length)=some (tokOf [41]))(hf:fol ts (a+1+(rws pws h t).length+1)):
  Out π ts nm isF 0 γ1 Qout 372 329 a (lv L) γ (bv L h t) (a+1+(rws pws h t).length+1) (fun l=>l=lv (bl L h t)):=by
 obtain⟨b1,b2,b3,b4,b5⟩:=br_at h0
 obtain⟨c1,c2,c3⟩:=cb_at h2
 have ha1:0≤a+1:=nn1 ha
 have he:0≤a+1+((rws pws h t).length:Int):=nnN ha1
 have hb:isRel ts (a+plc ts a)=false:=by rw[b3,Int.add_zero];exact b4
 have hrow:=row_s (π:=π) (nm:=nm) (isn:=isF) (dep:=0+1) (γ1:=γ1++crC π ts isF 0 (lv L)::γ) (γ:=[]) (Q:=Qin π ts nm (γ1++crC π ts isF 0 (lv L)::γ)) hs (K:=284) (by decide) hl (p_s hs hne hp) (fun q hq=>p_s hs hne (ht q hq)) ha1 hw c3 (by rw[c2];decide) (by rw[c2];decide)
 rw[show 284+44=328 from rfl]at hrow
 cases hrow with
 |ok e1 e2 e3 =>
  rename_i last' γ'
  have hn:lone h t=none:=by
   cases q:lone h t with
   |none=>rfl
   |some o =>
    obtain⟨rfl,rfl⟩:=lone_s q
    exact absurd e1 (by show ¬true=false;decide)
  unfold OKc at e3
  have hx:=e3
  rw[ap3 (g:=crC π ts isF (0+1) last'::γ')]at hx
  have:=single_ok hs ha b1 (br_ok (dep:=0) (isn:=isF) (last:=lv L) (γ1:=γ1) (γ:=γ) (G:=γ++crC π ts isF (0+1) last'::γ') hs ha (by decide) b1 he hx c1)
  rw[show bv L h t=rowV pfv pfl h t by unfold bv;rw[hn]]
  exact .ok e1 (by unfold bl;rw[hn];rfl) this
 |ex e1 e2 e3 =>
  rename_i jx σ
  obtain⟨a',γ',fj,q1,rfl,q3⟩:=e2
  unfold EXc at e3
  rw[ap3]at q3
  have hx:=br_ex (dep:=0) (isn:=isF) (last:=lv L) (γ1:=γ1) (γ:=γ) hs ha (by decide) b1 e3
  rw[ap3]at hx
  cases q:lone h t with
  |some o =>
   obtain⟨rfl,rfl⟩:=lone_s q
   rw[show bv L (false,.opd o) []=kv L (.opd o)from rfl,show bl L (false,.opd o) []=L from rfl]
   obtain⟨n1,n2,n3,n4⟩:=nmP (nmDP (show o∈nmD from hp.1))
   have hN:NmO π ts nm isF o false:=named_fx n4 (nmAF (List.mem_append_right _ hp.1))
   have ha3:0≤a+1+1+1:=nn1 (nn1 (nn1 ha))
   have hx1:=exo_br_ok (π:=π) (nm:=nm) hs ha h0 n1 (win_cons hw).1 h2 (fol_ok hf).1
   cases L with
   |none =>
    obtain⟨i,σ',r1,r2⟩:=single_ex hs ha b1 hx q3 (unb_left_no (isn:=isF) (dep:=0) hs hne ha hb ha3 hx1 hN (fol_ok hf).2)
    exact .ex rfl r1 r2
   |some q =>
    exact .ok rfl rfl (single_lone hs ha b1 hx q3 (fun n=>(unb_left (isn:=isF) (dep:=0) hs ha hb ha3 hx1 hN (fol_ok hf).2).ok n))
  |none =>
   rw[show bv L h t=rowV pfv pfl h t by unfold bv;rw[q]]
   rcases inner_bad hp q e1 hw with hb1 | ⟨w,w1,w2,w3,w4⟩
   ·obtain⟨i,σ',r1,r2⟩:=single_ex hs ha b1 hx q3 (unb_ex (isn:=isF) (dep:=0) hs ha hb (exo_br_no hs hne ha h0 hb1))
    exact .ex e1 r1 r2
   ·obtain⟨i,σ',r1,r2⟩:=single_ex hs ha b1 hx q3 (unb_ex (isn:=isF) (dep:=0) hs ha hb (exo_br_un hs hne ha h0 w1 w2 w3 w4))
    exact .ex e1 r1 r2
inductive P1 where
 |one (p:P0)
 |br (nt:Bool)(h:P0)(t:List (Bool × P0))
noncomputable def qws:P1→List CS
 | .one p=>pws p
 | .br nt h t=>ntW1 nt ([40]::(rws pws h t++[[41]]))
noncomputable def qfv (L:LT):P1→V
 | .one p=>pfv L p
 | .br nt h t=>ntV nt (bv L h t)
noncomputable def qfl (L:LT):P1→LT
 | .one p=>pfl L p
 | .br _ h t=>bl L h t
noncomputable def qOK:P1→Prop
 | .one p=>pOK p
 | .br _ h t=>pOK h∧(∀q∈t,pOK q.2)∧t.length≤2
theorem q_s (hs:tsOk ts=true)(hne:ts≠[]){p:P1}(hp:qOK p):PartS π ts nm isF 0 γ1 Qout 384 qws qfv qfl p:=by
 cases p with
 |one p=>exact fun a L γ ha hw hf=>(p_s hs hne hp a L γ ha hw hf).mono (by decide) (fun _ _=>qin_out)
 |br nt h t =>
  intro a L γ ha hw hf
  induction nt using Bool.casesOn with
  |false =>
   obtain⟨t0,hw1⟩:=win_cons hw
   obtain⟨hw2,hw3⟩:=win_app hw1
   have he:a+((qws (.br false h t)).length:Int)=a+1+((rws pws h t).length:Int)+1:=by
    show a+(((rws pws h t++[[41]]).length+1:Nat):Int)=_
    rw[List.length_append,List.length_singleton];omega
   rw[he]at hf ⊢
   obtain⟨b1,b2,b3,b4,b5⟩:=br_at t0
   rw[show qfv L (.br false h t)=bv L h t from ntV_f]
   exact turn_no hs ha (by rw[b2];rfl) (by decide) (br_s hs hne hp.1 hp.2.1 (Nat.le_trans hp.2.2 (by decide)) ha t0 hw2 (win_cons hw3).1 hf)
  |true =>
   obtain⟨t00,hw0⟩:=win_cons hw
   obtain⟨t0,hw1⟩:=win_cons hw0
   obtain⟨hw2,hw3⟩:=win_app hw1
   have he:a+((qws (.br true h t)).length:Int)=a+1+1+((rws pws h t).length:Int)+1:=by
    show a+((((rws pws h t++[[41]]).length+1)+1:Nat):Int)=_
    rw[List.length_append,List.length_singleton];omega
   rw[he]at hf ⊢
   obtain⟨b1,b2,b3,b4,b5⟩:=br_at t0
   have h1:wdH ts a=wNOT:=(win_wd hw).trans rfl
   exact turn_t hs ha h1 (by rw[plc_not h1];exact b4) (by decide) (br_s hs hne hp.1 hp.2.1 (Nat.le_trans hp.2.2 (by decide)) (by omega) t0 hw2 (win_cons hw3).1 hf)
end
end
section
open PySem

noncomputable def nW (b:Bool)(W:List V):List V:=if b then .str wNOT::W else W
theorem nW_map {b:Bool}{W:List CS}:(ntW1 b W).map V.str=nW b (W.map .str):=by cases b<;>rfl
theorem isNone_e {v:V}(h:isNone v=true):v=.none:=by induction v using V.casesOn with
 |none=>rfl
 |_=>exact Bool.noConfusion h
section
variable {T:Tabs}{n:Nat}{c c1 x y z:Cell}{ρ r:List Cell}{b:Bool}{w:CS}{fr:Fr}{s:Sg}{p1 p2 p3 p4 p5:Pos}{k:Nat}{v u a l:V}{x0 x1 x2 x3 x4 x5 x6 x7 x8 x9 y0 y1 y2 y3:Option V}
theorem cEI {i j:Int}:cmpV .Eq (.int i) (.int j)=some (decide (i=j)):=rfl
theorem cEi1 {i j:Int}(h:i=j):cmpV .Eq (.int i) (.int j)=some true:=cEI.trans (congrArg some (dT h))
theorem cEi0 {i j:Int}(h:¬i=j):cmpV .Eq (.int i) (.int j)=some false:=cEI.trans (congrArg some (dF h))
theorem cIt (h:isNone v=true):cmpV .Is v .none=some true:=congrArg some h
theorem pT34:putT (x0::x1::x2::y0::y1::fr) [(3,p1),(4,p2)] [u,v]=some (x0::x1::x2::some u::some v::fr):=rfl
theorem pT641:putT (x0::y0::x2::x3::y1::x5::y2::fr) [(6,p1),(4,p2),(1,p3)] [u,v,a]=some (x0::some a::x2::x3::some v::x5::some u::fr):=rfl
theorem pT76:putT (x0::x1::x2::x3::x4::x5::y0::y1::fr) [(7,p1),(6,p2)] [u,v]=some (x0::x1::x2::x3::x4::x5::some v::some u::fr):=rfl
theorem pT61:putT (x0::y0::x2::x3::x4::x5::y1::fr) [(6,p1),(1,p2)] [u,v]=some (x0::some v::x2::x3::x4::x5::some u::fr):=rfl
theorem pT89:putT (x0::x1::x2::x3::x4::x5::x6::x7::y0::y1::fr) [(8,p1),(9,p2)] [u,v]=some (x0::x1::x2::x3::x4::x5::x6::x7::some u::some v::fr):=rfl
theorem pTab:putT (x0::x1::x2::x3::x4::x5::x6::x7::x8::x9::y0::y1::fr) [(10,p1),(11,p2)] [u,v]=some (x0::x1::x2::x3::x4::x5::x6::x7::x8::x9::some u::some v::fr):=rfl
theorem selF:exX T (n+4) (sel b (.lstF [.str w p1] p2) (.lstF [] p3)) fr s=some (.ok (.lst (if b then[.str w]else[])) s):=by cases b<;>rfl
theorem tS_get {q:CS}(h:q∈relS):dget q [[61],[60],[62],[60,61],[62,61]] [.str [60,62],.str [62,61],.str [60,61],.str [62],.str [60]]=some (.str (oppS q)):=by
 simp only[relS,List.mem_cons,List.not_mem_nil,or_false]at h
 rcases h with e | e | e | e | e<;>rw[e]<;>rfl
theorem selOp {q:CS}(hq:q∈relS):exX TB (n+10) (sel b (.sub (.call (.glob 39 p1) [] p2) (.loc 10 p3) p4) (.loc 10 p5)) (x0::x1::x2::x3::x4::x5::x6::x7::x8::x9::some (.str q)::fr) s=some (.ok (.str (tS b q)) s):=by
 induction b using Bool.casesOn with
 |true=>exact xSub (xCallG tg39 xs0 (turned_d _)) xL10 (sD (tS_get hq))
 |false=>rfl
theorem sTup {l:List V}{d:Int}(h1:0≤d)(h2:d≤1000)(h:l[d.toNat]?=some v):subV s (.tup l) (.int d)=some v:=(if_pos ⟨h1,h2⟩).trans h
theorem get3 {d:Int}(h1:0≤d)(h2:d<3):(∃w∈nmA,∀s,subV s (.str [65,66,67]) (.int d)=some (.str w))∧∃w∈nmD,∀s,subV s (.str [68,69,71]) (.int d)=some (.str w):=by
 have g:∀{l:CS},l.length=3→∃w∈l.map (fun c=>[c]),∀s,subV s (.str l) (.int d)=some (.str w):=fun{l} e=>by
  have h:d.toNat<l.length:=(Int.toNat_lt h1).mpr (e▸h2)
  exact⟨[l[d.toNat]],List.mem_map_of_mem (List.getElem_mem h),fun s=>(if_pos ⟨h1,Int.le_trans (Int.le_of_lt h2) (by decide)⟩).trans (by rw[List.getElem?_eq_getElem h];rfl)⟩
 exact⟨g (l:=[65,66,67]) rfl,g (l:=[68,69,71]) rfl⟩
theorem get5 {d:Int}(h1:0≤d)(h2:d<5):∃w∈relS,∀s,subV s (.tup sgnL) (.int d)=some (.str w):=by
 have h:d.toNat<relS.length:=(Int.toNat_lt h1).mpr h2
 exact⟨relS[d.toNat],List.getElem_mem h,fun s=>sTup h1 (Int.le_trans (Int.le_of_lt h2) (by decide)) (by show(relS.map V.str)[d.toNat]?=_;rw[List.getElem?_map,List.getElem?_eq_getElem h];rfl)⟩
theorem fin {W:List V}(hW:W.length≤900)(n:Nat):exSs TB (n+20) [(.ifs (.loc 5 (pz 9022334)) [.ret (.tup [(.bin (.lstF [(.str [78,79,84] (pz 9041362))] (pz 9041230)) .Add (.loc 4 (pz 9042568)) (pz 9041238)),(.ite (.cmp (.loc 6 (pz 9044578)) .Is (.none (pz 9045783)) (pz 9044586)) (.none (pz 9043505)) (.tup [(.str [110,111,116] (pz 9047258)),(.loc 6 (pz 9048196))] 0 (pz 9047133)) (pz 9043542)),(.loc 1 (pz 9049267))] 0 (pz 9041155)) (pz 9040224)] [] ⟨510,4,511,81⟩),(.ret (.tup [(.loc 4 (pz 9058381)),(.loc 6 (pz 9059319)),(.loc 1 (pz 9060256))] 0 (pz 9058262)) (pz 9057331))] (x0::some l::x2::x3::some (.lst W)::some (.bool b)::some v::fr) s =
  some (rtR (.ok (.tup [.lst (nW b W),ntV b v,l]) s) (x0::some l::x2::x3::some (.lst W)::some (.bool b)::some v::fr)):=by
 induction b using Bool.casesOn with
 |false =>
  rw[ntV_f]
  show _=some (rtR (.ok (.tup [.lst W,v,l]) s) _)
  wide_open with 2 using [rfl]
 |true =>
  have hl:[V.str wNOT].length+W.length≤1000:=Nat.le_trans (Nat.add_le_add_left hW 1) (by decide)
  cases h:isNone v with
  |true =>
   obtain rfl:=isNone_e h
   show _=some (rtR (.ok (.tup [.lst ([.str wNOT]++W),.none,l]) s) _)
   wide_open with 2 using [bLL (sml_of hl),rfl]
  |false =>
   rw[ntV_t h]
   show _=some (rtR (.ok (.tup [.lst ([.str wNOT]++W),.tup [.str tNot,v],l]) s) _)
   wide_open with 2 using [bLL (sml_of hl),cIsF h,rfl]
end
noncomputable abbrev mX (deep m:Int):Prop:=∀{n:Nat} {p q r p1 p2 p3:Pos} {x0 x1:Option V} {fr:Fr} {s:Sg},exX TB (n+4) (.ite (.cmp (.loc 2 p) .Gt (.int 0 q) r) (.int 7 p1) (.int 6 p2) p3) (x0::x1::some (.int deep)::fr) s=some (.ok (.int m) s)
theorem mX0:mX 0 6:=fun{_ _ _ _ _ _ _ _ _ _ _}=>xIte (xCmp xL2 xInt (cGtF (by decide))) tB xInt
theorem mX1:mX 1 7:=fun{_ _ _ _ _ _ _ _ _ _ _}=>xIte (xCmp xL2 xInt (cGtT (by decide))) tB xInt
noncomputable abbrev Dr (m d:Int)(c c':Cell)(ρ:List Cell):Prop:=∀n,callV TB (n+24) (.base 40) [.ref 0,.int m] (c::ρ)=some (.ok (.int d) (c'::ρ))
section
variable {deep m e:Int}{l x y:V}{c c1 c2 c3 c4 c5 c6:Cell}{ρ:List Cell}{w o s:CS}
theorem way_cls (hm:mX deep m)(k1:Dr m 3 c c1 ρ)(k2:Dr 3 e c1 c2 ρ)(n:Nat):callV TB (n+80) (.base 46) [.ref 0,l,.int deep] (c::ρ)=
  some (.ok (.tup [.lst (nW (decide (e=1)) [.str [65],.str wIS,.str wNUM]),ntV (decide (e=1)) (.tup [.str tClass,.str wNUM,refV [65]]),.none]) (c2::ρ)):=by
 have hk:=k1
 have hW:[V.str [65],.str wIS,.str wNUM].length≤900:=by decide
 refine(c46 _).trans ?_
 delta bdx46
 wide_open with 2 using [fin hW,tg40,hm,k1,k2,pT34,cEi1 rfl,cEI,tg43,ref_s,pT641]
theorem way_fx (hm:mX deep m)(k1:Dr m 4 c c1 ρ)(k2:Dr 3 e c1 c2 ρ)(n:Nat):callV TB (n+80) (.base 46) [.ref 0,l,.int deep] (c::ρ)=
  some (.ok (.tup [.lst (nW (decide (e=1)) [.str wFX]),ntV (decide (e=1)) (.tup [.str tNamed,refV wFX]),.none]) (c2::ρ)):=by
 have hW:[V.str wFX].length≤900:=by decide
 have q3:cmpV .Eq (.int 4) (.int 3)=some false:=cEi0 (by decide)
 refine(c46 _).trans ?_
 delta bdx46
 wide_open with 2 using [fin hW,q3,cEi1 rfl,tg40,hm,k1,k2,pT34,cEI,tg43,ref_s,pT641]
variable {d d3 d4 d5 d6:Int}
theorem way_opd_n (hm:mX deep m)(k1:Dr m 2 c c1 ρ)(k2:Dr 3 e c1 c2 ρ)(k3:Dr 3 d3 c2 c3 ρ)(k4:Dr 3 d4 c3 c4 ρ)(k5:Dr 5 d5 c4 c5 ρ)(k6:Dr 3 d6 c5 c6 ρ)(g3:∀s,subV s (.str [65,66,67]) (.int d3)=some (.str w))(g4:∀s,subV s (.str [68,69,71]) (.int d4)=some (.str o))(g5:∀t,subV t (.tup sgnL) (.int d5)=some (.str s))(hs:s∈relS)(n:Nat):callV TB (n+80) (.base 46) [.ref 0,.none,.int deep] (c::ρ)=
  some (.ok (.tup [.lst (nW (decide (e=1)) [.str o]),ntV (decide (e=1)) .none,.none]) (c6::ρ)):=by
 have hW:[V.str o].length≤900:=Nat.le_of_ble_eq_true rfl
 have q3:cmpV .Eq (.int 2) (.int 3)=some false:=cEi0 (by decide)
 have q4:cmpV .Eq (.int 2) (.int 4)=some false:=cEi0 (by decide)
 have q6:cmpV .Eq (.int 2) (.int 6)=some false:=cEi0 (by decide)
 refine(c46 _).trans ?_
 delta bdx46
 wide_open with 2 using [fin hW,q3,q4,q6,cEi1 rfl,tg15,tg40,hm,k1,k2,k3,k4,k5,k6,g3,g4,g5,selOp hs,selF,pT34,pT89,pTab,cEI,tg43,ref_s,sT0,sT1,cITu]
theorem way_opd_s (hm:mX deep m)(k1:Dr m 2 c c1 ρ)(k2:Dr 3 e c1 c2 ρ)(k3:Dr 3 d3 c2 c3 ρ)(k4:Dr 3 d4 c3 c4 ρ)(k5:Dr 5 d5 c4 c5 ρ)(k6:Dr 3 d6 c5 c6 ρ)(g3:∀s,subV s (.str [65,66,67]) (.int d3)=some (.str w))(g4:∀s,subV s (.str [68,69,71]) (.int d4)=some (.str o))(g5:∀t,subV t (.tup sgnL) (.int d5)=some (.str s))(hs:s∈relS)(n:Nat):callV TB (n+80) (.base 46) [.ref 0,(.tup [x,y]),.int deep] (c::ρ)=
  some (.ok (.tup [.lst (nW (decide (e=1)) [.str o]),ntV (decide (e=1)) (.tup [.str tRel,y,x,refV o]),(.tup [x,y])]) (c6::ρ)):=by
 have hW:[V.str o].length≤900:=Nat.le_of_ble_eq_true rfl
 have q3:cmpV .Eq (.int 2) (.int 3)=some false:=cEi0 (by decide)
 have q4:cmpV .Eq (.int 2) (.int 4)=some false:=cEi0 (by decide)
 have q6:cmpV .Eq (.int 2) (.int 6)=some false:=cEi0 (by decide)
 refine(c46 _).trans ?_
 delta bdx46
 wide_open with 2 using [fin hW,q3,q4,q6,cEi1 rfl,tg15,tg40,hm,k1,k2,k3,k4,k5,k6,g3,g4,g5,selOp hs,selF,pT34,pT89,pTab,cEI,tg43,ref_s,sT0,sT1,cITu]
theorem way_sg_n (hm:mX deep m)(k1:Dr m 1 c c1 ρ)(k2:Dr 3 e c1 c2 ρ)(k3:Dr 3 d3 c2 c3 ρ)(k4:Dr 3 d4 c3 c4 ρ)(k5:Dr 5 d5 c4 c5 ρ)(k6:Dr 3 d6 c5 c6 ρ)(g3:∀s,subV s (.str [65,66,67]) (.int d3)=some (.str w))(g4:∀s,subV s (.str [68,69,71]) (.int d4)=some (.str o))(g5:∀t,subV t (.tup sgnL) (.int d5)=some (.str s))(hs:s∈relS)(n:Nat):callV TB (n+80) (.base 46) [.ref 0,.none,.int deep] (c::ρ)=
  some (.ok (.tup [.lst (nW false ((if decide (d6=1)then[.str wNOT]else[])++[.str s,.str o])),ntV false .none,.none]) (c6::ρ)):=by
 have hl:(if decide (d6=1)then[V.str wNOT]else[]).length+[V.str s,.str o].length≤1000:=by split<;>exact Nat.le_of_ble_eq_true rfl
 have hW:((if decide (d6=1)then[V.str wNOT]else[])++[V.str s,.str o]).length≤900:=by split<;>exact Nat.le_of_ble_eq_true rfl
 have q3:cmpV .Eq (.int 1) (.int 3)=some false:=cEi0 (by decide)
 have q4:cmpV .Eq (.int 1) (.int 4)=some false:=cEi0 (by decide)
 have q6:cmpV .Eq (.int 1) (.int 6)=some false:=cEi0 (by decide)
 have q2:cmpV .Eq (.int 1) (.int 2)=some false:=cEi0 (by decide)
 refine(c46 _).trans ?_
 delta bdx46
 wide_open with 2 using [fin hW,q3,q4,q6,q2,cEi1 rfl,bLL (sml_of hl),tg15,tg40,hm,k1,k2,k3,k4,k5,k6,g3,g4,g5,selOp hs,selF,pT34,pT89,pTab,cEI,tg43,ref_s,sT0,sT1,cITu]
theorem way_sg_s (hm:mX deep m)(k1:Dr m 1 c c1 ρ)(k2:Dr 3 e c1 c2 ρ)(k3:Dr 3 d3 c2 c3 ρ)(k4:Dr 3 d4 c3 c4 ρ)(k5:Dr 5 d5 c4 c5 ρ)(k6:Dr 3 d6 c5 c6 ρ)(g3:∀s,subV s (.str [65,66,67]) (.int d3)=some (.str w))(g4:∀s,subV s (.str [68,69,71]) (.int d4)=some (.str o))(g5:∀t,subV t (.tup sgnL) (.int d5)=some (.str s))(hs:s∈relS)(n:Nat):callV TB (n+80) (.base 46) [.ref 0,(.tup [x,y]),.int deep] (c::ρ)=
  some (.ok (.tup [.lst (nW false ((if decide (d6=1)then[.str wNOT]else[])++[.str s,.str o])),ntV false (.tup [.str tRel,.str (tS (decide (d6=1)) s),x,refV o]),.tup [x,.str (tS (decide (d6=1)) s)]]) (c6::ρ)):=by
 have hl:(if decide (d6=1)then[V.str wNOT]else[]).length+[V.str s,.str o].length≤1000:=by split<;>exact Nat.le_of_ble_eq_true rfl
 have hW:((if decide (d6=1)then[V.str wNOT]else[])++[V.str s,.str o]).length≤900:=by split<;>exact Nat.le_of_ble_eq_true rfl
 have q3:cmpV .Eq (.int 1) (.int 3)=some false:=cEi0 (by decide)
 have q4:cmpV .Eq (.int 1) (.int 4)=some false:=cEi0 (by decide)
 have q6:cmpV .Eq (.int 1) (.int 6)=some false:=cEi0 (by decide)
 have q2:cmpV .Eq (.int 1) (.int 2)=some false:=cEi0 (by decide)
 refine(c46 _).trans ?_
 delta bdx46
 wide_open with 2 using [fin hW,q3,q4,q6,q2,cEi1 rfl,bLL (sml_of hl),tg15,tg40,hm,k1,k2,k3,k4,k5,k6,g3,g4,g5,selOp hs,selF,pT34,pT89,pTab,cEI,tg43,ref_s,sT0,sT1,cITu]
theorem way_full (hm:mX deep m)(hd:¬d=3∧¬d=4∧¬d=6∧¬d=2∧¬d=1)(k1:Dr m d c c1 ρ)(k2:Dr 3 e c1 c2 ρ)(k3:Dr 3 d3 c2 c3 ρ)(k4:Dr 3 d4 c3 c4 ρ)(k5:Dr 5 d5 c4 c5 ρ)(k6:Dr 3 d6 c5 c6 ρ)(g3:∀s,subV s (.str [65,66,67]) (.int d3)=some (.str w))(g4:∀s,subV s (.str [68,69,71]) (.int d4)=some (.str o))(g5:∀t,subV t (.tup sgnL) (.int d5)=some (.str s))(hs:s∈relS)(n:Nat):callV TB (n+80) (.base 46) [.ref 0,l,.int deep] (c::ρ)=
  some (.ok (.tup [.lst (nW (decide (e=1)) ((([.str w]++if decide (d=5)then[.str wIS]else[])++if decide (d6=1)then[.str wNOT]else[])++[.str s,.str o])),ntV (decide (e=1)) (.tup [.str tRel,.str (tS (decide (d6=1)) s),refV w,refV o]),.tup [refV w,.str (tS (decide (d6=1)) s)]]) (c6::ρ)):=by
 have h1:[V.str w].length+(if decide (d=5)then[V.str wIS]else[]).length≤1000:=by split<;>exact Nat.le_of_ble_eq_true rfl
 have h2:([V.str w]++if decide (d=5)then[V.str wIS]else[]).length+(if decide (d6=1)then[V.str wNOT]else[]).length≤1000:=by split<;>split<;>exact Nat.le_of_ble_eq_true rfl
 have h3:(([V.str w]++if decide (d=5)then[V.str wIS]else[])++if decide (d6=1)then[V.str wNOT]else[]).length+[V.str s,.str o].length≤1000:=by split<;>split<;>exact Nat.le_of_ble_eq_true rfl
 have hW:((([V.str w]++if decide (d=5)then[V.str wIS]else[])++if decide (d6=1)then[V.str wNOT]else[])++[V.str s,.str o]).length≤900:=by split<;>split<;>exact Nat.le_of_ble_eq_true rfl
 have q3:cmpV .Eq (.int d) (.int 3)=some false:=cEi0 hd.1
 have q4:cmpV .Eq (.int d) (.int 4)=some false:=cEi0 hd.2.1
 have q6:cmpV .Eq (.int d) (.int 6)=some false:=cEi0 hd.2.2.1
 have q2:cmpV .Eq (.int d) (.int 2)=some false:=cEi0 hd.2.2.2.1
 have q1:cmpV .Eq (.int d) (.int 1)=some false:=cEi0 hd.2.2.2.2
 refine(c46 _).trans ?_
 delta bdx46
 wide_open with 2 using [fin hW,q3,q4,q6,q2,q1,bLL (sml_of h1),bLL (sml_of h2),bLL (sml_of h3),pT61,tg15,tg40,hm,k1,k2,k3,k4,k5,k6,g3,g4,g5,selOp hs,selF,pT34,pT89,pTab,cEI,tg43,ref_s,sT0,sT1,cITu]
end
theorem Pen.mono {N M:Nat}{c:Cell}(h:Pen N c)(hM:N≤M):Pen M c:=by
 obtain⟨l,spot,rest,seed,e,h1,h2,h3,h4⟩:=h
 exact⟨l,spot,rest,seed,e,h1,h2,by omega,h4⟩
theorem part_k {deep m d:Int}(hm:mX deep m){N:Nat}{c c1:Cell}(hN:N+6≤500)(L:LT)(ρ:List Cell)(h0:0≤d)(h7:d<7)(h6:d≠6)(k1:Dr m d c c1 ρ)(hp1:Pen (N+1) c1):
  ∃p c',pOK p∧Pen (N+6) c'∧∀n,callV TB (n+80) (.base 46) [.ref 0,lv L,.int deep] (c::ρ)=some (.ok (.tup [.lst ((pws p).map .str),pfv L p,lv (pfl L p)]) (c'::ρ)):=by
 obtain⟨e,c2,e1,e2,hp2,k2⟩:=draw_s hp1 (nl (j:=1) hN (by decide)) (m:=3) (by decide) (by decide) ρ
 by_cases q3:d=3
 ·subst q3
  refine⟨(decide (e=1),.cls),c2,⟨trivial,fun _=>trivial⟩,hp2.mono (show N+2≤N+6 from Nat.add_le_add_left (by decide) N),fun n=>?_⟩
  rw[show(pws (decide (e=1),KP.cls)).map V.str=nW (decide (e=1)) [.str [65],.str wIS,.str wNUM]from nW_map]
  exact way_cls hm k1 k2 n
 by_cases q4:d=4
 ·subst q4
  refine⟨(decide (e=1),.fx),c2,⟨trivial,fun _=>trivial⟩,hp2.mono (show N+2≤N+6 from Nat.add_le_add_left (by decide) N),fun n=>?_⟩
  rw[show(pws (decide (e=1),KP.fx)).map V.str=nW (decide (e=1)) [.str wFX]from nW_map]
  exact way_fx hm k1 k2 n
 obtain⟨d3,c3,a1,a2,hp3,k3⟩:=draw_s hp2 (nl (j:=2) hN (by decide)) (m:=3) (by decide) (by decide) ρ
 obtain⟨d4,c4,a3,a4,hp4,k4⟩:=draw_s hp3 (nl (j:=3) hN (by decide)) (m:=3) (by decide) (by decide) ρ
 obtain⟨d5,c5,a5,a6,hp5,k5⟩:=draw_s hp4 (nl (j:=4) hN (by decide)) (m:=5) (by decide) (by decide) ρ
 obtain⟨d6,c6,a7,a8,hp6,k6⟩:=draw_s hp5 (nl (j:=5) hN (by decide)) (m:=3) (by decide) (by decide) ρ
 obtain⟨⟨w,hw,g3⟩,_⟩:=get3 a1 a2
 obtain⟨_,o,ho,g4⟩:=get3 a3 a4
 obtain⟨s,hs,g5⟩:=get5 a5 a6
 by_cases q2:d=2
 ·subst q2
  refine⟨(decide (e=1),.opd o),c6,⟨ho,fun _=>trivial⟩,hp6,fun n=>?_⟩
  rw[show(pws (decide (e=1),KP.opd o)).map V.str=nW (decide (e=1)) [.str o]from nW_map]
  induction L using Option.casesOn with
  |none=>exact way_opd_n hm k1 k2 k3 k4 k5 k6 g3 g4 g5 hs n
  |some q=>exact way_opd_s hm k1 k2 k3 k4 k5 k6 g3 g4 g5 hs n
 by_cases q1:d=1
 ·subst q1
  refine⟨(false,.sg (decide (d6=1)) s o),c6,⟨⟨hs,ho⟩,fun h=>Bool.noConfusion h⟩,hp6,fun n=>?_⟩
  rw[show(pws (false,KP.sg (decide (d6=1)) s o)).map V.str=nW false ((if decide (d6=1)then[.str wNOT]else[])++[.str s,.str o])from nW_map.trans (by cases decide (d6=1)<;>rfl)]
  induction L using Option.casesOn with
  |none=>exact way_sg_n hm k1 k2 k3 k4 k5 k6 g3 g4 g5 hs n
  |some q=>exact way_sg_s hm k1 k2 k3 k4 k5 k6 g3 g4 g5 hs n
 refine⟨(decide (e=1),.full w (decide (d=5)) (decide (d6=1)) s o),c6,⟨⟨hw,hs,ho⟩,fun _=>trivial⟩,hp6,fun n=>?_⟩
 rw[show(pws (decide (e=1),KP.full w (decide (d=5)) (decide (d6=1)) s o)).map V.str=nW (decide (e=1)) ((([.str w]++if decide (d=5)then[.str wIS]else[])++if decide (d6=1)then[.str wNOT]else[])++[.str s,.str o])from nW_map.trans (by cases decide (d6=1)<;>cases decide (d=5)<;>rfl)]
 exact way_full hm ⟨q3,q4,h6,q2,q1⟩ k1 k2 k3 k4 k5 k6 g3 g4 g5 hs n
end
section
open PySem

noncomputable def stp:List (List V)→List V→List (Bool × V)→List (List V) × List V
 |rs,cur,[]=>(rs,cur)
 |rs,cur,(true,v)::R=>stp (rs++[cur]) [v] R
 |rs,cur,(false,v)::R=>stp rs (cur++[v]) R
noncomputable def anF (b:V)(v:V):V:=.tup [.str tAnd,b,v]
noncomputable def fR:List V→V
 | []=>.none
 |v::l=>l.foldl anF v
noncomputable def wR (w:Option V)(l:List V):Option V:=some (jn w (fR l))
theorem fR_snoc:∀{l:List V} {v:V},l≠[]→fR (l++[v])=.tup [.str tAnd,fR l,v]
 | [],_,h=>absurd rfl h
 |x::l,v,_=>by show(l++[v]).foldl anF x=_;rw[List.foldl_append];rfl
theorem stp_val:∀(R:List (Bool × V)) (rs:List (List V)) (cur:List V),cur≠[]→((stp rs cur R).1++[(stp rs cur R).2]).foldl wR none=some (goR (rs.foldl wR none) (fR cur) R)
 | [],rs,cur,_=>by rw[List.foldl_append];rfl
 |(true,v)::R,rs,cur,h=>by
  show((stp (rs++[cur]) [v] R).1++[(stp (rs++[cur]) [v] R).2]).foldl wR none=_
  rw[stp_val R (rs++[cur]) [v] (by simp),List.foldl_append]
  rfl
 |(false,v)::R,rs,cur,h=>by
  show((stp rs (cur++[v]) R).1++[(stp rs (cur++[v]) R).2]).foldl wR none=_
  rw[stp_val R rs (cur++[v]) (by simp),fR_snoc h]
  rfl
noncomputable def nnL (l:List V):Bool:=l.all fun v=>!isNone v
theorem stp_nn:∀(R:List (Bool × V)) (rs:List (List V)) (cur:List V),((stp rs cur R).1++[(stp rs cur R).2]).all nnL=((rs++[cur]).all nnL&&nn R)
 | [],rs,cur=>by show(rs++[cur]).all nnL=_;exact(Bool.and_true _).symm
 |(true,v)::R,rs,cur=>by
  show((stp (rs++[cur]) [v] R).1++[(stp (rs++[cur]) [v] R).2]).all nnL=_
  rw[stp_nn R (rs++[cur]) [v],List.all_append,Bool.and_assoc]
  show(_&&(((!isNone v&&true)&&true)&&nn R))=(_&&(!isNone v&&nn R))
  rw[Bool.and_true,Bool.and_true]
 |(false,v)::R,rs,cur=>by
  show((stp rs (cur++[v]) R).1++[(stp rs (cur++[v]) R).2]).all nnL=_
  rw[stp_nn R rs (cur++[v]),List.all_append,List.all_append]
  show((rs.all nnL&&((cur++[v]).all (fun v=>!isNone v)&&true))&&nn R)=((rs.all nnL&&(nnL cur&&true))&&(!isNone v&&nn R))
  rw[List.all_append,Bool.and_true,Bool.and_true]
  show((rs.all nnL&&(nnL cur&&(!isNone v&&true)))&&nn R)=_
  rw[Bool.and_true,Bool.and_assoc,Bool.and_assoc,Bool.and_assoc]
theorem stp_ne:∀(R:List (Bool × V)) (rs:List (List V)) (cur:List V),cur≠[]→(∀l∈rs,l≠[])→∀l∈(stp rs cur R).1++[(stp rs cur R).2],l≠[]
 | [],rs,cur,h1,h2=>fun l hl=>by
  rcases List.mem_append.mp hl with h | h
  ·exact h2 l h
  ·rw[List.mem_singleton.mp h];exact h1
 |(true,v)::R,rs,cur,h1,h2=>stp_ne R (rs++[cur]) [v] (by simp) (fun l hl=>by
  rcases List.mem_append.mp hl with h | h
  ·exact h2 l h
  ·rw[List.mem_singleton.mp h];exact h1)
 |(false,v)::R,rs,cur,h1,h2=>stp_ne R rs (cur++[v]) (by simp) h2
theorem stp_len:∀(R:List (Bool × V)) (K:Nat) (rs:List (List V)) (cur:List V),cur.length≤K→rs.length≤K→(∀l∈rs,l.length≤K)→(stp rs cur R).1.length≤K+R.length∧∀l∈(stp rs cur R).1++[(stp rs cur R).2],l.length≤K+R.length+1
 | [],K,rs,cur,h1,h2,h3=>⟨h2,fun l hl=>by
  rcases List.mem_append.mp hl with h | h
  ·exact Nat.le_succ_of_le (h3 l h)
  ·rw[List.mem_singleton.mp h];exact Nat.le_succ_of_le h1⟩
 |(true,v)::R,K,rs,cur,h1,h2,h3=>by
  have:=stp_len R (K+1) (rs++[cur]) [v] (Nat.succ_le_succ (Nat.zero_le _)) (by rw[List.length_append];exact Nat.succ_le_succ h2) (fun l hl=>by
   rcases List.mem_append.mp hl with h | h
   ·exact Nat.le_succ_of_le (h3 l h)
   ·rw[List.mem_singleton.mp h];exact Nat.le_succ_of_le h1)
  rw[Nat.add_assoc K 1,Nat.add_comm 1]at this
  exact this
 |(false,v)::R,K,rs,cur,h1,h2,h3=>by
  have:=stp_len R (K+1) rs (cur++[v]) (by rw[List.length_append];exact Nat.succ_le_succ h1) (Nat.le_succ_of_le h2) (fun l hl=>Nat.le_succ_of_le (h3 l hl))
  rw[Nat.add_assoc K 1,Nat.add_comm 1]at this
  exact this
noncomputable def All2 (g:List Cell):List Nat→List (List V)→Prop
 | [],[]=>True
 |i::a,l::b=>g[i]?=some (.list l)∧All2 g a b
 |_,_=>False
theorem All2.app {g g':List Cell}:∀{a:List Nat} {b:List (List V)},All2 g a b→All2 (g++g') a b
 | [],[],_=>trivial
 |i::a,l::b,h=>⟨(List.getElem?_append_left (List.getElem?_eq_some_iff.mp h.1).1).trans h.1,All2.app h.2⟩
theorem All2.set {g:List Cell}{r:Nat}{x:Cell}:∀{a:List Nat} {b:List (List V)},r ∉ a→All2 g a b→All2 (g.set r x) a b
 | [],[],_,_=>trivial
 |i::a,l::b,hr,h=>⟨(List.getElem?_set_ne (fun q:r=i=>hr (by rw[q];exact .head _))).trans h.1,All2.set (fun q=>hr (.tail _ q)) h.2⟩
theorem All2.snoc {g:List Cell}{r:Nat}{l:List V}(hl:g[r]?=some (.list l)):∀{a:List Nat} {b:List (List V)},All2 g a b→All2 g (a++[r]) (b++[l])
 | [],[],_=>⟨hl,trivial⟩
 |i::a,x::b,h=>⟨h.1,All2.snoc hl h.2⟩
theorem All2.len {g:List Cell}:∀{a:List Nat} {b:List (List V)},All2 g a b→a.length=b.length
 | [],[],_=>rfl
 |i::a,x::b,h=>congrArg (· + 1) (All2.len h.2)
theorem All2.lt {g:List Cell}:∀{a:List Nat} {b:List (List V)},All2 g a b→∀i∈a,i<g.length
 |i::a,x::b,h,j,hj=>by
  cases hj with
  |head=>exact(List.getElem?_eq_some_iff.mp h.1).1
  |tail _ hj=>exact All2.lt h.2 j hj
noncomputable abbrev rfs (B:Nat)(l:List Nat):List V:=l.map fun i=>V.ref (B+i)
inductive Inv (g:List Cell)(B i0:Nat)(rs:List (List V))(cur:List V):Prop where
 |mk (refs:List Nat)(r:Nat)(h0:g[i0]?=some (.list (rfs B (refs++[r]))))(h1:r≠i0)(h2:r ∉ refs)(h3:i0 ∉ refs)(h4:g[r]?=some (.list cur))(h5:All2 g refs rs)
theorem Inv.app {g g':List Cell}{B i0:Nat}{rs:List (List V)}{cur:List V}(h:Inv g B i0 rs cur):Inv (g++g') B i0 rs cur:=by
 obtain⟨refs,r,h0,h1,h2,h3,h4,h5⟩:=h
 exact⟨refs,r,(List.getElem?_append_left (List.getElem?_eq_some_iff.mp h0).1).trans h0,h1,h2,h3,(List.getElem?_append_left (List.getElem?_eq_some_iff.mp h4).1).trans h4,h5.app⟩
section
variable {T:Tabs}{n B i0 i:Nat}{c:Cell}{ρ g:List Cell}{s:Sg}{v w x:V}{l cur:List V}{rs:List (List V)}{x0 x1 x2 x3 x4 x5 x6 x7 x8 x9 y0 y1 y2 y3:Option V}{fr:Fr}{p1 p2 p3:Pos}
theorem gI:(c::(ρ++g))[ρ.length+1+i]?=g[i]?:=by
 rw[show ρ.length+1+i=(ρ.length+i)+1 from Nat.add_right_comm _ _ _,List.getElem?_cons_succ,List.getElem?_append_right (Nat.le_add_right _ _),Nat.add_sub_cancel_left]
theorem sI {x:Cell}:(c::(ρ++g)).set (ρ.length+1+i) x=c::(ρ++g.set i x):=by
 rw[show ρ.length+1+i=(ρ.length+i)+1 from Nat.add_right_comm _ _ _,List.set_cons_succ,List.set_append_right _ _ (Nat.le_add_right _ _),Nat.add_sub_cancel_left]
theorem lB:(c::(ρ++g)).length=ρ.length+1+g.length:=by rw[List.length_cons,List.length_append];exact Nat.add_right_comm _ _ _
theorem aB {x:Cell}:(c::(ρ++g))++[x]=c::(ρ++(g++[x])):=by rw[List.cons_append,List.append_assoc]
theorem mLs {i:Nat}(h:s[i]?=some (.list l)):methF TB s (.ref i) 39=some none:=by
 unfold methF
 dsimp only
 rw[h]
 rfl
theorem mVs {i:Nat}(h:s[i]?=some (.list l))(hl:l.length≤1000):methV (.ref i) 39 [v] s=some (.ok .none (s.set i (.list (l++[v])))):=by
 show(match s[i]? with | some (.list l)=>if sml l.length then some (R.ok V.none (s.set i (Cell.list (l++[v]))))else none | _=>none)=_
 rw[h]
 exact if_pos (sml_of hl)
theorem itR {i:Nat}(h:s[i]?=some (.list l)):items s (.ref i)=some l:=by
 show(match s[i]? with | some (.list l)=>some l | _=>none)=_;rw[h]
theorem sLast {i:Nat}(h:s[i]?=some (.list (l++[v]))):subV s (.ref i) (.int (-1))=some v:=by
 show(items s (.ref i)).bind (·.getLast?)=_
 rw[itR h]
 exact List.getLast?_concat
theorem rfs_snoc {refs:List Nat}{r:Nat}:rfs B (refs++[r])=rfs B refs++[.ref (B+r)]:=List.map_append
theorem ap_and {refs:List Nat}{r:Nat}(h0:g[i0]?=some (.list (rfs B (refs++[r]))))(h1:r≠i0)(h2:r ∉ refs)(h3:i0 ∉ refs)(h4:g[r]?=some (.list cur))(h5:All2 g refs rs):Inv (g.set r (.list (cur++[v]))) B i0 rs (cur++[v]):=
 ⟨refs,r,(List.getElem?_set_ne h1).trans h0,h1,h2,h3,List.getElem?_set_self (List.getElem?_eq_some_iff.mp h4).1,h5.set h2⟩
theorem ap_or {refs:List Nat}{r:Nat}(h0:g[i0]?=some (.list (rfs B (refs++[r]))))(h1:r≠i0)(h2:r ∉ refs)(h3:i0 ∉ refs)(h4:g[r]?=some (.list cur))(h5:All2 g refs rs):
  Inv ((g++[Cell.list [v]]).set i0 (Cell.list (rfs B (refs++[r])++[V.ref (B+g.length)]))) B i0 (rs++[cur]) [v]:=by
 have l0:=(List.getElem?_eq_some_iff.mp h0).1
 have lr:=(List.getElem?_eq_some_iff.mp h4).1
 have h6:All2 g (refs++[r]) (rs++[cur]):=h5.snoc h4
 have h7:i0 ∉ refs++[r]:=fun q=>by
  rcases List.mem_append.mp q with q | q
  ·exact h3 q
  ·exact h1 (List.mem_singleton.mp q).symm
 refine⟨refs++[r],g.length,?_,Nat.ne_of_gt l0,fun q=>Nat.lt_irrefl _ (h6.lt _ q),h7,?_,All2.set h7 h6.app⟩
 ·rw[←rfs_snoc];exact List.getElem?_set_self (by rw[List.length_append];exact Nat.lt_add_right _ l0)
 ·rw[List.getElem?_set_ne (Nat.ne_of_lt l0)];exact get_new
end
noncomputable def rowB:List S:=[.asN 7 (pz 9146290) (.cmp (.call (.glob 40 (pz 9147366)) [(.loc 0 (pz 9148700)),(.int 2 (pz 9149368))] (pz 9147374)) .Eq (.int 1 (pz 9150172)) (pz 9147379)) (pz 9146315),
  .asT [(8,(pz 9163978)),(3,(pz 9164783)),(4,(pz 9165720))] 0 (pz 9163991) (.call (.glob 46 (pz 9166663)) [(.loc 0 (pz 9167997)),(.loc 4 (pz 9168668)),(.loc 1 (pz 9169472))] (pz 9166680)) (pz 9164020),
  .asN 2 (pz 9181668) (.bin (.bin (.loc 2 (pz 9182740)) .Add (.lstF [(.ite (.loc 7 (pz 9185018)) (.str [79,82] (pz 9183945)) (.str [65,78,68] (pz 9186492)) (pz 9183965))] (pz 9183833)) (pz 9182769)) .Add (.loc 8 (pz 9187697)) (pz 9182776)) (pz 9181712),
  .ifs (.loc 7 (pz 9199759)) [.expr (.meth (.loc 5 (pz 9217581)) 39 (pz 9217588) [(.lst [(.loc 3 (pz 9219324))] (pz 9219192))] (pz 9217597)) (pz 9217597)] [.expr (.meth (.sub (.loc 5 (pz 9252959)) (.neg (.int 1 (pz 9253760)) (pz 9253627)) (pz 9252963)) 39 (pz 9252970) [(.loc 3 (pz 9255104))] (pz 9252977)) (pz 9252977)] ⟨520,8,523,34⟩]
noncomputable def sumB:List S:=[.asN 12 (pz 9340868) (.sub (.loc 9 (pz 9341805)) (.int 0 (pz 9342339)) (pz 9341808)) (pz 9340877),
  .forN 10 (pz 9359092) (.slc (.loc 9 (pz 9360030)) (some (.int 1 (pz 9360564))) none (pz 9360565) (pz 9360034)) [.asN 12 (pz 9376782) (.tup [(.str [97,110,100] (pz 9377855)),(.loc 12 (pz 9378792)),(.loc 10 (pz 9379595))] 0 (pz 9377734)) (pz 9376803)] ⟨529,8,530,37⟩,
  .asN 11 (pz 9393936) (.ite (.cmp (.loc 11 (pz 9396080)) .Is (.none (pz 9397285)) (pz 9396088)) (.loc 12 (pz 9395007)) (.tup [(.str [111,114] (pz 9398759)),(.loc 11 (pz 9399564)),(.loc 12 (pz 9400501))] 0 (pz 9398640)) (pz 9395049)) (pz 9393985)]
noncomputable def andB:List S:=[.asN 12 (pz 9376782) (.tup [(.str [97,110,100] (pz 9377855)),(.loc 12 (pz 9378792)),(.loc 10 (pz 9379595))] 0 (pz 9377734)) (pz 9376803)]
section
variable {n B i0 i:Nat}{c c1 c2:Cell}{ρ g g1:List Cell}{s:Sg}{v w x dv:V}{l cur:List V}{rs:List (List V)}{x0 x1 x2 x3 x4 x5 x6 x7 x8 x9 y0 y1 y2 y3:Option V}{fr:Fr}{p1 p2 p3:Pos}
theorem pT834:putT (x0::x1::x2::y0::y1::x5::x6::x7::y2::fr) [(8,p1),(3,p2),(4,p3)] [v,w,x]=some (x0::x1::x2::some w::some x::x5::x6::x7::some v::fr):=rfl
theorem turn_or {d:Int}(hd:d=1){F:Nat}{W W2:List V}{lo l':V}(k1:Dr 2 d c c1 (ρ++g))(k2:∀n,callV TB (n+F) (.base 46) [.ref 0,lo,dv] (c1::(ρ++g))=some (.ok (.tup [.lst W2,v,l']) (c2::(ρ++g1))))(hF:80≤F)
  (hI:Inv g1 (ρ.length+1) i0 rs cur) (hrs:rs.length≤900) (hcl:cur.length≤900) (hW:W.length+W2.length≤900):∃g2,Inv g2 (ρ.length+1) i0 (rs++[cur]) [v]∧∀n,exSs TB (n+F+20) rowB [some (.ref 0),some dv,some (.lst W),x3,some lo,some (.ref (ρ.length+1+i0)),x6,x7,x8,none,none,none,none] (c::(ρ++g))=
  some (.nx [some (.ref 0),some dv,some (.lst ((W++[.str wOR])++W2)),some v,some l',some (.ref (ρ.length+1+i0)),x6,some (.bool true),some (.lst W2),none,none,none,none] (c2::(ρ++g2))):=by
 obtain⟨refs,r,h0,h1,h2,h3,h4,h5⟩:=hI
 have hL:(rfs (ρ.length+1) (refs++[r])).length≤1000:=by rw[List.length_map,List.length_append,h5.len,List.length_singleton];exact Nat.le_trans (Nat.succ_le_succ hrs) (by decide)
 have h0':(c2::(ρ++g1))[ρ.length+1+i0]?=some (.list (rfs (ρ.length+1) (refs++[r]))):=gI.trans h0
 have h0'':(c2::(ρ++(g1++[.list [v]])))[ρ.length+1+i0]?=some (.list (rfs (ρ.length+1) (refs++[r]))):=gI.trans ((List.getElem?_append_left (List.getElem?_eq_some_iff.mp h0).1).trans h0)
 have hm:=mVs (v:=.ref (ρ.length+1+g1.length)) h0'' hL
 rw[sI]at hm
 have hl1:W.length+[V.str wOR].length≤1000:=Nat.le_trans (Nat.add_le_add_right (Nat.le_trans (Nat.le_add_right _ _) hW) 1) (by decide)
 have hl2:(W++[V.str wOR]).length+W2.length≤1000:=by rw[List.length_append,List.length_singleton,Nat.add_right_comm];exact Nat.le_trans (Nat.succ_le_succ hW) (by decide)
 refine⟨_,ap_or (v:=v) h0 h1 h2 h3 h4 h5,fun n=>?_⟩
 obtain⟨m,hm2⟩:=exm hF n
 have k2':=k2 (n+16)
 rw[show n+16+F=m+96 from fu hm2 16]at k2'
 rw[show n+F+20=m+100 from congrArg (· + 20) hm2]
 delta rowB
 wide_open with 2 using [ssE,xM39,tg40,tg46,k1,k2',cEi1 hd,pT834,bLL (sml_of hl1),bLL (sml_of hl2),mLs h0',hm,lB,aB]
theorem turn_and {d:Int}(hd:¬d=1){F:Nat}{W W2:List V}{lo l':V}(k1:Dr 2 d c c1 (ρ++g))(k2:∀n,callV TB (n+F) (.base 46) [.ref 0,lo,dv] (c1::(ρ++g))=some (.ok (.tup [.lst W2,v,l']) (c2::(ρ++g1))))(hF:80≤F)
  (hI:Inv g1 (ρ.length+1) i0 rs cur) (hrs:rs.length≤900) (hcl:cur.length≤900) (hW:W.length+W2.length≤900):∃g2,Inv g2 (ρ.length+1) i0 rs (cur++[v])∧∀n,exSs TB (n+F+20) rowB [some (.ref 0),some dv,some (.lst W),x3,some lo,some (.ref (ρ.length+1+i0)),x6,x7,x8,none,none,none,none] (c::(ρ++g))=
  some (.nx [some (.ref 0),some dv,some (.lst ((W++[.str wAND])++W2)),some v,some l',some (.ref (ρ.length+1+i0)),x6,some (.bool false),some (.lst W2),none,none,none,none] (c2::(ρ++g2))):=by
 obtain⟨refs,r,h0,h1,h2,h3,h4,h5⟩:=hI
 have h0':(c2::(ρ++g1))[ρ.length+1+i0]?=some (.list (rfs (ρ.length+1) refs++[.ref (ρ.length+1+r)])):=gI.trans (by rw[←rfs_snoc];exact h0)
 have h4':(c2::(ρ++g1))[ρ.length+1+r]?=some (.list cur):=gI.trans h4
 have hm:=mVs (v:=v) h4' (Nat.le_trans hcl (by decide))
 rw[sI]at hm
 have hl1:W.length+[V.str wAND].length≤1000:=Nat.le_trans (Nat.add_le_add_right (Nat.le_trans (Nat.le_add_right _ _) hW) 1) (by decide)
 have hl2:(W++[V.str wAND]).length+W2.length≤1000:=by rw[List.length_append,List.length_singleton,Nat.add_right_comm];exact Nat.le_trans (Nat.succ_le_succ hW) (by decide)
 refine⟨_,ap_and (v:=v) h0 h1 h2 h3 h4 h5,fun n=>?_⟩
 obtain⟨m,hm2⟩:=exm hF n
 have k2':=k2 (n+16)
 rw[show n+16+F=m+96 from fu hm2 16]at k2'
 rw[show n+F+20=m+100 from congrArg (· + 20) hm2]
 delta rowB
 wide_open with 2 using [ssE,xM39,tg40,tg46,k1,k2',cEi0 hd,pT834,bLL (sml_of hl1),bLL (sml_of hl2),sLast h0',mLs h4',hm,lB,aB]
end
end
section
open PySem

theorem fz {n k F:Nat}:n+k+1+F+20=n+F+21+k :=
 show _=n+F+1+20+k by rw[Nat.add_right_comm n k 1,Nat.add_right_comm (n+1) k F,Nat.add_right_comm (n+1+F) k 20,Nat.add_right_comm n 1 F]
theorem rl0 {N D X:Nat}:N+1+D+X=N+(X+(D+1)):=by rw[Nat.add_assoc N 1 D,Nat.add_comm 1 D,Nat.add_assoc N,Nat.add_comm (D+1) X]
theorem rl3 {W p X M:Nat}(hp:p≤M)(h:W+(X+(M+1))≤900):W+(p+1)+X≤900:=by
 rw[Nat.add_assoc,Nat.add_comm (p+1) X]
 exact Nat.le_trans (Nat.add_le_add_left (Nat.add_le_add_left (Nat.succ_le_succ hp) X) W) h
section
variable {α:Type}{deep:Int}{D F M:Nat}{ws:α→List CS}{fv:LT→α→V}{fl:LT→α→LT}{OK:α→Prop}
noncomputable def LPt (deep:Int)(D F:Nat)(ws:α→List CS)(fv:LT→α→V)(fl:LT→α→LT)(OK:α→Prop):Prop:=∀(N:Nat) (c:Cell) (L:LT) (ρ:List Cell),Pen N c→N+D≤500→∃p c' g,OK p∧Pen (N+D) c' ∧
 ∀n,callV TB (n+F) (.base 46) [.ref 0,lv L,.int deep] (c::ρ)=some (.ok (.tup [.lst ((ws p).map .str),fv L p,lv (fl L p)]) (c'::(ρ++g)))
inductive RL (deep:Int)(D F:Nat)(ws:α→List CS)(fv:LT→α→V)(fl:LT→α→LT)(OK:α→Prop)(N:Nat)(c:Cell)(L:LT)(ρ g:List Cell)(W:List CS)(i0:Nat)(rs:List (List V))(cur:List V)(l:List V)(x3 x6 x7 x8:Option V):Prop where
 |mk (t:List (Bool × α))(c':Cell)(g':List Cell)(y3 y4 y6 y7 y8:Option V)(ht:t.length=l.length)(ho:∀q∈t,OK q.2)(hp:Pen (N+l.length*(D+1)) c')
  (hi:Inv g' (ρ.length+1) i0 (stp rs cur (tvs fv fl L t)).1 (stp rs cur (tvs fv fl L t)).2)
  (h:∀n,exF TB (n+F+21+l.length) (fun fr v=>some (fr.set 6 (some v))) rowB l [some (.ref 0),some (.int deep),some (.lst (W.map .str)),x3,some (lv L),some (.ref (ρ.length+1+i0)),x6,x7,x8,none,none,none,none] (c::(ρ++g))=
   some (.nx [some (.ref 0),some (.int deep),some (.lst ((W++tws ws t).map .str)),y3,y4,some (.ref (ρ.length+1+i0)),y6,y7,y8,none,none,none,none] (c'::(ρ++g'))))
theorem row_loop (hP:LPt deep D F ws fv fl OK)(hM:∀p,OK p→(ws p).length≤M)(hF:80≤F):∀(l:List V) (N:Nat) (c:Cell) (L:LT) (ρ g:List Cell) (W:List CS) (i0:Nat) (rs:List (List V)) (cur:List V) (x3 x6 x7 x8:Option V) (K:Nat),
  Pen N c→N+l.length*(D+1)≤500→Inv g (ρ.length+1) i0 rs cur→rs.length≤K→cur.length≤K→K+l.length≤900→W.length+l.length*(M+1)≤900→RL deep D F ws fv fl OK N c L ρ g W i0 rs cur l x3 x6 x7 x8:=fun l=>by
 induction l with
 |nil =>
  intro N c L ρ g W i0 rs cur x3 x6 x7 x8 K hp hN hI _ _ _ _
  exact .mk [] c g x3 (some (lv L)) x6 x7 x8 rfl (fun q hq=>nomatch hq) (hp.mono (Nat.le_add_right _ _)) hI (fun n=>by
   rw[show W++tws ws ([]:List (Bool × α))=W from List.append_nil W]
   exact f0)
 |cons u l ih =>
  intro N c L ρ g W i0 rs cur x3 x6 x7 x8 K hp hN hI h1 h2 h3 h4
  rw[List.length_cons,Nat.succ_mul]at hN h4
  rw[List.length_cons]at h3
  obtain⟨d,c1,d1,d2,hp1,k1⟩:=draw_s hp (Nat.le_trans (Nat.le_add_right _ _) hN) (m:=2) (by decide) (by decide) (ρ++g)
  obtain⟨p,c2,gp,hpo,hp2,k2⟩:=hP (N+1) c1 L (ρ++g) hp1 (Nat.le_trans (Nat.le_add_right _ (l.length*(D+1))) (Nat.le_trans (Nat.le_of_eq rl0) hN))
  rw[List.append_assoc]at k2
  have hWp:=hM p hpo
  have hw:(W.map V.str).length+((ws p).map V.str).length≤900:=by rw[List.length_map,List.length_map];exact Nat.le_trans (Nat.add_le_add_left (Nat.le_trans hWp (Nat.le_trans (Nat.le_succ M) (Nat.le_add_left (M+1) _))) _) h4
  have step:∀(j:Bool) (rs2:List (List V)) (cur2:List V) (g2:List Cell),Inv g2 (ρ.length+1) i0 rs2 cur2→(∀R,stp rs cur ((j,fv L p)::R)=stp rs2 cur2 R)→rs2.length≤K+1→cur2.length≤K+1 →
    (∀n,exSs TB (n+F+20) rowB [some (.ref 0),some (.int deep),some (.lst (W.map .str)),x3,some (lv L),some (.ref (ρ.length+1+i0)),some u,x7,x8,none,none,none,none] (c::(ρ++g))=
     some (.nx [some (.ref 0),some (.int deep),some (.lst ((W.map .str++[.str (jw j)])++(ws p).map .str)),some (fv L p),some (lv (fl L p)),some (.ref (ρ.length+1+i0)),some u,some (.bool j),some (.lst ((ws p).map .str)),none,none,none,none] (c2::(ρ++g2)))) →
    RL deep D F ws fv fl OK N c L ρ g W i0 rs cur (u::l) x3 x6 x7 x8:=by
   intro j rs2 cur2 g2 hI2 hst hr hc hb
   have eW:(W.map V.str++[.str (jw j)])++(ws p).map .str=(W++(jw j::ws p)).map V.str:=by rw[List.map_append,List.append_assoc];rfl
   rw[eW]at hb
   obtain⟨t,c',g',y3,y4,y6,y7,y8,t1,t2,t3,t4,t5⟩:=ih (N+1+D) c2 (fl L p) ρ g2 (W++(jw j::ws p)) i0 rs2 cur2 (some (fv L p)) (some u) (some (.bool j)) (some (.lst ((ws p).map .str))) (K+1) hp2 (Nat.le_trans (Nat.le_of_eq rl0) hN) hI2 hr hc (by rw[Nat.add_right_comm];exact h3) (by rw[List.length_append,List.length_cons];exact rl3 hWp h4)
   refine .mk ((j,p)::t) c' g' y3 y4 y6 y7 y8 (congrArg (· + 1) t1) (fun q hq=>?_) ?_ ?_ (fun n=>?_)
   ·cases hq with
    |head=>exact hpo
    |tail _ hq=>exact t2 q hq
   ·rw[List.length_cons,Nat.succ_mul];exact t3.mono (Nat.le_of_eq rl0)
   ·show Inv g' _ i0 (stp rs cur ((j,fv L p)::tvs fv fl (fl L p) t)).1 (stp rs cur ((j,fv L p)::tvs fv fl (fl L p) t)).2
    rw[hst];exact t4
   ·have hb':=hb (n+l.length+1)
    rw[show n+l.length+1+F+20=n+F+21+l.length from fz]at hb'
    have t5':=t5 n
    rw[show W++(jw j::ws p)++tws ws t=W++tws ws ((j,p)::t)by rw[List.append_assoc];rfl]at t5'
    exact fC (fr1:=[some (.ref 0),some (.int deep),some (.lst (W.map .str)),x3,some (lv L),some (.ref (ρ.length+1+i0)),some u,x7,x8,none,none,none,none]) rfl hb' (sqN t5')
  by_cases hd:d=1
  ·obtain⟨g2,i1,i2⟩:=turn_or (x3:=x3) (x6:=some u) (x7:=x7) (x8:=x8) hd k1 k2 hF hI.app (Nat.le_trans h1 (Nat.le_trans (Nat.le_add_right _ _) h3)) (Nat.le_trans h2 (Nat.le_trans (Nat.le_add_right _ _) h3)) hw
   exact step true (rs++[cur]) [fv L p] g2 i1 (fun _=>rfl) (by rw[List.length_append];exact Nat.succ_le_succ h1) (Nat.succ_le_succ (Nat.zero_le _)) i2
  ·obtain⟨g2,i1,i2⟩:=turn_and (x3:=x3) (x6:=some u) (x7:=x7) (x8:=x8) hd k1 k2 hF hI.app (Nat.le_trans h1 (Nat.le_trans (Nat.le_add_right _ _) h3)) (Nat.le_trans h2 (Nat.le_trans (Nat.le_add_right _ _) h3)) hw
   exact step false rs (cur++[fv L p]) g2 i1 (fun _=>rfl) (Nat.le_succ_of_le h1) (by rw[List.length_append];exact Nat.succ_le_succ h2) i2
end
noncomputable def L2 (s:Sg):List V→List (List V)→Prop
 | [],[]=>True
 |v::a,l::b=>(∃i,v=.ref i∧s[i]?=some (.list l))∧L2 s a b
 |_,_=>False
theorem All2.l2 {c:Cell}{ρ g:List Cell}:∀{a:List Nat} {b:List (List V)},All2 g a b→L2 (c::(ρ++g)) (rfs (ρ.length+1) a) b
 | [],[],_=>trivial
 |i::a,l::b,h=>⟨⟨_,rfl,gI.trans h.1⟩,All2.l2 h.2⟩
theorem nones_s {s:Sg}:∀{a:List V} {b:List (List V)},L2 s a b→(∀l∈b,l.length≤1000)→∃t,nonesV s a=some t∧t.all isNone=true∧t.isEmpty=b.all nnL
 | [],[],_,_=>⟨[],rfl,rfl,rfl⟩
 |v::a,l::b,h,hl=>by
  obtain⟨⟨i,rfl,hi⟩,h⟩:=h
  obtain⟨t,t1,t2,t3⟩:=nones_s h (fun l hq=>hl l (.tail _ hq))
  refine⟨l.filter isNone++t,?_,?_,?_⟩
  ·show(items s (.ref i)).bind (fun l=>(nonesV s a).bind fun t=>if sml l.length then some (l.filter isNone++t)else none)=_
   rw[itR hi,t1]
   exact if_pos (sml_of (hl l (.head _)))
  ·rw[List.all_append,t2,Bool.and_true,List.all_eq_true]
   exact fun x hx=>(List.mem_filter.mp hx).2
  ·show _=(nnL l&&b.all nnL)
   rw[←t3]
   cases q:l.filter isNone with
   |nil =>
    have:nnL l=true:=List.all_eq_true.mpr fun x hx=>by
     cases z:isNone x with
     |false=>rfl
     |true=>have:=List.mem_filter.mpr ⟨hx,z⟩;rw[q]at this;cases this
    rw[this];rfl
   |cons x r =>
    have hx:x∈l.filter isNone:=by rw[q];exact .head _
    have hx:=List.mem_filter.mp hx
    have:nnL l=false:=by
     rw[Bool.eq_false_iff]
     intro z
     have:=List.all_eq_true.mp z x hx.1
     rw[hx.2]at this
     cases this
    rw[this];rfl
theorem xNones {n i:Nat}{Lc:LcI}{p pl pc:Pos}{fr:Fr}{s:Sg}{t:List V}(h:nonesO fr s i=some t)(hd:t.all isNone=true):exX TB (n+3) (.nones i Lc p pl pc) fr s=some (.ok (.bool (!t.isEmpty)) s):=by
 show(match nonesO fr s i with | some t=>bnd (exX TB (n+2) (.lstF [] pl) fr s) fun v s=>lif ((cmpV .NotEq (.lst t) v).map V.bool) s | none=>none)=_
 rw[h]
 show lif ((cmpV .NotEq (.lst t) (.lst [])).map V.bool) s=_
 have hd:isData (.lst t)=true:=List.all_eq_true.mpr fun x hx=>by
  rw[isNone_e (List.all_eq_true.mp hd x hx)]
  rfl
 show lif ((if isData (.lst t)&&isData (.lst [])then some (!veq (.lst t) (.lst []))else none).map V.bool) s=_
 rw[hd]
 cases t<;>rfl
noncomputable def oV:Option V→V
 |none=>.none
 |some v=>v
section
variable {n b:Nat}{s:Sg}{x0 x1 x2 x3 x4 x5 x6 x7 x8 x9 y0 y1 y2 y3:Option V}
theorem and_loop:∀(l:List V) (v:V) (y0:Option V),∃z,∀n,exF TB (n+10+l.length) (fun fr v=>some (fr.set 10 (some v))) andB l [x0,x1,x2,x3,x4,x5,x6,x7,x8,x9,y0,y1,some v] s=some (.nx [x0,x1,x2,x3,x4,x5,x6,x7,x8,x9,z,y1,some (l.foldl anF v)] s)
 | [],v,y0=>⟨y0,fun n=>f0⟩
 |u::l,v,y0=>by
  obtain⟨z,h⟩:=and_loop l (anF v u) (some u)
  refine⟨z,fun n=>fC (fr1:=[x0,x1,x2,x3,x4,x5,x6,x7,x8,x9,some u,y1,some v]) rfl ?_ (sqN (h n))⟩
  show exSs TB (n+10+l.length) _ _ _=_
  rw[Nat.add_right_comm]
  delta andB
  exact ssA12 (xTup (xsC xStr (xsC xL12 (xs1 xL10))) sm3) ss0
theorem sDrop {s:Sg}{i:Nat}{l:List V}(h:s[i]?=some (.list l))(hl:l.length≤900):slcV s (.ref i) (some (.int 1)) none=some (.lst (l.drop 1)):=by
 show(items s (.ref i)).bind (fun l=>if sml l.length∧(0:Int)≤1∧(1:Int)≤1000 then some (V.lst (l.drop (1:Int).toNat))else none)=_
 rw[itR h]
 exact if_pos ⟨sml_of (Nat.le_trans hl (by decide)),by decide,by decide⟩
theorem sHead {s:Sg}{i:Nat}{v:V}{l:List V}(h:s[i]?=some (.list (v::l))):subV s (.ref i) (.int 0)=some v:=by
 show(items s (.ref i)).bind (·[0]?)=_
 rw[itR h]
 rfl
theorem fold_n:∀{l:List V} {v:V},isNone v=false→isNone (l.foldl anF v)=false
 | [],_,h=>h
 |u::l,v,_=>fold_n (l:=l) (v:=anF v u) rfl
theorem sum_turn {i:Nat}{v:V}{l:List V}{w:Option V}(h:s[i]?=some (.list (v::l)))(hl:l.length≤20)(hw:∀u,w=some u→isNone u=false):∃z,∀n,exSs TB (n+40) sumB [x0,x1,x2,x3,x4,x5,x6,x7,x8,some (.ref i),y0,some (oV w),y2] s =
  some (.nx [x0,x1,x2,x3,x4,x5,x6,x7,x8,some (.ref i),z,some (oV (wR w (v::l))),some (fR (v::l))] s):=by
 obtain⟨z,hz⟩:=and_loop (x0:=x0) (x1:=x1) (x2:=x2) (x3:=x3) (x4:=x4) (x5:=x5) (x6:=x6) (x7:=x7) (x8:=x8) (x9:=some (.ref i)) (y1:=some (oV w)) (s:=s) l v y0
 have hz':∀n,exF TB (n+30) (fun fr v=>some (fr.set 10 (some v))) andB l [x0,x1,x2,x3,x4,x5,x6,x7,x8,some (.ref i),y0,some (oV w),some v] s=some (.nx [x0,x1,x2,x3,x4,x5,x6,x7,x8,some (.ref i),z,some (oV w),some (l.foldl anF v)] s):=fun n=>by
  have:=hz (n+(20 - l.length))
  rwa [show n+(20 - l.length)+10+l.length=n+30 from show _=n+20+10 by rw[Nat.add_right_comm _ 10,Nat.add_assoc n,Nat.sub_add_cancel hl]]at this
 have hd:slcV s (.ref i) (some (.int 1)) none=some (.lst l):=sDrop h (Nat.succ_le_succ (Nat.le_trans hl (by decide)))
 have hh:=sHead h
 delta andB at hz'
 refine⟨z,fun n=>?_⟩
 delta sumB
 induction w using Option.casesOn with
 |none =>
  show _=some (RS.nx [x0,x1,x2,x3,x4,x5,x6,x7,x8,some (.ref i),z,some (l.foldl anF v),some (l.foldl anF v)] s)
  wide_open with 2 using [hd,hh,xSld,ssF,hz',cIt rfl]
 |some u =>
  show _=some (RS.nx [x0,x1,x2,x3,x4,x5,x6,x7,x8,some (.ref i),z,some (.tup [.str tOr,oV (some u),l.foldl anF v]),some (l.foldl anF v)] s)
  have hu:isNone (oV (some u))=false:=hw u rfl
  wide_open with 2 using [hd,hh,xSld,ssF,hz',cIsF hu]
end
end
section
open PySem

section
variable {n b:Nat}{s:Sg}{x0 x1 x2 x3 x4 x5 x6 x7 x8 x9 y0 y1 y2 y3:Option V}
theorem fR_n {l:List V}(h1:l≠[])(h2:nnL l=true):isNone (fR l)=false:=by
 match l,h1 with
 |v::l,_ =>
  have h2:(!isNone v&&nnL l)=true:=h2
  rw[Bool.and_eq_true,Bool.not_eq_true']at h2
  exact fold_n h2.1
theorem sum_loop {B:List V}(hB:s[b]?=some (.list B)):∀(suf:List V) (rows:List (List V)) (pre:List V) (w:Option V) (y9 y10 y12:Option V),L2 s suf rows→pre++suf=B→(∀l∈rows,l≠[]∧nnL l=true∧l.length≤20)→(∀u,w=some u→isNone u=false) →
  ∃z9 z10 z12,∀n,exL TB (n+41+rows.length) (fun fr v=>some (fr.set 9 (some v))) sumB b pre.length [x0,x1,x2,x3,x4,x5,x6,x7,x8,y9,y10,some (oV w),y12] s=some (.nx [x0,x1,x2,x3,x4,x5,x6,x7,x8,z9,z10,some (oV (rows.foldl wR w)),z12] s)
 | [],[],pre,w,y9,y10,y12,_,h2,_,_=>⟨y9,y10,y12,fun n=>lE hB (by rw[←h2,List.append_nil];exact List.getElem?_eq_none (Nat.le_refl _))⟩
 |v::suf,l::rows,pre,w,y9,y10,y12,h1,h2,h3,h4=>by
  obtain⟨⟨i,rfl,hi⟩,h1⟩:=h1
  obtain⟨q1,q2,q3⟩:=h3 l (.head _)
  match l,hi,q1,q2,q3 with
  |u::l,hi,q1,q2,q3 =>
   obtain⟨z,hz⟩:=sum_turn (x0:=x0) (x1:=x1) (x2:=x2) (x3:=x3) (x4:=x4) (x5:=x5) (x6:=x6) (x7:=x7) (x8:=x8) (y0:=y10) (y2:=y12) hi (Nat.le_of_succ_le q3) h4
   obtain⟨z9,z10,z12,hr⟩:=sum_loop hB suf rows (pre++[.ref i]) (wR w (u::l)) (some (.ref i)) z (some (fR (u::l))) h1 (by rw[List.append_assoc];exact h2) (fun l hl=>h3 l (.tail _ hl)) (fun x hx=>by
    obtain rfl:=Option.some.inj hx
    exact jn_n (fR_n q1 q2))
   rw[List.length_append,List.length_singleton]at hr
   refine⟨z9,z10,z12,fun n=>?_⟩
   have hz':=hz (n+1+rows.length)
   rw[show n+1+rows.length+40=n+41+rows.length from(Nat.add_right_comm (n+1) rows.length 40)]at hz'
   exact lC (fr:=[x0,x1,x2,x3,x4,x5,x6,x7,x8,y9,y10,some (oV w),y12]) hB (by rw[←h2,List.getElem?_append_right (Nat.le_refl _),Nat.sub_self];rfl) hz' (sqN (hr n))
end
noncomputable abbrev mT (deep k:Int):Prop:=∀{n:Nat} {p q r p1 p2 p3:Pos} {x0:Option V} {fr:Fr} {s:Sg},exX TB (n+4) (.ite (.cmp (.loc 1 p) .Gt (.int 0 q) r) (.int 5 p1) (.int 3 p2) p3) (x0::some (.int deep)::fr) s=some (.ok (.int k) s)
theorem mT0:mT 0 3:=fun{_ _ _ _ _ _ _ _ _ _}=>xIte (xCmp xL1 xInt (cGtF (by decide))) tB xInt
theorem mT1:mT 1 5:=fun{_ _ _ _ _ _ _ _ _ _}=>xIte (xCmp xL1 xInt (cGtT (by decide))) tB xInt
section
variable {α:Type}{deep k:Int}{D F M:Nat}{ws:α→List CS}{fv:LT→α→V}{fl:LT→α→LT}{OK:α→Prop}
variable {x0 x1 x2 x3 x4 x5 x6 x7 x8 x9 y0 y1 y2 y3:Option V}{fr:Fr}{p1 p2 p3:Pos}{u v w:V}
theorem pT234:putT (x0::x1::y0::y1::y2::fr) [(2,p1),(3,p2),(4,p3)] [u,v,w]=some (x0::x1::some u::some v::some w::fr):=rfl
theorem lB1 {c x:Cell}{ρ g:List Cell}:(c::(ρ++(g++[x]))).length=ρ.length+1+(g.length+1):=lB.trans (by rw[List.length_append,List.length_singleton])
theorem fy {n d F:Nat}(h:d≤4):n+(39 - d)+F+21+d=n+F+60:=show _=n+F+39+21 by rw[Nat.add_right_comm _ 21 d,Nat.add_right_comm _ F d,Nat.add_assoc n,Nat.sub_add_cancel (Nat.le_trans h (by decide)),Nat.add_right_comm n 39 F]
theorem fx2 {m k:Nat}(h:k≤6):m+(101 - k)+41+k=m+142:=show _=m+101+41 by rw[Nat.add_right_comm _ 41 k,Nat.add_assoc m,Nat.sub_add_cancel (Nat.le_trans h (by decide))]
theorem lkd {t:Nat}{d k:Int}(h:t=d.toNat)(h0:0≤d)(h1:d<k):(t:Int)<k:=by rw[h,Int.toNat_of_nonneg h0];exact h1
theorem d4 {d k:Int}(h1:d<k)(h2:k≤5):d.toNat≤4:=Int.toNat_le.mpr (Int.le_of_lt_add_one (Int.lt_of_lt_of_le h1 h2))
theorem k1k {d k:Int}(h1:d<k)(h2:k≤5):d≤1000:=Int.le_trans (Int.le_of_lt h1) (Int.le_trans h2 (by decide))
theorem row_law (hP:LPt deep D F ws fv fl OK)(hM:∀p,OK p→(ws p).length≤M)(hF:80≤F)(hk:mT deep k)(k0:1≤k)(k5:k≤5)(hM2:M≤60){N:Nat}{c:Cell}(ρ:List Cell)(hp:Pen N c)(hN:N+D+1+5*(D+1)≤500):
  ∃h t c' g,OK h∧(∀q∈t,OK q.2)∧(t.length:Int)<k∧Pen (N+D+1+5*(D+1)) c'∧∀n,callV TB (n+F+70) (.base 47) [.ref 0,.int deep] (c::ρ)=some (.ok (.tup [.lst ((rws ws h t).map .str),rowV fv fl h t]) (c'::(ρ++g))):=by
 obtain⟨h,c1,g0,ho,hp1,k1⟩:=hP N c none ρ hp (Nat.le_trans (Nat.le_trans (Nat.le_add_right _ 1) (Nat.le_add_right _ _)) hN)
 have k1:∀n,callV TB (n+F) (.base 46) [.ref 0,.none,.int deep] (c::ρ)=some (.ok (.tup [.lst ((ws h).map .str),fv none h,lv (fl none h)]) (c1::(ρ++g0))):=k1
 obtain⟨d,c2,d1,d2,hp2,k2⟩:=draw_s hp1 (Nat.le_trans (Nat.le_trans (Nat.le_add_right _ 1) (Nat.le_add_right _ _)) hN) (m:=k) k0 (Int.le_trans k5 (by decide)) (ρ++((g0++[.list [fv none h]])++[.list [.ref (ρ.length+1+g0.length)]]))
 have hI:Inv ((g0++[.list [fv none h]])++[.list [.ref (ρ.length+1+g0.length)]]) (ρ.length+1) (g0.length+1) [] [fv none h]:=by
  refine⟨[],g0.length,?_,Nat.ne_of_lt (Nat.lt_succ_self _),(fun q=>nomatch q),(fun q=>nomatch q),?_,trivial⟩
  ·have:=get_new (s:=g0++[.list [fv none h]]) (c:=.list [.ref (ρ.length+1+g0.length)])
   rw[List.length_append]at this
   exact this
  ·rw[List.getElem?_append_left (by rw[List.length_append,List.length_singleton];exact Nat.lt_succ_self _)]
   exact get_new
 have hMh:=hM h ho
 have hlr:((List.range d.toNat).map fun j:Nat=>V.int j).length=d.toNat:=by rw[List.length_map,List.length_range]
 have hd5:d.toNat≤4:=d4 d2 k5
 have hd6:d.toNat≤5:=Nat.le_succ_of_le hd5
 have h20:1+d.toNat+1≤20:=Nat.succ_le_succ (Nat.le_trans (Nat.add_le_add_left hd5 1) (by decide))
 have hm1:d.toNat*(D+1)≤5*(D+1):=Nat.mul_le_mul_right _ hd6
 have hm2:d.toNat*(M+1)≤5*61:=Nat.mul_le_mul hd6 (Nat.succ_le_succ hM2)
 obtain⟨t,c',g',y3,y4,y6,y7,y8,t1,t2,t3,t4,t5⟩:=row_loop hP hM hF ((List.range d.toNat).map fun j:Nat=>V.int j) (N+D+1) c2 (fl none h) ρ ((g0++[.list [fv none h]])++[.list [.ref (ρ.length+1+g0.length)]]) (ws h) (g0.length+1) [] [fv none h] (some (fv none h)) none none none 1 hp2 (by rw[hlr];exact Nat.le_trans (Nat.add_le_add_left hm1 _) hN) hI (by decide) (Nat.le_refl _) (by rw[hlr];exact Nat.le_trans (Nat.add_le_add_left hd5 1) (by decide)) (by rw[hlr];exact Nat.le_trans (Nat.add_le_add (Nat.le_trans hMh hM2) hm2) (by decide))
 rw[hlr]at t1 t3 t5
 have hnn:=stp_nn (tvs fv fl (fl none h) t) [] [fv none h]
 have hvl:=stp_val (tvs fv fl (fl none h) t) [] [fv none h] (List.cons_ne_nil _ _)
 have hne:=stp_ne (tvs fv fl (fl none h) t) [] [fv none h] (List.cons_ne_nil _ _) (fun l hl=>nomatch hl)
 have hln:=(stp_len (tvs fv fl (fl none h) t) 1 [] [fv none h] (Nat.le_refl _) (by decide) (fun l hl=>nomatch hl)).2
 rw[tvs_len,t1]at hln
 have hlr2:=(stp_len (tvs fv fl (fl none h) t) 1 [] [fv none h] (Nat.le_refl _) (by decide) (fun l hl=>nomatch hl)).1
 rw[tvs_len,t1]at hlr2
 obtain⟨refs,r,i1,i2,i3,i4,i5,i6⟩:=t4
 generalize stp [] [fv none h] (tvs fv fl (fl none h) t)=st at *
 have hal:All2 g' (refs++[r]) (st.1++[st.2]):=i6.snoc i5
 have hl2:L2 (c'::(ρ++g')) (rfs (ρ.length+1) (refs++[r])) (st.1++[st.2]):=hal.l2
 have hB:(c'::(ρ++g'))[ρ.length+1+(g0.length+1)]?=some (.list (rfs (ρ.length+1) (refs++[r]))):=gI.trans i1
 obtain⟨T,n1,n2,n3⟩:=nones_s hl2 (fun l hl=>Nat.le_trans (hln l hl) (Nat.le_trans h20 (by decide)))
 have hBl:(rfs (ρ.length+1) (refs++[r])).length≤1000:=by rw[List.length_map,hal.len,List.length_append,List.length_singleton];exact Nat.succ_le_succ (Nat.le_trans hlr2 (Nat.le_trans (Nat.add_le_add_left hd5 1) (by decide)))
 have hno:∀{x0 x1 x2 x3 x4:Option V} {fr:Fr},nonesO (x0::x1::x2::x3::x4::some (.ref (ρ.length+1+(g0.length+1)))::fr) (c'::(ρ++g')) 5=some T:=fun{_ _ _ _ _ _}=>by
  show(items (c'::(ρ++g')) (.ref (ρ.length+1+(g0.length+1)))).bind (fun l=>if sml l.length then nonesV (c'::(ρ++g')) l else none)=_
  rw[itR hB]
  exact(if_pos (sml_of hBl)).trans n1
 have t5':∀n,exF TB (n+F+60) (fun fr v=>some (fr.set 6 (some v))) rowB ((List.range d.toNat).map fun j:Nat=>V.int j) [some (.ref 0),some (.int deep),some (.lst ((ws h).map .str)),some (fv none h),some (lv (fl none h)),some (.ref (ρ.length+1+(g0.length+1))),none,none,none,none,none,none,none] (c2::(ρ++((g0++[.list [fv none h]])++[.list [.ref (ρ.length+1+g0.length)]])))=
   some (.nx [some (.ref 0),some (.int deep),some (.lst ((rws ws h t).map .str)),y3,y4,some (.ref (ρ.length+1+(g0.length+1))),y6,y7,y8,none,none,none,none] (c'::(ρ++g'))):=fun n=>by
  have:=t5 (n+(39 - d.toNat))
  rwa [fy hd5]at this
 have hdk:0≤d∧d≤1000:=⟨d1,k1k d2 k5⟩
 refine⟨h,t,c',g',ho,t2,lkd t1 d1 d2,t3.mono (Nat.add_le_add_left hm1 _),fun n=>?_⟩
 obtain⟨m,hm⟩:=exm hF n
 have k1':=k1 (n+66)
 rw[show n+66+F=m+146 from fu hm 66]at k1'
 have t5'':=t5' (n+5)
 rw[show n+5+F+60=m+145 from congrArg (· + 60) (fu hm 5)]at t5''
 rw[show n+F+70=m+150 from congrArg (· + 70) hm]
 delta rowB at t5''
 have hfn:(st.1++[st.2]).all nnL=true↔(isNone (fv none h)=false∧nn (tvs fv fl (fl none h) t)=true):=by
  rw[hnn]
  show((((!isNone (fv none h))&&true)&&true)&&nn _)=true↔_
  rw[Bool.and_true,Bool.and_true,Bool.and_eq_true,Bool.not_eq_true']
 cases hq:(st.1++[st.2]).all nnL with
 |false =>
  rw[hq]at n3
  have e1:rowV fv fl h t=.none:=if_neg (fun q=>by have:=hfn.mpr q;rw[hq]at this;cases this)
  rw[e1]
  have hx:∀{n:Nat} {Lc:LcI} {p pl pc:Pos} {x0 x1 x2 x3 x4:Option V} {fr:Fr},exX TB (n+3) (.nones 5 Lc p pl pc) (x0::x1::x2::x3::x4::some (.ref (ρ.length+1+(g0.length+1)))::fr) (c'::(ρ++g'))=some (.ok (.bool true) (c'::(ρ++g'))):=fun{_ _ _ _ _ _ _ _ _ _ _}=>(xNones hno n2).trans (by rw[n3];rfl)
  refine(c47 _).trans ?_
  delta bdx47
  wide_open with 2 using [ssFR,hdk,hx,tg46,tg40,k1',k2,hk,t5'',pT234,lB1,lB,aB]
 |true =>
  rw[hq]at n3
  have e1:rowV fv fl h t=goR none (fv none h) (tvs fv fl (fl none h) t):=if_pos (hfn.mp hq)
  rw[e1]
  have hx:∀{n:Nat} {Lc:LcI} {p pl pc:Pos} {x0 x1 x2 x3 x4:Option V} {fr:Fr},exX TB (n+3) (.nones 5 Lc p pl pc) (x0::x1::x2::x3::x4::some (.ref (ρ.length+1+(g0.length+1)))::fr) (c'::(ρ++g'))=some (.ok (.bool false) (c'::(ρ++g'))):=fun{_ _ _ _ _ _ _ _ _ _ _}=>(xNones hno n2).trans (by rw[n3];rfl)
  obtain⟨z9,z10,z12,hs⟩:=sum_loop (x0:=some (.ref 0)) (x1:=some (.int deep)) (x2:=some (.lst ((rws ws h t).map .str))) (x3:=y3) (x4:=y4) (x5:=some (.ref (ρ.length+1+(g0.length+1)))) (x6:=y6) (x7:=y7) (x8:=y8) hB (rfs (ρ.length+1) (refs++[r])) (st.1++[st.2]) [] none none none none hl2 rfl
   (fun l hl=>⟨hne l hl,List.all_eq_true.mp hq l hl,Nat.le_trans (hln l hl) h20⟩) (fun u hu=>nomatch hu)
  rw[hvl]at hs
  have hs':=hs (m+(101 - (st.1++[st.2]).length))
  have hsl:(st.1++[st.2]).length≤6:=by rw[List.length_append,List.length_singleton];exact Nat.succ_le_succ (Nat.le_trans hlr2 (Nat.add_le_add_left hd5 1))
  rw[fx2 hsl]at hs'
  have hs'':exL TB (m+142) (fun fr v=>some (fr.set 9 (some v))) sumB (ρ.length+1+(g0.length+1)) 0 [some (.ref 0),some (.int deep),some (.lst ((rws ws h t).map .str)),y3,y4,some (.ref (ρ.length+1+(g0.length+1))),y6,y7,y8,none,none,some .none,none] (c'::(ρ++g'))=some (.nx [some (.ref 0),some (.int deep),some (.lst ((rws ws h t).map .str)),y3,y4,some (.ref (ρ.length+1+(g0.length+1))),y6,y7,y8,z9,z10,some (goR none (fv none h) (tvs fv fl (fl none h) t)),z12] (c'::(ρ++g'))):=hs'
  delta sumB at hs''
  refine(c47 _).trans ?_
  delta bdx47
  wide_open with 2 using [ssFR,ssFL,hdk,hx,tg46,tg40,k1',k2,hk,t5'',hs'',pT234,lB1,lB,aB]
end
end
section
open PySem

theorem flt_refl {v:V}(h:flatB v=true):veq v v=true:=by
 induction v using V.casesOn with
 |none=>rfl
 |int i=>exact decide_eq_true rfl
 |str l=>exact decide_eq_true rfl
 |_=>exact Bool.noConfusion h
theorem veq_refl (n:Nat):∀(v:V),isDataN n v=true→veq v v=true:=by
 induction n with
 |zero=>exact fun v h=>flt_refl h
 |succ n ih =>
  intro v h
  have go:∀{l:List V},l.all (isDataN n)=true→veqL l l=true:=by
   intro l h
   induction l with
   |nil=>rfl
   |cons v l il =>
    obtain⟨a,b⟩:=Bool.and_eq_true_iff.mp h
    exact Bool.and_eq_true_iff.mpr ⟨ih v a,il b⟩
  induction v using V.casesOn with
  |tup l=>exact go h
  |lst l=>exact go h
  |_=>exact flt_refl h
theorem cEV {v:V}(h:isData v=true):cmpV .Eq v v=some true:=by
 show(if isData v&&isData v then some (veq v v)else none)=_
 rw[h,veq_refl 40 v h]
 rfl
theorem flt_n {v:V}(h:flatB v=true):∀n,isDataN n v=true
 |0=>h
 |n+1=>by induction v using V.casesOn with
  |tup l=>exact Bool.noConfusion h
  |lst l=>exact Bool.noConfusion h
  |_=>exact h
theorem dat_s:∀{n:Nat} {v:V},isDataN n v=true→isDataN (n+1) v=true
 |0,v,h=>flt_n h 1
 |n+1,v,h=>by
  induction v using V.casesOn with
  |tup l =>
   have h:l.all (isDataN n)=true:=h
   exact List.all_eq_true.mpr fun x hx=>dat_s (List.all_eq_true.mp h x hx)
  |lst l =>
   have h:l.all (isDataN n)=true:=h
   exact List.all_eq_true.mpr fun x hx=>dat_s (List.all_eq_true.mp h x hx)
  |_=>exact h
theorem dat_m {n m:Nat}{v:V}(h:isDataN n v=true)(hm:n≤m):isDataN m v=true:=by
 obtain⟨d,rfl⟩:∃d,m=n+d:=⟨m - n,by first | exact(Nat.add_sub_cancel' h).symm | omega⟩
 induction d with
 |zero=>exact h
 |succ d ih=>exact dat_s (ih (by omega))
theorem dCo {n:Nat}{v:V}{l:List V}(a:isDataN n v=true)(b:l.all (isDataN n)=true):(v::l).all (isDataN n)=true:=Bool.and_eq_true_iff.mpr ⟨a,b⟩
theorem dTu {n:Nat}{l:List V}(b:l.all (isDataN n)=true):isDataN (n+1) (.tup l)=true:=b
theorem dSt {w:CS}(h:isData (.str w)=true)(n:Nat):isDataN n (.str w)=true:=flt_n (v:=.str w) h n
theorem dRf {w:CS}(h:isData (.str w)=true)(n:Nat):isDataN (n+2) (refV w)=true:=dTu (dCo (dSt dRef _) (dCo (dSt h _) rfl))
theorem dJn {m:Nat}{w:Option V}{b:V}(hw:∀u,w=some u→isDataN m u=true)(hb:isDataN m b=true):isDataN (m+1) (jn w b)=true:=by
 induction w using Option.casesOn with
 |none=>exact dat_s hb
 |some u=>exact dTu (dCo (dSt (by decide) _) (dCo (hw u rfl) (dCo hb rfl)))
theorem dGo:∀{R:List (Bool × V)} {m:Nat} {w:Option V} {b:V},(∀u,w=some u→isDataN m u=true)→isDataN m b=true→(∀q∈R,isDataN m q.2=true)→isDataN (m+R.length+1) (goR w b R)=true
 | [],m,w,b,hw,hb,_=>dJn hw hb
 |(true,v)::R,m,w,b,hw,hb,hR=>by
  have:=dGo (R:=R) (m:=m+1) (w:=some (jn w b)) (b:=v) (fun u hu=>by obtain rfl:=Option.some.inj hu;exact dJn hw hb) (dat_s (hR _ (.head _))) (fun q hq=>dat_s (hR q (.tail _ hq)))
  rw[Nat.add_right_comm m 1]at this
  exact this
 |(false,v)::R,m,w,b,hw,hb,hR=>by
  have:=dGo (R:=R) (m:=m+1) (w:=w) (b:=.tup [.str tAnd,b,v]) (fun u hu=>dat_s (hw u hu)) (dTu (dCo (dSt (by decide) _) (dCo hb (dCo (hR _ (.head _)) rfl)))) (fun q hq=>dat_s (hR q (.tail _ hq)))
  rw[Nat.add_right_comm m 1]at this
  exact this
noncomputable def ld (L:LT):Prop:=∀q,L=some q→isData (.str q.1)=true∧isData (.str q.2)=true
theorem ld0:ld none:=fun _ h=>nomatch h
section
variable {α:Type}{m:Nat}{ws:α→List CS}{fv:LT→α→V}{fl:LT→α→LT}{OK:α→Prop}
noncomputable def DP (m:Nat)(fv:LT→α→V)(fl:LT→α→LT)(OK:α→Prop):Prop:=∀L p,ld L→OK p→isDataN m (fv L p)=true∧ld (fl L p)
theorem dTv (hD:DP m fv fl OK):∀{t:List (Bool × α)} {L:LT},ld L→(∀q∈t,OK q.2)→∀q∈tvs fv fl L t,isDataN m q.2=true
 |(j,p)::t,L,hL,ht,q,hq=>by
  have:=hD L p hL (ht _ (.head _))
  cases hq with
  |head=>exact this.1
  |tail _ hq=>exact dTv hD this.2 (fun q hq=>ht q (.tail _ hq)) q hq
theorem dRow (hD:DP m fv fl OK){h:α}{t:List (Bool × α)}(ho:OK h)(ht:∀q∈t,OK q.2):isDataN (m+t.length+1) (rowV fv fl h t)=true:=by
 have h1:=hD none h ld0 ho
 unfold rowV rV
 split
 ·have:=dGo (R:=tvs fv fl (fl none h) t) (m:=m) (w:=none) (fun u hu=>nomatch hu) h1.1 (dTv hD h1.2 ht)
  rw[tvs_len]at this
  exact this
 ·exact flt_n rfl _
theorem all_t (hW:∀p,OK p→(ws p).all okW=true):∀{t:List (Bool × α)},(∀q∈t,OK q.2)→(tws ws t).all okW=true
 | [],_=>rfl
 |(j,p)::t,ht=>by
  show(okW (jw j)&&(ws p++tws ws t).all okW)=true
  rw[List.all_append,hW p (ht _ (.head _)),all_t hW (fun q hq=>ht q (.tail _ hq))]
  cases j<;>decide
theorem all_r (hW:∀p,OK p→(ws p).all okW=true){h:α}{t:List (Bool × α)}(ho:OK h)(ht:∀q∈t,OK q.2):(rws ws h t).all okW=true:=by
 show(ws h++tws ws t).all okW=true
 rw[List.all_append,hW h ho,all_t hW ht]
 rfl
theorem len_t {M:Nat}(hW:∀p,OK p→(ws p).length≤M):∀{t:List (Bool × α)},(∀q∈t,OK q.2)→(tws ws t).length≤t.length*(M+1)
 | [],_=>Nat.zero_le _
 |(j,p)::t,ht=>by
  have h1:=hW p (ht _ (.head _))
  have h2:=len_t hW (t:=t) (fun q hq=>ht q (.tail _ hq))
  show(ws p++tws ws t).length+1≤(t.length+1)*(M+1)
  rw[List.length_append,Nat.succ_mul]
  exact Nat.le_trans (Nat.succ_le_succ (Nat.add_le_add h1 h2)) (Nat.le_of_eq (by rw[Nat.add_comm M,←Nat.add_succ]))
theorem len_r {M:Nat}(hW:∀p,OK p→(ws p).length≤M){h:α}{t:List (Bool × α)}(ho:OK h)(ht:∀q∈t,OK q.2):(rws ws h t).length≤M+t.length*(M+1):=by
 show(ws h++tws ws t).length≤_
 rw[List.length_append]
 exact Nat.add_le_add (hW h ho) (len_t hW ht)
end
theorem rel_ok:relS.all (fun s=>okW s&&isData (.str s)&&isData (.str (oppS s)))=true:=by decide
theorem relP {s:CS}(h:s∈relS):okW s=true∧isData (.str s)=true∧∀b,isData (.str (tS b s))=true:=by
 have:=List.all_eq_true.mp rel_ok s h
 rw[Bool.and_eq_true,Bool.and_eq_true]at this
 exact⟨this.1.1,this.1.2,fun b=>match b with | false=>this.1.2 | true=>this.2⟩
theorem kws_ok {k:KP}(hk:kOK k):(kws k).all okW=true∧(kws k).length≤5:=by
 have i1:∀is own,(isnt is own).all okW=true∧(isnt is own).length≤2:=fun is own=>by cases is<;>cases own<;>decide
 cases k with
 |cls=>decide
 |fx=>decide
 |opd o=>exact⟨by show(okW o&&true)=true;rw[(nmP (nmDP hk)).2.1];rfl,Nat.le_of_ble_eq_true rfl⟩
 |sg own s o =>
  obtain⟨a,b⟩:=i1 false own
  refine⟨?_,?_⟩
  ·show(isnt false own++[s,o]).all okW=true
   rw[List.all_append,a]
   show(okW s&&(okW o&&true))=true
   rw[(relP hk.1).1,(nmP (nmDP hk.2)).2.1]
   rfl
  ·show(isnt false own++[s,o]).length≤5
   rw[List.length_append]
   exact Nat.le_trans (Nat.add_le_add_right b 2) (by decide)
 |full n is own s o =>
  obtain⟨a,b⟩:=i1 is own
  refine⟨?_,?_⟩
  ·show(okW n&&(isnt is own++[s,o]).all okW)=true
   rw[List.all_append,a,(nmP (nmAP hk.1)).2.1]
   show(okW s&&(okW o&&true))=true
   rw[(relP hk.2.1).1,(nmP (nmDP hk.2.2)).2.1]
   rfl
  ·show(isnt is own++[s,o]).length+1≤5
   rw[List.length_append]
   exact Nat.add_le_add_right b 3
theorem nt_all {b:Bool}{l:List CS}(h:l.all okW=true):(ntW1 b l).all okW=true:=by
 induction b using Bool.casesOn with
 |false=>exact h
 |true=>show(okW wNOT&&l.all okW)=true;rw[h];decide
theorem nt_len {b:Bool}{l:List CS}:(ntW1 b l).length≤l.length+1:=by
 induction b using Bool.casesOn with
 |false=>exact Nat.le_succ _
 |true=>exact Nat.le_refl _
theorem pws_all (p:P0)(h:pOK p):(pws p).all okW=true:=nt_all (kws_ok h.1).1
theorem pws_len (p:P0)(h:pOK p):(pws p).length≤6:=Nat.le_trans nt_len (Nat.succ_le_succ (kws_ok h.1).2)
theorem dNt {b:Bool}{m:Nat}{v:V}(h:isDataN m v=true):isDataN (m+1) (ntV b v)=true:=by
 unfold ntV
 split
 ·exact dTu (dCo (dSt (by decide) _) (dCo h rfl))
 ·exact dat_s h
theorem dKv {L:LT}{k:KP}(hL:ld L)(hk:kOK k):isDataN 3 (kv L k)=true∧ld (kl L k):=by
 have eR:isData (.str tRel)=true:=by decide
 cases k with
 |cls=>exact⟨rfl,ld0⟩
 |fx=>exact⟨rfl,ld0⟩
 |opd o =>
  refine⟨?_,hL⟩
  induction L using Option.casesOn with
  |none=>rfl
  |some q=>exact dTu (dCo (dSt eR _) (dCo (dSt (hL q rfl).2 _) (dCo (dRf (hL q rfl).1 _) (dCo (dRf (nmP (nmDP hk)).2.2.2 _) rfl))))
 |sg own s o =>
  induction L using Option.casesOn with
  |none=>exact⟨rfl,ld0⟩
  |some q =>
   refine⟨dTu (dCo (dSt eR _) (dCo (dSt ((relP hk.1).2.2 own) _) (dCo (dRf (hL q rfl).1 _) (dCo (dRf (nmP (nmDP hk.2)).2.2.2 _) rfl)))),fun q' hq=>?_⟩
   obtain rfl:=Option.some.inj hq
   exact⟨(hL q rfl).1,(relP hk.1).2.2 own⟩
 |full n is own s o =>
  refine⟨dTu (dCo (dSt eR _) (dCo (dSt ((relP hk.2.1).2.2 own) _) (dCo (dRf (nmP (nmAP hk.1)).2.2.2 _) (dCo (dRf (nmP (nmDP hk.2.2)).2.2.2 _) rfl)))),fun q' hq=>?_⟩
  obtain rfl:=Option.some.inj hq
  exact⟨(nmP (nmAP hk.1)).2.2.2,(relP hk.2.1).2.2 own⟩
theorem dP0:DP 4 pfv pfl pOK:=fun L p hL hp=>⟨dNt (dKv hL hp.1).1,(dKv hL hp.1).2⟩
theorem lpt0:LPt 0 6 80 pws pfv pfl pOK:=by
 intro N c L ρ hp hN
 obtain⟨d,c1,d1,d2,hp1,k1⟩:=draw_s hp (nl (j:=0) hN (by decide)) (m:=6) (by decide) (by decide) ρ
 obtain⟨p,c',h1,h2,h3⟩:=part_k mX0 hN L ρ d1 (by omega) (by omega) k1 hp1
 exact⟨p,c',[],h1,h2,fun n=>by rw[List.append_nil];exact h3 n⟩
theorem row0 {N:Nat}{c:Cell}(ρ:List Cell)(hp:Pen N c)(hN:N+42≤500):∃h t c' g,pOK h∧(∀q∈t,pOK q.2)∧t.length≤2∧Pen (N+42) c'∧∀n,callV TB (n+150) (.base 47) [.ref 0,.int (1 - 1)] (c::ρ)=some (.ok (.tup [.lst ((rws pws h t).map .str),rowV pfv pfl h t]) (c'::(ρ++g))):=by
 obtain⟨h,t,c',g,h1,h2,h3,h4,h5⟩:=row_law lpt0 pws_len (Nat.le_refl _) mT0 (by decide) (by decide) (by decide) ρ hp (by omega)
 exact⟨h,t,c',g,h1,h2,by omega,h4,h5⟩
theorem qws_all (p:P1)(h:qOK p):(qws p).all okW=true:=by
 cases p with
 |one p=>exact pws_all p h
 |br nt a t =>
  refine nt_all ?_
  show(okW [40]&&(rws pws a t++[[41]]).all okW)=true
  rw[List.all_append,all_r pws_all h.1 h.2.1]
  decide
theorem qws_len (p:P1)(h:qOK p):(qws p).length≤23:=by
 cases p with
 |one p=>exact Nat.le_trans (pws_len p h) (by decide)
 |br nt a t =>
  have h1:=len_r pws_len h.1 h.2.1
  have h2:t.length*(6+1)≤2*7:=Nat.mul_le_mul h.2.2 (Nat.le_refl _)
  refine Nat.le_trans nt_len ?_
  show(rws pws a t++[[41]]).length+1+1≤23
  rw[List.length_append,List.length_singleton]
  exact Nat.succ_le_succ (Nat.succ_le_succ (Nat.succ_le_succ (Nat.le_trans h1 (Nat.add_le_add_left h2 6))))
theorem dP1:DP 8 qfv qfl qOK:=fun L p hL hp=>by
 cases p with
 |one p=>exact⟨dat_m (dP0 L p hL hp).1 (by decide),(dP0 L p hL hp).2⟩
 |br nt h t =>
  have h1:=dat_m (m:=7) (dRow dP0 hp.1 hp.2.1) (by have:=hp.2.2;first | exact Nat.add_le_add_left this 5 | exact Nat.le_trans (Nat.add_le_add_left this _) (by decide)| omega)
  refine⟨dNt (m:=7) ?_,?_⟩
  ·cases q:lone h t with
   |some o =>
    obtain⟨rfl,rfl⟩:=lone_s q
    exact dat_m (dKv (k:=.opd o) hL hp.1.1).1 (by decide)
   |none=>unfold bv;rw[q];exact h1
  ·show ld (bl L h t)
   unfold bl
   cases q:lone h t with
   |some o=>exact hL
   |none=>exact ld0
section
variable {m e:Int}{l x y v:V}{c c1 c2 c3:Cell}{ρ g:List Cell}{w o s:CS}{W:List V}
theorem bLenL {s:Sg}{L:List V}(h:L.length≤900):bifV s 0 [.lst L]=some (.int L.length):=if_pos (sml_of (tk h))
theorem sLs0 {s:Sg}{v:V}{r:List V}:subV s (.lst (v::r)) (.int 0)=some v:=rfl
theorem way_br (hm:mX 1 m)(k1:Dr m 6 c c1 ρ)(k2:Dr 3 e c1 c2 ρ)(kI:∀n,callV TB (n+150) (.base 47) [.ref 0,.int (1 - 1)] (c2::ρ)=some (.ok (.tup [.lst W,v]) (c3::(ρ++g))))(hW:W.length≤800)
  (ht:¬(W.length:Int)=1∨((W.length:Int)=1∧cmpV .NotEq (.lst W) (.lst [.str wFX])=some false)) (n:Nat):callV TB (n+180) (.base 46) [.ref 0,l,.int 1] (c::ρ)=
  some (.ok (.tup [.lst (nW (decide (e=1)) (([.str [40]]++W)++[.str [41]])),ntV (decide (e=1)) v,.none]) (c3::(ρ++g))):=by
 have q3:cmpV .Eq (.int 6) (.int 3)=some false:=cEi0 (by decide)
 have q4:cmpV .Eq (.int 6) (.int 4)=some false:=cEi0 (by decide)
 have hl1:[V.str [40]].length+W.length≤1000:=Nat.le_trans (Nat.add_le_add_left hW 1) (by decide)
 have hl2:([V.str [40]]++W).length+[V.str [41]].length≤1000:=by rw[List.length_append,List.length_singleton,List.length_singleton,Nat.add_right_comm];exact Nat.le_trans (Nat.add_le_add_left hW 2) (by decide)
 have hl3:(([V.str [40]]++W)++[V.str [41]]).length≤900:=by rw[List.length_append,List.length_append,List.length_singleton,List.length_singleton,Nat.add_right_comm];exact Nat.le_trans (Nat.add_le_add_left hW 2) (by decide)
 have hWl:W.length≤900:=Nat.le_trans hW (by decide)
 refine(c46 _).trans ?_
 delta bdx46
 rcases ht with ht | ⟨ht,ht2⟩
 ·wide_open with 2 using [fin hl3,q3,q4,cEi1 rfl,cEi0 ht,tg40,tg47,hm,k1,k2,kI,pT34,pT76,bLL (sml_of hl1),bLL (sml_of hl2),bLenL hWl,cEI,bsF]
 ·wide_open with 2 using [fin hl3,q3,q4,cEi1 rfl,cEi1 ht,ht2,tg40,tg47,hm,k1,k2,kI,pT34,pT76,bLL (sml_of hl1),bLL (sml_of hl2),bLenL hWl,cEI]
theorem lone_ne {o:CS}(h1:isData (.str o)=true)(h2:decide (o=wFX)=false):cmpV .NotEq (.lst [.str o]) (.lst [.str wFX])=some true:=by
 have h3:isData (.lst [.str o])=true:=by show(isDataN 39 (.str o)&&true)=true;rw[dSt h1];rfl
 show(if isData (.lst [.str o])&&isData (.lst [.str wFX])then some (!veq (.lst [.str o]) (.lst [.str wFX]))else none)=_
 rw[h3]
 show some (!(decide (o=wFX)&&true))=_
 rw[h2]
 rfl
theorem way_lone_n (hm:mX 1 m)(k1:Dr m 6 c c1 ρ)(k2:Dr 3 e c1 c2 ρ)(kI:∀n,callV TB (n+150) (.base 47) [.ref 0,.int (1 - 1)] (c2::ρ)=some (.ok (.tup [.lst [.str o],v]) (c3::(ρ++g))))
  (ht:cmpV .NotEq (.lst [.str o]) (.lst [.str wFX])=some true) (n:Nat):callV TB (n+180) (.base 46) [.ref 0,.none,.int 1] (c::ρ)=
  some (.ok (.tup [.lst (nW (decide (e=1)) (([.str [40]]++[.str o])++[.str [41]])),ntV (decide (e=1)) .none,.none]) (c3::(ρ++g))):=by
 have q3:cmpV .Eq (.int 6) (.int 3)=some false:=cEi0 (by decide)
 have q4:cmpV .Eq (.int 6) (.int 4)=some false:=cEi0 (by decide)
 have q1:cmpV .Eq (.int (([V.str o].length:Nat):Int)) (.int 1)=some true:=cEi1 rfl
 have hl1:[V.str [40]].length+[V.str o].length≤1000:=Nat.le_of_ble_eq_true rfl
 have hl2:([V.str [40]]++[V.str o]).length+[V.str [41]].length≤1000:=Nat.le_of_ble_eq_true rfl
 have hl3:(([V.str [40]]++[V.str o])++[V.str [41]]).length≤900:=Nat.le_of_ble_eq_true rfl
 have hWl:[V.str o].length≤900:=Nat.le_of_ble_eq_true rfl
 refine(c46 _).trans ?_
 delta bdx46
 wide_open with 2 using [fin hl3,q3,q4,q1,cEi1 rfl,ht,tg40,tg47,tg43,ref_s,hm,k1,k2,kI,pT34,pT76,bLL (sml_of hl1),bLL (sml_of hl2),bLenL hWl,sLs0,cEI]
theorem way_lone_s (hm:mX 1 m)(k1:Dr m 6 c c1 ρ)(k2:Dr 3 e c1 c2 ρ)(kI:∀n,callV TB (n+150) (.base 47) [.ref 0,.int (1 - 1)] (c2::ρ)=some (.ok (.tup [.lst [.str o],v]) (c3::(ρ++g))))
  (ht:cmpV .NotEq (.lst [.str o]) (.lst [.str wFX])=some true) (n:Nat):callV TB (n+180) (.base 46) [.ref 0,.tup [x,y],.int 1] (c::ρ)=
  some (.ok (.tup [.lst (nW (decide (e=1)) (([.str [40]]++[.str o])++[.str [41]])),ntV (decide (e=1)) (.tup [.str tRel,y,x,refV o]),.tup [x,y]]) (c3::(ρ++g))):=by
 have q3:cmpV .Eq (.int 6) (.int 3)=some false:=cEi0 (by decide)
 have q4:cmpV .Eq (.int 6) (.int 4)=some false:=cEi0 (by decide)
 have q1:cmpV .Eq (.int (([V.str o].length:Nat):Int)) (.int 1)=some true:=cEi1 rfl
 have hl1:[V.str [40]].length+[V.str o].length≤1000:=Nat.le_of_ble_eq_true rfl
 have hl2:([V.str [40]]++[V.str o]).length+[V.str [41]].length≤1000:=Nat.le_of_ble_eq_true rfl
 have hl3:(([V.str [40]]++[V.str o])++[V.str [41]]).length≤900:=Nat.le_of_ble_eq_true rfl
 have hWl:[V.str o].length≤900:=Nat.le_of_ble_eq_true rfl
 refine(c46 _).trans ?_
 delta bdx46
 wide_open with 2 using [fin hl3,q3,q4,q1,cEi1 rfl,ht,tg40,tg47,tg43,ref_s,hm,k1,k2,kI,pT34,pT76,bLL (sml_of hl1),bLL (sml_of hl2),bLenL hWl,sLs0,sT0,sT1,cITu,cEI]
end
end
section
open PySem

theorem ow {a p q:Nat}(h:a=p+q)(hp:2≤p):a≠1:=h▸Nat.ne_of_gt (Nat.le_trans hp (Nat.le_add_right _ _))
theorem ow2 {a p q:Nat}(h:a=p+q)(hp:1≤p)(hq:1≤q):a≠1:=h▸Nat.ne_of_gt (Nat.add_le_add hp hq)
theorem one_word {h:P0}{t:List (Bool × P0)}(hl:lone h t=none):(rws pws h t).length≠1∨rws pws h t=[wFX]:=by
 have h2:(rws pws h t).length=(pws h).length+(tws pws t).length:=List.length_append
 have h3:t≠[]→1≤(tws pws t).length:=fun q=>by
  match t,q with
  |(j,p)::t,_=>exact Nat.succ_le_succ (Nat.zero_le _)
 obtain⟨nt,k⟩:=h
 have h5:1≤(kws k).length:=by
  cases k with
  |sg own s o=>cases own<;>exact Nat.le_of_ble_eq_true rfl
  |_=>exact Nat.succ_le_succ (Nat.zero_le _)
 induction nt using Bool.casesOn with
 |true=>exact .inl (ow h2 (Nat.succ_le_succ h5))
 |false =>
  cases k with
  |cls=>exact .inl (ow h2 (by decide))
  |fx =>
   induction t using List.casesOn with
   |nil=>exact .inr rfl
   |cons q t=>exact .inl (ow2 h2 h5 (h3 (List.cons_ne_nil _ _)))
  |opd o =>
   induction t using List.casesOn with
   |nil=>cases hl
   |cons q t=>exact .inl (ow2 h2 h5 (h3 (List.cons_ne_nil _ _)))
  |sg own s o=>exact .inl (ow h2 (by cases own<;>exact Nat.le_of_ble_eq_true rfl))
  |full n is own s o=>exact .inl (ow h2 (Nat.succ_le_succ (by cases is<;>cases own<;>exact Nat.le_of_ble_eq_true rfl)))
theorem fx_ne:cmpV .NotEq (.lst [.str wFX]) (.lst [.str wFX])=some false:=by
 show(if isData (.lst [.str wFX])&&isData (.lst [.str wFX])then some (!veq (.lst [.str wFX]) (.lst [.str wFX]))else none)=_
 rw[show isData (.lst [.str wFX])=true from rfl,veq_refl 40 (.lst [.str wFX]) rfl]
 rfl
theorem br_map {nt:Bool}{h:P0}{t:List (Bool × P0)}:(qws (.br nt h t)).map V.str=nW nt (([.str [40]]++(rws pws h t).map .str)++[.str [41]]):=nW_map.trans (congrArg (nW nt) (by
 show V.str [40]::(rws pws h t++[[41]]).map V.str=_
 rw[List.map_append]
 rfl))
theorem lpt1:LPt 1 44 180 qws qfv qfl qOK:=by
 intro N c L ρ hp hN
 obtain⟨d,c1,d1,d2,hp1,k1⟩:=draw_s hp (nl (j:=0) hN (by decide)) (m:=7) (by decide) (by decide) ρ
 by_cases q6:d=6
 ·subst q6
  obtain⟨e,c2,e1,e2,hp2,k2⟩:=draw_s hp1 (nl (j:=1) hN (by decide)) (m:=3) (by decide) (by decide) ρ
  obtain⟨h,t,c3,g,ho,ht,hl,hp3,kI⟩:=row0 ρ hp2 (show N+2+42≤500 from hN)
  refine⟨.br (decide (e=1)) h t,c3,g,⟨ho,ht,hl⟩,hp3.mono (show N+2+42≤N+44 from Nat.le_refl _),?_⟩
  rw[br_map]
  cases q:lone h t with
  |some o =>
   obtain⟨rfl,rfl⟩:=lone_s q
   obtain⟨n1,n2,n3,n4⟩:=nmP (nmDP (show o∈nmD from ho.1))
   have hne:=lone_ne n4 (nmAF (List.mem_append_right _ ho.1))
   induction L using Option.casesOn with
   |none=>exact way_lone_n mX1 k1 k2 kI hne
   |some q=>exact way_lone_s mX1 k1 k2 kI hne
  |none =>
   have hW:=len_r pws_len ho ht
   have hm:t.length*(6+1)≤2*7:=Nat.mul_le_mul hl (Nat.le_refl _)
   rw[show qfv L (.br (decide (e=1)) h t)=ntV (decide (e=1)) (rowV pfv pfl h t)by show ntV _ (bv L h t)=_;unfold bv;rw[q],
    show lv (qfl L (.br (decide (e=1)) h t))=.none by show lv (bl L h t)=_;unfold bl;rw[q];rfl]
   refine way_br mX1 k1 k2 kI (by rw[List.length_map];exact Nat.le_trans hW (Nat.le_trans (Nat.add_le_add_left hm 6) (by decide))) ?_
   rcases one_word q with h1 | h1
   ·left;rw[List.length_map];omega
   ·right;rw[h1];exact⟨rfl,fx_ne⟩
 ·obtain⟨p,c',h1,h2,h3⟩:=part_k mX1 (nl hN (by decide)) L ρ d1 d2 q6 k1 hp1
  refine⟨.one p,c',[],h1,h2.mono (Nat.add_le_add_left (by decide) N),fun n=>?_⟩
  rw[List.append_nil]
  exact h3 (n+100)
theorem hNm {s:Sg}{e:Nat}{ps:List Pos}{x0 x1 x2 x3 x4 x5 x6 x7:Option V}(he:Qout e s):tryH 0 7 (.nm 6 7 ps) e [x0,x1,x2,x3,x4,x5,x6,x7] s=some (.nx [x0,x1,x2,x3,x4,x5,some (.ref e),none] s):=by
 unfold tryH
 rw[show excK s[e]?=some 0 from he,Option.bind_some]
 exact(if_pos ⟨rfl,rfl⟩).trans rfl
theorem ssYA {n:Nat}{fr:Fr}{s s1:Sg}{x:X}{l:List S}{hh:Hn}{g i e j:Nat}{pg ph p p1 p2:Pos}{o o':RS}(h:exX TB n x fr s=some (.ex e s1))(hc:tryH g i hh e fr s1=some o)(h2:sq o (exSs TB (n+3) l)=some o'):exSs TB (n+4) (.try1 [.asN j p1 x p2] g pg i hh ph p::l) fr s=some o':=ssYT (ssAE h) hc h2
theorem cap2 {fr:Fr}:caps fr (TB.lamc 2)=some []:=rfl
theorem pT456 {x0 x1 x2 x3 y0 y1 y2:Option V}{fr:Fr}{p1 p2 p3:Pos}{u v w:V}:putT (x0::x1::x2::x3::y0::y1::y2::fr) [(4,p1),(5,p2),(6,p3)] [u,v,w]=some (x0::x1::x2::x3::some u::some v::some w::fr):=rfl
noncomputable abbrev nm0:V:=.dct [] []
theorem law_n {l:List Int}(hl:l.length≤63):∃σ,∀n,callV TB (n+480) (.base 90) [.lst (l.map .int)] []=some (.ok (.bool true) σ):=by
 obtain⟨c0,hp0,k0⟩:=pen_s hl
 obtain⟨h,t,c1,g,ho,ht,htl,hp1,k1⟩:=row_law lpt1 qws_len (by decide) mT1 (by decide) (by decide) (by decide) [] hp0 (by decide)
 rw[List.nil_append]at k1
 have k1:∀n,callV TB (n+250) (.base 47) [.ref 0,.int 1] [c0]=some (.ok (.tup [.lst ((rws qws h t).map .str),rowV qfv qfl h t]) (c1::g)):=k1
 have ht4:t.length≤4:=Nat.le_of_lt_succ (Int.ofNat_lt.mp htl)
 have hdd:isData (rowV qfv qfl h t)=true:=dat_m (m:=40) (dRow dP1 ho ht) (Nat.succ_le_succ (Nat.le_trans (Nat.add_le_add_left ht4 8) (by decide)))
 have hall:=all_r qws_all ho ht
 have hlen:(rws qws h t).length≤119:=by
  have h1:=len_r qws_len ho ht
  exact Nat.le_trans h1 (Nat.add_le_add_left (Nat.mul_le_mul ht4 (Nat.le_refl 24)) 23)
 have hk:(rws qws h t++[wTHEN]).all okW=true:=by rw[List.all_append,hall];decide
 have hl2:(rws qws h t++[wTHEN]).length≤180:=by rw[List.length_append,List.length_singleton];exact Nat.le_trans (Nat.succ_le_succ hlen) (by decide)
 have hs:=tsOk_map hk hl2
 have hr:=fun n=>reader_s (π:=c1::g) hk hl2 n
 have hwin:Win ((rws qws h t++[wTHEN]).map tokOf) 0 (rws qws h t):=win_map (P:=[]) (ws:=rws qws h t) (Q:=[wTHEN])
 have hat:atW ((rws qws h t++[wTHEN]).map tokOf) (0+(rws qws h t).length)=(some wTHEN).map tokOf:=at_behind (P:=[]) (ws:=rws qws h t) (Q:=[wTHEN])
 have hne:(rws qws h t++[wTHEN]).map tokOf≠[]:=by simp
 rw[List.map_append]at hr
 generalize (rws qws h t++[wTHEN]).map tokOf=ts at *
 have hwd:wdH ts (0+(rws qws h t).length)=wTHEN:=(wdH_behind hat).trans rfl
 have hrow:=(row_s (π:=c1::g) (nm:=nm0) (isn:=isF) (dep:=0) (γ1:=[]) (γ:=[]) (Q:=Qout) hs (K:=384) (by decide) (h:=h) (t:=t) (Nat.le_succ_of_le ht4) (q_s hs hne ho) (fun q hq=>q_s hs hne (ht q hq)) (Int.le_refl 0) hwin ⟨wTHEN,by decide,hat⟩ (by rw[hwd];decide) (by rw[hwd];decide)).mono (K':=430) (by decide) (fun _ _ q=>q)
 have hb1:((rws qws h t).map V.str).length+[V.str wTHEN].length≤1000:=by rw[List.length_map,List.length_singleton];exact Nat.le_trans (Nat.succ_le_succ hlen) (by decide)
 have hb2:((rws qws h t).map V.str).length≤900:=by rw[List.length_map];exact Nat.le_trans hlen (by decide)
 have hr':∀n,callV TB (n+250) (.base 42) [.lst ((rws qws h t).map V.str++[.str wTHEN])] (c1::g)=some (.ok (.ref (rI (c1::g) ts)) (enc (c1::g) ts 0 nm0 [])):=hr
 have heq:(0:Int)+((rws qws h t).length:Int)=(((rws qws h t).map V.str).length:Int):=by rw[List.length_map,Int.zero_add]
 generalize (rws qws h t).map V.str=W at *
 generalize rowV qfv qfl h t=due at *
 cases hrow with
 |ok e1 e2 e3 =>
  rename_i last' γ'
  unfold OKc at e3
  have hc:=fun n=>read_cond (a:=0) (γ:=[]) rfl e3 n
  refine⟨enc (c1::g) ts (0+((rws qws h t).length:Int)) nm0 ([]++crC (c1::g) ts isF 0 last'::γ'),fun n=>(c90 _).trans ?_⟩
  delta bdx90
  wide_open with 2 using [tg41,tg42,tg47,tg37,k0,k1,hr',hc,cap2,pT23,pT456,ssYn,cIsF e1,cEV hdd,aR1,cEi1 heq,bLL (sml_of hb1),bLenL hb2]
 |ex e1 e2 e3 =>
  rename_i jx σ
  obtain rfl:=isNone_e e1
  unfold EXc at e3
  have hc:=fun n=>read_cond (a:=0) (γ:=[]) rfl e3 n
  refine⟨σ,fun n=>(c90 _).trans ?_⟩
  delta bdx90
  wide_open with 2 using [tg41,tg42,tg47,tg37,k0,k1,hr',hc,cap2,pT23,pT456,ssYA,hNm e2,bLL (sml_of hb1)]
theorem law01 {l:List Int}(hl:l.length≤63):∃σ,callV TB 480 (.base 90) [.lst (l.map .int)] []=some (.ok (.bool true) σ):=by
 obtain⟨σ,h⟩:=law_n hl
 exact⟨σ,h 0⟩
end
end Mine.Pu
end
section

section
set_option tactic.hygienic false
namespace Mine
open PySem PySem.W PySem.Spec PySem.Calls PyProof.Rows PyProof.V

noncomputable def sS (l:CS):Str:=⟨l.toArray⟩
theorem sS_toList (s:Str):sS s.cps.toList=s:=by cases s;simp[sS]
theorem toList_sS (l:CS):(sS l).cps.toList=l:=by simp[sS]

structure LamI where
 qual:Str
 params:Arguments
 body:Expr
 scope:Scope
 pos:Pos
 owner:Scope
 tab:Addr × Addr

structure Cx where
 prog:Program
 w:World
 K:Frag
 B:Heap
 mg:Str→Option Value
 mb:Str→Option Value
 an:Nat→Str
 gn:Nat→Str
 T:Tabs
 fnA:Nat→Option Addr
 tabs:List (Addr × Addr)
 lamI:Nat→Option LamI

noncomputable abbrev tupObj (xs:Array Value)(n:Nat):Obj:={ cls:=.type "tuple",data:=.seq xs n }
noncomputable def flatD:V→Option PyData
 | .int i=>some (.int i)
 | .str l=>some (.str (sS l))
 |_=>none

inductive DRep:List CS→List V→List (PyData × PyData)→Prop where
 |nil:DRep [] [] []
 |cons {k ks v vs d ds}:flatD v=some d→DRep ks vs ds→DRep (k::ks) (v::vs) ((.str (sS k),d)::ds)
mutual
inductive VRep (c:Cx)(h:Heap)(μ:Addr→Prop)(ρ:List (Addr × Addr)):V→Value→Prop where
 |none:VRep c h μ ρ .none .none
 |bool (b):VRep c h μ ρ (.bool b) (.bool b)
 |int (i t):VRep c h μ ρ (.int i) (.int i t)
 |str (l t):VRep c h μ ρ (.str l) (.str (sS l) t)
 |tup {l xs a n}:h.get? a=some (tupObj xs n)→¬μ a→VReps c h μ ρ l xs.toList→VRep c h μ ρ (.tup l) (.ref a)
 |lst {l xs a n}:h.get? a=some (listOf xs n)→¬μ a→VReps c h μ ρ l xs.toList→VRep c h μ ρ (.lst l) (.ref a)
 |dct {ks vs a o kvs ds}:h.get? a=some o→o.IsDictOf (PySem.strKind c.prog c.w) kvs→FlatPairs .str kvs ds→(a==sysModules)=false→¬μ a →
   DRep ks vs ds→VRep c h μ ρ (.dct ks vs) (.ref a)
 |rcd {C C' fs x dx es n}:C<4→c.fnA C=some C'→h.get? x=some (instObj C' dx)→h.get? dx=some (dictOf es n)→¬μ x→¬μ dx→FRep c h μ ρ fs es→VRep c h μ ρ (.rcd C fs) (.ref x)
 |ref {i x d}:ρ[i]?=some (x,d)→VRep c h μ ρ (.ref i) (.ref x)
 |base {g a}:c.fnA g=some a→VRep c h μ ρ (.base g) (.ref a)
 |clo {k vs I f c' ctv pm cl oc ov tq}:c.lamI k=some I→h.get? f=some (kla_obj "<lambda>" I.qual I.params I.body I.scope cl pm c' ctv)→¬μ f →
   h.get? c'=some oc→oc.data=.fields ov→ov[1]?=some (.str I.qual tq)→¬μ c'→CRep c h μ ρ I.scope.names cl vs→VRep c h μ ρ (.clo k vs) (.ref f)
inductive VReps (c:Cx)(h:Heap)(μ:Addr→Prop)(ρ:List (Addr × Addr)):List V→List Value→Prop where
 |nil:VReps c h μ ρ [] []
 |cons {v x vs xs}:VRep c h μ ρ v x→VReps c h μ ρ vs xs→VReps c h μ ρ (v::vs) (x::xs)
inductive FRep (c:Cx)(h:Heap)(μ:Addr→Prop)(ρ:List (Addr × Addr)):List (Nat × V)→List DictEntry→Prop where
 |nil:FRep c h μ ρ [] []
 |cons {f v fs e es t}:f<40→e.key=.str (c.an f) t→VRep c h μ ρ v e.val→FRep c h μ ρ fs es→FRep c h μ ρ ((f,v)::fs) (e::es)
inductive CRep (c:Cx)(h:Heap)(μ:Addr→Prop)(ρ:List (Addr × Addr)):List (Str × NameKind)→List (Str × Addr)→List V→Prop where
 |nil {cl}:CRep c h μ ρ [] cl []
 |skip {y k ns cl vs}:k≠.free→CRep c h μ ρ ns cl vs→CRep c h μ ρ ((y,k)::ns) cl vs
 |cons {y ns cl ca o x v vs}:cl.lookup y=some ca→h.get? ca=some o→o.data=.cell (some x)→¬μ ca→VRep c h μ ρ v x→CRep c h μ ρ ns cl vs→CRep c h μ ρ ((y,.free)::ns) cl (v::vs)
end

noncomputable def isIter (o:Obj):Bool:=match o.cls,o.data with
 | .type n,.fields vs=>(n == "list_iterator" || n == "enumerate" || n == "range_iterator")&&(match (vs[1]?:Option Value)with | some (.str _ _)=>false | _=>true)
 |_,_=>false
theorem isIter_cls {o:Obj}{C:Addr}(h:o.cls=.ref C):isIter o=false:=by unfold isIter;rw[h]
theorem isIter_tb {o:Obj}{vs:Array Value}(h:o.cls=.type "traceback")(hd:o.data=.fields vs):isIter o=false:=by
 unfold isIter;rw[h,hd]
 exact congrArg (· && _) (show((("traceback" : String)== "list_iterator")||(("traceback" : String)== "enumerate")||(("traceback" : String)== "range_iterator"))=false by decide)
theorem isIter_dict {o:Obj}{es ep}(h:o.data=.dict es ep):isIter o=false:=by unfold isIter;rw[h];split<;>first | rfl | (rename_i q;cases q)
theorem isIter_cell {o:Obj}{x}(h:o.data=.cell x):isIter o=false:=by unfold isIter;rw[h];split<;>first | rfl | (rename_i q;cases q)
set_option tactic.hygienic true in theorem isIter_code {o:Obj}{vs:Array Value}{q:Str}{t:Tok}(h:o.data=.fields vs)(h1:vs[1]?=some (.str q t)):isIter o=false:=by
 unfold isIter
 rw[h]
 split
 ·rename_i vs' _ e
  cases e
  rw[h1,Bool.and_false]
 ·rfl
noncomputable def Grow (h:Heap)(μ:Addr→Prop)(h':Heap)(μ':Addr→Prop):Prop:=∀a o,h.get? a=some o→¬μ a→h'.get? a=some o∧¬μ' a
theorem Grow.refl (h:Heap)(μ:Addr→Prop):Grow h μ h μ:=fun _ _ e n=>⟨e,n⟩
theorem Grow.trans {h₁ h₂ h₃:Heap}{μ₁ μ₂ μ₃:Addr→Prop}(x:Grow h₁ μ₁ h₂ μ₂)(y:Grow h₂ μ₂ h₃ μ₃):Grow h₁ μ₁ h₃ μ₃:=fun a o e n =>
 let ⟨e₁,n₁⟩:=x a o e n;y a o e₁ n₁

theorem pre_get {α:Type}{l l':List α}{i:Nat}{x:α}(r:l <+: l')(e:l[i]?=some x):l'[i]?=some x:=by
 obtain⟨t,rfl⟩:=r
 rw[List.getElem?_append_left (List.getElem?_eq_some_iff.mp e).1];exact e
section
variable {c:Cx}{h h':Heap}{μ μ':Addr→Prop}{ρ ρ':List (Addr × Addr)}
theorem isIter_dOf {o:Obj}{kvs:List (Str × Value)}(a:Obj.IsDictOf (PySem.strKind c.prog c.w) o kvs):isIter o=false:=by
 obtain⟨_,_,_,q,_⟩:=a
 exact isIter_dict q
theorem VRep.map (g:∀a o,isIter o=false→h.get? a=some o→¬μ a→h'.get? a=some o∧¬μ' a)(r:ρ <+: ρ'){v x}(H:VRep c h μ ρ v x):VRep c h' μ' ρ' v x:=VRep.rec (motive_1:=fun v x _=>VRep c h' μ' ρ' v x) (motive_2:=fun v x _=>VReps c h' μ' ρ' v x) (motive_3:=fun v x _=>FRep c h' μ' ρ' v x) (motive_4:=fun n v x _=>CRep c h' μ' ρ' n v x)
 .none .bool .int .str (fun e n _ v=>.tup (g _ _ rfl e n).1 (g _ _ rfl e n).2 v) (fun e n _ v=>.lst (g _ _ rfl e n).1 (g _ _ rfl e n).2 v) (fun e a b d n x=>.dct (g _ _ (isIter_dOf a) e n).1 a b d (g _ _ (isIter_dOf a) e n).2 x)
 (fun z a e1 e2 n1 n2 _ f=>.rcd z a (g _ _ rfl e1 n1).1 (g _ _ rfl e2 n2).1 (g _ _ rfl e1 n1).2 (g _ _ rfl e2 n2).2 f) (fun{_ _ d} e=>.ref (d:=d) (pre_get r e)) .base
 (fun l e1 n1 e2 a b n2 _ cr=>.clo l (g _ _ rfl e1 n1).1 (g _ _ rfl e1 n1).2 (g _ _ (isIter_code a b) e2 n2).1 a b (g _ _ (isIter_code a b) e2 n2).2 cr) .nil (fun _ _ a b=>.cons a b) .nil (fun k e _ _ a b=>.cons k e a b) .nil (fun k _ b=>.skip k b)
 (fun l e a n _ _ b d=>.cons l (g _ _ (isIter_cell a) e n).1 a (g _ _ (isIter_cell a) e n).2 b d) H
theorem VReps.ind {P:List V→List Value→Prop}(nil:P [] [])(cons:∀{v x vs xs},VRep c h μ ρ v x→VReps c h μ ρ vs xs→P vs xs→P (v::vs) (x::xs)){l xs}(H:VReps c h μ ρ l xs):P l xs :=
 VReps.rec (motive_1:=fun _ _ _=>True) (motive_2:=fun l xs _=>P l xs) (motive_3:=fun _ _ _=>True) (motive_4:=fun _ _ _ _=>True) trivial (fun _=>trivial) (fun _ _=>trivial) (fun _ _=>trivial) (fun _ _ _ _=>trivial) (fun _ _ _ _=>trivial)
  (fun _ _ _ _ _ _=>trivial) (fun _ _ _ _ _ _ _ _=>trivial) (fun _=>trivial) (fun _=>trivial) (fun _ _ _ _ _ _ _ _ _=>trivial) nil (fun a b _ ih=>cons a b ih) trivial (fun _ _ _ _ _ _=>trivial) trivial (fun _ _ _=>trivial) (fun _ _ _ _ _ _ _ _=>trivial) H
theorem FRep.ind {P:List (Nat × V)→List DictEntry→Prop}(nil:P [] [])(cons:∀{f v fs e es t},f<40→e.key=.str (c.an f) t→VRep c h μ ρ v e.val→FRep c h μ ρ fs es→P fs es→P ((f,v)::fs) (e::es)){l xs}(H:FRep c h μ ρ l xs):P l xs :=
 FRep.rec (motive_1:=fun _ _ _=>True) (motive_2:=fun _ _ _=>True) (motive_3:=fun l xs _=>P l xs) (motive_4:=fun _ _ _ _=>True) trivial (fun _=>trivial) (fun _ _=>trivial) (fun _ _=>trivial) (fun _ _ _ _=>trivial) (fun _ _ _ _=>trivial)
  (fun _ _ _ _ _ _=>trivial) (fun _ _ _ _ _ _ _ _=>trivial) (fun _=>trivial) (fun _=>trivial) (fun _ _ _ _ _ _ _ _ _=>trivial) trivial (fun _ _ _ _=>trivial) nil (fun a b d e _ ih=>cons a b d e ih) trivial (fun _ _ _=>trivial) (fun _ _ _ _ _ _ _ _=>trivial) H
theorem VRep.mono (g:Grow h μ h' μ')(r:ρ <+: ρ'){v x}(H:VRep c h μ ρ v x):VRep c h' μ' ρ' v x:=H.map (fun a o _=>g a o) r
theorem VReps.map (g:∀a o,isIter o=false→h.get? a=some o→¬μ a→h'.get? a=some o∧¬μ' a)(r:ρ <+: ρ'){v x}(H:VReps c h μ ρ v x):VReps c h' μ' ρ' v x:=VReps.rec (motive_1:=fun v x _=>VRep c h' μ' ρ' v x) (motive_2:=fun v x _=>VReps c h' μ' ρ' v x) (motive_3:=fun v x _=>FRep c h' μ' ρ' v x) (motive_4:=fun n v x _=>CRep c h' μ' ρ' n v x)
 .none .bool .int .str (fun e n _ v=>.tup (g _ _ rfl e n).1 (g _ _ rfl e n).2 v) (fun e n _ v=>.lst (g _ _ rfl e n).1 (g _ _ rfl e n).2 v) (fun e a b d n x=>.dct (g _ _ (isIter_dOf a) e n).1 a b d (g _ _ (isIter_dOf a) e n).2 x)
 (fun z a e1 e2 n1 n2 _ f=>.rcd z a (g _ _ rfl e1 n1).1 (g _ _ rfl e2 n2).1 (g _ _ rfl e1 n1).2 (g _ _ rfl e2 n2).2 f) (fun{_ _ d} e=>.ref (d:=d) (pre_get r e)) .base
 (fun l e1 n1 e2 a b n2 _ cr=>.clo l (g _ _ rfl e1 n1).1 (g _ _ rfl e1 n1).2 (g _ _ (isIter_code a b) e2 n2).1 a b (g _ _ (isIter_code a b) e2 n2).2 cr) .nil (fun _ _ a b=>.cons a b) .nil (fun k e _ _ a b=>.cons k e a b) .nil (fun k _ b=>.skip k b)
 (fun l e a n _ _ b d=>.cons l (g _ _ (isIter_cell a) e n).1 a (g _ _ (isIter_cell a) e n).2 b d) H
theorem VReps.mono (g:Grow h μ h' μ')(r:ρ <+: ρ'){v x}(H:VReps c h μ ρ v x):VReps c h' μ' ρ' v x:=H.map (fun a o _=>g a o) r
theorem FRep.map (g:∀a o,isIter o=false→h.get? a=some o→¬μ a→h'.get? a=some o∧¬μ' a)(r:ρ <+: ρ'){v x}(H:FRep c h μ ρ v x):FRep c h' μ' ρ' v x:=FRep.rec (motive_1:=fun v x _=>VRep c h' μ' ρ' v x) (motive_2:=fun v x _=>VReps c h' μ' ρ' v x) (motive_3:=fun v x _=>FRep c h' μ' ρ' v x) (motive_4:=fun n v x _=>CRep c h' μ' ρ' n v x)
 .none .bool .int .str (fun e n _ v=>.tup (g _ _ rfl e n).1 (g _ _ rfl e n).2 v) (fun e n _ v=>.lst (g _ _ rfl e n).1 (g _ _ rfl e n).2 v) (fun e a b d n x=>.dct (g _ _ (isIter_dOf a) e n).1 a b d (g _ _ (isIter_dOf a) e n).2 x)
 (fun z a e1 e2 n1 n2 _ f=>.rcd z a (g _ _ rfl e1 n1).1 (g _ _ rfl e2 n2).1 (g _ _ rfl e1 n1).2 (g _ _ rfl e2 n2).2 f) (fun{_ _ d} e=>.ref (d:=d) (pre_get r e)) .base
 (fun l e1 n1 e2 a b n2 _ cr=>.clo l (g _ _ rfl e1 n1).1 (g _ _ rfl e1 n1).2 (g _ _ (isIter_code a b) e2 n2).1 a b (g _ _ (isIter_code a b) e2 n2).2 cr) .nil (fun _ _ a b=>.cons a b) .nil (fun k e _ _ a b=>.cons k e a b) .nil (fun k _ b=>.skip k b)
 (fun l e a n _ _ b d=>.cons l (g _ _ (isIter_cell a) e n).1 a (g _ _ (isIter_cell a) e n).2 b d) H
theorem FRep.mono (g:Grow h μ h' μ')(r:ρ <+: ρ'){v x}(H:FRep c h μ ρ v x):FRep c h' μ' ρ' v x:=H.map (fun a o _=>g a o) r
theorem CRep.map (g:∀a o,isIter o=false→h.get? a=some o→¬μ a→h'.get? a=some o∧¬μ' a)(r:ρ <+: ρ'){n v x}(H:CRep c h μ ρ n v x):CRep c h' μ' ρ' n v x:=CRep.rec (motive_1:=fun v x _=>VRep c h' μ' ρ' v x) (motive_2:=fun v x _=>VReps c h' μ' ρ' v x) (motive_3:=fun v x _=>FRep c h' μ' ρ' v x) (motive_4:=fun n v x _=>CRep c h' μ' ρ' n v x)
 .none .bool .int .str (fun e n _ v=>.tup (g _ _ rfl e n).1 (g _ _ rfl e n).2 v) (fun e n _ v=>.lst (g _ _ rfl e n).1 (g _ _ rfl e n).2 v) (fun e a b d n x=>.dct (g _ _ (isIter_dOf a) e n).1 a b d (g _ _ (isIter_dOf a) e n).2 x)
 (fun z a e1 e2 n1 n2 _ f=>.rcd z a (g _ _ rfl e1 n1).1 (g _ _ rfl e2 n2).1 (g _ _ rfl e1 n1).2 (g _ _ rfl e2 n2).2 f) (fun{_ _ d} e=>.ref (d:=d) (pre_get r e)) .base
 (fun l e1 n1 e2 a b n2 _ cr=>.clo l (g _ _ rfl e1 n1).1 (g _ _ rfl e1 n1).2 (g _ _ (isIter_code a b) e2 n2).1 a b (g _ _ (isIter_code a b) e2 n2).2 cr) .nil (fun _ _ a b=>.cons a b) .nil (fun k e _ _ a b=>.cons k e a b) .nil (fun k _ b=>.skip k b)
 (fun l e a n _ _ b d=>.cons l (g _ _ (isIter_cell a) e n).1 a (g _ _ (isIter_cell a) e n).2 b d) H
theorem CRep.mono (g:Grow h μ h' μ')(r:ρ <+: ρ'){n v x}(H:CRep c h μ ρ n v x):CRep c h' μ' ρ' n v x:=H.map (fun a o _=>g a o) r
end

inductive IsTb (h:Heap)(μ:Addr→Prop)(T:Addr):Prop
 |mk (oT:Obj)(ts:Array Value)(h3:h.get? T=some oT)(h4:oT.cls=.type "traceback")(h5:oT.data=.fields ts)(h6:3<ts.size)(h7:μ T)
inductive TbI (h:Heap)(μ:Addr→Prop)(vs:Array Value):Prop
 |no (e:vs[1]?=some .none)
 |tb (T:Addr)(e:vs[1]?=some (.ref T))(t:IsTb h μ T)
theorem IsTb.keep {h h':Heap}{μ μ':Addr→Prop}(k:∀a o,h.get? a=some o→h'.get? a=some o)(hm:∀a,μ a→μ' a)(T:Addr)(x:IsTb h μ T):IsTb h' μ' T:=by
 obtain⟨oT,ts,a,b,d,e,m⟩:=x
 exact⟨oT,ts,k _ _ a,b,d,e,hm _ m⟩
theorem IsTb.but {h h':Heap}{μ:Addr→Prop}{d:Addr}(k:∀a o,a≠d→h.get? a=some o→h'.get? a=some o)(hd:∀o,h.get? d=some o→o.cls≠.type "traceback")(T:Addr)(x:IsTb h μ T):IsTb h' μ T:=by
 obtain⟨oT,ts,a,b,r1,r2,r3⟩:=x
 exact⟨oT,ts,k _ _ (fun q=>hd _ (q▸a) b) a,b,r1,r2,r3⟩
theorem TbI.step {h h':Heap}{μ μ':Addr→Prop}{vs:Array Value}(tk:∀T,IsTb h μ T→IsTb h' μ' T)(x:TbI h μ vs):TbI h' μ' vs:=by
 cases x with
 |no e=>exact .no e
 |tb T e t=>exact .tb T e (tk T t)

inductive CellAt (c:Cx)(h:Heap)(μ:Addr→Prop)(ρ:List (Addr × Addr)):Addr × Addr→Cell→Prop where
 |inst {C C' x d fs es n}:C<4→c.fnA C=some C'→h.get? x=some (instObj C' d)→¬μ x→h.get? d=some (dictOf es n)→μ d→FRep c h μ ρ fs es→CellAt c h μ ρ (x,d) (.inst C fs)
 |list {x l xs n}:h.get? x=some (listOf xs n)→μ x→VReps c h μ ρ l xs.toList→CellAt c h μ ρ (x,x) (.list l)
 |exc {C C' x o vs d fs es n}:C<4→c.fnA C=some C'→h.get? x=some o→o.cls=.ref C'→o.dict=some d→o.data=.fields vs→μ x→h.get? d=some (dictOf es n)→¬μ d→FRep c h μ ρ fs es→TbI h μ vs→vs[2]?=some .none→CellAt c h μ ρ (x,x) (.exc C fs)
 |new {C C' x o vs d fs es n}:C<4→c.fnA C=some C'→h.get? x=some o→o.cls=.ref C'→o.dict=some d→o.data=.fields vs→μ x→h.get? d=some (dictOf es n)→¬μ d→FRep c h μ ρ fs es→vs[1]?=some .none→vs[2]?=some .none→CellAt c h μ ρ (x,x) (.new C fs)
 |exd {C C' x o vs d fs es n}:C<4→c.fnA C=some C'→h.get? x=some o→o.cls=.ref C'→o.dict=some d→o.data=.fields vs→μ x→h.get? d=some (dictOf es n)→¬μ d→FRep c h μ ρ fs es→TbI h μ vs→CellAt c h μ ρ (x,x) (.exd C fs)
inductive CellsAt (c:Cx)(h:Heap)(μ:Addr→Prop)(ρ₀:List (Addr × Addr)):List (Addr × Addr)→List Cell→Prop where
 |nil:CellsAt c h μ ρ₀ [] []
 |cons {p q ρ σ}:CellAt c h μ ρ₀ p q→CellsAt c h μ ρ₀ ρ σ→CellsAt c h μ ρ₀ (p::ρ) (q::σ)

structure FrI where
 env:Env
 L:Addr
 m:Str→Option Value

noncomputable def TabRow (c:Cx)(h:Heap)(μ:Addr→Prop)(q:Addr × Addr):Prop :=
 ∃ps,h.get? q.2=some (tabObj ps)∧(ps=#[]∨∃k I c' oc ov tq,c.lamI k=some I∧I.tab=q∧ps=#[rawInt I.pos.line,rawInt I.pos.col,.ref c'] ∧
  h.get? c'=some oc∧oc.data=.fields ov∧ov[1]?=some (.str I.qual tq)∧¬μ c')

structure TopL (mg mb:Str→Option Value)(h:Heap):Prop where
 g:h.Ns mainGlobals mg
 b:h.Ns builtinsNs mb
 nolimit:h.NoLimit
 bmain:∃bm ob,mg "__builtins__" = some (.ref bm)∧bm≠builtinsNs∧h.get? bm=some ob∧ob.cls=.type "module" ∧ ob.dict=some builtinsNs∧ob.data=.plain
structure Base (c:Cx):Prop where
 XK:c.K.In c.B
 T:TopL c.mg c.mb c.B

structure FrOK (n:Nat)(μ:Addr→Prop)(h:Heap)(f:FrI):Prop where
 fr:f.env.frame=some f.L
 lo:f.env.locals=f.L
 kd:f.env.scope.kind=.function
 ns:h.Ns f.L f.m
 m:μ f.L
 le:n≤f.L
structure Inv (c:Cx)(fs:List FrI)(μ:Addr→Prop)(ρ:List (Addr × Addr))(σ:List Cell)(h:Heap):Prop where
 base:∀a o,c.B.get? a=some o→h.get? a=some o∧¬μ a
 low:c.B.objs.size≤h.objs.size
 mlt:∀a,μ a→a<h.objs.size
 frames:∀f∈fs,FrOK c.B.objs.size μ h f
 cells:CellsAt c h μ ρ ρ σ
 nodup:(fs.map (·.L)++(ρ.map (·.2)++c.tabs.map (·.2))).Nodup
 tabs:∀q∈c.tabs,μ q.2∧TabRow c h μ q
end Mine
end
section
namespace Mine
open PySem PySem.W PySem.Spec PySem.Calls PyProof.Rows PyProof.V

noncomputable def nameOf:Expr→Option Str
 | .Name id _=>some id
 |_=>none
noncomputable def callee:Expr→Option Str
 | .Call f _ _ _=>nameOf f
 |_=>none
noncomputable def isNm:Expr→Bool
 | .Name _ _=>true
 |_=>false
noncomputable def isSl:Expr→Bool
 | .Slice _ _ _ _=>true
 |_=>false
noncomputable def isStar:Expr→Bool
 | .Starred _ _=>true
 |_=>false
theorem isNm_ {e:Expr}(h:isNm e=true):∃y q,e=.Name y q:=by
 cases e with
 |Name y q=>exact⟨y,q,rfl⟩
 |_=>exact Bool.noConfusion h
noncomputable def noSuper (e:Expr):Bool:=match callee e with
 |some id=>id != ("super" : Str)
 |none=>true
noncomputable def notDebug (x:Str):Bool:=!(x==("__debug__" : Str))&&!(x==("__classdict__" : Str))
noncomputable def biL:List (Nat × (Str × Value)):=[(0,("len",.builtin "len")),(1,("abs",.builtin "abs")),(2,("sum",.builtin "sum")),(3,("min",.builtin "min")),(4,("list",.type "list")),(5,("tuple",.type "tuple")),(6,("enumerate",.type "enumerate")),(7,("range",.type "range"))]
noncomputable def biV (b:Nat):Option (Str × Value):=look biL b
noncomputable def okSwap:Expr→Bool
 | .Tuple vs _ _=>!(vs.all (constantsAlone 8))||vs.all (foldedForSure 8)
 |_=>true
section
variable (c:Cx)(nm:List Str)(sc:Scope)
noncomputable def trLoc (i:Nat):Option Str:=match nm[i]? with
 |some y=>if notDebug y&&(sc.names.lookup y==some .local||sc.names.lookup y==some .cell||sc.names.lookup y==some .free)then some y else none
 |none=>none
noncomputable def trSet (i:Nat):Option Str:=match nm[i]? with
 |some y=>if notDebug y&&sc.names.lookup y==some .local&&decide nm.Nodup then some y else none
 |none=>none
mutual
noncomputable def trX:Nat→X→Option Expr
 |0,_=>none
 |m+1,x=>match x with
  | .none p=>some (.Constant .none 0 p)
  | .bool b p=>some (.Constant (.bool b) 0 p)
  | .int i p=>some (.Constant (.int i) 0 p)
  | .str s p=>some (.Constant (.str (sS s)) 0 p)
  | .loc i p=>(trLoc nm sc i).map fun y=>.Name y p
  | .glob g p=>if notDebug (c.gn g)&&sc.names.lookup (c.gn g)==some .globalImplicit then some (.Name (c.gn g) p)else none
  | .attr x f p=>(trX m x).bind fun e=>if noSuper e&&decide (f≤10)then some (.Attribute e (c.an f) p)else none
  | .call f as p=>(trX m f).bind fun fe=>(trXs m as).bind fun es=>if isNm fe then some (.Call fe es [] p)else none
  | .bcall b bp as p=>(biV b).bind fun y=>(trXs m as).bind fun es=>if notDebug y.1&&sc.names.lookup y.1==some .globalImplicit then some (.Call (.Name y.1 bp) es [] p)else none
  | .meth o f pa as p=>(trX m o).bind fun e=>(trXs m as).bind fun es=>if noSuper e&&pa.endLine==p.line&&decide (es.length<30)then some (.Call (.Attribute e (c.an f) pa) es [] p)else none
  | .bin l op r p=>(trX m l).bind fun a=>(trX m r).bind fun b=>some (.BinOp a op b p)
  | .not x p=>(trX m x).bind fun e=>some (.UnaryOp .Not e p)
  | .neg x p=>(trX m x).bind fun e=>some (.UnaryOp .USub e p)
  | .and xs p=>(trXs m xs).bind fun es=>some (.BoolOp .And es p)
  | .or xs p=>(trXs m xs).bind fun es=>some (.BoolOp .Or es p)
  | .ite t a b p=>(trX m t).bind fun t=>(trX m a).bind fun a=>(trX m b).bind fun b=>some (.IfExp t a b p)
  | .cmp l op r p=>(trX m l).bind fun a=>(trX m r).bind fun b=>if behindInMarks op b then none else some (.Compare a [op] [b] p)
  | .cmp2 l op k op2 r p=>(trX m l).bind fun a=>(trX m k).bind fun k=>(trX m r).bind fun b=>if lastMarks [op,op2] [k,b]then none else some (.Compare a [op,op2] [k,b] p)
  | .tup xs k p=>(trXs m xs).bind fun es=>some (.Tuple es k p)
  | .lst xs p=>(trXs m xs).bind fun es=>some (.List es p)
  | .lstF xs p=>(trXs m xs).bind fun es=>some (.List es p)
  | .dct ks vs p=>(trXs m ks).bind fun ks=>(trXs m vs).bind fun vs=>some (.Dict (ks.map some) vs p)
  | .sub x i p=>(trX m x).bind fun a=>(trX m i).bind fun b=>if isSl b then none else some (.Subscript a b p)
  | .slc x lo hi sp p=>(trX m x).bind fun a=>(trO m lo).bind fun l=>(trO m hi).bind fun h=>if isNm a then some (.Subscript a (.Slice l h none sp) p)else none
  | .lam k p=>(c.lamI k).bind fun I=>if I.pos==p&&I.owner==sc&&((I.scope.names.filter fun y=>y.2==.free).map (·.1)==(c.T.lamc k).filterMap (nm[·]?))&&decide (((c.T.lamc k).filterMap (nm[·]?)).length=(c.T.lamc k).length) &&
    ((c.T.lamc k).filterMap (nm[·]?)).all (fun y=>sc.names.lookup y==some .cell||sc.names.lookup y==some .free)then some (.Lambda I.params I.body I.scope p)else none
  | .nones i L p pl pc=>(trLoc nm sc i).bind fun x=>if notDebug L.y&&notDebug L.z&&L.sc.kind==.function&&(L.sc.names.all fun q=>q.2==.local&&L.sc.names.lookup q.1==some .local)&&L.sc.names.lookup L.y==some .local&&L.sc.names.lookup L.z==some .local&&!(L.y==L.z)then
    some (.Compare (.ListComp (.Name L.z L.p1) [⟨.Name L.y L.p2,.Name x L.p3,[],0⟩,⟨.Name L.z L.p4,.Name L.y L.p5,[.Compare (.Name L.z L.p6) [.Is] [.Constant .none 0 L.p7] L.p8],0⟩] L.sc p) [.NotEq] [.List [] pl] pc)else none
noncomputable def trO:Nat→Option X→Option (Option Expr)
 |0,_=>none
 |_+1,none=>some none
 |m+1,some x=>(trX m x).map some
noncomputable def trXs:Nat→List X→Option (List Expr)
 |0,_=>none
 |_+1,[]=>some []
 |m+1,x::r=>(trX m x).bind fun e=>(trXs m r).bind fun es=>if isStar e then none else some (e::es)
end
noncomputable def trT:List (Nat × Pos)→Option (List Expr)
 | []=>some []
 |(i,p)::r=>(trSet nm sc i).bind fun y=>(trT r).bind fun es=>some (.Name y p::es)
noncomputable def pa (l:List Pos)(i:Nat):Pos:=l.getD i ⟨0,0,0,0⟩
noncomputable def trAt (o g h:Nat)(ps:List Pos):Option Expr:=(trLoc nm sc o).bind fun y=>if Nat.ble g 10&&Nat.ble h 10 then some (.Attribute (.Attribute (.Name y (pa ps 0)) (c.an g) (pa ps 1)) (c.an h) (pa ps 2))else none
noncomputable def trH:Hn→Option Stmt
 | .nm j k ps=>(trSet nm sc j).bind fun y=>(trLoc nm sc k).bind fun z=>some (.Assign [.Name y (pa ps 0)] (.Name z (pa ps 1)) (pa ps 2))
 | .tp a b k o g h kk kt ps=>(trSet nm sc a).bind fun ya=>(trSet nm sc b).bind fun yb=>(trLoc nm sc k).bind fun yk=>(trAt c nm sc o g h ps).bind fun x =>
   if (pa ps 3).line=(pa ps 4).line then some (.Assign [.Tuple [.Name ya (pa ps 3),.Name yb (pa ps 4)] kk (pa ps 5)] (.Tuple [.Name yk (pa ps 6),x] kt (pa ps 7)) (pa ps 8))else none
 | .rs o g h b k1 k2 ps=>(trAt c nm sc o g h ps).bind fun x=>(trLoc nm sc b).bind fun yb=>(trLoc nm sc k1).bind fun y1=>(trLoc nm sc k2).bind fun y2 =>
   some (.Raise (some (.IfExp (.Compare x [.GtE] [.Name yb (pa ps 3)] (pa ps 4)) (.Name y1 (pa ps 5)) (.Name y2 (pa ps 6)) (pa ps 7))) none (pa ps 8))
mutual
noncomputable def trS:Nat→S→Option Stmt
 |0,_=>none
 |m+1,t=>match t with
  | .expr x p=>(trX c nm sc m x).bind fun e=>some (.Expr e p)
  | .asN i pn x p=>(trSet nm sc i).bind fun y=>(trX c nm sc m x).bind fun e=>some (.Assign [.Name y pn] e p)
  | .asT ts k pt x p=>(trT nm sc ts).bind fun es=>(trX c nm sc m x).bind fun e=>if okSwap e&&decide (ts.map (·.1)).Nodup then some (.Assign [.Tuple es k pt] e p)else none
  | .asA o f pa x p=>(trX c nm sc m o).bind fun o=>(trX c nm sc m x).bind fun e=>if noSuper o then some (.Assign [.Attribute o (c.an f) pa] e p)else none
  | .asI o i pi x p=>(trX c nm sc m o).bind fun o=>(trX c nm sc m i).bind fun i=>(trX c nm sc m x).bind fun e=>some (.Assign [.Subscript o i pi] e p)
  | .ifs t a b p=>(trX c nm sc m t).bind fun t=>(trSs m a).bind fun a=>(trSs m b).bind fun b=>some (.If t a b p)
  | .whl t a p=>(trX c nm sc m t).bind fun t=>(trSs m a).bind fun a=>some (.While t a [] p)
  | .forN i pn x a p=>(trSet nm sc i).bind fun y=>(trX c nm sc m x).bind fun e=>(trSs m a).bind fun a=>some (.For (.Name y pn) e a [] p)
  | .forR i pn bp cp x a p=>(trSet nm sc i).bind fun y=>(trX c nm sc m x).bind fun e=>(trSs m a).bind fun a=>if notDebug ("range" : Str)&&sc.names.lookup ("range" : Str)==some .globalImplicit&&!isStar e then some (.For (.Name y pn) (.Call (.Name ("range" : Str) bp) [e] [] cp) a [] p)else none
  | .forT ts k pt x a p=>(trT nm sc ts).bind fun es=>(trX c nm sc m x).bind fun e=>(trSs m a).bind fun a=>if decide (ts.map (·.1)).Nodup then some (.For (.Tuple es k pt) e a [] p)else none
  | .ret x p=>(trX c nm sc m x).bind fun e=>some (.Return (some e) p)
  | .raise x p=>(trX c nm sc m x).bind fun e=>some (.Raise (some e) none p)
  | .try1 a g pg i h ph p=>(trSs m a).bind fun a=>(trSet nm sc i).bind fun y=>(trH c nm sc h).bind fun h =>
    if notDebug (c.gn g)&&sc.names.lookup (c.gn g)==some .globalImplicit then some (.Try a [.ExceptHandler (some (.Name (c.gn g) pg)) (some y) [h] ph] [] [] p)else none
noncomputable def trSs:Nat→List S→Option (List Stmt)
 |0,_=>none
 |_+1,[]=>some []
 |m+1,t::r=>(trS m t).bind fun t=>(trSs m r).bind fun r=>some (t::r)
end
end
section
variable {T:Tabs}{n:Nat}{fr:List (Option V)}{s:List Cell}
theorem eS_expr {x:X}{z1:Pos}:exS T (n+1) (.expr x z1) fr s=(match exX T n x fr s with
   |some (.ok _ s)=>some (.nx fr s)
   |some (.ex i s)=>some (.ex i fr s)
   |none=>none):=rfl
theorem eS_asN {i:Nat}{z1:Pos}{x:X}{z3:Pos}:exS T (n+1) (.asN i z1 x z3) fr s=(match exX T n x fr s with
   |some (.ok v s)=>some (.nx (fr.set i (some v)) s)
   |some (.ex i s)=>some (.ex i fr s)
   |none=>none):=rfl
theorem eS_asT {ts:List (Nat × Pos)}{z1:Nat}{z2:Pos}{x:X}{z4:Pos}:exS T (n+1) (.asT ts z1 z2 x z4) fr s=(match exX T n x fr s with
   |some (.ok (.tup vs) s)=>(putT fr ts vs).map fun fr=>.nx fr s
   |some (.ok _ _)=>none
   |some (.ex i s)=>some (.ex i fr s)
   |none=>none):=rfl
theorem eS_asA {o:X}{f:Nat}{z2:Pos}{x:X}{z4:Pos}:exS T (n+1) (.asA o f z2 x z4) fr s=(match bnd (exX T n x fr s) fun v s=>bnd (exX T n o fr s) fun o s=>match o with
     | .ref i=>match s[i]? with
      |some (.inst C fs)=>if f≤10∧C≠0∧fs.length≤40 then some (.ok V.none (s.set i (.inst C (fput f v fs))))else none
      |_=>none
     |_=>none with
   |some (.ok _ s)=>some (.nx fr s)
   |some (.ex i s)=>some (.ex i fr s)
   |none=>none):=rfl
theorem eS_asI {o:X}{k:X}{z2:Pos}{x:X}{z4:Pos}:exS T (n+1) (.asI o k z2 x z4) fr s=(match bnd (exX T n x fr s) fun v s=>bnd (exX T n o fr s) fun o s=>bnd (exX T n k fr s) fun k s=>match o,k with
     | .ref i,.int j=>match s[i]? with
      |some (.list l)=>if 0≤j∧j≤1000∧j.toNat<l.length then some (.ok V.none (s.set i (.list (l.set j.toNat v))))else none
      |_=>none
     |_,_=>none with
   |some (.ok _ s)=>some (.nx fr s)
   |some (.ex i s)=>some (.ex i fr s)
   |none=>none):=rfl
theorem eS_ifs {t:X}{a:List S}{b:List S}{z3:Pos}:exS T (n+1) (.ifs t a b z3) fr s=(match exX T n t fr s with
   |some (.ok v s)=>match truthy s v with
    |some true=>exSs T n a fr s
    |some false=>exSs T n b fr s
    |none=>none
   |some (.ex i s)=>some (.ex i fr s)
   |none=>none):=rfl
theorem eS_whl {t:X}{a:List S}{z2:Pos}:exS T (n+1) (.whl t a z2) fr s=(exW T n t a fr s):=rfl
theorem eS_forN {i:Nat}{z1:Pos}{x:X}{a:List S}{z4:Pos}:exS T (n+1) (.forN i z1 x a z4) fr s=(match exX T n x fr s with
   |some (.ok v s)=>match v with
    | .lst l=>exF T n (fun fr v=>some (fr.set i (some v))) a l fr s
    | .ref j=>exL T n (fun fr v=>some (fr.set i (some v))) a j 0 fr s
    |_=>none
   |some (.ex i s)=>some (.ex i fr s)
   |none=>none):=rfl
theorem eS_forR {i:Nat}{z1:Pos}{z2:Pos}{z3:Pos}{x:X}{a:List S}{z6:Pos}:exS T (n+1) (.forR i z1 z2 z3 x a z6) fr s=(match exX T n x fr s with
   |some (.ok v s)=>match v with
    | .int k=>if 0≤k∧k≤1000 then exF T n (fun fr v=>some (fr.set i (some v))) a ((List.range k.toNat).map fun j:Nat=>.int j) fr s else none
    |_=>none
   |some (.ex i s)=>some (.ex i fr s)
   |none=>none):=rfl
theorem eS_ret {x:X}{z1:Pos}:exS T (n+1) (.ret x z1) fr s=(match exX T n x fr s with
   |some (.ok v s)=>some (.rt v s)
   |some (.ex i s)=>some (.ex i fr s)
   |none=>none):=rfl
theorem eS_raise {x:X}{z1:Pos}:exS T (n+1) (.raise x z1) fr s=(match exX T n x fr s with
   |some (.ok v s)=>raiS fr v s
   |some (.ex i s)=>some (.ex i fr s)
   |none=>none):=rfl
theorem eS_try1 {a:List S}{g:Nat}{z2:Pos}{i:Nat}{h:Hn}{z5:Pos}{z6:Pos}:exS T (n+1) (.try1 a g z2 i h z5 z6) fr s=(match exSs T n a fr s with
   |some (.ex e fr s)=>tryH g i h e fr s
   |o=>o):=rfl
theorem eS_forT {ts:List (Nat × Pos)}{k:Nat}{pt bp bq p:Pos}{x:X}{a:List S}:exS T (n+1) (.forT ts k pt (.bcall 6 bp [x] bq) a p) fr s=(match bnd (exXs T n [x] fr s) (fun vs s=>match vs with | [v]=>some (.ok v s)| _=>none)with
   |some (.ok v s)=>match v with
    | .lst l=>exF T n (stT ts) a (enumV 0 l) fr s
    |_=>none
   |some (.ex i s)=>some (.ex i fr s)
   |none=>none):=rfl
theorem enumA_of {x y:X}(h:enumA x=some y):∃bp px,x=.bcall 6 bp [y] px:=by
 cases x with
 |bcall b bp as px =>
  replace h:(bif Nat.beq b 6 then(match as with | [x]=>some x | _=>none)else none)=some y:=h
  cases q:Nat.beq b 6 with
  |false=>rw[q]at h;exact n0 h
  |true =>
   obtain rfl:=Nat.eq_of_beq_eq_true q
   match as,h with
   | [x],h=>exact⟨_,_,by rw[oi h]⟩
 |_=>exact n0 h
theorem eS_forE {ts:List (Nat × Pos)}{k:Nat}{pt p:Pos}{x:X}{a:List S}{o:RS}(h:exS T (n+1) (.forT ts k pt x a p) fr s=some o):∃y,enumA x=some y:=by
 cases q:enumA x with
 |some y=>exact⟨y,rfl⟩
 |none =>
  replace h:(match enumA x with
   |some x=>match bnd (exXs T n [x] fr s) (fun vs s=>match vs with | [v]=>some (.ok v s)| _=>none)with
    |some (.ok v s)=>match v with
     | .lst l=>exF T n (stT ts) a (enumV 0 l) fr s
     |_=>none
    |some (.ex i s)=>some (.ex i fr s)
    |none=>none
   |none=>none)=some o:=h
  rw[q]at h
  exact n0 h
theorem eB_one {b:Bool}{x:X}:exBool T (n+1) b [x] fr s=exX T n x fr s:=rfl
theorem eB_cons {b:Bool}{x y:X}{r:List X}:exBool T (n+1) b (x::y::r) fr s=bnd (exX T n x fr s) fun v s=>(match truthy s v with
  |some t=>if t=b then exBool T n b (y::r) fr s else some (.ok v s)
  |none=>none):=rfl
theorem eSs_cons {t:S}{r:List S}:exSs T (n+1) (t::r) fr s=(match exS T n t fr s with
  |some (.nx fr s)=>exSs T n r fr s
  |o=>o):=rfl
theorem eW {t:X}{a:List S}:exW T (n+1) t a fr s=(match exX T n t fr s with
  |some (.ok v s)=>match truthy s v with
   |some true=>match exSs T n a fr s with
    |some (.nx fr s)=>exW T n t a fr s
    |o=>o
   |some false=>some (.nx fr s)
   |none=>none
  |some (.ex i s)=>some (.ex i fr s)
  |none=>none):=rfl
theorem eF_cons {st:List (Option V)→V→Option (List (Option V))}{a:List S}{v:V}{r:List V}:exF T (n+1) st a (v::r) fr s=(match st fr v with
  |some fr=>match exSs T n a fr s with
   |some (.nx fr s)=>exF T n st a r fr s
   |o=>o
  |none=>none):=rfl
end
section
variable {c:Cx}{nm:List Str}{sc:Scope}{m:Nat}
theorem eT_glob {g:Nat}{p:Pos}:trX c nm sc (m+1) (.glob g p)=(if notDebug (c.gn g)&&sc.names.lookup (c.gn g)==some .globalImplicit then some (.Name (c.gn g) p)else none):=rfl
theorem eC_base {T:Tabs}{n g:Nat}{as:List V}{s:List Cell}:callV T (n+1) (.base g) as s=(match T.fn g with
   |some d =>
    if as.length≤d.np&&d.np≤as.length+d.dflt.length then
     let bs:=as++d.dflt.drop (d.dflt.length - (d.np - as.length))
     match exSs T n d.body (bs.map some++List.replicate (d.nm.length - d.np) none) s with
     |some (.nx _ s)=>some (.ok .none s)
     |some (.rt v s)=>some (.ok v s)
     |some (.ex i _ s)=>some (.ex i s)
     |none=>none
    else none
   |none=>match T.init g with
    |some k=>bnd (callV T n (.base k) (.ref s.length::as) (s++[.inst g []])) fun v s'=>match v with | .none=>some (.ok (.ref s.length) s')| _=>none
    |none=>if g=0∧3≤n then match as with
      | [w,a]=>some (.ok (.ref s.length) (s++[.new g [(10,w),(1,a)]]))
      |_=>none
     else none):=rfl
theorem eC_clo {T:Tabs}{n k:Nat}{cs as:List V}{s:List Cell}:callV T (n+1) (.clo k cs) as s=(match T.lam k with
   |some x=>if as.length=T.lamn k then exX T n x ((as++cs).map some) s else none
   |none=>none):=rfl
end
end Mine
end
section
namespace Mine
open PySem PySem.W PySem.Spec PySem.Calls PyProof.Rows PyProof.V
set_option tactic.hygienic false

section
variable {c:Cx}{h h':Heap}{μ μ':Addr→Prop}{ρ ρ':List (Addr × Addr)}
theorem CellAt.step (g:Grow h μ h' μ')(r:ρ <+: ρ'){p:Addr × Addr}{q:Cell}(k:∀o,h.get? p.2=some o→h'.get? p.2=some o)(hm:μ p.2→μ' p.2)(tk:∀T,IsTb h μ T→IsTb h' μ' T)(x:CellAt c h μ ρ p q):CellAt c h' μ' ρ' p q:=by
 cases x with
 |inst z a e1 n1 e2 m f=>exact .inst z a (g _ _ e1 n1).1 (g _ _ e1 n1).2 (k _ e2) (hm m) (FRep.mono g r f)
 |list e m v=>exact .list (k _ e) (hm m) (VReps.mono g r v)
 |exc z a e o1 o2 o3 m e2 n2 f t b=>exact .exc z a (k _ e) o1 o2 o3 (hm m) (g _ _ e2 n2).1 (g _ _ e2 n2).2 (FRep.mono g r f) (t.step tk) b
 |new z a e o1 o2 o3 m e2 n2 f tb b=>exact .new z a (k _ e) o1 o2 o3 (hm m) (g _ _ e2 n2).1 (g _ _ e2 n2).2 (FRep.mono g r f) tb b
 |exd z a e o1 o2 o3 m e2 n2 f t=>exact .exd z a (k _ e) o1 o2 o3 (hm m) (g _ _ e2 n2).1 (g _ _ e2 n2).2 (FRep.mono g r f) (t.step tk)
theorem CellsAt.ind {ρ₀:List (Addr × Addr)}{P:List (Addr × Addr)→List Cell→Prop}(nil:P [] [])(cons:∀{p q ρ σ},CellAt c h μ ρ₀ p q→CellsAt c h μ ρ₀ ρ σ→P ρ σ→P (p::ρ) (q::σ)){ρ:List (Addr × Addr)}{σ:List Cell}(H:CellsAt c h μ ρ₀ ρ σ):P ρ σ :=
 CellsAt.rec (motive:=fun ρ σ _=>P ρ σ) nil (fun a b ih=>cons a b ih) H
theorem CellsAt.step {ρ₀ ρ₁:List (Addr × Addr)}(g:Grow h μ h' μ')(r:ρ₀ <+: ρ₁):∀{ρ:List (Addr × Addr)} {σ:List Cell},(∀p∈ρ,∀o,h.get? p.2=some o→h'.get? p.2=some o)→(∀p∈ρ,μ p.2→μ' p.2)→(∀T,IsTb h μ T→IsTb h' μ' T)→CellsAt c h μ ρ₀ ρ σ→CellsAt c h' μ' ρ₁ ρ σ:=fun{ρ σ} k hm tk H =>
 CellsAt.ind (P:=fun ρ σ=>(∀p∈ρ,∀o,h.get? p.2=some o→h'.get? p.2=some o)→(∀p∈ρ,μ p.2→μ' p.2)→CellsAt c h' μ' ρ₁ ρ σ) (fun _ _=>.nil)
  (fun a _ ih k hm=>.cons (a.step g r (k _ List.mem_cons_self) (hm _ List.mem_cons_self) tk) (ih (fun p hp=>k p (List.mem_cons_of_mem _ hp)) fun p hp=>hm p (List.mem_cons_of_mem _ hp))) H k hm
theorem TabRow.step (g:Grow h μ h' μ'){q:Addr × Addr}(k:∀o,h.get? q.2=some o→h'.get? q.2=some o)(x:TabRow c h μ q):TabRow c h' μ' q:=by
 obtain⟨ps,e,x⟩:=x
 refine⟨ps,k _ e,x.imp id ?_⟩
 rintro⟨k',I,c',oc,ov,tq,a1,a0,a2,a3,a4,a5,a6⟩
 exact⟨k',I,c',oc,ov,tq,a1,a0,a2,(g _ _ a3 a6).1,a4,a5,(g _ _ a3 a6).2⟩
theorem grow_keep (k:∀a o,h.get? a=some o→h'.get? a=some o):Grow h μ h' μ:=fun a o e n=>⟨k a o e,n⟩
theorem Inv.keep {fs:List FrI}{σ:List Cell}(I:Inv c fs μ ρ σ h)(k:∀a o,h.get? a=some o→h'.get? a=some o)(sz:h.objs.size≤h'.objs.size):Inv c fs μ ρ σ h' where
 base a o e:=⟨k _ _ (I.base a o e).1,(I.base a o e).2⟩
 low:=Nat.le_trans I.low sz
 mlt a m:=Nat.lt_of_lt_of_le (I.mlt a m) sz
 frames f hf:=let ⟨a,b,d,n,m,l⟩:=I.frames f hf;⟨a,b,d,n.keeps k,m,l⟩
 cells:=I.cells.step (grow_keep k) (List.prefix_refl _) (fun p _ o e=>k _ o e) (fun _ _ m=>m) (IsTb.keep k fun _ m=>m)
 nodup:=I.nodup
 tabs q hq:=⟨(I.tabs q hq).1,(I.tabs q hq).2.step (grow_keep k) fun o e=>k _ o e⟩
theorem CellsAt.get {ρ₀:List (Addr × Addr)}:∀{ρ:List (Addr × Addr)} {σ:List Cell} {i:Nat} {q:Cell},CellsAt c h μ ρ₀ ρ σ→σ[i]?=some q→∃p,ρ[i]?=some p∧CellAt c h μ ρ₀ p q
 |_,_,_,_,.nil,e=>by simp at e
 |_,_,0,_,.cons a _,e=>by cases e;exact⟨_,rfl,a⟩
 |_,_,_+1,_,.cons _ b,e=>b.get (by simpa using e)
theorem CellsAt.len {ρ₀:List (Addr × Addr)}:∀{ρ:List (Addr × Addr)} {σ:List Cell},CellsAt c h μ ρ₀ ρ σ→ρ.length=σ.length:=fun H=>H.ind (P:=fun ρ σ=>ρ.length=σ.length) rfl fun _ _ ih=>congrArg (· + 1) ih
theorem CellsAt.snoc {ρ₀:List (Addr × Addr)}:∀{ρ:List (Addr × Addr)} {σ:List Cell} {p:Addr × Addr} {q:Cell},CellsAt c h μ ρ₀ ρ σ→CellAt c h μ ρ₀ p q→CellsAt c h μ ρ₀ (ρ++[p]) (σ++[q]):=fun{ρ σ p q} H x=>H.ind (P:=fun ρ σ=>CellsAt c h μ ρ₀ (ρ++[p]) (σ++[q])) (.cons x .nil) fun a _ ih=>.cons a ih
end

structure St (c:Cx)(fs:List FrI)(s:Shared)(μ:Addr→Prop)(ρ:List (Addr × Addr))(σ':List Cell)(s':Shared)(μ':Addr→Prop)(ρ':List (Addr × Addr)):Prop where
 inv:Inv c fs μ' ρ' σ' s'.heap
 grow:Grow s.heap μ s'.heap μ'
 pre:ρ <+: ρ'
 gens:s'.gens=s.gens
 os:s'.os=s.os

theorem St.refl {c:Cx}{fs:List FrI}{s:Shared}{μ:Addr→Prop}{ρ:List (Addr × Addr)}{σ:List Cell}(I:Inv c fs μ ρ σ s.heap):St c fs s μ ρ σ s μ ρ :=
 ⟨I,Grow.refl _ _,List.prefix_refl _,rfl,rfl⟩
theorem St.trans {c:Cx}{fs fs':List FrI}{s s₁ s₂:Shared}{μ μ₁ μ₂:Addr→Prop}{ρ ρ₁ ρ₂:List (Addr × Addr)}{σ₁ σ₂:List Cell}(x:St c fs s μ ρ σ₁ s₁ μ₁ ρ₁)(y:St c fs' s₁ μ₁ ρ₁ σ₂ s₂ μ₂ ρ₂):St c fs' s μ ρ σ₂ s₂ μ₂ ρ₂ :=
 ⟨y.inv,x.grow.trans y.grow,x.pre.trans y.pre,y.gens.trans x.gens,y.os.trans x.os⟩
theorem St.keep {c:Cx}{fs:List FrI}{s:Shared}{μ:Addr→Prop}{ρ:List (Addr × Addr)}{σ:List Cell}(I:Inv c fs μ ρ σ s.heap){h':Heap}{tk:Nat}(k:∀a o,s.heap.get? a=some o→h'.get? a=some o)(sz:s.heap.objs.size≤h'.objs.size):
  St c fs s μ ρ σ { s with heap:=h',toks:=tk } μ ρ:=⟨I.keep k sz,grow_keep k,List.prefix_refl _,rfl,rfl⟩
theorem St.toks {c:Cx}{fs:List FrI}{s:Shared}{μ:Addr→Prop}{ρ:List (Addr × Addr)}{σ:List Cell}(I:Inv c fs μ ρ σ s.heap){tk:Nat}:St c fs s μ ρ σ { s with toks:=tk } μ ρ :=
 ⟨I,Grow.refl _ _,List.prefix_refl _,rfl,rfl⟩
theorem St.then {c:Cx}{fs:List FrI}{s s':Shared}{μ μ':Addr→Prop}{ρ ρ':List (Addr × Addr)}{σ':List Cell}(x:St c fs s μ ρ σ' s' μ' ρ'){tk:Nat}:St c fs s μ ρ σ' { s' with toks:=tk } μ' ρ':=x.trans (.toks x.inv)
theorem St.up {c:Cx}{fs:List FrI}{s s':Shared}{μ μ':Addr→Prop}{ρ ρ':List (Addr × Addr)}{σ':List Cell}(x:St c fs s μ ρ σ' s' μ' ρ'){v:V}{y:Value}(r:VRep c s.heap μ ρ v y):VRep c s'.heap μ' ρ' v y:=r.mono x.grow x.pre

inductive FlyT (h:Heap)(μ:Addr→Prop)(e:Addr)(vs:Array Value):Prop
 |mk (T:Addr)(oT:Obj)(ts:Array Value)(h1:vs[1]?=some (.ref T))(h2:T≠e)(h3:h.get? T=some oT)(h4:oT.cls=.type "traceback")(h5:oT.data=.fields ts)(h6:3<ts.size)(h7:μ T)
inductive Fly (σ:List Cell)(i:Nat)(h:Heap)(μ:Addr→Prop)(e:Addr):Prop
 |mk (h1:∀C fs,σ[i]?≠some (.new C fs))(oe:Obj)(vs:Array Value)(h2:h.get? e=some oe)(h3:oe.data=.fields vs)(h4:vs[1]?=some .none∨FlyT h μ e vs)

inductive PX (c:Cx)(fs:List FrI)(s:Shared)(μ:Addr→Prop)(ρ:List (Addr × Addr))(r:R V)(x:Value)(s':Shared):Prop
 |mk (v:V)(σ':List Cell)(μ':Addr→Prop)(ρ':List (Addr × Addr))(e:r=.ok v σ')(st:St c fs s μ ρ σ' s' μ' ρ')(rep:VRep c s'.heap μ' ρ' v x)
inductive EX {α:Type}(c:Cx)(fs:List FrI)(s:Shared)(μ:Addr→Prop)(ρ:List (Addr × Addr))(r:R α)(e:Value)(s':Shared):Prop
 |mk (i:Nat)(σ':List Cell)(μ':Addr→Prop)(ρ':List (Addr × Addr))(a:Addr)(h1:r=.ex i σ')(h2:e=.ref a)(st:St c fs s μ ρ σ' s' μ' ρ')(h4:ρ'[i]?=some (a,a))(fly:Fly σ' i s'.heap μ' a)

theorem EX.up {α β:Type}{c:Cx}{fs:List FrI}{s s₁:Shared}{μ μ₁:Addr→Prop}{ρ ρ₁:List (Addr × Addr)}{σ₁:List Cell}(x:St c fs s μ ρ σ₁ s₁ μ₁ ρ₁){r:R α}{r':R β}(hr:∀i σ,r=.ex i σ→r'=.ex i σ){e:Value}{s':Shared}(y:EX c fs s₁ μ₁ ρ₁ r e s'):EX c fs s μ ρ r' e s':=by
 obtain⟨i,σ',μ',ρ',a,h1,h2,h3,h4,h5⟩:=y
 exact⟨i,σ',μ',ρ',a,hr _ _ h1,h2,x.trans h3,h4,h5⟩

structure FrI.ok (A:Around)(fs:List FrI):Prop where
 f:A.frames=some (fs.map (·.env))
 h:A.handled=none
 g:∀f∈fs,f.env.globals=mainGlobals∧f.env.builtins=builtinsNs
noncomputable def FrRep (c:Cx)(h:Heap)(μ:Addr→Prop)(ρ:List (Addr × Addr))(f:FrI)(nm:List Str)(fr:List (Option V)):Prop :=
 ∀(i:Nat) (y:Str) (v:V),nm[i]?=some y→fr[i]?=some (some v) →
  (f.env.kindOf y=some .local∧∃x,f.m y=some x∧VRep c h μ ρ v x) ∨
  ((f.env.kindOf y=some .cell∨f.env.kindOf y=some .free)∧∃ca o x,f.env.cells.lookup y=some ca∧h.get? ca=some o∧o.data=.cell (some x)∧¬μ ca∧VRep c h μ ρ v x)
theorem FrRep.mono {c:Cx}{h h':Heap}{μ μ':Addr→Prop}{ρ ρ':List (Addr × Addr)}{f:FrI}{nm:List Str}{fr:List (Option V)}(g:Grow h μ h' μ')(r:ρ <+: ρ')(x:FrRep c h μ ρ f nm fr):FrRep c h' μ' ρ' f nm fr:=fun i y v e1 e2=>by
 rcases x i y v e1 e2 with⟨a,z,b,d⟩| ⟨a,ca,o,z,b,d,e,n,k⟩
 ·exact .inl ⟨a,z,b,d.mono g r⟩
 ·exact .inr ⟨a,ca,o,z,b,(g _ _ d n).1,e,(g _ _ d n).2,k.mono g r⟩
theorem St.fr {c:Cx}{fs:List FrI}{s s':Shared}{μ μ':Addr→Prop}{ρ ρ':List (Addr × Addr)}{σ':List Cell}(x:St c fs s μ ρ σ' s' μ' ρ'){f:FrI}{nm:List Str}{fr:List (Option V)}(r:FrRep c s.heap μ ρ f nm fr):FrRep c s'.heap μ' ρ' f nm fr:=r.mono x.grow x.pre
section
variable {c:Cx}{h:Heap}{μ:Addr→Prop}{ρ:List (Addr × Addr)}
inductive RefI (ρ:List (Addr × Addr))(i:Nat)(x:Value):Prop
 |mk (xa d:Addr)(hx:x=.ref xa)(hi:ρ[i]?=some (xa,d))
theorem VRep.ref_ {i:Nat}{x:Value}(r:VRep c h μ ρ (.ref i) x):RefI ρ i x:=by cases r with | ref hi=>exact⟨_,_,rfl,hi⟩
theorem VRep.bool_ {b:Bool}{x:Value}(r:VRep c h μ ρ (.bool b) x):x=.bool b:=by cases r;rfl
theorem VRep.none_ {x:Value}(r:VRep c h μ ρ .none x):x=.none:=by cases r;rfl
theorem VRep.isN {v:V}{x:Value}(r:VRep c h μ ρ v x):(x=.none∧isNone v=true)∨((∀e:x=.none,False)∧isNone v=false∧plainIs x .none=true):=by
 cases r with
 |none=>exact .inl ⟨rfl,rfl⟩
 |_=>exact .inr ⟨(fun e=>nomatch e),rfl,rfl⟩
inductive IntI (i:Int)(x:Value):Prop
 |mk (t:Tok)(hx:x=.int i t)
theorem VRep.int_ {i:Int}{x:Value}(r:VRep c h μ ρ (.int i) x):IntI i x:=by cases r with | int _ t=>exact⟨t,rfl⟩
inductive StrI (l:CS)(x:Value):Prop
 |mk (t:Tok)(hx:x=.str (sS l) t)
theorem VRep.str_ {l:CS}{x:Value}(r:VRep c h μ ρ (.str l) x):StrI l x:=by cases r with | str _ t=>exact⟨t,rfl⟩
inductive TupI (c:Cx)(h:Heap)(μ:Addr→Prop)(ρ:List (Addr × Addr))(l:List V)(x:Value):Prop
 |mk (xs:Array Value)(a:Addr)(n:Nat)(hx:x=.ref a)(e:h.get? a=some (tupObj xs n))(nn:¬μ a)(vs:VReps c h μ ρ l xs.toList)
theorem VRep.tup_ {l:List V}{x:Value}(r:VRep c h μ ρ (.tup l) x):TupI c h μ ρ l x:=by cases r with | tup e nn vs=>exact⟨_,_,_,rfl,e,nn,vs⟩
inductive LstI (c:Cx)(h:Heap)(μ:Addr→Prop)(ρ:List (Addr × Addr))(l:List V)(x:Value):Prop
 |mk (xs:Array Value)(a:Addr)(n:Nat)(hx:x=.ref a)(e:h.get? a=some (listOf xs n))(nn:¬μ a)(vs:VReps c h μ ρ l xs.toList)
theorem VRep.lst_ {l:List V}{x:Value}(r:VRep c h μ ρ (.lst l) x):LstI c h μ ρ l x:=by cases r with | lst e nn vs=>exact⟨_,_,_,rfl,e,nn,vs⟩
inductive ConsI (c:Cx)(h:Heap)(μ:Addr→Prop)(ρ:List (Addr × Addr))(v:V)(vs:List V)(l:List Value):Prop
 |mk (x:Value)(xs:List Value)(hl:l=x::xs)(a:VRep c h μ ρ v x)(b:VReps c h μ ρ vs xs)
theorem VReps.cons_ {v:V}{vs:List V}{l:List Value}(r:VReps c h μ ρ (v::vs) l):ConsI c h μ ρ v vs l:=by cases r with | cons a b=>exact⟨_,_,rfl,a,b⟩
theorem VReps.nil_ {l:List Value}(r:VReps c h μ ρ [] l):l=[]:=by cases r;rfl
inductive InstI (c:Cx)(h:Heap)(μ:Addr→Prop)(ρ:List (Addr × Addr))(x d:Addr)(C:Nat)(fs:List (Nat × V)):Prop
 |mk (C':Addr)(es:List DictEntry)(n:Nat)(z:C<4)(ha:c.fnA C=some C')(e1:h.get? x=some (instObj C' d))(n1:¬μ x)(e2:h.get? d=some (dictOf es n))(mm:μ d)(frep:FRep c h μ ρ fs es)
theorem CellAt.inst_ {x d:Addr}{C:Nat}{fs:List (Nat × V)}(r:CellAt c h μ ρ (x,d) (.inst C fs)):InstI c h μ ρ x d C fs:=by cases r with | inst z ha e1 n1 e2 mm frep=>exact⟨_,_,_,z,ha,e1,n1,e2,mm,frep⟩
inductive ListI (c:Cx)(h:Heap)(μ:Addr→Prop)(ρ:List (Addr × Addr))(x d:Addr)(l:List V):Prop
 |mk (xs:Array Value)(n:Nat)(hd:x=d)(e:h.get? x=some (listOf xs n))(m:μ x)(v:VReps c h μ ρ l xs.toList)
theorem CellAt.list_ {x d:Addr}{l:List V}(r:CellAt c h μ ρ (x,d) (.list l)):ListI c h μ ρ x d l:=by cases r with | list e m v=>exact⟨_,_,rfl,e,m,v⟩
end

theorem bnd_some {α β:Type}{m:O α}{f:α→List Cell→O β}{r:R β}(h:bnd m f=some r):
  (∃a σ,m=some (.ok a σ)∧f a σ=some r)∨(∃i σ,m=some (.ex i σ)∧r=.ex i σ):=by
 unfold bnd at h
 split at h
 ·exact n0 h
 ·exact .inl ⟨_,_,rfl,h⟩
 ·exact .inr ⟨_,_,rfl,(Option.some.inj h).symm⟩
theorem lif_some {α:Type}{m:Option α}{s:List Cell}{r:R α}(h:lif m s=some r):∃a,m=some a∧r=.ok a s:=by
 unfold lif at h
 induction m using Option.casesOn with
 |none=>cases h
 |some a=>exact⟨a,rfl,(Option.some.inj h).symm⟩

structure Prog (c:Cx):Prop extends Base c where
 inj:∀f g,f<40→g<40→c.an f=c.an g→f=g
 gl:∀g v,c.T.gl g=some v→∃x,c.mg (c.gn g)=some x∧VRep c c.B (fun _=>False) [] v x
 attr:∀g C',g<4→g≠0→c.fnA g=some C'→∀f,f≤10→plainGet c.K C' (c.an f)=true∧hasDictIn c.K C'=true∧∃attr,findIn c.K (.ref C') (c.an f)=some attr∧noGet c.K attr=true
 attr0:∀C',c.fnA 0=some C'→∀f,f≤10→findIn c.K (.ref C') "__getattribute__" = some (some (.builtin "BaseException.__getattribute__"))∧findIn c.K (.ref C') "__getattr__" = some none∧(clsIn c.K C').any (fun cd=>cd.mro.contains (.type "BaseException"))=true∧hasDictIn c.K C'=true∧∃attr,findIn c.K (.ref C') (c.an f)=some attr∧noGet c.K attr=true
 lam:∀k I,c.lamI k=some I→(∀env,defaultsOf I.params env=([],[]))∧I.tab∈c.tabs∧CodeHd c.B I.tab.1 I.tab.2∧(I.scope.names.map (·.1)).Nodup
 lamu:∀k I k' I',c.lamI k=some I→c.lamI k'=some I'→I.tab=I'.tab→k=k'
 bi:∀b y,biV b=some y→c.mg y.1=none∧c.mb y.1=some y.2

structure Go (c:Cx)(n:Nat)(A:Around)(f:FrI)(fs:List FrI)(s:Shared)(μ:Addr→Prop)(ρ:List (Addr × Addr))(σ:List Cell)(nm:List Str)(sc:Scope)(fr:List (Option V)):Prop where
 bs:Prog c
 inv:Inv c (f::fs) μ ρ σ s.heap
 ok:FrI.ok A (f::fs)
 d:A.depth+n<recursionLimit
 u:A.units+8*n+64<cLine
 hsc:f.env.scope=sc
 hcd:∀k I,c.lamI k=some I→I.owner=sc→f.env.code=.ref I.tab.1∧f.env.qual ++ "<lambda>" = I.qual
 fr:FrRep c s.heap μ ρ f nm fr
section
variable {c:Cx}{n n':Nat}{A:Around}{f:FrI}{fs:List FrI}{s s':Shared}{μ μ':Addr→Prop}{ρ ρ':List (Addr × Addr)}{σ σ':List Cell}{nm:List Str}{sc:Scope}{fr:List (Option V)}
theorem Go.less (G:Go c n A f fs s μ ρ σ nm sc fr)(h:n'≤n):Go c n' A f fs s μ ρ σ nm sc fr :=
 ⟨G.bs,G.inv,G.ok,Nat.lt_of_le_of_lt (Nat.add_le_add_left h _) G.d,Nat.lt_of_le_of_lt (Nat.add_le_add_right (Nat.add_le_add_left (Nat.mul_le_mul_left 8 h) _) 64) G.u,G.hsc,G.hcd,G.fr⟩
theorem Go.next (G:Go c n A f fs s μ ρ σ nm sc fr)(x:St c (f::fs) s μ ρ σ' s' μ' ρ'):Go c n A f fs s' μ' ρ' σ' nm sc fr :=
 ⟨G.bs,x.inv,G.ok,G.d,G.u,G.hsc,G.hcd,x.fr G.fr⟩
theorem Go.Fr (G:Go c n A f fs s μ ρ σ nm sc fr):Fr c.B f.L s.heap f.m :=
 let ⟨_,_,_,n,_,l⟩:=G.inv.frames f List.mem_cons_self;⟨n,fun a o e=>(G.inv.base a o e).1,l⟩
theorem Go.K (G:Go c n A f fs s μ ρ σ nm sc fr):c.K.In s.heap:=fun a o e=>(G.inv.base a o (G.bs.XK a o e)).1
end

noncomputable def SX (c:Cx)(n:Nat):Prop:=∀{m nm sc x e},trX c nm sc m x=some e→∀{fr σ r},exX c.T n x fr σ=some r→∀{A f fs s μ ρ},Go c n A f fs s μ ρ σ nm sc fr →
 wpAny (model c.prog c.w) A (eval e f.env) (PX c (f::fs) s μ ρ r) (EX c (f::fs) s μ ρ r) s
inductive PXs (c:Cx)(fs:List FrI)(s:Shared)(μ:Addr→Prop)(ρ:List (Addr × Addr))(r:R (List V))(x:List Value)(s':Shared):Prop
 |mk (v:List V)(σ':List Cell)(μ':Addr→Prop)(ρ':List (Addr × Addr))(e:r=.ok v σ')(st:St c fs s μ ρ σ' s' μ' ρ')(rep:VReps c s'.heap μ' ρ' v x)
noncomputable def SXs (c:Cx)(n:Nat):Prop:=∀{m nm sc x e},trXs c nm sc m x=some e→∀{fr σ r},exXs c.T n x fr σ=some r→∀{A f fs s μ ρ},Go c n A f fs s μ ρ σ nm sc fr →
 ∀pos,wpAny (model c.prog c.w) A (spliced (backTo pos (starEach e f.env))) (PXs c (f::fs) s μ ρ r) (EX c (f::fs) s μ ρ r) s
noncomputable def SCall (c:Cx)(n:Nat):Prop:=∀{v vs σ r},callV c.T n v vs σ=some r→∀{A f fs s μ ρ},Prog c→Inv c (f::fs) μ ρ σ s.heap→FrI.ok A (f::fs)→A.depth+n<recursionLimit→A.units+8*n+64<cLine →
 ∀{x xs},VRep c s.heap μ ρ v x→VReps c s.heap μ ρ vs xs→wpAny (model c.prog c.w) A (call x xs) (PX c (f::fs) s μ ρ r) (EX c (f::fs) s μ ρ r) s

section
variable {c:Cx}{n m:Nat}{A:Around}{f:FrI}{fs:List FrI}{s:Shared}{μ:Addr→Prop}{ρ:List (Addr × Addr)}{σ:List Cell}{nm:List Str}{sc:Scope}{fr:List (Option V)}{x:X}{e:Expr}
theorem SX.run {β:Type}(H:SX c n)(G:Go c n A f fs s μ ρ σ nm sc fr)(ht:trX c nm sc m x=some e){k:V→List Cell→O β}{r:R β}(hr:bnd (exX c.T n x fr σ) k=some r){Q E:Value→Shared→Prop}
  (hk:∀v σ₁ y s₁ μ₁ ρ₁,k v σ₁=some r→Go c n A f fs s₁ μ₁ ρ₁ σ₁ nm sc fr→St c (f::fs) s μ ρ σ₁ s₁ μ₁ ρ₁→VRep c s₁.heap μ₁ ρ₁ v y→Q y s₁)
  (hE:∀e s',EX c (f::fs) s μ ρ r e s'→E e s'):wpAny (model c.prog c.w) A (eval e f.env) Q E s:=by
 rcases bnd_some hr with⟨v,σ₁,h1,h2⟩| ⟨i,σ₁,h1,h2⟩
 ·refine wpAny_mono (H ht h1 G) (fun y s₁ h=>?_) (fun e s' h=>?_)
  ·obtain⟨v',σ',μ',ρ',e1,st,rep⟩:=h
   first | exact n0 e1 | exact n1 e1 | cases e1
   exact hk _ _ _ _ _ _ h2 (G.next st) st rep
  ·obtain⟨i,_,_,_,_,e1,_⟩:=h
   first | exact n0 e1 | exact n1 e1 | cases e1
 ·refine wpAny_mono (H ht h1 G) (fun y s₁ h=>?_) (fun e s' h=>?_)
  ·obtain⟨_,_,_,_,e1,_⟩:=h
   first | exact n0 e1 | exact n1 e1 | cases e1
  ·exact hE _ _ (h.up (.refl G.inv) fun i' σ' e'=>by cases e';exact h2)
theorem SXs.run {β:Type}(H:SXs c n)(G:Go c n A f fs s μ ρ σ nm sc fr){xs:List X}{es:List Expr}(ht:trXs c nm sc m xs=some es){k:List V→List Cell→O β}{r:R β}(hr:bnd (exXs c.T n xs fr σ) k=some r){pos:Pos}{Q:List Value→Shared→Prop}{E:Value→Shared→Prop}
  (hk:∀v σ₁ y s₁ μ₁ ρ₁,k v σ₁=some r→Go c n A f fs s₁ μ₁ ρ₁ σ₁ nm sc fr→St c (f::fs) s μ ρ σ₁ s₁ μ₁ ρ₁→VReps c s₁.heap μ₁ ρ₁ v y→Q y s₁)
  (hE:∀e s',EX c (f::fs) s μ ρ r e s'→E e s'):wpAny (model c.prog c.w) A (spliced (backTo pos (starEach es f.env))) Q E s:=by
 rcases bnd_some hr with⟨v,σ₁,h1,h2⟩| ⟨i,σ₁,h1,h2⟩
 ·refine wpAny_mono (H ht h1 G pos) (fun y s₁ h=>?_) (fun e s' h=>?_)
  ·obtain⟨v',σ',μ',ρ',e1,st,rep⟩:=h
   first | exact n0 e1 | exact n1 e1 | cases e1
   exact hk _ _ _ _ _ _ h2 (G.next st) st rep
  ·obtain⟨i,_,_,_,_,e1,_⟩:=h
   first | exact n0 e1 | exact n1 e1 | cases e1
 ·refine wpAny_mono (H ht h1 G pos) (fun y s₁ h=>?_) (fun e s' h=>?_)
  ·obtain⟨_,_,_,_,e1,_⟩:=h
   first | exact n0 e1 | exact n1 e1 | cases e1
  ·exact hE _ _ (h.up (.refl G.inv) fun i' σ' e'=>by cases e';exact h2)
end

section
variable {c:Cx}{n m:Nat}{A:Around}{f:FrI}{fs:List FrI}{s:Shared}{μ:Addr→Prop}{ρ:List (Addr × Addr)}{σ:List Cell}{nm:List Str}{sc:Scope}{fr:List (Option V)}{e:Expr}{r:R V}

theorem s_none {p:Pos}(G:Go c (n+1) A f fs s μ ρ σ nm sc fr)(ht:trX c nm sc m (.none p)=some e)(hr:exX c.T (n+1) (.none p) fr σ=some r):wpAny (model c.prog c.w) A (eval e f.env) (PX c (f::fs) s μ ρ r) (EX c (f::fs) s μ ρ r) s:=by
 cases m<;>first | exact Mine.n0 ht | obtain rfl:=oi ht
 obtain rfl:=oi hr
 exact fun _ _ _=>⟨_,_,_,_,rfl,.refl G.inv,.none⟩
theorem s_bool {b:Bool}{p:Pos}(G:Go c (n+1) A f fs s μ ρ σ nm sc fr)(ht:trX c nm sc m (.bool b p)=some e)(hr:exX c.T (n+1) (.bool b p) fr σ=some r):wpAny (model c.prog c.w) A (eval e f.env) (PX c (f::fs) s μ ρ r) (EX c (f::fs) s μ ρ r) s:=by
 cases m<;>first | exact Mine.n0 ht | obtain rfl:=oi ht
 obtain rfl:=oi hr
 exact fun _ _ _=>⟨_,_,_,_,rfl,.refl G.inv,.bool b⟩
theorem s_int {i:Int}{p:Pos}(G:Go c (n+1) A f fs s μ ρ σ nm sc fr)(ht:trX c nm sc m (.int i p)=some e)(hr:exX c.T (n+1) (.int i p) fr σ=some r):wpAny (model c.prog c.w) A (eval e f.env) (PX c (f::fs) s μ ρ r) (EX c (f::fs) s μ ρ r) s:=by
 cases m<;>first | exact Mine.n0 ht | obtain rfl:=oi ht
 obtain rfl:=oi hr
 exact fun _ _ _=>⟨_,_,_,_,rfl,.toks G.inv,.int i _⟩
theorem s_str {l:CS}{p:Pos}(G:Go c (n+1) A f fs s μ ρ σ nm sc fr)(ht:trX c nm sc m (.str l p)=some e)(hr:exX c.T (n+1) (.str l p) fr σ=some r):wpAny (model c.prog c.w) A (eval e f.env) (PX c (f::fs) s μ ρ r) (EX c (f::fs) s μ ρ r) s:=by
 cases m<;>first | exact Mine.n0 ht | obtain rfl:=oi ht
 obtain rfl:=oi hr
 exact fun _ _ _=>⟨_,_,_,_,rfl,.toks G.inv,.str l _⟩
theorem not_debug {y:Str}(h:notDebug y=true):(y==("__debug__" : Str))=false∧(y==("__classdict__" : Str))=false:=by
 simpa [notDebug] using h
set_option tactic.hygienic true in theorem s_loc {i:Nat}{p:Pos}(G:Go c (n+1) A f fs s μ ρ σ nm sc fr)(ht:trX c nm sc m (.loc i p)=some e)(hr:exX c.T (n+1) (.loc i p) fr σ=some r):wpAny (model c.prog c.w) A (eval e f.env) (PX c (f::fs) s μ ρ r) (EX c (f::fs) s μ ρ r) s:=by
 induction m using Nat.casesAuxOn with
 |zero=>exact Mine.n0 ht
 |succ m =>
  obtain⟨y,hy,rfl⟩:=mI ht;clear ht
  unfold trLoc at hy
  split at hy
  ·rename_i y' hn
   split at hy
   ·rename_i hc
    obtain rfl:=oi hy
    obtain⟨v,hv,rfl⟩:=lif_some hr
    have hv:fr[i]?=some (some v):=by simpa [Option.join_eq_some_iff] using hv
    obtain⟨hd,hcd⟩:=not_debug (by simp only[Bool.and_eq_true]at hc;exact hc.1)
    obtain⟨_,hl,hk,hns,_⟩:=G.inv.frames f List.mem_cons_self
    refine wpAny_Name ?_ hd
    rcases G.fr i _ v hn hv with⟨k,x,hx,rep⟩| ⟨k,ca,o,x,hca,ho,hd',hnm,rep⟩
    ·exact wpAny_loadName_local hk k (hl▸hns) hx ⟨_,_,_,_,rfl,.refl G.inv,rep⟩
    ·rcases k with k | k
     ·exact wpAny_loadName_cell hk k hca ⟨o,ho,hd'⟩ ⟨_,_,_,_,rfl,.refl G.inv,rep⟩
     ·exact wpAny_loadName_free hk k hca ⟨o,ho,hd'⟩ ⟨_,_,_,_,rfl,.refl G.inv,rep⟩ hcd
   ·exact n0 hy
  ·exact n0 hy
end

theorem bexc_bind (self:Value):bindSpecial (.builtin "BaseException.__getattribute__") self=pure (.builtin "BaseException.__getattribute__",[self]):=by
 kernel_rfl
section
variable {prog:Program}{w:World}{A:Around}{E:Value→Shared→Prop}{s:Shared}{K:Frag}{x C:Addr}{ox:Obj}{od:Option Obj}{name:Str}{expr:Bool}{Q:Value→Shared→Prop}
theorem get_exc {v:Value}(X:K.In s.heap)(I:InstAt s.heap x ox C od)(hga:findIn K (.ref C) "__getattribute__" = some (some (.builtin "BaseException.__getattribute__")))(hgt:findIn K (.ref C) "__getattr__" = some none)
  (hb:(clsIn K C).any (fun cd=>cd.mro.contains (.type "BaseException"))=true) (hf:findObj K C od name=some (.value v)) (hh:handedIn v=true) (h:Q v { s with toks:=s.toks+1 }):wpAny (model prog w) A (getAttr (.ref x) name expr) Q E s:=by
 have hk:builtinKind "BaseException.__getattribute__" = some .slot:=by decide +kernel
 have hsplit:splitId "BaseException.__getattribute__" = some ("BaseException","__getattribute__"):=by decide +kernel
 have hx2:(Value.builtin "BaseException.__getattribute__" == Value.builtin "object.__getattribute__")=false:=by decide +kernel
 have hpl:plainId "BaseException.__getattribute__" = true:=by decide +kernel
 obtain⟨cd,hc,hm⟩:=any_some hb
 have ne:cd.mro.isEmpty=false:=by cases q:cd.mro with | nil=>rw[q]at hm;cases hm | cons _ _=>rfl
 obtain⟨hp,g,d,t,os⟩:=s
 have L0:=I.type (M:=model prog w)
 have L1:=looks_findIn (M:=model prog w) X hga
 have L2:=looks_findIn (M:=model prog w) X hgt
 have L3:=looks_find (M:=model prog w) X I hf
 have sub:Looks (model prog w) hp (isInstance (.ref x) (.type "BaseException")) true:=I.type.andThen (looks_mroIn X (by unfold mroIn;rw[hc,Option.bind_some,if_neg (by rw[ne];decide),hm]))
 unfold getAttr getAttrBy
 refine wpAny_bind (wpAny_mkText (wpAny_holding (wpAny_bind (L0.at (wpAny_bind (L1.at ?_))))))
 dsimp only
 rw[hx2,Bool.and_false,if_neg (by decide)]
 unfold getAttrByItsOwn
 refine wpAny_bind (m:=hookBefore (.ref C)) (show wpAny _ _ (typeLookup (.ref C) "__getattr__") _ _ _ from L2.at ?_)
 have hex:∀e:Bool,callGetattribute (.ref x) (.str name t) (.builtin "BaseException.__getattribute__") e=boundAndCalled (.builtin "BaseException.__getattribute__") (.ref x) (.str name t):=fun e=>by cases e<;>rfl
 rw[hex]
 refine wpAny_bind (wpAny_attempt ?_)
 refine wpAny_holding ?_
 unfold boundAndCalled
 rw[bexc_bind]
 refine wpAny_bind (wpAny_pure ?_)
 refine wpAny_call ?_
 show codeAny _ _ (.call (.builtin "BaseException.__getattribute__") ⟨[.ref x,.str name t],[]⟩) _ _
 refine codeAny_call_builtin hpl F.entry_bexc_ga ?_
 have ha:=F.args_bexc_ga (.ref x) (.str name t)
 refine @check_slot (model prog w) _ _ _ "BaseException.__getattribute__" "BaseException" "__getattribute__" (.ref x) [.str name t] [] _ hk hsplit sub ha ?_
 have e1:slotArgs "__getattribute__" 1 ⟨[.ref x,.str name t],[]⟩=pure (.ref x,[.str name t]):=rfl
 unfold Builtin.«object.__getattribute__»
 rw[e1]
 refine wpAny_bind (wpAny_pure ?_)
 refine wpAny_bind (wpAny_pure (a:=name) ?_)
 refine wpAny_bind (L0.at (wpAny_bind (L3.at ?_)))
 refine wpAny_pure ?_
 show wpAny _ _ (handedOut v) _ _ _
 rw[handedOut_of hh];exact wpAny_pure h
end

theorem VRep.handed {c:Cx}{h:Heap}{μ:Addr→Prop}{ρ:List (Addr × Addr)}{v:V}{x:Value}(r:VRep c h μ ρ v x):handedIn x=true:=by cases r<;>rfl
theorem FRep.get {c:Cx}(P:Prog c){h:Heap}{μ:Addr→Prop}{ρ:List (Addr × Addr)}{f:Nat}(hf:f<40):∀{fs:List (Nat × V)} {es:List DictEntry} {v:V},FRep c h μ ρ fs es→fget f fs=some v →
  ∃x,getL (c.an f) es=some (some x)∧VRep c h μ ρ v x
 |_,_,_,.nil,e=>by simp[fget]at e
 |_,_,v,.cons (f:=g) (e:=en) (es:=es') hg hk rv rest,e=>by
  unfold fget at e
  by_cases q:f=g
  ·rw[if_pos q]at e
   obtain rfl:=oi e
   subst q
   exact⟨_,by simp[getL,List.find?_cons,hk,Value.isStr],rv⟩
  ·rw[if_neg q]at e
   obtain⟨x,hx,r⟩:=FRep.get P hf rest e
   refine⟨x,?_,r⟩
   have hne:en.key.isStr (c.an f)=false:=by
    rw[hk]
    show(c.an g==c.an f)=false
    exact beq_eq_false_iff_ne.mpr fun z=>q (P.inj _ _ hf hg z.symm)
   unfold getL at hx ⊢
   rw[List.find?_cons,hne]
   have hr:(en::es').any (·.refKey)=es'.any (·.refKey):=by
    rw[List.any_cons]
    have:en.refKey=false:=by unfold DictEntry.refKey;rw[hk]
    rw[this,Bool.false_or]
   simpa only[hr] using hx
theorem FRep.getNone {c:Cx}(P:Prog c){h:Heap}{μ:Addr→Prop}{ρ:List (Addr × Addr)}{f:Nat}(hf:f<40):∀{fs:List (Nat × V)} {es:List DictEntry},FRep c h μ ρ fs es→fget f fs=none→getL (c.an f) es=some none:=fun H=>H.ind (P:=fun fs es=>fget f fs=none→getL (c.an f) es=some none) (fun _=>rfl) fun{g _ _ en es' _} hg hk rv rest ih e=>by
  unfold fget at e
  by_cases q:f=g
  ·rw[if_pos q]at e
   first | exact n0 e | exact n1 e
  ·rw[if_neg q]at e
   have hx:=ih e
   have hne:en.key.isStr (c.an f)=false:=by
    rw[hk]
    show(c.an g==c.an f)=false
    exact beq_eq_false_iff_ne.mpr fun z=>q (P.inj _ _ hf hg z.symm)
   unfold getL at hx ⊢
   rw[List.find?_cons,hne]
   have hr:(en::es').any (·.refKey)=es'.any (·.refKey):=by
    rw[List.any_cons]
    have:en.refKey=false:=by unfold DictEntry.refKey;rw[hk]
    rw[this,Bool.false_or]
   simpa only[hr] using hx

section
variable {c:Cx}{n m:Nat}{A:Around}{f:FrI}{fs:List FrI}{s:Shared}{μ:Addr→Prop}{ρ:List (Addr × Addr)}{σ:List Cell}{nm:List Str}{sc:Scope}{fr:List (Option V)}{e:Expr}{r:R V}
theorem Go.up0 (G:Go c n A f fs s μ ρ σ nm sc fr){v:V}{x:Value}(h:VRep c c.B (fun _=>False) [] v x):VRep c s.heap μ ρ v x :=
 h.mono (fun a o e _=>G.inv.base a o e) (List.nil_prefix)
theorem Go.glob (G:Go c n A f fs s μ ρ σ nm sc fr){y:Str}(hd:notDebug y=true)(hk:sc.names.lookup y=some .globalImplicit){x:Value}(hx:c.mg y=some x){p:Pos}{Q E:Value→Shared→Prop}(h:Q x s):wpAny (model c.prog c.w) A (eval (.Name y p) f.env) Q E s:=by
 obtain⟨_,_,hkf,_⟩:=G.inv.frames f List.mem_cons_self
 obtain⟨hg,hb⟩:=G.ok.g f List.mem_cons_self
 refine Calls.Name_function_global hkf (by show f.env.scope.names.lookup y=_;rw[G.hsc];exact hk) (Calls.loadGlobal_global (by rw[hg];exact G.bs.T.g.keeps G.Fr.keep) hx h) (not_debug hd).1
theorem Go.builtin (G:Go c n A f fs s μ ρ σ nm sc fr){y:Str}(hd:notDebug y=true)(hk:sc.names.lookup y=some .globalImplicit){x:Value}(hx:c.mg y=none)(hy:c.mb y=some x){p:Pos}{Q E:Value→Shared→Prop}(h:Q x s):wpAny (model c.prog c.w) A (eval (.Name y p) f.env) Q E s:=by
 obtain⟨_,_,hkf,_⟩:=G.inv.frames f List.mem_cons_self
 obtain⟨hg,hb⟩:=G.ok.g f List.mem_cons_self
 refine Calls.Name_function_global hkf (by show f.env.scope.names.lookup y=_;rw[G.hsc];exact hk) (Calls.loadGlobal_builtin (by rw[hg];exact G.bs.T.g.keeps G.Fr.keep) hx (by rw[hb];exact G.bs.T.b.keeps G.Fr.keep) hy h) (not_debug hd).1
theorem s_glob {g:Nat}{p:Pos}(G:Go c (n+1) A f fs s μ ρ σ nm sc fr)(ht:trX c nm sc m (.glob g p)=some e)(hr:exX c.T (n+1) (.glob g p) fr σ=some r):wpAny (model c.prog c.w) A (eval e f.env) (PX c (f::fs) s μ ρ r) (EX c (f::fs) s μ ρ r) s:=by
 induction m using Nat.casesAuxOn with
 |zero=>exact Mine.n0 ht
 |succ m =>
  simp only[eT_glob]at ht
  split at ht
  ·rename_i hc
   obtain rfl:=oi ht
   obtain⟨v,hv,rfl⟩:=lif_some hr
   obtain⟨x,hx,rep⟩:=G.bs.gl _ _ hv
   simp only[Bool.and_eq_true,beq_iff_eq]at hc
   exact G.glob hc.1 hc.2 hx ⟨_,_,_,_,rfl,.refl G.inv,G.up0 rep⟩
  ·exact n0 ht
theorem wp_base {M:Model}{o:Expr}{attr:Str}{env:Env}{whole:Sem Value}(hs:noSuper o=true):attributeBase o attr env whole=whole:=by
 cases o with
 |Call f as ks p =>
  cases f with
  |Name id q =>
   induction as using List.casesOn with
   |nil =>
    induction ks using List.casesOn with
    |nil=>exact if_pos (by rw[show(id != ("super" : Str))=true from hs];rfl)
    |_=>rfl
   |_=>rfl
  |_=>rfl
 |_=>rfl
theorem notCls_fields {o:Obj}{vs:Array Value}(h:o.data=.fields vs):notCls o=true:=by unfold notCls;rw[h]
theorem Inv.field (P:Prog c)(I:Inv c (f::fs) μ ρ σ s.heap){v w:V}{x:Value}{g:Nat}(hg:g≤10)(rep:VRep c s.heap μ ρ v x)(hv:attrV σ g v=some w){expr:Bool}{A:Around}{Q E:Value→Shared→Prop}
  (h:∀y,VRep c s.heap μ ρ w y→Q y { s with toks:=s.toks+1 }):wpAny (model c.prog c.w) A (getAttr x (c.an g) expr) Q E s:=by
 have FR:Fr c.B f.L s.heap f.m:=let ⟨_,_,_,n,_,l⟩:=I.frames f List.mem_cons_self;⟨n,fun a o e=>(I.base a o e).1,l⟩
 have go:∀{C C' x ox dx fs es k},C<4→C≠0→c.fnA C=some C'→s.heap.get? x=some ox→ox.cls=.ref C'→notCls ox=true→ox.dict=some dx→s.heap.get? dx=some (dictOf es k)→FRep c s.heap μ ρ fs es→fget g fs=some w→wpAny (model c.prog c.w) A (getAttr (.ref x) (c.an g) expr) Q E s:=by
  intro C C' x ox dx fs es k hC hC0 hA ho hc hn hd hdx fr hf
  obtain⟨y,hy,ry⟩:=fr.get P (le40 hg) hf
  obtain⟨p1,p2,at',p3,p4⟩:=P.attr C C' hC hC0 hA g hg
  exact get_own FR P.XK (ox:=ox) (C:=C') (es:=es) (n:=k) ⟨ho,hc,hn,by rw[hd];exact hdx⟩ p1 p2 p3 p4 hy ry.handed (h y ry)
 cases attO hv with
 |inst hcell h0 hv2 =>
  obtain⟨_,_,rfl,hi⟩:=rep.ref_
  obtain⟨p,hp,ca⟩:=I.cells.get hcell
  rw[hi]at hp
  obtain rfl:=oi hp
  cases ca with
  |inst z a e1 n1 e2 m' fr=>exact go z h0 a e1 rfl rfl rfl e2 fr hv2
 |exc hcell hv2 =>
  obtain⟨_,_,rfl,hi⟩:=rep.ref_
  obtain⟨p,hp,ca⟩:=I.cells.get hcell
  rw[hi]at hp
  obtain rfl:=oi hp
  cases ca with
  |exc z a e1 o1 o2 o3 m' e2 n2 fr =>
   obtain⟨y,hy,ry⟩:=fr.get P (le40 hg) hv2
   obtain⟨p1,p2,p3,p4,at',p5,p6⟩:=P.attr0 _ a g hg
   exact get_exc (fun a o e=>(I.base a o (P.XK a o e)).1) ⟨e1,o1,notCls_fields o3,by rw[o2];exact e2⟩ p1 p2 p3 (findObj_own p4 p5 p6 (by rw[lookIn_dict,hy])) ry.handed (h y ry)
theorem Go.field (G:Go c n A f fs s μ ρ σ nm sc fr){v w:V}{x:Value}{g:Nat}(hg:g≤10)(rep:VRep c s.heap μ ρ v x)(hv:attrV σ g v=some w){expr:Bool}{Q E:Value→Shared→Prop}
  (h:∀y,VRep c s.heap μ ρ w y→Q y { s with toks:=s.toks+1 }):wpAny (model c.prog c.w) A (getAttr x (c.an g) expr) Q E s:=G.inv.field G.bs hg rep hv h
theorem s_attr {x:X}{g:Nat}{p:Pos}(H:SX c n)(G:Go c (n+1) A f fs s μ ρ σ nm sc fr)(ht:trX c nm sc m (.attr x g p)=some e)(hr:exX c.T (n+1) (.attr x g p) fr σ=some r):wpAny (model c.prog c.w) A (eval e f.env) (PX c (f::fs) s μ ρ r) (EX c (f::fs) s μ ρ r) s:=by
 induction m using Nat.casesAuxOn with
 |zero=>exact Mine.n0 ht
 |succ m =>
  obtain⟨e',ht',hz_⟩:=bI ht;clear ht;rename _=>ht
  split at ht
  ·rename_i hc
   simp only[Bool.and_eq_true,decide_eq_true_eq]at hc
   obtain rfl:=oi ht
   rw[arm_eval_Attribute,wp_base (M:=model c.prog c.w) hc.1]
   refine wpAny_bind (H.run (G.less (Nat.le_succ _)) ht' hr (fun v σ₁ y s₁ μ₁ ρ₁ hk G₁ st rep=>?_) fun _ _ h=>h)
   obtain⟨w,hw,rfl⟩:=lif_some hk
   refine wpAny_bind (wpAny_standAt (wpAny_bind (wpAny_holding (G₁.field hc.2 rep hw fun z rz=>?_))))
   exact wpAny_bind (wpAny_letTemporaryGo (wpAny_pure ⟨_,_,_,_,rfl,st.then,rz⟩))
  ·exact n0 ht
end

theorem VReps.len {c:Cx}{h:Heap}{μ:Addr→Prop}{ρ:List (Addr × Addr)}:∀{l:List V} {xs:List Value},VReps c h μ ρ l xs→l.length=xs.length:=fun H=>H.ind (P:=fun l xs=>l.length=xs.length) rfl fun _ _ ih=>congrArg (· + 1) ih
theorem VReps.app {c:Cx}{h:Heap}{μ:Addr→Prop}{ρ:List (Addr × Addr)}:∀{l l':List V} {xs xs':List Value},VReps c h μ ρ l xs→VReps c h μ ρ l' xs'→VReps c h μ ρ (l++l') (xs++xs'):=fun{l l' xs xs'} H y=>H.ind (P:=fun l xs=>VReps c h μ ρ (l++l') (xs++xs')) y fun a _ ih=>.cons a ih
theorem VReps.get {c:Cx}{h:Heap}{μ:Addr→Prop}{ρ:List (Addr × Addr)}:∀{l:List V} {xs:List Value} {i:Nat} {v:V},VReps c h μ ρ l xs→l[i]?=some v→∃x,xs[i]?=some x∧VRep c h μ ρ v x
 |_,_,_,_,.nil,e=>by simp at e
 |_,_,0,_,.cons a _,e=>by cases e;exact⟨_,rfl,a⟩
 |_,_,_+1,_,.cons _ b,e=>b.get (by simpa using e)
theorem VReps.take {c:Cx}{h:Heap}{μ:Addr→Prop}{ρ:List (Addr × Addr)}:∀{l:List V} {xs:List Value} (k:Nat),VReps c h μ ρ l xs→VReps c h μ ρ (l.take k) (xs.take k)
 |_,_,0,_=>by simpa using VReps.nil
 |_,_,_+1,.nil=>by simpa using VReps.nil
 |_,_,k+1,.cons a b=>.cons a (b.take k)
theorem VReps.drop {c:Cx}{h:Heap}{μ:Addr→Prop}{ρ:List (Addr × Addr)}:∀{l:List V} {xs:List Value} (k:Nat),VReps c h μ ρ l xs→VReps c h μ ρ (l.drop k) (xs.drop k)
 |_,_,0,r=>by simpa using r
 |_,_,_+1,.nil=>by simpa using VReps.nil
 |_,_,k+1,.cons a b=>by simpa using b.drop k
theorem sS_app (a b:CS):sS a++sS b=sS (a++b):=by
 show(⟨a.toArray++b.toArray⟩:Str)=⟨(a++b).toArray⟩
 simp
theorem sS_len (a:CS):(sS a).length=a.length:=by show a.toArray.size=_;simp
theorem sml_le {k:Nat}(h:sml k=true):k≤1000:=of_decide_eq_true h
section
variable {c:Cx}{n m:Nat}{A:Around}{f:FrI}{fs:List FrI}{s:Shared}{μ:Addr→Prop}{ρ:List (Addr × Addr)}{σ:List Cell}{nm:List Str}{sc:Scope}{fr:List (Option V)}{e:Expr}{r:R V}
theorem Go.items (G:Go c n A f fs s μ ρ σ nm sc fr){v:V}{x:Value}{l:List V}(rep:VRep c s.heap μ ρ v x)(h:items σ v=some l):∃a xs k,x=.ref a∧IsL s.heap a xs k∧VReps c s.heap μ ρ l xs.toList:=by
 cases itI h with
 |lst =>
  obtain⟨_,_,_,rfl,e,_,vs⟩:=rep.lst_
  exact⟨_,_,_,rfl,e,vs⟩
 |ref hcell =>
  obtain⟨_,_,rfl,hi⟩:=rep.ref_
  obtain⟨p,hp,ca⟩:=G.inv.cells.get hcell
  rw[hi]at hp
  obtain rfl:=oi hp
  obtain⟨_,_,rfl,e,_,vs⟩:=ca.list_
  exact⟨_,_,_,rfl,e,vs⟩
theorem St.push {c:Cx}{fs:List FrI}{s:Shared}{μ:Addr→Prop}{ρ:List (Addr × Addr)}{σ:List Cell}(I:Inv c fs μ ρ σ s.heap)(o:Obj){tk:Nat}:St c fs s μ ρ σ { s with heap:=s.heap.push o,toks:=tk } μ ρ :=
 .keep I (fun _ _ e=>Heap.get?_push_of_some o e) (by rw[Heap.size_push];exact Nat.le_succ _)
theorem Inv.free {c:Cx}{fs:List FrI}{s:Shared}{μ:Addr→Prop}{ρ:List (Addr × Addr)}{σ:List Cell}(I:Inv c fs μ ρ σ s.heap):¬μ s.heap.objs.size:=fun h=>Nat.lt_irrefl _ (I.mlt _ h)
theorem rep_tup {s:Shared}{l:List V}{xs:List Value}(I:Inv c (f::fs) μ ρ σ s.heap)(vs:VReps c s.heap μ ρ l xs){tk:Nat}:VRep c (s.heap.push { cls:=.type "tuple",data:=.seq xs.toArray }) μ ρ (.tup l) (.ref s.heap.objs.size):=
 .tup (Heap.get?_push_size _ rfl) I.free (by
  have:=vs.mono (St.push I { cls:=.type "tuple",data:=.seq xs.toArray } (tk:=tk)).grow (List.prefix_refl _)
  simpa using this)
theorem rep_lst {s:Shared}{l:List V}{xs:Array Value}(I:Inv c (f::fs) μ ρ σ s.heap)(vs:VReps c s.heap μ ρ l xs.toList){tk:Nat}:VRep c (s.heap.push { cls:=.type "list",data:=.seq xs }) μ ρ (.lst l) (.ref s.heap.objs.size):=
 .lst (n:=0) (Heap.get?_push_size _ rfl) I.free (vs.mono (St.push I { cls:=.type "list",data:=.seq xs } (tk:=tk)).grow (List.prefix_refl _))

theorem intBits_le {x:Int}(h:x.natAbs<2 ^ 64):Builtin.Int.intBits x≤64:=by
 unfold Builtin.Int.intBits
 by_cases h0:x=0
 ·simp[h0]
 ·have h1:x.natAbs.log2<64:=(Nat.log2_lt (Int.natAbs_ne_zero.mpr h0)).mpr h
  have h2:(x==0)=false:=beq_eq_false_iff_ne.mpr h0
  rw[h2]
  exact h1
theorem Go.bin (G:Go c n A f fs s μ ρ σ nm sc fr){op:Operator}{a b w:V}{x y:Value}(ra:VRep c s.heap μ ρ a x)(rb:VRep c s.heap μ ρ b y)(h:binV σ op a b=some w){Q E:Value→Shared→Prop}
  (k:∀z s',St c (f::fs) s μ ρ σ s' μ ρ→VRep c s'.heap μ ρ w z→Q z s'):wpAny (model c.prog c.w) A (binaryOp op x y) Q E s:=by
 cases binO h with
 |add=>obtain⟨_,rfl⟩:=ra.int_;obtain⟨_,rfl⟩:=rb.int_;exact wpAny_add_int (k _ _ (.toks G.inv) (.int _ _))
 |sub=>obtain⟨_,rfl⟩:=ra.int_;obtain⟨_,rfl⟩:=rb.int_;exact PyProof.Rows.sub_int (k _ _ (.toks G.inv) (.int _ _))
 |mul hb=>obtain⟨_,rfl⟩:=ra.int_;obtain⟨_,rfl⟩:=rb.int_;exact PyProof.Rows.mul_int (k _ _ (.toks G.inv) (.int _ _)) (IntMulOk.of_left (intBits_le hb))
 |mod hb=>obtain⟨_,rfl⟩:=ra.int_;obtain⟨_,rfl⟩:=rb.int_;exact mod_int' hb (k _ _ (.toks G.inv) (.int _ _))
 |pow hb=>obtain⟨_,rfl⟩:=ra.int_;obtain⟨_,rfl⟩:=rb.int_;exact pow_int_small (by decide) (by decide) hb (k _ _ (.toks G.inv) (.int _ _))
 |div h0 hb =>
  obtain⟨_,rfl⟩:=ra.int_;obtain⟨_,rfl⟩:=rb.int_
  exact floordiv_int h0 (k _ _ (.toks G.inv) (.int _ _)) (.inl (PyProof.noPylong_of_log2 (Nat.lt_of_lt_of_le ((Nat.log2_lt (Int.natAbs_ne_zero.mpr h0)).mpr hb) (by decide))))
 |str hb =>
  obtain⟨_,rfl⟩:=ra.str_;obtain⟨_,rfl⟩:=rb.str_
  refine SBL.add (fun t' k' _=>?_) (by rw[sS_len,sS_len];exact sz_ hb)
  rw[sS_app]
  exact k _ _ (.toks G.inv) (.str _ _)
 |lst hx hy hb =>
  obtain⟨p,xs,k1,rfl,l1,v1⟩:=G.items ra hx
  obtain⟨q,ys,k2,rfl,l2,v2⟩:=G.items rb hy
  exact P.add_list l1 l2 (k _ _ (St.push G.inv _ (tk:=s.toks)) (rep_lst (tk:=0) G.inv (by rw[Array.toList_append];exact v1.app v2))) (by
   rw[sizeLine_eq,←Array.length_toList,←Array.length_toList,←v1.len,←v2.len];exact Nat.le_trans hb (by decide))
theorem s_bin {l y:X}{op:Operator}{p:Pos}(H:SX c n)(G:Go c (n+1) A f fs s μ ρ σ nm sc fr)(ht:trX c nm sc m (.bin l op y p)=some e)(hr:exX c.T (n+1) (.bin l op y p) fr σ=some r):wpAny (model c.prog c.w) A (eval e f.env) (PX c (f::fs) s μ ρ r) (EX c (f::fs) s μ ρ r) s:=by
 induction m using Nat.casesAuxOn with
 |zero=>exact Mine.n0 ht
 |succ m =>
  obtain⟨e1,h1,hz_⟩:=bI ht;clear ht;rename _=>ht
  obtain⟨e2,h2,hz_⟩:=bI ht;clear ht;rename _=>ht
  obtain rfl:=oi ht
  refine wpAny_BinOp (H.run (G.less (Nat.le_succ _)) h1 hr (fun v σ₁ y₁ s₁ μ₁ ρ₁ hk G₁ st rep=>?_) fun _ _ h=>h)
  refine H.run G₁ h2 hk (fun w σ₂ y₂ s₂ μ₂ ρ₂ hk G₂ st' rep'=>?_) fun _ _ h=>h.up st fun _ _ z=>z
  obtain⟨z,hz,rfl⟩:=lif_some hk
  exact G₂.bin (st'.up rep) rep' hz fun z s' st'' rz=>⟨_,_,_,_,rfl,(st.trans st').trans st'',rz⟩
theorem int_ne (i:Int):(i != 0)=!decide (i=0):=rfl
theorem len_ne {α:Type}(l:List α):((l.length:Int) != 0)=!l.isEmpty:=by cases l<;>rfl
theorem items_ref {i:Nat}{l:List V}(h:σ[i]?=some (.list l)):items σ (.ref i)=some l:=by
 show(match σ[i]? with | some (.list l)=>some l | _=>none)=_;rw[h]
theorem arr_empty {α:Type}(xs:Array α):xs.isEmpty=xs.toList.isEmpty:=by cases xs with | mk l=>cases l<;>rfl
theorem len_empty {α β:Type}{l:List α}{r:List β}(h:l.length=r.length):l.isEmpty=r.isEmpty:=by
 cases l<;>cases r<;>first | rfl | exact Nat.noConfusion h
theorem Go.truth (G:Go c n A f fs s μ ρ σ nm sc fr){v:V}{x:Value}{b:Bool}(rep:VRep c s.heap μ ρ v x)(h:truthy σ v=some b){Q:Bool→Shared→Prop}{E:Value→Shared→Prop}
  (k:∀s',St c (f::fs) s μ ρ σ s' μ ρ→s'.heap=s.heap→Q b s'):wpAny (model c.prog c.w) A (PySem.truthy x) Q E s:=by
 cases truI h with
 |none=>obtain rfl:=rep.none_;exact fun _ _ _=>k _ (.refl G.inv) rfl
 |bool b'=>obtain rfl:=rep.bool_;exact fun _ _ _=>k _ (.refl G.inv) rfl
 |int i =>
  obtain⟨_,rfl⟩:=rep.int_
  refine PyProof.Rows.truthy_int ?_
  rw[int_ne]
  exact k s (.refl G.inv) rfl
 |str hb =>
  obtain⟨_,rfl⟩:=rep.str_
  refine PySem.P.truthy_str (by rw[sS_len];exact Int.not_le.mpr (fit_ hb)) ?_
  rw[sS_len,len_ne]
  exact k { s with toks:=s.toks+1+1 } (.toks G.inv) rfl
 |ref hcell hb =>
  obtain⟨a,xs,k1,rfl,hl,vs⟩:=G.items rep (items_ref hcell)
  have e1:=vs.len
  refine wpAny_truthy_list hl.isList (fit_ (Nat.le_trans (Nat.le_of_eq (Array.length_toList.symm.trans e1.symm)) hb)) ?_
  rw[arr_empty,←len_empty e1]
  exact k { s with toks:=s.toks+1+1 } (.toks G.inv) rfl
end

noncomputable def Tru (σ':List Cell)(v:V):Prop:=∃b,truthy σ' v=some b
inductive PT (c:Cx)(fs:List FrI)(s:Shared)(μ:Addr→Prop)(ρ:List (Addr × Addr))(r:R V)(b:Bool)(s':Shared):Prop
 |mk (v:V)(σ':List Cell)(μ':Addr→Prop)(ρ':List (Addr × Addr))(e:r=.ok v σ')(st:St c fs s μ ρ σ' s' μ' ρ')(t:truthy σ' v=some b)
noncomputable def ST (c:Cx)(n:Nat):Prop:=∀{m nm sc x e},trX c nm sc m x=some e→∀{fr σ r},exX c.T n x fr σ=some r→(∀v σ',r=.ok v σ'→Tru σ' v)→∀{A f fs s μ ρ},Go c n A f fs s μ ρ σ nm sc fr →
 wpAny (model c.prog c.w) A (PySem.isTrue e f.env (eval e f.env)) (PT c (f::fs) s μ ρ r) (EX c (f::fs) s μ ρ r) s
noncomputable def bop:Bool→BoolOp
 |true=>.And
 |false=>.Or
noncomputable def SBool (c:Cx)(n:Nat):Prop:=∀{m nm sc xs es},trXs c nm sc m xs=some es→∀{b fr σ r},exBool c.T n b xs fr σ=some r→∀{A f fs s μ ρ},Go c n A f fs s μ ρ σ nm sc fr →
 ∀pos,wpAny (model c.prog c.w) A (eval (.BoolOp (bop b) es pos) f.env) (PX c (f::fs) s μ ρ r) (EX c (f::fs) s μ ρ r) s
noncomputable def SBoolT (c:Cx)(n:Nat):Prop:=∀{m nm sc xs es},trXs c nm sc m xs=some es→∀{b fr σ r},exBool c.T n b xs fr σ=some r→(∀v σ',r=.ok v σ'→Tru σ' v)→∀{A f fs s μ ρ},Go c n A f fs s μ ρ σ nm sc fr →
 ∀pos whole,wpAny (model c.prog c.w) A (PySem.isTrue (.BoolOp (bop b) es pos) f.env whole) (PT c (f::fs) s μ ρ r) (EX c (f::fs) s μ ρ r) s

section
variable {c:Cx}{n m:Nat}{A:Around}{f:FrI}{fs:List FrI}{s:Shared}{μ:Addr→Prop}{ρ:List (Addr × Addr)}{σ:List Cell}{nm:List Str}{sc:Scope}{fr:List (Option V)}{e:Expr}{r:R V}
theorem trXs_cons {x:X}{l:List X}{es:List Expr}(h:trXs c nm sc m (x::l)=some es):∃m' e es',m=m'+1∧trX c nm sc m' x=some e∧trXs c nm sc m' l=some es'∧es=e::es'∧∀v p,e≠.Starred v p:=by
 induction m using Nat.casesAuxOn with
 |zero=>exact Mine.n0 h
 |succ m =>
  obtain⟨e,h1,hz_⟩:=bI h;clear h;rename _=>h
  obtain⟨es',h2,hz_⟩:=bI h;clear h;rename _=>h
  obtain⟨hne,rfl⟩:=ifN h
  exact⟨m,e,es',rfl,h1,h2,rfl,fun v p q=>hne (congrArg isStar q)⟩
theorem trXs_nil {es:List Expr}(h:trXs c nm sc m []=some es):es=[]:=by
 induction m using Nat.casesAuxOn with
 |zero=>exact Mine.n0 h
 |succ m=>exact(oi h).symm
theorem ST.run {β:Type}{x:X}(H:ST c n)(G:Go c n A f fs s μ ρ σ nm sc fr)(ht:trX c nm sc m x=some e){k:V→List Cell→O β}{r:R β}(hr:bnd (exX c.T n x fr σ) k=some r){Q:Bool→Shared→Prop}{E:Value→Shared→Prop}
  (htr:∀v σ₁,k v σ₁=some r→Tru σ₁ v)
  (hk:∀v b σ₁ s₁ μ₁ ρ₁,k v σ₁=some r→truthy σ₁ v=some b→Go c n A f fs s₁ μ₁ ρ₁ σ₁ nm sc fr→St c (f::fs) s μ ρ σ₁ s₁ μ₁ ρ₁→Q b s₁)
  (hE:∀e s',EX c (f::fs) s μ ρ r e s'→E e s'):wpAny (model c.prog c.w) A (PySem.isTrue e f.env (eval e f.env)) Q E s:=by
 rcases bnd_some hr with⟨v,σ₁,h1,h2⟩| ⟨i,σ₁,h1,h2⟩
 ·refine wpAny_mono (H ht h1 (fun v' σ' q=>by cases q;exact htr _ _ h2) G) (fun y s₁ h=>?_) (fun e s' h=>?_)
  ·obtain⟨v',σ',μ',ρ',e1,st,tt⟩:=h
   first | exact n0 e1 | exact n1 e1 | cases e1
   exact hk _ _ _ _ _ _ h2 tt (G.next st) st
  ·obtain⟨i,_,_,_,_,e1,_⟩:=h
   first | exact n0 e1 | exact n1 e1 | cases e1
 ·refine wpAny_mono (H ht h1 (fun v' σ' q=>by cases q) G) (fun y s₁ h=>?_) (fun e s' h=>?_)
  ·obtain⟨_,_,_,_,e1,_⟩:=h
   first | exact n0 e1 | exact n1 e1 | cases e1
  ·exact hE _ _ (h.up (.refl G.inv) fun i' σ' e'=>by cases e';exact h2)

theorem s_not {x:X}{p:Pos}(H:SX c n)(G:Go c (n+1) A f fs s μ ρ σ nm sc fr)(ht:trX c nm sc m (.not x p)=some e)(hr:exX c.T (n+1) (.not x p) fr σ=some r):wpAny (model c.prog c.w) A (eval e f.env) (PX c (f::fs) s μ ρ r) (EX c (f::fs) s μ ρ r) s:=by
 induction m using Nat.casesAuxOn with
 |zero=>exact Mine.n0 ht
 |succ m =>
  obtain⟨e1,h1,hz_⟩:=bI ht;clear ht;rename _=>ht
  obtain rfl:=oi ht
  show wpAny _ A (do let v ←eval e1 f.env;standAt p;holding [v] (unaryOp .Not v)) _ _ s
  refine wpAny_bind (H.run (G.less (Nat.le_succ _)) h1 hr (fun v σ₁ y₁ s₁ μ₁ ρ₁ hk G₁ st rep=>?_) fun _ _ h=>h)
  obtain⟨z,hz,rfl⟩:=lif_some hk
  simp only[Option.map_eq_some_iff]at hz
  obtain⟨b,hb,rfl⟩:=hz
  refine wpAny_bind (wpAny_standAt (wpAny_holding ?_))
  exact PyProof.Rows.not_of (G₁.truth rep hb fun s' st' _=>⟨_,_,_,_,rfl,st.trans st',.bool _⟩)
theorem t_not {x:X}{p:Pos}(H:ST c n)(G:Go c (n+1) A f fs s μ ρ σ nm sc fr)(ht:trX c nm sc m (.not x p)=some e)(hr:exX c.T (n+1) (.not x p) fr σ=some r):wpAny (model c.prog c.w) A (PySem.isTrue e f.env (eval e f.env)) (PT c (f::fs) s μ ρ r) (EX c (f::fs) s μ ρ r) s:=by
 induction m using Nat.casesAuxOn with
 |zero=>exact Mine.n0 ht
 |succ m =>
  obtain⟨e1,h1,hz_⟩:=bI ht;clear ht;rename _=>ht
  obtain rfl:=oi ht
  refine isTrue_not (H.run (G.less (Nat.le_succ _)) h1 hr (fun v σ₁ hk=>?_) (fun v b σ₁ s₁ μ₁ ρ₁ hk hb G₁ st=>?_) fun _ _ h=>h)
  ·obtain⟨z,hz,rfl⟩:=lif_some hk
   simp only[Option.map_eq_some_iff]at hz
   obtain⟨b,hb,rfl⟩:=hz
   exact⟨b,hb⟩
  ·rw[hb]at hk
   obtain⟨z,hz,rfl⟩:=lif_some hk
   obtain rfl:=oi hz
   exact⟨_,_,_,_,rfl,st,rfl⟩
theorem s_neg {x:X}{p:Pos}(H:SX c n)(G:Go c (n+1) A f fs s μ ρ σ nm sc fr)(ht:trX c nm sc m (.neg x p)=some e)(hr:exX c.T (n+1) (.neg x p) fr σ=some r):wpAny (model c.prog c.w) A (eval e f.env) (PX c (f::fs) s μ ρ r) (EX c (f::fs) s μ ρ r) s:=by
 induction m using Nat.casesAuxOn with
 |zero=>exact Mine.n0 ht
 |succ m =>
  obtain⟨e1,h1,hz_⟩:=bI ht;clear ht;rename _=>ht
  obtain rfl:=oi ht
  show wpAny _ A (do let v ←eval e1 f.env;standAt p;holding [v] (unaryOp .USub v)) _ _ s
  refine wpAny_bind (H.run (G.less (Nat.le_succ _)) h1 hr (fun v σ₁ y₁ s₁ μ₁ ρ₁ hk G₁ st rep=>?_) fun _ _ h=>h)
  split at hk
  ·obtain rfl:=oi hk
   first | exact n0 rep | exact n1 rep | cases rep
   exact wpAny_bind (wpAny_standAt (wpAny_holding (neg_int ⟨_,_,_,_,rfl,st.then,.int _ _⟩)))
  ·exact n0 hk
theorem s_and {xs:List X}{p:Pos}(H:SBool c n)(G:Go c (n+1) A f fs s μ ρ σ nm sc fr)(ht:trX c nm sc m (.and xs p)=some e)(hr:exX c.T (n+1) (.and xs p) fr σ=some r):wpAny (model c.prog c.w) A (eval e f.env) (PX c (f::fs) s μ ρ r) (EX c (f::fs) s μ ρ r) s:=by
 induction m using Nat.casesAuxOn with
 |zero=>exact Mine.n0 ht
 |succ m =>
  obtain⟨es,h1,hz_⟩:=bI ht;clear ht;rename _=>ht
  obtain rfl:=oi ht
  exact H h1 hr (G.less (Nat.le_succ _)) p
theorem s_or {xs:List X}{p:Pos}(H:SBool c n)(G:Go c (n+1) A f fs s μ ρ σ nm sc fr)(ht:trX c nm sc m (.or xs p)=some e)(hr:exX c.T (n+1) (.or xs p) fr σ=some r):wpAny (model c.prog c.w) A (eval e f.env) (PX c (f::fs) s μ ρ r) (EX c (f::fs) s μ ρ r) s:=by
 induction m using Nat.casesAuxOn with
 |zero=>exact Mine.n0 ht
 |succ m =>
  obtain⟨es,h1,hz_⟩:=bI ht;clear ht;rename _=>ht
  obtain rfl:=oi ht
  exact H h1 hr (G.less (Nat.le_succ _)) p
theorem t_and {xs:List X}{p:Pos}(H:SBoolT c n)(G:Go c (n+1) A f fs s μ ρ σ nm sc fr)(ht:trX c nm sc m (.and xs p)=some e)(hr:exX c.T (n+1) (.and xs p) fr σ=some r)(htr:∀v σ',r=.ok v σ'→Tru σ' v):wpAny (model c.prog c.w) A (PySem.isTrue e f.env (eval e f.env)) (PT c (f::fs) s μ ρ r) (EX c (f::fs) s μ ρ r) s:=by
 induction m using Nat.casesAuxOn with
 |zero=>exact Mine.n0 ht
 |succ m =>
  obtain⟨es,h1,hz_⟩:=bI ht;clear ht;rename _=>ht
  obtain rfl:=oi ht
  exact H h1 hr htr (G.less (Nat.le_succ _)) p _
theorem t_or {xs:List X}{p:Pos}(H:SBoolT c n)(G:Go c (n+1) A f fs s μ ρ σ nm sc fr)(ht:trX c nm sc m (.or xs p)=some e)(hr:exX c.T (n+1) (.or xs p) fr σ=some r)(htr:∀v σ',r=.ok v σ'→Tru σ' v):wpAny (model c.prog c.w) A (PySem.isTrue e f.env (eval e f.env)) (PT c (f::fs) s μ ρ r) (EX c (f::fs) s μ ρ r) s:=by
 induction m using Nat.casesAuxOn with
 |zero=>exact Mine.n0 ht
 |succ m =>
  obtain⟨es,h1,hz_⟩:=bI ht;clear ht;rename _=>ht
  obtain rfl:=oi ht
  exact H h1 hr htr (G.less (Nat.le_succ _)) p _
set_option tactic.hygienic true in theorem sb_step (H:SX c n)(HB:SBool c n):SBool c (n+1):=by
 intro m nm sc xs es ht b fr σ r hr A f fs s μ ρ G pos
 match xs with
 | []=>exact Mine.n0 hr
 | [x]=>
  obtain⟨m',e,es',rfl,h1,h2,rfl,_⟩:=trXs_cons ht
  obtain rfl:=trXs_nil h2
  simp only[eB_one]at hr
  exact BoolOp_one (H h1 hr (G.less (Nat.le_succ _)))
 |x::y::l =>
  obtain⟨m',e,es',rfl,h1,h2,rfl,_⟩:=trXs_cons ht
  obtain⟨m'',e',es'',rfl,h1',h2',rfl,_⟩:=trXs_cons h2
  simp only[eB_cons]at hr
  have go:∀{Q:Value→Shared→Prop} {E:Value→Shared→Prop},(∀v σ₁ y₁ s₁ μ₁ ρ₁ t,truthy σ₁ v=some t→(if t=b then exBool c.T n b (y::l) fr σ₁ else some (.ok v σ₁))=some r→Go c n A f fs s₁ μ₁ ρ₁ σ₁ nm sc fr→St c (f::fs) s μ ρ σ₁ s₁ μ₁ ρ₁→VRep c s₁.heap μ₁ ρ₁ v y₁→Q y₁ s₁)→(∀e s',EX c (f::fs) s μ ρ r e s'→E e s')→wpAny (model c.prog c.w) A (eval e f.env) Q E s:=by
   intro Q E hq hE
   refine H.run (G.less (Nat.le_succ _)) h1 hr (fun v σ₁ y₁ s₁ μ₁ ρ₁ hk G₁ st rep=>?_) hE
   split at hk
   ·rename_i t ht'
    exact hq _ _ _ _ _ _ _ ht' hk G₁ st rep
   ·exact n0 hk
  first | exact n0 b | exact n1 b | cases b
  ·refine BoolOp_or (go (fun v σ₁ y₁ s₁ μ₁ ρ₁ t ht' hk G₁ st rep=>G₁.truth rep ht' fun s' st' hh=>?_) fun _ _ h=>h)
   first | exact n0 t | exact n1 t | cases t
   ·exact wpAny_mono (HB h2 hk (G₁.next st') pos) (fun _ _ ⟨v,σ',μ',ρ',a,b,d⟩=>⟨v,σ',μ',ρ',a,(st.trans st').trans b,d⟩) fun _ _ h=>h.up (st.trans st') fun _ _ z=>z
   ·simp only[if_true]
    simp at hk
    subst hk
    exact⟨_,_,_,_,rfl,st.trans st',by rw[hh];exact rep⟩
  ·refine BoolOp_and (go (fun v σ₁ y₁ s₁ μ₁ ρ₁ t ht' hk G₁ st rep=>G₁.truth rep ht' fun s' st' hh=>?_) fun _ _ h=>h)
   first | exact n0 t | exact n1 t | cases t
   ·simp at hk
    subst hk
    exact⟨_,_,_,_,rfl,st.trans st',by rw[hh];exact rep⟩
   ·exact wpAny_mono (HB h2 hk (G₁.next st') pos) (fun _ _ ⟨v,σ',μ',ρ',a,b,d⟩=>⟨v,σ',μ',ρ',a,(st.trans st').trans b,d⟩) fun _ _ h=>h.up (st.trans st') fun _ _ z=>z
theorem isTrue_or_nil' {M:Model}{E:Value→Shared→Prop}{env:Env}{pos:Pos}{whole:Sem Value}{Q:Bool→Shared→Prop}(h:Q false s):wpAny M A (PySem.isTrue (Expr.BoolOp BoolOp.Or [] pos) env whole) Q E s:=fun _ _ _=>h
set_option tactic.hygienic true in theorem tb_step (H:ST c n)(HB:SBoolT c n):SBoolT c (n+1):=by
 intro m nm sc xs es ht b fr σ r hr htr A f fs s μ ρ G pos whole
 match xs with
 | []=>exact Mine.n0 hr
 | [x]=>
  obtain⟨m',e,es',rfl,h1,h2,rfl,_⟩:=trXs_cons ht
  obtain rfl:=trXs_nil h2
  simp only[eB_one]at hr
  have hr':bnd (exX c.T n x fr σ) (fun v s=>some (.ok v s))=some r:=by rw[hr];cases r<;>rfl
  first | exact n0 b | exact n1 b | cases b
  ·refine isTrue_or (H.run (G.less (Nat.le_succ _)) h1 hr' (fun v σ₁ hk=>htr v σ₁ (Option.some.inj hk).symm) (fun v b σ₁ s₁ μ₁ ρ₁ hk hb G₁ st=>?_) fun _ _ h=>h)
   obtain rfl:=oi hk
   first | exact n0 b | exact n1 b | cases b
   ·exact isTrue_or_nil' ⟨_,_,_,_,rfl,st,hb⟩
   ·exact⟨_,_,_,_,rfl,st,hb⟩
  ·refine isTrue_and (H.run (G.less (Nat.le_succ _)) h1 hr' (fun v σ₁ hk=>htr v σ₁ (Option.some.inj hk).symm) (fun v b σ₁ s₁ μ₁ ρ₁ hk hb G₁ st=>?_) fun _ _ h=>h)
   obtain rfl:=oi hk
   first | exact n0 b | exact n1 b | cases b
   ·exact⟨_,_,_,_,rfl,st,hb⟩
   ·exact isTrue_and_nil ⟨_,_,_,_,rfl,st,hb⟩
 |x::y::l =>
  obtain⟨m',e,es',rfl,h1,h2,rfl,_⟩:=trXs_cons ht
  simp only[eB_cons]at hr
  first | exact n0 b | exact n1 b | cases b
  ·refine isTrue_or (H.run (G.less (Nat.le_succ _)) h1 hr (fun v σ₁ hk=>?_) (fun v b σ₁ s₁ μ₁ ρ₁ hk hb G₁ st=>?_) fun _ _ h=>h)
   ·split at hk
    ·rename_i t ht';exact⟨t,ht'⟩
    ·exact n0 hk
   ·rw[hb]at hk
    first | exact n0 b | exact n1 b | cases b
    ·exact wpAny_mono (HB h2 hk htr G₁ pos whole) (fun _ _ ⟨v,σ',μ',ρ',a,b,d⟩=>⟨v,σ',μ',ρ',a,st.trans b,d⟩) fun _ _ h=>h.up st fun _ _ z=>z
    ·simp at hk
     subst hk
     exact⟨_,_,_,_,rfl,st,hb⟩
  ·refine isTrue_and (H.run (G.less (Nat.le_succ _)) h1 hr (fun v σ₁ hk=>?_) (fun v b σ₁ s₁ μ₁ ρ₁ hk hb G₁ st=>?_) fun _ _ h=>h)
   ·split at hk
    ·rename_i t ht';exact⟨t,ht'⟩
    ·exact n0 hk
   ·rw[hb]at hk
    first | exact n0 b | exact n1 b | cases b
    ·simp at hk
     subst hk
     exact⟨_,_,_,_,rfl,st,hb⟩
    ·exact wpAny_mono (HB h2 hk htr G₁ pos whole) (fun _ _ ⟨v,σ',μ',ρ',a,b,d⟩=>⟨v,σ',μ',ρ',a,st.trans b,d⟩) fun _ _ h=>h.up st fun _ _ z=>z
theorem s_ite {t a b:X}{p:Pos}(HT:ST c n)(H:SX c n)(G:Go c (n+1) A f fs s μ ρ σ nm sc fr)(ht:trX c nm sc m (.ite t a b p)=some e)(hr:exX c.T (n+1) (.ite t a b p) fr σ=some r):wpAny (model c.prog c.w) A (eval e f.env) (PX c (f::fs) s μ ρ r) (EX c (f::fs) s μ ρ r) s:=by
 induction m using Nat.casesAuxOn with
 |zero=>exact Mine.n0 ht
 |succ m =>
  obtain⟨e1,h1,hz_⟩:=bI ht;clear ht;rename _=>ht
  obtain⟨e2,h2,hz_⟩:=bI ht;clear ht;rename _=>ht
  obtain⟨e3,h3,hz_⟩:=bI ht;clear ht;rename _=>ht
  obtain rfl:=oi ht
  refine wpAny_IfExp (HT.run (G.less (Nat.le_succ _)) h1 hr (fun v σ₁ hk=>?_) (fun v b' σ₁ s₁ μ₁ ρ₁ hk hb G₁ st=>?_) fun _ _ h=>h)
  ·cases q:truthy σ₁ v with
   |none=>rw[q]at hk;cases hk
   |some b=>exact⟨b,q⟩
  ·rw[hb]at hk
   first | exact n0 b' | exact n1 b' | cases b'
   ·exact wpAny_mono (H h3 hk G₁) (fun _ _ ⟨v,σ',μ',ρ',a,b,d⟩=>⟨v,σ',μ',ρ',a,st.trans b,d⟩) fun _ _ h=>h.up st fun _ _ z=>z
   ·exact wpAny_mono (H h2 hk G₁) (fun _ _ ⟨v,σ',μ',ρ',a,b,d⟩=>⟨v,σ',μ',ρ',a,st.trans b,d⟩) fun _ _ h=>h.up st fun _ _ z=>z
theorem t_ite {t a b:X}{p:Pos}(HT:ST c n)(G:Go c (n+1) A f fs s μ ρ σ nm sc fr)(ht:trX c nm sc m (.ite t a b p)=some e)(hr:exX c.T (n+1) (.ite t a b p) fr σ=some r)(htr:∀v σ',r=.ok v σ'→Tru σ' v):wpAny (model c.prog c.w) A (PySem.isTrue e f.env (eval e f.env)) (PT c (f::fs) s μ ρ r) (EX c (f::fs) s μ ρ r) s:=by
 induction m using Nat.casesAuxOn with
 |zero=>exact Mine.n0 ht
 |succ m =>
  obtain⟨e1,h1,hz_⟩:=bI ht;clear ht;rename _=>ht
  obtain⟨e2,h2,hz_⟩:=bI ht;clear ht;rename _=>ht
  obtain⟨e3,h3,hz_⟩:=bI ht;clear ht;rename _=>ht
  obtain rfl:=oi ht
  refine isTrue_IfExp (HT.run (G.less (Nat.le_succ _)) h1 hr (fun v σ₁ hk=>?_) (fun v b' σ₁ s₁ μ₁ ρ₁ hk hb G₁ st=>?_) fun _ _ h=>h)
  ·cases q:truthy σ₁ v with
   |none=>rw[q]at hk;cases hk
   |some b=>exact⟨b,q⟩
  ·rw[hb]at hk
   first | exact n0 b' | exact n1 b' | cases b'
   ·exact wpAny_mono (HT h3 hk htr G₁) (fun _ _ ⟨v,σ',μ',ρ',a,b,d⟩=>⟨v,σ',μ',ρ',a,st.trans b,d⟩) fun _ _ h=>h.up st fun _ _ z=>z
   ·exact wpAny_mono (HT h2 hk htr G₁) (fun _ _ ⟨v,σ',μ',ρ',a,b,d⟩=>⟨v,σ',μ',ρ',a,st.trans b,d⟩) fun _ _ h=>h.up st fun _ _ z=>z
end

theorem sS_inj {a b:CS}:(sS a=sS b)↔a=b:=by
 constructor
 ·intro h
  have:=congrArg (fun s=>s.cps.toList) h
  simpa [sS] using this
 ·rintro rfl;rfl
inductive Flt:V→PyData→Prop where
 |none:Flt .none .none
 |int {i}:Flt (.int i) (.int i)
 |str {l}:(l.all fun c=>decide (c<1114112))=true→Flt (.str l) (.str (sS l))
inductive L2 (R:V→PyData→Prop):List V→List PyData→Prop where
 |nil:L2 R [] []
 |cons {v d l ds}:R v d→L2 R l ds→L2 R (v::l) (d::ds)
inductive TupD (R:V→PyData→Prop):V→PyData→Prop where
 |flt {v d}:Flt v d→TupD R v d
 |tup {l ds}:L2 R l ds→TupD R (.tup l) (.tuple ds)
 |lst {l ds}:L2 R l ds→TupD R (.lst l) (.list ds)
noncomputable def Dat:Nat→V→PyData→Prop
 |0=>Flt
 |n+1=>TupD (Dat n)
theorem flt_of {v:V}(h:flatB v=true):∃d,Flt v d:=by
 induction v using V.casesOn with
 |none=>exact⟨_,.none⟩
 |int i=>exact⟨_,.int⟩
 |str l=>exact⟨_,.str h⟩
 |_=>exact Bool.noConfusion h
theorem dat_of (n:Nat):∀{v:V},isDataN n v=true→∃d,Dat n v d:=by
 induction n with
 |zero=>exact flt_of
 |succ n ih =>
  have f:∀{v:V},flatB v=true→∃d,Dat (n+1) v d:=fun h=>(flt_of h).elim fun d h=>⟨d,.flt h⟩
  have go:∀{l:List V},l.all (isDataN n)=true→∃ds,L2 (Dat n) l ds:=by
   intro l h
   induction l with
   |nil=>exact⟨_,.nil⟩
   |cons v l il =>
    obtain⟨a,b⟩:=Bool.and_eq_true_iff.mp h
    obtain⟨d,hd⟩:=ih a
    obtain⟨ds,hds⟩:=il b
    exact⟨_,.cons hd hds⟩
  intro v h
  induction v using V.casesOn with
  |tup l=>exact(go h).elim fun _ h=>⟨_,.tup h⟩
  |lst l=>exact(go h).elim fun _ h=>⟨_,.lst h⟩
  |_=>exact f h
section
variable {c:Cx}{h:Heap}{μ:Addr→Prop}{ρ:List (Addr × Addr)}
theorem Flt.reads {v:V}{d:PyData}{x:Value}(f:Flt v d)(r:VRep c h μ ρ v x):∃as,Reads h x d as:=by
 cases f with
 |none=>obtain rfl:=r.none_;exact⟨_,Reads.none⟩
 |int=>obtain⟨_,rfl⟩:=r.int_;exact⟨_,Reads.int _ _⟩
 |str=>obtain⟨_,rfl⟩:=r.str_;exact⟨_,Reads.str _ _⟩
theorem Dat.reads (n:Nat):∀{v:V} {d:PyData} {x:Value},Dat n v d→VRep c h μ ρ v x→∃as,Reads h x d as:=by
 induction n with
 |zero=>exact Flt.reads
 |succ n ih =>
  have go:∀{l:List V} {ds:List PyData},L2 (Dat n) l ds→∀{xs:List Value},VReps c h μ ρ l xs→∃as,ReadsAll h xs ds as:=by
   intro l ds H
   induction H with
   |nil=>intro xs vs;obtain rfl:=vs.nil_;exact⟨_,ReadsAll.nil⟩
   |cons a _ il =>
    intro xs vs
    obtain⟨_,_,rfl,p,q⟩:=vs.cons_
    obtain⟨as,ra⟩:=ih a p
    obtain⟨bs,rb⟩:=il q
    exact⟨_,ReadsAll.cons ra rb⟩
  intro v d x f r
  cases f with
  |flt f=>exact f.reads r
  |tup f =>
   obtain⟨xs,a,k,rfl,e,_,vs⟩:=r.tup_
   exact(go f vs).elim fun _ h=>⟨_,reads_tuple_at e rfl rfl h⟩
  |lst f =>
   obtain⟨xs,a,k,rfl,e,_,vs⟩:=r.lst_
   exact(go f vs).elim fun _ h=>⟨_,reads_list_at e rfl rfl h⟩
end
theorem Flt.shape {v:V}{d:PyData}(f:Flt v d):d.canLay0=true∧d.depth=0:=by
 cases f with
 |none=>exact⟨rfl,rfl⟩
 |int=>exact⟨rfl,rfl⟩
 |str h=>exact⟨by simpa [PyData.canLay0,PyData.strOk,sS] using h,rfl⟩
theorem Dat.shape (n:Nat):∀{v:V} {d:PyData},Dat n v d→d.canLay0=true∧d.depth≤n:=by
 induction n with
 |zero=>exact fun f=>⟨(Flt.shape f).1,Nat.le_of_eq (Flt.shape f).2⟩
 |succ n ih =>
  have go:∀{l:List V} {ds:List PyData},L2 (Dat n) l ds→PyData.canLayAll0 ds=true∧PyData.depthAll ds≤n:=by
   intro l ds H
   induction H with
   |nil=>exact⟨rfl,Nat.zero_le _⟩
   |cons a _ il=>exact⟨Bool.and_eq_true_iff.mpr ⟨(ih a).1,il.1⟩,Nat.max_le.mpr ⟨(ih a).2,il.2⟩⟩
  intro v d f
  cases f with
  |flt f=>exact⟨f.shape.1,f.shape.2▸Nat.zero_le _⟩
  |tup f=>exact⟨(go f).1,Nat.succ_le_succ (go f).2⟩
  |lst f=>exact⟨(go f).1,Nat.succ_le_succ (go f).2⟩
theorem Flt.eqv {v u:V}{d e:PyData}(f:Flt v d)(g:Flt u e):PyData.eqv d e=veq v u:=by
 cases f with
 |none=>cases g<;>rfl
 |int=>cases g with
  |int=>exact Bool.beq_eq_decide_eq _ _
  |_=>rfl
 |str=>cases g with
  |str =>
   refine(Bool.beq_eq_decide_eq _ _).trans ?_
   exact decide_eq_decide.mpr sS_inj
  |_=>rfl
theorem Dat.eqv (n:Nat):∀{v u:V} {d e:PyData},Dat n v d→Dat n u e→PyData.eqv d e=veq v u:=by
 induction n with
 |zero=>exact Flt.eqv
 |succ n ih =>
  have go:∀{l:List V} {ds:List PyData},L2 (Dat n) l ds→∀{r:List V} {es:List PyData},L2 (Dat n) r es→PyData.eqvAll ds es=veqL l r:=by
   intro l ds H
   induction H with
   |nil=>intro r es H;cases H<;>rfl
   |cons a _ il=>intro r es H;cases H with
    |nil=>rfl
    |cons b q =>
     show(PyData.eqv _ _&&PyData.eqvAll _ _)=(veq _ _&&veqL _ _)
     rw[ih a b,il q]
  intro v u d e f g
  cases f with
  |flt f=>cases g with
   |flt g=>exact f.eqv g
   |tup g=>cases f<;>rfl
   |lst g=>cases f<;>rfl
  |tup f=>cases g with
   |flt g=>cases g<;>rfl
   |tup g=>exact go f g
   |lst g=>rfl
  |lst f=>cases g with
   |flt g=>cases g<;>rfl
   |tup g=>rfl
   |lst g=>exact go f g
theorem isPre_iff:∀(a b:CS),isPre a b=true↔b.take a.length=a
 | [],b=>by simp[isPre]
 |_::_,[]=>by simp[isPre]
 |x::a,y::b=>by
  simp only[isPre,Bool.and_eq_true,decide_eq_true_eq,isPre_iff a b,List.length_cons,List.take_succ_cons,List.cons.injEq]
  exact⟨fun h=>⟨h.1.symm,h.2⟩,fun h=>⟨h.1.symm,h.2⟩⟩
theorem isSub_iff (a:CS):∀b:CS,isSub a b=true↔∃i,i+a.length≤b.length∧(b.drop i).take a.length=a
 | []=>by
  simp only[isSub,List.isEmpty_iff]
  constructor
  ·rintro rfl;exact⟨0,by simp⟩
  ·rintro⟨i,h,_⟩
   simp at h
   exact h.2
 |y::b=>by
  simp only[isSub,Bool.or_eq_true,isPre_iff,isSub_iff a b]
  constructor
  ·rintro(h | ⟨i,h1,h2⟩)
   ·refine⟨0,?_,by simpa using h⟩
    have:=congrArg List.length h
    rw[List.length_take]at this
    exact(Nat.zero_add _).symm▸Nat.le_trans (Nat.le_of_eq this.symm) (Nat.min_le_right _ _)
   ·exact⟨i+1,by rw[List.length_cons,Nat.add_right_comm];exact Nat.succ_le_succ h1,by simpa using h2⟩
  ·rintro⟨i,h1,h2⟩
   induction i using Nat.casesAuxOn with
   |zero=>exact .inl (by simpa using h2)
   |succ i=>exact .inr ⟨i,by rw[List.length_cons,Nat.add_right_comm]at h1;exact Nat.le_of_succ_le_succ h1,by simpa using h2⟩
theorem in_sub (a b:CS):(!(Builtin.Str.occurrences (sS b) (sS a) 0 (sS b).length 1).isEmpty)=isSub a b:=by
 rw[Bool.eq_iff_iff]
 refine(StrLaws.found_iff (sS b) (sS a)).trans ?_
 rw[isSub_iff]
 simp only[sS_len,StrLaws.subAt_eq,toList_sS,beq_iff_eq]

theorem strs_are {c:Cx}{h:Heap}{μ:Addr→Prop}{ρ:List (Addr × Addr)}:∀(l:List V) {xs:List Value} {ys:List CS},strsV l=some ys→VReps c h μ ρ l xs→StrsAre xs (ys.map sS):=by
 intro l
 induction l with
 |nil=>intro xs ys e r;cases e;cases r;exact .nil
 |cons v vs ih =>
  intro xs ys e r
  cases r with
  |cons a b =>
   induction v using V.casesOn with
   |str s =>
    simp only[strsV,Option.map_eq_some_iff]at e
    obtain⟨zs,hz,rfl⟩:=e
    cases a with
    |str _ t=>exact StrsAre.cons _ _ (ih hz b)
   |_=>cases e
theorem any_sS (x:CS):∀ys:List CS,((ys.map sS).any fun y=>y==sS x)=ys.contains x
 | []=>rfl
 |y::ys=>by
  have e:(sS y==sS x)=(x==y):=by
   rw[Bool.eq_iff_iff,beq_iff_eq,beq_iff_eq,sS_inj]
   exact eq_comm
  rw[List.map_cons,List.any_cons,any_sS x ys,List.contains_cons,e]
theorem look_isSome {x:CS}{ks:List CS}{vs:List V}{ds:List (PyData × PyData)}(D:DRep ks vs ds):(Spec.lookup (.str (sS x)) ds).isSome=ks.contains x:=by
 induction D with
 |nil=>rfl
 |@cons k _ _ _ _ _ _ _ ih =>
  rw[Spec.lookup,List.contains_cons]
  have e:Spec.same (PyData.str (sS k)) (.str (sS x))=(x==k):=by
   rw[PyProof.V.same_str,Bool.eq_iff_iff,decide_eq_true_iff,beq_iff_eq,sS_inj]
   exact eq_comm
  rw[e]
  cases x==k with
  |true=>rfl
  |false=>exact ih
inductive InI:V→V→Bool→Prop where
 |tup {x l ys}:strsV l=some ys→InI (.str x) (.tup l) (ys.contains x)
 |dct {x ks vs}:InI (.str x) (.dct ks vs) (ks.contains x)
 |str {x y}:InI (.str x) (.str y) (isSub x y)
theorem isIn_inv {a b:V}{t:Bool}(h:isIn a b=some t):InI a b t:=by
 induction a using V.casesOn with
 |str x =>
  induction b using V.casesOn with
  |tup l=>obtain⟨ys,hy,rfl⟩:=mI h;exact .tup hy
  |dct ks vs=>obtain rfl:=oi h;exact .dct
  |str y=>obtain rfl:=oi h;exact .str
  |_=>exact n0 h
 |_=>exact n0 h
section
variable {c:Cx}{n m:Nat}{A:Around}{f:FrI}{fs:List FrI}{s:Shared}{μ:Addr→Prop}{ρ:List (Addr × Addr)}{σ:List Cell}{nm:List Str}{sc:Scope}{fr:List (Option V)}{e:Expr}{r:R V}
theorem Go.isIn (G:Go c n A f fs s μ ρ σ nm sc fr){a b:V}{x y:Value}{t:Bool}(ra:VRep c s.heap μ ρ a x)(rb:VRep c s.heap μ ρ b y)(h:isIn a b=some t){Q E:Value→Shared→Prop}
  (k:∀tk,Q (.bool t) { s with toks:=tk }):wpAny (model c.prog c.w) A (compareOp .In x y) Q E s:=by
 cases isIn_inv h with
 |tup hy =>
  obtain⟨_,rfl⟩:=ra.str_
  obtain⟨_,_,_,rfl,e,nn,vs⟩:=rb.tup_
  exact in_tuple_strs (items:=_) ⟨_,e,rfl,_,rfl⟩ (strs_are _ hy vs) (by rw[any_sS];exact k s.toks)
 |dct =>
  obtain⟨_,rfl⟩:=ra.str_
  cases rb with
  |dct e d fl lo nn h1 =>
   refine in_strTab (D:=_) ⟨lo,_,Heap.dictOf_iff.mpr ⟨_,e,d⟩,fl⟩ ?_
   rw[look_isSome h1]
   exact k _
 |str =>
  obtain⟨_,rfl⟩:=ra.str_
  obtain⟨_,rfl⟩:=rb.str_
  exact in_str (by rw[in_sub];exact k s.toks)
theorem ii_ {a b:V}{g:Int→Int→Bool}{t:Bool}(h:(match a,b with | .int x,.int y=>some (g x y)| _,_=>none)=some t):∃x y,a=.int x∧b=.int y∧g x y=t:=by
 induction a using V.casesOn with
 |int x=>induction b using V.casesOn with
  |int y=>exact⟨x,y,rfl,rfl,oi h⟩
  |_=>exact n0 h
 |_=>exact n0 h
theorem le_ {a b:V}{t:Bool}(h:cmpV .LtE a b=some t):(∃x y,a=.int x∧b=.int y∧decide (x≤y)=t)∨∃x y,a=.str x∧b=.str y∧cle x y=t:=by
 induction a using V.casesOn with
 |int x=>induction b using V.casesOn with
  |int y=>exact .inl ⟨x,y,rfl,rfl,oi h⟩
  |_=>exact n0 h
 |str x=>induction b using V.casesOn with
  |str y=>exact .inr ⟨x,y,rfl,rfl,oi h⟩
  |_=>exact n0 h
 |_=>exact n0 h
theorem is_ {α:Type}{b:V}{q t:α}(h:(match b with | .none=>some q | _=>none)=some t):b=.none∧q=t:=by
 induction b using V.casesOn with
 |none=>exact⟨rfl,oi h⟩
 |_=>exact n0 h
theorem shape_ok {a:V}{d:PyData}(h:Dat 40 a d):PySem.SeqAt.shaped d=true:=Bool.and_eq_true_iff.mpr ⟨(Dat.shape 40 h).1,decide_eq_true (Nat.le_trans (Dat.shape 40 h).2 (by decide))⟩
theorem Go.cmp (G:Go c n A f fs s μ ρ σ nm sc fr){op:CmpOp}{a b:V}{x y:Value}{t:Bool}(ra:VRep c s.heap μ ρ a x)(rb:VRep c s.heap μ ρ b y)(h:cmpV op a b=some t){Q E:Value→Shared→Prop}
  (k:∀tk,Q (.bool t) { s with toks:=tk }):wpAny (model c.prog c.w) A (compareOp op x y) Q E s:=by
 have hu:A.units+64<cLine:=Nat.lt_of_le_of_lt (Nat.add_le_add_right (Nat.le_add_right _ _) 64) G.u
 induction op using CmpOp.casesOn with
 |Eq =>
  obtain⟨hd,ht⟩:=ifI (show(if isData a&&isData b then some (veq a b)else none)=some t from h)
  obtain⟨d1,d2⟩:=Bool.and_eq_true_iff.mp hd
  obtain⟨_,d1⟩:=dat_of 40 d1
  obtain⟨_,d2⟩:=dat_of 40 d2
  obtain⟨as,r1⟩:=Dat.reads 40 d1 ra
  obtain⟨bs,r2⟩:=Dat.reads 40 d2 rb
  refine eq_dataH r1 r2 (shape_ok d1) (shape_ok d2) hu ?_
  rw[Dat.eqv 40 d1 d2,ht]
  exact k s.toks
 |NotEq =>
  obtain⟨hd,ht⟩:=ifI (show(if isData a&&isData b then some (!veq a b)else none)=some t from h)
  obtain⟨d1,d2⟩:=Bool.and_eq_true_iff.mp hd
  obtain⟨_,d1⟩:=dat_of 40 d1
  obtain⟨_,d2⟩:=dat_of 40 d2
  obtain⟨as,r1⟩:=Dat.reads 40 d1 ra
  obtain⟨bs,r2⟩:=Dat.reads 40 d2 rb
  refine ne_dataH r1 r2 (shape_ok d1) (shape_ok d2) hu ?_
  rw[Dat.eqv 40 d1 d2,ht]
  exact k s.toks
 |Lt =>
  obtain⟨u,v,rfl,rfl,rfl⟩:=ii_ (g:=fun x y=>decide (x<y)) h
  obtain⟨_,rfl⟩:=ra.int_
  obtain⟨_,rfl⟩:=rb.int_
  exact PyProof.Rows.lt_int (k s.toks)
 |LtE =>
  rcases le_ h with⟨u,v,rfl,rfl,rfl⟩| ⟨u,v,rfl,rfl,rfl⟩
  ·obtain⟨_,rfl⟩:=ra.int_
   obtain⟨_,rfl⟩:=rb.int_
   exact PyProof.Rows.le_int (k s.toks)
  ·obtain⟨_,rfl⟩:=ra.str_
   obtain⟨_,rfl⟩:=rb.str_
   refine PySem.P.le_str ?_
   rw[toList_sS,toList_sS]
   exact k s.toks
 |Gt =>
  obtain⟨u,v,rfl,rfl,rfl⟩:=ii_ (g:=fun x y=>decide (y<x)) h
  obtain⟨_,rfl⟩:=ra.int_
  obtain⟨_,rfl⟩:=rb.int_
  exact PyProof.Rows.gt_int (k s.toks)
 |GtE =>
  obtain⟨u,v,rfl,rfl,rfl⟩:=ii_ (g:=fun x y=>decide (y≤x)) h
  obtain⟨_,rfl⟩:=ra.int_
  obtain⟨_,rfl⟩:=rb.int_
  have:=k s.toks
  exact PySem.P.ge_int this
 |Is =>
  obtain⟨rfl,rfl⟩:=is_ h
  obtain rfl:=rb.none_
  rcases ra.isN with⟨rfl,e⟩| ⟨hn,e,hp⟩
  ·rw[e]at k;exact wpAny_is_self rfl (k s.toks)
  ·rw[e]at k;exact wpAny_is_other hp hn (k s.toks)
 |IsNot =>
  obtain⟨rfl,rfl⟩:=is_ h
  obtain rfl:=rb.none_
  rcases ra.isN with⟨rfl,e⟩| ⟨hn,e,hp⟩
  ·rw[e]at k;exact wpAny_isNot_self rfl (k s.toks)
  ·rw[e]at k;exact wpAny_isNot_other hp hn (k s.toks)
 |In=>exact G.isIn ra rb h k
 |NotIn =>
  obtain⟨t',h',rfl⟩:=mI (show(Mine.isIn a b).map (!·)=some t from h)
  clear h
  have h2:wpAny (model c.prog c.w) A (compareOp .In x y) (fun v s'=>v=.bool t'∧∃tk,s'={ s with toks:=tk }) E s:=G.isIn ra rb h' fun tk=>⟨rfl,tk,rfl⟩
  refine wpAny_bind (m:=contains y x) (fun Γ p hΓ=>?_)
  have h3:=h2 Γ p hΓ
  rw[show compareOp .In x y=(contains y x >>= fun b=>pure (Value.bool b))from rfl,Sem.wp_bind']at h3
  refine Sem.wp_mono _ Γ _ (fun b p' s' hb=>?_) (fun _ _ _ z=>z) _ _ h3
  obtain⟨hb,tk,rfl⟩:Value.bool b=.bool t'∧∃tk,s'={ s with toks:=tk }:=hb
  first | exact n0 hb | exact n1 hb | cases hb
  exact wpAny_pure (k tk)
theorem s_cmp {l y:X}{op:CmpOp}{p:Pos}(H:SX c n)(G:Go c (n+1) A f fs s μ ρ σ nm sc fr)(ht:trX c nm sc m (.cmp l op y p)=some e)(hr:exX c.T (n+1) (.cmp l op y p) fr σ=some r):wpAny (model c.prog c.w) A (eval e f.env) (PX c (f::fs) s μ ρ r) (EX c (f::fs) s μ ρ r) s:=by
 induction m using Nat.casesAuxOn with
 |zero=>exact Mine.n0 ht
 |succ m =>
  obtain⟨e1,h1,hz_⟩:=bI ht;clear ht;rename _=>ht
  obtain⟨e2,h2,hz_⟩:=bI ht;clear ht;rename _=>ht
  split at ht
  ·exact n0 ht
  ·rename_i hm
   obtain rfl:=oi ht
   refine wpAny_Compare1 (H.run (G.less (Nat.le_succ _)) h1 hr (fun v σ₁ y₁ s₁ μ₁ ρ₁ hk G₁ st rep=>?_) fun _ _ h=>h) (by simpa using hm)
   refine H.run G₁ h2 hk (fun w σ₂ y₂ s₂ μ₂ ρ₂ hk G₂ st' rep'=>?_) fun _ _ h=>h.up st fun _ _ z=>z
   obtain⟨z,hz,rfl⟩:=lif_some hk
   simp only[Option.map_eq_some_iff]at hz
   obtain⟨b,hb,rfl⟩:=hz
   exact G₂.cmp (st'.up rep) rep' hb fun tk=>⟨_,_,_,_,rfl,(st.trans st').then,.bool _⟩
theorem t_cmp {l y:X}{op:CmpOp}{p:Pos}(H:SX c n)(G:Go c (n+1) A f fs s μ ρ σ nm sc fr)(ht:trX c nm sc m (.cmp l op y p)=some e)(hr:exX c.T (n+1) (.cmp l op y p) fr σ=some r):wpAny (model c.prog c.w) A (PySem.isTrue e f.env (eval e f.env)) (PT c (f::fs) s μ ρ r) (EX c (f::fs) s μ ρ r) s:=by
 induction m using Nat.casesAuxOn with
 |zero=>exact Mine.n0 ht
 |succ m =>
  obtain⟨e1,h1,hz_⟩:=bI ht;clear ht;rename _=>ht
  obtain⟨e2,h2,hz_⟩:=bI ht;clear ht;rename _=>ht
  split at ht
  ·exact n0 ht
  ·rename_i hm
   obtain rfl:=oi ht
   refine wpAny_isTrue_Compare1 (H.run (G.less (Nat.le_succ _)) h1 hr (fun v σ₁ y₁ s₁ μ₁ ρ₁ hk G₁ st rep=>?_) fun _ _ h=>h) (by simpa using hm)
   refine H.run G₁ h2 hk (fun w σ₂ y₂ s₂ μ₂ ρ₂ hk G₂ st' rep'=>?_) fun _ _ h=>h.up st fun _ _ z=>z
   obtain⟨z,hz,rfl⟩:=lif_some hk
   simp only[Option.map_eq_some_iff]at hz
   obtain⟨b,hb,rfl⟩:=hz
   exact G₂.cmp (st'.up rep) rep' hb fun tk=>wpAny_truthy_bool ⟨_,_,_,_,rfl,(st.trans st').then,rfl⟩
theorem s_cmp2 {l k y:X}{op op2:CmpOp}{p:Pos}(H:SX c n)(G:Go c (n+1) A f fs s μ ρ σ nm sc fr)(ht:trX c nm sc m (.cmp2 l op k op2 y p)=some e)(hr:exX c.T (n+1) (.cmp2 l op k op2 y p) fr σ=some r):wpAny (model c.prog c.w) A (eval e f.env) (PX c (f::fs) s μ ρ r) (EX c (f::fs) s μ ρ r) s:=by
 induction m using Nat.casesAuxOn with
 |zero=>exact Mine.n0 ht
 |succ m =>
  obtain⟨e1,h1,hz_⟩:=bI ht;clear ht;rename _=>ht
  obtain⟨e2,h2,hz_⟩:=bI ht;clear ht;rename _=>ht
  obtain⟨e3,h3,hz_⟩:=bI ht;clear ht;rename _=>ht
  split at ht
  ·exact n0 ht
  ·rename_i hm
   obtain rfl:=oi ht
   refine Compare_chain (H.run (G.less (Nat.le_succ _)) h1 hr (fun v σ₁ y₁ s₁ μ₁ ρ₁ hk G₁ st rep=>?_) fun _ _ h=>h) (by simpa using hm)
   refine chain_link (H.run G₁ h2 hk (fun w σ₂ y₂ s₂ μ₂ ρ₂ hk G₂ st' rep'=>?_) fun _ _ h=>h.up st fun _ _ z=>z)
   split at hk
   ·rename_i hb
    refine G₂.cmp (st'.up rep) rep' hb fun tk=>wpAny_truthy_bool ?_
    rw[if_pos rfl]
    have st2:=(st.trans st').then (tk:=tk)
    have G₃:=G₂.next (.toks G₂.inv (tk:=tk))
    refine chain_last (H.run G₃ h3 hk (fun u σ₄ y₄ s₄ μ₄ ρ₄ hk G₄ st4 rep4=>?_) fun _ _ h=>h.up st2 fun _ _ z=>z)
    obtain⟨z,hz,rfl⟩:=lif_some hk
    simp only[Option.map_eq_some_iff]at hz
    obtain⟨b,hb,rfl⟩:=hz
    exact G₄.cmp (st4.up rep') rep4 hb fun tk=>⟨_,_,_,_,rfl,(st2.trans st4).then,.bool _⟩
   ·rename_i hb
    obtain rfl:=oi hk
    refine G₂.cmp (st'.up rep) rep' hb fun tk=>wpAny_truthy_bool ?_
    exact⟨_,_,_,_,rfl,(st.trans st').then,.bool _⟩
   ·exact n0 hk
theorem t_plain {x:X}(H:wpAny (model c.prog c.w) A (eval e f.env) (PX c (f::fs) s μ ρ r) (EX c (f::fs) s μ ρ r) s)(G:Go c n A f fs s μ ρ σ nm sc fr)(htr:∀v σ',r=.ok v σ'→Tru σ' v)
  (hw:PySem.isTrue e f.env (eval e f.env)=(do let v ←eval e f.env;standAt e.pos;holding [v] (PySem.truthy v))):wpAny (model c.prog c.w) A (PySem.isTrue e f.env (eval e f.env)) (PT c (f::fs) s μ ρ r) (EX c (f::fs) s μ ρ r) s:=by
 rw[hw]
 refine wpAny_bind (wpAny_mono H (fun y s₁ h=>?_) fun _ _ h=>h)
 obtain⟨v,σ',μ',ρ',rfl,st,rep⟩:=h
 obtain⟨b,hb⟩:=htr _ _ rfl
 exact wpAny_bind (wpAny_standAt (wpAny_holding ((G.next st).truth rep hb fun s' st' _=>⟨_,_,_,_,rfl,st.trans st',hb⟩)))
theorem star_cons {env:Env}{es:List Expr}(h:∀v p,e≠.Starred v p):starEach (e::es) env=(false,eval e env)::starEach es env:=by
 cases e<;>first | rfl | exact absurd rfl (h _ _)
theorem sxs_step (H:SX c n)(HS:SXs c n):SXs c (n+1):=by
 intro m nm sc xs es ht fr σ r hr A f fs s μ ρ G pos
 match xs with
 | []=>
  obtain rfl:=trXs_nil ht
  obtain rfl:=oi hr
  exact fun _ _ _=>⟨_,_,_,_,rfl,.refl G.inv,.nil⟩
 |x::l =>
  obtain⟨m',e,es',rfl,h1,h2,rfl,hne⟩:=trXs_cons ht
  rw[star_cons hne]
  refine spliced_cons (H.run (G.less (Nat.le_succ _)) h1 hr (fun v σ₁ y₁ s₁ μ₁ ρ₁ hk G₁ st rep=>?_) fun _ _ h=>h)
  refine HS.run G₁ h2 hk (fun vs σ₂ ys s₂ μ₂ ρ₂ hk G₂ st' rep'=>?_) fun _ _ h=>h.up st fun _ _ z=>z
  obtain rfl:=oi hk
  exact⟨_,_,_,_,rfl,st.trans st',.cons (st'.up rep) rep'⟩
end

theorem CellsAt.mem {c:Cx}{h:Heap}{μ:Addr→Prop}{ρ₀:List (Addr × Addr)}:∀{ρ:List (Addr × Addr)} {σ:List Cell},CellsAt c h μ ρ₀ ρ σ→∀p∈ρ,μ p.2:=fun H=>H.ind (P:=fun ρ _=>∀p∈ρ,μ p.2) (fun _ z=>(List.not_mem_nil z).elim) fun a b ih p hp=>by
  rcases List.mem_cons.mp hp with rfl | hp
  ·cases a with
   |inst _ _ _ _ _ m _=>exact m
   |list _ m _=>exact m
   |exc _ _ _ _ _ _ m=>exact m
   |new _ _ _ _ _ _ m=>exact m
   |exd _ _ _ _ _ _ m=>exact m
  ·exact ih p hp
theorem Inv.track {c:Cx}{fs:List FrI}{μ:Addr→Prop}{ρ:List (Addr × Addr)}{σ:List Cell}{h:Heap}(I:Inv c fs μ ρ σ h):∀a∈fs.map (·.L)++(ρ.map (·.2)++c.tabs.map (·.2)),μ a:=fun a ha=>by
 rcases List.mem_append.mp ha with ha | ha
 ·obtain⟨f,hf,rfl⟩:=List.mem_map.mp ha
  exact(I.frames f hf).m
 ·rcases List.mem_append.mp ha with ha | ha
  ·obtain⟨p,hp,rfl⟩:=List.mem_map.mp ha
   exact I.cells.mem p hp
  ·obtain⟨q,hq,rfl⟩:=List.mem_map.mp ha
   exact(I.tabs q hq).1
abbrev plus (μ:Addr→Prop)(d:Addr):Addr→Prop:=fun a=>μ a∨a=d
theorem grow_plus {h h':Heap}{μ:Addr→Prop}{d:Addr}(k:∀a o,h.get? a=some o→h'.get? a=some o)(hd:h.objs.size≤d):Grow h μ h' (plus μ d):=fun a o e n =>
 ⟨k a o e,fun q=>q.elim n fun q=>Nat.lt_irrefl _ (Nat.lt_of_lt_of_le (q▸Heap.lt_size e) hd)⟩
theorem Inv.cell {c:Cx}{fs:List FrI}{μ:Addr→Prop}{ρ:List (Addr × Addr)}{σ:List Cell}{h h':Heap}(I:Inv c fs μ ρ σ h)(k:∀a o,h.get? a=some o→h'.get? a=some o)(sz:h.objs.size≤h'.objs.size){x d:Addr}{q:Cell}
  (hd:h.objs.size≤d) (hd':d<h'.objs.size) (ca:CellAt c h' (plus μ d) (ρ++[(x,d)]) (x,d) q):Inv c fs (plus μ d) (ρ++[(x,d)]) (σ++[q]) h' where
 base a o e:=⟨k _ _ (I.base a o e).1,fun z=>z.elim (I.base a o e).2 fun z=>Nat.lt_irrefl _ (Nat.lt_of_lt_of_le (z▸Heap.lt_size (I.base a o e).1) hd)⟩
 low:=Nat.le_trans I.low sz
 mlt a m:=m.elim (fun m=>Nat.lt_of_lt_of_le (I.mlt a m) sz) fun m=>m▸hd'
 frames f hf:=let ⟨a,b,e,n,m,l⟩:=I.frames f hf;⟨a,b,e,n.keeps k,.inl m,l⟩
 cells:=(I.cells.step (grow_plus k hd) (List.prefix_append _ _) (fun p _ o e=>k _ o e) (fun _ _ m=>.inl m) (IsTb.keep k fun _ m=>.inl m)).snoc ca
 nodup:=by
  have hn:d ∉ fs.map (·.L)++(ρ.map (·.2)++c.tabs.map (·.2)):=fun hm=>Nat.lt_irrefl _ (Nat.lt_of_lt_of_le (I.mlt _ (I.track d hm)) hd)
  have:=I.nodup
  rw[List.map_append,List.append_assoc,List.map_cons,List.map_nil,←List.append_assoc]
  rw[←List.append_assoc]at this hn
  show((fs.map (·.L)++ρ.map (·.2))++([d]++c.tabs.map (·.2))).Nodup
  rw[List.singleton_append]
  exact(List.perm_middle.nodup_iff).mpr (List.nodup_cons.mpr ⟨hn,this⟩)
 tabs q hq:=⟨.inl (I.tabs q hq).1,(I.tabs q hq).2.step (grow_plus k hd) fun o e=>k _ o e⟩
theorem St.cell {c:Cx}{fs:List FrI}{s:Shared}{μ:Addr→Prop}{ρ:List (Addr × Addr)}{σ:List Cell}{h':Heap}(I:Inv c fs μ ρ σ s.heap)(k:∀a o,s.heap.get? a=some o→h'.get? a=some o)(sz:s.heap.objs.size≤h'.objs.size){x d:Addr}{q:Cell}
  (hd:s.heap.objs.size≤d) (hd':d<h'.objs.size) (ca:CellAt c h' (plus μ d) (ρ++[(x,d)]) (x,d) q) {tk:Nat}:St c fs s μ ρ (σ++[q]) { s with heap:=h',toks:=tk } (plus μ d) (ρ++[(x,d)]):=
 ⟨I.cell k sz hd hd' ca,grow_plus k hd,List.prefix_append _ _,rfl,rfl⟩
theorem Inv.len {c:Cx}{fs:List FrI}{μ:Addr→Prop}{ρ:List (Addr × Addr)}{σ:List Cell}{h:Heap}(I:Inv c fs μ ρ σ h):ρ.length=σ.length:=I.cells.len

section
variable {c:Cx}{n m:Nat}{A:Around}{f:FrI}{fs:List FrI}{s:Shared}{μ:Addr→Prop}{ρ:List (Addr × Addr)}{σ:List Cell}{nm:List Str}{sc:Scope}{fr:List (Option V)}{e:Expr}{r:R V}
theorem s_tup {xs:List X}{k:Nat}{p:Pos}(H:SXs c n)(G:Go c (n+1) A f fs s μ ρ σ nm sc fr)(ht:trX c nm sc m (.tup xs k p)=some e)(hr:exX c.T (n+1) (.tup xs k p) fr σ=some r):wpAny (model c.prog c.w) A (eval e f.env) (PX c (f::fs) s μ ρ r) (EX c (f::fs) s μ ρ r) s:=by
 induction m using Nat.casesAuxOn with
 |zero=>exact Mine.n0 ht
 |succ m =>
  obtain⟨es,h1,hz_⟩:=bI ht;clear ht;rename _=>ht
  obtain rfl:=oi ht
  refine wpAny_Tuple (H.run (G.less (Nat.le_succ _)) h1 hr (fun vs σ₁ ys s₁ μ₁ ρ₁ hk G₁ st rep=>?_) fun _ _ h=>h)
  split at hk
  ·rename_i hb
   obtain rfl:=oi hk
   have hb:=sml_le hb
   have hl:=rep.len
   exact⟨szE hl hb,_,_,_,_,rfl,st.trans (St.push G₁.inv _ (tk:=s₁.toks)),rep_tup (tk:=0) G₁.inv rep⟩
  ·exact n0 hk
theorem s_lst {xs:List X}{p:Pos}(H:SXs c n)(G:Go c (n+1) A f fs s μ ρ σ nm sc fr)(ht:trX c nm sc m (.lst xs p)=some e)(hr:exX c.T (n+1) (.lst xs p) fr σ=some r):wpAny (model c.prog c.w) A (eval e f.env) (PX c (f::fs) s μ ρ r) (EX c (f::fs) s μ ρ r) s:=by
 induction m using Nat.casesAuxOn with
 |zero=>exact Mine.n0 ht
 |succ m =>
  obtain⟨es,h1,hz_⟩:=bI ht;clear ht;rename _=>ht
  obtain rfl:=oi ht
  refine List_ (H.run (G.less (Nat.le_succ _)) h1 hr (fun vs σ₁ ys s₁ μ₁ ρ₁ hk G₁ st rep=>?_) fun _ _ h=>h)
  split at hk
  ·rename_i hb
   obtain rfl:=oi hk
   have hb:=sml_le hb
   have hl:=rep.len
   have hl2:ys.length≤1000:=hl▸hb
   refine wpAny_newObj_type ?_ (by show ys.toArray.size≤sizeLine;rw[sizeLine_eq,List.size_toArray];exact Nat.le_trans hl2 (by decide))
   have hk0:∀a o,s₁.heap.get? a=some o→(s₁.heap.push { cls:=.type "list",data:=.seq ys.toArray }).get? a=some o:=fun _ _ e=>Heap.get?_push_of_some _ e
   have ca:CellAt c (s₁.heap.push { cls:=.type "list",data:=.seq ys.toArray }) (plus μ₁ s₁.heap.objs.size) (ρ₁++[(s₁.heap.objs.size,s₁.heap.objs.size)]) (s₁.heap.objs.size,s₁.heap.objs.size) (.list vs):=
    .list (n:=0) (xs:=ys.toArray) (Heap.get?_push_size _ rfl) (.inr rfl) (by simpa using rep.mono (grow_plus hk0 (Nat.le_refl _)) (List.prefix_append _ _))
   have hst:=St.cell G₁.inv hk0 (by rw[Heap.size_push];exact Nat.le_succ _) (Nat.le_refl _) (by rw[Heap.size_push];exact Nat.lt_succ_self _) ca (tk:=s₁.toks)
   refine⟨_,_,_,_,rfl,st.trans hst,.ref (d:=s₁.heap.objs.size) ?_⟩
   rw[←G₁.inv.len,List.getElem?_append_right (Nat.le_refl _),Nat.sub_self]
   rfl
  ·exact n0 hk
theorem s_lstF {xs:List X}{p:Pos}(H:SXs c n)(G:Go c (n+1) A f fs s μ ρ σ nm sc fr)(ht:trX c nm sc m (.lstF xs p)=some e)(hr:exX c.T (n+1) (.lstF xs p) fr σ=some r):wpAny (model c.prog c.w) A (eval e f.env) (PX c (f::fs) s μ ρ r) (EX c (f::fs) s μ ρ r) s:=by
 induction m using Nat.casesAuxOn with
 |zero=>exact Mine.n0 ht
 |succ m =>
  obtain⟨es,h1,hz_⟩:=bI ht;clear ht;rename _=>ht
  obtain rfl:=oi ht
  refine List_ (H.run (G.less (Nat.le_succ _)) h1 hr (fun vs σ₁ ys s₁ μ₁ ρ₁ hk G₁ st rep=>?_) fun _ _ h=>h)
  split at hk
  ·rename_i hb
   obtain rfl:=oi hk
   have hb:=sml_le hb
   have hl:=rep.len
   have hl2:ys.length≤1000:=hl▸hb
   refine wpAny_newObj_type ?_ (by show ys.toArray.size≤sizeLine;rw[sizeLine_eq,List.size_toArray];exact Nat.le_trans hl2 (by decide))
   exact⟨_,_,_,_,rfl,st.trans (St.push G₁.inv _ (tk:=s₁.toks)),rep_lst (tk:=0) G₁.inv (by simpa using rep)⟩
  ·exact n0 hk
theorem litO_ {x:X}{w:V}(h:litO x=some w)(hx:trX c nm sc m x=some e):∃d,tabLit e=some d∧flatD w=some d:=by
 induction m using Nat.casesAuxOn with
 |zero=>exact n0 hx
 |succ m =>
  cases x with
  |str l p=>obtain rfl:=oi h;obtain rfl:=oi hx;exact⟨_,rfl,rfl⟩
  |int i p=>obtain rfl:=oi h;obtain rfl:=oi hx;exact⟨_,rfl,rfl⟩
  |_=>exact n0 h
theorem strO_c {x:X}{l:CS}(h:strO x=some l)(hx:trX c nm sc m x=some e):tabLit e=some (.str (sS l)):=by
 obtain⟨p,rfl⟩:=strO_ h
 induction m using Nat.casesAuxOn with
 |zero=>exact n0 hx
 |succ m=>obtain rfl:=oi hx;rfl
theorem lit_cons {k v:Expr}{a b:PyData}{ks vs:List Expr}{D:List (PyData × PyData)}(h1:tabLit k=some a)(h2:tabLit v=some b)(h3:litPairs (ks.map some) vs=some D):litPairs ((k::ks).map some) (v::vs)=some ((a,b)::D):=by
 show((tabLit k).bind fun a=>(tabLit v).bind fun b=>(litPairs (ks.map some) vs).bind fun r=>some ((a,b)::r))=_
 rw[h1,h2,h3];rfl
theorem lits_of {ks:List X}:∀{vs:List X} {kl:List CS} {vl:List V} {kes ves:List Expr} {m m':Nat},strL ks=some kl→litL vs=some vl→kl.length=vl.length→trXs c nm sc m ks=some kes→trXs c nm sc m' vs=some ves →
  ∃D,DRep kl vl D∧litPairs (kes.map some) ves=some D∧kes.length=kl.length∧ves.length=vl.length:=by
 induction ks with
 |nil =>
  intro vs kl vl kes ves m m' hk hv hl h1 h2
  obtain rfl:=oi hk
  obtain rfl:=trXs_nil h1
  induction vs using List.casesOn with
  |nil=>obtain rfl:=oi hv;obtain rfl:=trXs_nil h2;exact⟨[],.nil,rfl,rfl,rfl⟩
  |cons v vs =>
   obtain⟨w,_,hv⟩:=bI hv
   obtain⟨ws,_,hv⟩:=bI hv
   obtain rfl:=oi hv
   exact Nat.noConfusion hl
 |cons k ks ih =>
  intro vs kl vl kes ves m m' hk hv hl h1 h2
  obtain⟨l,hk1,hk⟩:=bI hk
  obtain⟨ls,hk2,hk⟩:=bI hk
  obtain rfl:=oi hk
  obtain⟨m1,e,es',rfl,g1,g2,rfl,_⟩:=trXs_cons h1
  induction vs using List.casesOn with
  |nil=>obtain rfl:=oi hv;exact Nat.noConfusion hl
  |cons v vs =>
   obtain⟨w,hv1,hv⟩:=bI hv
   obtain⟨ws,hv2,hv⟩:=bI hv
   obtain rfl:=oi hv
   obtain⟨m2,e2,es2,rfl,g3,g4,rfl,_⟩:=trXs_cons h2
   obtain⟨D,d1,d2,d3,d4⟩:=ih hk2 hv2 (Nat.succ.inj hl) g2 g4
   obtain⟨d,t1,t2⟩:=litO_ hv1 g3
   exact⟨_,.cons t2 d1,lit_cons (strO_c hk1 g1) t1 d2,congrArg Nat.succ d3,congrArg Nat.succ d4⟩
theorem DRep.keys {ks:List CS}{vs:List V}{D:List (PyData × PyData)}(h:DRep ks vs D):PyProof.Rows.strKeyed D=true∧strKeysOf D=ks.map sS:=by
 induction h with
 |nil=>exact⟨rfl,rfl⟩
 |cons _ _ ih=>exact⟨ih.1,congrArg (sS _::·) ih.2⟩
set_option tactic.hygienic true in theorem s_dct {ks vs:List X}{p:Pos}(G:Go c (n+1) A f fs s μ ρ σ nm sc fr)(ht:trX c nm sc m (.dct ks vs p)=some e)(hr:exX c.T (n+1) (.dct ks vs p) fr σ=some r):wpAny (model c.prog c.w) A (eval e f.env) (PX c (f::fs) s μ ρ r) (EX c (f::fs) s μ ρ r) s:=by
 induction m using Nat.casesAuxOn with
 |zero=>exact Mine.n0 ht
 |succ m =>
  obtain⟨kes,h1,hz_⟩:=bI ht;clear ht;rename _=>ht
  obtain⟨ves,h2,hz_⟩:=bI ht;clear ht;rename _=>ht
  obtain rfl:=oi ht
  replace hr:(match strL ks,litL vs with | some ks,some vs=>if ks.length=vs.length∧ks.Nodup∧ks.length≤15 then some (R.ok (V.dct ks vs) σ)else none | _,_=>none)=some r:=hr
  split at hr
  ·rename_i kl vl hk hv
   split at hr
   ·rename_i hc
    obtain rfl:=oi hr
    obtain⟨D,d5,d1,d6,d7⟩:=lits_of hk hv hc.1 h1 h2
    obtain⟨d2,d3⟩:=d5.keys
    have low:∀a,s.heap.objs.size≤a→(a==sysModules)=false:=fun a ha=>by
     have h1:=modules_low G.bs.T.nolimit
     have h2:=G.inv.low
     exact beq_eq_false_iff_ne.mpr fun q=>Nat.lt_irrefl _ (Nat.lt_of_lt_of_le h1 (Nat.le_trans h2 (q▸ha)))
    have fin:∀a o h₁ tk,s.heap.objs.size≤a→h₁.get? a=some o→TabObj (PySem.strKind c.prog c.w) PyData.str D o→(∀b o',s.heap.get? b=some o'→h₁.get? b=some o')→PX c (f::fs) s μ ρ (.ok (.dct kl vl) σ) (.ref a) { s with heap:=h₁,toks:=tk }:=by
     intro a o h₁ tk ha ho ⟨kvs,hkv,hfl⟩ hkeep
     exact⟨_,_,_,_,rfl,.keep G.inv hkeep (Nat.le_of_lt (Nat.lt_of_le_of_lt ha (Heap.lt_size ho))),.dct ho hkv hfl (low a ha) (fun hm=>Nat.lt_irrefl _ (Nat.lt_of_lt_of_le (G.inv.mlt a hm) ha)) d5⟩
    by_cases h0:kes=[]
    ·subst h0
     have hkl:kl=[]:=List.length_eq_zero_iff.mp (by simpa using d6.symm)
     have hve:ves=[]:=List.length_eq_zero_iff.mp (by rw[d7,←hc.1,hkl];rfl)
     subst hve
     simp[litPairs]at d1
     subst d1
     refine wpAny_Dict_empty ?_
     exact fin s.heap.objs.size _ _ s.toks (Nat.le_refl _) (Heap.get?_push_size _ rfl) ⟨[],by
      obtain⟨o,ho,hd⟩:=Heap.dictOf_iff.mp (Heap.DictOf.new (knd:=PySem.strKind c.prog c.w) s.heap)
      rw[Heap.get?_push_size _ rfl]at ho
      exact(Option.some.inj ho)▸hd,.nil⟩ fun b o' e=>Heap.get?_push_of_some _ e
    ·refine Dict_lits_str d1 d2 ?_ (by simp) (by rw[List.length_map,d6,d7,hc.1]) (by simpa using h0) (by rw[List.length_map,d6];exact hc.2.2) fin
     rw[d3]
     exact List.Pairwise.map _ (fun a b h q=>h (sS_inj.mp q)) hc.2.1
   ·exact n0 hr
  ·exact n0 hr
end

theorem sub_tail {prog:Program}{w:World}{A:Around}{E:Value→Shared→Prop}{s:Shared}{value slice:Expr}{o i:Value}{T id:String}{Q:Value→Shared→Prop}(hT:s.TypeIs o T)
  (hl:typeLookup (.type T) "__getitem__" = pure (some (.builtin id))) (h:wpAny (model prog w) A (getItem o i) Q E s)
  (hs:subscripted slice false o i=operate [o,i] (getItem o i)):
  wpAny (model prog w) A (subscriptTail value slice o i) Q E s:=by
 unfold subscriptTail
 refine wpAny_bind ?_
 rw[getitemInPython_of_ne hT.not_modules]
 refine wpAny_bind (wpAny_specialOf hT hl ?_)
 have fin:wpAny (model prog w) A (subscripted slice false o i) (fun r s₃=>wpAny (model prog w) A (letTemporaryGo value o r >>= fun _=>pure r) Q E s₃) E s:=by
  rw[hs]
  exact wpAny_operating (wpAny_mono h (fun r s₃ h₃=>wpAny_bind (wpAny_letTemporaryGo (wpAny_pure h₃))) fun _ _ x=>x)
 first
  |exact wpAny_pure (wpAny_bind fin)
  |exact wpAny_bind (wpAny_pure (wpAny_bind fin))
  |exact wpAny_bind fin
theorem flat_rep {c:Cx}{h:Heap}{μ:Addr→Prop}{ρ:List (Addr × Addr)}{v:V}{d:PyData}{x:Value}(hf:flatD v=some d)(hx:Flat x d):VRep c h μ ρ v x:=by
 induction v using V.casesOn with
 |int i=>cases hf;obtain⟨t,rfl⟩:=Flat.int_inv hx;exact .int _ _
 |str l=>cases hf;obtain⟨t,rfl⟩:=Flat.str_inv hx;exact .str _ _
 |_=>exact n0 hf
theorem dget_look {x:CS}{ks:List CS}{vs:List V}{ds:List (PyData × PyData)}{v:V}(D:DRep ks vs ds):dget x ks vs=some v→∃d,Spec.lookup (.str (sS x)) ds=some d∧flatD v=some d:=by
 induction D with
 |nil=>exact fun h=>n0 h
 |cons e _ ih =>
  intro h
  by_cases q:x=‹_›
  ·obtain rfl:=oi ((if_pos q).symm.trans h)
   exact⟨_,if_pos (by rw[q];exact beq_iff_eq.mpr rfl),e⟩
  ·obtain⟨d,z,w⟩:=ih ((if_neg q).symm.trans h)
   exact⟨d,(if_neg (by rw[PyProof.V.same_str];simp[sS_inj];exact fun z=>q z.symm)).trans z,w⟩
section
variable {c:Cx}{n m:Nat}{A:Around}{f:FrI}{fs:List FrI}{s:Shared}{μ:Addr→Prop}{ρ:List (Addr × Addr)}{σ:List Cell}{nm:List Str}{sc:Scope}{fr:List (Option V)}{e:Expr}{r:R V}
theorem seqIndex_nat {k:Int}{z j:Nat}(h0:0≤k)(hj:k.toNat<z):seqIndex? k z=some k.toNat:=by
 unfold seqIndex?
 have h1:¬k<0:=Int.not_lt.mpr h0
 simp[h1]
 exact⟨h0,(Int.toNat_lt h0).mp hj⟩
theorem Go.sub (G:Go c n A f fs s μ ρ σ nm sc fr){a b w:V}{x y:Value}(ra:VRep c s.heap μ ρ a x)(rb:VRep c s.heap μ ρ b y)(h:subV σ a b=some w){value slice:Expr}(hns:∀a b d p,slice≠.Slice a b d p){Q E:Value→Shared→Prop}
  (k:∀z tk,VRep c s.heap μ ρ w z→Q z { s with toks:=tk }):wpAny (model c.prog c.w) A (subscriptTail value slice x y) Q E s:=by
 have hs:∀o i:Value,subscripted slice false o i=operate [o,i] (getItem o i):=fun o i=>by
  cases slice<;>first | rfl | exact absurd rfl (hns _ _ _ _)
 cases subO h with
 |tup h0 h1 h =>
  obtain⟨_,_,_,rfl,e,nn,vs⟩:=ra.tup_
  obtain⟨_,rfl⟩:=rb.int_
  obtain⟨z,hz,rz⟩:=vs.get h
  have it:IsTup s.heap _ _:=⟨_,e,rfl,_,rfl⟩
  have hlt:=(List.getElem?_eq_some_iff.mp hz).1
  exact sub_tail it.typeIs PyProof.Rows.slot_tuple_getitem.lookup (PyProof.Rows.getItem_tuple it (k63n h0) (k63 h1) (seqIndex_nat (j:=0) h0 hlt) ((Array.getElem?_toList ..).symm.trans hz) (k _ s.toks rz)) (hs _ _)
 |@str _ _ ch h0 h1 hch =>
  obtain⟨_,rfl⟩:=ra.str_
  obtain⟨_,rfl⟩:=rb.int_
  have hlt:=(List.getElem?_eq_some_iff.mp hch).1
  refine sub_tail (typeIs_str s _ _) PyProof.Rows.slot_str_getitem.lookup (PyProof.Rows.getItem_str (c:=ch) (by rw[decide_eq_false (Int.not_lt.mpr (k63n h0)),decide_eq_false (Int.not_le.mpr (k63 h1))];rfl) ?_ ?_) (hs _ _)
  ·rw[sS_len,seqIndex_nat (j:=0) h0 hlt]
   simpa [sS] using hch
  ·exact k (.str (sS [ch]) s.toks) (s.toks+1) (.str _ _)
 |dct h =>
  obtain⟨_,rfl⟩:=rb.str_
  cases ra with
  |dct e d fl lo nn h1 =>
   obtain⟨dv,hd,hf⟩:=dget_look h1 h
   have hd':Heap.DictOf (PySem.strKind c.prog c.w) s.heap _ _:=Heap.dictOf_iff.mpr ⟨_,e,d⟩
   obtain⟨v,hv,hflat⟩:=FlatPairs.of_lookup PyProof.V.same_str fl hd
   exact sub_tail hd'.typeIs PySem.slot_dict_getitem.lookup (wpAny_getItem_of (PySem.strKind_is _ _ _ _) hd'.mapOf hv (k _ _ (flat_rep hf hflat))) (hs _ _)
 |it hl h0 h1 h =>
  obtain⟨_,rfl⟩:=rb.int_
  obtain⟨p,xs,k1,rfl,il,vs⟩:=G.items ra hl
  obtain⟨z,hz,rz⟩:=vs.get h
  exact sub_tail il.isList.typeIs PySem.slot_list_getitem.lookup (wpAny_getItem_list il.isList h0 (k63 h1) ((Array.getElem?_toList ..).symm.trans hz) (k _ s.toks rz)) (hs _ _)
 |@last _ l _ hl h =>
  obtain⟨_,rfl⟩:=rb.int_
  obtain⟨p,xs,k1,rfl,il,vs⟩:=G.items ra hl
  rw[List.getLast?_eq_getElem?]at h
  obtain⟨z,hz,rz⟩:=vs.get h
  have e:=vs.len
  have hlt:=(List.getElem?_eq_some_iff.mp hz).1
  rw[Array.length_toList (xs:=xs)]at e hlt
  exact sub_tail il.isList.typeIs PySem.slot_list_getitem.lookup (PySem.wpAny_getItem_list_neg il.isList (by decide) (Int.neg_le_neg (Int.ofNat_le.mpr (Nat.lt_of_le_of_lt (Nat.zero_le _) hlt))) (by decide) (by rw[show((-1:Int)+xs.size).toNat=l.length - 1 by rw[e,Int.add_comm];exact Int.toNat_sub xs.size 1];exact(Array.getElem?_toList ..).symm.trans hz) (k _ s.toks rz)) (hs _ _)
theorem s_sub {x y:X}{p:Pos}(H:SX c n)(G:Go c (n+1) A f fs s μ ρ σ nm sc fr)(ht:trX c nm sc m (.sub x y p)=some e)(hr:exX c.T (n+1) (.sub x y p) fr σ=some r):wpAny (model c.prog c.w) A (eval e f.env) (PX c (f::fs) s μ ρ r) (EX c (f::fs) s μ ρ r) s:=by
 induction m using Nat.casesAuxOn with
 |zero=>exact Mine.n0 ht
 |succ m =>
  obtain⟨e1,h1,hz_⟩:=bI ht;clear ht;rename _=>ht
  obtain⟨e2,h2,hz_⟩:=bI ht;clear ht;rename _=>ht
  ·obtain⟨hne,rfl⟩:=ifN ht
   refine Subscript_ (H.run (G.less (Nat.le_succ _)) h1 hr (fun v σ₁ y₁ s₁ μ₁ ρ₁ hk G₁ st rep=>?_) fun _ _ h=>h)
   refine H.run G₁ h2 hk (fun w σ₂ y₂ s₂ μ₂ ρ₂ hk G₂ st' rep'=>?_) fun _ _ h=>h.up st fun _ _ z=>z
   obtain⟨z,hz,rfl⟩:=lif_some hk
   exact G₂.sub (st'.up rep) rep' hz (fun a b d p q=>hne (congrArg isSl q)) fun z tk rz=>⟨_,_,_,_,rfl,(st.trans st').then,rz⟩
end

section
variable {c:Cx}{n m:Nat}{A:Around}{f:FrI}{fs:List FrI}{s:Shared}{μ:Addr→Prop}{ρ:List (Addr × Addr)}{σ:List Cell}{nm:List Str}{sc:Scope}{fr:List (Option V)}{e:Expr}{r:R V}
theorem s_slc {x:X}{lo hi:Option X}{sp p:Pos}(H:SX c n)(G:Go c (n+1) A f fs s μ ρ σ nm sc fr)(ht:trX c nm sc m (.slc x lo hi sp p)=some e)(hr:exX c.T (n+1) (.slc x lo hi sp p) fr σ=some r):wpAny (model c.prog c.w) A (eval e f.env) (PX c (f::fs) s μ ρ r) (EX c (f::fs) s μ ρ r) s:=by
 induction m using Nat.casesAuxOn with
 |zero=>exact Mine.n0 ht
 |succ m =>
  obtain⟨e1,h1,hz_⟩:=bI ht;clear ht;rename _=>ht
  obtain⟨e2,h2,hz_⟩:=bI ht;clear ht;rename _=>ht
  obtain⟨e3,h3,hz_⟩:=bI ht;clear ht;rename _=>ht
  induction lo using Option.casesOn with
  |some lo =>
   induction hi using Option.casesOn with
   |some=>exact n0 hr
   |none =>
    induction m using Nat.casesAuxOn with
    |zero=>exact Mine.n0 h1
    |succ m =>
     obtain rfl:=oi h3
     obtain⟨e2',h4,rfl⟩:=mI h2;clear h2
     obtain⟨hnm,rfl⟩:=ifI ht
     obtain⟨y,q,rfl⟩:=isNm_ hnm
     refine wpAny_Subscript_list_slice (H.run (G.less (Nat.le_succ _)) h1 hr (fun v σ₁ y₁ s₁ μ₁ ρ₁ hk G₁ st rep=>?_) fun _ _ h=>h) (fun _ _=>rfl)
     refine evalPart_some_step ?_
     refine H.run G₁ h4 hk (fun w σ₂ y₂ s₂ μ₂ ρ₂ hk G₂ st' rep'=>evalPart_none_step ?_) fun _ _ h=>h.up st fun _ _ z=>z
     obtain⟨z,hz,rfl⟩:=lif_some hk
     cases sldO hz with
     |@mk l kk hl hb0 h0 h1 =>
      obtain⟨t₂,rfl⟩:=rep'.int_
      obtain⟨a,xs,k1,rfl,il,vs⟩:=G₂.items (st'.up rep) hl
      have e1:l.length=xs.size:=vs.len
      have hsz:xs.size≤sizeLine:=szE e1 hb0
      refine⟨a,xs,_,_,rfl,il.isList,hsz,.int _ _,.none,?_⟩
      have hp:slicePick xs (some kk) none none=(xs.toList.drop kk.toNat).toArray:=by
       have:=slicePick_from' xs kk.toNat
       rwa [Int.toNat_of_nonneg h0]at this
      rw[hp]
      have stp:=St.push G₂.inv { cls:=.type "slice",data:=.fields #[.int kk t₂,.none,.none] } (tk:=s₂.toks)
      have hsl:=rep_lst (tk:=0) (s:={ s₂ with heap:=s₂.heap.push { cls:=.type "slice",data:=.fields #[.int kk t₂,.none,.none] } }) stp.inv (l:=l.drop kk.toNat) (xs:=(xs.toList.drop kk.toNat).toArray) ((vs.mono stp.grow (List.prefix_refl _)).drop _)
      have hszp:(s₂.heap.push { cls:=.type "slice",data:=.fields #[.int kk t₂,.none,.none] }).objs.size=s₂.heap.objs.size+1:=Heap.size_push ..
      simp only[hszp]at hsl
      exact⟨_,_,_,_,rfl,(st.trans st').trans (stp.trans (St.push stp.inv _ (tk:=s₂.toks))),hsl⟩
  |none =>
   induction hi using Option.casesOn with
   |none=>exact n0 hr
   |some hi =>
    induction m using Nat.casesAuxOn with
    |zero=>exact Mine.n0 h1
    |succ m =>
     obtain rfl:=oi h2
     obtain⟨e3',h4,rfl⟩:=mI h3;clear h3
     ·obtain⟨hnm,rfl⟩:=ifI ht
      obtain⟨y,q,rfl⟩:=isNm_ hnm
      refine wpAny_Subscript_list_slice (H.run (G.less (Nat.le_succ _)) h1 hr (fun v σ₁ y₁ s₁ μ₁ ρ₁ hk G₁ st rep=>?_) fun _ _ h=>h) (fun _ _=>rfl)
      refine evalPart_none_step (evalPart_some_step ?_)
      refine H.run G₁ h4 hk (fun w σ₂ y₂ s₂ μ₂ ρ₂ hk G₂ st' rep'=>?_) fun _ _ h=>h.up st fun _ _ z=>z
      obtain⟨z,hz,rfl⟩:=lif_some hk
      cases slcO hz with
      |@mk l kk hl hb0 hb1 =>
        obtain⟨t₂,rfl⟩:=rep'.int_
        obtain⟨a,xs,k1,rfl,il,vs⟩:=G₂.items (st'.up rep) hl
        have e1:l.length=xs.size:=vs.len
        have hsz:xs.size≤sizeLine:=szE e1 hb0
        refine⟨a,xs,_,_,rfl,il.isList,hsz,.none,.int _ _,?_⟩
        have hp:slicePick xs none (some kk) none=(xs.toList.take (if 0≤kk then kk.toNat else xs.size - kk.natAbs)).toArray:=by
         by_cases h0:0≤kk
         ·rw[if_pos h0]
          have:=slicePick_upto' xs kk.toNat
          rwa [Int.toNat_of_nonneg h0]at this
         ·rw[if_neg h0]
          have:=slicePick_butLast xs kk.natAbs (Int.natAbs_pos.mpr fun e=>h0 (Int.le_of_eq e.symm))
          rwa [Int.ofNat_natAbs_of_nonpos (Int.le_of_lt (Int.not_le.mp h0)),Int.neg_neg]at this
        rw[hp]
        have stp:=St.push G₂.inv { cls:=.type "slice",data:=.fields #[.none,.int kk t₂,.none] } (tk:=s₂.toks)
        have hsl:=rep_lst (tk:=0) (s:={ s₂ with heap:=s₂.heap.push { cls:=.type "slice",data:=.fields #[.none,.int kk t₂,.none] } }) stp.inv (l:=l.take (if 0≤kk then kk.toNat else xs.size - kk.natAbs)) (xs:=(xs.toList.take (if 0≤kk then kk.toNat else xs.size - kk.natAbs)).toArray) ((vs.mono stp.grow (List.prefix_refl _)).take _)
        have e2:(if 0≤kk then List.take kk.toNat l else List.take (l.length - kk.natAbs) l)=l.take (if 0≤kk then kk.toNat else xs.size - kk.natAbs):=by rw[e1];split<;>rfl
        rw[e2]
        have hszp:(s₂.heap.push { cls:=.type "slice",data:=.fields #[.none,.int kk t₂,.none] }).objs.size=s₂.heap.objs.size+1:=Heap.size_push ..
        simp only[hszp]at hsl
        exact⟨_,_,_,_,rfl,(st.trans st').trans (stp.trans (St.push stp.inv _ (tk:=s₂.toks))),hsl⟩
end

noncomputable def freeOf (ns:List (Str × NameKind)):List Str:=(ns.filter fun y=>y.2==.free).map (·.1)
theorem clos_go (env:Env)(g:Str→Addr):∀(ns:List (Str × NameKind)) (acc:List (Str × Addr)),(∀y∈freeOf ns,env.cells.lookup y=some (g y)) →
  (forIn ns acc (fun(x:Str × NameKind) (r:List (Str × Addr))=>(match x with
   |(name,kind)=>if (kind==NameKind.free)=true then do let __do_lift ←cellOf env name;pure PUnit.unit;pure (ForInStep.yield ((name,__do_lift)::r))else do pure PUnit.unit;pure (ForInStep.yield r)):(Str × NameKind)→List (Str × Addr)→Sem (ForInStep (List (Str × Addr)))):Sem (List (Str × Addr)))=pure (((freeOf ns).map fun n=>(n,g n)).reverse++acc)
 | [],acc,_=>by rw[List.forIn_nil];rfl
 |(y,k)::ns,acc,h=>by
  rw[List.forIn_cons]
  by_cases hk:(k==NameKind.free)=true
  ·have hy:env.cells.lookup y=some (g y):=h y (by simp[freeOf,hk])
   have hc:cellOf env y=pure (g y):=by unfold cellOf;rw[hy]
   simp only[hk,if_true,hc,pure_bind]
   rw[clos_go env g ns _ fun z hz=>h z (by simp only[freeOf,List.filter_cons,hk,if_true,List.map_cons];exact List.mem_cons_of_mem _ hz)]
   simp[freeOf,hk]
  ·simp only[hk,if_false,pure_bind,Bool.false_eq_true]
   rw[clos_go env g ns _ fun z hz=>h z (by simp only[freeOf,List.filter_cons,hk,if_false,Bool.false_eq_true];exact hz)]
   simp[freeOf,hk]
theorem clos_eq {scope:Scope}{env:Env}{g:Str→Addr}(h:∀y∈freeOf scope.names,env.cells.lookup y=some (g y)):closureFor scope env=pure ((freeOf scope.names).map fun n=>(n,g n)).reverse:=by
 unfold closureFor
 have:=clos_go env g scope.names [] h
 simp only[List.append_nil]at this
 first
  |(rw[bind_pure];exact this)
  |exact this
  |(simp only[bind_pure];exact this)
theorem lookup_fun {g:Str→Addr}{y:Str}:∀{l:List Str},y∈l→(l.map fun n=>(n,g n)).lookup y=some (g y)
 | [],h=>nomatch h
 |z::l,h=>by
  rw[List.map_cons,List.lookup_cons]
  cases q:y==z with
  |true=>rw[eq_of_beq q]
  |false =>
   rcases List.mem_cons.mp h with rfl | h
   ·simp at q
   ·exact lookup_fun h

theorem nodup_key {α:Type}{g:α→Nat}:∀{l:List α},(l.map g).Nodup→∀{a b:α},a∈l→b∈l→g a=g b→a=b
 | [],_,_,_,h,_,_=>nomatch h
 |x::l,hn,a,b,ha,hb,e=>by
  rw[List.map_cons,List.nodup_cons]at hn
  rcases List.mem_cons.mp ha with ea | ha<;>rcases List.mem_cons.mp hb with eb | hb
  ·rw[ea,eb]
  ·exact absurd (show g x∈l.map g by rw[←ea,e];exact List.mem_map_of_mem hb) hn.1
  ·exact absurd (show g x∈l.map g by rw[←eb,←e];exact List.mem_map_of_mem ha) hn.1
  ·exact nodup_key hn.2 ha hb e
section
variable {c:Cx}{fs:List FrI}{μ:Addr→Prop}{ρ:List (Addr × Addr)}{σ:List Cell}{h:Heap}
structure Nd (fs:List FrI)(ρ tb:List (Addr × Addr)):Prop where
 n1:(fs.map (·.L)).Nodup
 n2:(ρ.map (·.2)).Nodup
 n3:(tb.map (·.2)).Nodup
 n4:∀f∈fs,∀p∈ρ,f.L≠p.2
 n5:∀f∈fs,∀q∈tb,f.L≠q.2
 n6:∀p∈ρ,∀q∈tb,p.2≠q.2
theorem Inv.nd (I:Inv c fs μ ρ σ h):Nd fs ρ c.tabs:=by
 have h1:=List.nodup_append.mp I.nodup
 have h2:=List.nodup_append.mp h1.2.1
 exact⟨h1.1,h2.1,h2.2.1,fun f hf p hp=>h1.2.2 _ (List.mem_map_of_mem hf) _ (List.mem_append_left _ (List.mem_map_of_mem hp)),
  fun f hf q hq=>h1.2.2 _ (List.mem_map_of_mem hf) _ (List.mem_append_right _ (List.mem_map_of_mem hq)),fun p hp q hq=>h2.2.2 _ (List.mem_map_of_mem hp) _ (List.mem_map_of_mem hq)⟩
theorem grow_but {h':Heap}{d:Addr}(k:∀a o,a≠d→h.get? a=some o→h'.get? a=some o)(hm:μ d):Grow h μ h' μ:=fun a o e n=>⟨k a o (fun q=>n (q▸hm)) e,n⟩
theorem Inv.upd {fs':List FrI}{σ':List Cell}{h':Heap}{d:Addr}(I:Inv c fs μ ρ σ h)(k:∀a o,a≠d→h.get? a=some o→h'.get? a=some o)(hm:μ d)(sz:h.objs.size≤h'.objs.size)
  (hf:∀f∈fs',FrOK c.B.objs.size μ h' f) (hc:CellsAt c h' μ ρ ρ σ') (hn:(fs'.map (·.L)++(ρ.map (·.2)++c.tabs.map (·.2))).Nodup) (ht:∀q∈c.tabs,μ q.2∧TabRow c h' μ q):Inv c fs' μ ρ σ' h' :=
 ⟨fun a o e=>let ⟨e',n⟩:=I.base a o e;⟨k a o (fun q=>n (q▸hm)) e',n⟩,Nat.le_trans I.low sz,fun a m=>Nat.lt_of_lt_of_le (I.mlt a m) sz,hf,hc,hn,ht⟩
theorem Ns.but {h':Heap}{d L:Addr}{m:Str→Option Value}(k:∀a o,a≠d→h.get? a=some o→h'.get? a=some o)(hn:h.Ns L m)(hd:L≠d):h'.Ns L m:=by
 obtain⟨o,es,ep,ho,r⟩:=hn
 exact⟨o,es,ep,k _ _ hd ho,r⟩
theorem Inv.atTab {h':Heap}(I:Inv c fs μ ρ σ h){q:Addr × Addr}(hq:q∈c.tabs)(k:∀a o,a≠q.2→h.get? a=some o→h'.get? a=some o)(sz:h.objs.size≤h'.objs.size)(ht:TabRow c h' μ q):Inv c fs μ ρ σ h':=by
 have hm:=(I.tabs q hq).1
 obtain⟨n1,n2,n3,n4,n5,n6⟩:=I.nd
 refine I.upd k hm sz (fun f hf=>?_) (I.cells.step (grow_but k hm) (List.prefix_refl _) (fun p hp o e=>k _ _ (n6 p hp q hq) e) (fun _ _ m=>m) (IsTb.but k fun o e=>by obtain⟨ps,e',_⟩:=(I.tabs q hq).2;rw[e']at e;cases e;intro z;cases z)) I.nodup fun q' hq'=>⟨(I.tabs q' hq').1,?_⟩
 ·obtain⟨a,b,d,e,m,l⟩:=I.frames f hf
  exact⟨a,b,d,Ns.but k e (n5 f hf q hq),m,l⟩
 ·by_cases e:q'.2=q.2
  ·rw[nodup_key n3 hq' hq e];exact ht
  ·exact(I.tabs q' hq').2.step (grow_but k hm) fun o z=>k _ _ e z
end

section
variable {c:Cx}{n m:Nat}{A:Around}{f:FrI}{fs:List FrI}{s:Shared}{μ:Addr→Prop}{ρ:List (Addr × Addr)}{σ:List Cell}{nm:List Str}{sc:Scope}{fr:List (Option V)}{e:Expr}{r:R V}
theorem crep_of {h:Heap}{cl:List (Str × Addr)}{g:Str→Addr}:∀(ns:List (Str × NameKind)) (vs:List V),(∀y∈freeOf ns,cl.lookup y=some (g y)) →
  (∀(i:Nat) (y:Str) (v:V),(freeOf ns)[i]?=some y→vs[i]?=some v→∃o x,h.get? (g y)=some o∧o.data=.cell (some x)∧¬μ (g y)∧VRep c h μ ρ v x)→vs.length=(freeOf ns).length→CRep c h μ ρ ns cl vs
 | [],vs,_,_,hl=>by
  induction vs using List.casesOn with
  |nil=>exact .nil
  |cons=>simp[freeOf]at hl
 |(y,k)::ns,vs,h1,h2,hl=>by
  by_cases hk:k=.free
  ·subst hk
   induction vs using List.casesOn with
   |nil=>simp[freeOf]at hl
   |cons v vs =>
    have e:freeOf ((y,.free)::ns)=y::freeOf ns:=by simp[freeOf]
    rw[e]at h1 h2 hl
    obtain⟨o,x,a,b,d,rep⟩:=h2 0 y v rfl rfl
    exact .cons (h1 y List.mem_cons_self) a b d rep (crep_of ns vs (fun z hz=>h1 z (List.mem_cons_of_mem _ hz)) (fun i z w a b=>h2 (i+1) z w (by simpa using a) (by simpa using b)) (by simpa using hl))
  ·have e:freeOf ((y,k)::ns)=freeOf ns:=by simp[freeOf,hk]
   rw[e]at h1 h2 hl
   exact .skip hk (crep_of ns vs h1 h2 hl)
set_option tactic.hygienic true in theorem caps_get:∀{l:List Nat} {vs:List V},caps fr l=some vs→vs.length=l.length∧∀(i:Nat) (j:Nat) (v:V),l[i]?=some j→vs[i]?=some v→fr[j]?=some (some v)
 | [],vs,h=>by cases h;exact⟨rfl,fun i j v e=>by simp at e⟩
 |j::l,vs,h=>by
  unfold caps at h
  split at h
  ·rename_i v hv
   simp only[Option.map_eq_some_iff]at h
   obtain⟨ws,hw,rfl⟩:=h
   obtain⟨a,b⟩:=caps_get hw
   refine⟨by simp[a],fun i j' w e1 e2=>?_⟩
   induction i using Nat.casesAuxOn with
   |zero=>cases e1;cases e2;exact hv
   |succ i=>exact b i j' w (by simpa using e1) (by simpa using e2)
  ·exact n0 h
theorem fm_get {l:List Nat}(hl:(l.filterMap (nm[·]?)).length=l.length):∀(i:Nat) (y:Str),(l.filterMap (nm[·]?))[i]?=some y→∃j,l[i]?=some j∧nm[j]?=some y:=by
 induction l with
 |nil=>intro i y h;simp at h
 |cons j l ih =>
  intro i y h
  cases hj:nm[j]? with
  |none =>
   rw[List.filterMap_cons,hj]at hl
   have:=List.length_filterMap_le (nm[·]?) l
   rw[List.length_cons]at hl
   exact(Nat.not_succ_le_self _ (hl▸this)).elim
  |some z =>
   rw[List.filterMap_cons,hj]at hl h
   induction i using Nat.casesAuxOn with
   |zero=>cases h;exact⟨j,rfl,hj⟩
   |succ i =>
    obtain⟨j',a,b⟩:=ih (by simpa using hl) i y (by simpa using h)
    exact⟨j',by simpa using a,b⟩
theorem s_lam {k:Nat}{p:Pos}(G:Go c (n+1) A f fs s μ ρ σ nm sc fr)(ht:trX c nm sc m (.lam k p)=some e)(hr:exX c.T (n+1) (.lam k p) fr σ=some r):wpAny (model c.prog c.w) A (eval e f.env) (PX c (f::fs) s μ ρ r) (EX c (f::fs) s μ ρ r) s:=by
 induction m using Nat.casesAuxOn with
 |zero=>exact Mine.n0 ht
 |succ m =>
  obtain⟨I,hI,hz_⟩:=bI ht;clear ht;rename _=>ht
  split at ht
  ·rename_i hc
   obtain rfl:=oi ht
   simp only[Bool.and_eq_true,beq_iff_eq,decide_eq_true_eq,List.all_eq_true,Bool.or_eq_true]at hc
   obtain⟨⟨⟨⟨rfl,ho⟩,hfree⟩,hlen⟩,hkinds⟩:=hc
   obtain⟨v,hv,rfl⟩:=lif_some hr
   simp only[Option.map_eq_some_iff]at hv
   obtain⟨vs,hvs,rfl⟩:=hv
   obtain⟨cl1,cl2⟩:=caps_get hvs
   obtain⟨hdef,hq,hcode,hndn⟩:=G.bs.lam k I hI
   obtain⟨hco,hqual⟩:=G.hcd k I hI ho
   obtain⟨hg,hbl⟩:=G.ok.g f List.mem_cons_self
   have hns:=G.bs.T.g.keeps G.Fr.keep
   have hfree':freeOf I.scope.names=(c.T.lamc k).filterMap (nm[·]?):=hfree
   have hcap:∀(i:Nat) (y:Str) (v:V),(freeOf I.scope.names)[i]?=some y→vs[i]?=some v→∃ca o x,f.env.cells.lookup y=some ca∧s.heap.get? ca=some o∧o.data=.cell (some x)∧¬μ ca∧VRep c s.heap μ ρ v x:=by
    intro i y v h1 h2
    rw[hfree']at h1
    obtain⟨j,a,b⟩:=fm_get hlen i y h1
    have hk:=hkinds y (List.mem_of_getElem? h1)
    rcases G.fr j y v b (cl2 i j v a h2)with⟨kk,_⟩| ⟨kk,r⟩
    ·exfalso
     have kk':sc.names.lookup y=some .local:=by rw[←G.hsc];exact kk
     rw[kk']at hk
     simp at hk
    ·exact r
   have hlenv:vs.length=(freeOf I.scope.names).length:=by rw[cl1,hfree',hlen]
   have hcells:∀y∈freeOf I.scope.names,f.env.cells.lookup y=some ((f.env.cells.lookup y).getD 0):=by
    intro y hy
    obtain⟨i,hi,rfl⟩:=List.getElem_of_mem hy
    obtain⟨ca,o,x,h1,_⟩:=hcap i _ (vs[i]'(by rw[hlenv];exact hi)) (List.getElem?_eq_getElem hi) (List.getElem?_eq_getElem _)
    rw[h1];rfl
   have hclos:=clos_eq (scope:=I.scope) (env:=f.env) (g:=fun y=>(f.env.cells.lookup y).getD 0) hcells
   have crep:∀{h':Heap},(∀a o,s.heap.get? a=some o→¬μ a→h'.get? a=some o)→CRep c h' μ ρ I.scope.names (((freeOf I.scope.names).map fun n=>(n,(f.env.cells.lookup n).getD 0)).reverse) vs:=by
    intro h' hkeep
    refine crep_of (g:=fun y=>(f.env.cells.lookup y).getD 0) _ _ (fun y hy=>?_) (fun i y v h1 h2=>?_) hlenv
    ·rw[←List.map_reverse]
     exact lookup_fun (List.mem_reverse.mpr hy)
    ·obtain⟨ca,o,x,a1,a2,a3,a4,a5⟩:=hcap i y v h1 h2
     simp only[a1,Option.getD_some]
     exact⟨o,x,hkeep _ _ a2 a4,a3,a4,a5.mono (fun a o e nn=>⟨hkeep a o e nn,nn⟩) (List.prefix_refl _)⟩
   obtain⟨hmP,ps,hP,hrow⟩:=G.inv.tabs I.tab hq
   have C:CodeHd s.heap I.tab.1 I.tab.2:=hcode.keeps G.Fr.keep
   obtain⟨bm,ob,b1,b2,b3,b4,b5,b6⟩:=G.bs.T.bmain
   have notB:∀{a o},c.B.get? a=some o→a≠I.tab.2:=fun{a o} e q=>(G.inv.base a o e).2 (q▸hmP)
   have hgP:mainGlobals≠I.tab.2:=by
    obtain⟨o,_,_,e,_⟩:=G.bs.T.g
    exact notB e
   have hbG:bm≠mainGlobals:=fun q=>by
    obtain⟨o,es,ep,e,hd,_⟩:=G.bs.T.g
    rw[q,e]at b3;cases b3;rw[hd]at b6;cases b6
   have hb:s.heap.BuiltinsAt c.mg I.tab.2:=⟨bm,ob,b1,b2,hbG,notB b3,(G.inv.base _ _ b3).1,b4,b5,b6⟩
   refine kla_eval (hdef _) ?_
   rw[hqual]
   rcases hrow with rfl | ⟨k',I',c',oc,ov,tq,g1,g0,g2,g3,g4,g5,g6⟩
   ·refine kla_makeFunction (mg:=c.mg) hclos hg hns hco C hP trivial rfl hgP hb fun c' ctv h' tk hx hge hlt hrec htb=>?_
    obtain⟨c₂,oc,ov,tq,e2,hoc,hd,hvv⟩:=hrec
    first | exact n0 e2 | exact n1 e2 | cases e2
    have hszz:s.heap.objs.size≤h'.objs.size:=Nat.le_of_lt (Nat.lt_of_le_of_lt hge hlt)
    have hkeep:∀a o,a≠I.tab.2→s.heap.get? a=some o→(h'.push (kla_obj "<lambda>" I.qual I.params I.body I.scope ((freeOf I.scope.names).map fun n=>(n,(f.env.cells.lookup n).getD 0)).reverse ((c.mg "__name__").getD .none) c' ctv)).get? a=some o:=fun a o ne e=>Heap.get?_push_of_some _ (hx a o ne e)
    have hnc:¬μ c':=fun hm=>Nat.lt_irrefl _ (Nat.lt_of_lt_of_le (G.inv.mlt _ hm) hge)
    have hnf:¬μ h'.objs.size:=fun hm=>Nat.lt_irrefl _ (Nat.lt_of_lt_of_le (G.inv.mlt _ hm) hszz)
    refine⟨_,_,μ,ρ,rfl,⟨G.inv.atTab hq hkeep (Nat.le_trans hszz (by rw[Heap.size_push];exact Nat.le_succ _)) ⟨_,Heap.get?_push_of_some _ htb,.inr ⟨k,I,c',oc,ov,tq,hI,rfl,rfl,Heap.get?_push_of_some _ hoc,hd,hvv,hnc⟩⟩,grow_but hkeep hmP,List.prefix_refl _,rfl,rfl⟩,?_⟩
    exact .clo hI (Heap.get?_push_size _ rfl) hnf (Heap.get?_push_of_some _ hoc) hd hvv hnc (crep fun a o e nn=>hkeep a o (fun q=>nn (q▸hmP)) e)
   ·obtain rfl:=G.bs.lamu _ _ _ _ g1 hI g0
    rw[hI]at g1
    obtain rfl:=oi g1
    subst g2
    refine kla_makeFunctionHit (mg:=c.mg) (cv:=.ref c') hclos hg hns hco C hP (by simp[TriplesOk,rawInt]) (by simp[codeAmong,rawInt]) hb fun ctv h' tk hk hszz=>?_
    have hnf:¬μ h'.objs.size:=fun hm=>Nat.lt_irrefl _ (Nat.lt_of_lt_of_le (G.inv.mlt _ hm) hszz)
    have hkeep:∀a o,s.heap.get? a=some o→(h'.push (kla_obj "<lambda>" I.qual I.params I.body I.scope ((freeOf I.scope.names).map fun n=>(n,(f.env.cells.lookup n).getD 0)).reverse ((c.mg "__name__").getD .none) c' ctv)).get? a=some o:=fun a o e=>Heap.get?_push_of_some _ (hk a o e)
    refine⟨_,_,μ,ρ,rfl,.keep G.inv hkeep (Nat.le_trans hszz (by rw[Heap.size_push];exact Nat.le_succ _)),?_⟩
    exact .clo hI (Heap.get?_push_size _ rfl) hnf (hkeep _ _ g3) g4 g5 g6 (crep fun a o e _=>hkeep a o e)
  ·exact n0 ht
end

section
variable {c:Cx}{fs:List FrI}{μ:Addr→Prop}{ρ:List (Addr × Addr)}{σ:List Cell}{h h':Heap}
theorem Inv.frFun (I:Inv c fs μ ρ σ h):h.FunFrames c.B (fs.map (·.env)):=by
 have hf:=I.frames
 have hb:=I.base
 clear I
 induction fs with
 |nil=>trivial
 |cons f fs ih =>
  obtain⟨a,b,d,⟨o,es,ep,ho,hd,_⟩,m,l⟩:=hf f List.mem_cons_self
  refine⟨by rw[d];decide,⟨f.L,o,a,?_,ho,fun vs q=>by rw[hd]at q;cases q⟩,ih fun g hg=>hf g (List.mem_cons_of_mem _ hg)⟩
  cases q:c.B.get? f.L with
  |none=>rfl
  |some o'=>exact absurd m (hb _ _ q).2
theorem Inv.notFr (I:Inv c fs μ ρ σ h){T:Addr}(x:IsTb h μ T):T ∉ fs.map (·.L):=fun q=>by
 obtain⟨oT,ts,e,hc,hd,_,_⟩:=x
 obtain⟨f,hf,rfl⟩:=List.mem_map.mp q
 obtain⟨_,_,_,⟨o,es,ep,ho,hd',_⟩,_⟩:=I.frames f hf
 rw[e]at ho;cases ho;rw[hd]at hd';cases hd'
theorem Inv.slots (I:Inv c fs μ ρ σ h)(hs:Heap.SlotsOnly ((fs.map (·.env)).filterMap (·.frame)) h h'):Inv c fs μ ρ σ h'∧Grow h μ h' μ∧(∀a o,a ∉ fs.map (·.L)→h.get? a=some o→h'.get? a=some o):=by
 have hS:∀b,b∈(fs.map (·.env)).filterMap (·.frame)→b∈fs.map (·.L):=fun b hb=>by
  obtain⟨env,he,hb⟩:=List.mem_filterMap.mp hb
  obtain⟨f,hf,rfl⟩:=List.mem_map.mp he
  rw[(I.frames f hf).fr]at hb
  obtain rfl:=oi hb
  exact List.mem_map_of_mem hf
 have k:∀a o,a ∉ fs.map (·.L)→h.get? a=some o→h'.get? a=some o:=fun a o hn e=>(hs.2.1 a fun hb=>hn (hS a hb)).trans e
 have hm:∀a,a∈fs.map (·.L)→μ a:=fun a ha=>by
  obtain⟨f,hf,rfl⟩:=List.mem_map.mp ha
  exact(I.frames f hf).m
 have g:Grow h μ h' μ:=fun a o e n=>⟨k a o (fun ha=>n (hm a ha)) e,n⟩
 obtain⟨n1,n2,n3,n4,n5,n6⟩:=I.nd
 refine⟨⟨fun a o e=>let ⟨e',n⟩:=I.base a o e;⟨(g a o e' n).1,n⟩,by rw[hs.1];exact I.low,fun a m=>by rw[hs.1];exact I.mlt a m,fun f hf=>?_,I.cells.step g (List.prefix_refl _) (fun p hp o e=>k _ _ (fun ha=>?_) e) (fun _ _ m=>m) (fun T x=>have nf:=I.notFr x;let ⟨oT,ts,a,b,d,e,m⟩:=x;⟨oT,ts,k _ _ nf a,b,d,e,m⟩),I.nodup,fun q hq=>⟨(I.tabs q hq).1,(I.tabs q hq).2.step g fun o e=>k _ _ (fun ha=>?_) e⟩⟩,g,k⟩
 ·obtain⟨a,b,d,⟨o,es,ep,ho,hd,r⟩,m,l⟩:=I.frames f hf
  obtain⟨sl,ho'⟩:=hs.2.2 _ _ ho
  exact⟨a,b,d,⟨_,es,ep,ho',hd,r⟩,m,l⟩
 ·obtain⟨f,hf,e'⟩:=List.mem_map.mp ha
  exact n4 f hf p hp e'
 ·obtain⟨f,hf,e'⟩:=List.mem_map.mp ha
  exact n5 f hf q hq e'
theorem Inv.loose (I:Inv c fs μ ρ σ h){T:Addr}(k:∀a o,a≠T→h.get? a=some o→h'.get? a=some o)(hm:μ T)(hn:T ∉ fs.map (·.L)++(ρ.map (·.2)++c.tabs.map (·.2)))(sz:h.objs.size≤h'.objs.size)(ht:IsTb h' μ T):Inv c fs μ ρ σ h':=by
 simp only[List.mem_append,not_or]at hn
 refine I.upd k hm sz (fun f hf=>?_) (I.cells.step (grow_but k hm) (List.prefix_refl _) (fun p hp o e=>k _ _ (fun q=>hn.2.1 (q▸List.mem_map_of_mem hp)) e) (fun _ _ m=>m) fun T' x=>by
  by_cases q:T'=T
  ·exact q▸ht
  ·obtain⟨oT,ts,a,b,d,e,m⟩:=x
   exact⟨oT,ts,k _ _ q a,b,d,e,m⟩) I.nodup fun q hq=>⟨(I.tabs q hq).1,(I.tabs q hq).2.step (grow_but k hm) fun o e=>k _ _ (fun z=>hn.2.2 (z▸List.mem_map_of_mem hq)) e⟩
 obtain⟨a,b,d,e,m,l⟩:=I.frames f hf
 exact⟨a,b,d,Ns.but k e (fun q=>hn.1 (q▸List.mem_map_of_mem hf)),m,l⟩
theorem CellsAt.cls {ρ₀:List (Addr × Addr)}:∀{ρ:List (Addr × Addr)} {σ:List Cell},CellsAt c h μ ρ₀ ρ σ→∀p∈ρ,∀o,h.get? p.2=some o→o.cls≠.type "traceback" := fun H=>H.ind (P:=fun ρ _=>∀p∈ρ,∀o,h.get? p.2=some o→o.cls≠.type "traceback") (fun _ z=>(List.not_mem_nil z).elim) fun a b ih p hp=>by
  rcases List.mem_cons.mp hp with rfl | hp
  ·intro o e
   cases a with
   |inst _ _ _ _ e2 _ _=>rw[e2]at e;cases e;intro z;injection z with z;exact absurd z (by decide)
   |list e2 _ _=>rw[e2]at e;cases e;intro z;injection z with z;exact absurd z (by decide)
   |exc _ _ e2 o1=>rw[e2]at e;cases e;rw[o1];intro z;cases z
   |new _ _ e2 o1=>rw[e2]at e;cases e;rw[o1];intro z;cases z
   |exd _ _ e2 o1=>rw[e2]at e;cases e;rw[o1];intro z;cases z
  ·exact ih p hp
theorem Inv.entry (I:Inv c fs μ ρ σ h){T:Addr}{oT:Obj}{ts:Array Value}(e:h.get? T=some oT)(hc:oT.cls=.type "traceback")(hd:oT.data=.fields ts):T ∉ fs.map (·.L)++(ρ.map (·.2)++c.tabs.map (·.2)):=by
 simp only[List.mem_append,not_or]
 refine⟨fun q=>?_,fun q=>?_,fun q=>?_⟩
 ·obtain⟨f,hf,rfl⟩:=List.mem_map.mp q
  obtain⟨_,_,_,⟨o,es,ep,ho,hd',_⟩,_⟩:=I.frames f hf
  rw[e]at ho;cases ho;rw[hd]at hd';cases hd'
 ·obtain⟨p,hp,rfl⟩:=List.mem_map.mp q
  exact I.cells.cls p hp _ e hc
 ·obtain⟨p,hp,rfl⟩:=List.mem_map.mp q
  obtain⟨_,ps,e',_⟩:=I.tabs p hp
  rw[e]at e';cases e';cases hc
theorem CellsAt.excSet {ρ₀:List (Addr × Addr)}{a:Addr}{o:Obj}{vs vs':Array Value}(g:Grow h μ h' μ)(k:∀b o,b≠a→h.get? b=some o→h'.get? b=some o)(ho:h.get? a=some o)(hd:o.data=.fields vs)(ha:h'.get? a=some { o with data:=.fields vs' })(hc:o.cls≠.type "traceback")
  (tb:TbI h' μ vs') (cx:vs[2]?=some .none→vs'[2]?=some .none):
  ∀{ρ:List (Addr × Addr)} {σ:List Cell},CellsAt c h μ ρ₀ ρ σ→(∀(j:Nat) (p:Addr × Addr) C fs,ρ[j]?=some p→p.2=a→σ[j]?≠some (.new C fs))→CellsAt c h' μ ρ₀ ρ σ
 |_,_,.nil,_=>.nil
 |_,_,.cons (p:=p) x y,hnn=>by
  refine .cons ?_ (CellsAt.excSet g k ho hd ha hc tb cx y (fun j p C fs e1 e2 e3=>hnn (j+1) p C fs (by simpa using e1) e2 (by simpa using e3)))
  by_cases hp:p.2=a
  ·cases x with
   |inst _ _ _ _ e2 _ _ =>
    subst hp
    obtain rfl:=oi (ho.symm.trans e2)
    cases hd
   |list e2 _ _ =>
    subst hp
    obtain rfl:=oi (ho.symm.trans e2)
    cases hd
   |exc z1 z2 e2 o1 o2 o3 m e3 n3 fr t b =>
    subst hp
    obtain rfl:=oi (ho.symm.trans e2)
    obtain rfl:=Data.fields.inj (hd.symm.trans o3)
    exact .exc z1 z2 ha o1 o2 rfl m (g _ _ e3 n3).1 n3 (FRep.mono g (List.prefix_refl _) fr) tb (cx b)
   |exd z1 z2 e2 o1 o2 o3 m e3 n3 fr t =>
    subst hp
    obtain rfl:=oi (ho.symm.trans e2)
    exact .exd z1 z2 ha o1 o2 rfl m (g _ _ e3 n3).1 n3 (FRep.mono g (List.prefix_refl _) fr) tb
   |new z1 z2 e2 o1 o2 o3 m e3 n3 fr tb=>exact absurd rfl (hnn 0 _ _ _ rfl hp)
  ·exact x.step g (List.prefix_refl _) (fun o e=>k _ _ hp e) (fun m=>m) (IsTb.but k fun o' e=>oi (ho.symm.trans e)▸hc)
theorem Inv.exc (I:Inv c fs μ ρ σ h){i:Nat}{a:Addr}(hi:ρ[i]?=some (a,a))(hnn:∀C fs,σ[i]?≠some (.new C fs)){o:Obj}{vs vs':Array Value}(ho:h.get? a=some o)(hd:o.data=.fields vs)(k:∀b o,b≠a→h.get? b=some o→h'.get? b=some o)(ha:h'.get? a=some { o with data:=.fields vs' })(sz:h.objs.size≤h'.objs.size)(tb:TbI h' μ vs')(cx:vs[2]?=some .none→vs'[2]?=some .none):Inv c fs μ ρ σ h':=by
 have hp:(a,a)∈ρ:=List.mem_of_getElem? hi
 have hm:μ a:=I.cells.mem _ hp
 obtain⟨n1,n2,n3,n4,n5,n6⟩:=I.nd
 refine I.upd k hm sz (fun f hf=>?_) (CellsAt.excSet (grow_but k hm) k ho hd ha (I.cells.cls _ hp _ ho) tb cx I.cells (fun j p C fs e1 e2 e3=>hnn C fs (by
  have e4:(ρ.map (·.2))[j]?=some a:=by rw[List.getElem?_map,e1];simp[e2]
  have e5:(ρ.map (·.2))[i]?=some a:=by rw[List.getElem?_map,hi];rfl
  have:j=i:=(List.getElem?_inj (List.getElem?_eq_some_iff.mp e4).1 n2).mp (e4.trans e5.symm)
  rw[←this];exact e3))) I.nodup fun q hq=>⟨(I.tabs q hq).1,(I.tabs q hq).2.step (grow_but k hm) fun o e=>k _ _ (fun z=>n6 _ hp q hq z.symm) e⟩
 ·obtain⟨b1,b2,b3,e,m,l⟩:=I.frames f hf
  exact⟨b1,b2,b3,Ns.but k e (n4 f hf _ hp),m,l⟩
end

inductive Noted (σ:List Cell)(i:Nat)(h:Heap)(μ:Addr→Prop)(a:Addr):Prop
 |mk (nn:∀C fs,σ[i]?≠some (.new C fs))(oe:Obj)(vs:Array Value)(T:Addr)(oT:Obj)(ts:Array Value)(a1:h.get? a=some oe)(a2:oe.data=.fields vs)(a3:vs[1]?=some (.ref T))(a4:T≠a)(a5:h.get? T=some oT)(a6:oT.cls=.type "traceback")(a7:oT.data=.fields ts)(a8:3<ts.size)(a9:μ T)
theorem Noted.fly {σ:List Cell}{i:Nat}{h:Heap}{μ:Addr→Prop}{a:Addr}(x:Noted σ i h μ a):Fly σ i h μ a:=by
 obtain⟨nn,oe,vs,T,oT,ts,a1,a2,a3,a4,a5,a6,a7,a8,a9⟩:=x
 exact⟨nn,oe,vs,a1,a2,.inr ⟨T,oT,ts,a3,a4,a5,a6,a7,a8,a9⟩⟩
section
variable {c:Cx}{fs:List FrI}{μ:Addr→Prop}{ρ:List (Addr × Addr)}{σ:List Cell}{h h':Heap}
theorem Inv.plus (I:Inv c fs μ ρ σ h)(k:∀a o,h.get? a=some o→h'.get? a=some o)(sz:h.objs.size≤h'.objs.size){d:Addr}(hd:h.objs.size≤d)(hd':d<h'.objs.size):Inv c fs (Mine.plus μ d) ρ σ h' where
 base a o e:=⟨k _ _ (I.base a o e).1,fun z=>z.elim (I.base a o e).2 fun z=>Nat.lt_irrefl _ (Nat.lt_of_lt_of_le (z▸Heap.lt_size (I.base a o e).1) hd)⟩
 low:=Nat.le_trans I.low sz
 mlt a m:=m.elim (fun m=>Nat.lt_of_lt_of_le (I.mlt a m) sz) fun m=>m▸hd'
 frames f hf:=let ⟨a,b,e,n,m,l⟩:=I.frames f hf;⟨a,b,e,n.keeps k,.inl m,l⟩
 cells:=I.cells.step (grow_plus k hd) (List.prefix_refl _) (fun p _ o e=>k _ o e) (fun _ _ m=>.inl m) (IsTb.keep k fun _ m=>.inl m)
 nodup:=I.nodup
 tabs q hq:=⟨.inl (I.tabs q hq).1,(I.tabs q hq).2.step (grow_plus k hd) fun o e=>k _ o e⟩
end
section
variable {c:Cx}{A:Around}{f:FrI}{fs:List FrI}{s:Shared}{μ:Addr→Prop}{ρ:List (Addr × Addr)}{σ:List Cell}{M:Model}
theorem newEntry_ok (I:Inv c (f::fs) μ ρ σ s.heap)(hfr:A.frames=some ((f::fs).map (·.env))){i:Nat}{a:Addr}(hi:ρ[i]?=some (a,a)){oe:Obj}{vs:Array Value}(he:s.heap.get? a=some oe)(hd:oe.data=.fields vs)(h1:1<vs.size)(hnn:∀C fs,σ[i]?≠some (.new C fs))
  {head:Value} {hadNext:Bool} {Q:Unit→Shared→Prop} {E:Value→Shared→Prop} (hQ:∀s' μ',St c (f::fs) s μ ρ σ s' μ' ρ→Noted σ i s'.heap μ' a→Q () s'):
  wpAny M A (do let x ←frameOf f.env;let pl ←entryPlaceOf f.L hadNext;let b ←EntryCells.newEntry head x .none (rawInt f.L) .none pl;setField (.ref a) 1 b) Q E s:=by
 have hp:(a,a)∈ρ:=List.mem_of_getElem? hi
 have hm:μ a:=I.cells.mem _ hp
 obtain⟨n1,n2,n3,n4,n5,n6⟩:=I.nd
 have hna:a ∉ (f::fs).map (·.L):=fun q=>by
  obtain⟨g,hg,e⟩:=List.mem_map.mp q
  exact n4 g hg _ hp e
 refine wpAny_bind (wpAny_frameOf_fun hfr I.frFun (I.frames f List.mem_cons_self).fr fun h₁ hs₁=>?_)
 obtain⟨I1,g1,k1⟩:=I.slots hs₁
 have he1:=k1 _ _ hna he
 refine wpAny_bind (wpAny_entryPlaceOf fun pl hpl=>?_)
 unfold EntryCells.newEntry newFields
 refine wpAny_bind (wpAny_newObj_type ?_ (hpl.sizeOk5 _ _ _ _ _))
 have hk2:∀b o,h₁.get? b=some o→(h₁.push { cls:=.type "traceback",dict:=none,data:=.fields ([head,.ref f.L,.none,rawInt f.L,.none]++(if pl.isEmpty then List.replicate 6 Value.none else pl)).toArray }).get? b=some o:=fun b o e=>Heap.get?_push_of_some _ e
 have he2:=hk2 _ _ he1
 have I2:=I1.plus hk2 (by rw[Heap.size_push];exact Nat.le_succ _) (Nat.le_refl _) (by rw[Heap.size_push];exact Nat.lt_succ_self _)
 have hne:h₁.objs.size≠a:=Nat.ne_of_gt (Heap.lt_size he1)
 refine wpAny_setField he2 hd h1 (hQ _ (Mine.plus μ h₁.objs.size) ?_ ?_)
 ·have hself:=Heap.get?_update_self (Obj.mapFields (·.setIfInBounds 1 (Value.ref h₁.objs.size))) he2 (Obj.isFreed_of_fields (Obj.data_mapFields hd _))
  have hoth:∀b o,b≠a→(h₁.push { cls:=.type "traceback",dict:=none,data:=.fields ([head,.ref f.L,.none,rawInt f.L,.none]++(if pl.isEmpty then List.replicate 6 Value.none else pl)).toArray }).get? b=some o→((h₁.push { cls:=.type "traceback",dict:=none,data:=.fields ([head,.ref f.L,.none,rawInt f.L,.none]++(if pl.isEmpty then List.replicate 6 Value.none else pl)).toArray }).update a (Obj.mapFields (·.setIfInBounds 1 (Value.ref h₁.objs.size)))).get? b=some o :=
   fun b o hb e=>(Heap.get?_update_other _ _ (Ne.symm hb)).trans e
  have hmf:oe.mapFields (·.setIfInBounds 1 (Value.ref h₁.objs.size))={ oe with data:=.fields (vs.setIfInBounds 1 (Value.ref h₁.objs.size)) }:=by
   obtain⟨cc,dd,dt,sl⟩:=oe
   first | exact n0 hd | exact n1 hd | cases hd
   rfl
  rw[hmf]at hself
  have I3:=I2.exc hi hnn he2 hd hoth hself (by rw[Heap.size_update];exact Nat.le_refl _) (.tb h₁.objs.size (by simp[h1]) ⟨_,_,(Heap.get?_update_other _ _ (Ne.symm hne)).trans (Heap.get?_push_size h₁ rfl),rfl,rfl,by simp only[List.size_toArray,List.length_append,List.length_cons,List.length_nil];omega,.inr rfl⟩)
   fun e=>by rw[Array.getElem?_setIfInBounds_ne (by decide)];exact e
  refine⟨I3,(g1.trans (grow_plus hk2 (Nat.le_refl _))).trans (grow_but hoth (.inl hm)),List.prefix_refl _,rfl,rfl⟩
 ·have hself:=Heap.get?_update_self (Obj.mapFields (·.setIfInBounds 1 (Value.ref h₁.objs.size))) he2 (Obj.isFreed_of_fields (Obj.data_mapFields hd _))
  refine⟨hnn,_,_,h₁.objs.size,_,_,hself,Obj.data_mapFields hd _,by simp[h1],hne,(Heap.get?_update_other _ _ (Ne.symm hne)).trans (Heap.get?_push_size h₁ rfl),rfl,rfl,?_,.inr rfl⟩
  simp only[List.size_toArray,List.length_append,List.length_cons,List.length_nil]
  omega
theorem tb_set {h:Heap}{μ:Addr→Prop}{T:Addr}{oT:Obj}{ts:Array Value}{v:Value}(hT:h.get? T=some oT)(hTc:oT.cls=.type "traceback")(hTd:oT.data=.fields ts)(hsz:3<ts.size)(hmT:μ T):IsTb (h.update T (Obj.mapFields (·.setIfInBounds 3 v))) μ T :=
 ⟨_,_,Heap.get?_update_self (Obj.mapFields (·.setIfInBounds 3 v)) hT (Obj.isFreed_of_fields (Obj.data_mapFields hTd _)),(Obj.cls_mapFields _ _).trans hTc,Obj.data_mapFields hTd _,by simpa using hsz,hmT⟩
theorem note_ok (I:Inv c (f::fs) μ ρ σ s.heap)(hfr:A.frames=some ((f::fs).map (·.env))){i:Nat}{a:Addr}(hi:ρ[i]?=some (a,a))(hf:Fly σ i s.heap μ a)
  {Q:Unit→Shared→Prop} {E:Value→Shared→Prop} (hQ:∀s' μ',St c (f::fs) s μ ρ σ s' μ' ρ→Noted σ i s'.heap μ' a→Q () s'):wpAny M A (noteFrame (.ref a) f.env) Q E s:=by
 obtain⟨hnn,oe,vs,he,hd,hf⟩:=hf
 unfold noteFrame
 simp only[(I.frames f List.mem_cons_self).fr]
 rcases hf with h1 | ⟨T,oT,ts,h1,hTa,hT,hTc,hTd,hsz,hmT⟩
 ·refine wpAny_bind (wpAny_field he hd h1 ?_)
  rw[if_neg (by decide)]
  exact newEntry_ok I hfr hi he hd (Array.getElem?_eq_some_iff.mp h1).1 hnn hQ
 ·refine wpAny_bind (wpAny_field he hd h1 ?_)
  rw[if_pos (show(Value.ref T != Value.none)=true from by simp)]
  refine wpAny_bind (wpAny_field hT hTd (x:=ts[3]) (Array.getElem?_eq_getElem hsz) ?_)
  by_cases hq:(ts[3]==rawInt f.L)=true
  ·rw[if_pos hq]
   exact wpAny_pure (hQ s μ (.refl I) ⟨hnn,oe,vs,T,oT,ts,he,hd,h1,hTa,hT,hTc,hTd,hsz,hmT⟩)
  ·rw[if_neg hq]
   refine wpAny_bind (wpAny_setField hT hTd hsz ?_)
   have hoth:∀b o,b≠T→s.heap.get? b=some o→(s.heap.update T (Obj.mapFields (·.setIfInBounds 3 Value.none))).get? b=some o:=fun b o hb e=>(Heap.get?_update_other _ _ (Ne.symm hb)).trans e
   have I1:=I.loose hoth hmT (I.entry hT hTc hTd) (by rw[Heap.size_update];exact Nat.le_refl _) (tb_set hT hTc hTd hsz hmT)
   have st1:St c (f::fs) s μ ρ σ { s with heap:=s.heap.update T (Obj.mapFields (·.setIfInBounds 3 Value.none)) } μ ρ:=⟨I1,grow_but hoth hmT,List.prefix_refl _,rfl,rfl⟩
   exact newEntry_ok I1 hfr hi (hoth _ _ (Ne.symm hTa) he) hd (Array.getElem?_eq_some_iff.mp h1).1 hnn fun s' μ' st nt=>hQ s' μ' (st1.trans st) nt
theorem flight_ok (I:Inv c (f::fs) μ ρ σ s.heap){i:Nat}{a:Addr}(hi:ρ[i]?=some (a,a))(hf:Noted σ i s.heap μ a){fr:Option Addr}
  {Q:Unit→Shared→Prop} {E:Value→Shared→Prop} (hQ:∀s',St c (f::fs) s μ ρ σ s' μ ρ→Noted σ i s'.heap μ a→Q () s'):wpAny M A (setFlight (.ref a) fr) Q E s:=by
 obtain⟨hnn,oe,vs,T,oT,ts,he,hd,h1,hTa,hT,hTc,hTd,hsz,hmT⟩:=hf
 unfold setFlight
 refine wpAny_bind (wpAny_field he hd h1 ?_)
 rw[if_pos (show(Value.ref T != Value.none)=true from by simp)]
 refine wpAny_setField hT hTd hsz (hQ _ ?_ ?_)
 ·have hoth:∀b o,b≠T→s.heap.get? b=some o→(s.heap.update T (Obj.mapFields (·.setIfInBounds 3 (fr.elim Value.none fun f=>rawInt f)))).get? b=some o:=fun b o hb e=>(Heap.get?_update_other _ _ (Ne.symm hb)).trans e
  exact⟨I.loose hoth hmT (I.entry hT hTc hTd) (by rw[Heap.size_update];exact Nat.le_refl _) (tb_set hT hTc hTd hsz hmT),grow_but hoth hmT,List.prefix_refl _,rfl,rfl⟩
 ·have hself:=Heap.get?_update_self (Obj.mapFields (·.setIfInBounds 3 (fr.elim Value.none fun f=>rawInt f))) hT (Obj.isFreed_of_fields (Obj.data_mapFields hTd _))
  exact⟨hnn,oe,vs,T,_,_,(Heap.get?_update_other _ _ hTa).trans he,hd,h1,hTa,hself,(Obj.cls_mapFields _ _).trans hTc,Obj.data_mapFields hTd _,by simpa using hsz,hmT⟩
theorem leave_ok (I:Inv c (f::fs) μ ρ σ s.heap)(hfr:A.frames=some ((f::fs).map (·.env))){i:Nat}{a:Addr}(hi:ρ[i]?=some (a,a))(hf:Fly σ i s.heap μ a)
  {Q:Unit→Shared→Prop} {E:Value→Shared→Prop} (hQ:∀s' μ',St c (f::fs) s μ ρ σ s' μ' ρ→Noted σ i s'.heap μ' a→Q () s'):wpAny M A (leaving f.env (.ref a)) Q E s:=by
 unfold leaving
 exact wpAny_bind (note_ok I hfr hi hf fun s' μ' st nt=>flight_ok st.inv hi nt fun s'' st' nt'=>hQ _ _ (st.trans st') nt')
theorem back_ok (I:Inv c (f::fs) μ ρ σ s.heap){i:Nat}{a:Addr}(hi:ρ[i]?=some (a,a))(hf:Noted σ i s.heap μ a){E:Value→Shared→Prop}(hQ:∀s',St c (f::fs) s μ ρ σ s' μ ρ→Noted σ i s'.heap μ a→E (.ref a) s'):cameBackBy M A f.env E (.ref a) s:=by
 obtain⟨hnn,oe,vs,T,oT,ts,he,hd,h1,r⟩:=id hf
 unfold cameBackBy
 refine wpAny_bind (wpAny_field he hd h1 ?_)
 rw[if_neg (by simp)]
 exact flight_ok I hi hf hQ
end

noncomputable def FrI.upd (f:FrI)(m:Str→Option Value):FrI:=⟨f.env,f.L,m⟩
inductive PSn (c:Cx)(f:FrI)(μ':Addr→Prop)(ρ':List (Addr × Addr))(nm:List Str)(o:RS)(fl:Flow)(s':Shared)(σ':List Cell):Prop
 |mk (fr':List (Option V))(h1:o=.nx fr' σ')(h2:fl=.next)(h3:FrRep c s'.heap μ' ρ' f nm fr')
inductive PSr (c:Cx)(μ':Addr→Prop)(ρ':List (Addr × Addr))(o:RS)(fl:Flow)(s':Shared)(σ':List Cell):Prop
 |mk (v:V)(x:Value)(h1:o=.rt v σ')(h2:fl=.ret x)(h3:VRep c s'.heap μ' ρ' v x)
inductive PS (c:Cx)(f:FrI)(fs:List FrI)(s:Shared)(μ:Addr→Prop)(ρ:List (Addr × Addr))(nm:List Str)(o:RS)(fl:Flow)(s':Shared):Prop
 |mk (m':Str→Option Value)(σ':List Cell)(μ':Addr→Prop)(ρ':List (Addr × Addr))(st:St c (f.upd m'::fs) s μ ρ σ' s' μ' ρ')(h:PSn c (f.upd m') μ' ρ' nm o fl s' σ'∨PSr c μ' ρ' o fl s' σ')
inductive ES (c:Cx)(f:FrI)(fs:List FrI)(s:Shared)(μ:Addr→Prop)(ρ:List (Addr × Addr))(nm:List Str)(o:RS)(e:Value)(s':Shared):Prop
 |mk (m':Str→Option Value)(σ':List Cell)(μ':Addr→Prop)(ρ':List (Addr × Addr))(i:Nat)(fr':List (Option V))(a:Addr)(st:St c (f.upd m'::fs) s μ ρ σ' s' μ' ρ')(h1:o=.ex i fr' σ')(h2:e=.ref a)(h3:ρ'[i]?=some (a,a))(h4:Fly σ' i s'.heap μ' a)(h5:FrRep c s'.heap μ' ρ' (f.upd m') nm fr')
noncomputable def SS (c:Cx)(n:Nat):Prop:=∀{m nm sc t st},trS c nm sc m t=some st→∀{fr σ o},exS c.T n t fr σ=some o→∀{A f fs s μ ρ},Go c n A f fs s μ ρ σ nm sc fr →
 wpAny (model c.prog c.w) A (exec st f.env) (PS c f fs s μ ρ nm o) (ES c f fs s μ ρ nm o) s
noncomputable def SSs (c:Cx)(n:Nat):Prop:=∀{m nm sc t st},trSs c nm sc m t=some st→∀{fr σ o},exSs c.T n t fr σ=some o→∀{A f fs s μ ρ},Go c n A f fs s μ ρ σ nm sc fr →
 wpAny (model c.prog c.w) A (execs st f.env) (PS c f fs s μ ρ nm o) (ES c f fs s μ ρ nm o) s

structure FnR where
 name:Str
 qual:Str
 params:Arguments
 body:List Stmt
 scope:Scope
 dV:Value
 kV:Value
 doc:Value
 pm:Value
 an:Option Addr
 cdv:Value
 ct:Value
 oc:Value
 od:Option Addr
 osl:Array (Option Value)
 ds:List Value
noncomputable abbrev FnR.fd (R:FnR):FuncData:=fnOf R.name R.qual R.params R.body R.scope R.dV R.kV R.doc R.pm R.an R.cdv R.ct
structure FnOK (c:Cx)(a:Addr)(d:FnD)(R:FnR):Prop where
 at_:c.K.lookup a=some ⟨R.oc,R.od,.func R.fd,R.osl⟩
 code:codeIn c.K R.cdv R.qual=true
 tr:∃m,trSs c d.nm R.scope m d.body=some R.body
 kind:R.scope.kind=.function
 co:R.scope.isCoroutine=false
 gen:R.scope.isGenerator=false
 np:d.np≤d.nm.length
 nd:(d.nm.take d.np).Nodup
 loc:∀y∈d.nm.take d.np,R.scope.names.lookup y=some .local∨R.scope.names.lookup y=some .cell
 ds:VReps c c.B (fun _=>False) [] d.dflt R.ds
 bind:∀(s:Shared) (xs:List Value),c.K.In s.heap→xs.length≤d.np→d.np≤xs.length+d.dflt.length→BindsTo s R.fd ⟨xs,[]⟩ ((d.nm.take d.np).zip (xs++R.ds.drop (d.dflt.length - (d.np - xs.length))))
 lam:∀k I,c.lamI k=some I→I.owner=R.scope→R.cdv=.ref I.tab.1∧R.qual++(".<locals>." : Str)++("<lambda>" : Str)=I.qual

section
theorem bindL_other {kindOf:Str→Option NameKind}{y:Str}:∀(l:List (Str × Value)) (m:Str→Option Value),y ∉ l.map (·.1)→bindL kindOf l m y=m y
 | [],m,_=>rfl
 |(z,v)::l,m,h=>by
  simp only[List.map_cons,List.mem_cons,not_or]at h
  rw[bindL,bindL_other l _ h.2]
  split
  ·exact if_neg h.1
  ·rfl
theorem bindL_mem {kindOf:Str→Option NameKind}{y:Str}{x:Value}(hk:kindOf y=some .local):∀(l:List (Str × Value)) (m:Str→Option Value),(l.map (·.1)).Nodup→(y,x)∈l→bindL kindOf l m y=some x
 | [],_,_,h=>nomatch h
 |(z,v)::l,m,hn,h=>by
  rw[List.map_cons,List.nodup_cons]at hn
  rcases List.mem_cons.mp h with e | h
  ·first | exact n0 e | exact n1 e | cases e
   rw[bindL,bindL_other l _ hn.1,if_pos hk]
   simp
  ·rw[bindL];exact bindL_mem hk l _ hn.2 h
theorem bindC_other {kindOf:Str→Option NameKind}{y:Str}:∀(l:List (Str × Value)) (m:Str→Option Value),y ∉ l.map (·.1)→bindC kindOf l m y=m y
 | [],m,_=>rfl
 |(z,v)::l,m,h=>by
  simp only[List.map_cons,List.mem_cons,not_or]at h
  rw[bindC,bindC_other l _ h.2]
  split
  ·rfl
  ·exact if_neg h.1
theorem bindC_mem {kindOf:Str→Option NameKind}{y:Str}{x:Value}(hk:kindOf y≠some .local):∀(l:List (Str × Value)) (m:Str→Option Value),(l.map (·.1)).Nodup→(y,x)∈l→bindC kindOf l m y=some x
 | [],_,_,h=>nomatch h
 |(z,v)::l,m,hn,h=>by
  rw[List.map_cons,List.nodup_cons]at hn
  rcases List.mem_cons.mp h with e | h
  ·first | exact n0 e | exact n1 e | cases e
   rw[bindC,bindC_other l _ hn.1,if_neg hk]
   simp
  ·rw[bindC];exact bindC_mem hk l _ hn.2 h
end
section
variable {c:Cx}{n:Nat}{A:Around}{f:FrI}{fs:List FrI}{s:Shared}{μ:Addr→Prop}{ρ:List (Addr × Addr)}{σ:List Cell}
theorem Inv.push {c:Cx}{fs:List FrI}{μ:Addr→Prop}{ρ:List (Addr × Addr)}{σ:List Cell}{h h':Heap}(I:Inv c fs μ ρ σ h)(k:∀a o,h.get? a=some o→h'.get? a=some o)(sz:h.objs.size≤h'.objs.size){g:FrI}(hL:h.objs.size≤g.L)
  (e1:g.env.frame=some g.L) (e2:g.env.locals=g.L) (e3:g.env.scope.kind=.function) (hn:h'.Ns g.L g.m):Inv c (g::fs) (Mine.plus μ g.L) ρ σ h':=by
 have I':=I.plus k sz hL hn.lt
 refine{ I' with frames:=fun f hf=>?_,nodup:=?_ }
 ·rcases List.mem_cons.mp hf with rfl | hf
  ·exact⟨e1,e2,e3,hn,.inr rfl,Nat.le_trans I.low hL⟩
  ·exact I'.frames f hf
 ·rw[List.map_cons,List.cons_append]
  exact List.nodup_cons.mpr ⟨fun hm=>Nat.lt_irrefl _ (Nat.lt_of_lt_of_le (I.mlt _ (I.track _ hm)) hL),I.nodup⟩
theorem Inv.pop {c:Cx}{g:FrI}{fs:List FrI}{μ:Addr→Prop}{ρ:List (Addr × Addr)}{σ:List Cell}{h:Heap}(I:Inv c (g::fs) μ ρ σ h):Inv c fs μ ρ σ h :=
 { I with frames:=fun f hf=>I.frames f (List.mem_cons_of_mem _ hf),nodup:=by have:=I.nodup;rw[List.map_cons,List.cons_append]at this;exact(List.nodup_cons.mp this).2 }
theorem St.pop {g:FrI}{s':Shared}{μ':Addr→Prop}{ρ':List (Addr × Addr)}{σ':List Cell}(x:St c (g::fs) s μ ρ σ' s' μ' ρ'):St c fs s μ ρ σ' s' μ' ρ':=⟨x.inv.pop,x.grow,x.pre,x.gens,x.os⟩
theorem zip_get {nms:List Str}{xs:List Value}{i:Nat}{y:Str}{x:Value}(h1:nms[i]?=some y)(h2:xs[i]?=some x):(y,x)∈nms.zip xs:=List.mem_of_getElem? (List.getElem?_zip_eq_some.mpr ⟨h1,h2⟩)
theorem zip_sub:∀(nms:List Str) (xs:List Value),List.Sublist ((nms.zip xs).map (·.1)) nms
 | [],_=>by simp
 |_::_,[]=>by simp
 |y::nms,x::xs=>by simpa using zip_sub nms xs
theorem zip_keys {nms:List Str}{xs:List Value}(hn:nms.Nodup):((nms.zip xs).map (·.1)).Nodup:=hn.sublist (zip_sub nms xs)
end

noncomputable def RX (c:Cx)(fs:List FrI)(s:Shared)(μ:Addr→Prop)(ρ:List (Addr × Addr))(r:R V)(q:Result)(s':Shared):Prop:=match q with
 | .ok (.ret v)=>PX c fs s μ ρ r v s'
 | .ok _=>False
 | .error e=>EX c fs s μ ρ r e s'
section
variable {c:Cx}{n:Nat}{A:Around}{f:FrI}{fs:List FrI}{s:Shared}{μ:Addr→Prop}{ρ:List (Addr × Addr)}{σ:List Cell}{r:R V}
theorem call_fn {gs:List FrI}(HS:SSs c n)(P:Prog c)(I:Inv c gs μ ρ σ s.heap)(ok:FrI.ok A gs)(hd:A.depth+(n+1)<recursionLimit)(hu:A.units+8*(n+1)+64<cLine)
  {a:Addr} {d:FnD} {R:FnR} (K:FnOK c a d R) {vs:List V} {xs:List Value} (rv:VReps c s.heap μ ρ vs xs) (h1:vs.length≤d.np) (h2:d.np≤vs.length+d.dflt.length)
  (hr:(match exSs c.T n d.body ((vs++d.dflt.drop (d.dflt.length - (d.np - vs.length))).map some++List.replicate (d.nm.length - d.np) none) σ with
     |some (.nx _ s)=>some (.ok V.none s)
     |some (.rt v s)=>some (.ok v s)
     |some (.ex i _ s)=>some (.ex i s)
     |none=>none)=some r):
  codeAny (model c.prog c.w) A (.call (.ref a) ⟨xs,[]⟩) (RX c gs s μ ρ r) s:=by
 have hKs:c.K.In s.heap:=fun b o e=>(I.base b o (P.XK b o e)).1
 have hBs:∀b o,c.B.get? b=some o→s.heap.get? b=some o:=fun b o e=>(I.base b o e).1
 obtain⟨m,htr⟩:=K.tr
 have hxl:vs.length=xs.length:=rv.len
 have hdl:=K.ds.len
 have rds:VReps c s.heap μ ρ d.dflt R.ds:=K.ds.mono (fun a o e _=>I.base a o e) List.nil_prefix
 have rall:VReps c s.heap μ ρ (vs++d.dflt.drop (d.dflt.length - (d.np - vs.length))) (xs++R.ds.drop (d.dflt.length - (d.np - xs.length))):=by
  rw[←hxl]
  exact rv.app (rds.drop _)
 have hball:(vs++d.dflt.drop (d.dflt.length - (d.np - vs.length))).length=d.np:=by
  rw[List.length_append,List.length_drop];exact ar1 h1 h2
 have hnt:(d.nm.take d.np).length=d.np:=by rw[List.length_take];exact Nat.min_eq_left K.np
 have hbind:=K.bind s xs hKs (hxl▸h1) (hxl▸h2)
 have hkind:∀x∈(d.nm.take d.np).zip (xs++R.ds.drop (d.dflt.length - (d.np - xs.length))),R.scope.names.lookup x.1=some .local∨(R.scope.names.lookup x.1=some .cell∧((cellsFrom (s.heap.objs.size+1) R.scope.names []).lookup x.1).isSome=true):=by
  intro x hx
  have hm:x.1∈d.nm.take d.np:=(zip_sub _ _).subset (List.mem_map_of_mem hx)
  rcases K.loc _ hm with q | q
  ·exact .inl q
  ·exact .inr ⟨q,cellsFrom_some _ _ _ (.inl q)⟩
 refine codeAny_call_function (dp0 hd) (hKs _ _ K.at_) rfl K.co K.gen rfl (codeRec_of hKs K.code) (hbind _ _ _ _ (wpAny_newFunctionEnv_cells K.kind hkind fun env he s₁ x=>?_))
 subst he
 obtain⟨⟨⟨h₁,tk,rfl⟩,xns,xkeep,xfresh⟩,xcell,_,xabove⟩:=x
 refine⟨P.T.nolimit.keeps fun b o e=>xkeep b o (hBs b o e),codeAny_func ?_⟩
 let env:=newEnv R.scope s.heap.objs.size mainGlobals (cellsFrom (s.heap.objs.size+1) R.scope.names []) (R.qual ++ ".<locals>.") (some a) R.cdv none builtinsNs
 let g:FrI:=⟨env,s.heap.objs.size,bindL env.kindOf ((d.nm.take d.np).zip (xs++R.ds.drop (d.dflt.length - (d.np - xs.length)))) fun _=>none⟩
 have sz:s.heap.objs.size≤h₁.objs.size:=Nat.le_of_lt xns.lt
 have I1:Inv c (g::gs) (plus μ g.L) ρ σ h₁:=I.push xkeep sz (g:=g) (Nat.le_refl _) rfl rfl K.kind xns
 have st1:St c (g::gs) s μ ρ σ { s with heap:=h₁,toks:=tk } (plus μ g.L) ρ:=⟨I1,grow_plus xkeep (Nat.le_refl _),List.prefix_refl _,rfl,rfl⟩
 have hnds:(((d.nm.take d.np).zip (xs++R.ds.drop (d.dflt.length - (d.np - xs.length)))).map (·.1)).Nodup:=zip_keys K.nd
 have hfr:FrRep c h₁ (plus μ g.L) ρ g d.nm ((vs++d.dflt.drop (d.dflt.length - (d.np - vs.length))).map some++List.replicate (d.nm.length - d.np) none):=by
  intro i y v e1 e2
  have hi:i<d.np:=by
   rcases Nat.lt_or_ge i d.np with q | q
   ·exact q
   ·rw[List.getElem?_append_right (by rw[List.length_map,hball];exact q)]at e2
    have:=List.mem_of_getElem? e2
    rw[List.mem_replicate]at this
    exact absurd this.2 (by simp)
  rw[List.getElem?_append_left (by rw[List.length_map,hball];exact hi),List.getElem?_map]at e2
  have e2':(vs++d.dflt.drop (d.dflt.length - (d.np - vs.length)))[i]?=some v:=by
   cases q:(vs++d.dflt.drop (d.dflt.length - (d.np - vs.length)))[i]? with
   |none=>rw[q]at e2;simp at e2
   |some w=>rw[q]at e2;simpa using e2
  have e1':(d.nm.take d.np)[i]?=some y:=by rw[List.getElem?_take];simp[hi,e1]
  obtain⟨x,hx,rx⟩:=rall.get e2'
  have hmem:=zip_get e1' hx
  have rx':VRep c h₁ (plus μ g.L) ρ v x:=rx.mono st1.grow (List.prefix_refl _)
  rcases K.loc y (List.mem_of_getElem? e1')with q | q
  ·exact .inl ⟨q,x,bindL_mem (kindOf:=env.kindOf) q _ _ hnds hmem,rx'⟩
  ·have hs:=cellsFrom_some R.scope.names (s.heap.objs.size+1) [] (.inl q)
   obtain⟨ca,hca⟩:=Option.isSome_iff_exists.mp hs
   obtain⟨o,ho,hdo⟩:=xcell y ca hca
   have hcm:bindC env.kindOf ((d.nm.take d.np).zip (xs++R.ds.drop (d.dflt.length - (d.np - xs.length)))) (fun _=>none) y=some x:=bindC_mem (kindOf:=env.kindOf) (by show R.scope.names.lookup y≠_;rw[q];intro z;cases z) _ _ hnds hmem
   have hab:=xabove y ca (mem_of_lookup hca)
   refine .inr ⟨.inl q,ca,o,x,hca,ho,?_,?_,rx'⟩
   ·rw[←hcm];exact hdo
   ·rintro(z | z)
    ·exact Nat.lt_irrefl _ (Nat.lt_trans (I.mlt _ z) hab)
    ·exact Nat.lt_irrefl _ (z▸hab)
 have okg:FrI.ok (A.deeper env) (g::gs):=by
  obtain⟨o1,o2,o3⟩:=ok
  refine⟨?_,o2,fun f' hf'=>?_⟩
  ·show A.frames.map (env::·)=_
   rw[o1];rfl
  ·rcases List.mem_cons.mp hf' with rfl | hf'
   ·exact⟨rfl,rfl⟩
   ·exact o3 f' hf'
 have Gg:Go c n (A.deeper env) g gs { s with heap:=h₁,toks:=tk } (plus μ g.L) ρ σ d.nm R.scope ((vs++d.dflt.drop (d.dflt.length - (d.np - vs.length))).map some++List.replicate (d.nm.length - d.np) none):=
  ⟨P,I1,okg,dp1 hd,un3 (by decide) hu,rfl,fun k I' hI hO=>K.lam k I' hI hO,hfr⟩
 cases hex:exSs c.T n d.body ((vs++d.dflt.drop (d.dflt.length - (d.np - vs.length))).map some++List.replicate (d.nm.length - d.np) none) σ with
 |none=>rw[hex]at hr;cases hr
 |some o =>
  rw[hex]at hr
  refine wpAny_mono (HS htr hex Gg) (fun fl s₂ h=>?_) (fun e s₂ h=>?_)
  ·obtain⟨m',σ',μ',ρ',st,hh⟩:=h
   have st':St c gs s μ ρ σ' s₂ μ' ρ':=(st1.trans st).pop
   rcases hh with⟨fr',rfl,rfl,_⟩| ⟨v,x,rfl,rfl,rx⟩
   ·cases hr;exact⟨_,_,_,_,rfl,st',.none⟩
   ·cases hr;exact⟨_,_,_,_,rfl,st',rx⟩
  ·obtain⟨m',σ',μ',ρ',i,fr',b,st,rfl,rfl,hi,hf,_⟩:=h
   obtain rfl:=oi hr
   have okg':(A.deeper env).frames=some ((g.upd m'::gs).map (·.env)):=okg.f
   refine leave_ok (f:=g.upd m') st.inv okg' hi hf fun s₃ μ₃ st3 nt=>?_
   exact⟨_,_,_,_,_,rfl,rfl,((st1.trans st).trans st3).pop,hi,nt.fly⟩
end

noncomputable def SCode (c:Cx)(n:Nat):Prop:=∀{v vs σ r},callV c.T n v vs σ=some r→∀{A f fs s μ ρ},Prog c→Inv c (f::fs) μ ρ σ s.heap→FrI.ok A (f::fs)→A.depth+n<recursionLimit→A.units+8*n+64<cLine →
 ∀{x xs},VRep c s.heap μ ρ v x→VReps c s.heap μ ρ vs xs→codeAny (model c.prog c.w) A (.call x ⟨xs,[]⟩) (RX c (f::fs) s μ ρ r) s
theorem SCode.call {c:Cx}{n:Nat}(H:SCode c n):SCall c n:=by
 intro v vs σ r hr A f fs s μ ρ P I ok hd hu x xs rx rxs
 refine wpAny_call (codeAny_mono (H hr P I ok hd hu rx rxs) fun q s' h=>?_)
 induction q using Except.casesOn with
 |error e=>exact h
 |ok fl=>cases fl<;>exact h
noncomputable def ExcMk (c:Cx):Prop:=∀{A:Around} {f:FrI} {fs:List FrI} {s:Shared} {μ:Addr→Prop} {ρ:List (Addr × Addr)} {σ:List Cell},Prog c→Inv c (f::fs) μ ρ σ s.heap→FrI.ok A (f::fs)→A.depth+3<recursionLimit→A.units+80<cLine →
 ∀{C':Addr} {w a:V} {xw xa:Value},c.fnA 0=some C'→VRep c s.heap μ ρ w xw→VRep c s.heap μ ρ a xa →
  codeAny (model c.prog c.w) A (.call (.ref C') ⟨[xw,xa],[]⟩) (RX c (f::fs) s μ ρ (.ok (.ref σ.length) (σ++[.new 0 [(10,w),(1,a)]]))) s
structure LamOK (c:Cx)(k:Nat)(I:LamI)(x:X):Prop where
 tr:∃m nm,trX c nm I.scope m x=some I.body∧nm.drop (c.T.lamn k)=freeOf I.scope.names∧c.T.lamn k≤nm.length∧(nm.take (c.T.lamn k)).Nodup ∧
  (∀y∈nm.take (c.T.lamn k),I.scope.names.lookup y=some .local)∧(∀y∈freeOf I.scope.names,I.scope.names.lookup y=some .free) ∧
  (∀(xs:List Value) (cl:List (Str × Addr)) (pm cdv ct:Value),xs.length=c.T.lamn k→bindArgs (kla_fn "<lambda>" I.qual I.params I.body I.scope cl pm cdv ct) ⟨xs,[]⟩=pure ((nm.take (c.T.lamn k)).zip xs))
 kind:I.scope.kind=.function
 co:I.scope.isCoroutine=false
 gen:I.scope.isGenerator=false
 cell:∀x∈I.scope.names,x.2≠.cell
 none_:∀k' I',c.lamI k'=some I'→I'.owner≠I.scope
structure Prog2 (c:Cx):Prop extends Prog c where
 fn:∀g d,c.T.fn g=some d→∃a R,c.fnA g=some a∧FnOK c a d R
 cls:∀g k,c.T.fn g=none→c.T.init g=some k→g<4∧(∀C,c.fnA g=some C→∃fI,c.fnA k=some fI∧makesIn c.K C=true∧findIn c.K (.ref C) "__init__" = some (some (.ref fI))∧isFn c.K (.ref fI)=true)
 lamk:∀k x,c.T.lam k=some x→∃I,c.lamI k=some I∧LamOK c k I x
 exc:ExcMk c
 exc0:c.T.fn 0=none∧c.T.init 0=none
section
variable {c:Cx}{n:Nat}{A:Around}{f:FrI}{fs:List FrI}{s:Shared}{μ:Addr→Prop}{ρ:List (Addr × Addr)}{σ:List Cell}{r:R V}
theorem CRep.get {h:Heap}{ns:List (Str × NameKind)}:∀{cl:List (Str × Addr)} {vs:List V},CRep c h μ ρ ns cl vs→vs.length=(freeOf ns).length∧∀(j:Nat) (y:Str) (v:V),(freeOf ns)[j]?=some y→vs[j]?=some v →
  ∃ca o x,cl.lookup y=some ca∧h.get? ca=some o∧o.data=.cell (some x)∧¬μ ca∧VRep c h μ ρ v x:=by
 induction ns with
 |nil=>intro cl vs r;cases r;exact⟨rfl,fun j y v e=>by cases e⟩
 |cons p ns ih =>
  intro cl vs r
  cases r with
  |@skip y k _ _ _ hk r =>
   have e:freeOf ((y,k)::ns)=freeOf ns:=congrArg (List.map _) (List.filter_cons_of_neg (show ¬((k==.free)=true)from fun q=>hk (beq_iff_eq.mp q)))
   rw[e]
   exact ih r
  |cons l e1 e2 n1 rv r =>
   obtain⟨a,b⟩:=ih r
   refine⟨congrArg Nat.succ a,fun j z v h1 h2=>?_⟩
   induction j using Nat.casesAuxOn with
   |zero=>cases h1;cases h2;exact⟨_,_,_,l,e1,e2,n1,rv⟩
   |succ j=>exact b j z v h1 h2
theorem rev_lookup {binds:List (Str × Value)}{y:Str}{x:Value}(hn:(binds.map (·.1)).Nodup)(h:(y,x)∈binds):binds.reverse.lookup y=some x:=by
 have go:∀l:List (Str × Value),(l.map (·.1)).Nodup→(y,x)∈l→l.lookup y=some x:=by
  intro l
  induction l with
  |nil=>intro _ h;exact nomatch h
  |cons p l ih =>
   intro hn h
   rw[List.map_cons,List.nodup_cons]at hn
   rw[List.lookup_cons]
   rcases List.mem_cons.mp h with rfl | h
   ·simp
   ·have:(y==p.1)=false:=beq_eq_false_iff_ne.mpr fun q=>hn.1 (q▸List.mem_map_of_mem (f:=(·.1)) h)
    rw[this]
    exact ih hn.2 h
 exact go _ (by rw[List.map_reverse];exact((List.reverse_perm _).nodup_iff).mpr hn) (List.mem_reverse.mpr h)
set_option tactic.hygienic true in theorem call_lam (H:SX c n)(P:Prog2 c)(I:Inv c (f::fs) μ ρ σ s.heap)(ok:FrI.ok A (f::fs))(hd:A.depth+(n+1)<recursionLimit)(hu:A.units+8*(n+1)+64<cLine)
  {k:Nat} {cs vs:List V} {fv:Value} {xs:List Value} {x:X} (hx:c.T.lam k=some x) (rf:VRep c s.heap μ ρ (.clo k cs) fv) (rv:VReps c s.heap μ ρ vs xs) (hl:vs.length=c.T.lamn k)
  (hr:exX c.T n x ((vs++cs).map some) σ=some r):codeAny (model c.prog c.w) A (.call fv ⟨xs,[]⟩) (RX c (f::fs) s μ ρ r) s:=by
 obtain⟨I₀,hI,L⟩:=P.lamk k x hx
 obtain⟨m,nm,htr,hdrop,hle,hnd,hloc,hfree,hbind⟩:=L.tr
 cases rf with
 |clo l e1 n1 e2 e3 e4 n2 cr =>
  rw[hI]at l
  obtain rfl:=oi l
  rename_i fa c' ctv pm cl oc ov tq
  have hxl:=rv.len
  have hBs:∀b o,c.B.get? b=some o→s.heap.get? b=some o:=fun b o e=>(I.base b o e).1
  have hb:=hbind xs cl pm (.ref c') ctv (hxl.symm.trans hl)
  have hnt:(nm.take (c.T.lamn k)).length=c.T.lamn k:=by rw[List.length_take];exact Nat.min_eq_left hle
  have hnds:(((nm.take (c.T.lamn k)).zip xs).map (·.1)).Nodup:=zip_keys hnd
  refine kla_callFunE (dp0 hd) e1 rfl L.co L.gen rfl ⟨c',oc,ov,tq,rfl,e2,e3,e4⟩ ?_
  rw[hb]
  refine wpAny_pure (wpAny_newFunctionEnv L.cell (fun y hy=>hloc _ ((zip_sub _ _).subset (List.mem_map_of_mem hy))) (fun h₁ hns hsb=>?_) L.kind)
  have xkeep:∀b o,s.heap.get? b=some o→h₁.get? b=some o:=fun b o e=>(hsb.2 b (Nat.ne_of_lt (Heap.lt_size e))).trans (Heap.get?_push_of_some _ e)
  refine⟨P.T.nolimit.keeps fun b o e=>xkeep b o (hBs b o e),kla_codeExpr ?_⟩
  let env:=newEnv I₀.scope s.heap.objs.size mainGlobals cl (I₀.qual ++ ".<locals>.") (some fa) (.ref c') none builtinsNs
  let g:FrI:=⟨env,s.heap.objs.size,fun y=>((nm.take (c.T.lamn k)).zip xs).reverse.lookup y⟩
  have sz:s.heap.objs.size≤h₁.objs.size:=Nat.le_of_lt hns.lt
  have I1:Inv c (g::f::fs) (plus μ g.L) ρ σ h₁:=I.push xkeep sz (g:=g) (Nat.le_refl _) rfl rfl L.kind hns
  have st1:St c (g::f::fs) s μ ρ σ { s with heap:=h₁,toks:=s.toks+((nm.take (c.T.lamn k)).zip xs).length } (plus μ g.L) ρ:=⟨I1,grow_plus xkeep (Nat.le_refl _),List.prefix_refl _,rfl,rfl⟩
  obtain⟨cl1,cl2⟩:=cr.get
  have hfr:FrRep c h₁ (plus μ g.L) ρ g nm ((vs++cs).map some):=by
   intro i y v q1 q2
   have q2':(vs++cs)[i]?=some v:=by
    rw[List.getElem?_map]at q2
    cases q:(vs++cs)[i]? with
    |none=>rw[q]at q2;cases q2
    |some w=>rw[q]at q2;simpa using q2
   rcases Nat.lt_or_ge i vs.length with hi | hi
   ·rw[List.getElem?_append_left hi]at q2'
    have e1':(nm.take (c.T.lamn k))[i]?=some y:=by rw[List.getElem?_take];simp[←hl,hi,q1]
    obtain⟨z,hz,rz⟩:=rv.get q2'
    exact .inl ⟨hloc y (List.mem_of_getElem? e1'),z,rev_lookup hnds (zip_get e1' hz),rz.mono st1.grow (List.prefix_refl _)⟩
   ·rw[List.getElem?_append_right hi]at q2'
    have e1':(freeOf I₀.scope.names)[i - vs.length]?=some y:=by
     rw[←hdrop,List.getElem?_drop,←hl,Nat.add_sub_cancel' hi]
     exact q1
    obtain⟨ca,o,z,z1,z2,z3,z4,z5⟩:=cl2 _ y v e1' q2'
    exact .inr ⟨.inr (hfree y (List.mem_of_getElem? e1')),ca,o,z,z1,(st1.grow _ _ z2 z4).1,z3,(st1.grow _ _ z2 z4).2,z5.mono st1.grow (List.prefix_refl _)⟩
  have okg:FrI.ok (A.deeper env) (g::f::fs):=by
   obtain⟨o1,o2,o3⟩:=ok
   refine⟨?_,o2,fun f' hf'=>?_⟩
   ·show A.frames.map (env::·)=_
    rw[o1];rfl
   ·rcases List.mem_cons.mp hf' with rfl | hf'
    ·exact⟨rfl,rfl⟩
    ·exact o3 f' hf'
  have Gg:Go c n (A.deeper env) g (f::fs) { s with heap:=h₁,toks:=s.toks+((nm.take (c.T.lamn k)).zip xs).length } (plus μ g.L) ρ σ nm I₀.scope ((vs++cs).map some):=
   ⟨P.toProg,I1,okg,dp1 hd,un3 (by decide) hu,rfl,fun k' I' hI' hO=>absurd hO (L.none_ k' I' hI'),hfr⟩
  refine wpAny_mono (H htr hr Gg) (fun y s₂ h=>?_) (fun e s₂ h=>?_)
  ·obtain⟨v,σ',μ',ρ',rfl,st,rx⟩:=h
   exact⟨_,_,_,_,rfl,(st1.trans st).pop,rx⟩
  ·obtain⟨i,σ',μ',ρ',b,rfl,rfl,st,hi,hf⟩:=h
   refine leave_ok (f:=g) st.inv okg.1 hi hf fun s₃ μ₃ st3 nt=>?_
   exact⟨_,_,_,_,_,rfl,rfl,((st1.trans st).trans st3).pop,hi,nt.fly⟩
end

section
variable {c:Cx}{n:Nat}{A:Around}{f:FrI}{fs:List FrI}{s:Shared}{μ:Addr→Prop}{ρ:List (Addr × Addr)}{σ:List Cell}{r:R V}
theorem call_cls' (H:SCode c n)(P:Prog2 c)(I:Inv c (f::fs) μ ρ σ s.heap)(ok:FrI.ok A (f::fs))(hd:A.depth+(n+1)<recursionLimit)(hu:A.units+8*(n+1)+64<cLine)
  {g k:Nat} {C:Addr} (h0:c.T.fn g=none) (h1:c.T.init g=some k) (hC:c.fnA g=some C) {vs:List V} {xs:List Value} (rv:VReps c s.heap μ ρ vs xs)
  (hr:bnd (callV c.T n (.base k) (.ref σ.length::vs) (σ++[.inst g []])) (fun v s'=>match v with | .none=>some (.ok (.ref σ.length) s')| _=>none)=some r):
  codeAny (model c.prog c.w) A (.call (.ref C) ⟨xs,[]⟩) (RX c (f::fs) s μ ρ r) s:=by
 obtain⟨hg4,hcl⟩:=P.cls g k h0 h1
 obtain⟨fI,hfI,hm,hi,hf⟩:=hcl C hC
 have hKs:c.K.In s.heap:=fun b o e=>(I.base b o (P.XK b o e)).1
 have hkeep:∀a o,s.heap.get? a=some o→((s.heap.push emptyDict).push (instObj C s.heap.objs.size)).get? a=some o:=fun a o e=>Heap.get?_push_of_some _ (Heap.get?_push_of_some _ e)
 have hsz:((s.heap.push emptyDict).push (instObj C s.heap.objs.size)).objs.size=s.heap.objs.size+2:=by rw[Heap.size_push,Heap.size_push]
 have hd1:((s.heap.push emptyDict).push (instObj C s.heap.objs.size)).get? s.heap.objs.size=some (dictOf [] 0):=Heap.get?_push_of_some _ (Heap.get?_push_size _ rfl)
 have hx1:((s.heap.push emptyDict).push (instObj C s.heap.objs.size)).get? (s.heap.objs.size+1)=some (instObj C s.heap.objs.size):=by
  have:=Heap.get?_push_size (s.heap.push emptyDict) (o:=instObj C s.heap.objs.size) rfl
  rwa [Heap.size_push]at this
 have ca:CellAt c ((s.heap.push emptyDict).push (instObj C s.heap.objs.size)) (plus μ s.heap.objs.size) (ρ++[(s.heap.objs.size+1,s.heap.objs.size)]) (s.heap.objs.size+1,s.heap.objs.size) (.inst g []):=
  .inst hg4 hC hx1 (fun z=>z.elim (fun z=>absurd (I.mlt _ z) (Nat.not_lt.mpr (Nat.le_succ _))) (fun z=>absurd z (Nat.succ_ne_self _))) hd1 (.inr rfl) .nil
 have st1:=St.cell I hkeep (by rw[hsz];exact Nat.le_add_right _ _) (Nat.le_refl _) (by rw[hsz];exact Nat.lt_add_of_pos_right (by decide)) ca (tk:=s.toks)
 have okA:FrI.ok (A.under (.builtin "type.__call__" ⟨.ref C::xs,[]⟩)) (f::fs):=⟨ok.f,ok.h,ok.g⟩
 have rx:VRep c ((s.heap.push emptyDict).push (instObj C s.heap.objs.size)) (plus μ s.heap.objs.size) (ρ++[(s.heap.objs.size+1,s.heap.objs.size)]) (.ref σ.length) (.ref (s.heap.objs.size+1)):=by
  refine .ref (d:=s.heap.objs.size) ?_
  rw[←I.len,List.getElem?_append_right (Nat.le_refl _),Nat.sub_self]
  rfl
 have rb:VRep c ((s.heap.push emptyDict).push (instObj C s.heap.objs.size)) (plus μ s.heap.objs.size) (ρ++[(s.heap.objs.size+1,s.heap.objs.size)]) (.base k) (.ref fI):=.base hfI
 obtain⟨hh,gg,dd,tt,os⟩:=s
 refine make_core (makes_of hKs hm) (looks_findIn hKs hi) (fun self=>bind_fn hKs self (beq_iff_eq.mp hf)) (.inl rfl) ?_
 have go:∀{r1},callV c.T n (.base k) (.ref σ.length::vs) (σ++[.inst g []])=some r1→codeAny (model c.prog c.w) (A.under (.builtin "type.__call__" ⟨.ref C::xs,[]⟩)) (.call (.ref fI) ⟨.ref (hh.objs.size+1)::xs,[]⟩) (RX c (f::fs) ⟨(hh.push emptyDict).push (instObj C hh.objs.size),gg,dd,tt,os⟩ (plus μ hh.objs.size) (ρ++[(hh.objs.size+1,hh.objs.size)]) r1) ⟨(hh.push emptyDict).push (instObj C hh.objs.size),gg,dd,tt,os⟩:=fun{r1} h =>
  H h P.toProg st1.inv okA (show A.depth+1+n<_ from dp1 hd) (show A.units+1+8*n+64<_ from un3 (by decide) hu) rb (.cons rx (rv.mono st1.grow st1.pre))
 rcases bnd_some hr with⟨v,σ₁,e1,e2⟩| ⟨i,σ₁,e1,e2⟩
 ·refine codeAny_mono (go e1) fun q s' h=>?_
  induction q using Except.casesOn with
  |error e=>obtain⟨_,_,_,_,_,z,_⟩:=h;cases z
  |ok fl =>
   cases fl with
   |ret v' =>
    obtain⟨v0,σ',μ',ρ',z,st,rep⟩:=h
    first | exact n0 z | exact n1 z | cases z
    induction v using V.casesOn with
    |none =>
     first | exact n0 rep | exact n1 rep | cases rep
     obtain rfl:=oi e2
     refine⟨rfl,_,_,_,_,rfl,st1.trans st,?_⟩
     exact rx.mono st.grow st.pre
    |_=>cases e2
   |_=>exact h.elim
 ·refine codeAny_mono (go e1) fun q s' h=>?_
  induction q using Except.casesOn with
  |error e=>exact EX.up st1 (fun i σ z=>by cases z;exact e2) h
  |ok fl =>
   cases fl with
   |ret v'=>obtain⟨_,_,_,_,z,_⟩:=h;cases z
   |_=>exact h.elim
set_option tactic.hygienic true in theorem scode_step (HX:SX c n)(HS:SSs c n)(H:SCode c n)(P2:Prog2 c):SCode c (n+1):=by
 intro v vs σ r hr A f fs s μ ρ P I ok hd hu x xs rx rxs
 induction v using V.casesOn with
 |base g =>
  simp only[eC_base]at hr
  cases rx with
  |base hA =>
   cases hfn:c.T.fn g with
   |some d =>
    rw[hfn]at hr
    simp only at hr
    split at hr
    ·rename_i hc
     simp only[Bool.and_eq_true,decide_eq_true_eq]at hc
     obtain⟨a',Rn,ha,K⟩:=P2.fn g d hfn
     rw[hA]at ha
     obtain rfl:=oi ha
     exact call_fn HS P I ok hd hu K rxs hc.1 hc.2 hr
    ·exact n0 hr
   |none =>
    rw[hfn]at hr
    simp only at hr
    cases hin:c.T.init g with
    |some k =>
     rw[hin]at hr
     exact call_cls' H P2 I ok hd hu hfn hin hA rxs hr
    |none =>
     rw[hin]at hr
     simp only at hr
     split at hr
     ·rename_i hg
      obtain⟨rfl,hn3⟩:=hg
      split at hr
      ·rename_i w a
       obtain rfl:=oi hr
       obtain⟨_,_,rfl,rw1,rest⟩:=rxs.cons_;clear rxs
       obtain⟨_,_,rfl,ra,rest⟩:=rest.cons_;clear rest
       first | exact n0 rest | exact n1 rest | cases rest
       exact P2.exc P I ok (Nat.lt_of_le_of_lt (Nat.add_le_add_left (Nat.le_succ_of_le hn3) _) hd) (un80 hn3 hu) hA rw1 ra
      ·exact n0 hr
     ·exact n0 hr
 |clo k cs =>
  simp only[eC_clo]at hr
  split at hr
  ·rename_i x' hx
   split at hr
   ·rename_i hl
    exact call_lam HX P2 I ok hd hu hx rx rxs hl hr
   ·exact n0 hr
  ·exact n0 hr
 |_=>exact n0 hr
end

theorem CellAt.live {c:Cx}{h:Heap}{μ:Addr→Prop}{ρ:List (Addr × Addr)}{p:Addr × Addr}{q:Cell}(x:CellAt c h μ ρ p q):∃o,h.get? p.2=some o:=by
 cases x with
 |inst z a e1 n1 e2 m f=>exact⟨_,e2⟩
 |list e m v=>exact⟨_,e⟩
 |exc z a e o1 o2 o3 m e2 n2 f=>exact⟨_,e⟩
 |new z a e o1 o2 o3 m e2 n2 f tb=>exact⟨_,e⟩
 |exd z a e o1 o2 o3 m e2 n2 f=>exact⟨_,e⟩
theorem CellsAt.live {c:Cx}{h:Heap}{μ:Addr→Prop}{ρ₀:List (Addr × Addr)}:∀{ρ:List (Addr × Addr)} {σ:List Cell},CellsAt c h μ ρ₀ ρ σ→∀p∈ρ,∃o,h.get? p.2=some o:=fun H=>H.ind (P:=fun ρ _=>∀p∈ρ,∃o,h.get? p.2=some o) (fun _ z=>(List.not_mem_nil z).elim) fun a _ ih p hp=>(List.mem_cons.mp hp).elim (fun e=>e▸a.live) (ih p)
theorem St.kept {c:Cx}{f:FrI}{fs:List FrI}{s:Shared}{μ:Addr→Prop}{ρ:List (Addr × Addr)}{σ:List Cell}(I:Inv c (f::fs) μ ρ σ s.heap){h':Heap}(k:∀a o,s.heap.get? a=some o→h'.get? a=some o):
  ∃μ':Addr→Prop,(∀a,μ' a→∃o,s.heap.get? a=some o)∧∀tk,St c (f::fs) s μ ρ σ { s with heap:=h',toks:=tk } μ' ρ:=by
 have g:Grow s.heap μ h' (fun a=>μ a∧∃o,s.heap.get? a=some o):=fun a o e n=>⟨k a o e,fun z=>n z.1⟩
 have liveL:∀f'∈f::fs,∃o,s.heap.get? f'.L=some o:=fun f' hf=>by
  obtain⟨_,_,_,⟨o,es,ep,ho,_⟩,_⟩:=I.frames f' hf
  exact⟨o,ho⟩
 refine⟨fun a=>μ a∧∃o,s.heap.get? a=some o,fun a z=>z.2,fun tk=>⟨⟨fun a o e=>⟨k _ _ (I.base a o e).1,fun z=>(I.base a o e).2 z.1⟩,?_,fun a z=>?_,fun f' hf=>?_,?_,I.nodup,fun q hq=>?_⟩,g,List.prefix_refl _,rfl,rfl⟩⟩
 ·obtain⟨o,ho⟩:=liveL f List.mem_cons_self
  exact Nat.le_of_lt (Nat.lt_of_le_of_lt (I.frames f List.mem_cons_self).le (Heap.lt_size (k _ _ ho)))
 ·obtain⟨_,o,ho⟩:=z
  exact Heap.lt_size (k _ _ ho)
 ·obtain⟨a,b,d,n,m,l⟩:=I.frames f' hf
  exact⟨a,b,d,n.keeps k,⟨m,liveL f' hf⟩,l⟩
 ·exact I.cells.step g (List.prefix_refl _) (fun p _ o e=>k _ o e) (fun p hp m=>⟨m,I.cells.live p hp⟩) fun T x=>let ⟨oT,ts,a,b,d,e,m⟩:=x;⟨oT,ts,k _ _ a,b,d,e,m,_,a⟩
 ·have t:=I.tabs q hq
  refine⟨⟨t.1,?_⟩,t.2.step g fun o e=>k _ o e⟩
  obtain⟨ps,e,_⟩:=t.2
  exact⟨_,e⟩

structure Prog3 (c:Cx):Prop extends Prog2 c where
 keepF:∀g a,c.fnA g=some a→keepIn c.K (.ref a)=true
 meth:∀C C' f k,C<4→c.T.mth C f=some k→c.fnA C=some C'→∃a,c.fnA k=some a∧plainGet c.K C' (c.an f)=true∧findIn c.K (.ref C') (c.an f)=some (some (.ref a))∧isFn c.K (.ref a)=true
 fld:∀C C' f,C<4→C≠0→c.fnA C=some C'→f≤10→plainGet c.K C' (c.an f)=true∧findIn c.K (.ref C') "__getattribute__" = some (some (.builtin "object.__getattribute__"))∧findIn c.K (.ref C') "__getattr__" = some none ∧
  ∃r,findIn c.K (.ref C') (c.an f)=some r∧r.all (fun a=>(typeIn c.K a).any fun t=>t != .type "function" && t != .type "method_descriptor" && t != .type "wrapper_descriptor")=true
 sta:∀C C' f,C<4→C≠0→c.fnA C=some C'→f≤10→findIn c.K (.ref C') "__setattr__" = some (some (.builtin "object.__setattr__"))∧plainOver c.K C'=true∧takerIn c.K C' (c.an f)=some none∧hasDictIn c.K C'=true
 exct:∀C',c.fnA 0=some C'→typeIn c.K (.ref C')=some (.type "type")∧exmOne c.K (.ref C') (.ref C')=some true∧c.mg (c.gn 0)=some (.ref C')
 an37:c.an 37 = "split"
 an38:c.an 38 = "lower"
 an39:c.an 39 = "append"

section
variable {c:Cx}{n m:Nat}{A:Around}{f:FrI}{fs:List FrI}{s:Shared}{μ:Addr→Prop}{ρ:List (Addr × Addr)}{σ:List Cell}{nm:List Str}{sc:Scope}{fr:List (Option V)}{e:Expr}{r:R V}

theorem plain_args {env:Env}{pos:Pos}:∀{m:Nat} {as:List X} {es:List Expr},trXs c nm sc m as=some es→(backTo pos (starEach es env)).any (·.1)=false
 |_,[],_,h=>by obtain rfl:=trXs_nil h;rfl
 |_,x::l,_,h=>by
  obtain⟨m',e,es',rfl,h1,h2,rfl,hs⟩:=trXs_cons h
  rw[star_cons hs]
  show(false||(backTo pos (starEach es' env)).any (·.1))=false
  rw[plain_args h2];rfl
theorem xs_nil_of {as:List X}(h:trXs c nm sc m as=some []):as=[]:=by
 induction as using List.casesOn with
 |nil=>rfl
 |cons x l=>obtain⟨_,_,_,_,_,_,e,_⟩:=trXs_cons h;cases e

theorem Go.callWith {α:Type}(HS:SXs c n)(G:Go c n A f fs s μ ρ σ nm sc fr){as:List X}{es:List Expr}(ht:trXs c nm sc m as=some es){k:List V→List Cell→O α}{r:R α}(hr:bnd (exXs c.T n as fr σ) k=some r)
  {fv:Value} {P:Heap→Prop} (hk:∀h,P h→∃k,(k=Keeper.frame∨k=Keeper.machine∨k=Keeper.boundFrame)∧Looks (model c.prog c.w) h (keeperOf fv) k)
  {first:List Value} {pos:Pos} {Q E:Value→Shared→Prop} (hE:∀e s',EX c (f::fs) s μ ρ r e s'→E e s')
  (h:∀vs σ₁ ys s₁ μ₁ ρ₁,k vs σ₁=some r→Go c n A f fs s₁ μ₁ ρ₁ σ₁ nm sc fr→St c (f::fs) s μ ρ σ₁ s₁ μ₁ ρ₁→VReps c s₁.heap μ₁ ρ₁ vs ys→P s₁.heap∧wpAny (model c.prog c.w) A (call fv (first++ys)) Q E s₁):
  wpAny (model c.prog c.w) A (callWith pos fv first (backTo pos (starEach es f.env)) []) Q E s:=by
 refine callWith_of (P:=P) (by rw[plain_args ht];rfl) hk ?_
 induction es using List.casesOn with
 |nil =>
  obtain rfl:=xs_nil_of ht
  refine evalArgs_nil3 ?_
  induction n using Nat.casesAuxOn with
  |zero=>exact Mine.n0 hr
  |succ n =>
   exact h _ _ _ _ _ _ hr G (.refl G.inv) .nil
 |cons e rest =>
  induction as using List.casesOn with
  |nil=>have:=trXs_nil ht;cases this
  |cons x l =>
   obtain⟨m',e',es',rfl,h1,h2,e1,hs⟩:=trXs_cons ht
   first | exact n0 e1 | exact n1 e1 | cases e1
   have hrun:=HS.run G ht hr (pos:=pos) (Q:=fun vs s'=>(fun a:Args=>fun s₁:Shared=>P s₁.heap∧wpAny (model c.prog c.w) A (call fv (first++a.pos) a.kw) Q E s₁) ⟨vs,[]⟩ s') (E:=E) (fun vs σ₁ ys s₁ μ₁ ρ₁ hk G₁ st rep=>h _ _ _ _ _ _ hk G₁ st rep) hE
   rw[star_cons hs]at hrun ⊢
   exact evalArgs_plain hrun
theorem keeps_fn {a:Addr}{h:Heap}{o:Obj}{fd:FuncData}{M:Model}(e:h.get? a=some o)(d:o.data=.func fd):∃k,(k=Keeper.frame∨k=Keeper.machine∨k=Keeper.boundFrame)∧Looks M h (keeperOf (.ref a)) k:=by
 obtain⟨oc,od,oda,osl⟩:=o
 first | exact n0 d | exact n1 d | cases d
 exact⟨.frame,.inl rfl,(Looks.ld (part:=none) e).andThen .now⟩
noncomputable def KeepP (c:Cx)(v:V)(x:Value)(h:Heap):Prop:=match v,x with
 | .base _,_=>c.K.In h
 | .clo _ _,.ref a=>∃o fd,h.get? a=some o∧o.data=.func fd
 |_,_=>False
theorem KeepP.keeps (P:Prog3 c){v:V}{x:Value}{h₀:Heap}{μ:Addr→Prop}(rep:VRep c h₀ μ ρ v x)(h:Heap)(p:KeepP c v x h):∃k,(k=Keeper.frame∨k=Keeper.machine∨k=Keeper.boundFrame)∧Looks (model c.prog c.w) h (keeperOf x) k:=by
 cases rep with
 |base e=>exact keeps_K (P.keepF _ _ e) h p
 |clo l e1 n1 e2 a b n2 cr=>obtain⟨o,fd,e,d⟩:=p;exact keeps_fn e d
 |_=>exact p.elim
theorem KeepP.of (G:Go c n A f fs s μ ρ σ nm sc fr){v:V}{x:Value}(rep:VRep c s.heap μ ρ v x){vs:List V}{σ':List Cell}(hr:callV c.T n v vs σ'=some r):KeepP c v x s.heap:=by
 cases rep with
 |base e=>exact G.K
 |clo l e1 n1 e2 a b n2 cr=>exact⟨_,_,e1,rfl⟩
 |_=>cases n<;>exact n0 hr
theorem EX.st {α:Type}{s₁:Shared}{μ₁:Addr→Prop}{ρ₁:List (Addr × Addr)}{σ₁:List Cell}(x:St c fs s μ ρ σ₁ s₁ μ₁ ρ₁){r:R α}{e:Value}{s':Shared}(y:EX c fs s₁ μ₁ ρ₁ r e s'):EX c fs s μ ρ r e s':=y.up x fun _ _ z=>z
theorem PX.st {s₁:Shared}{μ₁:Addr→Prop}{ρ₁:List (Addr × Addr)}{σ₁:List Cell}(x:St c fs s μ ρ σ₁ s₁ μ₁ ρ₁){r:R V}{e:Value}{s':Shared}(y:PX c fs s₁ μ₁ ρ₁ r e s'):PX c fs s μ ρ r e s':=by
 obtain⟨v,σ',μ',ρ',a,b,d⟩:=y
 exact⟨v,σ',μ',ρ',a,x.trans b,d⟩
theorem s_call {fx:X}{as:List X}{p:Pos}(P3:Prog3 c)(H:SX c n)(HS:SXs c n)(HC:SCall c n)(G:Go c (n+1) A f fs s μ ρ σ nm sc fr)(ht:trX c nm sc m (.call fx as p)=some e)(hr:exX c.T (n+1) (.call fx as p) fr σ=some r):wpAny (model c.prog c.w) A (eval e f.env) (PX c (f::fs) s μ ρ r) (EX c (f::fs) s μ ρ r) s:=by
 induction m using Nat.casesAuxOn with
 |zero=>exact Mine.n0 ht
 |succ m =>
  obtain⟨fe,h1,hz_⟩:=bI ht;clear ht;rename _=>ht
  obtain⟨es,h2,hz_⟩:=bI ht;clear ht;rename _=>ht
  ·obtain⟨hnm,rfl⟩:=ifI ht
   obtain⟨y,q,rfl⟩:=isNm_ hnm
   have G':=G.less (Nat.le_succ n)
   refine wpAny_Call_NameR (H.run G' h1 hr (fun v σ₁ x s₁ μ₁ ρ₁ hk G₁ st rep=>?_) fun _ _ h=>h)
   refine G₁.callWith HS h2 hk (P:=KeepP c v x) (fun h p=>KeepP.keeps P3 rep h p) (fun _ _ h=>h.st st) fun vs σ₂ ys s₂ μ₂ ρ₂ hc G₂ st2 rv=>?_
   have rep2:=st2.up rep
   exact⟨KeepP.of G₂ rep2 hc,wpAny_mono (HC hc G₂.bs G₂.inv G₂.ok G₂.d G₂.u rep2 rv) (fun _ _ h=>h.st (st.trans st2)) fun _ _ h=>h.st (st.trans st2)⟩
end

theorem ints_are {c:Cx}{h:Heap}{μ:Addr→Prop}{ρ:List (Addr × Addr)}(l:List V):∀{xs:List Value} {t:Int},sumI l=some t→VReps c h μ ρ l xs→∃ns,IntsAre xs ns∧ns.sum=t:=by
 induction l with
 |nil=>intro xs t e b;obtain rfl:=oi e;obtain rfl:=b.nil_;exact⟨[],.nil,rfl⟩
 |cons v l ih =>
  intro xs t e b
  induction v using V.casesOn with
  |int i =>
   obtain⟨t',e1,rfl⟩:=mI e
   obtain⟨_,_,rfl,a,b1⟩:=b.cons_
   obtain⟨ns,hn,rfl⟩:=ih e1 b1
   obtain⟨t,rfl⟩:=a.int_
   exact⟨i::ns,.cons i t hn,List.sum_cons⟩
  |_=>exact n0 e
theorem keeps_pure {M:Model}{h:Heap}{v:Value}(hv:(∃id,v=.builtin id)∨∃T,v=.type T):∃k,(k=Keeper.frame∨k=Keeper.machine∨k=Keeper.boundFrame)∧Looks M h (keeperOf v) k:=by
 rcases hv with⟨id,rfl⟩| ⟨T,rfl⟩<;>exact⟨.machine,.inr (.inl rfl),.now⟩
section
variable {c:Cx}{n m:Nat}{A:Around}{f:FrI}{fs:List FrI}{s:Shared}{μ:Addr→Prop}{ρ:List (Addr × Addr)}{σ:List Cell}{nm:List Str}{sc:Scope}{fr:List (Option V)}{e:Expr}{r:R V}
theorem bi_kind {y:Str × Value}{b:Nat}(h:biV b=some y):(∃id,y.2=.builtin id)∨∃T,y.2=.type T :=
 lk (P:=fun _ y=>(∃id,y.2=.builtin id)∨∃T,y.2=.type T) (.inl ⟨_,rfl⟩) (lk (.inl ⟨_,rfl⟩) (lk (.inl ⟨_,rfl⟩) (lk (.inl ⟨_,rfl⟩) (lk (.inr ⟨_,rfl⟩) (lk (.inr ⟨_,rfl⟩) (lk (.inr ⟨_,rfl⟩) (lk (.inr ⟨_,rfl⟩) lkn))))))) b y h
theorem szl {α:Type}{its:Array α}{n:Nat}(e:n=its.toList.length)(h:n≤1000):its.size≤sizeLine:=Nat.le_trans (Nat.le_trans (Nat.le_of_eq (Array.length_toList.symm.trans e.symm)) h) (by rw[sizeLine_eq];decide)
theorem abs_i {i:Int}:(if i<0 then -i else i)=(i.natAbs:Int):=by
 by_cases h:i<0
 ·rw[if_pos h];exact(Int.ofNat_natAbs_of_nonpos (Int.le_of_lt h)).symm
 ·rw[if_neg h];exact(Int.natAbs_of_nonneg (Int.not_lt.mp h)).symm
theorem Go.bif (G:Go c n A f fs s μ ρ σ nm sc fr){b:Nat}{y:Str × Value}(hb:biV b=some y){vs:List V}{xs:List Value}(rv:VReps c s.heap μ ρ vs xs){w:V}(hw:bifV σ b vs=some w){Q E:Value→Shared→Prop}
  (k:∀z s' μ',St c (f::fs) s μ ρ σ s' μ' ρ→VRep c s'.heap μ' ρ w z→Q z s'):wpAny (model c.prog c.w) A (call y.2 xs) Q E s:=by
 have hh:A.handled=none:=G.ok.h
 cases bifO hw with
 |len hl hs =>
  obtain rfl:=oi hb
  obtain⟨_,_,rfl,a,rest⟩:=rv.cons_;clear rv
  obtain rfl:=rest.nil_
  obtain⟨p,its,k1,rfl,il,vs⟩:=G.items a hl
  have e1:=vs.len
  refine call_len_list il.isList (fit_ (Nat.le_trans (Nat.le_of_eq (Array.length_toList.symm.trans e1.symm)) hs)) ?_
  have:=k (.int its.size (s.toks+1)) { s with toks:=s.toks+1+1 } μ (.toks G.inv) (by rw[e1];exact .int _ _)
  exact this
 |@abs i =>
  obtain rfl:=oi hb
  obtain⟨_,_,rfl,a,rest⟩:=rv.cons_;clear rv
  obtain rfl:=rest.nil_
  obtain⟨t,rfl⟩:=a.int_;clear a
  refine call_abs_int fun u tk=>?_
  rw[abs_i]
  exact k _ _ μ (.toks G.inv) (.int _ _)
 |sum hl ht =>
  obtain rfl:=oi hb
  obtain⟨_,_,rfl,a,rest⟩:=rv.cons_;clear rv
  obtain rfl:=rest.nil_
  obtain⟨p,its,k1,rfl,il,vs⟩:=G.items a hl
  obtain⟨ns,hi,rfl⟩:=ints_are _ ht vs
  obtain⟨xs',hx⟩:=hi.allInts.items
  have hn:numsOf its.toList=ns:=hi.numsOf
  rw[show its=intItems xs' from hx]at hn il
  rw[nums_intItems]at hn
  refine sum_intListG hh il.isList fun h' tk t' hk=>?_
  obtain⟨μ',_,st⟩:=St.kept (h':=h') G.inv hk
  have:=k (.int ns.sum t') _ μ' (st tk) (.int _ _)
  rw[preSum_eq,List.take_of_length_le (by simp),hn]
  exact this
 |@min a b =>
  obtain rfl:=oi hb
  obtain⟨_,_,rfl,ra,rest⟩:=rv.cons_;clear rv
  obtain⟨_,_,rfl,rb,rest2⟩:=rest.cons_;clear rest
  obtain rfl:=rest2.nil_
  obtain⟨ta,rfl⟩:=ra.int_;clear ra
  obtain⟨tb,rfl⟩:=rb.int_;clear rb
  refine min_two_ints hh fun h' tk hk=>?_
  obtain⟨μ',_,st⟩:=St.kept (h':=h') G.inv hk
  by_cases hlt:b<a
  ·rw[if_pos hlt]
   rw[Int.min_eq_right (Int.le_of_lt hlt)]at k
   exact k (.int b tb) _ μ' (st tk) (.int _ _)
  ·rw[if_neg hlt]
   rw[Int.min_eq_left (Int.not_lt.mp hlt)]at k
   exact k (.int a ta) _ μ' (st tk) (.int _ _)
 |lst hl hs =>
  obtain rfl:=oi hb
  obtain⟨_,_,rfl,a,rest⟩:=rv.cons_;clear rv
  obtain rfl:=rest.nil_
  obtain⟨p,its,k1,rfl,il,vs⟩:=G.items a hl
  have e1:=vs.len
  refine call_list_seq (hsz:=szl e1 hs) p (.inl rfl) il rfl rfl fun h' c' hk hD=>?_
  obtain⟨μ',hμ,st⟩:=St.kept (h':=h') G.inv hk
  refine k _ _ μ' (st s.toks) (.lst (n:=c') hD (fun z=>?_) (vs.mono (st s.toks).grow (List.prefix_refl _)))
  obtain⟨o,ho⟩:=hμ _ z
  exact Nat.lt_irrefl _ (Heap.lt_size ho)
 |tup hl hs =>
  obtain rfl:=oi hb
  obtain⟨_,_,rfl,a,rest⟩:=rv.cons_;clear rv
  obtain rfl:=rest.nil_
  obtain⟨p,its,k1,rfl,il,vs⟩:=G.items a hl
  have e1:=vs.len
  refine call_tuple_list (hsz:=szl e1 hs) il.isList fun h' hk=>?_
  obtain⟨μ',hμ,st⟩:=St.kept (h':=h') G.inv hk
  have I2:=(st s.toks).inv
  exact k _ _ μ' ((st s.toks).trans (St.push (s:={ s with heap:=h' }) I2 _ (tk:=s.toks))) (rep_tup (tk:=s.toks) (s:={ s with heap:=h' }) (f:=f) (fs:=fs) (σ:=σ) I2 (vs.mono (st s.toks).grow (List.prefix_refl _)))
theorem s_bcall {b:Nat}{bp:Pos}{as:List X}{p:Pos}(HS:SXs c n)(G:Go c (n+1) A f fs s μ ρ σ nm sc fr)(ht:trX c nm sc m (.bcall b bp as p)=some e)(hr:exX c.T (n+1) (.bcall b bp as p) fr σ=some r):wpAny (model c.prog c.w) A (eval e f.env) (PX c (f::fs) s μ ρ r) (EX c (f::fs) s μ ρ r) s:=by
 induction m using Nat.casesAuxOn with
 |zero=>exact Mine.n0 ht
 |succ m =>
  obtain⟨y,hb,hz_⟩:=bI ht;clear ht;rename _=>ht
  obtain⟨es,h2,hz_⟩:=bI ht;clear ht;rename _=>ht
  split at ht
  ·rename_i hc
   obtain rfl:=oi ht
   simp only[Bool.and_eq_true,beq_iff_eq]at hc
   have G':=G.less (Nat.le_succ n)
   obtain⟨b1,b2⟩:=G.bs.bi b y hb
   refine wpAny_Call_NameR (G.builtin hc.1 hc.2 b1 b2 ?_)
   refine G'.callWith HS h2 hr (P:=fun _=>True) (fun h _=>keeps_pure (bi_kind hb)) (fun _ _ h=>h) fun vs σ₂ ys s₂ μ₂ ρ₂ hk G₂ st rv=>⟨trivial,?_⟩
   obtain⟨w,hw,rfl⟩:=lif_some hk
   refine G₂.bif hb rv hw fun z s' μ' st' rz=>⟨_,_,_,_,rfl,st.trans st',rz⟩
  ·exact n0 ht
end
end Mine
end
section
set_option tactic.hygienic false
namespace Mine
open PySem PySem.W PySem.Spec PySem.Calls PyProof.Rows PyProof.V PySem.Builtin PySem.Builtin.Str

section
variable {prog:Program}{w:World}{A:Around}{E:Value→Shared→Prop}{s:Shared}{x y:PySem.Str}{t u:Tok}{Q:Value→Shared→Prop}
theorem split_new (hy:(y.length==0)=false)(h:∀(l:List (PySem.Str × Tok)) k,l.map (·.1)=Txt.split x y→Q (.ref s.heap.objs.size) { s with heap:=s.heap.push { cls:=.type "list",data:=.seq (strValues l).toArray },toks:=k })(hx:x.length≤1000):
  wpAny (model prog w) A (call (.builtin "str.split") [.str x t,.str y u]) Q E s:=by
 have hz:x.length+2≤sizeLine:=Nat.le_trans (Nat.add_le_add_right hx 2) (by rw[sizeLine_eq];decide)
 have hn:(partsBetween x (occurrences x y 0 x.length (x.length+1)) y.length).length≤sizeLine:=by
  have:=StrLaws.occ_length_le x y 0 x.length (x.length+1)
  rw[length_partsBetween]
  exact Nat.le_trans (Nat.succ_le_succ this) hz
 cases h1:(decide (x.length<y.length)||decide (strKind x<strKind y))with
 |true=>exact call_meets F.slot_str_split (typeIs_str _ _ _) F.entry_str_split (F.args_str_split_2 _ _) (meets_str_split_cannot_occur x y t u h1) (h [(x,t)] s.toks (if_pos h1).symm)
 |false =>
  have h1':=ne_true_of_eq_false h1
  cases hf:(occurrences x y 0 x.length (x.length+1)).isEmpty with
  |true=>exact call_meets F.slot_str_split (typeIs_str _ _ _) F.entry_str_split (F.args_str_split_2 _ _) (meets_str_split_not_found x y t u h1 hy hf) (h [(x,t)] s.toks ((if_neg h1').trans (if_pos hf)).symm)
  |false =>
   refine call_meets F.slot_str_split (typeIs_str _ _ _) F.entry_str_split (F.args_str_split_2 _ _) (meets_str_split_sep x y t u h1 hy hf (by omega) hn) ?_
   have:=h (numbered s.toks _) (s.toks+(partsBetween x (occurrences x y 0 x.length (x.length+1)) y.length).length) ((numbered_texts _ _).trans ((if_neg h1').trans (if_neg (ne_true_of_eq_false hf))).symm)
   show wants Q E _ { s with toks:=_,heap:=s.heap.push { cls:=.type "list",data:=.seq (strsFrom s.toks (partsBetween x (occurrences x y 0 x.length (x.length+1)) y.length)).toArray } }
   rw[strsFrom_eq]
   exact this
end
section
variable {c:Cx}{n m:Nat}{A:Around}{f:FrI}{fs:List FrI}{s:Shared}{μ:Addr→Prop}{ρ:List (Addr × Addr)}{σ:List Cell}{nm:List PySem.Str}{sc:Scope}{fr:List (Option V)}{e:Expr}{r:R V}
theorem reps_strs {h:Heap}:∀l:List (PySem.Str × Tok),VReps c h μ ρ ((l.map (·.1)).map fun x=>.str x.cps.toList) (strValues l)
 | []=>.nil
 |(x,t)::l=>.cons (by have:=VRep.str (c:=c) (h:=h) (μ:=μ) (ρ:=ρ) x.cps.toList t;rwa [sS_toList]at this) (reps_strs l)
theorem CellsAt.set {h:Heap}{ρ₀:List (Addr × Addr)}:∀{ρ:List (Addr × Addr)} {σ:List Cell} {i:Nat} {p:Addr × Addr} {q:Cell},CellsAt c h μ ρ₀ ρ σ→ρ[i]?=some p→CellAt c h μ ρ₀ p q→CellsAt c h μ ρ₀ ρ (σ.set i q)
 |_,_,_,_,_,.nil,e,_=>by simp at e
 |_,_,0,_,_,.cons a b,e,x=>by cases e;exact .cons x b
 |_,_,i+1,_,_,.cons a b,e,x=>.cons a (b.set (by simpa using e) x)
theorem CellsAt.but {h h':Heap}{ρ₀:List (Addr × Addr)}{d:Addr}(k:∀a o,a≠d→h.get? a=some o→h'.get? a=some o)(hm:μ d)(hcl:∀o,h.get? d=some o→o.cls≠.type "traceback"):
  ∀{ρ:List (Addr × Addr)} {σ:List Cell} {i:Nat} {p:Addr × Addr} {q:Cell},CellsAt c h μ ρ₀ ρ σ→(ρ.map (·.2)).Nodup→ρ[i]?=some p→p.2=d→CellAt c h' μ ρ₀ p q→CellsAt c h' μ ρ₀ ρ (σ.set i q)
 |_,_,_,_,_,.nil,_,e,_,_=>by simp at e
 |p'::ρ,_,0,_,_,.cons a b,hn,e,hd,x=>by
  obtain rfl:=oi e
  rw[List.map_cons,List.nodup_cons]at hn
  exact .cons x (b.step (grow_but k hm) (List.prefix_refl _) (fun p' hp o e=>k _ _ (fun q=>hn.1 (by rw[hd,←q];exact List.mem_map_of_mem hp)) e) (fun _ _ m=>m) (IsTb.but k hcl))
 |p'::ρ,_,i+1,_,_,.cons a b,hn,e,hd,x=>by
  rw[List.map_cons,List.nodup_cons]at hn
  refine .cons (a.step (grow_but k hm) (List.prefix_refl _) (fun o e'=>k _ _ (fun q=>hn.1 ?_) e') (fun m=>m) (IsTb.but k hcl)) (b.but k hm hcl hn.2 (by simpa using e) hd x)
  rw[q,←hd]
  exact List.mem_map_of_mem (List.mem_of_getElem? (by simpa using e))
theorem St.set (I:Inv c (f::fs) μ ρ σ s.heap){h':Heap}{i:Nat}{p:Addr × Addr}(hp:ρ[i]?=some p)(hs:Heap.SameBut p.2 s.heap h')(hm:μ p.2){q:Cell}(ca:CellAt c h' μ ρ p q){tk:Nat}:St c (f::fs) s μ ρ (σ.set i q) { s with heap:=h',toks:=tk } μ ρ:=by
 have k:∀a o,a≠p.2→s.heap.get? a=some o→h'.get? a=some o:=fun a o n e=>(hs.2 a n).trans e
 obtain⟨n1,n2,n3,n4,n5,n6⟩:=I.nd
 have hpm:=List.mem_of_getElem? hp
 refine⟨I.upd k hm (Nat.le_of_eq hs.1.symm) (fun f' hf=>?_) (I.cells.but k hm (I.cells.cls _ hpm) n2 hp rfl ca) I.nodup fun q' hq'=>⟨(I.tabs q' hq').1,(I.tabs q' hq').2.step (grow_but k hm) fun o z=>k _ _ (fun e=>n6 p hpm q' hq' e.symm) z⟩,grow_but k hm,List.prefix_refl _,rfl,rfl⟩
 obtain⟨a,b,d,e,m,l⟩:=I.frames f' hf
 exact⟨a,b,d,Ns.but k e (n4 f' hf p hpm),m,l⟩
theorem low_eq (l:CS):(low l)=l.map lo1:=by
 unfold low
 congr 1
 funext x
 unfold lo1
 by_cases h:65≤x∧x≤90
 ·simp[h]
 ·rw[if_neg h,if_neg (by simpa using h)]
theorem wp_hide {M:Model}{A:Around}{α:Type}{m:Sem α}{Q:α→Shared→Prop}{E:Value→Shared→Prop}{s:Shared}(h:∀Q':α→Shared→Prop,(∀a s,Q a s→Q' a s)→wpAny M A m Q' E s):wpAny M A m Q E s:=h Q fun _ _ z=>z
inductive MF (T:Tabs)(s:List Cell)(v:V)(g:Nat)(g':V)(b:Bool):Prop
 |fld (i C:Nat)(fs:List (Nat × V))(hv:v=.ref i)(hc:s[i]?=some (.inst C fs))(hg:fget g fs=some g')(h10:g≤10)(h0:C≠0)(hb:b=false)
 |mth (i C:Nat)(fs:List (Nat × V))(k:Nat)(hv:v=.ref i)(hc:s[i]?=some (.inst C fs))(hg:fget g fs=none)(h40:g<40)(hb:b=true)(hk:T.mth C g=some k)(hk':g'=.base k)
inductive MB (s:List Cell)(v:V)(g:Nat):Prop
 |split (l:CS)(hv:v=.str l)(hg:g=37)
 |lower (l:CS)(hv:v=.str l)(hg:g=38)
 |lst (i:Nat)(l:List V)(hv:v=.ref i)(hc:s[i]?=some (.list l))(hg:g=39)
theorem methF_str {T:Tabs}{s:List Cell}{l:CS}{g:Nat}{q:Option (V × Bool)}(h:methF T s (.str l) g=some q):q=none∧(g=37∨g=38):=by
 replace h:(if g=37∨g=38 then some none else none)=some q:=h
 by_cases e:g=37∨g=38
 ·rw[if_pos e]at h;exact⟨(oi h).symm,e⟩
 ·rw[if_neg e]at h;exact Mine.n0 h
theorem methF_list {T:Tabs}{s:List Cell}{i:Nat}{l:List V}{g:Nat}{q:Option (V × Bool)}(hc:s[i]?=some (.list l))(h:methF T s (.ref i) g=some q):q=none∧g=39:=by
 replace h:(match s[i]? with
  |some (.list _)=>if g=39 then some none else none
  |some (.inst C fs)=>match fget g fs with
   |some v=>if g≤10∧C≠0 then some (some (v,false))else none
   |none=>if g<40 then(T.mth C g).map fun g=>some (.base g,true)else none
  |_=>none)=some q:=h
 rw[hc]at h
 replace h:(if g=39 then some none else none)=some q:=h
 by_cases e:g=39
 ·rw[if_pos e]at h;exact⟨(oi h).symm,e⟩
 ·rw[if_neg e]at h;exact Mine.n0 h
theorem methF_inst {T:Tabs}{s:List Cell}{i C:Nat}{fs:List (Nat × V)}{g:Nat}{q:Option (V × Bool)}(hc:s[i]?=some (.inst C fs))(h:methF T s (.ref i) g=some q):∃g' b,q=some (g',b)∧MF T s (.ref i) g g' b:=by
 replace h:(match s[i]? with
  |some (.list _)=>if g=39 then some none else none
  |some (.inst C fs)=>match fget g fs with
   |some v=>if g≤10∧C≠0 then some (some (v,false))else none
   |none=>if g<40 then(T.mth C g).map fun g=>some (.base g,true)else none
  |_=>none)=some q:=h
 rw[hc]at h
 replace h:(match fget g fs with
   |some v=>if g≤10∧C≠0 then some (some (v,false))else none
   |none=>if g<40 then(T.mth C g).map fun g=>some (.base g,true)else none)=some q:=h
 cases hg:fget g fs with
 |some w =>
  rw[hg]at h
  replace h:(if g≤10∧C≠0 then some (some (w,false))else none)=some q:=h
  by_cases e:g≤10∧C≠0
  ·rw[if_pos e]at h;exact⟨w,false,(oi h).symm,.fld i C fs rfl hc hg e.1 e.2 rfl⟩
  ·rw[if_neg e]at h;exact Mine.n0 h
 |none =>
  rw[hg]at h
  replace h:(if g<40 then(T.mth C g).map fun g=>some (V.base g,true)else none)=some q:=h
  by_cases e:g<40
  ·rw[if_pos e]at h
   obtain⟨k,hk,hq⟩:=mI h
   exact⟨.base k,true,hq.symm,.mth i C fs k rfl hc hg e rfl hk rfl⟩
  ·rw[if_neg e]at h;exact Mine.n0 h
theorem methF_ref {T:Tabs}{s:List Cell}{i g:Nat}{q:Option (V × Bool)}(h:methF T s (.ref i) g=some q):(∃l,s[i]?=some (.list l))∨∃C fs,s[i]?=some (.inst C fs):=by
 replace h:(match s[i]? with
  |some (.list _)=>if g=39 then some none else none
  |some (.inst C fs)=>match fget g fs with
   |some v=>if g≤10∧C≠0 then some (some (v,false))else none
   |none=>if g<40 then(T.mth C g).map fun g=>some (.base g,true)else none
  |_=>none)=some q:=h
 generalize s[i]?=z at h ⊢
 match z,h with
 |some (.list l),_=>exact .inl ⟨l,rfl⟩
 |some (.inst C fs),_=>exact .inr ⟨C,fs,rfl⟩
theorem methF_some {T:Tabs}{s:List Cell}{v:V}{g:Nat}{g':V}{b:Bool}(h:methF T s v g=some (some (g',b))):MF T s v g g' b:=by
 induction v using V.casesOn with
 |str l=>exact absurd (methF_str h).1 (by simp)
 |ref i =>
  rcases methF_ref h with⟨l,hc⟩| ⟨C,fs,hc⟩
  ·exact absurd (methF_list hc h).1 (by simp)
  ·obtain⟨_,_,e,m⟩:=methF_inst hc h
   cases e
   exact m
 |_=>exact Mine.n0 h
theorem methF_none {T:Tabs}{s:List Cell}{v:V}{g:Nat}(h:methF T s v g=some none):MB s v g:=by
 induction v using V.casesOn with
 |str l=>exact(methF_str h).2.elim (.split l rfl) (.lower l rfl)
 |ref i =>
  rcases methF_ref h with⟨l,hc⟩| ⟨C,fs,hc⟩
  ·exact .lst i l rfl hc (methF_list hc h).2
  ·obtain⟨_,_,e,_⟩:=methF_inst hc h
   cases e
 |_=>exact Mine.n0 h
theorem methV_split {l:CS}{as:List V}{s:List Cell}{r:R V}(h:methV (.str l) 37 as s=some r):∃ch,as=[.str [ch]]∧l.length≤1000∧r=.ok (.lst ((Txt.split ⟨l.toArray⟩ ⟨#[ch]⟩).map fun x=>.str x.cps.toList)) s:=by
 match as,h with
 | [.str [c]],h =>
  replace h:(if sml l.length then some (R.ok (V.lst ((Txt.split ⟨l.toArray⟩ ⟨#[c]⟩).map fun x=>.str x.cps.toList)) s)else none)=some r:=h
  by_cases e:sml l.length=true
  ·rw[if_pos e]at h;exact⟨c,rfl,sml_le e,(oi h).symm⟩
  ·rw[if_neg e]at h;exact Mine.n0 h
theorem methV_lower {l:CS}{as:List V}{s:List Cell}{r:R V}(h:methV (.str l) 38 as s=some r):as=[]∧l.length≤1000∧(∀c∈l,c<128)∧r=.ok (.str (low l)) s:=by
 match as,h with
 | [],h =>
  replace h:(if sml l.length&&l.all (fun c=>decide (c<128))then some (R.ok (V.str (low l)) s)else none)=some r:=h
  by_cases e:(sml l.length&&l.all (fun c=>decide (c<128)))=true
  ·rw[if_pos e]at h
   rw[Bool.and_eq_true,List.all_eq_true]at e
   exact⟨rfl,sml_le e.1,fun c hc=>of_decide_eq_true (e.2 c hc),(oi h).symm⟩
  ·rw[if_neg e]at h;exact Mine.n0 h
theorem methV_app {i:Nat}{as:List V}{s:List Cell}{r:R V}(h:methV (.ref i) 39 as s=some r):∃l v,as=[v]∧s[i]?=some (.list l)∧l.length≤1000∧r=.ok .none (s.set i (.list (l++[v]))):=by
 have hz:∃l,s[i]?=some (.list l):=by
  replace h:(match s[i]? with | some (.list l)=>_ | _=>none)=some r:=h
  generalize s[i]?=z at h ⊢
  match z,h with
  |some (.list l),_=>exact⟨l,rfl⟩
 obtain⟨l,hz⟩:=hz
 induction as using List.casesOn with
 |nil=>replace h:(match s[i]? with | some (.list l)=>none | _=>none)=some r:=h;rw[hz]at h;exact Mine.n0 h
 |cons v t =>
  induction t using List.casesOn with
  |cons=>replace h:(match s[i]? with | some (.list l)=>none | _=>none)=some r:=h;rw[hz]at h;exact Mine.n0 h
  |nil =>
   replace h:(match s[i]? with | some (.list l)=>if sml l.length then some (R.ok V.none (s.set i (.list (l++[v]))))else none | _=>none)=some r:=h
   rw[hz]at h
   replace h:(if sml l.length then some (R.ok V.none (s.set i (.list (l++[v]))))else none)=some r:=h
   by_cases e:sml l.length=true
   ·rw[if_pos e]at h;exact⟨l,v,rfl,hz,sml_le e,(oi h).symm⟩
   ·rw[if_neg e]at h;exact Mine.n0 h
noncomputable def NextM (c:Cx)(A:Around)(f:FrI)(fs:List FrI)(s:Shared)(μ:Addr→Prop)(ρ:List (Addr × Addr))(r:R V)(p:Pos)(es:List Expr)(Q:Value × List Value→Shared→Prop):Prop :=
 ∀{fv:Value} {first:List Value} {s₁:Shared},wpAny (model c.prog c.w) A (callWith p fv first (backTo p (starEach es f.env)) []) (PX c (f::fs) s μ ρ r) (EX c (f::fs) s μ ρ r) s₁→Q (fv,first) s₁
section
variable {s₁:Shared}{μ₁:Addr→Prop}{ρ₁:List (Addr × Addr)}{σ₁:List Cell}{g:Nat}{x:Value}{as:List X}{es:List Expr}{p:Pos}{pl:Sem Bool}{Q:Value × List Value→Shared→Prop}{E:Value→Shared→Prop}
set_option tactic.hygienic true in theorem meth_user {v g':V}{b:Bool}(P3:Prog3 c)(HS:SXs c n)(HC:SCall c n)(G₁:Go c n A f fs s₁ μ₁ ρ₁ σ₁ nm sc fr)(st:St c (f::fs) s μ ρ σ₁ s₁ μ₁ ρ₁)(rep:VRep c s₁.heap μ₁ ρ₁ v x)(hf:MF c.T σ₁ v g g' b)(h2:trXs c nm sc m as=some es)
  (hk:bnd (exXs c.T n as fr σ₁) (fun as s=>callV c.T n g' (if b then v::as else as) s)=some r) (next:NextM c A f fs s μ ρ r p es Q):wpAny (model c.prog c.w) A (getMethod x (c.an g) pl) Q E s₁:=by
 cases hf with
 |fld i C fs' hv hcell hg h10 hC0 hb =>
  subst hv hb
  obtain⟨_,_,rfl,hi⟩:=rep.ref_;clear rep
  obtain⟨pp,hpp,ca⟩:=G₁.inv.cells.get hcell
  obtain rfl:=oi (hi.symm.trans hpp)
  obtain⟨_,_,_,z,ha,e1,n1,e2,mm,frep⟩:=ca.inst_;clear ca
  rename_i C' es' nn
  have IA:InstAt s₁.heap _ _ C' (some (dictOf es' nn)):=⟨e1,rfl,rfl,e2⟩
  obtain⟨q1,q2,q3,rr,q4,q5⟩:=P3.fld C _ g z hC0 ha h10
  refine method_usual G₁.K IA q2 q3 q4 q5 ?_
  refine G₁.field (v:=.ref i) (w:=g') (σ:=σ₁) h10 (.ref hi) (by simp[attrV,hcell,hg,hC0]) fun y ry=>next (first:=[]) ?_
  have st':St c (f::fs) s₁ μ₁ ρ₁ σ₁ { s₁ with toks:=s₁.toks+1 } μ₁ ρ₁:=.toks G₁.inv
  refine(G₁.next st').callWith HS h2 hk (P:=KeepP c g' y) (fun h p=>KeepP.keeps P3 ry h p) (fun _ _ h=>h.st (st.trans st')) fun vs σ₂ ys s₂ μ₂ ρ₂ hc' G₃ st2 rv=>?_
  have rep2:=st2.up (s:={ s₁ with toks:=s₁.toks+1 }) ry
  exact⟨KeepP.of G₃ rep2 hc',wpAny_mono (HC hc' G₃.bs G₃.inv G₃.ok G₃.d G₃.u rep2 rv) (fun _ _ h=>h.st ((st.trans st').trans st2)) fun _ _ h=>h.st ((st.trans st').trans st2)⟩
 |mth i C fs' k hv hcell hg h40 hb hk1 hk' =>
  subst hv hb hk'
  obtain⟨_,_,rfl,hi⟩:=rep.ref_;clear rep
  obtain⟨pp,hpp,ca⟩:=G₁.inv.cells.get hcell
  obtain rfl:=oi (hi.symm.trans hpp)
  obtain⟨_,_,_,z,ha,e1,n1,e2,mm,frep⟩:=ca.inst_;clear ca
  rename_i C' es' nn
  have IA:InstAt s₁.heap _ _ C' (some (dictOf es' nn)):=⟨e1,rfl,rfl,e2⟩
  obtain⟨a,q1,q2,q3,q4⟩:=P3.meth C _ g k z hk1 ha
  refine method_inst G₁.Fr G₁.bs.XK IA q2 q3 q4 (frep.getNone P3.toProg h40 hg) (next (first:=[.ref _]) ?_)
  have rf:VRep c s₁.heap μ₁ ρ₁ (.base k) (.ref a):=.base q1
  refine G₁.callWith HS h2 hk (P:=KeepP c (.base k) (.ref a)) (fun h p=>KeepP.keeps P3 rf h p) (fun _ _ h=>h.st st) fun vs σ₂ ys s₂ μ₂ ρ₂ hc' G₃ st2 rv=>?_
  exact⟨KeepP.of G₃ (st2.up rf) hc',wpAny_mono (HC hc' G₃.bs G₃.inv G₃.ok G₃.d G₃.u (st2.up rf) (.cons (st2.up (.ref hi)) rv)) (fun _ _ h=>h.st (st.trans st2)) fun _ _ h=>h.st (st.trans st2)⟩
theorem keeps_bi {id:String}:∀h,True→∃k,(k=Keeper.frame∨k=Keeper.machine∨k=Keeper.boundFrame)∧Looks (model c.prog c.w) h (keeperOf (.builtin id)) k:=fun _ _=>keeps_pure (.inl ⟨id,rfl⟩)
set_option tactic.hygienic true in theorem meth_bi {v:V}(P3:Prog3 c)(HS:SXs c n)(G₁:Go c n A f fs s₁ μ₁ ρ₁ σ₁ nm sc fr)(st:St c (f::fs) s μ ρ σ₁ s₁ μ₁ ρ₁)(rep:VRep c s₁.heap μ₁ ρ₁ v x)(hf:MB σ₁ v g)(h2:trXs c nm sc m as=some es)
  (hk:bnd (exXs c.T n as fr σ₁) (fun as s=>methV v g as s)=some r) (next:NextM c A f fs s μ ρ r p es Q):wpAny (model c.prog c.w) A (getMethod x (c.an g) pl) Q E s₁:=by
 cases hf with
 |split l hv hg =>
  subst hv hg
  obtain⟨tk0,rfl⟩:=rep.str_;clear rep
  rw[P3.an37]
  refine GM.split (next (first:=[.str (sS l) tk0]) ?_)
  refine G₁.callWith HS h2 hk keeps_bi (fun _ _ h=>h.st st) fun vs σ₂ ys s₂ μ₂ ρ₂ hc' G₃ st2 rv=>⟨trivial,?_⟩
  obtain⟨ch,rfl,hsz,hr⟩:=methV_split hc'
  obtain⟨_,_,rfl,ra,rest⟩:=rv.cons_;clear rv
  cases rest
  obtain⟨tk1,rfl⟩:=ra.str_;clear ra
  refine split_new (x:=sS l) (y:=sS [ch]) (by simp[sS,PySem.Str.length]) (fun ll tk hl=>?_) (by rw[sS_len];exact hsz)
  have hv:=reps_strs (c:=c) (h:=s₂.heap) (μ:=μ₂) (ρ:=ρ₂) ll
  rw[hl]at hv
  exact⟨_,_,_,_,hr,(st.trans st2).trans (St.push G₃.inv _ (tk:=tk)),rep_lst (tk:=0) G₃.inv (by simpa [sS] using hv)⟩
 |lower l hv hg =>
  subst hv hg
  obtain⟨tk0,rfl⟩:=rep.str_;clear rep
  rw[P3.an38]
  refine GM.lower (next (first:=[.str (sS l) tk0]) ?_)
  refine G₁.callWith HS h2 hk keeps_bi (fun _ _ h=>h.st st) fun vs σ₂ ys s₂ μ₂ ρ₂ hc' G₃ st2 rv=>⟨trivial,?_⟩
  obtain⟨rfl,hsz,ha,hr⟩:=methV_lower hc'
  cases rv
  refine SCL.lower (by rw[sS_len];exact Nat.le_trans hsz (by decide)) fun _=>?_
  rw[lower_ascii (by intro ch hch;exact ha ch (by simpa [sS] using hch)),show(⟨(sS l).cps.map lo1⟩:PySem.Str)=sS (low l)by rw[low_eq];simp[sS]]
  exact⟨_,_,_,_,hr,(st.trans st2).trans (.toks G₃.inv),.str _ _⟩
 |lst i l hv hcell hg =>
  subst hv hg
  obtain⟨_,_,rfl,hi⟩:=rep.ref_;clear rep
  obtain⟨pp,hpp,ca⟩:=G₁.inv.cells.get hcell
  obtain rfl:=oi (hi.symm.trans hpp)
  rw[P3.an39]
  obtain⟨xs0,n0,ho⟩:∃xs n,s₁.heap.get? _=some (listOf xs n):=by cases ca with | list e m v=>exact⟨_,_,e⟩
  refine Calls.getMethod_list_append ho rfl rfl (next (first:=[.ref _]) ?_)
  clear ho ca hpp
  refine G₁.callWith HS h2 hk keeps_bi (fun _ _ h=>h.st st) fun vs σ₂ ys s₂ μ₂ ρ₂ hc' G₃ st2 rv=>⟨trivial,?_⟩
  obtain⟨l2,w,rfl,hcell2,hsz,hr⟩:=methV_app hc'
  obtain⟨_,_,rfl,ra,rest⟩:=rv.cons_;clear rv
  cases rest
  obtain⟨pp2,hpp2,ca2⟩:=G₃.inv.cells.get hcell2
  have hi2:=pre_get st2.pre hi
  obtain rfl:=oi (hi2.symm.trans hpp2)
  obtain⟨_,_,rfl,e2,m2,v2⟩:=ca2.list_;clear ca2
  rename_i xs2 n2
  have el:l2.length=xs2.size:=v2.len.trans Array.length_toList
  refine append_at e2 (fun h' hsb hob'=>?_) (szE el hsz)
  have hkk:Grow s₂.heap μ₂ h' μ₂:=grow_but (fun a o nn e=>(hsb.2 a nn).trans e) m2
  exact⟨_,_,_,_,hr,(st.trans st2).trans (St.set G₃.inv hi2 hsb m2 (.list (xs:=Array.push _ _) hob' m2 (by rw[Array.toList_push];exact(v2.mono hkk (List.prefix_refl _)).app (.cons (ra.mono hkk (List.prefix_refl _)) .nil))) (tk:=s₂.toks)),.none⟩
end
theorem s_meth {o:X}{g:Nat}{pa:Pos}{as:List X}{p:Pos}(P3:Prog3 c)(H:SX c n)(HS:SXs c n)(HC:SCall c n)(G:Go c (n+1) A f fs s μ ρ σ nm sc fr)(ht:trX c nm sc m (.meth o g pa as p)=some e)(hr:exX c.T (n+1) (.meth o g pa as p) fr σ=some r):wpAny (model c.prog c.w) A (eval e f.env) (PX c (f::fs) s μ ρ r) (EX c (f::fs) s μ ρ r) s:=by
 induction m using Nat.casesAuxOn with
 |zero=>exact Mine.n0 ht
 |succ m =>
  obtain⟨oe,h1,hz_⟩:=bI ht;clear ht;rename _=>ht
  obtain⟨es,h2,hz_⟩:=bI ht;clear ht;rename _=>ht
  split at ht
  ·rename_i hc
   obtain rfl:=oi ht
   simp only[Bool.and_eq_true,beq_iff_eq,decide_eq_true_eq]at hc
   obtain⟨⟨hns,hpos⟩,hlen⟩:=hc
   have hform:methodCallForm (es.length+0) (backTo p (starEach es f.env)) []=true:=by
    have:=plain_args (env:=f.env) (pos:=p) h2
    have h3:(backTo p (starEach es f.env)).all (!·.1)=true:=by
     rw[List.any_eq_false]at this
     exact List.all_eq_true.mpr fun x hx=>by simpa using this x hx
    simp[methodCallForm,h3,hlen]
   have hp2:methodCallPos true oe f.env pa p=pure p:=by simp[methodCallPos,hpos]
   show wpAny (model c.prog c.w) A (do
    let ov ←attributeBase oe (c.an g) f.env (eval oe f.env)
    standAt pa.atName
    methodCall oe (c.an g) pa p f.env ov (es.length+0) (backTo p (starEach es f.env)) []) _ _ s
   rw[wp_base (M:=model c.prog c.w) hns]
   refine wpAny_bind (H.run (G.less (Nat.le_succ n)) h1 hr (fun v σ₁ x s₁ μ₁ ρ₁ hk G₁ st rep=>?_) fun _ _ h=>h)
   refine wpAny_bind (wpAny_standAt ?_)
   unfold methodCall
   rw[hform,hp2]
   refine wpAny_bind (wpAny_holding ?_)
   show wpAny _ A (getMethod x (c.an g) _) _ _ s₁
   refine wp_hide fun Q_ hQ_=>?_
   have next:NextM c A f fs s μ ρ r p es Q_:=fun h=>hQ_ _ _ (wpAny_bind (wpAny_pure h))
   clear hQ_
   cases hf:methF c.T σ₁ v g with
   |none=>rw[hf]at hk;exact Mine.n0 hk
   |some q =>
    rw[hf]at hk
    induction q using Option.casesOn with
    |none=>exact meth_bi P3 HS G₁ st rep (methF_none hf) h2 hk next
    |some q=>exact meth_user P3 HS HC G₁ st rep (methF_some hf) h2 hk next
  ·exact Mine.n0 ht
end
end Mine
end
section
namespace Mine
open PySem PySem.W PySem.Spec PySem.Calls PyProof.Rows PyProof.V
set_option tactic.hygienic false

noncomputable abbrev lcT (L:LcI):Expr:=.Compare (.Name L.z L.p6) [.Is] [.Constant .none 0 L.p7] L.p8
noncomputable abbrev lcX (L:LcI)(x:Str)(p:Pos):Expr:=.ListComp (.Name L.z L.p1) [⟨.Name L.y L.p2,.Name x L.p3,[],0⟩,⟨.Name L.z L.p4,.Name L.y L.p5,[lcT L],0⟩] L.sc p
theorem turn_in (L:LcI)(x:Str)(p:Pos)(it acc:Value)(env:Env):compTurn (lcX L x p) 1 it acc env=(do
   standAt L.p5
   match ←pyNext it with
   |none=>pure (.done .next)
   |some v =>
    letOwnedTupleGo (.Name L.z L.p4) it v
    assign (.Name L.z L.p4) env v
    let mut ok:=true
    for c in [lcT L] do
     if ok then ok ←isTrue c env (eval c env)
    if ok then
     (do let _ ←call (.builtin "list.append") [acc,←eval (.Name L.z L.p1) env])
    again (.compLoop (lcX L x p) 1 it acc env)):=by rfl
theorem turn_out (L:LcI)(x:Str)(p:Pos)(it acc:Value)(env:Env):compTurn (lcX L x p) 0 it acc env=(do
   standAt L.p3
   match ←pyNext it with
   |none=>pure (.done .next)
   |some v =>
    letOwnedTupleGo (.Name L.y L.p2) it v
    assign (.Name L.y L.p2) env v
    let x' ←eval (.Name L.y L.p5) env
    standAt L.p5
    let x' ←foldedSetIterable (.Name L.y L.p5) env x'
    let _ ←runOwn (.compStart (lcX L x p) 1 (←holding [x'] (pyIter x')) acc env) env
    again (.compLoop (lcX L x p) 0 it acc env)):=by rfl
noncomputable def LD (h:Heap)(D:Addr)(l:List Value):Prop:=∃n,h.get? D=some (listOf l.toArray n)
theorem LD.at {h h':Heap}{D:Addr}{l:List Value}(x:LD h D l)(k:∀o,h.get? D=some o→h'.get? D=some o):LD h' D l:=x.imp fun _ e=>k _ e
noncomputable def isNon:Value→Bool
 | .none=>true
 |_=>false
inductive NN (v:Value):Prop
 |y (h:isNon v=true)
 |n (h1:v=.none→False)(h2:isNon v=false)(h3:plainIs v .none=true)
noncomputable def Kp3 (C I D:Addr)(h h':Heap):Prop:=∀b o,b≠C→b≠I→b≠D→h.get? b=some o→h'.get? b=some o
inductive Ends (h:Heap)(C I D:Addr)(l:List Value)(h':Heap):Prop
 |mk (m':Str→Option Value)(hn:h'.Ns C m')(hd:LD h' D l)(hk:Kp3 C I D h h')
inductive LIn (s:Shared)(items:Array Value)(ds:List Value)(I a D C:Addr)(k:Nat)(s':Shared):Prop
 |mk (h':Heap)(tk:Nat)(m':Str→Option Value)(i:Nat)(e:s'={ s with heap:=h',toks:=tk })(hit:h'.IsListIter I a i)(hl:h'.IsList a items)(hd:LD h' D (ds++(items.toList.take i).filter isNon))(hn:h'.Ns C m')(hi:i≤items.size)(hm:k=items.size+1 - i)(hk:Kp3 C I D s.heap h')
theorem lt_m {n i:Nat}(h:i<n):n+1 - (i+1)<n+1 - i:=by rw[Nat.succ_sub_succ];exact Nat.lt_of_lt_of_le (Nat.lt_succ_self _) (Nat.le_of_eq (Nat.succ_sub (Nat.le_of_lt h)).symm)
theorem ne_ {h:Heap}{b:Addr}{o:Obj}(e:h.get? b=some o):b≠h.objs.size:=Nat.ne_of_lt (Heap.lt_size e)
section
variable {prog:Program}{w:World}{A:Around}{R:Result→Shared→Prop}{s:Shared}{L:LcI}{x:Str}{p:Pos}
theorem lc_in {I a D:Addr}{cenv:Env}{items:Array Value}{ds:List Value}{m:Str→Option Value}
  (hh:A.handled=none) (hd:notDebug L.z=true) (hz:cenv.kindOf L.z=some .local) (hk:cenv.scope.kind=.function)
  (hDI:D≠I) (hDC:D≠cenv.locals) (hIC:I≠cenv.locals) (haI:a≠I) (haC:a≠cenv.locals) (haD:a≠D)
  (hit:s.heap.IsListIter I a 0) (hl:s.heap.IsList a items) (hacc:LD s.heap D ds) (hn:s.heap.Ns cenv.locals m) (hsz:ds.length+items.size≤sizeLine)
  (hp:∀v∈items,NN v) (hR:∀h' tk,Ends s.heap cenv.locals I D (ds++items.toList.filter isNon) h'→R (.ok .next) { s with heap:=h',toks:=tk }):
  codeAny (model prog w) A (.compLoop (lcX L x p) 1 (.ref I) (.ref D) cenv) R s:=by
 refine codeAny_loop rfl (LIn s items ds I a D cenv.locals) ?_ (items.size+1) ⟨s.heap,s.toks,m,0,rfl,hit,hl,by rw[List.take_zero,List.filter_nil,List.append_nil];exact hacc,hn,Nat.zero_le _,rfl,fun _ _ _ _ _ e=>e⟩
 intro k s' ⟨H,tk,m',i,e,hit',hl',hacc',hn',hi,hm,hkp⟩
 subst e hm
 show wpAny _ A ((compTurn (lcX L x p) 1 (.ref I) (.ref D) cenv).onRaise (fun x=>do noteFrame x cenv;theTreesLotGoes x)) _ _ _
 refine wpAny_noted ?_
 rw[turn_in]
 refine wpAny_bind (wpAny_standAt (wpAny_bind ?_))
 cases hv:items[i]? with
 |none =>
  refine wpAny_pyNext_list_end hh hit' hl' hv fun h₁ he₁=>wpAny_pure ?_
  rw[List.take_of_length_le (Array.getElem?_eq_none_iff.mp hv)]at hacc'
  exact hR h₁ tk ⟨m',hn'.extBut he₁ (Ne.symm hIC),hacc'.at fun o e=>he₁ _ _ hDI e,fun b o hbC hbI hbD e=>he₁ b o hbI (hkp b o hbC hbI hbD e)⟩
 |some v =>
  obtain⟨hlt,hve⟩:=Array.getElem?_eq_some_iff.mp hv
  refine wpAny_pyNext_list_item hit' hl' hv fun h₁ hit₁ hs₁=>?_
  refine wpAny_bind (wpAny_of_eq (show letOwnedTupleGo (.Name L.z L.p4) (.ref I) v=pure ()from rfl) (wpAny_bind ?_))
  refine wpAny_assign_Name (wpAny_storeName_local hz (hn'.sameBut hs₁ (Ne.symm hIC)) (fun h₂ hn₂ hs₂=>?_) (by rw[hk];rfl))
  have up:∀b o,b≠cenv.locals→b≠I→H.get? b=some o→h₂.get? b=some o:=fun b o hbC hbI e=>hs₂.extBut b o hbC (hs₁.extBut b o hbI e)
  have nm:∀{q:Pos} {Q E:Value→Shared→Prop} {tk':Nat},Q v { s with heap:=h₂,toks:=tk' }→wpAny (model prog w) A (eval (.Name L.z q) cenv) Q E { s with heap:=h₂,toks:=tk' }:=fun h=>wpAny_Name (wpAny_loadName_local hk hz hn₂ (if_pos rfl) h) (not_debug hd).1
  have hit₃:h₂.IsListIter I a (i+1):=hit₁.extBut hs₂.extBut hIC
  have hl₃:h₂.IsList a items:=hl'.at fun o e=>up a o haC haI e
  have hacc₃:=hacc'.at fun o e=>up D o hDC hDI e
  have hkp₃:Kp3 cenv.locals I D s.heap h₂:=fun b o hbC hbI hbD e=>up b o hbC hbI (hkp b o hbC hbI hbD e)
  have hf:=take_succ_filter isNon items.toList i v (by rw[Array.getElem?_toList];exact hv)
  refine wpAny_bind (wpAny_tests_one (wpAny_isTrue_Compare1 (nm (wpAny_Constant_none ?_)) rfl))
  cases hp v (hve▸Array.getElem_mem hlt)with
  |y hp =>
   rw[hp,if_pos rfl]at hf
   have hvn:v=.none:=by cases v<;>first | rfl | exact Bool.noConfusion hp
   rw[hvn]
   refine wpAny_is_self rfl (wpAny_truthy_bool ?_)
   rw[if_pos rfl]
   refine wpAny_bind (wpAny_bind (nm ?_))
   obtain⟨nd,hacc₄⟩:=hacc₃
   refine wpAny_bind (append_at (hsz:=?_) hacc₄ fun h₅ hs₅ hl₅=>wpAny_pure (wpAny_pure ⟨rfl,items.size+1 - (i+1),lt_m hlt,?_⟩))
   ·refine⟨h₅,_,_,i+1,rfl,hit₃.extBut hs₅.extBut (Ne.symm hDI),hl₃.extBut hs₅.extBut haD,⟨nd+1,?_⟩,hn₂.sameBut hs₅ (Ne.symm hDC),hlt,rfl,fun b o hbC hbI hbD e=>hs₅.extBut b o hbD (hkp₃ b o hbC hbI hbD e)⟩
    rw[hf,←List.append_assoc,←List.push_toArray]
    exact hl₅
   ·rw[List.size_toArray,List.length_append]
    exact Nat.le_trans (Nat.add_le_add_left (Nat.le_trans (List.length_filter_le _ _) (List.length_take_le' _ _)) _) hsz
  |n hne hp hpl =>
   rw[hp,if_neg Bool.false_ne_true,List.append_nil]at hf
   refine wpAny_is_other hpl hne (wpAny_truthy_bool ?_)
   rw[if_neg Bool.false_ne_true]
   exact wpAny_pure ⟨rfl,items.size+1 - (i+1),lt_m hlt,h₂,_,_,i+1,rfl,hit₃,hl₃,hf▸hacc₃,hn₂,hlt,rfl,hkp₃⟩
theorem start_in {it acc:Value}{cenv:Env}(h0:codeAny (model prog w) A (.compLoop (lcX L x p) 1 it acc cenv) R s)
  (h:wpAny (model prog w) A (pyIter it) (fun it' s'=>codeAny (model prog w) A (.compLoop (lcX L x p) 1 it' acc cenv) R s') (notedBy (model prog w) A cenv fun x s'=>R (.error x) s') s):
  codeAny (model prog w) A (.compStart (lcX L x p) 1 it acc cenv) R s:=by
 refine codeAny_of_tree ?_
 show wpAny _ _ ((compStart (lcX L x p) 1 it acc cenv).onRaise (fun x=>do noteFrame x cenv;standAt theWindowsPlace)) _ _ s
 refine wpAny_notedAt ?_
 unfold compStart
 show wpAny _ _ (ask >>= _) _ _ s
 refine wpAny_bind (wpAny_askSetting (wpAny_ite ?_))
 split
 ·exact wpAny_bind (wpAny_pure (wpAny_pure (And.intro rfl h0)))
 ·refine wpAny_bind (wpAny_rule ?_)
  show wpAny _ _ (standAt L.p5 >>= _) _ _ s
  exact wpAny_bind (wpAny_standAt (wpAny_bind (wpAny_mono h (fun it' s' h'=>wpAny_pure (And.intro rfl h')) fun _ _ x=>x)))
inductive RowL (h:Heap)(C I D:Addr)(gs:List (List Value))(k:Nat)(v:Value):Prop
 |mk (a:Addr)(its:Array Value)(hv:v=.ref a)(hl:h.IsList a its)(hs:its.size≤1000)(hg:gs[k]?=some (its.toList.filter isNon))(h1:a≠I)(h2:a≠C)(h3:a≠D)(hp:∀v∈its,NN v)
inductive LOut (s:Shared)(xs:Array Value)(gs:List (List Value))(I ax D C:Addr)(k:Nat)(s':Shared):Prop
 |mk (h':Heap)(tk:Nat)(m':Str→Option Value)(i:Nat)(e:s'={ s with heap:=h',toks:=tk })(hit:h'.IsListIter I ax i)(hl:h'.IsList ax xs)(hd:LD h' D (gs.take i).flatten)(hn:h'.Ns C m')(hb:(gs.take i).flatten.length≤1000*i)(hi:i≤xs.size)(hm:k=xs.size+1 - i)(hk:Kp3 C I D s.heap h')
theorem lc_out {I ax D:Addr}{cenv:Env}{xs:Array Value}{gs:List (List Value)}{m:Str→Option Value}
  (hh:A.handled=none) (hdy:notDebug L.y=true) (hdz:notDebug L.z=true) (hy:cenv.kindOf L.y=some .local) (hz:cenv.kindOf L.z=some .local) (hk:cenv.scope.kind=.function)
  (hDI:D≠I) (hDC:D≠cenv.locals) (hIC:I≠cenv.locals) (haI:ax≠I) (haC:ax≠cenv.locals) (haD:ax≠D)
  (hit:s.heap.IsListIter I ax 0) (hl:s.heap.IsList ax xs) (hacc:LD s.heap D []) (hn:s.heap.Ns cenv.locals m) (hxs:xs.size≤1000)
  (rows:∀(k:Nat) v,xs[k]?=some v→RowL s.heap cenv.locals I D gs k v) (hR:∀h' tk,Ends s.heap cenv.locals I D (gs.take xs.size).flatten h'→R (.ok .next) { s with heap:=h',toks:=tk }):
  codeAny (model prog w) A (.compLoop (lcX L x p) 0 (.ref I) (.ref D) cenv) R s:=by
 refine codeAny_loop rfl (LOut s xs gs I ax D cenv.locals) ?_ (xs.size+1) ⟨s.heap,s.toks,m,0,rfl,hit,hl,hacc,hn,Nat.zero_le _,Nat.zero_le _,rfl,fun _ _ _ _ _ e=>e⟩
 intro k s' ⟨H,tk,m',i,e,hit',hl',hacc',hn',hb,hi,hm,hkp⟩
 subst e hm
 show wpAny _ A ((compTurn (lcX L x p) 0 (.ref I) (.ref D) cenv).onRaise (fun x=>do noteFrame x cenv;theTreesLotGoes x)) _ _ _
 refine wpAny_noted ?_
 rw[turn_out]
 refine wpAny_bind (wpAny_standAt (wpAny_bind ?_))
 cases hv:xs[i]? with
 |none =>
  obtain rfl:=Nat.le_antisymm hi (Array.getElem?_eq_none_iff.mp hv)
  refine wpAny_pyNext_list_end hh hit' hl' hv fun h₁ he₁=>wpAny_pure ?_
  exact hR h₁ tk ⟨m',hn'.extBut he₁ (Ne.symm hIC),hacc'.at fun o e=>he₁ _ _ hDI e,fun b o hbC hbI hbD e=>he₁ b o hbI (hkp b o hbC hbI hbD e)⟩
 |some v =>
  have hlt:i<xs.size:=(Array.getElem?_eq_some_iff.mp hv).1
  obtain⟨a,its,rfl,hla,hsa,hg,aI,aC,aD,hp⟩:=rows i v hv
  have hf:(gs.take (i+1)).flatten=(gs.take i).flatten++its.toList.filter isNon:=by rw[List.take_add_one,hg,List.flatten_append];exact congrArg _ (List.append_nil _)
  have hfl:(its.toList.filter isNon).length≤1000:=Nat.le_trans (List.length_filter_le _ _) hsa
  refine wpAny_pyNext_list_item hit' hl' hv fun h₁ hit₁ hs₁=>?_
  refine wpAny_bind (wpAny_of_eq (show letOwnedTupleGo (.Name L.y L.p2) (.ref I) (.ref a)=pure ()from rfl) (wpAny_bind ?_))
  refine wpAny_assign_Name (wpAny_storeName_local hy (hn'.sameBut hs₁ (Ne.symm hIC)) (fun h₂ hn₂ hs₂=>?_) (by rw[hk];rfl))
  have up:∀b o,b≠cenv.locals→b≠I→H.get? b=some o→h₂.get? b=some o:=fun b o hbC hbI e=>hs₂.extBut b o hbC (hs₁.extBut b o hbI e)
  have hla₂:h₂.IsList a its:=hla.at fun o e=>up a o aC aI (hkp a o aC aI aD e)
  refine wpAny_bind (wpAny_Name (wpAny_loadName_local (v:=.ref a) hk hy hn₂ (if_pos rfl) ?_) (not_debug hdy).1)
  refine wpAny_bind (wpAny_standAt (wpAny_bind (wpAny_of_eq (show foldedSetIterable (.Name L.y L.p5) cenv (.ref a)=pure (.ref a)from rfl) ?_)))
  refine wpAny_bind (wpAny_holding (wpAny_pyIter_list hla₂ ?_))
  dsimp only
  generalize hH3:h₂.push { cls:=.type "list_iterator",data:=.fields #[.ref a,.int 0 0] }=h₃
  have k3:∀b o,h₂.get? b=some o→h₃.get? b=some o:=fun b o e=>hH3▸Heap.get?_push_of_some _ e
  have hit3:h₃.IsListIter h₂.objs.size a 0:=⟨_,hH3▸Heap.get?_push_size _ rfl,rfl,rfl⟩
  have hDl:D≠h₂.objs.size:=by obtain⟨_,ho⟩:=hacc';exact ne_ (up D _ hDC hDI ho)
  have hIl:I≠h₂.objs.size:=by obtain⟨o,ho,_⟩:=hit₁;exact ne_ (hs₂.extBut _ _ hIC ho)
  have hal:a≠h₂.objs.size:=by obtain⟨o,ho,_⟩:=hla₂;exact ne_ ho
  have main:∀(tk':Nat) (R:Result→Shared→Prop),(∀h' tk'',Ends h₃ cenv.locals h₂.objs.size D ((gs.take i).flatten++its.toList.filter isNon) h'→R (.ok .next) { s with heap:=h',toks:=tk'' }) →
    codeAny (model prog w) A (.compLoop (lcX L x p) 1 (.ref h₂.objs.size) (.ref D) cenv) R { s with heap:=h₃,toks:=tk' }:=fun tk' R h =>
   lc_in (s:={ s with heap:=h₃,toks:=tk' }) hh hdz hz hk hDl hDC (Ne.symm (Nat.ne_of_lt hn₂.lt)) hal aC aD hit3 (hla₂.at fun o e=>k3 _ _ e) (hacc'.at fun o e=>k3 _ _ (up D o hDC hDI e)) (hn₂.keeps k3) (Nat.le_trans (Nat.add_le_add hb hsa) (Nat.le_trans (Nat.mul_le_mul_left 1000 (Nat.le_trans hlt hxs)) (by rw[sizeLine_eq];decide))) hp h
  unfold runOwn
  refine wpAny_bind (wpAny_onRaise (wpAny_mono (wpAny_run ?_) (fun f s'' h=>h) fun e s'' h=>h))
  show codeAny _ A _ _ _
  refine start_in (main _ _ ?_) (wpAny_pyIter_listiter hit3 (main _ _ ?_))
  all_goals
   intro h' tk'' ⟨m'',hn4,hz4,k4⟩
   refine wpAny_pure ⟨rfl,xs.size+1 - (i+1),lt_m hlt,h',tk'',m'',i+1,rfl,?_,?_,hf▸hz4,hn4,?_,hlt,rfl,fun b o hbC hbI hbD e=>have e2:=up b o hbC hbI (hkp b o hbC hbI hbD e);k4 b o hbC (ne_ e2) hbD (k3 _ _ e2)⟩
   ·obtain⟨oi,ho,hc,hd⟩:=hit₁
    exact⟨oi,k4 _ _ hIC hIl (Ne.symm hDI) (k3 _ _ (hs₂.extBut _ _ hIC ho)),hc,hd⟩
   ·exact hl'.at fun o e=>have e2:=up _ _ haC haI e;k4 _ _ haC (ne_ e2) haD (k3 _ _ e2)
   ·rw[hf,List.length_append]
    exact Nat.le_trans (Nat.add_le_add hb hfl) (Nat.le_of_eq (Nat.mul_succ 1000 i).symm)
end
section
variable {c:Cx}{n m:Nat}{A:Around}{f:FrI}{fs:List FrI}{s:Shared}{μ:Addr→Prop}{ρ:List (Addr × Addr)}{σ:List Cell}{nm:List Str}{sc:Scope}{fr:List (Option V)}{e:Expr}{r:R V}
theorem VReps.nons {h:Heap}{l:List V}{xs:List Value}(H:VReps c h μ ρ l xs):VReps c h μ ρ (l.filter isNone) (xs.filter isNon)∧∀v∈xs,NN v:=by
 refine VReps.ind (P:=fun l xs=>VReps c h μ ρ (l.filter isNone) (xs.filter isNon)∧∀v∈xs,NN v) ⟨.nil,fun _ h=>absurd h List.not_mem_nil⟩ (fun{v x vs xs} a _ ih=>?_) H
 rcases a.isN with⟨rfl,e⟩| ⟨hn,e,hp⟩
 ·refine⟨?_,fun y hy=>(List.mem_cons.mp hy).elim (fun q=>q▸.y rfl) (ih.2 y)⟩
  rw[List.filter_cons_of_pos e,List.filter_cons_of_pos (by rfl)]
  exact .cons a ih.1
 ·have hf:isNon x=false:=by cases x<;>first | rfl | exact(hn rfl).elim
  refine⟨?_,fun y hy=>(List.mem_cons.mp hy).elim (fun q=>q▸.n hn hf hp) (ih.2 y)⟩
  rw[List.filter_cons_of_neg (by rw[e];decide),List.filter_cons_of_neg (by rw[hf];decide)]
  exact ih.1
theorem VReps.join {h:Heap}{l r:List V}{xs ys:List Value}(a:VReps c h μ ρ l xs)(b:VReps c h μ ρ r ys):VReps c h μ ρ (l++r) (xs++ys):=
 VReps.ind (P:=fun l xs=>VReps c h μ ρ (l++r) (xs++ys)) b (fun a _ ih=>.cons a ih) a
inductive RowP (h:Heap)(gs:List (List Value))(k:Nat)(v:Value):Prop
 |mk (a:Addr)(its:Array Value)(hv:v=.ref a)(hl:h.IsList a its)(hs:its.size≤1000)(hg:gs[k]?=some (its.toList.filter isNon))(hp:∀v∈its,NN v)
inductive RowsP (c:Cx)(h:Heap)(μ:Addr→Prop)(ρ:List (Addr × Addr))(xs:List Value)(t:List V):Prop
 |mk (gs:List (List Value))(hr:∀(k:Nat) v,xs[k]?=some v→RowP h gs k v)(hv:VReps c h μ ρ t (gs.take xs.length).flatten)
theorem nones_rows (G:Go c n A f fs s μ ρ σ nm sc fr){l:List V}{xs:List Value}(H:VReps c s.heap μ ρ l xs):∀{t:List V},nonesV σ l=some t→RowsP c s.heap μ ρ xs t:=by
 refine VReps.ind (P:=fun l xs=>∀{t:List V},nonesV σ l=some t→RowsP c s.heap μ ρ xs t) ?_ (fun{v x vs xs} a _ ih=>?_) H
 ·intro t ht
  obtain rfl:=oi ht
  exact⟨[],fun k v h=>n0 (List.getElem?_nil.symm.trans h),.nil⟩
 ·intro t ht
  obtain⟨q,hq,ht⟩:=bI ht
  obtain⟨t',ht',ht⟩:=bI ht
  obtain⟨hb,rfl⟩:=smlI ht
  obtain⟨p,its,k1,rfl,il,vs'⟩:=G.items a hq
  obtain⟨gs,hg,hv⟩:=ih ht'
  obtain⟨w1,w2⟩:=vs'.nons
  refine⟨its.toList.filter isNon::gs,fun k v hk=>?_,?_⟩
  ·induction k using Nat.casesAuxOn with
   |zero=>exact oi hk▸⟨p,its,rfl,il.isList,Nat.le_trans (Nat.le_of_eq vs'.len.symm) hb,rfl,fun v hv=>w2 v (Array.mem_toList_iff.mpr hv)⟩
   |succ k =>
    obtain⟨a,its,e1,e2,e3,e4,e5⟩:=hg k v hk
    exact⟨a,its,e1,e2,e3,e4,e5⟩
  ·rw[List.length_cons,List.take_succ_cons,List.flatten_cons]
   exact w1.join hv
theorem lc_val {i:Nat}{L:LcI}{x:Str}{p:Pos}{t:List V}(G:Go c (n+1) A f fs s μ ρ σ nm sc fr)(hx:trLoc nm sc i=some x)(hn:nonesO fr σ i=some t)(hdy:notDebug L.y=true)(hdz:notDebug L.z=true)(hkd:L.sc.kind=.function)
  (hall:∀q∈L.sc.names,q.2=.local∧L.sc.names.lookup q.1=some .local) (hly:L.sc.names.lookup L.y=some .local) (hlz:L.sc.names.lookup L.z=some .local):
  wpAny (model c.prog c.w) A (eval (lcX L x p) f.env) (PX c (f::fs) s μ ρ (R.ok (V.lst t) σ)) (EX c (f::fs) s μ ρ (R.ok (V.lst t) σ)) s:=by
 obtain⟨v,hv,hw⟩:=bI hn
 obtain⟨l,hl,hw⟩:=bI hw
 obtain⟨hsm,ht⟩:=ifO hw
 have hsm:=sml_le hsm
 have hh:A.handled=none:=G.ok.h
 have l1:trX c nm sc (0+1) (.loc i L.p3)=some (.Name x L.p3):=by show(trLoc nm sc i).map _=_;rw[hx];rfl
 have l2:exX c.T (n+1) (.loc i L.p3) fr σ=some (.ok v σ):=by show lif (fr[i]?.join) σ=_;rw[hv];rfl
 refine wpAny_ListComp (fun q hq=>by rw[(hall q hq).1];decide) hkd (fun q hq _=>(hall q hq).2) (wpAny_mono (s_loc G l1 l2) (fun xv s₁ h=>?_) fun _ _ h=>by obtain⟨_,_,_,_,_,q,_⟩:=h;exact Mine.n0 (α:=Unit) (a:=()) (by cases q)) 
 obtain⟨v',σ',μ₁,ρ₁,e1,st,rep⟩:=h
 obtain⟨rfl,rfl⟩:v=v'∧σ=σ':=by cases e1;exact⟨rfl,rfl⟩
 have G1:=G.next st
 obtain⟨ax,xs,k1,rfl,il,vs⟩:=G1.items rep hl
 obtain⟨gs,hg,hvt⟩:=nones_rows G1 vs ht
 have hlen:xs.size≤1000:=Nat.le_trans (Nat.le_of_eq vs.len.symm) hsm
 have hll:=il.isList
 clear il
 refine wpAny_pyIter_list hll (wpAny_newObj_type (hd:=by size_fits) (wpAny_newFunctionEnv (fun q hq=>by rw[(hall q hq).1];decide) (by intro y hy;simp at hy) (fun h₁ hns₁ hsb₁=>?_) hkd))
 dsimp only at hns₁ hsb₁ ⊢
 have hax:ax<s₁.heap.objs.size:=by obtain⟨ol,hol,_⟩:=hll;exact Heap.lt_size hol
 generalize hH1:s₁.heap.push { cls:=.type "list_iterator",data:=.fields #[.ref ax,.int 0 0] }=H1 at hns₁ hsb₁ ⊢
 have hD:H1.objs.size=s₁.heap.objs.size+1:=by rw[←hH1,Heap.size_push]
 generalize hH2:H1.push { cls:=.type "list",dict:=none,data:=.seq ([]:List Value).toArray }=H2 at hns₁ hsb₁ ⊢
 have hC:H2.objs.size=s₁.heap.objs.size+2:=by rw[←hH2,Heap.size_push,hD]
 have hDI:H1.objs.size≠s₁.heap.objs.size:=by rw[hD];exact Nat.succ_ne_self _
 have hDC:H1.objs.size≠H2.objs.size:=by rw[hD,hC];exact Nat.ne_of_lt (Nat.lt_succ_self _)
 have hIC:s₁.heap.objs.size≠H2.objs.size:=by rw[hC];exact Nat.ne_of_lt (Nat.lt_succ_of_lt (Nat.lt_succ_self _))
 have below:∀{b o},s₁.heap.get? b=some o→b≠H2.objs.size∧b≠s₁.heap.objs.size∧b≠H1.objs.size:=fun{b o} e=>have hb:=Heap.lt_size e
  ⟨by rw[hC];exact Nat.ne_of_lt (Nat.lt_succ_of_lt (Nat.lt_succ_of_lt hb)),Nat.ne_of_lt hb,by rw[hD];exact Nat.ne_of_lt (Nat.lt_succ_of_lt hb)⟩
 have old:∀b o,s₁.heap.get? b=some o→h₁.get? b=some o:=fun b o e =>
  hsb₁.extBut b o (below e).1 (Heap.get?_push_of_some _ (hH2▸Heap.get?_push_of_some _ (hH1▸Heap.get?_push_of_some _ e)))
 have hit:h₁.IsListIter s₁.heap.objs.size ax 0 :=
  ⟨_,hsb₁.extBut _ _ hIC (Heap.get?_push_of_some _ (hH2▸Heap.get?_push_of_some _ (hH1▸Heap.get?_push_size _ rfl))),rfl,rfl⟩
 have hacc:LD h₁ H1.objs.size []:=⟨0,hsb₁.extBut _ _ hDC (Heap.get?_push_of_some _ (hH2▸Heap.get?_push_size _ rfl))⟩
 have loop:∀s₂:Shared,s₂={ s₁ with heap:=h₁,toks:=s₁.toks+([]:List (Str × Value)).length } →
   codeAny (model c.prog c.w) A (.compLoop (lcX L x p) 0 (.ref s₁.heap.objs.size) (.ref H1.objs.size) (compEnv L.sc H2.objs.size f.env))
    (fun r' s'=>∃m,s'.heap.Ns H2.objs.size m∧∀h',Heap.SameBut H2.objs.size s'.heap h' →
     match r' with | .ok _=>PX c (f::fs) s μ ρ (R.ok (V.lst t) σ) (.ref H1.objs.size) { s' with heap:=h' }| .error x=>wpAny (model c.prog c.w) A (passOn "comprehension.variables-let-go" x (compEnv L.sc H2.objs.size f.env)) (PX c (f::fs) s μ ρ (R.ok (V.lst t) σ)) (EX c (f::fs) s μ ρ (R.ok (V.lst t) σ)) { s' with heap:=h' }) s₂:=by
  rintro s₂ rfl
  refine lc_out (cenv:=compEnv L.sc H2.objs.size f.env) (gs:=gs) hh hdy hdz hly hlz hkd hDI hDC hIC (below (hll.choose_spec).1).2.1 (below (hll.choose_spec).1).1 (below (hll.choose_spec).1).2.2 hit (hll.at (old _)) hacc hns₁ hlen (fun k v hk=>?_) fun h' tk ⟨m',hn,hy,hk⟩=>⟨m',hn,fun h'' hs''=>?_⟩
  ·obtain⟨a,its,e1,e2,e3,e4,e5⟩:=hg k v ((Array.getElem?_toList ..).trans hk)
   obtain⟨b1,b2,b3⟩:=below (e2.choose_spec).1
   exact⟨a,its,e1,e2.at (old _),e3,e4,b2,b1,b3,e5⟩
  ·have kk:∀b o,s₁.heap.get? b=some o→h''.get? b=some o:=fun b o e=>hs''.extBut b o (below e).1 (hk b o (below e).1 (below e).2.1 (below e).2.2 (old b o e))
   obtain⟨nD,hy⟩:=hy
   have hyD:=hs''.extBut _ _ hDC hy
   have hlt:=Heap.lt_size hyD
   have stk:St c (f::fs) s₁ μ₁ ρ₁ σ { s₁ with heap:=h'',toks:=tk } μ₁ ρ₁:=.keep G1.inv kk (Nat.le_of_lt (Nat.lt_of_succ_lt (by rw[hD]at hlt;exact hlt)))
   refine⟨.lst t,σ,μ₁,ρ₁,rfl,st.trans stk,.lst hyD (fun z=>Nat.lt_irrefl _ (Nat.lt_of_succ_lt (by have q:=G1.inv.mlt _ z;rw[hD]at q;exact q))) ?_⟩
   exact hvt.mono stk.grow (List.prefix_refl _)
 exact codeAny_compStart_list (loop _ rfl) (wpAny_pyIter_listiter hit (loop _ rfl))
theorem nones_tr {i:Nat}{L:LcI}{p pl pc:Pos}(ht:trX c nm sc (m+1) (.nones i L p pl pc)=some e):∃x,trLoc nm sc i=some x∧e=.Compare (lcX L x p) [.NotEq] [.List [] pl] pc∧notDebug L.y=true∧notDebug L.z=true∧L.sc.kind=.function ∧
  (∀q∈L.sc.names,q.2=.local∧L.sc.names.lookup q.1=some .local)∧L.sc.names.lookup L.y=some .local∧L.sc.names.lookup L.z=some .local:=by
 obtain⟨x,hx,h2⟩:=bI ht
 obtain⟨hc,rfl⟩:=ifI h2
 simp only[Bool.and_eq_true,beq_iff_eq,List.all_eq_true,Bool.not_eq_true',beq_eq_false_iff_ne]at hc
 exact⟨x,hx,rfl,hc.1.1.1.1.1.1,hc.1.1.1.1.1.2,hc.1.1.1.1.2,hc.1.1.1.2,hc.1.1.2,hc.1.2⟩
theorem nones_ex {T:Tabs}{i:Nat}{L:LcI}{p pl pc:Pos}(hr:exX T (n+1) (.nones i L p pl pc) fr σ=some r):∃t,nonesO fr σ i=some t∧bnd (exX T n (.lstF [] pl) fr σ) (fun v s=>lif ((cmpV .NotEq (.lst t) v).map .bool) s)=some r:=by
 replace hr:(match nonesO fr σ i with
   |some t=>bnd (exX T n (.lstF [] pl) fr σ) fun v s=>lif ((cmpV .NotEq (.lst t) v).map .bool) s
   |none=>none)=some r:=hr
 cases q:nonesO fr σ i with
 |none=>rw[q]at hr;exact Mine.n0 hr
 |some t=>rw[q]at hr;exact⟨t,rfl,hr⟩
theorem nones_go {i:Nat}{L:LcI}{p pl pc:Pos}{Q:Value→Shared→Prop}(H:SX c n)(G:Go c (n+1) A f fs s μ ρ σ nm sc fr)(ht:trX c nm sc (m+1) (.nones i L p pl pc)=some e)(hr:exX c.T (n+1) (.nones i L p pl pc) fr σ=some r)
  (hQ:∀b s' σ' μ' ρ',r=.ok (.bool b) σ'→St c (f::fs) s μ ρ σ' s' μ' ρ'→Q (.bool b) s'):
  ∃x,e=.Compare (lcX L x p) [.NotEq] [.List [] pl] pc∧wpAny (model c.prog c.w) A (eval (lcX L x p) f.env) (fun a s₁=>wpAny (model c.prog c.w) A (eval (.List [] pl) f.env) (fun b s₂=>wpAny (model c.prog c.w) A (compareOp .NotEq a b) Q (EX c (f::fs) s μ ρ r) s₂) (EX c (f::fs) s μ ρ r) s₁) (EX c (f::fs) s μ ρ r) s:=by
 obtain⟨x,hx,rfl,q1,q2,q3,q4,q5,q6⟩:=nones_tr ht
 obtain⟨t,hn,hr⟩:=nones_ex hr
 refine⟨x,rfl,wpAny_mono (lc_val G hx hn q1 q2 q3 q4 q5 q6) (fun y s₁ h=>?_) fun _ _ h=>by obtain⟨_,_,_,_,_,q,_⟩:=h;cases q⟩
 obtain⟨v',σ',μ₁,ρ₁,e1,st,rep⟩:=h
 obtain⟨rfl,rfl⟩:.lst t=v'∧σ=σ':=by cases e1;exact⟨rfl,rfl⟩
 refine H.run (m:=2) ((G.next st).less (Nat.le_succ _)) rfl hr (fun w σ₂ y₂ s₂ μ₂ ρ₂ hk G₂ st' rep'=>?_) fun _ _ h=>h.up st fun _ _ z=>z
 obtain⟨z,hz,rfl⟩:=lif_some hk
 obtain⟨b,hb,rfl⟩:=mI hz
 exact G₂.cmp (st'.up rep) rep' hb fun tk=>hQ _ _ _ _ _ rfl (st.trans st').then
theorem s_nones {i:Nat}{L:LcI}{p pl pc:Pos}(H:SX c n)(G:Go c (n+1) A f fs s μ ρ σ nm sc fr)(ht:trX c nm sc m (.nones i L p pl pc)=some e)(hr:exX c.T (n+1) (.nones i L p pl pc) fr σ=some r):wpAny (model c.prog c.w) A (eval e f.env) (PX c (f::fs) s μ ρ r) (EX c (f::fs) s μ ρ r) s:=by
 induction m using Nat.casesAuxOn with
 |zero=>exact Mine.n0 ht
 |succ m =>
  obtain⟨x,rfl,h⟩:=nones_go H G ht hr (Q:=PX c (f::fs) s μ ρ r) fun b s' σ' μ' ρ' e st=>⟨_,_,_,_,e,st,.bool _⟩
  exact wpAny_Compare1 h rfl
theorem t_nones {i:Nat}{L:LcI}{p pl pc:Pos}(H:SX c n)(G:Go c (n+1) A f fs s μ ρ σ nm sc fr)(ht:trX c nm sc m (.nones i L p pl pc)=some e)(hr:exX c.T (n+1) (.nones i L p pl pc) fr σ=some r):wpAny (model c.prog c.w) A (PySem.isTrue e f.env (eval e f.env)) (PT c (f::fs) s μ ρ r) (EX c (f::fs) s μ ρ r) s:=by
 induction m using Nat.casesAuxOn with
 |zero=>exact Mine.n0 ht
 |succ m =>
  obtain⟨x,rfl,h⟩:=nones_go H G ht hr (Q:=fun c' s₃=>wpAny (model c.prog c.w) A (PySem.truthy c') (PT c (f::fs) s μ ρ r) (EX c (f::fs) s μ ρ r) s₃) fun b s' σ' μ' ρ' e st=>wpAny_truthy_bool ⟨_,_,_,_,e,st,rfl⟩
  exact wpAny_isTrue_Compare1 h rfl
end

section
variable {c:Cx}{n m:Nat}{A:Around}{f:FrI}{fs:List FrI}{s:Shared}{μ:Addr→Prop}{ρ:List (Addr × Addr)}{σ:List Cell}{nm:List Str}{sc:Scope}{fr:List (Option V)}{e:Expr}{r:R V}
theorem t_cmp2 {l k y:X}{op op2:CmpOp}{p:Pos}(H:SX c n)(G:Go c (n+1) A f fs s μ ρ σ nm sc fr)(ht:trX c nm sc m (.cmp2 l op k op2 y p)=some e)(hr:exX c.T (n+1) (.cmp2 l op k op2 y p) fr σ=some r):wpAny (model c.prog c.w) A (PySem.isTrue e f.env (eval e f.env)) (PT c (f::fs) s μ ρ r) (EX c (f::fs) s μ ρ r) s:=by
 induction m using Nat.casesAuxOn with
 |zero=>exact Mine.n0 ht
 |succ m =>
  obtain⟨e1,h1,hz_⟩:=bI ht;clear ht;rename _=>ht
  obtain⟨e2,h2,hz_⟩:=bI ht;clear ht;rename _=>ht
  obtain⟨e3,h3,hz_⟩:=bI ht;clear ht;rename _=>ht
  split at ht
  ·exact n0 ht
  ·rename_i hm
   obtain rfl:=oi ht
   refine isTrue_chain (H.run (G.less (Nat.le_succ _)) h1 hr (fun v σ₁ y₁ s₁ μ₁ ρ₁ hk G₁ st rep=>?_) fun _ _ h=>h) (by simpa using hm)
   refine test_link (H.run G₁ h2 hk (fun w σ₂ y₂ s₂ μ₂ ρ₂ hk G₂ st' rep'=>?_) fun _ _ h=>h.up st fun _ _ z=>z)
   split at hk
   ·rename_i hb
    refine G₂.cmp (st'.up rep) rep' hb fun tk=>wpAny_truthy_bool ?_
    rw[if_pos rfl]
    have st2:=(st.trans st').then (tk:=tk)
    have G₃:=G₂.next (.toks G₂.inv (tk:=tk))
    refine test_last (H.run G₃ h3 hk (fun u σ₄ y₄ s₄ μ₄ ρ₄ hk G₄ st4 rep4=>?_) fun _ _ h=>h.up st2 fun _ _ z=>z)
    obtain⟨z,hz,rfl⟩:=lif_some hk
    simp only[Option.map_eq_some_iff]at hz
    obtain⟨b,hb,rfl⟩:=hz
    exact G₄.cmp (st4.up rep') rep4 hb fun tk=>wpAny_truthy_bool ⟨_,_,_,_,rfl,(st2.trans st4).then,rfl⟩
   ·rename_i hb
    obtain rfl:=oi hk
    refine G₂.cmp (st'.up rep) rep' hb fun tk=>wpAny_truthy_bool ?_
    exact⟨_,_,_,_,rfl,(st.trans st').then,rfl⟩
   ·exact n0 hk
end
theorem sx_step {c:Cx}{n:Nat}(P3:Prog3 c)(H:SX c n)(HS:SXs c n)(HT:ST c n)(HB:SBool c n)(HC:SCall c n):SX c (n+1):=by
 intro m nm sc x e ht fr σ r hr A f fs s μ ρ G
 induction x using X.casesOn with
 |none p=>exact s_none G ht hr
 |bool b p=>exact s_bool G ht hr
 |int i p=>exact s_int G ht hr
 |str l p=>exact s_str G ht hr
 |loc i p=>exact s_loc G ht hr
 |glob g p=>exact s_glob G ht hr
 |attr x g p=>exact s_attr H G ht hr
 |call fx as p=>exact s_call P3 H HS HC G ht hr
 |bcall b bp as p=>exact s_bcall HS G ht hr
 |meth o g pa as p=>exact s_meth P3 H HS HC G ht hr
 |bin l op y p=>exact s_bin H G ht hr
 |not x p=>exact s_not H G ht hr
 |neg x p=>exact s_neg H G ht hr
 |and xs p=>exact s_and HB G ht hr
 |or xs p=>exact s_or HB G ht hr
 |ite t a b p=>exact s_ite HT H G ht hr
 |cmp l op y p=>exact s_cmp H G ht hr
 |cmp2 l op k op2 y p=>exact s_cmp2 H G ht hr
 |tup xs k p=>exact s_tup HS G ht hr
 |lst xs p=>exact s_lst HS G ht hr
 |lstF xs p=>exact s_lstF HS G ht hr
 |dct ks vs p=>exact s_dct G ht hr
 |sub x y p=>exact s_sub H G ht hr
 |slc x lo hi sp p=>exact s_slc H G ht hr
 |lam k p=>exact s_lam G ht hr
 |nones i L p pl pc=>exact s_nones H G ht hr
noncomputable def Pl (e:Expr):Prop:=∀env:Env,PySem.isTrue e env (eval e env)=(do let v ←eval e env;standAt e.pos;holding [v] (PySem.truthy v))
section
variable {e a:Expr}
theorem pl_b {α:Type}{o:Option α}{k:α→Option Expr}(h:o.bind k=some e)(g:∀a,k a=some e→Pl e):Pl e:=let ⟨a,_,h⟩:=bI h;g a h
theorem pl_s (h:some a=some e)(g:Pl a):Pl e:=oi h▸g
theorem pl_m {α:Type}{o:Option α}{k:α→Expr}(h:o.map k=some e)(g:∀a,Pl (k a)):Pl e:=match o,h with | some x,h=>pl_s h (g x)
theorem pl_i {p:Prop}[Decidable p](h:(if p then some a else none)=some e)(g:Pl a):Pl e:=by
 by_cases q:p
 ·exact pl_s ((if_pos q).symm.trans h) g
 ·exact Mine.n0 ((if_neg q).symm.trans h)
theorem pl_n {p:Prop}[Decidable p](h:(if p then none else some a)=some e)(g:Pl a):Pl e:=by
 obtain⟨_,rfl⟩:=ifN h;exact g
end
theorem st_step {c:Cx}{n:Nat}(H:SX c n)(HT:ST c n)(HBT:SBoolT c n)(H':SX c (n+1)):ST c (n+1):=by
 intro m nm sc x e ht fr σ r hr htr A f fs s μ ρ G
 have rest:Pl e→wpAny (model c.prog c.w) A (PySem.isTrue e f.env (eval e f.env)) (PT c (f::fs) s μ ρ r) (EX c (f::fs) s μ ρ r) s:=fun h=>t_plain (x:=x) (H' ht hr G) G htr (h _)
 induction x using X.casesOn with
 |not x p=>exact t_not HT G ht hr
 |and xs p=>exact t_and HBT G ht hr htr
 |or xs p=>exact t_or HBT G ht hr htr
 |ite t a b p=>exact t_ite HT G ht hr htr
 |cmp l op y p=>exact t_cmp H G ht hr
 |cmp2 l op k op2 y p=>exact t_cmp2 H G ht hr
 |nones i L p pl pc=>exact t_nones H G ht hr
 |_ =>
  clear hr htr G H' H HT HBT
  refine rest ?_
  clear rest
  induction m using Nat.casesAuxOn with
  |zero=>exact Mine.n0 ht
  |succ m =>
   first
   |exact pl_s ht fun _=>rfl
   |exact pl_m ht fun _ _=>rfl
   |exact pl_i ht fun _=>rfl
   |exact pl_b ht fun _ h=>pl_s h fun _=>rfl
   |exact pl_b ht fun _ h=>pl_i h fun _=>rfl
   |exact pl_b ht fun _ h=>pl_b h fun _ h=>pl_s h fun _=>rfl
   |exact pl_b ht fun _ h=>pl_b h fun _ h=>pl_i h fun _=>rfl
   |exact pl_b ht fun _ h=>pl_b h fun _ h=>pl_i h fun _=>rfl
   |exact pl_b ht fun _ h=>pl_b h fun _ h=>pl_n h fun _=>rfl
   |exact pl_b ht fun _ h=>pl_b h fun _ h=>pl_b h fun _ h=>pl_i h fun _=>rfl
end Mine
end
section
namespace Mine
open PySem PySem.W PySem.Spec PySem.Calls PyProof.Rows PyProof.V

section
variable {prog:Program}{w:World}{A:Around}{E:Value→Shared→Prop}{s:Shared}
theorem set_field {K:Frag}{x C dx:Addr}{ox:Obj}{es:List DictEntry}{n:Nat}{name:Str}{v:Value}{Q:Unit→Shared→Prop}(X:K.In s.heap)(I:InstAt s.heap x ox C (some (dictOf es n)))(hd:ox.dict=some dx)
  (hs:findIn K (.ref C) "__setattr__" = some (some (.builtin "object.__setattr__"))) (hp:plainOver K C=true) (ht:takerIn K C name=some none) (hh:hasDictIn K C=true) (hl:(getL name es).isSome=true) (hz:(putL name (PyData.keyHash w.params name) (.str name (s.toks+1)) v es).length≤1000)
  (h:∀h',Heap.SameBut dx s.heap h'→h'.get? dx=some (dictOf (putL name (PyData.keyHash w.params name) (.str name (s.toks+1)) v es) (putN name es n))→Q () { s with heap:=h',toks:=s.toks+2 }):
  wpAny (model prog w) A (setAttr (.ref x) name v) Q E s:=by
 refine set_plain X I hs (osa_open (s:={ s with toks:=s.toks+1 }) X I hp ht fun b=>?_)
 obtain⟨cd,hc,hd'⟩:=any_some hh
 have D:s.heap.get? dx=some (dictOf es n):=by have z:=I.dict;rw[hd]at z;exact z
 have D':(s.heap.update dx (Obj.putName name (PyData.keyHash w.params name) (.str name (s.toks+1)) v)).get? dx=some (dictOf (putL name (PyData.keyHash w.params name) (.str name (s.toks+1)) v es) (putN name es n)):=by
  have:=Heap.get?_update_self (Obj.putName name (PyData.keyHash w.params name) (.str name (s.toks+1)) v) D (by rw[putName_dict];rfl)
  rwa [putName_dict]at this
 obtain⟨hx,hcl,hn,-⟩:=I
 obtain⟨oc,odi,oda,osl⟩:=ox
 dsimp only at hcl hd
 subst hcl hd
 refine wpAny_bind (wpAny_pure (wpAny_bind (wpAny_bind (wpAny_loadPart hx (wpAny_bind (Looks.here (s:={ s with toks:=s.toks+1 }) (looks_clsIn X hc) ?_))))))
 rw[hd']
 refine wpAny_pure (a:=some dx) (wpAny_bind (wpAny_pure (wpAny_bind ?_)))
 unfold nsSet
 refine wpAny_bind (wpAny_bind (wpAny_askSetting (wpAny_pure (wpAny_bind (wpAny_mkText (wpAny_bind (wpAny_loadPart (s:={ s with toks:=s.toks+2 }) D ?_)))))))
 have c:(!es.toArray.any (·.key.isStr name)&&es.toArray.any (·.refKey))=false:=by
  unfold getL at hl
  rw[←Array.any_toList,←Array.any_toList]
  split at hl
  ·rename_i en he
   rw[List.any_eq_true.mpr ⟨en,List.mem_of_find?_eq_some he,List.find?_some he⟩];rfl
  ·split at hl
   ·first | exact n0 hl | exact n1 hl | cases hl
   ·rename_i z
    rw[Bool.not_eq_true]at z
    show(_&&es.any _)=false
    rw[z,Bool.and_false]
 dsimp only
 rw[aRefKeyMayBeTheName_at,c]
 refine wpAny_updatePart D ?_
 refine wpAny_bind (wpAny_lookBehind D' (pastItsLine_dict (by rw[List.size_toArray];exact Nat.le_succ_of_le (sz_ hz))) ?_)
 exact wpAny_pure (h _ (Heap.SameBut.update ..) D')
theorem set_item {l:Addr}{items:Array Value}{n:Nat}{k:Int}{t:Tok}{v:Value}{Q:Unit→Shared→Prop}(ho:s.heap.get? l=some (listOf items n))(h0:0≤k)(hn:k<items.size)(hfit:k<2 ^ 63)
  (h:∀h' n',Heap.SameBut l s.heap h'→h'.get? l=some (listOf (items.setIfInBounds k.toNat v) n')→Q () { s with heap:=h' }):
  wpAny (model prog w) A (setItem (.ref l) (.int k t) v) Q E s:=by
 have hT:s.TypeIs (.ref l) "list":=⟨_,ho,rfl⟩
 unfold setItem
 try with_reducible refine wpAny_holding ?_
 first | refine wpAny_bind (wpAny_pure ?_)| skip
 refine wpAny_bind (wpAny_sequenceKey hT (by decide) ?_)
 refine wpAny_bind (wpAny_callSpecial?_slot (name:=Str.ofString "__setitem__") hT slot_list_setitem (wpAny_call_entry slot_list_setitem hT entry_list_setitem ?_ (args_list_setitem _ _ _)))
 show wpAny _ _ (Builtin.List.listSubscript? (.int k t) >>= _) _ _ s
 refine wpAny_bind (wpAny_listSubscript_int (fitsIndex_of h0 hfit) ?_)
 clear hfit
 obtain⟨j,rfl⟩:=Int.eq_ofNat_of_zero_le h0
 have hj:j<items.size:=Int.ofNat_lt.mp hn
 have hx:items[j]?=some items[j]:=Array.getElem?_eq_getElem hj
 have hm:=Heap.get?_update_self (Obj.mapSeq (·.setIfInBounds j v)) ho (by rfl)
 show wpAny _ _ ((seqItemAt l j >>= fun r=>pure (r.map (j,·))) >>= _) _ _ s
 refine wpAny_bind (wpAny_bind (wpAny_seqItemAt ho rfl (wpAny_pure ?_)))
 rw[hx]
 show wpAny _ _ (setSeqItemAt l j v >>= _) _ _ s
 refine wpAny_bind (wpAny_setSeqItemAt ho rfl ?_)
 first
  |exact wpAny_bind (wpAny_pure (wpAny_pure ⟨.none,rfl,wpAny_pure (h _ _ (Heap.SameBut.update ..) hm)⟩))
  |exact wpAny_pure ⟨.none,rfl,wpAny_pure (h _ _ (Heap.SameBut.update ..) hm)⟩
end
end Mine
end
section
namespace Mine
open PySem PySem.W PySem.Spec PySem.Calls PyProof.Rows PyProof.V
set_option tactic.hygienic false

section
variable {c:Cx}{n m:Nat}{A:Around}{f:FrI}{fs:List FrI}{s:Shared}{μ:Addr→Prop}{ρ:List (Addr × Addr)}{σ:List Cell}{nm:List Str}{sc:Scope}{fr:List (Option V)}{e:Expr}{r:R V}
noncomputable def okE:Expr→Bool
 | .Set .. | .ListComp .. | .SetComp .. | .DictComp .. | .GeneratorExp ..=>false
 |_=>true
theorem ab_ {α:Type}{o:Option α}{f:α→Option Expr}(h:∀a,(f a).all okE=true):(o.bind f).all okE=true:=by
 induction o using Option.casesOn with
 |none=>rfl
 |some a=>exact h a
theorem am_ {α:Type}{o:Option α}{f:α→Expr}(h:∀a,okE (f a)=true):(o.map f).all okE=true:=by
 induction o using Option.casesOn with
 |none=>rfl
 |some a=>exact h a
theorem ai_ {p:Prop}[Decidable p]{e:Expr}(h:okE e=true):(if p then some e else none).all okE=true:=by
 by_cases q:p
 ·rw[if_pos q];exact h
 ·rw[if_neg q];rfl
theorem ai'_ {p:Prop}[Decidable p]{e:Expr}(h:okE e=true):(if p then none else some e).all okE=true:=by
 by_cases q:p
 ·rw[if_pos q];rfl
 ·rw[if_neg q];exact h
theorem tr_ok {x:X}:(trX c nm sc m x).all okE=true:=by
 induction m using Nat.casesAuxOn with
 |zero=>rfl
 |succ m =>
  first | exact n0 x | exact n1 x | cases x
  all_goals first
   |rfl
   |exact am_ fun _=>rfl
   |exact ai_ rfl
   |exact ab_ fun _=>rfl
   |exact ab_ fun _=>ai_ rfl
   |exact ab_ fun _=>ab_ fun _=>rfl
   |exact ab_ fun _=>ab_ fun _=>ai_ rfl
   |exact ab_ fun _=>ab_ fun _=>ai'_ rfl
   |exact ab_ fun _=>ab_ fun _=>ab_ fun _=>rfl
   |exact ab_ fun _=>ab_ fun _=>ab_ fun _=>ai'_ rfl
   |exact ab_ fun _=>ab_ fun _=>ab_ fun _=>ai_ rfl
theorem comp_ok {e:Expr}(h:okE e=true)(t:Option Expr)(line:Nat)(env:Env):swapsWith e t line env=pure false:=by
 cases e<;>first | rfl | cases h
theorem not_comp {x:X}(ht:trX c nm sc m x=some e):∀(t:Option Expr) (line:Nat) (env:Env),swapsWith e t line env=pure false :=
 comp_ok (by have h:=tr_ok (c:=c) (nm:=nm) (sc:=sc) (m:=m) (x:=x);rw[ht]at h;exact h)
theorem FrI.ok.upd {m':Str→Option Value}(h:FrI.ok A (f::fs)):FrI.ok A (f.upd m'::fs):=
 ⟨h.f,h.h,fun g hg=>(List.mem_cons.mp hg).elim (fun e=>e▸h.g f List.mem_cons_self) fun hg=>h.g g (List.mem_cons_of_mem _ hg)⟩
theorem Inv.frame (I:Inv c (f::fs) μ ρ σ s.heap){h':Heap}{m':Str→Option Value}(hn:h'.Ns f.L m')(hs:Heap.SameBut f.L s.heap h'):Inv c (f.upd m'::fs) μ ρ σ h'∧Grow s.heap μ h' μ:=by
 obtain⟨a,b,d,e,mm,l⟩:=I.frames f List.mem_cons_self
 have k:∀a o,a≠f.L→s.heap.get? a=some o→h'.get? a=some o:=fun a o n e=>(hs.2 a n).trans e
 obtain⟨n1,n2,n3,n4,n5,n6⟩:=I.nd
 rw[List.map_cons,List.nodup_cons]at n1
 refine⟨I.upd k mm (Nat.le_of_eq hs.1.symm) (fun g hg=>?_) (I.cells.step (grow_but k mm) (List.prefix_refl _) (fun p hp o e=>k _ _ (fun q=>n4 f List.mem_cons_self p hp q.symm) e) (fun _ _ m=>m) fun T x=>have nf:=I.notFr x;let ⟨oT,ts,a,b,d,e,m⟩:=x;⟨oT,ts,k _ _ (fun q=>nf (q▸List.mem_cons_self)) a,b,d,e,m⟩) I.nodup fun q hq=>⟨(I.tabs q hq).1,(I.tabs q hq).2.step (grow_but k mm) fun o z=>k _ _ (fun e=>n5 f List.mem_cons_self q hq e.symm) z⟩,grow_but k mm⟩
 rcases List.mem_cons.mp hg with rfl | hg
 ·exact⟨a,b,d,hn,mm,l⟩
 ·obtain⟨a',b',d',e',m',l'⟩:=I.frames g (List.mem_cons_of_mem _ hg)
  exact⟨a',b',d',Ns.but k e' (fun q=>n1.1 (q▸List.mem_map_of_mem hg)),m',l'⟩
set_option tactic.hygienic true in theorem trSet_eq {i:Nat}{y:Str}(h:trSet nm sc i=some y):nm[i]?=some y∧notDebug y=true∧sc.names.lookup y=some .local∧nm.Nodup:=by
 unfold trSet at h
 split at h
 ·rename_i y' hy
  split at h
  ·rename_i hc
   obtain rfl:=oi h
   simp only[Bool.and_eq_true,beq_iff_eq,decide_eq_true_eq]at hc
   exact⟨hy,hc.1.1,hc.1.2,hc.2⟩
  ·exact n0 h
 ·exact n0 h
theorem nodup_get {α:Type}{l:List α}(hn:l.Nodup){i j:Nat}{y:α}(h1:l[i]?=some y)(h2:l[j]?=some y):i=j:=by
 obtain⟨a,b⟩:=List.getElem?_eq_some_iff.mp h1
 obtain⟨a',b'⟩:=List.getElem?_eq_some_iff.mp h2
 exact(List.getElem_inj hn).mp (b.trans b'.symm)
theorem FrRep.set {h:Heap}(F:FrRep c h μ ρ f nm fr){i:Nat}{y:Str}{v:V}{x:Value}(hk:f.env.kindOf y=some .local)(hy:nm[i]?=some y)(hn:nm.Nodup)(rep:VRep c h μ ρ v x):
  FrRep c h μ ρ (f.upd fun z=>if z=y then some x else f.m z) nm (fr.set i (some v)):=by
 intro j z u h1 h2
 by_cases q:j=i
 ·subst q
  rw[hy]at h1
  obtain rfl:=oi h1
  have:u=v:=by
   rw[List.getElem?_set]at h2
   simp only[if_true]at h2
   split at h2
   ·exact(Option.some.inj (Option.some.inj h2)).symm
   ·exact n0 h2
  subst this
  exact .inl ⟨hk,x,if_pos rfl,rep⟩
 ·rw[List.getElem?_set_ne (Ne.symm q)]at h2
  rcases F j z u h1 h2 with⟨a,x',b,d⟩| r
  ·exact .inl ⟨a,x',(if_neg fun e=>q (nodup_get hn (e▸h1) hy)).trans b,d⟩
  ·exact .inr r
theorem Go.store (G:Go c n A f fs s μ ρ σ nm sc fr){i:Nat}{y:Str}(hy:trSet nm sc i=some y){v:V}{x:Value}(rep:VRep c s.heap μ ρ v x){Q:Unit→Shared→Prop}{E:Value→Shared→Prop}
  (k:∀m' s',Go c n A (f.upd m') fs s' μ ρ σ nm sc (fr.set i (some v))→St c (f.upd m'::fs) s μ ρ σ s' μ ρ→Q () s'):wpAny (model c.prog c.w) A (storeName f.env y x) Q E s:=by
 obtain⟨h1,h2,h3,h4⟩:=trSet_eq hy
 obtain⟨_,hl,hkf,hns,mm,_⟩:=G.inv.frames f List.mem_cons_self
 have hk:f.env.kindOf y=some .local:=by show f.env.scope.names.lookup y=_;rw[G.hsc];exact h3
 refine wpAny_storeName_local hk (hl▸hns) (fun h' hn hs=>?_) (by rw[hkf];rfl)
 rw[hl]at hn hs
 obtain⟨I,g⟩:=G.inv.frame hn hs
 have st:St c (f.upd (fun z=>if z=y then some x else f.m z)::fs) s μ ρ σ { s with heap:=h',toks:=s.toks+1 } μ ρ:=⟨I,g,List.prefix_refl _,rfl,rfl⟩
 exact k _ _ ⟨G.bs,I,G.ok.upd,G.d,G.u,G.hsc,G.hcd,(G.fr.set hk h1 h4 rep).mono g (List.prefix_refl _)⟩ st
theorem ES.of (G:Go c n A f fs s μ ρ σ nm sc fr){o:RS}(ho:∀i σ',r=.ex i σ'→o=.ex i fr σ'){e:Value}{s':Shared}(h:EX c (f::fs) s μ ρ r e s'):ES c f fs s μ ρ nm o e s':=by
 obtain⟨i,σ',μ',ρ',a,h1,h2,h3,h4,h5⟩:=h
 exact⟨f.m,σ',μ',ρ',i,fr,a,h3,ho _ _ h1,h2,h4,h5,h3.fr G.fr⟩
theorem PS.st {o:RS}{m':Str→Option Value}{σ₁:List Cell}{s₁:Shared}{μ₁:Addr→Prop}{ρ₁:List (Addr × Addr)}(x:St c (f.upd m'::fs) s μ ρ σ₁ s₁ μ₁ ρ₁){fl:Flow}{s':Shared}(h:PS c (f.upd m') fs s₁ μ₁ ρ₁ nm o fl s'):PS c f fs s μ ρ nm o fl s':=by
 obtain⟨m2,σ2,μ2,ρ2,st,h⟩:=h
 exact⟨m2,σ2,μ2,ρ2,x.trans st,h⟩
theorem ES.st {o:RS}{m':Str→Option Value}{σ₁:List Cell}{s₁:Shared}{μ₁:Addr→Prop}{ρ₁:List (Addr × Addr)}(x:St c (f.upd m'::fs) s μ ρ σ₁ s₁ μ₁ ρ₁){e:Value}{s':Shared}(h:ES c (f.upd m') fs s₁ μ₁ ρ₁ nm o e s'):ES c f fs s μ ρ nm o e s':=by
 obtain⟨m2,σ2,μ2,ρ2,i,fr',a,st,h1,h2,h3,h4,h5⟩:=h
 exact⟨m2,σ2,μ2,ρ2,i,fr',a,x.trans st,h1,h2,h3,h4,h5⟩
theorem PS.nx {o:RS}{m':Str→Option Value}{σ₁:List Cell}{s₁:Shared}{μ₁:Addr→Prop}{ρ₁:List (Addr × Addr)}{fr':List (Option V)}(st:St c (f.upd m'::fs) s μ ρ σ₁ s₁ μ₁ ρ₁)(ho:o=.nx fr' σ₁)(hf:FrRep c s₁.heap μ₁ ρ₁ (f.upd m') nm fr'):PS c f fs s μ ρ nm o .next s₁ :=
 ⟨m',σ₁,μ₁,ρ₁,st,.inl ⟨fr',ho,rfl,hf⟩⟩
theorem fun_int (G:Go c n A f fs s μ ρ σ nm sc fr):interactive f.env=false:=by
 unfold interactive
 rw[(G.inv.frames f List.mem_cons_self).kd]
 rfl
theorem x_expr {x:X}{p:Pos}{st:Stmt}{o:RS}(H:SX c n)(G:Go c (n+1) A f fs s μ ρ σ nm sc fr)(ht:trS c nm sc m (.expr x p)=some st)(hr:exS c.T (n+1) (.expr x p) fr σ=some o):wpAny (model c.prog c.w) A (exec st f.env) (PS c f fs s μ ρ nm o) (ES c f fs s μ ρ nm o) s:=by
 induction m using Nat.casesAuxOn with
 |zero=>exact Mine.n0 ht
 |succ m =>
  obtain⟨e,h1,hz_⟩:=bI ht;clear ht;rename _=>ht
  obtain rfl:=oi ht
  simp only[eS_expr]at hr
  obtain⟨r,h0⟩:∃r,exX c.T n x fr σ=some r:=by cases q:exX c.T n x fr σ with | none=>rw[q]at hr;cases hr | some r=>exact⟨r,rfl⟩
  have ho:∀v σ',r=.ok v σ'→(fun _ s=>some (.nx fr s)) v σ'=some o:=fun v σ' e=>by subst e;rw[h0]at hr;exact hr
  have he:∀i σ',r=.ex i σ'→o=.ex i fr σ':=fun i σ' e=>by subst e;rw[h0]at hr;exact(Option.some.inj hr).symm
  refine wpAny_Expr_any (wpAny_mono (H h1 h0 (G.less (Nat.le_succ _))) (fun y s₁ h=>?_) fun _ _ h=>ES.of G he h) (fun_int G) (not_comp h1 _ _ _)
  obtain⟨v,σ',μ',ρ',e',st,rep⟩:=h
  have:=ho _ _ e'
  exact PS.nx (m':=f.m) st (Option.some.inj this).symm (st.fr G.fr)
theorem x_asN {i:Nat}{pn:Pos}{x:X}{p:Pos}{st:Stmt}{o:RS}(H:SX c n)(G:Go c (n+1) A f fs s μ ρ σ nm sc fr)(ht:trS c nm sc m (.asN i pn x p)=some st)(hr:exS c.T (n+1) (.asN i pn x p) fr σ=some o):wpAny (model c.prog c.w) A (exec st f.env) (PS c f fs s μ ρ nm o) (ES c f fs s μ ρ nm o) s:=by
 induction m using Nat.casesAuxOn with
 |zero=>exact Mine.n0 ht
 |succ m =>
  obtain⟨y,hy,hz_⟩:=bI ht;clear ht;rename _=>ht
  obtain⟨e,h1,hz_⟩:=bI ht;clear ht;rename _=>ht
  obtain rfl:=oi ht
  simp only[eS_asN]at hr
  obtain⟨r,h0⟩:∃r,exX c.T n x fr σ=some r:=by cases q:exX c.T n x fr σ with | none=>rw[q]at hr;cases hr | some r=>exact⟨r,rfl⟩
  have ho:∀v σ',r=.ok v σ'→(fun v s=>some (.nx (fr.set i (some v)) s)) v σ'=some o:=fun v σ' e=>by subst e;rw[h0]at hr;exact hr
  have he:∀i σ',r=.ex i σ'→o=.ex i fr σ':=fun i σ' e=>by subst e;rw[h0]at hr;exact(Option.some.inj hr).symm
  refine wpAny_Assign_Name (wpAny_mono (H h1 h0 (G.less (Nat.le_succ _))) (fun z s₁ h=>?_) fun _ _ h=>ES.of G he h) (not_comp h1 _ _ _)
  obtain⟨v,σ',μ',ρ',e',st,rep⟩:=h
  have:=ho _ _ e'
  refine(G.next st).store hy rep fun m' s' G' st'=>?_
  exact PS.nx (m':=m') (st.trans st') (Option.some.inj this).symm G'.fr
theorem x_ret {x:X}{p:Pos}{st:Stmt}{o:RS}(H:SX c n)(G:Go c (n+1) A f fs s μ ρ σ nm sc fr)(ht:trS c nm sc m (.ret x p)=some st)(hr:exS c.T (n+1) (.ret x p) fr σ=some o):wpAny (model c.prog c.w) A (exec st f.env) (PS c f fs s μ ρ nm o) (ES c f fs s μ ρ nm o) s:=by
 induction m using Nat.casesAuxOn with
 |zero=>exact Mine.n0 ht
 |succ m =>
  obtain⟨e,h1,hz_⟩:=bI ht;clear ht;rename _=>ht
  obtain rfl:=oi ht
  simp only[eS_ret]at hr
  obtain⟨r,h0⟩:∃r,exX c.T n x fr σ=some r:=by cases q:exX c.T n x fr σ with | none=>rw[q]at hr;cases hr | some r=>exact⟨r,rfl⟩
  have ho:∀v σ',r=.ok v σ'→(fun v s=>some (.rt v s)) v σ'=some o:=fun v σ' e=>by subst e;rw[h0]at hr;exact hr
  have he:∀i σ',r=.ex i σ'→o=.ex i fr σ':=fun i σ' e=>by subst e;rw[h0]at hr;exact(Option.some.inj hr).symm
  refine wpAny_Return_some (wpAny_mono (H h1 h0 (G.less (Nat.le_succ _))) (fun z s₁ h=>?_) fun _ _ h=>ES.of G he h)
  obtain⟨v,σ',μ',ρ',e',st,rep⟩:=h
  have:=ho _ _ e'
  exact⟨f.m,σ',μ',ρ',st,.inr ⟨v,z,(Option.some.inj this).symm,rfl,rep⟩⟩
theorem x_ifs {t:X}{a b:List S}{p:Pos}{st:Stmt}{o:RS}(HT:ST c n)(HS:SSs c n)(G:Go c (n+1) A f fs s μ ρ σ nm sc fr)(ht:trS c nm sc m (.ifs t a b p)=some st)(hr:exS c.T (n+1) (.ifs t a b p) fr σ=some o):wpAny (model c.prog c.w) A (exec st f.env) (PS c f fs s μ ρ nm o) (ES c f fs s μ ρ nm o) s:=by
 induction m using Nat.casesAuxOn with
 |zero=>exact Mine.n0 ht
 |succ m =>
  obtain⟨te,h1,hz_⟩:=bI ht;clear ht;rename _=>ht
  obtain⟨ae,h2,hz_⟩:=bI ht;clear ht;rename _=>ht
  obtain⟨be,h3,hz_⟩:=bI ht;clear ht;rename _=>ht
  obtain rfl:=oi ht
  simp only[eS_ifs]at hr
  obtain⟨r,h0⟩:∃r,exX c.T n t fr σ=some r:=by cases q:exX c.T n t fr σ with | none=>rw[q]at hr;cases hr | some r=>exact⟨r,rfl⟩
  have ho:∀v σ',r=.ok v σ'→(fun v s=>match truthy s v with | some true=>exSs c.T n a fr s | some false=>exSs c.T n b fr s | none=>none) v σ'=some o:=fun v σ' e=>by subst e;rw[h0]at hr;exact hr
  have he:∀i σ',r=.ex i σ'→o=.ex i fr σ':=fun i σ' e=>by subst e;rw[h0]at hr;exact(Option.some.inj hr).symm
  have htr:∀v σ',r=.ok v σ'→Tru σ' v:=fun v σ' e'=>by
   have:=ho v σ' e'
   simp only at this
   split at this
   ·exact⟨_,by assumption⟩
   ·exact⟨_,by assumption⟩
   ·exact n0 this
  have G':=G.less (Nat.le_succ n)
  refine wpAny_If (wpAny_mono (HT h1 h0 htr G') (fun bb s₁ h=>?_) fun _ _ h=>ES.of G he h)
  obtain⟨v,σ',μ',ρ',e',st,hb⟩:=h
  have:=ho _ _ e'
  simp only at this
  rw[hb]at this
  induction bb using Bool.casesOn with
  |true=>exact wpAny_mono (HS h2 this (G'.next st)) (fun _ _ h=>PS.st (m':=f.m) st h) fun _ _ h=>ES.st (m':=f.m) st h
  |false=>exact wpAny_mono (HS h3 this (G'.next st)) (fun _ _ h=>PS.st (m':=f.m) st h) fun _ _ h=>ES.st (m':=f.m) st h
theorem sss_step (H:SS c n)(HS:SSs c n):SSs c (n+1):=by
 intro m nm sc t st ht fr σ o hr A f fs s μ ρ G
 induction t using List.casesOn with
 |nil =>
  induction m using Nat.casesAuxOn with
  |zero=>exact Mine.n0 ht
  |succ m =>
   obtain rfl:=oi ht
   exact wpAny_execs_nil (PS.nx (m':=f.m) (.refl G.inv) (Option.some.inj hr).symm G.fr)
 |cons t r =>
  induction m using Nat.casesAuxOn with
  |zero=>exact Mine.n0 ht
  |succ m =>
   obtain⟨t',h1,hz_⟩:=bI ht;clear ht;rename _=>ht
   obtain⟨r',h2,hz_⟩:=bI ht;clear ht;rename _=>ht
   obtain rfl:=oi ht
   simp only[eSs_cons]at hr
   have G':=G.less (Nat.le_succ n)
   refine wpAny_execs_cons ?_
   cases h0:exS c.T n t fr σ with
   |none=>rw[h0]at hr;cases hr
   |some o₁ =>
    rw[h0]at hr
    refine wpAny_mono (H h1 h0 G') (fun fl s₁ h=>?_) fun e s₁ h=>?_
    ·obtain⟨m',σ',μ',ρ',st,h⟩:=h
     rcases h with⟨fr',rfl,rfl,hf⟩| ⟨v,x,rfl,rfl,rep⟩
     ·have G₁:Go c n A (f.upd m') fs s₁ μ' ρ' σ' nm sc fr':=⟨G'.bs,st.inv,G'.ok.upd,G'.d,G'.u,G'.hsc,G'.hcd,hf⟩
      exact wpAny_mono (HS h2 hr (f:=f.upd m') G₁) (fun _ _ h=>PS.st st h) fun _ _ h=>ES.st st h
     ·obtain rfl:=oi hr
      exact⟨m',σ',μ',ρ',st,.inr ⟨v,x,rfl,rfl,rep⟩⟩
    ·obtain⟨m',σ',μ',ρ',i,fr',a,st,rfl,h2,h3,h4,h5⟩:=h
     obtain rfl:=oi hr
     exact⟨m',σ',μ',ρ',i,fr',a,st,rfl,h2,h3,h4,h5⟩
end

noncomputable def tNames (nm:List Str)(sc:Scope):List (Nat × Pos)→Option (List Str)
 | []=>some []
 |(i,_)::r=>(trSet nm sc i).bind fun y=>(tNames nm sc r).map (y::·)
theorem filter_all {α β:Type}{f g:α→Option β}(hfg:∀a b,f a=some b→g a=some b){l:List α}:∀{ys:List β},l.map g=ys.map some→(l.filterMap f).length=l.length→l.filterMap f=ys:=by
 induction l with
 |nil=>intro ys h _;induction ys using List.casesOn with
  |nil=>rfl
  |cons _ _=>cases h
 |cons a l ih =>
  intro ys h hl
  cases q:f a with
  |none =>
   rw[List.filterMap_cons_none q]at hl
   exact absurd (List.length_filterMap_le f l) (by rw[hl];exact Nat.not_succ_le_self _)
  |some b =>
   rw[List.filterMap_cons_some q]at hl ⊢
   induction ys using List.casesOn with
   |nil=>cases h
   |cons y ys =>
    obtain⟨h1,h2⟩:=List.cons.inj h
    rw[ih h2 (Nat.succ.inj hl),oi ((hfg a b q).symm.trans h1)]
theorem names_in (g:Str→Pos→Bool)(e:Expr)(b:Str)(h:(match e with | .Name id pos=>if g id pos then some id else none | _=>none)=some b):nameOf e=some b:=by
 cases e with
 |Name id pos=>exact congrArg some (ifI h).2
 |_=>exact n0 h
theorem ites_ {α:Type}{p:Prop}[Decidable p]{a b c:α}(h:¬p→b=a∨b=c):(if p then a else b)=a∨(if p then a else b)=c:=by
 by_cases q:p
 ·exact .inl (if_pos q)
 ·rw[if_neg q];exact h q
theorem swapped_cases {es:List Expr}{ys:List Str}{k:Nat}{pt:Pos}{e:Expr}{env:Env}(hn:es.map nameOf=ys.map some)(ho:okSwap e=true):
  swappedStores [.Tuple es k pt] e env=pure none∨swappedStores [.Tuple es k pt] e env=pure (some ys):=by
 cases e with
 |Tuple vs k' p' =>
  refine ites_ (fun _=>?_)
  refine ites_ (fun _=>?_)
  refine ites_ (fun c3=>?_)
  refine ites_ (fun c4=>?_)
  refine .inr ?_
  refine(if_neg (fun c5=>?_)).trans ?_
  ·exact c4 (Bool.or_eq_true _ _▸ho |>.resolve_left (by rw[c5];decide))
  ·simp only[Bool.or_eq_true,bne_iff_ne,ne_eq,not_or,Decidable.not_not]at c3
   exact congrArg (fun l=>(pure (some l):Sem (Option (List Str)))) (filter_all (names_in fun id pos=>env.kindOf id==some .local&&pos.line==(es.head?.map (·.pos.line)).getD 0) hn c3.1)
 |_=>exact .inl rfl
section
variable {c:Cx}{n m:Nat}{A:Around}{f:FrI}{fs:List FrI}{s:Shared}{μ:Addr→Prop}{ρ:List (Addr × Addr)}{σ:List Cell}{nm:List Str}{sc:Scope}{fr:List (Option V)}{e:Expr}{r:R V}
theorem trT_names:∀{ts:List (Nat × Pos)} {es:List Expr},trT nm sc ts=some es→∃ys,tNames nm sc ts=some ys∧es.map nameOf=ys.map some∧(∀env,(assignEach es env).map (·.2)=ys.zipWith (fun y (p:Nat × Pos)=>assign (.Name y p.2) env) ts)∧(∀env,(assignEach es env).length=es.length)∧(∀env,(assignEach es env).findIdx? (·.1)=none)∧es.length=ts.length∧ys.length=ts.length
 | [],_,h=>by cases h;exact⟨[],rfl,rfl,fun _=>rfl,fun _=>rfl,fun _=>rfl,rfl,rfl⟩
 |(i,p)::r,es,h=>by
  obtain⟨y,hy,hz_⟩:=bI h;clear h;rename _=>h
  obtain⟨es',h1,hz_⟩:=bI h;clear h;rename _=>h
  cases h
  obtain⟨ys,a,b,d,l,fi,g,g'⟩:=trT_names h1
  refine⟨y::ys,by simp[tNames,hy,a],congrArg (some y::·) b,fun env=>?_,fun env=>?_,fun env=>?_,by simp[g],by simp[g']⟩
  ·show assign (.Name y p) env::(assignEach es' env).map (·.2)=_
   rw[d env];rfl
  ·show(assignEach es' env).length+1=_
   rw[l env];rfl
  ·show((false,assign (.Name y p) env)::assignEach es' env).findIdx? (·.1)=none
   rw[List.findIdx?_cons]
   simp[fi env]
theorem putT_len:∀{ts:List (Nat × Pos)} {vs:List V} {fr fr':List (Option V)},putT fr ts vs=some fr'→ts.length=vs.length
 | [],[],_,_,_=>rfl
 | [],_::_,_,_,h=>by simp[putT]at h
 |(_,_)::_,[],_,_,h=>by simp[putT]at h
 |(i,p)::r,v::t,fr,fr',h=>by simp only[putT]at h;simp[putT_len h]
theorem putT_app:∀{ts ts':List (Nat × Pos)} {vs vs':List V} {fr:List (Option V)},ts.length=vs.length→putT fr (ts++ts') (vs++vs')=(putT fr ts vs).bind fun fr=>putT fr ts' vs'
 | [],_,[],_,_,_=>rfl
 | [],_,_::_,_,_,h=>by simp at h
 |_::_,_,[],_,_,h=>by simp at h
 |(i,p)::r,_,v::t,_,fr,h=>by
  simp only[List.cons_append,putT]
  exact putT_app (by simpa using h)
theorem putT_set {i:Nat}{v:V}:∀{ts:List (Nat × Pos)} {vs:List V} {fr:List (Option V)},i ∉ ts.map (·.1)→putT (fr.set i (some v)) ts vs=(putT fr ts vs).map (·.set i (some v))
 | [],[],_,_=>rfl
 | [],_::_,_,_=>rfl
 |(_,_)::_,[],_,_=>rfl
 |(j,p)::r,w::t,fr,h=>by
  simp only[List.map_cons,List.mem_cons,not_or]at h
  simp only[putT]
  rw[List.set_comm _ _ h.1,putT_set h.2]
theorem putT_rev:∀{ts:List (Nat × Pos)} {vs:List V} {fr:List (Option V)},(ts.map (·.1)).Nodup→ts.length=vs.length→putT fr ts.reverse vs.reverse=putT fr ts vs
 | [],[],_,_,_=>rfl
 | [],_::_,_,_,h=>by simp at h
 |_::_,[],_,_,h=>by simp at h
 |(i,p)::r,v::t,fr,hn,h=>by
  rw[List.map_cons,List.nodup_cons]at hn
  have hl:r.length=t.length:=by simpa using h
  rw[List.reverse_cons,List.reverse_cons,putT_app (by simpa using hl),putT_rev hn.2 hl]
  show _=putT (fr.set i (some v)) r t
  rw[putT_set hn.1]
  cases putT fr r t<;>rfl
theorem Go.stores {sem:Str→(Nat × Pos)→Value→Sem Unit}(hsem:∀y p x f' {Q:Unit→Shared→Prop} {E:Value→Shared→Prop} {s':Shared},wpAny (model c.prog c.w) A (storeName (FrI.upd f f').env y x) Q E s'→wpAny (model c.prog c.w) A (sem y p x) Q E s'):∀{ts:List (Nat × Pos)} {ys:List Str} {vs:List V} {xs:List Value} {g:FrI} {s:Shared} {fr fr':List (Option V)} {Q:Unit→Shared→Prop} {E:Value→Shared→Prop},(∃m',g=f.upd m')→Go c n A g fs s μ ρ σ nm sc fr→tNames nm sc ts=some ys→VReps c s.heap μ ρ vs xs→putT fr ts vs=some fr' →
  (∀m' s',Go c n A (f.upd m') fs s' μ ρ σ nm sc fr'→St c (f.upd m'::fs) s μ ρ σ s' μ ρ→Q () s')→wpAny (model c.prog c.w) A (assignInOrder (ys.zipWith (fun y p=>sem y p) ts) xs) Q E s
 | [],ys,vs,xs,g,s,fr,fr',Q,E,hg,G,hy,rv,hp,k=>by
  obtain⟨m',rfl⟩:=hg
  cases hy
  induction vs using List.casesOn with
  |nil=>cases hp;exact assignInOrder_nil (k m' _ G (.refl G.inv))
  |cons=>simp[putT]at hp
 |(i,p)::ts,ys,vs,xs,g,s,fr,fr',Q,E,hg,G,hy,rv,hp,k=>by
  obtain⟨m0,rfl⟩:=hg
  simp only[tNames,Option.bind_eq_some_iff,Option.map_eq_some_iff]at hy
  obtain⟨y,h1,ys',h2,rfl⟩:=hy
  induction vs using List.casesOn with
  |nil=>simp[putT]at hp
  |cons v vs =>
   obtain⟨_,_,rfl,rx,rest⟩:=rv.cons_;clear rv
   simp only[putT]at hp
   refine assignInOrder_cons (hsem _ _ _ m0 (G.store h1 rx fun m' s' G' st=>?_))
   exact Go.stores hsem (g:=f.upd m') ⟨m',rfl⟩ G' h2 (rest.mono st.grow (List.prefix_refl _)) hp fun m2 s2 G2 st2=>k m2 s2 G2 (st.trans st2)
end
end Mine
end
section
namespace Mine
open PySem PySem.W PySem.Spec PySem.Calls PyProof.Rows PyProof.V

theorem VReps.rev {c:Cx}{h:Heap}{μ:Addr→Prop}{ρ:List (Addr × Addr)}:∀{l:List V} {xs:List Value},VReps c h μ ρ l xs→VReps c h μ ρ l.reverse xs.reverse:=fun H=>H.ind (P:=fun l xs=>VReps c h μ ρ l.reverse xs.reverse) .nil fun a _ ih=>by
  rw[List.reverse_cons,List.reverse_cons]
  exact ih.app (.cons a .nil)
theorem VReps.set {c:Cx}{h:Heap}{μ:Addr→Prop}{ρ:List (Addr × Addr)}{v:V}{x:Value}(rep:VRep c h μ ρ v x):∀{l:List V} {xs:List Value} (i:Nat),VReps c h μ ρ l xs→VReps c h μ ρ (l.set i v) (xs.set i x)
 |_,_,_,.nil=>.nil
 |_,_,0,.cons a b=>.cons rep b
 |_,_,i+1,.cons a b=>.cons a (b.set rep i)
theorem FRep.len {c:Cx}{h:Heap}{μ:Addr→Prop}{ρ:List (Addr × Addr)}:∀{fs:List (Nat × V)} {es:List DictEntry},FRep c h μ ρ fs es→fs.length=es.length:=fun H=>H.ind (P:=fun fs es=>fs.length=es.length) rfl fun _ _ _ _ ih=>congrArg (· + 1) ih
theorem putL_len (name:Str)(hsh:Int)(key v:Value):∀es:List DictEntry,(putL name hsh key v es).length≤es.length+1
 | []=>Nat.le_refl _
 |e::r=>by
  unfold putL
  split
  ·simp
  ·simpa using putL_len name hsh key v r
theorem FRep.put {c:Cx}(P:Prog c){h:Heap}{μ:Addr→Prop}{ρ:List (Addr × Addr)}{f:Nat}(hf:f<40){v:V}{x:Value}(rep:VRep c h μ ρ v x){hsh:Int}{t:Tok}:∀{fs:List (Nat × V)} {es:List DictEntry},FRep c h μ ρ fs es →
  FRep c h μ ρ (fput f v fs) (putL (c.an f) hsh (.str (c.an f) t) x es)
 |_,_,.nil=>.cons (t:=t) hf rfl rep .nil
 |_,_,.cons (f:=g) (v:=w) (e:=en) (es:=es') hg hk rv rest=>by
  unfold fput putL
  by_cases q:f=g
  ·subst q
   have:en.key.isStr (c.an f)=true:=by rw[hk];simp[Value.isStr]
   rw[if_pos rfl,if_pos this]
   exact .cons hf hk rep rest
  ·have hne:en.key.isStr (c.an f)=false:=by
    rw[hk]
    show(c.an g==c.an f)=false
    exact beq_eq_false_iff_ne.mpr fun z=>q (P.inj _ _ hf hg z.symm)
   rw[if_neg q,hne]
   exact .cons hg hk rv (FRep.put P hf rep rest)
section
variable {c:Cx}{n m:Nat}{A:Around}{f:FrI}{fs:List FrI}{s:Shared}{μ:Addr→Prop}{ρ:List (Addr × Addr)}{σ:List Cell}{nm:List Str}{sc:Scope}{fr:List (Option V)}{e:Expr}{r:R V}
theorem zipWith_names {env:Env}:∀{ts:List (Nat × Pos)} {ys:List Str},ys.length=ts.length→ys.map (fun n=>bindName env n)=ys.zipWith (fun y (_:Nat × Pos)=>bindName env y) ts
 | [],[],_=>rfl
 | [],_::_,h=>by simp at h
 |_::_,[],h=>by simp at h
 |t::ts,y::ys,h=>by
  simp only[List.map_cons,List.zipWith_cons_cons]
  rw[zipWith_names (ts:=ts) (by simpa using h)]
theorem tNames_app:∀{ts ts':List (Nat × Pos)} {ys ys':List Str},tNames nm sc ts=some ys→tNames nm sc ts'=some ys'→tNames nm sc (ts++ts')=some (ys++ys')
 | [],_,_,_,h,h'=>by cases h;exact h'
 |(i,p)::ts,ts',ys,ys',h,h'=>by
  simp only[tNames,Option.bind_eq_some_iff,Option.map_eq_some_iff]at h
  obtain⟨y,h1,zs,h2,rfl⟩:=h
  show(trSet nm sc i).bind (fun y=>(tNames nm sc (ts++ts')).map (y::·))=_
  rw[h1,tNames_app h2 h']
  rfl
theorem tNames_rev:∀{ts:List (Nat × Pos)} {ys:List Str},tNames nm sc ts=some ys→tNames nm sc ts.reverse=some ys.reverse
 | [],_,h=>by cases h;rfl
 |(i,p)::ts,ys,h=>by
  simp only[tNames,Option.bind_eq_some_iff,Option.map_eq_some_iff]at h
  obtain⟨y,h1,zs,h2,rfl⟩:=h
  rw[List.reverse_cons,List.reverse_cons]
  exact tNames_app (tNames_rev h2) (by simp[tNames,h1])
theorem Go.unpack (G:Go c n A f fs s μ ρ σ nm sc fr){ts:List (Nat × Pos)}{es:List Expr}(ht:trT nm sc ts=some es)(hnd:(ts.map (·.1)).Nodup){vs:List V}{y:Value}(rep:VRep c s.heap μ ρ (.tup vs) y){fr':List (Option V)}(hp:putT fr ts vs=some fr'){k:Nat}{pt:Pos}{Q:Unit→Shared→Prop}{E:Value→Shared→Prop}
  (hk:∀m' s' μ',Go c n A (f.upd m') fs s' μ' ρ σ nm sc fr'→St c (f.upd m'::fs) s μ ρ σ s' μ' ρ→Q () s'):wpAny (model c.prog c.w) A (assign (.Tuple es k pt) f.env y) Q E s:=by
 obtain⟨ys,a1,a2,a3,a4,a5,a6,a7⟩:=trT_names ht
 obtain⟨_,_,_,rfl,e,nn,vr⟩:=rep.tup_;clear rep
 rename_i xs a nA
 have hh:A.handled=none:=G.ok.h
 have it:IsTup s.heap a xs:=⟨_,e,rfl,_,rfl⟩
 have hl1:=putT_len hp
 have hl2:vs.length=xs.size:=by simpa using vr.len
 refine assign_Tuple_tuple hh it ((a4 _).trans (a6.trans (hl1.trans hl2))) (a5 _) fun h' he=>?_
 have hkeep:∀b o,s.heap.get? b=some o→h'.get? b=some o:=fun b o e=>he b o (Nat.ne_of_lt (Heap.lt_size e)) e
 obtain⟨μ',_,st⟩:=St.kept (h':=h') G.inv hkeep
 rw[a3]
 refine Go.stores (n:=n) (A:=A) (f:=f) (sem:=fun y p x=>assign (.Name y p.2) f.env x) (fun y p x f' _ _ _ h=>PyProof.Rows.assign_Name h) (g:=f.upd f.m) ⟨f.m,rfl⟩ (G.next (st s.toks)) a1 (vr.mono (st s.toks).grow (List.prefix_refl _)) hp fun m' s' G' st'=>?_
 exact hk m' s' μ' G' ((st s.toks).trans st')
theorem x_asT {ts:List (Nat × Pos)}{k:Nat}{pt:Pos}{x:X}{p:Pos}{st:Stmt}{o:RS}(H:SX c n)(G:Go c (n+1) A f fs s μ ρ σ nm sc fr)(ht:trS c nm sc m (.asT ts k pt x p)=some st)(hr:exS c.T (n+1) (.asT ts k pt x p) fr σ=some o):wpAny (model c.prog c.w) A (exec st f.env) (PS c f fs s μ ρ nm o) (ES c f fs s μ ρ nm o) s:=by
 induction m using Nat.casesAuxOn with
 |zero=>exact Mine.n0 ht
 |succ m =>
  obtain⟨es,hes,hz_⟩:=bI ht;clear ht;rename _=>ht
  obtain⟨e,h1,hz_⟩:=bI ht;clear ht;rename _=>ht
  split at ht
  ·rename_i hc
   obtain rfl:=oi ht
   simp only[Bool.and_eq_true,decide_eq_true_eq]at hc
   obtain⟨hok,hnd⟩:=hc
   simp only[eS_asT]at hr
   obtain⟨r,h0⟩:∃r,exX c.T n x fr σ=some r:=by cases q:exX c.T n x fr σ with | none=>rw[q]at hr;cases hr | some r=>exact⟨r,rfl⟩
   have he:∀i σ',r=.ex i σ'→o=.ex i fr σ':=fun i σ' e=>by subst e;rw[h0]at hr;exact(Option.some.inj hr).symm
   have ho:∀v σ',r=.ok v σ'→∃vs fr',v=.tup vs∧putT fr ts vs=some fr'∧o=.nx fr' σ':=fun v σ' e=>by
    subst e
    rw[h0]at hr
    induction v using V.casesOn with
    |tup vs =>
     simp only[Option.map_eq_some_iff]at hr
     obtain⟨fr',q1,q2⟩:=hr
     exact⟨vs,fr',rfl,q1,q2.symm⟩
    |_=>cases hr
   have G':=G.less (Nat.le_succ n)
   obtain⟨ys,a1,a2,a3,a4,a5,a6,a7⟩:=trT_names hes
   have hsole:swapsWithSole [.Tuple es k pt] e p.line f.env=pure false:=by show swapsWith e (some (.Tuple es k pt)) p.line f.env=_;exact not_comp h1 _ _ _
   rcases swapped_cases (k:=k) (pt:=pt) (e:=e) (env:=f.env) a2 hok with hw | hw
   ·refine Assign_Tuple (wpAny_mono (H h1 h0 G') (fun z s₁ h=>?_) fun _ _ h=>ES.of G he h) hsole hw
    obtain⟨v,σ',μ',ρ',e',st,rep⟩:=h
    obtain⟨vs,fr',rfl,hp,rfl⟩:=ho _ _ e'
    refine(G'.next st).unpack hes hnd rep hp fun m' s' μ'' G'' st'=>?_
    exact PS.nx (m':=m') (st.trans st') rfl G''.fr
   ·refine Assign_Tuple_swapped (wpAny_mono (H h1 h0 G') (fun z s₁ h=>?_) fun _ _ h=>ES.of G he h) hsole hw
    obtain⟨v,σ',μ',ρ',e',st,rep⟩:=h
    obtain⟨vs,fr',rfl,hp,rfl⟩:=ho _ _ e'
    have G₁:=G'.next st
    obtain⟨_,_,_,rfl,e,nn,vr⟩:=rep.tup_;clear rep
    rename_i xs a nA
    have hh:A.handled=none:=G.ok.h
    have it:IsTup s₁.heap a xs:=⟨_,e,rfl,_,rfl⟩
    have hl1:=putT_len hp
    have hl2:vs.length=xs.size:=by simpa using vr.len
    rw[show ys.length=xs.size from a7.trans (hl1.trans hl2)]
    refine unpackItems_tuple hh it fun h' he=>?_
    have hkeep:∀b o,s₁.heap.get? b=some o→h'.get? b=some o:=fun b o e=>he b o (Nat.ne_of_lt (Heap.lt_size e)) e
    obtain⟨μ'',_,st2⟩:=St.kept (h':=h') G₁.inv hkeep
    rw[zipWith_names (ts:=ts.reverse) (by simp[a7])]
    refine Go.stores (n:=n) (A:=A) (f:=f) (sem:=fun y p x=>bindName f.env y x) (fun y p x f' _ _ _ h=>wpAny_bindName h) (g:=f.upd f.m) ⟨f.m,rfl⟩ (G₁.next (st2 s₁.toks)) (tNames_rev a1) (vr.mono (st2 s₁.toks).grow (List.prefix_refl _)).rev ((putT_rev hnd hl1).trans hp) fun m' s' G'' st'=>?_
    exact PS.nx (m':=m') (st.trans ((st2 s₁.toks).trans st')) rfl G''.fr
  ·exact n0 ht
theorem x_asA {ox:X}{g:Nat}{pa:Pos}{x:X}{p:Pos}{st:Stmt}{o:RS}(P3:Prog3 c)(H:SX c n)(G:Go c (n+1) A f fs s μ ρ σ nm sc fr)(ht:trS c nm sc m (.asA ox g pa x p)=some st)(hr:exS c.T (n+1) (.asA ox g pa x p) fr σ=some o):wpAny (model c.prog c.w) A (exec st f.env) (PS c f fs s μ ρ nm o) (ES c f fs s μ ρ nm o) s:=by
 induction m using Nat.casesAuxOn with
 |zero=>exact Mine.n0 ht
 |succ m =>
  obtain⟨oe,h1,hz_⟩:=bI ht;clear ht;rename _=>ht
  obtain⟨e,h2,hz_⟩:=bI ht;clear ht;rename _=>ht
  split at ht
  ·rename_i hns
   obtain rfl:=oi ht
   simp only[eS_asA]at hr
   generalize hz:(bnd (exX c.T n x fr σ) fun v s=>bnd (exX c.T n ox fr s) fun o s=>_)=z at hr
   obtain⟨r,hr0⟩:∃r,z=some r:=by cases z with | none=>cases hr | some r=>exact⟨r,rfl⟩
   subst hr0
   have he:∀i σ',r=.ex i σ'→o=.ex i fr σ':=fun i σ' e=>by subst e;exact(Option.some.inj hr).symm
   have ho:∀v σ',r=.ok v σ'→o=.nx fr σ':=fun v σ' e=>by subst e;exact(Option.some.inj hr).symm
   have G':=G.less (Nat.le_succ n)
   refine plainObj_wpAny_Assign_Attribute (H.run G' h2 hz (fun v σ₁ y s₁ μ₁ ρ₁ hk G₁ st rep=>?_) fun _ _ h=>ES.of G he h) (not_comp h2 _ _ _)
   refine H.run G₁ h1 hk (fun w σ₂ y₂ s₂ μ₂ ρ₂ hk G₂ st2 rep2=>?_) fun _ _ h=>ES.of G he (h.st st)
   induction w using V.casesOn with
   |ref i =>
    simp only at hk
    split at hk
    ·rename_i C fs' hcell
     split at hk
     ·rename_i hg
      obtain rfl:=oi hk
      obtain⟨hg1,hg2,hg3⟩:=hg
      obtain⟨_,_,rfl,hi⟩:=rep2.ref_;clear rep2
      rename_i xa d
      obtain⟨pp,hpp,ca⟩:=G₂.inv.cells.get hcell
      rw[hi]at hpp
      obtain rfl:=oi hpp
      obtain⟨_,_,_,z,ha,e1,n1,e2,mm,frep⟩:=ca.inst_;clear ca
      rename_i C' es' nn
      obtain⟨q1,q2,q3,q4⟩:=P3.sta C C' g z hg2 ha hg1
      have hlen:=frep.len
      have hsome:(getL (c.an g) es').isSome=true:=by
       cases q:fget g fs' with
       |none=>rw[frep.getNone P3.toProg (le40 hg1) q];rfl
       |some u=>obtain⟨xx,hx,_⟩:=frep.get P3.toProg (le40 hg1) q;rw[hx];rfl
      refine set_field G₂.K ⟨e1,rfl,rfl,e2⟩ rfl q1 q2 q3 q4 hsome (Nat.le_trans (putL_len _ _ _ _ _) (by omega)) fun h' hsb hob=>?_
      have hkk:Grow s₂.heap μ₂ h' μ₂:=grow_but (fun a o nn e=>(hsb.2 a nn).trans e) mm
      have ca3:CellAt c h' μ₂ ρ₂ (xa,d) (.inst C (fput g v fs')):=.inst z ha (hkk _ _ e1 n1).1 n1 hob mm (FRep.put P3.toProg (le40 hg1) ((st2.up rep).mono hkk (List.prefix_refl _)) (frep.mono hkk (List.prefix_refl _)))
      have stf:=(st.trans st2).trans (St.set G₂.inv hi hsb mm ca3 (tk:=s₂.toks+2))
      exact PS.nx (m':=f.m) stf (ho _ _ rfl) (stf.fr G.fr)
     ·exact n0 hk
    ·exact n0 hk
   |_=>cases hk
  ·exact n0 ht
theorem x_asI {ox ix:X}{pi:Pos}{x:X}{p:Pos}{st:Stmt}{o:RS}(H:SX c n)(G:Go c (n+1) A f fs s μ ρ σ nm sc fr)(ht:trS c nm sc m (.asI ox ix pi x p)=some st)(hr:exS c.T (n+1) (.asI ox ix pi x p) fr σ=some o):wpAny (model c.prog c.w) A (exec st f.env) (PS c f fs s μ ρ nm o) (ES c f fs s μ ρ nm o) s:=by
 induction m using Nat.casesAuxOn with
 |zero=>exact Mine.n0 ht
 |succ m =>
  obtain⟨oe,h1,hz_⟩:=bI ht;clear ht;rename _=>ht
  obtain⟨ie,h3,hz_⟩:=bI ht;clear ht;rename _=>ht
  obtain⟨e,h2,hz_⟩:=bI ht;clear ht;rename _=>ht
  obtain rfl:=oi ht
  simp only[eS_asI]at hr
  generalize hz:(bnd (exX c.T n x fr σ) fun v s=>bnd (exX c.T n ox fr s) fun o s=>bnd (exX c.T n ix fr s) fun k s=>_)=z at hr
  obtain⟨r,hr0⟩:∃r,z=some r:=by cases z with | none=>cases hr | some r=>exact⟨r,rfl⟩
  subst hr0
  have he:∀i σ',r=.ex i σ'→o=.ex i fr σ':=fun i σ' e=>by subst e;exact(Option.some.inj hr).symm
  have ho:∀v σ',r=.ok v σ'→o=.nx fr σ':=fun v σ' e=>by subst e;exact(Option.some.inj hr).symm
  have G':=G.less (Nat.le_succ n)
  refine wpAny_Assign_Subscript (H.run G' h2 hz (fun v σ₁ y s₁ μ₁ ρ₁ hk G₁ st rep=>?_) fun _ _ h=>ES.of G he h) (not_comp h2 _ _ _)
  refine H.run G₁ h1 hk (fun w σ₂ y₂ s₂ μ₂ ρ₂ hk G₂ st2 rep2=>?_) fun _ _ h=>ES.of G he (h.st st)
  refine H.run G₂ h3 hk (fun u σ₃ y₃ s₃ μ₃ ρ₃ hk G₃ st3 rep3=>?_) fun _ _ h=>ES.of G he (h.st (st.trans st2))
  induction w using V.casesOn with
  |ref i =>
   induction u using V.casesOn with
   |int j =>
    simp only at hk
    split at hk
    ·rename_i l hcell
     split at hk
     ·rename_i hj
      obtain rfl:=oi hk
      obtain⟨tj,rfl⟩:=rep3.int_;clear rep3
      have rep2':=st3.up rep2
      cases rep2' with
      |ref hi =>
       rename_i xa d
       obtain⟨pp,hpp,ca⟩:=G₃.inv.cells.get hcell
       rw[hi]at hpp
       obtain rfl:=oi hpp
       obtain⟨_,_,rfl,e2,mm,vr⟩:=ca.list_;clear ca
       rename_i xs nn
       have hl:l.length=xs.size:=by simpa using vr.len
       refine set_item e2 hj.1 ((Int.toNat_lt hj.1).mp (hl▸hj.2.2)) (k63 hj.2.1) fun h' n' hsb hob=>?_
       have hkk:Grow s₃.heap μ₃ h' μ₃:=grow_but (fun a o nn e=>(hsb.2 a nn).trans e) mm
       have ca3:CellAt c h' μ₃ ρ₃ (xa,xa) (.list (l.set j.toNat v)):=.list (n:=n') hob mm (by
        rw[Array.toList_setIfInBounds]
        exact VReps.set (((st2.trans st3).up rep).mono hkk (List.prefix_refl _)) _ (vr.mono hkk (List.prefix_refl _)))
       have stf:=((st.trans st2).trans st3).trans (St.set G₃.inv hi hsb mm ca3 (tk:=s₃.toks))
       exact PS.nx (m':=f.m) stf (ho _ _ rfl) (stf.fr G.fr)
     ·exact n0 hk
    ·exact n0 hk
   |_=>cases hk
  |_=>cases hk
end
end Mine
end
section
namespace Mine
open PySem PySem.W PySem.Spec PySem.Calls PyProof.Rows PyProof.V
set_option tactic.hygienic false

section
variable {c:Cx}{h h':Heap}{μ μ':Addr→Prop}{ρ:List (Addr × Addr)}
section
variable (k:∀a o,isIter o=false→h.get? a=some o→h'.get? a=some o)(hm:∀a,μ' a→μ a)
include k hm
theorem VRep.it:∀{v x},VRep c h μ ρ v x→VRep c h' μ' ρ v x:=fun H=>H.map (fun a o i e n=>⟨k a o i e,fun z=>n (hm a z)⟩) (List.prefix_refl _)
theorem VReps.it:∀{v x},VReps c h μ ρ v x→VReps c h' μ' ρ v x:=fun H=>H.map (fun a o i e n=>⟨k a o i e,fun z=>n (hm a z)⟩) (List.prefix_refl _)
theorem FRep.it:∀{v x},FRep c h μ ρ v x→FRep c h' μ' ρ v x:=fun H=>H.map (fun a o i e n=>⟨k a o i e,fun z=>n (hm a z)⟩) (List.prefix_refl _)
theorem CRep.it:∀{n v x},CRep c h μ ρ n v x→CRep c h' μ' ρ n v x:=fun H=>H.map (fun a o i e n=>⟨k a o i e,fun z=>n (hm a z)⟩) (List.prefix_refl _)
theorem FrRep.it {f:FrI}{nm:List Str}{fr:List (Option V)}(x:FrRep c h μ ρ f nm fr):FrRep c h' μ' ρ f nm fr:=fun i y v e1 e2=>by
 rcases x i y v e1 e2 with⟨a,z,b,d⟩| ⟨a,ca,o,z,b,d,e,n,r⟩
 ·exact .inl ⟨a,z,b,d.it k hm⟩
 ·exact .inr ⟨a,ca,o,z,b,k _ _ (isIter_cell e) d,e,fun q=>n (hm _ q),r.it k hm⟩
end
theorem IsTb.it (k:∀a o,isIter o=false→h.get? a=some o→h'.get? a=some o)(hl:∀a,μ a→(∃o,h.get? a=some o)→μ' a)(T:Addr)(x:IsTb h μ T):IsTb h' μ' T:=by
 obtain⟨oT,ts,a,b,d,e,m⟩:=x
 exact⟨oT,ts,k _ _ (isIter_tb b d) a,b,d,e,hl _ m ⟨_,a⟩⟩
theorem CellAt.it (k:∀a o,isIter o=false→h.get? a=some o→h'.get? a=some o)(hm:∀a,μ' a→μ a)(hl:∀a,μ a→(∃o,h.get? a=some o)→μ' a){p:Addr × Addr}{q:Cell}(x:CellAt c h μ ρ p q):CellAt c h' μ' ρ p q:=by
 cases x with
 |inst z a e1 n1 e2 m f=>exact .inst z a (k _ _ rfl e1) (fun z=>n1 (hm _ z)) (k _ _ rfl e2) (hl _ m ⟨_,e2⟩) (f.it k hm)
 |list e m v=>exact .list (k _ _ rfl e) (hl _ m ⟨_,e⟩) (v.it k hm)
 |exc z a e o1 o2 o3 m e2 n2 f t b=>exact .exc z a (k _ _ (isIter_cls o1) e) o1 o2 o3 (hl _ m ⟨_,e⟩) (k _ _ rfl e2) (fun z=>n2 (hm _ z)) (f.it k hm) (t.step (IsTb.it k hl)) b
 |new z a e o1 o2 o3 m e2 n2 f tb b=>exact .new z a (k _ _ (isIter_cls o1) e) o1 o2 o3 (hl _ m ⟨_,e⟩) (k _ _ rfl e2) (fun z=>n2 (hm _ z)) (f.it k hm) tb b
 |exd z a e o1 o2 o3 m e2 n2 f t=>exact .exd z a (k _ _ (isIter_cls o1) e) o1 o2 o3 (hl _ m ⟨_,e⟩) (k _ _ rfl e2) (fun z=>n2 (hm _ z)) (f.it k hm) (t.step (IsTb.it k hl))
theorem CellsAt.it (k:∀a o,isIter o=false→h.get? a=some o→h'.get? a=some o)(hm:∀a,μ' a→μ a)(hl:∀a,μ a→(∃o,h.get? a=some o)→μ' a){ρ₀:List (Addr × Addr)}:∀{ρ:List (Addr × Addr)} {σ:List Cell},CellsAt c h μ ρ₀ ρ σ→CellsAt c h' μ' ρ₀ ρ σ:=fun H=>H.ind (P:=fun ρ σ=>CellsAt c h' μ' ρ₀ ρ σ) .nil fun a _ ih=>.cons (a.it k hm hl) ih
theorem TabRow.it (k:∀a o,isIter o=false→h.get? a=some o→h'.get? a=some o)(hm:∀a,μ' a→μ a){q:Addr × Addr}(x:TabRow c h μ q):TabRow c h' μ' q:=by
 obtain⟨ps,e,x⟩:=x
 refine⟨ps,k _ _ rfl e,x.imp id ?_⟩
 rintro⟨k',I,c',oc,ov,tq,a1,a0,a2,a3,a4,a5,a6⟩
 exact⟨k',I,c',oc,ov,tq,a1,a0,a2,k _ _ (isIter_code a4 a5) a3,a4,a5,fun z=>a6 (hm _ z)⟩
end
theorem Inv.it {c:Cx}{f:FrI}{fs:List FrI}{h h':Heap}{μ:Addr→Prop}{ρ:List (Addr × Addr)}{σ:List Cell}(I:Inv c (f::fs) μ ρ σ h)(k:∀a o,isIter o=false→h.get? a=some o→h'.get? a=some o)
  (kB:∀a o,a<c.B.objs.size→h.get? a=some o→h'.get? a=some o) (kl:∀a o,μ a→h.get? a=some o→∃o',h'.get? a=some o'):
  Inv c (f::fs) (fun a=>μ a∧∃o,h.get? a=some o) ρ σ h':=by
 have hm:∀a,(μ a∧∃o,h.get? a=some o)→μ a:=fun a z=>z.1
 have hl:∀a,μ a→(∃o,h.get? a=some o)→(μ a∧∃o,h.get? a=some o):=fun a x y=>⟨x,y⟩
 refine⟨fun a o e=>⟨kB _ _ (Heap.lt_size e) (I.base a o e).1,fun z=>(I.base a o e).2 z.1⟩,?_,fun a z=>?_,fun f' hf=>?_,I.cells.it k hm hl,I.nodup,fun q hq=>?_⟩
 ·obtain⟨_,_,_,⟨o,es,ep,ho,hd,_⟩,_,l⟩:=I.frames f List.mem_cons_self
  exact Nat.le_of_lt (Nat.lt_of_le_of_lt l (Heap.lt_size (k _ _ (isIter_dict hd) ho)))
 ·obtain⟨m,o,ho⟩:=z
  obtain⟨o',ho'⟩:=kl a o m ho
  exact Heap.lt_size ho'
 ·obtain⟨a,b,d,⟨o,es,ep,ho,hd,r⟩,m,l⟩:=I.frames f' hf
  exact⟨a,b,d,⟨o,es,ep,k _ _ (isIter_dict hd) ho,hd,r⟩,⟨m,o,ho⟩,l⟩
 ·have t:=I.tabs q hq
  refine⟨⟨t.1,?_⟩,t.2.it k hm⟩
  obtain⟨ps,e,_⟩:=t.2
  exact⟨_,e⟩

theorem dle {a n j c:Nat}(h:a+(n+1)<c)(hj:j+1≤n):a+j<c:=Nat.lt_of_le_of_lt (Nat.add_le_add_left (Nat.le_trans (Nat.le_succ j) (Nat.le_trans hj (Nat.le_succ n))) a) h
theorem unj {u n j c:Nat}(h:u+8*(n+1)+64<c)(hj:j+1≤n):u+8*j+64<c:=Nat.lt_of_le_of_lt (Nat.add_le_add_right (Nat.add_le_add_left (Nat.mul_le_mul_left 8 (Nat.le_trans (Nat.le_of_succ_le hj) (Nat.le_succ n))) u) 64) h
section
variable {c:Cx}{n m:Nat}{A:Around}{f:FrI}{fs:List FrI}{s:Shared}{μ:Addr→Prop}{ρ:List (Addr × Addr)}{σ:List Cell}{nm:List Str}{sc:Scope}{fr:List (Option V)}{e:Expr}{r:R V}
noncomputable def RL (c:Cx)(A:Around)(f:FrI)(fs:List FrI)(s:Shared)(μ:Addr→Prop)(ρ:List (Addr × Addr))(nm:List Str)(o:RS)(r:Result)(s':Shared):Prop :=
 match r with | .ok fl=>PS c f fs s μ ρ nm o fl s' | .error e=>cameBackBy (model c.prog c.w) A f.env (ES c f fs s μ ρ nm o) e s'
theorem ES.noted (ok:FrI.ok A (f::fs)){m':Str→Option Value}{σ₁:List Cell}{s₁:Shared}{μ₁:Addr→Prop}{ρ₁:List (Addr × Addr)}(st:St c (f.upd m'::fs) s μ ρ σ₁ s₁ μ₁ ρ₁){o:RS}{e:Value}{s₂:Shared}(h:ES c (f.upd m') fs s₁ μ₁ ρ₁ nm o e s₂):
  notedBy (model c.prog c.w) A f.env (fun e s'=>RL c A f fs s μ ρ nm o (.error e) s') e s₂:=by
 obtain⟨m2,σ2,μ2,ρ2,i,fr',a,st2,ho,rfl,hi,hf,hfr⟩:=h
 have okn:A.frames=some ((f.upd m2::fs).map (·.env)):=ok.f
 show wpAny _ A (noteFrame (.ref a) (f.upd m2).env) _ _ s₂
 refine note_ok st2.inv okn hi hf fun s₃ μ₃ st3 nt=>?_
 show cameBackBy _ A (f.upd m2).env _ (.ref a) s₃
 refine back_ok st3.inv hi nt fun s₄ st4 nt4=>?_
 have stt:=((st.trans st2).trans st3).trans st4
 exact⟨m2,σ2,μ₃,ρ2,i,fr',a,stt,ho,rfl,hi,nt4.fly,hfr.mono (st3.trans st4).grow (st3.trans st4).pre⟩
inductive LW (c:Cx)(f:FrI)(fs:List FrI)(s:Shared)(μ:Addr→Prop)(ρ:List (Addr × Addr))(nm:List Str)(n:Nat)(t:X)(a:List S)(o:RS)(j:Nat)(s':Shared):Prop
 |mk (fr':List (Option V))(σ':List Cell)(μ':Addr→Prop)(ρ':List (Addr × Addr))(m':Str→Option Value)(hj:j≤n)(hx:exW c.T j t a fr' σ'=some o)(st:St c (f.upd m'::fs) s μ ρ σ' s' μ' ρ')(hf:FrRep c s'.heap μ' ρ' (f.upd m') nm fr')
theorem x_whl {t:X}{a:List S}{p:Pos}{st:Stmt}{o:RS}(Hall:∀k,k≤n→ST c k∧SSs c k)(G:Go c (n+1) A f fs s μ ρ σ nm sc fr)(ht:trS c nm sc m (.whl t a p)=some st)(hr:exS c.T (n+1) (.whl t a p) fr σ=some o):wpAny (model c.prog c.w) A (exec st f.env) (PS c f fs s μ ρ nm o) (ES c f fs s μ ρ nm o) s:=by
 refine hideG fun G_ hG_=>?_
 induction m using Nat.casesAuxOn with
 |zero=>exact Mine.n0 ht
 |succ m =>
  obtain⟨te,h1,hz_⟩:=bI ht;clear ht;rename _=>ht
  obtain⟨ae,h2,hz_⟩:=bI ht;clear ht;rename _=>ht
  obtain rfl:=oi ht
  simp only[eS_whl]at hr
  refine hG_ ?_;clear hG_
  refine wpAny_While ?_
  have main:codeAny (model c.prog c.w) A (.whileLoop te ae [] f.env) (RL c A f fs s μ ρ nm o) s:=by
   refine codeAny_whileLoop (LW c f fs s μ ρ nm n t a o) ?_ n ⟨fr,σ,μ,ρ,f.m,Nat.le_refl _,hr,.refl G.inv,G.fr⟩
   intro j s' hI_
   refine hideG fun G_ hG_=>?_
   obtain⟨fr',σ',μ',ρ',m',hj,hx,st,hf⟩:=hI_
   refine hG_ ?_;clear hG_
   induction j using Nat.casesAuxOn with
   |zero=>exact Mine.n0 hx
   |succ j =>
    simp only[eW]at hx
    obtain⟨HT,HS⟩:=Hall j (Nat.le_of_succ_le hj)
    have G':Go c j A (f.upd m') fs s' μ' ρ' σ' nm sc fr':=⟨G.bs,st.inv,G.ok.upd,dle G.d hj,unj G.u hj,G.hsc,G.hcd,hf⟩
    obtain⟨r,h0⟩:∃r,exX c.T j t fr' σ'=some r:=by cases q:exX c.T j t fr' σ' with | none=>rw[q]at hx;cases hx | some r=>exact⟨r,rfl⟩
    have he:∀i σ',r=.ex i σ'→o=.ex i fr' σ':=fun i σ' e=>by subst e;rw[h0]at hx;exact(Option.some.inj hx).symm
    rw[h0]at hx
    have htr:∀v σ',r=.ok v σ'→Tru σ' v:=fun v σ' e'=>by
     subst e'
     simp only at hx
     split at hx
     ·exact⟨_,by assumption⟩
     ·exact⟨_,by assumption⟩
     ·exact n0 hx
    show wpAny _ A (isTrue te (f.upd m').env (eval te (f.upd m').env)) _ _ s'
    refine wpAny_mono (HT h1 h0 htr G') (fun bb s₁ h=>?_) fun e s₁ h=>ES.noted G.ok st (ES.of G' he h)
    refine hideG fun G_ hG_=>?_
    obtain⟨v,σ₁,μ₁,ρ₁,e',st1,hb⟩:=h
    refine hG_ ?_;clear hG_
    subst e'
    simp only at hx
    rw[hb]at hx
    have G₁:=G'.next st1
    induction bb using Bool.casesOn with
    |true =>
     simp only at hx
     rw[if_pos rfl]
     cases h3:exSs c.T j a fr' σ₁ with
     |none=>rw[h3]at hx;cases hx
     |some o₁ =>
      rw[h3]at hx
      show wpAny _ A (execs ae (f.upd m').env) _ _ s₁
      refine wpAny_mono (HS h2 h3 G₁) (fun fl s₂ h=>?_) fun e s₂ h=>?_
      ·obtain⟨m2,σ2,μ2,ρ2,st2,h⟩:=h
       rcases h with⟨fr2,rfl,rfl,hf2⟩| ⟨v2,x2,rfl,rfl,rep⟩
       ·exact⟨j,Nat.lt_succ_self _,fr2,σ2,μ2,ρ2,m2,Nat.le_of_succ_le hj,hx,(st.trans st1).trans st2,hf2⟩
       ·obtain rfl:=oi hx
        exact⟨m2,σ2,μ2,ρ2,(st.trans st1).trans st2,.inr ⟨v2,x2,rfl,rfl,rep⟩⟩
      ·have:o₁=o:=by
        refine hideG fun G_ hG_=>?_
        obtain⟨_,_,_,_,_,_,_,_,rfl,_⟩:=h
        refine hG_ ?_;clear hG_
        exact Option.some.inj hx
       subst this
       exact ES.noted G.ok (st.trans st1) h
    |false =>
     simp only at hx
     obtain rfl:=oi hx
     rw[if_neg (by decide)]
     exact wpAny_execs_nil (PS.nx (m':=m') (st.trans st1) rfl (st1.fr hf))
  exact codeAny_mono main fun r s' h=>by cases r<;>exact h
end

theorem isIter_list {h:Heap}{a l:Addr}{i:Nat}{o:Obj}(x:h.IsListIter a l i)(e:h.get? a=some o):isIter o=true:=by
 obtain⟨o',e',hc,hd⟩:=x
 rw[e]at e'
 obtain rfl:=oi e'
 unfold isIter
 rw[hc,hd]
 rfl
theorem isIter_enum {h:Heap}{a it:Addr}{i:Int}{v:Value}{o:Obj}(x:IsEnum h a it i v)(e:h.get? a=some o):isIter o=true:=by
 rw[show h.get? a=some _ from x]at e
 obtain rfl:=oi e
 rfl
section
variable {c:Cx}{n m:Nat}{A:Around}{f:FrI}{fs:List FrI}{s:Shared}{μ:Addr→Prop}{ρ:List (Addr × Addr)}{σ:List Cell}{nm:List Str}{sc:Scope}{fr:List (Option V)}{e:Expr}{r:R V}
theorem St.iters {m':Str→Option Value}{σ':List Cell}{s':Shared}{μ':Addr→Prop}{ρ':List (Addr × Addr)}(I₀:c.B.objs.size≤s.heap.objs.size)(st:St c (f.upd m'::fs) s μ ρ σ' s' μ' ρ'){h':Heap}
  (kk:∀a o,(a<s.heap.objs.size∨isIter o=false)→s'.heap.get? a=some o→h'.get? a=some o) (kl:∀a o,μ' a→s'.heap.get? a=some o→∃o',h'.get? a=some o'):
  ∃μ'':Addr→Prop,(∀a,μ'' a→μ' a∧∃o,s'.heap.get? a=some o)∧∀tk,St c (f.upd m'::fs) s μ ρ σ' { s' with heap:=h',toks:=tk } μ'' ρ':=by
 refine⟨fun a=>μ' a∧∃o,s'.heap.get? a=some o,fun a z=>z,fun tk=>⟨st.inv.it (fun a o i e=>kk a o (.inr i) e) (fun a o i e=>kk a o (.inl (Nat.lt_of_lt_of_le i I₀)) e) kl,fun a o e n=>?_,st.pre,st.gens,st.os⟩⟩
 obtain⟨e',n'⟩:=st.grow a o e n
 exact⟨kk a o (.inl (Heap.lt_size e)) e',fun z=>n' z.1⟩
theorem set_ok {e:Expr}(h:okE e=true)(env:Env)(v:Value):foldedSetIterable e env v=pure v:=by
 cases e<;>first | rfl | cases h
theorem not_set {x:X}(ht:trX c nm sc m x=some e):∀(env:Env) (v:Value),foldedSetIterable e env v=pure v :=
 set_ok (by have h:=tr_ok (c:=c) (nm:=nm) (sc:=sc) (m:=m) (x:=x);rw[ht]at h;exact h)
theorem body_end {a:List S}{ae:List Stmt}{j:Nat}{K:List (Option V)→List Cell→Option RS}{fr':List (Option V)}{σ':List Cell}{o:RS}(HS:SSs c j)(h2:trSs c nm sc m a=some ae)(ok:FrI.ok A (f::fs))
  {m':Str→Option Value} {s':Shared} {μ':Addr→Prop} {ρ':List (Addr × Addr)} (st:St c (f.upd m'::fs) s μ ρ σ' s' μ' ρ') (G':Go c j A (f.upd m') fs s' μ' ρ' σ' nm sc fr')
  (hx:nxK (exSs c.T j a fr' σ') K=some o) {P:Shared→Prop}
  (hK:∀fr2 σ2 s2 μ2 ρ2 m2,K fr2 σ2=some o→St c (f.upd m2::fs) s' μ' ρ' σ2 s2 μ2 ρ2→FrRep c s2.heap μ2 ρ2 (f.upd m2) nm fr2→P s2):
  wpAny (model c.prog c.w) A (execs ae f.env) (fun fl s₃=>match fl with
     | .next | .cont=>P s₃
     | .brk=>RL c A f fs s μ ρ nm o (.ok .next) s₃
     | .ret v=>RL c A f fs s μ ρ nm o (.ok (.ret v)) s₃) (notedBy (model c.prog c.w) A f.env fun e s'=>RL c A f fs s μ ρ nm o (.error e) s') s':=by
 cases h3:exSs c.T j a fr' σ' with
 |none=>rw[h3]at hx;exact Mine.n0 hx
 |some o₁ =>
  rw[h3]at hx
  show wpAny _ A (execs ae (f.upd m').env) _ _ s'
  refine wpAny_mono (HS h2 h3 G') (fun fl s₂ h=>?_) fun e s₂ h=>?_
  ·obtain⟨m2,σ2,μ2,ρ2,st2,h⟩:=h
   rcases h with⟨fr2,rfl,rfl,hf2⟩| ⟨v2,x2,rfl,rfl,rep⟩
   ·exact hK fr2 σ2 s₂ μ2 ρ2 m2 hx st2 hf2
   ·obtain rfl:=oi hx
    exact⟨m2,σ2,μ2,ρ2,st.trans st2,.inr ⟨v2,x2,rfl,rfl,rep⟩⟩
  ·have:o₁=o:=by
    refine hideG fun G_ hG_=>?_
    obtain⟨_,_,_,_,_,_,_,_,rfl,_⟩:=h
    refine hG_ ?_;clear hG_
    exact Option.some.inj hx
   subst this
   exact ES.noted ok st h
noncomputable def NextO (c:Cx)(A:Around)(f:FrI)(fs:List FrI)(s₁:Shared)(μ₁:Addr→Prop)(ρ₁:List (Addr × Addr))(i:Nat)(a:List S)(o:RS)(it:Addr)(IT:Nat→Heap→Prop)(X:Nat→Nat→List (Option V)→List Cell→Option RS):Prop :=
 ∀{j k:Nat} {fr':List (Option V)} {σ':List Cell} {s':Shared} {μ':Addr→Prop} {ρ':List (Addr × Addr)} {m':Str→Option Value},X j k fr' σ'=some o→St c (f.upd m'::fs) s₁ μ₁ ρ₁ σ' s' μ' ρ'→IT k s'.heap→∀{Q:Option Value→Shared→Prop} {E:Value→Shared→Prop},
  (∀h' tk,(∀b o,b≠it→s'.heap.get? b=some o→h'.get? b=some o)→o=.nx fr' σ'→Q none { s' with heap:=h',toks:=tk }) →
  (∀v y j' h' tk,j=j'+1→IT (k+1) h'→Heap.SameBut it s'.heap h'→VRep c s'.heap μ' ρ' v y→nxK (exSs c.T j' a (fr'.set i (some v)) σ') (X j' (k+1))=some o→Q (some y) { s' with heap:=h',toks:=tk }) →
  wpAny (model c.prog c.w) A (pyNext (.ref it)) Q E s'
inductive LN (c:Cx)(f:FrI)(fs:List FrI)(s:Shared)(μ:Addr→Prop)(ρ:List (Addr × Addr))(nm:List Str)(n:Nat)(o:RS)(it:Addr)(IT:Nat→Heap→Prop)(X:Nat→Nat→List (Option V)→List Cell→Option RS)(j:Nat)(s':Shared):Prop
 |mk (fr':List (Option V))(σ':List Cell)(μ':Addr→Prop)(ρ':List (Addr × Addr))(m':Str→Option Value)(k:Nat)(hj:j≤n)(hx:X j k fr' σ'=some o)(st:St c (f.upd m'::fs) s μ ρ σ' s' μ' ρ')(hf:FrRep c s'.heap μ' ρ' (f.upd m') nm fr')
  (hit:IT k s'.heap) (hni:¬μ' it)
theorem for_one {i:Nat}{y:Str}{pn:Pos}{a:List S}{ae:List Stmt}{o:RS}{it:Addr}{IT:Nat→Heap→Prop}{X:Nat→Nat→List (Option V)→List Cell→Option RS}(Hall:∀k,k≤n→ST c k∧SSs c k)(G:Go c (n+1) A f fs s μ ρ σ nm sc fr)
  (hy:trSet nm sc i=some y) (h2:trSs c nm sc m a=some ae) (hr:X n 0 fr σ=some o) {s₂:Shared} (st0:St c (f::fs) s μ ρ σ s₂ μ ρ) (hit0:IT 0 s₂.heap) (hlo:s.heap.objs.size≤it)
  (isI:∀{k h},IT k h→∃o,h.get? it=some o∧isIter o=true) (stab:∀{k h h'},IT k h→(∀o,h.get? it=some o→h'.get? it=some o)→IT k h') (next:NextO c A f fs s μ ρ i a o it IT X):
  codeAny (model c.prog c.w) A (.forLoop (.Name y pn) (.ref it) ae [] f.env) (RL c A f fs s μ ρ nm o) s₂:=by
 have hni:¬μ it:=fun z=>Nat.lt_irrefl _ (Nat.lt_of_lt_of_le (G.inv.mlt _ z) hlo)
 have hlow:=G.inv.low
 refine codeAny_forLoop (LN c f fs s μ ρ nm n o it IT X) ?_ n ⟨fr,σ,μ,ρ,f.m,0,Nat.le_refl _,hr,st0,st0.fr G.fr,hit0,hni⟩
 intro j s' hI_
 refine wp_hide fun Q hQ=>?_
 refine hideG fun G_ hG_=>?_
 obtain⟨fr',σ',μ',ρ',m',k,hj,hx,st,hf,hit,hni⟩:=hI_
 refine hG_ ?_;clear hG_
 have hkk:∀{h':Heap},(∀b o,b≠it→s'.heap.get? b=some o→h'.get? b=some o)→∀b o,(b<s.heap.objs.size∨isIter o=false)→s'.heap.get? b=some o→h'.get? b=some o:=by
  intro h' hb b o hor e
  refine hb b o (fun q=>?_) e
  subst q
  rcases hor with z | z
  ·exact Nat.lt_irrefl _ (Nat.lt_of_lt_of_le z hlo)
  ·obtain⟨o',e',i'⟩:=isI hit
   obtain rfl:=oi (e'.symm.trans e)
   rw[i']at z;cases z
 have hkl:∀{h':Heap},(∀b o,b≠it→s'.heap.get? b=some o→h'.get? b=some o)→∀b o,μ' b→s'.heap.get? b=some o→∃o',h'.get? b=some o':=fun hb b o mb e=>⟨o,hb b o (fun q=>hni (q▸mb)) e⟩
 refine next hx st hit (fun h' tk hb ho=>hQ _ _ (wpAny_execs_nil ?_)) fun v yv j' h' tk hj' hit' hsb rv hx'=>hQ _ _ ?_
 ·refine hideG fun G_ hG_=>?_
  obtain⟨μ'',hμ,st2⟩:=St.iters hlow st (h':=h') (hkk hb) (hkl hb)
  refine hG_ ?_;clear hG_
  exact PS.nx (m':=m') (st2 tk) ho (hf.it (h':=h') (fun b o i e=>hkk hb b o (.inr i) e) fun b z=>(hμ b z).1)
 ·subst hj'
  have hbut:∀b o,b≠it→s'.heap.get? b=some o→h'.get? b=some o:=fun b o nb e=>(hsb.2 b nb).trans e
  refine hideG fun G_ hG_=>?_
  obtain⟨μ'',hμ,st2⟩:=St.iters hlow st (h':=h') (hkk hbut) (hkl hbut)
  refine hG_ ?_;clear hG_
  have hit3:∀b o,isIter o=false→s'.heap.get? b=some o→h'.get? b=some o:=fun b o i e=>hkk hbut b o (.inr i) e
  have hm3:∀b,μ'' b→μ' b:=fun b z=>(hμ b z).1
  have G':Go c j' A (f.upd m') fs { s' with heap:=h',toks:=tk } μ'' ρ' σ' nm sc fr':=⟨G.bs,(st2 tk).inv,G.ok.upd,dle G.d hj,unj G.u hj,G.hsc,G.hcd,hf.it hit3 hm3⟩
  refine wpAny_assign_Name (env:=(f.upd m').env) (G'.store hy (rv.it hit3 hm3) fun m2 s2 G2 st3=>?_)
  obtain⟨HT,HS⟩:=Hall j' (Nat.le_of_succ_le hj)
  have st4:=(st2 tk).trans st3
  refine body_end (f:=f) HS h2 G.ok st4 G2 hx' fun fr5 σ5 s5 μ5 ρ5 m5 hx5 st5 hf5=>?_
  have hnit2:¬μ'' it:=fun z=>hni (hm3 _ z)
  exact⟨j',Nat.lt_succ_self _,fr5,σ5,μ5,ρ5,m5,k+1,Nat.le_of_succ_le hj,hx5,st4.trans st5,hf5,stab hit' fun o e=>((st3.trans st5).grow _ _ e hnit2).1,fun z=>by
   obtain⟨o,e,_⟩:=isI hit'
   exact((st3.trans st5).grow _ _ e hnit2).2 z⟩
theorem for_end {o:RS}{σ₁:List Cell}{s₁:Shared}{μ₁:Addr→Prop}{ρ₁:List (Addr × Addr)}(st1:St c (f::fs) s μ ρ σ₁ s₁ μ₁ ρ₁){cd:Code}{s₂:Shared}(main:codeAny (model c.prog c.w) A cd (RL c A f fs s₁ μ₁ ρ₁ nm o) s₂):
  codeAny (model c.prog c.w) A cd (fun r s'=>match r with | .ok fl=>PS c f fs s μ ρ nm o fl s' | .error e=>cameBackBy (model c.prog c.w) A f.env (ES c f fs s μ ρ nm o) e s') s₂:=by
 refine codeAny_mono main fun r s' h=>?_
 induction r using Except.casesOn with
 |ok fl=>exact PS.st (m':=f.m) st1 h
 |error e=>exact wpAny_mono h (fun _ s'' h=>ES.st (m':=f.m) st1 h) fun _ s'' h=>ES.st (m':=f.m) st1 h
theorem listIt {h:Heap}{it la:Addr}{k:Nat}(x:h.IsListIter it la k):∃o,h.get? it=some o∧isIter o=true:=by
 obtain⟨o,e,r⟩:=id x
 exact⟨o,e,isIter_list x e⟩
inductive ExL (T:Tabs)(n:Nat)(i:Nat)(a:List S)(q k:Nat)(fr:List (Option V))(s:List Cell)(o:RS):Prop
 |stop (l:List V)(hl:s[q]?=some (.list l))(hk:l[k]?=none)(ho:o=.nx fr s)
 |go (l:List V)(hl:s[q]?=some (.list l))(v:V)(hk:l[k]?=some v)(hx:nxK (exSs T n a (fr.set i (some v)) s) (exL T n (fun fr v=>some (fr.set i (some v))) a q (k+1))=some o)
theorem exLI {T:Tabs}{n i:Nat}{a:List S}{q k:Nat}{fr:List (Option V)}{s:List Cell}{o:RS}(h:exL T (n+1) (fun fr v=>some (fr.set i (some v))) a q k fr s=some o):ExL T n i a q k fr s o:=by
 replace h:(match items s (.ref q)with
  |some l=>match l[k]? with
   |none=>some (.nx fr s)
   |some v=>nxK (exSs T n a (fr.set i (some v)) s) (exL T n (fun fr v=>some (fr.set i (some v))) a q (k+1))
  |none=>none)=some o:=h
 cases hl:items s (.ref q)with
 |none=>rw[hl]at h;exact Mine.n0 h
 |some l =>
  have hc:s[q]?=some (.list l):=by cases itI hl with | ref h=>exact h
  rw[hl]at h
  cases hk:l[k]? with
  |none=>simp only[hk]at h;exact .stop l hc hk (oi h).symm
  |some v=>simp only[hk]at h;exact .go l hc v hk h
theorem ExL.cell {T:Tabs}{n i:Nat}{a:List S}{q k:Nat}{fr:List (Option V)}{s:List Cell}{o:RS}(h:ExL T n i a q k fr s o):∃l,s[q]?=some (.list l):=by
 cases h with
 |stop l hl=>exact⟨l,hl⟩
 |go l hl=>exact⟨l,hl⟩
set_option tactic.hygienic true in theorem x_forN {i:Nat}{pn:Pos}{x:X}{a:List S}{p:Pos}{st:Stmt}{o:RS}(H:SX c n)(Hall:∀k,k≤n→ST c k∧SSs c k)(G:Go c (n+1) A f fs s μ ρ σ nm sc fr)(ht:trS c nm sc m (.forN i pn x a p)=some st)(hr:exS c.T (n+1) (.forN i pn x a p) fr σ=some o):wpAny (model c.prog c.w) A (exec st f.env) (PS c f fs s μ ρ nm o) (ES c f fs s μ ρ nm o) s:=by
 induction m using Nat.casesAuxOn with
 |zero=>exact Mine.n0 ht
 |succ m =>
  obtain⟨y,hy,ht⟩:=bI ht
  obtain⟨e,h1,ht⟩:=bI ht
  obtain⟨ae,h2,ht⟩:=bI ht
  obtain rfl:=oi ht
  simp only[eS_forN]at hr
  obtain⟨r,h0⟩:∃r,exX c.T n x fr σ=some r:=by cases q:exX c.T n x fr σ with | none=>rw[q]at hr;cases hr | some r=>exact⟨r,rfl⟩
  have he:∀i σ',r=.ex i σ'→o=.ex i fr σ':=fun i σ' e=>by subst e;rw[h0]at hr;exact(Option.some.inj hr).symm
  have G0:=G.less (Nat.le_succ n)
  refine wpAny_For (wpAny_mono (H h1 h0 G0) (fun z s₁ h=>?_) fun _ _ h=>ES.of G he h) (not_set h1 _)
  obtain⟨v,σ₁,μ₁,ρ₁,e',st1,rep⟩:=h
  subst e'
  rw[h0]at hr
  simp only at hr
  have G1:=G.next st1
  have hh:A.handled=none:=G.ok.h
  induction v using V.casesOn with
  |lst l =>
   obtain⟨_,_,_,rfl,e0,n0,v0⟩:=rep.lst_;clear rep
   rename_i xs la ln
   refine wpAny_pyIter_list ⟨_,e0,rfl,_,rfl⟩ (for_end st1 (for_one (IT:=fun k h=>h.IsListIter s₁.heap.objs.size la k) (X:=fun j k fr s=>exF c.T j (fun fr v=>some (fr.set i (some v))) a (l.drop k) fr s) Hall G1 hy h2 (by simpa using hr)
    (St.push G1.inv { cls:=.type "list_iterator",data:=.fields #[.ref la,.int 0 0] }) ⟨_,Heap.get?_push_size _ rfl,rfl,rfl⟩ (Nat.le_refl _) listIt (fun x k=>x.at k) ?_))
   intro j k fr' σ' s' μ' ρ' m' hx st hit Q E hN hS
   have hla:=st.grow la _ e0 n0
   have hl':s'.heap.IsList la xs:=⟨_,hla.1,rfl,_,rfl⟩
   have hv:=v0.mono st.grow st.pre
   have hlen:=hv.len
   rw[Array.length_toList (xs:=xs)]at hlen
   induction j using Nat.casesAuxOn with
   |zero=>exact Mine.n0 hx
   |succ j =>
    cases hk:l[k]? with
    |none =>
     have hle:l.length≤k:=by simpa using hk
     replace hx:exF c.T (j+1) (fun fr v=>some (fr.set i (some v))) a (l.drop k) fr' σ'=some o:=hx
     rw[List.drop_of_length_le hle]at hx
     exact wpAny_pyNext_list_end hh hit hl' (Array.getElem?_eq_none_iff.mpr (hlen▸hle)) fun h' he'=>hN h' _ (fun b o nb e=>he' b o nb e) (oi hx).symm
    |some v =>
     obtain⟨yv,hy,ry⟩:=hv.get hk
     obtain⟨hlt,hv'⟩:=List.getElem?_eq_some_iff.mp hk
     replace hx:exF c.T (j+1) (fun fr v=>some (fr.set i (some v))) a (l.drop k) fr' σ'=some o:=hx
     rw[List.drop_eq_getElem_cons hlt,hv']at hx
     exact wpAny_pyNext_list_item hit hl' ((Array.getElem?_toList ..).symm.trans hy) fun h' hit' hsb=>hS v yv j h' _ rfl hit' hsb ry hx
  |ref q =>
   obtain⟨la,d,rfl,hi⟩:=rep.ref_;clear rep
   replace hr:exL c.T n (fun fr v=>some (fr.set i (some v))) a q 0 fr σ₁=some o:=hr
   induction n using Nat.casesAuxOn with
   |zero=>exact Mine.n0 hr
   |succ n =>
    obtain⟨l,hl⟩:=(exLI hr).cell
    obtain⟨pp,hpp,ca⟩:=G1.inv.cells.get hl
    obtain rfl:=oi (hi.symm.trans hpp)
    obtain⟨_,_,rfl,e0,_,_⟩:=ca.list_;clear ca
    refine wpAny_pyIter_list ⟨_,e0,rfl,_,rfl⟩ (for_end st1 (for_one (IT:=fun k h=>h.IsListIter s₁.heap.objs.size la k) (X:=fun j k fr s=>exL c.T j (fun fr v=>some (fr.set i (some v))) a q k fr s) Hall G1 hy h2 hr
     (St.push G1.inv { cls:=.type "list_iterator",data:=.fields #[.ref la,.int 0 0] }) ⟨_,Heap.get?_push_size _ rfl,rfl,rfl⟩ (Nat.le_refl _) listIt (fun x k=>x.at k) ?_))
    intro j k fr' σ' s' μ' ρ' m' hx st hit Q E hN hS
    induction j using Nat.casesAuxOn with
    |zero=>exact Mine.n0 hx
    |succ j =>
     have hx:=exLI hx
     obtain⟨l',hl'⟩:=hx.cell
     obtain⟨pp,hpp,ca⟩:=st.inv.cells.get hl'
     obtain rfl:=oi ((pre_get st.pre hi).symm.trans hpp)
     obtain⟨xs,_,_,e1,_,hv⟩:=ca.list_;clear ca
     have hl2:s'.heap.IsList la xs:=⟨_,e1,rfl,_,rfl⟩
     have hlen:=hv.len
     rw[Array.length_toList (xs:=xs)]at hlen
     cases hx with
     |stop l2 h2 hk ho =>
      obtain rfl:=clI (oi (hl'.symm.trans h2))
      have hle:l'.length≤k:=by simpa using hk
      exact wpAny_pyNext_list_end hh hit hl2 (Array.getElem?_eq_none_iff.mpr (hlen▸hle)) fun h' he'=>hN h' _ (fun b o nb e=>he' b o nb e) ho
     |go l2 h2 v hk hx =>
      obtain rfl:=clI (oi (hl'.symm.trans h2))
      obtain⟨yv,hy,ry⟩:=hv.get hk
      exact wpAny_pyNext_list_item hit hl2 ((Array.getElem?_toList ..).symm.trans hy) fun h' hit' hsb=>hS v yv j h' _ rfl hit' hsb ry hx
  |_=>exact Mine.n0 hr
end

section
variable {c:Cx}{n m:Nat}{A:Around}{f:FrI}{fs:List FrI}{s:Shared}{μ:Addr→Prop}{ρ:List (Addr × Addr)}{σ:List Cell}{nm:List Str}{sc:Scope}{fr:List (Option V)}{e:Expr}{r:R V}
theorem tr_enum {bp:Pos}{x:X}{p:Pos}{ie:Expr}(ht:trX c nm sc m (.bcall 6 bp [x] p)=some ie):∃m' es,trXs c nm sc m' [x]=some es∧notDebug ("enumerate" : Str)=true∧sc.names.lookup ("enumerate" : Str)=some .globalImplicit∧ie=.Call (.Name "enumerate" bp) es [] p:=by
 induction m using Nat.casesAuxOn with
 |zero=>exact Mine.n0 ht
 |succ m =>
  obtain⟨es,h2,hz_⟩:=bI ht;clear ht;rename _=>ht
  split at ht
  ·rename_i hc
   obtain rfl:=oi ht
   simp only[Bool.and_eq_true,beq_iff_eq]at hc
   exact⟨m,es,h2,hc.1,hc.2,rfl⟩
  ·exact n0 ht
inductive LT (c:Cx)(f:FrI)(fs:List FrI)(s:Shared)(μ:Addr→Prop)(ρ:List (Addr × Addr))(nm:List Str)(n:Nat)(ts:List (Nat × Pos))(a:List S)(o:RS)(la:Addr)(xs:Array Value)(j:Nat)(s':Shared):Prop
 |mk (fr':List (Option V))(σ':List Cell)(μ':Addr→Prop)(ρ':List (Addr × Addr))(m':Str→Option Value)(rest:List V)(k:Nat)(old:Value)(hj:j≤n)(hx:exF c.T j (stT ts) a (enumV k rest) fr' σ'=some o)(st:St c (f.upd m'::fs) s μ ρ σ' s' μ' ρ')(hf:FrRep c s'.heap μ' ρ' (f.upd m') nm fr')
  (hit:s'.heap.IsListIter s.heap.objs.size la k) (hni:¬μ' s.heap.objs.size) (hen:IsEnum s'.heap (s.heap.objs.size+1) s.heap.objs.size ((k:Nat):Int) old) (hne:¬μ' (s.heap.objs.size+1)) (hvs:VReps c s'.heap μ' ρ' rest (xs.toList.drop k))
set_option tactic.hygienic true in theorem x_forT {ts:List (Nat × Pos)}{kt:Nat}{pt:Pos}{x:X}{a:List S}{p:Pos}{st:Stmt}{o:RS}(HSx:SXs c n)(Hall:∀k,k≤n→ST c k∧SSs c k)(G:Go c (n+1) A f fs s μ ρ σ nm sc fr)(ht:trS c nm sc m (.forT ts kt pt x a p)=some st)(hr:exS c.T (n+1) (.forT ts kt pt x a p) fr σ=some o):wpAny (model c.prog c.w) A (exec st f.env) (PS c f fs s μ ρ nm o) (ES c f fs s μ ρ nm o) s:=by
 refine hideG fun G_ hG_=>?_
 induction m using Nat.casesAuxOn with
 |zero=>exact Mine.n0 ht
 |succ m =>
  obtain⟨es,hes,hz_⟩:=bI ht;clear ht;rename _=>ht
  obtain⟨ie,h1,hz_⟩:=bI ht;clear ht;rename _=>ht
  obtain⟨ae,h2,hz_⟩:=bI ht;clear ht;rename _=>ht
  split at ht
  ·rename_i hnd
   obtain rfl:=oi ht
   have hnd:(ts.map (·.1)).Nodup:=of_decide_eq_true hnd
   obtain⟨q,hq_⟩:=eS_forE hr
   obtain⟨bp,px,rfl⟩:=enumA_of hq_
   clear hq_
   obtain⟨m1,qes,h3,hd,hk,rfl⟩:=tr_enum h1
   simp only[eS_forT]at hr
   generalize hz:(bnd (exXs c.T n [q] fr σ) fun vs s=>match vs with | [v]=>some (R.ok v s)| _=>none)=z at hr
   obtain⟨r,hr0⟩:∃r,z=some r:=by cases z with | none=>cases hr | some r=>exact⟨r,rfl⟩
   subst hr0
   have he:∀i σ',r=.ex i σ'→o=.ex i fr σ':=fun i σ' e=>by subst e;exact(Option.some.inj hr).symm
   have G0:=G.less (Nat.le_succ n)
   obtain⟨b1,b2⟩:=G.bs.bi 6 _ rfl
   refine hG_ ?_;clear hG_
   refine wpAny_For (wpAny_Call_NameR (G.builtin hd hk b1 b2 ?_)) (not_set h1 _)
   refine G0.callWith HSx h3 hz (P:=fun _=>True) (fun h _=>keeps_pure (.inr ⟨_,rfl⟩)) (fun _ _ h=>ES.of G he h) fun vs σ₁ xs0 s₁ μ₁ ρ₁ hk1 G1 st1 rvs=>⟨trivial,?_⟩
   split at hk1
   ·rename_i v
    obtain rfl:=oi hk1
    obtain⟨_,_,rfl,rep,rest0⟩:=rvs.cons_;clear rvs
    first | exact n0 rest0 | exact n1 rest0 | cases rest0
    simp only at hr
    induction v using V.casesOn with
    |lst l =>
     simp only at hr
     obtain⟨_,_,_,rfl,e0,n0,v0⟩:=rep.lst_;clear rep
     rename_i xs la ln
     have hh:A.handled=none:=G.ok.h
     have hl0:s₁.heap.IsList la xs:=⟨_,e0,rfl,_,rfl⟩
     have hlow:=G1.inv.low
     show wpAny _ A (call (.type "enumerate") [.ref la]) _ _ s₁
     refine call_enumerate_list hl0 fun h' hen0 hit0 hsz0 hk0=>?_
     refine wpAny_pyIter_enum hen0 ?_
     refine hideG fun G_ hG_=>?_
     obtain⟨μp,hμp,stp⟩:=St.kept (h':=h') G1.inv hk0
     refine hG_ ?_;clear hG_
     have hlive:∀b,μp b→b<s₁.heap.objs.size:=fun b z=>by obtain⟨o,ho⟩:=hμp b z;exact Heap.lt_size ho
     have main:codeAny (model c.prog c.w) A (.forLoop (.Tuple es kt pt) (.ref (s₁.heap.objs.size+1)) ae [] f.env) (RL c A f fs s₁ μ₁ ρ₁ nm o) { s₁ with heap:=h' }:=by
      refine codeAny_forLoop_any (LT c f fs s₁ μ₁ ρ₁ nm n ts a o la xs) ?_ n
       ⟨fr,σ₁,μp,ρ₁,f.m,l,0,.none,Nat.le_refl _,hr,stp s₁.toks,(stp s₁.toks).fr G1.fr,hit0,fun z=>Nat.lt_irrefl _ (hlive _ z),hen0,fun z=>Nat.not_succ_lt_self (hlive _ z),by simpa using v0.mono (stp s₁.toks).grow (List.prefix_refl _)⟩
      intro j s' hI_
      refine wp_hide fun Q hQ=>?_
      refine hideG fun G_ hG_=>?_
      obtain⟨fr',σ',μ',ρ',m',rest,k,old,hj,hx,st,hf,hit,hni,hen,hne,hvs⟩:=hI_
      refine hG_ ?_;clear hG_
      induction j using Nat.casesAuxOn with
      |zero=>exact Mine.n0 hx
      |succ j =>
       have hla:=st.grow la _ e0 n0
       have hl':s'.heap.IsList la xs:=⟨_,hla.1,rfl,_,rfl⟩
       have hkk:∀{h':Heap},(∀b o,b≠s₁.heap.objs.size+1→b≠s₁.heap.objs.size→s'.heap.get? b=some o→h'.get? b=some o)→∀b o,(b<s₁.heap.objs.size∨isIter o=false)→s'.heap.get? b=some o→h'.get? b=some o:=by
        intro h' hb b o hor e
        refine hb b o (fun q=>?_) (fun q=>?_) e
        ·subst q
         rcases hor with z | z
         ·exact Nat.not_succ_lt_self z
         ·rw[isIter_enum hen e]at z;cases z
        ·subst q
         rcases hor with z | z
         ·exact Nat.lt_irrefl _ z
         ·rw[isIter_list hit e]at z;cases z
       have hkl:∀{h':Heap},(∀b o,b≠s₁.heap.objs.size+1→b≠s₁.heap.objs.size→s'.heap.get? b=some o→h'.get? b=some o)→∀b o,μ' b→s'.heap.get? b=some o→∃o',h'.get? b=some o':=fun hb b o mb e=>⟨o,hb b o (fun q=>hne (q▸mb)) (fun q=>hni (q▸mb)) e⟩
       induction rest using List.casesOn with
       |nil =>
        obtain rfl:=oi hx
        have hn:xs[k]?=none:=by
         have:=hvs.len
         simp only[List.length_nil,List.length_drop,Array.length_toList]at this
         exact Array.getElem?_eq_none_iff.mpr (Nat.le_of_sub_eq_zero this.symm)
        refine wpAny_pyNext_enum_end hh hen hit hl' hn fun h' he'=>hQ _ _ (wpAny_execs_nil ?_)
        have hb':∀b o,b≠s₁.heap.objs.size+1→b≠s₁.heap.objs.size→s'.heap.get? b=some o→h'.get? b=some o:=fun b o _ nb e=>he' b o nb e
        refine hideG fun G_ hG_=>?_
        obtain⟨μ'',hμ,st2⟩:=St.iters hlow st (h':=h') (hkk hb') (hkl hb')
        refine hG_ ?_;clear hG_
        have hfr2:=hf.it (h':=h') (fun b o i e=>hkk hb' b o (.inr i) e) (fun b z=>(hμ b z).1)
        exact PS.nx (m':=m') (st2 s'.toks) rfl hfr2
       |cons v rest =>
        simp only[enumV,eF_cons]at hx
        generalize hd:xs.toList.drop k=ds at hvs
        obtain⟨_,_,rfl,rv,rr⟩:=hvs.cons_;clear hvs
        rename_i yv ys
        have hk:xs[k]?=some yv:=by
         have:(xs.toList.drop k)[0]?=some yv:=by rw[hd];rfl
         rw[List.getElem?_drop]at this
         simpa using this
        have hys:xs.toList.drop (k+1)=ys:=by
         rw[←List.drop_drop,hd];rfl
        refine wpAny_pyNext_enum_item hen hit hl' hk (Nat.succ_ne_self _) fun h₁ heo hit₁ ht₁ hz₁ hk₁=>hQ _ _ ?_
        refine wpAny_letOwnedTupleGo_enum heo fun h₂ he₂ hs₂=>?_
        have hs₂:Heap.SameBut (s₁.heap.objs.size+1) h₁ h₂:=hs₂
        have hlt:s₁.heap.objs.size+1<s'.heap.objs.size:=Heap.lt_size hen
        have hbut:∀b o,b≠s₁.heap.objs.size+1→b≠s₁.heap.objs.size→s'.heap.get? b=some o→h₂.get? b=some o:=fun b o n1 n2 e=>(hs₂.2 b n1).trans (hk₁ b o n1 n2 e)
        refine hideG fun G_ hG_=>?_
        obtain⟨μ'',hμ,st2⟩:=St.iters hlow st (h':=h₂) (hkk hbut) (hkl hbut)
        refine hG_ ?_;clear hG_
        have hit3:∀b o,isIter o=false→s'.heap.get? b=some o→h₂.get? b=some o:=fun b o i e=>hkk hbut b o (.inr i) e
        have hm3:∀b,μ'' b→μ' b:=fun b z=>(hμ b z).1
        have ht₂:h₂.get? s'.heap.objs.size=some (tupObj #[.int k s'.toks,yv] 0):=(hs₂.2 _ (Nat.ne_of_gt hlt)).trans ht₁
        have rtup:VRep c h₂ μ'' ρ' (.tup [.int k,v]) (.ref s'.heap.objs.size):=.tup ht₂ (fun z=>by obtain⟨_,o,ho⟩:=hμ _ z;exact Nat.lt_irrefl _ (Heap.lt_size ho)) (.cons (.int _ _) (.cons (rv.it hit3 hm3) .nil))
        cases hp:stT ts fr' (.tup [.int k,v])with
        |none=>rw[hp]at hx;cases hx
        |some fr2 =>
         rw[hp]at hx
         simp only at hx
         have G':Go c j A (f.upd m') fs { s' with heap:=h₂,toks:=s'.toks+1 } μ'' ρ' σ' nm sc fr':=⟨G.bs,(st2 (s'.toks+1)).inv,G.ok.upd,dle G.d hj,unj G.u hj,G.hsc,G.hcd,hf.it hit3 hm3⟩
         show wpAny _ A (assign (.Tuple es kt pt) (f.upd m').env (.ref s'.heap.objs.size)) _ _ _
         refine G'.unpack hes hnd rtup hp fun m2 s2 μ2 G2 st3=>?_
         obtain⟨HT,HS⟩:=Hall j (Nat.le_of_succ_le hj)
         have st4:=(st2 (s'.toks+1)).trans st3
         refine body_end (f:=f) (K:=fun fr s=>exF c.T j (stT ts) a (enumV (k+1) rest) fr s) HS h2 G.ok st4 G2 hx fun fr5 σ5 s5 μ5 ρ5 m5 hx5 st5 hf5=>?_
         have hnit2:¬μ'' s₁.heap.objs.size:=fun z=>hni (hm3 _ z)
         have hnen2:¬μ'' (s₁.heap.objs.size+1):=fun z=>hne (hm3 _ z)
         have hit2:=hit₁.extBut hs₂.extBut (Ne.symm (Nat.succ_ne_self _))
         refine hideG fun G_ hG_=>?_
         obtain⟨oi,hoi,hci,hdi⟩:=hit2
         refine hG_ ?_;clear hG_
         obtain⟨hoi2,hn2⟩:=(st3.trans st5).grow _ _ hoi hnit2
         obtain⟨hoe2,hn2e⟩:=(st3.trans st5).grow _ _ he₂ hnen2
         exact⟨j,Nat.lt_succ_self _,fr5,σ5,μ5,ρ5,m5,rest,k+1,yv,Nat.le_of_succ_le hj,hx5,st4.trans st5,hf5,⟨oi,hoi2,hci,hdi⟩,hn2,by push_cast;exact hoe2,hn2e,by rw[hys];exact(rr.it hit3 hm3).mono (st3.trans st5).grow (st3.trans st5).pre⟩
     refine codeAny_mono main fun r s' h=>?_
     induction r using Except.casesOn with
     |ok fl=>exact PS.st (m':=f.m) st1 h
     |error e =>
      refine wpAny_mono h (fun _ s'' h=>ES.st (m':=f.m) st1 h) fun _ s'' h=>ES.st (m':=f.m) st1 h
    |_=>cases hr
   ·exact n0 hk1
  ·exact n0 ht
theorem star_one {env:Env}{e:Expr}{cp:Pos}(h:isStar e=false):backTo cp (starEach [e] env)=[(false,eval e env)]:=by
 cases e<;>first | rfl | cases h
theorem rangeIt {h:Heap}{it:Addr}{x l d:Int}(e:IsRangeIter h it x l d):∃o,h.get? it=some o∧isIter o=true:=⟨_,e,rfl⟩
theorem range_get {N k:Nat}{l:List V}(hl:l=(List.range N).map fun j:Nat=>V.int j):l[k]?=if k<N then some (.int k)else none:=by
 subst hl
 rw[List.getElem?_map]
 by_cases h:k<N
 ·rw[List.getElem?_range h,if_pos h];rfl
 ·rw[List.getElem?_eq_none (by simpa using h),if_neg h];rfl
theorem x_forR {i:Nat}{pn bp cp:Pos}{x:X}{a:List S}{p:Pos}{st:Stmt}{o:RS}(H:SX c n)(Hall:∀k,k≤n→ST c k∧SSs c k)(G:Go c (n+1) A f fs s μ ρ σ nm sc fr)(ht:trS c nm sc m (.forR i pn bp cp x a p)=some st)(hr:exS c.T (n+1) (.forR i pn bp cp x a p) fr σ=some o):wpAny (model c.prog c.w) A (exec st f.env) (PS c f fs s μ ρ nm o) (ES c f fs s μ ρ nm o) s:=by
 induction m using Nat.casesAuxOn with
 |zero=>exact Mine.n0 ht
 |succ m =>
  obtain⟨y,hy,ht⟩:=bI ht
  obtain⟨e,h1,ht⟩:=bI ht
  obtain⟨ae,h2,ht⟩:=bI ht
  obtain⟨hcnd,rfl⟩:=ifI ht
  simp only[Bool.and_eq_true,beq_iff_eq,Bool.not_eq_true']at hcnd
  obtain⟨⟨hd,hk⟩,hst⟩:=hcnd
  simp only[eS_forR]at hr
  obtain⟨r,h0⟩:∃r,exX c.T n x fr σ=some r:=by cases q:exX c.T n x fr σ with | none=>rw[q]at hr;cases hr | some r=>exact⟨r,rfl⟩
  have he:∀i σ',r=.ex i σ'→o=.ex i fr σ':=fun i σ' e=>by subst e;rw[h0]at hr;exact(Option.some.inj hr).symm
  have G0:=G.less (Nat.le_succ n)
  obtain⟨b1,b2⟩:=G.bs.bi 7 _ rfl
  refine wpAny_For (wpAny_Call_NameR (G.builtin hd hk b1 b2 ?_)) (set_ok rfl _)
  rw[star_one hst]
  refine PySem.callWith_type rfl (Calls.evalArgs_plain (Calls.spliced_cons (wpAny_mono (H h1 h0 G0) (fun nv s₁ h=>Calls.spliced_nil ?_) fun _ _ h=>ES.of G he h)))
  obtain⟨v,σ₁,μ₁,ρ₁,e',st1,rep⟩:=h
  subst e'
  rw[h0]at hr
  simp only at hr
  have G1:=G.next st1
  have hh:A.handled=none:=G.ok.h
  induction v using V.casesOn with
  |int N =>
   obtain⟨⟨hN0,hN1⟩,hr⟩:=ifO hr
   obtain⟨tN,rfl⟩:=rep.int_;clear rep
   refine call_range_1 ?_
   refine wpAny_pyIter_range (IsRange.new ..) (small_one (by decide) (by decide) (Int.le_trans (by decide) hN0) (Int.lt_of_le_of_lt hN1 (by decide))) ?_
   have hsz:Builtin.Range.rangeSize 0 N 1=N:=by rw[rangeSize_one];split<;>first | exact Int.sub_zero N | exact Int.le_antisymm hN0 (Int.not_lt.mp (by assumption))| exact Int.le_antisymm (by assumption) hN0 | exact Int.le_antisymm hN0 (by assumption)| omega
   dsimp only
   rw[hsz]
   have stp:=(St.push G1.inv { cls:=.type "range",data:=.fields #[.int 0 s₁.toks,.int N tN,.int 1 (s₁.toks+1)] } (tk:=s₁.toks+1+1))
   have stq:=stp.trans (St.push stp.inv { cls:=.type "range_iterator",data:=.fields #[rawInt 0,rawInt N,rawInt 1] } (tk:=s₁.toks+1+1))
   generalize hl:(List.range N.toNat).map (fun j:Nat=>V.int j)=l at hr
   refine for_end st1 (for_one (it:=(s₁.heap.push { cls:=.type "range",data:=.fields #[.int 0 s₁.toks,.int N tN,.int 1 (s₁.toks+1)] }).objs.size) (IT:=fun k h=>IsRangeIter h ((s₁.heap.push { cls:=.type "range",data:=.fields #[.int 0 s₁.toks,.int N tN,.int 1 (s₁.toks+1)] }).objs.size) (k:Int) (N - k) 1) (X:=fun j k fr s=>exF c.T j (fun fr v=>some (fr.set i (some v))) a (l.drop k) fr s) Hall G1 hy h2 (by simpa using hr)
    stq (by show IsRangeIter _ _ ((0:Nat):Int) (N - ((0:Nat):Int)) 1;rw[show((0:Nat):Int)=0 from rfl,Int.sub_zero];exact Heap.get?_push_size (o:={ cls:=.type "range_iterator",data:=.fields #[rawInt 0,rawInt N,rawInt 1] }) _ rfl) (by rw[Heap.size_push];exact Nat.le_succ _) rangeIt (fun x k=>k _ x) ?_)
   intro j k fr' σ' s' μ' ρ' m' hx st hit Q E hN hS
   induction j using Nat.casesAuxOn with
   |zero=>exact Mine.n0 hx
   |succ j =>
    have hg:=range_get (k:=k) hl.symm
    replace hx:exF c.T (j+1) (fun fr v=>some (fr.set i (some v))) a (l.drop k) fr' σ'=some o:=hx
    by_cases hkN:k<N.toNat
    ·rw[if_pos hkN]at hg
     obtain⟨hlt,hv'⟩:=List.getElem?_eq_some_iff.mp hg
     rw[List.drop_eq_getElem_cons hlt,hv']at hx
     refine wpAny_pyNext_range_item hit (Int.sub_pos_of_lt (Int.lt_toNat.mp hkN)) fun h' hit' hsb=>hS (.int k) _ j h' _ rfl ?_ hsb (.int _ _) hx
     show IsRangeIter h' _ ((k+1:Nat):Int) (N - ((k+1:Nat):Int)) 1
     rw[show N - ((k+1:Nat):Int)=N - k - 1 from(Int.sub_sub N k 1).symm];exact hit'
    ·rw[if_neg hkN]at hg
     have hle:l.length≤k:=by simpa using hg
     rw[List.drop_of_length_le hle]at hx
     exact wpAny_pyNext_range_end hh hit (Int.sub_nonpos_of_le (Int.toNat_le.mp (Nat.not_lt.mp hkN))) fun h' he'=>hN h' _ (fun b o nb e=>he' b o nb e) (oi hx).symm
  |_=>exact Mine.n0 hr
end

section
variable {c:Cx}{n m:Nat}{A:Around}{f:FrI}{fs:List FrI}{s:Shared}{μ:Addr→Prop}{ρ:List (Addr × Addr)}{σ:List Cell}{nm:List Str}{sc:Scope}{fr:List (Option V)}{e:Expr}{r:R V}
theorem exc_is (P:Prog c){h:Heap}(X:c.K.In h){C':Addr}(hC:c.fnA 0=some C'){x:Addr}{o:Obj}(e:h.get? x=some o)(hc:o.cls=.ref C'):Looks (model c.prog c.w) h (isInstance (.ref x) (.type "BaseException")) true:=by
 obtain⟨_,_,hb,_⟩:=P.attr0 C' hC 0 (Nat.zero_le _)
 obtain⟨cd,hcd,hm⟩:=any_some hb
 have ne:cd.mro.isEmpty=false:=by cases q:cd.mro with | nil=>rw[q]at hm;cases hm | cons _ _=>rfl
 have LT:Looks (model c.prog c.w) h (typeOf (.ref x)) (.ref C'):=hc▸(Looks.ld e).andThen .now
 exact LT.andThen (looks_mroIn X (by unfold mroIn;rw[hcd,Option.bind_some,if_neg (by rw[ne];decide),hm]))
theorem raise_stmt (P3:Prog3 c) {env:Env} {p:Pos} {m:Sem Value} {Q:Flow→Shared→Prop} {E:Value→Shared→Prop} (hm:wpAny (model c.prog c.w) A m (fun z s₁=>∃xa C' oo vs,z=.ref xa∧c.K.In s₁.heap∧c.fnA 0=some C'∧s₁.heap.get? xa=some oo∧oo.cls=.ref C'∧oo.data=.fields vs ∧
   wpAny (model c.prog c.w) A (do setFlight (.ref xa) none;raiseNew (.ref xa)) Q E s₁) E s):wpAny (model c.prog c.w) A (do standAt p;raiseStmt env (some (do let v ←m;standAt p;pure v)) none) Q E s:=by
 refine wpAny_bind (wpAny_standAt ?_)
 unfold raiseStmt
 dsimp only
 refine wpAny_bind (wpAny_bind (wpAny_mono hm (fun z s₁ h=>wpAny_bind (wpAny_standAt (wpAny_pure ?_))) fun _ _ h=>h))
 obtain⟨xa,C',oo,vs,rfl,K,ha,eo,o1,o3,fin⟩:=h
 obtain⟨q1,_,_⟩:=P3.exct C' ha
 have hnt:∀{Q':Bool→Shared→Prop} {E':Value→Shared→Prop},Q' false s₁→wpAny (model c.prog c.w) A (isType (.ref xa)) Q' E' s₁:=by
  intro Q' E' hq
  simp only[isType,loadHead]
  refine wpAny_bind (wpAny_loadPart eo ?_)
  rw[o3];exact wpAny_pure hq
 have LT:Looks (model c.prog c.w) s₁.heap (typeOf (.ref xa)) (.ref C'):=o1▸(Looks.ld eo).andThen .now
 refine wpAny_bind (wpAny_pure ?_)
 dsimp only
 refine wpAny_bind (wpAny_holding ?_)
 unfold excFromValue isExcClass
 refine wpAny_bind (wpAny_bind (hnt ?_))
 simp only[Bool.false_eq_true,if_false]
 refine wpAny_pure ?_
 simp only[Bool.false_eq_true,if_false]
 refine wpAny_bind ((exc_is P3.toProg K ha eo o1).here ?_)
 simp only[if_true]
 refine wpAny_pure ?_
 refine wpAny_bind (hnt ?_)
 simp only[Bool.false_eq_true,if_false]
 unfold raisedInstance
 refine wpAny_bind (wpAny_bind (LT.here (wpAny_bind ((looks_typeIn K q1).here ?_))))
 rw[if_pos (by decide)]
 exact wpAny_pure fin
theorem x_raise {x:X}{p:Pos}{st:Stmt}{o:RS}(P3:Prog3 c)(H:SX c n)(G:Go c (n+1) A f fs s μ ρ σ nm sc fr)(ht:trS c nm sc m (.raise x p)=some st)(hr:exS c.T (n+1) (.raise x p) fr σ=some o):wpAny (model c.prog c.w) A (exec st f.env) (PS c f fs s μ ρ nm o) (ES c f fs s μ ρ nm o) s:=by
 induction m using Nat.casesAuxOn with
 |zero=>exact Mine.n0 ht
 |succ m =>
  obtain⟨e,h1,hz_⟩:=bI ht;clear ht;rename _=>ht
  obtain rfl:=oi ht
  simp only[eS_raise]at hr
  obtain⟨r,h0⟩:∃r,exX c.T n x fr σ=some r:=by cases q:exX c.T n x fr σ with | none=>rw[q]at hr;cases hr | some r=>exact⟨r,rfl⟩
  have he:∀i σ',r=.ex i σ'→o=.ex i fr σ':=fun i σ' e=>by subst e;rw[h0]at hr;exact(Option.some.inj hr).symm
  have G0:=G.less (Nat.le_succ n)
  refine raise_stmt P3 (wpAny_mono (H h1 h0 G0) (fun z s₁ h=>?_) fun _ _ h=>ES.of G he h)
  obtain⟨v,σ₁,μ₁,ρ₁,e',st1,rep⟩:=h
  subst e'
  rw[h0]at hr
  obtain⟨i,fs',rfl,hcell,rfl⟩:=raiO hr
  have G1:=G0.next st1
  obtain⟨xa,d,rfl,hi⟩:=rep.ref_;clear rep
  obtain⟨pp,hpp,ca⟩:=G1.inv.cells.get hcell
  obtain rfl:=oi (hi.symm.trans hpp)
  cases ca with
  |@new _ C' _ oo vs dd _ es' nn z ha eo o1 o2 o3 mm e2 n2 frep tb cx =>
   refine⟨xa,C',oo,vs,rfl,G1.K,ha,eo,o1,o3,?_⟩
   unfold setFlight raiseNew
   refine wpAny_bind (wpAny_bind (wpAny_field eo o3 tb ?_))
   rw[if_neg (by decide)]
   refine wpAny_pure (wpAny_bind (wpAny_handled ?_))
   rw[G.ok.h]
   have fin:ES c f fs s μ ρ nm (.ex i fr (σ₁.set i (.exc 0 fs'))) (.ref xa) s₁:=by
    have I2:Inv c (f::fs) μ₁ ρ₁ (σ₁.set i (.exc 0 fs')) s₁.heap:={ G1.inv with cells:=G1.inv.cells.set hi (.exc z ha eo o1 o2 o3 mm e2 n2 frep (.no tb) cx) }
    have st2:St c (f::fs) s μ ρ (σ₁.set i (.exc 0 fs')) s₁ μ₁ ρ₁:=⟨I2,st1.grow,st1.pre,st1.gens,st1.os⟩
    refine⟨f.m,_,μ₁,ρ₁,i,fr,xa,st2,rfl,rfl,hi,⟨fun C fs hq=>?_,oo,vs,eo,o3,.inl tb⟩,st1.fr G.fr⟩
    rw[List.getElem?_set]at hq
    simp only[if_true]at hq
    split at hq<;>cases hq
   first
    |exact wpAny_throw fin
    |exact wpAny_bind (wpAny_pure (wpAny_throw fin))
end

inductive NoCtx (h:Heap)(b:Addr):Prop
 |mk (ob:Obj)(vs:Array Value)(hb:h.get? b=some ob)(hd:ob.data=.fields vs)(h2:vs[2]?=some .none)
theorem NoCtx.keep {h h':Heap}{b:Addr}(x:NoCtx h b)(k:∀o,h.get? b=some o→h'.get? b=some o):NoCtx h' b:=by
 obtain⟨ob,vs,hb,hd,h2⟩:=x
 exact⟨ob,vs,k _ hb,hd,h2⟩
theorem entry_unchain:entryFor table "proto.unchain" = some Builtin.«proto.unchain» := entryFor_of_fast (by kernel_rfl)
section
variable {prog:Program}{w:World}{A:Around}{E:Value→Shared→Prop}{s:Shared}
theorem unchain_ok {a b:Addr}{Q:Value→Shared→Prop}(x:NoCtx s.heap b)(h:Q .none s):wpAny (model prog w) A (runValue (.builtin "proto.unchain" ⟨[.ref a,.ref b,.ref b,.bool false],[]⟩)) Q E s:=by
 obtain⟨ob,vs,hb,hd,h2⟩:=x
 refine runValue_entry entry_unchain ?_
 show wpAny _ _ (field (.ref b) 2 >>= _) _ _ s
 refine wpAny_bind (wpAny_field hb hd h2 ?_)
 show wpAny _ _ (ret Value.none) _ _ s
 exact wpAny_pure ⟨.none,rfl,h⟩
theorem raise_ctx {α:Type}{a b:Addr}{oa:Obj}{va:Array Value}{Q:α→Shared→Prop}(hh:A.handled=some (.ref b))(hab:b≠a)(x:NoCtx s.heap b)(ha:s.heap.get? a=some oa)(hd:oa.data=.fields va)(hz:2<va.size)
  (h:E (.ref a) { s with heap:=s.heap.update a (Obj.mapFields (·.setIfInBounds 2 (.ref b))) }):wpAny (model prog w) A (raiseNew (α:=α) (.ref a)) Q E s:=by
 unfold raiseNew
 refine wpAny_bind (wpAny_handled ?_)
 rw[hh]
 show wpAny _ _ (if (Value.ref b != Value.ref a)=true then _ else _) _ _ s
 rw[if_pos (by simpa using hab)]
 refine wpAny_bind (wpAny_holding (unchain_ok x (wpAny_bind ?_)))
 exact wpAny_setField (a:=a) ha hd hz (wpAny_throw h)
theorem raise_own {α:Type}{a:Addr}{Q:α→Shared→Prop}(hh:A.handled=some (.ref a))(h:E (.ref a) s):wpAny (model prog w) A (raiseNew (α:=α) (.ref a)) Q E s:=by
 unfold raiseNew
 refine wpAny_bind (wpAny_handled ?_)
 rw[hh]
 show wpAny _ _ (if (Value.ref a != Value.ref a)=true then _ else _) _ _ s
 rw[if_neg (by simp)]
 exact wpAny_throw h
theorem next_tuple_endH {it t b:Addr}{i:Nat}{items}{Q:Option Value→Shared→Prop}(hh:A.handled=some (.ref b))(x:NoCtx s.heap b)(hb:b≠it)
  (hit:IsTupIter s.heap it t i) (ht:IsTup s.heap t items) (hx:items[i]?=none)
  (hQ:∀h',Heap.ExtBut it s.heap h'→Q none { s with heap:=h' }):wpAny (model prog w) A (pyNext (.ref it)) Q E s:=by
 obtain⟨o,ho,hc,hd⟩:=id hit
 obtain⟨ol,hol,_,nl,hdl⟩:=ht
 unfold pyNext
 refine wpAny_bind (wpAny_attempt (wpAny_callSpecial?_slot (name:=Str.ofString "__next__") hit.typeIs slot_tupleiter_next
  (wpAny_call_entry slot_tupleiter_next hit.typeIs entry_tupleiter_next ?_ (args_tupleiter_next _))))
 show wpAny _ _ (field (.ref it) 0 >>= _) _ _ s
 refine wpAny_bind (wpAny_field ho hd (x:=.ref t) rfl ?_)
 show wpAny _ _ (if (Value.ref t==Value.none)=true then _ else _) _ _ s
 rw[if_neg (show ¬((Value.ref t==Value.none)=true)from Bool.false_ne_true)]
 show wpAny _ _ (field (.ref it) 1 >>= _) _ _ s
 refine wpAny_bind (wpAny_field ho hd (x:=.int i 0) rfl ?_)
 show wpAny _ _ (seqItems? (.ref t) >>= _) _ _ s
 refine wpAny_bind (wpAny_seqItems hol hdl ?_)
 simp only[Int.toNat_natCast,hx]
 refine wpAny_bind (wpAny_rule (wpAny_bind (wpAny_setField ho hd (by simp) ?_)))
 show wpAny _ _ (newExc (.type "StopIteration") [] >>= _) _ _ _
 refine wpAny_bind ?_
 simp only[newExc,newTuple]
 refine wpAny_bind (wpAny_newObj_type ?_ (by size_fits))
 refine wpAny_bind (m:=firstArgMember _ _) (wpAny_of_eq (a:=Value.none) (by first | rfl | (simp only[firstArgMember];rfl)) ?_)
 refine wpAny_newObj_type ?_ (by size_fits)
 have x2:=x.keep fun o e=>(Heap.get?_update_other s.heap (Obj.mapFields (·.setIfInBounds 0 Value.none)) (Ne.symm hb)).trans e
 have ext:Heap.ExtBut it s.heap (s.heap.update it (Obj.mapFields fun x=>x.setIfInBounds 0 Value.none)):=(Heap.SameBut.update ..).extBut
 dsimp only
 generalize s.heap.update it (Obj.mapFields fun x=>x.setIfInBounds 0 Value.none)=h1 at x2 ext ⊢
 have ext2:Heap.ExtBut it s.heap (h1.push { cls:=.type "tuple",data:=.seq #[] }):=ext.push _
 have x3:NoCtx (h1.push { cls:=.type "tuple",data:=.seq #[] }) b:=x2.keep fun o e=>Heap.get?_push_of_some _ e
 generalize h1.push { cls:=.type "tuple",data:=.seq #[] }=h2 at x3 ext2 ⊢
 generalize hob:({ cls:=.type "StopIteration",data:=.fields (#[Value.ref h1.objs.size,Value.none,Value.none,Value.none,Value.bool false,Value.none]++ownMembersOf (.type "StopIteration") []) }:Obj)=ob
 have x4:NoCtx (h2.push ob) b:=x3.keep fun o e=>Heap.get?_push_of_some _ e
 have hlt:b<h2.objs.size:=by obtain⟨_,_,e,_,_⟩:=x3;exact Heap.lt_size e
 have hself:(h2.push ob).get? h2.objs.size=some ob:=Heap.get?_push_size _ (by rw[←hob];rfl)
 refine raise_ctx (va:=#[Value.ref h1.objs.size,Value.none,Value.none,Value.none,Value.bool false,Value.none]++ownMembersOf (.type "StopIteration") []) (show A.in1.handled=_ from hh) (Nat.ne_of_lt hlt) x4 hself (by rw[←hob]) (by rw[Array.size_append];exact Nat.lt_of_lt_of_le (by decide:2<6) (Nat.le_add_right 6 _)) ?_
 refine wpAny_bind (wpAny_isInstance (T := "StopIteration") (b:=true) ⟨_,Heap.get?_update_self _ hself (by rw[←hob];rfl),by rw[Obj.cls_mapFields,←hob]⟩ isSubtype_stop ?_)
 exact wpAny_pure (hQ _ fun c o hc e=>by
  have e2:=ext2 c o hc e
  exact(Heap.get?_update_other _ _ (Ne.symm (Nat.ne_of_lt (Heap.lt_size e2)))).trans (Heap.get?_push_of_some _ e2))
theorem unpack_H {t b:Addr}{items:Array Value}{Q:List Value→Shared→Prop}(hh:A.handled=some (.ref b))(x:NoCtx s.heap b)(ht:IsTup s.heap t items)
  (hQ:∀h',Heap.ExtBut s.heap.objs.size s.heap h'→Q items.toList { s with heap:=h' }):wpAny (model prog w) A (unpackItems (.ref t) items.size none) Q E s:=by
 have hlt:t≠s.heap.objs.size:=by obtain⟨o,ho,_⟩:=ht;exact Nat.ne_of_lt (Heap.lt_size ho)
 have hbt:b≠s.heap.objs.size:=by obtain⟨_,_,e,_,_⟩:=x;exact Nat.ne_of_lt (Heap.lt_size e)
 unfold unpackItems
 refine wpAny_bind ?_
 ·unfold notIterableAtAll
  refine wpAny_bind (wpAny_specialOf ht.typeIs slot_tuple_iter.lookup ?_)
  refine wpAny_pure ?_
  simp only[Bool.false_eq_true,if_false]
  refine wpAny_bind (wpAny_holding (iter_tuple ht ?_))
  refine wpAny_bind (wpAny_holding (draw_tuple hlt items.size 0 _ _ ⟨_,Heap.get?_push_size _ rfl,rfl,rfl⟩ (ht.push _) (by omega) fun h₁ hit₁ hs₁=>?_))
  rw[List.drop_zero,List.take_of_length_le (show items.toList.length≤items.size by simp),if_neg (by simp)]
  have ht₁:IsTup h₁ t items:=(ht.push _).extBut hs₁.extBut hlt
  have x1:NoCtx h₁ b:=(x.keep fun o e=>Heap.get?_push_of_some _ e).keep fun o e=>hs₁.extBut _ _ hbt e
  refine wpAny_bind (wpAny_holding (next_tuple_endH hh x1 hbt hit₁ ht₁ (by simp) fun h₂ he₂=>?_))
  simp only[Option.isSome_none,Bool.false_eq_true,if_false]
  exact wpAny_pure (hQ h₂ fun b o hb e=>he₂ b o hb (hs₁.extBut b o hb (Heap.get?_push_of_some _ e)))
end

theorem name_goes {M:Model}{A:Around}{E:Value→Shared→Prop}{s:Shared}{env:Env}{n:Str}{pos:Pos}{m:Str→Option Value}{Q:Unit→Shared→Prop}(hl:env.kindOf n=some .local)(hn:s.heap.Ns env.locals m)
  (hp:(env.scope.kind==.class||(env.scope.kind==.module&&env.locals != env.globals))=false)
  (h:∀h' m',h'.Ns env.locals m'→(∀x,x≠n→m' x=m x)→Heap.SameBut env.locals s.heap h'→Q () { s with heap:=h',toks:=s.toks+1 }):
  wpAny M A (do bindName env n .none;unbindBehindTheSuite env n pos) Q E s:=by
 refine wpAny_bind (wpAny_bindName (wpAny_storeName_local hl hn (fun h₁ hn₁ hs₁=>?_) hp))
 unfold unbindBehindTheSuite unbindName
 refine wpAny_onRaise (wpAny_bind (wpAny_point (wpAny_bind ?_)))
 unfold deleteName
 simp only[hl,hp]
 rw[if_neg (by decide)]
 refine wpAny_bind (wpAny_nsDel_keeps hn₁ fun h₂ v hn₂ hs₂=>?_)
 simp only[if_true,Option.isSome_some,Bool.not_true,Bool.false_eq_true,if_false]
 exact wpAny_pure (wpAny_point (h h₂ _ hn₂ (fun x hx=>by simp[hx]) (hs₁.trans hs₂)))
section
variable {c:Cx}{n m:Nat}{A:Around}{f:FrI}{fs:List FrI}{s:Shared}{μ:Addr→Prop}{ρ:List (Addr × Addr)}{σ:List Cell}{nm:List Str}{sc:Scope}{fr:List (Option V)}{e:Expr}{r:R V}
theorem glob_at (P:Prog c)(I:Inv c (f::fs) μ ρ σ s.heap)(hgl:f.env.globals=mainGlobals){y:Str}(hd:notDebug y=true)(hk:f.env.scope.names.lookup y=some .globalImplicit){x:Value}(hx:c.mg y=some x){p:Pos}{M:Model}{Q E:Value→Shared→Prop}(h:Q x s):wpAny M A (eval (.Name y p) f.env) Q E s:=by
 obtain⟨_,_,hkf,_⟩:=I.frames f List.mem_cons_self
 refine Calls.Name_function_global hkf hk (Calls.loadGlobal_global (by rw[hgl];exact P.T.g.keeps fun a o e=>(I.base a o e).1) hx h) (not_debug hd).1
set_option tactic.hygienic true in theorem loc_at (I:Inv c (f::fs) μ ρ σ s.heap)(hsc:f.env.scope=sc)(F:FrRep c s.heap μ ρ f nm fr){i:Nat}{y:Str}{v:V}(hy:trLoc nm sc i=some y)(hv:fr[i]?=some (some v)){p:Pos}{M:Model}{Q E:Value→Shared→Prop}(h:∀x,VRep c s.heap μ ρ v x→Q x s):wpAny M A (eval (.Name y p) f.env) Q E s:=by
 unfold trLoc at hy
 split at hy
 ·rename_i y' hn
  split at hy
  ·rename_i hc
   obtain rfl:=oi hy
   obtain⟨hd,hcd⟩:=not_debug (by simp only[Bool.and_eq_true]at hc;exact hc.1)
   obtain⟨_,hl,hk,hns,_⟩:=I.frames f List.mem_cons_self
   refine wpAny_Name ?_ hd
   rcases F i _ v hn hv with⟨k,x,hx,rep⟩| ⟨k,ca,o,x,hca,ho,hd',hnm,rep⟩
   ·exact wpAny_loadName_local hk k (hl▸hns) hx (h x rep)
   ·rcases k with k | k
    ·exact wpAny_loadName_cell hk k hca ⟨o,ho,hd'⟩ (h x rep)
    ·exact wpAny_loadName_free hk k hca ⟨o,ho,hd'⟩ (h x rep) hcd
  ·exact n0 hy
 ·exact n0 hy
theorem store_at (I:Inv c (f::fs) μ ρ σ s.heap)(hsc:f.env.scope=sc)(F:FrRep c s.heap μ ρ f nm fr){i:Nat}{y:Str}(hy:trSet nm sc i=some y){v:V}{x:Value}(rep:VRep c s.heap μ ρ v x){M:Model}{Q:Unit→Shared→Prop}{E:Value→Shared→Prop}
  (k:∀m' s',St c (f.upd m'::fs) s μ ρ σ s' μ ρ→FrRep c s'.heap μ ρ (f.upd m') nm (fr.set i (some v))→(∀a o,a≠f.L→s.heap.get? a=some o→s'.heap.get? a=some o)→Q () s'):wpAny M A (storeName f.env y x) Q E s:=by
 obtain⟨h1,h2,h3,h4⟩:=trSet_eq hy
 obtain⟨_,hl,hkf,hns,mm,_⟩:=I.frames f List.mem_cons_self
 have hk:f.env.kindOf y=some .local:=by show f.env.scope.names.lookup y=_;rw[hsc];exact h3
 refine wpAny_storeName_local hk (hl▸hns) (fun h' hn hs=>?_) (by rw[hkf];rfl)
 rw[hl]at hn hs
 obtain⟨I',g⟩:=I.frame hn hs
 exact k _ _ ⟨I',g,List.prefix_refl _,rfl,rfl⟩ ((F.set hk h1 h4 rep).mono g (List.prefix_refl _)) fun a o n e=>(hs.2 a n).trans e
theorem unbind_at (I:Inv c (f::fs) μ ρ σ s.heap)(hsc:f.env.scope=sc)(F:FrRep c s.heap μ ρ f nm fr){i:Nat}{y:Str}(hy:trSet nm sc i=some y){pos:Pos}{M:Model}{Q:Unit→Shared→Prop}{E:Value→Shared→Prop}
  (k:∀m' s',St c (f.upd m'::fs) s μ ρ σ s' μ ρ→FrRep c s'.heap μ ρ (f.upd m') nm (fr.set i none)→(∀a o,a≠f.L→s.heap.get? a=some o→s'.heap.get? a=some o)→Q () s'):wpAny M A (do bindName f.env y .none;unbindBehindTheSuite f.env y pos) Q E s:=by
 obtain⟨h1,h2,h3,h4⟩:=trSet_eq hy
 obtain⟨_,hl,hkf,hns,mm,_⟩:=I.frames f List.mem_cons_self
 have hk:f.env.kindOf y=some .local:=by show f.env.scope.names.lookup y=_;rw[hsc];exact h3
 refine name_goes hk (hl▸hns) (by rw[hkf];rfl) fun h' m' hn hm hs=>?_
 rw[hl]at hn hs
 obtain⟨I',g⟩:=I.frame hn hs
 refine k m' _ ⟨I',g,List.prefix_refl _,rfl,rfl⟩ (fun j z u e1 e2=>?_) fun a o n e=>(hs.2 a n).trans e
 by_cases q:j=i
 ·subst q
  rw[List.getElem?_set]at e2
  simp only[if_true]at e2
  split at e2<;>cases e2
 ·rw[List.getElem?_set_ne (Ne.symm q)]at e2
  rcases(F.mono g (List.prefix_refl _)) j z u e1 e2 with⟨a,x',b,d⟩| r
  ·exact .inl ⟨a,x',(hm z fun e=>q (nodup_get h4 (e▸e1) h1)).trans b,d⟩
  ·exact .inr r
theorem trLoc_nd {i:Nat}{y:Str}(h:trLoc nm sc i=some y):notDebug y=true:=by
 unfold trLoc at h
 cases q:nm[i]? with
 |none=>rw[q]at h;exact Mine.n0 h
 |some y' =>
  rw[q]at h
  obtain⟨hc,rfl⟩:=ifI h
  exact(Bool.and_eq_true_iff.mp hc).1
inductive AtT (c:Cx)(nm:List Str)(sc:Scope)(o g h:Nat)(ps:List Pos)(e:Expr):Prop
 |mk (y:Str)(hy:trLoc nm sc o=some y)(l1:g≤10)(l2:h≤10)(he:e=.Attribute (.Attribute (.Name y (pa ps 0)) (c.an g) (pa ps 1)) (c.an h) (pa ps 2))
theorem atT {o g h:Nat}{ps:List Pos}(H:trAt c nm sc o g h ps=some e):AtT c nm sc o g h ps e:=by
 obtain⟨y,hy,H⟩:=bI H
 obtain⟨q,H⟩:=ifI H
 obtain⟨a,b⟩:=Bool.and_eq_true_iff.mp q
 exact⟨y,hy,Nat.le_of_ble_eq_true a,Nat.le_of_ble_eq_true b,H.symm⟩
theorem at_go (P:Prog c)(I:Inv c (f::fs) μ ρ σ s.heap)(hsc:f.env.scope=sc)(F:FrRep c s.heap μ ρ f nm fr){o g h:Nat}{ps:List Pos}{w:V}(hx:atP o g h fr σ=some w)(ht:AtT c nm sc o g h ps e){A':Around}{Q E:Value→Shared→Prop}(k:∀y tk,VRep c s.heap μ ρ w y→Q y { s with toks:=tk }):
  wpAny (model c.prog c.w) A' (eval e f.env) Q E s:=by
 obtain⟨x,h0,hx⟩:=bI hx
 obtain⟨q,h1,h2⟩:=bI hx
 obtain⟨y,hy,l1,l2,rfl⟩:=ht
 rw[arm_eval_Attribute,wp_base (M:=model c.prog c.w) (o:=.Attribute (.Name y (pa ps 0)) (c.an g) (pa ps 1)) rfl]
 refine wpAny_bind ?_
 rw[arm_eval_Attribute,wp_base (M:=model c.prog c.w) (o:=.Name y (pa ps 0)) rfl]
 refine wpAny_bind (loc_at I hsc F hy (joinO h0) fun v rv=>?_)
 refine wpAny_bind (wpAny_standAt (wpAny_bind (wpAny_holding (I.field P l1 rv h1 fun z rz=>?_))))
 refine wpAny_bind (wpAny_letTemporaryGo (wpAny_pure ?_))
 refine wpAny_bind (wpAny_standAt (wpAny_bind (wpAny_holding (Inv.field (s:={ s with toks:=s.toks+1 }) P I l2 rz h2 fun z rz=>?_))))
 exact wpAny_bind (wpAny_letTemporaryGo (wpAny_pure (k _ _ rz)))
theorem fm2 {α β:Type}{f:α→Option β}{a b:α}{x y:β}(h1:f a=some x)(h2:f b=some y):[a,b].filterMap f=[x,y]:=by
 rw[List.filterMap_cons,h1]
 show x::List.filterMap f [b]=_
 rw[List.filterMap_cons,h2]
 rfl
theorem ed2 {ya yb:Str}(q:(yb==ya)=false):[ya,yb].eraseDups.length=2:=by
 show(match ((yb==ya)||false)with | true=>List.eraseDupsBy.loop (fun x y:Str=>x==y) [] [ya]| false=>List.eraseDupsBy.loop (fun x y:Str=>x==y) [] [yb,ya]).length=2
 rw[q]
 rfl
theorem two_none {b:Bool}(h:(b&&(false&&true))=true):False:=by
 cases b<;>cases h
theorem two_ne {ya yb:Str}{l:List Str}(q:(yb==ya)=false)(h:l=[ya,yb]):¬((l.length != 2||l.eraseDups.length != l.length)=true):=by
 subst h
 rw[ed2 q]
 exact Bool.false_ne_true
theorem two_swaps {ya yb:Str}{pa pb:Pos}{kk k:Nat}{pt p:Pos}{x y:Expr}{env:Env}(hk:env.scope.kind=.function)(ha:env.kindOf ya=some .local)(hb:env.kindOf yb=some .local)(hl:pa.line=pb.line)(hne:ya≠yb)
  (hx:∃u q,x=.Name u q) (hy:∃u v w,y=.Attribute u v w) (hd:∀u q,x=.Name u q→(u==("__debug__" : Str))=false):swappedStores [.Tuple [.Name ya pa,.Name yb pb] kk pt] (.Tuple [x,y] k p) env=pure (some [ya,yb]):=by
 obtain⟨u,q,rfl⟩:=hx
 obtain⟨u',v,w,rfl⟩:=hy
 have hbk:env.blockKind=.function:=by unfold Env.blockKind;rw[hk];rfl
 have q:(yb==ya)=false:=beq_eq_false_iff_ne.mpr (Ne.symm hne)
 have q1:(env.kindOf ya==some .local&&pa.line==pa.line)=true:=Bool.and_eq_true_iff.mpr ⟨by rw[ha];rfl,beq_self_eq_true _⟩
 have q2:(env.kindOf yb==some .local&&pb.line==pa.line)=true:=Bool.and_eq_true_iff.mpr ⟨by rw[hb];rfl,by rw[hl];exact beq_self_eq_true _⟩
 refine(if_neg (fun h=>by rw[hbk]at h;exact Bool.false_ne_true h)).trans ?_
 refine(if_neg Bool.false_ne_true).trans ?_
 refine(if_neg (two_ne q ?_)).trans ?_
 ·refine fm2 ?_ ?_
  ·exact if_pos q1
  ·exact if_pos q2
 refine(if_neg Bool.false_ne_true).trans ?_
 refine(if_neg (fun h=>two_none (b:=u==("__debug__" : Str)) h)).trans ?_
 refine congrArg (fun l=>(pure (some l):Sem (Option (List Str)))) (fm2 ?_ ?_)
 ·exact if_pos q1
 ·exact if_pos q2
structure HC (c:Cx)(A:Around)(f:FrI)(fs:List FrI)(s:Shared)(μ:Addr→Prop)(ρ:List (Addr × Addr))(σ:List Cell)(nm:List Str)(sc:Scope)(fr:List (Option V))(e:Nat)(b:Addr):Prop where
 P3:Prog3 c
 inv:Inv c (f::fs) μ ρ σ s.heap
 hsc:f.env.scope=sc
 F:FrRep c s.heap μ ρ f nm fr
 hA:A.handled=some (.ref b)
 hi:ρ[e]?=some (b,b)
 hc:excK σ[e]?=some 0
 nt:Noted σ e s.heap μ b
noncomputable def HN (c:Cx)(f:FrI)(fs:List FrI)(s:Shared)(μ:Addr→Prop)(ρ:List (Addr × Addr))(σ:List Cell)(nm:List Str)(i:Nat)(o:RS)(Q:Flow→Shared→Prop):Prop :=
 ∀m' fr' s' μ',o=.nx (fr'.set i none) σ→St c (f.upd m'::fs) s μ ρ σ s' μ' ρ→FrRep c s'.heap μ' ρ (f.upd m') nm fr'→Q .next s'
noncomputable def HE (c:Cx)(f:FrI)(fs:List FrI)(s:Shared)(μ:Addr→Prop)(ρ:List (Addr × Addr))(i:Nat)(fr:List (Option V))(o:RS)(E:Value→Shared→Prop):Prop :=
 ∀j xa σ' s',o=.ex j (fr.set i none) σ'→St c (f::fs) s μ ρ σ' s' μ ρ→ρ[j]?=some (xa,xa)→Fly σ' j s'.heap μ xa→E (.ref xa) s'
theorem HC.nctx {b:Addr}{ei:Nat}(C:HC c A f fs s μ ρ σ nm sc fr ei b){fs':List (Nat × V)}(he:σ[ei]?=some (.exc 0 fs')):NoCtx s.heap b:=by
 obtain⟨pp,hpp,ca⟩:=C.inv.cells.get he
 obtain rfl:=oi (C.hi.symm.trans hpp)
 cases ca with
 |exc z ha eo o1 o2 o3 mm e2 n2 frep t cx=>exact⟨_,_,eo,o3,cx⟩
theorem h_nm {i ei j k:Nat}{b:Addr}{ps:List Pos}{h:Stmt}{o:RS}(C:HC c A f fs s μ ρ σ nm sc fr ei b)(ht:trH c nm sc (.nm j k ps)=some h)(hh:hndV (.nm j k ps) i ei fr σ=some o)
  {Q:Flow→Shared→Prop} {E:Value→Shared→Prop} (hN:HN c f fs s μ ρ σ nm i o Q):wpAny (model c.prog c.w) A (execs [h] f.env) Q E s:=by
 obtain⟨yj,hyj,ht⟩:=bI ht
 obtain⟨yk,hyk,ht⟩:=bI ht
 obtain⟨v,hv,ho⟩:=bI hh
 obtain rfl:=oi ht
 refine wpAny_execs_cons (wpAny_Assign_Name (loc_at C.inv C.hsc C.F hyk (joinO hv) fun x rx=>?_) rfl)
 refine store_at C.inv C.hsc C.F hyj rx fun m6 s₆ st6 hf6 _=>?_
 exact wpAny_execs_nil (hN _ _ _ _ (oi ho).symm st6 hf6)
theorem h_tp {i ei:Nat}{a b k o g h kk kt:Nat}{x:Addr}{ps:List Pos}{t:Stmt}{r:RS}(C:HC c A f fs s μ ρ σ nm sc fr ei x)(ht:trH c nm sc (.tp a b k o g h kk kt ps)=some t)(hh:hndV (.tp a b k o g h kk kt ps) i ei fr σ=some r)
  {Q:Flow→Shared→Prop} {E:Value→Shared→Prop} (hN:HN c f fs s μ ρ σ nm i r Q):wpAny (model c.prog c.w) A (execs [t] f.env) Q E s:=by
 obtain⟨ya,hya,ht⟩:=bI ht
 obtain⟨yb,hyb,ht⟩:=bI ht
 obtain⟨yk,hyk,ht⟩:=bI ht
 obtain⟨xe,hxe,ht⟩:=bI ht
 obtain⟨hln,ht⟩:=ifI ht
 obtain rfl:=ht
 have hxe:=atT hxe
 obtain⟨fs',he,hh⟩:=bI hh
 obtain⟨v,hv,hh⟩:=bI hh
 obtain⟨w,hx,hh⟩:=bI hh
 obtain⟨hnj,ho⟩:=ifN hh
 obtain⟨a1,_,a3,a4⟩:=trSet_eq hya
 obtain⟨b1,_,b3,_⟩:=trSet_eq hyb
 have hxa:∃u v w,xe=.Attribute u v w:=by
  obtain⟨_,_,_,_,e⟩:=hxe
  exact⟨_,_,_,e⟩
 have hne:ya≠yb:=fun z=>hnj (nodup_get a4 a1 (z▸b1))
 have hk:f.env.scope.kind=.function:=(C.inv.frames f List.mem_cons_self).kd
 have kd:∀{y},sc.names.lookup y=some .local→f.env.kindOf y=some .local:=fun h=>by show f.env.scope.names.lookup _=_;rw[C.hsc];exact h
 have hyd:(yk==("__debug__" : Str))=false:=(not_debug (trLoc_nd hyk)).1
 refine wpAny_execs_cons (Assign_Tuple_swapped ?_ rfl (two_swaps hk (kd a3) (kd b3) hln hne ⟨_,_,rfl⟩ hxa fun u q e=>by cases e;exact hyd))
 have hsp:backTo (pa ps 7) (starEach [.Name yk (pa ps 6),xe] f.env)=[(false,eval (.Name yk (pa ps 6)) f.env),(false,eval xe f.env)]:=by obtain⟨_,_,_,rfl⟩:=hxa;rfl
 refine wpAny_Tuple ?_
 rw[hsp]
 refine Calls.spliced_cons (loc_at C.inv C.hsc C.F hyk (joinO hv) fun xv rv=>?_)
 refine Calls.spliced_cons (at_go C.P3.toProg C.inv C.hsc C.F hx hxe fun xw tk rw'=>Calls.spliced_nil ⟨by rw[sizeLine_eq];show 2≤_;decide,?_⟩)
 have stp:=St.push C.inv { cls:=.type "tuple",data:=.seq [xv,xw].toArray } (tk:=tk)
 have it:IsTup (s.heap.push { cls:=.type "tuple",data:=.seq [xv,xw].toArray }) s.heap.objs.size #[xv,xw]:=⟨_,Heap.get?_push_size _ rfl,rfl,_,rfl⟩
 refine unpack_H (items:=#[xv,xw]) C.hA ((C.nctx (excC0_ he)).keep fun o e=>Heap.get?_push_of_some _ e) it fun h' hext=>?_
 obtain⟨μ'',_,st2⟩:=St.kept (h':=h') stp.inv fun b o e=>hext b o (Nat.ne_of_lt (Heap.lt_size e)) e
 have st3:=stp.trans (st2 tk)
 have F3:=C.F.mono st3.grow st3.pre
 refine assignInOrder_cons (wpAny_bindName (store_at st3.inv C.hsc F3 hyb (rw'.mono st3.grow st3.pre) fun m1 s1 st4 F4 _=>?_))
 refine assignInOrder_cons (wpAny_bindName (store_at (f:=f.upd m1) st4.inv C.hsc F4 hya ((rv.mono st3.grow st3.pre).mono st4.grow st4.pre) fun m2 s2 st5 F5 _=>?_))
 refine assignInOrder_nil (wpAny_execs_nil (hN m2 _ _ _ ?_ ((st3.trans st4).trans st5) F5))
 rw[←ho,List.set_comm _ _ hnj]
theorem exc_obj (I:Inv c (f::fs) μ ρ σ s.heap){ei:Nat}{b:Addr}(hc:excK σ[ei]?=some 0)(hi:ρ[ei]?=some (b,b)):∃C' oo vs,c.fnA 0=some C'∧s.heap.get? b=some oo∧oo.cls=.ref C'∧oo.data=.fields vs:=by
 obtain⟨fs',h | h⟩:=excO hc
 all_goals
  obtain⟨pp,hpp,ca⟩:=I.cells.get h
  obtain rfl:=oi (hi.symm.trans hpp)
 ·cases ca with
  |exc z ha eo o1 o2 o3=>exact⟨_,_,_,ha,eo,o1,o3⟩
 ·cases ca with
  |exd z ha eo o1 o2 o3=>exact⟨_,_,_,ha,eo,o1,o3⟩
structure ExcA (c:Cx)(h:Heap)(μ:Addr→Prop)(C' x:Addr)(oo:Obj)(vs:Array Value):Prop where
 ha:c.fnA 0=some C'
 eo:h.get? x=some oo
 o1:oo.cls=.ref C'
 o3:oo.data=.fields vs
 tb:TbI h μ vs
 cx:vs[2]?=some .none
theorem Inv.excA (I:Inv c (f::fs) μ ρ σ s.heap){j:Nat}{fs':List (Nat × V)}(hc:σ[j]?=some (.exc 0 fs')){xa d:Addr}(hi:ρ[j]?=some (xa,d)):xa=d∧∃C' oo vs,ExcA c s.heap μ C' xa oo vs:=by
 obtain⟨pp,hpp,ca⟩:=I.cells.get hc
 obtain rfl:=oi (hi.symm.trans hpp)
 cases ca with
 |exc z ha eo o1 o2 o3 mm e2 n2 frep t cx=>exact⟨rfl,_,_,_,ha,eo,o1,o3,t,cx⟩
theorem ExcA.fly {C' x:Addr}{oo:Obj}{vs:Array Value}{h:Heap}{j:Nat}(a1:h.get? x=some oo)(a2:oo.cls=.ref C')(a3:oo.data=.fields vs)(tb:TbI h μ vs)(nn:∀C fs,σ[j]?≠some (.new C fs)):Fly σ j h μ x:=by
 refine⟨nn,oo,vs,a1,a3,?_⟩
 cases tb with
 |no e=>exact .inl e
 |tb T e t =>
  obtain⟨oT,ts,b1,b2,b3,b4,b5⟩:=t
  exact .inr ⟨T,oT,ts,e,fun q=>(by subst q;rw[a1]at b1;cases b1;rw[a2]at b2;cases b2),b1,b2,b3,b4,b5⟩
theorem exc_flight (I:Inv c (f::fs) μ ρ σ s.heap){j:Nat}{fs':List (Nat × V)}(hc:σ[j]?=some (.exc 0 fs')){xa:Addr}(hi:ρ[j]?=some (xa,xa)){A':Around}{Q:Unit→Shared→Prop}{E:Value→Shared→Prop}(hQ:∀s',St c (f::fs) s μ ρ σ s' μ ρ→Q () s'):wpAny (model c.prog c.w) A' (setFlight (.ref xa) none) Q E s:=by
 obtain⟨_,C',oo,vs,X⟩:=I.excA hc hi
 have nn:∀C fs,σ[j]?≠some (.new C fs):=fun C fs q=>by rw[hc]at q;cases q
 obtain⟨_,oe,vs',h2,h3,h4⟩:=ExcA.fly (σ:=σ) (j:=j) X.eo X.o1 X.o3 X.tb nn
 rcases h4 with h4 | ⟨T,oT,ts,t1,t2,t3,t4,t5,t6,t7⟩
 ·unfold setFlight
  refine wpAny_bind (wpAny_field h2 h3 h4 ?_)
  rw[if_neg (by decide)]
  exact wpAny_pure (hQ s (.refl I))
 ·exact flight_ok I hi ⟨nn,oe,vs',T,oT,ts,h2,h3,t1,t2,t3,t4,t5,t6,t7⟩ fun s' st _=>hQ s' st
theorem ctx_set (I:Inv c (f::fs) μ ρ σ s.heap){j:Nat}{fs':List (Nat × V)}(hc:σ[j]?=some (.exc 0 fs')){xa b:Addr}(hi:ρ[j]?=some (xa,xa)):
  St c (f::fs) s μ ρ (σ.set j (.exd 0 fs')) { s with heap:=s.heap.update xa (Obj.mapFields (·.setIfInBounds 2 (.ref b))) } μ ρ∧Fly (σ.set j (.exd 0 fs')) j (s.heap.update xa (Obj.mapFields (·.setIfInBounds 2 (.ref b)))) μ xa:=by
 have hm:=I.cells.mem _ (List.mem_of_getElem? hi)
 have cl:=I.cells.cls _ (List.mem_of_getElem? hi)
 obtain⟨pp,hpp,ca⟩:=I.cells.get hc
 obtain rfl:=oi (hi.symm.trans hpp)
 cases ca with
 |@exc _ C' _ oo vs dd _ es nn z ha eo o1 o2 o3 mm e2 n2 frep t cx =>
  have k:∀a o,a≠xa→s.heap.get? a=some o→(s.heap.update xa (Obj.mapFields (·.setIfInBounds 2 (.ref b)))).get? a=some o:=fun a o n e=>(Heap.get?_update_other _ _ (Ne.symm n)).trans e
  have hself:=Heap.get?_update_self (Obj.mapFields (·.setIfInBounds 2 (Value.ref b))) eo (Obj.isFreed_of_fields (Obj.data_mapFields o3 _))
  have t2:TbI (s.heap.update xa (Obj.mapFields (·.setIfInBounds 2 (.ref b)))) μ (vs.setIfInBounds 2 (.ref b)):=by
   cases t.step (IsTb.but k cl)with
   |no e=>exact .no (by rw[Array.getElem?_setIfInBounds_ne (by decide)];exact e)
   |tb T e t=>exact .tb T (by rw[Array.getElem?_setIfInBounds_ne (by decide)];exact e) t
  have g:=grow_but k hm
  have hcl:(oo.mapFields (·.setIfInBounds 2 (Value.ref b))).cls=.ref C':=(Obj.cls_mapFields _ _).trans o1
  have hdc:(oo.mapFields (·.setIfInBounds 2 (Value.ref b))).dict=some dd:=by obtain⟨cc,d0,dt,sl⟩:=oo;cases o3;exact o2
  refine⟨St.set I hi (Heap.SameBut.update ..) hm (.exd z ha hself hcl hdc (Obj.data_mapFields o3 _) mm (g _ _ e2 n2).1 n2 (frep.mono g (List.prefix_refl _)) t2),ExcA.fly hself hcl (Obj.data_mapFields o3 _) t2 fun C fs q=>?_⟩
  rw[List.getElem?_set]at q
  simp only[if_true]at q
  split at q<;>cases q
theorem h_rs {i ei o g h b k1 k2:Nat}{a:Addr}{ps:List Pos}{t:Stmt}{r:RS}(C:HC c A f fs s μ ρ σ nm sc fr ei a)(ht:trH c nm sc (.rs o g h b k1 k2 ps)=some t)(hh:hndV (.rs o g h b k1 k2 ps) i ei fr σ=some r)
  {Q:Flow→Shared→Prop} {E:Value→Shared→Prop} (hE:HE c f fs s μ ρ i fr r E):wpAny (model c.prog c.w) A (execs [t] f.env) Q E s:=by
 obtain⟨xe,hxe,ht⟩:=bI ht
 obtain⟨yb,hyb,ht⟩:=bI ht
 obtain⟨y1,hy1,ht⟩:=bI ht
 obtain⟨y2,hy2,ht⟩:=bI ht
 obtain rfl:=oi ht
 obtain⟨w,hx,hh⟩:=bI hh
 obtain⟨u,hb,hh⟩:=bI hh
 obtain⟨t,hc,hh⟩:=bI hh
 obtain⟨v,hv,hh⟩:=bI hh
 have hv:=joinO hv
 have hr:=rahO hh
 obtain⟨z1,z2,rfl,rfl,rfl⟩:=ii_ (g:=fun x y=>decide (y≤x)) hc
 refine wpAny_execs_cons ?_
 show wpAny _ A (do standAt (pa ps 8);raiseStmt f.env (some (do let v ←eval (.IfExp (.Compare xe [.GtE] [.Name yb (pa ps 3)] (pa ps 4)) (.Name y1 (pa ps 5)) (.Name y2 (pa ps 6)) (pa ps 7)) f.env;standAt (pa ps 8);pure v)) none) _ _ s
 refine raise_stmt C.P3 (wpAny_IfExp (wpAny_isTrue_Compare1 (at_go C.P3.toProg C.inv C.hsc C.F hx (atT hxe) fun xw tk rw'=>?_) rfl))
 have st0:St c (f::fs) s μ ρ σ { s with toks:=tk } μ ρ:=.toks C.inv
 refine loc_at st0.inv C.hsc C.F hyb (joinO hb) fun xu ru=>?_
 obtain⟨_,rfl⟩:=rw'.int_
 obtain⟨_,rfl⟩:=ru.int_
 refine PySem.P.ge_int (wpAny_truthy_bool ?_)
 have fin:∀{Q:Flow→Shared→Prop} xv,VRep c s.heap μ ρ v xv→∃xa C' oo vs,xv=.ref xa∧c.K.In s.heap∧c.fnA 0=some C'∧s.heap.get? xa=some oo∧oo.cls=.ref C'∧oo.data=.fields vs ∧
   wpAny (model c.prog c.w) A (do setFlight (.ref xa) none;raiseNew (.ref xa)) Q E { s with toks:=tk }:=by
  intro Q xv rv
  have K:c.K.In s.heap:=fun a o e=>(C.inv.base a o (C.P3.XK a o e)).1
  cases hr with
  |same hv ho =>
   subst hv
   obtain⟨xa,d,rfl,hi⟩:=rv.ref_
   obtain⟨rfl,rfl⟩:=Prod.mk.inj (oi (C.hi.symm.trans hi))
   obtain⟨C',oo,vs,ha,eo,o1,o3⟩:=exc_obj C.inv C.hc C.hi
   refine⟨_,C',oo,vs,rfl,K,ha,eo,o1,o3,wpAny_bind (flight_ok st0.inv C.hi C.nt fun s' st nt=>raise_own C.hA ?_)⟩
   exact hE _ _ _ _ ho (st0.trans st) C.hi nt.fly
  |elder j fs0 fs1 hv hj he hcj ho =>
   subst hv
   obtain⟨xa,d,rfl,hi⟩:=rv.ref_
   obtain⟨rfl,C',oo,vs,X⟩:=C.inv.excA hcj hi
   refine⟨_,C',oo,vs,rfl,K,X.ha,X.eo,X.o1,X.o3,wpAny_bind (exc_flight st0.inv hcj hi fun s' st=>?_)⟩
   obtain⟨_,_,oo2,vs2,X2⟩:=st.inv.excA hcj hi
   obtain⟨_,_,ob,vb,Y⟩:=st.inv.excA he C.hi
   have hab:a≠xa:=fun q=>by
    subst q
    have e4:(ρ.map (·.2))[j]?=some a:=by rw[List.getElem?_map,hi];rfl
    have e5:(ρ.map (·.2))[ei]?=some a:=by rw[List.getElem?_map,C.hi];rfl
    exact hj ((List.getElem?_inj (List.getElem?_eq_some_iff.mp e4).1 C.inv.nd.n2).mp (e4.trans e5.symm))
   refine raise_ctx C.hA hab ⟨ob,vb,Y.eo,Y.o3,Y.cx⟩ X2.eo X2.o3 (Array.getElem?_eq_some_iff.mp X2.cx).1 ?_
   obtain⟨st3,fl⟩:=ctx_set (b:=a) st.inv hcj hi
   exact hE _ _ _ _ ho ((st0.trans st).trans st3) hi fl
 by_cases q:z2≤z1
 ·rw[decide_eq_true q]at hv ⊢
  rw[if_pos rfl]at hv ⊢
  exact loc_at st0.inv C.hsc C.F hy1 hv fin
 ·rw[decide_eq_false q]at hv ⊢
  rw[if_neg (by decide)]at hv ⊢
  exact loc_at st0.inv C.hsc C.F hy2 hv fin
theorem Noted.keepL {h h':Heap}{i:Nat}{a L:Addr}{m:Str→Option Value}(x:Noted σ i h μ a)(hn:h.Ns L m)(k:∀a o,a≠L→h.get? a=some o→h'.get? a=some o):Noted σ i h' μ a:=by
 obtain⟨nn,oe,vs,T,oT,ts,a1,a2,a3,a4,a5,a6,a7,a8,a9⟩:=x
 obtain⟨o,es,ep,ho,hd,_⟩:=hn
 refine⟨nn,oe,vs,T,oT,ts,k _ _ (fun q=>?_) a1,a2,a3,a4,k _ _ (fun q=>?_) a5,a6,a7,a8,a9⟩
 ·subst q;rw[a1]at ho;cases ho;rw[a2]at hd;cases hd
 ·subst q;rw[a5]at ho;cases ho;rw[a7]at hd;cases hd
theorem h_all {h:Hn}{i ei:Nat}{b:Addr}{t:Stmt}{o:RS}(C:HC c A f fs s μ ρ σ nm sc fr ei b)(ht:trH c nm sc h=some t)(hh:hndV h i ei fr σ=some o){Q:Flow→Shared→Prop}{E:Value→Shared→Prop}(hN:HN c f fs s μ ρ σ nm i o Q)(hE:HE c f fs s μ ρ i fr o E):wpAny (model c.prog c.w) A (execs [t] f.env) Q E s:=by
 induction h using Hn.casesOn with
 |nm=>exact h_nm C ht hh hN
 |tp=>exact h_tp C ht hh hN
 |rs=>exact h_rs C ht hh hE
theorem x_try {a:List S}{g:Nat}{pg:Pos}{i:Nat}{h:Hn}{ph p:Pos}{st:Stmt}{o:RS}(P3:Prog3 c)(HS:SSs c n)(G:Go c (n+1) A f fs s μ ρ σ nm sc fr)(ht:trS c nm sc m (.try1 a g pg i h ph p)=some st)(hr:exS c.T (n+1) (.try1 a g pg i h ph p) fr σ=some o):wpAny (model c.prog c.w) A (exec st f.env) (PS c f fs s μ ρ nm o) (ES c f fs s μ ρ nm o) s:=by
 induction m using Nat.casesAuxOn with
 |zero=>exact Mine.n0 ht
 |succ m =>
  obtain⟨ae,h1,hz_⟩:=bI ht;clear ht;rename _=>ht
  obtain⟨y,hy,hz_⟩:=bI ht;clear ht;rename _=>ht
  obtain⟨hes,h2,hz_⟩:=bI ht;clear ht;rename _=>ht
  obtain⟨hcnd,rfl⟩:=ifI ht
  simp only[Bool.and_eq_true,beq_iff_eq]at hcnd
  simp only[eS_try1]at hr
  have G0:=G.less (Nat.le_succ n)
  refine wpAny_Try_except ?_
  cases h0:exSs c.T n a fr σ with
  |none=>rw[h0]at hr;cases hr
  |some o₁ =>
   rw[h0]at hr
   refine wpAny_mono (HS h1 h0 G0) (fun fl s₁ hps=>?_) fun e s₁ hes'=>?_
   ·obtain⟨m',σ',μ',ρ',st,hcase⟩:=hps
    rcases hcase with⟨fr',rfl,rfl,hf⟩| ⟨v,x,rfl,rfl,rep⟩
    ·obtain rfl:=oi hr
     exact wpAny_execs_nil ⟨m',σ',μ',ρ',st,.inl ⟨fr',rfl,rfl,hf⟩⟩
    ·obtain rfl:=oi hr
     exact⟨m',σ',μ',ρ',st,.inr ⟨v,x,rfl,rfl,rep⟩⟩
   ·obtain⟨m',σ',μ',ρ',ei,fr',b,st,rfl,rfl,hi,hfly,hf⟩:=hes'
    obtain⟨_,hck,hr⟩:=bI hr
    obtain⟨⟨rfl,rfl⟩,hh⟩:=ifO hr
    obtain⟨C',_,_,hfC,_,_,_⟩:=exc_obj st.inv hck hi
    obtain⟨q1,q2,q3⟩:=P3.exct C' hfC
    have okn:A.frames=some ((f.upd m'::fs).map (·.env)):=G.ok.f
    show wpAny _ A (noteFrame (.ref b) (f.upd m').env) _ _ s₁
    refine note_ok st.inv okn hi hfly fun s₂ μ₂ st2 nt2=>?_
    refine flight_ok st2.inv hi nt2 fun s₃ st3 nt3=>?_
    have stt:=(st.trans st2).trans st3
    have hf3:=hf.mono (st2.trans st3).grow (st2.trans st3).pre
    have hgl:=(G.ok.g f List.mem_cons_self).1
    show wpAny _ A (handleBy (.ref b) (f.upd m').env _) _ _ s₃
    refine wpAny_handleBy_cons (codeAny_handlers_test (glob_at P3.toProg st3.inv (f:=f.upd m') hgl hcnd.1 (by show f.env.scope.names.lookup _=_;rw[G.hsc];exact hcnd.2) q3 ?_)) (by intro q;cases q)
    obtain⟨C2,oo,vs,hfC2,eo,o1,o3⟩:=exc_obj st3.inv hck hi
    obtain rfl:=oi (hfC.symm.trans hfC2)
    have LT:Looks (model c.prog c.w) s₃.heap (typeOf (.ref b)) (.ref C'):=o1▸(Looks.ld eo).andThen .now
    have K3:c.K.In s₃.heap:=fun a o e=>(st3.inv.base a o (P3.XK a o e)).1
    refine(exm_one K3 LT q2).here ?_
    show codeAny _ _ _ _ s₃
    refine codeAny_handlers_suite_as ?_
    refine flight_ok st3.inv hi nt3 fun s₄ st4 nt4=>?_
    refine store_at (f:=f.upd m') st4.inv G.hsc (hf3.mono st4.grow st4.pre) hy (v:=.ref ei) (.ref (d:=b) hi) fun m5 s₅ st5 hf5 k5=>?_
    have nsL:s₄.heap.Ns f.L m':=(st4.inv.frames (f.upd m') List.mem_cons_self).ns
    refine h_all (f:=f.upd m5) ⟨P3,st5.inv,G.hsc,hf5,rfl,hi,hck,nt4.keepL nsL k5⟩ h2 hh (fun m6 fr6 s₆ μ₆ ho st6 hf6=>?_) fun j xa σ6 s₆ ho st6 hi6 fly6=>?_
    ·refine unbind_at (f:=f.upd m6) st6.inv G.hsc hf6 hy fun m7 s₇ st7 hf7 _=>?_
     exact PS.nx (m':=m7) ((((stt.trans st4).trans st5).trans st6).trans st7) ho hf7
    ·have okm:∀mm,(A.mark (some (.ref b))).frames=some ((f.upd mm::fs).map (·.env)):=fun _=>G.ok.f
     show wpAny _ (A.mark (some (.ref b))) (noteFrame (.ref xa) (f.upd m5).env) _ _ s₆
     refine note_ok (f:=f.upd m5) st6.inv (okm _) hi6 fly6 fun s₇ μ₇ st7 nt7=>?_
     have nsL7:s₇.heap.Ns f.L m5:=(st7.inv.frames (f.upd m5) List.mem_cons_self).ns
     refine unbind_at (f:=f.upd m5) st7.inv G.hsc (hf5.mono (st6.trans st7).grow (st6.trans st7).pre) hy fun m8 s₈ st8 hf8 k8=>?_
     have nt8:=nt7.keepL nsL7 k8
     obtain⟨_,oe,ve,T,_,_,a1,a2,a3,_,_,_,_,_,_⟩:=id nt8
     unfold PySem.passOn
     refine wpAny_bind (wpAny_field a1 a2 a3 ?_)
     rw[if_neg (by simp)]
     refine wpAny_bind (flight_ok st8.inv hi6 nt8 fun s₉ st9 nt9=>wpAny_throw ?_)
     show wpAny _ _ (noteFrame (.ref xa) (f.upd m8).env) _ _ s₉
     refine note_ok (f:=f.upd m8) st9.inv (okm _) hi6 nt9.fly fun s₁₀ μ₁₀ st10 nt10=>?_
     show cameBackBy _ A (f.upd m8).env _ (.ref xa) s₁₀
     refine back_ok st10.inv hi6 nt10 fun s₁₁ st11 nt11=>?_
     have stx:=((((((stt.trans st4).trans st5).trans st6).trans st7).trans st8).trans ((st9.trans st10).trans st11))
     exact⟨m8,σ6,μ₁₀,ρ',j,_,xa,stx,ho,rfl,hi6,nt11.fly,hf8.mono ((st9.trans st10).trans st11).grow ((st9.trans st10).trans st11).pre⟩
end

theorem ss_step {c:Cx}{n:Nat}(P3:Prog3 c)(H:SX c n)(HSx:SXs c n)(HT:ST c n)(HS:SSs c n)(Hall:∀k,k≤n→ST c k∧SSs c k):SS c (n+1):=by
 intro m nm sc t st ht fr σ o hr A f fs s μ ρ G
 induction t using S.casesOn with
 |expr x p=>exact x_expr H G ht hr
 |asN i pn x p=>exact x_asN H G ht hr
 |asT ts k pt x p=>exact x_asT H G ht hr
 |asA o f pa x p=>exact x_asA P3 H G ht hr
 |asI o i pi x p=>exact x_asI H G ht hr
 |ifs t a b p=>exact x_ifs HT HS G ht hr
 |whl t a p=>exact x_whl Hall G ht hr
 |forN i pn x a p=>exact x_forN H Hall G ht hr
 |forR i pn bp cp x a p=>exact x_forR H Hall G ht hr
 |forT ts k pt x a p=>exact x_forT HSx Hall G ht hr
 |ret x p=>exact x_ret H G ht hr
 |raise x p=>exact x_raise P3 H G ht hr
 |try1 a g pg i h ph p=>exact x_try P3 HS G ht hr
structure All (c:Cx)(n:Nat):Prop where
 x:SX c n
 xs:SXs c n
 b:SBool c n
 t:ST c n
 bt:SBoolT c n
 s:SS c n
 ss:SSs c n
 code:SCode c n
theorem all_zero (c:Cx):All c 0 where
 x:=fun _ _ _ _ hr=>Mine.n0 hr
 xs:=fun _ _ _ _ hr=>Mine.n0 hr
 b:=fun _ _ _ _ _ hr=>Mine.n0 hr
 t:=fun _ _ _ _ hr=>Mine.n0 hr
 bt:=fun _ _ _ _ _ hr=>Mine.n0 hr
 s:=fun _ _ _ _ hr=>Mine.n0 hr
 ss:=fun _ _ _ _ hr=>Mine.n0 hr
 code:=fun hr=>Mine.n0 hr
theorem all_to {c:Cx}(P3:Prog3 c):∀n,∀k,k≤n→All c k
 |0,k,hk=>by
  obtain rfl:=Nat.le_zero.mp hk
  exact all_zero c
 |n+1,k,hk=>by
  by_cases h:k≤n
  ·exact all_to P3 n k h
  ·obtain rfl:=Nat.le_antisymm hk (Nat.lt_of_not_le h)
   have A:=all_to P3 n
   have B:=A n (Nat.le_refl _)
   have sx:SX c (n+1):=sx_step P3 B.x B.xs B.t B.b (SCode.call B.code)
   exact⟨sx,sxs_step B.x B.xs,sb_step B.x B.b,st_step B.x B.t B.bt sx,tb_step B.t B.bt,
    ss_step P3 B.x B.xs B.t B.ss (fun k hk=>⟨(A k hk).t,(A k hk).ss⟩),sss_step B.s B.ss,scode_step B.x B.ss B.code P3.toProg2⟩
noncomputable abbrev tupNew (xs:List Value):Obj:={ cls:=.type "tuple",data:=.seq xs.toArray }
noncomputable abbrev excNew (C t:Addr):Obj:={ cls:=.ref C,data:=.fields #[.ref t,.none,.none,.none,.bool false,.none] }
structure ExcC (M:Model)(h:Heap)(C:Addr):Prop where
 obj:∃oc od cd sl,h.get? C=some ⟨oc,od,.cls cd,sl⟩∧cd.abstract=false∧cd.hasDel=false∧cd.mro.isEmpty=false
 made:Looks M h (Bind.madeBy (.ref C)) (some "Exception.__new__")
 base:Looks M h (Bind.staticBase (.ref C)) (.ref C)
 self:Looks M h (isSubtype (.ref C) (.ref C)) true
 top:Looks M h (isSubtype (.ref C) (.type "Exception")) true
 attr:Looks M h (isSubtype (.ref C) (.type "AttributeError")) false
 name:Looks M h (isSubtype (.ref C) (.type "NameError")) false
 call:Looks M h (specialOf (.ref C) "__call__") (some (.builtin "type.__call__"))
 typ:Looks M h (isInstance (.ref C) (.type "type")) true
section
variable {prog:Program}{w:World}{A:Around}{C:Addr}{R:Result→Shared→Prop}{h:Heap}{g:Array GenState}{d:Drawn}{t:Nat}{os:OsState}
theorem exc_new {rest:List Value}(Y:ExcC (model prog w) h C)(hrest:rest.length≤sizeLine)
  (hq:R (.ok (.ret (.ref (h.objs.size+1)))) ⟨(h.push (tupNew rest)).push (excNew C h.objs.size),g,d,t,os⟩):
  codeAny (model prog w) A (.builtin "Exception.__new__" ⟨.ref C::rest,[]⟩) R ⟨h,g,d,t,os⟩:=by
 have F:=PySem.F.excBase_Exception
 obtain⟨⟨oc,od,cd,sl,hC,e1,e2,e4⟩,made,base,self,top,attr,name,call,typ⟩:=Y
 have hends:=F.ends
 have here:Looks (model prog w) h (Bind.madeHere "BaseException.__new__" (.ref C)) ():=base.andThen (made.andThen (Looks.of_pure (by rw[Option.map_some,F.canon];simp only[bne_self_eq_false,Bool.false_eq_true,if_false])))
 refine codeAny_builtinAt F.entry ?_
 unfold Builtin.«BaseException.__new__»
 refine PySem.wpAt_bind ?_
 show PySem.wpAt _ _ _ (stack >>= _) _ _ _
 refine PySem.wpAt_bind (PySem.wpAt_stack fun p below=>PySem.wpAt_of_wpAny ?_)
 wp_walk
 refine PySem.wpAt_of_wpAny ?_
 rw[F.owner]
 repeat (first | simp only[Bool.not_true,Bool.false_eq_true,if_false]| lk)
 rw[if_neg (by rw[List.size_toArray];exact Nat.not_lt.mpr hrest)]
 refine wpAny_newObjAsIs_type (wpAny_bind ?_)
 show wpAny _ _ (newObjAsIs _ _ _) _ _ _
 unfold newObjAsIs classHasDel
 refine wpAny_bind (wpAny_alloc (wpAny_bind (wpAny_bind (wpAny_load (Heap.get?_push_of_some _ (Heap.get?_push_of_some _ hC)) (wpAny_pure ?_)))))
 rw[e2]
 refine wpAny_pure (wpAny_pure ?_)
 show R _ _
 rw[Heap.size_push]
 exact hq
theorem exc_check {rest:List Value}{E:Value→Shared→Prop}{Q:Unit→Shared→Prop}(Y:ExcC (model prog w) h C)(hq:Q () ⟨h,g,d,t,os⟩):
  wpAny (model prog w) A (checkBuiltinCall "Exception.__new__" ⟨.ref C::rest,[]⟩) Q E ⟨h,g,d,t,os⟩:=by
 have F:=PySem.F.excBase_Exception
 obtain⟨⟨oc,od,cd,sl,hC,e1,e2,e4⟩,made,base,self,top,attr,name,call,typ⟩:=Y
 have hstar:=F.noStar
 simp only[checkBuiltinCall,F.newKind,F.newSplit,F.newRow]
 repeat (first | simp only[bne_self_eq_false,Bool.false_eq_true,if_false,Bool.not_true]| lk)
 exact hq
theorem exc_make {rest:List Value}{init:Value}(Y:ExcC (model prog w) h C)(hrest:rest.length≤sizeLine)(hi:Looks (model prog w) h (typeLookup (.ref C) "__init__") (some init))
  (hb:∀self,Looks (model prog w) h (bindSpecial init self) (init,[self]))
  (hq:codeAny (model prog w) (A.under (.builtin "type.__call__" ⟨.ref C::rest,[]⟩)) (.call init ⟨.ref (h.objs.size+1)::rest,[]⟩) (InitBack (h.objs.size+1) R) ⟨(h.push (tupNew rest)).push (excNew C h.objs.size),g,d,t,os⟩):
  codeAny (model prog w) A (.call (.ref C) ⟨rest,[]⟩) R ⟨h,g,d,t,os⟩:=by
 have Y':=Y
 have F:=PySem.F.excBase_Exception
 obtain⟨⟨oc,od,cd,sl,hC,e1,e2,e4⟩,made,base,self,top,attr,name,call,typ⟩:=Y
 refine codeAny_of_tree ?_
 show wpAny _ _ (callAny (.ref C) _) _ _ _
 refine nd_load hC ?_
 show wpAny _ _ (callAny.viaDunder (.ref C) _) _ _ _
 unfold callAny.viaDunder
 refine wpAny_bind (call.at ?_)
 dsimp only
 rw[tc_bind]
 refine wpAny_bind (wpAny_pure (wpAny_bind (wpAny_pure ?_)))
 refine wpAny_pure (a:=Fin.again (.call (.builtin "type.__call__") ⟨.ref C::rest,[]⟩)) (And.intro rfl ?_)
 refine codeAny_call_builtin_at (Code.quiet_builtin _ (by decide +kernel)) entry_typeCall (check_slot tc_kind tc_split typ (tc_args _ _ _) ?_)
 unfold Builtin.«type.__call__»
 have hm:Looks (model prog w) h (mroOf (.ref C)) cd.mro:=((Looks.ld (part:=none) hC).andThen .now).andThen .now
 repeat (first | simp only[e4,Bool.false_eq_true,if_false]| with_reducible refine wpAny_call ?_ | lk)
 refine codeAny_call_builtin_code (Code.quiet_builtin _ F.quiet) (exc_check Y' ?_)
 refine exc_new Y' hrest ?_
 have k:∀b o,h.get? b=some o→((h.push (tupNew rest)).push (excNew C h.objs.size)).get? b=some o:=fun b o e=>Heap.get?_push_of_some _ (Heap.get?_push_of_some _ e)
 have hx:((h.push (tupNew rest)).push (excNew C h.objs.size)).get? (h.objs.size+1)=some (excNew C h.objs.size):=by heap_get
 have t1:Looks (model prog w) ((h.push (tupNew rest)).push (excNew C h.objs.size)) (typeOf (.ref (h.objs.size+1))) (.ref C):=(Looks.ld hx).andThen .now
 have s1:=self.keeps k
 have i1:=hi.keeps k
 have b1:=(hb (.ref (h.objs.size+1))).keeps k
 unfold isInstance callSpecial? specialOf
 repeat (first | with_reducible refine wpAny_call ?_ | lk)
 refine codeAny_mono hq fun r s' z=>?_
 rcases r with e | (v | _ | _ | _)<;>first | exact z | exact z.elim | skip
 obtain⟨rfl,z⟩:=z
 exact wpAny_pure (wpAny_pure z)
end
end Mine
end
section
set_option tactic.hygienic false
namespace Mine
open PySem PySem.W PySem.Spec PySem.Calls PyProof.Rows PyProof.V PySem.Builtin PySem.Builtin.ObjectAttr

section
variable {prog:Program}{w:World}{A:Around}{E:Value→Shared→Prop}{s:Shared}
set_option tactic.hygienic true in theorem dict_store {dx:Addr}{es:List DictEntry}{n:Nat}{name:PySem.Str}{tk:Tok}{v:Value}{Q:Fin→Shared→Prop}(D:s.heap.get? dx=some (dictOf es n))(hl:(getL name es).isSome=true)(hz:(putL name (PyData.keyHash w.params name) (.str name s.toks) v es).length≤1000)
  (h:∀h',Heap.SameBut dx s.heap h'→h'.get? dx=some (dictOf (putL name (PyData.keyHash w.params name) (.str name s.toks) v es) (putN name es n))→Q (.done (.ret .none)) { s with heap:=h',toks:=s.toks+1 }):
  wpAny (model prog w) A (storeInDict dx (.str name tk) name v) Q E s:=by
 have D':(s.heap.update dx (Obj.putName name (PyData.keyHash w.params name) (.str name s.toks) v)).get? dx=some (dictOf (putL name (PyData.keyHash w.params name) (.str name s.toks) v es) (putN name es n)):=by
  have:=Heap.get?_update_self (Obj.putName name (PyData.keyHash w.params name) (.str name s.toks) v) D (by rw[putName_dict];rfl)
  rwa [putName_dict]at this
 refine wpAny_bind (wpAny_pure (wpAny_bind ?_))
 unfold nsSet
 refine wpAny_bind (wpAny_bind (wpAny_askSetting (wpAny_pure (wpAny_bind (wpAny_mkText (wpAny_bind (wpAny_loadPart D ?_)))))))
 have c:(!es.toArray.any (·.key.isStr name)&&es.toArray.any (·.refKey))=false:=by
  unfold getL at hl
  rw[←Array.any_toList,←Array.any_toList]
  split at hl
  ·rename_i en he
   rw[List.any_eq_true.mpr ⟨en,List.mem_of_find?_eq_some he,List.find?_some he⟩];rfl
  ·split at hl
   ·first | exact n0 hl | exact n1 hl | cases hl
   ·rename_i z
    rw[Bool.not_eq_true]at z
    show(_&&es.any _)=false
    rw[z,Bool.and_false]
 dsimp only
 rw[aRefKeyMayBeTheName_at,c]
 refine wpAny_updatePart D ?_
 refine wpAny_bind (wpAny_lookBehind D' (pastItsLine_dict (by rw[List.size_toArray];exact Nat.le_succ_of_le (sz_ hz))) ?_)
 exact wpAny_pure (h _ (Heap.SameBut.update ..) D')
structure ExcSt (K:Frag)(C:Addr)(name:PySem.Str):Prop where
 cls:∃cd,clsIn K C=some cd∧cd.mro.isEmpty=false∧cd.mro.contains (.type "object")=true∧cd.hasDict=true∧∀self:Value,refuseLoop self "__setattr__" cd.mro=pure ()
 sa:findIn K (.ref C) "__setattr__" = some (some (.builtin "object.__setattr__"))
 tk:takerIn K C name=some none
theorem exc_osa {K:Frag}{x C:Addr}{ox:Obj}{od:Option Obj}{name:PySem.Str}{v:Value}{Q:Unit→Shared→Prop}(X:K.In s.heap)(I:InstAt s.heap x ox C od)(S:ExcSt K C name)
  (h:∀A' tk b,wpAny (model prog w) A' (storeInOwnDict (.ref x) (.ref C) (.str name tk) name v b) (fun fin s'=>fin=.done (.ret .none)∧Q () s') (fun _ _=>False) { s with toks:=s.toks+1 }):
  wpAny (model prog w) A (setAttr (.ref x) name v) Q E s:=by
 obtain⟨⟨cd,hc,ne,ho,hd,hp⟩,hs,ht⟩:=S
 refine set_plain X I hs ?_
 have SF:=PySem.F.store_object
 have sub:Looks (model prog w) s.heap (isInstance (.ref x) (.type "object")) true:=I.type.andThen (looks_mroIn X (by unfold mroIn;rw[hc,Option.bind_some,if_neg (by rw[ne];decide),ho]))
 refine codeAny_call_builtin SF.slot.plain SF.entry (@check_slot (model prog w) _ _ { s with toks:=s.toks+1 } "object.__setattr__" "object" "__setattr__" (.ref x) [.str name s.toks,v] [] _ SF.kind SF.split sub (SF.args (.ref x) (.str name s.toks) v) ?_)
 obtain⟨attr,ha,hr⟩:=Option.bind_eq_some_iff.mp ht
 have hm:Looks (model prog w) s.heap (mroOf (.ref C)) cd.mro:=(looks_clsIn X hc).andThen .now
 have L3:Looks (model prog w) s.heap (storeTaker? attr) none:=by
  induction attr using Option.casesOn with
  |none=>exact .now
  |some a =>
   obtain⟨b,hb,hb'⟩:=Option.map_eq_some_iff.mp hr
   refine(looks_takesIn X hb).andThen ?_
   first | exact n0 b | exact n1 b | cases b
   ·exact .now
   ·first | exact n0 hb' | exact n1 hb'
 rw[osa_eq,refuse_eq]
 refine wpAny_bind (wpAny_bind (I.type.here (s:={ s with toks:=s.toks+1 }) (wpAny_bind (hm.here (s:={ s with toks:=s.toks+1 }) ?_))))
 rw[hp]
 refine wpAny_pure (wpAny_bind (I.type.here (s:={ s with toks:=s.toks+1 }) (wpAny_bind ((looks_findIn X ha).here (s:={ s with toks:=s.toks+1 }) (wpAny_bind (L3.here (s:={ s with toks:=s.toks+1 }) ?_))))))
 refine wpAny_mono (h _ _ _) (fun fin s' z=>?_) fun _ _ z=>z.elim
 obtain⟨rfl,z⟩:=z
 exact z
theorem exc_set0 {K:Frag}{x C:Addr}{vs:Array Value}{sl:Array (Option Value)}{name:PySem.Str}{v:Value}{Q:Unit→Shared→Prop}(X:K.In s.heap)(hx:s.heap.get? x=some ⟨.ref C,none,.fields vs,sl⟩)(S:ExcSt K C name)
  (h:∀(h':Heap) (tk:Nat) (t:Tok) (n:Nat),(∀a o,a≠x→s.heap.get? a=some o→h'.get? a=some o)→h'.get? x=some ⟨.ref C,some s.heap.objs.size,.fields vs,sl⟩→h'.get? s.heap.objs.size=some (dictOf [⟨PyData.keyHash w.params name,.str name t,v⟩] n)→s.heap.objs.size<h'.objs.size→Q () { s with heap:=h',toks:=tk }):
  wpAny (model prog w) A (setAttr (.ref x) name v) Q E s:=by
 refine exc_osa X (od:=none) ⟨hx,rfl,rfl,trivial⟩ S fun A' tk b=>?_
 obtain⟨⟨cd,hc,ne,ho,hd,hp⟩,hs,ht⟩:=S
 refine wpAny_bind (wpAny_pure (wpAny_bind (wpAny_bind (wpAny_loadPart hx (wpAny_bind (Looks.here (s:={ s with toks:=s.toks+1 }) (looks_clsIn X hc) ?_))))))
 rw[hd]
 have hlt:=Heap.lt_size hx
 have hx1:(s.heap.push emptyDict).get? x=some ⟨.ref C,none,.fields vs,sl⟩:=Heap.get?_push_of_some _ hx
 have hx2:=Heap.get?_update_self (fun o:Obj=>{ cls:=o.cls,dict:=some s.heap.objs.size,data:=o.data,slots:=o.slots }) hx1 rfl
 have hd2:((s.heap.push emptyDict).update x fun o:Obj=>{ cls:=o.cls,dict:=some s.heap.objs.size,data:=o.data,slots:=o.slots }).get? s.heap.objs.size=some (dictOf [] 0):=by
  rw[Heap.get?_update_other _ _ (Nat.ne_of_lt hlt)]
  exact Heap.get?_push_size _ rfl
 refine wpAny_bind (wpAny_alloc (wpAny_bind (wpAny_update hx1 (wpAny_pure (a:=some s.heap.objs.size) ?_))))
 refine dict_store hd2 rfl (by show 1≤1000;decide) fun h' hsb hD=>⟨rfl,h h' _ s.toks.succ _ (fun a o na e=>?_) ?_ hD ?_⟩
 ·rw[hsb.2 a (Nat.ne_of_lt (Heap.lt_size e)),Heap.get?_update_other _ _ (Ne.symm na)]
  exact Heap.get?_push_of_some _ e
 ·rw[hsb.2 x (Nat.ne_of_lt hlt),hx2]
 ·exact Heap.lt_size hD
theorem exc_set1 {K:Frag}{x C dx:Addr}{vs:Array Value}{sl:Array (Option Value)}{es:List DictEntry}{n:Nat}{name:PySem.Str}{v:Value}{Q:Unit→Shared→Prop}(X:K.In s.heap)(hx:s.heap.get? x=some ⟨.ref C,some dx,.fields vs,sl⟩)(hdx:s.heap.get? dx=some (dictOf es n))(S:ExcSt K C name)
  (hl:(getL name es).isSome=true) (hz:(putL name (PyData.keyHash w.params name) (.str name (s.toks+1)) v es).length≤1000)
  (h:∀(h':Heap) (tk:Nat) (n':Nat),Heap.SameBut dx s.heap h'→h'.get? dx=some (dictOf (putL name (PyData.keyHash w.params name) (.str name (s.toks+1)) v es) n')→Q () { s with heap:=h',toks:=tk }):
  wpAny (model prog w) A (setAttr (.ref x) name v) Q E s:=by
 refine exc_osa X (od:=some (dictOf es n)) ⟨hx,rfl,rfl,hdx⟩ S fun A' tk b=>?_
 obtain⟨⟨cd,hc,ne,ho,hd,hp⟩,hs,ht⟩:=S
 refine wpAny_bind (wpAny_pure (wpAny_bind (wpAny_bind (wpAny_loadPart hx (wpAny_bind (Looks.here (s:={ s with toks:=s.toks+1 }) (looks_clsIn X hc) ?_))))))
 rw[hd]
 refine wpAny_pure (a:=some dx) ?_
 exact dict_store (s:={ s with toks:=s.toks+1 }) hdx hl hz fun h' hsb hD=>⟨rfl,h h' _ _ hsb hD⟩
end
end Mine
end
section
namespace Mine
open PySem PySem.W PySem.Spec PySem.Calls PyProof.Rows PyProof.V
set_option tactic.hygienic false

section
variable {prog:Program}{w:World}{A:Around}{E:Value→Shared→Prop}{s:Shared}
theorem exc_base_init {x C t0:Addr}{v:Value}{Q:Value→Shared→Prop}(hx:s.heap.get? x=some (excNew C t0))(Y:ExcC (model prog w) s.heap C)
  (h:∀h',(∀a o,a≠x→s.heap.get? a=some o→h'.get? a=some o)→h'.get? x=some (excNew C s.heap.objs.size)→h'.objs.size=s.heap.objs.size+1→Q .none { s with heap:=h' }):
  wpAny (model prog w) A (call (.builtin "Exception.__init__") [.ref x,v]) Q E s:=by
 have F:=PySem.F.excBase_Exception
 obtain⟨hh,g,d,tk,os⟩:=s
 obtain⟨⟨oc,od,cd,sl',hC,e1,e2,e4⟩,made,base,self,top,attr,name,call,typ⟩:=Y
 have hI:Looks (model prog w) hh (isInstance (.ref x) (.type "Exception")) true:=((Looks.ld (part:=none) hx).andThen .now).andThen top
 have hx1:(hh.push { cls:=.type "tuple",data:=.seq #[v] }).get? x=some (excNew C t0):=Heap.get?_push_of_some _ hx
 have hx2:=Heap.get?_update_self (Obj.mapFields fun x=>x.setIfInBounds 0 (Value.ref hh.objs.size)) hx1 rfl
 refine wpAny_call (codeAny_call_builtin F.init.plain F.initEntry ?_)
 simp only[checkBuiltinCall,F.initKind,F.initSplit,F.initRow]
 repeat (first | simp only[bne_self_eq_false,Bool.false_eq_true,if_false,Bool.not_true]| lk)
 refine wpAny_update hx1 ?_
 refine wpAny_mono (Q:=fun _ s'=>s'=⟨(hh.push { cls:=.type "tuple",data:=.seq #[v] }).update x (Obj.mapFields fun x=>x.setIfInBounds 0 (Value.ref hh.objs.size)),g,d,tk,os⟩) ?_ (fun _ s' z=>?_) fun _ _ z=>z
 ·wp_walk
  rfl
 ·subst z
  refine wpAny_pure (h _ (fun a o na e=>?_) hx2 ?_)
  ·rw[Heap.get?_update_other _ _ (Ne.symm na)]
   exact Heap.get?_push_of_some _ e
  ·rw[Heap.size_update,Heap.size_push]
end

theorem find_exc_init (K:Frag):findCls K (.type "Exception") (.type "type") "__init__" = some (.val (.builtin "Exception.__init__")):=by kernel_rfl
structure InitFn (c:Cx)(fI:Addr)(R:FnR):Prop where
 at_:c.K.lookup fI=some ⟨R.oc,R.od,.func R.fd,R.osl⟩
 code:codeIn c.K R.cdv R.qual=true
 kind:R.scope.kind=.function
 co:R.scope.isCoroutine=false
 gen:R.scope.isGenerator=false
 cell:∀x∈R.scope.names,x.2≠.cell
 l1:R.scope.names.lookup ("self" : PySem.Str)=some .local
 l2:R.scope.names.lookup ("what" : PySem.Str)=some .local
 l3:R.scope.names.lookup ("at" : PySem.Str)=some .local
 l4:R.scope.names.lookup ("Exception" : PySem.Str)=some .globalImplicit
 body:∃p0 p1 p2 p3 p4 p5 p6 p7 p8 p9 p10 p11 p12 p13,R.body=[.Expr (.Call (.Attribute (.Name "Exception" p0) "__init__" p1) [.Name "self" p2,.Name "what" p3] [] p4) p5,.Assign [.Attribute (.Name "self" p6) "what" p7] (.Name "what" p8) p9,
  .Assign [.Attribute (.Name "self" p10) "at" p11] (.Name "at" p12) p13]∧(p1.endLine==p4.line)=true
 bind:∀(s:Shared) (a b d:Value),c.K.In s.heap→BindsTo s R.fd ⟨[a,b,d],[]⟩ [("self",a),("what",b),("at",d)]
section
variable {c:Cx}{A:Around}{E:Value→Shared→Prop}{s:Shared}
theorem exc_init {C fI:Addr}{R:FnR}(P:Base c)(I:InitFn c fI R)(S1:ExcSt c.K C "what")(S2:ExcSt c.K C "at")(hB:∀a o,c.B.get? a=some o→s.heap.get? a=some o)(hlow:c.B.objs.size≤s.heap.objs.size)
  (Y:∀h,c.K.In h→ExcC (model c.prog c.w) h C) (hd:A.depth<recursionLimit) (hmg:c.mg "Exception" = none) (hmb:c.mb "Exception" = some (.type "Exception")) {x t0:Addr} (hx:s.heap.get? x=some (excNew C t0)) (hxB:c.B.objs.size≤x) {xw xa:Value} {Rr:Result→Shared→Prop}
  (h:∀d s',(∀a o,a≠x→s.heap.get? a=some o→s'.heap.get? a=some o)→s.heap.objs.size≤d→x≠d→(∃t sl,s'.heap.get? x=some ⟨.ref C,some d,.fields #[.ref t,.none,.none,.none,.bool false,.none],sl⟩) →
   (∃t1 t2 h1 h2 n,s'.heap.get? d=some (dictOf [⟨h1,.str "what" t1,xw⟩,⟨h2,.str "at" t2,xa⟩] n))→s'.gens=s.gens→s'.os=s.os→Rr (.ok (.ret .none)) s'):
  codeAny (model c.prog c.w) A (.call (.ref fI) ⟨[.ref x,xw,xa],[]⟩) Rr s:=by
 have hKs:c.K.In s.heap:=fun b o e=>hB b o (P.XK b o e)
 obtain⟨p0,p1,p2,p3,p4,p5,p6,p7,p8,p9,p10,p11,p12,p13,hbody,hpos⟩:=I.body
 refine codeAny_call_function hd (hKs _ _ I.at_) rfl I.co I.gen rfl (codeRec_of hKs I.code) (I.bind s _ _ _ hKs _ _ _ _ (wpAny_newFunctionEnv (binds:=[("self",.ref x),("what",xw),("at",xa)]) I.cell ?_ (fun h₁ hns hsb=>?_) I.kind))
 ·intro y hy
  simp only[List.mem_cons,List.not_mem_nil,or_false]at hy
  rcases hy with rfl | rfl | rfl
  ·exact I.l1
  ·exact I.l2
  ·exact I.l3
 have xkeep:∀b o,s.heap.get? b=some o→h₁.get? b=some o:=fun b o e=>(hsb.2 b (Nat.ne_of_lt (Heap.lt_size e))).trans (Heap.get?_push_of_some _ e)
 refine⟨P.T.nolimit.keeps fun b o e=>xkeep b o (hB b o e),codeAny_func ?_⟩
 rw[hbody]
 generalize henv:newEnv R.fd.scope s.heap.objs.size R.fd.globals R.fd.closure (R.fd.qualname ++ ".<locals>.") (some fI) R.fd.code none R.fd.builtins=env
 have hloc:env.locals=s.heap.objs.size:=by rw[←henv];rfl
 have hgl:env.globals=mainGlobals:=by rw[←henv];rfl
 have hbl:env.builtins=builtinsNs:=by rw[←henv];rfl
 have hsc:env.scope=R.scope:=by rw[←henv];rfl
 have hk:env.scope.kind=.function:=by rw[hsc];exact I.kind
 have hint:interactive env=false:=by unfold interactive;rw[hk];rfl
 have xL:x<s.heap.objs.size:=Heap.lt_size hx
 have hk1:env.kindOf "self" = some .local:=by show env.scope.names.lookup _=_;rw[hsc];exact I.l1
 have hk2:env.kindOf "what" = some .local:=by show env.scope.names.lookup _=_;rw[hsc];exact I.l2
 have hk3:env.kindOf "at" = some .local:=by show env.scope.names.lookup _=_;rw[hsc];exact I.l3
 have hk4:env.kindOf "Exception" = some .globalImplicit:=by show env.scope.names.lookup _=_;rw[hsc];exact I.l4
 have nm:∀{y:PySem.Str} {v:Value} {p:Pos} {A':Around} {s':Shared} {Q:Value→Shared→Prop} {E:Value→Shared→Prop},env.kindOf y=some .local→[(("self" : PySem.Str),Value.ref x),("what",xw),("at",xa)].reverse.lookup y=some v →
   (∀a o,a≠x→h₁.get? a=some o→s'.heap.get? a=some o)→(y==("__debug__" : PySem.Str))=false→Q v s'→wpAny (model c.prog c.w) A' (eval (.Name y p) env) Q E s':=by
  intro y v p A' s' Q E ky hy hkp hdb hq
  refine wpAny_Name ?_ hdb
  refine wpAny_loadName_local hk ky (m:=fun x_1=>[(("self" : PySem.Str),Value.ref x),("what",xw),("at",xa)].reverse.lookup x_1) ?_ hy hq
  rw[hloc]
  exact Ns.but hkp hns (Nat.ne_of_gt xL)
 have hx1:h₁.get? x=some (excNew C t0):=xkeep _ _ hx
 have B1:∀{h':Heap},(∀a o,a≠x→h₁.get? a=some o→h'.get? a=some o)→∀a o,c.B.get? a=some o→h'.get? a=some o:=fun k a o e=>k a o (Nat.ne_of_lt (Nat.lt_of_lt_of_le (Heap.lt_size e) hxB)) (xkeep _ _ (hB _ _ e))
 have K1:∀{h':Heap},(∀a o,a≠x→h₁.get? a=some o→h'.get? a=some o)→c.K.In h':=fun k a o e=>B1 k _ _ (P.XK _ _ e)
 refine wpAny_execs_cons (wpAny_Expr_any ?_ hint rfl)
 show wpAny _ _ (do
  let ov ←attributeBase (.Name "Exception" p0) "__init__" env (eval (.Name "Exception" p0) env)
  standAt p1.atName
  methodCall (.Name "Exception" p0) "__init__" p1 p4 env ov (2+0) (backTo p4 (starEach [.Name "self" p2,.Name "what" p3] env)) []) _ _ _
 rw[wp_base (M:=model c.prog c.w) rfl]
 refine wpAny_bind (Name_function_global hk hk4 (loadGlobal_builtin (by rw[hgl];exact P.T.g.keeps (B1 fun _ _ _ e=>e)) hmg (by rw[hbl];exact P.T.b.keeps (B1 fun _ _ _ e=>e)) hmb ?_))
 refine wpAny_bind (wpAny_standAt ?_)
 have hform:methodCallForm (2+0) (backTo p4 (starEach [.Name "self" p2,.Name "what" p3] env)) []=true:=rfl
 have hp2:methodCallPos true (.Name "Exception" p0) env p1 p4=pure p4:=by simp only[methodCallPos,hpos];rfl
 unfold methodCall
 rw[hform,hp2]
 refine wpAny_bind (wpAny_holding ?_)
 have F1:Fr c.B s.heap.objs.size h₁ (fun x_1=>[(("self" : PySem.Str),Value.ref x),("what",xw),("at",xa)].reverse.lookup x_1):=⟨hns,B1 fun _ _ _ e=>e,hlow⟩
 refine method_type (T := "Exception") F1 P.XK (by kernel_rfl) (by decide +kernel) (find_exc_init c.K) rfl ?_
 refine wpAny_bind (wpAny_pure ?_)
 refine callWith_of (P:=fun _=>True) rfl (fun _ _=>keeps_pure (.inl ⟨_,rfl⟩)) (evalArgs_plain (spliced_cons (nm hk1 rfl (fun _ _ _ e=>e) rfl (spliced_cons (nm hk2 rfl (fun _ _ _ e=>e) rfl (spliced_nil ⟨trivial,?_⟩))))))
 refine exc_base_init hx1 (Y _ (K1 fun _ _ _ e=>e)) fun h₂ k2 hx2 hs2=>?_
 have k2':∀a o,a≠x→h₁.get? a=some o→h₂.get? a=some o:=k2
 refine wpAny_execs_cons (plainObj_wpAny_Assign_Attribute (nm hk2 rfl k2' rfl (nm hk1 rfl k2' rfl ?_)) rfl)
 refine exc_set0 (K:=c.K) (K1 k2') hx2 S1 fun h₃ tk t n k3 hx3 hd3 hs3=>?_
 have k3':∀a o,a≠x→h₁.get? a=some o→h₃.get? a=some o:=fun a o na e=>k3 a o na (k2 a o na e)
 refine wpAny_execs_cons (plainObj_wpAny_Assign_Attribute (nm hk3 rfl k3' rfl (nm hk1 rfl k3' rfl ?_)) rfl)
 refine exc_set1 (K:=c.K) (K1 k3') hx3 hd3 S2 rfl (by show 2≤1000;decide) fun h₄ tk4 n4 hsb4 hd4=>?_
 refine wpAny_execs_nil ?_
 have dx:x≠h₂.objs.size:=Nat.ne_of_lt (Heap.lt_size hx2)
 have k4:∀a o,a≠x→s.heap.get? a=some o→h₄.get? a=some o:=fun a o na e=>by
  have e3:=k2' a o na (xkeep _ _ e)
  rw[hsb4.2 a (Nat.ne_of_lt (Heap.lt_size e3))]
  exact k3 a o na e3
 refine h h₂.objs.size _ k4 ?_ dx ⟨_,_,by rw[hsb4.2 x dx];exact hx3⟩ ⟨_,_,_,_,_,hd4⟩ rfl rfl
 show s.heap.objs.size≤h₂.objs.size
 exact Nat.le_trans (Nat.le_of_lt hns.lt) (by rw[hs2];exact Nat.le_succ _)
end
structure ExcOK (c:Cx):Prop where
 ok:∀C,c.fnA 0=some C→(∀h,c.K.In h→ExcC (model c.prog c.w) h C)∧ExcSt c.K C "what" ∧ ExcSt c.K C "at" ∧ ∃fI R,findIn c.K (.ref C) "__init__" = some (some (.ref fI))∧isFn c.K (.ref fI)=true∧InitFn c fI R
 mg:c.mg "Exception" = none
 mb:c.mb "Exception" = some (.type "Exception")
 a10:c.an 10 = "what"
 a1:c.an 1 = "at"
theorem ExcOK.mk' {c:Cx}(X:ExcOK c):ExcMk c:=by
 intro A f fs s μ ρ σ P I ok hd hu C' w a xw xa hC rw_ ra
 obtain⟨Y,S1,S2,fI,R,hi,hf,IF⟩:=X.ok C' hC
 have hKs:c.K.In s.heap:=fun b o e=>(I.base b o (P.XK b o e)).1
 have hB:∀b o,c.B.get? b=some o→s.heap.get? b=some o:=fun b o e=>(I.base b o e).1
 obtain⟨hh,g,d,tk,os⟩:=s
 refine exc_make (Y _ hKs) (by rw[sizeLine_eq];show 2≤16777216;decide) (looks_findIn hKs hi) (fun self=>bind_fn hKs self (beq_iff_eq.mp hf)) ?_
 have k1:∀b o,hh.get? b=some o→((hh.push (tupNew [xw,xa])).push (excNew C' hh.objs.size)).get? b=some o:=fun b o e=>Heap.get?_push_of_some _ (Heap.get?_push_of_some _ e)
 have hx:((hh.push (tupNew [xw,xa])).push (excNew C' hh.objs.size)).get? (hh.objs.size+1)=some (excNew C' hh.objs.size):=by heap_get
 have sz:((hh.push (tupNew [xw,xa])).push (excNew C' hh.objs.size)).objs.size=hh.objs.size+2:=by rw[Heap.size_push,Heap.size_push]
 refine exc_init P.toBase IF S1 S2 (fun a o e=>k1 _ _ (hB _ _ e)) (Nat.le_trans I.low (by show hh.objs.size≤_;rw[sz];exact Nat.le_add_right _ 2)) Y (Nat.lt_of_le_of_lt (Nat.add_le_add_left (show 1≤3 by decide) _) hd) X.mg X.mb hx (Nat.le_trans I.low (Nat.le_succ _)) fun dd s' k2 hd2 hxd hxo hdo e1 e2=>⟨rfl,?_⟩
 have hkeep:∀b o,hh.get? b=some o→s'.heap.get? b=some o:=fun b o e=>k2 b o (Nat.ne_of_lt (Nat.lt_succ_of_lt (Heap.lt_size e))) (k1 _ _ e)
 obtain⟨t,sl,hxo⟩:=hxo
 obtain⟨t1,t2,h1,h2,n,hdo⟩:=hdo
 have hdd:hh.objs.size≤dd:=Nat.le_trans (by show hh.objs.size≤_;rw[sz];exact Nat.le_add_right _ 2) hd2
 have hds:dd<s'.heap.objs.size:=Heap.lt_size hdo
 have hxs:hh.objs.size+1<s'.heap.objs.size:=Heap.lt_size hxo
 have g1:Grow hh μ s'.heap (plus μ (hh.objs.size+1)):=grow_plus hkeep (Nat.le_succ _)
 have ca:CellAt c s'.heap (plus μ (hh.objs.size+1)) (ρ++[(hh.objs.size+1,hh.objs.size+1)]) (hh.objs.size+1,hh.objs.size+1) (.new 0 [(10,w),(1,a)]):=by
  refine .new (by decide) hC hxo rfl rfl rfl (.inr rfl) hdo (fun z=>z.elim (fun z=>Nat.lt_irrefl _ (Nat.lt_of_lt_of_le (I.mlt _ z) hdd)) fun z=>hxd z.symm) ?_ rfl rfl
  refine .cons (t:=t1) (by decide) (by rw[X.a10]) (rw_.mono g1 (List.prefix_append _ _)) (.cons (t:=t2) (by decide) (by rw[X.a1]) (ra.mono g1 (List.prefix_append _ _)) .nil)
 have st:=St.cell (s:=⟨hh,g,d,tk,os⟩) I hkeep (Nat.le_of_lt (Nat.lt_of_succ_lt hxs)) (Nat.le_succ _) hxs ca (tk:=s'.toks)
 obtain⟨h',g',d',tk',os'⟩:=s'
 obtain rfl:g'=g:=e1
 obtain rfl:os'=os:=e2
 refine⟨_,_,_,_,rfl,⟨st.inv,st.grow,st.pre,rfl,rfl⟩,.ref (d:=hh.objs.size+1) ?_⟩
 rw[←I.len,List.getElem?_append_right (Nat.le_refl _),Nat.sub_self]
 rfl
end Mine
end
section
namespace Mine
open PySem
noncomputable def anL:List String:=["tokens","at","named","kind","worth","is_in_a","reader","is_named","depth","last","what","peek","fault","take","is_kind","is_word","skip","one_of","is_name","name","is_sign","skip_sign","need_sign","is_number","signed","octets","either","both","turned","single","unbracketed","in_brackets","subject_of_last","sign_of_last","predicate","relation","sign_here","split","lower","append"]
noncomputable def anT (g:Nat):Str:=Str.ofString (anL.getD g "")
noncomputable def gnL:List String:=["GrammarFault","Token","Reader","ConditionReader","FIGURE_NAMES","OPPOSITES","CLASSES","WORDS_OF_SIGNS","WORDS_OF_RELATIONS","RELATIONS","RESERVED","MOST_DEEP_expressions","MOST_DEEP_conditions","_law_spelled","_law_others","_law_signs","is_part_next","read_subscripts","read_part","read_ref","read_all","read_figure","read_operand","read_expression","sign_among","read_sum","read_product","read_factor","is_lone_number","read_power","read_primary","negated","word_here","is_relation_at","place_of_word","is_predicate_here","is_bare_relation_here","read_condition","is_reserved","_law_turned","_law_draw","_law_pen","_law_reader","_law_ref","_law_told","_law_heard","_law_part","_law_row"]
noncomputable def gnT (g:Nat):Str:=Str.ofString (gnL.getD g "")
noncomputable def fnAL:List (Nat × Nat):=[
 (0,72),
 (1,595),
 (2,565),
 (3,372),
 (16,139),
 (19,160),
 (21,174),
 (22,181),
 (23,188),
 (24,195),
 (25,202),
 (26,209),
 (27,216),
 (28,223),
 (29,230),
 (30,237),
 (32,250),
 (33,257),
 (34,264),
 (35,271),
 (36,278),
 (37,384),
 (38,391),
 (39,607),
 (40,614),
 (41,621),
 (42,628),
 (43,635),
 (46,642),
 (47,647),
 (90,654),
 (199,585),
 (211,419),
 (212,433),
 (213,440),
 (214,448),
 (215,455),
 (216,462),
 (217,476),
 (218,491),
 (219,498),
 (220,513),
 (221,520),
 (222,527),
 (223,534),
 (299,411),
 (326,299),
 (327,306),
 (328,313),
 (329,320),
 (330,327),
 (331,334),
 (332,341),
 (333,348),
 (334,355),
 (335,362),
 (336,369),
 (399,292)]
noncomputable def fnAT (g:Nat):Option Nat:=look fnAL g
noncomputable def tabAT:List (Nat × Nat):=[(236,232),(383,379),(653,649)]
abbrev aPrim:Nat:=237
abbrev aCond:Nat:=384
abbrev aInit:Nat:=37
abbrev aLaw:Nat:=654
end Mine
end
section
namespace Mine
open PySem PySem.W PySem.Spec PySem.Calls PyProof.Rows PyProof.V
set_option tactic.hygienic false

noncomputable def isTab (a:Nat):Bool:=tabAT.any fun q=>Nat.beq q.2 a
noncomputable def kfree (K:Frag):Frag:=K.filter fun p=>!isTab p.1
noncomputable def junkR:FnR:=⟨Str.empty,Str.empty,⟨[],[],none,[],[],none,[]⟩,[],⟨.function,[],false,false,[]⟩,.none,.none,.none,.none,none,.none,.none,.none,none,#[],[]⟩
noncomputable def stmtsOf:FuncBody→List Stmt
 | .stmts b=>b
 |_=>[]
noncomputable def rOf0 (K:Frag)(a:Nat):FnR:=match K.lookup a with
 |some ⟨oc,od,.func fd,osl⟩=>⟨fd.name,fd.qualname,fd.params,stmtsOf fd.body,fd.scope,fd.defaults,fd.kwdefaults,fd.doc,fd.pyModule,fd.annotations,fd.code,fd.closureTuple,oc,od,osl,[]⟩
 |_=>junkR
noncomputable def rOf (K:Frag)(a:Nat)(ds:List Value):FnR:={ rOf0 K a with ds:=ds }
noncomputable abbrev aPs (l:List (Str × Pos)):Arguments:=⟨[],l.map fun q=>⟨q.1,none,q.2⟩,none,[],[],none,[]⟩
noncomputable def lamPrim (R:FnR):LamI:=⟨R.qual++(".<locals>." : PySem.Str)++("<lambda>" : PySem.Str),aPs [("inner",(pz 3083653))],.Call (.Name "read_sum" (pz 3084594)) [.Name "inner" (pz 3085797),.BinOp (.Name "depth" (pz 3086735)) .Add (.Constant (.int 1) 0 (pz 3087803)) (pz 3086739)] [] (pz 3084612),
 ⟨.function,[("inner",.local),("depth",.free),("read_sum",.globalImplicit)],false,false,[]⟩,(pz 3082750),R.scope,(236,232)⟩
noncomputable def lamCond (R:FnR):LamI:=⟨R.qual++(".<locals>." : PySem.Str)++("<lambda>" : PySem.Str),aPs [("name",(pz 5436691)),("qualifiers",(pz 5437501))],.Compare (.Name "name" (pz 5439103)) [.In] [.Attribute (.Name "reader" (pz 5440177)) "named" (pz 5440183)] (pz 5439119),
 ⟨.function,[("name",.local),("qualifiers",.local),("reader",.free)],false,false,[]⟩,(pz 5435794),R.scope,(383,379)⟩
noncomputable def lamLaw (R:FnR):LamI:=⟨R.qual++(".<locals>." : PySem.Str)++("<lambda>" : PySem.Str),aPs [("name",(pz 9522850)),("qualifiers",(pz 9523660))],.Compare (.Name "name" (pz 9525262)) [.Eq] [.Constant (.str "FX") 0 (pz 9526334)] (pz 9525270),
 ⟨.function,[("name",.local),("qualifiers",.local)],false,false,[]⟩,(pz 9521945),R.scope,(653,649)⟩
noncomputable def lamL (K:Frag):List (Nat × LamI):=[(0,lamPrim (rOf K aPrim [])),(1,lamCond (rOf K aCond [])),(2,lamLaw (rOf K aLaw []))]
noncomputable def mkCx (prog:Program)(w:World)(K:Frag)(B:Heap)(mg mb:PySem.Str→Option Value):Cx:=⟨prog,w,K,B,mg,mb,anT,gnT,TB,fnAT,tabAT,look (lamL K)⟩
noncomputable def fnB (K:Frag)(d:FnD)(R:FnR):Bool:=decide (codeIn K R.cdv R.qual=true∧R.scope.kind=.function∧R.scope.isCoroutine=false∧R.scope.isGenerator=false∧d.np≤d.nm.length∧(d.nm.take d.np).Nodup ∧
 (∀y∈d.nm.take d.np,R.scope.names.lookup y=some .local∨R.scope.names.lookup y=some .cell) ∧
 ∀p∈lamL K,p.2.owner=R.scope→R.cdv=.ref p.2.tab.1∧R.qual++(".<locals>." : PySem.Str)++("<lambda>" : PySem.Str)=p.2.qual)
noncomputable def BindK (K:Frag)(d:FnD)(R:FnR)(k:Nat):Prop:=∀(S:Setting) (v:Nat→Value),
 peek K S (bindArgs R.fd ⟨(List.range (d.np - k)).map v,[]⟩)=some ((d.nm.take d.np).zip ((List.range (d.np - k)).map v++R.ds.drop (d.dflt.length - k)))
noncomputable def FO (c:Cx)(g:Nat)(d:FnD):Prop:=∃a R,c.fnA g=some a∧FnOK c a d R
theorem bk0 {K:Frag}{d:FnD}{R:FnR}(hd:d.dflt.length=0)(h:BindK K d R 0):∀k,k≤d.dflt.length→BindK K d R k:=fun k hk=>by
 rw[hd]at hk;obtain rfl:=Nat.le_zero.mp hk;exact h
theorem bk1 {K:Frag}{d:FnD}{R:FnR}(hd:d.dflt.length=1)(h:BindK K d R 0)(h1:BindK K d R 1):∀k,k≤d.dflt.length→BindK K d R k:=fun k hk=>by
 rw[hd]at hk
 rcases Nat.le_one_iff_eq_zero_or_eq_one.mp hk with rfl | rfl
 ·exact h
 ·exact h1
theorem bk2 {K:Frag}{d:FnD}{R:FnR}(hd:d.dflt.length=2)(h:BindK K d R 0)(h1:BindK K d R 1)(h2:BindK K d R 2):∀k,k≤d.dflt.length→BindK K d R k:=fun k hk=>by
 rw[hd]at hk
 rcases Nat.le_succ_iff.mp hk with hk | rfl
 ·rcases Nat.le_one_iff_eq_zero_or_eq_one.mp hk with rfl | rfl
  ·exact h
  ·exact h1
 ·exact h2
theorem pad_ (xs:List Value):(List.range xs.length).map (fun i=>xs.getD i .none)=xs:=by
 refine List.ext_getElem (by rw[List.length_map,List.length_range]) fun i h1 h2=>?_
 rw[List.getElem_map,List.getElem_range]
 exact(List.getElem_eq_getD _).symm
theorem fo_ {c:Cx}{g a:Nat}{d:FnD}{ds:List Value}(ha:c.fnA g=some a)(hl:c.lamI=look (lamL c.K))(h1:c.K.lookup a=some ⟨(rOf c.K a ds).oc,(rOf c.K a ds).od,.func (rOf c.K a ds).fd,(rOf c.K a ds).osl⟩)
  (h2:trSs c d.nm (rOf c.K a ds).scope 60 d.body=some (rOf c.K a ds).body) (h3:fnB c.K d (rOf c.K a ds)=true) (h4:VReps c c.B (fun _=>False) [] d.dflt (rOf c.K a ds).ds) (h5:∀k,k≤d.dflt.length→BindK c.K d (rOf c.K a ds) k):FO c g d:=by
 have h:=of_decide_eq_true h3
 refine⟨a,_,ha,h1,h.1,⟨60,h2⟩,h.2.1,h.2.2.1,h.2.2.2.1,h.2.2.2.2.1,h.2.2.2.2.2.1,h.2.2.2.2.2.2.1,h4,fun s xs X e1 e2=>kp_binds X fun S=>?_,fun k I hI hO=>h.2.2.2.2.2.2.2 (k,I) (look_mem (hl▸hI)) hO⟩
 have hb:=h5 (d.np - xs.length) (Nat.sub_le_iff_le_add'.mpr e2) S fun i=>xs.getD i .none
 rw[Nat.sub_sub_self e1,pad_]at hb
 exact hb

theorem le10 {p:Nat→Bool}(h:(List.range 11).all p=true){f:Nat}(hf:f≤10):p f=true:=List.all_eq_true.mp h f (List.mem_range.mpr (Nat.lt_succ_of_le hf))
noncomputable def dctPs (t:Tok)(ks us:List CS):List ((CS × Tok) × (CS × Tok)):=(ks.zip us).zipIdx.map fun q=>((q.1.1,t+2*q.2),(q.1.2,t+2*q.2+1))
noncomputable def dctE (P:Params)(p:(CS × Tok) × (CS × Tok)):DictEntry:=⟨PyData.keyHash P (sS p.1.1),.str (sS p.1.1) p.1.2,.str (sS p.2.1) p.2.2⟩
noncomputable def dctObj (P:Params)(ps:List ((CS × Tok) × (CS × Tok)))(n:Nat):Obj:={ cls:=.type "dict",data:=.dict (ps.map (dctE P)).toArray n }
theorem dct_rep {c:Cx}{B:Heap}{a:Nat}{ps:List ((CS × Tok) × (CS × Tok))}{n:Nat}(ho:B.get? a=some (dctObj c.w.params ps n))(hn:(ps.map (·.1.1)).Nodup)(hm:(a==sysModules)=false):
  VRep c B (fun _=>False) [] (.dct (ps.map (·.1.1)) (ps.map fun p=>.str p.2.1)) (.ref a):=by
 refine .dct (kvs:=ps.map fun p=>(sS p.1.1,Value.str (sS p.2.1) p.2.2)) (ds:=ps.map fun p=>(PyData.str (sS p.1.1),PyData.str (sS p.2.1))) ho ?_ ?_ hm (fun z=>z) ?_
 ·refine⟨(ps.map (dctE c.w.params)).toArray,n,⟨rfl,rfl,rfl⟩,rfl,fun e he=>?_,?_,?_⟩
  ·have he:=Array.mem_toList_iff.mpr he
   obtain⟨p,hp,rfl⟩:=List.mem_map.mp he
   exact⟨sS p.1.1,strKind_is _ _ _ _,rfl⟩
  ·show Pairs _ (ps.map (dctE c.w.params)) _
   clear hn ho hm
   induction ps with
   |nil=>exact .nil
   |cons p ps ih=>exact .cons (strKind_is _ _ _ _) rfl ih
  ·rw[List.map_map]
   clear ho hm
   induction ps with
   |nil=>exact List.nodup_nil
   |cons p ps ih =>
    rw[List.map_cons,List.nodup_cons]at hn ⊢
    refine⟨fun hm=>hn.1 ?_,ih hn.2⟩
    obtain⟨q,hq,e⟩:=List.mem_map.mp hm
    exact List.mem_map.mpr ⟨q,hq,sS_inj.mp e⟩
 ·clear hn ho hm
  induction ps with
  |nil=>exact .nil
  |cons p ps ih=>exact .cons (Flat.str _ _) ih
 ·clear hn ho hm
  induction ps with
  |nil=>exact .nil
  |cons p ps ih=>exact .cons rfl ih
section
variable {c:Cx}
noncomputable def GO (c:Cx)(g:Nat)(v:V):Prop:=∃x,c.mg (gnT g)=some x∧VRep c c.B (fun _=>False) [] v x
theorem go_ (X:c.K.In c.B)(G:c.B.Ns mainGlobals c.mg){g:Nat}{v:V}{x:Value}(h:nsIn c.K mainGlobals (gnT g)=some (some x))(r:VRep c c.B (fun _=>False) [] v x):GO c g v:=⟨x,mg_of X G h,r⟩
theorem go_d (X:c.K.In c.B)(G:c.B.Ns mainGlobals c.mg){g a n:Nat}{t:Tok}{ks:List CS}{vs:List V}(h:nsIn c.K mainGlobals (gnT g)=some (some (.ref a)))(ho:c.K.lookup a=some (dctObj c.w.params (dctPs t ks ((strsV vs).getD [])) n))
  (e1:(dctPs t ks ((strsV vs).getD [])).map (·.1.1)=ks) (e2:((dctPs t ks ((strsV vs).getD [])).map fun p=>V.str p.2.1)=vs) (hb:decide (ks.Nodup∧(a==sysModules)=false)=true):GO c g (.dct ks vs):=by
 obtain⟨h1,h2⟩:=of_decide_eq_true hb
 have:=dct_rep (X _ _ ho) (e1.symm▸h1) h2
 rw[e1,e2]at this
 exact go_ X G h this
theorem str_ {l:CS}{s:Str}{t:Tok}(h:(s.cps.toList==l)=true):VRep c c.B (fun _=>False) [] (.str l) (.str s t):=by
 obtain rfl:=eq_of_beq h
 have:=VRep.str (c:=c) (h:=c.B) (μ:=fun _=>False) (ρ:=[]) s.cps.toList t
 rwa [sS_toList]at this
theorem go_t (X:c.K.In c.B)(G:c.B.Ns mainGlobals c.mg){g a:Nat}{t:Tok}{vs:List V}(e:((strsV vs).getD []).map V.str=vs)(h:nsIn c.K mainGlobals (gnT g)=some (some (.ref a)))(ho:c.K.lookup a=some (tupObj ((((strsV vs).getD []).zipIdx t).map fun p=>Value.str (sS p.1) p.2).toArray 0)):GO c g (.tup vs):=by
 refine go_ X G h (.tup (X _ _ ho) (fun z=>z) ?_)
 clear ho
 revert e
 generalize (strsV vs).getD []=ls
 intro e
 subst e
 show VReps _ _ _ _ _ ((ls.zipIdx t).map _)
 induction ls generalizing t with
 |nil=>exact .nil
 |cons l ls ih=>rw[List.zipIdx_cons];exact .cons (.str _ _) ih
end
structure ClsF (K:Frag)(C fI:Addr):Prop where
 mk1:makesIn K C=true
 it:findIn K (.ref C) "__init__" = some (some (.ref fI))
 fn:isFn K (.ref fI)=true
 hd:hasDictIn K C=true
 po:plainOver K C=true
 ga:findIn K (.ref C) "__getattribute__" = some (some (.builtin "object.__getattribute__"))
 gg:findIn K (.ref C) "__getattr__" = some none
 sa:findIn K (.ref C) "__setattr__" = some (some (.builtin "object.__setattr__"))
 al:((List.range 11).all fun f=>takerIn K C (anT f)==some none&&findIn K (.ref C) (anT f)==some none)=true
section
variable {K:Frag}{C fI:Addr}
theorem ClsF.tk (F:ClsF K C fI){f:Nat}(hf:f≤10):takerIn K C (anT f)=some none:=eq_of_beq (Bool.and_eq_true_iff.mp (le10 F.al hf)).1
theorem ClsF.fi (F:ClsF K C fI){f:Nat}(hf:f≤10):findIn K (.ref C) (anT f)=some none:=eq_of_beq (Bool.and_eq_true_iff.mp (le10 F.al hf)).2
theorem ClsF.pg (F:ClsF K C fI)(n:Str):plainGet K C n=true:=Bool.and_eq_true_iff.mpr ⟨beq_iff_eq.mpr F.ga,beq_iff_eq.mpr F.gg⟩
theorem exc_refuse {C D:Nat}{l:List Value}(e:l=[.ref C,.ref D,.type "Exception",.type "BaseException",.type "object"])(self:Value):refuseLoop self "__setattr__" l=pure ():=by
 subst e
 rw[refuseLoop_ref,refuseLoop_ref]
 exact PySem.F.store_Exception.passes self
theorem two_ {α:Type}{l:List α}(e:l.length=2):∃a b,l=[a,b]:=by
 obtain⟨a,t,rfl⟩:=List.exists_cons_of_length_eq_add_one e
 obtain⟨b,rfl⟩:=List.length_eq_one_iff.mp (Nat.succ.inj e)
 exact⟨a,b,rfl⟩
end

noncomputable def freed:Obj:={ cls:=.none,data:=.freed }
noncomputable def cutTabs (h:Heap):Heap:=⟨tabAT.foldl (fun o q=>o.setIfInBounds q.2 freed) h.objs,h.life⟩
theorem cut_fold (l:List (Nat × Nat)):∀(o:Array Obj) (li:Life) (a:Nat),(⟨l.foldl (fun o q=>o.setIfInBounds q.2 freed) o,li⟩:Heap).get? a=if (l.any fun q=>Nat.beq q.2 a)=true then none else(⟨o,li⟩:Heap).get? a:=by
 induction l with
 |nil=>intro o li a;rfl
 |cons q l ih =>
  intro o li a
  rw[List.foldl_cons,ih,List.any_cons]
  by_cases h:q.2=a
  ·subst h
   rw[show Nat.beq q.2 q.2=true from Nat.beq_refl _,Bool.true_or,if_pos rfl]
   split
   ·rfl
   ·unfold Heap.get?
    rw[Array.getElem?_setIfInBounds]
    by_cases hs:q.2<o.size
    ·simp[hs,freed]
    ·simp[hs]
  ·have hb:Nat.beq q.2 a=false:=by
    cases e:Nat.beq q.2 a with
    |true=>exact absurd (Nat.eq_of_beq_eq_true e) h
    |false=>rfl
   rw[hb,Bool.false_or]
   split
   ·rfl
   ·unfold Heap.get?
    rw[Array.getElem?_setIfInBounds,if_neg h]
theorem cut_get (h:Heap)(a:Nat):(cutTabs h).get? a=if isTab a=true then none else h.get? a:=cut_fold tabAT h.objs h.life a
theorem cut_size (h:Heap):(cutTabs h).objs.size=h.objs.size:=by
 show(tabAT.foldl _ h.objs).size=_
 generalize h.objs=o
 generalize tabAT=l
 induction l generalizing o with
 |nil=>rfl
 |cons q l ih=>rw[List.foldl_cons,ih,Array.size_setIfInBounds]
theorem cut_some {h:Heap}{a:Nat}{o:Obj}(e:(cutTabs h).get? a=some o):h.get? a=some o∧isTab a=false:=by
 rw[cut_get]at e
 split at e
 ·exact n0 e
 ·rename_i q;exact⟨e,(Bool.not_eq_true _).mp q⟩
theorem cut_of {h:Heap}{a:Nat}{o:Obj}(e:h.get? a=some o)(q:isTab a=false):(cutTabs h).get? a=some o:=by
 rw[cut_get,if_neg (by rw[q];decide)];exact e
theorem lookup_filter {K:Frag}{f:Nat × Obj→Bool}{a:Nat}{o:Obj}(e:(K.filter f).lookup a=some o)(hf:∀p q:Nat × Obj,p.1=q.1→f p=f q):K.lookup a=some o∧f (a,o)=true:=by
 induction K with
 |nil=>cases e
 |cons p K ih =>
  rw[List.filter_cons]at e
  by_cases hp:f p=true
  ·rw[if_pos hp]at e
   obtain⟨b,ob⟩:=p
   rw[List.lookup_cons]at e ⊢
   by_cases hab:(a==b)=true
   ·rw[hab]at e ⊢
    obtain rfl:=oi e
    exact⟨rfl,by rw[←hp];exact hf _ _ (beq_iff_eq.mp hab)⟩
   ·rw[(Bool.not_eq_true _).mp hab]at e ⊢
    exact ih e
  ·rw[if_neg hp]at e
   obtain⟨h1,h2⟩:=ih e
   refine⟨?_,h2⟩
   obtain⟨b,ob⟩:=p
   rw[List.lookup_cons]
   have:(a==b)=false:=by
    cases q:(a==b)with
    |false=>rfl
    |true=>exact absurd ((hf (b,ob) (a,o) (beq_iff_eq.mp q).symm).trans h2) hp
   rw[this]
   exact h1
theorem kfree_in {K:Frag}{h:Heap}(X:K.In h):(kfree K).In (cutTabs h):=fun a o e=>by
 obtain⟨h1,h2⟩:=lookup_filter e fun p q e=>by rw[e]
 exact cut_of (X _ _ h1) ((Bool.not_eq_true' _).mp h2)
theorem Ns.cut {h:Heap}{a:Nat}{m:PySem.Str→Option Value}(n:h.Ns a m)(ht:isTab a=false):(cutTabs h).Ns a m:=by
 obtain⟨o,es,ep,e,r⟩:=n
 exact⟨o,es,ep,cut_of e ht,r⟩
inductive TabF (K:Frag):Prop
 |mk (b:Nat)(h1:nsIn K mainGlobals "__builtins__" = some (some (.ref b)))(h2:isTab b=false)(h3:(tabAT.all fun q=>codeHdIn K q.1 q.2)=true)(h4:∀q∈tabAT,K.lookup q.2=some (tabObj #[]))
theorem top_cut {K:Frag}{h:Heap}{mg mb:PySem.Str→Option Value}(X:K.In h)(H:TopL mg mb h)(ht:TabF K):TopL mg mb (cutTabs h):=by
 obtain⟨b,h1,h2,_,_⟩:=ht
 refine⟨Ns.cut H.g (by decide),Ns.cut H.b (by decide),?_,?_⟩
 ·obtain⟨mc,a,b⟩:=H.nolimit
  exact⟨mc,Ns.cut a (by decide),b⟩
 ·obtain⟨bm,ob,b1,b2,b3,r⟩:=H.bmain
  have e:=mg_of X H.g h1
  rw[b1]at e
  obtain rfl:=Value.ref.inj (oi e)
  exact⟨_,ob,b1,b2,cut_of b3 h2,r⟩
theorem ints_rep {c:Cx}{h:Heap}{μ:Addr→Prop}{ρ:List (Addr × Addr)}{xs:List Value}{ns:List Int}(I:IntsAre xs ns):VReps c h μ ρ (ns.map .int) xs:=by
 induction I with
 |nil=>exact .nil
 |cons n t _ ih=>exact .cons (.int n t) ih
theorem law_goes {prog:Program}{w:World}{K:Frag}{s₁:Shared}{mg mb:PySem.Str→Option Value}(X:K.In s₁.heap)(H:TopL mg mb s₁.heap)(ht:TabF K)(P:∀B,(kfree K).In B→TopL mg mb B→Prog3 (mkCx prog w (kfree K) B mg mb))
  {a:Nat} {its:Array Value} {ns:List Int} (hl:s₁.heap.get? a=some { cls:=.type "list",data:=.seq its }) (hI:IntsAre its.toList ns) {n:Nat} (hn:n≤680) {σ:List Cell} (hr:callV TB (n+1) (.base 90) [.lst (ns.map .int)] []=some (.ok (.bool true) σ))
  (ht2:isTab a=false) {lawA:Nat} (hlaw:fnAT 90=some lawA):
  wpAny (model prog w) callerA (call (.ref lawA) [.ref a]) (fun v s'=>v=.bool true∧OldK s₁.heap s'.heap∧s'.os=s₁.os∧s'.gens=s₁.gens) (fun _ _=>False) s₁:=by
 have P3:=P _ (kfree_in X) (top_cut X H ht)
 obtain⟨_,_,_,h3,h4⟩:=ht
 have htab:∀q∈tabAT,CodeHd s₁.heap q.1 q.2∧s₁.heap.get? q.2=some (tabObj #[]):=fun q hq=>⟨codeHd_of_K X (List.all_eq_true.mp h3 q hq),X _ _ (h4 q hq)⟩
 have hnd:(tabAT.map (·.2)).Nodup:=by decide
 have AllN:=all_to P3 n n (Nat.le_refl _)
 have lt:∀q∈tabAT,q.2<s₁.heap.objs.size:=fun q hq=>Heap.lt_size (htab q hq).2
 have isT:∀{x:Nat},isTab x=true→∃q∈tabAT,q.2=x:=fun{x} h=>by
  obtain⟨q,hq,e⟩:=List.any_eq_true.mp h
  exact⟨q,hq,Nat.eq_of_beq_eq_true e⟩
 have I0:Inv (mkCx prog w (kfree K) (cutTabs s₁.heap) mg mb) [] (fun x=>isTab x=true) [] [] s₁.heap:=by
  refine⟨fun x o e=>⟨(cut_some e).1,by rw[(cut_some e).2];decide⟩,Nat.le_of_eq (cut_size _),fun x m=>?_,fun f hf=>(List.not_mem_nil hf).elim,CellsAt.nil,hnd,fun q hq=>⟨?_,#[],(htab q hq).2,Or.inl rfl⟩⟩
  ·obtain⟨q,hq,rfl⟩:=isT m
   exact lt q hq
  ·exact List.any_eq_true.mpr ⟨q,hq,Nat.beq_refl _⟩
 have ok:FrI.ok callerA []:=⟨rfl,rfl,fun f hf=>(List.not_mem_nil hf).elim⟩
 have rv:VReps (mkCx prog w (kfree K) (cutTabs s₁.heap) mg mb) s₁.heap (fun x=>isTab x=true) [] [.lst (ns.map .int)] [.ref a]:=.cons (.lst (n:=0) hl (by rw[ht2];decide) (ints_rep hI)) .nil
 obtain⟨a',Rn,ha,Kf⟩:=P3.fn 90 fdx90 rfl
 have e:a'=lawA:=Option.some.inj (ha.symm.trans hlaw)
 subst e
 refine wpAny_call (codeAny_mono (call_fn (gs:=[]) AllN.ss P3.toProg I0 ok (Nat.lt_of_le_of_lt (Nat.add_le_add_left (Nat.succ_le_succ hn) 301) (by decide)) (Nat.lt_of_le_of_lt (Nat.add_le_add_right (Nat.add_le_add_left (Nat.mul_le_mul_left 8 (Nat.succ_le_succ hn)) 4) 64) (by decide)) Kf rv ?_ ?_ (r:=.ok (.bool true) σ) ?_) fun q s' h=>?_)
 ·show 1≤1;decide
 ·show 1≤1+0;decide
 ·exact hr
 ·induction q using Except.casesOn with
  |error e=>obtain⟨_,_,_,_,_,z,_⟩:=h;cases z
  |ok fl =>
   cases fl with
   |ret v =>
    obtain⟨v0,σ',μ',ρ',z,st,rep⟩:=h
    first | exact n0 z | exact n1 z | cases z
    first | exact n0 rep | exact n1 rep | cases rep
    refine⟨rfl,?_,st.os,st.gens⟩
    have there:∀b o,s₁.heap.get? b=some o→(isTab b=false∧s'.heap.get? b=some o)∨(isTab b=true∧o=tabObj #[]∧∃ps,s'.heap.get? b=some (tabObj ps)):=fun b o e=>by
     by_cases q:isTab b=true
     ·obtain⟨p,hp,rfl⟩:=isT q
      obtain⟨ps,e2,_⟩:=(st.inv.tabs p hp).2
      exact .inr ⟨q,Option.some.inj (e.symm.trans (htab p hp).2),ps,e2⟩
     ·have q:=(Bool.not_eq_true _).mp q
      exact .inl ⟨q,(st.inv.base b o (cut_of e q)).1⟩
    refine⟨fun b o e=>?_,fun b o e=>?_⟩
    ·rcases there b o e with⟨_,h⟩| ⟨q,rfl,ps,h⟩
     ·exact .inl h
     ·obtain⟨p,hp,rfl⟩:=isT q
      obtain⟨oc,vs,_,_,_,_,_,_,_,c1,c2,c3,c4,_⟩:=(htab p hp).1
      exact .inr (.inl ⟨⟨p.1,oc,vs,c1,c2,c3,c4⟩,rfl,#[],ps,rfl,by rw[h];simp⟩)
    ·rcases there b o e with⟨_,h⟩| ⟨q,rfl,ps,h⟩
     ·exact⟨_,h⟩
     ·exact⟨_,h⟩
   |_=>exact h.elim
end Mine
end
end
section
namespace Mine
open PySem PySem.W PyProof.Rows PySem.W.X PySem.W.ZRun
noncomputable abbrev KK (w:World):Frag:=kfree (H.K w.params)
section
variable (w:World)(B:Heap)(mg mb:PySem.Str→Option Value)
noncomputable abbrev cc:Cx:=mkCx H.P0 w (KK w) B mg mb
theorem f16:FO (cc w B mg mb) 16 fdx16:=fo_ (a:=139) (ds:=[]) (by kernel_rfl) rfl (by kernel_rfl) (by kernel_rfl) (by kernel_rfl) .nil (bk0 rfl fun S v=>by kernel_rfl)
theorem f19:FO (cc w B mg mb) 19 fdx19:=fo_ (a:=160) (ds:=[]) (by kernel_rfl) rfl (by kernel_rfl) (by kernel_rfl) (by kernel_rfl) .nil (bk0 rfl fun S v=>by kernel_rfl)
theorem f21:FO (cc w B mg mb) 21 fdx21:=fo_ (a:=174) (ds:=[]) (by kernel_rfl) rfl (by kernel_rfl) (by kernel_rfl) (by kernel_rfl) .nil (bk0 rfl fun S v=>by kernel_rfl)
theorem f22:FO (cc w B mg mb) 22 fdx22:=fo_ (a:=181) (ds:=[]) (by kernel_rfl) rfl (by kernel_rfl) (by kernel_rfl) (by kernel_rfl) .nil (bk0 rfl fun S v=>by kernel_rfl)
theorem f23:FO (cc w B mg mb) 23 fdx23:=fo_ (a:=188) (ds:=[]) (by kernel_rfl) rfl (by kernel_rfl) (by kernel_rfl) (by kernel_rfl) .nil (bk0 rfl fun S v=>by kernel_rfl)
theorem f24:FO (cc w B mg mb) 24 fdx24:=fo_ (a:=195) (ds:=[]) (by kernel_rfl) rfl (by kernel_rfl) (by kernel_rfl) (by kernel_rfl) .nil (bk0 rfl fun S v=>by kernel_rfl)
theorem f25:FO (cc w B mg mb) 25 fdx25:=fo_ (a:=202) (ds:=[]) (by kernel_rfl) rfl (by kernel_rfl) (by kernel_rfl) (by kernel_rfl) .nil (bk0 rfl fun S v=>by kernel_rfl)
theorem f26:FO (cc w B mg mb) 26 fdx26:=fo_ (a:=209) (ds:=[]) (by kernel_rfl) rfl (by kernel_rfl) (by kernel_rfl) (by kernel_rfl) .nil (bk0 rfl fun S v=>by kernel_rfl)
theorem f27:FO (cc w B mg mb) 27 fdx27:=fo_ (a:=216) (ds:=[]) (by kernel_rfl) rfl (by kernel_rfl) (by kernel_rfl) (by kernel_rfl) .nil (bk0 rfl fun S v=>by kernel_rfl)
theorem f28:FO (cc w B mg mb) 28 fdx28:=fo_ (a:=223) (ds:=[]) (by kernel_rfl) rfl (by kernel_rfl) (by kernel_rfl) (by kernel_rfl) .nil (bk0 rfl fun S v=>by kernel_rfl)
theorem f29:FO (cc w B mg mb) 29 fdx29:=fo_ (a:=230) (ds:=[]) (by kernel_rfl) rfl (by kernel_rfl) (by kernel_rfl) (by kernel_rfl) .nil (bk0 rfl fun S v=>by kernel_rfl)
theorem f30:FO (cc w B mg mb) 30 fdx30:=fo_ (a:=237) (ds:=[]) (by kernel_rfl) rfl (by kernel_rfl) (by kernel_rfl) (by kernel_rfl) .nil (bk0 rfl fun S v=>by kernel_rfl)
theorem f32:FO (cc w B mg mb) 32 fdx32:=fo_ (a:=250) (ds:=[.int 0 584]) (by kernel_rfl) rfl (by kernel_rfl) (by kernel_rfl) (by kernel_rfl) (.cons (.int _ _) .nil) (bk1 rfl (fun S v=>by kernel_rfl) fun S v=>by kernel_rfl)
theorem f33:FO (cc w B mg mb) 33 fdx33:=fo_ (a:=257) (ds:=[]) (by kernel_rfl) rfl (by kernel_rfl) (by kernel_rfl) (by kernel_rfl) .nil (bk0 rfl fun S v=>by kernel_rfl)
theorem f34:FO (cc w B mg mb) 34 fdx34:=fo_ (a:=264) (ds:=[]) (by kernel_rfl) rfl (by kernel_rfl) (by kernel_rfl) (by kernel_rfl) .nil (bk0 rfl fun S v=>by kernel_rfl)
theorem f35:FO (cc w B mg mb) 35 fdx35:=fo_ (a:=271) (ds:=[]) (by kernel_rfl) rfl (by kernel_rfl) (by kernel_rfl) (by kernel_rfl) .nil (bk0 rfl fun S v=>by kernel_rfl)
theorem f36:FO (cc w B mg mb) 36 fdx36:=fo_ (a:=278) (ds:=[]) (by kernel_rfl) rfl (by kernel_rfl) (by kernel_rfl) (by kernel_rfl) .nil (bk0 rfl fun S v=>by kernel_rfl)
theorem f37:FO (cc w B mg mb) 37 fdx37:=fo_ (a:=384) (ds:=[.none]) (by kernel_rfl) rfl (by kernel_rfl) (by kernel_rfl) (by kernel_rfl) (.cons .none .nil) (bk1 rfl (fun S v=>by kernel_rfl) fun S v=>by kernel_rfl)
theorem f38:FO (cc w B mg mb) 38 fdx38:=fo_ (a:=391) (ds:=[]) (by kernel_rfl) rfl (by kernel_rfl) (by kernel_rfl) (by kernel_rfl) .nil (bk0 rfl fun S v=>by kernel_rfl)
theorem f39:FO (cc w B mg mb) 39 fdx39:=fo_ (a:=607) (ds:=[]) (by kernel_rfl) rfl (by kernel_rfl) (by kernel_rfl) (by kernel_rfl) .nil (bk0 rfl fun S v=>by kernel_rfl)
theorem f40:FO (cc w B mg mb) 40 fdx40:=fo_ (a:=614) (ds:=[]) (by kernel_rfl) rfl (by kernel_rfl) (by kernel_rfl) (by kernel_rfl) .nil (bk0 rfl fun S v=>by kernel_rfl)
theorem f41:FO (cc w B mg mb) 41 fdx41:=fo_ (a:=621) (ds:=[]) (by kernel_rfl) rfl (by kernel_rfl) (by kernel_rfl) (by kernel_rfl) .nil (bk0 rfl fun S v=>by kernel_rfl)
theorem f42:FO (cc w B mg mb) 42 fdx42:=fo_ (a:=628) (ds:=[]) (by kernel_rfl) rfl (by kernel_rfl) (by kernel_rfl) (by kernel_rfl) .nil (bk0 rfl fun S v=>by kernel_rfl)
theorem f43:FO (cc w B mg mb) 43 fdx43:=fo_ (a:=635) (ds:=[]) (by kernel_rfl) rfl (by kernel_rfl) (by kernel_rfl) (by kernel_rfl) .nil (bk0 rfl fun S v=>by kernel_rfl)
theorem f46:FO (cc w B mg mb) 46 fdx46:=fo_ (a:=642) (ds:=[]) (by kernel_rfl) rfl (by kernel_rfl) (by kernel_rfl) (by kernel_rfl) .nil (bk0 rfl fun S v=>by kernel_rfl)
theorem f47:FO (cc w B mg mb) 47 fdx47:=fo_ (a:=647) (ds:=[]) (by kernel_rfl) rfl (by kernel_rfl) (by kernel_rfl) (by kernel_rfl) .nil (bk0 rfl fun S v=>by kernel_rfl)
theorem f90:FO (cc w B mg mb) 90 fdx90:=fo_ (a:=654) (ds:=[]) (by kernel_rfl) rfl (by kernel_rfl) (by kernel_rfl) (by kernel_rfl) .nil (bk0 rfl fun S v=>by kernel_rfl)
theorem f199 (X:(KK w).In B):FO (cc w B mg mb) 199 fdx199:=fo_ (a:=585) (ds:=[.ref 577,.bool false]) (by kernel_rfl) rfl (by kernel_rfl) (by kernel_rfl) (by kernel_rfl) (.cons (.tup (xs:=#[.int 0 1004,.int 0 1005]) (n:=0) (X _ _ (by kernel_rfl)) (fun z=>z) (.cons (.int _ _) (.cons (.int _ _) .nil))) (.cons (.bool _) .nil)) (bk2 rfl (fun S v=>by kernel_rfl) (fun S v=>by kernel_rfl) fun S v=>by kernel_rfl)
theorem f211:FO (cc w B mg mb) 211 fdx211:=fo_ (a:=419) (ds:=[.int 0 805]) (by kernel_rfl) rfl (by kernel_rfl) (by kernel_rfl) (by kernel_rfl) (.cons (.int _ _) .nil) (bk1 rfl (fun S v=>by kernel_rfl) fun S v=>by kernel_rfl)
theorem f212:FO (cc w B mg mb) 212 fdx212:=fo_ (a:=433) (ds:=[]) (by kernel_rfl) rfl (by kernel_rfl) (by kernel_rfl) (by kernel_rfl) .nil (bk0 rfl fun S v=>by kernel_rfl)
theorem f213:FO (cc w B mg mb) 213 fdx213:=fo_ (a:=440) (ds:=[]) (by kernel_rfl) rfl (by kernel_rfl) (by kernel_rfl) (by kernel_rfl) .nil (bk0 rfl fun S v=>by kernel_rfl)
theorem f214:FO (cc w B mg mb) 214 fdx214:=fo_ (a:=448) (ds:=[.int 0 837]) (by kernel_rfl) rfl (by kernel_rfl) (by kernel_rfl) (by kernel_rfl) (.cons (.int _ _) .nil) (bk1 rfl (fun S v=>by kernel_rfl) fun S v=>by kernel_rfl)
theorem f215:FO (cc w B mg mb) 215 fdx215:=fo_ (a:=455) (ds:=[]) (by kernel_rfl) rfl (by kernel_rfl) (by kernel_rfl) (by kernel_rfl) .nil (bk0 rfl fun S v=>by kernel_rfl)
theorem f216:FO (cc w B mg mb) 216 fdx216:=fo_ (a:=462) (ds:=[]) (by kernel_rfl) rfl (by kernel_rfl) (by kernel_rfl) (by kernel_rfl) .nil (bk0 rfl fun S v=>by kernel_rfl)
theorem f217:FO (cc w B mg mb) 217 fdx217:=fo_ (a:=476) (ds:=[]) (by kernel_rfl) rfl (by kernel_rfl) (by kernel_rfl) (by kernel_rfl) .nil (bk0 rfl fun S v=>by kernel_rfl)
theorem f218:FO (cc w B mg mb) 218 fdx218:=fo_ (a:=491) (ds:=[.int 0 890]) (by kernel_rfl) rfl (by kernel_rfl) (by kernel_rfl) (by kernel_rfl) (.cons (.int _ _) .nil) (bk1 rfl (fun S v=>by kernel_rfl) fun S v=>by kernel_rfl)
theorem f219:FO (cc w B mg mb) 219 fdx219:=fo_ (a:=498) (ds:=[]) (by kernel_rfl) rfl (by kernel_rfl) (by kernel_rfl) (by kernel_rfl) .nil (bk0 rfl fun S v=>by kernel_rfl)
theorem f220:FO (cc w B mg mb) 220 fdx220:=fo_ (a:=513) (ds:=[.int 0 914]) (by kernel_rfl) rfl (by kernel_rfl) (by kernel_rfl) (by kernel_rfl) (.cons (.int _ _) .nil) (bk1 rfl (fun S v=>by kernel_rfl) fun S v=>by kernel_rfl)
theorem f221:FO (cc w B mg mb) 221 fdx221:=fo_ (a:=520) (ds:=[]) (by kernel_rfl) rfl (by kernel_rfl) (by kernel_rfl) (by kernel_rfl) .nil (bk0 rfl fun S v=>by kernel_rfl)
theorem f222:FO (cc w B mg mb) 222 fdx222:=fo_ (a:=527) (ds:=[]) (by kernel_rfl) rfl (by kernel_rfl) (by kernel_rfl) (by kernel_rfl) .nil (bk0 rfl fun S v=>by kernel_rfl)
theorem f223:FO (cc w B mg mb) 223 fdx223:=fo_ (a:=534) (ds:=[]) (by kernel_rfl) rfl (by kernel_rfl) (by kernel_rfl) (by kernel_rfl) .nil (bk0 rfl fun S v=>by kernel_rfl)
theorem f299:FO (cc w B mg mb) 299 fdx299:=fo_ (a:=411) (ds:=[.int 0 795]) (by kernel_rfl) rfl (by kernel_rfl) (by kernel_rfl) (by kernel_rfl) (.cons (.int _ _) .nil) (bk1 rfl (fun S v=>by kernel_rfl) fun S v=>by kernel_rfl)
theorem f326:FO (cc w B mg mb) 326 fdx326:=fo_ (a:=299) (ds:=[]) (by kernel_rfl) rfl (by kernel_rfl) (by kernel_rfl) (by kernel_rfl) .nil (bk0 rfl fun S v=>by kernel_rfl)
theorem f327:FO (cc w B mg mb) 327 fdx327:=fo_ (a:=306) (ds:=[]) (by kernel_rfl) rfl (by kernel_rfl) (by kernel_rfl) (by kernel_rfl) .nil (bk0 rfl fun S v=>by kernel_rfl)
theorem f328:FO (cc w B mg mb) 328 fdx328:=fo_ (a:=313) (ds:=[]) (by kernel_rfl) rfl (by kernel_rfl) (by kernel_rfl) (by kernel_rfl) .nil (bk0 rfl fun S v=>by kernel_rfl)
theorem f329:FO (cc w B mg mb) 329 fdx329:=fo_ (a:=320) (ds:=[]) (by kernel_rfl) rfl (by kernel_rfl) (by kernel_rfl) (by kernel_rfl) .nil (bk0 rfl fun S v=>by kernel_rfl)
theorem f330:FO (cc w B mg mb) 330 fdx330:=fo_ (a:=327) (ds:=[]) (by kernel_rfl) rfl (by kernel_rfl) (by kernel_rfl) (by kernel_rfl) .nil (bk0 rfl fun S v=>by kernel_rfl)
theorem f331:FO (cc w B mg mb) 331 fdx331:=fo_ (a:=334) (ds:=[]) (by kernel_rfl) rfl (by kernel_rfl) (by kernel_rfl) (by kernel_rfl) .nil (bk0 rfl fun S v=>by kernel_rfl)
theorem f332:FO (cc w B mg mb) 332 fdx332:=fo_ (a:=341) (ds:=[]) (by kernel_rfl) rfl (by kernel_rfl) (by kernel_rfl) (by kernel_rfl) .nil (bk0 rfl fun S v=>by kernel_rfl)
theorem f333:FO (cc w B mg mb) 333 fdx333:=fo_ (a:=348) (ds:=[]) (by kernel_rfl) rfl (by kernel_rfl) (by kernel_rfl) (by kernel_rfl) .nil (bk0 rfl fun S v=>by kernel_rfl)
theorem f334:FO (cc w B mg mb) 334 fdx334:=fo_ (a:=355) (ds:=[]) (by kernel_rfl) rfl (by kernel_rfl) (by kernel_rfl) (by kernel_rfl) .nil (bk0 rfl fun S v=>by kernel_rfl)
theorem f335:FO (cc w B mg mb) 335 fdx335:=fo_ (a:=362) (ds:=[]) (by kernel_rfl) rfl (by kernel_rfl) (by kernel_rfl) (by kernel_rfl) .nil (bk0 rfl fun S v=>by kernel_rfl)
theorem f336:FO (cc w B mg mb) 336 fdx336:=fo_ (a:=369) (ds:=[]) (by kernel_rfl) rfl (by kernel_rfl) (by kernel_rfl) (by kernel_rfl) .nil (bk0 rfl fun S v=>by kernel_rfl)
theorem f399:FO (cc w B mg mb) 399 fdx399:=fo_ (a:=292) (ds:=[]) (by kernel_rfl) rfl (by kernel_rfl) (by kernel_rfl) (by kernel_rfl) .nil (bk0 rfl fun S v=>by kernel_rfl)
theorem fns_ (X:(KK w).In B):∀g d,fnT g=some d→FO (cc w B mg mb) g d:=lk (f16 w B mg mb) (lk (f19 w B mg mb) (lk (f21 w B mg mb) (lk (f22 w B mg mb) (lk (f23 w B mg mb) (lk (f24 w B mg mb) (lk (f25 w B mg mb) (lk (f26 w B mg mb) (lk (f27 w B mg mb) (lk (f28 w B mg mb) (lk (f29 w B mg mb) (lk (f30 w B mg mb) (lk (f32 w B mg mb) (lk (f33 w B mg mb) (lk (f34 w B mg mb) (lk (f35 w B mg mb) (lk (f36 w B mg mb) (lk (f37 w B mg mb) (lk (f38 w B mg mb) (lk (f39 w B mg mb) (lk (f40 w B mg mb) (lk (f41 w B mg mb) (lk (f42 w B mg mb) (lk (f43 w B mg mb) (lk (f46 w B mg mb) (lk (f47 w B mg mb) (lk (f90 w B mg mb) (lk (f199 w B mg mb X) (lk (f211 w B mg mb) (lk (f212 w B mg mb) (lk (f213 w B mg mb) (lk (f214 w B mg mb) (lk (f215 w B mg mb) (lk (f216 w B mg mb) (lk (f217 w B mg mb) (lk (f218 w B mg mb) (lk (f219 w B mg mb) (lk (f220 w B mg mb) (lk (f221 w B mg mb) (lk (f222 w B mg mb) (lk (f223 w B mg mb) (lk (f299 w B mg mb) (lk (f326 w B mg mb) (lk (f327 w B mg mb) (lk (f328 w B mg mb) (lk (f329 w B mg mb) (lk (f330 w B mg mb) (lk (f331 w B mg mb) (lk (f332 w B mg mb) (lk (f333 w B mg mb) (lk (f334 w B mg mb) (lk (f335 w B mg mb) (lk (f336 w B mg mb) (lk (f399 w B mg mb) (lkn))))))))))))))))))))))))))))))))))))))))))))))))))))))
theorem gl10_l:(rl.map Char.toNat==resL)=true:=by kernel_rfl
theorem gl10_s:(H.resv.cps.toList==resL)=true:=by
 rw[show H.resv=Str.ofString rs from rfl,rs_eq,Fast.ofString_ofList]
 exact gl10_l
theorem k_gn:(glG.all fun g=>(fnAT g).any fun a=>nsIn (KK w) mainGlobals (gnT g)==some (some (.ref a)))=true:=by kernel_rfl
section
variable (X:(KK w).In B)(G:B.Ns mainGlobals mg)
include X G
theorem k_4:GO (cc w B mg mb) 4 ((glT 4).getD .none):=go_d (a:=132) (t:=347) (n:=11) X G (by kernel_rfl) (by kernel_rfl) (by kernel_rfl) (by kernel_rfl) (by kernel_rfl)
theorem k_5:GO (cc w B mg mb) 5 ((glT 5).getD .none):=go_d (a:=238) (t:=528) (n:=6) X G (by kernel_rfl) (by kernel_rfl) (by kernel_rfl) (by kernel_rfl) (by kernel_rfl)
theorem k_6:GO (cc w B mg mb) 6 ((glT 6).getD .none):=go_t (a:=239) (t:=547) X G (by kernel_rfl) (by kernel_rfl) (by kernel_rfl)
theorem k_7:GO (cc w B mg mb) 7 ((glT 7).getD .none):=go_d (a:=240) (t:=552) (n:=5) X G (by kernel_rfl) (by kernel_rfl) (by kernel_rfl) (by kernel_rfl) (by kernel_rfl)
theorem k_8:GO (cc w B mg mb) 8 ((glT 8).getD .none):=go_d (a:=241) (t:=568) (n:=3) X G (by kernel_rfl) (by kernel_rfl) (by kernel_rfl) (by kernel_rfl) (by kernel_rfl)
theorem k_9:GO (cc w B mg mb) 9 ((glT 9).getD .none):=go_t (a:=242) (t:=578) X G (by kernel_rfl) (by kernel_rfl) (by kernel_rfl)
theorem k_15:GO (cc w B mg mb) 15 ((glT 15).getD .none):=go_t (a:=600) (t:=1038) X G (by kernel_rfl) (by kernel_rfl) (by kernel_rfl)
theorem k_10:GO (cc w B mg mb) 10 (.str resL):=go_ X G (x:=.str H.resv 768) (by kernel_rfl) (str_ gl10_s)
theorem k_11:GO (cc w B mg mb) 11 (.int 20):=go_ X G (x:=.int 20 447) (by kernel_rfl) (.int _ _)
theorem k_12:GO (cc w B mg mb) 12 (.int 20):=go_ X G (x:=.int 20 526) (by kernel_rfl) (.int _ _)
theorem k_gb (g:Nat)(hg:g∈glG):GO (cc w B mg mb) g (.base g):=by
 obtain⟨a,h1,h2⟩:=any_some (List.all_eq_true.mp (k_gn w) g hg)
 exact go_ X G (eq_of_beq h2) (.base h1)
theorem gls_:∀g v,glT g=some v→GO (cc w B mg mb) g v:=lk (k_4 w B mg mb X G) (lk (k_5 w B mg mb X G) (lk (k_6 w B mg mb X G) (lk (k_7 w B mg mb X G) (lk (k_8 w B mg mb X G) (lk (k_9 w B mg mb X G) (lk (k_10 w B mg mb X G) (lk (k_11 w B mg mb X G) (lk (k_12 w B mg mb X G) (lk (k_15 w B mg mb X G) (lkm (k_gb w B mg mb X G)))))))))))
end
end
section
variable (w:World)
theorem k_c1:ClsF (KK w) 595 585:=⟨by kernel_rfl,by kernel_rfl,by kernel_rfl,by kernel_rfl,by kernel_rfl,by kernel_rfl,by kernel_rfl,by kernel_rfl,by kernel_rfl⟩
theorem k_c2:ClsF (KK w) 565 411:=⟨by kernel_rfl,by kernel_rfl,by kernel_rfl,by kernel_rfl,by kernel_rfl,by kernel_rfl,by kernel_rfl,by kernel_rfl,by kernel_rfl⟩
theorem k_c3:ClsF (KK w) 372 292:=⟨by kernel_rfl,by kernel_rfl,by kernel_rfl,by kernel_rfl,by kernel_rfl,by kernel_rfl,by kernel_rfl,by kernel_rfl,by kernel_rfl⟩
inductive CI (K:Frag)(g C:Nat):Prop
 |mk (k fI:Nat)(h1:initT g=some k)(h2:fnAT k=some fI)(F:ClsF K C fI)
theorem cls_ {g C:Nat}(h4:g<4)(h0:g≠0)(e:fnAT g=some C):CI (KK w) g C:=by
 induction g using Nat.casesAuxOn with
 |zero=>exact absurd rfl h0
 |succ g=>induction g using Nat.casesAuxOn with
  |zero=>exact oi e▸⟨199,585,rfl,rfl,k_c1 w⟩
  |succ g=>induction g using Nat.casesAuxOn with
   |zero=>exact oi e▸⟨299,411,rfl,rfl,k_c2 w⟩
   |succ g=>induction g using Nat.casesAuxOn with
    |zero=>exact oi e▸⟨399,292,rfl,rfl,k_c3 w⟩
    |succ g=>exact absurd h4 (Nat.not_lt.mpr (Nat.le_add_left 4 g))
theorem k_mth:(mthL.all fun p=>(fnAT p.1.1).all fun C=>(fnAT p.2).any fun a=>plainGet (KK w) C (anT p.1.2)&&findIn (KK w) (.ref C) (anT p.1.2)==some (some (.ref a))&&isFn (KK w) (.ref a))=true:=by kernel_rfl
theorem k_keep:(fnAL.all fun p=>keepIn (KK w) (.ref p.2))=true:=by kernel_rfl
theorem k_bi:(biL.all fun p=>nsIn (KK w) mainGlobals p.2.1==some none&&bootBuiltins p.2.1==some p.2.2&&!(p.2.1==("__name__" : PySem.Str)))=true:=by kernel_rfl
theorem an_inj (f g:Nat)(hf:f<40)(hg:g<40)(e:anT f=anT g):f=g:=(show ∀f,f<40→∀g,g<40→anT f=anT g→f=g by decide +kernel) f hf g hg e
noncomputable def cdE:ClassData:=(clsIn (KK w) 72).get (by kernel_rfl)
noncomputable def oE:Obj:=((KK w).lookup 72).get (by kernel_rfl)
theorem k_eo:(KK w).lookup 72=some ⟨(oE w).cls,(oE w).dict,.cls (cdE w),(oE w).slots⟩:=by kernel_rfl
theorem k_ec (h:Heap)(X:(KK w).In h):ExcC (model H.P0 w) h 72:=⟨⟨_,_,_,_,X _ _ (k_eo w),by kernel_rfl,by kernel_rfl,by kernel_rfl⟩,.of_peek X (by kernel_rfl),.of_peek X (by kernel_rfl),looks_mroIn X (by kernel_rfl),looks_mroIn X (by kernel_rfl),looks_mroIn X (by kernel_rfl),looks_mroIn X (by kernel_rfl),looks_specialIn X (by kernel_rfl),looks_instIn X (by kernel_rfl)⟩
theorem k_es {n:PySem.Str}(h:takerIn (KK w) 72 n=some none):ExcSt (KK w) 72 n:=⟨⟨cdE w,by kernel_rfl,by kernel_rfl,by kernel_rfl,by kernel_rfl,exc_refuse (C:=72) (D:=47) (by kernel_rfl)⟩,by kernel_rfl,h⟩
theorem k_ga:findIn (KK w) (.ref 72) "__getattribute__" = some (some (.builtin "BaseException.__getattribute__"))∧findIn (KK w) (.ref 72) "__getattr__" = some none∧(clsIn (KK w) 72).any (fun cd=>cd.mro.contains (.type "BaseException"))=true∧hasDictIn (KK w) 72=true:=⟨by kernel_rfl,by kernel_rfl,by kernel_rfl,by kernel_rfl⟩
theorem k_eat:((List.range 11).all fun f=>findIn (KK w) (.ref 72) (anT f)==some none)=true:=by kernel_rfl
theorem k_ety:typeIn (KK w) (.ref 72)=some (.type "type"):=by kernel_rfl
theorem k_exm:exmOne (KK w) (.ref 72) (.ref 72)=some true:=by kernel_rfl
noncomputable abbrev rI:FnR:=rOf (KK w) aInit []
variable (B:Heap)(mg mb:PySem.Str→Option Value)
theorem k_in:InitFn (cc w B mg mb) aInit (rI w):=by
 refine⟨by kernel_rfl,by kernel_rfl,by kernel_rfl,by kernel_rfl,by kernel_rfl,fun x hx e=>?_,by kernel_rfl,by kernel_rfl,by kernel_rfl,by kernel_rfl,⟨(pz 142593),(pz 142602),(pz 145134),(pz 145938),(pz 142614),(pz 142614),(pz 160277),(pz 160282),(pz 161885),(pz 160289),(pz 177966),(pz 177969),(pz 179304),(pz 177974),by kernel_rfl,by kernel_rfl⟩,fun s a b d X=>kp_binds X fun S=>by kernel_rfl⟩
 exact absurd e (of_decide_eq_true (List.all_eq_true.mp (show((rI w).scope.names.all fun x=>decide (x.2≠.cell))=true by kernel_rfl) x hx))
noncomputable def LO (k:Nat)(I:LamI):Prop:=(∃x,lamT k=some x∧LamOK (cc w B mg mb) k I x)∧(∀env,defaultsOf I.params env=([],[]))∧I.tab∈tabAT∧codeHdIn (KK w) I.tab.1 I.tab.2=true∧(I.scope.names.map (·.1)).Nodup∧k<3∧I.tab=tabAT.getD k (0,0)
theorem no_own {s:Scope}(h:(lamL (KK w)).all (fun p=>decide (p.2.owner≠s))=true)(k:Nat)(I:LamI)(e:look (lamL (KK w)) k=some I):I.owner≠s:=of_decide_eq_true (List.all_eq_true.mp h _ (look_mem e))
theorem k_l0:LO w B mg mb 0 (lamPrim (rOf (KK w) aPrim [])):=⟨⟨_,rfl,⟨60,lam_0.1.nm,by kernel_rfl,by kernel_rfl,of_decide_eq_true (by kernel_rfl),of_decide_eq_true (by kernel_rfl),of_decide_eq_true (by kernel_rfl),of_decide_eq_true (by kernel_rfl),by intro l cl pm cdv ct e;obtain⟨a,rfl⟩:=List.length_eq_one_iff.mp e;kernel_rfl⟩,rfl,rfl,rfl,of_decide_eq_true (by kernel_rfl),no_own w (by kernel_rfl)⟩,fun _=>rfl,of_decide_eq_true (by kernel_rfl),by kernel_rfl,of_decide_eq_true (by kernel_rfl),by decide,rfl⟩
theorem k_l1:LO w B mg mb 1 (lamCond (rOf (KK w) aCond [])):=⟨⟨_,rfl,⟨60,lam_1.1.nm,by kernel_rfl,by kernel_rfl,of_decide_eq_true (by kernel_rfl),of_decide_eq_true (by kernel_rfl),of_decide_eq_true (by kernel_rfl),of_decide_eq_true (by kernel_rfl),by intro l cl pm cdv ct e;obtain⟨a,b,rfl⟩:=two_ e;kernel_rfl⟩,rfl,rfl,rfl,of_decide_eq_true (by kernel_rfl),no_own w (by kernel_rfl)⟩,fun _=>rfl,of_decide_eq_true (by kernel_rfl),by kernel_rfl,of_decide_eq_true (by kernel_rfl),by decide,rfl⟩
theorem k_l2:LO w B mg mb 2 (lamLaw (rOf (KK w) aLaw [])):=⟨⟨_,rfl,⟨60,lam_2.1.nm,by kernel_rfl,by kernel_rfl,of_decide_eq_true (by kernel_rfl),of_decide_eq_true (by kernel_rfl),of_decide_eq_true (by kernel_rfl),of_decide_eq_true (by kernel_rfl),by intro l cl pm cdv ct e;obtain⟨a,b,rfl⟩:=two_ e;kernel_rfl⟩,rfl,rfl,rfl,of_decide_eq_true (by kernel_rfl),no_own w (by kernel_rfl)⟩,fun _=>rfl,of_decide_eq_true (by kernel_rfl),by kernel_rfl,of_decide_eq_true (by kernel_rfl),by decide,rfl⟩
theorem lams:∀k I,look (lamL (KK w)) k=some I→LO w B mg mb k I:=lk (k_l0 w B mg mb) (lk (k_l1 w B mg mb) (lk (k_l2 w B mg mb) lkn))
variable (X:(KK w).In B)(Tp:TopL mg mb B)(hmb:∀x:PySem.Str,x ≠ "__name__" → mb x=bootBuiltins x)
include X Tp
theorem k_P (hmb:∀x:PySem.Str,x ≠ "__name__" → mb x=bootBuiltins x):Prog (cc w B mg mb) where
 XK:=X
 T:=Tp
 inj:=an_inj
 gl:=gls_ w B mg mb X Tp.g
 attr g C h4 h0 hC f hf:=by
  obtain⟨_,_,_,_,F⟩:=cls_ w h4 h0 hC
  exact⟨F.pg _,F.hd,none,F.fi hf,rfl⟩
 attr0 C hC f hf:=by
  obtain rfl:72=C:=oi hC
  exact⟨(k_ga w).1,(k_ga w).2.1,(k_ga w).2.2.1,(k_ga w).2.2.2,none,eq_of_beq (le10 (k_eat w) hf),rfl⟩
 lam k I hI:=have h:=(lams w B mg mb k I hI).2;⟨h.1,h.2.1,codeHd_of_K X h.2.2.1,h.2.2.2.1⟩
 lamu k I k' I' hI hI' e:=by
  have h:=(lams w B mg mb k I hI).2.2.2.2.2
  have h':=(lams w B mg mb k' I' hI').2.2.2.2.2
  rw[h.2,h'.2]at e
  exact(show ∀k,k<3→∀k',k'<3→tabAT.getD k (0,0)=tabAT.getD k' (0,0)→k=k' by decide) k h.1 k' h'.1 e
 bi b y h:=by
  have h:=Bool.and_eq_true_iff.mp (List.all_eq_true.mp (k_bi w) _ (look_mem h))
  have h1:=Bool.and_eq_true_iff.mp h.1
  exact⟨ns_none_of X Tp.g (eq_of_beq h1.1),(hmb _ (fun e=>by have h2:=h.2;rw[e]at h2;exact absurd h2 (by decide))).trans (eq_of_beq h1.2)⟩
theorem k_ex (hmb:∀x:PySem.Str,x ≠ "__name__" → mb x=bootBuiltins x):ExcOK (cc w B mg mb) where
 ok C hC:=by
  obtain rfl:72=C:=oi hC
  exact⟨k_ec w,k_es w (by kernel_rfl),k_es w (by kernel_rfl),aInit,rI w,by kernel_rfl,by kernel_rfl,k_in w B mg mb⟩
 mg:=ns_none_of X Tp.g (by kernel_rfl)
 mb:=(hmb _ (by decide)).trans (by kernel_rfl)
 a10:=rfl
 a1:=rfl
theorem k_P3 (hmb:∀x:PySem.Str,x ≠ "__name__" → mb x=bootBuiltins x):Prog3 (cc w B mg mb) where
 toProg:=k_P w B mg mb X Tp hmb
 fn g d h:=fns_ w B mg mb X g d h
 cls g k h0 h1:=by
  have hm:g∈[1,2,3]:=List.mem_map_of_mem (f:=(·.1)) (look_mem h1)
  have h2:=(show ∀g∈[1,2,3],g<4∧g≠0 by decide) g hm
  refine⟨h2.1,fun C hC=>?_⟩
  obtain⟨k',fI,e1,e2,F⟩:=cls_ w h2.1 h2.2 hC
  obtain rfl:=oi (e1.symm.trans h1)
  exact⟨fI,e2,F.mk1,F.it,F.fn⟩
 lamk k x hx:=by
  have hm:k∈[0,1,2]:=List.mem_map_of_mem (f:=(·.1)) (look_mem hx)
  have h2:(look (lamL (KK w)) k).isSome=true:=(show ∀k∈[0,1,2],(look (lamL (KK w)) k).isSome=true from of_decide_eq_true (by kernel_rfl)) k hm
  obtain⟨I,hI⟩:=Option.isSome_iff_exists.mp h2
  obtain⟨x',e,L⟩:=(lams w B mg mb k I hI).1
  obtain rfl:=oi (e.symm.trans hx)
  exact⟨I,hI,L⟩
 exc:=(k_ex w B mg mb X Tp hmb).mk'
 exc0:=⟨rfl,rfl⟩
 keepF g a h:=List.all_eq_true.mp (k_keep w) _ (look_mem h)
 meth C C' f k h4 hm hC:=by
  have h:=List.all_eq_true.mp (k_mth w) _ (look2_mem hm)
  rw[show fnAT ((C,f),k).1.1=some C' from hC]at h
  obtain⟨a,h1,h⟩:=any_some h
  have h:=Bool.and_eq_true_iff.mp h
  have h2:=Bool.and_eq_true_iff.mp h.1
  exact⟨a,h1,h2.1,eq_of_beq h2.2,h.2⟩
 fld C C' f h4 h0 hC hf:=by
  obtain⟨_,_,_,_,F⟩:=cls_ w h4 h0 hC
  exact⟨F.pg _,F.ga,F.gg,none,F.fi hf,rfl⟩
 sta C C' f h4 h0 hC hf:=by
  obtain⟨_,_,_,_,F⟩:=cls_ w h4 h0 hC
  exact⟨F.sa,F.po,F.tk hf,F.hd⟩
 exct C hC:=by
  obtain rfl:72=C:=oi hC
  exact⟨k_ety w,k_exm w,mg_of X Tp.g (by kernel_rfl)⟩
 an37:=by kernel_rfl
 an38:=by kernel_rfl
 an39:=by kernel_rfl
end
end Mine
end
section
namespace Mine
open PySem PySem.W PyProof.Rows PySem.W.X PySem.W.ZRun
theorem tab_f (w:World):TabF (H.K w.params):=⟨4,by kernel_rfl,by decide,by kernel_rfl,List.forall_mem_cons.mpr ⟨by kernel_rfl,List.forall_mem_cons.mpr ⟨by kernel_rfl,List.forall_mem_cons.mpr ⟨by kernel_rfl,fun _ h=>nomatch h⟩⟩⟩⟩
theorem fa_in (P:Params):nsIn (H.K P) mainGlobals H.R.row.name=some (some (.ref 654)):=by kernel_rfl
theorem cw01:L.Holds:=by
 w_on
 refine holds_law Mine.said fun said=>?_
 refine holds_openX (r:=L.row) (q:=H.view) (loose:=H.loose) (Xt:=H.Xt) (XP:=XL H.view []) (Yf:=X.obsZ H.as) (Ya:=X.valZ H.K 655 1126) (d:=H.dd.1) (kwd:=[]) (N:=9000) H.left (fun s e=>xl_of s (Bool.and_eq_true_iff.mp e).1) XL.keeps H.hdef H.hp H.hk (fun s e=>recFacts_of (Bool.and_eq_true_iff.mp e).2) rfl said (Bool.and_eq_true_iff.mpr ⟨Bool.and_eq_true_iff.mpr ⟨H.hch,H.how⟩,H.hfr⟩) H.hbare ?hw ?hc
 (case hw=>w_witness2)
 intro w s₀ s₁ mg mb G y fa o pm cd doc dV kV ho hd hcd hD hmg hg args vals as L hpre hlay hrd hwl hlo
 obtain⟨-,ZI,ZN,ZT⟩:=X.z_facts H.as_eq y
 have KX:(H.K w.params).In s₁.heap:=InK.keeps w s₀.heap s₁.heap ZI L.keeps
 clear ZI y
 refine Ground.open G ?_
 intro T B D TE TW
 clear hd hcd hD ho
 have hfa:fa=654:=by
  have e:=mg_of KX T.g (fa_in w.params)
  exact Value.ref.inj (Option.some.inj (hmg.symm.trans e))
 subst hfa
 clear hmg G D TE TW B
 wrow_args hpre hlay hrd hwl hlo
 obtain⟨hat,hsz⟩:=script_at L
 have htk:=script_toks L ZT
 rw[ZN]at hat hsz
 subst hat
 rename IntsAre _ _=>hI
 rename Heap.IsList _ _ _=>hL
 have hobj:=script_obj L hL
 rename ¬_<_=>hh
 obtain⟨σ,hr⟩:=Mine.Pu.law01 (Int.ofNat_le.mp (Int.not_lt.mp hh))
 refine wpAny_mono (law_goes (w:=w) KX ⟨T.g,T.b,T.nolimit,T.bmain⟩ (tab_f w) (fun B X Tp=>k_P3 w B mg mb X Tp T.builtins) hobj hI (n:=479) (by decide) hr (by decide) (by decide)) (fun v s' h=>?_) (fun e s' h=>h.elim)
 ·obtain⟨rfl,h1,h2,h3⟩:=h
  exact⟨.inl ⟨_,_,[],rfl,fun _=>rfl,ReadsW.bool true,by first | rfl | wrow_post,fun _=>⟨List.nodup_nil,fun _ hm=>(nomatch hm)⟩⟩,h1,h2,.of_eq (h3.trans hg)⟩
end Mine
end
set_option maxRecDepth 100000 in
set_option maxHeartbeats 8000000 in
theorem PySem.Challenge.cw_pc0147_01_holds : PySem.Challenge.rw_pc0147_01.Holds := by
 exact Mine.cw01
